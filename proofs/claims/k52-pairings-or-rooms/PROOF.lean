import PyProof.Rows.All
import Wide.All
import OpenK.AllK
import Wide.FinOn
import KE.KStateDown
import HandS.ForMost
import HandS.ExcCtx
import HandS.HotCalls
import HandS.CallSlots
import HandS.IsInst
import HandS.ExcField
import HandS.ExcIs
import HandS.Wide
import HandS.TupAny
import HandS.Flow
import HandS.SortInts
import HandS.WideBits
import HandS.HeadHook1
import HandS.Strs
import HandS.Defaults
import HandS.HeadHook2
import KE.KExcSuper
import KE.KSuperObj
import KE.KSuper
import HandS.ExcInit
import HandS.CallLocal
import HandS.BoundList
import PyProof.MeetsSeq
import PyProof.EqAt
import PyProof.DictKinds
import PyProof.Dict
import HandS.HeadHook4
import HandS.Ends
import HandS.EndBits
import HandS.HeadEnd
import HandS.Zip
import HandS.HeadHook3
import HandS.Deep
import HandS.Dict
import HandS.WordsDict
import HandS.TryMany
import HandS.Iter
import HandS.TupMul
import HandS.Conv
import HandS.ReCall
import KE.GoesMore
import KE.GoesEnum
import HandS.Words
import HandS.Head0
import HandS.Head1
import HandS.Head2
import HandS.Head3
import Wide.Once
import PySem.Challenge.RW_madeorbarred_k52_pairings_or_rooms
set_option Elab.async false
set_option linter.all false
set_option maxRecDepth 100000
set_option maxHeartbeats 0
/-! A layer by values with a store: what a def's body computes, as a plain function over data trees and a list of cells that may change. -/
namespace MB
open PySem PySem.Spec PyProof.Rows L2
abbrev Fg := PySem.W.Frag
abbrev St := L2.St
structure Kw where
  K : Fg
  w : World
/-- what never changes, and where the cells stand -/
structure Fz where
  h : Hp
  th : List Addr
structure FSame (z z' : Fz) : Prop where
  h : Same z.h z'.h
  th : z.th <+: z'.th
theorem FSame.refl (z : Fz) : FSame z z := ⟨Same.refl _, List.prefix_refl _⟩
theorem FSame.trans {a b c : Fz} (x : FSame a b) (y : FSame b c) : FSame a c := ⟨x.h.trans y.h, x.th.trans y.th⟩

/-! ### data -/
inductive D where
  | non | bl (b : Bool) | int (i : Int) | str (x : Str) | tup (xs : List D) | lst (xs : List D) | fn (x : Str) | scr (ns : List Int) | dct (ks : List L2.Key) (ds : List D) | obj (C : Str) (fs : List Str) (ds : List D) | ce (n : Nat) | tpx (xs : List D)
/-- a tuple whose object is known to carry no dict -/
def SqB (K : Fg) (H : Hp) (a : Addr) (xs : List V) : Prop :=
  (∃ o : Obj, H a = some (.frz o (.tup xs)) ∧ o.dict = none) ∨
    ∃ (o : Obj) (its : Array Value) (n : Nat), K.lookup a = some o ∧ o.dict = none ∧ o.cls = .type "tuple" ∧ o.data = .seq its n ∧ its.size ≤ sizeLine ∧ Vals xs its.toList
theorem SqB.sq {K : Fg} {H : Hp} {a : Addr} {xs : List V} (h : SqB K H a xs) : SqT K H a xs := by
  rcases h with ⟨o, h, _⟩ | ⟨o, its, n, h1, _, h2⟩
  · exact .inl (.inr ⟨o, h⟩)
  · exact .inr ⟨o, its, n, h1, h2⟩
theorem SqB.mono {K : Fg} {H H' : Hp} (s : Same H H') {a : Addr} {xs : List V} (h : SqB K H a xs) : SqB K H' a xs := by
  rcases h with ⟨o, h, d⟩ | h
  · exact .inl ⟨o, s _ _ h, d⟩
  · exact .inr h

mutual
inductive DV (K : Kw) (z : Fz) : V → D → Prop
  | non : DV K z .non .non
  | bl (b : Bool) : DV K z (.bl b) (.bl b)
  | int (i : Int) : DV K z (.int i) (.int i)
  | str (x : Str) : DV K z (.str x) (.str x)
  | tpx {a : Addr} {vs : List V} {ds : List D} : SqT K.K z.h a vs → DVs K z vs ds → DV K z (.ref a) (.tpx ds)
  | tup {a : Addr} {vs : List V} {ds : List D} : SqB K.K z.h a vs → DVs K z vs ds → DV K z (.ref a) (.tup ds)
  | lst {a : Addr} {vs : List V} {ds : List D} : z.h a = some (.lst vs) → DVs K z vs ds → DV K z (.ref a) (.lst ds)
  | fn (x : Str) : DV K z (.ref (He.ga K.K x)) (.fn x)
  | scr {a : Addr} {ns : List Int} : SqL K.K z.h a (ns.map V.int) → DV K z (.ref a) (.scr ns)
  | dct {a : Addr} {ks : List L2.Key} {vs : List V} {ds : List D} : z.h a = some (.dK (ks.zip vs)) → vs.length = ks.length → DVs K z vs ds → DV K z (.ref a) (.dct ks ds)
  | obj {a dx : Addr} {C : Str} {fs : List Str} {vs : List V} {ds : List D} : z.h a = some (.ins (He.ga K.K C) dx (fs.zip vs)) → vs.length = fs.length → DVs K z vs ds → DV K z (.ref a) (.obj C fs ds)
  | ce {a : Addr} {n : Nat} : z.th[n]? = some a → DV K z (.ref a) (.ce n)
inductive DVs (K : Kw) (z : Fz) : List V → List D → Prop
  | nil : DVs K z [] []
  | cons {v : V} {vs : List V} {d : D} {ds : List D} : DV K z v d → DVs K z vs ds → DVs K z (v :: vs) (d :: ds)
end

theorem sqT_mono {K : Fg} {H H' : Hp} (s : Same H H') {a : Addr} {xs : List V} (h : SqT K H a xs) : SqT K H' a xs := by
  rcases h with (h | ⟨o, h⟩) | h
  · exact .inl (.inl (s _ _ h))
  · exact .inl (.inr ⟨o, s _ _ h⟩)
  · exact .inr h
theorem pre_get {l m : List Addr} (h : l <+: m) {n : Nat} {a : Addr} (e : l[n]? = some a) : m[n]? = some a := by
  obtain ⟨t, rfl⟩ := h
  rw [List.getElem?_append_left (List.getElem?_eq_some_iff.mp e).1]
  exact e
section
variable {K : Kw} {z z' : Fz}
mutual
theorem DV.mono (s : FSame z z') : ∀ (d : D) (v : V), DV K z v d → DV K z' v d
  | .non, _, h => by cases h; exact .non
  | .bl b, _, h => by cases h; exact .bl b
  | .int i, _, h => by cases h; exact .int i
  | .str x, _, h => by cases h; exact .str x
  | .fn x, _, h => by cases h; exact .fn x
  | .scr ns, _, h => by
    cases h with
    | scr a => exact .scr (s.h.seq a)
  | .tup ds, _, h => by
    cases h with
    | tup a b => exact .tup (a.mono s.h) (DVs.mono s ds _ b)
  | .tpx ds, _, h => by
    cases h with
    | tpx a b => exact .tpx (sqT_mono s.h a) (DVs.mono s ds _ b)
  | .lst ds, _, h => by
    cases h with
    | lst a b => exact .lst (s.h _ _ a) (DVs.mono s ds _ b)
  | .dct ks ds, _, h => by
    cases h with
    | dct a e b => exact .dct (s.h _ _ a) e (DVs.mono s ds _ b)
  | .obj C fs ds, _, h => by
    cases h with
    | obj a e b => exact .obj (s.h _ _ a) e (DVs.mono s ds _ b)
  | .ce n, _, h => by
    cases h with
    | ce a => exact .ce (pre_get s.th a)
theorem DVs.mono (s : FSame z z') : ∀ (ds : List D) (vs : List V), DVs K z vs ds → DVs K z' vs ds
  | [], _, h => by cases h; exact .nil
  | d :: ds, _, h => by
    cases h with
    | cons a b => exact .cons (DV.mono s d _ a) (DVs.mono s ds _ b)
end
theorem DVs.length : ∀ {vs : List V} {ds : List D}, DVs K z vs ds → vs.length = ds.length
  | _, _, .nil => rfl
  | _, _, .cons _ t => by simp [DVs.length t]
theorem DVs.get : ∀ {vs : List V} {ds : List D}, DVs K z vs ds → ∀ {i : Nat} {d : D}, ds[i]? = some d → ∃ v, vs[i]? = some v ∧ DV K z v d
  | _, _, .nil, i, d, e => by simp at e
  | _, _, .cons a t, 0, d, e => by simp at e; subst e; exact ⟨_, rfl, a⟩
  | _, _, .cons a t, i + 1, d, e => by
    obtain ⟨v, h1, h2⟩ := DVs.get t (i := i) (d := d) (by simpa using e)
    exact ⟨v, by simpa using h1, h2⟩
theorem DVs.get' : ∀ {vs : List V} {ds : List D}, DVs K z vs ds → ∀ {i : Nat} {v : V}, vs[i]? = some v → ∃ d, ds[i]? = some d ∧ DV K z v d
  | _, _, .nil, i, d, e => by simp at e
  | _, _, .cons a t, 0, d, e => by simp at e; subst e; exact ⟨_, rfl, a⟩
  | _, _, .cons a t, i + 1, d, e => by
    obtain ⟨v, h1, h2⟩ := DVs.get' t (i := i) (v := d) (by simpa using e)
    exact ⟨v, by simpa using h1, h2⟩
theorem DVs.append : ∀ {vs ws : List V} {ds es : List D}, DVs K z vs ds → DVs K z ws es → DVs K z (vs ++ ws) (ds ++ es)
  | _, _, _, _, .nil, t => t
  | _, _, _, _, .cons a r, t => .cons a (DVs.append r t)
theorem DVs.take : ∀ {vs : List V} {ds : List D} (n : Nat), DVs K z vs ds → DVs K z (vs.take n) (ds.take n)
  | _, _, 0, _ => by simpa using DVs.nil
  | _, _, n + 1, .nil => .nil
  | _, _, n + 1, .cons a t => .cons a (DVs.take n t)
theorem DVs.drop : ∀ {vs : List V} {ds : List D} (n : Nat), DVs K z vs ds → DVs K z (vs.drop n) (ds.drop n)
  | _, _, 0, h => h
  | _, _, n + 1, .nil => .nil
  | _, _, n + 1, .cons a t => DVs.drop n t
theorem DVs.set : ∀ {vs : List V} {ds : List D} (n : Nat) {v : V} {d : D}, DV K z v d → DVs K z vs ds → DVs K z (vs.set n v) (ds.set n d)
  | _, _, _, _, _, _, .nil => .nil
  | _, _, 0, _, _, h, .cons a t => .cons h t
  | _, _, n + 1, _, _, h, .cons a t => .cons a (DVs.set n h t)
theorem DVs.erase : ∀ {vs : List V} {ds : List D} (n : Nat), DVs K z vs ds → DVs K z (vs.eraseIdx n) (ds.eraseIdx n)
  | _, _, _, .nil => .nil
  | _, _, 0, .cons a t => t
  | _, _, n + 1, .cons a t => .cons a (DVs.erase n t)
theorem DVs.ints : ∀ {vs : List V} {ns : List Int}, DVs K z vs (ns.map D.int) → vs = ns.map V.int
  | vs, [], h => by cases h; rfl
  | vs, n :: ns, h => by
    cases h with
    | cons a t => cases a; rw [DVs.ints t]; rfl
theorem DVs.of_ints : ∀ (ns : List Int), DVs K z (ns.map V.int) (ns.map D.int)
  | [] => .nil
  | n :: ns => .cons (.int n) (DVs.of_ints ns)
end

/-! ### the heap without the live cells -/
structure Ow where
  th : List Addr
  l : List Addr
  hid : List Addr
instance : Membership Addr Ow := ⟨fun O a => a ∈ O.l⟩
def wo (O : Ow) (H : Hp) : Fz := ⟨fun a => if a ∈ O.l then none else H a, O.th⟩
theorem wo_same (O : Ow) (H : Hp) : Same (wo O H).h H := fun a o h => by
  have h' : (if a ∈ O.l then none else H a) = some o := h
  split at h'
  · cases h'
  · exact h'
/-- the whole heap -/
def al (O : Ow) (H : Hp) : Fz := ⟨H, O.th⟩
theorem wo_al (O : Ow) (H : Hp) : FSame (wo O H) (al O H) := ⟨wo_same O H, List.prefix_refl _⟩
theorem wo_mono {O : Ow} {H H' : Hp} (s : Same H H') : FSame (wo O H) (wo O H') := ⟨fun a o h => by
  have h' : (if a ∈ O.l then none else H a) = some o := h
  show (if a ∈ O.l then none else H' a) = some o
  split at h'
  · cases h'
  · rename_i n
    rw [if_neg n]
    exact s a o h', List.prefix_refl _⟩
theorem same_upd {H : Hp} {p : Addr} {o : HO} (h : H p = none) : Same H (upd H p o) := fun b x e => by
  rw [upd_ne (ne_of_none e h)]
  exact e
theorem wo_out {O : Ow} {H : Hp} {p : Addr} (h : p ∉ O) : (wo O H).h p = H p := by
  show (if p ∈ O.l then none else H p) = H p
  exact if_neg h

set_option autoImplicit false
/-! ### exceptions, cells, slots -/
structure Ex where
  c : Str
  fs : List (Str × D)
inductive DF (K : Kw) (z : Fz) : List (Str × V) → List (Str × D) → Prop
  | nil : DF K z [] []
  | cons {x : Str} {v : V} {d : D} {vs : List (Str × V)} {ds : List (Str × D)} : DV K z v d → DF K z vs ds → DF K z ((x, v) :: vs) ((x, d) :: ds)
theorem DF.mono {K : Kw} {z z' : Fz} (s : FSame z z') : ∀ {vs : List (Str × V)} {ds : List (Str × D)}, DF K z vs ds → DF K z' vs ds
  | _, _, .nil => .nil
  | _, _, .cons a t => .cons (DV.mono s _ _ a) (DF.mono s t)
theorem DF.look {K : Kw} {z : Fz} {x : Str} : ∀ {vs : List (Str × V)} {ds : List (Str × D)}, DF K z vs ds → ∀ {d : D}, ds.lookup x = some d → ∃ v, vs.lookup x = some v ∧ DV K z v d
  | _, _, .nil, d, e => by simp at e
  | _, _, .cons (x := y) a t, d, e => by
    rw [List.lookup_cons] at e ⊢
    cases q : (x == y) with
    | true =>
      rw [q] at e
      cases e
      exact ⟨_, rfl, a⟩
    | false =>
      rw [q] at e
      exact DF.look t e
/-- the exception with the class cls and the own dict dd is x -/
def ExOk (K : Kw) (z : Fz) (x : Ex) (cls : Value) (dd : Option Addr) : Prop :=
  cls = .ref (He.ga K.K x.c) ∧ ((x.fs = [] ∧ dd = none) ∨ ∃ (d : Addr) (vs : List (Str × V)), dd = some d ∧ z.h d = some (.xd vs) ∧ DF K z vs x.fs)
theorem ExOk.mono {K : Kw} {z z' : Fz} (s : FSame z z') {x : Ex} {cls : Value} {dd : Option Addr} (h : ExOk K z x cls dd) : ExOk K z' x cls dd := by
  obtain ⟨e, h | ⟨d, vs, e1, e2, e3⟩⟩ := h
  · exact ⟨e, .inl h⟩
  · exact ⟨e, .inr ⟨d, vs, e1, s.h _ _ e2, e3.mono s⟩⟩
/-- a dict's pairs -/
inductive DA {κ : Type} (K : Kw) (z : Fz) : List (κ × V) → List (κ × D) → Prop
  | nil : DA K z [] []
  | cons {k : κ} {v : V} {d : D} {vs : List (κ × V)} {ds : List (κ × D)} : DV K z v d → DA K z vs ds → DA K z ((k, v) :: vs) ((k, d) :: ds)
theorem DA.mono {κ : Type} {K : Kw} {z z' : Fz} (s : FSame z z') : ∀ {vs : List (κ × V)} {ds : List (κ × D)}, DA K z vs ds → DA K z' vs ds
  | _, _, .nil => .nil
  | _, _, .cons a t => .cons (DV.mono s _ _ a) (DA.mono s t)
/-- a thing that may change: a list, a dict of ints and texts, one of tuples of them, an instance, a set of ints -/
inductive Cn where
  | lst (ds : List D) | dct (kvs : List (L2.Key × D)) | dcT (kvs : List (List L2.Key × D)) | obj (C : Str) (fs : List (Str × D)) | set (ns : List Int)
abbrev Store := List (Option Cn)
/-- what stands at a cell's address -/
def CnOk (K : Kw) (z : Fz) (a : Addr) (o : HO) : Cn → Prop
  | .lst ds => ∃ vs, o = .lst vs ∧ DVs K z vs ds
  | .dct kvs => ∃ vs, o = .dK vs ∧ DA K z vs kvs
  | .dcT kvs => ∃ vs, o = .dT vs ∧ DA K z vs kvs
  | .obj C fs => ∃ dx vs, o = .ins (He.ga K.K C) dx vs ∧ DF K z vs fs
  | .set ns => o = SetO K.w a (fun j => decide (j ∈ ns)) ns.length
theorem CnOk.mono {K : Kw} {z z' : Fz} (s : FSame z z') {a : Addr} {o : HO} : ∀ {c : Cn}, CnOk K z a o c → CnOk K z' a o c
  | .lst ds, ⟨vs, e, h⟩ => ⟨vs, e, DVs.mono s _ _ h⟩
  | .dct kvs, ⟨vs, e, h⟩ => ⟨vs, e, h.mono s⟩
  | .dcT kvs, ⟨vs, e, h⟩ => ⟨vs, e, h.mono s⟩
  | .obj C fs, ⟨dx, vs, e, h⟩ => ⟨dx, vs, e, h.mono s⟩
  | .set ns, h => h
/-- the cells: live ones at their addresses -/
structure Ce (K : Kw) (O : Ow) (S : Store) (H : Hp) : Prop where
  ow : ∀ a, a ∈ O ↔ (∃ (n : Nat) (c : Cn), O.th[n]? = some a ∧ S[n]? = some (some c)) ∨ a ∈ O.hid
  hd : ∀ a ∈ O.hid, ∃ o, H a = some o
  dj : ∀ a ∈ O.hid, a ∉ O.th
  nd : O.th.Nodup
  ln : S.length = O.th.length
  ce : ∀ (n : Nat) (c : Cn) (a : Addr), S[n]? = some (some c) → O.th[n]? = some a → ∃ o, H a = some o ∧ CnOk K (wo O H) a o c
  al : ∀ a ∈ O.th, ∃ o, H a = some o
theorem Ce.dom {K : Kw} {O : Ow} {S : Store} {H : Hp} (h : Ce K O S H) : ∀ a ∈ O, ∃ o, H a = some o := fun a m => by
  rcases (h.ow a).mp m with ⟨n, c, e1, e2⟩ | m
  · obtain ⟨o, e, _⟩ := h.ce n c a e2 e1
    exact ⟨o, e⟩
  · exact h.hd a m
theorem Ce.out {K : Kw} {O : Ow} {S : Store} {H : Hp} (h : Ce K O S H) {p : Addr} (n : H p = none) : p ∉ O := fun m => by
  obtain ⟨o, e⟩ := h.dom p m
  rw [n] at e
  cases e
theorem Ce.grow {K : Kw} {O : Ow} {S : Store} {H H' : Hp} (h : Ce K O S H) (s : Same H H') : Ce K O S H' :=
  ⟨h.ow, fun a m => by
    obtain ⟨o, e⟩ := h.hd a m
    exact ⟨o, s _ _ e⟩, h.dj, h.nd, h.ln, fun n c a e1 e2 => by
    obtain ⟨o, e, k⟩ := h.ce n c a e1 e2
    exact ⟨o, s _ _ e, k.mono (wo_mono s)⟩, fun a m => by
    obtain ⟨o, e⟩ := h.al a m
    exact ⟨o, s _ _ e⟩⟩
/-- from one state to a later one: what never changes stands, what is hidden is as it was -/
structure Stp (O : Ow) (H : Hp) (O' : Ow) (H' : Hp) : Prop where
  fs : FSame (wo O H) (wo O' H')
  hid : O'.hid = O.hid
  hs : ∀ a ∈ O.hid, H' a = H a
theorem Stp.refl (O : Ow) (H : Hp) : Stp O H O H := ⟨FSame.refl _, rfl, fun _ _ => rfl⟩
theorem Stp.trans {O O' O2 : Ow} {H H' H2 : Hp} (x : Stp O H O' H') (y : Stp O' H' O2 H2) : Stp O H O2 H2 := ⟨x.fs.trans y.fs, y.hid.trans x.hid, fun a m => (y.hs a (by rw [x.hid]; exact m)).trans (x.hs a m)⟩
theorem Ce.stp {K : Kw} {O : Ow} {S : Store} {H H' : Hp} (h : Ce K O S H) (s : Same H H') : Stp O H O H' := ⟨wo_mono s, rfl, fun a m => by
  obtain ⟨o, e⟩ := h.hd a m
  rw [e]
  exact s a o e⟩
structure Fm where
  O : Ow
  H : Hp
/-- a slot: a value; the exception that is handled -/
inductive Sl where
  | val (d : D) | exc (x : Ex)
/-- the names' values, the store -/
structure En where
  sl : List (Option Sl)
  st : Store
instance : GetElem? En Nat (Option Sl) (fun ρ i => i < ρ.sl.length) where
  getElem ρ i h := ρ.sl[i]'h
  getElem? ρ i := ρ.sl[i]?
@[simp] theorem En.get_mk (l : List (Option Sl)) (S : Store) (i : Nat) : (En.mk l S)[i]? = l[i]? := rfl
theorem En.get_eq (ρ : En) (i : Nat) : ρ[i]? = ρ.sl[i]? := rfl
def En.set (ρ : En) (i : Nat) (x : Option Sl) : En := ⟨ρ.sl.set i x, ρ.st⟩
@[simp] theorem En.set_mk (l : List (Option Sl)) (S : Store) (i : Nat) (x : Option Sl) : (En.mk l S).set i x = ⟨l.set i x, S⟩ := rfl
/-- the handled exception: where, its class, its dict -/
structure Hx where
  ex : Option (Addr × Value × Option Addr) := none
def h0 : Hx := {}
def SlOk (K : Kw) (hx : Hx) (z : Fz) (v : V) : Sl → Prop
  | .val d => DV K z v d
  | .exc x => ∃ a cls dd, v = .ref a ∧ hx.ex = some (a, cls, dd) ∧ ExOk K z x cls dd
theorem SlOk.mono {K : Kw} {hx : Hx} {z z' : Fz} (s : FSame z z') {v : V} : ∀ {x : Sl}, SlOk K hx z v x → SlOk K hx z' v x
  | .val d, h => DV.mono s _ _ h
  | .exc x, ⟨a, cls, dd, e, m, h⟩ => ⟨a, cls, dd, e, m, h.mono s⟩
/-- slots, cells and heap are what the environment says; F: what stands all along -/
structure RO (K : Kw) (hx : Hx) (F : Fm) (ρ : En) (σ : MB.St) (H : Hp) (O : Ow) : Prop where
  fr : Stp F.O F.H O H
  ce : Ce K O ρ.st H
  len : ρ.sl.length = σ.length
  sl : ∀ (i : Nat) (x : Sl), ρ[i]? = some (some x) → ∃ v, σ[i]? = some (some v) ∧ SlOk K hx (wo O H) v x
def Rl (K : Kw) (hx : Hx) (F : Fm) (ρ : En) (σ : MB.St) (H : Hp) : Prop := ∃ O, RO K hx F ρ σ H O
def RV (K : Kw) (hx : Hx) (F : Fm) (ρ : En) (σ : MB.St) (H : Hp) (v : V) (d : D) : Prop := ∃ O, RO K hx F ρ σ H O ∧ DV K (wo O H) v d
def RX (K : Kw) (hx : Hx) (F : Fm) (ρ : En) (σ : MB.St) (H : Hp) (x : Ex) (cls : Value) (dd : Option Addr) : Prop := ∃ O, RO K hx F ρ σ H O ∧ ExOk K (wo O H) x cls dd
theorem getset {α : Type} {l : List α} {i m : Nat} {x y : α} (h : (l.set i x)[m]? = some y) : (m = i ∧ y = x ∧ i < l.length) ∨ (m ≠ i ∧ l[m]? = some y) := by
  by_cases hm : m = i
  · subst hm
    rw [List.getElem?_set_self'] at h
    cases q : l[m]? with
    | none => rw [q] at h; cases h
    | some z =>
      rw [q] at h
      have h' : some x = some y := h
      exact .inl ⟨rfl, (Option.some.inj h').symm, (List.getElem?_eq_some_iff.mp q).1⟩
  · rw [List.getElem?_set_ne (Ne.symm hm)] at h
    exact .inr ⟨hm, h⟩
section
variable {K : Kw} {hx : Hx} {F F' : Fm} {H H' : Hp} {ρ : En} {σ : MB.St} {O : Ow}
theorem RO.dom (r : RO K hx F ρ σ H O) : ∀ a ∈ O, ∃ o, H a = some o := r.ce.dom
theorem RO.grow (r : RO K hx F ρ σ H O) (s : Same H H') : RO K hx F ρ σ H' O :=
  ⟨r.fr.trans (r.ce.stp s), r.ce.grow s, r.len, fun i x e => by
    obtain ⟨v, e1, h⟩ := r.sl i x e
    exact ⟨v, e1, h.mono (wo_mono s)⟩⟩
/-- another frame condition: what stands now -/
theorem RO.re (r : RO K hx F ρ σ H O) : RO K hx ⟨O, H⟩ ρ σ H O := ⟨Stp.refl _ _, r.ce, r.len, r.sl⟩
theorem RO.fr_of (r : RO K hx F ρ σ H O) (s : Stp F'.O F'.H F.O F.H) : RO K hx F' ρ σ H O := ⟨s.trans r.fr, r.ce, r.len, r.sl⟩
theorem RO.out (r : RO K hx F ρ σ H O) {p : Addr} (h : H p = none) : p ∉ O := r.ce.out h
/-- a slot is written -/
theorem RO.put (r : RO K hx F ρ σ H O) (i : Nat) {x : Sl} {v : V} (h : SlOk K hx (wo O H) v x) : RO K hx F (ρ.set i (some x)) (σ.set i (some v)) H O := by
  refine ⟨r.fr, r.ce, by show (ρ.sl.set i _).length = _; simp [r.len], fun j y e => ?_⟩
  rcases getset (show (ρ.sl.set i (some x))[j]? = some (some y) from e) with ⟨e1, e2, e3⟩ | ⟨n, e1⟩
  · subst e1
    cases e2
    exact ⟨v, by rw [List.getElem?_set_self (by rw [← r.len]; exact e3)], h⟩
  · obtain ⟨v', e2, h'⟩ := r.sl j y e1
    exact ⟨v', by rw [List.getElem?_set_ne (Ne.symm n)]; exact e2, h'⟩
theorem RO.set (r : RO K hx F ρ σ H O) (i : Nat) {v : V} {d : D} (h : DV K (wo O H) v d) : RO K hx F (ρ.set i (some (.val d))) (σ.set i (some v)) H O := r.put i h
/-- another store over the same slots -/
theorem RO.st (r : RO K hx F ρ σ H O) {O' : Ow} {S : Store} (s : Stp O H O' H') (c : Ce K O' S H') : RO K hx F ⟨ρ.sl, S⟩ σ H' O' :=
  ⟨r.fr.trans s, c, r.len, fun i x e => by
    obtain ⟨v, e1, h⟩ := r.sl i x e
    exact ⟨v, e1, h.mono s.fs⟩⟩
end
theorem nodup_idx {l : List Addr} (h : l.Nodup) {i j : Nat} {a : Addr} (e1 : l[i]? = some a) (e2 : l[j]? = some a) : i = j := by
  obtain ⟨h1, g1⟩ := List.getElem?_eq_some_iff.mp e1
  obtain ⟨h2, g2⟩ := List.getElem?_eq_some_iff.mp e2
  have p := List.pairwise_iff_getElem.mp h
  rcases Nat.lt_trichotomy i j with q | q | q
  · exact absurd (g1.trans g2.symm) (p i j h1 h2 q)
  · exact q
  · exact absurd (g2.trans g1.symm) (p j i h2 h1 q)
/-! ### cells are laid, changed, given up -/
section
variable {K : Kw} {H : Hp} {O : Ow} {S : Store}
/-- a new cell -/
theorem Ce.new (r : Ce K O S H) {p : Addr} {o : HO} {c : Cn} (n : H p = none) (h : CnOk K ⟨(wo O H).h, O.th ++ [p]⟩ p o c) :
    Ce K ⟨O.th ++ [p], p :: O.l, O.hid⟩ (S ++ [some c]) (upd H p o) ∧ Stp O H ⟨O.th ++ [p], p :: O.l, O.hid⟩ (upd H p o) := by
  have fs : FSame ⟨(wo O H).h, O.th ++ [p]⟩ (wo ⟨O.th ++ [p], p :: O.l, O.hid⟩ (upd H p o)) := ⟨fun a x e => by
    have e' : (if a ∈ O.l then none else H a) = some x := e
    show (if a ∈ p :: O.l then none else upd H p o a) = some x
    split at e'
    · cases e'
    · rename_i m
      have na : a ≠ p := fun z => by rw [z, n] at e'; cases e'
      rw [if_neg fun z => (List.mem_cons.mp z).elim na m, upd_ne na]
      exact e', List.prefix_refl _⟩
  have f2 : FSame (wo O H) ⟨(wo O H).h, O.th ++ [p]⟩ := ⟨Same.refl _, List.prefix_append _ _⟩
  have hp : p ∉ O.th := fun m => by
    obtain ⟨x, e⟩ := r.al p m
    rw [n] at e
    cases e
  have nh : ∀ a ∈ O.hid, a ≠ p := fun a m z => by
    obtain ⟨x, e⟩ := r.hd a m
    rw [z, n] at e
    cases e
  refine ⟨⟨fun a => ?_, fun a m => ?_, fun a m => ?_, ?_, by simp [r.ln], fun m c' a e1 e2 => ?_, fun a m => ?_⟩, f2.trans fs, rfl, fun a m => upd_ne (nh a m)⟩
  · show a ∈ p :: O.l ↔ (∃ n c', (O.th ++ [p])[n]? = some a ∧ (S ++ [some c])[n]? = some (some c')) ∨ a ∈ O.hid
    constructor
    · intro m
      rcases List.mem_cons.mp m with rfl | m
      · exact .inl ⟨O.th.length, c, by simp, by rw [← r.ln]; simp⟩
      · rcases (r.ow a).mp m with ⟨k, c', e1, e2⟩ | m
        · exact .inl ⟨k, c', by rw [List.getElem?_append_left (List.getElem?_eq_some_iff.mp e1).1]; exact e1, by rw [List.getElem?_append_left (List.getElem?_eq_some_iff.mp e2).1]; exact e2⟩
        · exact .inr m
    · rintro (⟨k, c', e1, e2⟩ | m)
      · by_cases hk : k < O.th.length
        · rw [List.getElem?_append_left hk] at e1
          rw [List.getElem?_append_left (by rw [r.ln]; exact hk)] at e2
          exact List.mem_cons_of_mem _ ((r.ow a).mpr (.inl ⟨k, c', e1, e2⟩))
        · rw [List.getElem?_append_right (by omega)] at e1
          have : a = p := by
            have hm := List.mem_of_getElem? e1
            simpa using hm
          rw [this]
          exact List.mem_cons_self
      · exact List.mem_cons_of_mem _ ((r.ow a).mpr (.inr m))
  · obtain ⟨x, e⟩ := r.hd a m
    exact ⟨x, by rw [upd_ne (nh a m)]; exact e⟩
  · intro q
    rcases List.mem_append.mp (show a ∈ O.th ++ [p] from q) with q | q
    · exact r.dj a m q
    · exact nh a m (by simpa using q)
  · show (O.th ++ [p]).Nodup
    rw [List.nodup_append]
    exact ⟨r.nd, by simp, fun x hx y hy => by
      have : y = p := by simpa using hy
      rw [this]
      intro z
      rw [z] at hx
      exact hp hx⟩
  · have e1' : (S ++ [some c])[m]? = some (some c') := e1
    have e2' : (O.th ++ [p])[m]? = some a := e2
    by_cases hk : m < O.th.length
    · rw [List.getElem?_append_left hk] at e2'
      rw [List.getElem?_append_left (by rw [r.ln]; exact hk)] at e1'
      obtain ⟨o', e3, e4⟩ := r.ce m c' a e1' e2'
      have na : a ≠ p := fun z => by rw [z, n] at e3; cases e3
      exact ⟨o', by rw [upd_ne na]; exact e3, e4.mono (f2.trans fs)⟩
    · have hm : m = O.th.length := by
        have := (List.getElem?_eq_some_iff.mp e2').1
        simp at this
        omega
      subst hm
      have ea : a = p := by simpa using e2'.symm
      have ec : c' = c := by
        rw [← r.ln] at e1'
        simpa using e1'.symm
      subst ea ec
      exact ⟨o, upd_same, h.mono fs⟩
  · by_cases z : a = p
    · rw [z]
      exact ⟨_, upd_same⟩
    · rw [upd_ne z]
      rcases List.mem_append.mp (show a ∈ O.th ++ [p] from m) with m | m
      · exact r.al a m
      · exact absurd (by simpa using m) z
/-- a cell's content is changed -/
theorem Ce.wr (r : Ce K O S H) {n : Nat} {c0 c : Cn} {a : Addr} {o : HO} (e1 : S[n]? = some (some c0)) (e2 : O.th[n]? = some a) (h : CnOk K (wo O H) a o c) :
    Ce K O (S.set n (some c)) (upd H a o) ∧ Stp O H O (upd H a o) := by
  have mO : a ∈ O.l := (r.ow a).mpr (.inl ⟨n, c0, e2, e1⟩)
  have nh : ∀ b ∈ O.hid, b ≠ a := fun b m z => r.dj b m (by rw [z]; exact List.mem_of_getElem? e2)
  have ew : wo O (upd H a o) = wo O H := by
    unfold wo
    congr 1
    funext b
    by_cases m : b ∈ O.l
    · rw [if_pos m, if_pos m]
    · rw [if_neg m, if_neg m, upd_ne fun z => m (by rw [z]; exact mO)]
  refine ⟨⟨fun b => ?_, fun b m => ?_, r.dj, r.nd, by simp [r.ln], fun m c' b q1 q2 => ?_, fun b m => ?_⟩, by rw [ew]; exact FSame.refl _, rfl, fun b m => upd_ne (nh b m)⟩
  · rw [r.ow b]
    refine or_congr ⟨?_, ?_⟩ Iff.rfl
    · rintro ⟨k, c', f1, f2⟩
      by_cases hk : k = n
      · subst hk
        exact ⟨k, c, f1, by rw [List.getElem?_set_self (List.getElem?_eq_some_iff.mp f2).1]⟩
      · exact ⟨k, c', f1, by rw [List.getElem?_set_ne (Ne.symm hk)]; exact f2⟩
    · rintro ⟨k, c', f1, f2⟩
      rcases getset f2 with ⟨g1, _, _⟩ | ⟨_, g⟩
      · subst g1
        exact ⟨k, c0, f1, e1⟩
      · exact ⟨k, c', f1, g⟩
  · obtain ⟨x, e⟩ := r.hd b m
    exact ⟨x, by rw [upd_ne (nh b m)]; exact e⟩
  · rw [ew]
    rcases getset q1 with ⟨g1, g2, _⟩ | ⟨g1, g⟩
    · subst g1
      cases g2
      rw [e2] at q2
      cases q2
      exact ⟨o, upd_same, h⟩
    · obtain ⟨o', f1, f2⟩ := r.ce m c' b g q2
      have nb : b ≠ a := fun z => by
        subst z
        exact g1 (nodup_idx r.nd q2 e2)
      exact ⟨o', by rw [upd_ne nb]; exact f1, f2⟩
  · by_cases z : b = a
    · rw [z]
      exact ⟨_, upd_same⟩
    · rw [upd_ne z]
      exact r.al b m
/-- a cell is given up: what stands there never changes from now on -/
theorem Ce.fz (r : Ce K O S H) {n : Nat} {c : Cn} {a : Addr} (e1 : S[n]? = some (some c)) (e2 : O.th[n]? = some a) :
    ∃ O' : Ow, O'.th = O.th ∧ Ce K O' (S.set n none) H ∧ Stp O H O' H ∧ (wo O' H).h a = H a := by
  have uniq : ∀ {m : Nat}, O.th[m]? = some a → m = n := fun {m} q => nodup_idx r.nd q e2
  have nh : ∀ b ∈ O.hid, b ≠ a := fun b m z => r.dj b m (by rw [z]; exact List.mem_of_getElem? e2)
  have s : FSame (wo O H) (wo ⟨O.th, O.l.filter (· ≠ a), O.hid⟩ H) := ⟨fun b x q => by
    have q' : (if b ∈ O.l then none else H b) = some x := q
    show (if b ∈ O.l.filter (· ≠ a) then none else H b) = some x
    split at q'
    · cases q'
    · rename_i m
      rw [if_neg fun z => m (List.mem_filter.mp z).1]
      exact q', List.prefix_refl _⟩
  refine ⟨⟨O.th, O.l.filter (· ≠ a), O.hid⟩, rfl, ⟨fun b => ?_, r.hd, r.dj, r.nd, by simp [r.ln], fun m c' b q1 q2 => ?_, r.al⟩, ⟨s, rfl, fun _ _ => rfl⟩, wo_out fun z => by
    have := (List.mem_filter.mp z).2
    simp at this⟩
  · show b ∈ O.l.filter (· ≠ a) ↔ _
    rw [List.mem_filter]
    constructor
    · rintro ⟨m, nb⟩
      rcases (r.ow b).mp m with ⟨k, c', f1, f2⟩ | m
      · have hk : k ≠ n := fun z => by
          subst z
          rw [e2] at f1
          cases f1
          simp at nb
        exact .inl ⟨k, c', f1, by rw [List.getElem?_set_ne (Ne.symm hk)]; exact f2⟩
      · exact .inr m
    · rintro (⟨k, c', f1, f2⟩ | m)
      · rcases getset f2 with ⟨_, g2, _⟩ | ⟨g1, g⟩
        · cases g2
        · refine ⟨(r.ow b).mpr (.inl ⟨k, c', f1, g⟩), ?_⟩
          have : b ≠ a := fun z => by
            subst z
            exact g1 (uniq f1)
          simpa using this
      · exact ⟨(r.ow b).mpr (.inr m), by simpa using nh b m⟩
  · rcases getset q1 with ⟨_, g2, _⟩ | ⟨_, g⟩
    · cases g2
    · obtain ⟨o', f1, f2⟩ := r.ce m c' b g q2
      exact ⟨o', f1, f2.mono s⟩
end
section
variable {K : Kw} {hx : Hx} {F : Fm} {ρ : En} {σ : MB.St} {H : Hp} {O : Ow}
/-- a new thing that only the rule at hand knows of -/
theorem RO.hide (r : RO K hx F ρ σ H O) {p : Addr} {o : HO} (n : H p = none) : RO K hx ⟨⟨O.th, p :: O.l, p :: O.hid⟩, upd H p o⟩ ρ σ (upd H p o) ⟨O.th, p :: O.l, p :: O.hid⟩ ∧ FSame (wo O H) (wo ⟨O.th, p :: O.l, p :: O.hid⟩ (upd H p o)) := by
  have fs : FSame (wo O H) (wo ⟨O.th, p :: O.l, p :: O.hid⟩ (upd H p o)) := ⟨fun a x e => by
    have e' : (if a ∈ O.l then none else H a) = some x := e
    show (if a ∈ p :: O.l then none else upd H p o a) = some x
    split at e'
    · cases e'
    · rename_i m
      have na : a ≠ p := fun z => by rw [z, n] at e'; cases e'
      rw [if_neg fun z => (List.mem_cons.mp z).elim na m, upd_ne na]
      exact e', List.prefix_refl _⟩
  have hp : p ∉ O.th := fun m => by
    obtain ⟨x, e⟩ := r.ce.al p m
    rw [n] at e
    cases e
  refine ⟨⟨Stp.refl _ _, ⟨fun a => ?_, fun a m => ?_, fun a m => ?_, r.ce.nd, r.ce.ln, fun k c a e1 e2 => ?_, fun a m => ?_⟩, r.len, fun i x e => ?_⟩, fs⟩
  · show a ∈ p :: O.l ↔ _ ∨ a ∈ p :: O.hid
    rw [List.mem_cons, List.mem_cons]
    have := r.ce.ow a
    constructor
    · rintro (h | h)
      · exact .inr (.inl h)
      · rcases this.mp h with h | h
        · exact .inl h
        · exact .inr (.inr h)
    · rintro (h | h | h)
      · exact .inr (this.mpr (.inl h))
      · exact .inl h
      · exact .inr (this.mpr (.inr h))
  · rcases List.mem_cons.mp m with rfl | m
    · exact ⟨_, upd_same⟩
    · obtain ⟨x, e⟩ := r.ce.hd a m
      exact ⟨x, (same_upd n) _ _ e⟩
  · rcases List.mem_cons.mp m with rfl | m
    · exact hp
    · exact r.ce.dj a m
  · obtain ⟨o', f1, f2⟩ := r.ce.ce k c a e1 e2
    exact ⟨o', (same_upd n) _ _ f1, f2.mono fs⟩
  · obtain ⟨x, e⟩ := r.ce.al a m
    exact ⟨x, (same_upd n) _ _ e⟩
  · obtain ⟨v, e1, h⟩ := r.sl i x e
    exact ⟨v, e1, h.mono fs⟩
/-- the hidden thing is changed -/
theorem RO.wrH (r : RO K hx F ρ σ H O) {p : Addr} {o : HO} (m : p ∈ O.hid) : RO K hx ⟨O, upd H p o⟩ ρ σ (upd H p o) O ∧ wo O (upd H p o) = wo O H := by
  have mO : p ∈ O.l := (r.ce.ow p).mpr (.inr m)
  have ew : wo O (upd H p o) = wo O H := by
    unfold wo
    congr 1
    funext b
    by_cases q : b ∈ O.l
    · rw [if_pos q, if_pos q]
    · rw [if_neg q, if_neg q, upd_ne fun z => q (by rw [z]; exact mO)]
  refine ⟨⟨Stp.refl _ _, ⟨r.ce.ow, fun a q => ?_, r.ce.dj, r.ce.nd, r.ce.ln, fun k c a e1 e2 => ?_, fun a q => ?_⟩, r.len, fun i x e => ?_⟩, ew⟩
  · by_cases z : a = p
    · exact ⟨o, by rw [z]; exact upd_same⟩
    · obtain ⟨x, e⟩ := r.ce.hd a q
      exact ⟨x, by rw [upd_ne z]; exact e⟩
  · have z : a ≠ p := fun z => r.ce.dj p m (by rw [← z]; exact List.mem_of_getElem? e2)
    obtain ⟨o', f1, f2⟩ := r.ce.ce k c a e1 e2
    exact ⟨o', by rw [upd_ne z]; exact f1, by rw [ew]; exact f2⟩
  · have z : a ≠ p := fun z => r.ce.dj p m (by rw [← z]; exact q)
    obtain ⟨x, e⟩ := r.ce.al a q
    exact ⟨x, by rw [upd_ne z]; exact e⟩
  · obtain ⟨v, e1, h⟩ := r.sl i x e
    exact ⟨v, e1, by rw [ew]; exact h⟩
/-- the hidden thing comes to light: from now on nobody changes it -/
theorem RO.bare (r : RO K hx F ρ σ H O) {p : Addr} {hid : List Addr} (e : O.hid = p :: hid) (np : p ∉ hid) : RO K hx ⟨⟨O.th, O.l.filter (· ≠ p), hid⟩, H⟩ ρ σ H ⟨O.th, O.l.filter (· ≠ p), hid⟩ ∧ FSame (wo O H) (wo ⟨O.th, O.l.filter (· ≠ p), hid⟩ H) ∧ (wo ⟨O.th, O.l.filter (· ≠ p), hid⟩ H).h p = H p := by
  have fs : FSame (wo O H) (wo ⟨O.th, O.l.filter (· ≠ p), hid⟩ H) := ⟨fun b x q => by
    have q' : (if b ∈ O.l then none else H b) = some x := q
    show (if b ∈ O.l.filter (· ≠ p) then none else H b) = some x
    split at q'
    · cases q'
    · rename_i m
      rw [if_neg fun z => m (List.mem_filter.mp z).1]
      exact q', List.prefix_refl _⟩
  have hp : p ∉ O.th := r.ce.dj p (by rw [e]; exact List.mem_cons_self)
  refine ⟨⟨Stp.refl _ _, ⟨fun a => ?_, fun a m => r.ce.hd a (by rw [e]; exact List.mem_cons_of_mem _ m), fun a m => r.ce.dj a (by rw [e]; exact List.mem_cons_of_mem _ m), r.ce.nd, r.ce.ln, fun k c a e1 e2 => ?_, r.ce.al⟩, r.len, fun i x q => ?_⟩, fs, wo_out fun z => by
    have := (List.mem_filter.mp z).2
    simp at this⟩
  · show a ∈ O.l.filter (· ≠ p) ↔ _ ∨ a ∈ hid
    rw [List.mem_filter]
    have w := r.ce.ow a
    constructor
    · rintro ⟨m, nb⟩
      have nb' : a ≠ p := by simpa using nb
      rcases w.mp m with h | h
      · exact .inl h
      · rw [e] at h
        rcases List.mem_cons.mp h with h | h
        · exact absurd h nb'
        · exact .inr h
    · rintro (h | h)
      · obtain ⟨k, c, e1, e2⟩ := h
        exact ⟨w.mpr (.inl ⟨k, c, e1, e2⟩), by
          have : a ≠ p := fun z => hp (by rw [← z]; exact List.mem_of_getElem? e1)
          simpa using this⟩
      · exact ⟨w.mpr (.inr (by rw [e]; exact List.mem_cons_of_mem _ h)), by
          have : a ≠ p := fun z => np (by rw [← z]; exact h)
          simpa using this⟩
  · obtain ⟨o', f1, f2⟩ := r.ce.ce k c a e1 e2
    exact ⟨o', f1, f2.mono fs⟩
  · obtain ⟨v, e1, h⟩ := r.sl i x q
    exact ⟨v, e1, h.mono fs⟩
end
end MB

/-! Readings by values: expressions. -/
namespace MB
open PySem PySem.Spec PyProof.Rows L2
def _root_.L2.Cx.kw (X : Cx) : Kw := ⟨X.K, X.w⟩

inductive Rs where
  | ok (d : D) (ρ : En) | err (x : Ex) (ρ : En) | stuck
abbrev EX := En → Rs
def Rs.bind (r : Rs) (k : D → En → Rs) : Rs := match r with
  | .ok d ρ => k d ρ
  | .err x ρ => .err x ρ
  | .stuck => .stuck
/-- what is wanted of an outcome -/
def Po (K : Kw) (hx : Hx) (F : Fm) (W : WX) (σ : MB.St) (r : Rs) (Q : VK) : Prop := match r with
  | .ok d ρ => ∀ v H, RV K hx F ρ σ H v d → Q v H
  | .err x ρ => ∀ cls dd H, RX K hx F ρ σ H x cls dd → W cls dd σ H
  | .stuck => False
/-- an expression's reading by its function -/
def tX (K : Kw) (hx : Hx) (W : WX) (f : EX) : TE := fun σ H Q => ∃ F ρ, Rl K hx F ρ σ H ∧ Po K hx F W σ (f ρ) Q
/-- a truth value -/
def truth : D → Option Bool
  | .non => some false
  | .bl b => some b
  | .int i => some (i != 0)
  | .tup xs => some (!xs.isEmpty)
  | .lst xs => some (!xs.isEmpty)
  | _ => none
def PoT (K : Kw) (hx : Hx) (F : Fm) (W : WX) (σ : MB.St) (r : Rs) (Q : Bool → Hp → Prop) : Prop := match r with
  | .ok d ρ => ∃ b, truth d = some b ∧ ∀ H, Rl K hx F ρ σ H → Q b H
  | .err x ρ => ∀ cls dd H, RX K hx F ρ σ H x cls dd → W cls dd σ H
  | .stuck => False
def tT (K : Kw) (hx : Hx) (W : WX) (f : EX) : TT := fun σ H Q => ∃ F ρ, Rl K hx F ρ σ H ∧ PoT K hx F W σ (f ρ) Q
theorem _root_.L2.PE.imp {X : Cx} {e : Expr} {t t' : TE} (h : PE X e t) (i : ∀ σ H Q, t' σ H Q → t σ H Q) : PE X e t' := ⟨fun pins s σ H Q I q => h.run pins s σ H Q I (i σ H Q q)⟩
theorem _root_.L2.PT.imp {X : Cx} {e : Expr} {t t' : TT} (h : PT X e t) (i : ∀ σ H Q, t' σ H Q → t σ H Q) : PT X e t' := ⟨fun pins s σ H Q I q => h.run pins s σ H Q I (i σ H Q q)⟩
theorem _root_.L2.PW.imp {X : Cx} {e : Expr} {t t' : TT} (h : PW X e t) (i : ∀ σ H Q, t' σ H Q → t σ H Q) : PW X e t' := ⟨fun wh pins s σ H Q I q => h.run wh pins s σ H Q I (i σ H Q q)⟩

theorem Po.fr {K : Kw} {hx : Hx} {F F' : Fm} {W : WX} {σ : MB.St} {r : Rs} {Q : VK} (s : Stp F.O F.H F'.O F'.H) (h : Po K hx F W σ r Q) : Po K hx F' W σ r Q := by
  cases r with
  | ok d ρ => exact fun v H ⟨O, r, dv⟩ => h v H ⟨O, r.fr_of s, dv⟩
  | err x ρ => exact fun cls dd H ⟨O, r, dv⟩ => h cls dd H ⟨O, r.fr_of s, dv⟩
  | stuck => exact h
theorem PoT.fr {K : Kw} {hx : Hx} {F F' : Fm} {W : WX} {σ : MB.St} {r : Rs} {Q : Bool → Hp → Prop} (s : Stp F.O F.H F'.O F'.H) (h : PoT K hx F W σ r Q) : PoT K hx F' W σ r Q := by
  cases r with
  | ok d ρ =>
    obtain ⟨b, hb, k⟩ := h
    exact ⟨b, hb, fun H ⟨O, r⟩ => k H ⟨O, r.fr_of s⟩⟩
  | err x ρ => exact fun cls dd H ⟨O, r, dv⟩ => h cls dd H ⟨O, r.fr_of s, dv⟩
  | stuck => exact h
section
variable {K : Kw} {hx : Hx} {F : Fm} {H : Hp} {ρ : En} {σ : MB.St} {O : Ow} {W : WX}
/-- a part, then the rest: the part's frame is what stands now -/
theorem bindX {fa : EX} {k : D → En → Rs} {Q Q1 : VK} (r : RO K hx F ρ σ H O) (hp : Po K hx F W σ ((fa ρ).bind k) Q)
    (hk : ∀ d ρ1 v H1 O1, RO K hx F ρ1 σ H1 O1 → FSame (wo O H) (wo O1 H1) → DV K (wo O1 H1) v d → Po K hx F W σ (k d ρ1) Q → Q1 v H1) : tX K hx W fa σ H Q1 := by
  refine ⟨⟨O, H⟩, ρ, ⟨O, r.re⟩, ?_⟩
  cases e : fa ρ with
  | ok d ρ1 =>
    rw [e] at hp
    intro v H1 hv
    obtain ⟨O1, r1, dv⟩ := hv
    exact hk d ρ1 v H1 O1 (r1.fr_of r.fr) r1.fr.fs dv hp
  | err x ρ1 =>
    rw [e] at hp
    intro cls dd H1 hv
    obtain ⟨O1, r1, ev⟩ := hv
    exact hp cls dd H1 ⟨O1, r1.fr_of r.fr, ev⟩
  | stuck =>
    rw [e] at hp
    exact hp
/-- the same with a test first -/
theorem bindT {fa : EX} {k : D → En → Rs} {Q : VK} {Q1 : Bool → Hp → Prop} (r : RO K hx F ρ σ H O) (hp : Po K hx F W σ ((fa ρ).bind k) Q)
    (ht : ∀ d ρ1, Po K hx F W σ (k d ρ1) Q → ∃ b, truth d = some b)
    (hk : ∀ d b ρ1 H1 O1, truth d = some b → RO K hx F ρ1 σ H1 O1 → FSame (wo O H) (wo O1 H1) → Po K hx F W σ (k d ρ1) Q → Q1 b H1) : tT K hx W fa σ H Q1 := by
  refine ⟨⟨O, H⟩, ρ, ⟨O, r.re⟩, ?_⟩
  cases e : fa ρ with
  | ok d ρ1 =>
    rw [e] at hp
    obtain ⟨b, hb⟩ := ht d ρ1 hp
    refine ⟨b, hb, fun H1 hv => ?_⟩
    obtain ⟨O1, r1⟩ := hv
    exact hk d b ρ1 H1 O1 hb (r1.fr_of r.fr) r1.fr.fs hp
  | err x ρ1 =>
    rw [e] at hp
    intro cls dd H1 hv
    obtain ⟨O1, r1, ev⟩ := hv
    exact hp cls dd H1 ⟨O1, r1.fr_of r.fr, ev⟩
  | stuck =>
    rw [e] at hp
    exact hp
/-- .. all within a test -/
theorem bindTT {fa : EX} {k : D → En → Rs} {Q Q1 : Bool → Hp → Prop} (r : RO K hx F ρ σ H O) (hp : PoT K hx F W σ ((fa ρ).bind k) Q)
    (ht : ∀ d ρ1, PoT K hx F W σ (k d ρ1) Q → ∃ b, truth d = some b)
    (hk : ∀ d b ρ1 H1 O1, truth d = some b → RO K hx F ρ1 σ H1 O1 → FSame (wo O H) (wo O1 H1) → PoT K hx F W σ (k d ρ1) Q → Q1 b H1) : tT K hx W fa σ H Q1 := by
  refine ⟨⟨O, H⟩, ρ, ⟨O, r.re⟩, ?_⟩
  cases e : fa ρ with
  | ok d ρ1 =>
    rw [e] at hp
    obtain ⟨b, hb⟩ := ht d ρ1 hp
    refine ⟨b, hb, fun H1 hv => ?_⟩
    obtain ⟨O1, r1⟩ := hv
    exact hk d b ρ1 H1 O1 hb (r1.fr_of r.fr) r1.fr.fs hp
  | err x ρ1 =>
    rw [e] at hp
    intro cls dd H1 hv
    obtain ⟨O1, r1, ev⟩ := hv
    exact hp cls dd H1 ⟨O1, r1.fr_of r.fr, ev⟩
  | stuck =>
    rw [e] at hp
    exact hp
/-- an expression within a test -/
theorem bindXT {fa : EX} {k : D → En → Rs} {Q : Bool → Hp → Prop} {Q1 : VK} (r : RO K hx F ρ σ H O) (hp : PoT K hx F W σ ((fa ρ).bind k) Q)
    (hk : ∀ d ρ1 v H1 O1, RO K hx F ρ1 σ H1 O1 → FSame (wo O H) (wo O1 H1) → DV K (wo O1 H1) v d → PoT K hx F W σ (k d ρ1) Q → Q1 v H1) : tX K hx W fa σ H Q1 := by
  refine ⟨⟨O, H⟩, ρ, ⟨O, r.re⟩, ?_⟩
  cases e : fa ρ with
  | ok d ρ1 =>
    rw [e] at hp
    intro v H1 hv
    obtain ⟨O1, r1, dv⟩ := hv
    exact hk d ρ1 v H1 O1 (r1.fr_of r.fr) r1.fr.fs dv hp
  | err x ρ1 =>
    rw [e] at hp
    intro cls dd H1 hv
    obtain ⟨O1, r1, ev⟩ := hv
    exact hp cls dd H1 ⟨O1, r1.fr_of r.fr, ev⟩
  | stuck =>
    rw [e] at hp
    exact hp
end

/-! ### names, constants -/
def eVar (i : Nat) : EX := fun ρ => match ρ[i]? with
  | some (some (.val d)) => .ok d ρ
  | _ => .stuck
def eC (d : D) : EX := fun ρ => .ok d ρ
section
variable {X : Cx} {hx : Hx} {W : WX}
theorem r_var (i : Nat) {x : Str} {pos : Pos} (hN : X.N[i]? = some x := by rfl) (hv : Vis X.env.scope x := by first | exact Or.inl rfl | exact Or.inr (Or.inl rfl) | exact Or.inr (Or.inr rfl)) (hd : (x == ("__debug__" : Str)) = false := by decide)
    (hcd : (x == ("__classdict__" : Str)) = false := by decide) : PE X (.Name x pos) (tX X.kw hx W (eVar i)) := by
  refine (pe_var hN hv hd hcd).imp fun σ H Q h => ?_
  obtain ⟨F, ρ, ⟨O, r⟩, hp⟩ := h
  unfold eVar at hp
  cases e : ρ[i]? with
  | none => rw [e] at hp; exact hp.elim
  | some o =>
    rw [e] at hp
    cases o with
    | none => exact hp.elim
    | some s =>
      cases s with
      | val d =>
        obtain ⟨v, ev, h⟩ := r.sl i _ e
        exact ⟨v, ev, hp v H ⟨O, r, h⟩⟩
      | exc x => exact hp.elim
theorem r_int {i j pos} : PE X (.Constant (.int i) j pos) (tX X.kw hx W (eC (.int i))) := (pe_int).imp fun σ H Q h => by
  obtain ⟨F, ρ, ⟨O, r⟩, hp⟩ := h
  exact hp _ H ⟨O, r, .int i⟩
theorem r_bl {b j pos} : PE X (.Constant (.bool b) j pos) (tX X.kw hx W (eC (.bl b))) := (pe_bl).imp fun σ H Q h => by
  obtain ⟨F, ρ, ⟨O, r⟩, hp⟩ := h
  exact hp _ H ⟨O, r, .bl b⟩
theorem r_non {j pos} : PE X (.Constant .none j pos) (tX X.kw hx W (eC .non)) := (pe_non).imp fun σ H Q h => by
  obtain ⟨F, ρ, ⟨O, r⟩, hp⟩ := h
  exact hp _ H ⟨O, r, .non⟩
theorem r_str {x j pos} : PE X (.Constant (.str x) j pos) (tX X.kw hx W (eC (.str x))) := (pe_str).imp fun σ H Q h => by
  obtain ⟨F, ρ, ⟨O, r⟩, hp⟩ := h
  exact hp _ H ⟨O, r, .str x⟩
/-- a module's constant: what stands at it is the datum d in every heap -/
structure GC (K : Kw) (mg : Str → Option Value) (x : Str) (d : D) : Prop where
  ex : ∃ u v, mg x = some u ∧ RelV v u ∧ ∀ z, DV K z v d
theorem r_glob {x : Str} {d : D} {pos : Pos} (c : GC X.kw X.mg x d) (hg : Gl X x := by rfl) (hd : (x == ("__debug__" : Str)) = false := by decide) : PE X (.Name x pos) (tX X.kw hx W (eC d)) := by
  obtain ⟨u, v, hm, rv, dv⟩ := c.ex
  refine (pe_glob hg hm rv hd).imp fun σ H Q h => ?_
  obtain ⟨F, ρ, ⟨O, r⟩, hp⟩ := h
  exact hp _ H ⟨O, r, dv _⟩
end

/-! ### operators of two values -/
/-- r gives what op says -/
def Op2 (K : Kw) (r : R2) (op : D → D → Option D) : Prop := ∀ (O : Ow) (H : Hp) (x y : V) (d e res : D) (Q : VK), (∀ a ∈ O, ∃ o, H a = some o) → DV K (wo O H) x d → DV K (wo O H) y e → op d e = some res →
  (∀ v H', Same H H' → DV K (wo O H') v res → Q v H') → r x y H Q
def eB (op : D → D → Option D) (fa fb : EX) : EX := fun ρ => (fa ρ).bind fun d ρ1 => (fb ρ1).bind fun e ρ2 => match op d e with
  | some z => .ok z ρ2
  | none => .stuck
theorem t_op2 {K : Kw} {hx : Hx} {W : WX} {r : R2} {op : D → D → Option D} (ho : Op2 K r op) {fa fb : EX} {σ : MB.St} {H : Hp} {Q : VK} (h : tX K hx W (eB op fa fb) σ H Q) : tOp r (tX K hx W fa) (tX K hx W fb) σ H Q := by
  obtain ⟨F, ρ, ⟨O, r0⟩, hp⟩ := h
  refine bindX r0 hp fun d ρ1 v H1 O1 r1 s1 dv hp1 => ?_
  refine bindX r1 hp1 fun e ρ2 u H2 O2 r2 s2 du hp2 => ?_
  cases q : op d e with
  | none =>
    rw [q] at hp2
    exact hp2.elim
  | some z =>
    rw [q] at hp2
    exact ho O2 H2 v u d e z Q r2.dom (DV.mono s2 _ _ dv) du q fun v' H' s' dv' => hp2 v' H' ⟨O2, r2.grow s', dv'⟩
theorem t_op2T {K : Kw} {hx : Hx} {W : WX} {r : R2} {op : D → D → Option D} (ho : Op2 K r op) (hb : ∀ d e z, op d e = some z → ∃ b, z = .bl b) {fa fb : EX} {σ : MB.St} {H : Hp} {Q : Bool → Hp → Prop} (h : tT K hx W (eB op fa fb) σ H Q) :
    tTest (tOp r (tX K hx W fa) (tX K hx W fb)) σ H Q := by
  obtain ⟨F, ρ, ⟨O, r0⟩, hp⟩ := h
  refine bindXT r0 hp fun d ρ1 v H1 O1 r1 s1 dv hp1 => ?_
  refine bindXT r1 hp1 fun e ρ2 u H2 O2 r2 s2 du hp2 => ?_
  cases q : op d e with
  | none =>
    rw [q] at hp2
    exact hp2.elim
  | some z =>
    rw [q] at hp2
    obtain ⟨b, rfl⟩ := hb d e z q
    refine ho O2 H2 v u d e _ _ r2.dom (DV.mono s2 _ _ dv) du q fun v' H' s' dv' => ?_
    cases dv'
    obtain ⟨b', hb', k⟩ := hp2
    cases hb'
    exact ⟨b, rfl, k H' ⟨O2, r2.grow s'⟩⟩
section
variable {X : Cx} {hx : Hx} {W : WX} {a b : Expr} {fa fb : EX} {pos : Pos}
theorem r_bin {op : Operator} {r : R2} {f : D → D → Option D} (ho : OpR X (binaryOp op) r) (h2 : Op2 X.kw r f) (ha : PE X a (tX X.kw hx W fa)) (hb : PE X b (tX X.kw hx W fb)) : PE X (.BinOp a op b pos) (tX X.kw hx W (eB f fa fb)) :=
  (pe_op ho ha hb).imp fun _ _ _ h => t_op2 h2 h
theorem r_cmp {op : CmpOp} {r : R2} {f : D → D → Option D} (ho : OpR X (compareOp op) r) (h2 : Op2 X.kw r f) (ha : PE X a (tX X.kw hx W fa)) (hb : PE X b (tX X.kw hx W fb)) (hm : behindInMarks op b = false) : PE X (.Compare a [op] [b] pos) (tX X.kw hx W (eB f fa fb)) :=
  (pe_cmpR ho ha hb hm).imp fun _ _ _ h => t_op2 h2 h
theorem r_cmpT {op : CmpOp} {r : R2} {f : D → D → Option D} (ho : OpR X (compareOp op) r) (h2 : Op2 X.kw r f) (hbl : ∀ d e z, f d e = some z → ∃ b, z = .bl b) (ha : PE X a (tX X.kw hx W fa)) (hb : PE X b (tX X.kw hx W fb)) (hm : behindInMarks op b = false) :
    PT X (.Compare a [op] [b] pos) (tT X.kw hx W (eB f fa fb)) := (pt_cmpR ho ha hb hm).imp fun _ _ _ h => t_op2T h2 hbl h
end
end MB

/-! Operators by values. -/
namespace MB
open PySem PySem.Spec PyProof.Rows L2

/-! ### arithmetic -/
def mulOk (i j : Int) : Bool := decide (-(2 ^ 64) < i ∧ i < 2 ^ 64) || decide (-(2 ^ 64) < j ∧ j < 2 ^ 64) || decide (i.natAbs.log2 + j.natAbs.log2 < 1000000)
def divOk (_ j : Int) : Bool := decide (j ≠ 0 ∧ j.natAbs < 1073741824) || decide (0 < j ∧ j.natAbs.log2 < 9000)
def addD : D → D → Option D
  | .int i, .int j => some (.int (i + j))
  | .tup xs, .tup ys => if xs.length + ys.length ≤ sizeLine then some (.tup (xs ++ ys)) else none
  | .lst xs, .lst ys => if xs.length + ys.length ≤ sizeLine then some (.lst (xs ++ ys)) else none
  | .str x, .str y => if x.length + y.length ≤ sizeLine then some (.str (x ++ y)) else none
  | _, _ => none
def subD : D → D → Option D
  | .int i, .int j => some (.int (i - j))
  | _, _ => none
def mulD : D → D → Option D
  | .int i, .int j => if mulOk i j = true then some (.int (i * j)) else none
  | .lst xs, .int k => if (-(2 ^ 63) ≤ k ∧ k < 2 ^ 63) ∧ xs.length * k.toNat ≤ sizeLine then some (.lst (List.replicate k.toNat xs).flatten) else none
  | _, _ => none
def fdivD : D → D → Option D
  | .int i, .int j => if divOk i j = true then some (.int (i.fdiv j)) else none
  | _, _ => none
def modD : D → D → Option D
  | .int i, .int j => if j ≠ 0 then some (.int (i.fmod j)) else none
  | _, _ => none
def powD : D → D → Option D
  | .int i, .int j => if 0 ≤ j ∧ j ≤ 1000000 ∧ i.natAbs < 2 ^ 64 then some (.int (i ^ j.toNat)) else none
  | _, _ => none
def shlD : D → D → Option D
  | .int i, .int j => if 0 ≤ j ∧ j ≤ 1000000 ∧ i.natAbs < 2 ^ 64 then some (.int (i * 2 ^ j.toNat)) else none
  | _, _ => none
def orD : D → D → Option D
  | .int i, .int j => some (.int (Builtin.bitOr i j))
  | _, _ => none

section
variable {K : Kw} {H H' : Fz}
theorem DV.int_of {v : V} {i : Int} (h : DV K H v (.int i)) : v = .int i := by cases h; rfl
theorem DV.bl_of {v : V} {i : Bool} (h : DV K H v (.bl i)) : v = .bl i := by cases h; rfl
theorem DV.str_of {v : V} {i : Str} (h : DV K H v (.str i)) : v = .str i := by cases h; rfl
theorem DV.non_of {v : V} (h : DV K H v .non) : v = .non := by cases h; rfl
theorem DV.tup_of {v : V} {ds : List D} (h : DV K H v (.tup ds)) : ∃ a vs, v = .ref a ∧ SqT K.K H.h a vs ∧ DVs K H vs ds := by cases h with | tup a b => exact ⟨_, _, rfl, a.sq, b⟩
theorem DV.tup_ofB {v : V} {ds : List D} (h : DV K H v (.tup ds)) : ∃ a vs, v = .ref a ∧ SqB K.K H.h a vs ∧ DVs K H vs ds := by cases h with | tup a b => exact ⟨_, _, rfl, a, b⟩
theorem DV.tpx_of {v : V} {ds : List D} (h : DV K H v (.tpx ds)) : ∃ a vs, v = .ref a ∧ SqT K.K H.h a vs ∧ DVs K H vs ds := by cases h with | tpx a b => exact ⟨_, _, rfl, a, b⟩
theorem DV.lst_of {v : V} {ds : List D} (h : DV K H v (.lst ds)) : ∃ a vs, v = .ref a ∧ H.h a = some (.lst vs) ∧ DVs K H vs ds := by cases h with | lst a b => exact ⟨_, _, rfl, a, b⟩
end
theorem dom_out {H : Hp} {O : Ow} (h : ∀ a ∈ O, ∃ o, H a = some o) {p : Addr} (n : H p = none) : p ∉ O := fun m => by
  obtain ⟨o, e⟩ := h p m
  rw [n] at e
  cases e
/-- a new object at p -/
theorem wo_new {H : Hp} {O : Ow} {p : Addr} {o : HO} (n : p ∉ O) : (wo O (upd H p o)).h p = some o := (wo_out n).trans upd_same
theorem DV.newT {K : Kw} {H : Hp} {O : Ow} {p : Addr} {vs : List V} {ds : List D} (hd : ∀ a ∈ O, ∃ o, H a = some o) (n : H p = none) (h : DVs K (wo O H) vs ds) : DV K (wo O (upd H p (.tup vs))) (.ref p) (.tpx ds) :=
  .tpx (.of (wo_new (dom_out hd n))) (DVs.mono (wo_mono (same_upd n)) _ _ h)
theorem DV.newB {K : Kw} {H : Hp} {O : Ow} {p : Addr} {ob : Obj} {vs : List V} {ds : List D} (hd : ∀ a ∈ O, ∃ o, H a = some o) (n : H p = none) (nd : ob.dict = none) (h : DVs K (wo O H) vs ds) : DV K (wo O (upd H p (.frz ob (.tup vs)))) (.ref p) (.tup ds) :=
  .tup (.inl ⟨ob, wo_new (dom_out hd n), nd⟩) (DVs.mono (wo_mono (same_upd n)) _ _ h)
theorem DV.newL {K : Kw} {H : Hp} {O : Ow} {p : Addr} {vs : List V} {ds : List D} (hd : ∀ a ∈ O, ∃ o, H a = some o) (n : H p = none) (h : DVs K (wo O H) vs ds) : DV K (wo O (upd H p (.lst vs))) (.ref p) (.lst ds) :=
  .lst (wo_new (dom_out hd n)) (DVs.mono (wo_mono (same_upd n)) _ _ h)

/-- two tuples joined: the new one is known to carry no dict -/
def rCatB (K : Fg) : R2 := fun x y H Q => ∃ a b vs ws, x = .ref a ∧ y = .ref b ∧ SqT K H a vs ∧ SqT K H b ws ∧ vs.length + ws.length ≤ sizeLine ∧
  (vs = [] → Q (.ref b) H) ∧ (vs ≠ [] → ws = [] → Q (.ref a) H) ∧ (vs ≠ [] → ws ≠ [] → ∀ p ob, H p = none → ob.dict = none → Q (.ref p) (upd H p (.frz ob (.tup (vs ++ ws)))))
theorem o_catB {X : Cx} : OpR X (binaryOp .Add) (rCatB X.K) := by
  intro pins s σ H x y v u Q I rx ry h
  obtain ⟨a, b, vs, ws, rfl, rfl, sa, sb, le, k0, k1, k2⟩ := h
  cases rx
  cases ry
  obtain ⟨us, e1, t1, _⟩ := I.tuple sa
  obtain ⟨us2, e2, t2, _⟩ := I.tuple sb
  by_cases z : vs = []
  · subst z
    cases e1
    exact cat_tup0 t1 t2 ⟨V.ref b, H, I, rfl, k0 rfl⟩
  · have fresh := I.hok.fresh (Nat.le_refl s.heap.objs.size)
    refine HT.cat_tup t1 t2 (fun n => z (e1.nil_iff.mp n)) (fun n => ⟨V.ref a, H, I, rfl, k1 z (e2.nil_iff.mp n)⟩) (fun n => ?_) (by
      have l1 := e1.length
      have l2 := e2.length
      omega)
    have nw : ws ≠ [] := fun m => n (e2.nil_iff.mpr m)
    refine ⟨.ref s.heap.objs.size, _, I.laid (t' := s.toks) (o := .frz { cls := .type "tuple", data := .seq (us ++ us2).toArray } (.tup (vs ++ ws))) (fun _ _ g => Heap.get?_push_of_some _ g) (Nat.le_refl _) ?_, rfl, k2 z nw _ _ fresh rfl⟩
    exact ⟨Heap.get?_push_size _ rfl, by rw [List.length_append]; exact le, us ++ us2, e1.append e2, IsTup.new _ _⟩
/-- the readings of the operators -/
def rAddD (K : Fg) : R2 := fun x y H Q => (∃ i j, x = .int i ∧ y = .int j ∧ Q (.int (i + j)) H) ∨ rCatB K x y H Q ∨ rCat x y H Q ∨ (∃ i j, x = .str i ∧ y = .str j ∧ i.length + j.length ≤ sizeLine ∧ Q (.str (i ++ j)) H)
section
variable {X : Cx}
theorem o_add : OpR X (binaryOp .Add) (rAddD X.K) := op_add.or (o_catB.or (op_cat.or op_add_str))
theorem s_add {K : Kw} : Op2 K (rAddD K.K) addD := by
  intro O H x y d e res Q hd hx hy h q
  cases d <;> cases e <;> try (cases h; done)
  · cases hx; cases hy
    cases h
    exact .inl ⟨_, _, rfl, rfl, q _ H (Same.refl H) (.int _)⟩
  · cases hx; cases hy
    rename_i i j
    have h' : (if i.length + j.length ≤ sizeLine then some (D.str (i ++ j)) else none) = some res := h
    split at h'
    · cases h'
      rename_i hl
      exact .inr (.inr (.inr ⟨_, _, rfl, rfl, hl, q _ H (Same.refl H) (.str _)⟩))
    · cases h'
  · rename_i xs ys
    have h' : (if xs.length + ys.length ≤ sizeLine then some (D.tup (xs ++ ys)) else none) = some res := h
    split at h'
    · cases h'
      rename_i hl
      obtain ⟨a, vs, rfl, sa, da⟩ := id hx.tup_of
      obtain ⟨b, ws, rfl, sb, db⟩ := id hy.tup_of
      have la := da.length
      have lb := db.length
      refine .inr (.inl ⟨a, b, vs, ws, rfl, rfl, sqT_mono (wo_same O H) sa, sqT_mono (wo_same O H) sb, by omega, fun z => ?_, fun _ z => ?_, fun _ _ p ob np nd => ?_⟩)
      · subst z
        cases da
        exact q _ H (Same.refl H) hy
      · subst z
        cases db
        rw [List.append_nil] at q
        exact q _ H (Same.refl H) hx
      · exact q _ _ (same_upd np) (DV.newB hd np nd (da.append db))
    · cases h'
  · rename_i xs ys
    have h' : (if xs.length + ys.length ≤ sizeLine then some (D.lst (xs ++ ys)) else none) = some res := h
    split at h'
    · cases h'
      rename_i hl
      obtain ⟨a, vs, rfl, sa, da⟩ := hx.lst_of
      obtain ⟨b, ws, rfl, sb, db⟩ := hy.lst_of
      have la := da.length
      have lb := db.length
      exact .inr (.inr (.inl ⟨a, b, vs, ws, rfl, rfl, wo_same O H _ _ sa, wo_same O H _ _ sb, by omega, fun p np => q _ _ (same_upd np) (DV.newL hd np (da.append db))⟩))
    · cases h'
theorem s_sub {K : Kw} : Op2 K (rI0 fun i j => .int (i - j)) subD := by
  intro O H x y d e res Q hd hx hy h q
  cases d <;> cases e <;> try (cases h; done)
  cases hx; cases hy; cases h
  exact ⟨_, _, rfl, rfl, q _ H (Same.refl H) (.int _)⟩
def rMulD : R2 := fun x y H Q => rI CMul (fun i j => .int (i * j)) x y H Q ∨ rI CMulW (fun i j => .int (i * j)) x y H Q ∨ rRep x y H Q
theorem o_mul : OpR X (binaryOp .Mult) rMulD := op_mul.or (op_mulW.or op_rep)
theorem flat_rep {K : Kw} {H : Fz} {vs : List V} {ds : List D} (h : DVs K H vs ds) : ∀ n : Nat, DVs K H (List.replicate n vs).flatten (List.replicate n ds).flatten
  | 0 => .nil
  | n + 1 => by
    rw [List.replicate_succ, List.replicate_succ, List.flatten_cons, List.flatten_cons]
    exact h.append (flat_rep h n)
theorem s_mul {K : Kw} : Op2 K rMulD mulD := by
  intro O H x y d e res Q hd hx hy h q
  cases d <;> cases e <;> try (cases h; done)
  · rename_i i j
    have h' : (if mulOk i j = true then some (D.int (i * j)) else none) = some res := h
    split at h'
    · cases h'
      rename_i hl
      cases hx; cases hy
      have fin := q _ H (Same.refl H) (.int (i * j))
      unfold mulOk at hl
      rw [Bool.or_eq_true, Bool.or_eq_true] at hl
      rcases hl with (hl | hl) | hl
      · exact .inl ⟨_, _, rfl, rfl, .inl (of_decide_eq_true hl), fin⟩
      · exact .inl ⟨_, _, rfl, rfl, .inr (of_decide_eq_true hl), fin⟩
      · exact .inr (.inl ⟨_, _, rfl, rfl, (of_decide_eq_true hl : i.natAbs.log2 + j.natAbs.log2 < 1000000), fin⟩)
    · cases h'
  · rename_i xs k
    have h' : (if (-(2 ^ 63) ≤ k ∧ k < 2 ^ 63) ∧ xs.length * k.toNat ≤ sizeLine then some (D.lst (List.replicate k.toNat xs).flatten) else none) = some res := h
    split at h'
    · cases h'
      rename_i hl
      obtain ⟨⟨h1, h2⟩, h3⟩ := hl
      obtain ⟨a, vs, rfl, sa, da⟩ := hx.lst_of
      cases hy
      have la := da.length
      exact .inr (.inr ⟨a, k, vs, rfl, rfl, wo_same O H _ _ sa, h1, h2, by rw [la]; exact h3, fun p np => q _ _ (same_upd np) (DV.newL hd np (flat_rep da _))⟩)
    · cases h'
def rDivD : R2 := fun x y H Q => rI CDivN (fun i j => .int (i.fdiv j)) x y H Q ∨ rI CDivW (fun i j => .int (i / j)) x y H Q
theorem o_fdiv : OpR X (binaryOp .FloorDiv) rDivD := op_fdivN.or op_fdivW
theorem s_fdiv {K : Kw} : Op2 K rDivD fdivD := by
  intro O H x y d e res Q hd hx hy h q
  cases d <;> cases e <;> try (cases h; done)
  rename_i i j
  have h' : (if divOk i j = true then some (D.int (i.fdiv j)) else none) = some res := h
  split at h'
  · cases h'
    rename_i hl
    cases hx; cases hy
    have fin := q _ H (Same.refl H) (.int (i.fdiv j))
    unfold divOk at hl
    rw [Bool.or_eq_true] at hl
    rcases hl with hl | hl
    · exact .inl ⟨_, _, rfl, rfl, (of_decide_eq_true hl : j ≠ 0 ∧ j.natAbs < 1073741824), fin⟩
    · have hl := of_decide_eq_true hl
      rw [Int.fdiv_eq_ediv_of_nonneg i (by omega)] at fin
      exact .inr ⟨_, _, rfl, rfl, hl, fin⟩
  · cases h'
theorem s_mod {K : Kw} : Op2 K (rI (fun _ j => j ≠ 0) fun i j => .int (i.fmod j)) modD := by
  intro O H x y d e res Q hd hx hy h q
  cases d <;> cases e <;> try (cases h; done)
  rename_i i j
  have h' : (if j ≠ 0 then some (D.int (i.fmod j)) else none) = some res := h
  split at h'
  · cases h'
    rename_i hl
    cases hx; cases hy
    exact ⟨_, _, rfl, rfl, hl, q _ H (Same.refl H) (.int _)⟩
  · cases h'
theorem s_pow {K : Kw} : Op2 K (rI CPow fun i j => .int (i ^ j.toNat)) powD := by
  intro O H x y d e res Q hd hx hy h q
  cases d <;> cases e <;> try (cases h; done)
  rename_i i j
  have h' : (if 0 ≤ j ∧ j ≤ 1000000 ∧ i.natAbs < 2 ^ 64 then some (D.int (i ^ j.toNat)) else none) = some res := h
  split at h'
  · cases h'
    rename_i hl
    cases hx; cases hy
    exact ⟨_, _, rfl, rfl, hl, q _ H (Same.refl H) (.int _)⟩
  · cases h'
theorem s_shl {K : Kw} : Op2 K (rI CPow fun i j => .int (i * 2 ^ j.toNat)) shlD := by
  intro O H x y d e res Q hd hx hy h q
  cases d <;> cases e <;> try (cases h; done)
  rename_i i j
  have h' : (if 0 ≤ j ∧ j ≤ 1000000 ∧ i.natAbs < 2 ^ 64 then some (D.int (i * 2 ^ j.toNat)) else none) = some res := h
  split at h'
  · cases h'
    rename_i hl
    cases hx; cases hy
    exact ⟨_, _, rfl, rfl, hl, q _ H (Same.refl H) (.int _)⟩
  · cases h'
theorem s_or {K : Kw} : Op2 K (rI0 fun i j => .int (Builtin.bitOr i j)) orD := by
  intro O H x y d e res Q hd hx hy h q
  cases d <;> cases e <;> try (cases h; done)
  cases hx; cases hy; cases h
  exact ⟨_, _, rfl, rfl, q _ H (Same.refl H) (.int _)⟩
end

/-! ### order -/
def cmpI (p : Int → Int → Bool) : D → D → Option D
  | .int i, .int j => some (.bl (p i j))
  | _, _ => none
abbrev ltD := cmpI fun i j => decide (i < j)
abbrev leD := cmpI fun i j => decide (i ≤ j)
abbrev gtD := cmpI fun i j => decide (j < i)
abbrev geD := cmpI fun i j => decide (j ≤ i)
theorem s_cmpI {K : Kw} (p : Int → Int → Bool) : Op2 K (rI0 fun i j => .bl (p i j)) (cmpI p) := by
  intro O H x y d e res Q hd hx hy h q
  cases d <;> cases e <;> try (cases h; done)
  cases hx; cases hy; cases h
  exact ⟨_, _, rfl, rfl, q _ H (Same.refl H) (.bl _)⟩
theorem b_cmpI {p : Int → Int → Bool} : ∀ d e z, cmpI p d e = some z → ∃ b, z = .bl b := by
  intro d e z h
  cases d <;> cases e <;> try (cases h; done)
  cases h
  exact ⟨_, rfl⟩

/-! ### equality -/
def flat : D → Bool
  | .non => true | .bl _ => true | .int _ => true | .str _ => true | _ => false
def flV : D → V
  | .non => .non | .bl b => .bl b | .int i => .int i | .str x => .str x | _ => .non
def eqF : D → D → Bool
  | .non, .non => true
  | .bl a, .bl b => a == b
  | .bl a, .int b => (if a then 1 else 0) == b
  | .int a, .bl b => a == (if b then 1 else 0)
  | .int a, .int b => a == b
  | .str a, .str b => a == b
  | _, _ => false
theorem flat_of {K : Kw} {H : Fz} {v : V} {d : D} (h : DV K H v d) (f : flat d = true) : v = flV d ∧ flatV v = true := by
  cases d <;> (try (cases f; done)) <;> cases h <;> exact ⟨rfl, rfl⟩
theorem eqV_flV {d e : D} (f : flat d = true) (g : flat e = true) : eqV (flV d) (flV e) = eqF d e := by
  cases d <;> (try (cases f; done)) <;> cases e <;> (try (cases g; done)) <;> rfl
mutual
def toPy : D → Option PyData
  | .non => some .none
  | .bl b => some (.bool b)
  | .int i => some (.int i)
  | .str x => some (.str x)
  | .tup xs => (toPys xs).map .tuple
  | .lst xs => (toPys xs).map .list
  | _ => none
def toPys : List D → Option (List PyData)
  | [] => some []
  | x :: xs => (toPy x).bind fun p => (toPys xs).map fun ps => p :: ps
end
section
variable {K : Kw} {H : Fz}
mutual
theorem dp_of : ∀ (d : D) (v : V) (p : PyData), DV K H v d → toPy d = some p → Dp K.K H.h v p
  | .non, _, _, h, e => by cases h; cases e; exact .non
  | .bl b, _, _, h, e => by cases h; cases e; exact .bl b
  | .int b, _, _, h, e => by cases h; cases e; exact .int b
  | .str b, _, _, h, e => by cases h; cases e; exact .str b
  | .fn _, _, _, _, e => by cases e
  | .scr _, _, _, _, e => by cases e
  | .dct _ _, _, _, _, e => by cases e
  | .obj _ _ _, _, _, _, e => by cases e
  | .ce _, _, _, _, e => by cases e
  | .tpx _, _, _, _, e => by cases e
  | .tup ds, _, _, h, e => by
    rw [toPy] at e
    obtain ⟨ps, e1, e2⟩ := Option.map_eq_some_iff.mp e
    subst e2
    obtain ⟨a, vs, rfl, s, t⟩ := h.tup_of
    exact .tup s (dps_of ds vs ps t e1)
  | .lst ds, _, _, h, e => by
    rw [toPy] at e
    obtain ⟨ps, e1, e2⟩ := Option.map_eq_some_iff.mp e
    subst e2
    obtain ⟨a, vs, rfl, s, t⟩ := h.lst_of
    exact .lst (.of s) (dps_of ds vs ps t e1)
theorem dps_of : ∀ (ds : List D) (vs : List V) (ps : List PyData), DVs K H vs ds → toPys ds = some ps → DpAll K.K H.h vs ps
  | [], _, _, h, e => by cases h; cases e; exact .nil
  | d :: ds, _, _, h, e => by
    rw [toPys] at e
    obtain ⟨p, e1, e2⟩ := Option.bind_eq_some_iff.mp e
    obtain ⟨ps, e3, e4⟩ := Option.map_eq_some_iff.mp e2
    subst e4
    cases h with
    | cons a b => exact .cons (dp_of d _ p a e1) (dps_of ds _ ps b e3)
end
end
/-- == by data: scalars of one kind, or data at any depth -/
def scalD : D → D → Bool
  | .int _, .int _ => true | .bl _, .bl _ => true | .str _, .str _ => true | _, _ => false
def eqB (d e : D) : Option Bool := if scalD d e = true then some (eqF d e) else
  match toPy d, toPy e with
  | some a, some b => if (SeqAt.shaped a && SeqAt.shaped b) = true then some (PyData.eqv a b) else none
  | _, _ => none
def eqD (d e : D) : Option D := (eqB d e).map .bl
def neD (d e : D) : Option D := (eqB d e).map fun b => .bl (!b)
def rEqM (K : Fg) : R2 := fun x y H Q => rEq x y H Q ∨ rEqD K x y H Q
def rNeM (K : Fg) : R2 := fun x y H Q => rNe x y H Q ∨ rNeD K x y H Q
section
variable {X : Cx}
theorem o_eq (hu : X.A.units + 64 < cLine) : OpR X (compareOp .Eq) (rEqM X.K) := op_eq.or (op_eqD hu)
theorem o_ne (hu : X.A.units + 64 < cLine) : OpR X (compareOp .NotEq) (rNeM X.K) := op_ne.or (op_neD hu)
end
theorem eqB_scal {K : Kw} {H : Fz} {x y : V} {d e : D} (hx : DV K H x d) (hy : DV K H y e) (s : scalD d e = true) : scal x y = true ∧ decide (x = y) = eqF d e := by
  cases d <;> (try (cases s; done)) <;> cases e <;> (try (cases s; done)) <;> cases hx <;> cases hy
  · exact ⟨rfl, by rw [dec_bl]; rfl⟩
  · exact ⟨rfl, by rw [dec_int]; rfl⟩
  · exact ⟨rfl, by rw [dec_str]; rfl⟩
theorem eqB_data {d e : D} {b : Bool} (s : scalD d e = false) (h : eqB d e = some b) : ∃ p q, toPy d = some p ∧ toPy e = some q ∧ SeqAt.shaped p = true ∧ SeqAt.shaped q = true ∧ b = PyData.eqv p q := by
  unfold eqB at h
  rw [if_neg (by rw [s]; decide)] at h
  cases h1 : toPy d with
  | none => rw [h1] at h; cases h
  | some p =>
    cases h2 : toPy e with
    | none => rw [h1, h2] at h; cases h
    | some q =>
      rw [h1, h2] at h
      have h' : (if (SeqAt.shaped p && SeqAt.shaped q) = true then some (PyData.eqv p q) else none) = some b := h
      split at h'
      · rename_i c
        obtain ⟨c1, c2⟩ := Bool.and_eq_true_iff.mp c
        cases h'
        exact ⟨p, q, rfl, rfl, c1, c2, rfl⟩
      · cases h'
theorem s_eq {K : Kw} : Op2 K (rEqM K.K) eqD := by
  intro O H x y d e res Q hd hx hy h q
  obtain ⟨b, hb, rfl⟩ := Option.map_eq_some_iff.mp h
  cases s : scalD d e with
  | true =>
    obtain ⟨h1, h2⟩ := eqB_scal hx hy s
    have : b = eqF d e := by
      unfold eqB at hb
      rw [if_pos s] at hb
      exact (Option.some.inj hb).symm
    subst this
    exact .inl ⟨h1, by rw [h2]; exact q _ H (Same.refl H) (.bl _)⟩
  | false =>
    obtain ⟨p, r, h1, h2, h3, h4, rfl⟩ := eqB_data s hb
    exact .inr ⟨p, r, dp_of d x p (DV.mono (wo_al O H) _ _ hx) h1, dp_of e y r (DV.mono (wo_al O H) _ _ hy) h2, h3, h4, q _ H (Same.refl H) (.bl _)⟩
theorem s_ne {K : Kw} : Op2 K (rNeM K.K) neD := by
  intro O H x y d e res Q hd hx hy h q
  obtain ⟨b, hb, rfl⟩ := Option.map_eq_some_iff.mp h
  cases s : scalD d e with
  | true =>
    obtain ⟨h1, h2⟩ := eqB_scal hx hy s
    have : b = eqF d e := by
      unfold eqB at hb
      rw [if_pos s] at hb
      exact (Option.some.inj hb).symm
    subst this
    exact .inl ⟨h1, by rw [h2]; exact q _ H (Same.refl H) (.bl _)⟩
  | false =>
    obtain ⟨p, r, h1, h2, h3, h4, rfl⟩ := eqB_data s hb
    exact .inr ⟨p, r, dp_of d x p (DV.mono (wo_al O H) _ _ hx) h1, dp_of e y r (DV.mono (wo_al O H) _ _ hy) h2, h3, h4, q _ H (Same.refl H) (.bl _)⟩
theorem b_eq : ∀ d e z, eqD d e = some z → ∃ b, z = .bl b := fun d e z h => by
  obtain ⟨b, _, rfl⟩ := Option.map_eq_some_iff.mp h
  exact ⟨b, rfl⟩
theorem b_ne : ∀ d e z, neD d e = some z → ∃ b, z = .bl b := fun d e z h => by
  obtain ⟨b, _, rfl⟩ := Option.map_eq_some_iff.mp h
  exact ⟨_, rfl⟩

/-! ### is None, in -/
def isNo : D → Bool
  | .non => true
  | _ => false
def isD : D → D → Option D
  | d, .non => some (.bl (isNo d))
  | _, _ => none
def isntD : D → D → Option D
  | d, .non => some (.bl (!isNo d))
  | _, _ => none
theorem isNo_of {K : Kw} {H : Fz} {v : V} {d : D} (h : DV K H v d) : decide (v = V.non) = isNo d := by
  cases d <;> cases h <;> rfl
theorem s_is {K : Kw} : Op2 K (fun x y H Q => y = .non ∧ Q (.bl (decide (x = .non))) H) isD := by
  intro O H x y d e res Q hd hx hy h q
  cases e <;> (try (cases d <;> cases h; done))
  cases hy
  have h' : some (D.bl (isNo d)) = some res := by cases d <;> exact h
  cases h'
  exact ⟨rfl, by rw [isNo_of hx]; exact q _ H (Same.refl H) (.bl _)⟩
theorem s_isnt {K : Kw} : Op2 K (fun x y H Q => y = .non ∧ Q (.bl (!decide (x = .non))) H) isntD := by
  intro O H x y d e res Q hd hx hy h q
  cases e <;> (try (cases d <;> cases h; done))
  cases hy
  have h' : some (D.bl (!isNo d)) = some res := by cases d <;> exact h
  cases h'
  exact ⟨rfl, by rw [isNo_of hx]; exact q _ H (Same.refl H) (.bl _)⟩
theorem b_is : ∀ d e z, isD d e = some z → ∃ b, z = .bl b := fun d e z h => by
  cases e <;> (try (cases d <;> cases h; done))
  cases d <;> cases h <;> exact ⟨_, rfl⟩
theorem b_isnt : ∀ d e z, isntD d e = some z → ∃ b, z = .bl b := fun d e z h => by
  cases e <;> (try (cases d <;> cases h; done))
  cases d <;> cases h <;> exact ⟨_, rfl⟩
def inB (d : D) (xs : List D) : Option Bool := if (flat d && xs.all flat) = true then some (xs.any fun y => eqF y d) else none
def inD : D → D → Option D
  | d, .tup xs => (inB d xs).map .bl
  | d, .lst xs => (inB d xs).map .bl
  | _, _ => none
def ninD : D → D → Option D
  | d, .tup xs => (inB d xs).map fun b => .bl (!b)
  | d, .lst xs => (inB d xs).map fun b => .bl (!b)
  | _, _ => none
theorem flats_of {K : Kw} {H : Fz} : ∀ {vs : List V} {ds : List D}, DVs K H vs ds → ds.all flat = true → vs = ds.map flV ∧ vs.all flatV = true
  | _, _, .nil, _ => ⟨rfl, rfl⟩
  | _, _, .cons a t, f => by
    rw [List.all_cons, Bool.and_eq_true] at f
    obtain ⟨e1, f1⟩ := flat_of a f.1
    obtain ⟨e2, f2⟩ := flats_of t f.2
    refine ⟨by rw [e1, e2]; rfl, ?_⟩
    rw [List.all_cons, f1, f2]
    rfl
theorem any_flV {d : D} (f : flat d = true) : ∀ {ds : List D}, ds.all flat = true → ((ds.map flV).any fun y => eqV y (flV d)) = ds.any fun y => eqF y d
  | [], _ => rfl
  | e :: ds, g => by
    rw [List.all_cons, Bool.and_eq_true] at g
    rw [List.map_cons, List.any_cons, List.any_cons, eqV_flV g.1 f, any_flV f g.2]
theorem in_core {K : Kw} {H : Fz} {x : V} {vs : List V} {d : D} {ds : List D} {b : Bool} (hx : DV K H x d) (hv : DVs K H vs ds) (h : inB d ds = some b) : flatV x = true ∧ vs.all flatV = true ∧ inV x vs = b := by
  unfold inB at h
  split at h
  · rename_i c
    obtain ⟨c1, c2⟩ := Bool.and_eq_true_iff.mp c
    cases h
    obtain ⟨rfl, f1⟩ := flat_of hx c1
    obtain ⟨rfl, f2⟩ := flats_of hv c2
    exact ⟨f1, f2, any_flV c1 c2⟩
  · cases h
theorem s_in {K : Kw} : Op2 K (rIn K.K false) inD := by
  intro O H x y d e res Q hd hx hy h q
  cases e <;> (try (cases d <;> cases h; done))
  · rename_i xs
    have h' : (inB d xs).map D.bl = some res := by cases d <;> exact h
    obtain ⟨b, hb, rfl⟩ := Option.map_eq_some_iff.mp h'
    obtain ⟨a, vs, rfl, sa, da⟩ := hy.tup_of
    obtain ⟨f1, f2, rfl⟩ := in_core hx da hb
    exact ⟨a, vs, rfl, .inr (sqT_mono (wo_same O H) sa), f1, f2, q _ H (Same.refl H) (.bl _)⟩
  · rename_i xs
    have h' : (inB d xs).map D.bl = some res := by cases d <;> exact h
    obtain ⟨b, hb, rfl⟩ := Option.map_eq_some_iff.mp h'
    obtain ⟨a, vs, rfl, sa, da⟩ := hy.lst_of
    obtain ⟨f1, f2, rfl⟩ := in_core hx da hb
    exact ⟨a, vs, rfl, .inl (.of (wo_same O H _ _ sa)), f1, f2, q _ H (Same.refl H) (.bl _)⟩
theorem s_nin {K : Kw} : Op2 K (rIn K.K true) ninD := by
  intro O H x y d e res Q hd hx hy h q
  cases e <;> (try (cases d <;> cases h; done))
  · rename_i xs
    have h' : (inB d xs).map (fun b => D.bl (!b)) = some res := by cases d <;> exact h
    obtain ⟨b, hb, rfl⟩ := Option.map_eq_some_iff.mp h'
    obtain ⟨a, vs, rfl, sa, da⟩ := hy.tup_of
    obtain ⟨f1, f2, rfl⟩ := in_core hx da hb
    exact ⟨a, vs, rfl, .inr (sqT_mono (wo_same O H) sa), f1, f2, q _ H (Same.refl H) (.bl _)⟩
  · rename_i xs
    have h' : (inB d xs).map (fun b => D.bl (!b)) = some res := by cases d <;> exact h
    obtain ⟨b, hb, rfl⟩ := Option.map_eq_some_iff.mp h'
    obtain ⟨a, vs, rfl, sa, da⟩ := hy.lst_of
    obtain ⟨f1, f2, rfl⟩ := in_core hx da hb
    exact ⟨a, vs, rfl, .inl (.of (wo_same O H _ _ sa)), f1, f2, q _ H (Same.refl H) (.bl _)⟩
theorem b_in : ∀ d e z, inD d e = some z → ∃ b, z = .bl b := fun d e z h => by
  cases e <;> (try (cases d <;> cases h; done)) <;> (rename_i xs; have h' : (inB d xs).map D.bl = some z := (by cases d <;> exact h); obtain ⟨b, _, rfl⟩ := Option.map_eq_some_iff.mp h'; exact ⟨b, rfl⟩)
theorem b_nin : ∀ d e z, ninD d e = some z → ∃ b, z = .bl b := fun d e z h => by
  cases e <;> (try (cases d <;> cases h; done)) <;> (rename_i xs; have h' : (inB d xs).map (fun b => D.bl (!b)) = some z := (by cases d <;> exact h); obtain ⟨b, _, rfl⟩ := Option.map_eq_some_iff.mp h'; exact ⟨_, rfl⟩)
end MB

/-! Expressions by values, further: truth, displays, places, calls. -/
namespace MB
open PySem PySem.Spec PyProof.Rows L2

/-! ### truth -/
theorem truV_of {K : Kw} {H : Fz} {v : V} {d : D} {b : Bool} (h : DV K H v d) (t : truth d = some b) : TruV K.K v H.h b := by
  cases d <;> (try (cases t; done)) <;> cases h
  · cases t; rfl
  · cases t; rfl
  · cases t; rfl
  · rename_i ds a vs s hs
    cases t
    refine .inr (.inl ⟨vs, s.sq, ?_⟩)
    cases hs <;> rfl
  · rename_i ds a vs s hs
    cases t
    refine .inl ⟨vs, .of s, ?_⟩
    cases hs <;> rfl
def eNot (fa : EX) : EX := fun ρ => (fa ρ).bind fun d ρ1 => match truth d with
  | some b => .ok (.bl (!b)) ρ1
  | none => .stuck
def eAnd (fa fb : EX) : EX := fun ρ => (fa ρ).bind fun d ρ1 => match truth d with
  | some true => fb ρ1
  | some false => .ok d ρ1
  | none => .stuck
def eOr (fa fb : EX) : EX := fun ρ => (fa ρ).bind fun d ρ1 => match truth d with
  | some true => .ok d ρ1
  | some false => fb ρ1
  | none => .stuck
def eIf (ft fa fb : EX) : EX := fun ρ => (ft ρ).bind fun d ρ1 => match truth d with
  | some true => fa ρ1
  | some false => fb ρ1
  | none => .stuck
section
variable {X : Cx} {hx : Hx} {W : WX} {a b c : Expr} {rest : List Expr} {fa fb fc : EX} {pos : Pos}
/-- an expression of any kind as a test -/
theorem r_tru (ha : PE X a (tX X.kw hx W fa)) (he : ∀ whole, isTrue a X.env whole = (do let v ← whole; standAt a.pos; holding [v] (truthy v)) := by intro _; rfl) : PT X a (tT X.kw hx W fa) :=
  (pt_truth ha he).imp fun σ H Q h => by
    obtain ⟨F, ρ, ⟨O, r⟩, hp⟩ := h
    refine ⟨F, ρ, ⟨O, r⟩, ?_⟩
    cases e : fa ρ with
    | ok d ρ1 =>
      rw [e] at hp
      obtain ⟨k, hb, hk⟩ := hp
      intro v H1 hv
      obtain ⟨O1, r1, dv⟩ := hv
      exact ⟨k, truV_of (DV.mono (wo_al O1 H1) _ _ dv) hb, hk H1 ⟨O1, r1⟩⟩
    | err x ρ1 => rw [e] at hp; exact hp
    | stuck => rw [e] at hp; exact hp
theorem r_notT (ha : PT X a (tT X.kw hx W fa)) : PT X (.UnaryOp .Not a pos) (tT X.kw hx W (eNot fa)) :=
  (pt_not ha).imp fun σ H Q h => by
    obtain ⟨F, ρ, ⟨O, r⟩, hp⟩ := h
    refine bindTT r hp (fun d ρ1 q => ?_) fun d b ρ1 H1 O1 tb r1 s1 q => ?_
    · cases t : truth d with
      | none => rw [t] at q; exact q.elim
      | some b => exact ⟨b, rfl⟩
    · rw [tb] at q
      obtain ⟨b', hb', k⟩ := q
      cases hb'
      exact k H1 ⟨O1, r1⟩
theorem r_not (ha : PE X a (tX X.kw hx W fa)) : PE X (.UnaryOp .Not a pos) (tX X.kw hx W (eNot fa)) :=
  (pe_notT ha).imp fun σ H Q h => by
    obtain ⟨F, ρ, ⟨O, r⟩, hp⟩ := h
    refine bindX r hp fun d ρ1 v H1 O1 r1 s1 dv q => ?_
    cases t : truth d with
    | none => rw [t] at q; exact q.elim
    | some b =>
      rw [t] at q
      exact ⟨b, truV_of (DV.mono (wo_al O1 H1) _ _ dv) t, q _ H1 ⟨O1, r1, .bl _⟩⟩
theorem r_and (ha : PE X a (tX X.kw hx W fa)) (hb : PE X (.BoolOp .And (b :: rest) pos) (tX X.kw hx W fb)) : PE X (.BoolOp .And (a :: b :: rest) pos) (tX X.kw hx W (eAnd fa fb)) :=
  (pe_andT ha hb).imp fun σ H Q h => by
    obtain ⟨F, ρ, ⟨O, r⟩, hp⟩ := h
    refine bindX r hp fun d ρ1 v H1 O1 r1 s1 dv q => ?_
    cases t : truth d with
    | none => rw [t] at q; exact q.elim
    | some b =>
      rw [t] at q
      refine ⟨b, truV_of (DV.mono (wo_al O1 H1) _ _ dv) t, ?_⟩
      cases b with
      | true =>
        first
          | exact ⟨F, ρ1, ⟨O1, r1⟩, q⟩
          | (rw [if_pos rfl]; exact ⟨F, ρ1, ⟨O1, r1⟩, q⟩)
      | false =>
        first
          | exact q _ H1 ⟨O1, r1, dv⟩
          | (rw [if_neg Bool.false_ne_true]; exact q _ H1 ⟨O1, r1, dv⟩)
theorem r_or (ha : PE X a (tX X.kw hx W fa)) (hb : PE X (.BoolOp .Or (b :: rest) pos) (tX X.kw hx W fb)) : PE X (.BoolOp .Or (a :: b :: rest) pos) (tX X.kw hx W (eOr fa fb)) :=
  (pe_orT ha hb).imp fun σ H Q h => by
    obtain ⟨F, ρ, ⟨O, r⟩, hp⟩ := h
    refine bindX r hp fun d ρ1 v H1 O1 r1 s1 dv q => ?_
    cases t : truth d with
    | none => rw [t] at q; exact q.elim
    | some b =>
      rw [t] at q
      refine ⟨b, truV_of (DV.mono (wo_al O1 H1) _ _ dv) t, ?_⟩
      cases b with
      | true =>
        first
          | exact q _ H1 ⟨O1, r1, dv⟩
          | (rw [if_pos rfl]; exact q _ H1 ⟨O1, r1, dv⟩)
      | false =>
        first
          | exact ⟨F, ρ1, ⟨O1, r1⟩, q⟩
          | (rw [if_neg Bool.false_ne_true]; exact ⟨F, ρ1, ⟨O1, r1⟩, q⟩)
theorem r_one {op} (ha : PE X a (tX X.kw hx W fa)) : PE X (.BoolOp op [a] pos) (tX X.kw hx W fa) := pe_one ha
theorem r_andT (ha : PT X a (tT X.kw hx W fa)) (hb : PW X (.BoolOp .And (b :: rest) pos) (tT X.kw hx W fb)) : PW X (.BoolOp .And (a :: b :: rest) pos) (tT X.kw hx W (eAnd fa fb)) :=
  (pw_and ha hb).imp fun σ H Q h => by
    obtain ⟨F, ρ, ⟨O, r⟩, hp⟩ := h
    refine bindTT r hp (fun d ρ1 q => ?_) fun d b ρ1 H1 O1 tb r1 s1 q => ?_
    · cases t : truth d with
      | none => rw [t] at q; exact q.elim
      | some b => exact ⟨b, rfl⟩
    · rw [tb] at q
      cases b with
      | true =>
        rw [if_pos rfl]
        exact ⟨F, ρ1, ⟨O1, r1⟩, q⟩
      | false =>
        rw [if_neg Bool.false_ne_true]
        obtain ⟨b', hb', k⟩ := q
        rw [tb] at hb'
        cases hb'
        exact k H1 ⟨O1, r1⟩
theorem r_orT (ha : PT X a (tT X.kw hx W fa)) (hb : PW X (.BoolOp .Or (b :: rest) pos) (tT X.kw hx W fb)) : PW X (.BoolOp .Or (a :: b :: rest) pos) (tT X.kw hx W (eOr fa fb)) :=
  (pw_or ha hb).imp fun σ H Q h => by
    obtain ⟨F, ρ, ⟨O, r⟩, hp⟩ := h
    refine bindTT r hp (fun d ρ1 q => ?_) fun d b ρ1 H1 O1 tb r1 s1 q => ?_
    · cases t : truth d with
      | none => rw [t] at q; exact q.elim
      | some b => exact ⟨b, rfl⟩
    · rw [tb] at q
      cases b with
      | true =>
        rw [if_pos rfl]
        obtain ⟨b', hb', k⟩ := q
        rw [tb] at hb'
        cases hb'
        exact k H1 ⟨O1, r1⟩
      | false =>
        rw [if_neg Bool.false_ne_true]
        exact ⟨F, ρ1, ⟨O1, r1⟩, q⟩
theorem r_andT1 (ha : PT X a (tT X.kw hx W fa)) : PW X (.BoolOp .And [a] pos) (tT X.kw hx W fa) := pw_and1 ha
theorem r_orT1 (ha : PT X a (tT X.kw hx W fa)) : PW X (.BoolOp .Or [a] pos) (tT X.kw hx W fa) := pw_or1 ha
theorem r_ifE (hc : PT X c (tT X.kw hx W fc)) (ha : PE X a (tX X.kw hx W fa)) (hb : PE X b (tX X.kw hx W fb)) : PE X (.IfExp c a b pos) (tX X.kw hx W (eIf fc fa fb)) :=
  (pe_ifExp hc ha hb).imp fun σ H Q h => by
    obtain ⟨F, ρ, ⟨O, r⟩, hp⟩ := h
    refine bindT r hp (fun d ρ1 q => ?_) fun d b ρ1 H1 O1 tb r1 s1 q => ?_
    · cases t : truth d with
      | none => rw [t] at q; exact q.elim
      | some b => exact ⟨b, rfl⟩
    · rw [tb] at q
      cases b with
      | true =>
        rw [if_pos rfl]
        exact ⟨F, ρ1, ⟨O1, r1⟩, q⟩
      | false =>
        rw [if_neg Bool.false_ne_true]
        exact ⟨F, ρ1, ⟨O1, r1⟩, q⟩
/-! ### a chain of two comparisons -/
def eChain (f g : D → D → Option D) (fa fb fc : EX) : EX := fun ρ => (fa ρ).bind fun d ρ1 => (fb ρ1).bind fun e ρ2 => match f d e with
  | some (.bl true) => (fc ρ2).bind fun z ρ3 => match g e z with
    | some y => .ok y ρ3
    | none => .stuck
  | some (.bl false) => .ok (.bl false) ρ2
  | _ => .stuck
theorem r_chainT {op op' : CmpOp} {r r' : R2} {f g : D → D → Option D} (ho : OpR X (compareOp op) r) (ho' : OpR X (compareOp op') r') (h2 : Op2 X.kw r f) (h2' : Op2 X.kw r' g) (hbl : ∀ d e z, g d e = some z → ∃ b, z = .bl b)
    (ha : PE X a (tX X.kw hx W fa)) (hb : PE X b (tX X.kw hx W fb)) (hc : PE X c (tX X.kw hx W fc)) (hm : lastMarks [op, op'] [b, c] = false := by with_unfolding_all rfl) :
    PT X (.Compare a [op, op'] [b, c] pos) (tT X.kw hx W (eChain f g fa fb fc)) :=
  (pt_chain ho ho' ha hb hc hm).imp fun σ H Q h => by
    obtain ⟨F, ρ, ⟨O, r⟩, hp⟩ := h
    refine bindXT r hp fun d ρ1 v H1 O1 r1 s1 dv hp1 => ?_
    refine bindXT r1 hp1 fun e ρ2 u H2 O2 r2 s2 du hp2 => ?_
    cases q : f d e with
    | none => rw [q] at hp2; exact hp2.elim
    | some z =>
      rw [q] at hp2
      refine h2 O2 H2 v u d e z _ r2.dom (DV.mono s2 _ _ dv) du q fun v' H' s' dv' => ?_
      cases z <;> (try exact (hp2 : False).elim)
      rename_i b
      cases dv'
      refine ⟨b, rfl, ?_⟩
      have r3 := r2.grow s'
      cases b with
      | false =>
        rw [if_neg Bool.false_ne_true]
        obtain ⟨b', hb', k⟩ := hp2
        cases hb'
        exact ⟨false, rfl, k H' ⟨O2, r3⟩⟩
      | true =>
        rw [if_pos rfl]
        refine bindXT r3 hp2 fun z ρ3 w' H4 O4 r4 s4 dw hp3 => ?_
        cases q2 : g e z with
        | none => rw [q2] at hp3; exact hp3.elim
        | some y =>
          rw [q2] at hp3
          obtain ⟨b2, rfl⟩ := hbl e z y q2
          refine h2' O4 H4 u w' e z _ _ r4.dom (DV.mono ((wo_mono s').trans s4) _ _ du) dw q2 fun v5 H5 s5 dv5 => ?_
          cases dv5
          obtain ⟨b', hb', k⟩ := hp3
          cases hb'
          exact ⟨b2, rfl, k H5 ⟨O4, r4.grow s5⟩⟩
end

/-! ### one value -/
def Op1 (K : Kw) (r : V → Hp → VK → Prop) (op : D → Option D) : Prop := ∀ (O : Ow) (H : Hp) (x : V) (d res : D) (Q : VK), (∀ a ∈ O, ∃ o, H a = some o) → DV K (wo O H) x d → op d = some res →
  (∀ v H', Same H H' → DV K (wo O H') v res → Q v H') → r x H Q
def e1 (op : D → Option D) (fa : EX) : EX := fun ρ => (fa ρ).bind fun d ρ1 => match op d with
  | some z => .ok z ρ1
  | none => .stuck
def negD : D → Option D
  | .int i => some (.int (-i))
  | _ => none
theorem s_neg {K : Kw} : Op1 K (rU fun i => .int (-i)) negD := by
  intro O H x d res Q hd hx h q
  cases d <;> (try (cases h; done))
  cases hx; cases h
  exact ⟨_, rfl, q _ H (Same.refl H) (.int _)⟩
theorem r_un {X : Cx} {hx : Hx} {W : WX} {op : UnaryOp} {r : V → Hp → VK → Prop} {f : D → Option D} {a : Expr} {fa : EX} {pos : Pos} (ho : UnR X (unaryOp op) r) (h1 : Op1 X.kw r f) (ha : PE X a (tX X.kw hx W fa)) :
    PE X (.UnaryOp op a pos) (tX X.kw hx W (e1 f fa)) := (pe_un ho ha).imp fun σ H Q h => by
  obtain ⟨F, ρ, ⟨O, r0⟩, hp⟩ := h
  refine bindX r0 hp fun d ρ1 v H1 O1 r1 s1 dv hp1 => ?_
  cases q : f d with
  | none => rw [q] at hp1; exact hp1.elim
  | some z =>
    rw [q] at hp1
    exact h1 O1 H1 v d z Q r1.dom dv q fun v' H' s' dv' => hp1 v' H' ⟨O1, r1.grow s', dv'⟩

/-! ### several values, from the left -/
def evs : List EX → (List D → En → Rs) → En → Rs
  | [], k, ρ => k [] ρ
  | f :: fs, k, ρ => (f ρ).bind fun d ρ1 => evs fs (fun ds ρ2 => k (d :: ds) ρ2) ρ1
def tA (K : Kw) (hx : Hx) (W : WX) (fs : List EX) : TA := fun σ H Qa => ∃ (F : Fm) (ρ : En) (k : List D → En → Rs) (Q : VK), Rl K hx F ρ σ H ∧ Po K hx F W σ (evs fs k ρ) Q ∧
  ∀ (F1 : Fm) (ds : List D) (ρ1 : En) (vs : List V) (H1 : Hp) (O1 : Ow), ds.length = fs.length → Stp F.O F.H F1.O F1.H → RO K hx F1 ρ1 σ H1 O1 → DVs K (wo O1 H1) vs ds → Po K hx F1 W σ (k ds ρ1) Q → Qa vs H1
theorem _root_.L2.PA.imp {X : Cx} {es : List Expr} {t t' : TA} (h : PA X es t) (i : ∀ σ H Q, t' σ H Q → t σ H Q) : PA X es t' := ⟨fun pos pins s σ H Q I q => h.run pos pins s σ H Q I (i σ H Q q)⟩
section
variable {X : Cx} {hx : Hx} {W : WX} {e : Expr} {es : List Expr} {f : EX} {fs : List EX} {pos : Pos}
theorem a_nil : PA X [] (tA X.kw hx W []) := pa_nil.imp fun σ H Q h => by
  obtain ⟨F, ρ, k, Q0, ⟨O, r⟩, hp, hk⟩ := h
  exact hk F [] ρ [] H O rfl (Stp.refl _ _) r .nil hp
theorem a_cons (ha : PE X e (tX X.kw hx W f)) (hr : PA X es (tA X.kw hx W fs)) (hs : starEach (e :: es) X.env = (false, eval e X.env) :: starEach es X.env := by rfl) : PA X (e :: es) (tA X.kw hx W (f :: fs)) :=
  (pa_cons ha hr hs).imp fun σ H Qa h => by
    obtain ⟨F, ρ, k, Q, ⟨O, r⟩, hp, hk⟩ := h
    refine bindX r hp fun d ρ1 v H1 O1 r1 s1 dv hp1 => ?_
    refine ⟨⟨O1, H1⟩, ρ1, fun ds ρ2 => k (d :: ds) ρ2, Q, ⟨O1, r1.re⟩, hp1.fr r1.fr, fun F1 ds ρ2 vs H2 O2 ln s2 r2 dvs q => ?_⟩
    exact hk F1 (d :: ds) ρ2 (v :: vs) H2 O2 (by rw [List.length_cons, List.length_cons, ln]) (r1.fr.trans s2) r2 (.cons (DV.mono (s2.trans r2.fr).fs _ _ dv) dvs) q
/-- a reading over arguments from one of all of them -/
theorem tA_of {K : Kw} {F : Fm} {ρ : En} {σ : MB.St} {H : Hp} {O : Ow} {k : List D → En → Rs} {Q : VK} {Qa : List V → Hp → Prop} (r : RO K hx F ρ σ H O) (hp : Po K hx F W σ (evs fs k ρ) Q)
    (hk : ∀ (F1 : Fm) (ds : List D) (ρ1 : En) (vs : List V) (H1 : Hp) (O1 : Ow), ds.length = fs.length → RO K hx F1 ρ1 σ H1 O1 → DVs K (wo O1 H1) vs ds → Po K hx F1 W σ (k ds ρ1) Q → Qa vs H1) : tA K hx W fs σ H Qa :=
  ⟨F, ρ, k, Q, ⟨O, r⟩, hp, fun F1 ds ρ1 vs H1 O1 ln _ r1 d1 p1 => hk F1 ds ρ1 vs H1 O1 ln r1 d1 p1⟩
def eTup (fs : List EX) : EX := evs fs fun ds ρ => if ds.length ≤ 1000 then .ok (.tup ds) ρ else .stuck
def eLst (fs : List EX) : EX := evs fs fun ds ρ => if ds.length ≤ 1000 then .ok (.lst ds) ρ else .stuck
theorem le_line {n : Nat} (h : n ≤ 1000) : n ≤ sizeLine := by rw [sizeLine_eq]; omega
/-- a tuple display: the new one is known to carry no dict -/
def tTupB (t : TA) : TE := fun σ H Q => t σ H fun vs H1 => vs.length ≤ sizeLine ∧ ∀ p ob, H1 p = none → ob.dict = none → Q (.ref p) (upd H1 p (.frz ob (.tup vs)))
theorem pe_tupB {n : Nat} {t : TA} (h : PA X es t) : PE X (.Tuple es n pos) (tTupB t) := ⟨fun pins s σ H Q I hq => by
  refine wpAny_Tuple_spliced (thn (h.run pos pins s σ H _ I hq) fun us s1 ⟨vs, H1, I1, r, z, q⟩ => ⟨Nat.le_trans (Nat.le_of_eq r.length.symm) z, ?_⟩)
  have fresh := I1.hok.fresh (Nat.le_refl s1.heap.objs.size)
  refine ⟨.ref s1.heap.objs.size, _, I1.laid (t' := s1.toks) (o := .frz { cls := .type "tuple", data := .seq us.toArray } (.tup vs)) (fun _ _ g => Heap.get?_push_of_some _ g) (Nat.le_refl _) ?_, rfl, q _ _ fresh rfl⟩
  exact ⟨Heap.get?_push_size _ rfl, z, us, r, IsTup.new _ _⟩⟩
theorem r_tup {n : Nat} (h : PA X es (tA X.kw hx W fs)) : PE X (.Tuple es n pos) (tX X.kw hx W (eTup fs)) := (pe_tupB h).imp fun σ H Q h => by
  obtain ⟨F, ρ, ⟨O, r⟩, hp⟩ := h
  refine tA_of r hp fun F1 ds ρ1 vs H1 O1 _ r1 dvs q => ?_
  split at q
  · rename_i hl
    refine ⟨le_line (by rw [dvs.length]; exact hl), fun p ob np nd => ?_⟩
    exact q _ _ ⟨O1, r1.grow (same_upd np), DV.newB r1.dom np nd dvs⟩
  · exact q.elim
theorem r_lst (h : PA X es (tA X.kw hx W fs)) : PE X (.List es pos) (tX X.kw hx W (eLst fs)) := (pe_lst h).imp fun σ H Q h => by
  obtain ⟨F, ρ, ⟨O, r⟩, hp⟩ := h
  refine tA_of r hp fun F1 ds ρ1 vs H1 O1 _ r1 dvs q => ?_
  split at q
  · rename_i hl
    refine ⟨le_line (by rw [dvs.length]; exact hl), fun p np => ?_⟩
    exact q _ _ ⟨O1, r1.grow (same_upd np), DV.newL r1.dom np dvs⟩
  · exact q.elim
end

/-! ### calls of built-ins -/
def CallD (K : Kw) (r : List V → Hp → VK → Prop) (f : List D → Option D) : Prop := ∀ (O : Ow) (H : Hp) (vs : List V) (ds : List D) (res : D) (Q : VK), (∀ a ∈ O, ∃ o, H a = some o) → DVs K (wo O H) vs ds → f ds = some res →
  (∀ v H', Same H H' → DV K (wo O H') v res → Q v H') → r vs H Q
def eCall (f : List D → Option D) (fs : List EX) : EX := evs fs fun ds ρ => match f ds with
  | some d => .ok d ρ
  | none => .stuck
section
variable {X : Cx} {hx : Hx} {W : WX} {e : Expr} {es : List Expr} {fs : List EX} {pos p : Pos} {x : Str} {r : List V → Hp → VK → Prop} {f : List D → Option D}
theorem t_call (hf : CallD X.kw r f) {σ : MB.St} {H : Hp} {Q : VK} (h : tX X.kw hx W (eCall f fs) σ H Q) : tCB r (tA X.kw hx W fs) σ H Q := by
  obtain ⟨F, ρ, ⟨O, r0⟩, hp⟩ := h
  refine tA_of r0 hp fun F1 ds ρ1 vs H1 O1 _ r1 dvs q => ?_
  cases e : f ds with
  | none => rw [e] at q; exact q.elim
  | some d =>
    rw [e] at q
    exact hf O1 H1 vs ds d Q r1.dom dvs e fun v' H' s' dv' => q v' H' ⟨O1, r1.grow s', dv'⟩
theorem r_callB {id : String} (hc : CallR X (.builtin id) r) (hf : CallD X.kw r f) (hm : X.mg x = none) (hv : bootBuiltins x = some (.builtin id)) (ha : PA X (e :: es) (tA X.kw hx W fs)) (hg : Gl X x := by rfl) (hn : x ≠ "__name__" := by decide) (hdb : (x == ("__debug__" : Str)) = false := by decide)
    (he : starEach (e :: es) X.env = (false, eval e X.env) :: starEach es X.env := by rfl) (hpl : (backTo pos (starEach es X.env)).any (·.1) = false := by rfl) : PE X (.Call (.Name x p) (e :: es) [] pos) (tX X.kw hx W (eCall f fs)) :=
  (pe_callB hc hg hm hv ha hn hdb he hpl).imp fun _ _ _ h => t_call hf h
theorem r_callTy {T : String} (hc : CallR X (.type T) r) (hf : CallD X.kw r f) (hm : X.mg x = none) (hv : bootBuiltins x = some (.type T)) (ha : PA X (e :: es) (tA X.kw hx W fs)) (hg : Gl X x := by rfl) (hn : x ≠ "__name__" := by decide) (hdb : (x == ("__debug__" : Str)) = false := by decide)
    (he : starEach (e :: es) X.env = (false, eval e X.env) :: starEach es X.env := by rfl) (hpl : (backTo pos (starEach es X.env)).any (·.1) = false := by rfl) : PE X (.Call (.Name x p) (e :: es) [] pos) (tX X.kw hx W (eCall f fs)) :=
  (pe_callTy hc hg hm hv ha hn hdb he hpl).imp fun _ _ _ h => t_call hf h
end
end MB

/-! Built-in functions, places, slices, by values. -/
namespace MB
open PySem PySem.Spec PyProof.Rows L2

/-! ### the built-in functions -/
def asInts : List D → Option (List Int)
  | [] => some []
  | .int i :: r => (asInts r).map fun ns => i :: ns
  | _ :: _ => none
theorem asInts_ok : ∀ {ds : List D} {ns : List Int}, asInts ds = some ns → ds = ns.map D.int
  | [], _, h => by cases h; rfl
  | d :: ds, ns, h => by
    cases d <;> (try (cases h; done))
    rename_i i
    have h' : (asInts ds).map (fun ns => i :: ns) = some ns := h
    obtain ⟨ms, e1, e2⟩ := Option.map_eq_some_iff.mp h'
    subst e2
    rw [asInts_ok e1]
    rfl
theorem asInts_map : ∀ (ns : List Int), asInts (ns.map D.int) = some ns
  | [] => rfl
  | n :: ns => by
    show (asInts (ns.map D.int)).map (fun ns => n :: ns) = _
    rw [asInts_map ns]
    rfl
def asBools : List D → Option (List Bool)
  | [] => some []
  | .bl i :: r => (asBools r).map fun ns => i :: ns
  | _ :: _ => none
theorem asBools_ok : ∀ {ds : List D} {ns : List Bool}, asBools ds = some ns → ds = ns.map D.bl
  | [], _, h => by cases h; rfl
  | d :: ds, ns, h => by
    cases d <;> (try (cases h; done))
    rename_i i
    have h' : (asBools ds).map (fun ns => i :: ns) = some ns := h
    obtain ⟨ms, e1, e2⟩ := Option.map_eq_some_iff.mp h'
    subst e2
    rw [asBools_ok e1]
    rfl
theorem asBools_map : ∀ (ns : List Bool), asBools (ns.map D.bl) = some ns
  | [] => rfl
  | n :: ns => by
    show (asBools (ns.map D.bl)).map (fun ns => n :: ns) = _
    rw [asBools_map ns]
    rfl
theorem DVs.bools {K : Kw} {H : Fz} : ∀ {vs : List V} {ns : List Bool}, DVs K H vs (ns.map D.bl) → vs = ns.map V.bl
  | vs, [], h => by cases h; rfl
  | vs, n :: ns, h => by
    cases h with
    | cons a t => cases a; rw [DVs.bools t]; rfl
def lenD : List D → Option D
  | [.tup xs] => some (.int xs.length)
  | [.lst xs] => some (.int xs.length)
  | [.scr xs] => some (.int xs.length)
  | [.str x] => if x.length ≤ sizeLine then some (.int x.length) else none
  | _ => none
def intD : List D → Option D
  | [.int i] => some (.int i)
  | [.bl b] => some (.int (if b then 1 else 0))
  | _ => none
def absD : List D → Option D
  | [.int i] => some (.int (if i < 0 then -i else i))
  | _ => none
def minD : List D → Option D
  | [.int i, .int j] => some (.int (if j < i then j else i))
  | _ => none
def maxD : List D → Option D
  | [.int i, .int j] => some (.int (if j > i then j else i))
  | _ => none
def sumD : List D → Option D
  | [.lst xs] => (asInts xs).map fun ns => .int ns.sum
  | _ => none
def allD : List D → Option D
  | [.lst xs] => (asBools xs).map fun ns => .bl (ns.all id)
  | _ => none
def anyD : List D → Option D
  | [.lst xs] => (asBools xs).map fun ns => .bl (ns.any id)
  | _ => none
def sortI (ns : List Int) : List Int := ns.mergeSort fun a b => decide (a ≤ b)
def sortedD : List D → Option D
  | [.lst xs] => (asInts xs).map fun ns => .lst ((sortI ns).map .int)
  | _ => none
def listD : List D → Option D
  | [.lst xs] => some (.lst xs)
  | [.tup xs] => some (.lst xs)
  | _ => none
def tupleD : List D → Option D
  | [.lst xs] => some (.tup xs)
  | [.tup xs] => some (.tup xs)
  | _ => none
def divmodD : List D → Option D
  | [.int i, .int j] => if j ≠ 0 ∧ j.natAbs < 1073741824 then some (.tpx [.int (i.fdiv j), .int (i.fmod j)]) else none
  | _ => none
theorem DVs.one {K : Kw} {H : Fz} {vs : List V} {d : D} (h : DVs K H vs [d]) : ∃ v, vs = [v] ∧ DV K H v d := by
  cases h with
  | cons a t => cases t; exact ⟨_, rfl, a⟩
theorem DVs.two {K : Kw} {H : Fz} {vs : List V} {d e : D} (h : DVs K H vs [d, e]) : ∃ v u, vs = [v, u] ∧ DV K H v d ∧ DV K H u e := by
  cases h with
  | cons a t =>
    obtain ⟨u, rfl, b⟩ := t.one
    exact ⟨_, u, rfl, a, b⟩
theorem sort_unique {a b : List Int} (p : a.Perm b) (ha : a.Pairwise (· ≤ ·)) (hb : b.Pairwise (· ≤ ·)) : a = b :=
  p.eq_of_pairwise (fun x y _ _ h1 h2 => Int.le_antisymm h1 h2) ha hb
theorem sortI_perm (ns : List Int) : (sortI ns).Perm ns := List.mergeSort_perm ns _
theorem sortI_sorted (ns : List Int) : (sortI ns).Pairwise (· ≤ ·) :=
  (List.pairwise_mergeSort (le := fun a b : Int => decide (a ≤ b)) (fun a b c h1 h2 => decide_eq_true (Int.le_trans (of_decide_eq_true h1) (of_decide_eq_true h2))) (fun a b => by
    rcases Int.le_total a b with h | h
    · rw [decide_eq_true h]; rfl
    · rw [decide_eq_true h, Bool.or_true]) ns).imp fun h => of_decide_eq_true h
section
variable {K : Kw} {X : Cx}
theorem s_len : CallD K (fun xs H Q => ∃ x n, xs = [x] ∧ LenV K.K x H n ∧ Q (.int n) H) lenD := by
  intro O H vs ds res Q hd hv h q
  match ds, h with
  | [.tup xs], h =>
    cases h
    obtain ⟨v, rfl, dv⟩ := hv.one
    obtain ⟨a, ws, rfl, s, t⟩ := dv.tup_of
    exact ⟨_, xs.length, rfl, .inr ⟨ws, sqT_mono (wo_same O H) s, t.length.symm⟩, q _ H (Same.refl H) (.int _)⟩
  | [.lst xs], h =>
    cases h
    obtain ⟨v, rfl, dv⟩ := hv.one
    obtain ⟨a, ws, rfl, s, t⟩ := dv.lst_of
    exact ⟨_, xs.length, rfl, .inl ⟨ws, .of (wo_same O H _ _ s), t.length.symm⟩, q _ H (Same.refl H) (.int _)⟩
  | [.scr xs], h =>
    cases h
    obtain ⟨v, rfl, dv⟩ := hv.one
    cases dv with
    | scr s => exact ⟨_, xs.length, rfl, .inl ⟨_, (wo_same O H).seq s, by rw [List.length_map]⟩, q _ H (Same.refl H) (.int _)⟩
  | [.str x], h =>
    have h' : (if x.length ≤ sizeLine then some (D.int x.length) else none) = some res := h
    by_cases hl : x.length ≤ sizeLine
    · rw [if_pos hl] at h'
      cases h'
      obtain ⟨v, rfl, dv⟩ := hv.one
      cases dv
      exact ⟨_, x.length, rfl, ⟨hl, rfl⟩, q _ H (Same.refl H) (.int _)⟩
    · rw [if_neg hl] at h'
      cases h'
theorem s_int : CallD K (fun xs H Q => (∃ i, xs = [.int i] ∧ Q (.int i) H) ∨ ∃ k, xs = [.bl k] ∧ Q (.int (if k then 1 else 0)) H) intD := by
  intro O H vs ds res Q hd hv h q
  match ds, h with
  | [.int i], h =>
    cases h
    obtain ⟨v, rfl, dv⟩ := hv.one
    cases dv
    exact .inl ⟨_, rfl, q _ H (Same.refl H) (.int _)⟩
  | [.bl i], h =>
    cases h
    obtain ⟨v, rfl, dv⟩ := hv.one
    cases dv
    exact .inr ⟨_, rfl, q _ H (Same.refl H) (.int _)⟩
theorem s_abs : CallD K (fun xs H Q => ∃ i, xs = [.int i] ∧ Q (.int (if i < 0 then -i else i)) H) absD := by
  intro O H vs ds res Q hd hv h q
  match ds, h with
  | [.int i], h =>
    cases h
    obtain ⟨v, rfl, dv⟩ := hv.one
    cases dv
    exact ⟨_, rfl, q _ H (Same.refl H) (.int _)⟩
theorem s_min : CallD K (fun xs H Q => ∃ i j, xs = [.int i, .int j] ∧ Q (.int (if j < i then j else i)) H) minD := by
  intro O H vs ds res Q hd hv h q
  match ds, h with
  | [.int i, .int j], h =>
    cases h
    obtain ⟨v, u, rfl, dv, du⟩ := hv.two
    cases dv; cases du
    exact ⟨_, _, rfl, q _ H (Same.refl H) (.int _)⟩
theorem s_max : CallD K (fun xs H Q => ∃ i j, xs = [.int i, .int j] ∧ Q (.int (if j > i then j else i)) H) maxD := by
  intro O H vs ds res Q hd hv h q
  match ds, h with
  | [.int i, .int j], h =>
    cases h
    obtain ⟨v, u, rfl, dv, du⟩ := hv.two
    cases dv; cases du
    exact ⟨_, _, rfl, q _ H (Same.refl H) (.int _)⟩
theorem s_sum : CallD K (rSum K.K) sumD := by
  intro O H vs ds res Q hd hv h q
  match ds, h with
  | [.lst xs], h =>
    have h' : (asInts xs).map (fun ns => D.int ns.sum) = some res := h
    obtain ⟨ns, e1, rfl⟩ := Option.map_eq_some_iff.mp h'
    have e := asInts_ok e1
    subst e
    obtain ⟨v, rfl, dv⟩ := hv.one
    obtain ⟨a, ws, rfl, s, t⟩ := dv.lst_of
    have ew := t.ints
    subst ew
    exact ⟨a, ns, rfl, .of (wo_same O H _ _ s), q _ H (Same.refl H) (.int _)⟩
theorem s_all : CallD K (rAll K.K) allD := by
  intro O H vs ds res Q hd hv h q
  match ds, h with
  | [.lst xs], h =>
    have h' : (asBools xs).map (fun ns => D.bl (ns.all id)) = some res := h
    obtain ⟨ns, e1, rfl⟩ := Option.map_eq_some_iff.mp h'
    have e := asBools_ok e1
    subst e
    obtain ⟨v, rfl, dv⟩ := hv.one
    obtain ⟨a, ws, rfl, s, t⟩ := dv.lst_of
    have ew := t.bools
    subst ew
    exact ⟨a, ns, rfl, .of (wo_same O H _ _ s), q _ H (Same.refl H) (.bl _)⟩
theorem s_any : CallD K (rAny K.K) anyD := by
  intro O H vs ds res Q hd hv h q
  match ds, h with
  | [.lst xs], h =>
    have h' : (asBools xs).map (fun ns => D.bl (ns.any id)) = some res := h
    obtain ⟨ns, e1, rfl⟩ := Option.map_eq_some_iff.mp h'
    have e := asBools_ok e1
    subst e
    obtain ⟨v, rfl, dv⟩ := hv.one
    obtain ⟨a, ws, rfl, s, t⟩ := dv.lst_of
    have ew := t.bools
    subst ew
    exact ⟨a, ns, rfl, .of (wo_same O H _ _ s), q _ H (Same.refl H) (.bl _)⟩
theorem s_sorted : CallD K (rSortedI K.K) sortedD := by
  intro O H vs ds res Q hd hv h q
  match ds, h with
  | [.lst xs], h =>
    have h' : (asInts xs).map (fun ns => D.lst ((sortI ns).map .int)) = some res := h
    obtain ⟨ns, e1, rfl⟩ := Option.map_eq_some_iff.mp h'
    have e := asInts_ok e1
    subst e
    obtain ⟨v, rfl, dv⟩ := hv.one
    obtain ⟨a, ws, rfl, s, t⟩ := dv.lst_of
    have ew := t.ints
    subst ew
    refine ⟨a, ns, rfl, .of (wo_same O H _ _ s), fun ns' p p1 p2 np => ?_⟩
    have e : ns' = sortI ns := sort_unique (p1.trans (sortI_perm ns).symm) p2 (sortI_sorted ns)
    subst e
    exact q _ _ (same_upd np) (DV.newL hd np (DVs.of_ints _))
theorem s_list : CallD K (fun xs H Q => ∃ p ys, xs = [.ref p] ∧ (SqL K.K H p ys ∨ SqT K.K H p ys) ∧ ∀ l, H l = none → Q (.ref l) (upd H l (.lst ys))) listD := by
  intro O H vs ds res Q hd hv h q
  match ds, h with
  | [.lst xs], h =>
    cases h
    obtain ⟨v, rfl, dv⟩ := hv.one
    obtain ⟨a, ws, rfl, s, t⟩ := dv.lst_of
    exact ⟨a, ws, rfl, .inl (.of (wo_same O H _ _ s)), fun l nl => q _ _ (same_upd nl) (DV.newL hd nl t)⟩
  | [.tup xs], h =>
    cases h
    obtain ⟨v, rfl, dv⟩ := hv.one
    obtain ⟨a, ws, rfl, s, t⟩ := dv.tup_of
    exact ⟨a, ws, rfl, .inr (sqT_mono (wo_same O H) s), fun l nl => q _ _ (same_upd nl) (DV.newL hd nl t)⟩
/-- tuple(..) of a list or a tuple: the new one is known to carry no dict -/
def rTupB (K : Fg) : List V → Hp → VK → Prop := fun xs H Q => ∃ p vs, xs = [.ref p] ∧ ((SqL K H p vs ∧ ∀ l ob, H l = none → ob.dict = none → Q (.ref l) (upd H l (.frz ob (.tup vs)))) ∨ (SqT K H p vs ∧ Q (.ref p) H))
theorem call_tupB {X : Cx} : CallR X (.type "tuple") (rTupB X.K) := by
  intro pins s σ H xs us Q I r h
  obtain ⟨p, vs, rfl, h⟩ := h
  obtain ⟨u, rfl, ru⟩ := vals1 r
  cases ru
  rcases h with ⟨sq, q⟩ | ⟨sq, q⟩
  · obtain ⟨ws, e, pl, le⟩ := I.list sq
    have ln := e.length
    refine call_tuple_list pl.isList (fun h' kp => ?_) (by rw [List.size_toArray]; omega)
    have J : Inv X pins σ H { s with heap := h' } := I.kept (t' := s.toks) kp
    refine ⟨.ref h'.objs.size, _, J.laid (t' := s.toks) (o := .frz { cls := .type "tuple", data := .seq ws.toArray } (.tup vs)) (fun _ _ g => Heap.get?_push_of_some _ g) (Nat.le_refl _) ?_, rfl, q _ _ (J.hok.fresh (Nat.le_refl _)) rfl⟩
    exact ⟨Heap.get?_push_size _ rfl, le, ws, e, IsTup.new _ _⟩
  · obtain ⟨ws, e, pl, _⟩ := I.tuple sq
    exact call_tuple_same pl ⟨V.ref p, H, I, rfl, q⟩
theorem s_tuple : CallD K (rTupB K.K) tupleD := by
  intro O H vs ds res Q hd hv h q
  match ds, h with
  | [.lst xs], h =>
    cases h
    obtain ⟨v, rfl, dv⟩ := hv.one
    obtain ⟨a, ws, rfl, s, t⟩ := dv.lst_of
    exact ⟨a, ws, rfl, .inl ⟨.of (wo_same O H _ _ s), fun l ob nl nd => q _ _ (same_upd nl) (DV.newB hd nl nd t)⟩⟩
  | [.tup xs], h =>
    cases h
    obtain ⟨v, rfl, dv⟩ := hv.one
    obtain ⟨a, ws, rfl, s, t⟩ := id dv.tup_of
    exact ⟨a, ws, rfl, .inr ⟨sqT_mono (wo_same O H) s, q _ H (Same.refl H) dv⟩⟩
/-- divmod with a divisor of any sign -/
def rDm : List V → Hp → VK → Prop := fun xs H Q => ∃ i j, xs = [.int i, .int j] ∧ CDivN i j ∧ ∀ p, H p = none → Q (.ref p) (upd H p (.tup [.int (i.fdiv j), .int (i.fmod j)]))
theorem c_divmod : CallR X (.builtin "divmod") rDm := by
  intro pins s σ H xs us Q I r h
  obtain ⟨i, j, rfl, ⟨h1, h2⟩, q⟩ := h
  obtain ⟨u, w', rfl, ⟨t, rfl⟩, ⟨t', rfl⟩⟩ := vals2 r
  refine divmod_int h1 ?_ (.inl (PyProof.noPylong_small h2))
  have hn : H s.heap.objs.size = none := I.hok.fresh (Nat.le_refl _)
  refine ⟨.ref s.heap.objs.size, _, ?_, rfl, q _ hn⟩
  refine I.laid (fun b o e => Heap.get?_push_of_some _ e) (Nat.le_refl _) ⟨by simp only [List.length_cons, List.length_nil]; rw [sizeLine_eq]; decide, [.int (i.fdiv j) s.toks, .int (i.fmod j) (s.toks + 1)], .cons ⟨_, rfl⟩ (.cons ⟨_, rfl⟩ .nil), ?_⟩
  exact ⟨_, Heap.get?_push_size s.heap rfl, rfl, 0, rfl⟩
theorem s_divmod : CallD K rDm divmodD := by
  intro O H vs ds res Q hd hv h q
  match ds, h with
  | [.int i, .int j], h =>
    have h' : (if j ≠ 0 ∧ j.natAbs < 1073741824 then some (D.tpx [.int (i.fdiv j), .int (i.fmod j)]) else none) = some res := h
    by_cases hc : j ≠ 0 ∧ j.natAbs < 1073741824
    · rw [if_pos hc] at h'
      cases h'
      obtain ⟨v, u, rfl, dv, du⟩ := hv.two
      cases dv; cases du
      exact ⟨i, j, rfl, hc, fun p np => q _ _ (same_upd np) (DV.newT hd np (.cons (.int _) (.cons (.int _) .nil)))⟩
    · rw [if_neg hc] at h'
      cases h'
end

/-! ### places -/
def ixD : D → D → Option D
  | .tup xs, .int i => atI xs i
  | .lst xs, .int i => atI xs i
  | .str z, .int i => if z.length ≤ sizeLine then (atI z.cps.toList i).map fun c => .str ⟨#[c]⟩ else none
  | _, _ => none
theorem atI_dvs {K : Kw} {H : Fz} {vs : List V} {ds : List D} {i : Int} {d : D} (h : DVs K H vs ds) (e : atI ds i = some d) : ∃ v, atI vs i = some v ∧ DV K H v d := by
  unfold atI at *
  obtain ⟨j, e1, e2⟩ := Option.bind_eq_some_iff.mp e
  obtain ⟨v, e3, dv⟩ := h.get e2
  exact ⟨v, by rw [h.length, e1]; exact e3, dv⟩
theorem s_ix {K : Kw} : Op2 K (rIx K.K) ixD := by
  intro O H x y d e res Q hd hx hy h q
  cases e <;> (try (cases d <;> cases h; done))
  rename_i i
  cases hy
  cases d <;> (try (cases h; done))
  · rename_i z
    have h' : (if z.length ≤ sizeLine then (atI z.cps.toList i).map (fun c => D.str ⟨#[c]⟩) else none) = some res := h
    split at h'
    · rename_i hl
      obtain ⟨c, e1, rfl⟩ := Option.map_eq_some_iff.mp h'
      cases hx
      exact .inr (.inr ⟨z, i, c, rfl, rfl, hl, e1, q _ H (Same.refl H) (.str _)⟩)
    · cases h'
  · obtain ⟨a, vs, rfl, s, t⟩ := hx.tup_of
    obtain ⟨v, e1, dv⟩ := atI_dvs t h
    exact .inr (.inl ⟨a, vs, i, v, rfl, rfl, sqT_mono (wo_same O H) s, e1, q _ H (Same.refl H) dv⟩)
  · obtain ⟨a, vs, rfl, s, t⟩ := hx.lst_of
    obtain ⟨v, e1, dv⟩ := atI_dvs t h
    exact .inl ⟨a, vs, i, v, rfl, rfl, .of (wo_same O H _ _ s), e1, q _ H (Same.refl H) dv⟩
section
variable {X : Cx} {hx : Hx} {W : WX} {a b : Expr} {fa fb : EX} {pos : Pos}
theorem r_ix (ha : PE X a (tX X.kw hx W fa)) (hb : PE X b (tX X.kw hx W fb)) (hs : PlainIx b := by first | (intro _ _; rfl) | exact fun _ _ => rfl) : PE X (.Subscript a b pos) (tX X.kw hx W (eB ixD fa fb)) :=
  (pe_ix ix_seq ha hb hs).imp fun _ _ _ h => t_op2 s_ix h

/-! ### slices -/
def cutD {α : Type} (xs : List α) (lo hi : Option Int) : List α := (xs.drop (HT.sIx xs.length 0 lo)).take (HT.sIx xs.length xs.length hi - HT.sIx xs.length 0 lo)
def slD : D → Option Int → Option Int → Option D
  | .tup xs, lo, hi => some (.tup (cutD xs lo hi))
  | .lst xs, lo, hi => some (.lst (cutD xs lo hi))
  | .scr ns, lo, hi => some (.lst ((cutD ns lo hi).map .int))
  | .str z, lo, hi => if z.length ≤ sizeLine then some (.str (cutS z lo hi)) else none
  | _, _, _ => none
theorem DVs.cut {K : Kw} {H : Fz} {vs : List V} {ds : List D} (h : DVs K H vs ds) (lo hi : Option Int) : DVs K H (cutV vs lo hi) (cutD ds lo hi) := by
  unfold cutV cutD
  rw [h.length]
  exact (h.drop _).take _
theorem cut_map {α β : Type} (f : α → β) (xs : List α) (lo hi : Option Int) : cutD (xs.map f) lo hi = (cutD xs lo hi).map f := by
  unfold cutD
  rw [List.length_map, List.map_take, List.map_drop]
theorem cutD_all {α : Type} {xs : List α} {lo hi : Option Int} (h : HT.sIx xs.length 0 lo = 0 ∧ HT.sIx xs.length xs.length hi = xs.length) : cutD xs lo hi = xs := by
  unfold cutD
  rw [h.1, h.2]
  simp
/-- a part of a tuple: a new one is known to carry no dict -/
def rSlB (K : Fg) : V → Option Int → Option Int → Hp → VK → Prop := fun x lo hi H Q => ∃ a vs, x = .ref a ∧ SqT K H a vs ∧
  (HT.sIx vs.length 0 lo = 0 ∧ HT.sIx vs.length vs.length hi = vs.length → Q (.ref a) H) ∧
  (¬ (HT.sIx vs.length 0 lo = 0 ∧ HT.sIx vs.length vs.length hi = vs.length) → ∀ p ob, H p = none → ob.dict = none → Q (.ref p) (upd H p (.frz ob (.tup (cutV vs lo hi)))))
theorem sl_tupB {X : Cx} : SlR X (rSlB X.K) := by
  intro pins s σ H x v vl vu lo hi sl Q I rx hs pl pu h
  obtain ⟨a, vs, rfl, sq, k1, k2⟩ := h
  cases rx
  obtain ⟨us, e, tp, le⟩ := I.tuple sq
  have ln : us.toArray.size = vs.length := by rw [List.size_toArray, e.length]
  refine ⟨"tuple", _, PyProof.Rows.slot_tuple_getitem.lookup, tp.typeIs, ?_⟩
  by_cases c : HT.sIx vs.length 0 lo = 0 ∧ HT.sIx vs.length vs.length hi = vs.length
  · exact getItem_tuple_whole tp hs pl pu (by rw [ln]; exact c) ⟨V.ref a, H, I, rfl, k1 c⟩
  · refine HT.getItem_tuple_cut tp hs pl pu (by rw [ln]; exact c) ?_ (by rw [ln]; exact le)
    rw [ln]
    refine ⟨.ref s.heap.objs.size, _, I.laid (t' := s.toks) (o := .frz { cls := .type "tuple", data := .seq ((us.drop (HT.sIx vs.length 0 lo)).take (HT.sIx vs.length vs.length hi - HT.sIx vs.length 0 lo)).toArray } (.tup (cutV vs lo hi))) (fun _ _ g => Heap.get?_push_of_some _ g) (Nat.le_refl _) ?_, rfl, k2 c _ _ (I.hok.fresh (Nat.le_refl _)) rfl⟩
    exact ⟨Heap.get?_push_size _ rfl, Nat.le_trans (cutV_length vs lo hi) le, _, (e.drop _).take _, IsTup.new _ _⟩
def rSlM (K : Fg) : V → Option Int → Option Int → Hp → VK → Prop := fun x lo hi H Q => rSlB K x lo hi H Q ∨ rSlL K x lo hi H Q ∨ rSlS x lo hi H Q
theorem sl_M : SlR X (rSlM X.K) := sl_tupB.or (sl_list.or sl_str)
theorem s_sl {K : Kw} {O : Ow} {H : Hp} {x : V} {d res : D} {lo hi : Option Int} {Q : VK} (hd : ∀ a ∈ O, ∃ o, H a = some o) (hx : DV K (wo O H) x d) (h : slD d lo hi = some res)
    (q : ∀ v H', Same H H' → DV K (wo O H') v res → Q v H') : rSlM K.K x lo hi H Q := by
  cases d <;> (try (cases h; done))
  · rename_i z
    have h' : (if z.length ≤ sizeLine then some (D.str (cutS z lo hi)) else none) = some res := h
    split at h'
    · cases h'
      rename_i hl
      cases hx
      exact .inr (.inr ⟨z, rfl, hl, q _ H (Same.refl H) (.str _)⟩)
    · cases h'
  · cases h
    obtain ⟨a, vs, rfl, s, t⟩ := hx.tup_ofB
    refine .inl ⟨a, vs, rfl, sqT_mono (wo_same O H) s.sq, fun hc => ?_, fun _ p ob np nd => q _ _ (same_upd np) (DV.newB hd np nd (t.cut lo hi))⟩
    refine q _ H (Same.refl H) (.tup s ?_)
    rw [cutD_all (by rw [← t.length]; exact hc)]
    exact t
  · cases h
    obtain ⟨a, vs, rfl, s, t⟩ := hx.lst_of
    exact .inr (.inl ⟨a, vs, rfl, .of (wo_same O H _ _ s), fun p np => q _ _ (same_upd np) (DV.newL hd np (t.cut lo hi))⟩)
  · cases h
    cases hx with
    | scr s =>
      refine .inr (.inl ⟨_, _, rfl, (wo_same O H).seq s, fun p np => q _ _ (same_upd np) ?_⟩)
      refine DV.newL hd np ?_
      rename_i ns a
      have e : cutV (ns.map V.int) lo hi = (cutD ns lo hi).map V.int := cut_map V.int ns lo hi
      rw [e]
      exact DVs.of_ints _
/-- an optional part of a slice -/
def eOpt (f : Option EX) (k : Option Int → En → Rs) : En → Rs := fun ρ => match f with
  | none => k none ρ
  | some f => (f ρ).bind fun d ρ1 => match d with
    | .int i => k (some i) ρ1
    | _ => .stuck
def eSl (fa : EX) (lo hi : Option EX) : EX := fun ρ => (fa ρ).bind fun d ρ1 => eOpt lo (fun l => eOpt hi fun h ρ3 => match slD d l h with
  | some z => .ok z ρ3
  | none => .stuck) ρ1
inductive PO' (X : Cx) (hx : Hx) (W : WX) : Option Expr → Option EX → Prop
  | none : PO' X hx W none none
  | some {e : Expr} {f : EX} (h : PE X e (tX X.kw hx W f)) : PO' X hx W (some e) (some f)
def tO (K : Kw) (hx : Hx) (W : WX) : Option EX → TO
  | none => tNoPart
  | some f => tPart (tX K hx W f)
theorem PO'.po {lo : Option Expr} {fl : Option EX} (h : PO' X hx W lo fl) : PO X lo (tO X.kw hx W fl) := by
  cases h with
  | none => exact po_none
  | some h => exact po_some h
theorem optX {K : Kw} {F : Fm} {ρ : En} {σ : MB.St} {H : Hp} {O : Ow} {f : Option EX} {k : Option Int → En → Rs} {Q : VK} {Q1 : Option Int → Hp → Prop} (r : RO K hx F ρ σ H O) (hp : Po K hx F W σ (eOpt f k ρ) Q)
    (hk : ∀ i ρ1 H1 O1, RO K hx F ρ1 σ H1 O1 → FSame (wo O H) (wo O1 H1) → Po K hx F W σ (k i ρ1) Q → Q1 i H1) : tO K hx W f σ H Q1 := by
  cases f with
  | none => exact hk none ρ H O r (FSame.refl _) hp
  | some f =>
    refine bindX r hp fun d ρ1 v H1 O1 r1 s1 dv q => ?_
    cases d <;> (try exact (q : False).elim)
    cases dv
    exact ⟨_, rfl, hk _ ρ1 H1 O1 r1 s1 q⟩
theorem r_sl {lo hi : Option Expr} {fl fh : Option EX} {p2 : Pos} (ha : PE X a (tX X.kw hx W fa)) (hl : PO' X hx W lo fl) (hh : PO' X hx W hi fh) : PE X (.Subscript a (.Slice lo hi none p2) pos) (tX X.kw hx W (eSl fa fl fh)) :=
  (pe_slice sl_M ha hl.po hh.po).imp fun σ H Q h => by
    obtain ⟨F, ρ, ⟨O, r⟩, hp⟩ := h
    refine bindX r hp fun d ρ1 v H1 O1 r1 s1 dv hp1 => ?_
    refine optX r1 hp1 fun l ρ2 H2 O2 r2 s2 hp2 => ?_
    refine optX r2 hp2 fun u ρ3 H3 O3 r3 s3 hp3 => ?_
    cases e : slD d l u with
    | none => rw [e] at hp3; exact hp3.elim
    | some z =>
      rw [e] at hp3
      exact s_sl r3.dom (DV.mono (s2.trans s3) _ _ dv) e fun v' H' s' dv' => hp3 v' H' ⟨O3, r3.grow s', dv'⟩
end

/-! ### isinstance of a built-in class -/
def tyName : D → Option String
  | .non => some "NoneType" | .bl _ => some "bool" | .int _ => some "int" | .str _ => some "str" | .tup _ => some "tuple" | .lst _ => some "list" | _ => none
theorem tyX_of {K : Kw} {H : Fz} {v : V} {d : D} {t : String} (h : DV K H v d) (e : tyName d = some t) : TyX K.K H.h v (.type t) := by
  cases d <;> (try (cases e; done)) <;> cases e <;> cases h
  · exact .base .non
  · exact .base (.bl _)
  · exact .base (.int _)
  · exact .base (.str _)
  · rename_i a vs s t
    rcases s with ⟨o, s, _⟩ | ⟨o, its, n, s, _, c, _⟩
    · exact .fTuple s
    · exact .kTuple s c
  · rename_i a vs s t
    exact .base (.lst s)
def isT (T : String) (d : D) : Option D := match tyName d with
  | some t => (kitB t T).map .bl
  | none => none
def eIsT (T : String) (fa : EX) : EX := e1 (isT T) fa
section
variable {X : Cx} {hx : Hx} {W : WX} {a : Expr} {fa : EX} {pos p q : Pos}
theorem r_isT {T : Str} {Ts : String} (ha : PE X a (tX X.kw hx W fa)) (hm : X.mg "isinstance" = none) (hT : X.mg T = none) (hb : bootBuiltins T = some (.type Ts)) (hg : Gl X "isinstance" := by rfl) (hg2 : Gl X T := by rfl)
    (hn : T ≠ "__name__" := by decide) (hdb : (T == ("__debug__" : Str)) = false := by decide)
    (he0 : starEach [Expr.Name T q] X.env = (false, eval (Expr.Name T q) X.env) :: starEach [] X.env := by rfl)
    (he : starEach (a :: [Expr.Name T q]) X.env = (false, eval a X.env) :: starEach [Expr.Name T q] X.env := by rfl) (hpl : (backTo pos (starEach [Expr.Name T q] X.env)).any (·.1) = false := by rfl) :
    PE X (.Call (.Name "isinstance" p) [a, .Name T q] [] pos) (tX X.kw hx W (eIsT Ts fa)) :=
  (pe_callB call_isi hg hm (by decide +kernel) (pa_cons ha (pa_cons (pe_bltn (v := .ty Ts) hg2 hT hb rfl hn hdb) pa_nil he0) he) (by decide) (by decide) he hpl).imp fun σ H Q h => by
    obtain ⟨F, ρ, ⟨O, r0⟩, hp⟩ := h
    refine bindX r0 hp fun d ρ1 v H1 O1 r1 s1 dv hp1 => ?_
    cases e : isT Ts d with
    | none => rw [e] at hp1; exact hp1.elim
    | some z =>
      rw [e] at hp1
      unfold isT at e
      cases e2 : tyName d with
      | none => rw [e2] at e; cases e
      | some t =>
        rw [e2] at e
        have e' : (kitB t Ts).map D.bl = some z := e
        obtain ⟨b, e3, rfl⟩ := Option.map_eq_some_iff.mp e'
        exact ⟨v, .ty Ts, .type t, .type Ts, b, rfl, .ty Ts, tyX_of (DV.mono (wo_al O1 H1) _ _ dv) e2, kit_ty e3, hp1 _ H1 ⟨O1, r1, .bl b⟩⟩
end
end MB

/-! Calls of own defs, statements, by values. -/
namespace MB
open PySem PySem.Spec PyProof.Rows L2

/-! ### a def's promise by its function -/
inductive Rt where
  | ok (d : D) (S : Store) | err (x : Ex) (S : Store) | stuck
abbrev Fn := List D → Store → Rt
def spV (K : Kw) (n : Nat) (m : Fn) : Sp := fun vs H Q E => vs.length = n ∧ ∃ (O : Ow) (S : Store) (ds : List D), Ce K O S H ∧ DVs K (wo O H) vs ds ∧ match m ds S with
  | .ok d S' => ∀ v H' O', Stp O H O' H' → Ce K O' S' H' → DV K (wo O' H') v d → Q v H'
  | .err x S' => ∀ cls dd H' O', Stp O H O' H' → Ce K O' S' H' → ExOk K (wo O' H') x cls dd → E cls dd H'
  | .stuck => False
def eFn (m : Fn) (fs : List EX) : EX := evs fs fun ds ρ => match m ds ρ.st with
  | .ok d S => .ok d ⟨ρ.sl, S⟩
  | .err x S => .err x ⟨ρ.sl, S⟩
  | .stuck => .stuck
abbrev FnV (P : Program) (w : World) (K : Fg) (mg : Str → Option Value) (base : Heap) (k : Nat) (f : Addr) (fd : FuncData) (ps : List Str) (m : Fn) : Prop := FnOk P w K mg base (L2N.CX P w) k f fd ps (spV ⟨K, w⟩ ps.length m)
/-- what a caller knows of a def -/
structure Df (P : Program) (w : World) (K : Fg) (mg : Str → Option Value) (base : Heap) (k : Nat) (x : Str) (n : Nat) (m : Fn) : Prop where
  ex : ∃ f fd ps, mg x = some (.ref f) ∧ PySem.W.keepIn K (.ref f) = true ∧ Binds K fd ps [] ∧ ps.length = n ∧ FnV P w K mg base k f fd ps m
section
variable {X : Cx} {hx : Hx} {W : WX} {e : Expr} {es : List Expr} {fs : List EX} {pos p : Pos} {x : Str} {k n : Nat} {m : Fn}
theorem t_fn {ps : List Str} (hl : fs.length = ps.length) {σ : MB.St} {H : Hp} {Q : VK} (h : tX X.kw hx W (eFn m fs) σ H Q) : tCallS (spV X.kw ps.length m) (WE W) (tA X.kw hx W fs) σ H Q := by
  obtain ⟨F, ρ, ⟨O, r0⟩, hp⟩ := h
  refine tA_of r0 hp fun F1 ds ρ1 vs H1 O1 ln r1 dvs q => ?_
  refine ⟨by rw [dvs.length, ln, hl], O1, ρ1.st, ds, r1.ce, dvs, ?_⟩
  cases e : m ds ρ1.st with
  | ok d S =>
    rw [e] at q
    exact fun v H' O' s' c' dv' => q v H' ⟨O', r1.st s' c', dv'⟩
  | err x S =>
    rw [e] at q
    exact fun cls dd H' O' s' c' ev => q cls dd H' ⟨O', r1.st s' c', ev⟩
  | stuck =>
    rw [e] at q
    exact q.elim
theorem r_fn (F : Df X.prog X.w X.K X.mg X.base k x n m) (hr : Room k X.A) (tk : L2N.Takes X W) (ha : PA X (e :: es) (tA X.kw hx W fs)) (hl : fs.length = n := by rfl) (hg : Gl X x := by rfl) (hdb : (x == ("__debug__" : Str)) = false := by decide)
    (he : starEach (e :: es) X.env = (false, eval e X.env) :: starEach es X.env := by rfl) (hpl : (backTo pos (starEach es X.env)).any (·.1) = false := by rfl) : PE X (.Call (.Name x p) (e :: es) [] pos) (tX X.kw hx W (eFn m fs)) := by
  obtain ⟨f, fd, ps, hm, hk, hb, en, F⟩ := F.ex
  exact (pe_callS F hr hg hm hk hb (fun σ => L2N.passAt tk σ) ha hdb he hpl).imp fun _ _ _ h => t_fn (hl.trans en.symm) h
end
/-- nothing is let out -/
theorem tk0 {X : Cx} : L2N.Takes X (fun _ _ _ _ => False) := fun _ _ x => by
  obtain ⟨_, _, _, _, _, _, _, _, _, _, _, _, _, _, _, _, z⟩ := x
  exact z.elim

/-! ### statements -/
inductive Fl where
  | nx (ρ : En) | rt (d : D) (ρ : En) | bk (ρ : En) | ct (ρ : En) | err (x : Ex) (ρ : En) | stuck
abbrev SX := En → Fl
def PoS (K : Kw) (hx : Hx) (F : Fm) (W : WX) (g : Fl) (D : Ends) : Prop := match g with
  | .nx ρ => ∀ σ H, Rl K hx F ρ σ H → D.nx σ H
  | .rt d ρ => ∀ v σ H, RV K hx F ρ σ H v d → D.rt v H
  | .bk ρ => ∀ σ H, Rl K hx F ρ σ H → D.bk σ H
  | .ct ρ => ∀ σ H, Rl K hx F ρ σ H → D.ct σ H
  | .err x ρ => ∀ cls dd σ H, RX K hx F ρ σ H x cls dd → W cls dd σ H
  | .stuck => False
def tS (K : Kw) (hx : Hx) (W : WX) (g : SX) : TS := fun D σ H => ∃ F ρ, Rl K hx F ρ σ H ∧ PoS K hx F W (g ρ) D
theorem _root_.L2.PS.imp {X : Cx} {e : Stmt} {t t' : TS} (h : PS X e t) (i : ∀ D σ H, t' D σ H → t D σ H) : PS X e t' := ⟨fun pins s σ H D I q => h.run pins s σ H D I (i D σ H q)⟩
theorem _root_.L2.PSs.imp {X : Cx} {e : List Stmt} {t t' : TS} (h : PSs X e t) (i : ∀ D σ H, t' D σ H → t D σ H) : PSs X e t' := ⟨fun pins s σ H D I q => h.run pins s σ H D I (i D σ H q)⟩
theorem PoS.fr {K : Kw} {hx : Hx} {F F' : Fm} {W : WX} {g : Fl} {D : Ends} (s : Stp F.O F.H F'.O F'.H) (h : PoS K hx F W g D) : PoS K hx F' W g D := by
  cases g with
  | nx ρ => exact fun σ H ⟨O, r⟩ => h σ H ⟨O, r.fr_of s⟩
  | rt d ρ => exact fun v σ H ⟨O, r, dv⟩ => h v σ H ⟨O, r.fr_of s, dv⟩
  | bk ρ => exact fun σ H ⟨O, r⟩ => h σ H ⟨O, r.fr_of s⟩
  | ct ρ => exact fun σ H ⟨O, r⟩ => h σ H ⟨O, r.fr_of s⟩
  | err x ρ => exact fun cls dd σ H ⟨O, r, dv⟩ => h cls dd σ H ⟨O, r.fr_of s, dv⟩
  | stuck => exact h
def Rs.then (r : Rs) (k : D → En → Fl) : Fl := match r with
  | .ok d ρ => k d ρ
  | .err x ρ => .err x ρ
  | .stuck => .stuck
section
variable {K : Kw} {hx : Hx} {F : Fm} {H : Hp} {ρ : En} {σ : MB.St} {O : Ow} {W : WX}
/-- an expression within a statement -/
theorem bindS {fa : EX} {k : D → En → Fl} {D : Ends} {Q1 : VK} (r : RO K hx F ρ σ H O) (hp : PoS K hx F W ((fa ρ).then k) D)
    (hk : ∀ d ρ1 v H1 O1, RO K hx F ρ1 σ H1 O1 → DV K (wo O1 H1) v d → PoS K hx F W (k d ρ1) D → Q1 v H1) : tX K hx W fa σ H Q1 := by
  refine ⟨F, ρ, ⟨O, r⟩, ?_⟩
  cases e : fa ρ with
  | ok d ρ1 =>
    rw [e] at hp
    intro v H1 hv
    obtain ⟨O1, r1, dv⟩ := hv
    exact hk d ρ1 v H1 O1 r1 dv hp
  | err x ρ1 =>
    rw [e] at hp
    intro cls dd H1 hv
    exact hp cls dd σ H1 hv
  | stuck =>
    rw [e] at hp
    exact hp
theorem bindST {fa : EX} {k : D → En → Fl} {D : Ends} {Q1 : Bool → Hp → Prop} (r : RO K hx F ρ σ H O) (hp : PoS K hx F W ((fa ρ).then k) D) (ht : ∀ d ρ1, PoS K hx F W (k d ρ1) D → ∃ b, truth d = some b)
    (hk : ∀ d b ρ1 H1 O1, truth d = some b → RO K hx F ρ1 σ H1 O1 → PoS K hx F W (k d ρ1) D → Q1 b H1) : tT K hx W fa σ H Q1 := by
  refine ⟨F, ρ, ⟨O, r⟩, ?_⟩
  cases e : fa ρ with
  | ok d ρ1 =>
    rw [e] at hp
    obtain ⟨b, hb⟩ := ht d ρ1 hp
    refine ⟨b, hb, fun H1 hv => ?_⟩
    obtain ⟨O1, r1⟩ := hv
    exact hk d b ρ1 H1 O1 hb r1 hp
  | err x ρ1 =>
    rw [e] at hp
    intro cls dd H1 hv
    exact hp cls dd σ H1 hv
  | stuck =>
    rw [e] at hp
    exact hp
end
def sNil : SX := fun ρ => .nx ρ
def sSeq (g h : SX) : SX := fun ρ => match g ρ with
  | .nx ρ1 => h ρ1
  | r => r
def sEx (f : EX) : SX := fun ρ => (f ρ).then fun _ ρ1 => .nx ρ1
def sSet (i : Nat) (f : EX) : SX := fun ρ => (f ρ).then fun d ρ1 => .nx (ρ1.set i (some (.val d)))
def sRet (f : EX) : SX := fun ρ => (f ρ).then fun d ρ1 => .rt d ρ1
def sRetN : SX := fun ρ => .rt .non ρ
def sIf (c : EX) (g h : SX) : SX := fun ρ => (c ρ).then fun d ρ1 => match truth d with
  | some true => g ρ1
  | some false => h ρ1
  | none => .stuck
def sBk : SX := fun ρ => .bk ρ
def sCt : SX := fun ρ => .ct ρ
section
variable {X : Cx} {hx : Hx} {W : WX} {st : Stmt} {rest : List Stmt} {g h : SX} {e c : Expr} {f fc : EX} {pos : Pos}
theorem p_nil : PSs X [] (tS X.kw hx W sNil) := pss_nil.imp fun D σ H h => by
  obtain ⟨F, ρ, r, hp⟩ := h
  exact hp σ H r
theorem t_seq {K : Kw} {D : Ends} {σ : MB.St} {H : Hp} (q : tS K hx W (sSeq g h) D σ H) : tSeq (tS K hx W g) (tS K hx W h) D σ H := by
  obtain ⟨F, ρ, r, hp⟩ := q
  refine ⟨F, ρ, r, ?_⟩
  unfold sSeq at hp
  cases e : g ρ with
  | nx ρ1 =>
    rw [e] at hp
    exact fun σ1 H1 r1 => ⟨F, ρ1, r1, hp⟩
  | rt d ρ1 => rw [e] at hp; exact hp
  | bk ρ1 => rw [e] at hp; exact hp
  | ct ρ1 => rw [e] at hp; exact hp
  | err x ρ1 => rw [e] at hp; exact hp
  | stuck => rw [e] at hp; exact hp
theorem p_cons (h1 : PS X st (tS X.kw hx W g)) (h2 : PSs X rest (tS X.kw hx W h)) : PSs X (st :: rest) (tS X.kw hx W (sSeq g h)) := (pss_cons h1 h2).imp fun _ _ _ q => t_seq q
theorem p_one (h1 : PS X st (tS X.kw hx W g)) : PSs X [st] (tS X.kw hx W g) := pss_one h1
theorem p_ex (he : PE X e (tX X.kw hx W f)) (hs : swapsWith e none pos.line X.env = pure false := by rfl) : PS X (.Expr e pos) (tS X.kw hx W (sEx f)) := (ps_expr he hs).imp fun D σ H q => by
  obtain ⟨F, ρ, ⟨O, r⟩, hp⟩ := q
  exact bindS r hp fun d ρ1 v H1 O1 r1 dv hp1 => hp1 σ H1 ⟨O1, r1⟩
theorem p_set {i : Nat} {x : Str} {pos' : Pos} (hN : X.N.Nodup) (hi : X.N[i]? = some x) (hl : Loc X.env.scope x) (he : PE X e (tX X.kw hx W f)) (hs : swapsWith e (some (.Name x pos')) pos.line X.env = pure false := by rfl)
    (hf : X.fn x = true ∨ X.env.scope.names.lookup x = some .local := by first | exact .inl rfl | exact .inr rfl | assumption) : PS X (.Assign [.Name x pos'] e pos) (tS X.kw hx W (sSet i f)) := (ps_set hN hi hl he hs hf).imp fun D σ H q => by
  obtain ⟨F, ρ, ⟨O, r⟩, hp⟩ := q
  exact bindS r hp fun d ρ1 v H1 O1 r1 dv hp1 => hp1 _ H1 ⟨O1, r1.set i dv⟩
theorem p_ret (he : PE X e (tX X.kw hx W f)) : PS X (.Return (some e) pos) (tS X.kw hx W (sRet f)) := (ps_ret he).imp fun D σ H q => by
  obtain ⟨F, ρ, ⟨O, r⟩, hp⟩ := q
  exact bindS r hp fun d ρ1 v H1 O1 r1 dv hp1 => hp1 v σ H1 ⟨O1, r1, dv⟩
theorem p_retN : PS X (.Return none pos) (tS X.kw hx W sRetN) := (ps_retN).imp fun D σ H q => by
  obtain ⟨F, ρ, ⟨O, r⟩, hp⟩ := q
  exact hp .non σ H ⟨O, r, .non⟩
theorem p_if {a b : List Stmt} (hc : PT X c (tT X.kw hx W fc)) (ha : PSs X a (tS X.kw hx W g)) (hb : PSs X b (tS X.kw hx W h)) : PS X (.If c a b pos) (tS X.kw hx W (sIf fc g h)) := (ps_if hc ha hb).imp fun D σ H q => by
  obtain ⟨F, ρ, ⟨O, r⟩, hp⟩ := q
  refine bindST r hp (fun d ρ1 q => ?_) fun d b ρ1 H1 O1 tb r1 hp1 => ?_
  · cases t : truth d with
    | none => rw [t] at q; exact q.elim
    | some b => exact ⟨b, rfl⟩
  · rw [tb] at hp1
    cases b with
    | true =>
      rw [if_pos rfl]
      exact ⟨F, ρ1, ⟨O1, r1⟩, hp1⟩
    | false =>
      rw [if_neg Bool.false_ne_true]
      exact ⟨F, ρ1, ⟨O1, r1⟩, hp1⟩
theorem p_bk : PS X (.Break pos) (tS X.kw hx W sBk) := ps_break.imp fun D σ H q => by
  obtain ⟨F, ρ, r, hp⟩ := q
  exact hp σ H r
theorem p_ct : PS X (.Continue pos) (tS X.kw hx W sCt) := ps_continue.imp fun D σ H q => by
  obtain ⟨F, ρ, r, hp⟩ := q
  exact hp σ H r
theorem p_pass : PS X (.Pass pos) (tS X.kw hx W sNil) := ps_pass.imp fun D σ H q => by
  obtain ⟨F, ρ, r, hp⟩ := q
  exact hp σ H r
end

/-! ### targets -/
abbrev BX := D → En → Option En
def bNm (i : Nat) : BX := fun d ρ => some (ρ.set i (some (.val d)))
def bAll : List BX → List D → En → Option En
  | [], [], ρ => some ρ
  | b :: bs, d :: ds, ρ => (b d ρ).bind fun ρ1 => bAll bs ds ρ1
  | _, _, _ => none
def bTp (bs : List BX) : BX := fun d ρ => match d with
  | .tup ds => if ds.length = bs.length then bAll bs ds ρ else none
  | .tpx ds => if ds.length = bs.length then bAll bs ds ρ else none
  | _ => none
/-- the slots at is alone have changed -/
def Wp (is : List Nat) (σ σ' : MB.St) : Prop := ∀ vs : List Nat, (∀ i ∈ is, i ∈ vs) → L2.wipe σ' vs = L2.wipe σ vs
theorem wipe_set {σ : MB.St} {i : Nat} {x : Option V} : ∀ {vs : List Nat}, i ∈ vs → L2.wipe (σ.set i x) vs = L2.wipe σ vs
  | v :: vs, h => by
    show (L2.wipe (σ.set i x) vs).set v none = (L2.wipe σ vs).set v none
    by_cases m : i ∈ vs
    · rw [wipe_set m]
    · have e : i = v := by
        rcases List.mem_cons.mp h with e | e
        · exact e
        · exact absurd e m
      subst e
      have out : ∀ {ws : List Nat}, i ∉ ws → L2.wipe (σ.set i x) ws = (L2.wipe σ ws).set i x := by
        intro ws
        induction ws with
        | nil => intro _; rfl
        | cons w ws ih =>
          intro hw
          simp only [List.mem_cons, not_or] at hw
          show (L2.wipe (σ.set i x) ws).set w none = ((L2.wipe σ ws).set w none).set i x
          rw [ih hw.2, List.set_comm _ _ hw.1]
      rw [out m, List.set_set]
def tG (K : Kw) (hx : Hx) (is : List Nat) (b : BX) : TG := fun v σ H Q => ∃ (F : Fm) (ρ : En) (d : D) (O : Ow) (ρ' : En), RO K hx F ρ σ H O ∧ DV K (wo O H) v d ∧ b d ρ = some ρ' ∧ ∀ σ', Wp is σ σ' → RO K hx F ρ' σ' H O → Q σ' H
def tGs (K : Kw) (hx : Hx) (is : List Nat) (bs : List BX) : TGs := fun vs σ H Q => ∃ (F : Fm) (ρ : En) (ds : List D) (O : Ow) (ρ' : En), RO K hx F ρ σ H O ∧ DVs K (wo O H) vs ds ∧ bAll bs ds ρ = some ρ' ∧ ∀ σ', Wp is σ σ' → RO K hx F ρ' σ' H O → Q σ' H
theorem _root_.L2.PG.imp {X : Cx} {e : Expr} {t t' : TG} (h : PG X e t) (i : ∀ v σ H Q, t' v σ H Q → t v σ H Q) : PG X e t' := ⟨fun pins s σ H v u Q I r q => h.run pins s σ H v u Q I r (i v σ H Q q)⟩
theorem _root_.L2.PGs.imp {X : Cx} {e : List Expr} {t t' : TGs} (h : PGs X e t) (i : ∀ v σ H Q, t' v σ H Q → t v σ H Q) : PGs X e t' := ⟨fun pins s σ H v u Q I r q => h.run pins s σ H v u Q I r (i v σ H Q q)⟩
section
variable {X : Cx} {hx : Hx} {W : WX} {e : Expr} {es : List Expr} {b : BX} {bs : List BX} {pos : Pos} {is js : List Nat}
theorem g_nm {i : Nat} {x : Str} (hN : X.N.Nodup) (hi : X.N[i]? = some x) (hl : Loc X.env.scope x) (hf : X.fn x = true ∨ X.env.scope.names.lookup x = some .local := by first | exact .inl rfl | exact .inr rfl | assumption) : PG X (.Name x pos) (tG X.kw hx [i] (bNm i)) :=
  (pg_name hN hi hl hf).imp fun v σ H Q h => by
    obtain ⟨F, ρ, d, O, ρ', r, dv, e, k⟩ := h
    cases e
    exact k _ (fun vs h => wipe_set (h i List.mem_cons_self)) (r.set i dv)
theorem gs_nil : PGs X [] (tGs X.kw hx [] []) := pgs_nil.imp fun v σ H Q h => by
  obtain ⟨F, ρ, ds, O, ρ', r, dv, e, k⟩ := h
  cases ds with
  | nil =>
    cases dv
    cases e
    exact ⟨rfl, k σ (fun _ _ => rfl) r⟩
  | cons d ds => cases e
theorem gs_cons (h1 : PG X e (tG X.kw hx is b)) (h2 : PGs X es (tGs X.kw hx js bs)) (hs : (assignEach (e :: es) X.env).map (·.2) = assign e X.env :: (assignEach es X.env).map (·.2) := by rfl) : PGs X (e :: es) (tGs X.kw hx (is ++ js) (b :: bs)) :=
  (pgs_cons h1 h2 hs).imp fun v σ H Q h => by
    obtain ⟨F, ρ, ds, O, ρ', r, dv, e, k⟩ := h
    cases ds with
    | nil => cases e
    | cons d ds =>
      cases dv with
      | cons a t =>
        obtain ⟨ρ1, e1, e2⟩ := Option.bind_eq_some_iff.mp (show (b d ρ).bind (fun ρ1 => bAll bs ds ρ1) = some ρ' from e)
        exact ⟨_, _, rfl, F, ρ, d, O, ρ1, r, a, e1, fun σ1 w1 r1 => ⟨F, ρ1, ds, O, ρ', r1, t, e2, fun σ2 w2 r2 => k σ2 (fun vs h => (w2 vs fun i hi => h i (List.mem_append_right _ hi)).trans (w1 vs fun i hi => h i (List.mem_append_left _ hi))) r2⟩⟩
theorem g_tp {n : Nat} (hc : X.calm = true) (h : PGs X es (tGs X.kw hx is bs)) (hn : (assignEach es X.env).length = bs.length := by rfl) (hst : (assignEach es X.env).findIdx? (·.1) = none := by rfl) : PG X (.Tuple es n pos) (tG X.kw hx is (bTp bs)) :=
  (pg_tup hc h hn hst).imp fun v σ H Q h => by
    obtain ⟨F, ρ, d, O, ρ', r, dv, e, k⟩ := h
    cases d <;> (try (cases e; done))
    · rename_i ds
      have e' : (if ds.length = bs.length then bAll bs ds ρ else none) = some ρ' := e
      split at e'
      · rename_i hl
        obtain ⟨a, vs, rfl, s, t⟩ := dv.tup_of
        exact ⟨a, vs, rfl, sqT_mono (wo_same O H) s, by rw [t.length, hl], F, ρ, ds, O, ρ', r, t, e', k⟩
      · cases e'
    · rename_i ds
      have e' : (if ds.length = bs.length then bAll bs ds ρ else none) = some ρ' := e
      split at e'
      · rename_i hl
        obtain ⟨a, vs, rfl, s, t⟩ := dv.tpx_of
        exact ⟨a, vs, rfl, sqT_mono (wo_same O H) s, by rw [t.length, hl], F, ρ, ds, O, ρ', r, t, e', k⟩
      · cases e'
/-- a, b = e -/
def sUn (b : BX) (f : EX) : SX := fun ρ => (f ρ).then fun d ρ1 => match b d ρ1 with
  | some ρ2 => .nx ρ2
  | none => .stuck
theorem p_un {tg a : Expr} {f : EX} {b : BX} (he : PE X a (tX X.kw hx W f)) (hg : PG X tg (tG X.kw hx is b)) (hs : swapsWithSole [tg] a pos.line X.env = pure false := by rfl) (hw : swappedStores [tg] a X.env = pure none := by rfl)
    (h1 : (assignEach [tg] X.env).map (·.2) = [assign tg X.env] := by rfl) : PS X (.Assign [tg] a pos) (tS X.kw hx W (sUn b f)) := (ps_asg he hg hs hw h1).imp fun D σ H q => by
  obtain ⟨F, ρ, ⟨O, r⟩, hp⟩ := q
  refine bindS r hp fun d ρ1 v H1 O1 r1 dv hp1 => ?_
  cases e : b d ρ1 with
  | none => rw [e] at hp1; exact hp1.elim
  | some ρ2 =>
    rw [e] at hp1
    exact ⟨F, ρ1, d, O1, ρ2, r1, dv, e, fun σ' _ r' => hp1 σ' H1 ⟨O1, r'⟩⟩
/-- x op= e, ints -/
def sAug (i : Nat) (op : D → D → Option D) (f : EX) : SX := fun ρ => match ρ[i]? with
  | some (some (.val d)) => (f ρ).then fun e ρ1 => match op d e with
    | some z => .nx (ρ1.set i (some (.val z)))
    | none => .stuck
  | _ => .stuck
theorem p_aug {i : Nat} {x : Str} {a : Expr} {f : EX} {op : Operator} {r : R2} {g : D → D → Option D} {pos' : Pos} (ho : PIp X op r) (h2 : Op2 X.kw r g) (hN : X.N.Nodup) (hi : X.N[i]? = some x) (hl : Loc X.env.scope x) (he : PE X a (tX X.kw hx W f))
    (hf : X.fn x = true ∨ X.env.scope.names.lookup x = some .local := by first | exact .inl rfl | exact .inr rfl | assumption) : PS X (.AugAssign (.Name x pos') op a pos) (tS X.kw hx W (sAug i g f)) := (ps_aug hN hi hl he ho hf).imp fun D σ H q => by
  obtain ⟨F, ρ, ⟨O, r0⟩, hp⟩ := q
  unfold sAug at hp
  cases e : ρ[i]? with
  | none => rw [e] at hp; exact hp.elim
  | some o =>
    cases o with
    | none => rw [e] at hp; exact hp.elim
    | some s =>
      cases s with
      | exc x => rw [e] at hp; exact hp.elim
      | val d =>
        rw [e] at hp
        obtain ⟨v, ev, dv0⟩ := r0.sl i _ e
        refine ⟨v, ev, ?_⟩
        refine bindS (F := ⟨O, H⟩) r0.re (PoS.fr r0.fr hp) fun e1 ρ1 u H1 O1 r1 du hp1 => ?_
        cases q : g d e1 with
        | none => rw [q] at hp1; exact hp1.elim
        | some z =>
          rw [q] at hp1
          exact h2 O1 H1 v u d e1 z _ r1.dom (DV.mono r1.fr.fs _ _ dv0) du q fun v' H' s' dv' => hp1 _ H' ⟨O1, (r1.grow s').set i dv'⟩
end
end MB

/-! Loops and comprehensions, by values. -/
namespace MB
open PySem PySem.Spec PyProof.Rows L2

/-! ### what is walked -/
/-- from where T stands: the items are ds -/
def Its (K : Kw) (T : Fz) (J : It) (ds : List D) : Prop := ∀ (i : Nat) (H : Hp), Same T.h H → (∀ d, ds[i]? = some d → J.go i H ∧ ∀ x H', J.yld i H x H' → Same H H' ∧ ∀ O : Ow, (∀ a ∈ O, ∃ o, H a = some o) → FSame T (wo O H) → DV K (wo O H') x d) ∧ (ds.length ≤ i → J.stop i H)
/-- the items that are walked -/
inductive Ri where
  | ok (ds : List D) (ρ : En) | err (x : Ex) (ρ : En) | stuck
abbrev IX := En → Ri
def seqI : D → Option (List D)
  | .tup xs => some xs
  | .lst xs => some xs
  | _ => none
theorem its_tup {K : Kw} {T : Fz} {a : Addr} {vs : List V} {ds : List D} (s : SqT K.K T.h a vs) (t : DVs K T vs ds) : Its K T (Itt K.K a) ds := fun i H st => by
  refine ⟨fun d hd => ?_, fun hi => ⟨vs, sqT_mono st s, by rw [t.length]; exact hi⟩⟩
  obtain ⟨v, hv, dv⟩ := t.get hd
  refine ⟨⟨vs, v, sqT_mono st s, hv⟩, fun x H' y => ?_⟩
  obtain ⟨e, y⟩ := y
  subst e
  have ex : x = v := Option.some.inj ((y vs (sqT_mono st s)).symm.trans hv)
  subst ex
  exact ⟨Same.refl _, fun O _ so => DV.mono so _ _ dv⟩
theorem its_lst {K : Kw} {T : Fz} {a : Addr} {vs : List V} {ds : List D} (s : T.h a = some (.lst vs)) (t : DVs K T vs ds) : Its K T (Itl K.K a) ds := fun i H st => by
  refine ⟨fun d hd => ?_, fun hi => ⟨vs, .of (st _ _ s), by rw [t.length]; exact hi⟩⟩
  obtain ⟨v, hv, dv⟩ := t.get hd
  refine ⟨⟨vs, v, .of (st _ _ s), hv⟩, fun x H' y => ?_⟩
  obtain ⟨e, y⟩ := y
  subst e
  have ex : x = v := Option.some.inj ((y vs (.of (st _ _ s))).symm.trans hv)
  subst ex
  exact ⟨Same.refl _, fun O _ so => DV.mono so _ _ dv⟩
def rangeL (lo : Int) (n : Nat) : List D := (List.range n).map fun i => .int (lo + (i : Nat))
theorem its_rng {K : Kw} {T : Fz} (lo : Int) (n : Nat) : Its K T (Itr lo n) (rangeL lo n) := fun i H st => by
  refine ⟨fun d hd => ?_, fun hi => by
    have e : (rangeL lo n).length = n := by simp [rangeL]
    rw [e] at hi
    exact hi⟩
  unfold rangeL at hd
  rw [List.getElem?_map] at hd
  cases e : (List.range n)[i]? with
  | none => rw [e] at hd; cases hd
  | some j =>
    rw [e] at hd
    have hi : i < n := by
      have := (List.getElem?_eq_some_iff.mp e).1
      simpa using this
    have ej : j = i := by
      have := (List.getElem?_eq_some_iff.mp e).2
      simpa using this.symm
    subst ej
    cases hd
    refine ⟨hi, fun x H' y => ?_⟩
    obtain ⟨e1, e2⟩ := y
    subst e1 e2
    exact ⟨Same.refl _, fun O _ _ => .int _⟩

/-! ### for -/
def loopS (b : BX) (g : SX) : List D → En → Fl
  | [], ρ => .nx ρ
  | d :: ds, ρ => match b d ρ with
    | none => .stuck
    | some ρ1 => match g ρ1 with
      | .nx ρ2 => loopS b g ds ρ2
      | .ct ρ2 => loopS b g ds ρ2
      | .bk ρ2 => .nx ρ2
      | r => r
theorem for_core {is : List Nat} {K : Kw} {hx : Hx} {W : WX} {F : Fm} {J : It} {ds : List D} {b : BX} {g : SX} {D : Ends} {ρ : En} {σ : MB.St} {H : Hp} {O : Ow} (r : RO K hx F ρ σ H O) (hi : Its K (wo O H) J ds) (hp : PoS K hx F W (loopS b g ds ρ) D) :
    ∃ Wi : Nat → Nat → MB.St → Hp → Prop, (∃ m, Wi 0 m σ H) ∧ ∀ i m σ H, Wi i m σ H →
      (J.stop i H ∧ D.nx σ H) ∨ (J.go i H ∧ ∃ N : MB.St → Hp → Prop, (∀ σ' H', N σ' H' → ∃ m', m' < m ∧ Wi (i + 1) m' σ' H') ∧ ∀ x H', J.yld i H x H' → tG K hx is b x σ H' fun σ2 H2 => tS K hx W g { D with nx := N, ct := N, bk := D.nx } σ2 H2) := by
  let F1 : Fm := ⟨O, H⟩
  have hp1 : PoS K hx F1 W (loopS b g ds ρ) D := PoS.fr r.fr hp
  refine ⟨fun i m σ H => m = ds.length - i ∧ i ≤ ds.length ∧ ∃ ρ O, RO K hx F1 ρ σ H O ∧ PoS K hx F1 W (loopS b g (ds.drop i) ρ) D, ⟨ds.length, by simp, Nat.zero_le _, ρ, O, r.re, hp1⟩, ?_⟩
  rintro i m σ2 H2 ⟨rfl, hle, ρ2, O2, r2, hp2⟩
  have sT : Same (wo O H).h H2 := fun a o h => wo_same O2 H2 a o (r2.fr.fs.h a o h)
  obtain ⟨hgo, hstop⟩ := hi i H2 sT
  by_cases hlt : i < ds.length
  · have hd : ds[i]? = some ds[i] := List.getElem?_eq_getElem hlt
    have hdrop : ds.drop i = ds[i] :: ds.drop (i + 1) := List.drop_eq_getElem_cons hlt
    rw [hdrop] at hp2
    obtain ⟨g1, g2⟩ := hgo _ hd
    refine .inr ⟨g1, fun σ' H' => ∃ ρ' O', RO K hx F1 ρ' σ' H' O' ∧ PoS K hx F1 W (loopS b g (ds.drop (i + 1)) ρ') D, fun σ' H' ⟨ρ', O', r', p'⟩ => ⟨ds.length - (i + 1), by omega, rfl, hlt, ρ', O', r', p'⟩, fun x H3 y => ?_⟩
    obtain ⟨s3, dv3⟩ := g2 x H3 y
    have r3 := r2.grow s3
    unfold loopS at hp2
    cases e : b ds[i] ρ2 with
    | none => rw [e] at hp2; exact hp2.elim
    | some ρ3 =>
      rw [e] at hp2
      refine ⟨F1, ρ2, ds[i], O2, ρ3, r3, dv3 O2 r2.dom r2.fr.fs, e, fun σ4 _ r4 => ⟨F1, ρ3, ⟨O2, r4⟩, ?_⟩⟩
      have hp3 : PoS K hx F1 W (match g ρ3 with
        | .nx ρ2 => loopS b g (ds.drop (i + 1)) ρ2
        | .ct ρ2 => loopS b g (ds.drop (i + 1)) ρ2
        | .bk ρ2 => .nx ρ2
        | r => r) D := hp2
      cases e4 : g ρ3 with
      | nx ρ5 =>
        rw [e4] at hp3
        exact fun σ5 H5 ⟨O5, r5⟩ => ⟨ρ5, O5, r5, hp3⟩
      | ct ρ5 =>
        rw [e4] at hp3
        exact fun σ5 H5 ⟨O5, r5⟩ => ⟨ρ5, O5, r5, hp3⟩
      | bk ρ5 =>
        rw [e4] at hp3
        exact hp3
      | rt d ρ5 =>
        rw [e4] at hp3
        exact hp3
      | err x ρ5 =>
        rw [e4] at hp3
        exact hp3
      | stuck =>
        rw [e4] at hp3
        exact hp3
  · have e : i = ds.length := by omega
    subst e
    rw [List.drop_length] at hp2
    exact .inl ⟨hstop (Nat.le_refl _), hp2 σ2 H2 ⟨O2, r2⟩⟩
/-- for over a list or a tuple -/
def iSeq (K : Fg) (tl : TE) : TI := fun σ H R => tl σ H fun x H1 => ∃ a, x = .ref a ∧ (((∃ xs, SqL K H1 a xs) ∧ R (Itl K a) H1) ∨ ((∃ xs, SqT K H1 a xs) ∧ R (Itt K a) H1))
theorem pi_seq {X : Cx} {tg l : Expr} {tl : TE} (hl : PE X l tl) : PI X tg l (iSeq X.K tl) := by
  refine ⟨fun pins s σ H R I h => ?_⟩
  refine thn (hl.run pins s σ H _ I h) fun v s1 ⟨x, H1, I1, r1, q1⟩ => ?_
  obtain ⟨a, e, q⟩ := q1
  subst e
  cases r1
  rcases q with ⟨⟨xs, hq⟩, q⟩ | ⟨⟨xs, hq⟩, q⟩
  · obtain ⟨its, rv, p, hz⟩ := I1.list hq
    refine wpAny_pyIter_list p.isList ?_
    refine ⟨s1.heap.objs.size, [s1.heap.objs.size], _, _, H1, rfl, I1.kept (t' := s1.toks) fun b o e => Heap.get?_push_of_some _ e, turn_list a _, ⟨_, Heap.get?_push_size _ rfl, rfl, rfl⟩, fun b hb => ?_, q⟩
    have e : b = s1.heap.objs.size := by simpa using hb
    subst e
    exact I1.fpOk (Nat.le_refl _) (I1.hok.fresh (Nat.le_refl _))
  · obtain ⟨its, rv, p, hz⟩ := I1.tuple hq
    refine wpAny_pyIter_tuple (show s1.heap.IsTuple a its.toArray from p) ?_
    refine ⟨s1.heap.objs.size, [s1.heap.objs.size], _, _, H1, rfl, I1.kept (t' := s1.toks) fun b o e => Heap.get?_push_of_some _ e, turn_tuple a _, ⟨_, Heap.get?_push_size _ rfl, rfl, rfl⟩, fun b hb => ?_, q⟩
    have e : b = s1.heap.objs.size := by simpa using hb
    subst e
    exact I1.fpOk (Nat.le_refl _) (I1.hok.fresh (Nat.le_refl _))
/-- the items' reading -/
def RI (K : Kw) (hx : Hx) (W : WX) (it : IX) (wi : TI) : Prop := ∀ (σ : MB.St) (H : Hp) (R : It → Hp → Prop) (F : Fm) (ρ : En) (O : Ow), RO K hx F ρ σ H O →
  (match it ρ with
    | .ok ds ρ1 => ∀ (J : It) (H1 : Hp) (O1 : Ow), RO K hx F ρ1 σ H1 O1 → FSame (wo O H) (wo O1 H1) → Its K (wo O1 H1) J ds → R J H1
    | .err x ρ1 => ∀ cls dd H1, RX K hx F ρ1 σ H1 x cls dd → W cls dd σ H1
    | .stuck => False) → wi σ H R
/-- an expression, then items -/
def iB (f : EX) (k : D → En → Ri) : IX := fun ρ => match f ρ with
  | .ok d ρ1 => k d ρ1
  | .err x ρ1 => .err x ρ1
  | .stuck => .stuck
theorem bindI {K : Kw} {hx : Hx} {W : WX} {f : EX} {k : D → En → Ri} {F : Fm} {ρ : En} {σ : MB.St} {H : Hp} {O : Ow} {P : Ri → Prop} {Q1 : VK} (r : RO K hx F ρ σ H O) (hp : P (iB f k ρ)) (he : ∀ x ρ1, P (.err x ρ1) → ∀ cls dd H1, RX K hx F ρ1 σ H1 x cls dd → W cls dd σ H1) (hs : P .stuck → False)
    (hk : ∀ d ρ1 v H1 O1, RO K hx F ρ1 σ H1 O1 → FSame (wo O H) (wo O1 H1) → DV K (wo O1 H1) v d → P (k d ρ1) → Q1 v H1) : tX K hx W f σ H Q1 := by
  refine ⟨⟨O, H⟩, ρ, ⟨O, r.re⟩, ?_⟩
  unfold iB at hp
  cases e : f ρ with
  | ok d ρ1 =>
    rw [e] at hp
    exact fun v H1 ⟨O1, r1, dv⟩ => hk d ρ1 v H1 O1 (r1.fr_of r.fr) r1.fr.fs dv hp
  | err x ρ1 =>
    rw [e] at hp
    exact fun cls dd H1 ⟨O1, r1, ev⟩ => he x ρ1 hp cls dd H1 ⟨O1, r1.fr_of r.fr, ev⟩
  | stuck =>
    rw [e] at hp
    exact hs hp
def iV (items : D → Option (List D)) (f : EX) : IX := iB f fun d ρ1 => match items d with
  | some ds => .ok ds ρ1
  | none => .stuck
section
variable {K : Kw} {hx : Hx} {W : WX} {f g : EX}
theorem ri_seq : RI K hx W (iV seqI f) (iSeq K.K (tX K hx W f)) := by
  intro σ H R F ρ O r hp
  refine bindI (P := fun z => match z with
    | .ok ds ρ1 => ∀ (J : It) (H1 : Hp) (O1 : Ow), RO K hx F ρ1 σ H1 O1 → FSame (wo O H) (wo O1 H1) → Its K (wo O1 H1) J ds → R J H1
    | .err x ρ1 => ∀ cls dd H1, RX K hx F ρ1 σ H1 x cls dd → W cls dd σ H1
    | .stuck => False) r hp (fun x ρ1 h => h) (fun h => h) fun d ρ1 v H1 O1 r1 s1 dv q => ?_
  cases d <;> (try exact (q : False).elim)
  · obtain ⟨a, vs, rfl, s, t⟩ := dv.tup_of
    exact ⟨a, rfl, .inr ⟨⟨vs, sqT_mono (wo_same O1 H1) s⟩, q _ H1 O1 r1 s1 (its_tup s t)⟩⟩
  · obtain ⟨a, vs, rfl, s, t⟩ := dv.lst_of
    exact ⟨a, rfl, .inl ⟨⟨vs, .of (wo_same O1 H1 _ _ s)⟩, q _ H1 O1 r1 s1 (its_lst s t)⟩⟩
/-- range(n), range(a, b) -/
def big (i : Int) : Bool := decide (-(2 ^ 62) ≤ i ∧ i < 2 ^ 62)
def iR1 (f : EX) : IX := iB f fun d ρ1 => match d with
  | .int n => if big n = true then .ok (rangeL 0 n.toNat) ρ1 else .stuck
  | _ => .stuck
def iR2 (f g : EX) : IX := iB f fun d ρ1 => iB g (fun e ρ2 => match d, e with
  | .int a, .int b => if big a = true ∧ big b = true then .ok (rangeL a (b - a).toNat) ρ2 else .stuck
  | _, _ => .stuck) ρ1
theorem ri_r1 : RI K hx W (iR1 f) (iRng1 (tCons (tX K hx W f) tNil)) := by
  intro σ H R F ρ O r hp
  refine bindI (P := fun z => match z with
    | .ok ds ρ1 => ∀ (J : It) (H1 : Hp) (O1 : Ow), RO K hx F ρ1 σ H1 O1 → FSame (wo O H) (wo O1 H1) → Its K (wo O1 H1) J ds → R J H1
    | .err x ρ1 => ∀ cls dd H1, RX K hx F ρ1 σ H1 x cls dd → W cls dd σ H1
    | .stuck => False) r hp (fun x ρ1 h => h) (fun h => h) fun d ρ1 v H1 O1 r1 s1 dv q => ?_
  cases d <;> (try exact (q : False).elim)
  rename_i n
  cases dv
  cases hb : big n with
  | false => simp [hb] at q
  | true =>
    simp only [hb, if_true] at q
    obtain ⟨b1, b2⟩ := of_decide_eq_true hb
    exact ⟨n, rfl, b1, b2, q _ H1 O1 r1 s1 (its_rng 0 n.toNat)⟩
theorem ri_r2 : RI K hx W (iR2 f g) (iRng2 (tCons (tX K hx W f) (tCons (tX K hx W g) tNil))) := by
  intro σ H R F ρ O r hp
  refine bindI (P := fun z => match z with
    | .ok ds ρ1 => ∀ (J : It) (H1 : Hp) (O1 : Ow), RO K hx F ρ1 σ H1 O1 → FSame (wo O H) (wo O1 H1) → Its K (wo O1 H1) J ds → R J H1
    | .err x ρ1 => ∀ cls dd H1, RX K hx F ρ1 σ H1 x cls dd → W cls dd σ H1
    | .stuck => False) r hp (fun x ρ1 h => h) (fun h => h) fun d ρ1 v H1 O1 r1 s1 dv q => ?_
  refine bindI (P := fun z => match z with
    | .ok ds ρ1 => ∀ (J : It) (H1 : Hp) (O1 : Ow), RO K hx F ρ1 σ H1 O1 → FSame (wo O H) (wo O1 H1) → Its K (wo O1 H1) J ds → R J H1
    | .err x ρ1 => ∀ cls dd H1, RX K hx F ρ1 σ H1 x cls dd → W cls dd σ H1
    | .stuck => False) r1 q (fun x ρ1 h => h) (fun h => h) fun e ρ2 u H2 O2 r2 s2 du q2 => ?_
  cases d <;> (try exact (q2 : False).elim)
  cases e <;> (try exact (q2 : False).elim)
  rename_i a b
  cases dv
  cases du
  by_cases hb : big a = true ∧ big b = true
  · simp only [hb, and_self, if_true] at q2
    obtain ⟨b1, b2⟩ := of_decide_eq_true hb.1
    obtain ⟨b3, b4⟩ := of_decide_eq_true hb.2
    exact ⟨a, b, rfl, ⟨b1, b2, b3, b4⟩, q2 _ H2 O2 r2 (s1.trans s2) (its_rng a (b - a).toNat)⟩
  · simp only [hb, if_false] at q2
end
def sFor (it : IX) (b : BX) (g : SX) : SX := fun ρ => match it ρ with
  | .ok ds ρ1 => loopS b g ds ρ1
  | .err x ρ1 => .err x ρ1
  | .stuck => .stuck
section
variable {X : Cx} {hx : Hx} {W : WX} {tg iter l a c : Expr} {body : List Stmt} {b : BX} {g : SX} {it : IX} {wi : TI} {pos p : Pos} {f fg : EX} {is : List Nat}
theorem p_for (hp : PassesOwn (model X.prog X.w) X.A X.env X.xe) (hc : X.calm = true) (hi : PI X tg iter wi) (ri : RI X.kw hx W it wi) (hg : PG X tg (tG X.kw hx is b)) (hb : PSs X body (tS X.kw hx W g)) (hs : ∀ x, foldedSetIterable iter X.env x = pure x := by intro _; rfl) :
    PS X (.For tg iter body [] pos) (tS X.kw hx W (sFor it b g)) := (ps_for hp hc hi hg hb hs).imp fun D σ H q => by
  obtain ⟨F, ρ, ⟨O, r⟩, hq⟩ := q
  refine ri σ H _ F ρ O r ?_
  unfold sFor at hq
  cases e : it ρ with
  | ok ds ρ1 =>
    rw [e] at hq
    exact fun J H1 O1 r1 s1 its => for_core r1 its hq
  | err x ρ1 =>
    rw [e] at hq
    exact fun cls dd H1 h => hq cls dd σ H1 h
  | stuck =>
    rw [e] at hq
    exact hq
end
end MB

/-! Comprehensions, by values. -/
namespace MB
open PySem PySem.Spec PyProof.Rows L2

/-- the comprehension's own slots forgotten -/
def wipeE (ρ : En) : List Nat → En
  | [] => ρ
  | v :: vs => (wipeE ρ vs).set v none
/-- the outer slots come back -/
def backE (ρ0 ρ : En) : List Nat → En
  | [] => ρ
  | v :: vs => (backE ρ0 ρ vs).set v (ρ0.sl.getD v none)
def compL (b : BX) (c e : EX) (vs : List Nat) : List D → List D → En → Rs
  | [], acc, ρ => .ok (.lst acc) ρ
  | d :: ds, acc, ρ => match b d (wipeE ρ vs) with
    | none => .stuck
    | some ρ1 => (c ρ1).bind fun t ρ2 => match truth t with
      | some true => (e ρ2).bind fun y ρ3 => compL b c e vs ds (acc ++ [y]) ρ3
      | some false => compL b c e vs ds acc ρ2
      | none => .stuck
def eComp (it : IX) (b : BX) (c e : EX) (vs : List Nat) : EX := fun ρ => match it ρ with
  | .ok ds ρ1 => if ds.length ≤ 1000000 then match compL b c e vs ds [] ρ1 with
      | .ok d ρ2 => .ok d (backE ρ1 (wipeE ρ2 vs) vs)
      | r => .stuck
    else .stuck
  | .err x ρ1 => .err x ρ1
  | .stuck => .stuck
/-- the list that is made may be changed later -/
def eCompM (it : IX) (b : BX) (c e : EX) (vs : List Nat) : EX := fun ρ => match it ρ with
  | .ok ds ρ1 => if ds.length ≤ 1000000 then match compL b c e vs ds [] ρ1 with
      | .ok (.lst acc) ρ2 => .ok (.ce ρ2.st.length) ⟨(backE ρ1 (wipeE ρ2 vs) vs).sl, ρ2.st ++ [some (.lst acc)]⟩
      | r => .stuck
    else .stuck
  | .err x ρ1 => .err x ρ1
  | .stuck => .stuck

section
variable {K : Kw} {hx : Hx} {F : Fm} {H : Hp} {ρ : En} {σ : MB.St} {O : Ow}
theorem RO.setNone (r : RO K hx F ρ σ H O) (i : Nat) : RO K hx F (ρ.set i none) (σ.set i none) H O := by
  refine ⟨r.fr, r.ce, by show (ρ.sl.set i _).length = _; simp [r.len], fun j x e => ?_⟩
  rcases getset (show (ρ.sl.set i none)[j]? = some (some x) from e) with ⟨_, e2, _⟩ | ⟨n, e1⟩
  · cases e2
  · obtain ⟨v, ev, h⟩ := r.sl j x e1
    exact ⟨v, by rw [List.getElem?_set_ne (Ne.symm n)]; exact ev, h⟩
theorem RO.wipe (r : RO K hx F ρ σ H O) : ∀ vs : List Nat, RO K hx F (wipeE ρ vs) (L2.wipe σ vs) H O
  | [] => r
  | v :: vs => (r.wipe vs).setNone v
theorem wipeE_length (ρ : En) : ∀ vs : List Nat, (wipeE ρ vs).sl.length = ρ.sl.length
  | [] => rfl
  | v :: vs => by unfold wipeE; show ((wipeE ρ vs).sl.set v none).length = _; rw [List.length_set, wipeE_length ρ vs]
theorem wipeE_st (ρ : En) : ∀ vs : List Nat, (wipeE ρ vs).st = ρ.st
  | [] => rfl
  | v :: vs => wipeE_st ρ vs
theorem backE_length (ρ0 ρ : En) : ∀ vs : List Nat, (backE ρ0 ρ vs).sl.length = ρ.sl.length
  | [] => rfl
  | v :: vs => by unfold backE; show ((backE ρ0 ρ vs).sl.set v _).length = _; rw [List.length_set, backE_length ρ0 ρ vs]
theorem backE_st (ρ0 ρ : En) : ∀ vs : List Nat, (backE ρ0 ρ vs).st = ρ.st
  | [] => rfl
  | v :: vs => backE_st ρ0 ρ vs
theorem backE_get (ρ0 ρ : En) : ∀ (vs : List Nat) (i : Nat) (x : Sl), (backE ρ0 ρ vs).sl[i]? = some (some x) → (i ∈ vs ∧ ρ0.sl[i]? = some (some x)) ∨ (i ∉ vs ∧ ρ.sl[i]? = some (some x))
  | [], i, x, h => .inr ⟨by simp, h⟩
  | v :: vs, i, x, h => by
    have h : ((backE ρ0 ρ vs).sl.set v (ρ0.sl.getD v none))[i]? = some (some x) := h
    by_cases hi : v = i
    · subst hi
      rw [List.getElem?_set_self'] at h
      cases q : (backE ρ0 ρ vs).sl[v]? with
      | none => rw [q] at h; cases h
      | some z =>
        rw [q] at h
        have h' : some (ρ0.sl.getD v none) = some (some x) := h
        have h2 := Option.some.inj h'
        rw [List.getD_eq_getElem?_getD] at h2
        cases q0 : ρ0.sl[v]? with
        | none => rw [q0] at h2; cases h2
        | some z0 =>
          rw [q0] at h2
          have h3 : z0 = some x := h2
          rw [h3]
          exact .inl ⟨List.mem_cons_self, rfl⟩
    · rw [List.getElem?_set_ne hi] at h
      rcases backE_get ρ0 ρ vs i x h with ⟨m, e⟩ | ⟨m, e⟩
      · exact .inl ⟨List.mem_cons_of_mem _ m, e⟩
      · exact .inr ⟨by simp only [List.mem_cons, not_or]; exact ⟨fun e => hi e.symm, m⟩, e⟩
theorem wipe_out' {σ : MB.St} {i : Nat} : ∀ {vs : List Nat}, i ∉ vs → (L2.wipe σ vs)[i]? = σ[i]?
  | [], _ => rfl
  | v :: vs, h => by
    simp only [List.mem_cons, not_or] at h
    show ((L2.wipe σ vs).set v none)[i]? = σ[i]?
    rw [List.getElem?_set_ne (Ne.symm h.1)]
    exact wipe_out' h.2
/-- behind the block: the outer slots come back -/
theorem RO.back {vs' : List Nat} {F0 F1 : Fm} {ρ0 : En} {H0 : Hp} {O0 : Ow} (r0 : RO K hx F0 ρ0 σ H0 O0) {ρ' : En} (s1 : FSame (wo O0 H0) (wo O H)) (r : RO K hx F1 ρ' (L2.wipe σ vs') H O) : RO K hx F1 (backE ρ0 ρ' vs') σ H O := by
  refine ⟨r.fr, by rw [backE_st]; exact r.ce, by rw [backE_length, r.len, wipe_length], fun i x e => ?_⟩
  rcases backE_get ρ0 ρ' vs' i x e with ⟨m, e0⟩ | ⟨m, e0⟩
  · obtain ⟨v, ev, h⟩ := r0.sl i x e0
    exact ⟨v, ev, h.mono s1⟩
  · obtain ⟨v, ev, h⟩ := r.sl i x e0
    rw [wipe_out' m] at ev
    exact ⟨v, ev, h⟩
/-- the hidden thing comes to light as a cell -/
theorem RO.light (r : RO K hx F ρ σ H O) {p : Addr} {hid : List Addr} {o : HO} {c : Cn} (e : O.hid = p :: hid) (np : p ∉ hid) (ho : H p = some o) (hc : CnOk K ⟨(wo O H).h, O.th ++ [p]⟩ p o c) :
    RO K hx ⟨⟨O.th ++ [p], O.l, hid⟩, H⟩ ⟨ρ.sl, ρ.st ++ [some c]⟩ σ H ⟨O.th ++ [p], O.l, hid⟩ ∧ FSame (wo O H) (wo ⟨O.th ++ [p], O.l, hid⟩ H) := by
  have fs : FSame (wo O H) (wo ⟨O.th ++ [p], O.l, hid⟩ H) := ⟨Same.refl _, List.prefix_append _ _⟩
  have hp : p ∉ O.th := r.ce.dj p (by rw [e]; exact List.mem_cons_self)
  refine ⟨⟨Stp.refl _ _, ⟨fun a => ?_, fun a m => r.ce.hd a (by rw [e]; exact List.mem_cons_of_mem _ m), fun a m q => ?_, ?_, by simp [r.ce.ln], fun k c' a e1 e2 => ?_, fun a m => ?_⟩, r.len, fun i x q => ?_⟩, fs⟩
  · show a ∈ O.l ↔ (∃ n c', (O.th ++ [p])[n]? = some a ∧ (ρ.st ++ [some c])[n]? = some (some c')) ∨ a ∈ hid
    have w := r.ce.ow a
    constructor
    · intro m
      rcases w.mp m with ⟨k, c', e1, e2⟩ | m
      · exact .inl ⟨k, c', by rw [List.getElem?_append_left (List.getElem?_eq_some_iff.mp e1).1]; exact e1, by rw [List.getElem?_append_left (List.getElem?_eq_some_iff.mp e2).1]; exact e2⟩
      · rw [e] at m
        rcases List.mem_cons.mp m with rfl | m
        · exact .inl ⟨O.th.length, c, by simp, by rw [← r.ce.ln]; simp⟩
        · exact .inr m
    · rintro (⟨k, c', e1, e2⟩ | m)
      · by_cases hk : k < O.th.length
        · rw [List.getElem?_append_left hk] at e1
          rw [List.getElem?_append_left (by rw [r.ce.ln]; exact hk)] at e2
          exact w.mpr (.inl ⟨k, c', e1, e2⟩)
        · rw [List.getElem?_append_right (by omega)] at e1
          have : a = p := by
            have hm := List.mem_of_getElem? e1
            simpa using hm
          rw [this]
          exact (r.ce.ow p).mpr (.inr (by rw [e]; exact List.mem_cons_self))
      · exact w.mpr (.inr (by rw [e]; exact List.mem_cons_of_mem _ m))
  · rcases List.mem_append.mp (show a ∈ O.th ++ [p] from q) with q | q
    · exact r.ce.dj a (by rw [e]; exact List.mem_cons_of_mem _ m) q
    · have : a = p := by simpa using q
      exact np (by rw [← this]; exact m)
  · show (O.th ++ [p]).Nodup
    rw [List.nodup_append]
    exact ⟨r.ce.nd, by simp, fun x hx' y hy => by
      have : y = p := by simpa using hy
      rw [this]
      intro z
      rw [z] at hx'
      exact hp hx'⟩
  · have e1' : (ρ.st ++ [some c])[k]? = some (some c') := e1
    have e2' : (O.th ++ [p])[k]? = some a := e2
    by_cases hk : k < O.th.length
    · rw [List.getElem?_append_left hk] at e2'
      rw [List.getElem?_append_left (by rw [r.ce.ln]; exact hk)] at e1'
      obtain ⟨o', e3, e4⟩ := r.ce.ce k c' a e1' e2'
      exact ⟨o', e3, e4.mono fs⟩
    · have hm : k = O.th.length := by
        have := (List.getElem?_eq_some_iff.mp e2').1
        simp at this
        omega
      subst hm
      have ea : a = p := by simpa using e2'.symm
      have ec : c' = c := by
        rw [← r.ce.ln] at e1'
        simpa using e1'.symm
      subst ea ec
      exact ⟨o, ho, hc⟩
  · rcases List.mem_append.mp (show a ∈ O.th ++ [p] from m) with m | m
    · exact r.ce.al a m
    · have : a = p := by simpa using m
      rw [this]
      exact ⟨o, ho⟩
  · obtain ⟨v, e1, h⟩ := r.sl i x q
    exact ⟨v, e1, h.mono fs⟩
end
theorem wipe_get {σ : MB.St} {i : Nat} : ∀ {vs : List Nat}, (L2.wipe σ vs)[i]? = if i ∈ vs then (σ[i]?).map (fun _ => none) else σ[i]?
  | [] => by simp [L2.wipe]
  | v :: vs => by
    show ((L2.wipe σ vs).set v none)[i]? = _
    by_cases e : v = i
    · subst e
      rw [List.getElem?_set_self', wipe_get, if_pos (List.mem_cons_self (a := v) (l := vs))]
      split
      · cases σ[v]? <;> rfl
      · cases σ[v]? <;> rfl
    · rw [List.getElem?_set_ne e, wipe_get]
      by_cases m : i ∈ vs
      · rw [if_pos m, if_pos (List.mem_cons_of_mem v m)]
      · rw [if_neg m, if_neg (by simp only [List.mem_cons, not_or]; exact ⟨fun z => e z.symm, m⟩)]
theorem wipe_idem (σ : MB.St) (vs : List Nat) : L2.wipe (L2.wipe σ vs) vs = L2.wipe σ vs := by
  apply List.ext_getElem?
  intro i
  rw [wipe_get, wipe_get]
  split
  · cases σ[i]? <;> rfl
  · rfl
/-- what the block's turns carry -/
structure CW (K : Kw) (hx : Hx) (O0 : Ow) (H0 : Hp) (b : BX) (c e : EX) (vs : List Nat) (σ : MB.St) (D : Addr) (ds : List MB.D) (out : MB.D) (ρo : En) (i : Nat) (H : Hp) : Prop where
  ex : ∃ (acc : List MB.D) (accV : List V) (ρ : En) (O : Ow), H D = some (.lst accV) ∧ acc.length ≤ i ∧ DVs K (wo O H) accV acc ∧ O.hid = D :: O0.hid ∧ RO K hx ⟨O, H⟩ (wipeE ρ vs) (L2.wipe σ vs) H O ∧
    FSame (wo O0 H0) (wo O H) ∧ (∀ a ∈ O0.hid, H a = H0 a) ∧ compL b c e vs (ds.drop i) acc ρ = .ok out ρo
theorem comp_core {is : List Nat} {K : Kw} {hx : Hx} {F : Fm} {J : It} {ds : List D} {b : BX} {c e : EX} {vs : List Nat} {ρ : En} {σ : MB.St} {H : Hp} {O : Ow} {D : Addr} {Qd : Hp → Prop} {out : MB.D} {ρo : En}
    (his : ∀ i ∈ is, i ∈ vs) (hl : ds.length ≤ 1000000) (r : RO K hx F ρ σ H O) (hi : Its K (wo O H) J ds) (hD : H D = none) (hp : compL b c e vs ds [] ρ = .ok out ρo)
    (hd : ∀ H1 O1 accV acc, H1 D = some (.lst accV) → DVs K (wo O1 H1) accV acc → out = .lst acc → O1.hid = D :: O.hid → RO K hx ⟨O1, H1⟩ (wipeE ρo vs) (L2.wipe σ vs) H1 O1 → FSame (wo O H) (wo O1 H1) → (∀ a ∈ O.hid, H1 a = H a) → Qd H1) :
    ∃ W : Nat → Nat → Hp → Prop, (∃ m, W 0 m (upd H D (.lst []))) ∧ ∀ i m H, W i m H →
      (J.stop i H ∧ Qd H) ∨ (J.go i H ∧ ∃ Nx : Hp → Prop, (∀ H', Nx H' → ∃ m', m' < m ∧ W (i + 1) m' H') ∧ ∀ x H', J.yld i H x H' → tG K hx is b x (L2.wipe σ vs) H' fun σ2 H2 => L2.wipe σ2 vs = L2.wipe σ vs ∧ tT K hx (fun _ _ _ _ => False) c σ2 H2 fun t H3 =>
        if t = true then tX K hx (fun _ _ _ _ => False) e σ2 H3 fun y H4 => ∃ acc, H4 D = some (.lst acc) ∧ acc.length < sizeLine ∧ Nx (upd H4 D (.lst (acc ++ [y]))) else Nx H3) := by
  have nD : D ∉ O.hid := fun m => by
    obtain ⟨o, e⟩ := r.ce.hd D m
    rw [hD] at e
    cases e
  have w0 : CW K hx O H b c e vs σ D ds out ρo 0 (upd H D (.lst [])) := by
    obtain ⟨r1, s1⟩ := r.hide (o := .lst []) hD
    exact ⟨[], [], ρ, _, upd_same, Nat.zero_le _, .nil, rfl, r1.wipe vs, s1, fun a m => upd_ne fun z => nD (by rw [← z]; exact m), hp⟩
  refine ⟨fun i m H1 => m = ds.length - i ∧ i ≤ ds.length ∧ CW K hx O H b c e vs σ D ds out ρo i H1, ⟨ds.length, by simp, Nat.zero_le _, w0⟩, ?_⟩
  rintro i m H1 ⟨rfl, hle, ⟨acc, accV, ρ1, O1, h1, h2, h3, h4, r1, h5, h6, h7⟩⟩
  have sT : Same (wo O H).h H1 := fun a o h => wo_same O1 H1 a o (h5.h a o h)
  obtain ⟨hgo, hstop⟩ := hi i H1 sT
  by_cases hlt : i < ds.length
  · have hdi : ds[i]? = some ds[i] := List.getElem?_eq_getElem hlt
    have hdrop : ds.drop i = ds[i] :: ds.drop (i + 1) := List.drop_eq_getElem_cons hlt
    rw [hdrop] at h7
    obtain ⟨g1, g2⟩ := hgo _ hdi
    refine .inr ⟨g1, CW K hx O H b c e vs σ D ds out ρo (i + 1), fun H' p' => ⟨ds.length - (i + 1), by omega, rfl, hlt, p'⟩, fun x H2 y => ?_⟩
    obtain ⟨s2, dv2⟩ := g2 x H2 y
    have r2 := r1.grow s2
    have mD : D ∈ O1.hid := by rw [h4]; exact List.mem_cons_self
    -- what holds of every later state
    have later : ∀ {O3 : Ow} {H3 : Hp}, Stp O1 H1 O3 H3 → H3 D = some (.lst accV) ∧ O3.hid = D :: O.hid ∧ DVs K (wo O3 H3) accV acc ∧ FSame (wo O H) (wo O3 H3) ∧ ∀ a ∈ O.hid, H3 a = H a := fun {O3 H3} s => by
      refine ⟨(s.hs D mD).trans h1, s.hid.trans h4, DVs.mono s.fs _ _ h3, h5.trans s.fs, fun a m => ?_⟩
      exact (s.hs a (by rw [h4]; exact List.mem_cons_of_mem _ m)).trans (h6 a m)
    have h7' : (match b ds[i] (wipeE ρ1 vs) with
      | none => Rs.stuck
      | some ρ1 => (c ρ1).bind fun t ρ2 => match truth t with
        | some true => (e ρ2).bind fun y ρ3 => compL b c e vs (ds.drop (i + 1)) (acc ++ [y]) ρ3
        | some false => compL b c e vs (ds.drop (i + 1)) acc ρ2
        | none => .stuck) = .ok out ρo := h7
    cases eb : b ds[i] (wipeE ρ1 vs) with
    | none =>
      rw [eb] at h7'
      cases h7'
    | some ρ2 =>
      rw [eb] at h7'
      refine ⟨⟨O1, H1⟩, wipeE ρ1 vs, ds[i], O1, ρ2, r2, dv2 O1 r1.dom h5, eb, fun σ2 wp r3 => ?_⟩
      have ew : L2.wipe σ2 vs = L2.wipe σ vs := (wp vs his).trans (wipe_idem σ vs)
      refine ⟨ew, ⟨O1, H1⟩, ρ2, ⟨O1, r3⟩, ?_⟩
      have h8 : (c ρ2).bind (fun t ρ2 => match truth t with
        | some true => (e ρ2).bind fun y ρ3 => compL b c e vs (ds.drop (i + 1)) (acc ++ [y]) ρ3
        | some false => compL b c e vs (ds.drop (i + 1)) acc ρ2
        | none => .stuck) = .ok out ρo := h7'
      cases ec : c ρ2 with
      | err x ρ3 =>
        rw [ec] at h8
        cases h8
      | stuck =>
        rw [ec] at h8
        cases h8
      | ok t ρ3 =>
        rw [ec] at h8
        have h9 : (match truth t with
          | some true => (e ρ3).bind fun y ρ3 => compL b c e vs (ds.drop (i + 1)) (acc ++ [y]) ρ3
          | some false => compL b c e vs (ds.drop (i + 1)) acc ρ3
          | none => .stuck) = .ok out ρo := h8
        cases et : truth t with
        | none =>
          rw [et] at h9
          cases h9
        | some tb =>
          rw [et] at h9
          refine ⟨tb, et, fun H3 hr3 => ?_⟩
          obtain ⟨O3, r4⟩ := hr3
          cases tb with
          | false =>
            rw [if_neg Bool.false_ne_true]
            have r5 := r4.wipe vs
            rw [ew] at r5
            obtain ⟨l1, l2, l3, l4, l5⟩ := later r4.fr
            exact ⟨acc, accV, ρ3, O3, l1, by omega, l3, l2, r5.re, l4, l5, h9⟩
          | true =>
            rw [if_pos rfl]
            refine ⟨⟨O1, H1⟩, ρ3, ⟨O3, r4⟩, ?_⟩
            have h10 : (e ρ3).bind (fun y ρ3 => compL b c e vs (ds.drop (i + 1)) (acc ++ [y]) ρ3) = .ok out ρo := h9
            cases ee : e ρ3 with
            | err x ρ4 =>
              rw [ee] at h10
              cases h10
            | stuck =>
              rw [ee] at h10
              cases h10
            | ok y ρ4 =>
              rw [ee] at h10
              intro v H4 hv
              obtain ⟨O4, r6, dy⟩ := hv
              obtain ⟨l1, l2, l3, l4, l5⟩ := later r6.fr
              refine ⟨accV, l1, ?_, ?_⟩
              · rw [h3.length, sizeLine_eq]
                omega
              · have r7 := r6.wipe vs
                rw [ew] at r7
                obtain ⟨r8, ewo⟩ := r7.wrH (p := D) (o := .lst (accV ++ [v])) (by rw [l2]; exact List.mem_cons_self)
                exact ⟨acc ++ [y], accV ++ [v], ρ4, O4, upd_same, by rw [List.length_append]; show acc.length + 1 ≤ i + 1; omega, by rw [ewo]; exact l3.append (.cons dy .nil), l2, r8, by rw [ewo]; exact l4, fun a m => (upd_ne fun z => nD (by rw [← z]; exact m)).trans (l5 a m), h10⟩
  · have ei : i = ds.length := by omega
    subst ei
    rw [List.drop_length] at h7
    have h8 : Rs.ok (.lst acc) ρ1 = .ok out ρo := h7
    cases h8
    exact .inl ⟨hstop (Nat.le_refl _), hd H1 O1 accV acc h1 h3 rfl h4 r1 h5 h6⟩
section
variable {X : Cx} {hx : Hx} {W : WX} {tg iter elt : Expr} {ifs : List Expr} {b : BX} {it : IX} {wi : TI} {pos : Pos} {c e : EX} {is : List Nat} {scope : Scope} {own : List (Str × Nat)}
theorem t_comp (ri : RI X.kw hx W it wi) (his : ∀ i ∈ is, i ∈ own.map (·.2)) {σ : MB.St} {H : Hp} {Q : VK} (h : tX X.kw hx W (eComp it b c e (own.map (·.2))) σ H Q) :
    tLc wi (tG X.kw hx is b) (tT X.kw hx (fun _ _ _ _ => False) c) (tX X.kw hx (fun _ _ _ _ => False) e) (own.map (·.2)) σ H Q := by
  obtain ⟨F, ρ, ⟨O, r⟩, hq⟩ := h
  refine ri σ H _ F ρ O r ?_
  unfold eComp at hq
  cases ei : it ρ with
  | err x ρ1 =>
    rw [ei] at hq
    exact hq
  | stuck =>
    rw [ei] at hq
    exact hq
  | ok ds ρ1 =>
    rw [ei] at hq
    intro J H1 O1 r1 s1 its D hD
    have hq' : Po X.kw hx F W σ (if ds.length ≤ 1000000 then match compL b c e (own.map (·.2)) ds [] ρ1 with
      | .ok d ρ2 => .ok d (backE ρ1 (wipeE ρ2 (own.map (·.2))) (own.map (·.2)))
      | r => .stuck
      else .stuck) Q := hq
    split at hq'
    · rename_i hc
      cases ec : compL b c e (own.map (·.2)) ds [] ρ1 with
      | err x ρ2 =>
        rw [ec] at hq'
        exact hq'.elim
      | stuck =>
        rw [ec] at hq'
        exact hq'.elim
      | ok out ρ2 =>
        rw [ec] at hq'
        refine comp_core his hc r1 its hD ec fun H2 O2 accV acc e1 e2 eo e3 r2 s2 k2 => ?_
        have nD : D ∉ O1.hid := fun m => by
          obtain ⟨o, e⟩ := r1.ce.hd D m
          rw [hD] at e
          cases e
        obtain ⟨r3, s3, e4⟩ := r2.bare e3 nD
        have r4 := RO.back r1 (s2.trans s3) r3
        subst eo
        exact hq' _ H2 ⟨_, r4.fr_of (r1.fr.trans ⟨s2.trans s3, rfl, k2⟩), .lst (e4.trans e1) (DVs.mono s3 _ _ e2)⟩
    · exact hq'.elim
theorem t_compM (ri : RI X.kw hx W it wi) (his : ∀ i ∈ is, i ∈ own.map (·.2)) {σ : MB.St} {H : Hp} {Q : VK} (h : tX X.kw hx W (eCompM it b c e (own.map (·.2))) σ H Q) :
    tLc wi (tG X.kw hx is b) (tT X.kw hx (fun _ _ _ _ => False) c) (tX X.kw hx (fun _ _ _ _ => False) e) (own.map (·.2)) σ H Q := by
  obtain ⟨F, ρ, ⟨O, r⟩, hq⟩ := h
  refine ri σ H _ F ρ O r ?_
  unfold eCompM at hq
  cases ei : it ρ with
  | err x ρ1 =>
    rw [ei] at hq
    exact hq
  | stuck =>
    rw [ei] at hq
    exact hq
  | ok ds ρ1 =>
    rw [ei] at hq
    intro J H1 O1 r1 s1 its D hD
    have hq' : Po X.kw hx F W σ (if ds.length ≤ 1000000 then match compL b c e (own.map (·.2)) ds [] ρ1 with
      | .ok (.lst acc) ρ2 => .ok (.ce ρ2.st.length) ⟨(backE ρ1 (wipeE ρ2 (own.map (·.2))) (own.map (·.2))).sl, ρ2.st ++ [some (.lst acc)]⟩
      | r => .stuck
      else .stuck) Q := hq
    split at hq'
    · rename_i hc
      cases ec : compL b c e (own.map (·.2)) ds [] ρ1 with
      | err x ρ2 =>
        rw [ec] at hq'
        exact hq'.elim
      | stuck =>
        rw [ec] at hq'
        exact hq'.elim
      | ok out ρ2 =>
        rw [ec] at hq'
        refine comp_core his hc r1 its hD ec fun H2 O2 accV acc e1 e2 eo e3 r2 s2 k2 => ?_
        have nD : D ∉ O1.hid := fun m => by
          obtain ⟨o, e⟩ := r1.ce.hd D m
          rw [hD] at e
          cases e
        have fs : FSame (wo O2 H2) ⟨(wo O2 H2).h, O2.th ++ [D]⟩ := ⟨Same.refl _, List.prefix_append _ _⟩
        obtain ⟨r3, s3⟩ := r2.light (c := .lst acc) e3 nD e1 ⟨accV, rfl, DVs.mono fs _ _ e2⟩
        have r4 := RO.back (vs' := own.map (·.2)) r1 (s2.trans s3) r3
        subst eo
        have est : (wipeE ρ2 (own.map (·.2))).st = ρ2.st := wipeE_st _ _
        have r5 := r4.fr_of (r1.fr.trans ⟨s2.trans s3, rfl, k2⟩)
        have esl : ∀ vs, (backE ρ1 ⟨(wipeE ρ2 (own.map (·.2))).sl, (wipeE ρ2 (own.map (·.2))).st ++ [some (.lst acc)]⟩ vs) = ⟨(backE ρ1 (wipeE ρ2 (own.map (·.2))) vs).sl, ρ2.st ++ [some (.lst acc)]⟩ := by
          intro vs
          induction vs with
          | nil => show En.mk _ _ = _; rw [est]; rfl
          | cons v vs ih => show En.set _ _ _ = _; rw [ih]; rfl
        rw [esl] at r5
        refine hq' _ H2 ⟨_, r5, .ce ?_⟩
        show (O2.th ++ [D])[ρ2.st.length]? = some D
        have := r2.ce.ln
        rw [est] at this
        rw [this]
        simp
    · exact hq'.elim
/-- [elt for tg in iter if c] -/
theorem r_comp (hc : X.calm = true) (hN : X.N.Nodup) (hi : PI X tg iter wi) (ri : RI X.kw hx W it wi) (ok : blkC X.N X.env.scope scope own = true)
    (hg : ∀ (s : Shared) (H : Hp) (C : Addr) (cl : List (Str × Addr)) (fp : List Addr), PG (X.blk s H scope (compEnvC scope cl C X.env) fp) tg (tG X.kw hx is b))
    (ht : ∀ (s : Shared) (H : Hp) (C : Addr) (cl : List (Str × Addr)) (fp : List Addr), PTs (X.blk s H scope (compEnvC scope cl C X.env) fp) ifs (tT X.kw hx (fun _ _ _ _ => False) c))
    (he : ∀ (s : Shared) (H : Hp) (C : Addr) (cl : List (Str × Addr)) (fp : List Addr), PE (X.blk s H scope (compEnvC scope cl C X.env) fp) elt (tX X.kw hx (fun _ _ _ _ => False) e))
    (his : ∀ i ∈ is, i ∈ own.map (·.2) := by decide) (hs : ∀ x, foldedSetIterable iter X.env x = pure x := by intro _; rfl) :
    PE X (.ListComp elt [⟨tg, iter, ifs, 0⟩] scope pos) (tX X.kw hx W (eComp it b c e (own.map (·.2)))) :=
  (pe_lc hc hN hi (blkOk_by ok) hg ht he hs).imp fun _ _ _ h => t_comp ri his h
theorem r_compM (hc : X.calm = true) (hN : X.N.Nodup) (hi : PI X tg iter wi) (ri : RI X.kw hx W it wi) (ok : blkC X.N X.env.scope scope own = true)
    (hg : ∀ (s : Shared) (H : Hp) (C : Addr) (cl : List (Str × Addr)) (fp : List Addr), PG (X.blk s H scope (compEnvC scope cl C X.env) fp) tg (tG X.kw hx is b))
    (ht : ∀ (s : Shared) (H : Hp) (C : Addr) (cl : List (Str × Addr)) (fp : List Addr), PTs (X.blk s H scope (compEnvC scope cl C X.env) fp) ifs (tT X.kw hx (fun _ _ _ _ => False) c))
    (he : ∀ (s : Shared) (H : Hp) (C : Addr) (cl : List (Str × Addr)) (fp : List Addr), PE (X.blk s H scope (compEnvC scope cl C X.env) fp) elt (tX X.kw hx (fun _ _ _ _ => False) e))
    (his : ∀ i ∈ is, i ∈ own.map (·.2) := by decide) (hs : ∀ x, foldedSetIterable iter X.env x = pure x := by intro _; rfl) :
    PE X (.ListComp elt [⟨tg, iter, ifs, 0⟩] scope pos) (tX X.kw hx W (eCompM it b c e (own.map (·.2)))) :=
  (pe_lc hc hN hi (blkOk_by ok) hg ht he hs).imp fun _ _ _ h => t_compM ri his h
/-- y = [elt for tg in iter if c] -/
theorem p_setC {i : Nat} {y : Str} {py spos : Pos} (hc : X.calm = true) (hN : X.N.Nodup) (hy : X.N[i]? = some y) (hyl : X.env.scope.names.lookup y = some .local)
    (hsw : swapsWith (.ListComp elt [⟨tg, iter, ifs, 0⟩] scope pos) (some (.Name y py)) spos.line X.env = pure true) (hi : PI X tg iter wi) (ri : RI X.kw hx W it wi) (ok : blkC X.N X.env.scope scope own = true)
    (hg : ∀ (s : Shared) (H : Hp) (C : Addr) (cl : List (Str × Addr)) (fp : List Addr), PG (X.blk s H scope (compEnvC scope cl C X.env) fp) tg (tG X.kw hx is b))
    (ht : ∀ (s : Shared) (H : Hp) (C : Addr) (cl : List (Str × Addr)) (fp : List Addr), PTs (X.blk s H scope (compEnvC scope cl C X.env) fp) ifs (tT X.kw hx (fun _ _ _ _ => False) c))
    (he : ∀ (s : Shared) (H : Hp) (C : Addr) (cl : List (Str × Addr)) (fp : List Addr), PE (X.blk s H scope (compEnvC scope cl C X.env) fp) elt (tX X.kw hx (fun _ _ _ _ => False) e))
    (his : ∀ i ∈ is, i ∈ own.map (·.2) := by decide) (hs : ∀ x, foldedSetIterable iter X.env x = pure x := by intro _; rfl) :
    PS X (.Assign [.Name y py] (.ListComp elt [⟨tg, iter, ifs, 0⟩] scope pos) spos) (tS X.kw hx W (sSet i (eComp it b c e (own.map (·.2))))) :=
  (ps_setLc hc hN hy hyl hsw hi (blkOk_by ok) hg ht he hs).imp fun D σ H q => by
    obtain ⟨F, ρ, ⟨O, r⟩, hp⟩ := q
    refine t_comp ri his (bindS r hp fun d ρ1 v H1 O1 r1 dv hp1 => ?_)
    exact hp1 _ H1 ⟨O1, r1.set i dv⟩
/-- y = [elt for tg in iter if c] -/
theorem p_setCM {i : Nat} {y : Str} {py spos : Pos} (hc : X.calm = true) (hN : X.N.Nodup) (hy : X.N[i]? = some y) (hyl : X.env.scope.names.lookup y = some .local)
    (hsw : swapsWith (.ListComp elt [⟨tg, iter, ifs, 0⟩] scope pos) (some (.Name y py)) spos.line X.env = pure true) (hi : PI X tg iter wi) (ri : RI X.kw hx W it wi) (ok : blkC X.N X.env.scope scope own = true)
    (hg : ∀ (s : Shared) (H : Hp) (C : Addr) (cl : List (Str × Addr)) (fp : List Addr), PG (X.blk s H scope (compEnvC scope cl C X.env) fp) tg (tG X.kw hx is b))
    (ht : ∀ (s : Shared) (H : Hp) (C : Addr) (cl : List (Str × Addr)) (fp : List Addr), PTs (X.blk s H scope (compEnvC scope cl C X.env) fp) ifs (tT X.kw hx (fun _ _ _ _ => False) c))
    (he : ∀ (s : Shared) (H : Hp) (C : Addr) (cl : List (Str × Addr)) (fp : List Addr), PE (X.blk s H scope (compEnvC scope cl C X.env) fp) elt (tX X.kw hx (fun _ _ _ _ => False) e))
    (his : ∀ i ∈ is, i ∈ own.map (·.2) := by decide) (hs : ∀ x, foldedSetIterable iter X.env x = pure x := by intro _; rfl) :
    PS X (.Assign [.Name y py] (.ListComp elt [⟨tg, iter, ifs, 0⟩] scope pos) spos) (tS X.kw hx W (sSet i (eCompM it b c e (own.map (·.2))))) :=
  (ps_setLc hc hN hy hyl hsw hi (blkOk_by ok) hg ht he hs).imp fun D σ H q => by
    obtain ⟨F, ρ, ⟨O, r⟩, hp⟩ := q
    refine t_compM ri his (bindS r hp fun d ρ1 v H1 O1 r1 dv hp1 => ?_)
    exact hp1 _ H1 ⟨O1, r1.set i dv⟩
theorem c_nil {X : Cx} : PTs X [] (tT X.kw hx W (eC (.bl true))) := by
  refine ⟨fun pins s σ H Q I h => pts_nil.run pins s σ H Q I ?_⟩
  obtain ⟨F, ρ, ⟨O, r⟩, b, hb, k⟩ := h
  cases hb
  exact k H ⟨O, r⟩
theorem c_one {X : Cx} {a : Expr} {f : EX} (h : PT X a (tT X.kw hx W f)) : PTs X [a] (tT X.kw hx W f) := pts_one h
end
end MB

/-! Defs by their bodies, by values. -/
namespace MB
open PySem PySem.Spec PyProof.Rows L2

def slOf (n : Nat) (ds : List D) : List (Option Sl) := ds.map (fun d => some (.val d)) ++ List.replicate (n - ds.length) none
def envOf (n : Nat) (ds : List D) (S : Store) : En := ⟨slOf n ds, S⟩
def endR : Fl → Rt
  | .nx ρ => .ok .non ρ.st
  | .rt d ρ => .ok d ρ.st
  | .err x ρ => .err x ρ.st
  | _ => .stuck
def runS (b : SX) (n : Nat) : Fn := fun ds S => endR (b (envOf n ds S))
theorem envOf_get {n : Nat} {ds : List D} {i : Nat} {x : Sl} (h : (slOf n ds)[i]? = some (some x)) : ∃ d, x = .val d ∧ ds[i]? = some d := by
  unfold slOf at h
  by_cases hi : i < ds.length
  · rw [List.getElem?_append_left (by simpa using hi), List.getElem?_map] at h
    cases e : ds[i]? with
    | none => rw [e] at h; cases h
    | some d =>
      rw [e] at h
      cases h
      exact ⟨d, rfl, rfl⟩
  · rw [List.getElem?_append_right (by simpa using hi), List.getElem?_replicate] at h
    split at h <;> cases h
theorem start_get {N : List Str} {vs : List V} {i : Nat} {v : V} (h : vs[i]? = some v) : (L2.start N vs)[i]? = some (some v) := by
  unfold L2.start
  have hi : i < vs.length := (List.getElem?_eq_some_iff.mp h).1
  rw [List.getElem?_append_left (by simpa using hi), List.getElem?_map, h]
  rfl
/-- at the entry -/
theorem ro_start {K : Kw} {hx : Hx} {N : List Str} {O : Ow} {S : Store} {H : Hp} {vs : List V} {ds : List D} (ce : Ce K O S H) (dv : DVs K (wo O H) vs ds) :
    RO K hx ⟨O, H⟩ (envOf N.length ds S) (L2.start N vs) H O := by
  refine ⟨Stp.refl _ _, ce, ?_, fun i x e => ?_⟩
  · show (slOf N.length ds).length = _
    unfold slOf L2.start
    simp [dv.length]
  · obtain ⟨d, rfl, hd⟩ := envOf_get (show (slOf N.length ds)[i]? = some (some x) from e)
    obtain ⟨v, hv, h⟩ := dv.get hd
    exact ⟨v, start_get hv, h⟩
theorem body_run {K : Kw} {N : List Str} {b : SX} {O : Ow} {S : Store} {H : Hp} {vs : List V} {ds : List D} {Q : VK} {E : XK} (ce : Ce K O S H) (dv : DVs K (wo O H) vs ds)
    (h : match runS b N.length ds S with
      | .ok d S' => ∀ v H' O', Stp O H O' H' → Ce K O' S' H' → DV K (wo O' H') v d → Q v H'
      | .err x S' => ∀ cls dd H' O', Stp O H O' H' → Ce K O' S' H' → ExOk K (wo O' H') x cls dd → E cls dd H'
      | .stuck => False) : tS K h0 (fun cls d _ H => E cls d H) b { nx := fun _ H' => Q .non H', rt := Q } (L2.start N vs) H := by
  refine ⟨_, envOf N.length ds S, ⟨O, ro_start ce dv⟩, ?_⟩
  unfold runS at h
  cases e : b (envOf N.length ds S) with
  | nx ρ =>
    rw [e] at h
    exact fun σ H' ⟨O', r⟩ => h .non H' O' r.fr r.ce .non
  | rt d ρ =>
    rw [e] at h
    exact fun v σ H' ⟨O', r, dv⟩ => h v H' O' r.fr r.ce dv
  | err x ρ =>
    rw [e] at h
    exact fun cls dd σ H' ⟨O', r, ev⟩ => h cls dd H' O' r.fr r.ce ev
  | bk ρ => rw [e] at h; exact h.elim
  | ct ρ => rw [e] at h; exact h.elim
  | stuck => rw [e] at h; exact h.elim
section
variable {P : Program} {w : World} {K : Fg} {mg : Str → Option Value} {base : Heap} {x qual : Str} {params : Arguments} {body : List Stmt} {scope : Scope} {f : Addr} {fd : FuncData}
/-- the context of a def's body -/
abbrev cx0 (P : Program) (w : World) (K : Fg) (mg : Str → Option Value) (base : Heap) (N : List Str) (qual : Str) (scope : Scope) (f : Addr) (cd : Value) (A : Around) (outer : List Env) (s : Shared) (H : Hp) (E : XK) : Cx := cxOf (L2N.CX P w) P w K mg base N qual scope f cd A outer s H E
abbrev wE0 (E : XK) : WX := fun cls d _ H => E cls d H
theorem tk_cx {N : List Str} {cd : Value} {A : Around} {outer : List Env} {s : Shared} {H : Hp} {E : XK} : L2N.Takes (cx0 P w K mg base N qual scope f cd A outer s H E) (wE0 E) := L2N.takes_of rfl rfl rfl rfl
theorem ps_cx {N : List Str} {cd : Value} {A : Around} {outer : List Env} {s : Shared} {H : Hp} {E : XK} : PassesOwn (model P w) (cx0 P w K mg base N qual scope f cd A outer s H E).A (cx0 P w K mg base N qual scope f cd A outer s H E).env (cx0 P w K mg base N qual scope f cd A outer s H E).xe := passes_of rfl
/-- a def's body, by its function -/
def Body (P : Program) (w : World) (K : Fg) (mg : Str → Option Value) (base : Heap) (k : Nat) (N : List Str) (qual : Str) (scope : Scope) (body : List Stmt) (b : SX) : Prop :=
  ∀ (f : Addr) (cd : Value) (A : Around) (outer : List Env) (s : Shared) (H : Hp) (E : XK), Room k (A.deeper (envOfC qual scope s.heap.objs.size f cd)) → PSs (cx0 P w K mg base N qual scope f cd A outer s H E) body (tS ⟨K, w⟩ h0 (wE0 E) b)
theorem def_ok {k : Nat} {N ps : List Str} {b : SX} (F : FunD K x qual params body scope [] [] f fd) (S : FnScope N ps scope) (hb : Body P w K mg base k N qual scope body b) : FnV P w K mg base (k + 1) f fd ps (runS b N.length) :=
  F.ok S (fun vs H Q E h => h.1) fun cdv A outer s H vs Q E hr h => by
    obtain ⟨hl, O, S, ds, dom, dv, q⟩ := h
    exact ⟨_, hb f cdv A outer s H E hr, body_run dom dv q⟩
theorem df_ok {k : Nat} {N ps : List Str} {b : SX} (hg : mg x = some (.ref f)) (F : FunD K x qual params body scope [] [] f fd) (S : FnScope N ps scope) (hbi : Binds K fd ps []) (hb : Body P w K mg base k N qual scope body b) : Df P w K mg base (k + 1) x ps.length (runS b N.length) :=
  ⟨f, fd, ps, hg, F.kp, hbi, rfl, def_ok F S hb⟩
theorem Df.mono {j k n : Nat} {m : Fn} (d : Df P w K mg base j x n m) (h : j ≤ k) : Df P w K mg base k x n m := by
  obtain ⟨f, fd, ps, h1, h2, h3, h4, h5⟩ := d.ex
  exact ⟨f, fd, ps, h1, h2, h3, h4, h5.mono h⟩
end

/-! ### defs that take the handled exception -/
structure FnE (P : Program) (w : World) (K : Fg) (mg : Str → Option Value) (base : Heap) (k : Nat) (f : Addr) (fd : FuncData) (ps : List Str) (m : Ex → Store → Rt) : Prop where
  one : ps.length = 1
  run : ∀ (A : Around) (outer : List Env) (s : Shared) (H : Hp) (args : Args) (us : List Value) (Q : VK) (E : XK) (p : Addr × Obj) (O : Ow) (S : Store) (y : Ex) (cls : Value) (dd : Option Addr), L2H.RoomH k A → L2H.Hot1 A p → L2H.PinOk outer H s p → Env0 P w K mg base A outer s H → BindsTo s fd args (ps.zip us) → Vals [.ref p.1] us →
    Zc cls dd p.2 → Ce ⟨K, w⟩ O S H → ExOk ⟨K, w⟩ (wo O H) y cls dd → (∃ d S', m y S = .ok d S' ∧ ∀ v H' O', Stp O H O' H' → Ce ⟨K, w⟩ O' S' H' → DV ⟨K, w⟩ (wo O' H') v d → Q v H') → codeAny (model P w) A (.call (.ref f) args) (CR (L2N.CX P w) outer P w H s Q E) s
theorem FnE.mono {P : Program} {w : World} {K : Fg} {mg : Str → Option Value} {base : Heap} {j k : Nat} {f : Addr} {fd : FuncData} {ps : List Str} {m : Ex → Store → Rt} (F : FnE P w K mg base j f fd ps m) (h : j ≤ k) : FnE P w K mg base k f fd ps m :=
  ⟨F.one, fun A outer s H args us Q E p O S y cls dd hr => F.run A outer s H args us Q E p O S y cls dd (hr.mono h)⟩
def slE (n : Nat) (x : Ex) : List (Option Sl) := some (.exc x) :: List.replicate (n - 1) none
def envE (n : Nat) (x : Ex) (S : Store) : En := ⟨slE n x, S⟩
def runE (b : SX) (n : Nat) : Ex → Store → Rt := fun x S => endR (b (envE n x S))
theorem envE_get {n : Nat} {x : Ex} {i : Nat} {y : Sl} (h : (slE n x)[i]? = some (some y)) : y = .exc x ∧ i = 0 := by
  unfold slE at h
  cases i with
  | zero =>
    cases h
    exact ⟨rfl, rfl⟩
  | succ i =>
    rw [List.getElem?_cons_succ, List.getElem?_replicate] at h
    split at h <;> cases h
theorem ro_startE {K : Kw} {N : List Str} {O : Ow} {S : Store} {H : Hp} {a : Addr} {x : Ex} {cls : Value} {dd : Option Addr} (hn : 1 ≤ N.length) (ce : Ce K O S H) (ev : ExOk K (wo O H) x cls dd) :
    RO K ⟨some (a, cls, dd)⟩ ⟨O, H⟩ (envE N.length x S) (L2.start N [.ref a]) H O := by
  refine ⟨Stp.refl _ _, ce, ?_, fun i y e => ?_⟩
  · show (slE N.length x).length = _
    unfold slE L2.start
    simp
  · obtain ⟨rfl, rfl⟩ := envE_get (show (slE N.length x)[i]? = some (some y) from e)
    exact ⟨.ref a, rfl, a, cls, dd, rfl, rfl, ev⟩
section
variable {P : Program} {w : World} {K : Fg} {mg : Str → Option Value} {base : Heap} {x qual : Str} {params : Arguments} {body : List Stmt} {scope : Scope} {f : Addr} {fd : FuncData}
def BodyE (P : Program) (w : World) (K : Fg) (mg : Str → Option Value) (base : Heap) (k : Nat) (N : List Str) (qual : Str) (scope : Scope) (body : List Stmt) (b : SX) : Prop :=
  ∀ (f : Addr) (cd : Value) (A : Around) (outer : List Env) (s : Shared) (H : Hp) (E : XK) (a : Addr) (oe : Obj) (cls : Value) (dd : Option Addr), L2H.RoomH k (A.deeper (envOfC qual scope s.heap.objs.size f cd)) → L2H.Hot1 A (a, oe) → Zc cls dd oe →
    PSs (L2H.cxH (L2N.CX P w) P w K mg base N qual scope f cd A outer s H E (a, oe)) body (tS ⟨K, w⟩ ⟨some (a, cls, dd)⟩ (fun _ _ _ _ => False) b)
theorem defE_ok {k : Nat} {N ps : List Str} {b : SX} (F : FunD K x qual params body scope [] [] f fd) (S : FnScope N ps scope) (h1 : ps.length = 1) (hb : BodyE P w K mg base k N qual scope body b) : FnE P w K mg base (k + 1) f fd ps (runE b N.length) := by
  refine ⟨h1, fun A outer s H args us Q E p O St y cls dd hr hot hpin e0 hbi r hz ce ev hq => ?_⟩
  obtain ⟨oc, od, dV, kV, doc, pm, an, cdv, ct, osl, rfl, lk, hcd, _, _⟩ := F.ex
  have KX : K.In s.heap := e0.mod.kin.keeps fun b o e => (e0.bs b o e).1
  have lim : s.heap.NoLimit := e0.mod.nolimit.keeps fun b o e => (e0.bs b o e).1
  have hkind : ∀ y ∈ ps.zip us, scope.names.lookup y.1 = some .local ∨ (scope.names.lookup y.1 = some .cell ∧ ((cellsFrom (s.heap.objs.size + 1) scope.names []).lookup y.1).isSome = true) := fun ⟨n, v⟩ hy => by
    rcases S.par n (List.of_mem_zip hy).1 with q | q
    · exact .inl q
    · exact .inr ⟨q, PySem.W.cellsFrom_some _ _ _ (.inl q)⟩
  refine codeAny_call_function hr.depth (KX _ _ lk) rfl S.co S.gen rfl (PySem.W.codeRec_of KX hcd) (hbi _ _ _ _ ?_)
  refine wpAny_newFunctionEnv_cells S.kind hkind fun env he s1 x => ?_
  subst he
  refine ⟨lim.keeps x.toInCall.keep, codeAny_func ?_⟩
  obtain ⟨pa, po⟩ := p
  have hN : 1 ≤ N.length := by
    have := congrArg List.length S.pre
    rw [List.length_take] at this
    omega
  have ht := hb f cdv A outer s H E pa po cls dd (hr.deeper _) hot hz
  have I : Inv (L2H.cxH (L2N.CX P w) P w K mg base N qual scope f cdv A outer s H E (pa, po)) [] (L2.start N [.ref pa]) H s1 := L2H.inv_startH S hpin e0 h1.symm r x
  have hq' : tS ⟨K, w⟩ ⟨some (pa, cls, dd)⟩ (fun _ _ _ _ => False) b { nx := fun _ H' => Q .non H', rt := Q } (L2.start N [.ref pa]) H := by
    refine ⟨_, envE N.length y St, ⟨O, ro_startE hN ce ev⟩, ?_⟩
    obtain ⟨d, S', hm, hq⟩ := hq
    unfold runE at hm
    cases e : b (envE N.length y St) with
    | nx ρ =>
      rw [e] at hm
      cases hm
      exact fun σ H' ⟨O', r⟩ => hq .non H' O' r.fr r.ce .non
    | rt d ρ =>
      rw [e] at hm
      cases hm
      exact fun v σ H' ⟨O', r, dv⟩ => hq v H' O' r.fr r.ce dv
    | err x ρ => rw [e] at hm; cases hm
    | bk ρ => rw [e] at hm; cases hm
    | ct ρ => rw [e] at hm; cases hm
    | stuck => rw [e] at hm; cases hm
  refine wpAny_mono (ht.run [] s1 (L2.start N [.ref pa]) H _ I hq') (fun fl s' hs => ?_) fun e s' hs => hs
  have fin : ∀ {σ' : MB.St} {H' : Hp} {v : V} {u : Value}, Inv (L2H.cxH (L2N.CX P w) P w K mg base N qual scope f cdv A outer s H E (pa, po)) [] σ' H' s' → RelV v u → Q v H' → CE outer P w H s Q u s' :=
    fun {σ' H' v u} J rv q => ⟨v, H', J.os, J.bare, J.base, J.hok, rv, q⟩
  cases fl with
  | ret u =>
    obtain ⟨v, σ', H', J, rv, q⟩ := hs
    exact fin J rv q
  | next =>
    obtain ⟨σ', H', J, q⟩ := hs
    exact fin (v := V.non) (u := Value.none) J rfl q
  | brk =>
    obtain ⟨_, _, _, q⟩ := hs
    exact False.elim q
  | cont =>
    obtain ⟨_, _, _, q⟩ := hs
    exact False.elim q
end
end MB

/-! The handled exception, try, by values. -/
namespace PySem.W
open PySem PySem.Spec PySem.Calls PyProof.Rows
section
variable {prog : Program} {w : World} {A : Around} {E : Value → Shared → Prop} {s : Shared} {K : Frag} {x C : Addr} {ox : Obj} {od : Option Obj}
theorem mb_findObj {name : Str} {a g : Value} (hc : (clsIn K C).isSome = true) (ha : findIn K (.ref C) name = some (some a)) (hg : specialIn K a "__get__" = some (some g)) (ht : takesIn K a = some true) : findObj K C od name = some (.bind g a) := by
  obtain ⟨cd, hc⟩ := Option.isSome_iff_exists.mp hc
  unfold findObj
  rw [hc, Option.bind_some, ha, Option.bind_some]
  simp [hg, ht]
theorem mb_class (T : L2.ExcC K C) (X : K.In s.heap) (I : InstAt s.heap x ox C od) {Q : Option Value → Shared → Prop} (h : Q (some (.ref C)) { s with toks := s.toks + 1 }) : wpAny (model prog w) A (getAttr? (.ref x) "__class__") Q E s := by
  have hf : findObj K C od "__class__" = some (.bind (.builtin "getset_descriptor.__get__") (.builtin "object.__class__")) := mb_findObj (by obtain ⟨cd, hc, _⟩ := any_some T.hd; rw [hc]; rfl) T.ha T.hn T.ht
  obtain ⟨hp, g, d, t, os⟩ := s
  have L0 := I.type (M := model prog w)
  have L1 := looks_findIn (M := model prog w) X T.hg
  have L2 := looks_findIn (M := model prog w) X T.hk
  have L3 := looks_find (M := model prog w) X I hf
  have sub : Looks (model prog w) hp (isInstance (.ref x) (.type "BaseException")) true := L0.andThen (looks_subIn X T.hs)
  unfold getAttr? getAttrBy? getAttrBy
  refine wpAny_bind (wpAny_mkText (wpAny_bind (wpAny_attempt (wpAny_holding (wpAny_bind (L0.at (wpAny_bind (L1.at ?_))))))))
  show wpAny _ _ (if (onTheHeap (Value.ref C) && Value.builtin "BaseException.__getattribute__" == Value.builtin "object.__getattribute__") = true then _ else _) _ _ _
  rw [show (onTheHeap (Value.ref C) && Value.builtin "BaseException.__getattribute__" == Value.builtin "object.__getattribute__") = false by rw [show (Value.builtin "BaseException.__getattribute__" == Value.builtin "object.__getattribute__") = false by decide +kernel]; rfl, if_neg Bool.false_ne_true]
  unfold getAttrByItsOwn hookBefore
  refine wpAny_bind ?_
  rw [if_pos (show onTheHeap (Value.ref C) = true from rfl)]
  refine L2.at (wpAny_bind (wpAny_attempt (wpAny_holding ?_)))
  unfold callGetattribute
  rw [show (false && onTheHeap (Value.builtin "BaseException.__getattribute__")) = false from rfl, if_neg Bool.false_ne_true]
  unfold boundAndCalled
  rw [PySem.F.excAttr_ValueError.ga.bind (.ref x)]
  refine wpAny_bind (wpAny_pure ?_)
  show wpAny _ _ (call (.builtin "BaseException.__getattribute__") [.ref x, .str "__class__" t]) _ _ _
  refine wpAny_call (codeAny_call_builtin PySem.F.excAttr_ValueError.ga.plain PySem.F.entry_bexc_ga ?_)
  refine @check_slot (model prog w) _ _ ⟨hp, g, d, t + 1, os⟩ "BaseException.__getattribute__" "BaseException" "__getattribute__" (.ref x) [.str "__class__" t] [] _ (by decide +kernel) (by decide +kernel) sub (PySem.F.args_bexc_ga (.ref x) (.str "__class__" t)) ?_
  unfold Builtin.«object.__getattribute__»
  refine wpAny_bind (wpAny_of_eq (a := ((Value.ref x : Value), [Value.str "__class__" t])) (by first | rfl | (simp only [slotArgs]; rfl)) ?_)
  refine wpAny_bind (wpAny_pure (wpAny_bind (L0.at (wpAny_bind (L3.at ?_)))))
  show wpAny _ _ (holding [Value.builtin "object.__class__"] (call (.builtin "getset_descriptor.__get__") [.builtin "object.__class__", .ref x, .ref C]) >>= ret) _ _ _
  refine wpAny_bind (wpAny_holding (wpAny_call (class_get (s := ⟨hp, g, d, t + 1, os⟩) (ox := ox) (od := od) X I T.hm ?_)))
  refine wpAny_pure ?_
  show wpAny _ _ (handedOut (.ref C)) _ _ _
  rw [handedOut_of (v := .ref C) rfl]
  first
    | exact wpAny_pure (wpAny_pure h)
    | exact wpAny_pure h
    | exact wpAny_pure (wpAny_bind (wpAny_pure (wpAny_pure h)))
theorem mb_kitx (T : L2.ExcC K C) : KitX K (.ref x) (.ref C) (fun h => InstAt h x ox C od) where
  ty := fun _ _ _ I => I.type
  it := fun _ _ X _ => by
    obtain ⟨cdD, hcD, _⟩ := any_some T.hd
    unfold clsIn at hcD
    split at hcD
    · rename_i c' d' cd' sl' ho
      intro A' Q' E' s' k q
      unfold isType loadHead
      exact wpAny_bind (wpAny_loadPart (k _ _ (X _ _ ho)) (wpAny_pure q))
    · cases hcD
  ne := fun h tp dd its n sl X htp => by
    obtain ⟨cdD, hcD, _⟩ := any_some T.hd
    refine Bool.eq_false_iff.mpr fun q => ?_
    have e : C = tp := Value.ref.inj (beq_iff_eq.mp q)
    subst e
    unfold clsIn at hcD
    split at hcD
    · rename_i c' d' cd' sl' ho
      have z := (X _ _ ho).symm.trans htp
      cases z
    · cases hcD
  ca := fun X I k => mb_class T X I k
end
end PySem.W
namespace MB
open PySem PySem.Spec PyProof.Rows L2

/-- the context holds the handled exception -/
def HxOk (X : Cx) (hx : Hx) : Prop := ∃ a oe cls dd, hx.ex = some (a, cls, dd) ∧ (a, oe) ∈ X.pn ∧ L2H.Hot1 X.A (a, oe) ∧ Zc cls dd oe
def dictOk (H : Hp) (dd : Option Addr) : Prop := dd = none ∨ ∃ d vs, dd = some d ∧ H d = some (.xd vs)
theorem ExOk.dict {K : Kw} {z : Fz} {H' : Hp} {x : Ex} {cls : Value} {dd : Option Addr} (h : ExOk K z x cls dd) (s : Same z.h H') : dictOk H' dd := by
  obtain ⟨_, ⟨_, h⟩ | ⟨d, vs, e, h, _⟩⟩ := h
  · exact .inl h
  · exact .inr ⟨d, vs, e, s _ _ h⟩
def rIsX (K : Fg) (C a : Addr) (dd : Option Addr) : List V → Hp → VK → Prop := fun xs H Q => ∃ (c : V) (cv : Value) (b : Bool), xs = [.ref a, c] ∧ (∀ u, RelV c u → u = cv) ∧ PySem.W.kitOne K (.ref C) cv = some b ∧ dictOk H dd ∧ Q (.bl b) H
theorem call_isX {X : Cx} {a C : Addr} {oe : Obj} {dd : Option Addr} (T : ExcC X.K C) (hm : (a, oe) ∈ X.pn) (hz : Zc (.ref C) dd oe) (hf : ∃ vs, oe.data = .fields vs) : CallR X (.builtin "isinstance") (rIsX X.K C a dd) := by
  intro pins s σ H xs us Q I r h
  obtain ⟨c, cv, b, rfl, hcv, e, hd, q⟩ := h
  cases r with
  | cons rx rr =>
    cases rr with
    | cons rt rr =>
      cases rr
      cases rx
      have ec := hcv _ rt
      subst ec
      obtain ⟨hget, _⟩ := I.pin (a, oe) (List.mem_append.mpr (.inl hm))
      obtain ⟨vs, hv⟩ := hf
      have J : ∃ od, PySem.W.InstAt s.heap a oe C od := by
        rcases hd with rfl | ⟨d, ws, rfl, hd⟩
        · exact ⟨none, hget, hz.1, by unfold PySem.W.notCls; rw [hv] <;> rfl, by rw [hz.2]; exact trivial⟩
        · obtain ⟨mA, hns, hr⟩ := (show ObjOk X.prog X.w H s.heap d (.xd ws) from I.hok d _ hd)
          obtain ⟨od, ho, hl⟩ := lookIn_ns hns
          exact ⟨some od, hget, hz.1, by unfold PySem.W.notCls; rw [hv] <;> rfl, by rw [hz.2]; exact ho⟩
      obtain ⟨od, J⟩ := J
      exact PySem.W.kia_one (PySem.W.mb_kitx T) I.kIn J e (fun z => nomatch z) fun tk => ⟨.bl b, H, I.kept (t' := tk) fun _ _ z => z, rfl, q⟩
/-- isinstance(e, C), e the handled exception; t: the answer by the class's name -/
def eIsE (i : Nat) (t : Str → Option Bool) : EX := fun ρ => match ρ[i]? with
  | some (some (.exc x)) => match t x.c with
    | some b => .ok (.bl b) ρ
    | none => .stuck
  | _ => .stuck
def ISF (K : Fg) (t : Str → Option Bool) (cv : Value) : Prop := ∀ c b, t c = some b → ExcC K (He.ga K c) ∧ PySem.W.kitOne K (.ref (He.ga K c)) cv = some b
section
variable {X : Cx} {hx : Hx} {W : WX} {pos p q q2 : Pos} {i : Nat} {x C : Str}
theorem is_core {t : Str → Option Bool} {cv : Value} {c : V} {te : TE} (ho : HxOk X hx) (hT : ISF X.K t cv) (hcv : ∀ u, RelV c u → u = cv) (hc : PE X (.Name C q2) (tC c)) (hN : X.N[i]? = some x) (hv : Vis X.env.scope x) (hm : X.mg "isinstance" = none) (hg : Gl X "isinstance")
    (hd : (x == ("__debug__" : Str)) = false) (hcd : (x == ("__classdict__" : Str)) = false) (he0 : starEach [Expr.Name C q2] X.env = (false, eval (Expr.Name C q2) X.env) :: starEach [] X.env)
    (he : starEach (.Name x q :: [Expr.Name C q2]) X.env = (false, eval (.Name x q) X.env) :: starEach [Expr.Name C q2] X.env) (hpl : (backTo pos (starEach [Expr.Name C q2] X.env)).any (·.1) = false) :
    PE X (.Call (.Name "isinstance" p) [.Name x q, .Name C q2] [] pos) (tX X.kw hx W (eIsE i t)) := by
  obtain ⟨a, oe, cls, dd, hxe, hmem, hot, hz⟩ := ho
  refine ⟨fun pins s σ H Q I h => ?_⟩
  obtain ⟨F, ρ, ⟨O, r0⟩, hp⟩ := h
  unfold eIsE at hp
  cases e : ρ[i]? with
  | none => rw [e] at hp; exact hp.elim
  | some o =>
    cases o with
    | none => rw [e] at hp; exact hp.elim
    | some sl =>
      rw [e] at hp
      cases sl with
      | val d => exact hp.elim
      | exc y =>
        have hp' : Po X.kw hx F W σ (match t y.c with
          | some b => Rs.ok (.bl b) ρ
          | none => .stuck) Q := hp
        cases e2 : t y.c with
        | none => rw [e2] at hp'; exact hp'.elim
        | some b =>
          rw [e2] at hp'
          obtain ⟨v, ev, a', cls', dd', rfl, e3, ex⟩ := r0.sl i _ e
          rw [hxe] at e3
          cases e3
          obtain ⟨hE, hk⟩ := hT _ _ e2
          have ec := ex.1
          subst ec
          have hcall := call_isX (X := X) hE hmem hz (by obtain ⟨_, vs, e1, _⟩ := hot; exact ⟨vs, e1⟩)
          refine (pe_callB hcall hg hm (by decide +kernel) (pa_cons (pe_var hN hv hd hcd) (pa_cons hc pa_nil he0) he) (by decide) (by decide) he hpl).run pins s σ H Q I ?_
          exact ⟨_, ev, c, cv, b, rfl, hcv, hk, ex.dict (wo_same O H), hp' _ H ⟨O, r0, .bl b⟩⟩
theorem r_isE {t : Str → Option Bool} {ca : Addr} (ho : HxOk X hx) (hT : ISF X.K t (.ref ca)) (hC : X.mg C = some (.ref ca)) (hm : X.mg "isinstance" = none) (hN : X.N[i]? = some x := by rfl) (hv : Vis X.env.scope x := by first | exact Or.inl rfl | exact Or.inr (Or.inl rfl) | exact Or.inr (Or.inr rfl)) (hg : Gl X "isinstance" := by rfl) (hg2 : Gl X C := by rfl)
    (hd : (x == ("__debug__" : Str)) = false := by decide) (hcd : (x == ("__classdict__" : Str)) = false := by decide) (hdb : (C == ("__debug__" : Str)) = false := by decide) (he0 : starEach [Expr.Name C q2] X.env = (false, eval (Expr.Name C q2) X.env) :: starEach [] X.env := by rfl)
    (he : starEach (.Name x q :: [Expr.Name C q2]) X.env = (false, eval (.Name x q) X.env) :: starEach [Expr.Name C q2] X.env := by rfl) (hpl : (backTo pos (starEach [Expr.Name C q2] X.env)).any (·.1) = false := by rfl) :
    PE X (.Call (.Name "isinstance" p) [.Name x q, .Name C q2] [] pos) (tX X.kw hx W (eIsE i t)) :=
  is_core (te := tVar i) ho hT (c := .ref ca) (fun u h => by cases h; rfl) (pe_glob (v := .ref ca) hg2 hC rfl hdb) hN hv hm hg hd hcd he0 he hpl
theorem r_isEb {t : Str → Option Bool} {Ts : String} (ho : HxOk X hx) (hT : ISF X.K t (.type Ts)) (hC : X.mg C = none) (hb : bootBuiltins C = some (.type Ts)) (hm : X.mg "isinstance" = none) (hN : X.N[i]? = some x := by rfl) (hv : Vis X.env.scope x := by first | exact Or.inl rfl | exact Or.inr (Or.inl rfl) | exact Or.inr (Or.inr rfl)) (hg : Gl X "isinstance" := by rfl) (hg2 : Gl X C := by rfl)
    (hn : C ≠ "__name__" := by decide) (hd : (x == ("__debug__" : Str)) = false := by decide) (hcd : (x == ("__classdict__" : Str)) = false := by decide) (hdb : (C == ("__debug__" : Str)) = false := by decide) (he0 : starEach [Expr.Name C q2] X.env = (false, eval (Expr.Name C q2) X.env) :: starEach [] X.env := by rfl)
    (he : starEach (.Name x q :: [Expr.Name C q2]) X.env = (false, eval (.Name x q) X.env) :: starEach [Expr.Name C q2] X.env := by rfl) (hpl : (backTo pos (starEach [Expr.Name C q2] X.env)).any (·.1) = false := by rfl) :
    PE X (.Call (.Name "isinstance" p) [.Name x q, .Name C q2] [] pos) (tX X.kw hx W (eIsE i t)) :=
  is_core (te := tVar i) ho hT (c := .ty Ts) (fun u h => by cases h; rfl) (pe_bltn (v := .ty Ts) hg2 hC hb rfl hn hdb) hN hv hm hg hd hcd he0 he hpl

/-! ### e.f -/
def eXf (i : Nat) (n : Str) (cs : List Str) : EX := fun ρ => match ρ[i]? with
  | some (some (.exc x)) => if cs.contains x.c then match x.fs.lookup n with
    | some d => .ok d ρ
    | none => .stuck else .stuck
  | _ => .stuck
def XFF (K : Fg) (n : Str) (cs : List Str) : Prop := ∀ c ∈ cs, XfC K (He.ga K c) ∧ PySem.W.findIn K (.ref (He.ga K c)) n = some none
theorem r_xf {n : Str} {cs : List Str} (ho : HxOk X hx) (hT : XFF X.K n cs) (hN : X.N[i]? = some x := by rfl) (hv : Vis X.env.scope x := by first | exact Or.inl rfl | exact Or.inr (Or.inl rfl) | exact Or.inr (Or.inr rfl))
    (hd : (x == ("__debug__" : Str)) = false := by decide) (hcd : (x == ("__classdict__" : Str)) = false := by decide) (hb : attributeBase (.Name x q) n X.env (eval (.Name x q) X.env) = eval (.Name x q) X.env := by rfl) :
    PE X (.Attribute (.Name x q) n pos) (tX X.kw hx W (eXf i n cs)) := by
  obtain ⟨a, oe, cls, dd, hxe, hmem, hot, hz⟩ := ho
  refine ⟨fun pins s σ H Q I h => ?_⟩
  obtain ⟨F, ρ, ⟨O, r0⟩, hp⟩ := h
  unfold eXf at hp
  cases e : ρ[i]? with
  | none => rw [e] at hp; exact hp.elim
  | some o =>
    cases o with
    | none => rw [e] at hp; exact hp.elim
    | some sl =>
      rw [e] at hp
      cases sl with
      | val d => exact hp.elim
      | exc y =>
        have hp' : Po X.kw hx F W σ (if cs.contains y.c then match y.fs.lookup n with
          | some d => Rs.ok d ρ
          | none => .stuck else .stuck) Q := hp
        split at hp'
        · rename_i hmc
          cases e2 : y.fs.lookup n with
          | none => rw [e2] at hp'; exact hp'.elim
          | some d =>
            rw [e2] at hp'
            obtain ⟨v, ev, a', cls', dd', rfl, e3, ex⟩ := r0.sl i _ e
            rw [hxe] at e3
            cases e3
            obtain ⟨T, hno⟩ := hT y.c (List.contains_iff_mem.mp hmc)
            obtain ⟨ec, ⟨z, _⟩ | ⟨dx, vs, rfl, hdx, hfs⟩⟩ := ex
            · rw [z] at e2; cases e2
            · subst ec
              obtain ⟨w1, l, dv⟩ := hfs.look e2
              have hq := hp' w1 H ⟨O, r0, dv⟩
              refine attr_of hb (thn ((pe_var hN hv hd hcd).run pins s σ H (fun v' H' => v' = .ref a ∧ H' = H) I ⟨_, ev, rfl, rfl⟩) fun u s1 hh => ?_)
              obtain ⟨x1, H1, I1, rx, rfl, rfl⟩ := hh
              obtain rfl : u = Value.ref a := rx
              obtain ⟨ha, _⟩ := I1.pin (a, oe) (List.mem_append_left _ hmem)
              obtain ⟨_, fv, hd1, _⟩ := hot
              have hX : ObjOk X.prog X.w H1 s1.heap dx (.xd vs) := I1.hok dx _ (wo_same O H1 _ _ hdx)
              obtain ⟨mA, hns, hr⟩ := hX
              obtain ⟨od, hod, hl⟩ := lookIn_ns hns
              obtain ⟨u, hu, ru⟩ := RelO.some_of (v := w1) (o := mA n) (by rw [← l]; exact hr n)
              have J : PySem.W.InstAt s1.heap a oe (He.ga X.K y.c) (some od) := ⟨ha, hz.1, by unfold PySem.W.notCls; rw [hd1] <;> rfl, by rw [hz.2]; exact hod⟩
              exact HandSPX.exc_get I1.kIn J T.ga T.gg T.exC (PySem.W.findObj_own T.hdC hno rfl (by rw [hl, hu])) (handed_of ru) ⟨w1, H1, I1.tok _, ru, hq⟩
        · exact hp'.elim

/-! ### calls with the handled exception -/
structure DfE (P : Program) (w : World) (K : Fg) (mg : Str → Option Value) (base : Heap) (k : Nat) (x : Str) (m : Ex → Store → Rt) : Prop where
  ex : ∃ f fd ps, mg x = some (.ref f) ∧ PySem.W.keepIn K (.ref f) = true ∧ Binds K fd ps [] ∧ FnE P w K mg base k f fd ps m
def eFnE (i : Nat) (m : Ex → Store → Rt) : EX := fun ρ => match ρ[i]? with
  | some (some (.exc x)) => match m x ρ.st with
    | .ok d S => .ok d ⟨ρ.sl, S⟩
    | _ => .stuck
  | _ => .stuck
theorem r_fnE {k : Nat} {f : Str} {m : Ex → Store → Rt} (F : DfE X.prog X.w X.K X.mg X.base k f m) (hr : L2H.RoomH k X.A) (ho : HxOk X hx) (hN : X.N[i]? = some x := by rfl) (hv : Vis X.env.scope x := by first | exact Or.inl rfl | exact Or.inr (Or.inl rfl) | exact Or.inr (Or.inr rfl)) (hg : Gl X f := by rfl)
    (hd : (x == ("__debug__" : Str)) = false := by decide) (hcd : (x == ("__classdict__" : Str)) = false := by decide) (hdb : (f == ("__debug__" : Str)) = false := by decide) (he : starEach [Expr.Name x q] X.env = (false, eval (.Name x q) X.env) :: starEach [] X.env := by rfl)
    (hpl : (backTo pos (starEach [] X.env)).any (·.1) = false := by rfl) : PE X (.Call (.Name f p) [.Name x q] [] pos) (tX X.kw hx W (eFnE i m)) := by
  obtain ⟨a, oe, cls, dd, hxe, hmem, hot, hz⟩ := ho
  obtain ⟨fa, fd, ps, hm, hk, hb, F⟩ := F.ex
  refine ⟨fun pins s σ H Q I h => ?_⟩
  obtain ⟨Fr, ρ, ⟨O, r0⟩, hp⟩ := h
  unfold eFnE at hp
  cases e : ρ[i]? with
  | none => rw [e] at hp; exact hp.elim
  | some o =>
    cases o with
    | none => rw [e] at hp; exact hp.elim
    | some sl =>
      rw [e] at hp
      cases sl with
      | val d => exact hp.elim
      | exc y =>
        have hp' : Po X.kw hx Fr W σ (match m y ρ.st with
          | .ok d S => Rs.ok d ⟨ρ.sl, S⟩
          | _ => .stuck) Q := hp
        cases e2 : m y ρ.st with
        | err z S => rw [e2] at hp'; exact hp'.elim
        | stuck => rw [e2] at hp'; exact hp'.elim
        | ok d S =>
          rw [e2] at hp'
          obtain ⟨v, ev, a', cls', dd', rfl, e3, ex⟩ := r0.sl i _ e
          rw [hxe] at e3
          cases e3
          refine wpAny_Call_Name_kw (ld_glob I hg hm ?_ hdb)
          refine PySem.W.callWith_K (h₀ := X.base) I.ok.mod.kin hk (thn ((pa_cons (pe_var hN hv hd hcd) pa_nil he).run pos pins s σ H (fun vs H' => vs = [.ref a] ∧ H' = H) I ⟨_, ev, rfl, rfl⟩) fun us s1 ⟨vs, H1, I1, r, q1, q2⟩ => ⟨I1.kIn, ?_⟩) he hpl
          subst q1 q2
          have hl : us.length = ps.length := by rw [← r.length, F.one]; rfl
          have b := hb s1 us I1.kIn (by rw [List.append_nil]; exact hl)
          rw [List.append_nil] at b
          have P1 := I1.pin (a, oe) (List.mem_append_left _ hmem)
          have hpin : L2H.PinOk X.stack H1 s1 (a, oe) := ⟨P1.1, P1.2.1, fun hm => (List.mem_cons.mp (I1.stkSub a hm)).elim P1.2.2.1 P1.2.2.2.1, P1.2.2.2.2⟩
          refine wpAny_call (codeAny_mono (F.run X.A X.stack s1 H1 ⟨us, []⟩ us Q (fun _ _ _ => False) (a, oe) O ρ.st y cls dd hr hot hpin I1.env0 b r hz r0.ce ex ⟨d, S, e2, fun v H' O' s' c' dv => hp' v H' ⟨O', r0.st s' c', dv⟩⟩) fun r s' hq => ?_)
          cases r with
          | error e =>
            obtain ⟨_, _, _, _, _, _, _, _, _, _, _, _, z⟩ := hq
            exact z.elim
          | ok fl =>
            cases fl with
            | ret u => exact I1.after hq
            | next => exact False.elim hq
            | brk => exact False.elim hq
            | cont => exact False.elim hq
end

/-! ### try -/
def noExc (ρ : En) : Bool := ρ.sl.all fun o => match o with
  | some (.exc _) => false
  | _ => true
def sTry (gb : SX) (i : Nat) (t : Str → Option Bool) (gs : SX) : SX := fun ρ => match gb ρ with
  | .err x ρ1 => match t x.c with
    | some true => match gs (ρ1.set i (some (.exc x))) with
      | .nx ρ2 => if noExc (ρ2.set i none) then .nx (ρ2.set i none) else .stuck
      | .bk ρ2 => if noExc (ρ2.set i none) then .bk (ρ2.set i none) else .stuck
      | .ct ρ2 => if noExc (ρ2.set i none) then .ct (ρ2.set i none) else .stuck
      | .rt d ρ2 => if noExc (ρ2.set i none) then .rt d (ρ2.set i none) else .stuck
      | _ => .stuck
    | some false => .err x ρ1
    | none => .stuck
  | r => r
section
variable {K : Kw} {F : Fm} {H : Hp} {ρ : En} {σ : MB.St} {O : Ow} {i : Nat} {ex : Option (Addr × Value × Option Addr)}
theorem RO.toE (r : RO K ⟨none⟩ F ρ σ H O) : RO K ⟨ex⟩ F ρ σ H O := by
  refine ⟨r.fr, r.ce, r.len, fun i x e => ?_⟩
  obtain ⟨v, ev, h⟩ := r.sl i x e
  refine ⟨v, ev, ?_⟩
  cases x with
  | val d => exact h
  | exc y =>
    obtain ⟨_, _, _, _, z, _⟩ := h
    cases z
theorem RO.setE (r : RO K ⟨none⟩ F ρ σ H O) {a : Addr} {cls : Value} {dd : Option Addr} {x : Ex} (h : ExOk K (wo O H) x cls dd) : RO K ⟨some (a, cls, dd)⟩ F (ρ.set i (some (.exc x))) (σ.set i (some (.ref a))) H O :=
  (r.toE (ex := some (a, cls, dd))).put i ⟨a, cls, dd, rfl, rfl, h⟩
theorem RO.unE (r : RO K ⟨ex⟩ F ρ σ H O) (hn : noExc (ρ.set i none) = true) : RO K ⟨none⟩ F (ρ.set i none) (σ.set i none) H O := by
  have r1 := r.setNone i
  refine ⟨r1.fr, r1.ce, r1.len, fun j x e => ?_⟩
  obtain ⟨v, ev, h⟩ := r1.sl j x e
  refine ⟨v, ev, ?_⟩
  cases x with
  | val d => exact h
  | exc y =>
    have := List.all_eq_true.mp hn _ (List.mem_of_getElem? e)
    cases this
end
def TEF (K : Fg) (t : Str → Option Bool) (c : Value) : Prop := ∀ cn b, t cn = some b → PySem.W.exmOne K (.ref (He.ga K cn)) c = some b
section
variable {X : Cx} {x n : Str} {c : Value} {i : Nat} {body suite : List Stmt} {b₀ : Stmt} {np pos pos' : Pos} {Wout : WX} {gb gs : SX} {t : Str → Option Bool}
theorem p_try (hs : X.stack = X.env :: X.outer) (hf : X.env.frame = some X.env.locals) (hN : X.N.Nodup) (hi : X.N[i]? = some n) (hln : X.env.kindOf n = some .local) (hc : Names X x c) (tk : L2N.Takes X Wout) (hT : TEF X.K t c)
    (hb : ∀ (W : WX) (pn : List (Addr × Obj)) (xe : Value → Shared → Prop), L2N.Takes (X.tr pn xe) W → PassesOwn (model X.prog X.w) X.A X.env xe → PSs (X.tr pn xe) body (tS X.kw ⟨none⟩ W gb))
    (hsu : ∀ (a : Addr) (oe : Obj) (cls : Value) (d : Option Addr) (pn : List (Addr × Obj)), HxOk (X.suite a ((a, oe) :: pn)) ⟨some (a, cls, d)⟩ → PSs (X.suite a ((a, oe) :: pn)) (b₀ :: suite) (tS X.kw ⟨some (a, cls, d)⟩ (fun _ _ _ _ => False) gs)) :
    PS X (.Try body [.ExceptHandler (some (.Name x np)) (some n) (b₀ :: suite) pos'] [] [] pos) (tS X.kw ⟨none⟩ Wout (sTry gb i t gs)) :=
  (L2N.ps_try_as (tb := fun W => tS X.kw ⟨none⟩ W gb) (ts := fun a cls d => tS X.kw ⟨some (a, cls, d)⟩ (fun _ _ _ _ => False) gs) hs hf hN hi hln hc tk hb fun a oe cls d pn hz hfv => hsu a oe cls d pn ⟨a, oe, cls, d, rfl, List.mem_cons_self, ⟨rfl, by
    obtain ⟨vs, e⟩ := hfv
    exact ⟨vs, e, hz.2.2 vs e⟩⟩, hz.zc⟩).imp fun D σ H h => by
    obtain ⟨F, ρ, r, hp⟩ := h
    refine ⟨F, ρ, r, ?_⟩
    unfold sTry at hp
    cases e : gb ρ with
    | nx ρ1 => rw [e] at hp; exact hp
    | rt d ρ1 => rw [e] at hp; exact hp
    | bk ρ1 => rw [e] at hp; exact hp
    | ct ρ1 => rw [e] at hp; exact hp
    | stuck => rw [e] at hp; exact hp
    | err y ρ1 =>
      rw [e] at hp
      intro cls dd σ1 H1 hx1
      have hp' : PoS X.kw ⟨none⟩ F Wout (match t y.c with
        | some true => match gs (ρ1.set i (some (.exc y))) with
          | .nx ρ2 => if noExc (ρ2.set i none) then Fl.nx (ρ2.set i none) else .stuck
          | .bk ρ2 => if noExc (ρ2.set i none) then .bk (ρ2.set i none) else .stuck
          | .ct ρ2 => if noExc (ρ2.set i none) then .ct (ρ2.set i none) else .stuck
          | .rt d ρ2 => if noExc (ρ2.set i none) then .rt d (ρ2.set i none) else .stuck
          | _ => .stuck
        | some false => .err y ρ1
        | none => .stuck) D := hp
      cases e2 : t y.c with
      | none => rw [e2] at hp'; exact hp'.elim
      | some b =>
        rw [e2] at hp'
        have ho := hx1
        obtain ⟨O1, r1, ev⟩ := hx1
        have hk := hT _ _ e2
        have ev1 : cls = .ref (He.ga X.K y.c) := ev.1
        rw [← ev1] at hk
        refine ⟨b, hk, fun hb1 a ha => ?_, fun hb0 => ?_⟩
        · subst hb1
          refine ⟨F, _, ⟨O1, r1.setE (i := i) (a := a) ev⟩, ?_⟩
          cases e3 : gs (ρ1.set i (some (.exc y))) with
          | nx ρ2 =>
            simp only [e3] at hp'
            split at hp'
            · rename_i hn
              exact fun σ2 H2 ⟨O2, r2⟩ => hp' _ H2 ⟨O2, r2.unE hn⟩
            · exact hp'.elim
          | bk ρ2 =>
            simp only [e3] at hp'
            split at hp'
            · rename_i hn
              exact fun σ2 H2 ⟨O2, r2⟩ => hp' _ H2 ⟨O2, r2.unE hn⟩
            · exact hp'.elim
          | ct ρ2 =>
            simp only [e3] at hp'
            split at hp'
            · rename_i hn
              exact fun σ2 H2 ⟨O2, r2⟩ => hp' _ H2 ⟨O2, r2.unE hn⟩
            · exact hp'.elim
          | rt d ρ2 =>
            simp only [e3] at hp'
            split at hp'
            · rename_i hn
              exact fun v σ2 H2 ⟨O2, r2, dv⟩ => hp' v _ H2 ⟨O2, r2.unE hn, dv⟩
            · exact hp'.elim
          | err z ρ2 => simp only [e3] at hp'; exact hp'.elim
          | stuck => simp only [e3] at hp'; exact hp'.elim
        · subst hb0
          exact hp' cls dd σ1 H1 ho
end
end MB

/-! An own exception class with an __init__: super().__init__(text); self.f = f ... -/
namespace PySem
namespace MbX
open PySem.W PySem.Calls PyProof.Rows PySem.HandSPX
/-! ### the text of __init__ -/
structure XAs where
  n : Str
  p : Pos
  q1 : Pos
  q2 : Pos
  q3 : Pos
  q4 : Pos
def xSet (a : XAs) : Stmt := .Assign [.Attribute (.Name "self" a.q1) a.n a.q2] (.Name a.n a.q3) a.q4
structure XSu where
  ps : Pos
  txt : Str
  j : Nat
  p0 : Pos
  p1 : Pos
  p2 : Pos
  p3 : Pos
  p4 : Pos
  p5 : Pos
def xSup (u : XSu) : Stmt := .Expr (.Call (.Attribute (.Call (.Name "super" u.p0) [] [] u.p1) "__init__" u.p2) [.Constant (.str u.txt) u.j u.p3] [] u.p4) u.p5
def xA (u : XSu) (as : List XAs) : Arguments := { posonlyargs := [], args := { arg := "self", annotation := none, pos := u.ps } :: as.map fun a => { arg := a.n, annotation := none, pos := a.p }, vararg := none, kwonlyargs := [], kw_defaults := [], kwarg := none, defaults := [] }
def xB (u : XSu) (as : List XAs) : List Stmt := xSup u :: as.map xSet
def xS (as : List XAs) : Scope := { kind := .function, names := (PySem.Str.ofString "self", .local) :: (as.map fun a => (a.n, NameKind.local)) ++ [(PySem.Str.ofString "__class__", .free), (PySem.Str.ofString "super", .globalImplicit)], isGenerator := false, isCoroutine := false, more := [] }
abbrev fnI (qual : Str) (u : XSu) (as : List XAs) (cc : Addr) (dV kV doc pm : Value) (an : Option Addr) (cdv ct : Value) : FuncData := ksFn "__init__" qual (xA u as) (xB u as) (xS as) dV kV doc pm an cdv ct cc
/-- what the written part says of the class at C, of its __init__ at fI -/
structure XT (prog : Program) (K : Frag) (mg : Str → Option Value) (x : Str) (C fI cc : Addr) (u : XSu) (as : List XAs) : Prop where
  gC : mg x = some (.ref C)
  cls : ∃ nm q N bs bm sn sub ab col dd k0 k1 k2 k3 k5, K.lookup C = some (excClassObj nm q C N bs bm true sn sub ab col dd k0 k1 k2 k3 k5 "ValueError.__new__") ∧ refsVE bm = true ∧ alongIn K "__init__" bm = some (some (.builtin "ValueError.__init__"))
  sa : findIn K (.ref C) "__setattr__" = some (some (.builtin "object.__setattr__"))
  no : ∀ a ∈ as, findIn K (.ref C) a.n = some none
  iC : findIn K (.ref C) "__init__" = some (some (.ref fI))
  tC : typeIn K (.ref fI) = some (.type "function")
  kC : keepIn K (.ref C) = true
  exC : subIn K (.ref C) (.type "BaseException") = some true
  veC : subIn K (.ref C) (.type "ValueError") = some true
  ownC : subIn K (.ref C) (.ref C) = some true
  tyC : typeIn K (.ref C) = some (.type "type")
  opq : nsIn K cStatics "thirdparty.any" = some none
  cell : ∃ o, K.lookup cc = some o ∧ o.data = .cell (some (.ref C))
  sup : mg "super" = none
  top : (prog.main.scope.names.lookup ("super" : Str)).isSome = false
  fn : ∃ (oc : Value) (od : Option Addr) (q : Str) (kV doc pm : Value) (an : Option Addr) (cdv ct : Value) (osl : Array (Option Value)), K.lookup fI = some ⟨oc, od, .func (fnI q u as cc .none kV doc pm an cdv ct), osl⟩ ∧ codeIn K cdv q = true ∧
    ∃ (ca : Addr) (oc2 : Obj) (vs : Array Value) (file : Str) (tf : Tok), cdv = .ref ca ∧ K.lookup ca = some oc2 ∧ oc2.data = .fields vs ∧ vs[2]? = some (.str file tf) ∧ ((prog.main.file : Str) == file) = true
theorem mb_one_size (v : Value) : [v].length ≤ sizeLine := by
  rw [sizeLine_eq]
  exact (by decide : 1 ≤ 16777216)
theorem mb_kept_but {K : Frag} {h h' : Heap} {x : Addr} (X : K.In h) (hx : K.lookup x = none) (k : ∀ b o, b ≠ x → h.get? b = some o → h'.get? b = some o) : K.In h' := fun a o e =>
  k a o (fun z => by rw [z, hx] at e; cases e) (X a o e)
/-- the fields' names are the def's own -/
def goodLine (u : XSu) : Bool := u.p2.endLine == u.p4.line
def goodNames (as : List XAs) : Bool := decide ((xS as).names.lookup ("super" : Str) = some .globalImplicit) && (decide ((xS as).names.lookup ("__class__" : Str) = some .free) && as.all fun a => decide (((xS as).names.lookup a.n) = some .local) && !(a.n == ("__debug__" : Str)) && !(a.n == ("self" : Str)))
section
variable {prog : Program} {w : World} {A : Around} {E : Value → Shared → Prop} {R : Result → Shared → Prop} {s : Shared} {K : Frag} {mg : Str → Option Value} {cn : Str} {x C fI cc : Addr} {u : XSu} {as0 : List XAs}
theorem within_look : ∀ (fs : List (Str × Value)), Within (fun y => fs.lookup y) (fs.map (·.1))
  | [], y, h => absurd rfl h
  | (a, v) :: r, y, h => by
    by_cases e : y = a
    · rw [e]
      exact List.mem_cons_self ..
    · refine List.mem_cons_of_mem _ (within_look r y fun z => h ?_)
      have eb : (y == a) = false := by simpa using e
      show ((a, v) :: r).lookup y = none
      rw [List.lookup_cons, eb]
      exact z
theorem look_put (a : Str) (v : Value) (fs : List (Str × Value)) : (fun y => if y = a then some v else fs.lookup y) = fun y => ((a, v) :: fs).lookup y := by
  funext y
  rw [List.lookup_cons]
  by_cases e : y = a
  · rw [if_pos e]
    have eb : (y == a) = true := by simpa using e
    rw [eb]
  · rw [if_neg e]
    have eb : (y == a) = false := by simpa using e
    rw [eb]
/-- the fields behind the first -/
theorem sets_old {fd : FuncData} {L dx : Addr} {m : Str → Option Value} {fv : Array Value} {cd : ClassData} {Q : Flow → Shared → Prop} (hk : fd.scope.kind = .function) (hcd : clsIn K C = some cd) (hm : refsVE cd.mro = true) (hh : cd.hasDict = true) (sa : findIn K (.ref C) "__setattr__" = some (some (.builtin "object.__setattr__")))
    (hself : m "self" = some (.ref x)) (hsl : (callEnv fd L fI).kindOf "self" = some .local) (hxd : x ≠ dx) (hLd : L ≠ dx) (hKd : K.lookup dx = none) :
    ∀ (as : List XAs) (us : List Value) (fs : List (Str × Value)) (s : Shared), (∀ a ∈ as, (callEnv fd L fI).kindOf a.n = some .local ∧ (a.n == ("__debug__" : Str)) = false ∧ findIn K (.ref C) a.n = some none) → as.map (fun a => m a.n) = us.map some → fs.length + as.length ≤ 1000 →
      K.In s.heap → s.heap.Ns L m → s.heap.get? x = some { cls := .ref C, dict := some dx, data := .fields fv } → s.heap.Ns1 dx (fun y => fs.lookup y) →
      (∀ h' tk, (∀ b o, b ≠ dx → s.heap.get? b = some o → h'.get? b = some o) → h'.Ns1 dx (fun y => (((as.map (·.n)).zip us).reverse ++ fs).lookup y) → Q .next { s with heap := h', toks := tk }) →
      wpAny (model prog w) A (execs (as.map xSet) (callEnv fd L fI)) Q E s
  | [], us, fs, s, _, _, _, _, _, _, hn, hq => by
    refine wpAny_execs_nil ?_
    have q := hq s.heap s.toks (fun _ _ _ e => e) hn
    exact q
  | a :: as, [], _, _, _, e, _, _, _, _, _, _ => by cases e
  | a :: as, v :: us, fs, s, hl, e, hz, X, hL, hx, hn, hq => by
    obtain ⟨hl1, hl2, hl3⟩ := hl a List.mem_cons_self
    have e1 : m a.n = some v ∧ as.map (fun a => m a.n) = us.map some := by
      simp only [List.map_cons, List.cons.injEq] at e
      exact e
    refine wpAny_execs_cons (plainObj_wpAny_Assign_Attribute ?_)
    refine ldc hk hl1 hL e1.1 (ldc hk hsl hL hself ?_) hl2
    obtain ⟨oD, esD, epD, hoD, hdD, hcD⟩ := hn.count (within_look fs)
    have hz1 : fs.length + 1 + as.length ≤ 1000 := by
      rw [List.length_cons] at hz
      omega
    obtain ⟨hp, g, d, t, os⟩ := s
    refine set_plain X (ox := { cls := .ref C, dict := some dx, data := .fields fv }) (od := some oD) ⟨hx, rfl, rfl, hoD⟩ sa ?_
    refine OEX.osa_old X hx hn (within_look fs) (by rw [List.length_map]; omega) hcd hm hh hl3 (fun h1 tk1 k1 hn1 => ?_)
    have hn1' : h1.Ns1 dx (fun y => ((a.n, v) :: fs).lookup y) := by
      rw [← look_put]
      exact hn1
    refine sets_old hk hcd hm hh sa hself hsl hxd hLd hKd as us ((a.n, v) :: fs) ⟨h1, g, d, tk1, os⟩ (fun b hb => hl b (List.mem_cons_of_mem _ hb)) e1.2 (by rw [List.length_cons]; exact hz1) (mb_kept_but X hKd k1) (hL.at fun o q => k1 _ _ hLd q) (k1 _ _ hxd hx) hn1' fun h' tk k' hn' => ?_
    refine hq h' tk (fun b o hb eo => k' b o hb (k1 b o hb eo)) ?_
    have eq : (((a :: as).map (·.n)).zip (v :: us)).reverse ++ fs = ((as.map (·.n)).zip us).reverse ++ ((a.n, v) :: fs) := by simp
    rw [eq]
    exact hn'
/-- super().__init__(text), the built-in one -/
theorem sup_call {h : Heap} {g : Array GenState} {d : Drawn} {t : Nat} {os : OsState} {y t0 : Addr} {rest : List Value} {Q : Value → Shared → Prop} {nm q : Str} {N : Addr} {bs bm : List Value} {hdct : Bool} {sn : List Str} {sub : List Value} {ab : Bool} {col : Option Bool} {dd : Option Addr} {k0 k1 k2 k3 k5 : Option Value}
    (hC : h.get? C = some (excClassObj nm q C N bs bm hdct sn sub ab col dd k0 k1 k2 k3 k5 "ValueError.__new__")) (hu : h.get? y = some (kxs_mw "ValueError.__init__" x)) (he : h.get? x = some (excO C t0)) (hz : rest.length ≤ sizeLine)
    (hq : ∀ h', (∀ b o, b ≠ x → h.get? b = some o → h'.get? b = some o) → h'.get? x = some (excO C h.objs.size) → Q .none ⟨h', g, d, t, os⟩) : wpAny (model prog w) A (call (.ref y) rest) Q E ⟨h, g, d, t, os⟩ := by
  refine wpAny_call (codeAny_of_tree ?_)
  show wpAny _ A.in1 (callAny (.ref y) ⟨rest, []⟩) _ _ _
  simp only [callAny]
  refine wpAny_bind (wpAny_load hu ?_)
  simp only [kxs_mw, show (Value.type "method-wrapper" == Value.type "method" || Value.type "method-wrapper" == Value.type "builtin_function_or_method" || Value.type "method-wrapper" == Value.type "method-wrapper") = true by decide, if_true]
  refine KFB.if_so (by decide) ?_
  refine wpAny_bind (check_bound_init F.excBase_ValueError.toExcCallFacts hC he rfl ?_)
  refine wpAny_bind (wpAny_pure (wpAny_pure ?_))
  refine ⟨plainId_quiet F.excBase_ValueError.init.plain _, codeAny_builtin F.excBase_ValueError.initEntry ?_⟩
  exact exc_init_tree (cls := .ref C) (t0 := t0) (dv := none) (c2 := .none) (c3 := .none) (b4 := .bool false) he hz fun h' k e' _ => hq h' k e'
theorem super_eval {env : Env} {u : XSu} (hl : goodLine u = true) : eval (.Call (.Attribute (.Call (.Name "super" u.p0) [] [] u.p1) "__init__" u.p2) [.Constant (.str u.txt) u.j u.p3] [] u.p4) env = (do
      let ov ← attributeBase (.Call (.Name "super" u.p0) [] [] u.p1) "__init__" env (eval (.Call (.Name "super" u.p0) [] [] u.p1) env)
      standAt u.p2.atName
      let (f, first) ← holding [ov] (getMethod ov "__init__" (do return (← importBound (.Call (.Name "super" u.p0) [] [] u.p1) env).getD true))
      callWith u.p4 f first (backTo u.p4 (starEach [.Constant (.str u.txt) u.j u.p3] env)) []) := by
  rw [arm_eval_Call]
  have hpos : methodCallPos true (.Call (.Name "super" u.p0) [] [] u.p1) env u.p2 u.p4 = pure u.p4 := by
    unfold methodCallPos
    have hl' : (u.p2.endLine == u.p4.line) = true := hl
    simp [hl']
  have hm : ∀ ov, methodCall (.Call (.Name "super" u.p0) [] [] u.p1) "__init__" u.p2 u.p4 env ov ([Expr.Constant (.str u.txt) u.j u.p3].length + ([] : List Keyword).length) (backTo u.p4 (starEach [.Constant (.str u.txt) u.j u.p3] env)) (backToKw u.p4 (keywordEach [] env)) = (do
      let (f, first) ← holding [ov] (getMethod ov "__init__" (do return (← importBound (.Call (.Name "super" u.p0) [] [] u.p1) env).getD true))
      callWith u.p4 f first (backTo u.p4 (starEach [.Constant (.str u.txt) u.j u.p3] env)) []) := fun ov => by
    have hform : methodCallForm ([Expr.Constant (.str u.txt) u.j u.p3].length + ([] : List Keyword).length) (backTo u.p4 (starEach [.Constant (.str u.txt) u.j u.p3] env)) (backToKw u.p4 (keywordEach [] env)) = true := rfl
    unfold methodCall
    rw [hform, hpos]
    simp only [pure_bind]
    rfl
  simp only [hm]
/-- what __init__ leaves of a fresh exception at x -/
structure XEnd (h h' : Heap) (x C dx t1 : Addr) (fs : List (Str × Value)) : Prop where
  keep : ∀ b o, b ≠ x → h.get? b = some o → h'.get? b = some o
  obj : h'.get? x = some { cls := .ref C, dict := some dx, data := .fields #[.ref t1, .none, .none, .none, .bool false, .none] }
  dbig : h.objs.size ≤ dx
  dne : dx ≠ x
  ns : h'.Ns1 dx (fun y => fs.lookup y)
theorem x_init (T : XT prog K mg cn C fI cc u as0) {t0 : Addr} {us : List Value} {base : Heap} (hs : 1 ≤ as0.length) (h9 : as0.length ≤ 900) (hline : goodLine u = true) (hgo : goodNames as0 = true) (hM : L2.Mod K mg base) (hbs : ∀ b o, base.get? b = some o → s.heap.get? b = some o)
    (hx : s.heap.get? x = some (excO C t0)) (hnx : K.lookup x = none) (hroom : A.depth < recursionLimit)
    (hbind : ∀ q kV doc pm an cdv ct, BindsTo s (fnI q u as0 cc .none kV doc pm an cdv ct) ⟨.ref x :: us, []⟩ ((("self" : Str), Value.ref x) :: (as0.map (·.n)).zip us))
    (hm1 : ((("self" : Str), Value.ref x) :: (as0.map (·.n)).zip us).reverse.lookup ("self" : Str) = some (Value.ref x))
    (hm2 : as0.map (fun a => ((("self" : Str), Value.ref x) :: (as0.map (·.n)).zip us).reverse.lookup a.n) = us.map some)
    (hq : ∀ h' tk dx t1, XEnd s.heap h' x C dx t1 ((as0.map (·.n)).zip us).reverse → R (.ok (.ret .none)) { s with heap := h', toks := tk }) :
    codeAny (model prog w) A (.call (.ref fI) ⟨.ref x :: us, []⟩) R s := by
  have X : K.In s.heap := hM.kin.keeps hbs
  have hlim : s.heap.NoLimit := hM.nolimit.keeps hbs
  obtain ⟨oc, od, q, kV, doc, pm, an, cdv, ct, osl, ho, hcd, ca, oc2, cvs, file, tf, rfl, hca, hcvs, hfl, hfile⟩ := T.fn
  obtain ⟨nm, qn, N, bs, bm, sn, sub, ab, col, dd, k0, k1, k2, k3, k5, hC, hbm, hal⟩ := T.cls
  have hcl : clsIn K C = some { name := nm, bases := bs, mro := .ref C :: bm, ns := N, qualname := qn, hasDict := true, slotNames := sn, subclasses := sub, abstract := ab, collection := col, hasDel := false } := by unfold clsIn; rw [hC] <;> rfl
  obtain ⟨hks, hgo⟩ := Bool.and_eq_true_iff.mp hgo
  obtain ⟨hkc, hgo⟩ := Bool.and_eq_true_iff.mp hgo
  have hks := of_decide_eq_true hks
  have hkc := of_decide_eq_true hkc
  have hg0 : ∀ a ∈ as0, (xS as0).names.lookup a.n = some .local ∧ (a.n == ("__debug__" : Str)) = false := fun a ha => by
    have z := List.all_eq_true.mp hgo a ha
    simp only [Bool.and_eq_true, Bool.not_eq_true', decide_eq_true_eq] at z
    exact ⟨z.1.1, z.1.2⟩
  have hlself : (xS as0).names.lookup ("self" : Str) = some .local := rfl
  have hloc : ∀ y ∈ ((("self" : Str), Value.ref x) :: (as0.map (·.n)).zip us), (xS as0).names.lookup y.1 = some .local := fun ⟨n, v⟩ hy => by
    rcases List.mem_cons.mp hy with e | hy
    · cases e
      exact hlself
    · obtain ⟨a, ha, e⟩ := List.mem_map.mp (List.of_mem_zip hy).1
      have z := (hg0 a ha).1
      rw [e] at z
      exact z
  have hcell : ∀ y ∈ (xS as0).names, y.2 ≠ .cell := fun y hy => by
    rcases List.mem_cons.mp hy with e | hy
    · rw [e]
      decide
    · rcases List.mem_append.mp hy with hy | hy
      · obtain ⟨a, _, e⟩ := List.mem_map.mp hy
        rw [← e]
        exact fun z => nomatch z
      · rcases List.mem_cons.mp hy with e | hy
        · rw [e]
          decide
        · rcases List.mem_cons.mp hy with e | hy
          · rw [e]
            decide
          · cases hy
  refine ks_codeAny_call_defAt (fd := fnI q u as0 cc .none kV doc pm an (.ref ca) ct) hroom (X _ _ ho) rfl hlim (codeRec_of X hcd) rfl (hbind q kV doc pm an (.ref ca) ct) hcell hloc (fun h₁ hns k₁ => ?_) rfl rfl rfl
  have X₁ : K.In h₁ := X.keeps k₁
  have hbs₁ : ∀ b o, base.get? b = some o → h₁.get? b = some o := fun b o e => k₁ _ _ (hbs _ _ e)
  have hx₁ := k₁ _ _ hx
  have hLx : s.heap.objs.size ≠ x := Nat.ne_of_gt (Heap.lt_size hx)
  show _root_.PySem.wpAt _ _ _ (execs (xSup u :: as0.map xSet) _) _ _ _
  refine ks_wpAt_execs_cons ?_
  show _root_.PySem.wpAt _ _ _ (exec (.Expr (.Call (.Attribute (.Call (.Name "super" u.p0) [] [] u.p1) "__init__" u.p2) [.Constant (.str u.txt) u.j u.p3] [] u.p4) u.p5) _) _ _ _
  refine ks_wpAt_Expr_any (ks_wpAt_MethodCall ?_ (super_eval hline)) rfl rfl
  refine ks_wpAt_super_base (f := fI) (cc := ca) (fd := fnI q u as0 cc .none kV doc pm an (.ref ca) ct) hks hkc (by decide) rfl (X₁ _ _ ho) rfl rfl rfl (X₁ _ _ hca) hcvs hfl hfile T.top ?_
  obtain ⟨mb, hb1, hb2⟩ := hM.blt
  refine ks_loadName_global rfl hks (loadGlobal_builtin (hM.glob.keeps hbs₁) T.sup (hb1.keeps hbs₁) ((hb2 "super" (by decide)).trans (by decide +kernel)) ⟨rfl, ?_⟩)
  obtain ⟨oce, hce, hcd2⟩ := T.cell
  refine wpAny_loadName_free rfl hkc rfl ⟨oce, X₁ _ _ hce, hcd2⟩ ?_
  refine wpAny_loadName_local (v := .ref x) rfl hlself hns hm1 ?_
  refine ks_wpAny_isType_cls (X₁ _ _ hC) rfl ⟨rfl, ?_⟩
  refine ks_wpAny_call_super (X₁ _ _ hC) rfl hx₁ rfl (fun c e => by cases e) (looks_subIn X₁ T.ownC) (fun h₂ so₂ k₂ => ?_)
  have X₂ : K.In h₂ := X₁.keeps k₂
  have hx₂ := k₂ _ _ hx₁
  have I₂ : InstAt h₂ x (excO C t0) C none := ⟨hx₂, rfl, rfl, trivial⟩
  refine kxs_getMethod kxs_ValueError so₂ (looks_opaque X₂ T.opq) (l₀ := .ref C :: bm) (fun A Q E s k q => wpAny_bind ((looks_clsIn X₂ hcl) A _ E s k (wpAny_pure q))) (by simp) X₂ hal (I₂.type.andThen (looks_subIn X₂ T.veC)) (fun z => by rw [z, hC] at hnx; cases hnx) rfl ?_
  have k₃ : ∀ b o, h₂.get? b = some o → (h₂.push (kxs_mw "ValueError.__init__" x)).get? b = some o := fun b o e => Heap.get?_push_of_some _ e
  have hmw : (h₂.push (kxs_mw "ValueError.__init__" x)).get? h₂.objs.size = some (kxs_mw "ValueError.__init__" x) := Heap.get?_push_at rfl rfl
  refine kxs_callWith (i := "ValueError.__init__") (x := x) (by rfl) (evalArgs_plain (Calls.spliced_cons (Calls.Constant_str (k := u.j) (pos := u.p3) (Calls.spliced_nil ⟨hmw, ?_⟩))))
  refine sup_call (k₃ _ _ (k₂ _ _ (X₁ _ _ hC))) hmw (k₃ _ _ hx₂) (mb_one_size _) (fun h₄ k₄ hx₄ => ?_)
  have X₄ : K.In h₄ := mb_kept_but (X₂.keeps k₃) hnx k₄
  have k14 : ∀ b o, b ≠ x → h₁.get? b = some o → h₄.get? b = some o := fun b o hb e => k₄ _ _ hb (k₃ _ _ (k₂ _ _ e))
  have hns₄ := hns.at (h' := h₄) fun o e => k14 _ _ hLx e
  cases as0 with
  | nil => exact absurd hs (by simp)
  | cons a as1 =>
    cases us with
    | nil => cases hm2
    | cons v us1 =>
      simp only [List.map_cons, List.cons.injEq] at hm2
      obtain ⟨hl1, hl2⟩ := hg0 a List.mem_cons_self
      refine wpAt_of_wpAny (wpAny_execs_cons (plainObj_wpAny_Assign_Attribute ?_))
      refine ldc (fd := fnI q u (a :: as1) cc .none kV doc pm an (.ref ca) ct) rfl hl1 hns₄ hm2.1 (ldc (fd := fnI q u (a :: as1) cc .none kV doc pm an (.ref ca) ct) rfl hlself hns₄ hm1 ?_) hl2
      refine set_plain X₄ (ox := excO C (h₂.push (kxs_mw "ValueError.__init__" x)).objs.size) (od := none) ⟨hx₄, rfl, rfl, trivial⟩ T.sa ?_
      refine exc_osa X₄ hx₄ hcl (show refsVE (.ref C :: bm) = true from hbm) rfl (T.no a List.mem_cons_self) (fun h₅ tk₅ dx k₅ dn dne hx₅ hn₅ => ?_)
      have hnd : K.lookup dx = none := by
        cases e : K.lookup dx with
        | none => rfl
        | some o => exact absurd (Nat.lt_of_lt_of_le (Heap.lt_size (X₄ _ _ e)) dn) (Nat.lt_irrefl _)
      have hL4 : s.heap.objs.size < h₄.objs.size := hns₄.lt
      have hLd : s.heap.objs.size ≠ dx := Nat.ne_of_lt (Nat.lt_of_lt_of_le hL4 dn)
      have hn5 : h₅.Ns1 dx (fun y => ([(a.n, v)] : List (Str × Value)).lookup y) := by
        rw [← look_put]
        exact hn₅
      refine sets_old (K := K) (C := C) (x := x) (fd := fnI q u (a :: as1) cc .none kV doc pm an (.ref ca) ct) (L := s.heap.objs.size) rfl hcl (show refsVE (.ref C :: bm) = true from hbm) rfl T.sa hm1 hlself dne.symm hLd hnd as1 us1 [(a.n, v)] _
        (fun b hb => ⟨(hg0 b (List.mem_cons_of_mem _ hb)).1, (hg0 b (List.mem_cons_of_mem _ hb)).2, T.no b (List.mem_cons_of_mem _ hb)⟩) hm2.2 (by rw [List.length_cons] at h9; rw [List.length_singleton]; omega) (mb_kept_but X₄ hnx k₅) (hns₄.at fun o e => k₅ _ _ hLx e) hx₅ hn5 fun h₆ tk₆ k₆ hn₆ => ?_
      refine hq h₆ tk₆ dx _ ⟨fun b o hb e => ?_, k₆ _ _ dne.symm hx₅, Nat.le_of_lt (Nat.lt_of_lt_of_le hL4 dn), dne, ?_⟩
      · have e4 := k14 _ _ hb (k₁ _ _ e)
        exact k₆ _ _ (Nat.ne_of_lt (Nat.lt_of_lt_of_le (Heap.lt_size e4) dn)) (k₅ _ _ hb e4)
      · have eq : (((a :: as1).map (·.n)).zip (v :: us1)).reverse = ((as1.map (·.n)).zip us1).reverse ++ [(a.n, v)] := by simp
        rw [eq]
        exact hn₆
/-- the binding of the written values -/
structure XBi (u : XSu) (as0 : List XAs) : Prop where
  one : 1 ≤ as0.length
  few : as0.length ≤ 900
  line : goodLine u = true
  good : goodNames as0 = true
  bind : ∀ (s : Shared) (x cc : Addr) (us : List Value), us.length = as0.length → ∀ (q : Str) (kV doc pm : Value) (an : Option Addr) (cdv ct : Value), BindsTo s (fnI q u as0 cc .none kV doc pm an cdv ct) ⟨.ref x :: us, []⟩ ((("self" : Str), Value.ref x) :: (as0.map (·.n)).zip us)
  self : ∀ (x : Addr) (us : List Value), us.length = as0.length → ((("self" : Str), Value.ref x) :: (as0.map (·.n)).zip us).reverse.lookup ("self" : Str) = some (Value.ref x)
  arg : ∀ (x : Addr) (us : List Value), us.length = as0.length → as0.map (fun a => ((("self" : Str), Value.ref x) :: (as0.map (·.n)).zip us).reverse.lookup a.n) = us.map some
theorem xbi_one {u : XSu} {a : XAs} (hl : goodLine u = true) (hg : goodNames [a] = true) (hs : (("self" : Str) == a.n) = false)
    (hb : ∀ (x cc : Addr) (q : Str) (kV doc pm : Value) (an : Option Addr) (cdv ct v : Value), bindArgs (fnI q u [a] cc .none kV doc pm an cdv ct) ⟨[.ref x, v], []⟩ = pure [(("self" : Str), Value.ref x), (a.n, v)] := by intros; rfl) : XBi u [a] := by
  refine ⟨Nat.le_refl _, by simp, hl, hg, fun s x cc us h q kV doc pm an cdv ct => ?_, fun x us h => ?_, fun x us h => ?_⟩
  · match us, h with
    | [v], _ => exact .of_eq (hb ..)
  · match us, h with
    | [v], _ =>
      show ([(a.n, v), (("self" : Str), Value.ref x)] : List (Str × Value)).lookup ("self" : Str) = _
      rw [List.lookup_cons, hs]
      rfl
  · match us, h with
    | [v], _ =>
      show [([(a.n, v), (("self" : Str), Value.ref x)] : List (Str × Value)).lookup a.n] = _
      rw [List.lookup_cons, show (a.n == a.n) = true by simp]
      rfl
theorem xbi_two {u : XSu} {a b : XAs} (hl : goodLine u = true) (hg : goodNames [a, b] = true) (hs : (("self" : Str) == a.n) = false) (hs2 : (("self" : Str) == b.n) = false) (hab : (a.n == b.n) = false)
    (hb : ∀ (x cc : Addr) (q : Str) (kV doc pm : Value) (an : Option Addr) (cdv ct v w : Value), bindArgs (fnI q u [a, b] cc .none kV doc pm an cdv ct) ⟨[.ref x, v, w], []⟩ = pure [(("self" : Str), Value.ref x), (a.n, v), (b.n, w)] := by intros; rfl) : XBi u [a, b] := by
  refine ⟨by simp, by simp, hl, hg, fun s x cc us h q kV doc pm an cdv ct => ?_, fun x us h => ?_, fun x us h => ?_⟩
  · match us, h with
    | [v, w], _ => exact .of_eq (hb ..)
  · match us, h with
    | [v, w], _ =>
      show ([(b.n, w), (a.n, v), (("self" : Str), Value.ref x)] : List (Str × Value)).lookup ("self" : Str) = _
      rw [List.lookup_cons, hs2]
      show ([(a.n, v), (("self" : Str), Value.ref x)] : List (Str × Value)).lookup ("self" : Str) = _
      rw [List.lookup_cons, hs]
      rfl
  · match us, h with
    | [v, w], _ =>
      show [([(b.n, w), (a.n, v), (("self" : Str), Value.ref x)] : List (Str × Value)).lookup a.n, ([(b.n, w), (a.n, v), (("self" : Str), Value.ref x)] : List (Str × Value)).lookup b.n] = _
      have e1 : ([(b.n, w), (a.n, v), (("self" : Str), Value.ref x)] : List (Str × Value)).lookup a.n = some v := by
        rw [List.lookup_cons, hab]
        show ([(a.n, v), (("self" : Str), Value.ref x)] : List (Str × Value)).lookup a.n = _
        rw [List.lookup_cons, show (a.n == a.n) = true by simp]
      have e2 : ([(b.n, w), (a.n, v), (("self" : Str), Value.ref x)] : List (Str × Value)).lookup b.n = some w := by
        rw [List.lookup_cons, show (b.n == b.n) = true by simp]
      rw [e1, e2]
      rfl
/-- a made exception -/
structure XMade (h h' : Heap) (e C d : Addr) (fs : List (Str × Value)) : Prop where
  keep : ∀ b o, h.get? b = some o → h'.get? b = some o
  new : h.objs.size ≤ e
  obj : ∃ oe vs, h'.get? e = some oe ∧ oe.cls = .ref C ∧ oe.dict = some d ∧ oe.data = .fields vs ∧ vs[1]? = some .none ∧ vs[2]? = some .none
  dbig : h.objs.size ≤ d
  dne : d ≠ e
  ns : h'.Ns1 d (fun y => fs.lookup y)
theorem x_made (T : XT prog K mg cn C fI cc u as0) (B : XBi u as0) {us : List Value} {base : Heap} (hM : L2.Mod K mg base) (hbs : ∀ b o, base.get? b = some o → s.heap.get? b = some o) (hl : us.length = as0.length) (hroom : A.depth + 1 < recursionLimit)
    (hq : ∀ h' tk e d, XMade s.heap h' e C d ((as0.map (·.n)).zip us).reverse → R (.ok (.ret (.ref e))) { s with heap := h', toks := tk }) :
    codeAny (model prog w) A (.call (.ref C) ⟨us, []⟩) R s := by
  obtain ⟨nm, q, N, bs, bm, sn, sub, ab, col, dd, k0, k1, k2, k3, k5, hC, hbm, _⟩ := T.cls
  have X : K.In s.heap := hM.kin.keeps hbs
  obtain ⟨hp, g, dr, tk, os⟩ := s
  have k : ∀ b o, hp.get? b = some o → ((hp.push (kdv_tup us)).push (excO C hp.objs.size)).get? b = some o := fun b o e => Heap.get?_push_of_some _ (Heap.get?_push_of_some _ e)
  have hget : ((hp.push (kdv_tup us)).push (excO C hp.objs.size)).get? (hp.objs.size + 1) = some (excO C hp.objs.size) := by heap_get
  have hnx : K.lookup (hp.objs.size + 1) = none := by
    cases e : K.lookup (hp.objs.size + 1) with
    | none => rfl
    | some o =>
      have z : hp.get? (hp.objs.size + 1) = some o := X _ _ e
      exact absurd (Nat.lt_of_succ_lt (Heap.lt_size z)) (Nat.lt_irrefl _)
  have hz : us.length ≤ sizeLine := by
    have := B.few
    rw [sizeLine_eq]
    omega
  refine call_own F.excBase_ValueError (fun X => refsVE_contains X bm hbm) (X _ _ hC) (looks_findIn X T.iC) (fun self => bind_fn X self T.tC) hz ?_
  refine x_init (s := ⟨(hp.push (kdv_tup us)).push (excO C hp.objs.size), g, dr, tk, os⟩) T B.one B.few B.line B.good hM (fun b o e => k b o (hbs b o e)) hget hnx ?_ (B.bind _ _ _ us hl) (B.self _ us hl) (B.arg _ us hl) fun h' tk' dx t1 ⟨k', hx, dn, dne, hns⟩ => ?_
  · show A.depth + 1 < recursionLimit
    exact hroom
  · have old : ∀ b o, hp.get? b = some o → h'.get? b = some o := fun b o e => k' b o (Nat.ne_of_lt (Nat.lt_succ_of_lt (Heap.lt_size e))) (k b o e)
    have z : hp.objs.size + 1 + 1 ≤ dx := by
      first
        | (simpa only [Heap.size_push] using dn)
        | exact dn
        | (have q := dn; rw [Heap.size_push, Heap.size_push] at q; exact q)
    exact ⟨rfl, hq h' tk' (hp.objs.size + 1) dx ⟨old, Nat.le_succ _, ⟨_, _, hx, rfl, rfl, rfl, rfl, rfl⟩, Nat.le_trans (Nat.le_trans (Nat.le_succ _) (Nat.le_succ _)) z, dne, hns⟩⟩
end
end MbX
end PySem
namespace MB
open PySem PySem.Spec PyProof.Rows L2
theorem relO_app : ∀ {fs gs : List (Str × V)} {ws zs : List (Str × Value)} (f : Str), (∀ f, RelO (fs.lookup f) (ws.lookup f)) → (∀ f, RelO (gs.lookup f) (zs.lookup f)) → RelO ((fs ++ gs).lookup f) ((ws ++ zs).lookup f) := fun {fs gs ws zs} f h1 h2 => by
  have a1 : ∀ {α : Type} (l m : List (Str × α)), (l ++ m).lookup f = (l.lookup f).or (m.lookup f) := fun {α} l m => by
    induction l with
    | nil => simp [List.lookup]
    | cons p l ih =>
      obtain ⟨a, b⟩ := p
      rw [List.cons_append, List.lookup_cons, List.lookup_cons]
      cases (f == a) with
      | true => rfl
      | false => exact ih
  rw [a1, a1]
  have q := h1 f
  cases e1 : fs.lookup f with
  | some v =>
    cases e2 : ws.lookup f with
    | some u =>
      rw [e1, e2] at q
      exact q
    | none =>
      rw [e1, e2] at q
      exact q.elim
  | none =>
    cases e2 : ws.lookup f with
    | some u =>
      rw [e1, e2] at q
      exact q.elim
    | none => exact h2 f
theorem relO_rev : ∀ {ns : List Str} {vs : List V} {us : List Value}, Vals vs us → ∀ f, RelO ((ns.zip vs).reverse.lookup f) ((ns.zip us).reverse.lookup f)
  | [], _, _, _, f => by
    show RelO none none
    trivial
  | n :: ns, _, _, .nil, f => by
    show RelO none none
    trivial
  | n :: ns, v :: vs, u :: us, .cons a t, f => by
    rw [List.zip_cons_cons, List.zip_cons_cons, List.reverse_cons, List.reverse_cons]
    refine relO_app f (relO_rev t) fun g => ?_
    rw [List.lookup_cons, List.lookup_cons]
    cases (g == n) with
    | true => exact a
    | false => trivial
theorem df_app {K : Kw} {H : Fz} : ∀ {vs ws : List (Str × V)} {ds es : List (Str × D)}, DF K H vs ds → DF K H ws es → DF K H (vs ++ ws) (ds ++ es)
  | _, _, _, _, .nil, t => t
  | _, _, _, _, .cons a r, t => .cons a (df_app r t)
theorem df_rev {K : Kw} {H : Fz} : ∀ {ns : List Str} {vs : List V} {ds : List D}, DVs K H vs ds → DF K H (ns.zip vs).reverse (ns.zip ds).reverse
  | [], _, _, _ => .nil
  | n :: ns, _, _, .nil => .nil
  | n :: ns, v :: vs, d :: ds, .cons a t => by
    rw [List.zip_cons_cons, List.zip_cons_cons, List.reverse_cons, List.reverse_cons]
    exact df_app (df_rev t) (.cons a .nil)
section
variable {X : Cx} {hx : Hx} {W : WX} {cn : Str} {C fI cc : Addr} {u : PySem.MbX.XSu} {as0 : List PySem.MbX.XAs} {e : Expr} {es : List Expr} {fs : List EX} {p pos pos2 : Pos}
/-- C(e, ..) -/
def tMkX (C : Addr) (ns : List Str) (ta : TA) : MB.St → Hp → XK → Prop := fun σ H Q => ta σ H fun vs H1 => vs.length = ns.length ∧ ∀ d, H1 d = none → Q (.ref C) (some d) (upd H1 d (.xd (ns.zip vs).reverse))
theorem pmk_x {k : Nat} {t : TA} (T : PySem.MbX.XT X.prog X.K X.mg cn C fI cc u as0) (B : PySem.MbX.XBi u as0) (hr : Room k X.A) (ha : PA X (e :: es) t) (hg : Gl X cn) (hdb : (cn == ("__debug__" : Str)) = false) (he : starEach (e :: es) X.env = (false, eval e X.env) :: starEach es X.env) (hpl : (backTo pos (starEach es X.env)).any (·.1) = false) :
    L2N.PMk X (.Call (.Name cn p) (e :: es) [] pos) (tMkX C (as0.map (·.n)) t) := by
  intro pins s σ H Q I h
  refine wpAny_Call_Name_kw (ld_glob I hg T.gC ?_ hdb)
  refine PySem.W.callWith_K (h₀ := X.base) I.ok.mod.kin T.kC (thn (ha.run pos pins s σ H _ I h) fun us s1 hh => ?_) he hpl
  obtain ⟨vs, H1, I1, r1, hl, q1⟩ := hh
  refine ⟨I1.kIn, ?_⟩
  obtain ⟨hp, g, dr, tk, os⟩ := s1
  refine wpAny_call (PySem.MbX.x_made T B I1.ok.mod I1.bk (show us.length = as0.length by rw [← r1.length, hl, List.length_map]) (by have := hr.dp; omega) fun h' tk' e d M => ?_)
  show L2N.MkP X pins σ Q (.ref e) ⟨h', g, dr, tk', os⟩
  obtain ⟨oe, fv, hoe, hc, hd, hdat, h1, h2⟩ := M.obj
  have hns := M.ns
  obtain ⟨G', g1, g2⟩ := restrict h' fun b => decide (b ≠ e)
  have gk : ∀ b, b ≠ e → G'.get? b = h'.get? b := fun b hb => g1 b (decide_eq_true hb)
  have ge : G'.get? e = none := g2 e (by simp)
  have old : ∀ b o, hp.get? b = some o → G'.get? b = some o := fun b o q => (gk b (Nat.ne_of_lt (Nat.lt_of_lt_of_le (Heap.lt_size q) M.new))).trans (M.keep b o q)
  have ob : ObjOk X.prog X.w (upd H1 d (.xd ((as0.map (·.n)).zip vs).reverse)) G' d (.xd ((as0.map (·.n)).zip vs).reverse) :=
    ⟨_, hns.at (fun o q => (gk d M.dne).trans q), fun f => relO_rev r1 f⟩
  have J : Inv X pins σ (upd H1 d (.xd ((as0.map (·.n)).zip vs).reverse)) ⟨G', g, dr, tk', os⟩ := I1.laid (t' := tk') old M.dbig ob
  refine ⟨e, oe, fv, ⟨G', g, dr, tk', os⟩, _, .ref C, some d, rfl, J, fun b o q => ?_, ge, hoe, ⟨hc, hd, fun vs' e' => by
    rw [hdat] at e'
    cases e'
    exact h2⟩, hdat, h1, ?_, rfl, I1.bare, raises_own T.exC T.tyC, q1 d (I1.hok.fresh M.dbig)⟩
  · by_cases hb : b = e
    · have q' : G'.get? b = some o := q
      rw [hb, ge] at q'; cases q'
    · exact (gk b hb).symm.trans q
  · rw [upd_ne (Ne.symm M.dne)]
    exact I1.hok.fresh M.new
/-- raise C(e, ..) -/
def sRaise (c : Str) (ns : List Str) (fs : List EX) : SX := fun ρ => (evs fs (fun ds ρ => if ds.length = ns.length then .err ⟨c, (ns.zip ds).reverse⟩ ρ else .stuck) ρ).then fun _ _ => .stuck
theorem p_raise {k : Nat} (hc : X.calm = true) (tk : L2N.Takes X W) (T : PySem.MbX.XT X.prog X.K X.mg cn (He.ga X.K cn) fI cc u as0) (B : PySem.MbX.XBi u as0) (hr : Room k X.A) (ha : PA X (e :: es) (tA X.kw hx W fs)) (hg : Gl X cn := by rfl) (hdb : (cn == ("__debug__" : Str)) = false := by decide)
    (he : starEach (e :: es) X.env = (false, eval e X.env) :: starEach es X.env := by rfl) (hpl : (backTo pos (starEach es X.env)).any (·.1) = false := by rfl) :
    PS X (.Raise (some (.Call (.Name cn p) (e :: es) [] pos)) none pos2) (tS X.kw hx W (sRaise cn (as0.map (·.n)) fs)) :=
  (L2N.ps_raise hc tk (pmk_x T B hr ha hg hdb he hpl)).imp fun D σ H q => by
    obtain ⟨F, ρ, ⟨O, r⟩, hp⟩ := q
    have hp' : Po X.kw hx F W σ (evs fs (fun ds ρ => if ds.length = (as0.map (·.n)).length then .err ⟨cn, ((as0.map (·.n)).zip ds).reverse⟩ ρ else .stuck) ρ) (fun _ _ => False) := by
      unfold sRaise at hp
      cases e : evs fs (fun ds ρ => if ds.length = (as0.map (·.n)).length then .err ⟨cn, ((as0.map (·.n)).zip ds).reverse⟩ ρ else .stuck) ρ with
      | ok d ρ1 => rw [e] at hp; exact hp.elim
      | err x ρ1 => rw [e] at hp; exact fun cls dd H1 h => hp cls dd σ H1 h
      | stuck => rw [e] at hp; exact hp.elim
    refine tA_of r hp' fun F1 ds ρ1 vs H1 O1 ln r1 dvs q => ?_
    split at q
    · rename_i hl
      refine ⟨dvs.length.trans hl, fun d nd => ?_⟩
      refine q _ _ _ ⟨O1, r1.grow (same_upd nd), rfl, .inr ⟨d, _, rfl, ?_, DF.mono (wo_mono (same_upd nd)) (df_rev dvs)⟩⟩
      rw [wo_out (r1.out nd), upd_same]
    · exact q.elim
end
end MB

/-! Written dicts of int keys, calls of a local that holds a def, list.count; by values. -/
namespace MB
open PySem PySem.Spec PyProof.Rows L2

/-! ### a module's dict of int keys -/
def intKeysB (es : List DictEntry) : Bool := es.all fun e => match e.key with
  | .int k _ => e.hash == hashInt k
  | _ => false
def KDctI (K : Fg) (p : Addr) (i : Int) (v : V) : Prop := ∃ es n u, K.lookup p = some ⟨.type "dict", none, .dict es n, #[]⟩ ∧ intKeysB es.toList = true ∧ findBy Value.isInt es i = some u ∧ RelV v u
def rIxI (K : Fg) : R2 := fun x y H Q => ∃ p i v, x = .ref p ∧ y = .int i ∧ KDctI K p i v ∧ Q v H
theorem ix_kdictI {X : Cx} : IxR X (rIxI X.K) := by
  intro value slice pins s σ H x y v u Q I rx ry h hs
  obtain ⟨p, i, r, rfl, rfl, ⟨es, n, u0, hl, hk, e, ru⟩, q⟩ := h
  obtain rfl : v = Value.ref p := rx
  obtain ⟨t, rfl⟩ := ry
  have hm : s.heap.MapOf (intKind X.prog X.w) p (fun k => findBy Value.isInt es k) := ⟨_, es, n, I.kIn _ _ hl, ⟨rfl, rfl, rfl⟩, rfl, (fun e he => by
    have z := List.all_eq_true.mp hk e (Array.mem_toList_iff.mpr he)
    cases q : e.key with
    | int k t =>
      simp only [q] at z
      exact ⟨k, by simp [intKind, Value.isInt, q], beq_iff_eq.mp z⟩
    | _ =>
      simp only [q] at z
      cases z), fun _ => rfl⟩
  exact tail_any hm.typeIs slot_dict_getitem.lookup (wpAny_getItem_of (intKind_is X.prog X.w i t) hm e ⟨r, H, I.tok _, ru, q⟩) hs
def eTbl (t : Int → Option D) (f : EX) : EX := fun ρ => (f ρ).bind fun d ρ1 => match d with
  | .int i => match t i with
    | some z => .ok z ρ1
    | none => .stuck
  | _ => .stuck
def TBF (K : Kw) (x : Str) (t : Int → Option D) : Prop := ∀ i d, t i = some d → ∃ v, KDctI K.K (He.ga K.K x) i v ∧ ∀ z, DV K z v d
section
variable {X : Cx} {hx : Hx} {W : WX} {b : Expr} {fb : EX} {x : Str} {pos p : Pos}
theorem r_tbl {t : Int → Option D} (T : TBF X.kw x t) (hm : X.mg x = some (.ref (He.ga X.K x))) (hb : PE X b (tX X.kw hx W fb)) (hg : Gl X x := by rfl) (hd : (x == ("__debug__" : Str)) = false := by decide) (hs : PlainIx b := by first | (intro _ _; rfl) | exact fun _ _ => rfl) :
    PE X (.Subscript (.Name x p) b pos) (tX X.kw hx W (eTbl t fb)) :=
  (pe_ix ix_kdictI (pe_glob (v := .ref (He.ga X.K x)) hg hm rfl hd) hb hs).imp fun σ H Q h => by
    obtain ⟨F, ρ, ⟨O, r0⟩, hp⟩ := h
    show tX X.kw hx W fb σ H _
    refine bindX r0 hp fun d ρ1 v H1 O1 r1 s1 dv hp1 => ?_
    cases d <;> (try exact hp1.elim)
    rename_i i
    cases dv
    cases e : t i with
    | none => simp only [e] at hp1; exact hp1.elim
    | some z =>
      simp only [e] at hp1
      obtain ⟨v, k, dv⟩ := T i z e
      exact ⟨_, i, v, rfl, rfl, k, hp1 v H1 ⟨O1, r1, dv _⟩⟩
end

/-! ### a local that holds a def -/
def eLoc (i : Nat) (S : Str → Option Fn) (fs : List EX) : EX := fun ρ => match ρ[i]? with
  | some (some (.val (.fn nm))) => match S nm with
    | some m => eFn m fs ρ
    | none => .stuck
  | _ => .stuck
def LocF (P : Program) (w : World) (K : Fg) (mg : Str → Option Value) (base : Heap) (k n : Nat) (S : Str → Option Fn) : Prop := ∀ nm m, S nm = some m → mg nm = some (.ref (He.ga K nm)) ∧ Df P w K mg base k nm n m
section
variable {X : Cx} {hx : Hx} {W : WX} {e : Expr} {es : List Expr} {fs : List EX} {pos p : Pos} {x : Str} {k n i : Nat} {S : Str → Option Fn}
theorem r_loc (L : LocF X.prog X.w X.K X.mg X.base k n S) (hr : Room k X.A) (tk : L2N.Takes X W) (ha : PA X (e :: es) (tA X.kw hx W fs)) (hl : fs.length = n := by rfl) (hN : X.N[i]? = some x := by rfl) (hv : Vis X.env.scope x := by first | exact Or.inl rfl | exact Or.inr (Or.inl rfl) | exact Or.inr (Or.inr rfl))
    (hdb : (x == ("__debug__" : Str)) = false := by decide) (hcd : (x == ("__classdict__" : Str)) = false := by decide) (he : starEach (e :: es) X.env = (false, eval e X.env) :: starEach es X.env := by rfl) (hpl : (backTo pos (starEach es X.env)).any (·.1) = false := by rfl) :
    PE X (.Call (.Name x p) (e :: es) [] pos) (tX X.kw hx W (eLoc i S fs)) := by
  refine ⟨fun pins s σ H Q I h => ?_⟩
  obtain ⟨F, ρ, ⟨O, r0⟩, hp⟩ := h
  unfold eLoc at hp
  cases e0 : ρ[i]? with
  | none => rw [e0] at hp; exact hp.elim
  | some o =>
    cases o with
    | none => rw [e0] at hp; exact hp.elim
    | some sl =>
      rw [e0] at hp
      cases sl with
      | exc y => exact hp.elim
      | val d =>
        cases d <;> (try exact hp.elim)
        rename_i nm
        have hp' : Po X.kw hx F W σ (match S nm with
          | some m => eFn m fs ρ
          | none => .stuck) Q := hp
        cases e1 : S nm with
        | none => rw [e1] at hp'; exact hp'.elim
        | some m =>
          rw [e1] at hp'
          obtain ⟨v, ev, dv⟩ := r0.sl i _ e0
          cases (show DV X.kw (wo O H) v (.fn nm) from dv)
          obtain ⟨hg, D⟩ := L nm m e1
          obtain ⟨f, fd, ps, hm, hk, hb, en, FF⟩ := D.ex
          rw [hg] at hm
          cases hm
          refine wpAny_Call_Name_kw (thn ((pe_var (pos := p) hN hv hdb hcd).run pins s σ H (fun v H1 => v = .ref (He.ga X.K nm) ∧ H1 = H) I ⟨_, ev, rfl, rfl⟩) fun u s1 ⟨v, H1, I1, r1, q1⟩ => ?_)
          obtain ⟨rfl, rfl⟩ := q1
          cases r1
          have ht := t_fn (W := W) (hx := hx) (fs := fs) (m := m) (ps := ps) (hl.trans en.symm) (σ := σ) (H := H1) (Q := Q) ⟨F, ρ, ⟨O, r0⟩, hp'⟩
          refine PySem.W.callWith_K (h₀ := X.base) I1.ok.mod.kin hk (thn (ha.run pos pins s1 σ H1 (fun vs H2 => spV X.kw ps.length m (vs ++ []) H2 Q (WE W σ)) I1 ?_) fun us s2 ⟨vs, H2, I2, r, q⟩ => ⟨I2.kIn, ?_⟩) he hpl
          · have e2 : (fun (vs : List V) (H2 : Hp) => spV X.kw ps.length m (vs ++ []) H2 Q (WE W σ)) = fun vs H2 => spV X.kw ps.length m vs H2 Q (WE W σ) := by
              funext vs H2
              rw [List.append_nil]
            rw [e2]
            exact ht
          · exact run_fnSD FF hr hb .nil (L2N.passAt tk σ) I2 r q
end

/-! ### list.count -/
def rCnt (K : Fg) : V → List V → Hp → VK → Prop := fun x xs H Q => ∃ (a : Addr) (ys : List V) (y : V), x = V.ref a ∧ xs = [y] ∧ SqL K H a ys ∧ flatV y = true ∧ ys.all flatV = true ∧ Q (.int ((ys.countP fun z => eqV z y : Nat))) H
theorem cnt_eqU {x : V} : ∀ {xs : List V} {us : List Value}, Vals xs us → xs.all flatV = true → us.countP (eqU x) = xs.countP fun y => eqV y x
  | _, _, .nil, _ => rfl
  | y :: xs, u :: us, .cons r t, f => by
    rw [List.all_cons, Bool.and_eq_true] at f
    rw [List.countP_cons, List.countP_cons, eqU_of r f.1, cnt_eqU t f.2]
theorem mt_count {X : Cx} : MtR X "list.count" (rCnt X.K) := by
  intro pins s σ H x xs v us Q I rx rxs h
  obtain ⟨a, ys, y, rfl, rfl, hs, fy, fys, q⟩ := h
  cases rx
  cases rxs with
  | cons ry rt =>
    rename_i uy ut
    cases rt
    obtain ⟨its, rv, ⟨⟨cls, dd, data, sl⟩, n, ho, hc, hdn, hd⟩, hlen⟩ := I.list hs
    simp only at hc hd
    subst hc hd
    refine call_meets PySem.F.slot_list_count ⟨_, ho, rfl⟩ PySem.F.entry_list_count (PySem.F.args_list_count_2 _ _)
      (SeqAt.list_countAt a its.toArray n dd sl uy (eqU y)) ⟨ho, fun u' hu' => mem_eqAt ry fy rv fys u' (by simpa using hu'), ?_⟩
    rw [show its.toArray.toList = its from rfl, cnt_eqU rv fys]
    exact ⟨.int _, H, I.tok _, ⟨_, rfl⟩, q⟩
def eCnt (fo fe : EX) : EX := fun ρ => (fo ρ).bind fun d ρ1 => match d with
  | .lst xs => (fe ρ1).bind fun y ρ2 => if (flat y && xs.all flat) = true then .ok (.int ((xs.countP fun z => eqF z y : Nat))) ρ2 else .stuck
  | _ => .stuck
theorem countP_flV {d : D} (f : flat d = true) : ∀ {ds : List D}, ds.all flat = true → ((ds.map flV).countP fun y => eqV y (flV d)) = ds.countP fun y => eqF y d
  | [], _ => rfl
  | e :: ds, g => by
    rw [List.all_cons, Bool.and_eq_true] at g
    rw [List.map_cons, List.countP_cons, List.countP_cons, eqV_flV g.1 f, countP_flV f g.2]
section
variable {X : Cx} {hx : Hx} {W : WX} {o e : Expr} {fo fe : EX} {apos cpos : Pos}
theorem r_cnt (ho : PE X o (tX X.kw hx W fo)) (he : PE X e (tX X.kw hx W fe)) (hbase : attributeBase o "count" X.env (eval o X.env) = eval o X.env := by rfl)
    (hfew : ((backTo cpos (starEach [e] X.env)).all (fun x => !x.1) && (backToKw cpos (keywordEach [] X.env)).all (fun x => x.1.isSome) && decide ([e].length + ([] : List Keyword).length + (if ([] : List Keyword).isEmpty then 0 else 1) < 30)) = true := by rfl)
    (hline : (apos.endLine == cpos.line) = true := by rfl) (hs : starEach [e] X.env = (false, eval e X.env) :: starEach [] X.env := by rfl) (hplain : (backTo cpos (starEach [] X.env)).any (·.1) = false := by rfl) :
    PE X (.Call (.Attribute o "count" apos) [e] [] cpos) (tX X.kw hx W (eCnt fo fe)) :=
  (pe_bm PySem.F.plainAttrs_list PySem.F.slot_list_count PySem.F.type_list_count mt_count ho (pa_cons he pa_nil hs) hbase hfew hline hs hplain).imp fun σ H Q h => by
    obtain ⟨F, ρ, ⟨O, r0⟩, hp⟩ := h
    refine bindX r0 hp fun d ρ1 v H1 O1 r1 s1 dv hp1 => ?_
    cases d <;> (try exact hp1.elim)
    rename_i ds
    obtain ⟨a, vs, rfl, s, t⟩ := dv.lst_of
    refine ⟨.inl ⟨rfl, vs, .of (wo_same O1 H1 _ _ s)⟩, ?_⟩
    refine bindX r1 hp1 fun d2 ρ2 u H2 O2 r2 s2 du hp2 => ?_
    split at hp2
    · rename_i c
      obtain ⟨c1, c2⟩ := Bool.and_eq_true_iff.mp c
      obtain ⟨rfl, f1⟩ := flat_of du c1
      obtain ⟨e2, f2⟩ := flats_of t c2
      refine ⟨a, vs, _, rfl, rfl, .of (wo_same O2 H2 _ _ (s2.h _ _ s)), f1, f2, ?_⟩
      rw [e2, countP_flV c1 c2]
      exact hp2 _ H2 ⟨O2, r2, .int _⟩
    · exact hp2.elim
end
end MB

/-! What the module's top leaves: one observation, and what it gives. -/
namespace MB
open PySem PySem.Spec PyProof.Rows L2

/-! ### data -/
def vOf : Value → V
  | .bool b => .bl b
  | .int i _ => .int i
  | .str x _ => .str x
  | .ref a => .ref a
  | _ => .non
def vals2 (f : Value → D → Bool) : List Value → List D → Bool
  | [], [] => true
  | u :: us, d :: ds => f u d && vals2 f us ds
  | _, _ => false
def dB (K : Fg) : Nat → Value → D → Bool
  | 0, _, _ => false
  | _ + 1, .none, .non => true
  | _ + 1, .bool b, .bl c => b == c
  | _ + 1, .int i _, .int j => decide (i = j)
  | _ + 1, .str x _, .str y => decide (x = y)
  | n + 1, .ref a, .tup ds => match K.lookup a with
    | some ⟨.type c, none, .seq its _, _⟩ => decide (c = "tuple") && (decide (its.size ≤ sizeLine) && vals2 (dB K n) its.toList ds)
    | _ => false
  | _ + 1, .ref a, .fn x => decide (a = He.ga K x)
  | _, _, _ => false
theorem vals2_ok {K : Kw} {f : Value → D → Bool} (hf : ∀ u d, f u d = true → RelV (vOf u) u ∧ ∀ H, DV K H (vOf u) d) : ∀ {us : List Value} {ds : List D}, vals2 f us ds = true → Vals (us.map vOf) us ∧ ∀ H, DVs K H (us.map vOf) ds
  | [], [], _ => ⟨.nil, fun _ => .nil⟩
  | [], _ :: _, h => by cases h
  | _ :: _, [], h => by cases h
  | u :: us, d :: ds, h => by
    obtain ⟨h1, h2⟩ := Bool.and_eq_true_iff.mp (show (f u d && vals2 f us ds) = true from h)
    obtain ⟨r, dv⟩ := hf u d h1
    obtain ⟨r2, dv2⟩ := vals2_ok hf h2
    exact ⟨.cons r r2, fun H => .cons (dv H) (dv2 H)⟩
theorem dB_ok {K : Kw} : ∀ (n : Nat) (u : Value) (d : D), dB K.K n u d = true → RelV (vOf u) u ∧ ∀ H, DV K H (vOf u) d
  | 0, _, _, h => by cases h
  | n + 1, u, d, h => by
    cases u with
    | none =>
      cases d with
      | non => exact ⟨rfl, fun _ => .non⟩
      | _ => cases h
    | bool b =>
      cases d with
      | bl c =>
        have e : b = c := eq_of_beq (show (b == c) = true from h)
        subst e
        exact ⟨rfl, fun _ => .bl _⟩
      | _ => cases h
    | int i t =>
      cases d with
      | int j =>
        have e : i = j := of_decide_eq_true h
        subst e
        exact ⟨⟨t, rfl⟩, fun _ => .int _⟩
      | _ => cases h
    | str x t =>
      cases d with
      | str y =>
        have e : x = y := of_decide_eq_true h
        subst e
        exact ⟨⟨t, rfl⟩, fun _ => .str _⟩
      | _ => cases h
    | ref a =>
      cases d with
      | tup ds =>
        have h1 : (match K.K.lookup a with
          | some ⟨.type c, none, .seq its _, _⟩ => decide (c = "tuple") && (decide (its.size ≤ sizeLine) && vals2 (dB K.K n) its.toList ds)
          | _ => false) = true := h
        cases q : K.K.lookup a with
        | none =>
          rw [q] at h1
          cases h1
        | some o =>
          obtain ⟨oc, od, dt, osl⟩ := o
          rw [q] at h1
          cases oc with
          | type c =>
            cases od with
            | some _ => cases dt <;> cases h1
            | none =>
            cases dt with
            | seq its m =>
              obtain ⟨h2, h3⟩ := Bool.and_eq_true_iff.mp (show (decide (c = "tuple") && (decide (its.size ≤ sizeLine) && vals2 (dB K.K n) its.toList ds)) = true from h1)
              obtain ⟨h4, h5⟩ := Bool.and_eq_true_iff.mp h3
              obtain ⟨r, dv⟩ := vals2_ok (fun u d => dB_ok n u d) h5
              exact ⟨rfl, fun H => .tup (.inr ⟨_, its, m, q, rfl, congrArg Value.type (of_decide_eq_true h2), rfl, of_decide_eq_true h4, r⟩) (dv H)⟩
            | _ => cases h1
          | _ => cases od <;> cases dt <;> cases h1
      | fn x =>
        have e : a = He.ga K.K x := of_decide_eq_true h
        subst e
        exact ⟨rfl, fun _ => .fn _⟩
      | _ => cases h
    | _ => cases d <;> cases h
def gcB (K : Fg) (x : Str) (d : D) : Bool := match PySem.W.nsIn K mainGlobals x with
  | some (some u) => dB K 12 u d
  | _ => false
theorem gc_ok {K : Kw} {h : Heap} {mg : Str → Option Value} {x : Str} {d : D} (X : K.K.In h) (G : h.Ns mainGlobals mg) (c : gcB K.K x d = true) : GC K mg x d := by
  unfold gcB at c
  split at c
  · rename_i u e
    obtain ⟨r, dv⟩ := dB_ok _ _ _ c
    exact ⟨u, vOf u, PySem.W.mg_of X G e, r, dv⟩
  · cases c

theorem mem_lookI {d : D} {i : Int} : ∀ {l : List (Int × D)}, l.lookup i = some d → (i, d) ∈ l
  | [], e => by cases e
  | (j, x) :: l, e => by
    rw [List.lookup_cons] at e
    cases q : (i == j) with
    | true =>
      rw [q] at e
      cases e
      rw [eq_of_beq q]
      exact List.mem_cons_self
    | false =>
      rw [q] at e
      exact List.mem_cons_of_mem _ (mem_lookI e)
/-! ### a dict of int keys -/
def tbB (K : Fg) (x : Str) (l : List (Int × D)) : Bool := match K.lookup (He.ga K x) with
  | some ⟨.type c, none, .dict es _, sl⟩ => decide (c = "dict") && (decide (sl.size = 0) && (intKeysB es.toList && l.all fun p => match findBy Value.isInt es p.1 with
    | some u => dB K 12 u p.2
    | none => false))
  | _ => false
theorem tb_ok {K : Kw} {x : Str} {l : List (Int × D)} (c : tbB K.K x l = true) : TBF K x (fun i => l.lookup i) := by
  intro i d hi
  unfold tbB at c
  cases q : K.K.lookup (He.ga K.K x) with
  | none => rw [q] at c; cases c
  | some o =>
    obtain ⟨oc, od, dt, osl⟩ := o
    rw [q] at c
    cases oc with
    | type cn =>
      cases od with
      | some _ => cases dt <;> cases c
      | none =>
        cases dt with
        | dict es n =>
          obtain ⟨h1, h2⟩ := Bool.and_eq_true_iff.mp (show (decide (cn = "dict") && (decide (osl.size = 0) && (intKeysB es.toList && l.all fun p => match findBy Value.isInt es p.1 with
            | some u => dB K.K 12 u p.2
            | none => false))) = true from c)
          obtain ⟨h3, h4⟩ := Bool.and_eq_true_iff.mp h2
          obtain ⟨h5, h6⟩ := Bool.and_eq_true_iff.mp h4
          have hm : (i, d) ∈ l := mem_lookI hi
          have h7 := List.all_eq_true.mp h6 _ hm
          have e1 : cn = "dict" := of_decide_eq_true h1
          have e2 : osl = #[] := Array.eq_empty_of_size_eq_zero (of_decide_eq_true h3)
          subst e1 e2
          cases e3 : findBy Value.isInt es i with
          | none => simp only [e3] at h7; cases h7
          | some u =>
            simp only [e3] at h7
            obtain ⟨r, dv⟩ := dB_ok _ _ _ h7
            exact ⟨vOf u, ⟨es, n, u, q, h5, e3, r⟩, dv⟩
        | _ => cases c
    | _ => cases od <;> cases dt <;> cases c

/-! ### exceptions -/
def excCB (K : Fg) (C : Addr) : Bool := decide (PySem.W.findIn K (.ref C) "__getattribute__" = some (some (.builtin "BaseException.__getattribute__"))) && (decide (PySem.W.findIn K (.ref C) "__getattr__" = some none) &&
  (decide (PySem.W.subIn K (.ref C) (.type "BaseException") = some true) && (PySem.W.hasDictIn K C && (decide (PySem.W.findIn K (.ref C) "__class__" = some (some (.builtin "object.__class__"))) &&
  (decide (PySem.W.specialIn K (.builtin "object.__class__") "__get__" = some (some (.builtin "getset_descriptor.__get__"))) && (decide (PySem.W.takesIn K (.builtin "object.__class__") = some true) && decide (PySem.W.mroIn K C (.type "object") = some true)))))))
theorem excC_ok {K : Fg} {C : Addr} (c : excCB K C = true) : ExcC K C := by
  obtain ⟨h1, c⟩ := Bool.and_eq_true_iff.mp c
  obtain ⟨h2, c⟩ := Bool.and_eq_true_iff.mp c
  obtain ⟨h3, c⟩ := Bool.and_eq_true_iff.mp c
  obtain ⟨h4, c⟩ := Bool.and_eq_true_iff.mp c
  obtain ⟨h5, c⟩ := Bool.and_eq_true_iff.mp c
  obtain ⟨h6, c⟩ := Bool.and_eq_true_iff.mp c
  obtain ⟨h7, h8⟩ := Bool.and_eq_true_iff.mp c
  exact ⟨of_decide_eq_true h1, of_decide_eq_true h2, of_decide_eq_true h3, h4, of_decide_eq_true h5, of_decide_eq_true h6, of_decide_eq_true h7, of_decide_eq_true h8⟩
/-- what isinstance of an instance of each raised class tells; l: each raised class with all classes it stands under -/
def isB (K : Fg) (l : List (Str × List Str)) (C : Str) (cv : Value) : Bool := l.all fun p => decide (PySem.W.kitOne K (.ref (He.ga K p.1)) cv = some (p.2.contains C))
def isX (l : List (Str × List Str)) (C : Str) : Str → Option Bool := fun c => (l.lookup c).map (·.contains C)
theorem is_ok {K : Fg} {l : List (Str × List Str)} {C : Str} {cv : Value} (h1 : (l.all fun p => excCB K (He.ga K p.1)) = true) (h2 : isB K l C cv = true) : ISF K (isX l C) cv := by
  intro c b e
  obtain ⟨q, e1, rfl⟩ := Option.map_eq_some_iff.mp e
  have hm : (c, q) ∈ l := PySem.mem_of_lookup e1
  exact ⟨excC_ok (List.all_eq_true.mp h1 _ hm), of_decide_eq_true (List.all_eq_true.mp h2 _ hm)⟩
/-- what an except clause of the class at cv catches -/
def teB (K : Fg) (l : List (Str × List Str)) (C : Str) (cv : Value) : Bool := l.all fun p => decide (PySem.W.exmOne K (.ref (He.ga K p.1)) cv = some (p.2.contains C))
theorem te_ok {K : Fg} {l : List (Str × List Str)} {C : Str} {cv : Value} (h : teB K l C cv = true) : TEF K (isX l C) cv := by
  intro c b e
  obtain ⟨q, e1, rfl⟩ := Option.map_eq_some_iff.mp e
  exact of_decide_eq_true (List.all_eq_true.mp h _ (PySem.mem_of_lookup e1))
def xfFB (K : Fg) (n : Str) (cs : List Str) : Bool := cs.all fun c => xfB K (He.ga K c) && decide (PySem.W.findIn K (.ref (He.ga K c)) n = some none)
theorem xff_ok {K : Fg} {n : Str} {cs : List Str} (h : xfFB K n cs = true) : XFF K n cs := fun c hc => by
  obtain ⟨h1, h2⟩ := Bool.and_eq_true_iff.mp (List.all_eq_true.mp h c hc)
  exact ⟨xfB_ok h1, of_decide_eq_true h2⟩

/-! ### a class with its own __init__ -/
open PySem.MbX in
abbrev FnY : Type := Option (Str × Str × Arguments × FuncBody × Scope × Addr × List Str × Addr)
def fnY (K : Fg) (a : Addr) : FnY := match K.lookup a with
  | some ⟨_, _, .func fd, _⟩ => some (fd.name, fd.qualname, fd.params, fd.body, fd.scope, fd.globals, fd.closure.map (·.1), fd.builtins)
  | _ => none
/-- the class's name, its __init__'s text, its fields -/
structure XD where
  cn : Str
  u : PySem.MbX.XSu
  as : List PySem.MbX.XAs
def XD.fI (K : Fg) (x : XD) : Addr := He.ma K (He.ga K x.cn) "__init__"
def XD.val (x : XD) : FnY := some ("__init__", x.cn ++ ".__init__", PySem.MbX.xA x.u x.as, .stmts (PySem.MbX.xB x.u x.as), PySem.MbX.xS x.as, mainGlobals, ["__class__"], builtinsNs)
def XD.cc (K : Fg) (x : XD) : Addr := match K.lookup (x.fI K) with
  | some ⟨_, _, .func fd, _⟩ => (match fd.closure with
    | (_, c) :: _ => c
    | _ => 0)
  | _ => 0
def clsB (K : Fg) (C : Addr) : Bool := match K.lookup C with
  | some ⟨.type t, _, .cls cd, sl⟩ => (match cd.mro, sl.toList with
    | .ref C' :: bm, [_, _, _, _, some (.builtin n), _] => decide (t = "type") && (decide (C' = C) && (decide (n = "ValueError.__new__") && (!cd.hasDel && (cd.hasDict && (PySem.HandSPX.refsVE bm && decide (PySem.W.alongIn K "__init__" bm = some (some (.builtin "ValueError.__init__"))))))))
    | _, _ => false)
  | _ => false
def cellB (K : Fg) (c C : Addr) : Bool := match K.lookup c with
  | some ⟨_, _, .cell (some (.ref D)), _⟩ => decide (D = C)
  | _ => false
def codeFB (file : Str) (K : Fg) (cdv : Value) : Bool := match cdv with
  | .ref ca => (match K.lookup ca with
    | some ⟨_, _, .fields vs, _⟩ => (match (vs[2]? : Option Value) with
      | some (Value.str f _) => file == f
      | _ => false)
    | _ => false)
  | _ => false
def fnB (file : Str) (K : Fg) (a : Addr) (q : Str) : Bool := match K.lookup a with
  | some ⟨_, _, .func fd, _⟩ => decide (fd.defaults = .none) && (PySem.W.codeIn K fd.code q && codeFB file K fd.code)
  | _ => false
def XD.ok (file : Str) (K : Fg) (x : XD) : Bool :=
  decide (PySem.W.nsIn K mainGlobals x.cn = some (some (.ref (He.ga K x.cn)))) && (clsB K (He.ga K x.cn) && (decide (PySem.W.findIn K (.ref (He.ga K x.cn)) "__setattr__" = some (some (.builtin "object.__setattr__"))) && ((x.as.all fun a => decide (PySem.W.findIn K (.ref (He.ga K x.cn)) a.n = some none)) &&
  (decide (PySem.W.findIn K (.ref (He.ga K x.cn)) "__init__" = some (some (.ref (x.fI K)))) && (decide (PySem.W.typeIn K (.ref (x.fI K)) = some (.type "function")) && (PySem.W.keepIn K (.ref (He.ga K x.cn)) && (decide (PySem.W.subIn K (.ref (He.ga K x.cn)) (.type "BaseException") = some true) &&
  (decide (PySem.W.subIn K (.ref (He.ga K x.cn)) (.type "ValueError") = some true) && (decide (PySem.W.subIn K (.ref (He.ga K x.cn)) (.ref (He.ga K x.cn)) = some true) && (decide (PySem.W.typeIn K (.ref (He.ga K x.cn)) = some (.type "type")) && (decide (PySem.W.nsIn K cStatics "thirdparty.any" = some none) &&
  (cellB K (x.cc K) (He.ga K x.cn) && (decide (PySem.W.nsIn K mainGlobals "super" = some none) && fnB file K (x.fI K) (x.cn ++ ".__init__"))))))))))))))
theorem cls_of {K : Fg} {C : Addr} (h : clsB K C = true) : ∃ nm q N bs bm sn sub ab col dd k0 k1 k2 k3 k5, K.lookup C = some (PySem.excClassObj nm q C N bs bm true sn sub ab col dd k0 k1 k2 k3 k5 "ValueError.__new__") ∧ PySem.HandSPX.refsVE bm = true ∧ PySem.W.alongIn K "__init__" bm = some (some (.builtin "ValueError.__init__")) := by
  unfold clsB at h
  split at h
  · rename_i t dd cd sl ho
    split at h
    · rename_i C' bm k0 k1 k2 k3 n k5 hm hs
      simp only [Bool.and_eq_true, decide_eq_true_eq, Bool.not_eq_true'] at h
      obtain ⟨rfl, rfl, rfl, hdel, hd, hr, ha⟩ := h
      obtain ⟨nm, bs, mro, ns, qn, hd', sn, sub, ab, col, del⟩ := cd
      dsimp only at hm hdel hd
      subst hm hdel hd
      have hsl : sl = #[k0, k1, k2, k3, some (.builtin "ValueError.__new__"), k5] := by
        obtain ⟨l⟩ := sl
        simp only at hs
        rw [hs]
      subst hsl
      exact ⟨nm, qn, ns, bs, bm, sn, sub, ab, col, dd, k0, k1, k2, k3, k5, ho, hr, ha⟩
    · cases h
  · cases h
theorem codeF_of {file : Str} {K : Fg} {cdv : Value} (h : codeFB file K cdv = true) : ∃ (ca : Addr) (oc2 : Obj) (vs : Array Value) (f : Str) (tf : Tok), cdv = .ref ca ∧ K.lookup ca = some oc2 ∧ oc2.data = .fields vs ∧ vs[2]? = some (.str f tf) ∧ (file == f) = true := by
  unfold codeFB at h
  split at h
  · rename_i ca
    split at h
    · rename_i oc2 od2 vs sl2 hca
      split at h
      · rename_i f tf hv
        exact ⟨ca, _, vs, f, tf, rfl, hca, rfl, hv, h⟩
      · cases h
    · cases h
  · cases h
theorem xt_of {prog : Program} {K : Fg} {h : Heap} {mg : Str → Option Value} {x : XD} (X : K.In h) (G : h.Ns mainGlobals mg) (top : (prog.main.scope.names.lookup ("super" : Str)).isSome = false) (e : fnY K (x.fI K) = x.val) (c : x.ok prog.main.file K = true) :
    PySem.MbX.XT prog K mg x.cn (He.ga K x.cn) (x.fI K) (x.cc K) x.u x.as := by
  obtain ⟨c1, c⟩ := Bool.and_eq_true_iff.mp c
  obtain ⟨c2, c⟩ := Bool.and_eq_true_iff.mp c
  obtain ⟨c3, c⟩ := Bool.and_eq_true_iff.mp c
  obtain ⟨c4, c⟩ := Bool.and_eq_true_iff.mp c
  obtain ⟨c5, c⟩ := Bool.and_eq_true_iff.mp c
  obtain ⟨c6, c⟩ := Bool.and_eq_true_iff.mp c
  obtain ⟨c7, c⟩ := Bool.and_eq_true_iff.mp c
  obtain ⟨c8, c⟩ := Bool.and_eq_true_iff.mp c
  obtain ⟨c9, c⟩ := Bool.and_eq_true_iff.mp c
  obtain ⟨c10, c⟩ := Bool.and_eq_true_iff.mp c
  obtain ⟨c11, c⟩ := Bool.and_eq_true_iff.mp c
  obtain ⟨c12, c⟩ := Bool.and_eq_true_iff.mp c
  obtain ⟨c13, c⟩ := Bool.and_eq_true_iff.mp c
  obtain ⟨c14, c15⟩ := Bool.and_eq_true_iff.mp c
  refine ⟨PySem.W.mg_of X G (of_decide_eq_true c1), cls_of c2, of_decide_eq_true c3, fun a ha => of_decide_eq_true (List.all_eq_true.mp c4 a ha), of_decide_eq_true c5, of_decide_eq_true c6, c7, of_decide_eq_true c8, of_decide_eq_true c9, of_decide_eq_true c10, of_decide_eq_true c11, of_decide_eq_true c12, ?_, PySem.W.mg_none_of X G (of_decide_eq_true c14), top, ?_⟩
  · unfold cellB at c13
    split at c13
    · rename_i oc od D sl ho
      cases of_decide_eq_true c13
      exact ⟨_, ho, rfl⟩
    · cases c13
  · unfold fnB at c15
    unfold fnY at e
    have ecc : x.cc K = match K.lookup (x.fI K) with
      | some ⟨_, _, .func fd, _⟩ => (match fd.closure with
        | (_, c) :: _ => c
        | _ => 0)
      | _ => 0 := rfl
    generalize x.cc K = cc at ecc ⊢
    cases q : K.lookup (x.fI K) with
    | none => rw [q] at e; cases e
    | some o =>
      obtain ⟨oc, od, dt, osl⟩ := o
      rw [q] at e c15 ecc
      cases dt with
      | func fd =>
        obtain ⟨n1, n2, n3, n4, n5, n6, n7, n8, n9, n10, n11, n12, n13, n14, n15⟩ := fd
        have e2 : (some (n1, n2, n3, n4, n5, n6, n7.map (·.1), n15) : FnY) = (some (("__init__" : Str), x.cn ++ (".__init__" : Str), PySem.MbX.xA x.u x.as, FuncBody.stmts (PySem.MbX.xB x.u x.as), PySem.MbX.xS x.as, mainGlobals, [("__class__" : Str)], builtinsNs) : FnY) := e
        simp only [Option.some.injEq, Prod.mk.injEq] at e2
        obtain ⟨h1, h2, h3, h4, h5, h6, h7, h8⟩ := e2
        subst h1 h2 h3 h4 h5 h6 h8
        obtain ⟨d1, d2⟩ := Bool.and_eq_true_iff.mp (show (decide (n8 = .none) && (PySem.W.codeIn K n13 (x.cn ++ ".__init__") && codeFB prog.main.file K n13)) = true from c15)
        obtain ⟨d3, d4⟩ := Bool.and_eq_true_iff.mp d2
        cases of_decide_eq_true d1
        match n7, h7, ecc with
        | [(y, c0)], h7, ecc =>
          have hy : y = "__class__" := (List.cons.inj h7).1
          subst hy
          have ec : cc = c0 := ecc
          subst ec
          exact ⟨oc, od, x.cn ++ ".__init__", n9, n10, n11, n12, n13, n14, osl, rfl, d3, codeF_of d4⟩
      | _ => cases e
end MB

/-! The hook; a class's text read off the row; small helpers of the printed part. -/
namespace MB
open PySem PySem.Spec PyProof.Rows L2
abbrev AlM : Type := Bool × List He.FnW × List FnY
def obsM (file : Str) (chk : Fg → Bool) (fn : List He.DefD) (xs : List XD) (K : Fg) : AlM := (chk K && ((fn.all fun d => d.ok K) && xs.all fun x => x.ok file K), fn.map fun d => He.fnW K d.at_, xs.map fun x => fnY K (x.fI K))
def valM (fn : List He.DefD) (xs : List XD) : AlM := (true, fn.map He.DefD.val, xs.map XD.val)
def SaysM (file : Str) (chk : Fg → Bool) (fn : List He.DefD) (xs : List XD) (K : Fg) : Prop := obsM file chk fn xs K = valM fn xs
def asM (g : Addr → Option Obj) : Nat → List Addr
  | 0 => [mainGlobals, cStatics]
  | n + 1 => He.growD g (asM g n)
def obsMG (n : Nat) (file : Str) (chk : Fg → Bool) (fn : List He.DefD) (xs : List XD) (g : Addr → Option Obj) : AlM := obsM file chk fn xs (He.frG g (asM g n))
def hookM (n : Nat) (file : Str) (chk : Fg → Bool) (fn : List He.DefD) (xs : List XD) : PySem.W.Hook where
  α := AlM
  obs := fun s => obsMG n file chk fn xs s.heap.get?
  val := fun _ => valM fn xs
  says := fun _ h => ∃ K : PySem.W.Frag, K.In h ∧ SaysM file chk fn xs K
  of := fun _ _ e => ⟨_, He.frG_in, e⟩
  keeps := fun _ _ _ ⟨K, hK, c⟩ k => ⟨K, PySem.W.Frag.In.keeps hK k, c⟩
theorem obsMG_eq {n : Nat} {file : Str} {chk : Fg → Bool} {fn : List He.DefD} {xs : List XD} {g : Addr → Option Obj} {s : Shared} (h : ∀ a, g a = s.heap.get? a) : obsMG n file chk fn xs g = (hookM n file chk fn xs).obs s := by
  have e : g = s.heap.get? := funext h
  rw [e] <;> rfl
section
variable {file : Str} {ck : Fg → Bool} {fn : List He.DefD} {xs : List XD} {K : Fg}
theorem SaysM.chk (c : SaysM file ck fn xs K) : ck K = true := (Bool.and_eq_true_iff.mp (congrArg (fun z : AlM => z.1) c)).1
theorem SaysM.def_ (c : SaysM file ck fn xs K) (i : Nat) {d : He.DefD} (h : fn[i]? = some d) : ∃ fd, FunD K d.name d.qual d.params d.body d.scope (d.dvs K) (d.kws K) (He.fAd K d.at_) fd := by
  have c2 := (Bool.and_eq_true_iff.mp (Bool.and_eq_true_iff.mp (congrArg (fun z : AlM => z.1) c)).2).1
  have e : fn.map (fun d => He.fnW K d.at_) = fn.map He.DefD.val := congrArg (fun z : AlM => z.2.1) c
  have e2 : (fn.map fun d => He.fnW K d.at_)[i]? = (fn.map He.DefD.val)[i]? := by rw [e]
  rw [List.getElem?_map, List.getElem?_map, h] at e2
  exact He.DefD.funD (Option.some.inj e2) (List.all_eq_true.mp c2 d (List.mem_of_getElem? h))
theorem SaysM.cls (c : SaysM file ck fn xs K) (i : Nat) {x : XD} (h : xs[i]? = some x) : fnY K (x.fI K) = x.val ∧ x.ok file K = true := by
  have c2 := (Bool.and_eq_true_iff.mp (Bool.and_eq_true_iff.mp (congrArg (fun z : AlM => z.1) c)).2).2
  have e : xs.map (fun x => fnY K (x.fI K)) = xs.map XD.val := congrArg (fun z : AlM => z.2.2) c
  have e2 : (xs.map fun x => fnY K (x.fI K))[i]? = (xs.map XD.val)[i]? := by rw [e]
  rw [List.getElem?_map, List.getElem?_map, h] at e2
  exact ⟨Option.some.inj e2, List.all_eq_true.mp c2 x (List.mem_of_getElem? h)⟩
end
/-- the fields that an __init__ sets -/
def xaOf : List Arg → List Stmt → List PySem.MbX.XAs
  | a :: as, .Assign [.Attribute (.Name _ q1) n q2] (.Name _ q3) q4 :: r => ⟨n, a.pos, q1, q2, q3, q4⟩ :: xaOf as r
  | _, _ => []
def noSu : PySem.MbX.XSu := ⟨⟨0, 0, 0, 0⟩, "", 0, ⟨0, 0, 0, 0⟩, ⟨0, 0, 0, 0⟩, ⟨0, 0, 0, 0⟩, ⟨0, 0, 0, 0⟩, ⟨0, 0, 0, 0⟩, ⟨0, 0, 0, 0⟩⟩
def bodyOf : Stmt → List Stmt
  | .ClassDef (body := b) .. => b
  | _ => []
def nameOf : Stmt → Str
  | .ClassDef (name := n) .. => n
  | _ => ""
def xuOf : List Arg → List Stmt → PySem.MbX.XSu
  | a :: _, .Expr (.Call (.Attribute (.Call (.Name _ p0) [] [] p1) _ p2) [.Constant (.str t) j p3] [] p4) p5 :: _ => ⟨a.pos, t, j, p0, p1, p2, p3, p4, p5⟩
  | _, _ => noSu
def xdOf (st : Stmt) : XD := match bodyOf st with
  | f :: _ => ⟨nameOf st, xuOf (defArgs f).args (defBody f), xaOf (defArgs f).args.tail (defBody f).tail⟩
  | _ => ⟨"", noSu, []⟩
theorem df_stuck {P : Program} {w : World} {K : Fg} {mg : Str → Option Value} {base : Heap} {k n : Nat} {x : Str} {qual : Str} {params : Arguments} {body : List Stmt} {scope : Scope} {f : Addr} {fd : FuncData} {ps : List Str} (hg : mg x = some (.ref f)) (F : FunD K x qual params body scope [] [] f fd) (hbi : Binds K fd ps []) (hn : ps.length = n) :
    Df P w K mg base k x n (fun _ _ => .stuck) :=
  ⟨f, fd, ps, hg, F.kp, hbi, hn, ⟨fun vs H Q E h => h.1, fun A outer s H args us vs Q E hr e0 hb r h => by
    obtain ⟨_, O, S, ds, _, _, z⟩ := h
    exact z.elim⟩⟩
theorem dfE_ok {P : Program} {w : World} {K : Fg} {mg : Str → Option Value} {base : Heap} {x qual : Str} {params : Arguments} {body : List Stmt} {scope : Scope} {f : Addr} {fd : FuncData} {k : Nat} {N ps : List Str} {b : SX} (hg : mg x = some (.ref f)) (F : FunD K x qual params body scope [] [] f fd) (S : FnScope N ps scope) (h1 : ps.length = 1) (hbi : Binds K fd ps []) (hb : BodyE P w K mg base k N qual scope body b) : DfE P w K mg base (k + 1) x (runE b N.length) :=
  ⟨f, fd, ps, hg, F.kp, hbi, defE_ok F S h1 hb⟩
theorem DfE.mono {P : Program} {w : World} {K : Fg} {mg : Str → Option Value} {base : Heap} {j k : Nat} {x : Str} {m : Ex → Store → Rt} (d : DfE P w K mg base j x m) (h : j ≤ k) : DfE P w K mg base k x m := by
  obtain ⟨f, fd, ps, h1, h2, h3, h4⟩ := d.ex
  exact ⟨f, fd, ps, h1, h2, h3, h4.mono h⟩
theorem hu_of {k : Nat} {A : Around} (r : L2H.RoomH k A) : A.units + 64 < cLine := by have := r.un; omega
theorem hxOk_cxH {P : Program} {w : World} {K : Fg} {mg : Str → Option Value} {base : Heap} {N : List Str} {qual : Str} {scope : Scope} {f : Addr} {cd : Value} {A : Around} {outer : List Env} {s : Shared} {H : Hp} {E : XK} {a : Addr} {oe : Obj} {cls : Value} {dd : Option Addr} (hot : L2H.Hot1 A (a, oe)) (hz : Zc cls dd oe) :
    HxOk (L2H.cxH (L2N.CX P w) P w K mg base N qual scope f cd A outer s H E (a, oe)) ⟨some (a, cls, dd)⟩ := ⟨a, oe, cls, dd, rfl, List.mem_cons_self, ⟨hot.1, hot.2⟩, hz⟩
end MB

/-! A law's end over the layer by values. -/
namespace MB
open PySem PySem.Spec PyProof.Rows L2
/-- the law's def, its function m: at every script it answers True -/
theorem walk_mb {l : PySem.W.OpenLaw} {n k : Nat} {q : Program} {loose : List Str} {XP : (Str → Option Value) → Heap → Prop} {YP : World → Heap → Prop} {d : DefRec} {x : Str} {m : Fn}
    (hn : l.most = some n) (hn2 : n ≤ sizeLine) (hdf : d.params.defaults = []) (hr : Room k callerA)
    (F : ∀ (w : World) (mg : Str → Option Value) (fa : Addr) (h : Heap), YP w h → h.Ns mainGlobals mg → mg d.name = some (.ref fa) →
      ∃ (K : PySem.W.Frag) (fd : FuncData), K.In h ∧ (∀ (s : Shared) (u : Value), BindsTo s fd ⟨[u], []⟩ [(x, u)]) ∧ ∀ base : Heap, K.In base → base.Ns mainGlobals mg → FnV l.prog w K mg base k fa fd [x] m)
    (hm : ∀ ns : List Int, ns.length ≤ n → (∀ z ∈ ns, Builtin.Int.intBits z ≤ 1048576) → ∃ S, m [.scr ns] [] = .ok (.bl true) S) :
    PySem.W.WalkO q loose XP YP l.row.toRowW d [] (fun f vs => PySem.call f vs) := by
  refine Att.attach_callB hn hdf fun w s₀ s₁ mg mb fa o pm cd doc a vs ns G Y ho hd hcd hmg hobj hints hlen hbits hg => ?_
  obtain ⟨K, fd, KX, hb, hF⟩ := F w mg fa _ Y G.T.g hmg
  refine law_call (sp := spV ⟨K, w⟩ 1 m) KX G.T.g G.T.b G.T.builtins G.T.nolimit hg hobj hints (Nat.le_trans hlen hn2) hr hF hb (fun H hO hS => ?_) fun H e s' hc => ?_
  · obtain ⟨S, hm⟩ := hm ns hlen hbits
    have ew : (wo ⟨[], [], []⟩ H).h = H := by
      funext a
      show (if a ∈ ([] : List Addr) then none else H a) = H a
      exact if_neg List.not_mem_nil
    refine ⟨rfl, ⟨[], [], []⟩, [], [.scr ns], ⟨fun a => ⟨fun m => absurd (show a ∈ ([] : List Addr) from m) List.not_mem_nil, ?_⟩, fun a m => absurd (show a ∈ ([] : List Addr) from m) List.not_mem_nil, fun a m => absurd (show a ∈ ([] : List Addr) from m) List.not_mem_nil, .nil, rfl, fun n c a e => (by simp at e), fun a m => absurd (show a ∈ ([] : List Addr) from m) List.not_mem_nil⟩, .cons (.scr (by rw [ew]; exact hS)) .nil, ?_⟩
    · rintro (⟨n, c, e, _⟩ | m)
      · simp at e
      · exact absurd (show a ∈ ([] : List Addr) from m) List.not_mem_nil
    · rw [hm]
      intro v H' O' _ _ dv
      cases dv
      rfl
  · obtain ⟨_, _, _, _, _, _, _, _, _, _, _, _, z⟩ := hc
    exact z
end MB

/-! Constructs that are never reached; raise C() of an own class without __init__. -/
namespace MB
open PySem PySem.Spec PyProof.Rows L2
def eStuck : EX := fun _ => .stuck
def sStuck : SX := fun _ => .stuck
section
variable {X : Cx} {hx : Hx} {W : WX}
theorem tX_stuck {K : Kw} {σ : MB.St} {H : Hp} {Q : VK} (h : tX K hx W eStuck σ H Q) : False := by
  obtain ⟨F, ρ, r, hp⟩ := h
  exact hp
theorem tS_stuck {K : Kw} {D : Ends} {σ : MB.St} {H : Hp} (h : tS K hx W sStuck D σ H) : False := by
  obtain ⟨F, ρ, r, hp⟩ := h
  exact hp
theorem r_stuck {e : Expr} : PE X e (tX X.kw hx W eStuck) := ⟨fun pins s σ H Q I h => (tX_stuck h).elim⟩
theorem rt_stuck {e : Expr} : PT X e (tT X.kw hx W eStuck) := ⟨fun pins s σ H Q I h => by
  obtain ⟨F, ρ, r, hp⟩ := h
  exact (show False from hp).elim⟩
theorem p_stuck {st : Stmt} : PS X st (tS X.kw hx W sStuck) := ⟨fun pins s σ H D I h => (tS_stuck h).elim⟩
theorem ps_stuck {st : List Stmt} : PSs X st (tS X.kw hx W sStuck) := ⟨fun pins s σ H D I h => (tS_stuck h).elim⟩
end
/-- an own class of exceptions without __init__, of ValueError -/
def bmVE : List Value := [.type "ValueError", .type "Exception", .type "BaseException", .type "object"]
def x0B (K : Fg) (C : Addr) : Bool := PySem.W.excIn K C bmVE "ValueError.__new__" && (PySem.W.keepIn K (.ref C) && (decide (PySem.W.subIn K (.ref C) (.type "BaseException") = some true) && decide (PySem.W.typeIn K (.ref C) = some (.type "type"))))
structure X0 (K : Fg) (mg : Str → Option Value) (cn : Str) : Prop where
  gC : mg cn = some (.ref (He.ga K cn))
  ok : x0B K (He.ga K cn) = true
def sRaise0 (c : Str) : SX := fun ρ => .err ⟨c, []⟩ ρ
section
variable {X : Cx} {hx : Hx} {W : WX} {cn : Str} {p pos pos2 : Pos}
theorem pmk_own0 {C : Addr} (gC : X.mg cn = some (.ref C)) (ok : x0B X.K C = true) (hg : Gl X cn) (hdb : (cn == ("__debug__" : Str)) = false) :
    L2N.PMk X (.Call (.Name cn p) [] [] pos) (fun _ H Q => Q (.ref C) none H) := by
  unfold x0B at ok
  simp only [Bool.and_eq_true, decide_eq_true_eq] at ok
  obtain ⟨q, kC, r1, r2⟩ := ok
  intro pins s σ H Q I h
  refine wpAny_Call_Name_kw (ld_glob I hg gC ?_ hdb)
  refine PySem.W.callWith_K0 I.kIn kC ?_
  obtain ⟨bm, N, nm, qn, bs, hdct, sn, sub, ab, col, dd, k0, k1, k2, k3, k5, mN, hC, hN, hni, T⟩ := exc_obj I.kIn q
  obtain ⟨hp, g, d, t, os⟩ := s
  refine wpAny_call_exc_subT F.excBase_ValueError T hC hN hni (fun h' e hm => ?_) (Nat.zero_le _)
  exact L2N.mk_of I hm (raises_own r1 r2) h (I.hok.gone hm.new)
theorem p_raise0 (hc : X.calm = true) (tk : L2N.Takes X W) (T : X0 X.K X.mg cn) (hg : Gl X cn := by rfl) (hdb : (cn == ("__debug__" : Str)) = false := by decide) :
    PS X (.Raise (some (.Call (.Name cn p) [] [] pos)) none pos2) (tS X.kw hx W (sRaise0 cn)) :=
  (L2N.ps_raise hc tk (pmk_own0 T.gC T.ok hg hdb)).imp fun D σ H q => by
    obtain ⟨F, ρ, ⟨O, r⟩, hp⟩ := q
    exact hp _ _ σ H ⟨O, r, rfl, .inl ⟨rfl, rfl⟩⟩
end
end MB

/-! zip of two lists or of two tuples. -/
namespace MB
open PySem PySem.Spec PyProof.Rows L2
def zipD (xs ys : List D) : List D := (xs.zip ys).map fun p => .tpx [p.1, p.2]
theorem zipD_get {xs ys : List D} {i : Nat} {d : D} (h : (zipD xs ys)[i]? = some d) : ∃ x y, xs[i]? = some x ∧ ys[i]? = some y ∧ d = .tpx [x, y] := by
  unfold zipD at h
  rw [List.getElem?_map] at h
  cases e : (xs.zip ys)[i]? with
  | none => rw [e] at h; cases h
  | some p =>
    rw [e] at h
    rw [List.getElem?_zip_eq_some] at e
    cases h
    exact ⟨p.1, p.2, e.1, e.2, rfl⟩
theorem pair_new {K : Kw} {H : Hp} {T : Addr} {x y : V} {dx dy : D} {O : Ow} (n : H T = none) (dom : ∀ a ∈ O, ∃ o, H a = some o) (h1 : DV K (wo O H) x dx) (h2 : DV K (wo O H) y dy) : Same H (upd H T (.tup [x, y])) ∧ DV K (wo O (upd H T (.tup [x, y]))) (.ref T) (.tpx [dx, dy]) := by
  have s := same_upd (o := HO.tup [x, y]) n
  have nO : T ∉ O := fun m => by
    obtain ⟨o, e⟩ := dom T m
    rw [n] at e
    cases e
  refine ⟨s, .tpx (vs := [x, y]) (.inl (.inl ?_)) (.cons (DV.mono (wo_mono s) _ _ h1) (.cons (DV.mono (wo_mono s) _ _ h2) .nil))⟩
  rw [wo_out nO, upd_same]
theorem its_zipL {K : Kw} {T : Fz} {a b : Addr} {vs ws : List V} {ds es : List D} (s1 : T.h a = some (.lst vs)) (t1 : DVs K T vs ds) (s2 : T.h b = some (.lst ws)) (t2 : DVs K T ws es) : Its K T (Itz K.K a b) (zipD ds es) := fun i H st => by
  refine ⟨fun d hd => ?_, fun hi => ⟨vs, ws, .of (st _ _ s1), .of (st _ _ s2), ?_⟩⟩
  · obtain ⟨dx, dy, e1, e2, rfl⟩ := zipD_get hd
    obtain ⟨x, hx, vx⟩ := t1.get e1
    obtain ⟨y, hy, vy⟩ := t2.get e2
    refine ⟨⟨vs, ws, x, y, .of (st _ _ s1), .of (st _ _ s2), hx, hy⟩, fun v H' yl => ?_⟩
    obtain ⟨c, x', y', rfl, hn, rfl, h1, h2⟩ := yl
    have ex : x' = x := Option.some.inj ((h1 vs (.of (st _ _ s1))).symm.trans hx)
    have ey : y' = y := Option.some.inj ((h2 ws (.of (st _ _ s2))).symm.trans hy)
    subst ex ey
    exact ⟨same_upd hn, fun O dom so => (pair_new hn dom (DV.mono so _ _ vx) (DV.mono so _ _ vy)).2⟩
  · rw [t1.length, t2.length]
    unfold zipD at hi
    simp only [List.length_map, List.length_zip] at hi
    omega
theorem its_zipT {K : Kw} {T : Fz} {a b : Addr} {vs ws : List V} {ds es : List D} (s1 : SqT K.K T.h a vs) (t1 : DVs K T vs ds) (s2 : SqT K.K T.h b ws) (t2 : DVs K T ws es) : Its K T (RZ.ItzT K.K a b) (zipD ds es) := fun i H st => by
  refine ⟨fun d hd => ?_, fun hi => ⟨vs, ws, sqT_mono st s1, sqT_mono st s2, ?_⟩⟩
  · obtain ⟨dx, dy, e1, e2, rfl⟩ := zipD_get hd
    obtain ⟨x, hx, vx⟩ := t1.get e1
    obtain ⟨y, hy, vy⟩ := t2.get e2
    refine ⟨⟨vs, ws, x, y, sqT_mono st s1, sqT_mono st s2, hx, hy⟩, fun v H' yl => ?_⟩
    obtain ⟨c, x', y', rfl, hn, rfl, h1, h2⟩ := yl
    have ex : x' = x := Option.some.inj ((h1 vs (sqT_mono st s1)).symm.trans hx)
    have ey : y' = y := Option.some.inj ((h2 ws (sqT_mono st s2)).symm.trans hy)
    subst ex ey
    exact ⟨same_upd hn, fun O dom so => (pair_new hn dom (DV.mono so _ _ vx) (DV.mono so _ _ vy)).2⟩
  · rw [t1.length, t2.length]
    unfold zipD at hi
    simp only [List.length_map, List.length_zip] at hi
    omega
/-- zip(f, g) -/
def iZ (f g : EX) : IX := iB f fun d ρ1 => iB g (fun e ρ2 => match d, e with
  | .lst xs, .lst ys => .ok (zipD xs ys) ρ2
  | .tup xs, .tup ys => .ok (zipD xs ys) ρ2
  | _, _ => .stuck) ρ1
section
variable {K : Kw} {hx : Hx} {W : WX} {f g : EX}
theorem ri_zip : RI K hx W (iZ f g) (RZ.iZipA K.K (tCons (tX K hx W f) (tCons (tX K hx W g) tNil))) := by
  intro σ H R F ρ O r hp
  refine bindI (P := fun z => match z with
    | .ok ds ρ1 => ∀ (J : It) (H1 : Hp) (O1 : Ow), RO K hx F ρ1 σ H1 O1 → FSame (wo O H) (wo O1 H1) → Its K (wo O1 H1) J ds → R J H1
    | .err x ρ1 => ∀ cls dd H1, RX K hx F ρ1 σ H1 x cls dd → W cls dd σ H1
    | .stuck => False) r hp (fun x ρ1 h => h) (fun h => h) fun d ρ1 v H1 O1 r1 s1 dv q => ?_
  refine bindI (P := fun z => match z with
    | .ok ds ρ1 => ∀ (J : It) (H1 : Hp) (O1 : Ow), RO K hx F ρ1 σ H1 O1 → FSame (wo O H) (wo O1 H1) → Its K (wo O1 H1) J ds → R J H1
    | .err x ρ1 => ∀ cls dd H1, RX K hx F ρ1 σ H1 x cls dd → W cls dd σ H1
    | .stuck => False) r1 q (fun x ρ1 h => h) (fun h => h) fun e ρ2 u H2 O2 r2 s2 du q2 => ?_
  have dv2 := DV.mono s2 _ _ dv
  cases d <;> cases e <;> (try exact (q2 : False).elim)
  · obtain ⟨a, vs, rfl, p1, t1⟩ := dv2.tup_of
    obtain ⟨b, ws, rfl, p2, t2⟩ := du.tup_of
    exact ⟨a, b, vs, ws, rfl, .inr ⟨sqT_mono (wo_same O2 H2) p1, sqT_mono (wo_same O2 H2) p2, q2 _ H2 O2 r2 (s1.trans s2) (its_zipT p1 t1 p2 t2)⟩⟩
  · obtain ⟨a, vs, rfl, p1, t1⟩ := dv2.lst_of
    obtain ⟨b, ws, rfl, p2, t2⟩ := du.lst_of
    exact ⟨a, b, vs, ws, rfl, .inl ⟨.of (wo_same O2 H2 _ _ p1), .of (wo_same O2 H2 _ _ p2), q2 _ H2 O2 r2 (s1.trans s2) (its_zipL p1 t1 p2 t2)⟩⟩
end
end MB

/-! Dicts with text keys: a module's table; the hook with tables. -/
namespace MB
open PySem PySem.Spec PyProof.Rows L2
/-! ### a module's dict with text keys -/
def TBS (K : Kw) (x : Str) (l : List (Str × D)) : Prop := (∃ es n, KDict K.K K.w (He.ga K.K x) es n) ∧ ∀ z, match l.lookup z with
  | some d => ∃ u v, PySem.W.nsIn K.K (He.ga K.K x) z = some (some u) ∧ RelV v u ∧ ∀ H, DV K H v d
  | none => PySem.W.nsIn K.K (He.ga K.K x) z = some none
def eTbS (l : List (Str × D)) (f : EX) : EX := fun ρ => (f ρ).bind fun d ρ1 => match d with
  | .str z => match l.lookup z with
    | some y => .ok y ρ1
    | none => .stuck
  | _ => .stuck
def eInS (l : List (Str × D)) (f : EX) : EX := fun ρ => (f ρ).bind fun d ρ1 => match d with
  | .str z => .ok (.bl (l.lookup z).isSome) ρ1
  | _ => .stuck
def eNinS (l : List (Str × D)) (f : EX) : EX := fun ρ => (f ρ).bind fun d ρ1 => match d with
  | .str z => .ok (.bl !(l.lookup z).isSome) ρ1
  | _ => .stuck
section
variable {X : Cx} {hx : Hx} {W : WX} {b : Expr} {fb : EX} {x : Str} {pos p : Pos} {l : List (Str × D)}
theorem r_tbS (T : TBS X.kw x l) (hm : X.mg x = some (.ref (He.ga X.K x))) (hb : PE X b (tX X.kw hx W fb)) (hg : Gl X x := by rfl) (hd : (x == ("__debug__" : Str)) = false := by decide) (hs : PlainIx b := by first | (intro _ _; rfl) | exact fun _ _ => rfl) :
    PE X (.Subscript (.Name x p) b pos) (tX X.kw hx W (eTbS l fb)) :=
  (pe_ix ix_kdict (pe_glob (v := .ref (He.ga X.K x)) hg hm rfl hd) hb hs).imp fun σ H Q h => by
    obtain ⟨F, ρ, ⟨O, r0⟩, hp⟩ := h
    show tX X.kw hx W fb σ H _
    refine bindX r0 hp fun d ρ1 v H1 O1 r1 s1 dv hp1 => ?_
    cases d <;> (try exact hp1.elim)
    rename_i z
    cases dv
    obtain ⟨⟨es, n, kd⟩, T2⟩ := T
    have T3 := T2 z
    cases e : l.lookup z with
    | none => simp only [e] at hp1; exact hp1.elim
    | some y =>
      simp only [e] at hp1 T3
      obtain ⟨u, v, h1, h2, h3⟩ := T3
      exact ⟨_, z, v, rfl, rfl, ⟨es, n, u, kd.at_, kd.lit, h1, h2⟩, hp1 v H1 ⟨O1, r1, h3 _⟩⟩
theorem op2_inS {r : R2} (K : Kw) (x : Str) (l : List (Str × D)) (T : TBS K x l) (hr : ∀ z s H Q, PySem.W.nsIn K.K (He.ga K.K x) z = some s → Q (.bl s.isSome) H → r (.str z) (.ref (He.ga K.K x)) H Q) {F : Fm} {ρ : En} {σ : MB.St} {H : Hp} {Q : VK} {fb : EX} {O : Ow} (r0 : RO K hx F ρ σ H O) (hp : Po K hx F W σ (eInS l fb ρ) Q) :
    tOp r (tX K hx W fb) (tC (.ref (He.ga K.K x))) σ H Q := by
  refine bindX r0 hp fun d ρ1 v H1 O1 r1 s1 dv hp1 => ?_
  cases d <;> (try exact hp1.elim)
  rename_i z
  cases dv
  have T3 := T.2 z
  cases e : l.lookup z with
  | none =>
    simp only [e] at hp1 T3
    exact hr z none H1 Q T3 (hp1 _ H1 ⟨O1, r1, .bl _⟩)
  | some y =>
    simp only [e] at hp1 T3
    obtain ⟨u, v, h1, h2, h3⟩ := T3
    exact hr z (some u) H1 Q h1 (hp1 _ H1 ⟨O1, r1, .bl _⟩)
theorem r_inS (T : TBS X.kw x l) (hm : X.mg x = some (.ref (He.ga X.K x))) (hb : PE X b (tX X.kw hx W fb)) (hg : Gl X x := by rfl) (hd : (x == ("__debug__" : Str)) = false := by decide) (hmk : behindInMarks .In (.Name x p) = false := by rfl) :
    PE X (.Compare b [.In] [.Name x p] pos) (tX X.kw hx W (eInS l fb)) := by
  obtain ⟨es, n, kd⟩ := T.1
  exact (pe_cmpR (op_in_kd kd) hb (pe_glob (v := .ref (He.ga X.K x)) hg hm rfl hd) hmk).imp fun σ H Q h => by
    obtain ⟨F, ρ, ⟨O, r0⟩, hp⟩ := h
    exact op2_inS (W := W) X.kw x l T (fun z s H Q h1 h2 => ⟨z, s, rfl, rfl, h1, h2⟩) r0 hp
theorem r_ninS (T : TBS X.kw x l) (hm : X.mg x = some (.ref (He.ga X.K x))) (hb : PE X b (tX X.kw hx W fb)) (hg : Gl X x := by rfl) (hd : (x == ("__debug__" : Str)) = false := by decide) (hmk : behindInMarks .NotIn (.Name x p) = false := by rfl) :
    PE X (.Compare b [.NotIn] [.Name x p] pos) (tX X.kw hx W (eNinS l fb)) := by
  obtain ⟨es, n, kd⟩ := T.1
  exact (pe_cmpR (op_notIn_kd kd) hb (pe_glob (v := .ref (He.ga X.K x)) hg hm rfl hd) hmk).imp fun σ H Q h => by
    obtain ⟨F, ρ, ⟨O, r0⟩, hp⟩ := h
    show tX X.kw hx W fb σ H _
    refine bindX r0 hp fun d ρ1 v H1 O1 r1 s1 dv hp1 => ?_
    cases d <;> (try exact hp1.elim)
    rename_i z
    cases dv
    have T3 := T.2 z
    cases e : l.lookup z with
    | none =>
      simp only [e] at hp1 T3
      exact ⟨z, none, rfl, rfl, T3, hp1 _ H1 ⟨O1, r1, .bl _⟩⟩
    | some y =>
      simp only [e] at hp1 T3
      obtain ⟨u, v, h1, h2, h3⟩ := T3
      exact ⟨z, some u, rfl, rfl, h1, hp1 _ H1 ⟨O1, r1, .bl _⟩⟩
end
/-! ### facts of such a table -/
def tbsB (K : Fg) (x : Str) (l : List (Str × D)) : Bool := l.all fun p => match PySem.W.nsIn K (He.ga K x) p.1 with
  | some (some u) => dB K 12 u p.2
  | _ => false
theorem mem_lookS {d : D} {i : Str} : ∀ {l : List (Str × D)}, l.lookup i = some d → (i, d) ∈ l
  | [], e => by cases e
  | (j, x) :: l, e => by
    rw [List.lookup_cons] at e
    cases q : (i == j) with
    | true =>
      rw [q] at e
      cases e
      rw [eq_of_beq q]
      exact List.mem_cons_self
    | false =>
      rw [q] at e
      exact List.mem_cons_of_mem _ (mem_lookS e)
theorem lookS_none {i : Str} : ∀ {l : List (Str × D)}, l.lookup i = none → i ∉ l.map (·.1)
  | [], _ => by simp
  | (j, x) :: l, e => by
    rw [List.lookup_cons] at e
    cases q : (i == j) with
    | true => rw [q] at e; cases e
    | false =>
      rw [q] at e
      intro h
      rcases List.mem_cons.mp h with h | h
      · have h' : i = j := h
        rw [h'] at q
        simp at q
      · exact lookS_none e h
/-- a text that is no key -/
theorem ns_none {P : Params} {z : Str} : ∀ {es : List DictEntry} {ks : List Str}, es.map He.keyOf = He.keysIn P ks → z ∉ ks → es.find? (·.key.isStr z) = none ∧ es.any (·.refKey) = false
  | [], _, _, _ => ⟨rfl, rfl⟩
  | e :: r, [], h, _ => by cases h
  | e :: r, k :: ks, h, hz => by
    have h1 : He.keyOf e :: r.map He.keyOf = some (k, PyData.keyHash P k) :: He.keysIn P ks := h
    injection h1 with h2 h3
    obtain ⟨i1, i2⟩ := ns_none h3 (fun m => hz (List.mem_cons_of_mem _ m))
    unfold He.keyOf at h2
    split at h2
    · rename_i x t q
      have h4 := Option.some.inj h2
      obtain ⟨h5, h6⟩ := Prod.mk.inj h4
      subst h5
      have hn : (e.key.isStr z) = false := by
        rw [q]
        show (_ : Bool) = false
        refine Bool.eq_false_iff.mpr fun y => hz ?_
        have : x = z := by
          first
          | exact (beq_iff_eq.mp y)
          | exact (beq_iff_eq.mp y).symm
          | exact of_decide_eq_true y
          | exact (of_decide_eq_true y).symm
        rw [← this]
        exact List.mem_cons_self
      refine ⟨by rw [List.find?_cons, hn]; exact i1, ?_⟩
      rw [List.any_cons, i2, Bool.or_false]
      unfold DictEntry.refKey
      rw [q]
    · cases h2
theorem tbs_ok {K : Kw} {x : Str} {l : List (Str × D)} (h1 : He.dicW K.K (He.ga K.K x) = some (He.keysIn K.w.params (l.map (·.1)))) (h2 : tbsB K.K x l = true) : TBS K x l := by
  obtain ⟨es, n, kd⟩ := He.dicW_ok h1
  have hk : es.toList.map He.keyOf = He.keysIn K.w.params (l.map (·.1)) := by
    unfold He.dicW at h1
    rw [kd.at_] at h1
    have h3 : (match decide (("dict" : String) = "dict") && ((#[] : Array (Option Value)).isEmpty && !(He.ga K.K x == sysModules)) with
      | true => some (es.toList.map He.keyOf)
      | false => none) = some (He.keysIn K.w.params (l.map (·.1))) := h1
    split at h3
    · exact Option.some.inj h3
    · cases h3
  refine ⟨⟨es, n, kd⟩, fun z => ?_⟩
  cases e : l.lookup z with
  | none =>
    show PySem.W.nsIn K.K (He.ga K.K x) z = some none
    obtain ⟨a, b⟩ := ns_none hk (lookS_none e)
    unfold PySem.W.nsIn
    rw [kd.at_]
    simp only [a, b]
    rfl
  | some d =>
    show ∃ u v, PySem.W.nsIn K.K (He.ga K.K x) z = some (some u) ∧ RelV v u ∧ ∀ H, DV K H v d
    have h3 := List.all_eq_true.mp h2 _ (mem_lookS e)
    cases q : PySem.W.nsIn K.K (He.ga K.K x) z with
    | none => simp only [q] at h3; cases h3
    | some o =>
      cases o with
      | none => simp only [q] at h3; cases h3
      | some u =>
        simp only [q] at h3
        obtain ⟨r, dv⟩ := dB_ok _ _ _ h3
        exact ⟨u, vOf u, rfl, r, dv⟩
/-! ### the hook with such tables -/
abbrev AlN : Type := AlM × List (Option (List (Option (Str × Int))))
abbrev Tbs : Type := List (Str × List Str)
def obsN (file : Str) (chk : Fg → Bool) (fn : List He.DefD) (xs : List XD) (ts : Tbs) (K : Fg) : AlN := (obsM file chk fn xs K, ts.map fun t => He.dicW K (He.ga K t.1))
def valN (fn : List He.DefD) (xs : List XD) (ts : Tbs) (w : World) : AlN := (valM fn xs, ts.map fun t => some (He.keysIn w.params t.2))
def SaysN (file : Str) (chk : Fg → Bool) (fn : List He.DefD) (xs : List XD) (ts : Tbs) (w : World) (K : Fg) : Prop := obsN file chk fn xs ts K = valN fn xs ts w
def obsNG (n : Nat) (file : Str) (chk : Fg → Bool) (fn : List He.DefD) (xs : List XD) (ts : Tbs) (g : Addr → Option Obj) : AlN := obsN file chk fn xs ts (He.frG g (asM g n))
def hookN (n : Nat) (file : Str) (chk : Fg → Bool) (fn : List He.DefD) (xs : List XD) (ts : Tbs) : PySem.W.Hook where
  α := AlN
  obs := fun s => obsNG n file chk fn xs ts s.heap.get?
  val := fun w => valN fn xs ts w
  says := fun w h => ∃ K : PySem.W.Frag, K.In h ∧ SaysN file chk fn xs ts w K
  of := fun _ _ e => ⟨_, He.frG_in, e⟩
  keeps := fun _ _ _ ⟨K, hK, c⟩ k => ⟨K, PySem.W.Frag.In.keeps hK k, c⟩
theorem obsNG_eq {n : Nat} {file : Str} {chk : Fg → Bool} {fn : List He.DefD} {xs : List XD} {ts : Tbs} {g : Addr → Option Obj} {s : Shared} (h : ∀ a, g a = s.heap.get? a) : obsNG n file chk fn xs ts g = (hookN n file chk fn xs ts).obs s := by
  have e : g = s.heap.get? := funext h
  rw [e] <;> rfl
section
variable {file : Str} {ck : Fg → Bool} {fn : List He.DefD} {xs : List XD} {ts : Tbs} {w : World} {K : Fg}
theorem SaysN.m (c : SaysN file ck fn xs ts w K) : SaysM file ck fn xs K := congrArg (fun z : AlN => z.1) c
theorem SaysN.tab (c : SaysN file ck fn xs ts w K) (i : Nat) {t : Str × List Str} (h : ts[i]? = some t) : He.dicW K (He.ga K t.1) = some (He.keysIn w.params t.2) := by
  have e : ts.map (fun t => He.dicW K (He.ga K t.1)) = ts.map fun t => some (He.keysIn w.params t.2) := congrArg (fun z : AlN => z.2) c
  have e2 : (ts.map fun t => He.dicW K (He.ga K t.1))[i]? = (ts.map fun t => some (He.keysIn w.params t.2))[i]? := by rw [e]
  rw [List.getElem?_map, List.getElem?_map, h] at e2
  exact Option.some.inj e2
end
end MB

/-! isinstance(e, (C, ..)) of the handled exception; a written dict with text keys as data; str(int). -/
namespace MB
open PySem PySem.Spec PyProof.Rows L2
/-! ### isinstance(e, (C1, C2, ..)) -/
def rIsXT (K : Fg) (C a : Addr) (dd : Option Addr) : List V → Hp → VK → Prop := fun xs H Q => ∃ (tp : Addr) (cs : List V) (us : List Value) (b : Bool), xs = [.ref a, .ref tp] ∧ H tp = some (.tup cs) ∧ Paired ClsV cs us ∧ PySem.W.kitAny K (.ref C) us = some b ∧ dictOk H dd ∧ Q (.bl b) H
theorem call_isXT {X : Cx} {a C : Addr} {oe : Obj} {dd : Option Addr} (T : ExcC X.K C) (hm : (a, oe) ∈ X.pn) (hz : Zc (.ref C) dd oe) (hf : ∃ vs, oe.data = .fields vs) : CallR X (.builtin "isinstance") (rIsXT X.K C a dd) := by
  intro pins s σ H xs us Q I r h
  obtain ⟨tp, cs, ws, b, rfl, hT, k, e, hd, q⟩ := h
  obtain ⟨u1, u2, rfl, r1, r2⟩ : ∃ u1 u2, us = [u1, u2] ∧ RelV (.ref a) u1 ∧ RelV (.ref tp) u2 := by
    cases r with
    | cons rx rr =>
      cases rr with
      | cons rt rr =>
        cases rr
        exact ⟨_, _, rfl, rx, rt⟩
  cases (show u2 = Value.ref tp from r2)
  cases (show u1 = Value.ref a from r1)
  obtain ⟨hget, _⟩ := I.pin (a, oe) (List.mem_append.mpr (.inl hm))
  obtain ⟨vs, hv⟩ := hf
  have J : ∃ od, PySem.W.InstAt s.heap a oe C od := by
    rcases hd with rfl | ⟨d, ws, rfl, hd⟩
    · exact ⟨none, hget, hz.1, by unfold PySem.W.notCls; rw [hv] <;> rfl, by rw [hz.2]; exact trivial⟩
    · obtain ⟨mA, hns, hr⟩ := (show ObjOk X.prog X.w H s.heap d (.xd ws) from I.hok d _ hd)
      obtain ⟨od, ho, hl⟩ := lookIn_ns hns
      exact ⟨some od, hget, hz.1, by unfold PySem.W.notCls; rw [hv] <;> rfl, by rw [hz.2]; exact ho⟩
  obtain ⟨od, J⟩ := J
  obtain ⟨_, its, rv, o, h1, h2, n, h3⟩ := (show ObjOk X.prog X.w H s.heap tp (.tup cs) from I.hok tp _ hT)
  have e3 := ClsV.all k rv
  subst e3
  obtain ⟨oc, od', dt, sl⟩ := o
  simp only at h2 h3
  subst h2 h3
  exact PySem.W.kia_tup (PySem.W.mb_kitx T) I.kIn J h1 e (fun z => nomatch z) fun tk => ⟨.bl b, H, I.tok tk, rfl, q⟩
def ISFT (K : Fg) (t : Str → Option Bool) (us : List Value) : Prop := ∀ c b, t c = some b → ExcC K (He.ga K c) ∧ PySem.W.kitAny K (.ref (He.ga K c)) us = some b
section
variable {X : Cx} {hx : Hx} {W : WX} {pos p q tpos : Pos} {i k : Nat} {x : Str} {es : List Expr}
theorem r_isET {t : Str → Option Bool} {us : List Value} {cs : List V} {ta : TA} (ho : HxOk X hx) (hT : ISFT X.K t us) (hcs : Paired ClsV cs us) (hlen : cs.length ≤ sizeLine) (ha : PA X es ta) (hta : ∀ (σ : MB.St) (H : Hp) (Q : List V → Hp → Prop), Q cs H → ta σ H Q) (hm : X.mg "isinstance" = none) (hN : X.N[i]? = some x := by rfl)
    (hv : Vis X.env.scope x := by first | exact Or.inl rfl | exact Or.inr (Or.inl rfl) | exact Or.inr (Or.inr rfl)) (hg : Gl X "isinstance" := by rfl)
    (hd : (x == ("__debug__" : Str)) = false := by decide) (hcd : (x == ("__classdict__" : Str)) = false := by decide) (he0 : starEach [Expr.Tuple es k tpos] X.env = (false, eval (Expr.Tuple es k tpos) X.env) :: starEach [] X.env := by rfl)
    (he : starEach (.Name x q :: [Expr.Tuple es k tpos]) X.env = (false, eval (.Name x q) X.env) :: starEach [Expr.Tuple es k tpos] X.env := by rfl) (hpl : (backTo pos (starEach [Expr.Tuple es k tpos] X.env)).any (·.1) = false := by rfl) :
    PE X (.Call (.Name "isinstance" p) [.Name x q, .Tuple es k tpos] [] pos) (tX X.kw hx W (eIsE i t)) := by
  obtain ⟨a, oe, cls, dd, hxe, hmem, hot, hz⟩ := ho
  refine ⟨fun pins s σ H Q I h => ?_⟩
  obtain ⟨F, ρ, ⟨O, r0⟩, hp⟩ := h
  unfold eIsE at hp
  cases e : ρ[i]? with
  | none => rw [e] at hp; exact hp.elim
  | some o =>
    cases o with
    | none => rw [e] at hp; exact hp.elim
    | some sl =>
      rw [e] at hp
      cases sl with
      | val d => exact hp.elim
      | exc y =>
        have hp' : Po X.kw hx F W σ (match t y.c with
          | some b => Rs.ok (.bl b) ρ
          | none => .stuck) Q := hp
        cases e2 : t y.c with
        | none => rw [e2] at hp'; exact hp'.elim
        | some b =>
          rw [e2] at hp'
          obtain ⟨v, ev, a', cls', dd', rfl, e3, ex⟩ := r0.sl i _ e
          rw [hxe] at e3
          cases e3
          obtain ⟨hE, hk⟩ := hT _ _ e2
          have ec := ex.1
          subst ec
          have hcall := call_isXT (X := X) hE hmem hz (by obtain ⟨_, vs, e1, _⟩ := hot; exact ⟨vs, e1⟩)
          refine (pe_callB hcall hg hm (by decide +kernel) (pa_cons (pe_var hN hv hd hcd) (pa_cons (pe_tup ha) pa_nil he0) he) (by decide) (by decide) he hpl).run pins s σ H Q I ?_
          refine ⟨_, ev, hta σ H _ ?_⟩
          classical
          have fin : ∀ T H2, H2 T = some (.tup cs) → Same H H2 → rIsXT X.K (He.ga X.K y.c) a dd [.ref a, .ref T] H2 Q := fun T H2 h2 s2 =>
            ⟨T, cs, us, b, rfl, h2, hcs, hk, ex.dict ((wo_same O H).trans s2), hp' _ H2 ⟨O, r0.grow s2, .bl b⟩⟩
          exact ⟨hlen, fun T hT => fin T _ upd_same (same_upd hT)⟩
end
def isXT (l : List (Str × List Str)) (Cs : List Str) : Str → Option Bool := fun c => (l.lookup c).map fun bs => Cs.any (bs.contains ·)
def clsVs (K : Fg) (Cs : List Str) : List Value := Cs.map fun C => .ref (He.ga K C)
def clsV (K : Fg) (Cs : List Str) : List V := Cs.map fun C => .ref (He.ga K C)
def isTB (K : Fg) (l : List (Str × List Str)) (Cs : List Str) : Bool := l.all fun p => decide (PySem.W.kitAny K (.ref (He.ga K p.1)) (clsVs K Cs) = some (Cs.any (p.2.contains ·)))
theorem clsV_pair (K : Fg) : ∀ Cs : List Str, Paired ClsV (clsV K Cs) (clsVs K Cs)
  | [] => .nil
  | C :: Cs => .cons (.own _) (clsV_pair K Cs)
theorem ist_ok {K : Fg} {l : List (Str × List Str)} {Cs : List Str} (h1 : (l.all fun p => excCB K (He.ga K p.1)) = true) (h2 : isTB K l Cs = true) : ISFT K (isXT l Cs) (clsVs K Cs) := by
  intro c b e
  unfold isXT at e
  cases q : l.lookup c with
  | none => rw [q] at e; cases e
  | some bs =>
    rw [q] at e
    cases e
    have hm : (c, bs) ∈ l := by
      clear h1 h2
      induction l with
      | nil => cases q
      | cons p r ih =>
        obtain ⟨x, y⟩ := p
        rw [List.lookup_cons] at q
        cases z : (c == x) with
        | true =>
          rw [z] at q
          cases q
          rw [eq_of_beq z]
          exact List.mem_cons_self
        | false =>
          rw [z] at q
          exact List.mem_cons_of_mem _ (ih q)
    exact ⟨excC_ok (List.all_eq_true.mp h1 _ hm), of_decide_eq_true (List.all_eq_true.mp h2 _ hm)⟩
/-! ### str(int) -/
def strD : List D → Option D
  | [.int i] => if i.natAbs.log2 < 1920 then some (.str (toString i)) else none
  | _ => none
theorem s_str {K : Kw} : CallD K (fun xs H Q => ∃ i, xs = [.int i] ∧ i.natAbs.log2 < 1920 ∧ Q (.str (toString i)) H) strD := by
  intro O H vs ds res Q hd dv e q
  match ds, dv, e with
  | [.int i], .cons (.int _) .nil, e =>
    have e' : (if i.natAbs.log2 < 1920 then some (D.str (toString i)) else none) = some res := e
    split at e'
    · rename_i h
      cases e'
      exact ⟨i, rfl, h, q _ H (Same.refl H) (.str _)⟩
    · cases e'
/-! ### a written dict of text keys and ints -/
def dInts (kvs : List (Str × Int)) : D := .dct (kvs.map fun p => .inr p.1) (kvs.map fun p => .int p.2)
theorem tPairs_const {σ : MB.St} {H : Hp} : ∀ {kvs : List (Str × Int)} {Q : List (V × V) → Hp → Prop}, Q (kvs.map fun p => (V.str p.1, V.int p.2)) H → tPairs (kvs.map fun p => (tC (.str p.1), tC (.int p.2))) σ H Q
  | [], Q, h => h
  | p :: r, Q, h => tPairs_const (kvs := r) (Q := fun ps H3 => Q ((V.str p.1, V.int p.2) :: ps) H3) h
section
variable {X : Cx} {hx : Hx} {W : WX} {pos : Pos}
theorem zip_map2 {α β γ : Type} (f : α → β) (g : α → γ) : ∀ l : List α, (l.map f).zip (l.map g) = l.map fun a => (f a, g a)
  | [] => rfl
  | a :: l => by simp [zip_map2 f g l]
theorem r_dct {keys : List (Option Expr)} {values : List Expr} {kvs : List (Str × Int)} (h : PPs X pos keys values (kvs.map fun p => (tC (.str p.1), tC (.int p.2)))) (hm : mergeK [] (kvs.map fun p => ((.inr p.1 : L2.Key), V.int p.2)) = kvs.map fun p => ((.inr p.1 : L2.Key), V.int p.2)) (h15 : kvs.length ≤ 15)
    (hall : keys.all (·.isSome) = true := by rfl) (hl : keys.length = values.length := by rfl) (h0 : keys ≠ [] := by intro h; cases h) (hk15 : keys.length ≤ 15 := by decide) : PE X (.Dict keys values pos) (tX X.kw hx W (eC (dInts kvs))) :=
  (pe_disp h hall hl h0 hk15).imp fun σ H Q h => by
    obtain ⟨F, ρ, ⟨O, r⟩, hp⟩ := h
    intro p np
    refine tPairs_const ⟨upd_same, kvs.map fun p => ((.inr p.1 : L2.Key), V.int p.2), by rw [List.map_map]; rfl, by simpa using h15, ?_⟩
    rw [hm, upd_upd]
    have s := same_upd (o := HO.dK (kvs.map fun p => ((.inr p.1 : L2.Key), V.int p.2))) np
    refine hp _ _ ⟨O, r.grow s, .dct (vs := kvs.map fun p => V.int p.2) ?_ (by simp) ?_⟩
    · rw [wo_out (r.out np), upd_same, zip_map2]
    · have : ∀ l : List (Str × Int), DVs X.kw (wo O (L2.upd H p (.dK (kvs.map fun p => ((.inr p.1 : L2.Key), V.int p.2))))) (l.map fun p => V.int p.2) (l.map fun p => D.int p.2) := by
        intro l
        induction l with
        | nil => exact .nil
        | cons a l ih => exact .cons (.int _) ih
      exact this kvs
def lookK : List L2.Key → List D → L2.Key → Option D
  | k :: ks, d :: ds, z => if k = z then some d else lookK ks ds z
  | _, _, _ => none
theorem lookK_ok {K : Kw} {H : Fz} {z : L2.Key} {d : D} : ∀ {ks : List L2.Key} {vs : List V} {ds : List D}, DVs K H vs ds → lookK ks ds z = some d → ∃ v, valV (ks.zip vs) z = some v ∧ DV K H v d
  | [], _, _, .nil, e => by cases e
  | [], _, _, .cons _ _, e => by cases e
  | k :: ks, _, _, .nil, e => by cases e
  | k :: ks, v :: vs, _, .cons a t, e => by
    unfold lookK at e
    rw [List.zip_cons_cons]
    by_cases h : k = z
    · rw [if_pos h] at e
      cases e
      exact ⟨v, valV_pos (p := (k, v)) h, a⟩
    · rw [if_neg h] at e
      obtain ⟨w, h1, h2⟩ := lookK_ok t e
      exact ⟨w, by rw [valV_neg (p := (k, v)) h]; exact h1, h2⟩
def keyD : D → Option L2.Key
  | .int i => some (.inl i)
  | .str x => some (.inr x)
  | _ => none
def eIxK (fa fb : EX) : EX := fun ρ => (fa ρ).bind fun d ρ1 => (fb ρ1).bind fun e ρ2 => match d, keyD e with
  | .dct ks ds, some k => match lookK ks ds k with
    | some z => .ok z ρ2
    | none => .stuck
  | _, _ => .stuck
theorem r_ixK {a b : Expr} {fa fb : EX} (hu : X.A.units + 64 < cLine) (ha : PE X a (tX X.kw hx W fa)) (hb : PE X b (tX X.kw hx W fb)) (hs : NoSl b := by first | (intro _ _; rfl) | exact fun _ _ => rfl) : PE X (.Subscript a b pos) (tX X.kw hx W (eIxK fa fb)) :=
  (pe_dget (by omega) ha hb hs).imp fun σ H Q h => by
    obtain ⟨F, ρ, ⟨O, r0⟩, hp⟩ := h
    show tX X.kw hx W fa σ H _
    refine bindX r0 hp fun d ρ1 v H1 O1 r1 s1 dv hp1 => ?_
    refine bindX r1 hp1 fun e ρ2 u H2 O2 r2 s2 du hp2 => ?_
    have dv2 := DV.mono s2 _ _ dv
    cases d <;> (try exact hp2.elim)
    rename_i ks ds
    cases dv2 with
    | dct h1 h2 h3 =>
      rename_i a vs
      cases q : keyD e with
      | none => simp only [q] at hp2; exact hp2.elim
      | some k =>
        simp only [q] at hp2
        cases q2 : lookK ks ds k with
        | none => simp only [q2] at hp2; exact hp2.elim
        | some z =>
          simp only [q2] at hp2
          obtain ⟨w, g1, g2⟩ := lookK_ok h3 q2
          have hk : u = kV k := by
            cases e <;> (try (cases q; done))
            · cases du; cases q; rfl
            · cases du; cases q; rfl
          refine ⟨a, w, rfl, ?_, hp2 w H2 ⟨O2, r2, g2⟩⟩
          rw [hk, ← g1]
          exact DGet.k (wo_same O2 H2 _ _ h1)
end
end MB

/-! x is True, x is None; x in a list of data of any depth. -/
namespace MB
open PySem PySem.Spec PyProof.Rows L2
def okV : V → Bool
  | .non => true | .bl _ => true | .int _ => true | .str _ => true | .ref _ => true | _ => false
def rIsM : R2 := fun x y H Q => (y = .non ∧ Q (.bl (decide (x = .non))) H) ∨ ∃ b, okV x = true ∧ y = .bl b ∧ Q (.bl (decide (x = .bl b))) H
theorem op_isB {X : Cx} : OpR X (compareOp .Is) (fun x y H Q => ∃ b, okV x = true ∧ y = .bl b ∧ Q (.bl (decide (x = .bl b))) H) := by
  intro pins s σ H x y v u Q I rx ry h
  obtain ⟨b, hok, rfl, q⟩ := h
  cases ry
  cases x <;> (try (cases hok; done))
  · cases rx
    exact wpAny_pure (fin_bl I q rfl)
  · cases rx
    exact wpAny_pure (fin_bl I q (by rename_i a; cases a <;> cases b <;> rfl))
  all_goals first
    | (cases rx; exact wpAny_pure (fin_bl I q rfl))
    | (obtain ⟨t, rfl⟩ := rx; exact wpAny_pure (fin_bl I q rfl))
    | (cases rx; exact wpAny_pure (fin_bl I q (by rename_i a; cases a <;> cases b <;> rfl)))
theorem o_isM {X : Cx} : OpR X (compareOp .Is) rIsM := op_isN.or op_isB
def isBlD (b : Bool) : D → Bool
  | .bl a => a == b
  | _ => false
def isM : D → D → Option D
  | d, .non => some (.bl (isNo d))
  | d, .bl b => some (.bl (isBlD b d))
  | _, _ => none
theorem isBlD_of {K : Kw} {H : Fz} {v : V} {d : D} {b : Bool} (h : DV K H v d) : decide (v = V.bl b) = isBlD b d := by
  cases d <;> cases h <;> first | rfl | (rename_i a; cases a <;> cases b <;> rfl)
theorem okV_of {K : Kw} {H : Fz} {v : V} {d : D} (h : DV K H v d) : okV v = true := by
  cases d <;> cases h <;> rfl
theorem s_isM {K : Kw} : Op2 K rIsM isM := by
  intro O H x y d e res Q hd hx hy h q
  cases e <;> (try (cases d <;> cases h; done))
  · cases hy
    have h' : some (D.bl (isNo d)) = some res := by cases d <;> exact h
    cases h'
    exact .inl ⟨rfl, by rw [isNo_of hx]; exact q _ H (Same.refl H) (.bl _)⟩
  · cases hy
    rename_i b
    have h' : some (D.bl (isBlD b d)) = some res := by cases d <;> exact h
    cases h'
    exact .inr ⟨b, okV_of hx, rfl, by rw [isBlD_of hx]; exact q _ H (Same.refl H) (.bl _)⟩
theorem b_isM : ∀ d e z, isM d e = some z → ∃ b, z = .bl b := fun d e z h => by
  cases e <;> (try (cases d <;> cases h; done))
  · cases d <;> cases h <;> exact ⟨_, rfl⟩
  · cases d <;> cases h <;> exact ⟨_, rfl⟩
/-! ### in, at any depth -/
def inDeep (d : D) (xs : List D) : Option Bool := match toPy d, toPys xs with
  | some a, some ps => if (SeqAt.shaped a && SeqAt.shaped (.list ps)) = true then some (ps.any fun z => PyData.eqv z a) else none
  | _, _ => none
def inM : D → D → Option D
  | d, .tup xs => (inB d xs).map .bl
  | d, .lst xs => match inB d xs with
    | some b => some (.bl b)
    | none => (inDeep d xs).map .bl
  | _, _ => none
def rInM (K : Fg) : R2 := fun x y H Q => rIn K false x y H Q ∨ (∃ d ds, Dp K H x d ∧ Dp K H y (.list ds) ∧ SeqAt.shaped d = true ∧ SeqAt.shaped (.list ds) = true ∧ Q (.bl (ds.any fun z => PyData.eqv z d)) H)
theorem o_inM {X : Cx} (hu : X.A.units + 65 < cLine) : OpR X (compareOp .In) (rInM X.K) := op_in_seq.or (op_inD hu)
theorem Dp.mono_wo {K : Kw} {H : Hp} {O : Ow} {v : V} {d : D} {p : PyData} (h : DV K (wo O H) v d) (e : toPy d = some p) : Dp K.K H v p := dp_of d v p (DV.mono (wo_al O H) _ _ h) e
theorem s_inM {K : Kw} : Op2 K (rInM K.K) inM := by
  intro O H x y d e res Q hd hx hy h q
  cases e <;> (try (cases d <;> cases h; done))
  · rename_i xs
    exact .inl (s_in O H x y d (.tup xs) res Q hd hx hy (by cases d <;> exact h) q)
  · rename_i xs
    have h' : (match inB d xs with
      | some b => some (.bl b)
      | none => (inDeep d xs).map .bl) = some res := by cases d <;> exact h
    cases e1 : inB d xs with
    | some b =>
      rw [e1] at h'
      refine .inl (s_in O H x y d (.lst xs) res Q hd hx hy ?_ q)
      have : (inB d xs).map D.bl = some res := by rw [e1]; exact h'
      cases d <;> exact this
    | none =>
      rw [e1] at h'
      obtain ⟨b, hb, rfl⟩ := Option.map_eq_some_iff.mp (show (inDeep d xs).map D.bl = some res from h')
      unfold inDeep at hb
      cases e2 : toPy d with
      | none => simp only [e2] at hb; cases hb
      | some a =>
        cases e3 : toPys xs with
        | none => simp only [e2, e3] at hb; cases hb
        | some ps =>
          simp only [e2, e3] at hb
          split at hb
          · rename_i hs
            obtain ⟨s1, s2⟩ := Bool.and_eq_true_iff.mp hs
            cases hb
            refine .inr ⟨a, ps, Dp.mono_wo hx e2, Dp.mono_wo hy ?_, s1, s2, q _ H (Same.refl H) (.bl _)⟩
            rw [toPy, e3]
            rfl
          · cases hb
theorem b_inM : ∀ d e z, inM d e = some z → ∃ b, z = .bl b := fun d e z h => by
  cases e <;> (try (cases d <;> cases h; done))
  · rename_i xs
    have h' : (inB d xs).map D.bl = some z := by cases d <;> exact h
    obtain ⟨b, _, rfl⟩ := Option.map_eq_some_iff.mp h'
    exact ⟨b, rfl⟩
  · rename_i xs
    have h' : (match inB d xs with
      | some b => some (.bl b)
      | none => (inDeep d xs).map .bl) = some z := by cases d <;> exact h
    cases e1 : inB d xs with
    | some b => rw [e1] at h'; cases h'; exact ⟨b, rfl⟩
    | none =>
      rw [e1] at h'
      obtain ⟨b, _, rfl⟩ := Option.map_eq_some_iff.mp (show (inDeep d xs).map D.bl = some z from h')
      exact ⟨b, rfl⟩
end MB

/-! x in TABLE as a test; room. -/
namespace MB
open PySem PySem.Spec PyProof.Rows L2
theorem hu65 {k : Nat} {A : Around} (r : Room k A) : A.units + 65 < cLine := by have := r.un; omega
theorem huH65 {k : Nat} {A : Around} (r : L2H.RoomH k A) : A.units + 65 < cLine := by have := r.un; omega
def powOk (i j : Int) : Bool := decide (0 ≤ j ∧ j ≤ 1000000 ∧ i.natAbs < 2 ^ 64) || decide (0 ≤ j ∧ (Builtin.Int.intBits i : Int) * j ≤ 2 ^ 27)
def powM : D → D → Option D
  | .int i, .int j => if powOk i j = true then some (.int (i ^ j.toNat)) else none
  | _, _ => none
theorem o_powM {X : Cx} : OpR X (binaryOp .Pow) (rI (fun i j => powOk i j = true) fun i j => .int (i ^ j.toNat)) := opI fun _ _ _ _ _ _ _ hc q => by
  unfold powOk at hc
  rcases Bool.or_eq_true_iff.mp hc with h | h
  · have h' := of_decide_eq_true h
    exact pow_int_small h'.1 h'.2.1 h'.2.2 q
  · have h' := of_decide_eq_true h
    exact pow_int h'.1 h'.2 q
theorem s_powM {K : Kw} : Op2 K (rI (fun i j => powOk i j = true) fun i j => .int (i ^ j.toNat)) powM := by
  intro O H x y d e res Q hd hx hy h q
  cases d <;> cases e <;> try (cases h; done)
  rename_i i j
  have h' : (if powOk i j = true then some (D.int (i ^ j.toNat)) else none) = some res := h
  split at h'
  · cases h'
    rename_i hl
    cases hx; cases hy
    exact ⟨_, _, rfl, rfl, hl, q _ H (Same.refl H) (.int _)⟩
  · cases h'
section
variable {X : Cx} {hx : Hx} {W : WX} {b : Expr} {fb : EX} {x : Str} {pos p : Pos} {l : List (Str × D)}
theorem r_inST (T : TBS X.kw x l) (hm : X.mg x = some (.ref (He.ga X.K x))) (hb : PE X b (tX X.kw hx W fb)) (hg : Gl X x := by rfl) (hd : (x == ("__debug__" : Str)) = false := by decide) (hmk : behindInMarks .In (.Name x p) = false := by rfl) :
    PT X (.Compare b [.In] [.Name x p] pos) (tT X.kw hx W (eInS l fb)) := by
  obtain ⟨es, n, kd⟩ := T.1
  exact (pt_cmpR (op_in_kd kd) hb (pe_glob (v := .ref (He.ga X.K x)) hg hm rfl hd) hmk).imp fun σ H Q h => by
    obtain ⟨F, ρ, ⟨O, r0⟩, hp⟩ := h
    show tX X.kw hx W fb σ H _
    refine bindXT r0 hp fun d ρ1 v H1 O1 r1 s1 dv hp1 => ?_
    cases d <;> (try (obtain hp1 : False := hp1; exact hp1.elim))
    rename_i z
    cases dv
    have T3 := T.2 z
    obtain ⟨b, hb, k⟩ := hp1
    cases hb
    cases e : l.lookup z with
    | none =>
      simp only [e] at k T3
      exact ⟨z, none, rfl, rfl, T3, _, rfl, k H1 ⟨O1, r1⟩⟩
    | some y =>
      simp only [e] at k T3
      obtain ⟨u, v, h1, h2, h3⟩ := T3
      exact ⟨z, some u, rfl, rfl, h1, _, rfl, k H1 ⟨O1, r1⟩⟩
theorem r_ninST (T : TBS X.kw x l) (hm : X.mg x = some (.ref (He.ga X.K x))) (hb : PE X b (tX X.kw hx W fb)) (hg : Gl X x := by rfl) (hd : (x == ("__debug__" : Str)) = false := by decide) (hmk : behindInMarks .NotIn (.Name x p) = false := by rfl) :
    PT X (.Compare b [.NotIn] [.Name x p] pos) (tT X.kw hx W (eNinS l fb)) := by
  obtain ⟨es, n, kd⟩ := T.1
  exact (pt_cmpR (op_notIn_kd kd) hb (pe_glob (v := .ref (He.ga X.K x)) hg hm rfl hd) hmk).imp fun σ H Q h => by
    obtain ⟨F, ρ, ⟨O, r0⟩, hp⟩ := h
    show tX X.kw hx W fb σ H _
    refine bindXT r0 hp fun d ρ1 v H1 O1 r1 s1 dv hp1 => ?_
    cases d <;> (try (obtain hp1 : False := hp1; exact hp1.elim))
    rename_i z
    cases dv
    have T3 := T.2 z
    obtain ⟨b, hb, k⟩ := hp1
    cases hb
    cases e : l.lookup z with
    | none =>
      simp only [e] at k T3
      exact ⟨z, none, rfl, rfl, T3, _, rfl, k H1 ⟨O1, r1⟩⟩
    | some y =>
      simp only [e] at k T3
      obtain ⟨u, v, h1, h2, h3⟩ := T3
      exact ⟨z, some u, rfl, rfl, h1, _, rfl, k H1 ⟨O1, r1⟩⟩
end
end MB

/-! Plain facts of the functions by values: loops, comprehensions, built-in types, powers. -/
namespace MB
open PySem PySem.Spec PyProof.Rows L2
@[simp] theorem kb_NoneType_int : L2.kitB "NoneType" "int" = some false := by decide +kernel
@[simp] theorem kb_NoneType_bool : L2.kitB "NoneType" "bool" = some false := by decide +kernel
@[simp] theorem kb_NoneType_str : L2.kitB "NoneType" "str" = some false := by decide +kernel
@[simp] theorem kb_NoneType_list : L2.kitB "NoneType" "list" = some false := by decide +kernel
@[simp] theorem kb_NoneType_tuple : L2.kitB "NoneType" "tuple" = some false := by decide +kernel
@[simp] theorem kb_bool_int : L2.kitB "bool" "int" = some true := by decide +kernel
@[simp] theorem kb_bool_bool : L2.kitB "bool" "bool" = some true := by decide +kernel
@[simp] theorem kb_bool_str : L2.kitB "bool" "str" = some false := by decide +kernel
@[simp] theorem kb_bool_list : L2.kitB "bool" "list" = some false := by decide +kernel
@[simp] theorem kb_bool_tuple : L2.kitB "bool" "tuple" = some false := by decide +kernel
@[simp] theorem kb_int_int : L2.kitB "int" "int" = some true := by decide +kernel
@[simp] theorem kb_int_bool : L2.kitB "int" "bool" = some false := by decide +kernel
@[simp] theorem kb_int_str : L2.kitB "int" "str" = some false := by decide +kernel
@[simp] theorem kb_int_list : L2.kitB "int" "list" = some false := by decide +kernel
@[simp] theorem kb_int_tuple : L2.kitB "int" "tuple" = some false := by decide +kernel
@[simp] theorem kb_str_int : L2.kitB "str" "int" = some false := by decide +kernel
@[simp] theorem kb_str_bool : L2.kitB "str" "bool" = some false := by decide +kernel
@[simp] theorem kb_str_str : L2.kitB "str" "str" = some true := by decide +kernel
@[simp] theorem kb_str_list : L2.kitB "str" "list" = some false := by decide +kernel
@[simp] theorem kb_str_tuple : L2.kitB "str" "tuple" = some false := by decide +kernel
@[simp] theorem kb_tuple_int : L2.kitB "tuple" "int" = some false := by decide +kernel
@[simp] theorem kb_tuple_bool : L2.kitB "tuple" "bool" = some false := by decide +kernel
@[simp] theorem kb_tuple_str : L2.kitB "tuple" "str" = some false := by decide +kernel
@[simp] theorem kb_tuple_list : L2.kitB "tuple" "list" = some false := by decide +kernel
@[simp] theorem kb_tuple_tuple : L2.kitB "tuple" "tuple" = some true := by decide +kernel
@[simp] theorem kb_list_int : L2.kitB "list" "int" = some false := by decide +kernel
@[simp] theorem kb_list_bool : L2.kitB "list" "bool" = some false := by decide +kernel
@[simp] theorem kb_list_str : L2.kitB "list" "str" = some false := by decide +kernel
@[simp] theorem kb_list_list : L2.kitB "list" "list" = some true := by decide +kernel
@[simp] theorem kb_list_tuple : L2.kitB "list" "tuple" = some false := by decide +kernel
/-- a loop whose turns all go on -/
theorem loopS_inv {I : En → Prop} {b : BX} {g : SX} : ∀ {ds : List D} {ρ : En}, (∀ d ∈ ds, ∀ ρ, I ρ → ∃ ρ1, b d ρ = some ρ1 ∧ ∃ ρ2, g ρ1 = .nx ρ2 ∧ I ρ2) → I ρ → ∃ ρ', loopS b g ds ρ = .nx ρ' ∧ I ρ'
  | [], ρ, _, h => ⟨ρ, rfl, h⟩
  | d :: ds, ρ, H, h => by
    obtain ⟨ρ1, e1, ρ2, e2, h2⟩ := H d List.mem_cons_self ρ h
    obtain ⟨ρ', e3, h3⟩ := loopS_inv (fun d' m => H d' (List.mem_cons_of_mem _ m)) h2
    refine ⟨ρ', ?_, h3⟩
    unfold loopS
    simp only [e1, e2]
    exact e3
theorem loopS_cons {b : BX} {g : SX} {d : D} {ds : List D} {ρ ρ1 ρ2 : En} (e1 : b d ρ = some ρ1) (e2 : g ρ1 = .nx ρ2) : loopS b g (d :: ds) ρ = loopS b g ds ρ2 := by
  conv => lhs; unfold loopS
  simp only [e1, e2]
theorem loopS_cons_rt {b : BX} {g : SX} {d y : D} {ds : List D} {ρ ρ1 ρ2 : En} (e1 : b d ρ = some ρ1) (e2 : g ρ1 = .rt y ρ2) : loopS b g (d :: ds) ρ = .rt y ρ2 := by
  conv => lhs; unfold loopS
  simp only [e1, e2]
/-- a comprehension without a test whose element is a function of the item -/
theorem compL_map {vs : List Nat} {b : BX} {e : EX} {g : D → D} {ρ0 : En} : ∀ {ds acc : List D} {ρ : En}, (∀ d ∈ ds, ∃ ρ1, b d ρ0 = some ρ1 ∧ ∃ ρ2, e ρ1 = .ok (g d) ρ2 ∧ wipeE ρ2 vs = ρ0) → wipeE ρ vs = ρ0 → ∃ ρ', compL b (eC (.bl true)) e vs ds acc ρ = .ok (.lst (acc ++ ds.map g)) ρ' ∧ wipeE ρ' vs = ρ0
  | [], acc, ρ, _, h => ⟨ρ, by simp [compL], h⟩
  | d :: ds, acc, ρ, H, h => by
    obtain ⟨ρ1, e1, ρ2, e2, h2⟩ := H d List.mem_cons_self
    obtain ⟨ρ', e3, h3⟩ := compL_map (acc := acc ++ [g d]) (fun d' m => H d' (List.mem_cons_of_mem _ m)) h2
    refine ⟨ρ', ?_, h3⟩
    unfold compL
    simp only [h, e1, eC, Rs.bind, truth, e2, e3]
    simp
theorem eComp_map {it : IX} {b : BX} {e : EX} {vs : List Nat} {g : D → D} {ds : List D} {ρ ρ1 : En} (hi : it ρ = .ok ds ρ1) (hl : ds.length ≤ 1000000)
    (H : ∀ d ∈ ds, ∃ ρ2, b d (wipeE ρ1 vs) = some ρ2 ∧ ∃ ρ3, e ρ2 = .ok (g d) ρ3 ∧ wipeE ρ3 vs = wipeE ρ1 vs) : eComp it b (eC (.bl true)) e vs ρ = .ok (.lst (ds.map g)) (backE ρ1 (wipeE ρ1 vs) vs) := by
  obtain ⟨ρ', e1, h1⟩ := compL_map (acc := []) H rfl
  unfold eComp
  simp only [hi, hl, if_true, e1, h1, List.nil_append]
/-- a comprehension with a test -/
theorem compL_filt {vs : List Nat} {b : BX} {c e : EX} {p : D → Bool} {g : D → D} {ρ0 : En} : ∀ {ds acc : List D} {ρ : En}, (∀ d ∈ ds, ∃ ρ1, b d ρ0 = some ρ1 ∧ ∃ t ρ2, c ρ1 = .ok t ρ2 ∧ truth t = some (p d) ∧ (p d = false → wipeE ρ2 vs = ρ0) ∧ (p d = true → ∃ ρ3, e ρ2 = .ok (g d) ρ3 ∧ wipeE ρ3 vs = ρ0)) → wipeE ρ vs = ρ0 →
    ∃ ρ', compL b c e vs ds acc ρ = .ok (.lst (acc ++ (ds.filter p).map g)) ρ' ∧ wipeE ρ' vs = ρ0
  | [], acc, ρ, _, h => ⟨ρ, by simp [compL], h⟩
  | d :: ds, acc, ρ, H, h => by
    obtain ⟨ρ1, e1, t, ρ2, e2, ht, hf, hg⟩ := H d List.mem_cons_self
    cases q : p d with
    | false =>
      obtain ⟨ρ', e3, h3⟩ := compL_filt (acc := acc) (fun d' m => H d' (List.mem_cons_of_mem _ m)) (hf q)
      refine ⟨ρ', ?_, h3⟩
      unfold compL
      rw [q] at ht
      simp only [h, e1, Rs.bind, e2, ht, e3, List.filter_cons, q]
      simp
    | true =>
      obtain ⟨ρ3, e4, h4⟩ := hg q
      obtain ⟨ρ', e3, h3⟩ := compL_filt (acc := acc ++ [g d]) (fun d' m => H d' (List.mem_cons_of_mem _ m)) h4
      refine ⟨ρ', ?_, h3⟩
      unfold compL
      rw [q] at ht
      simp only [h, e1, Rs.bind, e2, ht, e4, e3, List.filter_cons, q]
      simp
theorem eComp_filt {it : IX} {b : BX} {c e : EX} {vs : List Nat} {p : D → Bool} {g : D → D} {ds : List D} {ρ ρ1 : En} (hi : it ρ = .ok ds ρ1) (hl : ds.length ≤ 1000000)
    (H : ∀ d ∈ ds, ∃ ρ2, b d (wipeE ρ1 vs) = some ρ2 ∧ ∃ t ρ3, c ρ2 = .ok t ρ3 ∧ truth t = some (p d) ∧ (p d = false → wipeE ρ3 vs = wipeE ρ1 vs) ∧ (p d = true → ∃ ρ4, e ρ3 = .ok (g d) ρ4 ∧ wipeE ρ4 vs = wipeE ρ1 vs)) :
    eComp it b c e vs ρ = .ok (.lst ((ds.filter p).map g)) (backE ρ1 (wipeE ρ1 vs) vs) := by
  obtain ⟨ρ', e1, h1⟩ := compL_filt (acc := []) H rfl
  unfold eComp
  simp only [hi, hl, if_true, e1, h1, List.nil_append]
/-! powers of ten that the laws name -/
def E30 : Int := 10 ^ 30
def E60 : Int := 10 ^ 60
def E600 : Int := 10 ^ 600
theorem E30_eq : E30 = 1000000000000000000000000000000 := by decide +kernel
theorem E60_pos : E30 < E60 := by decide +kernel
theorem E600_pos : E60 < E600 := by decide +kernel
@[simp] theorem pw6 : powM (.int 10) (.int 6) = some (.int 1000000) := by
  show (if powOk 10 6 = true then some (D.int ((10 : Int) ^ (6 : Int).toNat)) else none) = _
  rw [if_pos (by decide +kernel)]
  rfl
@[simp] theorem pw30 : powM (.int 10) (.int 30) = some (.int E30) := by
  show (if powOk 10 30 = true then some (D.int ((10 : Int) ^ (30 : Int).toNat)) else none) = _
  rw [if_pos (by decide +kernel)]
  rfl
@[simp] theorem pw60 : powM (.int 10) (.int 60) = some (.int E60) := by
  show (if powOk 10 60 = true then some (D.int ((10 : Int) ^ (60 : Int).toNat)) else none) = _
  rw [if_pos (by decide +kernel)]
  rfl
@[simp] theorem pw600 : powM (.int E60) (.int 10) = some (.int E600) := by
  have h : powOk E60 10 = true := by decide +kernel
  have e : E60 ^ (10 : Int).toNat = E600 := by decide +kernel
  show (if powOk E60 10 = true then some (D.int (E60 ^ (10 : Int).toNat)) else none) = _
  rw [if_pos h, e]
end MB

/-! Cells: what they hold at this moment; new ones. -/
namespace MB
open PySem PySem.Spec PyProof.Rows L2
/-- a value as it stands at this moment: data, or a cell's content -/
inductive LV (K : Kw) (O : Ow) (H : Hp) : V → D → Prop
  | dat {v : V} {d : D} : DV K (wo O H) v d → LV K O H v d
  | lst {a : Addr} {vs : List V} {ds : List D} : H a = some (.lst vs) → DVs K (wo O H) vs ds → LV K O H (.ref a) (.lst ds)
section
variable {K : Kw} {O : Ow} {H : Hp} {S : Store}
theorem LV.lst_of {v : V} {ds : List D} (h : LV K O H v (.lst ds)) : ∃ a vs, v = .ref a ∧ H a = some (.lst vs) ∧ DVs K (wo O H) vs ds := by
  cases h with
  | dat h =>
    obtain ⟨a, vs, e, s, t⟩ := h.lst_of
    exact ⟨a, vs, e, wo_same O H _ _ s, t⟩
  | lst s t => exact ⟨_, _, rfl, s, t⟩
theorem LV.tup_of {v : V} {ds : List D} (h : LV K O H v (.tup ds)) : ∃ a vs, v = .ref a ∧ SqT K.K (wo O H).h a vs ∧ DVs K (wo O H) vs ds := by
  cases h with
  | dat h => exact h.tup_of
theorem LV.tup_ofB {v : V} {ds : List D} (h : LV K O H v (.tup ds)) : DV K (wo O H) v (.tup ds) := by
  cases h with
  | dat h => exact h
theorem LV.int_of {v : V} {i : Int} (h : LV K O H v (.int i)) : v = .int i := by
  cases h with
  | dat h => exact h.int_of
theorem LV.str_of {v : V} {i : Str} (h : LV K O H v (.str i)) : v = .str i := by
  cases h with
  | dat h => exact h.str_of
theorem LV.bl_of {v : V} {i : Bool} (h : LV K O H v (.bl i)) : v = .bl i := by
  cases h with
  | dat h => exact h.bl_of
theorem LV.scr_of {v : V} {ns : List Int} (h : LV K O H v (.scr ns)) : DV K (wo O H) v (.scr ns) := by
  cases h with
  | dat h => exact h
/-- a cell's value: its address, what stands there -/
theorem Ce.get (r : Ce K O S H) {v : V} {n : Nat} {c : Cn} (h : DV K (wo O H) v (.ce n)) (e : S[n]? = some (some c)) : ∃ a o, v = .ref a ∧ O.th[n]? = some a ∧ H a = some o ∧ CnOk K (wo O H) a o c := by
  cases h with
  | ce q =>
    obtain ⟨o, e1, e2⟩ := r.ce n c _ e q
    exact ⟨_, o, rfl, q, e1, e2⟩
def see1 (S : Store) : D → D
  | .ce k => match S[k]? with
    | some (some (.lst ds)) => .lst ds
    | _ => .ce k
  | d => d
theorem see1_lv (r : Ce K O S H) {v : V} {d : D} (h : DV K (wo O H) v d) : LV K O H v (see1 S d) := by
  cases d <;> (try exact .dat h)
  rename_i k
  have e0 : see1 S (.ce k) = match S[k]? with
    | some (some (.lst ds)) => .lst ds
    | _ => .ce k := rfl
  rw [e0]
  split
  · rename_i ds e
    obtain ⟨a, o, rfl, _, e1, vs, rfl, t⟩ := r.get h e
    exact .lst e1 t
  · exact .dat h
/-- seen through to the ground; n: how deep -/
def seeD (S : Store) : Nat → D → D
  | 0, d => d
  | n + 1, .ce k => match S[k]? with
    | some (some (.lst ds)) => .lst (ds.map (seeD S n))
    | _ => .ce k
  | n + 1, .tup ds => .tup (ds.map (seeD S n))
  | n + 1, .lst ds => .lst (ds.map (seeD S n))
  | _ + 1, d => d
theorem dvs_map {z : Fz} {f : D → D} (hf : ∀ v d, DV K (wo O H) v d → DV K z v (f d)) : ∀ {vs : List V} {ds : List D}, DVs K (wo O H) vs ds → DVs K z vs (ds.map f)
  | _, _, .nil => .nil
  | _, _, .cons a t => .cons (hf _ _ a) (dvs_map hf t)
theorem see_al (r : Ce K O S H) : ∀ (n : Nat) (v : V) (d : D), DV K (wo O H) v d → DV K (al O H) v (seeD S n d)
  | 0, v, d, h => DV.mono (wo_al O H) _ _ h
  | n + 1, v, d, h => by
    cases d with
    | ce k =>
      show DV K (al O H) v (match S[k]? with
        | some (some (.lst ds)) => .lst (ds.map (seeD S n))
            | _ => .ce k)
      split
      · rename_i ds e
        obtain ⟨a, o, rfl, _, e1, vs, rfl, t⟩ := r.get h e
        exact .lst e1 (dvs_map (see_al r n) t)
      · exact DV.mono (wo_al O H) _ _ h
    | tup ds =>
      cases h with
      | tup a t => exact .tup (a.mono (wo_same O H)) (dvs_map (see_al r n) t)
    | lst ds =>
      cases h with
      | lst a t => exact .lst (wo_same O H _ _ a) (dvs_map (see_al r n) t)
    | _ => exact DV.mono (wo_al O H) _ _ h
theorem al_wo (O : Ow) (H : Hp) : wo ⟨O.th, [], []⟩ H = al O H := by
  unfold wo al
  congr 1
def scal : D → Bool
  | .non => true | .bl _ => true | .int _ => true | .str _ => true | _ => false
theorem scal_any {z z' : Fz} {v : V} {d : D} (s : scal d = true) (h : DV K z v d) : DV K z' v d := by
  cases d <;> (try (cases s; done)) <;> cases h <;> constructor
end
/-! ### answers that are no things: over all that stands -/
def eBs (n : Nat) (op : D → D → Option D) (fa fb : EX) : EX := fun ρ => (fa ρ).bind fun d ρ1 => (fb ρ1).bind fun e ρ2 => match op (seeD ρ2.st n d) (seeD ρ2.st n e) with
  | some z => if scal z = true then .ok z ρ2 else .stuck
  | none => .stuck
theorem op2_al {K : Kw} {r : R2} {op : D → D → Option D} (ho : Op2 K r op) {O : Ow} {S : Store} {H : Hp} {x y : V} {d e z : D} {n : Nat} {Q : VK} (c : Ce K O S H) (hx : DV K (wo O H) x d) (hy : DV K (wo O H) y e) (q : op (seeD S n d) (seeD S n e) = some z) (sc : scal z = true)
    (hq : ∀ v H', Same H H' → DV K (wo O H') v z → Q v H') : r x y H Q := by
  refine ho ⟨O.th, [], []⟩ H x y _ _ z Q (fun a m => absurd (show a ∈ ([] : List Addr) from m) List.not_mem_nil) ?_ ?_ q fun v H' s dv => hq v H' s (scal_any sc dv)
  · rw [al_wo]; exact see_al c n _ _ hx
  · rw [al_wo]; exact see_al c n _ _ hy
theorem t_op2s {K : Kw} {hx : Hx} {W : WX} {r : R2} {op : D → D → Option D} {n : Nat} (ho : Op2 K r op) {fa fb : EX} {σ : MB.St} {H : Hp} {Q : VK} (h : tX K hx W (eBs n op fa fb) σ H Q) : tOp r (tX K hx W fa) (tX K hx W fb) σ H Q := by
  obtain ⟨F, ρ, ⟨O, r0⟩, hp⟩ := h
  refine bindX r0 hp fun d ρ1 v H1 O1 r1 s1 dv hp1 => ?_
  refine bindX r1 hp1 fun e ρ2 u H2 O2 r2 s2 du hp2 => ?_
  cases q : op (seeD ρ2.st n d) (seeD ρ2.st n e) with
  | none =>
    rw [q] at hp2
    exact hp2.elim
  | some z =>
    rw [q] at hp2
    have hp3 : Po K hx F W σ (if scal z = true then .ok z ρ2 else .stuck) Q := hp2
    split at hp3
    · rename_i sc
      exact op2_al ho r2.ce (DV.mono s2 _ _ dv) du q sc fun v' H' s' dv' => hp3 v' H' ⟨O2, r2.grow s', dv'⟩
    · exact hp3.elim
theorem t_op2sT {K : Kw} {hx : Hx} {W : WX} {r : R2} {op : D → D → Option D} {n : Nat} (ho : Op2 K r op) (hb : ∀ d e z, op d e = some z → ∃ b, z = .bl b) {fa fb : EX} {σ : MB.St} {H : Hp} {Q : Bool → Hp → Prop} (h : tT K hx W (eBs n op fa fb) σ H Q) :
    tTest (tOp r (tX K hx W fa) (tX K hx W fb)) σ H Q := by
  obtain ⟨F, ρ, ⟨O, r0⟩, hp⟩ := h
  refine bindXT r0 hp fun d ρ1 v H1 O1 r1 s1 dv hp1 => ?_
  refine bindXT r1 hp1 fun e ρ2 u H2 O2 r2 s2 du hp2 => ?_
  cases q : op (seeD ρ2.st n d) (seeD ρ2.st n e) with
  | none =>
    rw [q] at hp2
    exact hp2.elim
  | some z =>
    rw [q] at hp2
    obtain ⟨b, rfl⟩ := hb _ _ z q
    refine op2_al ho r2.ce (DV.mono s2 _ _ dv) du q rfl fun v' H' s' dv' => ?_
    cases dv'
    obtain ⟨b', hb', k⟩ := (show PoT K hx F W σ (.ok (.bl b) ρ2) Q from hp2)
    cases hb'
    exact ⟨b, rfl, k H' ⟨O2, r2.grow s'⟩⟩
def eCalls (n : Nat) (f : List D → Option D) (fs : List EX) : EX := evs fs fun ds ρ => match f (ds.map (seeD ρ.st n)) with
  | some d => if scal d = true then .ok d ρ else .stuck
  | none => .stuck
section
variable {X : Cx} {hx : Hx} {W : WX} {a b : Expr} {fa fb : EX} {pos : Pos} {n : Nat}
theorem rs_bin {op : Operator} {r : R2} {f : D → D → Option D} (ho : OpR X (binaryOp op) r) (h2 : Op2 X.kw r f) (ha : PE X a (tX X.kw hx W fa)) (hb : PE X b (tX X.kw hx W fb)) : PE X (.BinOp a op b pos) (tX X.kw hx W (eBs n f fa fb)) :=
  (pe_op ho ha hb).imp fun _ _ _ h => t_op2s h2 h
theorem rs_cmp {op : CmpOp} {r : R2} {f : D → D → Option D} (ho : OpR X (compareOp op) r) (h2 : Op2 X.kw r f) (ha : PE X a (tX X.kw hx W fa)) (hb : PE X b (tX X.kw hx W fb)) (hm : behindInMarks op b = false) : PE X (.Compare a [op] [b] pos) (tX X.kw hx W (eBs n f fa fb)) :=
  (pe_cmpR ho ha hb hm).imp fun _ _ _ h => t_op2s h2 h
theorem rs_cmpT {op : CmpOp} {r : R2} {f : D → D → Option D} (ho : OpR X (compareOp op) r) (h2 : Op2 X.kw r f) (hbl : ∀ d e z, f d e = some z → ∃ b, z = .bl b) (ha : PE X a (tX X.kw hx W fa)) (hb : PE X b (tX X.kw hx W fb)) (hm : behindInMarks op b = false) :
    PT X (.Compare a [op] [b] pos) (tT X.kw hx W (eBs n f fa fb)) :=
  (pt_cmpR ho ha hb hm).imp fun _ _ _ h => t_op2sT h2 hbl h
end
section
variable {X : Cx} {hx : Hx} {W : WX} {e : Expr} {es : List Expr} {fs : List EX} {pos p : Pos} {x : Str} {r : List V → Hp → VK → Prop} {f : List D → Option D} {n : Nat}
theorem t_calls (hf : CallD X.kw r f) {σ : MB.St} {H : Hp} {Q : VK} (h : tX X.kw hx W (eCalls n f fs) σ H Q) : tCB r (tA X.kw hx W fs) σ H Q := by
  obtain ⟨F, ρ, ⟨O, r0⟩, hp⟩ := h
  refine tA_of r0 hp fun F1 ds ρ1 vs H1 O1 _ r1 dvs q => ?_
  cases e : f (ds.map (seeD ρ1.st n)) with
  | none => rw [e] at q; exact q.elim
  | some d =>
    rw [e] at q
    have q2 : Po X.kw hx F1 W σ (if scal d = true then .ok d ρ1 else .stuck) Q := q
    split at q2
    · rename_i sc
      refine hf ⟨O1.th, [], []⟩ H1 vs _ d Q (fun a m => absurd (show a ∈ ([] : List Addr) from m) List.not_mem_nil) ?_ e fun v' H' s' dv' => q2 v' H' ⟨O1, r1.grow s', scal_any sc dv'⟩
      rw [al_wo]
      exact dvs_map (see_al r1.ce n) dvs
    · exact q2.elim
theorem rs_callB {id : String} (hc : CallR X (.builtin id) r) (hf : CallD X.kw r f) (hm : X.mg x = none) (hv : bootBuiltins x = some (.builtin id)) (ha : PA X (e :: es) (tA X.kw hx W fs)) (hg : Gl X x := by rfl) (hn : x ≠ "__name__" := by decide) (hdb : (x == ("__debug__" : Str)) = false := by decide)
    (he : starEach (e :: es) X.env = (false, eval e X.env) :: starEach es X.env := by rfl) (hpl : (backTo pos (starEach es X.env)).any (·.1) = false := by rfl) : PE X (.Call (.Name x p) (e :: es) [] pos) (tX X.kw hx W (eCalls n f fs)) :=
  (pe_callB hc hg hm hv ha hn hdb he hpl).imp fun _ _ _ h => t_calls hf h
end
/-- a test: a list's, a cell's truth -/
def eSee (n : Nat) (f : EX) : EX := fun ρ => (f ρ).bind fun d ρ1 => match truth (seeD ρ1.st n d) with
  | some b => .ok (.bl b) ρ1
  | none => .stuck
theorem rs_tru {X : Cx} {hx : Hx} {W : WX} {a : Expr} {fa : EX} {n : Nat} (ha : PE X a (tX X.kw hx W fa)) (he : ∀ whole, isTrue a X.env whole = (do let v ← whole; standAt a.pos; holding [v] (truthy v)) := by intro _; rfl) : PT X a (tT X.kw hx W (eSee n fa)) :=
  (pt_truth ha he).imp fun σ H Q h => by
    obtain ⟨F, ρ, ⟨O, r⟩, hp⟩ := h
    refine bindXT r hp fun d ρ1 v H1 O1 r1 s1 dv q => ?_
    cases e : truth (seeD ρ1.st n d) with
    | none => rw [e] at q; exact q.elim
    | some b =>
      rw [e] at q
      obtain ⟨b', hb', k⟩ := (show PoT X.kw hx F W σ (.ok (.bl b) ρ1) Q from q)
      cases hb'
      exact ⟨b, truV_of (see_al r1.ce n _ _ dv) e, k H1 ⟨O1, r1⟩⟩
/-! ### a new cell; a cell that is given up -/
section
variable {K : Kw} {hx : Hx} {F : Fm} {ρ : En} {σ : MB.St} {H : Hp} {O : Ow}
theorem RO.newC (r : RO K hx F ρ σ H O) {p : Addr} {o : HO} {c : Cn} (n : H p = none) (h : CnOk K ⟨(wo O H).h, O.th ++ [p]⟩ p o c) :
    ∃ O', RO K hx F ⟨ρ.sl, ρ.st ++ [some c]⟩ σ (upd H p o) O' ∧ DV K (wo O' (upd H p o)) (.ref p) (.ce ρ.st.length) ∧ FSame (wo O H) (wo O' (upd H p o)) := by
  obtain ⟨c1, s1⟩ := r.ce.new n h
  refine ⟨_, r.st s1 c1, .ce ?_, s1.fs⟩
  show (O.th ++ [p])[ρ.st.length]? = some p
  rw [r.ce.ln]
  simp
theorem RO.newL (r : RO K hx F ρ σ H O) {p : Addr} {vs : List V} {ds : List D} (n : H p = none) (h : DVs K (wo O H) vs ds) :
    ∃ O', RO K hx F ⟨ρ.sl, ρ.st ++ [some (.lst ds)]⟩ σ (upd H p (.lst vs)) O' ∧ DV K (wo O' (upd H p (.lst vs))) (.ref p) (.ce ρ.st.length) := by
  have fs : FSame (wo O H) ⟨(wo O H).h, O.th ++ [p]⟩ := ⟨Same.refl _, List.prefix_append _ _⟩
  obtain ⟨O', h1, h2, _⟩ := r.newC (c := .lst ds) (o := .lst vs) n ⟨vs, rfl, DVs.mono fs _ _ h⟩
  exact ⟨O', h1, h2⟩
theorem RO.wrC (r : RO K hx F ρ σ H O) {n : Nat} {c0 c : Cn} {a : Addr} {o : HO} (e1 : ρ.st[n]? = some (some c0)) (e2 : O.th[n]? = some a) (h : CnOk K (wo O H) a o c) :
    RO K hx F ⟨ρ.sl, ρ.st.set n (some c)⟩ σ (upd H a o) O ∧ FSame (wo O H) (wo O (upd H a o)) := by
  obtain ⟨c1, s1⟩ := r.ce.wr e1 e2 h
  exact ⟨r.st s1 c1, s1.fs⟩
end
/-- what an operation hands back: a value, or a new list -/
inductive Oc where
  | val (d : D) | new (ds : List D)
def OcP (K : Kw) (O : Ow) (H : Hp) (Q : VK) : Oc → Prop
  | .val d => ∀ v H', Same H H' → DV K (wo O H') v d → Q v H'
  | .new ds => ∀ p vs, H p = none → DVs K (wo O H) vs ds → Q (.ref p) (upd H p (.lst vs))
/-- m: may the new list be changed later -/
def outF (m : Bool) : Oc → En → Rs
  | .val d, ρ => .ok d ρ
  | .new ds, ρ => if m = true then .ok (.ce ρ.st.length) ⟨ρ.sl, ρ.st ++ [some (.lst ds)]⟩ else .ok (.lst ds) ρ
theorem ocP_of {K : Kw} {hx : Hx} {F : Fm} {W : WX} {ρ : En} {σ : MB.St} {H : Hp} {O : Ow} {Q : VK} {m : Bool} {z : Oc} (r : RO K hx F ρ σ H O) (hp : Po K hx F W σ (outF m z ρ) Q) : OcP K O H Q z := by
  cases z with
  | val d => exact fun v H' s dv => hp v H' ⟨O, r.grow s, dv⟩
  | new ds =>
    intro p vs np dvs
    cases m with
    | false => exact hp _ _ ⟨O, r.grow (same_upd np), DV.newL r.dom np dvs⟩
    | true =>
      obtain ⟨O', r', dv'⟩ := r.newL np dvs
      exact hp _ _ ⟨O', r', dv'⟩
def Op2F (K : Kw) (r : R2) (op : D → D → Option Oc) : Prop := ∀ (O : Ow) (H : Hp) (x y : V) (d e : D) (res : Oc) (Q : VK), (∀ a ∈ O, ∃ o, H a = some o) → LV K O H x d → LV K O H y e → op d e = some res → OcP K O H Q res → r x y H Q
def eBF (m : Bool) (op : D → D → Option Oc) (fa fb : EX) : EX := fun ρ => (fa ρ).bind fun d ρ1 => (fb ρ1).bind fun e ρ2 => match op (see1 ρ2.st d) (see1 ρ2.st e) with
  | some z => outF m z ρ2
  | none => .stuck
theorem t_op2F {K : Kw} {hx : Hx} {W : WX} {r : R2} {m : Bool} {op : D → D → Option Oc} (ho : Op2F K r op) {fa fb : EX} {σ : MB.St} {H : Hp} {Q : VK} (h : tX K hx W (eBF m op fa fb) σ H Q) : tOp r (tX K hx W fa) (tX K hx W fb) σ H Q := by
  obtain ⟨F, ρ, ⟨O, r0⟩, hp⟩ := h
  refine bindX r0 hp fun d ρ1 v H1 O1 r1 s1 dv hp1 => ?_
  refine bindX r1 hp1 fun e ρ2 u H2 O2 r2 s2 du hp2 => ?_
  cases q : op (see1 ρ2.st d) (see1 ρ2.st e) with
  | none =>
    rw [q] at hp2
    exact hp2.elim
  | some z =>
    rw [q] at hp2
    exact ho O2 H2 v u _ _ z Q r2.dom (see1_lv r2.ce (DV.mono s2 _ _ dv)) (see1_lv r2.ce du) q (ocP_of r2 hp2)
def CallF (K : Kw) (r : List V → Hp → VK → Prop) (f : D → Option Oc) : Prop := ∀ (O : Ow) (H : Hp) (v : V) (d : D) (res : Oc) (Q : VK), (∀ a ∈ O, ∃ o, H a = some o) → LV K O H v d → f d = some res → OcP K O H Q res → r [v] H Q
/-- a built-in of one argument -/
def eCallF (m : Bool) (f : D → Option Oc) (fa : EX) : EX := evs [fa] fun ds ρ => match ds with
  | [d] => match f (see1 ρ.st d) with
    | some z => outF m z ρ
    | none => .stuck
  | _ => .stuck
section
variable {X : Cx} {hx : Hx} {W : WX} {e : Expr} {fa : EX} {pos p : Pos} {x : Str} {r : List V → Hp → VK → Prop} {f : D → Option Oc} {m : Bool}
theorem t_callF (hf : CallF X.kw r f) {σ : MB.St} {H : Hp} {Q : VK} (h : tX X.kw hx W (eCallF m f fa) σ H Q) : tCB r (tA X.kw hx W [fa]) σ H Q := by
  obtain ⟨F, ρ, ⟨O, r0⟩, hp⟩ := h
  refine tA_of r0 hp fun F1 ds ρ1 vs H1 O1 ln r1 dvs q => ?_
  match ds, ln with
  | [d], _ =>
    obtain ⟨v, rfl, dv⟩ := dvs.one
    cases e : f (see1 ρ1.st d) with
    | none => simp only [e] at q; exact q.elim
    | some z =>
      simp only [e] at q
      exact hf O1 H1 v _ z Q r1.dom (see1_lv r1.ce dv) e (ocP_of r1 q)
theorem rf_callB {id : String} (hc : CallR X (.builtin id) r) (hf : CallF X.kw r f) (hm : X.mg x = none) (hv : bootBuiltins x = some (.builtin id)) (ha : PA X [e] (tA X.kw hx W [fa])) (hg : Gl X x := by rfl) (hn : x ≠ "__name__" := by decide) (hdb : (x == ("__debug__" : Str)) = false := by decide)
    (he : starEach [e] X.env = (false, eval e X.env) :: starEach [] X.env := by rfl) (hpl : (backTo pos (starEach [] X.env)).any (·.1) = false := by rfl) : PE X (.Call (.Name x p) [e] [] pos) (tX X.kw hx W (eCallF m f fa)) :=
  (pe_callB hc hg hm hv ha hn hdb he hpl).imp fun _ _ _ h => t_callF hf h
theorem rf_callTy {T : String} (hc : CallR X (.type T) r) (hf : CallF X.kw r f) (hm : X.mg x = none) (hv : bootBuiltins x = some (.type T)) (ha : PA X [e] (tA X.kw hx W [fa])) (hg : Gl X x := by rfl) (hn : x ≠ "__name__" := by decide) (hdb : (x == ("__debug__" : Str)) = false := by decide)
    (he : starEach [e] X.env = (false, eval e X.env) :: starEach [] X.env := by rfl) (hpl : (backTo pos (starEach [] X.env)).any (·.1) = false := by rfl) : PE X (.Call (.Name x p) [e] [] pos) (tX X.kw hx W (eCallF m f fa)) :=
  (pe_callTy hc hg hm hv ha hn hdb he hpl).imp fun _ _ _ h => t_callF hf h
end
/-! ### the operations -/
def addF : D → D → Option Oc
  | .lst xs, .lst ys => if xs.length + ys.length ≤ sizeLine then some (.new (xs ++ ys)) else none
  | d, e => (addD d e).map .val
theorem s_addF {K : Kw} : Op2F K (rAddD K.K) addF := by
  intro O H x y d e res Q hd hx hy h q
  have data : ∀ z, addD d e = some z → res = .val z → DV K (wo O H) x d → DV K (wo O H) y e → rAddD K.K x y H Q := fun z e1 e2 hx hy => by
    subst e2
    exact s_add O H x y d e z Q hd hx hy e1 q
  cases d <;> cases e <;> (try (cases h; done))
  · rename_i i j
    obtain ⟨z, e1, e2⟩ := Option.map_eq_some_iff.mp (show (addD (.int i) (.int j)).map Oc.val = some res from h)
    exact data z e1 e2.symm (by cases hx; assumption) (by cases hy; assumption)
  · rename_i i j
    obtain ⟨z, e1, e2⟩ := Option.map_eq_some_iff.mp (show (addD (.str i) (.str j)).map Oc.val = some res from h)
    exact data z e1 e2.symm (by cases hx; assumption) (by cases hy; assumption)
  · rename_i i j
    obtain ⟨z, e1, e2⟩ := Option.map_eq_some_iff.mp (show (addD (.tup i) (.tup j)).map Oc.val = some res from h)
    exact data z e1 e2.symm (by cases hx; assumption) (by cases hy; assumption)
  · rename_i xs ys
    have h' : (if xs.length + ys.length ≤ sizeLine then some (Oc.new (xs ++ ys)) else none) = some res := h
    split at h'
    · cases h'
      rename_i hl
      obtain ⟨a, vs, rfl, sa, da⟩ := hx.lst_of
      obtain ⟨b, ws, rfl, sb, db⟩ := hy.lst_of
      have la := da.length
      have lb := db.length
      exact .inr (.inr (.inl ⟨a, b, vs, ws, rfl, rfl, sa, sb, by omega, fun p np => q p _ np (da.append db)⟩))
    · cases h'
def mulF : D → D → Option Oc
  | .lst xs, .int k => if (-(2 ^ 63) ≤ k ∧ k < 2 ^ 63) ∧ xs.length * k.toNat ≤ sizeLine then some (.new (List.replicate k.toNat xs).flatten) else none
  | d, e => (mulD d e).map .val
theorem s_mulF {K : Kw} : Op2F K rMulD mulF := by
  intro O H x y d e res Q hd hx hy h q
  have data : ∀ z, mulD d e = some z → res = .val z → DV K (wo O H) x d → DV K (wo O H) y e → rMulD x y H Q := fun z e1 e2 hx hy => by
    subst e2
    exact s_mul O H x y d e z Q hd hx hy e1 q
  cases d <;> cases e <;> (try (cases h; done))
  · rename_i i j
    obtain ⟨z, e1, e2⟩ := Option.map_eq_some_iff.mp (show (mulD (.int i) (.int j)).map Oc.val = some res from h)
    exact data z e1 e2.symm (by cases hx; assumption) (by cases hy; assumption)
  · rename_i xs k
    have h' : (if (-(2 ^ 63) ≤ k ∧ k < 2 ^ 63) ∧ xs.length * k.toNat ≤ sizeLine then some (Oc.new (List.replicate k.toNat xs).flatten) else none) = some res := h
    split at h'
    · cases h'
      rename_i hl
      obtain ⟨a, vs, rfl, sa, da⟩ := hx.lst_of
      cases hy.int_of
      have la := da.length
      refine .inr (.inr ?_)
      exact ⟨a, k, vs, rfl, rfl, sa, hl.1.1, hl.1.2, by rw [la]; exact hl.2, fun p np => q p _ np (flat_rep da _)⟩
    · cases h'
def ixF : D → D → Option Oc := fun d e => (ixD d e).map .val
theorem s_ixF {K : Kw} : Op2F K (rIx K.K) ixF := by
  intro O H x y d e res Q hd hx hy h q
  obtain ⟨z, e1, rfl⟩ := Option.map_eq_some_iff.mp (show (ixD d e).map Oc.val = some res from h)
  cases hx with
  | dat hx =>
    cases e <;> (try (cases d <;> cases e1; done))
    exact s_ix O H x y d _ z Q hd hx (by cases hy; assumption) e1 q
  | lst s t =>
    cases e <;> (try (cases e1; done))
    rename_i i
    cases hy.int_of
    obtain ⟨v, e2, dv⟩ := atI_dvs t e1
    exact .inl ⟨_, _, i, v, rfl, rfl, .of s, e2, q _ H (Same.refl H) dv⟩
def listF : D → Option Oc
  | .lst xs => some (.new xs)
  | .tup xs => some (.new xs)
  | _ => none
theorem s_listF {K : Kw} : CallF K (fun xs H Q => ∃ p ys, xs = [.ref p] ∧ (SqL K.K H p ys ∨ SqT K.K H p ys) ∧ ∀ l, H l = none → Q (.ref l) (upd H l (.lst ys))) listF := by
  intro O H v d res Q hd hv h q
  cases d <;> (try (cases h; done))
  · cases h
    obtain ⟨a, ws, rfl, s, t⟩ := hv.tup_of
    exact ⟨a, ws, rfl, .inr (sqT_mono (wo_same O H) s), fun l nl => q l _ nl t⟩
  · cases h
    obtain ⟨a, ws, rfl, s, t⟩ := hv.lst_of
    exact ⟨a, ws, rfl, .inl (.of s), fun l nl => q l _ nl t⟩
def tupleF : D → Option Oc
  | .lst xs => some (.val (.tup xs))
  | .tup xs => some (.val (.tup xs))
  | _ => none
theorem s_tupleF {K : Kw} : CallF K (rTupB K.K) tupleF := by
  intro O H v d res Q hd hv h q
  cases d <;> (try (cases h; done))
  · cases h
    obtain ⟨a, ws, rfl, s, t⟩ := id hv.tup_of
    exact ⟨a, ws, rfl, .inr ⟨sqT_mono (wo_same O H) s, q _ H (Same.refl H) hv.tup_ofB⟩⟩
  · cases h
    obtain ⟨a, ws, rfl, s, t⟩ := hv.lst_of
    exact ⟨a, ws, rfl, .inl ⟨.of s, fun l ob nl nd => q _ _ (same_upd nl) (DV.newB hd nl nd t)⟩⟩
def sortedF : D → Option Oc
  | .lst xs => (asInts xs).map fun ns => .new ((sortI ns).map .int)
  | _ => none
theorem s_sortedF {K : Kw} : CallF K (rSortedI K.K) sortedF := by
  intro O H v d res Q hd hv h q
  cases d <;> (try (cases h; done))
  rename_i xs
  obtain ⟨ns, e1, rfl⟩ := Option.map_eq_some_iff.mp (show (asInts xs).map (fun ns => Oc.new ((sortI ns).map .int)) = some res from h)
  have e := asInts_ok e1
  subst e
  obtain ⟨a, ws, rfl, s, t⟩ := hv.lst_of
  have ew := t.ints
  subst ew
  refine ⟨a, ns, rfl, .of s, fun ns' p p1 p2 np => ?_⟩
  have e : ns' = sortI ns := sort_unique (p1.trans (sortI_perm ns).symm) p2 (sortI_sorted ns)
  subst e
  exact q p _ np (DVs.of_ints _)
/-- a slice -/
def slF : D → Option Int → Option Int → Option Oc
  | .lst xs, lo, hi => some (.new (cutD xs lo hi))
  | .scr ns, lo, hi => some (.new ((cutD ns lo hi).map .int))
  | d, lo, hi => (slD d lo hi).map .val
theorem s_slF {K : Kw} {O : Ow} {H : Hp} {x : V} {d : D} {res : Oc} {lo hi : Option Int} {Q : VK} (hd : ∀ a ∈ O, ∃ o, H a = some o) (hx : LV K O H x d) (h : slF d lo hi = some res) (q : OcP K O H Q res) : rSlM K.K x lo hi H Q := by
  cases d <;> (try (cases h; done))
  · rename_i i
    obtain ⟨z, e1, rfl⟩ := Option.map_eq_some_iff.mp (show (slD (.str i) lo hi).map Oc.val = some res from h)
    exact s_sl hd (by cases hx; assumption) e1 q
  · rename_i i
    obtain ⟨z, e1, rfl⟩ := Option.map_eq_some_iff.mp (show (slD (.tup i) lo hi).map Oc.val = some res from h)
    exact s_sl hd (by cases hx; assumption) e1 q
  · cases h
    obtain ⟨a, vs, rfl, s, t⟩ := hx.lst_of
    exact .inr (.inl ⟨a, vs, rfl, .of s, fun p np => q p _ np (t.cut lo hi)⟩)
  · cases h
    cases hx.scr_of with
    | scr s =>
      refine .inr (.inl ⟨_, _, rfl, (wo_same O H).seq s, fun p np => q p _ np ?_⟩)
      rename_i ns a
      have e : cutV (ns.map V.int) lo hi = (cutD ns lo hi).map V.int := cut_map V.int ns lo hi
      rw [e]
      exact DVs.of_ints _
def eSlF (m : Bool) (fa : EX) (lo hi : Option EX) : EX := fun ρ => (fa ρ).bind fun d ρ1 => eOpt lo (fun l => eOpt hi fun h ρ3 => match slF (see1 ρ3.st d) l h with
  | some z => outF m z ρ3
  | none => .stuck) ρ1
section
variable {X : Cx} {hx : Hx} {W : WX} {a b : Expr} {es : List Expr} {fa fb : EX} {fs : List EX} {pos : Pos} {m : Bool}
theorem rf_bin {op : Operator} {r : R2} {f : D → D → Option Oc} (ho : OpR X (binaryOp op) r) (h2 : Op2F X.kw r f) (ha : PE X a (tX X.kw hx W fa)) (hb : PE X b (tX X.kw hx W fb)) : PE X (.BinOp a op b pos) (tX X.kw hx W (eBF m f fa fb)) :=
  (pe_op ho ha hb).imp fun _ _ _ h => t_op2F h2 h
theorem rf_ix (ha : PE X a (tX X.kw hx W fa)) (hb : PE X b (tX X.kw hx W fb)) (hs : PlainIx b := by first | (intro _ _; rfl) | exact fun _ _ => rfl) : PE X (.Subscript a b pos) (tX X.kw hx W (eBF m ixF fa fb)) :=
  (pe_ix ix_seq ha hb hs).imp fun _ _ _ h => t_op2F s_ixF h
theorem rf_sl {lo hi : Option Expr} {fl fh : Option EX} {p2 : Pos} (ha : PE X a (tX X.kw hx W fa)) (hl : PO' X hx W lo fl) (hh : PO' X hx W hi fh) : PE X (.Subscript a (.Slice lo hi none p2) pos) (tX X.kw hx W (eSlF m fa fl fh)) :=
  (pe_slice sl_M ha hl.po hh.po).imp fun σ H Q h => by
    obtain ⟨F, ρ, ⟨O, r⟩, hp⟩ := h
    refine bindX r hp fun d ρ1 v H1 O1 r1 s1 dv hp1 => ?_
    refine optX r1 hp1 fun l ρ2 H2 O2 r2 s2 hp2 => ?_
    refine optX r2 hp2 fun u ρ3 H3 O3 r3 s3 hp3 => ?_
    cases e : slF (see1 ρ3.st d) l u with
    | none => rw [e] at hp3; exact hp3.elim
    | some z =>
      rw [e] at hp3
      exact s_slF r3.dom (see1_lv r3.ce (DV.mono (s2.trans s3) _ _ dv)) e (ocP_of r3 hp3)
/-- [a, b, ..] that may be changed later -/
def eLstM (fs : List EX) : EX := evs fs fun ds ρ => if ds.length ≤ 1000 then .ok (.ce ρ.st.length) ⟨ρ.sl, ρ.st ++ [some (.lst ds)]⟩ else .stuck
theorem r_lstM (h : PA X es (tA X.kw hx W fs)) : PE X (.List es pos) (tX X.kw hx W (eLstM fs)) := (pe_lst h).imp fun σ H Q h => by
  obtain ⟨F, ρ, ⟨O, r⟩, hp⟩ := h
  refine tA_of r hp fun F1 ds ρ1 vs H1 O1 _ r1 dvs q => ?_
  split at q
  · rename_i hl
    refine ⟨le_line (by rw [dvs.length]; exact hl), fun p np => ?_⟩
    obtain ⟨O', r', dv'⟩ := r1.newL np dvs
    exact q _ _ ⟨O', r', dv'⟩
  · exact q.elim
end
end MB

/-! Cells: methods that change a list, places read and written. -/
namespace MB
open PySem PySem.Spec PyProof.Rows L2
/-! ### pairs -/
section
variable {κ : Type} [DecidableEq κ]
def getA {β : Type} : List (κ × β) → κ → Option β
  | [], _ => none
  | (j, d) :: r, k => if j = k then some d else getA r k
def setA {β : Type} : List (κ × β) → κ → β → List (κ × β)
  | [], _, _ => []
  | (j, d) :: r, k, e => (if j = k then (j, e) else (j, d)) :: setA r k e
def putA {β : Type} (kvs : List (κ × β)) (k : κ) (d : β) : List (κ × β) := match getA kvs k with
  | some _ => setA kvs k d
  | none => kvs ++ [(k, d)]
variable {K : Kw} {z : Fz}
theorem DA.length {κ : Type} {K : Kw} {z : Fz} : ∀ {vs : List (κ × V)} {ds : List (κ × D)}, DA K z vs ds → vs.length = ds.length
  | _, _, .nil => rfl
  | _, _, .cons _ t => by rw [List.length_cons, List.length_cons, t.length]
theorem DA.get {k : κ} : ∀ {vs : List (κ × V)} {ds : List (κ × D)}, DA K z vs ds → (∀ d, getA ds k = some d → ∃ v, valV vs k = some v ∧ DV K z v d) ∧ (getA ds k = none → valV vs k = none)
  | _, _, .nil => ⟨fun d e => (nomatch e), fun _ => rfl⟩
  | _, _, .cons (k := j) (v := v) (d := e) (vs := vs) (ds := ds) a t => by
    obtain ⟨h1, h2⟩ := DA.get (k := k) t
    have e0 : getA ((j, e) :: ds) k = if j = k then some e else getA ds k := rfl
    rw [e0]
    by_cases h : j = k
    · rw [if_pos h, valV_pos (p := (j, v)) h]
      exact ⟨fun d q => by cases q; exact ⟨v, rfl, a⟩, fun q => (nomatch q)⟩
    · rw [if_neg h, valV_neg (p := (j, v)) h]
      exact ⟨h1, h2⟩
theorem DA.some {k : κ} {vs : List (κ × V)} {ds : List (κ × D)} {d : D} (h : DA K z vs ds) (e : getA ds k = some d) : ∃ v, valV vs k = some v ∧ DV K z v d := (h.get (k := k)).1 d e
theorem DA.none {k : κ} {vs : List (κ × V)} {ds : List (κ × D)} (h : DA K z vs ds) (e : getA ds k = none) : valV vs k = none := (h.get (k := k)).2 e
theorem DA.isSome {k : κ} {vs : List (κ × V)} {ds : List (κ × D)} (h : DA K z vs ds) : (valV vs k).isSome = (getA ds k).isSome := by
  cases e : getA ds k with
  | none => rw [h.none e]; rfl
  | some d =>
    obtain ⟨v, e1, _⟩ := h.some e
    rw [e1]
    rfl
theorem DA.setA {k : κ} {v : V} {d : D} (a : DV K z v d) : ∀ {vs : List (κ × V)} {ds : List (κ × D)}, DA K z vs ds → DA K z (vs.map fun kv => if kv.1 = k then (kv.1, v) else kv) (setA ds k d)
  | _, _, .nil => .nil
  | _, _, .cons (k := j) (v := w) (d := e) b t => by
    rw [List.map_cons]
    show DA K z ((if j = k then (j, v) else (j, w)) :: _) ((if j = k then (j, d) else (j, e)) :: _)
    by_cases h : j = k
    · rw [if_pos h, if_pos h]
      exact .cons a (DA.setA a t)
    · rw [if_neg h, if_neg h]
      exact .cons b (DA.setA a t)
theorem DA.app {κ : Type} {K : Kw} {z : Fz} {k : κ} {v : V} {d : D} (a : DV K z v d) : ∀ {vs : List (κ × V)} {ds : List (κ × D)}, DA K z vs ds → DA K z (vs ++ [(k, v)]) (ds ++ [(k, d)])
  | _, _, .nil => .cons a .nil
  | _, _, .cons b t => .cons b (DA.app a t)
theorem DA.put {k : κ} {v : V} {d : D} {vs : List (κ × V)} {ds : List (κ × D)} (h : DA K z vs ds) (a : DV K z v d) : DA K z (putK vs k v) (putA ds k d) := by
  unfold putK putA
  rw [valV_any, h.isSome]
  cases e : getA ds k with
  | none => exact h.app a
  | some x => exact h.setA a
end
/-- a list that may be changed -/
def lstAt (S : Store) : D → Option (Nat × List D)
  | .ce n => match S[n]? with
    | some (some (.lst ds)) => some (n, ds)
    | _ => none
  | _ => none
def dctAt (S : Store) : D → Option (Nat × List (L2.Key × D))
  | .ce n => match S[n]? with
    | some (some (.dct kvs)) => some (n, kvs)
    | _ => none
  | _ => none
section
variable {K : Kw} {O : Ow} {H : Hp} {S : Store}
theorem Ce.lstAt (r : Ce K O S H) {v : V} {d : D} {n : Nat} {ds : List D} (h : DV K (wo O H) v d) (e : lstAt S d = some (n, ds)) :
    S[n]? = some (some (.lst ds)) ∧ ∃ a vs, v = .ref a ∧ O.th[n]? = some a ∧ H a = some (.lst vs) ∧ DVs K (wo O H) vs ds := by
  cases d <;> (try (cases e; done))
  rename_i k
  have e1 : (match S[k]? with
    | some (some (.lst ds)) => some (k, ds)
    | _ => none) = some (n, ds) := e
  split at e1
  · rename_i ds' q
    cases e1
    obtain ⟨a, o, rfl, h1, h2, vs, rfl, t⟩ := r.get h q
    exact ⟨q, a, vs, rfl, h1, h2, t⟩
  · cases e1
theorem Ce.dctAt (r : Ce K O S H) {v : V} {d : D} {n : Nat} {kvs : List (L2.Key × D)} (h : DV K (wo O H) v d) (e : dctAt S d = some (n, kvs)) :
    S[n]? = some (some (.dct kvs)) ∧ ∃ a vs, v = .ref a ∧ O.th[n]? = some a ∧ H a = some (.dK vs) ∧ DA K (wo O H) vs kvs := by
  cases d <;> (try (cases e; done))
  rename_i k
  have e1 : (match S[k]? with
    | some (some (.dct kvs)) => some (k, kvs)
    | _ => none) = some (n, kvs) := e
  split at e1
  · rename_i ds' q
    cases e1
    obtain ⟨a, o, rfl, h1, h2, vs, rfl, t⟩ := r.get h q
    exact ⟨q, a, vs, rfl, h1, h2, t⟩
  · cases e1
end
/-! ### methods that change a list -/
def MutF (K : Kw) (r : V → List V → Hp → VK → Prop) (f : List D → List D → Option (D × List D)) : Prop := ∀ (O : Ow) (H : Hp) (a : Addr) (vs : List V) (ds : List D) (ws : List V) (es : List D) (res : D) (ds' : List D) (Q : VK),
  H a = some (.lst vs) → DVs K (wo O H) vs ds → DVs K (wo O H) ws es → f ds es = some (res, ds') → (∀ v vs', DV K (wo O H) v res → DVs K (wo O H) vs' ds' → Q v (upd H a (.lst vs'))) → r (.ref a) ws H Q
def eMut (f : List D → List D → Option (D × List D)) (fo : EX) (fs : List EX) : EX := fun ρ => (fo ρ).bind fun d ρ1 => match lstAt ρ1.st d with
  | some _ => evs fs (fun es ρ2 => match lstAt ρ2.st d with
    | some (n, ds) => match f ds es with
      | some (res, ds') => .ok res ⟨ρ2.sl, ρ2.st.set n (some (.lst ds'))⟩
      | none => .stuck
    | none => .stuck) ρ1
  | none => .stuck
theorem tA_of' {K : Kw} {hx : Hx} {W : WX} {fs : List EX} {F : Fm} {ρ : En} {σ : MB.St} {H : Hp} {O : Ow} {k : List D → En → Rs} {Q : VK} {Qa : List V → Hp → Prop} (r : RO K hx F ρ σ H O) (hp : Po K hx F W σ (evs fs k ρ) Q)
    (hk : ∀ (F1 : Fm) (ds : List D) (ρ1 : En) (vs : List V) (H1 : Hp) (O1 : Ow), ds.length = fs.length → FSame (wo O H) (wo O1 H1) → RO K hx F1 ρ1 σ H1 O1 → DVs K (wo O1 H1) vs ds → Po K hx F1 W σ (k ds ρ1) Q → Qa vs H1) : tA K hx W fs σ H Qa :=
  ⟨⟨O, H⟩, ρ, k, Q, ⟨O, r.re⟩, hp.fr r.fr, fun F1 ds ρ1 vs H1 O1 ln s1 r1 d1 p1 => hk F1 ds ρ1 vs H1 O1 ln (s1.trans r1.fr).fs r1 d1 p1⟩
theorem mut_core {K : Kw} {hx : Hx} {W : WX} {r : V → List V → Hp → VK → Prop} {f : List D → List D → Option (D × List D)} (hf : MutF K r f) {fo : EX} {fs : List EX} {σ : MB.St} {H : Hp} {Q : VK} (h : tX K hx W (eMut f fo fs) σ H Q) :
    tX K hx W fo σ H fun x H1 => tyV K.K "list" x H1 ∧ tA K hx W fs σ H1 fun xs H2 => r x xs H2 Q := by
  obtain ⟨F, ρ, ⟨O, r0⟩, hp⟩ := h
  refine bindX r0 hp fun d ρ1 v H1 O1 r1 s1 dv hp1 => ?_
  cases e : lstAt ρ1.st d with
  | none => rw [e] at hp1; exact hp1.elim
  | some q =>
    obtain ⟨n, ds⟩ := q
    rw [e] at hp1
    obtain ⟨_, a, vs, rfl, _, h1, _⟩ := r1.ce.lstAt dv e
    refine ⟨.inl ⟨rfl, vs, .inl (.inl h1)⟩, ?_⟩
    refine tA_of' r1 hp1 fun F1 es ρ2 ws H2 O2 _ s2 r2 dvs hp2 => ?_
    have dv2 := DV.mono s2 _ _ dv
    cases e2 : lstAt ρ2.st d with
    | none => simp only [e2] at hp2; exact hp2.elim
    | some q2 =>
      obtain ⟨n2, ds2⟩ := q2
      simp only [e2] at hp2
      obtain ⟨hS, a2, vs2, ea, hth, h2, t2⟩ := r2.ce.lstAt dv2 e2
      cases ea
      cases e3 : f ds2 es with
      | none => simp only [e3] at hp2; exact hp2.elim
      | some q3 =>
        obtain ⟨res, ds'⟩ := q3
        simp only [e3] at hp2
        refine hf O2 H2 a vs2 ds2 ws es res ds' Q h2 t2 dvs e3 fun v vs' dres dvs' => ?_
        obtain ⟨r3, s3⟩ := r2.wrC (c := .lst ds') (o := .lst vs') hS hth ⟨vs', rfl, dvs'⟩
        exact hp2 v _ ⟨O2, r3, DV.mono s3 _ _ dres⟩
section
variable {X : Cx} {hx : Hx} {W : WX} {o e : Expr} {es : List Expr} {fo : EX} {fs : List EX} {apos cpos : Pos} {name : Str} {id : String} {r : V → List V → Hp → VK → Prop} {f : List D → List D → Option (D × List D)}
theorem r_mut (slot : PySem.Slot "list" name id) (hty : typeOf (.builtin id) = pure (.type "method_descriptor")) (hm : MtR X id r) (hf : MutF X.kw r f) (ho : PE X o (tX X.kw hx W fo)) (ha : PA X (e :: es) (tA X.kw hx W fs))
    (hbase : attributeBase o name X.env (eval o X.env) = eval o X.env := by rfl)
    (hfew : ((backTo cpos (starEach (e :: es) X.env)).all (fun x => !x.1) && (backToKw cpos (keywordEach [] X.env)).all (fun x => x.1.isSome) && decide ((e :: es).length + ([] : List Keyword).length + (if ([] : List Keyword).isEmpty then 0 else 1) < 30)) = true := by rfl)
    (hline : (apos.endLine == cpos.line) = true := by rfl) (hs : starEach (e :: es) X.env = (false, eval e X.env) :: starEach es X.env := by rfl) (hplain : (backTo cpos (starEach es X.env)).any (·.1) = false := by rfl) :
    PE X (.Call (.Attribute o name apos) (e :: es) [] cpos) (tX X.kw hx W (eMut f fo fs)) :=
  (pe_bm PySem.F.plainAttrs_list slot hty hm ho ha hbase hfew hline hs hplain).imp fun σ H Q h => mut_core hf h
theorem r_mut0 (slot : PySem.Slot "list" name id) (hty : typeOf (.builtin id) = pure (.type "method_descriptor")) (hm : MtR X id r) (hf : MutF X.kw r f) (ho : PE X o (tX X.kw hx W fo))
    (hbase : attributeBase o name X.env (eval o X.env) = eval o X.env := by rfl) (hline : (apos.endLine == cpos.line) = true := by rfl) :
    PE X (.Call (.Attribute o name apos) [] [] cpos) (tX X.kw hx W (eMut f fo [])) :=
  (pe_bm0 PySem.F.plainAttrs_list slot hty hm ho hbase hline).imp fun σ H Q h => by
    obtain ⟨F, ρ, ⟨O, r0⟩, hp⟩ := h
    refine bindX r0 hp fun d ρ1 v H1 O1 r1 s1 dv hp1 => ?_
    cases e : lstAt ρ1.st d with
    | none => rw [e] at hp1; exact hp1.elim
    | some q =>
      obtain ⟨n, ds⟩ := q
      rw [e] at hp1
      obtain ⟨hS, a, vs, rfl, hth, h1, t⟩ := r1.ce.lstAt dv e
      refine ⟨.inl ⟨rfl, vs, .inl (.inl h1)⟩, ?_⟩
      have hp2 : Po X.kw hx F W σ (match lstAt ρ1.st d with
        | some (n, ds) => match f ds [] with
          | some (res, ds') => Rs.ok res ⟨ρ1.sl, ρ1.st.set n (some (.lst ds'))⟩
          | none => .stuck
        | none => .stuck) Q := hp1
      simp only [e] at hp2
      cases e3 : f ds [] with
      | none => simp only [e3] at hp2; exact hp2.elim
      | some q3 =>
        obtain ⟨res, ds'⟩ := q3
        simp only [e3] at hp2
        refine hf O1 H1 a vs ds [] [] res ds' Q h1 t .nil e3 fun v vs' dres dvs' => ?_
        obtain ⟨r3, s3⟩ := r1.wrC (c := .lst ds') (o := .lst vs') hS hth ⟨vs', rfl, dvs'⟩
        exact hp2 v _ ⟨O1, r3, DV.mono s3 _ _ dres⟩
end
def appF : List D → List D → Option (D × List D)
  | ds, [e] => if ds.length < sizeLine then some (.non, ds ++ [e]) else none
  | _, _ => none
theorem m_app {K : Kw} : MutF K rAppend appF := by
  intro O H a vs ds ws es res ds' Q h1 h2 h3 h4 q
  match es, h4 with
  | [e], h4 =>
    have h5 : (if ds.length < sizeLine then some (D.non, ds ++ [e]) else none) = some (res, ds') := h4
    split at h5
    · rename_i hl
      cases h5
      obtain ⟨v, rfl, dv⟩ := h3.one
      exact ⟨a, vs, v, rfl, rfl, h1, by rw [h2.length]; exact hl, q _ _ .non (h2.append (.cons dv .nil))⟩
    · cases h5
def popF : List D → List D → Option (D × List D)
  | ds, [] => (ds[ds.length - 1]?).map fun x => (x, ds.dropLast)
  | _, _ => none
theorem DVs.dropLast {K : Kw} {z : Fz} {vs : List V} {ds : List D} (h : DVs K z vs ds) : DVs K z vs.dropLast ds.dropLast := by
  rw [List.dropLast_eq_take, List.dropLast_eq_take, h.length]
  exact h.take _
theorem m_pop {K : Kw} : MutF K rPop popF := by
  intro O H a vs ds ws es res ds' Q h1 h2 h3 h4 q
  match es, h4 with
  | [], h4 =>
    obtain ⟨x, e1, e2⟩ := Option.map_eq_some_iff.mp (show (ds[ds.length - 1]?).map (fun x => (x, ds.dropLast)) = some (res, ds') from h4)
    cases e2
    cases h3
    obtain ⟨v, e3, dv⟩ := h2.get e1
    exact ⟨a, vs, v, rfl, rfl, h1, by rw [h2.length]; exact e3, q _ _ dv h2.dropLast⟩
def popAtF : List D → List D → Option (D × List D)
  | ds, [.int i] => if -(2 ^ 63) ≤ i ∧ i < 2 ^ 63 then (seqIndex? i ds.length).bind fun k => (ds[k]?).map fun x => (x, ds.eraseIdx k) else none
  | _, _ => none
theorem m_popAt {K : Kw} : MutF K rPopAt popAtF := by
  intro O H a vs ds ws es res ds' Q h1 h2 h3 h4 q
  match es, h4 with
  | [.int i], h4 =>
    have h5 : (if -(2 ^ 63) ≤ i ∧ i < 2 ^ 63 then (seqIndex? i ds.length).bind fun k => (ds[k]?).map fun x => (x, ds.eraseIdx k) else none) = some (res, ds') := h4
    split at h5
    · rename_i hl
      obtain ⟨k, e0, e4⟩ := Option.bind_eq_some_iff.mp h5
      obtain ⟨x, e1, e2⟩ := Option.map_eq_some_iff.mp e4
      cases e2
      obtain ⟨v, rfl, dv⟩ := h3.one
      cases dv
      obtain ⟨v, e3, dv⟩ := h2.get e1
      exact ⟨a, vs, i, k, v, rfl, rfl, h1, hl.1, hl.2, by rw [h2.length]; exact e0, e3, q _ _ dv (h2.erase k)⟩
    · cases h5
def revF : List D → List D → Option (D × List D)
  | ds, [] => some (.non, ds.reverse)
  | _, _ => none
theorem DVs.reverse {K : Kw} {z : Fz} : ∀ {vs : List V} {ds : List D}, DVs K z vs ds → DVs K z vs.reverse ds.reverse
  | _, _, .nil => .nil
  | _, _, .cons a t => by
    rw [List.reverse_cons, List.reverse_cons]
    exact t.reverse.append (.cons a .nil)
theorem m_rev {K : Kw} : MutF K rReverse revF := by
  intro O H a vs ds ws es res ds' Q h1 h2 h3 h4 q
  match es, h4 with
  | [], h4 =>
    cases h4
    cases h3
    exact ⟨a, vs, rfl, rfl, h1, q _ _ .non h2.reverse⟩
/-! ### places: lists, tuples, texts, dicts, cells of them -/
def keyD' : D → Option L2.Key
  | .int i => some (.inl i)
  | .str x => some (.inr x)
  | _ => none
theorem keyD'_ok {K : Kw} {z : Fz} {v : V} {d : D} {k : L2.Key} (h : DV K z v d) (e : keyD' d = some k) : v = kV k := by
  cases d <;> (try (cases e; done)) <;> cases h <;> cases e <;> rfl
def ixS (S : Store) (d e : D) : Option D := match dctAt S d with
  | some (_, kvs) => (keyD' e).bind fun k => getA kvs k
  | none => ixD (see1 S d) e
def rIxDK : R2 := fun x y H Q => ∃ a v, x = .ref a ∧ DGet H a y (some v) ∧ Q v H
theorem ix_dk {X : Cx} (hu : X.A.units + 1 < cLine) : IxR X rIxDK := by
  intro value slice pins s σ H x y v u Q I rx ry h hs
  obtain ⟨a, w, rfl, g, q⟩ := h
  obtain rfl : v = Value.ref a := rx
  exact tail_any (dict_typeIs I g) PySem.F.slot_dict_getitem.lookup (d_getItem hu I g ry fun w' s3 I3 rw' => ⟨w, H, I3, rw', q⟩) hs
def rIxA (K : Fg) : R2 := fun x y H Q => rIxDK x y H Q ∨ rIx K x y H Q
theorem ixS_ok {K : Kw} {O : Ow} {H : Hp} {S : Store} {x y : V} {d e z : D} {Q : VK} (c : Ce K O S H) (hx : DV K (wo O H) x d) (hy : DV K (wo O H) y e) (q : ixS S d e = some z) (hq : ∀ v H', Same H H' → DV K (wo O H') v z → Q v H') : rIxA K.K x y H Q := by
  unfold ixS at q
  cases e1 : dctAt S d with
  | some p =>
    obtain ⟨n, kvs⟩ := p
    rw [e1] at q
    obtain ⟨k, e2, e3⟩ := Option.bind_eq_some_iff.mp (show (keyD' e).bind (fun k => getA kvs k) = some z from q)
    obtain ⟨_, a, vs, rfl, _, h1, t⟩ := c.dctAt hx e1
    obtain ⟨w, h2, dw⟩ := t.some e3
    rw [keyD'_ok hy e2]
    exact .inl ⟨a, w, rfl, by rw [← h2]; exact DGet.k h1, hq w H (Same.refl H) dw⟩
  | none =>
    rw [e1] at q
    refine .inr (s_ixF O H x y _ e (.val z) Q c.dom (see1_lv c hx) (.dat hy) ?_ hq)
    show (ixD (see1 S d) e).map Oc.val = _
    rw [show ixD (see1 S d) e = some z from q]
    rfl
def eIxS (fa fb : EX) : EX := fun ρ => (fa ρ).bind fun d ρ1 => (fb ρ1).bind fun e ρ2 => match ixS ρ2.st d e with
  | some z => .ok z ρ2
  | none => .stuck
theorem r_ixS {X : Cx} {hx : Hx} {W : WX} {a b : Expr} {fa fb : EX} {pos : Pos} (hu : X.A.units + 1 < cLine) (ha : PE X a (tX X.kw hx W fa)) (hb : PE X b (tX X.kw hx W fb)) (hs : PlainIx b := by first | (intro _ _; rfl) | exact fun _ _ => rfl) : PE X (.Subscript a b pos) (tX X.kw hx W (eIxS fa fb)) :=
  (pe_ix ((ix_dk hu).or ix_seq) ha hb hs).imp fun σ H Q h => by
    obtain ⟨F, ρ, ⟨O, r0⟩, hp⟩ := h
    refine bindX r0 hp fun d ρ1 v H1 O1 r1 s1 dv hp1 => ?_
    refine bindX r1 hp1 fun e ρ2 u H2 O2 r2 s2 du hp2 => ?_
    cases q : ixS ρ2.st d e with
    | none => rw [q] at hp2; exact hp2.elim
    | some z =>
      rw [q] at hp2
      exact ixS_ok r2.ce (DV.mono s2 _ _ dv) du q fun v' H' s' dv' => hp2 v' H' ⟨O2, r2.grow s', dv'⟩
/-! ### o[k] = e -/
def putL (S : Store) (e : D) : Option (Nat × List D) → D → Option Store
  | some (n, ds), .int i => (ixN ds.length i).map fun j => S.set n (some (.lst (ds.set j e)))
  | _, _ => none
def putS (S : Store) (d k e : D) : Option Store := match dctAt S d with
  | some (n, kvs) => (keyD' k).bind fun z => if kvs.length < sizeLine then some (S.set n (some (.dct (putA kvs z e)))) else none
  | none => putL S e (lstAt S d) k
def rSetK : V → V → V → Hp → (Hp → Prop) → Prop := fun o i v H Q => ∃ a H', o = .ref a ∧ DPut H a i v H' ∧ Q H'
theorem set_dk {X : Cx} (hu : X.A.units + 1 < cLine) : PSet X rSetK := by
  intro pins s σ H o i v ov iv u Q I ro ri rv h
  obtain ⟨a, H', rfl, g, q⟩ := h
  obtain rfl : ov = Value.ref a := ro
  exact d_setItem hu I g ri rv fun s' I' => ⟨H', I', q⟩
def rSetA : V → V → V → Hp → (Hp → Prop) → Prop := fun o i v H Q => rSetK o i v H Q ∨ rSetL o i v H Q
theorem set_any {X : Cx} (hu : X.A.units + 1 < cLine) : PSet X rSetA := by
  intro pins s σ H o i v ov iv u Q I ro ri rv h
  rcases h with h | h
  · exact set_dk hu pins s σ H o i v ov iv u Q I ro ri rv h
  · exact set_list pins s σ H o i v ov iv u Q I ro ri rv h
theorem putS_ok {K : Kw} {hx : Hx} {F : Fm} {ρ : En} {σ : MB.St} {O : Ow} {H : Hp} {x y v : V} {d k e : D} {S' : Store} {Q : Hp → Prop} (r : RO K hx F ρ σ H O) (h1 : DV K (wo O H) x d) (h2 : DV K (wo O H) y k) (h3 : DV K (wo O H) v e) (q : putS ρ.st d k e = some S') (hq : ∀ H', RO K hx F ⟨ρ.sl, S'⟩ σ H' O → Q H') : rSetA x y v H Q := by
  unfold putS at q
  cases e1 : dctAt ρ.st d with
  | some p =>
    obtain ⟨n, kvs⟩ := p
    rw [e1] at q
    obtain ⟨z, e2, e3⟩ := Option.bind_eq_some_iff.mp (show (keyD' k).bind (fun z => if kvs.length < sizeLine then some (ρ.st.set n (some (.dct (putA kvs z e)))) else none) = some S' from q)
    split at e3
    · rename_i hl
      cases e3
      obtain ⟨hS, a, vs, rfl, hth, g1, t⟩ := r.ce.dctAt h1 e1
      rw [keyD'_ok h2 e2]
      obtain ⟨r3, _⟩ := r.wrC (c := .dct (putA kvs z e)) (o := .dK (putK vs z v)) hS hth ⟨_, rfl, t.put h3⟩
      exact .inl ⟨a, _, rfl, DPut.k g1 (by rw [t.length]; exact hl), hq _ r3⟩
    · cases e3
  | none =>
    rw [e1] at q
    have q2 : putL ρ.st e (lstAt ρ.st d) k = some S' := q
    cases e2 : lstAt ρ.st d with
    | none => rw [e2] at q2; cases q2
    | some p =>
      obtain ⟨n, ds⟩ := p
      rw [e2] at q2
      cases k <;> (try (cases q2; done))
      rename_i i
      obtain ⟨j, e3, e4⟩ := Option.map_eq_some_iff.mp (show (ixN ds.length i).map (fun j => ρ.st.set n (some (.lst (ds.set j e)))) = some S' from q2)
      cases e4
      obtain ⟨hS, a, vs, rfl, hth, g1, t⟩ := r.ce.lstAt h1 e2
      cases h2
      obtain ⟨r3, _⟩ := r.wrC (c := .lst (ds.set j e)) (o := .lst (vs.set j v)) hS hth ⟨_, rfl, t.set j h3⟩
      exact .inr ⟨a, vs, i, j, rfl, rfl, g1, by rw [t.length]; exact e3, hq _ r3⟩
def sPutS (fo fk fe : EX) : SX := fun ρ => (fe ρ).then fun e ρ1 => (fo ρ1).then fun d ρ2 => (fk ρ2).then fun k ρ3 => match putS ρ3.st d k e with
  | some S => .nx ⟨ρ3.sl, S⟩
  | none => .stuck
section
variable {X : Cx} {hx : Hx} {W : WX} {o e b : Expr} {fo fe fk : EX} {pos p2 : Pos}
theorem p_putS (hu : X.A.units + 1 < cLine) (he : PE X e (tX X.kw hx W fe)) (ho : PE X o (tX X.kw hx W fo)) (hb : PE X b (tX X.kw hx W fk))
    (ha : ∀ v, assign (.Subscript o b p2) X.env v = (do
      let ov ← holding [v] (eval o X.env)
      let iv ← holding [v, ov] (eval b X.env)
      standAt p2
      holding [v, ov, iv] (setItem ov iv v)
      release [v, ov, iv] []) := by intro _; rfl)
    (hs : swapsWith e (some (.Subscript o b p2)) pos.line X.env = pure false := by rfl) :
    PS X (.Assign [.Subscript o b p2] e pos) (tS X.kw hx W (sPutS fo fk fe)) :=
  (ps_asg he (pg_sub ho hb (set_any hu) ha) hs).imp fun D σ H h => by
    obtain ⟨F, ρ, ⟨O, r0⟩, hp⟩ := h
    refine bindS r0 hp fun d ρ1 u H1 O1 r1 du hp1 => ?_
    refine bindS (F := ⟨O1, H1⟩) r1.re (PoS.fr r1.fr hp1) fun x ρ2 w H2 O2 r2 dw hp2 => ?_
    refine bindS (F := ⟨O2, H2⟩) r2.re (PoS.fr r2.fr hp2) fun k ρ3 y H3 O3 r3 dy hp3 => ?_
    cases q : putS ρ3.st x k d with
    | none => rw [q] at hp3; exact hp3.elim
    | some S =>
      rw [q] at hp3
      exact putS_ok r3 (DV.mono r3.fr.fs _ _ dw) dy (DV.mono (r2.fr.trans r3.fr).fs _ _ du) q fun H' r' => hp3 σ H' ⟨O3, r'⟩
end
/-! ### o[k] op= e -/
def rGetL : V → V → Hp → VK → Prop := fun x y H Q => ∃ p xs i v, x = .ref p ∧ y = .int i ∧ H p = some (.lst xs) ∧ atI xs i = some v ∧ Q v H
theorem get_list {X : Cx} : PGet X rGetL := by
  intro pins s σ H o i ov iv Q I ro ri h
  obtain ⟨p, xs, i, z, rfl, rfl, hq, he, q⟩ := h
  cases ro
  obtain ⟨t, rfl⟩ := ri
  obtain ⟨its, r, pl, hz⟩ := I.list (.of hq)
  obtain ⟨j, h1, h2, h3, h4, h5⟩ := atI_get he
  obtain ⟨w, ew, rw'⟩ := r.get h2
  have hl := r.length
  have hn := line63
  have fin : EP X pins σ Q w s := ⟨z, H, I, rw', q⟩
  by_cases h0 : 0 ≤ i
  · have hj : i.toNat = j := by
      rw [seqIndex_of h0 h5] at h1
      exact Option.some.inj h1
    exact wpAny_getItem_list pl.isList h0 (by omega) (by rw [hj]; simpa using ew) fin
  · have hj : (i + (its.toArray.size : Int)).toNat = j := by
      rw [seqIndex_neg (by omega) h4] at h1
      rw [List.size_toArray, ← hl]
      exact Option.some.inj h1
    exact wpAny_getItem_list_neg pl.isList (by omega) (by rw [List.size_toArray] <;> omega) (by omega) (by rw [hj]; simpa using ew) fin
theorem get_dk {X : Cx} (hu : X.A.units + 1 < cLine) : PGet X rIxDK := by
  intro pins s σ H o i ov iv Q I ro ri h
  obtain ⟨a, w, rfl, g, q⟩ := h
  obtain rfl : ov = Value.ref a := ro
  exact d_getItem hu I g ri fun w' s3 I3 rw' => ⟨w, H, I3, rw', q⟩
def rGetA : V → V → Hp → VK → Prop := fun x y H Q => rIxDK x y H Q ∨ rGetL x y H Q
theorem get_any {X : Cx} (hu : X.A.units + 1 < cLine) : PGet X rGetA := by
  intro pins s σ H o i ov iv Q I ro ri h
  rcases h with h | h
  · exact get_dk hu pins s σ H o i ov iv Q I ro ri h
  · exact get_list pins s σ H o i ov iv Q I ro ri h
/-- a place of a cell, read -/
def getL : Option (Nat × List D) → D → Option D
  | some (_, ds), .int i => atI ds i
  | _, _ => none
def getS (S : Store) (d k : D) : Option D := match dctAt S d with
  | some (_, kvs) => (keyD' k).bind fun z => getA kvs z
  | none => getL (lstAt S d) k
theorem getS_ok {K : Kw} {O : Ow} {H : Hp} {S : Store} {x y : V} {d e z : D} {Q : VK} (c : Ce K O S H) (hx : DV K (wo O H) x d) (hy : DV K (wo O H) y e) (q : getS S d e = some z) (hq : ∀ v, DV K (wo O H) v z → Q v H) : rGetA x y H Q := by
  unfold getS at q
  cases e1 : dctAt S d with
  | some p =>
    obtain ⟨n, kvs⟩ := p
    rw [e1] at q
    obtain ⟨k, e2, e3⟩ := Option.bind_eq_some_iff.mp (show (keyD' e).bind (fun k => getA kvs k) = some z from q)
    obtain ⟨_, a, vs, rfl, _, h1, t⟩ := c.dctAt hx e1
    obtain ⟨w, h2, dw⟩ := t.some e3
    rw [keyD'_ok hy e2]
    exact .inl ⟨a, w, rfl, by rw [← h2]; exact DGet.k h1, hq w dw⟩
  | none =>
    rw [e1] at q
    have q2 : getL (lstAt S d) e = some z := q
    cases e2 : lstAt S d with
    | none => rw [e2] at q2; cases q2
    | some p =>
      obtain ⟨n, ds⟩ := p
      rw [e2] at q2
      cases e <;> (try (cases q2; done))
      rename_i i
      obtain ⟨_, a, vs, rfl, _, g1, t⟩ := c.lstAt hx e2
      cases hy
      obtain ⟨v, e3, dv⟩ := atI_dvs t (show atI ds i = some z from q2)
      exact .inr ⟨a, vs, i, v, rfl, rfl, g1, e3, hq v dv⟩
def sAugS (op : D → D → Option D) (fo fk fe : EX) : SX := fun ρ => (fo ρ).then fun d ρ1 => (fk ρ1).then fun k ρ2 => match getS ρ2.st d k with
  | some x => (fe ρ2).then fun y ρ3 => match op x y with
    | some z => match putS ρ3.st d k z with
      | some S => .nx ⟨ρ3.sl, S⟩
      | none => .stuck
    | none => .stuck
  | none => .stuck
section
variable {X : Cx} {hx : Hx} {W : WX} {o e b : Expr} {fo fe fk : EX} {pos p2 : Pos}
theorem p_augS {op : Operator} {r : R2} {g : D → D → Option D} (hu : X.A.units + 1 < cLine) (hop : PIp X op r) (h2 : Op2 X.kw r g) (ho : PE X o (tX X.kw hx W fo)) (hb : PE X b (tX X.kw hx W fk)) (he : PE X e (tX X.kw hx W fe))
    (ha : ∀ ov iv new, augStore b ov iv new = (do holding [new, ov, iv] (setItem ov iv new); release [new, ov, iv] []; pure .next) := by intros; rfl) :
    PS X (.AugAssign (.Subscript o b p2) op e pos) (tS X.kw hx W (sAugS g fo fk fe)) :=
  (ps_augS ho hb (get_any hu) he hop (set_any hu) ha).imp fun D σ H h => by
    obtain ⟨F, ρ, ⟨O, r0⟩, hp⟩ := h
    refine bindS r0 hp fun d ρ1 u H1 O1 r1 du hp1 => ?_
    refine bindS (F := ⟨O1, H1⟩) r1.re (PoS.fr r1.fr hp1) fun k ρ2 w H2 O2 r2 dw hp2 => ?_
    have du2 := DV.mono r2.fr.fs _ _ du
    cases q : getS ρ2.st d k with
    | none => rw [q] at hp2; exact hp2.elim
    | some x =>
      rw [q] at hp2
      refine getS_ok r2.ce du2 dw q fun xv dx => ?_
      refine bindS (F := ⟨O2, H2⟩) r2.re (PoS.fr r2.fr hp2) fun y ρ3 yv H3 O3 r3 dy hp3 => ?_
      have hp4 : PoS X.kw hx ⟨O2, H2⟩ W (match g x y with
        | some z => match putS ρ3.st d k z with
          | some S => .nx ⟨ρ3.sl, S⟩
          | none => .stuck
        | none => .stuck) D := hp3
      cases q2 : g x y with
      | none => rw [q2] at hp4; exact hp4.elim
      | some z =>
        rw [q2] at hp4
        refine h2 O3 H3 xv yv x y z _ r3.dom (DV.mono r3.fr.fs _ _ dx) dy q2 fun zv H4 s4 dz => ?_
        have r4 := r3.grow s4
        have hp5 : PoS X.kw hx ⟨O2, H2⟩ W (match putS ρ3.st d k z with
          | some S => Fl.nx ⟨ρ3.sl, S⟩
          | none => .stuck) D := hp4
        cases q3 : putS ρ3.st d k z with
        | none => rw [q3] at hp5; exact hp5.elim
        | some S =>
          rw [q3] at hp5
          exact putS_ok r4 (DV.mono r4.fr.fs _ _ du2) (DV.mono r4.fr.fs _ _ dw) dz q3 fun H' r' => hp5 σ H' ⟨O3, r'⟩
end
end MB

/-! A cell given up; while; sets of ints; in, len over cells of all kinds. -/
namespace MB
open PySem PySem.Spec PyProof.Rows L2
/-! ### a cell is given up: no step of the program -/
def froze (c : Cn) : Option D := match c with
  | .lst ds => some (.lst ds)
  | .dct kvs => some (.dct (kvs.map (·.1)) (kvs.map (·.2)))
  | .obj C fs => some (.obj C (fs.map (·.1)) (fs.map (·.2)))
  | _ => none
theorem DA.split {κ : Type} {K : Kw} {z : Fz} : ∀ {vs : List (κ × V)} {ds : List (κ × D)}, DA K z vs ds → vs = (ds.map (·.1)).zip (vs.map (·.2)) ∧ DVs K z (vs.map (·.2)) (ds.map (·.2))
  | _, _, .nil => ⟨rfl, .nil⟩
  | _, _, .cons a t => by
    obtain ⟨h1, h2⟩ := DA.split t
    exact ⟨by rw [List.map_cons, List.map_cons, List.zip_cons_cons, ← h1], .cons a h2⟩
theorem DF.split {K : Kw} {z : Fz} : ∀ {vs : List (Str × V)} {ds : List (Str × D)}, DF K z vs ds → vs = (ds.map (·.1)).zip (vs.map (·.2)) ∧ DVs K z (vs.map (·.2)) (ds.map (·.2))
  | _, _, .nil => ⟨rfl, .nil⟩
  | _, _, .cons a t => by
    obtain ⟨h1, h2⟩ := DF.split t
    exact ⟨by rw [List.map_cons, List.map_cons, List.zip_cons_cons, ← h1], .cons a h2⟩
/-- the value in slot i is a cell: from now on nobody changes it -/
def sFz (i : Nat) : SX := fun ρ => match ρ[i]? with
  | some (some (.val (.ce n))) => match ρ.st[n]? with
    | some (some c) => match froze c with
      | some d => .nx ⟨ρ.sl.set i (some (.val d)), ρ.st.set n none⟩
      | none => .stuck
    | _ => .stuck
  | _ => .stuck
theorem RO.fz {K : Kw} {hx : Hx} {F : Fm} {ρ : En} {σ : MB.St} {H : Hp} {O : Ow} (r : RO K hx F ρ σ H O) {i n : Nat} {c : Cn} {d : D} (e : ρ[i]? = some (some (.val (.ce n)))) (e1 : ρ.st[n]? = some (some c)) (e2 : froze c = some d) :
    ∃ O', RO K hx F ⟨ρ.sl.set i (some (.val d)), ρ.st.set n none⟩ σ H O' := by
  obtain ⟨v, ev, dv⟩ := r.sl i _ e
  obtain ⟨a, o, rfl, hth, h1, hc⟩ := r.ce.get (show DV K (wo O H) v (.ce n) from dv) e1
  obtain ⟨O', eth, c', s', hw⟩ := r.ce.fz e1 hth
  have r1 := r.st s' c'
  have dv' : DV K (wo O' H) (.ref a) d := by
    have hc' := hc.mono s'.fs
    rw [h1] at hw
    cases c with
    | lst ds =>
      cases e2
      obtain ⟨vs, rfl, t⟩ := hc'
      exact .lst hw t
    | dct kvs =>
      cases e2
      obtain ⟨vs, rfl, t⟩ := hc'
      obtain ⟨q1, q2⟩ := t.split
      exact .dct (by rw [← q1]; exact hw) (by rw [List.length_map, List.length_map, t.length]) q2
    | dcT kvs => cases e2
    | obj C fs =>
      cases e2
      obtain ⟨dx, vs, rfl, t⟩ := hc'
      obtain ⟨q1, q2⟩ := t.split
      have ln := q2.length
      exact .obj (by rw [← q1]; exact hw) (by rw [ln, List.length_map, List.length_map]) q2
    | set ns => cases e2
  refine ⟨O', r1.fr, r1.ce, by show (ρ.sl.set i _).length = _; simp [r.len], fun j x ej => ?_⟩
  rcases getset (show (ρ.sl.set i (some (.val d)))[j]? = some (some x) from ej) with ⟨g1, g2, _⟩ | ⟨_, g⟩
  · subst g1
    cases g2
    exact ⟨.ref a, ev, dv'⟩
  · exact r1.sl j x g
theorem t_fz {K : Kw} {hx : Hx} {W : WX} {i : Nat} {g : SX} {D : Ends} {σ : MB.St} {H : Hp} (h : tS K hx W (sSeq (sFz i) g) D σ H) : tS K hx W g D σ H := by
  obtain ⟨F, ρ, ⟨O, r⟩, hp⟩ := h
  unfold sSeq sFz at hp
  cases e : ρ[i]? with
  | none => rw [e] at hp; exact hp.elim
  | some o =>
    cases o with
    | none => rw [e] at hp; exact hp.elim
    | some sl =>
      rw [e] at hp
      cases sl with
      | exc y => exact hp.elim
      | val d =>
        cases d <;> (try exact hp.elim)
        rename_i n
        dsimp only at hp
        cases e1 : ρ.st[n]? with
        | none => rw [e1] at hp; exact hp.elim
        | some o =>
          cases o with
          | none => rw [e1] at hp; exact hp.elim
          | some c =>
            rw [e1] at hp
            dsimp only at hp
            cases e2 : froze c with
            | none => rw [e2] at hp; exact hp.elim
            | some d =>
              rw [e2] at hp
              exact ⟨F, _, r.fz e e1 e2, hp⟩
theorem p_fz {X : Cx} {hx : Hx} {W : WX} {st : Stmt} {g : SX} (i : Nat) (h : PS X st (tS X.kw hx W g)) : PS X st (tS X.kw hx W (sSeq (sFz i) g)) := h.imp fun _ _ _ q => t_fz q
/-! ### while -/
def whileS (c : EX) (g : SX) : Nat → SX
  | 0, _ => .stuck
  | k + 1, ρ => (c ρ).then fun d ρ1 => match truth d with
    | some true => match g ρ1 with
      | .nx ρ2 => whileS c g k ρ2
      | .ct ρ2 => whileS c g k ρ2
      | .bk ρ2 => .nx ρ2
      | r => r
    | some false => .nx ρ1
    | none => .stuck
def sWhile (N : Nat) (c : EX) (g : SX) : SX := whileS c g N
theorem p_while {X : Cx} {hx : Hx} {W : WX} {c : Expr} {body : List Stmt} {fc : EX} {g : SX} {pos : Pos} (N : Nat) (hp : PassesOwn (model X.prog X.w) X.A X.env X.xe) (hc : PT X c (tT X.kw hx W fc)) (hb : PSs X body (tS X.kw hx W g)) :
    PS X (.While c body [] pos) (tS X.kw hx W (sWhile N fc g)) := (ps_while hp hc hb).imp fun D σ H h => by
  obtain ⟨F, ρ, ⟨O, r⟩, hq⟩ := h
  refine ⟨fun m σ H => ∃ ρ O, RO X.kw hx ⟨O, H⟩ ρ σ H O ∧ Stp F.O F.H O H ∧ PoS X.kw hx F W (whileS fc g m ρ) D, ⟨N, ρ, O, r.re, r.fr, hq⟩, ?_⟩
  rintro m σ1 H1 ⟨ρ1, O1, r1, s1, hp1⟩
  cases m with
  | zero => exact hp1.elim
  | succ k =>
    have r1' : RO X.kw hx F ρ1 σ1 H1 O1 := r1.fr_of s1
    have hp2 : PoS X.kw hx F W ((fc ρ1).then fun d ρ1 => match truth d with
      | some true => match g ρ1 with
        | .nx ρ2 => whileS fc g k ρ2
        | .ct ρ2 => whileS fc g k ρ2
        | .bk ρ2 => .nx ρ2
        | r => r
      | some false => .nx ρ1
      | none => .stuck) D := hp1
    refine bindST r1' hp2 (fun d ρ2 q => ?_) fun d b ρ2 H2 O2 tb r2 q => ?_
    · cases t : truth d with
      | none => rw [t] at q; exact q.elim
      | some b => exact ⟨b, rfl⟩
    · rw [tb] at q
      cases b with
      | false =>
        rw [if_neg Bool.false_ne_true]
        exact q σ1 H2 ⟨O2, r2⟩
      | true =>
        rw [if_pos rfl]
        refine ⟨fun σ' H' => ∃ ρ' O', RO X.kw hx F ρ' σ' H' O' ∧ PoS X.kw hx F W (whileS fc g k ρ') D, fun σ' H' ⟨ρ', O', r', q'⟩ => ⟨k, Nat.lt_succ_self k, ρ', O', r'.re, r'.fr, q'⟩, ?_⟩
        refine ⟨F, ρ2, ⟨O2, r2⟩, ?_⟩
        have q' : PoS X.kw hx F W (match g ρ2 with
          | .nx ρ2 => whileS fc g k ρ2
          | .ct ρ2 => whileS fc g k ρ2
          | .bk ρ2 => .nx ρ2
          | r => r) D := q
        cases e4 : g ρ2 with
        | nx ρ5 =>
          rw [e4] at q'
          exact fun σ5 H5 ⟨O5, r5⟩ => ⟨ρ5, O5, r5, q'⟩
        | ct ρ5 =>
          rw [e4] at q'
          exact fun σ5 H5 ⟨O5, r5⟩ => ⟨ρ5, O5, r5, q'⟩
        | bk ρ5 => rw [e4] at q'; exact q'
        | rt d ρ5 => rw [e4] at q'; exact q'
        | err x ρ5 => rw [e4] at q'; exact q'
        | stuck => rw [e4] at q'; exact q'
/-! ### sets of ints -/
def setAt (S : Store) : D → Option (Nat × List Int)
  | .ce n => match S[n]? with
    | some (some (.set ns)) => some (n, ns)
    | _ => none
  | _ => none
theorem Ce.setAt {K : Kw} {O : Ow} {H : Hp} {S : Store} (r : Ce K O S H) {v : V} {d : D} {n : Nat} {ns : List Int} (h : DV K (wo O H) v d) (e : setAt S d = some (n, ns)) :
    S[n]? = some (some (.set ns)) ∧ ∃ a, v = .ref a ∧ O.th[n]? = some a ∧ H a = some (SetO K.w a (fun j => decide (j ∈ ns)) ns.length) := by
  cases d <;> (try (cases e; done))
  rename_i k
  have e1 : (match S[k]? with
    | some (some (.set ns)) => some (k, ns)
    | _ => none) = some (n, ns) := e
  split at e1
  · rename_i ds' q
    cases e1
    obtain ⟨a, o, rfl, h1, h2, hc⟩ := r.get h q
    exact ⟨q, a, rfl, h1, by rw [h2]; exact congrArg some hc⟩
  · cases e1
/-- set() -/
def eSet0 : EX := fun ρ => .ok (.ce ρ.st.length) ⟨ρ.sl, ρ.st ++ [some (.set [])]⟩
def addI (ns : List Int) (k : Int) : List Int := if k ∈ ns then ns else ns ++ [k]
def eSAdd (fo fe : EX) : EX := fun ρ => (fo ρ).bind fun d ρ1 => match setAt ρ1.st d with
  | some _ => evs [fe] (fun es ρ2 => match es with
    | [.int k] => match setAt ρ2.st d with
      | some (n, ns) => if ns.length + 1 < scanBound then .ok .non ⟨ρ2.sl, ρ2.st.set n (some (.set (addI ns k)))⟩ else .stuck
      | none => .stuck
    | _ => .stuck) ρ1
  | none => .stuck
section
variable {X : Cx} {hx : Hx} {W : WX} {o e : Expr} {fo fe : EX} {apos cpos pos p : Pos}
theorem setO_congr {w : World} {a : Addr} {S S' : Int → Bool} {n n' : Nat} (h : ∀ j, S j = S' j) (e : n = n') : SetO w a S n = SetO w a S' n' := by
  rw [funext h, e]
theorem r_set0 (hm : X.mg "set" = none) (hg : Gl X "set" := by rfl) : PE X (.Call (.Name "set" p) [] [] pos) (tX X.kw hx W eSet0) :=
  (pe_callTy0 cr_set0 hg hm (by decide +kernel)).imp fun σ H Q h => by
    obtain ⟨F, ρ, ⟨O, r⟩, hp⟩ := h
    refine ⟨rfl, fun p np => ?_⟩
    obtain ⟨O', r', dv', _⟩ := r.newC (c := .set []) (o := SetO X.w p (fun _ => false) 0) np (setO_congr (fun j => by simp) rfl)
    exact hp _ _ ⟨O', r', dv'⟩
theorem r_sadd (ho : PE X o (tX X.kw hx W fo)) (ha : PA X [e] (tA X.kw hx W [fe]))
    (hbase : attributeBase o "add" X.env (eval o X.env) = eval o X.env := by rfl)
    (hfew : ((backTo cpos (starEach [e] X.env)).all (fun x => !x.1) && (backToKw cpos (keywordEach [] X.env)).all (fun x => x.1.isSome) && decide ([e].length + ([] : List Keyword).length + (if ([] : List Keyword).isEmpty then 0 else 1) < 30)) = true := by rfl)
    (hline : (apos.endLine == cpos.line) = true := by rfl) (hs : starEach [e] X.env = (false, eval e X.env) :: starEach [] X.env := by rfl) (hplain : (backTo cpos (starEach [] X.env)).any (·.1) = false := by rfl) :
    PE X (.Call (.Attribute o "add" apos) [e] [] cpos) (tX X.kw hx W (eSAdd fo fe)) :=
  (pe_sadd ho ha hbase hfew hline hs hplain).imp fun σ H Q h => by
    obtain ⟨F, ρ, ⟨O, r0⟩, hp⟩ := h
    refine bindX r0 hp fun d ρ1 v H1 O1 r1 s1 dv hp1 => ?_
    cases e : setAt ρ1.st d with
    | none => rw [e] at hp1; exact hp1.elim
    | some q =>
      obtain ⟨n, ns⟩ := q
      rw [e] at hp1
      obtain ⟨_, a, rfl, _, h1⟩ := r1.ce.setAt dv e
      refine ⟨⟨a, _, _, rfl, h1⟩, ?_⟩
      refine tA_of' r1 hp1 fun F1 es ρ2 ws H2 O2 _ s2 r2 dvs hp2 => ?_
      have dv2 := DV.mono s2 _ _ dv
      match es, dvs, hp2 with
      | [.int k], .cons (.int _) .nil, hp2 =>
        have hp3 : Po X.kw hx F1 W σ (match setAt ρ2.st d with
          | some (n, ns) => if ns.length + 1 < scanBound then Rs.ok .non ⟨ρ2.sl, ρ2.st.set n (some (.set (addI ns k)))⟩ else .stuck
          | none => .stuck) Q := hp2
        cases e2 : setAt ρ2.st d with
        | none => rw [e2] at hp3; exact hp3.elim
        | some q2 =>
          obtain ⟨n2, ns2⟩ := q2
          rw [e2] at hp3
          have hp4 : Po X.kw hx F1 W σ (if ns2.length + 1 < scanBound then Rs.ok .non ⟨ρ2.sl, ρ2.st.set n2 (some (.set (addI ns2 k)))⟩ else .stuck) Q := hp3
          split at hp4
          · rename_i hl
            obtain ⟨hS, a2, ea, hth, h2⟩ := r2.ce.setAt dv2 e2
            cases ea
            refine ⟨a, k, _, _, rfl, rfl, h2, hl, ?_⟩
            have ex : CnOk X.kw (wo O2 H2) a (SetO X.w a (fun j => decide (j ∈ ns2) || decide (j = k)) (if (decide (k ∈ ns2)) = true then ns2.length else ns2.length + 1)) (.set (addI ns2 k)) := by
              refine setO_congr (fun j => ?_) ?_
              · unfold addI
                by_cases h : k ∈ ns2
                · rw [if_pos h]
                  by_cases h3 : j = k
                  · subst h3; simp [h]
                  · simp [h3]
                · rw [if_neg h]
                  simp
              · unfold addI
                by_cases h : k ∈ ns2
                · rw [if_pos h]; simp [h]
                · rw [if_neg h]; simp [h]
            obtain ⟨r3, _⟩ := r2.wrC hS hth ex
            exact hp4 _ _ ⟨O2, r3, .non⟩
          · exact hp4.elim
end
/-! ### in, not in; len -/
def inS (n : Nat) (S : Store) (d e : D) : Option D := match setAt S e, d with
  | some (_, ns), .int k => some (.bl (decide (k ∈ ns)))
  | some _, _ => none
  | none, _ => match dctAt S e with
    | some (_, kvs) => (keyD' d).map fun k => .bl (getA kvs k).isSome
    | none => inM (seeD S n d) (seeD S n e)
def rDIn : R2 := fun x y H Q => ∃ a o, y = .ref a ∧ DGet H a x o ∧ Q (.bl o.isSome) H
def rDNotIn : R2 := fun x y H Q => ∃ a o, y = .ref a ∧ DGet H a x o ∧ Q (.bl (!o.isSome)) H
theorem op_din {X : Cx} (hu : X.A.units + 1 < cLine) : OpR X (compareOp .In) rDIn := by
  intro pins s σ H x y v u Q I rx ry h
  obtain ⟨a, o, rfl, g, q⟩ := h
  obtain rfl : u = Value.ref a := ry
  exact d_in hu I g rx fun s' I' => ⟨.bl o.isSome, H, I', rfl, q⟩
theorem op_dnotin {X : Cx} (hu : X.A.units + 1 < cLine) : OpR X (compareOp .NotIn) rDNotIn := by
  intro pins s σ H x y v u Q I rx ry h
  obtain ⟨a, o, rfl, g, q⟩ := h
  obtain rfl : u = Value.ref a := ry
  exact d_notIn hu I g rx fun s' I' => ⟨.bl (!o.isSome), H, I', rfl, q⟩
def rInA (w : World) (K : Fg) : R2 := fun x y H Q => rSIn w x y H Q ∨ rDIn x y H Q ∨ rInM K x y H Q
theorem o_inA {X : Cx} (hu : X.A.units + 65 < cLine) : OpR X (compareOp .In) (rInA X.w X.K) := or_sin.or ((op_din (by omega)).or (o_inM hu))
def notD : D → D
  | .bl b => .bl (!b)
  | d => d
theorem inS_ok {K : Kw} {O : Ow} {H : Hp} {S : Store} {x y : V} {d e z : D} {n : Nat} {Q : VK} (c : Ce K O S H) (hx : DV K (wo O H) x d) (hy : DV K (wo O H) y e) (q : inS n S d e = some z) (hq : ∀ v, DV K (wo O H) v z → Q v H) (hq2 : ∀ v H', Same H H' → DV K (wo O H') v z → Q v H') : rInA K.w K.K x y H Q := by
  unfold inS at q
  cases e1 : setAt S e with
  | some p =>
    obtain ⟨m, ns⟩ := p
    rw [e1] at q
    cases d <;> (try (cases q; done))
    rename_i k
    cases q
    obtain ⟨_, a, rfl, _, h1⟩ := c.setAt hy e1
    cases hx
    exact .inl ⟨k, a, _, _, rfl, rfl, h1, hq _ (.bl _)⟩
  | none =>
    rw [e1] at q
    have q2 : (match dctAt S e with
      | some (_, kvs) => (keyD' d).map fun k => D.bl (getA kvs k).isSome
      | none => inM (seeD S n d) (seeD S n e)) = some z := q
    cases e2 : dctAt S e with
    | some p =>
      obtain ⟨m, kvs⟩ := p
      rw [e2] at q2
      obtain ⟨k, e3, e4⟩ := Option.map_eq_some_iff.mp (show (keyD' d).map (fun k => D.bl (getA kvs k).isSome) = some z from q2)
      cases e4
      obtain ⟨_, a, vs, rfl, _, h1, t⟩ := c.dctAt hy e2
      rw [keyD'_ok hx e3]
      refine .inr (.inl ⟨a, _, rfl, DGet.k h1, ?_⟩)
      rw [t.isSome]
      exact hq _ (.bl _)
    | none =>
      rw [e2] at q2
      have q3 : inM (seeD S n d) (seeD S n e) = some z := q2
      obtain ⟨b, rfl⟩ := b_inM _ _ _ q3
      exact .inr (.inr (op2_al s_inM c hx hy q3 rfl hq2))
def eInA (n : Nat) (fa fb : EX) : EX := fun ρ => (fa ρ).bind fun d ρ1 => (fb ρ1).bind fun e ρ2 => match inS n ρ2.st d e with
  | some z => .ok z ρ2
  | none => .stuck
end MB

/-! Several except clauses, each with a name. -/
namespace MB
open PySem PySem.Spec PyProof.Rows L2
/-- behind a suite: its name is gone -/
def gonE (i : Nat) (D : Ends) : Ends := ⟨fun σ H => D.nx (σ.set i none) H, D.rt, fun σ H => D.bk (σ.set i none) H, fun σ H => D.ct (σ.set i none) H⟩
/-- a clause: what it catches, its name's slot, its suite -/
structure Clz where
  c : Value
  i : Nat
  ts : Addr → Value → Option Addr → TS
def wClz (K : Fg) (Wo : WX) (D : Ends) : List Clz → WX
  | [] => Wo
  | z :: r => fun cls dd σ H => ∃ b, PySem.W.exmOne K cls z.c = some b ∧ (b = true → ∀ p, H p = none → z.ts p cls dd (gonE z.i D) (σ.set z.i (some (.ref p))) H) ∧ (b = false → wClz K Wo D r cls dd σ H)
inductive ClzOk (X : Cx) : List ExceptHandler → List Clz → Prop
  | nil : ClzOk X [] []
  | cons {x n : Str} {b0 : Stmt} {su : List Stmt} {q q' : Pos} {hs : List ExceptHandler} {l : List Clz} {z : Clz} (hi : X.N[z.i]? = some n) (hl : X.env.kindOf n = some .local) (hc : Names X x z.c)
      (run : ∀ (p : Addr) (o : Obj) (cls : Value) (dd : Option Addr) (pn : List (Addr × Obj)), L2N.Zn cls dd o → (∃ vs, o.data = .fields vs) → PSs (X.suite p ((p, o) :: pn)) (b0 :: su) (z.ts p cls dd)) (r : ClzOk X hs l) :
      ClzOk X (.ExceptHandler (some (.Name x q)) (some n) (b0 :: su) q' :: hs) (z :: l)

theorem ps_tryZ {X : Cx} {body : List Stmt} {hd : ExceptHandler} {hs : List ExceptHandler} {l : List Clz} {pos : Pos} {tb : WX → TS} {Wo : WX} (est : X.stack = X.env :: X.outer) (efr : X.env.frame = some X.env.locals) (nd : X.N.Nodup) (tk : L2N.Takes X Wo)
    (bod : ∀ (W : WX) (pn : List (Addr × Obj)) (xe : Value → Shared → Prop), L2N.Takes (X.tr pn xe) W → PassesOwn (model X.prog X.w) X.A X.env xe → PSs (X.tr pn xe) body (tb W))
    (cl : ClzOk X (hd :: hs) l) : PS X (.Try body (hd :: hs) [] [] pos) (fun D σ H => tb (wClz X.K Wo D l) D σ H) := by
  constructor
  intro pins s σ H D I hq
  have ok := I.ok
  have frm : X.A.frames = some (X.env :: X.outer) := ok.frames.trans (congrArg some est)
  let out : Value → Shared → Prop := fun e t0 => wpAny (model X.prog X.w) X.A (noteFrame e X.env) (fun _ t1 => wpAny (model X.prog X.w) X.A (setFlight e none) (fun _ t2 => wpAny (model X.prog X.w) X.A (handleBy e X.env (hd :: hs)) (SP X pins D) X.xe t2) X.xe t1) X.xe t0
  have main := (bod (wClz X.K Wo D l) (X.pn ++ pins) out (fun u t caught => ?_) PassesOwn.looking).run [] s σ H D (I.toTry _) hq
  · refine wpAny_Try_except (wpAny_mono main (fun fl t1 hsp => ?_) fun e t1 z => z)
    cases fl with
    | next => exact wpAny_execs_nil (hsp.elim fun σ1 h => h.elim fun H1 h => ⟨σ1, H1, h.1.ofTry ok, h.2⟩)
    | brk => exact hsp.elim fun σ1 h => h.elim fun H1 h => ⟨σ1, H1, h.1.ofTry ok, h.2⟩
    | cont => exact hsp.elim fun σ1 h => h.elim fun H1 h => ⟨σ1, H1, h.1.ofTry ok, h.2⟩
    | ret u =>
      obtain ⟨v, σ1, H1, J1, rv, q⟩ := hsp
      exact ⟨v, σ1, H1, J1.ofTry ok, rv, q⟩
  -- an exception came out of the body
  obtain ⟨p, B, t0, pins0, σ1, H1, cls, dd, rfl, J0, nb, up0, sky, np, os, ag, w⟩ := caught
  have J := J0.ofTry ok
  rw [est] at sky
  show wpAny (model X.prog X.w) X.A (noteFrame (.ref p) X.env) _ _ _
  refine L2N.Sky.land L2N.Zn.steady frm efr sky fun hA la uA => ?_
  have JA : Inv X pins σ1 H1 { t with heap := hA } := J.landed nb la.1 (up0.trans uA) os ag
  obtain ⟨oA, vA, eA, zA, fA⟩ := la.there
  have apart : p ∉ frs (X.env :: X.outer) := fun m => by
    obtain ⟨_, o', e', nf⟩ := la.2.2.1.mem m
    cases eA.symm.trans e'
    exact nf _ fA
  have nLoc : p ≠ X.env.locals := fun z => apart (List.mem_filterMap.mpr ⟨X.env, List.mem_cons_self, by rw [efr, z]⟩)
  have nFs : p ∉ X.fs := fun m => by
    obtain ⟨e, me, q⟩ := List.mem_filterMap.mp m
    exact apart (List.mem_filterMap.mpr ⟨e, List.mem_cons_of_mem _ me, q⟩)
  have SA := JA.suite eA fA np nLoc nFs
  have looks : PySem.W.Looks (model X.prog X.w) hA (typeOf (.ref p)) cls := fun A Q E t k q => wpAny_typeOf_ref (k _ _ eA) (by rw [zA.1]; exact q)
  suffices go : ∀ {hs' : List ExceptHandler} {l' : List Clz}, ClzOk X hs' l' → wClz X.K Wo D l' cls dd σ1 H1 → wpAny (model X.prog X.w) X.A (handleBy (.ref p) X.env hs') (SP X pins D) X.xe { t with heap := hA } from go cl w
  intro hs' l' ck
  induction ck with
  | nil =>
    intro w
    refine wpAny_handleBy_nil ?_
    obtain ⟨_, _, _, o, vs, T, oT, ts', eo, zo, fo, f1, hr⟩ := id la
    unfold PySem.passOn
    refine wpAny_bind (wpAny_field eo fo f1 ?_)
    rw [if_neg (show ¬ ((Value.ref T == Value.none) = true) from by simp)]
    have thrown : wpAny (model X.prog X.w) X.A (setFlight (.ref p) X.env.frame) (fun _ t4 => wpAny (model X.prog X.w) X.A (throw (.ref p) : Sem Flow) (SP X pins D) X.xe t4) X.xe { t with heap := hA } := by
      rw [efr]
      refine HandSPX.setFlight_upZ la fun hB lb uB => wpAny_throw (tk _ _ ⟨p, B, t0, pins, σ1, H1, cls, dd, rfl, J, nb, (up0.trans uA).trans uB, .inr (.inr (by rw [est]; exact lb)), np, os, ag, w⟩)
    first
      | exact wpAny_bind (wpAny_pure (wpAny_bind thrown))
      | exact wpAny_bind thrown
  | @cons x n b0 su q0 q1 hs2 l2 z hi hl hc run r ih =>
    intro w
    obtain ⟨b, hb, yes, no⟩ := w
    refine wpAny_handleBy_cons (codeAny_handlers_test ?_) (by intro q; cases q)
    have mat := PySem.W.exm_one (M := model X.prog X.w) JA.kIn looks hb
    have tested : ∀ {Q : Value → Shared → Prop} {E : Value → Shared → Prop}, Q z.c { t with heap := hA } → wpAny (model X.prog X.w) (X.A.mark (some (.ref p))) (eval (.Name x q0) X.env) Q E { t with heap := hA } := fun {Q E} hq => by
      obtain ⟨hg, hdb, hm | ⟨hm, hv, hn⟩⟩ := hc
      · exact ld_glob (X := X.suite p ((p, oA) :: (X.pn ++ pins))) SA hg hm hq hdb
      · exact ld_blt (X := X.suite p ((p, oA) :: (X.pn ++ pins))) SA hg hm hv hq hn hdb
    refine tested (mat.here ?_)
    cases b with
    | false =>
      show wpAny _ X.A (handleBy (.ref p) X.env hs2) _ _ _
      exact ih (no rfl)
    | true =>
      refine codeAny_handlers_suite_as (HandSPX.lands_againZ la fun hB lb uB => ?_)
      have JB : Inv X pins σ1 H1 { t with heap := hB } := J.landed nb lb.1 ((up0.trans uA).trans uB) os ag
      obtain ⟨oB, vB, eB, zB, fB⟩ := lb.there
      have SB := JB.suite eB fB np nLoc nFs
      refine store_ok (X := X.suite p ((p, oB) :: (X.pn ++ pins))) (v := .ref p) SB nd hi (.inl hl) rfl (fun t5 S5 => ?_) (.inr hl)
      refine wpAny_mono ((run p oB cls dd (X.pn ++ pins) zB ⟨_, fB⟩).run [] t5 _ H1 _ S5 (yes rfl p np)) (fun fl t6 hsp => ?_) (fun _ _ z => z.elim)
      have unbind : ∀ {σ6 : MB.St} {H6 : Hp} {Q : Shared → Prop}, Inv (X.suite p ((p, oB) :: (X.pn ++ pins))) [] σ6 H6 t6 → (∀ t7, Inv X pins (σ6.set z.i none) H6 t7 → Q t7) →
          wpAny (model X.prog X.w) X.A (do bindName X.env n .none; unbindBehindTheSuite X.env n q1) (fun _ t7 => Q t7) X.xe t6 := fun S6 hq => gone_ok (S6.unsuite ok) nd hi hl hq
      cases fl with
      | next => exact hsp.elim fun σ6 h => h.elim fun H6 h => unbind h.1 fun t7 J7 => ⟨_, _, J7, h.2⟩
      | brk => exact hsp.elim fun σ6 h => h.elim fun H6 h => unbind h.1 fun t7 J7 => ⟨_, _, J7, h.2⟩
      | cont => exact hsp.elim fun σ6 h => h.elim fun H6 h => unbind h.1 fun t7 J7 => ⟨_, _, J7, h.2⟩
      | ret u =>
        obtain ⟨v6, σ6, H6, S6, r6, q6⟩ := hsp
        exact unbind S6 fun t7 J7 => ⟨_, _, _, J7, r6, q6⟩
/-! ### try by values -/
structure Hdl where
  i : Nat
  t : Str → Option Bool
  g : SX
def hdlS (x : Ex) (ρ : En) : List Hdl → Fl
  | [] => .err x ρ
  | z :: r => match z.t x.c with
    | some true => match z.g (ρ.set z.i (some (.exc x))) with
      | .nx ρ2 => if noExc (ρ2.set z.i none) then .nx (ρ2.set z.i none) else .stuck
      | .bk ρ2 => if noExc (ρ2.set z.i none) then .bk (ρ2.set z.i none) else .stuck
      | .ct ρ2 => if noExc (ρ2.set z.i none) then .ct (ρ2.set z.i none) else .stuck
      | .rt d ρ2 => if noExc (ρ2.set z.i none) then .rt d (ρ2.set z.i none) else .stuck
      | _ => .stuck
    | some false => hdlS x ρ r
    | none => .stuck
def sTryZ (gb : SX) (l : List Hdl) : SX := fun ρ => match gb ρ with
  | .err x ρ1 => hdlS x ρ1 l
  | r => r
def clzOf (K : Kw) (c : Value) (z : Hdl) : Clz := ⟨c, z.i, fun p cls dd => tS K ⟨some (p, cls, dd)⟩ (fun _ _ _ _ => False) z.g⟩
theorem hdl_ok {K : Kw} {F : Fm} {Wo : WX} {D : Ends} {x : Ex} {ρ : En} {σ : MB.St} {H : Hp} {cls : Value} {dd : Option Addr} (hx1 : RX K ⟨none⟩ F ρ σ H x cls dd) : ∀ {cs : List Value} {l : List Hdl}, cs.length = l.length → (∀ (j : Nat) (c : Value) (z : Hdl), cs[j]? = some c → l[j]? = some z → TEF K.K z.t c) →
    PoS K ⟨none⟩ F Wo (hdlS x ρ l) D → wClz K.K Wo D ((cs.zip l).map fun q => clzOf K q.1 q.2) cls dd σ H
  | [], [], _, _, hp => hp cls dd σ H hx1
  | c :: cs, z :: l, hl, hT, hp => by
    have hp' : PoS K ⟨none⟩ F Wo (match z.t x.c with
      | some true => match z.g (ρ.set z.i (some (.exc x))) with
        | .nx ρ2 => if noExc (ρ2.set z.i none) then Fl.nx (ρ2.set z.i none) else .stuck
        | .bk ρ2 => if noExc (ρ2.set z.i none) then .bk (ρ2.set z.i none) else .stuck
        | .ct ρ2 => if noExc (ρ2.set z.i none) then .ct (ρ2.set z.i none) else .stuck
        | .rt d ρ2 => if noExc (ρ2.set z.i none) then .rt d (ρ2.set z.i none) else .stuck
        | _ => .stuck
      | some false => hdlS x ρ l
      | none => .stuck) D := hp
    obtain ⟨O1, r1, ev⟩ := hx1
    cases e2 : z.t x.c with
    | none => rw [e2] at hp'; exact hp'.elim
    | some b =>
      rw [e2] at hp'
      have hk := hT 0 c z rfl rfl _ _ e2
      have ev1 : cls = .ref (He.ga K.K x.c) := ev.1
      rw [← ev1] at hk
      refine ⟨b, hk, fun hb1 a ha => ?_, fun hb0 => ?_⟩
      · subst hb1
        refine ⟨F, _, ⟨O1, r1.setE (i := z.i) (a := a) ev⟩, ?_⟩
        cases e3 : z.g (ρ.set z.i (some (.exc x))) with
        | nx ρ2 =>
          simp only [e3] at hp'
          split at hp'
          · rename_i hn
            exact fun σ2 H2 ⟨O2, r2⟩ => hp' _ H2 ⟨O2, r2.unE hn⟩
          · exact hp'.elim
        | bk ρ2 =>
          simp only [e3] at hp'
          split at hp'
          · rename_i hn
            exact fun σ2 H2 ⟨O2, r2⟩ => hp' _ H2 ⟨O2, r2.unE hn⟩
          · exact hp'.elim
        | ct ρ2 =>
          simp only [e3] at hp'
          split at hp'
          · rename_i hn
            exact fun σ2 H2 ⟨O2, r2⟩ => hp' _ H2 ⟨O2, r2.unE hn⟩
          · exact hp'.elim
        | rt d ρ2 =>
          simp only [e3] at hp'
          split at hp'
          · rename_i hn
            exact fun v σ2 H2 ⟨O2, r2, dv⟩ => hp' v _ H2 ⟨O2, r2.unE hn, dv⟩
          · exact hp'.elim
        | err y ρ2 => simp only [e3] at hp'; exact hp'.elim
        | stuck => simp only [e3] at hp'; exact hp'.elim
      · subst hb0
        exact hdl_ok ⟨O1, r1, ev⟩ (by simpa using hl) (fun j c' z' e1 e2 => hT (j + 1) c' z' (by simpa using e1) (by simpa using e2)) hp'
/-- the clauses' facts -/
inductive HdlOk (X : Cx) : List ExceptHandler → List Value → List Hdl → Prop
  | nil : HdlOk X [] [] []
  | cons {x n : Str} {c : Value} {b0 : Stmt} {su : List Stmt} {q q' : Pos} {hs : List ExceptHandler} {cs : List Value} {l : List Hdl} {z : Hdl} (hi : X.N[z.i]? = some n) (hl : X.env.kindOf n = some .local) (hc : Names X x c) (hT : TEF X.K z.t c)
      (run : ∀ (a : Addr) (oe : Obj) (cls : Value) (d : Option Addr) (pn : List (Addr × Obj)), HxOk (X.suite a ((a, oe) :: pn)) ⟨some (a, cls, d)⟩ → PSs (X.suite a ((a, oe) :: pn)) (b0 :: su) (tS X.kw ⟨some (a, cls, d)⟩ (fun _ _ _ _ => False) z.g)) (r : HdlOk X hs cs l) :
      HdlOk X (.ExceptHandler (some (.Name x q)) (some n) (b0 :: su) q' :: hs) (c :: cs) (z :: l)
theorem HdlOk.len {X : Cx} : ∀ {hs : List ExceptHandler} {cs : List Value} {l : List Hdl}, HdlOk X hs cs l → cs.length = l.length
  | _, _, _, .nil => rfl
  | _, _, _, .cons _ _ _ _ _ r => by rw [List.length_cons, List.length_cons, r.len]
theorem HdlOk.te {X : Cx} : ∀ {hs : List ExceptHandler} {cs : List Value} {l : List Hdl}, HdlOk X hs cs l → ∀ (j : Nat) (c : Value) (z : Hdl), cs[j]? = some c → l[j]? = some z → TEF X.K z.t c
  | _, _, _, .nil, j, c, z, e, _ => by simp at e
  | _, _, _, .cons _ _ _ hT _ r, 0, c, z, e1, e2 => by cases e1; cases e2; exact hT
  | _, _, _, .cons _ _ _ hT _ r, j + 1, c, z, e1, e2 => r.te j c z (by simpa using e1) (by simpa using e2)
theorem HdlOk.clz {X : Cx} : ∀ {hs : List ExceptHandler} {cs : List Value} {l : List Hdl}, HdlOk X hs cs l → ClzOk X hs ((cs.zip l).map fun q => clzOf X.kw q.1 q.2)
  | _, _, _, .nil => .nil
  | _, _, _, .cons hi hl hc _ run r => .cons (z := clzOf X.kw _ _) hi hl hc (fun p o cls dd pn hz hf => run p o cls dd pn ⟨p, o, cls, dd, rfl, List.mem_cons_self, ⟨rfl, by
      obtain ⟨vs, e⟩ := hf
      exact ⟨vs, e, hz.2.2 vs e⟩⟩, hz.zc⟩) r.clz
theorem p_tryZ {X : Cx} {body : List Stmt} {hd : ExceptHandler} {hs : List ExceptHandler} {cs : List Value} {l : List Hdl} {pos : Pos} {Wo : WX} {gb : SX} (est : X.stack = X.env :: X.outer) (efr : X.env.frame = some X.env.locals) (nd : X.N.Nodup) (tk : L2N.Takes X Wo)
    (hb : ∀ (W : WX) (pn : List (Addr × Obj)) (xe : Value → Shared → Prop), L2N.Takes (X.tr pn xe) W → PassesOwn (model X.prog X.w) X.A X.env xe → PSs (X.tr pn xe) body (tS X.kw ⟨none⟩ W gb))
    (hh : HdlOk X (hd :: hs) cs l) : PS X (.Try body (hd :: hs) [] [] pos) (tS X.kw ⟨none⟩ Wo (sTryZ gb l)) :=
  (ps_tryZ (tb := fun W => tS X.kw ⟨none⟩ W gb) est efr nd tk hb hh.clz).imp fun D σ H h => by
    obtain ⟨F, ρ, r, hp⟩ := h
    refine ⟨F, ρ, r, ?_⟩
    unfold sTryZ at hp
    cases e : gb ρ with
    | nx ρ1 => rw [e] at hp; exact hp
    | rt d ρ1 => rw [e] at hp; exact hp
    | bk ρ1 => rw [e] at hp; exact hp
    | ct ρ1 => rw [e] at hp; exact hp
    | stuck => rw [e] at hp; exact hp
    | err y ρ1 =>
      rw [e] at hp
      exact fun cls dd σ1 H1 hx1 => hdl_ok hx1 hh.len hh.te hp
end MB

/-! in, not in, len over all kinds; enumerate; {}; a = b = e. -/
namespace MB
open PySem PySem.Spec PyProof.Rows L2
/-! ### not in -/
def rNinM (K : Fg) : R2 := fun x y H Q => rIn K true x y H Q ∨ rNotInD K x y H Q
theorem o_ninM {X : Cx} (hu : X.A.units + 65 < cLine) : OpR X (compareOp .NotIn) (rNinM X.K) := op_notIn_seq.or (op_notInD hu)
def ninM (d e : D) : Option D := (inM d e).map notD
theorem s_ninM {K : Kw} : Op2 K (rNinM K.K) ninM := by
  intro O H x y d e res Q hd hx hy h q
  obtain ⟨z, h1, h2⟩ := Option.map_eq_some_iff.mp (show (inM d e).map notD = some res from h)
  cases e <;> (try (cases d <;> cases h1; done))
  · rename_i xs
    refine .inl (s_nin O H x y d (.tup xs) res Q hd hx hy ?_ q)
    obtain ⟨b, hb, e1⟩ := Option.map_eq_some_iff.mp (show (inB d xs).map D.bl = some z by cases d <;> exact h1)
    have : (inB d xs).map (fun b => D.bl (!b)) = some res := by rw [hb, ← h2, ← e1]; rfl
    cases d <;> exact this
  · rename_i xs
    have h' : (match inB d xs with
      | some b => some (.bl b)
      | none => (inDeep d xs).map .bl) = some z := by cases d <;> exact h1
    cases e1 : inB d xs with
    | some b =>
      rw [e1] at h'
      refine .inl (s_nin O H x y d (.lst xs) res Q hd hx hy ?_ q)
      have h3 : some (D.bl b) = some z := h'
      cases h3
      have : (inB d xs).map (fun b => D.bl (!b)) = some res := by rw [e1, ← h2]; rfl
      cases d <;> exact this
    | none =>
      rw [e1] at h'
      obtain ⟨b, hb, rfl⟩ := Option.map_eq_some_iff.mp (show (inDeep d xs).map D.bl = some z from h')
      unfold inDeep at hb
      cases e2 : toPy d with
      | none => simp only [e2] at hb; cases hb
      | some a =>
        cases e3 : toPys xs with
        | none => simp only [e2, e3] at hb; cases hb
        | some ps =>
          simp only [e2, e3] at hb
          split at hb
          · rename_i hs
            obtain ⟨s1, s2⟩ := Bool.and_eq_true_iff.mp hs
            cases hb
            subst h2
            refine .inr ⟨a, ps, Dp.mono_wo hx e2, Dp.mono_wo hy ?_, s1, s2, q _ H (Same.refl H) (.bl _)⟩
            rw [toPy, e3]
            rfl
          · cases hb
def rNinA (w : World) (K : Fg) : R2 := fun x y H Q => rSNotIn w x y H Q ∨ rDNotIn x y H Q ∨ rNinM K x y H Q
theorem o_ninA {X : Cx} (hu : X.A.units + 65 < cLine) : OpR X (compareOp .NotIn) (rNinA X.w X.K) := or_snotin.or ((op_dnotin (by omega)).or (o_ninM hu))
theorem ninS_ok {K : Kw} {O : Ow} {H : Hp} {S : Store} {x y : V} {d e z : D} {n : Nat} {Q : VK} (c : Ce K O S H) (hx : DV K (wo O H) x d) (hy : DV K (wo O H) y e) (q : inS n S d e = some z) (hq : ∀ v, DV K (wo O H) v (notD z) → Q v H) (hq2 : ∀ v H', Same H H' → DV K (wo O H') v (notD z) → Q v H') : rNinA K.w K.K x y H Q := by
  unfold inS at q
  cases e1 : setAt S e with
  | some p =>
    obtain ⟨m, ns⟩ := p
    rw [e1] at q
    cases d <;> (try (cases q; done))
    rename_i k
    cases q
    obtain ⟨_, a, rfl, _, h1⟩ := c.setAt hy e1
    cases hx
    exact .inl ⟨k, a, _, _, rfl, rfl, h1, hq _ (.bl _)⟩
  | none =>
    rw [e1] at q
    have q2 : (match dctAt S e with
      | some (_, kvs) => (keyD' d).map fun k => D.bl (getA kvs k).isSome
      | none => inM (seeD S n d) (seeD S n e)) = some z := q
    cases e2 : dctAt S e with
    | some p =>
      obtain ⟨m, kvs⟩ := p
      rw [e2] at q2
      obtain ⟨k, e3, e4⟩ := Option.map_eq_some_iff.mp (show (keyD' d).map (fun k => D.bl (getA kvs k).isSome) = some z from q2)
      cases e4
      obtain ⟨_, a, vs, rfl, _, h1, t⟩ := c.dctAt hy e2
      rw [keyD'_ok hx e3]
      refine .inr (.inl ⟨a, _, rfl, DGet.k h1, ?_⟩)
      rw [t.isSome]
      exact hq _ (.bl _)
    | none =>
      rw [e2] at q2
      have q3 : inM (seeD S n d) (seeD S n e) = some z := q2
      obtain ⟨b, rfl⟩ := b_inM _ _ _ q3
      refine .inr (.inr (op2_al (n := n) (z := notD (.bl b)) s_ninM c hx hy ?_ rfl hq2))
      show (inM (seeD S n d) (seeD S n e)).map notD = _
      rw [q3]
      rfl
theorem b_inS {n : Nat} {S : Store} {d e z : D} (h : inS n S d e = some z) : ∃ b, z = .bl b := by
  unfold inS at h
  cases e1 : setAt S e with
  | some p =>
    rw [e1] at h
    cases d <;> (try (cases h; done))
    cases h
    exact ⟨_, rfl⟩
  | none =>
    rw [e1] at h
    have q2 : (match dctAt S e with
      | some (_, kvs) => (keyD' d).map fun k => D.bl (getA kvs k).isSome
      | none => inM (seeD S n d) (seeD S n e)) = some z := h
    cases e2 : dctAt S e with
    | some p =>
      rw [e2] at q2
      obtain ⟨k, e3, e4⟩ := Option.map_eq_some_iff.mp q2
      exact ⟨_, e4.symm⟩
    | none =>
      rw [e2] at q2
      exact b_inM _ _ _ q2
def eNinA (n : Nat) (fa fb : EX) : EX := fun ρ => (fa ρ).bind fun d ρ1 => (fb ρ1).bind fun e ρ2 => match inS n ρ2.st d e with
  | some z => .ok (notD z) ρ2
  | none => .stuck
section
variable {X : Cx} {hx : Hx} {W : WX} {a b : Expr} {fa fb : EX} {pos : Pos} {n : Nat}
theorem r_inA (hu : X.A.units + 65 < cLine) (ha : PE X a (tX X.kw hx W fa)) (hb : PE X b (tX X.kw hx W fb)) (hm : behindInMarks .In b = false := by rfl) : PE X (.Compare a [.In] [b] pos) (tX X.kw hx W (eInA n fa fb)) :=
  (pe_cmpR (o_inA hu) ha hb hm).imp fun σ H Q h => by
    obtain ⟨F, ρ, ⟨O, r0⟩, hp⟩ := h
    refine bindX r0 hp fun d ρ1 v H1 O1 r1 s1 dv hp1 => ?_
    refine bindX r1 hp1 fun e ρ2 u H2 O2 r2 s2 du hp2 => ?_
    cases q : inS n ρ2.st d e with
    | none => rw [q] at hp2; exact hp2.elim
    | some z =>
      rw [q] at hp2
      exact inS_ok r2.ce (DV.mono s2 _ _ dv) du q (fun v' dv' => hp2 v' H2 ⟨O2, r2, dv'⟩) fun v' H' s' dv' => hp2 v' H' ⟨O2, r2.grow s', dv'⟩
theorem r_ninA (hu : X.A.units + 65 < cLine) (ha : PE X a (tX X.kw hx W fa)) (hb : PE X b (tX X.kw hx W fb)) (hm : behindInMarks .NotIn b = false := by rfl) : PE X (.Compare a [.NotIn] [b] pos) (tX X.kw hx W (eNinA n fa fb)) :=
  (pe_cmpR (o_ninA hu) ha hb hm).imp fun σ H Q h => by
    obtain ⟨F, ρ, ⟨O, r0⟩, hp⟩ := h
    refine bindX r0 hp fun d ρ1 v H1 O1 r1 s1 dv hp1 => ?_
    refine bindX r1 hp1 fun e ρ2 u H2 O2 r2 s2 du hp2 => ?_
    cases q : inS n ρ2.st d e with
    | none => rw [q] at hp2; exact hp2.elim
    | some z =>
      rw [q] at hp2
      exact ninS_ok r2.ce (DV.mono s2 _ _ dv) du q (fun v' dv' => hp2 v' H2 ⟨O2, r2, dv'⟩) fun v' H' s' dv' => hp2 v' H' ⟨O2, r2.grow s', dv'⟩
theorem r_inAT (hu : X.A.units + 65 < cLine) (ha : PE X a (tX X.kw hx W fa)) (hb : PE X b (tX X.kw hx W fb)) (hm : behindInMarks .In b = false := by rfl) : PT X (.Compare a [.In] [b] pos) (tT X.kw hx W (eInA n fa fb)) :=
  (pt_cmpR (o_inA hu) ha hb hm).imp fun σ H Q h => by
    obtain ⟨F, ρ, ⟨O, r0⟩, hp⟩ := h
    refine bindXT r0 hp fun d ρ1 v H1 O1 r1 s1 dv hp1 => ?_
    refine bindXT r1 hp1 fun e ρ2 u H2 O2 r2 s2 du hp2 => ?_
    cases q : inS n ρ2.st d e with
    | none => rw [q] at hp2; exact hp2.elim
    | some z =>
      rw [q] at hp2
      obtain ⟨b, rfl⟩ := b_inS q
      obtain ⟨b', hb', k⟩ := (show PoT X.kw hx F W σ (.ok (.bl b) ρ2) Q from hp2)
      cases hb'
      exact inS_ok r2.ce (DV.mono s2 _ _ dv) du q (fun v' dv' => by cases dv'; exact ⟨b, rfl, k H2 ⟨O2, r2⟩⟩) fun v' H' s' dv' => by cases dv'; exact ⟨b, rfl, k H' ⟨O2, r2.grow s'⟩⟩
theorem r_ninAT (hu : X.A.units + 65 < cLine) (ha : PE X a (tX X.kw hx W fa)) (hb : PE X b (tX X.kw hx W fb)) (hm : behindInMarks .NotIn b = false := by rfl) : PT X (.Compare a [.NotIn] [b] pos) (tT X.kw hx W (eNinA n fa fb)) :=
  (pt_cmpR (o_ninA hu) ha hb hm).imp fun σ H Q h => by
    obtain ⟨F, ρ, ⟨O, r0⟩, hp⟩ := h
    refine bindXT r0 hp fun d ρ1 v H1 O1 r1 s1 dv hp1 => ?_
    refine bindXT r1 hp1 fun e ρ2 u H2 O2 r2 s2 du hp2 => ?_
    cases q : inS n ρ2.st d e with
    | none => rw [q] at hp2; exact hp2.elim
    | some z =>
      rw [q] at hp2
      obtain ⟨b, rfl⟩ := b_inS q
      obtain ⟨b', hb', k⟩ := (show PoT X.kw hx F W σ (.ok (.bl (!b)) ρ2) Q from hp2)
      cases hb'
      exact ninS_ok r2.ce (DV.mono s2 _ _ dv) du q (fun v' dv' => by cases dv'; exact ⟨!b, rfl, k H2 ⟨O2, r2⟩⟩) fun v' H' s' dv' => by cases dv'; exact ⟨!b, rfl, k H' ⟨O2, r2.grow s'⟩⟩
end
/-! ### len -/
def lenS (S : Store) (d : D) : Option D := match dctAt S d with
  | some (_, kvs) => some (.int (kvs.length : Nat))
  | none => lenD [see1 S d]
def eLenS (fa : EX) : EX := evs [fa] fun ds ρ => match ds with
  | [d] => match lenS ρ.st d with
    | some z => .ok z ρ
    | none => .stuck
  | _ => .stuck
def rLenA (K : Fg) : List V → Hp → VK → Prop := fun xs H Q => (∃ a kvs, xs = [V.ref a] ∧ H a = some (.dK kvs) ∧ Q (.int kvs.length) H) ∨ ∃ x n, xs = [x] ∧ LenV K x H n ∧ Q (.int n) H
theorem c_lenA {X : Cx} : CallR X (.builtin "len") (rLenA X.K) := call_lenD.or call_len
theorem r_lenA {X : Cx} {hx : Hx} {W : WX} {e : Expr} {fa : EX} {pos p : Pos} (hm : X.mg "len" = none) (ha : PA X [e] (tA X.kw hx W [fa])) (hg : Gl X "len" := by rfl)
    (he : starEach [e] X.env = (false, eval e X.env) :: starEach [] X.env := by rfl) (hpl : (backTo pos (starEach [] X.env)).any (·.1) = false := by rfl) : PE X (.Call (.Name "len" p) [e] [] pos) (tX X.kw hx W (eLenS fa)) :=
  (pe_callB c_lenA hg hm PySem.boot_len ha (by decide) (by decide) he hpl).imp fun σ H Q h => by
    obtain ⟨F, ρ, ⟨O, r0⟩, hp⟩ := h
    refine tA_of r0 hp fun F1 ds ρ1 vs H1 O1 ln r1 dvs q => ?_
    match ds, ln with
    | [d], _ =>
      obtain ⟨v, rfl, dv⟩ := dvs.one
      have q1 : Po X.kw hx F1 W σ (match lenS ρ1.st d with
        | some z => Rs.ok z ρ1
        | none => .stuck) Q := q
      cases e : lenS ρ1.st d with
      | none => rw [e] at q1; exact q1.elim
      | some z =>
        rw [e] at q1
        unfold lenS at e
        cases e1 : dctAt ρ1.st d with
        | some p =>
          obtain ⟨m, kvs⟩ := p
          rw [e1] at e
          cases e
          obtain ⟨_, a, ws, rfl, _, h1, t⟩ := r1.ce.dctAt dv e1
          refine .inl ⟨a, ws, rfl, h1, ?_⟩
          rw [t.length]
          exact q1 _ H1 ⟨O1, r1, .int _⟩
        | none =>
          rw [e1] at e
          have e2 : lenD [see1 ρ1.st d] = some z := e
          have lv := see1_lv r1.ce dv
          generalize see1 ρ1.st d = d2 at lv e2
          cases lv with
          | dat dv' => exact .inr (s_len O1 H1 _ _ z Q r1.dom (.cons dv' .nil) e2 fun v' H' s' dv' => q1 v' H' ⟨O1, r1.grow s', dv'⟩)
          | lst g t =>
            rename_i a ws ds
            have e4 : some (D.int (ds.length : Nat)) = some z := e2
            cases e4
            refine .inr ⟨_, _, rfl, .inl ⟨ws, .of g, rfl⟩, ?_⟩
            rw [t.length]
            exact q1 _ H1 ⟨O1, r1, .int _⟩
/-! ### {} -/
def eDct0 : EX := fun ρ => .ok (.ce ρ.st.length) ⟨ρ.sl, ρ.st ++ [some (.dct [])]⟩
theorem r_dct0 {X : Cx} {hx : Hx} {W : WX} {pos : Pos} : PE X (.Dict [] [] pos) (tX X.kw hx W eDct0) := (pe_dnewK).imp fun σ H Q h => by
  obtain ⟨F, ρ, ⟨O, r⟩, hp⟩ := h
  intro p np
  obtain ⟨O', r', dv', _⟩ := r.newC (c := .dct []) (o := .dK []) np ⟨[], rfl, .nil⟩
  exact hp _ _ ⟨O', r', dv'⟩
/-! ### enumerate -/
def enumD (ds : List D) : List D := ds.zipIdx.map fun p => .tpx [.int (p.2 : Nat), p.1]
theorem enumD_get {ds : List D} {i : Nat} {d : D} (h : (enumD ds)[i]? = some d) : ∃ x, ds[i]? = some x ∧ d = .tpx [.int (i : Nat), x] := by
  unfold enumD at h
  rw [List.getElem?_map, List.getElem?_zipIdx] at h
  cases e : ds[i]? with
  | none => rw [e] at h; cases h
  | some x =>
    rw [e] at h
    refine ⟨x, rfl, ?_⟩
    have h' : some (D.tpx [.int ((0 + i : Nat) : Int), x]) = some d := h
    rw [Nat.zero_add] at h'
    exact (Option.some.inj h').symm
theorem its_enum {K : Kw} {T : Fz} {a : Addr} {vs : List V} {ds : List D} (s1 : T.h a = some (.lst vs)) (t1 : DVs K T vs ds) : Its K T (Ite K.K a) (enumD ds) := fun i H st => by
  refine ⟨fun d hd => ?_, fun hi => ⟨vs, .of (st _ _ s1), ?_⟩⟩
  · obtain ⟨dx, e1, rfl⟩ := enumD_get hd
    obtain ⟨x, hx, vx⟩ := t1.get e1
    refine ⟨⟨vs, x, .of (st _ _ s1), hx⟩, fun v H' yl => ?_⟩
    obtain ⟨c, x', rfl, hn, rfl, h1⟩ := yl
    have ex : x' = x := Option.some.inj ((h1 vs (.of (st _ _ s1))).symm.trans hx)
    subst ex
    exact ⟨same_upd hn, fun O dom so => (pair_new hn dom (.int _) (DV.mono so _ _ vx)).2⟩
  · rw [t1.length]
    unfold enumD at hi
    simp only [List.length_map, List.length_zipIdx] at hi
    exact hi
def iEn (f : EX) : IX := iB f fun d ρ1 => match d with
  | .lst xs => .ok (enumD xs) ρ1
  | _ => .stuck
theorem ri_enum {K : Kw} {hx : Hx} {W : WX} {f : EX} : RI K hx W (iEn f) (iEnum K.K (tCons (tX K hx W f) tNil)) := by
  intro σ H R F ρ O r hp
  refine bindI (P := fun z => match z with
    | .ok ds ρ1 => ∀ (J : It) (H1 : Hp) (O1 : Ow), RO K hx F ρ1 σ H1 O1 → FSame (wo O H) (wo O1 H1) → Its K (wo O1 H1) J ds → R J H1
    | .err x ρ1 => ∀ cls dd H1, RX K hx F ρ1 σ H1 x cls dd → W cls dd σ H1
    | .stuck => False) r hp (fun x ρ1 h => h) (fun h => h) fun d ρ1 v H1 O1 r1 s1 dv q => ?_
  cases d <;> (try exact (q : False).elim)
  obtain ⟨a, vs, rfl, s, t⟩ := dv.lst_of
  exact ⟨a, vs, rfl, .of (wo_same O1 H1 _ _ s), q _ H1 O1 r1 s1 (its_enum s t)⟩
/-! ### a = b = e -/
def sAsg2 (b1 b2 : BX) (f : EX) : SX := fun ρ => (f ρ).then fun d ρ1 => match b1 d ρ1 with
  | some ρ2 => match b2 d ρ2 with
    | some ρ3 => .nx ρ3
    | none => .stuck
  | none => .stuck
theorem p_asg2 {X : Cx} {hx : Hx} {W : WX} {t1 t2 e : Expr} {f : EX} {b1 b2 : BX} {is js : List Nat} {pos : Pos} (he : PE X e (tX X.kw hx W f)) (h1 : PG X t1 (tG X.kw hx is b1)) (h2 : PG X t2 (tG X.kw hx js b2))
    (ha : (assignEach [t1, t2] X.env).map (·.2) = [assign t1 X.env, assign t2 X.env] := by rfl) (hw : swappedStores [t1, t2] e X.env = pure none := by rfl) :
    PS X (.Assign [t1, t2] e pos) (tS X.kw hx W (sAsg2 b1 b2 f)) := (ps_asg2 he h1 h2 ha hw).imp fun D σ H h => by
  obtain ⟨F, ρ, ⟨O, r0⟩, hp⟩ := h
  refine bindS r0 hp fun d ρ1 u H1 O1 r1 du hp1 => ?_
  cases q : b1 d ρ1 with
  | none => rw [q] at hp1; exact hp1.elim
  | some ρ2 =>
    rw [q] at hp1
    refine ⟨F, ρ1, d, O1, ρ2, r1, du, q, fun σ2 _ r2 => ?_⟩
    have hp2 : PoS X.kw hx F W (match b2 d ρ2 with
      | some ρ3 => Fl.nx ρ3
      | none => .stuck) D := hp1
    cases q2 : b2 d ρ2 with
    | none => rw [q2] at hp2; exact hp2.elim
    | some ρ3 =>
      rw [q2] at hp2
      exact ⟨F, ρ2, d, O1, ρ3, r2, du, q2, fun σ3 _ r3 => hp2 σ3 H1 ⟨O1, r3⟩⟩
end MB

/-! Behind a def: the cells that it made and that nobody knows of are forgotten. -/
namespace MB
open PySem PySem.Spec PyProof.Rows L2
mutual
/-- names no cell from n on -/
def clD (n : Nat) : D → Prop
  | .ce k => k < n
  | .tup ds => clDs n ds
  | .tpx ds => clDs n ds
  | .lst ds => clDs n ds
  | .dct _ ds => clDs n ds
  | .obj _ _ ds => clDs n ds
  | _ => True
def clDs (n : Nat) : List D → Prop
  | [] => True
  | d :: ds => clD n d ∧ clDs n ds
end
def clC (n : Nat) : Cn → Prop
  | .lst ds => clDs n ds
  | .dct kvs => clDs n (kvs.map (·.2))
  | .dcT kvs => clDs n (kvs.map (·.2))
  | .obj _ fs => clDs n (fs.map (·.2))
  | .set _ => True
@[simp] theorem clD_non {n : Nat} : clD n .non := by unfold clD; trivial
@[simp] theorem clD_bl {n : Nat} {b : Bool} : clD n (.bl b) := by unfold clD; trivial
@[simp] theorem clD_int {n : Nat} {i : Int} : clD n (.int i) := by unfold clD; trivial
@[simp] theorem clD_str {n : Nat} {x : Str} : clD n (.str x) := by unfold clD; trivial
@[simp] theorem clD_fn {n : Nat} {x : Str} : clD n (.fn x) := by unfold clD; trivial
@[simp] theorem clD_scr {n : Nat} {x : List Int} : clD n (.scr x) := by unfold clD; trivial
@[simp] theorem clD_ce {n k : Nat} : clD n (.ce k) ↔ k < n := by unfold clD; rfl
@[simp] theorem clD_tup {n : Nat} {ds : List D} : clD n (.tup ds) ↔ clDs n ds := by rw [clD]
@[simp] theorem clD_tpx {n : Nat} {ds : List D} : clD n (.tpx ds) ↔ clDs n ds := by rw [clD]
@[simp] theorem clD_lst {n : Nat} {ds : List D} : clD n (.lst ds) ↔ clDs n ds := by rw [clD]
@[simp] theorem clD_obj {n : Nat} {C : Str} {fs : List Str} {ds : List D} : clD n (.obj C fs ds) ↔ clDs n ds := by rw [clD]
@[simp] theorem clD_dct {n : Nat} {ks : List L2.Key} {ds : List D} : clD n (.dct ks ds) ↔ clDs n ds := by rw [clD]
@[simp] theorem clDs_nil {n : Nat} : clDs n [] := by unfold clDs; trivial
@[simp] theorem clDs_cons {n : Nat} {d : D} {ds : List D} : clDs n (d :: ds) ↔ clD n d ∧ clDs n ds := by rw [clDs]
theorem clDs_all {n : Nat} : ∀ {ds : List D}, clDs n ds ↔ ∀ d ∈ ds, clD n d
  | [] => by simp
  | d :: ds => by rw [clDs_cons, clDs_all]; simp
@[simp] theorem clDs_append {n : Nat} {ds es : List D} : clDs n (ds ++ es) ↔ clDs n ds ∧ clDs n es := by
  rw [clDs_all, clDs_all, clDs_all]
  simp only [List.mem_append]
  exact ⟨fun h => ⟨fun d m => h d (.inl m), fun d m => h d (.inr m)⟩, fun h d m => m.elim (h.1 d) (h.2 d)⟩
@[simp] theorem clDs_ints {n : Nat} {ns : List Int} : clDs n (ns.map D.int) := by
  rw [clDs_all]
  intro d m
  obtain ⟨i, _, rfl⟩ := List.mem_map.mp m
  simp
section
variable {K : Kw} {z z' : Fz} {n : Nat}
mutual
theorem cl_of : ∀ (d : D) (v : V), DV K z v d → clD z.th.length d
  | .non, _, _ => clD_non
  | .bl _, _, _ => clD_bl
  | .int _, _, _ => clD_int
  | .str _, _, _ => clD_str
  | .fn _, _, _ => clD_fn
  | .scr _, _, _ => clD_scr
  | .tup ds, _, h => by
    cases h with
    | tup a b => exact clD_tup.mpr (cds_of ds _ b)
  | .tpx ds, _, h => by
    cases h with
    | tpx a b => exact clD_tpx.mpr (cds_of ds _ b)
  | .lst ds, _, h => by
    cases h with
    | lst a b => exact clD_lst.mpr (cds_of ds _ b)
  | .dct ks ds, _, h => by
    cases h with
    | dct a e b => exact clD_dct.mpr (cds_of ds _ b)
  | .obj C fs ds, _, h => by
    cases h with
    | obj a e b => exact clD_obj.mpr (cds_of ds _ b)
  | .ce k, _, h => by
    cases h with
    | ce a => exact clD_ce.mpr (List.getElem?_eq_some_iff.mp a).1
theorem cds_of : ∀ (ds : List D) (vs : List V), DVs K z vs ds → clDs z.th.length ds
  | [], _, _ => clDs_nil
  | d :: ds, _, h => by
    cases h with
    | cons a b => exact clDs_cons.mpr ⟨cl_of d _ a, cds_of ds _ b⟩
end
mutual
theorem DV.clo (s : Same z.h z'.h) (t : ∀ k a, k < n → z.th[k]? = some a → z'.th[k]? = some a) : ∀ (d : D) (v : V), clD n d → DV K z v d → DV K z' v d
  | .non, _, _, h => by cases h; exact .non
  | .bl b, _, _, h => by cases h; exact .bl b
  | .int i, _, _, h => by cases h; exact .int i
  | .str x, _, _, h => by cases h; exact .str x
  | .fn x, _, _, h => by cases h; exact .fn x
  | .scr ns, _, _, h => by
    cases h with
    | scr a => exact .scr (s.seq a)
  | .tup ds, _, c, h => by
    cases h with
    | tup a b => exact .tup (a.mono s) (DVs.clo s t ds _ (clD_tup.mp c) b)
  | .tpx ds, _, c, h => by
    cases h with
    | tpx a b => exact .tpx (sqT_mono s a) (DVs.clo s t ds _ (clD_tpx.mp c) b)
  | .lst ds, _, c, h => by
    cases h with
    | lst a b => exact .lst (s _ _ a) (DVs.clo s t ds _ (clD_lst.mp c) b)
  | .dct ks ds, _, c, h => by
    cases h with
    | dct a e b => exact .dct (s _ _ a) e (DVs.clo s t ds _ (clD_dct.mp c) b)
  | .obj C fs ds, _, c, h => by
    cases h with
    | obj a e b => exact .obj (s _ _ a) e (DVs.clo s t ds _ (clD_obj.mp c) b)
  | .ce k, _, c, h => by
    cases h with
    | ce a => exact .ce (t _ _ (clD_ce.mp c) a)
theorem DVs.clo (s : Same z.h z'.h) (t : ∀ k a, k < n → z.th[k]? = some a → z'.th[k]? = some a) : ∀ (ds : List D) (vs : List V), clDs n ds → DVs K z vs ds → DVs K z' vs ds
  | [], _, _, h => by cases h; exact .nil
  | d :: ds, _, c, h => by
    cases h with
    | cons a b => exact .cons (DV.clo s t d _ (clDs_cons.mp c).1 a) (DVs.clo s t ds _ (clDs_cons.mp c).2 b)
end
theorem dA_clo {κ : Type} (s : Same z.h z'.h) (t : ∀ k a, k < n → z.th[k]? = some a → z'.th[k]? = some a) : ∀ {vs : List (κ × V)} {ds : List (κ × D)}, clDs n (ds.map (·.2)) → DA K z vs ds → DA K z' vs ds
  | _, _, _, .nil => .nil
  | _, _, c, .cons a r => .cons (DV.clo s t _ _ (clDs_cons.mp c).1 a) (dA_clo s t (clDs_cons.mp c).2 r)
theorem DF.clo (s : Same z.h z'.h) (t : ∀ k a, k < n → z.th[k]? = some a → z'.th[k]? = some a) : ∀ {vs : List (Str × V)} {ds : List (Str × D)}, clDs n (ds.map (·.2)) → DF K z vs ds → DF K z' vs ds
  | _, _, _, .nil => .nil
  | _, _, c, .cons a r => .cons (DV.clo s t _ _ (clDs_cons.mp c).1 a) (DF.clo s t (clDs_cons.mp c).2 r)
theorem CnOk.clo (s : Same z.h z'.h) (t : ∀ k a, k < n → z.th[k]? = some a → z'.th[k]? = some a) {a : Addr} {o : HO} : ∀ {c : Cn}, clC n c → CnOk K z a o c → CnOk K z' a o c
  | .lst ds, c, ⟨vs, e, h⟩ => ⟨vs, e, DVs.clo s t _ _ c h⟩
  | .dct kvs, c, ⟨vs, e, h⟩ => ⟨vs, e, dA_clo s t c h⟩
  | .dcT kvs, c, ⟨vs, e, h⟩ => ⟨vs, e, dA_clo s t c h⟩
  | .obj C fs, c, ⟨dx, vs, e, h⟩ => ⟨dx, vs, e, h.clo s t c⟩
  | .set ns, c, h => h
theorem CnOk.cl {a : Addr} {o : HO} : ∀ {c : Cn}, CnOk K z a o c → clC z.th.length c
  | .lst ds, ⟨vs, e, h⟩ => cds_of _ _ h
  | .dct kvs, ⟨vs, e, h⟩ => cds_of _ _ h.split.2
  | .dcT kvs, ⟨vs, e, h⟩ => cds_of _ _ h.split.2
  | .obj C fs, ⟨dx, vs, e, h⟩ => cds_of _ _ h.split.2
  | .set ns, h => trivial
end
/-- the store behind: what stood ahead, changed, and what may be forgotten -/
structure CutOk (S S' S1 : Store) : Prop where
  app : ∃ T, S' = S1 ++ T
  len : S1.length = S.length
  cs : ∀ (i : Nat) (c : Cn), S1[i]? = some (some c) → S[i]? = some (some c) ∨ clC S.length c
theorem cut_ok {K : Kw} {O O' : Ow} {S S' S1 : Store} {H H' : Hp} (c0 : Ce K O S H) (s : Stp O H O' H') (c1 : Ce K O' S' H') (k : CutOk S S' S1) :
    ∃ O2 : Ow, Stp O H O2 H' ∧ Ce K O2 S1 H' ∧ Same (wo O' H').h (wo O2 H').h ∧ ∀ i a, i < S.length → (wo O' H').th[i]? = some a → (wo O2 H').th[i]? = some a := by
  obtain ⟨T, rfl⟩ := k.app
  obtain ⟨E, hE⟩ := s.fs.th
  have hE' : O'.th = O.th ++ E := hE.symm
  have n1 : S1.length = O.th.length := k.len.trans c0.ln
  have low : ∀ {i : Nat} {a : Addr}, i < O.th.length → (O'.th[i]? = some a ↔ O.th[i]? = some a) := fun {i a} h => by
    rw [hE', List.getElem?_append_left h]
  have lowS : ∀ {i : Nat}, i < O.th.length → (S1 ++ T)[i]? = S1[i]? := fun {i} h => List.getElem?_append_left (by rw [n1]; exact h)
  have nE : ∀ {i : Nat} {a : Addr}, O.th[i]? = some a → a ∉ E := fun {i a} h m => by
    have nd := c1.nd
    rw [hE', List.nodup_append] at nd
    exact nd.2.2 a (List.mem_of_getElem? h) a m rfl
  let l2 : List Addr := O'.l.filter fun a => decide (a ∉ E)
  have hl2 : ∀ a, a ∈ l2 ↔ a ∈ O'.l ∧ a ∉ E := fun a => by simp [l2]
  have hs : Same (wo O' H').h (wo ⟨O.th, l2, O'.hid⟩ H').h := fun a o q => by
    have q' : (if a ∈ O'.l then none else H' a) = some o := q
    show (if a ∈ l2 then none else H' a) = some o
    split at q'
    · cases q'
    · rename_i m
      rw [if_neg fun z => m ((hl2 a).mp z).1]
      exact q'
  have ht : ∀ i a, i < S.length → (wo O' H').th[i]? = some a → (wo ⟨O.th, l2, O'.hid⟩ H').th[i]? = some a := fun i a h q => (low (by rw [← c0.ln]; exact h)).mp q
  refine ⟨⟨O.th, l2, O'.hid⟩, ⟨⟨fun a o q => hs a o (s.fs.h a o q), List.prefix_refl _⟩, s.hid, s.hs⟩, ⟨fun a => ?_, c1.hd, fun a m q => c1.dj a m (by rw [hE']; exact List.mem_append_left _ q), ?_, n1, fun i c a q1 q2 => ?_, fun a m => c1.al a (by rw [hE']; exact List.mem_append_left _ m)⟩, hs, ht⟩
  · show a ∈ l2 ↔ _ ∨ a ∈ O'.hid
    rw [hl2]
    constructor
    · rintro ⟨m, ne⟩
      rcases (c1.ow a).mp m with ⟨i, c, q1, q2⟩ | m
      · by_cases h : i < O.th.length
        · exact .inl ⟨i, c, (low h).mp q1, by rw [← lowS h]; exact q2⟩
        · rw [hE', List.getElem?_append_right (by omega)] at q1
          exact absurd (List.mem_of_getElem? q1) ne
      · exact .inr m
    · rintro (⟨i, c, q1, q2⟩ | m)
      · have h := (List.getElem?_eq_some_iff.mp q1).1
        exact ⟨(c1.ow a).mpr (.inl ⟨i, c, (low h).mpr q1, by rw [lowS h]; exact q2⟩), nE q1⟩
      · exact ⟨(c1.ow a).mpr (.inr m), fun q => c1.dj a m (by rw [hE']; exact List.mem_append_right _ q)⟩
  · have nd := c1.nd
    rw [hE', List.nodup_append] at nd
    exact nd.1
  · have h := (List.getElem?_eq_some_iff.mp q2).1
    obtain ⟨o, e1, e2⟩ := c1.ce i c a (by rw [lowS h]; exact q1) ((low h).mpr q2)
    refine ⟨o, e1, e2.clo hs ht ?_⟩
    rcases k.cs i c q1 with q | q
    · obtain ⟨o0, _, e3⟩ := c0.ce i c a q q2
      have := e3.cl
      rw [c0.ln]
      exact this
    · exact q
open Classical in
/-- a def's answer, its own cells forgotten where that can be -/
noncomputable def trimR (S : Store) : Rt → Rt
  | .ok d S' => if CutOk S S' (S'.take S.length) ∧ clD S.length d then .ok d (S'.take S.length) else .ok d S'
  | .err x S' => if CutOk S S' (S'.take S.length) ∧ clDs S.length (x.fs.map (·.2)) then .err x (S'.take S.length) else .err x S'
  | .stuck => .stuck
noncomputable def runQ (b : SX) (n : Nat) : Fn := fun ds S => trimR S (runS b n ds S)
theorem take_eq {S S' S1 : Store} (k : CutOk S S' S1) : S'.take S.length = S1 := by
  obtain ⟨T, rfl⟩ := k.app
  rw [← k.len]
  simp
theorem trimR_ok {S S' S1 : Store} {d : D} (k : CutOk S S' S1) (c : clD S.length d) : trimR S (.ok d S') = .ok d S1 := by
  have e := take_eq k
  have k2 : CutOk S S' (S'.take S.length) := by rw [e]; exact k
  rw [show trimR S (.ok d S') = .ok d (S'.take S.length) from if_pos ⟨k2, c⟩, e]
theorem trimR_err {S S' S1 : Store} {x : Ex} (k : CutOk S S' S1) (c : clDs S.length (x.fs.map (·.2))) : trimR S (.err x S') = .err x S1 := by
  have e := take_eq k
  have k2 : CutOk S S' (S'.take S.length) := by rw [e]; exact k
  rw [show trimR S (.err x S') = .err x (S'.take S.length) from if_pos ⟨k2, c⟩, e]
/-- nothing that stood is changed -/
theorem CutOk.same {S T : Store} : CutOk S (S ++ T) S := ⟨⟨T, rfl⟩, rfl, fun _ _ h => .inl h⟩
/-- one cell is changed -/
theorem CutOk.one {S T : Store} {k : Nat} {c : Cn} (h : clC S.length c) : CutOk S (S.set k (some c) ++ T) (S.set k (some c)) := by
  refine ⟨⟨T, rfl⟩, by simp, fun i c' q => ?_⟩
  rcases getset q with ⟨g1, g2, _⟩ | ⟨_, g⟩
  · cases g2
    exact .inr h
  · exact .inl g
theorem trim_run {K : Kw} {N : List Str} {b : SX} {O : Ow} {S : Store} {H : Hp} {vs : List V} {ds : List D} {Q : VK} {E : XK} (ce : Ce K O S H) (dv : DVs K (wo O H) vs ds)
    (h : match runQ b N.length ds S with
      | .ok d S' => ∀ v H' O', Stp O H O' H' → Ce K O' S' H' → DV K (wo O' H') v d → Q v H'
      | .err x S' => ∀ cls dd H' O', Stp O H O' H' → Ce K O' S' H' → ExOk K (wo O' H') x cls dd → E cls dd H'
      | .stuck => False) : tS K h0 (fun cls d _ H => E cls d H) b { nx := fun _ H' => Q .non H', rt := Q } (L2.start N vs) H := by
  refine body_run ce dv ?_
  unfold runQ at h
  cases e : runS b N.length ds S with
  | stuck => rw [e] at h; exact h.elim
  | ok d S' =>
    rw [e] at h
    intro v H' O' s1 c1 dv1
    by_cases k : CutOk S S' (S'.take S.length) ∧ clD S.length d
    · obtain ⟨O2, s2, c2, hs, ht⟩ := cut_ok ce s1 c1 k.1
      rw [show trimR S (.ok d S') = .ok d (S'.take S.length) from if_pos k] at h
      exact h v H' O2 s2 c2 (DV.clo hs ht d v k.2 dv1)
    · rw [show trimR S (.ok d S') = .ok d S' from if_neg k] at h
      exact h v H' O' s1 c1 dv1
  | err x S' =>
    rw [e] at h
    intro cls dd H' O' s1 c1 ev
    by_cases k : CutOk S S' (S'.take S.length) ∧ clDs S.length (x.fs.map (·.2))
    · obtain ⟨O2, s2, c2, hs, ht⟩ := cut_ok ce s1 c1 k.1
      rw [show trimR S (.err x S') = .err x (S'.take S.length) from if_pos k] at h
      refine h cls dd H' O2 s2 c2 ⟨ev.1, ?_⟩
      rcases ev.2 with q | ⟨a, ws, q1, q2, q3⟩
      · exact .inl q
      · exact .inr ⟨a, ws, q1, hs _ _ q2, q3.clo hs ht k.2⟩
    · rw [show trimR S (.err x S') = .err x S' from if_neg k] at h
      exact h cls dd H' O' s1 c1 ev
section
variable {P : Program} {w : World} {K : Fg} {mg : Str → Option Value} {base : Heap} {x qual : Str} {params : Arguments} {body : List Stmt} {scope : Scope} {f : Addr} {fd : FuncData}
theorem def_okT {k : Nat} {N ps : List Str} {b : SX} (F : FunD K x qual params body scope [] [] f fd) (S : FnScope N ps scope) (hb : Body P w K mg base k N qual scope body b) : FnV P w K mg base (k + 1) f fd ps (runQ b N.length) :=
  F.ok S (fun vs H Q E h => h.1) fun cdv A outer s H vs Q E hr h => by
    obtain ⟨hl, O, St, ds, ce, dv, q⟩ := h
    exact ⟨_, hb f cdv A outer s H E hr, trim_run ce dv q⟩
theorem df_okT {k : Nat} {N ps : List Str} {b : SX} (hg : mg x = some (.ref f)) (F : FunD K x qual params body scope [] [] f fd) (S : FnScope N ps scope) (hbi : Binds K fd ps []) (hb : Body P w K mg base k N qual scope body b) : Df P w K mg base (k + 1) x ps.length (runQ b N.length) :=
  ⟨f, fd, ps, hg, F.kp, hbi, rfl, def_okT F S hb⟩
end
end MB

/-! A cell given up if there is one; a, b = e, f; op=; (x,) * k; room. -/
namespace MB
open PySem PySem.Spec PyProof.Rows L2
def fzAt (ρ : En) (i : Nat) : Option En := match ρ[i]? with
  | some (some (.val (.ce n))) => match ρ.st[n]? with
    | some (some c) => (froze c).map fun d => ⟨ρ.sl.set i (some (.val d)), ρ.st.set n none⟩
    | _ => none
  | _ => none
/-- the value in slot i, if a cell, is given up -/
def sFr (i : Nat) : SX := fun ρ => .nx ((fzAt ρ i).getD ρ)
theorem t_fr {K : Kw} {hx : Hx} {W : WX} {i : Nat} {g : SX} {D : Ends} {σ : MB.St} {H : Hp} (h : tS K hx W (sSeq (sFr i) g) D σ H) : tS K hx W g D σ H := by
  obtain ⟨F, ρ, ⟨O, r⟩, hp⟩ := h
  have hp1 : PoS K hx F W (g ((fzAt ρ i).getD ρ)) D := hp
  cases q : fzAt ρ i with
  | none =>
    rw [q] at hp1
    exact ⟨F, ρ, ⟨O, r⟩, hp1⟩
  | some ρ' =>
    rw [q] at hp1
    unfold fzAt at q
    split at q
    · rename_i n e
      split at q
      · rename_i c e1
        obtain ⟨d, e2, rfl⟩ := Option.map_eq_some_iff.mp q
        exact ⟨F, _, r.fz e e1 e2, hp1⟩
      · cases q
    · cases q
theorem p_fr {X : Cx} {hx : Hx} {W : WX} {st : Stmt} {g : SX} (i : Nat) (h : PS X st (tS X.kw hx W g)) : PS X st (tS X.kw hx W (sSeq (sFr i) g)) := h.imp fun _ _ _ q => t_fr q
/-! ### a, b = e, f -/
def sPar (i j : Nat) (fa fb : EX) : SX := fun ρ => (fa ρ).then fun d ρ1 => (fb ρ1).then fun e ρ2 => .nx ((ρ2.set i (some (.val d))).set j (some (.val e)))
theorem p_par {X : Cx} {hx : Hx} {W : WX} {i j : Nat} {x y : Str} {a b : Expr} {fa fb : EX} {px py pt pos : Pos} {kt k2 : Nat} {pt2 : Pos} (hc : X.calm = true) (hN : X.N.Nodup) (hi : X.N[i]? = some x) (hj : X.N[j]? = some y) (hij : i ≠ j)
    (hx1 : X.env.scope.names.lookup x = some .local) (hy : X.env.scope.names.lookup y = some .local) (ha : PE X a (tX X.kw hx W fa)) (hb : PE X b (tX X.kw hx W fb))
    (hw : swappedStores [.Tuple [.Name x px, .Name y py] kt pt] (.Tuple [a, b] k2 pt2) X.env = pure (some [x, y]))
    (he1 : starEach [b] X.env = (false, eval b X.env) :: starEach [] X.env := by rfl) (he : starEach [a, b] X.env = (false, eval a X.env) :: starEach [b] X.env := by rfl)
    (hs : swapsWithSole [.Tuple [.Name x px, .Name y py] kt pt] (.Tuple [a, b] k2 pt2) pos.line X.env = pure false := by rfl) :
    PS X (.Assign [.Tuple [.Name x px, .Name y py] kt pt] (.Tuple [a, b] k2 pt2) pos) (tS X.kw hx W (sPar i j fa fb)) :=
  (ps_par hc hN hi hj hij hx1 hy (pa_cons ha (pa_cons hb pa_nil he1) he) hw hs).imp fun D σ H h => by
    obtain ⟨F, ρ, ⟨O, r⟩, hp⟩ := h
    refine bindS r hp fun d ρ1 u H1 O1 r1 du hp1 => ?_
    refine bindS (F := ⟨O1, H1⟩) r1.re (PoS.fr r1.fr hp1) fun e ρ2 w H2 O2 r2 dw hp2 => ?_
    exact ⟨u, w, rfl, hp2 _ H2 ⟨O2, (r2.set i (DV.mono r2.fr.fs _ _ du)).set j dw⟩⟩
/-! ### op= on ints -/
def ipD (f : Int → Int → Int) : D → D → Option D
  | .int i, .int j => some (.int (f i j))
  | _, _ => none
theorem s_ip {K : Kw} {f : Int → Int → Int} : Op2 K (ipI f) (ipD f) := by
  intro O H x y d e res Q hd hx hy h q
  cases d <;> cases e <;> try (cases h; done)
  cases hx; cases hy; cases h
  exact ⟨_, _, rfl, rfl, q _ H (Same.refl H) (.int _)⟩
/-! ### (x,) * k -/
def repT : D → D → Option D
  | .tup xs, .int k => if xs ≠ [] ∧ (2 ≤ k ∧ k ≤ 1000) ∧ xs.length ≤ 1000 then some (.tpx (List.replicate k.toNat xs).flatten) else none
  | _, _ => none
theorem s_repT {K : Kw} : Op2 K (rRepT K.K) repT := by
  intro O H x y d e res Q hd hx hy h q
  cases d <;> cases e <;> try (cases h; done)
  rename_i xs k
  have h' : (if xs ≠ [] ∧ (2 ≤ k ∧ k ≤ 1000) ∧ xs.length ≤ 1000 then some (D.tpx (List.replicate k.toNat xs).flatten) else none) = some res := h
  split at h'
  · rename_i hl
    cases h'
    obtain ⟨a, vs, rfl, s, t⟩ := hx.tup_of
    cases hy
    have ln := t.length
    refine ⟨a, k, vs, rfl, rfl, sqT_mono (wo_same O H) s, fun z => hl.1 ?_, hl.2.1.1, hl.2.1.2, by omega, fun p np => q _ _ (same_upd np) (DV.newT hd np (flat_rep t _))⟩
    subst z
    exact List.eq_nil_of_length_eq_zero (by rw [← ln]; rfl)
  · cases h'
theorem hu1 {k : Nat} {A : Around} (r : Room k A) : A.units + 1 < cLine := by have := r.un; omega
theorem huH1 {k : Nat} {A : Around} (r : L2H.RoomH k A) : A.units + 1 < cLine := by have := r.un; omega
end MB

/-! list(range(..)). -/
namespace MB
open PySem PySem.Spec PyProof.Rows L2
def rgB (a b : Int) : Bool := decide (-(2 ^ 62) ≤ a ∧ a < 2 ^ 62 ∧ -(2 ^ 62) ≤ b ∧ b < 2 ^ 62 ∧ (b - a).toNat ≤ 2 ^ 24)
theorem rg_ok {a b : Int} (h : rgB a b = true) : RgOk a b := by
  unfold rgB at h
  have h2 := of_decide_eq_true h
  exact h2
theorem rg_dvs {K : Kw} {z : Fz} (a b : Int) : DVs K z (rgV a b) (rangeL a (b - a).toNat) := by
  unfold rgV rangeL
  generalize List.range (b - a).toNat = l
  induction l with
  | nil => exact .nil
  | cons x l ih => exact .cons (.int _) ih
def eLR1 (m : Bool) (f : EX) : EX := fun ρ => (f ρ).bind fun d ρ1 => match d with
  | .int n => if rgB 0 n = true then outF m (.new (rangeL 0 (n - 0).toNat)) ρ1 else .stuck
  | _ => .stuck
def eLR2 (m : Bool) (f g : EX) : EX := fun ρ => (f ρ).bind fun d ρ1 => (g ρ1).bind fun e ρ2 => match d, e with
  | .int a, .int b => if rgB a b = true then outF m (.new (rangeL a (b - a).toNat)) ρ2 else .stuck
  | _, _ => .stuck
section
variable {X : Cx} {hx : Hx} {W : WX} {a b : Expr} {fa fb : EX} {pos p p2 pos2 : Pos} {m : Bool}
theorem r_lr1 (hc : X.calm = true) (hm : X.mg "list" = none) (hr : X.mg "range" = none) (ha : PE X a (tX X.kw hx W fa)) (hg : Gl X "list" := by rfl) (hg2 : Gl X "range" := by rfl)
    (na : starEach [Expr.Call (.Name "range" p2) [a] [] pos2] X.env = (false, eval (Expr.Call (.Name "range" p2) [a] [] pos2) X.env) :: starEach [] X.env := by rfl) (na2 : starEach [a] X.env = (false, eval a X.env) :: starEach [] X.env := by rfl) :
    PE X (.Call (.Name "list" p) [.Call (.Name "range" p2) [a] [] pos2] [] pos) (tX X.kw hx W (eLR1 m fa)) :=
  (pe_listRg hc hg hm (prg_1 hg2 hr ha na2) na).imp fun σ H Q h => by
    obtain ⟨F, ρ, ⟨O, r0⟩, hp⟩ := h
    refine bindX r0 hp fun d ρ1 v H1 O1 r1 s1 dv hp1 => ?_
    cases d <;> (try exact hp1.elim)
    rename_i n
    cases dv
    have hp2 : Po X.kw hx F W σ (if rgB 0 n = true then outF m (.new (rangeL 0 (n - 0).toNat)) ρ1 else .stuck) Q := hp1
    split at hp2
    · rename_i hb
      exact ⟨n, rfl, rg_ok hb, fun q nq => ocP_of r1 hp2 q _ nq (rg_dvs 0 n)⟩
    · exact hp2.elim
theorem r_lr2 (hc : X.calm = true) (hm : X.mg "list" = none) (hr : X.mg "range" = none) (ha : PE X a (tX X.kw hx W fa)) (hb : PE X b (tX X.kw hx W fb)) (hg : Gl X "list" := by rfl) (hg2 : Gl X "range" := by rfl)
    (na : starEach [Expr.Call (.Name "range" p2) [a, b] [] pos2] X.env = (false, eval (Expr.Call (.Name "range" p2) [a, b] [] pos2) X.env) :: starEach [] X.env := by rfl) (na2 : starEach [a, b] X.env = (false, eval a X.env) :: starEach [b] X.env := by rfl)
    (nb : starEach [b] X.env = (false, eval b X.env) :: starEach [] X.env := by rfl) (hpp : (backTo pos2 (starEach [b] X.env)).any (·.1) = false := by rfl) :
    PE X (.Call (.Name "list" p) [.Call (.Name "range" p2) [a, b] [] pos2] [] pos) (tX X.kw hx W (eLR2 m fa fb)) :=
  (pe_listRg hc hg hm (prg_2 hg2 hr ha hb na2 nb hpp) na).imp fun σ H Q h => by
    obtain ⟨F, ρ, ⟨O, r0⟩, hp⟩ := h
    refine bindX r0 hp fun d ρ1 v H1 O1 r1 s1 dv hp1 => ?_
    refine bindX r1 hp1 fun e ρ2 u H2 O2 r2 s2 du hp2 => ?_
    cases d <;> (try exact hp2.elim)
    cases e <;> (try exact hp2.elim)
    rename_i i j
    cases dv
    cases du
    have hp3 : Po X.kw hx F W σ (if rgB i j = true then outF m (.new (rangeL i (j - i).toNat)) ρ2 else .stuck) Q := hp2
    split at hp3
    · rename_i hb
      exact ⟨i, j, rfl, rfl, rg_ok hb, fun q nq => ocP_of r2 hp3 q _ nq (rg_dvs i j)⟩
    · exact hp3.elim
end
end MB

/-! Evaluation of the functions by values, one step a rewrite: a part first, then a frame that waits for it. -/
namespace MB
open PySem PySem.Spec PyProof.Rows L2
variable {ρ : En}
@[simp] theorem ofString_beq (a b : String) : ((Str.ofString a == Str.ofString b) : Bool) = (a == b) := by
  by_cases h : a = b
  · subst h; simp
  · have : Str.ofString a ≠ Str.ofString b := fun e => by
      rw [Str.ofString_eq_toList, Str.ofString_eq_toList] at e
      have e1 : a.toList.map Char.toNat = b.toList.map Char.toNat := by
        have := congrArg (fun s : Str => s.cps.toList) e
        simpa using this
      have inj : ∀ {l m : List Char}, l.map Char.toNat = m.map Char.toNat → l = m := by
        intro l
        induction l with
        | nil => intro m h; cases m <;> simp at h <;> rfl
        | cons c l ih =>
          intro m h
          cases m with
          | nil => simp at h
          | cons d m =>
            simp only [List.map_cons, List.cons.injEq] at h
            rw [ih h.2, Char.toNat_inj.mp h.1]
      have e2 := inj e1
      exact h (String.toList_inj.mp e2)
    rw [beq_eq_false_iff_ne.mpr this, beq_eq_false_iff_ne.mpr h]
@[simp] theorem ofString_eq (a b : String) : (Str.ofString a = Str.ofString b) = (a = b) := by
  have := ofString_beq a b
  by_cases h : a = b
  · subst h; simp
  · have h2 : (a == b) = false := beq_eq_false_iff_ne.mpr h
    rw [h2] at this
    simp [h, beq_eq_false_iff_ne.mp this]

def kO : Option D → En → Rs
  | some z, ρ => .ok z ρ
  | none, _ => .stuck
@[simp] theorem kO_some {z : D} : kO (some z) ρ = .ok z ρ := rfl
@[simp] theorem kO_none  : kO none ρ = .stuck := rfl
theorem kO_eq (o : Option D) (ρ : En) : (match o with | some z => Rs.ok z ρ | none => .stuck) = kO o ρ := by cases o <;> rfl
@[simp] theorem eC_ap {d : D} : eC d ρ = .ok d ρ := rfl
@[simp] theorem eStuck_ap  : eStuck ρ = .stuck := rfl
@[simp] theorem sStuck_ap  : sStuck ρ = .stuck := rfl
def kV (ρ : En) : Option (Option Sl) → Rs
  | some (some (.val d)) => .ok d ρ
  | _ => .stuck
@[simp] theorem eVar_ap {i : Nat} : eVar i ρ = kV ρ ρ[i]? := by
  unfold eVar kV
  rfl
@[simp] theorem kV_val {d : D} : kV ρ (some (some (.val d))) = .ok d ρ := rfl
@[simp] theorem En.set_sl {i : Nat} {x : Option Sl} : (ρ.set i x).sl = ρ.sl.set i x := rfl
@[simp] theorem En.set_st {i : Nat} {x : Option Sl} : (ρ.set i x).st = ρ.st := rfl
def kB2 (op : D → D → Option D) (d : D) : Rs → Rs
  | .ok e ρ => kO (op d e) ρ
  | .err x ρ => .err x ρ
  | .stuck => .stuck
@[simp] theorem kB2_ok {op : D → D → Option D} {d e : D} : kB2 op d (Rs.ok e ρ) = kO (op d e) ρ := rfl
@[simp] theorem kB2_err {op : D → D → Option D} {d : D} {x : Ex} : kB2 op d (Rs.err x ρ) = .err x ρ := rfl
@[simp] theorem kB2_st {op : D → D → Option D} {d : D} : kB2 op d Rs.stuck = .stuck := rfl
def kB1 (op : D → D → Option D) (fb : EX) : Rs → Rs
  | .ok d ρ => kB2 op d (fb ρ)
  | .err x ρ => .err x ρ
  | .stuck => .stuck
@[simp] theorem kB1_ok {op : D → D → Option D} {fb : EX} {d : D} : kB1 op fb (Rs.ok d ρ) = kB2 op d (fb ρ) := rfl
@[simp] theorem kB1_err {op : D → D → Option D} {fb : EX} {x : Ex} : kB1 op fb (Rs.err x ρ) = .err x ρ := rfl
@[simp] theorem kB1_st {op : D → D → Option D} {fb : EX} : kB1 op fb Rs.stuck = .stuck := rfl
@[simp] theorem eB_ap {op : D → D → Option D} {fa fb : EX} : eB op fa fb ρ = kB1 op fb (fa ρ) := by
  show (fa ρ).bind _ = _
  cases fa ρ with
  | ok d ρ1 =>
    show (fb ρ1).bind _ = kB2 op d (fb ρ1)
    cases fb ρ1 with
    | ok e ρ2 => exact kO_eq _ _
    | err x ρ2 => rfl
    | stuck => rfl
  | err x ρ1 => rfl
  | stuck => rfl
def kE1 (op : D → Option D) : Rs → Rs
  | .ok d ρ => kO (op d) ρ
  | .err x ρ => .err x ρ
  | .stuck => .stuck
@[simp] theorem kE1_ok {op : D → Option D} {d : D} : kE1 op (Rs.ok d ρ) = kO (op d) ρ := rfl
@[simp] theorem kE1_err {op : D → Option D} {x : Ex} : kE1 op (Rs.err x ρ) = .err x ρ := rfl
@[simp] theorem kE1_st {op : D → Option D} : kE1 op Rs.stuck = .stuck := rfl
@[simp] theorem e1_ap {op : D → Option D} {fa : EX} : e1 op fa ρ = kE1 op (fa ρ) := by
  show (fa ρ).bind _ = _
  cases fa ρ with
  | ok d ρ1 => exact kO_eq _ _
  | err x ρ1 => rfl
  | stuck => rfl
@[simp] theorem eIsT_ap {T : String} {fa : EX} : eIsT T fa ρ = kE1 (isT T) (fa ρ) := e1_ap
def kT (t f : EX) : Option Bool → En → Rs
  | some true, ρ => t ρ
  | some false, ρ => f ρ
  | none, _ => .stuck
theorem kT_eq (t f : EX) (o : Option Bool) (ρ : En) : (match o with | some true => t ρ | some false => f ρ | none => Rs.stuck) = kT t f o ρ := by
  cases o with
  | none => rfl
  | some b => cases b <;> rfl
@[simp] theorem kT_t {t f : EX} : kT t f (some true) ρ = t ρ := rfl
@[simp] theorem kT_f {t f : EX} : kT t f (some false) ρ = f ρ := rfl
def kN : Option Bool → En → Rs
  | some b, ρ => .ok (.bl (!b)) ρ
  | none, _ => .stuck
theorem kN_eq (o : Option Bool) (ρ : En) : (match o with | some b => Rs.ok (.bl (!b)) ρ | none => .stuck) = kN o ρ := by cases o <;> rfl
@[simp] theorem kN_s {b : Bool} : kN (some b) ρ = .ok (.bl (!b)) ρ := rfl
def kNot  : Rs → Rs
  | .ok d ρ => kN (truth d) ρ
  | .err x ρ => .err x ρ
  | .stuck => .stuck
@[simp] theorem kNot_ok  {d : D} : kNot  (Rs.ok d ρ) = kN (truth d) ρ := rfl
@[simp] theorem kNot_err  {x : Ex} : kNot  (Rs.err x ρ) = .err x ρ := rfl
@[simp] theorem kNot_st  : kNot  Rs.stuck = .stuck := rfl
@[simp] theorem eNot_ap  {fa : EX} : eNot fa ρ = kNot  (fa ρ) := by
  show (fa ρ).bind _ = _
  cases fa ρ with
  | ok d ρ1 => exact kN_eq _ _
  | err x ρ1 => rfl
  | stuck => rfl
def kAnd (fb : EX) : Rs → Rs
  | .ok d ρ => kT fb (eC d) (truth d) ρ
  | .err x ρ => .err x ρ
  | .stuck => .stuck
@[simp] theorem kAnd_ok {fb : EX} {d : D} : kAnd fb (Rs.ok d ρ) = kT fb (eC d) (truth d) ρ := rfl
@[simp] theorem kAnd_err {fb : EX} {x : Ex} : kAnd fb (Rs.err x ρ) = .err x ρ := rfl
@[simp] theorem kAnd_st {fb : EX} : kAnd fb Rs.stuck = .stuck := rfl
@[simp] theorem eAnd_ap {fb : EX} {fa : EX} : eAnd fa fb ρ = kAnd fb (fa ρ) := by
  show (fa ρ).bind _ = _
  cases fa ρ with
  | ok d ρ1 => exact kT_eq fb (eC d) (truth d) ρ1
  | err x ρ1 => rfl
  | stuck => rfl
def kOr (fb : EX) : Rs → Rs
  | .ok d ρ => kT (eC d) fb (truth d) ρ
  | .err x ρ => .err x ρ
  | .stuck => .stuck
@[simp] theorem kOr_ok {fb : EX} {d : D} : kOr fb (Rs.ok d ρ) = kT (eC d) fb (truth d) ρ := rfl
@[simp] theorem kOr_err {fb : EX} {x : Ex} : kOr fb (Rs.err x ρ) = .err x ρ := rfl
@[simp] theorem kOr_st {fb : EX} : kOr fb Rs.stuck = .stuck := rfl
@[simp] theorem eOr_ap {fb : EX} {fa : EX} : eOr fa fb ρ = kOr fb (fa ρ) := by
  show (fa ρ).bind _ = _
  cases fa ρ with
  | ok d ρ1 => exact kT_eq (eC d) fb (truth d) ρ1
  | err x ρ1 => rfl
  | stuck => rfl
def kIfE (fa fb : EX) : Rs → Rs
  | .ok d ρ => kT fa fb (truth d) ρ
  | .err x ρ => .err x ρ
  | .stuck => .stuck
@[simp] theorem kIfE_ok {fa fb : EX} {d : D} : kIfE fa fb (Rs.ok d ρ) = kT fa fb (truth d) ρ := rfl
@[simp] theorem kIfE_err {fa fb : EX} {x : Ex} : kIfE fa fb (Rs.err x ρ) = .err x ρ := rfl
@[simp] theorem kIfE_st {fa fb : EX} : kIfE fa fb Rs.stuck = .stuck := rfl
@[simp] theorem eIf_ap {fa fb : EX} {ft : EX} : eIf ft fa fb ρ = kIfE fa fb (ft ρ) := by
  show (ft ρ).bind _ = _
  cases ft ρ with
  | ok d ρ1 => exact kT_eq fa fb (truth d) ρ1
  | err x ρ1 => rfl
  | stuck => rfl
inductive Ra where
  | ok (ds : List D) (ρ : En) | err (x : Ex) (ρ : En) | stuck
def evl : List EX → List D → En → Ra
  | [], acc, ρ => .ok acc ρ
  | f :: fs, acc, ρ => match f ρ with
    | .ok d ρ1 => evl fs (acc ++ [d]) ρ1
    | .err x ρ1 => .err x ρ1
    | .stuck => .stuck
def kA (fs : List EX) (acc : List D) : Rs → Ra
  | .ok d ρ => evl fs (acc ++ [d]) ρ
  | .err x ρ => .err x ρ
  | .stuck => .stuck
@[simp] theorem evl_nil {acc : List D} : evl [] acc ρ = .ok acc ρ := rfl
@[simp] theorem evl_cons {f : EX} {fs : List EX} {acc : List D} : evl (f :: fs) acc ρ = kA fs acc (f ρ) := by
  show (match f ρ with | .ok d ρ1 => evl fs (acc ++ [d]) ρ1 | .err x ρ1 => .err x ρ1 | .stuck => .stuck) = _
  cases f ρ <;> rfl
@[simp] theorem kA_ok {fs : List EX} {acc : List D} {d : D} : kA fs acc (.ok d ρ) = evl fs (acc ++ [d]) ρ := rfl
@[simp] theorem kA_err {fs : List EX} {acc : List D} {x : Ex} : kA fs acc (.err x ρ) = .err x ρ := rfl
@[simp] theorem kA_st {fs : List EX} {acc : List D} : kA fs acc .stuck = .stuck := rfl
def kK (k : List D → En → Rs) : Ra → Rs
  | .ok ds ρ => k ds ρ
  | .err x ρ => .err x ρ
  | .stuck => .stuck
theorem evs_evl' : ∀ (fs : List EX) (acc : List D) (k : List D → En → Rs) (ρ : En), evs fs (fun ds ρ1 => k (acc ++ ds) ρ1) ρ = kK k (evl fs acc ρ)
  | [], acc, k, ρ => by show k (acc ++ []) ρ = _; rw [List.append_nil]; rfl
  | f :: fs, acc, k, ρ => by
    show (f ρ).bind _ = _
    rw [evl_cons]
    cases f ρ with
    | ok d ρ1 =>
      have := evs_evl' fs (acc ++ [d]) k ρ1
      simp only [List.append_assoc, List.singleton_append] at this
      exact this
    | err x ρ1 => rfl
    | stuck => rfl
theorem evs_evl (fs : List EX) (k : List D → En → Rs) (ρ : En) : evs fs k ρ = kK k (evl fs [] ρ) := evs_evl' fs [] k ρ
def kTup  : Ra → Rs
  | .ok ds ρ => if ds.length ≤ 1000 then .ok (.tup ds) ρ else .stuck
  | .err x ρ => .err x ρ
  | .stuck => .stuck
@[simp] theorem kTup_ok  {ds : List D} : kTup  (Ra.ok ds ρ) = if ds.length ≤ 1000 then .ok (.tup ds) ρ else .stuck := rfl
@[simp] theorem kTup_err  {x : Ex} : kTup  (Ra.err x ρ) = .err x ρ := rfl
@[simp] theorem kTup_st  : kTup  Ra.stuck = .stuck := rfl
@[simp] theorem eTup_ap  {fs : List EX} : eTup fs ρ = kTup  (evl fs [] ρ) := by
  show evs fs _ ρ = _
  rw [evs_evl]
  cases evl fs [] ρ with
  | ok ds ρ1 => exact rfl
  | err x ρ1 => rfl
  | stuck => rfl
def kLst  : Ra → Rs
  | .ok ds ρ => if ds.length ≤ 1000 then .ok (.lst ds) ρ else .stuck
  | .err x ρ => .err x ρ
  | .stuck => .stuck
@[simp] theorem kLst_ok  {ds : List D} : kLst  (Ra.ok ds ρ) = if ds.length ≤ 1000 then .ok (.lst ds) ρ else .stuck := rfl
@[simp] theorem kLst_err  {x : Ex} : kLst  (Ra.err x ρ) = .err x ρ := rfl
@[simp] theorem kLst_st  : kLst  Ra.stuck = .stuck := rfl
@[simp] theorem eLst_ap  {fs : List EX} : eLst fs ρ = kLst  (evl fs [] ρ) := by
  show evs fs _ ρ = _
  rw [evs_evl]
  cases evl fs [] ρ with
  | ok ds ρ1 => exact rfl
  | err x ρ1 => rfl
  | stuck => rfl
def kCall (f : List D → Option D) : Ra → Rs
  | .ok ds ρ => kO (f ds) ρ
  | .err x ρ => .err x ρ
  | .stuck => .stuck
@[simp] theorem kCall_ok {f : List D → Option D} {ds : List D} : kCall f (Ra.ok ds ρ) = kO (f ds) ρ := rfl
@[simp] theorem kCall_err {f : List D → Option D} {x : Ex} : kCall f (Ra.err x ρ) = .err x ρ := rfl
@[simp] theorem kCall_st {f : List D → Option D} : kCall f Ra.stuck = .stuck := rfl
@[simp] theorem eCall_ap {f : List D → Option D} {fs : List EX} : eCall f fs ρ = kCall f (evl fs [] ρ) := by
  show evs fs _ ρ = _
  rw [evs_evl]
  cases evl fs [] ρ with
  | ok ds ρ1 => exact kO_eq _ _
  | err x ρ1 => rfl
  | stuck => rfl
def kR : Rt → En → Rs
  | .ok d S, ρ => .ok d ⟨ρ.sl, S⟩
  | .err x S, ρ => .err x ⟨ρ.sl, S⟩
  | .stuck, _ => .stuck
@[simp] theorem kR_ok {d : D} {S : Store} : kR (.ok d S) ρ = .ok d ⟨ρ.sl, S⟩ := rfl
@[simp] theorem kR_err {x : Ex} {S : Store} : kR (.err x S) ρ = .err x ⟨ρ.sl, S⟩ := rfl
@[simp] theorem kR_st  : kR .stuck ρ = .stuck := rfl
def kFn (m : Fn) : Ra → Rs
  | .ok ds ρ => kR (m ds ρ.st) ρ
  | .err x ρ => .err x ρ
  | .stuck => .stuck
@[simp] theorem kFn_ok {m : Fn} {ds : List D} : kFn m (Ra.ok ds ρ) = kR (m ds ρ.st) ρ := rfl
@[simp] theorem kFn_err {m : Fn} {x : Ex} : kFn m (Ra.err x ρ) = .err x ρ := rfl
@[simp] theorem kFn_st {m : Fn} : kFn m Ra.stuck = .stuck := rfl
@[simp] theorem eFn_ap {m : Fn} {fs : List EX} : eFn m fs ρ = kFn m (evl fs [] ρ) := by
  show evs fs _ ρ = _
  rw [evs_evl]
  cases evl fs [] ρ with
  | ok ds ρ1 => exact (by show (match m ds ρ1.st with | .ok d S => Rs.ok d ⟨ρ1.sl, S⟩ | .err x S => .err x ⟨ρ1.sl, S⟩ | .stuck => .stuck) = kR (m ds ρ1.st) ρ1; cases m ds ρ1.st <;> rfl)
  | err x ρ1 => rfl
  | stuck => rfl
def kRaise (c : Str) (ns : List Str) : Ra → Fl
  | .ok ds ρ => if ds.length = ns.length then .err ⟨c, (ns.zip ds).reverse⟩ ρ else .stuck
  | .err x ρ => .err x ρ
  | .stuck => .stuck
@[simp] theorem kRaise_ok {c : Str} {ns : List Str} {ds : List D} : kRaise c ns (Ra.ok ds ρ) = if ds.length = ns.length then .err ⟨c, (ns.zip ds).reverse⟩ ρ else .stuck := rfl
@[simp] theorem kRaise_err {c : Str} {ns : List Str} {x : Ex} : kRaise c ns (Ra.err x ρ) = .err x ρ := rfl
@[simp] theorem kRaise_st {c : Str} {ns : List Str} : kRaise c ns Ra.stuck = .stuck := rfl
@[simp] theorem sRaise_ap {c : Str} {ns : List Str} {fs : List EX} : sRaise c ns fs ρ = kRaise c ns (evl fs [] ρ) := by
  unfold sRaise
  rw [evs_evl]
  cases evl fs [] ρ with
  | ok ds ρ1 =>
    show Rs.then (if ds.length = ns.length then _ else _) _ = (if ds.length = ns.length then _ else _)
    by_cases h : ds.length = ns.length <;> simp only [h, if_true, if_false] <;> rfl
  | err x ρ1 => rfl
  | stuck => rfl
@[simp] theorem sRaise0_ap {c : Str} : sRaise0 c ρ = .err ⟨c, []⟩ ρ := rfl
def kKK : D → Option L2.Key → En → Rs
  | .dct ks ds, some k, ρ => kO (lookK ks ds k) ρ
  | _, _, _ => .stuck
def kK2 (d : D) : Rs → Rs
  | .ok e ρ => kKK d (keyD e) ρ
  | .err x ρ => .err x ρ
  | .stuck => .stuck
def kK1 (fb : EX) : Rs → Rs
  | .ok d ρ => kK2 d (fb ρ)
  | .err x ρ => .err x ρ
  | .stuck => .stuck
@[simp] theorem kKK_s {ks : List L2.Key} {ds : List D} {k : L2.Key} : kKK (.dct ks ds) (some k) ρ = kO (lookK ks ds k) ρ := rfl
@[simp] theorem kK2_ok {d e : D} : kK2 d (.ok e ρ) = kKK d (keyD e) ρ := rfl
@[simp] theorem kK1_ok {d : D} {fb : EX} : kK1 fb (.ok d ρ) = kK2 d (fb ρ) := rfl
@[simp] theorem eIxK_ap {fa fb : EX} : eIxK fa fb ρ = kK1 fb (fa ρ) := by
  show (fa ρ).bind _ = _
  cases fa ρ with
  | ok d ρ1 =>
    show (fb ρ1).bind _ = kK2 d (fb ρ1)
    cases fb ρ1 with
    | ok e ρ2 =>
      show (match d, keyD e with | .dct ks ds, some k => _ | _, _ => _) = kKK d (keyD e) ρ2
      cases d <;> cases keyD e <;> first | rfl | exact kO_eq _ _
    | err x ρ2 => rfl
    | stuck => rfl
  | err x ρ1 => rfl
  | stuck => rfl
def kTS (l : List (Str × D)) : D → En → Rs
  | .str z, ρ => kO (l.lookup z) ρ
  | _, _ => .stuck
def kIS (l : List (Str × D)) : D → En → Rs
  | .str z, ρ => .ok (.bl (l.lookup z).isSome) ρ
  | _, _ => .stuck
def kNS (l : List (Str × D)) : D → En → Rs
  | .str z, ρ => .ok (.bl !(l.lookup z).isSome) ρ
  | _, _ => .stuck
@[simp] theorem kTS_s {l : List (Str × D)} {z : Str} : kTS l (.str z) ρ = kO (l.lookup z) ρ := rfl
@[simp] theorem kIS_s {l : List (Str × D)} {z : Str} : kIS l (.str z) ρ = .ok (.bl (l.lookup z).isSome) ρ := rfl
@[simp] theorem kNS_s {l : List (Str × D)} {z : Str} : kNS l (.str z) ρ = .ok (.bl !(l.lookup z).isSome) ρ := rfl
def kTbS (l : List (Str × D)) : Rs → Rs
  | .ok d ρ => kTS l d ρ
  | .err x ρ => .err x ρ
  | .stuck => .stuck
@[simp] theorem kTbS_ok {l : List (Str × D)} {d : D} : kTbS l (Rs.ok d ρ) = kTS l d ρ := rfl
@[simp] theorem kTbS_err {l : List (Str × D)} {x : Ex} : kTbS l (Rs.err x ρ) = .err x ρ := rfl
@[simp] theorem kTbS_st {l : List (Str × D)} : kTbS l Rs.stuck = .stuck := rfl
@[simp] theorem eTbS_ap {l : List (Str × D)} {f : EX} : eTbS l f ρ = kTbS l (f ρ) := by
  show (f ρ).bind _ = _
  cases f ρ with
  | ok d ρ1 => exact (by cases d <;> first | rfl | exact kO_eq _ _)
  | err x ρ1 => rfl
  | stuck => rfl
def kInS (l : List (Str × D)) : Rs → Rs
  | .ok d ρ => kIS l d ρ
  | .err x ρ => .err x ρ
  | .stuck => .stuck
@[simp] theorem kInS_ok {l : List (Str × D)} {d : D} : kInS l (Rs.ok d ρ) = kIS l d ρ := rfl
@[simp] theorem kInS_err {l : List (Str × D)} {x : Ex} : kInS l (Rs.err x ρ) = .err x ρ := rfl
@[simp] theorem kInS_st {l : List (Str × D)} : kInS l Rs.stuck = .stuck := rfl
@[simp] theorem eInS_ap {l : List (Str × D)} {f : EX} : eInS l f ρ = kInS l (f ρ) := by
  show (f ρ).bind _ = _
  cases f ρ with
  | ok d ρ1 => exact (by cases d <;> first | rfl | exact kO_eq _ _)
  | err x ρ1 => rfl
  | stuck => rfl
def kNinS (l : List (Str × D)) : Rs → Rs
  | .ok d ρ => kNS l d ρ
  | .err x ρ => .err x ρ
  | .stuck => .stuck
@[simp] theorem kNinS_ok {l : List (Str × D)} {d : D} : kNinS l (Rs.ok d ρ) = kNS l d ρ := rfl
@[simp] theorem kNinS_err {l : List (Str × D)} {x : Ex} : kNinS l (Rs.err x ρ) = .err x ρ := rfl
@[simp] theorem kNinS_st {l : List (Str × D)} : kNinS l Rs.stuck = .stuck := rfl
@[simp] theorem eNinS_ap {l : List (Str × D)} {f : EX} : eNinS l f ρ = kNinS l (f ρ) := by
  show (f ρ).bind _ = _
  cases f ρ with
  | ok d ρ1 => exact (by cases d <;> first | rfl | exact kO_eq _ _)
  | err x ρ1 => rfl
  | stuck => rfl
def kEx (t : Str → Option Bool) (ρ : En) : Option (Option Sl) → Rs
  | some (some (.exc x)) => kO ((t x.c).map .bl) ρ
  | _ => .stuck
@[simp] theorem kEx_s {t : Str → Option Bool} {x : Ex} : kEx t ρ (some (some (.exc x))) = kO ((t x.c).map .bl) ρ := rfl
@[simp] theorem eIsE_ap {i : Nat} {t : Str → Option Bool} : eIsE i t ρ = kEx t ρ ρ[i]? := by
  unfold eIsE
  cases ρ[i]? with
  | none => rfl
  | some o =>
    cases o with
    | none => rfl
    | some s =>
      cases s with
      | exc x =>
        show (match t x.c with | some b => _ | none => _) = kO ((t x.c).map .bl) ρ
        cases t x.c <;> rfl
      | val d => rfl
def kXf (n : Str) (cs : List Str) (ρ : En) : Option (Option Sl) → Rs
  | some (some (.exc x)) => if cs.contains x.c then kO (x.fs.lookup n) ρ else .stuck
  | _ => .stuck
@[simp] theorem kXf_s {n : Str} {cs : List Str} {x : Ex} : kXf n cs ρ (some (some (.exc x))) = (if cs.contains x.c then kO (x.fs.lookup n) ρ else .stuck) := rfl
@[simp] theorem eXf_ap {i : Nat} {n : Str} {cs : List Str} : eXf i n cs ρ = kXf n cs ρ ρ[i]? := by
  unfold eXf
  cases ρ[i]? with
  | none => rfl
  | some o =>
    cases o with
    | none => rfl
    | some s =>
      cases s with
      | exc x =>
        show (if cs.contains x.c then (match x.fs.lookup n with | some d => _ | none => _) else _) = (if cs.contains x.c then kO (x.fs.lookup n) ρ else _)
        cases x.fs.lookup n <;> rfl
      | val d => rfl
def kRE : Rt → En → Rs
  | .ok d S, ρ => .ok d ⟨ρ.sl, S⟩
  | _, _ => .stuck
def kFE (m : Ex → Store → Rt) (ρ : En) : Option (Option Sl) → Rs
  | some (some (.exc x)) => kRE (m x ρ.st) ρ
  | _ => .stuck
@[simp] theorem kRE_ok {d : D} {S : Store} : kRE (.ok d S) ρ = .ok d ⟨ρ.sl, S⟩ := rfl
@[simp] theorem kFE_s {m : Ex → Store → Rt} {x : Ex} : kFE m ρ (some (some (.exc x))) = kRE (m x ρ.st) ρ := rfl
@[simp] theorem eFnE_ap {i : Nat} {m : Ex → Store → Rt} : eFnE i m ρ = kFE m ρ ρ[i]? := by
  unfold eFnE
  cases ρ[i]? with
  | none => rfl
  | some o =>
    cases o with
    | none => rfl
    | some s =>
      cases s with
      | exc x =>
        show (match m x ρ.st with | .ok d S => _ | _ => _) = kRE (m x ρ.st) ρ
        cases m x ρ.st <;> rfl
      | val d => rfl
def kLo (S : Str → Option Fn) (fs : List EX) (ρ : En) : Option Fn → Rs
  | some m => kFn m (evl fs [] ρ)
  | none => .stuck
def kLoc (S : Str → Option Fn) (fs : List EX) (ρ : En) : Option (Option Sl) → Rs
  | some (some (.val (.fn nm))) => kLo S fs ρ (S nm)
  | _ => .stuck
@[simp] theorem kLo_s {S : Str → Option Fn} {fs : List EX} {m : Fn} : kLo S fs ρ (some m) = kFn m (evl fs [] ρ) := rfl
@[simp] theorem kLoc_s {S : Str → Option Fn} {fs : List EX} {nm : Str} : kLoc S fs ρ (some (some (.val (.fn nm)))) = kLo S fs ρ (S nm) := rfl
@[simp] theorem eLoc_ap {i : Nat} {S : Str → Option Fn} {fs : List EX} : eLoc i S fs ρ = kLoc S fs ρ ρ[i]? := by
  unfold eLoc
  cases ρ[i]? with
  | none => rfl
  | some o =>
    cases o with
    | none => rfl
    | some s =>
      cases s with
      | val d =>
        cases d <;> try rfl
        rename_i nm
        show (match S nm with | some m => _ | none => _) = kLo S fs ρ (S nm)
        cases S nm with
        | none => rfl
        | some m => exact eFn_ap
      | exc x => rfl
def kSq (h : SX) : Fl → Fl
  | .nx ρ => h ρ
  | .rt d ρ => .rt d ρ
  | .bk ρ => .bk ρ
  | .ct ρ => .ct ρ
  | .err x ρ => .err x ρ
  | .stuck => .stuck
@[simp] theorem kSq_nx {h : SX} : kSq h (.nx ρ) = h ρ := rfl
@[simp] theorem kSq_rt {h : SX} {d : D} : kSq h (.rt d ρ) = .rt d ρ := rfl
@[simp] theorem kSq_bk {h : SX} : kSq h (.bk ρ) = .bk ρ := rfl
@[simp] theorem kSq_ct {h : SX} : kSq h (.ct ρ) = .ct ρ := rfl
@[simp] theorem kSq_err {h : SX} {x : Ex} : kSq h (.err x ρ) = .err x ρ := rfl
@[simp] theorem kSq_st {h : SX} : kSq h .stuck = .stuck := rfl
@[simp] theorem sSeq_ap {g h : SX} : sSeq g h ρ = kSq h (g ρ) := by
  unfold sSeq
  cases g ρ <;> rfl
@[simp] theorem sNil_ap  : sNil ρ = .nx ρ := rfl
@[simp] theorem sRetN_ap  : sRetN ρ = .rt .non ρ := rfl
@[simp] theorem sBk_ap  : sBk ρ = .bk ρ := rfl
@[simp] theorem sCt_ap  : sCt ρ = .ct ρ := rfl
def kSEx  : Rs → Fl
  | .ok d ρ => .nx ρ
  | .err x ρ => .err x ρ
  | .stuck => .stuck
@[simp] theorem kSEx_ok  {d : D} : kSEx  (Rs.ok d ρ) = .nx ρ := rfl
@[simp] theorem kSEx_err  {x : Ex} : kSEx  (Rs.err x ρ) = .err x ρ := rfl
@[simp] theorem kSEx_st  : kSEx  Rs.stuck = .stuck := rfl
@[simp] theorem sEx_ap  {f : EX} : sEx f ρ = kSEx  (f ρ) := by
  show (f ρ).then _ = _
  cases f ρ with
  | ok d ρ1 => exact rfl
  | err x ρ1 => rfl
  | stuck => rfl
def kSet (i : Nat) : Rs → Fl
  | .ok d ρ => .nx (ρ.set i (some (.val d)))
  | .err x ρ => .err x ρ
  | .stuck => .stuck
@[simp] theorem kSet_ok {i : Nat} {d : D} : kSet i (Rs.ok d ρ) = .nx (ρ.set i (some (.val d))) := rfl
@[simp] theorem kSet_err {i : Nat} {x : Ex} : kSet i (Rs.err x ρ) = .err x ρ := rfl
@[simp] theorem kSet_st {i : Nat} : kSet i Rs.stuck = .stuck := rfl
@[simp] theorem sSet_ap {i : Nat} {f : EX} : sSet i f ρ = kSet i (f ρ) := by
  show (f ρ).then _ = _
  cases f ρ with
  | ok d ρ1 => exact rfl
  | err x ρ1 => rfl
  | stuck => rfl
def kRet  : Rs → Fl
  | .ok d ρ => .rt d ρ
  | .err x ρ => .err x ρ
  | .stuck => .stuck
@[simp] theorem kRet_ok  {d : D} : kRet  (Rs.ok d ρ) = .rt d ρ := rfl
@[simp] theorem kRet_err  {x : Ex} : kRet  (Rs.err x ρ) = .err x ρ := rfl
@[simp] theorem kRet_st  : kRet  Rs.stuck = .stuck := rfl
@[simp] theorem sRet_ap  {f : EX} : sRet f ρ = kRet  (f ρ) := by
  show (f ρ).then _ = _
  cases f ρ with
  | ok d ρ1 => exact rfl
  | err x ρ1 => rfl
  | stuck => rfl
def kIT (g h : SX) : Option Bool → En → Fl
  | some true, ρ => g ρ
  | some false, ρ => h ρ
  | none, _ => .stuck
theorem kIT_eq (g h : SX) (o : Option Bool) (ρ : En) : (match o with | some true => g ρ | some false => h ρ | none => Fl.stuck) = kIT g h o ρ := by
  cases o with
  | none => rfl
  | some b => cases b <;> rfl
@[simp] theorem kIT_t {g h : SX} : kIT g h (some true) ρ = g ρ := rfl
@[simp] theorem kIT_f {g h : SX} : kIT g h (some false) ρ = h ρ := rfl
def kIf (g h : SX) : Rs → Fl
  | .ok d ρ => kIT g h (truth d) ρ
  | .err x ρ => .err x ρ
  | .stuck => .stuck
@[simp] theorem kIf_ok {g h : SX} {d : D} : kIf g h (Rs.ok d ρ) = kIT g h (truth d) ρ := rfl
@[simp] theorem kIf_err {g h : SX} {x : Ex} : kIf g h (Rs.err x ρ) = .err x ρ := rfl
@[simp] theorem kIf_st {g h : SX} : kIf g h Rs.stuck = .stuck := rfl
@[simp] theorem sIf_ap {g h : SX} {c : EX} : sIf c g h ρ = kIf g h (c ρ) := by
  show (c ρ).then _ = _
  cases c ρ with
  | ok d ρ1 => exact kIT_eq g h (truth d) ρ1
  | err x ρ1 => rfl
  | stuck => rfl
def kUO : Option En → Fl
  | some ρ => .nx ρ
  | none => .stuck
theorem kUO_eq (o : Option En) : (match o with | some ρ2 => Fl.nx ρ2 | none => .stuck) = kUO o := by cases o <;> rfl
@[simp] theorem kUO_s  : kUO (some ρ) = .nx ρ := rfl
def kUn (b : BX) : Rs → Fl
  | .ok d ρ => kUO (b d ρ)
  | .err x ρ => .err x ρ
  | .stuck => .stuck
@[simp] theorem kUn_ok {b : BX} {d : D} : kUn b (Rs.ok d ρ) = kUO (b d ρ) := rfl
@[simp] theorem kUn_err {b : BX} {x : Ex} : kUn b (Rs.err x ρ) = .err x ρ := rfl
@[simp] theorem kUn_st {b : BX} : kUn b Rs.stuck = .stuck := rfl
@[simp] theorem sUn_ap {b : BX} {f : EX} : sUn b f ρ = kUn b (f ρ) := by
  show (f ρ).then _ = _
  cases f ρ with
  | ok d ρ1 => exact kUO_eq _
  | err x ρ1 => rfl
  | stuck => rfl
@[simp] theorem bNm_ap {i : Nat} {d : D} : bNm i d ρ = some (ρ.set i (some (.val d))) := rfl
def kBA (bs : List BX) (ds : List D) : Option En → Option En
  | some ρ => bAll bs ds ρ
  | none => none
@[simp] theorem kBA_s {bs : List BX} {ds : List D} : kBA bs ds (some ρ) = bAll bs ds ρ := rfl
@[simp] theorem bAll_nil  : bAll [] [] ρ = some ρ := rfl
@[simp] theorem bAll_cons {b : BX} {bs : List BX} {d : D} {ds : List D} : bAll (b :: bs) (d :: ds) ρ = kBA bs ds (b d ρ) := by
  show (b d ρ).bind _ = _
  cases b d ρ <;> rfl
@[simp] theorem bTp_tpx {bs : List BX} {ds : List D} : bTp bs (.tpx ds) ρ = (if ds.length = bs.length then bAll bs ds ρ else none) := rfl
@[simp] theorem bTp_tup {bs : List BX} {ds : List D} : bTp bs (.tup ds) ρ = (if ds.length = bs.length then bAll bs ds ρ else none) := rfl
def kL2 (b : BX) (g : SX) (ds : List D) : Fl → Fl
  | .nx ρ => loopS b g ds ρ
  | .ct ρ => loopS b g ds ρ
  | .bk ρ => .nx ρ
  | .rt d ρ => .rt d ρ
  | .err x ρ => .err x ρ
  | .stuck => .stuck
@[simp] theorem kL2_nx {b : BX} {g : SX} {ds : List D} : kL2 b g ds (.nx ρ) = loopS b g ds ρ := rfl
@[simp] theorem kL2_ct {b : BX} {g : SX} {ds : List D} : kL2 b g ds (.ct ρ) = loopS b g ds ρ := rfl
@[simp] theorem kL2_bk {b : BX} {g : SX} {ds : List D} : kL2 b g ds (.bk ρ) = .nx ρ := rfl
@[simp] theorem kL2_rt {b : BX} {g : SX} {ds : List D} {d : D} : kL2 b g ds (.rt d ρ) = .rt d ρ := rfl
@[simp] theorem kL2_err {b : BX} {g : SX} {ds : List D} {x : Ex} : kL2 b g ds (.err x ρ) = .err x ρ := rfl
def kL1 (b : BX) (g : SX) (ds : List D) : Option En → Fl
  | some ρ => kL2 b g ds (g ρ)
  | none => .stuck
@[simp] theorem kL1_s {b : BX} {g : SX} {ds : List D} : kL1 b g ds (some ρ) = kL2 b g ds (g ρ) := rfl
@[simp] theorem loopS_nil {b : BX} {g : SX} : loopS b g [] ρ = .nx ρ := rfl
@[simp] theorem loopS_cs {b : BX} {g : SX} {ds : List D} {d : D} : loopS b g (d :: ds) ρ = kL1 b g ds (b d ρ) := by
  conv => lhs; unfold loopS
  cases b d ρ with
  | none => rfl
  | some ρ1 =>
    show (match g ρ1 with | .nx ρ2 => _ | .ct ρ2 => _ | .bk ρ2 => _ | r => _) = kL2 b g ds (g ρ1)
    cases g ρ1 <;> rfl
def kFor (b : BX) (g : SX) : Ri → Fl
  | .ok ds ρ => loopS b g ds ρ
  | .err x ρ => .err x ρ
  | .stuck => .stuck
@[simp] theorem kFor_ok {b : BX} {g : SX} {ds : List D} : kFor b g (.ok ds ρ) = loopS b g ds ρ := rfl
@[simp] theorem kFor_err {b : BX} {g : SX} {x : Ex} : kFor b g (.err x ρ) = .err x ρ := rfl
@[simp] theorem sFor_ap {it : IX} {b : BX} {g : SX} : sFor it b g ρ = kFor b g (it ρ) := by
  unfold sFor
  cases it ρ <;> rfl
def kOI : Option (List D) → En → Ri
  | some ds, ρ => .ok ds ρ
  | none, _ => .stuck
@[simp] theorem kOI_s {ds : List D} : kOI (some ds) ρ = .ok ds ρ := rfl
def kIV (items : D → Option (List D)) : Rs → Ri
  | .ok d ρ => kOI (items d) ρ
  | .err x ρ => .err x ρ
  | .stuck => .stuck
@[simp] theorem kIV_ok {items : D → Option (List D)} {d : D} : kIV items (.ok d ρ) = kOI (items d) ρ := rfl
@[simp] theorem kIV_err {items : D → Option (List D)} {x : Ex} : kIV items (.err x ρ) = .err x ρ := rfl
@[simp] theorem iV_ap {items : D → Option (List D)} {f : EX} : iV items f ρ = kIV items (f ρ) := by
  unfold iV iB
  cases f ρ with
  | ok d ρ1 =>
    show (match items d with | some ds => _ | none => _) = kOI (items d) ρ1
    cases items d <;> rfl
  | err x ρ1 => rfl
  | stuck => rfl
@[simp] theorem seqI_t {xs : List D} : seqI (.tup xs) = some xs := rfl
@[simp] theorem seqI_l {xs : List D} : seqI (.lst xs) = some xs := rfl
def kR1 : Rs → Ri
  | .ok (.int n) ρ => if big n = true then .ok (rangeL 0 n.toNat) ρ else .stuck
  | .ok _ _ => .stuck
  | .err x ρ => .err x ρ
  | .stuck => .stuck
@[simp] theorem kR1_ok {n : Int} : kR1 (.ok (.int n) ρ) = (if big n = true then .ok (rangeL 0 n.toNat) ρ else .stuck) := rfl
@[simp] theorem iR1_ap {f : EX} : iR1 f ρ = kR1 (f ρ) := by
  unfold iR1 iB
  cases f ρ with
  | ok d ρ1 => cases d <;> rfl
  | err x ρ1 => rfl
  | stuck => rfl
def kR22 : D → D → En → Ri
  | .int a, .int b, ρ => if big a = true ∧ big b = true then .ok (rangeL a (b - a).toNat) ρ else .stuck
  | _, _, _ => .stuck
def kZZ : D → D → En → Ri
  | .lst xs, .lst ys, ρ => .ok (zipD xs ys) ρ
  | .tup xs, .tup ys, ρ => .ok (zipD xs ys) ρ
  | _, _, _ => .stuck
def kI2 (k : D → D → En → Ri) (d : D) : Rs → Ri
  | .ok e ρ => k d e ρ
  | .err x ρ => .err x ρ
  | .stuck => .stuck
def kI1 (k : D → D → En → Ri) (g : EX) : Rs → Ri
  | .ok d ρ => kI2 k d (g ρ)
  | .err x ρ => .err x ρ
  | .stuck => .stuck
@[simp] theorem kR22_s {a b : Int} : kR22 (.int a) (.int b) ρ = (if big a = true ∧ big b = true then .ok (rangeL a (b - a).toNat) ρ else .stuck) := rfl
@[simp] theorem kZZ_l {xs ys : List D} : kZZ (.lst xs) (.lst ys) ρ = .ok (zipD xs ys) ρ := rfl
@[simp] theorem kZZ_t {xs ys : List D} : kZZ (.tup xs) (.tup ys) ρ = .ok (zipD xs ys) ρ := rfl
@[simp] theorem kI2_ok {k : D → D → En → Ri} {d e : D} : kI2 k d (.ok e ρ) = k d e ρ := rfl
@[simp] theorem kI1_ok {k : D → D → En → Ri} {g : EX} {d : D} : kI1 k g (.ok d ρ) = kI2 k d (g ρ) := rfl
@[simp] theorem iR2_ap {f g : EX} : iR2 f g ρ = kI1 kR22 g (f ρ) := by
  unfold iR2 iB
  cases f ρ with
  | ok d ρ1 =>
    show (match g ρ1 with | .ok d ρ1 => _ | .err x ρ1 => _ | .stuck => _) = kI2 kR22 d (g ρ1)
    cases g ρ1 with
    | ok e ρ2 => cases d <;> cases e <;> rfl
    | err x ρ2 => rfl
    | stuck => rfl
  | err x ρ1 => rfl
  | stuck => rfl
@[simp] theorem iZ_ap {f g : EX} : iZ f g ρ = kI1 kZZ g (f ρ) := by
  unfold iZ iB
  cases f ρ with
  | ok d ρ1 =>
    show (match g ρ1 with | .ok d ρ1 => _ | .err x ρ1 => _ | .stuck => _) = kI2 kZZ d (g ρ1)
    cases g ρ1 with
    | ok e ρ2 => cases d <;> cases e <;> rfl
    | err x ρ2 => rfl
    | stuck => rfl
  | err x ρ1 => rfl
  | stuck => rfl
@[simp] theorem zipD_nil {ys : List D} : zipD [] ys = [] := rfl
@[simp] theorem zipD_nil2 {xs : List D} : zipD xs [] = [] := by simp [zipD]
@[simp] theorem zipD_cons {x y : D} {xs ys : List D} : zipD (x :: xs) (y :: ys) = .tpx [x, y] :: zipD xs ys := rfl
def kC3 (b : BX) (c e : EX) (vs : List Nat) (ds acc : List D) : Rs → Rs
  | .ok y ρ => compL b c e vs ds (acc ++ [y]) ρ
  | .err x ρ => .err x ρ
  | .stuck => .stuck
def kC2 (b : BX) (c e : EX) (vs : List Nat) (ds acc : List D) (ρ : En) : Option Bool → Rs
  | some true => kC3 b c e vs ds acc (e ρ)
  | some false => compL b c e vs ds acc ρ
  | none => .stuck
def kC1 (b : BX) (c e : EX) (vs : List Nat) (ds acc : List D) : Rs → Rs
  | .ok t ρ => kC2 b c e vs ds acc ρ (truth t)
  | .err x ρ => .err x ρ
  | .stuck => .stuck
def kC0 (b : BX) (c e : EX) (vs : List Nat) (ds acc : List D) : Option En → Rs
  | some ρ => kC1 b c e vs ds acc (c ρ)
  | none => .stuck
@[simp] theorem kC3_ok {b : BX} {c e : EX} {vs : List Nat} {ds acc : List D} {y : D} : kC3 b c e vs ds acc (.ok y ρ) = compL b c e vs ds (acc ++ [y]) ρ := rfl
@[simp] theorem kC2_t {b : BX} {c e : EX} {vs : List Nat} {ds acc : List D} : kC2 b c e vs ds acc ρ (some true) = kC3 b c e vs ds acc (e ρ) := rfl
@[simp] theorem kC2_f {b : BX} {c e : EX} {vs : List Nat} {ds acc : List D} : kC2 b c e vs ds acc ρ (some false) = compL b c e vs ds acc ρ := rfl
@[simp] theorem kC1_ok {b : BX} {c e : EX} {vs : List Nat} {ds acc : List D} {t : D} : kC1 b c e vs ds acc (.ok t ρ) = kC2 b c e vs ds acc ρ (truth t) := rfl
@[simp] theorem kC0_s {b : BX} {c e : EX} {vs : List Nat} {ds acc : List D} : kC0 b c e vs ds acc (some ρ) = kC1 b c e vs ds acc (c ρ) := rfl
@[simp] theorem compL_nil {b : BX} {c e : EX} {vs : List Nat} {acc : List D} : compL b c e vs [] acc ρ = .ok (.lst acc) ρ := rfl
@[simp] theorem compL_cs {b : BX} {c e : EX} {vs : List Nat} {ds acc : List D} {d : D} : compL b c e vs (d :: ds) acc ρ = kC0 b c e vs ds acc (b d (wipeE ρ vs)) := by
  conv => lhs; unfold compL
  cases b d (wipeE ρ vs) with
  | none => rfl
  | some ρ1 =>
    show (c ρ1).bind _ = kC1 b c e vs ds acc (c ρ1)
    cases c ρ1 with
    | ok t ρ2 =>
      show (match truth t with | some true => _ | some false => _ | none => _) = kC2 b c e vs ds acc ρ2 (truth t)
      cases truth t with
      | none => rfl
      | some q =>
        cases q with
        | false => rfl
        | true =>
          show (e ρ2).bind _ = kC3 b c e vs ds acc (e ρ2)
          cases e ρ2 <;> rfl
    | err x ρ2 => rfl
    | stuck => rfl
def kCE (ρ1 : En) (vs : List Nat) : Rs → Rs
  | .ok d ρ => .ok d (backE ρ1 (wipeE ρ vs) vs)
  | _ => .stuck
def kCo (b : BX) (c e : EX) (vs : List Nat) : Ri → Rs
  | .ok ds ρ => if ds.length ≤ 1000000 then kCE ρ vs (compL b c e vs ds [] ρ) else .stuck
  | .err x ρ => .err x ρ
  | .stuck => .stuck
@[simp] theorem kCE_ok {ρ1 : En} {vs : List Nat} {d : D} : kCE ρ1 vs (.ok d ρ) = .ok d (backE ρ1 (wipeE ρ vs) vs) := rfl
@[simp] theorem kCo_ok {b : BX} {c e : EX} {vs : List Nat} {ds : List D} : kCo b c e vs (.ok ds ρ) = (if ds.length ≤ 1000000 then kCE ρ vs (compL b c e vs ds [] ρ) else .stuck) := rfl
@[simp] theorem eComp_ap {it : IX} {b : BX} {c e : EX} {vs : List Nat} : eComp it b c e vs ρ = kCo b c e vs (it ρ) := by
  unfold eComp
  cases it ρ with
  | ok ds ρ1 =>
    show (if ds.length ≤ 1000000 then _ else _) = (if ds.length ≤ 1000000 then _ else _)
    split
    · cases compL b c e vs ds [] ρ1 <;> rfl
    · rfl
  | err x ρ1 => rfl
  | stuck => rfl
@[simp] theorem wipeE_nil : wipeE ρ [] = ρ := rfl
@[simp] theorem wipeE_cons {v : Nat} {vs : List Nat} : wipeE ρ (v :: vs) = (wipeE ρ vs).set v none := rfl
@[simp] theorem backE_nil {ρ0 : En} : backE ρ0 ρ [] = ρ := rfl
@[simp] theorem backE_cons {ρ0 : En} {v : Nat} {vs : List Nat} : backE ρ0 ρ (v :: vs) = (backE ρ0 ρ vs).set v (ρ0.sl.getD v none) := rfl
def kMl : Rs → List Nat → En → Rs
  | .ok (.lst acc) ρ, vs, ρ1 => .ok (.ce ρ.st.length) ⟨(backE ρ1 (wipeE ρ vs) vs).sl, ρ.st ++ [some (.lst acc)]⟩
  | _, _, _ => .stuck
def kCoM (b : BX) (c e : EX) (vs : List Nat) : Ri → Rs
  | .ok ds ρ => if ds.length ≤ 1000000 then kMl (compL b c e vs ds [] ρ) vs ρ else .stuck
  | .err x ρ => .err x ρ
  | .stuck => .stuck
@[simp] theorem kMl_ok {acc : List D} {vs : List Nat} {ρ1 : En} : kMl (.ok (.lst acc) ρ) vs ρ1 = .ok (.ce ρ.st.length) ⟨(backE ρ1 (wipeE ρ vs) vs).sl, ρ.st ++ [some (.lst acc)]⟩ := rfl
@[simp] theorem kCoM_ok {b : BX} {c e : EX} {vs : List Nat} {ds : List D} : kCoM b c e vs (.ok ds ρ) = (if ds.length ≤ 1000000 then kMl (compL b c e vs ds [] ρ) vs ρ else .stuck) := rfl
@[simp] theorem eCompM_ap {it : IX} {b : BX} {c e : EX} {vs : List Nat} : eCompM it b c e vs ρ = kCoM b c e vs (it ρ) := by
  unfold eCompM
  cases it ρ with
  | ok ds ρ1 =>
    show (if ds.length ≤ 1000000 then _ else _) = (if ds.length ≤ 1000000 then _ else _)
    split
    · cases compL b c e vs ds [] ρ1 with
      | ok d ρ2 => cases d <;> rfl
      | err x ρ2 => rfl
      | stuck => rfl
    · rfl
  | err x ρ1 => rfl
  | stuck => rfl
def kSc : Option D → En → Rs
  | some z, ρ => if scal z = true then .ok z ρ else .stuck
  | none, _ => .stuck
theorem kSc_eq (o : Option D) (ρ : En) : (match o with | some z => if scal z = true then Rs.ok z ρ else .stuck | none => .stuck) = kSc o ρ := by cases o <;> rfl
@[simp] theorem kSc_b {b : Bool} : kSc (some (.bl b)) ρ = .ok (.bl b) ρ := rfl
@[simp] theorem kSc_i {b : Int} : kSc (some (.int b)) ρ = .ok (.int b) ρ := rfl
@[simp] theorem kSc_n : kSc (some .non) ρ = .ok .non ρ := rfl
@[simp] theorem kSc_s {b : Str} : kSc (some (.str b)) ρ = .ok (.str b) ρ := rfl
def kBs2 (n : Nat) (op : D → D → Option D) (d : D) : Rs → Rs
  | .ok e ρ => kSc (op (seeD ρ.st n d) (seeD ρ.st n e)) ρ
  | .err x ρ => .err x ρ
  | .stuck => .stuck
def kBs1 (n : Nat) (op : D → D → Option D) (fb : EX) : Rs → Rs
  | .ok d ρ => kBs2 n op d (fb ρ)
  | .err x ρ => .err x ρ
  | .stuck => .stuck
@[simp] theorem kBs2_ok {n : Nat} {op : D → D → Option D} {d e : D} : kBs2 n op d (.ok e ρ) = kSc (op (seeD ρ.st n d) (seeD ρ.st n e)) ρ := rfl
@[simp] theorem kBs1_ok {n : Nat} {op : D → D → Option D} {fb : EX} {d : D} : kBs1 n op fb (.ok d ρ) = kBs2 n op d (fb ρ) := rfl
@[simp] theorem eBs_ap {n : Nat} {op : D → D → Option D} {fa fb : EX} : eBs n op fa fb ρ = kBs1 n op fb (fa ρ) := by
  show (fa ρ).bind _ = _
  cases fa ρ with
  | ok d ρ1 =>
    show (fb ρ1).bind _ = kBs2 n op d (fb ρ1)
    cases fb ρ1 with
    | ok e ρ2 => exact kSc_eq _ _
    | err x ρ2 => rfl
    | stuck => rfl
  | err x ρ1 => rfl
  | stuck => rfl
def kF (m : Bool) : Option Oc → En → Rs
  | some z, ρ => outF m z ρ
  | none, _ => .stuck
theorem kF_eq (m : Bool) (o : Option Oc) (ρ : En) : (match o with | some z => outF m z ρ | none => .stuck) = kF m o ρ := by cases o <;> rfl
@[simp] theorem kF_v {m : Bool} {d : D} : kF m (some (.val d)) ρ = .ok d ρ := rfl
@[simp] theorem kF_t {ds : List D} : kF true (some (.new ds)) ρ = .ok (.ce ρ.st.length) ⟨ρ.sl, ρ.st ++ [some (.lst ds)]⟩ := rfl
@[simp] theorem kF_f {ds : List D} : kF false (some (.new ds)) ρ = .ok (.lst ds) ρ := rfl
def kBF2 (m : Bool) (op : D → D → Option Oc) (d : D) : Rs → Rs
  | .ok e ρ => kF m (op (see1 ρ.st d) (see1 ρ.st e)) ρ
  | .err x ρ => .err x ρ
  | .stuck => .stuck
def kBF1 (m : Bool) (op : D → D → Option Oc) (fb : EX) : Rs → Rs
  | .ok d ρ => kBF2 m op d (fb ρ)
  | .err x ρ => .err x ρ
  | .stuck => .stuck
@[simp] theorem kBF2_ok {m : Bool} {op : D → D → Option Oc} {d e : D} : kBF2 m op d (.ok e ρ) = kF m (op (see1 ρ.st d) (see1 ρ.st e)) ρ := rfl
@[simp] theorem kBF1_ok {m : Bool} {op : D → D → Option Oc} {fb : EX} {d : D} : kBF1 m op fb (.ok d ρ) = kBF2 m op d (fb ρ) := rfl
@[simp] theorem eBF_ap {m : Bool} {op : D → D → Option Oc} {fa fb : EX} : eBF m op fa fb ρ = kBF1 m op fb (fa ρ) := by
  show (fa ρ).bind _ = _
  cases fa ρ with
  | ok d ρ1 =>
    show (fb ρ1).bind _ = kBF2 m op d (fb ρ1)
    cases fb ρ1 with
    | ok e ρ2 => exact kF_eq _ _ _
    | err x ρ2 => rfl
    | stuck => rfl
  | err x ρ1 => rfl
  | stuck => rfl
def kCF (m : Bool) (f : D → Option Oc) : Ra → Rs
  | .ok [d] ρ => kF m (f (see1 ρ.st d)) ρ
  | .ok _ _ => .stuck
  | .err x ρ => .err x ρ
  | .stuck => .stuck
@[simp] theorem kCF_ok {m : Bool} {f : D → Option Oc} {d : D} : kCF m f (.ok [d] ρ) = kF m (f (see1 ρ.st d)) ρ := rfl
@[simp] theorem kCF_err {m : Bool} {f : D → Option Oc} {x : Ex} : kCF m f (.err x ρ) = .err x ρ := rfl
@[simp] theorem eCallF_ap {m : Bool} {f : D → Option Oc} {fa : EX} : eCallF m f fa ρ = kCF m f (evl [fa] [] ρ) := by
  unfold eCallF
  rw [evs_evl]
  cases evl [fa] [] ρ with
  | ok ds ρ1 =>
    match ds with
    | [] => rfl
    | [d] => exact kF_eq _ _ _
    | _ :: _ :: _ => rfl
  | err x ρ1 => rfl
  | stuck => rfl
def kLS : Ra → Rs
  | .ok [d] ρ => kO (lenS ρ.st d) ρ
  | .ok _ _ => .stuck
  | .err x ρ => .err x ρ
  | .stuck => .stuck
@[simp] theorem kLS_ok {d : D} : kLS (.ok [d] ρ) = kO (lenS ρ.st d) ρ := rfl
@[simp] theorem kLS_err {x : Ex} : kLS (.err x ρ) = .err x ρ := rfl
@[simp] theorem eLenS_ap {fa : EX} : eLenS fa ρ = kLS (evl [fa] [] ρ) := by
  unfold eLenS
  rw [evs_evl]
  cases evl [fa] [] ρ with
  | ok ds ρ1 =>
    match ds with
    | [] => rfl
    | [d] => exact kO_eq _ _
    | _ :: _ :: _ => rfl
  | err x ρ1 => rfl
  | stuck => rfl
def kLM : Ra → Rs
  | .ok ds ρ => if ds.length ≤ 1000 then .ok (.ce ρ.st.length) ⟨ρ.sl, ρ.st ++ [some (.lst ds)]⟩ else .stuck
  | .err x ρ => .err x ρ
  | .stuck => .stuck
@[simp] theorem kLM_ok {ds : List D} : kLM (.ok ds ρ) = (if ds.length ≤ 1000 then .ok (.ce ρ.st.length) ⟨ρ.sl, ρ.st ++ [some (.lst ds)]⟩ else .stuck) := rfl
@[simp] theorem eLstM_ap {fs : List EX} : eLstM fs ρ = kLM (evl fs [] ρ) := by
  unfold eLstM
  rw [evs_evl]
  cases evl fs [] ρ <;> rfl
def kMu3 (n : Nat) (ρ : En) : Option (D × List D) → Rs
  | some (res, ds) => .ok res ⟨ρ.sl, ρ.st.set n (some (.lst ds))⟩
  | none => .stuck
def kMu2 (f : List D → List D → Option (D × List D)) (es : List D) (ρ : En) : Option (Nat × List D) → Rs
  | some (n, ds) => kMu3 n ρ (f ds es)
  | none => .stuck
def kMu1 (f : List D → List D → Option (D × List D)) (d : D) : Ra → Rs
  | .ok es ρ => kMu2 f es ρ (lstAt ρ.st d)
  | .err x ρ => .err x ρ
  | .stuck => .stuck
def kMu0 (f : List D → List D → Option (D × List D)) (fs : List EX) (d : D) (ρ : En) : Option (Nat × List D) → Rs
  | some _ => kMu1 f d (evl fs [] ρ)
  | none => .stuck
def kMu (f : List D → List D → Option (D × List D)) (fs : List EX) : Rs → Rs
  | .ok d ρ => kMu0 f fs d ρ (lstAt ρ.st d)
  | .err x ρ => .err x ρ
  | .stuck => .stuck
section
variable {f : List D → List D → Option (D × List D)} {fs : List EX} {d res : D} {ds es : List D} {n : Nat}
@[simp] theorem kMu3_s : kMu3 n ρ (some (res, ds)) = .ok res ⟨ρ.sl, ρ.st.set n (some (.lst ds))⟩ := rfl
@[simp] theorem kMu2_s : kMu2 f es ρ (some (n, ds)) = kMu3 n ρ (f ds es) := rfl
@[simp] theorem kMu1_ok : kMu1 f d (.ok es ρ) = kMu2 f es ρ (lstAt ρ.st d) := rfl
@[simp] theorem kMu1_err {x : Ex} : kMu1 f d (.err x ρ) = .err x ρ := rfl
@[simp] theorem kMu0_s {p : Nat × List D} : kMu0 f fs d ρ (some p) = kMu1 f d (evl fs [] ρ) := rfl
@[simp] theorem kMu_ok : kMu f fs (.ok d ρ) = kMu0 f fs d ρ (lstAt ρ.st d) := rfl
@[simp] theorem kMu_err {x : Ex} : kMu f fs (.err x ρ) = .err x ρ := rfl
end
@[simp] theorem eMut_ap {f : List D → List D → Option (D × List D)} {fo : EX} {fs : List EX} : eMut f fo fs ρ = kMu f fs (fo ρ) := by
  show (fo ρ).bind _ = _
  cases fo ρ with
  | ok d ρ1 =>
    show (match lstAt ρ1.st d with | some _ => _ | none => _) = kMu0 f fs d ρ1 (lstAt ρ1.st d)
    cases lstAt ρ1.st d with
    | none => rfl
    | some p =>
      show evs fs _ ρ1 = kMu1 f d (evl fs [] ρ1)
      rw [evs_evl]
      cases evl fs [] ρ1 with
      | ok es ρ2 =>
        show (match lstAt ρ2.st d with | some (n, ds) => _ | none => _) = kMu2 f es ρ2 (lstAt ρ2.st d)
        cases lstAt ρ2.st d with
        | none => rfl
        | some q =>
          obtain ⟨n, ds⟩ := q
          show (match f ds es with | some (res, ds') => _ | none => _) = kMu3 n ρ2 (f ds es)
          cases f ds es with
          | none => rfl
          | some r => rfl
      | err x ρ2 => rfl
      | stuck => rfl
  | err x ρ1 => rfl
  | stuck => rfl
def kIx2 (d : D) : Rs → Rs
  | .ok e ρ => kO (ixS ρ.st d e) ρ
  | .err x ρ => .err x ρ
  | .stuck => .stuck
def kIx1 (fb : EX) : Rs → Rs
  | .ok d ρ => kIx2 d (fb ρ)
  | .err x ρ => .err x ρ
  | .stuck => .stuck
@[simp] theorem kIx2_ok {d e : D} : kIx2 d (.ok e ρ) = kO (ixS ρ.st d e) ρ := rfl
@[simp] theorem kIx2_err {d : D} {x : Ex} : kIx2 d (.err x ρ) = .err x ρ := rfl
@[simp] theorem kIx1_ok {d : D} {fb : EX} : kIx1 fb (.ok d ρ) = kIx2 d (fb ρ) := rfl
@[simp] theorem kIx1_err {fb : EX} {x : Ex} : kIx1 fb (.err x ρ) = .err x ρ := rfl
@[simp] theorem eIxS_ap {fa fb : EX} : eIxS fa fb ρ = kIx1 fb (fa ρ) := by
  show (fa ρ).bind _ = _
  cases fa ρ with
  | ok d ρ1 =>
    show (fb ρ1).bind _ = kIx2 d (fb ρ1)
    cases fb ρ1 with
    | ok e ρ2 => exact kO_eq _ _
    | err x ρ2 => rfl
    | stuck => rfl
  | err x ρ1 => rfl
  | stuck => rfl
def kNo (neg : Bool) : Option D → En → Rs
  | some z, ρ => .ok (if neg = true then notD z else z) ρ
  | none, _ => .stuck
@[simp] theorem kNo_f {z : D} : kNo false (some z) ρ = .ok z ρ := rfl
@[simp] theorem kNo_t {z : D} : kNo true (some z) ρ = .ok (notD z) ρ := rfl
@[simp] theorem notD_b {b : Bool} : notD (.bl b) = .bl (!b) := rfl
def kIn2 (neg : Bool) (n : Nat) (d : D) : Rs → Rs
  | .ok e ρ => kNo neg (inS n ρ.st d e) ρ
  | .err x ρ => .err x ρ
  | .stuck => .stuck
def kIn1 (neg : Bool) (n : Nat) (fb : EX) : Rs → Rs
  | .ok d ρ => kIn2 neg n d (fb ρ)
  | .err x ρ => .err x ρ
  | .stuck => .stuck
@[simp] theorem kIn2_ok {neg : Bool} {n : Nat} {d e : D} : kIn2 neg n d (.ok e ρ) = kNo neg (inS n ρ.st d e) ρ := rfl
@[simp] theorem kIn1_ok {neg : Bool} {n : Nat} {d : D} {fb : EX} : kIn1 neg n fb (.ok d ρ) = kIn2 neg n d (fb ρ) := rfl
@[simp] theorem eInA_ap {n : Nat} {fa fb : EX} : eInA n fa fb ρ = kIn1 false n fb (fa ρ) := by
  show (fa ρ).bind _ = _
  cases fa ρ with
  | ok d ρ1 =>
    show (fb ρ1).bind _ = kIn2 false n d (fb ρ1)
    cases fb ρ1 with
    | ok e ρ2 =>
      show (match inS n ρ2.st d e with | some z => _ | none => _) = kNo false (inS n ρ2.st d e) ρ2
      cases inS n ρ2.st d e <;> rfl
    | err x ρ2 => rfl
    | stuck => rfl
  | err x ρ1 => rfl
  | stuck => rfl
@[simp] theorem eNinA_ap {n : Nat} {fa fb : EX} : eNinA n fa fb ρ = kIn1 true n fb (fa ρ) := by
  show (fa ρ).bind _ = _
  cases fa ρ with
  | ok d ρ1 =>
    show (fb ρ1).bind _ = kIn2 true n d (fb ρ1)
    cases fb ρ1 with
    | ok e ρ2 =>
      show (match inS n ρ2.st d e with | some z => _ | none => _) = kNo true (inS n ρ2.st d e) ρ2
      cases inS n ρ2.st d e <;> rfl
    | err x ρ2 => rfl
    | stuck => rfl
  | err x ρ1 => rfl
  | stuck => rfl
def kPS (ρ : En) : Option Store → Fl
  | some S => .nx ⟨ρ.sl, S⟩
  | none => .stuck
@[simp] theorem kPS_s {S : Store} : kPS ρ (some S) = .nx ⟨ρ.sl, S⟩ := rfl
def kPS3 (d e : D) : Rs → Fl
  | .ok k ρ => kPS ρ (putS ρ.st d k e)
  | .err x ρ => .err x ρ
  | .stuck => .stuck
def kPS2 (fk : EX) (e : D) : Rs → Fl
  | .ok d ρ => kPS3 d e (fk ρ)
  | .err x ρ => .err x ρ
  | .stuck => .stuck
def kPS1 (fo fk : EX) : Rs → Fl
  | .ok e ρ => kPS2 fk e (fo ρ)
  | .err x ρ => .err x ρ
  | .stuck => .stuck
@[simp] theorem kPS3_ok {d e k : D} : kPS3 d e (.ok k ρ) = kPS ρ (putS ρ.st d k e) := rfl
@[simp] theorem kPS2_ok {fk : EX} {d e : D} : kPS2 fk e (.ok d ρ) = kPS3 d e (fk ρ) := rfl
@[simp] theorem kPS1_ok {fo fk : EX} {e : D} : kPS1 fo fk (.ok e ρ) = kPS2 fk e (fo ρ) := rfl
@[simp] theorem kPS1_err {fo fk : EX} {x : Ex} : kPS1 fo fk (.err x ρ) = .err x ρ := rfl
@[simp] theorem sPutS_ap {fo fk fe : EX} : sPutS fo fk fe ρ = kPS1 fo fk (fe ρ) := by
  show (fe ρ).then _ = _
  cases fe ρ with
  | ok e ρ1 =>
    show (fo ρ1).then _ = kPS2 fk e (fo ρ1)
    cases fo ρ1 with
    | ok d ρ2 =>
      show (fk ρ2).then _ = kPS3 d e (fk ρ2)
      cases fk ρ2 with
      | ok k ρ3 =>
        show (match putS ρ3.st d k e with | some S => _ | none => _) = kPS ρ3 (putS ρ3.st d k e)
        cases putS ρ3.st d k e <;> rfl
      | err x ρ3 => rfl
      | stuck => rfl
    | err x ρ2 => rfl
    | stuck => rfl
  | err x ρ1 => rfl
  | stuck => rfl
def kAS4 (d k : D) (ρ : En) : Option D → Fl
  | some z => kPS ρ (putS ρ.st d k z)
  | none => .stuck
def kAS3 (op : D → D → Option D) (d k x : D) : Rs → Fl
  | .ok y ρ => kAS4 d k ρ (op x y)
  | .err x ρ => .err x ρ
  | .stuck => .stuck
def kAS2' (op : D → D → Option D) (fe : EX) (d k : D) (ρ : En) : Option D → Fl
  | some x => kAS3 op d k x (fe ρ)
  | none => .stuck
def kAS2 (op : D → D → Option D) (fe : EX) (d : D) : Rs → Fl
  | .ok k ρ => kAS2' op fe d k ρ (getS ρ.st d k)
  | .err x ρ => .err x ρ
  | .stuck => .stuck
def kAS1 (op : D → D → Option D) (fk fe : EX) : Rs → Fl
  | .ok d ρ => kAS2 op fe d (fk ρ)
  | .err x ρ => .err x ρ
  | .stuck => .stuck
section
variable {op : D → D → Option D} {fk fe : EX} {d k x y z : D}
@[simp] theorem kAS4_s : kAS4 d k ρ (some z) = kPS ρ (putS ρ.st d k z) := rfl
@[simp] theorem kAS3_ok : kAS3 op d k x (.ok y ρ) = kAS4 d k ρ (op x y) := rfl
@[simp] theorem kAS2'_s : kAS2' op fe d k ρ (some x) = kAS3 op d k x (fe ρ) := rfl
@[simp] theorem kAS2_ok : kAS2 op fe d (.ok k ρ) = kAS2' op fe d k ρ (getS ρ.st d k) := rfl
@[simp] theorem kAS1_ok : kAS1 op fk fe (.ok d ρ) = kAS2 op fe d (fk ρ) := rfl
@[simp] theorem sAugS_ap {fo : EX} : sAugS op fo fk fe ρ = kAS1 op fk fe (fo ρ) := by
  show (fo ρ).then _ = _
  cases fo ρ with
  | ok d ρ1 =>
    show (fk ρ1).then _ = kAS2 op fe d (fk ρ1)
    cases fk ρ1 with
    | ok k ρ2 =>
      show (match getS ρ2.st d k with | some x => _ | none => _) = kAS2' op fe d k ρ2 (getS ρ2.st d k)
      cases getS ρ2.st d k with
      | none => rfl
      | some x =>
        show (fe ρ2).then _ = kAS3 op d k x (fe ρ2)
        cases fe ρ2 with
        | ok y ρ3 =>
          show (match op x y with | some z => _ | none => _) = kAS4 d k ρ3 (op x y)
          cases op x y with
          | none => rfl
          | some z =>
            show (match putS ρ3.st d k z with | some S => _ | none => _) = kPS ρ3 (putS ρ3.st d k z)
            cases putS ρ3.st d k z <;> rfl
        | err x ρ3 => rfl
        | stuck => rfl
    | err x ρ2 => rfl
    | stuck => rfl
  | err x ρ1 => rfl
  | stuck => rfl
end
def kAu2 (i : Nat) : Option D → En → Fl
  | some z, ρ => .nx (ρ.set i (some (.val z)))
  | none, _ => .stuck
def kAu1 (i : Nat) (op : D → D → Option D) (d : D) : Rs → Fl
  | .ok e ρ => kAu2 i (op d e) ρ
  | .err x ρ => .err x ρ
  | .stuck => .stuck
def kAu (i : Nat) (op : D → D → Option D) (f : EX) (ρ : En) : Option (Option Sl) → Fl
  | some (some (.val d)) => kAu1 i op d (f ρ)
  | _ => .stuck
section
variable {i : Nat} {op : D → D → Option D} {f : EX} {d e z : D}
@[simp] theorem kAu2_s : kAu2 i (some z) ρ = .nx (ρ.set i (some (.val z))) := rfl
@[simp] theorem kAu1_ok : kAu1 i op d (.ok e ρ) = kAu2 i (op d e) ρ := rfl
@[simp] theorem kAu_v : kAu i op f ρ (some (some (.val d))) = kAu1 i op d (f ρ) := rfl
@[simp] theorem sAug_ap : sAug i op f ρ = kAu i op f ρ ρ[i]? := by
  unfold sAug
  cases ρ[i]? with
  | none => rfl
  | some o =>
    cases o with
    | none => rfl
    | some s =>
      cases s with
      | exc x => rfl
      | val d =>
        show (f ρ).then _ = kAu1 i op d (f ρ)
        cases f ρ with
        | ok e ρ1 =>
          show (match op d e with | some z => _ | none => _) = kAu2 i (op d e) ρ1
          cases op d e <;> rfl
        | err x ρ1 => rfl
        | stuck => rfl
end
def kPa2 (i j : Nat) (d : D) : Rs → Fl
  | .ok e ρ => .nx ((ρ.set i (some (.val d))).set j (some (.val e)))
  | .err x ρ => .err x ρ
  | .stuck => .stuck
def kPa1 (i j : Nat) (fb : EX) : Rs → Fl
  | .ok d ρ => kPa2 i j d (fb ρ)
  | .err x ρ => .err x ρ
  | .stuck => .stuck
@[simp] theorem kPa2_ok {i j : Nat} {d e : D} : kPa2 i j d (.ok e ρ) = .nx ((ρ.set i (some (.val d))).set j (some (.val e))) := rfl
@[simp] theorem kPa1_ok {i j : Nat} {fb : EX} {d : D} : kPa1 i j fb (.ok d ρ) = kPa2 i j d (fb ρ) := rfl
@[simp] theorem sPar_ap {i j : Nat} {fa fb : EX} : sPar i j fa fb ρ = kPa1 i j fb (fa ρ) := by
  show (fa ρ).then _ = _
  cases fa ρ with
  | ok d ρ1 =>
    show (fb ρ1).then _ = kPa2 i j d (fb ρ1)
    cases fb ρ1 <;> rfl
  | err x ρ1 => rfl
  | stuck => rfl
def kA2b (b2 : BX) (d : D) : Option En → Fl
  | some ρ => kUO (b2 d ρ)
  | none => .stuck
@[simp] theorem kA2b_s {b2 : BX} {d : D} : kA2b b2 d (some ρ) = kUO (b2 d ρ) := rfl
def kA2 (b1 b2 : BX) : Rs → Fl
  | .ok d ρ => kA2b b2 d (b1 d ρ)
  | .err x ρ => .err x ρ
  | .stuck => .stuck
@[simp] theorem kA2_ok {b1 b2 : BX} {d : D} : kA2 b1 b2 (.ok d ρ) = kA2b b2 d (b1 d ρ) := rfl
@[simp] theorem sAsg2_ap {b1 b2 : BX} {f : EX} : sAsg2 b1 b2 f ρ = kA2 b1 b2 (f ρ) := by
  show (f ρ).then _ = _
  cases f ρ with
  | ok d ρ1 =>
    show (match b1 d ρ1 with | some ρ2 => _ | none => _) = kA2b b2 d (b1 d ρ1)
    cases b1 d ρ1 with
    | none => rfl
    | some ρ2 => exact kUO_eq _
  | err x ρ1 => rfl
  | stuck => rfl
def kFr2 (i n : Nat) (ρ : En) : Option (Option Cn) → Fl
  | some (some (.lst ds)) => .nx ⟨ρ.sl.set i (some (.val (.lst ds))), ρ.st.set n none⟩
  | some (some (.dct kvs)) => .nx ⟨ρ.sl.set i (some (.val (.dct (kvs.map (·.1)) (kvs.map (·.2))))), ρ.st.set n none⟩
  | some (some (.obj C fs)) => .nx ⟨ρ.sl.set i (some (.val (.obj C (fs.map (·.1)) (fs.map (·.2))))), ρ.st.set n none⟩
  | _ => .nx ρ
def kFr (i : Nat) (ρ : En) : Option (Option Sl) → Fl
  | some (some (.val (.ce n))) => kFr2 i n ρ ρ.st[n]?
  | _ => .nx ρ
@[simp] theorem kFr2_l {i n : Nat} {ds : List D} : kFr2 i n ρ (some (some (.lst ds))) = .nx ⟨ρ.sl.set i (some (.val (.lst ds))), ρ.st.set n none⟩ := rfl
@[simp] theorem kFr_c {i n : Nat} : kFr i ρ (some (some (.val (.ce n)))) = kFr2 i n ρ ρ.st[n]? := rfl
@[simp] theorem kFr_l {i : Nat} {ds : List D} : kFr i ρ (some (some (.val (.lst ds)))) = .nx ρ := rfl
@[simp] theorem kFr_t {i : Nat} {ds : List D} : kFr i ρ (some (some (.val (.tup ds)))) = .nx ρ := rfl
@[simp] theorem kFr_i {i : Nat} {z : Int} : kFr i ρ (some (some (.val (.int z)))) = .nx ρ := rfl
@[simp] theorem sFr_ap {i : Nat} : sFr i ρ = kFr i ρ ρ[i]? := by
  unfold sFr fzAt
  cases ρ[i]? with
  | none => rfl
  | some o =>
    cases o with
    | none => rfl
    | some s =>
      cases s with
      | exc x => rfl
      | val d =>
        cases d <;> try rfl
        rename_i n
        show Fl.nx ((match ρ.st[n]? with | some (some c) => (froze c).map _ | _ => none).getD ρ) = kFr2 i n ρ ρ.st[n]?
        cases ρ.st[n]? with
        | none => rfl
        | some o =>
          cases o with
          | none => rfl
          | some c => cases c <;> rfl
@[simp] theorem eDct0_ap : eDct0 ρ = .ok (.ce ρ.st.length) ⟨ρ.sl, ρ.st ++ [some (.dct [])]⟩ := rfl
@[simp] theorem eSet0_ap : eSet0 ρ = .ok (.ce ρ.st.length) ⟨ρ.sl, ρ.st ++ [some (.set [])]⟩ := rfl
def kLR1 (m : Bool) : Rs → Rs
  | .ok (.int n) ρ => if rgB 0 n = true then outF m (.new (rangeL 0 (n - 0).toNat)) ρ else .stuck
  | .ok _ _ => .stuck
  | .err x ρ => .err x ρ
  | .stuck => .stuck
@[simp] theorem kLR1_ok {m : Bool} {n : Int} : kLR1 m (.ok (.int n) ρ) = (if rgB 0 n = true then outF m (.new (rangeL 0 (n - 0).toNat)) ρ else .stuck) := rfl
@[simp] theorem eLR1_ap {m : Bool} {f : EX} : eLR1 m f ρ = kLR1 m (f ρ) := by
  show (f ρ).bind _ = _
  cases f ρ with
  | ok d ρ1 => cases d <;> rfl
  | err x ρ1 => rfl
  | stuck => rfl
@[simp] theorem outF_v {m : Bool} {d : D} : outF m (.val d) ρ = .ok d ρ := rfl
@[simp] theorem outF_t {ds : List D} : outF true (.new ds) ρ = .ok (.ce ρ.st.length) ⟨ρ.sl, ρ.st ++ [some (.lst ds)]⟩ := rfl
@[simp] theorem outF_f {ds : List D} : outF false (.new ds) ρ = .ok (.lst ds) ρ := rfl
def kEnu : Rs → Ri
  | .ok (.lst xs) ρ => .ok (enumD xs) ρ
  | .ok _ _ => .stuck
  | .err x ρ => .err x ρ
  | .stuck => .stuck
@[simp] theorem kEnu_ok {xs : List D} : kEnu (.ok (.lst xs) ρ) = .ok (enumD xs) ρ := rfl
@[simp] theorem iEn_ap {f : EX} : iEn f ρ = kEnu (f ρ) := by
  unfold iEn iB
  cases f ρ with
  | ok d ρ1 => cases d <;> rfl
  | err x ρ1 => rfl
  | stuck => rfl
def kSe : Option Bool → En → Rs
  | some b, ρ => .ok (.bl b) ρ
  | none, _ => .stuck
@[simp] theorem kSe_s {b : Bool} : kSe (some b) ρ = .ok (.bl b) ρ := rfl
def kSee (n : Nat) : Rs → Rs
  | .ok d ρ => kSe (truth (seeD ρ.st n d)) ρ
  | .err x ρ => .err x ρ
  | .stuck => .stuck
@[simp] theorem kSee_ok {n : Nat} {d : D} : kSee n (.ok d ρ) = kSe (truth (seeD ρ.st n d)) ρ := rfl
@[simp] theorem eSee_ap {n : Nat} {f : EX} : eSee n f ρ = kSee n (f ρ) := by
  show (f ρ).bind _ = _
  cases f ρ with
  | ok d ρ1 =>
    show (match truth (seeD ρ1.st n d) with | some b => _ | none => _) = kSe (truth (seeD ρ1.st n d)) ρ1
    cases truth (seeD ρ1.st n d) <;> rfl
  | err x ρ1 => rfl
  | stuck => rfl
def kSl (m : Bool) (d : D) (l h : Option Int) (ρ : En) : Rs := kF m (slF (see1 ρ.st d) l h) ρ
def kSlH (m : Bool) (d : D) (l : Option Int) : Rs → Rs
  | .ok (.int i) ρ => kSl m d l (some i) ρ
  | .ok _ _ => .stuck
  | .err x ρ => .err x ρ
  | .stuck => .stuck
def kSlo (m : Bool) (d : D) (l : Option Int) (ρ : En) : Option EX → Rs
  | none => kSl m d l none ρ
  | some f => kSlH m d l (f ρ)
def kSlL (m : Bool) (d : D) (hi : Option EX) : Rs → Rs
  | .ok (.int i) ρ => kSlo m d (some i) ρ hi
  | .ok _ _ => .stuck
  | .err x ρ => .err x ρ
  | .stuck => .stuck
def kSla (m : Bool) (lo hi : Option EX) : Rs → Rs
  | .ok d ρ => (match lo with
    | none => kSlo m d none ρ hi
    | some f => kSlL m d hi (f ρ))
  | .err x ρ => .err x ρ
  | .stuck => .stuck
section
variable {m : Bool} {d : D} {l h : Option Int} {i : Int} {f : EX} {hi : Option EX}
@[simp] theorem kSl_ap : kSl m d l h ρ = kF m (slF (see1 ρ.st d) l h) ρ := rfl
@[simp] theorem kSlH_ok : kSlH m d l (.ok (.int i) ρ) = kSl m d l (some i) ρ := rfl
@[simp] theorem kSlo_n : kSlo m d l ρ none = kSl m d l none ρ := rfl
@[simp] theorem kSlo_s : kSlo m d l ρ (some f) = kSlH m d l (f ρ) := rfl
@[simp] theorem kSlL_ok : kSlL m d hi (.ok (.int i) ρ) = kSlo m d (some i) ρ hi := rfl
@[simp] theorem kSla_n : kSla m none hi (.ok d ρ) = kSlo m d none ρ hi := rfl
@[simp] theorem kSla_s : kSla m (some f) hi (.ok d ρ) = kSlL m d hi (f ρ) := rfl
theorem eOpt_hi : eOpt hi (fun h ρ3 => match slF (see1 ρ3.st d) l h with | some z => outF m z ρ3 | none => .stuck) ρ = kSlo m d l ρ hi := by
  cases hi with
  | none => exact kF_eq _ _ _
  | some f =>
    show (f ρ).bind _ = kSlH m d l (f ρ)
    cases f ρ with
    | ok e ρ1 => cases e <;> first | rfl | exact kF_eq _ _ _
    | err x ρ1 => rfl
    | stuck => rfl
end
@[simp] theorem eSlF_ap {m : Bool} {fa : EX} {lo hi : Option EX} : eSlF m fa lo hi ρ = kSla m lo hi (fa ρ) := by
  show (fa ρ).bind _ = _
  cases fa ρ with
  | ok d ρ1 =>
    cases lo with
    | none => exact eOpt_hi
    | some f =>
      show (f ρ1).bind _ = kSlL m d hi (f ρ1)
      cases f ρ1 with
      | ok e ρ2 => cases e <;> first | rfl | exact eOpt_hi
      | err x ρ2 => rfl
      | stuck => rfl
  | err x ρ1 => rfl
  | stuck => rfl
def kWg (c : EX) (g : SX) (k : Nat) : Fl → Fl
  | .nx ρ => whileS c g k ρ
  | .ct ρ => whileS c g k ρ
  | .bk ρ => .nx ρ
  | r => r
def kWt (c : EX) (g : SX) (k : Nat) (ρ : En) : Option Bool → Fl
  | some true => kWg c g k (g ρ)
  | some false => .nx ρ
  | none => .stuck
def kWc (c : EX) (g : SX) (k : Nat) : Rs → Fl
  | .ok d ρ => kWt c g k ρ (truth d)
  | .err x ρ => .err x ρ
  | .stuck => .stuck
section
variable {c : EX} {g : SX} {k : Nat} {d : D}
@[simp] theorem kWg_nx : kWg c g k (.nx ρ) = whileS c g k ρ := rfl
@[simp] theorem kWg_ct : kWg c g k (.ct ρ) = whileS c g k ρ := rfl
@[simp] theorem kWg_bk : kWg c g k (.bk ρ) = .nx ρ := rfl
@[simp] theorem kWg_rt : kWg c g k (.rt d ρ) = .rt d ρ := rfl
@[simp] theorem kWg_err {x : Ex} : kWg c g k (.err x ρ) = .err x ρ := rfl
@[simp] theorem kWt_t : kWt c g k ρ (some true) = kWg c g k (g ρ) := rfl
@[simp] theorem kWt_f : kWt c g k ρ (some false) = .nx ρ := rfl
@[simp] theorem kWc_ok : kWc c g k (.ok d ρ) = kWt c g k ρ (truth d) := rfl
theorem whileS_ap : whileS c g (k + 1) ρ = kWc c g k (c ρ) := by
  conv => lhs; unfold whileS
  cases c ρ with
  | ok d ρ1 =>
    show (match truth d with | some true => _ | some false => _ | none => _) = kWt c g k ρ1 (truth d)
    cases truth d with
    | none => rfl
    | some b =>
      cases b with
      | false => rfl
      | true =>
        show (match g ρ1 with | .nx ρ2 => _ | .ct ρ2 => _ | .bk ρ2 => _ | r => _) = kWg c g k (g ρ1)
        cases g ρ1 <;> rfl
  | err x ρ1 => rfl
  | stuck => rfl
end
def kTE (i : Nat) : Fl → Fl
  | .nx ρ => if noExc (ρ.set i none) then .nx (ρ.set i none) else .stuck
  | .bk ρ => if noExc (ρ.set i none) then .bk (ρ.set i none) else .stuck
  | .ct ρ => if noExc (ρ.set i none) then .ct (ρ.set i none) else .stuck
  | .rt d ρ => if noExc (ρ.set i none) then .rt d (ρ.set i none) else .stuck
  | _ => .stuck
@[simp] theorem kTE_nx {i : Nat} : kTE i (.nx ρ) = (if noExc (ρ.set i none) then .nx (ρ.set i none) else .stuck) := rfl
@[simp] theorem kTE_rt {i : Nat} {d : D} : kTE i (.rt d ρ) = (if noExc (ρ.set i none) then .rt d (ρ.set i none) else .stuck) := rfl
def kHd (x : Ex) (ρ : En) (i : Nat) (g : SX) (r : List Hdl) : Option Bool → Fl
  | some true => kTE i (g (ρ.set i (some (.exc x))))
  | some false => hdlS x ρ r
  | none => .stuck
@[simp] theorem kHd_t {x : Ex} {i : Nat} {g : SX} {r : List Hdl} : kHd x ρ i g r (some true) = kTE i (g (ρ.set i (some (.exc x)))) := rfl
@[simp] theorem kHd_f {x : Ex} {i : Nat} {g : SX} {r : List Hdl} : kHd x ρ i g r (some false) = hdlS x ρ r := rfl
@[simp] theorem hdlS_nil {x : Ex} : hdlS x ρ [] = .err x ρ := rfl
@[simp] theorem hdlS_cons {x : Ex} {i : Nat} {t : Str → Option Bool} {g : SX} {r : List Hdl} : hdlS x ρ (⟨i, t, g⟩ :: r) = kHd x ρ i g r (t x.c) := by
  show (match t x.c with | some true => _ | some false => _ | none => _) = kHd x ρ i g r (t x.c)
  cases t x.c with
  | none => rfl
  | some b =>
    cases b with
    | false => rfl
    | true =>
      show (match g (ρ.set i (some (.exc x))) with | .nx ρ2 => _ | .bk ρ2 => _ | .ct ρ2 => _ | .rt d ρ2 => _ | _ => _) = kTE i (g (ρ.set i (some (.exc x))))
      cases g (ρ.set i (some (.exc x))) <;> rfl
def kTry (l : List Hdl) : Fl → Fl
  | .err x ρ => hdlS x ρ l
  | r => r
@[simp] theorem kTry_err {l : List Hdl} {x : Ex} : kTry l (.err x ρ) = hdlS x ρ l := rfl
@[simp] theorem kTry_nx {l : List Hdl} : kTry l (.nx ρ) = .nx ρ := rfl
@[simp] theorem kTry_rt {l : List Hdl} {d : D} : kTry l (.rt d ρ) = .rt d ρ := rfl
@[simp] theorem sTryZ_ap {gb : SX} {l : List Hdl} : sTryZ gb l ρ = kTry l (gb ρ) := by
  unfold sTryZ
  cases gb ρ <;> rfl
@[simp] theorem runS_ap {b : SX} {n : Nat} {ds : List D} {S : Store} : runS b n ds S = endR (b (envOf n ds S)) := rfl
@[simp] theorem runE_ap {b : SX} {n : Nat} {x : Ex} {S : Store} : runE b n x S = endR (b (envE n x S)) := rfl
@[simp] theorem endR_nx : endR (.nx ρ) = .ok .non ρ.st := rfl
@[simp] theorem endR_rt {d : D} : endR (.rt d ρ) = .ok d ρ.st := rfl
@[simp] theorem endR_err {x : Ex} : endR (.err x ρ) = .err x ρ.st := rfl
@[simp] theorem envOf_ap {n : Nat} {ds : List D} {S : Store} : envOf n ds S = ⟨ds.map (fun d => some (.val d)) ++ List.replicate (n - ds.length) none, S⟩ := rfl
@[simp] theorem envE_ap {n : Nat} {x : Ex} {S : Store} : envE n x S = ⟨some (.exc x) :: List.replicate (n - 1) none, S⟩ := rfl
@[simp] theorem see1_i {S : Store} {i : Int} : see1 S (.int i) = .int i := rfl
@[simp] theorem see1_b {S : Store} {i : Bool} : see1 S (.bl i) = .bl i := rfl
@[simp] theorem see1_n {S : Store} : see1 S .non = .non := rfl
@[simp] theorem see1_s {S : Store} {x : Str} : see1 S (.str x) = .str x := rfl
@[simp] theorem see1_t {S : Store} {xs : List D} : see1 S (.tup xs) = .tup xs := rfl
@[simp] theorem see1_l {S : Store} {xs : List D} : see1 S (.lst xs) = .lst xs := rfl
@[simp] theorem see1_scr {S : Store} {xs : List Int} : see1 S (.scr xs) = .scr xs := rfl
def kS1 (k : Nat) : Option (Option Cn) → D
  | some (some (.lst ds)) => .lst ds
  | _ => .ce k
@[simp] theorem kS1_l {k : Nat} {ds : List D} : kS1 k (some (some (.lst ds))) = .lst ds := rfl
@[simp] theorem kS1_d {k : Nat} {kvs : List (L2.Key × D)} : kS1 k (some (some (.dct kvs))) = .ce k := rfl
@[simp] theorem see1_c {S : Store} {k : Nat} : see1 S (.ce k) = kS1 k S[k]? := by
  show (match S[k]? with | some (some (.lst ds)) => _ | _ => _) = _
  cases S[k]? with
  | none => rfl
  | some o =>
    cases o with
    | none => rfl
    | some c => cases c <;> rfl
@[simp] theorem seeD_i {S : Store} {n : Nat} {i : Int} : seeD S n (.int i) = .int i := by cases n <;> rfl
@[simp] theorem seeD_b {S : Store} {n : Nat} {i : Bool} : seeD S n (.bl i) = .bl i := by cases n <;> rfl
@[simp] theorem seeD_n {S : Store} {n : Nat} : seeD S n .non = .non := by cases n <;> rfl
@[simp] theorem seeD_s {S : Store} {n : Nat} {i : Str} : seeD S n (.str i) = .str i := by cases n <;> rfl
@[simp] theorem seeD_scr {S : Store} {n : Nat} {i : List Int} : seeD S n (.scr i) = .scr i := by cases n <;> rfl
@[simp] theorem seeD_ints {S : Store} {n : Nat} {ns : List Int} : (ns.map D.int).map (seeD S n) = ns.map D.int := by
  rw [List.map_map]
  congr 1
  funext i
  exact seeD_i
@[simp] theorem seeD_t {S : Store} {n : Nat} {xs : List D} : seeD S (n + 1) (.tup xs) = .tup (xs.map (seeD S n)) := rfl
@[simp] theorem seeD_l {S : Store} {n : Nat} {xs : List D} : seeD S (n + 1) (.lst xs) = .lst (xs.map (seeD S n)) := rfl
def kSD (S : Store) (n k : Nat) : Option (Option Cn) → D
  | some (some (.lst ds)) => .lst (ds.map (seeD S n))
  | _ => .ce k
@[simp] theorem kSD_l {S : Store} {n k : Nat} {ds : List D} : kSD S n k (some (some (.lst ds))) = .lst (ds.map (seeD S n)) := rfl
@[simp] theorem seeD_c {S : Store} {n k : Nat} : seeD S (n + 1) (.ce k) = kSD S n k S[k]? := by
  show (match S[k]? with | some (some (.lst ds)) => _ | _ => _) = _
  cases S[k]? with
  | none => rfl
  | some o =>
    cases o with
    | none => rfl
    | some c => cases c <;> rfl
def kLa (k : Nat) : Option (Option Cn) → Option (Nat × List D)
  | some (some (.lst ds)) => some (k, ds)
  | _ => none
@[simp] theorem kLa_l {k : Nat} {ds : List D} : kLa k (some (some (.lst ds))) = some (k, ds) := rfl
@[simp] theorem kLa_d {k : Nat} {kvs : List (L2.Key × D)} : kLa k (some (some (.dct kvs))) = none := rfl
@[simp] theorem lstAt_c {S : Store} {k : Nat} : lstAt S (.ce k) = kLa k S[k]? := by
  show (match S[k]? with | some (some (.lst ds)) => _ | _ => _) = _
  cases S[k]? with
  | none => rfl
  | some o =>
    cases o with
    | none => rfl
    | some c => cases c <;> rfl
def kDa (k : Nat) : Option (Option Cn) → Option (Nat × List (L2.Key × D))
  | some (some (.dct ds)) => some (k, ds)
  | _ => none
@[simp] theorem kDa_d {k : Nat} {kvs : List (L2.Key × D)} : kDa k (some (some (.dct kvs))) = some (k, kvs) := rfl
@[simp] theorem kDa_l {k : Nat} {ds : List D} : kDa k (some (some (.lst ds))) = none := rfl
@[simp] theorem dctAt_c {S : Store} {k : Nat} : dctAt S (.ce k) = kDa k S[k]? := by
  show (match S[k]? with | some (some (.dct ds)) => _ | _ => _) = _
  cases S[k]? with
  | none => rfl
  | some o =>
    cases o with
    | none => rfl
    | some c => cases c <;> rfl
@[simp] theorem dctAt_l {S : Store} {ds : List D} : dctAt S (.lst ds) = none := rfl
@[simp] theorem dctAt_t {S : Store} {ds : List D} : dctAt S (.tup ds) = none := rfl
@[simp] theorem dctAt_s {S : Store} {x : Str} : dctAt S (.str x) = none := rfl
@[simp] theorem dctAt_r {S : Store} {x : List Int} : dctAt S (.scr x) = none := rfl
def kSa (k : Nat) : Option (Option Cn) → Option (Nat × List Int)
  | some (some (.set ds)) => some (k, ds)
  | _ => none
@[simp] theorem kSa_s {k : Nat} {ns : List Int} : kSa k (some (some (.set ns))) = some (k, ns) := rfl
@[simp] theorem kSa_l {k : Nat} {ds : List D} : kSa k (some (some (.lst ds))) = none := rfl
@[simp] theorem kSa_d {k : Nat} {ds : List (L2.Key × D)} : kSa k (some (some (.dct ds))) = none := rfl
@[simp] theorem setAt_c {S : Store} {k : Nat} : setAt S (.ce k) = kSa k S[k]? := by
  show (match S[k]? with | some (some (.set ds)) => _ | _ => _) = _
  cases S[k]? with
  | none => rfl
  | some o =>
    cases o with
    | none => rfl
    | some c => cases c <;> rfl
@[simp] theorem setAt_l {S : Store} {ds : List D} : setAt S (.lst ds) = none := rfl
@[simp] theorem setAt_t {S : Store} {ds : List D} : setAt S (.tup ds) = none := rfl
def kIxd (S : Store) (d e : D) : Option (Nat × List (L2.Key × D)) → Option D
  | some (_, kvs) => (keyD' e).bind fun k => getA kvs k
  | none => ixD (see1 S d) e
@[simp] theorem kIxd_s {S : Store} {d e : D} {n : Nat} {kvs : List (L2.Key × D)} : kIxd S d e (some (n, kvs)) = (keyD' e).bind fun k => getA kvs k := rfl
@[simp] theorem kIxd_n {S : Store} {d e : D} : kIxd S d e none = ixD (see1 S d) e := rfl
@[simp] theorem ixS_ap {S : Store} {d e : D} : ixS S d e = kIxd S d e (dctAt S d) := by
  unfold ixS kIxd
  rfl
def kLn (S : Store) (d : D) : Option (Nat × List (L2.Key × D)) → Option D
  | some (_, kvs) => some (.int (kvs.length : Nat))
  | none => lenD [see1 S d]
@[simp] theorem kLn_s {S : Store} {d : D} {n : Nat} {kvs : List (L2.Key × D)} : kLn S d (some (n, kvs)) = some (.int (kvs.length : Nat)) := rfl
@[simp] theorem kLn_n {S : Store} {d : D} : kLn S d none = lenD [see1 S d] := rfl
@[simp] theorem lenS_ap {S : Store} {d : D} : lenS S d = kLn S d (dctAt S d) := by
  unfold lenS kLn
  rfl
def kPt (S : Store) (d k e : D) : Option (Nat × List (L2.Key × D)) → Option Store
  | some (n, kvs) => (keyD' k).bind fun z => if kvs.length < sizeLine then some (S.set n (some (.dct (putA kvs z e)))) else none
  | none => putL S e (lstAt S d) k
@[simp] theorem kPt_s {S : Store} {d k e : D} {n : Nat} {kvs : List (L2.Key × D)} : kPt S d k e (some (n, kvs)) = (keyD' k).bind fun z => if kvs.length < sizeLine then some (S.set n (some (.dct (putA kvs z e)))) else none := rfl
@[simp] theorem kPt_n {S : Store} {d k e : D} : kPt S d k e none = putL S e (lstAt S d) k := rfl
@[simp] theorem putS_ap {S : Store} {d k e : D} : putS S d k e = kPt S d k e (dctAt S d) := by
  unfold putS kPt
  rfl
@[simp] theorem putL_s {S : Store} {e : D} {n : Nat} {ds : List D} {i : Int} : putL S e (some (n, ds)) (.int i) = (L2.ixN ds.length i).map fun j => S.set n (some (.lst (ds.set j e))) := rfl
def kGt (S : Store) (d k : D) : Option (Nat × List (L2.Key × D)) → Option D
  | some (_, kvs) => (keyD' k).bind fun z => getA kvs z
  | none => getL (lstAt S d) k
@[simp] theorem kGt_s {S : Store} {d k : D} {n : Nat} {kvs : List (L2.Key × D)} : kGt S d k (some (n, kvs)) = (keyD' k).bind fun z => getA kvs z := rfl
@[simp] theorem kGt_n {S : Store} {d k : D} : kGt S d k none = getL (lstAt S d) k := rfl
@[simp] theorem getS_ap {S : Store} {d k : D} : getS S d k = kGt S d k (dctAt S d) := by
  unfold getS kGt
  rfl
@[simp] theorem getL_s {n : Nat} {ds : List D} {i : Int} : getL (some (n, ds)) (.int i) = L2.atI ds i := rfl
@[simp] theorem keyD'_i {i : Int} : keyD' (.int i) = some (.inl i) := rfl
@[simp] theorem keyD'_s {x : Str} : keyD' (.str x) = some (.inr x) := rfl
def kInn (n : Nat) (S : Store) (d e : D) : Option (Nat × List (L2.Key × D)) → Option D
  | some (_, kvs) => (keyD' d).map fun k => .bl (getA kvs k).isSome
  | none => inM (seeD S n d) (seeD S n e)
@[simp] theorem kInn_s {n : Nat} {S : Store} {d e : D} {m : Nat} {kvs : List (L2.Key × D)} : kInn n S d e (some (m, kvs)) = (keyD' d).map fun k => .bl (getA kvs k).isSome := rfl
@[simp] theorem kInn_n {n : Nat} {S : Store} {d e : D} : kInn n S d e none = inM (seeD S n d) (seeD S n e) := rfl
def kIns (n : Nat) (S : Store) (d e : D) : Option (Nat × List Int) → Option D
  | some (_, ns) => (match d with
    | .int k => some (.bl (decide (k ∈ ns)))
    | _ => none)
  | none => kInn n S d e (dctAt S e)
@[simp] theorem kIns_s {n : Nat} {S : Store} {e : D} {m : Nat} {ns : List Int} {k : Int} : kIns n S (.int k) e (some (m, ns)) = some (.bl (decide (k ∈ ns))) := rfl
@[simp] theorem kIns_n {n : Nat} {S : Store} {d e : D} : kIns n S d e none = kInn n S d e (dctAt S e) := rfl
@[simp] theorem inS_ap {n : Nat} {S : Store} {d e : D} : inS n S d e = kIns n S d e (setAt S e) := by
  unfold inS
  cases setAt S e with
  | none => rfl
  | some p => cases d <;> rfl
@[simp] theorem appF_1 {ds : List D} {e : D} : appF ds [e] = (if ds.length < sizeLine then some (.non, ds ++ [e]) else none) := rfl
@[simp] theorem popF_0 {ds : List D} : popF ds [] = (ds[ds.length - 1]?).map fun x => (x, ds.dropLast) := rfl
@[simp] theorem ixF_ap {d e : D} : ixF d e = (ixD d e).map .val := rfl
@[simp] theorem addF_l {xs ys : List D} : addF (.lst xs) (.lst ys) = (if xs.length + ys.length ≤ sizeLine then some (.new (xs ++ ys)) else none) := rfl
@[simp] theorem addF_i {i j : Int} : addF (.int i) (.int j) = some (.val (.int (i + j))) := rfl
@[simp] theorem addF_t {xs ys : List D} : addF (.tup xs) (.tup ys) = (if xs.length + ys.length ≤ sizeLine then some (.val (.tup (xs ++ ys))) else none) := by
  show (addD (.tup xs) (.tup ys)).map Oc.val = _
  show (if xs.length + ys.length ≤ sizeLine then some (D.tup (xs ++ ys)) else none).map Oc.val = _
  split <;> rfl
@[simp] theorem mulF_i {i j : Int} : mulF (.int i) (.int j) = (if mulOk i j = true then some (.val (.int (i * j))) else none) := by
  show (mulD (.int i) (.int j)).map Oc.val = _
  show (if mulOk i j = true then some (D.int (i * j)) else none).map Oc.val = _
  split <;> rfl
@[simp] theorem mulF_l {xs : List D} {k : Int} : mulF (.lst xs) (.int k) = (if (-(2 ^ 63) ≤ k ∧ k < 2 ^ 63) ∧ xs.length * k.toNat ≤ sizeLine then some (.new (List.replicate k.toNat xs).flatten) else none) := rfl
@[simp] theorem listF_l {xs : List D} : listF (.lst xs) = some (.new xs) := rfl
@[simp] theorem listF_t {xs : List D} : listF (.tup xs) = some (.new xs) := rfl
@[simp] theorem tupleF_l {xs : List D} : tupleF (.lst xs) = some (.val (.tup xs)) := rfl
@[simp] theorem tupleF_t {xs : List D} : tupleF (.tup xs) = some (.val (.tup xs)) := rfl
@[simp] theorem slF_l {xs : List D} {lo hi : Option Int} : slF (.lst xs) lo hi = some (.new (cutD xs lo hi)) := rfl
@[simp] theorem slF_r {xs : List Int} {lo hi : Option Int} : slF (.scr xs) lo hi = some (.new ((cutD xs lo hi).map .int)) := rfl
@[simp] theorem slF_t {xs : List D} {lo hi : Option Int} : slF (.tup xs) lo hi = some (.val (.tup (cutD xs lo hi))) := rfl
@[simp] theorem ipD_i {f : Int → Int → Int} {i j : Int} : ipD f (.int i) (.int j) = some (.int (f i j)) := rfl
@[simp] theorem get_c0 {α : Type} {a : α} {l : List α} : (a :: l)[0]? = some a := rfl
@[simp] theorem noExc_nil {S : Store} : noExc ⟨[], S⟩ = true := rfl
/-! operators -/
@[simp] theorem addD_i {i j : Int} : addD (.int i) (.int j) = some (.int (i + j)) := rfl
@[simp] theorem subD_i {i j : Int} : subD (.int i) (.int j) = some (.int (i - j)) := rfl
@[simp] theorem mulD_i {i j : Int} : mulD (.int i) (.int j) = (if mulOk i j = true then some (.int (i * j)) else none) := rfl
@[simp] theorem fdivD_i {i j : Int} : fdivD (.int i) (.int j) = (if divOk i j = true then some (.int (i.fdiv j)) else none) := rfl
@[simp] theorem modD_i {i j : Int} : modD (.int i) (.int j) = (if j ≠ 0 then some (.int (i.fmod j)) else none) := rfl
@[simp] theorem addD_t {xs ys : List D} : addD (.tup xs) (.tup ys) = (if xs.length + ys.length ≤ sizeLine then some (.tup (xs ++ ys)) else none) := rfl
@[simp] theorem addD_l {xs ys : List D} : addD (.lst xs) (.lst ys) = (if xs.length + ys.length ≤ sizeLine then some (.lst (xs ++ ys)) else none) := rfl
@[simp] theorem negD_i {i : Int} : negD (.int i) = some (.int (-i)) := rfl
@[simp] theorem eqD_i {i j : Int} : eqD (.int i) (.int j) = some (.bl (decide (i = j))) := by
  show some (D.bl (i == j)) = _
  by_cases h : i = j <;> simp [h]
@[simp] theorem neD_i {i j : Int} : neD (.int i) (.int j) = some (.bl (!decide (i = j))) := by
  show some (D.bl (!(i == j))) = _
  by_cases h : i = j <;> simp [h]
@[simp] theorem eqD_s {i j : Str} : eqD (.str i) (.str j) = some (.bl (i == j)) := rfl
@[simp] theorem neD_s {i j : Str} : neD (.str i) (.str j) = some (.bl (!(i == j))) := rfl
@[simp] theorem eqD_b {i j : Bool} : eqD (.bl i) (.bl j) = some (.bl (i == j)) := rfl
@[simp] theorem neD_b {i j : Bool} : neD (.bl i) (.bl j) = some (.bl (!(i == j))) := rfl
@[simp] theorem truth_n : truth .non = some false := rfl
@[simp] theorem truth_b {b : Bool} : truth (.bl b) = some b := rfl
@[simp] theorem truth_i {i : Int} : truth (.int i) = some (i != 0) := rfl
@[simp] theorem truth_t {xs : List D} : truth (.tup xs) = some (!xs.isEmpty) := rfl
@[simp] theorem truth_l {xs : List D} : truth (.lst xs) = some (!xs.isEmpty) := rfl
@[simp] theorem lenD_t {xs : List D} : lenD [.tup xs] = some (.int (xs.length : Nat)) := rfl
@[simp] theorem lenD_l {xs : List D} : lenD [.lst xs] = some (.int (xs.length : Nat)) := rfl
@[simp] theorem intD_i {i : Int} : intD [.int i] = some (.int i) := rfl
@[simp] theorem intD_b {b : Bool} : intD [.bl b] = some (.int (if b then 1 else 0)) := rfl
@[simp] theorem absD_i {i : Int} : absD [.int i] = some (.int (if i < 0 then -i else i)) := rfl
@[simp] theorem ixD_t {xs : List D} {i : Int} : ixD (.tup xs) (.int i) = L2.atI xs i := rfl
@[simp] theorem ixD_l {xs : List D} {i : Int} : ixD (.lst xs) (.int i) = L2.atI xs i := rfl
@[simp] theorem isM_n {d : D} : isM d .non = some (.bl (isNo d)) := by cases d <;> rfl
@[simp] theorem isM_b {d : D} {b : Bool} : isM d (.bl b) = some (.bl (isBlD b d)) := by cases d <;> rfl
@[simp] theorem keyD_s {x : Str} : keyD (.str x) = some (.inr x) := rfl
@[simp] theorem keyD_i {x : Int} : keyD (.int x) = some (.inl x) := rfl
def kIsT (T : String) : Option String → Option D
  | some t => (L2.kitB t T).map .bl
  | none => none
@[simp] theorem kIsT_s {T t : String} : kIsT T (some t) = (L2.kitB t T).map .bl := rfl
@[simp] theorem isT_ {d : D} {T : String} : isT T d = kIsT T (tyName d) := by
  unfold isT
  cases tyName d <;> rfl
@[simp] theorem tyN_n : tyName (.non) = some "NoneType" := rfl
@[simp] theorem tyN_b {b : Bool} : tyName (.bl b) = some "bool" := rfl
@[simp] theorem tyN_i {b : Int} : tyName (.int b) = some "int" := rfl
@[simp] theorem tyN_s {b : Str} : tyName (.str b) = some "str" := rfl
@[simp] theorem tyN_t {b : List D} : tyName (.tup b) = some "tuple" := rfl
@[simp] theorem tyN_l {b : List D} : tyName (.lst b) = some "list" := rfl
@[simp] theorem ltD_i {i j : Int} : ltD (.int i) (.int j) = some (.bl (decide (i < j))) := by first | rfl | (simp [ltD, cmpI])
@[simp] theorem leD_i {i j : Int} : leD (.int i) (.int j) = some (.bl (decide (i ≤ j))) := by first | rfl | (simp [leD, cmpI])
@[simp] theorem gtD_i {i j : Int} : gtD (.int i) (.int j) = some (.bl (decide (j < i))) := by first | rfl | (simp [gtD, cmpI])
@[simp] theorem geD_i {i j : Int} : geD (.int i) (.int j) = some (.bl (decide (j ≤ i))) := by first | rfl | (simp [geD, cmpI])
@[simp] theorem inM_t {d : D} {xs : List D} : inM d (.tup xs) = (inB d xs).map .bl := by cases d <;> rfl
@[simp] theorem inB_ap {d : D} {xs : List D} : inB d xs = (if (flat d && xs.all flat) = true then some (xs.any fun y => eqF y d) else none) := rfl
@[simp] theorem flat_s {x : Str} : flat (.str x) = true := rfl
@[simp] theorem flat_i {x : Int} : flat (.int x) = true := rfl
@[simp] theorem flat_b {x : Bool} : flat (.bl x) = true := rfl
@[simp] theorem flat_n : flat .non = true := rfl
@[simp] theorem eqF_s {x y : Str} : eqF (.str x) (.str y) = (x == y) := rfl
@[simp] theorem eqF_i {x y : Int} : eqF (.int x) (.int y) = (x == y) := rfl
@[simp] theorem sz1 (n : Nat) : (n ≤ sizeLine) = (n ≤ 16777216) := by rw [PySem.sizeLine_eq]
@[simp] theorem szl1 (n : Nat) : (n < sizeLine) = (n < 16777216) := by rw [PySem.sizeLine_eq]
@[simp] theorem atI_0 {α : Type} {a : α} {l : List α} : L2.atI (a :: l) 0 = some a := by
  unfold L2.atI L2.ixN
  rw [if_pos (by omega), if_pos (by simp only [List.length_cons]; omega)]
  rfl
@[simp] theorem atI_1 {α : Type} {a b : α} {l : List α} : L2.atI (a :: b :: l) 1 = some b := by
  unfold L2.atI L2.ixN
  rw [if_pos (by omega), if_pos (by simp only [List.length_cons]; omega)]
  rfl
@[simp] theorem atI_2 {α : Type} {a b c : α} {l : List α} : L2.atI (a :: b :: c :: l) 2 = some c := by
  unfold L2.atI L2.ixN
  rw [if_pos (by omega), if_pos (by simp only [List.length_cons]; omega)]
  rfl
@[simp] theorem atI_3 {α : Type} {a b c d : α} {l : List α} : L2.atI (a :: b :: c :: d :: l) 3 = some d := by
  unfold L2.atI L2.ixN
  rw [if_pos (by omega), if_pos (by simp only [List.length_cons]; omega)]
  rfl
theorem atI_nat {α : Type} {l : List α} {i : Nat} : L2.atI l (i : Nat) = l[i]? := by
  unfold L2.atI L2.ixN
  rw [if_pos (by omega)]
  split
  · simp
  · rename_i h
    rw [List.getElem?_eq_none (by omega)]
    rfl
end MB

/-! Cells given up two levels deep: no step of the program. -/
namespace MB
open PySem PySem.Spec PyProof.Rows L2
def fz1 (S : Store) : D → D × Store
  | .ce n => match S[n]? with
    | some (some (.lst ds)) => (.lst ds, S.set n none)
    | _ => (.ce n, S)
  | d => (d, S)
def fzs (S : Store) : List D → List D × Store
  | [] => ([], S)
  | d :: ds => ((fz1 S d).1 :: (fzs (fz1 S d).2 ds).1, (fzs (fz1 S d).2 ds).2)
def fzL (S : Store) : D → D × Store
  | .lst ds => (.lst (fzs S ds).1, (fzs S ds).2)
  | d => (d, S)
/-- a value and, if it is a list, its items -/
def fz2 (S : Store) (d : D) : D × Store := fzL (fz1 S d).2 (fz1 S d).1
section
variable {K : Kw} {H : Hp}
theorem fz1_ok {O : Ow} {S : Store} {v : V} {d : D} (c : Ce K O S H) (h : DV K (wo O H) v d) : ∃ O', Ce K O' (fz1 S d).2 H ∧ Stp O H O' H ∧ DV K (wo O' H) v (fz1 S d).1 := by
  cases d <;> (try exact ⟨O, c, Stp.refl _ _, h⟩)
  rename_i n
  have e0 : fz1 S (.ce n) = match S[n]? with
    | some (some (.lst ds)) => (.lst ds, S.set n none)
    | _ => (.ce n, S) := rfl
  rw [e0]
  split
  · rename_i ds e
    obtain ⟨a, o, rfl, hth, h1, vs, rfl, t⟩ := c.get h e
    obtain ⟨O', _, c', s', hw⟩ := c.fz e hth
    exact ⟨O', c', s', .lst (hw.trans h1) (DVs.mono s'.fs _ _ t)⟩
  · exact ⟨O, c, Stp.refl _ _, h⟩
theorem fzs_ok : ∀ {ds : List D} {O : Ow} {S : Store} {vs : List V}, Ce K O S H → DVs K (wo O H) vs ds → ∃ O', Ce K O' (fzs S ds).2 H ∧ Stp O H O' H ∧ DVs K (wo O' H) vs (fzs S ds).1
  | [], O, S, _, c, h => by
    cases h
    exact ⟨O, c, Stp.refl _ _, .nil⟩
  | d :: ds, O, S, _, c, h => by
    cases h with
    | cons a b =>
      obtain ⟨O1, c1, s1, d1⟩ := fz1_ok c a
      obtain ⟨O2, c2, s2, d2⟩ := fzs_ok c1 (DVs.mono s1.fs _ _ b)
      exact ⟨O2, c2, s1.trans s2, .cons (DV.mono s2.fs _ _ d1) d2⟩
theorem fz2_ok {O : Ow} {S : Store} {v : V} {d : D} (c : Ce K O S H) (h : DV K (wo O H) v d) : ∃ O', Ce K O' (fz2 S d).2 H ∧ Stp O H O' H ∧ DV K (wo O' H) v (fz2 S d).1 := by
  obtain ⟨O1, c1, s1, d1⟩ := fz1_ok c h
  unfold fz2
  generalize (fz1 S d).2 = S1 at c1 ⊢
  generalize (fz1 S d).1 = d' at d1 ⊢
  cases d' <;> (try exact ⟨O1, c1, s1, d1⟩)
  rename_i ds
  cases d1 with
  | lst e t =>
    obtain ⟨O2, c2, s2, d2⟩ := fzs_ok c1 t
    exact ⟨O2, c2, s1.trans s2, .lst (s2.fs.h _ _ e) d2⟩
end
def fzR (ρ : En) (i : Nat) : Option (Option Sl) → En
  | some (some (.val d)) => ⟨ρ.sl.set i (some (.val (fz2 ρ.st d).1)), (fz2 ρ.st d).2⟩
  | _ => ρ
/-- the value in slot i, its items too, are given up -/
def sFrD (i : Nat) : SX := fun ρ => .nx (fzR ρ i ρ[i]?)
theorem t_frD {K : Kw} {hx : Hx} {W : WX} {i : Nat} {g : SX} {D : Ends} {σ : MB.St} {H : Hp} (h : tS K hx W (sSeq (sFrD i) g) D σ H) : tS K hx W g D σ H := by
  obtain ⟨F, ρ, ⟨O, r⟩, hp⟩ := h
  have hp1 : PoS K hx F W (g (fzR ρ i ρ[i]?)) D := hp
  cases e : ρ[i]? with
  | none => rw [e] at hp1; exact ⟨F, ρ, ⟨O, r⟩, hp1⟩
  | some o =>
    cases o with
    | none => rw [e] at hp1; exact ⟨F, ρ, ⟨O, r⟩, hp1⟩
    | some sl =>
      cases sl with
      | exc y => rw [e] at hp1; exact ⟨F, ρ, ⟨O, r⟩, hp1⟩
      | val d =>
        rw [e] at hp1
        obtain ⟨v, ev, dv⟩ := r.sl i _ e
        obtain ⟨O', c', s', d'⟩ := fz2_ok r.ce (show DV K (wo O H) v d from dv)
        have r1 := r.st s' c'
        refine ⟨F, ⟨ρ.sl.set i (some (.val (fz2 ρ.st d).1)), (fz2 ρ.st d).2⟩, ⟨O', r1.fr, r1.ce, ?_, fun j x ej => ?_⟩, hp1⟩
        · show (ρ.sl.set i _).length = _
          simp [r.len]
        · rcases getset (show (ρ.sl.set i (some (.val (fz2 ρ.st d).1)))[j]? = some (some x) from ej) with ⟨g1, g2, _⟩ | ⟨_, g⟩
          · subst g1
            cases g2
            exact ⟨v, ev, d'⟩
          · exact r1.sl j x g
theorem p_frD {X : Cx} {hx : Hx} {W : WX} {st : Stmt} {g : SX} (i : Nat) (h : PS X st (tS X.kw hx W g)) : PS X st (tS X.kw hx W (sSeq (sFrD i) g)) := h.imp fun _ _ _ q => t_frD q
@[simp] theorem sFrD_ap {ρ : En} {i : Nat} : sFrD i ρ = .nx (fzR ρ i ρ[i]?) := rfl
@[simp] theorem fzR_v {ρ : En} {i : Nat} {d : D} : fzR ρ i (some (some (.val d))) = ⟨ρ.sl.set i (some (.val (fz2 ρ.st d).1)), (fz2 ρ.st d).2⟩ := rfl
@[simp] theorem fzs_nil {S : Store} : fzs S [] = ([], S) := rfl
theorem fzs_cons {S : Store} {d : D} {ds : List D} : fzs S (d :: ds) = ((fz1 S d).1 :: (fzs (fz1 S d).2 ds).1, (fzs (fz1 S d).2 ds).2) := rfl
theorem fz1_c {S : Store} {n : Nat} {ds : List D} (h : S[n]? = some (some (.lst ds))) : fz1 S (.ce n) = (.lst ds, S.set n none) := by
  show (match S[n]? with
    | some (some (.lst ds)) => (D.lst ds, S.set n none)
    | _ => (.ce n, S)) = _
  rw [h]
@[simp] theorem fz1_l {S : Store} {ds : List D} : fz1 S (.lst ds) = (.lst ds, S) := rfl
@[simp] theorem fz1_i {S : Store} {i : Int} : fz1 S (.int i) = (.int i, S) := rfl
@[simp] theorem fz1_t {S : Store} {ds : List D} : fz1 S (.tup ds) = (.tup ds, S) := rfl
theorem fz2_l {S : Store} {ds : List D} : fz2 S (.lst ds) = (.lst (fzs S ds).1, (fzs S ds).2) := rfl
end MB

/-! Plain data: what == and in answer. -/
namespace MB
open PySem PySem.Spec PyProof.Rows L2
inductive Dat : Nat → D → Prop
  | non {n : Nat} : Dat n .non
  | bl {n : Nat} (b : Bool) : Dat n (.bl b)
  | int {n : Nat} (i : Int) : Dat n (.int i)
  | str {n : Nat} {x : Str} (h : PyData.strOk x = true) : Dat n (.str x)
  | tup {n : Nat} {ds : List D} (h : ∀ d ∈ ds, Dat n d) (hl : ds.length ≤ 1000000 := by first | decide | simp) : Dat (n + 1) (.tup ds)
  | lst {n : Nat} {ds : List D} (h : ∀ d ∈ ds, Dat n d) (hl : ds.length ≤ 1000000 := by first | decide | simp) : Dat (n + 1) (.lst ds)
theorem Dat.mono {n m : Nat} {d : D} (h : Dat n d) : n ≤ m → Dat m d := by
  induction h generalizing m with
  | non => exact fun _ => .non
  | bl b => exact fun _ => .bl b
  | int i => exact fun _ => .int i
  | str h => exact fun _ => .str h
  | tup h hl ih =>
    intro le
    cases m with
    | zero => omega
    | succ m => exact .tup (fun d hd => ih d hd (by omega)) hl
  | lst h hl ih =>
    intro le
    cases m with
    | zero => omega
    | succ m => exact .lst (fun d hd => ih d hd (by omega)) hl
theorem pys_of {n : Nat} : ∀ {ds : List D}, (∀ d ∈ ds, ∃ p, toPy d = some p ∧ PyData.canLay0 p = true ∧ PyData.depth p ≤ n) → ∃ ps, toPys ds = some ps ∧ PyData.canLayAll0 ps = true ∧ PyData.depthAll ps ≤ n
  | [], _ => ⟨[], by rw [toPys], by rw [PyData.canLayAll0], by rw [PyData.depthAll]; omega⟩
  | d :: ds, h => by
    obtain ⟨p, e1, e2, e3⟩ := h d List.mem_cons_self
    obtain ⟨ps, f1, f2, f3⟩ := pys_of fun d' m => h d' (List.mem_cons_of_mem _ m)
    refine ⟨p :: ps, by rw [toPys, e1, f1]; rfl, by rw [PyData.canLayAll0, e2, f2]; rfl, by rw [PyData.depthAll]; omega⟩
theorem dat_py {n : Nat} {d : D} (h : Dat n d) : ∃ p, toPy d = some p ∧ PyData.canLay0 p = true ∧ PyData.depth p ≤ n := by
  induction h with
  | non => exact ⟨.none, by rw [toPy], by rw [PyData.canLay0], by rw [PyData.depth]; omega⟩
  | bl b => exact ⟨.bool b, by rw [toPy], by rw [PyData.canLay0], by rw [PyData.depth]; omega⟩
  | int i => exact ⟨.int i, by rw [toPy], by rw [PyData.canLay0], by rw [PyData.depth]; omega⟩
  | str h => exact ⟨.str _, by rw [toPy], by rw [PyData.canLay0]; exact h, by rw [PyData.depth]; omega⟩
  | tup h hl ih =>
    obtain ⟨ps, f1, f2, f3⟩ := pys_of ih
    exact ⟨.tuple ps, by rw [toPy, f1]; rfl, by rw [PyData.canLay0]; exact f2, by rw [PyData.depth]; omega⟩
  | lst h hl ih =>
    obtain ⟨ps, f1, f2, f3⟩ := pys_of ih
    exact ⟨.list ps, by rw [toPy, f1]; rfl, by rw [PyData.canLay0]; exact f2, by rw [PyData.depth]; omega⟩
theorem shaped_of {p : PyData} {n : Nat} (h1 : PyData.canLay0 p = true) (h2 : PyData.depth p ≤ n) (h : n ≤ 64) : SeqAt.shaped p = true := by
  unfold SeqAt.shaped
  rw [h1, Bool.true_and]
  exact decide_eq_true (by omega)
theorem inDeep_ok {n : Nat} {d : D} {xs : List D} (h1 : Dat n d) (h2 : ∀ x ∈ xs, Dat n x) (h : n ≤ 63) : ∃ b, inDeep d xs = some b := by
  obtain ⟨p, e1, e2, e3⟩ := dat_py h1
  obtain ⟨ps, f1, f2, f3⟩ := pys_of fun x hx => dat_py (h2 x hx)
  have s1 : SeqAt.shaped p = true := shaped_of e2 e3 (by omega)
  have s2 : SeqAt.shaped (.list ps) = true := shaped_of (n := n + 1) (by rw [PyData.canLay0]; exact f2) (by rw [PyData.depth]; omega) (by omega)
  refine ⟨ps.any fun z => PyData.eqv z p, ?_⟩
  unfold inDeep
  rw [e1, f1]
  simp only [s1, s2, Bool.and_self, if_true]
theorem inM_ok {n : Nat} {d : D} {xs : List D} (h1 : Dat n d) (h2 : ∀ x ∈ xs, Dat n x) (h : n ≤ 63) : ∃ b, inM d (.lst xs) = some (.bl b) := by
  obtain ⟨b, e⟩ := inDeep_ok h1 h2 h
  have : inM d (.lst xs) = (match inB d xs with
    | some b => some (.bl b)
    | none => (inDeep d xs).map .bl) := by cases d <;> rfl
  rw [this]
  cases inB d xs with
  | some b' => exact ⟨b', rfl⟩
  | none => rw [e]; exact ⟨b, rfl⟩
theorem eqB_ok {n : Nat} {d e : D} (h1 : Dat n d) (h2 : Dat n e) (h : n ≤ 64) : ∃ b, eqB d e = some b := by
  unfold eqB
  split
  · exact ⟨_, rfl⟩
  · obtain ⟨p, e1, e2, e3⟩ := dat_py h1
    obtain ⟨q, f1, f2, f3⟩ := dat_py h2
    simp only [e1, f1, shaped_of e2 e3 h, shaped_of f2 f3 h, Bool.and_self, if_true]
    exact ⟨_, rfl⟩
theorem eqB_nil {n : Nat} {xs : List D} (h1 : ∀ x ∈ xs, Dat n x) (h : n ≤ 63) : eqB (.lst xs) (.lst []) = some xs.isEmpty := by
  obtain ⟨ps, f1, f2, f3⟩ := pys_of fun x hx => dat_py (h1 x hx)
  have s2 : SeqAt.shaped (.list ps) = true := shaped_of (n := n + 1) (by rw [PyData.canLay0]; exact f2) (by rw [PyData.depth]; omega) (by omega)
  have e1 : toPy (.lst xs) = some (.list ps) := by rw [toPy, f1]; rfl
  have e2 : toPy (.lst []) = some (.list []) := by rw [toPy, toPys]; rfl
  unfold eqB
  rw [if_neg (by show ¬ scalD (.lst xs) (.lst []) = true; simp [scalD]), e1, e2]
  simp only [s2, Bool.true_and]
  have s3 : SeqAt.shaped (.list []) = true := by decide +kernel
  rw [s3, if_pos rfl]
  cases xs with
  | nil =>
    rw [toPys] at f1
    cases f1
    rfl
  | cons x xs =>
    rw [toPys] at f1
    obtain ⟨p, _, f1⟩ := Option.bind_eq_some_iff.mp f1
    obtain ⟨qs, _, f1⟩ := Option.map_eq_some_iff.mp f1
    subst f1
    rfl
theorem neD_nil {n : Nat} {xs : List D} (h1 : ∀ x ∈ xs, Dat n x) (h : n ≤ 63) : neD (.lst xs) (.lst []) = some (.bl (!xs.isEmpty)) := by
  unfold neD
  rw [eqB_nil h1 h]
  rfl
theorem map_id_of {f : D → D} : ∀ {ds : List D}, (∀ d ∈ ds, f d = d) → ds.map f = ds
  | [], _ => rfl
  | d :: ds, h => by rw [List.map_cons, h d List.mem_cons_self, map_id_of fun d' m => h d' (List.mem_cons_of_mem _ m)]
theorem seeD_dat {S : Store} {n : Nat} {d : D} (h : Dat n d) : ∀ m, seeD S m d = d := by
  induction h with
  | non => exact fun m => seeD_n
  | bl b => exact fun m => seeD_b
  | int i => exact fun m => seeD_i
  | str h => exact fun m => seeD_s
  | tup h hl ih =>
    intro m
    cases m with
    | zero => rfl
    | succ m => rw [seeD_t, map_id_of fun d hd => ih d hd m]
  | lst h hl ih =>
    intro m
    cases m with
    | zero => rfl
    | succ m => rw [seeD_l, map_id_of fun d hd => ih d hd m]
theorem clD_dat {n : Nat} {d : D} (h : Dat n d) : ∀ m, clD m d := by
  induction h with
  | non => exact fun m => clD_non
  | bl b => exact fun m => clD_bl
  | int i => exact fun m => clD_int
  | str h => exact fun m => clD_str
  | tup h hl ih => exact fun m => clD_tup.mpr (clDs_all.mpr fun d hd => ih d hd m)
  | lst h hl ih => exact fun m => clD_lst.mpr (clDs_all.mpr fun d hd => ih d hd m)
/-- equal data: == says so -/
theorem eqB_refl {n : Nat} {d : D} (h1 : Dat n d) (h : n ≤ 64) : eqB d d = some true := by
  unfold eqB
  split
  · rename_i hs
    cases h1 <;> first | (simp [eqF]; done) | (exact absurd hs (by simp [scalD]))
  · obtain ⟨p, e1, e2, e3⟩ := dat_py h1
    simp only [e1, shaped_of e2 e3 h, Bool.and_self, if_true]
    exact congrArg some (SeqAt.eqv_refl _ e2)
end MB

/-! len(set(xs)), a list of ints. -/
namespace MB
open PySem PySem.Spec PyProof.Rows L2
/-- the ints met first -/
def metI (ns : List Int) : List Int := PyProof.Rows.firstMet (fun i => ns.getD i 0) ns.length
theorem met_mem (f : Nat → Int) : ∀ (n : Nat) (z : Int), z ∈ PyProof.Rows.firstMet f n ↔ ∃ i, i < n ∧ f i = z
  | 0, z => ⟨fun h => absurd (show z ∈ ([] : List Int) from h) List.not_mem_nil, fun ⟨i, h, _⟩ => absurd h (Nat.not_lt_zero i)⟩
  | n + 1, z => by
    have ih := met_mem f n
    rw [PyProof.Rows.firstMet_succ]
    show z ∈ (if (PyProof.Rows.firstMet f n).any (· == f n) then PyProof.Rows.firstMet f n else PyProof.Rows.firstMet f n ++ [f n]) ↔ _
    split
    · rename_i h
      obtain ⟨y, hy, e⟩ := List.any_eq_true.mp h
      have e2 : y = f n := eq_of_beq e
      rw [ih]
      constructor
      · rintro ⟨i, hi, q⟩
        exact ⟨i, by omega, q⟩
      · rintro ⟨i, hi, q⟩
        by_cases hin : i < n
        · exact ⟨i, hin, q⟩
        · have : i = n := by omega
          subst this
          rw [← q, ← e2]
          exact (ih y).mp hy
    · rw [List.mem_append, ih]
      constructor
      · rintro (⟨i, hi, q⟩ | h)
        · exact ⟨i, by omega, q⟩
        · exact ⟨n, by omega, by simpa using (List.mem_singleton.mp h).symm⟩
      · rintro ⟨i, hi, q⟩
        by_cases hin : i < n
        · exact .inl ⟨i, hin, q⟩
        · have : i = n := by omega
          subst this
          exact .inr (by rw [q]; simp)
def tLenSet (K : Fg) (ta : TE) : TE := fun σ H Q => ta σ H fun x H1 => ∃ (l : Addr) (ns : List Int), x = .ref l ∧ SqL K H1 l (ns.map V.int) ∧ ns.length ≤ 4000 ∧ Q (.int ((metI ns).length : Nat)) H1
theorem met_le (ns : List Int) : ∀ n, (PyProof.Rows.firstMet (fun i => ns.getD i 0) n).length ≤ n
  | 0 => Nat.le_refl _
  | n + 1 => by
    have ih := met_le ns n
    rw [PyProof.Rows.firstMet_succ]
    show (if (PyProof.Rows.firstMet (fun i => ns.getD i 0) n).any (· == ns.getD n 0) then PyProof.Rows.firstMet (fun i => ns.getD i 0) n else PyProof.Rows.firstMet (fun i => ns.getD i 0) n ++ [ns.getD n 0]).length ≤ _
    split
    · omega
    · rw [List.length_append]
      show _ + 1 ≤ _
      omega
theorem pe_lenSet {X : Cx} {a : Expr} {ta : TE} {p p2 q pos : Pos} (hg : Gl X "len") (hm : X.mg "len" = none) (hg2 : Gl X "set") (hm2 : X.mg "set" = none) (ha : PE X a ta) (hc : X.calm = true)
    (na : starEach [a] X.env = (false, eval a X.env) :: starEach [] X.env) : PE X (.Call (.Name "len" p) [.Call (.Name "set" p2) [a] [] q] [] pos) (tLenSet X.K ta) := by
  constructor
  intro pins s σ H Q I h
  refine Call_ (ld_blt I hg hm boot_len (PyProof.Rows.callWith_builtin1 (PyProof.Rows.args_cons ?_ rfl) rfl rfl))
  refine Call_ (ld_blt I hg2 hm2 boot_set (PyProof.Rows.callWith_type1 (PyProof.Rows.args_cons (thn (ha.run pins s σ H _ I h) fun v s1 hh => PyProof.Rows.args_nil ?_) na) na rfl))
  obtain ⟨x, H1, I1, r1, l, ns, rfl, hq, hl, q1⟩ := hh
  cases r1
  obtain ⟨its, r, pl, hz⟩ := I1.list hq
  have sz : its.toArray.size = ns.length := by rw [List.size_toArray, ← r.length, List.length_map]
  refine call_set_list (I1.ok.hd hc) pl.isList (by simpa using RZ.intsAre_vals r) (by rw [sz]; unfold scanBound; omega) fun h' tk hS hk => PyProof.Rows.args_nil ?_
  rw [sz] at hS
  obtain ⟨o, es, ep, t, ho, hex, hd, _, _, _, hf, hn⟩ := hS
  have I2 : Inv X pins σ H1 { s1 with heap := h', toks := tk } := I1.kept fun b o e => hk b o (Heap.lt_size e) e
  have lm := met_le ns ns.length
  exact call_len_set ho hex hd hf (by rw [hn] <;> omega) ⟨.int ((metI ns).length : Nat), H1, I2.tok _, ⟨_, by rw [hn]; rfl⟩, q1⟩
def eLenSet (fa : EX) : EX := fun ρ => (fa ρ).bind fun d ρ1 => match see1 ρ1.st d with
  | .lst ds => match asInts ds with
    | some ns => if ns.length ≤ 4000 then .ok (.int ((metI ns).length : Nat)) ρ1 else .stuck
    | none => .stuck
  | _ => .stuck
theorem r_lenSet {X : Cx} {hx : Hx} {W : WX} {a : Expr} {fa : EX} {p p2 q pos : Pos} (hc : X.calm = true) (hm : X.mg "len" = none) (hm2 : X.mg "set" = none) (ha : PE X a (tX X.kw hx W fa)) (hg : Gl X "len" := by rfl) (hg2 : Gl X "set" := by rfl)
    (na : starEach [a] X.env = (false, eval a X.env) :: starEach [] X.env := by rfl) : PE X (.Call (.Name "len" p) [.Call (.Name "set" p2) [a] [] q] [] pos) (tX X.kw hx W (eLenSet fa)) :=
  (pe_lenSet hg hm hg2 hm2 ha hc na).imp fun σ H Q h => by
    obtain ⟨F, ρ, ⟨O, r0⟩, hp⟩ := h
    refine bindX r0 hp fun d ρ1 v H1 O1 r1 s1 dv hp1 => ?_
    have lv := see1_lv r1.ce dv
    generalize see1 ρ1.st d = d2 at lv hp1
    cases d2 <;> (try exact hp1.elim)
    rename_i ds
    obtain ⟨l, vs, rfl, g, t⟩ := lv.lst_of
    have hp2 : Po X.kw hx F W σ (match asInts ds with
      | some ns => if ns.length ≤ 4000 then Rs.ok (.int ((metI ns).length : Nat)) ρ1 else .stuck
      | none => .stuck) Q := hp1
    cases e : asInts ds with
    | none => rw [e] at hp2; exact hp2.elim
    | some ns =>
      rw [e] at hp2
      have hp3 : Po X.kw hx F W σ (if ns.length ≤ 4000 then Rs.ok (.int ((metI ns).length : Nat)) ρ1 else .stuck) Q := hp2
      split at hp3
      · rename_i hl
        have ed := asInts_ok e
        subst ed
        have ev := t.ints
        subst ev
        exact ⟨l, ns, rfl, .of g, hl, hp3 _ H1 ⟨O1, r1, .int _⟩⟩
      · exact hp3.elim
end MB

/-! for over a list, a tuple or a cell that holds a list. -/
namespace MB
open PySem PySem.Spec PyProof.Rows L2
def loopC (b : BX) (g : SX) (d : D) : Nat → Nat → SX
  | 0, _, _ => .stuck
  | k + 1, i, ρ => match lstAt ρ.st d with
    | none => .stuck
    | some (_, ds) => match ds[i]? with
      | none => .nx ρ
      | some x => match b x ρ with
        | none => .stuck
        | some ρ1 => match g ρ1 with
          | .nx ρ2 => loopC b g d k (i + 1) ρ2
          | .ct ρ2 => loopC b g d k (i + 1) ρ2
          | .bk ρ2 => .nx ρ2
          | r => r
def sForS (f : EX) (b : BX) (g : SX) : SX := fun ρ => (f ρ).then fun d ρ1 => match lstAt ρ1.st d with
  | some _ => loopC b g d 1000001 0 ρ1
  | none => match seqI d with
    | some ds => loopS b g ds ρ1
    | none => .stuck
theorem forC_core {is : List Nat} {K : Kw} {hx : Hx} {W : WX} {F : Fm} {b : BX} {g : SX} {D : Ends} {ρ : En} {σ : MB.St} {H : Hp} {O : Ow} {a : Addr} {d : MB.D} {N : Nat} (r : RO K hx F ρ σ H O) (dv : DV K (wo O H) (.ref a) d) (hp : PoS K hx F W (loopC b g d N 0 ρ) D) :
    ∃ Wi : Nat → Nat → MB.St → Hp → Prop, (∃ m, Wi 0 m σ H) ∧ ∀ i m σ H, Wi i m σ H →
      ((Itl K.K a).stop i H ∧ D.nx σ H) ∨ ((Itl K.K a).go i H ∧ ∃ N : MB.St → Hp → Prop, (∀ σ' H', N σ' H' → ∃ m', m' < m ∧ Wi (i + 1) m' σ' H') ∧ ∀ x H', (Itl K.K a).yld i H x H' → tG K hx is b x σ H' fun σ2 H2 => tS K hx W g { D with nx := N, ct := N, bk := D.nx } σ2 H2) := by
  let F1 : Fm := ⟨O, H⟩
  have hp1 : PoS K hx F1 W (loopC b g d N 0 ρ) D := PoS.fr r.fr hp
  refine ⟨fun i m σ H => ∃ ρ O, RO K hx F1 ρ σ H O ∧ PoS K hx F1 W (loopC b g d m i ρ) D, ⟨N, ρ, O, r.re, hp1⟩, ?_⟩
  rintro i m σ2 H2 ⟨ρ2, O2, r2, hp2⟩
  have dv2 : DV K (wo O2 H2) (.ref a) d := DV.mono r2.fr.fs _ _ dv
  cases m with
  | zero => exact hp2.elim
  | succ k =>
    unfold loopC at hp2
    cases e : lstAt ρ2.st d with
    | none => rw [e] at hp2; exact hp2.elim
    | some p =>
      obtain ⟨n, ds⟩ := p
      rw [e] at hp2
      obtain ⟨_, a', vs, ea, _, h1, t⟩ := r2.ce.lstAt dv2 e
      cases ea
      have hp3 : PoS K hx F1 W (match ds[i]? with
        | none => .nx ρ2
        | some x => match b x ρ2 with
          | none => .stuck
          | some ρ1 => match g ρ1 with
            | .nx ρ2 => loopC b g d k (i + 1) ρ2
            | .ct ρ2 => loopC b g d k (i + 1) ρ2
            | .bk ρ2 => .nx ρ2
            | r => r) D := hp2
      cases e2 : ds[i]? with
      | none =>
        rw [e2] at hp3
        refine .inl ⟨⟨vs, .of h1, ?_⟩, hp3 σ2 H2 ⟨O2, r2⟩⟩
        rw [t.length]
        exact List.getElem?_eq_none_iff.mp e2
      | some x =>
        rw [e2] at hp3
        obtain ⟨v, hv, dx⟩ := t.get e2
        refine .inr ⟨⟨vs, v, .of h1, hv⟩, fun σ' H' => ∃ ρ' O', RO K hx F1 ρ' σ' H' O' ∧ PoS K hx F1 W (loopC b g d k (i + 1) ρ') D, fun σ' H' ⟨ρ', O', r', p'⟩ => ⟨k, Nat.lt_succ_self k, ρ', O', r', p'⟩, fun u H3 y => ?_⟩
        obtain ⟨eH, y⟩ := y
        subst eH
        have eu : u = v := Option.some.inj ((y vs (.of h1)).symm.trans hv)
        subst eu
        have hp4 : PoS K hx F1 W (match b x ρ2 with
          | none => .stuck
          | some ρ1 => match g ρ1 with
            | .nx ρ2 => loopC b g d k (i + 1) ρ2
            | .ct ρ2 => loopC b g d k (i + 1) ρ2
            | .bk ρ2 => .nx ρ2
            | r => r) D := hp3
        cases e3 : b x ρ2 with
        | none => rw [e3] at hp4; exact hp4.elim
        | some ρ3 =>
          rw [e3] at hp4
          refine ⟨F1, ρ2, x, O2, ρ3, r2, dx, e3, fun σ4 _ r4 => ⟨F1, ρ3, ⟨O2, r4⟩, ?_⟩⟩
          have hp5 : PoS K hx F1 W (match g ρ3 with
            | .nx ρ2 => loopC b g d k (i + 1) ρ2
            | .ct ρ2 => loopC b g d k (i + 1) ρ2
            | .bk ρ2 => .nx ρ2
            | r => r) D := hp4
          cases e4 : g ρ3 with
          | nx ρ5 =>
            rw [e4] at hp5
            exact fun σ5 H5 ⟨O5, r5⟩ => ⟨ρ5, O5, r5, hp5⟩
          | ct ρ5 =>
            rw [e4] at hp5
            exact fun σ5 H5 ⟨O5, r5⟩ => ⟨ρ5, O5, r5, hp5⟩
          | bk ρ5 => rw [e4] at hp5; exact hp5
          | rt d ρ5 => rw [e4] at hp5; exact hp5
          | err x ρ5 => rw [e4] at hp5; exact hp5
          | stuck => rw [e4] at hp5; exact hp5
theorem p_forS {X : Cx} {hx : Hx} {W : WX} {tg l : Expr} {body : List Stmt} {b : BX} {g : SX} {f : EX} {pos : Pos} {is : List Nat} (hp : PassesOwn (model X.prog X.w) X.A X.env X.xe) (hc : X.calm = true) (hl : PE X l (tX X.kw hx W f)) (hg : PG X tg (tG X.kw hx is b)) (hb : PSs X body (tS X.kw hx W g)) (hs : ∀ x, foldedSetIterable l X.env x = pure x := by intro _; rfl) :
    PS X (.For tg l body [] pos) (tS X.kw hx W (sForS f b g)) := (ps_for hp hc (pi_seq hl) hg hb hs).imp fun D σ H q => by
  obtain ⟨F, ρ, ⟨O, r⟩, hq⟩ := q
  refine bindS r hq fun d ρ1 v H1 O1 r1 dv hp1 => ?_
  cases e : lstAt ρ1.st d with
  | some p =>
    obtain ⟨n, ds⟩ := p
    rw [e] at hp1
    obtain ⟨_, a, vs, rfl, _, h1, t⟩ := r1.ce.lstAt dv e
    exact ⟨a, rfl, .inl ⟨⟨vs, .of h1⟩, forC_core r1 dv hp1⟩⟩
  | none =>
    rw [e] at hp1
    have hp2 : PoS X.kw hx F W (match seqI d with
      | some ds => loopS b g ds ρ1
      | none => .stuck) D := hp1
    cases d <;> (try exact hp2.elim)
    · obtain ⟨a, vs, rfl, s, t⟩ := dv.tup_of
      exact ⟨a, rfl, .inr ⟨⟨vs, sqT_mono (wo_same O1 H1) s⟩, for_core r1 (its_tup s t) hp2⟩⟩
    · obtain ⟨a, vs, rfl, s, t⟩ := dv.lst_of
      exact ⟨a, rfl, .inl ⟨⟨vs, .of (wo_same O1 H1 _ _ s)⟩, for_core r1 (its_lst s t) hp2⟩⟩
end MB

/-! One step, one lemma: expressions and statements over any slots, each part by its own equation. -/
namespace MB
open PySem PySem.Spec PyProof.Rows L2
section
variable {sl sl1 sl2 : List (Option Sl)} {S S1 S2 S3 S4 : Store} {d e z a b c : D} {f g h : EX} {i j n : Nat} {m : Fn} {ds es : List D}
theorem v_ (h : sl[i]? = some (some (.val d))) : eVar i ⟨sl, S⟩ = .ok d ⟨sl, S⟩ := by simp [h]
theorem c_ : eC d ⟨sl, S⟩ = .ok d ⟨sl, S⟩ := rfl
theorem b_ {op : D → D → Option D} (h1 : f ⟨sl, S⟩ = .ok d ⟨sl1, S1⟩) (h2 : g ⟨sl1, S1⟩ = .ok e ⟨sl2, S2⟩) (q : op d e = some z) : eB op f g ⟨sl, S⟩ = .ok z ⟨sl2, S2⟩ := by
  rw [eB_ap, h1, kB1_ok, h2, kB2_ok, q, kO_some]
theorem bf_ {op : D → D → Option Oc} (h1 : f ⟨sl, S⟩ = .ok d ⟨sl1, S1⟩) (h2 : g ⟨sl1, S1⟩ = .ok e ⟨sl2, S2⟩) {mm : Bool} (q : op (see1 S2 d) (see1 S2 e) = some (.val z)) : eBF mm op f g ⟨sl, S⟩ = .ok z ⟨sl2, S2⟩ := by
  rw [eBF_ap, h1, kBF1_ok, h2, kBF2_ok, q, kF_v]
theorem bf_l {op : D → D → Option Oc} (h1 : f ⟨sl, S⟩ = .ok d ⟨sl1, S1⟩) (h2 : g ⟨sl1, S1⟩ = .ok e ⟨sl2, S2⟩) (q : op (see1 S2 d) (see1 S2 e) = some (.new ds)) : eBF false op f g ⟨sl, S⟩ = .ok (.lst ds) ⟨sl2, S2⟩ := by
  rw [eBF_ap, h1, kBF1_ok, h2, kBF2_ok, q, kF_f]
theorem bf_c {op : D → D → Option Oc} (h1 : f ⟨sl, S⟩ = .ok d ⟨sl1, S1⟩) (h2 : g ⟨sl1, S1⟩ = .ok e ⟨sl2, S2⟩) (q : op (see1 S2 d) (see1 S2 e) = some (.new ds)) : eBF true op f g ⟨sl, S⟩ = .ok (.ce S2.length) ⟨sl2, S2 ++ [some (.lst ds)]⟩ := by
  rw [eBF_ap, h1, kBF1_ok, h2, kBF2_ok, q, kF_t]
theorem fn1_ (h1 : f ⟨sl, S⟩ = .ok a ⟨sl1, S1⟩) (q : m [a] S1 = .ok z S2) : eFn m [f] ⟨sl, S⟩ = .ok z ⟨sl1, S2⟩ := by
  simp [h1, q]
theorem fn2_ (h1 : f ⟨sl, S⟩ = .ok a ⟨sl1, S1⟩) (h2 : g ⟨sl1, S1⟩ = .ok b ⟨sl2, S2⟩) (q : m [a, b] S2 = .ok z S3) : eFn m [f, g] ⟨sl, S⟩ = .ok z ⟨sl2, S3⟩ := by
  simp [h1, h2, q]
theorem fn3_ {sl3 : List (Option Sl)} (h1 : f ⟨sl, S⟩ = .ok a ⟨sl1, S1⟩) (h2 : g ⟨sl1, S1⟩ = .ok b ⟨sl2, S2⟩) (h3 : h ⟨sl2, S2⟩ = .ok c ⟨sl3, S3⟩) (q : m [a, b, c] S3 = .ok z S4) : eFn m [f, g, h] ⟨sl, S⟩ = .ok z ⟨sl3, S4⟩ := by
  simp [h1, h2, h3, q]
theorem ca1_ {F : List D → Option D} (h1 : f ⟨sl, S⟩ = .ok a ⟨sl1, S1⟩) (q : F [a] = some z) : eCall F [f] ⟨sl, S⟩ = .ok z ⟨sl1, S1⟩ := by
  simp [h1, q]
theorem ca2_ {F : List D → Option D} (h1 : f ⟨sl, S⟩ = .ok a ⟨sl1, S1⟩) (h2 : g ⟨sl1, S1⟩ = .ok b ⟨sl2, S2⟩) (q : F [a, b] = some z) : eCall F [f, g] ⟨sl, S⟩ = .ok z ⟨sl2, S2⟩ := by
  simp [h1, h2, q]
theorem cf_ {F : D → Option Oc} {mm : Bool} (h1 : f ⟨sl, S⟩ = .ok a ⟨sl1, S1⟩) (q : F (see1 S1 a) = some (.val z)) : eCallF mm F f ⟨sl, S⟩ = .ok z ⟨sl1, S1⟩ := by
  rw [eCallF_ap, evl_cons, h1, kA_ok, evl_nil, List.nil_append, kCF_ok, q, kF_v]
theorem cf_l {F : D → Option Oc} (h1 : f ⟨sl, S⟩ = .ok a ⟨sl1, S1⟩) (q : F (see1 S1 a) = some (.new ds)) : eCallF false F f ⟨sl, S⟩ = .ok (.lst ds) ⟨sl1, S1⟩ := by
  rw [eCallF_ap, evl_cons, h1, kA_ok, evl_nil, List.nil_append, kCF_ok, q, kF_f]
theorem cf_c {F : D → Option Oc} (h1 : f ⟨sl, S⟩ = .ok a ⟨sl1, S1⟩) (q : F (see1 S1 a) = some (.new ds)) : eCallF true F f ⟨sl, S⟩ = .ok (.ce S1.length) ⟨sl1, S1 ++ [some (.lst ds)]⟩ := by
  rw [eCallF_ap, evl_cons, h1, kA_ok, evl_nil, List.nil_append, kCF_ok, q, kF_t]
theorem ln_ (h1 : f ⟨sl, S⟩ = .ok a ⟨sl1, S1⟩) (q : lenS S1 a = some z) : eLenS f ⟨sl, S⟩ = .ok z ⟨sl1, S1⟩ := by
  rw [eLenS_ap, evl_cons, h1, kA_ok, evl_nil, List.nil_append, kLS_ok, q, kO_some]
theorem ix_ (h1 : f ⟨sl, S⟩ = .ok a ⟨sl1, S1⟩) (h2 : g ⟨sl1, S1⟩ = .ok b ⟨sl2, S2⟩) (q : ixS S2 a b = some z) : eIxS f g ⟨sl, S⟩ = .ok z ⟨sl2, S2⟩ := by
  rw [eIxS_ap, h1, kIx1_ok, h2, kIx2_ok, q, kO_some]
theorem bs_ {op : D → D → Option D} {k : Nat} {t : Bool} (h1 : f ⟨sl, S⟩ = .ok a ⟨sl1, S1⟩) (h2 : g ⟨sl1, S1⟩ = .ok b ⟨sl2, S2⟩) (q : op (seeD S2 k a) (seeD S2 k b) = some (.bl t)) : eBs k op f g ⟨sl, S⟩ = .ok (.bl t) ⟨sl2, S2⟩ := by
  rw [eBs_ap, h1, kBs1_ok, h2, kBs2_ok, q, kSc_b]
theorem lm0_ : eLstM [] ⟨sl, S⟩ = .ok (.ce S.length) ⟨sl, S ++ [some (.lst [])]⟩ := by simp
/-- a list's method -/
theorem mu1_ {F : List D → List D → Option (D × List D)} {k k2 : Nat} {xs ys : List D} (h1 : f ⟨sl, S⟩ = .ok d ⟨sl1, S1⟩) (l1 : lstAt S1 d = some (k, xs)) (h2 : g ⟨sl1, S1⟩ = .ok a ⟨sl2, S2⟩) (l2 : lstAt S2 d = some (k2, ys)) (q : F ys [a] = some (z, ds)) :
    eMut F f [g] ⟨sl, S⟩ = .ok z ⟨sl2, S2.set k2 (some (.lst ds))⟩ := by
  rw [eMut_ap, h1, kMu_ok, show En.st ⟨sl1, S1⟩ = S1 from rfl, l1, kMu0_s, evl_cons, h2, kA_ok, evl_nil, List.nil_append, kMu1_ok, show En.st ⟨sl2, S2⟩ = S2 from rfl, l2, kMu2_s, q, kMu3_s]
theorem mu0_ {F : List D → List D → Option (D × List D)} {k : Nat} {xs : List D} (h1 : f ⟨sl, S⟩ = .ok d ⟨sl1, S1⟩) (l1 : lstAt S1 d = some (k, xs)) (q : F xs [] = some (z, ds)) :
    eMut F f [] ⟨sl, S⟩ = .ok z ⟨sl1, S1.set k (some (.lst ds))⟩ := by
  rw [eMut_ap, h1, kMu_ok, show En.st ⟨sl1, S1⟩ = S1 from rfl, l1, kMu0_s, evl_nil, kMu1_ok, show En.st ⟨sl1, S1⟩ = S1 from rfl, l1, kMu2_s, q, kMu3_s]
theorem la_ {k : Nat} {xs : List D} (h : S[k]? = some (some (.lst xs))) : lstAt S (.ce k) = some (k, xs) := by simp [h]
theorem and_t (h1 : f ⟨sl, S⟩ = .ok a ⟨sl1, S1⟩) (t : truth a = some true) : eAnd f g ⟨sl, S⟩ = g ⟨sl1, S1⟩ := by
  rw [eAnd_ap, h1, kAnd_ok, t, kT_t]
theorem and_f (h1 : f ⟨sl, S⟩ = .ok a ⟨sl1, S1⟩) (t : truth a = some false) : eAnd f g ⟨sl, S⟩ = .ok a ⟨sl1, S1⟩ := by
  rw [eAnd_ap, h1, kAnd_ok, t, kT_f]
  rfl
theorem or_t (h1 : f ⟨sl, S⟩ = .ok a ⟨sl1, S1⟩) (t : truth a = some true) : eOr f g ⟨sl, S⟩ = .ok a ⟨sl1, S1⟩ := by
  rw [eOr_ap, h1, kOr_ok, t, kT_t]
  rfl
theorem or_f (h1 : f ⟨sl, S⟩ = .ok a ⟨sl1, S1⟩) (t : truth a = some false) : eOr f g ⟨sl, S⟩ = g ⟨sl1, S1⟩ := by
  rw [eOr_ap, h1, kOr_ok, t, kT_f]
theorem not_ {t : Bool} (h1 : f ⟨sl, S⟩ = .ok a ⟨sl1, S1⟩) (q : truth a = some t) : eNot f ⟨sl, S⟩ = .ok (.bl (!t)) ⟨sl1, S1⟩ := by
  rw [eNot_ap, h1, kNot_ok, q, kN_s]
theorem t2_ (h1 : f ⟨sl, S⟩ = .ok a ⟨sl1, S1⟩) (h2 : g ⟨sl1, S1⟩ = .ok b ⟨sl2, S2⟩) : eTup [f, g] ⟨sl, S⟩ = .ok (.tup [a, b]) ⟨sl2, S2⟩ := by
  simp [h1, h2]
/-! statements -/
theorem set_ (h1 : f ⟨sl, S⟩ = .ok d ⟨sl1, S1⟩) (e : sl1.set i (some (.val d)) = sl2) : sSet i f ⟨sl, S⟩ = .nx ⟨sl2, S1⟩ := by
  rw [sSet_ap, h1, ← e]
  rfl
theorem ex_ (h1 : f ⟨sl, S⟩ = .ok d ⟨sl1, S1⟩) : sEx f ⟨sl, S⟩ = .nx ⟨sl1, S1⟩ := by
  rw [sEx_ap, h1]
  rfl
theorem ret_ (h1 : f ⟨sl, S⟩ = .ok d ⟨sl1, S1⟩) : sRet f ⟨sl, S⟩ = .rt d ⟨sl1, S1⟩ := by
  rw [sRet_ap, h1]
  rfl
theorem if_t {u v : SX} (h1 : f ⟨sl, S⟩ = .ok d ⟨sl1, S1⟩) (t : truth d = some true) : sIf f u v ⟨sl, S⟩ = u ⟨sl1, S1⟩ := by
  rw [sIf_ap, h1]
  show kIT u v (truth d) _ = _
  rw [t]
  rfl
theorem if_f {u v : SX} (h1 : f ⟨sl, S⟩ = .ok d ⟨sl1, S1⟩) (t : truth d = some false) : sIf f u v ⟨sl, S⟩ = v ⟨sl1, S1⟩ := by
  rw [sIf_ap, h1]
  show kIT u v (truth d) _ = _
  rw [t]
  rfl
theorem nil_ : sNil ⟨sl, S⟩ = .nx ⟨sl, S⟩ := rfl
theorem un_ {bb : BX} {ρ : En} (h1 : f ⟨sl, S⟩ = .ok d ⟨sl1, S1⟩) (q : bb d ⟨sl1, S1⟩ = some ρ) : sUn bb f ⟨sl, S⟩ = .nx ρ := by
  rw [sUn_ap, h1]
  show kUO (bb d ⟨sl1, S1⟩) = _
  rw [q]
  rfl
theorem sq_ {u v : SX} {ρ ρ1 : En} {o : Fl} (e1 : u ρ = .nx ρ1) (e2 : v ρ1 = o) : sSeq u v ρ = o := by
  rw [sSeq_ap, e1]
  exact e2
theorem sq_r {u v : SX} {ρ ρ1 : En} {d : D} (e1 : u ρ = .rt d ρ1) : sSeq u v ρ = .rt d ρ1 := by
  rw [sSeq_ap, e1]
  rfl
theorem sq_e {u v : SX} {ρ ρ1 : En} {x : Ex} (e1 : u ρ = .err x ρ1) : sSeq u v ρ = .err x ρ1 := by
  rw [sSeq_ap, e1]
  rfl
theorem for_ {it : IX} {bb : BX} {u : SX} {ρ ρ1 : En} {o : Fl} (q : it ρ = .ok ds ρ1) (h : loopS bb u ds ρ1 = o) : sFor it bb u ρ = o := by
  rw [sFor_ap, q, kFor_ok]
  exact h
theorem fr_l (h : sl[i]? = some (some (.val (.lst ds)))) : sFr i ⟨sl, S⟩ = .nx ⟨sl, S⟩ := by
  simp [h]
theorem fr_t (h : sl[i]? = some (some (.val (.tup ds)))) : sFr i ⟨sl, S⟩ = .nx ⟨sl, S⟩ := by
  simp [h]
theorem fr_c {k : Nat} (h : sl[i]? = some (some (.val (.ce k)))) (q : S[k]? = some (some (.lst ds))) (e : sl.set i (some (.val (.lst ds))) = sl1) : sFr i ⟨sl, S⟩ = .nx ⟨sl1, S.set k none⟩ := by
  subst e
  simp [h, q]
theorem put_ {T : Store} (h3 : g ⟨sl, S⟩ = .ok e ⟨sl, S1⟩) (h1 : f ⟨sl, S1⟩ = .ok d ⟨sl, S2⟩) (h2 : h ⟨sl, S2⟩ = .ok z ⟨sl, S3⟩) (q : putS S3 d z e = some T) : sPutS f h g ⟨sl, S⟩ = .nx ⟨sl, T⟩ := by
  rw [sPutS_ap, h3, kPS1_ok, h1, kPS2_ok, h2, kPS3_ok, q, kPS_s]
/-! iterators -/
theorem iv_ {its : D → Option (List D)} (h1 : f ⟨sl, S⟩ = .ok d ⟨sl1, S1⟩) (q : its d = some ds) : iV its f ⟨sl, S⟩ = .ok ds ⟨sl1, S1⟩ := by
  simp [h1, q]
theorem ir1_ {k : Nat} (hk : k ≤ 1000000) (h1 : f ⟨sl, S⟩ = .ok (.int (k : Nat)) ⟨sl1, S1⟩) : iR1 f ⟨sl, S⟩ = .ok ((List.range k).map fun j => D.int (j : Nat)) ⟨sl1, S1⟩ := by
  have hb : ∀ z : Int, z = ((k : Nat) : Int) → big z = true := fun z hz => decide_eq_true ⟨by omega, by omega⟩
  have hr : ∀ z : Int, z = ((k : Nat) : Int) → rangeL 0 z.toNat = (List.range k).map fun j => D.int (j : Nat) := fun z hz => by
    unfold rangeL
    rw [hz, Int.toNat_natCast]
    refine List.map_congr_left fun k _ => ?_
    congr 1
    omega
  have key : ∀ z : Int, z = ((k : Nat) : Int) → kR1 (.ok (.int z) ⟨sl1, S1⟩) = .ok ((List.range k).map fun j => D.int (j : Nat)) ⟨sl1, S1⟩ := fun z hz => by
    show (if big z = true then _ else _) = _
    rw [if_pos (hb z hz), hr z hz]
  rw [iR1_ap, h1]
  exact key _ rfl
theorem lp_ {bb : BX} {u : SX} {ρ ρ1 ρ2 : En} {o : Fl} (e1 : bb d ρ = some ρ1) (e2 : u ρ1 = .nx ρ2) (e3 : loopS bb u ds ρ2 = o) : loopS bb u (d :: ds) ρ = o := (loopS_cons e1 e2).trans e3
end
theorem wipe_st (ρ : En) : ∀ vs : List Nat, (wipeE ρ vs).st = ρ.st
  | [] => rfl
  | v :: vs => by rw [wipeE_cons, En.set_st, wipe_st ρ vs]
theorem eCompM_filt {it : IX} {b : BX} {c e : EX} {vs : List Nat} {p : D → Bool} {g : D → D} {ds : List D} {ρ ρ1 : En} (hi : it ρ = .ok ds ρ1) (hl : ds.length ≤ 1000000)
    (H : ∀ d ∈ ds, ∃ ρ2, b d (wipeE ρ1 vs) = some ρ2 ∧ ∃ t ρ3, c ρ2 = .ok t ρ3 ∧ truth t = some (p d) ∧ (p d = false → wipeE ρ3 vs = wipeE ρ1 vs) ∧ (p d = true → ∃ ρ4, e ρ3 = .ok (g d) ρ4 ∧ wipeE ρ4 vs = wipeE ρ1 vs)) :
    eCompM it b c e vs ρ = .ok (.ce ρ1.st.length) ⟨(backE ρ1 (wipeE ρ1 vs) vs).sl, ρ1.st ++ [some (.lst ((ds.filter p).map g))]⟩ := by
  obtain ⟨ρ', e1, h1⟩ := compL_filt (acc := []) H rfl
  have hs : ρ'.st = ρ1.st := by rw [← wipe_st ρ' vs, h1, wipe_st]
  rw [eCompM_ap, hi, kCoM_ok, if_pos hl, e1, List.nil_append, kMl_ok, h1, hs]
theorem eCompM_map {it : IX} {b : BX} {e : EX} {vs : List Nat} {g : D → D} {ds : List D} {ρ ρ1 : En} (hi : it ρ = .ok ds ρ1) (hl : ds.length ≤ 1000000)
    (H : ∀ d ∈ ds, ∃ ρ2, b d (wipeE ρ1 vs) = some ρ2 ∧ ∃ ρ3, e ρ2 = .ok (g d) ρ3 ∧ wipeE ρ3 vs = wipeE ρ1 vs) :
    eCompM it b (eC (.bl true)) e vs ρ = .ok (.ce ρ1.st.length) ⟨(backE ρ1 (wipeE ρ1 vs) vs).sl, ρ1.st ++ [some (.lst (ds.map g))]⟩ := by
  obtain ⟨ρ', e1, h1⟩ := compL_map (acc := []) H rfl
  have hs : ρ'.st = ρ1.st := by rw [← wipe_st ρ' vs, h1, wipe_st]
  rw [eCompM_ap, hi, kCoM_ok, if_pos hl, e1, List.nil_append, kMl_ok, h1, hs]
section
variable {sl sl1 sl2 sl3 : List (Option Sl)} {S S1 S2 S3 : Store} {d : D} {f g h : EX} {ds : List D} {lo hi : Int}
theorem slh_l (h1 : f ⟨sl, S⟩ = .ok d ⟨sl1, S1⟩) (h2 : g ⟨sl1, S1⟩ = .ok (.int hi) ⟨sl2, S2⟩) (q : slF (see1 S2 d) none (some hi) = some (.new ds)) : eSlF false f none (some g) ⟨sl, S⟩ = .ok (.lst ds) ⟨sl2, S2⟩ := by
  rw [eSlF_ap, h1, kSla_n, kSlo_s, h2, kSlH_ok, kSl_ap, q, kF_f]
theorem sll_l (h1 : f ⟨sl, S⟩ = .ok d ⟨sl1, S1⟩) (h2 : g ⟨sl1, S1⟩ = .ok (.int lo) ⟨sl2, S2⟩) (q : slF (see1 S2 d) (some lo) none = some (.new ds)) : eSlF false f (some g) none ⟨sl, S⟩ = .ok (.lst ds) ⟨sl2, S2⟩ := by
  rw [eSlF_ap, h1, kSla_s, h2, kSlL_ok, kSlo_n, kSl_ap, q, kF_f]
theorem slb_l (h1 : f ⟨sl, S⟩ = .ok d ⟨sl1, S1⟩) (h2 : g ⟨sl1, S1⟩ = .ok (.int lo) ⟨sl2, S2⟩) (h3 : h ⟨sl2, S2⟩ = .ok (.int hi) ⟨sl3, S3⟩) (q : slF (see1 S3 d) (some lo) (some hi) = some (.new ds)) : eSlF false f (some g) (some h) ⟨sl, S⟩ = .ok (.lst ds) ⟨sl3, S3⟩ := by
  rw [eSlF_ap, h1, kSla_s, h2, kSlL_ok, kSlo_s, h3, kSlH_ok, kSl_ap, q, kF_f]
theorem l0_ : eLst [] ⟨sl, S⟩ = .ok (.lst []) ⟨sl, S⟩ := by simp
theorem l1_ {a : D} (h1 : f ⟨sl, S⟩ = .ok a ⟨sl1, S1⟩) : eLst [f] ⟨sl, S⟩ = .ok (.lst [a]) ⟨sl1, S1⟩ := by simp [h1]
theorem l2_ {a b : D} (h1 : f ⟨sl, S⟩ = .ok a ⟨sl1, S1⟩) (h2 : g ⟨sl1, S1⟩ = .ok b ⟨sl2, S2⟩) : eLst [f, g] ⟨sl, S⟩ = .ok (.lst [a, b]) ⟨sl2, S2⟩ := by simp [h1, h2]
theorem l3_ {a b c : D} (h1 : f ⟨sl, S⟩ = .ok a ⟨sl1, S1⟩) (h2 : g ⟨sl1, S1⟩ = .ok b ⟨sl2, S2⟩) (h3 : h ⟨sl2, S2⟩ = .ok c ⟨sl3, S3⟩) : eLst [f, g, h] ⟨sl, S⟩ = .ok (.lst [a, b, c]) ⟨sl3, S3⟩ := by simp [h1, h2, h3]
end
/-! slices of lists -/
theorem sIx_nat {n k : Nat} {d : Nat} : HT.sIx n d (some (k : Nat)) = min k n := by
  unfold HT.sIx
  simp only []
  split <;> omega
theorem cut_hi {α : Type} {l : List α} {k : Nat} : cutD l none (some (k : Nat)) = l.take k := by
  unfold cutD
  rw [sIx_nat]
  show (l.drop 0).take (min k l.length - 0) = _
  rw [List.drop_zero, Nat.sub_zero]
  rcases Nat.le_total k l.length with h | h
  · rw [Nat.min_eq_left h]
  · rw [Nat.min_eq_right h, List.take_length, List.take_of_length_le h]
theorem cut_lo {α : Type} {l : List α} {k : Nat} : cutD l (some (k : Nat)) none = l.drop k := by
  unfold cutD
  rw [sIx_nat]
  show (l.drop (min k l.length)).take (l.length - min k l.length) = _
  rcases Nat.le_total k l.length with h | h
  · rw [Nat.min_eq_left h, List.take_of_length_le (by rw [List.length_drop]; omega)]
  · rw [Nat.min_eq_right h, List.drop_length, List.drop_of_length_le h, List.take_nil]
theorem cut_no {α : Type} {l : List α} : cutD l none none = l := by
  unfold cutD
  show (l.drop 0).take (l.length - 0) = _
  rw [List.drop_zero, Nat.sub_zero, List.take_length]
end MB

/-! Places of lists and cells at natural indexes; stores that grow. -/
namespace MB
open PySem PySem.Spec PyProof.Rows L2
theorem atZ {α : Type} {l : List α} {i : Nat} {z : Int} (hz : z = (i : Nat)) : L2.atI l z = l[i]? := by
  subst hz
  exact atI_nat
theorem ixl_ {S : Store} {ds : List D} {i : Nat} {d : D} (h : ds[i]? = some d) : ixS S (.lst ds) (.int (i : Nat)) = some d := by
  show L2.atI ds ((i : Nat) : Int) = _
  rw [atI_nat, h]
theorem ixt_ {S : Store} {ds : List D} {i : Nat} {d : D} (h : ds[i]? = some d) : ixS S (.tup ds) (.int (i : Nat)) = some d := by
  show L2.atI ds ((i : Nat) : Int) = _
  rw [atI_nat, h]
theorem ixc_ {S : Store} {ds : List D} {k i : Nat} {d : D} (hk : S[k]? = some (some (.lst ds))) (h : ds[i]? = some d) : ixS S (.ce k) (.int (i : Nat)) = some d := by
  have e : ∀ z : Int, L2.atI ds z = some d → ixS S (.ce k) (.int z) = some d := fun z hz => by simp [hk, hz]
  exact e _ (by rw [atI_nat, h])
theorem putc_ {S : Store} {ds : List D} {k i : Nat} {e : D} (hk : S[k]? = some (some (.lst ds))) (h : i < ds.length) : putS S (.ce k) (.int (i : Nat)) e = some (S.set k (some (.lst (ds.set i e)))) := by
  have q : ∀ z : Int, L2.ixN ds.length z = some i → putS S (.ce k) (.int z) e = some (S.set k (some (.lst (ds.set i e)))) := fun z hz => by simp [hk, hz]
  refine q _ ?_
  unfold L2.ixN
  rw [if_pos (by omega), if_pos (by omega)]
  rfl
theorem last_get {W : Store} {n : Nat} {c : Option Cn} (h : W.length = n) : (W ++ [c])[n]? = some c := by
  subst h; simp
theorem last_set {W : Store} {n : Nat} {c d : Option Cn} (h : W.length = n) : (W ++ [c]).set n d = W ++ [d] := by
  subst h
  rw [List.set_append_right _ _ (Nat.le_refl _)]
  simp
theorem app_get {W T : Store} {q : Nat} {x : Option Cn} (h : W[q]? = some x) : (W ++ T)[q]? = some x := by
  rw [List.getElem?_append_left (List.getElem?_eq_some_iff.mp h).1]
  exact h
theorem app_set {W T : Store} {q : Nat} {d : Option Cn} (h : q < W.length) : (W ++ T).set q d = W.set q d ++ T := by
  rw [List.set_append_left _ _ h]
theorem app_getR {W T : Store} {p i : Nat} {x : Option Cn} (hp : W.length = p) (h : T[i]? = some x) : (W ++ T)[p + i]? = some x := by
  subst hp
  rw [List.getElem?_append_right (by omega)]
  simpa using h
theorem app_setR {W T : Store} {p i : Nat} {x : Option Cn} (hp : W.length = p) : (W ++ T).set (p + i) x = W ++ T.set i x := by
  subst hp
  rw [List.set_append_right _ _ (by omega)]
  simp
/-- cells in a row, given up -/
theorem fzs_cells : ∀ (ls : List (List D)) (A B : Store), fzs (A ++ ls.map (fun l => some (Cn.lst l)) ++ B) ((List.range' A.length ls.length).map D.ce) = (ls.map D.lst, A ++ ls.map (fun _ => none) ++ B)
  | [], A, B => by simp
  | l :: ls, A, B => by
    have e0 : (A ++ (l :: ls).map (fun l => some (Cn.lst l)) ++ B)[A.length]? = some (some (.lst l)) := by simp
    have e3 : (A.length :: List.range' (A.length + 1) ls.length).map D.ce = .ce A.length :: (List.range' (A.length + 1) ls.length).map D.ce := rfl
    rw [List.length_cons, List.range'_succ, e3, fzs_cons, fz1_c e0]
    have e1 : (A ++ (l :: ls).map (fun l => some (Cn.lst l)) ++ B).set A.length none = (A ++ [none]) ++ ls.map (fun l => some (Cn.lst l)) ++ B := by
      rw [List.map_cons, List.append_assoc, List.set_append_right _ _ (Nat.le_refl _)]
      simp
    have e2 := fzs_cells ls (A ++ [none]) B
    rw [List.length_append, List.length_singleton] at e2
    show (D.lst l :: (fzs ((A ++ (l :: ls).map (fun l => some (Cn.lst l)) ++ B).set A.length none) _).1, (fzs ((A ++ (l :: ls).map (fun l => some (Cn.lst l)) ++ B).set A.length none) _).2) = _
    rw [e1, e2]
    simp
end MB

/-! Dicts in cells, while, for over a cell that its loop leaves as it is. -/
namespace MB
open PySem PySem.Spec PyProof.Rows L2
section
variable {S : Store} {k n : Nat} {kvs : List (L2.Key × D)} {z : Int} {d e : D}
theorem ixd_ (hk : S[k]? = some (some (.dct kvs))) (h : getA kvs (.inl z) = some d) : ixS S (.ce k) (.int z) = some d := by
  simp [hk, h]
theorem putd_ (hk : S[k]? = some (some (.dct kvs))) (h : kvs.length < 16777216) : putS S (.ce k) (.int z) e = some (S.set k (some (.dct (putA kvs (.inl z) e)))) := by
  simp [hk, h]
theorem ind_ (hk : S[k]? = some (some (.dct kvs))) : inS n S (.int z) (.ce k) = some (.bl (getA kvs (.inl z)).isSome) := by
  simp [hk]
theorem lend_ (hk : S[k]? = some (some (.dct kvs))) : lenS S (.ce k) = some (.int (kvs.length : Nat)) := by
  simp [hk]
end
section
variable {sl sl1 sl2 : List (Option Sl)} {S S1 S2 : Store} {d e : D} {f g : EX} {t : Bool}
theorem in_ {n : Nat} (h1 : f ⟨sl, S⟩ = .ok d ⟨sl1, S1⟩) (h2 : g ⟨sl1, S1⟩ = .ok e ⟨sl2, S2⟩) (q : inS n S2 d e = some (.bl t)) : eInA n f g ⟨sl, S⟩ = .ok (.bl t) ⟨sl2, S2⟩ := by
  rw [eInA_ap, h1, kIn1_ok, h2, kIn2_ok, q]
  rfl
theorem nin_ {n : Nat} (h1 : f ⟨sl, S⟩ = .ok d ⟨sl1, S1⟩) (h2 : g ⟨sl1, S1⟩ = .ok e ⟨sl2, S2⟩) (q : inS n S2 d e = some (.bl t)) : eNinA n f g ⟨sl, S⟩ = .ok (.bl (!t)) ⟨sl2, S2⟩ := by
  rw [eNinA_ap, h1, kIn1_ok, h2, kIn2_ok, q]
  rfl
end
section
variable {c : EX} {g : SX} {N : Nat} {ρ ρ1 ρ2 : En} {d e : D} {o : Fl}
theorem wh_t (h1 : c ρ = .ok d ρ1) (t : truth d = some true) (h2 : g ρ1 = .nx ρ2) (h3 : whileS c g N ρ2 = o) : whileS c g (N + 1) ρ = o := by
  rw [whileS_ap, h1]
  show kWt c g N ρ1 (truth d) = _
  rw [t]
  show kWg c g N (g ρ1) = _
  rw [h2]
  exact h3
theorem wh_r (h1 : c ρ = .ok d ρ1) (t : truth d = some true) (h2 : g ρ1 = .rt e ρ2) : whileS c g (N + 1) ρ = .rt e ρ2 := by
  rw [whileS_ap, h1]
  show kWt c g N ρ1 (truth d) = _
  rw [t]
  show kWg c g N (g ρ1) = _
  rw [h2]
  rfl
theorem wh_f (h1 : c ρ = .ok d ρ1) (t : truth d = some false) : whileS c g (N + 1) ρ = .nx ρ1 := by
  rw [whileS_ap, h1]
  show kWt c g N ρ1 (truth d) = _
  rw [t]
  rfl
end
/-- a loop's step that went on, or went on by continue -/
def Fl.goes : Fl → En → Prop
  | .nx ρ, ρ' => ρ = ρ'
  | .ct ρ, ρ' => ρ = ρ'
  | _, _ => False
/-- over a cell: as over what it holds, if each step leaves it -/
theorem loopC_eq {b : BX} {g : SX} {d : D} {n : Nat} {ds : List D} {I : Nat → En → Prop} (hI : ∀ i ρ, I i ρ → lstAt ρ.st d = some (n, ds)) (hs : ∀ i x, ds[i]? = some x → ∀ ρ ρ1 ρ2, I i ρ → b x ρ = some ρ1 → (g ρ1).goes ρ2 → I (i + 1) ρ2) :
    ∀ (k i : Nat) (ρ : En), I i ρ → i ≤ ds.length → ds.length < i + k → loopC b g d k i ρ = loopS b g (ds.drop i) ρ := by
  intro k
  induction k with
  | zero =>
    intro i ρ h hi hl
    omega
  | succ k ih =>
    intro i ρ h hil hl
    unfold loopC
    rw [hI i ρ h]
    show (match ds[i]? with | none => _ | some x => _) = _
    cases e : ds[i]? with
    | none =>
      rw [List.drop_eq_nil_of_le (List.getElem?_eq_none_iff.mp e)]
      rfl
    | some x =>
      have hi := (List.getElem?_eq_some_iff.mp e).1
      have hx : x ∈ ds := List.mem_of_getElem? e
      have ed : ds.drop i = x :: ds.drop (i + 1) := by
        rw [List.drop_eq_getElem_cons hi, (List.getElem?_eq_some_iff.mp e).2]
      rw [ed, loopS_cs]
      show (match b x ρ with | none => _ | some ρ1 => _) = _
      cases e1 : b x ρ with
      | none => rfl
      | some ρ1 =>
        show (match g ρ1 with | .nx ρ2 => _ | .ct ρ2 => _ | .bk ρ2 => _ | r => r) = kL2 b g _ (g ρ1)
        cases e2 : g ρ1 with
        | nx ρ2 => exact ih (i + 1) ρ2 (hs i x e ρ ρ1 ρ2 h e1 (by rw [e2]; rfl)) (by omega) (by omega)
        | ct ρ2 => exact ih (i + 1) ρ2 (hs i x e ρ ρ1 ρ2 h e1 (by rw [e2]; rfl)) (by omega) (by omega)
        | bk ρ2 => rfl
        | rt y ρ2 => rfl
        | err y ρ2 => rfl
        | stuck => rfl
theorem forS_cell {f : EX} {b : BX} {g : SX} {d : D} {n : Nat} {ds : List D} {ρ ρ1 : En} {I : Nat → En → Prop} (h1 : f ρ = .ok d ρ1) (hI : ∀ i ρ, I i ρ → lstAt ρ.st d = some (n, ds)) (hs : ∀ i x, ds[i]? = some x → ∀ ρ ρ1 ρ2, I i ρ → b x ρ = some ρ1 → (g ρ1).goes ρ2 → I (i + 1) ρ2) (h0 : I 0 ρ1) (hl : ds.length ≤ 1000000) : sForS f b g ρ = loopS b g ds ρ1 := by
  unfold sForS
  rw [h1]
  show (match lstAt ρ1.st d with | some _ => loopC b g d 1000001 0 ρ1 | none => _) = _
  rw [hI 0 ρ1 h0]
  show loopC b g d 1000001 0 ρ1 = _
  have hl2 : ∀ N : Nat, N = 1000001 → loopC b g d N 0 ρ1 = loopS b g ds ρ1 := fun N hN => by
    have := loopC_eq hI hs N 0 ρ1 h0 (Nat.zero_le _) (by omega)
    rwa [List.drop_zero] at this
  exact hl2 _ rfl
theorem forS_data {f : EX} {b : BX} {g : SX} {d : D} {ds : List D} {ρ ρ1 : En} (h1 : f ρ = .ok d ρ1) (h2 : lstAt ρ1.st d = none) (h3 : seqI d = some ds) : sForS f b g ρ = loopS b g ds ρ1 := by
  unfold sForS
  rw [h1]
  show (match lstAt ρ1.st d with | some _ => _ | none => match seqI d with | some ds => loopS b g ds ρ1 | none => .stuck) = _
  rw [h2, h3]
end MB

/-! tuple.count. -/
namespace MB
open PySem PySem.Spec PyProof.Rows L2
def rCntT (K : Fg) : V → List V → Hp → VK → Prop := fun x xs H Q => ∃ (a : Addr) (ys : List V) (y : V), x = V.ref a ∧ xs = [y] ∧ SqT K H a ys ∧ flatV y = true ∧ ys.all flatV = true ∧ Q (.int ((ys.countP fun z => eqV z y : Nat))) H
theorem mt_countT {X : Cx} : MtR X "tuple.count" (rCntT X.K) := by
  intro pins s σ H x xs v us Q I rx rxs h
  obtain ⟨a, ys, y, rfl, rfl, hs, fy, fys, q⟩ := h
  cases rx
  cases rxs with
  | cons ry rt =>
    rename_i uy ut
    cases rt
    obtain ⟨its, rv, ⟨⟨cls, dd, data, sl⟩, ho, hc, n, hd⟩, hlen⟩ := I.tuple hs
    simp only at hc hd
    subst hc hd
    refine call_meets PySem.F.slot_tuple_count ⟨_, ho, rfl⟩ PySem.F.entry_tuple_count (PySem.F.args_tuple_count_2 _ _)
      (SeqAt.tuple_countAt a its.toArray n dd sl uy (eqU y)) ⟨ho, fun u' hu' => mem_eqAt ry fy rv fys u' (by simpa using hu'), ?_⟩
    rw [show its.toArray.toList = its from rfl, cnt_eqU rv fys]
    exact ⟨.int _, H, I.tok _, ⟨_, rfl⟩, q⟩
/-- a tuple that is known to carry no dict -/
def tyB (K : Fg) (x : V) (H : Hp) : Prop := ∃ a vs, x = .ref a ∧ SqB K H a vs
theorem ty_B {X : Cx} : TyOk X "tuple" (tyB X.K) := by
  intro pins σ H s x v I r ⟨a, vs, e, sq⟩
  subst e
  cases r
  rcases sq with ⟨o, h, nd⟩ | ⟨o, its, n, h, nd, c, _⟩
  · obtain ⟨h1, h2⟩ := (show ObjOk X.prog X.w H s.heap a (.frz o (.tup vs)) from I.hok a _ h)
    obtain ⟨_, us, _, ⟨o', g, c, _⟩⟩ := (show ObjOk X.prog X.w H s.heap a (.tup vs) from h2)
    exact ⟨⟨o', g, c⟩, fun b e => by cases e; exact ⟨o, h1, nd⟩⟩
  · exact ⟨⟨o, I.kIn a o h, c⟩, fun b e => by cases e; exact ⟨o, I.kIn a o h, nd⟩⟩
def eCntT (fo fe : EX) : EX := fun ρ => (fo ρ).bind fun d ρ1 => match d with
  | .tup xs => (fe ρ1).bind fun y ρ2 => if (flat y && xs.all flat) = true then .ok (.int ((xs.countP fun z => eqF z y : Nat))) ρ2 else .stuck
  | _ => .stuck
section
variable {X : Cx} {hx : Hx} {W : WX} {o e : Expr} {fo fe : EX} {apos cpos : Pos}
theorem r_cntT (ho : PE X o (tX X.kw hx W fo)) (he : PE X e (tX X.kw hx W fe)) (hbase : attributeBase o "count" X.env (eval o X.env) = eval o X.env := by rfl)
    (hfew : ((backTo cpos (starEach [e] X.env)).all (fun x => !x.1) && (backToKw cpos (keywordEach [] X.env)).all (fun x => x.1.isSome) && decide ([e].length + ([] : List Keyword).length + (if ([] : List Keyword).isEmpty then 0 else 1) < 30)) = true := by rfl)
    (hline : (apos.endLine == cpos.line) = true := by rfl) (hs : starEach [e] X.env = (false, eval e X.env) :: starEach [] X.env := by rfl) (hplain : (backTo cpos (starEach [] X.env)).any (·.1) = false := by rfl) :
    PE X (.Call (.Attribute o "count" apos) [e] [] cpos) (tX X.kw hx W (eCntT fo fe)) :=
  (pe_mG ty_B PySem.F.plainAttrs_tuple PySem.F.slot_tuple_count PySem.F.type_tuple_count mt_countT ho (pa_cons he pa_nil hs) hbase hfew hline hs hplain).imp fun σ H Q h => by
    obtain ⟨F, ρ, ⟨O, r0⟩, hp⟩ := h
    refine bindX r0 hp fun d ρ1 v H1 O1 r1 s1 dv hp1 => ?_
    cases d <;> (try exact hp1.elim)
    rename_i ds
    obtain ⟨a, vs, rfl, s, t⟩ := dv.tup_ofB
    refine ⟨⟨a, vs, rfl, s.mono (wo_same O1 H1)⟩, ?_⟩
    refine bindX r1 hp1 fun d2 ρ2 u H2 O2 r2 s2 du hp2 => ?_
    split at hp2
    · rename_i c
      obtain ⟨c1, c2⟩ := Bool.and_eq_true_iff.mp c
      obtain ⟨rfl, f1⟩ := flat_of du c1
      obtain ⟨e2, f2⟩ := flats_of t c2
      refine ⟨a, vs, _, rfl, rfl, sqT_mono (wo_same O2 H2) (sqT_mono s2.h s.sq), f1, f2, ?_⟩
      rw [e2, countP_flV c1 c2]
      exact hp2 _ H2 ⟨O2, r2, .int _⟩
    · exact hp2.elim
end
theorem cnt_ {sl sl1 sl2 : List (Option Sl)} {S S1 S2 : Store} {f g : EX} {ns : List Int} {z : Int} (h1 : f ⟨sl, S⟩ = .ok (.tup (ns.map D.int)) ⟨sl1, S1⟩) (h2 : g ⟨sl1, S1⟩ = .ok (.int z) ⟨sl2, S2⟩) : eCntT f g ⟨sl, S⟩ = .ok (.int (ns.count z : Nat)) ⟨sl2, S2⟩ := by
  show (f ⟨sl, S⟩).bind _ = _
  rw [h1]
  show (g ⟨sl1, S1⟩).bind _ = _
  rw [h2]
  show (if (flat (.int z) && (ns.map D.int).all flat) = true then _ else _) = _
  have a : (flat (.int z) && (ns.map D.int).all flat) = true := by simp
  rw [if_pos a, List.countP_map, List.count_eq_countP]
  congr 4
end MB

/-! zip of two rows of any kinds, and its loop. -/
namespace MB
open PySem PySem.Spec PyProof.Rows L2
/-- a row: a tuple (true) or a list (false) -/
def SqM (m : Bool) (K : Fg) (H : Hp) (a : Addr) (xs : List V) : Prop := match m with
  | true => SqT K H a xs
  | false => SqL K H a xs
def rowAt (m : Bool) (h : Heap) (a : Addr) (its : Array Value) : Prop := match m with
  | true => h.IsTuple a its
  | false => h.IsList a its
def turnAt (m : Bool) (h : Heap) (i a : Addr) (k : Nat) : Prop := match m with
  | true => h.IsTupleIter i a k
  | false => h.IsListIter i a k
def turnO (m : Bool) (a : Addr) : Obj := match m with
  | true => { cls := .type "tuple_iterator", data := .fields #[.ref a, .int 0 0] }
  | false => { cls := .type "list_iterator", data := .fields #[.ref a, .int 0 0] }
theorem turnAt_keep {m : Bool} {h h' : Heap} {i a : Addr} {k : Nat} (t : turnAt m h i a k) (e : ∀ o, h.get? i = some o → h'.get? i = some o) : turnAt m h' i a k := by
  cases m
  · exact (show h.IsListIter i a k from t).at e
  · exact (show h.IsTupleIter i a k from t).at e
theorem turnAt_obj {m : Bool} {h : Heap} {i a : Addr} {k : Nat} (t : turnAt m h i a k) : ∃ o, h.get? i = some o ∧ ∀ v, o.data ≠ .cell v := by
  cases m
  · obtain ⟨o, e, _, d⟩ := (show h.IsListIter i a k from t)
    exact ⟨o, e, fun v q => by rw [d] at q; cases q⟩
  · obtain ⟨o, e, _, d⟩ := (show h.IsTupleIter i a k from t)
    exact ⟨o, e, fun v q => by rw [d] at q; cases q⟩
theorem rowM {X : Cx} {m : Bool} {pins : List (Addr × Obj)} {σ : L2.St} {H : Hp} {s : Shared} {a : Addr} {xs : List V} (I : Inv X pins σ H s) (h : SqM m X.K H a xs) : ∃ its : List Value, Vals xs its ∧ rowAt m s.heap a its.toArray ∧ a < s.heap.objs.size := by
  cases m
  · obtain ⟨its, rv, p, _⟩ := I.list h
    exact ⟨its, rv, p.isList, p.lt⟩
  · obtain ⟨its, rv, p, _⟩ := I.tuple h
    obtain ⟨o, e, _⟩ := id p
    exact ⟨its, rv, p, Heap.lt_size e⟩
theorem rowM_inj {X : Cx} {m : Bool} {pins : List (Addr × Obj)} {σ : L2.St} {H : Hp} {s : Shared} {a : Addr} {xs ys : List V} (I : Inv X pins σ H s) (h : SqM m X.K H a xs) (h2 : SqM m X.K H a ys) : xs = ys := by
  cases m
  · exact I.list_inj h h2
  · exact I.tuple_inj h h2
theorem drawM {P : Program} {w : World} {A : Around} (m : Bool) (hh : A.handled = none) (i a : Addr) (hne : a ≠ i) (its : Array Value) :
    Draws P w A i [i, a] its.size (fun k v => its[k]? = some v) (fun k h => turnAt m h i a k ∧ rowAt m h a its) := by
  cases m
  · exact Draws.list hh i a hne its
  · exact Draws.tuple hh i a hne its
/-- a row that has run out -/
theorem outM {P : Program} {w : World} {A : Around} (m : Bool) (hh : A.handled = none) (i a : Addr) (hne : a ≠ i) (its : Array Value) (k : Nat) (hk : its[k]? = none) :
    Draws P w A i [i, a] k (fun _ _ => True) (fun j h => j = k ∧ turnAt m h i a k ∧ rowAt m h a its) where
  live := fun j h st => by
    obtain ⟨o, e, _⟩ := turnAt_obj st.2.1
    exact ⟨o, e⟩
  frame := fun j h h' st g => by
    refine ⟨st.1, turnAt_keep st.2.1 (g i (by simp)), ?_⟩
    have q := st.2.2
    cases m
    · exact (show h.IsList a its from q).at fun o e => g a (by simp) o e
    · exact (show h.IsTuple a its from q).at fun o e => g a (by simp) o e
  item := fun j s Q E lt st _ => absurd st.1 (Nat.ne_of_lt lt)
  done := fun s Q E st out => by
    obtain ⟨_, q, r⟩ := st
    cases m
    · exact wpAny_nextOf_list_end hh q r hk out
    · exact wpAny_nextOf_tuple_end hh q r hk out
theorem beginM (m : Bool) (a : Addr) (its : Array Value) : Begins (.ref a) (turnO m a) fun h => rowAt m h a its := by
  cases m
  · exact begins_list a its
  · exact begins_tuple a its
theorem turnM_new {m : Bool} {h : Heap} {i a : Addr} (e : h.get? i = some (turnO m a)) : turnAt m h i a 0 := by
  cases m
  · exact ⟨_, e, rfl, rfl⟩
  · exact ⟨_, e, rfl, rfl⟩
/-- the rows at a and b, side by side, in new pairs -/
def ItzM (K : Fg) (m n : Bool) (a b : Addr) : It where
  go k H := ∃ (us vs : List V) (u v : V), SqM m K H a us ∧ SqM n K H b vs ∧ us[k]? = some u ∧ vs[k]? = some v
  yld k H r H' := ∃ (c : Addr) (u v : V), r = .ref c ∧ H c = none ∧ H' = upd H c (.tup [u, v]) ∧ (∀ us, SqM m K H a us → us[k]? = some u) ∧ (∀ vs, SqM n K H b vs → vs[k]? = some v)
  stop k H := ∃ us vs : List V, SqM m K H a us ∧ SqM n K H b vs ∧ (us.length ≤ k ∨ vs.length ≤ k)
/-- the five cells of a turning zip -/
def zipAt (m n : Bool) (a b zp ti to_ ia ib : Addr) (k : Nat) (h : Heap) : Prop :=
  IsZip h zp ti to_ .none ∧ IsTupOf2 h ti (.ref ia) (.ref ib) ∧ (∃ p q, IsTupOf2 h to_ p q) ∧ turnAt m h ia a k ∧ turnAt n h ib b k
theorem turn_zipM {P : Program} {w : World} {K : Fg} {es : List Expr} {kk : Nat} {tp : Pos} (m n : Bool) {a b zp ti to_ ia ib : Addr} (D : ZipSep2 zp ti to_ ia ib [ia, a] [ib, b]) (ha : a ≠ ia) (hb : b ≠ ib) :
    Turn P w K (.Tuple es kk tp) (ItzM K m n a b) [zp, ti, to_, ia, ib] zp (zipAt m n a b zp ti to_ ia ib) where
  mem := List.mem_cons_self ..
  obj := fun k h st c hc => by
    obtain ⟨q1, q2, ⟨p, q, q3⟩, q4, q5⟩ := st
    simp only [List.mem_cons, List.not_mem_nil, or_false] at hc
    rcases hc with rfl | rfl | rfl | rfl | rfl
    · exact ⟨_, q1, fun v e => nomatch e⟩
    · exact ⟨_, q2, fun v e => nomatch e⟩
    · exact ⟨_, q3, fun v e => nomatch e⟩
    · exact turnAt_obj q4
    · exact turnAt_obj q5
  keep := fun k h h' st g => by
    obtain ⟨q1, q2, ⟨p, q, q3⟩, q4, q5⟩ := st
    exact ⟨g zp (by simp) _ q1, g ti (by simp) _ q2, ⟨p, q, g to_ (by simp) _ q3⟩, turnAt_keep q4 (g ia (by simp)), turnAt_keep q5 (g ib (by simp))⟩
  item := by
    intro X e1 e2 e3 calm k pins s σ H E I free st go
    subst e1 e2 e3
    obtain ⟨q1, q2, ⟨p0, p1, q3⟩, q4, q5⟩ := st
    obtain ⟨us, vs, u, v, hu, hv, gu, gv⟩ := go
    obtain ⟨its, rs, ra, _⟩ := rowM I hu
    obtain ⟨jts, ss, rb, _⟩ := rowM I hv
    obtain ⟨x, hx, rx⟩ := rs.get gu
    obtain ⟨y, hy, ry⟩ := ss.get gv
    have zl : zp < s.heap.objs.size := Heap.lt_size q1
    have hd0 : X.A.in1.handled = none := I.ok.hd calm
    have lx : k < its.toArray.size := by
      have := (List.getElem?_eq_some_iff.mp hx).1
      simpa using this
    have ly : k < jts.toArray.size := by
      have := (List.getElem?_eq_some_iff.mp hy).1
      simpa using this
    refine wpAny_pyNext_zipD2_item D (drawM m hd0 ia a ha its.toArray) (drawM n hd0 ib b hb jts.toArray) q1 q2 q3 ⟨q4, ra⟩ ⟨q5, rb⟩ lx ly fun x' y' h' tk hx' hy' z' o' t1 t2 new' sz kp => ?_
    have ex : x' = x := by
      have : its[k]? = some x' := by simpa using hx'
      exact Option.some.inj (this.symm.trans hx)
    have ey : y' = y := by
      have : jts[k]? = some y' := by simpa using hy'
      exact Option.some.inj (this.symm.trans hy)
    subst ex ey
    refine ⟨_, rfl, wpAny_letOwnedTupleGo_zip (s := { s with heap := h', toks := tk }) z' fun h2 z2 sb => ?_⟩
    have nz : s.heap.objs.size ≠ zp := Nat.ne_of_gt zl
    have T2 : h2.get? s.heap.objs.size = some { cls := .type "tuple", data := .seq #[x', y'] } := (sb.2 _ nz).trans new'
    have ok : ObjOk X.prog X.w (upd H s.heap.objs.size (.tup [u, v])) h2 s.heap.objs.size (.tup [u, v]) :=
      ⟨by show 2 ≤ sizeLine; decide, [x', y'], .cons rx (.cons ry .nil), ⟨_, T2, rfl, _, rfl⟩⟩
    have J : Inv X pins σ (upd H s.heap.objs.size (.tup [u, v])) { s with heap := h2, toks := tk } :=
      I.turnedNew (t' := tk) (ch := [zp, ti, to_, ia, ib]) (fun c o out g => by
        simp only [List.mem_cons, List.not_mem_nil, or_false, not_or] at out
        exact (sb.2 c out.1).trans (kp c o out.1 out.2.2.1 out.2.2.2.1 out.2.2.2.2 g)) free (Nat.le_refl _) ok
    refine ⟨.ref s.heap.objs.size, _, J, rfl, ⟨_, u, v, rfl, I.hok.fresh (Nat.le_refl _), rfl, fun l hl => ?_, fun l hl => ?_⟩, ⟨z2, ?_, ⟨x', y', ?_⟩, ?_, ?_⟩, fun c hc => ?_⟩
    · rw [rowM_inj I hl hu]; exact gu
    · rw [rowM_inj I hl hv]; exact gv
    · exact (sb.2 _ D.TIz).trans (kp _ _ D.TIz D.TITO D.TIi1 D.TIi2 q2)
    · exact (sb.2 _ D.TOz).trans o'
    · exact turnAt_keep t1.1 fun o g => (sb.2 _ D.zi1.symm).trans g
    · exact turnAt_keep t2.1 fun o g => (sb.2 _ D.zi2.symm).trans g
    · have lt : c < s.heap.objs.size := by
        simp only [List.mem_cons, List.not_mem_nil, or_false] at hc
        rcases hc with rfl | rfl | rfl | rfl | rfl
        · exact zl
        · exact Heap.lt_size q2
        · exact Heap.lt_size q3
        · obtain ⟨_, g, _⟩ := turnAt_obj q4
          exact Heap.lt_size g
        · obtain ⟨_, g, _⟩ := turnAt_obj q5
          exact Heap.lt_size g
      rw [upd_ne (Nat.ne_of_lt lt)]
      exact (free c hc).1
  done := by
    intro X e1 e2 e3 calm k pins s σ H E I free st go
    subst e1 e2 e3
    obtain ⟨q1, q2, ⟨p0, p1, q3⟩, q4, q5⟩ := st
    obtain ⟨us, vs, hu, hv, ends⟩ := go
    obtain ⟨its, rs, ra, _⟩ := rowM I hu
    obtain ⟨jts, ss, rb, _⟩ := rowM I hv
    have hd0 : X.A.in1.handled = none := I.ok.hd calm
    have la := rs.length
    have lb := ss.length
    have fin : ∀ (h' : Heap) (tk : Nat), (∀ c o, c ≠ zp → c ≠ to_ → c ≠ ia → c ≠ ib → s.heap.get? c = some o → h'.get? c = some o) → (none : Option Value) = none ∧ Inv X pins σ H { s with heap := h', toks := tk } := fun h' tk kp =>
      ⟨rfl, I.turnedL (t' := tk) (ch := [zp, ti, to_, ia, ib]) (fun c o out g => by
        simp only [List.mem_cons, List.not_mem_nil, or_false, not_or] at out
        exact kp c o out.1 out.2.2.1 out.2.2.2.1 out.2.2.2.2 g) free⟩
    by_cases c1 : k < its.length
    · have no : jts.toArray[k]? = none := by
        simp
        omega
      exact wpAny_pyNext_zipD2_end D (drawM m hd0 ia a ha its.toArray) (outM n hd0 ib b hb jts.toArray k no) q1 q2 q3 ⟨q4, ra⟩ ⟨rfl, q5, rb⟩ (by simpa using Nat.le_of_lt c1) (Nat.le_refl _) (.inr rfl) fin
    · have no : its.toArray[k]? = none := by
        simp
        omega
      by_cases c2 : k < jts.length
      · exact wpAny_pyNext_zipD2_end D (outM m hd0 ia a ha its.toArray k no) (drawM n hd0 ib b hb jts.toArray) q1 q2 q3 ⟨rfl, q4, ra⟩ ⟨q5, rb⟩ (Nat.le_refl _) (by simpa using Nat.le_of_lt c2) (.inl rfl) fin
      · have no2 : jts.toArray[k]? = none := by
          simp
          omega
        exact wpAny_pyNext_zipD2_end D (outM m hd0 ia a ha its.toArray k no) (outM n hd0 ib b hb jts.toArray k no2) q1 q2 q3 ⟨rfl, q4, ra⟩ ⟨rfl, q5, rb⟩ (Nat.le_refl _) (Nat.le_refl _) (.inl rfl) fin
  self := fun A k s Q E st h => wpAny_pyIter_zip st.1 h
def iZipM (K : Fg) (ta : TA) : TI := fun σ H R => ta σ H fun vs H1 => ∃ (m n : Bool) (a b : Addr) (xs ys : List V), vs = [.ref a, .ref b] ∧ SqM m K H1 a xs ∧ SqM n K H1 b ys ∧ R (ItzM K m n a b) H1
theorem pi_zipM {X : Cx} {e f : Expr} {ta : TA} {p pos tp : Pos} {es : List Expr} {kk : Nat} (free : Gl X "zip") (nomg : X.mg "zip" = none) (pa : PA X [e, f] ta)
    (st : starEach [e, f] X.env = (false, eval e X.env) :: starEach [f] X.env := by rfl) (pl : (backTo pos (starEach [f] X.env)).any (·.1) = false := by rfl) :
    PI X (.Tuple es kk tp) (.Call (.Name "zip" p) [e, f] [] pos) (iZipM X.K ta) := by
  refine ⟨fun pins s σ H R I h => Call_ (ld_blt I free nomg PyProof.Rows.boot_zip (PyProof.Rows.callWith_type1 (thn (pa.run pos pins s σ H _ I h) fun us s1 got => ?_) st pl))⟩
  obtain ⟨vs, H1, J, rel, m, n, a, b, xs, ys, rfl, ha, hb, q⟩ := got
  cases rel with
  | cons r1 r2 =>
    cases r2 with
    | cons r2 r3 =>
      cases r3
      cases r1
      cases r2
      obtain ⟨its, _, ra, la⟩ := rowM J ha
      obtain ⟨jts, _, rb, lb⟩ := rowM J hb
      refine zip_begins2 (beginM m a its.toArray) (beginM n b jts.toArray) ra rb fun h' z1 z2 z3 z4 z5 _ kp => wpAny_pyIter_zip z1 ?_
      have J2 : Inv X pins σ H1 { s1 with heap := h' } := J.kept (t' := s1.toks) kp
      refine ⟨s1.heap.objs.size + 4, [s1.heap.objs.size + 4, s1.heap.objs.size + 2, s1.heap.objs.size + 3, s1.heap.objs.size, s1.heap.objs.size + 1], _, _, H1, rfl, J2,
        turn_zipM m n (zip_sep2 (fp1 := [a]) (fp2 := [b]) (by simpa using la) (by simpa using lb)) (Nat.ne_of_lt la) (Nat.ne_of_lt (Nat.lt_succ_of_lt lb)), ⟨z1, z2, ⟨_, _, z3⟩, turnM_new z4, turnM_new z5⟩, fun c hc => ?_, q⟩
      have le : s1.heap.objs.size ≤ c := by
        have z : ∀ (N c : Nat), c = N + 4 ∨ c = N + 2 ∨ c = N + 3 ∨ c = N ∨ c = N + 1 → N ≤ c := fun N c h => by omega
        exact z _ _ (by simpa using hc)
      exact J.fpOk le (J.hok.fresh le)
def sqOf : D → Option (List D)
  | .lst xs => some xs
  | .tup xs => some xs
  | .tpx xs => some xs
  | _ => none
theorem sqOf_row {K : Kw} {T : Fz} {v : V} {d : D} {ds : List D} (e : sqOf d = some ds) (h : DV K T v d) : ∃ (m : Bool) (a : Addr) (vs : List V), v = .ref a ∧ SqM m K.K T.h a vs ∧ DVs K T vs ds := by
  cases d <;> simp only [sqOf, Option.some.injEq, reduceCtorEq] at e
  · subst e
    obtain ⟨a, vs, e, p, t⟩ := h.tup_of
    exact ⟨true, a, vs, e, p, t⟩
  · subst e
    obtain ⟨a, vs, e, p, t⟩ := h.lst_of
    exact ⟨false, a, vs, e, .of p, t⟩
  · subst e
    obtain ⟨a, vs, e, p, t⟩ := h.tpx_of
    exact ⟨true, a, vs, e, p, t⟩
theorem sqM_mono {m : Bool} {K : Fg} {H H' : Hp} (s : Same H H') {a : Addr} {xs : List V} (h : SqM m K H a xs) : SqM m K H' a xs := by
  cases m
  · rcases (show SqL K H a xs from h) with (h | ⟨o, h⟩) | h
    · exact .inl (.inl (s _ _ h))
    · exact .inl (.inr ⟨o, s _ _ h⟩)
    · exact .inr h
  · exact sqT_mono s h
theorem its_zipM {K : Kw} {T : Fz} {m n : Bool} {a b : Addr} {vs ws : List V} {ds es : List D} (s1 : SqM m K.K T.h a vs) (t1 : DVs K T vs ds) (s2 : SqM n K.K T.h b ws) (t2 : DVs K T ws es) : Its K T (ItzM K.K m n a b) (zipD ds es) := fun i H st => by
  refine ⟨fun d hd => ?_, fun hi => ⟨vs, ws, sqM_mono st s1, sqM_mono st s2, ?_⟩⟩
  · obtain ⟨dx, dy, e1, e2, rfl⟩ := zipD_get hd
    obtain ⟨x, hx, vx⟩ := t1.get e1
    obtain ⟨y, hy, vy⟩ := t2.get e2
    refine ⟨⟨vs, ws, x, y, sqM_mono st s1, sqM_mono st s2, hx, hy⟩, fun v H' yl => ?_⟩
    obtain ⟨c, x', y', rfl, hn, rfl, h1, h2⟩ := yl
    have ex : x' = x := Option.some.inj ((h1 vs (sqM_mono st s1)).symm.trans hx)
    have ey : y' = y := Option.some.inj ((h2 ws (sqM_mono st s2)).symm.trans hy)
    subst ex ey
    exact ⟨same_upd hn, fun O dom so => (pair_new hn dom (DV.mono so _ _ vx) (DV.mono so _ _ vy)).2⟩
  · rw [t1.length, t2.length]
    unfold zipD at hi
    simp only [List.length_map, List.length_zip] at hi
    omega
/-- zip(f, g) of rows of any kinds -/
def iZM (f g : EX) : IX := iB f fun d ρ1 => iB g (fun e ρ2 => match sqOf d, sqOf e with
  | some xs, some ys => .ok (zipD xs ys) ρ2
  | _, _ => .stuck) ρ1
section
variable {K : Kw} {hx : Hx} {W : WX} {f g : EX}
theorem ri_zipM : RI K hx W (iZM f g) (iZipM K.K (tCons (tX K hx W f) (tCons (tX K hx W g) tNil))) := by
  intro σ H R F ρ O r hp
  refine bindI (P := fun z => match z with
    | .ok ds ρ1 => ∀ (J : It) (H1 : Hp) (O1 : Ow), RO K hx F ρ1 σ H1 O1 → FSame (wo O H) (wo O1 H1) → Its K (wo O1 H1) J ds → R J H1
    | .err x ρ1 => ∀ cls dd H1, RX K hx F ρ1 σ H1 x cls dd → W cls dd σ H1
    | .stuck => False) r hp (fun x ρ1 h => h) (fun h => h) fun d ρ1 v H1 O1 r1 s1 dv q => ?_
  refine bindI (P := fun z => match z with
    | .ok ds ρ1 => ∀ (J : It) (H1 : Hp) (O1 : Ow), RO K hx F ρ1 σ H1 O1 → FSame (wo O H) (wo O1 H1) → Its K (wo O1 H1) J ds → R J H1
    | .err x ρ1 => ∀ cls dd H1, RX K hx F ρ1 σ H1 x cls dd → W cls dd σ H1
    | .stuck => False) r1 q (fun x ρ1 h => h) (fun h => h) fun e ρ2 u H2 O2 r2 s2 du q2 => ?_
  have dv2 := DV.mono s2 _ _ dv
  cases e1 : sqOf d with
  | none => simp only [e1] at q2
  | some xs =>
    cases e2 : sqOf e with
    | none => simp only [e1, e2] at q2
    | some ys =>
      simp only [e1, e2] at q2
      obtain ⟨m, a, vs, rfl, p1, t1⟩ := sqOf_row e1 dv2
      obtain ⟨n, b, ws, rfl, p2, t2⟩ := sqOf_row e2 du
      exact ⟨m, n, a, b, vs, ws, rfl, sqM_mono (wo_same O2 H2) p1, sqM_mono (wo_same O2 H2) p2, q2 _ H2 O2 r2 (s1.trans s2) (its_zipM p1 t1 p2 t2)⟩
end
end MB

namespace K52
open PySem PySem.Spec PyProof.Rows L2 MB
def top (i : Nat) : Stmt := PySem.Challenge.pw_madeorbarred_k52_pairings_or_rooms.main.body.getD i (.Pass ⟨0, 0, 0, 0⟩)
def xs : List (Str × List Str) := [("NumberError", ["NumberError", "MadeError", "ValueError", "Exception", "BaseException", "object"]), ("SizeError", ["SizeError", "MadeError", "ValueError", "Exception", "BaseException", "object"])]
def dc_FREE : D := .int (-1)
def dc_GREATEST_CHOICE : D := .int 199
def dc_MOST_CHOICES : D := .int 40
def ist_0 : List Str := ["NumberError", "PlaceError", "TooLarge"]
def ist_1 : List Str := ["SizeError", "PlaceError", "SameError"]
def xf_count : List Str := ["SizeError"]
def xf_number : List Str := ["NumberError"]
def xd_NumberError : XD := xdOf (top 2)
theorem xb_NumberError : PySem.MbX.XBi xd_NumberError.u xd_NumberError.as := PySem.MbX.xbi_one (by decide +kernel) (by decide +kernel) (by decide +kernel)
def xd_SizeError : XD := xdOf (top 3)
theorem xb_SizeError : PySem.MbX.XBi xd_SizeError.u xd_SizeError.as := PySem.MbX.xbi_one (by decide +kernel) (by decide +kernel) (by decide +kernel)
structure Mg (P : Program) (w : World) (K : Fg) (mg : Str → Option Value) : Prop where
  f_abs : mg "abs" = none
  f_all : mg "all" = none
  f_bool : mg "bool" = none
  f_int : mg "int" = none
  f_isinstance : mg "isinstance" = none
  f_len : mg "len" = none
  f_list : mg "list" = none
  f_min : mg "min" = none
  f_range : mg "range" = none
  f_set : mg "set" = none
  f_sorted : mg "sorted" = none
  f_str : mg "str" = none
  f_tuple : mg "tuple" = none
  f_zip : mg "zip" = none
  c_FREE : GC ⟨K, w⟩ mg "FREE" dc_FREE
  c_GREATEST_CHOICE : GC ⟨K, w⟩ mg "GREATEST_CHOICE" dc_GREATEST_CHOICE
  c_MOST_CHOICES : GC ⟨K, w⟩ mg "MOST_CHOICES" dc_MOST_CHOICES
  gd__law_pool : mg "_law_pool" = some (.ref (He.ga K "_law_pool"))
  gd__law_draw : mg "_law_draw" = some (.ref (He.ga K "_law_draw"))
  gd__law_small : mg "_law_small" = some (.ref (He.ga K "_law_small"))
  gd__law_some : mg "_law_some" = some (.ref (He.ga K "_law_some"))
  gd__law_paired : mg "_law_paired" = some (.ref (He.ga K "_law_paired"))
  gd__law_roomed : mg "_law_roomed" = some (.ref (He.ga K "_law_roomed"))
  gd__law_has_room : mg "_law_has_room" = some (.ref (He.ga K "_law_has_room"))
  gd__law_same : mg "_law_same" = some (.ref (He.ga K "_law_same"))
  gd_look_size : mg "look_size" = some (.ref (He.ga K "look_size"))
  gd_look_number : mg "look_number" = some (.ref (He.ga K "look_number"))
  gd_look_numbers : mg "look_numbers" = some (.ref (He.ga K "look_numbers"))
  gd__pass_on : mg "_pass_on" = some (.ref (He.ga K "_pass_on"))
  gd__choose : mg "_choose" = some (.ref (He.ga K "_choose"))
  gd_pairing : mg "pairing" = some (.ref (He.ga K "pairing"))
  gd__law_told : mg "_law_told" = some (.ref (He.ga K "_law_told"))
  gd__law_refused : mg "_law_refused" = some (.ref (He.ga K "_law_refused"))
  gd__law_whole : mg "_law_whole" = some (.ref (He.ga K "_law_whole"))
  gd__law_right : mg "_law_right" = some (.ref (He.ga K "_law_right"))
  gd__law_asked : mg "_law_asked" = some (.ref (He.ga K "_law_asked"))
  gd_law : mg "law" = some (.ref (He.ga K "law"))
  gc_MadeError : mg "MadeError" = some (.ref (He.ga K "MadeError"))
  gc_NumberError : mg "NumberError" = some (.ref (He.ga K "NumberError"))
  gc_PlaceError : mg "PlaceError" = some (.ref (He.ga K "PlaceError"))
  gc_SameError : mg "SameError" = some (.ref (He.ga K "SameError"))
  gc_SizeError : mg "SizeError" = some (.ref (He.ga K "SizeError"))
  gc_TooLarge : mg "TooLarge" = some (.ref (He.ga K "TooLarge"))
  ec : (xs.all fun p => excCB K (He.ga K p.1)) = true
  is_MadeError : ISF K (isX xs "MadeError") (.ref (He.ga K "MadeError"))
  ist_0 : ISFT K (isXT xs ist_0) (clsVs K ist_0)
  ist_1 : ISFT K (isXT xs ist_1) (clsVs K ist_1)
  te_NumberError : TEF K (isX xs "NumberError") (.ref (He.ga K "NumberError"))
  te_SizeError : TEF K (isX xs "SizeError") (.ref (He.ga K "SizeError"))
  xf_count : XFF K "count" xf_count
  xf_number : XFF K "number" xf_number
  x_NumberError : PySem.MbX.XT P K mg "NumberError" (He.ga K "NumberError") (xd_NumberError.fI K) (xd_NumberError.cc K) xd_NumberError.u xd_NumberError.as
  x_SizeError : PySem.MbX.XT P K mg "SizeError" (He.ga K "SizeError") (xd_SizeError.fI K) (xd_SizeError.cc K) xd_SizeError.u xd_SizeError.as

end K52

namespace K52
open PySem PySem.Spec PyProof.Rows L2 MB
def chkL (K : Fg) : List Bool := [(He.Fa.free "abs").ok K,
  (He.Fa.free "all").ok K,
  (He.Fa.free "bool").ok K,
  (He.Fa.free "int").ok K,
  (He.Fa.free "isinstance").ok K,
  (He.Fa.free "len").ok K,
  (He.Fa.free "list").ok K,
  (He.Fa.free "min").ok K,
  (He.Fa.free "range").ok K,
  (He.Fa.free "set").ok K,
  (He.Fa.free "sorted").ok K,
  (He.Fa.free "str").ok K,
  (He.Fa.free "tuple").ok K,
  (He.Fa.free "zip").ok K,
  gcB K "FREE" dc_FREE,
  gcB K "GREATEST_CHOICE" dc_GREATEST_CHOICE,
  gcB K "MOST_CHOICES" dc_MOST_CHOICES,
  (He.Fa.glo "_law_pool").ok K,
  (He.Fa.glo "_law_draw").ok K,
  (He.Fa.glo "_law_small").ok K,
  (He.Fa.glo "_law_some").ok K,
  (He.Fa.glo "_law_paired").ok K,
  (He.Fa.glo "_law_roomed").ok K,
  (He.Fa.glo "_law_has_room").ok K,
  (He.Fa.glo "_law_same").ok K,
  (He.Fa.glo "look_size").ok K,
  (He.Fa.glo "look_number").ok K,
  (He.Fa.glo "look_numbers").ok K,
  (He.Fa.glo "_pass_on").ok K,
  (He.Fa.glo "_choose").ok K,
  (He.Fa.glo "pairing").ok K,
  (He.Fa.glo "_law_told").ok K,
  (He.Fa.glo "_law_refused").ok K,
  (He.Fa.glo "_law_whole").ok K,
  (He.Fa.glo "_law_right").ok K,
  (He.Fa.glo "_law_asked").ok K,
  (He.Fa.glo "law").ok K,
  (He.Fa.glo "MadeError").ok K,
  (He.Fa.glo "NumberError").ok K,
  (He.Fa.glo "PlaceError").ok K,
  (He.Fa.glo "SameError").ok K,
  (He.Fa.glo "SizeError").ok K,
  (He.Fa.glo "TooLarge").ok K,
  (xs.all fun p => excCB K (He.ga K p.1)),
  isB K xs "MadeError" (.ref (He.ga K "MadeError")),
  isTB K xs ist_0,
  isTB K xs ist_1,
  teB K xs "NumberError" (.ref (He.ga K "NumberError")),
  teB K xs "SizeError" (.ref (He.ga K "SizeError")),
  xfFB K "count" xf_count,
  xfFB K "number" xf_number]
def chk (K : Fg) : Bool := (chkL K).all id
theorem chk_at {K : Fg} (c : chk K = true) (i : Nat) {b : Bool} (e : (chkL K)[i]? = some b) : b = true := List.all_eq_true.mp c b (List.mem_of_getElem? e)
def fnL : List He.DefD := [⟨("_law_pool", none), "_law_pool", "_law_pool", defArgs (top 19), defBody (top 19), defScope (top 19), [], []⟩,
  ⟨("_law_draw", none), "_law_draw", "_law_draw", defArgs (top 20), defBody (top 20), defScope (top 20), [], []⟩,
  ⟨("_law_small", none), "_law_small", "_law_small", defArgs (top 23), defBody (top 23), defScope (top 23), [], []⟩,
  ⟨("_law_some", none), "_law_some", "_law_some", defArgs (top 22), defBody (top 22), defScope (top 22), [], []⟩,
  ⟨("_law_paired", none), "_law_paired", "_law_paired", defArgs (top 24), defBody (top 24), defScope (top 24), [], []⟩,
  ⟨("_law_roomed", none), "_law_roomed", "_law_roomed", defArgs (top 25), defBody (top 25), defScope (top 25), [], []⟩,
  ⟨("_law_has_room", none), "_law_has_room", "_law_has_room", defArgs (top 26), defBody (top 26), defScope (top 26), [], []⟩,
  ⟨("_law_same", none), "_law_same", "_law_same", defArgs (top 21), defBody (top 21), defScope (top 21), [], []⟩,
  ⟨("look_size", none), "look_size", "look_size", defArgs (top 10), defBody (top 10), defScope (top 10), [], []⟩,
  ⟨("look_number", none), "look_number", "look_number", defArgs (top 8), defBody (top 8), defScope (top 8), [], []⟩,
  ⟨("look_numbers", none), "look_numbers", "look_numbers", defArgs (top 9), defBody (top 9), defScope (top 9), [], []⟩,
  ⟨("_pass_on", none), "_pass_on", "_pass_on", defArgs (top 17), defBody (top 17), defScope (top 17), [], []⟩,
  ⟨("_choose", none), "_choose", "_choose", defArgs (top 16), defBody (top 16), defScope (top 16), [], []⟩,
  ⟨("pairing", none), "pairing", "pairing", defArgs (top 15), defBody (top 15), defScope (top 15), [], []⟩,
  ⟨("_law_told", none), "_law_told", "_law_told", defArgs (top 27), defBody (top 27), defScope (top 27), [], []⟩,
  ⟨("_law_refused", none), "_law_refused", "_law_refused", defArgs (top 31), defBody (top 31), defScope (top 31), [], []⟩,
  ⟨("_law_whole", none), "_law_whole", "_law_whole", defArgs (top 28), defBody (top 28), defScope (top 28), [], []⟩,
  ⟨("_law_right", none), "_law_right", "_law_right", defArgs (top 29), defBody (top 29), defScope (top 29), [], []⟩,
  ⟨("_law_asked", none), "_law_asked", "_law_asked", defArgs (top 30), defBody (top 30), defScope (top 30), [], []⟩,
  ⟨("law", none), "law", "law", defArgs (top 32), defBody (top 32), defScope (top 32), [], []⟩]
def xL : List XD := [xd_NumberError, xd_SizeError]
def tsL : Tbs := []
abbrev R : PySem.W.OpenRow := PySem.W.OpenLaw.row PySem.Challenge.rw_madeorbarred_k52_pairings_or_rooms
abbrev fileR : Str := PySem.Challenge.pw_madeorbarred_k52_pairings_or_rooms.main.file
theorem mg_of {K : Fg} {w : World} {h : Heap} {mg : Str → Option Value} (X : K.In h) (G : h.Ns mainGlobals mg) (c : SaysN fileR chk fnL xL tsL w K) : Mg PySem.Challenge.pw_madeorbarred_k52_pairings_or_rooms w K mg :=
  have C := c.m.chk
  have GCX_MadeError : mg "MadeError" = some (.ref (He.ga K "MadeError")) := He.glo_ok X G (x := "MadeError") (chk_at C 37 rfl)
  have GCX_NumberError : mg "NumberError" = some (.ref (He.ga K "NumberError")) := He.glo_ok X G (x := "NumberError") (chk_at C 38 rfl)
  have GCX_PlaceError : mg "PlaceError" = some (.ref (He.ga K "PlaceError")) := He.glo_ok X G (x := "PlaceError") (chk_at C 39 rfl)
  have GCX_SameError : mg "SameError" = some (.ref (He.ga K "SameError")) := He.glo_ok X G (x := "SameError") (chk_at C 40 rfl)
  have GCX_SizeError : mg "SizeError" = some (.ref (He.ga K "SizeError")) := He.glo_ok X G (x := "SizeError") (chk_at C 41 rfl)
  have GCX_TooLarge : mg "TooLarge" = some (.ref (He.ga K "TooLarge")) := He.glo_ok X G (x := "TooLarge") (chk_at C 42 rfl)
  have EC : (xs.all fun p => excCB K (He.ga K p.1)) = true := chk_at C 43 rfl
  ⟨He.free_ok X G (x := "abs") (chk_at C 0 rfl),
   He.free_ok X G (x := "all") (chk_at C 1 rfl),
   He.free_ok X G (x := "bool") (chk_at C 2 rfl),
   He.free_ok X G (x := "int") (chk_at C 3 rfl),
   He.free_ok X G (x := "isinstance") (chk_at C 4 rfl),
   He.free_ok X G (x := "len") (chk_at C 5 rfl),
   He.free_ok X G (x := "list") (chk_at C 6 rfl),
   He.free_ok X G (x := "min") (chk_at C 7 rfl),
   He.free_ok X G (x := "range") (chk_at C 8 rfl),
   He.free_ok X G (x := "set") (chk_at C 9 rfl),
   He.free_ok X G (x := "sorted") (chk_at C 10 rfl),
   He.free_ok X G (x := "str") (chk_at C 11 rfl),
   He.free_ok X G (x := "tuple") (chk_at C 12 rfl),
   He.free_ok X G (x := "zip") (chk_at C 13 rfl),
   gc_ok (K := ⟨K, w⟩) X G (chk_at C 14 rfl),
   gc_ok (K := ⟨K, w⟩) X G (chk_at C 15 rfl),
   gc_ok (K := ⟨K, w⟩) X G (chk_at C 16 rfl),
   He.glo_ok X G (x := "_law_pool") (chk_at C 17 rfl),
   He.glo_ok X G (x := "_law_draw") (chk_at C 18 rfl),
   He.glo_ok X G (x := "_law_small") (chk_at C 19 rfl),
   He.glo_ok X G (x := "_law_some") (chk_at C 20 rfl),
   He.glo_ok X G (x := "_law_paired") (chk_at C 21 rfl),
   He.glo_ok X G (x := "_law_roomed") (chk_at C 22 rfl),
   He.glo_ok X G (x := "_law_has_room") (chk_at C 23 rfl),
   He.glo_ok X G (x := "_law_same") (chk_at C 24 rfl),
   He.glo_ok X G (x := "look_size") (chk_at C 25 rfl),
   He.glo_ok X G (x := "look_number") (chk_at C 26 rfl),
   He.glo_ok X G (x := "look_numbers") (chk_at C 27 rfl),
   He.glo_ok X G (x := "_pass_on") (chk_at C 28 rfl),
   He.glo_ok X G (x := "_choose") (chk_at C 29 rfl),
   He.glo_ok X G (x := "pairing") (chk_at C 30 rfl),
   He.glo_ok X G (x := "_law_told") (chk_at C 31 rfl),
   He.glo_ok X G (x := "_law_refused") (chk_at C 32 rfl),
   He.glo_ok X G (x := "_law_whole") (chk_at C 33 rfl),
   He.glo_ok X G (x := "_law_right") (chk_at C 34 rfl),
   He.glo_ok X G (x := "_law_asked") (chk_at C 35 rfl),
   He.glo_ok X G (x := "law") (chk_at C 36 rfl),
   GCX_MadeError,
   GCX_NumberError,
   GCX_PlaceError,
   GCX_SameError,
   GCX_SizeError,
   GCX_TooLarge,
   EC,
   is_ok EC (chk_at C 44 rfl),
   ist_ok EC (chk_at C 45 rfl),
   ist_ok EC (chk_at C 46 rfl),
   te_ok (chk_at C 47 rfl),
   te_ok (chk_at C 48 rfl),
   xff_ok (chk_at C 49 rfl),
   xff_ok (chk_at C 50 rfl),
   xt_of (x := xd_NumberError) X G (by decide +kernel) (c.m.cls 0 rfl).1 (c.m.cls 0 rfl).2,
   xt_of (x := xd_SizeError) X G (by decide +kernel) (c.m.cls 1 rfl).1 (c.m.cls 1 rfl).2⟩

end K52

namespace K52
open PySem PySem.Spec PyProof.Rows L2 MB
def nm0 : List PySem.Str := ["MadeError", "NumberError", "SizeError", "PlaceError", "SameError", "TooLarge", "look_number", "look_numbers", "look_size", "MOST_CHOICES", "GREATEST_CHOICE", "FREE", "pairing", "_choose", "_pass_on", "_law_pool", "_law_draw", "_law_same", "_law_some", "_law_small", "_law_paired", "_law_roomed", "_law_has_room", "_law_told", "_law_whole", "_law_right", "_law_asked", "_law_refused"]
def names : List PySem.Str := nm0
abbrev hk : PySem.W.Hook := hookN 4 fileR chk fnL xL tsL
def ob (s : PySem.W.SharedT) : AlN := obsNG 4 fileR chk fnL xL tsL (HandSHeadRun.getT s)
theorem ob_eq (s : PySem.W.SharedT) : ob s = hk.obs s.abs := obsNG_eq (HandSHeadRun.getT_eq s)
abbrev Rn (w : World) : Prop := HandSHeadRun.RunEq R (PySem.W.view R.prog [32]) hk ob 9000 names w
theorem map3 {σ α β γ : Type} {e : Option σ} {A : σ → α} {B : σ → β} {C : σ → γ} {a : α} {b : β} {c : γ} (h1 : e.map A = some a) (h2 : e.map B = some b) (h3 : e.map C = some c) : e.map (fun s => (A s, B s, C s)) = some (a, b, c) := by
  cases e with
  | none => cases h1
  | some s => cases h1; cases h2; cases h3; rfl
open PySem.Calls PySem.W in
noncomputable abbrev EF (w : World) (os : OsState) := HandSHeadRun.endF (HandSHeadRun.stepQ (HandSHeadRun.denQ HandSHeadRun.tabQ) R.prog w) 9000 R.prog w os
noncomputable abbrev EQ : Program := PySem.W.view R.prog [32]
abbrev wF (w : World) : World := w.withFollow "special-get-raises" false
abbrev wT (w : World) : World := w.withFollow "special-get-raises" true
open PySem.Calls PySem.W in
theorem pF1 (w : World) (os : OsState) : (EF (wF w) os).map (fun s => HandSHeadRun.looksF R.prog (boot_heap (wF w).params) s.abs) = some true := by
  kernel_rfl
theorem pF2 (w : World) (os : OsState) : (EF (wF w) os).map (fun s => HandSHeadRun.seenQ EQ names (importedModules R.prog.main.body) (fun s => PySem.W.xlAt EQ [] s && PySem.W.recOk R.toRowW.records s) s.abs) = some (PySem.W.openGood EQ names) := by
  kernel_rfl
theorem pF3 (w : World) (os : OsState) : (EF (wF w) os).map (fun s => ob s) = some (hk.val (wF w)) := by
  kernel_rfl
open PySem.Calls PySem.W in
theorem pT1 (w : World) (os : OsState) : (EF (wT w) os).map (fun s => HandSHeadRun.looksF R.prog (boot_heap (wT w).params) s.abs) = some true := by
  kernel_rfl
theorem pT2 (w : World) (os : OsState) : (EF (wT w) os).map (fun s => HandSHeadRun.seenQ EQ names (importedModules R.prog.main.body) (fun s => PySem.W.xlAt EQ [] s && PySem.W.recOk R.toRowW.records s) s.abs) = some (PySem.W.openGood EQ names) := by
  kernel_rfl
theorem pT3 (w : World) (os : OsState) : (EF (wT w) os).map (fun s => ob s) = some (hk.val (wT w)) := by
  kernel_rfl
theorem runF (w : World) : Rn (wF w) := fun os => map3 (pF1 w os) (pF2 w os) (pF3 w os)
theorem runT (w : World) : Rn (wT w) := fun os => map3 (pT1 w os) (pT2 w os) (pT3 w os)
theorem run (w : World) : Rn w := PySem.W.byRow2 "special-get-raises" (P := Rn) runF runT w

end K52

namespace K52
open PySem PySem.Spec PyProof.Rows L2 MB
noncomputable section
section
variable {P : Program} {w : World} {K : Fg} {mg : Str → Option Value} {base : Heap} {k : Nat}
/-! ### _law_pool -/
abbrev N__law_pool : List Str := ["script", "cells", "x", "seed"]
theorem nd__law_pool : N__law_pool.Nodup := by decide +kernel
theorem sc__law_pool : FnScope N__law_pool ["script"] (defScope (top 19)) := ⟨rfl, rfl, rfl, nd__law_pool, rfl, by decide +kernel, by decide +kernel⟩
def it__law_pool_0 : IX := (iV seqI (eSlF false (eVar 0) none (some (eC (.int 63)))))
def ce__law_pool_1 : EX := (eB modD (eCall absD [(eCall intD [(eVar 2)])]) (eB powM (eB powM (eC (.int 10)) (eC (.int 60))) (eC (.int 10))))
def it__law_pool_2 : IX := (iV seqI (eVar 1))
def g__law_pool_3 : SX := (sSet 3 (eB modD (eCall intD [(eBF false addF (eBF false addF (eBF false mulF (eVar 3) (eC (.int 31))) (eB modD (eCall intD [(eVar 2)]) (eC (.int 999983)))) (eC (.int 1)))]) (eC (.int 1000003))))
def b__law_pool : SX := (sSeq (sSet 1 (eComp it__law_pool_0 (bNm 2) (eC (.bl true)) ce__law_pool_1 [2]))
  (sSeq (sSet 3 (eC (.int 6)))
  (sSeq (sFor it__law_pool_2 (bNm 2)
  g__law_pool_3)
  (sRet (eBF true addF (eLst [(eVar 3), (eC (.int 0)), (eC (.int 0))]) (eVar 1))))))
noncomputable def m__law_pool : Fn := runQ b__law_pool 4
theorem bd__law_pool (M : Mg P w K mg) : Body P w K mg base k N__law_pool "_law_pool" (defScope (top 19)) (defBody (top 19)) b__law_pool := fun f cd A outer s H E hr =>
  (p_cons (p_setC (i := 1) (own := [("x", 2)]) rfl nd__law_pool rfl rfl rfl (pi_seq (rf_sl (m := false) (r_var 0) .none (.some r_int))) ri_seq rfl (fun s0 H0 C0 cl0 fp0 => (g_nm (i := 2) nd__law_pool rfl (by first | exact .inl rfl | exact .inr rfl))) (fun s0 H0 C0 cl0 fp0 => c_nil) (fun s0 H0 C0 cl0 fp0 => (r_bin op_modN s_mod (r_callB call_abs s_abs M.f_abs (by decide +kernel) (a_cons (r_callTy call_int1 s_int M.f_int (by decide +kernel) (a_cons (r_var 2) a_nil)) a_nil)) (r_bin o_powM s_powM (r_bin o_powM s_powM r_int r_int) r_int))))
  (p_cons (p_set (i := 3) nd__law_pool rfl (by first | exact .inl rfl | exact .inr rfl) r_int)
  (p_cons (p_for ps_cx rfl (pi_seq (r_var 1)) ri_seq (g_nm (i := 2) nd__law_pool rfl (by first | exact .inl rfl | exact .inr rfl))
  (p_one (p_set (i := 3) nd__law_pool rfl (by first | exact .inl rfl | exact .inr rfl) (r_bin op_modN s_mod (r_callTy call_int1 s_int M.f_int (by decide +kernel) (a_cons (rf_bin (m := false) o_add s_addF (rf_bin (m := false) o_add s_addF (rf_bin (m := false) o_mul s_mulF (r_var 3) r_int) (r_bin op_modN s_mod (r_callTy call_int1 s_int M.f_int (by decide +kernel) (a_cons (r_var 2) a_nil)) r_int)) r_int) a_nil)) r_int))))
  (p_one (p_ret (rf_bin (m := true) o_add s_addF (r_lst (a_cons (r_var 3) (a_cons r_int (a_cons r_int a_nil)))) (r_var 1)))))))
/-! ### _law_draw -/
abbrev N__law_draw : List Str := ["box", "many", "mixed", "told"]
theorem nd__law_draw : N__law_draw.Nodup := by decide +kernel
theorem sc__law_draw : FnScope N__law_draw ["box", "many"] (defScope (top 20)) := ⟨rfl, rfl, rfl, nd__law_draw, rfl, by decide +kernel, by decide +kernel⟩
def b__law_draw : SX := (sSeq (sIf (eB eqD (eIxS (eVar 0) (eC (.int 2))) (eC (.int 0)))
  (sSeq (sPutS (eVar 0) (eC (.int 1)) (eBF false addF (eIxS (eVar 0) (eC (.int 1))) (eC (.int 1))))
  (sIf (eB ltD (eBF false addF (eIxS (eVar 0) (eC (.int 1))) (eC (.int 2))) (eLenS (eVar 0)))
  (sPutS (eVar 0) (eC (.int 2)) (eIxS (eVar 0) (eBF false addF (eIxS (eVar 0) (eC (.int 1))) (eC (.int 2))))) (sSeq (sSet 2 (eB modD (eCall intD [(eBF false addF (eBF false addF (eBF false mulF (eIxS (eVar 0) (eC (.int 0))) (eC (.int 48271))) (eBF false mulF (eIxS (eVar 0) (eC (.int 1))) (eC (.int 69621)))) (eC (.int 11)))]) (eC (.int 2147483647))))
  (sSeq (sSet 2 (eB modD (eCall intD [(eBF false addF (eBF false addF (eBF false mulF (eVar 2) (eVar 2)) (eBF false mulF (eIxS (eVar 0) (eC (.int 1))) (eC (.int 40692)))) (eC (.int 3)))]) (eC (.int 2147483399))))
  (sRet (eB modD (eB fdivD (eVar 2) (eC (.int 7))) (eVar 1))))))) sNil)
  (sSeq (sSet 3 (eB modD (eCall intD [(eIxS (eVar 0) (eC (.int 2)))]) (eVar 1)))
  (sSeq (sPutS (eVar 0) (eC (.int 2)) (eB fdivD (eIxS (eVar 0) (eC (.int 2))) (eVar 1)))
  (sRet (eVar 3)))))
noncomputable def m__law_draw : Fn := runQ b__law_draw 4
theorem bd__law_draw (M : Mg P w K mg) : Body P w K mg base k N__law_draw "_law_draw" (defScope (top 20)) (defBody (top 20)) b__law_draw := fun f cd A outer s H E hr =>
  (p_cons (p_if (r_cmpT (o_eq hr.units) s_eq b_eq (r_ixS (hu1 hr) (r_var 0) r_int) r_int rfl)
  (p_cons (p_putS (hu1 hr) (rf_bin (m := false) o_add s_addF (r_ixS (hu1 hr) (r_var 0) r_int) r_int) (r_var 0) r_int)
  (p_one (p_if (r_cmpT op_lt (s_cmpI _) b_cmpI (rf_bin (m := false) o_add s_addF (r_ixS (hu1 hr) (r_var 0) r_int) r_int) (r_lenA M.f_len (a_cons (r_var 0) a_nil)) rfl)
  (p_one (p_putS (hu1 hr) (r_ixS (hu1 hr) (r_var 0) (rf_bin (m := false) o_add s_addF (r_ixS (hu1 hr) (r_var 0) r_int) r_int)) (r_var 0) r_int)) (p_cons (p_set (i := 2) nd__law_draw rfl (by first | exact .inl rfl | exact .inr rfl) (r_bin op_modN s_mod (r_callTy call_int1 s_int M.f_int (by decide +kernel) (a_cons (rf_bin (m := false) o_add s_addF (rf_bin (m := false) o_add s_addF (rf_bin (m := false) o_mul s_mulF (r_ixS (hu1 hr) (r_var 0) r_int) r_int) (rf_bin (m := false) o_mul s_mulF (r_ixS (hu1 hr) (r_var 0) r_int) r_int)) r_int) a_nil)) r_int))
  (p_cons (p_set (i := 2) nd__law_draw rfl (by first | exact .inl rfl | exact .inr rfl) (r_bin op_modN s_mod (r_callTy call_int1 s_int M.f_int (by decide +kernel) (a_cons (rf_bin (m := false) o_add s_addF (rf_bin (m := false) o_add s_addF (rf_bin (m := false) o_mul s_mulF (r_var 2) (r_var 2)) (rf_bin (m := false) o_mul s_mulF (r_ixS (hu1 hr) (r_var 0) r_int) r_int)) r_int) a_nil)) r_int))
  (p_one (p_ret (r_bin op_modN s_mod (r_bin o_fdiv s_fdiv (r_var 2) r_int) (r_var 1))))))))) p_nil)
  (p_cons (p_set (i := 3) nd__law_draw rfl (by first | exact .inl rfl | exact .inr rfl) (r_bin op_modN s_mod (r_callTy call_int1 s_int M.f_int (by decide +kernel) (a_cons (r_ixS (hu1 hr) (r_var 0) r_int) a_nil)) (r_var 1)))
  (p_cons (p_putS (hu1 hr) (r_bin o_fdiv s_fdiv (r_ixS (hu1 hr) (r_var 0) r_int) (r_var 1)) (r_var 0) r_int)
  (p_one (p_ret (r_var 3))))))
/-! ### _law_small -/
abbrev N__law_small : List Str := ["box", "told", "high", "k", "many", "j"]
theorem nd__law_small : N__law_small.Nodup := by decide +kernel
theorem sc__law_small : FnScope N__law_small ["box"] (defScope (top 23)) := ⟨rfl, rfl, rfl, nd__law_small, rfl, by decide +kernel, by decide +kernel⟩
def it__law_small_0 : IX := (iR1 (eVar 4))
def ce__law_small_1 : EX := (eFn m__law_draw [(eVar 0), (eVar 2)])
def it__law_small_2 : IX := (iR1 (eFn m__law_draw [(eVar 0), (eC (.int 11))]))
def g__law_small_3 : SX := (sSeq (sSet 4 (eFn m__law_draw [(eVar 0), (eC (.int 9))]))
  (sSeq (sIf (eAnd (eB gtD (eVar 4) (eC (.int 2))) (eB gtD (eFn m__law_draw [(eVar 0), (eC (.int 3))]) (eC (.int 0))))
  (sSet 4 (eC (.int 2))) sNil)
  (sEx (eMut appF (eVar 1) [(eComp it__law_small_0 (bNm 5) (eC (.bl true)) ce__law_small_1 [5])]))))
def b__law_small : SX := (sSeq (sSet 1 (eLstM []))
  (sSeq (sSet 2 (eBF false addF (eC (.int 1)) (eFn m__law_draw [(eVar 0), (eC (.int 12))])))
  (sSeq (sFor it__law_small_2 (bNm 3)
  g__law_small_3)
  (sSeq (sFr 1) (sRet (eVar 1))))))
noncomputable def m__law_small : Fn := runQ b__law_small 6
theorem bd__law_small (M : Mg P w K mg) (D__law_draw : Df P w K mg base k "_law_draw" 2 m__law_draw) : Body P w K mg base k N__law_small "_law_small" (defScope (top 23)) (defBody (top 23)) b__law_small := fun f cd A outer s H E hr =>
  (p_cons (p_set (i := 1) nd__law_small rfl (by first | exact .inl rfl | exact .inr rfl) (r_lstM a_nil))
  (p_cons (p_set (i := 2) nd__law_small rfl (by first | exact .inl rfl | exact .inr rfl) (rf_bin (m := false) o_add s_addF r_int (r_fn D__law_draw hr tk_cx (a_cons (r_var 0) (a_cons r_int a_nil)))))
  (p_cons (p_for ps_cx rfl (pi_range1 rfl M.f_range (pa_cons (r_fn D__law_draw hr tk_cx (a_cons (r_var 0) (a_cons r_int a_nil))) pa_nil)) ri_r1 (g_nm (i := 3) nd__law_small rfl (by first | exact .inl rfl | exact .inr rfl))
  (p_cons (p_set (i := 4) nd__law_small rfl (by first | exact .inl rfl | exact .inr rfl) (r_fn D__law_draw hr tk_cx (a_cons (r_var 0) (a_cons r_int a_nil))))
  (p_cons (p_if (r_andT (r_cmpT op_gt (s_cmpI _) b_cmpI (r_var 4) r_int rfl) (r_andT1 (r_cmpT op_gt (s_cmpI _) b_cmpI (r_fn D__law_draw hr tk_cx (a_cons (r_var 0) (a_cons r_int a_nil))) r_int rfl))).pt
  (p_one (p_set (i := 4) nd__law_small rfl (by first | exact .inl rfl | exact .inr rfl) r_int)) p_nil)
  (p_one (p_ex (r_mut PySem.F.slot_list_append PySem.F.type_list_append mt_append m_app (r_var 1) (a_cons (r_comp (own := [("j", 5)]) rfl nd__law_small (pi_range1 rfl M.f_range (pa_cons (r_var 4) pa_nil)) ri_r1 rfl (fun s0 H0 C0 cl0 fp0 => (g_nm (i := 5) nd__law_small rfl (by first | exact .inl rfl | exact .inr rfl))) (fun s0 H0 C0 cl0 fp0 => c_nil) (fun s0 H0 C0 cl0 fp0 => (r_fn D__law_draw hr tk0 (a_cons (r_var 0) (a_cons (r_var 2) a_nil))))) a_nil)))))))
  (p_one (p_fr 1 (p_ret (r_var 1)))))))
/-! ### _law_some -/
abbrev N__law_some : List Str := ["box", "total", "many", "rest", "told", "k"]
theorem nd__law_some : N__law_some.Nodup := by decide +kernel
theorem sc__law_some : FnScope N__law_some ["box", "total", "many"] (defScope (top 22)) := ⟨rfl, rfl, rfl, nd__law_some, rfl, by decide +kernel, by decide +kernel⟩
def it__law_some_0 : IX := (iR1 (eVar 2))
def g__law_some_1 : SX := (sEx (eMut appF (eVar 4) [(eMut popAtF (eVar 3) [(eFn m__law_draw [(eVar 0), (eLenS (eVar 3))])])]))
def b__law_some : SX := (sSeq (sSet 3 (eLR1 true (eVar 1)))
  (sSeq (sSet 4 (eLstM []))
  (sSeq (sFor it__law_some_0 (bNm 5)
  g__law_some_1)
  (sSeq (sFr 4) (sRet (eVar 4))))))
noncomputable def m__law_some : Fn := runQ b__law_some 6
theorem bd__law_some (M : Mg P w K mg) (D__law_draw : Df P w K mg base k "_law_draw" 2 m__law_draw) : Body P w K mg base k N__law_some "_law_some" (defScope (top 22)) (defBody (top 22)) b__law_some := fun f cd A outer s H E hr =>
  (p_cons (p_set (i := 3) nd__law_some rfl (by first | exact .inl rfl | exact .inr rfl) (r_lr1 (m := true) rfl M.f_list M.f_range (r_var 1)))
  (p_cons (p_set (i := 4) nd__law_some rfl (by first | exact .inl rfl | exact .inr rfl) (r_lstM a_nil))
  (p_cons (p_for ps_cx rfl (pi_range1 rfl M.f_range (pa_cons (r_var 2) pa_nil)) ri_r1 (g_nm (i := 5) nd__law_some rfl (by first | exact .inl rfl | exact .inr rfl))
  (p_one (p_ex (r_mut PySem.F.slot_list_append PySem.F.type_list_append mt_append m_app (r_var 4) (a_cons (r_mut PySem.F.slot_list_pop PySem.F.type_list_pop mt_popAt m_popAt (r_var 3) (a_cons (r_fn D__law_draw hr tk_cx (a_cons (r_var 0) (a_cons (r_lenA M.f_len (a_cons (r_var 3) a_nil)) a_nil))) a_nil)) a_nil)))))
  (p_one (p_fr 4 (p_ret (r_var 4)))))))
/-! ### _law_paired -/
abbrev N__law_paired : List Str := ["box", "many", "names", "told", "k", "more", "j", "at"]
theorem nd__law_paired : N__law_paired.Nodup := by decide +kernel
theorem sc__law_paired : FnScope N__law_paired ["box", "many"] (defScope (top 24)) := ⟨rfl, rfl, rfl, nd__law_paired, rfl, by decide +kernel, by decide +kernel⟩
def it__law_paired_0 : IX := (iR1 (eFn m__law_draw [(eVar 0), (eC (.int 4))]))
def ce__law_paired_1 : EX := (eFn m__law_draw [(eVar 0), (eC (.int 200))])
def it__law_paired_2 : IX := (iR1 (eVar 1))
def g__law_paired_3 : SX := (sSeq (sSet 5 (eComp it__law_paired_0 (bNm 6) (eC (.bl true)) ce__law_paired_1 [6]))
  (sSeq (sSet 7 (eFn m__law_draw [(eVar 0), (eBF false addF (eLenS (eVar 5)) (eC (.int 1)))]))
  (sEx (eMut appF (eVar 3) [(eBF false addF (eBF false addF (eSlF false (eVar 5) none (some (eVar 7))) (eLst [(eIxS (eVar 2) (eVar 4))])) (eSlF false (eVar 5) (some (eVar 7)) none))]))))
def b__law_paired : SX := (sSeq (sSet 2 (eFn m__law_some [(eVar 0), (eC (.int 200)), (eVar 1)]))
  (sSeq (sSet 3 (eLstM []))
  (sSeq (sFor it__law_paired_2 (bNm 4)
  g__law_paired_3)
  (sSeq (sFr 3) (sRet (eVar 3))))))
noncomputable def m__law_paired : Fn := runQ b__law_paired 8
theorem bd__law_paired (M : Mg P w K mg) (D__law_some : Df P w K mg base k "_law_some" 3 m__law_some) (D__law_draw : Df P w K mg base k "_law_draw" 2 m__law_draw) : Body P w K mg base k N__law_paired "_law_paired" (defScope (top 24)) (defBody (top 24)) b__law_paired := fun f cd A outer s H E hr =>
  (p_cons (p_set (i := 2) nd__law_paired rfl (by first | exact .inl rfl | exact .inr rfl) (r_fn D__law_some hr tk_cx (a_cons (r_var 0) (a_cons r_int (a_cons (r_var 1) a_nil)))))
  (p_cons (p_set (i := 3) nd__law_paired rfl (by first | exact .inl rfl | exact .inr rfl) (r_lstM a_nil))
  (p_cons (p_for ps_cx rfl (pi_range1 rfl M.f_range (pa_cons (r_var 1) pa_nil)) ri_r1 (g_nm (i := 4) nd__law_paired rfl (by first | exact .inl rfl | exact .inr rfl))
  (p_cons (p_setC (i := 5) (own := [("j", 6)]) rfl nd__law_paired rfl rfl rfl (pi_range1 rfl M.f_range (pa_cons (r_fn D__law_draw hr tk_cx (a_cons (r_var 0) (a_cons r_int a_nil))) pa_nil)) ri_r1 rfl (fun s0 H0 C0 cl0 fp0 => (g_nm (i := 6) nd__law_paired rfl (by first | exact .inl rfl | exact .inr rfl))) (fun s0 H0 C0 cl0 fp0 => c_nil) (fun s0 H0 C0 cl0 fp0 => (r_fn D__law_draw hr tk0 (a_cons (r_var 0) (a_cons r_int a_nil)))))
  (p_cons (p_set (i := 7) nd__law_paired rfl (by first | exact .inl rfl | exact .inr rfl) (r_fn D__law_draw hr tk_cx (a_cons (r_var 0) (a_cons (rf_bin (m := false) o_add s_addF (r_lenA M.f_len (a_cons (r_var 5) a_nil)) r_int) a_nil))))
  (p_one (p_ex (r_mut PySem.F.slot_list_append PySem.F.type_list_append mt_append m_app (r_var 3) (a_cons (rf_bin (m := false) o_add s_addF (rf_bin (m := false) o_add s_addF (rf_sl (m := false) (r_var 5) .none (.some (r_var 7))) (r_lst (a_cons (r_ixS (hu1 hr) (r_var 2) (r_var 4)) a_nil))) (rf_sl (m := false) (r_var 5) (.some (r_var 7)) .none)) a_nil)))))))
  (p_one (p_fr 3 (p_ret (r_var 3)))))))
/-! ### _law_roomed -/
abbrev N__law_roomed : List Str := ["box", "rows", "few", "names", "told", "row", "k", "many", "j"]
theorem nd__law_roomed : N__law_roomed.Nodup := by decide +kernel
theorem sc__law_roomed : FnScope N__law_roomed ["box", "rows"] (defScope (top 25)) := ⟨rfl, rfl, rfl, nd__law_roomed, rfl, by decide +kernel, by decide +kernel⟩
def it__law_roomed_0 : IX := (iV seqI (eVar 1))
def ce__law_roomed_1 : EX := (eCallF false listF (eVar 5))
def it__law_roomed_2 : IX := (iR1 (eVar 7))
def ce__law_roomed_3 : EX := (eIxS (eVar 3) (eFn m__law_draw [(eVar 0), (eVar 2)]))
def it__law_roomed_4 : IX := (iV seqI (eFn m__law_some [(eVar 0), (eLenS (eVar 1)), (eBF false addF (eVar 2) (eC (.int 1)))]))
def g__law_roomed_5 : SX := (sSeq (sSet 7 (eCall minD [(eVar 2), (eBF false addF (eC (.int 1)) (eFn m__law_draw [(eVar 0), (eC (.int 4))]))]))
  (sPutS (eVar 4) (eVar 6) (eComp it__law_roomed_2 (bNm 8) (eC (.bl true)) ce__law_roomed_3 [8])))
def b__law_roomed : SX := (sSeq (sSet 2 (eFn m__law_draw [(eVar 0), (eCall minD [(eC (.int 6)), (eLenS (eVar 1))])]))
  (sSeq (sSet 3 (eFn m__law_some [(eVar 0), (eC (.int 200)), (eVar 2)]))
  (sSeq (sSet 4 (eCompM it__law_roomed_0 (bNm 5) (eC (.bl true)) ce__law_roomed_1 [5]))
  (sSeq (sFor it__law_roomed_4 (bNm 6)
  g__law_roomed_5)
  (sSeq (sFr 4) (sRet (eVar 4)))))))
noncomputable def m__law_roomed : Fn := runQ b__law_roomed 9
theorem bd__law_roomed (M : Mg P w K mg) (D__law_draw : Df P w K mg base k "_law_draw" 2 m__law_draw) (D__law_some : Df P w K mg base k "_law_some" 3 m__law_some) : Body P w K mg base k N__law_roomed "_law_roomed" (defScope (top 25)) (defBody (top 25)) b__law_roomed := fun f cd A outer s H E hr =>
  (p_cons (p_set (i := 2) nd__law_roomed rfl (by first | exact .inl rfl | exact .inr rfl) (r_fn D__law_draw hr tk_cx (a_cons (r_var 0) (a_cons (r_callB (call_min2 rfl) s_min M.f_min (by decide +kernel) (a_cons r_int (a_cons (r_lenA M.f_len (a_cons (r_var 1) a_nil)) a_nil))) a_nil))))
  (p_cons (p_set (i := 3) nd__law_roomed rfl (by first | exact .inl rfl | exact .inr rfl) (r_fn D__law_some hr tk_cx (a_cons (r_var 0) (a_cons r_int (a_cons (r_var 2) a_nil)))))
  (p_cons (p_setCM (i := 4) (own := [("row", 5)]) rfl nd__law_roomed rfl rfl rfl (pi_seq (r_var 1)) ri_seq rfl (fun s0 H0 C0 cl0 fp0 => (g_nm (i := 5) nd__law_roomed rfl (by first | exact .inl rfl | exact .inr rfl))) (fun s0 H0 C0 cl0 fp0 => c_nil) (fun s0 H0 C0 cl0 fp0 => (rf_callTy (m := false) call_list_of s_listF M.f_list (by decide +kernel) (a_cons (r_var 5) a_nil))))
  (p_cons (p_for ps_cx rfl (pi_seq (r_fn D__law_some hr tk_cx (a_cons (r_var 0) (a_cons (r_lenA M.f_len (a_cons (r_var 1) a_nil)) (a_cons (rf_bin (m := false) o_add s_addF (r_var 2) r_int) a_nil))))) ri_seq (g_nm (i := 6) nd__law_roomed rfl (by first | exact .inl rfl | exact .inr rfl))
  (p_cons (p_set (i := 7) nd__law_roomed rfl (by first | exact .inl rfl | exact .inr rfl) (r_callB (call_min2 rfl) s_min M.f_min (by decide +kernel) (a_cons (r_var 2) (a_cons (rf_bin (m := false) o_add s_addF r_int (r_fn D__law_draw hr tk_cx (a_cons (r_var 0) (a_cons r_int a_nil)))) a_nil))))
  (p_one (p_putS (hu1 hr) (r_comp (own := [("j", 8)]) rfl nd__law_roomed (pi_range1 rfl M.f_range (pa_cons (r_var 7) pa_nil)) ri_r1 rfl (fun s0 H0 C0 cl0 fp0 => (g_nm (i := 8) nd__law_roomed rfl (by first | exact .inl rfl | exact .inr rfl))) (fun s0 H0 C0 cl0 fp0 => c_nil) (fun s0 H0 C0 cl0 fp0 => (r_ixS (hu1 hr) (r_var 3) (r_fn D__law_draw hr tk0 (a_cons (r_var 0) (a_cons (r_var 2) a_nil)))))) (r_var 4) (r_var 6)))))
  (p_one (p_fr 4 (p_ret (r_var 4))))))))
/-! ### _law_has_room -/
abbrev N__law_has_room : List Str := ["rows", "counts", "k", "x", "unions", "sizes", "row", "mask"]
theorem nd__law_has_room : N__law_has_room.Nodup := by decide +kernel
theorem sc__law_has_room : FnScope N__law_has_room ["rows"] (defScope (top 26)) := ⟨rfl, rfl, rfl, nd__law_has_room, rfl, by decide +kernel, by decide +kernel⟩
def it__law_has_room_0 : IX := (iV seqI (eVar 1))
def ce__law_has_room_1 : EX := (eBF false addF (eVar 3) (eC (.int 1)))
def it__law_has_room_2 : IX := (iR1 (eC (.int 12)))
def g__law_has_room_3 : SX := (sSet 1 (eBF false addF (eVar 1) (eComp it__law_has_room_0 (bNm 3) (eC (.bl true)) ce__law_has_room_1 [3])))
def it__law_has_room_4 : IX := (iV seqI (eVar 6))
def g__law_has_room_5 : SX := (sSet 7 (eB orD (eVar 7) (eB shlD (eC (.int 1)) (eVar 3))))
def it__law_has_room_6 : IX := (iV seqI (eVar 4))
def ce__law_has_room_7 : EX := (eB orD (eVar 3) (eVar 7))
def it__law_has_room_8 : IX := (iV seqI (eVar 5))
def ce__law_has_room_9 : EX := (eBF false addF (eVar 3) (eC (.int 1)))
def it__law_has_room_10 : IX := (iV seqI (eVar 0))
def g__law_has_room_11 : SX := (sSeq (sSet 7 (eC (.int 0)))
  (sSeq (sFor it__law_has_room_4 (bNm 3)
  g__law_has_room_5)
  (sSeq (sSet 4 (eBF false addF (eVar 4) (eComp it__law_has_room_6 (bNm 3) (eC (.bl true)) ce__law_has_room_7 [3])))
  (sSet 5 (eBF false addF (eVar 5) (eComp it__law_has_room_8 (bNm 3) (eC (.bl true)) ce__law_has_room_9 [3]))))))
def it__law_has_room_12 : IX := (iR1 (eLenS (eVar 4)))
def ct__law_has_room_13 : EX := (eB ltD (eIxS (eVar 1) (eIxS (eVar 4) (eVar 2))) (eIxS (eVar 5) (eVar 2)))
def ce__law_has_room_14 : EX := (eVar 2)
def b__law_has_room : SX := (sSeq (sSet 1 (eLst [(eC (.int 0))]))
  (sSeq (sFor it__law_has_room_2 (bNm 2)
  g__law_has_room_3)
  (sSeq (sSet 4 (eLst [(eC (.int 0))]))
  (sSeq (sSet 5 (eLst [(eC (.int 0))]))
  (sSeq (sFor it__law_has_room_10 (bNm 6)
  g__law_has_room_11)
  (sRet (eB gtD (eLenS (eComp it__law_has_room_12 (bNm 2) ct__law_has_room_13 ce__law_has_room_14 [2])) (eC (.int 0)))))))))
noncomputable def m__law_has_room : Fn := runQ b__law_has_room 8
theorem bd__law_has_room (M : Mg P w K mg) : Body P w K mg base k N__law_has_room "_law_has_room" (defScope (top 26)) (defBody (top 26)) b__law_has_room := fun f cd A outer s H E hr =>
  (p_cons (p_set (i := 1) nd__law_has_room rfl (by first | exact .inl rfl | exact .inr rfl) (r_lst (a_cons r_int a_nil)))
  (p_cons (p_for ps_cx rfl (pi_range1 rfl M.f_range (pa_cons r_int pa_nil)) ri_r1 (g_nm (i := 2) nd__law_has_room rfl (by first | exact .inl rfl | exact .inr rfl))
  (p_one (p_set (i := 1) nd__law_has_room rfl (by first | exact .inl rfl | exact .inr rfl) (rf_bin (m := false) o_add s_addF (r_var 1) (r_comp (own := [("x", 3)]) rfl nd__law_has_room (pi_seq (r_var 1)) ri_seq rfl (fun s0 H0 C0 cl0 fp0 => (g_nm (i := 3) nd__law_has_room rfl (by first | exact .inl rfl | exact .inr rfl))) (fun s0 H0 C0 cl0 fp0 => c_nil) (fun s0 H0 C0 cl0 fp0 => (rf_bin (m := false) o_add s_addF (r_var 3) r_int)))))))
  (p_cons (p_set (i := 4) nd__law_has_room rfl (by first | exact .inl rfl | exact .inr rfl) (r_lst (a_cons r_int a_nil)))
  (p_cons (p_set (i := 5) nd__law_has_room rfl (by first | exact .inl rfl | exact .inr rfl) (r_lst (a_cons r_int a_nil)))
  (p_cons (p_for ps_cx rfl (pi_seq (r_var 0)) ri_seq (g_nm (i := 6) nd__law_has_room rfl (by first | exact .inl rfl | exact .inr rfl))
  (p_cons (p_set (i := 7) nd__law_has_room rfl (by first | exact .inl rfl | exact .inr rfl) r_int)
  (p_cons (p_for ps_cx rfl (pi_seq (r_var 6)) ri_seq (g_nm (i := 3) nd__law_has_room rfl (by first | exact .inl rfl | exact .inr rfl))
  (p_one (p_set (i := 7) nd__law_has_room rfl (by first | exact .inl rfl | exact .inr rfl) (r_bin op_or s_or (r_var 7) (r_bin op_shl s_shl r_int (r_var 3))))))
  (p_cons (p_set (i := 4) nd__law_has_room rfl (by first | exact .inl rfl | exact .inr rfl) (rf_bin (m := false) o_add s_addF (r_var 4) (r_comp (own := [("x", 3)]) rfl nd__law_has_room (pi_seq (r_var 4)) ri_seq rfl (fun s0 H0 C0 cl0 fp0 => (g_nm (i := 3) nd__law_has_room rfl (by first | exact .inl rfl | exact .inr rfl))) (fun s0 H0 C0 cl0 fp0 => c_nil) (fun s0 H0 C0 cl0 fp0 => (r_bin op_or s_or (r_var 3) (r_var 7))))))
  (p_one (p_set (i := 5) nd__law_has_room rfl (by first | exact .inl rfl | exact .inr rfl) (rf_bin (m := false) o_add s_addF (r_var 5) (r_comp (own := [("x", 3)]) rfl nd__law_has_room (pi_seq (r_var 5)) ri_seq rfl (fun s0 H0 C0 cl0 fp0 => (g_nm (i := 3) nd__law_has_room rfl (by first | exact .inl rfl | exact .inr rfl))) (fun s0 H0 C0 cl0 fp0 => c_nil) (fun s0 H0 C0 cl0 fp0 => (rf_bin (m := false) o_add s_addF (r_var 3) r_int))))))))))
  (p_one (p_ret (r_cmp op_gt (s_cmpI _) (r_lenA M.f_len (a_cons (r_comp (own := [("k", 2)]) rfl nd__law_has_room (pi_range1 rfl M.f_range (pa_cons (r_lenA M.f_len (a_cons (r_var 4) a_nil)) pa_nil)) ri_r1 rfl (fun s0 H0 C0 cl0 fp0 => (g_nm (i := 2) nd__law_has_room rfl (by first | exact .inl rfl | exact .inr rfl))) (fun s0 H0 C0 cl0 fp0 => (c_one (r_cmpT op_lt (s_cmpI _) b_cmpI (r_ixS (hu1 hr) (r_var 1) (r_ixS (hu1 hr) (r_var 4) (r_var 2))) (r_ixS (hu1 hr) (r_var 5) (r_var 2)) rfl))) (fun s0 H0 C0 cl0 fp0 => (r_var 2))) a_nil)) r_int rfl))))))))
/-! ### _law_same -/
abbrev N__law_same : List Str := ["told", "due", "a", "b"]
theorem nd__law_same : N__law_same.Nodup := by decide +kernel
theorem sc__law_same : FnScope N__law_same ["told", "due"] (defScope (top 21)) := ⟨rfl, rfl, rfl, nd__law_same, rfl, by decide +kernel, by decide +kernel⟩
def it__law_same_0 (m : Fn) : IX := (iZ (eVar 0) (eVar 1))
def ce__law_same_1 (m : Fn) : EX := (eFn m [(eVar 2), (eVar 3)])
def b__law_same (m : Fn) : SX := (sSeq (sIf (eB isM (eVar 1) (eC .non))
  (sRet (eB isM (eVar 0) (eC .non))) sNil)
  (sSeq (sIf (eB isM (eVar 1) (eC (.bl true)))
  (sRet (eB isM (eVar 0) (eC (.bl true)))) sNil)
  (sSeq (sIf (eB isM (eVar 1) (eC (.bl false)))
  (sRet (eB isM (eVar 0) (eC (.bl false)))) sNil)
  (sSeq (sIf (eIsT "int" (eVar 1))
  (sRet (eAnd (eIsT "int" (eVar 0)) (eAnd (eNot (eIsT "bool" (eVar 0))) (eBs 3 eqD (eVar 0) (eVar 1))))) sNil)
  (sSeq (sIf (eIsT "str" (eVar 1))
  (sRet (eAnd (eIsT "str" (eVar 0)) (eBs 3 eqD (eVar 0) (eVar 1)))) sNil)
  (sSeq (sIf (eIsT "list" (eVar 1))
  (sIf (eOr (eNot (eIsT "list" (eVar 0))) (eB neD (eLenS (eVar 0)) (eLenS (eVar 1))))
  (sRet (eC (.bl false))) sNil) (sIf (eOr (eNot (eIsT "tuple" (eVar 0))) (eB neD (eLenS (eVar 0)) (eLenS (eVar 1))))
  (sRet (eC (.bl false))) sNil))
  (sRet (eCall allD [(eComp (it__law_same_0 m) (bTp [(bNm 2), (bNm 3)]) (eC (.bl true)) (ce__law_same_1 m) [2, 3])]))))))))
def m__law_same : Nat → Fn
  | 0 => fun _ _ => .stuck
  | n + 1 => runS (b__law_same (m__law_same n)) 4
theorem bd__law_same {m : Fn} (M : Mg P w K mg) (D__law_same : Df P w K mg base k "_law_same" 2 m) : Body P w K mg base k N__law_same "_law_same" (defScope (top 21)) (defBody (top 21)) (b__law_same m) := fun f cd A outer s H E hr =>
  (p_cons (p_if (r_cmpT o_isM s_isM b_isM (r_var 1) r_non rfl)
  (p_one (p_ret (r_cmp o_isM s_isM (r_var 0) r_non rfl))) p_nil)
  (p_cons (p_if (r_cmpT o_isM s_isM b_isM (r_var 1) r_bl rfl)
  (p_one (p_ret (r_cmp o_isM s_isM (r_var 0) r_bl rfl))) p_nil)
  (p_cons (p_if (r_cmpT o_isM s_isM b_isM (r_var 1) r_bl rfl)
  (p_one (p_ret (r_cmp o_isM s_isM (r_var 0) r_bl rfl))) p_nil)
  (p_cons (p_if (r_tru (r_isT (r_var 1) M.f_isinstance M.f_int (by decide +kernel)))
  (p_one (p_ret (r_and (r_isT (r_var 0) M.f_isinstance M.f_int (by decide +kernel)) (r_and (r_not (r_isT (r_var 0) M.f_isinstance M.f_bool (by decide +kernel))) (r_one (rs_cmp (n := 3) (o_eq hr.units) s_eq (r_var 0) (r_var 1) rfl)))))) p_nil)
  (p_cons (p_if (r_tru (r_isT (r_var 1) M.f_isinstance M.f_str (by decide +kernel)))
  (p_one (p_ret (r_and (r_isT (r_var 0) M.f_isinstance M.f_str (by decide +kernel)) (r_one (rs_cmp (n := 3) (o_eq hr.units) s_eq (r_var 0) (r_var 1) rfl))))) p_nil)
  (p_cons (p_if (r_tru (r_isT (r_var 1) M.f_isinstance M.f_list (by decide +kernel)))
  (p_one (p_if (r_orT (r_notT (r_tru (r_isT (r_var 0) M.f_isinstance M.f_list (by decide +kernel)))) (r_orT1 (r_cmpT (o_ne hr.units) s_ne b_ne (r_lenA M.f_len (a_cons (r_var 0) a_nil)) (r_lenA M.f_len (a_cons (r_var 1) a_nil)) rfl))).pt
  (p_one (p_ret r_bl)) p_nil)) (p_one (p_if (r_orT (r_notT (r_tru (r_isT (r_var 0) M.f_isinstance M.f_tuple (by decide +kernel)))) (r_orT1 (r_cmpT (o_ne hr.units) s_ne b_ne (r_lenA M.f_len (a_cons (r_var 0) a_nil)) (r_lenA M.f_len (a_cons (r_var 1) a_nil)) rfl))).pt
  (p_one (p_ret r_bl)) p_nil)))
  (p_one (p_ret (r_callB (cr_all rfl) s_all M.f_all (by decide +kernel) (a_cons (r_comp (own := [("a", 2), ("b", 3)]) rfl nd__law_same (RZ.pi_zipA rfl M.f_zip (pa_cons (r_var 0) (pa_cons (r_var 1) pa_nil))) ri_zip rfl (fun s0 H0 C0 cl0 fp0 => (g_tp rfl (gs_cons (g_nm (i := 2) nd__law_same rfl (by first | exact .inl rfl | exact .inr rfl)) (gs_cons (g_nm (i := 3) nd__law_same rfl (by first | exact .inl rfl | exact .inr rfl)) gs_nil)))) (fun s0 H0 C0 cl0 fp0 => c_nil) (fun s0 H0 C0 cl0 fp0 => (r_fn D__law_same hr tk0 (a_cons (r_var 2) (a_cons (r_var 3) a_nil))))) a_nil))))))))))
/-! ### look_size -/
abbrev N_look_size : List Str := ["row", "low", "high", "count"]
theorem nd_look_size : N_look_size.Nodup := by decide +kernel
theorem sc_look_size : FnScope N_look_size ["row", "low", "high"] (defScope (top 10)) := ⟨rfl, rfl, rfl, nd_look_size, rfl, by decide +kernel, by decide +kernel⟩
def b_look_size : SX := (sSeq (sSet 3 (eLenS (eVar 0)))
  (sIf (eOr (eB ltD (eVar 3) (eVar 1)) (eB gtD (eVar 3) (eVar 2)))
  (sRaise "SizeError" ["count"] [(eVar 3)]) sNil))
noncomputable def m_look_size : Fn := runQ b_look_size 4
theorem bd_look_size (M : Mg P w K mg) : Body P w K mg base k N_look_size "look_size" (defScope (top 10)) (defBody (top 10)) b_look_size := fun f cd A outer s H E hr =>
  (p_cons (p_set (i := 3) nd_look_size rfl (by first | exact .inl rfl | exact .inr rfl) (r_lenA M.f_len (a_cons (r_var 0) a_nil)))
  (p_one (p_if (r_orT (r_cmpT op_lt (s_cmpI _) b_cmpI (r_var 3) (r_var 1) rfl) (r_orT1 (r_cmpT op_gt (s_cmpI _) b_cmpI (r_var 3) (r_var 2) rfl))).pt
  (p_one (p_raise rfl tk_cx M.x_SizeError xb_SizeError hr (a_cons (r_var 3) a_nil))) p_nil)))
/-! ### look_number -/
abbrev N_look_number : List Str := ["number", "low", "high"]
theorem nd_look_number : N_look_number.Nodup := by decide +kernel
theorem sc_look_number : FnScope N_look_number ["number", "low", "high"] (defScope (top 8)) := ⟨rfl, rfl, rfl, nd_look_number, rfl, by decide +kernel, by decide +kernel⟩
def b_look_number : SX := (sIf (eOr (eB ltD (eVar 0) (eVar 1)) (eB gtD (eVar 0) (eVar 2)))
  (sRaise "NumberError" ["number"] [(eVar 0)]) sNil)
noncomputable def m_look_number : Fn := runQ b_look_number 3
theorem bd_look_number (M : Mg P w K mg) : Body P w K mg base k N_look_number "look_number" (defScope (top 8)) (defBody (top 8)) b_look_number := fun f cd A outer s H E hr =>
  (p_one (p_if (r_orT (r_cmpT op_lt (s_cmpI _) b_cmpI (r_var 0) (r_var 1) rfl) (r_orT1 (r_cmpT op_gt (s_cmpI _) b_cmpI (r_var 0) (r_var 2) rfl))).pt
  (p_one (p_raise rfl tk_cx M.x_NumberError xb_NumberError hr (a_cons (r_var 0) a_nil))) p_nil))
/-! ### look_numbers -/
abbrev N_look_numbers : List Str := ["row", "low", "high", "number"]
theorem nd_look_numbers : N_look_numbers.Nodup := by decide +kernel
theorem sc_look_numbers : FnScope N_look_numbers ["row", "low", "high"] (defScope (top 9)) := ⟨rfl, rfl, rfl, nd_look_numbers, rfl, by decide +kernel, by decide +kernel⟩
def it_look_numbers_0 : EX := (eVar 0)
def g_look_numbers_1 : SX := (sEx (eFn m_look_number [(eVar 3), (eVar 1), (eVar 2)]))
def b_look_numbers : SX := (sForS it_look_numbers_0 (bNm 3)
  g_look_numbers_1)
noncomputable def m_look_numbers : Fn := runQ b_look_numbers 4
theorem bd_look_numbers (M : Mg P w K mg) (D_look_number : Df P w K mg base k "look_number" 3 m_look_number) : Body P w K mg base k N_look_numbers "look_numbers" (defScope (top 9)) (defBody (top 9)) b_look_numbers := fun f cd A outer s H E hr =>
  (p_one (p_forS ps_cx rfl (r_var 0) (g_nm (i := 3) nd_look_numbers rfl (by first | exact .inl rfl | exact .inr rfl))
  (p_one (p_ex (r_fn D_look_number hr tk_cx (a_cons (r_var 3) (a_cons (r_var 1) (a_cons (r_var 2) a_nil))))))))
/-! ### _pass_on -/
abbrev N__pass_on : List Str := ["chosen", "owners", "sources", "number", "given", "source", "before"]
theorem nd__pass_on : N__pass_on.Nodup := by decide +kernel
theorem sc__pass_on : FnScope N__pass_on ["chosen", "owners", "sources", "number"] (defScope (top 17)) := ⟨rfl, rfl, rfl, nd__pass_on, rfl, by decide +kernel, by decide +kernel⟩
def wt__pass_on_0 : EX := (eBs 3 neD (eVar 4) (eC dc_FREE))
def g__pass_on_1 : SX := (sSeq (sSet 5 (eIxS (eVar 2) (eVar 4)))
  (sSeq (sSet 6 (eIxS (eVar 0) (eVar 5)))
  (sSeq (sPutS (eVar 0) (eVar 5) (eVar 4))
  (sSeq (sPutS (eVar 1) (eVar 4) (eVar 5))
  (sSet 4 (eVar 6))))))
def b__pass_on : SX := (sSeq (sSet 4 (eVar 3))
  (sWhile (2 ^ 70) wt__pass_on_0 g__pass_on_1))
noncomputable def m__pass_on : Fn := runQ b__pass_on 7
theorem bd__pass_on (M : Mg P w K mg) : Body P w K mg base k N__pass_on "_pass_on" (defScope (top 17)) (defBody (top 17)) b__pass_on := fun f cd A outer s H E hr =>
  (p_cons (p_set (i := 4) nd__pass_on rfl (by first | exact .inl rfl | exact .inr rfl) (r_var 3))
  (p_one (p_while (2 ^ 70) ps_cx (rs_cmpT (n := 3) (o_ne hr.units) s_ne b_ne (r_var 4) (r_glob M.c_FREE) rfl)
  (p_cons (p_set (i := 5) nd__pass_on rfl (by first | exact .inl rfl | exact .inr rfl) (r_ixS (hu1 hr) (r_var 2) (r_var 4)))
  (p_cons (p_set (i := 6) nd__pass_on rfl (by first | exact .inl rfl | exact .inr rfl) (r_ixS (hu1 hr) (r_var 0) (r_var 5)))
  (p_cons (p_putS (hu1 hr) (r_var 4) (r_var 0) (r_var 5))
  (p_cons (p_putS (hu1 hr) (r_var 5) (r_var 1) (r_var 4))
  (p_one (p_set (i := 4) nd__pass_on rfl (by first | exact .inl rfl | exact .inr rfl) (r_var 6))))))))))
/-! ### _choose -/
abbrev N__choose : List Str := ["choices", "chosen", "owners", "index", "met", "sources", "at", "source", "number"]
theorem nd__choose : N__choose.Nodup := by decide +kernel
theorem sc__choose : FnScope N__choose ["choices", "chosen", "owners", "index"] (defScope (top 16)) := ⟨rfl, rfl, rfl, nd__choose, rfl, by decide +kernel, by decide +kernel⟩
def it__choose_0 : EX := (eIxS (eVar 0) (eVar 7))
def g__choose_1 : SX := (sSeq (sIf (eInA 3 (eVar 8) (eVar 5))
  sCt sNil)
  (sSeq (sPutS (eVar 5) (eVar 8) (eVar 7))
  (sSeq (sIf (eNinA 3 (eVar 8) (eVar 2))
  (sSeq (sEx (eFn m__pass_on [(eVar 1), (eVar 2), (eVar 5), (eVar 8)]))
  (sRet (eC .non))) sNil)
  (sEx (eMut appF (eVar 4) [(eIxS (eVar 2) (eVar 8))])))))
def wt__choose_2 : EX := (eB ltD (eVar 6) (eLenS (eVar 4)))
def g__choose_3 : SX := (sSeq (sSet 7 (eIxS (eVar 4) (eVar 6)))
  (sSeq (sAug 6 (ipD (fun i j => i + j)) (eC (.int 1)))
  (sForS it__choose_0 (bNm 8)
  g__choose_1)))
def b__choose : SX := (sSeq (sSet 4 (eLstM [(eVar 3)]))
  (sSeq (sSet 5 eDct0)
  (sSeq (sSet 6 (eC (.int 0)))
  (sSeq (sWhile (2 ^ 70) wt__choose_2 g__choose_3)
  (sRet (eCallF false tupleF (eCallF false sortedF (eVar 4))))))))
noncomputable def m__choose : Fn := runQ b__choose 9
theorem bd__choose (M : Mg P w K mg) (D__pass_on : Df P w K mg base k "_pass_on" 4 m__pass_on) : Body P w K mg base k N__choose "_choose" (defScope (top 16)) (defBody (top 16)) b__choose := fun f cd A outer s H E hr =>
  (p_cons (p_set (i := 4) nd__choose rfl (by first | exact .inl rfl | exact .inr rfl) (r_lstM (a_cons (r_var 3) a_nil)))
  (p_cons (p_set (i := 5) nd__choose rfl (by first | exact .inl rfl | exact .inr rfl) r_dct0)
  (p_cons (p_set (i := 6) nd__choose rfl (by first | exact .inl rfl | exact .inr rfl) r_int)
  (p_cons (p_while (2 ^ 70) ps_cx (r_cmpT op_lt (s_cmpI _) b_cmpI (r_var 6) (r_lenA M.f_len (a_cons (r_var 4) a_nil)) rfl)
  (p_cons (p_set (i := 7) nd__choose rfl (by first | exact .inl rfl | exact .inr rfl) (r_ixS (hu1 hr) (r_var 4) (r_var 6)))
  (p_cons (p_aug (i := 6) ip_add s_ip nd__choose rfl (by first | exact .inl rfl | exact .inr rfl) r_int)
  (p_one (p_forS ps_cx rfl (r_ixS (hu1 hr) (r_var 0) (r_var 7)) (g_nm (i := 8) nd__choose rfl (by first | exact .inl rfl | exact .inr rfl))
  (p_cons (p_if (r_inAT (n := 3) (hu65 hr) (r_var 8) (r_var 5))
  (p_one p_ct) p_nil)
  (p_cons (p_putS (hu1 hr) (r_var 7) (r_var 5) (r_var 8))
  (p_cons (p_if (r_ninAT (n := 3) (hu65 hr) (r_var 8) (r_var 2))
  (p_cons (p_ex (r_fn D__pass_on hr tk_cx (a_cons (r_var 1) (a_cons (r_var 2) (a_cons (r_var 5) (a_cons (r_var 8) a_nil))))))
  (p_one (p_ret r_non))) p_nil)
  (p_one (p_ex (r_mut PySem.F.slot_list_append PySem.F.type_list_append mt_append m_app (r_var 4) (a_cons (r_ixS (hu1 hr) (r_var 2) (r_var 8)) a_nil))))))))))))
  (p_one (p_ret (rf_callTy (m := false) call_tupB s_tupleF M.f_tuple (by decide +kernel) (a_cons (rf_callB (m := false) cr_sortedI s_sortedF M.f_sorted (by decide +kernel) (a_cons (r_var 4) a_nil)) a_nil))))))))
/-! ### pairing -/
abbrev N_pairing : List Str := ["choices", "choice", "chosen", "owners", "index", "room"]
theorem nd_pairing : N_pairing.Nodup := by decide +kernel
theorem sc_pairing : FnScope N_pairing ["choices"] (defScope (top 15)) := ⟨rfl, rfl, rfl, nd_pairing, rfl, by decide +kernel, by decide +kernel⟩
def it_pairing_0 : IX := (iV seqI (eVar 0))
def g_pairing_1 : SX := (sSeq (sEx (eFn m_look_size [(eVar 1), (eC (.int 0)), (eC dc_MOST_CHOICES)]))
  (sEx (eFn m_look_numbers [(eVar 1), (eC (.int 0)), (eC dc_GREATEST_CHOICE)])))
def it_pairing_2 : IX := (iR1 (eLenS (eVar 0)))
def g_pairing_3 : SX := (sSeq (sSet 5 (eFn m__choose [(eVar 0), (eVar 2), (eVar 3), (eVar 4)]))
  (sIf (eB isntD (eVar 5) (eC .non))
  (sRet (eTup [(eC (.str "room")), (eVar 5)])) sNil))
def b_pairing : SX := (sSeq (sEx (eFn m_look_size [(eVar 0), (eC (.int 0)), (eC dc_MOST_CHOICES)]))
  (sSeq (sFor it_pairing_0 (bNm 1)
  g_pairing_1)
  (sSeq (sSet 2 (eBF true mulF (eLst [(eC dc_FREE)]) (eLenS (eVar 0))))
  (sSeq (sSet 3 eDct0)
  (sSeq (sFor it_pairing_2 (bNm 4)
  g_pairing_3)
  (sRet (eTup [(eC (.str "pairs")), (eCallF false tupleF (eVar 2))])))))))
noncomputable def m_pairing : Fn := runQ b_pairing 6
theorem bd_pairing (M : Mg P w K mg) (D_look_size : Df P w K mg base k "look_size" 3 m_look_size) (D_look_numbers : Df P w K mg base k "look_numbers" 3 m_look_numbers) (D__choose : Df P w K mg base k "_choose" 4 m__choose) : Body P w K mg base k N_pairing "pairing" (defScope (top 15)) (defBody (top 15)) b_pairing := fun f cd A outer s H E hr =>
  (p_cons (p_ex (r_fn D_look_size hr tk_cx (a_cons (r_var 0) (a_cons r_int (a_cons (r_glob M.c_MOST_CHOICES) a_nil)))))
  (p_cons (p_for ps_cx rfl (pi_seq (r_var 0)) ri_seq (g_nm (i := 1) nd_pairing rfl (by first | exact .inl rfl | exact .inr rfl))
  (p_cons (p_ex (r_fn D_look_size hr tk_cx (a_cons (r_var 1) (a_cons r_int (a_cons (r_glob M.c_MOST_CHOICES) a_nil)))))
  (p_one (p_ex (r_fn D_look_numbers hr tk_cx (a_cons (r_var 1) (a_cons r_int (a_cons (r_glob M.c_GREATEST_CHOICE) a_nil))))))))
  (p_cons (p_set (i := 2) nd_pairing rfl (by first | exact .inl rfl | exact .inr rfl) (rf_bin (m := true) o_mul s_mulF (r_lst (a_cons (r_glob M.c_FREE) a_nil)) (r_lenA M.f_len (a_cons (r_var 0) a_nil))))
  (p_cons (p_set (i := 3) nd_pairing rfl (by first | exact .inl rfl | exact .inr rfl) r_dct0)
  (p_cons (p_for ps_cx rfl (pi_range1 rfl M.f_range (pa_cons (r_lenA M.f_len (a_cons (r_var 0) a_nil)) pa_nil)) ri_r1 (g_nm (i := 4) nd_pairing rfl (by first | exact .inl rfl | exact .inr rfl))
  (p_cons (p_set (i := 5) nd_pairing rfl (by first | exact .inl rfl | exact .inr rfl) (r_fn D__choose hr tk_cx (a_cons (r_var 0) (a_cons (r_var 2) (a_cons (r_var 3) (a_cons (r_var 4) a_nil))))))
  (p_one (p_if (r_cmpT op_notN s_isnt b_isnt (r_var 5) r_non rfl)
  (p_one (p_ret (r_tup (a_cons r_str (a_cons (r_var 5) a_nil))))) p_nil))))
  (p_one (p_ret (r_tup (a_cons r_str (a_cons (rf_callTy (m := false) call_tupB s_tupleF M.f_tuple (by decide +kernel) (a_cons (r_var 2) a_nil)) a_nil))))))))))
/-! ### _law_told -/
abbrev N__law_told : List Str := ["rows", "told", "e", "clear"]
theorem nd__law_told : N__law_told.Nodup := by decide +kernel
theorem sc__law_told : FnScope N__law_told ["rows"] (defScope (top 27)) := ⟨rfl, rfl, rfl, nd__law_told, rfl, by decide +kernel, by decide +kernel⟩
def tb__law_told_0 : SX := (sSet 1 (eFn m_pairing [(eVar 0)]))
def hd__law_told_1 : SX := (sSeq (sSet 3 (eAnd (eIsE 2 (isX xs "MadeError")) (eNot (eIsE 2 (isXT xs ist_0)))))
  (sRet (eTup [(eC (.str "size")), (eXf 2 "count" xf_count), (eVar 3)])))
def hd__law_told_2 : SX := (sSeq (sSet 3 (eAnd (eIsE 2 (isX xs "MadeError")) (eNot (eIsE 2 (isXT xs ist_1)))))
  (sRet (eTup [(eC (.str "number")), (eXf 2 "number" xf_number), (eVar 3)])))
def b__law_told : SX := (sSeq (sTryZ tb__law_told_0 [⟨2, isX xs "SizeError", hd__law_told_1⟩, ⟨2, isX xs "NumberError", hd__law_told_2⟩])
  (sRet (eTup [(eC (.str "told")), (eVar 1)])))
noncomputable def m__law_told : Fn := runQ b__law_told 4
theorem bd__law_told (M : Mg P w K mg) (D_pairing : Df P w K mg base k "pairing" 1 m_pairing) : Body P w K mg base k N__law_told "_law_told" (defScope (top 27)) (defBody (top 27)) b__law_told := fun f cd A outer s H E hr =>
  (p_cons (p_tryZ rfl rfl nd__law_told tk_cx (fun W0 pn0 xe0 htk hpo => (p_one (p_set (i := 1) nd__law_told rfl (by first | exact .inl rfl | exact .inr rfl) (r_fn D_pairing hr htk (a_cons (r_var 0) a_nil))))) (.cons rfl rfl ⟨rfl, by decide, (.inl M.gc_SizeError)⟩ M.te_SizeError (fun a0 oe0 cl0 d0 pn0 ho => (p_cons (p_set (i := 3) nd__law_told rfl (by first | exact .inl rfl | exact .inr rfl) (r_and (r_isE ho M.is_MadeError M.gc_MadeError M.f_isinstance) (r_one (r_not (r_isET (cs := clsV K ist_0) ho M.ist_0 (clsV_pair K ist_0) (by show ist_0.length ≤ _; decide) (pa_cons (pe_glob (v := .ref _) rfl M.gc_NumberError rfl (by decide)) (pa_cons (pe_glob (v := .ref _) rfl M.gc_PlaceError rfl (by decide)) (pa_cons (pe_glob (v := .ref _) rfl M.gc_TooLarge rfl (by decide)) pa_nil))) (fun _ _ _ h => h) M.f_isinstance)))))
  (p_one (p_ret (r_tup (a_cons r_str (a_cons (r_xf ho M.xf_count) (a_cons (r_var 3) a_nil)))))))) (.cons rfl rfl ⟨rfl, by decide, (.inl M.gc_NumberError)⟩ M.te_NumberError (fun a0 oe0 cl0 d0 pn0 ho => (p_cons (p_set (i := 3) nd__law_told rfl (by first | exact .inl rfl | exact .inr rfl) (r_and (r_isE ho M.is_MadeError M.gc_MadeError M.f_isinstance) (r_one (r_not (r_isET (cs := clsV K ist_1) ho M.ist_1 (clsV_pair K ist_1) (by show ist_1.length ≤ _; decide) (pa_cons (pe_glob (v := .ref _) rfl M.gc_SizeError rfl (by decide)) (pa_cons (pe_glob (v := .ref _) rfl M.gc_PlaceError rfl (by decide)) (pa_cons (pe_glob (v := .ref _) rfl M.gc_SameError rfl (by decide)) pa_nil))) (fun _ _ _ h => h) M.f_isinstance)))))
  (p_one (p_ret (r_tup (a_cons r_str (a_cons (r_xf ho M.xf_number) (a_cons (r_var 3) a_nil)))))))) .nil)))
  (p_one (p_ret (r_tup (a_cons r_str (a_cons (r_var 1) a_nil))))))
/-! ### _law_refused -/
abbrev N__law_refused : List Str := ["box", "rows", "wrong", "row", "i", "k", "odd", "at", "due", "bad", "x", "j"]
theorem nd__law_refused : N__law_refused.Nodup := by decide +kernel
theorem sc__law_refused : FnScope N__law_refused ["box", "rows"] (defScope (top 31)) := ⟨rfl, rfl, rfl, nd__law_refused, rfl, by decide +kernel, by decide +kernel⟩
def it__law_refused_0 : IX := (iV seqI (eVar 1))
def ce__law_refused_1 : EX := (eCallF false listF (eVar 3))
def it__law_refused_2 : IX := (iV seqI (eVar 3))
def ct__law_refused_3 : EX := (eOr (eB ltD (eVar 10) (eC (.int 0))) (eB gtD (eVar 10) (eC (.int 199))))
def ce__law_refused_4 : EX := (eVar 10)
def it__law_refused_5 : IX := (iV seqI (eVar 2))
def g__law_refused_6 : SX := (sSeq (sSet 9 (eComp it__law_refused_2 (bNm 10) ct__law_refused_3 ce__law_refused_4 [10]))
  (sSeq (sIf (eAnd (eBs 3 eqD (eVar 8) (eTup [])) (eB gtD (eLenS (eVar 3)) (eC (.int 40))))
  (sSet 8 (eTup [(eC (.str "size")), (eLenS (eVar 3)), (eC (.bl true))])) sNil)
  (sIf (eAnd (eBs 3 eqD (eVar 8) (eTup [])) (eBs 3 neD (eVar 9) (eLst [])))
  (sSet 8 (eTup [(eC (.str "number")), (eIxS (eVar 9) (eC (.int 0))), (eC (.bl true))])) sNil)))
def it__law_refused_7 : IX := (iR1 (eB subD (eC (.int 41)) (eLenS (eVar 2))))
def ce__law_refused_8 : EX := (eLst [(eC (.int 0))])
def b__law_refused : SX := (sSeq (sSet 2 (eBF true addF (eComp it__law_refused_0 (bNm 3) (eC (.bl true)) ce__law_refused_1 [3]) (eLst [(eLst [(eC (.int 0))])])))
  (sSeq (sSet 4 (eFn m__law_draw [(eVar 0), (eLenS (eVar 2))]))
  (sSeq (sSet 5 (eFn m__law_draw [(eVar 0), (eLenS (eVar 2))]))
  (sSeq (sSet 6 (eIxS (eLst [(e1 negD (eC (.int 1))), (eC (.int 200)), (eBF false addF (eC (.int 200)) (eVar 5)), (e1 negD (eB powM (eC (.int 10)) (eC (.int 60)))), (eB powM (eC (.int 10)) (eC (.int 60)))]) (eFn m__law_draw [(eVar 0), (eC (.int 5))])))
  (sSeq (sSet 7 (eFn m__law_draw [(eVar 0), (eBF false addF (eLenS (eIxS (eVar 2) (eVar 4))) (eC (.int 1)))]))
  (sSeq (sPutS (eVar 2) (eVar 4) (eBF false addF (eBF false addF (eSlF false (eIxS (eVar 2) (eVar 4)) none (some (eVar 7))) (eLst [(eVar 6)])) (eSlF false (eIxS (eVar 2) (eVar 4)) (some (eVar 7)) none)))
  (sSeq (sIf (eB eqD (eFn m__law_draw [(eVar 0), (eC (.int 2))]) (eC (.int 1)))
  (sPutS (eVar 2) (eVar 5) (eBF false addF (eIxS (eVar 2) (eVar 5)) (eBF false mulF (eLst [(eC (.int 7))]) (eC (.int 41))))) sNil)
  (sSeq (sSet 8 (eTup []))
  (sSeq (sSeq (sFr 2) (sFor it__law_refused_5 (bNm 3)
  g__law_refused_6))
  (sSeq (sIf (eB eqD (eFn m__law_draw [(eVar 0), (eC (.int 4))]) (eC (.int 0)))
  (sSet 2 (eBF true addF (eVar 2) (eComp it__law_refused_7 (bNm 11) (eC (.bl true)) ce__law_refused_8 [11]))) sNil)
  (sSeq (sIf (eB gtD (eLenS (eVar 2)) (eC (.int 40)))
  (sSet 8 (eTup [(eC (.str "size")), (eLenS (eVar 2)), (eC (.bl true))])) sNil)
  (sSeq (sFr 2) (sRet (eFn (m__law_same 4) [(eFn m__law_told [(eVar 2)]), (eVar 8)]))))))))))))))
noncomputable def m__law_refused : Fn := runQ b__law_refused 12
theorem bd__law_refused (M : Mg P w K mg) (D__law_draw : Df P w K mg base k "_law_draw" 2 m__law_draw) (D__law_same : Df P w K mg base k "_law_same" 2 (m__law_same 4)) (D__law_told : Df P w K mg base k "_law_told" 1 m__law_told) : Body P w K mg base k N__law_refused "_law_refused" (defScope (top 31)) (defBody (top 31)) b__law_refused := fun f cd A outer s H E hr =>
  (p_cons (p_set (i := 2) nd__law_refused rfl (by first | exact .inl rfl | exact .inr rfl) (rf_bin (m := true) o_add s_addF (r_comp (own := [("row", 3)]) rfl nd__law_refused (pi_seq (r_var 1)) ri_seq rfl (fun s0 H0 C0 cl0 fp0 => (g_nm (i := 3) nd__law_refused rfl (by first | exact .inl rfl | exact .inr rfl))) (fun s0 H0 C0 cl0 fp0 => c_nil) (fun s0 H0 C0 cl0 fp0 => (rf_callTy (m := false) call_list_of s_listF M.f_list (by decide +kernel) (a_cons (r_var 3) a_nil)))) (r_lst (a_cons (r_lst (a_cons r_int a_nil)) a_nil))))
  (p_cons (p_set (i := 4) nd__law_refused rfl (by first | exact .inl rfl | exact .inr rfl) (r_fn D__law_draw hr tk_cx (a_cons (r_var 0) (a_cons (r_lenA M.f_len (a_cons (r_var 2) a_nil)) a_nil))))
  (p_cons (p_set (i := 5) nd__law_refused rfl (by first | exact .inl rfl | exact .inr rfl) (r_fn D__law_draw hr tk_cx (a_cons (r_var 0) (a_cons (r_lenA M.f_len (a_cons (r_var 2) a_nil)) a_nil))))
  (p_cons (p_set (i := 6) nd__law_refused rfl (by first | exact .inl rfl | exact .inr rfl) (r_ixS (hu1 hr) (r_lst (a_cons (r_un un_neg s_neg r_int) (a_cons r_int (a_cons (rf_bin (m := false) o_add s_addF r_int (r_var 5)) (a_cons (r_un un_neg s_neg (r_bin o_powM s_powM r_int r_int)) (a_cons (r_bin o_powM s_powM r_int r_int) a_nil)))))) (r_fn D__law_draw hr tk_cx (a_cons (r_var 0) (a_cons r_int a_nil)))))
  (p_cons (p_set (i := 7) nd__law_refused rfl (by first | exact .inl rfl | exact .inr rfl) (r_fn D__law_draw hr tk_cx (a_cons (r_var 0) (a_cons (rf_bin (m := false) o_add s_addF (r_lenA M.f_len (a_cons (r_ixS (hu1 hr) (r_var 2) (r_var 4)) a_nil)) r_int) a_nil))))
  (p_cons (p_putS (hu1 hr) (rf_bin (m := false) o_add s_addF (rf_bin (m := false) o_add s_addF (rf_sl (m := false) (r_ixS (hu1 hr) (r_var 2) (r_var 4)) .none (.some (r_var 7))) (r_lst (a_cons (r_var 6) a_nil))) (rf_sl (m := false) (r_ixS (hu1 hr) (r_var 2) (r_var 4)) (.some (r_var 7)) .none)) (r_var 2) (r_var 4))
  (p_cons (p_if (r_cmpT (o_eq hr.units) s_eq b_eq (r_fn D__law_draw hr tk_cx (a_cons (r_var 0) (a_cons r_int a_nil))) r_int rfl)
  (p_one (p_putS (hu1 hr) (rf_bin (m := false) o_add s_addF (r_ixS (hu1 hr) (r_var 2) (r_var 5)) (rf_bin (m := false) o_mul s_mulF (r_lst (a_cons r_int a_nil)) r_int)) (r_var 2) (r_var 5))) p_nil)
  (p_cons (p_set (i := 8) nd__law_refused rfl (by first | exact .inl rfl | exact .inr rfl) (r_tup a_nil))
  (p_cons (p_fr 2 (p_for ps_cx rfl (pi_seq (r_var 2)) ri_seq (g_nm (i := 3) nd__law_refused rfl (by first | exact .inl rfl | exact .inr rfl))
  (p_cons (p_setC (i := 9) (own := [("x", 10)]) rfl nd__law_refused rfl rfl rfl (pi_seq (r_var 3)) ri_seq rfl (fun s0 H0 C0 cl0 fp0 => (g_nm (i := 10) nd__law_refused rfl (by first | exact .inl rfl | exact .inr rfl))) (fun s0 H0 C0 cl0 fp0 => (c_one (r_orT (r_cmpT op_lt (s_cmpI _) b_cmpI (r_var 10) r_int rfl) (r_orT1 (r_cmpT op_gt (s_cmpI _) b_cmpI (r_var 10) r_int rfl))).pt)) (fun s0 H0 C0 cl0 fp0 => (r_var 10)))
  (p_cons (p_if (r_andT (rs_cmpT (n := 3) (o_eq hr.units) s_eq b_eq (r_var 8) (r_tup a_nil) rfl) (r_andT1 (r_cmpT op_gt (s_cmpI _) b_cmpI (r_lenA M.f_len (a_cons (r_var 3) a_nil)) r_int rfl))).pt
  (p_one (p_set (i := 8) nd__law_refused rfl (by first | exact .inl rfl | exact .inr rfl) (r_tup (a_cons r_str (a_cons (r_lenA M.f_len (a_cons (r_var 3) a_nil)) (a_cons r_bl a_nil)))))) p_nil)
  (p_one (p_if (r_andT (rs_cmpT (n := 3) (o_eq hr.units) s_eq b_eq (r_var 8) (r_tup a_nil) rfl) (r_andT1 (rs_cmpT (n := 3) (o_ne hr.units) s_ne b_ne (r_var 9) (r_lst a_nil) rfl))).pt
  (p_one (p_set (i := 8) nd__law_refused rfl (by first | exact .inl rfl | exact .inr rfl) (r_tup (a_cons r_str (a_cons (r_ixS (hu1 hr) (r_var 9) r_int) (a_cons r_bl a_nil)))))) p_nil))))))
  (p_cons (p_if (r_cmpT (o_eq hr.units) s_eq b_eq (r_fn D__law_draw hr tk_cx (a_cons (r_var 0) (a_cons r_int a_nil))) r_int rfl)
  (p_one (p_set (i := 2) nd__law_refused rfl (by first | exact .inl rfl | exact .inr rfl) (rf_bin (m := true) o_add s_addF (r_var 2) (r_comp (own := [("j", 11)]) rfl nd__law_refused (pi_range1 rfl M.f_range (pa_cons (r_bin op_sub s_sub r_int (r_lenA M.f_len (a_cons (r_var 2) a_nil))) pa_nil)) ri_r1 rfl (fun s0 H0 C0 cl0 fp0 => (g_nm (i := 11) nd__law_refused rfl (by first | exact .inl rfl | exact .inr rfl))) (fun s0 H0 C0 cl0 fp0 => c_nil) (fun s0 H0 C0 cl0 fp0 => (r_lst (a_cons r_int a_nil))))))) p_nil)
  (p_cons (p_if (r_cmpT op_gt (s_cmpI _) b_cmpI (r_lenA M.f_len (a_cons (r_var 2) a_nil)) r_int rfl)
  (p_one (p_set (i := 8) nd__law_refused rfl (by first | exact .inl rfl | exact .inr rfl) (r_tup (a_cons r_str (a_cons (r_lenA M.f_len (a_cons (r_var 2) a_nil)) (a_cons r_bl a_nil)))))) p_nil)
  (p_one (p_fr 2 (p_ret (r_fn D__law_same hr tk_cx (a_cons (r_fn D__law_told hr tk_cx (a_cons (r_var 2) a_nil)) (a_cons (r_var 8) a_nil)))))))))))))))))
/-! ### _law_whole -/
abbrev N__law_whole : List Str := ["rows", "x"]
theorem nd__law_whole : N__law_whole.Nodup := by decide +kernel
theorem sc__law_whole : FnScope N__law_whole ["rows"] (defScope (top 28)) := ⟨rfl, rfl, rfl, nd__law_whole, rfl, by decide +kernel, by decide +kernel⟩
def it__law_whole_0 : IX := (iV seqI (eVar 0))
def ct__law_whole_1 : EX := (eOr (eNot (eIsT "int" (eVar 1))) (eIsT "bool" (eVar 1)))
def ce__law_whole_2 : EX := (eVar 1)
def b__law_whole : SX := (sRet (eAnd (eIsT "tuple" (eVar 0)) (eBs 3 eqD (eComp it__law_whole_0 (bNm 1) ct__law_whole_1 ce__law_whole_2 [1]) (eLst []))))
noncomputable def m__law_whole : Fn := runQ b__law_whole 2
theorem bd__law_whole (M : Mg P w K mg) : Body P w K mg base k N__law_whole "_law_whole" (defScope (top 28)) (defBody (top 28)) b__law_whole := fun f cd A outer s H E hr =>
  (p_one (p_ret (r_and (r_isT (r_var 0) M.f_isinstance M.f_tuple (by decide +kernel)) (r_one (rs_cmp (n := 3) (o_eq hr.units) s_eq (r_comp (own := [("x", 1)]) rfl nd__law_whole (pi_seq (r_var 0)) ri_seq rfl (fun s0 H0 C0 cl0 fp0 => (g_nm (i := 1) nd__law_whole rfl (by first | exact .inl rfl | exact .inr rfl))) (fun s0 H0 C0 cl0 fp0 => (c_one (r_orT (r_notT (r_tru (r_isT (r_var 1) M.f_isinstance M.f_int (by decide +kernel)))) (r_orT1 (r_tru (r_isT (r_var 1) M.f_isinstance M.f_bool (by decide +kernel))))).pt)) (fun s0 H0 C0 cl0 fp0 => (r_var 1))) (r_lst a_nil) rfl)))))
/-! ### _law_right -/
abbrev N__law_right : List Str := ["rows", "told", "room", "chosen", "x", "row", "k", "names"]
theorem nd__law_right : N__law_right.Nodup := by decide +kernel
theorem sc__law_right : FnScope N__law_right ["rows", "told", "room"] (defScope (top 29)) := ⟨rfl, rfl, rfl, nd__law_right, rfl, by decide +kernel, by decide +kernel⟩
def it__law_right_0 : IX := (iV seqI (eVar 3))
def ct__law_right_1 : EX := (eB gtD (eCntT (eVar 3) (eVar 4)) (eC (.int 1)))
def ce__law_right_2 : EX := (eVar 4)
def it__law_right_3 : IX := (iZM (eVar 3) (eVar 0))
def ce__law_right_4 : EX := (eInA 3 (eVar 4) (eVar 5))
def it__law_right_5 : IX := (iV seqI (eVar 3))
def ct__law_right_6 : EX := (eOr (eB ltD (eVar 4) (eC (.int 0))) (eB geD (eVar 4) (eLenS (eVar 0))))
def ce__law_right_7 : EX := (eVar 4)
def it__law_right_8 : IX := (iR1 (eB subD (eLenS (eVar 3)) (eC (.int 1))))
def ct__law_right_9 : EX := (eB geD (eIxS (eVar 3) (eVar 6)) (eIxS (eVar 3) (eBF false addF (eVar 6) (eC (.int 1)))))
def ce__law_right_10 : EX := (eVar 6)
def it__law_right_11 : IX := (iV seqI (eVar 3))
def g__law_right_12 : SX := (sSet 7 (eBF false addF (eVar 7) (eIxS (eVar 0) (eVar 6))))
def b__law_right : SX := (sSeq (sIf (eOr (eNot (eIsT "tuple" (eVar 1))) (eOr (eB neD (eLenS (eVar 1)) (eC (.int 2))) (eNot (eFn m__law_whole [(eIxS (eVar 1) (eC (.int 1)))]))))
  (sRet (eC (.bl false))) sNil)
  (sSeq (sSet 3 (eIxS (eVar 1) (eC (.int 1))))
  (sSeq (sIf (eNot (eVar 2))
  (sSeq (sIf (eOr (eNot (eFn (m__law_same 4) [(eIxS (eVar 1) (eC (.int 0))), (eC (.str "pairs"))])) (eB neD (eLenS (eVar 3)) (eLenS (eVar 0))))
  (sRet (eC (.bl false))) sNil)
  (sSeq (sIf (eB gtD (eLenS (eComp it__law_right_0 (bNm 4) ct__law_right_1 ce__law_right_2 [4])) (eC (.int 0)))
  (sRet (eC (.bl false))) sNil)
  (sRet (eCall allD [(eComp it__law_right_3 (bTp [(bNm 4), (bNm 5)]) (eC (.bl true)) ce__law_right_4 [4, 5])])))) sNil)
  (sSeq (sIf (eOr (eNot (eFn (m__law_same 4) [(eIxS (eVar 1) (eC (.int 0))), (eC (.str "room"))])) (eB eqD (eLenS (eVar 3)) (eC (.int 0))))
  (sRet (eC (.bl false))) sNil)
  (sSeq (sIf (eBs 3 neD (eComp it__law_right_5 (bNm 4) ct__law_right_6 ce__law_right_7 [4]) (eLst []))
  (sRet (eC (.bl false))) sNil)
  (sSeq (sIf (eBs 3 neD (eComp it__law_right_8 (bNm 6) ct__law_right_9 ce__law_right_10 [6]) (eLst []))
  (sRet (eC (.bl false))) sNil)
  (sSeq (sSet 7 (eLst []))
  (sSeq (sFor it__law_right_11 (bNm 6)
  g__law_right_12)
  (sRet (eB ltD (eLenSet (eVar 7)) (eLenS (eVar 3))))))))))))
noncomputable def m__law_right : Fn := runQ b__law_right 8
theorem bd__law_right (M : Mg P w K mg) (D__law_whole : Df P w K mg base k "_law_whole" 1 m__law_whole) (D__law_same : Df P w K mg base k "_law_same" 2 (m__law_same 4)) : Body P w K mg base k N__law_right "_law_right" (defScope (top 29)) (defBody (top 29)) b__law_right := fun f cd A outer s H E hr =>
  (p_cons (p_if (r_orT (r_notT (r_tru (r_isT (r_var 1) M.f_isinstance M.f_tuple (by decide +kernel)))) (r_orT (r_cmpT (o_ne hr.units) s_ne b_ne (r_lenA M.f_len (a_cons (r_var 1) a_nil)) r_int rfl) (r_orT1 (r_notT (r_tru (r_fn D__law_whole hr tk_cx (a_cons (r_ixS (hu1 hr) (r_var 1) r_int) a_nil))))))).pt
  (p_one (p_ret r_bl)) p_nil)
  (p_cons (p_set (i := 3) nd__law_right rfl (by first | exact .inl rfl | exact .inr rfl) (r_ixS (hu1 hr) (r_var 1) r_int))
  (p_cons (p_if (r_notT (r_tru (r_var 2)))
  (p_cons (p_if (r_orT (r_notT (r_tru (r_fn D__law_same hr tk_cx (a_cons (r_ixS (hu1 hr) (r_var 1) r_int) (a_cons r_str a_nil))))) (r_orT1 (r_cmpT (o_ne hr.units) s_ne b_ne (r_lenA M.f_len (a_cons (r_var 3) a_nil)) (r_lenA M.f_len (a_cons (r_var 0) a_nil)) rfl))).pt
  (p_one (p_ret r_bl)) p_nil)
  (p_cons (p_if (r_cmpT op_gt (s_cmpI _) b_cmpI (r_lenA M.f_len (a_cons (r_comp (own := [("x", 4)]) rfl nd__law_right (pi_seq (r_var 3)) ri_seq rfl (fun s0 H0 C0 cl0 fp0 => (g_nm (i := 4) nd__law_right rfl (by first | exact .inl rfl | exact .inr rfl))) (fun s0 H0 C0 cl0 fp0 => (c_one (r_cmpT op_gt (s_cmpI _) b_cmpI (r_cntT (r_var 3) (r_var 4)) r_int rfl))) (fun s0 H0 C0 cl0 fp0 => (r_var 4))) a_nil)) r_int rfl)
  (p_one (p_ret r_bl)) p_nil)
  (p_one (p_ret (r_callB (cr_all rfl) s_all M.f_all (by decide +kernel) (a_cons (r_comp (own := [("x", 4), ("row", 5)]) rfl nd__law_right (pi_zipM rfl M.f_zip (pa_cons (r_var 3) (pa_cons (r_var 0) pa_nil))) ri_zipM rfl (fun s0 H0 C0 cl0 fp0 => (g_tp rfl (gs_cons (g_nm (i := 4) nd__law_right rfl (by first | exact .inl rfl | exact .inr rfl)) (gs_cons (g_nm (i := 5) nd__law_right rfl (by first | exact .inl rfl | exact .inr rfl)) gs_nil)))) (fun s0 H0 C0 cl0 fp0 => c_nil) (fun s0 H0 C0 cl0 fp0 => (r_inA (n := 3) (hu65 hr) (r_var 4) (r_var 5)))) a_nil)))))) p_nil)
  (p_cons (p_if (r_orT (r_notT (r_tru (r_fn D__law_same hr tk_cx (a_cons (r_ixS (hu1 hr) (r_var 1) r_int) (a_cons r_str a_nil))))) (r_orT1 (r_cmpT (o_eq hr.units) s_eq b_eq (r_lenA M.f_len (a_cons (r_var 3) a_nil)) r_int rfl))).pt
  (p_one (p_ret r_bl)) p_nil)
  (p_cons (p_if (rs_cmpT (n := 3) (o_ne hr.units) s_ne b_ne (r_comp (own := [("x", 4)]) rfl nd__law_right (pi_seq (r_var 3)) ri_seq rfl (fun s0 H0 C0 cl0 fp0 => (g_nm (i := 4) nd__law_right rfl (by first | exact .inl rfl | exact .inr rfl))) (fun s0 H0 C0 cl0 fp0 => (c_one (r_orT (r_cmpT op_lt (s_cmpI _) b_cmpI (r_var 4) r_int rfl) (r_orT1 (r_cmpT op_ge (s_cmpI _) b_cmpI (r_var 4) (r_lenA M.f_len (a_cons (r_var 0) a_nil)) rfl))).pt)) (fun s0 H0 C0 cl0 fp0 => (r_var 4))) (r_lst a_nil) rfl)
  (p_one (p_ret r_bl)) p_nil)
  (p_cons (p_if (rs_cmpT (n := 3) (o_ne hr.units) s_ne b_ne (r_comp (own := [("k", 6)]) rfl nd__law_right (pi_range1 rfl M.f_range (pa_cons (r_bin op_sub s_sub (r_lenA M.f_len (a_cons (r_var 3) a_nil)) r_int) pa_nil)) ri_r1 rfl (fun s0 H0 C0 cl0 fp0 => (g_nm (i := 6) nd__law_right rfl (by first | exact .inl rfl | exact .inr rfl))) (fun s0 H0 C0 cl0 fp0 => (c_one (r_cmpT op_ge (s_cmpI _) b_cmpI (r_ixS (hu1 hr) (r_var 3) (r_var 6)) (r_ixS (hu1 hr) (r_var 3) (rf_bin (m := false) o_add s_addF (r_var 6) r_int)) rfl))) (fun s0 H0 C0 cl0 fp0 => (r_var 6))) (r_lst a_nil) rfl)
  (p_one (p_ret r_bl)) p_nil)
  (p_cons (p_set (i := 7) nd__law_right rfl (by first | exact .inl rfl | exact .inr rfl) (r_lst a_nil))
  (p_cons (p_for ps_cx rfl (pi_seq (r_var 3)) ri_seq (g_nm (i := 6) nd__law_right rfl (by first | exact .inl rfl | exact .inr rfl))
  (p_one (p_set (i := 7) nd__law_right rfl (by first | exact .inl rfl | exact .inr rfl) (rf_bin (m := false) o_add s_addF (r_var 7) (r_ixS (hu1 hr) (r_var 0) (r_var 6))))))
  (p_one (p_ret (r_cmp op_lt (s_cmpI _) (r_lenSet rfl M.f_len M.f_set (r_var 7)) (r_lenA M.f_len (a_cons (r_var 3) a_nil)) rfl)))))))))))
/-! ### _law_asked -/
abbrev N__law_asked : List Str := ["rows", "room", "tuples", "handed", "row", "told"]
theorem nd__law_asked : N__law_asked.Nodup := by decide +kernel
theorem sc__law_asked : FnScope N__law_asked ["rows", "room", "tuples"] (defScope (top 30)) := ⟨rfl, rfl, rfl, nd__law_asked, rfl, by decide +kernel, by decide +kernel⟩
def it__law_asked_0 : IX := (iV seqI (eVar 0))
def ce__law_asked_1 : EX := (eCallF true listF (eVar 4))
def it__law_asked_2 : IX := (iV seqI (eVar 0))
def ce__law_asked_3 : EX := (eCallF false tupleF (eVar 4))
def it__law_asked_4 : IX := (iV seqI (eVar 3))
def g__law_asked_5 : SX := (sEx (eMut appF (eVar 4) [(eC (.int 200))]))
def b__law_asked : SX := (sSeq (sSet 3 (eComp it__law_asked_0 (bNm 4) (eC (.bl true)) ce__law_asked_1 [4]))
  (sSeq (sIf (eVar 2)
  (sSet 5 (eFn m__law_told [(eCallF false tupleF (eComp it__law_asked_2 (bNm 4) (eC (.bl true)) ce__law_asked_3 [4]))])) (sSet 5 (eFn m__law_told [(eVar 3)])))
  (sSeq (sIf (eOr (eB neD (eIxS (eVar 5) (eC (.int 0))) (eC (.str "told"))) (eOr (eBs 3 neD (eVar 3) (eVar 0)) (eNot (eFn m__law_right [(eVar 0), (eIxS (eVar 5) (eC (.int 1))), (eVar 1)]))))
  (sRet (eC (.bl false))) sNil)
  (sSeq (sFor it__law_asked_4 (bNm 4)
  g__law_asked_5)
  (sRet (eFn m__law_right [(eVar 0), (eIxS (eVar 5) (eC (.int 1))), (eVar 1)]))))))
noncomputable def m__law_asked : Fn := runQ b__law_asked 6
theorem bd__law_asked (M : Mg P w K mg) (D__law_told : Df P w K mg base k "_law_told" 1 m__law_told) (D__law_right : Df P w K mg base k "_law_right" 3 m__law_right) : Body P w K mg base k N__law_asked "_law_asked" (defScope (top 30)) (defBody (top 30)) b__law_asked := fun f cd A outer s H E hr =>
  (p_cons (p_setC (i := 3) (own := [("row", 4)]) rfl nd__law_asked rfl rfl rfl (pi_seq (r_var 0)) ri_seq rfl (fun s0 H0 C0 cl0 fp0 => (g_nm (i := 4) nd__law_asked rfl (by first | exact .inl rfl | exact .inr rfl))) (fun s0 H0 C0 cl0 fp0 => c_nil) (fun s0 H0 C0 cl0 fp0 => (rf_callTy (m := true) call_list_of s_listF M.f_list (by decide +kernel) (a_cons (r_var 4) a_nil))))
  (p_cons (p_if (r_tru (r_var 2))
  (p_one (p_set (i := 5) nd__law_asked rfl (by first | exact .inl rfl | exact .inr rfl) (r_fn D__law_told hr tk_cx (a_cons (rf_callTy (m := false) call_tupB s_tupleF M.f_tuple (by decide +kernel) (a_cons (r_comp (own := [("row", 4)]) rfl nd__law_asked (pi_seq (r_var 0)) ri_seq rfl (fun s0 H0 C0 cl0 fp0 => (g_nm (i := 4) nd__law_asked rfl (by first | exact .inl rfl | exact .inr rfl))) (fun s0 H0 C0 cl0 fp0 => c_nil) (fun s0 H0 C0 cl0 fp0 => (rf_callTy (m := false) call_tupB s_tupleF M.f_tuple (by decide +kernel) (a_cons (r_var 4) a_nil)))) a_nil)) a_nil)))) (p_one (p_set (i := 5) nd__law_asked rfl (by first | exact .inl rfl | exact .inr rfl) (r_fn D__law_told hr tk_cx (a_cons (r_var 3) a_nil)))))
  (p_cons (p_if (r_orT (r_cmpT (o_ne hr.units) s_ne b_ne (r_ixS (hu1 hr) (r_var 5) r_int) r_str rfl) (r_orT (rs_cmpT (n := 3) (o_ne hr.units) s_ne b_ne (r_var 3) (r_var 0) rfl) (r_orT1 (r_notT (r_tru (r_fn D__law_right hr tk_cx (a_cons (r_var 0) (a_cons (r_ixS (hu1 hr) (r_var 5) r_int) (a_cons (r_var 1) a_nil))))))))).pt
  (p_one (p_ret r_bl)) p_nil)
  (p_cons (p_for ps_cx rfl (pi_seq (r_var 3)) ri_seq (g_nm (i := 4) nd__law_asked rfl (by first | exact .inl rfl | exact .inr rfl))
  (p_one (p_ex (r_mut PySem.F.slot_list_append PySem.F.type_list_append mt_append m_app (r_var 4) (a_cons r_int a_nil)))))
  (p_one (p_ret (r_fn D__law_right hr tk_cx (a_cons (r_var 0) (a_cons (r_ixS (hu1 hr) (r_var 5) r_int) (a_cons (r_var 1) a_nil))))))))))
/-! ### law -/
abbrev N_law : List Str := ["script", "box", "tuples", "small", "many", "paired", "roomed", "room", "full", "k"]
theorem nd_law : N_law.Nodup := by decide +kernel
theorem sc_law : FnScope N_law ["script"] (defScope (top 32)) := ⟨rfl, rfl, rfl, nd_law, rfl, by decide +kernel, by decide +kernel⟩
def it_law_0 : IX := (iR1 (eC (.int 2)))
def ce_law_1 : EX := (eBF false mulF (eLst [(eC (.int 199))]) (eC (.int 40)))
def it_law_2 : IX := (iR1 (eC (.int 38)))
def ce_law_3 : EX := (eBF false addF (eBF false mulF (eLst [(eVar 9), (eC (.int 199)), (eC (.int 0))]) (eC (.int 13))) (eLst [(eVar 9)]))
def b_law : SX := (sSeq (sSet 1 (eFn m__law_pool [(eVar 0)]))
  (sSeq (sSet 2 (eB eqD (eFn m__law_draw [(eVar 1), (eC (.int 2))]) (eC (.int 1))))
  (sSeq (sSet 3 (eFn m__law_small [(eVar 1)]))
  (sSeq (sSet 4 (eBF false addF (eC (.int 3)) (eFn m__law_draw [(eVar 1), (eC (.int 6))])))
  (sSeq (sIf (eB eqD (eFn m__law_draw [(eVar 1), (eC (.int 4))]) (eC (.int 3)))
  (sSet 4 (eBF false addF (eC (.int 20)) (eFn m__law_draw [(eVar 1), (eC (.int 21))]))) sNil)
  (sSeq (sSet 5 (eFn m__law_paired [(eVar 1), (eVar 4)]))
  (sSeq (sSet 6 (eFn m__law_roomed [(eVar 1), (eVar 5)]))
  (sSeq (sSet 7 (eFn m__law_has_room [(eVar 3)]))
  (sSeq (sIf (eOr (eNot (eFn m__law_asked [(eVar 3), (eVar 7), (eVar 2)])) (eNot (eFn m__law_asked [(eVar 5), (eC (.bl false)), (eVar 2)])))
  (sRet (eC (.bl false))) sNil)
  (sSeq (sSet 4 (eCall minD [(eB subD (eLenS (eVar 6)) (eC (.int 1))), (eC (.int 5))]))
  (sSeq (sIf (eOr (eNot (eFn m__law_asked [(eVar 6), (eC (.bl true)), (eNot (eVar 2))])) (eNot (eFn m__law_asked [(eVar 3), (eVar 7), (eVar 2)])))
  (sRet (eC (.bl false))) sNil)
  (sSeq (sIf (eOr (eNot (eFn m__law_asked [(eLst []), (eC (.bl false)), (eVar 2)])) (eNot (eFn m__law_asked [(eLst [(eLst [])]), (eC (.bl true)), (eVar 2)])))
  (sRet (eC (.bl false))) sNil)
  (sSeq (sSet 8 (eBF false addF (eComp it_law_0 (bNm 9) (eC (.bl true)) ce_law_1 [9]) (eComp it_law_2 (bNm 9) (eC (.bl true)) ce_law_3 [9])))
  (sSeq (sIf (eOr (eNot (eFn m__law_asked [(eVar 8), (eC (.bl true)), (eVar 2)])) (eNot (eFn m__law_asked [(eBF false addF (eSlF false (eVar 8) (some (eC (.int 1))) (some (eC (.int 2)))) (eSlF false (eVar 8) (some (eC (.int 3))) none)), (eC (.bl false)), (eVar 2)])))
  (sRet (eC (.bl false))) sNil)
  (sRet (eAnd (eFn m__law_refused [(eVar 1), (eVar 3)]) (eFn m__law_refused [(eVar 1), (eSlF false (eVar 5) none (some (eVar 4)))])))))))))))))))))
def m_law : Fn := runS b_law 10
theorem bd_law (M : Mg P w K mg) (D__law_pool : Df P w K mg base k "_law_pool" 1 m__law_pool) (D__law_draw : Df P w K mg base k "_law_draw" 2 m__law_draw) (D__law_small : Df P w K mg base k "_law_small" 1 m__law_small) (D__law_paired : Df P w K mg base k "_law_paired" 2 m__law_paired) (D__law_roomed : Df P w K mg base k "_law_roomed" 2 m__law_roomed) (D__law_has_room : Df P w K mg base k "_law_has_room" 1 m__law_has_room) (D__law_asked : Df P w K mg base k "_law_asked" 3 m__law_asked) (D__law_refused : Df P w K mg base k "_law_refused" 2 m__law_refused) : Body P w K mg base k N_law "law" (defScope (top 32)) (defBody (top 32)) b_law := fun f cd A outer s H E hr =>
  (p_cons (p_set (i := 1) nd_law rfl (by first | exact .inl rfl | exact .inr rfl) (r_fn D__law_pool hr tk_cx (a_cons (r_var 0) a_nil)))
  (p_cons (p_set (i := 2) nd_law rfl (by first | exact .inl rfl | exact .inr rfl) (r_cmp (o_eq hr.units) s_eq (r_fn D__law_draw hr tk_cx (a_cons (r_var 1) (a_cons r_int a_nil))) r_int rfl))
  (p_cons (p_set (i := 3) nd_law rfl (by first | exact .inl rfl | exact .inr rfl) (r_fn D__law_small hr tk_cx (a_cons (r_var 1) a_nil)))
  (p_cons (p_set (i := 4) nd_law rfl (by first | exact .inl rfl | exact .inr rfl) (rf_bin (m := false) o_add s_addF r_int (r_fn D__law_draw hr tk_cx (a_cons (r_var 1) (a_cons r_int a_nil)))))
  (p_cons (p_if (r_cmpT (o_eq hr.units) s_eq b_eq (r_fn D__law_draw hr tk_cx (a_cons (r_var 1) (a_cons r_int a_nil))) r_int rfl)
  (p_one (p_set (i := 4) nd_law rfl (by first | exact .inl rfl | exact .inr rfl) (rf_bin (m := false) o_add s_addF r_int (r_fn D__law_draw hr tk_cx (a_cons (r_var 1) (a_cons r_int a_nil)))))) p_nil)
  (p_cons (p_set (i := 5) nd_law rfl (by first | exact .inl rfl | exact .inr rfl) (r_fn D__law_paired hr tk_cx (a_cons (r_var 1) (a_cons (r_var 4) a_nil))))
  (p_cons (p_set (i := 6) nd_law rfl (by first | exact .inl rfl | exact .inr rfl) (r_fn D__law_roomed hr tk_cx (a_cons (r_var 1) (a_cons (r_var 5) a_nil))))
  (p_cons (p_set (i := 7) nd_law rfl (by first | exact .inl rfl | exact .inr rfl) (r_fn D__law_has_room hr tk_cx (a_cons (r_var 3) a_nil)))
  (p_cons (p_if (r_orT (r_notT (r_tru (r_fn D__law_asked hr tk_cx (a_cons (r_var 3) (a_cons (r_var 7) (a_cons (r_var 2) a_nil)))))) (r_orT1 (r_notT (r_tru (r_fn D__law_asked hr tk_cx (a_cons (r_var 5) (a_cons r_bl (a_cons (r_var 2) a_nil)))))))).pt
  (p_one (p_ret r_bl)) p_nil)
  (p_cons (p_set (i := 4) nd_law rfl (by first | exact .inl rfl | exact .inr rfl) (r_callB (call_min2 rfl) s_min M.f_min (by decide +kernel) (a_cons (r_bin op_sub s_sub (r_lenA M.f_len (a_cons (r_var 6) a_nil)) r_int) (a_cons r_int a_nil))))
  (p_cons (p_if (r_orT (r_notT (r_tru (r_fn D__law_asked hr tk_cx (a_cons (r_var 6) (a_cons r_bl (a_cons (r_not (r_var 2)) a_nil)))))) (r_orT1 (r_notT (r_tru (r_fn D__law_asked hr tk_cx (a_cons (r_var 3) (a_cons (r_var 7) (a_cons (r_var 2) a_nil)))))))).pt
  (p_one (p_ret r_bl)) p_nil)
  (p_cons (p_if (r_orT (r_notT (r_tru (r_fn D__law_asked hr tk_cx (a_cons (r_lst a_nil) (a_cons r_bl (a_cons (r_var 2) a_nil)))))) (r_orT1 (r_notT (r_tru (r_fn D__law_asked hr tk_cx (a_cons (r_lst (a_cons (r_lst a_nil) a_nil)) (a_cons r_bl (a_cons (r_var 2) a_nil)))))))).pt
  (p_one (p_ret r_bl)) p_nil)
  (p_cons (p_set (i := 8) nd_law rfl (by first | exact .inl rfl | exact .inr rfl) (rf_bin (m := false) o_add s_addF (r_comp (own := [("k", 9)]) rfl nd_law (pi_range1 rfl M.f_range (pa_cons r_int pa_nil)) ri_r1 rfl (fun s0 H0 C0 cl0 fp0 => (g_nm (i := 9) nd_law rfl (by first | exact .inl rfl | exact .inr rfl))) (fun s0 H0 C0 cl0 fp0 => c_nil) (fun s0 H0 C0 cl0 fp0 => (rf_bin (m := false) o_mul s_mulF (r_lst (a_cons r_int a_nil)) r_int))) (r_comp (own := [("k", 9)]) rfl nd_law (pi_range1 rfl M.f_range (pa_cons r_int pa_nil)) ri_r1 rfl (fun s0 H0 C0 cl0 fp0 => (g_nm (i := 9) nd_law rfl (by first | exact .inl rfl | exact .inr rfl))) (fun s0 H0 C0 cl0 fp0 => c_nil) (fun s0 H0 C0 cl0 fp0 => (rf_bin (m := false) o_add s_addF (rf_bin (m := false) o_mul s_mulF (r_lst (a_cons (r_var 9) (a_cons r_int (a_cons r_int a_nil)))) r_int) (r_lst (a_cons (r_var 9) a_nil)))))))
  (p_cons (p_if (r_orT (r_notT (r_tru (r_fn D__law_asked hr tk_cx (a_cons (r_var 8) (a_cons r_bl (a_cons (r_var 2) a_nil)))))) (r_orT1 (r_notT (r_tru (r_fn D__law_asked hr tk_cx (a_cons (rf_bin (m := false) o_add s_addF (rf_sl (m := false) (r_var 8) (.some r_int) (.some r_int)) (rf_sl (m := false) (r_var 8) (.some r_int) .none)) (a_cons r_bl (a_cons (r_var 2) a_nil)))))))).pt
  (p_one (p_ret r_bl)) p_nil)
  (p_one (p_ret (r_and (r_fn D__law_refused hr tk_cx (a_cons (r_var 1) (a_cons (r_var 3) a_nil))) (r_one (r_fn D__law_refused hr tk_cx (a_cons (r_var 1) (a_cons (rf_sl (m := false) (r_var 5) .none (.some (r_var 4))) a_nil)))))))))))))))))))))
end
end
end K52

namespace K52
open PySem PySem.Spec PyProof.Rows L2 MB
theorem law_fd {K : Fg} {w : World} (c : SaysN fileR chk fnL xL tsL w K) : ∃ fd, FunD K "law" "law" (defArgs (top 32)) (defBody (top 32)) (defScope (top 32)) [] [] (He.ga K "law") fd := c.m.def_ 19 (d := ⟨("law", none), "law", "law", defArgs (top 32), defBody (top 32), defScope (top 32), [], []⟩) rfl
theorem all_df {w : World} {K : Fg} {mg : Str → Option Value} {base : Heap} {fd_law : FuncData} (M : Mg PySem.Challenge.pw_madeorbarred_k52_pairings_or_rooms w K mg) (c : SaysN fileR chk fnL xL tsL w K) (F_law : FunD K "law" "law" (defArgs (top 32)) (defBody (top 32)) (defScope (top 32)) [] [] (He.ga K "law") fd_law) : FnV PySem.Challenge.pw_madeorbarred_k52_pairings_or_rooms w K mg base 7 (He.ga K "law") fd_law ["script"] m_law := by
  obtain ⟨fd__law_pool, F__law_pool⟩ := c.m.def_ 0 (d := ⟨("_law_pool", none), "_law_pool", "_law_pool", defArgs (top 19), defBody (top 19), defScope (top 19), [], []⟩) rfl
  have B__law_pool : Binds K fd__law_pool ["script"] [] := FunD.bindsN F__law_pool fun _ _ _ _ _ _ us hl => match us, hl with | [_], _ => rfl
  have D__law_pool : Df PySem.Challenge.pw_madeorbarred_k52_pairings_or_rooms w K mg base 1 "_law_pool" 1 m__law_pool := df_okT M.gd__law_pool F__law_pool sc__law_pool B__law_pool (bd__law_pool M)
  obtain ⟨fd__law_draw, F__law_draw⟩ := c.m.def_ 1 (d := ⟨("_law_draw", none), "_law_draw", "_law_draw", defArgs (top 20), defBody (top 20), defScope (top 20), [], []⟩) rfl
  have B__law_draw : Binds K fd__law_draw ["box", "many"] [] := FunD.bindsN F__law_draw fun _ _ _ _ _ _ us hl => match us, hl with | [_, _], _ => rfl
  have D__law_draw : Df PySem.Challenge.pw_madeorbarred_k52_pairings_or_rooms w K mg base 1 "_law_draw" 2 m__law_draw := df_okT M.gd__law_draw F__law_draw sc__law_draw B__law_draw (bd__law_draw M)
  obtain ⟨fd__law_small, F__law_small⟩ := c.m.def_ 2 (d := ⟨("_law_small", none), "_law_small", "_law_small", defArgs (top 23), defBody (top 23), defScope (top 23), [], []⟩) rfl
  have B__law_small : Binds K fd__law_small ["box"] [] := FunD.bindsN F__law_small fun _ _ _ _ _ _ us hl => match us, hl with | [_], _ => rfl
  have D__law_small : Df PySem.Challenge.pw_madeorbarred_k52_pairings_or_rooms w K mg base 2 "_law_small" 1 m__law_small := df_okT M.gd__law_small F__law_small sc__law_small B__law_small (bd__law_small M (D__law_draw.mono (by decide)))
  obtain ⟨fd__law_some, F__law_some⟩ := c.m.def_ 3 (d := ⟨("_law_some", none), "_law_some", "_law_some", defArgs (top 22), defBody (top 22), defScope (top 22), [], []⟩) rfl
  have B__law_some : Binds K fd__law_some ["box", "total", "many"] [] := FunD.bindsN F__law_some fun _ _ _ _ _ _ us hl => match us, hl with | [_, _, _], _ => rfl
  have D__law_some : Df PySem.Challenge.pw_madeorbarred_k52_pairings_or_rooms w K mg base 2 "_law_some" 3 m__law_some := df_okT M.gd__law_some F__law_some sc__law_some B__law_some (bd__law_some M (D__law_draw.mono (by decide)))
  obtain ⟨fd__law_paired, F__law_paired⟩ := c.m.def_ 4 (d := ⟨("_law_paired", none), "_law_paired", "_law_paired", defArgs (top 24), defBody (top 24), defScope (top 24), [], []⟩) rfl
  have B__law_paired : Binds K fd__law_paired ["box", "many"] [] := FunD.bindsN F__law_paired fun _ _ _ _ _ _ us hl => match us, hl with | [_, _], _ => rfl
  have D__law_paired : Df PySem.Challenge.pw_madeorbarred_k52_pairings_or_rooms w K mg base 3 "_law_paired" 2 m__law_paired := df_okT M.gd__law_paired F__law_paired sc__law_paired B__law_paired (bd__law_paired M (D__law_some.mono (by decide)) (D__law_draw.mono (by decide)))
  obtain ⟨fd__law_roomed, F__law_roomed⟩ := c.m.def_ 5 (d := ⟨("_law_roomed", none), "_law_roomed", "_law_roomed", defArgs (top 25), defBody (top 25), defScope (top 25), [], []⟩) rfl
  have B__law_roomed : Binds K fd__law_roomed ["box", "rows"] [] := FunD.bindsN F__law_roomed fun _ _ _ _ _ _ us hl => match us, hl with | [_, _], _ => rfl
  have D__law_roomed : Df PySem.Challenge.pw_madeorbarred_k52_pairings_or_rooms w K mg base 3 "_law_roomed" 2 m__law_roomed := df_okT M.gd__law_roomed F__law_roomed sc__law_roomed B__law_roomed (bd__law_roomed M (D__law_draw.mono (by decide)) (D__law_some.mono (by decide)))
  obtain ⟨fd__law_has_room, F__law_has_room⟩ := c.m.def_ 6 (d := ⟨("_law_has_room", none), "_law_has_room", "_law_has_room", defArgs (top 26), defBody (top 26), defScope (top 26), [], []⟩) rfl
  have B__law_has_room : Binds K fd__law_has_room ["rows"] [] := FunD.bindsN F__law_has_room fun _ _ _ _ _ _ us hl => match us, hl with | [_], _ => rfl
  have D__law_has_room : Df PySem.Challenge.pw_madeorbarred_k52_pairings_or_rooms w K mg base 1 "_law_has_room" 1 m__law_has_room := df_okT M.gd__law_has_room F__law_has_room sc__law_has_room B__law_has_room (bd__law_has_room M)
  obtain ⟨fd__law_same, F__law_same⟩ := c.m.def_ 7 (d := ⟨("_law_same", none), "_law_same", "_law_same", defArgs (top 21), defBody (top 21), defScope (top 21), [], []⟩) rfl
  have B__law_same : Binds K fd__law_same ["told", "due"] [] := FunD.bindsN F__law_same fun _ _ _ _ _ _ us hl => match us, hl with | [_, _], _ => rfl
  have D__law_same : Df PySem.Challenge.pw_madeorbarred_k52_pairings_or_rooms w K mg base 4 "_law_same" 2 (m__law_same 4) := by
    have D0 : Df PySem.Challenge.pw_madeorbarred_k52_pairings_or_rooms w K mg base 0 "_law_same" 2 (m__law_same 0) := df_stuck M.gd__law_same F__law_same B__law_same rfl
    have D1 : Df PySem.Challenge.pw_madeorbarred_k52_pairings_or_rooms w K mg base 1 "_law_same" 2 (m__law_same 1) := df_ok M.gd__law_same F__law_same sc__law_same B__law_same (bd__law_same M D0)
    have D2 : Df PySem.Challenge.pw_madeorbarred_k52_pairings_or_rooms w K mg base 2 "_law_same" 2 (m__law_same 2) := df_ok M.gd__law_same F__law_same sc__law_same B__law_same (bd__law_same M D1)
    have D3 : Df PySem.Challenge.pw_madeorbarred_k52_pairings_or_rooms w K mg base 3 "_law_same" 2 (m__law_same 3) := df_ok M.gd__law_same F__law_same sc__law_same B__law_same (bd__law_same M D2)
    have D4 : Df PySem.Challenge.pw_madeorbarred_k52_pairings_or_rooms w K mg base 4 "_law_same" 2 (m__law_same 4) := df_ok M.gd__law_same F__law_same sc__law_same B__law_same (bd__law_same M D3)
    exact D4
  obtain ⟨fd_look_size, F_look_size⟩ := c.m.def_ 8 (d := ⟨("look_size", none), "look_size", "look_size", defArgs (top 10), defBody (top 10), defScope (top 10), [], []⟩) rfl
  have B_look_size : Binds K fd_look_size ["row", "low", "high"] [] := FunD.bindsN F_look_size fun _ _ _ _ _ _ us hl => match us, hl with | [_, _, _], _ => rfl
  have D_look_size : Df PySem.Challenge.pw_madeorbarred_k52_pairings_or_rooms w K mg base 1 "look_size" 3 m_look_size := df_okT M.gd_look_size F_look_size sc_look_size B_look_size (bd_look_size M)
  obtain ⟨fd_look_number, F_look_number⟩ := c.m.def_ 9 (d := ⟨("look_number", none), "look_number", "look_number", defArgs (top 8), defBody (top 8), defScope (top 8), [], []⟩) rfl
  have B_look_number : Binds K fd_look_number ["number", "low", "high"] [] := FunD.bindsN F_look_number fun _ _ _ _ _ _ us hl => match us, hl with | [_, _, _], _ => rfl
  have D_look_number : Df PySem.Challenge.pw_madeorbarred_k52_pairings_or_rooms w K mg base 1 "look_number" 3 m_look_number := df_okT M.gd_look_number F_look_number sc_look_number B_look_number (bd_look_number M)
  obtain ⟨fd_look_numbers, F_look_numbers⟩ := c.m.def_ 10 (d := ⟨("look_numbers", none), "look_numbers", "look_numbers", defArgs (top 9), defBody (top 9), defScope (top 9), [], []⟩) rfl
  have B_look_numbers : Binds K fd_look_numbers ["row", "low", "high"] [] := FunD.bindsN F_look_numbers fun _ _ _ _ _ _ us hl => match us, hl with | [_, _, _], _ => rfl
  have D_look_numbers : Df PySem.Challenge.pw_madeorbarred_k52_pairings_or_rooms w K mg base 2 "look_numbers" 3 m_look_numbers := df_okT M.gd_look_numbers F_look_numbers sc_look_numbers B_look_numbers (bd_look_numbers M (D_look_number.mono (by decide)))
  obtain ⟨fd__pass_on, F__pass_on⟩ := c.m.def_ 11 (d := ⟨("_pass_on", none), "_pass_on", "_pass_on", defArgs (top 17), defBody (top 17), defScope (top 17), [], []⟩) rfl
  have B__pass_on : Binds K fd__pass_on ["chosen", "owners", "sources", "number"] [] := FunD.bindsN F__pass_on fun _ _ _ _ _ _ us hl => match us, hl with | [_, _, _, _], _ => rfl
  have D__pass_on : Df PySem.Challenge.pw_madeorbarred_k52_pairings_or_rooms w K mg base 1 "_pass_on" 4 m__pass_on := df_okT M.gd__pass_on F__pass_on sc__pass_on B__pass_on (bd__pass_on M)
  obtain ⟨fd__choose, F__choose⟩ := c.m.def_ 12 (d := ⟨("_choose", none), "_choose", "_choose", defArgs (top 16), defBody (top 16), defScope (top 16), [], []⟩) rfl
  have B__choose : Binds K fd__choose ["choices", "chosen", "owners", "index"] [] := FunD.bindsN F__choose fun _ _ _ _ _ _ us hl => match us, hl with | [_, _, _, _], _ => rfl
  have D__choose : Df PySem.Challenge.pw_madeorbarred_k52_pairings_or_rooms w K mg base 2 "_choose" 4 m__choose := df_okT M.gd__choose F__choose sc__choose B__choose (bd__choose M (D__pass_on.mono (by decide)))
  obtain ⟨fd_pairing, F_pairing⟩ := c.m.def_ 13 (d := ⟨("pairing", none), "pairing", "pairing", defArgs (top 15), defBody (top 15), defScope (top 15), [], []⟩) rfl
  have B_pairing : Binds K fd_pairing ["choices"] [] := FunD.bindsN F_pairing fun _ _ _ _ _ _ us hl => match us, hl with | [_], _ => rfl
  have D_pairing : Df PySem.Challenge.pw_madeorbarred_k52_pairings_or_rooms w K mg base 3 "pairing" 1 m_pairing := df_okT M.gd_pairing F_pairing sc_pairing B_pairing (bd_pairing M (D_look_size.mono (by decide)) (D_look_numbers.mono (by decide)) (D__choose.mono (by decide)))
  obtain ⟨fd__law_told, F__law_told⟩ := c.m.def_ 14 (d := ⟨("_law_told", none), "_law_told", "_law_told", defArgs (top 27), defBody (top 27), defScope (top 27), [], []⟩) rfl
  have B__law_told : Binds K fd__law_told ["rows"] [] := FunD.bindsN F__law_told fun _ _ _ _ _ _ us hl => match us, hl with | [_], _ => rfl
  have D__law_told : Df PySem.Challenge.pw_madeorbarred_k52_pairings_or_rooms w K mg base 4 "_law_told" 1 m__law_told := df_okT M.gd__law_told F__law_told sc__law_told B__law_told (bd__law_told M (D_pairing.mono (by decide)))
  obtain ⟨fd__law_refused, F__law_refused⟩ := c.m.def_ 15 (d := ⟨("_law_refused", none), "_law_refused", "_law_refused", defArgs (top 31), defBody (top 31), defScope (top 31), [], []⟩) rfl
  have B__law_refused : Binds K fd__law_refused ["box", "rows"] [] := FunD.bindsN F__law_refused fun _ _ _ _ _ _ us hl => match us, hl with | [_, _], _ => rfl
  have D__law_refused : Df PySem.Challenge.pw_madeorbarred_k52_pairings_or_rooms w K mg base 5 "_law_refused" 2 m__law_refused := df_okT M.gd__law_refused F__law_refused sc__law_refused B__law_refused (bd__law_refused M (D__law_draw.mono (by decide)) (D__law_same.mono (by decide)) (D__law_told.mono (by decide)))
  obtain ⟨fd__law_whole, F__law_whole⟩ := c.m.def_ 16 (d := ⟨("_law_whole", none), "_law_whole", "_law_whole", defArgs (top 28), defBody (top 28), defScope (top 28), [], []⟩) rfl
  have B__law_whole : Binds K fd__law_whole ["rows"] [] := FunD.bindsN F__law_whole fun _ _ _ _ _ _ us hl => match us, hl with | [_], _ => rfl
  have D__law_whole : Df PySem.Challenge.pw_madeorbarred_k52_pairings_or_rooms w K mg base 1 "_law_whole" 1 m__law_whole := df_okT M.gd__law_whole F__law_whole sc__law_whole B__law_whole (bd__law_whole M)
  obtain ⟨fd__law_right, F__law_right⟩ := c.m.def_ 17 (d := ⟨("_law_right", none), "_law_right", "_law_right", defArgs (top 29), defBody (top 29), defScope (top 29), [], []⟩) rfl
  have B__law_right : Binds K fd__law_right ["rows", "told", "room"] [] := FunD.bindsN F__law_right fun _ _ _ _ _ _ us hl => match us, hl with | [_, _, _], _ => rfl
  have D__law_right : Df PySem.Challenge.pw_madeorbarred_k52_pairings_or_rooms w K mg base 5 "_law_right" 3 m__law_right := df_okT M.gd__law_right F__law_right sc__law_right B__law_right (bd__law_right M (D__law_whole.mono (by decide)) (D__law_same.mono (by decide)))
  obtain ⟨fd__law_asked, F__law_asked⟩ := c.m.def_ 18 (d := ⟨("_law_asked", none), "_law_asked", "_law_asked", defArgs (top 30), defBody (top 30), defScope (top 30), [], []⟩) rfl
  have B__law_asked : Binds K fd__law_asked ["rows", "room", "tuples"] [] := FunD.bindsN F__law_asked fun _ _ _ _ _ _ us hl => match us, hl with | [_, _, _], _ => rfl
  have D__law_asked : Df PySem.Challenge.pw_madeorbarred_k52_pairings_or_rooms w K mg base 6 "_law_asked" 3 m__law_asked := df_okT M.gd__law_asked F__law_asked sc__law_asked B__law_asked (bd__law_asked M (D__law_told.mono (by decide)) (D__law_right.mono (by decide)))
  exact def_ok F_law sc_law (bd_law M (D__law_pool.mono (by decide)) (D__law_draw.mono (by decide)) (D__law_small.mono (by decide)) (D__law_paired.mono (by decide)) (D__law_roomed.mono (by decide)) (D__law_has_room.mono (by decide)) (D__law_asked.mono (by decide)) (D__law_refused.mono (by decide)))
end K52

/-! The law's draws, the box, equal data; the store while numbers are drawn. -/
namespace K52
open PySem MB
/-- the law's box of numbers -/
def Box (cs : List D) : Prop := ∃ (s i r : Int) (rs : List Int), cs = .int s :: .int i :: .int r :: rs.map D.int ∧ 0 ≤ i
/-- cell k holds the box -/
def BoxAt (S : Store) (k : Nat) : Prop := ∃ cs, S[k]? = some (some (.lst cs)) ∧ Box cs
theorem ixN1 {n : Nat} : L2.ixN (n + 1 + 1) 1 = some 1 := by
  unfold L2.ixN
  rw [if_pos (by omega), if_pos (by omega)]
  rfl
theorem ixN2 {n : Nat} : L2.ixN (n + 1 + 1 + 1) 2 = some 2 := by
  unfold L2.ixN
  rw [if_pos (by omega), if_pos (by omega)]
  rfl
theorem atI_box {s i i' r : Int} {rs : List Int} (h0 : 0 ≤ i) (h : i + 2 < (rs.length : Int) + 1 + 1 + 1) : ∃ z, L2.atI (D.int s :: .int i' :: .int r :: rs.map D.int) (i + 2) = some (.int z) := by
  have h2 : (i + 2).toNat < (D.int s :: .int i' :: .int r :: rs.map D.int).length := by
    simp only [List.length_cons, List.length_map] at h ⊢
    omega
  have e : L2.atI (D.int s :: .int i' :: .int r :: rs.map D.int) (i + 2) = (D.int s :: .int i' :: .int r :: rs.map D.int)[(i + 2).toNat]? := by
    unfold L2.atI L2.ixN
    have h3 : i + 2 < (((D.int s :: .int i' :: .int r :: rs.map D.int).length : Nat) : Int) := by simpa using h
    rw [if_pos (by omega), if_pos h3]
    rfl
  rw [e, List.getElem?_eq_getElem h2]
  have : ∀ (l : List Int) (k : Nat) (h : k < (l.map D.int).length), ∃ z, (l.map D.int)[k] = .int z := fun l k h => ⟨l[k]'(by simpa using h), by simp⟩
  obtain ⟨z, hz⟩ := this (s :: i' :: r :: rs) (i + 2).toNat (by simpa using h2)
  exact ⟨z, by simpa using hz⟩
theorem fmod_lt {a b : Int} (h : 0 < b) : 0 ≤ a.fmod b ∧ a.fmod b < b := ⟨Int.fmod_nonneg_of_pos _ h, Int.fmod_lt_of_pos _ h⟩
theorem box_cl {n : Nat} {s i r : Int} {rs : List Int} : clC n (.lst (D.int s :: .int i :: .int r :: rs.map D.int)) := by
  show clDs n _
  simp
theorem draw_spec {S : Store} {k : Nat} {many : Int} (hb : BoxAt S k) (h0 : 0 < many) (hd : divOk 0 many = true) : ∃ z cs, m__law_draw [.ce k, .int many] S = .ok (.int z) (S.set k (some (.lst cs))) ∧ Box cs ∧ 0 ≤ z ∧ z < many := by
  obtain ⟨cs, hS, s, i, r, rs, rfl, hi⟩ := hb
  have hk : k < S.length := (List.getElem?_eq_some_iff.mp hS).1
  have hne : many ≠ 0 := by omega
  have hdk : ∀ z, divOk z many = true := fun z => hd
  have hset : ∀ x, (S.set k x)[k]? = some x := fun x => by simp [hk]
  have fin : ∀ {z : Int} {s' i' r' : Int}, 0 ≤ i' → 0 ≤ z → z < many → runS b__law_draw 4 [.ce k, .int many] S = .ok (.int z) (S.set k (some (.lst (D.int s' :: .int i' :: .int r' :: rs.map D.int)))) →
      ∃ z cs, m__law_draw [.ce k, .int many] S = .ok (.int z) (S.set k (some (.lst cs))) ∧ Box cs ∧ 0 ≤ z ∧ z < many := fun {z s' i' r'} h1 h2 h3 e => by
    refine ⟨z, _, ?_, ⟨s', i', r', rs, rfl, h1⟩, h2, h3⟩
    show trimR S (runS b__law_draw 4 [.ce k, .int many] S) = _
    rw [e]
    have c := CutOk.one (S := S) (T := []) (k := k) (c := .lst (D.int s' :: .int i' :: .int r' :: rs.map D.int)) box_cl
    rw [List.append_nil] at c
    exact trimR_ok c (by simp)
  by_cases hr : r = 0
  · subst hr
    by_cases hl : i + 1 + 2 < (rs.length : Int) + 1 + 1 + 1
    · obtain ⟨z, hz⟩ := atI_box (s := s) (i := i + 1) (i' := i + 1) (r := 0) (rs := rs) (by omega) hl
      refine fin (z := z.fmod many) (s' := s) (i' := i + 1) (r' := z.fdiv many) (by omega) (fmod_lt h0).1 (fmod_lt h0).2 ?_
      simp [b__law_draw, hS, hset, ixN1, ixN2, hz, hl, hne, hdk]
    · refine fin (z := ((((s * 48271 + (i + 1) * 69621 + 11).fmod 2147483647 * (s * 48271 + (i + 1) * 69621 + 11).fmod 2147483647 + (i + 1) * 40692 + 3).fmod 2147483399).fdiv 7).fmod many) (s' := s) (i' := i + 1) (r' := 0) (by omega) (fmod_lt h0).1 (fmod_lt h0).2 ?_
      obtain ⟨b1, b2⟩ := fmod_lt (a := s * 48271 + (i + 1) * 69621 + 11) (b := 2147483647) (by omega)
      have b3 : -18446744073709551616 < (s * 48271 + (i + 1) * 69621 + 11).fmod 2147483647 := by omega
      have b4 : (s * 48271 + (i + 1) * 69621 + 11).fmod 2147483647 < 18446744073709551616 := by omega
      simp [b__law_draw, hS, hset, ixN1, ixN2, hl, hne, hdk, b3, b4, mulOk, divOk]
  · refine fin (z := r.fmod many) (s' := s) (i' := i) (r' := r.fdiv many) hi (fmod_lt h0).1 (fmod_lt h0).2 ?_
    simp [b__law_draw, hS, hset, ixN1, ixN2, hr, hne, hdk]
theorem trimR_no {S S' : Store} {d : D} (h : ¬ clD S.length d) : trimR S (.ok d S') = .ok d S' := by
  unfold trimR
  exact if_neg fun z => h z.2
def poolE (x : Option Sl) (s : Int) (l : List D) (ns : List Int) (S : Store) : En := ⟨[some (.val (.scr ns)), some (.val (.lst l)), x, some (.val (.int s))], S⟩
theorem pool_spec {S : Store} {ns : List Int} (h : ns.length ≤ 63) : ∃ cs, m__law_pool [.scr ns] S = .ok (.ce S.length) (S ++ [some (.lst cs)]) ∧ Box cs := by
  have hc : cutD ns none (some 63) = ns := cutD_all (by
    unfold HT.sIx
    constructor
    · rfl
    · show (if (63 : Int) < 0 then _ else _) = ns.length
      simp
      omega)
  have hE : E600 ≠ 0 := by have := E600_pos; have := E60_pos; have := E30_eq; omega
  have e1 : eComp it__law_pool_0 (bNm 2) (eC (.bl true)) ce__law_pool_1 [2] ⟨[some (.val (.scr ns)), none, none, none], S⟩
      = .ok (.lst ((ns.map D.int).map fun d => match d with | .int x => .int ((if x < 0 then -x else x).fmod E600) | d => d)) ⟨[some (.val (.scr ns)), none, none, none], S⟩ := by
    refine (eComp_map (ds := ns.map D.int) (ρ1 := ⟨[some (.val (.scr ns)), none, none, none], S⟩) ?_ (by simp; omega) ?_).trans rfl
    · simp [it__law_pool_0, hc]
    · intro d hd
      obtain ⟨x, _, rfl⟩ := List.mem_map.mp hd
      refine ⟨⟨[some (.val (.scr ns)), none, some (.val (.int x)), none], S⟩, rfl, ⟨[some (.val (.scr ns)), none, some (.val (.int x)), none], S⟩, ?_, rfl⟩
      simp [ce__law_pool_1, hE]
  have e2 : ∃ rs : List Int, ((ns.map D.int).map fun d => match d with | .int x => .int ((if x < 0 then -x else x).fmod E600) | d => d) = rs.map D.int ∧ rs.length = ns.length := ⟨ns.map fun x => (if x < 0 then -x else x).fmod E600, by simp, by simp⟩
  obtain ⟨rs, e3, e4⟩ := e2
  rw [e3] at e1
  have loop : ∃ ρ', loopS (bNm 2) g__law_pool_3 (rs.map D.int) (poolE none 6 (rs.map D.int) ns S) = .nx ρ' ∧ ∃ x s, ρ' = poolE x s (rs.map D.int) ns S := by
    refine loopS_inv (I := fun ρ => ∃ x s, ρ = poolE x s (rs.map D.int) ns S) (fun d hd ρ h => ?_) ⟨_, _, rfl⟩
    obtain ⟨x, s, rfl⟩ := h
    obtain ⟨y, _, rfl⟩ := List.mem_map.mp hd
    exact ⟨poolE (some (.val (.int y))) s (rs.map D.int) ns S, rfl, poolE (some (.val (.int y))) ((s * 31 + y.fmod 999983 + 1).fmod 1000003) (rs.map D.int) ns S, by simp [g__law_pool_3, poolE, mulOk], _, _, rfl⟩
  obtain ⟨ρ', e5, x, s, rfl⟩ := loop
  have hs : 3 + rs.length ≤ 16777216 := by omega
  refine ⟨D.int s :: .int 0 :: .int 0 :: rs.map D.int, ?_, s, 0, 0, rs, rfl, by omega⟩
  have e6 : runS b__law_pool 4 [.scr ns] S = .ok (.ce S.length) (S ++ [some (.lst (D.int s :: .int 0 :: .int 0 :: rs.map D.int))]) := by
    have e5' := e5
    unfold poolE at e5'
    simp [-eComp_ap, b__law_pool, e1, it__law_pool_2, e5', hs]
  show trimR S (runS b__law_pool 4 [.scr ns] S) = _
  rw [e6]
  exact trimR_no (by simp)
theorem allB_true : ∀ n : Nat, allD [.lst (List.replicate n (.bl true))] = some (.bl true) := fun n => by
  have h : asBools (List.replicate n (.bl true)) = some (List.replicate n true) := by
    rw [show List.replicate n (D.bl true) = (List.replicate n true).map D.bl by simp, asBools_map]
  unfold allD
  simp [h]
theorem same_eq (n : Nat) (ds : List D) (S : Store) : m__law_same (n + 1) ds S = endR (b__law_same (m__law_same n) (envOf 4 ds S)) := rfl
theorem same_refl : ∀ {n : Nat} {d : D} {S : Store}, Dat n d → m__law_same (n + 1) [d, d] S = .ok (.bl true) S := by
  intro n
  induction n with
  | zero =>
    intro d S h
    rw [same_eq]
    cases h with
    | non => simp [b__law_same, isNo, isBlD]
    | bl b => cases b <;> simp [b__law_same, isNo, isBlD]
    | int i => simp [b__law_same, isNo, isBlD]
    | str h => simp [b__law_same, isNo, isBlD]
  | succ n ih =>
    intro d S h
    have key : ∀ (e : D) (ds : List D) (hds : ∀ d ∈ ds, Dat n d), (∀ ρ : En, kZZ e e ρ = .ok (zipD ds ds) ρ) → ds.length ≤ 1000000 →
        eComp (it__law_same_0 (m__law_same (n + 1))) (bTp [bNm 2, bNm 3]) (eC (.bl true)) (ce__law_same_1 (m__law_same (n + 1))) [2, 3] ⟨[some (.val e), some (.val e), none, none], S⟩ = .ok (.lst (List.replicate ds.length (.bl true))) ⟨[some (.val e), some (.val e), none, none], S⟩ := by
      intro e ds hds hz hl
      have hlen : (zipD ds ds).length = ds.length := by simp [zipD]
      refine (eComp_map (ds := zipD ds ds) (g := fun _ => .bl true) (ρ1 := ⟨[some (.val e), some (.val e), none, none], S⟩) ?_ (by omega) ?_).trans ?_
      · simp [it__law_same_0, hz]
      · intro p hp
        obtain ⟨k, hk⟩ := List.getElem?_of_mem hp
        obtain ⟨a, b, ha, hb, rfl⟩ := zipD_get hk
        rw [ha] at hb
        cases hb
        have hm : a ∈ ds := List.mem_of_getElem? ha
        refine ⟨⟨[some (.val e), some (.val e), some (.val a), some (.val a)], S⟩, by simp, ⟨[some (.val e), some (.val e), some (.val a), some (.val a)], S⟩, ?_, by simp⟩
        have := ih (S := S) (hds a hm)
        simp [ce__law_same_1, this]
      · simp [List.map_const', hlen]
    cases h with
    | non => rw [same_eq]; simp [b__law_same, isNo, isBlD]
    | bl b => rw [same_eq]; cases b <;> simp [b__law_same, isNo, isBlD]
    | int i => rw [same_eq]; simp [b__law_same, isNo, isBlD]
    | str h => rw [same_eq]; simp [b__law_same, isNo, isBlD]
    | tup h hl =>
      rename_i ds
      have k := key (.tup ds) ds h (fun ρ => rfl) hl
      rw [same_eq]
      simp [-eComp_ap, b__law_same, isNo, isBlD, k, allB_true]
    | lst h hl =>
      rename_i ds
      have k := key (.lst ds) ds h (fun ρ => rfl) hl
      rw [same_eq]
      simp [-eComp_ap, b__law_same, isNo, isBlD, k, allB_true]
theorem run_same {b : SX} {n : Nat} {ds : List D} {S T : Store} {d : D} (h : runS b n ds S = .ok d (S ++ T)) (c : clD S.length d) : runQ b n ds S = .ok d S := by
  show trimR S (runS b n ds S) = _
  rw [h]
  exact trimR_ok CutOk.same c
theorem run_id {b : SX} {n : Nat} {ds : List D} {S : Store} {d : D} (h : runS b n ds S = .ok d S) (c : clD S.length d) : runQ b n ds S = .ok d S := run_same (T := []) (by rw [List.append_nil]; exact h) c
theorem run_err {b : SX} {n : Nat} {ds : List D} {S T : Store} {x : Ex} (h : runS b n ds S = .err x (S ++ T)) (c : clDs S.length (x.fs.map (·.2))) : runQ b n ds S = .err x S := by
  show trimR S (runS b n ds S) = _
  rw [h]
  exact trimR_err CutOk.same c
theorem run_ide {b : SX} {n : Nat} {ds : List D} {S : Store} {x : Ex} (h : runS b n ds S = .err x S) (c : clDs S.length (x.fs.map (·.2))) : runQ b n ds S = .err x S := run_err (T := []) (by rw [List.append_nil]; exact h) c
theorem run_one {b : SX} {n k : Nat} {ds : List D} {S T : Store} {d : D} {c : Cn} (h : runS b n ds S = .ok d (S.set k (some c) ++ T)) (hc : clC S.length c) (hd : clD S.length d) : runQ b n ds S = .ok d (S.set k (some c)) := by
  show trimR S (runS b n ds S) = _
  rw [h]
  exact trimR_ok (CutOk.one hc) hd
def xN (n : Int) : Ex := ⟨"NumberError", [("number", .int n)]⟩
def xS (n : Int) : Ex := ⟨"SizeError", [("count", .int n)]⟩
structure Bx (S : Store) (k : Nat) (W : Store) : Prop where
  lt : k < S.length
  le : S.length ≤ W.length
  out : ∀ j, j < S.length → j ≠ k → W[j]? = S[j]?
  box : BoxAt W k
theorem Bx.refl {S : Store} {k : Nat} (h : BoxAt S k) : Bx S k S := by
  obtain ⟨cs, e, _⟩ := id h
  exact ⟨(List.getElem?_eq_some_iff.mp e).1, Nat.le_refl _, fun _ _ _ => rfl, h⟩
theorem BoxAt.get {W W' : Store} {k : Nat} (h : BoxAt W k) (e : W'[k]? = W[k]?) : BoxAt W' k := by
  obtain ⟨cs, h1, h2⟩ := h
  exact ⟨cs, e.trans h1, h2⟩
theorem Bx.push {S W : Store} {k : Nat} (b : Bx S k W) (c : Option Cn) : Bx S k (W ++ [c]) := by
  have hl := b.lt
  have hw := b.le
  refine ⟨b.lt, by rw [List.length_append]; omega, fun j hj ne => ?_, b.box.get ?_⟩
  · rw [List.getElem?_append_left (by omega)]
    exact b.out j hj ne
  · rw [List.getElem?_append_left (by omega)]
theorem Bx.put {S W : Store} {k j : Nat} (b : Bx S k W) (c : Option Cn) (h : S.length ≤ j) : Bx S k (W.set j c) := by
  have hl := b.lt
  refine ⟨b.lt, by rw [List.length_set]; exact b.le, fun i hi ne => ?_, b.box.get ?_⟩
  · rw [List.getElem?_set_ne (by omega)]
    exact b.out i hi ne
  · rw [List.getElem?_set_ne (by omega)]
/-- a draw: another box, all else as it was -/
structure Dr (k : Nat) (W W' : Store) : Prop where
  len : W'.length = W.length
  out : ∀ j, j ≠ k → W'[j]? = W[j]?
  box : BoxAt W' k
theorem Bx.dr {S W W' : Store} {k : Nat} (b : Bx S k W) (d : Dr k W W') : Bx S k W' :=
  ⟨b.lt, by rw [d.len]; exact b.le, fun j hj ne => (d.out j ne).trans (b.out j hj ne), d.box⟩
theorem Dr.trans {k : Nat} {W W1 W2 : Store} (a : Dr k W W1) (b : Dr k W1 W2) : Dr k W W2 :=
  ⟨b.len.trans a.len, fun j h => (b.out j h).trans (a.out j h), b.box⟩
theorem Dr.of {k : Nat} {W : Store} {cs : List D} (hk : k < W.length) (h : Box cs) : Dr k W (W.set k (some (.lst cs))) :=
  ⟨List.length_set, fun j ne => List.getElem?_set_ne (Ne.symm ne), ⟨cs, by rw [List.getElem?_set_self hk], h⟩⟩
theorem BoxAt.lt {W : Store} {k : Nat} (h : BoxAt W k) : k < W.length := by
  obtain ⟨cs, e, _⟩ := h
  exact (List.getElem?_eq_some_iff.mp e).1
theorem draw_dr {W : Store} {k : Nat} {many : Int} (hb : BoxAt W k) (h0 : 0 < many) (hd : many < 1073741824) : ∃ z W', m__law_draw [.ce k, .int many] W = .ok (.int z) W' ∧ Dr k W W' ∧ 0 ≤ z ∧ z < many := by
  have hdo : divOk 0 many = true := by
    unfold divOk
    simp only [Bool.or_eq_true, decide_eq_true_eq]
    left
    omega
  obtain ⟨z, cs, e, bx, z0, z1⟩ := draw_spec hb h0 hdo
  exact ⟨z, _, e, Dr.of hb.lt bx, z0, z1⟩
theorem Bx.form {S W : Store} {k : Nat} (b : Bx S k W) : ∃ cs, Box cs ∧ W = S.set k (some (.lst cs)) ++ W.drop S.length := by
  obtain ⟨cs, e, bx⟩ := b.box
  refine ⟨cs, bx, ?_⟩
  have hle := b.le
  have hlt := b.lt
  refine List.ext_getElem? fun j => ?_
  by_cases hj : j < S.length
  · rw [List.getElem?_append_left (by rw [List.length_set]; exact hj)]
    by_cases hk : j = k
    · subst hk
      rw [e, List.getElem?_set_self hlt]
    · rw [List.getElem?_set_ne (Ne.symm hk)]
      exact b.out j hj hk
  · rw [List.getElem?_append_right (by rw [List.length_set]; omega), List.getElem?_drop, List.length_set]
    congr 1
    omega
/-- the end of a def that drew: its own cells are forgotten -/
theorem Bx.fin {b : SX} {n k : Nat} {ds : List D} {S W : Store} {d : D} (B : Bx S k W) (h : runS b n ds S = .ok d W) (hd : clD S.length d) : ∃ W', runQ b n ds S = .ok d W' ∧ Dr k S W' := by
  obtain ⟨cs, bx, e⟩ := B.form
  rw [e] at h
  refine ⟨_, run_one h ?_ hd, Dr.of B.lt bx⟩
  obtain ⟨s, i, r, rs, rfl, _⟩ := bx
  exact box_cl
theorem Dr.refl {k : Nat} {B : Store} (h : BoxAt B k) : Dr k B B := ⟨rfl, fun _ _ => rfl, h⟩
theorem BoxAt.app {B T : Store} {k : Nat} (h : BoxAt B k) : BoxAt (B ++ T) k := by
  have := h.lt
  exact h.get (List.getElem?_append_left this)
theorem draw_app {B T : Store} {k : Nat} {many : Int} (hb : BoxAt B k) (h0 : 0 < many) (hd : many < 1073741824) : ∃ z B', m__law_draw [.ce k, .int many] (B ++ T) = .ok (.int z) (B' ++ T) ∧ Dr k B B' ∧ 0 ≤ z ∧ z < many := by
  have hk := hb.lt
  have hdo : divOk 0 many = true := by
    unfold divOk
    simp only [Bool.or_eq_true, decide_eq_true_eq]
    left
    omega
  obtain ⟨z, cs, e, bx, z0, z1⟩ := draw_spec (hb.app (T := T)) h0 hdo
  refine ⟨z, B.set k (some (.lst cs)), ?_, Dr.of hk bx, z0, z1⟩
  rw [e, List.set_append_left _ _ hk]
theorem len_cell {S : Store} {k : Nat} {l : List D} (h : S[k]? = some (some (.lst l))) : lenS S (.ce k) = some (.int (l.length : Nat)) := by
  simp [h]
theorem popAt_z {ds : List D} {i : Nat} {z : Int} (hz : z = (i : Nat)) (h : i < ds.length) (hl : ds.length ≤ 1000000) : popAtF ds [.int z] = some (ds[i], ds.eraseIdx i) := by
  show (if -(2 ^ 63) ≤ z ∧ z < 2 ^ 63 then (seqIndex? z ds.length).bind fun k => (ds[k]?).map fun x => (x, ds.eraseIdx k) else none) = _
  have hc : -(2 ^ 63) ≤ z ∧ z < 2 ^ 63 := by constructor <;> omega
  rw [if_pos hc]
  have e : seqIndex? z ds.length = some i := by
    unfold seqIndex?
    subst hz
    simp
    omega
  rw [e]
  show (ds[i]?).map _ = _
  rw [List.getElem?_eq_getElem h]
  rfl
theorem popAt_nat {ds : List D} {i : Nat} (h : i < ds.length) (hl : ds.length ≤ 1000000) : popAtF ds [.int (i : Nat)] = some (ds[i], ds.eraseIdx i) := popAt_z rfl h hl
theorem app_ok {ds : List D} {e : D} (h : ds.length < 16777216) : appF ds [e] = some (.non, ds ++ [e]) := by
  simp [h]
theorem draw_evT {sl : List (Option Sl)} {B T : Store} {k i : Nat} {f : EX} {many : Int} (hb : BoxAt B k) (h0 : 0 < many) (hd : many < 1073741824) (hs : sl[0]? = some (some (.val (.ce k)))) (hf : ∀ S, f ⟨sl, S⟩ = .ok (.int many) ⟨sl, S⟩) : ∃ z B', eFn m__law_draw [(eVar 0), f] ⟨sl, B ++ T⟩ = .ok (.int z) ⟨sl, B' ++ T⟩ ∧ Dr k B B' ∧ 0 ≤ z ∧ z < many := by
  obtain ⟨z, B', e, d, z0, z1⟩ := draw_app (T := T) hb h0 hd
  exact ⟨z, B', fn2_ (v_ hs) (hf _) e, d, z0, z1⟩
theorem min_ok {i j : Int} : minD [.int i, .int j] = some (.int (if j < i then j else i)) := rfl
theorem app1 {α : Type} {B : List α} {a b : α} : (B ++ [a]) ++ [b] = B ++ [a, b] := by simp
theorem draw_i {sl : List (Option Sl)} {B : Store} {k i : Nat} {many : Int} (hb : BoxAt B k) (h0 : 0 < many) (hd : many < 1073741824) (hs : sl[i]? = some (some (.val (.ce k)))) : ∃ z B', eFn m__law_draw [(eVar i), (eC (.int many))] ⟨sl, B⟩ = .ok (.int z) ⟨sl, B'⟩ ∧ Dr k B B' ∧ 0 ≤ z ∧ z < many := by
  obtain ⟨z, B', e, d, z0, z1⟩ := draw_dr hb h0 hd
  exact ⟨z, B', fn2_ (v_ hs) c_ e, d, z0, z1⟩
theorem or_ff {f g : EX} {sl : List (Option Sl)} {W W1 W2 : Store} (h1 : f ⟨sl, W⟩ = .ok (.bl false) ⟨sl, W1⟩) (h2 : g ⟨sl, W1⟩ = .ok (.bl false) ⟨sl, W2⟩) {u : SX} : sIf (eOr f g) u sNil ⟨sl, W⟩ = .nx ⟨sl, W2⟩ :=
  (if_f ((or_f h1 rfl).trans h2) rfl).trans nil_
abbrev vI (z : Int) : Option Sl := some (.val (.int z))
abbrev vC (n : Nat) : Option Sl := some (.val (.ce n))
abbrev vL (l : List D) : Option Sl := some (.val (.lst l))
theorem at_list {l : List D} {z : Int} {S : Store} (h0 : 0 ≤ z) (h1 : z < l.length) : ∃ d, d ∈ l ∧ ixS S (.lst l) (.int z) = some d := by
  obtain ⟨i, rfl⟩ := Int.eq_ofNat_of_zero_le h0
  have hi : i < l.length := by omega
  refine ⟨l[i], List.getElem_mem hi, ?_⟩
  show L2.atI l ((i : Nat) : Int) = _
  rw [atI_nat, List.getElem?_eq_getElem hi]

end K52

/-! Pairings and rooms: the search by exchange, in plain words. -/
namespace K52
theorem sub_len {α : Type} [DecidableEq α] : ∀ {l m : List α}, l.Nodup → (∀ x ∈ l, x ∈ m) → l.length ≤ m.length
  | [], _, _, _ => Nat.zero_le _
  | a :: l, m, h, s => by
    have ha := s a List.mem_cons_self
    have hn := List.nodup_cons.mp h
    have := sub_len (l := l) (m := m.erase a) hn.2 fun x mx => by
      rw [List.mem_erase_of_ne fun e => hn.1 (by rw [← e]; exact mx)]
      exact s x (List.mem_cons_of_mem _ mx)
    rw [List.length_erase_of_mem ha] at this
    have : 0 < m.length := List.length_pos_of_mem ha
    rw [List.length_cons]
    omega
def row (rows : List (List Int)) (i : Nat) : List Int := rows[i]?.getD []
def getP (l : List (Int × Nat)) (x : Int) : Option Nat := (l.find? fun p => p.1 == x).map (·.2)
def repP (x : Int) (i : Nat) : List (Int × Nat) → List (Int × Nat)
  | [] => []
  | p :: l => (if p.1 = x then (p.1, i) else p) :: repP x i l
def putP (l : List (Int × Nat)) (x : Int) (i : Nat) : List (Int × Nat) := match getP l x with
  | some _ => repP x i l
  | none => l ++ [(x, i)]
theorem getP_cons {p : Int × Nat} {l : List (Int × Nat)} {x : Int} : getP (p :: l) x = if p.1 = x then some p.2 else getP l x := by
  unfold getP
  rw [List.find?_cons]
  by_cases h : p.1 = x
  · simp [h]
  · have : (p.1 == x) = false := by simpa using h
    simp [this, h]
theorem getP_app {l m : List (Int × Nat)} {x : Int} : getP (l ++ m) x = (getP l x).or (getP m x) := by
  induction l with
  | nil => rfl
  | cons p l ih =>
    rw [List.cons_append, getP_cons, getP_cons, ih]
    by_cases h : p.1 = x
    · rw [if_pos h, if_pos h]; rfl
    · rw [if_neg h, if_neg h]
theorem getP_none {l : List (Int × Nat)} {x : Int} : getP l x = none ↔ x ∉ l.map (·.1) := by
  induction l with
  | nil => simp [getP]
  | cons p l ih =>
    rw [getP_cons, List.map_cons, List.mem_cons]
    by_cases h : p.1 = x
    · rw [if_pos h]; simp [h]
    · rw [if_neg h, ih]
      have : ¬ x = p.1 := fun e => h e.symm
      simp [this]
theorem getP_rep {x y : Int} {i : Nat} : ∀ {l : List (Int × Nat)}, getP (repP x i l) y = if x = y then (getP l y).map fun _ => i else getP l y
  | [] => by
    have : getP [] y = none := rfl
    rw [repP, this]
    split <;> rfl
  | p :: l => by
    rw [repP, getP_cons, getP_cons, getP_rep]
    by_cases h : p.1 = x
    · rw [if_pos h]
      by_cases e : x = y
      · rw [if_pos (show p.1 = y from h.trans e), if_pos e, if_pos (h.trans e)]; rfl
      · rw [if_neg (show ¬ p.1 = y from fun q => e (h.symm.trans q)), if_neg e, if_neg e, if_neg (fun q => e (h.symm.trans q))]
    · rw [if_neg h]
      by_cases e : x = y
      · subst e
        rw [if_neg h, if_pos rfl, if_pos rfl, if_neg h]
      · rw [if_neg e, if_neg e]
theorem getP_put {x y : Int} {i : Nat} {l : List (Int × Nat)} : getP (putP l x i) y = if x = y then some i else getP l y := by
  unfold putP
  cases h : getP l x with
  | some k =>
    show getP (repP x i l) y = _
    rw [getP_rep]
    by_cases e : x = y
    · subst e
      rw [if_pos rfl, if_pos rfl, h]
      rfl
    · rw [if_neg e, if_neg e]
  | none =>
    show getP (l ++ [(x, i)]) y = _
    rw [getP_app, getP_cons]
    by_cases e : x = y
    · subst e
      rw [if_pos rfl, if_pos rfl, h]
      rfl
    · rw [if_neg e, if_neg e]
      cases getP l y <;> rfl
theorem putP_len {x : Int} {i : Nat} {l : List (Int × Nat)} : (putP l x i).length ≤ l.length + 1 := by
  have hr : ∀ l : List (Int × Nat), (repP x i l).length = l.length := fun l => by
    induction l with
    | nil => rfl
    | cons p l ih => rw [repP, List.length_cons, List.length_cons, ih]
  unfold putP
  cases getP l x with
  | some k => show (repP x i l).length ≤ _; rw [hr]; omega
  | none => show (l ++ [(x, i)]).length ≤ _; simp
theorem getP_at {l : List (Int × Nat)} (nd : (l.map (·.1)).Nodup) {p : Nat} {x : Int} {s : Nat} (h : l[p]? = some (x, s)) : getP l x = some s := by
  induction l generalizing p with
  | nil => simp at h
  | cons q l ih =>
    have hn := List.nodup_cons.mp nd
    cases p with
    | zero =>
      simp at h
      rw [getP_cons, h, if_pos rfl]
    | succ p =>
      have h' : l[p]? = some (x, s) := by simpa using h
      have hm : x ∈ l.map (·.1) := List.mem_map.mpr ⟨_, List.mem_of_getElem? h', rfl⟩
      rw [getP_cons, if_neg fun e => hn.1 (by show q.1 ∈ _; rw [e]; exact hm)]
      exact ih hn.2 h'
/-- no entry is -1 -/
def Fit (rows : List (List Int)) : Prop := ∀ i, (-1 : Int) ∉ row rows i
/-- the first k rows are paired -/
structure Mt (rows : List (List Int)) (k : Nat) (ch : List Int) (ow : List (Int × Nat)) : Prop where
  cl : ch.length = rows.length
  as_ : ∀ i, i < k → ∃ x, ch[i]? = some x ∧ x ∈ row rows i
  fr : ∀ i, k ≤ i → i < rows.length → ch[i]? = some (-1)
  ow : ∀ x i, x ≠ -1 → (getP ow x = some i ↔ ch[i]? = some x)
/-- the search from row k -/
structure Bf (rows : List (List Int)) (k : Nat) (ow : List (Int × Nat)) (src : List (Int × Nat)) (met : List Nat) : Prop where
  len : met.length = src.length + 1
  h0 : met[0]? = some k
  own : ∀ (p : Nat) (x : Int) (s : Nat), src[p]? = some (x, s) → ∃ i, met[p + 1]? = some i ∧ getP ow x = some i
  nd : (src.map (·.1)).Nodup
  bk : ∀ (p : Nat) (x : Int) (s : Nat), src[p]? = some (x, s) → ∃ q, q ≤ p ∧ met[q]? = some s ∧ x ∈ row rows s
section
variable {rows : List (List Int)} {k : Nat} {ch : List Int} {ow src : List (Int × Nat)} {met : List Nat}
theorem Bf.ne1 (F : Fit rows) (B : Bf rows k ow src met) {p : Nat} {x : Int} {s : Nat} (h : src[p]? = some (x, s)) : x ≠ -1 := by
  obtain ⟨q, _, _, m⟩ := B.bk p x s h
  rintro rfl
  exact F s m
theorem Bf.met_ch (F : Fit rows) (M : Mt rows k ch ow) (B : Bf rows k ow src met) {p : Nat} {i : Nat} (h : met[p + 1]? = some i) : ∃ x s, src[p]? = some (x, s) ∧ ch[i]? = some x ∧ x ≠ -1 := by
  have hp : p < src.length := by
    have := (List.getElem?_eq_some_iff.mp h).1
    have := B.len
    omega
  have e : src[p]? = some (src[p].1, src[p].2) := List.getElem?_eq_getElem hp
  obtain ⟨j, h1, h2⟩ := B.own p _ _ e
  rw [h] at h1
  cases h1
  have n := B.ne1 F e
  exact ⟨_, _, e, (M.ow _ _ n).mp h2, n⟩
theorem Bf.inj (F : Fit rows) (hk : k < rows.length) (M : Mt rows k ch ow) (B : Bf rows k ow src met) : ∀ {a b i : Nat}, met[a]? = some i → met[b]? = some i → a = b := by
  have z : ∀ {p i : Nat}, met[0]? = some i → met[p + 1]? = some i → False := by
    intro p i h0 h1
    rw [B.h0] at h0
    cases h0
    obtain ⟨x, s, _, h3, n⟩ := B.met_ch F M h1
    rw [M.fr k (Nat.le_refl _) hk] at h3
    cases h3
    exact n rfl
  intro a b i ha hb
  cases a with
  | zero =>
    cases b with
    | zero => rfl
    | succ b => exact (z ha hb).elim
  | succ a =>
    cases b with
    | zero => exact (z hb ha).elim
    | succ b =>
      obtain ⟨x, s, e1, h1, _⟩ := B.met_ch F M ha
      obtain ⟨y, t, e2, h2, _⟩ := B.met_ch F M hb
      rw [h1] at h2
      cases h2
      have q1 : (src.map (·.1))[a]? = some x := by rw [List.getElem?_map, e1]; rfl
      have q2 : (src.map (·.1))[b]? = some x := by rw [List.getElem?_map, e2]; rfl
      obtain ⟨l1, g1⟩ := List.getElem?_eq_some_iff.mp q1
      obtain ⟨l2, g2⟩ := List.getElem?_eq_some_iff.mp q2
      have := (List.getElem_inj B.nd).mp (g1.trans g2.symm)
      omega
theorem Bf.nodup (F : Fit rows) (hk : k < rows.length) (M : Mt rows k ch ow) (B : Bf rows k ow src met) : met.Nodup := by
  rw [List.nodup_iff_pairwise_ne, List.pairwise_iff_getElem]
  intro i j hi hj lt e
  have := B.inj F hk M (List.getElem?_eq_getElem hi) (by rw [List.getElem?_eq_getElem hj, e])
  omega
theorem Bf.small (F : Fit rows) (hk : k < rows.length) (M : Mt rows k ch ow) (B : Bf rows k ow src met) : ∀ i ∈ met, i < rows.length := by
  intro i m
  obtain ⟨a, ha, rfl⟩ := List.getElem_of_mem m
  cases a with
  | zero =>
    have := B.h0
    rw [List.getElem?_eq_getElem ha] at this
    cases this
    exact hk
  | succ a =>
    obtain ⟨x, s, _, h, _⟩ := B.met_ch F M (List.getElem?_eq_getElem ha)
    rw [← M.cl]
    exact (List.getElem?_eq_some_iff.mp h).1
theorem Bf.short (F : Fit rows) (hk : k < rows.length) (M : Mt rows k ch ow) (B : Bf rows k ow src met) : met.length ≤ rows.length := by
  have := sub_len (B.nodup F hk M) (m := List.range rows.length) fun i m => List.mem_range.mpr (B.small F hk M i m)
  rwa [List.length_range] at this
end
/-- the exchange along the way back -/
def pass (src : List (Int × Nat)) : Nat → Int → List Int → List (Int × Nat) → Option (List Int × List (Int × Nat))
  | 0, _, _, _ => none
  | f + 1, g, ch, ow => if g = -1 then some (ch, ow) else match getP src g with
    | none => none
    | some s => match ch[s]? with
      | none => none
      | some b => pass src f b (ch.set s g) (putP ow g s)
section
variable {rows : List (List Int)} {k : Nat} {ch0 : List Int} {ow0 src : List (Int × Nat)} {met : List Nat} {srcY : List (Int × Nat)}
theorem pass_ok (F : Fit rows) (hk : k < rows.length) (M : Mt rows k ch0 ow0) (B : Bf rows k ow0 src met) (hY : ∀ (p : Nat) (x : Int) (s : Nat), src[p]? = some (x, s) → getP srcY x = some s) :
    ∀ (q : Nat) (g : Int) (ch : List Int) (ow : List (Int × Nat)) (s : Nat), met[q]? = some s → getP srcY g = some s → g ∈ row rows s → (∀ (p i : Nat), p ≤ q → met[p]? = some i → ch[i]? = ch0[i]?) →
      ch.length = rows.length → (∀ i : Nat, i < k → ∃ x, ch[i]? = some x ∧ x ∈ row rows i) → (∀ i : Nat, k ≤ i → i < rows.length → ch[i]? = some (-1)) →
      (∀ (x : Int) (i : Nat), x ≠ -1 → x ≠ g → (getP ow x = some i ↔ ch[i]? = some x)) → (∀ i : Nat, ch[i]? ≠ some g) →
      ∃ ch' ow', pass srcY (q + 2) g ch ow = some (ch', ow') ∧ Mt rows (k + 1) ch' ow' := by
  intro q
  induction q using Nat.strongRecOn with
  | ind q ih =>
    intro g ch ow s hq hg hr hsame hcl has hfr how hng
    have g1 : g ≠ -1 := by
      rintro rfl
      exact F s hr
    have hs : s < ch.length := by
      rw [hcl]
      exact B.small F hk M s (List.mem_of_getElem? hq)
    cases q with
    | zero =>
      rw [B.h0] at hq
      cases hq
      have hb : ch[k]? = some (-1) := hfr k (Nat.le_refl _) hk
      refine ⟨ch.set k g, putP ow g k, ?_, by rw [List.length_set]; exact hcl, fun i hi => ?_, fun i hi hl => ?_, fun x i hx => ?_⟩
      · rw [pass, if_neg g1, hg]
        show (match ch[k]? with | none => none | some b => _) = _
        rw [hb]
        show pass srcY 1 (-1) _ _ = _
        rw [pass, if_pos rfl]
      · by_cases e : i = k
        · subst e
          exact ⟨g, List.getElem?_set_self hs, hr⟩
        · rw [List.getElem?_set_ne (Ne.symm e)]
          exact has i (by omega)
      · rw [List.getElem?_set_ne (by omega)]
        exact hfr i (by omega) hl
      · rw [getP_put]
        by_cases e : g = x
        · subst e
          rw [if_pos rfl]
          by_cases ei : k = i
          · subst ei
            rw [List.getElem?_set_self hs]
            simp
          · rw [List.getElem?_set_ne ei]
            constructor
            · intro h; cases h; exact (ei rfl).elim
            · intro h; exact (hng i h).elim
        · rw [if_neg e, how x i hx (Ne.symm e)]
          by_cases ei : k = i
          · subst ei
            rw [List.getElem?_set_self hs, hb]
            constructor
            · intro h; cases h; exact (hx rfl).elim
            · intro h; cases h; exact (e rfl).elim
          · rw [List.getElem?_set_ne ei]
    | succ p =>
      obtain ⟨x, s', e1, h1, nx⟩ := B.met_ch F M hq
      obtain ⟨q', lq, hq', hx'⟩ := B.bk p x s' e1
      have hb : ch[s]? = some x := (hsame _ _ (Nat.le_refl _) hq).trans h1
      have gx : g ≠ x := by
        rintro rfl
        exact hng s hb
      have sk : ∀ i, k ≤ i → i ≠ s := by
        rintro i hi rfl
        rw [hfr i hi (by rw [← hcl]; exact hs)] at hb
        cases hb
        exact nx rfl
      obtain ⟨ch', ow', e2, M'⟩ := ih q' (by omega) x (ch.set s g) (putP ow g s) s' hq' (hY p x s' e1) hx' (fun a i ha hi => by
          have ne : s ≠ i := by
            rintro rfl
            have := B.inj F hk M hi hq
            omega
          rw [List.getElem?_set_ne ne]
          exact hsame a i (by omega) hi) (by rw [List.length_set]; exact hcl) (fun i hi => by
          by_cases e : s = i
          · subst e
            exact ⟨g, List.getElem?_set_self hs, hr⟩
          · rw [List.getElem?_set_ne e]
            exact has i hi) (fun i hi hl => by
          rw [List.getElem?_set_ne (Ne.symm (sk i hi))]
          exact hfr i hi hl) (fun y i hy hyx => by
          rw [getP_put]
          by_cases e : g = y
          · subst e
            rw [if_pos rfl]
            by_cases ei : s = i
            · subst ei
              rw [List.getElem?_set_self hs]
              simp
            · rw [List.getElem?_set_ne ei]
              constructor
              · intro h; cases h; exact (ei rfl).elim
              · intro h; exact (hng i h).elim
          · rw [if_neg e, how y i hy (Ne.symm e)]
            by_cases ei : s = i
            · subst ei
              rw [List.getElem?_set_self hs, hb]
              constructor
              · intro h; cases h; exact (hyx rfl).elim
              · intro h; cases h; exact (e rfl).elim
            · rw [List.getElem?_set_ne ei]) (fun i h => by
          by_cases ei : s = i
          · subst ei
            rw [List.getElem?_set_self hs] at h
            cases h
            exact gx rfl
          · rw [List.getElem?_set_ne ei] at h
            have a := (how x i nx (Ne.symm gx)).mpr h
            have b := (how x s nx (Ne.symm gx)).mpr hb
            rw [a] at b
            cases b
            exact ei rfl)
      have e3 : pass srcY (q' + 2) x (ch.set s g) (putP ow g s) = some (ch', ow') := e2
      have more : ∀ (f : Nat) (g : Int) (ch : List Int) (ow : List (Int × Nat)) (r : List Int × List (Int × Nat)), pass srcY f g ch ow = some r → pass srcY (f + 1) g ch ow = some r := by
        intro f
        induction f with
        | zero => intro g ch ow r h; cases h
        | succ f ihf =>
          intro g ch ow r h
          rw [pass] at h ⊢
          by_cases c : g = -1
          · rw [if_pos c] at h ⊢; exact h
          · rw [if_neg c] at h ⊢
            cases hgp : getP srcY g with
            | none => rw [hgp] at h; cases h
            | some s =>
              rw [hgp] at h
              have h' : (match ch[s]? with | none => none | some b => pass srcY f b (ch.set s g) (putP ow g s)) = some r := h
              show (match ch[s]? with | none => none | some b => pass srcY (f + 1) b (ch.set s g) (putP ow g s)) = some r
              cases hcs : ch[s]? with
              | none => rw [hcs] at h'; cases h'
              | some b => rw [hcs] at h'; exact ihf _ _ _ _ h'
      have up : ∀ d, pass srcY (q' + 2 + d) x (ch.set s g) (putP ow g s) = some (ch', ow') := by
        intro d
        induction d with
        | zero => exact e3
        | succ d ihd => exact more _ _ _ _ _ ihd
      refine ⟨ch', ow', ?_, M'⟩
      rw [pass, if_neg g1, hg]
      show (match ch[s]? with | none => none | some b => _) = _
      rw [hb]
      show pass srcY (p + 2) x _ _ = _
      have := up (p - q')
      rw [show q' + 2 + (p - q') = p + 2 by omega] at this
      exact this
end
/-- one row is looked through -/
inductive Sc where
  | on (src : List (Int × Nat)) (met : List Nat) | free (x : Int) (src : List (Int × Nat)) (met : List Nat)
def scan (ow : List (Int × Nat)) (s : Nat) : List Int → List (Int × Nat) → List Nat → Sc
  | [], src, met => .on src met
  | x :: xs, src, met => if x ∈ src.map (·.1) then scan ow s xs src met else match getP ow x with
    | none => .free x (src ++ [(x, s)]) met
    | some i => scan ow s xs (src ++ [(x, s)]) (met ++ [i])
/-- what one row's look may leave -/
def ScOk (rows : List (List Int)) (k : Nat) (ow : List (Int × Nat)) (s : Nat) (src : List (Int × Nat)) (met : List Nat) (xs : List Int) : Sc → Prop
  | .on src' met' => Bf rows k ow src' met' ∧ (∀ x ∈ src.map (·.1), x ∈ src'.map (·.1)) ∧ met <+: met' ∧ ∀ x ∈ xs, x ∈ src'.map (·.1)
  | .free x srcY met' => ∃ src', Bf rows k ow src' met' ∧ met <+: met' ∧ srcY = src' ++ [(x, s)] ∧ x ∉ src'.map (·.1) ∧ getP ow x = none ∧ x ∈ row rows s
theorem scan_ok {rows : List (List Int)} {k : Nat} {ow : List (Int × Nat)} {s a : Nat} : ∀ (xs : List Int) (src : List (Int × Nat)) (met : List Nat), Bf rows k ow src met → met[a]? = some s → (∀ x ∈ xs, x ∈ row rows s) → ScOk rows k ow s src met xs (scan ow s xs src met)
  | [], src, met, B, _, _ => ⟨B, fun _ m => m, List.prefix_refl _, fun _ m => absurd m List.not_mem_nil⟩
  | x :: xs, src, met, B, ha, hx => by
    rw [scan]
    by_cases h : x ∈ src.map (·.1)
    · rw [if_pos h]
      have r := scan_ok xs src met B ha fun y m => hx y (List.mem_cons_of_mem _ m)
      revert r
      cases scan ow s xs src met with
      | on src' met' =>
        rintro ⟨b, c, d, e⟩
        exact ⟨b, c, d, fun y m => by
          rcases List.mem_cons.mp m with rfl | m
          · exact c _ h
          · exact e y m⟩
      | free y srcY met' => exact fun r => r
    · rw [if_neg h]
      cases hg : getP ow x with
      | none => exact ⟨src, B, List.prefix_refl _, rfl, h, hg, hx x List.mem_cons_self⟩
      | some i =>
        have al : a < met.length := (List.getElem?_eq_some_iff.mp ha).1
        have B' : Bf rows k ow (src ++ [(x, s)]) (met ++ [i]) := by
          refine ⟨by rw [List.length_append, List.length_append, B.len]; rfl, ?_, fun p y t e => ?_, ?_, fun p y t e => ?_⟩
          · rw [List.getElem?_append_left (by omega)]
            exact B.h0
          · by_cases hp : p < src.length
            · rw [List.getElem?_append_left hp] at e
              obtain ⟨j, h1, h2⟩ := B.own p y t e
              refine ⟨j, ?_, h2⟩
              rw [List.getElem?_append_left (List.getElem?_eq_some_iff.mp h1).1]
              exact h1
            · rw [List.getElem?_append_right (by omega)] at e
              have hz : p - src.length = 0 := by
                have := (List.getElem?_eq_some_iff.mp e).1
                simp at this
                omega
              rw [hz] at e
              simp at e
              obtain ⟨rfl, rfl⟩ := e
              refine ⟨i, ?_, hg⟩
              rw [List.getElem?_append_right (by have := B.len; omega)]
              have : p + 1 - met.length = 0 := by have := B.len; omega
              rw [this]
              rfl
          · rw [List.map_append, List.nodup_append]
            exact ⟨B.nd, by simp, fun u hu v hv => by
              have : v = x := by simpa using hv
              rw [this]
              rintro rfl
              exact h hu⟩
          · by_cases hp : p < src.length
            · rw [List.getElem?_append_left hp] at e
              obtain ⟨q, h1, h2, h3⟩ := B.bk p y t e
              refine ⟨q, h1, ?_, h3⟩
              rw [List.getElem?_append_left (List.getElem?_eq_some_iff.mp h2).1]
              exact h2
            · rw [List.getElem?_append_right (by omega)] at e
              have hz : p - src.length = 0 := by
                have := (List.getElem?_eq_some_iff.mp e).1
                simp at this
                omega
              rw [hz] at e
              simp at e
              obtain ⟨rfl, rfl⟩ := e
              refine ⟨a, by have := B.len; omega, ?_, hx x List.mem_cons_self⟩
              rw [List.getElem?_append_left al]
              exact ha
        have r := scan_ok xs (src ++ [(x, s)]) (met ++ [i]) B' (by rw [List.getElem?_append_left al]; exact ha) fun y m => hx y (List.mem_cons_of_mem _ m)
        revert r
        show ScOk rows k ow s (src ++ [(x, s)]) (met ++ [i]) xs (scan ow s xs (src ++ [(x, s)]) (met ++ [i])) → ScOk rows k ow s src met (x :: xs) (scan ow s xs (src ++ [(x, s)]) (met ++ [i]))
        cases scan ow s xs (src ++ [(x, s)]) (met ++ [i]) with
        | on src' met' =>
          rintro ⟨b, c, d, e⟩
          exact ⟨b, fun y m => c y (by rw [List.map_append]; exact List.mem_append_left _ m), (List.prefix_append _ _).trans d, fun y m => by
            rcases List.mem_cons.mp m with rfl | m
            · exact c _ (by simp)
            · exact e y m⟩
        | free y srcY met' =>
          rintro ⟨src', b, d, e⟩
          exact ⟨src', b, (List.prefix_append _ _).trans d, e⟩
/-- a pairing; a room -/
def Pairs (rows : List (List Int)) (ch : List Int) : Prop := ch.length = rows.length ∧ ch.Nodup ∧ ∀ i, i < rows.length → ∃ x, ch[i]? = some x ∧ x ∈ row rows i
def Room (rows : List (List Int)) (T : List Nat) : Prop := T.Pairwise (· < ·) ∧ T ≠ [] ∧ (∀ i ∈ T, i < rows.length) ∧ ∃ names : List Int, names.length < T.length ∧ ∀ i ∈ T, ∀ x ∈ row rows i, x ∈ names
theorem not_both {rows : List (List Int)} {ch : List Int} {T : List Nat} (P : Pairs rows ch) (R : Room rows T) : False := by
  obtain ⟨p1, p2, p3⟩ := P
  obtain ⟨r1, _, r3, names, r4, r5⟩ := R
  have nd : (T.map fun i => ch[i]?.getD 0).Nodup := by
    rw [List.nodup_iff_pairwise_ne, List.pairwise_map]
    refine r1.imp_of_mem ?_
    intro a b ma mb lt e
    have ha := r3 a ma
    have hb := r3 b mb
    rw [List.getElem?_eq_getElem (by omega), List.getElem?_eq_getElem (by omega)] at e
    have := (List.getElem_inj p2).mp e
    omega
  have := sub_len nd (m := names) fun x m => by
    obtain ⟨i, mi, rfl⟩ := List.mem_map.mp m
    obtain ⟨x, hx, hr⟩ := p3 i (r3 i mi)
    rw [hx]
    exact r5 i mi x hr
  rw [List.length_map] at this
  omega
theorem Mt.pairs {rows : List (List Int)} {ch : List Int} {ow : List (Int × Nat)} (F : Fit rows) (M : Mt rows rows.length ch ow) : Pairs rows ch := by
  refine ⟨M.cl, ?_, M.as_⟩
  rw [List.nodup_iff_pairwise_ne, List.pairwise_iff_getElem]
  intro i j hi hj lt e
  obtain ⟨x, h1, m1⟩ := M.as_ i (by rw [← M.cl]; exact hi)
  have n : x ≠ -1 := by
    rintro rfl
    exact F i m1
  have h2 : ch[j]? = some x := by
    rw [List.getElem?_eq_getElem hj, ← e, ← List.getElem?_eq_getElem hi]
    exact h1
  have a := (M.ow x i n).mpr h1
  have b := (M.ow x j n).mpr h2
  rw [a] at b
  cases b
  omega
theorem Mt.start (rows : List (List Int)) : Mt rows 0 (List.replicate rows.length (-1)) [] := by
  refine ⟨by simp, fun i h => absurd h (Nat.not_lt_zero _), fun i _ h => by simp [h], fun x i n => ?_⟩
  constructor
  · intro h; cases h
  · intro h
    rw [List.getElem?_replicate] at h
    split at h
    · cases h; exact (n rfl).elim
    · cases h
theorem Bf.start (rows : List (List Int)) (k : Nat) (ow : List (Int × Nat)) : Bf rows k ow [] [k] := ⟨rfl, rfl, fun p x s h => by simp at h, by simp, fun p x s h => by simp at h⟩
/-- all rows met are looked through: a room -/
theorem Bf.room {rows : List (List Int)} {k : Nat} {ch : List Int} {ow src : List (Int × Nat)} {met T : List Nat} (F : Fit rows) (hk : k < rows.length) (M : Mt rows k ch ow) (B : Bf rows k ow src met) (all : ∀ i ∈ met, ∀ x ∈ row rows i, x ∈ src.map (·.1)) (hp : T.Perm met) (hs : T.Pairwise (· ≤ ·)) : Room rows T := by
  have nd : T.Nodup := hp.nodup_iff.mpr (B.nodup F hk M)
  refine ⟨?_, ?_, fun i m => B.small F hk M i (hp.mem_iff.mp m), src.map (·.1), ?_, fun i m => all i (hp.mem_iff.mp m)⟩
  · have := List.nodup_iff_pairwise_ne.mp nd
    exact (hs.and this).imp fun h => Nat.lt_of_le_of_ne h.1 h.2
  · rintro rfl
    have := hp.length_eq
    rw [B.len] at this
    simp at this
  · rw [List.length_map, hp.length_eq, B.len]
    omega
end K52

/-! _pass_on. -/
namespace K52
open PySem MB
def enc (l : List (Int × Nat)) : List (L2.Key × D) := l.map fun p => (.inl p.1, .int (p.2 : Nat))
theorem enc_get {x : Int} : ∀ {l : List (Int × Nat)}, getA (enc l) (.inl x) = (getP l x).map fun i => D.int (i : Nat)
  | [] => rfl
  | p :: l => by
    show (if (Sum.inl p.1 : L2.Key) = .inl x then _ else _) = _
    rw [getP_cons]
    by_cases h : p.1 = x
    · rw [if_pos (by rw [h]), if_pos h]; rfl
    · rw [if_neg (fun e => h (Sum.inl.inj e)), if_neg h]
      exact enc_get
theorem enc_set {x : Int} {i : Nat} : ∀ {l : List (Int × Nat)}, setA (enc l) (.inl x) (.int (i : Nat)) = enc (repP x i l)
  | [] => rfl
  | p :: l => by
    show (if (Sum.inl p.1 : L2.Key) = .inl x then _ else _) :: setA (enc l) (.inl x) (.int (i : Nat)) = enc ((if p.1 = x then _ else _) :: repP x i l)
    rw [enc_set]
    by_cases h : p.1 = x
    · rw [if_pos (by rw [h]), if_pos h]; rfl
    · rw [if_neg (fun e => h (Sum.inl.inj e)), if_neg h]; rfl
theorem enc_put {x : Int} {i : Nat} {l : List (Int × Nat)} : putA (enc l) (.inl x) (.int (i : Nat)) = enc (putP l x i) := by
  unfold putA putP
  rw [enc_get]
  cases getP l x with
  | some k => exact enc_set
  | none =>
    show enc l ++ _ = enc (l ++ _)
    unfold enc
    rw [List.map_append]
    rfl
theorem enc_len {l : List (Int × Nat)} : (enc l).length = l.length := List.length_map _
/-- two cells are written, all else stands -/
structure Two (c o : Nat) (S S' : Store) (ch : List Int) (ow : List (Int × Nat)) : Prop where
  len : S'.length = S.length
  atc : S'[c]? = some (some (.lst (ch.map D.int)))
  ato : S'[o]? = some (some (.dct (enc ow)))
  out : ∀ j, j ≠ c → j ≠ o → S'[j]? = S[j]?
theorem Two.refl {c o : Nat} {S : Store} {ch : List Int} {ow : List (Int × Nat)} (h1 : S[c]? = some (some (.lst (ch.map D.int)))) (h2 : S[o]? = some (some (.dct (enc ow)))) : Two c o S S ch ow := ⟨rfl, h1, h2, fun _ _ _ => rfl⟩
theorem Two.trans {c o : Nat} {S S1 S2 : Store} {ch ch1 : List Int} {ow ow1 : List (Int × Nat)} (a : Two c o S S1 ch1 ow1) (b : Two c o S1 S2 ch ow) : Two c o S S2 ch ow := ⟨b.len.trans a.len, b.atc, b.ato, fun j h1 h2 => (b.out j h1 h2).trans (a.out j h1 h2)⟩
theorem free_eq {z : Int} {sl : List (Option Sl)} {S : Store} (h : sl[4]? = some (some (.val (.int z)))) : wt__pass_on_0 ⟨sl, S⟩ = .ok (.bl (!decide (z = -1))) ⟨sl, S⟩ := by
  unfold wt__pass_on_0
  exact bs_ (v_ h) c_ (by rw [seeD_i]; show neD (.int z) (seeD S 3 (.int (-1))) = _; rw [seeD_i, neD_i])
theorem pass_walk {c o s : Nat} (hco : c ≠ o) (hcs : c ≠ s) (hos : o ≠ s) {src : List (Int × Nat)} {num : Option Sl} : ∀ (f : Nat) (g : Int) (ch : List Int) (ow : List (Int × Nat)) (ch' : List Int) (ow' : List (Int × Nat)) (N : Nat) (S : Store) (x5 x6 : Option Sl),
    pass src f g ch ow = some (ch', ow') → f ≤ N → S[c]? = some (some (.lst (ch.map D.int))) → S[o]? = some (some (.dct (enc ow))) → S[s]? = some (some (.dct (enc src))) → ow.length + f ≤ 1000000 →
    ∃ (S' : Store) (y4 y5 y6 : Option Sl), whileS wt__pass_on_0 g__pass_on_1 N ⟨[vC c, vC o, vC s, num, vI g, x5, x6], S⟩ = .nx ⟨[vC c, vC o, vC s, num, y4, y5, y6], S'⟩ ∧ Two c o S S' ch' ow'
  | 0, g, ch, ow, ch', ow', N, S, x5, x6, h, _, _, _, _, _ => by cases h
  | f + 1, g, ch, ow, ch', ow', N, S, x5, x6, h, hN, hc, ho, hs, hl => by
    obtain ⟨N, rfl⟩ : ∃ M, N = M + 1 := ⟨N - 1, by omega⟩
    rw [pass] at h
    have t := free_eq (z := g) (sl := [vC c, vC o, vC s, num, vI g, x5, x6]) (S := S) rfl
    by_cases hg : g = -1
    · rw [if_pos hg] at h
      cases h
      exact ⟨S, vI g, x5, x6, wh_f t (by simp [hg]), Two.refl hc ho⟩
    · rw [if_neg hg] at h
      cases e1 : getP src g with
      | none => rw [e1] at h; cases h
      | some i =>
        rw [e1] at h
        have h' : (match ch[i]? with | none => none | some b => pass src f b (ch.set i g) (putP ow g i)) = some (ch', ow') := h
        cases e2 : ch[i]? with
        | none => rw [e2] at h'; cases h'
        | some b =>
          rw [e2] at h'
          have h2 : pass src f b (ch.set i g) (putP ow g i) = some (ch', ow') := h'
          have hi := (List.getElem?_eq_some_iff.mp e2).1
          have hcl := (List.getElem?_eq_some_iff.mp hc).1
          have hol := (List.getElem?_eq_some_iff.mp ho).1
          have s1 := set_ (i := 5) (sl := [vC c, vC o, vC s, num, vI g, x5, x6]) (S := S) (ix_ (v_ (i := 2) rfl) (v_ (i := 4) rfl) (ixd_ hs (by rw [enc_get, e1]; rfl))) rfl
          have s2 := set_ (i := 6) (sl := [vC c, vC o, vC s, num, vI g, vI (i : Nat), x6]) (S := S) (ix_ (v_ (i := 0) rfl) (v_ (i := 5) rfl) (ixc_ hc (by rw [List.getElem?_map, e2]; rfl))) rfl
          have s3 := put_ (sl := [vC c, vC o, vC s, num, vI g, vI (i : Nat), vI b]) (S := S) (v_ (i := 4) rfl) (v_ (i := 0) rfl) (v_ (i := 5) rfl) (putc_ hc (by rw [List.length_map]; exact hi))
          rw [show (ch.map D.int).set i (.int g) = (ch.set i g).map D.int by rw [List.map_set]] at s3
          have ho1 : (S.set c (some (.lst ((ch.set i g).map D.int))))[o]? = some (some (.dct (enc ow))) := by
            rw [List.getElem?_set_ne hco]; exact ho
          have s4 := put_ (sl := [vC c, vC o, vC s, num, vI g, vI (i : Nat), vI b]) (S := S.set c (some (.lst ((ch.set i g).map D.int)))) (v_ (i := 5) rfl) (v_ (i := 1) rfl) (v_ (i := 4) rfl) (putd_ (z := g) (e := .int (i : Nat)) ho1 (by rw [enc_len]; omega))
          rw [enc_put] at s4
          have s5 := set_ (i := 4) (sl := [vC c, vC o, vC s, num, vI g, vI (i : Nat), vI b]) (S := (S.set c (some (.lst ((ch.set i g).map D.int)))).set o (some (.dct (enc (putP ow g i))))) (v_ (i := 6) rfl) rfl
          have T1 : Two c o S ((S.set c (some (.lst ((ch.set i g).map D.int)))).set o (some (.dct (enc (putP ow g i))))) (ch.set i g) (putP ow g i) := by
            refine ⟨by rw [List.length_set, List.length_set], ?_, ?_, fun j h1 h2 => ?_⟩
            · rw [List.getElem?_set_ne (Ne.symm hco), List.getElem?_set_self hcl]
            · rw [List.getElem?_set_self (by rw [List.length_set]; exact hol)]
            · rw [List.getElem?_set_ne (Ne.symm h2), List.getElem?_set_ne (Ne.symm h1)]
          have hpl := putP_len (x := g) (i := i) (l := ow)
          obtain ⟨S', y4, y5, y6, e3, T2⟩ := pass_walk hco hcs hos (src := src) (num := num) f b (ch.set i g) (putP ow g i) ch' ow' N _ (vI (i : Nat)) (vI b) h2 (by omega) T1.atc T1.ato ((T1.out s (Ne.symm hcs) (Ne.symm hos)).trans hs) (by omega)
          refine ⟨S', y4, y5, y6, wh_t t (by simp [hg]) ?_ e3, T1.trans T2⟩
          unfold g__pass_on_1
          exact sq_ s1 (sq_ s2 (sq_ s3 (sq_ s4 s5)))
theorem pass_spec {c o s : Nat} (hco : c ≠ o) (hcs : c ≠ s) (hos : o ≠ s) {src : List (Int × Nat)} {f : Nat} {g : Int} {ch : List Int} {ow : List (Int × Nat)} {ch' : List Int} {ow' : List (Int × Nat)} {S : Store}
    (h : pass src f g ch ow = some (ch', ow')) (hf : f ≤ 1000) (hc : S[c]? = some (some (.lst (ch.map D.int)))) (ho : S[o]? = some (some (.dct (enc ow)))) (hs : S[s]? = some (some (.dct (enc src)))) (hl : ow.length ≤ 100000) :
    ∃ S', runS b__pass_on 7 [.ce c, .ce o, .ce s, .int g] S = .ok .non S' ∧ Two c o S S' ch' ow' := by
  have key : ∀ N : Nat, f ≤ N → ∃ (S' : Store) (y4 y5 y6 : Option Sl), whileS wt__pass_on_0 g__pass_on_1 N ⟨[vC c, vC o, vC s, vI g, vI g, none, none], S⟩ = .nx ⟨[vC c, vC o, vC s, vI g, y4, y5, y6], S'⟩ ∧ Two c o S S' ch' ow' := fun N hN =>
    pass_walk hco hcs hos f g ch ow ch' ow' N S none none h hN hc ho hs (by omega)
  obtain ⟨S', y4, y5, y6, e, T⟩ := key (2 ^ 70) (Nat.le_trans hf (by decide))
  refine ⟨S', ?_, T⟩
  show endR (b__pass_on ⟨[vC c, vC o, vC s, vI g, none, none, none], S⟩) = _
  unfold b__pass_on
  have s1 := set_ (i := 4) (sl := [vC c, vC o, vC s, vI g, none, none, none]) (S := S) (v_ (i := 3) rfl) rfl
  have e' : sWhile (2 ^ 70) wt__pass_on_0 g__pass_on_1 ⟨[vC c, vC o, vC s, vI g, vI g, none, none], S⟩ = .nx ⟨[vC c, vC o, vC s, vI g, y4, y5, y6], S'⟩ := e
  rw [sq_ s1 e']
  rfl
end K52

/-! _choose: one row is looked through. -/
namespace K52
open PySem MB
theorem run_cells {b : SX} {n : Nat} {ds : List D} {S W T : Store} {d : D} (h : runS b n ds S = .ok d (W ++ T)) (hl : W.length = S.length) (hc : ∀ (i : Nat) (c : Cn), W[i]? = some (some c) → S[i]? = some (some c) ∨ clC S.length c) (cd : clD S.length d) : runQ b n ds S = .ok d W := by
  show trimR S (runS b n ds S) = _
  rw [h]
  exact trimR_ok ⟨⟨T, rfl⟩, hl, hc⟩ cd
theorem cl_ints {n : Nat} {l : List Int} : clC n (.lst (l.map D.int)) := by
  show clDs n _
  simp
theorem cl_enc {n : Nat} {l : List (Int × Nat)} : clC n (.dct (enc l)) := by
  show clDs n ((enc l).map (·.2))
  unfold enc
  rw [List.map_map, clDs_all]
  intro d m
  obtain ⟨p, _, rfl⟩ := List.mem_map.mp m
  exact clD_int
theorem Two.run {b : SX} {n c o : Nat} {ds : List D} {S S' T : Store} {ch : List Int} {ow : List (Int × Nat)} {d : D} (t : Two c o S S' ch ow) (h : runS b n ds S = .ok d (S' ++ T)) (cd : clD S.length d) : runQ b n ds S = .ok d S' := by
  refine run_cells h t.len (fun i x hx => ?_) cd
  by_cases h1 : i = c
  · subst h1
    rw [t.atc] at hx
    cases hx
    exact .inr cl_ints
  · by_cases h2 : i = o
    · subst h2
      rw [t.ato] at hx
      cases hx
      exact .inr cl_enc
    · rw [t.out i h1 h2] at hx
      exact .inl hx
structure Only (ks : List Nat) (W W' : Store) : Prop where
  len : W'.length = W.length
  out : ∀ j, j ∉ ks → W'[j]? = W[j]?
theorem Only.refl (ks : List Nat) (W : Store) : Only ks W W := ⟨rfl, fun _ _ => rfl⟩
theorem Only.trans {ks : List Nat} {W W1 W2 : Store} (a : Only ks W W1) (b : Only ks W1 W2) : Only ks W W2 := ⟨b.len.trans a.len, fun j h => (b.out j h).trans (a.out j h)⟩
theorem Only.mono {ks ls : List Nat} {W W' : Store} (a : Only ks W W') (h : ∀ j ∈ ks, j ∈ ls) : Only ls W W' := ⟨a.len, fun j n => a.out j fun m => n (h j m)⟩
theorem Only.set {ks : List Nat} {W : Store} {k : Nat} (c : Option Cn) (h : k ∈ ks) : Only ks W (W.set k c) := ⟨List.length_set, fun j n => List.getElem?_set_ne fun e => n (by rw [← e]; exact h)⟩
/-- what the loops of the search rest on: the cells of chosen, owners, met, sources -/
structure Cs (c o m s : Nat) (W : Store) (ch : List Int) (ow src : List (Int × Nat)) (met : List Nat) : Prop where
  atc : W[c]? = some (some (.lst (ch.map D.int)))
  ato : W[o]? = some (some (.dct (enc ow)))
  atm : W[m]? = some (some (.lst (met.map fun i => D.int (i : Nat))))
  ats : W[s]? = some (some (.dct (enc src)))
abbrev cE (dc : D) (c o : Nat) (k : Nat) (m s : Nat) (at_ : Int) (x7 x8 : Option Sl) : List (Option Sl) := [some (.val dc), vC c, vC o, vI (k : Nat), vC m, vC s, vI at_, x7, x8]
section
variable {dc : D} {c o k m s so : Nat} {at_ : Int} {W : Store} {ch : List Int} {ow src : List (Int × Nat)} {met : List Nat} {x : Int}
theorem step_seen (C : Cs c o m s W ch ow src met) (h : x ∈ src.map (·.1)) : g__choose_1 ⟨cE dc c o k m s at_ (vI (so : Nat)) (vI x), W⟩ = .ct ⟨cE dc c o k m s at_ (vI (so : Nat)) (vI x), W⟩ := by
  have hs : (getA (enc src) (.inl x)).isSome = true := by
    rw [enc_get]
    cases e : getP src x with
    | none => exact absurd h (getP_none.mp e)
    | some i => rfl
  have t := in_ (n := 3) (f := eVar 8) (g := eVar 5) (sl := cE dc c o k m s at_ (vI (so : Nat)) (vI x)) (S := W) (v_ rfl) (v_ rfl) (ind_ C.ats)
  rw [hs] at t
  unfold g__choose_1
  rw [sSeq_ap, if_t t rfl]
  rfl
/-- a new number -/
theorem step_new (h : x ∉ src.map (·.1)) (C : Cs c o m s W ch ow src met) (hlen : src.length < 1000000) {u : SX} : sSeq (sIf (eInA 3 (eVar 8) (eVar 5)) sCt sNil) (sSeq (sPutS (eVar 5) (eVar 8) (eVar 7)) u) ⟨cE dc c o k m s at_ (vI (so : Nat)) (vI x), W⟩
    = u ⟨cE dc c o k m s at_ (vI (so : Nat)) (vI x), W.set s (some (.dct (enc (src ++ [(x, so)]))))⟩ := by
  have hn : getP src x = none := getP_none.mpr h
  have hs : (getA (enc src) (.inl x)).isSome = false := by
    rw [enc_get, hn]
    rfl
  have t := in_ (n := 3) (f := eVar 8) (g := eVar 5) (sl := cE dc c o k m s at_ (vI (so : Nat)) (vI x)) (S := W) (v_ rfl) (v_ rfl) (ind_ C.ats)
  rw [hs] at t
  have p := put_ (f := eVar 5) (h := eVar 8) (g := eVar 7) (sl := cE dc c o k m s at_ (vI (so : Nat)) (vI x)) (S := W) (v_ rfl) (v_ rfl) (v_ rfl) (putd_ (z := x) (e := .int (so : Nat)) C.ats (by rw [enc_len]; omega))
  have ep : putP src x so = src ++ [(x, so)] := by
    unfold putP
    rw [hn]
  rw [enc_put, ep] at p
  exact sq_ ((if_f t rfl).trans nil_) (sq_ p rfl)
theorem Cs.put (C : Cs c o m s W ch ow src met) (hc : s ≠ c) (ho : s ≠ o) (hm : s ≠ m) (src' : List (Int × Nat)) : Cs c o m s (W.set s (some (.dct (enc src')))) ch ow src' met :=
  ⟨by rw [List.getElem?_set_ne hc]; exact C.atc, by rw [List.getElem?_set_ne ho]; exact C.ato, by rw [List.getElem?_set_ne hm]; exact C.atm, List.getElem?_set_self (List.getElem?_eq_some_iff.mp C.ats).1⟩
theorem Cs.app (C : Cs c o m s W ch ow src met) (hc : m ≠ c) (ho : m ≠ o) (hs : m ≠ s) (met' : List Nat) : Cs c o m s (W.set m (some (.lst (met'.map fun i => D.int (i : Nat))))) ch ow src met' :=
  ⟨by rw [List.getElem?_set_ne hc]; exact C.atc, by rw [List.getElem?_set_ne ho]; exact C.ato, List.getElem?_set_self (List.getElem?_eq_some_iff.mp C.atm).1, by rw [List.getElem?_set_ne hs]; exact C.ats⟩
theorem step_met (h : x ∉ src.map (·.1)) (C : Cs c o m s W ch ow src met) (hlen : src.length < 1000000) (hml : met.length < 1000000) {i : Nat} (hi : getP ow x = some i) (hsc : s ≠ c) (hso : s ≠ o) (hsm : s ≠ m) : g__choose_1 ⟨cE dc c o k m s at_ (vI (so : Nat)) (vI x), W⟩
    = .nx ⟨cE dc c o k m s at_ (vI (so : Nat)) (vI x), (W.set s (some (.dct (enc (src ++ [(x, so)]))))).set m (some (.lst ((met ++ [i]).map fun i => D.int (i : Nat))))⟩ := by
  unfold g__choose_1
  rw [step_new h C hlen]
  have C1 := C.put hsc hso hsm (src ++ [(x, so)])
  have t := nin_ (n := 3) (f := eVar 8) (g := eVar 2) (sl := cE dc c o k m s at_ (vI (so : Nat)) (vI x)) (v_ rfl) (v_ rfl) (ind_ (z := x) C1.ato)
  rw [enc_get, hi] at t
  refine sq_ ((if_f t rfl).trans nil_) ?_
  have e := mu1_ (F := appF) (f := eVar 4) (g := eIxS (eVar 2) (eVar 8)) (sl := cE dc c o k m s at_ (vI (so : Nat)) (vI x)) (v_ rfl) (la_ C1.atm) (ix_ (v_ rfl) (v_ rfl) (ixd_ (d := .int (i : Nat)) C1.ato (by rw [enc_get, hi]; rfl))) (la_ C1.atm) (app_ok (by rw [List.length_map]; omega))
  rw [List.map_append]
  exact ex_ e
theorem step_free (h : x ∉ src.map (·.1)) (C : Cs c o m s W ch ow src met) (hlen : src.length < 1000000) (hi : getP ow x = none) (hsc : s ≠ c) (hso : s ≠ o) (hsm : s ≠ m) : g__choose_1 ⟨cE dc c o k m s at_ (vI (so : Nat)) (vI x), W⟩
    = sSeq (sEx (eFn m__pass_on [(eVar 1), (eVar 2), (eVar 5), (eVar 8)])) (sRet (eC .non)) ⟨cE dc c o k m s at_ (vI (so : Nat)) (vI x), W.set s (some (.dct (enc (src ++ [(x, so)]))))⟩ := by
  unfold g__choose_1
  rw [step_new h C hlen]
  have C1 := C.put hsc hso hsm (src ++ [(x, so)])
  have t := nin_ (n := 3) (f := eVar 8) (g := eVar 2) (sl := cE dc c o k m s at_ (vI (so : Nat)) (vI x)) (v_ rfl) (v_ rfl) (ind_ (z := x) C1.ato)
  rw [enc_get, hi] at t
  rw [sSeq_ap, if_t t rfl]
  generalize sEx (eFn m__pass_on [(eVar 1), (eVar 2), (eVar 5), (eVar 8)]) = u
  rw [sSeq_ap]
  cases u ⟨cE dc c o k m s at_ (vI (so : Nat)) (vI x), W.set s (some (.dct (enc (src ++ [(x, so)]))))⟩ <;> rfl
theorem not_goes {u : EX} {d : D} {ρ ρ' : En} : ¬ (sSeq (sEx u) (sRet (eC d)) ρ).goes ρ' := by
  rw [sSeq_ap, sEx_ap]
  cases u ρ <;> exact fun h => h
theorem pass_len {src : List (Int × Nat)} : ∀ {f : Nat} {g : Int} {ch : List Int} {ow : List (Int × Nat)} {ch' : List Int} {ow' : List (Int × Nat)}, pass src f g ch ow = some (ch', ow') → ow'.length ≤ ow.length + f
  | 0, _, _, _, _, _, h => by cases h
  | f + 1, g, ch, ow, ch', ow', h => by
    rw [pass] at h
    by_cases hg : g = -1
    · rw [if_pos hg] at h
      cases h
      omega
    · rw [if_neg hg] at h
      cases e1 : getP src g with
      | none => rw [e1] at h; cases h
      | some i =>
        rw [e1] at h
        have h' : (match ch[i]? with | none => none | some b => pass src f b (ch.set i g) (putP ow g i)) = some (ch', ow') := h
        cases e2 : ch[i]? with
        | none => rw [e2] at h'; cases h'
        | some b =>
          rw [e2] at h'
          have := pass_len (show pass src f b (ch.set i g) (putP ow g i) = some (ch', ow') from h')
          have := putP_len (x := g) (i := i) (l := ow)
          omega
end
/-- what a look through one row answers -/
def ScanR (dc : D) (c o k m s so : Nat) (at_ : Int) (W : Store) (ch : List Int) (ow : List (Int × Nat)) (r : Sc) (fl : Fl) : Prop := match r with
  | .on src' met' => ∃ (W' : Store) (y8 : Option Sl), fl = .nx ⟨cE dc c o k m s at_ (vI (so : Nat)) y8, W'⟩ ∧ Cs c o m s W' ch ow src' met' ∧ Only [m, s] W W'
  | .free x srcY met' => ∀ (f : Nat) (ch' : List Int) (ow' : List (Int × Nat)), pass srcY f x ch ow = some (ch', ow') → f ≤ 1000 → ∃ (W' : Store) (sl : List (Option Sl)), fl = .rt .non ⟨sl, W'⟩ ∧ W'[c]? = some (some (.lst (ch'.map D.int))) ∧ W'[o]? = some (some (.dct (enc ow'))) ∧ Only [c, o, m, s] W W'
theorem scan_walk {dc : D} {c o k m s so : Nat} {at_ : Int} {ch : List Int} {ow : List (Int × Nat)} (hco : c ≠ o) (hsc : s ≠ c) (hso : s ≠ o) (hsm : s ≠ m) (hmc : m ≠ c) (hmo : m ≠ o) (hw : ow.length ≤ 100000) :
    ∀ (xs : List Int) (src : List (Int × Nat)) (met : List Nat) (W : Store) (x8 : Option Sl), Cs c o m s W ch ow src met → src.length + xs.length < 1000000 → met.length + xs.length < 1000000 →
      ScanR dc c o k m s so at_ W ch ow (scan ow so xs src met) (loopS (bNm 8) g__choose_1 (xs.map D.int) ⟨cE dc c o k m s at_ (vI (so : Nat)) x8, W⟩)
  | [], src, met, W, x8, C, _, _ => ⟨W, x8, rfl, C, Only.refl _ _⟩
  | x :: xs, src, met, W, x8, C, h1, h2 => by
    rw [List.length_cons] at h1 h2
    rw [List.map_cons, loopS_cs]
    show ScanR dc c o k m s so at_ W ch ow (scan ow so (x :: xs) src met) (kL2 _ _ _ (g__choose_1 ⟨cE dc c o k m s at_ (vI (so : Nat)) (vI x), W⟩))
    rw [scan]
    by_cases h : x ∈ src.map (·.1)
    · rw [if_pos h, step_seen C h, kL2_ct]
      exact scan_walk hco hsc hso hsm hmc hmo hw xs src met W (vI x) C (by omega) (by omega)
    · rw [if_neg h]
      cases hi : getP ow x with
      | some i =>
        rw [step_met h C (by omega) (by omega) hi hsc hso hsm, kL2_nx]
        have C2 := (C.put hsc hso hsm (src ++ [(x, so)])).app hmc hmo (Ne.symm hsm) (met ++ [i])
        have O2 : Only [m, s] W ((W.set s (some (.dct (enc (src ++ [(x, so)]))))).set m (some (.lst ((met ++ [i]).map fun i => D.int (i : Nat))))) := (Only.set _ (by simp)).trans (Only.set _ (by simp))
        have r := scan_walk (dc := dc) (k := k) (so := so) (at_ := at_) hco hsc hso hsm hmc hmo hw xs (src ++ [(x, so)]) (met ++ [i]) _ (vI x) C2 (by rw [List.length_append, List.length_singleton]; omega) (by rw [List.length_append, List.length_singleton]; omega)
        revert r
        show ScanR dc c o k m s so at_ _ ch ow (scan ow so xs (src ++ [(x, so)]) (met ++ [i])) _ → ScanR dc c o k m s so at_ W ch ow (scan ow so xs (src ++ [(x, so)]) (met ++ [i])) _
        cases scan ow so xs (src ++ [(x, so)]) (met ++ [i]) with
        | on src' met' =>
          rintro ⟨W', y8, e, C', O'⟩
          exact ⟨W', y8, e, C', O2.trans O'⟩
        | free y srcY met' =>
          intro r f ch' ow' hp hf
          obtain ⟨W', sl, e, a, b, O'⟩ := r f ch' ow' hp hf
          exact ⟨W', sl, e, a, b, (O2.mono (by simp)).trans O'⟩
      | none =>
        rw [step_free h C (by omega) hi hsc hso hsm]
        have C1 := C.put hsc hso hsm (src ++ [(x, so)])
        intro f ch' ow' hp hf
        obtain ⟨S', e, T⟩ := pass_spec hco (Ne.symm hsc) (Ne.symm hso) hp hf C1.atc C1.ato C1.ats hw
        have q : m__pass_on [.ce c, .ce o, .ce s, .int x] (W.set s (some (.dct (enc (src ++ [(x, so)]))))) = .ok .non S' := T.run (T := []) (by rw [List.append_nil]; exact e) (by simp)
        have e2 : eFn m__pass_on [(eVar 1), (eVar 2), (eVar 5), (eVar 8)] ⟨cE dc c o k m s at_ (vI (so : Nat)) (vI x), W.set s (some (.dct (enc (src ++ [(x, so)]))))⟩ = .ok .non ⟨cE dc c o k m s at_ (vI (so : Nat)) (vI x), S'⟩ := by
          simp [q]
        refine ⟨S', cE dc c o k m s at_ (vI (so : Nat)) (vI x), ?_, T.atc, T.ato, ?_⟩
        · rw [sq_ (ex_ e2) (ret_ c_)]
          rfl
        · exact (Only.set _ (by simp)).trans ⟨T.len, fun j n => T.out j (fun z => n (by rw [z]; simp)) (fun z => n (by rw [z]; simp))⟩
end K52

/-! _choose, whole. -/
namespace K52
open PySem MB
/-- a choice: a tuple, a list, a cell below lim -/
inductive Item (S : Store) (lim : Nat) : D → List Int → Prop
  | tup (r : List Int) : Item S lim (.tup (r.map D.int)) r
  | lst (r : List Int) : Item S lim (.lst (r.map D.int)) r
  | ce {n : Nat} {r : List Int} : n < lim → S[n]? = some (some (.lst (r.map D.int))) → Item S lim (.ce n) r
def Chs (S : Store) (lim : Nat) (dc : D) (rows : List (List Int)) : Prop := ∃ items : List D, (dc = .lst items ∨ dc = .tup items) ∧ items.length = rows.length ∧ ∀ (i : Nat) (it : D), items[i]? = some it → Item S lim it (row rows i)
theorem Item.keep {S S' : Store} {lim : Nat} {d : D} {r : List Int} (h : Item S lim d r) (k : ∀ n, n < lim → S'[n]? = S[n]?) : Item S' lim d r := by
  cases h with
  | tup => exact .tup r
  | lst => exact .lst r
  | ce hn e => exact .ce hn ((k _ hn).trans e)
theorem Chs.keep {S S' : Store} {lim : Nat} {d : D} {rows : List (List Int)} (h : Chs S lim d rows) (k : ∀ n, n < lim → S'[n]? = S[n]?) : Chs S' lim d rows := by
  obtain ⟨items, a, b, c⟩ := h
  exact ⟨items, a, b, fun i it e => (c i it e).keep k⟩
theorem Chs.at_ {S : Store} {lim : Nat} {d : D} {rows : List (List Int)} (h : Chs S lim d rows) {i : Nat} (hi : i < rows.length) : ∃ it, ixS S d (.int (i : Nat)) = some it ∧ Item S lim it (row rows i) := by
  obtain ⟨items, a, b, c⟩ := h
  have hi' : i < items.length := by omega
  have e : items[i]? = some items[i] := List.getElem?_eq_getElem hi'
  refine ⟨items[i], ?_, c i _ e⟩
  rcases a with rfl | rfl
  · exact ixl_ e
  · exact ixt_ e
theorem Only.below {ks : List Nat} {W W' : Store} {lim : Nat} (h : Only ks W W') (hk : ∀ j ∈ ks, lim ≤ j) : ∀ n, n < lim → W'[n]? = W[n]? := fun n hn => h.out n fun m => by
  have := hk n m
  omega
section
variable {dc : D} {c o k m s so : Nat} {at_ : Int} {ch : List Int} {ow : List (Int × Nat)}
theorem for_row (hco : c ≠ o) (hsc : s ≠ c) (hso : s ≠ o) (hsm : s ≠ m) (hmc : m ≠ c) (hmo : m ≠ o) {src : List (Int × Nat)} {met : List Nat} {W : Store} {x8 : Option Sl} {lim : Nat} {rows : List (List Int)} (C : Cs c o m s W ch ow src met) (H : Chs W lim dc rows) (hi : so < rows.length)
    (hl : ∀ j ∈ [m, s], lim ≤ j) (h1 : src.length + (row rows so).length < 1000000) (h2 : met.length + (row rows so).length < 1000000) :
    sForS it__choose_0 (bNm 8) g__choose_1 ⟨cE dc c o k m s at_ (vI (so : Nat)) x8, W⟩ = loopS (bNm 8) g__choose_1 ((row rows so).map D.int) ⟨cE dc c o k m s at_ (vI (so : Nat)) x8, W⟩ := by
  obtain ⟨it, e, I⟩ := H.at_ hi
  have q : it__choose_0 ⟨cE dc c o k m s at_ (vI (so : Nat)) x8, W⟩ = .ok it ⟨cE dc c o k m s at_ (vI (so : Nat)) x8, W⟩ := by
    unfold it__choose_0
    exact ix_ (v_ (i := 0) rfl) (v_ (i := 7) rfl) e
  generalize row rows so = r at I h1 h2
  cases I with
  | tup => exact forS_data q rfl rfl
  | lst => exact forS_data q rfl rfl
  | @ce n _ hn hr =>
    refine forS_cell (n := n) (I := fun i ρ => ∃ (src' : List (Int × Nat)) (met' : List Nat) (W' : Store) (y8 : Option Sl), ρ = ⟨cE dc c o k m s at_ (vI (so : Nat)) y8, W'⟩ ∧ Cs c o m s W' ch ow src' met' ∧ W'[n]? = some (some (.lst (r.map D.int))) ∧ src'.length ≤ src.length + i ∧ met'.length ≤ met.length + i) q ?_ ?_ ⟨src, met, W, x8, rfl, C, hr, Nat.le_refl _, Nat.le_refl _⟩ (by rw [List.length_map]; omega)
    · rintro i ρ ⟨src', met', W', y8, rfl, _, hr', _⟩
      exact la_ hr'
    · rintro i d hd ρ ρ1 ρ2 ⟨src', met', W', y8, rfl, C', hr', l1, l2⟩ hb hg
      obtain ⟨x, hx, rfl⟩ := List.mem_map.mp (List.mem_of_getElem? hd)
      have hir : i < r.length := by
        have := (List.getElem?_eq_some_iff.mp hd).1
        rwa [List.length_map] at this
      have hb' : ρ1 = ⟨cE dc c o k m s at_ (vI (so : Nat)) (vI x), W'⟩ := (Option.some.inj hb).symm
      rw [hb'] at hg
      have nm : n ≠ m := by
        have := hl m (by simp)
        omega
      have ns : n ≠ s := by
        have := hl s (by simp)
        omega
      by_cases h : x ∈ src'.map (·.1)
      · rw [step_seen C' h] at hg
        have hg' : ρ2 = _ := (show _ = ρ2 from hg).symm
        rw [hg']
        exact ⟨src', met', W', vI x, rfl, C', hr', by omega, by omega⟩
      · cases hi : getP ow x with
        | some j =>
          rw [step_met h C' (by omega) (by omega) hi hsc hso hsm] at hg
          have hg' : ρ2 = _ := (show _ = ρ2 from hg).symm
          rw [hg']
          refine ⟨src' ++ [(x, so)], met' ++ [j], _, vI x, rfl, (C'.put hsc hso hsm _).app hmc hmo (Ne.symm hsm) _, ?_, by rw [List.length_append, List.length_singleton]; omega, by rw [List.length_append, List.length_singleton]; omega⟩
          rw [List.getElem?_set_ne (Ne.symm nm), List.getElem?_set_ne (Ne.symm ns)]
          exact hr'
        | none =>
          rw [step_free h C' (by omega) hi hsc hso hsm] at hg
          exact (not_goes hg).elim
end
theorem while_cond {dc : D} {c o k m s : Nat} {at_ : Nat} {W : Store} {ch : List Int} {ow src : List (Int × Nat)} {met : List Nat} {x7 x8 : Option Sl} (C : Cs c o m s W ch ow src met) : wt__choose_2 ⟨cE dc c o k m s (at_ : Nat) x7 x8, W⟩ = .ok (.bl (decide (at_ < met.length))) ⟨cE dc c o k m s (at_ : Nat) x7 x8, W⟩ := by
  unfold wt__choose_2
  have l := len_cell C.atm
  rw [List.length_map] at l
  refine b_ (v_ (i := 6) rfl) (ln_ (v_ (i := 4) rfl) l) ?_
  rw [ltD_i]
  congr 2
  exact decide_eq_decide.mpr (by omega)
/-- the search's two ends -/
def EndR (rows : List (List Int)) (dc : D) (c o k m s : Nat) (W : Store) (ch : List Int) (ow : List (Int × Nat)) (fl : Fl) : Prop :=
  (∃ (W' : Store) (sl : List (Option Sl)) (src : List (Int × Nat)) (met : List Nat), fl = .nx ⟨sl, W'⟩ ∧ sl[4]? = some (some (.val (.ce m))) ∧ Bf rows k ow src met ∧ (∀ i ∈ met, ∀ x ∈ row rows i, x ∈ src.map (·.1)) ∧ W'[m]? = some (some (.lst (met.map fun i => D.int (i : Nat)))) ∧ Only [m, s] W W')
  ∨ (∃ (W' : Store) (sl : List (Option Sl)) (ch' : List Int) (ow' : List (Int × Nat)), fl = .rt .non ⟨sl, W'⟩ ∧ Mt rows (k + 1) ch' ow' ∧ ow'.length ≤ ow.length + 50 ∧ W'[c]? = some (some (.lst (ch'.map D.int))) ∧ W'[o]? = some (some (.dct (enc ow'))) ∧ Only [c, o, m, s] W W')
theorem bfs_walk {rows : List (List Int)} {dc : D} {c o k m s lim : Nat} {ch : List Int} {ow : List (Int × Nat)} (F : Fit rows) (hk : k < rows.length) (M : Mt rows k ch ow) (hn : rows.length ≤ 40) (hr : ∀ i, (row rows i).length ≤ 1000)
    (hco : c ≠ o) (hsc : s ≠ c) (hso : s ≠ o) (hsm : s ≠ m) (hmc : m ≠ c) (hmo : m ≠ o) (hw : ow.length ≤ 100000) (hl : ∀ j ∈ [c, o, m, s], lim ≤ j) :
    ∀ (d at_ : Nat) (src : List (Int × Nat)) (met : List Nat) (W : Store) (x7 x8 : Option Sl) (N : Nat), rows.length - at_ ≤ d → Cs c o m s W ch ow src met → Bf rows k ow src met → at_ ≤ met.length → (∀ q, q < at_ → ∀ i, met[q]? = some i → ∀ x ∈ row rows i, x ∈ src.map (·.1)) → Chs W lim dc rows → d + 1 ≤ N →
      EndR rows dc c o k m s W ch ow (whileS wt__choose_2 g__choose_3 N ⟨cE dc c o k m s (at_ : Nat) x7 x8, W⟩) := by
  intro d
  induction d with
  | zero =>
    intro at_ src met W x7 x8 N hd C B ha hp H hN
    obtain ⟨N, rfl⟩ : ∃ M, N = M + 1 := ⟨N - 1, by omega⟩
    have hs := B.short F hk M
    have t := while_cond (dc := dc) (k := k) (at_ := at_) (x7 := x7) (x8 := x8) C
    rw [wh_f t (by simp; omega)]
    refine .inl ⟨W, _, src, met, rfl, rfl, B, fun i mi => ?_, C.atm, Only.refl _ _⟩
    obtain ⟨q, hq, e⟩ := List.getElem_of_mem mi
    exact hp q (by omega) i (by rw [List.getElem?_eq_getElem hq, e])
  | succ d ih =>
    intro at_ src met W x7 x8 N hd C B ha hp H hN
    obtain ⟨N, rfl⟩ : ∃ M, N = M + 1 := ⟨N - 1, by omega⟩
    have hs := B.short F hk M
    have t := while_cond (dc := dc) (k := k) (at_ := at_) (x7 := x7) (x8 := x8) C
    by_cases h : at_ < met.length
    · have hsl : src.length ≤ 1000 := by have := B.len; omega
      have em : met[at_]? = some met[at_] := List.getElem?_eq_getElem h
      generalize met[at_] = so at em
      have hso' : so < rows.length := B.small F hk M so (List.mem_of_getElem? em)
      have s1 := set_ (i := 7) (sl := cE dc c o k m s (at_ : Nat) x7 x8) (S := W) (ix_ (v_ (i := 4) rfl) (v_ (i := 6) rfl) (ixc_ C.atm (d := .int (so : Nat)) (by rw [List.getElem?_map, em]; rfl))) rfl
      have s2 : sAug 6 (ipD (fun i j => i + j)) (eC (.int 1)) ⟨cE dc c o k m s (at_ : Nat) (vI (so : Nat)) x8, W⟩ = .nx ⟨cE dc c o k m s ((at_ + 1 : Nat) : Int) (vI (so : Nat)) x8, W⟩ := by
        have e : ∀ z y : Int, y = z + 1 → sAug 6 (ipD (fun i j => i + j)) (eC (.int 1)) ⟨cE dc c o k m s z (vI (so : Nat)) x8, W⟩ = .nx ⟨cE dc c o k m s y (vI (so : Nat)) x8, W⟩ := fun z y hy => by
          subst hy
          simp
        exact e _ _ (by omega)
      have hrl := hr so
      have s3 := for_row (k := k) (at_ := ((at_ + 1 : Nat) : Int)) (x8 := x8) hco hsc hso hsm hmc hmo C H hso' (fun j mj => hl j (by revert mj; simp; rintro (h | h) <;> simp [h])) (by omega) (by omega)
      have r := scan_walk (dc := dc) (k := k) (so := so) (at_ := ((at_ + 1 : Nat) : Int)) hco hsc hso hsm hmc hmo hw (row rows so) src met W x8 C (by omega) (by omega)
      rw [← s3] at r
      have ok := scan_ok (rows := rows) (k := k) (ow := ow) (s := so) (a := at_) (row rows so) src met B em fun _ mx => mx
      have g3 : ∀ fl, sForS it__choose_0 (bNm 8) g__choose_1 ⟨cE dc c o k m s ((at_ + 1 : Nat) : Int) (vI (so : Nat)) x8, W⟩ = fl → g__choose_3 ⟨cE dc c o k m s (at_ : Nat) x7 x8, W⟩ = fl := fun fl e => by
        unfold g__choose_3
        exact sq_ s1 (sq_ s2 e)
      revert r ok
      cases scan ow so (row rows so) src met with
      | on src' met' =>
        rintro ⟨W', y8, e, C', O'⟩ ⟨B', hsub, hpre, hall⟩
        rw [whileS_ap, t, decide_eq_true h]
        show EndR rows dc c o k m s W ch ow (kWg wt__choose_2 g__choose_3 N (g__choose_3 _))
        rw [g3 _ e, kWg_nx]
        have l2 := hpre.length_le
        have H' := H.keep (O'.below fun j mj => hl j (by revert mj; simp; rintro (h | h) <;> simp [h]))
        have r2 := ih (at_ + 1) src' met' W' (vI (so : Nat)) y8 N (by omega) C' B' (by omega) (fun q hq i hi x hx => by
          have hqm : q < met.length := by omega
          have hi' : met[q]? = some i := by
            obtain ⟨t, rfl⟩ := hpre
            rw [List.getElem?_append_left hqm] at hi
            exact hi
          by_cases hqa : q = at_
          · subst hqa
            rw [em] at hi'
            cases hi'
            exact hall x hx
          · exact hsub x (hp q (by omega) i hi' x hx)) H' (by omega)
        rcases r2 with ⟨W2, sl, src2, met2, a1, a2, a3, a4, a5, a6⟩ | ⟨W2, sl, ch2, ow2, a1, a2, a3, a4, a5, a6⟩
        · exact .inl ⟨W2, sl, src2, met2, a1, a2, a3, a4, a5, O'.trans a6⟩
        · exact .inr ⟨W2, sl, ch2, ow2, a1, a2, a3, a4, a5, (O'.mono (by simp)).trans a6⟩
      | free x srcY met' =>
        rintro r ⟨src', B', hpre, rfl, hx, hg, hxr⟩
        have em' : met'[at_]? = some so := by
          obtain ⟨t, rfl⟩ := hpre
          rw [List.getElem?_append_left h]
          exact em
        have hgY : getP (src' ++ [(x, so)]) x = some so := by
          rw [getP_app, getP_none.mpr hx, getP_cons, if_pos rfl]
          rfl
        have nx : x ≠ -1 := by
          rintro rfl
          exact F so hxr
        obtain ⟨ch', ow', e, M'⟩ := pass_ok F hk M B' (srcY := src' ++ [(x, so)]) (fun p y t e => by
          rw [getP_app, getP_at B'.nd e]
          rfl) at_ x ch ow so em' hgY hxr (fun _ _ _ _ => rfl) M.cl M.as_ M.fr (fun y i hy _ => M.ow y i hy) (fun i hi => by
          rw [(M.ow x i nx).mpr hi] at hg
          cases hg)
        have hs' := B'.short F hk M
        have l3 : at_ < met'.length := (List.getElem?_eq_some_iff.mp em').1
        obtain ⟨W', sl, e2, a1, a2, a3⟩ := r (at_ + 2) ch' ow' e (by omega)
        have pl := pass_len e
        rw [wh_r t (by simp [h]) (g3 _ e2)]
        exact .inr ⟨W', sl, ch', ow', rfl, M', by omega, a1, a2, a3⟩
    · rw [wh_f t (by simp; omega)]
      refine .inl ⟨W, _, src, met, rfl, rfl, B, fun i mi => ?_, C.atm, Only.refl _ _⟩
      obtain ⟨q, hq, e⟩ := List.getElem_of_mem mi
      exact hp q (by omega) i (by rw [List.getElem?_eq_getElem hq, e])
end K52

/-! _choose answers; pairing. -/
namespace K52
open PySem MB
theorem sort_nat (l : List Nat) : ∃ T : List Nat, sortI (l.map fun i => ((i : Nat) : Int)) = T.map (fun i => ((i : Nat) : Int)) ∧ T.Perm l ∧ T.Pairwise (· ≤ ·) := by
  have hp : (sortI (l.map fun i => ((i : Nat) : Int))).Perm (l.map fun i => ((i : Nat) : Int)) := List.mergeSort_perm _ _
  have hs : (sortI (l.map fun i => ((i : Nat) : Int))).Pairwise (fun a b => decide (a ≤ b) = true) := List.pairwise_mergeSort (fun a b c h1 h2 => by simp at h1 h2 ⊢; omega) (fun a b => by simp; omega) _
  generalize sortI (l.map fun i => ((i : Nat) : Int)) = r at hp hs
  have hr : r = (r.map Int.toNat).map (fun i => ((i : Nat) : Int)) := by
    rw [List.map_map]
    have : ∀ x ∈ r, ((fun i : Nat => (i : Int)) ∘ Int.toNat) x = x := fun x m => by
      obtain ⟨i, _, rfl⟩ := List.mem_map.mp (hp.mem_iff.mp m)
      simp
    rw [List.map_congr_left this, List.map_id']
  refine ⟨r.map Int.toNat, hr, ?_, ?_⟩
  · have := hp.map Int.toNat
    rw [List.map_map] at this
    have e : (l.map (Int.toNat ∘ fun i => ((i : Nat) : Int))) = l := by
      rw [List.map_congr_left (g := id) fun i _ => by simp, List.map_id]
    rwa [e] at this
  · rw [List.pairwise_map]
    exact hs.imp fun h => by
      have := of_decide_eq_true h
      omega
def tupN (T : List Nat) : D := .tup (T.map fun i => D.int (i : Nat))
theorem choose_spec {rows : List (List Int)} {dc : D} {c o k lim : Nat} {S : Store} {ch : List Int} {ow : List (Int × Nat)} (F : Fit rows) (hk : k < rows.length) (M : Mt rows k ch ow) (hn : rows.length ≤ 40) (hr : ∀ i, (row rows i).length ≤ 1000)
    (hco : c ≠ o) (hw : ow.length ≤ 100000) (hc : S[c]? = some (some (.lst (ch.map D.int)))) (ho : S[o]? = some (some (.dct (enc ow)))) (hlc : lim ≤ c) (hlo : lim ≤ o) (H : Chs S lim dc rows) :
    (∃ T, Room rows T ∧ m__choose [dc, .ce c, .ce o, .int (k : Nat)] S = .ok (tupN T) S) ∨ (∃ S' ch' ow', m__choose [dc, .ce c, .ce o, .int (k : Nat)] S = .ok .non S' ∧ Two c o S S' ch' ow' ∧ Mt rows (k + 1) ch' ow' ∧ ow'.length ≤ ow.length + 50) := by
  have cl := (List.getElem?_eq_some_iff.mp hc).1
  have ol := (List.getElem?_eq_some_iff.mp ho).1
  let W := S ++ [some (Cn.lst [D.int (k : Nat)]), some (.dct (enc []))]
  have C : Cs c o S.length (S.length + 1) W ch ow [] [k] := ⟨by rw [List.getElem?_append_left cl]; exact hc, by rw [List.getElem?_append_left ol]; exact ho, by rw [List.getElem?_append_right (Nat.le_refl _)]; simp, by rw [List.getElem?_append_right (by omega)]; simp⟩
  have HW : Chs W lim dc rows := H.keep fun n h => List.getElem?_append_left (by omega)
  have key : ∀ N : Nat, 41 ≤ N → EndR rows dc c o k S.length (S.length + 1) W ch ow (whileS wt__choose_2 g__choose_3 N ⟨cE dc c o k S.length (S.length + 1) ((0 : Nat) : Int) none none, W⟩) := fun N hN =>
    bfs_walk F hk M hn hr hco (by omega) (by omega) (by omega) (by omega) (by omega) hw (fun j mj => by
      simp only [List.mem_cons, List.not_mem_nil, or_false] at mj
      rcases mj with rfl | rfl | rfl | rfl <;> omega) rows.length 0 [] [k] W none none N (by omega) C (Bf.start rows k ow) (Nat.zero_le _) (fun q hq => absurd hq (Nat.not_lt_zero _)) HW (by omega)
  have s1 : sSet 4 (eLstM [(eVar 3)]) ⟨[some (.val dc), vC c, vC o, vI (k : Nat), none, none, none, none, none], S⟩ = .nx ⟨[some (.val dc), vC c, vC o, vI (k : Nat), vC S.length, none, none, none, none], S ++ [some (.lst [.int (k : Nat)])]⟩ := by
    have e : eLstM [(eVar 3)] ⟨[some (.val dc), vC c, vC o, vI (k : Nat), none, none, none, none, none], S⟩ = .ok (.ce S.length) ⟨[some (.val dc), vC c, vC o, vI (k : Nat), none, none, none, none, none], S ++ [some (.lst [.int (k : Nat)])]⟩ := by
      generalize ((k : Nat) : Int) = z
      simp
    exact set_ e rfl
  have s2 : sSet 5 eDct0 ⟨[some (.val dc), vC c, vC o, vI (k : Nat), vC S.length, none, none, none, none], S ++ [some (.lst [.int (k : Nat)])]⟩ = .nx ⟨[some (.val dc), vC c, vC o, vI (k : Nat), vC S.length, vC (S.length + 1), none, none, none], W⟩ := by
    have e : eDct0 ⟨[some (.val dc), vC c, vC o, vI (k : Nat), vC S.length, none, none, none, none], S ++ [some (.lst [.int (k : Nat)])]⟩ = .ok (.ce (S.length + 1)) ⟨[some (.val dc), vC c, vC o, vI (k : Nat), vC S.length, none, none, none, none], W⟩ := by
      rw [eDct0_ap]
      show Rs.ok (.ce (S ++ [some (Cn.lst [.int (k : Nat)])]).length) ⟨_, (S ++ [some (Cn.lst [.int (k : Nat)])]) ++ [some (.dct [])]⟩ = _
      rw [List.length_append, app1]
      rfl
    exact set_ e rfl
  have s3 := set_ (i := 6) (sl := [some (.val dc), vC c, vC o, vI (k : Nat), vC S.length, vC (S.length + 1), none, none, none]) (S := W) (c_ (d := .int 0)) rfl
  have r := key (2 ^ 70) (by decide)
  have ew : sWhile (2 ^ 70) wt__choose_2 g__choose_3 ⟨cE dc c o k S.length (S.length + 1) ((0 : Nat) : Int) none none, W⟩ = whileS wt__choose_2 g__choose_3 (2 ^ 70) ⟨cE dc c o k S.length (S.length + 1) ((0 : Nat) : Int) none none, W⟩ := rfl
  rw [← ew] at r
  generalize hfl : sWhile (2 ^ 70) wt__choose_2 g__choose_3 ⟨cE dc c o k S.length (S.length + 1) ((0 : Nat) : Int) none none, W⟩ = fl at r
  have run : ∀ R : Rt, (sSeq (sWhile (2 ^ 70) wt__choose_2 g__choose_3) (sRet (eCallF false tupleF (eCallF false sortedF (eVar 4)))) ⟨cE dc c o k S.length (S.length + 1) ((0 : Nat) : Int) none none, W⟩ |> endR) = R → runS b__choose 9 [dc, .ce c, .ce o, .int (k : Nat)] S = R := fun R e => by
    show endR (b__choose ⟨[some (.val dc), vC c, vC o, vI (k : Nat), none, none, none, none, none], S⟩) = _
    unfold b__choose
    rw [sq_ s1 (sq_ s2 (sq_ s3 rfl))]
    exact e
  rcases r with ⟨W', sl, src, met, rfl, hsl, B, all, hm, O⟩ | ⟨W', sl, ch', ow', rfl, M', hl', a1, a2, O⟩
  · obtain ⟨T, hT, hp, hs⟩ := sort_nat met
    refine .inl ⟨T, B.room F hk M all hp hs, ?_⟩
    have e1 := cf_l (F := sortedF) (v_ (sl := sl) (S := W') hsl) (ds := T.map fun i => D.int (i : Nat)) (by
      rw [see1_c, hm]
      show (asInts (met.map fun i => D.int (i : Nat))).map (fun ns => Oc.new ((sortI ns).map .int)) = _
      rw [show (met.map fun i => D.int ((i : Nat) : Int)) = (met.map fun i => ((i : Nat) : Int)).map D.int by rw [List.map_map]; rfl, asInts_map]
      show some (Oc.new ((sortI (met.map fun i => ((i : Nat) : Int))).map D.int)) = _
      rw [hT, List.map_map]
      rfl)
    have e2 := ret_ (cf_ (mm := false) (F := tupleF) e1 (z := tupN T) rfl)
    have h := run _ (by show endR _ = _; rw [sq_ hfl e2])
    have ew2 : W' = S ++ W'.drop S.length := by
      refine List.ext_getElem? fun j => ?_
      by_cases hj : j < S.length
      · rw [List.getElem?_append_left hj, O.out j (by simp only [List.mem_cons, List.not_mem_nil, or_false]; omega)]
        exact List.getElem?_append_left hj
      · rw [List.getElem?_append_right (by omega), List.getElem?_drop]
        congr 1
        omega
    rw [ew2] at h
    refine run_same h ?_
    unfold tupN
    rw [clD_tup, clDs_all]
    intro d m
    obtain ⟨i, _, rfl⟩ := List.mem_map.mp m
    exact clD_int
  · refine .inr ⟨W'.take S.length, ch', ow', ?_, ?_, M', hl'⟩
    · have h := run _ (by show endR _ = _; rw [sq_r hfl])
      have hlen : S.length ≤ W'.length := by
        rw [O.len]
        show S.length ≤ (S ++ _).length
        rw [List.length_append]
        omega
      have T : Two c o S (W'.take S.length) ch' ow' := ⟨by rw [List.length_take]; omega, by rw [List.getElem?_take_of_lt cl]; exact a1, by rw [List.getElem?_take_of_lt ol]; exact a2, fun j h1 h2 => by
        by_cases hj : j < S.length
        · rw [List.getElem?_take_of_lt hj, O.out j (by simp only [List.mem_cons, List.not_mem_nil, or_false]; omega)]
          exact List.getElem?_append_left hj
        · rw [List.getElem?_eq_none (by rw [List.length_take]; omega), List.getElem?_eq_none (by omega)]⟩
      rw [← List.take_append_drop S.length W'] at h
      exact T.run h (by simp)
    · have hlen : S.length ≤ W'.length := by
        rw [O.len]
        show S.length ≤ (S ++ _).length
        rw [List.length_append]
        omega
      exact ⟨by rw [List.length_take]; omega, by rw [List.getElem?_take_of_lt cl]; exact a1, by rw [List.getElem?_take_of_lt ol]; exact a2, fun j h1 h2 => by
        by_cases hj : j < S.length
        · rw [List.getElem?_take_of_lt hj, O.out j (by simp only [List.mem_cons, List.not_mem_nil, or_false]; omega)]
          exact List.getElem?_append_left hj
        · rw [List.getElem?_eq_none (by rw [List.length_take]; omega), List.getElem?_eq_none (by omega)]⟩
end K52

/-! pairing. -/
namespace K52
open PySem MB
section
variable {S : Store} {lim : Nat} {it : D} {r : List Int}
theorem Item.len (h : Item S lim it r) : lenS S it = some (.int (r.length : Nat)) := by
  cases h with
  | tup => show some (D.int _) = _; rw [List.length_map]
  | lst => show some (D.int _) = _; rw [List.length_map]
  | ce hn e => rw [len_cell e, List.length_map]
theorem size_ok {lo hi n : Int} (h : lenS S it = some (.int n)) (h1 : lo ≤ n) (h2 : n ≤ hi) : m_look_size [it, .int lo, .int hi] S = .ok .non S := by
  refine run_id ?_ (by simp)
  have a : ¬ n < lo := by omega
  have b : ¬ hi < n := by omega
  simp [-lenS_ap, b_look_size, h, a, b]
theorem size_err {lo hi n : Int} (h : lenS S it = some (.int n)) (h1 : n < lo ∨ hi < n) : m_look_size [it, .int lo, .int hi] S = .err (xS n) S := by
  refine run_ide ?_ (by simp [xS])
  by_cases a : n < lo
  · simp [-lenS_ap, b_look_size, h, a, xS]
  · have b : hi < n := by omega
    simp [-lenS_ap, b_look_size, h, a, b, xS]
theorem number_ok {n lo hi : Int} (h1 : lo ≤ n) (h2 : n ≤ hi) : m_look_number [.int n, .int lo, .int hi] S = .ok .non S := by
  refine run_id ?_ (by simp)
  have a : ¬ n < lo := by omega
  have b : ¬ hi < n := by omega
  simp [b_look_number, a, b]
theorem number_err {n lo hi : Int} (h : n < lo ∨ hi < n) : m_look_number [.int n, .int lo, .int hi] S = .err (xN n) S := by
  refine run_ide ?_ (by simp [xN])
  by_cases a : n < lo
  · simp [b_look_number, a, xN]
  · have b : hi < n := by omega
    simp [b_look_number, a, b, xN]
/-- the first number out of bounds -/
def badN : List Int → Option Int
  | [] => none
  | x :: r => if x < 0 ∨ 199 < x then some x else badN r
def outN (r : List Int) (ρ : En) : Fl := match badN r with
  | none => .nx ρ
  | some x => .err (xN x) ρ
theorem numbers_step (x : Int) {x0 : Option Sl} : g_look_numbers_1 ⟨[x0, vI 0, vI 199, vI x], S⟩ = if x < 0 ∨ 199 < x then .err (xN x) ⟨[x0, vI 0, vI 199, vI x], S⟩ else .nx ⟨[x0, vI 0, vI 199, vI x], S⟩ := by
  unfold g_look_numbers_1
  by_cases h : x < 0 ∨ 199 < x
  · rw [if_pos h]
    simp [number_err (S := S) h]
  · rw [if_neg h]
    simp [number_ok (S := S) (show (0 : Int) ≤ x by omega) (show x ≤ 199 by omega)]
theorem numbers_loop {x0 : Option Sl} : ∀ (r : List Int) (x3 : Option Sl), ∃ y3, loopS (bNm 3) g_look_numbers_1 (r.map D.int) ⟨[x0, vI 0, vI 199, x3], S⟩ = outN r ⟨[x0, vI 0, vI 199, y3], S⟩
  | [], x3 => ⟨x3, rfl⟩
  | x :: r, x3 => by
    have e : loopS (bNm 3) g_look_numbers_1 ((x :: r).map D.int) ⟨[x0, vI 0, vI 199, x3], S⟩ = kL2 (bNm 3) g_look_numbers_1 (r.map D.int) (g_look_numbers_1 ⟨[x0, vI 0, vI 199, vI x], S⟩) := by
      rw [List.map_cons, loopS_cs]
      rfl
    rw [numbers_step] at e
    by_cases h : x < 0 ∨ 199 < x
    · rw [if_pos h] at e
      have eb : badN (x :: r) = some x := if_pos h
      refine ⟨vI x, e.trans ?_⟩
      unfold outN
      rw [eb]
      rfl
    · rw [if_neg h] at e
      have eb : badN (x :: r) = badN r := if_neg h
      obtain ⟨y3, hy⟩ := numbers_loop r (vI x)
      refine ⟨y3, e.trans ?_⟩
      unfold outN at hy ⊢
      rw [eb]
      exact hy
theorem numbers_spec (h : Item S lim it r) (hl : r.length ≤ 1000000) : m_look_numbers [it, .int 0, .int 199] S = match badN r with
    | none => .ok .non S
    | some x => .err (xN x) S := by
  have f : sForS it_look_numbers_0 (bNm 3) g_look_numbers_1 ⟨[some (.val it), vI 0, vI 199, none], S⟩ = loopS (bNm 3) g_look_numbers_1 (r.map D.int) ⟨[some (.val it), vI 0, vI 199, none], S⟩ := by
    have q : it_look_numbers_0 ⟨[some (.val it), vI 0, vI 199, none], S⟩ = .ok it ⟨[some (.val it), vI 0, vI 199, none], S⟩ := v_ rfl
    cases h with
    | tup => exact forS_data q rfl rfl
    | lst => exact forS_data q rfl rfl
    | @ce n _ hn hr =>
      refine forS_cell (n := n) (I := fun _ ρ => ∃ x3, ρ = ⟨[some (.val (.ce n)), vI 0, vI 199, x3], S⟩) q ?_ ?_ ⟨none, rfl⟩ (by rw [List.length_map]; exact hl)
      · rintro i ρ ⟨x3, rfl⟩
        exact la_ hr
      · rintro i d hd ρ ρ1 ρ2 ⟨x3, rfl⟩ hb hg
        obtain ⟨x, hx, rfl⟩ := List.mem_map.mp (List.mem_of_getElem? hd)
        have hb' : ρ1 = ⟨[some (.val (.ce n)), vI 0, vI 199, vI x], S⟩ := (Option.some.inj hb).symm
        rw [hb', numbers_step] at hg
        by_cases c : x < 0 ∨ 199 < x
        · rw [if_pos c] at hg
          exact hg.elim
        · rw [if_neg c] at hg
          exact ⟨_, (show _ = ρ2 from hg).symm⟩
  obtain ⟨y3, hy⟩ := numbers_loop (S := S) (x0 := some (.val it)) r none
  unfold outN at hy
  cases e : badN r with
  | none =>
    rw [e] at hy
    refine run_id ?_ (by simp)
    show endR (b_look_numbers ⟨[some (.val it), vI 0, vI 199, none], S⟩) = _
    unfold b_look_numbers
    rw [f, hy]
    rfl
  | some x =>
    rw [e] at hy
    refine run_ide ?_ (by simp [xN])
    show endR (b_look_numbers ⟨[some (.val it), vI 0, vI 199, none], S⟩) = _
    unfold b_look_numbers
    rw [f, hy]
    rfl
end
/-- what is wrong first -/
def rowsE : List (List Int) → Option Ex
  | [] => none
  | r :: rs => if 40 < r.length then some (xS r.length) else match badN r with
    | some x => some (xN x)
    | none => rowsE rs
def allE (rows : List (List Int)) : Option Ex := if 40 < rows.length then some (xS rows.length) else rowsE rows
def outE (o : Option Ex) (ρ : En) : Fl := match o with
  | none => .nx ρ
  | some x => .err x ρ
theorem check_loop {S : Store} {lim : Nat} {x0 x2 x3 x4 x5 : Option Sl} : ∀ (items : List D) (rows : List (List Int)) (x1 : Option Sl), items.length = rows.length → (∀ (i : Nat) (it : D), items[i]? = some it → Item S lim it (row rows i)) → (∀ r ∈ rows, r.length ≤ 1000000) → ∃ y1,
    loopS (bNm 1) g_pairing_1 items ⟨[x0, x1, x2, x3, x4, x5], S⟩ = outE (rowsE rows) ⟨[x0, y1, x2, x3, x4, x5], S⟩
  | [], [], x1, _, _, _ => ⟨x1, rfl⟩
  | [], _ :: _, _, h, _, _ => by simp at h
  | _ :: _, [], _, h, _, _ => by simp at h
  | it :: items, r :: rs, x1, hl, hI, hm => by
    have I : Item S lim it r := hI 0 it rfl
    have step : loopS (bNm 1) g_pairing_1 (it :: items) ⟨[x0, x1, x2, x3, x4, x5], S⟩ = kL2 (bNm 1) g_pairing_1 items (g_pairing_1 ⟨[x0, some (.val it), x2, x3, x4, x5], S⟩) := by
      rw [loopS_cs]
      rfl
    by_cases h : 40 < r.length
    · have e : rowsE (r :: rs) = some (xS r.length) := if_pos h
      refine ⟨some (.val it), step.trans ?_⟩
      have q := size_err (lo := 0) (hi := 40) I.len (.inr (by omega))
      have qe : sEx (eFn m_look_size [(eVar 1), (eC (.int 0)), (eC dc_MOST_CHOICES)]) ⟨[x0, some (.val it), x2, x3, x4, x5], S⟩ = .err (xS r.length) ⟨[x0, some (.val it), x2, x3, x4, x5], S⟩ := by
        unfold dc_MOST_CHOICES
        generalize ((r.length : Nat) : Int) = z at q
        simp [q]
      unfold g_pairing_1
      rw [sq_e qe, e]
      rfl
    · have q := size_ok (lo := 0) (hi := 40) I.len (by omega) (by omega)
      have e1 := fn3_ (m := m_look_size) (f := eVar 1) (g := eC (.int 0)) (h := eC dc_MOST_CHOICES) (sl := [x0, some (.val it), x2, x3, x4, x5]) (S := S) (v_ rfl) c_ c_ q
      have q2 := numbers_spec I (hm r List.mem_cons_self)
      cases eb : badN r with
      | some x =>
        rw [eb] at q2
        have e : rowsE (r :: rs) = some (xN x) := by
          unfold rowsE
          rw [if_neg h, eb]
        refine ⟨some (.val it), step.trans ?_⟩
        have qe : sEx (eFn m_look_numbers [(eVar 1), (eC (.int 0)), (eC dc_GREATEST_CHOICE)]) ⟨[x0, some (.val it), x2, x3, x4, x5], S⟩ = .err (xN x) ⟨[x0, some (.val it), x2, x3, x4, x5], S⟩ := by
          simp [dc_GREATEST_CHOICE, q2]
        unfold g_pairing_1
        rw [sq_ (ex_ e1) qe, e]
        rfl
      | none =>
        rw [eb] at q2
        have e : rowsE (r :: rs) = rowsE rs := by
          conv => lhs; unfold rowsE
          rw [if_neg h, eb]
        have e2 := fn3_ (m := m_look_numbers) (f := eVar 1) (g := eC (.int 0)) (h := eC dc_GREATEST_CHOICE) (sl := [x0, some (.val it), x2, x3, x4, x5]) (S := S) (v_ rfl) c_ c_ q2
        obtain ⟨y1, hy⟩ := check_loop items rs (some (.val it)) (by simpa using hl) (fun i d hd => hI (i + 1) d (by simpa using hd)) (fun q m => hm q (List.mem_cons_of_mem _ m))
        refine ⟨y1, step.trans ?_⟩
        have eg : g_pairing_1 ⟨[x0, some (.val it), x2, x3, x4, x5], S⟩ = .nx ⟨[x0, some (.val it), x2, x3, x4, x5], S⟩ := by
          unfold g_pairing_1
          exact sq_ (ex_ e1) (ex_ e2)
        rw [eg, kL2_nx, hy, e]
theorem rowsE_cl {n : Nat} {x : Ex} : ∀ {rows : List (List Int)}, rowsE rows = some x → clDs n (x.fs.map (·.2))
  | [], h => by cases h
  | r :: rs, h => by
    unfold rowsE at h
    split at h
    · cases h; simp [xS]
    · cases e : badN r with
      | some z => rw [e] at h; cases h; simp [xN]
      | none => rw [e] at h; exact rowsE_cl h
theorem Chs.len {S : Store} {lim : Nat} {dc : D} {rows : List (List Int)} (h : Chs S lim dc rows) : lenS S dc = some (.int (rows.length : Nat)) := by
  obtain ⟨items, a, b, _⟩ := h
  rcases a with rfl | rfl
  · show some (D.int (items.length : Nat)) = _; rw [b]
  · show some (D.int (items.length : Nat)) = _; rw [b]
theorem pairing_err {S : Store} {lim : Nat} {dc : D} {rows : List (List Int)} {x : Ex} (H : Chs S lim dc rows) (hm : ∀ r ∈ rows, r.length ≤ 1000000) (h : allE rows = some x) : m_pairing [dc] S = .err x S := by
  unfold allE at h
  by_cases c : 40 < rows.length
  · rw [if_pos c] at h
    cases h
    refine run_ide ?_ (by simp [xS])
    have q := size_err (lo := 0) (hi := 40) H.len (.inr (by omega))
    show endR (b_pairing ⟨[some (.val dc), none, none, none, none, none], S⟩) = _
    have qe : sEx (eFn m_look_size [(eVar 0), (eC (.int 0)), (eC dc_MOST_CHOICES)]) ⟨[some (.val dc), none, none, none, none, none], S⟩ = .err (xS rows.length) ⟨[some (.val dc), none, none, none, none, none], S⟩ := by
      unfold dc_MOST_CHOICES
      generalize ((rows.length : Nat) : Int) = z at q
      simp [q]
    unfold b_pairing
    rw [sq_e qe]
    rfl
  · rw [if_neg c] at h
    refine run_ide ?_ (rowsE_cl h)
    have q := size_ok (lo := 0) (hi := 40) H.len (by omega) (by omega)
    have e1 := fn3_ (m := m_look_size) (f := eVar 0) (g := eC (.int 0)) (h := eC dc_MOST_CHOICES) (sl := [some (.val dc), none, none, none, none, none]) (S := S) (v_ rfl) c_ c_ q
    obtain ⟨items, a, b, I⟩ := H
    obtain ⟨y1, hy⟩ := check_loop (S := S) (x0 := some (.val dc)) (x2 := none) (x3 := none) (x4 := none) (x5 := none) items rows none b I hm
    rw [h] at hy
    have it : it_pairing_0 ⟨[some (.val dc), none, none, none, none, none], S⟩ = .ok items ⟨[some (.val dc), none, none, none, none, none], S⟩ := by
      unfold it_pairing_0
      rcases a with rfl | rfl <;> exact iv_ (v_ rfl) rfl
    show endR (b_pairing ⟨[some (.val dc), none, none, none, none, none], S⟩) = _
    unfold b_pairing
    rw [sq_ (ex_ e1) (sq_e (for_ it hy))]
    rfl
theorem rowsE_none : ∀ {rows : List (List Int)}, rowsE rows = none → ∀ r ∈ rows, r.length ≤ 40 ∧ ∀ x ∈ r, 0 ≤ x ∧ x ≤ 199
  | [], _, r, m => absurd m List.not_mem_nil
  | r :: rs, h, q, m => by
    unfold rowsE at h
    split at h
    · cases h
    · rename_i hl
      cases e : badN r with
      | some z => rw [e] at h; cases h
      | none =>
        rw [e] at h
        rcases List.mem_cons.mp m with rfl | m
        · refine ⟨by omega, ?_⟩
          have : ∀ {r : List Int}, badN r = none → ∀ x ∈ r, 0 ≤ x ∧ x ≤ 199 := by
            intro r
            induction r with
            | nil => intro _ x m; cases m
            | cons y r ih =>
              intro h x m
              unfold badN at h
              split at h
              · cases h
              · rcases List.mem_cons.mp m with rfl | m
                · omega
                · exact ih h x m
          exact this e
        · exact rowsE_none h q m
/-- what pairing answers -/
def Ans (rows : List (List Int)) (d : D) : Prop := (∃ ch : List Int, d = .tup [.str "pairs", .tup (ch.map D.int)] ∧ Pairs rows ch) ∨ (∃ T, d = .tup [.str "room", tupN T] ∧ Room rows T)
theorem tupN_cl {n : Nat} {T : List Nat} : clD n (tupN T) := by
  unfold tupN
  rw [clD_tup, clDs_all]
  intro d m
  obtain ⟨i, _, rfl⟩ := List.mem_map.mp m
  exact clD_int
theorem main_loop {rows : List (List Int)} {dc : D} {c o lim : Nat} (F : Fit rows) (hn : rows.length ≤ 40) (hr : ∀ i, (row rows i).length ≤ 1000) (hco : c ≠ o) (hlc : lim ≤ c) (hlo : lim ≤ o) {x1 : Option Sl} :
    ∀ (n k : Nat) (W : Store) (ch : List Int) (ow : List (Int × Nat)) (x4 x5 : Option Sl), k + n = rows.length → Mt rows k ch ow → ow.length ≤ 50 * k → W[c]? = some (some (.lst (ch.map D.int))) → W[o]? = some (some (.dct (enc ow))) → Chs W lim dc rows →
      (∃ T W' sl, loopS (bNm 4) g_pairing_3 ((List.range' k n).map fun j => D.int (j : Nat)) ⟨[some (.val dc), x1, vC c, vC o, x4, x5], W⟩ = .rt (.tup [.str "room", tupN T]) ⟨sl, W'⟩ ∧ Room rows T ∧ Only [c, o] W W')
      ∨ (∃ W' y4 y5 ch' ow', loopS (bNm 4) g_pairing_3 ((List.range' k n).map fun j => D.int (j : Nat)) ⟨[some (.val dc), x1, vC c, vC o, x4, x5], W⟩ = .nx ⟨[some (.val dc), x1, vC c, vC o, y4, y5], W'⟩ ∧ Mt rows rows.length ch' ow' ∧ W'[c]? = some (some (.lst (ch'.map D.int))) ∧ Only [c, o] W W')
  | 0, k, W, ch, ow, x4, x5, hkn, M, _, h1, h2, H => .inr ⟨W, x4, x5, ch, ow, rfl, by rw [← hkn]; exact M, h1, Only.refl _ _⟩
  | n + 1, k, W, ch, ow, x4, x5, hkn, M, hw, h1, h2, H => by
    have hk : k < rows.length := by omega
    have step : loopS (bNm 4) g_pairing_3 ((List.range' k (n + 1)).map fun j => D.int (j : Nat)) ⟨[some (.val dc), x1, vC c, vC o, x4, x5], W⟩ = kL2 (bNm 4) g_pairing_3 ((List.range' (k + 1) n).map fun j => D.int (j : Nat)) (g_pairing_3 ⟨[some (.val dc), x1, vC c, vC o, vI (k : Nat), x5], W⟩) := by
      rw [List.range'_succ, List.map_cons, loopS_cs]
      rfl
    rw [step]
    have fn : ∀ (z : D) (W1 : Store), m__choose [dc, .ce c, .ce o, .int (k : Nat)] W = .ok z W1 → sSet 5 (eFn m__choose [(eVar 0), (eVar 2), (eVar 3), (eVar 4)]) ⟨[some (.val dc), x1, vC c, vC o, vI (k : Nat), x5], W⟩ = .nx ⟨[some (.val dc), x1, vC c, vC o, vI (k : Nat), some (.val z)], W1⟩ := fun z W1 e => by
      have e' : eFn m__choose [(eVar 0), (eVar 2), (eVar 3), (eVar 4)] ⟨[some (.val dc), x1, vC c, vC o, vI (k : Nat), x5], W⟩ = .ok z ⟨[some (.val dc), x1, vC c, vC o, vI (k : Nat), x5], W1⟩ := by
        generalize ((k : Nat) : Int) = y at e
        simp [e]
      exact set_ e' rfl
    rcases choose_spec F hk M hn hr hco (by omega) h1 h2 hlc hlo H with ⟨T, R, e⟩ | ⟨S', ch', ow', e, T, M', hl⟩
    · refine .inl ⟨T, W, [some (.val dc), x1, vC c, vC o, vI (k : Nat), some (.val (tupN T))], ?_, R, Only.refl _ _⟩
      have t : eB isntD (eVar 5) (eC .non) ⟨[some (.val dc), x1, vC c, vC o, vI (k : Nat), some (.val (tupN T))], W⟩ = .ok (.bl true) ⟨[some (.val dc), x1, vC c, vC o, vI (k : Nat), some (.val (tupN T))], W⟩ := b_ (v_ rfl) c_ rfl
      have e3 := ret_ (t2_ (c_ (d := .str "room")) (v_ (i := 5) (sl := [some (.val dc), x1, vC c, vC o, vI (k : Nat), some (.val (tupN T))]) (S := W) rfl))
      unfold g_pairing_3
      rw [sq_ (fn _ _ e) ((if_t t rfl).trans e3)]
      rfl
    · have t : eB isntD (eVar 5) (eC .non) ⟨[some (.val dc), x1, vC c, vC o, vI (k : Nat), some (.val .non)], S'⟩ = .ok (.bl false) ⟨[some (.val dc), x1, vC c, vC o, vI (k : Nat), some (.val .non)], S'⟩ := b_ (v_ rfl) c_ rfl
      have eg : g_pairing_3 ⟨[some (.val dc), x1, vC c, vC o, vI (k : Nat), x5], W⟩ = .nx ⟨[some (.val dc), x1, vC c, vC o, vI (k : Nat), some (.val .non)], S'⟩ := by
        unfold g_pairing_3
        exact sq_ (fn _ _ e) ((if_f t rfl).trans nil_)
      rw [eg, kL2_nx]
      have O : Only [c, o] W S' := ⟨T.len, fun j n => T.out j (fun z => n (by rw [z]; simp)) (fun z => n (by rw [z]; simp))⟩
      rcases main_loop F hn hr hco hlc hlo n (k + 1) S' ch' ow' (vI (k : Nat)) (some (.val .non)) (by omega) M' (by omega) T.atc T.ato (H.keep (O.below fun j m => by
        simp only [List.mem_cons, List.not_mem_nil, or_false] at m
        rcases m with rfl | rfl
        · exact hlc
        · exact hlo)) with ⟨T2, W2, sl, a1, a2, a3⟩ | ⟨W2, y4, y5, ch2, ow2, a1, a2, a3, a4⟩
      · exact .inl ⟨T2, W2, sl, a1, a2, O.trans a3⟩
      · exact .inr ⟨W2, y4, y5, ch2, ow2, a1, a2, a3, O.trans a4⟩
theorem same_below {S W W' : Store} {a b : Option Cn} (hW : W = S ++ [a, b]) (O : Only [S.length, S.length + 1] W W') : W' = S ++ W'.drop S.length := by
  refine List.ext_getElem? fun j => ?_
  by_cases hj : j < S.length
  · rw [List.getElem?_append_left hj, O.out j (by simp only [List.mem_cons, List.not_mem_nil, or_false]; omega), hW]
    exact List.getElem?_append_left hj
  · rw [List.getElem?_append_right (by omega), List.getElem?_drop]
    congr 1
    omega
theorem fit_of {rows : List (List Int)} (h : ∀ r ∈ rows, r.length ≤ 40 ∧ ∀ x ∈ r, 0 ≤ x ∧ x ≤ 199) : Fit rows ∧ ∀ i, (row rows i).length ≤ 40 := by
  have key : ∀ i, (row rows i).length ≤ 40 ∧ ∀ x ∈ row rows i, 0 ≤ x ∧ x ≤ 199 := fun i => by
    unfold row
    cases e : rows[i]? with
    | none => simp
    | some r => exact h r (List.mem_of_getElem? e)
  exact ⟨fun i m => by have := (key i).2 _ m; omega, fun i => (key i).1⟩
theorem pairing_ok {S : Store} {lim : Nat} {dc : D} {rows : List (List Int)} (H : Chs S lim dc rows) (hlim : lim ≤ S.length) (h : allE rows = none) : ∃ d, m_pairing [dc] S = .ok d S ∧ Ans rows d := by
  unfold allE at h
  split at h
  · cases h
  · rename_i c
    have hv := rowsE_none h
    obtain ⟨F, hr⟩ := fit_of hv
    have q := size_ok (lo := 0) (hi := 40) H.len (by omega) (by omega)
    have e1 := fn3_ (m := m_look_size) (f := eVar 0) (g := eC (.int 0)) (h := eC dc_MOST_CHOICES) (sl := [some (.val dc), none, none, none, none, none]) (S := S) (v_ rfl) c_ c_ q
    obtain ⟨items, a, b, I⟩ := id H
    obtain ⟨y1, hy⟩ := check_loop (S := S) (x0 := some (.val dc)) (x2 := none) (x3 := none) (x4 := none) (x5 := none) items rows none b I (fun r m => by have := (hv r m).1; omega)
    rw [h] at hy
    have it : it_pairing_0 ⟨[some (.val dc), none, none, none, none, none], S⟩ = .ok items ⟨[some (.val dc), none, none, none, none, none], S⟩ := by
      unfold it_pairing_0
      rcases a with rfl | rfl <;> exact iv_ (v_ rfl) rfl
    have s3 : sSet 2 (eBF true mulF (eLst [(eC dc_FREE)]) (eLenS (eVar 0))) ⟨[some (.val dc), y1, none, none, none, none], S⟩ = .nx ⟨[some (.val dc), y1, vC S.length, none, none, none], S ++ [some (.lst ((List.replicate rows.length (-1 : Int)).map D.int))]⟩ := by
      have qm : ∀ y : Int, y = (rows.length : Nat) → mulF (.lst [.int (-1)]) (.int y) = some (.new ((List.replicate rows.length (-1 : Int)).map D.int)) := fun y hy => by
        rw [mulF_l, if_pos ⟨⟨by omega, by omega⟩, by rw [List.length_singleton, PySem.sizeLine_eq]; omega⟩, show y.toNat = rows.length by omega]
        congr 2
        induction rows.length with
        | zero => rfl
        | succ n ih => rw [List.replicate_succ, List.flatten_cons, ih, List.replicate_succ]; rfl
      exact set_ (bf_c (op := mulF) (l1_ (c_ (d := dc_FREE))) (ln_ (v_ (i := 0) rfl) H.len) (qm _ rfl)) rfl
    have s4 : sSet 3 eDct0 ⟨[some (.val dc), y1, vC S.length, none, none, none], S ++ [some (.lst ((List.replicate rows.length (-1 : Int)).map D.int))]⟩ = .nx ⟨[some (.val dc), y1, vC S.length, vC (S.length + 1), none, none], S ++ [some (.lst ((List.replicate rows.length (-1 : Int)).map D.int)), some (.dct (enc []))]⟩ := by
      have e : eDct0 ⟨[some (.val dc), y1, vC S.length, none, none, none], S ++ [some (.lst ((List.replicate rows.length (-1 : Int)).map D.int))]⟩ = .ok (.ce (S.length + 1)) ⟨[some (.val dc), y1, vC S.length, none, none, none], S ++ [some (.lst ((List.replicate rows.length (-1 : Int)).map D.int)), some (.dct (enc []))]⟩ := by
        rw [eDct0_ap]
        show Rs.ok (.ce (S ++ [_]).length) ⟨_, (S ++ [_]) ++ [some (.dct [])]⟩ = _
        rw [List.length_append, app1]
        rfl
      exact set_ e rfl
    generalize hW : S ++ [some (Cn.lst ((List.replicate rows.length (-1 : Int)).map D.int)), some (.dct (enc []))] = W at s4
    have w1 : W[S.length]? = some (some (.lst ((List.replicate rows.length (-1 : Int)).map D.int))) := by rw [← hW]; simp
    have w2 : W[S.length + 1]? = some (some (.dct (enc []))) := by rw [← hW]; simp
    have HW : Chs W lim dc rows := H.keep fun n hn => by rw [← hW]; exact List.getElem?_append_left (by omega)
    have it2 : it_pairing_2 ⟨[some (.val dc), y1, vC S.length, vC (S.length + 1), none, none], W⟩ = .ok ((List.range' 0 rows.length).map fun j => D.int (j : Nat)) ⟨[some (.val dc), y1, vC S.length, vC (S.length + 1), none, none], W⟩ := by
      unfold it_pairing_2
      rw [← List.range_eq_range']
      exact ir1_ (by omega) (ln_ (v_ rfl) HW.len)
    have body : ∀ fl : Fl, loopS (bNm 4) g_pairing_3 ((List.range' 0 rows.length).map fun j => D.int (j : Nat)) ⟨[some (.val dc), y1, vC S.length, vC (S.length + 1), none, none], W⟩ = fl → runS b_pairing 6 [dc] S = endR (kSq (sRet (eTup [(eC (.str "pairs")), (eCallF false tupleF (eVar 2))])) fl) := fun fl e => by
      show endR (b_pairing ⟨[some (.val dc), none, none, none, none, none], S⟩) = _
      unfold b_pairing
      rw [sq_ (ex_ e1) (sq_ (for_ it hy) (sq_ s3 (sq_ s4 rfl))), sSeq_ap, for_ it2 e]
    rcases main_loop (dc := dc) (x1 := y1) F (by omega) (fun i => by have := hr i; omega) (show S.length ≠ S.length + 1 by omega) hlim (by omega) rows.length 0 W _ [] none none (by omega) (Mt.start rows) (by simp) w1 w2 HW with ⟨T, W', sl, a1, R, O⟩ | ⟨W', y4, y5, ch', ow', a1, M', a3, O⟩
    · refine ⟨.tup [.str "room", tupN T], ?_, .inr ⟨T, rfl, R⟩⟩
      have e := body _ a1
      rw [same_below hW.symm O] at e
      exact run_same e (by simp [tupN_cl])
    · refine ⟨.tup [.str "pairs", .tup (ch'.map D.int)], ?_, .inl ⟨ch', rfl, M'.pairs F⟩⟩
      have e := body _ a1
      have e3 := ret_ (t2_ (c_ (d := .str "pairs")) (cf_ (mm := false) (F := tupleF) (v_ (i := 2) (sl := [some (.val dc), y1, vC S.length, vC (S.length + 1), y4, y5]) (S := W') rfl) (z := .tup (ch'.map D.int)) (by rw [see1_c, a3]; rfl)))
      have e4 : runS b_pairing 6 [dc] S = .ok (.tup [.str "pairs", .tup (ch'.map D.int)]) W' := by
        rw [e]
        show endR (sRet _ _) = _
        rw [e3]
        rfl
      rw [same_below hW.symm O] at e4
      exact run_same e4 (by simp)
end K52

/-! _law_told, _law_whole, _law_right. -/
namespace K52
open PySem MB
theorem told_S {a : D} {n : Int} {S : Store} (h : m_pairing [a] S = .err (xS n) S) : m__law_told [a] S = .ok (.tup [.str "size", .int n, .bl true]) S := by
  refine run_id ?_ (by simp)
  simp [b__law_told, tb__law_told_0, hd__law_told_1, h, xS, isX, isXT, xs, ist_0, ist_1, xf_count, List.lookup_cons, noExc]
theorem told_N {a : D} {n : Int} {S : Store} (h : m_pairing [a] S = .err (xN n) S) : m__law_told [a] S = .ok (.tup [.str "number", .int n, .bl true]) S := by
  refine run_id ?_ (by simp)
  simp [b__law_told, tb__law_told_0, hd__law_told_2, h, xN, isX, isXT, xs, ist_0, ist_1, xf_number, List.lookup_cons, noExc]
theorem told_ok {a d : D} {S : Store} (h : m_pairing [a] S = .ok d S) (c : clD S.length d) : m__law_told [a] S = .ok (.tup [.str "told", d]) S := by
  refine run_id ?_ (by simpa using c)
  simp [b__law_told, tb__law_told_0, h]
def rowL (r : List Int) : D := .lst (r.map D.int)
def tabL (rows : List (List Int)) : D := .lst (rows.map rowL)
def intB : D → Bool
  | .int _ => false
  | _ => true
theorem whole_ok {l : List Int} {S : Store} (hl : l.length ≤ 1000000) : m__law_whole [.tup (l.map D.int)] S = .ok (.bl true) S := by
  refine run_id ?_ (by simp)
  have it : it__law_whole_0 ⟨[some (.val (.tup (l.map D.int))), none], S⟩ = .ok (l.map D.int) ⟨[some (.val (.tup (l.map D.int))), none], S⟩ := iv_ (v_ rfl) rfl
  have c := eComp_filt (b := bNm 1) (c := ct__law_whole_1) (e := ce__law_whole_2) (vs := [1]) (p := intB) (g := id) it (by rw [List.length_map]; exact hl) (fun d hd => by
    obtain ⟨x, _, rfl⟩ := List.mem_map.mp hd
    refine ⟨⟨[some (.val (.tup (l.map D.int))), vI x], S⟩, rfl, .bl false, ⟨[some (.val (.tup (l.map D.int))), vI x], S⟩, ?_, rfl, fun _ => rfl, fun h => by cases h⟩
    unfold ct__law_whole_1
    simp)
  have e0 : ((l.map D.int).filter intB) = [] := by
    rw [List.filter_map]
    have : (intB ∘ D.int) = fun _ => false := rfl
    rw [this]
    simp
  rw [e0] at c
  show endR (b__law_whole ⟨[some (.val (.tup (l.map D.int))), none], S⟩) = _
  unfold b__law_whole
  have e1 : eIsT "tuple" (eVar 0) ⟨[some (.val (.tup (l.map D.int))), none], S⟩ = .ok (.bl true) ⟨[some (.val (.tup (l.map D.int))), none], S⟩ := by simp
  have e2 := bs_ (k := 3) (op := eqD) (t := true) (c.trans rfl) (l0_ (S := S)) rfl
  rw [ret_ ((and_t e1 rfl).trans e2)]
  rfl
abbrev rE (dr dt db : D) (x3 x4 x5 x6 x7 : Option Sl) : List (Option Sl) := [some (.val dr), some (.val dt), some (.val db), x3, x4, x5, x6, x7]
theorem right_start {dr db d0 : D} {l : List Int} {S : Store} (hl : l.length ≤ 1000000) {u : SX} : sSeq (sIf (eOr (eNot (eIsT "tuple" (eVar 1))) (eOr (eB neD (eLenS (eVar 1)) (eC (.int 2))) (eNot (eFn m__law_whole [(eIxS (eVar 1) (eC (.int 1)))])))) (sRet (eC (.bl false))) sNil)
    (sSeq (sSet 3 (eIxS (eVar 1) (eC (.int 1)))) u) ⟨rE dr (.tup [d0, .tup (l.map D.int)]) db none none none none none, S⟩ = u ⟨rE dr (.tup [d0, .tup (l.map D.int)]) db (some (.val (.tup (l.map D.int)))) none none none none, S⟩ := by
  have w := whole_ok (S := S) hl
  generalize D.tup (l.map D.int) = t at w
  simp [w]
/-- membership in a list of ints -/
theorem in_ints {z : Int} {ns : List Int} : inM (.int z) (.lst (ns.map D.int)) = some (.bl (decide (z ∈ ns))) := by
  show (match inB (.int z) (ns.map D.int) with
    | some b => some (D.bl b)
    | none => (inDeep (.int z) (ns.map D.int)).map .bl) = _
  have h : inB (.int z) (ns.map D.int) = some (decide (z ∈ ns)) := by
    unfold inB
    have a : (flat (.int z) && (ns.map D.int).all flat) = true := by
      simp
    rw [if_pos a]
    congr 1
    induction ns with
    | nil => rfl
    | cons n ns ih =>
      rw [List.map_cons, List.any_cons, ih]
      · by_cases e : n = z
        · subst e; simp
        · have e2 : ¬ z = n := fun q => e q.symm
          simp [e, e2]
      · simp
  rw [h]
end K52

/-! _law_right on pairs. -/
namespace K52
open PySem MB
theorem in_row {S : Store} {n : Nat} {z : Int} {ns : List Int} : inS (n + 1) S (.int z) (.lst (ns.map D.int)) = some (.bl (decide (z ∈ ns))) := by
  show inM (seeD S (n + 1) (.int z)) (seeD S (n + 1) (.lst (ns.map D.int))) = _
  have a : seeD S (n + 1) (.int z) = .int z := by simp
  have b : seeD S (n + 1) (.lst (ns.map D.int)) = .lst (ns.map D.int) := by simp
  rw [a, b, in_ints]
theorem asBools_true : ∀ n : Nat, asBools (List.replicate n (.bl true)) = some (List.replicate n true)
  | 0 => rfl
  | n + 1 => by
    rw [List.replicate_succ, List.replicate_succ]
    show (asBools (List.replicate n (.bl true))).map _ = _
    rw [asBools_true n]
    rfl
def moreB (ch : List Int) : D → Bool
  | .int x => decide (1 < ch.count x)
  | _ => true
theorem right_pairs {rows : List (List Int)} {ch : List Int} {S : Store} (P : Pairs rows ch) (hn : rows.length ≤ 1000) : m__law_right [tabL rows, .tup [.str "pairs", .tup (ch.map D.int)], .bl false] S = .ok (.bl true) S := by
  obtain ⟨hl, nd, hin⟩ := P
  refine run_id ?_ (by simp)
  show endR (b__law_right ⟨rE (tabL rows) (.tup [.str "pairs", .tup (ch.map D.int)]) (.bl false) none none none none none, S⟩) = _
  unfold b__law_right
  rw [right_start (by omega)]
  have hs := same_refl (n := 3) (d := .str "pairs") (S := S) (.str (by decide +kernel))
  have e1 : eFn (m__law_same 4) [(eIxS (eVar 1) (eC (.int 0))), (eC (.str "pairs"))] ⟨rE (tabL rows) (.tup [.str "pairs", .tup (ch.map D.int)]) (.bl false) (some (.val (.tup (ch.map D.int)))) none none none none, S⟩ = .ok (.bl true) ⟨rE (tabL rows) (.tup [.str "pairs", .tup (ch.map D.int)]) (.bl false) (some (.val (.tup (ch.map D.int)))) none none none none, S⟩ := by
    generalize D.tup (ch.map D.int) = t
    exact fn2_ (a := .str "pairs") (ix_ (v_ rfl) c_ rfl) c_ hs
  have e2 : eB neD (eLenS (eVar 3)) (eLenS (eVar 0)) ⟨rE (tabL rows) (.tup [.str "pairs", .tup (ch.map D.int)]) (.bl false) (some (.val (.tup (ch.map D.int)))) none none none none, S⟩ = .ok (.bl false) ⟨rE (tabL rows) (.tup [.str "pairs", .tup (ch.map D.int)]) (.bl false) (some (.val (.tup (ch.map D.int)))) none none none none, S⟩ := by
    refine b_ (ln_ (z := .int (rows.length : Nat)) (v_ rfl) ?_) (ln_ (z := .int (rows.length : Nat)) (v_ rfl) ?_) ?_
    · show some (D.int ((ch.map D.int).length : Nat)) = _
      rw [List.length_map, hl]
    · show some (D.int ((rows.map rowL).length : Nat)) = _
      rw [List.length_map]
    · show some (D.bl _) = _
      simp
  have it0 : it__law_right_0 ⟨rE (tabL rows) (.tup [.str "pairs", .tup (ch.map D.int)]) (.bl false) (some (.val (.tup (ch.map D.int)))) none none none none, S⟩ = .ok (ch.map D.int) ⟨rE (tabL rows) (.tup [.str "pairs", .tup (ch.map D.int)]) (.bl false) (some (.val (.tup (ch.map D.int)))) none none none none, S⟩ := iv_ (v_ rfl) rfl
  have c0 := eComp_filt (b := bNm 4) (c := ct__law_right_1) (e := ce__law_right_2) (vs := [4]) (p := moreB ch) (g := id) it0 (by rw [List.length_map]; omega) (fun d hd => by
    obtain ⟨x, _, rfl⟩ := List.mem_map.mp hd
    refine ⟨⟨rE (tabL rows) (.tup [.str "pairs", .tup (ch.map D.int)]) (.bl false) (some (.val (.tup (ch.map D.int)))) (vI x) none none none, S⟩, rfl, .bl (decide (1 < ((ch.count x : Nat) : Int))), ⟨rE (tabL rows) (.tup [.str "pairs", .tup (ch.map D.int)]) (.bl false) (some (.val (.tup (ch.map D.int)))) (vI x) none none none, S⟩, ?_, ?_, fun _ => rfl, fun _ => ⟨⟨rE (tabL rows) (.tup [.str "pairs", .tup (ch.map D.int)]) (.bl false) (some (.val (.tup (ch.map D.int)))) (vI x) none none none, S⟩, v_ rfl, rfl⟩⟩
    · unfold ct__law_right_1
      exact b_ (cnt_ (v_ rfl) (v_ rfl)) c_ rfl
    · show some (decide (1 < ((ch.count x : Nat) : Int))) = some (decide (1 < ch.count x))
      congr 1
      simp
      omega)
  have f0 : (ch.map D.int).filter (moreB ch) = [] := by
    rw [List.filter_eq_nil_iff]
    intro d hd
    obtain ⟨x, _, rfl⟩ := List.mem_map.mp hd
    have := List.nodup_iff_count.mp nd x
    show ¬ decide (1 < ch.count x) = true
    simp
    omega
  rw [f0] at c0
  have e3 : eB gtD (eLenS (eComp it__law_right_0 (bNm 4) ct__law_right_1 ce__law_right_2 [4])) (eC (.int 0)) ⟨rE (tabL rows) (.tup [.str "pairs", .tup (ch.map D.int)]) (.bl false) (some (.val (.tup (ch.map D.int)))) none none none none, S⟩ = .ok (.bl false) ⟨rE (tabL rows) (.tup [.str "pairs", .tup (ch.map D.int)]) (.bl false) (some (.val (.tup (ch.map D.int)))) none none none none, S⟩ := b_ (ln_ (c0.trans rfl) rfl) c_ rfl
  have it3 : it__law_right_3 ⟨rE (tabL rows) (.tup [.str "pairs", .tup (ch.map D.int)]) (.bl false) (some (.val (.tup (ch.map D.int)))) none none none none, S⟩ = .ok (zipD (ch.map D.int) (rows.map rowL)) ⟨rE (tabL rows) (.tup [.str "pairs", .tup (ch.map D.int)]) (.bl false) (some (.val (.tup (ch.map D.int)))) none none none none, S⟩ := by
    unfold it__law_right_3 iZM iB tabL
    simp [sqOf]
  have c3 := eComp_map (b := bTp [(bNm 4), (bNm 5)]) (e := ce__law_right_4) (vs := [4, 5]) (g := fun _ => D.bl true) it3 (by unfold zipD; simp; omega) (fun d hd => by
    obtain ⟨i, hi⟩ := List.mem_iff_getElem?.mp hd
    obtain ⟨x, y, hx, hy, rfl⟩ := zipD_get hi
    rw [List.getElem?_map] at hx hy
    cases e : ch[i]? with
    | none => rw [e] at hx; cases hx
    | some z =>
      cases e' : rows[i]? with
      | none => rw [e'] at hy; cases hy
      | some r =>
        rw [e] at hx
        rw [e'] at hy
        cases hx
        cases hy
        have zr : z ∈ r := by
          obtain ⟨z', h1, h2⟩ := hin i (List.getElem?_eq_some_iff.mp e').1
          rw [e] at h1
          cases h1
          unfold row at h2
          rw [e'] at h2
          exact h2
        refine ⟨⟨rE (tabL rows) (.tup [.str "pairs", .tup (ch.map D.int)]) (.bl false) (some (.val (.tup (ch.map D.int)))) (vI z) (some (.val (rowL r))) none none, S⟩, rfl, ⟨rE (tabL rows) (.tup [.str "pairs", .tup (ch.map D.int)]) (.bl false) (some (.val (.tup (ch.map D.int)))) (vI z) (some (.val (rowL r))) none none, S⟩, ?_, rfl⟩
        unfold ce__law_right_4
        refine in_ (v_ rfl) (v_ rfl) ?_
        rw [show rowL r = .lst (r.map D.int) from rfl, in_row]
        simp [zr])
  have c4 := ca1_ (F := allD) (z := .bl true) (c3.trans rfl) (by
    rw [List.map_const']
    show (asBools _).map _ = _
    rw [asBools_true]
    simp)
  have t : eNot (eVar 2) ⟨rE (tabL rows) (.tup [.str "pairs", .tup (ch.map D.int)]) (.bl false) (some (.val (.tup (ch.map D.int)))) none none none none, S⟩ = .ok (.bl true) ⟨rE (tabL rows) (.tup [.str "pairs", .tup (ch.map D.int)]) (.bl false) (some (.val (.tup (ch.map D.int)))) none none none none, S⟩ := not_ (t := false) (v_ rfl) rfl
  have t2 := (or_f (g := eB neD (eLenS (eVar 3)) (eLenS (eVar 0))) (not_ e1 rfl) rfl).trans e2
  rw [sq_r ((if_t t rfl).trans (sq_ ((if_f t2 rfl).trans nil_) (sq_ ((if_f e3 rfl).trans nil_) (ret_ c4))))]
  rfl
end K52

/-! _law_right on a room. -/
namespace K52
open PySem MB
theorem met_nodup (f : Nat → Int) : ∀ n, (PyProof.Rows.firstMet f n).Nodup
  | 0 => List.nodup_nil
  | n + 1 => by
    rw [PyProof.Rows.firstMet_succ]
    show (if (PyProof.Rows.firstMet f n).any (· == f n) then PyProof.Rows.firstMet f n else PyProof.Rows.firstMet f n ++ [f n]).Nodup
    split
    · exact met_nodup f n
    · rename_i h
      rw [List.nodup_append]
      refine ⟨met_nodup f n, by simp, fun a ha b hb => ?_⟩
      rw [List.mem_singleton.mp hb]
      intro e
      exact h (List.any_eq_true.mpr ⟨a, ha, by simpa using e⟩)
theorem metI_le {ns m : List Int} (h : ∀ x ∈ ns, x ∈ m) : (metI ns).length ≤ m.length := by
  refine sub_len (met_nodup _ _) fun x hx => ?_
  obtain ⟨i, hi, e⟩ := (met_mem _ _ _).mp hx
  refine h x ?_
  rw [← e, List.getD_eq_getElem?_getD, List.getElem?_eq_getElem hi]
  exact List.getElem_mem hi
theorem lenSet_ {sl sl1 : List (Option Sl)} {S S1 : Store} {f : EX} {ns : List Int} (h1 : f ⟨sl, S⟩ = .ok (.lst (ns.map D.int)) ⟨sl1, S1⟩) (hl : ns.length ≤ 4000) : eLenSet f ⟨sl, S⟩ = .ok (.int ((metI ns).length : Nat)) ⟨sl1, S1⟩ := by
  unfold eLenSet
  simp only [h1, Rs.bind, see1_l, asInts_map, hl, if_true]
theorem row_at {rows : List (List Int)} {i : Nat} {S : Store} (h : i < rows.length) : ixS S (tabL rows) (.int (i : Nat)) = some (rowL (row rows i)) := by
  refine ixl_ ?_
  rw [List.getElem?_map, List.getElem?_eq_getElem h]
  show some (rowL _) = _
  unfold row
  rw [List.getElem?_eq_getElem h]
  rfl
theorem names_loop {rows : List (List Int)} {S : Store} {dt : D} {x3 x4 x5 : Option Sl} (hr : ∀ i, (row rows i).length ≤ 1000) : ∀ (T : List Nat) (ns : List Int) (x6 : Option Sl), (∀ i ∈ T, i < rows.length) → ns.length + 1000 * T.length ≤ 1000000 → ∃ y6,
    loopS (bNm 6) g__law_right_12 (T.map fun i => D.int (i : Nat)) ⟨rE (tabL rows) dt (.bl true) x3 x4 x5 x6 (vL (ns.map D.int)), S⟩ = .nx ⟨rE (tabL rows) dt (.bl true) x3 x4 x5 y6 (vL ((ns ++ T.flatMap fun i => row rows i).map D.int)), S⟩
  | [], ns, x6, _, _ => ⟨x6, by simp⟩
  | i :: T, ns, x6, h, hl => by
    have hi := h i List.mem_cons_self
    have h1 := hr i
    rw [List.length_cons] at hl
    obtain ⟨y6, hy⟩ := names_loop (S := S) (dt := dt) (x3 := x3) (x4 := x4) (x5 := x5) hr T (ns ++ row rows i) (vI (i : Nat)) (fun j m => h j (List.mem_cons_of_mem _ m)) (by rw [List.length_append]; omega)
    refine ⟨y6, ?_⟩
    rw [List.map_cons]
    refine lp_ (ρ1 := ⟨rE (tabL rows) dt (.bl true) x3 x4 x5 (vI (i : Nat)) (vL (ns.map D.int)), S⟩) rfl (ρ2 := ⟨rE (tabL rows) dt (.bl true) x3 x4 x5 (vI (i : Nat)) (vL ((ns ++ row rows i).map D.int)), S⟩) ?_ ?_
    · unfold g__law_right_12
      have e2 := ix_ (f := eVar 0) (g := eVar 6) (sl := rE (tabL rows) dt (.bl true) x3 x4 x5 (vI (i : Nat)) (vL (ns.map D.int))) (v_ rfl) (v_ rfl) (row_at (S := S) hi)
      have e := bf_l (op := addF) (ds := (ns ++ row rows i).map D.int) (f := eVar 7) (v_ rfl) e2 (by
        rw [see1_l, show rowL (row rows i) = .lst ((row rows i).map D.int) from rfl, see1_l, addF_l, if_pos (by unfold sizeLine; simp; omega), List.map_append])
      exact set_ e rfl
    · rw [hy, List.flatMap_cons, List.append_assoc]
theorem right_room {rows : List (List Int)} {T : List Nat} {S : Store} (R : Room rows T) (hn : rows.length ≤ 40) (hr : ∀ i, (row rows i).length ≤ 60) : m__law_right [tabL rows, .tup [.str "room", tupN T], .bl true] S = .ok (.bl true) S := by
  obtain ⟨inc, ne, hin, names, hnl, hnm⟩ := R
  have nd : T.Nodup := inc.imp fun h e => by omega
  have tl : T.length ≤ 40 := by
    have := sub_len nd (m := List.range rows.length) fun i m => List.mem_range.mpr (hin i m)
    rw [List.length_range] at this
    omega
  have t0 : 0 < T.length := List.length_pos_iff.mpr ne
  have te : tupN T = .tup ((T.map fun i => ((i : Nat) : Int)).map D.int) := by
    unfold tupN
    rw [List.map_map]
    rfl
  refine run_id ?_ (by simp)
  show endR (b__law_right ⟨rE (tabL rows) (.tup [.str "room", tupN T]) (.bl true) none none none none none, S⟩) = _
  unfold b__law_right
  rw [te, right_start (by simp; omega), ← te]
  have hs := same_refl (n := 3) (d := .str "room") (S := S) (.str (by decide +kernel))
  generalize hsl : rE (tabL rows) (.tup [.str "room", tupN T]) (.bl true) (some (.val (tupN T))) none none none none = sl
  have e1 : eFn (m__law_same 4) [(eIxS (eVar 1) (eC (.int 0))), (eC (.str "room"))] ⟨sl, S⟩ = .ok (.bl true) ⟨sl, S⟩ := by
    rw [← hsl]
    generalize tupN T = t
    exact fn2_ (a := .str "room") (ix_ (v_ rfl) c_ rfl) c_ hs
  have v0 : ∀ sl2 : List (Option Sl), sl2[0]? = sl[0]? → eVar 0 ⟨sl2, S⟩ = .ok (tabL rows) ⟨sl2, S⟩ := fun sl2 h => v_ (h.trans (by rw [← hsl]; rfl))
  have v3 : ∀ sl2 : List (Option Sl), sl2[3]? = sl[3]? → eVar 3 ⟨sl2, S⟩ = .ok (tupN T) ⟨sl2, S⟩ := fun sl2 h => v_ (h.trans (by rw [← hsl]; rfl))
  have lT : lenS S (tupN T) = some (.int (T.length : Nat)) := by
    show some (D.int ((T.map _).length : Nat)) = _
    rw [List.length_map]
  have lR : lenS S (tabL rows) = some (.int (rows.length : Nat)) := by
    show some (D.int ((rows.map rowL).length : Nat)) = _
    rw [List.length_map]
  have e2 : eB eqD (eLenS (eVar 3)) (eC (.int 0)) ⟨sl, S⟩ = .ok (.bl false) ⟨sl, S⟩ := by
    refine b_ (ln_ (v3 _ rfl) lT) c_ ?_
    show some (D.bl (decide _)) = _
    congr 2
    simp
    omega
  have it5 : it__law_right_5 ⟨sl, S⟩ = .ok (T.map fun i => D.int (i : Nat)) ⟨sl, S⟩ := iv_ (v3 _ rfl) rfl
  have c5 := eComp_filt (b := bNm 4) (c := ct__law_right_6) (e := ce__law_right_7) (vs := [4]) (p := fun _ => false) (g := id) it5 (by rw [List.length_map]; omega) (fun d hd => by
    obtain ⟨i, hi, rfl⟩ := List.mem_map.mp hd
    rw [← hsl]
    refine ⟨⟨rE (tabL rows) (.tup [.str "room", tupN T]) (.bl true) (some (.val (tupN T))) (vI (i : Nat)) none none none, S⟩, rfl, .bl false, ⟨rE (tabL rows) (.tup [.str "room", tupN T]) (.bl true) (some (.val (tupN T))) (vI (i : Nat)) none none none, S⟩, ?_, rfl, fun _ => rfl, fun h => by cases h⟩
    unfold ct__law_right_6
    have a : eB ltD (eVar 4) (eC (.int 0)) ⟨rE (tabL rows) (.tup [.str "room", tupN T]) (.bl true) (some (.val (tupN T))) (vI (i : Nat)) none none none, S⟩ = .ok (.bl false) ⟨rE (tabL rows) (.tup [.str "room", tupN T]) (.bl true) (some (.val (tupN T))) (vI (i : Nat)) none none none, S⟩ := b_ (v_ rfl) c_ (by
      show some (D.bl (decide (((i : Nat) : Int) < 0))) = _
      rw [decide_eq_false (by omega)])
    refine (or_f a rfl).trans (b_ (v_ rfl) (ln_ (v_ rfl) lR) ?_)
    have := hin i hi
    show some (D.bl (decide _)) = _
    congr 2
    simp
    exact this)
  have ff : ∀ l : List D, l.filter (fun _ => false) = [] := fun l => by simp
  have b5 : backE ⟨sl, S⟩ (wipeE ⟨sl, S⟩ [4]) [4] = ⟨sl, S⟩ := by
    rw [← hsl]
    rfl
  have b8 : backE ⟨sl, S⟩ (wipeE ⟨sl, S⟩ [6]) [6] = ⟨sl, S⟩ := by
    rw [← hsl]
    rfl
  rw [ff, b5] at c5
  have e5 := bs_ (k := 3) (op := neD) (t := false) (c5.trans rfl) (l0_ (S := S)) rfl
  have it8 : it__law_right_8 ⟨sl, S⟩ = .ok ((List.range (T.length - 1)).map fun j => D.int (j : Nat)) ⟨sl, S⟩ := by
    unfold it__law_right_8
    refine ir1_ (by omega) (b_ (ln_ (v3 _ rfl) lT) c_ ?_)
    show some (D.int (((T.length : Nat) : Int) - 1)) = _
    congr 2
    omega
  have c8 := eComp_filt (b := bNm 6) (c := ct__law_right_9) (e := ce__law_right_10) (vs := [6]) (p := fun _ => false) (g := id) it8 (by rw [List.length_map, List.length_range]; omega) (fun d hd => by
    obtain ⟨k, hk, rfl⟩ := List.mem_map.mp hd
    have hk1 := List.mem_range.mp hk
    rw [← hsl]
    refine ⟨⟨rE (tabL rows) (.tup [.str "room", tupN T]) (.bl true) (some (.val (tupN T))) none none (vI (k : Nat)) none, S⟩, rfl, .bl false, ⟨rE (tabL rows) (.tup [.str "room", tupN T]) (.bl true) (some (.val (tupN T))) none none (vI (k : Nat)) none, S⟩, ?_, rfl, fun _ => rfl, fun h => by cases h⟩
    unfold ct__law_right_9
    have a : eBF false addF (eVar 6) (eC (.int 1)) ⟨rE (tabL rows) (.tup [.str "room", tupN T]) (.bl true) (some (.val (tupN T))) none none (vI (k : Nat)) none, S⟩ = .ok (.int ((k + 1 : Nat) : Int)) ⟨rE (tabL rows) (.tup [.str "room", tupN T]) (.bl true) (some (.val (tupN T))) none none (vI (k : Nat)) none, S⟩ := bf_ (v_ rfl) c_ (by simp)
    have at_ : ∀ j : Nat, j < T.length → ixS S (tupN T) (.int (j : Nat)) = some (.int ((T[j]?.getD 0 : Nat) : Int)) := fun j hj => ixt_ (by
      rw [List.getElem?_map, List.getElem?_eq_getElem hj]
      rfl)
    refine b_ (ix_ (v_ rfl) (v_ rfl) (at_ k (by omega))) (ix_ (v_ rfl) a (at_ (k + 1) (by omega))) ?_
    have h1 : k < T.length := by omega
    have h2 : k + 1 < T.length := by omega
    have := List.pairwise_iff_getElem.mp inc k (k + 1) h1 h2 (by omega)
    rw [List.getElem?_eq_getElem h1, List.getElem?_eq_getElem h2]
    show some (D.bl (decide _)) = _
    congr 2
    simp
    omega)
  rw [ff, b8] at c8
  have e8 := bs_ (k := 3) (op := neD) (t := false) (c8.trans rfl) (l0_ (S := S)) rfl
  have t : eNot (eVar 2) ⟨sl, S⟩ = .ok (.bl false) ⟨sl, S⟩ := by
    rw [← hsl]
    exact not_ (t := true) (v_ rfl) rfl
  have t2 := (or_f (g := eB eqD (eLenS (eVar 3)) (eC (.int 0))) (not_ e1 rfl) rfl).trans e2
  obtain ⟨y6, hy⟩ := names_loop (S := S) (dt := .tup [.str "room", tupN T]) (x3 := some (.val (tupN T))) (x4 := none) (x5 := none) (fun i => by have := hr i; omega) T [] none hin (by simp; omega)
  have s7 : sSet 7 (eLst []) ⟨sl, S⟩ = .nx ⟨rE (tabL rows) (.tup [.str "room", tupN T]) (.bl true) (some (.val (tupN T))) none none none (vL (([] : List Int).map D.int)), S⟩ := by
    rw [← hsl]
    exact set_ (l0_ (S := S)) rfl
  have it11 : it__law_right_11 ⟨rE (tabL rows) (.tup [.str "room", tupN T]) (.bl true) (some (.val (tupN T))) none none none (vL (([] : List Int).map D.int)), S⟩ = .ok (T.map fun i => D.int (i : Nat)) ⟨rE (tabL rows) (.tup [.str "room", tupN T]) (.bl true) (some (.val (tupN T))) none none none (vL (([] : List Int).map D.int)), S⟩ := iv_ (v_ rfl) rfl
  have fl : (T.flatMap fun i => row rows i).length ≤ 4000 := by
    have : ∀ T : List Nat, (T.flatMap fun i => row rows i).length ≤ 60 * T.length := by
      intro T
      induction T with
      | nil => simp
      | cons i T ih =>
        rw [List.flatMap_cons, List.length_append, List.length_cons]
        have := hr i
        omega
    have := this T
    omega
  have ml := metI_le (ns := T.flatMap fun i => row rows i) (m := names) (fun x hx => by
    obtain ⟨i, hi, h⟩ := List.mem_flatMap.mp hx
    exact hnm i hi x h)
  rw [List.nil_append] at hy
  have last : eB ltD (eLenSet (eVar 7)) (eLenS (eVar 3)) ⟨rE (tabL rows) (.tup [.str "room", tupN T]) (.bl true) (some (.val (tupN T))) none none y6 (vL ((T.flatMap fun i => row rows i).map D.int)), S⟩ = .ok (.bl true) ⟨rE (tabL rows) (.tup [.str "room", tupN T]) (.bl true) (some (.val (tupN T))) none none y6 (vL ((T.flatMap fun i => row rows i).map D.int)), S⟩ := by
    refine b_ (lenSet_ (v_ rfl) fl) (ln_ (v_ rfl) lT) ?_
    show some (D.bl (decide _)) = _
    congr 2
    simp
    omega
  rw [sq_ ((if_f t rfl).trans nil_) (sq_ ((if_f t2 rfl).trans nil_) (sq_ ((if_f e5 rfl).trans nil_) (sq_ ((if_f e8 rfl).trans nil_) (sq_ s7 (sq_ (for_ it11 hy) (ret_ last))))))]
  rfl
end K52

/-! _law_asked. -/
namespace K52
open PySem MB
abbrev qE (rows : List (List Int)) (room tup : Bool) (x3 x4 x5 : Option Sl) : List (Option Sl) := [some (.val (tabL rows)), some (.val (.bl room)), some (.val (.bl tup)), x3, x4, x5]
def cellsR (rows : List (List Int)) : Store := rows.map fun r => some (.lst (r.map D.int))
def ids (n k : Nat) : List D := (List.range' n k).map D.ce
theorem copy_cells {R : List (List Int)} {room tup : Bool} : ∀ (rows : List (List Int)) (acc : List D) (x4 : Option Sl) (W : Store), ∃ y4,
    compL (bNm 4) (eC (.bl true)) ce__law_asked_1 [4] (rows.map rowL) acc ⟨qE R room tup none x4 none, W⟩ = .ok (.lst (acc ++ ids W.length rows.length)) ⟨qE R room tup none y4 none, W ++ cellsR rows⟩
  | [], acc, x4, W => ⟨x4, by simp [compL, ids, cellsR]⟩
  | r :: rows, acc, x4, W => by
    obtain ⟨y4, hy⟩ := copy_cells (R := R) (room := room) (tup := tup) rows (acc ++ [.ce W.length]) (some (.val (rowL r))) (W ++ [some (.lst (r.map D.int))])
    refine ⟨y4, ?_⟩
    have e : ce__law_asked_1 ⟨qE R room tup none (some (.val (rowL r))) none, W⟩ = .ok (.ce W.length) ⟨qE R room tup none (some (.val (rowL r))) none, W ++ [some (.lst (r.map D.int))]⟩ := by
      unfold ce__law_asked_1
      refine cf_c (v_ rfl) ?_
      rw [show rowL r = .lst (r.map D.int) from rfl, see1_l]
      rfl
    have st : compL (bNm 4) (eC (.bl true)) ce__law_asked_1 [4] ((r :: rows).map rowL) acc ⟨qE R room tup none x4 none, W⟩ = (ce__law_asked_1 ⟨qE R room tup none (some (.val (rowL r))) none, W⟩).bind fun y ρ3 => compL (bNm 4) (eC (.bl true)) ce__law_asked_1 [4] (rows.map rowL) (acc ++ [y]) ρ3 := rfl
    rw [st, e]
    refine Eq.trans hy ?_
    rw [List.length_append, List.length_cons, List.append_assoc, List.append_assoc]
    show Rs.ok (.lst (acc ++ (.ce W.length :: ids (W.length + 1) rows.length))) _ = Rs.ok (.lst (acc ++ ids W.length (rows.length + 1))) _
    rfl
theorem append_loop {R : List (List Int)} {room tup : Bool} {x3 x5 : Option Sl} : ∀ (k n : Nat) (x4 : Option Sl) (W : Store), (∀ j, n ≤ j → j < n + k → ∃ l, W[j]? = some (some (.lst l)) ∧ l.length < 1000) → ∃ y4 W',
    loopS (bNm 4) g__law_asked_5 (ids n k) ⟨qE R room tup x3 x4 x5, W⟩ = .nx ⟨qE R room tup x3 y4 x5, W'⟩ ∧ W'.length = W.length ∧ ∀ j, j < n → W'[j]? = W[j]?
  | 0, n, x4, W, _ => ⟨x4, W, rfl, rfl, fun _ _ => rfl⟩
  | k + 1, n, x4, W, h => by
    obtain ⟨l, hl, ln⟩ := h n (Nat.le_refl _) (by omega)
    obtain ⟨y4, W', e, h1, h2⟩ := append_loop (R := R) (room := room) (tup := tup) (x3 := x3) (x5 := x5) k (n + 1) (some (.val (.ce n))) (W.set n (some (.lst (l ++ [.int 200])))) (fun j h1 h2 => by
      obtain ⟨l', a, b⟩ := h j (by omega) (by omega)
      exact ⟨l', (List.getElem?_set_ne (by omega)).trans a, b⟩)
    refine ⟨y4, W', ?_, by rw [h1, List.length_set], fun j hj => (h2 j (by omega)).trans (List.getElem?_set_ne (by omega))⟩
    refine lp_ (ρ1 := ⟨qE R room tup x3 (some (.val (.ce n))) x5, W⟩) rfl (ρ2 := ⟨qE R room tup x3 (some (.val (.ce n))) x5, W.set n (some (Cn.lst (l ++ [D.int 200])))⟩) ?_ e
    unfold g__law_asked_5
    exact ex_ (mu1_ (v_ rfl) (la_ hl) c_ (la_ hl) (app_ok (by omega)))
theorem cells_at {S : Store} {rows : List (List Int)} {i : Nat} (h : i < rows.length) : (S ++ cellsR rows)[S.length + i]? = some (some (.lst ((row rows i).map D.int))) := by
  rw [List.getElem?_append_right (by omega), Nat.add_sub_cancel_left]
  unfold cellsR row
  rw [List.getElem?_map, List.getElem?_eq_getElem h]
  rfl
theorem chs_cells {S : Store} {rows : List (List Int)} : Chs (S ++ cellsR rows) (S ++ cellsR rows).length (.lst (ids S.length rows.length)) rows := by
  refine ⟨_, .inl rfl, by unfold ids; simp, fun i it hi => ?_⟩
  unfold ids at hi
  rw [List.getElem?_map] at hi
  obtain ⟨n, h1, rfl⟩ := Option.map_eq_some_iff.mp hi
  obtain ⟨h2, h3⟩ := List.getElem?_eq_some_iff.mp h1
  rw [List.length_range'] at h2
  rw [List.getElem_range'] at h3
  have e : n = S.length + i := by omega
  subst e
  refine .ce ?_ (cells_at h2)
  rw [List.length_append]
  unfold cellsR
  rw [List.length_map]
  omega
theorem chs_tups {S : Store} {lim : Nat} {rows : List (List Int)} : Chs S lim (.tup (rows.map fun r => .tup (r.map D.int))) rows := by
  refine ⟨_, .inr rfl, List.length_map _, fun i it hi => ?_⟩
  rw [List.getElem?_map] at hi
  obtain ⟨r, h1, rfl⟩ := Option.map_eq_some_iff.mp hi
  have : row rows i = r := by
    unfold row
    rw [h1]
    rfl
  rw [this]
  exact .tup r
theorem tab_dat {rows : List (List Int)} (h : rows.length ≤ 1000) (hr : ∀ r ∈ rows, r.length ≤ 1000) : Dat 2 (tabL rows) :=
  .lst (fun d hd => by
    obtain ⟨r, mr, rfl⟩ := List.mem_map.mp hd
    have := hr r mr
    exact .lst (fun d hd => by
      obtain ⟨x, _, rfl⟩ := List.mem_map.mp hd
      exact .int _) (by rw [List.length_map]; omega)) (by rw [List.length_map]; omega)
theorem see_cells {S : Store} {rows : List (List Int)} : seeD (S ++ cellsR rows) 3 (.lst (ids S.length rows.length)) = tabL rows := by
  rw [seeD_l]
  unfold tabL
  congr 1
  refine List.ext_getElem? fun i => ?_
  rw [List.getElem?_map, List.getElem?_map]
  unfold ids
  rw [List.getElem?_map]
  by_cases h : i < rows.length
  · have e : (List.range' S.length rows.length)[i]? = some (S.length + i) := by
      rw [List.getElem?_eq_getElem (by simpa using h), List.getElem_range']
      congr 1
      omega
    rw [e, List.getElem?_eq_getElem h]
    show some (seeD (S ++ cellsR rows) 2 (.ce (S.length + i))) = some (rowL rows[i])
    rw [seeD_c, cells_at h]
    show some (D.lst (((row rows i).map D.int).map (seeD _ 1))) = _
    rw [seeD_ints]
    unfold row
    rw [List.getElem?_eq_getElem h]
    rfl
  · rw [List.getElem?_eq_none (l := List.range' S.length rows.length) (by simp; omega), List.getElem?_eq_none (by omega)]
    rfl
theorem ans_right {rows : List (List Int)} {d : D} {room : Bool} (A : Ans rows d) (h1 : room = false → ∃ ch, Pairs rows ch) (h2 : room = true → ∃ T, Room rows T) (hn : rows.length ≤ 40) (hr : ∀ i, (row rows i).length ≤ 60) (S : Store) : m__law_right [tabL rows, d, .bl room] S = .ok (.bl true) S := by
  rcases A with ⟨ch, rfl, P⟩ | ⟨T, rfl, R⟩
  · cases room with
    | false => exact right_pairs P (by omega)
    | true =>
      obtain ⟨T, R⟩ := h2 rfl
      exact (not_both P R).elim
  · cases room with
    | true => exact right_room R hn hr
    | false =>
      obtain ⟨ch, P⟩ := h1 rfl
      exact (not_both P R).elim
theorem ans_cl {rows : List (List Int)} {d : D} {n : Nat} (A : Ans rows d) : clD n d := by
  rcases A with ⟨ch, rfl, P⟩ | ⟨T, rfl, R⟩
  · simp
  · simp [tupN_cl]
theorem row_of {rows : List (List Int)} {p : List Int → Prop} (h : ∀ r ∈ rows, p r) (h0 : p []) (i : Nat) : p (row rows i) := by
  unfold row
  cases e : rows[i]? with
  | none => exact h0
  | some r => exact h r (List.mem_of_getElem? e)
theorem asked_ok {rows : List (List Int)} {room tup : Bool} {S : Store} (h1 : room = false → ∃ ch, Pairs rows ch) (h2 : room = true → ∃ T, Room rows T) (h : allE rows = none) : m__law_asked [tabL rows, .bl room, .bl tup] S = .ok (.bl true) S := by
  have hn : rows.length ≤ 40 := by
    unfold allE at h
    by_cases c : 40 < rows.length
    · rw [if_pos c] at h; cases h
    · omega
  have hrr : ∀ r ∈ rows, r.length ≤ 40 ∧ ∀ x ∈ r, 0 ≤ x ∧ x ≤ 199 := rowsE_none (by
    unfold allE at h
    rw [if_neg (by omega)] at h
    exact h)
  have hr : ∀ i, (row rows i).length ≤ 60 := fun i => row_of (p := fun r => r.length ≤ 60) (fun r m => by have := (hrr r m).1; omega) (by simp) i
  have td := tab_dat (rows := rows) (by omega) (fun r m => by have := (hrr r m).1; omega)
  have b0 : sSet 3 (eComp it__law_asked_0 (bNm 4) (eC (.bl true)) ce__law_asked_1 [4]) ⟨qE rows room tup none none none, S⟩ = .nx ⟨qE rows room tup (some (.val (.lst (ids S.length rows.length)))) none none, S ++ cellsR rows⟩ := by
    have it : it__law_asked_0 ⟨qE rows room tup none none none, S⟩ = .ok (rows.map rowL) ⟨qE rows room tup none none none, S⟩ := iv_ (v_ rfl) rfl
    obtain ⟨y4, hy⟩ := copy_cells (R := rows) (room := room) (tup := tup) rows [] none S
    have e : eComp it__law_asked_0 (bNm 4) (eC (.bl true)) ce__law_asked_1 [4] ⟨qE rows room tup none none none, S⟩ = .ok (.lst (ids S.length rows.length)) ⟨qE rows room tup none none none, S ++ cellsR rows⟩ := by
      rw [eComp_ap, it, kCo_ok, if_pos (by rw [List.length_map]; omega), hy]
      rfl
    exact set_ e rfl
  have told : ∀ dc, Chs (S ++ cellsR rows) (S ++ cellsR rows).length dc rows → ∃ d, m__law_told [dc] (S ++ cellsR rows) = .ok (.tup [.str "told", d]) (S ++ cellsR rows) ∧ Ans rows d := fun dc H => by
    obtain ⟨d, e, A⟩ := pairing_ok H (Nat.le_refl _) h
    exact ⟨d, told_ok e (ans_cl A), A⟩
  have b1 : ∃ d, Ans rows d ∧ sIf (eVar 2) (sSet 5 (eFn m__law_told [(eCallF false tupleF (eComp it__law_asked_2 (bNm 4) (eC (.bl true)) ce__law_asked_3 [4]))])) (sSet 5 (eFn m__law_told [(eVar 3)])) ⟨qE rows room tup (some (.val (.lst (ids S.length rows.length)))) none none, S ++ cellsR rows⟩
      = .nx ⟨qE rows room tup (some (.val (.lst (ids S.length rows.length)))) none (some (.val (.tup [.str "told", d]))), S ++ cellsR rows⟩ := by
    cases tup with
    | true =>
      obtain ⟨d, e, A⟩ := told _ (chs_tups (rows := rows))
      refine ⟨d, A, ?_⟩
      have it : it__law_asked_2 ⟨qE rows room true (some (.val (.lst (ids S.length rows.length)))) none none, S ++ cellsR rows⟩ = .ok (rows.map rowL) ⟨qE rows room true (some (.val (.lst (ids S.length rows.length)))) none none, S ++ cellsR rows⟩ := iv_ (v_ rfl) rfl
      have c := eComp_map (b := bNm 4) (e := ce__law_asked_3) (vs := [4]) (g := fun d => match d with | .lst l => .tup l | d => d) it (by rw [List.length_map]; omega) (fun d hd => by
        obtain ⟨r, mr, rfl⟩ := List.mem_map.mp hd
        refine ⟨⟨qE rows room true (some (.val (.lst (ids S.length rows.length)))) (some (.val (rowL r))) none, S ++ cellsR rows⟩, rfl, ⟨qE rows room true (some (.val (.lst (ids S.length rows.length)))) (some (.val (rowL r))) none, S ++ cellsR rows⟩, ?_, rfl⟩
        unfold ce__law_asked_3
        refine cf_ (v_ rfl) ?_
        rw [show rowL r = .lst (r.map D.int) from rfl, see1_l]
        rfl)
      have c2 : eCallF false tupleF (eComp it__law_asked_2 (bNm 4) (eC (.bl true)) ce__law_asked_3 [4]) ⟨qE rows room true (some (.val (.lst (ids S.length rows.length)))) none none, S ++ cellsR rows⟩ = .ok (.tup (rows.map fun r => .tup (r.map D.int))) ⟨qE rows room true (some (.val (.lst (ids S.length rows.length)))) none none, S ++ cellsR rows⟩ := by
        refine cf_ (c.trans rfl) ?_
        rw [List.map_map, see1_l]
        rfl
      exact (if_t (v_ rfl) rfl).trans (set_ (fn1_ c2 e) rfl)
    | false =>
      obtain ⟨d, e, A⟩ := told _ (chs_cells (S := S) (rows := rows))
      exact ⟨d, A, (if_f (v_ rfl) rfl).trans (set_ (fn1_ (v_ rfl) e) rfl)⟩
  obtain ⟨d, A, b1⟩ := b1
  have rg : ∀ (x4 : Option Sl) (W : Store), eFn m__law_right [(eVar 0), (eIxS (eVar 5) (eC (.int 1))), (eVar 1)] ⟨qE rows room tup (some (.val (.lst (ids S.length rows.length)))) x4 (some (.val (.tup [.str "told", d]))), W⟩ = .ok (.bl true) ⟨qE rows room tup (some (.val (.lst (ids S.length rows.length)))) x4 (some (.val (.tup [.str "told", d]))), W⟩ := fun x4 W =>
    fn3_ (v_ rfl) (ix_ (z := d) (v_ rfl) c_ rfl) (v_ rfl) (ans_right A h1 h2 hn hr W)
  have t1 : eB neD (eIxS (eVar 5) (eC (.int 0))) (eC (.str "told")) ⟨qE rows room tup (some (.val (.lst (ids S.length rows.length)))) none (some (.val (.tup [.str "told", d]))), S ++ cellsR rows⟩ = .ok (.bl false) ⟨qE rows room tup (some (.val (.lst (ids S.length rows.length)))) none (some (.val (.tup [.str "told", d]))), S ++ cellsR rows⟩ :=
    b_ (ix_ (z := .str "told") (v_ rfl) c_ rfl) c_ (by simp)
  have t2 : eBs 3 neD (eVar 3) (eVar 0) ⟨qE rows room tup (some (.val (.lst (ids S.length rows.length)))) none (some (.val (.tup [.str "told", d]))), S ++ cellsR rows⟩ = .ok (.bl false) ⟨qE rows room tup (some (.val (.lst (ids S.length rows.length)))) none (some (.val (.tup [.str "told", d]))), S ++ cellsR rows⟩ := by
    refine bs_ (v_ rfl) (v_ rfl) ?_
    rw [see_cells, seeD_dat td]
    unfold neD
    rw [eqB_refl td (by decide)]
    rfl
  have t3 := not_ (rg none (S ++ cellsR rows)) rfl
  have it4 : it__law_asked_4 ⟨qE rows room tup (some (.val (.lst (ids S.length rows.length)))) none (some (.val (.tup [.str "told", d]))), S ++ cellsR rows⟩ = .ok (ids S.length rows.length) ⟨qE rows room tup (some (.val (.lst (ids S.length rows.length)))) none (some (.val (.tup [.str "told", d]))), S ++ cellsR rows⟩ := iv_ (v_ rfl) rfl
  obtain ⟨y4, W', e4, l4, k4⟩ := append_loop (R := rows) (room := room) (tup := tup) (x3 := some (.val (.lst (ids S.length rows.length)))) (x5 := some (.val (.tup [.str "told", d]))) rows.length S.length none (S ++ cellsR rows) (fun j a b => by
    have e : j = S.length + (j - S.length) := by omega
    have q := cells_at (S := S) (rows := rows) (i := j - S.length) (by omega)
    rw [← e] at q
    refine ⟨_, q, ?_⟩
    have := hr (j - S.length)
    rw [List.length_map]
    omega)
  have fin : runS b__law_asked 6 [tabL rows, .bl room, .bl tup] S = .ok (.bl true) W' := by
    show endR (b__law_asked ⟨qE rows room tup none none none, S⟩) = _
    unfold b__law_asked
    rw [sq_ b0 (sq_ b1 (sq_ ((if_f ((or_f t1 rfl).trans ((or_f t2 rfl).trans t3)) rfl).trans nil_) (sq_ (for_ it4 e4) (ret_ (rg y4 W')))))]
    rfl
  have ew : W' = S ++ W'.drop S.length := by
    refine List.ext_getElem? fun j => ?_
    by_cases c : j < S.length
    · rw [k4 j c, List.getElem?_append_left c, List.getElem?_append_left c]
    · rw [List.getElem?_append_right (by omega), List.getElem?_drop]
      congr 1
      omega
  rw [ew] at fin
  exact run_same fin (by simp)
end K52

/-! Rooms by masks: the plain law of _law_has_room. -/
namespace K52
open PySem MB
def mk (r : List Int) : Nat := r.foldl (fun m x => m ||| 2 ^ x.toNat) 0
theorem mk_bit (j : Nat) : ∀ (r : List Int) (m : Nat), (r.foldl (fun m x => m ||| 2 ^ x.toNat) m).testBit j = true ↔ m.testBit j = true ∨ ∃ x ∈ r, x.toNat = j
  | [], m => by simp
  | x :: r, m => by
    rw [List.foldl_cons, mk_bit j r, Nat.testBit_or, Nat.testBit_two_pow]
    simp only [Bool.or_eq_true, decide_eq_true_eq, List.mem_cons, exists_eq_or_imp]
    exact or_assoc
def subs : Nat → List (List Nat)
  | 0 => [[]]
  | n + 1 => subs n ++ (subs n).map (· ++ [n])
theorem subs_mem : ∀ {n : Nat} {T : List Nat}, T ∈ subs n → T.Pairwise (· < ·) ∧ ∀ i ∈ T, i < n
  | 0, T, h => by
    have : T = [] := by simpa [subs] using h
    subst this
    simp
  | n + 1, T, h => by
    unfold subs at h
    rw [List.mem_append] at h
    rcases h with h | h
    · obtain ⟨a, b⟩ := subs_mem h
      exact ⟨a, fun i m => by have := b i m; omega⟩
    · obtain ⟨T', h', rfl⟩ := List.mem_map.mp h
      obtain ⟨a, b⟩ := subs_mem h'
      constructor
      · rw [List.pairwise_append]
        exact ⟨a, by simp, fun x hx y hy => by
          rw [List.mem_singleton.mp hy]
          exact b x hx⟩
      · intro i m
        rw [List.mem_append] at m
        rcases m with m | m
        · have := b i m; omega
        · rw [List.mem_singleton.mp m]; omega
theorem subs_all (p : Nat → Bool) : ∀ n, (List.range n).filter p ∈ subs n
  | 0 => by simp [subs]
  | n + 1 => by
    rw [List.range_succ, List.filter_append]
    unfold subs
    rw [List.mem_append]
    cases h : p n with
    | true =>
      right
      rw [show [n].filter p = [n] by simp [h]]
      exact List.mem_map.mpr ⟨_, subs_all p n, rfl⟩
    | false =>
      left
      rw [show [n].filter p = [] by simp [h], List.append_nil]
      exact subs_all p n
def um (rows : List (List Int)) (T : List Nat) : Nat := T.foldl (fun m i => m ||| mk (row rows i)) 0
theorem um_bit {rows : List (List Int)} (j : Nat) : ∀ (T : List Nat) (m : Nat), (T.foldl (fun m i => m ||| mk (row rows i)) m).testBit j = true ↔ m.testBit j = true ∨ ∃ i ∈ T, ∃ x ∈ row rows i, x.toNat = j
  | [], m => by simp
  | i :: T, m => by
    rw [List.foldl_cons, um_bit j T, Nat.testBit_or]
    have := mk_bit j (row rows i) 0
    unfold mk
    simp only [Nat.zero_testBit, Bool.false_eq_true, false_or] at this
    simp only [Bool.or_eq_true, this, List.mem_cons, exists_eq_or_imp]
    exact or_assoc
def pc (m : Nat) : Nat := ((List.range 12).filter fun j => m.testBit j).length
def Small (rows : List (List Int)) : Prop := ∀ r ∈ rows, ∀ x ∈ r, 0 ≤ x ∧ x < 12
theorem Small.row {rows : List (List Int)} (h : Small rows) {i : Nat} {x : Int} (hx : x ∈ row rows i) : 0 ≤ x ∧ x < 12 := by
  unfold K52.row at hx
  cases e : rows[i]? with
  | none => rw [e] at hx; cases hx
  | some r => rw [e] at hx; exact h r (List.mem_of_getElem? e) x hx
def namesOf (m : Nat) : List Int := ((List.range 12).filter fun j => m.testBit j).map fun j => ((j : Nat) : Int)
theorem names_len (m : Nat) : (namesOf m).length = pc m := List.length_map _
theorem names_nd (m : Nat) : (namesOf m).Nodup := by
  unfold namesOf
  rw [List.nodup_iff_pairwise_ne, List.pairwise_map]
  exact ((List.nodup_range (n := 12)).filter _).imp fun h e => h (by omega)
theorem room_iff {rows : List (List Int)} (h : Small rows) : (∃ T ∈ subs rows.length, pc (um rows T) < T.length) ↔ ∃ T, Room rows T := by
  constructor
  · rintro ⟨T, hT, hp⟩
    obtain ⟨a, b⟩ := subs_mem hT
    refine ⟨T, a, fun e => by subst e; simp at hp, b, namesOf (um rows T), by rw [names_len]; exact hp, fun i hi x hx => ?_⟩
    obtain ⟨x0, x1⟩ := h.row hx
    refine List.mem_map.mpr ⟨x.toNat, List.mem_filter.mpr ⟨List.mem_range.mpr (by omega), ?_⟩, by omega⟩
    exact (um_bit x.toNat T 0).mpr (.inr ⟨i, hi, x, hx, rfl⟩)
  · rintro ⟨T, a, ne, b, names, hl, hn⟩
    refine ⟨(List.range rows.length).filter fun i => decide (i ∈ T), subs_all _ _, ?_⟩
    have mem : ∀ i, i ∈ (List.range rows.length).filter (fun i => decide (i ∈ T)) ↔ i ∈ T := fun i => by
      rw [List.mem_filter, List.mem_range]
      simp only [decide_eq_true_eq]
      exact ⟨fun q => q.2, fun q => ⟨b i q, q⟩⟩
    have nd : T.Nodup := a.imp fun h e => by omega
    have l1 := sub_len nd (m := (List.range rows.length).filter fun i => decide (i ∈ T)) fun i hi => (mem i).mpr hi
    have l2 := sub_len (names_nd (um rows ((List.range rows.length).filter fun i => decide (i ∈ T)))) (m := names) fun x hx => by
      obtain ⟨j, hj, rfl⟩ := List.mem_map.mp hx
      obtain ⟨hj1, hj2⟩ := List.mem_filter.mp hj
      rcases (um_bit j _ 0).mp hj2 with q | ⟨i, hi, x, hx, e⟩
      · simp at q
      · obtain ⟨x0, x1⟩ := h.row hx
        have : ((j : Nat) : Int) = x := by omega
        rw [this]
        exact hn i ((mem i).mp hi) x hx
    rw [names_len] at l2
    omega
def dbl (l : List Nat) : List Nat := l ++ l.map (· + 1)
def dblN : Nat → List Nat → List Nat
  | 0, l => l
  | n + 1, l => dblN n (dbl l)
theorem counts_eq : dblN 12 [0] = (List.range 4096).map pc := by decide +kernel
/-- the unions and the sizes after n rows -/
def unN (rows : List (List Int)) (n : Nat) : List Nat := (subs n).map (um rows)
def szN (n : Nat) : List Nat := (subs n).map List.length
theorem unN_succ {rows : List (List Int)} {n : Nat} : unN rows (n + 1) = unN rows n ++ (unN rows n).map (· ||| mk (row rows n)) := by
  unfold unN
  rw [subs, List.map_append, List.map_map, List.map_map]
  congr 1
  refine List.map_congr_left fun T _ => ?_
  show um rows (T ++ [n]) = _
  unfold um
  rw [List.foldl_append]
  rfl
theorem szN_succ {n : Nat} : szN (n + 1) = dbl (szN n) := by
  unfold szN dbl
  rw [subs, List.map_append, List.map_map, List.map_map]
  congr 1
  refine List.map_congr_left fun T _ => ?_
  show (T ++ [n]).length = _
  rw [List.length_append]
  rfl
theorem subs_len : ∀ n, (subs n).length = 2 ^ n
  | 0 => rfl
  | n + 1 => by
    rw [subs, List.length_append, List.length_map, subs_len n, Nat.pow_succ]
    omega
theorem mk_lt {r : List Int} (h : ∀ x ∈ r, 0 ≤ x ∧ x < 12) : mk r < 4096 := by
  have : ∀ (r : List Int) (m : Nat), (∀ x ∈ r, 0 ≤ x ∧ x < 12) → m < 2 ^ 12 → r.foldl (fun m x => m ||| 2 ^ x.toNat) m < 2 ^ 12 := by
    intro r
    induction r with
    | nil => intro m _ hm; exact hm
    | cons x r ih =>
      intro m h hm
      rw [List.foldl_cons]
      refine ih _ (fun y hy => h y (List.mem_cons_of_mem _ hy)) (Nat.or_lt_two_pow hm ?_)
      have := h x List.mem_cons_self
      exact Nat.pow_lt_pow_right (by omega) (by omega)
  exact this r 0 h (by omega)
theorem um_lt {rows : List (List Int)} (h : Small rows) (T : List Nat) : um rows T < 4096 := by
  have : ∀ (T : List Nat) (m : Nat), m < 2 ^ 12 → T.foldl (fun m i => m ||| mk (row rows i)) m < 2 ^ 12 := by
    intro T
    induction T with
    | nil => intro m hm; exact hm
    | cons i T ih =>
      intro m hm
      rw [List.foldl_cons]
      exact ih _ (Nat.or_lt_two_pow hm (mk_lt fun x hx => h.row hx))
  exact this T 0 (by omega)
end K52

/-! _law_has_room. -/
namespace K52
open PySem MB
def natL (l : List Nat) : D := .lst (l.map fun n => D.int (n : Nat))
abbrev hE (rows : List (List Int)) (x1 x2 x3 x4 x5 x6 x7 : Option Sl) : List (Option Sl) := [some (.val (tabL rows)), x1, x2, x3, x4, x5, x6, x7]
section
variable {rows : List (List Int)} {S : Store} {x1 x2 x3 x4 x5 x6 x7 : Option Sl}
theorem plus_comp {i : Nat} {l : List Nat} (hi : (hE rows x1 x2 x3 x4 x5 x6 x7)[i]? = some (some (.val (natL l)))) (hl : l.length ≤ 1000000) :
    eComp (iV seqI (eVar i)) (bNm 3) (eC (.bl true)) (eBF false addF (eVar 3) (eC (.int 1))) [3] ⟨hE rows x1 x2 x3 x4 x5 x6 x7, S⟩ = .ok (natL (l.map (· + 1))) ⟨hE rows x1 x2 x3 x4 x5 x6 x7, S⟩ := by
  have it : iV seqI (eVar i) ⟨hE rows x1 x2 x3 x4 x5 x6 x7, S⟩ = .ok (l.map fun n => D.int (n : Nat)) ⟨hE rows x1 x2 x3 x4 x5 x6 x7, S⟩ := iv_ (v_ hi) rfl
  have c := eComp_map (b := bNm 3) (e := eBF false addF (eVar 3) (eC (.int 1))) (vs := [3]) (g := fun d => match d with | .int z => .int (z + 1) | d => d) it (by rw [List.length_map]; exact hl) (fun d hd => by
    obtain ⟨n, _, rfl⟩ := List.mem_map.mp hd
    exact ⟨⟨hE rows x1 x2 (vI (n : Nat)) x4 x5 x6 x7, S⟩, rfl, ⟨hE rows x1 x2 (vI (n : Nat)) x4 x5 x6 x7, S⟩, bf_ (v_ rfl) c_ rfl, rfl⟩)
  refine c.trans ?_
  rw [List.map_map]
  unfold natL
  rw [List.map_map]
  rfl
theorem dbl_ev {i : Nat} {l : List Nat} (hi : (hE rows x1 x2 x3 x4 x5 x6 x7)[i]? = some (some (.val (natL l)))) (hl : l.length ≤ 1000000) :
    eBF false addF (eVar i) (eComp (iV seqI (eVar i)) (bNm 3) (eC (.bl true)) (eBF false addF (eVar 3) (eC (.int 1))) [3]) ⟨hE rows x1 x2 x3 x4 x5 x6 x7, S⟩ = .ok (natL (dbl l)) ⟨hE rows x1 x2 x3 x4 x5 x6 x7, S⟩ := by
  refine bf_l (v_ hi) (plus_comp hi hl) ?_
  unfold natL
  rw [see1_l, see1_l, addF_l, if_pos (by unfold sizeLine; simp; omega), ← List.map_append]
  rfl
theorem cnt_loop : ∀ (ds : List D) (l : List Nat) (x2 : Option Sl), l.length * 2 ^ ds.length ≤ 1000000 → ∃ y2,
    loopS (bNm 2) g__law_has_room_3 ds ⟨hE rows (some (.val (natL l))) x2 x3 x4 x5 x6 x7, S⟩ = .nx ⟨hE rows (some (.val (natL (dblN ds.length l)))) y2 x3 x4 x5 x6 x7, S⟩
  | [], l, x2, _ => ⟨x2, rfl⟩
  | d :: ds, l, x2, h => by
    rw [List.length_cons, Nat.pow_succ] at h
    have p := Nat.two_pow_pos ds.length
    have hl : l.length ≤ 1000000 := by
      have : l.length * 1 ≤ l.length * (2 ^ ds.length * 2) := Nat.mul_le_mul_left _ (by omega)
      omega
    have ld : (dbl l).length = l.length * 2 := by
      unfold dbl
      rw [List.length_append, List.length_map]
      omega
    obtain ⟨y2, hy⟩ := cnt_loop ds (dbl l) (some (.val d)) (by
      rw [ld, Nat.mul_assoc, Nat.mul_comm 2]
      exact h)
    refine ⟨y2, lp_ (ρ1 := ⟨hE rows (some (.val (natL l))) (some (.val d)) x3 x4 x5 x6 x7, S⟩) rfl (ρ2 := ⟨hE rows (some (.val (natL (dbl l)))) (some (.val d)) x3 x4 x5 x6 x7, S⟩) ?_ hy⟩
    unfold g__law_has_room_3
    exact set_ (dbl_ev (i := 1) rfl hl) rfl
theorem or_nat {a b : Nat} {z : Int} (h : z = (b : Nat)) : orD (.int (a : Nat)) (.int z) = some (.int ((a ||| b : Nat) : Int)) := by
  subst h
  show some (D.int (Builtin.bitOr _ _)) = _
  rw [Bits.bitOr_pp (Int.natCast_nonneg _) (Int.natCast_nonneg _), Int.toNat_natCast, Int.toNat_natCast]
theorem mask_loop : ∀ (r : List Int) (m : Nat) (x3 : Option Sl), (∀ x ∈ r, 0 ≤ x ∧ x < 12) → ∃ y3,
    loopS (bNm 3) g__law_has_room_5 (r.map D.int) ⟨hE rows x1 x2 x3 x4 x5 x6 (vI (m : Nat)), S⟩ = .nx ⟨hE rows x1 x2 y3 x4 x5 x6 (vI ((r.foldl (fun m x => m ||| 2 ^ x.toNat) m : Nat) : Int)), S⟩
  | [], m, x3, _ => ⟨x3, rfl⟩
  | x :: r, m, x3, h => by
    obtain ⟨y3, hy⟩ := mask_loop r (m ||| 2 ^ x.toNat) (vI x) (fun y hy => h y (List.mem_cons_of_mem _ hy))
    obtain ⟨h0, h1⟩ := h x List.mem_cons_self
    refine ⟨y3, lp_ (ρ1 := ⟨hE rows x1 x2 (vI x) x4 x5 x6 (vI (m : Nat)), S⟩) rfl (ρ2 := ⟨hE rows x1 x2 (vI x) x4 x5 x6 (vI ((m ||| 2 ^ x.toNat : Nat) : Int)), S⟩) ?_ hy⟩
    unfold g__law_has_room_5
    have e : eB shlD (eC (.int 1)) (eVar 3) ⟨hE rows x1 x2 (vI x) x4 x5 x6 (vI (m : Nat)), S⟩ = .ok (.int (1 * 2 ^ x.toNat)) ⟨hE rows x1 x2 (vI x) x4 x5 x6 (vI (m : Nat)), S⟩ := b_ c_ (v_ rfl) (by
      show (if 0 ≤ x ∧ x ≤ 1000000 ∧ (1 : Int).natAbs < 2 ^ 64 then some (D.int (1 * 2 ^ x.toNat)) else none) = _
      rw [if_pos ⟨h0, by omega, by decide⟩])
    refine set_ (b_ (v_ rfl) e (or_nat ?_)) rfl
    rw [Int.one_mul]
    push_cast
    rfl
theorem or_comp {l : List Nat} {m : Nat} (hl : l.length ≤ 1000000) :
    eComp it__law_has_room_6 (bNm 3) (eC (.bl true)) ce__law_has_room_7 [3] ⟨hE rows x1 x2 x3 (some (.val (natL l))) x5 x6 (vI (m : Nat)), S⟩ = .ok (natL (l.map (· ||| m))) ⟨hE rows x1 x2 x3 (some (.val (natL l))) x5 x6 (vI (m : Nat)), S⟩ := by
  have it : it__law_has_room_6 ⟨hE rows x1 x2 x3 (some (.val (natL l))) x5 x6 (vI (m : Nat)), S⟩ = .ok (l.map fun n => D.int (n : Nat)) ⟨hE rows x1 x2 x3 (some (.val (natL l))) x5 x6 (vI (m : Nat)), S⟩ := iv_ (v_ rfl) rfl
  have c := eComp_map (b := bNm 3) (e := ce__law_has_room_7) (vs := [3]) (g := fun d => match d with | .int z => .int ((z.toNat ||| m : Nat) : Int) | d => d) it (by rw [List.length_map]; exact hl) (fun d hd => by
    obtain ⟨n, _, rfl⟩ := List.mem_map.mp hd
    refine ⟨⟨hE rows x1 x2 (vI (n : Nat)) (some (.val (natL l))) x5 x6 (vI (m : Nat)), S⟩, rfl, ⟨hE rows x1 x2 (vI (n : Nat)) (some (.val (natL l))) x5 x6 (vI (m : Nat)), S⟩, ?_, rfl⟩
    unfold ce__law_has_room_7
    refine b_ (v_ rfl) (v_ rfl) ?_
    rw [or_nat rfl]
    rfl)
  refine c.trans ?_
  rw [List.map_map]
  unfold natL
  rw [List.map_map]
  rfl
theorem row_step {n : Nat} (h : Small rows) (hn : n < rows.length) (h10 : n < 12) : ∃ y3, g__law_has_room_11 ⟨hE rows x1 x2 x3 (some (.val (natL (unN rows n)))) (some (.val (natL (szN n)))) (some (.val (rowL (row rows n)))) x7, S⟩
      = .nx ⟨hE rows x1 x2 y3 (some (.val (natL (unN rows (n + 1))))) (some (.val (natL (szN (n + 1))))) (some (.val (rowL (row rows n)))) (vI ((mk (row rows n) : Nat) : Int)), S⟩ := by
  have p : 2 ^ n ≤ 2 ^ 12 := Nat.pow_le_pow_right (by omega) (by omega)
  have l1 : (unN rows n).length ≤ 1000000 := by
    unfold unN
    rw [List.length_map, subs_len]
    omega
  have l2 : (szN n).length ≤ 1000000 := by
    unfold szN
    rw [List.length_map, subs_len]
    omega
  obtain ⟨y3, hy⟩ := mask_loop (rows := rows) (S := S) (x1 := x1) (x2 := x2) (x4 := some (.val (natL (unN rows n)))) (x5 := some (.val (natL (szN n)))) (x6 := some (.val (rowL (row rows n)))) (row rows n) 0 x3 (fun x hx => h.row hx)
  refine ⟨y3, ?_⟩
  unfold g__law_has_room_11
  have s7 : sSet 7 (eC (.int 0)) ⟨hE rows x1 x2 x3 (some (.val (natL (unN rows n)))) (some (.val (natL (szN n)))) (some (.val (rowL (row rows n)))) x7, S⟩ = .nx ⟨hE rows x1 x2 x3 (some (.val (natL (unN rows n)))) (some (.val (natL (szN n)))) (some (.val (rowL (row rows n)))) (vI ((0 : Nat) : Int)), S⟩ := set_ c_ rfl
  have it : it__law_has_room_4 ⟨hE rows x1 x2 x3 (some (.val (natL (unN rows n)))) (some (.val (natL (szN n)))) (some (.val (rowL (row rows n)))) (vI ((0 : Nat) : Int)), S⟩ = .ok ((row rows n).map D.int) ⟨hE rows x1 x2 x3 (some (.val (natL (unN rows n)))) (some (.val (natL (szN n)))) (some (.val (rowL (row rows n)))) (vI ((0 : Nat) : Int)), S⟩ := iv_ (v_ rfl) rfl
  have e4 : eBF false addF (eVar 4) (eComp it__law_has_room_6 (bNm 3) (eC (.bl true)) ce__law_has_room_7 [3]) ⟨hE rows x1 x2 y3 (some (.val (natL (unN rows n)))) (some (.val (natL (szN n)))) (some (.val (rowL (row rows n)))) (vI ((mk (row rows n) : Nat) : Int)), S⟩
      = .ok (natL (unN rows (n + 1))) ⟨hE rows x1 x2 y3 (some (.val (natL (unN rows n)))) (some (.val (natL (szN n)))) (some (.val (rowL (row rows n)))) (vI ((mk (row rows n) : Nat) : Int)), S⟩ := by
    refine bf_l (v_ rfl) (or_comp l1) ?_
    have : (unN rows n).length ≤ 4096 := by
      unfold unN
      rw [List.length_map, subs_len]
      omega
    unfold natL
    rw [see1_l, see1_l, addF_l, if_pos (by unfold sizeLine; simp; omega), ← List.map_append, ← unN_succ]
  have e5 := dbl_ev (rows := rows) (S := S) (x1 := x1) (x2 := x2) (x3 := y3) (x4 := some (.val (natL (unN rows (n + 1))))) (x5 := some (.val (natL (szN n)))) (x6 := some (.val (rowL (row rows n)))) (x7 := vI ((mk (row rows n) : Nat) : Int)) (i := 5) (l := szN n) rfl l2
  rw [← szN_succ] at e5
  exact sq_ s7 (sq_ (for_ it hy) (sq_ (set_ e4 rfl) (set_ e5 rfl)))
theorem rows_loop (h : Small rows) (h10 : rows.length ≤ 12) : ∀ (k n : Nat) (x3 x6 x7 : Option Sl), n + k = rows.length → ∃ y3 y6 y7,
    loopS (bNm 6) g__law_has_room_11 ((rows.drop n).map rowL) ⟨hE rows x1 x2 x3 (some (.val (natL (unN rows n)))) (some (.val (natL (szN n)))) x6 x7, S⟩ = .nx ⟨hE rows x1 x2 y3 (some (.val (natL (unN rows rows.length)))) (some (.val (natL (szN rows.length)))) y6 y7, S⟩
  | 0, n, x3, x6, x7, e => by
    have : n = rows.length := by omega
    subst this
    rw [List.drop_length]
    exact ⟨x3, x6, x7, rfl⟩
  | k + 1, n, x3, x6, x7, e => by
    have hn : n < rows.length := by omega
    obtain ⟨z3, hz⟩ := row_step (S := S) (x1 := x1) (x2 := x2) (x3 := x3) (x7 := x7) h hn (by omega)
    obtain ⟨y3, y6, y7, hy⟩ := rows_loop h h10 k (n + 1) z3 (some (.val (rowL (row rows n)))) (vI ((mk (row rows n) : Nat) : Int)) (by omega)
    refine ⟨y3, y6, y7, ?_⟩
    have ed : rows.drop n = row rows n :: rows.drop (n + 1) := by
      rw [List.drop_eq_getElem_cons hn]
      unfold row
      rw [List.getElem?_eq_getElem hn]
      rfl
    rw [ed, List.map_cons]
    exact lp_ (ρ1 := ⟨hE rows x1 x2 x3 (some (.val (natL (unN rows n)))) (some (.val (natL (szN n)))) (some (.val (rowL (row rows n)))) x7, S⟩) rfl hz hy
end
theorem natL_at {l : List Nat} {i : Nat} {S : Store} (h : i < l.length) : ixS S (natL l) (.int (i : Nat)) = some (.int ((l[i]?.getD 0 : Nat) : Int)) := ixl_ (by
  rw [List.getElem?_map, List.getElem?_eq_getElem h]
  rfl)
theorem lt_nat (a b : Nat) : ltD (.int (a : Int)) (.int (b : Int)) = some (.bl (decide (a < b))) := by
  show some (D.bl (decide ((a : Int) < b))) = _
  rw [show decide ((a : Int) < b) = decide (a < b) from decide_eq_decide.mpr (by omega)]
theorem gt_nat (a : Nat) : gtD (.int (a : Int)) (.int 0) = some (.bl (decide (0 < a))) := by
  show some (D.bl (decide ((0 : Int) < a))) = _
  rw [show decide ((0 : Int) < a) = decide (0 < a) from decide_eq_decide.mpr (by omega)]
def roomB (rows : List (List Int)) (k : Nat) : Bool := decide (pc ((unN rows rows.length)[k]?.getD 0) < (szN rows.length)[k]?.getD 0)
def roomD (rows : List (List Int)) : D → Bool
  | .int z => roomB rows z.toNat
  | _ => false
theorem room_b {rows : List (List Int)} (h : Small rows) : (0 < ((List.range (2 ^ rows.length)).filter (roomB rows)).length) ↔ ∃ T, Room rows T := by
  rw [← room_iff h, List.length_pos_iff_exists_mem]
  constructor
  · rintro ⟨k, hk⟩
    obtain ⟨h1, h2⟩ := List.mem_filter.mp hk
    have hk : k < (subs rows.length).length := by rw [subs_len]; exact List.mem_range.mp h1
    refine ⟨(subs rows.length)[k], List.getElem_mem hk, ?_⟩
    have q := of_decide_eq_true h2
    unfold unN szN at q
    rw [List.getElem?_map, List.getElem?_map, List.getElem?_eq_getElem hk] at q
    exact q
  · rintro ⟨T, hT, q⟩
    obtain ⟨k, hk, rfl⟩ := List.mem_iff_getElem.mp hT
    refine ⟨k, List.mem_filter.mpr ⟨List.mem_range.mpr (by rw [← subs_len]; exact hk), decide_eq_true ?_⟩⟩
    unfold unN szN
    rw [List.getElem?_map, List.getElem?_map, List.getElem?_eq_getElem hk]
    exact q
theorem has_room {rows : List (List Int)} {S : Store} (h : Small rows) (h10 : rows.length ≤ 12) : ∃ b, m__law_has_room [tabL rows] S = .ok (.bl b) S ∧ (b = true ↔ ∃ T, Room rows T) := by
  refine ⟨decide (0 < ((List.range (2 ^ rows.length)).filter (roomB rows)).length), ?_, by rw [decide_eq_true_iff]; exact room_b h⟩
  refine run_id ?_ (by simp)
  show endR (b__law_has_room ⟨hE rows none none none none none none none, S⟩) = _
  unfold b__law_has_room
  have s1 : sSet 1 (eLst [(eC (.int 0))]) ⟨hE rows none none none none none none none, S⟩ = .nx ⟨hE rows (some (.val (natL [0]))) none none none none none none, S⟩ := set_ (l1_ c_) rfl
  have it2 : it__law_has_room_2 ⟨hE rows (some (.val (natL [0]))) none none none none none none, S⟩ = .ok ((List.range 12).map fun j => D.int (j : Nat)) ⟨hE rows (some (.val (natL [0]))) none none none none none none, S⟩ := ir1_ (k := 12) (by omega) c_
  obtain ⟨y2, hy⟩ := cnt_loop (rows := rows) (S := S) (x3 := none) (x4 := none) (x5 := none) (x6 := none) (x7 := none) ((List.range 12).map fun j => D.int (j : Nat)) [0] none (by simp)
  have tl : ((List.range 4096).map pc).length = 4096 := by rw [List.length_map, List.length_range]
  have ta : ∀ m, m < 4096 → ((List.range 4096).map pc)[m]?.getD 0 = pc m := fun m hm => by
    rw [List.getElem?_map, List.getElem?_range hm]
    rfl
  rw [List.length_map, List.length_range, counts_eq] at hy
  generalize (List.range 4096).map pc = C at hy tl ta
  have s4 : sSet 4 (eLst [(eC (.int 0))]) ⟨hE rows (some (.val (natL C))) y2 none none none none none, S⟩ = .nx ⟨hE rows (some (.val (natL C))) y2 none (some (.val (natL [0]))) none none none, S⟩ := set_ (l1_ c_) rfl
  have s5 : sSet 5 (eLst [(eC (.int 0))]) ⟨hE rows (some (.val (natL C))) y2 none (some (.val (natL [0]))) none none none, S⟩ = .nx ⟨hE rows (some (.val (natL C))) y2 none (some (.val (natL (unN rows 0)))) (some (.val (natL (szN 0)))) none none, S⟩ := set_ (l1_ c_) rfl
  have it10 : it__law_has_room_10 ⟨hE rows (some (.val (natL C))) y2 none (some (.val (natL (unN rows 0)))) (some (.val (natL (szN 0)))) none none, S⟩ = .ok ((rows.drop 0).map rowL) ⟨hE rows (some (.val (natL C))) y2 none (some (.val (natL (unN rows 0)))) (some (.val (natL (szN 0)))) none none, S⟩ := iv_ (v_ rfl) rfl
  obtain ⟨y3, y6, y7, hr⟩ := rows_loop (S := S) (x1 := some (.val (natL C))) (x2 := y2) h h10 rows.length 0 none none none (by omega)
  have lu : (unN rows rows.length).length = 2 ^ rows.length := by unfold unN; rw [List.length_map, subs_len]
  have ls : (szN rows.length).length = 2 ^ rows.length := by unfold szN; rw [List.length_map, subs_len]
  have p : 2 ^ rows.length ≤ 2 ^ 12 := Nat.pow_le_pow_right (by omega) h10
  generalize hsl : hE rows (some (.val (natL C))) y2 y3 (some (.val (natL (unN rows rows.length)))) (some (.val (natL (szN rows.length)))) y6 y7 = sl at hr
  have it12 : it__law_has_room_12 ⟨sl, S⟩ = .ok ((List.range (2 ^ rows.length)).map fun j => D.int (j : Nat)) ⟨sl, S⟩ := by
    refine ir1_ (by omega) (ln_ (a := natL (unN rows rows.length)) (v_ (by rw [← hsl]; rfl)) ?_)
    show some (D.int (((unN rows rows.length).map _).length : Nat)) = _
    rw [List.length_map, lu]
  have c := eComp_filt (b := bNm 2) (c := ct__law_has_room_13) (e := ce__law_has_room_14) (vs := [2]) (p := roomD rows) (g := id) it12 (by rw [List.length_map, List.length_range]; omega) (fun d hd => by
    obtain ⟨k, hk, rfl⟩ := List.mem_map.mp hd
    have hk := List.mem_range.mp hk
    rw [← hsl]
    refine ⟨⟨hE rows (some (.val (natL C))) (vI (k : Nat)) y3 (some (.val (natL (unN rows rows.length)))) (some (.val (natL (szN rows.length)))) y6 y7, S⟩, rfl, .bl (roomB rows k), ⟨hE rows (some (.val (natL C))) (vI (k : Nat)) y3 (some (.val (natL (unN rows rows.length)))) (some (.val (natL (szN rows.length)))) y6 y7, S⟩, ?_, ?_, fun _ => rfl, fun _ => ⟨⟨hE rows (some (.val (natL C))) (vI (k : Nat)) y3 (some (.val (natL (unN rows rows.length)))) (some (.val (natL (szN rows.length)))) y6 y7, S⟩, v_ rfl, rfl⟩⟩
    · unfold ct__law_has_room_13
      have lt : (unN rows rows.length)[k]?.getD 0 < 4096 := by
        unfold unN
        rw [List.getElem?_map]
        cases (subs rows.length)[k]? with
        | none => exact (by show (0 : Nat) < 4096; omega)
        | some T => exact um_lt h T
      have a := ix_ (f := eVar 4) (g := eVar 2) (sl := hE rows (some (.val (natL C))) (vI (k : Nat)) y3 (some (.val (natL (unN rows rows.length)))) (some (.val (natL (szN rows.length)))) y6 y7) (v_ rfl) (v_ rfl) (natL_at (S := S) (l := unN rows rows.length) (i := k) (by rw [lu]; exact hk))
      have b := ix_ (f := eVar 1) (v_ rfl) a (natL_at (S := S) (l := C) (i := (unN rows rows.length)[k]?.getD 0) (by rw [tl]; exact lt))
      have c := ix_ (f := eVar 5) (g := eVar 2) (sl := hE rows (some (.val (natL C))) (vI (k : Nat)) y3 (some (.val (natL (unN rows rows.length)))) (some (.val (natL (szN rows.length)))) y6 y7) (v_ rfl) (v_ rfl) (natL_at (S := S) (l := szN rows.length) (i := k) (by rw [ls]; exact hk))
      refine b_ b c ?_
      rw [ta _ lt]
      exact lt_nat _ _
    · show some (roomB rows k) = some (roomB rows ((k : Nat) : Int).toNat)
      rw [Int.toNat_natCast])
  have b2 : backE ⟨sl, S⟩ (wipeE ⟨sl, S⟩ [2]) [2] = ⟨sl, S⟩ := by
    rw [← hsl]
    rfl
  rw [b2, List.map_id, List.filter_map] at c
  have ef : (roomD rows ∘ fun j => D.int ((j : Nat) : Int)) = roomB rows := by
    funext j
    show roomB rows ((j : Nat) : Int).toNat = _
    rw [Int.toNat_natCast]
  rw [ef] at c
  have last : eB gtD (eLenS (eComp it__law_has_room_12 (bNm 2) ct__law_has_room_13 ce__law_has_room_14 [2])) (eC (.int 0)) ⟨sl, S⟩ = .ok (.bl (decide (0 < ((List.range (2 ^ rows.length)).filter (roomB rows)).length))) ⟨sl, S⟩ := by
    refine b_ (ln_ c (z := .int (((List.range (2 ^ rows.length)).filter (roomB rows)).length : Nat)) ?_) c_ ?_
    · show some (D.int ((List.map _ _).length : Nat)) = _
      rw [List.length_map]
    · exact gt_nat _
  rw [sq_ s1 (sq_ (for_ it2 hy) (sq_ s4 (sq_ s5 (sq_ (for_ it10 hr) (ret_ last)))))]
  rfl
end K52

/-! Comprehensions that draw; _law_some. -/
namespace K52
open PySem MB
theorem Dr.fin {b : SX} {n k : Nat} {ds : List D} {S B T : Store} {d : D} (D : Dr k S B) (h : runS b n ds S = .ok d (B ++ T)) (cd : clD S.length d) : runQ b n ds S = .ok d B := by
  refine run_cells h D.len (fun i c e => ?_) cd
  by_cases q : i = k
  · subst q
    right
    obtain ⟨cs, e2, s, j, r, rs, rfl, _⟩ := D.box
    rw [e] at e2
    cases e2
    exact box_cl
  · exact .inl ((D.out i q).symm.trans e)
theorem compDr {k : Nat} {b : BX} {e : EX} {vs : List Nat} {wl : List (Option Sl)} {T : Store} {P : D → Prop} : ∀ (ds acc : List D) (sl : List (Option Sl)) (B : Store), (∀ W, wipeE ⟨sl, W⟩ vs = ⟨wl, W⟩) → BoxAt B k →
    (∀ d ∈ ds, ∀ B, BoxAt B k → ∃ y B' sl', (∃ ρ1, b d ⟨wl, B ++ T⟩ = some ρ1 ∧ e ρ1 = .ok y ⟨sl', B' ++ T⟩) ∧ (∀ W, wipeE ⟨sl', W⟩ vs = ⟨wl, W⟩) ∧ Dr k B B' ∧ P y) →
    ∃ ys B' sl', compL b (eC (.bl true)) e vs ds acc ⟨sl, B ++ T⟩ = .ok (.lst (acc ++ ys)) ⟨sl', B' ++ T⟩ ∧ (∀ W, wipeE ⟨sl', W⟩ vs = ⟨wl, W⟩) ∧ Dr k B B' ∧ ys.length = ds.length ∧ ∀ y ∈ ys, P y
  | [], acc, sl, B, hw, hb, _ => ⟨[], B, sl, by simp [compL], hw, Dr.refl hb, rfl, by simp⟩
  | d :: ds, acc, sl, B, hw, hb, H => by
    obtain ⟨y, B1, sl1, ⟨ρ1, e1, e2⟩, w1, d1, p1⟩ := H d List.mem_cons_self B hb
    obtain ⟨ys, B', sl', e3, w2, d2, l2, p2⟩ := compDr ds (acc ++ [y]) sl1 B1 w1 d1.box fun d m => H d (List.mem_cons_of_mem _ m)
    refine ⟨y :: ys, B', sl', ?_, w2, d1.trans d2, by simp [l2], fun z m => ?_⟩
    · have st : compL b (eC (.bl true)) e vs (d :: ds) acc ⟨sl, B ++ T⟩ = (match b d (wipeE ⟨sl, B ++ T⟩ vs) with
        | none => .stuck
        | some ρ1 => (e ρ1).bind fun y ρ3 => compL b (eC (.bl true)) e vs ds (acc ++ [y]) ρ3) := rfl
      rw [st, hw, e1]
      show (e ρ1).bind _ = _
      rw [e2]
      show compL b (eC (.bl true)) e vs ds (acc ++ [y]) ⟨sl1, B1 ++ T⟩ = _
      rw [e3, List.append_assoc]
      rfl
    · rcases List.mem_cons.mp m with rfl | m
      · exact p1
      · exact p2 z m
theorem eCompDr {k : Nat} {it : IX} {b : BX} {e : EX} {vs : List Nat} {sl wl : List (Option Sl)} {B T : Store} {ds : List D} {ρ : En} (P : D → Prop) (hi : it ρ = .ok ds ⟨sl, B ++ T⟩) (hl : ds.length ≤ 1000000) (hw : ∀ W, wipeE ⟨sl, W⟩ vs = ⟨wl, W⟩) (hb : BoxAt B k)
    (hk : ∀ W W', backE ⟨sl, W⟩ ⟨wl, W'⟩ vs = ⟨sl, W'⟩)
    (H : ∀ d ∈ ds, ∀ B, BoxAt B k → ∃ y B' sl', (∃ ρ1, b d ⟨wl, B ++ T⟩ = some ρ1 ∧ e ρ1 = .ok y ⟨sl', B' ++ T⟩) ∧ (∀ W, wipeE ⟨sl', W⟩ vs = ⟨wl, W⟩) ∧ Dr k B B' ∧ P y) :
    ∃ ys B', eComp it b (eC (.bl true)) e vs ρ = .ok (.lst ys) ⟨sl, B' ++ T⟩ ∧ Dr k B B' ∧ ys.length = ds.length ∧ ∀ y ∈ ys, P y := by
  obtain ⟨ys, B', sl', e1, w, d, l, p⟩ := compDr (P := P) ds [] sl B hw hb H
  refine ⟨ys, B', ?_, d, l, p⟩
  rw [eComp_ap, hi, kCo_ok, if_pos hl, e1]
  show Rs.ok (.lst ys) (backE ⟨sl, B ++ T⟩ (wipeE ⟨sl', B' ++ T⟩ vs) vs) = _
  rw [w, hk]
theorem ints_of {P : Int → Prop} : ∀ {ys : List D}, (∀ y ∈ ys, ∃ z, y = .int z ∧ P z) → ∃ zs : List Int, ys = zs.map D.int ∧ ∀ z ∈ zs, P z
  | [], _ => ⟨[], rfl, by simp⟩
  | y :: ys, h => by
    obtain ⟨z, rfl, hz⟩ := h y List.mem_cons_self
    obtain ⟨zs, rfl, hzs⟩ := ints_of (P := P) fun y m => h y (List.mem_cons_of_mem _ m)
    exact ⟨z :: zs, rfl, fun w m => by
      rcases List.mem_cons.mp m with rfl | m
      · exact hz
      · exact hzs w m⟩
/-! _law_some -/
theorem erase_perm' {l : List Int} {i : Nat} (h : i < l.length) : l.Perm (l[i] :: l.eraseIdx i) := by
  induction l generalizing i with
  | nil => simp at h
  | cons x l ih =>
    cases i with
    | zero => exact .refl _
    | succ i => exact ((ih (by simpa using h)).cons x).trans (.swap _ _ _)
theorem er_map : ∀ (l : List Int) (i : Nat), (l.map D.int).eraseIdx i = (l.eraseIdx i).map D.int
  | [], _ => rfl
  | _ :: _, 0 => rfl
  | x :: l, i + 1 => by
    rw [List.map_cons, List.eraseIdx_cons_succ, List.eraseIdx_cons_succ, List.map_cons, er_map l i]
theorem some_loop {k r t : Nat} {total : Int} {x2 : Option Sl} {S : Store} (hr : r = S.length) (ht : t = S.length + 1) : ∀ (ds : List D) (B : Store) (l zs : List Int) (x5 : Option Sl), Dr k S B → ds.length ≤ l.length → l.length ≤ 1000 → zs.length + ds.length ≤ 1000 → ∃ B' l' zs' y5,
    loopS (bNm 5) g__law_some_1 ds ⟨[vC k, vI total, x2, vC r, vC t, x5], B ++ [some (.lst (l.map D.int)), some (.lst (zs.map D.int))]⟩ = .nx ⟨[vC k, vI total, x2, vC r, vC t, y5], B' ++ [some (.lst (l'.map D.int)), some (.lst (zs'.map D.int))]⟩
      ∧ Dr k S B' ∧ zs'.length = zs.length + ds.length ∧ (l ++ zs).Perm (l' ++ zs')
  | [], B, l, zs, x5, hd, _, _, _ => ⟨B, l, zs, x5, rfl, hd, rfl, .refl _⟩
  | d :: ds, B, l, zs, x5, hd, h1, h2, h3 => by
    rw [List.length_cons] at h1 h3
    have bl : B.length = S.length := hd.len
    have lr : (B ++ [some (.lst (l.map D.int)), some (.lst (zs.map D.int))])[r]? = some (some (.lst (l.map D.int))) := app_getR (i := 0) (p := r) (by omega) rfl
    obtain ⟨z, B1, e1, d1, z0, z1⟩ := draw_app (T := [some (.lst (l.map D.int)), some (.lst (zs.map D.int))]) (many := (l.length : Nat)) hd.box (by omega) (by omega)
    have b1l : B1.length = S.length := d1.len.trans bl
    obtain ⟨i, rfl⟩ := Int.eq_ofNat_of_zero_le z0
    have hi : i < l.length := by omega
    have ev : eFn m__law_draw [(eVar 0), (eLenS (eVar 3))] ⟨[vC k, vI total, x2, vC r, vC t, some (.val d)], B ++ [some (.lst (l.map D.int)), some (.lst (zs.map D.int))]⟩ = .ok (.int (i : Nat)) ⟨[vC k, vI total, x2, vC r, vC t, some (.val d)], B1 ++ [some (.lst (l.map D.int)), some (.lst (zs.map D.int))]⟩ :=
      fn2_ (v_ rfl) (ln_ (v_ rfl) ((len_cell lr).trans (by rw [List.length_map]))) e1
    have lr1 : (B1 ++ [some (.lst (l.map D.int)), some (.lst (zs.map D.int))])[r]? = some (some (.lst (l.map D.int))) := app_getR (i := 0) (p := r) (by omega) rfl
    have ep : eMut popAtF (eVar 3) [(eFn m__law_draw [(eVar 0), (eLenS (eVar 3))])] ⟨[vC k, vI total, x2, vC r, vC t, some (.val d)], B ++ [some (.lst (l.map D.int)), some (.lst (zs.map D.int))]⟩
        = .ok (.int l[i]) ⟨[vC k, vI total, x2, vC r, vC t, some (.val d)], B1 ++ [some (.lst ((l.eraseIdx i).map D.int)), some (.lst (zs.map D.int))]⟩ := by
      refine (mu1_ (v_ rfl) (la_ lr) ev (la_ lr1) (popAt_nat (by rw [List.length_map]; exact hi) (by rw [List.length_map]; omega))).trans ?_
      have e0 : (B1 ++ [some (Cn.lst (l.map D.int)), some (Cn.lst (zs.map D.int))]).set r (some (.lst ((l.map D.int).eraseIdx i))) = B1 ++ [some (.lst ((l.map D.int).eraseIdx i)), some (.lst (zs.map D.int))] := app_setR (i := 0) (p := r) (by omega)
      rw [e0]
      congr 1
      · simp
      · congr 4
        exact congrArg Cn.lst (er_map _ _)
    have lt1 : (B1 ++ [some (.lst ((l.eraseIdx i).map D.int)), some (.lst (zs.map D.int))])[t]? = some (some (.lst (zs.map D.int))) := by
      rw [ht]
      exact app_getR (i := 1) (p := S.length) (by omega) rfl
    have lt0 : (B ++ [some (.lst (l.map D.int)), some (.lst (zs.map D.int))])[t]? = some (some (.lst (zs.map D.int))) := by
      rw [ht]
      exact app_getR (i := 1) (p := S.length) (by omega) rfl
    have eg : g__law_some_1 ⟨[vC k, vI total, x2, vC r, vC t, some (.val d)], B ++ [some (.lst (l.map D.int)), some (.lst (zs.map D.int))]⟩ = .nx ⟨[vC k, vI total, x2, vC r, vC t, some (.val d)], B1 ++ [some (.lst ((l.eraseIdx i).map D.int)), some (.lst ((zs ++ [l[i]]).map D.int))]⟩ := by
      unfold g__law_some_1
      refine ex_ (d := .non) ((mu1_ (v_ rfl) (la_ lt0) ep (la_ lt1) (app_ok (by rw [List.length_map]; omega))).trans ?_)
      have e0 : (B1 ++ [some (Cn.lst ((l.eraseIdx i).map D.int)), some (Cn.lst (zs.map D.int))]).set t (some (.lst (zs.map D.int ++ [D.int l[i]]))) = B1 ++ [some (.lst ((l.eraseIdx i).map D.int)), some (.lst (zs.map D.int ++ [D.int l[i]]))] := by
        rw [ht]
        exact app_setR (i := 1) (p := S.length) (by omega)
      rw [e0, List.map_append]
      rfl
    have le := List.length_eraseIdx_of_lt hi
    obtain ⟨B', l', zs', y5, e5, d5, n5, p5⟩ := some_loop (k := k) (total := total) (x2 := x2) hr ht ds B1 (l.eraseIdx i) (zs ++ [l[i]]) (some (.val d)) (hd.trans d1) (by omega) (by omega) (by rw [List.length_append]; simp; omega)
    refine ⟨B', l', zs', y5, lp_ rfl eg e5, d5, by rw [n5, List.length_append, List.length_cons]; simp; omega, ?_⟩
    refine List.Perm.trans ?_ p5
    refine ((erase_perm' hi).append_right zs).trans ?_
    rw [← List.append_assoc]
    have q : (l[i] :: l.eraseIdx i ++ zs) = [l[i]] ++ (l.eraseIdx i ++ zs) := by simp
    rw [q]
    exact List.perm_append_comm
theorem some_spec {k : Nat} {S : Store} {total many : Nat} (hb : BoxAt S k) (hm : many ≤ total) (ht : total ≤ 1000) : ∃ (zs : List Int) (W' : Store), m__law_some [.ce k, .int (total : Nat), .int (many : Nat)] S = .ok (.lst (zs.map D.int)) W' ∧ Dr k S W' ∧ zs.length = many ∧ zs.Nodup ∧ ∀ z ∈ zs, 0 ≤ z ∧ z < total := by
  have e3 : sSet 3 (eLR1 true (eVar 1)) ⟨[vC k, vI (total : Nat), vI (many : Nat), none, none, none], S⟩ = .nx ⟨[vC k, vI (total : Nat), vI (many : Nat), vC S.length, none, none], S ++ [some (.lst (((List.range total).map fun i => ((i : Nat) : Int)).map D.int))]⟩ := by
    have e : eLR1 true (eVar 1) ⟨[vC k, vI (total : Nat), vI (many : Nat), none, none, none], S⟩ = .ok (.ce S.length) ⟨[vC k, vI (total : Nat), vI (many : Nat), none, none, none], S ++ [some (.lst (((List.range total).map fun i => ((i : Nat) : Int)).map D.int))]⟩ := by
      have q : ∀ z : Int, z = ((total : Nat) : Int) → (if rgB 0 z = true then outF true (.new (rangeL 0 (z - 0).toNat)) (⟨[vC k, vI (total : Nat), vI (many : Nat), none, none, none], S⟩ : En) else .stuck) = .ok (.ce S.length) ⟨[vC k, vI (total : Nat), vI (many : Nat), none, none, none], S ++ [some (.lst (((List.range total).map fun i => ((i : Nat) : Int)).map D.int))]⟩ := fun z hz => by
        have h1 : rgB 0 z = true := decide_eq_true ⟨by omega, by omega, by omega, by omega, by omega⟩
        have h2 : rangeL 0 (z - 0).toNat = ((List.range total).map fun i => ((i : Nat) : Int)).map D.int := by
          unfold rangeL
          rw [List.map_map, show (z - 0).toNat = total by omega]
          refine List.map_congr_left fun j _ => ?_
          show D.int (0 + ((j : Nat) : Int)) = D.int ((j : Nat) : Int)
          rw [Int.zero_add]
        rw [if_pos h1, h2]
        rfl
      rw [eLR1_ap, v_ (d := .int (total : Nat)) rfl, kLR1_ok]
      exact q _ rfl
    exact set_ e rfl
  have e4 : sSet 4 (eLstM []) ⟨[vC k, vI (total : Nat), vI (many : Nat), vC S.length, none, none], S ++ [some (.lst (((List.range total).map fun i => ((i : Nat) : Int)).map D.int))]⟩ = .nx ⟨[vC k, vI (total : Nat), vI (many : Nat), vC S.length, vC (S.length + 1), none], S ++ [some (.lst (((List.range total).map fun i => ((i : Nat) : Int)).map D.int)), some (.lst (([] : List Int).map D.int))]⟩ := by
    have e : eLstM [] ⟨[vC k, vI (total : Nat), vI (many : Nat), vC S.length, none, none], S ++ [some (.lst (((List.range total).map fun i => ((i : Nat) : Int)).map D.int))]⟩ = .ok (.ce (S.length + 1)) ⟨[vC k, vI (total : Nat), vI (many : Nat), vC S.length, none, none], S ++ [some (.lst (((List.range total).map fun i => ((i : Nat) : Int)).map D.int)), some (.lst (([] : List Int).map D.int))]⟩ := by
      refine lm0_.trans ?_
      rw [app1, List.length_append]
      rfl
    exact set_ e rfl
  have it : it__law_some_0 ⟨[vC k, vI (total : Nat), vI (many : Nat), vC S.length, vC (S.length + 1), none], S ++ [some (.lst (((List.range total).map fun i => ((i : Nat) : Int)).map D.int)), some (.lst (([] : List Int).map D.int))]⟩ = .ok ((List.range many).map fun j => D.int (j : Nat)) ⟨[vC k, vI (total : Nat), vI (many : Nat), vC S.length, vC (S.length + 1), none], S ++ [some (.lst (((List.range total).map fun i => ((i : Nat) : Int)).map D.int)), some (.lst (([] : List Int).map D.int))]⟩ := ir1_ (by omega) (v_ rfl)
  obtain ⟨B', l', zs, y5, e5, d5, n5, p5⟩ := some_loop (k := k) (total := (total : Nat)) (x2 := vI (many : Nat)) (S := S) rfl rfl ((List.range many).map fun j => D.int (j : Nat)) S ((List.range total).map fun i => ((i : Nat) : Int)) [] none (Dr.refl hb) (by simp; omega) (by simp; omega) (by simp; omega)
  rw [List.append_nil] at p5
  have nd0 : ((List.range total).map fun i => ((i : Nat) : Int)).Nodup := by
    rw [List.nodup_iff_pairwise_ne, List.pairwise_map]
    exact (List.nodup_range (n := total)).imp fun h e => h (by omega)
  have nd := p5.nodup_iff.mp nd0
  refine ⟨zs, B', ?_, d5, by rw [n5]; simp, (List.nodup_append.mp nd).2.1, fun z m => ?_⟩
  · have e6 : sFr 4 ⟨[vC k, vI (total : Nat), vI (many : Nat), vC S.length, vC (S.length + 1), y5], B' ++ [some (.lst (l'.map D.int)), some (.lst (zs.map D.int))]⟩ = .nx ⟨[vC k, vI (total : Nat), vI (many : Nat), vC S.length, vL (zs.map D.int), y5], B' ++ [some (.lst (l'.map D.int)), none]⟩ := by
      refine (fr_c (k := S.length + 1) rfl (app_getR (i := 1) (p := S.length) d5.len rfl) rfl).trans ?_
      rw [app_setR (i := 1) (p := S.length) d5.len]
      rfl
    refine d5.fin (T := [some (.lst (l'.map D.int)), none]) ?_ (by simp)
    show endR (b__law_some ⟨[vC k, vI (total : Nat), vI (many : Nat), none, none, none], S⟩) = _
    unfold b__law_some
    rw [sq_ e3 (sq_ e4 (sq_ (for_ it e5) (sq_ e6 (ret_ (v_ rfl)))))]
    rfl
  · have := p5.mem_iff.mpr (List.mem_append_right l' m)
    obtain ⟨i, hi, rfl⟩ := List.mem_map.mp this
    have := List.mem_range.mp hi
    omega
end K52

/-! _law_small. -/
namespace K52
open PySem MB
abbrev sE (k t : Nat) (high : Int) (x3 x4 : Option Sl) : List (Option Sl) := [vC k, vC t, vI high, x3, x4, none]
theorem int_pos {z : Int} (h : 0 ≤ z) : ∃ n : Nat, z = (n : Nat) := Int.eq_ofNat_of_zero_le h
theorem draw_c {sl : List (Option Sl)} {B T : Store} {k : Nat} {many : Int} (hb : BoxAt B k) (h0 : 0 < many) (hd : many < 1073741824) (hs : sl[0]? = some (some (.val (.ce k)))) : ∃ z B', eFn m__law_draw [(eVar 0), (eC (.int many))] ⟨sl, B ++ T⟩ = .ok (.int z) ⟨sl, B' ++ T⟩ ∧ Dr k B B' ∧ 0 ≤ z ∧ z < many :=
  draw_evT (i := 0) hb h0 hd hs fun _ => c_
theorem small_many {k t : Nat} {high : Int} {x3 x4 : Option Sl} {B T : Store} (hb : BoxAt B k) : ∃ (m : Nat) (B' : Store), (∀ u : SX, sSeq (sSet 4 (eFn m__law_draw [(eVar 0), (eC (.int 9))]))
  (sSeq (sIf (eAnd (eB gtD (eVar 4) (eC (.int 2))) (eB gtD (eFn m__law_draw [(eVar 0), (eC (.int 3))]) (eC (.int 0))))
  (sSet 4 (eC (.int 2))) sNil) u) ⟨sE k t high x3 x4, B ++ T⟩ = u ⟨sE k t high x3 (vI (m : Nat)), B' ++ T⟩) ∧ Dr k B B' ∧ m ≤ 8 := by
  obtain ⟨z, B1, e1, d1, z0, z1⟩ := draw_c (sl := sE k t high x3 x4) (T := T) (many := 9) hb (by omega) (by omega) rfl
  obtain ⟨m, rfl⟩ := int_pos z0
  have s1 : sSet 4 (eFn m__law_draw [(eVar 0), (eC (.int 9))]) ⟨sE k t high x3 x4, B ++ T⟩ = .nx ⟨sE k t high x3 (vI (m : Nat)), B1 ++ T⟩ := set_ e1 rfl
  by_cases c : 2 < m
  · have t1 : eB gtD (eVar 4) (eC (.int 2)) ⟨sE k t high x3 (vI (m : Nat)), B1 ++ T⟩ = .ok (.bl true) ⟨sE k t high x3 (vI (m : Nat)), B1 ++ T⟩ := b_ (v_ rfl) c_ (by
      show some (D.bl (decide ((2 : Int) < (m : Nat)))) = _
      rw [decide_eq_true (by omega)])
    obtain ⟨w, B2, e2, d2, w0, w1⟩ := draw_c (sl := sE k t high x3 (vI (m : Nat))) (T := T) (many := 3) d1.box (by omega) (by omega) rfl
    have t2 : eB gtD (eFn m__law_draw [(eVar 0), (eC (.int 3))]) (eC (.int 0)) ⟨sE k t high x3 (vI (m : Nat)), B1 ++ T⟩ = .ok (.bl (decide (0 < w))) ⟨sE k t high x3 (vI (m : Nat)), B2 ++ T⟩ := b_ e2 c_ rfl
    by_cases c2 : 0 < w
    · rw [decide_eq_true c2] at t2
      refine ⟨2, B2, fun u => ?_, d1.trans d2, by omega⟩
      exact sq_ s1 (sq_ ((if_t ((and_t t1 rfl).trans t2) rfl).trans (set_ c_ rfl)) rfl)
    · rw [decide_eq_false c2] at t2
      refine ⟨m, B2, fun u => ?_, d1.trans d2, by omega⟩
      exact sq_ s1 (sq_ ((if_f ((and_t t1 rfl).trans t2) rfl).trans nil_) rfl)
  · have t1 : eB gtD (eVar 4) (eC (.int 2)) ⟨sE k t high x3 (vI (m : Nat)), B1 ++ T⟩ = .ok (.bl false) ⟨sE k t high x3 (vI (m : Nat)), B1 ++ T⟩ := b_ (v_ rfl) c_ (by
      show some (D.bl (decide ((2 : Int) < (m : Nat)))) = _
      rw [decide_eq_false (by omega)])
    refine ⟨m, B1, fun u => ?_, d1, by omega⟩
    exact sq_ s1 (sq_ ((if_f (and_f t1 rfl) rfl).trans nil_) rfl)
theorem small_step {k t : Nat} {high : Int} {x3 x4 : Option Sl} {B : Store} {rows : List (List Int)} (hb : BoxAt B k) (ht : B.length = t) (h0 : 0 < high) (h1 : high ≤ 12) (hr : rows.length ≤ 1000) : ∃ (r : List Int) (B' : Store) (y4 : Option Sl),
    g__law_small_3 ⟨sE k t high x3 x4, B ++ [some (.lst (rows.map rowL))]⟩ = .nx ⟨sE k t high x3 y4, B' ++ [some (.lst ((rows ++ [r]).map rowL))]⟩ ∧ Dr k B B' ∧ r.length ≤ 8 ∧ ∀ x ∈ r, 0 ≤ x ∧ x < 12 := by
  obtain ⟨m, B1, e1, d1, hm⟩ := small_many (k := k) (t := t) (high := high) (x3 := x3) (x4 := x4) (T := [some (.lst (rows.map rowL))]) hb
  have it : it__law_small_0 ⟨sE k t high x3 (vI (m : Nat)), B1 ++ [some (.lst (rows.map rowL))]⟩ = .ok ((List.range m).map fun j => D.int (j : Nat)) ⟨sE k t high x3 (vI (m : Nat)), B1 ++ [some (.lst (rows.map rowL))]⟩ := ir1_ (by omega) (v_ rfl)
  obtain ⟨ys, B2, e2, d2, l2, p2⟩ := eCompDr (k := k) (b := bNm 5) (e := ce__law_small_1) (vs := [5]) (wl := sE k t high x3 (vI (m : Nat))) (fun y => ∃ z, y = .int z ∧ (0 ≤ z ∧ z < 12)) it (by simp; omega) (fun W => rfl) d1.box (fun W W' => rfl) (fun d hd B hb => by
    obtain ⟨z, B', e, dr, z0, z1⟩ := draw_evT (sl := [vC k, vC t, vI high, x3, vI (m : Nat), some (.val d)]) (T := [some (.lst (rows.map rowL))]) (i := 0) (f := eVar 2) hb h0 (by omega) rfl (fun _ => v_ rfl)
    exact ⟨.int z, B', _, ⟨_, rfl, e⟩, fun W => rfl, dr, z, rfl, z0, by omega⟩)
  obtain ⟨r, rfl, pr⟩ := ints_of p2
  have lr : r.length = m := by simpa using l2
  refine ⟨r, B2, vI (m : Nat), ?_, d1.trans d2, by omega, pr⟩
  unfold g__law_small_3
  rw [e1]
  have b1 : B1.length = t := d1.len.trans ht
  have b2 : B2.length = t := d2.len.trans b1
  refine ex_ (d := .non) ((mu1_ (v_ rfl) (la_ (last_get b1)) e2 (la_ (last_get b2)) (app_ok (by rw [List.length_map]; omega))).trans ?_)
  rw [last_set b2, List.map_append]
  rfl
theorem small_loop {k t : Nat} {high : Int} (h0 : 0 < high) (h1 : high ≤ 12) : ∀ (ds : List D) (B : Store) (rows : List (List Int)) (x3 x4 : Option Sl), BoxAt B k → B.length = t → rows.length + ds.length ≤ 1000 → (∀ r ∈ rows, r.length ≤ 8 ∧ ∀ x ∈ r, 0 ≤ x ∧ x < 12) → ∃ (rs : List (List Int)) (B' : Store) (y3 y4 : Option Sl),
    loopS (bNm 3) g__law_small_3 ds ⟨sE k t high x3 x4, B ++ [some (.lst (rows.map rowL))]⟩ = .nx ⟨sE k t high y3 y4, B' ++ [some (.lst (rs.map rowL))]⟩ ∧ Dr k B B' ∧ rs.length = rows.length + ds.length ∧ ∀ r ∈ rs, r.length ≤ 8 ∧ ∀ x ∈ r, 0 ≤ x ∧ x < 12
  | [], B, rows, x3, x4, hb, ht, _, hp => ⟨rows, B, x3, x4, rfl, Dr.refl hb, rfl, hp⟩
  | d :: ds, B, rows, x3, x4, hb, ht, hl, hp => by
    rw [List.length_cons] at hl
    obtain ⟨r, B1, z4, e1, d1, lr, pr⟩ := small_step (high := high) (x3 := some (.val d)) (x4 := x4) hb ht h0 h1 (rows := rows) (by omega)
    obtain ⟨rs, B', y3, y4, e2, d2, l2, p2⟩ := small_loop h0 h1 ds B1 (rows ++ [r]) (some (.val d)) z4 d1.box (d1.len.trans ht) (by simp; omega) (fun q m => by
      rcases List.mem_append.mp m with m | m
      · exact hp q m
      · rw [List.mem_singleton.mp m]
        exact ⟨lr, pr⟩)
    exact ⟨rs, B', y3, y4, lp_ rfl e1 e2, d1.trans d2, by rw [l2, List.length_append, List.length_cons]; simp; omega, p2⟩
theorem small_spec {k : Nat} {S : Store} (hb : BoxAt S k) : ∃ (rows : List (List Int)) (W' : Store), m__law_small [.ce k] S = .ok (tabL rows) W' ∧ Dr k S W' ∧ rows.length ≤ 10 ∧ ∀ r ∈ rows, r.length ≤ 8 ∧ ∀ x ∈ r, 0 ≤ x ∧ x < 12 := by
  have s1 : sSet 1 (eLstM []) ⟨[vC k, none, none, none, none, none], S⟩ = .nx ⟨[vC k, vC S.length, none, none, none, none], S ++ [some (.lst (([] : List (List Int)).map rowL))]⟩ := set_ lm0_ rfl
  obtain ⟨z, B1, e1, d1, z0, z1⟩ := draw_c (sl := [vC k, vC S.length, none, none, none, none]) (T := [some (.lst (([] : List (List Int)).map rowL))]) (many := 12) hb (by omega) (by omega) rfl
  have s2 : sSet 2 (eBF false addF (eC (.int 1)) (eFn m__law_draw [(eVar 0), (eC (.int 12))])) ⟨[vC k, vC S.length, none, none, none, none], S ++ [some (.lst (([] : List (List Int)).map rowL))]⟩ = .nx ⟨sE k S.length (1 + z) none none, B1 ++ [some (.lst (([] : List (List Int)).map rowL))]⟩ := set_ (bf_ c_ e1 rfl) rfl
  obtain ⟨n, B2, e2, d2, n0, n1⟩ := draw_c (sl := sE k S.length (1 + z) none none) (T := [some (.lst (([] : List (List Int)).map rowL))]) (many := 11) d1.box (by omega) (by omega) rfl
  obtain ⟨n, rfl⟩ := int_pos n0
  have it : it__law_small_2 ⟨sE k S.length (1 + z) none none, B1 ++ [some (.lst (([] : List (List Int)).map rowL))]⟩ = .ok ((List.range n).map fun j => D.int (j : Nat)) ⟨sE k S.length (1 + z) none none, B2 ++ [some (.lst (([] : List (List Int)).map rowL))]⟩ := ir1_ (by omega) e2
  have d12 := d1.trans d2
  obtain ⟨rs, B', y3, y4, e3, d3, l3, p3⟩ := small_loop (k := k) (t := S.length) (high := 1 + z) (by omega) (by omega) ((List.range n).map fun j => D.int (j : Nat)) B2 [] none none d2.box d12.len (by simp; omega) (by simp)
  have d := d12.trans d3
  have f : sFr 1 ⟨sE k S.length (1 + z) y3 y4, B' ++ [some (.lst (rs.map rowL))]⟩ = .nx ⟨[vC k, some (.val (tabL rs)), vI (1 + z), y3, y4, none], B' ++ [none]⟩ := by
    refine (fr_c (k := S.length) rfl (last_get d.len) rfl).trans ?_
    rw [last_set d.len]
    rfl
  have l : rs.length ≤ 10 := by
    rw [l3, List.length_map, List.length_range]
    simp
    omega
  refine ⟨rs, B', d.fin (T := [none]) ?_ ?_, d, l, p3⟩
  · show endR (b__law_small ⟨[vC k, none, none, none, none, none], S⟩) = _
    unfold b__law_small
    rw [sq_ s1 (sq_ s2 (sq_ (for_ it e3) (sq_ f (ret_ (v_ rfl)))))]
    rfl
  · exact clD_dat (tab_dat (by omega) (fun r m => by have := (p3 r m).1; omega)) _
end K52

/-! _law_paired. -/
namespace K52
open PySem MB
theorem splice {sl : List (Option Sl)} {S : Store} {fb fa fx : EX} {r : List Int} {i : Nat} {x : Int} (hb : fb ⟨sl, S⟩ = .ok (.lst (r.map D.int)) ⟨sl, S⟩) (ha : fa ⟨sl, S⟩ = .ok (.int (i : Nat)) ⟨sl, S⟩) (hx : fx ⟨sl, S⟩ = .ok (.int x) ⟨sl, S⟩) (hl : r.length ≤ 1000) :
    eBF false addF (eBF false addF (eSlF false fb none (some fa)) (eLst [fx])) (eSlF false fb (some fa) none) ⟨sl, S⟩ = .ok (.lst ((r.take i ++ x :: r.drop i).map D.int)) ⟨sl, S⟩ := by
  have e1 := slh_l (ds := (r.take i).map D.int) hb ha (by
    rw [see1_l]
    show some (Oc.new (cutD (r.map D.int) none (some (i : Nat)))) = _
    rw [cut_hi, List.map_take])
  have e2 := sll_l (ds := (r.drop i).map D.int) hb ha (by
    rw [see1_l]
    show some (Oc.new (cutD (r.map D.int) (some (i : Nat)) none)) = _
    rw [cut_lo, List.map_drop])
  have e3 := bf_l (op := addF) (ds := (r.take i ++ [x]).map D.int) e1 (l1_ hx) (by
    rw [see1_l, see1_l, addF_l, if_pos (by unfold sizeLine; simp; omega), List.map_append]
    rfl)
  refine bf_l e3 e2 ?_
  rw [see1_l, see1_l, addF_l, if_pos (by unfold sizeLine; simp; omega), ← List.map_append, List.append_assoc]
  rfl
def Names (r : List Int) : Prop := ∀ x ∈ r, 0 ≤ x ∧ x ≤ 199
theorem splice_mem {r : List Int} {i : Nat} {x y : Int} (h : y ∈ r.take i ++ x :: r.drop i) : y = x ∨ y ∈ r := by
  rw [List.mem_append, List.mem_cons] at h
  rcases h with h | h | h
  · exact .inr (List.mem_of_mem_take h)
  · exact .inl h
  · exact .inr (List.mem_of_mem_drop h)
theorem splice_len {r : List Int} {i : Nat} {x : Int} : (r.take i ++ x :: r.drop i).length = r.length + 1 := by
  rw [List.length_append, List.length_cons, List.length_take, List.length_drop]
  omega
abbrev pE (k : Nat) (many : Int) (names : List Int) (t : Nat) (x4 x5 x7 : Option Sl) : List (Option Sl) := [vC k, vI many, vL (names.map D.int), vC t, x4, x5, none, x7]
theorem paired_step {k t i : Nat} {many : Int} {names : List Int} {x5 x7 : Option Sl} {B : Store} {rows : List (List Int)} (hb : BoxAt B k) (ht : B.length = t) (hi : i < names.length) (hn : Names names) (hr : rows.length ≤ 1000) : ∃ (r : List Int) (B' : Store) (y5 y7 : Option Sl),
    g__law_paired_3 ⟨pE k many names t (vI (i : Nat)) x5 x7, B ++ [some (.lst (rows.map rowL))]⟩ = .nx ⟨pE k many names t (vI (i : Nat)) y5 y7, B' ++ [some (.lst ((rows ++ [r]).map rowL))]⟩ ∧ Dr k B B' ∧ r.length ≤ 4 ∧ Names r ∧ names[i] ∈ r := by
  obtain ⟨n, B1, e1, d1, n0, n1⟩ := draw_c (sl := pE k many names t (vI (i : Nat)) x5 x7) (T := [some (.lst (rows.map rowL))]) (many := 4) hb (by omega) (by omega) rfl
  obtain ⟨n, rfl⟩ := int_pos n0
  have it : it__law_paired_0 ⟨pE k many names t (vI (i : Nat)) x5 x7, B ++ [some (.lst (rows.map rowL))]⟩ = .ok ((List.range n).map fun j => D.int (j : Nat)) ⟨pE k many names t (vI (i : Nat)) x5 x7, B1 ++ [some (.lst (rows.map rowL))]⟩ := ir1_ (by omega) e1
  obtain ⟨ys, B2, e2, d2, l2, p2⟩ := eCompDr (k := k) (b := bNm 6) (e := ce__law_paired_1) (vs := [6]) (wl := pE k many names t (vI (i : Nat)) x5 x7) (fun y => ∃ z, y = .int z ∧ (0 ≤ z ∧ z ≤ 199)) it (by simp; omega) (fun W => rfl) d1.box (fun W W' => rfl) (fun d hd B hb => by
    obtain ⟨z, B', e, dr, z0, z1⟩ := draw_c (sl := [vC k, vI many, vL (names.map D.int), vC t, vI (i : Nat), x5, some (.val d), x7]) (T := [some (.lst (rows.map rowL))]) (many := 200) hb (by omega) (by omega) rfl
    exact ⟨.int z, B', _, ⟨_, rfl, e⟩, fun W => rfl, dr, z, rfl, z0, by omega⟩)
  obtain ⟨r, rfl, pr⟩ := ints_of p2
  have lr : r.length = n := by simpa using l2
  have s5 : sSet 5 (eComp it__law_paired_0 (bNm 6) (eC (.bl true)) ce__law_paired_1 [6]) ⟨pE k many names t (vI (i : Nat)) x5 x7, B ++ [some (.lst (rows.map rowL))]⟩ = .nx ⟨pE k many names t (vI (i : Nat)) (vL (r.map D.int)) x7, B2 ++ [some (.lst (rows.map rowL))]⟩ := set_ e2 rfl
  have ln : ∀ S, eBF false addF (eLenS (eVar 5)) (eC (.int 1)) ⟨pE k many names t (vI (i : Nat)) (vL (r.map D.int)) x7, S⟩ = .ok (.int ((r.length + 1 : Nat) : Int)) ⟨pE k many names t (vI (i : Nat)) (vL (r.map D.int)) x7, S⟩ := fun S =>
    bf_ (ln_ (a := .lst (r.map D.int)) (v_ rfl) (z := .int (r.length : Nat)) (by
      show some (D.int ((r.map D.int).length : Nat)) = _
      rw [List.length_map])) c_ (by simp)
  obtain ⟨a, B3, e3, d3, a0, a1⟩ := draw_evT (sl := pE k many names t (vI (i : Nat)) (vL (r.map D.int)) x7) (T := [some (.lst (rows.map rowL))]) (i := 0) (f := eBF false addF (eLenS (eVar 5)) (eC (.int 1))) d2.box (by omega) (by omega) rfl ln
  obtain ⟨a, rfl⟩ := int_pos a0
  have s7 : sSet 7 (eFn m__law_draw [(eVar 0), (eBF false addF (eLenS (eVar 5)) (eC (.int 1)))]) ⟨pE k many names t (vI (i : Nat)) (vL (r.map D.int)) x7, B2 ++ [some (.lst (rows.map rowL))]⟩ = .nx ⟨pE k many names t (vI (i : Nat)) (vL (r.map D.int)) (vI (a : Nat)), B3 ++ [some (.lst (rows.map rowL))]⟩ := set_ e3 rfl
  have b3 : B3.length = t := d3.len.trans (d2.len.trans (d1.len.trans ht))
  have ix := ix_ (f := eVar 2) (g := eVar 4) (sl := pE k many names t (vI (i : Nat)) (vL (r.map D.int)) (vI (a : Nat))) (S := B3 ++ [some (.lst (rows.map rowL))]) (v_ rfl) (v_ rfl) (ixl_ (d := .int names[i]) (by rw [List.getElem?_map, List.getElem?_eq_getElem hi]; rfl))
  have sp := splice (fb := eVar 5) (fa := eVar 7) (r := r) (i := a) (v_ rfl) (v_ rfl) ix (by omega)
  refine ⟨r.take a ++ names[i] :: r.drop a, B3, vL (r.map D.int), vI (a : Nat), ?_, (d1.trans d2).trans d3, by rw [splice_len]; omega, fun y hy => ?_, by simp⟩
  · unfold g__law_paired_3
    refine sq_ s5 (sq_ s7 (ex_ (d := .non) ((mu1_ (v_ rfl) (la_ (last_get b3)) sp (la_ (last_get b3)) (app_ok (by rw [List.length_map]; omega))).trans ?_)))
    rw [last_set b3, List.map_append (f := rowL)]
    rfl
  · rcases splice_mem hy with rfl | h
    · exact hn _ (List.getElem_mem hi)
    · exact pr y h
theorem paired_loop {k t : Nat} {many : Int} {names : List Int} (hn : Names names) (hl : names.length ≤ 100) : ∀ (n i : Nat) (B : Store) (rows : List (List Int)) (x4 x5 x7 : Option Sl), BoxAt B k → B.length = t → i + n = names.length → rows.length = i → (∀ r ∈ rows, r.length ≤ 4 ∧ Names r) → (∀ j, j < i → ∃ x, names[j]? = some x ∧ x ∈ row rows j) → ∃ (rs : List (List Int)) (B' : Store) (y4 y5 y7 : Option Sl),
    loopS (bNm 4) g__law_paired_3 ((List.range' i n).map fun j => D.int (j : Nat)) ⟨pE k many names t x4 x5 x7, B ++ [some (.lst (rows.map rowL))]⟩ = .nx ⟨pE k many names t y4 y5 y7, B' ++ [some (.lst (rs.map rowL))]⟩ ∧ Dr k B B' ∧ rs.length = names.length ∧ (∀ r ∈ rs, r.length ≤ 4 ∧ Names r) ∧ ∀ j, j < names.length → ∃ x, names[j]? = some x ∧ x ∈ row rs j
  | 0, i, B, rows, x4, x5, x7, hb, ht, h1, h2, h3, h4 => ⟨rows, B, x4, x5, x7, rfl, Dr.refl hb, by omega, h3, fun j hj => h4 j (by omega)⟩
  | n + 1, i, B, rows, x4, x5, x7, hb, ht, h1, h2, h3, h4 => by
    have hi : i < names.length := by omega
    obtain ⟨r, B1, z5, z7, e1, d1, lr, nr, mr⟩ := paired_step (many := many) (x5 := x5) (x7 := x7) hb ht hi hn (rows := rows) (by omega)
    obtain ⟨rs, B', y4, y5, y7, e2, d2, l2, p2, q2⟩ := paired_loop hn hl n (i + 1) B1 (rows ++ [r]) (vI (i : Nat)) z5 z7 d1.box (d1.len.trans ht) (by omega) (by simp [h2]) (fun q m => by
      rcases List.mem_append.mp m with m | m
      · exact h3 q m
      · rw [List.mem_singleton.mp m]
        exact ⟨lr, nr⟩) (fun j hj => by
      by_cases c : j < i
      · obtain ⟨x, a, b⟩ := h4 j c
        refine ⟨x, a, ?_⟩
        unfold row at b ⊢
        rw [List.getElem?_append_left (by omega)]
        exact b
      · have : j = i := by omega
        subst this
        refine ⟨names[j], List.getElem?_eq_getElem hi, ?_⟩
        unfold row
        rw [List.getElem?_append_right (by omega), h2, Nat.sub_self]
        exact mr)
    rw [List.range'_succ, List.map_cons]
    exact ⟨rs, B', y4, y5, y7, lp_ rfl e1 e2, d1.trans d2, l2, p2, q2⟩
theorem paired_spec {k many : Nat} {S : Store} (hb : BoxAt S k) (hm : many ≤ 100) : ∃ (rows : List (List Int)) (W' : Store), m__law_paired [.ce k, .int (many : Nat)] S = .ok (tabL rows) W' ∧ Dr k S W' ∧ rows.length = many ∧ (∀ r ∈ rows, r.length ≤ 4 ∧ Names r) ∧ ∃ ch, Pairs rows ch := by
  obtain ⟨names, B1, e1, d1, l1, nd, hn⟩ := some_spec (total := 200) (many := many) hb (by omega) (by omega)
  have s2 : sSet 2 (eFn m__law_some [(eVar 0), (eC (.int 200)), (eVar 1)]) ⟨[vC k, vI (many : Nat), none, none, none, none, none, none], S⟩ = .nx ⟨[vC k, vI (many : Nat), vL (names.map D.int), none, none, none, none, none], B1⟩ := set_ (fn3_ (v_ rfl) c_ (v_ rfl) e1) rfl
  have s3 : sSet 3 (eLstM []) ⟨[vC k, vI (many : Nat), vL (names.map D.int), none, none, none, none, none], B1⟩ = .nx ⟨pE k (many : Nat) names S.length none none none, B1 ++ [some (.lst (([] : List (List Int)).map rowL))]⟩ := by
    rw [← d1.len]
    exact set_ lm0_ rfl
  have it : it__law_paired_2 ⟨pE k (many : Nat) names S.length none none none, B1 ++ [some (.lst (([] : List (List Int)).map rowL))]⟩ = .ok ((List.range' 0 many).map fun j => D.int (j : Nat)) ⟨pE k (many : Nat) names S.length none none none, B1 ++ [some (.lst (([] : List (List Int)).map rowL))]⟩ := by
    rw [← List.range_eq_range']
    exact ir1_ (by omega) (v_ rfl)
  have hn' : Names names := fun x hx => by
    have := hn x hx
    omega
  obtain ⟨rs, B', y4, y5, y7, e3, d3, l3, p3, q3⟩ := paired_loop (k := k) (t := S.length) (many := (many : Nat)) hn' (by omega) many 0 B1 [] none none none d1.box d1.len (by omega) rfl (by simp) (fun j hj => by omega)
  have d := d1.trans d3
  have f : sFr 3 ⟨pE k (many : Nat) names S.length y4 y5 y7, B' ++ [some (.lst (rs.map rowL))]⟩ = .nx ⟨[vC k, vI (many : Nat), vL (names.map D.int), some (.val (tabL rs)), y4, y5, none, y7], B' ++ [none]⟩ := by
    refine (fr_c (k := S.length) rfl (last_get d.len) rfl).trans ?_
    rw [last_set d.len]
    rfl
  refine ⟨rs, B', d.fin (T := [none]) ?_ ?_, d, by omega, p3, names, by omega, nd, fun i hi => q3 i (by omega)⟩
  · show endR (b__law_paired ⟨[vC k, vI (many : Nat), none, none, none, none, none, none], S⟩) = _
    unfold b__law_paired
    rw [sq_ s2 (sq_ s3 (sq_ (for_ it e3) (sq_ f (ret_ (v_ rfl)))))]
    rfl
  · exact clD_dat (tab_dat (by omega) (fun r m => by have := (p3 r m).1; omega)) _
end K52

/-! _law_roomed. -/
namespace K52
open PySem MB
abbrev mE (k : Nat) (rows : List (List Int)) (few : Nat) (names : List Int) (t : Nat) (x6 x7 : Option Sl) : List (Option Sl) := [vC k, some (.val (tabL rows)), vI (few : Nat), vL (names.map D.int), vC t, none, x6, x7, none]
theorem row_set {rows : List (List Int)} {i j : Nat} {r : List Int} (h : i < rows.length) : row (rows.set i r) j = if i = j then r else row rows j := by
  unfold row
  by_cases c : i = j
  · subst c
    rw [List.getElem?_set_self h, if_pos rfl]
    rfl
  · rw [List.getElem?_set_ne c, if_neg c]
theorem roomed_step {k t few i : Nat} {R cur : List (List Int)} {names : List Int} {x7 : Option Sl} {B : Store} (hb : BoxAt B k) (ht : B.length = t) (hf : few = names.length) (hf2 : few ≤ 100) (hi : i < cur.length) : ∃ (r : List Int) (B' : Store) (y7 : Option Sl),
    g__law_roomed_5 ⟨mE k R few names t (vI (i : Nat)) x7, B ++ [some (.lst (cur.map rowL))]⟩ = .nx ⟨mE k R few names t (vI (i : Nat)) y7, B' ++ [some (.lst ((cur.set i r).map rowL))]⟩ ∧ Dr k B B' ∧ r.length ≤ 4 ∧ ∀ x ∈ r, x ∈ names := by
  obtain ⟨n, B1, e1, d1, n0, n1⟩ := draw_c (sl := mE k R few names t (vI (i : Nat)) x7) (T := [some (.lst (cur.map rowL))]) (many := 4) hb (by omega) (by omega) rfl
  obtain ⟨n, rfl⟩ := int_pos n0
  have ⟨m, hm, m4, mf⟩ : ∃ m : Nat, (if (1 + (n : Int)) < ((few : Nat) : Int) then (1 + (n : Int)) else ((few : Nat) : Int)) = (m : Nat) ∧ m ≤ 4 ∧ (0 < m → 0 < few) := by
    by_cases c : 1 + (n : Int) < (few : Nat)
    · rw [if_pos c]
      exact ⟨1 + n, by omega, by omega, by omega⟩
    · rw [if_neg c]
      exact ⟨few, rfl, by omega, fun h => h⟩
  have s7 : sSet 7 (eCall minD [(eVar 2), (eBF false addF (eC (.int 1)) (eFn m__law_draw [(eVar 0), (eC (.int 4))]))]) ⟨mE k R few names t (vI (i : Nat)) x7, B ++ [some (.lst (cur.map rowL))]⟩ = .nx ⟨mE k R few names t (vI (i : Nat)) (vI (m : Nat)), B1 ++ [some (.lst (cur.map rowL))]⟩ := by
    have e : eCall minD [(eVar 2), (eBF false addF (eC (.int 1)) (eFn m__law_draw [(eVar 0), (eC (.int 4))]))] ⟨mE k R few names t (vI (i : Nat)) x7, B ++ [some (.lst (cur.map rowL))]⟩ = .ok (.int (m : Nat)) ⟨mE k R few names t (vI (i : Nat)) x7, B1 ++ [some (.lst (cur.map rowL))]⟩ := by
      rw [← hm]
      exact ca2_ (v_ rfl) (bf_ (z := .int (1 + (n : Nat))) c_ e1 rfl) min_ok
    exact set_ e rfl
  have it : it__law_roomed_2 ⟨mE k R few names t (vI (i : Nat)) (vI (m : Nat)), B1 ++ [some (.lst (cur.map rowL))]⟩ = .ok ((List.range m).map fun j => D.int (j : Nat)) ⟨mE k R few names t (vI (i : Nat)) (vI (m : Nat)), B1 ++ [some (.lst (cur.map rowL))]⟩ := ir1_ (by omega) (v_ rfl)
  obtain ⟨ys, B2, e2, d2, l2, p2⟩ := eCompDr (k := k) (b := bNm 8) (e := ce__law_roomed_3) (vs := [8]) (wl := mE k R few names t (vI (i : Nat)) (vI (m : Nat))) (fun y => ∃ z, y = .int z ∧ z ∈ names) it (by simp; omega) (fun W => rfl) d1.box (fun W W' => rfl) (fun d hd B hb => by
    obtain ⟨j, hj, rfl⟩ := List.mem_map.mp hd
    have := List.mem_range.mp hj
    obtain ⟨z, B', e, dr, z0, z1⟩ := draw_evT (sl := [vC k, some (.val (tabL R)), vI (few : Nat), vL (names.map D.int), vC t, none, vI (i : Nat), vI (m : Nat), vI (j : Nat)]) (T := [some (.lst (cur.map rowL))]) (i := 0) (f := eVar 2) (many := (few : Nat)) hb (by omega) (by omega) rfl (fun _ => v_ rfl)
    obtain ⟨z, rfl⟩ := int_pos z0
    have hz : z < names.length := by omega
    exact ⟨.int names[z], B', _, ⟨_, rfl, ix_ (v_ rfl) e (ixl_ (by rw [List.getElem?_map, List.getElem?_eq_getElem hz]; rfl))⟩, fun W => rfl, dr, _, rfl, List.getElem_mem hz⟩)
  obtain ⟨r, rfl, pr⟩ := ints_of p2
  have lr : r.length = m := by simpa using l2
  have b2 : B2.length = t := d2.len.trans (d1.len.trans ht)
  refine ⟨r, B2, vI (m : Nat), ?_, d1.trans d2, by omega, pr⟩
  unfold g__law_roomed_5
  refine sq_ s7 ((put_ e2 (v_ rfl) (v_ rfl) (putc_ (last_get b2) (by rw [List.length_map]; exact hi))).trans ?_)
  rw [last_set b2, List.map_set]
  rfl
theorem roomed_loop {k t few n : Nat} {R : List (List Int)} {names : List Int} (hn : Names names) (hf : few = names.length) (hf2 : few ≤ 100) : ∀ (ks : List Nat) (B : Store) (cur : List (List Int)) (x6 x7 : Option Sl), BoxAt B k → B.length = t → cur.length = n → (∀ j ∈ ks, j < n) → (∀ r ∈ cur, r.length ≤ 4 ∧ Names r) → ∃ (cur' : List (List Int)) (B' : Store) (y6 y7 : Option Sl),
    loopS (bNm 6) g__law_roomed_5 (ks.map fun j => D.int (j : Nat)) ⟨mE k R few names t x6 x7, B ++ [some (.lst (cur.map rowL))]⟩ = .nx ⟨mE k R few names t y6 y7, B' ++ [some (.lst (cur'.map rowL))]⟩ ∧ Dr k B B' ∧ cur'.length = n ∧ (∀ r ∈ cur', r.length ≤ 4 ∧ Names r) ∧ (∀ j, (∀ x ∈ row cur j, x ∈ names) → ∀ x ∈ row cur' j, x ∈ names) ∧ ∀ j ∈ ks, ∀ x ∈ row cur' j, x ∈ names
  | [], B, cur, x6, x7, hb, ht, hl, _, hp => ⟨cur, B, x6, x7, rfl, Dr.refl hb, hl, hp, fun j h => h, fun j m => absurd m List.not_mem_nil⟩
  | i :: ks, B, cur, x6, x7, hb, ht, hl, hk, hp => by
    have hi : i < cur.length := by rw [hl]; exact hk i List.mem_cons_self
    obtain ⟨r, B1, z7, e1, d1, lr, nr⟩ := roomed_step (k := k) (R := R) (x7 := x7) hb ht hf hf2 hi
    obtain ⟨cur', B', y6, y7, e2, d2, l2, p2, q2, s2⟩ := roomed_loop (R := R) hn hf hf2 ks B1 (cur.set i r) (vI (i : Nat)) z7 d1.box (d1.len.trans ht) (by rw [List.length_set]; exact hl) (fun j m => hk j (List.mem_cons_of_mem _ m)) (fun q m => by
      rcases List.mem_or_eq_of_mem_set m with m | rfl
      · exact hp q m
      · exact ⟨lr, fun x hx => hn x (nr x hx)⟩)
    refine ⟨cur', B', y6, y7, lp_ rfl e1 e2, d1.trans d2, l2, p2, fun j h => q2 j fun x hx => ?_, fun j m => ?_⟩
    · rw [row_set hi] at hx
      by_cases c : i = j
      · rw [if_pos c] at hx
        exact nr x hx
      · rw [if_neg c] at hx
        exact h x hx
    · rcases List.mem_cons.mp m with rfl | m
      · refine q2 j fun x hx => ?_
        rw [row_set hi, if_pos rfl] at hx
        exact nr x hx
      · exact s2 j m
theorem Dr.split {k : Nat} {B T W : Store} (d : Dr k (B ++ T) W) (h : k < B.length) : ∃ B', W = B' ++ T ∧ Dr k B B' := by
  have hl : W.length = B.length + T.length := by rw [d.len, List.length_append]
  have e : W = W.take B.length ++ T := by
    conv => lhs; rw [← List.take_append_drop B.length W]
    congr 1
    refine List.ext_getElem? fun j => ?_
    rw [List.getElem?_drop, d.out _ (by omega), List.getElem?_append_right (by omega)]
    congr 1
    omega
  refine ⟨W.take B.length, e, ?_, fun j hj => ?_, d.box.get ?_⟩
  · rw [List.length_take]
    omega
  · by_cases c : j < B.length
    · rw [List.getElem?_take_of_lt c, d.out j hj, List.getElem?_append_left c]
    · rw [List.getElem?_eq_none (by rw [List.length_take]; omega), List.getElem?_eq_none (by omega)]
  · exact List.getElem?_take_of_lt h
theorem roomed_spec {k : Nat} {S : Store} {rows : List (List Int)} (hb : BoxAt S k) (h0 : 0 < rows.length) (h1 : rows.length ≤ 100) (hp : ∀ r ∈ rows, r.length ≤ 4 ∧ Names r) : ∃ (rs : List (List Int)) (W' : Store), m__law_roomed [.ce k, tabL rows] S = .ok (tabL rs) W' ∧ Dr k S W' ∧ rs.length = rows.length ∧ (∀ r ∈ rs, r.length ≤ 4 ∧ Names r) ∧ ∃ T, Room rs T := by
  have lenR : lenS S (tabL rows) = some (.int (rows.length : Nat)) := by
    show some (D.int ((rows.map rowL).length : Nat)) = _
    rw [List.length_map]
  have ⟨mn, hmn, m0, mn1, mn2⟩ : ∃ m : Int, minD [.int 6, .int (rows.length : Nat)] = some (.int m) ∧ 0 < m ∧ m ≤ 6 ∧ m ≤ (rows.length : Nat) := by
    refine ⟨_, min_ok, ?_⟩
    by_cases c : ((rows.length : Nat) : Int) < 6
    · rw [if_pos c]
      omega
    · rw [if_neg c]
      omega
  obtain ⟨few, B1, e1, d1, f0, f1⟩ := draw_dr (many := mn) hb m0 (by omega)
  obtain ⟨few, rfl⟩ := int_pos f0
  have s2 : sSet 2 (eFn m__law_draw [(eVar 0), (eCall minD [(eC (.int 6)), (eLenS (eVar 1))])]) ⟨[vC k, some (.val (tabL rows)), none, none, none, none, none, none, none], S⟩ = .nx ⟨[vC k, some (.val (tabL rows)), vI (few : Nat), none, none, none, none, none, none], B1⟩ :=
    set_ (fn2_ (v_ rfl) (ca2_ c_ (ln_ (v_ rfl) lenR) hmn) e1) rfl
  obtain ⟨names, B2, e2, d2, l2, nd2, hn2⟩ := some_spec (total := 200) (many := few) d1.box (by omega) (by omega)
  have s3 : sSet 3 (eFn m__law_some [(eVar 0), (eC (.int 200)), (eVar 2)]) ⟨[vC k, some (.val (tabL rows)), vI (few : Nat), none, none, none, none, none, none], B1⟩ = .nx ⟨[vC k, some (.val (tabL rows)), vI (few : Nat), vL (names.map D.int), none, none, none, none, none], B2⟩ := set_ (fn3_ (v_ rfl) c_ (v_ rfl) e2) rfl
  have hn : Names names := fun x hx => by
    have := hn2 x hx
    omega
  have it0 : it__law_roomed_0 ⟨[vC k, some (.val (tabL rows)), vI (few : Nat), vL (names.map D.int), none, none, none, none, none], B2⟩ = .ok (rows.map rowL) ⟨[vC k, some (.val (tabL rows)), vI (few : Nat), vL (names.map D.int), none, none, none, none, none], B2⟩ := iv_ (v_ rfl) rfl
  have c0 := eCompM_map (b := bNm 5) (e := ce__law_roomed_1) (vs := [5]) (g := fun d => d) it0 (by rw [List.length_map]; omega) (fun d hd => by
    obtain ⟨r, mr, rfl⟩ := List.mem_map.mp hd
    exact ⟨⟨[vC k, some (.val (tabL rows)), vI (few : Nat), vL (names.map D.int), none, some (.val (rowL r)), none, none, none], B2⟩, rfl, ⟨[vC k, some (.val (tabL rows)), vI (few : Nat), vL (names.map D.int), none, some (.val (rowL r)), none, none, none], B2⟩, cf_l (v_ rfl) rfl, rfl⟩)
  have l12 := (d1.trans d2).len
  have s4 : sSet 4 (eCompM it__law_roomed_0 (bNm 5) (eC (.bl true)) ce__law_roomed_1 [5]) ⟨[vC k, some (.val (tabL rows)), vI (few : Nat), vL (names.map D.int), none, none, none, none, none], B2⟩ = .nx ⟨mE k rows few names S.length none none, B2 ++ [some (.lst (rows.map rowL))]⟩ := by
    rw [← l12]
    have e : eCompM it__law_roomed_0 (bNm 5) (eC (.bl true)) ce__law_roomed_1 [5] ⟨[vC k, some (.val (tabL rows)), vI (few : Nat), vL (names.map D.int), none, none, none, none, none], B2⟩ = .ok (.ce B2.length) ⟨[vC k, some (.val (tabL rows)), vI (few : Nat), vL (names.map D.int), none, none, none, none, none], B2 ++ [some (.lst (rows.map rowL))]⟩ := c0.trans (by
      rw [List.map_id']
      rfl)
    exact set_ e rfl
  obtain ⟨ks, B3, e3, d3, l3, nd3, hk3⟩ := some_spec (S := B2 ++ [some (.lst (rows.map rowL))]) (total := rows.length) (many := few + 1) d2.box.app (by omega) (by omega)
  obtain ⟨B4, rfl, d4⟩ := d3.split d2.box.lt
  have ⟨kn, hkn⟩ : ∃ kn : List Nat, ks = kn.map fun j => ((j : Nat) : Int) := ⟨ks.map Int.toNat, by
    rw [List.map_map]
    conv => lhs; rw [← List.map_id ks]
    refine List.map_congr_left fun z m => ?_
    have := hk3 z m
    show z = ((z.toNat : Nat) : Int)
    omega⟩
  subst hkn
  have e3' : m__law_some [.ce k, .int (rows.length : Nat), .int ((few + 1 : Nat) : Int)] (B2 ++ [some (.lst (rows.map rowL))]) = .ok (.lst (kn.map fun j => D.int (j : Nat))) (B4 ++ [some (.lst (rows.map rowL))]) := by
    rw [e3, List.map_map]
    rfl
  have it4 : it__law_roomed_4 ⟨mE k rows few names S.length none none, B2 ++ [some (.lst (rows.map rowL))]⟩ = .ok (kn.map fun j => D.int (j : Nat)) ⟨mE k rows few names S.length none none, B4 ++ [some (.lst (rows.map rowL))]⟩ := by
    have a : eBF false addF (eVar 2) (eC (.int 1)) ⟨mE k rows few names S.length none none, B2 ++ [some (.lst (rows.map rowL))]⟩ = .ok (.int ((few + 1 : Nat) : Int)) ⟨mE k rows few names S.length none none, B2 ++ [some (.lst (rows.map rowL))]⟩ := bf_ (v_ rfl) c_ (by simp)
    have lenR' : lenS (B2 ++ [some (.lst (rows.map rowL))]) (tabL rows) = some (.int (rows.length : Nat)) := by
      show some (D.int ((rows.map rowL).length : Nat)) = _
      rw [List.length_map]
    exact iv_ (fn3_ (v_ rfl) (ln_ (v_ rfl) lenR') a e3') rfl
  have l124 := ((d1.trans d2).trans d4).len
  have hk : ∀ j ∈ kn, j < rows.length := fun j m => by
    have := hk3 _ (List.mem_map.mpr ⟨j, m, rfl⟩)
    omega
  obtain ⟨rs, B', y6, y7, e5, d5, l5, p5, _, s5⟩ := roomed_loop (k := k) (t := S.length) (n := rows.length) (R := rows) hn l2.symm (by omega) kn B4 rows none none d4.box l124 rfl hk hp
  have d := ((d1.trans d2).trans d4).trans d5
  have f : sFr 4 ⟨mE k rows few names S.length y6 y7, B' ++ [some (.lst (rs.map rowL))]⟩ = .nx ⟨[vC k, some (.val (tabL rows)), vI (few : Nat), vL (names.map D.int), some (.val (tabL rs)), none, y6, y7, none], B' ++ [none]⟩ := by
    refine (fr_c (k := S.length) rfl (last_get d.len) rfl).trans ?_
    rw [last_set d.len]
    rfl
  refine ⟨rs, B', d.fin (T := [none]) ?_ ?_, d, l5, p5, (List.range rs.length).filter fun i => decide (i ∈ kn), ?_⟩
  · show endR (b__law_roomed ⟨[vC k, some (.val (tabL rows)), none, none, none, none, none, none, none], S⟩) = _
    unfold b__law_roomed
    rw [sq_ s2 (sq_ s3 (sq_ s4 (sq_ (for_ it4 e5) (sq_ f (ret_ (v_ rfl))))))]
    rfl
  · exact clD_dat (tab_dat (by omega) (fun r m => by have := (p5 r m).1; omega)) _
  · have kd : kn.Nodup := by
      rw [List.nodup_iff_pairwise_ne, List.pairwise_map] at nd3
      exact nd3.imp fun h e => h (by rw [e])
    have mem : ∀ i, i ∈ (List.range rs.length).filter (fun i => decide (i ∈ kn)) ↔ i ∈ kn := fun i => by
      rw [List.mem_filter, List.mem_range]
      simp only [decide_eq_true_eq]
      exact ⟨fun q => q.2, fun q => ⟨by rw [l5]; exact hk i q, q⟩⟩
    have ll := sub_len kd (m := (List.range rs.length).filter fun i => decide (i ∈ kn)) fun i hi => (mem i).mpr hi
    have lk : kn.length = few + 1 := by simpa using l3
    refine ⟨(List.pairwise_lt_range (n := rs.length)).filter _, fun e => ?_, fun i m => by rw [l5]; exact hk i ((mem i).mp m), names, by omega, fun i m => s5 i ((mem i).mp m)⟩
    rw [e, List.length_nil] at ll
    omega
end K52

/-! _law_refused: what is due. -/
namespace K52
open PySem MB
theorem eqT_nil {n : Nat} {xs : List D} (h1 : ∀ x ∈ xs, Dat n x) (h : n ≤ 63) : eqD (.tup xs) (.tup []) = some (.bl xs.isEmpty) := by
  obtain ⟨ps, f1, f2, f3⟩ := pys_of fun x hx => dat_py (h1 x hx)
  have s2 : SeqAt.shaped (.tuple ps) = true := shaped_of (n := n + 1) (by rw [PyData.canLay0]; exact f2) (by rw [PyData.depth]; omega) (by omega)
  have e1 : toPy (.tup xs) = some (.tuple ps) := by rw [toPy, f1]; rfl
  have e2 : toPy (.tup []) = some (.tuple []) := by rw [toPy, toPys]; rfl
  unfold eqD eqB
  rw [if_neg (by show ¬ scalD (.tup xs) (.tup []) = true; simp [scalD]), e1, e2]
  simp only [s2, Bool.true_and]
  have s3 : SeqAt.shaped (.tuple []) = true := by decide +kernel
  rw [s3, if_pos rfl]
  cases xs with
  | nil =>
    rw [toPys] at f1
    cases f1
    rfl
  | cons x xs =>
    rw [toPys] at f1
    obtain ⟨p, _, f1⟩ := Option.bind_eq_some_iff.mp f1
    obtain ⟨qs, _, f1⟩ := Option.map_eq_some_iff.mp f1
    subst f1
    rfl
def sizeD (n : Int) : D := .tup [.str "size", .int n, .bl true]
def numD (n : Int) : D := .tup [.str "number", .int n, .bl true]
theorem trio_in {n : Nat} {s : Str} {k : Int} (h : PyData.strOk s = true) : ∀ d ∈ [D.str s, .int k, .bl true], Dat n d := fun d hd => by
  simp only [List.mem_cons, List.not_mem_nil, or_false] at hd
  rcases hd with rfl | rfl | rfl
  · exact .str h
  · exact .int _
  · exact .bl _
theorem size_dat {n : Int} : Dat 1 (sizeD n) := .tup (trio_in (by decide +kernel))
theorem num_dat {n : Int} : Dat 1 (numD n) := .tup (trio_in (by decide +kernel))
def Due (d : D) : Prop := ∃ n, d = sizeD n ∨ d = numD n
theorem due_eq {d : D} (h : Due d) : eqD d (.tup []) = some (.bl false) := by
  obtain ⟨n, rfl | rfl⟩ := h
  · exact eqT_nil (n := 0) (trio_in (by decide +kernel)) (by omega)
  · exact eqT_nil (n := 0) (trio_in (by decide +kernel)) (by omega)
theorem due_see {d : D} {S : Store} {m : Nat} (h : Due d) : seeD S m d = d := by
  obtain ⟨n, rfl | rfl⟩ := h
  · exact seeD_dat size_dat _
  · exact seeD_dat num_dat _
def badB (x : Int) : Bool := decide (x < 0 ∨ 199 < x)
def badL (r : List Int) : List Int := r.filter badB
theorem badN_eq : ∀ r : List Int, badN r = (badL r).head?
  | [] => rfl
  | x :: r => by
    unfold badN badL
    by_cases h : x < 0 ∨ 199 < x
    · rw [if_pos h, List.filter_cons_of_pos (by simp [badB, h])]
      rfl
    · rw [if_neg h, List.filter_cons_of_neg (by simp [badB]; omega)]
      exact badN_eq r
def oneD (r : List Int) : D := if 40 < r.length then sizeD r.length else match badN r with
  | some x => numD x
  | none => .tup []
def dueR : List (List Int) → D
  | [] => .tup []
  | r :: rs => if 40 < r.length then sizeD r.length else match badN r with
    | some x => numD x
    | none => dueR rs
theorem dueR_ok : ∀ rs : List (List Int), match rowsE rs with
    | none => dueR rs = .tup []
    | some x => ∃ n, (x = xS n ∧ dueR rs = sizeD n) ∨ (x = xN n ∧ dueR rs = numD n)
  | [] => rfl
  | r :: rs => by
    unfold rowsE dueR
    by_cases h : 40 < r.length
    · rw [if_pos h, if_pos h]
      exact ⟨_, .inl ⟨rfl, rfl⟩⟩
    · rw [if_neg h, if_neg h]
      cases badN r with
      | some x => exact ⟨x, .inr ⟨rfl, rfl⟩⟩
      | none => exact dueR_ok rs
abbrev zE (x0 x1 x2 x3 x4 x5 x6 x7 x8 x9 : Option Sl) : List (Option Sl) := [x0, x1, x2, x3, x4, x5, x6, x7, x8, x9, none, none]
section
variable {x0 x1 x2 x4 x5 x6 x7 x8 x9 : Option Sl} {S : Store} {r : List Int}
def badDB : D → Bool
  | .int x => badB x
  | _ => false
theorem bad_comp (hl : r.length ≤ 1000) : eComp it__law_refused_2 (bNm 10) ct__law_refused_3 ce__law_refused_4 [10] ⟨zE x0 x1 x2 (some (.val (rowL r))) x4 x5 x6 x7 x8 x9, S⟩ = .ok (.lst ((badL r).map D.int)) ⟨zE x0 x1 x2 (some (.val (rowL r))) x4 x5 x6 x7 x8 x9, S⟩ := by
  have it : it__law_refused_2 ⟨zE x0 x1 x2 (some (.val (rowL r))) x4 x5 x6 x7 x8 x9, S⟩ = .ok (r.map D.int) ⟨zE x0 x1 x2 (some (.val (rowL r))) x4 x5 x6 x7 x8 x9, S⟩ := iv_ (v_ rfl) rfl
  have c := eComp_filt (b := bNm 10) (c := ct__law_refused_3) (e := ce__law_refused_4) (vs := [10]) (p := badDB) (g := id) it (by rw [List.length_map]; omega) (fun d hd => by
    obtain ⟨x, _, rfl⟩ := List.mem_map.mp hd
    refine ⟨⟨[x0, x1, x2, some (.val (rowL r)), x4, x5, x6, x7, x8, x9, vI x, none], S⟩, rfl, .bl (badB x), ⟨[x0, x1, x2, some (.val (rowL r)), x4, x5, x6, x7, x8, x9, vI x, none], S⟩, ?_, rfl, fun _ => rfl, fun _ => ⟨⟨[x0, x1, x2, some (.val (rowL r)), x4, x5, x6, x7, x8, x9, vI x, none], S⟩, v_ rfl, rfl⟩⟩
    unfold ct__law_refused_3
    by_cases a : x < 0
    · have t : eB ltD (eVar 10) (eC (.int 0)) ⟨[x0, x1, x2, some (.val (rowL r)), x4, x5, x6, x7, x8, x9, vI x, none], S⟩ = .ok (.bl true) ⟨[x0, x1, x2, some (.val (rowL r)), x4, x5, x6, x7, x8, x9, vI x, none], S⟩ := b_ (v_ rfl) c_ (by
        show some (D.bl (decide (x < 0))) = _
        rw [decide_eq_true a])
      rw [show badB x = true by simp [badB, a]]
      exact or_t t rfl
    · have t : eB ltD (eVar 10) (eC (.int 0)) ⟨[x0, x1, x2, some (.val (rowL r)), x4, x5, x6, x7, x8, x9, vI x, none], S⟩ = .ok (.bl false) ⟨[x0, x1, x2, some (.val (rowL r)), x4, x5, x6, x7, x8, x9, vI x, none], S⟩ := b_ (v_ rfl) c_ (by
        show some (D.bl (decide (x < 0))) = _
        rw [decide_eq_false a])
      refine (or_f t rfl).trans (b_ (v_ rfl) c_ ?_)
      show some (D.bl (decide (199 < x))) = _
      rw [show badB x = decide (199 < x) from decide_eq_decide.mpr (by omega)])
  refine c.trans ?_
  rw [List.map_id, List.filter_map]
  rfl
theorem row_len (S : Store) : lenS S (rowL r) = some (.int (r.length : Nat)) := by
  show some (D.int ((r.map D.int).length : Nat)) = _
  rw [List.length_map]
theorem gt40 {n : Nat} : gtD (.int (n : Nat)) (.int 40) = some (.bl (decide (40 < n))) := by
  show some (D.bl (decide ((40 : Int) < (n : Nat)))) = _
  rw [show decide ((40 : Int) < (n : Nat)) = decide (40 < n) from decide_eq_decide.mpr (by omega)]
/-- nothing is due yet -/
theorem step_none (hl : r.length ≤ 1000) : g__law_refused_6 ⟨zE x0 x1 x2 (some (.val (rowL r))) x4 x5 x6 x7 (some (.val (.tup []))) x9, S⟩ = .nx ⟨zE x0 x1 x2 (some (.val (rowL r))) x4 x5 x6 x7 (some (.val (oneD r))) (vL ((badL r).map D.int)), S⟩ := by
  have s9 : sSet 9 (eComp it__law_refused_2 (bNm 10) ct__law_refused_3 ce__law_refused_4 [10]) ⟨zE x0 x1 x2 (some (.val (rowL r))) x4 x5 x6 x7 (some (.val (.tup []))) x9, S⟩ = .nx ⟨zE x0 x1 x2 (some (.val (rowL r))) x4 x5 x6 x7 (some (.val (.tup []))) (vL ((badL r).map D.int)), S⟩ := set_ (bad_comp hl) rfl
  have q0 : eBs 3 eqD (eVar 8) (eTup []) ⟨zE x0 x1 x2 (some (.val (rowL r))) x4 x5 x6 x7 (some (.val (.tup []))) (vL ((badL r).map D.int)), S⟩ = .ok (.bl true) ⟨zE x0 x1 x2 (some (.val (rowL r))) x4 x5 x6 x7 (some (.val (.tup []))) (vL ((badL r).map D.int)), S⟩ :=
    bs_ (a := .tup []) (b := .tup []) (v_ rfl) rfl (eqT_nil (n := 0) (xs := []) (by simp) (by omega))
  have q1 : eB gtD (eLenS (eVar 3)) (eC (.int 40)) ⟨zE x0 x1 x2 (some (.val (rowL r))) x4 x5 x6 x7 (some (.val (.tup []))) (vL ((badL r).map D.int)), S⟩ = .ok (.bl (decide (40 < r.length))) ⟨zE x0 x1 x2 (some (.val (rowL r))) x4 x5 x6 x7 (some (.val (.tup []))) (vL ((badL r).map D.int)), S⟩ := b_ (ln_ (v_ rfl) (row_len S)) c_ gt40
  unfold g__law_refused_6
  by_cases h : 40 < r.length
  · rw [decide_eq_true h] at q1
    have e8 : sSet 8 (eTup [(eC (.str "size")), (eLenS (eVar 3)), (eC (.bl true))]) ⟨zE x0 x1 x2 (some (.val (rowL r))) x4 x5 x6 x7 (some (.val (.tup []))) (vL ((badL r).map D.int)), S⟩ = .nx ⟨zE x0 x1 x2 (some (.val (rowL r))) x4 x5 x6 x7 (some (.val (sizeD r.length))) (vL ((badL r).map D.int)), S⟩ := by
      have l := ln_ (f := eVar 3) (sl := zE x0 x1 x2 (some (.val (rowL r))) x4 x5 x6 x7 (some (.val (.tup []))) (vL ((badL r).map D.int))) (v_ rfl) (row_len S)
      have e : eTup [(eC (.str "size")), (eLenS (eVar 3)), (eC (.bl true))] ⟨zE x0 x1 x2 (some (.val (rowL r))) x4 x5 x6 x7 (some (.val (.tup []))) (vL ((badL r).map D.int)), S⟩ = .ok (sizeD r.length) ⟨zE x0 x1 x2 (some (.val (rowL r))) x4 x5 x6 x7 (some (.val (.tup []))) (vL ((badL r).map D.int)), S⟩ := by
        generalize ((r.length : Nat) : Int) = z at l
        simp only [eTup_ap, evl_cons, eC_ap, kA_ok, l, evl_nil, List.nil_append, List.cons_append]
        rfl
      exact set_ e rfl
    have q2 : eBs 3 eqD (eVar 8) (eTup []) ⟨zE x0 x1 x2 (some (.val (rowL r))) x4 x5 x6 x7 (some (.val (sizeD r.length))) (vL ((badL r).map D.int)), S⟩ = .ok (.bl false) ⟨zE x0 x1 x2 (some (.val (rowL r))) x4 x5 x6 x7 (some (.val (sizeD r.length))) (vL ((badL r).map D.int)), S⟩ :=
      bs_ (a := sizeD r.length) (b := .tup []) (v_ rfl) rfl (by rw [due_see ⟨_, .inl rfl⟩]; exact due_eq ⟨_, .inl rfl⟩)
    have o : oneD r = sizeD r.length := if_pos h
    rw [o]
    exact sq_ s9 (sq_ ((if_t ((and_t q0 rfl).trans q1) rfl).trans e8) ((if_f (and_f q2 rfl) rfl).trans nil_))
  · rw [decide_eq_false h] at q1
    have q3 : eBs 3 neD (eVar 9) (eLst []) ⟨zE x0 x1 x2 (some (.val (rowL r))) x4 x5 x6 x7 (some (.val (.tup []))) (vL ((badL r).map D.int)), S⟩ = .ok (.bl (!((badL r).map D.int).isEmpty)) ⟨zE x0 x1 x2 (some (.val (rowL r))) x4 x5 x6 x7 (some (.val (.tup []))) (vL ((badL r).map D.int)), S⟩ :=
      bs_ (a := .lst ((badL r).map D.int)) (b := .lst []) (v_ rfl) l0_ (by
        rw [seeD_l, seeD_l, seeD_ints]
        exact neD_nil (n := 0) (fun x hx => by
          obtain ⟨z, _, rfl⟩ := List.mem_map.mp hx
          exact .int z) (by omega))
    have o : oneD r = match badN r with | some x => numD x | none => .tup [] := if_neg h
    rw [o, badN_eq]
    cases e : badL r with
    | nil =>
      rw [e] at q3 s9 q1 q0
      exact sq_ s9 (sq_ ((if_f ((and_t q0 rfl).trans q1) rfl).trans nil_) ((if_f ((and_t q0 rfl).trans q3) rfl).trans nil_))
    | cons z zs =>
      rw [e] at q3 s9 q1 q0
      have e8 : sSet 8 (eTup [(eC (.str "number")), (eIxS (eVar 9) (eC (.int 0))), (eC (.bl true))]) ⟨zE x0 x1 x2 (some (.val (rowL r))) x4 x5 x6 x7 (some (.val (.tup []))) (vL ((z :: zs).map D.int)), S⟩ = .nx ⟨zE x0 x1 x2 (some (.val (rowL r))) x4 x5 x6 x7 (some (.val (numD z))) (vL ((z :: zs).map D.int)), S⟩ := by
        have l := ix_ (f := eVar 9) (g := eC (.int ((0 : Nat) : Int))) (sl := zE x0 x1 x2 (some (.val (rowL r))) x4 x5 x6 x7 (some (.val (.tup []))) (vL ((z :: zs).map D.int))) (S := S) (v_ rfl) c_ (ixl_ (i := 0) (d := .int z) rfl)
        have l' : eIxS (eVar 9) (eC (.int 0)) ⟨zE x0 x1 x2 (some (.val (rowL r))) x4 x5 x6 x7 (some (.val (.tup []))) (vL ((z :: zs).map D.int)), S⟩ = .ok (.int z) ⟨zE x0 x1 x2 (some (.val (rowL r))) x4 x5 x6 x7 (some (.val (.tup []))) (vL ((z :: zs).map D.int)), S⟩ := l
        have ee : eTup [(eC (.str "number")), (eIxS (eVar 9) (eC (.int 0))), (eC (.bl true))] ⟨zE x0 x1 x2 (some (.val (rowL r))) x4 x5 x6 x7 (some (.val (.tup []))) (vL ((z :: zs).map D.int)), S⟩ = .ok (numD z) ⟨zE x0 x1 x2 (some (.val (rowL r))) x4 x5 x6 x7 (some (.val (.tup []))) (vL ((z :: zs).map D.int)), S⟩ := by
          simp only [eTup_ap, evl_cons, eC_ap, kA_ok, l', evl_nil, List.nil_append, List.cons_append]
          rfl
        exact set_ ee rfl
      exact sq_ s9 (sq_ ((if_f ((and_t q0 rfl).trans q1) rfl).trans nil_) ((if_t ((and_t q0 rfl).trans q3) rfl).trans e8))
/-- something is due -/
theorem step_due {d : D} (hl : r.length ≤ 1000) (h : Due d) : g__law_refused_6 ⟨zE x0 x1 x2 (some (.val (rowL r))) x4 x5 x6 x7 (some (.val d)) x9, S⟩ = .nx ⟨zE x0 x1 x2 (some (.val (rowL r))) x4 x5 x6 x7 (some (.val d)) (vL ((badL r).map D.int)), S⟩ := by
  have s9 : sSet 9 (eComp it__law_refused_2 (bNm 10) ct__law_refused_3 ce__law_refused_4 [10]) ⟨zE x0 x1 x2 (some (.val (rowL r))) x4 x5 x6 x7 (some (.val d)) x9, S⟩ = .nx ⟨zE x0 x1 x2 (some (.val (rowL r))) x4 x5 x6 x7 (some (.val d)) (vL ((badL r).map D.int)), S⟩ := set_ (bad_comp hl) rfl
  have q2 : eBs 3 eqD (eVar 8) (eTup []) ⟨zE x0 x1 x2 (some (.val (rowL r))) x4 x5 x6 x7 (some (.val d)) (vL ((badL r).map D.int)), S⟩ = .ok (.bl false) ⟨zE x0 x1 x2 (some (.val (rowL r))) x4 x5 x6 x7 (some (.val d)) (vL ((badL r).map D.int)), S⟩ :=
    bs_ (a := d) (b := .tup []) (v_ rfl) rfl (by rw [due_see h]; exact due_eq h)
  unfold g__law_refused_6
  exact sq_ s9 (sq_ ((if_f (and_f q2 rfl) rfl).trans nil_) ((if_f (and_f q2 rfl) rfl).trans nil_))
end
theorem due_loop {x0 x1 x2 x4 x5 x6 x7 : Option Sl} {S : Store} {d : D} (h : Due d) : ∀ (rs : List (List Int)) (x3 x9 : Option Sl), (∀ r ∈ rs, r.length ≤ 1000) → ∃ y3 y9,
    loopS (bNm 3) g__law_refused_6 (rs.map rowL) ⟨zE x0 x1 x2 x3 x4 x5 x6 x7 (some (.val d)) x9, S⟩ = .nx ⟨zE x0 x1 x2 y3 x4 x5 x6 x7 (some (.val d)) y9, S⟩
  | [], x3, x9, _ => ⟨x3, x9, rfl⟩
  | r :: rs, x3, x9, hl => by
    obtain ⟨y3, y9, e⟩ := due_loop h rs (some (.val (rowL r))) (vL ((badL r).map D.int)) fun q m => hl q (List.mem_cons_of_mem _ m)
    exact ⟨y3, y9, lp_ rfl (step_due (hl r List.mem_cons_self) h) e⟩
theorem none_loop {x0 x1 x2 x4 x5 x6 x7 : Option Sl} {S : Store} : ∀ (rs : List (List Int)) (x3 x9 : Option Sl), (∀ r ∈ rs, r.length ≤ 1000) → ∃ y3 y9,
    loopS (bNm 3) g__law_refused_6 (rs.map rowL) ⟨zE x0 x1 x2 x3 x4 x5 x6 x7 (some (.val (.tup []))) x9, S⟩ = .nx ⟨zE x0 x1 x2 y3 x4 x5 x6 x7 (some (.val (dueR rs))) y9, S⟩
  | [], x3, x9, _ => ⟨x3, x9, rfl⟩
  | r :: rs, x3, x9, hl => by
    have st := step_none (x0 := x0) (x1 := x1) (x2 := x2) (x4 := x4) (x5 := x5) (x6 := x6) (x7 := x7) (x9 := x9) (S := S) (hl r List.mem_cons_self)
    have hl' : ∀ q ∈ rs, q.length ≤ 1000 := fun q m => hl q (List.mem_cons_of_mem _ m)
    unfold oneD at st
    unfold dueR
    by_cases h : 40 < r.length
    · rw [if_pos h] at st ⊢
      obtain ⟨y3, y9, e⟩ := due_loop (d := sizeD r.length) ⟨_, .inl rfl⟩ rs (some (.val (rowL r))) (vL ((badL r).map D.int)) hl'
      exact ⟨y3, y9, lp_ rfl st e⟩
    · rw [if_neg h] at st ⊢
      cases c : badN r with
      | some x =>
        rw [c] at st
        obtain ⟨y3, y9, e⟩ := due_loop (d := numD x) ⟨_, .inr rfl⟩ rs (some (.val (rowL r))) (vL ((badL r).map D.int)) hl'
        exact ⟨y3, y9, lp_ rfl st e⟩
      | none =>
        rw [c] at st
        obtain ⟨y3, y9, e⟩ := none_loop rs (some (.val (rowL r))) (vL ((badL r).map D.int)) hl'
        exact ⟨y3, y9, lp_ rfl st e⟩
end K52

/-! _law_refused: the end. -/
namespace K52
open PySem MB
theorem draw_ev2 {sl : List (Option Sl)} {B T : Store} {k : Nat} {f : EX} {many : Int} (hb : BoxAt B k) (h0 : 0 < many) (hd : many < 1073741824) (hs : sl[0]? = some (some (.val (.ce k)))) (hf : f ⟨sl, B ++ T⟩ = .ok (.int many) ⟨sl, B ++ T⟩) : ∃ z B', eFn m__law_draw [(eVar 0), f] ⟨sl, B ++ T⟩ = .ok (.int z) ⟨sl, B' ++ T⟩ ∧ Dr k B B' ∧ 0 ≤ z ∧ z < many := by
  obtain ⟨z, B', e, d, z0, z1⟩ := draw_app (T := T) hb h0 hd
  exact ⟨z, B', fn2_ (v_ hs) hf e, d, z0, z1⟩
theorem chs_tab {S : Store} {lim : Nat} {rows : List (List Int)} : Chs S lim (tabL rows) rows := by
  refine ⟨_, .inl rfl, List.length_map _, fun i it hi => ?_⟩
  rw [List.getElem?_map] at hi
  obtain ⟨r, h1, rfl⟩ := Option.map_eq_some_iff.mp hi
  have : row rows i = r := by
    unfold row
    rw [h1]
    rfl
  rw [this]
  exact .lst r
theorem told_size {W : List (List Int)} {S : Store} (hm : ∀ r ∈ W, r.length ≤ 1000) (h : 40 < W.length) : m__law_told [tabL W] S = .ok (sizeD W.length) S :=
  told_S (pairing_err (chs_tab (lim := 0)) (fun r m => by have := hm r m; omega) (by unfold allE; rw [if_pos h]))
theorem told_due {W : List (List Int)} {S : Store} (hm : ∀ r ∈ W, r.length ≤ 1000) (h : ¬ 40 < W.length) (bad : rowsE W ≠ none) : m__law_told [tabL W] S = .ok (dueR W) S ∧ Due (dueR W) := by
  have q := dueR_ok W
  cases e : rowsE W with
  | none => exact (bad e).elim
  | some x =>
    rw [e] at q
    have pe := fun y (hy : x = y) => pairing_err (S := S) (chs_tab (lim := 0)) (fun r m => by have := hm r m; omega) (show allE W = some y by unfold allE; rw [if_neg h, e, hy])
    obtain ⟨n, ⟨h1, h2⟩ | ⟨h1, h2⟩⟩ := q
    · rw [h2]
      exact ⟨told_S (pe _ h1), n, .inl rfl⟩
    · rw [h2]
      exact ⟨told_N (pe _ h1), n, .inr rfl⟩
theorem due_same {d : D} {S : Store} (h : Due d) : m__law_same 4 [d, d] S = .ok (.bl true) S := by
  obtain ⟨n, rfl | rfl⟩ := h
  · exact same_refl (size_dat.mono (by omega))
  · exact same_refl (num_dat.mono (by omega))
theorem tab_len {W : List (List Int)} {S : Store} : lenS S (tabL W) = some (.int (W.length : Nat)) := by
  show some (D.int ((W.map rowL).length : Nat)) = _
  rw [List.length_map]
noncomputable def tailS : SX := (sSeq (sIf (eB eqD (eFn m__law_draw [(eVar 0), (eC (.int 4))]) (eC (.int 0)))
  (sSet 2 (eBF true addF (eVar 2) (eComp it__law_refused_7 (bNm 11) (eC (.bl true)) ce__law_refused_8 [11]))) sNil)
  (sSeq (sIf (eB gtD (eLenS (eVar 2)) (eC (.int 40)))
  (sSet 8 (eTup [(eC (.str "size")), (eLenS (eVar 2)), (eC (.bl true))])) sNil)
  (sSeq (sFr 2) (sRet (eFn (m__law_same 4) [(eFn m__law_told [(eVar 2)]), (eVar 8)])))))
theorem tail_ok {k : Nat} {B T : Store} {x1 x3 x4 x5 x6 x7 x9 : Option Sl} {W : List (List Int)} (hb : BoxAt B k) (hl : W.length ≤ 40) (hm : ∀ r ∈ W, r.length ≤ 1000) (bad : rowsE W ≠ none) : ∃ (B' T' : Store) (sl : List (Option Sl)),
    tailS ⟨zE (vC k) x1 (some (.val (tabL W))) x3 x4 x5 x6 x7 (some (.val (dueR W))) x9, B ++ T⟩ = .rt (.bl true) ⟨sl, B' ++ T'⟩ ∧ Dr k B B' := by
  obtain ⟨z, B1, e1, d1, z0, z1⟩ := draw_c (sl := zE (vC k) x1 (some (.val (tabL W))) x3 x4 x5 x6 x7 (some (.val (dueR W))) x9) (T := T) (many := 4) hb (by omega) (by omega) rfl
  have t1 : eB eqD (eFn m__law_draw [(eVar 0), (eC (.int 4))]) (eC (.int 0)) ⟨zE (vC k) x1 (some (.val (tabL W))) x3 x4 x5 x6 x7 (some (.val (dueR W))) x9, B ++ T⟩ = .ok (.bl (decide (z = 0))) ⟨zE (vC k) x1 (some (.val (tabL W))) x3 x4 x5 x6 x7 (some (.val (dueR W))) x9, B1 ++ T⟩ := b_ e1 c_ eqD_i
  unfold tailS
  by_cases c : z = 0
  · rw [decide_eq_true c] at t1
    have V41 : (W ++ List.replicate (41 - W.length) [0]).length = 41 := by
      rw [List.length_append, List.length_replicate]
      omega
    have it : it__law_refused_7 ⟨zE (vC k) x1 (some (.val (tabL W))) x3 x4 x5 x6 x7 (some (.val (dueR W))) x9, B1 ++ T⟩ = .ok ((List.range (41 - W.length)).map fun j => D.int (j : Nat)) ⟨zE (vC k) x1 (some (.val (tabL W))) x3 x4 x5 x6 x7 (some (.val (dueR W))) x9, B1 ++ T⟩ := by
      refine ir1_ (by omega) (b_ c_ (ln_ (v_ rfl) tab_len) ?_)
      show some (D.int (41 - ((W.length : Nat) : Int))) = _
      congr 2
      omega
    have cc := eComp_map (b := bNm 11) (e := ce__law_refused_8) (vs := [11]) (g := fun _ => rowL [0]) it (by rw [List.length_map, List.length_range]; omega) (fun d hd => by
      exact ⟨⟨[vC k, x1, some (.val (tabL W)), x3, x4, x5, x6, x7, some (.val (dueR W)), x9, none, some (.val d)], B1 ++ T⟩, rfl, ⟨[vC k, x1, some (.val (tabL W)), x3, x4, x5, x6, x7, some (.val (dueR W)), x9, none, some (.val d)], B1 ++ T⟩, l1_ c_, rfl⟩)
    have cc2 : eComp it__law_refused_7 (bNm 11) (eC (.bl true)) ce__law_refused_8 [11] ⟨zE (vC k) x1 (some (.val (tabL W))) x3 x4 x5 x6 x7 (some (.val (dueR W))) x9, B1 ++ T⟩ = .ok (tabL (List.replicate (41 - W.length) [0])) ⟨zE (vC k) x1 (some (.val (tabL W))) x3 x4 x5 x6 x7 (some (.val (dueR W))) x9, B1 ++ T⟩ := by
      refine cc.trans ?_
      rw [List.map_const', List.length_map, List.length_range]
      unfold tabL
      rw [List.map_replicate]
      rfl
    have e2 := bf_c (op := addF) (f := eVar 2) (v_ rfl) cc2 (ds := (W ++ List.replicate (41 - W.length) [0]).map rowL) (by
      show addF (.lst (W.map rowL)) (.lst ((List.replicate (41 - W.length) [0]).map rowL)) = _
      rw [addF_l, if_pos (by unfold sizeLine; simp; omega), List.map_append])
    generalize hV : W ++ List.replicate (41 - W.length) [0] = V at V41 e2
    have hm2 : ∀ r ∈ V, r.length ≤ 1000 := fun r m => by
      rw [← hV] at m
      rcases List.mem_append.mp m with m | m
      · exact hm r m
      · rw [(List.mem_replicate.mp m).2]
        simp
    have s2 := (if_t (u := sSet 2 (eBF true addF (eVar 2) (eComp it__law_refused_7 (bNm 11) (eC (.bl true)) ce__law_refused_8 [11]))) (v := sNil) t1 rfl).trans (set_ e2 (sl2 := zE (vC k) x1 (vC (B1 ++ T).length) x3 x4 x5 x6 x7 (some (.val (dueR W))) x9) rfl)
    have lw : ((B1 ++ T) ++ [some (Cn.lst (V.map rowL))])[(B1 ++ T).length]? = some (some (.lst (V.map rowL))) := last_get rfl
    have ln := ln_ (f := eVar 2) (sl := zE (vC k) x1 (vC (B1 ++ T).length) x3 x4 x5 x6 x7 (some (.val (dueR W))) x9) (v_ rfl) (len_cell lw)
    rw [List.length_map, V41] at ln
    have t3 := b_ (op := gtD) ln (c_ (d := .int 40)) (z := .bl true) rfl
    have e8 : sSet 8 (eTup [(eC (.str "size")), (eLenS (eVar 2)), (eC (.bl true))]) ⟨zE (vC k) x1 (vC (B1 ++ T).length) x3 x4 x5 x6 x7 (some (.val (dueR W))) x9, (B1 ++ T) ++ [some (Cn.lst (V.map rowL))]⟩ = .nx ⟨zE (vC k) x1 (vC (B1 ++ T).length) x3 x4 x5 x6 x7 (some (.val (sizeD 41))) x9, (B1 ++ T) ++ [some (Cn.lst (V.map rowL))]⟩ := by
      have e : eTup [(eC (.str "size")), (eLenS (eVar 2)), (eC (.bl true))] ⟨zE (vC k) x1 (vC (B1 ++ T).length) x3 x4 x5 x6 x7 (some (.val (dueR W))) x9, (B1 ++ T) ++ [some (Cn.lst (V.map rowL))]⟩ = .ok (sizeD 41) ⟨zE (vC k) x1 (vC (B1 ++ T).length) x3 x4 x5 x6 x7 (some (.val (dueR W))) x9, (B1 ++ T) ++ [some (Cn.lst (V.map rowL))]⟩ := by
        simp only [eTup_ap, evl_cons, eC_ap, kA_ok, ln, evl_nil, List.nil_append, List.cons_append]
        rfl
      exact set_ e rfl
    have f : sFr 2 ⟨zE (vC k) x1 (vC (B1 ++ T).length) x3 x4 x5 x6 x7 (some (.val (sizeD 41))) x9, (B1 ++ T) ++ [some (Cn.lst (V.map rowL))]⟩ = .nx ⟨zE (vC k) x1 (some (.val (tabL V))) x3 x4 x5 x6 x7 (some (.val (sizeD 41))) x9, (B1 ++ T) ++ [none]⟩ := by
      refine (fr_c (k := (B1 ++ T).length) rfl lw rfl).trans ?_
      rw [last_set rfl]
      rfl
    have td := told_size (S := (B1 ++ T) ++ [none]) hm2 (by omega)
    rw [V41] at td
    have r := ret_ (fn2_ (m := m__law_same 4) (f := eFn m__law_told [(eVar 2)]) (g := eVar 8) (sl := zE (vC k) x1 (some (.val (tabL V))) x3 x4 x5 x6 x7 (some (.val (sizeD 41))) x9) (fn1_ (v_ rfl) td) (v_ rfl) (due_same ⟨_, .inl rfl⟩))
    refine ⟨B1, T ++ [none], zE (vC k) x1 (some (.val (tabL V))) x3 x4 x5 x6 x7 (some (.val (sizeD 41))) x9, ?_, d1⟩
    rw [← List.append_assoc]
    exact sq_ s2 (sq_ ((if_t t3 rfl).trans e8) (sq_ f r))
  · rw [decide_eq_false c] at t1
    have t3 : eB gtD (eLenS (eVar 2)) (eC (.int 40)) ⟨zE (vC k) x1 (some (.val (tabL W))) x3 x4 x5 x6 x7 (some (.val (dueR W))) x9, B1 ++ T⟩ = .ok (.bl false) ⟨zE (vC k) x1 (some (.val (tabL W))) x3 x4 x5 x6 x7 (some (.val (dueR W))) x9, B1 ++ T⟩ := b_ (ln_ (v_ rfl) tab_len) c_ (by
      rw [gt40, decide_eq_false (by omega)])
    obtain ⟨td, du⟩ := told_due (S := B1 ++ T) hm (by omega) bad
    have r := ret_ (fn2_ (m := m__law_same 4) (f := eFn m__law_told [(eVar 2)]) (g := eVar 8) (sl := zE (vC k) x1 (some (.val (tabL W))) x3 x4 x5 x6 x7 (some (.val (dueR W))) x9) (fn1_ (v_ rfl) td) (v_ rfl) (due_same du))
    exact ⟨B1, T, _, sq_ ((if_f t1 rfl).trans nil_) (sq_ ((if_f t3 rfl).trans nil_) (sq_ (fr_l rfl) r)), d1⟩
end K52

/-! _law_refused. -/
namespace K52
open PySem MB
theorem odd_list {sl : List (Option Sl)} {S : Store} {kk : Int} (h : sl[5]? = some (some (.val (.int kk)))) : eLst [(e1 negD (eC (.int 1))), (eC (.int 200)), (eBF false addF (eC (.int 200)) (eVar 5)), (e1 negD (eB powM (eC (.int 10)) (eC (.int 60)))), (eB powM (eC (.int 10)) (eC (.int 60)))] ⟨sl, S⟩ = .ok (.lst ([-1, 200, 200 + kk, -E60, E60].map D.int)) ⟨sl, S⟩ := by
  have a : e1 negD (eC (.int 1)) ⟨sl, S⟩ = .ok (.int (-1)) ⟨sl, S⟩ := by simp
  have b : eBF false addF (eC (.int 200)) (eVar 5) ⟨sl, S⟩ = .ok (.int (200 + kk)) ⟨sl, S⟩ := bf_ c_ (v_ h) rfl
  have c : eB powM (eC (.int 10)) (eC (.int 60)) ⟨sl, S⟩ = .ok (.int E60) ⟨sl, S⟩ := b_ c_ c_ pw60
  have d : e1 negD (eB powM (eC (.int 10)) (eC (.int 60))) ⟨sl, S⟩ = .ok (.int (-E60)) ⟨sl, S⟩ := by
    rw [e1_ap, c]
    rfl
  generalize E60 = z at c d
  simp only [eLst_ap, evl_cons, a, kA_ok, eC_ap, b, d, c, evl_nil, List.nil_append, List.cons_append]
  rfl
theorem odd_bad {kk z : Int} (hk : 0 ≤ kk) (h : z ∈ [-1, 200, 200 + kk, -E60, E60]) : z < 0 ∨ 199 < z := by
  have := E60_pos
  rw [E30_eq] at this
  simp only [List.mem_cons, List.not_mem_nil, or_false] at h
  rcases h with rfl | rfl | rfl | rfl | rfl <;> omega
def Bad (W : List (List Int)) : Prop := ∃ j, j < W.length ∧ ∃ x ∈ row W j, x < 0 ∨ 199 < x
theorem Bad.ne {W : List (List Int)} (h : Bad W) : rowsE W ≠ none := fun e => by
  obtain ⟨j, hj, x, hx, hb⟩ := h
  have hr : row W j ∈ W := by
    unfold row
    rw [List.getElem?_eq_getElem hj]
    exact List.getElem_mem hj
  have := (rowsE_none e _ hr).2 x hx
  omega
theorem Bad.ext {W : List (List Int)} {i : Nat} {e : List Int} (h : Bad W) (hi : i < W.length) : Bad (W.set i (row W i ++ e)) := by
  obtain ⟨j, hj, x, hx, hb⟩ := h
  refine ⟨j, by rw [List.length_set]; exact hj, x, ?_, hb⟩
  rw [row_set hi]
  by_cases c : i = j
  · rw [if_pos c, List.mem_append, c]
    exact .inl hx
  · rw [if_neg c]
    exact hx
theorem row_cell {S : Store} {c i : Nat} {W : List (List Int)} (h : S[c]? = some (some (.lst (W.map rowL)))) (hi : i < W.length) : ixS S (.ce c) (.int (i : Nat)) = some (.lst ((row W i).map D.int)) := ixc_ h (by
  rw [List.getElem?_map, List.getElem?_eq_getElem hi]
  unfold row
  rw [List.getElem?_eq_getElem hi]
  rfl)
theorem sevens {sl sl1 : List (Option Sl)} {S S1 : Store} : eBF false mulF (eLst [(eC (.int 7))]) (eC (.int 41)) ⟨sl, S⟩ = .ok (.lst ((List.replicate 41 (7 : Int)).map D.int)) ⟨sl, S⟩ := bf_l (l1_ c_) c_ (by
  rw [see1_l]
  rfl)
theorem refused_ok {k : Nat} {S : Store} {rows : List (List Int)} (hb : BoxAt S k) (hl : rows.length ≤ 10) (hr : ∀ r ∈ rows, r.length ≤ 100) : ∃ W', m__law_refused [.ce k, tabL rows] S = .ok (.bl true) W' ∧ Dr k S W' := by
  have it0 : it__law_refused_0 ⟨zE (vC k) (some (.val (tabL rows))) none none none none none none none none, S⟩ = .ok (rows.map rowL) ⟨zE (vC k) (some (.val (tabL rows))) none none none none none none none none, S⟩ := iv_ (v_ rfl) rfl
  have c0 := eComp_map (b := bNm 3) (e := ce__law_refused_1) (vs := [3]) (g := fun d => d) it0 (by rw [List.length_map]; omega) (fun d hd => by
    obtain ⟨r, mr, rfl⟩ := List.mem_map.mp hd
    exact ⟨⟨zE (vC k) (some (.val (tabL rows))) none (some (.val (rowL r))) none none none none none none, S⟩, rfl, ⟨zE (vC k) (some (.val (tabL rows))) none (some (.val (rowL r))) none none none none none none, S⟩, cf_l (v_ rfl) rfl, rfl⟩)
  have c1 : eComp it__law_refused_0 (bNm 3) (eC (.bl true)) ce__law_refused_1 [3] ⟨zE (vC k) (some (.val (tabL rows))) none none none none none none none none, S⟩ = .ok (tabL rows) ⟨zE (vC k) (some (.val (tabL rows))) none none none none none none none none, S⟩ := c0.trans (by
    rw [List.map_id']
    rfl)
  have l0 : eLst [(eLst [(eC (.int 0))])] ⟨zE (vC k) (some (.val (tabL rows))) none none none none none none none none, S⟩ = .ok (.lst [rowL [0]]) ⟨zE (vC k) (some (.val (tabL rows))) none none none none none none none none, S⟩ := l1_ (l1_ c_)
  have e2 := bf_c (op := addF) c1 l0 (ds := (rows ++ [[0]]).map rowL) (by
    show addF (.lst (rows.map rowL)) (.lst [rowL [0]]) = _
    rw [addF_l, if_pos (by unfold sizeLine; simp; omega), List.map_append]
    rfl)
  have s2 := set_ (i := 2) e2 (sl2 := zE (vC k) (some (.val (tabL rows))) (vC S.length) none none none none none none none) rfl
  have hW0 : ∀ r ∈ rows ++ [[0]], r.length ≤ 100 := fun r m => by
    rcases List.mem_append.mp m with m | m
    · exact hr r m
    · rw [List.mem_singleton.mp m]
      simp
  have lW0 : (rows ++ [[0]]).length = rows.length + 1 := by simp
  generalize rows ++ [[0]] = W0 at s2 hW0 lW0
  -- the draws
  have ln0 : ∀ {B : Store} {x4 x5 : Option Sl}, B.length = S.length → eLenS (eVar 2) ⟨zE (vC k) (some (.val (tabL rows))) (vC S.length) none x4 x5 none none none none, B ++ [some (Cn.lst (W0.map rowL))]⟩ = .ok (.int (W0.length : Nat)) ⟨zE (vC k) (some (.val (tabL rows))) (vC S.length) none x4 x5 none none none none, B ++ [some (Cn.lst (W0.map rowL))]⟩ := fun {B x4 x5} h =>
    ln_ (v_ rfl) ((len_cell (last_get h)).trans (by rw [List.length_map]))
  obtain ⟨i, B1, e4, d1, i0, i1⟩ := draw_ev2 (many := (W0.length : Nat)) hb (by omega) (by omega) rfl (ln0 (B := S) (x4 := none) (x5 := none) rfl)
  obtain ⟨i, rfl⟩ := int_pos i0
  have hi : i < W0.length := by omega
  have s4 := set_ (i := 4) e4 (sl2 := zE (vC k) (some (.val (tabL rows))) (vC S.length) none (vI (i : Nat)) none none none none none) rfl
  obtain ⟨j, B2, e5, d2, j0, j1⟩ := draw_ev2 (many := (W0.length : Nat)) d1.box (by omega) (by omega) rfl (ln0 (B := B1) (x4 := vI (i : Nat)) (x5 := none) d1.len)
  obtain ⟨j, rfl⟩ := int_pos j0
  have hj : j < W0.length := by omega
  have s5 := set_ (i := 5) e5 (sl2 := zE (vC k) (some (.val (tabL rows))) (vC S.length) none (vI (i : Nat)) (vI (j : Nat)) none none none none) rfl
  have ol := odd_list (sl := zE (vC k) (some (.val (tabL rows))) (vC S.length) none (vI (i : Nat)) (vI (j : Nat)) none none none none) (S := B2 ++ [some (Cn.lst (W0.map rowL))]) (kk := (j : Nat)) rfl
  obtain ⟨o, B3, e6, d3, o0, o1⟩ := draw_c (sl := zE (vC k) (some (.val (tabL rows))) (vC S.length) none (vI (i : Nat)) (vI (j : Nat)) none none none none) (T := [some (Cn.lst (W0.map rowL))]) (many := 5) d2.box (by omega) (by omega) rfl
  obtain ⟨od, hod, xod⟩ := at_list (l := [-1, 200, 200 + ((j : Nat) : Int), -E60, E60].map D.int) (S := B3 ++ [some (Cn.lst (W0.map rowL))]) o0 (by rw [List.length_map]; exact o1)
  obtain ⟨odd, hodd, rfl⟩ := List.mem_map.mp hod
  have bad := odd_bad (Int.natCast_nonneg j) hodd
  have s6 := set_ (i := 6) (ix_ ol e6 xod) (sl2 := zE (vC k) (some (.val (tabL rows))) (vC S.length) none (vI (i : Nat)) (vI (j : Nat)) (vI odd) none none none) rfl
  clear ol e6 xod hod hodd
  have l3 : B3.length = S.length := ((d1.trans d2).trans d3).len
  have ri : ∀ {B : Store} {x7 x8 : Option Sl}, B.length = S.length → eIxS (eVar 2) (eVar 4) ⟨zE (vC k) (some (.val (tabL rows))) (vC S.length) none (vI (i : Nat)) (vI (j : Nat)) (vI odd) x7 x8 none, B ++ [some (Cn.lst (W0.map rowL))]⟩ = .ok (.lst ((row W0 i).map D.int)) ⟨zE (vC k) (some (.val (tabL rows))) (vC S.length) none (vI (i : Nat)) (vI (j : Nat)) (vI odd) x7 x8 none, B ++ [some (Cn.lst (W0.map rowL))]⟩ := fun {B x7 x8} h =>
    ix_ (v_ rfl) (v_ rfl) (row_cell (last_get h) hi)
  have rl : (row W0 i).length ≤ 100 := row_of (p := fun r => r.length ≤ 100) hW0 (by simp) i
  have la : eBF false addF (eLenS (eIxS (eVar 2) (eVar 4))) (eC (.int 1)) ⟨zE (vC k) (some (.val (tabL rows))) (vC S.length) none (vI (i : Nat)) (vI (j : Nat)) (vI odd) none none none, B3 ++ [some (Cn.lst (W0.map rowL))]⟩ = .ok (.int (((row W0 i).length + 1 : Nat) : Int)) ⟨zE (vC k) (some (.val (tabL rows))) (vC S.length) none (vI (i : Nat)) (vI (j : Nat)) (vI odd) none none none, B3 ++ [some (Cn.lst (W0.map rowL))]⟩ :=
    bf_ (ln_ (ri l3) (row_len _)) c_ (by simp)
  obtain ⟨a, B4, e7, d4, a0, a1⟩ := draw_ev2 d3.box (by omega) (by omega) rfl la
  obtain ⟨a, rfl⟩ := int_pos a0
  have s7 := set_ (i := 7) e7 (sl2 := zE (vC k) (some (.val (tabL rows))) (vC S.length) none (vI (i : Nat)) (vI (j : Nat)) (vI odd) (vI (a : Nat)) none none) rfl
  have l4 : B4.length = S.length := d4.len.trans l3
  have sp := splice (fb := eIxS (eVar 2) (eVar 4)) (fa := eVar 7) (fx := eVar 6) (sl := zE (vC k) (some (.val (tabL rows))) (vC S.length) none (vI (i : Nat)) (vI (j : Nat)) (vI odd) (vI (a : Nat)) none none) (ri l4) (v_ rfl) (v_ rfl) (by omega)
  have s8 := put_ (f := eVar 2) (h := eVar 4) sp (v_ rfl) (v_ rfl) (putc_ (last_get l4) (i := i) (by rw [List.length_map]; exact hi))
  rw [last_set l4, show D.lst (((row W0 i).take a ++ odd :: (row W0 i).drop a).map D.int) = rowL ((row W0 i).take a ++ odd :: (row W0 i).drop a) from rfl, ← List.map_set] at s8
  have B0 : Bad (W0.set i ((row W0 i).take a ++ odd :: (row W0 i).drop a)) := ⟨i, by rw [List.length_set]; exact hi, odd, by rw [row_set hi, if_pos rfl]; simp, bad⟩
  have hW1 : ∀ r ∈ W0.set i ((row W0 i).take a ++ odd :: (row W0 i).drop a), r.length ≤ 101 := fun r m => by
    rcases List.mem_or_eq_of_mem_set m with m | rfl
    · have := hW0 r m
      omega
    · rw [splice_len]
      omega
  have lW1 : (W0.set i ((row W0 i).take a ++ odd :: (row W0 i).drop a)).length = W0.length := List.length_set
  generalize W0.set i ((row W0 i).take a ++ odd :: (row W0 i).drop a) = W1 at s8 B0 hW1 lW1
  have d14 := ((d1.trans d2).trans d3).trans d4
  obtain ⟨c, B5, e9, d5, c0', c1'⟩ := draw_c (sl := zE (vC k) (some (.val (tabL rows))) (vC S.length) none (vI (i : Nat)) (vI (j : Nat)) (vI odd) (vI (a : Nat)) none none) (T := [some (Cn.lst (W1.map rowL))]) (many := 2) d4.box (by omega) (by omega) rfl
  have t9 : eB eqD (eFn m__law_draw [(eVar 0), (eC (.int 2))]) (eC (.int 1)) ⟨zE (vC k) (some (.val (tabL rows))) (vC S.length) none (vI (i : Nat)) (vI (j : Nat)) (vI odd) (vI (a : Nat)) none none, B4 ++ [some (Cn.lst (W1.map rowL))]⟩ = .ok (.bl (decide (c = 1))) ⟨zE (vC k) (some (.val (tabL rows))) (vC S.length) none (vI (i : Nat)) (vI (j : Nat)) (vI odd) (vI (a : Nat)) none none, B5 ++ [some (Cn.lst (W1.map rowL))]⟩ := b_ e9 c_ eqD_i
  have l5 : B5.length = S.length := d5.len.trans l4
  have s9 : ∃ W2 : List (List Int), sIf (eB eqD (eFn m__law_draw [(eVar 0), (eC (.int 2))]) (eC (.int 1))) (sPutS (eVar 2) (eVar 5) (eBF false addF (eIxS (eVar 2) (eVar 5)) (eBF false mulF (eLst [(eC (.int 7))]) (eC (.int 41))))) sNil ⟨zE (vC k) (some (.val (tabL rows))) (vC S.length) none (vI (i : Nat)) (vI (j : Nat)) (vI odd) (vI (a : Nat)) none none, B4 ++ [some (Cn.lst (W1.map rowL))]⟩
      = .nx ⟨zE (vC k) (some (.val (tabL rows))) (vC S.length) none (vI (i : Nat)) (vI (j : Nat)) (vI odd) (vI (a : Nat)) none none, B5 ++ [some (Cn.lst (W2.map rowL))]⟩ ∧ Bad W2 ∧ W2.length = W1.length ∧ ∀ r ∈ W2, r.length ≤ 1000 := by
    by_cases q : c = 1
    · rw [decide_eq_true q] at t9
      have hj1 : j < W1.length := by omega
      refine ⟨W1.set j (row W1 j ++ List.replicate 41 (7 : Int)), ?_, B0.ext hj1, List.length_set, fun r m => ?_⟩
      · have rj := ix_ (f := eVar 2) (g := eVar 5) (sl := zE (vC k) (some (.val (tabL rows))) (vC S.length) none (vI (i : Nat)) (vI (j : Nat)) (vI odd) (vI (a : Nat)) none none) (S := B5 ++ [some (Cn.lst (W1.map rowL))]) (v_ rfl) (v_ rfl) (row_cell (last_get l5) hj1)
        have ad := bf_l (op := addF) rj (sevens (sl1 := []) (S1 := [])) (ds := (row W1 j ++ List.replicate 41 (7 : Int)).map D.int) (by
          have : (row W1 j).length ≤ 101 := row_of (p := fun r => r.length ≤ 101) hW1 (by simp) j
          rw [see1_l, see1_l, addF_l, if_pos (by unfold sizeLine; rw [List.length_map, List.length_map, List.length_replicate]; omega), List.map_append])
        have pt := put_ (f := eVar 2) (h := eVar 5) ad (v_ rfl) (v_ rfl) (putc_ (last_get l5) (i := j) (by rw [List.length_map]; exact hj1))
        rw [last_set l5, show D.lst ((row W1 j ++ List.replicate 41 (7 : Int)).map D.int) = rowL (row W1 j ++ List.replicate 41 (7 : Int)) from rfl, ← List.map_set] at pt
        exact (if_t t9 rfl).trans pt
      · rcases List.mem_or_eq_of_mem_set m with m | rfl
        · have := hW1 r m
          omega
        · have : (row W1 j).length ≤ 101 := row_of (p := fun r => r.length ≤ 101) hW1 (by simp) j
          rw [List.length_append, List.length_replicate]
          omega
    · rw [decide_eq_false q] at t9
      exact ⟨W1, (if_f t9 rfl).trans nil_, B0, rfl, fun r m => by have := hW1 r m; omega⟩
  obtain ⟨W2, s9, Bd, lW2, hW2⟩ := s9
  have s10 : sSet 8 (eTup []) ⟨zE (vC k) (some (.val (tabL rows))) (vC S.length) none (vI (i : Nat)) (vI (j : Nat)) (vI odd) (vI (a : Nat)) none none, B5 ++ [some (Cn.lst (W2.map rowL))]⟩ = .nx ⟨zE (vC k) (some (.val (tabL rows))) (vC S.length) none (vI (i : Nat)) (vI (j : Nat)) (vI odd) (vI (a : Nat)) (some (.val (.tup []))) none, B5 ++ [some (Cn.lst (W2.map rowL))]⟩ := rfl
  have s11 : sFr 2 ⟨zE (vC k) (some (.val (tabL rows))) (vC S.length) none (vI (i : Nat)) (vI (j : Nat)) (vI odd) (vI (a : Nat)) (some (.val (.tup []))) none, B5 ++ [some (Cn.lst (W2.map rowL))]⟩ = .nx ⟨zE (vC k) (some (.val (tabL rows))) (some (.val (tabL W2))) none (vI (i : Nat)) (vI (j : Nat)) (vI odd) (vI (a : Nat)) (some (.val (.tup []))) none, B5 ++ [none]⟩ := by
    refine (fr_c (k := S.length) rfl (last_get l5) rfl).trans ?_
    rw [last_set l5]
    rfl
  have it5 : it__law_refused_5 ⟨zE (vC k) (some (.val (tabL rows))) (some (.val (tabL W2))) none (vI (i : Nat)) (vI (j : Nat)) (vI odd) (vI (a : Nat)) (some (.val (.tup []))) none, B5 ++ [none]⟩ = .ok (W2.map rowL) ⟨zE (vC k) (some (.val (tabL rows))) (some (.val (tabL W2))) none (vI (i : Nat)) (vI (j : Nat)) (vI odd) (vI (a : Nat)) (some (.val (.tup []))) none, B5 ++ [none]⟩ := iv_ (v_ rfl) rfl
  obtain ⟨y3, y9, lp⟩ := none_loop (x0 := vC k) (x1 := some (.val (tabL rows))) (x2 := some (.val (tabL W2))) (x4 := vI (i : Nat)) (x5 := vI (j : Nat)) (x6 := vI odd) (x7 := vI (a : Nat)) (S := B5 ++ [none]) W2 none none hW2
  obtain ⟨B6, T6, sl, tl, d6⟩ := tail_ok (T := [none]) (x1 := some (.val (tabL rows))) (x3 := y3) (x4 := vI (i : Nat)) (x5 := vI (j : Nat)) (x6 := vI odd) (x7 := vI (a : Nat)) (x9 := y9) d5.box (W := W2) (by omega) hW2 Bd.ne
  unfold tailS at tl
  have d := (d14.trans d5).trans d6
  refine ⟨B6, d.fin (T := T6) ?_ (by simp), d⟩
  show endR (b__law_refused ⟨zE (vC k) (some (.val (tabL rows))) none none none none none none none none, S⟩) = _
  unfold b__law_refused
  rw [sq_ s2 (sq_ s4 (sq_ s5 (sq_ s6 (sq_ s7 (sq_ s8 (sq_ s9 (sq_ s10 (sq_ (sq_ s11 (for_ it5 lp)) tl))))))))]
  rfl
end K52

/-! The law's constants. -/
namespace K52
open PySem MB
theorem badN_none : ∀ {r : List Int}, Names r → badN r = none
  | [], _ => rfl
  | x :: r, h => by
    have := h x List.mem_cons_self
    unfold badN
    rw [if_neg (by omega)]
    exact badN_none fun y m => h y (List.mem_cons_of_mem _ m)
theorem rowsE_of : ∀ {rows : List (List Int)}, (∀ r ∈ rows, r.length ≤ 40 ∧ Names r) → rowsE rows = none
  | [], _ => rfl
  | r :: rs, h => by
    have := h r List.mem_cons_self
    unfold rowsE
    rw [if_neg (by omega), badN_none this.2]
    exact rowsE_of fun q m => h q (List.mem_cons_of_mem _ m)
theorem allE_of {rows : List (List Int)} (hl : rows.length ≤ 40) (h : ∀ r ∈ rows, r.length ≤ 40 ∧ Names r) : allE rows = none := by
  unfold allE
  rw [if_neg (by omega)]
  exact rowsE_of h
theorem some_ans {rows : List (List Int)} (h : allE rows = none) : (∃ ch, Pairs rows ch) ∨ ∃ T, Room rows T := by
  obtain ⟨d, _, A⟩ := pairing_ok (S := []) (lim := 0) (chs_tab (rows := rows)) (Nat.le_refl _) h
  rcases A with ⟨ch, _, P⟩ | ⟨T, _, R⟩
  · exact .inl ⟨ch, P⟩
  · exact .inr ⟨T, R⟩
def rowK (k : Nat) : List Int := (List.replicate 13 [((k : Nat) : Int), 199, 0]).flatten ++ [((k : Nat) : Int)]
def full : List (List Int) := List.replicate 2 (List.replicate 40 199) ++ (List.range 38).map rowK
def full2 : List (List Int) := (full.drop 1).take 1 ++ full.drop 3
def okB (rows : List (List Int)) : Bool := decide (rows.length ≤ 40) && rows.all fun r => decide (r.length ≤ 40) && r.all fun x => decide (0 ≤ x) && decide (x ≤ 199)
theorem okB_ok {rows : List (List Int)} (h : okB rows = true) : allE rows = none := by
  unfold okB at h
  simp only [Bool.and_eq_true, decide_eq_true_eq, List.all_eq_true] at h
  exact allE_of h.1 fun r m => ⟨(h.2 r m).1, fun x hx => (h.2 r m).2 x hx⟩
theorem full_ok : allE full = none := okB_ok (by decide +kernel)
theorem full2_ok : allE full2 = none := okB_ok (by decide +kernel)
theorem full_room : ∃ T, Room full T := by
  refine ⟨[0, 1], by decide, by decide, fun i m => ?_, [199], by decide, fun i m x hx => ?_⟩
  · simp only [List.mem_cons, List.not_mem_nil, or_false] at m
    have : full.length = 40 := by decide +kernel
    omega
  · have q : ((row full 0).all fun x => decide (x ∈ [(199 : Int)])) = true ∧ ((row full 1).all fun x => decide (x ∈ [(199 : Int)])) = true := by decide +kernel
    simp only [List.mem_cons, List.not_mem_nil, or_false] at m
    rcases m with rfl | rfl
    · exact of_decide_eq_true (List.all_eq_true.mp q.1 x hx)
    · exact of_decide_eq_true (List.all_eq_true.mp q.2 x hx)
def chF : List Int := 199 :: (List.range' 1 37).map fun k => ((k : Nat) : Int)
theorem full2_pairs : ∃ ch, Pairs full2 ch := by
  have l : full2.length = 38 := by decide +kernel
  refine ⟨chF, by decide +kernel, by decide +kernel, fun i hi => ?_⟩
  have q : ((List.range 38).all fun i => match chF[i]? with
    | some x => decide (x ∈ row full2 i)
    | none => false) = true := by decide +kernel
  have q2 := List.all_eq_true.mp q i (List.mem_range.mpr (by omega))
  cases e : chF[i]? with
  | none => rw [e] at q2; cases q2
  | some x =>
    rw [e] at q2
    exact ⟨x, rfl, of_decide_eq_true q2⟩
theorem nil_pairs : ∃ ch, Pairs [] ch := ⟨[], rfl, List.nodup_nil, fun i h => absurd h (Nat.not_lt_zero i)⟩
theorem one_room : ∃ T, Room [[]] T := ⟨[0], by decide, by decide, by decide, [], by decide, fun i m x hx => by
  have : i = 0 := by simpa using m
  subst this
  simp [row] at hx⟩
abbrev lE (x0 x1 x2 x3 x4 x5 x6 x7 x8 : Option Sl) : List (Option Sl) := [x0, x1, x2, x3, x4, x5, x6, x7, x8, none]
theorem full_ev {x0 x1 x2 x3 x4 x5 x6 x7 x8 : Option Sl} {S : Store} : eBF false addF (eComp it_law_0 (bNm 9) (eC (.bl true)) ce_law_1 [9]) (eComp it_law_2 (bNm 9) (eC (.bl true)) ce_law_3 [9]) ⟨lE x0 x1 x2 x3 x4 x5 x6 x7 x8, S⟩ = .ok (tabL full) ⟨lE x0 x1 x2 x3 x4 x5 x6 x7 x8, S⟩ := by
  have it0 : it_law_0 ⟨lE x0 x1 x2 x3 x4 x5 x6 x7 x8, S⟩ = .ok ((List.range 2).map fun j => D.int (j : Nat)) ⟨lE x0 x1 x2 x3 x4 x5 x6 x7 x8, S⟩ := ir1_ (k := 2) (by omega) c_
  have c0 := eComp_map (b := bNm 9) (e := ce_law_1) (vs := [9]) (g := fun _ => rowL (List.replicate 40 199)) it0 (by simp) (fun d hd => by
    refine ⟨⟨[x0, x1, x2, x3, x4, x5, x6, x7, x8, some (.val d)], S⟩, rfl, ⟨[x0, x1, x2, x3, x4, x5, x6, x7, x8, some (.val d)], S⟩, ?_, rfl⟩
    exact bf_l (l1_ c_) c_ (by
      rw [see1_l]
      rfl))
  have it2 : it_law_2 ⟨lE x0 x1 x2 x3 x4 x5 x6 x7 x8, S⟩ = .ok ((List.range 38).map fun j => D.int (j : Nat)) ⟨lE x0 x1 x2 x3 x4 x5 x6 x7 x8, S⟩ := ir1_ (k := 38) (by omega) c_
  have c2 := eComp_map (b := bNm 9) (e := ce_law_3) (vs := [9]) (g := fun d => match d with | .int z => rowL (rowK z.toNat) | d => d) it2 (by simp) (fun d hd => by
    obtain ⟨k, _, rfl⟩ := List.mem_map.mp hd
    refine ⟨⟨[x0, x1, x2, x3, x4, x5, x6, x7, x8, vI (k : Nat)], S⟩, rfl, ⟨[x0, x1, x2, x3, x4, x5, x6, x7, x8, vI (k : Nat)], S⟩, ?_, rfl⟩
    unfold ce_law_3
    have a := bf_l (op := mulF) (l3_ (v_ (i := 9) (sl := [x0, x1, x2, x3, x4, x5, x6, x7, x8, vI (k : Nat)]) (S := S) (d := .int (k : Nat)) rfl) (c_ (d := .int 199)) (c_ (d := .int 0))) (c_ (d := .int 13)) (ds := ((List.replicate 13 [((k : Nat) : Int), 199, 0]).flatten).map D.int) (by
      rw [see1_l]
      rfl)
    exact bf_l a (l1_ (v_ rfl)) (ds := (rowK k).map D.int) (by
      rw [see1_l, see1_l, addF_l, if_pos (by simp [sizeLine])]
      unfold rowK
      rw [List.map_append]
      rfl))
  refine bf_l (c0.trans rfl) (c2.trans rfl) ?_
  rw [see1_l, see1_l, addF_l, if_pos (by simp [sizeLine])]
  unfold full
  rw [List.map_append, List.map_map, List.map_map, List.map_map]
  rfl
end K52

/-! The law. -/
namespace K52
open PySem MB
theorem draw1 {sl : List (Option Sl)} {B : Store} {k : Nat} {many : Int} (hb : BoxAt B k) (h0 : 0 < many) (hd : many < 1073741824) (hs : sl[1]? = some (some (.val (.ce k)))) : ∃ z B', eFn m__law_draw [(eVar 1), (eC (.int many))] ⟨sl, B⟩ = .ok (.int z) ⟨sl, B'⟩ ∧ Dr k B B' ∧ 0 ≤ z ∧ z < many := draw_i (i := 1) hb h0 hd hs
theorem ask_ {sl : List (Option Sl)} {S : Store} {f g h : EX} {rows : List (List Int)} {room tup : Bool} (e1 : f ⟨sl, S⟩ = .ok (tabL rows) ⟨sl, S⟩) (e2 : g ⟨sl, S⟩ = .ok (.bl room) ⟨sl, S⟩) (e3 : h ⟨sl, S⟩ = .ok (.bl tup) ⟨sl, S⟩)
    (h1 : room = false → ∃ ch, Pairs rows ch) (h2 : room = true → ∃ T, Room rows T) (ha : allE rows = none) : eFn m__law_asked [f, g, h] ⟨sl, S⟩ = .ok (.bl true) ⟨sl, S⟩ := fn3_ e1 e2 e3 (asked_ok h1 h2 ha)
theorem two_ {sl : List (Option Sl)} {S : Store} {f g : EX} {u : SX} (e1 : f ⟨sl, S⟩ = .ok (.bl true) ⟨sl, S⟩) (e2 : g ⟨sl, S⟩ = .ok (.bl true) ⟨sl, S⟩) : sIf (eOr (eNot f) (eNot g)) u sNil ⟨sl, S⟩ = .nx ⟨sl, S⟩ :=
  (if_f ((or_f (not_ e1 rfl) rfl).trans (not_ e2 rfl)) rfl).trans nil_
theorem min5 (L : Nat) : ∃ m2 : Nat, minD [.int ((L : Nat) : Int), .int 5] = some (.int (m2 : Nat)) ∧ m2 ≤ 5 := by
  by_cases c : (5 : Int) < ((L : Nat) : Int)
  · exact ⟨5, by rw [min_ok, if_pos c]; rfl, by omega⟩
  · exact ⟨L, by rw [min_ok, if_neg c], by omega⟩
theorem sub1 {n : Nat} (h : 0 < n) : subD (.int ((n : Nat) : Int)) (.int 1) = some (.int ((n - 1 : Nat) : Int)) := by
  show some (D.int (((n : Nat) : Int) - 1)) = _
  rw [show ((n : Nat) : Int) - 1 = ((n - 1 : Nat) : Int) by omega]
theorem law_true {ns : List Int} (hn : ns.length ≤ 63) : ∃ S, m_law [.scr ns] [] = .ok (.bl true) S := by
  obtain ⟨cs, e1, bx⟩ := pool_spec (S := []) hn
  have b0 : BoxAt [some (.lst cs)] 0 := ⟨cs, rfl, bx⟩
  have s1 : sSet 1 (eFn m__law_pool [(eVar 0)]) ⟨lE (some (.val (.scr ns))) none none none none none none none none, []⟩ = .nx ⟨lE (some (.val (.scr ns))) (vC 0) none none none none none none none, [some (.lst cs)]⟩ := set_ (fn1_ (v_ rfl) e1) rfl
  generalize [some (Cn.lst cs)] = A0 at b0 s1
  obtain ⟨t, A1, f1, d1, _, _⟩ := draw1 (sl := lE (some (.val (.scr ns))) (vC 0) none none none none none none none) (many := 2) b0 (by omega) (by omega) rfl
  have s2 := set_ (i := 2) (b_ (op := eqD) (z := .bl (decide (t = 1))) f1 (c_ (d := .int 1)) eqD_i) (sl2 := lE (some (.val (.scr ns))) (vC 0) (some (.val (.bl (decide (t = 1))))) none none none none none none) rfl
  generalize decide (t = 1) = tup at s2
  obtain ⟨small, A2, f2, d2, sl10, sp⟩ := small_spec d1.box
  have s3 : sSet 3 (eFn m__law_small [(eVar 1)]) ⟨lE (some (.val (.scr ns))) (vC 0) (some (.val (.bl tup))) none none none none none none, A1⟩ = .nx ⟨lE (some (.val (.scr ns))) (vC 0) (some (.val (.bl tup))) (some (.val (tabL small))) none none none none none, A2⟩ := set_ (fn1_ (v_ rfl) f2) rfl
  obtain ⟨m, A3, f3, d3, m0, m1⟩ := draw1 (sl := lE (some (.val (.scr ns))) (vC 0) (some (.val (.bl tup))) (some (.val (tabL small))) none none none none none) (many := 6) d2.box (by omega) (by omega) rfl
  have s4 := set_ (i := 4) (bf_ (op := addF) (mm := false) (z := .int (3 + m)) (c_ (d := .int 3)) f3 rfl) (sl2 := lE (some (.val (.scr ns))) (vC 0) (some (.val (.bl tup))) (some (.val (tabL small))) (vI (3 + m)) none none none none) rfl
  obtain ⟨q, A4, f4, d4, q0, q1⟩ := draw1 (sl := lE (some (.val (.scr ns))) (vC 0) (some (.val (.bl tup))) (some (.val (tabL small))) (vI (3 + m)) none none none none) (many := 4) d3.box (by omega) (by omega) rfl
  have t4 := b_ (op := eqD) (z := .bl (decide (q = 3))) f4 (c_ (d := .int 3)) eqD_i
  have ⟨many, A5, s5, d5, mlo, mhi⟩ : ∃ (many : Nat) (A5 : Store), sIf (eB eqD (eFn m__law_draw [(eVar 1), (eC (.int 4))]) (eC (.int 3))) (sSet 4 (eBF false addF (eC (.int 20)) (eFn m__law_draw [(eVar 1), (eC (.int 21))]))) sNil ⟨lE (some (.val (.scr ns))) (vC 0) (some (.val (.bl tup))) (some (.val (tabL small))) (vI (3 + m)) none none none none, A3⟩
      = .nx ⟨lE (some (.val (.scr ns))) (vC 0) (some (.val (.bl tup))) (some (.val (tabL small))) (vI (many : Nat)) none none none none, A5⟩ ∧ Dr 0 A3 A5 ∧ 3 ≤ many ∧ many ≤ 40 := by
    by_cases c : q = 3
    · rw [decide_eq_true c] at t4
      obtain ⟨w, A5, f5, d5, w0, w1⟩ := draw1 (sl := lE (some (.val (.scr ns))) (vC 0) (some (.val (.bl tup))) (some (.val (tabL small))) (vI (3 + m)) none none none none) (many := 21) d4.box (by omega) (by omega) rfl
      obtain ⟨w, rfl⟩ := int_pos w0
      refine ⟨20 + w, A5, (if_t t4 rfl).trans (set_ (bf_ (z := .int ((20 + w : Nat) : Int)) c_ f5 ?_) rfl), d4.trans d5, by omega, by omega⟩
      rw [see1_i, see1_i, addF_i]
      simp
    · rw [decide_eq_false c] at t4
      obtain ⟨m, rfl⟩ := int_pos m0
      refine ⟨3 + m, A4, ((if_f t4 rfl).trans nil_).trans ?_, d4, by omega, by omega⟩
      rw [show (3 : Int) + ((m : Nat) : Int) = ((3 + m : Nat) : Int) by omega]
  obtain ⟨paired, A6, f6, d6, lp, pp, hp⟩ := paired_spec (many := many) d5.box (by omega)
  have s6 : sSet 5 (eFn m__law_paired [(eVar 1), (eVar 4)]) ⟨lE (some (.val (.scr ns))) (vC 0) (some (.val (.bl tup))) (some (.val (tabL small))) (vI (many : Nat)) none none none none, A5⟩ = .nx ⟨lE (some (.val (.scr ns))) (vC 0) (some (.val (.bl tup))) (some (.val (tabL small))) (vI (many : Nat)) (some (.val (tabL paired))) none none none, A6⟩ := set_ (fn2_ (v_ rfl) (v_ rfl) f6) rfl
  obtain ⟨roomed, A7, f7, d7, lr, pr, hr⟩ := roomed_spec (rows := paired) d6.box (by omega) (by omega) pp
  have s7 : sSet 6 (eFn m__law_roomed [(eVar 1), (eVar 5)]) ⟨lE (some (.val (.scr ns))) (vC 0) (some (.val (.bl tup))) (some (.val (tabL small))) (vI (many : Nat)) (some (.val (tabL paired))) none none none, A6⟩ = .nx ⟨lE (some (.val (.scr ns))) (vC 0) (some (.val (.bl tup))) (some (.val (tabL small))) (vI (many : Nat)) (some (.val (tabL paired))) (some (.val (tabL roomed))) none none, A7⟩ := set_ (fn2_ (v_ rfl) (v_ rfl) f7) rfl
  have sm : Small small := fun r hr x hx => (sp r hr).2 x hx
  have as : allE small = none := allE_of (by omega) fun r m => ⟨by have := (sp r m).1; omega, fun x hx => by have := (sp r m).2 x hx; omega⟩
  have ap : allE paired = none := allE_of (by omega) fun r m => ⟨by have := (pp r m).1; omega, (pp r m).2⟩
  have ar : allE roomed = none := allE_of (by omega) fun r m => ⟨by have := (pr r m).1; omega, (pr r m).2⟩
  obtain ⟨room, f8, hroom⟩ := has_room (S := A7) sm (by omega)
  have s8 : sSet 7 (eFn m__law_has_room [(eVar 3)]) ⟨lE (some (.val (.scr ns))) (vC 0) (some (.val (.bl tup))) (some (.val (tabL small))) (vI (many : Nat)) (some (.val (tabL paired))) (some (.val (tabL roomed))) none none, A7⟩ = .nx ⟨lE (some (.val (.scr ns))) (vC 0) (some (.val (.bl tup))) (some (.val (tabL small))) (vI (many : Nat)) (some (.val (tabL paired))) (some (.val (tabL roomed))) (some (.val (.bl room))) none, A7⟩ := set_ (fn1_ (v_ rfl) f8) rfl
  have r1 : room = false → ∃ ch, Pairs small ch := fun e => by
    rcases some_ans as with h | h
    · exact h
    · have := hroom.mpr h
      rw [e] at this
      cases this
  have r2 : room = true → ∃ T, Room small T := hroom.mp
  have s9 : sIf (eOr (eNot (eFn m__law_asked [(eVar 3), (eVar 7), (eVar 2)])) (eNot (eFn m__law_asked [(eVar 5), (eC (.bl false)), (eVar 2)]))) (sRet (eC (.bl false))) sNil ⟨lE (some (.val (.scr ns))) (vC 0) (some (.val (.bl tup))) (some (.val (tabL small))) (vI (many : Nat)) (some (.val (tabL paired))) (some (.val (tabL roomed))) (some (.val (.bl room))) none, A7⟩ = .nx ⟨lE (some (.val (.scr ns))) (vC 0) (some (.val (.bl tup))) (some (.val (tabL small))) (vI (many : Nat)) (some (.val (tabL paired))) (some (.val (tabL roomed))) (some (.val (.bl room))) none, A7⟩ :=
    two_ (ask_ (v_ rfl) (v_ rfl) (v_ rfl) r1 r2 as) (ask_ (v_ rfl) c_ (v_ rfl) (fun _ => hp) (fun h => by cases h) ap)
  obtain ⟨m2, hm2, m2h⟩ := min5 (roomed.length - 1)
  have e10 : eB subD (eLenS (eVar 6)) (eC (.int 1)) ⟨lE (some (.val (.scr ns))) (vC 0) (some (.val (.bl tup))) (some (.val (tabL small))) (vI (many : Nat)) (some (.val (tabL paired))) (some (.val (tabL roomed))) (some (.val (.bl room))) none, A7⟩ = .ok (.int ((roomed.length - 1 : Nat) : Int)) ⟨lE (some (.val (.scr ns))) (vC 0) (some (.val (.bl tup))) (some (.val (tabL small))) (vI (many : Nat)) (some (.val (tabL paired))) (some (.val (tabL roomed))) (some (.val (.bl room))) none, A7⟩ := b_ (ln_ (v_ rfl) tab_len) c_ (sub1 (by omega))
  have e10b := ca2_ (F := minD) e10 (c_ (d := .int 5)) hm2
  have s10 := set_ (i := 4) e10b (sl2 := lE (some (.val (.scr ns))) (vC 0) (some (.val (.bl tup))) (some (.val (tabL small))) (vI (m2 : Nat)) (some (.val (tabL paired))) (some (.val (tabL roomed))) (some (.val (.bl room))) none) rfl
  clear e10 e10b hm2
  have s11 : sIf (eOr (eNot (eFn m__law_asked [(eVar 6), (eC (.bl true)), (eNot (eVar 2))])) (eNot (eFn m__law_asked [(eVar 3), (eVar 7), (eVar 2)]))) (sRet (eC (.bl false))) sNil ⟨lE (some (.val (.scr ns))) (vC 0) (some (.val (.bl tup))) (some (.val (tabL small))) (vI (m2 : Nat)) (some (.val (tabL paired))) (some (.val (tabL roomed))) (some (.val (.bl room))) none, A7⟩ = .nx ⟨lE (some (.val (.scr ns))) (vC 0) (some (.val (.bl tup))) (some (.val (tabL small))) (vI (m2 : Nat)) (some (.val (tabL paired))) (some (.val (tabL roomed))) (some (.val (.bl room))) none, A7⟩ :=
    two_ (ask_ (v_ rfl) c_ (not_ (t := tup) (v_ rfl) rfl) (fun h => by cases h) (fun _ => hr) ar) (ask_ (v_ rfl) (v_ rfl) (v_ rfl) r1 r2 as)
  have s12 : sIf (eOr (eNot (eFn m__law_asked [(eLst []), (eC (.bl false)), (eVar 2)])) (eNot (eFn m__law_asked [(eLst [(eLst [])]), (eC (.bl true)), (eVar 2)]))) (sRet (eC (.bl false))) sNil ⟨lE (some (.val (.scr ns))) (vC 0) (some (.val (.bl tup))) (some (.val (tabL small))) (vI (m2 : Nat)) (some (.val (tabL paired))) (some (.val (tabL roomed))) (some (.val (.bl room))) none, A7⟩ = .nx ⟨lE (some (.val (.scr ns))) (vC 0) (some (.val (.bl tup))) (some (.val (tabL small))) (vI (m2 : Nat)) (some (.val (tabL paired))) (some (.val (tabL roomed))) (some (.val (.bl room))) none, A7⟩ :=
    two_ (ask_ (rows := []) l0_ c_ (v_ rfl) (fun _ => nil_pairs) (fun h => by cases h) (allE_of (by simp) (by simp))) (ask_ (rows := [[]]) (l1_ l0_) c_ (v_ rfl) (fun h => by cases h) (fun _ => one_room) (allE_of (by simp) (fun r m => by
      have : r = [] := by simpa using m
      subst this
      exact ⟨by simp, fun x hx => by cases hx⟩)))
  have s13 : sSet 8 (eBF false addF (eComp it_law_0 (bNm 9) (eC (.bl true)) ce_law_1 [9]) (eComp it_law_2 (bNm 9) (eC (.bl true)) ce_law_3 [9])) ⟨lE (some (.val (.scr ns))) (vC 0) (some (.val (.bl tup))) (some (.val (tabL small))) (vI (m2 : Nat)) (some (.val (tabL paired))) (some (.val (tabL roomed))) (some (.val (.bl room))) none, A7⟩ = .nx ⟨lE (some (.val (.scr ns))) (vC 0) (some (.val (.bl tup))) (some (.val (tabL small))) (vI (m2 : Nat)) (some (.val (tabL paired))) (some (.val (tabL roomed))) (some (.val (.bl room))) (some (.val (tabL full))), A7⟩ := set_ full_ev rfl
  have cut : eBF false addF (eSlF false (eVar 8) (some (eC (.int 1))) (some (eC (.int 2)))) (eSlF false (eVar 8) (some (eC (.int 3))) none) ⟨lE (some (.val (.scr ns))) (vC 0) (some (.val (.bl tup))) (some (.val (tabL small))) (vI (m2 : Nat)) (some (.val (tabL paired))) (some (.val (tabL roomed))) (some (.val (.bl room))) (some (.val (tabL full))), A7⟩ = .ok (tabL full2) ⟨lE (some (.val (.scr ns))) (vC 0) (some (.val (.bl tup))) (some (.val (tabL small))) (vI (m2 : Nat)) (some (.val (tabL paired))) (some (.val (tabL roomed))) (some (.val (.bl room))) (some (.val (tabL full))), A7⟩ := by
    have a := slb_l (f := eVar 8) (g := eC (.int 1)) (h := eC (.int 2)) (sl := lE (some (.val (.scr ns))) (vC 0) (some (.val (.bl tup))) (some (.val (tabL small))) (vI (m2 : Nat)) (some (.val (tabL paired))) (some (.val (tabL roomed))) (some (.val (.bl room))) (some (.val (tabL full)))) (S := A7) (d := tabL full) (v_ rfl) (c_ (d := .int 1)) (c_ (d := .int 2)) (ds := ((full.drop 1).take 1).map rowL) rfl
    have b := sll_l (f := eVar 8) (g := eC (.int 3)) (sl := lE (some (.val (.scr ns))) (vC 0) (some (.val (.bl tup))) (some (.val (tabL small))) (vI (m2 : Nat)) (some (.val (tabL paired))) (some (.val (tabL roomed))) (some (.val (.bl room))) (some (.val (tabL full)))) (S := A7) (d := tabL full) (v_ rfl) (c_ (d := .int 3)) (ds := (full.drop 3).map rowL) rfl
    refine bf_l a b ?_
    have l1 : ((full.drop 1).take 1).length = 1 := by decide +kernel
    have l2 : (full.drop 3).length = 37 := by decide +kernel
    rw [see1_l, see1_l, addF_l, if_pos (by rw [List.length_map, List.length_map, l1, l2]; unfold sizeLine; omega), ← List.map_append]
    rfl
  have s14 : sIf (eOr (eNot (eFn m__law_asked [(eVar 8), (eC (.bl true)), (eVar 2)])) (eNot (eFn m__law_asked [(eBF false addF (eSlF false (eVar 8) (some (eC (.int 1))) (some (eC (.int 2)))) (eSlF false (eVar 8) (some (eC (.int 3))) none)), (eC (.bl false)), (eVar 2)]))) (sRet (eC (.bl false))) sNil ⟨lE (some (.val (.scr ns))) (vC 0) (some (.val (.bl tup))) (some (.val (tabL small))) (vI (m2 : Nat)) (some (.val (tabL paired))) (some (.val (tabL roomed))) (some (.val (.bl room))) (some (.val (tabL full))), A7⟩ = .nx ⟨lE (some (.val (.scr ns))) (vC 0) (some (.val (.bl tup))) (some (.val (tabL small))) (vI (m2 : Nat)) (some (.val (tabL paired))) (some (.val (tabL roomed))) (some (.val (.bl room))) (some (.val (tabL full))), A7⟩ :=
    two_ (ask_ (v_ rfl) c_ (v_ rfl) (fun h => by cases h) (fun _ => full_room) full_ok) (ask_ cut c_ (v_ rfl) (fun _ => full2_pairs) (fun h => by cases h) full2_ok)
  obtain ⟨A8, f15, d15⟩ := refused_ok (rows := small) d7.box sl10 (fun r m => by have := (sp r m).1; omega)
  have tk : ∀ r ∈ paired.take m2, r ∈ paired := fun r m => List.mem_of_mem_take m
  obtain ⟨A9, f16, d16⟩ := refused_ok (rows := paired.take m2) d15.box (by rw [List.length_take]; omega) (fun r m => by have := (pp r (tk r m)).1; omega)
  have sc := slh_l (f := eVar 5) (g := eVar 4) (sl := lE (some (.val (.scr ns))) (vC 0) (some (.val (.bl tup))) (some (.val (tabL small))) (vI (m2 : Nat)) (some (.val (tabL paired))) (some (.val (tabL roomed))) (some (.val (.bl room))) (some (.val (tabL full)))) (S := A8) (d := tabL paired) (v_ rfl) (v_ (d := .int (m2 : Nat)) rfl) (ds := (paired.take m2).map rowL) (by
    show some (Oc.new (cutD (paired.map rowL) none (some (m2 : Nat)))) = _
    rw [cut_hi, List.map_take])
  have fin := ret_ ((and_t (g := eFn m__law_refused [(eVar 1), (eSlF false (eVar 5) none (some (eVar 4)))]) (fn2_ (m := m__law_refused) (f := eVar 1) (g := eVar 3) (sl := lE (some (.val (.scr ns))) (vC 0) (some (.val (.bl tup))) (some (.val (tabL small))) (vI (m2 : Nat)) (some (.val (tabL paired))) (some (.val (tabL roomed))) (some (.val (.bl room))) (some (.val (tabL full)))) (v_ rfl) (v_ rfl) f15) rfl).trans (fn2_ (v_ rfl) sc f16))
  refine ⟨A9, ?_⟩
  show endR (b_law ⟨lE (some (.val (.scr ns))) none none none none none none none none, []⟩) = _
  unfold b_law
  rw [sq_ s1 (sq_ s2 (sq_ s3 (sq_ s4 (sq_ s5 (sq_ s6 (sq_ s7 (sq_ s8 (sq_ s9 (sq_ s10 (sq_ s11 (sq_ s12 (sq_ s13 (sq_ s14 fin)))))))))))))]
  rfl
end K52

open PySem PySem.W PySem.Calls PyProof.Rows
theorem PySem.Challenge.cw_madeorbarred_k52_pairings_or_rooms_holds : PySem.Challenge.rw_madeorbarred_k52_pairings_or_rooms.Holds := by
  w_on; o_law
  refine HandSHeadRun.head_any (r := OpenLaw.row PySem.Challenge.rw_madeorbarred_k52_pairings_or_rooms) (q := view (OpenLaw.row PySem.Challenge.rw_madeorbarred_k52_pairings_or_rooms).prog [32]) (H := K52.hk) (ob := K52.ob) (M := 9000) (loose := K52.names) (d := HandSHeadRun.topDef (OpenLaw.row PySem.Challenge.rw_madeorbarred_k52_pairings_or_rooms).prog 32) (kwd := []) K52.ob_eq
    (by kernel_rfl) (fun s => by kernel_rfl) K52.run (by kernel_rfl) (by kernel_rfl) (by kernel_rfl) (by rfl) (by first | assumption | decide +kernel) (by decide +kernel) ⟨rfl, rfl, rfl, rfl, rfl, by decide +kernel⟩ ?hw ?hc
  case hw => w_witness2
  case hc =>
    refine MB.walk_mb (l := PySem.Challenge.rw_madeorbarred_k52_pairings_or_rooms) (n := 63) (k := 7) (x := "script") rfl (by decide) (by kernel_rfl) ⟨rfl, by decide, by decide⟩ ?F (fun ns h _ => K52.law_true h)
    intro w mg fa h Y G hmg0
    obtain ⟨K, KX, c⟩ := Y
    have hmg : mg ("law" : PySem.Str) = some (.ref fa) := by
      have e : (HandSHeadRun.topDef (OpenLaw.row PySem.Challenge.rw_madeorbarred_k52_pairings_or_rooms).prog 32).name = ("law" : PySem.Str) := by kernel_rfl
      rw [← e]
      exact hmg0
    have M := K52.mg_of KX G c
    obtain ⟨fd, F⟩ := K52.law_fd c
    have e := hmg.symm.trans M.gd_law
    cases e
    have b := L2.FunD.bindsA (ps := ["script"]) F fun _ _ _ _ _ _ us hl => match us, hl with | [_], _ => rfl
    exact ⟨K, fd, KX, fun s v => b s [v] rfl, fun base _ _ => K52.all_df M c F⟩

