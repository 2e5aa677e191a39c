import PyProof.Rows.All
import Wide.All
import OpenK.AllK
import Wide.FinOn
import KE.KStateDown
import HandS.ForMost
import HandS.ExcCtx
import HandS.HotCalls
import HandS.CallSlots
import HandS.IsInst
import HandS.ExcField
import HandS.ExcIs
import HandS.Wide
import HandS.TupAny
import HandS.Flow
import HandS.SortInts
import HandS.WideBits
import HandS.HeadHook1
import HandS.Strs
import HandS.Defaults
import HandS.HeadHook2
import KE.KExcSuper
import KE.KSuperObj
import KE.KSuper
import HandS.ExcInit
import HandS.CallLocal
import HandS.BoundList
import PyProof.MeetsSeq
import PyProof.EqAt
import PyProof.DictKinds
import PyProof.Dict
import HandS.HeadHook4
import HandS.Ends
import HandS.EndBits
import HandS.HeadEnd
import HandS.Zip
import HandS.HeadHook3
import HandS.Deep
import HandS.Dict
import HandS.WordsDict
import HandS.TryMany
import HandS.Iter
import HandS.TupMul
import HandS.Conv
import HandS.Words
import HandS.Head0
import HandS.Head1
import HandS.Head2
import HandS.Head3
import Wide.Once
import PySem.Challenge.RW_madeorbarred_k53_tables_of_strength_two
set_option Elab.async false
set_option linter.all false
set_option maxRecDepth 100000
set_option maxHeartbeats 0
/-! A layer by values with a store: what a def's body computes, as a plain function over data trees and a list of cells that may change. -/
namespace MB
open PySem PySem.Spec PyProof.Rows L2
abbrev Fg := PySem.W.Frag
abbrev St := L2.St
structure Kw where
  K : Fg
  w : World
/-- what never changes, and where the cells stand -/
structure Fz where
  h : Hp
  th : List Addr
structure FSame (z z' : Fz) : Prop where
  h : Same z.h z'.h
  th : z.th <+: z'.th
theorem FSame.refl (z : Fz) : FSame z z := ⟨Same.refl _, List.prefix_refl _⟩
theorem FSame.trans {a b c : Fz} (x : FSame a b) (y : FSame b c) : FSame a c := ⟨x.h.trans y.h, x.th.trans y.th⟩

/-! ### data -/
inductive D where
  | non | bl (b : Bool) | int (i : Int) | str (x : Str) | tup (xs : List D) | lst (xs : List D) | fn (x : Str) | scr (ns : List Int) | dct (ks : List L2.Key) (ds : List D) | obj (C : Str) (fs : List Str) (ds : List D) | ce (n : Nat)

mutual
inductive DV (K : Kw) (z : Fz) : V → D → Prop
  | non : DV K z .non .non
  | bl (b : Bool) : DV K z (.bl b) (.bl b)
  | int (i : Int) : DV K z (.int i) (.int i)
  | str (x : Str) : DV K z (.str x) (.str x)
  | tup {a : Addr} {vs : List V} {ds : List D} : SqT K.K z.h a vs → DVs K z vs ds → DV K z (.ref a) (.tup ds)
  | lst {a : Addr} {vs : List V} {ds : List D} : z.h a = some (.lst vs) → DVs K z vs ds → DV K z (.ref a) (.lst ds)
  | fn (x : Str) : DV K z (.ref (He.ga K.K x)) (.fn x)
  | scr {a : Addr} {ns : List Int} : SqL K.K z.h a (ns.map V.int) → DV K z (.ref a) (.scr ns)
  | dct {a : Addr} {ks : List L2.Key} {vs : List V} {ds : List D} : z.h a = some (.dK (ks.zip vs)) → vs.length = ks.length → DVs K z vs ds → DV K z (.ref a) (.dct ks ds)
  | obj {a dx : Addr} {C : Str} {fs : List Str} {vs : List V} {ds : List D} : z.h a = some (.ins (He.ga K.K C) dx (fs.zip vs)) → vs.length = fs.length → DVs K z vs ds → DV K z (.ref a) (.obj C fs ds)
  | ce {a : Addr} {n : Nat} : z.th[n]? = some a → DV K z (.ref a) (.ce n)
inductive DVs (K : Kw) (z : Fz) : List V → List D → Prop
  | nil : DVs K z [] []
  | cons {v : V} {vs : List V} {d : D} {ds : List D} : DV K z v d → DVs K z vs ds → DVs K z (v :: vs) (d :: ds)
end

theorem sqT_mono {K : Fg} {H H' : Hp} (s : Same H H') {a : Addr} {xs : List V} (h : SqT K H a xs) : SqT K H' a xs := by
  rcases h with (h | ⟨o, h⟩) | h
  · exact .inl (.inl (s _ _ h))
  · exact .inl (.inr ⟨o, s _ _ h⟩)
  · exact .inr h
theorem pre_get {l m : List Addr} (h : l <+: m) {n : Nat} {a : Addr} (e : l[n]? = some a) : m[n]? = some a := by
  obtain ⟨t, rfl⟩ := h
  rw [List.getElem?_append_left (List.getElem?_eq_some_iff.mp e).1]
  exact e
section
variable {K : Kw} {z z' : Fz}
mutual
theorem DV.mono (s : FSame z z') : ∀ (d : D) (v : V), DV K z v d → DV K z' v d
  | .non, _, h => by cases h; exact .non
  | .bl b, _, h => by cases h; exact .bl b
  | .int i, _, h => by cases h; exact .int i
  | .str x, _, h => by cases h; exact .str x
  | .fn x, _, h => by cases h; exact .fn x
  | .scr ns, _, h => by
    cases h with
    | scr a => exact .scr (s.h.seq a)
  | .tup ds, _, h => by
    cases h with
    | tup a b => exact .tup (sqT_mono s.h a) (DVs.mono s ds _ b)
  | .lst ds, _, h => by
    cases h with
    | lst a b => exact .lst (s.h _ _ a) (DVs.mono s ds _ b)
  | .dct ks ds, _, h => by
    cases h with
    | dct a e b => exact .dct (s.h _ _ a) e (DVs.mono s ds _ b)
  | .obj C fs ds, _, h => by
    cases h with
    | obj a e b => exact .obj (s.h _ _ a) e (DVs.mono s ds _ b)
  | .ce n, _, h => by
    cases h with
    | ce a => exact .ce (pre_get s.th a)
theorem DVs.mono (s : FSame z z') : ∀ (ds : List D) (vs : List V), DVs K z vs ds → DVs K z' vs ds
  | [], _, h => by cases h; exact .nil
  | d :: ds, _, h => by
    cases h with
    | cons a b => exact .cons (DV.mono s d _ a) (DVs.mono s ds _ b)
end
theorem DVs.length : ∀ {vs : List V} {ds : List D}, DVs K z vs ds → vs.length = ds.length
  | _, _, .nil => rfl
  | _, _, .cons _ t => by simp [DVs.length t]
theorem DVs.get : ∀ {vs : List V} {ds : List D}, DVs K z vs ds → ∀ {i : Nat} {d : D}, ds[i]? = some d → ∃ v, vs[i]? = some v ∧ DV K z v d
  | _, _, .nil, i, d, e => by simp at e
  | _, _, .cons a t, 0, d, e => by simp at e; subst e; exact ⟨_, rfl, a⟩
  | _, _, .cons a t, i + 1, d, e => by
    obtain ⟨v, h1, h2⟩ := DVs.get t (i := i) (d := d) (by simpa using e)
    exact ⟨v, by simpa using h1, h2⟩
theorem DVs.get' : ∀ {vs : List V} {ds : List D}, DVs K z vs ds → ∀ {i : Nat} {v : V}, vs[i]? = some v → ∃ d, ds[i]? = some d ∧ DV K z v d
  | _, _, .nil, i, d, e => by simp at e
  | _, _, .cons a t, 0, d, e => by simp at e; subst e; exact ⟨_, rfl, a⟩
  | _, _, .cons a t, i + 1, d, e => by
    obtain ⟨v, h1, h2⟩ := DVs.get' t (i := i) (v := d) (by simpa using e)
    exact ⟨v, by simpa using h1, h2⟩
theorem DVs.append : ∀ {vs ws : List V} {ds es : List D}, DVs K z vs ds → DVs K z ws es → DVs K z (vs ++ ws) (ds ++ es)
  | _, _, _, _, .nil, t => t
  | _, _, _, _, .cons a r, t => .cons a (DVs.append r t)
theorem DVs.take : ∀ {vs : List V} {ds : List D} (n : Nat), DVs K z vs ds → DVs K z (vs.take n) (ds.take n)
  | _, _, 0, _ => by simpa using DVs.nil
  | _, _, n + 1, .nil => .nil
  | _, _, n + 1, .cons a t => .cons a (DVs.take n t)
theorem DVs.drop : ∀ {vs : List V} {ds : List D} (n : Nat), DVs K z vs ds → DVs K z (vs.drop n) (ds.drop n)
  | _, _, 0, h => h
  | _, _, n + 1, .nil => .nil
  | _, _, n + 1, .cons a t => DVs.drop n t
theorem DVs.set : ∀ {vs : List V} {ds : List D} (n : Nat) {v : V} {d : D}, DV K z v d → DVs K z vs ds → DVs K z (vs.set n v) (ds.set n d)
  | _, _, _, _, _, _, .nil => .nil
  | _, _, 0, _, _, h, .cons a t => .cons h t
  | _, _, n + 1, _, _, h, .cons a t => .cons a (DVs.set n h t)
theorem DVs.erase : ∀ {vs : List V} {ds : List D} (n : Nat), DVs K z vs ds → DVs K z (vs.eraseIdx n) (ds.eraseIdx n)
  | _, _, _, .nil => .nil
  | _, _, 0, .cons a t => t
  | _, _, n + 1, .cons a t => .cons a (DVs.erase n t)
theorem DVs.ints : ∀ {vs : List V} {ns : List Int}, DVs K z vs (ns.map D.int) → vs = ns.map V.int
  | vs, [], h => by cases h; rfl
  | vs, n :: ns, h => by
    cases h with
    | cons a t => cases a; rw [DVs.ints t]; rfl
theorem DVs.of_ints : ∀ (ns : List Int), DVs K z (ns.map V.int) (ns.map D.int)
  | [] => .nil
  | n :: ns => .cons (.int n) (DVs.of_ints ns)
end

/-! ### the heap without the live cells -/
structure Ow where
  th : List Addr
  l : List Addr
  hid : List Addr
instance : Membership Addr Ow := ⟨fun O a => a ∈ O.l⟩
def wo (O : Ow) (H : Hp) : Fz := ⟨fun a => if a ∈ O.l then none else H a, O.th⟩
theorem wo_same (O : Ow) (H : Hp) : Same (wo O H).h H := fun a o h => by
  have h' : (if a ∈ O.l then none else H a) = some o := h
  split at h'
  · cases h'
  · exact h'
/-- the whole heap -/
def al (O : Ow) (H : Hp) : Fz := ⟨H, O.th⟩
theorem wo_al (O : Ow) (H : Hp) : FSame (wo O H) (al O H) := ⟨wo_same O H, List.prefix_refl _⟩
theorem wo_mono {O : Ow} {H H' : Hp} (s : Same H H') : FSame (wo O H) (wo O H') := ⟨fun a o h => by
  have h' : (if a ∈ O.l then none else H a) = some o := h
  show (if a ∈ O.l then none else H' a) = some o
  split at h'
  · cases h'
  · rename_i n
    rw [if_neg n]
    exact s a o h', List.prefix_refl _⟩
theorem same_upd {H : Hp} {p : Addr} {o : HO} (h : H p = none) : Same H (upd H p o) := fun b x e => by
  rw [upd_ne (ne_of_none e h)]
  exact e
theorem wo_out {O : Ow} {H : Hp} {p : Addr} (h : p ∉ O) : (wo O H).h p = H p := by
  show (if p ∈ O.l then none else H p) = H p
  exact if_neg h

set_option autoImplicit false
/-! ### exceptions, cells, slots -/
structure Ex where
  c : Str
  fs : List (Str × D)
inductive DF (K : Kw) (z : Fz) : List (Str × V) → List (Str × D) → Prop
  | nil : DF K z [] []
  | cons {x : Str} {v : V} {d : D} {vs : List (Str × V)} {ds : List (Str × D)} : DV K z v d → DF K z vs ds → DF K z ((x, v) :: vs) ((x, d) :: ds)
theorem DF.mono {K : Kw} {z z' : Fz} (s : FSame z z') : ∀ {vs : List (Str × V)} {ds : List (Str × D)}, DF K z vs ds → DF K z' vs ds
  | _, _, .nil => .nil
  | _, _, .cons a t => .cons (DV.mono s _ _ a) (DF.mono s t)
theorem DF.look {K : Kw} {z : Fz} {x : Str} : ∀ {vs : List (Str × V)} {ds : List (Str × D)}, DF K z vs ds → ∀ {d : D}, ds.lookup x = some d → ∃ v, vs.lookup x = some v ∧ DV K z v d
  | _, _, .nil, d, e => by simp at e
  | _, _, .cons (x := y) a t, d, e => by
    rw [List.lookup_cons] at e ⊢
    cases q : (x == y) with
    | true =>
      rw [q] at e
      cases e
      exact ⟨_, rfl, a⟩
    | false =>
      rw [q] at e
      exact DF.look t e
/-- the exception with the class cls and the own dict dd is x -/
def ExOk (K : Kw) (z : Fz) (x : Ex) (cls : Value) (dd : Option Addr) : Prop :=
  cls = .ref (He.ga K.K x.c) ∧ ((x.fs = [] ∧ dd = none) ∨ ∃ (d : Addr) (vs : List (Str × V)), dd = some d ∧ z.h d = some (.xd vs) ∧ DF K z vs x.fs)
theorem ExOk.mono {K : Kw} {z z' : Fz} (s : FSame z z') {x : Ex} {cls : Value} {dd : Option Addr} (h : ExOk K z x cls dd) : ExOk K z' x cls dd := by
  obtain ⟨e, h | ⟨d, vs, e1, e2, e3⟩⟩ := h
  · exact ⟨e, .inl h⟩
  · exact ⟨e, .inr ⟨d, vs, e1, s.h _ _ e2, e3.mono s⟩⟩
/-- a dict's pairs -/
inductive DA {κ : Type} (K : Kw) (z : Fz) : List (κ × V) → List (κ × D) → Prop
  | nil : DA K z [] []
  | cons {k : κ} {v : V} {d : D} {vs : List (κ × V)} {ds : List (κ × D)} : DV K z v d → DA K z vs ds → DA K z ((k, v) :: vs) ((k, d) :: ds)
theorem DA.mono {κ : Type} {K : Kw} {z z' : Fz} (s : FSame z z') : ∀ {vs : List (κ × V)} {ds : List (κ × D)}, DA K z vs ds → DA K z' vs ds
  | _, _, .nil => .nil
  | _, _, .cons a t => .cons (DV.mono s _ _ a) (DA.mono s t)
/-- a thing that may change: a list, a dict of ints and texts, one of tuples of them, an instance, a set of ints -/
inductive Cn where
  | lst (ds : List D) | dct (kvs : List (L2.Key × D)) | dcT (kvs : List (List L2.Key × D)) | obj (C : Str) (fs : List (Str × D)) | set (ns : List Int)
abbrev Store := List (Option Cn)
/-- what stands at a cell's address -/
def CnOk (K : Kw) (z : Fz) (a : Addr) (o : HO) : Cn → Prop
  | .lst ds => ∃ vs, o = .lst vs ∧ DVs K z vs ds
  | .dct kvs => ∃ vs, o = .dK vs ∧ DA K z vs kvs
  | .dcT kvs => ∃ vs, o = .dT vs ∧ DA K z vs kvs
  | .obj C fs => ∃ dx vs, o = .ins (He.ga K.K C) dx vs ∧ DF K z vs fs
  | .set ns => o = SetO K.w a (fun j => decide (j ∈ ns)) ns.length
theorem CnOk.mono {K : Kw} {z z' : Fz} (s : FSame z z') {a : Addr} {o : HO} : ∀ {c : Cn}, CnOk K z a o c → CnOk K z' a o c
  | .lst ds, ⟨vs, e, h⟩ => ⟨vs, e, DVs.mono s _ _ h⟩
  | .dct kvs, ⟨vs, e, h⟩ => ⟨vs, e, h.mono s⟩
  | .dcT kvs, ⟨vs, e, h⟩ => ⟨vs, e, h.mono s⟩
  | .obj C fs, ⟨dx, vs, e, h⟩ => ⟨dx, vs, e, h.mono s⟩
  | .set ns, h => h
/-- the cells: live ones at their addresses -/
structure Ce (K : Kw) (O : Ow) (S : Store) (H : Hp) : Prop where
  ow : ∀ a, a ∈ O ↔ (∃ (n : Nat) (c : Cn), O.th[n]? = some a ∧ S[n]? = some (some c)) ∨ a ∈ O.hid
  hd : ∀ a ∈ O.hid, ∃ o, H a = some o
  dj : ∀ a ∈ O.hid, a ∉ O.th
  nd : O.th.Nodup
  ln : S.length = O.th.length
  ce : ∀ (n : Nat) (c : Cn) (a : Addr), S[n]? = some (some c) → O.th[n]? = some a → ∃ o, H a = some o ∧ CnOk K (wo O H) a o c
  al : ∀ a ∈ O.th, ∃ o, H a = some o
theorem Ce.dom {K : Kw} {O : Ow} {S : Store} {H : Hp} (h : Ce K O S H) : ∀ a ∈ O, ∃ o, H a = some o := fun a m => by
  rcases (h.ow a).mp m with ⟨n, c, e1, e2⟩ | m
  · obtain ⟨o, e, _⟩ := h.ce n c a e2 e1
    exact ⟨o, e⟩
  · exact h.hd a m
theorem Ce.out {K : Kw} {O : Ow} {S : Store} {H : Hp} (h : Ce K O S H) {p : Addr} (n : H p = none) : p ∉ O := fun m => by
  obtain ⟨o, e⟩ := h.dom p m
  rw [n] at e
  cases e
theorem Ce.grow {K : Kw} {O : Ow} {S : Store} {H H' : Hp} (h : Ce K O S H) (s : Same H H') : Ce K O S H' :=
  ⟨h.ow, fun a m => by
    obtain ⟨o, e⟩ := h.hd a m
    exact ⟨o, s _ _ e⟩, h.dj, h.nd, h.ln, fun n c a e1 e2 => by
    obtain ⟨o, e, k⟩ := h.ce n c a e1 e2
    exact ⟨o, s _ _ e, k.mono (wo_mono s)⟩, fun a m => by
    obtain ⟨o, e⟩ := h.al a m
    exact ⟨o, s _ _ e⟩⟩
/-- from one state to a later one: what never changes stands, what is hidden is as it was -/
structure Stp (O : Ow) (H : Hp) (O' : Ow) (H' : Hp) : Prop where
  fs : FSame (wo O H) (wo O' H')
  hid : O'.hid = O.hid
  hs : ∀ a ∈ O.hid, H' a = H a
theorem Stp.refl (O : Ow) (H : Hp) : Stp O H O H := ⟨FSame.refl _, rfl, fun _ _ => rfl⟩
theorem Stp.trans {O O' O2 : Ow} {H H' H2 : Hp} (x : Stp O H O' H') (y : Stp O' H' O2 H2) : Stp O H O2 H2 := ⟨x.fs.trans y.fs, y.hid.trans x.hid, fun a m => (y.hs a (by rw [x.hid]; exact m)).trans (x.hs a m)⟩
theorem Ce.stp {K : Kw} {O : Ow} {S : Store} {H H' : Hp} (h : Ce K O S H) (s : Same H H') : Stp O H O H' := ⟨wo_mono s, rfl, fun a m => by
  obtain ⟨o, e⟩ := h.hd a m
  rw [e]
  exact s a o e⟩
structure Fm where
  O : Ow
  H : Hp
/-- a slot: a value; the exception that is handled -/
inductive Sl where
  | val (d : D) | exc (x : Ex)
/-- the names' values, the store -/
structure En where
  sl : List (Option Sl)
  st : Store
instance : GetElem? En Nat (Option Sl) (fun ρ i => i < ρ.sl.length) where
  getElem ρ i h := ρ.sl[i]'h
  getElem? ρ i := ρ.sl[i]?
@[simp] theorem En.get_mk (l : List (Option Sl)) (S : Store) (i : Nat) : (En.mk l S)[i]? = l[i]? := rfl
theorem En.get_eq (ρ : En) (i : Nat) : ρ[i]? = ρ.sl[i]? := rfl
def En.set (ρ : En) (i : Nat) (x : Option Sl) : En := ⟨ρ.sl.set i x, ρ.st⟩
@[simp] theorem En.set_mk (l : List (Option Sl)) (S : Store) (i : Nat) (x : Option Sl) : (En.mk l S).set i x = ⟨l.set i x, S⟩ := rfl
/-- the handled exception: where, its class, its dict -/
structure Hx where
  ex : Option (Addr × Value × Option Addr) := none
def h0 : Hx := {}
def SlOk (K : Kw) (hx : Hx) (z : Fz) (v : V) : Sl → Prop
  | .val d => DV K z v d
  | .exc x => ∃ a cls dd, v = .ref a ∧ hx.ex = some (a, cls, dd) ∧ ExOk K z x cls dd
theorem SlOk.mono {K : Kw} {hx : Hx} {z z' : Fz} (s : FSame z z') {v : V} : ∀ {x : Sl}, SlOk K hx z v x → SlOk K hx z' v x
  | .val d, h => DV.mono s _ _ h
  | .exc x, ⟨a, cls, dd, e, m, h⟩ => ⟨a, cls, dd, e, m, h.mono s⟩
/-- slots, cells and heap are what the environment says; F: what stands all along -/
structure RO (K : Kw) (hx : Hx) (F : Fm) (ρ : En) (σ : MB.St) (H : Hp) (O : Ow) : Prop where
  fr : Stp F.O F.H O H
  ce : Ce K O ρ.st H
  len : ρ.sl.length = σ.length
  sl : ∀ (i : Nat) (x : Sl), ρ[i]? = some (some x) → ∃ v, σ[i]? = some (some v) ∧ SlOk K hx (wo O H) v x
def Rl (K : Kw) (hx : Hx) (F : Fm) (ρ : En) (σ : MB.St) (H : Hp) : Prop := ∃ O, RO K hx F ρ σ H O
def RV (K : Kw) (hx : Hx) (F : Fm) (ρ : En) (σ : MB.St) (H : Hp) (v : V) (d : D) : Prop := ∃ O, RO K hx F ρ σ H O ∧ DV K (wo O H) v d
def RX (K : Kw) (hx : Hx) (F : Fm) (ρ : En) (σ : MB.St) (H : Hp) (x : Ex) (cls : Value) (dd : Option Addr) : Prop := ∃ O, RO K hx F ρ σ H O ∧ ExOk K (wo O H) x cls dd
theorem getset {α : Type} {l : List α} {i m : Nat} {x y : α} (h : (l.set i x)[m]? = some y) : (m = i ∧ y = x ∧ i < l.length) ∨ (m ≠ i ∧ l[m]? = some y) := by
  by_cases hm : m = i
  · subst hm
    rw [List.getElem?_set_self'] at h
    cases q : l[m]? with
    | none => rw [q] at h; cases h
    | some z =>
      rw [q] at h
      have h' : some x = some y := h
      exact .inl ⟨rfl, (Option.some.inj h').symm, (List.getElem?_eq_some_iff.mp q).1⟩
  · rw [List.getElem?_set_ne (Ne.symm hm)] at h
    exact .inr ⟨hm, h⟩
section
variable {K : Kw} {hx : Hx} {F F' : Fm} {H H' : Hp} {ρ : En} {σ : MB.St} {O : Ow}
theorem RO.dom (r : RO K hx F ρ σ H O) : ∀ a ∈ O, ∃ o, H a = some o := r.ce.dom
theorem RO.grow (r : RO K hx F ρ σ H O) (s : Same H H') : RO K hx F ρ σ H' O :=
  ⟨r.fr.trans (r.ce.stp s), r.ce.grow s, r.len, fun i x e => by
    obtain ⟨v, e1, h⟩ := r.sl i x e
    exact ⟨v, e1, h.mono (wo_mono s)⟩⟩
/-- another frame condition: what stands now -/
theorem RO.re (r : RO K hx F ρ σ H O) : RO K hx ⟨O, H⟩ ρ σ H O := ⟨Stp.refl _ _, r.ce, r.len, r.sl⟩
theorem RO.fr_of (r : RO K hx F ρ σ H O) (s : Stp F'.O F'.H F.O F.H) : RO K hx F' ρ σ H O := ⟨s.trans r.fr, r.ce, r.len, r.sl⟩
theorem RO.out (r : RO K hx F ρ σ H O) {p : Addr} (h : H p = none) : p ∉ O := r.ce.out h
/-- a slot is written -/
theorem RO.put (r : RO K hx F ρ σ H O) (i : Nat) {x : Sl} {v : V} (h : SlOk K hx (wo O H) v x) : RO K hx F (ρ.set i (some x)) (σ.set i (some v)) H O := by
  refine ⟨r.fr, r.ce, by show (ρ.sl.set i _).length = _; simp [r.len], fun j y e => ?_⟩
  rcases getset (show (ρ.sl.set i (some x))[j]? = some (some y) from e) with ⟨e1, e2, e3⟩ | ⟨n, e1⟩
  · subst e1
    cases e2
    exact ⟨v, by rw [List.getElem?_set_self (by rw [← r.len]; exact e3)], h⟩
  · obtain ⟨v', e2, h'⟩ := r.sl j y e1
    exact ⟨v', by rw [List.getElem?_set_ne (Ne.symm n)]; exact e2, h'⟩
theorem RO.set (r : RO K hx F ρ σ H O) (i : Nat) {v : V} {d : D} (h : DV K (wo O H) v d) : RO K hx F (ρ.set i (some (.val d))) (σ.set i (some v)) H O := r.put i h
/-- another store over the same slots -/
theorem RO.st (r : RO K hx F ρ σ H O) {O' : Ow} {S : Store} (s : Stp O H O' H') (c : Ce K O' S H') : RO K hx F ⟨ρ.sl, S⟩ σ H' O' :=
  ⟨r.fr.trans s, c, r.len, fun i x e => by
    obtain ⟨v, e1, h⟩ := r.sl i x e
    exact ⟨v, e1, h.mono s.fs⟩⟩
end
theorem nodup_idx {l : List Addr} (h : l.Nodup) {i j : Nat} {a : Addr} (e1 : l[i]? = some a) (e2 : l[j]? = some a) : i = j := by
  obtain ⟨h1, g1⟩ := List.getElem?_eq_some_iff.mp e1
  obtain ⟨h2, g2⟩ := List.getElem?_eq_some_iff.mp e2
  have p := List.pairwise_iff_getElem.mp h
  rcases Nat.lt_trichotomy i j with q | q | q
  · exact absurd (g1.trans g2.symm) (p i j h1 h2 q)
  · exact q
  · exact absurd (g2.trans g1.symm) (p j i h2 h1 q)
/-! ### cells are laid, changed, given up -/
section
variable {K : Kw} {H : Hp} {O : Ow} {S : Store}
/-- a new cell -/
theorem Ce.new (r : Ce K O S H) {p : Addr} {o : HO} {c : Cn} (n : H p = none) (h : CnOk K ⟨(wo O H).h, O.th ++ [p]⟩ p o c) :
    Ce K ⟨O.th ++ [p], p :: O.l, O.hid⟩ (S ++ [some c]) (upd H p o) ∧ Stp O H ⟨O.th ++ [p], p :: O.l, O.hid⟩ (upd H p o) := by
  have fs : FSame ⟨(wo O H).h, O.th ++ [p]⟩ (wo ⟨O.th ++ [p], p :: O.l, O.hid⟩ (upd H p o)) := ⟨fun a x e => by
    have e' : (if a ∈ O.l then none else H a) = some x := e
    show (if a ∈ p :: O.l then none else upd H p o a) = some x
    split at e'
    · cases e'
    · rename_i m
      have na : a ≠ p := fun z => by rw [z, n] at e'; cases e'
      rw [if_neg fun z => (List.mem_cons.mp z).elim na m, upd_ne na]
      exact e', List.prefix_refl _⟩
  have f2 : FSame (wo O H) ⟨(wo O H).h, O.th ++ [p]⟩ := ⟨Same.refl _, List.prefix_append _ _⟩
  have hp : p ∉ O.th := fun m => by
    obtain ⟨x, e⟩ := r.al p m
    rw [n] at e
    cases e
  have nh : ∀ a ∈ O.hid, a ≠ p := fun a m z => by
    obtain ⟨x, e⟩ := r.hd a m
    rw [z, n] at e
    cases e
  refine ⟨⟨fun a => ?_, fun a m => ?_, fun a m => ?_, ?_, by simp [r.ln], fun m c' a e1 e2 => ?_, fun a m => ?_⟩, f2.trans fs, rfl, fun a m => upd_ne (nh a m)⟩
  · show a ∈ p :: O.l ↔ (∃ n c', (O.th ++ [p])[n]? = some a ∧ (S ++ [some c])[n]? = some (some c')) ∨ a ∈ O.hid
    constructor
    · intro m
      rcases List.mem_cons.mp m with rfl | m
      · exact .inl ⟨O.th.length, c, by simp, by rw [← r.ln]; simp⟩
      · rcases (r.ow a).mp m with ⟨k, c', e1, e2⟩ | m
        · exact .inl ⟨k, c', by rw [List.getElem?_append_left (List.getElem?_eq_some_iff.mp e1).1]; exact e1, by rw [List.getElem?_append_left (List.getElem?_eq_some_iff.mp e2).1]; exact e2⟩
        · exact .inr m
    · rintro (⟨k, c', e1, e2⟩ | m)
      · by_cases hk : k < O.th.length
        · rw [List.getElem?_append_left hk] at e1
          rw [List.getElem?_append_left (by rw [r.ln]; exact hk)] at e2
          exact List.mem_cons_of_mem _ ((r.ow a).mpr (.inl ⟨k, c', e1, e2⟩))
        · rw [List.getElem?_append_right (by omega)] at e1
          have : a = p := by
            have hm := List.mem_of_getElem? e1
            simpa using hm
          rw [this]
          exact List.mem_cons_self
      · exact List.mem_cons_of_mem _ ((r.ow a).mpr (.inr m))
  · obtain ⟨x, e⟩ := r.hd a m
    exact ⟨x, by rw [upd_ne (nh a m)]; exact e⟩
  · intro q
    rcases List.mem_append.mp (show a ∈ O.th ++ [p] from q) with q | q
    · exact r.dj a m q
    · exact nh a m (by simpa using q)
  · show (O.th ++ [p]).Nodup
    rw [List.nodup_append]
    exact ⟨r.nd, by simp, fun x hx y hy => by
      have : y = p := by simpa using hy
      rw [this]
      intro z
      rw [z] at hx
      exact hp hx⟩
  · have e1' : (S ++ [some c])[m]? = some (some c') := e1
    have e2' : (O.th ++ [p])[m]? = some a := e2
    by_cases hk : m < O.th.length
    · rw [List.getElem?_append_left hk] at e2'
      rw [List.getElem?_append_left (by rw [r.ln]; exact hk)] at e1'
      obtain ⟨o', e3, e4⟩ := r.ce m c' a e1' e2'
      have na : a ≠ p := fun z => by rw [z, n] at e3; cases e3
      exact ⟨o', by rw [upd_ne na]; exact e3, e4.mono (f2.trans fs)⟩
    · have hm : m = O.th.length := by
        have := (List.getElem?_eq_some_iff.mp e2').1
        simp at this
        omega
      subst hm
      have ea : a = p := by simpa using e2'.symm
      have ec : c' = c := by
        rw [← r.ln] at e1'
        simpa using e1'.symm
      subst ea ec
      exact ⟨o, upd_same, h.mono fs⟩
  · by_cases z : a = p
    · rw [z]
      exact ⟨_, upd_same⟩
    · rw [upd_ne z]
      rcases List.mem_append.mp (show a ∈ O.th ++ [p] from m) with m | m
      · exact r.al a m
      · exact absurd (by simpa using m) z
/-- a cell's content is changed -/
theorem Ce.wr (r : Ce K O S H) {n : Nat} {c0 c : Cn} {a : Addr} {o : HO} (e1 : S[n]? = some (some c0)) (e2 : O.th[n]? = some a) (h : CnOk K (wo O H) a o c) :
    Ce K O (S.set n (some c)) (upd H a o) ∧ Stp O H O (upd H a o) := by
  have mO : a ∈ O.l := (r.ow a).mpr (.inl ⟨n, c0, e2, e1⟩)
  have nh : ∀ b ∈ O.hid, b ≠ a := fun b m z => r.dj b m (by rw [z]; exact List.mem_of_getElem? e2)
  have ew : wo O (upd H a o) = wo O H := by
    unfold wo
    congr 1
    funext b
    by_cases m : b ∈ O.l
    · rw [if_pos m, if_pos m]
    · rw [if_neg m, if_neg m, upd_ne fun z => m (by rw [z]; exact mO)]
  refine ⟨⟨fun b => ?_, fun b m => ?_, r.dj, r.nd, by simp [r.ln], fun m c' b q1 q2 => ?_, fun b m => ?_⟩, by rw [ew]; exact FSame.refl _, rfl, fun b m => upd_ne (nh b m)⟩
  · rw [r.ow b]
    refine or_congr ⟨?_, ?_⟩ Iff.rfl
    · rintro ⟨k, c', f1, f2⟩
      by_cases hk : k = n
      · subst hk
        exact ⟨k, c, f1, by rw [List.getElem?_set_self (List.getElem?_eq_some_iff.mp f2).1]⟩
      · exact ⟨k, c', f1, by rw [List.getElem?_set_ne (Ne.symm hk)]; exact f2⟩
    · rintro ⟨k, c', f1, f2⟩
      rcases getset f2 with ⟨g1, _, _⟩ | ⟨_, g⟩
      · subst g1
        exact ⟨k, c0, f1, e1⟩
      · exact ⟨k, c', f1, g⟩
  · obtain ⟨x, e⟩ := r.hd b m
    exact ⟨x, by rw [upd_ne (nh b m)]; exact e⟩
  · rw [ew]
    rcases getset q1 with ⟨g1, g2, _⟩ | ⟨g1, g⟩
    · subst g1
      cases g2
      rw [e2] at q2
      cases q2
      exact ⟨o, upd_same, h⟩
    · obtain ⟨o', f1, f2⟩ := r.ce m c' b g q2
      have nb : b ≠ a := fun z => by
        subst z
        exact g1 (nodup_idx r.nd q2 e2)
      exact ⟨o', by rw [upd_ne nb]; exact f1, f2⟩
  · by_cases z : b = a
    · rw [z]
      exact ⟨_, upd_same⟩
    · rw [upd_ne z]
      exact r.al b m
/-- a cell is given up: what stands there never changes from now on -/
theorem Ce.fz (r : Ce K O S H) {n : Nat} {c : Cn} {a : Addr} (e1 : S[n]? = some (some c)) (e2 : O.th[n]? = some a) :
    ∃ O' : Ow, O'.th = O.th ∧ Ce K O' (S.set n none) H ∧ Stp O H O' H ∧ (wo O' H).h a = H a := by
  have uniq : ∀ {m : Nat}, O.th[m]? = some a → m = n := fun {m} q => nodup_idx r.nd q e2
  have nh : ∀ b ∈ O.hid, b ≠ a := fun b m z => r.dj b m (by rw [z]; exact List.mem_of_getElem? e2)
  have s : FSame (wo O H) (wo ⟨O.th, O.l.filter (· ≠ a), O.hid⟩ H) := ⟨fun b x q => by
    have q' : (if b ∈ O.l then none else H b) = some x := q
    show (if b ∈ O.l.filter (· ≠ a) then none else H b) = some x
    split at q'
    · cases q'
    · rename_i m
      rw [if_neg fun z => m (List.mem_filter.mp z).1]
      exact q', List.prefix_refl _⟩
  refine ⟨⟨O.th, O.l.filter (· ≠ a), O.hid⟩, rfl, ⟨fun b => ?_, r.hd, r.dj, r.nd, by simp [r.ln], fun m c' b q1 q2 => ?_, r.al⟩, ⟨s, rfl, fun _ _ => rfl⟩, wo_out fun z => by
    have := (List.mem_filter.mp z).2
    simp at this⟩
  · show b ∈ O.l.filter (· ≠ a) ↔ _
    rw [List.mem_filter]
    constructor
    · rintro ⟨m, nb⟩
      rcases (r.ow b).mp m with ⟨k, c', f1, f2⟩ | m
      · have hk : k ≠ n := fun z => by
          subst z
          rw [e2] at f1
          cases f1
          simp at nb
        exact .inl ⟨k, c', f1, by rw [List.getElem?_set_ne (Ne.symm hk)]; exact f2⟩
      · exact .inr m
    · rintro (⟨k, c', f1, f2⟩ | m)
      · rcases getset f2 with ⟨_, g2, _⟩ | ⟨g1, g⟩
        · cases g2
        · refine ⟨(r.ow b).mpr (.inl ⟨k, c', f1, g⟩), ?_⟩
          have : b ≠ a := fun z => by
            subst z
            exact g1 (uniq f1)
          simpa using this
      · exact ⟨(r.ow b).mpr (.inr m), by simpa using nh b m⟩
  · rcases getset q1 with ⟨_, g2, _⟩ | ⟨_, g⟩
    · cases g2
    · obtain ⟨o', f1, f2⟩ := r.ce m c' b g q2
      exact ⟨o', f1, f2.mono s⟩
end
section
variable {K : Kw} {hx : Hx} {F : Fm} {ρ : En} {σ : MB.St} {H : Hp} {O : Ow}
/-- a new thing that only the rule at hand knows of -/
theorem RO.hide (r : RO K hx F ρ σ H O) {p : Addr} {o : HO} (n : H p = none) : RO K hx ⟨⟨O.th, p :: O.l, p :: O.hid⟩, upd H p o⟩ ρ σ (upd H p o) ⟨O.th, p :: O.l, p :: O.hid⟩ ∧ FSame (wo O H) (wo ⟨O.th, p :: O.l, p :: O.hid⟩ (upd H p o)) := by
  have fs : FSame (wo O H) (wo ⟨O.th, p :: O.l, p :: O.hid⟩ (upd H p o)) := ⟨fun a x e => by
    have e' : (if a ∈ O.l then none else H a) = some x := e
    show (if a ∈ p :: O.l then none else upd H p o a) = some x
    split at e'
    · cases e'
    · rename_i m
      have na : a ≠ p := fun z => by rw [z, n] at e'; cases e'
      rw [if_neg fun z => (List.mem_cons.mp z).elim na m, upd_ne na]
      exact e', List.prefix_refl _⟩
  have hp : p ∉ O.th := fun m => by
    obtain ⟨x, e⟩ := r.ce.al p m
    rw [n] at e
    cases e
  refine ⟨⟨Stp.refl _ _, ⟨fun a => ?_, fun a m => ?_, fun a m => ?_, r.ce.nd, r.ce.ln, fun k c a e1 e2 => ?_, fun a m => ?_⟩, r.len, fun i x e => ?_⟩, fs⟩
  · show a ∈ p :: O.l ↔ _ ∨ a ∈ p :: O.hid
    rw [List.mem_cons, List.mem_cons]
    have := r.ce.ow a
    constructor
    · rintro (h | h)
      · exact .inr (.inl h)
      · rcases this.mp h with h | h
        · exact .inl h
        · exact .inr (.inr h)
    · rintro (h | h | h)
      · exact .inr (this.mpr (.inl h))
      · exact .inl h
      · exact .inr (this.mpr (.inr h))
  · rcases List.mem_cons.mp m with rfl | m
    · exact ⟨_, upd_same⟩
    · obtain ⟨x, e⟩ := r.ce.hd a m
      exact ⟨x, (same_upd n) _ _ e⟩
  · rcases List.mem_cons.mp m with rfl | m
    · exact hp
    · exact r.ce.dj a m
  · obtain ⟨o', f1, f2⟩ := r.ce.ce k c a e1 e2
    exact ⟨o', (same_upd n) _ _ f1, f2.mono fs⟩
  · obtain ⟨x, e⟩ := r.ce.al a m
    exact ⟨x, (same_upd n) _ _ e⟩
  · obtain ⟨v, e1, h⟩ := r.sl i x e
    exact ⟨v, e1, h.mono fs⟩
/-- the hidden thing is changed -/
theorem RO.wrH (r : RO K hx F ρ σ H O) {p : Addr} {o : HO} (m : p ∈ O.hid) : RO K hx ⟨O, upd H p o⟩ ρ σ (upd H p o) O ∧ wo O (upd H p o) = wo O H := by
  have mO : p ∈ O.l := (r.ce.ow p).mpr (.inr m)
  have ew : wo O (upd H p o) = wo O H := by
    unfold wo
    congr 1
    funext b
    by_cases q : b ∈ O.l
    · rw [if_pos q, if_pos q]
    · rw [if_neg q, if_neg q, upd_ne fun z => q (by rw [z]; exact mO)]
  refine ⟨⟨Stp.refl _ _, ⟨r.ce.ow, fun a q => ?_, r.ce.dj, r.ce.nd, r.ce.ln, fun k c a e1 e2 => ?_, fun a q => ?_⟩, r.len, fun i x e => ?_⟩, ew⟩
  · by_cases z : a = p
    · exact ⟨o, by rw [z]; exact upd_same⟩
    · obtain ⟨x, e⟩ := r.ce.hd a q
      exact ⟨x, by rw [upd_ne z]; exact e⟩
  · have z : a ≠ p := fun z => r.ce.dj p m (by rw [← z]; exact List.mem_of_getElem? e2)
    obtain ⟨o', f1, f2⟩ := r.ce.ce k c a e1 e2
    exact ⟨o', by rw [upd_ne z]; exact f1, by rw [ew]; exact f2⟩
  · have z : a ≠ p := fun z => r.ce.dj p m (by rw [← z]; exact q)
    obtain ⟨x, e⟩ := r.ce.al a q
    exact ⟨x, by rw [upd_ne z]; exact e⟩
  · obtain ⟨v, e1, h⟩ := r.sl i x e
    exact ⟨v, e1, by rw [ew]; exact h⟩
/-- the hidden thing comes to light: from now on nobody changes it -/
theorem RO.bare (r : RO K hx F ρ σ H O) {p : Addr} {hid : List Addr} (e : O.hid = p :: hid) (np : p ∉ hid) : RO K hx ⟨⟨O.th, O.l.filter (· ≠ p), hid⟩, H⟩ ρ σ H ⟨O.th, O.l.filter (· ≠ p), hid⟩ ∧ FSame (wo O H) (wo ⟨O.th, O.l.filter (· ≠ p), hid⟩ H) ∧ (wo ⟨O.th, O.l.filter (· ≠ p), hid⟩ H).h p = H p := by
  have fs : FSame (wo O H) (wo ⟨O.th, O.l.filter (· ≠ p), hid⟩ H) := ⟨fun b x q => by
    have q' : (if b ∈ O.l then none else H b) = some x := q
    show (if b ∈ O.l.filter (· ≠ p) then none else H b) = some x
    split at q'
    · cases q'
    · rename_i m
      rw [if_neg fun z => m (List.mem_filter.mp z).1]
      exact q', List.prefix_refl _⟩
  have hp : p ∉ O.th := r.ce.dj p (by rw [e]; exact List.mem_cons_self)
  refine ⟨⟨Stp.refl _ _, ⟨fun a => ?_, fun a m => r.ce.hd a (by rw [e]; exact List.mem_cons_of_mem _ m), fun a m => r.ce.dj a (by rw [e]; exact List.mem_cons_of_mem _ m), r.ce.nd, r.ce.ln, fun k c a e1 e2 => ?_, r.ce.al⟩, r.len, fun i x q => ?_⟩, fs, wo_out fun z => by
    have := (List.mem_filter.mp z).2
    simp at this⟩
  · show a ∈ O.l.filter (· ≠ p) ↔ _ ∨ a ∈ hid
    rw [List.mem_filter]
    have w := r.ce.ow a
    constructor
    · rintro ⟨m, nb⟩
      have nb' : a ≠ p := by simpa using nb
      rcases w.mp m with h | h
      · exact .inl h
      · rw [e] at h
        rcases List.mem_cons.mp h with h | h
        · exact absurd h nb'
        · exact .inr h
    · rintro (h | h)
      · obtain ⟨k, c, e1, e2⟩ := h
        exact ⟨w.mpr (.inl ⟨k, c, e1, e2⟩), by
          have : a ≠ p := fun z => hp (by rw [← z]; exact List.mem_of_getElem? e1)
          simpa using this⟩
      · exact ⟨w.mpr (.inr (by rw [e]; exact List.mem_cons_of_mem _ h)), by
          have : a ≠ p := fun z => np (by rw [← z]; exact h)
          simpa using this⟩
  · obtain ⟨o', f1, f2⟩ := r.ce.ce k c a e1 e2
    exact ⟨o', f1, f2.mono fs⟩
  · obtain ⟨v, e1, h⟩ := r.sl i x q
    exact ⟨v, e1, h.mono fs⟩
end
end MB

/-! Readings by values: expressions. -/
namespace MB
open PySem PySem.Spec PyProof.Rows L2
def _root_.L2.Cx.kw (X : Cx) : Kw := ⟨X.K, X.w⟩

inductive Rs where
  | ok (d : D) (ρ : En) | err (x : Ex) (ρ : En) | stuck
abbrev EX := En → Rs
def Rs.bind (r : Rs) (k : D → En → Rs) : Rs := match r with
  | .ok d ρ => k d ρ
  | .err x ρ => .err x ρ
  | .stuck => .stuck
/-- what is wanted of an outcome -/
def Po (K : Kw) (hx : Hx) (F : Fm) (W : WX) (σ : MB.St) (r : Rs) (Q : VK) : Prop := match r with
  | .ok d ρ => ∀ v H, RV K hx F ρ σ H v d → Q v H
  | .err x ρ => ∀ cls dd H, RX K hx F ρ σ H x cls dd → W cls dd σ H
  | .stuck => False
/-- an expression's reading by its function -/
def tX (K : Kw) (hx : Hx) (W : WX) (f : EX) : TE := fun σ H Q => ∃ F ρ, Rl K hx F ρ σ H ∧ Po K hx F W σ (f ρ) Q
/-- a truth value -/
def truth : D → Option Bool
  | .non => some false
  | .bl b => some b
  | .int i => some (i != 0)
  | .tup xs => some (!xs.isEmpty)
  | .lst xs => some (!xs.isEmpty)
  | _ => none
def PoT (K : Kw) (hx : Hx) (F : Fm) (W : WX) (σ : MB.St) (r : Rs) (Q : Bool → Hp → Prop) : Prop := match r with
  | .ok d ρ => ∃ b, truth d = some b ∧ ∀ H, Rl K hx F ρ σ H → Q b H
  | .err x ρ => ∀ cls dd H, RX K hx F ρ σ H x cls dd → W cls dd σ H
  | .stuck => False
def tT (K : Kw) (hx : Hx) (W : WX) (f : EX) : TT := fun σ H Q => ∃ F ρ, Rl K hx F ρ σ H ∧ PoT K hx F W σ (f ρ) Q
theorem _root_.L2.PE.imp {X : Cx} {e : Expr} {t t' : TE} (h : PE X e t) (i : ∀ σ H Q, t' σ H Q → t σ H Q) : PE X e t' := ⟨fun pins s σ H Q I q => h.run pins s σ H Q I (i σ H Q q)⟩
theorem _root_.L2.PT.imp {X : Cx} {e : Expr} {t t' : TT} (h : PT X e t) (i : ∀ σ H Q, t' σ H Q → t σ H Q) : PT X e t' := ⟨fun pins s σ H Q I q => h.run pins s σ H Q I (i σ H Q q)⟩
theorem _root_.L2.PW.imp {X : Cx} {e : Expr} {t t' : TT} (h : PW X e t) (i : ∀ σ H Q, t' σ H Q → t σ H Q) : PW X e t' := ⟨fun wh pins s σ H Q I q => h.run wh pins s σ H Q I (i σ H Q q)⟩

theorem Po.fr {K : Kw} {hx : Hx} {F F' : Fm} {W : WX} {σ : MB.St} {r : Rs} {Q : VK} (s : Stp F.O F.H F'.O F'.H) (h : Po K hx F W σ r Q) : Po K hx F' W σ r Q := by
  cases r with
  | ok d ρ => exact fun v H ⟨O, r, dv⟩ => h v H ⟨O, r.fr_of s, dv⟩
  | err x ρ => exact fun cls dd H ⟨O, r, dv⟩ => h cls dd H ⟨O, r.fr_of s, dv⟩
  | stuck => exact h
theorem PoT.fr {K : Kw} {hx : Hx} {F F' : Fm} {W : WX} {σ : MB.St} {r : Rs} {Q : Bool → Hp → Prop} (s : Stp F.O F.H F'.O F'.H) (h : PoT K hx F W σ r Q) : PoT K hx F' W σ r Q := by
  cases r with
  | ok d ρ =>
    obtain ⟨b, hb, k⟩ := h
    exact ⟨b, hb, fun H ⟨O, r⟩ => k H ⟨O, r.fr_of s⟩⟩
  | err x ρ => exact fun cls dd H ⟨O, r, dv⟩ => h cls dd H ⟨O, r.fr_of s, dv⟩
  | stuck => exact h
section
variable {K : Kw} {hx : Hx} {F : Fm} {H : Hp} {ρ : En} {σ : MB.St} {O : Ow} {W : WX}
/-- a part, then the rest: the part's frame is what stands now -/
theorem bindX {fa : EX} {k : D → En → Rs} {Q Q1 : VK} (r : RO K hx F ρ σ H O) (hp : Po K hx F W σ ((fa ρ).bind k) Q)
    (hk : ∀ d ρ1 v H1 O1, RO K hx F ρ1 σ H1 O1 → FSame (wo O H) (wo O1 H1) → DV K (wo O1 H1) v d → Po K hx F W σ (k d ρ1) Q → Q1 v H1) : tX K hx W fa σ H Q1 := by
  refine ⟨⟨O, H⟩, ρ, ⟨O, r.re⟩, ?_⟩
  cases e : fa ρ with
  | ok d ρ1 =>
    rw [e] at hp
    intro v H1 hv
    obtain ⟨O1, r1, dv⟩ := hv
    exact hk d ρ1 v H1 O1 (r1.fr_of r.fr) r1.fr.fs dv hp
  | err x ρ1 =>
    rw [e] at hp
    intro cls dd H1 hv
    obtain ⟨O1, r1, ev⟩ := hv
    exact hp cls dd H1 ⟨O1, r1.fr_of r.fr, ev⟩
  | stuck =>
    rw [e] at hp
    exact hp
/-- the same with a test first -/
theorem bindT {fa : EX} {k : D → En → Rs} {Q : VK} {Q1 : Bool → Hp → Prop} (r : RO K hx F ρ σ H O) (hp : Po K hx F W σ ((fa ρ).bind k) Q)
    (ht : ∀ d ρ1, Po K hx F W σ (k d ρ1) Q → ∃ b, truth d = some b)
    (hk : ∀ d b ρ1 H1 O1, truth d = some b → RO K hx F ρ1 σ H1 O1 → FSame (wo O H) (wo O1 H1) → Po K hx F W σ (k d ρ1) Q → Q1 b H1) : tT K hx W fa σ H Q1 := by
  refine ⟨⟨O, H⟩, ρ, ⟨O, r.re⟩, ?_⟩
  cases e : fa ρ with
  | ok d ρ1 =>
    rw [e] at hp
    obtain ⟨b, hb⟩ := ht d ρ1 hp
    refine ⟨b, hb, fun H1 hv => ?_⟩
    obtain ⟨O1, r1⟩ := hv
    exact hk d b ρ1 H1 O1 hb (r1.fr_of r.fr) r1.fr.fs hp
  | err x ρ1 =>
    rw [e] at hp
    intro cls dd H1 hv
    obtain ⟨O1, r1, ev⟩ := hv
    exact hp cls dd H1 ⟨O1, r1.fr_of r.fr, ev⟩
  | stuck =>
    rw [e] at hp
    exact hp
/-- .. all within a test -/
theorem bindTT {fa : EX} {k : D → En → Rs} {Q Q1 : Bool → Hp → Prop} (r : RO K hx F ρ σ H O) (hp : PoT K hx F W σ ((fa ρ).bind k) Q)
    (ht : ∀ d ρ1, PoT K hx F W σ (k d ρ1) Q → ∃ b, truth d = some b)
    (hk : ∀ d b ρ1 H1 O1, truth d = some b → RO K hx F ρ1 σ H1 O1 → FSame (wo O H) (wo O1 H1) → PoT K hx F W σ (k d ρ1) Q → Q1 b H1) : tT K hx W fa σ H Q1 := by
  refine ⟨⟨O, H⟩, ρ, ⟨O, r.re⟩, ?_⟩
  cases e : fa ρ with
  | ok d ρ1 =>
    rw [e] at hp
    obtain ⟨b, hb⟩ := ht d ρ1 hp
    refine ⟨b, hb, fun H1 hv => ?_⟩
    obtain ⟨O1, r1⟩ := hv
    exact hk d b ρ1 H1 O1 hb (r1.fr_of r.fr) r1.fr.fs hp
  | err x ρ1 =>
    rw [e] at hp
    intro cls dd H1 hv
    obtain ⟨O1, r1, ev⟩ := hv
    exact hp cls dd H1 ⟨O1, r1.fr_of r.fr, ev⟩
  | stuck =>
    rw [e] at hp
    exact hp
/-- an expression within a test -/
theorem bindXT {fa : EX} {k : D → En → Rs} {Q : Bool → Hp → Prop} {Q1 : VK} (r : RO K hx F ρ σ H O) (hp : PoT K hx F W σ ((fa ρ).bind k) Q)
    (hk : ∀ d ρ1 v H1 O1, RO K hx F ρ1 σ H1 O1 → FSame (wo O H) (wo O1 H1) → DV K (wo O1 H1) v d → PoT K hx F W σ (k d ρ1) Q → Q1 v H1) : tX K hx W fa σ H Q1 := by
  refine ⟨⟨O, H⟩, ρ, ⟨O, r.re⟩, ?_⟩
  cases e : fa ρ with
  | ok d ρ1 =>
    rw [e] at hp
    intro v H1 hv
    obtain ⟨O1, r1, dv⟩ := hv
    exact hk d ρ1 v H1 O1 (r1.fr_of r.fr) r1.fr.fs dv hp
  | err x ρ1 =>
    rw [e] at hp
    intro cls dd H1 hv
    obtain ⟨O1, r1, ev⟩ := hv
    exact hp cls dd H1 ⟨O1, r1.fr_of r.fr, ev⟩
  | stuck =>
    rw [e] at hp
    exact hp
end

/-! ### names, constants -/
def eVar (i : Nat) : EX := fun ρ => match ρ[i]? with
  | some (some (.val d)) => .ok d ρ
  | _ => .stuck
def eC (d : D) : EX := fun ρ => .ok d ρ
section
variable {X : Cx} {hx : Hx} {W : WX}
theorem r_var (i : Nat) {x : Str} {pos : Pos} (hN : X.N[i]? = some x := by rfl) (hv : Vis X.env.scope x := by first | exact Or.inl rfl | exact Or.inr (Or.inl rfl) | exact Or.inr (Or.inr rfl)) (hd : (x == ("__debug__" : Str)) = false := by decide)
    (hcd : (x == ("__classdict__" : Str)) = false := by decide) : PE X (.Name x pos) (tX X.kw hx W (eVar i)) := by
  refine (pe_var hN hv hd hcd).imp fun σ H Q h => ?_
  obtain ⟨F, ρ, ⟨O, r⟩, hp⟩ := h
  unfold eVar at hp
  cases e : ρ[i]? with
  | none => rw [e] at hp; exact hp.elim
  | some o =>
    rw [e] at hp
    cases o with
    | none => exact hp.elim
    | some s =>
      cases s with
      | val d =>
        obtain ⟨v, ev, h⟩ := r.sl i _ e
        exact ⟨v, ev, hp v H ⟨O, r, h⟩⟩
      | exc x => exact hp.elim
theorem r_int {i j pos} : PE X (.Constant (.int i) j pos) (tX X.kw hx W (eC (.int i))) := (pe_int).imp fun σ H Q h => by
  obtain ⟨F, ρ, ⟨O, r⟩, hp⟩ := h
  exact hp _ H ⟨O, r, .int i⟩
theorem r_bl {b j pos} : PE X (.Constant (.bool b) j pos) (tX X.kw hx W (eC (.bl b))) := (pe_bl).imp fun σ H Q h => by
  obtain ⟨F, ρ, ⟨O, r⟩, hp⟩ := h
  exact hp _ H ⟨O, r, .bl b⟩
theorem r_non {j pos} : PE X (.Constant .none j pos) (tX X.kw hx W (eC .non)) := (pe_non).imp fun σ H Q h => by
  obtain ⟨F, ρ, ⟨O, r⟩, hp⟩ := h
  exact hp _ H ⟨O, r, .non⟩
theorem r_str {x j pos} : PE X (.Constant (.str x) j pos) (tX X.kw hx W (eC (.str x))) := (pe_str).imp fun σ H Q h => by
  obtain ⟨F, ρ, ⟨O, r⟩, hp⟩ := h
  exact hp _ H ⟨O, r, .str x⟩
/-- a module's constant: what stands at it is the datum d in every heap -/
structure GC (K : Kw) (mg : Str → Option Value) (x : Str) (d : D) : Prop where
  ex : ∃ u v, mg x = some u ∧ RelV v u ∧ ∀ z, DV K z v d
theorem r_glob {x : Str} {d : D} {pos : Pos} (c : GC X.kw X.mg x d) (hg : Gl X x := by rfl) (hd : (x == ("__debug__" : Str)) = false := by decide) : PE X (.Name x pos) (tX X.kw hx W (eC d)) := by
  obtain ⟨u, v, hm, rv, dv⟩ := c.ex
  refine (pe_glob hg hm rv hd).imp fun σ H Q h => ?_
  obtain ⟨F, ρ, ⟨O, r⟩, hp⟩ := h
  exact hp _ H ⟨O, r, dv _⟩
end

/-! ### operators of two values -/
/-- r gives what op says -/
def Op2 (K : Kw) (r : R2) (op : D → D → Option D) : Prop := ∀ (O : Ow) (H : Hp) (x y : V) (d e res : D) (Q : VK), (∀ a ∈ O, ∃ o, H a = some o) → DV K (wo O H) x d → DV K (wo O H) y e → op d e = some res →
  (∀ v H', Same H H' → DV K (wo O H') v res → Q v H') → r x y H Q
def eB (op : D → D → Option D) (fa fb : EX) : EX := fun ρ => (fa ρ).bind fun d ρ1 => (fb ρ1).bind fun e ρ2 => match op d e with
  | some z => .ok z ρ2
  | none => .stuck
theorem t_op2 {K : Kw} {hx : Hx} {W : WX} {r : R2} {op : D → D → Option D} (ho : Op2 K r op) {fa fb : EX} {σ : MB.St} {H : Hp} {Q : VK} (h : tX K hx W (eB op fa fb) σ H Q) : tOp r (tX K hx W fa) (tX K hx W fb) σ H Q := by
  obtain ⟨F, ρ, ⟨O, r0⟩, hp⟩ := h
  refine bindX r0 hp fun d ρ1 v H1 O1 r1 s1 dv hp1 => ?_
  refine bindX r1 hp1 fun e ρ2 u H2 O2 r2 s2 du hp2 => ?_
  cases q : op d e with
  | none =>
    rw [q] at hp2
    exact hp2.elim
  | some z =>
    rw [q] at hp2
    exact ho O2 H2 v u d e z Q r2.dom (DV.mono s2 _ _ dv) du q fun v' H' s' dv' => hp2 v' H' ⟨O2, r2.grow s', dv'⟩
theorem t_op2T {K : Kw} {hx : Hx} {W : WX} {r : R2} {op : D → D → Option D} (ho : Op2 K r op) (hb : ∀ d e z, op d e = some z → ∃ b, z = .bl b) {fa fb : EX} {σ : MB.St} {H : Hp} {Q : Bool → Hp → Prop} (h : tT K hx W (eB op fa fb) σ H Q) :
    tTest (tOp r (tX K hx W fa) (tX K hx W fb)) σ H Q := by
  obtain ⟨F, ρ, ⟨O, r0⟩, hp⟩ := h
  refine bindXT r0 hp fun d ρ1 v H1 O1 r1 s1 dv hp1 => ?_
  refine bindXT r1 hp1 fun e ρ2 u H2 O2 r2 s2 du hp2 => ?_
  cases q : op d e with
  | none =>
    rw [q] at hp2
    exact hp2.elim
  | some z =>
    rw [q] at hp2
    obtain ⟨b, rfl⟩ := hb d e z q
    refine ho O2 H2 v u d e _ _ r2.dom (DV.mono s2 _ _ dv) du q fun v' H' s' dv' => ?_
    cases dv'
    obtain ⟨b', hb', k⟩ := hp2
    cases hb'
    exact ⟨b, rfl, k H' ⟨O2, r2.grow s'⟩⟩
section
variable {X : Cx} {hx : Hx} {W : WX} {a b : Expr} {fa fb : EX} {pos : Pos}
theorem r_bin {op : Operator} {r : R2} {f : D → D → Option D} (ho : OpR X (binaryOp op) r) (h2 : Op2 X.kw r f) (ha : PE X a (tX X.kw hx W fa)) (hb : PE X b (tX X.kw hx W fb)) : PE X (.BinOp a op b pos) (tX X.kw hx W (eB f fa fb)) :=
  (pe_op ho ha hb).imp fun _ _ _ h => t_op2 h2 h
theorem r_cmp {op : CmpOp} {r : R2} {f : D → D → Option D} (ho : OpR X (compareOp op) r) (h2 : Op2 X.kw r f) (ha : PE X a (tX X.kw hx W fa)) (hb : PE X b (tX X.kw hx W fb)) (hm : behindInMarks op b = false) : PE X (.Compare a [op] [b] pos) (tX X.kw hx W (eB f fa fb)) :=
  (pe_cmpR ho ha hb hm).imp fun _ _ _ h => t_op2 h2 h
theorem r_cmpT {op : CmpOp} {r : R2} {f : D → D → Option D} (ho : OpR X (compareOp op) r) (h2 : Op2 X.kw r f) (hbl : ∀ d e z, f d e = some z → ∃ b, z = .bl b) (ha : PE X a (tX X.kw hx W fa)) (hb : PE X b (tX X.kw hx W fb)) (hm : behindInMarks op b = false) :
    PT X (.Compare a [op] [b] pos) (tT X.kw hx W (eB f fa fb)) := (pt_cmpR ho ha hb hm).imp fun _ _ _ h => t_op2T h2 hbl h
end
end MB

/-! Operators by values. -/
namespace MB
open PySem PySem.Spec PyProof.Rows L2

/-! ### arithmetic -/
def mulOk (i j : Int) : Bool := decide (-(2 ^ 64) < i ∧ i < 2 ^ 64) || decide (-(2 ^ 64) < j ∧ j < 2 ^ 64) || decide (i.natAbs.log2 + j.natAbs.log2 < 1000000)
def divOk (_ j : Int) : Bool := decide (j ≠ 0 ∧ j.natAbs < 1073741824) || decide (0 < j ∧ j.natAbs.log2 < 9000)
def addD : D → D → Option D
  | .int i, .int j => some (.int (i + j))
  | .tup xs, .tup ys => if xs.length + ys.length ≤ sizeLine then some (.tup (xs ++ ys)) else none
  | .lst xs, .lst ys => if xs.length + ys.length ≤ sizeLine then some (.lst (xs ++ ys)) else none
  | .str x, .str y => if x.length + y.length ≤ sizeLine then some (.str (x ++ y)) else none
  | _, _ => none
def subD : D → D → Option D
  | .int i, .int j => some (.int (i - j))
  | _, _ => none
def mulD : D → D → Option D
  | .int i, .int j => if mulOk i j = true then some (.int (i * j)) else none
  | .lst xs, .int k => if (-(2 ^ 63) ≤ k ∧ k < 2 ^ 63) ∧ xs.length * k.toNat ≤ sizeLine then some (.lst (List.replicate k.toNat xs).flatten) else none
  | _, _ => none
def fdivD : D → D → Option D
  | .int i, .int j => if divOk i j = true then some (.int (i.fdiv j)) else none
  | _, _ => none
def modD : D → D → Option D
  | .int i, .int j => if j ≠ 0 then some (.int (i.fmod j)) else none
  | _, _ => none
def powD : D → D → Option D
  | .int i, .int j => if 0 ≤ j ∧ j ≤ 1000000 ∧ i.natAbs < 2 ^ 64 then some (.int (i ^ j.toNat)) else none
  | _, _ => none
def shlD : D → D → Option D
  | .int i, .int j => if 0 ≤ j ∧ j ≤ 1000000 ∧ i.natAbs < 2 ^ 64 then some (.int (i * 2 ^ j.toNat)) else none
  | _, _ => none
def orD : D → D → Option D
  | .int i, .int j => some (.int (Builtin.bitOr i j))
  | _, _ => none

section
variable {K : Kw} {H H' : Fz}
theorem DV.int_of {v : V} {i : Int} (h : DV K H v (.int i)) : v = .int i := by cases h; rfl
theorem DV.bl_of {v : V} {i : Bool} (h : DV K H v (.bl i)) : v = .bl i := by cases h; rfl
theorem DV.str_of {v : V} {i : Str} (h : DV K H v (.str i)) : v = .str i := by cases h; rfl
theorem DV.non_of {v : V} (h : DV K H v .non) : v = .non := by cases h; rfl
theorem DV.tup_of {v : V} {ds : List D} (h : DV K H v (.tup ds)) : ∃ a vs, v = .ref a ∧ SqT K.K H.h a vs ∧ DVs K H vs ds := by cases h with | tup a b => exact ⟨_, _, rfl, a, b⟩
theorem DV.lst_of {v : V} {ds : List D} (h : DV K H v (.lst ds)) : ∃ a vs, v = .ref a ∧ H.h a = some (.lst vs) ∧ DVs K H vs ds := by cases h with | lst a b => exact ⟨_, _, rfl, a, b⟩
end
theorem dom_out {H : Hp} {O : Ow} (h : ∀ a ∈ O, ∃ o, H a = some o) {p : Addr} (n : H p = none) : p ∉ O := fun m => by
  obtain ⟨o, e⟩ := h p m
  rw [n] at e
  cases e
/-- a new object at p -/
theorem wo_new {H : Hp} {O : Ow} {p : Addr} {o : HO} (n : p ∉ O) : (wo O (upd H p o)).h p = some o := (wo_out n).trans upd_same
theorem DV.newT {K : Kw} {H : Hp} {O : Ow} {p : Addr} {vs : List V} {ds : List D} (hd : ∀ a ∈ O, ∃ o, H a = some o) (n : H p = none) (h : DVs K (wo O H) vs ds) : DV K (wo O (upd H p (.tup vs))) (.ref p) (.tup ds) :=
  .tup (.of (wo_new (dom_out hd n))) (DVs.mono (wo_mono (same_upd n)) _ _ h)
theorem DV.newL {K : Kw} {H : Hp} {O : Ow} {p : Addr} {vs : List V} {ds : List D} (hd : ∀ a ∈ O, ∃ o, H a = some o) (n : H p = none) (h : DVs K (wo O H) vs ds) : DV K (wo O (upd H p (.lst vs))) (.ref p) (.lst ds) :=
  .lst (wo_new (dom_out hd n)) (DVs.mono (wo_mono (same_upd n)) _ _ h)

/-- the readings of the operators -/
def rAddD (K : Fg) : R2 := fun x y H Q => (∃ i j, x = .int i ∧ y = .int j ∧ Q (.int (i + j)) H) ∨ rCatA K x y H Q ∨ rCat x y H Q ∨ (∃ i j, x = .str i ∧ y = .str j ∧ i.length + j.length ≤ sizeLine ∧ Q (.str (i ++ j)) H)
section
variable {X : Cx}
theorem o_add : OpR X (binaryOp .Add) (rAddD X.K) := op_add.or (op_catA.or (op_cat.or op_add_str))
theorem s_add {K : Kw} : Op2 K (rAddD K.K) addD := by
  intro O H x y d e res Q hd hx hy h q
  cases d <;> cases e <;> try (cases h; done)
  · cases hx; cases hy
    cases h
    exact .inl ⟨_, _, rfl, rfl, q _ H (Same.refl H) (.int _)⟩
  · cases hx; cases hy
    rename_i i j
    have h' : (if i.length + j.length ≤ sizeLine then some (D.str (i ++ j)) else none) = some res := h
    split at h'
    · cases h'
      rename_i hl
      exact .inr (.inr (.inr ⟨_, _, rfl, rfl, hl, q _ H (Same.refl H) (.str _)⟩))
    · cases h'
  · rename_i xs ys
    have h' : (if xs.length + ys.length ≤ sizeLine then some (D.tup (xs ++ ys)) else none) = some res := h
    split at h'
    · cases h'
      rename_i hl
      obtain ⟨a, vs, rfl, sa, da⟩ := hx.tup_of
      obtain ⟨b, ws, rfl, sb, db⟩ := hy.tup_of
      have la := da.length
      have lb := db.length
      refine .inr (.inl ⟨a, b, vs, ws, rfl, rfl, sqT_mono (wo_same O H) sa, sqT_mono (wo_same O H) sb, by omega, fun z => ?_, fun _ z => ?_, fun _ _ p np => ?_⟩)
      · subst z
        cases da
        exact q _ H (Same.refl H) (.tup sb db)
      · subst z
        cases db
        rw [List.append_nil] at q
        exact q _ H (Same.refl H) (.tup sa da)
      · exact q _ _ (same_upd np) (DV.newT hd np (da.append db))
    · cases h'
  · rename_i xs ys
    have h' : (if xs.length + ys.length ≤ sizeLine then some (D.lst (xs ++ ys)) else none) = some res := h
    split at h'
    · cases h'
      rename_i hl
      obtain ⟨a, vs, rfl, sa, da⟩ := hx.lst_of
      obtain ⟨b, ws, rfl, sb, db⟩ := hy.lst_of
      have la := da.length
      have lb := db.length
      exact .inr (.inr (.inl ⟨a, b, vs, ws, rfl, rfl, wo_same O H _ _ sa, wo_same O H _ _ sb, by omega, fun p np => q _ _ (same_upd np) (DV.newL hd np (da.append db))⟩))
    · cases h'
theorem s_sub {K : Kw} : Op2 K (rI0 fun i j => .int (i - j)) subD := by
  intro O H x y d e res Q hd hx hy h q
  cases d <;> cases e <;> try (cases h; done)
  cases hx; cases hy; cases h
  exact ⟨_, _, rfl, rfl, q _ H (Same.refl H) (.int _)⟩
def rMulD : R2 := fun x y H Q => rI CMul (fun i j => .int (i * j)) x y H Q ∨ rI CMulW (fun i j => .int (i * j)) x y H Q ∨ rRep x y H Q
theorem o_mul : OpR X (binaryOp .Mult) rMulD := op_mul.or (op_mulW.or op_rep)
theorem flat_rep {K : Kw} {H : Fz} {vs : List V} {ds : List D} (h : DVs K H vs ds) : ∀ n : Nat, DVs K H (List.replicate n vs).flatten (List.replicate n ds).flatten
  | 0 => .nil
  | n + 1 => by
    rw [List.replicate_succ, List.replicate_succ, List.flatten_cons, List.flatten_cons]
    exact h.append (flat_rep h n)
theorem s_mul {K : Kw} : Op2 K rMulD mulD := by
  intro O H x y d e res Q hd hx hy h q
  cases d <;> cases e <;> try (cases h; done)
  · rename_i i j
    have h' : (if mulOk i j = true then some (D.int (i * j)) else none) = some res := h
    split at h'
    · cases h'
      rename_i hl
      cases hx; cases hy
      have fin := q _ H (Same.refl H) (.int (i * j))
      unfold mulOk at hl
      rw [Bool.or_eq_true, Bool.or_eq_true] at hl
      rcases hl with (hl | hl) | hl
      · exact .inl ⟨_, _, rfl, rfl, .inl (of_decide_eq_true hl), fin⟩
      · exact .inl ⟨_, _, rfl, rfl, .inr (of_decide_eq_true hl), fin⟩
      · exact .inr (.inl ⟨_, _, rfl, rfl, (of_decide_eq_true hl : i.natAbs.log2 + j.natAbs.log2 < 1000000), fin⟩)
    · cases h'
  · rename_i xs k
    have h' : (if (-(2 ^ 63) ≤ k ∧ k < 2 ^ 63) ∧ xs.length * k.toNat ≤ sizeLine then some (D.lst (List.replicate k.toNat xs).flatten) else none) = some res := h
    split at h'
    · cases h'
      rename_i hl
      obtain ⟨⟨h1, h2⟩, h3⟩ := hl
      obtain ⟨a, vs, rfl, sa, da⟩ := hx.lst_of
      cases hy
      have la := da.length
      exact .inr (.inr ⟨a, k, vs, rfl, rfl, wo_same O H _ _ sa, h1, h2, by rw [la]; exact h3, fun p np => q _ _ (same_upd np) (DV.newL hd np (flat_rep da _))⟩)
    · cases h'
def rDivD : R2 := fun x y H Q => rI CDivN (fun i j => .int (i.fdiv j)) x y H Q ∨ rI CDivW (fun i j => .int (i / j)) x y H Q
theorem o_fdiv : OpR X (binaryOp .FloorDiv) rDivD := op_fdivN.or op_fdivW
theorem s_fdiv {K : Kw} : Op2 K rDivD fdivD := by
  intro O H x y d e res Q hd hx hy h q
  cases d <;> cases e <;> try (cases h; done)
  rename_i i j
  have h' : (if divOk i j = true then some (D.int (i.fdiv j)) else none) = some res := h
  split at h'
  · cases h'
    rename_i hl
    cases hx; cases hy
    have fin := q _ H (Same.refl H) (.int (i.fdiv j))
    unfold divOk at hl
    rw [Bool.or_eq_true] at hl
    rcases hl with hl | hl
    · exact .inl ⟨_, _, rfl, rfl, (of_decide_eq_true hl : j ≠ 0 ∧ j.natAbs < 1073741824), fin⟩
    · have hl := of_decide_eq_true hl
      rw [Int.fdiv_eq_ediv_of_nonneg i (by omega)] at fin
      exact .inr ⟨_, _, rfl, rfl, hl, fin⟩
  · cases h'
theorem s_mod {K : Kw} : Op2 K (rI (fun _ j => j ≠ 0) fun i j => .int (i.fmod j)) modD := by
  intro O H x y d e res Q hd hx hy h q
  cases d <;> cases e <;> try (cases h; done)
  rename_i i j
  have h' : (if j ≠ 0 then some (D.int (i.fmod j)) else none) = some res := h
  split at h'
  · cases h'
    rename_i hl
    cases hx; cases hy
    exact ⟨_, _, rfl, rfl, hl, q _ H (Same.refl H) (.int _)⟩
  · cases h'
theorem s_pow {K : Kw} : Op2 K (rI CPow fun i j => .int (i ^ j.toNat)) powD := by
  intro O H x y d e res Q hd hx hy h q
  cases d <;> cases e <;> try (cases h; done)
  rename_i i j
  have h' : (if 0 ≤ j ∧ j ≤ 1000000 ∧ i.natAbs < 2 ^ 64 then some (D.int (i ^ j.toNat)) else none) = some res := h
  split at h'
  · cases h'
    rename_i hl
    cases hx; cases hy
    exact ⟨_, _, rfl, rfl, hl, q _ H (Same.refl H) (.int _)⟩
  · cases h'
theorem s_shl {K : Kw} : Op2 K (rI CPow fun i j => .int (i * 2 ^ j.toNat)) shlD := by
  intro O H x y d e res Q hd hx hy h q
  cases d <;> cases e <;> try (cases h; done)
  rename_i i j
  have h' : (if 0 ≤ j ∧ j ≤ 1000000 ∧ i.natAbs < 2 ^ 64 then some (D.int (i * 2 ^ j.toNat)) else none) = some res := h
  split at h'
  · cases h'
    rename_i hl
    cases hx; cases hy
    exact ⟨_, _, rfl, rfl, hl, q _ H (Same.refl H) (.int _)⟩
  · cases h'
theorem s_or {K : Kw} : Op2 K (rI0 fun i j => .int (Builtin.bitOr i j)) orD := by
  intro O H x y d e res Q hd hx hy h q
  cases d <;> cases e <;> try (cases h; done)
  cases hx; cases hy; cases h
  exact ⟨_, _, rfl, rfl, q _ H (Same.refl H) (.int _)⟩
end

/-! ### order -/
def cmpI (p : Int → Int → Bool) : D → D → Option D
  | .int i, .int j => some (.bl (p i j))
  | _, _ => none
abbrev ltD := cmpI fun i j => decide (i < j)
abbrev leD := cmpI fun i j => decide (i ≤ j)
abbrev gtD := cmpI fun i j => decide (j < i)
abbrev geD := cmpI fun i j => decide (j ≤ i)
theorem s_cmpI {K : Kw} (p : Int → Int → Bool) : Op2 K (rI0 fun i j => .bl (p i j)) (cmpI p) := by
  intro O H x y d e res Q hd hx hy h q
  cases d <;> cases e <;> try (cases h; done)
  cases hx; cases hy; cases h
  exact ⟨_, _, rfl, rfl, q _ H (Same.refl H) (.bl _)⟩
theorem b_cmpI {p : Int → Int → Bool} : ∀ d e z, cmpI p d e = some z → ∃ b, z = .bl b := by
  intro d e z h
  cases d <;> cases e <;> try (cases h; done)
  cases h
  exact ⟨_, rfl⟩

/-! ### equality -/
def flat : D → Bool
  | .non => true | .bl _ => true | .int _ => true | .str _ => true | _ => false
def flV : D → V
  | .non => .non | .bl b => .bl b | .int i => .int i | .str x => .str x | _ => .non
def eqF : D → D → Bool
  | .non, .non => true
  | .bl a, .bl b => a == b
  | .bl a, .int b => (if a then 1 else 0) == b
  | .int a, .bl b => a == (if b then 1 else 0)
  | .int a, .int b => a == b
  | .str a, .str b => a == b
  | _, _ => false
theorem flat_of {K : Kw} {H : Fz} {v : V} {d : D} (h : DV K H v d) (f : flat d = true) : v = flV d ∧ flatV v = true := by
  cases d <;> (try (cases f; done)) <;> cases h <;> exact ⟨rfl, rfl⟩
theorem eqV_flV {d e : D} (f : flat d = true) (g : flat e = true) : eqV (flV d) (flV e) = eqF d e := by
  cases d <;> (try (cases f; done)) <;> cases e <;> (try (cases g; done)) <;> rfl
mutual
def toPy : D → Option PyData
  | .non => some .none
  | .bl b => some (.bool b)
  | .int i => some (.int i)
  | .str x => some (.str x)
  | .tup xs => (toPys xs).map .tuple
  | .lst xs => (toPys xs).map .list
  | _ => none
def toPys : List D → Option (List PyData)
  | [] => some []
  | x :: xs => (toPy x).bind fun p => (toPys xs).map fun ps => p :: ps
end
section
variable {K : Kw} {H : Fz}
mutual
theorem dp_of : ∀ (d : D) (v : V) (p : PyData), DV K H v d → toPy d = some p → Dp K.K H.h v p
  | .non, _, _, h, e => by cases h; cases e; exact .non
  | .bl b, _, _, h, e => by cases h; cases e; exact .bl b
  | .int b, _, _, h, e => by cases h; cases e; exact .int b
  | .str b, _, _, h, e => by cases h; cases e; exact .str b
  | .fn _, _, _, _, e => by cases e
  | .scr _, _, _, _, e => by cases e
  | .dct _ _, _, _, _, e => by cases e
  | .obj _ _ _, _, _, _, e => by cases e
  | .ce _, _, _, _, e => by cases e
  | .tup ds, _, _, h, e => by
    rw [toPy] at e
    obtain ⟨ps, e1, e2⟩ := Option.map_eq_some_iff.mp e
    subst e2
    obtain ⟨a, vs, rfl, s, t⟩ := h.tup_of
    exact .tup s (dps_of ds vs ps t e1)
  | .lst ds, _, _, h, e => by
    rw [toPy] at e
    obtain ⟨ps, e1, e2⟩ := Option.map_eq_some_iff.mp e
    subst e2
    obtain ⟨a, vs, rfl, s, t⟩ := h.lst_of
    exact .lst (.of s) (dps_of ds vs ps t e1)
theorem dps_of : ∀ (ds : List D) (vs : List V) (ps : List PyData), DVs K H vs ds → toPys ds = some ps → DpAll K.K H.h vs ps
  | [], _, _, h, e => by cases h; cases e; exact .nil
  | d :: ds, _, _, h, e => by
    rw [toPys] at e
    obtain ⟨p, e1, e2⟩ := Option.bind_eq_some_iff.mp e
    obtain ⟨ps, e3, e4⟩ := Option.map_eq_some_iff.mp e2
    subst e4
    cases h with
    | cons a b => exact .cons (dp_of d _ p a e1) (dps_of ds _ ps b e3)
end
end
/-- == by data: scalars of one kind, or data at any depth -/
def scalD : D → D → Bool
  | .int _, .int _ => true | .bl _, .bl _ => true | .str _, .str _ => true | _, _ => false
def eqB (d e : D) : Option Bool := if scalD d e = true then some (eqF d e) else
  match toPy d, toPy e with
  | some a, some b => if (SeqAt.shaped a && SeqAt.shaped b) = true then some (PyData.eqv a b) else none
  | _, _ => none
def eqD (d e : D) : Option D := (eqB d e).map .bl
def neD (d e : D) : Option D := (eqB d e).map fun b => .bl (!b)
def rEqM (K : Fg) : R2 := fun x y H Q => rEq x y H Q ∨ rEqD K x y H Q
def rNeM (K : Fg) : R2 := fun x y H Q => rNe x y H Q ∨ rNeD K x y H Q
section
variable {X : Cx}
theorem o_eq (hu : X.A.units + 64 < cLine) : OpR X (compareOp .Eq) (rEqM X.K) := op_eq.or (op_eqD hu)
theorem o_ne (hu : X.A.units + 64 < cLine) : OpR X (compareOp .NotEq) (rNeM X.K) := op_ne.or (op_neD hu)
end
theorem eqB_scal {K : Kw} {H : Fz} {x y : V} {d e : D} (hx : DV K H x d) (hy : DV K H y e) (s : scalD d e = true) : scal x y = true ∧ decide (x = y) = eqF d e := by
  cases d <;> (try (cases s; done)) <;> cases e <;> (try (cases s; done)) <;> cases hx <;> cases hy
  · exact ⟨rfl, by rw [dec_bl]; rfl⟩
  · exact ⟨rfl, by rw [dec_int]; rfl⟩
  · exact ⟨rfl, by rw [dec_str]; rfl⟩
theorem eqB_data {d e : D} {b : Bool} (s : scalD d e = false) (h : eqB d e = some b) : ∃ p q, toPy d = some p ∧ toPy e = some q ∧ SeqAt.shaped p = true ∧ SeqAt.shaped q = true ∧ b = PyData.eqv p q := by
  unfold eqB at h
  rw [if_neg (by rw [s]; decide)] at h
  cases h1 : toPy d with
  | none => rw [h1] at h; cases h
  | some p =>
    cases h2 : toPy e with
    | none => rw [h1, h2] at h; cases h
    | some q =>
      rw [h1, h2] at h
      have h' : (if (SeqAt.shaped p && SeqAt.shaped q) = true then some (PyData.eqv p q) else none) = some b := h
      split at h'
      · rename_i c
        obtain ⟨c1, c2⟩ := Bool.and_eq_true_iff.mp c
        cases h'
        exact ⟨p, q, rfl, rfl, c1, c2, rfl⟩
      · cases h'
theorem s_eq {K : Kw} : Op2 K (rEqM K.K) eqD := by
  intro O H x y d e res Q hd hx hy h q
  obtain ⟨b, hb, rfl⟩ := Option.map_eq_some_iff.mp h
  cases s : scalD d e with
  | true =>
    obtain ⟨h1, h2⟩ := eqB_scal hx hy s
    have : b = eqF d e := by
      unfold eqB at hb
      rw [if_pos s] at hb
      exact (Option.some.inj hb).symm
    subst this
    exact .inl ⟨h1, by rw [h2]; exact q _ H (Same.refl H) (.bl _)⟩
  | false =>
    obtain ⟨p, r, h1, h2, h3, h4, rfl⟩ := eqB_data s hb
    exact .inr ⟨p, r, dp_of d x p (DV.mono (wo_al O H) _ _ hx) h1, dp_of e y r (DV.mono (wo_al O H) _ _ hy) h2, h3, h4, q _ H (Same.refl H) (.bl _)⟩
theorem s_ne {K : Kw} : Op2 K (rNeM K.K) neD := by
  intro O H x y d e res Q hd hx hy h q
  obtain ⟨b, hb, rfl⟩ := Option.map_eq_some_iff.mp h
  cases s : scalD d e with
  | true =>
    obtain ⟨h1, h2⟩ := eqB_scal hx hy s
    have : b = eqF d e := by
      unfold eqB at hb
      rw [if_pos s] at hb
      exact (Option.some.inj hb).symm
    subst this
    exact .inl ⟨h1, by rw [h2]; exact q _ H (Same.refl H) (.bl _)⟩
  | false =>
    obtain ⟨p, r, h1, h2, h3, h4, rfl⟩ := eqB_data s hb
    exact .inr ⟨p, r, dp_of d x p (DV.mono (wo_al O H) _ _ hx) h1, dp_of e y r (DV.mono (wo_al O H) _ _ hy) h2, h3, h4, q _ H (Same.refl H) (.bl _)⟩
theorem b_eq : ∀ d e z, eqD d e = some z → ∃ b, z = .bl b := fun d e z h => by
  obtain ⟨b, _, rfl⟩ := Option.map_eq_some_iff.mp h
  exact ⟨b, rfl⟩
theorem b_ne : ∀ d e z, neD d e = some z → ∃ b, z = .bl b := fun d e z h => by
  obtain ⟨b, _, rfl⟩ := Option.map_eq_some_iff.mp h
  exact ⟨_, rfl⟩

/-! ### is None, in -/
def isNo : D → Bool
  | .non => true
  | _ => false
def isD : D → D → Option D
  | d, .non => some (.bl (isNo d))
  | _, _ => none
def isntD : D → D → Option D
  | d, .non => some (.bl (!isNo d))
  | _, _ => none
theorem isNo_of {K : Kw} {H : Fz} {v : V} {d : D} (h : DV K H v d) : decide (v = V.non) = isNo d := by
  cases d <;> cases h <;> rfl
theorem s_is {K : Kw} : Op2 K (fun x y H Q => y = .non ∧ Q (.bl (decide (x = .non))) H) isD := by
  intro O H x y d e res Q hd hx hy h q
  cases e <;> (try (cases d <;> cases h; done))
  cases hy
  have h' : some (D.bl (isNo d)) = some res := by cases d <;> exact h
  cases h'
  exact ⟨rfl, by rw [isNo_of hx]; exact q _ H (Same.refl H) (.bl _)⟩
theorem s_isnt {K : Kw} : Op2 K (fun x y H Q => y = .non ∧ Q (.bl (!decide (x = .non))) H) isntD := by
  intro O H x y d e res Q hd hx hy h q
  cases e <;> (try (cases d <;> cases h; done))
  cases hy
  have h' : some (D.bl (!isNo d)) = some res := by cases d <;> exact h
  cases h'
  exact ⟨rfl, by rw [isNo_of hx]; exact q _ H (Same.refl H) (.bl _)⟩
theorem b_is : ∀ d e z, isD d e = some z → ∃ b, z = .bl b := fun d e z h => by
  cases e <;> (try (cases d <;> cases h; done))
  cases d <;> cases h <;> exact ⟨_, rfl⟩
theorem b_isnt : ∀ d e z, isntD d e = some z → ∃ b, z = .bl b := fun d e z h => by
  cases e <;> (try (cases d <;> cases h; done))
  cases d <;> cases h <;> exact ⟨_, rfl⟩
def inB (d : D) (xs : List D) : Option Bool := if (flat d && xs.all flat) = true then some (xs.any fun y => eqF y d) else none
def inD : D → D → Option D
  | d, .tup xs => (inB d xs).map .bl
  | d, .lst xs => (inB d xs).map .bl
  | _, _ => none
def ninD : D → D → Option D
  | d, .tup xs => (inB d xs).map fun b => .bl (!b)
  | d, .lst xs => (inB d xs).map fun b => .bl (!b)
  | _, _ => none
theorem flats_of {K : Kw} {H : Fz} : ∀ {vs : List V} {ds : List D}, DVs K H vs ds → ds.all flat = true → vs = ds.map flV ∧ vs.all flatV = true
  | _, _, .nil, _ => ⟨rfl, rfl⟩
  | _, _, .cons a t, f => by
    rw [List.all_cons, Bool.and_eq_true] at f
    obtain ⟨e1, f1⟩ := flat_of a f.1
    obtain ⟨e2, f2⟩ := flats_of t f.2
    refine ⟨by rw [e1, e2]; rfl, ?_⟩
    rw [List.all_cons, f1, f2]
    rfl
theorem any_flV {d : D} (f : flat d = true) : ∀ {ds : List D}, ds.all flat = true → ((ds.map flV).any fun y => eqV y (flV d)) = ds.any fun y => eqF y d
  | [], _ => rfl
  | e :: ds, g => by
    rw [List.all_cons, Bool.and_eq_true] at g
    rw [List.map_cons, List.any_cons, List.any_cons, eqV_flV g.1 f, any_flV f g.2]
theorem in_core {K : Kw} {H : Fz} {x : V} {vs : List V} {d : D} {ds : List D} {b : Bool} (hx : DV K H x d) (hv : DVs K H vs ds) (h : inB d ds = some b) : flatV x = true ∧ vs.all flatV = true ∧ inV x vs = b := by
  unfold inB at h
  split at h
  · rename_i c
    obtain ⟨c1, c2⟩ := Bool.and_eq_true_iff.mp c
    cases h
    obtain ⟨rfl, f1⟩ := flat_of hx c1
    obtain ⟨rfl, f2⟩ := flats_of hv c2
    exact ⟨f1, f2, any_flV c1 c2⟩
  · cases h
theorem s_in {K : Kw} : Op2 K (rIn K.K false) inD := by
  intro O H x y d e res Q hd hx hy h q
  cases e <;> (try (cases d <;> cases h; done))
  · rename_i xs
    have h' : (inB d xs).map D.bl = some res := by cases d <;> exact h
    obtain ⟨b, hb, rfl⟩ := Option.map_eq_some_iff.mp h'
    obtain ⟨a, vs, rfl, sa, da⟩ := hy.tup_of
    obtain ⟨f1, f2, rfl⟩ := in_core hx da hb
    exact ⟨a, vs, rfl, .inr (sqT_mono (wo_same O H) sa), f1, f2, q _ H (Same.refl H) (.bl _)⟩
  · rename_i xs
    have h' : (inB d xs).map D.bl = some res := by cases d <;> exact h
    obtain ⟨b, hb, rfl⟩ := Option.map_eq_some_iff.mp h'
    obtain ⟨a, vs, rfl, sa, da⟩ := hy.lst_of
    obtain ⟨f1, f2, rfl⟩ := in_core hx da hb
    exact ⟨a, vs, rfl, .inl (.of (wo_same O H _ _ sa)), f1, f2, q _ H (Same.refl H) (.bl _)⟩
theorem s_nin {K : Kw} : Op2 K (rIn K.K true) ninD := by
  intro O H x y d e res Q hd hx hy h q
  cases e <;> (try (cases d <;> cases h; done))
  · rename_i xs
    have h' : (inB d xs).map (fun b => D.bl (!b)) = some res := by cases d <;> exact h
    obtain ⟨b, hb, rfl⟩ := Option.map_eq_some_iff.mp h'
    obtain ⟨a, vs, rfl, sa, da⟩ := hy.tup_of
    obtain ⟨f1, f2, rfl⟩ := in_core hx da hb
    exact ⟨a, vs, rfl, .inr (sqT_mono (wo_same O H) sa), f1, f2, q _ H (Same.refl H) (.bl _)⟩
  · rename_i xs
    have h' : (inB d xs).map (fun b => D.bl (!b)) = some res := by cases d <;> exact h
    obtain ⟨b, hb, rfl⟩ := Option.map_eq_some_iff.mp h'
    obtain ⟨a, vs, rfl, sa, da⟩ := hy.lst_of
    obtain ⟨f1, f2, rfl⟩ := in_core hx da hb
    exact ⟨a, vs, rfl, .inl (.of (wo_same O H _ _ sa)), f1, f2, q _ H (Same.refl H) (.bl _)⟩
theorem b_in : ∀ d e z, inD d e = some z → ∃ b, z = .bl b := fun d e z h => by
  cases e <;> (try (cases d <;> cases h; done)) <;> (rename_i xs; have h' : (inB d xs).map D.bl = some z := (by cases d <;> exact h); obtain ⟨b, _, rfl⟩ := Option.map_eq_some_iff.mp h'; exact ⟨b, rfl⟩)
theorem b_nin : ∀ d e z, ninD d e = some z → ∃ b, z = .bl b := fun d e z h => by
  cases e <;> (try (cases d <;> cases h; done)) <;> (rename_i xs; have h' : (inB d xs).map (fun b => D.bl (!b)) = some z := (by cases d <;> exact h); obtain ⟨b, _, rfl⟩ := Option.map_eq_some_iff.mp h'; exact ⟨_, rfl⟩)
end MB

/-! Expressions by values, further: truth, displays, places, calls. -/
namespace MB
open PySem PySem.Spec PyProof.Rows L2

/-! ### truth -/
theorem truV_of {K : Kw} {H : Fz} {v : V} {d : D} {b : Bool} (h : DV K H v d) (t : truth d = some b) : TruV K.K v H.h b := by
  cases d <;> (try (cases t; done)) <;> cases h
  · cases t; rfl
  · cases t; rfl
  · cases t; rfl
  · rename_i ds a vs s hs
    cases t
    refine .inr (.inl ⟨vs, s, ?_⟩)
    cases hs <;> rfl
  · rename_i ds a vs s hs
    cases t
    refine .inl ⟨vs, .of s, ?_⟩
    cases hs <;> rfl
def eNot (fa : EX) : EX := fun ρ => (fa ρ).bind fun d ρ1 => match truth d with
  | some b => .ok (.bl (!b)) ρ1
  | none => .stuck
def eAnd (fa fb : EX) : EX := fun ρ => (fa ρ).bind fun d ρ1 => match truth d with
  | some true => fb ρ1
  | some false => .ok d ρ1
  | none => .stuck
def eOr (fa fb : EX) : EX := fun ρ => (fa ρ).bind fun d ρ1 => match truth d with
  | some true => .ok d ρ1
  | some false => fb ρ1
  | none => .stuck
def eIf (ft fa fb : EX) : EX := fun ρ => (ft ρ).bind fun d ρ1 => match truth d with
  | some true => fa ρ1
  | some false => fb ρ1
  | none => .stuck
section
variable {X : Cx} {hx : Hx} {W : WX} {a b c : Expr} {rest : List Expr} {fa fb fc : EX} {pos : Pos}
/-- an expression of any kind as a test -/
theorem r_tru (ha : PE X a (tX X.kw hx W fa)) (he : ∀ whole, isTrue a X.env whole = (do let v ← whole; standAt a.pos; holding [v] (truthy v)) := by intro _; rfl) : PT X a (tT X.kw hx W fa) :=
  (pt_truth ha he).imp fun σ H Q h => by
    obtain ⟨F, ρ, ⟨O, r⟩, hp⟩ := h
    refine ⟨F, ρ, ⟨O, r⟩, ?_⟩
    cases e : fa ρ with
    | ok d ρ1 =>
      rw [e] at hp
      obtain ⟨k, hb, hk⟩ := hp
      intro v H1 hv
      obtain ⟨O1, r1, dv⟩ := hv
      exact ⟨k, truV_of (DV.mono (wo_al O1 H1) _ _ dv) hb, hk H1 ⟨O1, r1⟩⟩
    | err x ρ1 => rw [e] at hp; exact hp
    | stuck => rw [e] at hp; exact hp
theorem r_notT (ha : PT X a (tT X.kw hx W fa)) : PT X (.UnaryOp .Not a pos) (tT X.kw hx W (eNot fa)) :=
  (pt_not ha).imp fun σ H Q h => by
    obtain ⟨F, ρ, ⟨O, r⟩, hp⟩ := h
    refine bindTT r hp (fun d ρ1 q => ?_) fun d b ρ1 H1 O1 tb r1 s1 q => ?_
    · cases t : truth d with
      | none => rw [t] at q; exact q.elim
      | some b => exact ⟨b, rfl⟩
    · rw [tb] at q
      obtain ⟨b', hb', k⟩ := q
      cases hb'
      exact k H1 ⟨O1, r1⟩
theorem r_not (ha : PE X a (tX X.kw hx W fa)) : PE X (.UnaryOp .Not a pos) (tX X.kw hx W (eNot fa)) :=
  (pe_notT ha).imp fun σ H Q h => by
    obtain ⟨F, ρ, ⟨O, r⟩, hp⟩ := h
    refine bindX r hp fun d ρ1 v H1 O1 r1 s1 dv q => ?_
    cases t : truth d with
    | none => rw [t] at q; exact q.elim
    | some b =>
      rw [t] at q
      exact ⟨b, truV_of (DV.mono (wo_al O1 H1) _ _ dv) t, q _ H1 ⟨O1, r1, .bl _⟩⟩
theorem r_and (ha : PE X a (tX X.kw hx W fa)) (hb : PE X (.BoolOp .And (b :: rest) pos) (tX X.kw hx W fb)) : PE X (.BoolOp .And (a :: b :: rest) pos) (tX X.kw hx W (eAnd fa fb)) :=
  (pe_andT ha hb).imp fun σ H Q h => by
    obtain ⟨F, ρ, ⟨O, r⟩, hp⟩ := h
    refine bindX r hp fun d ρ1 v H1 O1 r1 s1 dv q => ?_
    cases t : truth d with
    | none => rw [t] at q; exact q.elim
    | some b =>
      rw [t] at q
      refine ⟨b, truV_of (DV.mono (wo_al O1 H1) _ _ dv) t, ?_⟩
      cases b with
      | true =>
        first
          | exact ⟨F, ρ1, ⟨O1, r1⟩, q⟩
          | (rw [if_pos rfl]; exact ⟨F, ρ1, ⟨O1, r1⟩, q⟩)
      | false =>
        first
          | exact q _ H1 ⟨O1, r1, dv⟩
          | (rw [if_neg Bool.false_ne_true]; exact q _ H1 ⟨O1, r1, dv⟩)
theorem r_or (ha : PE X a (tX X.kw hx W fa)) (hb : PE X (.BoolOp .Or (b :: rest) pos) (tX X.kw hx W fb)) : PE X (.BoolOp .Or (a :: b :: rest) pos) (tX X.kw hx W (eOr fa fb)) :=
  (pe_orT ha hb).imp fun σ H Q h => by
    obtain ⟨F, ρ, ⟨O, r⟩, hp⟩ := h
    refine bindX r hp fun d ρ1 v H1 O1 r1 s1 dv q => ?_
    cases t : truth d with
    | none => rw [t] at q; exact q.elim
    | some b =>
      rw [t] at q
      refine ⟨b, truV_of (DV.mono (wo_al O1 H1) _ _ dv) t, ?_⟩
      cases b with
      | true =>
        first
          | exact q _ H1 ⟨O1, r1, dv⟩
          | (rw [if_pos rfl]; exact q _ H1 ⟨O1, r1, dv⟩)
      | false =>
        first
          | exact ⟨F, ρ1, ⟨O1, r1⟩, q⟩
          | (rw [if_neg Bool.false_ne_true]; exact ⟨F, ρ1, ⟨O1, r1⟩, q⟩)
theorem r_one {op} (ha : PE X a (tX X.kw hx W fa)) : PE X (.BoolOp op [a] pos) (tX X.kw hx W fa) := pe_one ha
theorem r_andT (ha : PT X a (tT X.kw hx W fa)) (hb : PW X (.BoolOp .And (b :: rest) pos) (tT X.kw hx W fb)) : PW X (.BoolOp .And (a :: b :: rest) pos) (tT X.kw hx W (eAnd fa fb)) :=
  (pw_and ha hb).imp fun σ H Q h => by
    obtain ⟨F, ρ, ⟨O, r⟩, hp⟩ := h
    refine bindTT r hp (fun d ρ1 q => ?_) fun d b ρ1 H1 O1 tb r1 s1 q => ?_
    · cases t : truth d with
      | none => rw [t] at q; exact q.elim
      | some b => exact ⟨b, rfl⟩
    · rw [tb] at q
      cases b with
      | true =>
        rw [if_pos rfl]
        exact ⟨F, ρ1, ⟨O1, r1⟩, q⟩
      | false =>
        rw [if_neg Bool.false_ne_true]
        obtain ⟨b', hb', k⟩ := q
        rw [tb] at hb'
        cases hb'
        exact k H1 ⟨O1, r1⟩
theorem r_orT (ha : PT X a (tT X.kw hx W fa)) (hb : PW X (.BoolOp .Or (b :: rest) pos) (tT X.kw hx W fb)) : PW X (.BoolOp .Or (a :: b :: rest) pos) (tT X.kw hx W (eOr fa fb)) :=
  (pw_or ha hb).imp fun σ H Q h => by
    obtain ⟨F, ρ, ⟨O, r⟩, hp⟩ := h
    refine bindTT r hp (fun d ρ1 q => ?_) fun d b ρ1 H1 O1 tb r1 s1 q => ?_
    · cases t : truth d with
      | none => rw [t] at q; exact q.elim
      | some b => exact ⟨b, rfl⟩
    · rw [tb] at q
      cases b with
      | true =>
        rw [if_pos rfl]
        obtain ⟨b', hb', k⟩ := q
        rw [tb] at hb'
        cases hb'
        exact k H1 ⟨O1, r1⟩
      | false =>
        rw [if_neg Bool.false_ne_true]
        exact ⟨F, ρ1, ⟨O1, r1⟩, q⟩
theorem r_andT1 (ha : PT X a (tT X.kw hx W fa)) : PW X (.BoolOp .And [a] pos) (tT X.kw hx W fa) := pw_and1 ha
theorem r_orT1 (ha : PT X a (tT X.kw hx W fa)) : PW X (.BoolOp .Or [a] pos) (tT X.kw hx W fa) := pw_or1 ha
theorem r_ifE (hc : PT X c (tT X.kw hx W fc)) (ha : PE X a (tX X.kw hx W fa)) (hb : PE X b (tX X.kw hx W fb)) : PE X (.IfExp c a b pos) (tX X.kw hx W (eIf fc fa fb)) :=
  (pe_ifExp hc ha hb).imp fun σ H Q h => by
    obtain ⟨F, ρ, ⟨O, r⟩, hp⟩ := h
    refine bindT r hp (fun d ρ1 q => ?_) fun d b ρ1 H1 O1 tb r1 s1 q => ?_
    · cases t : truth d with
      | none => rw [t] at q; exact q.elim
      | some b => exact ⟨b, rfl⟩
    · rw [tb] at q
      cases b with
      | true =>
        rw [if_pos rfl]
        exact ⟨F, ρ1, ⟨O1, r1⟩, q⟩
      | false =>
        rw [if_neg Bool.false_ne_true]
        exact ⟨F, ρ1, ⟨O1, r1⟩, q⟩
/-! ### a chain of two comparisons -/
def eChain (f g : D → D → Option D) (fa fb fc : EX) : EX := fun ρ => (fa ρ).bind fun d ρ1 => (fb ρ1).bind fun e ρ2 => match f d e with
  | some (.bl true) => (fc ρ2).bind fun z ρ3 => match g e z with
    | some y => .ok y ρ3
    | none => .stuck
  | some (.bl false) => .ok (.bl false) ρ2
  | _ => .stuck
theorem r_chainT {op op' : CmpOp} {r r' : R2} {f g : D → D → Option D} (ho : OpR X (compareOp op) r) (ho' : OpR X (compareOp op') r') (h2 : Op2 X.kw r f) (h2' : Op2 X.kw r' g) (hbl : ∀ d e z, g d e = some z → ∃ b, z = .bl b)
    (ha : PE X a (tX X.kw hx W fa)) (hb : PE X b (tX X.kw hx W fb)) (hc : PE X c (tX X.kw hx W fc)) (hm : lastMarks [op, op'] [b, c] = false := by with_unfolding_all rfl) :
    PT X (.Compare a [op, op'] [b, c] pos) (tT X.kw hx W (eChain f g fa fb fc)) :=
  (pt_chain ho ho' ha hb hc hm).imp fun σ H Q h => by
    obtain ⟨F, ρ, ⟨O, r⟩, hp⟩ := h
    refine bindXT r hp fun d ρ1 v H1 O1 r1 s1 dv hp1 => ?_
    refine bindXT r1 hp1 fun e ρ2 u H2 O2 r2 s2 du hp2 => ?_
    cases q : f d e with
    | none => rw [q] at hp2; exact hp2.elim
    | some z =>
      rw [q] at hp2
      refine h2 O2 H2 v u d e z _ r2.dom (DV.mono s2 _ _ dv) du q fun v' H' s' dv' => ?_
      cases z <;> (try exact (hp2 : False).elim)
      rename_i b
      cases dv'
      refine ⟨b, rfl, ?_⟩
      have r3 := r2.grow s'
      cases b with
      | false =>
        rw [if_neg Bool.false_ne_true]
        obtain ⟨b', hb', k⟩ := hp2
        cases hb'
        exact ⟨false, rfl, k H' ⟨O2, r3⟩⟩
      | true =>
        rw [if_pos rfl]
        refine bindXT r3 hp2 fun z ρ3 w' H4 O4 r4 s4 dw hp3 => ?_
        cases q2 : g e z with
        | none => rw [q2] at hp3; exact hp3.elim
        | some y =>
          rw [q2] at hp3
          obtain ⟨b2, rfl⟩ := hbl e z y q2
          refine h2' O4 H4 u w' e z _ _ r4.dom (DV.mono ((wo_mono s').trans s4) _ _ du) dw q2 fun v5 H5 s5 dv5 => ?_
          cases dv5
          obtain ⟨b', hb', k⟩ := hp3
          cases hb'
          exact ⟨b2, rfl, k H5 ⟨O4, r4.grow s5⟩⟩
end

/-! ### one value -/
def Op1 (K : Kw) (r : V → Hp → VK → Prop) (op : D → Option D) : Prop := ∀ (O : Ow) (H : Hp) (x : V) (d res : D) (Q : VK), (∀ a ∈ O, ∃ o, H a = some o) → DV K (wo O H) x d → op d = some res →
  (∀ v H', Same H H' → DV K (wo O H') v res → Q v H') → r x H Q
def e1 (op : D → Option D) (fa : EX) : EX := fun ρ => (fa ρ).bind fun d ρ1 => match op d with
  | some z => .ok z ρ1
  | none => .stuck
def negD : D → Option D
  | .int i => some (.int (-i))
  | _ => none
theorem s_neg {K : Kw} : Op1 K (rU fun i => .int (-i)) negD := by
  intro O H x d res Q hd hx h q
  cases d <;> (try (cases h; done))
  cases hx; cases h
  exact ⟨_, rfl, q _ H (Same.refl H) (.int _)⟩
theorem r_un {X : Cx} {hx : Hx} {W : WX} {op : UnaryOp} {r : V → Hp → VK → Prop} {f : D → Option D} {a : Expr} {fa : EX} {pos : Pos} (ho : UnR X (unaryOp op) r) (h1 : Op1 X.kw r f) (ha : PE X a (tX X.kw hx W fa)) :
    PE X (.UnaryOp op a pos) (tX X.kw hx W (e1 f fa)) := (pe_un ho ha).imp fun σ H Q h => by
  obtain ⟨F, ρ, ⟨O, r0⟩, hp⟩ := h
  refine bindX r0 hp fun d ρ1 v H1 O1 r1 s1 dv hp1 => ?_
  cases q : f d with
  | none => rw [q] at hp1; exact hp1.elim
  | some z =>
    rw [q] at hp1
    exact h1 O1 H1 v d z Q r1.dom dv q fun v' H' s' dv' => hp1 v' H' ⟨O1, r1.grow s', dv'⟩

/-! ### several values, from the left -/
def evs : List EX → (List D → En → Rs) → En → Rs
  | [], k, ρ => k [] ρ
  | f :: fs, k, ρ => (f ρ).bind fun d ρ1 => evs fs (fun ds ρ2 => k (d :: ds) ρ2) ρ1
def tA (K : Kw) (hx : Hx) (W : WX) (fs : List EX) : TA := fun σ H Qa => ∃ (F : Fm) (ρ : En) (k : List D → En → Rs) (Q : VK), Rl K hx F ρ σ H ∧ Po K hx F W σ (evs fs k ρ) Q ∧
  ∀ (F1 : Fm) (ds : List D) (ρ1 : En) (vs : List V) (H1 : Hp) (O1 : Ow), ds.length = fs.length → Stp F.O F.H F1.O F1.H → RO K hx F1 ρ1 σ H1 O1 → DVs K (wo O1 H1) vs ds → Po K hx F1 W σ (k ds ρ1) Q → Qa vs H1
theorem _root_.L2.PA.imp {X : Cx} {es : List Expr} {t t' : TA} (h : PA X es t) (i : ∀ σ H Q, t' σ H Q → t σ H Q) : PA X es t' := ⟨fun pos pins s σ H Q I q => h.run pos pins s σ H Q I (i σ H Q q)⟩
section
variable {X : Cx} {hx : Hx} {W : WX} {e : Expr} {es : List Expr} {f : EX} {fs : List EX} {pos : Pos}
theorem a_nil : PA X [] (tA X.kw hx W []) := pa_nil.imp fun σ H Q h => by
  obtain ⟨F, ρ, k, Q0, ⟨O, r⟩, hp, hk⟩ := h
  exact hk F [] ρ [] H O rfl (Stp.refl _ _) r .nil hp
theorem a_cons (ha : PE X e (tX X.kw hx W f)) (hr : PA X es (tA X.kw hx W fs)) (hs : starEach (e :: es) X.env = (false, eval e X.env) :: starEach es X.env := by rfl) : PA X (e :: es) (tA X.kw hx W (f :: fs)) :=
  (pa_cons ha hr hs).imp fun σ H Qa h => by
    obtain ⟨F, ρ, k, Q, ⟨O, r⟩, hp, hk⟩ := h
    refine bindX r hp fun d ρ1 v H1 O1 r1 s1 dv hp1 => ?_
    refine ⟨⟨O1, H1⟩, ρ1, fun ds ρ2 => k (d :: ds) ρ2, Q, ⟨O1, r1.re⟩, hp1.fr r1.fr, fun F1 ds ρ2 vs H2 O2 ln s2 r2 dvs q => ?_⟩
    exact hk F1 (d :: ds) ρ2 (v :: vs) H2 O2 (by rw [List.length_cons, List.length_cons, ln]) (r1.fr.trans s2) r2 (.cons (DV.mono (s2.trans r2.fr).fs _ _ dv) dvs) q
/-- a reading over arguments from one of all of them -/
theorem tA_of {K : Kw} {F : Fm} {ρ : En} {σ : MB.St} {H : Hp} {O : Ow} {k : List D → En → Rs} {Q : VK} {Qa : List V → Hp → Prop} (r : RO K hx F ρ σ H O) (hp : Po K hx F W σ (evs fs k ρ) Q)
    (hk : ∀ (F1 : Fm) (ds : List D) (ρ1 : En) (vs : List V) (H1 : Hp) (O1 : Ow), ds.length = fs.length → RO K hx F1 ρ1 σ H1 O1 → DVs K (wo O1 H1) vs ds → Po K hx F1 W σ (k ds ρ1) Q → Qa vs H1) : tA K hx W fs σ H Qa :=
  ⟨F, ρ, k, Q, ⟨O, r⟩, hp, fun F1 ds ρ1 vs H1 O1 ln _ r1 d1 p1 => hk F1 ds ρ1 vs H1 O1 ln r1 d1 p1⟩
def eTup (fs : List EX) : EX := evs fs fun ds ρ => if ds.length ≤ 1000 then .ok (.tup ds) ρ else .stuck
def eLst (fs : List EX) : EX := evs fs fun ds ρ => if ds.length ≤ 1000 then .ok (.lst ds) ρ else .stuck
theorem le_line {n : Nat} (h : n ≤ 1000) : n ≤ sizeLine := by rw [sizeLine_eq]; omega
theorem r_tup {n : Nat} (h : PA X es (tA X.kw hx W fs)) : PE X (.Tuple es n pos) (tX X.kw hx W (eTup fs)) := (pe_tup h).imp fun σ H Q h => by
  obtain ⟨F, ρ, ⟨O, r⟩, hp⟩ := h
  refine tA_of r hp fun F1 ds ρ1 vs H1 O1 _ r1 dvs q => ?_
  split at q
  · rename_i hl
    refine ⟨le_line (by rw [dvs.length]; exact hl), fun p np => ?_⟩
    exact q _ _ ⟨O1, r1.grow (same_upd np), DV.newT r1.dom np dvs⟩
  · exact q.elim
theorem r_lst (h : PA X es (tA X.kw hx W fs)) : PE X (.List es pos) (tX X.kw hx W (eLst fs)) := (pe_lst h).imp fun σ H Q h => by
  obtain ⟨F, ρ, ⟨O, r⟩, hp⟩ := h
  refine tA_of r hp fun F1 ds ρ1 vs H1 O1 _ r1 dvs q => ?_
  split at q
  · rename_i hl
    refine ⟨le_line (by rw [dvs.length]; exact hl), fun p np => ?_⟩
    exact q _ _ ⟨O1, r1.grow (same_upd np), DV.newL r1.dom np dvs⟩
  · exact q.elim
end

/-! ### calls of built-ins -/
def CallD (K : Kw) (r : List V → Hp → VK → Prop) (f : List D → Option D) : Prop := ∀ (O : Ow) (H : Hp) (vs : List V) (ds : List D) (res : D) (Q : VK), (∀ a ∈ O, ∃ o, H a = some o) → DVs K (wo O H) vs ds → f ds = some res →
  (∀ v H', Same H H' → DV K (wo O H') v res → Q v H') → r vs H Q
def eCall (f : List D → Option D) (fs : List EX) : EX := evs fs fun ds ρ => match f ds with
  | some d => .ok d ρ
  | none => .stuck
section
variable {X : Cx} {hx : Hx} {W : WX} {e : Expr} {es : List Expr} {fs : List EX} {pos p : Pos} {x : Str} {r : List V → Hp → VK → Prop} {f : List D → Option D}
theorem t_call (hf : CallD X.kw r f) {σ : MB.St} {H : Hp} {Q : VK} (h : tX X.kw hx W (eCall f fs) σ H Q) : tCB r (tA X.kw hx W fs) σ H Q := by
  obtain ⟨F, ρ, ⟨O, r0⟩, hp⟩ := h
  refine tA_of r0 hp fun F1 ds ρ1 vs H1 O1 _ r1 dvs q => ?_
  cases e : f ds with
  | none => rw [e] at q; exact q.elim
  | some d =>
    rw [e] at q
    exact hf O1 H1 vs ds d Q r1.dom dvs e fun v' H' s' dv' => q v' H' ⟨O1, r1.grow s', dv'⟩
theorem r_callB {id : String} (hc : CallR X (.builtin id) r) (hf : CallD X.kw r f) (hm : X.mg x = none) (hv : bootBuiltins x = some (.builtin id)) (ha : PA X (e :: es) (tA X.kw hx W fs)) (hg : Gl X x := by rfl) (hn : x ≠ "__name__" := by decide) (hdb : (x == ("__debug__" : Str)) = false := by decide)
    (he : starEach (e :: es) X.env = (false, eval e X.env) :: starEach es X.env := by rfl) (hpl : (backTo pos (starEach es X.env)).any (·.1) = false := by rfl) : PE X (.Call (.Name x p) (e :: es) [] pos) (tX X.kw hx W (eCall f fs)) :=
  (pe_callB hc hg hm hv ha hn hdb he hpl).imp fun _ _ _ h => t_call hf h
theorem r_callTy {T : String} (hc : CallR X (.type T) r) (hf : CallD X.kw r f) (hm : X.mg x = none) (hv : bootBuiltins x = some (.type T)) (ha : PA X (e :: es) (tA X.kw hx W fs)) (hg : Gl X x := by rfl) (hn : x ≠ "__name__" := by decide) (hdb : (x == ("__debug__" : Str)) = false := by decide)
    (he : starEach (e :: es) X.env = (false, eval e X.env) :: starEach es X.env := by rfl) (hpl : (backTo pos (starEach es X.env)).any (·.1) = false := by rfl) : PE X (.Call (.Name x p) (e :: es) [] pos) (tX X.kw hx W (eCall f fs)) :=
  (pe_callTy hc hg hm hv ha hn hdb he hpl).imp fun _ _ _ h => t_call hf h
end
end MB

/-! Built-in functions, places, slices, by values. -/
namespace MB
open PySem PySem.Spec PyProof.Rows L2

/-! ### the built-in functions -/
def asInts : List D → Option (List Int)
  | [] => some []
  | .int i :: r => (asInts r).map fun ns => i :: ns
  | _ :: _ => none
theorem asInts_ok : ∀ {ds : List D} {ns : List Int}, asInts ds = some ns → ds = ns.map D.int
  | [], _, h => by cases h; rfl
  | d :: ds, ns, h => by
    cases d <;> (try (cases h; done))
    rename_i i
    have h' : (asInts ds).map (fun ns => i :: ns) = some ns := h
    obtain ⟨ms, e1, e2⟩ := Option.map_eq_some_iff.mp h'
    subst e2
    rw [asInts_ok e1]
    rfl
theorem asInts_map : ∀ (ns : List Int), asInts (ns.map D.int) = some ns
  | [] => rfl
  | n :: ns => by
    show (asInts (ns.map D.int)).map (fun ns => n :: ns) = _
    rw [asInts_map ns]
    rfl
def asBools : List D → Option (List Bool)
  | [] => some []
  | .bl i :: r => (asBools r).map fun ns => i :: ns
  | _ :: _ => none
theorem asBools_ok : ∀ {ds : List D} {ns : List Bool}, asBools ds = some ns → ds = ns.map D.bl
  | [], _, h => by cases h; rfl
  | d :: ds, ns, h => by
    cases d <;> (try (cases h; done))
    rename_i i
    have h' : (asBools ds).map (fun ns => i :: ns) = some ns := h
    obtain ⟨ms, e1, e2⟩ := Option.map_eq_some_iff.mp h'
    subst e2
    rw [asBools_ok e1]
    rfl
theorem asBools_map : ∀ (ns : List Bool), asBools (ns.map D.bl) = some ns
  | [] => rfl
  | n :: ns => by
    show (asBools (ns.map D.bl)).map (fun ns => n :: ns) = _
    rw [asBools_map ns]
    rfl
theorem DVs.bools {K : Kw} {H : Fz} : ∀ {vs : List V} {ns : List Bool}, DVs K H vs (ns.map D.bl) → vs = ns.map V.bl
  | vs, [], h => by cases h; rfl
  | vs, n :: ns, h => by
    cases h with
    | cons a t => cases a; rw [DVs.bools t]; rfl
def lenD : List D → Option D
  | [.tup xs] => some (.int xs.length)
  | [.lst xs] => some (.int xs.length)
  | [.scr xs] => some (.int xs.length)
  | [.str x] => if x.length ≤ sizeLine then some (.int x.length) else none
  | _ => none
def intD : List D → Option D
  | [.int i] => some (.int i)
  | [.bl b] => some (.int (if b then 1 else 0))
  | _ => none
def absD : List D → Option D
  | [.int i] => some (.int (if i < 0 then -i else i))
  | _ => none
def minD : List D → Option D
  | [.int i, .int j] => some (.int (if j < i then j else i))
  | _ => none
def maxD : List D → Option D
  | [.int i, .int j] => some (.int (if j > i then j else i))
  | _ => none
def sumD : List D → Option D
  | [.lst xs] => (asInts xs).map fun ns => .int ns.sum
  | _ => none
def allD : List D → Option D
  | [.lst xs] => (asBools xs).map fun ns => .bl (ns.all id)
  | _ => none
def anyD : List D → Option D
  | [.lst xs] => (asBools xs).map fun ns => .bl (ns.any id)
  | _ => none
def sortI (ns : List Int) : List Int := ns.mergeSort fun a b => decide (a ≤ b)
def sortedD : List D → Option D
  | [.lst xs] => (asInts xs).map fun ns => .lst ((sortI ns).map .int)
  | _ => none
def listD : List D → Option D
  | [.lst xs] => some (.lst xs)
  | [.tup xs] => some (.lst xs)
  | _ => none
def tupleD : List D → Option D
  | [.lst xs] => some (.tup xs)
  | [.tup xs] => some (.tup xs)
  | _ => none
def divmodD : List D → Option D
  | [.int i, .int j] => if j ≠ 0 ∧ j.natAbs < 1073741824 then some (.tup [.int (i.fdiv j), .int (i.fmod j)]) else none
  | _ => none
theorem DVs.one {K : Kw} {H : Fz} {vs : List V} {d : D} (h : DVs K H vs [d]) : ∃ v, vs = [v] ∧ DV K H v d := by
  cases h with
  | cons a t => cases t; exact ⟨_, rfl, a⟩
theorem DVs.two {K : Kw} {H : Fz} {vs : List V} {d e : D} (h : DVs K H vs [d, e]) : ∃ v u, vs = [v, u] ∧ DV K H v d ∧ DV K H u e := by
  cases h with
  | cons a t =>
    obtain ⟨u, rfl, b⟩ := t.one
    exact ⟨_, u, rfl, a, b⟩
theorem sort_unique {a b : List Int} (p : a.Perm b) (ha : a.Pairwise (· ≤ ·)) (hb : b.Pairwise (· ≤ ·)) : a = b :=
  p.eq_of_pairwise (fun x y _ _ h1 h2 => Int.le_antisymm h1 h2) ha hb
theorem sortI_perm (ns : List Int) : (sortI ns).Perm ns := List.mergeSort_perm ns _
theorem sortI_sorted (ns : List Int) : (sortI ns).Pairwise (· ≤ ·) :=
  (List.pairwise_mergeSort (le := fun a b : Int => decide (a ≤ b)) (fun a b c h1 h2 => decide_eq_true (Int.le_trans (of_decide_eq_true h1) (of_decide_eq_true h2))) (fun a b => by
    rcases Int.le_total a b with h | h
    · rw [decide_eq_true h]; rfl
    · rw [decide_eq_true h, Bool.or_true]) ns).imp fun h => of_decide_eq_true h
section
variable {K : Kw} {X : Cx}
theorem s_len : CallD K (fun xs H Q => ∃ x n, xs = [x] ∧ LenV K.K x H n ∧ Q (.int n) H) lenD := by
  intro O H vs ds res Q hd hv h q
  match ds, h with
  | [.tup xs], h =>
    cases h
    obtain ⟨v, rfl, dv⟩ := hv.one
    obtain ⟨a, ws, rfl, s, t⟩ := dv.tup_of
    exact ⟨_, xs.length, rfl, .inr ⟨ws, sqT_mono (wo_same O H) s, t.length.symm⟩, q _ H (Same.refl H) (.int _)⟩
  | [.lst xs], h =>
    cases h
    obtain ⟨v, rfl, dv⟩ := hv.one
    obtain ⟨a, ws, rfl, s, t⟩ := dv.lst_of
    exact ⟨_, xs.length, rfl, .inl ⟨ws, .of (wo_same O H _ _ s), t.length.symm⟩, q _ H (Same.refl H) (.int _)⟩
  | [.scr xs], h =>
    cases h
    obtain ⟨v, rfl, dv⟩ := hv.one
    cases dv with
    | scr s => exact ⟨_, xs.length, rfl, .inl ⟨_, (wo_same O H).seq s, by rw [List.length_map]⟩, q _ H (Same.refl H) (.int _)⟩
  | [.str x], h =>
    have h' : (if x.length ≤ sizeLine then some (D.int x.length) else none) = some res := h
    by_cases hl : x.length ≤ sizeLine
    · rw [if_pos hl] at h'
      cases h'
      obtain ⟨v, rfl, dv⟩ := hv.one
      cases dv
      exact ⟨_, x.length, rfl, ⟨hl, rfl⟩, q _ H (Same.refl H) (.int _)⟩
    · rw [if_neg hl] at h'
      cases h'
theorem s_int : CallD K (fun xs H Q => (∃ i, xs = [.int i] ∧ Q (.int i) H) ∨ ∃ k, xs = [.bl k] ∧ Q (.int (if k then 1 else 0)) H) intD := by
  intro O H vs ds res Q hd hv h q
  match ds, h with
  | [.int i], h =>
    cases h
    obtain ⟨v, rfl, dv⟩ := hv.one
    cases dv
    exact .inl ⟨_, rfl, q _ H (Same.refl H) (.int _)⟩
  | [.bl i], h =>
    cases h
    obtain ⟨v, rfl, dv⟩ := hv.one
    cases dv
    exact .inr ⟨_, rfl, q _ H (Same.refl H) (.int _)⟩
theorem s_abs : CallD K (fun xs H Q => ∃ i, xs = [.int i] ∧ Q (.int (if i < 0 then -i else i)) H) absD := by
  intro O H vs ds res Q hd hv h q
  match ds, h with
  | [.int i], h =>
    cases h
    obtain ⟨v, rfl, dv⟩ := hv.one
    cases dv
    exact ⟨_, rfl, q _ H (Same.refl H) (.int _)⟩
theorem s_min : CallD K (fun xs H Q => ∃ i j, xs = [.int i, .int j] ∧ Q (.int (if j < i then j else i)) H) minD := by
  intro O H vs ds res Q hd hv h q
  match ds, h with
  | [.int i, .int j], h =>
    cases h
    obtain ⟨v, u, rfl, dv, du⟩ := hv.two
    cases dv; cases du
    exact ⟨_, _, rfl, q _ H (Same.refl H) (.int _)⟩
theorem s_max : CallD K (fun xs H Q => ∃ i j, xs = [.int i, .int j] ∧ Q (.int (if j > i then j else i)) H) maxD := by
  intro O H vs ds res Q hd hv h q
  match ds, h with
  | [.int i, .int j], h =>
    cases h
    obtain ⟨v, u, rfl, dv, du⟩ := hv.two
    cases dv; cases du
    exact ⟨_, _, rfl, q _ H (Same.refl H) (.int _)⟩
theorem s_sum : CallD K (rSum K.K) sumD := by
  intro O H vs ds res Q hd hv h q
  match ds, h with
  | [.lst xs], h =>
    have h' : (asInts xs).map (fun ns => D.int ns.sum) = some res := h
    obtain ⟨ns, e1, rfl⟩ := Option.map_eq_some_iff.mp h'
    have e := asInts_ok e1
    subst e
    obtain ⟨v, rfl, dv⟩ := hv.one
    obtain ⟨a, ws, rfl, s, t⟩ := dv.lst_of
    have ew := t.ints
    subst ew
    exact ⟨a, ns, rfl, .of (wo_same O H _ _ s), q _ H (Same.refl H) (.int _)⟩
theorem s_all : CallD K (rAll K.K) allD := by
  intro O H vs ds res Q hd hv h q
  match ds, h with
  | [.lst xs], h =>
    have h' : (asBools xs).map (fun ns => D.bl (ns.all id)) = some res := h
    obtain ⟨ns, e1, rfl⟩ := Option.map_eq_some_iff.mp h'
    have e := asBools_ok e1
    subst e
    obtain ⟨v, rfl, dv⟩ := hv.one
    obtain ⟨a, ws, rfl, s, t⟩ := dv.lst_of
    have ew := t.bools
    subst ew
    exact ⟨a, ns, rfl, .of (wo_same O H _ _ s), q _ H (Same.refl H) (.bl _)⟩
theorem s_any : CallD K (rAny K.K) anyD := by
  intro O H vs ds res Q hd hv h q
  match ds, h with
  | [.lst xs], h =>
    have h' : (asBools xs).map (fun ns => D.bl (ns.any id)) = some res := h
    obtain ⟨ns, e1, rfl⟩ := Option.map_eq_some_iff.mp h'
    have e := asBools_ok e1
    subst e
    obtain ⟨v, rfl, dv⟩ := hv.one
    obtain ⟨a, ws, rfl, s, t⟩ := dv.lst_of
    have ew := t.bools
    subst ew
    exact ⟨a, ns, rfl, .of (wo_same O H _ _ s), q _ H (Same.refl H) (.bl _)⟩
theorem s_sorted : CallD K (rSortedI K.K) sortedD := by
  intro O H vs ds res Q hd hv h q
  match ds, h with
  | [.lst xs], h =>
    have h' : (asInts xs).map (fun ns => D.lst ((sortI ns).map .int)) = some res := h
    obtain ⟨ns, e1, rfl⟩ := Option.map_eq_some_iff.mp h'
    have e := asInts_ok e1
    subst e
    obtain ⟨v, rfl, dv⟩ := hv.one
    obtain ⟨a, ws, rfl, s, t⟩ := dv.lst_of
    have ew := t.ints
    subst ew
    refine ⟨a, ns, rfl, .of (wo_same O H _ _ s), fun ns' p p1 p2 np => ?_⟩
    have e : ns' = sortI ns := sort_unique (p1.trans (sortI_perm ns).symm) p2 (sortI_sorted ns)
    subst e
    exact q _ _ (same_upd np) (DV.newL hd np (DVs.of_ints _))
theorem s_list : CallD K (fun xs H Q => ∃ p ys, xs = [.ref p] ∧ (SqL K.K H p ys ∨ SqT K.K H p ys) ∧ ∀ l, H l = none → Q (.ref l) (upd H l (.lst ys))) listD := by
  intro O H vs ds res Q hd hv h q
  match ds, h with
  | [.lst xs], h =>
    cases h
    obtain ⟨v, rfl, dv⟩ := hv.one
    obtain ⟨a, ws, rfl, s, t⟩ := dv.lst_of
    exact ⟨a, ws, rfl, .inl (.of (wo_same O H _ _ s)), fun l nl => q _ _ (same_upd nl) (DV.newL hd nl t)⟩
  | [.tup xs], h =>
    cases h
    obtain ⟨v, rfl, dv⟩ := hv.one
    obtain ⟨a, ws, rfl, s, t⟩ := dv.tup_of
    exact ⟨a, ws, rfl, .inr (sqT_mono (wo_same O H) s), fun l nl => q _ _ (same_upd nl) (DV.newL hd nl t)⟩
theorem s_tuple : CallD K (fun xs H Q => ∃ p ys, xs = [.ref p] ∧ ((SqL K.K H p ys ∧ ∀ l, H l = none → Q (.ref l) (upd H l (.tup ys))) ∨ (SqT K.K H p ys ∧ Q (.ref p) H))) tupleD := by
  intro O H vs ds res Q hd hv h q
  match ds, h with
  | [.lst xs], h =>
    cases h
    obtain ⟨v, rfl, dv⟩ := hv.one
    obtain ⟨a, ws, rfl, s, t⟩ := dv.lst_of
    exact ⟨a, ws, rfl, .inl ⟨.of (wo_same O H _ _ s), fun l nl => q _ _ (same_upd nl) (DV.newT hd nl t)⟩⟩
  | [.tup xs], h =>
    cases h
    obtain ⟨v, rfl, dv⟩ := hv.one
    obtain ⟨a, ws, rfl, s, t⟩ := dv.tup_of
    exact ⟨a, ws, rfl, .inr ⟨sqT_mono (wo_same O H) s, q _ H (Same.refl H) (.tup s t)⟩⟩
/-- divmod with a divisor of any sign -/
def rDm : List V → Hp → VK → Prop := fun xs H Q => ∃ i j, xs = [.int i, .int j] ∧ CDivN i j ∧ ∀ p, H p = none → Q (.ref p) (upd H p (.tup [.int (i.fdiv j), .int (i.fmod j)]))
theorem c_divmod : CallR X (.builtin "divmod") rDm := by
  intro pins s σ H xs us Q I r h
  obtain ⟨i, j, rfl, ⟨h1, h2⟩, q⟩ := h
  obtain ⟨u, w', rfl, ⟨t, rfl⟩, ⟨t', rfl⟩⟩ := vals2 r
  refine divmod_int h1 ?_ (.inl (PyProof.noPylong_small h2))
  have hn : H s.heap.objs.size = none := I.hok.fresh (Nat.le_refl _)
  refine ⟨.ref s.heap.objs.size, _, ?_, rfl, q _ hn⟩
  refine I.laid (fun b o e => Heap.get?_push_of_some _ e) (Nat.le_refl _) ⟨by simp only [List.length_cons, List.length_nil]; rw [sizeLine_eq]; decide, [.int (i.fdiv j) s.toks, .int (i.fmod j) (s.toks + 1)], .cons ⟨_, rfl⟩ (.cons ⟨_, rfl⟩ .nil), ?_⟩
  exact ⟨_, Heap.get?_push_size s.heap rfl, rfl, 0, rfl⟩
theorem s_divmod : CallD K rDm divmodD := by
  intro O H vs ds res Q hd hv h q
  match ds, h with
  | [.int i, .int j], h =>
    have h' : (if j ≠ 0 ∧ j.natAbs < 1073741824 then some (D.tup [.int (i.fdiv j), .int (i.fmod j)]) else none) = some res := h
    by_cases hc : j ≠ 0 ∧ j.natAbs < 1073741824
    · rw [if_pos hc] at h'
      cases h'
      obtain ⟨v, u, rfl, dv, du⟩ := hv.two
      cases dv; cases du
      exact ⟨i, j, rfl, hc, fun p np => q _ _ (same_upd np) (DV.newT hd np (.cons (.int _) (.cons (.int _) .nil)))⟩
    · rw [if_neg hc] at h'
      cases h'
end

/-! ### places -/
def ixD : D → D → Option D
  | .tup xs, .int i => atI xs i
  | .lst xs, .int i => atI xs i
  | .str z, .int i => if z.length ≤ sizeLine then (atI z.cps.toList i).map fun c => .str ⟨#[c]⟩ else none
  | _, _ => none
theorem atI_dvs {K : Kw} {H : Fz} {vs : List V} {ds : List D} {i : Int} {d : D} (h : DVs K H vs ds) (e : atI ds i = some d) : ∃ v, atI vs i = some v ∧ DV K H v d := by
  unfold atI at *
  obtain ⟨j, e1, e2⟩ := Option.bind_eq_some_iff.mp e
  obtain ⟨v, e3, dv⟩ := h.get e2
  exact ⟨v, by rw [h.length, e1]; exact e3, dv⟩
theorem s_ix {K : Kw} : Op2 K (rIx K.K) ixD := by
  intro O H x y d e res Q hd hx hy h q
  cases e <;> (try (cases d <;> cases h; done))
  rename_i i
  cases hy
  cases d <;> (try (cases h; done))
  · rename_i z
    have h' : (if z.length ≤ sizeLine then (atI z.cps.toList i).map (fun c => D.str ⟨#[c]⟩) else none) = some res := h
    split at h'
    · rename_i hl
      obtain ⟨c, e1, rfl⟩ := Option.map_eq_some_iff.mp h'
      cases hx
      exact .inr (.inr ⟨z, i, c, rfl, rfl, hl, e1, q _ H (Same.refl H) (.str _)⟩)
    · cases h'
  · obtain ⟨a, vs, rfl, s, t⟩ := hx.tup_of
    obtain ⟨v, e1, dv⟩ := atI_dvs t h
    exact .inr (.inl ⟨a, vs, i, v, rfl, rfl, sqT_mono (wo_same O H) s, e1, q _ H (Same.refl H) dv⟩)
  · obtain ⟨a, vs, rfl, s, t⟩ := hx.lst_of
    obtain ⟨v, e1, dv⟩ := atI_dvs t h
    exact .inl ⟨a, vs, i, v, rfl, rfl, .of (wo_same O H _ _ s), e1, q _ H (Same.refl H) dv⟩
section
variable {X : Cx} {hx : Hx} {W : WX} {a b : Expr} {fa fb : EX} {pos : Pos}
theorem r_ix (ha : PE X a (tX X.kw hx W fa)) (hb : PE X b (tX X.kw hx W fb)) (hs : PlainIx b := by first | (intro _ _; rfl) | exact fun _ _ => rfl) : PE X (.Subscript a b pos) (tX X.kw hx W (eB ixD fa fb)) :=
  (pe_ix ix_seq ha hb hs).imp fun _ _ _ h => t_op2 s_ix h

/-! ### slices -/
def cutD {α : Type} (xs : List α) (lo hi : Option Int) : List α := (xs.drop (HT.sIx xs.length 0 lo)).take (HT.sIx xs.length xs.length hi - HT.sIx xs.length 0 lo)
def slD : D → Option Int → Option Int → Option D
  | .tup xs, lo, hi => some (.tup (cutD xs lo hi))
  | .lst xs, lo, hi => some (.lst (cutD xs lo hi))
  | .scr ns, lo, hi => some (.lst ((cutD ns lo hi).map .int))
  | .str z, lo, hi => if z.length ≤ sizeLine then some (.str (cutS z lo hi)) else none
  | _, _, _ => none
theorem DVs.cut {K : Kw} {H : Fz} {vs : List V} {ds : List D} (h : DVs K H vs ds) (lo hi : Option Int) : DVs K H (cutV vs lo hi) (cutD ds lo hi) := by
  unfold cutV cutD
  rw [h.length]
  exact (h.drop _).take _
theorem cut_map {α β : Type} (f : α → β) (xs : List α) (lo hi : Option Int) : cutD (xs.map f) lo hi = (cutD xs lo hi).map f := by
  unfold cutD
  rw [List.length_map, List.map_take, List.map_drop]
theorem cutD_all {α : Type} {xs : List α} {lo hi : Option Int} (h : HT.sIx xs.length 0 lo = 0 ∧ HT.sIx xs.length xs.length hi = xs.length) : cutD xs lo hi = xs := by
  unfold cutD
  rw [h.1, h.2]
  simp
def rSlM (K : Fg) : V → Option Int → Option Int → Hp → VK → Prop := fun x lo hi H Q => rSlA K x lo hi H Q ∨ rSlL K x lo hi H Q ∨ rSlS x lo hi H Q
theorem sl_M : SlR X (rSlM X.K) := sl_tupA.or (sl_list.or sl_str)
theorem s_sl {K : Kw} {O : Ow} {H : Hp} {x : V} {d res : D} {lo hi : Option Int} {Q : VK} (hd : ∀ a ∈ O, ∃ o, H a = some o) (hx : DV K (wo O H) x d) (h : slD d lo hi = some res)
    (q : ∀ v H', Same H H' → DV K (wo O H') v res → Q v H') : rSlM K.K x lo hi H Q := by
  cases d <;> (try (cases h; done))
  · rename_i z
    have h' : (if z.length ≤ sizeLine then some (D.str (cutS z lo hi)) else none) = some res := h
    split at h'
    · cases h'
      rename_i hl
      cases hx
      exact .inr (.inr ⟨z, rfl, hl, q _ H (Same.refl H) (.str _)⟩)
    · cases h'
  · cases h
    obtain ⟨a, vs, rfl, s, t⟩ := hx.tup_of
    refine .inl ⟨a, vs, rfl, sqT_mono (wo_same O H) s, fun hc => ?_, fun _ p np => q _ _ (same_upd np) (DV.newT hd np (t.cut lo hi))⟩
    refine q _ H (Same.refl H) (.tup s ?_)
    rw [cutD_all (by rw [← t.length]; exact hc)]
    exact t
  · cases h
    obtain ⟨a, vs, rfl, s, t⟩ := hx.lst_of
    exact .inr (.inl ⟨a, vs, rfl, .of (wo_same O H _ _ s), fun p np => q _ _ (same_upd np) (DV.newL hd np (t.cut lo hi))⟩)
  · cases h
    cases hx with
    | scr s =>
      refine .inr (.inl ⟨_, _, rfl, (wo_same O H).seq s, fun p np => q _ _ (same_upd np) ?_⟩)
      refine DV.newL hd np ?_
      rename_i ns a
      have e : cutV (ns.map V.int) lo hi = (cutD ns lo hi).map V.int := cut_map V.int ns lo hi
      rw [e]
      exact DVs.of_ints _
/-- an optional part of a slice -/
def eOpt (f : Option EX) (k : Option Int → En → Rs) : En → Rs := fun ρ => match f with
  | none => k none ρ
  | some f => (f ρ).bind fun d ρ1 => match d with
    | .int i => k (some i) ρ1
    | _ => .stuck
def eSl (fa : EX) (lo hi : Option EX) : EX := fun ρ => (fa ρ).bind fun d ρ1 => eOpt lo (fun l => eOpt hi fun h ρ3 => match slD d l h with
  | some z => .ok z ρ3
  | none => .stuck) ρ1
inductive PO' (X : Cx) (hx : Hx) (W : WX) : Option Expr → Option EX → Prop
  | none : PO' X hx W none none
  | some {e : Expr} {f : EX} (h : PE X e (tX X.kw hx W f)) : PO' X hx W (some e) (some f)
def tO (K : Kw) (hx : Hx) (W : WX) : Option EX → TO
  | none => tNoPart
  | some f => tPart (tX K hx W f)
theorem PO'.po {lo : Option Expr} {fl : Option EX} (h : PO' X hx W lo fl) : PO X lo (tO X.kw hx W fl) := by
  cases h with
  | none => exact po_none
  | some h => exact po_some h
theorem optX {K : Kw} {F : Fm} {ρ : En} {σ : MB.St} {H : Hp} {O : Ow} {f : Option EX} {k : Option Int → En → Rs} {Q : VK} {Q1 : Option Int → Hp → Prop} (r : RO K hx F ρ σ H O) (hp : Po K hx F W σ (eOpt f k ρ) Q)
    (hk : ∀ i ρ1 H1 O1, RO K hx F ρ1 σ H1 O1 → FSame (wo O H) (wo O1 H1) → Po K hx F W σ (k i ρ1) Q → Q1 i H1) : tO K hx W f σ H Q1 := by
  cases f with
  | none => exact hk none ρ H O r (FSame.refl _) hp
  | some f =>
    refine bindX r hp fun d ρ1 v H1 O1 r1 s1 dv q => ?_
    cases d <;> (try exact (q : False).elim)
    cases dv
    exact ⟨_, rfl, hk _ ρ1 H1 O1 r1 s1 q⟩
theorem r_sl {lo hi : Option Expr} {fl fh : Option EX} {p2 : Pos} (ha : PE X a (tX X.kw hx W fa)) (hl : PO' X hx W lo fl) (hh : PO' X hx W hi fh) : PE X (.Subscript a (.Slice lo hi none p2) pos) (tX X.kw hx W (eSl fa fl fh)) :=
  (pe_slice sl_M ha hl.po hh.po).imp fun σ H Q h => by
    obtain ⟨F, ρ, ⟨O, r⟩, hp⟩ := h
    refine bindX r hp fun d ρ1 v H1 O1 r1 s1 dv hp1 => ?_
    refine optX r1 hp1 fun l ρ2 H2 O2 r2 s2 hp2 => ?_
    refine optX r2 hp2 fun u ρ3 H3 O3 r3 s3 hp3 => ?_
    cases e : slD d l u with
    | none => rw [e] at hp3; exact hp3.elim
    | some z =>
      rw [e] at hp3
      exact s_sl r3.dom (DV.mono (s2.trans s3) _ _ dv) e fun v' H' s' dv' => hp3 v' H' ⟨O3, r3.grow s', dv'⟩
end

/-! ### isinstance of a built-in class -/
def tyName : D → Option String
  | .non => some "NoneType" | .bl _ => some "bool" | .int _ => some "int" | .str _ => some "str" | .tup _ => some "tuple" | .lst _ => some "list" | _ => none
theorem tyX_of {K : Kw} {H : Fz} {v : V} {d : D} {t : String} (h : DV K H v d) (e : tyName d = some t) : TyX K.K H.h v (.type t) := by
  cases d <;> (try (cases e; done)) <;> cases e <;> cases h
  · exact .base .non
  · exact .base (.bl _)
  · exact .base (.int _)
  · exact .base (.str _)
  · rename_i a vs s t
    rcases s with (s | ⟨o, s⟩) | ⟨o, its, n, s, c, _⟩
    · exact .base (.tup s)
    · exact .fTuple s
    · exact .kTuple s c
  · rename_i a vs s t
    exact .base (.lst s)
def isT (T : String) (d : D) : Option D := match tyName d with
  | some t => (kitB t T).map .bl
  | none => none
def eIsT (T : String) (fa : EX) : EX := e1 (isT T) fa
section
variable {X : Cx} {hx : Hx} {W : WX} {a : Expr} {fa : EX} {pos p q : Pos}
theorem r_isT {T : Str} {Ts : String} (ha : PE X a (tX X.kw hx W fa)) (hm : X.mg "isinstance" = none) (hT : X.mg T = none) (hb : bootBuiltins T = some (.type Ts)) (hg : Gl X "isinstance" := by rfl) (hg2 : Gl X T := by rfl)
    (hn : T ≠ "__name__" := by decide) (hdb : (T == ("__debug__" : Str)) = false := by decide)
    (he0 : starEach [Expr.Name T q] X.env = (false, eval (Expr.Name T q) X.env) :: starEach [] X.env := by rfl)
    (he : starEach (a :: [Expr.Name T q]) X.env = (false, eval a X.env) :: starEach [Expr.Name T q] X.env := by rfl) (hpl : (backTo pos (starEach [Expr.Name T q] X.env)).any (·.1) = false := by rfl) :
    PE X (.Call (.Name "isinstance" p) [a, .Name T q] [] pos) (tX X.kw hx W (eIsT Ts fa)) :=
  (pe_callB call_isi hg hm (by decide +kernel) (pa_cons ha (pa_cons (pe_bltn (v := .ty Ts) hg2 hT hb rfl hn hdb) pa_nil he0) he) (by decide) (by decide) he hpl).imp fun σ H Q h => by
    obtain ⟨F, ρ, ⟨O, r0⟩, hp⟩ := h
    refine bindX r0 hp fun d ρ1 v H1 O1 r1 s1 dv hp1 => ?_
    cases e : isT Ts d with
    | none => rw [e] at hp1; exact hp1.elim
    | some z =>
      rw [e] at hp1
      unfold isT at e
      cases e2 : tyName d with
      | none => rw [e2] at e; cases e
      | some t =>
        rw [e2] at e
        have e' : (kitB t Ts).map D.bl = some z := e
        obtain ⟨b, e3, rfl⟩ := Option.map_eq_some_iff.mp e'
        exact ⟨v, .ty Ts, .type t, .type Ts, b, rfl, .ty Ts, tyX_of (DV.mono (wo_al O1 H1) _ _ dv) e2, kit_ty e3, hp1 _ H1 ⟨O1, r1, .bl b⟩⟩
end
end MB

/-! Calls of own defs, statements, by values. -/
namespace MB
open PySem PySem.Spec PyProof.Rows L2

/-! ### a def's promise by its function -/
inductive Rt where
  | ok (d : D) (S : Store) | err (x : Ex) (S : Store) | stuck
abbrev Fn := List D → Store → Rt
def spV (K : Kw) (n : Nat) (m : Fn) : Sp := fun vs H Q E => vs.length = n ∧ ∃ (O : Ow) (S : Store) (ds : List D), Ce K O S H ∧ DVs K (wo O H) vs ds ∧ match m ds S with
  | .ok d S' => ∀ v H' O', Stp O H O' H' → Ce K O' S' H' → DV K (wo O' H') v d → Q v H'
  | .err x S' => ∀ cls dd H' O', Stp O H O' H' → Ce K O' S' H' → ExOk K (wo O' H') x cls dd → E cls dd H'
  | .stuck => False
def eFn (m : Fn) (fs : List EX) : EX := evs fs fun ds ρ => match m ds ρ.st with
  | .ok d S => .ok d ⟨ρ.sl, S⟩
  | .err x S => .err x ⟨ρ.sl, S⟩
  | .stuck => .stuck
abbrev FnV (P : Program) (w : World) (K : Fg) (mg : Str → Option Value) (base : Heap) (k : Nat) (f : Addr) (fd : FuncData) (ps : List Str) (m : Fn) : Prop := FnOk P w K mg base (L2N.CX P w) k f fd ps (spV ⟨K, w⟩ ps.length m)
/-- what a caller knows of a def -/
structure Df (P : Program) (w : World) (K : Fg) (mg : Str → Option Value) (base : Heap) (k : Nat) (x : Str) (n : Nat) (m : Fn) : Prop where
  ex : ∃ f fd ps, mg x = some (.ref f) ∧ PySem.W.keepIn K (.ref f) = true ∧ Binds K fd ps [] ∧ ps.length = n ∧ FnV P w K mg base k f fd ps m
section
variable {X : Cx} {hx : Hx} {W : WX} {e : Expr} {es : List Expr} {fs : List EX} {pos p : Pos} {x : Str} {k n : Nat} {m : Fn}
theorem t_fn {ps : List Str} (hl : fs.length = ps.length) {σ : MB.St} {H : Hp} {Q : VK} (h : tX X.kw hx W (eFn m fs) σ H Q) : tCallS (spV X.kw ps.length m) (WE W) (tA X.kw hx W fs) σ H Q := by
  obtain ⟨F, ρ, ⟨O, r0⟩, hp⟩ := h
  refine tA_of r0 hp fun F1 ds ρ1 vs H1 O1 ln r1 dvs q => ?_
  refine ⟨by rw [dvs.length, ln, hl], O1, ρ1.st, ds, r1.ce, dvs, ?_⟩
  cases e : m ds ρ1.st with
  | ok d S =>
    rw [e] at q
    exact fun v H' O' s' c' dv' => q v H' ⟨O', r1.st s' c', dv'⟩
  | err x S =>
    rw [e] at q
    exact fun cls dd H' O' s' c' ev => q cls dd H' ⟨O', r1.st s' c', ev⟩
  | stuck =>
    rw [e] at q
    exact q.elim
theorem r_fn (F : Df X.prog X.w X.K X.mg X.base k x n m) (hr : Room k X.A) (tk : L2N.Takes X W) (ha : PA X (e :: es) (tA X.kw hx W fs)) (hl : fs.length = n := by rfl) (hg : Gl X x := by rfl) (hdb : (x == ("__debug__" : Str)) = false := by decide)
    (he : starEach (e :: es) X.env = (false, eval e X.env) :: starEach es X.env := by rfl) (hpl : (backTo pos (starEach es X.env)).any (·.1) = false := by rfl) : PE X (.Call (.Name x p) (e :: es) [] pos) (tX X.kw hx W (eFn m fs)) := by
  obtain ⟨f, fd, ps, hm, hk, hb, en, F⟩ := F.ex
  exact (pe_callS F hr hg hm hk hb (fun σ => L2N.passAt tk σ) ha hdb he hpl).imp fun _ _ _ h => t_fn (hl.trans en.symm) h
end
/-- nothing is let out -/
theorem tk0 {X : Cx} : L2N.Takes X (fun _ _ _ _ => False) := fun _ _ x => by
  obtain ⟨_, _, _, _, _, _, _, _, _, _, _, _, _, _, _, _, z⟩ := x
  exact z.elim

/-! ### statements -/
inductive Fl where
  | nx (ρ : En) | rt (d : D) (ρ : En) | bk (ρ : En) | ct (ρ : En) | err (x : Ex) (ρ : En) | stuck
abbrev SX := En → Fl
def PoS (K : Kw) (hx : Hx) (F : Fm) (W : WX) (g : Fl) (D : Ends) : Prop := match g with
  | .nx ρ => ∀ σ H, Rl K hx F ρ σ H → D.nx σ H
  | .rt d ρ => ∀ v σ H, RV K hx F ρ σ H v d → D.rt v H
  | .bk ρ => ∀ σ H, Rl K hx F ρ σ H → D.bk σ H
  | .ct ρ => ∀ σ H, Rl K hx F ρ σ H → D.ct σ H
  | .err x ρ => ∀ cls dd σ H, RX K hx F ρ σ H x cls dd → W cls dd σ H
  | .stuck => False
def tS (K : Kw) (hx : Hx) (W : WX) (g : SX) : TS := fun D σ H => ∃ F ρ, Rl K hx F ρ σ H ∧ PoS K hx F W (g ρ) D
theorem _root_.L2.PS.imp {X : Cx} {e : Stmt} {t t' : TS} (h : PS X e t) (i : ∀ D σ H, t' D σ H → t D σ H) : PS X e t' := ⟨fun pins s σ H D I q => h.run pins s σ H D I (i D σ H q)⟩
theorem _root_.L2.PSs.imp {X : Cx} {e : List Stmt} {t t' : TS} (h : PSs X e t) (i : ∀ D σ H, t' D σ H → t D σ H) : PSs X e t' := ⟨fun pins s σ H D I q => h.run pins s σ H D I (i D σ H q)⟩
theorem PoS.fr {K : Kw} {hx : Hx} {F F' : Fm} {W : WX} {g : Fl} {D : Ends} (s : Stp F.O F.H F'.O F'.H) (h : PoS K hx F W g D) : PoS K hx F' W g D := by
  cases g with
  | nx ρ => exact fun σ H ⟨O, r⟩ => h σ H ⟨O, r.fr_of s⟩
  | rt d ρ => exact fun v σ H ⟨O, r, dv⟩ => h v σ H ⟨O, r.fr_of s, dv⟩
  | bk ρ => exact fun σ H ⟨O, r⟩ => h σ H ⟨O, r.fr_of s⟩
  | ct ρ => exact fun σ H ⟨O, r⟩ => h σ H ⟨O, r.fr_of s⟩
  | err x ρ => exact fun cls dd σ H ⟨O, r, dv⟩ => h cls dd σ H ⟨O, r.fr_of s, dv⟩
  | stuck => exact h
def Rs.then (r : Rs) (k : D → En → Fl) : Fl := match r with
  | .ok d ρ => k d ρ
  | .err x ρ => .err x ρ
  | .stuck => .stuck
section
variable {K : Kw} {hx : Hx} {F : Fm} {H : Hp} {ρ : En} {σ : MB.St} {O : Ow} {W : WX}
/-- an expression within a statement -/
theorem bindS {fa : EX} {k : D → En → Fl} {D : Ends} {Q1 : VK} (r : RO K hx F ρ σ H O) (hp : PoS K hx F W ((fa ρ).then k) D)
    (hk : ∀ d ρ1 v H1 O1, RO K hx F ρ1 σ H1 O1 → DV K (wo O1 H1) v d → PoS K hx F W (k d ρ1) D → Q1 v H1) : tX K hx W fa σ H Q1 := by
  refine ⟨F, ρ, ⟨O, r⟩, ?_⟩
  cases e : fa ρ with
  | ok d ρ1 =>
    rw [e] at hp
    intro v H1 hv
    obtain ⟨O1, r1, dv⟩ := hv
    exact hk d ρ1 v H1 O1 r1 dv hp
  | err x ρ1 =>
    rw [e] at hp
    intro cls dd H1 hv
    exact hp cls dd σ H1 hv
  | stuck =>
    rw [e] at hp
    exact hp
theorem bindST {fa : EX} {k : D → En → Fl} {D : Ends} {Q1 : Bool → Hp → Prop} (r : RO K hx F ρ σ H O) (hp : PoS K hx F W ((fa ρ).then k) D) (ht : ∀ d ρ1, PoS K hx F W (k d ρ1) D → ∃ b, truth d = some b)
    (hk : ∀ d b ρ1 H1 O1, truth d = some b → RO K hx F ρ1 σ H1 O1 → PoS K hx F W (k d ρ1) D → Q1 b H1) : tT K hx W fa σ H Q1 := by
  refine ⟨F, ρ, ⟨O, r⟩, ?_⟩
  cases e : fa ρ with
  | ok d ρ1 =>
    rw [e] at hp
    obtain ⟨b, hb⟩ := ht d ρ1 hp
    refine ⟨b, hb, fun H1 hv => ?_⟩
    obtain ⟨O1, r1⟩ := hv
    exact hk d b ρ1 H1 O1 hb r1 hp
  | err x ρ1 =>
    rw [e] at hp
    intro cls dd H1 hv
    exact hp cls dd σ H1 hv
  | stuck =>
    rw [e] at hp
    exact hp
end
def sNil : SX := fun ρ => .nx ρ
def sSeq (g h : SX) : SX := fun ρ => match g ρ with
  | .nx ρ1 => h ρ1
  | r => r
def sEx (f : EX) : SX := fun ρ => (f ρ).then fun _ ρ1 => .nx ρ1
def sSet (i : Nat) (f : EX) : SX := fun ρ => (f ρ).then fun d ρ1 => .nx (ρ1.set i (some (.val d)))
def sRet (f : EX) : SX := fun ρ => (f ρ).then fun d ρ1 => .rt d ρ1
def sRetN : SX := fun ρ => .rt .non ρ
def sIf (c : EX) (g h : SX) : SX := fun ρ => (c ρ).then fun d ρ1 => match truth d with
  | some true => g ρ1
  | some false => h ρ1
  | none => .stuck
def sBk : SX := fun ρ => .bk ρ
def sCt : SX := fun ρ => .ct ρ
section
variable {X : Cx} {hx : Hx} {W : WX} {st : Stmt} {rest : List Stmt} {g h : SX} {e c : Expr} {f fc : EX} {pos : Pos}
theorem p_nil : PSs X [] (tS X.kw hx W sNil) := pss_nil.imp fun D σ H h => by
  obtain ⟨F, ρ, r, hp⟩ := h
  exact hp σ H r
theorem t_seq {K : Kw} {D : Ends} {σ : MB.St} {H : Hp} (q : tS K hx W (sSeq g h) D σ H) : tSeq (tS K hx W g) (tS K hx W h) D σ H := by
  obtain ⟨F, ρ, r, hp⟩ := q
  refine ⟨F, ρ, r, ?_⟩
  unfold sSeq at hp
  cases e : g ρ with
  | nx ρ1 =>
    rw [e] at hp
    exact fun σ1 H1 r1 => ⟨F, ρ1, r1, hp⟩
  | rt d ρ1 => rw [e] at hp; exact hp
  | bk ρ1 => rw [e] at hp; exact hp
  | ct ρ1 => rw [e] at hp; exact hp
  | err x ρ1 => rw [e] at hp; exact hp
  | stuck => rw [e] at hp; exact hp
theorem p_cons (h1 : PS X st (tS X.kw hx W g)) (h2 : PSs X rest (tS X.kw hx W h)) : PSs X (st :: rest) (tS X.kw hx W (sSeq g h)) := (pss_cons h1 h2).imp fun _ _ _ q => t_seq q
theorem p_one (h1 : PS X st (tS X.kw hx W g)) : PSs X [st] (tS X.kw hx W g) := pss_one h1
theorem p_ex (he : PE X e (tX X.kw hx W f)) (hs : swapsWith e none pos.line X.env = pure false := by rfl) : PS X (.Expr e pos) (tS X.kw hx W (sEx f)) := (ps_expr he hs).imp fun D σ H q => by
  obtain ⟨F, ρ, ⟨O, r⟩, hp⟩ := q
  exact bindS r hp fun d ρ1 v H1 O1 r1 dv hp1 => hp1 σ H1 ⟨O1, r1⟩
theorem p_set {i : Nat} {x : Str} {pos' : Pos} (hN : X.N.Nodup) (hi : X.N[i]? = some x) (hl : Loc X.env.scope x) (he : PE X e (tX X.kw hx W f)) (hs : swapsWith e (some (.Name x pos')) pos.line X.env = pure false := by rfl)
    (hf : X.fn x = true ∨ X.env.scope.names.lookup x = some .local := by first | exact .inl rfl | exact .inr rfl | assumption) : PS X (.Assign [.Name x pos'] e pos) (tS X.kw hx W (sSet i f)) := (ps_set hN hi hl he hs hf).imp fun D σ H q => by
  obtain ⟨F, ρ, ⟨O, r⟩, hp⟩ := q
  exact bindS r hp fun d ρ1 v H1 O1 r1 dv hp1 => hp1 _ H1 ⟨O1, r1.set i dv⟩
theorem p_ret (he : PE X e (tX X.kw hx W f)) : PS X (.Return (some e) pos) (tS X.kw hx W (sRet f)) := (ps_ret he).imp fun D σ H q => by
  obtain ⟨F, ρ, ⟨O, r⟩, hp⟩ := q
  exact bindS r hp fun d ρ1 v H1 O1 r1 dv hp1 => hp1 v σ H1 ⟨O1, r1, dv⟩
theorem p_retN : PS X (.Return none pos) (tS X.kw hx W sRetN) := (ps_retN).imp fun D σ H q => by
  obtain ⟨F, ρ, ⟨O, r⟩, hp⟩ := q
  exact hp .non σ H ⟨O, r, .non⟩
theorem p_if {a b : List Stmt} (hc : PT X c (tT X.kw hx W fc)) (ha : PSs X a (tS X.kw hx W g)) (hb : PSs X b (tS X.kw hx W h)) : PS X (.If c a b pos) (tS X.kw hx W (sIf fc g h)) := (ps_if hc ha hb).imp fun D σ H q => by
  obtain ⟨F, ρ, ⟨O, r⟩, hp⟩ := q
  refine bindST r hp (fun d ρ1 q => ?_) fun d b ρ1 H1 O1 tb r1 hp1 => ?_
  · cases t : truth d with
    | none => rw [t] at q; exact q.elim
    | some b => exact ⟨b, rfl⟩
  · rw [tb] at hp1
    cases b with
    | true =>
      rw [if_pos rfl]
      exact ⟨F, ρ1, ⟨O1, r1⟩, hp1⟩
    | false =>
      rw [if_neg Bool.false_ne_true]
      exact ⟨F, ρ1, ⟨O1, r1⟩, hp1⟩
theorem p_bk : PS X (.Break pos) (tS X.kw hx W sBk) := ps_break.imp fun D σ H q => by
  obtain ⟨F, ρ, r, hp⟩ := q
  exact hp σ H r
theorem p_ct : PS X (.Continue pos) (tS X.kw hx W sCt) := ps_continue.imp fun D σ H q => by
  obtain ⟨F, ρ, r, hp⟩ := q
  exact hp σ H r
theorem p_pass : PS X (.Pass pos) (tS X.kw hx W sNil) := ps_pass.imp fun D σ H q => by
  obtain ⟨F, ρ, r, hp⟩ := q
  exact hp σ H r
end

/-! ### targets -/
abbrev BX := D → En → Option En
def bNm (i : Nat) : BX := fun d ρ => some (ρ.set i (some (.val d)))
def bAll : List BX → List D → En → Option En
  | [], [], ρ => some ρ
  | b :: bs, d :: ds, ρ => (b d ρ).bind fun ρ1 => bAll bs ds ρ1
  | _, _, _ => none
def bTp (bs : List BX) : BX := fun d ρ => match d with
  | .tup ds => if ds.length = bs.length then bAll bs ds ρ else none
  | _ => none
/-- the slots at is alone have changed -/
def Wp (is : List Nat) (σ σ' : MB.St) : Prop := ∀ vs : List Nat, (∀ i ∈ is, i ∈ vs) → L2.wipe σ' vs = L2.wipe σ vs
theorem wipe_set {σ : MB.St} {i : Nat} {x : Option V} : ∀ {vs : List Nat}, i ∈ vs → L2.wipe (σ.set i x) vs = L2.wipe σ vs
  | v :: vs, h => by
    show (L2.wipe (σ.set i x) vs).set v none = (L2.wipe σ vs).set v none
    by_cases m : i ∈ vs
    · rw [wipe_set m]
    · have e : i = v := by
        rcases List.mem_cons.mp h with e | e
        · exact e
        · exact absurd e m
      subst e
      have out : ∀ {ws : List Nat}, i ∉ ws → L2.wipe (σ.set i x) ws = (L2.wipe σ ws).set i x := by
        intro ws
        induction ws with
        | nil => intro _; rfl
        | cons w ws ih =>
          intro hw
          simp only [List.mem_cons, not_or] at hw
          show (L2.wipe (σ.set i x) ws).set w none = ((L2.wipe σ ws).set w none).set i x
          rw [ih hw.2, List.set_comm _ _ hw.1]
      rw [out m, List.set_set]
def tG (K : Kw) (hx : Hx) (is : List Nat) (b : BX) : TG := fun v σ H Q => ∃ (F : Fm) (ρ : En) (d : D) (O : Ow) (ρ' : En), RO K hx F ρ σ H O ∧ DV K (wo O H) v d ∧ b d ρ = some ρ' ∧ ∀ σ', Wp is σ σ' → RO K hx F ρ' σ' H O → Q σ' H
def tGs (K : Kw) (hx : Hx) (is : List Nat) (bs : List BX) : TGs := fun vs σ H Q => ∃ (F : Fm) (ρ : En) (ds : List D) (O : Ow) (ρ' : En), RO K hx F ρ σ H O ∧ DVs K (wo O H) vs ds ∧ bAll bs ds ρ = some ρ' ∧ ∀ σ', Wp is σ σ' → RO K hx F ρ' σ' H O → Q σ' H
theorem _root_.L2.PG.imp {X : Cx} {e : Expr} {t t' : TG} (h : PG X e t) (i : ∀ v σ H Q, t' v σ H Q → t v σ H Q) : PG X e t' := ⟨fun pins s σ H v u Q I r q => h.run pins s σ H v u Q I r (i v σ H Q q)⟩
theorem _root_.L2.PGs.imp {X : Cx} {e : List Expr} {t t' : TGs} (h : PGs X e t) (i : ∀ v σ H Q, t' v σ H Q → t v σ H Q) : PGs X e t' := ⟨fun pins s σ H v u Q I r q => h.run pins s σ H v u Q I r (i v σ H Q q)⟩
section
variable {X : Cx} {hx : Hx} {W : WX} {e : Expr} {es : List Expr} {b : BX} {bs : List BX} {pos : Pos} {is js : List Nat}
theorem g_nm {i : Nat} {x : Str} (hN : X.N.Nodup) (hi : X.N[i]? = some x) (hl : Loc X.env.scope x) (hf : X.fn x = true ∨ X.env.scope.names.lookup x = some .local := by first | exact .inl rfl | exact .inr rfl | assumption) : PG X (.Name x pos) (tG X.kw hx [i] (bNm i)) :=
  (pg_name hN hi hl hf).imp fun v σ H Q h => by
    obtain ⟨F, ρ, d, O, ρ', r, dv, e, k⟩ := h
    cases e
    exact k _ (fun vs h => wipe_set (h i List.mem_cons_self)) (r.set i dv)
theorem gs_nil : PGs X [] (tGs X.kw hx [] []) := pgs_nil.imp fun v σ H Q h => by
  obtain ⟨F, ρ, ds, O, ρ', r, dv, e, k⟩ := h
  cases ds with
  | nil =>
    cases dv
    cases e
    exact ⟨rfl, k σ (fun _ _ => rfl) r⟩
  | cons d ds => cases e
theorem gs_cons (h1 : PG X e (tG X.kw hx is b)) (h2 : PGs X es (tGs X.kw hx js bs)) (hs : (assignEach (e :: es) X.env).map (·.2) = assign e X.env :: (assignEach es X.env).map (·.2) := by rfl) : PGs X (e :: es) (tGs X.kw hx (is ++ js) (b :: bs)) :=
  (pgs_cons h1 h2 hs).imp fun v σ H Q h => by
    obtain ⟨F, ρ, ds, O, ρ', r, dv, e, k⟩ := h
    cases ds with
    | nil => cases e
    | cons d ds =>
      cases dv with
      | cons a t =>
        obtain ⟨ρ1, e1, e2⟩ := Option.bind_eq_some_iff.mp (show (b d ρ).bind (fun ρ1 => bAll bs ds ρ1) = some ρ' from e)
        exact ⟨_, _, rfl, F, ρ, d, O, ρ1, r, a, e1, fun σ1 w1 r1 => ⟨F, ρ1, ds, O, ρ', r1, t, e2, fun σ2 w2 r2 => k σ2 (fun vs h => (w2 vs fun i hi => h i (List.mem_append_right _ hi)).trans (w1 vs fun i hi => h i (List.mem_append_left _ hi))) r2⟩⟩
theorem g_tp {n : Nat} (hc : X.calm = true) (h : PGs X es (tGs X.kw hx is bs)) (hn : (assignEach es X.env).length = bs.length := by rfl) (hst : (assignEach es X.env).findIdx? (·.1) = none := by rfl) : PG X (.Tuple es n pos) (tG X.kw hx is (bTp bs)) :=
  (pg_tup hc h hn hst).imp fun v σ H Q h => by
    obtain ⟨F, ρ, d, O, ρ', r, dv, e, k⟩ := h
    cases d <;> (try (cases e; done))
    rename_i ds
    have e' : (if ds.length = bs.length then bAll bs ds ρ else none) = some ρ' := e
    split at e'
    · rename_i hl
      obtain ⟨a, vs, rfl, s, t⟩ := dv.tup_of
      exact ⟨a, vs, rfl, sqT_mono (wo_same O H) s, by rw [t.length, hl], F, ρ, ds, O, ρ', r, t, e', k⟩
    · cases e'
/-- a, b = e -/
def sUn (b : BX) (f : EX) : SX := fun ρ => (f ρ).then fun d ρ1 => match b d ρ1 with
  | some ρ2 => .nx ρ2
  | none => .stuck
theorem p_un {tg a : Expr} {f : EX} {b : BX} (he : PE X a (tX X.kw hx W f)) (hg : PG X tg (tG X.kw hx is b)) (hs : swapsWithSole [tg] a pos.line X.env = pure false := by rfl) (hw : swappedStores [tg] a X.env = pure none := by rfl)
    (h1 : (assignEach [tg] X.env).map (·.2) = [assign tg X.env] := by rfl) : PS X (.Assign [tg] a pos) (tS X.kw hx W (sUn b f)) := (ps_asg he hg hs hw h1).imp fun D σ H q => by
  obtain ⟨F, ρ, ⟨O, r⟩, hp⟩ := q
  refine bindS r hp fun d ρ1 v H1 O1 r1 dv hp1 => ?_
  cases e : b d ρ1 with
  | none => rw [e] at hp1; exact hp1.elim
  | some ρ2 =>
    rw [e] at hp1
    exact ⟨F, ρ1, d, O1, ρ2, r1, dv, e, fun σ' _ r' => hp1 σ' H1 ⟨O1, r'⟩⟩
/-- x op= e, ints -/
def sAug (i : Nat) (op : D → D → Option D) (f : EX) : SX := fun ρ => match ρ[i]? with
  | some (some (.val d)) => (f ρ).then fun e ρ1 => match op d e with
    | some z => .nx (ρ1.set i (some (.val z)))
    | none => .stuck
  | _ => .stuck
theorem p_aug {i : Nat} {x : Str} {a : Expr} {f : EX} {op : Operator} {r : R2} {g : D → D → Option D} {pos' : Pos} (ho : PIp X op r) (h2 : Op2 X.kw r g) (hN : X.N.Nodup) (hi : X.N[i]? = some x) (hl : Loc X.env.scope x) (he : PE X a (tX X.kw hx W f))
    (hf : X.fn x = true ∨ X.env.scope.names.lookup x = some .local := by first | exact .inl rfl | exact .inr rfl | assumption) : PS X (.AugAssign (.Name x pos') op a pos) (tS X.kw hx W (sAug i g f)) := (ps_aug hN hi hl he ho hf).imp fun D σ H q => by
  obtain ⟨F, ρ, ⟨O, r0⟩, hp⟩ := q
  unfold sAug at hp
  cases e : ρ[i]? with
  | none => rw [e] at hp; exact hp.elim
  | some o =>
    cases o with
    | none => rw [e] at hp; exact hp.elim
    | some s =>
      cases s with
      | exc x => rw [e] at hp; exact hp.elim
      | val d =>
        rw [e] at hp
        obtain ⟨v, ev, dv0⟩ := r0.sl i _ e
        refine ⟨v, ev, ?_⟩
        refine bindS (F := ⟨O, H⟩) r0.re (PoS.fr r0.fr hp) fun e1 ρ1 u H1 O1 r1 du hp1 => ?_
        cases q : g d e1 with
        | none => rw [q] at hp1; exact hp1.elim
        | some z =>
          rw [q] at hp1
          exact h2 O1 H1 v u d e1 z _ r1.dom (DV.mono r1.fr.fs _ _ dv0) du q fun v' H' s' dv' => hp1 _ H' ⟨O1, (r1.grow s').set i dv'⟩
end
end MB

/-! Loops and comprehensions, by values. -/
namespace MB
open PySem PySem.Spec PyProof.Rows L2

/-! ### what is walked -/
/-- from where T stands: the items are ds -/
def Its (K : Kw) (T : Fz) (J : It) (ds : List D) : Prop := ∀ (i : Nat) (H : Hp), Same T.h H → (∀ d, ds[i]? = some d → J.go i H ∧ ∀ x H', J.yld i H x H' → Same H H' ∧ ∀ O : Ow, (∀ a ∈ O, ∃ o, H a = some o) → FSame T (wo O H) → DV K (wo O H') x d) ∧ (ds.length ≤ i → J.stop i H)
/-- the items that are walked -/
inductive Ri where
  | ok (ds : List D) (ρ : En) | err (x : Ex) (ρ : En) | stuck
abbrev IX := En → Ri
def seqI : D → Option (List D)
  | .tup xs => some xs
  | .lst xs => some xs
  | _ => none
theorem its_tup {K : Kw} {T : Fz} {a : Addr} {vs : List V} {ds : List D} (s : SqT K.K T.h a vs) (t : DVs K T vs ds) : Its K T (Itt K.K a) ds := fun i H st => by
  refine ⟨fun d hd => ?_, fun hi => ⟨vs, sqT_mono st s, by rw [t.length]; exact hi⟩⟩
  obtain ⟨v, hv, dv⟩ := t.get hd
  refine ⟨⟨vs, v, sqT_mono st s, hv⟩, fun x H' y => ?_⟩
  obtain ⟨e, y⟩ := y
  subst e
  have ex : x = v := Option.some.inj ((y vs (sqT_mono st s)).symm.trans hv)
  subst ex
  exact ⟨Same.refl _, fun O _ so => DV.mono so _ _ dv⟩
theorem its_lst {K : Kw} {T : Fz} {a : Addr} {vs : List V} {ds : List D} (s : T.h a = some (.lst vs)) (t : DVs K T vs ds) : Its K T (Itl K.K a) ds := fun i H st => by
  refine ⟨fun d hd => ?_, fun hi => ⟨vs, .of (st _ _ s), by rw [t.length]; exact hi⟩⟩
  obtain ⟨v, hv, dv⟩ := t.get hd
  refine ⟨⟨vs, v, .of (st _ _ s), hv⟩, fun x H' y => ?_⟩
  obtain ⟨e, y⟩ := y
  subst e
  have ex : x = v := Option.some.inj ((y vs (.of (st _ _ s))).symm.trans hv)
  subst ex
  exact ⟨Same.refl _, fun O _ so => DV.mono so _ _ dv⟩
def rangeL (lo : Int) (n : Nat) : List D := (List.range n).map fun i => .int (lo + (i : Nat))
theorem its_rng {K : Kw} {T : Fz} (lo : Int) (n : Nat) : Its K T (Itr lo n) (rangeL lo n) := fun i H st => by
  refine ⟨fun d hd => ?_, fun hi => by
    have e : (rangeL lo n).length = n := by simp [rangeL]
    rw [e] at hi
    exact hi⟩
  unfold rangeL at hd
  rw [List.getElem?_map] at hd
  cases e : (List.range n)[i]? with
  | none => rw [e] at hd; cases hd
  | some j =>
    rw [e] at hd
    have hi : i < n := by
      have := (List.getElem?_eq_some_iff.mp e).1
      simpa using this
    have ej : j = i := by
      have := (List.getElem?_eq_some_iff.mp e).2
      simpa using this.symm
    subst ej
    cases hd
    refine ⟨hi, fun x H' y => ?_⟩
    obtain ⟨e1, e2⟩ := y
    subst e1 e2
    exact ⟨Same.refl _, fun O _ _ => .int _⟩

/-! ### for -/
def loopS (b : BX) (g : SX) : List D → En → Fl
  | [], ρ => .nx ρ
  | d :: ds, ρ => match b d ρ with
    | none => .stuck
    | some ρ1 => match g ρ1 with
      | .nx ρ2 => loopS b g ds ρ2
      | .ct ρ2 => loopS b g ds ρ2
      | .bk ρ2 => .nx ρ2
      | r => r
theorem for_core {is : List Nat} {K : Kw} {hx : Hx} {W : WX} {F : Fm} {J : It} {ds : List D} {b : BX} {g : SX} {D : Ends} {ρ : En} {σ : MB.St} {H : Hp} {O : Ow} (r : RO K hx F ρ σ H O) (hi : Its K (wo O H) J ds) (hp : PoS K hx F W (loopS b g ds ρ) D) :
    ∃ Wi : Nat → Nat → MB.St → Hp → Prop, (∃ m, Wi 0 m σ H) ∧ ∀ i m σ H, Wi i m σ H →
      (J.stop i H ∧ D.nx σ H) ∨ (J.go i H ∧ ∃ N : MB.St → Hp → Prop, (∀ σ' H', N σ' H' → ∃ m', m' < m ∧ Wi (i + 1) m' σ' H') ∧ ∀ x H', J.yld i H x H' → tG K hx is b x σ H' fun σ2 H2 => tS K hx W g { D with nx := N, ct := N, bk := D.nx } σ2 H2) := by
  let F1 : Fm := ⟨O, H⟩
  have hp1 : PoS K hx F1 W (loopS b g ds ρ) D := PoS.fr r.fr hp
  refine ⟨fun i m σ H => m = ds.length - i ∧ i ≤ ds.length ∧ ∃ ρ O, RO K hx F1 ρ σ H O ∧ PoS K hx F1 W (loopS b g (ds.drop i) ρ) D, ⟨ds.length, by simp, Nat.zero_le _, ρ, O, r.re, hp1⟩, ?_⟩
  rintro i m σ2 H2 ⟨rfl, hle, ρ2, O2, r2, hp2⟩
  have sT : Same (wo O H).h H2 := fun a o h => wo_same O2 H2 a o (r2.fr.fs.h a o h)
  obtain ⟨hgo, hstop⟩ := hi i H2 sT
  by_cases hlt : i < ds.length
  · have hd : ds[i]? = some ds[i] := List.getElem?_eq_getElem hlt
    have hdrop : ds.drop i = ds[i] :: ds.drop (i + 1) := List.drop_eq_getElem_cons hlt
    rw [hdrop] at hp2
    obtain ⟨g1, g2⟩ := hgo _ hd
    refine .inr ⟨g1, fun σ' H' => ∃ ρ' O', RO K hx F1 ρ' σ' H' O' ∧ PoS K hx F1 W (loopS b g (ds.drop (i + 1)) ρ') D, fun σ' H' ⟨ρ', O', r', p'⟩ => ⟨ds.length - (i + 1), by omega, rfl, hlt, ρ', O', r', p'⟩, fun x H3 y => ?_⟩
    obtain ⟨s3, dv3⟩ := g2 x H3 y
    have r3 := r2.grow s3
    unfold loopS at hp2
    cases e : b ds[i] ρ2 with
    | none => rw [e] at hp2; exact hp2.elim
    | some ρ3 =>
      rw [e] at hp2
      refine ⟨F1, ρ2, ds[i], O2, ρ3, r3, dv3 O2 r2.dom r2.fr.fs, e, fun σ4 _ r4 => ⟨F1, ρ3, ⟨O2, r4⟩, ?_⟩⟩
      have hp3 : PoS K hx F1 W (match g ρ3 with
        | .nx ρ2 => loopS b g (ds.drop (i + 1)) ρ2
        | .ct ρ2 => loopS b g (ds.drop (i + 1)) ρ2
        | .bk ρ2 => .nx ρ2
        | r => r) D := hp2
      cases e4 : g ρ3 with
      | nx ρ5 =>
        rw [e4] at hp3
        exact fun σ5 H5 ⟨O5, r5⟩ => ⟨ρ5, O5, r5, hp3⟩
      | ct ρ5 =>
        rw [e4] at hp3
        exact fun σ5 H5 ⟨O5, r5⟩ => ⟨ρ5, O5, r5, hp3⟩
      | bk ρ5 =>
        rw [e4] at hp3
        exact hp3
      | rt d ρ5 =>
        rw [e4] at hp3
        exact hp3
      | err x ρ5 =>
        rw [e4] at hp3
        exact hp3
      | stuck =>
        rw [e4] at hp3
        exact hp3
  · have e : i = ds.length := by omega
    subst e
    rw [List.drop_length] at hp2
    exact .inl ⟨hstop (Nat.le_refl _), hp2 σ2 H2 ⟨O2, r2⟩⟩
/-- for over a list or a tuple -/
def iSeq (K : Fg) (tl : TE) : TI := fun σ H R => tl σ H fun x H1 => ∃ a, x = .ref a ∧ (((∃ xs, SqL K H1 a xs) ∧ R (Itl K a) H1) ∨ ((∃ xs, SqT K H1 a xs) ∧ R (Itt K a) H1))
theorem pi_seq {X : Cx} {tg l : Expr} {tl : TE} (hl : PE X l tl) : PI X tg l (iSeq X.K tl) := by
  refine ⟨fun pins s σ H R I h => ?_⟩
  refine thn (hl.run pins s σ H _ I h) fun v s1 ⟨x, H1, I1, r1, q1⟩ => ?_
  obtain ⟨a, e, q⟩ := q1
  subst e
  cases r1
  rcases q with ⟨⟨xs, hq⟩, q⟩ | ⟨⟨xs, hq⟩, q⟩
  · obtain ⟨its, rv, p, hz⟩ := I1.list hq
    refine wpAny_pyIter_list p.isList ?_
    refine ⟨s1.heap.objs.size, [s1.heap.objs.size], _, _, H1, rfl, I1.kept (t' := s1.toks) fun b o e => Heap.get?_push_of_some _ e, turn_list a _, ⟨_, Heap.get?_push_size _ rfl, rfl, rfl⟩, fun b hb => ?_, q⟩
    have e : b = s1.heap.objs.size := by simpa using hb
    subst e
    exact I1.fpOk (Nat.le_refl _) (I1.hok.fresh (Nat.le_refl _))
  · obtain ⟨its, rv, p, hz⟩ := I1.tuple hq
    refine wpAny_pyIter_tuple (show s1.heap.IsTuple a its.toArray from p) ?_
    refine ⟨s1.heap.objs.size, [s1.heap.objs.size], _, _, H1, rfl, I1.kept (t' := s1.toks) fun b o e => Heap.get?_push_of_some _ e, turn_tuple a _, ⟨_, Heap.get?_push_size _ rfl, rfl, rfl⟩, fun b hb => ?_, q⟩
    have e : b = s1.heap.objs.size := by simpa using hb
    subst e
    exact I1.fpOk (Nat.le_refl _) (I1.hok.fresh (Nat.le_refl _))
/-- the items' reading -/
def RI (K : Kw) (hx : Hx) (W : WX) (it : IX) (wi : TI) : Prop := ∀ (σ : MB.St) (H : Hp) (R : It → Hp → Prop) (F : Fm) (ρ : En) (O : Ow), RO K hx F ρ σ H O →
  (match it ρ with
    | .ok ds ρ1 => ∀ (J : It) (H1 : Hp) (O1 : Ow), RO K hx F ρ1 σ H1 O1 → FSame (wo O H) (wo O1 H1) → Its K (wo O1 H1) J ds → R J H1
    | .err x ρ1 => ∀ cls dd H1, RX K hx F ρ1 σ H1 x cls dd → W cls dd σ H1
    | .stuck => False) → wi σ H R
/-- an expression, then items -/
def iB (f : EX) (k : D → En → Ri) : IX := fun ρ => match f ρ with
  | .ok d ρ1 => k d ρ1
  | .err x ρ1 => .err x ρ1
  | .stuck => .stuck
theorem bindI {K : Kw} {hx : Hx} {W : WX} {f : EX} {k : D → En → Ri} {F : Fm} {ρ : En} {σ : MB.St} {H : Hp} {O : Ow} {P : Ri → Prop} {Q1 : VK} (r : RO K hx F ρ σ H O) (hp : P (iB f k ρ)) (he : ∀ x ρ1, P (.err x ρ1) → ∀ cls dd H1, RX K hx F ρ1 σ H1 x cls dd → W cls dd σ H1) (hs : P .stuck → False)
    (hk : ∀ d ρ1 v H1 O1, RO K hx F ρ1 σ H1 O1 → FSame (wo O H) (wo O1 H1) → DV K (wo O1 H1) v d → P (k d ρ1) → Q1 v H1) : tX K hx W f σ H Q1 := by
  refine ⟨⟨O, H⟩, ρ, ⟨O, r.re⟩, ?_⟩
  unfold iB at hp
  cases e : f ρ with
  | ok d ρ1 =>
    rw [e] at hp
    exact fun v H1 ⟨O1, r1, dv⟩ => hk d ρ1 v H1 O1 (r1.fr_of r.fr) r1.fr.fs dv hp
  | err x ρ1 =>
    rw [e] at hp
    exact fun cls dd H1 ⟨O1, r1, ev⟩ => he x ρ1 hp cls dd H1 ⟨O1, r1.fr_of r.fr, ev⟩
  | stuck =>
    rw [e] at hp
    exact hs hp
def iV (items : D → Option (List D)) (f : EX) : IX := iB f fun d ρ1 => match items d with
  | some ds => .ok ds ρ1
  | none => .stuck
section
variable {K : Kw} {hx : Hx} {W : WX} {f g : EX}
theorem ri_seq : RI K hx W (iV seqI f) (iSeq K.K (tX K hx W f)) := by
  intro σ H R F ρ O r hp
  refine bindI (P := fun z => match z with
    | .ok ds ρ1 => ∀ (J : It) (H1 : Hp) (O1 : Ow), RO K hx F ρ1 σ H1 O1 → FSame (wo O H) (wo O1 H1) → Its K (wo O1 H1) J ds → R J H1
    | .err x ρ1 => ∀ cls dd H1, RX K hx F ρ1 σ H1 x cls dd → W cls dd σ H1
    | .stuck => False) r hp (fun x ρ1 h => h) (fun h => h) fun d ρ1 v H1 O1 r1 s1 dv q => ?_
  cases d <;> (try exact (q : False).elim)
  · obtain ⟨a, vs, rfl, s, t⟩ := dv.tup_of
    exact ⟨a, rfl, .inr ⟨⟨vs, sqT_mono (wo_same O1 H1) s⟩, q _ H1 O1 r1 s1 (its_tup s t)⟩⟩
  · obtain ⟨a, vs, rfl, s, t⟩ := dv.lst_of
    exact ⟨a, rfl, .inl ⟨⟨vs, .of (wo_same O1 H1 _ _ s)⟩, q _ H1 O1 r1 s1 (its_lst s t)⟩⟩
/-- range(n), range(a, b) -/
def big (i : Int) : Bool := decide (-(2 ^ 62) ≤ i ∧ i < 2 ^ 62)
def iR1 (f : EX) : IX := iB f fun d ρ1 => match d with
  | .int n => if big n = true then .ok (rangeL 0 n.toNat) ρ1 else .stuck
  | _ => .stuck
def iR2 (f g : EX) : IX := iB f fun d ρ1 => iB g (fun e ρ2 => match d, e with
  | .int a, .int b => if big a = true ∧ big b = true then .ok (rangeL a (b - a).toNat) ρ2 else .stuck
  | _, _ => .stuck) ρ1
theorem ri_r1 : RI K hx W (iR1 f) (iRng1 (tCons (tX K hx W f) tNil)) := by
  intro σ H R F ρ O r hp
  refine bindI (P := fun z => match z with
    | .ok ds ρ1 => ∀ (J : It) (H1 : Hp) (O1 : Ow), RO K hx F ρ1 σ H1 O1 → FSame (wo O H) (wo O1 H1) → Its K (wo O1 H1) J ds → R J H1
    | .err x ρ1 => ∀ cls dd H1, RX K hx F ρ1 σ H1 x cls dd → W cls dd σ H1
    | .stuck => False) r hp (fun x ρ1 h => h) (fun h => h) fun d ρ1 v H1 O1 r1 s1 dv q => ?_
  cases d <;> (try exact (q : False).elim)
  rename_i n
  cases dv
  cases hb : big n with
  | false => simp [hb] at q
  | true =>
    simp only [hb, if_true] at q
    obtain ⟨b1, b2⟩ := of_decide_eq_true hb
    exact ⟨n, rfl, b1, b2, q _ H1 O1 r1 s1 (its_rng 0 n.toNat)⟩
theorem ri_r2 : RI K hx W (iR2 f g) (iRng2 (tCons (tX K hx W f) (tCons (tX K hx W g) tNil))) := by
  intro σ H R F ρ O r hp
  refine bindI (P := fun z => match z with
    | .ok ds ρ1 => ∀ (J : It) (H1 : Hp) (O1 : Ow), RO K hx F ρ1 σ H1 O1 → FSame (wo O H) (wo O1 H1) → Its K (wo O1 H1) J ds → R J H1
    | .err x ρ1 => ∀ cls dd H1, RX K hx F ρ1 σ H1 x cls dd → W cls dd σ H1
    | .stuck => False) r hp (fun x ρ1 h => h) (fun h => h) fun d ρ1 v H1 O1 r1 s1 dv q => ?_
  refine bindI (P := fun z => match z with
    | .ok ds ρ1 => ∀ (J : It) (H1 : Hp) (O1 : Ow), RO K hx F ρ1 σ H1 O1 → FSame (wo O H) (wo O1 H1) → Its K (wo O1 H1) J ds → R J H1
    | .err x ρ1 => ∀ cls dd H1, RX K hx F ρ1 σ H1 x cls dd → W cls dd σ H1
    | .stuck => False) r1 q (fun x ρ1 h => h) (fun h => h) fun e ρ2 u H2 O2 r2 s2 du q2 => ?_
  cases d <;> (try exact (q2 : False).elim)
  cases e <;> (try exact (q2 : False).elim)
  rename_i a b
  cases dv
  cases du
  by_cases hb : big a = true ∧ big b = true
  · simp only [hb, and_self, if_true] at q2
    obtain ⟨b1, b2⟩ := of_decide_eq_true hb.1
    obtain ⟨b3, b4⟩ := of_decide_eq_true hb.2
    exact ⟨a, b, rfl, ⟨b1, b2, b3, b4⟩, q2 _ H2 O2 r2 (s1.trans s2) (its_rng a (b - a).toNat)⟩
  · simp only [hb, if_false] at q2
end
def sFor (it : IX) (b : BX) (g : SX) : SX := fun ρ => match it ρ with
  | .ok ds ρ1 => loopS b g ds ρ1
  | .err x ρ1 => .err x ρ1
  | .stuck => .stuck
section
variable {X : Cx} {hx : Hx} {W : WX} {tg iter l a c : Expr} {body : List Stmt} {b : BX} {g : SX} {it : IX} {wi : TI} {pos p : Pos} {f fg : EX} {is : List Nat}
theorem p_for (hp : PassesOwn (model X.prog X.w) X.A X.env X.xe) (hc : X.calm = true) (hi : PI X tg iter wi) (ri : RI X.kw hx W it wi) (hg : PG X tg (tG X.kw hx is b)) (hb : PSs X body (tS X.kw hx W g)) (hs : ∀ x, foldedSetIterable iter X.env x = pure x := by intro _; rfl) :
    PS X (.For tg iter body [] pos) (tS X.kw hx W (sFor it b g)) := (ps_for hp hc hi hg hb hs).imp fun D σ H q => by
  obtain ⟨F, ρ, ⟨O, r⟩, hq⟩ := q
  refine ri σ H _ F ρ O r ?_
  unfold sFor at hq
  cases e : it ρ with
  | ok ds ρ1 =>
    rw [e] at hq
    exact fun J H1 O1 r1 s1 its => for_core r1 its hq
  | err x ρ1 =>
    rw [e] at hq
    exact fun cls dd H1 h => hq cls dd σ H1 h
  | stuck =>
    rw [e] at hq
    exact hq
end
end MB

/-! Comprehensions, by values. -/
namespace MB
open PySem PySem.Spec PyProof.Rows L2

/-- the comprehension's own slots forgotten -/
def wipeE (ρ : En) : List Nat → En
  | [] => ρ
  | v :: vs => (wipeE ρ vs).set v none
/-- the outer slots come back -/
def backE (ρ0 ρ : En) : List Nat → En
  | [] => ρ
  | v :: vs => (backE ρ0 ρ vs).set v (ρ0.sl.getD v none)
def compL (b : BX) (c e : EX) (vs : List Nat) : List D → List D → En → Rs
  | [], acc, ρ => .ok (.lst acc) ρ
  | d :: ds, acc, ρ => match b d (wipeE ρ vs) with
    | none => .stuck
    | some ρ1 => (c ρ1).bind fun t ρ2 => match truth t with
      | some true => (e ρ2).bind fun y ρ3 => compL b c e vs ds (acc ++ [y]) ρ3
      | some false => compL b c e vs ds acc ρ2
      | none => .stuck
def eComp (it : IX) (b : BX) (c e : EX) (vs : List Nat) : EX := fun ρ => match it ρ with
  | .ok ds ρ1 => if ds.length ≤ 1000000 then match compL b c e vs ds [] ρ1 with
      | .ok d ρ2 => .ok d (backE ρ1 (wipeE ρ2 vs) vs)
      | r => .stuck
    else .stuck
  | .err x ρ1 => .err x ρ1
  | .stuck => .stuck
/-- the list that is made may be changed later -/
def eCompM (it : IX) (b : BX) (c e : EX) (vs : List Nat) : EX := fun ρ => match it ρ with
  | .ok ds ρ1 => if ds.length ≤ 1000000 then match compL b c e vs ds [] ρ1 with
      | .ok (.lst acc) ρ2 => .ok (.ce ρ2.st.length) ⟨(backE ρ1 (wipeE ρ2 vs) vs).sl, ρ2.st ++ [some (.lst acc)]⟩
      | r => .stuck
    else .stuck
  | .err x ρ1 => .err x ρ1
  | .stuck => .stuck

section
variable {K : Kw} {hx : Hx} {F : Fm} {H : Hp} {ρ : En} {σ : MB.St} {O : Ow}
theorem RO.setNone (r : RO K hx F ρ σ H O) (i : Nat) : RO K hx F (ρ.set i none) (σ.set i none) H O := by
  refine ⟨r.fr, r.ce, by show (ρ.sl.set i _).length = _; simp [r.len], fun j x e => ?_⟩
  rcases getset (show (ρ.sl.set i none)[j]? = some (some x) from e) with ⟨_, e2, _⟩ | ⟨n, e1⟩
  · cases e2
  · obtain ⟨v, ev, h⟩ := r.sl j x e1
    exact ⟨v, by rw [List.getElem?_set_ne (Ne.symm n)]; exact ev, h⟩
theorem RO.wipe (r : RO K hx F ρ σ H O) : ∀ vs : List Nat, RO K hx F (wipeE ρ vs) (L2.wipe σ vs) H O
  | [] => r
  | v :: vs => (r.wipe vs).setNone v
theorem wipeE_length (ρ : En) : ∀ vs : List Nat, (wipeE ρ vs).sl.length = ρ.sl.length
  | [] => rfl
  | v :: vs => by unfold wipeE; show ((wipeE ρ vs).sl.set v none).length = _; rw [List.length_set, wipeE_length ρ vs]
theorem wipeE_st (ρ : En) : ∀ vs : List Nat, (wipeE ρ vs).st = ρ.st
  | [] => rfl
  | v :: vs => wipeE_st ρ vs
theorem backE_length (ρ0 ρ : En) : ∀ vs : List Nat, (backE ρ0 ρ vs).sl.length = ρ.sl.length
  | [] => rfl
  | v :: vs => by unfold backE; show ((backE ρ0 ρ vs).sl.set v _).length = _; rw [List.length_set, backE_length ρ0 ρ vs]
theorem backE_st (ρ0 ρ : En) : ∀ vs : List Nat, (backE ρ0 ρ vs).st = ρ.st
  | [] => rfl
  | v :: vs => backE_st ρ0 ρ vs
theorem backE_get (ρ0 ρ : En) : ∀ (vs : List Nat) (i : Nat) (x : Sl), (backE ρ0 ρ vs).sl[i]? = some (some x) → (i ∈ vs ∧ ρ0.sl[i]? = some (some x)) ∨ (i ∉ vs ∧ ρ.sl[i]? = some (some x))
  | [], i, x, h => .inr ⟨by simp, h⟩
  | v :: vs, i, x, h => by
    have h : ((backE ρ0 ρ vs).sl.set v (ρ0.sl.getD v none))[i]? = some (some x) := h
    by_cases hi : v = i
    · subst hi
      rw [List.getElem?_set_self'] at h
      cases q : (backE ρ0 ρ vs).sl[v]? with
      | none => rw [q] at h; cases h
      | some z =>
        rw [q] at h
        have h' : some (ρ0.sl.getD v none) = some (some x) := h
        have h2 := Option.some.inj h'
        rw [List.getD_eq_getElem?_getD] at h2
        cases q0 : ρ0.sl[v]? with
        | none => rw [q0] at h2; cases h2
        | some z0 =>
          rw [q0] at h2
          have h3 : z0 = some x := h2
          rw [h3]
          exact .inl ⟨List.mem_cons_self, rfl⟩
    · rw [List.getElem?_set_ne hi] at h
      rcases backE_get ρ0 ρ vs i x h with ⟨m, e⟩ | ⟨m, e⟩
      · exact .inl ⟨List.mem_cons_of_mem _ m, e⟩
      · exact .inr ⟨by simp only [List.mem_cons, not_or]; exact ⟨fun e => hi e.symm, m⟩, e⟩
theorem wipe_out' {σ : MB.St} {i : Nat} : ∀ {vs : List Nat}, i ∉ vs → (L2.wipe σ vs)[i]? = σ[i]?
  | [], _ => rfl
  | v :: vs, h => by
    simp only [List.mem_cons, not_or] at h
    show ((L2.wipe σ vs).set v none)[i]? = σ[i]?
    rw [List.getElem?_set_ne (Ne.symm h.1)]
    exact wipe_out' h.2
/-- behind the block: the outer slots come back -/
theorem RO.back {vs' : List Nat} {F0 F1 : Fm} {ρ0 : En} {H0 : Hp} {O0 : Ow} (r0 : RO K hx F0 ρ0 σ H0 O0) {ρ' : En} (s1 : FSame (wo O0 H0) (wo O H)) (r : RO K hx F1 ρ' (L2.wipe σ vs') H O) : RO K hx F1 (backE ρ0 ρ' vs') σ H O := by
  refine ⟨r.fr, by rw [backE_st]; exact r.ce, by rw [backE_length, r.len, wipe_length], fun i x e => ?_⟩
  rcases backE_get ρ0 ρ' vs' i x e with ⟨m, e0⟩ | ⟨m, e0⟩
  · obtain ⟨v, ev, h⟩ := r0.sl i x e0
    exact ⟨v, ev, h.mono s1⟩
  · obtain ⟨v, ev, h⟩ := r.sl i x e0
    rw [wipe_out' m] at ev
    exact ⟨v, ev, h⟩
/-- the hidden thing comes to light as a cell -/
theorem RO.light (r : RO K hx F ρ σ H O) {p : Addr} {hid : List Addr} {o : HO} {c : Cn} (e : O.hid = p :: hid) (np : p ∉ hid) (ho : H p = some o) (hc : CnOk K ⟨(wo O H).h, O.th ++ [p]⟩ p o c) :
    RO K hx ⟨⟨O.th ++ [p], O.l, hid⟩, H⟩ ⟨ρ.sl, ρ.st ++ [some c]⟩ σ H ⟨O.th ++ [p], O.l, hid⟩ ∧ FSame (wo O H) (wo ⟨O.th ++ [p], O.l, hid⟩ H) := by
  have fs : FSame (wo O H) (wo ⟨O.th ++ [p], O.l, hid⟩ H) := ⟨Same.refl _, List.prefix_append _ _⟩
  have hp : p ∉ O.th := r.ce.dj p (by rw [e]; exact List.mem_cons_self)
  refine ⟨⟨Stp.refl _ _, ⟨fun a => ?_, fun a m => r.ce.hd a (by rw [e]; exact List.mem_cons_of_mem _ m), fun a m q => ?_, ?_, by simp [r.ce.ln], fun k c' a e1 e2 => ?_, fun a m => ?_⟩, r.len, fun i x q => ?_⟩, fs⟩
  · show a ∈ O.l ↔ (∃ n c', (O.th ++ [p])[n]? = some a ∧ (ρ.st ++ [some c])[n]? = some (some c')) ∨ a ∈ hid
    have w := r.ce.ow a
    constructor
    · intro m
      rcases w.mp m with ⟨k, c', e1, e2⟩ | m
      · exact .inl ⟨k, c', by rw [List.getElem?_append_left (List.getElem?_eq_some_iff.mp e1).1]; exact e1, by rw [List.getElem?_append_left (List.getElem?_eq_some_iff.mp e2).1]; exact e2⟩
      · rw [e] at m
        rcases List.mem_cons.mp m with rfl | m
        · exact .inl ⟨O.th.length, c, by simp, by rw [← r.ce.ln]; simp⟩
        · exact .inr m
    · rintro (⟨k, c', e1, e2⟩ | m)
      · by_cases hk : k < O.th.length
        · rw [List.getElem?_append_left hk] at e1
          rw [List.getElem?_append_left (by rw [r.ce.ln]; exact hk)] at e2
          exact w.mpr (.inl ⟨k, c', e1, e2⟩)
        · rw [List.getElem?_append_right (by omega)] at e1
          have : a = p := by
            have hm := List.mem_of_getElem? e1
            simpa using hm
          rw [this]
          exact (r.ce.ow p).mpr (.inr (by rw [e]; exact List.mem_cons_self))
      · exact w.mpr (.inr (by rw [e]; exact List.mem_cons_of_mem _ m))
  · rcases List.mem_append.mp (show a ∈ O.th ++ [p] from q) with q | q
    · exact r.ce.dj a (by rw [e]; exact List.mem_cons_of_mem _ m) q
    · have : a = p := by simpa using q
      exact np (by rw [← this]; exact m)
  · show (O.th ++ [p]).Nodup
    rw [List.nodup_append]
    exact ⟨r.ce.nd, by simp, fun x hx' y hy => by
      have : y = p := by simpa using hy
      rw [this]
      intro z
      rw [z] at hx'
      exact hp hx'⟩
  · have e1' : (ρ.st ++ [some c])[k]? = some (some c') := e1
    have e2' : (O.th ++ [p])[k]? = some a := e2
    by_cases hk : k < O.th.length
    · rw [List.getElem?_append_left hk] at e2'
      rw [List.getElem?_append_left (by rw [r.ce.ln]; exact hk)] at e1'
      obtain ⟨o', e3, e4⟩ := r.ce.ce k c' a e1' e2'
      exact ⟨o', e3, e4.mono fs⟩
    · have hm : k = O.th.length := by
        have := (List.getElem?_eq_some_iff.mp e2').1
        simp at this
        omega
      subst hm
      have ea : a = p := by simpa using e2'.symm
      have ec : c' = c := by
        rw [← r.ce.ln] at e1'
        simpa using e1'.symm
      subst ea ec
      exact ⟨o, ho, hc⟩
  · rcases List.mem_append.mp (show a ∈ O.th ++ [p] from m) with m | m
    · exact r.ce.al a m
    · have : a = p := by simpa using m
      rw [this]
      exact ⟨o, ho⟩
  · obtain ⟨v, e1, h⟩ := r.sl i x q
    exact ⟨v, e1, h.mono fs⟩
end
theorem wipe_get {σ : MB.St} {i : Nat} : ∀ {vs : List Nat}, (L2.wipe σ vs)[i]? = if i ∈ vs then (σ[i]?).map (fun _ => none) else σ[i]?
  | [] => by simp [L2.wipe]
  | v :: vs => by
    show ((L2.wipe σ vs).set v none)[i]? = _
    by_cases e : v = i
    · subst e
      rw [List.getElem?_set_self', wipe_get, if_pos (List.mem_cons_self (a := v) (l := vs))]
      split
      · cases σ[v]? <;> rfl
      · cases σ[v]? <;> rfl
    · rw [List.getElem?_set_ne e, wipe_get]
      by_cases m : i ∈ vs
      · rw [if_pos m, if_pos (List.mem_cons_of_mem v m)]
      · rw [if_neg m, if_neg (by simp only [List.mem_cons, not_or]; exact ⟨fun z => e z.symm, m⟩)]
theorem wipe_idem (σ : MB.St) (vs : List Nat) : L2.wipe (L2.wipe σ vs) vs = L2.wipe σ vs := by
  apply List.ext_getElem?
  intro i
  rw [wipe_get, wipe_get]
  split
  · cases σ[i]? <;> rfl
  · rfl
/-- what the block's turns carry -/
structure CW (K : Kw) (hx : Hx) (O0 : Ow) (H0 : Hp) (b : BX) (c e : EX) (vs : List Nat) (σ : MB.St) (D : Addr) (ds : List MB.D) (out : MB.D) (ρo : En) (i : Nat) (H : Hp) : Prop where
  ex : ∃ (acc : List MB.D) (accV : List V) (ρ : En) (O : Ow), H D = some (.lst accV) ∧ acc.length ≤ i ∧ DVs K (wo O H) accV acc ∧ O.hid = D :: O0.hid ∧ RO K hx ⟨O, H⟩ (wipeE ρ vs) (L2.wipe σ vs) H O ∧
    FSame (wo O0 H0) (wo O H) ∧ (∀ a ∈ O0.hid, H a = H0 a) ∧ compL b c e vs (ds.drop i) acc ρ = .ok out ρo
theorem comp_core {is : List Nat} {K : Kw} {hx : Hx} {F : Fm} {J : It} {ds : List D} {b : BX} {c e : EX} {vs : List Nat} {ρ : En} {σ : MB.St} {H : Hp} {O : Ow} {D : Addr} {Qd : Hp → Prop} {out : MB.D} {ρo : En}
    (his : ∀ i ∈ is, i ∈ vs) (hl : ds.length ≤ 1000000) (r : RO K hx F ρ σ H O) (hi : Its K (wo O H) J ds) (hD : H D = none) (hp : compL b c e vs ds [] ρ = .ok out ρo)
    (hd : ∀ H1 O1 accV acc, H1 D = some (.lst accV) → DVs K (wo O1 H1) accV acc → out = .lst acc → O1.hid = D :: O.hid → RO K hx ⟨O1, H1⟩ (wipeE ρo vs) (L2.wipe σ vs) H1 O1 → FSame (wo O H) (wo O1 H1) → (∀ a ∈ O.hid, H1 a = H a) → Qd H1) :
    ∃ W : Nat → Nat → Hp → Prop, (∃ m, W 0 m (upd H D (.lst []))) ∧ ∀ i m H, W i m H →
      (J.stop i H ∧ Qd H) ∨ (J.go i H ∧ ∃ Nx : Hp → Prop, (∀ H', Nx H' → ∃ m', m' < m ∧ W (i + 1) m' H') ∧ ∀ x H', J.yld i H x H' → tG K hx is b x (L2.wipe σ vs) H' fun σ2 H2 => L2.wipe σ2 vs = L2.wipe σ vs ∧ tT K hx (fun _ _ _ _ => False) c σ2 H2 fun t H3 =>
        if t = true then tX K hx (fun _ _ _ _ => False) e σ2 H3 fun y H4 => ∃ acc, H4 D = some (.lst acc) ∧ acc.length < sizeLine ∧ Nx (upd H4 D (.lst (acc ++ [y]))) else Nx H3) := by
  have nD : D ∉ O.hid := fun m => by
    obtain ⟨o, e⟩ := r.ce.hd D m
    rw [hD] at e
    cases e
  have w0 : CW K hx O H b c e vs σ D ds out ρo 0 (upd H D (.lst [])) := by
    obtain ⟨r1, s1⟩ := r.hide (o := .lst []) hD
    exact ⟨[], [], ρ, _, upd_same, Nat.zero_le _, .nil, rfl, r1.wipe vs, s1, fun a m => upd_ne fun z => nD (by rw [← z]; exact m), hp⟩
  refine ⟨fun i m H1 => m = ds.length - i ∧ i ≤ ds.length ∧ CW K hx O H b c e vs σ D ds out ρo i H1, ⟨ds.length, by simp, Nat.zero_le _, w0⟩, ?_⟩
  rintro i m H1 ⟨rfl, hle, ⟨acc, accV, ρ1, O1, h1, h2, h3, h4, r1, h5, h6, h7⟩⟩
  have sT : Same (wo O H).h H1 := fun a o h => wo_same O1 H1 a o (h5.h a o h)
  obtain ⟨hgo, hstop⟩ := hi i H1 sT
  by_cases hlt : i < ds.length
  · have hdi : ds[i]? = some ds[i] := List.getElem?_eq_getElem hlt
    have hdrop : ds.drop i = ds[i] :: ds.drop (i + 1) := List.drop_eq_getElem_cons hlt
    rw [hdrop] at h7
    obtain ⟨g1, g2⟩ := hgo _ hdi
    refine .inr ⟨g1, CW K hx O H b c e vs σ D ds out ρo (i + 1), fun H' p' => ⟨ds.length - (i + 1), by omega, rfl, hlt, p'⟩, fun x H2 y => ?_⟩
    obtain ⟨s2, dv2⟩ := g2 x H2 y
    have r2 := r1.grow s2
    have mD : D ∈ O1.hid := by rw [h4]; exact List.mem_cons_self
    -- what holds of every later state
    have later : ∀ {O3 : Ow} {H3 : Hp}, Stp O1 H1 O3 H3 → H3 D = some (.lst accV) ∧ O3.hid = D :: O.hid ∧ DVs K (wo O3 H3) accV acc ∧ FSame (wo O H) (wo O3 H3) ∧ ∀ a ∈ O.hid, H3 a = H a := fun {O3 H3} s => by
      refine ⟨(s.hs D mD).trans h1, s.hid.trans h4, DVs.mono s.fs _ _ h3, h5.trans s.fs, fun a m => ?_⟩
      exact (s.hs a (by rw [h4]; exact List.mem_cons_of_mem _ m)).trans (h6 a m)
    have h7' : (match b ds[i] (wipeE ρ1 vs) with
      | none => Rs.stuck
      | some ρ1 => (c ρ1).bind fun t ρ2 => match truth t with
        | some true => (e ρ2).bind fun y ρ3 => compL b c e vs (ds.drop (i + 1)) (acc ++ [y]) ρ3
        | some false => compL b c e vs (ds.drop (i + 1)) acc ρ2
        | none => .stuck) = .ok out ρo := h7
    cases eb : b ds[i] (wipeE ρ1 vs) with
    | none =>
      rw [eb] at h7'
      cases h7'
    | some ρ2 =>
      rw [eb] at h7'
      refine ⟨⟨O1, H1⟩, wipeE ρ1 vs, ds[i], O1, ρ2, r2, dv2 O1 r1.dom h5, eb, fun σ2 wp r3 => ?_⟩
      have ew : L2.wipe σ2 vs = L2.wipe σ vs := (wp vs his).trans (wipe_idem σ vs)
      refine ⟨ew, ⟨O1, H1⟩, ρ2, ⟨O1, r3⟩, ?_⟩
      have h8 : (c ρ2).bind (fun t ρ2 => match truth t with
        | some true => (e ρ2).bind fun y ρ3 => compL b c e vs (ds.drop (i + 1)) (acc ++ [y]) ρ3
        | some false => compL b c e vs (ds.drop (i + 1)) acc ρ2
        | none => .stuck) = .ok out ρo := h7'
      cases ec : c ρ2 with
      | err x ρ3 =>
        rw [ec] at h8
        cases h8
      | stuck =>
        rw [ec] at h8
        cases h8
      | ok t ρ3 =>
        rw [ec] at h8
        have h9 : (match truth t with
          | some true => (e ρ3).bind fun y ρ3 => compL b c e vs (ds.drop (i + 1)) (acc ++ [y]) ρ3
          | some false => compL b c e vs (ds.drop (i + 1)) acc ρ3
          | none => .stuck) = .ok out ρo := h8
        cases et : truth t with
        | none =>
          rw [et] at h9
          cases h9
        | some tb =>
          rw [et] at h9
          refine ⟨tb, et, fun H3 hr3 => ?_⟩
          obtain ⟨O3, r4⟩ := hr3
          cases tb with
          | false =>
            rw [if_neg Bool.false_ne_true]
            have r5 := r4.wipe vs
            rw [ew] at r5
            obtain ⟨l1, l2, l3, l4, l5⟩ := later r4.fr
            exact ⟨acc, accV, ρ3, O3, l1, by omega, l3, l2, r5.re, l4, l5, h9⟩
          | true =>
            rw [if_pos rfl]
            refine ⟨⟨O1, H1⟩, ρ3, ⟨O3, r4⟩, ?_⟩
            have h10 : (e ρ3).bind (fun y ρ3 => compL b c e vs (ds.drop (i + 1)) (acc ++ [y]) ρ3) = .ok out ρo := h9
            cases ee : e ρ3 with
            | err x ρ4 =>
              rw [ee] at h10
              cases h10
            | stuck =>
              rw [ee] at h10
              cases h10
            | ok y ρ4 =>
              rw [ee] at h10
              intro v H4 hv
              obtain ⟨O4, r6, dy⟩ := hv
              obtain ⟨l1, l2, l3, l4, l5⟩ := later r6.fr
              refine ⟨accV, l1, ?_, ?_⟩
              · rw [h3.length, sizeLine_eq]
                omega
              · have r7 := r6.wipe vs
                rw [ew] at r7
                obtain ⟨r8, ewo⟩ := r7.wrH (p := D) (o := .lst (accV ++ [v])) (by rw [l2]; exact List.mem_cons_self)
                exact ⟨acc ++ [y], accV ++ [v], ρ4, O4, upd_same, by rw [List.length_append]; show acc.length + 1 ≤ i + 1; omega, by rw [ewo]; exact l3.append (.cons dy .nil), l2, r8, by rw [ewo]; exact l4, fun a m => (upd_ne fun z => nD (by rw [← z]; exact m)).trans (l5 a m), h10⟩
  · have ei : i = ds.length := by omega
    subst ei
    rw [List.drop_length] at h7
    have h8 : Rs.ok (.lst acc) ρ1 = .ok out ρo := h7
    cases h8
    exact .inl ⟨hstop (Nat.le_refl _), hd H1 O1 accV acc h1 h3 rfl h4 r1 h5 h6⟩
section
variable {X : Cx} {hx : Hx} {W : WX} {tg iter elt : Expr} {ifs : List Expr} {b : BX} {it : IX} {wi : TI} {pos : Pos} {c e : EX} {is : List Nat} {scope : Scope} {own : List (Str × Nat)}
theorem t_comp (ri : RI X.kw hx W it wi) (his : ∀ i ∈ is, i ∈ own.map (·.2)) {σ : MB.St} {H : Hp} {Q : VK} (h : tX X.kw hx W (eComp it b c e (own.map (·.2))) σ H Q) :
    tLc wi (tG X.kw hx is b) (tT X.kw hx (fun _ _ _ _ => False) c) (tX X.kw hx (fun _ _ _ _ => False) e) (own.map (·.2)) σ H Q := by
  obtain ⟨F, ρ, ⟨O, r⟩, hq⟩ := h
  refine ri σ H _ F ρ O r ?_
  unfold eComp at hq
  cases ei : it ρ with
  | err x ρ1 =>
    rw [ei] at hq
    exact hq
  | stuck =>
    rw [ei] at hq
    exact hq
  | ok ds ρ1 =>
    rw [ei] at hq
    intro J H1 O1 r1 s1 its D hD
    have hq' : Po X.kw hx F W σ (if ds.length ≤ 1000000 then match compL b c e (own.map (·.2)) ds [] ρ1 with
      | .ok d ρ2 => .ok d (backE ρ1 (wipeE ρ2 (own.map (·.2))) (own.map (·.2)))
      | r => .stuck
      else .stuck) Q := hq
    split at hq'
    · rename_i hc
      cases ec : compL b c e (own.map (·.2)) ds [] ρ1 with
      | err x ρ2 =>
        rw [ec] at hq'
        exact hq'.elim
      | stuck =>
        rw [ec] at hq'
        exact hq'.elim
      | ok out ρ2 =>
        rw [ec] at hq'
        refine comp_core his hc r1 its hD ec fun H2 O2 accV acc e1 e2 eo e3 r2 s2 k2 => ?_
        have nD : D ∉ O1.hid := fun m => by
          obtain ⟨o, e⟩ := r1.ce.hd D m
          rw [hD] at e
          cases e
        obtain ⟨r3, s3, e4⟩ := r2.bare e3 nD
        have r4 := RO.back r1 (s2.trans s3) r3
        subst eo
        exact hq' _ H2 ⟨_, r4.fr_of (r1.fr.trans ⟨s2.trans s3, rfl, k2⟩), .lst (e4.trans e1) (DVs.mono s3 _ _ e2)⟩
    · exact hq'.elim
theorem t_compM (ri : RI X.kw hx W it wi) (his : ∀ i ∈ is, i ∈ own.map (·.2)) {σ : MB.St} {H : Hp} {Q : VK} (h : tX X.kw hx W (eCompM it b c e (own.map (·.2))) σ H Q) :
    tLc wi (tG X.kw hx is b) (tT X.kw hx (fun _ _ _ _ => False) c) (tX X.kw hx (fun _ _ _ _ => False) e) (own.map (·.2)) σ H Q := by
  obtain ⟨F, ρ, ⟨O, r⟩, hq⟩ := h
  refine ri σ H _ F ρ O r ?_
  unfold eCompM at hq
  cases ei : it ρ with
  | err x ρ1 =>
    rw [ei] at hq
    exact hq
  | stuck =>
    rw [ei] at hq
    exact hq
  | ok ds ρ1 =>
    rw [ei] at hq
    intro J H1 O1 r1 s1 its D hD
    have hq' : Po X.kw hx F W σ (if ds.length ≤ 1000000 then match compL b c e (own.map (·.2)) ds [] ρ1 with
      | .ok (.lst acc) ρ2 => .ok (.ce ρ2.st.length) ⟨(backE ρ1 (wipeE ρ2 (own.map (·.2))) (own.map (·.2))).sl, ρ2.st ++ [some (.lst acc)]⟩
      | r => .stuck
      else .stuck) Q := hq
    split at hq'
    · rename_i hc
      cases ec : compL b c e (own.map (·.2)) ds [] ρ1 with
      | err x ρ2 =>
        rw [ec] at hq'
        exact hq'.elim
      | stuck =>
        rw [ec] at hq'
        exact hq'.elim
      | ok out ρ2 =>
        rw [ec] at hq'
        refine comp_core his hc r1 its hD ec fun H2 O2 accV acc e1 e2 eo e3 r2 s2 k2 => ?_
        have nD : D ∉ O1.hid := fun m => by
          obtain ⟨o, e⟩ := r1.ce.hd D m
          rw [hD] at e
          cases e
        have fs : FSame (wo O2 H2) ⟨(wo O2 H2).h, O2.th ++ [D]⟩ := ⟨Same.refl _, List.prefix_append _ _⟩
        obtain ⟨r3, s3⟩ := r2.light (c := .lst acc) e3 nD e1 ⟨accV, rfl, DVs.mono fs _ _ e2⟩
        have r4 := RO.back (vs' := own.map (·.2)) r1 (s2.trans s3) r3
        subst eo
        have est : (wipeE ρ2 (own.map (·.2))).st = ρ2.st := wipeE_st _ _
        have r5 := r4.fr_of (r1.fr.trans ⟨s2.trans s3, rfl, k2⟩)
        have esl : ∀ vs, (backE ρ1 ⟨(wipeE ρ2 (own.map (·.2))).sl, (wipeE ρ2 (own.map (·.2))).st ++ [some (.lst acc)]⟩ vs) = ⟨(backE ρ1 (wipeE ρ2 (own.map (·.2))) vs).sl, ρ2.st ++ [some (.lst acc)]⟩ := by
          intro vs
          induction vs with
          | nil => show En.mk _ _ = _; rw [est]; rfl
          | cons v vs ih => show En.set _ _ _ = _; rw [ih]; rfl
        rw [esl] at r5
        refine hq' _ H2 ⟨_, r5, .ce ?_⟩
        show (O2.th ++ [D])[ρ2.st.length]? = some D
        have := r2.ce.ln
        rw [est] at this
        rw [this]
        simp
    · exact hq'.elim
/-- [elt for tg in iter if c] -/
theorem r_comp (hc : X.calm = true) (hN : X.N.Nodup) (hi : PI X tg iter wi) (ri : RI X.kw hx W it wi) (ok : blkC X.N X.env.scope scope own = true)
    (hg : ∀ (s : Shared) (H : Hp) (C : Addr) (cl : List (Str × Addr)) (fp : List Addr), PG (X.blk s H scope (compEnvC scope cl C X.env) fp) tg (tG X.kw hx is b))
    (ht : ∀ (s : Shared) (H : Hp) (C : Addr) (cl : List (Str × Addr)) (fp : List Addr), PTs (X.blk s H scope (compEnvC scope cl C X.env) fp) ifs (tT X.kw hx (fun _ _ _ _ => False) c))
    (he : ∀ (s : Shared) (H : Hp) (C : Addr) (cl : List (Str × Addr)) (fp : List Addr), PE (X.blk s H scope (compEnvC scope cl C X.env) fp) elt (tX X.kw hx (fun _ _ _ _ => False) e))
    (his : ∀ i ∈ is, i ∈ own.map (·.2) := by decide) (hs : ∀ x, foldedSetIterable iter X.env x = pure x := by intro _; rfl) :
    PE X (.ListComp elt [⟨tg, iter, ifs, 0⟩] scope pos) (tX X.kw hx W (eComp it b c e (own.map (·.2)))) :=
  (pe_lc hc hN hi (blkOk_by ok) hg ht he hs).imp fun _ _ _ h => t_comp ri his h
theorem r_compM (hc : X.calm = true) (hN : X.N.Nodup) (hi : PI X tg iter wi) (ri : RI X.kw hx W it wi) (ok : blkC X.N X.env.scope scope own = true)
    (hg : ∀ (s : Shared) (H : Hp) (C : Addr) (cl : List (Str × Addr)) (fp : List Addr), PG (X.blk s H scope (compEnvC scope cl C X.env) fp) tg (tG X.kw hx is b))
    (ht : ∀ (s : Shared) (H : Hp) (C : Addr) (cl : List (Str × Addr)) (fp : List Addr), PTs (X.blk s H scope (compEnvC scope cl C X.env) fp) ifs (tT X.kw hx (fun _ _ _ _ => False) c))
    (he : ∀ (s : Shared) (H : Hp) (C : Addr) (cl : List (Str × Addr)) (fp : List Addr), PE (X.blk s H scope (compEnvC scope cl C X.env) fp) elt (tX X.kw hx (fun _ _ _ _ => False) e))
    (his : ∀ i ∈ is, i ∈ own.map (·.2) := by decide) (hs : ∀ x, foldedSetIterable iter X.env x = pure x := by intro _; rfl) :
    PE X (.ListComp elt [⟨tg, iter, ifs, 0⟩] scope pos) (tX X.kw hx W (eCompM it b c e (own.map (·.2)))) :=
  (pe_lc hc hN hi (blkOk_by ok) hg ht he hs).imp fun _ _ _ h => t_compM ri his h
/-- y = [elt for tg in iter if c] -/
theorem p_setC {i : Nat} {y : Str} {py spos : Pos} (hc : X.calm = true) (hN : X.N.Nodup) (hy : X.N[i]? = some y) (hyl : X.env.scope.names.lookup y = some .local)
    (hsw : swapsWith (.ListComp elt [⟨tg, iter, ifs, 0⟩] scope pos) (some (.Name y py)) spos.line X.env = pure true) (hi : PI X tg iter wi) (ri : RI X.kw hx W it wi) (ok : blkC X.N X.env.scope scope own = true)
    (hg : ∀ (s : Shared) (H : Hp) (C : Addr) (cl : List (Str × Addr)) (fp : List Addr), PG (X.blk s H scope (compEnvC scope cl C X.env) fp) tg (tG X.kw hx is b))
    (ht : ∀ (s : Shared) (H : Hp) (C : Addr) (cl : List (Str × Addr)) (fp : List Addr), PTs (X.blk s H scope (compEnvC scope cl C X.env) fp) ifs (tT X.kw hx (fun _ _ _ _ => False) c))
    (he : ∀ (s : Shared) (H : Hp) (C : Addr) (cl : List (Str × Addr)) (fp : List Addr), PE (X.blk s H scope (compEnvC scope cl C X.env) fp) elt (tX X.kw hx (fun _ _ _ _ => False) e))
    (his : ∀ i ∈ is, i ∈ own.map (·.2) := by decide) (hs : ∀ x, foldedSetIterable iter X.env x = pure x := by intro _; rfl) :
    PS X (.Assign [.Name y py] (.ListComp elt [⟨tg, iter, ifs, 0⟩] scope pos) spos) (tS X.kw hx W (sSet i (eComp it b c e (own.map (·.2))))) :=
  (ps_setLc hc hN hy hyl hsw hi (blkOk_by ok) hg ht he hs).imp fun D σ H q => by
    obtain ⟨F, ρ, ⟨O, r⟩, hp⟩ := q
    refine t_comp ri his (bindS r hp fun d ρ1 v H1 O1 r1 dv hp1 => ?_)
    exact hp1 _ H1 ⟨O1, r1.set i dv⟩
/-- y = [elt for tg in iter if c] -/
theorem p_setCM {i : Nat} {y : Str} {py spos : Pos} (hc : X.calm = true) (hN : X.N.Nodup) (hy : X.N[i]? = some y) (hyl : X.env.scope.names.lookup y = some .local)
    (hsw : swapsWith (.ListComp elt [⟨tg, iter, ifs, 0⟩] scope pos) (some (.Name y py)) spos.line X.env = pure true) (hi : PI X tg iter wi) (ri : RI X.kw hx W it wi) (ok : blkC X.N X.env.scope scope own = true)
    (hg : ∀ (s : Shared) (H : Hp) (C : Addr) (cl : List (Str × Addr)) (fp : List Addr), PG (X.blk s H scope (compEnvC scope cl C X.env) fp) tg (tG X.kw hx is b))
    (ht : ∀ (s : Shared) (H : Hp) (C : Addr) (cl : List (Str × Addr)) (fp : List Addr), PTs (X.blk s H scope (compEnvC scope cl C X.env) fp) ifs (tT X.kw hx (fun _ _ _ _ => False) c))
    (he : ∀ (s : Shared) (H : Hp) (C : Addr) (cl : List (Str × Addr)) (fp : List Addr), PE (X.blk s H scope (compEnvC scope cl C X.env) fp) elt (tX X.kw hx (fun _ _ _ _ => False) e))
    (his : ∀ i ∈ is, i ∈ own.map (·.2) := by decide) (hs : ∀ x, foldedSetIterable iter X.env x = pure x := by intro _; rfl) :
    PS X (.Assign [.Name y py] (.ListComp elt [⟨tg, iter, ifs, 0⟩] scope pos) spos) (tS X.kw hx W (sSet i (eCompM it b c e (own.map (·.2))))) :=
  (ps_setLc hc hN hy hyl hsw hi (blkOk_by ok) hg ht he hs).imp fun D σ H q => by
    obtain ⟨F, ρ, ⟨O, r⟩, hp⟩ := q
    refine t_compM ri his (bindS r hp fun d ρ1 v H1 O1 r1 dv hp1 => ?_)
    exact hp1 _ H1 ⟨O1, r1.set i dv⟩
theorem c_nil {X : Cx} : PTs X [] (tT X.kw hx W (eC (.bl true))) := by
  refine ⟨fun pins s σ H Q I h => pts_nil.run pins s σ H Q I ?_⟩
  obtain ⟨F, ρ, ⟨O, r⟩, b, hb, k⟩ := h
  cases hb
  exact k H ⟨O, r⟩
theorem c_one {X : Cx} {a : Expr} {f : EX} (h : PT X a (tT X.kw hx W f)) : PTs X [a] (tT X.kw hx W f) := pts_one h
end
end MB

/-! Defs by their bodies, by values. -/
namespace MB
open PySem PySem.Spec PyProof.Rows L2

def slOf (n : Nat) (ds : List D) : List (Option Sl) := ds.map (fun d => some (.val d)) ++ List.replicate (n - ds.length) none
def envOf (n : Nat) (ds : List D) (S : Store) : En := ⟨slOf n ds, S⟩
def endR : Fl → Rt
  | .nx ρ => .ok .non ρ.st
  | .rt d ρ => .ok d ρ.st
  | .err x ρ => .err x ρ.st
  | _ => .stuck
def runS (b : SX) (n : Nat) : Fn := fun ds S => endR (b (envOf n ds S))
theorem envOf_get {n : Nat} {ds : List D} {i : Nat} {x : Sl} (h : (slOf n ds)[i]? = some (some x)) : ∃ d, x = .val d ∧ ds[i]? = some d := by
  unfold slOf at h
  by_cases hi : i < ds.length
  · rw [List.getElem?_append_left (by simpa using hi), List.getElem?_map] at h
    cases e : ds[i]? with
    | none => rw [e] at h; cases h
    | some d =>
      rw [e] at h
      cases h
      exact ⟨d, rfl, rfl⟩
  · rw [List.getElem?_append_right (by simpa using hi), List.getElem?_replicate] at h
    split at h <;> cases h
theorem start_get {N : List Str} {vs : List V} {i : Nat} {v : V} (h : vs[i]? = some v) : (L2.start N vs)[i]? = some (some v) := by
  unfold L2.start
  have hi : i < vs.length := (List.getElem?_eq_some_iff.mp h).1
  rw [List.getElem?_append_left (by simpa using hi), List.getElem?_map, h]
  rfl
/-- at the entry -/
theorem ro_start {K : Kw} {hx : Hx} {N : List Str} {O : Ow} {S : Store} {H : Hp} {vs : List V} {ds : List D} (ce : Ce K O S H) (dv : DVs K (wo O H) vs ds) :
    RO K hx ⟨O, H⟩ (envOf N.length ds S) (L2.start N vs) H O := by
  refine ⟨Stp.refl _ _, ce, ?_, fun i x e => ?_⟩
  · show (slOf N.length ds).length = _
    unfold slOf L2.start
    simp [dv.length]
  · obtain ⟨d, rfl, hd⟩ := envOf_get (show (slOf N.length ds)[i]? = some (some x) from e)
    obtain ⟨v, hv, h⟩ := dv.get hd
    exact ⟨v, start_get hv, h⟩
theorem body_run {K : Kw} {N : List Str} {b : SX} {O : Ow} {S : Store} {H : Hp} {vs : List V} {ds : List D} {Q : VK} {E : XK} (ce : Ce K O S H) (dv : DVs K (wo O H) vs ds)
    (h : match runS b N.length ds S with
      | .ok d S' => ∀ v H' O', Stp O H O' H' → Ce K O' S' H' → DV K (wo O' H') v d → Q v H'
      | .err x S' => ∀ cls dd H' O', Stp O H O' H' → Ce K O' S' H' → ExOk K (wo O' H') x cls dd → E cls dd H'
      | .stuck => False) : tS K h0 (fun cls d _ H => E cls d H) b { nx := fun _ H' => Q .non H', rt := Q } (L2.start N vs) H := by
  refine ⟨_, envOf N.length ds S, ⟨O, ro_start ce dv⟩, ?_⟩
  unfold runS at h
  cases e : b (envOf N.length ds S) with
  | nx ρ =>
    rw [e] at h
    exact fun σ H' ⟨O', r⟩ => h .non H' O' r.fr r.ce .non
  | rt d ρ =>
    rw [e] at h
    exact fun v σ H' ⟨O', r, dv⟩ => h v H' O' r.fr r.ce dv
  | err x ρ =>
    rw [e] at h
    exact fun cls dd σ H' ⟨O', r, ev⟩ => h cls dd H' O' r.fr r.ce ev
  | bk ρ => rw [e] at h; exact h.elim
  | ct ρ => rw [e] at h; exact h.elim
  | stuck => rw [e] at h; exact h.elim
section
variable {P : Program} {w : World} {K : Fg} {mg : Str → Option Value} {base : Heap} {x qual : Str} {params : Arguments} {body : List Stmt} {scope : Scope} {f : Addr} {fd : FuncData}
/-- the context of a def's body -/
abbrev cx0 (P : Program) (w : World) (K : Fg) (mg : Str → Option Value) (base : Heap) (N : List Str) (qual : Str) (scope : Scope) (f : Addr) (cd : Value) (A : Around) (outer : List Env) (s : Shared) (H : Hp) (E : XK) : Cx := cxOf (L2N.CX P w) P w K mg base N qual scope f cd A outer s H E
abbrev wE0 (E : XK) : WX := fun cls d _ H => E cls d H
theorem tk_cx {N : List Str} {cd : Value} {A : Around} {outer : List Env} {s : Shared} {H : Hp} {E : XK} : L2N.Takes (cx0 P w K mg base N qual scope f cd A outer s H E) (wE0 E) := L2N.takes_of rfl rfl rfl rfl
theorem ps_cx {N : List Str} {cd : Value} {A : Around} {outer : List Env} {s : Shared} {H : Hp} {E : XK} : PassesOwn (model P w) (cx0 P w K mg base N qual scope f cd A outer s H E).A (cx0 P w K mg base N qual scope f cd A outer s H E).env (cx0 P w K mg base N qual scope f cd A outer s H E).xe := passes_of rfl
/-- a def's body, by its function -/
def Body (P : Program) (w : World) (K : Fg) (mg : Str → Option Value) (base : Heap) (k : Nat) (N : List Str) (qual : Str) (scope : Scope) (body : List Stmt) (b : SX) : Prop :=
  ∀ (f : Addr) (cd : Value) (A : Around) (outer : List Env) (s : Shared) (H : Hp) (E : XK), Room k (A.deeper (envOfC qual scope s.heap.objs.size f cd)) → PSs (cx0 P w K mg base N qual scope f cd A outer s H E) body (tS ⟨K, w⟩ h0 (wE0 E) b)
theorem def_ok {k : Nat} {N ps : List Str} {b : SX} (F : FunD K x qual params body scope [] [] f fd) (S : FnScope N ps scope) (hb : Body P w K mg base k N qual scope body b) : FnV P w K mg base (k + 1) f fd ps (runS b N.length) :=
  F.ok S (fun vs H Q E h => h.1) fun cdv A outer s H vs Q E hr h => by
    obtain ⟨hl, O, S, ds, dom, dv, q⟩ := h
    exact ⟨_, hb f cdv A outer s H E hr, body_run dom dv q⟩
theorem df_ok {k : Nat} {N ps : List Str} {b : SX} (hg : mg x = some (.ref f)) (F : FunD K x qual params body scope [] [] f fd) (S : FnScope N ps scope) (hbi : Binds K fd ps []) (hb : Body P w K mg base k N qual scope body b) : Df P w K mg base (k + 1) x ps.length (runS b N.length) :=
  ⟨f, fd, ps, hg, F.kp, hbi, rfl, def_ok F S hb⟩
theorem Df.mono {j k n : Nat} {m : Fn} (d : Df P w K mg base j x n m) (h : j ≤ k) : Df P w K mg base k x n m := by
  obtain ⟨f, fd, ps, h1, h2, h3, h4, h5⟩ := d.ex
  exact ⟨f, fd, ps, h1, h2, h3, h4, h5.mono h⟩
end

/-! ### defs that take the handled exception -/
structure FnE (P : Program) (w : World) (K : Fg) (mg : Str → Option Value) (base : Heap) (k : Nat) (f : Addr) (fd : FuncData) (ps : List Str) (m : Ex → Store → Rt) : Prop where
  one : ps.length = 1
  run : ∀ (A : Around) (outer : List Env) (s : Shared) (H : Hp) (args : Args) (us : List Value) (Q : VK) (E : XK) (p : Addr × Obj) (O : Ow) (S : Store) (y : Ex) (cls : Value) (dd : Option Addr), L2H.RoomH k A → L2H.Hot1 A p → L2H.PinOk outer H s p → Env0 P w K mg base A outer s H → BindsTo s fd args (ps.zip us) → Vals [.ref p.1] us →
    Zc cls dd p.2 → Ce ⟨K, w⟩ O S H → ExOk ⟨K, w⟩ (wo O H) y cls dd → (∃ d S', m y S = .ok d S' ∧ ∀ v H' O', Stp O H O' H' → Ce ⟨K, w⟩ O' S' H' → DV ⟨K, w⟩ (wo O' H') v d → Q v H') → codeAny (model P w) A (.call (.ref f) args) (CR (L2N.CX P w) outer P w H s Q E) s
theorem FnE.mono {P : Program} {w : World} {K : Fg} {mg : Str → Option Value} {base : Heap} {j k : Nat} {f : Addr} {fd : FuncData} {ps : List Str} {m : Ex → Store → Rt} (F : FnE P w K mg base j f fd ps m) (h : j ≤ k) : FnE P w K mg base k f fd ps m :=
  ⟨F.one, fun A outer s H args us Q E p O S y cls dd hr => F.run A outer s H args us Q E p O S y cls dd (hr.mono h)⟩
def slE (n : Nat) (x : Ex) : List (Option Sl) := some (.exc x) :: List.replicate (n - 1) none
def envE (n : Nat) (x : Ex) (S : Store) : En := ⟨slE n x, S⟩
def runE (b : SX) (n : Nat) : Ex → Store → Rt := fun x S => endR (b (envE n x S))
theorem envE_get {n : Nat} {x : Ex} {i : Nat} {y : Sl} (h : (slE n x)[i]? = some (some y)) : y = .exc x ∧ i = 0 := by
  unfold slE at h
  cases i with
  | zero =>
    cases h
    exact ⟨rfl, rfl⟩
  | succ i =>
    rw [List.getElem?_cons_succ, List.getElem?_replicate] at h
    split at h <;> cases h
theorem ro_startE {K : Kw} {N : List Str} {O : Ow} {S : Store} {H : Hp} {a : Addr} {x : Ex} {cls : Value} {dd : Option Addr} (hn : 1 ≤ N.length) (ce : Ce K O S H) (ev : ExOk K (wo O H) x cls dd) :
    RO K ⟨some (a, cls, dd)⟩ ⟨O, H⟩ (envE N.length x S) (L2.start N [.ref a]) H O := by
  refine ⟨Stp.refl _ _, ce, ?_, fun i y e => ?_⟩
  · show (slE N.length x).length = _
    unfold slE L2.start
    simp
  · obtain ⟨rfl, rfl⟩ := envE_get (show (slE N.length x)[i]? = some (some y) from e)
    exact ⟨.ref a, rfl, a, cls, dd, rfl, rfl, ev⟩
section
variable {P : Program} {w : World} {K : Fg} {mg : Str → Option Value} {base : Heap} {x qual : Str} {params : Arguments} {body : List Stmt} {scope : Scope} {f : Addr} {fd : FuncData}
def BodyE (P : Program) (w : World) (K : Fg) (mg : Str → Option Value) (base : Heap) (k : Nat) (N : List Str) (qual : Str) (scope : Scope) (body : List Stmt) (b : SX) : Prop :=
  ∀ (f : Addr) (cd : Value) (A : Around) (outer : List Env) (s : Shared) (H : Hp) (E : XK) (a : Addr) (oe : Obj) (cls : Value) (dd : Option Addr), L2H.RoomH k (A.deeper (envOfC qual scope s.heap.objs.size f cd)) → L2H.Hot1 A (a, oe) → Zc cls dd oe →
    PSs (L2H.cxH (L2N.CX P w) P w K mg base N qual scope f cd A outer s H E (a, oe)) body (tS ⟨K, w⟩ ⟨some (a, cls, dd)⟩ (fun _ _ _ _ => False) b)
theorem defE_ok {k : Nat} {N ps : List Str} {b : SX} (F : FunD K x qual params body scope [] [] f fd) (S : FnScope N ps scope) (h1 : ps.length = 1) (hb : BodyE P w K mg base k N qual scope body b) : FnE P w K mg base (k + 1) f fd ps (runE b N.length) := by
  refine ⟨h1, fun A outer s H args us Q E p O St y cls dd hr hot hpin e0 hbi r hz ce ev hq => ?_⟩
  obtain ⟨oc, od, dV, kV, doc, pm, an, cdv, ct, osl, rfl, lk, hcd, _, _⟩ := F.ex
  have KX : K.In s.heap := e0.mod.kin.keeps fun b o e => (e0.bs b o e).1
  have lim : s.heap.NoLimit := e0.mod.nolimit.keeps fun b o e => (e0.bs b o e).1
  have hkind : ∀ y ∈ ps.zip us, scope.names.lookup y.1 = some .local ∨ (scope.names.lookup y.1 = some .cell ∧ ((cellsFrom (s.heap.objs.size + 1) scope.names []).lookup y.1).isSome = true) := fun ⟨n, v⟩ hy => by
    rcases S.par n (List.of_mem_zip hy).1 with q | q
    · exact .inl q
    · exact .inr ⟨q, PySem.W.cellsFrom_some _ _ _ (.inl q)⟩
  refine codeAny_call_function hr.depth (KX _ _ lk) rfl S.co S.gen rfl (PySem.W.codeRec_of KX hcd) (hbi _ _ _ _ ?_)
  refine wpAny_newFunctionEnv_cells S.kind hkind fun env he s1 x => ?_
  subst he
  refine ⟨lim.keeps x.toInCall.keep, codeAny_func ?_⟩
  obtain ⟨pa, po⟩ := p
  have hN : 1 ≤ N.length := by
    have := congrArg List.length S.pre
    rw [List.length_take] at this
    omega
  have ht := hb f cdv A outer s H E pa po cls dd (hr.deeper _) hot hz
  have I : Inv (L2H.cxH (L2N.CX P w) P w K mg base N qual scope f cdv A outer s H E (pa, po)) [] (L2.start N [.ref pa]) H s1 := L2H.inv_startH S hpin e0 h1.symm r x
  have hq' : tS ⟨K, w⟩ ⟨some (pa, cls, dd)⟩ (fun _ _ _ _ => False) b { nx := fun _ H' => Q .non H', rt := Q } (L2.start N [.ref pa]) H := by
    refine ⟨_, envE N.length y St, ⟨O, ro_startE hN ce ev⟩, ?_⟩
    obtain ⟨d, S', hm, hq⟩ := hq
    unfold runE at hm
    cases e : b (envE N.length y St) with
    | nx ρ =>
      rw [e] at hm
      cases hm
      exact fun σ H' ⟨O', r⟩ => hq .non H' O' r.fr r.ce .non
    | rt d ρ =>
      rw [e] at hm
      cases hm
      exact fun v σ H' ⟨O', r, dv⟩ => hq v H' O' r.fr r.ce dv
    | err x ρ => rw [e] at hm; cases hm
    | bk ρ => rw [e] at hm; cases hm
    | ct ρ => rw [e] at hm; cases hm
    | stuck => rw [e] at hm; cases hm
  refine wpAny_mono (ht.run [] s1 (L2.start N [.ref pa]) H _ I hq') (fun fl s' hs => ?_) fun e s' hs => hs
  have fin : ∀ {σ' : MB.St} {H' : Hp} {v : V} {u : Value}, Inv (L2H.cxH (L2N.CX P w) P w K mg base N qual scope f cdv A outer s H E (pa, po)) [] σ' H' s' → RelV v u → Q v H' → CE outer P w H s Q u s' :=
    fun {σ' H' v u} J rv q => ⟨v, H', J.os, J.bare, J.base, J.hok, rv, q⟩
  cases fl with
  | ret u =>
    obtain ⟨v, σ', H', J, rv, q⟩ := hs
    exact fin J rv q
  | next =>
    obtain ⟨σ', H', J, q⟩ := hs
    exact fin (v := V.non) (u := Value.none) J rfl q
  | brk =>
    obtain ⟨_, _, _, q⟩ := hs
    exact False.elim q
  | cont =>
    obtain ⟨_, _, _, q⟩ := hs
    exact False.elim q
end
end MB

/-! The handled exception, try, by values. -/
namespace PySem.W
open PySem PySem.Spec PySem.Calls PyProof.Rows
section
variable {prog : Program} {w : World} {A : Around} {E : Value → Shared → Prop} {s : Shared} {K : Frag} {x C : Addr} {ox : Obj} {od : Option Obj}
theorem mb_findObj {name : Str} {a g : Value} (hc : (clsIn K C).isSome = true) (ha : findIn K (.ref C) name = some (some a)) (hg : specialIn K a "__get__" = some (some g)) (ht : takesIn K a = some true) : findObj K C od name = some (.bind g a) := by
  obtain ⟨cd, hc⟩ := Option.isSome_iff_exists.mp hc
  unfold findObj
  rw [hc, Option.bind_some, ha, Option.bind_some]
  simp [hg, ht]
theorem mb_class (T : L2.ExcC K C) (X : K.In s.heap) (I : InstAt s.heap x ox C od) {Q : Option Value → Shared → Prop} (h : Q (some (.ref C)) { s with toks := s.toks + 1 }) : wpAny (model prog w) A (getAttr? (.ref x) "__class__") Q E s := by
  have hf : findObj K C od "__class__" = some (.bind (.builtin "getset_descriptor.__get__") (.builtin "object.__class__")) := mb_findObj (by obtain ⟨cd, hc, _⟩ := any_some T.hd; rw [hc]; rfl) T.ha T.hn T.ht
  obtain ⟨hp, g, d, t, os⟩ := s
  have L0 := I.type (M := model prog w)
  have L1 := looks_findIn (M := model prog w) X T.hg
  have L2 := looks_findIn (M := model prog w) X T.hk
  have L3 := looks_find (M := model prog w) X I hf
  have sub : Looks (model prog w) hp (isInstance (.ref x) (.type "BaseException")) true := L0.andThen (looks_subIn X T.hs)
  unfold getAttr? getAttrBy? getAttrBy
  refine wpAny_bind (wpAny_mkText (wpAny_bind (wpAny_attempt (wpAny_holding (wpAny_bind (L0.at (wpAny_bind (L1.at ?_))))))))
  show wpAny _ _ (if (onTheHeap (Value.ref C) && Value.builtin "BaseException.__getattribute__" == Value.builtin "object.__getattribute__") = true then _ else _) _ _ _
  rw [show (onTheHeap (Value.ref C) && Value.builtin "BaseException.__getattribute__" == Value.builtin "object.__getattribute__") = false by rw [show (Value.builtin "BaseException.__getattribute__" == Value.builtin "object.__getattribute__") = false by decide +kernel]; rfl, if_neg Bool.false_ne_true]
  unfold getAttrByItsOwn hookBefore
  refine wpAny_bind ?_
  rw [if_pos (show onTheHeap (Value.ref C) = true from rfl)]
  refine L2.at (wpAny_bind (wpAny_attempt (wpAny_holding ?_)))
  unfold callGetattribute
  rw [show (false && onTheHeap (Value.builtin "BaseException.__getattribute__")) = false from rfl, if_neg Bool.false_ne_true]
  unfold boundAndCalled
  rw [PySem.F.excAttr_ValueError.ga.bind (.ref x)]
  refine wpAny_bind (wpAny_pure ?_)
  show wpAny _ _ (call (.builtin "BaseException.__getattribute__") [.ref x, .str "__class__" t]) _ _ _
  refine wpAny_call (codeAny_call_builtin PySem.F.excAttr_ValueError.ga.plain PySem.F.entry_bexc_ga ?_)
  refine @check_slot (model prog w) _ _ ⟨hp, g, d, t + 1, os⟩ "BaseException.__getattribute__" "BaseException" "__getattribute__" (.ref x) [.str "__class__" t] [] _ (by decide +kernel) (by decide +kernel) sub (PySem.F.args_bexc_ga (.ref x) (.str "__class__" t)) ?_
  unfold Builtin.«object.__getattribute__»
  refine wpAny_bind (wpAny_of_eq (a := ((Value.ref x : Value), [Value.str "__class__" t])) (by first | rfl | (simp only [slotArgs]; rfl)) ?_)
  refine wpAny_bind (wpAny_pure (wpAny_bind (L0.at (wpAny_bind (L3.at ?_)))))
  show wpAny _ _ (holding [Value.builtin "object.__class__"] (call (.builtin "getset_descriptor.__get__") [.builtin "object.__class__", .ref x, .ref C]) >>= ret) _ _ _
  refine wpAny_bind (wpAny_holding (wpAny_call (class_get (s := ⟨hp, g, d, t + 1, os⟩) (ox := ox) (od := od) X I T.hm ?_)))
  refine wpAny_pure ?_
  show wpAny _ _ (handedOut (.ref C)) _ _ _
  rw [handedOut_of (v := .ref C) rfl]
  first
    | exact wpAny_pure (wpAny_pure h)
    | exact wpAny_pure h
    | exact wpAny_pure (wpAny_bind (wpAny_pure (wpAny_pure h)))
theorem mb_kitx (T : L2.ExcC K C) : KitX K (.ref x) (.ref C) (fun h => InstAt h x ox C od) where
  ty := fun _ _ _ I => I.type
  it := fun _ _ X _ => by
    obtain ⟨cdD, hcD, _⟩ := any_some T.hd
    unfold clsIn at hcD
    split at hcD
    · rename_i c' d' cd' sl' ho
      intro A' Q' E' s' k q
      unfold isType loadHead
      exact wpAny_bind (wpAny_loadPart (k _ _ (X _ _ ho)) (wpAny_pure q))
    · cases hcD
  ne := fun h tp dd its n sl X htp => by
    obtain ⟨cdD, hcD, _⟩ := any_some T.hd
    refine Bool.eq_false_iff.mpr fun q => ?_
    have e : C = tp := Value.ref.inj (beq_iff_eq.mp q)
    subst e
    unfold clsIn at hcD
    split at hcD
    · rename_i c' d' cd' sl' ho
      have z := (X _ _ ho).symm.trans htp
      cases z
    · cases hcD
  ca := fun X I k => mb_class T X I k
end
end PySem.W
namespace MB
open PySem PySem.Spec PyProof.Rows L2

/-- the context holds the handled exception -/
def HxOk (X : Cx) (hx : Hx) : Prop := ∃ a oe cls dd, hx.ex = some (a, cls, dd) ∧ (a, oe) ∈ X.pn ∧ L2H.Hot1 X.A (a, oe) ∧ Zc cls dd oe
def dictOk (H : Hp) (dd : Option Addr) : Prop := dd = none ∨ ∃ d vs, dd = some d ∧ H d = some (.xd vs)
theorem ExOk.dict {K : Kw} {z : Fz} {H' : Hp} {x : Ex} {cls : Value} {dd : Option Addr} (h : ExOk K z x cls dd) (s : Same z.h H') : dictOk H' dd := by
  obtain ⟨_, ⟨_, h⟩ | ⟨d, vs, e, h, _⟩⟩ := h
  · exact .inl h
  · exact .inr ⟨d, vs, e, s _ _ h⟩
def rIsX (K : Fg) (C a : Addr) (dd : Option Addr) : List V → Hp → VK → Prop := fun xs H Q => ∃ (c : V) (cv : Value) (b : Bool), xs = [.ref a, c] ∧ (∀ u, RelV c u → u = cv) ∧ PySem.W.kitOne K (.ref C) cv = some b ∧ dictOk H dd ∧ Q (.bl b) H
theorem call_isX {X : Cx} {a C : Addr} {oe : Obj} {dd : Option Addr} (T : ExcC X.K C) (hm : (a, oe) ∈ X.pn) (hz : Zc (.ref C) dd oe) (hf : ∃ vs, oe.data = .fields vs) : CallR X (.builtin "isinstance") (rIsX X.K C a dd) := by
  intro pins s σ H xs us Q I r h
  obtain ⟨c, cv, b, rfl, hcv, e, hd, q⟩ := h
  cases r with
  | cons rx rr =>
    cases rr with
    | cons rt rr =>
      cases rr
      cases rx
      have ec := hcv _ rt
      subst ec
      obtain ⟨hget, _⟩ := I.pin (a, oe) (List.mem_append.mpr (.inl hm))
      obtain ⟨vs, hv⟩ := hf
      have J : ∃ od, PySem.W.InstAt s.heap a oe C od := by
        rcases hd with rfl | ⟨d, ws, rfl, hd⟩
        · exact ⟨none, hget, hz.1, by unfold PySem.W.notCls; rw [hv] <;> rfl, by rw [hz.2]; exact trivial⟩
        · obtain ⟨mA, hns, hr⟩ := (show ObjOk X.prog X.w H s.heap d (.xd ws) from I.hok d _ hd)
          obtain ⟨od, ho, hl⟩ := lookIn_ns hns
          exact ⟨some od, hget, hz.1, by unfold PySem.W.notCls; rw [hv] <;> rfl, by rw [hz.2]; exact ho⟩
      obtain ⟨od, J⟩ := J
      exact PySem.W.kia_one (PySem.W.mb_kitx T) I.kIn J e (fun z => nomatch z) fun tk => ⟨.bl b, H, I.kept (t' := tk) fun _ _ z => z, rfl, q⟩
/-- isinstance(e, C), e the handled exception; t: the answer by the class's name -/
def eIsE (i : Nat) (t : Str → Option Bool) : EX := fun ρ => match ρ[i]? with
  | some (some (.exc x)) => match t x.c with
    | some b => .ok (.bl b) ρ
    | none => .stuck
  | _ => .stuck
def ISF (K : Fg) (t : Str → Option Bool) (cv : Value) : Prop := ∀ c b, t c = some b → ExcC K (He.ga K c) ∧ PySem.W.kitOne K (.ref (He.ga K c)) cv = some b
section
variable {X : Cx} {hx : Hx} {W : WX} {pos p q q2 : Pos} {i : Nat} {x C : Str}
theorem is_core {t : Str → Option Bool} {cv : Value} {c : V} {te : TE} (ho : HxOk X hx) (hT : ISF X.K t cv) (hcv : ∀ u, RelV c u → u = cv) (hc : PE X (.Name C q2) (tC c)) (hN : X.N[i]? = some x) (hv : Vis X.env.scope x) (hm : X.mg "isinstance" = none) (hg : Gl X "isinstance")
    (hd : (x == ("__debug__" : Str)) = false) (hcd : (x == ("__classdict__" : Str)) = false) (he0 : starEach [Expr.Name C q2] X.env = (false, eval (Expr.Name C q2) X.env) :: starEach [] X.env)
    (he : starEach (.Name x q :: [Expr.Name C q2]) X.env = (false, eval (.Name x q) X.env) :: starEach [Expr.Name C q2] X.env) (hpl : (backTo pos (starEach [Expr.Name C q2] X.env)).any (·.1) = false) :
    PE X (.Call (.Name "isinstance" p) [.Name x q, .Name C q2] [] pos) (tX X.kw hx W (eIsE i t)) := by
  obtain ⟨a, oe, cls, dd, hxe, hmem, hot, hz⟩ := ho
  refine ⟨fun pins s σ H Q I h => ?_⟩
  obtain ⟨F, ρ, ⟨O, r0⟩, hp⟩ := h
  unfold eIsE at hp
  cases e : ρ[i]? with
  | none => rw [e] at hp; exact hp.elim
  | some o =>
    cases o with
    | none => rw [e] at hp; exact hp.elim
    | some sl =>
      rw [e] at hp
      cases sl with
      | val d => exact hp.elim
      | exc y =>
        have hp' : Po X.kw hx F W σ (match t y.c with
          | some b => Rs.ok (.bl b) ρ
          | none => .stuck) Q := hp
        cases e2 : t y.c with
        | none => rw [e2] at hp'; exact hp'.elim
        | some b =>
          rw [e2] at hp'
          obtain ⟨v, ev, a', cls', dd', rfl, e3, ex⟩ := r0.sl i _ e
          rw [hxe] at e3
          cases e3
          obtain ⟨hE, hk⟩ := hT _ _ e2
          have ec := ex.1
          subst ec
          have hcall := call_isX (X := X) hE hmem hz (by obtain ⟨_, vs, e1, _⟩ := hot; exact ⟨vs, e1⟩)
          refine (pe_callB hcall hg hm (by decide +kernel) (pa_cons (pe_var hN hv hd hcd) (pa_cons hc pa_nil he0) he) (by decide) (by decide) he hpl).run pins s σ H Q I ?_
          exact ⟨_, ev, c, cv, b, rfl, hcv, hk, ex.dict (wo_same O H), hp' _ H ⟨O, r0, .bl b⟩⟩
theorem r_isE {t : Str → Option Bool} {ca : Addr} (ho : HxOk X hx) (hT : ISF X.K t (.ref ca)) (hC : X.mg C = some (.ref ca)) (hm : X.mg "isinstance" = none) (hN : X.N[i]? = some x := by rfl) (hv : Vis X.env.scope x := by first | exact Or.inl rfl | exact Or.inr (Or.inl rfl) | exact Or.inr (Or.inr rfl)) (hg : Gl X "isinstance" := by rfl) (hg2 : Gl X C := by rfl)
    (hd : (x == ("__debug__" : Str)) = false := by decide) (hcd : (x == ("__classdict__" : Str)) = false := by decide) (hdb : (C == ("__debug__" : Str)) = false := by decide) (he0 : starEach [Expr.Name C q2] X.env = (false, eval (Expr.Name C q2) X.env) :: starEach [] X.env := by rfl)
    (he : starEach (.Name x q :: [Expr.Name C q2]) X.env = (false, eval (.Name x q) X.env) :: starEach [Expr.Name C q2] X.env := by rfl) (hpl : (backTo pos (starEach [Expr.Name C q2] X.env)).any (·.1) = false := by rfl) :
    PE X (.Call (.Name "isinstance" p) [.Name x q, .Name C q2] [] pos) (tX X.kw hx W (eIsE i t)) :=
  is_core (te := tVar i) ho hT (c := .ref ca) (fun u h => by cases h; rfl) (pe_glob (v := .ref ca) hg2 hC rfl hdb) hN hv hm hg hd hcd he0 he hpl
theorem r_isEb {t : Str → Option Bool} {Ts : String} (ho : HxOk X hx) (hT : ISF X.K t (.type Ts)) (hC : X.mg C = none) (hb : bootBuiltins C = some (.type Ts)) (hm : X.mg "isinstance" = none) (hN : X.N[i]? = some x := by rfl) (hv : Vis X.env.scope x := by first | exact Or.inl rfl | exact Or.inr (Or.inl rfl) | exact Or.inr (Or.inr rfl)) (hg : Gl X "isinstance" := by rfl) (hg2 : Gl X C := by rfl)
    (hn : C ≠ "__name__" := by decide) (hd : (x == ("__debug__" : Str)) = false := by decide) (hcd : (x == ("__classdict__" : Str)) = false := by decide) (hdb : (C == ("__debug__" : Str)) = false := by decide) (he0 : starEach [Expr.Name C q2] X.env = (false, eval (Expr.Name C q2) X.env) :: starEach [] X.env := by rfl)
    (he : starEach (.Name x q :: [Expr.Name C q2]) X.env = (false, eval (.Name x q) X.env) :: starEach [Expr.Name C q2] X.env := by rfl) (hpl : (backTo pos (starEach [Expr.Name C q2] X.env)).any (·.1) = false := by rfl) :
    PE X (.Call (.Name "isinstance" p) [.Name x q, .Name C q2] [] pos) (tX X.kw hx W (eIsE i t)) :=
  is_core (te := tVar i) ho hT (c := .ty Ts) (fun u h => by cases h; rfl) (pe_bltn (v := .ty Ts) hg2 hC hb rfl hn hdb) hN hv hm hg hd hcd he0 he hpl

/-! ### e.f -/
def eXf (i : Nat) (n : Str) (cs : List Str) : EX := fun ρ => match ρ[i]? with
  | some (some (.exc x)) => if cs.contains x.c then match x.fs.lookup n with
    | some d => .ok d ρ
    | none => .stuck else .stuck
  | _ => .stuck
def XFF (K : Fg) (n : Str) (cs : List Str) : Prop := ∀ c ∈ cs, XfC K (He.ga K c) ∧ PySem.W.findIn K (.ref (He.ga K c)) n = some none
theorem r_xf {n : Str} {cs : List Str} (ho : HxOk X hx) (hT : XFF X.K n cs) (hN : X.N[i]? = some x := by rfl) (hv : Vis X.env.scope x := by first | exact Or.inl rfl | exact Or.inr (Or.inl rfl) | exact Or.inr (Or.inr rfl))
    (hd : (x == ("__debug__" : Str)) = false := by decide) (hcd : (x == ("__classdict__" : Str)) = false := by decide) (hb : attributeBase (.Name x q) n X.env (eval (.Name x q) X.env) = eval (.Name x q) X.env := by rfl) :
    PE X (.Attribute (.Name x q) n pos) (tX X.kw hx W (eXf i n cs)) := by
  obtain ⟨a, oe, cls, dd, hxe, hmem, hot, hz⟩ := ho
  refine ⟨fun pins s σ H Q I h => ?_⟩
  obtain ⟨F, ρ, ⟨O, r0⟩, hp⟩ := h
  unfold eXf at hp
  cases e : ρ[i]? with
  | none => rw [e] at hp; exact hp.elim
  | some o =>
    cases o with
    | none => rw [e] at hp; exact hp.elim
    | some sl =>
      rw [e] at hp
      cases sl with
      | val d => exact hp.elim
      | exc y =>
        have hp' : Po X.kw hx F W σ (if cs.contains y.c then match y.fs.lookup n with
          | some d => Rs.ok d ρ
          | none => .stuck else .stuck) Q := hp
        split at hp'
        · rename_i hmc
          cases e2 : y.fs.lookup n with
          | none => rw [e2] at hp'; exact hp'.elim
          | some d =>
            rw [e2] at hp'
            obtain ⟨v, ev, a', cls', dd', rfl, e3, ex⟩ := r0.sl i _ e
            rw [hxe] at e3
            cases e3
            obtain ⟨T, hno⟩ := hT y.c (List.contains_iff_mem.mp hmc)
            obtain ⟨ec, ⟨z, _⟩ | ⟨dx, vs, rfl, hdx, hfs⟩⟩ := ex
            · rw [z] at e2; cases e2
            · subst ec
              obtain ⟨w1, l, dv⟩ := hfs.look e2
              have hq := hp' w1 H ⟨O, r0, dv⟩
              refine attr_of hb (thn ((pe_var hN hv hd hcd).run pins s σ H (fun v' H' => v' = .ref a ∧ H' = H) I ⟨_, ev, rfl, rfl⟩) fun u s1 hh => ?_)
              obtain ⟨x1, H1, I1, rx, rfl, rfl⟩ := hh
              obtain rfl : u = Value.ref a := rx
              obtain ⟨ha, _⟩ := I1.pin (a, oe) (List.mem_append_left _ hmem)
              obtain ⟨_, fv, hd1, _⟩ := hot
              have hX : ObjOk X.prog X.w H1 s1.heap dx (.xd vs) := I1.hok dx _ (wo_same O H1 _ _ hdx)
              obtain ⟨mA, hns, hr⟩ := hX
              obtain ⟨od, hod, hl⟩ := lookIn_ns hns
              obtain ⟨u, hu, ru⟩ := RelO.some_of (v := w1) (o := mA n) (by rw [← l]; exact hr n)
              have J : PySem.W.InstAt s1.heap a oe (He.ga X.K y.c) (some od) := ⟨ha, hz.1, by unfold PySem.W.notCls; rw [hd1] <;> rfl, by rw [hz.2]; exact hod⟩
              exact HandSPX.exc_get I1.kIn J T.ga T.gg T.exC (PySem.W.findObj_own T.hdC hno rfl (by rw [hl, hu])) (handed_of ru) ⟨w1, H1, I1.tok _, ru, hq⟩
        · exact hp'.elim

/-! ### calls with the handled exception -/
structure DfE (P : Program) (w : World) (K : Fg) (mg : Str → Option Value) (base : Heap) (k : Nat) (x : Str) (m : Ex → Store → Rt) : Prop where
  ex : ∃ f fd ps, mg x = some (.ref f) ∧ PySem.W.keepIn K (.ref f) = true ∧ Binds K fd ps [] ∧ FnE P w K mg base k f fd ps m
def eFnE (i : Nat) (m : Ex → Store → Rt) : EX := fun ρ => match ρ[i]? with
  | some (some (.exc x)) => match m x ρ.st with
    | .ok d S => .ok d ⟨ρ.sl, S⟩
    | _ => .stuck
  | _ => .stuck
theorem r_fnE {k : Nat} {f : Str} {m : Ex → Store → Rt} (F : DfE X.prog X.w X.K X.mg X.base k f m) (hr : L2H.RoomH k X.A) (ho : HxOk X hx) (hN : X.N[i]? = some x := by rfl) (hv : Vis X.env.scope x := by first | exact Or.inl rfl | exact Or.inr (Or.inl rfl) | exact Or.inr (Or.inr rfl)) (hg : Gl X f := by rfl)
    (hd : (x == ("__debug__" : Str)) = false := by decide) (hcd : (x == ("__classdict__" : Str)) = false := by decide) (hdb : (f == ("__debug__" : Str)) = false := by decide) (he : starEach [Expr.Name x q] X.env = (false, eval (.Name x q) X.env) :: starEach [] X.env := by rfl)
    (hpl : (backTo pos (starEach [] X.env)).any (·.1) = false := by rfl) : PE X (.Call (.Name f p) [.Name x q] [] pos) (tX X.kw hx W (eFnE i m)) := by
  obtain ⟨a, oe, cls, dd, hxe, hmem, hot, hz⟩ := ho
  obtain ⟨fa, fd, ps, hm, hk, hb, F⟩ := F.ex
  refine ⟨fun pins s σ H Q I h => ?_⟩
  obtain ⟨Fr, ρ, ⟨O, r0⟩, hp⟩ := h
  unfold eFnE at hp
  cases e : ρ[i]? with
  | none => rw [e] at hp; exact hp.elim
  | some o =>
    cases o with
    | none => rw [e] at hp; exact hp.elim
    | some sl =>
      rw [e] at hp
      cases sl with
      | val d => exact hp.elim
      | exc y =>
        have hp' : Po X.kw hx Fr W σ (match m y ρ.st with
          | .ok d S => Rs.ok d ⟨ρ.sl, S⟩
          | _ => .stuck) Q := hp
        cases e2 : m y ρ.st with
        | err z S => rw [e2] at hp'; exact hp'.elim
        | stuck => rw [e2] at hp'; exact hp'.elim
        | ok d S =>
          rw [e2] at hp'
          obtain ⟨v, ev, a', cls', dd', rfl, e3, ex⟩ := r0.sl i _ e
          rw [hxe] at e3
          cases e3
          refine wpAny_Call_Name_kw (ld_glob I hg hm ?_ hdb)
          refine PySem.W.callWith_K (h₀ := X.base) I.ok.mod.kin hk (thn ((pa_cons (pe_var hN hv hd hcd) pa_nil he).run pos pins s σ H (fun vs H' => vs = [.ref a] ∧ H' = H) I ⟨_, ev, rfl, rfl⟩) fun us s1 ⟨vs, H1, I1, r, q1, q2⟩ => ⟨I1.kIn, ?_⟩) he hpl
          subst q1 q2
          have hl : us.length = ps.length := by rw [← r.length, F.one]; rfl
          have b := hb s1 us I1.kIn (by rw [List.append_nil]; exact hl)
          rw [List.append_nil] at b
          have P1 := I1.pin (a, oe) (List.mem_append_left _ hmem)
          have hpin : L2H.PinOk X.stack H1 s1 (a, oe) := ⟨P1.1, P1.2.1, fun hm => (List.mem_cons.mp (I1.stkSub a hm)).elim P1.2.2.1 P1.2.2.2.1, P1.2.2.2.2⟩
          refine wpAny_call (codeAny_mono (F.run X.A X.stack s1 H1 ⟨us, []⟩ us Q (fun _ _ _ => False) (a, oe) O ρ.st y cls dd hr hot hpin I1.env0 b r hz r0.ce ex ⟨d, S, e2, fun v H' O' s' c' dv => hp' v H' ⟨O', r0.st s' c', dv⟩⟩) fun r s' hq => ?_)
          cases r with
          | error e =>
            obtain ⟨_, _, _, _, _, _, _, _, _, _, _, _, z⟩ := hq
            exact z.elim
          | ok fl =>
            cases fl with
            | ret u => exact I1.after hq
            | next => exact False.elim hq
            | brk => exact False.elim hq
            | cont => exact False.elim hq
end

/-! ### try -/
def noExc (ρ : En) : Bool := ρ.sl.all fun o => match o with
  | some (.exc _) => false
  | _ => true
def sTry (gb : SX) (i : Nat) (t : Str → Option Bool) (gs : SX) : SX := fun ρ => match gb ρ with
  | .err x ρ1 => match t x.c with
    | some true => match gs (ρ1.set i (some (.exc x))) with
      | .nx ρ2 => if noExc (ρ2.set i none) then .nx (ρ2.set i none) else .stuck
      | .bk ρ2 => if noExc (ρ2.set i none) then .bk (ρ2.set i none) else .stuck
      | .ct ρ2 => if noExc (ρ2.set i none) then .ct (ρ2.set i none) else .stuck
      | .rt d ρ2 => if noExc (ρ2.set i none) then .rt d (ρ2.set i none) else .stuck
      | _ => .stuck
    | some false => .err x ρ1
    | none => .stuck
  | r => r
section
variable {K : Kw} {F : Fm} {H : Hp} {ρ : En} {σ : MB.St} {O : Ow} {i : Nat} {ex : Option (Addr × Value × Option Addr)}
theorem RO.toE (r : RO K ⟨none⟩ F ρ σ H O) : RO K ⟨ex⟩ F ρ σ H O := by
  refine ⟨r.fr, r.ce, r.len, fun i x e => ?_⟩
  obtain ⟨v, ev, h⟩ := r.sl i x e
  refine ⟨v, ev, ?_⟩
  cases x with
  | val d => exact h
  | exc y =>
    obtain ⟨_, _, _, _, z, _⟩ := h
    cases z
theorem RO.setE (r : RO K ⟨none⟩ F ρ σ H O) {a : Addr} {cls : Value} {dd : Option Addr} {x : Ex} (h : ExOk K (wo O H) x cls dd) : RO K ⟨some (a, cls, dd)⟩ F (ρ.set i (some (.exc x))) (σ.set i (some (.ref a))) H O :=
  (r.toE (ex := some (a, cls, dd))).put i ⟨a, cls, dd, rfl, rfl, h⟩
theorem RO.unE (r : RO K ⟨ex⟩ F ρ σ H O) (hn : noExc (ρ.set i none) = true) : RO K ⟨none⟩ F (ρ.set i none) (σ.set i none) H O := by
  have r1 := r.setNone i
  refine ⟨r1.fr, r1.ce, r1.len, fun j x e => ?_⟩
  obtain ⟨v, ev, h⟩ := r1.sl j x e
  refine ⟨v, ev, ?_⟩
  cases x with
  | val d => exact h
  | exc y =>
    have := List.all_eq_true.mp hn _ (List.mem_of_getElem? e)
    cases this
end
def TEF (K : Fg) (t : Str → Option Bool) (c : Value) : Prop := ∀ cn b, t cn = some b → PySem.W.exmOne K (.ref (He.ga K cn)) c = some b
section
variable {X : Cx} {x n : Str} {c : Value} {i : Nat} {body suite : List Stmt} {b₀ : Stmt} {np pos pos' : Pos} {Wout : WX} {gb gs : SX} {t : Str → Option Bool}
theorem p_try (hs : X.stack = X.env :: X.outer) (hf : X.env.frame = some X.env.locals) (hN : X.N.Nodup) (hi : X.N[i]? = some n) (hln : X.env.kindOf n = some .local) (hc : Names X x c) (tk : L2N.Takes X Wout) (hT : TEF X.K t c)
    (hb : ∀ (W : WX) (pn : List (Addr × Obj)) (xe : Value → Shared → Prop), L2N.Takes (X.tr pn xe) W → PassesOwn (model X.prog X.w) X.A X.env xe → PSs (X.tr pn xe) body (tS X.kw ⟨none⟩ W gb))
    (hsu : ∀ (a : Addr) (oe : Obj) (cls : Value) (d : Option Addr) (pn : List (Addr × Obj)), HxOk (X.suite a ((a, oe) :: pn)) ⟨some (a, cls, d)⟩ → PSs (X.suite a ((a, oe) :: pn)) (b₀ :: suite) (tS X.kw ⟨some (a, cls, d)⟩ (fun _ _ _ _ => False) gs)) :
    PS X (.Try body [.ExceptHandler (some (.Name x np)) (some n) (b₀ :: suite) pos'] [] [] pos) (tS X.kw ⟨none⟩ Wout (sTry gb i t gs)) :=
  (L2N.ps_try_as (tb := fun W => tS X.kw ⟨none⟩ W gb) (ts := fun a cls d => tS X.kw ⟨some (a, cls, d)⟩ (fun _ _ _ _ => False) gs) hs hf hN hi hln hc tk hb fun a oe cls d pn hz hfv => hsu a oe cls d pn ⟨a, oe, cls, d, rfl, List.mem_cons_self, ⟨rfl, by
    obtain ⟨vs, e⟩ := hfv
    exact ⟨vs, e, hz.2.2 vs e⟩⟩, hz.zc⟩).imp fun D σ H h => by
    obtain ⟨F, ρ, r, hp⟩ := h
    refine ⟨F, ρ, r, ?_⟩
    unfold sTry at hp
    cases e : gb ρ with
    | nx ρ1 => rw [e] at hp; exact hp
    | rt d ρ1 => rw [e] at hp; exact hp
    | bk ρ1 => rw [e] at hp; exact hp
    | ct ρ1 => rw [e] at hp; exact hp
    | stuck => rw [e] at hp; exact hp
    | err y ρ1 =>
      rw [e] at hp
      intro cls dd σ1 H1 hx1
      have hp' : PoS X.kw ⟨none⟩ F Wout (match t y.c with
        | some true => match gs (ρ1.set i (some (.exc y))) with
          | .nx ρ2 => if noExc (ρ2.set i none) then Fl.nx (ρ2.set i none) else .stuck
          | .bk ρ2 => if noExc (ρ2.set i none) then .bk (ρ2.set i none) else .stuck
          | .ct ρ2 => if noExc (ρ2.set i none) then .ct (ρ2.set i none) else .stuck
          | .rt d ρ2 => if noExc (ρ2.set i none) then .rt d (ρ2.set i none) else .stuck
          | _ => .stuck
        | some false => .err y ρ1
        | none => .stuck) D := hp
      cases e2 : t y.c with
      | none => rw [e2] at hp'; exact hp'.elim
      | some b =>
        rw [e2] at hp'
        have ho := hx1
        obtain ⟨O1, r1, ev⟩ := hx1
        have hk := hT _ _ e2
        have ev1 : cls = .ref (He.ga X.K y.c) := ev.1
        rw [← ev1] at hk
        refine ⟨b, hk, fun hb1 a ha => ?_, fun hb0 => ?_⟩
        · subst hb1
          refine ⟨F, _, ⟨O1, r1.setE (i := i) (a := a) ev⟩, ?_⟩
          cases e3 : gs (ρ1.set i (some (.exc y))) with
          | nx ρ2 =>
            simp only [e3] at hp'
            split at hp'
            · rename_i hn
              exact fun σ2 H2 ⟨O2, r2⟩ => hp' _ H2 ⟨O2, r2.unE hn⟩
            · exact hp'.elim
          | bk ρ2 =>
            simp only [e3] at hp'
            split at hp'
            · rename_i hn
              exact fun σ2 H2 ⟨O2, r2⟩ => hp' _ H2 ⟨O2, r2.unE hn⟩
            · exact hp'.elim
          | ct ρ2 =>
            simp only [e3] at hp'
            split at hp'
            · rename_i hn
              exact fun σ2 H2 ⟨O2, r2⟩ => hp' _ H2 ⟨O2, r2.unE hn⟩
            · exact hp'.elim
          | rt d ρ2 =>
            simp only [e3] at hp'
            split at hp'
            · rename_i hn
              exact fun v σ2 H2 ⟨O2, r2, dv⟩ => hp' v _ H2 ⟨O2, r2.unE hn, dv⟩
            · exact hp'.elim
          | err z ρ2 => simp only [e3] at hp'; exact hp'.elim
          | stuck => simp only [e3] at hp'; exact hp'.elim
        · subst hb0
          exact hp' cls dd σ1 H1 ho
end
end MB

/-! An own exception class with an __init__: super().__init__(text); self.f = f ... -/
namespace PySem
namespace MbX
open PySem.W PySem.Calls PyProof.Rows PySem.HandSPX
/-! ### the text of __init__ -/
structure XAs where
  n : Str
  p : Pos
  q1 : Pos
  q2 : Pos
  q3 : Pos
  q4 : Pos
def xSet (a : XAs) : Stmt := .Assign [.Attribute (.Name "self" a.q1) a.n a.q2] (.Name a.n a.q3) a.q4
structure XSu where
  ps : Pos
  txt : Str
  j : Nat
  p0 : Pos
  p1 : Pos
  p2 : Pos
  p3 : Pos
  p4 : Pos
  p5 : Pos
def xSup (u : XSu) : Stmt := .Expr (.Call (.Attribute (.Call (.Name "super" u.p0) [] [] u.p1) "__init__" u.p2) [.Constant (.str u.txt) u.j u.p3] [] u.p4) u.p5
def xA (u : XSu) (as : List XAs) : Arguments := { posonlyargs := [], args := { arg := "self", annotation := none, pos := u.ps } :: as.map fun a => { arg := a.n, annotation := none, pos := a.p }, vararg := none, kwonlyargs := [], kw_defaults := [], kwarg := none, defaults := [] }
def xB (u : XSu) (as : List XAs) : List Stmt := xSup u :: as.map xSet
def xS (as : List XAs) : Scope := { kind := .function, names := (PySem.Str.ofString "self", .local) :: (as.map fun a => (a.n, NameKind.local)) ++ [(PySem.Str.ofString "__class__", .free), (PySem.Str.ofString "super", .globalImplicit)], isGenerator := false, isCoroutine := false, more := [] }
abbrev fnI (qual : Str) (u : XSu) (as : List XAs) (cc : Addr) (dV kV doc pm : Value) (an : Option Addr) (cdv ct : Value) : FuncData := ksFn "__init__" qual (xA u as) (xB u as) (xS as) dV kV doc pm an cdv ct cc
/-- what the written part says of the class at C, of its __init__ at fI -/
structure XT (prog : Program) (K : Frag) (mg : Str → Option Value) (x : Str) (C fI cc : Addr) (u : XSu) (as : List XAs) : Prop where
  gC : mg x = some (.ref C)
  cls : ∃ nm q N bs bm sn sub ab col dd k0 k1 k2 k3 k5, K.lookup C = some (excClassObj nm q C N bs bm true sn sub ab col dd k0 k1 k2 k3 k5 "ValueError.__new__") ∧ refsVE bm = true ∧ alongIn K "__init__" bm = some (some (.builtin "ValueError.__init__"))
  sa : findIn K (.ref C) "__setattr__" = some (some (.builtin "object.__setattr__"))
  no : ∀ a ∈ as, findIn K (.ref C) a.n = some none
  iC : findIn K (.ref C) "__init__" = some (some (.ref fI))
  tC : typeIn K (.ref fI) = some (.type "function")
  kC : keepIn K (.ref C) = true
  exC : subIn K (.ref C) (.type "BaseException") = some true
  veC : subIn K (.ref C) (.type "ValueError") = some true
  ownC : subIn K (.ref C) (.ref C) = some true
  tyC : typeIn K (.ref C) = some (.type "type")
  opq : nsIn K cStatics "thirdparty.any" = some none
  cell : ∃ o, K.lookup cc = some o ∧ o.data = .cell (some (.ref C))
  sup : mg "super" = none
  top : (prog.main.scope.names.lookup ("super" : Str)).isSome = false
  fn : ∃ (oc : Value) (od : Option Addr) (q : Str) (kV doc pm : Value) (an : Option Addr) (cdv ct : Value) (osl : Array (Option Value)), K.lookup fI = some ⟨oc, od, .func (fnI q u as cc .none kV doc pm an cdv ct), osl⟩ ∧ codeIn K cdv q = true ∧
    ∃ (ca : Addr) (oc2 : Obj) (vs : Array Value) (file : Str) (tf : Tok), cdv = .ref ca ∧ K.lookup ca = some oc2 ∧ oc2.data = .fields vs ∧ vs[2]? = some (.str file tf) ∧ ((prog.main.file : Str) == file) = true
theorem mb_one_size (v : Value) : [v].length ≤ sizeLine := by
  rw [sizeLine_eq]
  exact (by decide : 1 ≤ 16777216)
theorem mb_kept_but {K : Frag} {h h' : Heap} {x : Addr} (X : K.In h) (hx : K.lookup x = none) (k : ∀ b o, b ≠ x → h.get? b = some o → h'.get? b = some o) : K.In h' := fun a o e =>
  k a o (fun z => by rw [z, hx] at e; cases e) (X a o e)
/-- the fields' names are the def's own -/
def goodLine (u : XSu) : Bool := u.p2.endLine == u.p4.line
def goodNames (as : List XAs) : Bool := decide ((xS as).names.lookup ("super" : Str) = some .globalImplicit) && (decide ((xS as).names.lookup ("__class__" : Str) = some .free) && as.all fun a => decide (((xS as).names.lookup a.n) = some .local) && !(a.n == ("__debug__" : Str)) && !(a.n == ("self" : Str)))
section
variable {prog : Program} {w : World} {A : Around} {E : Value → Shared → Prop} {R : Result → Shared → Prop} {s : Shared} {K : Frag} {mg : Str → Option Value} {cn : Str} {x C fI cc : Addr} {u : XSu} {as0 : List XAs}
theorem within_look : ∀ (fs : List (Str × Value)), Within (fun y => fs.lookup y) (fs.map (·.1))
  | [], y, h => absurd rfl h
  | (a, v) :: r, y, h => by
    by_cases e : y = a
    · rw [e]
      exact List.mem_cons_self ..
    · refine List.mem_cons_of_mem _ (within_look r y fun z => h ?_)
      have eb : (y == a) = false := by simpa using e
      show ((a, v) :: r).lookup y = none
      rw [List.lookup_cons, eb]
      exact z
theorem look_put (a : Str) (v : Value) (fs : List (Str × Value)) : (fun y => if y = a then some v else fs.lookup y) = fun y => ((a, v) :: fs).lookup y := by
  funext y
  rw [List.lookup_cons]
  by_cases e : y = a
  · rw [if_pos e]
    have eb : (y == a) = true := by simpa using e
    rw [eb]
  · rw [if_neg e]
    have eb : (y == a) = false := by simpa using e
    rw [eb]
/-- the fields behind the first -/
theorem sets_old {fd : FuncData} {L dx : Addr} {m : Str → Option Value} {fv : Array Value} {cd : ClassData} {Q : Flow → Shared → Prop} (hk : fd.scope.kind = .function) (hcd : clsIn K C = some cd) (hm : refsVE cd.mro = true) (hh : cd.hasDict = true) (sa : findIn K (.ref C) "__setattr__" = some (some (.builtin "object.__setattr__")))
    (hself : m "self" = some (.ref x)) (hsl : (callEnv fd L fI).kindOf "self" = some .local) (hxd : x ≠ dx) (hLd : L ≠ dx) (hKd : K.lookup dx = none) :
    ∀ (as : List XAs) (us : List Value) (fs : List (Str × Value)) (s : Shared), (∀ a ∈ as, (callEnv fd L fI).kindOf a.n = some .local ∧ (a.n == ("__debug__" : Str)) = false ∧ findIn K (.ref C) a.n = some none) → as.map (fun a => m a.n) = us.map some → fs.length + as.length ≤ 1000 →
      K.In s.heap → s.heap.Ns L m → s.heap.get? x = some { cls := .ref C, dict := some dx, data := .fields fv } → s.heap.Ns1 dx (fun y => fs.lookup y) →
      (∀ h' tk, (∀ b o, b ≠ dx → s.heap.get? b = some o → h'.get? b = some o) → h'.Ns1 dx (fun y => (((as.map (·.n)).zip us).reverse ++ fs).lookup y) → Q .next { s with heap := h', toks := tk }) →
      wpAny (model prog w) A (execs (as.map xSet) (callEnv fd L fI)) Q E s
  | [], us, fs, s, _, _, _, _, _, _, hn, hq => by
    refine wpAny_execs_nil ?_
    have q := hq s.heap s.toks (fun _ _ _ e => e) hn
    exact q
  | a :: as, [], _, _, _, e, _, _, _, _, _, _ => by cases e
  | a :: as, v :: us, fs, s, hl, e, hz, X, hL, hx, hn, hq => by
    obtain ⟨hl1, hl2, hl3⟩ := hl a List.mem_cons_self
    have e1 : m a.n = some v ∧ as.map (fun a => m a.n) = us.map some := by
      simp only [List.map_cons, List.cons.injEq] at e
      exact e
    refine wpAny_execs_cons (plainObj_wpAny_Assign_Attribute ?_)
    refine ldc hk hl1 hL e1.1 (ldc hk hsl hL hself ?_) hl2
    obtain ⟨oD, esD, epD, hoD, hdD, hcD⟩ := hn.count (within_look fs)
    have hz1 : fs.length + 1 + as.length ≤ 1000 := by
      rw [List.length_cons] at hz
      omega
    obtain ⟨hp, g, d, t, os⟩ := s
    refine set_plain X (ox := { cls := .ref C, dict := some dx, data := .fields fv }) (od := some oD) ⟨hx, rfl, rfl, hoD⟩ sa ?_
    refine OEX.osa_old X hx hn (within_look fs) (by rw [List.length_map]; omega) hcd hm hh hl3 (fun h1 tk1 k1 hn1 => ?_)
    have hn1' : h1.Ns1 dx (fun y => ((a.n, v) :: fs).lookup y) := by
      rw [← look_put]
      exact hn1
    refine sets_old hk hcd hm hh sa hself hsl hxd hLd hKd as us ((a.n, v) :: fs) ⟨h1, g, d, tk1, os⟩ (fun b hb => hl b (List.mem_cons_of_mem _ hb)) e1.2 (by rw [List.length_cons]; exact hz1) (mb_kept_but X hKd k1) (hL.at fun o q => k1 _ _ hLd q) (k1 _ _ hxd hx) hn1' fun h' tk k' hn' => ?_
    refine hq h' tk (fun b o hb eo => k' b o hb (k1 b o hb eo)) ?_
    have eq : (((a :: as).map (·.n)).zip (v :: us)).reverse ++ fs = ((as.map (·.n)).zip us).reverse ++ ((a.n, v) :: fs) := by simp
    rw [eq]
    exact hn'
/-- super().__init__(text), the built-in one -/
theorem sup_call {h : Heap} {g : Array GenState} {d : Drawn} {t : Nat} {os : OsState} {y t0 : Addr} {rest : List Value} {Q : Value → Shared → Prop} {nm q : Str} {N : Addr} {bs bm : List Value} {hdct : Bool} {sn : List Str} {sub : List Value} {ab : Bool} {col : Option Bool} {dd : Option Addr} {k0 k1 k2 k3 k5 : Option Value}
    (hC : h.get? C = some (excClassObj nm q C N bs bm hdct sn sub ab col dd k0 k1 k2 k3 k5 "ValueError.__new__")) (hu : h.get? y = some (kxs_mw "ValueError.__init__" x)) (he : h.get? x = some (excO C t0)) (hz : rest.length ≤ sizeLine)
    (hq : ∀ h', (∀ b o, b ≠ x → h.get? b = some o → h'.get? b = some o) → h'.get? x = some (excO C h.objs.size) → Q .none ⟨h', g, d, t, os⟩) : wpAny (model prog w) A (call (.ref y) rest) Q E ⟨h, g, d, t, os⟩ := by
  refine wpAny_call (codeAny_of_tree ?_)
  show wpAny _ A.in1 (callAny (.ref y) ⟨rest, []⟩) _ _ _
  simp only [callAny]
  refine wpAny_bind (wpAny_load hu ?_)
  simp only [kxs_mw, show (Value.type "method-wrapper" == Value.type "method" || Value.type "method-wrapper" == Value.type "builtin_function_or_method" || Value.type "method-wrapper" == Value.type "method-wrapper") = true by decide, if_true]
  refine KFB.if_so (by decide) ?_
  refine wpAny_bind (check_bound_init F.excBase_ValueError.toExcCallFacts hC he rfl ?_)
  refine wpAny_bind (wpAny_pure (wpAny_pure ?_))
  refine ⟨plainId_quiet F.excBase_ValueError.init.plain _, codeAny_builtin F.excBase_ValueError.initEntry ?_⟩
  exact exc_init_tree (cls := .ref C) (t0 := t0) (dv := none) (c2 := .none) (c3 := .none) (b4 := .bool false) he hz fun h' k e' _ => hq h' k e'
theorem super_eval {env : Env} {u : XSu} (hl : goodLine u = true) : eval (.Call (.Attribute (.Call (.Name "super" u.p0) [] [] u.p1) "__init__" u.p2) [.Constant (.str u.txt) u.j u.p3] [] u.p4) env = (do
      let ov ← attributeBase (.Call (.Name "super" u.p0) [] [] u.p1) "__init__" env (eval (.Call (.Name "super" u.p0) [] [] u.p1) env)
      standAt u.p2.atName
      let (f, first) ← holding [ov] (getMethod ov "__init__" (do return (← importBound (.Call (.Name "super" u.p0) [] [] u.p1) env).getD true))
      callWith u.p4 f first (backTo u.p4 (starEach [.Constant (.str u.txt) u.j u.p3] env)) []) := by
  rw [arm_eval_Call]
  have hpos : methodCallPos true (.Call (.Name "super" u.p0) [] [] u.p1) env u.p2 u.p4 = pure u.p4 := by
    unfold methodCallPos
    have hl' : (u.p2.endLine == u.p4.line) = true := hl
    simp [hl']
  have hm : ∀ ov, methodCall (.Call (.Name "super" u.p0) [] [] u.p1) "__init__" u.p2 u.p4 env ov ([Expr.Constant (.str u.txt) u.j u.p3].length + ([] : List Keyword).length) (backTo u.p4 (starEach [.Constant (.str u.txt) u.j u.p3] env)) (backToKw u.p4 (keywordEach [] env)) = (do
      let (f, first) ← holding [ov] (getMethod ov "__init__" (do return (← importBound (.Call (.Name "super" u.p0) [] [] u.p1) env).getD true))
      callWith u.p4 f first (backTo u.p4 (starEach [.Constant (.str u.txt) u.j u.p3] env)) []) := fun ov => by
    have hform : methodCallForm ([Expr.Constant (.str u.txt) u.j u.p3].length + ([] : List Keyword).length) (backTo u.p4 (starEach [.Constant (.str u.txt) u.j u.p3] env)) (backToKw u.p4 (keywordEach [] env)) = true := rfl
    unfold methodCall
    rw [hform, hpos]
    simp only [pure_bind]
    rfl
  simp only [hm]
/-- what __init__ leaves of a fresh exception at x -/
structure XEnd (h h' : Heap) (x C dx t1 : Addr) (fs : List (Str × Value)) : Prop where
  keep : ∀ b o, b ≠ x → h.get? b = some o → h'.get? b = some o
  obj : h'.get? x = some { cls := .ref C, dict := some dx, data := .fields #[.ref t1, .none, .none, .none, .bool false, .none] }
  dbig : h.objs.size ≤ dx
  dne : dx ≠ x
  ns : h'.Ns1 dx (fun y => fs.lookup y)
theorem x_init (T : XT prog K mg cn C fI cc u as0) {t0 : Addr} {us : List Value} {base : Heap} (hs : 1 ≤ as0.length) (h9 : as0.length ≤ 900) (hline : goodLine u = true) (hgo : goodNames as0 = true) (hM : L2.Mod K mg base) (hbs : ∀ b o, base.get? b = some o → s.heap.get? b = some o)
    (hx : s.heap.get? x = some (excO C t0)) (hnx : K.lookup x = none) (hroom : A.depth < recursionLimit)
    (hbind : ∀ q kV doc pm an cdv ct, BindsTo s (fnI q u as0 cc .none kV doc pm an cdv ct) ⟨.ref x :: us, []⟩ ((("self" : Str), Value.ref x) :: (as0.map (·.n)).zip us))
    (hm1 : ((("self" : Str), Value.ref x) :: (as0.map (·.n)).zip us).reverse.lookup ("self" : Str) = some (Value.ref x))
    (hm2 : as0.map (fun a => ((("self" : Str), Value.ref x) :: (as0.map (·.n)).zip us).reverse.lookup a.n) = us.map some)
    (hq : ∀ h' tk dx t1, XEnd s.heap h' x C dx t1 ((as0.map (·.n)).zip us).reverse → R (.ok (.ret .none)) { s with heap := h', toks := tk }) :
    codeAny (model prog w) A (.call (.ref fI) ⟨.ref x :: us, []⟩) R s := by
  have X : K.In s.heap := hM.kin.keeps hbs
  have hlim : s.heap.NoLimit := hM.nolimit.keeps hbs
  obtain ⟨oc, od, q, kV, doc, pm, an, cdv, ct, osl, ho, hcd, ca, oc2, cvs, file, tf, rfl, hca, hcvs, hfl, hfile⟩ := T.fn
  obtain ⟨nm, qn, N, bs, bm, sn, sub, ab, col, dd, k0, k1, k2, k3, k5, hC, hbm, hal⟩ := T.cls
  have hcl : clsIn K C = some { name := nm, bases := bs, mro := .ref C :: bm, ns := N, qualname := qn, hasDict := true, slotNames := sn, subclasses := sub, abstract := ab, collection := col, hasDel := false } := by unfold clsIn; rw [hC] <;> rfl
  obtain ⟨hks, hgo⟩ := Bool.and_eq_true_iff.mp hgo
  obtain ⟨hkc, hgo⟩ := Bool.and_eq_true_iff.mp hgo
  have hks := of_decide_eq_true hks
  have hkc := of_decide_eq_true hkc
  have hg0 : ∀ a ∈ as0, (xS as0).names.lookup a.n = some .local ∧ (a.n == ("__debug__" : Str)) = false := fun a ha => by
    have z := List.all_eq_true.mp hgo a ha
    simp only [Bool.and_eq_true, Bool.not_eq_true', decide_eq_true_eq] at z
    exact ⟨z.1.1, z.1.2⟩
  have hlself : (xS as0).names.lookup ("self" : Str) = some .local := rfl
  have hloc : ∀ y ∈ ((("self" : Str), Value.ref x) :: (as0.map (·.n)).zip us), (xS as0).names.lookup y.1 = some .local := fun ⟨n, v⟩ hy => by
    rcases List.mem_cons.mp hy with e | hy
    · cases e
      exact hlself
    · obtain ⟨a, ha, e⟩ := List.mem_map.mp (List.of_mem_zip hy).1
      have z := (hg0 a ha).1
      rw [e] at z
      exact z
  have hcell : ∀ y ∈ (xS as0).names, y.2 ≠ .cell := fun y hy => by
    rcases List.mem_cons.mp hy with e | hy
    · rw [e]
      decide
    · rcases List.mem_append.mp hy with hy | hy
      · obtain ⟨a, _, e⟩ := List.mem_map.mp hy
        rw [← e]
        exact fun z => nomatch z
      · rcases List.mem_cons.mp hy with e | hy
        · rw [e]
          decide
        · rcases List.mem_cons.mp hy with e | hy
          · rw [e]
            decide
          · cases hy
  refine ks_codeAny_call_defAt (fd := fnI q u as0 cc .none kV doc pm an (.ref ca) ct) hroom (X _ _ ho) rfl hlim (codeRec_of X hcd) rfl (hbind q kV doc pm an (.ref ca) ct) hcell hloc (fun h₁ hns k₁ => ?_) rfl rfl rfl
  have X₁ : K.In h₁ := X.keeps k₁
  have hbs₁ : ∀ b o, base.get? b = some o → h₁.get? b = some o := fun b o e => k₁ _ _ (hbs _ _ e)
  have hx₁ := k₁ _ _ hx
  have hLx : s.heap.objs.size ≠ x := Nat.ne_of_gt (Heap.lt_size hx)
  show _root_.PySem.wpAt _ _ _ (execs (xSup u :: as0.map xSet) _) _ _ _
  refine ks_wpAt_execs_cons ?_
  show _root_.PySem.wpAt _ _ _ (exec (.Expr (.Call (.Attribute (.Call (.Name "super" u.p0) [] [] u.p1) "__init__" u.p2) [.Constant (.str u.txt) u.j u.p3] [] u.p4) u.p5) _) _ _ _
  refine ks_wpAt_Expr_any (ks_wpAt_MethodCall ?_ (super_eval hline)) rfl rfl
  refine ks_wpAt_super_base (f := fI) (cc := ca) (fd := fnI q u as0 cc .none kV doc pm an (.ref ca) ct) hks hkc (by decide) rfl (X₁ _ _ ho) rfl rfl rfl (X₁ _ _ hca) hcvs hfl hfile T.top ?_
  obtain ⟨mb, hb1, hb2⟩ := hM.blt
  refine ks_loadName_global rfl hks (loadGlobal_builtin (hM.glob.keeps hbs₁) T.sup (hb1.keeps hbs₁) ((hb2 "super" (by decide)).trans (by decide +kernel)) ⟨rfl, ?_⟩)
  obtain ⟨oce, hce, hcd2⟩ := T.cell
  refine wpAny_loadName_free rfl hkc rfl ⟨oce, X₁ _ _ hce, hcd2⟩ ?_
  refine wpAny_loadName_local (v := .ref x) rfl hlself hns hm1 ?_
  refine ks_wpAny_isType_cls (X₁ _ _ hC) rfl ⟨rfl, ?_⟩
  refine ks_wpAny_call_super (X₁ _ _ hC) rfl hx₁ rfl (fun c e => by cases e) (looks_subIn X₁ T.ownC) (fun h₂ so₂ k₂ => ?_)
  have X₂ : K.In h₂ := X₁.keeps k₂
  have hx₂ := k₂ _ _ hx₁
  have I₂ : InstAt h₂ x (excO C t0) C none := ⟨hx₂, rfl, rfl, trivial⟩
  refine kxs_getMethod kxs_ValueError so₂ (looks_opaque X₂ T.opq) (l₀ := .ref C :: bm) (fun A Q E s k q => wpAny_bind ((looks_clsIn X₂ hcl) A _ E s k (wpAny_pure q))) (by simp) X₂ hal (I₂.type.andThen (looks_subIn X₂ T.veC)) (fun z => by rw [z, hC] at hnx; cases hnx) rfl ?_
  have k₃ : ∀ b o, h₂.get? b = some o → (h₂.push (kxs_mw "ValueError.__init__" x)).get? b = some o := fun b o e => Heap.get?_push_of_some _ e
  have hmw : (h₂.push (kxs_mw "ValueError.__init__" x)).get? h₂.objs.size = some (kxs_mw "ValueError.__init__" x) := Heap.get?_push_at rfl rfl
  refine kxs_callWith (i := "ValueError.__init__") (x := x) (by rfl) (evalArgs_plain (Calls.spliced_cons (Calls.Constant_str (k := u.j) (pos := u.p3) (Calls.spliced_nil ⟨hmw, ?_⟩))))
  refine sup_call (k₃ _ _ (k₂ _ _ (X₁ _ _ hC))) hmw (k₃ _ _ hx₂) (mb_one_size _) (fun h₄ k₄ hx₄ => ?_)
  have X₄ : K.In h₄ := mb_kept_but (X₂.keeps k₃) hnx k₄
  have k14 : ∀ b o, b ≠ x → h₁.get? b = some o → h₄.get? b = some o := fun b o hb e => k₄ _ _ hb (k₃ _ _ (k₂ _ _ e))
  have hns₄ := hns.at (h' := h₄) fun o e => k14 _ _ hLx e
  cases as0 with
  | nil => exact absurd hs (by simp)
  | cons a as1 =>
    cases us with
    | nil => cases hm2
    | cons v us1 =>
      simp only [List.map_cons, List.cons.injEq] at hm2
      obtain ⟨hl1, hl2⟩ := hg0 a List.mem_cons_self
      refine wpAt_of_wpAny (wpAny_execs_cons (plainObj_wpAny_Assign_Attribute ?_))
      refine ldc (fd := fnI q u (a :: as1) cc .none kV doc pm an (.ref ca) ct) rfl hl1 hns₄ hm2.1 (ldc (fd := fnI q u (a :: as1) cc .none kV doc pm an (.ref ca) ct) rfl hlself hns₄ hm1 ?_) hl2
      refine set_plain X₄ (ox := excO C (h₂.push (kxs_mw "ValueError.__init__" x)).objs.size) (od := none) ⟨hx₄, rfl, rfl, trivial⟩ T.sa ?_
      refine exc_osa X₄ hx₄ hcl (show refsVE (.ref C :: bm) = true from hbm) rfl (T.no a List.mem_cons_self) (fun h₅ tk₅ dx k₅ dn dne hx₅ hn₅ => ?_)
      have hnd : K.lookup dx = none := by
        cases e : K.lookup dx with
        | none => rfl
        | some o => exact absurd (Nat.lt_of_lt_of_le (Heap.lt_size (X₄ _ _ e)) dn) (Nat.lt_irrefl _)
      have hL4 : s.heap.objs.size < h₄.objs.size := hns₄.lt
      have hLd : s.heap.objs.size ≠ dx := Nat.ne_of_lt (Nat.lt_of_lt_of_le hL4 dn)
      have hn5 : h₅.Ns1 dx (fun y => ([(a.n, v)] : List (Str × Value)).lookup y) := by
        rw [← look_put]
        exact hn₅
      refine sets_old (K := K) (C := C) (x := x) (fd := fnI q u (a :: as1) cc .none kV doc pm an (.ref ca) ct) (L := s.heap.objs.size) rfl hcl (show refsVE (.ref C :: bm) = true from hbm) rfl T.sa hm1 hlself dne.symm hLd hnd as1 us1 [(a.n, v)] _
        (fun b hb => ⟨(hg0 b (List.mem_cons_of_mem _ hb)).1, (hg0 b (List.mem_cons_of_mem _ hb)).2, T.no b (List.mem_cons_of_mem _ hb)⟩) hm2.2 (by rw [List.length_cons] at h9; rw [List.length_singleton]; omega) (mb_kept_but X₄ hnx k₅) (hns₄.at fun o e => k₅ _ _ hLx e) hx₅ hn5 fun h₆ tk₆ k₆ hn₆ => ?_
      refine hq h₆ tk₆ dx _ ⟨fun b o hb e => ?_, k₆ _ _ dne.symm hx₅, Nat.le_of_lt (Nat.lt_of_lt_of_le hL4 dn), dne, ?_⟩
      · have e4 := k14 _ _ hb (k₁ _ _ e)
        exact k₆ _ _ (Nat.ne_of_lt (Nat.lt_of_lt_of_le (Heap.lt_size e4) dn)) (k₅ _ _ hb e4)
      · have eq : (((a :: as1).map (·.n)).zip (v :: us1)).reverse = ((as1.map (·.n)).zip us1).reverse ++ [(a.n, v)] := by simp
        rw [eq]
        exact hn₆
/-- the binding of the written values -/
structure XBi (u : XSu) (as0 : List XAs) : Prop where
  one : 1 ≤ as0.length
  few : as0.length ≤ 900
  line : goodLine u = true
  good : goodNames as0 = true
  bind : ∀ (s : Shared) (x cc : Addr) (us : List Value), us.length = as0.length → ∀ (q : Str) (kV doc pm : Value) (an : Option Addr) (cdv ct : Value), BindsTo s (fnI q u as0 cc .none kV doc pm an cdv ct) ⟨.ref x :: us, []⟩ ((("self" : Str), Value.ref x) :: (as0.map (·.n)).zip us)
  self : ∀ (x : Addr) (us : List Value), us.length = as0.length → ((("self" : Str), Value.ref x) :: (as0.map (·.n)).zip us).reverse.lookup ("self" : Str) = some (Value.ref x)
  arg : ∀ (x : Addr) (us : List Value), us.length = as0.length → as0.map (fun a => ((("self" : Str), Value.ref x) :: (as0.map (·.n)).zip us).reverse.lookup a.n) = us.map some
theorem xbi_one {u : XSu} {a : XAs} (hl : goodLine u = true) (hg : goodNames [a] = true) (hs : (("self" : Str) == a.n) = false)
    (hb : ∀ (x cc : Addr) (q : Str) (kV doc pm : Value) (an : Option Addr) (cdv ct v : Value), bindArgs (fnI q u [a] cc .none kV doc pm an cdv ct) ⟨[.ref x, v], []⟩ = pure [(("self" : Str), Value.ref x), (a.n, v)] := by intros; rfl) : XBi u [a] := by
  refine ⟨Nat.le_refl _, by simp, hl, hg, fun s x cc us h q kV doc pm an cdv ct => ?_, fun x us h => ?_, fun x us h => ?_⟩
  · match us, h with
    | [v], _ => exact .of_eq (hb ..)
  · match us, h with
    | [v], _ =>
      show ([(a.n, v), (("self" : Str), Value.ref x)] : List (Str × Value)).lookup ("self" : Str) = _
      rw [List.lookup_cons, hs]
      rfl
  · match us, h with
    | [v], _ =>
      show [([(a.n, v), (("self" : Str), Value.ref x)] : List (Str × Value)).lookup a.n] = _
      rw [List.lookup_cons, show (a.n == a.n) = true by simp]
      rfl
theorem xbi_two {u : XSu} {a b : XAs} (hl : goodLine u = true) (hg : goodNames [a, b] = true) (hs : (("self" : Str) == a.n) = false) (hs2 : (("self" : Str) == b.n) = false) (hab : (a.n == b.n) = false)
    (hb : ∀ (x cc : Addr) (q : Str) (kV doc pm : Value) (an : Option Addr) (cdv ct v w : Value), bindArgs (fnI q u [a, b] cc .none kV doc pm an cdv ct) ⟨[.ref x, v, w], []⟩ = pure [(("self" : Str), Value.ref x), (a.n, v), (b.n, w)] := by intros; rfl) : XBi u [a, b] := by
  refine ⟨by simp, by simp, hl, hg, fun s x cc us h q kV doc pm an cdv ct => ?_, fun x us h => ?_, fun x us h => ?_⟩
  · match us, h with
    | [v, w], _ => exact .of_eq (hb ..)
  · match us, h with
    | [v, w], _ =>
      show ([(b.n, w), (a.n, v), (("self" : Str), Value.ref x)] : List (Str × Value)).lookup ("self" : Str) = _
      rw [List.lookup_cons, hs2]
      show ([(a.n, v), (("self" : Str), Value.ref x)] : List (Str × Value)).lookup ("self" : Str) = _
      rw [List.lookup_cons, hs]
      rfl
  · match us, h with
    | [v, w], _ =>
      show [([(b.n, w), (a.n, v), (("self" : Str), Value.ref x)] : List (Str × Value)).lookup a.n, ([(b.n, w), (a.n, v), (("self" : Str), Value.ref x)] : List (Str × Value)).lookup b.n] = _
      have e1 : ([(b.n, w), (a.n, v), (("self" : Str), Value.ref x)] : List (Str × Value)).lookup a.n = some v := by
        rw [List.lookup_cons, hab]
        show ([(a.n, v), (("self" : Str), Value.ref x)] : List (Str × Value)).lookup a.n = _
        rw [List.lookup_cons, show (a.n == a.n) = true by simp]
      have e2 : ([(b.n, w), (a.n, v), (("self" : Str), Value.ref x)] : List (Str × Value)).lookup b.n = some w := by
        rw [List.lookup_cons, show (b.n == b.n) = true by simp]
      rw [e1, e2]
      rfl
/-- a made exception -/
structure XMade (h h' : Heap) (e C d : Addr) (fs : List (Str × Value)) : Prop where
  keep : ∀ b o, h.get? b = some o → h'.get? b = some o
  new : h.objs.size ≤ e
  obj : ∃ oe vs, h'.get? e = some oe ∧ oe.cls = .ref C ∧ oe.dict = some d ∧ oe.data = .fields vs ∧ vs[1]? = some .none ∧ vs[2]? = some .none
  dbig : h.objs.size ≤ d
  dne : d ≠ e
  ns : h'.Ns1 d (fun y => fs.lookup y)
theorem x_made (T : XT prog K mg cn C fI cc u as0) (B : XBi u as0) {us : List Value} {base : Heap} (hM : L2.Mod K mg base) (hbs : ∀ b o, base.get? b = some o → s.heap.get? b = some o) (hl : us.length = as0.length) (hroom : A.depth + 1 < recursionLimit)
    (hq : ∀ h' tk e d, XMade s.heap h' e C d ((as0.map (·.n)).zip us).reverse → R (.ok (.ret (.ref e))) { s with heap := h', toks := tk }) :
    codeAny (model prog w) A (.call (.ref C) ⟨us, []⟩) R s := by
  obtain ⟨nm, q, N, bs, bm, sn, sub, ab, col, dd, k0, k1, k2, k3, k5, hC, hbm, _⟩ := T.cls
  have X : K.In s.heap := hM.kin.keeps hbs
  obtain ⟨hp, g, dr, tk, os⟩ := s
  have k : ∀ b o, hp.get? b = some o → ((hp.push (kdv_tup us)).push (excO C hp.objs.size)).get? b = some o := fun b o e => Heap.get?_push_of_some _ (Heap.get?_push_of_some _ e)
  have hget : ((hp.push (kdv_tup us)).push (excO C hp.objs.size)).get? (hp.objs.size + 1) = some (excO C hp.objs.size) := by heap_get
  have hnx : K.lookup (hp.objs.size + 1) = none := by
    cases e : K.lookup (hp.objs.size + 1) with
    | none => rfl
    | some o =>
      have z : hp.get? (hp.objs.size + 1) = some o := X _ _ e
      exact absurd (Nat.lt_of_succ_lt (Heap.lt_size z)) (Nat.lt_irrefl _)
  have hz : us.length ≤ sizeLine := by
    have := B.few
    rw [sizeLine_eq]
    omega
  refine call_own F.excBase_ValueError (fun X => refsVE_contains X bm hbm) (X _ _ hC) (looks_findIn X T.iC) (fun self => bind_fn X self T.tC) hz ?_
  refine x_init (s := ⟨(hp.push (kdv_tup us)).push (excO C hp.objs.size), g, dr, tk, os⟩) T B.one B.few B.line B.good hM (fun b o e => k b o (hbs b o e)) hget hnx ?_ (B.bind _ _ _ us hl) (B.self _ us hl) (B.arg _ us hl) fun h' tk' dx t1 ⟨k', hx, dn, dne, hns⟩ => ?_
  · show A.depth + 1 < recursionLimit
    exact hroom
  · have old : ∀ b o, hp.get? b = some o → h'.get? b = some o := fun b o e => k' b o (Nat.ne_of_lt (Nat.lt_succ_of_lt (Heap.lt_size e))) (k b o e)
    have z : hp.objs.size + 1 + 1 ≤ dx := by
      first
        | (simpa only [Heap.size_push] using dn)
        | exact dn
        | (have q := dn; rw [Heap.size_push, Heap.size_push] at q; exact q)
    exact ⟨rfl, hq h' tk' (hp.objs.size + 1) dx ⟨old, Nat.le_succ _, ⟨_, _, hx, rfl, rfl, rfl, rfl, rfl⟩, Nat.le_trans (Nat.le_trans (Nat.le_succ _) (Nat.le_succ _)) z, dne, hns⟩⟩
end
end MbX
end PySem
namespace MB
open PySem PySem.Spec PyProof.Rows L2
theorem relO_app : ∀ {fs gs : List (Str × V)} {ws zs : List (Str × Value)} (f : Str), (∀ f, RelO (fs.lookup f) (ws.lookup f)) → (∀ f, RelO (gs.lookup f) (zs.lookup f)) → RelO ((fs ++ gs).lookup f) ((ws ++ zs).lookup f) := fun {fs gs ws zs} f h1 h2 => by
  have a1 : ∀ {α : Type} (l m : List (Str × α)), (l ++ m).lookup f = (l.lookup f).or (m.lookup f) := fun {α} l m => by
    induction l with
    | nil => simp [List.lookup]
    | cons p l ih =>
      obtain ⟨a, b⟩ := p
      rw [List.cons_append, List.lookup_cons, List.lookup_cons]
      cases (f == a) with
      | true => rfl
      | false => exact ih
  rw [a1, a1]
  have q := h1 f
  cases e1 : fs.lookup f with
  | some v =>
    cases e2 : ws.lookup f with
    | some u =>
      rw [e1, e2] at q
      exact q
    | none =>
      rw [e1, e2] at q
      exact q.elim
  | none =>
    cases e2 : ws.lookup f with
    | some u =>
      rw [e1, e2] at q
      exact q.elim
    | none => exact h2 f
theorem relO_rev : ∀ {ns : List Str} {vs : List V} {us : List Value}, Vals vs us → ∀ f, RelO ((ns.zip vs).reverse.lookup f) ((ns.zip us).reverse.lookup f)
  | [], _, _, _, f => by
    show RelO none none
    trivial
  | n :: ns, _, _, .nil, f => by
    show RelO none none
    trivial
  | n :: ns, v :: vs, u :: us, .cons a t, f => by
    rw [List.zip_cons_cons, List.zip_cons_cons, List.reverse_cons, List.reverse_cons]
    refine relO_app f (relO_rev t) fun g => ?_
    rw [List.lookup_cons, List.lookup_cons]
    cases (g == n) with
    | true => exact a
    | false => trivial
theorem df_app {K : Kw} {H : Fz} : ∀ {vs ws : List (Str × V)} {ds es : List (Str × D)}, DF K H vs ds → DF K H ws es → DF K H (vs ++ ws) (ds ++ es)
  | _, _, _, _, .nil, t => t
  | _, _, _, _, .cons a r, t => .cons a (df_app r t)
theorem df_rev {K : Kw} {H : Fz} : ∀ {ns : List Str} {vs : List V} {ds : List D}, DVs K H vs ds → DF K H (ns.zip vs).reverse (ns.zip ds).reverse
  | [], _, _, _ => .nil
  | n :: ns, _, _, .nil => .nil
  | n :: ns, v :: vs, d :: ds, .cons a t => by
    rw [List.zip_cons_cons, List.zip_cons_cons, List.reverse_cons, List.reverse_cons]
    exact df_app (df_rev t) (.cons a .nil)
section
variable {X : Cx} {hx : Hx} {W : WX} {cn : Str} {C fI cc : Addr} {u : PySem.MbX.XSu} {as0 : List PySem.MbX.XAs} {e : Expr} {es : List Expr} {fs : List EX} {p pos pos2 : Pos}
/-- C(e, ..) -/
def tMkX (C : Addr) (ns : List Str) (ta : TA) : MB.St → Hp → XK → Prop := fun σ H Q => ta σ H fun vs H1 => vs.length = ns.length ∧ ∀ d, H1 d = none → Q (.ref C) (some d) (upd H1 d (.xd (ns.zip vs).reverse))
theorem pmk_x {k : Nat} {t : TA} (T : PySem.MbX.XT X.prog X.K X.mg cn C fI cc u as0) (B : PySem.MbX.XBi u as0) (hr : Room k X.A) (ha : PA X (e :: es) t) (hg : Gl X cn) (hdb : (cn == ("__debug__" : Str)) = false) (he : starEach (e :: es) X.env = (false, eval e X.env) :: starEach es X.env) (hpl : (backTo pos (starEach es X.env)).any (·.1) = false) :
    L2N.PMk X (.Call (.Name cn p) (e :: es) [] pos) (tMkX C (as0.map (·.n)) t) := by
  intro pins s σ H Q I h
  refine wpAny_Call_Name_kw (ld_glob I hg T.gC ?_ hdb)
  refine PySem.W.callWith_K (h₀ := X.base) I.ok.mod.kin T.kC (thn (ha.run pos pins s σ H _ I h) fun us s1 hh => ?_) he hpl
  obtain ⟨vs, H1, I1, r1, hl, q1⟩ := hh
  refine ⟨I1.kIn, ?_⟩
  obtain ⟨hp, g, dr, tk, os⟩ := s1
  refine wpAny_call (PySem.MbX.x_made T B I1.ok.mod I1.bk (show us.length = as0.length by rw [← r1.length, hl, List.length_map]) (by have := hr.dp; omega) fun h' tk' e d M => ?_)
  show L2N.MkP X pins σ Q (.ref e) ⟨h', g, dr, tk', os⟩
  obtain ⟨oe, fv, hoe, hc, hd, hdat, h1, h2⟩ := M.obj
  have hns := M.ns
  obtain ⟨G', g1, g2⟩ := restrict h' fun b => decide (b ≠ e)
  have gk : ∀ b, b ≠ e → G'.get? b = h'.get? b := fun b hb => g1 b (decide_eq_true hb)
  have ge : G'.get? e = none := g2 e (by simp)
  have old : ∀ b o, hp.get? b = some o → G'.get? b = some o := fun b o q => (gk b (Nat.ne_of_lt (Nat.lt_of_lt_of_le (Heap.lt_size q) M.new))).trans (M.keep b o q)
  have ob : ObjOk X.prog X.w (upd H1 d (.xd ((as0.map (·.n)).zip vs).reverse)) G' d (.xd ((as0.map (·.n)).zip vs).reverse) :=
    ⟨_, hns.at (fun o q => (gk d M.dne).trans q), fun f => relO_rev r1 f⟩
  have J : Inv X pins σ (upd H1 d (.xd ((as0.map (·.n)).zip vs).reverse)) ⟨G', g, dr, tk', os⟩ := I1.laid (t' := tk') old M.dbig ob
  refine ⟨e, oe, fv, ⟨G', g, dr, tk', os⟩, _, .ref C, some d, rfl, J, fun b o q => ?_, ge, hoe, ⟨hc, hd, fun vs' e' => by
    rw [hdat] at e'
    cases e'
    exact h2⟩, hdat, h1, ?_, rfl, I1.bare, raises_own T.exC T.tyC, q1 d (I1.hok.fresh M.dbig)⟩
  · by_cases hb : b = e
    · have q' : G'.get? b = some o := q
      rw [hb, ge] at q'; cases q'
    · exact (gk b hb).symm.trans q
  · rw [upd_ne (Ne.symm M.dne)]
    exact I1.hok.fresh M.new
/-- raise C(e, ..) -/
def sRaise (c : Str) (ns : List Str) (fs : List EX) : SX := fun ρ => (evs fs (fun ds ρ => if ds.length = ns.length then .err ⟨c, (ns.zip ds).reverse⟩ ρ else .stuck) ρ).then fun _ _ => .stuck
theorem p_raise {k : Nat} (hc : X.calm = true) (tk : L2N.Takes X W) (T : PySem.MbX.XT X.prog X.K X.mg cn (He.ga X.K cn) fI cc u as0) (B : PySem.MbX.XBi u as0) (hr : Room k X.A) (ha : PA X (e :: es) (tA X.kw hx W fs)) (hg : Gl X cn := by rfl) (hdb : (cn == ("__debug__" : Str)) = false := by decide)
    (he : starEach (e :: es) X.env = (false, eval e X.env) :: starEach es X.env := by rfl) (hpl : (backTo pos (starEach es X.env)).any (·.1) = false := by rfl) :
    PS X (.Raise (some (.Call (.Name cn p) (e :: es) [] pos)) none pos2) (tS X.kw hx W (sRaise cn (as0.map (·.n)) fs)) :=
  (L2N.ps_raise hc tk (pmk_x T B hr ha hg hdb he hpl)).imp fun D σ H q => by
    obtain ⟨F, ρ, ⟨O, r⟩, hp⟩ := q
    have hp' : Po X.kw hx F W σ (evs fs (fun ds ρ => if ds.length = (as0.map (·.n)).length then .err ⟨cn, ((as0.map (·.n)).zip ds).reverse⟩ ρ else .stuck) ρ) (fun _ _ => False) := by
      unfold sRaise at hp
      cases e : evs fs (fun ds ρ => if ds.length = (as0.map (·.n)).length then .err ⟨cn, ((as0.map (·.n)).zip ds).reverse⟩ ρ else .stuck) ρ with
      | ok d ρ1 => rw [e] at hp; exact hp.elim
      | err x ρ1 => rw [e] at hp; exact fun cls dd H1 h => hp cls dd σ H1 h
      | stuck => rw [e] at hp; exact hp.elim
    refine tA_of r hp' fun F1 ds ρ1 vs H1 O1 ln r1 dvs q => ?_
    split at q
    · rename_i hl
      refine ⟨dvs.length.trans hl, fun d nd => ?_⟩
      refine q _ _ _ ⟨O1, r1.grow (same_upd nd), rfl, .inr ⟨d, _, rfl, ?_, DF.mono (wo_mono (same_upd nd)) (df_rev dvs)⟩⟩
      rw [wo_out (r1.out nd), upd_same]
    · exact q.elim
end
end MB

/-! Written dicts of int keys, calls of a local that holds a def, list.count; by values. -/
namespace MB
open PySem PySem.Spec PyProof.Rows L2

/-! ### a module's dict of int keys -/
def intKeysB (es : List DictEntry) : Bool := es.all fun e => match e.key with
  | .int k _ => e.hash == hashInt k
  | _ => false
def KDctI (K : Fg) (p : Addr) (i : Int) (v : V) : Prop := ∃ es n u, K.lookup p = some ⟨.type "dict", none, .dict es n, #[]⟩ ∧ intKeysB es.toList = true ∧ findBy Value.isInt es i = some u ∧ RelV v u
def rIxI (K : Fg) : R2 := fun x y H Q => ∃ p i v, x = .ref p ∧ y = .int i ∧ KDctI K p i v ∧ Q v H
theorem ix_kdictI {X : Cx} : IxR X (rIxI X.K) := by
  intro value slice pins s σ H x y v u Q I rx ry h hs
  obtain ⟨p, i, r, rfl, rfl, ⟨es, n, u0, hl, hk, e, ru⟩, q⟩ := h
  obtain rfl : v = Value.ref p := rx
  obtain ⟨t, rfl⟩ := ry
  have hm : s.heap.MapOf (intKind X.prog X.w) p (fun k => findBy Value.isInt es k) := ⟨_, es, n, I.kIn _ _ hl, ⟨rfl, rfl, rfl⟩, rfl, (fun e he => by
    have z := List.all_eq_true.mp hk e (Array.mem_toList_iff.mpr he)
    cases q : e.key with
    | int k t =>
      simp only [q] at z
      exact ⟨k, by simp [intKind, Value.isInt, q], beq_iff_eq.mp z⟩
    | _ =>
      simp only [q] at z
      cases z), fun _ => rfl⟩
  exact tail_any hm.typeIs slot_dict_getitem.lookup (wpAny_getItem_of (intKind_is X.prog X.w i t) hm e ⟨r, H, I.tok _, ru, q⟩) hs
def eTbl (t : Int → Option D) (f : EX) : EX := fun ρ => (f ρ).bind fun d ρ1 => match d with
  | .int i => match t i with
    | some z => .ok z ρ1
    | none => .stuck
  | _ => .stuck
def TBF (K : Kw) (x : Str) (t : Int → Option D) : Prop := ∀ i d, t i = some d → ∃ v, KDctI K.K (He.ga K.K x) i v ∧ ∀ z, DV K z v d
section
variable {X : Cx} {hx : Hx} {W : WX} {b : Expr} {fb : EX} {x : Str} {pos p : Pos}
theorem r_tbl {t : Int → Option D} (T : TBF X.kw x t) (hm : X.mg x = some (.ref (He.ga X.K x))) (hb : PE X b (tX X.kw hx W fb)) (hg : Gl X x := by rfl) (hd : (x == ("__debug__" : Str)) = false := by decide) (hs : PlainIx b := by first | (intro _ _; rfl) | exact fun _ _ => rfl) :
    PE X (.Subscript (.Name x p) b pos) (tX X.kw hx W (eTbl t fb)) :=
  (pe_ix ix_kdictI (pe_glob (v := .ref (He.ga X.K x)) hg hm rfl hd) hb hs).imp fun σ H Q h => by
    obtain ⟨F, ρ, ⟨O, r0⟩, hp⟩ := h
    show tX X.kw hx W fb σ H _
    refine bindX r0 hp fun d ρ1 v H1 O1 r1 s1 dv hp1 => ?_
    cases d <;> (try exact hp1.elim)
    rename_i i
    cases dv
    cases e : t i with
    | none => simp only [e] at hp1; exact hp1.elim
    | some z =>
      simp only [e] at hp1
      obtain ⟨v, k, dv⟩ := T i z e
      exact ⟨_, i, v, rfl, rfl, k, hp1 v H1 ⟨O1, r1, dv _⟩⟩
end

/-! ### a local that holds a def -/
def eLoc (i : Nat) (S : Str → Option Fn) (fs : List EX) : EX := fun ρ => match ρ[i]? with
  | some (some (.val (.fn nm))) => match S nm with
    | some m => eFn m fs ρ
    | none => .stuck
  | _ => .stuck
def LocF (P : Program) (w : World) (K : Fg) (mg : Str → Option Value) (base : Heap) (k n : Nat) (S : Str → Option Fn) : Prop := ∀ nm m, S nm = some m → mg nm = some (.ref (He.ga K nm)) ∧ Df P w K mg base k nm n m
section
variable {X : Cx} {hx : Hx} {W : WX} {e : Expr} {es : List Expr} {fs : List EX} {pos p : Pos} {x : Str} {k n i : Nat} {S : Str → Option Fn}
theorem r_loc (L : LocF X.prog X.w X.K X.mg X.base k n S) (hr : Room k X.A) (tk : L2N.Takes X W) (ha : PA X (e :: es) (tA X.kw hx W fs)) (hl : fs.length = n := by rfl) (hN : X.N[i]? = some x := by rfl) (hv : Vis X.env.scope x := by first | exact Or.inl rfl | exact Or.inr (Or.inl rfl) | exact Or.inr (Or.inr rfl))
    (hdb : (x == ("__debug__" : Str)) = false := by decide) (hcd : (x == ("__classdict__" : Str)) = false := by decide) (he : starEach (e :: es) X.env = (false, eval e X.env) :: starEach es X.env := by rfl) (hpl : (backTo pos (starEach es X.env)).any (·.1) = false := by rfl) :
    PE X (.Call (.Name x p) (e :: es) [] pos) (tX X.kw hx W (eLoc i S fs)) := by
  refine ⟨fun pins s σ H Q I h => ?_⟩
  obtain ⟨F, ρ, ⟨O, r0⟩, hp⟩ := h
  unfold eLoc at hp
  cases e0 : ρ[i]? with
  | none => rw [e0] at hp; exact hp.elim
  | some o =>
    cases o with
    | none => rw [e0] at hp; exact hp.elim
    | some sl =>
      rw [e0] at hp
      cases sl with
      | exc y => exact hp.elim
      | val d =>
        cases d <;> (try exact hp.elim)
        rename_i nm
        have hp' : Po X.kw hx F W σ (match S nm with
          | some m => eFn m fs ρ
          | none => .stuck) Q := hp
        cases e1 : S nm with
        | none => rw [e1] at hp'; exact hp'.elim
        | some m =>
          rw [e1] at hp'
          obtain ⟨v, ev, dv⟩ := r0.sl i _ e0
          cases (show DV X.kw (wo O H) v (.fn nm) from dv)
          obtain ⟨hg, D⟩ := L nm m e1
          obtain ⟨f, fd, ps, hm, hk, hb, en, FF⟩ := D.ex
          rw [hg] at hm
          cases hm
          refine wpAny_Call_Name_kw (thn ((pe_var (pos := p) hN hv hdb hcd).run pins s σ H (fun v H1 => v = .ref (He.ga X.K nm) ∧ H1 = H) I ⟨_, ev, rfl, rfl⟩) fun u s1 ⟨v, H1, I1, r1, q1⟩ => ?_)
          obtain ⟨rfl, rfl⟩ := q1
          cases r1
          have ht := t_fn (W := W) (hx := hx) (fs := fs) (m := m) (ps := ps) (hl.trans en.symm) (σ := σ) (H := H1) (Q := Q) ⟨F, ρ, ⟨O, r0⟩, hp'⟩
          refine PySem.W.callWith_K (h₀ := X.base) I1.ok.mod.kin hk (thn (ha.run pos pins s1 σ H1 (fun vs H2 => spV X.kw ps.length m (vs ++ []) H2 Q (WE W σ)) I1 ?_) fun us s2 ⟨vs, H2, I2, r, q⟩ => ⟨I2.kIn, ?_⟩) he hpl
          · have e2 : (fun (vs : List V) (H2 : Hp) => spV X.kw ps.length m (vs ++ []) H2 Q (WE W σ)) = fun vs H2 => spV X.kw ps.length m vs H2 Q (WE W σ) := by
              funext vs H2
              rw [List.append_nil]
            rw [e2]
            exact ht
          · exact run_fnSD FF hr hb .nil (L2N.passAt tk σ) I2 r q
end

/-! ### list.count -/
def rCnt (K : Fg) : V → List V → Hp → VK → Prop := fun x xs H Q => ∃ (a : Addr) (ys : List V) (y : V), x = V.ref a ∧ xs = [y] ∧ SqL K H a ys ∧ flatV y = true ∧ ys.all flatV = true ∧ Q (.int ((ys.countP fun z => eqV z y : Nat))) H
theorem cnt_eqU {x : V} : ∀ {xs : List V} {us : List Value}, Vals xs us → xs.all flatV = true → us.countP (eqU x) = xs.countP fun y => eqV y x
  | _, _, .nil, _ => rfl
  | y :: xs, u :: us, .cons r t, f => by
    rw [List.all_cons, Bool.and_eq_true] at f
    rw [List.countP_cons, List.countP_cons, eqU_of r f.1, cnt_eqU t f.2]
theorem mt_count {X : Cx} : MtR X "list.count" (rCnt X.K) := by
  intro pins s σ H x xs v us Q I rx rxs h
  obtain ⟨a, ys, y, rfl, rfl, hs, fy, fys, q⟩ := h
  cases rx
  cases rxs with
  | cons ry rt =>
    rename_i uy ut
    cases rt
    obtain ⟨its, rv, ⟨⟨cls, dd, data, sl⟩, n, ho, hc, hdn, hd⟩, hlen⟩ := I.list hs
    simp only at hc hd
    subst hc hd
    refine call_meets PySem.F.slot_list_count ⟨_, ho, rfl⟩ PySem.F.entry_list_count (PySem.F.args_list_count_2 _ _)
      (SeqAt.list_countAt a its.toArray n dd sl uy (eqU y)) ⟨ho, fun u' hu' => mem_eqAt ry fy rv fys u' (by simpa using hu'), ?_⟩
    rw [show its.toArray.toList = its from rfl, cnt_eqU rv fys]
    exact ⟨.int _, H, I.tok _, ⟨_, rfl⟩, q⟩
def eCnt (fo fe : EX) : EX := fun ρ => (fo ρ).bind fun d ρ1 => match d with
  | .lst xs => (fe ρ1).bind fun y ρ2 => if (flat y && xs.all flat) = true then .ok (.int ((xs.countP fun z => eqF z y : Nat))) ρ2 else .stuck
  | _ => .stuck
theorem countP_flV {d : D} (f : flat d = true) : ∀ {ds : List D}, ds.all flat = true → ((ds.map flV).countP fun y => eqV y (flV d)) = ds.countP fun y => eqF y d
  | [], _ => rfl
  | e :: ds, g => by
    rw [List.all_cons, Bool.and_eq_true] at g
    rw [List.map_cons, List.countP_cons, List.countP_cons, eqV_flV g.1 f, countP_flV f g.2]
section
variable {X : Cx} {hx : Hx} {W : WX} {o e : Expr} {fo fe : EX} {apos cpos : Pos}
theorem r_cnt (ho : PE X o (tX X.kw hx W fo)) (he : PE X e (tX X.kw hx W fe)) (hbase : attributeBase o "count" X.env (eval o X.env) = eval o X.env := by rfl)
    (hfew : ((backTo cpos (starEach [e] X.env)).all (fun x => !x.1) && (backToKw cpos (keywordEach [] X.env)).all (fun x => x.1.isSome) && decide ([e].length + ([] : List Keyword).length + (if ([] : List Keyword).isEmpty then 0 else 1) < 30)) = true := by rfl)
    (hline : (apos.endLine == cpos.line) = true := by rfl) (hs : starEach [e] X.env = (false, eval e X.env) :: starEach [] X.env := by rfl) (hplain : (backTo cpos (starEach [] X.env)).any (·.1) = false := by rfl) :
    PE X (.Call (.Attribute o "count" apos) [e] [] cpos) (tX X.kw hx W (eCnt fo fe)) :=
  (pe_bm PySem.F.plainAttrs_list PySem.F.slot_list_count PySem.F.type_list_count mt_count ho (pa_cons he pa_nil hs) hbase hfew hline hs hplain).imp fun σ H Q h => by
    obtain ⟨F, ρ, ⟨O, r0⟩, hp⟩ := h
    refine bindX r0 hp fun d ρ1 v H1 O1 r1 s1 dv hp1 => ?_
    cases d <;> (try exact hp1.elim)
    rename_i ds
    obtain ⟨a, vs, rfl, s, t⟩ := dv.lst_of
    refine ⟨.inl ⟨rfl, vs, .of (wo_same O1 H1 _ _ s)⟩, ?_⟩
    refine bindX r1 hp1 fun d2 ρ2 u H2 O2 r2 s2 du hp2 => ?_
    split at hp2
    · rename_i c
      obtain ⟨c1, c2⟩ := Bool.and_eq_true_iff.mp c
      obtain ⟨rfl, f1⟩ := flat_of du c1
      obtain ⟨e2, f2⟩ := flats_of t c2
      refine ⟨a, vs, _, rfl, rfl, .of (wo_same O2 H2 _ _ (s2.h _ _ s)), f1, f2, ?_⟩
      rw [e2, countP_flV c1 c2]
      exact hp2 _ H2 ⟨O2, r2, .int _⟩
    · exact hp2.elim
end
end MB

/-! What the module's top leaves: one observation, and what it gives. -/
namespace MB
open PySem PySem.Spec PyProof.Rows L2

/-! ### data -/
def vOf : Value → V
  | .bool b => .bl b
  | .int i _ => .int i
  | .str x _ => .str x
  | .ref a => .ref a
  | _ => .non
def vals2 (f : Value → D → Bool) : List Value → List D → Bool
  | [], [] => true
  | u :: us, d :: ds => f u d && vals2 f us ds
  | _, _ => false
def dB (K : Fg) : Nat → Value → D → Bool
  | 0, _, _ => false
  | _ + 1, .none, .non => true
  | _ + 1, .bool b, .bl c => b == c
  | _ + 1, .int i _, .int j => decide (i = j)
  | _ + 1, .str x _, .str y => decide (x = y)
  | n + 1, .ref a, .tup ds => match K.lookup a with
    | some ⟨.type c, _, .seq its _, _⟩ => decide (c = "tuple") && (decide (its.size ≤ sizeLine) && vals2 (dB K n) its.toList ds)
    | _ => false
  | _ + 1, .ref a, .fn x => decide (a = He.ga K x)
  | _, _, _ => false
theorem vals2_ok {K : Kw} {f : Value → D → Bool} (hf : ∀ u d, f u d = true → RelV (vOf u) u ∧ ∀ H, DV K H (vOf u) d) : ∀ {us : List Value} {ds : List D}, vals2 f us ds = true → Vals (us.map vOf) us ∧ ∀ H, DVs K H (us.map vOf) ds
  | [], [], _ => ⟨.nil, fun _ => .nil⟩
  | [], _ :: _, h => by cases h
  | _ :: _, [], h => by cases h
  | u :: us, d :: ds, h => by
    obtain ⟨h1, h2⟩ := Bool.and_eq_true_iff.mp (show (f u d && vals2 f us ds) = true from h)
    obtain ⟨r, dv⟩ := hf u d h1
    obtain ⟨r2, dv2⟩ := vals2_ok hf h2
    exact ⟨.cons r r2, fun H => .cons (dv H) (dv2 H)⟩
theorem dB_ok {K : Kw} : ∀ (n : Nat) (u : Value) (d : D), dB K.K n u d = true → RelV (vOf u) u ∧ ∀ H, DV K H (vOf u) d
  | 0, _, _, h => by cases h
  | n + 1, u, d, h => by
    cases u with
    | none =>
      cases d with
      | non => exact ⟨rfl, fun _ => .non⟩
      | _ => cases h
    | bool b =>
      cases d with
      | bl c =>
        have e : b = c := eq_of_beq (show (b == c) = true from h)
        subst e
        exact ⟨rfl, fun _ => .bl _⟩
      | _ => cases h
    | int i t =>
      cases d with
      | int j =>
        have e : i = j := of_decide_eq_true h
        subst e
        exact ⟨⟨t, rfl⟩, fun _ => .int _⟩
      | _ => cases h
    | str x t =>
      cases d with
      | str y =>
        have e : x = y := of_decide_eq_true h
        subst e
        exact ⟨⟨t, rfl⟩, fun _ => .str _⟩
      | _ => cases h
    | ref a =>
      cases d with
      | tup ds =>
        have h1 : (match K.K.lookup a with
          | some ⟨.type c, _, .seq its _, _⟩ => decide (c = "tuple") && (decide (its.size ≤ sizeLine) && vals2 (dB K.K n) its.toList ds)
          | _ => false) = true := h
        cases q : K.K.lookup a with
        | none =>
          rw [q] at h1
          cases h1
        | some o =>
          obtain ⟨oc, od, dt, osl⟩ := o
          rw [q] at h1
          cases oc with
          | type c =>
            cases dt with
            | seq its m =>
              obtain ⟨h2, h3⟩ := Bool.and_eq_true_iff.mp (show (decide (c = "tuple") && (decide (its.size ≤ sizeLine) && vals2 (dB K.K n) its.toList ds)) = true from h1)
              obtain ⟨h4, h5⟩ := Bool.and_eq_true_iff.mp h3
              obtain ⟨r, dv⟩ := vals2_ok (fun u d => dB_ok n u d) h5
              exact ⟨rfl, fun H => .tup (.inr ⟨_, its, m, q, congrArg Value.type (of_decide_eq_true h2), rfl, of_decide_eq_true h4, r⟩) (dv H)⟩
            | _ => cases h1
          | _ => cases dt <;> cases h1
      | fn x =>
        have e : a = He.ga K.K x := of_decide_eq_true h
        subst e
        exact ⟨rfl, fun _ => .fn _⟩
      | _ => cases h
    | _ => cases d <;> cases h
def gcB (K : Fg) (x : Str) (d : D) : Bool := match PySem.W.nsIn K mainGlobals x with
  | some (some u) => dB K 12 u d
  | _ => false
theorem gc_ok {K : Kw} {h : Heap} {mg : Str → Option Value} {x : Str} {d : D} (X : K.K.In h) (G : h.Ns mainGlobals mg) (c : gcB K.K x d = true) : GC K mg x d := by
  unfold gcB at c
  split at c
  · rename_i u e
    obtain ⟨r, dv⟩ := dB_ok _ _ _ c
    exact ⟨u, vOf u, PySem.W.mg_of X G e, r, dv⟩
  · cases c

theorem mem_lookI {d : D} {i : Int} : ∀ {l : List (Int × D)}, l.lookup i = some d → (i, d) ∈ l
  | [], e => by cases e
  | (j, x) :: l, e => by
    rw [List.lookup_cons] at e
    cases q : (i == j) with
    | true =>
      rw [q] at e
      cases e
      rw [eq_of_beq q]
      exact List.mem_cons_self
    | false =>
      rw [q] at e
      exact List.mem_cons_of_mem _ (mem_lookI e)
/-! ### a dict of int keys -/
def tbB (K : Fg) (x : Str) (l : List (Int × D)) : Bool := match K.lookup (He.ga K x) with
  | some ⟨.type c, none, .dict es _, sl⟩ => decide (c = "dict") && (decide (sl.size = 0) && (intKeysB es.toList && l.all fun p => match findBy Value.isInt es p.1 with
    | some u => dB K 12 u p.2
    | none => false))
  | _ => false
theorem tb_ok {K : Kw} {x : Str} {l : List (Int × D)} (c : tbB K.K x l = true) : TBF K x (fun i => l.lookup i) := by
  intro i d hi
  unfold tbB at c
  cases q : K.K.lookup (He.ga K.K x) with
  | none => rw [q] at c; cases c
  | some o =>
    obtain ⟨oc, od, dt, osl⟩ := o
    rw [q] at c
    cases oc with
    | type cn =>
      cases od with
      | some _ => cases dt <;> cases c
      | none =>
        cases dt with
        | dict es n =>
          obtain ⟨h1, h2⟩ := Bool.and_eq_true_iff.mp (show (decide (cn = "dict") && (decide (osl.size = 0) && (intKeysB es.toList && l.all fun p => match findBy Value.isInt es p.1 with
            | some u => dB K.K 12 u p.2
            | none => false))) = true from c)
          obtain ⟨h3, h4⟩ := Bool.and_eq_true_iff.mp h2
          obtain ⟨h5, h6⟩ := Bool.and_eq_true_iff.mp h4
          have hm : (i, d) ∈ l := mem_lookI hi
          have h7 := List.all_eq_true.mp h6 _ hm
          have e1 : cn = "dict" := of_decide_eq_true h1
          have e2 : osl = #[] := Array.eq_empty_of_size_eq_zero (of_decide_eq_true h3)
          subst e1 e2
          cases e3 : findBy Value.isInt es i with
          | none => simp only [e3] at h7; cases h7
          | some u =>
            simp only [e3] at h7
            obtain ⟨r, dv⟩ := dB_ok _ _ _ h7
            exact ⟨vOf u, ⟨es, n, u, q, h5, e3, r⟩, dv⟩
        | _ => cases c
    | _ => cases od <;> cases dt <;> cases c

/-! ### exceptions -/
def excCB (K : Fg) (C : Addr) : Bool := decide (PySem.W.findIn K (.ref C) "__getattribute__" = some (some (.builtin "BaseException.__getattribute__"))) && (decide (PySem.W.findIn K (.ref C) "__getattr__" = some none) &&
  (decide (PySem.W.subIn K (.ref C) (.type "BaseException") = some true) && (PySem.W.hasDictIn K C && (decide (PySem.W.findIn K (.ref C) "__class__" = some (some (.builtin "object.__class__"))) &&
  (decide (PySem.W.specialIn K (.builtin "object.__class__") "__get__" = some (some (.builtin "getset_descriptor.__get__"))) && (decide (PySem.W.takesIn K (.builtin "object.__class__") = some true) && decide (PySem.W.mroIn K C (.type "object") = some true)))))))
theorem excC_ok {K : Fg} {C : Addr} (c : excCB K C = true) : ExcC K C := by
  obtain ⟨h1, c⟩ := Bool.and_eq_true_iff.mp c
  obtain ⟨h2, c⟩ := Bool.and_eq_true_iff.mp c
  obtain ⟨h3, c⟩ := Bool.and_eq_true_iff.mp c
  obtain ⟨h4, c⟩ := Bool.and_eq_true_iff.mp c
  obtain ⟨h5, c⟩ := Bool.and_eq_true_iff.mp c
  obtain ⟨h6, c⟩ := Bool.and_eq_true_iff.mp c
  obtain ⟨h7, h8⟩ := Bool.and_eq_true_iff.mp c
  exact ⟨of_decide_eq_true h1, of_decide_eq_true h2, of_decide_eq_true h3, h4, of_decide_eq_true h5, of_decide_eq_true h6, of_decide_eq_true h7, of_decide_eq_true h8⟩
/-- what isinstance of an instance of each raised class tells; l: each raised class with all classes it stands under -/
def isB (K : Fg) (l : List (Str × List Str)) (C : Str) (cv : Value) : Bool := l.all fun p => decide (PySem.W.kitOne K (.ref (He.ga K p.1)) cv = some (p.2.contains C))
def isX (l : List (Str × List Str)) (C : Str) : Str → Option Bool := fun c => (l.lookup c).map (·.contains C)
theorem is_ok {K : Fg} {l : List (Str × List Str)} {C : Str} {cv : Value} (h1 : (l.all fun p => excCB K (He.ga K p.1)) = true) (h2 : isB K l C cv = true) : ISF K (isX l C) cv := by
  intro c b e
  obtain ⟨q, e1, rfl⟩ := Option.map_eq_some_iff.mp e
  have hm : (c, q) ∈ l := PySem.mem_of_lookup e1
  exact ⟨excC_ok (List.all_eq_true.mp h1 _ hm), of_decide_eq_true (List.all_eq_true.mp h2 _ hm)⟩
/-- what an except clause of the class at cv catches -/
def teB (K : Fg) (l : List (Str × List Str)) (C : Str) (cv : Value) : Bool := l.all fun p => decide (PySem.W.exmOne K (.ref (He.ga K p.1)) cv = some (p.2.contains C))
theorem te_ok {K : Fg} {l : List (Str × List Str)} {C : Str} {cv : Value} (h : teB K l C cv = true) : TEF K (isX l C) cv := by
  intro c b e
  obtain ⟨q, e1, rfl⟩ := Option.map_eq_some_iff.mp e
  exact of_decide_eq_true (List.all_eq_true.mp h _ (PySem.mem_of_lookup e1))
def xfFB (K : Fg) (n : Str) (cs : List Str) : Bool := cs.all fun c => xfB K (He.ga K c) && decide (PySem.W.findIn K (.ref (He.ga K c)) n = some none)
theorem xff_ok {K : Fg} {n : Str} {cs : List Str} (h : xfFB K n cs = true) : XFF K n cs := fun c hc => by
  obtain ⟨h1, h2⟩ := Bool.and_eq_true_iff.mp (List.all_eq_true.mp h c hc)
  exact ⟨xfB_ok h1, of_decide_eq_true h2⟩

/-! ### a class with its own __init__ -/
open PySem.MbX in
abbrev FnY : Type := Option (Str × Str × Arguments × FuncBody × Scope × Addr × List Str × Addr)
def fnY (K : Fg) (a : Addr) : FnY := match K.lookup a with
  | some ⟨_, _, .func fd, _⟩ => some (fd.name, fd.qualname, fd.params, fd.body, fd.scope, fd.globals, fd.closure.map (·.1), fd.builtins)
  | _ => none
/-- the class's name, its __init__'s text, its fields -/
structure XD where
  cn : Str
  u : PySem.MbX.XSu
  as : List PySem.MbX.XAs
def XD.fI (K : Fg) (x : XD) : Addr := He.ma K (He.ga K x.cn) "__init__"
def XD.val (x : XD) : FnY := some ("__init__", x.cn ++ ".__init__", PySem.MbX.xA x.u x.as, .stmts (PySem.MbX.xB x.u x.as), PySem.MbX.xS x.as, mainGlobals, ["__class__"], builtinsNs)
def XD.cc (K : Fg) (x : XD) : Addr := match K.lookup (x.fI K) with
  | some ⟨_, _, .func fd, _⟩ => (match fd.closure with
    | (_, c) :: _ => c
    | _ => 0)
  | _ => 0
def clsB (K : Fg) (C : Addr) : Bool := match K.lookup C with
  | some ⟨.type t, _, .cls cd, sl⟩ => (match cd.mro, sl.toList with
    | .ref C' :: bm, [_, _, _, _, some (.builtin n), _] => decide (t = "type") && (decide (C' = C) && (decide (n = "ValueError.__new__") && (!cd.hasDel && (cd.hasDict && (PySem.HandSPX.refsVE bm && decide (PySem.W.alongIn K "__init__" bm = some (some (.builtin "ValueError.__init__"))))))))
    | _, _ => false)
  | _ => false
def cellB (K : Fg) (c C : Addr) : Bool := match K.lookup c with
  | some ⟨_, _, .cell (some (.ref D)), _⟩ => decide (D = C)
  | _ => false
def codeFB (file : Str) (K : Fg) (cdv : Value) : Bool := match cdv with
  | .ref ca => (match K.lookup ca with
    | some ⟨_, _, .fields vs, _⟩ => (match (vs[2]? : Option Value) with
      | some (Value.str f _) => file == f
      | _ => false)
    | _ => false)
  | _ => false
def fnB (file : Str) (K : Fg) (a : Addr) (q : Str) : Bool := match K.lookup a with
  | some ⟨_, _, .func fd, _⟩ => decide (fd.defaults = .none) && (PySem.W.codeIn K fd.code q && codeFB file K fd.code)
  | _ => false
def XD.ok (file : Str) (K : Fg) (x : XD) : Bool :=
  decide (PySem.W.nsIn K mainGlobals x.cn = some (some (.ref (He.ga K x.cn)))) && (clsB K (He.ga K x.cn) && (decide (PySem.W.findIn K (.ref (He.ga K x.cn)) "__setattr__" = some (some (.builtin "object.__setattr__"))) && ((x.as.all fun a => decide (PySem.W.findIn K (.ref (He.ga K x.cn)) a.n = some none)) &&
  (decide (PySem.W.findIn K (.ref (He.ga K x.cn)) "__init__" = some (some (.ref (x.fI K)))) && (decide (PySem.W.typeIn K (.ref (x.fI K)) = some (.type "function")) && (PySem.W.keepIn K (.ref (He.ga K x.cn)) && (decide (PySem.W.subIn K (.ref (He.ga K x.cn)) (.type "BaseException") = some true) &&
  (decide (PySem.W.subIn K (.ref (He.ga K x.cn)) (.type "ValueError") = some true) && (decide (PySem.W.subIn K (.ref (He.ga K x.cn)) (.ref (He.ga K x.cn)) = some true) && (decide (PySem.W.typeIn K (.ref (He.ga K x.cn)) = some (.type "type")) && (decide (PySem.W.nsIn K cStatics "thirdparty.any" = some none) &&
  (cellB K (x.cc K) (He.ga K x.cn) && (decide (PySem.W.nsIn K mainGlobals "super" = some none) && fnB file K (x.fI K) (x.cn ++ ".__init__"))))))))))))))
theorem cls_of {K : Fg} {C : Addr} (h : clsB K C = true) : ∃ nm q N bs bm sn sub ab col dd k0 k1 k2 k3 k5, K.lookup C = some (PySem.excClassObj nm q C N bs bm true sn sub ab col dd k0 k1 k2 k3 k5 "ValueError.__new__") ∧ PySem.HandSPX.refsVE bm = true ∧ PySem.W.alongIn K "__init__" bm = some (some (.builtin "ValueError.__init__")) := by
  unfold clsB at h
  split at h
  · rename_i t dd cd sl ho
    split at h
    · rename_i C' bm k0 k1 k2 k3 n k5 hm hs
      simp only [Bool.and_eq_true, decide_eq_true_eq, Bool.not_eq_true'] at h
      obtain ⟨rfl, rfl, rfl, hdel, hd, hr, ha⟩ := h
      obtain ⟨nm, bs, mro, ns, qn, hd', sn, sub, ab, col, del⟩ := cd
      dsimp only at hm hdel hd
      subst hm hdel hd
      have hsl : sl = #[k0, k1, k2, k3, some (.builtin "ValueError.__new__"), k5] := by
        obtain ⟨l⟩ := sl
        simp only at hs
        rw [hs]
      subst hsl
      exact ⟨nm, qn, ns, bs, bm, sn, sub, ab, col, dd, k0, k1, k2, k3, k5, ho, hr, ha⟩
    · cases h
  · cases h
theorem codeF_of {file : Str} {K : Fg} {cdv : Value} (h : codeFB file K cdv = true) : ∃ (ca : Addr) (oc2 : Obj) (vs : Array Value) (f : Str) (tf : Tok), cdv = .ref ca ∧ K.lookup ca = some oc2 ∧ oc2.data = .fields vs ∧ vs[2]? = some (.str f tf) ∧ (file == f) = true := by
  unfold codeFB at h
  split at h
  · rename_i ca
    split at h
    · rename_i oc2 od2 vs sl2 hca
      split at h
      · rename_i f tf hv
        exact ⟨ca, _, vs, f, tf, rfl, hca, rfl, hv, h⟩
      · cases h
    · cases h
  · cases h
theorem xt_of {prog : Program} {K : Fg} {h : Heap} {mg : Str → Option Value} {x : XD} (X : K.In h) (G : h.Ns mainGlobals mg) (top : (prog.main.scope.names.lookup ("super" : Str)).isSome = false) (e : fnY K (x.fI K) = x.val) (c : x.ok prog.main.file K = true) :
    PySem.MbX.XT prog K mg x.cn (He.ga K x.cn) (x.fI K) (x.cc K) x.u x.as := by
  obtain ⟨c1, c⟩ := Bool.and_eq_true_iff.mp c
  obtain ⟨c2, c⟩ := Bool.and_eq_true_iff.mp c
  obtain ⟨c3, c⟩ := Bool.and_eq_true_iff.mp c
  obtain ⟨c4, c⟩ := Bool.and_eq_true_iff.mp c
  obtain ⟨c5, c⟩ := Bool.and_eq_true_iff.mp c
  obtain ⟨c6, c⟩ := Bool.and_eq_true_iff.mp c
  obtain ⟨c7, c⟩ := Bool.and_eq_true_iff.mp c
  obtain ⟨c8, c⟩ := Bool.and_eq_true_iff.mp c
  obtain ⟨c9, c⟩ := Bool.and_eq_true_iff.mp c
  obtain ⟨c10, c⟩ := Bool.and_eq_true_iff.mp c
  obtain ⟨c11, c⟩ := Bool.and_eq_true_iff.mp c
  obtain ⟨c12, c⟩ := Bool.and_eq_true_iff.mp c
  obtain ⟨c13, c⟩ := Bool.and_eq_true_iff.mp c
  obtain ⟨c14, c15⟩ := Bool.and_eq_true_iff.mp c
  refine ⟨PySem.W.mg_of X G (of_decide_eq_true c1), cls_of c2, of_decide_eq_true c3, fun a ha => of_decide_eq_true (List.all_eq_true.mp c4 a ha), of_decide_eq_true c5, of_decide_eq_true c6, c7, of_decide_eq_true c8, of_decide_eq_true c9, of_decide_eq_true c10, of_decide_eq_true c11, of_decide_eq_true c12, ?_, PySem.W.mg_none_of X G (of_decide_eq_true c14), top, ?_⟩
  · unfold cellB at c13
    split at c13
    · rename_i oc od D sl ho
      cases of_decide_eq_true c13
      exact ⟨_, ho, rfl⟩
    · cases c13
  · unfold fnB at c15
    unfold fnY at e
    have ecc : x.cc K = match K.lookup (x.fI K) with
      | some ⟨_, _, .func fd, _⟩ => (match fd.closure with
        | (_, c) :: _ => c
        | _ => 0)
      | _ => 0 := rfl
    generalize x.cc K = cc at ecc ⊢
    cases q : K.lookup (x.fI K) with
    | none => rw [q] at e; cases e
    | some o =>
      obtain ⟨oc, od, dt, osl⟩ := o
      rw [q] at e c15 ecc
      cases dt with
      | func fd =>
        obtain ⟨n1, n2, n3, n4, n5, n6, n7, n8, n9, n10, n11, n12, n13, n14, n15⟩ := fd
        have e2 : (some (n1, n2, n3, n4, n5, n6, n7.map (·.1), n15) : FnY) = (some (("__init__" : Str), x.cn ++ (".__init__" : Str), PySem.MbX.xA x.u x.as, FuncBody.stmts (PySem.MbX.xB x.u x.as), PySem.MbX.xS x.as, mainGlobals, [("__class__" : Str)], builtinsNs) : FnY) := e
        simp only [Option.some.injEq, Prod.mk.injEq] at e2
        obtain ⟨h1, h2, h3, h4, h5, h6, h7, h8⟩ := e2
        subst h1 h2 h3 h4 h5 h6 h8
        obtain ⟨d1, d2⟩ := Bool.and_eq_true_iff.mp (show (decide (n8 = .none) && (PySem.W.codeIn K n13 (x.cn ++ ".__init__") && codeFB prog.main.file K n13)) = true from c15)
        obtain ⟨d3, d4⟩ := Bool.and_eq_true_iff.mp d2
        cases of_decide_eq_true d1
        match n7, h7, ecc with
        | [(y, c0)], h7, ecc =>
          have hy : y = "__class__" := (List.cons.inj h7).1
          subst hy
          have ec : cc = c0 := ecc
          subst ec
          exact ⟨oc, od, x.cn ++ ".__init__", n9, n10, n11, n12, n13, n14, osl, rfl, d3, codeF_of d4⟩
      | _ => cases e
end MB

/-! The hook; a class's text read off the row; small helpers of the printed part. -/
namespace MB
open PySem PySem.Spec PyProof.Rows L2
abbrev AlM : Type := Bool × List He.FnW × List FnY
def obsM (file : Str) (chk : Fg → Bool) (fn : List He.DefD) (xs : List XD) (K : Fg) : AlM := (chk K && ((fn.all fun d => d.ok K) && xs.all fun x => x.ok file K), fn.map fun d => He.fnW K d.at_, xs.map fun x => fnY K (x.fI K))
def valM (fn : List He.DefD) (xs : List XD) : AlM := (true, fn.map He.DefD.val, xs.map XD.val)
def SaysM (file : Str) (chk : Fg → Bool) (fn : List He.DefD) (xs : List XD) (K : Fg) : Prop := obsM file chk fn xs K = valM fn xs
def asM (g : Addr → Option Obj) : Nat → List Addr
  | 0 => [mainGlobals, cStatics]
  | n + 1 => He.growD g (asM g n)
def obsMG (n : Nat) (file : Str) (chk : Fg → Bool) (fn : List He.DefD) (xs : List XD) (g : Addr → Option Obj) : AlM := obsM file chk fn xs (He.frG g (asM g n))
def hookM (n : Nat) (file : Str) (chk : Fg → Bool) (fn : List He.DefD) (xs : List XD) : PySem.W.Hook where
  α := AlM
  obs := fun s => obsMG n file chk fn xs s.heap.get?
  val := fun _ => valM fn xs
  says := fun _ h => ∃ K : PySem.W.Frag, K.In h ∧ SaysM file chk fn xs K
  of := fun _ _ e => ⟨_, He.frG_in, e⟩
  keeps := fun _ _ _ ⟨K, hK, c⟩ k => ⟨K, PySem.W.Frag.In.keeps hK k, c⟩
theorem obsMG_eq {n : Nat} {file : Str} {chk : Fg → Bool} {fn : List He.DefD} {xs : List XD} {g : Addr → Option Obj} {s : Shared} (h : ∀ a, g a = s.heap.get? a) : obsMG n file chk fn xs g = (hookM n file chk fn xs).obs s := by
  have e : g = s.heap.get? := funext h
  rw [e] <;> rfl
section
variable {file : Str} {ck : Fg → Bool} {fn : List He.DefD} {xs : List XD} {K : Fg}
theorem SaysM.chk (c : SaysM file ck fn xs K) : ck K = true := (Bool.and_eq_true_iff.mp (congrArg (fun z : AlM => z.1) c)).1
theorem SaysM.def_ (c : SaysM file ck fn xs K) (i : Nat) {d : He.DefD} (h : fn[i]? = some d) : ∃ fd, FunD K d.name d.qual d.params d.body d.scope (d.dvs K) (d.kws K) (He.fAd K d.at_) fd := by
  have c2 := (Bool.and_eq_true_iff.mp (Bool.and_eq_true_iff.mp (congrArg (fun z : AlM => z.1) c)).2).1
  have e : fn.map (fun d => He.fnW K d.at_) = fn.map He.DefD.val := congrArg (fun z : AlM => z.2.1) c
  have e2 : (fn.map fun d => He.fnW K d.at_)[i]? = (fn.map He.DefD.val)[i]? := by rw [e]
  rw [List.getElem?_map, List.getElem?_map, h] at e2
  exact He.DefD.funD (Option.some.inj e2) (List.all_eq_true.mp c2 d (List.mem_of_getElem? h))
theorem SaysM.cls (c : SaysM file ck fn xs K) (i : Nat) {x : XD} (h : xs[i]? = some x) : fnY K (x.fI K) = x.val ∧ x.ok file K = true := by
  have c2 := (Bool.and_eq_true_iff.mp (Bool.and_eq_true_iff.mp (congrArg (fun z : AlM => z.1) c)).2).2
  have e : xs.map (fun x => fnY K (x.fI K)) = xs.map XD.val := congrArg (fun z : AlM => z.2.2) c
  have e2 : (xs.map fun x => fnY K (x.fI K))[i]? = (xs.map XD.val)[i]? := by rw [e]
  rw [List.getElem?_map, List.getElem?_map, h] at e2
  exact ⟨Option.some.inj e2, List.all_eq_true.mp c2 x (List.mem_of_getElem? h)⟩
end
/-- the fields that an __init__ sets -/
def xaOf : List Arg → List Stmt → List PySem.MbX.XAs
  | a :: as, .Assign [.Attribute (.Name _ q1) n q2] (.Name _ q3) q4 :: r => ⟨n, a.pos, q1, q2, q3, q4⟩ :: xaOf as r
  | _, _ => []
def noSu : PySem.MbX.XSu := ⟨⟨0, 0, 0, 0⟩, "", 0, ⟨0, 0, 0, 0⟩, ⟨0, 0, 0, 0⟩, ⟨0, 0, 0, 0⟩, ⟨0, 0, 0, 0⟩, ⟨0, 0, 0, 0⟩, ⟨0, 0, 0, 0⟩⟩
def bodyOf : Stmt → List Stmt
  | .ClassDef (body := b) .. => b
  | _ => []
def nameOf : Stmt → Str
  | .ClassDef (name := n) .. => n
  | _ => ""
def xuOf : List Arg → List Stmt → PySem.MbX.XSu
  | a :: _, .Expr (.Call (.Attribute (.Call (.Name _ p0) [] [] p1) _ p2) [.Constant (.str t) j p3] [] p4) p5 :: _ => ⟨a.pos, t, j, p0, p1, p2, p3, p4, p5⟩
  | _, _ => noSu
def xdOf (st : Stmt) : XD := match bodyOf st with
  | f :: _ => ⟨nameOf st, xuOf (defArgs f).args (defBody f), xaOf (defArgs f).args.tail (defBody f).tail⟩
  | _ => ⟨"", noSu, []⟩
theorem df_stuck {P : Program} {w : World} {K : Fg} {mg : Str → Option Value} {base : Heap} {k n : Nat} {x : Str} {qual : Str} {params : Arguments} {body : List Stmt} {scope : Scope} {f : Addr} {fd : FuncData} {ps : List Str} (hg : mg x = some (.ref f)) (F : FunD K x qual params body scope [] [] f fd) (hbi : Binds K fd ps []) (hn : ps.length = n) :
    Df P w K mg base k x n (fun _ _ => .stuck) :=
  ⟨f, fd, ps, hg, F.kp, hbi, hn, ⟨fun vs H Q E h => h.1, fun A outer s H args us vs Q E hr e0 hb r h => by
    obtain ⟨_, O, S, ds, _, _, z⟩ := h
    exact z.elim⟩⟩
theorem dfE_ok {P : Program} {w : World} {K : Fg} {mg : Str → Option Value} {base : Heap} {x qual : Str} {params : Arguments} {body : List Stmt} {scope : Scope} {f : Addr} {fd : FuncData} {k : Nat} {N ps : List Str} {b : SX} (hg : mg x = some (.ref f)) (F : FunD K x qual params body scope [] [] f fd) (S : FnScope N ps scope) (h1 : ps.length = 1) (hbi : Binds K fd ps []) (hb : BodyE P w K mg base k N qual scope body b) : DfE P w K mg base (k + 1) x (runE b N.length) :=
  ⟨f, fd, ps, hg, F.kp, hbi, defE_ok F S h1 hb⟩
theorem DfE.mono {P : Program} {w : World} {K : Fg} {mg : Str → Option Value} {base : Heap} {j k : Nat} {x : Str} {m : Ex → Store → Rt} (d : DfE P w K mg base j x m) (h : j ≤ k) : DfE P w K mg base k x m := by
  obtain ⟨f, fd, ps, h1, h2, h3, h4⟩ := d.ex
  exact ⟨f, fd, ps, h1, h2, h3, h4.mono h⟩
theorem hu_of {k : Nat} {A : Around} (r : L2H.RoomH k A) : A.units + 64 < cLine := by have := r.un; omega
theorem hxOk_cxH {P : Program} {w : World} {K : Fg} {mg : Str → Option Value} {base : Heap} {N : List Str} {qual : Str} {scope : Scope} {f : Addr} {cd : Value} {A : Around} {outer : List Env} {s : Shared} {H : Hp} {E : XK} {a : Addr} {oe : Obj} {cls : Value} {dd : Option Addr} (hot : L2H.Hot1 A (a, oe)) (hz : Zc cls dd oe) :
    HxOk (L2H.cxH (L2N.CX P w) P w K mg base N qual scope f cd A outer s H E (a, oe)) ⟨some (a, cls, dd)⟩ := ⟨a, oe, cls, dd, rfl, List.mem_cons_self, ⟨hot.1, hot.2⟩, hz⟩
end MB

/-! A law's end over the layer by values. -/
namespace MB
open PySem PySem.Spec PyProof.Rows L2
/-- the law's def, its function m: at every script it answers True -/
theorem walk_mb {l : PySem.W.OpenLaw} {n k : Nat} {q : Program} {loose : List Str} {XP : (Str → Option Value) → Heap → Prop} {YP : World → Heap → Prop} {d : DefRec} {x : Str} {m : Fn}
    (hn : l.most = some n) (hn2 : n ≤ sizeLine) (hdf : d.params.defaults = []) (hr : Room k callerA)
    (F : ∀ (w : World) (mg : Str → Option Value) (fa : Addr) (h : Heap), YP w h → h.Ns mainGlobals mg → mg d.name = some (.ref fa) →
      ∃ (K : PySem.W.Frag) (fd : FuncData), K.In h ∧ (∀ (s : Shared) (u : Value), BindsTo s fd ⟨[u], []⟩ [(x, u)]) ∧ ∀ base : Heap, K.In base → base.Ns mainGlobals mg → FnV l.prog w K mg base k fa fd [x] m)
    (hm : ∀ ns : List Int, ns.length ≤ n → (∀ z ∈ ns, Builtin.Int.intBits z ≤ 1048576) → ∃ S, m [.scr ns] [] = .ok (.bl true) S) :
    PySem.W.WalkO q loose XP YP l.row.toRowW d [] (fun f vs => PySem.call f vs) := by
  refine Att.attach_callB hn hdf fun w s₀ s₁ mg mb fa o pm cd doc a vs ns G Y ho hd hcd hmg hobj hints hlen hbits hg => ?_
  obtain ⟨K, fd, KX, hb, hF⟩ := F w mg fa _ Y G.T.g hmg
  refine law_call (sp := spV ⟨K, w⟩ 1 m) KX G.T.g G.T.b G.T.builtins G.T.nolimit hg hobj hints (Nat.le_trans hlen hn2) hr hF hb (fun H hO hS => ?_) fun H e s' hc => ?_
  · obtain ⟨S, hm⟩ := hm ns hlen hbits
    have ew : (wo ⟨[], [], []⟩ H).h = H := by
      funext a
      show (if a ∈ ([] : List Addr) then none else H a) = H a
      exact if_neg List.not_mem_nil
    refine ⟨rfl, ⟨[], [], []⟩, [], [.scr ns], ⟨fun a => ⟨fun m => absurd (show a ∈ ([] : List Addr) from m) List.not_mem_nil, ?_⟩, fun a m => absurd (show a ∈ ([] : List Addr) from m) List.not_mem_nil, fun a m => absurd (show a ∈ ([] : List Addr) from m) List.not_mem_nil, .nil, rfl, fun n c a e => (by simp at e), fun a m => absurd (show a ∈ ([] : List Addr) from m) List.not_mem_nil⟩, .cons (.scr (by rw [ew]; exact hS)) .nil, ?_⟩
    · rintro (⟨n, c, e, _⟩ | m)
      · simp at e
      · exact absurd (show a ∈ ([] : List Addr) from m) List.not_mem_nil
    · rw [hm]
      intro v H' O' _ _ dv
      cases dv
      rfl
  · obtain ⟨_, _, _, _, _, _, _, _, _, _, _, _, z⟩ := hc
    exact z
end MB

/-! Constructs that are never reached; raise C() of an own class without __init__. -/
namespace MB
open PySem PySem.Spec PyProof.Rows L2
def eStuck : EX := fun _ => .stuck
def sStuck : SX := fun _ => .stuck
section
variable {X : Cx} {hx : Hx} {W : WX}
theorem tX_stuck {K : Kw} {σ : MB.St} {H : Hp} {Q : VK} (h : tX K hx W eStuck σ H Q) : False := by
  obtain ⟨F, ρ, r, hp⟩ := h
  exact hp
theorem tS_stuck {K : Kw} {D : Ends} {σ : MB.St} {H : Hp} (h : tS K hx W sStuck D σ H) : False := by
  obtain ⟨F, ρ, r, hp⟩ := h
  exact hp
theorem r_stuck {e : Expr} : PE X e (tX X.kw hx W eStuck) := ⟨fun pins s σ H Q I h => (tX_stuck h).elim⟩
theorem rt_stuck {e : Expr} : PT X e (tT X.kw hx W eStuck) := ⟨fun pins s σ H Q I h => by
  obtain ⟨F, ρ, r, hp⟩ := h
  exact (show False from hp).elim⟩
theorem p_stuck {st : Stmt} : PS X st (tS X.kw hx W sStuck) := ⟨fun pins s σ H D I h => (tS_stuck h).elim⟩
theorem ps_stuck {st : List Stmt} : PSs X st (tS X.kw hx W sStuck) := ⟨fun pins s σ H D I h => (tS_stuck h).elim⟩
end
/-- an own class of exceptions without __init__, of ValueError -/
def bmVE : List Value := [.type "ValueError", .type "Exception", .type "BaseException", .type "object"]
def x0B (K : Fg) (C : Addr) : Bool := PySem.W.excIn K C bmVE "ValueError.__new__" && (PySem.W.keepIn K (.ref C) && (decide (PySem.W.subIn K (.ref C) (.type "BaseException") = some true) && decide (PySem.W.typeIn K (.ref C) = some (.type "type"))))
structure X0 (K : Fg) (mg : Str → Option Value) (cn : Str) : Prop where
  gC : mg cn = some (.ref (He.ga K cn))
  ok : x0B K (He.ga K cn) = true
def sRaise0 (c : Str) : SX := fun ρ => .err ⟨c, []⟩ ρ
section
variable {X : Cx} {hx : Hx} {W : WX} {cn : Str} {p pos pos2 : Pos}
theorem pmk_own0 {C : Addr} (gC : X.mg cn = some (.ref C)) (ok : x0B X.K C = true) (hg : Gl X cn) (hdb : (cn == ("__debug__" : Str)) = false) :
    L2N.PMk X (.Call (.Name cn p) [] [] pos) (fun _ H Q => Q (.ref C) none H) := by
  unfold x0B at ok
  simp only [Bool.and_eq_true, decide_eq_true_eq] at ok
  obtain ⟨q, kC, r1, r2⟩ := ok
  intro pins s σ H Q I h
  refine wpAny_Call_Name_kw (ld_glob I hg gC ?_ hdb)
  refine PySem.W.callWith_K0 I.kIn kC ?_
  obtain ⟨bm, N, nm, qn, bs, hdct, sn, sub, ab, col, dd, k0, k1, k2, k3, k5, mN, hC, hN, hni, T⟩ := exc_obj I.kIn q
  obtain ⟨hp, g, d, t, os⟩ := s
  refine wpAny_call_exc_subT F.excBase_ValueError T hC hN hni (fun h' e hm => ?_) (Nat.zero_le _)
  exact L2N.mk_of I hm (raises_own r1 r2) h (I.hok.gone hm.new)
theorem p_raise0 (hc : X.calm = true) (tk : L2N.Takes X W) (T : X0 X.K X.mg cn) (hg : Gl X cn := by rfl) (hdb : (cn == ("__debug__" : Str)) = false := by decide) :
    PS X (.Raise (some (.Call (.Name cn p) [] [] pos)) none pos2) (tS X.kw hx W (sRaise0 cn)) :=
  (L2N.ps_raise hc tk (pmk_own0 T.gC T.ok hg hdb)).imp fun D σ H q => by
    obtain ⟨F, ρ, ⟨O, r⟩, hp⟩ := q
    exact hp _ _ σ H ⟨O, r, rfl, .inl ⟨rfl, rfl⟩⟩
end
end MB

/-! zip of two lists or of two tuples. -/
namespace MB
open PySem PySem.Spec PyProof.Rows L2
def zipD (xs ys : List D) : List D := (xs.zip ys).map fun p => .tup [p.1, p.2]
theorem zipD_get {xs ys : List D} {i : Nat} {d : D} (h : (zipD xs ys)[i]? = some d) : ∃ x y, xs[i]? = some x ∧ ys[i]? = some y ∧ d = .tup [x, y] := by
  unfold zipD at h
  rw [List.getElem?_map] at h
  cases e : (xs.zip ys)[i]? with
  | none => rw [e] at h; cases h
  | some p =>
    rw [e] at h
    rw [List.getElem?_zip_eq_some] at e
    cases h
    exact ⟨p.1, p.2, e.1, e.2, rfl⟩
theorem pair_new {K : Kw} {H : Hp} {T : Addr} {x y : V} {dx dy : D} {O : Ow} (n : H T = none) (dom : ∀ a ∈ O, ∃ o, H a = some o) (h1 : DV K (wo O H) x dx) (h2 : DV K (wo O H) y dy) : Same H (upd H T (.tup [x, y])) ∧ DV K (wo O (upd H T (.tup [x, y]))) (.ref T) (.tup [dx, dy]) := by
  have s := same_upd (o := HO.tup [x, y]) n
  have nO : T ∉ O := fun m => by
    obtain ⟨o, e⟩ := dom T m
    rw [n] at e
    cases e
  refine ⟨s, .tup (vs := [x, y]) (.inl (.inl ?_)) (.cons (DV.mono (wo_mono s) _ _ h1) (.cons (DV.mono (wo_mono s) _ _ h2) .nil))⟩
  rw [wo_out nO, upd_same]
theorem its_zipL {K : Kw} {T : Fz} {a b : Addr} {vs ws : List V} {ds es : List D} (s1 : T.h a = some (.lst vs)) (t1 : DVs K T vs ds) (s2 : T.h b = some (.lst ws)) (t2 : DVs K T ws es) : Its K T (Itz K.K a b) (zipD ds es) := fun i H st => by
  refine ⟨fun d hd => ?_, fun hi => ⟨vs, ws, .of (st _ _ s1), .of (st _ _ s2), ?_⟩⟩
  · obtain ⟨dx, dy, e1, e2, rfl⟩ := zipD_get hd
    obtain ⟨x, hx, vx⟩ := t1.get e1
    obtain ⟨y, hy, vy⟩ := t2.get e2
    refine ⟨⟨vs, ws, x, y, .of (st _ _ s1), .of (st _ _ s2), hx, hy⟩, fun v H' yl => ?_⟩
    obtain ⟨c, x', y', rfl, hn, rfl, h1, h2⟩ := yl
    have ex : x' = x := Option.some.inj ((h1 vs (.of (st _ _ s1))).symm.trans hx)
    have ey : y' = y := Option.some.inj ((h2 ws (.of (st _ _ s2))).symm.trans hy)
    subst ex ey
    exact ⟨same_upd hn, fun O dom so => (pair_new hn dom (DV.mono so _ _ vx) (DV.mono so _ _ vy)).2⟩
  · rw [t1.length, t2.length]
    unfold zipD at hi
    simp only [List.length_map, List.length_zip] at hi
    omega
theorem its_zipT {K : Kw} {T : Fz} {a b : Addr} {vs ws : List V} {ds es : List D} (s1 : SqT K.K T.h a vs) (t1 : DVs K T vs ds) (s2 : SqT K.K T.h b ws) (t2 : DVs K T ws es) : Its K T (RZ.ItzT K.K a b) (zipD ds es) := fun i H st => by
  refine ⟨fun d hd => ?_, fun hi => ⟨vs, ws, sqT_mono st s1, sqT_mono st s2, ?_⟩⟩
  · obtain ⟨dx, dy, e1, e2, rfl⟩ := zipD_get hd
    obtain ⟨x, hx, vx⟩ := t1.get e1
    obtain ⟨y, hy, vy⟩ := t2.get e2
    refine ⟨⟨vs, ws, x, y, sqT_mono st s1, sqT_mono st s2, hx, hy⟩, fun v H' yl => ?_⟩
    obtain ⟨c, x', y', rfl, hn, rfl, h1, h2⟩ := yl
    have ex : x' = x := Option.some.inj ((h1 vs (sqT_mono st s1)).symm.trans hx)
    have ey : y' = y := Option.some.inj ((h2 ws (sqT_mono st s2)).symm.trans hy)
    subst ex ey
    exact ⟨same_upd hn, fun O dom so => (pair_new hn dom (DV.mono so _ _ vx) (DV.mono so _ _ vy)).2⟩
  · rw [t1.length, t2.length]
    unfold zipD at hi
    simp only [List.length_map, List.length_zip] at hi
    omega
/-- zip(f, g) -/
def iZ (f g : EX) : IX := iB f fun d ρ1 => iB g (fun e ρ2 => match d, e with
  | .lst xs, .lst ys => .ok (zipD xs ys) ρ2
  | .tup xs, .tup ys => .ok (zipD xs ys) ρ2
  | _, _ => .stuck) ρ1
section
variable {K : Kw} {hx : Hx} {W : WX} {f g : EX}
theorem ri_zip : RI K hx W (iZ f g) (RZ.iZipA K.K (tCons (tX K hx W f) (tCons (tX K hx W g) tNil))) := by
  intro σ H R F ρ O r hp
  refine bindI (P := fun z => match z with
    | .ok ds ρ1 => ∀ (J : It) (H1 : Hp) (O1 : Ow), RO K hx F ρ1 σ H1 O1 → FSame (wo O H) (wo O1 H1) → Its K (wo O1 H1) J ds → R J H1
    | .err x ρ1 => ∀ cls dd H1, RX K hx F ρ1 σ H1 x cls dd → W cls dd σ H1
    | .stuck => False) r hp (fun x ρ1 h => h) (fun h => h) fun d ρ1 v H1 O1 r1 s1 dv q => ?_
  refine bindI (P := fun z => match z with
    | .ok ds ρ1 => ∀ (J : It) (H1 : Hp) (O1 : Ow), RO K hx F ρ1 σ H1 O1 → FSame (wo O H) (wo O1 H1) → Its K (wo O1 H1) J ds → R J H1
    | .err x ρ1 => ∀ cls dd H1, RX K hx F ρ1 σ H1 x cls dd → W cls dd σ H1
    | .stuck => False) r1 q (fun x ρ1 h => h) (fun h => h) fun e ρ2 u H2 O2 r2 s2 du q2 => ?_
  have dv2 := DV.mono s2 _ _ dv
  cases d <;> cases e <;> (try exact (q2 : False).elim)
  · obtain ⟨a, vs, rfl, p1, t1⟩ := dv2.tup_of
    obtain ⟨b, ws, rfl, p2, t2⟩ := du.tup_of
    exact ⟨a, b, vs, ws, rfl, .inr ⟨sqT_mono (wo_same O2 H2) p1, sqT_mono (wo_same O2 H2) p2, q2 _ H2 O2 r2 (s1.trans s2) (its_zipT p1 t1 p2 t2)⟩⟩
  · obtain ⟨a, vs, rfl, p1, t1⟩ := dv2.lst_of
    obtain ⟨b, ws, rfl, p2, t2⟩ := du.lst_of
    exact ⟨a, b, vs, ws, rfl, .inl ⟨.of (wo_same O2 H2 _ _ p1), .of (wo_same O2 H2 _ _ p2), q2 _ H2 O2 r2 (s1.trans s2) (its_zipL p1 t1 p2 t2)⟩⟩
end
end MB

/-! Dicts with text keys: a module's table; the hook with tables. -/
namespace MB
open PySem PySem.Spec PyProof.Rows L2
/-! ### a module's dict with text keys -/
def TBS (K : Kw) (x : Str) (l : List (Str × D)) : Prop := (∃ es n, KDict K.K K.w (He.ga K.K x) es n) ∧ ∀ z, match l.lookup z with
  | some d => ∃ u v, PySem.W.nsIn K.K (He.ga K.K x) z = some (some u) ∧ RelV v u ∧ ∀ H, DV K H v d
  | none => PySem.W.nsIn K.K (He.ga K.K x) z = some none
def eTbS (l : List (Str × D)) (f : EX) : EX := fun ρ => (f ρ).bind fun d ρ1 => match d with
  | .str z => match l.lookup z with
    | some y => .ok y ρ1
    | none => .stuck
  | _ => .stuck
def eInS (l : List (Str × D)) (f : EX) : EX := fun ρ => (f ρ).bind fun d ρ1 => match d with
  | .str z => .ok (.bl (l.lookup z).isSome) ρ1
  | _ => .stuck
def eNinS (l : List (Str × D)) (f : EX) : EX := fun ρ => (f ρ).bind fun d ρ1 => match d with
  | .str z => .ok (.bl !(l.lookup z).isSome) ρ1
  | _ => .stuck
section
variable {X : Cx} {hx : Hx} {W : WX} {b : Expr} {fb : EX} {x : Str} {pos p : Pos} {l : List (Str × D)}
theorem r_tbS (T : TBS X.kw x l) (hm : X.mg x = some (.ref (He.ga X.K x))) (hb : PE X b (tX X.kw hx W fb)) (hg : Gl X x := by rfl) (hd : (x == ("__debug__" : Str)) = false := by decide) (hs : PlainIx b := by first | (intro _ _; rfl) | exact fun _ _ => rfl) :
    PE X (.Subscript (.Name x p) b pos) (tX X.kw hx W (eTbS l fb)) :=
  (pe_ix ix_kdict (pe_glob (v := .ref (He.ga X.K x)) hg hm rfl hd) hb hs).imp fun σ H Q h => by
    obtain ⟨F, ρ, ⟨O, r0⟩, hp⟩ := h
    show tX X.kw hx W fb σ H _
    refine bindX r0 hp fun d ρ1 v H1 O1 r1 s1 dv hp1 => ?_
    cases d <;> (try exact hp1.elim)
    rename_i z
    cases dv
    obtain ⟨⟨es, n, kd⟩, T2⟩ := T
    have T3 := T2 z
    cases e : l.lookup z with
    | none => simp only [e] at hp1; exact hp1.elim
    | some y =>
      simp only [e] at hp1 T3
      obtain ⟨u, v, h1, h2, h3⟩ := T3
      exact ⟨_, z, v, rfl, rfl, ⟨es, n, u, kd.at_, kd.lit, h1, h2⟩, hp1 v H1 ⟨O1, r1, h3 _⟩⟩
theorem op2_inS {r : R2} (K : Kw) (x : Str) (l : List (Str × D)) (T : TBS K x l) (hr : ∀ z s H Q, PySem.W.nsIn K.K (He.ga K.K x) z = some s → Q (.bl s.isSome) H → r (.str z) (.ref (He.ga K.K x)) H Q) {F : Fm} {ρ : En} {σ : MB.St} {H : Hp} {Q : VK} {fb : EX} {O : Ow} (r0 : RO K hx F ρ σ H O) (hp : Po K hx F W σ (eInS l fb ρ) Q) :
    tOp r (tX K hx W fb) (tC (.ref (He.ga K.K x))) σ H Q := by
  refine bindX r0 hp fun d ρ1 v H1 O1 r1 s1 dv hp1 => ?_
  cases d <;> (try exact hp1.elim)
  rename_i z
  cases dv
  have T3 := T.2 z
  cases e : l.lookup z with
  | none =>
    simp only [e] at hp1 T3
    exact hr z none H1 Q T3 (hp1 _ H1 ⟨O1, r1, .bl _⟩)
  | some y =>
    simp only [e] at hp1 T3
    obtain ⟨u, v, h1, h2, h3⟩ := T3
    exact hr z (some u) H1 Q h1 (hp1 _ H1 ⟨O1, r1, .bl _⟩)
theorem r_inS (T : TBS X.kw x l) (hm : X.mg x = some (.ref (He.ga X.K x))) (hb : PE X b (tX X.kw hx W fb)) (hg : Gl X x := by rfl) (hd : (x == ("__debug__" : Str)) = false := by decide) (hmk : behindInMarks .In (.Name x p) = false := by rfl) :
    PE X (.Compare b [.In] [.Name x p] pos) (tX X.kw hx W (eInS l fb)) := by
  obtain ⟨es, n, kd⟩ := T.1
  exact (pe_cmpR (op_in_kd kd) hb (pe_glob (v := .ref (He.ga X.K x)) hg hm rfl hd) hmk).imp fun σ H Q h => by
    obtain ⟨F, ρ, ⟨O, r0⟩, hp⟩ := h
    exact op2_inS (W := W) X.kw x l T (fun z s H Q h1 h2 => ⟨z, s, rfl, rfl, h1, h2⟩) r0 hp
theorem r_ninS (T : TBS X.kw x l) (hm : X.mg x = some (.ref (He.ga X.K x))) (hb : PE X b (tX X.kw hx W fb)) (hg : Gl X x := by rfl) (hd : (x == ("__debug__" : Str)) = false := by decide) (hmk : behindInMarks .NotIn (.Name x p) = false := by rfl) :
    PE X (.Compare b [.NotIn] [.Name x p] pos) (tX X.kw hx W (eNinS l fb)) := by
  obtain ⟨es, n, kd⟩ := T.1
  exact (pe_cmpR (op_notIn_kd kd) hb (pe_glob (v := .ref (He.ga X.K x)) hg hm rfl hd) hmk).imp fun σ H Q h => by
    obtain ⟨F, ρ, ⟨O, r0⟩, hp⟩ := h
    show tX X.kw hx W fb σ H _
    refine bindX r0 hp fun d ρ1 v H1 O1 r1 s1 dv hp1 => ?_
    cases d <;> (try exact hp1.elim)
    rename_i z
    cases dv
    have T3 := T.2 z
    cases e : l.lookup z with
    | none =>
      simp only [e] at hp1 T3
      exact ⟨z, none, rfl, rfl, T3, hp1 _ H1 ⟨O1, r1, .bl _⟩⟩
    | some y =>
      simp only [e] at hp1 T3
      obtain ⟨u, v, h1, h2, h3⟩ := T3
      exact ⟨z, some u, rfl, rfl, h1, hp1 _ H1 ⟨O1, r1, .bl _⟩⟩
end
/-! ### facts of such a table -/
def tbsB (K : Fg) (x : Str) (l : List (Str × D)) : Bool := l.all fun p => match PySem.W.nsIn K (He.ga K x) p.1 with
  | some (some u) => dB K 12 u p.2
  | _ => false
theorem mem_lookS {d : D} {i : Str} : ∀ {l : List (Str × D)}, l.lookup i = some d → (i, d) ∈ l
  | [], e => by cases e
  | (j, x) :: l, e => by
    rw [List.lookup_cons] at e
    cases q : (i == j) with
    | true =>
      rw [q] at e
      cases e
      rw [eq_of_beq q]
      exact List.mem_cons_self
    | false =>
      rw [q] at e
      exact List.mem_cons_of_mem _ (mem_lookS e)
theorem lookS_none {i : Str} : ∀ {l : List (Str × D)}, l.lookup i = none → i ∉ l.map (·.1)
  | [], _ => by simp
  | (j, x) :: l, e => by
    rw [List.lookup_cons] at e
    cases q : (i == j) with
    | true => rw [q] at e; cases e
    | false =>
      rw [q] at e
      intro h
      rcases List.mem_cons.mp h with h | h
      · have h' : i = j := h
        rw [h'] at q
        simp at q
      · exact lookS_none e h
/-- a text that is no key -/
theorem ns_none {P : Params} {z : Str} : ∀ {es : List DictEntry} {ks : List Str}, es.map He.keyOf = He.keysIn P ks → z ∉ ks → es.find? (·.key.isStr z) = none ∧ es.any (·.refKey) = false
  | [], _, _, _ => ⟨rfl, rfl⟩
  | e :: r, [], h, _ => by cases h
  | e :: r, k :: ks, h, hz => by
    have h1 : He.keyOf e :: r.map He.keyOf = some (k, PyData.keyHash P k) :: He.keysIn P ks := h
    injection h1 with h2 h3
    obtain ⟨i1, i2⟩ := ns_none h3 (fun m => hz (List.mem_cons_of_mem _ m))
    unfold He.keyOf at h2
    split at h2
    · rename_i x t q
      have h4 := Option.some.inj h2
      obtain ⟨h5, h6⟩ := Prod.mk.inj h4
      subst h5
      have hn : (e.key.isStr z) = false := by
        rw [q]
        show (_ : Bool) = false
        refine Bool.eq_false_iff.mpr fun y => hz ?_
        have : x = z := by
          first
          | exact (beq_iff_eq.mp y)
          | exact (beq_iff_eq.mp y).symm
          | exact of_decide_eq_true y
          | exact (of_decide_eq_true y).symm
        rw [← this]
        exact List.mem_cons_self
      refine ⟨by rw [List.find?_cons, hn]; exact i1, ?_⟩
      rw [List.any_cons, i2, Bool.or_false]
      unfold DictEntry.refKey
      rw [q]
    · cases h2
theorem tbs_ok {K : Kw} {x : Str} {l : List (Str × D)} (h1 : He.dicW K.K (He.ga K.K x) = some (He.keysIn K.w.params (l.map (·.1)))) (h2 : tbsB K.K x l = true) : TBS K x l := by
  obtain ⟨es, n, kd⟩ := He.dicW_ok h1
  have hk : es.toList.map He.keyOf = He.keysIn K.w.params (l.map (·.1)) := by
    unfold He.dicW at h1
    rw [kd.at_] at h1
    have h3 : (match decide (("dict" : String) = "dict") && ((#[] : Array (Option Value)).isEmpty && !(He.ga K.K x == sysModules)) with
      | true => some (es.toList.map He.keyOf)
      | false => none) = some (He.keysIn K.w.params (l.map (·.1))) := h1
    split at h3
    · exact Option.some.inj h3
    · cases h3
  refine ⟨⟨es, n, kd⟩, fun z => ?_⟩
  cases e : l.lookup z with
  | none =>
    show PySem.W.nsIn K.K (He.ga K.K x) z = some none
    obtain ⟨a, b⟩ := ns_none hk (lookS_none e)
    unfold PySem.W.nsIn
    rw [kd.at_]
    simp only [a, b]
    rfl
  | some d =>
    show ∃ u v, PySem.W.nsIn K.K (He.ga K.K x) z = some (some u) ∧ RelV v u ∧ ∀ H, DV K H v d
    have h3 := List.all_eq_true.mp h2 _ (mem_lookS e)
    cases q : PySem.W.nsIn K.K (He.ga K.K x) z with
    | none => simp only [q] at h3; cases h3
    | some o =>
      cases o with
      | none => simp only [q] at h3; cases h3
      | some u =>
        simp only [q] at h3
        obtain ⟨r, dv⟩ := dB_ok _ _ _ h3
        exact ⟨u, vOf u, rfl, r, dv⟩
/-! ### the hook with such tables -/
abbrev AlN : Type := AlM × List (Option (List (Option (Str × Int))))
abbrev Tbs : Type := List (Str × List Str)
def obsN (file : Str) (chk : Fg → Bool) (fn : List He.DefD) (xs : List XD) (ts : Tbs) (K : Fg) : AlN := (obsM file chk fn xs K, ts.map fun t => He.dicW K (He.ga K t.1))
def valN (fn : List He.DefD) (xs : List XD) (ts : Tbs) (w : World) : AlN := (valM fn xs, ts.map fun t => some (He.keysIn w.params t.2))
def SaysN (file : Str) (chk : Fg → Bool) (fn : List He.DefD) (xs : List XD) (ts : Tbs) (w : World) (K : Fg) : Prop := obsN file chk fn xs ts K = valN fn xs ts w
def obsNG (n : Nat) (file : Str) (chk : Fg → Bool) (fn : List He.DefD) (xs : List XD) (ts : Tbs) (g : Addr → Option Obj) : AlN := obsN file chk fn xs ts (He.frG g (asM g n))
def hookN (n : Nat) (file : Str) (chk : Fg → Bool) (fn : List He.DefD) (xs : List XD) (ts : Tbs) : PySem.W.Hook where
  α := AlN
  obs := fun s => obsNG n file chk fn xs ts s.heap.get?
  val := fun w => valN fn xs ts w
  says := fun w h => ∃ K : PySem.W.Frag, K.In h ∧ SaysN file chk fn xs ts w K
  of := fun _ _ e => ⟨_, He.frG_in, e⟩
  keeps := fun _ _ _ ⟨K, hK, c⟩ k => ⟨K, PySem.W.Frag.In.keeps hK k, c⟩
theorem obsNG_eq {n : Nat} {file : Str} {chk : Fg → Bool} {fn : List He.DefD} {xs : List XD} {ts : Tbs} {g : Addr → Option Obj} {s : Shared} (h : ∀ a, g a = s.heap.get? a) : obsNG n file chk fn xs ts g = (hookN n file chk fn xs ts).obs s := by
  have e : g = s.heap.get? := funext h
  rw [e] <;> rfl
section
variable {file : Str} {ck : Fg → Bool} {fn : List He.DefD} {xs : List XD} {ts : Tbs} {w : World} {K : Fg}
theorem SaysN.m (c : SaysN file ck fn xs ts w K) : SaysM file ck fn xs K := congrArg (fun z : AlN => z.1) c
theorem SaysN.tab (c : SaysN file ck fn xs ts w K) (i : Nat) {t : Str × List Str} (h : ts[i]? = some t) : He.dicW K (He.ga K t.1) = some (He.keysIn w.params t.2) := by
  have e : ts.map (fun t => He.dicW K (He.ga K t.1)) = ts.map fun t => some (He.keysIn w.params t.2) := congrArg (fun z : AlN => z.2) c
  have e2 : (ts.map fun t => He.dicW K (He.ga K t.1))[i]? = (ts.map fun t => some (He.keysIn w.params t.2))[i]? := by rw [e]
  rw [List.getElem?_map, List.getElem?_map, h] at e2
  exact Option.some.inj e2
end
end MB

/-! isinstance(e, (C, ..)) of the handled exception; a written dict with text keys as data; str(int). -/
namespace MB
open PySem PySem.Spec PyProof.Rows L2
/-! ### isinstance(e, (C1, C2, ..)) -/
def rIsXT (K : Fg) (C a : Addr) (dd : Option Addr) : List V → Hp → VK → Prop := fun xs H Q => ∃ (tp : Addr) (cs : List V) (us : List Value) (b : Bool), xs = [.ref a, .ref tp] ∧ H tp = some (.tup cs) ∧ Paired ClsV cs us ∧ PySem.W.kitAny K (.ref C) us = some b ∧ dictOk H dd ∧ Q (.bl b) H
theorem call_isXT {X : Cx} {a C : Addr} {oe : Obj} {dd : Option Addr} (T : ExcC X.K C) (hm : (a, oe) ∈ X.pn) (hz : Zc (.ref C) dd oe) (hf : ∃ vs, oe.data = .fields vs) : CallR X (.builtin "isinstance") (rIsXT X.K C a dd) := by
  intro pins s σ H xs us Q I r h
  obtain ⟨tp, cs, ws, b, rfl, hT, k, e, hd, q⟩ := h
  obtain ⟨u1, u2, rfl, r1, r2⟩ : ∃ u1 u2, us = [u1, u2] ∧ RelV (.ref a) u1 ∧ RelV (.ref tp) u2 := by
    cases r with
    | cons rx rr =>
      cases rr with
      | cons rt rr =>
        cases rr
        exact ⟨_, _, rfl, rx, rt⟩
  cases (show u2 = Value.ref tp from r2)
  cases (show u1 = Value.ref a from r1)
  obtain ⟨hget, _⟩ := I.pin (a, oe) (List.mem_append.mpr (.inl hm))
  obtain ⟨vs, hv⟩ := hf
  have J : ∃ od, PySem.W.InstAt s.heap a oe C od := by
    rcases hd with rfl | ⟨d, ws, rfl, hd⟩
    · exact ⟨none, hget, hz.1, by unfold PySem.W.notCls; rw [hv] <;> rfl, by rw [hz.2]; exact trivial⟩
    · obtain ⟨mA, hns, hr⟩ := (show ObjOk X.prog X.w H s.heap d (.xd ws) from I.hok d _ hd)
      obtain ⟨od, ho, hl⟩ := lookIn_ns hns
      exact ⟨some od, hget, hz.1, by unfold PySem.W.notCls; rw [hv] <;> rfl, by rw [hz.2]; exact ho⟩
  obtain ⟨od, J⟩ := J
  obtain ⟨_, its, rv, o, h1, h2, n, h3⟩ := (show ObjOk X.prog X.w H s.heap tp (.tup cs) from I.hok tp _ hT)
  have e3 := ClsV.all k rv
  subst e3
  obtain ⟨oc, od', dt, sl⟩ := o
  simp only at h2 h3
  subst h2 h3
  exact PySem.W.kia_tup (PySem.W.mb_kitx T) I.kIn J h1 e (fun z => nomatch z) fun tk => ⟨.bl b, H, I.tok tk, rfl, q⟩
def ISFT (K : Fg) (t : Str → Option Bool) (us : List Value) : Prop := ∀ c b, t c = some b → ExcC K (He.ga K c) ∧ PySem.W.kitAny K (.ref (He.ga K c)) us = some b
section
variable {X : Cx} {hx : Hx} {W : WX} {pos p q tpos : Pos} {i k : Nat} {x : Str} {es : List Expr}
theorem r_isET {t : Str → Option Bool} {us : List Value} {cs : List V} {ta : TA} (ho : HxOk X hx) (hT : ISFT X.K t us) (hcs : Paired ClsV cs us) (hlen : cs.length ≤ sizeLine) (ha : PA X es ta) (hta : ∀ (σ : MB.St) (H : Hp) (Q : List V → Hp → Prop), Q cs H → ta σ H Q) (hm : X.mg "isinstance" = none) (hN : X.N[i]? = some x := by rfl)
    (hv : Vis X.env.scope x := by first | exact Or.inl rfl | exact Or.inr (Or.inl rfl) | exact Or.inr (Or.inr rfl)) (hg : Gl X "isinstance" := by rfl)
    (hd : (x == ("__debug__" : Str)) = false := by decide) (hcd : (x == ("__classdict__" : Str)) = false := by decide) (he0 : starEach [Expr.Tuple es k tpos] X.env = (false, eval (Expr.Tuple es k tpos) X.env) :: starEach [] X.env := by rfl)
    (he : starEach (.Name x q :: [Expr.Tuple es k tpos]) X.env = (false, eval (.Name x q) X.env) :: starEach [Expr.Tuple es k tpos] X.env := by rfl) (hpl : (backTo pos (starEach [Expr.Tuple es k tpos] X.env)).any (·.1) = false := by rfl) :
    PE X (.Call (.Name "isinstance" p) [.Name x q, .Tuple es k tpos] [] pos) (tX X.kw hx W (eIsE i t)) := by
  obtain ⟨a, oe, cls, dd, hxe, hmem, hot, hz⟩ := ho
  refine ⟨fun pins s σ H Q I h => ?_⟩
  obtain ⟨F, ρ, ⟨O, r0⟩, hp⟩ := h
  unfold eIsE at hp
  cases e : ρ[i]? with
  | none => rw [e] at hp; exact hp.elim
  | some o =>
    cases o with
    | none => rw [e] at hp; exact hp.elim
    | some sl =>
      rw [e] at hp
      cases sl with
      | val d => exact hp.elim
      | exc y =>
        have hp' : Po X.kw hx F W σ (match t y.c with
          | some b => Rs.ok (.bl b) ρ
          | none => .stuck) Q := hp
        cases e2 : t y.c with
        | none => rw [e2] at hp'; exact hp'.elim
        | some b =>
          rw [e2] at hp'
          obtain ⟨v, ev, a', cls', dd', rfl, e3, ex⟩ := r0.sl i _ e
          rw [hxe] at e3
          cases e3
          obtain ⟨hE, hk⟩ := hT _ _ e2
          have ec := ex.1
          subst ec
          have hcall := call_isXT (X := X) hE hmem hz (by obtain ⟨_, vs, e1, _⟩ := hot; exact ⟨vs, e1⟩)
          refine (pe_callB hcall hg hm (by decide +kernel) (pa_cons (pe_var hN hv hd hcd) (pa_cons (pe_tup ha) pa_nil he0) he) (by decide) (by decide) he hpl).run pins s σ H Q I ?_
          refine ⟨_, ev, hta σ H _ ?_⟩
          classical
          have fin : ∀ T H2, H2 T = some (.tup cs) → Same H H2 → rIsXT X.K (He.ga X.K y.c) a dd [.ref a, .ref T] H2 Q := fun T H2 h2 s2 =>
            ⟨T, cs, us, b, rfl, h2, hcs, hk, ex.dict ((wo_same O H).trans s2), hp' _ H2 ⟨O, r0.grow s2, .bl b⟩⟩
          exact ⟨hlen, fun T hT => fin T _ upd_same (same_upd hT)⟩
end
def isXT (l : List (Str × List Str)) (Cs : List Str) : Str → Option Bool := fun c => (l.lookup c).map fun bs => Cs.any (bs.contains ·)
def clsVs (K : Fg) (Cs : List Str) : List Value := Cs.map fun C => .ref (He.ga K C)
def clsV (K : Fg) (Cs : List Str) : List V := Cs.map fun C => .ref (He.ga K C)
def isTB (K : Fg) (l : List (Str × List Str)) (Cs : List Str) : Bool := l.all fun p => decide (PySem.W.kitAny K (.ref (He.ga K p.1)) (clsVs K Cs) = some (Cs.any (p.2.contains ·)))
theorem clsV_pair (K : Fg) : ∀ Cs : List Str, Paired ClsV (clsV K Cs) (clsVs K Cs)
  | [] => .nil
  | C :: Cs => .cons (.own _) (clsV_pair K Cs)
theorem ist_ok {K : Fg} {l : List (Str × List Str)} {Cs : List Str} (h1 : (l.all fun p => excCB K (He.ga K p.1)) = true) (h2 : isTB K l Cs = true) : ISFT K (isXT l Cs) (clsVs K Cs) := by
  intro c b e
  unfold isXT at e
  cases q : l.lookup c with
  | none => rw [q] at e; cases e
  | some bs =>
    rw [q] at e
    cases e
    have hm : (c, bs) ∈ l := by
      clear h1 h2
      induction l with
      | nil => cases q
      | cons p r ih =>
        obtain ⟨x, y⟩ := p
        rw [List.lookup_cons] at q
        cases z : (c == x) with
        | true =>
          rw [z] at q
          cases q
          rw [eq_of_beq z]
          exact List.mem_cons_self
        | false =>
          rw [z] at q
          exact List.mem_cons_of_mem _ (ih q)
    exact ⟨excC_ok (List.all_eq_true.mp h1 _ hm), of_decide_eq_true (List.all_eq_true.mp h2 _ hm)⟩
/-! ### str(int) -/
def strD : List D → Option D
  | [.int i] => if i.natAbs.log2 < 1920 then some (.str (toString i)) else none
  | _ => none
theorem s_str {K : Kw} : CallD K (fun xs H Q => ∃ i, xs = [.int i] ∧ i.natAbs.log2 < 1920 ∧ Q (.str (toString i)) H) strD := by
  intro O H vs ds res Q hd dv e q
  match ds, dv, e with
  | [.int i], .cons (.int _) .nil, e =>
    have e' : (if i.natAbs.log2 < 1920 then some (D.str (toString i)) else none) = some res := e
    split at e'
    · rename_i h
      cases e'
      exact ⟨i, rfl, h, q _ H (Same.refl H) (.str _)⟩
    · cases e'
/-! ### a written dict of text keys and ints -/
def dInts (kvs : List (Str × Int)) : D := .dct (kvs.map fun p => .inr p.1) (kvs.map fun p => .int p.2)
theorem tPairs_const {σ : MB.St} {H : Hp} : ∀ {kvs : List (Str × Int)} {Q : List (V × V) → Hp → Prop}, Q (kvs.map fun p => (V.str p.1, V.int p.2)) H → tPairs (kvs.map fun p => (tC (.str p.1), tC (.int p.2))) σ H Q
  | [], Q, h => h
  | p :: r, Q, h => tPairs_const (kvs := r) (Q := fun ps H3 => Q ((V.str p.1, V.int p.2) :: ps) H3) h
section
variable {X : Cx} {hx : Hx} {W : WX} {pos : Pos}
theorem zip_map2 {α β γ : Type} (f : α → β) (g : α → γ) : ∀ l : List α, (l.map f).zip (l.map g) = l.map fun a => (f a, g a)
  | [] => rfl
  | a :: l => by simp [zip_map2 f g l]
theorem r_dct {keys : List (Option Expr)} {values : List Expr} {kvs : List (Str × Int)} (h : PPs X pos keys values (kvs.map fun p => (tC (.str p.1), tC (.int p.2)))) (hm : mergeK [] (kvs.map fun p => ((.inr p.1 : L2.Key), V.int p.2)) = kvs.map fun p => ((.inr p.1 : L2.Key), V.int p.2)) (h15 : kvs.length ≤ 15)
    (hall : keys.all (·.isSome) = true := by rfl) (hl : keys.length = values.length := by rfl) (h0 : keys ≠ [] := by intro h; cases h) (hk15 : keys.length ≤ 15 := by decide) : PE X (.Dict keys values pos) (tX X.kw hx W (eC (dInts kvs))) :=
  (pe_disp h hall hl h0 hk15).imp fun σ H Q h => by
    obtain ⟨F, ρ, ⟨O, r⟩, hp⟩ := h
    intro p np
    refine tPairs_const ⟨upd_same, kvs.map fun p => ((.inr p.1 : L2.Key), V.int p.2), by rw [List.map_map]; rfl, by simpa using h15, ?_⟩
    rw [hm, upd_upd]
    have s := same_upd (o := HO.dK (kvs.map fun p => ((.inr p.1 : L2.Key), V.int p.2))) np
    refine hp _ _ ⟨O, r.grow s, .dct (vs := kvs.map fun p => V.int p.2) ?_ (by simp) ?_⟩
    · rw [wo_out (r.out np), upd_same, zip_map2]
    · have : ∀ l : List (Str × Int), DVs X.kw (wo O (L2.upd H p (.dK (kvs.map fun p => ((.inr p.1 : L2.Key), V.int p.2))))) (l.map fun p => V.int p.2) (l.map fun p => D.int p.2) := by
        intro l
        induction l with
        | nil => exact .nil
        | cons a l ih => exact .cons (.int _) ih
      exact this kvs
def lookK : List L2.Key → List D → L2.Key → Option D
  | k :: ks, d :: ds, z => if k = z then some d else lookK ks ds z
  | _, _, _ => none
theorem lookK_ok {K : Kw} {H : Fz} {z : L2.Key} {d : D} : ∀ {ks : List L2.Key} {vs : List V} {ds : List D}, DVs K H vs ds → lookK ks ds z = some d → ∃ v, valV (ks.zip vs) z = some v ∧ DV K H v d
  | [], _, _, .nil, e => by cases e
  | [], _, _, .cons _ _, e => by cases e
  | k :: ks, _, _, .nil, e => by cases e
  | k :: ks, v :: vs, _, .cons a t, e => by
    unfold lookK at e
    rw [List.zip_cons_cons]
    by_cases h : k = z
    · rw [if_pos h] at e
      cases e
      exact ⟨v, valV_pos (p := (k, v)) h, a⟩
    · rw [if_neg h] at e
      obtain ⟨w, h1, h2⟩ := lookK_ok t e
      exact ⟨w, by rw [valV_neg (p := (k, v)) h]; exact h1, h2⟩
def keyD : D → Option L2.Key
  | .int i => some (.inl i)
  | .str x => some (.inr x)
  | _ => none
def eIxK (fa fb : EX) : EX := fun ρ => (fa ρ).bind fun d ρ1 => (fb ρ1).bind fun e ρ2 => match d, keyD e with
  | .dct ks ds, some k => match lookK ks ds k with
    | some z => .ok z ρ2
    | none => .stuck
  | _, _ => .stuck
theorem r_ixK {a b : Expr} {fa fb : EX} (hu : X.A.units + 64 < cLine) (ha : PE X a (tX X.kw hx W fa)) (hb : PE X b (tX X.kw hx W fb)) (hs : NoSl b := by first | (intro _ _; rfl) | exact fun _ _ => rfl) : PE X (.Subscript a b pos) (tX X.kw hx W (eIxK fa fb)) :=
  (pe_dget (by omega) ha hb hs).imp fun σ H Q h => by
    obtain ⟨F, ρ, ⟨O, r0⟩, hp⟩ := h
    show tX X.kw hx W fa σ H _
    refine bindX r0 hp fun d ρ1 v H1 O1 r1 s1 dv hp1 => ?_
    refine bindX r1 hp1 fun e ρ2 u H2 O2 r2 s2 du hp2 => ?_
    have dv2 := DV.mono s2 _ _ dv
    cases d <;> (try exact hp2.elim)
    rename_i ks ds
    cases dv2 with
    | dct h1 h2 h3 =>
      rename_i a vs
      cases q : keyD e with
      | none => simp only [q] at hp2; exact hp2.elim
      | some k =>
        simp only [q] at hp2
        cases q2 : lookK ks ds k with
        | none => simp only [q2] at hp2; exact hp2.elim
        | some z =>
          simp only [q2] at hp2
          obtain ⟨w, g1, g2⟩ := lookK_ok h3 q2
          have hk : u = kV k := by
            cases e <;> (try (cases q; done))
            · cases du; cases q; rfl
            · cases du; cases q; rfl
          refine ⟨a, w, rfl, ?_, hp2 w H2 ⟨O2, r2, g2⟩⟩
          rw [hk, ← g1]
          exact DGet.k (wo_same O2 H2 _ _ h1)
end
end MB

/-! x is True, x is None; x in a list of data of any depth. -/
namespace MB
open PySem PySem.Spec PyProof.Rows L2
def okV : V → Bool
  | .non => true | .bl _ => true | .int _ => true | .str _ => true | .ref _ => true | _ => false
def rIsM : R2 := fun x y H Q => (y = .non ∧ Q (.bl (decide (x = .non))) H) ∨ ∃ b, okV x = true ∧ y = .bl b ∧ Q (.bl (decide (x = .bl b))) H
theorem op_isB {X : Cx} : OpR X (compareOp .Is) (fun x y H Q => ∃ b, okV x = true ∧ y = .bl b ∧ Q (.bl (decide (x = .bl b))) H) := by
  intro pins s σ H x y v u Q I rx ry h
  obtain ⟨b, hok, rfl, q⟩ := h
  cases ry
  cases x <;> (try (cases hok; done))
  · cases rx
    exact wpAny_pure (fin_bl I q rfl)
  · cases rx
    exact wpAny_pure (fin_bl I q (by rename_i a; cases a <;> cases b <;> rfl))
  all_goals first
    | (cases rx; exact wpAny_pure (fin_bl I q rfl))
    | (obtain ⟨t, rfl⟩ := rx; exact wpAny_pure (fin_bl I q rfl))
    | (cases rx; exact wpAny_pure (fin_bl I q (by rename_i a; cases a <;> cases b <;> rfl)))
theorem o_isM {X : Cx} : OpR X (compareOp .Is) rIsM := op_isN.or op_isB
def isBlD (b : Bool) : D → Bool
  | .bl a => a == b
  | _ => false
def isM : D → D → Option D
  | d, .non => some (.bl (isNo d))
  | d, .bl b => some (.bl (isBlD b d))
  | _, _ => none
theorem isBlD_of {K : Kw} {H : Fz} {v : V} {d : D} {b : Bool} (h : DV K H v d) : decide (v = V.bl b) = isBlD b d := by
  cases d <;> cases h <;> first | rfl | (rename_i a; cases a <;> cases b <;> rfl)
theorem okV_of {K : Kw} {H : Fz} {v : V} {d : D} (h : DV K H v d) : okV v = true := by
  cases d <;> cases h <;> rfl
theorem s_isM {K : Kw} : Op2 K rIsM isM := by
  intro O H x y d e res Q hd hx hy h q
  cases e <;> (try (cases d <;> cases h; done))
  · cases hy
    have h' : some (D.bl (isNo d)) = some res := by cases d <;> exact h
    cases h'
    exact .inl ⟨rfl, by rw [isNo_of hx]; exact q _ H (Same.refl H) (.bl _)⟩
  · cases hy
    rename_i b
    have h' : some (D.bl (isBlD b d)) = some res := by cases d <;> exact h
    cases h'
    exact .inr ⟨b, okV_of hx, rfl, by rw [isBlD_of hx]; exact q _ H (Same.refl H) (.bl _)⟩
theorem b_isM : ∀ d e z, isM d e = some z → ∃ b, z = .bl b := fun d e z h => by
  cases e <;> (try (cases d <;> cases h; done))
  · cases d <;> cases h <;> exact ⟨_, rfl⟩
  · cases d <;> cases h <;> exact ⟨_, rfl⟩
/-! ### in, at any depth -/
def inDeep (d : D) (xs : List D) : Option Bool := match toPy d, toPys xs with
  | some a, some ps => if (SeqAt.shaped a && SeqAt.shaped (.list ps)) = true then some (ps.any fun z => PyData.eqv z a) else none
  | _, _ => none
def inM : D → D → Option D
  | d, .tup xs => (inB d xs).map .bl
  | d, .lst xs => match inB d xs with
    | some b => some (.bl b)
    | none => (inDeep d xs).map .bl
  | _, _ => none
def rInM (K : Fg) : R2 := fun x y H Q => rIn K false x y H Q ∨ (∃ d ds, Dp K H x d ∧ Dp K H y (.list ds) ∧ SeqAt.shaped d = true ∧ SeqAt.shaped (.list ds) = true ∧ Q (.bl (ds.any fun z => PyData.eqv z d)) H)
theorem o_inM {X : Cx} (hu : X.A.units + 65 < cLine) : OpR X (compareOp .In) (rInM X.K) := op_in_seq.or (op_inD hu)
theorem Dp.mono_wo {K : Kw} {H : Hp} {O : Ow} {v : V} {d : D} {p : PyData} (h : DV K (wo O H) v d) (e : toPy d = some p) : Dp K.K H v p := dp_of d v p (DV.mono (wo_al O H) _ _ h) e
theorem s_inM {K : Kw} : Op2 K (rInM K.K) inM := by
  intro O H x y d e res Q hd hx hy h q
  cases e <;> (try (cases d <;> cases h; done))
  · rename_i xs
    exact .inl (s_in O H x y d (.tup xs) res Q hd hx hy (by cases d <;> exact h) q)
  · rename_i xs
    have h' : (match inB d xs with
      | some b => some (.bl b)
      | none => (inDeep d xs).map .bl) = some res := by cases d <;> exact h
    cases e1 : inB d xs with
    | some b =>
      rw [e1] at h'
      refine .inl (s_in O H x y d (.lst xs) res Q hd hx hy ?_ q)
      have : (inB d xs).map D.bl = some res := by rw [e1]; exact h'
      cases d <;> exact this
    | none =>
      rw [e1] at h'
      obtain ⟨b, hb, rfl⟩ := Option.map_eq_some_iff.mp (show (inDeep d xs).map D.bl = some res from h')
      unfold inDeep at hb
      cases e2 : toPy d with
      | none => simp only [e2] at hb; cases hb
      | some a =>
        cases e3 : toPys xs with
        | none => simp only [e2, e3] at hb; cases hb
        | some ps =>
          simp only [e2, e3] at hb
          split at hb
          · rename_i hs
            obtain ⟨s1, s2⟩ := Bool.and_eq_true_iff.mp hs
            cases hb
            refine .inr ⟨a, ps, Dp.mono_wo hx e2, Dp.mono_wo hy ?_, s1, s2, q _ H (Same.refl H) (.bl _)⟩
            rw [toPy, e3]
            rfl
          · cases hb
theorem b_inM : ∀ d e z, inM d e = some z → ∃ b, z = .bl b := fun d e z h => by
  cases e <;> (try (cases d <;> cases h; done))
  · rename_i xs
    have h' : (inB d xs).map D.bl = some z := by cases d <;> exact h
    obtain ⟨b, _, rfl⟩ := Option.map_eq_some_iff.mp h'
    exact ⟨b, rfl⟩
  · rename_i xs
    have h' : (match inB d xs with
      | some b => some (.bl b)
      | none => (inDeep d xs).map .bl) = some z := by cases d <;> exact h
    cases e1 : inB d xs with
    | some b => rw [e1] at h'; cases h'; exact ⟨b, rfl⟩
    | none =>
      rw [e1] at h'
      obtain ⟨b, _, rfl⟩ := Option.map_eq_some_iff.mp (show (inDeep d xs).map D.bl = some z from h')
      exact ⟨b, rfl⟩
end MB

/-! x in TABLE as a test; room. -/
namespace MB
open PySem PySem.Spec PyProof.Rows L2
theorem hu65 {k : Nat} {A : Around} (r : Room k A) : A.units + 65 < cLine := by have := r.un; omega
theorem huH65 {k : Nat} {A : Around} (r : L2H.RoomH k A) : A.units + 65 < cLine := by have := r.un; omega
def powOk (i j : Int) : Bool := decide (0 ≤ j ∧ j ≤ 1000000 ∧ i.natAbs < 2 ^ 64) || decide (0 ≤ j ∧ (Builtin.Int.intBits i : Int) * j ≤ 2 ^ 27)
def powM : D → D → Option D
  | .int i, .int j => if powOk i j = true then some (.int (i ^ j.toNat)) else none
  | _, _ => none
theorem o_powM {X : Cx} : OpR X (binaryOp .Pow) (rI (fun i j => powOk i j = true) fun i j => .int (i ^ j.toNat)) := opI fun _ _ _ _ _ _ _ hc q => by
  unfold powOk at hc
  rcases Bool.or_eq_true_iff.mp hc with h | h
  · have h' := of_decide_eq_true h
    exact pow_int_small h'.1 h'.2.1 h'.2.2 q
  · have h' := of_decide_eq_true h
    exact pow_int h'.1 h'.2 q
theorem s_powM {K : Kw} : Op2 K (rI (fun i j => powOk i j = true) fun i j => .int (i ^ j.toNat)) powM := by
  intro O H x y d e res Q hd hx hy h q
  cases d <;> cases e <;> try (cases h; done)
  rename_i i j
  have h' : (if powOk i j = true then some (D.int (i ^ j.toNat)) else none) = some res := h
  split at h'
  · cases h'
    rename_i hl
    cases hx; cases hy
    exact ⟨_, _, rfl, rfl, hl, q _ H (Same.refl H) (.int _)⟩
  · cases h'
section
variable {X : Cx} {hx : Hx} {W : WX} {b : Expr} {fb : EX} {x : Str} {pos p : Pos} {l : List (Str × D)}
theorem r_inST (T : TBS X.kw x l) (hm : X.mg x = some (.ref (He.ga X.K x))) (hb : PE X b (tX X.kw hx W fb)) (hg : Gl X x := by rfl) (hd : (x == ("__debug__" : Str)) = false := by decide) (hmk : behindInMarks .In (.Name x p) = false := by rfl) :
    PT X (.Compare b [.In] [.Name x p] pos) (tT X.kw hx W (eInS l fb)) := by
  obtain ⟨es, n, kd⟩ := T.1
  exact (pt_cmpR (op_in_kd kd) hb (pe_glob (v := .ref (He.ga X.K x)) hg hm rfl hd) hmk).imp fun σ H Q h => by
    obtain ⟨F, ρ, ⟨O, r0⟩, hp⟩ := h
    show tX X.kw hx W fb σ H _
    refine bindXT r0 hp fun d ρ1 v H1 O1 r1 s1 dv hp1 => ?_
    cases d <;> (try (obtain hp1 : False := hp1; exact hp1.elim))
    rename_i z
    cases dv
    have T3 := T.2 z
    obtain ⟨b, hb, k⟩ := hp1
    cases hb
    cases e : l.lookup z with
    | none =>
      simp only [e] at k T3
      exact ⟨z, none, rfl, rfl, T3, _, rfl, k H1 ⟨O1, r1⟩⟩
    | some y =>
      simp only [e] at k T3
      obtain ⟨u, v, h1, h2, h3⟩ := T3
      exact ⟨z, some u, rfl, rfl, h1, _, rfl, k H1 ⟨O1, r1⟩⟩
theorem r_ninST (T : TBS X.kw x l) (hm : X.mg x = some (.ref (He.ga X.K x))) (hb : PE X b (tX X.kw hx W fb)) (hg : Gl X x := by rfl) (hd : (x == ("__debug__" : Str)) = false := by decide) (hmk : behindInMarks .NotIn (.Name x p) = false := by rfl) :
    PT X (.Compare b [.NotIn] [.Name x p] pos) (tT X.kw hx W (eNinS l fb)) := by
  obtain ⟨es, n, kd⟩ := T.1
  exact (pt_cmpR (op_notIn_kd kd) hb (pe_glob (v := .ref (He.ga X.K x)) hg hm rfl hd) hmk).imp fun σ H Q h => by
    obtain ⟨F, ρ, ⟨O, r0⟩, hp⟩ := h
    show tX X.kw hx W fb σ H _
    refine bindXT r0 hp fun d ρ1 v H1 O1 r1 s1 dv hp1 => ?_
    cases d <;> (try (obtain hp1 : False := hp1; exact hp1.elim))
    rename_i z
    cases dv
    have T3 := T.2 z
    obtain ⟨b, hb, k⟩ := hp1
    cases hb
    cases e : l.lookup z with
    | none =>
      simp only [e] at k T3
      exact ⟨z, none, rfl, rfl, T3, _, rfl, k H1 ⟨O1, r1⟩⟩
    | some y =>
      simp only [e] at k T3
      obtain ⟨u, v, h1, h2, h3⟩ := T3
      exact ⟨z, some u, rfl, rfl, h1, _, rfl, k H1 ⟨O1, r1⟩⟩
end
end MB

/-! Plain facts of the functions by values: loops, comprehensions, built-in types, powers. -/
namespace MB
open PySem PySem.Spec PyProof.Rows L2
@[simp] theorem kb_NoneType_int : L2.kitB "NoneType" "int" = some false := by decide +kernel
@[simp] theorem kb_NoneType_bool : L2.kitB "NoneType" "bool" = some false := by decide +kernel
@[simp] theorem kb_NoneType_str : L2.kitB "NoneType" "str" = some false := by decide +kernel
@[simp] theorem kb_NoneType_list : L2.kitB "NoneType" "list" = some false := by decide +kernel
@[simp] theorem kb_NoneType_tuple : L2.kitB "NoneType" "tuple" = some false := by decide +kernel
@[simp] theorem kb_bool_int : L2.kitB "bool" "int" = some true := by decide +kernel
@[simp] theorem kb_bool_bool : L2.kitB "bool" "bool" = some true := by decide +kernel
@[simp] theorem kb_bool_str : L2.kitB "bool" "str" = some false := by decide +kernel
@[simp] theorem kb_bool_list : L2.kitB "bool" "list" = some false := by decide +kernel
@[simp] theorem kb_bool_tuple : L2.kitB "bool" "tuple" = some false := by decide +kernel
@[simp] theorem kb_int_int : L2.kitB "int" "int" = some true := by decide +kernel
@[simp] theorem kb_int_bool : L2.kitB "int" "bool" = some false := by decide +kernel
@[simp] theorem kb_int_str : L2.kitB "int" "str" = some false := by decide +kernel
@[simp] theorem kb_int_list : L2.kitB "int" "list" = some false := by decide +kernel
@[simp] theorem kb_int_tuple : L2.kitB "int" "tuple" = some false := by decide +kernel
@[simp] theorem kb_str_int : L2.kitB "str" "int" = some false := by decide +kernel
@[simp] theorem kb_str_bool : L2.kitB "str" "bool" = some false := by decide +kernel
@[simp] theorem kb_str_str : L2.kitB "str" "str" = some true := by decide +kernel
@[simp] theorem kb_str_list : L2.kitB "str" "list" = some false := by decide +kernel
@[simp] theorem kb_str_tuple : L2.kitB "str" "tuple" = some false := by decide +kernel
@[simp] theorem kb_tuple_int : L2.kitB "tuple" "int" = some false := by decide +kernel
@[simp] theorem kb_tuple_bool : L2.kitB "tuple" "bool" = some false := by decide +kernel
@[simp] theorem kb_tuple_str : L2.kitB "tuple" "str" = some false := by decide +kernel
@[simp] theorem kb_tuple_list : L2.kitB "tuple" "list" = some false := by decide +kernel
@[simp] theorem kb_tuple_tuple : L2.kitB "tuple" "tuple" = some true := by decide +kernel
@[simp] theorem kb_list_int : L2.kitB "list" "int" = some false := by decide +kernel
@[simp] theorem kb_list_bool : L2.kitB "list" "bool" = some false := by decide +kernel
@[simp] theorem kb_list_str : L2.kitB "list" "str" = some false := by decide +kernel
@[simp] theorem kb_list_list : L2.kitB "list" "list" = some true := by decide +kernel
@[simp] theorem kb_list_tuple : L2.kitB "list" "tuple" = some false := by decide +kernel
/-- a loop whose turns all go on -/
theorem loopS_inv {I : En → Prop} {b : BX} {g : SX} : ∀ {ds : List D} {ρ : En}, (∀ d ∈ ds, ∀ ρ, I ρ → ∃ ρ1, b d ρ = some ρ1 ∧ ∃ ρ2, g ρ1 = .nx ρ2 ∧ I ρ2) → I ρ → ∃ ρ', loopS b g ds ρ = .nx ρ' ∧ I ρ'
  | [], ρ, _, h => ⟨ρ, rfl, h⟩
  | d :: ds, ρ, H, h => by
    obtain ⟨ρ1, e1, ρ2, e2, h2⟩ := H d List.mem_cons_self ρ h
    obtain ⟨ρ', e3, h3⟩ := loopS_inv (fun d' m => H d' (List.mem_cons_of_mem _ m)) h2
    refine ⟨ρ', ?_, h3⟩
    unfold loopS
    simp only [e1, e2]
    exact e3
theorem loopS_cons {b : BX} {g : SX} {d : D} {ds : List D} {ρ ρ1 ρ2 : En} (e1 : b d ρ = some ρ1) (e2 : g ρ1 = .nx ρ2) : loopS b g (d :: ds) ρ = loopS b g ds ρ2 := by
  conv => lhs; unfold loopS
  simp only [e1, e2]
theorem loopS_cons_rt {b : BX} {g : SX} {d y : D} {ds : List D} {ρ ρ1 ρ2 : En} (e1 : b d ρ = some ρ1) (e2 : g ρ1 = .rt y ρ2) : loopS b g (d :: ds) ρ = .rt y ρ2 := by
  conv => lhs; unfold loopS
  simp only [e1, e2]
/-- a comprehension without a test whose element is a function of the item -/
theorem compL_map {vs : List Nat} {b : BX} {e : EX} {g : D → D} {ρ0 : En} : ∀ {ds acc : List D} {ρ : En}, (∀ d ∈ ds, ∃ ρ1, b d ρ0 = some ρ1 ∧ ∃ ρ2, e ρ1 = .ok (g d) ρ2 ∧ wipeE ρ2 vs = ρ0) → wipeE ρ vs = ρ0 → ∃ ρ', compL b (eC (.bl true)) e vs ds acc ρ = .ok (.lst (acc ++ ds.map g)) ρ' ∧ wipeE ρ' vs = ρ0
  | [], acc, ρ, _, h => ⟨ρ, by simp [compL], h⟩
  | d :: ds, acc, ρ, H, h => by
    obtain ⟨ρ1, e1, ρ2, e2, h2⟩ := H d List.mem_cons_self
    obtain ⟨ρ', e3, h3⟩ := compL_map (acc := acc ++ [g d]) (fun d' m => H d' (List.mem_cons_of_mem _ m)) h2
    refine ⟨ρ', ?_, h3⟩
    unfold compL
    simp only [h, e1, eC, Rs.bind, truth, e2, e3]
    simp
theorem eComp_map {it : IX} {b : BX} {e : EX} {vs : List Nat} {g : D → D} {ds : List D} {ρ ρ1 : En} (hi : it ρ = .ok ds ρ1) (hl : ds.length ≤ 1000000)
    (H : ∀ d ∈ ds, ∃ ρ2, b d (wipeE ρ1 vs) = some ρ2 ∧ ∃ ρ3, e ρ2 = .ok (g d) ρ3 ∧ wipeE ρ3 vs = wipeE ρ1 vs) : eComp it b (eC (.bl true)) e vs ρ = .ok (.lst (ds.map g)) (backE ρ1 (wipeE ρ1 vs) vs) := by
  obtain ⟨ρ', e1, h1⟩ := compL_map (acc := []) H rfl
  unfold eComp
  simp only [hi, hl, if_true, e1, h1, List.nil_append]
/-- a comprehension with a test -/
theorem compL_filt {vs : List Nat} {b : BX} {c e : EX} {p : D → Bool} {g : D → D} {ρ0 : En} : ∀ {ds acc : List D} {ρ : En}, (∀ d ∈ ds, ∃ ρ1, b d ρ0 = some ρ1 ∧ ∃ t ρ2, c ρ1 = .ok t ρ2 ∧ truth t = some (p d) ∧ (p d = false → wipeE ρ2 vs = ρ0) ∧ (p d = true → ∃ ρ3, e ρ2 = .ok (g d) ρ3 ∧ wipeE ρ3 vs = ρ0)) → wipeE ρ vs = ρ0 →
    ∃ ρ', compL b c e vs ds acc ρ = .ok (.lst (acc ++ (ds.filter p).map g)) ρ' ∧ wipeE ρ' vs = ρ0
  | [], acc, ρ, _, h => ⟨ρ, by simp [compL], h⟩
  | d :: ds, acc, ρ, H, h => by
    obtain ⟨ρ1, e1, t, ρ2, e2, ht, hf, hg⟩ := H d List.mem_cons_self
    cases q : p d with
    | false =>
      obtain ⟨ρ', e3, h3⟩ := compL_filt (acc := acc) (fun d' m => H d' (List.mem_cons_of_mem _ m)) (hf q)
      refine ⟨ρ', ?_, h3⟩
      unfold compL
      rw [q] at ht
      simp only [h, e1, Rs.bind, e2, ht, e3, List.filter_cons, q]
      simp
    | true =>
      obtain ⟨ρ3, e4, h4⟩ := hg q
      obtain ⟨ρ', e3, h3⟩ := compL_filt (acc := acc ++ [g d]) (fun d' m => H d' (List.mem_cons_of_mem _ m)) h4
      refine ⟨ρ', ?_, h3⟩
      unfold compL
      rw [q] at ht
      simp only [h, e1, Rs.bind, e2, ht, e4, e3, List.filter_cons, q]
      simp
theorem eComp_filt {it : IX} {b : BX} {c e : EX} {vs : List Nat} {p : D → Bool} {g : D → D} {ds : List D} {ρ ρ1 : En} (hi : it ρ = .ok ds ρ1) (hl : ds.length ≤ 1000000)
    (H : ∀ d ∈ ds, ∃ ρ2, b d (wipeE ρ1 vs) = some ρ2 ∧ ∃ t ρ3, c ρ2 = .ok t ρ3 ∧ truth t = some (p d) ∧ (p d = false → wipeE ρ3 vs = wipeE ρ1 vs) ∧ (p d = true → ∃ ρ4, e ρ3 = .ok (g d) ρ4 ∧ wipeE ρ4 vs = wipeE ρ1 vs)) :
    eComp it b c e vs ρ = .ok (.lst ((ds.filter p).map g)) (backE ρ1 (wipeE ρ1 vs) vs) := by
  obtain ⟨ρ', e1, h1⟩ := compL_filt (acc := []) H rfl
  unfold eComp
  simp only [hi, hl, if_true, e1, h1, List.nil_append]
/-! powers of ten that the laws name -/
def E30 : Int := 10 ^ 30
def E60 : Int := 10 ^ 60
def E600 : Int := 10 ^ 600
theorem E30_eq : E30 = 1000000000000000000000000000000 := by decide +kernel
theorem E60_pos : E30 < E60 := by decide +kernel
theorem E600_pos : E60 < E600 := by decide +kernel
@[simp] theorem pw6 : powM (.int 10) (.int 6) = some (.int 1000000) := by
  show (if powOk 10 6 = true then some (D.int ((10 : Int) ^ (6 : Int).toNat)) else none) = _
  rw [if_pos (by decide +kernel)]
  rfl
@[simp] theorem pw30 : powM (.int 10) (.int 30) = some (.int E30) := by
  show (if powOk 10 30 = true then some (D.int ((10 : Int) ^ (30 : Int).toNat)) else none) = _
  rw [if_pos (by decide +kernel)]
  rfl
@[simp] theorem pw60 : powM (.int 10) (.int 60) = some (.int E60) := by
  show (if powOk 10 60 = true then some (D.int ((10 : Int) ^ (60 : Int).toNat)) else none) = _
  rw [if_pos (by decide +kernel)]
  rfl
@[simp] theorem pw600 : powM (.int E60) (.int 10) = some (.int E600) := by
  have h : powOk E60 10 = true := by decide +kernel
  have e : E60 ^ (10 : Int).toNat = E600 := by decide +kernel
  show (if powOk E60 10 = true then some (D.int (E60 ^ (10 : Int).toNat)) else none) = _
  rw [if_pos h, e]
end MB

/-! Cells: what they hold at this moment; new ones. -/
namespace MB
open PySem PySem.Spec PyProof.Rows L2
/-- a value as it stands at this moment: data, or a cell's content -/
inductive LV (K : Kw) (O : Ow) (H : Hp) : V → D → Prop
  | dat {v : V} {d : D} : DV K (wo O H) v d → LV K O H v d
  | lst {a : Addr} {vs : List V} {ds : List D} : H a = some (.lst vs) → DVs K (wo O H) vs ds → LV K O H (.ref a) (.lst ds)
section
variable {K : Kw} {O : Ow} {H : Hp} {S : Store}
theorem LV.lst_of {v : V} {ds : List D} (h : LV K O H v (.lst ds)) : ∃ a vs, v = .ref a ∧ H a = some (.lst vs) ∧ DVs K (wo O H) vs ds := by
  cases h with
  | dat h =>
    obtain ⟨a, vs, e, s, t⟩ := h.lst_of
    exact ⟨a, vs, e, wo_same O H _ _ s, t⟩
  | lst s t => exact ⟨_, _, rfl, s, t⟩
theorem LV.tup_of {v : V} {ds : List D} (h : LV K O H v (.tup ds)) : ∃ a vs, v = .ref a ∧ SqT K.K (wo O H).h a vs ∧ DVs K (wo O H) vs ds := by
  cases h with
  | dat h => exact h.tup_of
theorem LV.int_of {v : V} {i : Int} (h : LV K O H v (.int i)) : v = .int i := by
  cases h with
  | dat h => exact h.int_of
theorem LV.str_of {v : V} {i : Str} (h : LV K O H v (.str i)) : v = .str i := by
  cases h with
  | dat h => exact h.str_of
theorem LV.bl_of {v : V} {i : Bool} (h : LV K O H v (.bl i)) : v = .bl i := by
  cases h with
  | dat h => exact h.bl_of
theorem LV.scr_of {v : V} {ns : List Int} (h : LV K O H v (.scr ns)) : DV K (wo O H) v (.scr ns) := by
  cases h with
  | dat h => exact h
/-- a cell's value: its address, what stands there -/
theorem Ce.get (r : Ce K O S H) {v : V} {n : Nat} {c : Cn} (h : DV K (wo O H) v (.ce n)) (e : S[n]? = some (some c)) : ∃ a o, v = .ref a ∧ O.th[n]? = some a ∧ H a = some o ∧ CnOk K (wo O H) a o c := by
  cases h with
  | ce q =>
    obtain ⟨o, e1, e2⟩ := r.ce n c _ e q
    exact ⟨_, o, rfl, q, e1, e2⟩
def see1 (S : Store) : D → D
  | .ce k => match S[k]? with
    | some (some (.lst ds)) => .lst ds
    | _ => .ce k
  | d => d
theorem see1_lv (r : Ce K O S H) {v : V} {d : D} (h : DV K (wo O H) v d) : LV K O H v (see1 S d) := by
  cases d <;> (try exact .dat h)
  rename_i k
  have e0 : see1 S (.ce k) = match S[k]? with
    | some (some (.lst ds)) => .lst ds
    | _ => .ce k := rfl
  rw [e0]
  split
  · rename_i ds e
    obtain ⟨a, o, rfl, _, e1, vs, rfl, t⟩ := r.get h e
    exact .lst e1 t
  · exact .dat h
/-- seen through to the ground; n: how deep -/
def seeD (S : Store) : Nat → D → D
  | 0, d => d
  | n + 1, .ce k => match S[k]? with
    | some (some (.lst ds)) => .lst (ds.map (seeD S n))
    | _ => .ce k
  | n + 1, .tup ds => .tup (ds.map (seeD S n))
  | n + 1, .lst ds => .lst (ds.map (seeD S n))
  | _ + 1, d => d
theorem dvs_map {z : Fz} {f : D → D} (hf : ∀ v d, DV K (wo O H) v d → DV K z v (f d)) : ∀ {vs : List V} {ds : List D}, DVs K (wo O H) vs ds → DVs K z vs (ds.map f)
  | _, _, .nil => .nil
  | _, _, .cons a t => .cons (hf _ _ a) (dvs_map hf t)
theorem see_al (r : Ce K O S H) : ∀ (n : Nat) (v : V) (d : D), DV K (wo O H) v d → DV K (al O H) v (seeD S n d)
  | 0, v, d, h => DV.mono (wo_al O H) _ _ h
  | n + 1, v, d, h => by
    cases d with
    | ce k =>
      show DV K (al O H) v (match S[k]? with
        | some (some (.lst ds)) => .lst (ds.map (seeD S n))
            | _ => .ce k)
      split
      · rename_i ds e
        obtain ⟨a, o, rfl, _, e1, vs, rfl, t⟩ := r.get h e
        exact .lst e1 (dvs_map (see_al r n) t)
      · exact DV.mono (wo_al O H) _ _ h
    | tup ds =>
      cases h with
      | tup a t => exact .tup (sqT_mono (wo_same O H) a) (dvs_map (see_al r n) t)
    | lst ds =>
      cases h with
      | lst a t => exact .lst (wo_same O H _ _ a) (dvs_map (see_al r n) t)
    | _ => exact DV.mono (wo_al O H) _ _ h
theorem al_wo (O : Ow) (H : Hp) : wo ⟨O.th, [], []⟩ H = al O H := by
  unfold wo al
  congr 1
def scal : D → Bool
  | .non => true | .bl _ => true | .int _ => true | .str _ => true | _ => false
theorem scal_any {z z' : Fz} {v : V} {d : D} (s : scal d = true) (h : DV K z v d) : DV K z' v d := by
  cases d <;> (try (cases s; done)) <;> cases h <;> constructor
end
/-! ### answers that are no things: over all that stands -/
def eBs (n : Nat) (op : D → D → Option D) (fa fb : EX) : EX := fun ρ => (fa ρ).bind fun d ρ1 => (fb ρ1).bind fun e ρ2 => match op (seeD ρ2.st n d) (seeD ρ2.st n e) with
  | some z => if scal z = true then .ok z ρ2 else .stuck
  | none => .stuck
theorem op2_al {K : Kw} {r : R2} {op : D → D → Option D} (ho : Op2 K r op) {O : Ow} {S : Store} {H : Hp} {x y : V} {d e z : D} {n : Nat} {Q : VK} (c : Ce K O S H) (hx : DV K (wo O H) x d) (hy : DV K (wo O H) y e) (q : op (seeD S n d) (seeD S n e) = some z) (sc : scal z = true)
    (hq : ∀ v H', Same H H' → DV K (wo O H') v z → Q v H') : r x y H Q := by
  refine ho ⟨O.th, [], []⟩ H x y _ _ z Q (fun a m => absurd (show a ∈ ([] : List Addr) from m) List.not_mem_nil) ?_ ?_ q fun v H' s dv => hq v H' s (scal_any sc dv)
  · rw [al_wo]; exact see_al c n _ _ hx
  · rw [al_wo]; exact see_al c n _ _ hy
theorem t_op2s {K : Kw} {hx : Hx} {W : WX} {r : R2} {op : D → D → Option D} {n : Nat} (ho : Op2 K r op) {fa fb : EX} {σ : MB.St} {H : Hp} {Q : VK} (h : tX K hx W (eBs n op fa fb) σ H Q) : tOp r (tX K hx W fa) (tX K hx W fb) σ H Q := by
  obtain ⟨F, ρ, ⟨O, r0⟩, hp⟩ := h
  refine bindX r0 hp fun d ρ1 v H1 O1 r1 s1 dv hp1 => ?_
  refine bindX r1 hp1 fun e ρ2 u H2 O2 r2 s2 du hp2 => ?_
  cases q : op (seeD ρ2.st n d) (seeD ρ2.st n e) with
  | none =>
    rw [q] at hp2
    exact hp2.elim
  | some z =>
    rw [q] at hp2
    have hp3 : Po K hx F W σ (if scal z = true then .ok z ρ2 else .stuck) Q := hp2
    split at hp3
    · rename_i sc
      exact op2_al ho r2.ce (DV.mono s2 _ _ dv) du q sc fun v' H' s' dv' => hp3 v' H' ⟨O2, r2.grow s', dv'⟩
    · exact hp3.elim
theorem t_op2sT {K : Kw} {hx : Hx} {W : WX} {r : R2} {op : D → D → Option D} {n : Nat} (ho : Op2 K r op) (hb : ∀ d e z, op d e = some z → ∃ b, z = .bl b) {fa fb : EX} {σ : MB.St} {H : Hp} {Q : Bool → Hp → Prop} (h : tT K hx W (eBs n op fa fb) σ H Q) :
    tTest (tOp r (tX K hx W fa) (tX K hx W fb)) σ H Q := by
  obtain ⟨F, ρ, ⟨O, r0⟩, hp⟩ := h
  refine bindXT r0 hp fun d ρ1 v H1 O1 r1 s1 dv hp1 => ?_
  refine bindXT r1 hp1 fun e ρ2 u H2 O2 r2 s2 du hp2 => ?_
  cases q : op (seeD ρ2.st n d) (seeD ρ2.st n e) with
  | none =>
    rw [q] at hp2
    exact hp2.elim
  | some z =>
    rw [q] at hp2
    obtain ⟨b, rfl⟩ := hb _ _ z q
    refine op2_al ho r2.ce (DV.mono s2 _ _ dv) du q rfl fun v' H' s' dv' => ?_
    cases dv'
    obtain ⟨b', hb', k⟩ := (show PoT K hx F W σ (.ok (.bl b) ρ2) Q from hp2)
    cases hb'
    exact ⟨b, rfl, k H' ⟨O2, r2.grow s'⟩⟩
def eCalls (n : Nat) (f : List D → Option D) (fs : List EX) : EX := evs fs fun ds ρ => match f (ds.map (seeD ρ.st n)) with
  | some d => if scal d = true then .ok d ρ else .stuck
  | none => .stuck
section
variable {X : Cx} {hx : Hx} {W : WX} {a b : Expr} {fa fb : EX} {pos : Pos} {n : Nat}
theorem rs_bin {op : Operator} {r : R2} {f : D → D → Option D} (ho : OpR X (binaryOp op) r) (h2 : Op2 X.kw r f) (ha : PE X a (tX X.kw hx W fa)) (hb : PE X b (tX X.kw hx W fb)) : PE X (.BinOp a op b pos) (tX X.kw hx W (eBs n f fa fb)) :=
  (pe_op ho ha hb).imp fun _ _ _ h => t_op2s h2 h
theorem rs_cmp {op : CmpOp} {r : R2} {f : D → D → Option D} (ho : OpR X (compareOp op) r) (h2 : Op2 X.kw r f) (ha : PE X a (tX X.kw hx W fa)) (hb : PE X b (tX X.kw hx W fb)) (hm : behindInMarks op b = false) : PE X (.Compare a [op] [b] pos) (tX X.kw hx W (eBs n f fa fb)) :=
  (pe_cmpR ho ha hb hm).imp fun _ _ _ h => t_op2s h2 h
theorem rs_cmpT {op : CmpOp} {r : R2} {f : D → D → Option D} (ho : OpR X (compareOp op) r) (h2 : Op2 X.kw r f) (hbl : ∀ d e z, f d e = some z → ∃ b, z = .bl b) (ha : PE X a (tX X.kw hx W fa)) (hb : PE X b (tX X.kw hx W fb)) (hm : behindInMarks op b = false) :
    PT X (.Compare a [op] [b] pos) (tT X.kw hx W (eBs n f fa fb)) :=
  (pt_cmpR ho ha hb hm).imp fun _ _ _ h => t_op2sT h2 hbl h
end
section
variable {X : Cx} {hx : Hx} {W : WX} {e : Expr} {es : List Expr} {fs : List EX} {pos p : Pos} {x : Str} {r : List V → Hp → VK → Prop} {f : List D → Option D} {n : Nat}
theorem t_calls (hf : CallD X.kw r f) {σ : MB.St} {H : Hp} {Q : VK} (h : tX X.kw hx W (eCalls n f fs) σ H Q) : tCB r (tA X.kw hx W fs) σ H Q := by
  obtain ⟨F, ρ, ⟨O, r0⟩, hp⟩ := h
  refine tA_of r0 hp fun F1 ds ρ1 vs H1 O1 _ r1 dvs q => ?_
  cases e : f (ds.map (seeD ρ1.st n)) with
  | none => rw [e] at q; exact q.elim
  | some d =>
    rw [e] at q
    have q2 : Po X.kw hx F1 W σ (if scal d = true then .ok d ρ1 else .stuck) Q := q
    split at q2
    · rename_i sc
      refine hf ⟨O1.th, [], []⟩ H1 vs _ d Q (fun a m => absurd (show a ∈ ([] : List Addr) from m) List.not_mem_nil) ?_ e fun v' H' s' dv' => q2 v' H' ⟨O1, r1.grow s', scal_any sc dv'⟩
      rw [al_wo]
      exact dvs_map (see_al r1.ce n) dvs
    · exact q2.elim
theorem rs_callB {id : String} (hc : CallR X (.builtin id) r) (hf : CallD X.kw r f) (hm : X.mg x = none) (hv : bootBuiltins x = some (.builtin id)) (ha : PA X (e :: es) (tA X.kw hx W fs)) (hg : Gl X x := by rfl) (hn : x ≠ "__name__" := by decide) (hdb : (x == ("__debug__" : Str)) = false := by decide)
    (he : starEach (e :: es) X.env = (false, eval e X.env) :: starEach es X.env := by rfl) (hpl : (backTo pos (starEach es X.env)).any (·.1) = false := by rfl) : PE X (.Call (.Name x p) (e :: es) [] pos) (tX X.kw hx W (eCalls n f fs)) :=
  (pe_callB hc hg hm hv ha hn hdb he hpl).imp fun _ _ _ h => t_calls hf h
end
/-- a test: a list's, a cell's truth -/
def eSee (n : Nat) (f : EX) : EX := fun ρ => (f ρ).bind fun d ρ1 => match truth (seeD ρ1.st n d) with
  | some b => .ok (.bl b) ρ1
  | none => .stuck
theorem rs_tru {X : Cx} {hx : Hx} {W : WX} {a : Expr} {fa : EX} {n : Nat} (ha : PE X a (tX X.kw hx W fa)) (he : ∀ whole, isTrue a X.env whole = (do let v ← whole; standAt a.pos; holding [v] (truthy v)) := by intro _; rfl) : PT X a (tT X.kw hx W (eSee n fa)) :=
  (pt_truth ha he).imp fun σ H Q h => by
    obtain ⟨F, ρ, ⟨O, r⟩, hp⟩ := h
    refine bindXT r hp fun d ρ1 v H1 O1 r1 s1 dv q => ?_
    cases e : truth (seeD ρ1.st n d) with
    | none => rw [e] at q; exact q.elim
    | some b =>
      rw [e] at q
      obtain ⟨b', hb', k⟩ := (show PoT X.kw hx F W σ (.ok (.bl b) ρ1) Q from q)
      cases hb'
      exact ⟨b, truV_of (see_al r1.ce n _ _ dv) e, k H1 ⟨O1, r1⟩⟩
/-! ### a new cell; a cell that is given up -/
section
variable {K : Kw} {hx : Hx} {F : Fm} {ρ : En} {σ : MB.St} {H : Hp} {O : Ow}
theorem RO.newC (r : RO K hx F ρ σ H O) {p : Addr} {o : HO} {c : Cn} (n : H p = none) (h : CnOk K ⟨(wo O H).h, O.th ++ [p]⟩ p o c) :
    ∃ O', RO K hx F ⟨ρ.sl, ρ.st ++ [some c]⟩ σ (upd H p o) O' ∧ DV K (wo O' (upd H p o)) (.ref p) (.ce ρ.st.length) ∧ FSame (wo O H) (wo O' (upd H p o)) := by
  obtain ⟨c1, s1⟩ := r.ce.new n h
  refine ⟨_, r.st s1 c1, .ce ?_, s1.fs⟩
  show (O.th ++ [p])[ρ.st.length]? = some p
  rw [r.ce.ln]
  simp
theorem RO.newL (r : RO K hx F ρ σ H O) {p : Addr} {vs : List V} {ds : List D} (n : H p = none) (h : DVs K (wo O H) vs ds) :
    ∃ O', RO K hx F ⟨ρ.sl, ρ.st ++ [some (.lst ds)]⟩ σ (upd H p (.lst vs)) O' ∧ DV K (wo O' (upd H p (.lst vs))) (.ref p) (.ce ρ.st.length) := by
  have fs : FSame (wo O H) ⟨(wo O H).h, O.th ++ [p]⟩ := ⟨Same.refl _, List.prefix_append _ _⟩
  obtain ⟨O', h1, h2, _⟩ := r.newC (c := .lst ds) (o := .lst vs) n ⟨vs, rfl, DVs.mono fs _ _ h⟩
  exact ⟨O', h1, h2⟩
theorem RO.wrC (r : RO K hx F ρ σ H O) {n : Nat} {c0 c : Cn} {a : Addr} {o : HO} (e1 : ρ.st[n]? = some (some c0)) (e2 : O.th[n]? = some a) (h : CnOk K (wo O H) a o c) :
    RO K hx F ⟨ρ.sl, ρ.st.set n (some c)⟩ σ (upd H a o) O ∧ FSame (wo O H) (wo O (upd H a o)) := by
  obtain ⟨c1, s1⟩ := r.ce.wr e1 e2 h
  exact ⟨r.st s1 c1, s1.fs⟩
end
/-- what an operation hands back: a value, or a new list -/
inductive Oc where
  | val (d : D) | new (ds : List D)
def OcP (K : Kw) (O : Ow) (H : Hp) (Q : VK) : Oc → Prop
  | .val d => ∀ v H', Same H H' → DV K (wo O H') v d → Q v H'
  | .new ds => ∀ p vs, H p = none → DVs K (wo O H) vs ds → Q (.ref p) (upd H p (.lst vs))
/-- m: may the new list be changed later -/
def outF (m : Bool) : Oc → En → Rs
  | .val d, ρ => .ok d ρ
  | .new ds, ρ => if m = true then .ok (.ce ρ.st.length) ⟨ρ.sl, ρ.st ++ [some (.lst ds)]⟩ else .ok (.lst ds) ρ
theorem ocP_of {K : Kw} {hx : Hx} {F : Fm} {W : WX} {ρ : En} {σ : MB.St} {H : Hp} {O : Ow} {Q : VK} {m : Bool} {z : Oc} (r : RO K hx F ρ σ H O) (hp : Po K hx F W σ (outF m z ρ) Q) : OcP K O H Q z := by
  cases z with
  | val d => exact fun v H' s dv => hp v H' ⟨O, r.grow s, dv⟩
  | new ds =>
    intro p vs np dvs
    cases m with
    | false => exact hp _ _ ⟨O, r.grow (same_upd np), DV.newL r.dom np dvs⟩
    | true =>
      obtain ⟨O', r', dv'⟩ := r.newL np dvs
      exact hp _ _ ⟨O', r', dv'⟩
def Op2F (K : Kw) (r : R2) (op : D → D → Option Oc) : Prop := ∀ (O : Ow) (H : Hp) (x y : V) (d e : D) (res : Oc) (Q : VK), (∀ a ∈ O, ∃ o, H a = some o) → LV K O H x d → LV K O H y e → op d e = some res → OcP K O H Q res → r x y H Q
def eBF (m : Bool) (op : D → D → Option Oc) (fa fb : EX) : EX := fun ρ => (fa ρ).bind fun d ρ1 => (fb ρ1).bind fun e ρ2 => match op (see1 ρ2.st d) (see1 ρ2.st e) with
  | some z => outF m z ρ2
  | none => .stuck
theorem t_op2F {K : Kw} {hx : Hx} {W : WX} {r : R2} {m : Bool} {op : D → D → Option Oc} (ho : Op2F K r op) {fa fb : EX} {σ : MB.St} {H : Hp} {Q : VK} (h : tX K hx W (eBF m op fa fb) σ H Q) : tOp r (tX K hx W fa) (tX K hx W fb) σ H Q := by
  obtain ⟨F, ρ, ⟨O, r0⟩, hp⟩ := h
  refine bindX r0 hp fun d ρ1 v H1 O1 r1 s1 dv hp1 => ?_
  refine bindX r1 hp1 fun e ρ2 u H2 O2 r2 s2 du hp2 => ?_
  cases q : op (see1 ρ2.st d) (see1 ρ2.st e) with
  | none =>
    rw [q] at hp2
    exact hp2.elim
  | some z =>
    rw [q] at hp2
    exact ho O2 H2 v u _ _ z Q r2.dom (see1_lv r2.ce (DV.mono s2 _ _ dv)) (see1_lv r2.ce du) q (ocP_of r2 hp2)
def CallF (K : Kw) (r : List V → Hp → VK → Prop) (f : D → Option Oc) : Prop := ∀ (O : Ow) (H : Hp) (v : V) (d : D) (res : Oc) (Q : VK), (∀ a ∈ O, ∃ o, H a = some o) → LV K O H v d → f d = some res → OcP K O H Q res → r [v] H Q
/-- a built-in of one argument -/
def eCallF (m : Bool) (f : D → Option Oc) (fa : EX) : EX := evs [fa] fun ds ρ => match ds with
  | [d] => match f (see1 ρ.st d) with
    | some z => outF m z ρ
    | none => .stuck
  | _ => .stuck
section
variable {X : Cx} {hx : Hx} {W : WX} {e : Expr} {fa : EX} {pos p : Pos} {x : Str} {r : List V → Hp → VK → Prop} {f : D → Option Oc} {m : Bool}
theorem t_callF (hf : CallF X.kw r f) {σ : MB.St} {H : Hp} {Q : VK} (h : tX X.kw hx W (eCallF m f fa) σ H Q) : tCB r (tA X.kw hx W [fa]) σ H Q := by
  obtain ⟨F, ρ, ⟨O, r0⟩, hp⟩ := h
  refine tA_of r0 hp fun F1 ds ρ1 vs H1 O1 ln r1 dvs q => ?_
  match ds, ln with
  | [d], _ =>
    obtain ⟨v, rfl, dv⟩ := dvs.one
    cases e : f (see1 ρ1.st d) with
    | none => simp only [e] at q; exact q.elim
    | some z =>
      simp only [e] at q
      exact hf O1 H1 v _ z Q r1.dom (see1_lv r1.ce dv) e (ocP_of r1 q)
theorem rf_callB {id : String} (hc : CallR X (.builtin id) r) (hf : CallF X.kw r f) (hm : X.mg x = none) (hv : bootBuiltins x = some (.builtin id)) (ha : PA X [e] (tA X.kw hx W [fa])) (hg : Gl X x := by rfl) (hn : x ≠ "__name__" := by decide) (hdb : (x == ("__debug__" : Str)) = false := by decide)
    (he : starEach [e] X.env = (false, eval e X.env) :: starEach [] X.env := by rfl) (hpl : (backTo pos (starEach [] X.env)).any (·.1) = false := by rfl) : PE X (.Call (.Name x p) [e] [] pos) (tX X.kw hx W (eCallF m f fa)) :=
  (pe_callB hc hg hm hv ha hn hdb he hpl).imp fun _ _ _ h => t_callF hf h
theorem rf_callTy {T : String} (hc : CallR X (.type T) r) (hf : CallF X.kw r f) (hm : X.mg x = none) (hv : bootBuiltins x = some (.type T)) (ha : PA X [e] (tA X.kw hx W [fa])) (hg : Gl X x := by rfl) (hn : x ≠ "__name__" := by decide) (hdb : (x == ("__debug__" : Str)) = false := by decide)
    (he : starEach [e] X.env = (false, eval e X.env) :: starEach [] X.env := by rfl) (hpl : (backTo pos (starEach [] X.env)).any (·.1) = false := by rfl) : PE X (.Call (.Name x p) [e] [] pos) (tX X.kw hx W (eCallF m f fa)) :=
  (pe_callTy hc hg hm hv ha hn hdb he hpl).imp fun _ _ _ h => t_callF hf h
end
/-! ### the operations -/
def addF : D → D → Option Oc
  | .lst xs, .lst ys => if xs.length + ys.length ≤ sizeLine then some (.new (xs ++ ys)) else none
  | d, e => (addD d e).map .val
theorem s_addF {K : Kw} : Op2F K (rAddD K.K) addF := by
  intro O H x y d e res Q hd hx hy h q
  have data : ∀ z, addD d e = some z → res = .val z → DV K (wo O H) x d → DV K (wo O H) y e → rAddD K.K x y H Q := fun z e1 e2 hx hy => by
    subst e2
    exact s_add O H x y d e z Q hd hx hy e1 q
  cases d <;> cases e <;> (try (cases h; done))
  · rename_i i j
    obtain ⟨z, e1, e2⟩ := Option.map_eq_some_iff.mp (show (addD (.int i) (.int j)).map Oc.val = some res from h)
    exact data z e1 e2.symm (by cases hx; assumption) (by cases hy; assumption)
  · rename_i i j
    obtain ⟨z, e1, e2⟩ := Option.map_eq_some_iff.mp (show (addD (.str i) (.str j)).map Oc.val = some res from h)
    exact data z e1 e2.symm (by cases hx; assumption) (by cases hy; assumption)
  · rename_i i j
    obtain ⟨z, e1, e2⟩ := Option.map_eq_some_iff.mp (show (addD (.tup i) (.tup j)).map Oc.val = some res from h)
    exact data z e1 e2.symm (by cases hx; assumption) (by cases hy; assumption)
  · rename_i xs ys
    have h' : (if xs.length + ys.length ≤ sizeLine then some (Oc.new (xs ++ ys)) else none) = some res := h
    split at h'
    · cases h'
      rename_i hl
      obtain ⟨a, vs, rfl, sa, da⟩ := hx.lst_of
      obtain ⟨b, ws, rfl, sb, db⟩ := hy.lst_of
      have la := da.length
      have lb := db.length
      exact .inr (.inr (.inl ⟨a, b, vs, ws, rfl, rfl, sa, sb, by omega, fun p np => q p _ np (da.append db)⟩))
    · cases h'
def mulF : D → D → Option Oc
  | .lst xs, .int k => if (-(2 ^ 63) ≤ k ∧ k < 2 ^ 63) ∧ xs.length * k.toNat ≤ sizeLine then some (.new (List.replicate k.toNat xs).flatten) else none
  | d, e => (mulD d e).map .val
theorem s_mulF {K : Kw} : Op2F K rMulD mulF := by
  intro O H x y d e res Q hd hx hy h q
  have data : ∀ z, mulD d e = some z → res = .val z → DV K (wo O H) x d → DV K (wo O H) y e → rMulD x y H Q := fun z e1 e2 hx hy => by
    subst e2
    exact s_mul O H x y d e z Q hd hx hy e1 q
  cases d <;> cases e <;> (try (cases h; done))
  · rename_i i j
    obtain ⟨z, e1, e2⟩ := Option.map_eq_some_iff.mp (show (mulD (.int i) (.int j)).map Oc.val = some res from h)
    exact data z e1 e2.symm (by cases hx; assumption) (by cases hy; assumption)
  · rename_i xs k
    have h' : (if (-(2 ^ 63) ≤ k ∧ k < 2 ^ 63) ∧ xs.length * k.toNat ≤ sizeLine then some (Oc.new (List.replicate k.toNat xs).flatten) else none) = some res := h
    split at h'
    · cases h'
      rename_i hl
      obtain ⟨a, vs, rfl, sa, da⟩ := hx.lst_of
      cases hy.int_of
      have la := da.length
      refine .inr (.inr ?_)
      exact ⟨a, k, vs, rfl, rfl, sa, hl.1.1, hl.1.2, by rw [la]; exact hl.2, fun p np => q p _ np (flat_rep da _)⟩
    · cases h'
def ixF : D → D → Option Oc := fun d e => (ixD d e).map .val
theorem s_ixF {K : Kw} : Op2F K (rIx K.K) ixF := by
  intro O H x y d e res Q hd hx hy h q
  obtain ⟨z, e1, rfl⟩ := Option.map_eq_some_iff.mp (show (ixD d e).map Oc.val = some res from h)
  cases hx with
  | dat hx =>
    cases e <;> (try (cases d <;> cases e1; done))
    exact s_ix O H x y d _ z Q hd hx (by cases hy; assumption) e1 q
  | lst s t =>
    cases e <;> (try (cases e1; done))
    rename_i i
    cases hy.int_of
    obtain ⟨v, e2, dv⟩ := atI_dvs t e1
    exact .inl ⟨_, _, i, v, rfl, rfl, .of s, e2, q _ H (Same.refl H) dv⟩
def listF : D → Option Oc
  | .lst xs => some (.new xs)
  | .tup xs => some (.new xs)
  | _ => none
theorem s_listF {K : Kw} : CallF K (fun xs H Q => ∃ p ys, xs = [.ref p] ∧ (SqL K.K H p ys ∨ SqT K.K H p ys) ∧ ∀ l, H l = none → Q (.ref l) (upd H l (.lst ys))) listF := by
  intro O H v d res Q hd hv h q
  cases d <;> (try (cases h; done))
  · cases h
    obtain ⟨a, ws, rfl, s, t⟩ := hv.tup_of
    exact ⟨a, ws, rfl, .inr (sqT_mono (wo_same O H) s), fun l nl => q l _ nl t⟩
  · cases h
    obtain ⟨a, ws, rfl, s, t⟩ := hv.lst_of
    exact ⟨a, ws, rfl, .inl (.of s), fun l nl => q l _ nl t⟩
def tupleF : D → Option Oc
  | .lst xs => some (.val (.tup xs))
  | .tup xs => some (.val (.tup xs))
  | _ => none
theorem s_tupleF {K : Kw} : CallF K (fun xs H Q => ∃ p ys, xs = [.ref p] ∧ ((SqL K.K H p ys ∧ ∀ l, H l = none → Q (.ref l) (upd H l (.tup ys))) ∨ (SqT K.K H p ys ∧ Q (.ref p) H))) tupleF := by
  intro O H v d res Q hd hv h q
  cases d <;> (try (cases h; done))
  · cases h
    obtain ⟨a, ws, rfl, s, t⟩ := hv.tup_of
    exact ⟨a, ws, rfl, .inr ⟨sqT_mono (wo_same O H) s, q _ H (Same.refl H) (.tup s t)⟩⟩
  · cases h
    obtain ⟨a, ws, rfl, s, t⟩ := hv.lst_of
    exact ⟨a, ws, rfl, .inl ⟨.of s, fun l nl => q _ _ (same_upd nl) (DV.newT hd nl t)⟩⟩
def sortedF : D → Option Oc
  | .lst xs => (asInts xs).map fun ns => .new ((sortI ns).map .int)
  | _ => none
theorem s_sortedF {K : Kw} : CallF K (rSortedI K.K) sortedF := by
  intro O H v d res Q hd hv h q
  cases d <;> (try (cases h; done))
  rename_i xs
  obtain ⟨ns, e1, rfl⟩ := Option.map_eq_some_iff.mp (show (asInts xs).map (fun ns => Oc.new ((sortI ns).map .int)) = some res from h)
  have e := asInts_ok e1
  subst e
  obtain ⟨a, ws, rfl, s, t⟩ := hv.lst_of
  have ew := t.ints
  subst ew
  refine ⟨a, ns, rfl, .of s, fun ns' p p1 p2 np => ?_⟩
  have e : ns' = sortI ns := sort_unique (p1.trans (sortI_perm ns).symm) p2 (sortI_sorted ns)
  subst e
  exact q p _ np (DVs.of_ints _)
/-- a slice -/
def slF : D → Option Int → Option Int → Option Oc
  | .lst xs, lo, hi => some (.new (cutD xs lo hi))
  | .scr ns, lo, hi => some (.new ((cutD ns lo hi).map .int))
  | d, lo, hi => (slD d lo hi).map .val
theorem s_slF {K : Kw} {O : Ow} {H : Hp} {x : V} {d : D} {res : Oc} {lo hi : Option Int} {Q : VK} (hd : ∀ a ∈ O, ∃ o, H a = some o) (hx : LV K O H x d) (h : slF d lo hi = some res) (q : OcP K O H Q res) : rSlM K.K x lo hi H Q := by
  cases d <;> (try (cases h; done))
  · rename_i i
    obtain ⟨z, e1, rfl⟩ := Option.map_eq_some_iff.mp (show (slD (.str i) lo hi).map Oc.val = some res from h)
    exact s_sl hd (by cases hx; assumption) e1 q
  · rename_i i
    obtain ⟨z, e1, rfl⟩ := Option.map_eq_some_iff.mp (show (slD (.tup i) lo hi).map Oc.val = some res from h)
    exact s_sl hd (by cases hx; assumption) e1 q
  · cases h
    obtain ⟨a, vs, rfl, s, t⟩ := hx.lst_of
    exact .inr (.inl ⟨a, vs, rfl, .of s, fun p np => q p _ np (t.cut lo hi)⟩)
  · cases h
    cases hx.scr_of with
    | scr s =>
      refine .inr (.inl ⟨_, _, rfl, (wo_same O H).seq s, fun p np => q p _ np ?_⟩)
      rename_i ns a
      have e : cutV (ns.map V.int) lo hi = (cutD ns lo hi).map V.int := cut_map V.int ns lo hi
      rw [e]
      exact DVs.of_ints _
def eSlF (m : Bool) (fa : EX) (lo hi : Option EX) : EX := fun ρ => (fa ρ).bind fun d ρ1 => eOpt lo (fun l => eOpt hi fun h ρ3 => match slF (see1 ρ3.st d) l h with
  | some z => outF m z ρ3
  | none => .stuck) ρ1
section
variable {X : Cx} {hx : Hx} {W : WX} {a b : Expr} {es : List Expr} {fa fb : EX} {fs : List EX} {pos : Pos} {m : Bool}
theorem rf_bin {op : Operator} {r : R2} {f : D → D → Option Oc} (ho : OpR X (binaryOp op) r) (h2 : Op2F X.kw r f) (ha : PE X a (tX X.kw hx W fa)) (hb : PE X b (tX X.kw hx W fb)) : PE X (.BinOp a op b pos) (tX X.kw hx W (eBF m f fa fb)) :=
  (pe_op ho ha hb).imp fun _ _ _ h => t_op2F h2 h
theorem rf_ix (ha : PE X a (tX X.kw hx W fa)) (hb : PE X b (tX X.kw hx W fb)) (hs : PlainIx b := by first | (intro _ _; rfl) | exact fun _ _ => rfl) : PE X (.Subscript a b pos) (tX X.kw hx W (eBF m ixF fa fb)) :=
  (pe_ix ix_seq ha hb hs).imp fun _ _ _ h => t_op2F s_ixF h
theorem rf_sl {lo hi : Option Expr} {fl fh : Option EX} {p2 : Pos} (ha : PE X a (tX X.kw hx W fa)) (hl : PO' X hx W lo fl) (hh : PO' X hx W hi fh) : PE X (.Subscript a (.Slice lo hi none p2) pos) (tX X.kw hx W (eSlF m fa fl fh)) :=
  (pe_slice sl_M ha hl.po hh.po).imp fun σ H Q h => by
    obtain ⟨F, ρ, ⟨O, r⟩, hp⟩ := h
    refine bindX r hp fun d ρ1 v H1 O1 r1 s1 dv hp1 => ?_
    refine optX r1 hp1 fun l ρ2 H2 O2 r2 s2 hp2 => ?_
    refine optX r2 hp2 fun u ρ3 H3 O3 r3 s3 hp3 => ?_
    cases e : slF (see1 ρ3.st d) l u with
    | none => rw [e] at hp3; exact hp3.elim
    | some z =>
      rw [e] at hp3
      exact s_slF r3.dom (see1_lv r3.ce (DV.mono (s2.trans s3) _ _ dv)) e (ocP_of r3 hp3)
/-- [a, b, ..] that may be changed later -/
def eLstM (fs : List EX) : EX := evs fs fun ds ρ => if ds.length ≤ 1000 then .ok (.ce ρ.st.length) ⟨ρ.sl, ρ.st ++ [some (.lst ds)]⟩ else .stuck
theorem r_lstM (h : PA X es (tA X.kw hx W fs)) : PE X (.List es pos) (tX X.kw hx W (eLstM fs)) := (pe_lst h).imp fun σ H Q h => by
  obtain ⟨F, ρ, ⟨O, r⟩, hp⟩ := h
  refine tA_of r hp fun F1 ds ρ1 vs H1 O1 _ r1 dvs q => ?_
  split at q
  · rename_i hl
    refine ⟨le_line (by rw [dvs.length]; exact hl), fun p np => ?_⟩
    obtain ⟨O', r', dv'⟩ := r1.newL np dvs
    exact q _ _ ⟨O', r', dv'⟩
  · exact q.elim
end
end MB

/-! Cells: methods that change a list, places read and written. -/
namespace MB
open PySem PySem.Spec PyProof.Rows L2
/-! ### pairs -/
section
variable {κ : Type} [DecidableEq κ]
def getA {β : Type} : List (κ × β) → κ → Option β
  | [], _ => none
  | (j, d) :: r, k => if j = k then some d else getA r k
def setA {β : Type} : List (κ × β) → κ → β → List (κ × β)
  | [], _, _ => []
  | (j, d) :: r, k, e => (if j = k then (j, e) else (j, d)) :: setA r k e
def putA {β : Type} (kvs : List (κ × β)) (k : κ) (d : β) : List (κ × β) := match getA kvs k with
  | some _ => setA kvs k d
  | none => kvs ++ [(k, d)]
variable {K : Kw} {z : Fz}
theorem DA.length {κ : Type} {K : Kw} {z : Fz} : ∀ {vs : List (κ × V)} {ds : List (κ × D)}, DA K z vs ds → vs.length = ds.length
  | _, _, .nil => rfl
  | _, _, .cons _ t => by rw [List.length_cons, List.length_cons, t.length]
theorem DA.get {k : κ} : ∀ {vs : List (κ × V)} {ds : List (κ × D)}, DA K z vs ds → (∀ d, getA ds k = some d → ∃ v, valV vs k = some v ∧ DV K z v d) ∧ (getA ds k = none → valV vs k = none)
  | _, _, .nil => ⟨fun d e => (nomatch e), fun _ => rfl⟩
  | _, _, .cons (k := j) (v := v) (d := e) (vs := vs) (ds := ds) a t => by
    obtain ⟨h1, h2⟩ := DA.get (k := k) t
    have e0 : getA ((j, e) :: ds) k = if j = k then some e else getA ds k := rfl
    rw [e0]
    by_cases h : j = k
    · rw [if_pos h, valV_pos (p := (j, v)) h]
      exact ⟨fun d q => by cases q; exact ⟨v, rfl, a⟩, fun q => (nomatch q)⟩
    · rw [if_neg h, valV_neg (p := (j, v)) h]
      exact ⟨h1, h2⟩
theorem DA.some {k : κ} {vs : List (κ × V)} {ds : List (κ × D)} {d : D} (h : DA K z vs ds) (e : getA ds k = some d) : ∃ v, valV vs k = some v ∧ DV K z v d := (h.get (k := k)).1 d e
theorem DA.none {k : κ} {vs : List (κ × V)} {ds : List (κ × D)} (h : DA K z vs ds) (e : getA ds k = none) : valV vs k = none := (h.get (k := k)).2 e
theorem DA.isSome {k : κ} {vs : List (κ × V)} {ds : List (κ × D)} (h : DA K z vs ds) : (valV vs k).isSome = (getA ds k).isSome := by
  cases e : getA ds k with
  | none => rw [h.none e]; rfl
  | some d =>
    obtain ⟨v, e1, _⟩ := h.some e
    rw [e1]
    rfl
theorem DA.setA {k : κ} {v : V} {d : D} (a : DV K z v d) : ∀ {vs : List (κ × V)} {ds : List (κ × D)}, DA K z vs ds → DA K z (vs.map fun kv => if kv.1 = k then (kv.1, v) else kv) (setA ds k d)
  | _, _, .nil => .nil
  | _, _, .cons (k := j) (v := w) (d := e) b t => by
    rw [List.map_cons]
    show DA K z ((if j = k then (j, v) else (j, w)) :: _) ((if j = k then (j, d) else (j, e)) :: _)
    by_cases h : j = k
    · rw [if_pos h, if_pos h]
      exact .cons a (DA.setA a t)
    · rw [if_neg h, if_neg h]
      exact .cons b (DA.setA a t)
theorem DA.app {κ : Type} {K : Kw} {z : Fz} {k : κ} {v : V} {d : D} (a : DV K z v d) : ∀ {vs : List (κ × V)} {ds : List (κ × D)}, DA K z vs ds → DA K z (vs ++ [(k, v)]) (ds ++ [(k, d)])
  | _, _, .nil => .cons a .nil
  | _, _, .cons b t => .cons b (DA.app a t)
theorem DA.put {k : κ} {v : V} {d : D} {vs : List (κ × V)} {ds : List (κ × D)} (h : DA K z vs ds) (a : DV K z v d) : DA K z (putK vs k v) (putA ds k d) := by
  unfold putK putA
  rw [valV_any, h.isSome]
  cases e : getA ds k with
  | none => exact h.app a
  | some x => exact h.setA a
end
/-- a list that may be changed -/
def lstAt (S : Store) : D → Option (Nat × List D)
  | .ce n => match S[n]? with
    | some (some (.lst ds)) => some (n, ds)
    | _ => none
  | _ => none
def dctAt (S : Store) : D → Option (Nat × List (L2.Key × D))
  | .ce n => match S[n]? with
    | some (some (.dct kvs)) => some (n, kvs)
    | _ => none
  | _ => none
section
variable {K : Kw} {O : Ow} {H : Hp} {S : Store}
theorem Ce.lstAt (r : Ce K O S H) {v : V} {d : D} {n : Nat} {ds : List D} (h : DV K (wo O H) v d) (e : lstAt S d = some (n, ds)) :
    S[n]? = some (some (.lst ds)) ∧ ∃ a vs, v = .ref a ∧ O.th[n]? = some a ∧ H a = some (.lst vs) ∧ DVs K (wo O H) vs ds := by
  cases d <;> (try (cases e; done))
  rename_i k
  have e1 : (match S[k]? with
    | some (some (.lst ds)) => some (k, ds)
    | _ => none) = some (n, ds) := e
  split at e1
  · rename_i ds' q
    cases e1
    obtain ⟨a, o, rfl, h1, h2, vs, rfl, t⟩ := r.get h q
    exact ⟨q, a, vs, rfl, h1, h2, t⟩
  · cases e1
theorem Ce.dctAt (r : Ce K O S H) {v : V} {d : D} {n : Nat} {kvs : List (L2.Key × D)} (h : DV K (wo O H) v d) (e : dctAt S d = some (n, kvs)) :
    S[n]? = some (some (.dct kvs)) ∧ ∃ a vs, v = .ref a ∧ O.th[n]? = some a ∧ H a = some (.dK vs) ∧ DA K (wo O H) vs kvs := by
  cases d <;> (try (cases e; done))
  rename_i k
  have e1 : (match S[k]? with
    | some (some (.dct kvs)) => some (k, kvs)
    | _ => none) = some (n, kvs) := e
  split at e1
  · rename_i ds' q
    cases e1
    obtain ⟨a, o, rfl, h1, h2, vs, rfl, t⟩ := r.get h q
    exact ⟨q, a, vs, rfl, h1, h2, t⟩
  · cases e1
end
/-! ### methods that change a list -/
def MutF (K : Kw) (r : V → List V → Hp → VK → Prop) (f : List D → List D → Option (D × List D)) : Prop := ∀ (O : Ow) (H : Hp) (a : Addr) (vs : List V) (ds : List D) (ws : List V) (es : List D) (res : D) (ds' : List D) (Q : VK),
  H a = some (.lst vs) → DVs K (wo O H) vs ds → DVs K (wo O H) ws es → f ds es = some (res, ds') → (∀ v vs', DV K (wo O H) v res → DVs K (wo O H) vs' ds' → Q v (upd H a (.lst vs'))) → r (.ref a) ws H Q
def eMut (f : List D → List D → Option (D × List D)) (fo : EX) (fs : List EX) : EX := fun ρ => (fo ρ).bind fun d ρ1 => match lstAt ρ1.st d with
  | some _ => evs fs (fun es ρ2 => match lstAt ρ2.st d with
    | some (n, ds) => match f ds es with
      | some (res, ds') => .ok res ⟨ρ2.sl, ρ2.st.set n (some (.lst ds'))⟩
      | none => .stuck
    | none => .stuck) ρ1
  | none => .stuck
theorem tA_of' {K : Kw} {hx : Hx} {W : WX} {fs : List EX} {F : Fm} {ρ : En} {σ : MB.St} {H : Hp} {O : Ow} {k : List D → En → Rs} {Q : VK} {Qa : List V → Hp → Prop} (r : RO K hx F ρ σ H O) (hp : Po K hx F W σ (evs fs k ρ) Q)
    (hk : ∀ (F1 : Fm) (ds : List D) (ρ1 : En) (vs : List V) (H1 : Hp) (O1 : Ow), ds.length = fs.length → FSame (wo O H) (wo O1 H1) → RO K hx F1 ρ1 σ H1 O1 → DVs K (wo O1 H1) vs ds → Po K hx F1 W σ (k ds ρ1) Q → Qa vs H1) : tA K hx W fs σ H Qa :=
  ⟨⟨O, H⟩, ρ, k, Q, ⟨O, r.re⟩, hp.fr r.fr, fun F1 ds ρ1 vs H1 O1 ln s1 r1 d1 p1 => hk F1 ds ρ1 vs H1 O1 ln (s1.trans r1.fr).fs r1 d1 p1⟩
theorem mut_core {K : Kw} {hx : Hx} {W : WX} {r : V → List V → Hp → VK → Prop} {f : List D → List D → Option (D × List D)} (hf : MutF K r f) {fo : EX} {fs : List EX} {σ : MB.St} {H : Hp} {Q : VK} (h : tX K hx W (eMut f fo fs) σ H Q) :
    tX K hx W fo σ H fun x H1 => tyV K.K "list" x H1 ∧ tA K hx W fs σ H1 fun xs H2 => r x xs H2 Q := by
  obtain ⟨F, ρ, ⟨O, r0⟩, hp⟩ := h
  refine bindX r0 hp fun d ρ1 v H1 O1 r1 s1 dv hp1 => ?_
  cases e : lstAt ρ1.st d with
  | none => rw [e] at hp1; exact hp1.elim
  | some q =>
    obtain ⟨n, ds⟩ := q
    rw [e] at hp1
    obtain ⟨_, a, vs, rfl, _, h1, _⟩ := r1.ce.lstAt dv e
    refine ⟨.inl ⟨rfl, vs, .inl (.inl h1)⟩, ?_⟩
    refine tA_of' r1 hp1 fun F1 es ρ2 ws H2 O2 _ s2 r2 dvs hp2 => ?_
    have dv2 := DV.mono s2 _ _ dv
    cases e2 : lstAt ρ2.st d with
    | none => simp only [e2] at hp2; exact hp2.elim
    | some q2 =>
      obtain ⟨n2, ds2⟩ := q2
      simp only [e2] at hp2
      obtain ⟨hS, a2, vs2, ea, hth, h2, t2⟩ := r2.ce.lstAt dv2 e2
      cases ea
      cases e3 : f ds2 es with
      | none => simp only [e3] at hp2; exact hp2.elim
      | some q3 =>
        obtain ⟨res, ds'⟩ := q3
        simp only [e3] at hp2
        refine hf O2 H2 a vs2 ds2 ws es res ds' Q h2 t2 dvs e3 fun v vs' dres dvs' => ?_
        obtain ⟨r3, s3⟩ := r2.wrC (c := .lst ds') (o := .lst vs') hS hth ⟨vs', rfl, dvs'⟩
        exact hp2 v _ ⟨O2, r3, DV.mono s3 _ _ dres⟩
section
variable {X : Cx} {hx : Hx} {W : WX} {o e : Expr} {es : List Expr} {fo : EX} {fs : List EX} {apos cpos : Pos} {name : Str} {id : String} {r : V → List V → Hp → VK → Prop} {f : List D → List D → Option (D × List D)}
theorem r_mut (slot : PySem.Slot "list" name id) (hty : typeOf (.builtin id) = pure (.type "method_descriptor")) (hm : MtR X id r) (hf : MutF X.kw r f) (ho : PE X o (tX X.kw hx W fo)) (ha : PA X (e :: es) (tA X.kw hx W fs))
    (hbase : attributeBase o name X.env (eval o X.env) = eval o X.env := by rfl)
    (hfew : ((backTo cpos (starEach (e :: es) X.env)).all (fun x => !x.1) && (backToKw cpos (keywordEach [] X.env)).all (fun x => x.1.isSome) && decide ((e :: es).length + ([] : List Keyword).length + (if ([] : List Keyword).isEmpty then 0 else 1) < 30)) = true := by rfl)
    (hline : (apos.endLine == cpos.line) = true := by rfl) (hs : starEach (e :: es) X.env = (false, eval e X.env) :: starEach es X.env := by rfl) (hplain : (backTo cpos (starEach es X.env)).any (·.1) = false := by rfl) :
    PE X (.Call (.Attribute o name apos) (e :: es) [] cpos) (tX X.kw hx W (eMut f fo fs)) :=
  (pe_bm PySem.F.plainAttrs_list slot hty hm ho ha hbase hfew hline hs hplain).imp fun σ H Q h => mut_core hf h
theorem r_mut0 (slot : PySem.Slot "list" name id) (hty : typeOf (.builtin id) = pure (.type "method_descriptor")) (hm : MtR X id r) (hf : MutF X.kw r f) (ho : PE X o (tX X.kw hx W fo))
    (hbase : attributeBase o name X.env (eval o X.env) = eval o X.env := by rfl) (hline : (apos.endLine == cpos.line) = true := by rfl) :
    PE X (.Call (.Attribute o name apos) [] [] cpos) (tX X.kw hx W (eMut f fo [])) :=
  (pe_bm0 PySem.F.plainAttrs_list slot hty hm ho hbase hline).imp fun σ H Q h => by
    obtain ⟨F, ρ, ⟨O, r0⟩, hp⟩ := h
    refine bindX r0 hp fun d ρ1 v H1 O1 r1 s1 dv hp1 => ?_
    cases e : lstAt ρ1.st d with
    | none => rw [e] at hp1; exact hp1.elim
    | some q =>
      obtain ⟨n, ds⟩ := q
      rw [e] at hp1
      obtain ⟨hS, a, vs, rfl, hth, h1, t⟩ := r1.ce.lstAt dv e
      refine ⟨.inl ⟨rfl, vs, .inl (.inl h1)⟩, ?_⟩
      have hp2 : Po X.kw hx F W σ (match lstAt ρ1.st d with
        | some (n, ds) => match f ds [] with
          | some (res, ds') => Rs.ok res ⟨ρ1.sl, ρ1.st.set n (some (.lst ds'))⟩
          | none => .stuck
        | none => .stuck) Q := hp1
      simp only [e] at hp2
      cases e3 : f ds [] with
      | none => simp only [e3] at hp2; exact hp2.elim
      | some q3 =>
        obtain ⟨res, ds'⟩ := q3
        simp only [e3] at hp2
        refine hf O1 H1 a vs ds [] [] res ds' Q h1 t .nil e3 fun v vs' dres dvs' => ?_
        obtain ⟨r3, s3⟩ := r1.wrC (c := .lst ds') (o := .lst vs') hS hth ⟨vs', rfl, dvs'⟩
        exact hp2 v _ ⟨O1, r3, DV.mono s3 _ _ dres⟩
end
def appF : List D → List D → Option (D × List D)
  | ds, [e] => if ds.length < sizeLine then some (.non, ds ++ [e]) else none
  | _, _ => none
theorem m_app {K : Kw} : MutF K rAppend appF := by
  intro O H a vs ds ws es res ds' Q h1 h2 h3 h4 q
  match es, h4 with
  | [e], h4 =>
    have h5 : (if ds.length < sizeLine then some (D.non, ds ++ [e]) else none) = some (res, ds') := h4
    split at h5
    · rename_i hl
      cases h5
      obtain ⟨v, rfl, dv⟩ := h3.one
      exact ⟨a, vs, v, rfl, rfl, h1, by rw [h2.length]; exact hl, q _ _ .non (h2.append (.cons dv .nil))⟩
    · cases h5
def popF : List D → List D → Option (D × List D)
  | ds, [] => (ds[ds.length - 1]?).map fun x => (x, ds.dropLast)
  | _, _ => none
theorem DVs.dropLast {K : Kw} {z : Fz} {vs : List V} {ds : List D} (h : DVs K z vs ds) : DVs K z vs.dropLast ds.dropLast := by
  rw [List.dropLast_eq_take, List.dropLast_eq_take, h.length]
  exact h.take _
theorem m_pop {K : Kw} : MutF K rPop popF := by
  intro O H a vs ds ws es res ds' Q h1 h2 h3 h4 q
  match es, h4 with
  | [], h4 =>
    obtain ⟨x, e1, e2⟩ := Option.map_eq_some_iff.mp (show (ds[ds.length - 1]?).map (fun x => (x, ds.dropLast)) = some (res, ds') from h4)
    cases e2
    cases h3
    obtain ⟨v, e3, dv⟩ := h2.get e1
    exact ⟨a, vs, v, rfl, rfl, h1, by rw [h2.length]; exact e3, q _ _ dv h2.dropLast⟩
def popAtF : List D → List D → Option (D × List D)
  | ds, [.int i] => if -(2 ^ 63) ≤ i ∧ i < 2 ^ 63 then (seqIndex? i ds.length).bind fun k => (ds[k]?).map fun x => (x, ds.eraseIdx k) else none
  | _, _ => none
theorem m_popAt {K : Kw} : MutF K rPopAt popAtF := by
  intro O H a vs ds ws es res ds' Q h1 h2 h3 h4 q
  match es, h4 with
  | [.int i], h4 =>
    have h5 : (if -(2 ^ 63) ≤ i ∧ i < 2 ^ 63 then (seqIndex? i ds.length).bind fun k => (ds[k]?).map fun x => (x, ds.eraseIdx k) else none) = some (res, ds') := h4
    split at h5
    · rename_i hl
      obtain ⟨k, e0, e4⟩ := Option.bind_eq_some_iff.mp h5
      obtain ⟨x, e1, e2⟩ := Option.map_eq_some_iff.mp e4
      cases e2
      obtain ⟨v, rfl, dv⟩ := h3.one
      cases dv
      obtain ⟨v, e3, dv⟩ := h2.get e1
      exact ⟨a, vs, i, k, v, rfl, rfl, h1, hl.1, hl.2, by rw [h2.length]; exact e0, e3, q _ _ dv (h2.erase k)⟩
    · cases h5
def revF : List D → List D → Option (D × List D)
  | ds, [] => some (.non, ds.reverse)
  | _, _ => none
theorem DVs.reverse {K : Kw} {z : Fz} : ∀ {vs : List V} {ds : List D}, DVs K z vs ds → DVs K z vs.reverse ds.reverse
  | _, _, .nil => .nil
  | _, _, .cons a t => by
    rw [List.reverse_cons, List.reverse_cons]
    exact t.reverse.append (.cons a .nil)
theorem m_rev {K : Kw} : MutF K rReverse revF := by
  intro O H a vs ds ws es res ds' Q h1 h2 h3 h4 q
  match es, h4 with
  | [], h4 =>
    cases h4
    cases h3
    exact ⟨a, vs, rfl, rfl, h1, q _ _ .non h2.reverse⟩
/-! ### places: lists, tuples, texts, dicts, cells of them -/
def keyD' : D → Option L2.Key
  | .int i => some (.inl i)
  | .str x => some (.inr x)
  | _ => none
theorem keyD'_ok {K : Kw} {z : Fz} {v : V} {d : D} {k : L2.Key} (h : DV K z v d) (e : keyD' d = some k) : v = kV k := by
  cases d <;> (try (cases e; done)) <;> cases h <;> cases e <;> rfl
def ixS (S : Store) (d e : D) : Option D := match dctAt S d with
  | some (_, kvs) => (keyD' e).bind fun k => getA kvs k
  | none => ixD (see1 S d) e
def rIxDK : R2 := fun x y H Q => ∃ a v, x = .ref a ∧ DGet H a y (some v) ∧ Q v H
theorem ix_dk {X : Cx} (hu : X.A.units + 1 < cLine) : IxR X rIxDK := by
  intro value slice pins s σ H x y v u Q I rx ry h hs
  obtain ⟨a, w, rfl, g, q⟩ := h
  obtain rfl : v = Value.ref a := rx
  exact tail_any (dict_typeIs I g) PySem.F.slot_dict_getitem.lookup (d_getItem hu I g ry fun w' s3 I3 rw' => ⟨w, H, I3, rw', q⟩) hs
def rIxA (K : Fg) : R2 := fun x y H Q => rIxDK x y H Q ∨ rIx K x y H Q
theorem ixS_ok {K : Kw} {O : Ow} {H : Hp} {S : Store} {x y : V} {d e z : D} {Q : VK} (c : Ce K O S H) (hx : DV K (wo O H) x d) (hy : DV K (wo O H) y e) (q : ixS S d e = some z) (hq : ∀ v H', Same H H' → DV K (wo O H') v z → Q v H') : rIxA K.K x y H Q := by
  unfold ixS at q
  cases e1 : dctAt S d with
  | some p =>
    obtain ⟨n, kvs⟩ := p
    rw [e1] at q
    obtain ⟨k, e2, e3⟩ := Option.bind_eq_some_iff.mp (show (keyD' e).bind (fun k => getA kvs k) = some z from q)
    obtain ⟨_, a, vs, rfl, _, h1, t⟩ := c.dctAt hx e1
    obtain ⟨w, h2, dw⟩ := t.some e3
    rw [keyD'_ok hy e2]
    exact .inl ⟨a, w, rfl, by rw [← h2]; exact DGet.k h1, hq w H (Same.refl H) dw⟩
  | none =>
    rw [e1] at q
    refine .inr (s_ixF O H x y _ e (.val z) Q c.dom (see1_lv c hx) (.dat hy) ?_ hq)
    show (ixD (see1 S d) e).map Oc.val = _
    rw [show ixD (see1 S d) e = some z from q]
    rfl
def eIxS (fa fb : EX) : EX := fun ρ => (fa ρ).bind fun d ρ1 => (fb ρ1).bind fun e ρ2 => match ixS ρ2.st d e with
  | some z => .ok z ρ2
  | none => .stuck
theorem r_ixS {X : Cx} {hx : Hx} {W : WX} {a b : Expr} {fa fb : EX} {pos : Pos} (hu : X.A.units + 1 < cLine) (ha : PE X a (tX X.kw hx W fa)) (hb : PE X b (tX X.kw hx W fb)) (hs : PlainIx b := by first | (intro _ _; rfl) | exact fun _ _ => rfl) : PE X (.Subscript a b pos) (tX X.kw hx W (eIxS fa fb)) :=
  (pe_ix ((ix_dk hu).or ix_seq) ha hb hs).imp fun σ H Q h => by
    obtain ⟨F, ρ, ⟨O, r0⟩, hp⟩ := h
    refine bindX r0 hp fun d ρ1 v H1 O1 r1 s1 dv hp1 => ?_
    refine bindX r1 hp1 fun e ρ2 u H2 O2 r2 s2 du hp2 => ?_
    cases q : ixS ρ2.st d e with
    | none => rw [q] at hp2; exact hp2.elim
    | some z =>
      rw [q] at hp2
      exact ixS_ok r2.ce (DV.mono s2 _ _ dv) du q fun v' H' s' dv' => hp2 v' H' ⟨O2, r2.grow s', dv'⟩
/-! ### o[k] = e -/
def putL (S : Store) (e : D) : Option (Nat × List D) → D → Option Store
  | some (n, ds), .int i => (ixN ds.length i).map fun j => S.set n (some (.lst (ds.set j e)))
  | _, _ => none
def putS (S : Store) (d k e : D) : Option Store := match dctAt S d with
  | some (n, kvs) => (keyD' k).bind fun z => if kvs.length < sizeLine then some (S.set n (some (.dct (putA kvs z e)))) else none
  | none => putL S e (lstAt S d) k
def rSetK : V → V → V → Hp → (Hp → Prop) → Prop := fun o i v H Q => ∃ a H', o = .ref a ∧ DPut H a i v H' ∧ Q H'
theorem set_dk {X : Cx} (hu : X.A.units + 1 < cLine) : PSet X rSetK := by
  intro pins s σ H o i v ov iv u Q I ro ri rv h
  obtain ⟨a, H', rfl, g, q⟩ := h
  obtain rfl : ov = Value.ref a := ro
  exact d_setItem hu I g ri rv fun s' I' => ⟨H', I', q⟩
def rSetA : V → V → V → Hp → (Hp → Prop) → Prop := fun o i v H Q => rSetK o i v H Q ∨ rSetL o i v H Q
theorem set_any {X : Cx} (hu : X.A.units + 1 < cLine) : PSet X rSetA := by
  intro pins s σ H o i v ov iv u Q I ro ri rv h
  rcases h with h | h
  · exact set_dk hu pins s σ H o i v ov iv u Q I ro ri rv h
  · exact set_list pins s σ H o i v ov iv u Q I ro ri rv h
theorem putS_ok {K : Kw} {hx : Hx} {F : Fm} {ρ : En} {σ : MB.St} {O : Ow} {H : Hp} {x y v : V} {d k e : D} {S' : Store} {Q : Hp → Prop} (r : RO K hx F ρ σ H O) (h1 : DV K (wo O H) x d) (h2 : DV K (wo O H) y k) (h3 : DV K (wo O H) v e) (q : putS ρ.st d k e = some S') (hq : ∀ H', RO K hx F ⟨ρ.sl, S'⟩ σ H' O → Q H') : rSetA x y v H Q := by
  unfold putS at q
  cases e1 : dctAt ρ.st d with
  | some p =>
    obtain ⟨n, kvs⟩ := p
    rw [e1] at q
    obtain ⟨z, e2, e3⟩ := Option.bind_eq_some_iff.mp (show (keyD' k).bind (fun z => if kvs.length < sizeLine then some (ρ.st.set n (some (.dct (putA kvs z e)))) else none) = some S' from q)
    split at e3
    · rename_i hl
      cases e3
      obtain ⟨hS, a, vs, rfl, hth, g1, t⟩ := r.ce.dctAt h1 e1
      rw [keyD'_ok h2 e2]
      obtain ⟨r3, _⟩ := r.wrC (c := .dct (putA kvs z e)) (o := .dK (putK vs z v)) hS hth ⟨_, rfl, t.put h3⟩
      exact .inl ⟨a, _, rfl, DPut.k g1 (by rw [t.length]; exact hl), hq _ r3⟩
    · cases e3
  | none =>
    rw [e1] at q
    have q2 : putL ρ.st e (lstAt ρ.st d) k = some S' := q
    cases e2 : lstAt ρ.st d with
    | none => rw [e2] at q2; cases q2
    | some p =>
      obtain ⟨n, ds⟩ := p
      rw [e2] at q2
      cases k <;> (try (cases q2; done))
      rename_i i
      obtain ⟨j, e3, e4⟩ := Option.map_eq_some_iff.mp (show (ixN ds.length i).map (fun j => ρ.st.set n (some (.lst (ds.set j e)))) = some S' from q2)
      cases e4
      obtain ⟨hS, a, vs, rfl, hth, g1, t⟩ := r.ce.lstAt h1 e2
      cases h2
      obtain ⟨r3, _⟩ := r.wrC (c := .lst (ds.set j e)) (o := .lst (vs.set j v)) hS hth ⟨_, rfl, t.set j h3⟩
      exact .inr ⟨a, vs, i, j, rfl, rfl, g1, by rw [t.length]; exact e3, hq _ r3⟩
def sPutS (fo fk fe : EX) : SX := fun ρ => (fe ρ).then fun e ρ1 => (fo ρ1).then fun d ρ2 => (fk ρ2).then fun k ρ3 => match putS ρ3.st d k e with
  | some S => .nx ⟨ρ3.sl, S⟩
  | none => .stuck
section
variable {X : Cx} {hx : Hx} {W : WX} {o e b : Expr} {fo fe fk : EX} {pos p2 : Pos}
theorem p_putS (hu : X.A.units + 1 < cLine) (he : PE X e (tX X.kw hx W fe)) (ho : PE X o (tX X.kw hx W fo)) (hb : PE X b (tX X.kw hx W fk))
    (ha : ∀ v, assign (.Subscript o b p2) X.env v = (do
      let ov ← holding [v] (eval o X.env)
      let iv ← holding [v, ov] (eval b X.env)
      standAt p2
      holding [v, ov, iv] (setItem ov iv v)
      release [v, ov, iv] []) := by intro _; rfl)
    (hs : swapsWith e (some (.Subscript o b p2)) pos.line X.env = pure false := by rfl) :
    PS X (.Assign [.Subscript o b p2] e pos) (tS X.kw hx W (sPutS fo fk fe)) :=
  (ps_asg he (pg_sub ho hb (set_any hu) ha) hs).imp fun D σ H h => by
    obtain ⟨F, ρ, ⟨O, r0⟩, hp⟩ := h
    refine bindS r0 hp fun d ρ1 u H1 O1 r1 du hp1 => ?_
    refine bindS (F := ⟨O1, H1⟩) r1.re (PoS.fr r1.fr hp1) fun x ρ2 w H2 O2 r2 dw hp2 => ?_
    refine bindS (F := ⟨O2, H2⟩) r2.re (PoS.fr r2.fr hp2) fun k ρ3 y H3 O3 r3 dy hp3 => ?_
    cases q : putS ρ3.st x k d with
    | none => rw [q] at hp3; exact hp3.elim
    | some S =>
      rw [q] at hp3
      exact putS_ok r3 (DV.mono r3.fr.fs _ _ dw) dy (DV.mono (r2.fr.trans r3.fr).fs _ _ du) q fun H' r' => hp3 σ H' ⟨O3, r'⟩
end
/-! ### o[k] op= e -/
def rGetL : V → V → Hp → VK → Prop := fun x y H Q => ∃ p xs i v, x = .ref p ∧ y = .int i ∧ H p = some (.lst xs) ∧ atI xs i = some v ∧ Q v H
theorem get_list {X : Cx} : PGet X rGetL := by
  intro pins s σ H o i ov iv Q I ro ri h
  obtain ⟨p, xs, i, z, rfl, rfl, hq, he, q⟩ := h
  cases ro
  obtain ⟨t, rfl⟩ := ri
  obtain ⟨its, r, pl, hz⟩ := I.list (.of hq)
  obtain ⟨j, h1, h2, h3, h4, h5⟩ := atI_get he
  obtain ⟨w, ew, rw'⟩ := r.get h2
  have hl := r.length
  have hn := line63
  have fin : EP X pins σ Q w s := ⟨z, H, I, rw', q⟩
  by_cases h0 : 0 ≤ i
  · have hj : i.toNat = j := by
      rw [seqIndex_of h0 h5] at h1
      exact Option.some.inj h1
    exact wpAny_getItem_list pl.isList h0 (by omega) (by rw [hj]; simpa using ew) fin
  · have hj : (i + (its.toArray.size : Int)).toNat = j := by
      rw [seqIndex_neg (by omega) h4] at h1
      rw [List.size_toArray, ← hl]
      exact Option.some.inj h1
    exact wpAny_getItem_list_neg pl.isList (by omega) (by rw [List.size_toArray] <;> omega) (by omega) (by rw [hj]; simpa using ew) fin
theorem get_dk {X : Cx} (hu : X.A.units + 1 < cLine) : PGet X rIxDK := by
  intro pins s σ H o i ov iv Q I ro ri h
  obtain ⟨a, w, rfl, g, q⟩ := h
  obtain rfl : ov = Value.ref a := ro
  exact d_getItem hu I g ri fun w' s3 I3 rw' => ⟨w, H, I3, rw', q⟩
def rGetA : V → V → Hp → VK → Prop := fun x y H Q => rIxDK x y H Q ∨ rGetL x y H Q
theorem get_any {X : Cx} (hu : X.A.units + 1 < cLine) : PGet X rGetA := by
  intro pins s σ H o i ov iv Q I ro ri h
  rcases h with h | h
  · exact get_dk hu pins s σ H o i ov iv Q I ro ri h
  · exact get_list pins s σ H o i ov iv Q I ro ri h
/-- a place of a cell, read -/
def getL : Option (Nat × List D) → D → Option D
  | some (_, ds), .int i => atI ds i
  | _, _ => none
def getS (S : Store) (d k : D) : Option D := match dctAt S d with
  | some (_, kvs) => (keyD' k).bind fun z => getA kvs z
  | none => getL (lstAt S d) k
theorem getS_ok {K : Kw} {O : Ow} {H : Hp} {S : Store} {x y : V} {d e z : D} {Q : VK} (c : Ce K O S H) (hx : DV K (wo O H) x d) (hy : DV K (wo O H) y e) (q : getS S d e = some z) (hq : ∀ v, DV K (wo O H) v z → Q v H) : rGetA x y H Q := by
  unfold getS at q
  cases e1 : dctAt S d with
  | some p =>
    obtain ⟨n, kvs⟩ := p
    rw [e1] at q
    obtain ⟨k, e2, e3⟩ := Option.bind_eq_some_iff.mp (show (keyD' e).bind (fun k => getA kvs k) = some z from q)
    obtain ⟨_, a, vs, rfl, _, h1, t⟩ := c.dctAt hx e1
    obtain ⟨w, h2, dw⟩ := t.some e3
    rw [keyD'_ok hy e2]
    exact .inl ⟨a, w, rfl, by rw [← h2]; exact DGet.k h1, hq w dw⟩
  | none =>
    rw [e1] at q
    have q2 : getL (lstAt S d) e = some z := q
    cases e2 : lstAt S d with
    | none => rw [e2] at q2; cases q2
    | some p =>
      obtain ⟨n, ds⟩ := p
      rw [e2] at q2
      cases e <;> (try (cases q2; done))
      rename_i i
      obtain ⟨_, a, vs, rfl, _, g1, t⟩ := c.lstAt hx e2
      cases hy
      obtain ⟨v, e3, dv⟩ := atI_dvs t (show atI ds i = some z from q2)
      exact .inr ⟨a, vs, i, v, rfl, rfl, g1, e3, hq v dv⟩
def sAugS (op : D → D → Option D) (fo fk fe : EX) : SX := fun ρ => (fo ρ).then fun d ρ1 => (fk ρ1).then fun k ρ2 => match getS ρ2.st d k with
  | some x => (fe ρ2).then fun y ρ3 => match op x y with
    | some z => match putS ρ3.st d k z with
      | some S => .nx ⟨ρ3.sl, S⟩
      | none => .stuck
    | none => .stuck
  | none => .stuck
section
variable {X : Cx} {hx : Hx} {W : WX} {o e b : Expr} {fo fe fk : EX} {pos p2 : Pos}
theorem p_augS {op : Operator} {r : R2} {g : D → D → Option D} (hu : X.A.units + 1 < cLine) (hop : PIp X op r) (h2 : Op2 X.kw r g) (ho : PE X o (tX X.kw hx W fo)) (hb : PE X b (tX X.kw hx W fk)) (he : PE X e (tX X.kw hx W fe))
    (ha : ∀ ov iv new, augStore b ov iv new = (do holding [new, ov, iv] (setItem ov iv new); release [new, ov, iv] []; pure .next) := by intros; rfl) :
    PS X (.AugAssign (.Subscript o b p2) op e pos) (tS X.kw hx W (sAugS g fo fk fe)) :=
  (ps_augS ho hb (get_any hu) he hop (set_any hu) ha).imp fun D σ H h => by
    obtain ⟨F, ρ, ⟨O, r0⟩, hp⟩ := h
    refine bindS r0 hp fun d ρ1 u H1 O1 r1 du hp1 => ?_
    refine bindS (F := ⟨O1, H1⟩) r1.re (PoS.fr r1.fr hp1) fun k ρ2 w H2 O2 r2 dw hp2 => ?_
    have du2 := DV.mono r2.fr.fs _ _ du
    cases q : getS ρ2.st d k with
    | none => rw [q] at hp2; exact hp2.elim
    | some x =>
      rw [q] at hp2
      refine getS_ok r2.ce du2 dw q fun xv dx => ?_
      refine bindS (F := ⟨O2, H2⟩) r2.re (PoS.fr r2.fr hp2) fun y ρ3 yv H3 O3 r3 dy hp3 => ?_
      have hp4 : PoS X.kw hx ⟨O2, H2⟩ W (match g x y with
        | some z => match putS ρ3.st d k z with
          | some S => .nx ⟨ρ3.sl, S⟩
          | none => .stuck
        | none => .stuck) D := hp3
      cases q2 : g x y with
      | none => rw [q2] at hp4; exact hp4.elim
      | some z =>
        rw [q2] at hp4
        refine h2 O3 H3 xv yv x y z _ r3.dom (DV.mono r3.fr.fs _ _ dx) dy q2 fun zv H4 s4 dz => ?_
        have r4 := r3.grow s4
        have hp5 : PoS X.kw hx ⟨O2, H2⟩ W (match putS ρ3.st d k z with
          | some S => Fl.nx ⟨ρ3.sl, S⟩
          | none => .stuck) D := hp4
        cases q3 : putS ρ3.st d k z with
        | none => rw [q3] at hp5; exact hp5.elim
        | some S =>
          rw [q3] at hp5
          exact putS_ok r4 (DV.mono r4.fr.fs _ _ du2) (DV.mono r4.fr.fs _ _ dw) dz q3 fun H' r' => hp5 σ H' ⟨O3, r'⟩
end
end MB

/-! A cell given up; while; sets of ints; in, len over cells of all kinds. -/
namespace MB
open PySem PySem.Spec PyProof.Rows L2
/-! ### a cell is given up: no step of the program -/
def froze (c : Cn) : Option D := match c with
  | .lst ds => some (.lst ds)
  | .dct kvs => some (.dct (kvs.map (·.1)) (kvs.map (·.2)))
  | .obj C fs => some (.obj C (fs.map (·.1)) (fs.map (·.2)))
  | _ => none
theorem DA.split {κ : Type} {K : Kw} {z : Fz} : ∀ {vs : List (κ × V)} {ds : List (κ × D)}, DA K z vs ds → vs = (ds.map (·.1)).zip (vs.map (·.2)) ∧ DVs K z (vs.map (·.2)) (ds.map (·.2))
  | _, _, .nil => ⟨rfl, .nil⟩
  | _, _, .cons a t => by
    obtain ⟨h1, h2⟩ := DA.split t
    exact ⟨by rw [List.map_cons, List.map_cons, List.zip_cons_cons, ← h1], .cons a h2⟩
theorem DF.split {K : Kw} {z : Fz} : ∀ {vs : List (Str × V)} {ds : List (Str × D)}, DF K z vs ds → vs = (ds.map (·.1)).zip (vs.map (·.2)) ∧ DVs K z (vs.map (·.2)) (ds.map (·.2))
  | _, _, .nil => ⟨rfl, .nil⟩
  | _, _, .cons a t => by
    obtain ⟨h1, h2⟩ := DF.split t
    exact ⟨by rw [List.map_cons, List.map_cons, List.zip_cons_cons, ← h1], .cons a h2⟩
/-- the value in slot i is a cell: from now on nobody changes it -/
def sFz (i : Nat) : SX := fun ρ => match ρ[i]? with
  | some (some (.val (.ce n))) => match ρ.st[n]? with
    | some (some c) => match froze c with
      | some d => .nx ⟨ρ.sl.set i (some (.val d)), ρ.st.set n none⟩
      | none => .stuck
    | _ => .stuck
  | _ => .stuck
theorem RO.fz {K : Kw} {hx : Hx} {F : Fm} {ρ : En} {σ : MB.St} {H : Hp} {O : Ow} (r : RO K hx F ρ σ H O) {i n : Nat} {c : Cn} {d : D} (e : ρ[i]? = some (some (.val (.ce n)))) (e1 : ρ.st[n]? = some (some c)) (e2 : froze c = some d) :
    ∃ O', RO K hx F ⟨ρ.sl.set i (some (.val d)), ρ.st.set n none⟩ σ H O' := by
  obtain ⟨v, ev, dv⟩ := r.sl i _ e
  obtain ⟨a, o, rfl, hth, h1, hc⟩ := r.ce.get (show DV K (wo O H) v (.ce n) from dv) e1
  obtain ⟨O', eth, c', s', hw⟩ := r.ce.fz e1 hth
  have r1 := r.st s' c'
  have dv' : DV K (wo O' H) (.ref a) d := by
    have hc' := hc.mono s'.fs
    rw [h1] at hw
    cases c with
    | lst ds =>
      cases e2
      obtain ⟨vs, rfl, t⟩ := hc'
      exact .lst hw t
    | dct kvs =>
      cases e2
      obtain ⟨vs, rfl, t⟩ := hc'
      obtain ⟨q1, q2⟩ := t.split
      exact .dct (by rw [← q1]; exact hw) (by rw [List.length_map, List.length_map, t.length]) q2
    | dcT kvs => cases e2
    | obj C fs =>
      cases e2
      obtain ⟨dx, vs, rfl, t⟩ := hc'
      obtain ⟨q1, q2⟩ := t.split
      have ln := q2.length
      exact .obj (by rw [← q1]; exact hw) (by rw [ln, List.length_map, List.length_map]) q2
    | set ns => cases e2
  refine ⟨O', r1.fr, r1.ce, by show (ρ.sl.set i _).length = _; simp [r.len], fun j x ej => ?_⟩
  rcases getset (show (ρ.sl.set i (some (.val d)))[j]? = some (some x) from ej) with ⟨g1, g2, _⟩ | ⟨_, g⟩
  · subst g1
    cases g2
    exact ⟨.ref a, ev, dv'⟩
  · exact r1.sl j x g
theorem t_fz {K : Kw} {hx : Hx} {W : WX} {i : Nat} {g : SX} {D : Ends} {σ : MB.St} {H : Hp} (h : tS K hx W (sSeq (sFz i) g) D σ H) : tS K hx W g D σ H := by
  obtain ⟨F, ρ, ⟨O, r⟩, hp⟩ := h
  unfold sSeq sFz at hp
  cases e : ρ[i]? with
  | none => rw [e] at hp; exact hp.elim
  | some o =>
    cases o with
    | none => rw [e] at hp; exact hp.elim
    | some sl =>
      rw [e] at hp
      cases sl with
      | exc y => exact hp.elim
      | val d =>
        cases d <;> (try exact hp.elim)
        rename_i n
        dsimp only at hp
        cases e1 : ρ.st[n]? with
        | none => rw [e1] at hp; exact hp.elim
        | some o =>
          cases o with
          | none => rw [e1] at hp; exact hp.elim
          | some c =>
            rw [e1] at hp
            dsimp only at hp
            cases e2 : froze c with
            | none => rw [e2] at hp; exact hp.elim
            | some d =>
              rw [e2] at hp
              exact ⟨F, _, r.fz e e1 e2, hp⟩
theorem p_fz {X : Cx} {hx : Hx} {W : WX} {st : Stmt} {g : SX} (i : Nat) (h : PS X st (tS X.kw hx W g)) : PS X st (tS X.kw hx W (sSeq (sFz i) g)) := h.imp fun _ _ _ q => t_fz q
/-! ### while -/
def whileS (c : EX) (g : SX) : Nat → SX
  | 0, _ => .stuck
  | k + 1, ρ => (c ρ).then fun d ρ1 => match truth d with
    | some true => match g ρ1 with
      | .nx ρ2 => whileS c g k ρ2
      | .ct ρ2 => whileS c g k ρ2
      | .bk ρ2 => .nx ρ2
      | r => r
    | some false => .nx ρ1
    | none => .stuck
def sWhile (N : Nat) (c : EX) (g : SX) : SX := whileS c g N
theorem p_while {X : Cx} {hx : Hx} {W : WX} {c : Expr} {body : List Stmt} {fc : EX} {g : SX} {pos : Pos} (N : Nat) (hp : PassesOwn (model X.prog X.w) X.A X.env X.xe) (hc : PT X c (tT X.kw hx W fc)) (hb : PSs X body (tS X.kw hx W g)) :
    PS X (.While c body [] pos) (tS X.kw hx W (sWhile N fc g)) := (ps_while hp hc hb).imp fun D σ H h => by
  obtain ⟨F, ρ, ⟨O, r⟩, hq⟩ := h
  refine ⟨fun m σ H => ∃ ρ O, RO X.kw hx ⟨O, H⟩ ρ σ H O ∧ Stp F.O F.H O H ∧ PoS X.kw hx F W (whileS fc g m ρ) D, ⟨N, ρ, O, r.re, r.fr, hq⟩, ?_⟩
  rintro m σ1 H1 ⟨ρ1, O1, r1, s1, hp1⟩
  cases m with
  | zero => exact hp1.elim
  | succ k =>
    have r1' : RO X.kw hx F ρ1 σ1 H1 O1 := r1.fr_of s1
    have hp2 : PoS X.kw hx F W ((fc ρ1).then fun d ρ1 => match truth d with
      | some true => match g ρ1 with
        | .nx ρ2 => whileS fc g k ρ2
        | .ct ρ2 => whileS fc g k ρ2
        | .bk ρ2 => .nx ρ2
        | r => r
      | some false => .nx ρ1
      | none => .stuck) D := hp1
    refine bindST r1' hp2 (fun d ρ2 q => ?_) fun d b ρ2 H2 O2 tb r2 q => ?_
    · cases t : truth d with
      | none => rw [t] at q; exact q.elim
      | some b => exact ⟨b, rfl⟩
    · rw [tb] at q
      cases b with
      | false =>
        rw [if_neg Bool.false_ne_true]
        exact q σ1 H2 ⟨O2, r2⟩
      | true =>
        rw [if_pos rfl]
        refine ⟨fun σ' H' => ∃ ρ' O', RO X.kw hx F ρ' σ' H' O' ∧ PoS X.kw hx F W (whileS fc g k ρ') D, fun σ' H' ⟨ρ', O', r', q'⟩ => ⟨k, Nat.lt_succ_self k, ρ', O', r'.re, r'.fr, q'⟩, ?_⟩
        refine ⟨F, ρ2, ⟨O2, r2⟩, ?_⟩
        have q' : PoS X.kw hx F W (match g ρ2 with
          | .nx ρ2 => whileS fc g k ρ2
          | .ct ρ2 => whileS fc g k ρ2
          | .bk ρ2 => .nx ρ2
          | r => r) D := q
        cases e4 : g ρ2 with
        | nx ρ5 =>
          rw [e4] at q'
          exact fun σ5 H5 ⟨O5, r5⟩ => ⟨ρ5, O5, r5, q'⟩
        | ct ρ5 =>
          rw [e4] at q'
          exact fun σ5 H5 ⟨O5, r5⟩ => ⟨ρ5, O5, r5, q'⟩
        | bk ρ5 => rw [e4] at q'; exact q'
        | rt d ρ5 => rw [e4] at q'; exact q'
        | err x ρ5 => rw [e4] at q'; exact q'
        | stuck => rw [e4] at q'; exact q'
/-! ### sets of ints -/
def setAt (S : Store) : D → Option (Nat × List Int)
  | .ce n => match S[n]? with
    | some (some (.set ns)) => some (n, ns)
    | _ => none
  | _ => none
theorem Ce.setAt {K : Kw} {O : Ow} {H : Hp} {S : Store} (r : Ce K O S H) {v : V} {d : D} {n : Nat} {ns : List Int} (h : DV K (wo O H) v d) (e : setAt S d = some (n, ns)) :
    S[n]? = some (some (.set ns)) ∧ ∃ a, v = .ref a ∧ O.th[n]? = some a ∧ H a = some (SetO K.w a (fun j => decide (j ∈ ns)) ns.length) := by
  cases d <;> (try (cases e; done))
  rename_i k
  have e1 : (match S[k]? with
    | some (some (.set ns)) => some (k, ns)
    | _ => none) = some (n, ns) := e
  split at e1
  · rename_i ds' q
    cases e1
    obtain ⟨a, o, rfl, h1, h2, hc⟩ := r.get h q
    exact ⟨q, a, rfl, h1, by rw [h2]; exact congrArg some hc⟩
  · cases e1
/-- set() -/
def eSet0 : EX := fun ρ => .ok (.ce ρ.st.length) ⟨ρ.sl, ρ.st ++ [some (.set [])]⟩
def addI (ns : List Int) (k : Int) : List Int := if k ∈ ns then ns else ns ++ [k]
def eSAdd (fo fe : EX) : EX := fun ρ => (fo ρ).bind fun d ρ1 => match setAt ρ1.st d with
  | some _ => evs [fe] (fun es ρ2 => match es with
    | [.int k] => match setAt ρ2.st d with
      | some (n, ns) => if ns.length + 1 < scanBound then .ok .non ⟨ρ2.sl, ρ2.st.set n (some (.set (addI ns k)))⟩ else .stuck
      | none => .stuck
    | _ => .stuck) ρ1
  | none => .stuck
section
variable {X : Cx} {hx : Hx} {W : WX} {o e : Expr} {fo fe : EX} {apos cpos pos p : Pos}
theorem setO_congr {w : World} {a : Addr} {S S' : Int → Bool} {n n' : Nat} (h : ∀ j, S j = S' j) (e : n = n') : SetO w a S n = SetO w a S' n' := by
  rw [funext h, e]
theorem r_set0 (hm : X.mg "set" = none) (hg : Gl X "set" := by rfl) : PE X (.Call (.Name "set" p) [] [] pos) (tX X.kw hx W eSet0) :=
  (pe_callTy0 cr_set0 hg hm (by decide +kernel)).imp fun σ H Q h => by
    obtain ⟨F, ρ, ⟨O, r⟩, hp⟩ := h
    refine ⟨rfl, fun p np => ?_⟩
    obtain ⟨O', r', dv', _⟩ := r.newC (c := .set []) (o := SetO X.w p (fun _ => false) 0) np (setO_congr (fun j => by simp) rfl)
    exact hp _ _ ⟨O', r', dv'⟩
theorem r_sadd (ho : PE X o (tX X.kw hx W fo)) (ha : PA X [e] (tA X.kw hx W [fe]))
    (hbase : attributeBase o "add" X.env (eval o X.env) = eval o X.env := by rfl)
    (hfew : ((backTo cpos (starEach [e] X.env)).all (fun x => !x.1) && (backToKw cpos (keywordEach [] X.env)).all (fun x => x.1.isSome) && decide ([e].length + ([] : List Keyword).length + (if ([] : List Keyword).isEmpty then 0 else 1) < 30)) = true := by rfl)
    (hline : (apos.endLine == cpos.line) = true := by rfl) (hs : starEach [e] X.env = (false, eval e X.env) :: starEach [] X.env := by rfl) (hplain : (backTo cpos (starEach [] X.env)).any (·.1) = false := by rfl) :
    PE X (.Call (.Attribute o "add" apos) [e] [] cpos) (tX X.kw hx W (eSAdd fo fe)) :=
  (pe_sadd ho ha hbase hfew hline hs hplain).imp fun σ H Q h => by
    obtain ⟨F, ρ, ⟨O, r0⟩, hp⟩ := h
    refine bindX r0 hp fun d ρ1 v H1 O1 r1 s1 dv hp1 => ?_
    cases e : setAt ρ1.st d with
    | none => rw [e] at hp1; exact hp1.elim
    | some q =>
      obtain ⟨n, ns⟩ := q
      rw [e] at hp1
      obtain ⟨_, a, rfl, _, h1⟩ := r1.ce.setAt dv e
      refine ⟨⟨a, _, _, rfl, h1⟩, ?_⟩
      refine tA_of' r1 hp1 fun F1 es ρ2 ws H2 O2 _ s2 r2 dvs hp2 => ?_
      have dv2 := DV.mono s2 _ _ dv
      match es, dvs, hp2 with
      | [.int k], .cons (.int _) .nil, hp2 =>
        have hp3 : Po X.kw hx F1 W σ (match setAt ρ2.st d with
          | some (n, ns) => if ns.length + 1 < scanBound then Rs.ok .non ⟨ρ2.sl, ρ2.st.set n (some (.set (addI ns k)))⟩ else .stuck
          | none => .stuck) Q := hp2
        cases e2 : setAt ρ2.st d with
        | none => rw [e2] at hp3; exact hp3.elim
        | some q2 =>
          obtain ⟨n2, ns2⟩ := q2
          rw [e2] at hp3
          have hp4 : Po X.kw hx F1 W σ (if ns2.length + 1 < scanBound then Rs.ok .non ⟨ρ2.sl, ρ2.st.set n2 (some (.set (addI ns2 k)))⟩ else .stuck) Q := hp3
          split at hp4
          · rename_i hl
            obtain ⟨hS, a2, ea, hth, h2⟩ := r2.ce.setAt dv2 e2
            cases ea
            refine ⟨a, k, _, _, rfl, rfl, h2, hl, ?_⟩
            have ex : CnOk X.kw (wo O2 H2) a (SetO X.w a (fun j => decide (j ∈ ns2) || decide (j = k)) (if (decide (k ∈ ns2)) = true then ns2.length else ns2.length + 1)) (.set (addI ns2 k)) := by
              refine setO_congr (fun j => ?_) ?_
              · unfold addI
                by_cases h : k ∈ ns2
                · rw [if_pos h]
                  by_cases h3 : j = k
                  · subst h3; simp [h]
                  · simp [h3]
                · rw [if_neg h]
                  simp
              · unfold addI
                by_cases h : k ∈ ns2
                · rw [if_pos h]; simp [h]
                · rw [if_neg h]; simp [h]
            obtain ⟨r3, _⟩ := r2.wrC hS hth ex
            exact hp4 _ _ ⟨O2, r3, .non⟩
          · exact hp4.elim
end
/-! ### in, not in; len -/
def inS (n : Nat) (S : Store) (d e : D) : Option D := match setAt S e, d with
  | some (_, ns), .int k => some (.bl (decide (k ∈ ns)))
  | some _, _ => none
  | none, _ => match dctAt S e with
    | some (_, kvs) => (keyD' d).map fun k => .bl (getA kvs k).isSome
    | none => inM (seeD S n d) (seeD S n e)
def rDIn : R2 := fun x y H Q => ∃ a o, y = .ref a ∧ DGet H a x o ∧ Q (.bl o.isSome) H
def rDNotIn : R2 := fun x y H Q => ∃ a o, y = .ref a ∧ DGet H a x o ∧ Q (.bl (!o.isSome)) H
theorem op_din {X : Cx} (hu : X.A.units + 1 < cLine) : OpR X (compareOp .In) rDIn := by
  intro pins s σ H x y v u Q I rx ry h
  obtain ⟨a, o, rfl, g, q⟩ := h
  obtain rfl : u = Value.ref a := ry
  exact d_in hu I g rx fun s' I' => ⟨.bl o.isSome, H, I', rfl, q⟩
theorem op_dnotin {X : Cx} (hu : X.A.units + 1 < cLine) : OpR X (compareOp .NotIn) rDNotIn := by
  intro pins s σ H x y v u Q I rx ry h
  obtain ⟨a, o, rfl, g, q⟩ := h
  obtain rfl : u = Value.ref a := ry
  exact d_notIn hu I g rx fun s' I' => ⟨.bl (!o.isSome), H, I', rfl, q⟩
def rInA (w : World) (K : Fg) : R2 := fun x y H Q => rSIn w x y H Q ∨ rDIn x y H Q ∨ rInM K x y H Q
theorem o_inA {X : Cx} (hu : X.A.units + 65 < cLine) : OpR X (compareOp .In) (rInA X.w X.K) := or_sin.or ((op_din (by omega)).or (o_inM hu))
def notD : D → D
  | .bl b => .bl (!b)
  | d => d
theorem inS_ok {K : Kw} {O : Ow} {H : Hp} {S : Store} {x y : V} {d e z : D} {n : Nat} {Q : VK} (c : Ce K O S H) (hx : DV K (wo O H) x d) (hy : DV K (wo O H) y e) (q : inS n S d e = some z) (hq : ∀ v, DV K (wo O H) v z → Q v H) (hq2 : ∀ v H', Same H H' → DV K (wo O H') v z → Q v H') : rInA K.w K.K x y H Q := by
  unfold inS at q
  cases e1 : setAt S e with
  | some p =>
    obtain ⟨m, ns⟩ := p
    rw [e1] at q
    cases d <;> (try (cases q; done))
    rename_i k
    cases q
    obtain ⟨_, a, rfl, _, h1⟩ := c.setAt hy e1
    cases hx
    exact .inl ⟨k, a, _, _, rfl, rfl, h1, hq _ (.bl _)⟩
  | none =>
    rw [e1] at q
    have q2 : (match dctAt S e with
      | some (_, kvs) => (keyD' d).map fun k => D.bl (getA kvs k).isSome
      | none => inM (seeD S n d) (seeD S n e)) = some z := q
    cases e2 : dctAt S e with
    | some p =>
      obtain ⟨m, kvs⟩ := p
      rw [e2] at q2
      obtain ⟨k, e3, e4⟩ := Option.map_eq_some_iff.mp (show (keyD' d).map (fun k => D.bl (getA kvs k).isSome) = some z from q2)
      cases e4
      obtain ⟨_, a, vs, rfl, _, h1, t⟩ := c.dctAt hy e2
      rw [keyD'_ok hx e3]
      refine .inr (.inl ⟨a, _, rfl, DGet.k h1, ?_⟩)
      rw [t.isSome]
      exact hq _ (.bl _)
    | none =>
      rw [e2] at q2
      have q3 : inM (seeD S n d) (seeD S n e) = some z := q2
      obtain ⟨b, rfl⟩ := b_inM _ _ _ q3
      exact .inr (.inr (op2_al s_inM c hx hy q3 rfl hq2))
def eInA (n : Nat) (fa fb : EX) : EX := fun ρ => (fa ρ).bind fun d ρ1 => (fb ρ1).bind fun e ρ2 => match inS n ρ2.st d e with
  | some z => .ok z ρ2
  | none => .stuck
end MB

/-! Several except clauses, each with a name. -/
namespace MB
open PySem PySem.Spec PyProof.Rows L2
/-- behind a suite: its name is gone -/
def gonE (i : Nat) (D : Ends) : Ends := ⟨fun σ H => D.nx (σ.set i none) H, D.rt, fun σ H => D.bk (σ.set i none) H, fun σ H => D.ct (σ.set i none) H⟩
/-- a clause: what it catches, its name's slot, its suite -/
structure Clz where
  c : Value
  i : Nat
  ts : Addr → Value → Option Addr → TS
def wClz (K : Fg) (Wo : WX) (D : Ends) : List Clz → WX
  | [] => Wo
  | z :: r => fun cls dd σ H => ∃ b, PySem.W.exmOne K cls z.c = some b ∧ (b = true → ∀ p, H p = none → z.ts p cls dd (gonE z.i D) (σ.set z.i (some (.ref p))) H) ∧ (b = false → wClz K Wo D r cls dd σ H)
inductive ClzOk (X : Cx) : List ExceptHandler → List Clz → Prop
  | nil : ClzOk X [] []
  | cons {x n : Str} {b0 : Stmt} {su : List Stmt} {q q' : Pos} {hs : List ExceptHandler} {l : List Clz} {z : Clz} (hi : X.N[z.i]? = some n) (hl : X.env.kindOf n = some .local) (hc : Names X x z.c)
      (run : ∀ (p : Addr) (o : Obj) (cls : Value) (dd : Option Addr) (pn : List (Addr × Obj)), L2N.Zn cls dd o → (∃ vs, o.data = .fields vs) → PSs (X.suite p ((p, o) :: pn)) (b0 :: su) (z.ts p cls dd)) (r : ClzOk X hs l) :
      ClzOk X (.ExceptHandler (some (.Name x q)) (some n) (b0 :: su) q' :: hs) (z :: l)

theorem ps_tryZ {X : Cx} {body : List Stmt} {hd : ExceptHandler} {hs : List ExceptHandler} {l : List Clz} {pos : Pos} {tb : WX → TS} {Wo : WX} (est : X.stack = X.env :: X.outer) (efr : X.env.frame = some X.env.locals) (nd : X.N.Nodup) (tk : L2N.Takes X Wo)
    (bod : ∀ (W : WX) (pn : List (Addr × Obj)) (xe : Value → Shared → Prop), L2N.Takes (X.tr pn xe) W → PassesOwn (model X.prog X.w) X.A X.env xe → PSs (X.tr pn xe) body (tb W))
    (cl : ClzOk X (hd :: hs) l) : PS X (.Try body (hd :: hs) [] [] pos) (fun D σ H => tb (wClz X.K Wo D l) D σ H) := by
  constructor
  intro pins s σ H D I hq
  have ok := I.ok
  have frm : X.A.frames = some (X.env :: X.outer) := ok.frames.trans (congrArg some est)
  let out : Value → Shared → Prop := fun e t0 => wpAny (model X.prog X.w) X.A (noteFrame e X.env) (fun _ t1 => wpAny (model X.prog X.w) X.A (setFlight e none) (fun _ t2 => wpAny (model X.prog X.w) X.A (handleBy e X.env (hd :: hs)) (SP X pins D) X.xe t2) X.xe t1) X.xe t0
  have main := (bod (wClz X.K Wo D l) (X.pn ++ pins) out (fun u t caught => ?_) PassesOwn.looking).run [] s σ H D (I.toTry _) hq
  · refine wpAny_Try_except (wpAny_mono main (fun fl t1 hsp => ?_) fun e t1 z => z)
    cases fl with
    | next => exact wpAny_execs_nil (hsp.elim fun σ1 h => h.elim fun H1 h => ⟨σ1, H1, h.1.ofTry ok, h.2⟩)
    | brk => exact hsp.elim fun σ1 h => h.elim fun H1 h => ⟨σ1, H1, h.1.ofTry ok, h.2⟩
    | cont => exact hsp.elim fun σ1 h => h.elim fun H1 h => ⟨σ1, H1, h.1.ofTry ok, h.2⟩
    | ret u =>
      obtain ⟨v, σ1, H1, J1, rv, q⟩ := hsp
      exact ⟨v, σ1, H1, J1.ofTry ok, rv, q⟩
  -- an exception came out of the body
  obtain ⟨p, B, t0, pins0, σ1, H1, cls, dd, rfl, J0, nb, up0, sky, np, os, ag, w⟩ := caught
  have J := J0.ofTry ok
  rw [est] at sky
  show wpAny (model X.prog X.w) X.A (noteFrame (.ref p) X.env) _ _ _
  refine L2N.Sky.land L2N.Zn.steady frm efr sky fun hA la uA => ?_
  have JA : Inv X pins σ1 H1 { t with heap := hA } := J.landed nb la.1 (up0.trans uA) os ag
  obtain ⟨oA, vA, eA, zA, fA⟩ := la.there
  have apart : p ∉ frs (X.env :: X.outer) := fun m => by
    obtain ⟨_, o', e', nf⟩ := la.2.2.1.mem m
    cases eA.symm.trans e'
    exact nf _ fA
  have nLoc : p ≠ X.env.locals := fun z => apart (List.mem_filterMap.mpr ⟨X.env, List.mem_cons_self, by rw [efr, z]⟩)
  have nFs : p ∉ X.fs := fun m => by
    obtain ⟨e, me, q⟩ := List.mem_filterMap.mp m
    exact apart (List.mem_filterMap.mpr ⟨e, List.mem_cons_of_mem _ me, q⟩)
  have SA := JA.suite eA fA np nLoc nFs
  have looks : PySem.W.Looks (model X.prog X.w) hA (typeOf (.ref p)) cls := fun A Q E t k q => wpAny_typeOf_ref (k _ _ eA) (by rw [zA.1]; exact q)
  suffices go : ∀ {hs' : List ExceptHandler} {l' : List Clz}, ClzOk X hs' l' → wClz X.K Wo D l' cls dd σ1 H1 → wpAny (model X.prog X.w) X.A (handleBy (.ref p) X.env hs') (SP X pins D) X.xe { t with heap := hA } from go cl w
  intro hs' l' ck
  induction ck with
  | nil =>
    intro w
    refine wpAny_handleBy_nil ?_
    obtain ⟨_, _, _, o, vs, T, oT, ts', eo, zo, fo, f1, hr⟩ := id la
    unfold PySem.passOn
    refine wpAny_bind (wpAny_field eo fo f1 ?_)
    rw [if_neg (show ¬ ((Value.ref T == Value.none) = true) from by simp)]
    have thrown : wpAny (model X.prog X.w) X.A (setFlight (.ref p) X.env.frame) (fun _ t4 => wpAny (model X.prog X.w) X.A (throw (.ref p) : Sem Flow) (SP X pins D) X.xe t4) X.xe { t with heap := hA } := by
      rw [efr]
      refine HandSPX.setFlight_upZ la fun hB lb uB => wpAny_throw (tk _ _ ⟨p, B, t0, pins, σ1, H1, cls, dd, rfl, J, nb, (up0.trans uA).trans uB, .inr (.inr (by rw [est]; exact lb)), np, os, ag, w⟩)
    first
      | exact wpAny_bind (wpAny_pure (wpAny_bind thrown))
      | exact wpAny_bind thrown
  | @cons x n b0 su q0 q1 hs2 l2 z hi hl hc run r ih =>
    intro w
    obtain ⟨b, hb, yes, no⟩ := w
    refine wpAny_handleBy_cons (codeAny_handlers_test ?_) (by intro q; cases q)
    have mat := PySem.W.exm_one (M := model X.prog X.w) JA.kIn looks hb
    have tested : ∀ {Q : Value → Shared → Prop} {E : Value → Shared → Prop}, Q z.c { t with heap := hA } → wpAny (model X.prog X.w) (X.A.mark (some (.ref p))) (eval (.Name x q0) X.env) Q E { t with heap := hA } := fun {Q E} hq => by
      obtain ⟨hg, hdb, hm | ⟨hm, hv, hn⟩⟩ := hc
      · exact ld_glob (X := X.suite p ((p, oA) :: (X.pn ++ pins))) SA hg hm hq hdb
      · exact ld_blt (X := X.suite p ((p, oA) :: (X.pn ++ pins))) SA hg hm hv hq hn hdb
    refine tested (mat.here ?_)
    cases b with
    | false =>
      show wpAny _ X.A (handleBy (.ref p) X.env hs2) _ _ _
      exact ih (no rfl)
    | true =>
      refine codeAny_handlers_suite_as (HandSPX.lands_againZ la fun hB lb uB => ?_)
      have JB : Inv X pins σ1 H1 { t with heap := hB } := J.landed nb lb.1 ((up0.trans uA).trans uB) os ag
      obtain ⟨oB, vB, eB, zB, fB⟩ := lb.there
      have SB := JB.suite eB fB np nLoc nFs
      refine store_ok (X := X.suite p ((p, oB) :: (X.pn ++ pins))) (v := .ref p) SB nd hi (.inl hl) rfl (fun t5 S5 => ?_) (.inr hl)
      refine wpAny_mono ((run p oB cls dd (X.pn ++ pins) zB ⟨_, fB⟩).run [] t5 _ H1 _ S5 (yes rfl p np)) (fun fl t6 hsp => ?_) (fun _ _ z => z.elim)
      have unbind : ∀ {σ6 : MB.St} {H6 : Hp} {Q : Shared → Prop}, Inv (X.suite p ((p, oB) :: (X.pn ++ pins))) [] σ6 H6 t6 → (∀ t7, Inv X pins (σ6.set z.i none) H6 t7 → Q t7) →
          wpAny (model X.prog X.w) X.A (do bindName X.env n .none; unbindBehindTheSuite X.env n q1) (fun _ t7 => Q t7) X.xe t6 := fun S6 hq => gone_ok (S6.unsuite ok) nd hi hl hq
      cases fl with
      | next => exact hsp.elim fun σ6 h => h.elim fun H6 h => unbind h.1 fun t7 J7 => ⟨_, _, J7, h.2⟩
      | brk => exact hsp.elim fun σ6 h => h.elim fun H6 h => unbind h.1 fun t7 J7 => ⟨_, _, J7, h.2⟩
      | cont => exact hsp.elim fun σ6 h => h.elim fun H6 h => unbind h.1 fun t7 J7 => ⟨_, _, J7, h.2⟩
      | ret u =>
        obtain ⟨v6, σ6, H6, S6, r6, q6⟩ := hsp
        exact unbind S6 fun t7 J7 => ⟨_, _, _, J7, r6, q6⟩
/-! ### try by values -/
structure Hdl where
  i : Nat
  t : Str → Option Bool
  g : SX
def hdlS (x : Ex) (ρ : En) : List Hdl → Fl
  | [] => .err x ρ
  | z :: r => match z.t x.c with
    | some true => match z.g (ρ.set z.i (some (.exc x))) with
      | .nx ρ2 => if noExc (ρ2.set z.i none) then .nx (ρ2.set z.i none) else .stuck
      | .bk ρ2 => if noExc (ρ2.set z.i none) then .bk (ρ2.set z.i none) else .stuck
      | .ct ρ2 => if noExc (ρ2.set z.i none) then .ct (ρ2.set z.i none) else .stuck
      | .rt d ρ2 => if noExc (ρ2.set z.i none) then .rt d (ρ2.set z.i none) else .stuck
      | _ => .stuck
    | some false => hdlS x ρ r
    | none => .stuck
def sTryZ (gb : SX) (l : List Hdl) : SX := fun ρ => match gb ρ with
  | .err x ρ1 => hdlS x ρ1 l
  | r => r
def clzOf (K : Kw) (c : Value) (z : Hdl) : Clz := ⟨c, z.i, fun p cls dd => tS K ⟨some (p, cls, dd)⟩ (fun _ _ _ _ => False) z.g⟩
theorem hdl_ok {K : Kw} {F : Fm} {Wo : WX} {D : Ends} {x : Ex} {ρ : En} {σ : MB.St} {H : Hp} {cls : Value} {dd : Option Addr} (hx1 : RX K ⟨none⟩ F ρ σ H x cls dd) : ∀ {cs : List Value} {l : List Hdl}, cs.length = l.length → (∀ (j : Nat) (c : Value) (z : Hdl), cs[j]? = some c → l[j]? = some z → TEF K.K z.t c) →
    PoS K ⟨none⟩ F Wo (hdlS x ρ l) D → wClz K.K Wo D ((cs.zip l).map fun q => clzOf K q.1 q.2) cls dd σ H
  | [], [], _, _, hp => hp cls dd σ H hx1
  | c :: cs, z :: l, hl, hT, hp => by
    have hp' : PoS K ⟨none⟩ F Wo (match z.t x.c with
      | some true => match z.g (ρ.set z.i (some (.exc x))) with
        | .nx ρ2 => if noExc (ρ2.set z.i none) then Fl.nx (ρ2.set z.i none) else .stuck
        | .bk ρ2 => if noExc (ρ2.set z.i none) then .bk (ρ2.set z.i none) else .stuck
        | .ct ρ2 => if noExc (ρ2.set z.i none) then .ct (ρ2.set z.i none) else .stuck
        | .rt d ρ2 => if noExc (ρ2.set z.i none) then .rt d (ρ2.set z.i none) else .stuck
        | _ => .stuck
      | some false => hdlS x ρ l
      | none => .stuck) D := hp
    obtain ⟨O1, r1, ev⟩ := hx1
    cases e2 : z.t x.c with
    | none => rw [e2] at hp'; exact hp'.elim
    | some b =>
      rw [e2] at hp'
      have hk := hT 0 c z rfl rfl _ _ e2
      have ev1 : cls = .ref (He.ga K.K x.c) := ev.1
      rw [← ev1] at hk
      refine ⟨b, hk, fun hb1 a ha => ?_, fun hb0 => ?_⟩
      · subst hb1
        refine ⟨F, _, ⟨O1, r1.setE (i := z.i) (a := a) ev⟩, ?_⟩
        cases e3 : z.g (ρ.set z.i (some (.exc x))) with
        | nx ρ2 =>
          simp only [e3] at hp'
          split at hp'
          · rename_i hn
            exact fun σ2 H2 ⟨O2, r2⟩ => hp' _ H2 ⟨O2, r2.unE hn⟩
          · exact hp'.elim
        | bk ρ2 =>
          simp only [e3] at hp'
          split at hp'
          · rename_i hn
            exact fun σ2 H2 ⟨O2, r2⟩ => hp' _ H2 ⟨O2, r2.unE hn⟩
          · exact hp'.elim
        | ct ρ2 =>
          simp only [e3] at hp'
          split at hp'
          · rename_i hn
            exact fun σ2 H2 ⟨O2, r2⟩ => hp' _ H2 ⟨O2, r2.unE hn⟩
          · exact hp'.elim
        | rt d ρ2 =>
          simp only [e3] at hp'
          split at hp'
          · rename_i hn
            exact fun v σ2 H2 ⟨O2, r2, dv⟩ => hp' v _ H2 ⟨O2, r2.unE hn, dv⟩
          · exact hp'.elim
        | err y ρ2 => simp only [e3] at hp'; exact hp'.elim
        | stuck => simp only [e3] at hp'; exact hp'.elim
      · subst hb0
        exact hdl_ok ⟨O1, r1, ev⟩ (by simpa using hl) (fun j c' z' e1 e2 => hT (j + 1) c' z' (by simpa using e1) (by simpa using e2)) hp'
/-- the clauses' facts -/
inductive HdlOk (X : Cx) : List ExceptHandler → List Value → List Hdl → Prop
  | nil : HdlOk X [] [] []
  | cons {x n : Str} {c : Value} {b0 : Stmt} {su : List Stmt} {q q' : Pos} {hs : List ExceptHandler} {cs : List Value} {l : List Hdl} {z : Hdl} (hi : X.N[z.i]? = some n) (hl : X.env.kindOf n = some .local) (hc : Names X x c) (hT : TEF X.K z.t c)
      (run : ∀ (a : Addr) (oe : Obj) (cls : Value) (d : Option Addr) (pn : List (Addr × Obj)), HxOk (X.suite a ((a, oe) :: pn)) ⟨some (a, cls, d)⟩ → PSs (X.suite a ((a, oe) :: pn)) (b0 :: su) (tS X.kw ⟨some (a, cls, d)⟩ (fun _ _ _ _ => False) z.g)) (r : HdlOk X hs cs l) :
      HdlOk X (.ExceptHandler (some (.Name x q)) (some n) (b0 :: su) q' :: hs) (c :: cs) (z :: l)
theorem HdlOk.len {X : Cx} : ∀ {hs : List ExceptHandler} {cs : List Value} {l : List Hdl}, HdlOk X hs cs l → cs.length = l.length
  | _, _, _, .nil => rfl
  | _, _, _, .cons _ _ _ _ _ r => by rw [List.length_cons, List.length_cons, r.len]
theorem HdlOk.te {X : Cx} : ∀ {hs : List ExceptHandler} {cs : List Value} {l : List Hdl}, HdlOk X hs cs l → ∀ (j : Nat) (c : Value) (z : Hdl), cs[j]? = some c → l[j]? = some z → TEF X.K z.t c
  | _, _, _, .nil, j, c, z, e, _ => by simp at e
  | _, _, _, .cons _ _ _ hT _ r, 0, c, z, e1, e2 => by cases e1; cases e2; exact hT
  | _, _, _, .cons _ _ _ hT _ r, j + 1, c, z, e1, e2 => r.te j c z (by simpa using e1) (by simpa using e2)
theorem HdlOk.clz {X : Cx} : ∀ {hs : List ExceptHandler} {cs : List Value} {l : List Hdl}, HdlOk X hs cs l → ClzOk X hs ((cs.zip l).map fun q => clzOf X.kw q.1 q.2)
  | _, _, _, .nil => .nil
  | _, _, _, .cons hi hl hc _ run r => .cons (z := clzOf X.kw _ _) hi hl hc (fun p o cls dd pn hz hf => run p o cls dd pn ⟨p, o, cls, dd, rfl, List.mem_cons_self, ⟨rfl, by
      obtain ⟨vs, e⟩ := hf
      exact ⟨vs, e, hz.2.2 vs e⟩⟩, hz.zc⟩) r.clz
theorem p_tryZ {X : Cx} {body : List Stmt} {hd : ExceptHandler} {hs : List ExceptHandler} {cs : List Value} {l : List Hdl} {pos : Pos} {Wo : WX} {gb : SX} (est : X.stack = X.env :: X.outer) (efr : X.env.frame = some X.env.locals) (nd : X.N.Nodup) (tk : L2N.Takes X Wo)
    (hb : ∀ (W : WX) (pn : List (Addr × Obj)) (xe : Value → Shared → Prop), L2N.Takes (X.tr pn xe) W → PassesOwn (model X.prog X.w) X.A X.env xe → PSs (X.tr pn xe) body (tS X.kw ⟨none⟩ W gb))
    (hh : HdlOk X (hd :: hs) cs l) : PS X (.Try body (hd :: hs) [] [] pos) (tS X.kw ⟨none⟩ Wo (sTryZ gb l)) :=
  (ps_tryZ (tb := fun W => tS X.kw ⟨none⟩ W gb) est efr nd tk hb hh.clz).imp fun D σ H h => by
    obtain ⟨F, ρ, r, hp⟩ := h
    refine ⟨F, ρ, r, ?_⟩
    unfold sTryZ at hp
    cases e : gb ρ with
    | nx ρ1 => rw [e] at hp; exact hp
    | rt d ρ1 => rw [e] at hp; exact hp
    | bk ρ1 => rw [e] at hp; exact hp
    | ct ρ1 => rw [e] at hp; exact hp
    | stuck => rw [e] at hp; exact hp
    | err y ρ1 =>
      rw [e] at hp
      exact fun cls dd σ1 H1 hx1 => hdl_ok hx1 hh.len hh.te hp
end MB

/-! in, not in, len over all kinds; enumerate; {}; a = b = e. -/
namespace MB
open PySem PySem.Spec PyProof.Rows L2
/-! ### not in -/
def rNinM (K : Fg) : R2 := fun x y H Q => rIn K true x y H Q ∨ rNotInD K x y H Q
theorem o_ninM {X : Cx} (hu : X.A.units + 65 < cLine) : OpR X (compareOp .NotIn) (rNinM X.K) := op_notIn_seq.or (op_notInD hu)
def ninM (d e : D) : Option D := (inM d e).map notD
theorem s_ninM {K : Kw} : Op2 K (rNinM K.K) ninM := by
  intro O H x y d e res Q hd hx hy h q
  obtain ⟨z, h1, h2⟩ := Option.map_eq_some_iff.mp (show (inM d e).map notD = some res from h)
  cases e <;> (try (cases d <;> cases h1; done))
  · rename_i xs
    refine .inl (s_nin O H x y d (.tup xs) res Q hd hx hy ?_ q)
    obtain ⟨b, hb, e1⟩ := Option.map_eq_some_iff.mp (show (inB d xs).map D.bl = some z by cases d <;> exact h1)
    have : (inB d xs).map (fun b => D.bl (!b)) = some res := by rw [hb, ← h2, ← e1]; rfl
    cases d <;> exact this
  · rename_i xs
    have h' : (match inB d xs with
      | some b => some (.bl b)
      | none => (inDeep d xs).map .bl) = some z := by cases d <;> exact h1
    cases e1 : inB d xs with
    | some b =>
      rw [e1] at h'
      refine .inl (s_nin O H x y d (.lst xs) res Q hd hx hy ?_ q)
      have h3 : some (D.bl b) = some z := h'
      cases h3
      have : (inB d xs).map (fun b => D.bl (!b)) = some res := by rw [e1, ← h2]; rfl
      cases d <;> exact this
    | none =>
      rw [e1] at h'
      obtain ⟨b, hb, rfl⟩ := Option.map_eq_some_iff.mp (show (inDeep d xs).map D.bl = some z from h')
      unfold inDeep at hb
      cases e2 : toPy d with
      | none => simp only [e2] at hb; cases hb
      | some a =>
        cases e3 : toPys xs with
        | none => simp only [e2, e3] at hb; cases hb
        | some ps =>
          simp only [e2, e3] at hb
          split at hb
          · rename_i hs
            obtain ⟨s1, s2⟩ := Bool.and_eq_true_iff.mp hs
            cases hb
            subst h2
            refine .inr ⟨a, ps, Dp.mono_wo hx e2, Dp.mono_wo hy ?_, s1, s2, q _ H (Same.refl H) (.bl _)⟩
            rw [toPy, e3]
            rfl
          · cases hb
def rNinA (w : World) (K : Fg) : R2 := fun x y H Q => rSNotIn w x y H Q ∨ rDNotIn x y H Q ∨ rNinM K x y H Q
theorem o_ninA {X : Cx} (hu : X.A.units + 65 < cLine) : OpR X (compareOp .NotIn) (rNinA X.w X.K) := or_snotin.or ((op_dnotin (by omega)).or (o_ninM hu))
theorem ninS_ok {K : Kw} {O : Ow} {H : Hp} {S : Store} {x y : V} {d e z : D} {n : Nat} {Q : VK} (c : Ce K O S H) (hx : DV K (wo O H) x d) (hy : DV K (wo O H) y e) (q : inS n S d e = some z) (hq : ∀ v, DV K (wo O H) v (notD z) → Q v H) (hq2 : ∀ v H', Same H H' → DV K (wo O H') v (notD z) → Q v H') : rNinA K.w K.K x y H Q := by
  unfold inS at q
  cases e1 : setAt S e with
  | some p =>
    obtain ⟨m, ns⟩ := p
    rw [e1] at q
    cases d <;> (try (cases q; done))
    rename_i k
    cases q
    obtain ⟨_, a, rfl, _, h1⟩ := c.setAt hy e1
    cases hx
    exact .inl ⟨k, a, _, _, rfl, rfl, h1, hq _ (.bl _)⟩
  | none =>
    rw [e1] at q
    have q2 : (match dctAt S e with
      | some (_, kvs) => (keyD' d).map fun k => D.bl (getA kvs k).isSome
      | none => inM (seeD S n d) (seeD S n e)) = some z := q
    cases e2 : dctAt S e with
    | some p =>
      obtain ⟨m, kvs⟩ := p
      rw [e2] at q2
      obtain ⟨k, e3, e4⟩ := Option.map_eq_some_iff.mp (show (keyD' d).map (fun k => D.bl (getA kvs k).isSome) = some z from q2)
      cases e4
      obtain ⟨_, a, vs, rfl, _, h1, t⟩ := c.dctAt hy e2
      rw [keyD'_ok hx e3]
      refine .inr (.inl ⟨a, _, rfl, DGet.k h1, ?_⟩)
      rw [t.isSome]
      exact hq _ (.bl _)
    | none =>
      rw [e2] at q2
      have q3 : inM (seeD S n d) (seeD S n e) = some z := q2
      obtain ⟨b, rfl⟩ := b_inM _ _ _ q3
      refine .inr (.inr (op2_al (n := n) (z := notD (.bl b)) s_ninM c hx hy ?_ rfl hq2))
      show (inM (seeD S n d) (seeD S n e)).map notD = _
      rw [q3]
      rfl
theorem b_inS {n : Nat} {S : Store} {d e z : D} (h : inS n S d e = some z) : ∃ b, z = .bl b := by
  unfold inS at h
  cases e1 : setAt S e with
  | some p =>
    rw [e1] at h
    cases d <;> (try (cases h; done))
    cases h
    exact ⟨_, rfl⟩
  | none =>
    rw [e1] at h
    have q2 : (match dctAt S e with
      | some (_, kvs) => (keyD' d).map fun k => D.bl (getA kvs k).isSome
      | none => inM (seeD S n d) (seeD S n e)) = some z := h
    cases e2 : dctAt S e with
    | some p =>
      rw [e2] at q2
      obtain ⟨k, e3, e4⟩ := Option.map_eq_some_iff.mp q2
      exact ⟨_, e4.symm⟩
    | none =>
      rw [e2] at q2
      exact b_inM _ _ _ q2
def eNinA (n : Nat) (fa fb : EX) : EX := fun ρ => (fa ρ).bind fun d ρ1 => (fb ρ1).bind fun e ρ2 => match inS n ρ2.st d e with
  | some z => .ok (notD z) ρ2
  | none => .stuck
section
variable {X : Cx} {hx : Hx} {W : WX} {a b : Expr} {fa fb : EX} {pos : Pos} {n : Nat}
theorem r_inA (hu : X.A.units + 65 < cLine) (ha : PE X a (tX X.kw hx W fa)) (hb : PE X b (tX X.kw hx W fb)) (hm : behindInMarks .In b = false := by rfl) : PE X (.Compare a [.In] [b] pos) (tX X.kw hx W (eInA n fa fb)) :=
  (pe_cmpR (o_inA hu) ha hb hm).imp fun σ H Q h => by
    obtain ⟨F, ρ, ⟨O, r0⟩, hp⟩ := h
    refine bindX r0 hp fun d ρ1 v H1 O1 r1 s1 dv hp1 => ?_
    refine bindX r1 hp1 fun e ρ2 u H2 O2 r2 s2 du hp2 => ?_
    cases q : inS n ρ2.st d e with
    | none => rw [q] at hp2; exact hp2.elim
    | some z =>
      rw [q] at hp2
      exact inS_ok r2.ce (DV.mono s2 _ _ dv) du q (fun v' dv' => hp2 v' H2 ⟨O2, r2, dv'⟩) fun v' H' s' dv' => hp2 v' H' ⟨O2, r2.grow s', dv'⟩
theorem r_ninA (hu : X.A.units + 65 < cLine) (ha : PE X a (tX X.kw hx W fa)) (hb : PE X b (tX X.kw hx W fb)) (hm : behindInMarks .NotIn b = false := by rfl) : PE X (.Compare a [.NotIn] [b] pos) (tX X.kw hx W (eNinA n fa fb)) :=
  (pe_cmpR (o_ninA hu) ha hb hm).imp fun σ H Q h => by
    obtain ⟨F, ρ, ⟨O, r0⟩, hp⟩ := h
    refine bindX r0 hp fun d ρ1 v H1 O1 r1 s1 dv hp1 => ?_
    refine bindX r1 hp1 fun e ρ2 u H2 O2 r2 s2 du hp2 => ?_
    cases q : inS n ρ2.st d e with
    | none => rw [q] at hp2; exact hp2.elim
    | some z =>
      rw [q] at hp2
      exact ninS_ok r2.ce (DV.mono s2 _ _ dv) du q (fun v' dv' => hp2 v' H2 ⟨O2, r2, dv'⟩) fun v' H' s' dv' => hp2 v' H' ⟨O2, r2.grow s', dv'⟩
theorem r_inAT (hu : X.A.units + 65 < cLine) (ha : PE X a (tX X.kw hx W fa)) (hb : PE X b (tX X.kw hx W fb)) (hm : behindInMarks .In b = false := by rfl) : PT X (.Compare a [.In] [b] pos) (tT X.kw hx W (eInA n fa fb)) :=
  (pt_cmpR (o_inA hu) ha hb hm).imp fun σ H Q h => by
    obtain ⟨F, ρ, ⟨O, r0⟩, hp⟩ := h
    refine bindXT r0 hp fun d ρ1 v H1 O1 r1 s1 dv hp1 => ?_
    refine bindXT r1 hp1 fun e ρ2 u H2 O2 r2 s2 du hp2 => ?_
    cases q : inS n ρ2.st d e with
    | none => rw [q] at hp2; exact hp2.elim
    | some z =>
      rw [q] at hp2
      obtain ⟨b, rfl⟩ := b_inS q
      obtain ⟨b', hb', k⟩ := (show PoT X.kw hx F W σ (.ok (.bl b) ρ2) Q from hp2)
      cases hb'
      exact inS_ok r2.ce (DV.mono s2 _ _ dv) du q (fun v' dv' => by cases dv'; exact ⟨b, rfl, k H2 ⟨O2, r2⟩⟩) fun v' H' s' dv' => by cases dv'; exact ⟨b, rfl, k H' ⟨O2, r2.grow s'⟩⟩
theorem r_ninAT (hu : X.A.units + 65 < cLine) (ha : PE X a (tX X.kw hx W fa)) (hb : PE X b (tX X.kw hx W fb)) (hm : behindInMarks .NotIn b = false := by rfl) : PT X (.Compare a [.NotIn] [b] pos) (tT X.kw hx W (eNinA n fa fb)) :=
  (pt_cmpR (o_ninA hu) ha hb hm).imp fun σ H Q h => by
    obtain ⟨F, ρ, ⟨O, r0⟩, hp⟩ := h
    refine bindXT r0 hp fun d ρ1 v H1 O1 r1 s1 dv hp1 => ?_
    refine bindXT r1 hp1 fun e ρ2 u H2 O2 r2 s2 du hp2 => ?_
    cases q : inS n ρ2.st d e with
    | none => rw [q] at hp2; exact hp2.elim
    | some z =>
      rw [q] at hp2
      obtain ⟨b, rfl⟩ := b_inS q
      obtain ⟨b', hb', k⟩ := (show PoT X.kw hx F W σ (.ok (.bl (!b)) ρ2) Q from hp2)
      cases hb'
      exact ninS_ok r2.ce (DV.mono s2 _ _ dv) du q (fun v' dv' => by cases dv'; exact ⟨!b, rfl, k H2 ⟨O2, r2⟩⟩) fun v' H' s' dv' => by cases dv'; exact ⟨!b, rfl, k H' ⟨O2, r2.grow s'⟩⟩
end
/-! ### len -/
def lenS (S : Store) (d : D) : Option D := match dctAt S d with
  | some (_, kvs) => some (.int (kvs.length : Nat))
  | none => lenD [see1 S d]
def eLenS (fa : EX) : EX := evs [fa] fun ds ρ => match ds with
  | [d] => match lenS ρ.st d with
    | some z => .ok z ρ
    | none => .stuck
  | _ => .stuck
def rLenA (K : Fg) : List V → Hp → VK → Prop := fun xs H Q => (∃ a kvs, xs = [V.ref a] ∧ H a = some (.dK kvs) ∧ Q (.int kvs.length) H) ∨ ∃ x n, xs = [x] ∧ LenV K x H n ∧ Q (.int n) H
theorem c_lenA {X : Cx} : CallR X (.builtin "len") (rLenA X.K) := call_lenD.or call_len
theorem r_lenA {X : Cx} {hx : Hx} {W : WX} {e : Expr} {fa : EX} {pos p : Pos} (hm : X.mg "len" = none) (ha : PA X [e] (tA X.kw hx W [fa])) (hg : Gl X "len" := by rfl)
    (he : starEach [e] X.env = (false, eval e X.env) :: starEach [] X.env := by rfl) (hpl : (backTo pos (starEach [] X.env)).any (·.1) = false := by rfl) : PE X (.Call (.Name "len" p) [e] [] pos) (tX X.kw hx W (eLenS fa)) :=
  (pe_callB c_lenA hg hm PySem.boot_len ha (by decide) (by decide) he hpl).imp fun σ H Q h => by
    obtain ⟨F, ρ, ⟨O, r0⟩, hp⟩ := h
    refine tA_of r0 hp fun F1 ds ρ1 vs H1 O1 ln r1 dvs q => ?_
    match ds, ln with
    | [d], _ =>
      obtain ⟨v, rfl, dv⟩ := dvs.one
      have q1 : Po X.kw hx F1 W σ (match lenS ρ1.st d with
        | some z => Rs.ok z ρ1
        | none => .stuck) Q := q
      cases e : lenS ρ1.st d with
      | none => rw [e] at q1; exact q1.elim
      | some z =>
        rw [e] at q1
        unfold lenS at e
        cases e1 : dctAt ρ1.st d with
        | some p =>
          obtain ⟨m, kvs⟩ := p
          rw [e1] at e
          cases e
          obtain ⟨_, a, ws, rfl, _, h1, t⟩ := r1.ce.dctAt dv e1
          refine .inl ⟨a, ws, rfl, h1, ?_⟩
          rw [t.length]
          exact q1 _ H1 ⟨O1, r1, .int _⟩
        | none =>
          rw [e1] at e
          have e2 : lenD [see1 ρ1.st d] = some z := e
          have lv := see1_lv r1.ce dv
          generalize see1 ρ1.st d = d2 at lv e2
          cases lv with
          | dat dv' => exact .inr (s_len O1 H1 _ _ z Q r1.dom (.cons dv' .nil) e2 fun v' H' s' dv' => q1 v' H' ⟨O1, r1.grow s', dv'⟩)
          | lst g t =>
            rename_i a ws ds
            have e4 : some (D.int (ds.length : Nat)) = some z := e2
            cases e4
            refine .inr ⟨_, _, rfl, .inl ⟨ws, .of g, rfl⟩, ?_⟩
            rw [t.length]
            exact q1 _ H1 ⟨O1, r1, .int _⟩
/-! ### {} -/
def eDct0 : EX := fun ρ => .ok (.ce ρ.st.length) ⟨ρ.sl, ρ.st ++ [some (.dct [])]⟩
theorem r_dct0 {X : Cx} {hx : Hx} {W : WX} {pos : Pos} : PE X (.Dict [] [] pos) (tX X.kw hx W eDct0) := (pe_dnewK).imp fun σ H Q h => by
  obtain ⟨F, ρ, ⟨O, r⟩, hp⟩ := h
  intro p np
  obtain ⟨O', r', dv', _⟩ := r.newC (c := .dct []) (o := .dK []) np ⟨[], rfl, .nil⟩
  exact hp _ _ ⟨O', r', dv'⟩
/-! ### enumerate -/
def enumD (ds : List D) : List D := ds.zipIdx.map fun p => .tup [.int (p.2 : Nat), p.1]
theorem enumD_get {ds : List D} {i : Nat} {d : D} (h : (enumD ds)[i]? = some d) : ∃ x, ds[i]? = some x ∧ d = .tup [.int (i : Nat), x] := by
  unfold enumD at h
  rw [List.getElem?_map, List.getElem?_zipIdx] at h
  cases e : ds[i]? with
  | none => rw [e] at h; cases h
  | some x =>
    rw [e] at h
    refine ⟨x, rfl, ?_⟩
    have h' : some (D.tup [.int ((0 + i : Nat) : Int), x]) = some d := h
    rw [Nat.zero_add] at h'
    exact (Option.some.inj h').symm
theorem its_enum {K : Kw} {T : Fz} {a : Addr} {vs : List V} {ds : List D} (s1 : T.h a = some (.lst vs)) (t1 : DVs K T vs ds) : Its K T (Ite K.K a) (enumD ds) := fun i H st => by
  refine ⟨fun d hd => ?_, fun hi => ⟨vs, .of (st _ _ s1), ?_⟩⟩
  · obtain ⟨dx, e1, rfl⟩ := enumD_get hd
    obtain ⟨x, hx, vx⟩ := t1.get e1
    refine ⟨⟨vs, x, .of (st _ _ s1), hx⟩, fun v H' yl => ?_⟩
    obtain ⟨c, x', rfl, hn, rfl, h1⟩ := yl
    have ex : x' = x := Option.some.inj ((h1 vs (.of (st _ _ s1))).symm.trans hx)
    subst ex
    exact ⟨same_upd hn, fun O dom so => (pair_new hn dom (.int _) (DV.mono so _ _ vx)).2⟩
  · rw [t1.length]
    unfold enumD at hi
    simp only [List.length_map, List.length_zipIdx] at hi
    exact hi
def iEn (f : EX) : IX := iB f fun d ρ1 => match d with
  | .lst xs => .ok (enumD xs) ρ1
  | _ => .stuck
theorem ri_enum {K : Kw} {hx : Hx} {W : WX} {f : EX} : RI K hx W (iEn f) (iEnum K.K (tCons (tX K hx W f) tNil)) := by
  intro σ H R F ρ O r hp
  refine bindI (P := fun z => match z with
    | .ok ds ρ1 => ∀ (J : It) (H1 : Hp) (O1 : Ow), RO K hx F ρ1 σ H1 O1 → FSame (wo O H) (wo O1 H1) → Its K (wo O1 H1) J ds → R J H1
    | .err x ρ1 => ∀ cls dd H1, RX K hx F ρ1 σ H1 x cls dd → W cls dd σ H1
    | .stuck => False) r hp (fun x ρ1 h => h) (fun h => h) fun d ρ1 v H1 O1 r1 s1 dv q => ?_
  cases d <;> (try exact (q : False).elim)
  obtain ⟨a, vs, rfl, s, t⟩ := dv.lst_of
  exact ⟨a, vs, rfl, .of (wo_same O1 H1 _ _ s), q _ H1 O1 r1 s1 (its_enum s t)⟩
/-! ### a = b = e -/
def sAsg2 (b1 b2 : BX) (f : EX) : SX := fun ρ => (f ρ).then fun d ρ1 => match b1 d ρ1 with
  | some ρ2 => match b2 d ρ2 with
    | some ρ3 => .nx ρ3
    | none => .stuck
  | none => .stuck
theorem p_asg2 {X : Cx} {hx : Hx} {W : WX} {t1 t2 e : Expr} {f : EX} {b1 b2 : BX} {is js : List Nat} {pos : Pos} (he : PE X e (tX X.kw hx W f)) (h1 : PG X t1 (tG X.kw hx is b1)) (h2 : PG X t2 (tG X.kw hx js b2))
    (ha : (assignEach [t1, t2] X.env).map (·.2) = [assign t1 X.env, assign t2 X.env] := by rfl) (hw : swappedStores [t1, t2] e X.env = pure none := by rfl) :
    PS X (.Assign [t1, t2] e pos) (tS X.kw hx W (sAsg2 b1 b2 f)) := (ps_asg2 he h1 h2 ha hw).imp fun D σ H h => by
  obtain ⟨F, ρ, ⟨O, r0⟩, hp⟩ := h
  refine bindS r0 hp fun d ρ1 u H1 O1 r1 du hp1 => ?_
  cases q : b1 d ρ1 with
  | none => rw [q] at hp1; exact hp1.elim
  | some ρ2 =>
    rw [q] at hp1
    refine ⟨F, ρ1, d, O1, ρ2, r1, du, q, fun σ2 _ r2 => ?_⟩
    have hp2 : PoS X.kw hx F W (match b2 d ρ2 with
      | some ρ3 => Fl.nx ρ3
      | none => .stuck) D := hp1
    cases q2 : b2 d ρ2 with
    | none => rw [q2] at hp2; exact hp2.elim
    | some ρ3 =>
      rw [q2] at hp2
      exact ⟨F, ρ2, d, O1, ρ3, r2, du, q2, fun σ3 _ r3 => hp2 σ3 H1 ⟨O1, r3⟩⟩
end MB

/-! Behind a def: the cells that it made and that nobody knows of are forgotten. -/
namespace MB
open PySem PySem.Spec PyProof.Rows L2
mutual
/-- names no cell from n on -/
def clD (n : Nat) : D → Prop
  | .ce k => k < n
  | .tup ds => clDs n ds
  | .lst ds => clDs n ds
  | .dct _ ds => clDs n ds
  | .obj _ _ ds => clDs n ds
  | _ => True
def clDs (n : Nat) : List D → Prop
  | [] => True
  | d :: ds => clD n d ∧ clDs n ds
end
def clC (n : Nat) : Cn → Prop
  | .lst ds => clDs n ds
  | .dct kvs => clDs n (kvs.map (·.2))
  | .dcT kvs => clDs n (kvs.map (·.2))
  | .obj _ fs => clDs n (fs.map (·.2))
  | .set _ => True
@[simp] theorem clD_non {n : Nat} : clD n .non := by unfold clD; trivial
@[simp] theorem clD_bl {n : Nat} {b : Bool} : clD n (.bl b) := by unfold clD; trivial
@[simp] theorem clD_int {n : Nat} {i : Int} : clD n (.int i) := by unfold clD; trivial
@[simp] theorem clD_str {n : Nat} {x : Str} : clD n (.str x) := by unfold clD; trivial
@[simp] theorem clD_fn {n : Nat} {x : Str} : clD n (.fn x) := by unfold clD; trivial
@[simp] theorem clD_scr {n : Nat} {x : List Int} : clD n (.scr x) := by unfold clD; trivial
@[simp] theorem clD_ce {n k : Nat} : clD n (.ce k) ↔ k < n := by unfold clD; rfl
@[simp] theorem clD_tup {n : Nat} {ds : List D} : clD n (.tup ds) ↔ clDs n ds := by rw [clD]
@[simp] theorem clD_lst {n : Nat} {ds : List D} : clD n (.lst ds) ↔ clDs n ds := by rw [clD]
@[simp] theorem clD_obj {n : Nat} {C : Str} {fs : List Str} {ds : List D} : clD n (.obj C fs ds) ↔ clDs n ds := by rw [clD]
@[simp] theorem clD_dct {n : Nat} {ks : List L2.Key} {ds : List D} : clD n (.dct ks ds) ↔ clDs n ds := by rw [clD]
@[simp] theorem clDs_nil {n : Nat} : clDs n [] := by unfold clDs; trivial
@[simp] theorem clDs_cons {n : Nat} {d : D} {ds : List D} : clDs n (d :: ds) ↔ clD n d ∧ clDs n ds := by rw [clDs]
theorem clDs_all {n : Nat} : ∀ {ds : List D}, clDs n ds ↔ ∀ d ∈ ds, clD n d
  | [] => by simp
  | d :: ds => by rw [clDs_cons, clDs_all]; simp
@[simp] theorem clDs_append {n : Nat} {ds es : List D} : clDs n (ds ++ es) ↔ clDs n ds ∧ clDs n es := by
  rw [clDs_all, clDs_all, clDs_all]
  simp only [List.mem_append]
  exact ⟨fun h => ⟨fun d m => h d (.inl m), fun d m => h d (.inr m)⟩, fun h d m => m.elim (h.1 d) (h.2 d)⟩
@[simp] theorem clDs_ints {n : Nat} {ns : List Int} : clDs n (ns.map D.int) := by
  rw [clDs_all]
  intro d m
  obtain ⟨i, _, rfl⟩ := List.mem_map.mp m
  simp
section
variable {K : Kw} {z z' : Fz} {n : Nat}
mutual
theorem cl_of : ∀ (d : D) (v : V), DV K z v d → clD z.th.length d
  | .non, _, _ => clD_non
  | .bl _, _, _ => clD_bl
  | .int _, _, _ => clD_int
  | .str _, _, _ => clD_str
  | .fn _, _, _ => clD_fn
  | .scr _, _, _ => clD_scr
  | .tup ds, _, h => by
    cases h with
    | tup a b => exact clD_tup.mpr (cds_of ds _ b)
  | .lst ds, _, h => by
    cases h with
    | lst a b => exact clD_lst.mpr (cds_of ds _ b)
  | .dct ks ds, _, h => by
    cases h with
    | dct a e b => exact clD_dct.mpr (cds_of ds _ b)
  | .obj C fs ds, _, h => by
    cases h with
    | obj a e b => exact clD_obj.mpr (cds_of ds _ b)
  | .ce k, _, h => by
    cases h with
    | ce a => exact clD_ce.mpr (List.getElem?_eq_some_iff.mp a).1
theorem cds_of : ∀ (ds : List D) (vs : List V), DVs K z vs ds → clDs z.th.length ds
  | [], _, _ => clDs_nil
  | d :: ds, _, h => by
    cases h with
    | cons a b => exact clDs_cons.mpr ⟨cl_of d _ a, cds_of ds _ b⟩
end
mutual
theorem DV.clo (s : Same z.h z'.h) (t : ∀ k a, k < n → z.th[k]? = some a → z'.th[k]? = some a) : ∀ (d : D) (v : V), clD n d → DV K z v d → DV K z' v d
  | .non, _, _, h => by cases h; exact .non
  | .bl b, _, _, h => by cases h; exact .bl b
  | .int i, _, _, h => by cases h; exact .int i
  | .str x, _, _, h => by cases h; exact .str x
  | .fn x, _, _, h => by cases h; exact .fn x
  | .scr ns, _, _, h => by
    cases h with
    | scr a => exact .scr (s.seq a)
  | .tup ds, _, c, h => by
    cases h with
    | tup a b => exact .tup (sqT_mono s a) (DVs.clo s t ds _ (clD_tup.mp c) b)
  | .lst ds, _, c, h => by
    cases h with
    | lst a b => exact .lst (s _ _ a) (DVs.clo s t ds _ (clD_lst.mp c) b)
  | .dct ks ds, _, c, h => by
    cases h with
    | dct a e b => exact .dct (s _ _ a) e (DVs.clo s t ds _ (clD_dct.mp c) b)
  | .obj C fs ds, _, c, h => by
    cases h with
    | obj a e b => exact .obj (s _ _ a) e (DVs.clo s t ds _ (clD_obj.mp c) b)
  | .ce k, _, c, h => by
    cases h with
    | ce a => exact .ce (t _ _ (clD_ce.mp c) a)
theorem DVs.clo (s : Same z.h z'.h) (t : ∀ k a, k < n → z.th[k]? = some a → z'.th[k]? = some a) : ∀ (ds : List D) (vs : List V), clDs n ds → DVs K z vs ds → DVs K z' vs ds
  | [], _, _, h => by cases h; exact .nil
  | d :: ds, _, c, h => by
    cases h with
    | cons a b => exact .cons (DV.clo s t d _ (clDs_cons.mp c).1 a) (DVs.clo s t ds _ (clDs_cons.mp c).2 b)
end
theorem dA_clo {κ : Type} (s : Same z.h z'.h) (t : ∀ k a, k < n → z.th[k]? = some a → z'.th[k]? = some a) : ∀ {vs : List (κ × V)} {ds : List (κ × D)}, clDs n (ds.map (·.2)) → DA K z vs ds → DA K z' vs ds
  | _, _, _, .nil => .nil
  | _, _, c, .cons a r => .cons (DV.clo s t _ _ (clDs_cons.mp c).1 a) (dA_clo s t (clDs_cons.mp c).2 r)
theorem DF.clo (s : Same z.h z'.h) (t : ∀ k a, k < n → z.th[k]? = some a → z'.th[k]? = some a) : ∀ {vs : List (Str × V)} {ds : List (Str × D)}, clDs n (ds.map (·.2)) → DF K z vs ds → DF K z' vs ds
  | _, _, _, .nil => .nil
  | _, _, c, .cons a r => .cons (DV.clo s t _ _ (clDs_cons.mp c).1 a) (DF.clo s t (clDs_cons.mp c).2 r)
theorem CnOk.clo (s : Same z.h z'.h) (t : ∀ k a, k < n → z.th[k]? = some a → z'.th[k]? = some a) {a : Addr} {o : HO} : ∀ {c : Cn}, clC n c → CnOk K z a o c → CnOk K z' a o c
  | .lst ds, c, ⟨vs, e, h⟩ => ⟨vs, e, DVs.clo s t _ _ c h⟩
  | .dct kvs, c, ⟨vs, e, h⟩ => ⟨vs, e, dA_clo s t c h⟩
  | .dcT kvs, c, ⟨vs, e, h⟩ => ⟨vs, e, dA_clo s t c h⟩
  | .obj C fs, c, ⟨dx, vs, e, h⟩ => ⟨dx, vs, e, h.clo s t c⟩
  | .set ns, c, h => h
theorem CnOk.cl {a : Addr} {o : HO} : ∀ {c : Cn}, CnOk K z a o c → clC z.th.length c
  | .lst ds, ⟨vs, e, h⟩ => cds_of _ _ h
  | .dct kvs, ⟨vs, e, h⟩ => cds_of _ _ h.split.2
  | .dcT kvs, ⟨vs, e, h⟩ => cds_of _ _ h.split.2
  | .obj C fs, ⟨dx, vs, e, h⟩ => cds_of _ _ h.split.2
  | .set ns, h => trivial
end
/-- the store behind: what stood ahead, changed, and what may be forgotten -/
structure CutOk (S S' S1 : Store) : Prop where
  app : ∃ T, S' = S1 ++ T
  len : S1.length = S.length
  cs : ∀ (i : Nat) (c : Cn), S1[i]? = some (some c) → S[i]? = some (some c) ∨ clC S.length c
theorem cut_ok {K : Kw} {O O' : Ow} {S S' S1 : Store} {H H' : Hp} (c0 : Ce K O S H) (s : Stp O H O' H') (c1 : Ce K O' S' H') (k : CutOk S S' S1) :
    ∃ O2 : Ow, Stp O H O2 H' ∧ Ce K O2 S1 H' ∧ Same (wo O' H').h (wo O2 H').h ∧ ∀ i a, i < S.length → (wo O' H').th[i]? = some a → (wo O2 H').th[i]? = some a := by
  obtain ⟨T, rfl⟩ := k.app
  obtain ⟨E, hE⟩ := s.fs.th
  have hE' : O'.th = O.th ++ E := hE.symm
  have n1 : S1.length = O.th.length := k.len.trans c0.ln
  have low : ∀ {i : Nat} {a : Addr}, i < O.th.length → (O'.th[i]? = some a ↔ O.th[i]? = some a) := fun {i a} h => by
    rw [hE', List.getElem?_append_left h]
  have lowS : ∀ {i : Nat}, i < O.th.length → (S1 ++ T)[i]? = S1[i]? := fun {i} h => List.getElem?_append_left (by rw [n1]; exact h)
  have nE : ∀ {i : Nat} {a : Addr}, O.th[i]? = some a → a ∉ E := fun {i a} h m => by
    have nd := c1.nd
    rw [hE', List.nodup_append] at nd
    exact nd.2.2 a (List.mem_of_getElem? h) a m rfl
  let l2 : List Addr := O'.l.filter fun a => decide (a ∉ E)
  have hl2 : ∀ a, a ∈ l2 ↔ a ∈ O'.l ∧ a ∉ E := fun a => by simp [l2]
  have hs : Same (wo O' H').h (wo ⟨O.th, l2, O'.hid⟩ H').h := fun a o q => by
    have q' : (if a ∈ O'.l then none else H' a) = some o := q
    show (if a ∈ l2 then none else H' a) = some o
    split at q'
    · cases q'
    · rename_i m
      rw [if_neg fun z => m ((hl2 a).mp z).1]
      exact q'
  have ht : ∀ i a, i < S.length → (wo O' H').th[i]? = some a → (wo ⟨O.th, l2, O'.hid⟩ H').th[i]? = some a := fun i a h q => (low (by rw [← c0.ln]; exact h)).mp q
  refine ⟨⟨O.th, l2, O'.hid⟩, ⟨⟨fun a o q => hs a o (s.fs.h a o q), List.prefix_refl _⟩, s.hid, s.hs⟩, ⟨fun a => ?_, c1.hd, fun a m q => c1.dj a m (by rw [hE']; exact List.mem_append_left _ q), ?_, n1, fun i c a q1 q2 => ?_, fun a m => c1.al a (by rw [hE']; exact List.mem_append_left _ m)⟩, hs, ht⟩
  · show a ∈ l2 ↔ _ ∨ a ∈ O'.hid
    rw [hl2]
    constructor
    · rintro ⟨m, ne⟩
      rcases (c1.ow a).mp m with ⟨i, c, q1, q2⟩ | m
      · by_cases h : i < O.th.length
        · exact .inl ⟨i, c, (low h).mp q1, by rw [← lowS h]; exact q2⟩
        · rw [hE', List.getElem?_append_right (by omega)] at q1
          exact absurd (List.mem_of_getElem? q1) ne
      · exact .inr m
    · rintro (⟨i, c, q1, q2⟩ | m)
      · have h := (List.getElem?_eq_some_iff.mp q1).1
        exact ⟨(c1.ow a).mpr (.inl ⟨i, c, (low h).mpr q1, by rw [lowS h]; exact q2⟩), nE q1⟩
      · exact ⟨(c1.ow a).mpr (.inr m), fun q => c1.dj a m (by rw [hE']; exact List.mem_append_right _ q)⟩
  · have nd := c1.nd
    rw [hE', List.nodup_append] at nd
    exact nd.1
  · have h := (List.getElem?_eq_some_iff.mp q2).1
    obtain ⟨o, e1, e2⟩ := c1.ce i c a (by rw [lowS h]; exact q1) ((low h).mpr q2)
    refine ⟨o, e1, e2.clo hs ht ?_⟩
    rcases k.cs i c q1 with q | q
    · obtain ⟨o0, _, e3⟩ := c0.ce i c a q q2
      have := e3.cl
      rw [c0.ln]
      exact this
    · exact q
open Classical in
/-- a def's answer, its own cells forgotten where that can be -/
noncomputable def trimR (S : Store) : Rt → Rt
  | .ok d S' => if CutOk S S' (S'.take S.length) ∧ clD S.length d then .ok d (S'.take S.length) else .ok d S'
  | .err x S' => if CutOk S S' (S'.take S.length) ∧ clDs S.length (x.fs.map (·.2)) then .err x (S'.take S.length) else .err x S'
  | .stuck => .stuck
noncomputable def runQ (b : SX) (n : Nat) : Fn := fun ds S => trimR S (runS b n ds S)
theorem take_eq {S S' S1 : Store} (k : CutOk S S' S1) : S'.take S.length = S1 := by
  obtain ⟨T, rfl⟩ := k.app
  rw [← k.len]
  simp
theorem trimR_ok {S S' S1 : Store} {d : D} (k : CutOk S S' S1) (c : clD S.length d) : trimR S (.ok d S') = .ok d S1 := by
  have e := take_eq k
  have k2 : CutOk S S' (S'.take S.length) := by rw [e]; exact k
  rw [show trimR S (.ok d S') = .ok d (S'.take S.length) from if_pos ⟨k2, c⟩, e]
theorem trimR_err {S S' S1 : Store} {x : Ex} (k : CutOk S S' S1) (c : clDs S.length (x.fs.map (·.2))) : trimR S (.err x S') = .err x S1 := by
  have e := take_eq k
  have k2 : CutOk S S' (S'.take S.length) := by rw [e]; exact k
  rw [show trimR S (.err x S') = .err x (S'.take S.length) from if_pos ⟨k2, c⟩, e]
/-- nothing that stood is changed -/
theorem CutOk.same {S T : Store} : CutOk S (S ++ T) S := ⟨⟨T, rfl⟩, rfl, fun _ _ h => .inl h⟩
/-- one cell is changed -/
theorem CutOk.one {S T : Store} {k : Nat} {c : Cn} (h : clC S.length c) : CutOk S (S.set k (some c) ++ T) (S.set k (some c)) := by
  refine ⟨⟨T, rfl⟩, by simp, fun i c' q => ?_⟩
  rcases getset q with ⟨g1, g2, _⟩ | ⟨_, g⟩
  · cases g2
    exact .inr h
  · exact .inl g
theorem trim_run {K : Kw} {N : List Str} {b : SX} {O : Ow} {S : Store} {H : Hp} {vs : List V} {ds : List D} {Q : VK} {E : XK} (ce : Ce K O S H) (dv : DVs K (wo O H) vs ds)
    (h : match runQ b N.length ds S with
      | .ok d S' => ∀ v H' O', Stp O H O' H' → Ce K O' S' H' → DV K (wo O' H') v d → Q v H'
      | .err x S' => ∀ cls dd H' O', Stp O H O' H' → Ce K O' S' H' → ExOk K (wo O' H') x cls dd → E cls dd H'
      | .stuck => False) : tS K h0 (fun cls d _ H => E cls d H) b { nx := fun _ H' => Q .non H', rt := Q } (L2.start N vs) H := by
  refine body_run ce dv ?_
  unfold runQ at h
  cases e : runS b N.length ds S with
  | stuck => rw [e] at h; exact h.elim
  | ok d S' =>
    rw [e] at h
    intro v H' O' s1 c1 dv1
    by_cases k : CutOk S S' (S'.take S.length) ∧ clD S.length d
    · obtain ⟨O2, s2, c2, hs, ht⟩ := cut_ok ce s1 c1 k.1
      rw [show trimR S (.ok d S') = .ok d (S'.take S.length) from if_pos k] at h
      exact h v H' O2 s2 c2 (DV.clo hs ht d v k.2 dv1)
    · rw [show trimR S (.ok d S') = .ok d S' from if_neg k] at h
      exact h v H' O' s1 c1 dv1
  | err x S' =>
    rw [e] at h
    intro cls dd H' O' s1 c1 ev
    by_cases k : CutOk S S' (S'.take S.length) ∧ clDs S.length (x.fs.map (·.2))
    · obtain ⟨O2, s2, c2, hs, ht⟩ := cut_ok ce s1 c1 k.1
      rw [show trimR S (.err x S') = .err x (S'.take S.length) from if_pos k] at h
      refine h cls dd H' O2 s2 c2 ⟨ev.1, ?_⟩
      rcases ev.2 with q | ⟨a, ws, q1, q2, q3⟩
      · exact .inl q
      · exact .inr ⟨a, ws, q1, hs _ _ q2, q3.clo hs ht k.2⟩
    · rw [show trimR S (.err x S') = .err x S' from if_neg k] at h
      exact h cls dd H' O' s1 c1 ev
section
variable {P : Program} {w : World} {K : Fg} {mg : Str → Option Value} {base : Heap} {x qual : Str} {params : Arguments} {body : List Stmt} {scope : Scope} {f : Addr} {fd : FuncData}
theorem def_okT {k : Nat} {N ps : List Str} {b : SX} (F : FunD K x qual params body scope [] [] f fd) (S : FnScope N ps scope) (hb : Body P w K mg base k N qual scope body b) : FnV P w K mg base (k + 1) f fd ps (runQ b N.length) :=
  F.ok S (fun vs H Q E h => h.1) fun cdv A outer s H vs Q E hr h => by
    obtain ⟨hl, O, St, ds, ce, dv, q⟩ := h
    exact ⟨_, hb f cdv A outer s H E hr, trim_run ce dv q⟩
theorem df_okT {k : Nat} {N ps : List Str} {b : SX} (hg : mg x = some (.ref f)) (F : FunD K x qual params body scope [] [] f fd) (S : FnScope N ps scope) (hbi : Binds K fd ps []) (hb : Body P w K mg base k N qual scope body b) : Df P w K mg base (k + 1) x ps.length (runQ b N.length) :=
  ⟨f, fd, ps, hg, F.kp, hbi, rfl, def_okT F S hb⟩
end
end MB

/-! A cell given up if there is one; a, b = e, f; op=; (x,) * k; room. -/
namespace MB
open PySem PySem.Spec PyProof.Rows L2
def fzAt (ρ : En) (i : Nat) : Option En := match ρ[i]? with
  | some (some (.val (.ce n))) => match ρ.st[n]? with
    | some (some c) => (froze c).map fun d => ⟨ρ.sl.set i (some (.val d)), ρ.st.set n none⟩
    | _ => none
  | _ => none
/-- the value in slot i, if a cell, is given up -/
def sFr (i : Nat) : SX := fun ρ => .nx ((fzAt ρ i).getD ρ)
theorem t_fr {K : Kw} {hx : Hx} {W : WX} {i : Nat} {g : SX} {D : Ends} {σ : MB.St} {H : Hp} (h : tS K hx W (sSeq (sFr i) g) D σ H) : tS K hx W g D σ H := by
  obtain ⟨F, ρ, ⟨O, r⟩, hp⟩ := h
  have hp1 : PoS K hx F W (g ((fzAt ρ i).getD ρ)) D := hp
  cases q : fzAt ρ i with
  | none =>
    rw [q] at hp1
    exact ⟨F, ρ, ⟨O, r⟩, hp1⟩
  | some ρ' =>
    rw [q] at hp1
    unfold fzAt at q
    split at q
    · rename_i n e
      split at q
      · rename_i c e1
        obtain ⟨d, e2, rfl⟩ := Option.map_eq_some_iff.mp q
        exact ⟨F, _, r.fz e e1 e2, hp1⟩
      · cases q
    · cases q
theorem p_fr {X : Cx} {hx : Hx} {W : WX} {st : Stmt} {g : SX} (i : Nat) (h : PS X st (tS X.kw hx W g)) : PS X st (tS X.kw hx W (sSeq (sFr i) g)) := h.imp fun _ _ _ q => t_fr q
/-! ### a, b = e, f -/
def sPar (i j : Nat) (fa fb : EX) : SX := fun ρ => (fa ρ).then fun d ρ1 => (fb ρ1).then fun e ρ2 => .nx ((ρ2.set i (some (.val d))).set j (some (.val e)))
theorem p_par {X : Cx} {hx : Hx} {W : WX} {i j : Nat} {x y : Str} {a b : Expr} {fa fb : EX} {px py pt pos : Pos} {kt k2 : Nat} {pt2 : Pos} (hc : X.calm = true) (hN : X.N.Nodup) (hi : X.N[i]? = some x) (hj : X.N[j]? = some y) (hij : i ≠ j)
    (hx1 : X.env.scope.names.lookup x = some .local) (hy : X.env.scope.names.lookup y = some .local) (ha : PE X a (tX X.kw hx W fa)) (hb : PE X b (tX X.kw hx W fb))
    (hw : swappedStores [.Tuple [.Name x px, .Name y py] kt pt] (.Tuple [a, b] k2 pt2) X.env = pure (some [x, y]))
    (he1 : starEach [b] X.env = (false, eval b X.env) :: starEach [] X.env := by rfl) (he : starEach [a, b] X.env = (false, eval a X.env) :: starEach [b] X.env := by rfl)
    (hs : swapsWithSole [.Tuple [.Name x px, .Name y py] kt pt] (.Tuple [a, b] k2 pt2) pos.line X.env = pure false := by rfl) :
    PS X (.Assign [.Tuple [.Name x px, .Name y py] kt pt] (.Tuple [a, b] k2 pt2) pos) (tS X.kw hx W (sPar i j fa fb)) :=
  (ps_par hc hN hi hj hij hx1 hy (pa_cons ha (pa_cons hb pa_nil he1) he) hw hs).imp fun D σ H h => by
    obtain ⟨F, ρ, ⟨O, r⟩, hp⟩ := h
    refine bindS r hp fun d ρ1 u H1 O1 r1 du hp1 => ?_
    refine bindS (F := ⟨O1, H1⟩) r1.re (PoS.fr r1.fr hp1) fun e ρ2 w H2 O2 r2 dw hp2 => ?_
    exact ⟨u, w, rfl, hp2 _ H2 ⟨O2, (r2.set i (DV.mono r2.fr.fs _ _ du)).set j dw⟩⟩
/-! ### op= on ints -/
def ipD (f : Int → Int → Int) : D → D → Option D
  | .int i, .int j => some (.int (f i j))
  | _, _ => none
theorem s_ip {K : Kw} {f : Int → Int → Int} : Op2 K (ipI f) (ipD f) := by
  intro O H x y d e res Q hd hx hy h q
  cases d <;> cases e <;> try (cases h; done)
  cases hx; cases hy; cases h
  exact ⟨_, _, rfl, rfl, q _ H (Same.refl H) (.int _)⟩
/-! ### (x,) * k -/
def repT : D → D → Option D
  | .tup xs, .int k => if xs ≠ [] ∧ (2 ≤ k ∧ k ≤ 1000) ∧ xs.length ≤ 1000 then some (.tup (List.replicate k.toNat xs).flatten) else none
  | _, _ => none
theorem s_repT {K : Kw} : Op2 K (rRepT K.K) repT := by
  intro O H x y d e res Q hd hx hy h q
  cases d <;> cases e <;> try (cases h; done)
  rename_i xs k
  have h' : (if xs ≠ [] ∧ (2 ≤ k ∧ k ≤ 1000) ∧ xs.length ≤ 1000 then some (D.tup (List.replicate k.toNat xs).flatten) else none) = some res := h
  split at h'
  · rename_i hl
    cases h'
    obtain ⟨a, vs, rfl, s, t⟩ := hx.tup_of
    cases hy
    have ln := t.length
    refine ⟨a, k, vs, rfl, rfl, sqT_mono (wo_same O H) s, fun z => hl.1 ?_, hl.2.1.1, hl.2.1.2, by omega, fun p np => q _ _ (same_upd np) (DV.newT hd np (flat_rep t _))⟩
    subst z
    exact List.eq_nil_of_length_eq_zero (by rw [← ln]; rfl)
  · cases h'
theorem hu1 {k : Nat} {A : Around} (r : Room k A) : A.units + 1 < cLine := by have := r.un; omega
theorem huH1 {k : Nat} {A : Around} (r : L2H.RoomH k A) : A.units + 1 < cLine := by have := r.un; omega
end MB

/-! list(range(..)). -/
namespace MB
open PySem PySem.Spec PyProof.Rows L2
def rgB (a b : Int) : Bool := decide (-(2 ^ 62) ≤ a ∧ a < 2 ^ 62 ∧ -(2 ^ 62) ≤ b ∧ b < 2 ^ 62 ∧ (b - a).toNat ≤ 2 ^ 24)
theorem rg_ok {a b : Int} (h : rgB a b = true) : RgOk a b := by
  unfold rgB at h
  have h2 := of_decide_eq_true h
  exact h2
theorem rg_dvs {K : Kw} {z : Fz} (a b : Int) : DVs K z (rgV a b) (rangeL a (b - a).toNat) := by
  unfold rgV rangeL
  generalize List.range (b - a).toNat = l
  induction l with
  | nil => exact .nil
  | cons x l ih => exact .cons (.int _) ih
def eLR1 (m : Bool) (f : EX) : EX := fun ρ => (f ρ).bind fun d ρ1 => match d with
  | .int n => if rgB 0 n = true then outF m (.new (rangeL 0 (n - 0).toNat)) ρ1 else .stuck
  | _ => .stuck
def eLR2 (m : Bool) (f g : EX) : EX := fun ρ => (f ρ).bind fun d ρ1 => (g ρ1).bind fun e ρ2 => match d, e with
  | .int a, .int b => if rgB a b = true then outF m (.new (rangeL a (b - a).toNat)) ρ2 else .stuck
  | _, _ => .stuck
section
variable {X : Cx} {hx : Hx} {W : WX} {a b : Expr} {fa fb : EX} {pos p p2 pos2 : Pos} {m : Bool}
theorem r_lr1 (hc : X.calm = true) (hm : X.mg "list" = none) (hr : X.mg "range" = none) (ha : PE X a (tX X.kw hx W fa)) (hg : Gl X "list" := by rfl) (hg2 : Gl X "range" := by rfl)
    (na : starEach [Expr.Call (.Name "range" p2) [a] [] pos2] X.env = (false, eval (Expr.Call (.Name "range" p2) [a] [] pos2) X.env) :: starEach [] X.env := by rfl) (na2 : starEach [a] X.env = (false, eval a X.env) :: starEach [] X.env := by rfl) :
    PE X (.Call (.Name "list" p) [.Call (.Name "range" p2) [a] [] pos2] [] pos) (tX X.kw hx W (eLR1 m fa)) :=
  (pe_listRg hc hg hm (prg_1 hg2 hr ha na2) na).imp fun σ H Q h => by
    obtain ⟨F, ρ, ⟨O, r0⟩, hp⟩ := h
    refine bindX r0 hp fun d ρ1 v H1 O1 r1 s1 dv hp1 => ?_
    cases d <;> (try exact hp1.elim)
    rename_i n
    cases dv
    have hp2 : Po X.kw hx F W σ (if rgB 0 n = true then outF m (.new (rangeL 0 (n - 0).toNat)) ρ1 else .stuck) Q := hp1
    split at hp2
    · rename_i hb
      exact ⟨n, rfl, rg_ok hb, fun q nq => ocP_of r1 hp2 q _ nq (rg_dvs 0 n)⟩
    · exact hp2.elim
theorem r_lr2 (hc : X.calm = true) (hm : X.mg "list" = none) (hr : X.mg "range" = none) (ha : PE X a (tX X.kw hx W fa)) (hb : PE X b (tX X.kw hx W fb)) (hg : Gl X "list" := by rfl) (hg2 : Gl X "range" := by rfl)
    (na : starEach [Expr.Call (.Name "range" p2) [a, b] [] pos2] X.env = (false, eval (Expr.Call (.Name "range" p2) [a, b] [] pos2) X.env) :: starEach [] X.env := by rfl) (na2 : starEach [a, b] X.env = (false, eval a X.env) :: starEach [b] X.env := by rfl)
    (nb : starEach [b] X.env = (false, eval b X.env) :: starEach [] X.env := by rfl) (hpp : (backTo pos2 (starEach [b] X.env)).any (·.1) = false := by rfl) :
    PE X (.Call (.Name "list" p) [.Call (.Name "range" p2) [a, b] [] pos2] [] pos) (tX X.kw hx W (eLR2 m fa fb)) :=
  (pe_listRg hc hg hm (prg_2 hg2 hr ha hb na2 nb hpp) na).imp fun σ H Q h => by
    obtain ⟨F, ρ, ⟨O, r0⟩, hp⟩ := h
    refine bindX r0 hp fun d ρ1 v H1 O1 r1 s1 dv hp1 => ?_
    refine bindX r1 hp1 fun e ρ2 u H2 O2 r2 s2 du hp2 => ?_
    cases d <;> (try exact hp2.elim)
    cases e <;> (try exact hp2.elim)
    rename_i i j
    cases dv
    cases du
    have hp3 : Po X.kw hx F W σ (if rgB i j = true then outF m (.new (rangeL i (j - i).toNat)) ρ2 else .stuck) Q := hp2
    split at hp3
    · rename_i hb
      exact ⟨i, j, rfl, rfl, rg_ok hb, fun q nq => ocP_of r2 hp3 q _ nq (rg_dvs i j)⟩
    · exact hp3.elim
end
end MB

/-! Cells given up two levels deep: no step of the program. -/
namespace MB
open PySem PySem.Spec PyProof.Rows L2
def fz1 (S : Store) : D → D × Store
  | .ce n => match S[n]? with
    | some (some (.lst ds)) => (.lst ds, S.set n none)
    | _ => (.ce n, S)
  | d => (d, S)
def fzs (S : Store) : List D → List D × Store
  | [] => ([], S)
  | d :: ds => ((fz1 S d).1 :: (fzs (fz1 S d).2 ds).1, (fzs (fz1 S d).2 ds).2)
def fzL (S : Store) : D → D × Store
  | .lst ds => (.lst (fzs S ds).1, (fzs S ds).2)
  | d => (d, S)
/-- a value and, if it is a list, its items -/
def fz2 (S : Store) (d : D) : D × Store := fzL (fz1 S d).2 (fz1 S d).1
section
variable {K : Kw} {H : Hp}
theorem fz1_ok {O : Ow} {S : Store} {v : V} {d : D} (c : Ce K O S H) (h : DV K (wo O H) v d) : ∃ O', Ce K O' (fz1 S d).2 H ∧ Stp O H O' H ∧ DV K (wo O' H) v (fz1 S d).1 := by
  cases d <;> (try exact ⟨O, c, Stp.refl _ _, h⟩)
  rename_i n
  have e0 : fz1 S (.ce n) = match S[n]? with
    | some (some (.lst ds)) => (.lst ds, S.set n none)
    | _ => (.ce n, S) := rfl
  rw [e0]
  split
  · rename_i ds e
    obtain ⟨a, o, rfl, hth, h1, vs, rfl, t⟩ := c.get h e
    obtain ⟨O', _, c', s', hw⟩ := c.fz e hth
    exact ⟨O', c', s', .lst (hw.trans h1) (DVs.mono s'.fs _ _ t)⟩
  · exact ⟨O, c, Stp.refl _ _, h⟩
theorem fzs_ok : ∀ {ds : List D} {O : Ow} {S : Store} {vs : List V}, Ce K O S H → DVs K (wo O H) vs ds → ∃ O', Ce K O' (fzs S ds).2 H ∧ Stp O H O' H ∧ DVs K (wo O' H) vs (fzs S ds).1
  | [], O, S, _, c, h => by
    cases h
    exact ⟨O, c, Stp.refl _ _, .nil⟩
  | d :: ds, O, S, _, c, h => by
    cases h with
    | cons a b =>
      obtain ⟨O1, c1, s1, d1⟩ := fz1_ok c a
      obtain ⟨O2, c2, s2, d2⟩ := fzs_ok c1 (DVs.mono s1.fs _ _ b)
      exact ⟨O2, c2, s1.trans s2, .cons (DV.mono s2.fs _ _ d1) d2⟩
theorem fz2_ok {O : Ow} {S : Store} {v : V} {d : D} (c : Ce K O S H) (h : DV K (wo O H) v d) : ∃ O', Ce K O' (fz2 S d).2 H ∧ Stp O H O' H ∧ DV K (wo O' H) v (fz2 S d).1 := by
  obtain ⟨O1, c1, s1, d1⟩ := fz1_ok c h
  unfold fz2
  generalize (fz1 S d).2 = S1 at c1 ⊢
  generalize (fz1 S d).1 = d' at d1 ⊢
  cases d' <;> (try exact ⟨O1, c1, s1, d1⟩)
  rename_i ds
  cases d1 with
  | lst e t =>
    obtain ⟨O2, c2, s2, d2⟩ := fzs_ok c1 t
    exact ⟨O2, c2, s1.trans s2, .lst (s2.fs.h _ _ e) d2⟩
end
def fzR (ρ : En) (i : Nat) : Option (Option Sl) → En
  | some (some (.val d)) => ⟨ρ.sl.set i (some (.val (fz2 ρ.st d).1)), (fz2 ρ.st d).2⟩
  | _ => ρ
/-- the value in slot i, its items too, are given up -/
def sFrD (i : Nat) : SX := fun ρ => .nx (fzR ρ i ρ[i]?)
theorem t_frD {K : Kw} {hx : Hx} {W : WX} {i : Nat} {g : SX} {D : Ends} {σ : MB.St} {H : Hp} (h : tS K hx W (sSeq (sFrD i) g) D σ H) : tS K hx W g D σ H := by
  obtain ⟨F, ρ, ⟨O, r⟩, hp⟩ := h
  have hp1 : PoS K hx F W (g (fzR ρ i ρ[i]?)) D := hp
  cases e : ρ[i]? with
  | none => rw [e] at hp1; exact ⟨F, ρ, ⟨O, r⟩, hp1⟩
  | some o =>
    cases o with
    | none => rw [e] at hp1; exact ⟨F, ρ, ⟨O, r⟩, hp1⟩
    | some sl =>
      cases sl with
      | exc y => rw [e] at hp1; exact ⟨F, ρ, ⟨O, r⟩, hp1⟩
      | val d =>
        rw [e] at hp1
        obtain ⟨v, ev, dv⟩ := r.sl i _ e
        obtain ⟨O', c', s', d'⟩ := fz2_ok r.ce (show DV K (wo O H) v d from dv)
        have r1 := r.st s' c'
        refine ⟨F, ⟨ρ.sl.set i (some (.val (fz2 ρ.st d).1)), (fz2 ρ.st d).2⟩, ⟨O', r1.fr, r1.ce, ?_, fun j x ej => ?_⟩, hp1⟩
        · show (ρ.sl.set i _).length = _
          simp [r.len]
        · rcases getset (show (ρ.sl.set i (some (.val (fz2 ρ.st d).1)))[j]? = some (some x) from ej) with ⟨g1, g2, _⟩ | ⟨_, g⟩
          · subst g1
            cases g2
            exact ⟨v, ev, d'⟩
          · exact r1.sl j x g
theorem p_frD {X : Cx} {hx : Hx} {W : WX} {st : Stmt} {g : SX} (i : Nat) (h : PS X st (tS X.kw hx W g)) : PS X st (tS X.kw hx W (sSeq (sFrD i) g)) := h.imp fun _ _ _ q => t_frD q
@[simp] theorem sFrD_ap {ρ : En} {i : Nat} : sFrD i ρ = .nx (fzR ρ i ρ[i]?) := rfl
@[simp] theorem fzR_v {ρ : En} {i : Nat} {d : D} : fzR ρ i (some (some (.val d))) = ⟨ρ.sl.set i (some (.val (fz2 ρ.st d).1)), (fz2 ρ.st d).2⟩ := rfl
@[simp] theorem fzs_nil {S : Store} : fzs S [] = ([], S) := rfl
theorem fzs_cons {S : Store} {d : D} {ds : List D} : fzs S (d :: ds) = ((fz1 S d).1 :: (fzs (fz1 S d).2 ds).1, (fzs (fz1 S d).2 ds).2) := rfl
theorem fz1_c {S : Store} {n : Nat} {ds : List D} (h : S[n]? = some (some (.lst ds))) : fz1 S (.ce n) = (.lst ds, S.set n none) := by
  show (match S[n]? with
    | some (some (.lst ds)) => (D.lst ds, S.set n none)
    | _ => (.ce n, S)) = _
  rw [h]
@[simp] theorem fz1_l {S : Store} {ds : List D} : fz1 S (.lst ds) = (.lst ds, S) := rfl
@[simp] theorem fz1_i {S : Store} {i : Int} : fz1 S (.int i) = (.int i, S) := rfl
@[simp] theorem fz1_t {S : Store} {ds : List D} : fz1 S (.tup ds) = (.tup ds, S) := rfl
theorem fz2_l {S : Store} {ds : List D} : fz2 S (.lst ds) = (.lst (fzs S ds).1, (fzs S ds).2) := rfl
end MB

namespace K53
open PySem PySem.Spec PyProof.Rows L2 MB
def top (i : Nat) : Stmt := PySem.Challenge.pw_madeorbarred_k53_tables_of_strength_two.main.body.getD i (.Pass ⟨0, 0, 0, 0⟩)
def xs : List (Str × List Str) := [("NumberError", ["NumberError", "MadeError", "ValueError", "Exception", "BaseException", "object"]), ("SizeError", ["SizeError", "MadeError", "ValueError", "Exception", "BaseException", "object"]), ("PlaceError", ["PlaceError", "MadeError", "ValueError", "Exception", "BaseException", "object"])]
def dc_MOST_COLUMNS : D := .int 30
def dc_MOST_COUNTED : D := .int 1000
def dc_MOST_LEVELS : D := .int 20
def dc_MOST_ROWS : D := .int 200
def ist_0 : List Str := ["SizeError", "PlaceError", "TooLarge"]
def ist_1 : List Str := ["NumberError", "PlaceError", "TooLarge"]
def ist_2 : List Str := ["SizeError", "SameError", "KindError"]
def xf_count : List Str := ["SizeError"]
def xf_number : List Str := ["NumberError"]
def xf_place : List Str := ["PlaceError"]
def xd_NumberError : XD := xdOf (top 2)
theorem xb_NumberError : PySem.MbX.XBi xd_NumberError.u xd_NumberError.as := PySem.MbX.xbi_one (by decide +kernel) (by decide +kernel) (by decide +kernel)
def xd_PlaceError : XD := xdOf (top 4)
theorem xb_PlaceError : PySem.MbX.XBi xd_PlaceError.u xd_PlaceError.as := PySem.MbX.xbi_one (by decide +kernel) (by decide +kernel) (by decide +kernel)
def xd_SizeError : XD := xdOf (top 3)
theorem xb_SizeError : PySem.MbX.XBi xd_SizeError.u xd_SizeError.as := PySem.MbX.xbi_one (by decide +kernel) (by decide +kernel) (by decide +kernel)
structure Mg (P : Program) (w : World) (K : Fg) (mg : Str → Option Value) : Prop where
  f_ValueError : mg "ValueError" = none
  f_abs : mg "abs" = none
  f_all : mg "all" = none
  f_bool : mg "bool" = none
  f_enumerate : mg "enumerate" = none
  f_int : mg "int" = none
  f_isinstance : mg "isinstance" = none
  f_len : mg "len" = none
  f_list : mg "list" = none
  f_min : mg "min" = none
  f_range : mg "range" = none
  f_str : mg "str" = none
  f_sum : mg "sum" = none
  f_tuple : mg "tuple" = none
  f_zip : mg "zip" = none
  c_MOST_COLUMNS : GC ⟨K, w⟩ mg "MOST_COLUMNS" dc_MOST_COLUMNS
  c_MOST_COUNTED : GC ⟨K, w⟩ mg "MOST_COUNTED" dc_MOST_COUNTED
  c_MOST_LEVELS : GC ⟨K, w⟩ mg "MOST_LEVELS" dc_MOST_LEVELS
  c_MOST_ROWS : GC ⟨K, w⟩ mg "MOST_ROWS" dc_MOST_ROWS
  gd__law_pool : mg "_law_pool" = some (.ref (He.ga K "_law_pool"))
  gd__law_draw : mg "_law_draw" = some (.ref (He.ga K "_law_draw"))
  gd__law_vectors : mg "_law_vectors" = some (.ref (He.ga K "_law_vectors"))
  gd__law_sums : mg "_law_sums" = some (.ref (He.ga K "_law_sums"))
  gd__law_good : mg "_law_good" = some (.ref (He.ga K "_law_good"))
  gd__law_changed : mg "_law_changed" = some (.ref (He.ga K "_law_changed"))
  gd__law_bent : mg "_law_bent" = some (.ref (He.ga K "_law_bent"))
  gd__law_same : mg "_law_same" = some (.ref (He.ga K "_law_same"))
  gd_look_number : mg "look_number" = some (.ref (He.ga K "look_number"))
  gd_least_rows : mg "least_rows" = some (.ref (He.ga K "least_rows"))
  gd__law_numbers : mg "_law_numbers" = some (.ref (He.ga K "_law_numbers"))
  gd__law_least : mg "_law_least" = some (.ref (He.ga K "_law_least"))
  gd__law_fault : mg "_law_fault" = some (.ref (He.ga K "_law_fault"))
  gd__law_refusal : mg "_law_refusal" = some (.ref (He.ga K "_law_refusal"))
  gd_look_size : mg "look_size" = some (.ref (He.ga K "look_size"))
  gd_look_place : mg "look_place" = some (.ref (He.ga K "look_place"))
  gd_look_places : mg "look_places" = some (.ref (He.ga K "look_places"))
  gd__look_table : mg "_look_table" = some (.ref (He.ga K "_look_table"))
  gd__pair_fault : mg "_pair_fault" = some (.ref (He.ga K "_pair_fault"))
  gd_table_fault : mg "table_fault" = some (.ref (He.ga K "table_fault"))
  gd__law_told : mg "_law_told" = some (.ref (He.ga K "_law_told"))
  gd__law_asked : mg "_law_asked" = some (.ref (He.ga K "_law_asked"))
  gd__law_bound : mg "_law_bound" = some (.ref (He.ga K "_law_bound"))
  gd_law : mg "law" = some (.ref (He.ga K "law"))
  gc_KindError : mg "KindError" = some (.ref (He.ga K "KindError"))
  gc_MadeError : mg "MadeError" = some (.ref (He.ga K "MadeError"))
  gc_NumberError : mg "NumberError" = some (.ref (He.ga K "NumberError"))
  gc_PlaceError : mg "PlaceError" = some (.ref (He.ga K "PlaceError"))
  gc_SameError : mg "SameError" = some (.ref (He.ga K "SameError"))
  gc_SizeError : mg "SizeError" = some (.ref (He.ga K "SizeError"))
  gc_TooLarge : mg "TooLarge" = some (.ref (He.ga K "TooLarge"))
  ec : (xs.all fun p => excCB K (He.ga K p.1)) = true
  is_MadeError : ISF K (isX xs "MadeError") (.ref (He.ga K "MadeError"))
  isb_ValueError : ISF K (isX xs "ValueError") (.type "ValueError")
  ist_0 : ISFT K (isXT xs ist_0) (clsVs K ist_0)
  ist_1 : ISFT K (isXT xs ist_1) (clsVs K ist_1)
  ist_2 : ISFT K (isXT xs ist_2) (clsVs K ist_2)
  te_NumberError : TEF K (isX xs "NumberError") (.ref (He.ga K "NumberError"))
  te_PlaceError : TEF K (isX xs "PlaceError") (.ref (He.ga K "PlaceError"))
  te_SizeError : TEF K (isX xs "SizeError") (.ref (He.ga K "SizeError"))
  xf_count : XFF K "count" xf_count
  xf_number : XFF K "number" xf_number
  xf_place : XFF K "place" xf_place
  x_NumberError : PySem.MbX.XT P K mg "NumberError" (He.ga K "NumberError") (xd_NumberError.fI K) (xd_NumberError.cc K) xd_NumberError.u xd_NumberError.as
  x_PlaceError : PySem.MbX.XT P K mg "PlaceError" (He.ga K "PlaceError") (xd_PlaceError.fI K) (xd_PlaceError.cc K) xd_PlaceError.u xd_PlaceError.as
  x_SizeError : PySem.MbX.XT P K mg "SizeError" (He.ga K "SizeError") (xd_SizeError.fI K) (xd_SizeError.cc K) xd_SizeError.u xd_SizeError.as

end K53

namespace K53
open PySem PySem.Spec PyProof.Rows L2 MB
def chkL (K : Fg) : List Bool := [(He.Fa.free "ValueError").ok K,
  (He.Fa.free "abs").ok K,
  (He.Fa.free "all").ok K,
  (He.Fa.free "bool").ok K,
  (He.Fa.free "enumerate").ok K,
  (He.Fa.free "int").ok K,
  (He.Fa.free "isinstance").ok K,
  (He.Fa.free "len").ok K,
  (He.Fa.free "list").ok K,
  (He.Fa.free "min").ok K,
  (He.Fa.free "range").ok K,
  (He.Fa.free "str").ok K,
  (He.Fa.free "sum").ok K,
  (He.Fa.free "tuple").ok K,
  (He.Fa.free "zip").ok K,
  gcB K "MOST_COLUMNS" dc_MOST_COLUMNS,
  gcB K "MOST_COUNTED" dc_MOST_COUNTED,
  gcB K "MOST_LEVELS" dc_MOST_LEVELS,
  gcB K "MOST_ROWS" dc_MOST_ROWS,
  (He.Fa.glo "_law_pool").ok K,
  (He.Fa.glo "_law_draw").ok K,
  (He.Fa.glo "_law_vectors").ok K,
  (He.Fa.glo "_law_sums").ok K,
  (He.Fa.glo "_law_good").ok K,
  (He.Fa.glo "_law_changed").ok K,
  (He.Fa.glo "_law_bent").ok K,
  (He.Fa.glo "_law_same").ok K,
  (He.Fa.glo "look_number").ok K,
  (He.Fa.glo "least_rows").ok K,
  (He.Fa.glo "_law_numbers").ok K,
  (He.Fa.glo "_law_least").ok K,
  (He.Fa.glo "_law_fault").ok K,
  (He.Fa.glo "_law_refusal").ok K,
  (He.Fa.glo "look_size").ok K,
  (He.Fa.glo "look_place").ok K,
  (He.Fa.glo "look_places").ok K,
  (He.Fa.glo "_look_table").ok K,
  (He.Fa.glo "_pair_fault").ok K,
  (He.Fa.glo "table_fault").ok K,
  (He.Fa.glo "_law_told").ok K,
  (He.Fa.glo "_law_asked").ok K,
  (He.Fa.glo "_law_bound").ok K,
  (He.Fa.glo "law").ok K,
  (He.Fa.glo "KindError").ok K,
  (He.Fa.glo "MadeError").ok K,
  (He.Fa.glo "NumberError").ok K,
  (He.Fa.glo "PlaceError").ok K,
  (He.Fa.glo "SameError").ok K,
  (He.Fa.glo "SizeError").ok K,
  (He.Fa.glo "TooLarge").ok K,
  (xs.all fun p => excCB K (He.ga K p.1)),
  isB K xs "MadeError" (.ref (He.ga K "MadeError")),
  isB K xs "ValueError" (.type "ValueError"),
  isTB K xs ist_0,
  isTB K xs ist_1,
  isTB K xs ist_2,
  teB K xs "NumberError" (.ref (He.ga K "NumberError")),
  teB K xs "PlaceError" (.ref (He.ga K "PlaceError")),
  teB K xs "SizeError" (.ref (He.ga K "SizeError")),
  xfFB K "count" xf_count,
  xfFB K "number" xf_number,
  xfFB K "place" xf_place]
def chk (K : Fg) : Bool := (chkL K).all id
theorem chk_at {K : Fg} (c : chk K = true) (i : Nat) {b : Bool} (e : (chkL K)[i]? = some b) : b = true := List.all_eq_true.mp c b (List.mem_of_getElem? e)
def fnL : List He.DefD := [⟨("_law_pool", none), "_law_pool", "_law_pool", defArgs (top 23), defBody (top 23), defScope (top 23), [], []⟩,
  ⟨("_law_draw", none), "_law_draw", "_law_draw", defArgs (top 24), defBody (top 24), defScope (top 24), [], []⟩,
  ⟨("_law_vectors", none), "_law_vectors", "_law_vectors", defArgs (top 26), defBody (top 26), defScope (top 26), [], []⟩,
  ⟨("_law_sums", none), "_law_sums", "_law_sums", defArgs (top 27), defBody (top 27), defScope (top 27), [], []⟩,
  ⟨("_law_good", none), "_law_good", "_law_good", defArgs (top 28), defBody (top 28), defScope (top 28), [], []⟩,
  ⟨("_law_changed", none), "_law_changed", "_law_changed", defArgs (top 29), defBody (top 29), defScope (top 29), [], []⟩,
  ⟨("_law_bent", none), "_law_bent", "_law_bent", defArgs (top 34), defBody (top 34), defScope (top 34), [], []⟩,
  ⟨("_law_same", none), "_law_same", "_law_same", defArgs (top 25), defBody (top 25), defScope (top 25), [], []⟩,
  ⟨("look_number", none), "look_number", "look_number", defArgs (top 9), defBody (top 9), defScope (top 9), [], []⟩,
  ⟨("least_rows", none), "least_rows", "least_rows", defArgs (top 21), defBody (top 21), defScope (top 21), [], []⟩,
  ⟨("_law_numbers", none), "_law_numbers", "_law_numbers", defArgs (top 35), defBody (top 35), defScope (top 35), [], []⟩,
  ⟨("_law_least", none), "_law_least", "_law_least", defArgs (top 36), defBody (top 36), defScope (top 36), [], []⟩,
  ⟨("_law_fault", none), "_law_fault", "_law_fault", defArgs (top 30), defBody (top 30), defScope (top 30), [], []⟩,
  ⟨("_law_refusal", none), "_law_refusal", "_law_refusal", defArgs (top 31), defBody (top 31), defScope (top 31), [], []⟩,
  ⟨("look_size", none), "look_size", "look_size", defArgs (top 10), defBody (top 10), defScope (top 10), [], []⟩,
  ⟨("look_place", none), "look_place", "look_place", defArgs (top 11), defBody (top 11), defScope (top 11), [], []⟩,
  ⟨("look_places", none), "look_places", "look_places", defArgs (top 12), defBody (top 12), defScope (top 12), [], []⟩,
  ⟨("_look_table", none), "_look_table", "_look_table", defArgs (top 18), defBody (top 18), defScope (top 18), [], []⟩,
  ⟨("_pair_fault", none), "_pair_fault", "_pair_fault", defArgs (top 20), defBody (top 20), defScope (top 20), [], []⟩,
  ⟨("table_fault", none), "table_fault", "table_fault", defArgs (top 19), defBody (top 19), defScope (top 19), [], []⟩,
  ⟨("_law_told", none), "_law_told", "_law_told", defArgs (top 32), defBody (top 32), defScope (top 32), [], []⟩,
  ⟨("_law_asked", none), "_law_asked", "_law_asked", defArgs (top 33), defBody (top 33), defScope (top 33), [], []⟩,
  ⟨("_law_bound", none), "_law_bound", "_law_bound", defArgs (top 37), defBody (top 37), defScope (top 37), [], []⟩,
  ⟨("law", none), "law", "law", defArgs (top 38), defBody (top 38), defScope (top 38), [], []⟩]
def xL : List XD := [xd_NumberError, xd_PlaceError, xd_SizeError]
def tsL : Tbs := []
abbrev R : PySem.W.OpenRow := PySem.W.OpenLaw.row PySem.Challenge.rw_madeorbarred_k53_tables_of_strength_two
abbrev fileR : Str := PySem.Challenge.pw_madeorbarred_k53_tables_of_strength_two.main.file
theorem mg_of {K : Fg} {w : World} {h : Heap} {mg : Str → Option Value} (X : K.In h) (G : h.Ns mainGlobals mg) (c : SaysN fileR chk fnL xL tsL w K) : Mg PySem.Challenge.pw_madeorbarred_k53_tables_of_strength_two w K mg :=
  have C := c.m.chk
  have GCX_KindError : mg "KindError" = some (.ref (He.ga K "KindError")) := He.glo_ok X G (x := "KindError") (chk_at C 43 rfl)
  have GCX_MadeError : mg "MadeError" = some (.ref (He.ga K "MadeError")) := He.glo_ok X G (x := "MadeError") (chk_at C 44 rfl)
  have GCX_NumberError : mg "NumberError" = some (.ref (He.ga K "NumberError")) := He.glo_ok X G (x := "NumberError") (chk_at C 45 rfl)
  have GCX_PlaceError : mg "PlaceError" = some (.ref (He.ga K "PlaceError")) := He.glo_ok X G (x := "PlaceError") (chk_at C 46 rfl)
  have GCX_SameError : mg "SameError" = some (.ref (He.ga K "SameError")) := He.glo_ok X G (x := "SameError") (chk_at C 47 rfl)
  have GCX_SizeError : mg "SizeError" = some (.ref (He.ga K "SizeError")) := He.glo_ok X G (x := "SizeError") (chk_at C 48 rfl)
  have GCX_TooLarge : mg "TooLarge" = some (.ref (He.ga K "TooLarge")) := He.glo_ok X G (x := "TooLarge") (chk_at C 49 rfl)
  have EC : (xs.all fun p => excCB K (He.ga K p.1)) = true := chk_at C 50 rfl
  ⟨He.free_ok X G (x := "ValueError") (chk_at C 0 rfl),
   He.free_ok X G (x := "abs") (chk_at C 1 rfl),
   He.free_ok X G (x := "all") (chk_at C 2 rfl),
   He.free_ok X G (x := "bool") (chk_at C 3 rfl),
   He.free_ok X G (x := "enumerate") (chk_at C 4 rfl),
   He.free_ok X G (x := "int") (chk_at C 5 rfl),
   He.free_ok X G (x := "isinstance") (chk_at C 6 rfl),
   He.free_ok X G (x := "len") (chk_at C 7 rfl),
   He.free_ok X G (x := "list") (chk_at C 8 rfl),
   He.free_ok X G (x := "min") (chk_at C 9 rfl),
   He.free_ok X G (x := "range") (chk_at C 10 rfl),
   He.free_ok X G (x := "str") (chk_at C 11 rfl),
   He.free_ok X G (x := "sum") (chk_at C 12 rfl),
   He.free_ok X G (x := "tuple") (chk_at C 13 rfl),
   He.free_ok X G (x := "zip") (chk_at C 14 rfl),
   gc_ok (K := ⟨K, w⟩) X G (chk_at C 15 rfl),
   gc_ok (K := ⟨K, w⟩) X G (chk_at C 16 rfl),
   gc_ok (K := ⟨K, w⟩) X G (chk_at C 17 rfl),
   gc_ok (K := ⟨K, w⟩) X G (chk_at C 18 rfl),
   He.glo_ok X G (x := "_law_pool") (chk_at C 19 rfl),
   He.glo_ok X G (x := "_law_draw") (chk_at C 20 rfl),
   He.glo_ok X G (x := "_law_vectors") (chk_at C 21 rfl),
   He.glo_ok X G (x := "_law_sums") (chk_at C 22 rfl),
   He.glo_ok X G (x := "_law_good") (chk_at C 23 rfl),
   He.glo_ok X G (x := "_law_changed") (chk_at C 24 rfl),
   He.glo_ok X G (x := "_law_bent") (chk_at C 25 rfl),
   He.glo_ok X G (x := "_law_same") (chk_at C 26 rfl),
   He.glo_ok X G (x := "look_number") (chk_at C 27 rfl),
   He.glo_ok X G (x := "least_rows") (chk_at C 28 rfl),
   He.glo_ok X G (x := "_law_numbers") (chk_at C 29 rfl),
   He.glo_ok X G (x := "_law_least") (chk_at C 30 rfl),
   He.glo_ok X G (x := "_law_fault") (chk_at C 31 rfl),
   He.glo_ok X G (x := "_law_refusal") (chk_at C 32 rfl),
   He.glo_ok X G (x := "look_size") (chk_at C 33 rfl),
   He.glo_ok X G (x := "look_place") (chk_at C 34 rfl),
   He.glo_ok X G (x := "look_places") (chk_at C 35 rfl),
   He.glo_ok X G (x := "_look_table") (chk_at C 36 rfl),
   He.glo_ok X G (x := "_pair_fault") (chk_at C 37 rfl),
   He.glo_ok X G (x := "table_fault") (chk_at C 38 rfl),
   He.glo_ok X G (x := "_law_told") (chk_at C 39 rfl),
   He.glo_ok X G (x := "_law_asked") (chk_at C 40 rfl),
   He.glo_ok X G (x := "_law_bound") (chk_at C 41 rfl),
   He.glo_ok X G (x := "law") (chk_at C 42 rfl),
   GCX_KindError,
   GCX_MadeError,
   GCX_NumberError,
   GCX_PlaceError,
   GCX_SameError,
   GCX_SizeError,
   GCX_TooLarge,
   EC,
   is_ok EC (chk_at C 51 rfl),
   is_ok EC (chk_at C 52 rfl),
   ist_ok EC (chk_at C 53 rfl),
   ist_ok EC (chk_at C 54 rfl),
   ist_ok EC (chk_at C 55 rfl),
   te_ok (chk_at C 56 rfl),
   te_ok (chk_at C 57 rfl),
   te_ok (chk_at C 58 rfl),
   xff_ok (chk_at C 59 rfl),
   xff_ok (chk_at C 60 rfl),
   xff_ok (chk_at C 61 rfl),
   xt_of (x := xd_NumberError) X G (by decide +kernel) (c.m.cls 0 rfl).1 (c.m.cls 0 rfl).2,
   xt_of (x := xd_PlaceError) X G (by decide +kernel) (c.m.cls 1 rfl).1 (c.m.cls 1 rfl).2,
   xt_of (x := xd_SizeError) X G (by decide +kernel) (c.m.cls 2 rfl).1 (c.m.cls 2 rfl).2⟩

end K53

namespace K53
open PySem PySem.Spec PyProof.Rows L2 MB
def nm0 : List PySem.Str := ["MadeError", "NumberError", "SizeError", "PlaceError", "SameError", "TooLarge", "KindError", "look_number", "look_size", "look_place", "look_places", "MOST_LEVELS", "MOST_ROWS", "MOST_COLUMNS", "MOST_COUNTED", "_look_table", "table_fault", "_pair_fault", "least_rows", "_law_pool", "_law_draw", "_law_same", "_law_vectors", "_law_sums", "_law_good", "_law_changed", "_law_fault", "_law_refusal", "_law_told", "_law_asked"]
def nm1 : List PySem.Str := ["_law_bent", "_law_numbers", "_law_least", "_law_bound"]
def names : List PySem.Str := nm0 ++ nm1
abbrev hk : PySem.W.Hook := hookN 4 fileR chk fnL xL tsL
def ob (s : PySem.W.SharedT) : AlN := obsNG 4 fileR chk fnL xL tsL (HandSHeadRun.getT s)
theorem ob_eq (s : PySem.W.SharedT) : ob s = hk.obs s.abs := obsNG_eq (HandSHeadRun.getT_eq s)
abbrev Rn (w : World) : Prop := HandSHeadRun.RunEq R (PySem.W.view R.prog [38]) hk ob 9000 names w
theorem map3 {σ α β γ : Type} {e : Option σ} {A : σ → α} {B : σ → β} {C : σ → γ} {a : α} {b : β} {c : γ} (h1 : e.map A = some a) (h2 : e.map B = some b) (h3 : e.map C = some c) : e.map (fun s => (A s, B s, C s)) = some (a, b, c) := by
  cases e with
  | none => cases h1
  | some s => cases h1; cases h2; cases h3; rfl
open PySem.Calls PySem.W in
noncomputable abbrev EF (w : World) (os : OsState) := HandSHeadRun.endF (HandSHeadRun.stepQ (HandSHeadRun.denQ HandSHeadRun.tabQ) R.prog w) 9000 R.prog w os
noncomputable abbrev EQ : Program := PySem.W.view R.prog [38]
abbrev wF (w : World) : World := w.withFollow "special-get-raises" false
abbrev wT (w : World) : World := w.withFollow "special-get-raises" true
open PySem.Calls PySem.W in
theorem pF1 (w : World) (os : OsState) : (EF (wF w) os).map (fun s => HandSHeadRun.looksF R.prog (boot_heap (wF w).params) s.abs) = some true := by
  kernel_rfl
theorem pF2 (w : World) (os : OsState) : (EF (wF w) os).map (fun s => HandSHeadRun.seenQ EQ names (importedModules R.prog.main.body) (fun s => PySem.W.xlAt EQ [] s && PySem.W.recOk R.toRowW.records s) s.abs) = some (PySem.W.openGood EQ names) := by
  kernel_rfl
theorem pF3 (w : World) (os : OsState) : (EF (wF w) os).map (fun s => ob s) = some (hk.val (wF w)) := by
  kernel_rfl
open PySem.Calls PySem.W in
theorem pT1 (w : World) (os : OsState) : (EF (wT w) os).map (fun s => HandSHeadRun.looksF R.prog (boot_heap (wT w).params) s.abs) = some true := by
  kernel_rfl
theorem pT2 (w : World) (os : OsState) : (EF (wT w) os).map (fun s => HandSHeadRun.seenQ EQ names (importedModules R.prog.main.body) (fun s => PySem.W.xlAt EQ [] s && PySem.W.recOk R.toRowW.records s) s.abs) = some (PySem.W.openGood EQ names) := by
  kernel_rfl
theorem pT3 (w : World) (os : OsState) : (EF (wT w) os).map (fun s => ob s) = some (hk.val (wT w)) := by
  kernel_rfl
theorem runF (w : World) : Rn (wF w) := fun os => map3 (pF1 w os) (pF2 w os) (pF3 w os)
theorem runT (w : World) : Rn (wT w) := fun os => map3 (pT1 w os) (pT2 w os) (pT3 w os)
theorem run (w : World) : Rn w := PySem.W.byRow2 "special-get-raises" (P := Rn) runF runT w

end K53

/-! Evaluation of the functions by values, one step a rewrite: a part first, then a frame that waits for it. -/
namespace MB
open PySem PySem.Spec PyProof.Rows L2
variable {ρ : En}
@[simp] theorem ofString_beq (a b : String) : ((Str.ofString a == Str.ofString b) : Bool) = (a == b) := by
  by_cases h : a = b
  · subst h; simp
  · have : Str.ofString a ≠ Str.ofString b := fun e => by
      rw [Str.ofString_eq_toList, Str.ofString_eq_toList] at e
      have e1 : a.toList.map Char.toNat = b.toList.map Char.toNat := by
        have := congrArg (fun s : Str => s.cps.toList) e
        simpa using this
      have inj : ∀ {l m : List Char}, l.map Char.toNat = m.map Char.toNat → l = m := by
        intro l
        induction l with
        | nil => intro m h; cases m <;> simp at h <;> rfl
        | cons c l ih =>
          intro m h
          cases m with
          | nil => simp at h
          | cons d m =>
            simp only [List.map_cons, List.cons.injEq] at h
            rw [ih h.2, Char.toNat_inj.mp h.1]
      have e2 := inj e1
      exact h (String.toList_inj.mp e2)
    rw [beq_eq_false_iff_ne.mpr this, beq_eq_false_iff_ne.mpr h]
@[simp] theorem ofString_eq (a b : String) : (Str.ofString a = Str.ofString b) = (a = b) := by
  have := ofString_beq a b
  by_cases h : a = b
  · subst h; simp
  · have h2 : (a == b) = false := beq_eq_false_iff_ne.mpr h
    rw [h2] at this
    simp [h, beq_eq_false_iff_ne.mp this]

def kO : Option D → En → Rs
  | some z, ρ => .ok z ρ
  | none, _ => .stuck
@[simp] theorem kO_some {z : D} : kO (some z) ρ = .ok z ρ := rfl
@[simp] theorem kO_none  : kO none ρ = .stuck := rfl
theorem kO_eq (o : Option D) (ρ : En) : (match o with | some z => Rs.ok z ρ | none => .stuck) = kO o ρ := by cases o <;> rfl
@[simp] theorem eC_ap {d : D} : eC d ρ = .ok d ρ := rfl
@[simp] theorem eStuck_ap  : eStuck ρ = .stuck := rfl
@[simp] theorem sStuck_ap  : sStuck ρ = .stuck := rfl
def kV (ρ : En) : Option (Option Sl) → Rs
  | some (some (.val d)) => .ok d ρ
  | _ => .stuck
@[simp] theorem eVar_ap {i : Nat} : eVar i ρ = kV ρ ρ[i]? := by
  unfold eVar kV
  rfl
@[simp] theorem kV_val {d : D} : kV ρ (some (some (.val d))) = .ok d ρ := rfl
@[simp] theorem En.set_sl {i : Nat} {x : Option Sl} : (ρ.set i x).sl = ρ.sl.set i x := rfl
@[simp] theorem En.set_st {i : Nat} {x : Option Sl} : (ρ.set i x).st = ρ.st := rfl
def kB2 (op : D → D → Option D) (d : D) : Rs → Rs
  | .ok e ρ => kO (op d e) ρ
  | .err x ρ => .err x ρ
  | .stuck => .stuck
@[simp] theorem kB2_ok {op : D → D → Option D} {d e : D} : kB2 op d (Rs.ok e ρ) = kO (op d e) ρ := rfl
@[simp] theorem kB2_err {op : D → D → Option D} {d : D} {x : Ex} : kB2 op d (Rs.err x ρ) = .err x ρ := rfl
@[simp] theorem kB2_st {op : D → D → Option D} {d : D} : kB2 op d Rs.stuck = .stuck := rfl
def kB1 (op : D → D → Option D) (fb : EX) : Rs → Rs
  | .ok d ρ => kB2 op d (fb ρ)
  | .err x ρ => .err x ρ
  | .stuck => .stuck
@[simp] theorem kB1_ok {op : D → D → Option D} {fb : EX} {d : D} : kB1 op fb (Rs.ok d ρ) = kB2 op d (fb ρ) := rfl
@[simp] theorem kB1_err {op : D → D → Option D} {fb : EX} {x : Ex} : kB1 op fb (Rs.err x ρ) = .err x ρ := rfl
@[simp] theorem kB1_st {op : D → D → Option D} {fb : EX} : kB1 op fb Rs.stuck = .stuck := rfl
@[simp] theorem eB_ap {op : D → D → Option D} {fa fb : EX} : eB op fa fb ρ = kB1 op fb (fa ρ) := by
  show (fa ρ).bind _ = _
  cases fa ρ with
  | ok d ρ1 =>
    show (fb ρ1).bind _ = kB2 op d (fb ρ1)
    cases fb ρ1 with
    | ok e ρ2 => exact kO_eq _ _
    | err x ρ2 => rfl
    | stuck => rfl
  | err x ρ1 => rfl
  | stuck => rfl
def kE1 (op : D → Option D) : Rs → Rs
  | .ok d ρ => kO (op d) ρ
  | .err x ρ => .err x ρ
  | .stuck => .stuck
@[simp] theorem kE1_ok {op : D → Option D} {d : D} : kE1 op (Rs.ok d ρ) = kO (op d) ρ := rfl
@[simp] theorem kE1_err {op : D → Option D} {x : Ex} : kE1 op (Rs.err x ρ) = .err x ρ := rfl
@[simp] theorem kE1_st {op : D → Option D} : kE1 op Rs.stuck = .stuck := rfl
@[simp] theorem e1_ap {op : D → Option D} {fa : EX} : e1 op fa ρ = kE1 op (fa ρ) := by
  show (fa ρ).bind _ = _
  cases fa ρ with
  | ok d ρ1 => exact kO_eq _ _
  | err x ρ1 => rfl
  | stuck => rfl
@[simp] theorem eIsT_ap {T : String} {fa : EX} : eIsT T fa ρ = kE1 (isT T) (fa ρ) := e1_ap
def kT (t f : EX) : Option Bool → En → Rs
  | some true, ρ => t ρ
  | some false, ρ => f ρ
  | none, _ => .stuck
theorem kT_eq (t f : EX) (o : Option Bool) (ρ : En) : (match o with | some true => t ρ | some false => f ρ | none => Rs.stuck) = kT t f o ρ := by
  cases o with
  | none => rfl
  | some b => cases b <;> rfl
@[simp] theorem kT_t {t f : EX} : kT t f (some true) ρ = t ρ := rfl
@[simp] theorem kT_f {t f : EX} : kT t f (some false) ρ = f ρ := rfl
def kN : Option Bool → En → Rs
  | some b, ρ => .ok (.bl (!b)) ρ
  | none, _ => .stuck
theorem kN_eq (o : Option Bool) (ρ : En) : (match o with | some b => Rs.ok (.bl (!b)) ρ | none => .stuck) = kN o ρ := by cases o <;> rfl
@[simp] theorem kN_s {b : Bool} : kN (some b) ρ = .ok (.bl (!b)) ρ := rfl
def kNot  : Rs → Rs
  | .ok d ρ => kN (truth d) ρ
  | .err x ρ => .err x ρ
  | .stuck => .stuck
@[simp] theorem kNot_ok  {d : D} : kNot  (Rs.ok d ρ) = kN (truth d) ρ := rfl
@[simp] theorem kNot_err  {x : Ex} : kNot  (Rs.err x ρ) = .err x ρ := rfl
@[simp] theorem kNot_st  : kNot  Rs.stuck = .stuck := rfl
@[simp] theorem eNot_ap  {fa : EX} : eNot fa ρ = kNot  (fa ρ) := by
  show (fa ρ).bind _ = _
  cases fa ρ with
  | ok d ρ1 => exact kN_eq _ _
  | err x ρ1 => rfl
  | stuck => rfl
def kAnd (fb : EX) : Rs → Rs
  | .ok d ρ => kT fb (eC d) (truth d) ρ
  | .err x ρ => .err x ρ
  | .stuck => .stuck
@[simp] theorem kAnd_ok {fb : EX} {d : D} : kAnd fb (Rs.ok d ρ) = kT fb (eC d) (truth d) ρ := rfl
@[simp] theorem kAnd_err {fb : EX} {x : Ex} : kAnd fb (Rs.err x ρ) = .err x ρ := rfl
@[simp] theorem kAnd_st {fb : EX} : kAnd fb Rs.stuck = .stuck := rfl
@[simp] theorem eAnd_ap {fb : EX} {fa : EX} : eAnd fa fb ρ = kAnd fb (fa ρ) := by
  show (fa ρ).bind _ = _
  cases fa ρ with
  | ok d ρ1 => exact kT_eq fb (eC d) (truth d) ρ1
  | err x ρ1 => rfl
  | stuck => rfl
def kOr (fb : EX) : Rs → Rs
  | .ok d ρ => kT (eC d) fb (truth d) ρ
  | .err x ρ => .err x ρ
  | .stuck => .stuck
@[simp] theorem kOr_ok {fb : EX} {d : D} : kOr fb (Rs.ok d ρ) = kT (eC d) fb (truth d) ρ := rfl
@[simp] theorem kOr_err {fb : EX} {x : Ex} : kOr fb (Rs.err x ρ) = .err x ρ := rfl
@[simp] theorem kOr_st {fb : EX} : kOr fb Rs.stuck = .stuck := rfl
@[simp] theorem eOr_ap {fb : EX} {fa : EX} : eOr fa fb ρ = kOr fb (fa ρ) := by
  show (fa ρ).bind _ = _
  cases fa ρ with
  | ok d ρ1 => exact kT_eq (eC d) fb (truth d) ρ1
  | err x ρ1 => rfl
  | stuck => rfl
def kIfE (fa fb : EX) : Rs → Rs
  | .ok d ρ => kT fa fb (truth d) ρ
  | .err x ρ => .err x ρ
  | .stuck => .stuck
@[simp] theorem kIfE_ok {fa fb : EX} {d : D} : kIfE fa fb (Rs.ok d ρ) = kT fa fb (truth d) ρ := rfl
@[simp] theorem kIfE_err {fa fb : EX} {x : Ex} : kIfE fa fb (Rs.err x ρ) = .err x ρ := rfl
@[simp] theorem kIfE_st {fa fb : EX} : kIfE fa fb Rs.stuck = .stuck := rfl
@[simp] theorem eIf_ap {fa fb : EX} {ft : EX} : eIf ft fa fb ρ = kIfE fa fb (ft ρ) := by
  show (ft ρ).bind _ = _
  cases ft ρ with
  | ok d ρ1 => exact kT_eq fa fb (truth d) ρ1
  | err x ρ1 => rfl
  | stuck => rfl
inductive Ra where
  | ok (ds : List D) (ρ : En) | err (x : Ex) (ρ : En) | stuck
def evl : List EX → List D → En → Ra
  | [], acc, ρ => .ok acc ρ
  | f :: fs, acc, ρ => match f ρ with
    | .ok d ρ1 => evl fs (acc ++ [d]) ρ1
    | .err x ρ1 => .err x ρ1
    | .stuck => .stuck
def kA (fs : List EX) (acc : List D) : Rs → Ra
  | .ok d ρ => evl fs (acc ++ [d]) ρ
  | .err x ρ => .err x ρ
  | .stuck => .stuck
@[simp] theorem evl_nil {acc : List D} : evl [] acc ρ = .ok acc ρ := rfl
@[simp] theorem evl_cons {f : EX} {fs : List EX} {acc : List D} : evl (f :: fs) acc ρ = kA fs acc (f ρ) := by
  show (match f ρ with | .ok d ρ1 => evl fs (acc ++ [d]) ρ1 | .err x ρ1 => .err x ρ1 | .stuck => .stuck) = _
  cases f ρ <;> rfl
@[simp] theorem kA_ok {fs : List EX} {acc : List D} {d : D} : kA fs acc (.ok d ρ) = evl fs (acc ++ [d]) ρ := rfl
@[simp] theorem kA_err {fs : List EX} {acc : List D} {x : Ex} : kA fs acc (.err x ρ) = .err x ρ := rfl
@[simp] theorem kA_st {fs : List EX} {acc : List D} : kA fs acc .stuck = .stuck := rfl
def kK (k : List D → En → Rs) : Ra → Rs
  | .ok ds ρ => k ds ρ
  | .err x ρ => .err x ρ
  | .stuck => .stuck
theorem evs_evl' : ∀ (fs : List EX) (acc : List D) (k : List D → En → Rs) (ρ : En), evs fs (fun ds ρ1 => k (acc ++ ds) ρ1) ρ = kK k (evl fs acc ρ)
  | [], acc, k, ρ => by show k (acc ++ []) ρ = _; rw [List.append_nil]; rfl
  | f :: fs, acc, k, ρ => by
    show (f ρ).bind _ = _
    rw [evl_cons]
    cases f ρ with
    | ok d ρ1 =>
      have := evs_evl' fs (acc ++ [d]) k ρ1
      simp only [List.append_assoc, List.singleton_append] at this
      exact this
    | err x ρ1 => rfl
    | stuck => rfl
theorem evs_evl (fs : List EX) (k : List D → En → Rs) (ρ : En) : evs fs k ρ = kK k (evl fs [] ρ) := evs_evl' fs [] k ρ
def kTup  : Ra → Rs
  | .ok ds ρ => if ds.length ≤ 1000 then .ok (.tup ds) ρ else .stuck
  | .err x ρ => .err x ρ
  | .stuck => .stuck
@[simp] theorem kTup_ok  {ds : List D} : kTup  (Ra.ok ds ρ) = if ds.length ≤ 1000 then .ok (.tup ds) ρ else .stuck := rfl
@[simp] theorem kTup_err  {x : Ex} : kTup  (Ra.err x ρ) = .err x ρ := rfl
@[simp] theorem kTup_st  : kTup  Ra.stuck = .stuck := rfl
@[simp] theorem eTup_ap  {fs : List EX} : eTup fs ρ = kTup  (evl fs [] ρ) := by
  show evs fs _ ρ = _
  rw [evs_evl]
  cases evl fs [] ρ with
  | ok ds ρ1 => exact rfl
  | err x ρ1 => rfl
  | stuck => rfl
def kLst  : Ra → Rs
  | .ok ds ρ => if ds.length ≤ 1000 then .ok (.lst ds) ρ else .stuck
  | .err x ρ => .err x ρ
  | .stuck => .stuck
@[simp] theorem kLst_ok  {ds : List D} : kLst  (Ra.ok ds ρ) = if ds.length ≤ 1000 then .ok (.lst ds) ρ else .stuck := rfl
@[simp] theorem kLst_err  {x : Ex} : kLst  (Ra.err x ρ) = .err x ρ := rfl
@[simp] theorem kLst_st  : kLst  Ra.stuck = .stuck := rfl
@[simp] theorem eLst_ap  {fs : List EX} : eLst fs ρ = kLst  (evl fs [] ρ) := by
  show evs fs _ ρ = _
  rw [evs_evl]
  cases evl fs [] ρ with
  | ok ds ρ1 => exact rfl
  | err x ρ1 => rfl
  | stuck => rfl
def kCall (f : List D → Option D) : Ra → Rs
  | .ok ds ρ => kO (f ds) ρ
  | .err x ρ => .err x ρ
  | .stuck => .stuck
@[simp] theorem kCall_ok {f : List D → Option D} {ds : List D} : kCall f (Ra.ok ds ρ) = kO (f ds) ρ := rfl
@[simp] theorem kCall_err {f : List D → Option D} {x : Ex} : kCall f (Ra.err x ρ) = .err x ρ := rfl
@[simp] theorem kCall_st {f : List D → Option D} : kCall f Ra.stuck = .stuck := rfl
@[simp] theorem eCall_ap {f : List D → Option D} {fs : List EX} : eCall f fs ρ = kCall f (evl fs [] ρ) := by
  show evs fs _ ρ = _
  rw [evs_evl]
  cases evl fs [] ρ with
  | ok ds ρ1 => exact kO_eq _ _
  | err x ρ1 => rfl
  | stuck => rfl
def kR : Rt → En → Rs
  | .ok d S, ρ => .ok d ⟨ρ.sl, S⟩
  | .err x S, ρ => .err x ⟨ρ.sl, S⟩
  | .stuck, _ => .stuck
@[simp] theorem kR_ok {d : D} {S : Store} : kR (.ok d S) ρ = .ok d ⟨ρ.sl, S⟩ := rfl
@[simp] theorem kR_err {x : Ex} {S : Store} : kR (.err x S) ρ = .err x ⟨ρ.sl, S⟩ := rfl
@[simp] theorem kR_st  : kR .stuck ρ = .stuck := rfl
def kFn (m : Fn) : Ra → Rs
  | .ok ds ρ => kR (m ds ρ.st) ρ
  | .err x ρ => .err x ρ
  | .stuck => .stuck
@[simp] theorem kFn_ok {m : Fn} {ds : List D} : kFn m (Ra.ok ds ρ) = kR (m ds ρ.st) ρ := rfl
@[simp] theorem kFn_err {m : Fn} {x : Ex} : kFn m (Ra.err x ρ) = .err x ρ := rfl
@[simp] theorem kFn_st {m : Fn} : kFn m Ra.stuck = .stuck := rfl
@[simp] theorem eFn_ap {m : Fn} {fs : List EX} : eFn m fs ρ = kFn m (evl fs [] ρ) := by
  show evs fs _ ρ = _
  rw [evs_evl]
  cases evl fs [] ρ with
  | ok ds ρ1 => exact (by show (match m ds ρ1.st with | .ok d S => Rs.ok d ⟨ρ1.sl, S⟩ | .err x S => .err x ⟨ρ1.sl, S⟩ | .stuck => .stuck) = kR (m ds ρ1.st) ρ1; cases m ds ρ1.st <;> rfl)
  | err x ρ1 => rfl
  | stuck => rfl
def kRaise (c : Str) (ns : List Str) : Ra → Fl
  | .ok ds ρ => if ds.length = ns.length then .err ⟨c, (ns.zip ds).reverse⟩ ρ else .stuck
  | .err x ρ => .err x ρ
  | .stuck => .stuck
@[simp] theorem kRaise_ok {c : Str} {ns : List Str} {ds : List D} : kRaise c ns (Ra.ok ds ρ) = if ds.length = ns.length then .err ⟨c, (ns.zip ds).reverse⟩ ρ else .stuck := rfl
@[simp] theorem kRaise_err {c : Str} {ns : List Str} {x : Ex} : kRaise c ns (Ra.err x ρ) = .err x ρ := rfl
@[simp] theorem kRaise_st {c : Str} {ns : List Str} : kRaise c ns Ra.stuck = .stuck := rfl
@[simp] theorem sRaise_ap {c : Str} {ns : List Str} {fs : List EX} : sRaise c ns fs ρ = kRaise c ns (evl fs [] ρ) := by
  unfold sRaise
  rw [evs_evl]
  cases evl fs [] ρ with
  | ok ds ρ1 =>
    show Rs.then (if ds.length = ns.length then _ else _) _ = (if ds.length = ns.length then _ else _)
    by_cases h : ds.length = ns.length <;> simp only [h, if_true, if_false] <;> rfl
  | err x ρ1 => rfl
  | stuck => rfl
@[simp] theorem sRaise0_ap {c : Str} : sRaise0 c ρ = .err ⟨c, []⟩ ρ := rfl
def kKK : D → Option L2.Key → En → Rs
  | .dct ks ds, some k, ρ => kO (lookK ks ds k) ρ
  | _, _, _ => .stuck
def kK2 (d : D) : Rs → Rs
  | .ok e ρ => kKK d (keyD e) ρ
  | .err x ρ => .err x ρ
  | .stuck => .stuck
def kK1 (fb : EX) : Rs → Rs
  | .ok d ρ => kK2 d (fb ρ)
  | .err x ρ => .err x ρ
  | .stuck => .stuck
@[simp] theorem kKK_s {ks : List L2.Key} {ds : List D} {k : L2.Key} : kKK (.dct ks ds) (some k) ρ = kO (lookK ks ds k) ρ := rfl
@[simp] theorem kK2_ok {d e : D} : kK2 d (.ok e ρ) = kKK d (keyD e) ρ := rfl
@[simp] theorem kK1_ok {d : D} {fb : EX} : kK1 fb (.ok d ρ) = kK2 d (fb ρ) := rfl
@[simp] theorem eIxK_ap {fa fb : EX} : eIxK fa fb ρ = kK1 fb (fa ρ) := by
  show (fa ρ).bind _ = _
  cases fa ρ with
  | ok d ρ1 =>
    show (fb ρ1).bind _ = kK2 d (fb ρ1)
    cases fb ρ1 with
    | ok e ρ2 =>
      show (match d, keyD e with | .dct ks ds, some k => _ | _, _ => _) = kKK d (keyD e) ρ2
      cases d <;> cases keyD e <;> first | rfl | exact kO_eq _ _
    | err x ρ2 => rfl
    | stuck => rfl
  | err x ρ1 => rfl
  | stuck => rfl
def kTS (l : List (Str × D)) : D → En → Rs
  | .str z, ρ => kO (l.lookup z) ρ
  | _, _ => .stuck
def kIS (l : List (Str × D)) : D → En → Rs
  | .str z, ρ => .ok (.bl (l.lookup z).isSome) ρ
  | _, _ => .stuck
def kNS (l : List (Str × D)) : D → En → Rs
  | .str z, ρ => .ok (.bl !(l.lookup z).isSome) ρ
  | _, _ => .stuck
@[simp] theorem kTS_s {l : List (Str × D)} {z : Str} : kTS l (.str z) ρ = kO (l.lookup z) ρ := rfl
@[simp] theorem kIS_s {l : List (Str × D)} {z : Str} : kIS l (.str z) ρ = .ok (.bl (l.lookup z).isSome) ρ := rfl
@[simp] theorem kNS_s {l : List (Str × D)} {z : Str} : kNS l (.str z) ρ = .ok (.bl !(l.lookup z).isSome) ρ := rfl
def kTbS (l : List (Str × D)) : Rs → Rs
  | .ok d ρ => kTS l d ρ
  | .err x ρ => .err x ρ
  | .stuck => .stuck
@[simp] theorem kTbS_ok {l : List (Str × D)} {d : D} : kTbS l (Rs.ok d ρ) = kTS l d ρ := rfl
@[simp] theorem kTbS_err {l : List (Str × D)} {x : Ex} : kTbS l (Rs.err x ρ) = .err x ρ := rfl
@[simp] theorem kTbS_st {l : List (Str × D)} : kTbS l Rs.stuck = .stuck := rfl
@[simp] theorem eTbS_ap {l : List (Str × D)} {f : EX} : eTbS l f ρ = kTbS l (f ρ) := by
  show (f ρ).bind _ = _
  cases f ρ with
  | ok d ρ1 => exact (by cases d <;> first | rfl | exact kO_eq _ _)
  | err x ρ1 => rfl
  | stuck => rfl
def kInS (l : List (Str × D)) : Rs → Rs
  | .ok d ρ => kIS l d ρ
  | .err x ρ => .err x ρ
  | .stuck => .stuck
@[simp] theorem kInS_ok {l : List (Str × D)} {d : D} : kInS l (Rs.ok d ρ) = kIS l d ρ := rfl
@[simp] theorem kInS_err {l : List (Str × D)} {x : Ex} : kInS l (Rs.err x ρ) = .err x ρ := rfl
@[simp] theorem kInS_st {l : List (Str × D)} : kInS l Rs.stuck = .stuck := rfl
@[simp] theorem eInS_ap {l : List (Str × D)} {f : EX} : eInS l f ρ = kInS l (f ρ) := by
  show (f ρ).bind _ = _
  cases f ρ with
  | ok d ρ1 => exact (by cases d <;> first | rfl | exact kO_eq _ _)
  | err x ρ1 => rfl
  | stuck => rfl
def kNinS (l : List (Str × D)) : Rs → Rs
  | .ok d ρ => kNS l d ρ
  | .err x ρ => .err x ρ
  | .stuck => .stuck
@[simp] theorem kNinS_ok {l : List (Str × D)} {d : D} : kNinS l (Rs.ok d ρ) = kNS l d ρ := rfl
@[simp] theorem kNinS_err {l : List (Str × D)} {x : Ex} : kNinS l (Rs.err x ρ) = .err x ρ := rfl
@[simp] theorem kNinS_st {l : List (Str × D)} : kNinS l Rs.stuck = .stuck := rfl
@[simp] theorem eNinS_ap {l : List (Str × D)} {f : EX} : eNinS l f ρ = kNinS l (f ρ) := by
  show (f ρ).bind _ = _
  cases f ρ with
  | ok d ρ1 => exact (by cases d <;> first | rfl | exact kO_eq _ _)
  | err x ρ1 => rfl
  | stuck => rfl
def kEx (t : Str → Option Bool) (ρ : En) : Option (Option Sl) → Rs
  | some (some (.exc x)) => kO ((t x.c).map .bl) ρ
  | _ => .stuck
@[simp] theorem kEx_s {t : Str → Option Bool} {x : Ex} : kEx t ρ (some (some (.exc x))) = kO ((t x.c).map .bl) ρ := rfl
@[simp] theorem eIsE_ap {i : Nat} {t : Str → Option Bool} : eIsE i t ρ = kEx t ρ ρ[i]? := by
  unfold eIsE
  cases ρ[i]? with
  | none => rfl
  | some o =>
    cases o with
    | none => rfl
    | some s =>
      cases s with
      | exc x =>
        show (match t x.c with | some b => _ | none => _) = kO ((t x.c).map .bl) ρ
        cases t x.c <;> rfl
      | val d => rfl
def kXf (n : Str) (cs : List Str) (ρ : En) : Option (Option Sl) → Rs
  | some (some (.exc x)) => if cs.contains x.c then kO (x.fs.lookup n) ρ else .stuck
  | _ => .stuck
@[simp] theorem kXf_s {n : Str} {cs : List Str} {x : Ex} : kXf n cs ρ (some (some (.exc x))) = (if cs.contains x.c then kO (x.fs.lookup n) ρ else .stuck) := rfl
@[simp] theorem eXf_ap {i : Nat} {n : Str} {cs : List Str} : eXf i n cs ρ = kXf n cs ρ ρ[i]? := by
  unfold eXf
  cases ρ[i]? with
  | none => rfl
  | some o =>
    cases o with
    | none => rfl
    | some s =>
      cases s with
      | exc x =>
        show (if cs.contains x.c then (match x.fs.lookup n with | some d => _ | none => _) else _) = (if cs.contains x.c then kO (x.fs.lookup n) ρ else _)
        cases x.fs.lookup n <;> rfl
      | val d => rfl
def kRE : Rt → En → Rs
  | .ok d S, ρ => .ok d ⟨ρ.sl, S⟩
  | _, _ => .stuck
def kFE (m : Ex → Store → Rt) (ρ : En) : Option (Option Sl) → Rs
  | some (some (.exc x)) => kRE (m x ρ.st) ρ
  | _ => .stuck
@[simp] theorem kRE_ok {d : D} {S : Store} : kRE (.ok d S) ρ = .ok d ⟨ρ.sl, S⟩ := rfl
@[simp] theorem kFE_s {m : Ex → Store → Rt} {x : Ex} : kFE m ρ (some (some (.exc x))) = kRE (m x ρ.st) ρ := rfl
@[simp] theorem eFnE_ap {i : Nat} {m : Ex → Store → Rt} : eFnE i m ρ = kFE m ρ ρ[i]? := by
  unfold eFnE
  cases ρ[i]? with
  | none => rfl
  | some o =>
    cases o with
    | none => rfl
    | some s =>
      cases s with
      | exc x =>
        show (match m x ρ.st with | .ok d S => _ | _ => _) = kRE (m x ρ.st) ρ
        cases m x ρ.st <;> rfl
      | val d => rfl
def kLo (S : Str → Option Fn) (fs : List EX) (ρ : En) : Option Fn → Rs
  | some m => kFn m (evl fs [] ρ)
  | none => .stuck
def kLoc (S : Str → Option Fn) (fs : List EX) (ρ : En) : Option (Option Sl) → Rs
  | some (some (.val (.fn nm))) => kLo S fs ρ (S nm)
  | _ => .stuck
@[simp] theorem kLo_s {S : Str → Option Fn} {fs : List EX} {m : Fn} : kLo S fs ρ (some m) = kFn m (evl fs [] ρ) := rfl
@[simp] theorem kLoc_s {S : Str → Option Fn} {fs : List EX} {nm : Str} : kLoc S fs ρ (some (some (.val (.fn nm)))) = kLo S fs ρ (S nm) := rfl
@[simp] theorem eLoc_ap {i : Nat} {S : Str → Option Fn} {fs : List EX} : eLoc i S fs ρ = kLoc S fs ρ ρ[i]? := by
  unfold eLoc
  cases ρ[i]? with
  | none => rfl
  | some o =>
    cases o with
    | none => rfl
    | some s =>
      cases s with
      | val d =>
        cases d <;> try rfl
        rename_i nm
        show (match S nm with | some m => _ | none => _) = kLo S fs ρ (S nm)
        cases S nm with
        | none => rfl
        | some m => exact eFn_ap
      | exc x => rfl
def kSq (h : SX) : Fl → Fl
  | .nx ρ => h ρ
  | .rt d ρ => .rt d ρ
  | .bk ρ => .bk ρ
  | .ct ρ => .ct ρ
  | .err x ρ => .err x ρ
  | .stuck => .stuck
@[simp] theorem kSq_nx {h : SX} : kSq h (.nx ρ) = h ρ := rfl
@[simp] theorem kSq_rt {h : SX} {d : D} : kSq h (.rt d ρ) = .rt d ρ := rfl
@[simp] theorem kSq_bk {h : SX} : kSq h (.bk ρ) = .bk ρ := rfl
@[simp] theorem kSq_ct {h : SX} : kSq h (.ct ρ) = .ct ρ := rfl
@[simp] theorem kSq_err {h : SX} {x : Ex} : kSq h (.err x ρ) = .err x ρ := rfl
@[simp] theorem kSq_st {h : SX} : kSq h .stuck = .stuck := rfl
@[simp] theorem sSeq_ap {g h : SX} : sSeq g h ρ = kSq h (g ρ) := by
  unfold sSeq
  cases g ρ <;> rfl
@[simp] theorem sNil_ap  : sNil ρ = .nx ρ := rfl
@[simp] theorem sRetN_ap  : sRetN ρ = .rt .non ρ := rfl
@[simp] theorem sBk_ap  : sBk ρ = .bk ρ := rfl
@[simp] theorem sCt_ap  : sCt ρ = .ct ρ := rfl
def kSEx  : Rs → Fl
  | .ok d ρ => .nx ρ
  | .err x ρ => .err x ρ
  | .stuck => .stuck
@[simp] theorem kSEx_ok  {d : D} : kSEx  (Rs.ok d ρ) = .nx ρ := rfl
@[simp] theorem kSEx_err  {x : Ex} : kSEx  (Rs.err x ρ) = .err x ρ := rfl
@[simp] theorem kSEx_st  : kSEx  Rs.stuck = .stuck := rfl
@[simp] theorem sEx_ap  {f : EX} : sEx f ρ = kSEx  (f ρ) := by
  show (f ρ).then _ = _
  cases f ρ with
  | ok d ρ1 => exact rfl
  | err x ρ1 => rfl
  | stuck => rfl
def kSet (i : Nat) : Rs → Fl
  | .ok d ρ => .nx (ρ.set i (some (.val d)))
  | .err x ρ => .err x ρ
  | .stuck => .stuck
@[simp] theorem kSet_ok {i : Nat} {d : D} : kSet i (Rs.ok d ρ) = .nx (ρ.set i (some (.val d))) := rfl
@[simp] theorem kSet_err {i : Nat} {x : Ex} : kSet i (Rs.err x ρ) = .err x ρ := rfl
@[simp] theorem kSet_st {i : Nat} : kSet i Rs.stuck = .stuck := rfl
@[simp] theorem sSet_ap {i : Nat} {f : EX} : sSet i f ρ = kSet i (f ρ) := by
  show (f ρ).then _ = _
  cases f ρ with
  | ok d ρ1 => exact rfl
  | err x ρ1 => rfl
  | stuck => rfl
def kRet  : Rs → Fl
  | .ok d ρ => .rt d ρ
  | .err x ρ => .err x ρ
  | .stuck => .stuck
@[simp] theorem kRet_ok  {d : D} : kRet  (Rs.ok d ρ) = .rt d ρ := rfl
@[simp] theorem kRet_err  {x : Ex} : kRet  (Rs.err x ρ) = .err x ρ := rfl
@[simp] theorem kRet_st  : kRet  Rs.stuck = .stuck := rfl
@[simp] theorem sRet_ap  {f : EX} : sRet f ρ = kRet  (f ρ) := by
  show (f ρ).then _ = _
  cases f ρ with
  | ok d ρ1 => exact rfl
  | err x ρ1 => rfl
  | stuck => rfl
def kIT (g h : SX) : Option Bool → En → Fl
  | some true, ρ => g ρ
  | some false, ρ => h ρ
  | none, _ => .stuck
theorem kIT_eq (g h : SX) (o : Option Bool) (ρ : En) : (match o with | some true => g ρ | some false => h ρ | none => Fl.stuck) = kIT g h o ρ := by
  cases o with
  | none => rfl
  | some b => cases b <;> rfl
@[simp] theorem kIT_t {g h : SX} : kIT g h (some true) ρ = g ρ := rfl
@[simp] theorem kIT_f {g h : SX} : kIT g h (some false) ρ = h ρ := rfl
def kIf (g h : SX) : Rs → Fl
  | .ok d ρ => kIT g h (truth d) ρ
  | .err x ρ => .err x ρ
  | .stuck => .stuck
@[simp] theorem kIf_ok {g h : SX} {d : D} : kIf g h (Rs.ok d ρ) = kIT g h (truth d) ρ := rfl
@[simp] theorem kIf_err {g h : SX} {x : Ex} : kIf g h (Rs.err x ρ) = .err x ρ := rfl
@[simp] theorem kIf_st {g h : SX} : kIf g h Rs.stuck = .stuck := rfl
@[simp] theorem sIf_ap {g h : SX} {c : EX} : sIf c g h ρ = kIf g h (c ρ) := by
  show (c ρ).then _ = _
  cases c ρ with
  | ok d ρ1 => exact kIT_eq g h (truth d) ρ1
  | err x ρ1 => rfl
  | stuck => rfl
def kUO : Option En → Fl
  | some ρ => .nx ρ
  | none => .stuck
theorem kUO_eq (o : Option En) : (match o with | some ρ2 => Fl.nx ρ2 | none => .stuck) = kUO o := by cases o <;> rfl
@[simp] theorem kUO_s  : kUO (some ρ) = .nx ρ := rfl
def kUn (b : BX) : Rs → Fl
  | .ok d ρ => kUO (b d ρ)
  | .err x ρ => .err x ρ
  | .stuck => .stuck
@[simp] theorem kUn_ok {b : BX} {d : D} : kUn b (Rs.ok d ρ) = kUO (b d ρ) := rfl
@[simp] theorem kUn_err {b : BX} {x : Ex} : kUn b (Rs.err x ρ) = .err x ρ := rfl
@[simp] theorem kUn_st {b : BX} : kUn b Rs.stuck = .stuck := rfl
@[simp] theorem sUn_ap {b : BX} {f : EX} : sUn b f ρ = kUn b (f ρ) := by
  show (f ρ).then _ = _
  cases f ρ with
  | ok d ρ1 => exact kUO_eq _
  | err x ρ1 => rfl
  | stuck => rfl
@[simp] theorem bNm_ap {i : Nat} {d : D} : bNm i d ρ = some (ρ.set i (some (.val d))) := rfl
def kBA (bs : List BX) (ds : List D) : Option En → Option En
  | some ρ => bAll bs ds ρ
  | none => none
@[simp] theorem kBA_s {bs : List BX} {ds : List D} : kBA bs ds (some ρ) = bAll bs ds ρ := rfl
@[simp] theorem bAll_nil  : bAll [] [] ρ = some ρ := rfl
@[simp] theorem bAll_cons {b : BX} {bs : List BX} {d : D} {ds : List D} : bAll (b :: bs) (d :: ds) ρ = kBA bs ds (b d ρ) := by
  show (b d ρ).bind _ = _
  cases b d ρ <;> rfl
@[simp] theorem bTp_tup {bs : List BX} {ds : List D} : bTp bs (.tup ds) ρ = (if ds.length = bs.length then bAll bs ds ρ else none) := rfl
def kL2 (b : BX) (g : SX) (ds : List D) : Fl → Fl
  | .nx ρ => loopS b g ds ρ
  | .ct ρ => loopS b g ds ρ
  | .bk ρ => .nx ρ
  | .rt d ρ => .rt d ρ
  | .err x ρ => .err x ρ
  | .stuck => .stuck
@[simp] theorem kL2_nx {b : BX} {g : SX} {ds : List D} : kL2 b g ds (.nx ρ) = loopS b g ds ρ := rfl
@[simp] theorem kL2_ct {b : BX} {g : SX} {ds : List D} : kL2 b g ds (.ct ρ) = loopS b g ds ρ := rfl
@[simp] theorem kL2_bk {b : BX} {g : SX} {ds : List D} : kL2 b g ds (.bk ρ) = .nx ρ := rfl
@[simp] theorem kL2_rt {b : BX} {g : SX} {ds : List D} {d : D} : kL2 b g ds (.rt d ρ) = .rt d ρ := rfl
@[simp] theorem kL2_err {b : BX} {g : SX} {ds : List D} {x : Ex} : kL2 b g ds (.err x ρ) = .err x ρ := rfl
def kL1 (b : BX) (g : SX) (ds : List D) : Option En → Fl
  | some ρ => kL2 b g ds (g ρ)
  | none => .stuck
@[simp] theorem kL1_s {b : BX} {g : SX} {ds : List D} : kL1 b g ds (some ρ) = kL2 b g ds (g ρ) := rfl
@[simp] theorem loopS_nil {b : BX} {g : SX} : loopS b g [] ρ = .nx ρ := rfl
@[simp] theorem loopS_cs {b : BX} {g : SX} {ds : List D} {d : D} : loopS b g (d :: ds) ρ = kL1 b g ds (b d ρ) := by
  conv => lhs; unfold loopS
  cases b d ρ with
  | none => rfl
  | some ρ1 =>
    show (match g ρ1 with | .nx ρ2 => _ | .ct ρ2 => _ | .bk ρ2 => _ | r => _) = kL2 b g ds (g ρ1)
    cases g ρ1 <;> rfl
def kFor (b : BX) (g : SX) : Ri → Fl
  | .ok ds ρ => loopS b g ds ρ
  | .err x ρ => .err x ρ
  | .stuck => .stuck
@[simp] theorem kFor_ok {b : BX} {g : SX} {ds : List D} : kFor b g (.ok ds ρ) = loopS b g ds ρ := rfl
@[simp] theorem kFor_err {b : BX} {g : SX} {x : Ex} : kFor b g (.err x ρ) = .err x ρ := rfl
@[simp] theorem sFor_ap {it : IX} {b : BX} {g : SX} : sFor it b g ρ = kFor b g (it ρ) := by
  unfold sFor
  cases it ρ <;> rfl
def kOI : Option (List D) → En → Ri
  | some ds, ρ => .ok ds ρ
  | none, _ => .stuck
@[simp] theorem kOI_s {ds : List D} : kOI (some ds) ρ = .ok ds ρ := rfl
def kIV (items : D → Option (List D)) : Rs → Ri
  | .ok d ρ => kOI (items d) ρ
  | .err x ρ => .err x ρ
  | .stuck => .stuck
@[simp] theorem kIV_ok {items : D → Option (List D)} {d : D} : kIV items (.ok d ρ) = kOI (items d) ρ := rfl
@[simp] theorem kIV_err {items : D → Option (List D)} {x : Ex} : kIV items (.err x ρ) = .err x ρ := rfl
@[simp] theorem iV_ap {items : D → Option (List D)} {f : EX} : iV items f ρ = kIV items (f ρ) := by
  unfold iV iB
  cases f ρ with
  | ok d ρ1 =>
    show (match items d with | some ds => _ | none => _) = kOI (items d) ρ1
    cases items d <;> rfl
  | err x ρ1 => rfl
  | stuck => rfl
@[simp] theorem seqI_t {xs : List D} : seqI (.tup xs) = some xs := rfl
@[simp] theorem seqI_l {xs : List D} : seqI (.lst xs) = some xs := rfl
def kR1 : Rs → Ri
  | .ok (.int n) ρ => if big n = true then .ok (rangeL 0 n.toNat) ρ else .stuck
  | .ok _ _ => .stuck
  | .err x ρ => .err x ρ
  | .stuck => .stuck
@[simp] theorem kR1_ok {n : Int} : kR1 (.ok (.int n) ρ) = (if big n = true then .ok (rangeL 0 n.toNat) ρ else .stuck) := rfl
@[simp] theorem iR1_ap {f : EX} : iR1 f ρ = kR1 (f ρ) := by
  unfold iR1 iB
  cases f ρ with
  | ok d ρ1 => cases d <;> rfl
  | err x ρ1 => rfl
  | stuck => rfl
def kR22 : D → D → En → Ri
  | .int a, .int b, ρ => if big a = true ∧ big b = true then .ok (rangeL a (b - a).toNat) ρ else .stuck
  | _, _, _ => .stuck
def kZZ : D → D → En → Ri
  | .lst xs, .lst ys, ρ => .ok (zipD xs ys) ρ
  | .tup xs, .tup ys, ρ => .ok (zipD xs ys) ρ
  | _, _, _ => .stuck
def kI2 (k : D → D → En → Ri) (d : D) : Rs → Ri
  | .ok e ρ => k d e ρ
  | .err x ρ => .err x ρ
  | .stuck => .stuck
def kI1 (k : D → D → En → Ri) (g : EX) : Rs → Ri
  | .ok d ρ => kI2 k d (g ρ)
  | .err x ρ => .err x ρ
  | .stuck => .stuck
@[simp] theorem kR22_s {a b : Int} : kR22 (.int a) (.int b) ρ = (if big a = true ∧ big b = true then .ok (rangeL a (b - a).toNat) ρ else .stuck) := rfl
@[simp] theorem kZZ_l {xs ys : List D} : kZZ (.lst xs) (.lst ys) ρ = .ok (zipD xs ys) ρ := rfl
@[simp] theorem kZZ_t {xs ys : List D} : kZZ (.tup xs) (.tup ys) ρ = .ok (zipD xs ys) ρ := rfl
@[simp] theorem kI2_ok {k : D → D → En → Ri} {d e : D} : kI2 k d (.ok e ρ) = k d e ρ := rfl
@[simp] theorem kI1_ok {k : D → D → En → Ri} {g : EX} {d : D} : kI1 k g (.ok d ρ) = kI2 k d (g ρ) := rfl
@[simp] theorem iR2_ap {f g : EX} : iR2 f g ρ = kI1 kR22 g (f ρ) := by
  unfold iR2 iB
  cases f ρ with
  | ok d ρ1 =>
    show (match g ρ1 with | .ok d ρ1 => _ | .err x ρ1 => _ | .stuck => _) = kI2 kR22 d (g ρ1)
    cases g ρ1 with
    | ok e ρ2 => cases d <;> cases e <;> rfl
    | err x ρ2 => rfl
    | stuck => rfl
  | err x ρ1 => rfl
  | stuck => rfl
@[simp] theorem iZ_ap {f g : EX} : iZ f g ρ = kI1 kZZ g (f ρ) := by
  unfold iZ iB
  cases f ρ with
  | ok d ρ1 =>
    show (match g ρ1 with | .ok d ρ1 => _ | .err x ρ1 => _ | .stuck => _) = kI2 kZZ d (g ρ1)
    cases g ρ1 with
    | ok e ρ2 => cases d <;> cases e <;> rfl
    | err x ρ2 => rfl
    | stuck => rfl
  | err x ρ1 => rfl
  | stuck => rfl
@[simp] theorem zipD_nil {ys : List D} : zipD [] ys = [] := rfl
@[simp] theorem zipD_nil2 {xs : List D} : zipD xs [] = [] := by simp [zipD]
@[simp] theorem zipD_cons {x y : D} {xs ys : List D} : zipD (x :: xs) (y :: ys) = .tup [x, y] :: zipD xs ys := rfl
def kC3 (b : BX) (c e : EX) (vs : List Nat) (ds acc : List D) : Rs → Rs
  | .ok y ρ => compL b c e vs ds (acc ++ [y]) ρ
  | .err x ρ => .err x ρ
  | .stuck => .stuck
def kC2 (b : BX) (c e : EX) (vs : List Nat) (ds acc : List D) (ρ : En) : Option Bool → Rs
  | some true => kC3 b c e vs ds acc (e ρ)
  | some false => compL b c e vs ds acc ρ
  | none => .stuck
def kC1 (b : BX) (c e : EX) (vs : List Nat) (ds acc : List D) : Rs → Rs
  | .ok t ρ => kC2 b c e vs ds acc ρ (truth t)
  | .err x ρ => .err x ρ
  | .stuck => .stuck
def kC0 (b : BX) (c e : EX) (vs : List Nat) (ds acc : List D) : Option En → Rs
  | some ρ => kC1 b c e vs ds acc (c ρ)
  | none => .stuck
@[simp] theorem kC3_ok {b : BX} {c e : EX} {vs : List Nat} {ds acc : List D} {y : D} : kC3 b c e vs ds acc (.ok y ρ) = compL b c e vs ds (acc ++ [y]) ρ := rfl
@[simp] theorem kC2_t {b : BX} {c e : EX} {vs : List Nat} {ds acc : List D} : kC2 b c e vs ds acc ρ (some true) = kC3 b c e vs ds acc (e ρ) := rfl
@[simp] theorem kC2_f {b : BX} {c e : EX} {vs : List Nat} {ds acc : List D} : kC2 b c e vs ds acc ρ (some false) = compL b c e vs ds acc ρ := rfl
@[simp] theorem kC1_ok {b : BX} {c e : EX} {vs : List Nat} {ds acc : List D} {t : D} : kC1 b c e vs ds acc (.ok t ρ) = kC2 b c e vs ds acc ρ (truth t) := rfl
@[simp] theorem kC0_s {b : BX} {c e : EX} {vs : List Nat} {ds acc : List D} : kC0 b c e vs ds acc (some ρ) = kC1 b c e vs ds acc (c ρ) := rfl
@[simp] theorem compL_nil {b : BX} {c e : EX} {vs : List Nat} {acc : List D} : compL b c e vs [] acc ρ = .ok (.lst acc) ρ := rfl
@[simp] theorem compL_cs {b : BX} {c e : EX} {vs : List Nat} {ds acc : List D} {d : D} : compL b c e vs (d :: ds) acc ρ = kC0 b c e vs ds acc (b d (wipeE ρ vs)) := by
  conv => lhs; unfold compL
  cases b d (wipeE ρ vs) with
  | none => rfl
  | some ρ1 =>
    show (c ρ1).bind _ = kC1 b c e vs ds acc (c ρ1)
    cases c ρ1 with
    | ok t ρ2 =>
      show (match truth t with | some true => _ | some false => _ | none => _) = kC2 b c e vs ds acc ρ2 (truth t)
      cases truth t with
      | none => rfl
      | some q =>
        cases q with
        | false => rfl
        | true =>
          show (e ρ2).bind _ = kC3 b c e vs ds acc (e ρ2)
          cases e ρ2 <;> rfl
    | err x ρ2 => rfl
    | stuck => rfl
def kCE (ρ1 : En) (vs : List Nat) : Rs → Rs
  | .ok d ρ => .ok d (backE ρ1 (wipeE ρ vs) vs)
  | _ => .stuck
def kCo (b : BX) (c e : EX) (vs : List Nat) : Ri → Rs
  | .ok ds ρ => if ds.length ≤ 1000000 then kCE ρ vs (compL b c e vs ds [] ρ) else .stuck
  | .err x ρ => .err x ρ
  | .stuck => .stuck
@[simp] theorem kCE_ok {ρ1 : En} {vs : List Nat} {d : D} : kCE ρ1 vs (.ok d ρ) = .ok d (backE ρ1 (wipeE ρ vs) vs) := rfl
@[simp] theorem kCo_ok {b : BX} {c e : EX} {vs : List Nat} {ds : List D} : kCo b c e vs (.ok ds ρ) = (if ds.length ≤ 1000000 then kCE ρ vs (compL b c e vs ds [] ρ) else .stuck) := rfl
@[simp] theorem eComp_ap {it : IX} {b : BX} {c e : EX} {vs : List Nat} : eComp it b c e vs ρ = kCo b c e vs (it ρ) := by
  unfold eComp
  cases it ρ with
  | ok ds ρ1 =>
    show (if ds.length ≤ 1000000 then _ else _) = (if ds.length ≤ 1000000 then _ else _)
    split
    · cases compL b c e vs ds [] ρ1 <;> rfl
    · rfl
  | err x ρ1 => rfl
  | stuck => rfl
@[simp] theorem wipeE_nil : wipeE ρ [] = ρ := rfl
@[simp] theorem wipeE_cons {v : Nat} {vs : List Nat} : wipeE ρ (v :: vs) = (wipeE ρ vs).set v none := rfl
@[simp] theorem backE_nil {ρ0 : En} : backE ρ0 ρ [] = ρ := rfl
@[simp] theorem backE_cons {ρ0 : En} {v : Nat} {vs : List Nat} : backE ρ0 ρ (v :: vs) = (backE ρ0 ρ vs).set v (ρ0.sl.getD v none) := rfl
def kMl : Rs → List Nat → En → Rs
  | .ok (.lst acc) ρ, vs, ρ1 => .ok (.ce ρ.st.length) ⟨(backE ρ1 (wipeE ρ vs) vs).sl, ρ.st ++ [some (.lst acc)]⟩
  | _, _, _ => .stuck
def kCoM (b : BX) (c e : EX) (vs : List Nat) : Ri → Rs
  | .ok ds ρ => if ds.length ≤ 1000000 then kMl (compL b c e vs ds [] ρ) vs ρ else .stuck
  | .err x ρ => .err x ρ
  | .stuck => .stuck
@[simp] theorem kMl_ok {acc : List D} {vs : List Nat} {ρ1 : En} : kMl (.ok (.lst acc) ρ) vs ρ1 = .ok (.ce ρ.st.length) ⟨(backE ρ1 (wipeE ρ vs) vs).sl, ρ.st ++ [some (.lst acc)]⟩ := rfl
@[simp] theorem kCoM_ok {b : BX} {c e : EX} {vs : List Nat} {ds : List D} : kCoM b c e vs (.ok ds ρ) = (if ds.length ≤ 1000000 then kMl (compL b c e vs ds [] ρ) vs ρ else .stuck) := rfl
@[simp] theorem eCompM_ap {it : IX} {b : BX} {c e : EX} {vs : List Nat} : eCompM it b c e vs ρ = kCoM b c e vs (it ρ) := by
  unfold eCompM
  cases it ρ with
  | ok ds ρ1 =>
    show (if ds.length ≤ 1000000 then _ else _) = (if ds.length ≤ 1000000 then _ else _)
    split
    · cases compL b c e vs ds [] ρ1 with
      | ok d ρ2 => cases d <;> rfl
      | err x ρ2 => rfl
      | stuck => rfl
    · rfl
  | err x ρ1 => rfl
  | stuck => rfl
def kSc : Option D → En → Rs
  | some z, ρ => if scal z = true then .ok z ρ else .stuck
  | none, _ => .stuck
theorem kSc_eq (o : Option D) (ρ : En) : (match o with | some z => if scal z = true then Rs.ok z ρ else .stuck | none => .stuck) = kSc o ρ := by cases o <;> rfl
@[simp] theorem kSc_b {b : Bool} : kSc (some (.bl b)) ρ = .ok (.bl b) ρ := rfl
@[simp] theorem kSc_i {b : Int} : kSc (some (.int b)) ρ = .ok (.int b) ρ := rfl
@[simp] theorem kSc_n : kSc (some .non) ρ = .ok .non ρ := rfl
@[simp] theorem kSc_s {b : Str} : kSc (some (.str b)) ρ = .ok (.str b) ρ := rfl
def kBs2 (n : Nat) (op : D → D → Option D) (d : D) : Rs → Rs
  | .ok e ρ => kSc (op (seeD ρ.st n d) (seeD ρ.st n e)) ρ
  | .err x ρ => .err x ρ
  | .stuck => .stuck
def kBs1 (n : Nat) (op : D → D → Option D) (fb : EX) : Rs → Rs
  | .ok d ρ => kBs2 n op d (fb ρ)
  | .err x ρ => .err x ρ
  | .stuck => .stuck
@[simp] theorem kBs2_ok {n : Nat} {op : D → D → Option D} {d e : D} : kBs2 n op d (.ok e ρ) = kSc (op (seeD ρ.st n d) (seeD ρ.st n e)) ρ := rfl
@[simp] theorem kBs1_ok {n : Nat} {op : D → D → Option D} {fb : EX} {d : D} : kBs1 n op fb (.ok d ρ) = kBs2 n op d (fb ρ) := rfl
@[simp] theorem eBs_ap {n : Nat} {op : D → D → Option D} {fa fb : EX} : eBs n op fa fb ρ = kBs1 n op fb (fa ρ) := by
  show (fa ρ).bind _ = _
  cases fa ρ with
  | ok d ρ1 =>
    show (fb ρ1).bind _ = kBs2 n op d (fb ρ1)
    cases fb ρ1 with
    | ok e ρ2 => exact kSc_eq _ _
    | err x ρ2 => rfl
    | stuck => rfl
  | err x ρ1 => rfl
  | stuck => rfl
def kF (m : Bool) : Option Oc → En → Rs
  | some z, ρ => outF m z ρ
  | none, _ => .stuck
theorem kF_eq (m : Bool) (o : Option Oc) (ρ : En) : (match o with | some z => outF m z ρ | none => .stuck) = kF m o ρ := by cases o <;> rfl
@[simp] theorem kF_v {m : Bool} {d : D} : kF m (some (.val d)) ρ = .ok d ρ := rfl
@[simp] theorem kF_t {ds : List D} : kF true (some (.new ds)) ρ = .ok (.ce ρ.st.length) ⟨ρ.sl, ρ.st ++ [some (.lst ds)]⟩ := rfl
@[simp] theorem kF_f {ds : List D} : kF false (some (.new ds)) ρ = .ok (.lst ds) ρ := rfl
def kBF2 (m : Bool) (op : D → D → Option Oc) (d : D) : Rs → Rs
  | .ok e ρ => kF m (op (see1 ρ.st d) (see1 ρ.st e)) ρ
  | .err x ρ => .err x ρ
  | .stuck => .stuck
def kBF1 (m : Bool) (op : D → D → Option Oc) (fb : EX) : Rs → Rs
  | .ok d ρ => kBF2 m op d (fb ρ)
  | .err x ρ => .err x ρ
  | .stuck => .stuck
@[simp] theorem kBF2_ok {m : Bool} {op : D → D → Option Oc} {d e : D} : kBF2 m op d (.ok e ρ) = kF m (op (see1 ρ.st d) (see1 ρ.st e)) ρ := rfl
@[simp] theorem kBF1_ok {m : Bool} {op : D → D → Option Oc} {fb : EX} {d : D} : kBF1 m op fb (.ok d ρ) = kBF2 m op d (fb ρ) := rfl
@[simp] theorem eBF_ap {m : Bool} {op : D → D → Option Oc} {fa fb : EX} : eBF m op fa fb ρ = kBF1 m op fb (fa ρ) := by
  show (fa ρ).bind _ = _
  cases fa ρ with
  | ok d ρ1 =>
    show (fb ρ1).bind _ = kBF2 m op d (fb ρ1)
    cases fb ρ1 with
    | ok e ρ2 => exact kF_eq _ _ _
    | err x ρ2 => rfl
    | stuck => rfl
  | err x ρ1 => rfl
  | stuck => rfl
def kCF (m : Bool) (f : D → Option Oc) : Ra → Rs
  | .ok [d] ρ => kF m (f (see1 ρ.st d)) ρ
  | .ok _ _ => .stuck
  | .err x ρ => .err x ρ
  | .stuck => .stuck
@[simp] theorem kCF_ok {m : Bool} {f : D → Option Oc} {d : D} : kCF m f (.ok [d] ρ) = kF m (f (see1 ρ.st d)) ρ := rfl
@[simp] theorem kCF_err {m : Bool} {f : D → Option Oc} {x : Ex} : kCF m f (.err x ρ) = .err x ρ := rfl
@[simp] theorem eCallF_ap {m : Bool} {f : D → Option Oc} {fa : EX} : eCallF m f fa ρ = kCF m f (evl [fa] [] ρ) := by
  unfold eCallF
  rw [evs_evl]
  cases evl [fa] [] ρ with
  | ok ds ρ1 =>
    match ds with
    | [] => rfl
    | [d] => exact kF_eq _ _ _
    | _ :: _ :: _ => rfl
  | err x ρ1 => rfl
  | stuck => rfl
def kLS : Ra → Rs
  | .ok [d] ρ => kO (lenS ρ.st d) ρ
  | .ok _ _ => .stuck
  | .err x ρ => .err x ρ
  | .stuck => .stuck
@[simp] theorem kLS_ok {d : D} : kLS (.ok [d] ρ) = kO (lenS ρ.st d) ρ := rfl
@[simp] theorem kLS_err {x : Ex} : kLS (.err x ρ) = .err x ρ := rfl
@[simp] theorem eLenS_ap {fa : EX} : eLenS fa ρ = kLS (evl [fa] [] ρ) := by
  unfold eLenS
  rw [evs_evl]
  cases evl [fa] [] ρ with
  | ok ds ρ1 =>
    match ds with
    | [] => rfl
    | [d] => exact kO_eq _ _
    | _ :: _ :: _ => rfl
  | err x ρ1 => rfl
  | stuck => rfl
def kLM : Ra → Rs
  | .ok ds ρ => if ds.length ≤ 1000 then .ok (.ce ρ.st.length) ⟨ρ.sl, ρ.st ++ [some (.lst ds)]⟩ else .stuck
  | .err x ρ => .err x ρ
  | .stuck => .stuck
@[simp] theorem kLM_ok {ds : List D} : kLM (.ok ds ρ) = (if ds.length ≤ 1000 then .ok (.ce ρ.st.length) ⟨ρ.sl, ρ.st ++ [some (.lst ds)]⟩ else .stuck) := rfl
@[simp] theorem eLstM_ap {fs : List EX} : eLstM fs ρ = kLM (evl fs [] ρ) := by
  unfold eLstM
  rw [evs_evl]
  cases evl fs [] ρ <;> rfl
def kMu3 (n : Nat) (ρ : En) : Option (D × List D) → Rs
  | some (res, ds) => .ok res ⟨ρ.sl, ρ.st.set n (some (.lst ds))⟩
  | none => .stuck
def kMu2 (f : List D → List D → Option (D × List D)) (es : List D) (ρ : En) : Option (Nat × List D) → Rs
  | some (n, ds) => kMu3 n ρ (f ds es)
  | none => .stuck
def kMu1 (f : List D → List D → Option (D × List D)) (d : D) : Ra → Rs
  | .ok es ρ => kMu2 f es ρ (lstAt ρ.st d)
  | .err x ρ => .err x ρ
  | .stuck => .stuck
def kMu0 (f : List D → List D → Option (D × List D)) (fs : List EX) (d : D) (ρ : En) : Option (Nat × List D) → Rs
  | some _ => kMu1 f d (evl fs [] ρ)
  | none => .stuck
def kMu (f : List D → List D → Option (D × List D)) (fs : List EX) : Rs → Rs
  | .ok d ρ => kMu0 f fs d ρ (lstAt ρ.st d)
  | .err x ρ => .err x ρ
  | .stuck => .stuck
section
variable {f : List D → List D → Option (D × List D)} {fs : List EX} {d res : D} {ds es : List D} {n : Nat}
@[simp] theorem kMu3_s : kMu3 n ρ (some (res, ds)) = .ok res ⟨ρ.sl, ρ.st.set n (some (.lst ds))⟩ := rfl
@[simp] theorem kMu2_s : kMu2 f es ρ (some (n, ds)) = kMu3 n ρ (f ds es) := rfl
@[simp] theorem kMu1_ok : kMu1 f d (.ok es ρ) = kMu2 f es ρ (lstAt ρ.st d) := rfl
@[simp] theorem kMu1_err {x : Ex} : kMu1 f d (.err x ρ) = .err x ρ := rfl
@[simp] theorem kMu0_s {p : Nat × List D} : kMu0 f fs d ρ (some p) = kMu1 f d (evl fs [] ρ) := rfl
@[simp] theorem kMu_ok : kMu f fs (.ok d ρ) = kMu0 f fs d ρ (lstAt ρ.st d) := rfl
@[simp] theorem kMu_err {x : Ex} : kMu f fs (.err x ρ) = .err x ρ := rfl
end
@[simp] theorem eMut_ap {f : List D → List D → Option (D × List D)} {fo : EX} {fs : List EX} : eMut f fo fs ρ = kMu f fs (fo ρ) := by
  show (fo ρ).bind _ = _
  cases fo ρ with
  | ok d ρ1 =>
    show (match lstAt ρ1.st d with | some _ => _ | none => _) = kMu0 f fs d ρ1 (lstAt ρ1.st d)
    cases lstAt ρ1.st d with
    | none => rfl
    | some p =>
      show evs fs _ ρ1 = kMu1 f d (evl fs [] ρ1)
      rw [evs_evl]
      cases evl fs [] ρ1 with
      | ok es ρ2 =>
        show (match lstAt ρ2.st d with | some (n, ds) => _ | none => _) = kMu2 f es ρ2 (lstAt ρ2.st d)
        cases lstAt ρ2.st d with
        | none => rfl
        | some q =>
          obtain ⟨n, ds⟩ := q
          show (match f ds es with | some (res, ds') => _ | none => _) = kMu3 n ρ2 (f ds es)
          cases f ds es with
          | none => rfl
          | some r => rfl
      | err x ρ2 => rfl
      | stuck => rfl
  | err x ρ1 => rfl
  | stuck => rfl
def kIx2 (d : D) : Rs → Rs
  | .ok e ρ => kO (ixS ρ.st d e) ρ
  | .err x ρ => .err x ρ
  | .stuck => .stuck
def kIx1 (fb : EX) : Rs → Rs
  | .ok d ρ => kIx2 d (fb ρ)
  | .err x ρ => .err x ρ
  | .stuck => .stuck
@[simp] theorem kIx2_ok {d e : D} : kIx2 d (.ok e ρ) = kO (ixS ρ.st d e) ρ := rfl
@[simp] theorem kIx2_err {d : D} {x : Ex} : kIx2 d (.err x ρ) = .err x ρ := rfl
@[simp] theorem kIx1_ok {d : D} {fb : EX} : kIx1 fb (.ok d ρ) = kIx2 d (fb ρ) := rfl
@[simp] theorem kIx1_err {fb : EX} {x : Ex} : kIx1 fb (.err x ρ) = .err x ρ := rfl
@[simp] theorem eIxS_ap {fa fb : EX} : eIxS fa fb ρ = kIx1 fb (fa ρ) := by
  show (fa ρ).bind _ = _
  cases fa ρ with
  | ok d ρ1 =>
    show (fb ρ1).bind _ = kIx2 d (fb ρ1)
    cases fb ρ1 with
    | ok e ρ2 => exact kO_eq _ _
    | err x ρ2 => rfl
    | stuck => rfl
  | err x ρ1 => rfl
  | stuck => rfl
def kNo (neg : Bool) : Option D → En → Rs
  | some z, ρ => .ok (if neg = true then notD z else z) ρ
  | none, _ => .stuck
@[simp] theorem kNo_f {z : D} : kNo false (some z) ρ = .ok z ρ := rfl
@[simp] theorem kNo_t {z : D} : kNo true (some z) ρ = .ok (notD z) ρ := rfl
@[simp] theorem notD_b {b : Bool} : notD (.bl b) = .bl (!b) := rfl
def kIn2 (neg : Bool) (n : Nat) (d : D) : Rs → Rs
  | .ok e ρ => kNo neg (inS n ρ.st d e) ρ
  | .err x ρ => .err x ρ
  | .stuck => .stuck
def kIn1 (neg : Bool) (n : Nat) (fb : EX) : Rs → Rs
  | .ok d ρ => kIn2 neg n d (fb ρ)
  | .err x ρ => .err x ρ
  | .stuck => .stuck
@[simp] theorem kIn2_ok {neg : Bool} {n : Nat} {d e : D} : kIn2 neg n d (.ok e ρ) = kNo neg (inS n ρ.st d e) ρ := rfl
@[simp] theorem kIn1_ok {neg : Bool} {n : Nat} {d : D} {fb : EX} : kIn1 neg n fb (.ok d ρ) = kIn2 neg n d (fb ρ) := rfl
@[simp] theorem eInA_ap {n : Nat} {fa fb : EX} : eInA n fa fb ρ = kIn1 false n fb (fa ρ) := by
  show (fa ρ).bind _ = _
  cases fa ρ with
  | ok d ρ1 =>
    show (fb ρ1).bind _ = kIn2 false n d (fb ρ1)
    cases fb ρ1 with
    | ok e ρ2 =>
      show (match inS n ρ2.st d e with | some z => _ | none => _) = kNo false (inS n ρ2.st d e) ρ2
      cases inS n ρ2.st d e <;> rfl
    | err x ρ2 => rfl
    | stuck => rfl
  | err x ρ1 => rfl
  | stuck => rfl
@[simp] theorem eNinA_ap {n : Nat} {fa fb : EX} : eNinA n fa fb ρ = kIn1 true n fb (fa ρ) := by
  show (fa ρ).bind _ = _
  cases fa ρ with
  | ok d ρ1 =>
    show (fb ρ1).bind _ = kIn2 true n d (fb ρ1)
    cases fb ρ1 with
    | ok e ρ2 =>
      show (match inS n ρ2.st d e with | some z => _ | none => _) = kNo true (inS n ρ2.st d e) ρ2
      cases inS n ρ2.st d e <;> rfl
    | err x ρ2 => rfl
    | stuck => rfl
  | err x ρ1 => rfl
  | stuck => rfl
def kPS (ρ : En) : Option Store → Fl
  | some S => .nx ⟨ρ.sl, S⟩
  | none => .stuck
@[simp] theorem kPS_s {S : Store} : kPS ρ (some S) = .nx ⟨ρ.sl, S⟩ := rfl
def kPS3 (d e : D) : Rs → Fl
  | .ok k ρ => kPS ρ (putS ρ.st d k e)
  | .err x ρ => .err x ρ
  | .stuck => .stuck
def kPS2 (fk : EX) (e : D) : Rs → Fl
  | .ok d ρ => kPS3 d e (fk ρ)
  | .err x ρ => .err x ρ
  | .stuck => .stuck
def kPS1 (fo fk : EX) : Rs → Fl
  | .ok e ρ => kPS2 fk e (fo ρ)
  | .err x ρ => .err x ρ
  | .stuck => .stuck
@[simp] theorem kPS3_ok {d e k : D} : kPS3 d e (.ok k ρ) = kPS ρ (putS ρ.st d k e) := rfl
@[simp] theorem kPS2_ok {fk : EX} {d e : D} : kPS2 fk e (.ok d ρ) = kPS3 d e (fk ρ) := rfl
@[simp] theorem kPS1_ok {fo fk : EX} {e : D} : kPS1 fo fk (.ok e ρ) = kPS2 fk e (fo ρ) := rfl
@[simp] theorem kPS1_err {fo fk : EX} {x : Ex} : kPS1 fo fk (.err x ρ) = .err x ρ := rfl
@[simp] theorem sPutS_ap {fo fk fe : EX} : sPutS fo fk fe ρ = kPS1 fo fk (fe ρ) := by
  show (fe ρ).then _ = _
  cases fe ρ with
  | ok e ρ1 =>
    show (fo ρ1).then _ = kPS2 fk e (fo ρ1)
    cases fo ρ1 with
    | ok d ρ2 =>
      show (fk ρ2).then _ = kPS3 d e (fk ρ2)
      cases fk ρ2 with
      | ok k ρ3 =>
        show (match putS ρ3.st d k e with | some S => _ | none => _) = kPS ρ3 (putS ρ3.st d k e)
        cases putS ρ3.st d k e <;> rfl
      | err x ρ3 => rfl
      | stuck => rfl
    | err x ρ2 => rfl
    | stuck => rfl
  | err x ρ1 => rfl
  | stuck => rfl
def kAS4 (d k : D) (ρ : En) : Option D → Fl
  | some z => kPS ρ (putS ρ.st d k z)
  | none => .stuck
def kAS3 (op : D → D → Option D) (d k x : D) : Rs → Fl
  | .ok y ρ => kAS4 d k ρ (op x y)
  | .err x ρ => .err x ρ
  | .stuck => .stuck
def kAS2' (op : D → D → Option D) (fe : EX) (d k : D) (ρ : En) : Option D → Fl
  | some x => kAS3 op d k x (fe ρ)
  | none => .stuck
def kAS2 (op : D → D → Option D) (fe : EX) (d : D) : Rs → Fl
  | .ok k ρ => kAS2' op fe d k ρ (getS ρ.st d k)
  | .err x ρ => .err x ρ
  | .stuck => .stuck
def kAS1 (op : D → D → Option D) (fk fe : EX) : Rs → Fl
  | .ok d ρ => kAS2 op fe d (fk ρ)
  | .err x ρ => .err x ρ
  | .stuck => .stuck
section
variable {op : D → D → Option D} {fk fe : EX} {d k x y z : D}
@[simp] theorem kAS4_s : kAS4 d k ρ (some z) = kPS ρ (putS ρ.st d k z) := rfl
@[simp] theorem kAS3_ok : kAS3 op d k x (.ok y ρ) = kAS4 d k ρ (op x y) := rfl
@[simp] theorem kAS2'_s : kAS2' op fe d k ρ (some x) = kAS3 op d k x (fe ρ) := rfl
@[simp] theorem kAS2_ok : kAS2 op fe d (.ok k ρ) = kAS2' op fe d k ρ (getS ρ.st d k) := rfl
@[simp] theorem kAS1_ok : kAS1 op fk fe (.ok d ρ) = kAS2 op fe d (fk ρ) := rfl
@[simp] theorem sAugS_ap {fo : EX} : sAugS op fo fk fe ρ = kAS1 op fk fe (fo ρ) := by
  show (fo ρ).then _ = _
  cases fo ρ with
  | ok d ρ1 =>
    show (fk ρ1).then _ = kAS2 op fe d (fk ρ1)
    cases fk ρ1 with
    | ok k ρ2 =>
      show (match getS ρ2.st d k with | some x => _ | none => _) = kAS2' op fe d k ρ2 (getS ρ2.st d k)
      cases getS ρ2.st d k with
      | none => rfl
      | some x =>
        show (fe ρ2).then _ = kAS3 op d k x (fe ρ2)
        cases fe ρ2 with
        | ok y ρ3 =>
          show (match op x y with | some z => _ | none => _) = kAS4 d k ρ3 (op x y)
          cases op x y with
          | none => rfl
          | some z =>
            show (match putS ρ3.st d k z with | some S => _ | none => _) = kPS ρ3 (putS ρ3.st d k z)
            cases putS ρ3.st d k z <;> rfl
        | err x ρ3 => rfl
        | stuck => rfl
    | err x ρ2 => rfl
    | stuck => rfl
  | err x ρ1 => rfl
  | stuck => rfl
end
def kAu2 (i : Nat) : Option D → En → Fl
  | some z, ρ => .nx (ρ.set i (some (.val z)))
  | none, _ => .stuck
def kAu1 (i : Nat) (op : D → D → Option D) (d : D) : Rs → Fl
  | .ok e ρ => kAu2 i (op d e) ρ
  | .err x ρ => .err x ρ
  | .stuck => .stuck
def kAu (i : Nat) (op : D → D → Option D) (f : EX) (ρ : En) : Option (Option Sl) → Fl
  | some (some (.val d)) => kAu1 i op d (f ρ)
  | _ => .stuck
section
variable {i : Nat} {op : D → D → Option D} {f : EX} {d e z : D}
@[simp] theorem kAu2_s : kAu2 i (some z) ρ = .nx (ρ.set i (some (.val z))) := rfl
@[simp] theorem kAu1_ok : kAu1 i op d (.ok e ρ) = kAu2 i (op d e) ρ := rfl
@[simp] theorem kAu_v : kAu i op f ρ (some (some (.val d))) = kAu1 i op d (f ρ) := rfl
@[simp] theorem sAug_ap : sAug i op f ρ = kAu i op f ρ ρ[i]? := by
  unfold sAug
  cases ρ[i]? with
  | none => rfl
  | some o =>
    cases o with
    | none => rfl
    | some s =>
      cases s with
      | exc x => rfl
      | val d =>
        show (f ρ).then _ = kAu1 i op d (f ρ)
        cases f ρ with
        | ok e ρ1 =>
          show (match op d e with | some z => _ | none => _) = kAu2 i (op d e) ρ1
          cases op d e <;> rfl
        | err x ρ1 => rfl
        | stuck => rfl
end
def kPa2 (i j : Nat) (d : D) : Rs → Fl
  | .ok e ρ => .nx ((ρ.set i (some (.val d))).set j (some (.val e)))
  | .err x ρ => .err x ρ
  | .stuck => .stuck
def kPa1 (i j : Nat) (fb : EX) : Rs → Fl
  | .ok d ρ => kPa2 i j d (fb ρ)
  | .err x ρ => .err x ρ
  | .stuck => .stuck
@[simp] theorem kPa2_ok {i j : Nat} {d e : D} : kPa2 i j d (.ok e ρ) = .nx ((ρ.set i (some (.val d))).set j (some (.val e))) := rfl
@[simp] theorem kPa1_ok {i j : Nat} {fb : EX} {d : D} : kPa1 i j fb (.ok d ρ) = kPa2 i j d (fb ρ) := rfl
@[simp] theorem sPar_ap {i j : Nat} {fa fb : EX} : sPar i j fa fb ρ = kPa1 i j fb (fa ρ) := by
  show (fa ρ).then _ = _
  cases fa ρ with
  | ok d ρ1 =>
    show (fb ρ1).then _ = kPa2 i j d (fb ρ1)
    cases fb ρ1 <;> rfl
  | err x ρ1 => rfl
  | stuck => rfl
def kA2b (b2 : BX) (d : D) : Option En → Fl
  | some ρ => kUO (b2 d ρ)
  | none => .stuck
@[simp] theorem kA2b_s {b2 : BX} {d : D} : kA2b b2 d (some ρ) = kUO (b2 d ρ) := rfl
def kA2 (b1 b2 : BX) : Rs → Fl
  | .ok d ρ => kA2b b2 d (b1 d ρ)
  | .err x ρ => .err x ρ
  | .stuck => .stuck
@[simp] theorem kA2_ok {b1 b2 : BX} {d : D} : kA2 b1 b2 (.ok d ρ) = kA2b b2 d (b1 d ρ) := rfl
@[simp] theorem sAsg2_ap {b1 b2 : BX} {f : EX} : sAsg2 b1 b2 f ρ = kA2 b1 b2 (f ρ) := by
  show (f ρ).then _ = _
  cases f ρ with
  | ok d ρ1 =>
    show (match b1 d ρ1 with | some ρ2 => _ | none => _) = kA2b b2 d (b1 d ρ1)
    cases b1 d ρ1 with
    | none => rfl
    | some ρ2 => exact kUO_eq _
  | err x ρ1 => rfl
  | stuck => rfl
def kFr2 (i n : Nat) (ρ : En) : Option (Option Cn) → Fl
  | some (some (.lst ds)) => .nx ⟨ρ.sl.set i (some (.val (.lst ds))), ρ.st.set n none⟩
  | some (some (.dct kvs)) => .nx ⟨ρ.sl.set i (some (.val (.dct (kvs.map (·.1)) (kvs.map (·.2))))), ρ.st.set n none⟩
  | some (some (.obj C fs)) => .nx ⟨ρ.sl.set i (some (.val (.obj C (fs.map (·.1)) (fs.map (·.2))))), ρ.st.set n none⟩
  | _ => .nx ρ
def kFr (i : Nat) (ρ : En) : Option (Option Sl) → Fl
  | some (some (.val (.ce n))) => kFr2 i n ρ ρ.st[n]?
  | _ => .nx ρ
@[simp] theorem kFr2_l {i n : Nat} {ds : List D} : kFr2 i n ρ (some (some (.lst ds))) = .nx ⟨ρ.sl.set i (some (.val (.lst ds))), ρ.st.set n none⟩ := rfl
@[simp] theorem kFr_c {i n : Nat} : kFr i ρ (some (some (.val (.ce n)))) = kFr2 i n ρ ρ.st[n]? := rfl
@[simp] theorem kFr_l {i : Nat} {ds : List D} : kFr i ρ (some (some (.val (.lst ds)))) = .nx ρ := rfl
@[simp] theorem kFr_t {i : Nat} {ds : List D} : kFr i ρ (some (some (.val (.tup ds)))) = .nx ρ := rfl
@[simp] theorem kFr_i {i : Nat} {z : Int} : kFr i ρ (some (some (.val (.int z)))) = .nx ρ := rfl
@[simp] theorem sFr_ap {i : Nat} : sFr i ρ = kFr i ρ ρ[i]? := by
  unfold sFr fzAt
  cases ρ[i]? with
  | none => rfl
  | some o =>
    cases o with
    | none => rfl
    | some s =>
      cases s with
      | exc x => rfl
      | val d =>
        cases d <;> try rfl
        rename_i n
        show Fl.nx ((match ρ.st[n]? with | some (some c) => (froze c).map _ | _ => none).getD ρ) = kFr2 i n ρ ρ.st[n]?
        cases ρ.st[n]? with
        | none => rfl
        | some o =>
          cases o with
          | none => rfl
          | some c => cases c <;> rfl
@[simp] theorem eDct0_ap : eDct0 ρ = .ok (.ce ρ.st.length) ⟨ρ.sl, ρ.st ++ [some (.dct [])]⟩ := rfl
@[simp] theorem eSet0_ap : eSet0 ρ = .ok (.ce ρ.st.length) ⟨ρ.sl, ρ.st ++ [some (.set [])]⟩ := rfl
def kLR1 (m : Bool) : Rs → Rs
  | .ok (.int n) ρ => if rgB 0 n = true then outF m (.new (rangeL 0 (n - 0).toNat)) ρ else .stuck
  | .ok _ _ => .stuck
  | .err x ρ => .err x ρ
  | .stuck => .stuck
@[simp] theorem kLR1_ok {m : Bool} {n : Int} : kLR1 m (.ok (.int n) ρ) = (if rgB 0 n = true then outF m (.new (rangeL 0 (n - 0).toNat)) ρ else .stuck) := rfl
@[simp] theorem eLR1_ap {m : Bool} {f : EX} : eLR1 m f ρ = kLR1 m (f ρ) := by
  show (f ρ).bind _ = _
  cases f ρ with
  | ok d ρ1 => cases d <;> rfl
  | err x ρ1 => rfl
  | stuck => rfl
@[simp] theorem outF_v {m : Bool} {d : D} : outF m (.val d) ρ = .ok d ρ := rfl
@[simp] theorem outF_t {ds : List D} : outF true (.new ds) ρ = .ok (.ce ρ.st.length) ⟨ρ.sl, ρ.st ++ [some (.lst ds)]⟩ := rfl
@[simp] theorem outF_f {ds : List D} : outF false (.new ds) ρ = .ok (.lst ds) ρ := rfl
def kEnu : Rs → Ri
  | .ok (.lst xs) ρ => .ok (enumD xs) ρ
  | .ok _ _ => .stuck
  | .err x ρ => .err x ρ
  | .stuck => .stuck
@[simp] theorem kEnu_ok {xs : List D} : kEnu (.ok (.lst xs) ρ) = .ok (enumD xs) ρ := rfl
@[simp] theorem iEn_ap {f : EX} : iEn f ρ = kEnu (f ρ) := by
  unfold iEn iB
  cases f ρ with
  | ok d ρ1 => cases d <;> rfl
  | err x ρ1 => rfl
  | stuck => rfl
def kSe : Option Bool → En → Rs
  | some b, ρ => .ok (.bl b) ρ
  | none, _ => .stuck
@[simp] theorem kSe_s {b : Bool} : kSe (some b) ρ = .ok (.bl b) ρ := rfl
def kSee (n : Nat) : Rs → Rs
  | .ok d ρ => kSe (truth (seeD ρ.st n d)) ρ
  | .err x ρ => .err x ρ
  | .stuck => .stuck
@[simp] theorem kSee_ok {n : Nat} {d : D} : kSee n (.ok d ρ) = kSe (truth (seeD ρ.st n d)) ρ := rfl
@[simp] theorem eSee_ap {n : Nat} {f : EX} : eSee n f ρ = kSee n (f ρ) := by
  show (f ρ).bind _ = _
  cases f ρ with
  | ok d ρ1 =>
    show (match truth (seeD ρ1.st n d) with | some b => _ | none => _) = kSe (truth (seeD ρ1.st n d)) ρ1
    cases truth (seeD ρ1.st n d) <;> rfl
  | err x ρ1 => rfl
  | stuck => rfl
def kSl (m : Bool) (d : D) (l h : Option Int) (ρ : En) : Rs := kF m (slF (see1 ρ.st d) l h) ρ
def kSlH (m : Bool) (d : D) (l : Option Int) : Rs → Rs
  | .ok (.int i) ρ => kSl m d l (some i) ρ
  | .ok _ _ => .stuck
  | .err x ρ => .err x ρ
  | .stuck => .stuck
def kSlo (m : Bool) (d : D) (l : Option Int) (ρ : En) : Option EX → Rs
  | none => kSl m d l none ρ
  | some f => kSlH m d l (f ρ)
def kSlL (m : Bool) (d : D) (hi : Option EX) : Rs → Rs
  | .ok (.int i) ρ => kSlo m d (some i) ρ hi
  | .ok _ _ => .stuck
  | .err x ρ => .err x ρ
  | .stuck => .stuck
def kSla (m : Bool) (lo hi : Option EX) : Rs → Rs
  | .ok d ρ => (match lo with
    | none => kSlo m d none ρ hi
    | some f => kSlL m d hi (f ρ))
  | .err x ρ => .err x ρ
  | .stuck => .stuck
section
variable {m : Bool} {d : D} {l h : Option Int} {i : Int} {f : EX} {hi : Option EX}
@[simp] theorem kSl_ap : kSl m d l h ρ = kF m (slF (see1 ρ.st d) l h) ρ := rfl
@[simp] theorem kSlH_ok : kSlH m d l (.ok (.int i) ρ) = kSl m d l (some i) ρ := rfl
@[simp] theorem kSlo_n : kSlo m d l ρ none = kSl m d l none ρ := rfl
@[simp] theorem kSlo_s : kSlo m d l ρ (some f) = kSlH m d l (f ρ) := rfl
@[simp] theorem kSlL_ok : kSlL m d hi (.ok (.int i) ρ) = kSlo m d (some i) ρ hi := rfl
@[simp] theorem kSla_n : kSla m none hi (.ok d ρ) = kSlo m d none ρ hi := rfl
@[simp] theorem kSla_s : kSla m (some f) hi (.ok d ρ) = kSlL m d hi (f ρ) := rfl
theorem eOpt_hi : eOpt hi (fun h ρ3 => match slF (see1 ρ3.st d) l h with | some z => outF m z ρ3 | none => .stuck) ρ = kSlo m d l ρ hi := by
  cases hi with
  | none => exact kF_eq _ _ _
  | some f =>
    show (f ρ).bind _ = kSlH m d l (f ρ)
    cases f ρ with
    | ok e ρ1 => cases e <;> first | rfl | exact kF_eq _ _ _
    | err x ρ1 => rfl
    | stuck => rfl
end
@[simp] theorem eSlF_ap {m : Bool} {fa : EX} {lo hi : Option EX} : eSlF m fa lo hi ρ = kSla m lo hi (fa ρ) := by
  show (fa ρ).bind _ = _
  cases fa ρ with
  | ok d ρ1 =>
    cases lo with
    | none => exact eOpt_hi
    | some f =>
      show (f ρ1).bind _ = kSlL m d hi (f ρ1)
      cases f ρ1 with
      | ok e ρ2 => cases e <;> first | rfl | exact eOpt_hi
      | err x ρ2 => rfl
      | stuck => rfl
  | err x ρ1 => rfl
  | stuck => rfl
def kWg (c : EX) (g : SX) (k : Nat) : Fl → Fl
  | .nx ρ => whileS c g k ρ
  | .ct ρ => whileS c g k ρ
  | .bk ρ => .nx ρ
  | r => r
def kWt (c : EX) (g : SX) (k : Nat) (ρ : En) : Option Bool → Fl
  | some true => kWg c g k (g ρ)
  | some false => .nx ρ
  | none => .stuck
def kWc (c : EX) (g : SX) (k : Nat) : Rs → Fl
  | .ok d ρ => kWt c g k ρ (truth d)
  | .err x ρ => .err x ρ
  | .stuck => .stuck
section
variable {c : EX} {g : SX} {k : Nat} {d : D}
@[simp] theorem kWg_nx : kWg c g k (.nx ρ) = whileS c g k ρ := rfl
@[simp] theorem kWg_ct : kWg c g k (.ct ρ) = whileS c g k ρ := rfl
@[simp] theorem kWg_bk : kWg c g k (.bk ρ) = .nx ρ := rfl
@[simp] theorem kWg_rt : kWg c g k (.rt d ρ) = .rt d ρ := rfl
@[simp] theorem kWg_err {x : Ex} : kWg c g k (.err x ρ) = .err x ρ := rfl
@[simp] theorem kWt_t : kWt c g k ρ (some true) = kWg c g k (g ρ) := rfl
@[simp] theorem kWt_f : kWt c g k ρ (some false) = .nx ρ := rfl
@[simp] theorem kWc_ok : kWc c g k (.ok d ρ) = kWt c g k ρ (truth d) := rfl
theorem whileS_ap : whileS c g (k + 1) ρ = kWc c g k (c ρ) := by
  conv => lhs; unfold whileS
  cases c ρ with
  | ok d ρ1 =>
    show (match truth d with | some true => _ | some false => _ | none => _) = kWt c g k ρ1 (truth d)
    cases truth d with
    | none => rfl
    | some b =>
      cases b with
      | false => rfl
      | true =>
        show (match g ρ1 with | .nx ρ2 => _ | .ct ρ2 => _ | .bk ρ2 => _ | r => _) = kWg c g k (g ρ1)
        cases g ρ1 <;> rfl
  | err x ρ1 => rfl
  | stuck => rfl
end
def kTE (i : Nat) : Fl → Fl
  | .nx ρ => if noExc (ρ.set i none) then .nx (ρ.set i none) else .stuck
  | .bk ρ => if noExc (ρ.set i none) then .bk (ρ.set i none) else .stuck
  | .ct ρ => if noExc (ρ.set i none) then .ct (ρ.set i none) else .stuck
  | .rt d ρ => if noExc (ρ.set i none) then .rt d (ρ.set i none) else .stuck
  | _ => .stuck
@[simp] theorem kTE_nx {i : Nat} : kTE i (.nx ρ) = (if noExc (ρ.set i none) then .nx (ρ.set i none) else .stuck) := rfl
@[simp] theorem kTE_rt {i : Nat} {d : D} : kTE i (.rt d ρ) = (if noExc (ρ.set i none) then .rt d (ρ.set i none) else .stuck) := rfl
def kHd (x : Ex) (ρ : En) (i : Nat) (g : SX) (r : List Hdl) : Option Bool → Fl
  | some true => kTE i (g (ρ.set i (some (.exc x))))
  | some false => hdlS x ρ r
  | none => .stuck
@[simp] theorem kHd_t {x : Ex} {i : Nat} {g : SX} {r : List Hdl} : kHd x ρ i g r (some true) = kTE i (g (ρ.set i (some (.exc x)))) := rfl
@[simp] theorem kHd_f {x : Ex} {i : Nat} {g : SX} {r : List Hdl} : kHd x ρ i g r (some false) = hdlS x ρ r := rfl
@[simp] theorem hdlS_nil {x : Ex} : hdlS x ρ [] = .err x ρ := rfl
@[simp] theorem hdlS_cons {x : Ex} {i : Nat} {t : Str → Option Bool} {g : SX} {r : List Hdl} : hdlS x ρ (⟨i, t, g⟩ :: r) = kHd x ρ i g r (t x.c) := by
  show (match t x.c with | some true => _ | some false => _ | none => _) = kHd x ρ i g r (t x.c)
  cases t x.c with
  | none => rfl
  | some b =>
    cases b with
    | false => rfl
    | true =>
      show (match g (ρ.set i (some (.exc x))) with | .nx ρ2 => _ | .bk ρ2 => _ | .ct ρ2 => _ | .rt d ρ2 => _ | _ => _) = kTE i (g (ρ.set i (some (.exc x))))
      cases g (ρ.set i (some (.exc x))) <;> rfl
def kTry (l : List Hdl) : Fl → Fl
  | .err x ρ => hdlS x ρ l
  | r => r
@[simp] theorem kTry_err {l : List Hdl} {x : Ex} : kTry l (.err x ρ) = hdlS x ρ l := rfl
@[simp] theorem kTry_nx {l : List Hdl} : kTry l (.nx ρ) = .nx ρ := rfl
@[simp] theorem kTry_rt {l : List Hdl} {d : D} : kTry l (.rt d ρ) = .rt d ρ := rfl
@[simp] theorem sTryZ_ap {gb : SX} {l : List Hdl} : sTryZ gb l ρ = kTry l (gb ρ) := by
  unfold sTryZ
  cases gb ρ <;> rfl
@[simp] theorem runS_ap {b : SX} {n : Nat} {ds : List D} {S : Store} : runS b n ds S = endR (b (envOf n ds S)) := rfl
@[simp] theorem runE_ap {b : SX} {n : Nat} {x : Ex} {S : Store} : runE b n x S = endR (b (envE n x S)) := rfl
@[simp] theorem endR_nx : endR (.nx ρ) = .ok .non ρ.st := rfl
@[simp] theorem endR_rt {d : D} : endR (.rt d ρ) = .ok d ρ.st := rfl
@[simp] theorem endR_err {x : Ex} : endR (.err x ρ) = .err x ρ.st := rfl
@[simp] theorem envOf_ap {n : Nat} {ds : List D} {S : Store} : envOf n ds S = ⟨ds.map (fun d => some (.val d)) ++ List.replicate (n - ds.length) none, S⟩ := rfl
@[simp] theorem envE_ap {n : Nat} {x : Ex} {S : Store} : envE n x S = ⟨some (.exc x) :: List.replicate (n - 1) none, S⟩ := rfl
@[simp] theorem see1_i {S : Store} {i : Int} : see1 S (.int i) = .int i := rfl
@[simp] theorem see1_b {S : Store} {i : Bool} : see1 S (.bl i) = .bl i := rfl
@[simp] theorem see1_n {S : Store} : see1 S .non = .non := rfl
@[simp] theorem see1_s {S : Store} {x : Str} : see1 S (.str x) = .str x := rfl
@[simp] theorem see1_t {S : Store} {xs : List D} : see1 S (.tup xs) = .tup xs := rfl
@[simp] theorem see1_l {S : Store} {xs : List D} : see1 S (.lst xs) = .lst xs := rfl
@[simp] theorem see1_scr {S : Store} {xs : List Int} : see1 S (.scr xs) = .scr xs := rfl
def kS1 (k : Nat) : Option (Option Cn) → D
  | some (some (.lst ds)) => .lst ds
  | _ => .ce k
@[simp] theorem kS1_l {k : Nat} {ds : List D} : kS1 k (some (some (.lst ds))) = .lst ds := rfl
@[simp] theorem kS1_d {k : Nat} {kvs : List (L2.Key × D)} : kS1 k (some (some (.dct kvs))) = .ce k := rfl
@[simp] theorem see1_c {S : Store} {k : Nat} : see1 S (.ce k) = kS1 k S[k]? := by
  show (match S[k]? with | some (some (.lst ds)) => _ | _ => _) = _
  cases S[k]? with
  | none => rfl
  | some o =>
    cases o with
    | none => rfl
    | some c => cases c <;> rfl
@[simp] theorem seeD_i {S : Store} {n : Nat} {i : Int} : seeD S n (.int i) = .int i := by cases n <;> rfl
@[simp] theorem seeD_b {S : Store} {n : Nat} {i : Bool} : seeD S n (.bl i) = .bl i := by cases n <;> rfl
@[simp] theorem seeD_n {S : Store} {n : Nat} : seeD S n .non = .non := by cases n <;> rfl
@[simp] theorem seeD_s {S : Store} {n : Nat} {i : Str} : seeD S n (.str i) = .str i := by cases n <;> rfl
@[simp] theorem seeD_scr {S : Store} {n : Nat} {i : List Int} : seeD S n (.scr i) = .scr i := by cases n <;> rfl
@[simp] theorem seeD_ints {S : Store} {n : Nat} {ns : List Int} : (ns.map D.int).map (seeD S n) = ns.map D.int := by
  rw [List.map_map]
  congr 1
  funext i
  exact seeD_i
@[simp] theorem seeD_t {S : Store} {n : Nat} {xs : List D} : seeD S (n + 1) (.tup xs) = .tup (xs.map (seeD S n)) := rfl
@[simp] theorem seeD_l {S : Store} {n : Nat} {xs : List D} : seeD S (n + 1) (.lst xs) = .lst (xs.map (seeD S n)) := rfl
def kSD (S : Store) (n k : Nat) : Option (Option Cn) → D
  | some (some (.lst ds)) => .lst (ds.map (seeD S n))
  | _ => .ce k
@[simp] theorem kSD_l {S : Store} {n k : Nat} {ds : List D} : kSD S n k (some (some (.lst ds))) = .lst (ds.map (seeD S n)) := rfl
@[simp] theorem seeD_c {S : Store} {n k : Nat} : seeD S (n + 1) (.ce k) = kSD S n k S[k]? := by
  show (match S[k]? with | some (some (.lst ds)) => _ | _ => _) = _
  cases S[k]? with
  | none => rfl
  | some o =>
    cases o with
    | none => rfl
    | some c => cases c <;> rfl
def kLa (k : Nat) : Option (Option Cn) → Option (Nat × List D)
  | some (some (.lst ds)) => some (k, ds)
  | _ => none
@[simp] theorem kLa_l {k : Nat} {ds : List D} : kLa k (some (some (.lst ds))) = some (k, ds) := rfl
@[simp] theorem kLa_d {k : Nat} {kvs : List (L2.Key × D)} : kLa k (some (some (.dct kvs))) = none := rfl
@[simp] theorem lstAt_c {S : Store} {k : Nat} : lstAt S (.ce k) = kLa k S[k]? := by
  show (match S[k]? with | some (some (.lst ds)) => _ | _ => _) = _
  cases S[k]? with
  | none => rfl
  | some o =>
    cases o with
    | none => rfl
    | some c => cases c <;> rfl
def kDa (k : Nat) : Option (Option Cn) → Option (Nat × List (L2.Key × D))
  | some (some (.dct ds)) => some (k, ds)
  | _ => none
@[simp] theorem kDa_d {k : Nat} {kvs : List (L2.Key × D)} : kDa k (some (some (.dct kvs))) = some (k, kvs) := rfl
@[simp] theorem kDa_l {k : Nat} {ds : List D} : kDa k (some (some (.lst ds))) = none := rfl
@[simp] theorem dctAt_c {S : Store} {k : Nat} : dctAt S (.ce k) = kDa k S[k]? := by
  show (match S[k]? with | some (some (.dct ds)) => _ | _ => _) = _
  cases S[k]? with
  | none => rfl
  | some o =>
    cases o with
    | none => rfl
    | some c => cases c <;> rfl
@[simp] theorem dctAt_l {S : Store} {ds : List D} : dctAt S (.lst ds) = none := rfl
@[simp] theorem dctAt_t {S : Store} {ds : List D} : dctAt S (.tup ds) = none := rfl
@[simp] theorem dctAt_s {S : Store} {x : Str} : dctAt S (.str x) = none := rfl
@[simp] theorem dctAt_r {S : Store} {x : List Int} : dctAt S (.scr x) = none := rfl
def kSa (k : Nat) : Option (Option Cn) → Option (Nat × List Int)
  | some (some (.set ds)) => some (k, ds)
  | _ => none
@[simp] theorem kSa_s {k : Nat} {ns : List Int} : kSa k (some (some (.set ns))) = some (k, ns) := rfl
@[simp] theorem kSa_l {k : Nat} {ds : List D} : kSa k (some (some (.lst ds))) = none := rfl
@[simp] theorem kSa_d {k : Nat} {ds : List (L2.Key × D)} : kSa k (some (some (.dct ds))) = none := rfl
@[simp] theorem setAt_c {S : Store} {k : Nat} : setAt S (.ce k) = kSa k S[k]? := by
  show (match S[k]? with | some (some (.set ds)) => _ | _ => _) = _
  cases S[k]? with
  | none => rfl
  | some o =>
    cases o with
    | none => rfl
    | some c => cases c <;> rfl
@[simp] theorem setAt_l {S : Store} {ds : List D} : setAt S (.lst ds) = none := rfl
@[simp] theorem setAt_t {S : Store} {ds : List D} : setAt S (.tup ds) = none := rfl
def kIxd (S : Store) (d e : D) : Option (Nat × List (L2.Key × D)) → Option D
  | some (_, kvs) => (keyD' e).bind fun k => getA kvs k
  | none => ixD (see1 S d) e
@[simp] theorem kIxd_s {S : Store} {d e : D} {n : Nat} {kvs : List (L2.Key × D)} : kIxd S d e (some (n, kvs)) = (keyD' e).bind fun k => getA kvs k := rfl
@[simp] theorem kIxd_n {S : Store} {d e : D} : kIxd S d e none = ixD (see1 S d) e := rfl
@[simp] theorem ixS_ap {S : Store} {d e : D} : ixS S d e = kIxd S d e (dctAt S d) := by
  unfold ixS kIxd
  rfl
def kLn (S : Store) (d : D) : Option (Nat × List (L2.Key × D)) → Option D
  | some (_, kvs) => some (.int (kvs.length : Nat))
  | none => lenD [see1 S d]
@[simp] theorem kLn_s {S : Store} {d : D} {n : Nat} {kvs : List (L2.Key × D)} : kLn S d (some (n, kvs)) = some (.int (kvs.length : Nat)) := rfl
@[simp] theorem kLn_n {S : Store} {d : D} : kLn S d none = lenD [see1 S d] := rfl
@[simp] theorem lenS_ap {S : Store} {d : D} : lenS S d = kLn S d (dctAt S d) := by
  unfold lenS kLn
  rfl
def kPt (S : Store) (d k e : D) : Option (Nat × List (L2.Key × D)) → Option Store
  | some (n, kvs) => (keyD' k).bind fun z => if kvs.length < sizeLine then some (S.set n (some (.dct (putA kvs z e)))) else none
  | none => putL S e (lstAt S d) k
@[simp] theorem kPt_s {S : Store} {d k e : D} {n : Nat} {kvs : List (L2.Key × D)} : kPt S d k e (some (n, kvs)) = (keyD' k).bind fun z => if kvs.length < sizeLine then some (S.set n (some (.dct (putA kvs z e)))) else none := rfl
@[simp] theorem kPt_n {S : Store} {d k e : D} : kPt S d k e none = putL S e (lstAt S d) k := rfl
@[simp] theorem putS_ap {S : Store} {d k e : D} : putS S d k e = kPt S d k e (dctAt S d) := by
  unfold putS kPt
  rfl
@[simp] theorem putL_s {S : Store} {e : D} {n : Nat} {ds : List D} {i : Int} : putL S e (some (n, ds)) (.int i) = (L2.ixN ds.length i).map fun j => S.set n (some (.lst (ds.set j e))) := rfl
def kGt (S : Store) (d k : D) : Option (Nat × List (L2.Key × D)) → Option D
  | some (_, kvs) => (keyD' k).bind fun z => getA kvs z
  | none => getL (lstAt S d) k
@[simp] theorem kGt_s {S : Store} {d k : D} {n : Nat} {kvs : List (L2.Key × D)} : kGt S d k (some (n, kvs)) = (keyD' k).bind fun z => getA kvs z := rfl
@[simp] theorem kGt_n {S : Store} {d k : D} : kGt S d k none = getL (lstAt S d) k := rfl
@[simp] theorem getS_ap {S : Store} {d k : D} : getS S d k = kGt S d k (dctAt S d) := by
  unfold getS kGt
  rfl
@[simp] theorem getL_s {n : Nat} {ds : List D} {i : Int} : getL (some (n, ds)) (.int i) = L2.atI ds i := rfl
@[simp] theorem keyD'_i {i : Int} : keyD' (.int i) = some (.inl i) := rfl
@[simp] theorem keyD'_s {x : Str} : keyD' (.str x) = some (.inr x) := rfl
def kInn (n : Nat) (S : Store) (d e : D) : Option (Nat × List (L2.Key × D)) → Option D
  | some (_, kvs) => (keyD' d).map fun k => .bl (getA kvs k).isSome
  | none => inM (seeD S n d) (seeD S n e)
@[simp] theorem kInn_s {n : Nat} {S : Store} {d e : D} {m : Nat} {kvs : List (L2.Key × D)} : kInn n S d e (some (m, kvs)) = (keyD' d).map fun k => .bl (getA kvs k).isSome := rfl
@[simp] theorem kInn_n {n : Nat} {S : Store} {d e : D} : kInn n S d e none = inM (seeD S n d) (seeD S n e) := rfl
def kIns (n : Nat) (S : Store) (d e : D) : Option (Nat × List Int) → Option D
  | some (_, ns) => (match d with
    | .int k => some (.bl (decide (k ∈ ns)))
    | _ => none)
  | none => kInn n S d e (dctAt S e)
@[simp] theorem kIns_s {n : Nat} {S : Store} {e : D} {m : Nat} {ns : List Int} {k : Int} : kIns n S (.int k) e (some (m, ns)) = some (.bl (decide (k ∈ ns))) := rfl
@[simp] theorem kIns_n {n : Nat} {S : Store} {d e : D} : kIns n S d e none = kInn n S d e (dctAt S e) := rfl
@[simp] theorem inS_ap {n : Nat} {S : Store} {d e : D} : inS n S d e = kIns n S d e (setAt S e) := by
  unfold inS
  cases setAt S e with
  | none => rfl
  | some p => cases d <;> rfl
@[simp] theorem appF_1 {ds : List D} {e : D} : appF ds [e] = (if ds.length < sizeLine then some (.non, ds ++ [e]) else none) := rfl
@[simp] theorem popF_0 {ds : List D} : popF ds [] = (ds[ds.length - 1]?).map fun x => (x, ds.dropLast) := rfl
@[simp] theorem ixF_ap {d e : D} : ixF d e = (ixD d e).map .val := rfl
@[simp] theorem addF_l {xs ys : List D} : addF (.lst xs) (.lst ys) = (if xs.length + ys.length ≤ sizeLine then some (.new (xs ++ ys)) else none) := rfl
@[simp] theorem addF_i {i j : Int} : addF (.int i) (.int j) = some (.val (.int (i + j))) := rfl
@[simp] theorem addF_t {xs ys : List D} : addF (.tup xs) (.tup ys) = (if xs.length + ys.length ≤ sizeLine then some (.val (.tup (xs ++ ys))) else none) := by
  show (addD (.tup xs) (.tup ys)).map Oc.val = _
  show (if xs.length + ys.length ≤ sizeLine then some (D.tup (xs ++ ys)) else none).map Oc.val = _
  split <;> rfl
@[simp] theorem mulF_i {i j : Int} : mulF (.int i) (.int j) = (if mulOk i j = true then some (.val (.int (i * j))) else none) := by
  show (mulD (.int i) (.int j)).map Oc.val = _
  show (if mulOk i j = true then some (D.int (i * j)) else none).map Oc.val = _
  split <;> rfl
@[simp] theorem mulF_l {xs : List D} {k : Int} : mulF (.lst xs) (.int k) = (if (-(2 ^ 63) ≤ k ∧ k < 2 ^ 63) ∧ xs.length * k.toNat ≤ sizeLine then some (.new (List.replicate k.toNat xs).flatten) else none) := rfl
@[simp] theorem listF_l {xs : List D} : listF (.lst xs) = some (.new xs) := rfl
@[simp] theorem listF_t {xs : List D} : listF (.tup xs) = some (.new xs) := rfl
@[simp] theorem tupleF_l {xs : List D} : tupleF (.lst xs) = some (.val (.tup xs)) := rfl
@[simp] theorem tupleF_t {xs : List D} : tupleF (.tup xs) = some (.val (.tup xs)) := rfl
@[simp] theorem slF_l {xs : List D} {lo hi : Option Int} : slF (.lst xs) lo hi = some (.new (cutD xs lo hi)) := rfl
@[simp] theorem slF_r {xs : List Int} {lo hi : Option Int} : slF (.scr xs) lo hi = some (.new ((cutD xs lo hi).map .int)) := rfl
@[simp] theorem slF_t {xs : List D} {lo hi : Option Int} : slF (.tup xs) lo hi = some (.val (.tup (cutD xs lo hi))) := rfl
@[simp] theorem ipD_i {f : Int → Int → Int} {i j : Int} : ipD f (.int i) (.int j) = some (.int (f i j)) := rfl
@[simp] theorem get_c0 {α : Type} {a : α} {l : List α} : (a :: l)[0]? = some a := rfl
@[simp] theorem noExc_nil {S : Store} : noExc ⟨[], S⟩ = true := rfl
/-! operators -/
@[simp] theorem addD_i {i j : Int} : addD (.int i) (.int j) = some (.int (i + j)) := rfl
@[simp] theorem subD_i {i j : Int} : subD (.int i) (.int j) = some (.int (i - j)) := rfl
@[simp] theorem mulD_i {i j : Int} : mulD (.int i) (.int j) = (if mulOk i j = true then some (.int (i * j)) else none) := rfl
@[simp] theorem fdivD_i {i j : Int} : fdivD (.int i) (.int j) = (if divOk i j = true then some (.int (i.fdiv j)) else none) := rfl
@[simp] theorem modD_i {i j : Int} : modD (.int i) (.int j) = (if j ≠ 0 then some (.int (i.fmod j)) else none) := rfl
@[simp] theorem addD_t {xs ys : List D} : addD (.tup xs) (.tup ys) = (if xs.length + ys.length ≤ sizeLine then some (.tup (xs ++ ys)) else none) := rfl
@[simp] theorem addD_l {xs ys : List D} : addD (.lst xs) (.lst ys) = (if xs.length + ys.length ≤ sizeLine then some (.lst (xs ++ ys)) else none) := rfl
@[simp] theorem negD_i {i : Int} : negD (.int i) = some (.int (-i)) := rfl
@[simp] theorem eqD_i {i j : Int} : eqD (.int i) (.int j) = some (.bl (decide (i = j))) := by
  show some (D.bl (i == j)) = _
  by_cases h : i = j <;> simp [h]
@[simp] theorem neD_i {i j : Int} : neD (.int i) (.int j) = some (.bl (!decide (i = j))) := by
  show some (D.bl (!(i == j))) = _
  by_cases h : i = j <;> simp [h]
@[simp] theorem eqD_s {i j : Str} : eqD (.str i) (.str j) = some (.bl (i == j)) := rfl
@[simp] theorem neD_s {i j : Str} : neD (.str i) (.str j) = some (.bl (!(i == j))) := rfl
@[simp] theorem eqD_b {i j : Bool} : eqD (.bl i) (.bl j) = some (.bl (i == j)) := rfl
@[simp] theorem neD_b {i j : Bool} : neD (.bl i) (.bl j) = some (.bl (!(i == j))) := rfl
@[simp] theorem truth_n : truth .non = some false := rfl
@[simp] theorem truth_b {b : Bool} : truth (.bl b) = some b := rfl
@[simp] theorem truth_i {i : Int} : truth (.int i) = some (i != 0) := rfl
@[simp] theorem truth_t {xs : List D} : truth (.tup xs) = some (!xs.isEmpty) := rfl
@[simp] theorem truth_l {xs : List D} : truth (.lst xs) = some (!xs.isEmpty) := rfl
@[simp] theorem lenD_t {xs : List D} : lenD [.tup xs] = some (.int (xs.length : Nat)) := rfl
@[simp] theorem lenD_l {xs : List D} : lenD [.lst xs] = some (.int (xs.length : Nat)) := rfl
@[simp] theorem intD_i {i : Int} : intD [.int i] = some (.int i) := rfl
@[simp] theorem intD_b {b : Bool} : intD [.bl b] = some (.int (if b then 1 else 0)) := rfl
@[simp] theorem absD_i {i : Int} : absD [.int i] = some (.int (if i < 0 then -i else i)) := rfl
@[simp] theorem ixD_t {xs : List D} {i : Int} : ixD (.tup xs) (.int i) = L2.atI xs i := rfl
@[simp] theorem ixD_l {xs : List D} {i : Int} : ixD (.lst xs) (.int i) = L2.atI xs i := rfl
@[simp] theorem isM_n {d : D} : isM d .non = some (.bl (isNo d)) := by cases d <;> rfl
@[simp] theorem isM_b {d : D} {b : Bool} : isM d (.bl b) = some (.bl (isBlD b d)) := by cases d <;> rfl
@[simp] theorem keyD_s {x : Str} : keyD (.str x) = some (.inr x) := rfl
@[simp] theorem keyD_i {x : Int} : keyD (.int x) = some (.inl x) := rfl
def kIsT (T : String) : Option String → Option D
  | some t => (L2.kitB t T).map .bl
  | none => none
@[simp] theorem kIsT_s {T t : String} : kIsT T (some t) = (L2.kitB t T).map .bl := rfl
@[simp] theorem isT_ {d : D} {T : String} : isT T d = kIsT T (tyName d) := by
  unfold isT
  cases tyName d <;> rfl
@[simp] theorem tyN_n : tyName (.non) = some "NoneType" := rfl
@[simp] theorem tyN_b {b : Bool} : tyName (.bl b) = some "bool" := rfl
@[simp] theorem tyN_i {b : Int} : tyName (.int b) = some "int" := rfl
@[simp] theorem tyN_s {b : Str} : tyName (.str b) = some "str" := rfl
@[simp] theorem tyN_t {b : List D} : tyName (.tup b) = some "tuple" := rfl
@[simp] theorem tyN_l {b : List D} : tyName (.lst b) = some "list" := rfl
@[simp] theorem ltD_i {i j : Int} : ltD (.int i) (.int j) = some (.bl (decide (i < j))) := by first | rfl | (simp [ltD, cmpI])
@[simp] theorem leD_i {i j : Int} : leD (.int i) (.int j) = some (.bl (decide (i ≤ j))) := by first | rfl | (simp [leD, cmpI])
@[simp] theorem gtD_i {i j : Int} : gtD (.int i) (.int j) = some (.bl (decide (j < i))) := by first | rfl | (simp [gtD, cmpI])
@[simp] theorem geD_i {i j : Int} : geD (.int i) (.int j) = some (.bl (decide (j ≤ i))) := by first | rfl | (simp [geD, cmpI])
@[simp] theorem inM_t {d : D} {xs : List D} : inM d (.tup xs) = (inB d xs).map .bl := by cases d <;> rfl
@[simp] theorem inB_ap {d : D} {xs : List D} : inB d xs = (if (flat d && xs.all flat) = true then some (xs.any fun y => eqF y d) else none) := rfl
@[simp] theorem flat_s {x : Str} : flat (.str x) = true := rfl
@[simp] theorem flat_i {x : Int} : flat (.int x) = true := rfl
@[simp] theorem flat_b {x : Bool} : flat (.bl x) = true := rfl
@[simp] theorem flat_n : flat .non = true := rfl
@[simp] theorem eqF_s {x y : Str} : eqF (.str x) (.str y) = (x == y) := rfl
@[simp] theorem eqF_i {x y : Int} : eqF (.int x) (.int y) = (x == y) := rfl
@[simp] theorem sz1 (n : Nat) : (n ≤ sizeLine) = (n ≤ 16777216) := by rw [PySem.sizeLine_eq]
@[simp] theorem szl1 (n : Nat) : (n < sizeLine) = (n < 16777216) := by rw [PySem.sizeLine_eq]
@[simp] theorem atI_0 {α : Type} {a : α} {l : List α} : L2.atI (a :: l) 0 = some a := by
  unfold L2.atI L2.ixN
  rw [if_pos (by omega), if_pos (by simp only [List.length_cons]; omega)]
  rfl
@[simp] theorem atI_1 {α : Type} {a b : α} {l : List α} : L2.atI (a :: b :: l) 1 = some b := by
  unfold L2.atI L2.ixN
  rw [if_pos (by omega), if_pos (by simp only [List.length_cons]; omega)]
  rfl
@[simp] theorem atI_2 {α : Type} {a b c : α} {l : List α} : L2.atI (a :: b :: c :: l) 2 = some c := by
  unfold L2.atI L2.ixN
  rw [if_pos (by omega), if_pos (by simp only [List.length_cons]; omega)]
  rfl
@[simp] theorem atI_3 {α : Type} {a b c d : α} {l : List α} : L2.atI (a :: b :: c :: d :: l) 3 = some d := by
  unfold L2.atI L2.ixN
  rw [if_pos (by omega), if_pos (by simp only [List.length_cons]; omega)]
  rfl
theorem atI_nat {α : Type} {l : List α} {i : Nat} : L2.atI l (i : Nat) = l[i]? := by
  unfold L2.atI L2.ixN
  rw [if_pos (by omega)]
  split
  · simp
  · rename_i h
    rw [List.getElem?_eq_none (by omega)]
    rfl
end MB

namespace K53
open PySem PySem.Spec PyProof.Rows L2 MB
noncomputable section
section
variable {P : Program} {w : World} {K : Fg} {mg : Str → Option Value} {base : Heap} {k : Nat}
/-! ### _law_pool -/
abbrev N__law_pool : List Str := ["script", "cells", "x", "seed"]
theorem nd__law_pool : N__law_pool.Nodup := by decide +kernel
theorem sc__law_pool : FnScope N__law_pool ["script"] (defScope (top 23)) := ⟨rfl, rfl, rfl, nd__law_pool, rfl, by decide +kernel, by decide +kernel⟩
def it__law_pool_0 : IX := (iV seqI (eSlF false (eVar 0) none (some (eC (.int 63)))))
def ce__law_pool_1 : EX := (eB modD (eCall absD [(eCall intD [(eVar 2)])]) (eB powM (eB powM (eC (.int 10)) (eC (.int 60))) (eC (.int 10))))
def it__law_pool_2 : IX := (iV seqI (eVar 1))
def g__law_pool_3 : SX := (sSet 3 (eB modD (eCall intD [(eBF false addF (eBF false addF (eBF false mulF (eVar 3) (eC (.int 31))) (eB modD (eCall intD [(eVar 2)]) (eC (.int 999983)))) (eC (.int 1)))]) (eC (.int 1000003))))
def b__law_pool : SX := (sSeq (sSet 1 (eComp it__law_pool_0 (bNm 2) (eC (.bl true)) ce__law_pool_1 [2]))
  (sSeq (sSet 3 (eC (.int 42)))
  (sSeq (sFor it__law_pool_2 (bNm 2)
  g__law_pool_3)
  (sRet (eBF true addF (eLst [(eVar 3), (eC (.int 0)), (eC (.int 0))]) (eVar 1))))))
noncomputable def m__law_pool : Fn := runQ b__law_pool 4
theorem bd__law_pool (M : Mg P w K mg) : Body P w K mg base k N__law_pool "_law_pool" (defScope (top 23)) (defBody (top 23)) b__law_pool := fun f cd A outer s H E hr =>
  (p_cons (p_setC (i := 1) (own := [("x", 2)]) rfl nd__law_pool rfl rfl rfl (pi_seq (rf_sl (m := false) (r_var 0) .none (.some r_int))) ri_seq rfl (fun s0 H0 C0 cl0 fp0 => (g_nm (i := 2) nd__law_pool rfl (by first | exact .inl rfl | exact .inr rfl))) (fun s0 H0 C0 cl0 fp0 => c_nil) (fun s0 H0 C0 cl0 fp0 => (r_bin op_modN s_mod (r_callB call_abs s_abs M.f_abs (by decide +kernel) (a_cons (r_callTy call_int1 s_int M.f_int (by decide +kernel) (a_cons (r_var 2) a_nil)) a_nil)) (r_bin o_powM s_powM (r_bin o_powM s_powM r_int r_int) r_int))))
  (p_cons (p_set (i := 3) nd__law_pool rfl (by first | exact .inl rfl | exact .inr rfl) r_int)
  (p_cons (p_for ps_cx rfl (pi_seq (r_var 1)) ri_seq (g_nm (i := 2) nd__law_pool rfl (by first | exact .inl rfl | exact .inr rfl))
  (p_one (p_set (i := 3) nd__law_pool rfl (by first | exact .inl rfl | exact .inr rfl) (r_bin op_modN s_mod (r_callTy call_int1 s_int M.f_int (by decide +kernel) (a_cons (rf_bin (m := false) o_add s_addF (rf_bin (m := false) o_add s_addF (rf_bin (m := false) o_mul s_mulF (r_var 3) r_int) (r_bin op_modN s_mod (r_callTy call_int1 s_int M.f_int (by decide +kernel) (a_cons (r_var 2) a_nil)) r_int)) r_int) a_nil)) r_int))))
  (p_one (p_ret (rf_bin (m := true) o_add s_addF (r_lst (a_cons (r_var 3) (a_cons r_int (a_cons r_int a_nil)))) (r_var 1)))))))
/-! ### _law_draw -/
abbrev N__law_draw : List Str := ["box", "many", "mixed", "told"]
theorem nd__law_draw : N__law_draw.Nodup := by decide +kernel
theorem sc__law_draw : FnScope N__law_draw ["box", "many"] (defScope (top 24)) := ⟨rfl, rfl, rfl, nd__law_draw, rfl, by decide +kernel, by decide +kernel⟩
def b__law_draw : SX := (sSeq (sIf (eB eqD (eIxS (eVar 0) (eC (.int 2))) (eC (.int 0)))
  (sSeq (sPutS (eVar 0) (eC (.int 1)) (eBF false addF (eIxS (eVar 0) (eC (.int 1))) (eC (.int 1))))
  (sIf (eB ltD (eBF false addF (eIxS (eVar 0) (eC (.int 1))) (eC (.int 2))) (eLenS (eVar 0)))
  (sPutS (eVar 0) (eC (.int 2)) (eIxS (eVar 0) (eBF false addF (eIxS (eVar 0) (eC (.int 1))) (eC (.int 2))))) (sSeq (sSet 2 (eB modD (eCall intD [(eBF false addF (eBF false addF (eBF false mulF (eIxS (eVar 0) (eC (.int 0))) (eC (.int 48271))) (eBF false mulF (eIxS (eVar 0) (eC (.int 1))) (eC (.int 69621)))) (eC (.int 11)))]) (eC (.int 2147483647))))
  (sSeq (sSet 2 (eB modD (eCall intD [(eBF false addF (eBF false addF (eBF false mulF (eVar 2) (eVar 2)) (eBF false mulF (eIxS (eVar 0) (eC (.int 1))) (eC (.int 40692)))) (eC (.int 3)))]) (eC (.int 2147483399))))
  (sRet (eB modD (eB fdivD (eVar 2) (eC (.int 7))) (eVar 1))))))) sNil)
  (sSeq (sSet 3 (eB modD (eCall intD [(eIxS (eVar 0) (eC (.int 2)))]) (eVar 1)))
  (sSeq (sPutS (eVar 0) (eC (.int 2)) (eB fdivD (eIxS (eVar 0) (eC (.int 2))) (eVar 1)))
  (sRet (eVar 3)))))
noncomputable def m__law_draw : Fn := runQ b__law_draw 4
theorem bd__law_draw (M : Mg P w K mg) : Body P w K mg base k N__law_draw "_law_draw" (defScope (top 24)) (defBody (top 24)) b__law_draw := fun f cd A outer s H E hr =>
  (p_cons (p_if (r_cmpT (o_eq hr.units) s_eq b_eq (r_ixS (hu1 hr) (r_var 0) r_int) r_int rfl)
  (p_cons (p_putS (hu1 hr) (rf_bin (m := false) o_add s_addF (r_ixS (hu1 hr) (r_var 0) r_int) r_int) (r_var 0) r_int)
  (p_one (p_if (r_cmpT op_lt (s_cmpI _) b_cmpI (rf_bin (m := false) o_add s_addF (r_ixS (hu1 hr) (r_var 0) r_int) r_int) (r_lenA M.f_len (a_cons (r_var 0) a_nil)) rfl)
  (p_one (p_putS (hu1 hr) (r_ixS (hu1 hr) (r_var 0) (rf_bin (m := false) o_add s_addF (r_ixS (hu1 hr) (r_var 0) r_int) r_int)) (r_var 0) r_int)) (p_cons (p_set (i := 2) nd__law_draw rfl (by first | exact .inl rfl | exact .inr rfl) (r_bin op_modN s_mod (r_callTy call_int1 s_int M.f_int (by decide +kernel) (a_cons (rf_bin (m := false) o_add s_addF (rf_bin (m := false) o_add s_addF (rf_bin (m := false) o_mul s_mulF (r_ixS (hu1 hr) (r_var 0) r_int) r_int) (rf_bin (m := false) o_mul s_mulF (r_ixS (hu1 hr) (r_var 0) r_int) r_int)) r_int) a_nil)) r_int))
  (p_cons (p_set (i := 2) nd__law_draw rfl (by first | exact .inl rfl | exact .inr rfl) (r_bin op_modN s_mod (r_callTy call_int1 s_int M.f_int (by decide +kernel) (a_cons (rf_bin (m := false) o_add s_addF (rf_bin (m := false) o_add s_addF (rf_bin (m := false) o_mul s_mulF (r_var 2) (r_var 2)) (rf_bin (m := false) o_mul s_mulF (r_ixS (hu1 hr) (r_var 0) r_int) r_int)) r_int) a_nil)) r_int))
  (p_one (p_ret (r_bin op_modN s_mod (r_bin o_fdiv s_fdiv (r_var 2) r_int) (r_var 1))))))))) p_nil)
  (p_cons (p_set (i := 3) nd__law_draw rfl (by first | exact .inl rfl | exact .inr rfl) (r_bin op_modN s_mod (r_callTy call_int1 s_int M.f_int (by decide +kernel) (a_cons (r_ixS (hu1 hr) (r_var 0) r_int) a_nil)) (r_var 1)))
  (p_cons (p_putS (hu1 hr) (r_bin o_fdiv s_fdiv (r_ixS (hu1 hr) (r_var 0) r_int) (r_var 1)) (r_var 0) r_int)
  (p_one (p_ret (r_var 3))))))
/-! ### _law_vectors -/
abbrev N__law_vectors : List Str := ["levels", "digits", "told", "k", "more", "one", "x"]
theorem nd__law_vectors : N__law_vectors.Nodup := by decide +kernel
theorem sc__law_vectors : FnScope N__law_vectors ["levels", "digits"] (defScope (top 26)) := ⟨rfl, rfl, rfl, nd__law_vectors, rfl, by decide +kernel, by decide +kernel⟩
def it__law_vectors_0 : IX := (iR1 (eVar 0))
def ce__law_vectors_1 : EX := (eBF false addF (eVar 5) (eTup [(eVar 6)]))
def it__law_vectors_2 : IX := (iV seqI (eVar 2))
def g__law_vectors_3 : SX := (sSet 4 (eBF false addF (eVar 4) (eComp it__law_vectors_0 (bNm 6) (eC (.bl true)) ce__law_vectors_1 [6])))
def it__law_vectors_4 : IX := (iR1 (eVar 1))
def g__law_vectors_5 : SX := (sSeq (sSet 4 (eLst []))
  (sSeq (sFor it__law_vectors_2 (bNm 5)
  g__law_vectors_3)
  (sSet 2 (eVar 4))))
def b__law_vectors : SX := (sSeq (sSet 2 (eLst [(eTup [])]))
  (sSeq (sFor it__law_vectors_4 (bNm 3)
  g__law_vectors_5)
  (sRet (eVar 2))))
noncomputable def m__law_vectors : Fn := runQ b__law_vectors 7
theorem bd__law_vectors (M : Mg P w K mg) : Body P w K mg base k N__law_vectors "_law_vectors" (defScope (top 26)) (defBody (top 26)) b__law_vectors := fun f cd A outer s H E hr =>
  (p_cons (p_set (i := 2) nd__law_vectors rfl (by first | exact .inl rfl | exact .inr rfl) (r_lst (a_cons (r_tup a_nil) a_nil)))
  (p_cons (p_for ps_cx rfl (pi_range1 rfl M.f_range (pa_cons (r_var 1) pa_nil)) ri_r1 (g_nm (i := 3) nd__law_vectors rfl (by first | exact .inl rfl | exact .inr rfl))
  (p_cons (p_set (i := 4) nd__law_vectors rfl (by first | exact .inl rfl | exact .inr rfl) (r_lst a_nil))
  (p_cons (p_for ps_cx rfl (pi_seq (r_var 2)) ri_seq (g_nm (i := 5) nd__law_vectors rfl (by first | exact .inl rfl | exact .inr rfl))
  (p_one (p_set (i := 4) nd__law_vectors rfl (by first | exact .inl rfl | exact .inr rfl) (rf_bin (m := false) o_add s_addF (r_var 4) (r_comp (own := [("x", 6)]) rfl nd__law_vectors (pi_range1 rfl M.f_range (pa_cons (r_var 0) pa_nil)) ri_r1 rfl (fun s0 H0 C0 cl0 fp0 => (g_nm (i := 6) nd__law_vectors rfl (by first | exact .inl rfl | exact .inr rfl))) (fun s0 H0 C0 cl0 fp0 => c_nil) (fun s0 H0 C0 cl0 fp0 => (rf_bin (m := false) o_add s_addF (r_var 5) (r_tup (a_cons (r_var 6) a_nil)))))))))
  (p_one (p_set (i := 2) nd__law_vectors rfl (by first | exact .inl rfl | exact .inr rfl) (r_var 4))))))
  (p_one (p_ret (r_var 2)))))
/-! ### _law_sums -/
abbrev N__law_sums : List Str := ["box", "shapes", "levels", "digits", "vectors", "rest", "v", "x", "wide", "columns", "k", "shift", "rows", "row", "c", "total", "y"]
theorem nd__law_sums : N__law_sums.Nodup := by decide +kernel
theorem sc__law_sums : FnScope N__law_sums ["box"] (defScope (top 27)) := ⟨rfl, rfl, rfl, nd__law_sums, rfl, by decide +kernel, by decide +kernel⟩
def it__law_sums_0 : IX := (iV seqI (eVar 6))
def ct__law_sums_1 : EX := (eB gtD (eVar 7) (eC (.int 0)))
def ce__law_sums_2 : EX := (eVar 7)
def it__law_sums_3 : IX := (iV seqI (eVar 4))
def ct__law_sums_4 : EX := (eBs 3 eqD (eSlF false (eComp it__law_sums_0 (bNm 7) ct__law_sums_1 ce__law_sums_2 [7]) none (some (eC (.int 1)))) (eLst [(eC (.int 1))]))
def ce__law_sums_5 : EX := (eVar 6)
def it__law_sums_6 : IX := (iR1 (eVar 8))
def g__law_sums_7 : SX := (sEx (eMut appF (eVar 9) [(eMut popAtF (eVar 5) [(eFn m__law_draw [(eVar 0), (eLenS (eVar 5))])])]))
def it__law_sums_8 : IX := (iZ (eVar 6) (eVar 14))
def ce__law_sums_9 : EX := (eBF false mulF (eVar 7) (eVar 16))
def it__law_sums_10 : IX := (iV seqI (eVar 9))
def g__law_sums_11 : SX := (sSeq (sSet 15 (eBF false addF (eCall sumD [(eComp it__law_sums_8 (bTp [(bNm 7), (bNm 16)]) (eC (.bl true)) ce__law_sums_9 [7, 16])]) (eVar 11)))
  (sEx (eMut appF (eVar 13) [(eB modD (eCall intD [(eVar 15)]) (eVar 2))])))
def it__law_sums_12 : IX := (iV seqI (eVar 4))
def g__law_sums_13 : SX := (sSeq (sSet 13 (eLstM []))
  (sSeq (sSeq (sFr 9) (sFor it__law_sums_10 (bNm 14)
  g__law_sums_11))
  (sSeq (sFr 13) (sEx (eMut appF (eVar 12) [(eVar 13)])))))
def b__law_sums : SX := (sSeq (sSet 1 (eLst [(eTup [(eC (.int 2)), (eC (.int 2))]), (eTup [(eC (.int 2)), (eC (.int 3))]), (eTup [(eC (.int 3)), (eC (.int 2))]), (eTup [(eC (.int 3)), (eC (.int 2))]), (eTup [(eC (.int 2)), (eC (.int 2))]), (eTup [(eC (.int 2)), (eC (.int 3))]), (eTup [(eC (.int 3)), (eC (.int 3))]), (eTup [(eC (.int 5)), (eC (.int 2))])]))
  (sSeq (sUn (bTp [(bNm 2), (bNm 3)]) (eIxS (eVar 1) (eFn m__law_draw [(eVar 0), (eC (.int 8))])))
  (sSeq (sIf (eB eqD (eFn m__law_draw [(eVar 0), (eC (.int 8))]) (eC (.int 7)))
  (sUn (bTp [(bNm 2), (bNm 3)]) (eIxS (eLst [(eTup [(eC (.int 2)), (eC (.int 6))]), (eTup [(eC (.int 3)), (eC (.int 4))]), (eTup [(eC (.int 5)), (eC (.int 3))]), (eTup [(eC (.int 11)), (eC (.int 2))]), (eTup [(eC (.int 13)), (eC (.int 2))]), (eTup [(eC (.int 7)), (eC (.int 2))]), (eTup [(eC (.int 2)), (eC (.int 4))]), (eTup [(eC (.int 2)), (eC (.int 5))])]) (eFn m__law_draw [(eVar 0), (eC (.int 8))]))) sNil)
  (sSeq (sSet 4 (eFn m__law_vectors [(eVar 2), (eVar 3)]))
  (sSeq (sSet 5 (eCompM it__law_sums_3 (bNm 6) ct__law_sums_4 ce__law_sums_5 [6]))
  (sSeq (sSet 8 (eCall minD [(eC (.int 30)), (eLenS (eVar 5))]))
  (sSeq (sIf (eB gtD (eFn m__law_draw [(eVar 0), (eC (.int 3))]) (eC (.int 0)))
  (sSet 8 (eBF false addF (eC (.int 1)) (eFn m__law_draw [(eVar 0), (eVar 8)]))) sNil)
  (sSeq (sSet 9 (eLstM []))
  (sSeq (sFor it__law_sums_6 (bNm 10)
  g__law_sums_7)
  (sSeq (sSet 11 (eFn m__law_draw [(eVar 0), (eVar 2)]))
  (sSeq (sSet 12 (eLstM []))
  (sSeq (sFor it__law_sums_12 (bNm 6)
  g__law_sums_13)
  (sSeq (sFr 12) (sRet (eTup [(eVar 2), (eVar 12)])))))))))))))))
noncomputable def m__law_sums : Fn := runQ b__law_sums 17
theorem bd__law_sums (M : Mg P w K mg) (D__law_draw : Df P w K mg base k "_law_draw" 2 m__law_draw) (D__law_vectors : Df P w K mg base k "_law_vectors" 2 m__law_vectors) : Body P w K mg base k N__law_sums "_law_sums" (defScope (top 27)) (defBody (top 27)) b__law_sums := fun f cd A outer s H E hr =>
  (p_cons (p_set (i := 1) nd__law_sums rfl (by first | exact .inl rfl | exact .inr rfl) (r_lst (a_cons (r_tup (a_cons r_int (a_cons r_int a_nil))) (a_cons (r_tup (a_cons r_int (a_cons r_int a_nil))) (a_cons (r_tup (a_cons r_int (a_cons r_int a_nil))) (a_cons (r_tup (a_cons r_int (a_cons r_int a_nil))) (a_cons (r_tup (a_cons r_int (a_cons r_int a_nil))) (a_cons (r_tup (a_cons r_int (a_cons r_int a_nil))) (a_cons (r_tup (a_cons r_int (a_cons r_int a_nil))) (a_cons (r_tup (a_cons r_int (a_cons r_int a_nil))) a_nil))))))))))
  (p_cons (p_un (r_ixS (hu1 hr) (r_var 1) (r_fn D__law_draw hr tk_cx (a_cons (r_var 0) (a_cons r_int a_nil)))) (g_tp rfl (gs_cons (g_nm (i := 2) nd__law_sums rfl (by first | exact .inl rfl | exact .inr rfl)) (gs_cons (g_nm (i := 3) nd__law_sums rfl (by first | exact .inl rfl | exact .inr rfl)) gs_nil))))
  (p_cons (p_if (r_cmpT (o_eq hr.units) s_eq b_eq (r_fn D__law_draw hr tk_cx (a_cons (r_var 0) (a_cons r_int a_nil))) r_int rfl)
  (p_one (p_un (r_ixS (hu1 hr) (r_lst (a_cons (r_tup (a_cons r_int (a_cons r_int a_nil))) (a_cons (r_tup (a_cons r_int (a_cons r_int a_nil))) (a_cons (r_tup (a_cons r_int (a_cons r_int a_nil))) (a_cons (r_tup (a_cons r_int (a_cons r_int a_nil))) (a_cons (r_tup (a_cons r_int (a_cons r_int a_nil))) (a_cons (r_tup (a_cons r_int (a_cons r_int a_nil))) (a_cons (r_tup (a_cons r_int (a_cons r_int a_nil))) (a_cons (r_tup (a_cons r_int (a_cons r_int a_nil))) a_nil))))))))) (r_fn D__law_draw hr tk_cx (a_cons (r_var 0) (a_cons r_int a_nil)))) (g_tp rfl (gs_cons (g_nm (i := 2) nd__law_sums rfl (by first | exact .inl rfl | exact .inr rfl)) (gs_cons (g_nm (i := 3) nd__law_sums rfl (by first | exact .inl rfl | exact .inr rfl)) gs_nil))))) p_nil)
  (p_cons (p_set (i := 4) nd__law_sums rfl (by first | exact .inl rfl | exact .inr rfl) (r_fn D__law_vectors hr tk_cx (a_cons (r_var 2) (a_cons (r_var 3) a_nil))))
  (p_cons (p_setCM (i := 5) (own := [("v", 6)]) rfl nd__law_sums rfl rfl rfl (pi_seq (r_var 4)) ri_seq rfl (fun s0 H0 C0 cl0 fp0 => (g_nm (i := 6) nd__law_sums rfl (by first | exact .inl rfl | exact .inr rfl))) (fun s0 H0 C0 cl0 fp0 => (c_one (rs_cmpT (n := 3) (o_eq hr.units) s_eq b_eq (rf_sl (m := false) (r_comp (own := [("x", 7)]) rfl nd__law_sums (pi_seq (r_var 6)) ri_seq rfl (fun s0 H0 C0 cl0 fp0 => (g_nm (i := 7) nd__law_sums rfl (by first | exact .inl rfl | exact .inr rfl))) (fun s0 H0 C0 cl0 fp0 => (c_one (r_cmpT op_gt (s_cmpI _) b_cmpI (r_var 7) r_int rfl))) (fun s0 H0 C0 cl0 fp0 => (r_var 7))) .none (.some r_int)) (r_lst (a_cons r_int a_nil)) rfl))) (fun s0 H0 C0 cl0 fp0 => (r_var 6)))
  (p_cons (p_set (i := 8) nd__law_sums rfl (by first | exact .inl rfl | exact .inr rfl) (r_callB (call_min2 rfl) s_min M.f_min (by decide +kernel) (a_cons r_int (a_cons (r_lenA M.f_len (a_cons (r_var 5) a_nil)) a_nil))))
  (p_cons (p_if (r_cmpT op_gt (s_cmpI _) b_cmpI (r_fn D__law_draw hr tk_cx (a_cons (r_var 0) (a_cons r_int a_nil))) r_int rfl)
  (p_one (p_set (i := 8) nd__law_sums rfl (by first | exact .inl rfl | exact .inr rfl) (rf_bin (m := false) o_add s_addF r_int (r_fn D__law_draw hr tk_cx (a_cons (r_var 0) (a_cons (r_var 8) a_nil)))))) p_nil)
  (p_cons (p_set (i := 9) nd__law_sums rfl (by first | exact .inl rfl | exact .inr rfl) (r_lstM a_nil))
  (p_cons (p_for ps_cx rfl (pi_range1 rfl M.f_range (pa_cons (r_var 8) pa_nil)) ri_r1 (g_nm (i := 10) nd__law_sums rfl (by first | exact .inl rfl | exact .inr rfl))
  (p_one (p_ex (r_mut PySem.F.slot_list_append PySem.F.type_list_append mt_append m_app (r_var 9) (a_cons (r_mut PySem.F.slot_list_pop PySem.F.type_list_pop mt_popAt m_popAt (r_var 5) (a_cons (r_fn D__law_draw hr tk_cx (a_cons (r_var 0) (a_cons (r_lenA M.f_len (a_cons (r_var 5) a_nil)) a_nil))) a_nil)) a_nil)))))
  (p_cons (p_set (i := 11) nd__law_sums rfl (by first | exact .inl rfl | exact .inr rfl) (r_fn D__law_draw hr tk_cx (a_cons (r_var 0) (a_cons (r_var 2) a_nil))))
  (p_cons (p_set (i := 12) nd__law_sums rfl (by first | exact .inl rfl | exact .inr rfl) (r_lstM a_nil))
  (p_cons (p_for ps_cx rfl (pi_seq (r_var 4)) ri_seq (g_nm (i := 6) nd__law_sums rfl (by first | exact .inl rfl | exact .inr rfl))
  (p_cons (p_set (i := 13) nd__law_sums rfl (by first | exact .inl rfl | exact .inr rfl) (r_lstM a_nil))
  (p_cons (p_fr 9 (p_for ps_cx rfl (pi_seq (r_var 9)) ri_seq (g_nm (i := 14) nd__law_sums rfl (by first | exact .inl rfl | exact .inr rfl))
  (p_cons (p_set (i := 15) nd__law_sums rfl (by first | exact .inl rfl | exact .inr rfl) (rf_bin (m := false) o_add s_addF (r_callB (cr_sum rfl) s_sum M.f_sum (by decide +kernel) (a_cons (r_comp (own := [("x", 7), ("y", 16)]) rfl nd__law_sums (RZ.pi_zipA rfl M.f_zip (pa_cons (r_var 6) (pa_cons (r_var 14) pa_nil))) ri_zip rfl (fun s0 H0 C0 cl0 fp0 => (g_tp rfl (gs_cons (g_nm (i := 7) nd__law_sums rfl (by first | exact .inl rfl | exact .inr rfl)) (gs_cons (g_nm (i := 16) nd__law_sums rfl (by first | exact .inl rfl | exact .inr rfl)) gs_nil)))) (fun s0 H0 C0 cl0 fp0 => c_nil) (fun s0 H0 C0 cl0 fp0 => (rf_bin (m := false) o_mul s_mulF (r_var 7) (r_var 16)))) a_nil)) (r_var 11)))
  (p_one (p_ex (r_mut PySem.F.slot_list_append PySem.F.type_list_append mt_append m_app (r_var 13) (a_cons (r_bin op_modN s_mod (r_callTy call_int1 s_int M.f_int (by decide +kernel) (a_cons (r_var 15) a_nil)) (r_var 2)) a_nil)))))))
  (p_one (p_fr 13 (p_ex (r_mut PySem.F.slot_list_append PySem.F.type_list_append mt_append m_app (r_var 12) (a_cons (r_var 13) a_nil))))))))
  (p_one (p_fr 12 (p_ret (r_tup (a_cons (r_var 2) (a_cons (r_var 12) a_nil))))))))))))))))))
/-! ### _law_good -/
abbrev N__law_good : List Str := ["box", "kind", "levels", "rows", "a", "b", "x", "y", "row", "cut"]
theorem nd__law_good : N__law_good.Nodup := by decide +kernel
theorem sc__law_good : FnScope N__law_good ["box"] (defScope (top 28)) := ⟨rfl, rfl, rfl, nd__law_good, rfl, by decide +kernel, by decide +kernel⟩
def it__law_good_0 : IX := (iR1 (eVar 2))
def ce__law_good_1 : EX := (eLst [(eVar 4), (eVar 5), (eB modD (eCall intD [(eBF false addF (eVar 4) (eVar 5))]) (eVar 2))])
def it__law_good_2 : IX := (iR1 (eVar 2))
def g__law_good_3 : SX := (sSet 3 (eBF true addF (eVar 3) (eComp it__law_good_0 (bNm 5) (eC (.bl true)) ce__law_good_1 [5])))
def it__law_good_4 : IX := (iR1 (eC (.int 11)))
def ce__law_good_5 : EX := (eCall intD [(eInA 3 (eB modD (eCall intD [(eB subD (eVar 7) (eVar 6))]) (eC (.int 11))) (eTup [(eC (.int 2)), (eC (.int 6)), (eC (.int 7)), (eC (.int 8)), (eC (.int 10))]))])
def it__law_good_6 : IX := (iR1 (eC (.int 11)))
def g__law_good_7 : SX := (sEx (eMut appF (eVar 3) [(eComp it__law_good_4 (bNm 7) (eC (.bl true)) ce__law_good_5 [7])]))
def it__law_good_8 : IX := (iV seqI (eVar 3))
def ce__law_good_9 : EX := (eCallF false listF (eVar 8))
def b__law_good : SX := (sSeq (sSet 1 (eFn m__law_draw [(eVar 0), (eC (.int 6))]))
  (sSeq (sSet 2 (eIxS (eLst [(eC (.int 4)), (eC (.int 4)), (eC (.int 6)), (eC (.int 14))]) (eFn m__law_draw [(eVar 0), (eC (.int 4))])))
  (sSeq (sSet 3 (eLstM []))
  (sSeq (sIf (eB eqD (eVar 1) (eC (.int 0)))
  (sFor it__law_good_2 (bNm 4)
  g__law_good_3) (sIf (eB eqD (eVar 1) (eC (.int 1)))
  (sSeq (sSet 2 (eC (.int 2)))
  (sSeq (sSet 3 (eLstM [(eBF false mulF (eLst [(eC (.int 1))]) (eC (.int 11)))]))
  (sFor it__law_good_6 (bNm 6)
  g__law_good_7))) (sUn (bTp [(bNm 2), (bNm 3)]) (eFn m__law_sums [(eVar 0)]))))
  (sSeq (sIf (eAnd (eB eqD (eFn m__law_draw [(eVar 0), (eC (.int 3))]) (eC (.int 2))) (eB leD (eLenS (eVar 3)) (eC (.int 64))))
  (sSeq (sFr 3) (sSet 3 (eBF true addF (eVar 3) (eComp it__law_good_8 (bNm 8) (eC (.bl true)) ce__law_good_9 [8])))) sNil)
  (sSeq (sSet 9 (eFn m__law_draw [(eVar 0), (eLenS (eVar 3))]))
  (sRet (eTup [(eVar 2), (eBF false addF (eSlF false (eVar 3) (some (eVar 9)) none) (eSlF false (eVar 3) none (some (eVar 9))))]))))))))
noncomputable def m__law_good : Fn := runQ b__law_good 10
theorem bd__law_good (M : Mg P w K mg) (D__law_draw : Df P w K mg base k "_law_draw" 2 m__law_draw) (D__law_sums : Df P w K mg base k "_law_sums" 1 m__law_sums) : Body P w K mg base k N__law_good "_law_good" (defScope (top 28)) (defBody (top 28)) b__law_good := fun f cd A outer s H E hr =>
  (p_cons (p_set (i := 1) nd__law_good rfl (by first | exact .inl rfl | exact .inr rfl) (r_fn D__law_draw hr tk_cx (a_cons (r_var 0) (a_cons r_int a_nil))))
  (p_cons (p_set (i := 2) nd__law_good rfl (by first | exact .inl rfl | exact .inr rfl) (r_ixS (hu1 hr) (r_lst (a_cons r_int (a_cons r_int (a_cons r_int (a_cons r_int a_nil))))) (r_fn D__law_draw hr tk_cx (a_cons (r_var 0) (a_cons r_int a_nil)))))
  (p_cons (p_set (i := 3) nd__law_good rfl (by first | exact .inl rfl | exact .inr rfl) (r_lstM a_nil))
  (p_cons (p_if (r_cmpT (o_eq hr.units) s_eq b_eq (r_var 1) r_int rfl)
  (p_one (p_for ps_cx rfl (pi_range1 rfl M.f_range (pa_cons (r_var 2) pa_nil)) ri_r1 (g_nm (i := 4) nd__law_good rfl (by first | exact .inl rfl | exact .inr rfl))
  (p_one (p_set (i := 3) nd__law_good rfl (by first | exact .inl rfl | exact .inr rfl) (rf_bin (m := true) o_add s_addF (r_var 3) (r_comp (own := [("b", 5)]) rfl nd__law_good (pi_range1 rfl M.f_range (pa_cons (r_var 2) pa_nil)) ri_r1 rfl (fun s0 H0 C0 cl0 fp0 => (g_nm (i := 5) nd__law_good rfl (by first | exact .inl rfl | exact .inr rfl))) (fun s0 H0 C0 cl0 fp0 => c_nil) (fun s0 H0 C0 cl0 fp0 => (r_lst (a_cons (r_var 4) (a_cons (r_var 5) (a_cons (r_bin op_modN s_mod (r_callTy call_int1 s_int M.f_int (by decide +kernel) (a_cons (rf_bin (m := false) o_add s_addF (r_var 4) (r_var 5)) a_nil)) (r_var 2)) a_nil))))))))))) (p_one (p_if (r_cmpT (o_eq hr.units) s_eq b_eq (r_var 1) r_int rfl)
  (p_cons (p_set (i := 2) nd__law_good rfl (by first | exact .inl rfl | exact .inr rfl) r_int)
  (p_cons (p_set (i := 3) nd__law_good rfl (by first | exact .inl rfl | exact .inr rfl) (r_lstM (a_cons (rf_bin (m := false) o_mul s_mulF (r_lst (a_cons r_int a_nil)) r_int) a_nil)))
  (p_one (p_for ps_cx rfl (pi_range1 rfl M.f_range (pa_cons r_int pa_nil)) ri_r1 (g_nm (i := 6) nd__law_good rfl (by first | exact .inl rfl | exact .inr rfl))
  (p_one (p_ex (r_mut PySem.F.slot_list_append PySem.F.type_list_append mt_append m_app (r_var 3) (a_cons (r_comp (own := [("y", 7)]) rfl nd__law_good (pi_range1 rfl M.f_range (pa_cons r_int pa_nil)) ri_r1 rfl (fun s0 H0 C0 cl0 fp0 => (g_nm (i := 7) nd__law_good rfl (by first | exact .inl rfl | exact .inr rfl))) (fun s0 H0 C0 cl0 fp0 => c_nil) (fun s0 H0 C0 cl0 fp0 => (r_callTy call_int1 s_int M.f_int (by decide +kernel) (a_cons (r_inA (n := 3) (hu65 hr) (r_bin op_modN s_mod (r_callTy call_int1 s_int M.f_int (by decide +kernel) (a_cons (r_bin op_sub s_sub (r_var 7) (r_var 6)) a_nil)) r_int) (r_tup (a_cons r_int (a_cons r_int (a_cons r_int (a_cons r_int (a_cons r_int a_nil))))))) a_nil)))) a_nil)))))))) (p_one (p_un (r_fn D__law_sums hr tk_cx (a_cons (r_var 0) a_nil)) (g_tp rfl (gs_cons (g_nm (i := 2) nd__law_good rfl (by first | exact .inl rfl | exact .inr rfl)) (gs_cons (g_nm (i := 3) nd__law_good rfl (by first | exact .inl rfl | exact .inr rfl)) gs_nil))))))))
  (p_cons (p_if (r_andT (r_cmpT (o_eq hr.units) s_eq b_eq (r_fn D__law_draw hr tk_cx (a_cons (r_var 0) (a_cons r_int a_nil))) r_int rfl) (r_andT1 (r_cmpT op_le (s_cmpI _) b_cmpI (r_lenA M.f_len (a_cons (r_var 3) a_nil)) r_int rfl))).pt
  (p_one (p_fr 3 (p_set (i := 3) nd__law_good rfl (by first | exact .inl rfl | exact .inr rfl) (rf_bin (m := true) o_add s_addF (r_var 3) (r_comp (own := [("row", 8)]) rfl nd__law_good (pi_seq (r_var 3)) ri_seq rfl (fun s0 H0 C0 cl0 fp0 => (g_nm (i := 8) nd__law_good rfl (by first | exact .inl rfl | exact .inr rfl))) (fun s0 H0 C0 cl0 fp0 => c_nil) (fun s0 H0 C0 cl0 fp0 => (rf_callTy (m := false) call_list_of s_listF M.f_list (by decide +kernel) (a_cons (r_var 8) a_nil)))))))) p_nil)
  (p_cons (p_set (i := 9) nd__law_good rfl (by first | exact .inl rfl | exact .inr rfl) (r_fn D__law_draw hr tk_cx (a_cons (r_var 0) (a_cons (r_lenA M.f_len (a_cons (r_var 3) a_nil)) a_nil))))
  (p_one (p_ret (r_tup (a_cons (r_var 2) (a_cons (rf_bin (m := false) o_add s_addF (rf_sl (m := false) (r_var 3) (.some (r_var 9)) .none) (rf_sl (m := false) (r_var 3) .none (.some (r_var 9)))) a_nil)))))))))))
/-! ### _law_changed -/
abbrev N__law_changed : List Str := ["box", "levels", "rows", "told", "row", "i", "j"]
theorem nd__law_changed : N__law_changed.Nodup := by decide +kernel
theorem sc__law_changed : FnScope N__law_changed ["box", "levels", "rows"] (defScope (top 29)) := ⟨rfl, rfl, rfl, nd__law_changed, rfl, by decide +kernel, by decide +kernel⟩
def it__law_changed_0 : IX := (iV seqI (eVar 2))
def ce__law_changed_1 : EX := (eCallF true listF (eVar 4))
def b__law_changed : SX := (sSeq (sSet 3 (eComp it__law_changed_0 (bNm 4) (eC (.bl true)) ce__law_changed_1 [4]))
  (sSeq (sSet 5 (eFn m__law_draw [(eVar 0), (eLenS (eVar 2))]))
  (sSeq (sSet 6 (eFn m__law_draw [(eVar 0), (eLenS (eIxS (eVar 2) (eC (.int 0))))]))
  (sSeq (sPutS (eIxS (eVar 3) (eVar 5)) (eVar 6) (eB modD (eCall intD [(eBF false addF (eBF false addF (eIxS (eIxS (eVar 3) (eVar 5)) (eVar 6)) (eC (.int 1))) (eFn m__law_draw [(eVar 0), (eB subD (eVar 1) (eC (.int 1)))]))]) (eVar 1)))
  (sSeq (sFrD 3) (sRet (eVar 3)))))))
noncomputable def m__law_changed : Fn := runQ b__law_changed 7
theorem bd__law_changed (M : Mg P w K mg) (D__law_draw : Df P w K mg base k "_law_draw" 2 m__law_draw) : Body P w K mg base k N__law_changed "_law_changed" (defScope (top 29)) (defBody (top 29)) b__law_changed := fun f cd A outer s H E hr =>
  (p_cons (p_setC (i := 3) (own := [("row", 4)]) rfl nd__law_changed rfl rfl rfl (pi_seq (r_var 2)) ri_seq rfl (fun s0 H0 C0 cl0 fp0 => (g_nm (i := 4) nd__law_changed rfl (by first | exact .inl rfl | exact .inr rfl))) (fun s0 H0 C0 cl0 fp0 => c_nil) (fun s0 H0 C0 cl0 fp0 => (rf_callTy (m := true) call_list_of s_listF M.f_list (by decide +kernel) (a_cons (r_var 4) a_nil))))
  (p_cons (p_set (i := 5) nd__law_changed rfl (by first | exact .inl rfl | exact .inr rfl) (r_fn D__law_draw hr tk_cx (a_cons (r_var 0) (a_cons (r_lenA M.f_len (a_cons (r_var 2) a_nil)) a_nil))))
  (p_cons (p_set (i := 6) nd__law_changed rfl (by first | exact .inl rfl | exact .inr rfl) (r_fn D__law_draw hr tk_cx (a_cons (r_var 0) (a_cons (r_lenA M.f_len (a_cons (r_ixS (hu1 hr) (r_var 2) r_int) a_nil)) a_nil))))
  (p_cons (p_putS (hu1 hr) (r_bin op_modN s_mod (r_callTy call_int1 s_int M.f_int (by decide +kernel) (a_cons (rf_bin (m := false) o_add s_addF (rf_bin (m := false) o_add s_addF (r_ixS (hu1 hr) (r_ixS (hu1 hr) (r_var 3) (r_var 5)) (r_var 6)) r_int) (r_fn D__law_draw hr tk_cx (a_cons (r_var 0) (a_cons (r_bin op_sub s_sub (r_var 1) r_int) a_nil)))) a_nil)) (r_var 1)) (r_ixS (hu1 hr) (r_var 3) (r_var 5)) (r_var 6))
  (p_one (p_frD 3 (p_ret (r_var 3))))))))
/-! ### _law_bent -/
abbrev N__law_bent : List Str := ["box", "levels", "rows", "told", "row", "i", "j", "kind", "odd", "k", "one"]
theorem nd__law_bent : N__law_bent.Nodup := by decide +kernel
theorem sc__law_bent : FnScope N__law_bent ["box", "levels", "rows"] (defScope (top 34)) := ⟨rfl, rfl, rfl, nd__law_bent, rfl, by decide +kernel, by decide +kernel⟩
def it__law_bent_0 : IX := (iV seqI (eSlF false (eVar 2) none (some (eC (.int 6)))))
def ce__law_bent_1 : EX := (eCallF false listF (eVar 4))
def it__law_bent_2 : IX := (iR1 (eBF false addF (eC (.int 200)) (eFn m__law_draw [(eVar 0), (eC (.int 2))])))
def ce__law_bent_3 : EX := (eCallF false listF (eVar 4))
def it__law_bent_4 : IX := (iV seqI (eVar 3))
def ce__law_bent_5 : EX := (eSlF false (eVar 10) none (some (eC (.int 0))))
def b__law_bent : SX := (sSeq (sSet 3 (eCompM it__law_bent_0 (bNm 4) (eC (.bl true)) ce__law_bent_1 [4]))
  (sSeq (sSet 5 (eFn m__law_draw [(eVar 0), (eLenS (eVar 3))]))
  (sSeq (sSet 4 (eIxS (eVar 3) (eVar 5)))
  (sSeq (sSet 6 (eFn m__law_draw [(eVar 0), (eBF false addF (eLenS (eVar 4)) (eC (.int 1)))]))
  (sSeq (sSet 7 (eFn m__law_draw [(eVar 0), (eC (.int 6))]))
  (sSeq (sSet 8 (eIxS (eLst [(e1 negD (eC (.int 1))), (eVar 1), (eBF false addF (eVar 1) (eC (.int 1))), (e1 negD (eB powM (eC (.int 10)) (eC (.int 60)))), (eB powM (eC (.int 10)) (eC (.int 60)))]) (eFn m__law_draw [(eVar 0), (eC (.int 5))])))
  (sSeq (sIf (eB eqD (eVar 7) (eC (.int 0)))
  (sPutS (eVar 3) (eVar 5) (eSlF false (eVar 4) none (some (eVar 6)))) sNil)
  (sSeq (sIf (eB eqD (eVar 7) (eC (.int 1)))
  (sPutS (eVar 3) (eVar 5) (eBF false addF (eVar 4) (eBF false mulF (eLst [(eC (.int 0))]) (eB subD (eC (.int 31)) (eLenS (eVar 4)))))) sNil)
  (sSeq (sIf (eOr (eB eqD (eVar 7) (eC (.int 2))) (eB eqD (eVar 7) (eC (.int 3))))
  (sPutS (eVar 3) (eVar 5) (eBF false addF (eBF false addF (eSlF false (eVar 4) none (some (eVar 6))) (eLst [(eVar 8)])) (eSlF false (eVar 4) (some (eB subD (eBF false addF (eVar 6) (eVar 7)) (eC (.int 2)))) none))) sNil)
  (sSeq (sIf (eB eqD (eVar 7) (eC (.int 4)))
  (sSet 3 (eCompM it__law_bent_2 (bNm 9) (eC (.bl true)) ce__law_bent_3 [9])) sNil)
  (sSeq (sIf (eB eqD (eVar 7) (eC (.int 5)))
  (sSeq (sFr 3) (sSet 3 (eCompM it__law_bent_4 (bNm 10) (eC (.bl true)) ce__law_bent_5 [10]))) sNil)
  (sSeq (sFr 3) (sRet (eVar 3))))))))))))))
noncomputable def m__law_bent : Fn := runQ b__law_bent 11
theorem bd__law_bent (M : Mg P w K mg) (D__law_draw : Df P w K mg base k "_law_draw" 2 m__law_draw) : Body P w K mg base k N__law_bent "_law_bent" (defScope (top 34)) (defBody (top 34)) b__law_bent := fun f cd A outer s H E hr =>
  (p_cons (p_setCM (i := 3) (own := [("row", 4)]) rfl nd__law_bent rfl rfl rfl (pi_seq (rf_sl (m := false) (r_var 2) .none (.some r_int))) ri_seq rfl (fun s0 H0 C0 cl0 fp0 => (g_nm (i := 4) nd__law_bent rfl (by first | exact .inl rfl | exact .inr rfl))) (fun s0 H0 C0 cl0 fp0 => c_nil) (fun s0 H0 C0 cl0 fp0 => (rf_callTy (m := false) call_list_of s_listF M.f_list (by decide +kernel) (a_cons (r_var 4) a_nil))))
  (p_cons (p_set (i := 5) nd__law_bent rfl (by first | exact .inl rfl | exact .inr rfl) (r_fn D__law_draw hr tk_cx (a_cons (r_var 0) (a_cons (r_lenA M.f_len (a_cons (r_var 3) a_nil)) a_nil))))
  (p_cons (p_set (i := 4) nd__law_bent rfl (by first | exact .inl rfl | exact .inr rfl) (r_ixS (hu1 hr) (r_var 3) (r_var 5)))
  (p_cons (p_set (i := 6) nd__law_bent rfl (by first | exact .inl rfl | exact .inr rfl) (r_fn D__law_draw hr tk_cx (a_cons (r_var 0) (a_cons (rf_bin (m := false) o_add s_addF (r_lenA M.f_len (a_cons (r_var 4) a_nil)) r_int) a_nil))))
  (p_cons (p_set (i := 7) nd__law_bent rfl (by first | exact .inl rfl | exact .inr rfl) (r_fn D__law_draw hr tk_cx (a_cons (r_var 0) (a_cons r_int a_nil))))
  (p_cons (p_set (i := 8) nd__law_bent rfl (by first | exact .inl rfl | exact .inr rfl) (r_ixS (hu1 hr) (r_lst (a_cons (r_un un_neg s_neg r_int) (a_cons (r_var 1) (a_cons (rf_bin (m := false) o_add s_addF (r_var 1) r_int) (a_cons (r_un un_neg s_neg (r_bin o_powM s_powM r_int r_int)) (a_cons (r_bin o_powM s_powM r_int r_int) a_nil)))))) (r_fn D__law_draw hr tk_cx (a_cons (r_var 0) (a_cons r_int a_nil)))))
  (p_cons (p_if (r_cmpT (o_eq hr.units) s_eq b_eq (r_var 7) r_int rfl)
  (p_one (p_putS (hu1 hr) (rf_sl (m := false) (r_var 4) .none (.some (r_var 6))) (r_var 3) (r_var 5))) p_nil)
  (p_cons (p_if (r_cmpT (o_eq hr.units) s_eq b_eq (r_var 7) r_int rfl)
  (p_one (p_putS (hu1 hr) (rf_bin (m := false) o_add s_addF (r_var 4) (rf_bin (m := false) o_mul s_mulF (r_lst (a_cons r_int a_nil)) (r_bin op_sub s_sub r_int (r_lenA M.f_len (a_cons (r_var 4) a_nil))))) (r_var 3) (r_var 5))) p_nil)
  (p_cons (p_if (r_orT (r_cmpT (o_eq hr.units) s_eq b_eq (r_var 7) r_int rfl) (r_orT1 (r_cmpT (o_eq hr.units) s_eq b_eq (r_var 7) r_int rfl))).pt
  (p_one (p_putS (hu1 hr) (rf_bin (m := false) o_add s_addF (rf_bin (m := false) o_add s_addF (rf_sl (m := false) (r_var 4) .none (.some (r_var 6))) (r_lst (a_cons (r_var 8) a_nil))) (rf_sl (m := false) (r_var 4) (.some (r_bin op_sub s_sub (rf_bin (m := false) o_add s_addF (r_var 6) (r_var 7)) r_int)) .none)) (r_var 3) (r_var 5))) p_nil)
  (p_cons (p_if (r_cmpT (o_eq hr.units) s_eq b_eq (r_var 7) r_int rfl)
  (p_one (p_setCM (i := 3) (own := [("k", 9)]) rfl nd__law_bent rfl rfl rfl (pi_range1 rfl M.f_range (pa_cons (rf_bin (m := false) o_add s_addF r_int (r_fn D__law_draw hr tk_cx (a_cons (r_var 0) (a_cons r_int a_nil)))) pa_nil)) ri_r1 rfl (fun s0 H0 C0 cl0 fp0 => (g_nm (i := 9) nd__law_bent rfl (by first | exact .inl rfl | exact .inr rfl))) (fun s0 H0 C0 cl0 fp0 => c_nil) (fun s0 H0 C0 cl0 fp0 => (rf_callTy (m := false) call_list_of s_listF M.f_list (by decide +kernel) (a_cons (r_var 4) a_nil))))) p_nil)
  (p_cons (p_if (r_cmpT (o_eq hr.units) s_eq b_eq (r_var 7) r_int rfl)
  (p_one (p_fr 3 (p_setCM (i := 3) (own := [("one", 10)]) rfl nd__law_bent rfl rfl rfl (pi_seq (r_var 3)) ri_seq rfl (fun s0 H0 C0 cl0 fp0 => (g_nm (i := 10) nd__law_bent rfl (by first | exact .inl rfl | exact .inr rfl))) (fun s0 H0 C0 cl0 fp0 => c_nil) (fun s0 H0 C0 cl0 fp0 => (rf_sl (m := false) (r_var 10) .none (.some r_int)))))) p_nil)
  (p_one (p_fr 3 (p_ret (r_var 3)))))))))))))))
/-! ### _law_same -/
abbrev N__law_same : List Str := ["told", "due", "a", "b"]
theorem nd__law_same : N__law_same.Nodup := by decide +kernel
theorem sc__law_same : FnScope N__law_same ["told", "due"] (defScope (top 25)) := ⟨rfl, rfl, rfl, nd__law_same, rfl, by decide +kernel, by decide +kernel⟩
def it__law_same_0 (m : Fn) : IX := (iZ (eVar 0) (eVar 1))
def ce__law_same_1 (m : Fn) : EX := (eFn m [(eVar 2), (eVar 3)])
def b__law_same (m : Fn) : SX := (sSeq (sIf (eB isM (eVar 1) (eC .non))
  (sRet (eB isM (eVar 0) (eC .non))) sNil)
  (sSeq (sIf (eB isM (eVar 1) (eC (.bl true)))
  (sRet (eB isM (eVar 0) (eC (.bl true)))) sNil)
  (sSeq (sIf (eB isM (eVar 1) (eC (.bl false)))
  (sRet (eB isM (eVar 0) (eC (.bl false)))) sNil)
  (sSeq (sIf (eIsT "int" (eVar 1))
  (sRet (eAnd (eIsT "int" (eVar 0)) (eAnd (eNot (eIsT "bool" (eVar 0))) (eBs 3 eqD (eVar 0) (eVar 1))))) sNil)
  (sSeq (sIf (eIsT "str" (eVar 1))
  (sRet (eAnd (eIsT "str" (eVar 0)) (eBs 3 eqD (eVar 0) (eVar 1)))) sNil)
  (sSeq (sIf (eIsT "list" (eVar 1))
  (sIf (eOr (eNot (eIsT "list" (eVar 0))) (eB neD (eLenS (eVar 0)) (eLenS (eVar 1))))
  (sRet (eC (.bl false))) sNil) (sIf (eOr (eNot (eIsT "tuple" (eVar 0))) (eB neD (eLenS (eVar 0)) (eLenS (eVar 1))))
  (sRet (eC (.bl false))) sNil))
  (sRet (eCall allD [(eComp (it__law_same_0 m) (bTp [(bNm 2), (bNm 3)]) (eC (.bl true)) (ce__law_same_1 m) [2, 3])]))))))))
def m__law_same : Nat → Fn
  | 0 => fun _ _ => .stuck
  | n + 1 => runS (b__law_same (m__law_same n)) 4
theorem bd__law_same {m : Fn} (M : Mg P w K mg) (D__law_same : Df P w K mg base k "_law_same" 2 m) : Body P w K mg base k N__law_same "_law_same" (defScope (top 25)) (defBody (top 25)) (b__law_same m) := fun f cd A outer s H E hr =>
  (p_cons (p_if (r_cmpT o_isM s_isM b_isM (r_var 1) r_non rfl)
  (p_one (p_ret (r_cmp o_isM s_isM (r_var 0) r_non rfl))) p_nil)
  (p_cons (p_if (r_cmpT o_isM s_isM b_isM (r_var 1) r_bl rfl)
  (p_one (p_ret (r_cmp o_isM s_isM (r_var 0) r_bl rfl))) p_nil)
  (p_cons (p_if (r_cmpT o_isM s_isM b_isM (r_var 1) r_bl rfl)
  (p_one (p_ret (r_cmp o_isM s_isM (r_var 0) r_bl rfl))) p_nil)
  (p_cons (p_if (r_tru (r_isT (r_var 1) M.f_isinstance M.f_int (by decide +kernel)))
  (p_one (p_ret (r_and (r_isT (r_var 0) M.f_isinstance M.f_int (by decide +kernel)) (r_and (r_not (r_isT (r_var 0) M.f_isinstance M.f_bool (by decide +kernel))) (r_one (rs_cmp (n := 3) (o_eq hr.units) s_eq (r_var 0) (r_var 1) rfl)))))) p_nil)
  (p_cons (p_if (r_tru (r_isT (r_var 1) M.f_isinstance M.f_str (by decide +kernel)))
  (p_one (p_ret (r_and (r_isT (r_var 0) M.f_isinstance M.f_str (by decide +kernel)) (r_one (rs_cmp (n := 3) (o_eq hr.units) s_eq (r_var 0) (r_var 1) rfl))))) p_nil)
  (p_cons (p_if (r_tru (r_isT (r_var 1) M.f_isinstance M.f_list (by decide +kernel)))
  (p_one (p_if (r_orT (r_notT (r_tru (r_isT (r_var 0) M.f_isinstance M.f_list (by decide +kernel)))) (r_orT1 (r_cmpT (o_ne hr.units) s_ne b_ne (r_lenA M.f_len (a_cons (r_var 0) a_nil)) (r_lenA M.f_len (a_cons (r_var 1) a_nil)) rfl))).pt
  (p_one (p_ret r_bl)) p_nil)) (p_one (p_if (r_orT (r_notT (r_tru (r_isT (r_var 0) M.f_isinstance M.f_tuple (by decide +kernel)))) (r_orT1 (r_cmpT (o_ne hr.units) s_ne b_ne (r_lenA M.f_len (a_cons (r_var 0) a_nil)) (r_lenA M.f_len (a_cons (r_var 1) a_nil)) rfl))).pt
  (p_one (p_ret r_bl)) p_nil)))
  (p_one (p_ret (r_callB (cr_all rfl) s_all M.f_all (by decide +kernel) (a_cons (r_comp (own := [("a", 2), ("b", 3)]) rfl nd__law_same (RZ.pi_zipA rfl M.f_zip (pa_cons (r_var 0) (pa_cons (r_var 1) pa_nil))) ri_zip rfl (fun s0 H0 C0 cl0 fp0 => (g_tp rfl (gs_cons (g_nm (i := 2) nd__law_same rfl (by first | exact .inl rfl | exact .inr rfl)) (gs_cons (g_nm (i := 3) nd__law_same rfl (by first | exact .inl rfl | exact .inr rfl)) gs_nil)))) (fun s0 H0 C0 cl0 fp0 => c_nil) (fun s0 H0 C0 cl0 fp0 => (r_fn D__law_same hr tk0 (a_cons (r_var 2) (a_cons (r_var 3) a_nil))))) a_nil))))))))))
/-! ### look_number -/
abbrev N_look_number : List Str := ["number", "low", "high"]
theorem nd_look_number : N_look_number.Nodup := by decide +kernel
theorem sc_look_number : FnScope N_look_number ["number", "low", "high"] (defScope (top 9)) := ⟨rfl, rfl, rfl, nd_look_number, rfl, by decide +kernel, by decide +kernel⟩
def b_look_number : SX := (sIf (eOr (eB ltD (eVar 0) (eVar 1)) (eB gtD (eVar 0) (eVar 2)))
  (sRaise "NumberError" ["number"] [(eVar 0)]) sNil)
noncomputable def m_look_number : Fn := runQ b_look_number 3
theorem bd_look_number (M : Mg P w K mg) : Body P w K mg base k N_look_number "look_number" (defScope (top 9)) (defBody (top 9)) b_look_number := fun f cd A outer s H E hr =>
  (p_one (p_if (r_orT (r_cmpT op_lt (s_cmpI _) b_cmpI (r_var 0) (r_var 1) rfl) (r_orT1 (r_cmpT op_gt (s_cmpI _) b_cmpI (r_var 0) (r_var 2) rfl))).pt
  (p_one (p_raise rfl tk_cx M.x_NumberError xb_NumberError hr (a_cons (r_var 0) a_nil))) p_nil))
/-! ### least_rows -/
abbrev N_least_rows : List Str := ["columns", "levels"]
theorem nd_least_rows : N_least_rows.Nodup := by decide +kernel
theorem sc_least_rows : FnScope N_least_rows ["columns", "levels"] (defScope (top 21)) := ⟨rfl, rfl, rfl, nd_least_rows, rfl, by decide +kernel, by decide +kernel⟩
def b_least_rows : SX := (sSeq (sEx (eFn m_look_number [(eVar 0), (eC (.int 1)), (eC dc_MOST_COUNTED)]))
  (sSeq (sEx (eFn m_look_number [(eVar 1), (eC (.int 2)), (eC dc_MOST_COUNTED)]))
  (sRet (eBF false addF (eC (.int 1)) (eBF false mulF (eVar 0) (eB subD (eVar 1) (eC (.int 1))))))))
noncomputable def m_least_rows : Fn := runQ b_least_rows 2
theorem bd_least_rows (M : Mg P w K mg) (D_look_number : Df P w K mg base k "look_number" 3 m_look_number) : Body P w K mg base k N_least_rows "least_rows" (defScope (top 21)) (defBody (top 21)) b_least_rows := fun f cd A outer s H E hr =>
  (p_cons (p_ex (r_fn D_look_number hr tk_cx (a_cons (r_var 0) (a_cons r_int (a_cons (r_glob M.c_MOST_COUNTED) a_nil)))))
  (p_cons (p_ex (r_fn D_look_number hr tk_cx (a_cons (r_var 1) (a_cons r_int (a_cons (r_glob M.c_MOST_COUNTED) a_nil)))))
  (p_one (p_ret (rf_bin (m := false) o_add s_addF r_int (rf_bin (m := false) o_mul s_mulF (r_var 0) (r_bin op_sub s_sub (r_var 1) r_int)))))))
/-! ### _law_numbers -/
abbrev N__law_numbers : List Str := ["columns", "levels", "told", "e", "clear"]
theorem nd__law_numbers : N__law_numbers.Nodup := by decide +kernel
theorem sc__law_numbers : FnScope N__law_numbers ["columns", "levels"] (defScope (top 35)) := ⟨rfl, rfl, rfl, nd__law_numbers, rfl, by decide +kernel, by decide +kernel⟩
def tb__law_numbers_0 : SX := (sSet 2 (eFn m_least_rows [(eVar 0), (eVar 1)]))
def hd__law_numbers_1 : SX := (sSeq (sSet 4 (eAnd (eIsE 3 (isX xs "MadeError")) (eIsE 3 (isX xs "ValueError"))))
  (sRet (eTup [(eC (.str "number")), (eXf 3 "number" xf_number), (eAnd (eVar 4) (eNot (eIsE 3 (isXT xs ist_0))))])))
def b__law_numbers : SX := (sSeq (sTryZ tb__law_numbers_0 [⟨3, isX xs "NumberError", hd__law_numbers_1⟩])
  (sRet (eTup [(eC (.str "told")), (eVar 2)])))
noncomputable def m__law_numbers : Fn := runQ b__law_numbers 5
theorem bd__law_numbers (M : Mg P w K mg) (D_least_rows : Df P w K mg base k "least_rows" 2 m_least_rows) : Body P w K mg base k N__law_numbers "_law_numbers" (defScope (top 35)) (defBody (top 35)) b__law_numbers := fun f cd A outer s H E hr =>
  (p_cons (p_tryZ rfl rfl nd__law_numbers tk_cx (fun W0 pn0 xe0 htk hpo => (p_one (p_set (i := 2) nd__law_numbers rfl (by first | exact .inl rfl | exact .inr rfl) (r_fn D_least_rows hr htk (a_cons (r_var 0) (a_cons (r_var 1) a_nil)))))) (.cons rfl rfl ⟨rfl, by decide, (.inl M.gc_NumberError)⟩ M.te_NumberError (fun a0 oe0 cl0 d0 pn0 ho => (p_cons (p_set (i := 4) nd__law_numbers rfl (by first | exact .inl rfl | exact .inr rfl) (r_and (r_isE ho M.is_MadeError M.gc_MadeError M.f_isinstance) (r_one (r_isEb (Ts := "ValueError") ho M.isb_ValueError M.f_ValueError (by decide +kernel) M.f_isinstance))))
  (p_one (p_ret (r_tup (a_cons r_str (a_cons (r_xf ho M.xf_number) (a_cons (r_and (r_var 4) (r_one (r_not (r_isET (cs := clsV K ist_0) ho M.ist_0 (clsV_pair K ist_0) (by show ist_0.length ≤ _; decide) (pa_cons (pe_glob (v := .ref _) rfl M.gc_SizeError rfl (by decide)) (pa_cons (pe_glob (v := .ref _) rfl M.gc_PlaceError rfl (by decide)) (pa_cons (pe_glob (v := .ref _) rfl M.gc_TooLarge rfl (by decide)) pa_nil))) (fun _ _ _ h => h) M.f_isinstance)))) a_nil)))))))) .nil))
  (p_one (p_ret (r_tup (a_cons r_str (a_cons (r_var 2) a_nil))))))
/-! ### _law_least -/
abbrev N__law_least : List Str := ["columns", "levels", "due"]
theorem nd__law_least : N__law_least.Nodup := by decide +kernel
theorem sc__law_least : FnScope N__law_least ["columns", "levels"] (defScope (top 36)) := ⟨rfl, rfl, rfl, nd__law_least, rfl, by decide +kernel, by decide +kernel⟩
def b__law_least : SX := (sSeq (sSet 2 (eTup [(eC (.str "told")), (eBF false addF (eC (.int 1)) (eBF false mulF (eVar 0) (eB subD (eVar 1) (eC (.int 1)))))]))
  (sSeq (sIf (eOr (eB ltD (eVar 1) (eC (.int 2))) (eB gtD (eVar 1) (eC (.int 1000))))
  (sSet 2 (eTup [(eC (.str "number")), (eVar 1), (eC (.bl true))])) sNil)
  (sSeq (sIf (eOr (eB ltD (eVar 0) (eC (.int 1))) (eB gtD (eVar 0) (eC (.int 1000))))
  (sSet 2 (eTup [(eC (.str "number")), (eVar 0), (eC (.bl true))])) sNil)
  (sRet (eFn (m__law_same 6) [(eFn m__law_numbers [(eVar 0), (eVar 1)]), (eVar 2)])))))
noncomputable def m__law_least : Fn := runQ b__law_least 3
theorem bd__law_least (M : Mg P w K mg) (D__law_same : Df P w K mg base k "_law_same" 2 (m__law_same 6)) (D__law_numbers : Df P w K mg base k "_law_numbers" 2 m__law_numbers) : Body P w K mg base k N__law_least "_law_least" (defScope (top 36)) (defBody (top 36)) b__law_least := fun f cd A outer s H E hr =>
  (p_cons (p_set (i := 2) nd__law_least rfl (by first | exact .inl rfl | exact .inr rfl) (r_tup (a_cons r_str (a_cons (rf_bin (m := false) o_add s_addF r_int (rf_bin (m := false) o_mul s_mulF (r_var 0) (r_bin op_sub s_sub (r_var 1) r_int))) a_nil))))
  (p_cons (p_if (r_orT (r_cmpT op_lt (s_cmpI _) b_cmpI (r_var 1) r_int rfl) (r_orT1 (r_cmpT op_gt (s_cmpI _) b_cmpI (r_var 1) r_int rfl))).pt
  (p_one (p_set (i := 2) nd__law_least rfl (by first | exact .inl rfl | exact .inr rfl) (r_tup (a_cons r_str (a_cons (r_var 1) (a_cons r_bl a_nil)))))) p_nil)
  (p_cons (p_if (r_orT (r_cmpT op_lt (s_cmpI _) b_cmpI (r_var 0) r_int rfl) (r_orT1 (r_cmpT op_gt (s_cmpI _) b_cmpI (r_var 0) r_int rfl))).pt
  (p_one (p_set (i := 2) nd__law_least rfl (by first | exact .inl rfl | exact .inr rfl) (r_tup (a_cons r_str (a_cons (r_var 0) (a_cons r_bl a_nil)))))) p_nil)
  (p_one (p_ret (r_fn D__law_same hr tk_cx (a_cons (r_fn D__law_numbers hr tk_cx (a_cons (r_var 0) (a_cons (r_var 1) a_nil))) (a_cons (r_var 2) a_nil))))))))
/-! ### _law_fault -/
abbrev N__law_fault : List Str := ["levels", "rows", "wide", "i", "j", "counts", "row", "at"]
theorem nd__law_fault : N__law_fault.Nodup := by decide +kernel
theorem sc__law_fault : FnScope N__law_fault ["levels", "rows"] (defScope (top 30)) := ⟨rfl, rfl, rfl, nd__law_fault, rfl, by decide +kernel, by decide +kernel⟩
def it__law_fault_0 : IX := (iV seqI (eVar 1))
def g__law_fault_1 : SX := (sSeq (sSet 7 (eBF false addF (eBF false mulF (eIxS (eVar 6) (eVar 3)) (eVar 0)) (eIxS (eVar 6) (eVar 4))))
  (sPutS (eVar 5) (eVar 7) (eBF false addF (eIxS (eVar 5) (eVar 7)) (eC (.int 1)))))
def it__law_fault_2 : IX := (iR1 (eBF false mulF (eVar 0) (eVar 0)))
def g__law_fault_3 : SX := (sIf (eB neD (eBF false mulF (eBF false mulF (eIxS (eVar 5) (eVar 7)) (eVar 0)) (eVar 0)) (eLenS (eVar 1)))
  (sRet (eTup [(eVar 3), (eVar 4), (eB fdivD (eVar 7) (eVar 0)), (eB subD (eVar 7) (eBF false mulF (eB fdivD (eVar 7) (eVar 0)) (eVar 0))), (eIxS (eVar 5) (eVar 7))])) sNil)
def it__law_fault_4 : IX := (iR2 (eBF false addF (eVar 3) (eC (.int 1))) (eVar 2))
def g__law_fault_5 : SX := (sSeq (sSet 5 (eBF true mulF (eLst [(eC (.int 0))]) (eBF false mulF (eVar 0) (eVar 0))))
  (sSeq (sFor it__law_fault_0 (bNm 6)
  g__law_fault_1)
  (sFor it__law_fault_2 (bNm 7)
  g__law_fault_3)))
def it__law_fault_6 : IX := (iR1 (eVar 2))
def g__law_fault_7 : SX := (sFor it__law_fault_4 (bNm 4)
  g__law_fault_5)
def b__law_fault : SX := (sSeq (sSet 2 (eLenS (eIxS (eVar 1) (eC (.int 0)))))
  (sSeq (sFor it__law_fault_6 (bNm 3)
  g__law_fault_7)
  (sRet (eC .non))))
noncomputable def m__law_fault : Fn := runQ b__law_fault 8
theorem bd__law_fault (M : Mg P w K mg) : Body P w K mg base k N__law_fault "_law_fault" (defScope (top 30)) (defBody (top 30)) b__law_fault := fun f cd A outer s H E hr =>
  (p_cons (p_set (i := 2) nd__law_fault rfl (by first | exact .inl rfl | exact .inr rfl) (r_lenA M.f_len (a_cons (r_ixS (hu1 hr) (r_var 1) r_int) a_nil)))
  (p_cons (p_for ps_cx rfl (pi_range1 rfl M.f_range (pa_cons (r_var 2) pa_nil)) ri_r1 (g_nm (i := 3) nd__law_fault rfl (by first | exact .inl rfl | exact .inr rfl))
  (p_one (p_for ps_cx rfl (pi_range2 rfl M.f_range (pa_cons (rf_bin (m := false) o_add s_addF (r_var 3) r_int) (pa_cons (r_var 2) pa_nil))) ri_r2 (g_nm (i := 4) nd__law_fault rfl (by first | exact .inl rfl | exact .inr rfl))
  (p_cons (p_set (i := 5) nd__law_fault rfl (by first | exact .inl rfl | exact .inr rfl) (rf_bin (m := true) o_mul s_mulF (r_lst (a_cons r_int a_nil)) (rf_bin (m := false) o_mul s_mulF (r_var 0) (r_var 0))))
  (p_cons (p_for ps_cx rfl (pi_seq (r_var 1)) ri_seq (g_nm (i := 6) nd__law_fault rfl (by first | exact .inl rfl | exact .inr rfl))
  (p_cons (p_set (i := 7) nd__law_fault rfl (by first | exact .inl rfl | exact .inr rfl) (rf_bin (m := false) o_add s_addF (rf_bin (m := false) o_mul s_mulF (r_ixS (hu1 hr) (r_var 6) (r_var 3)) (r_var 0)) (r_ixS (hu1 hr) (r_var 6) (r_var 4))))
  (p_one (p_putS (hu1 hr) (rf_bin (m := false) o_add s_addF (r_ixS (hu1 hr) (r_var 5) (r_var 7)) r_int) (r_var 5) (r_var 7)))))
  (p_one (p_for ps_cx rfl (pi_range1 rfl M.f_range (pa_cons (rf_bin (m := false) o_mul s_mulF (r_var 0) (r_var 0)) pa_nil)) ri_r1 (g_nm (i := 7) nd__law_fault rfl (by first | exact .inl rfl | exact .inr rfl))
  (p_one (p_if (r_cmpT (o_ne hr.units) s_ne b_ne (rf_bin (m := false) o_mul s_mulF (rf_bin (m := false) o_mul s_mulF (r_ixS (hu1 hr) (r_var 5) (r_var 7)) (r_var 0)) (r_var 0)) (r_lenA M.f_len (a_cons (r_var 1) a_nil)) rfl)
  (p_one (p_ret (r_tup (a_cons (r_var 3) (a_cons (r_var 4) (a_cons (r_bin o_fdiv s_fdiv (r_var 7) (r_var 0)) (a_cons (r_bin op_sub s_sub (r_var 7) (rf_bin (m := false) o_mul s_mulF (r_bin o_fdiv s_fdiv (r_var 7) (r_var 0)) (r_var 0))) (a_cons (r_ixS (hu1 hr) (r_var 5) (r_var 7)) a_nil)))))))) p_nil)))))))))
  (p_one (p_ret r_non))))
/-! ### _law_refusal -/
abbrev N__law_refusal : List Str := ["levels", "rows", "wide", "row", "x"]
theorem nd__law_refusal : N__law_refusal.Nodup := by decide +kernel
theorem sc__law_refusal : FnScope N__law_refusal ["levels", "rows"] (defScope (top 31)) := ⟨rfl, rfl, rfl, nd__law_refusal, rfl, by decide +kernel, by decide +kernel⟩
def it__law_refusal_0 : IX := (iV seqI (eVar 3))
def g__law_refusal_1 : SX := (sIf (eOr (eB ltD (eVar 4) (eC (.int 0))) (eB geD (eVar 4) (eVar 0)))
  (sRet (eTup [(eC (.str "place")), (eVar 4), (eC (.bl true))])) sNil)
def it__law_refusal_2 : IX := (iV seqI (eVar 1))
def g__law_refusal_3 : SX := (sSeq (sIf (eOr (eB neD (eLenS (eVar 3)) (eVar 2)) (eOr (eB ltD (eVar 2) (eC (.int 1))) (eB gtD (eVar 2) (eC (.int 30)))))
  (sRet (eTup [(eC (.str "size")), (eLenS (eVar 3)), (eC (.bl true))])) sNil)
  (sFor it__law_refusal_0 (bNm 4)
  g__law_refusal_1))
def b__law_refusal : SX := (sSeq (sIf (eOr (eB ltD (eVar 0) (eC (.int 2))) (eB gtD (eVar 0) (eC (.int 20))))
  (sRet (eTup [(eC (.str "number")), (eVar 0), (eC (.bl true))])) sNil)
  (sSeq (sIf (eOr (eB ltD (eLenS (eVar 1)) (eC (.int 1))) (eB gtD (eLenS (eVar 1)) (eC (.int 200))))
  (sRet (eTup [(eC (.str "size")), (eLenS (eVar 1)), (eC (.bl true))])) sNil)
  (sSeq (sSet 2 (eLenS (eIxS (eVar 1) (eC (.int 0)))))
  (sSeq (sFor it__law_refusal_2 (bNm 3)
  g__law_refusal_3)
  (sRet (eTup [(eC (.str "told")), (eFn m__law_fault [(eVar 0), (eVar 1)])]))))))
noncomputable def m__law_refusal : Fn := runQ b__law_refusal 5
theorem bd__law_refusal (M : Mg P w K mg) (D__law_fault : Df P w K mg base k "_law_fault" 2 m__law_fault) : Body P w K mg base k N__law_refusal "_law_refusal" (defScope (top 31)) (defBody (top 31)) b__law_refusal := fun f cd A outer s H E hr =>
  (p_cons (p_if (r_orT (r_cmpT op_lt (s_cmpI _) b_cmpI (r_var 0) r_int rfl) (r_orT1 (r_cmpT op_gt (s_cmpI _) b_cmpI (r_var 0) r_int rfl))).pt
  (p_one (p_ret (r_tup (a_cons r_str (a_cons (r_var 0) (a_cons r_bl a_nil)))))) p_nil)
  (p_cons (p_if (r_orT (r_cmpT op_lt (s_cmpI _) b_cmpI (r_lenA M.f_len (a_cons (r_var 1) a_nil)) r_int rfl) (r_orT1 (r_cmpT op_gt (s_cmpI _) b_cmpI (r_lenA M.f_len (a_cons (r_var 1) a_nil)) r_int rfl))).pt
  (p_one (p_ret (r_tup (a_cons r_str (a_cons (r_lenA M.f_len (a_cons (r_var 1) a_nil)) (a_cons r_bl a_nil)))))) p_nil)
  (p_cons (p_set (i := 2) nd__law_refusal rfl (by first | exact .inl rfl | exact .inr rfl) (r_lenA M.f_len (a_cons (r_ixS (hu1 hr) (r_var 1) r_int) a_nil)))
  (p_cons (p_for ps_cx rfl (pi_seq (r_var 1)) ri_seq (g_nm (i := 3) nd__law_refusal rfl (by first | exact .inl rfl | exact .inr rfl))
  (p_cons (p_if (r_orT (r_cmpT (o_ne hr.units) s_ne b_ne (r_lenA M.f_len (a_cons (r_var 3) a_nil)) (r_var 2) rfl) (r_orT (r_cmpT op_lt (s_cmpI _) b_cmpI (r_var 2) r_int rfl) (r_orT1 (r_cmpT op_gt (s_cmpI _) b_cmpI (r_var 2) r_int rfl)))).pt
  (p_one (p_ret (r_tup (a_cons r_str (a_cons (r_lenA M.f_len (a_cons (r_var 3) a_nil)) (a_cons r_bl a_nil)))))) p_nil)
  (p_one (p_for ps_cx rfl (pi_seq (r_var 3)) ri_seq (g_nm (i := 4) nd__law_refusal rfl (by first | exact .inl rfl | exact .inr rfl))
  (p_one (p_if (r_orT (r_cmpT op_lt (s_cmpI _) b_cmpI (r_var 4) r_int rfl) (r_orT1 (r_cmpT op_ge (s_cmpI _) b_cmpI (r_var 4) (r_var 0) rfl))).pt
  (p_one (p_ret (r_tup (a_cons r_str (a_cons (r_var 4) (a_cons r_bl a_nil)))))) p_nil))))))
  (p_one (p_ret (r_tup (a_cons r_str (a_cons (r_fn D__law_fault hr tk_cx (a_cons (r_var 0) (a_cons (r_var 1) a_nil))) a_nil)))))))))
/-! ### look_size -/
abbrev N_look_size : List Str := ["row", "low", "high", "count"]
theorem nd_look_size : N_look_size.Nodup := by decide +kernel
theorem sc_look_size : FnScope N_look_size ["row", "low", "high"] (defScope (top 10)) := ⟨rfl, rfl, rfl, nd_look_size, rfl, by decide +kernel, by decide +kernel⟩
def b_look_size : SX := (sSeq (sSet 3 (eLenS (eVar 0)))
  (sIf (eOr (eB ltD (eVar 3) (eVar 1)) (eB gtD (eVar 3) (eVar 2)))
  (sRaise "SizeError" ["count"] [(eVar 3)]) sNil))
noncomputable def m_look_size : Fn := runQ b_look_size 4
theorem bd_look_size (M : Mg P w K mg) : Body P w K mg base k N_look_size "look_size" (defScope (top 10)) (defBody (top 10)) b_look_size := fun f cd A outer s H E hr =>
  (p_cons (p_set (i := 3) nd_look_size rfl (by first | exact .inl rfl | exact .inr rfl) (r_lenA M.f_len (a_cons (r_var 0) a_nil)))
  (p_one (p_if (r_orT (r_cmpT op_lt (s_cmpI _) b_cmpI (r_var 3) (r_var 1) rfl) (r_orT1 (r_cmpT op_gt (s_cmpI _) b_cmpI (r_var 3) (r_var 2) rfl))).pt
  (p_one (p_raise rfl tk_cx M.x_SizeError xb_SizeError hr (a_cons (r_var 3) a_nil))) p_nil)))
/-! ### look_place -/
abbrev N_look_place : List Str := ["place", "many"]
theorem nd_look_place : N_look_place.Nodup := by decide +kernel
theorem sc_look_place : FnScope N_look_place ["place", "many"] (defScope (top 11)) := ⟨rfl, rfl, rfl, nd_look_place, rfl, by decide +kernel, by decide +kernel⟩
def b_look_place : SX := (sIf (eOr (eB ltD (eVar 0) (eC (.int 0))) (eB geD (eVar 0) (eVar 1)))
  (sRaise "PlaceError" ["place"] [(eVar 0)]) sNil)
noncomputable def m_look_place : Fn := runQ b_look_place 2
theorem bd_look_place (M : Mg P w K mg) : Body P w K mg base k N_look_place "look_place" (defScope (top 11)) (defBody (top 11)) b_look_place := fun f cd A outer s H E hr =>
  (p_one (p_if (r_orT (r_cmpT op_lt (s_cmpI _) b_cmpI (r_var 0) r_int rfl) (r_orT1 (r_cmpT op_ge (s_cmpI _) b_cmpI (r_var 0) (r_var 1) rfl))).pt
  (p_one (p_raise rfl tk_cx M.x_PlaceError xb_PlaceError hr (a_cons (r_var 0) a_nil))) p_nil))
/-! ### look_places -/
abbrev N_look_places : List Str := ["row", "many", "place"]
theorem nd_look_places : N_look_places.Nodup := by decide +kernel
theorem sc_look_places : FnScope N_look_places ["row", "many"] (defScope (top 12)) := ⟨rfl, rfl, rfl, nd_look_places, rfl, by decide +kernel, by decide +kernel⟩
def it_look_places_0 : IX := (iV seqI (eVar 0))
def g_look_places_1 : SX := (sEx (eFn m_look_place [(eVar 2), (eVar 1)]))
def b_look_places : SX := (sFor it_look_places_0 (bNm 2)
  g_look_places_1)
noncomputable def m_look_places : Fn := runQ b_look_places 3
theorem bd_look_places (M : Mg P w K mg) (D_look_place : Df P w K mg base k "look_place" 2 m_look_place) : Body P w K mg base k N_look_places "look_places" (defScope (top 12)) (defBody (top 12)) b_look_places := fun f cd A outer s H E hr =>
  (p_one (p_for ps_cx rfl (pi_seq (r_var 0)) ri_seq (g_nm (i := 2) nd_look_places rfl (by first | exact .inl rfl | exact .inr rfl))
  (p_one (p_ex (r_fn D_look_place hr tk_cx (a_cons (r_var 2) (a_cons (r_var 1) a_nil)))))))
/-! ### _look_table -/
abbrev N__look_table : List Str := ["levels", "rows", "low", "high", "line"]
theorem nd__look_table : N__look_table.Nodup := by decide +kernel
theorem sc__look_table : FnScope N__look_table ["levels", "rows"] (defScope (top 18)) := ⟨rfl, rfl, rfl, nd__look_table, rfl, by decide +kernel, by decide +kernel⟩
def it__look_table_0 : IX := (iV seqI (eVar 1))
def g__look_table_1 : SX := (sSeq (sEx (eFn m_look_size [(eVar 4), (eVar 2), (eVar 3)]))
  (sSeq (sEx (eFn m_look_places [(eVar 4), (eVar 0)]))
  (sAsg2 (bNm 2) (bNm 3) (eLenS (eVar 4)))))
def b__look_table : SX := (sSeq (sEx (eFn m_look_number [(eVar 0), (eC (.int 2)), (eC dc_MOST_LEVELS)]))
  (sSeq (sEx (eFn m_look_size [(eVar 1), (eC (.int 1)), (eC dc_MOST_ROWS)]))
  (sSeq (sPar 2 3 (eC (.int 1)) (eC dc_MOST_COLUMNS))
  (sFor it__look_table_0 (bNm 4)
  g__look_table_1))))
noncomputable def m__look_table : Fn := runQ b__look_table 5
theorem bd__look_table (M : Mg P w K mg) (D_look_number : Df P w K mg base k "look_number" 3 m_look_number) (D_look_size : Df P w K mg base k "look_size" 3 m_look_size) (D_look_places : Df P w K mg base k "look_places" 2 m_look_places) : Body P w K mg base k N__look_table "_look_table" (defScope (top 18)) (defBody (top 18)) b__look_table := fun f cd A outer s H E hr =>
  (p_cons (p_ex (r_fn D_look_number hr tk_cx (a_cons (r_var 0) (a_cons r_int (a_cons (r_glob M.c_MOST_LEVELS) a_nil)))))
  (p_cons (p_ex (r_fn D_look_size hr tk_cx (a_cons (r_var 1) (a_cons r_int (a_cons (r_glob M.c_MOST_ROWS) a_nil)))))
  (p_cons (p_par (i := 2) (j := 3) rfl nd__look_table rfl rfl (by decide) rfl rfl r_int (r_glob M.c_MOST_COLUMNS) (by rfl))
  (p_one (p_for ps_cx rfl (pi_seq (r_var 1)) ri_seq (g_nm (i := 4) nd__look_table rfl (by first | exact .inl rfl | exact .inr rfl))
  (p_cons (p_ex (r_fn D_look_size hr tk_cx (a_cons (r_var 4) (a_cons (r_var 2) (a_cons (r_var 3) a_nil)))))
  (p_cons (p_ex (r_fn D_look_places hr tk_cx (a_cons (r_var 4) (a_cons (r_var 0) a_nil))))
  (p_one (p_asg2 (r_lenA M.f_len (a_cons (r_var 4) a_nil)) (g_nm (i := 2) nd__look_table rfl (by first | exact .inl rfl | exact .inr rfl)) (g_nm (i := 3) nd__look_table rfl (by first | exact .inl rfl | exact .inr rfl)))))))))))
/-! ### _pair_fault -/
abbrev N__pair_fault : List Str := ["levels", "left", "right", "counts", "a", "b", "at", "count"]
theorem nd__pair_fault : N__pair_fault.Nodup := by decide +kernel
theorem sc__pair_fault : FnScope N__pair_fault ["levels", "left", "right"] (defScope (top 20)) := ⟨rfl, rfl, rfl, nd__pair_fault, rfl, by decide +kernel, by decide +kernel⟩
def it__pair_fault_0 : IX := (iZ (eVar 1) (eVar 2))
def g__pair_fault_1 : SX := (sAugS (ipD (fun i j => i + j)) (eVar 3) (eBF false addF (eBF false mulF (eVar 4) (eVar 0)) (eVar 5)) (eC (.int 1)))
def it__pair_fault_2 : IX := (iEn (eVar 3))
def g__pair_fault_3 : SX := (sIf (eB neD (eBF false mulF (eBF false mulF (eVar 7) (eVar 0)) (eVar 0)) (eLenS (eVar 1)))
  (sRet (eTup [(eB fdivD (eVar 6) (eVar 0)), (eB modD (eVar 6) (eVar 0)), (eVar 7)])) sNil)
def b__pair_fault : SX := (sSeq (sSet 3 (eBF true mulF (eLst [(eC (.int 0))]) (eBF false mulF (eVar 0) (eVar 0))))
  (sSeq (sFor it__pair_fault_0 (bTp [(bNm 4), (bNm 5)])
  g__pair_fault_1)
  (sSeq (sSeq (sFr 3) (sFor it__pair_fault_2 (bTp [(bNm 6), (bNm 7)])
  g__pair_fault_3))
  (sRet (eC .non)))))
noncomputable def m__pair_fault : Fn := runQ b__pair_fault 8
theorem bd__pair_fault (M : Mg P w K mg) : Body P w K mg base k N__pair_fault "_pair_fault" (defScope (top 20)) (defBody (top 20)) b__pair_fault := fun f cd A outer s H E hr =>
  (p_cons (p_set (i := 3) nd__pair_fault rfl (by first | exact .inl rfl | exact .inr rfl) (rf_bin (m := true) o_mul s_mulF (r_lst (a_cons r_int a_nil)) (rf_bin (m := false) o_mul s_mulF (r_var 0) (r_var 0))))
  (p_cons (p_for ps_cx rfl (RZ.pi_zipA rfl M.f_zip (pa_cons (r_var 1) (pa_cons (r_var 2) pa_nil))) ri_zip (g_tp rfl (gs_cons (g_nm (i := 4) nd__pair_fault rfl (by first | exact .inl rfl | exact .inr rfl)) (gs_cons (g_nm (i := 5) nd__pair_fault rfl (by first | exact .inl rfl | exact .inr rfl)) gs_nil)))
  (p_one (p_augS (hu1 hr) ip_add s_ip (r_var 3) (rf_bin (m := false) o_add s_addF (rf_bin (m := false) o_mul s_mulF (r_var 4) (r_var 0)) (r_var 5)) r_int)))
  (p_cons (p_fr 3 (p_for ps_cx rfl (pi_enum rfl M.f_enumerate (pa_cons (r_var 3) pa_nil)) ri_enum (g_tp rfl (gs_cons (g_nm (i := 6) nd__pair_fault rfl (by first | exact .inl rfl | exact .inr rfl)) (gs_cons (g_nm (i := 7) nd__pair_fault rfl (by first | exact .inl rfl | exact .inr rfl)) gs_nil)))
  (p_one (p_if (r_cmpT (o_ne hr.units) s_ne b_ne (rf_bin (m := false) o_mul s_mulF (rf_bin (m := false) o_mul s_mulF (r_var 7) (r_var 0)) (r_var 0)) (r_lenA M.f_len (a_cons (r_var 1) a_nil)) rfl)
  (p_one (p_ret (r_tup (a_cons (r_bin o_fdiv s_fdiv (r_var 6) (r_var 0)) (a_cons (r_bin op_modN s_mod (r_var 6) (r_var 0)) (a_cons (r_var 7) a_nil)))))) p_nil))))
  (p_one (p_ret r_non)))))
/-! ### table_fault -/
abbrev N_table_fault : List Str := ["levels", "rows", "columns", "line", "at", "i", "j", "found"]
theorem nd_table_fault : N_table_fault.Nodup := by decide +kernel
theorem sc_table_fault : FnScope N_table_fault ["levels", "rows"] (defScope (top 19)) := ⟨rfl, rfl, rfl, nd_table_fault, rfl, by decide +kernel, by decide +kernel⟩
def it_table_fault_0 : IX := (iV seqI (eVar 1))
def ce_table_fault_1 : EX := (eIxS (eVar 3) (eVar 4))
def it_table_fault_2 : IX := (iR1 (eLenS (eIxS (eVar 1) (eC (.int 0)))))
def ce_table_fault_3 : EX := (eComp it_table_fault_0 (bNm 3) (eC (.bl true)) ce_table_fault_1 [3])
def it_table_fault_4 : IX := (iR2 (eBF false addF (eVar 5) (eC (.int 1))) (eLenS (eVar 2)))
def g_table_fault_5 : SX := (sSeq (sSet 7 (eFn m__pair_fault [(eVar 0), (eIxS (eVar 2) (eVar 5)), (eIxS (eVar 2) (eVar 6))]))
  (sIf (eB isntD (eVar 7) (eC .non))
  (sRet (eBF false addF (eTup [(eVar 5), (eVar 6)]) (eVar 7))) sNil))
def it_table_fault_6 : IX := (iR1 (eLenS (eVar 2)))
def g_table_fault_7 : SX := (sFor it_table_fault_4 (bNm 6)
  g_table_fault_5)
def b_table_fault : SX := (sSeq (sEx (eFn m__look_table [(eVar 0), (eVar 1)]))
  (sSeq (sSet 2 (eComp it_table_fault_2 (bNm 4) (eC (.bl true)) ce_table_fault_3 [4]))
  (sSeq (sFor it_table_fault_6 (bNm 5)
  g_table_fault_7)
  (sRet (eC .non)))))
noncomputable def m_table_fault : Fn := runQ b_table_fault 8
theorem bd_table_fault (M : Mg P w K mg) (D__look_table : Df P w K mg base k "_look_table" 2 m__look_table) (D__pair_fault : Df P w K mg base k "_pair_fault" 3 m__pair_fault) : Body P w K mg base k N_table_fault "table_fault" (defScope (top 19)) (defBody (top 19)) b_table_fault := fun f cd A outer s H E hr =>
  (p_cons (p_ex (r_fn D__look_table hr tk_cx (a_cons (r_var 0) (a_cons (r_var 1) a_nil))))
  (p_cons (p_setC (i := 2) (own := [("at", 4)]) rfl nd_table_fault rfl rfl rfl (pi_range1 rfl M.f_range (pa_cons (r_lenA M.f_len (a_cons (r_ixS (hu1 hr) (r_var 1) r_int) a_nil)) pa_nil)) ri_r1 rfl (fun s0 H0 C0 cl0 fp0 => (g_nm (i := 4) nd_table_fault rfl (by first | exact .inl rfl | exact .inr rfl))) (fun s0 H0 C0 cl0 fp0 => c_nil) (fun s0 H0 C0 cl0 fp0 => (r_comp (own := [("line", 3)]) rfl nd_table_fault (pi_seq (r_var 1)) ri_seq rfl (fun s0 H0 C0 cl0 fp0 => (g_nm (i := 3) nd_table_fault rfl (by first | exact .inl rfl | exact .inr rfl))) (fun s0 H0 C0 cl0 fp0 => c_nil) (fun s0 H0 C0 cl0 fp0 => (r_ixS (hu1 hr) (r_var 3) (r_var 4))))))
  (p_cons (p_for ps_cx rfl (pi_range1 rfl M.f_range (pa_cons (r_lenA M.f_len (a_cons (r_var 2) a_nil)) pa_nil)) ri_r1 (g_nm (i := 5) nd_table_fault rfl (by first | exact .inl rfl | exact .inr rfl))
  (p_one (p_for ps_cx rfl (pi_range2 rfl M.f_range (pa_cons (rf_bin (m := false) o_add s_addF (r_var 5) r_int) (pa_cons (r_lenA M.f_len (a_cons (r_var 2) a_nil)) pa_nil))) ri_r2 (g_nm (i := 6) nd_table_fault rfl (by first | exact .inl rfl | exact .inr rfl))
  (p_cons (p_set (i := 7) nd_table_fault rfl (by first | exact .inl rfl | exact .inr rfl) (r_fn D__pair_fault hr tk_cx (a_cons (r_var 0) (a_cons (r_ixS (hu1 hr) (r_var 2) (r_var 5)) (a_cons (r_ixS (hu1 hr) (r_var 2) (r_var 6)) a_nil)))))
  (p_one (p_if (r_cmpT op_notN s_isnt b_isnt (r_var 7) r_non rfl)
  (p_one (p_ret (rf_bin (m := false) o_add s_addF (r_tup (a_cons (r_var 5) (a_cons (r_var 6) a_nil))) (r_var 7)))) p_nil))))))
  (p_one (p_ret r_non)))))
/-! ### _law_told -/
abbrev N__law_told : List Str := ["levels", "rows", "told", "e", "clear"]
theorem nd__law_told : N__law_told.Nodup := by decide +kernel
theorem sc__law_told : FnScope N__law_told ["levels", "rows"] (defScope (top 32)) := ⟨rfl, rfl, rfl, nd__law_told, rfl, by decide +kernel, by decide +kernel⟩
def tb__law_told_0 : SX := (sSet 2 (eFn m_table_fault [(eVar 0), (eVar 1)]))
def hd__law_told_1 : SX := (sSeq (sSet 4 (eAnd (eIsE 3 (isX xs "MadeError")) (eNot (eIsE 3 (isXT xs ist_0)))))
  (sRet (eTup [(eC (.str "number")), (eXf 3 "number" xf_number), (eVar 4)])))
def hd__law_told_2 : SX := (sSeq (sSet 4 (eAnd (eIsE 3 (isX xs "MadeError")) (eNot (eIsE 3 (isXT xs ist_1)))))
  (sRet (eTup [(eC (.str "size")), (eXf 3 "count" xf_count), (eVar 4)])))
def hd__law_told_3 : SX := (sSeq (sSet 4 (eAnd (eIsE 3 (isX xs "MadeError")) (eNot (eIsE 3 (isXT xs ist_2)))))
  (sRet (eTup [(eC (.str "place")), (eXf 3 "place" xf_place), (eVar 4)])))
def b__law_told : SX := (sSeq (sTryZ tb__law_told_0 [⟨3, isX xs "NumberError", hd__law_told_1⟩, ⟨3, isX xs "SizeError", hd__law_told_2⟩, ⟨3, isX xs "PlaceError", hd__law_told_3⟩])
  (sRet (eTup [(eC (.str "told")), (eVar 2)])))
noncomputable def m__law_told : Fn := runQ b__law_told 5
theorem bd__law_told (M : Mg P w K mg) (D_table_fault : Df P w K mg base k "table_fault" 2 m_table_fault) : Body P w K mg base k N__law_told "_law_told" (defScope (top 32)) (defBody (top 32)) b__law_told := fun f cd A outer s H E hr =>
  (p_cons (p_tryZ rfl rfl nd__law_told tk_cx (fun W0 pn0 xe0 htk hpo => (p_one (p_set (i := 2) nd__law_told rfl (by first | exact .inl rfl | exact .inr rfl) (r_fn D_table_fault hr htk (a_cons (r_var 0) (a_cons (r_var 1) a_nil)))))) (.cons rfl rfl ⟨rfl, by decide, (.inl M.gc_NumberError)⟩ M.te_NumberError (fun a0 oe0 cl0 d0 pn0 ho => (p_cons (p_set (i := 4) nd__law_told rfl (by first | exact .inl rfl | exact .inr rfl) (r_and (r_isE ho M.is_MadeError M.gc_MadeError M.f_isinstance) (r_one (r_not (r_isET (cs := clsV K ist_0) ho M.ist_0 (clsV_pair K ist_0) (by show ist_0.length ≤ _; decide) (pa_cons (pe_glob (v := .ref _) rfl M.gc_SizeError rfl (by decide)) (pa_cons (pe_glob (v := .ref _) rfl M.gc_PlaceError rfl (by decide)) (pa_cons (pe_glob (v := .ref _) rfl M.gc_TooLarge rfl (by decide)) pa_nil))) (fun _ _ _ h => h) M.f_isinstance)))))
  (p_one (p_ret (r_tup (a_cons r_str (a_cons (r_xf ho M.xf_number) (a_cons (r_var 4) a_nil)))))))) (.cons rfl rfl ⟨rfl, by decide, (.inl M.gc_SizeError)⟩ M.te_SizeError (fun a0 oe0 cl0 d0 pn0 ho => (p_cons (p_set (i := 4) nd__law_told rfl (by first | exact .inl rfl | exact .inr rfl) (r_and (r_isE ho M.is_MadeError M.gc_MadeError M.f_isinstance) (r_one (r_not (r_isET (cs := clsV K ist_1) ho M.ist_1 (clsV_pair K ist_1) (by show ist_1.length ≤ _; decide) (pa_cons (pe_glob (v := .ref _) rfl M.gc_NumberError rfl (by decide)) (pa_cons (pe_glob (v := .ref _) rfl M.gc_PlaceError rfl (by decide)) (pa_cons (pe_glob (v := .ref _) rfl M.gc_TooLarge rfl (by decide)) pa_nil))) (fun _ _ _ h => h) M.f_isinstance)))))
  (p_one (p_ret (r_tup (a_cons r_str (a_cons (r_xf ho M.xf_count) (a_cons (r_var 4) a_nil)))))))) (.cons rfl rfl ⟨rfl, by decide, (.inl M.gc_PlaceError)⟩ M.te_PlaceError (fun a0 oe0 cl0 d0 pn0 ho => (p_cons (p_set (i := 4) nd__law_told rfl (by first | exact .inl rfl | exact .inr rfl) (r_and (r_isE ho M.is_MadeError M.gc_MadeError M.f_isinstance) (r_one (r_not (r_isET (cs := clsV K ist_2) ho M.ist_2 (clsV_pair K ist_2) (by show ist_2.length ≤ _; decide) (pa_cons (pe_glob (v := .ref _) rfl M.gc_SizeError rfl (by decide)) (pa_cons (pe_glob (v := .ref _) rfl M.gc_SameError rfl (by decide)) (pa_cons (pe_glob (v := .ref _) rfl M.gc_KindError rfl (by decide)) pa_nil))) (fun _ _ _ h => h) M.f_isinstance)))))
  (p_one (p_ret (r_tup (a_cons r_str (a_cons (r_xf ho M.xf_place) (a_cons (r_var 4) a_nil)))))))) .nil))))
  (p_one (p_ret (r_tup (a_cons r_str (a_cons (r_var 2) a_nil))))))
/-! ### _law_asked -/
abbrev N__law_asked : List Str := ["levels", "rows", "tuples", "due", "handed", "row", "told"]
theorem nd__law_asked : N__law_asked.Nodup := by decide +kernel
theorem sc__law_asked : FnScope N__law_asked ["levels", "rows", "tuples"] (defScope (top 33)) := ⟨rfl, rfl, rfl, nd__law_asked, rfl, by decide +kernel, by decide +kernel⟩
def it__law_asked_0 : IX := (iV seqI (eVar 1))
def ce__law_asked_1 : EX := (eCallF false listF (eVar 5))
def it__law_asked_2 : IX := (iV seqI (eVar 1))
def ce__law_asked_3 : EX := (eCallF false tupleF (eVar 5))
def b__law_asked : SX := (sSeq (sSet 3 (eFn m__law_refusal [(eVar 0), (eVar 1)]))
  (sSeq (sSet 4 (eComp it__law_asked_0 (bNm 5) (eC (.bl true)) ce__law_asked_1 [5]))
  (sSeq (sIf (eVar 2)
  (sSet 6 (eFn m__law_told [(eVar 0), (eCallF false tupleF (eComp it__law_asked_2 (bNm 5) (eC (.bl true)) ce__law_asked_3 [5]))])) (sSet 6 (eFn m__law_told [(eVar 0), (eVar 4)])))
  (sRet (eAnd (eFn (m__law_same 6) [(eVar 6), (eVar 3)]) (eBs 3 eqD (eVar 4) (eVar 1)))))))
noncomputable def m__law_asked : Fn := runQ b__law_asked 7
theorem bd__law_asked (M : Mg P w K mg) (D__law_refusal : Df P w K mg base k "_law_refusal" 2 m__law_refusal) (D__law_told : Df P w K mg base k "_law_told" 2 m__law_told) (D__law_same : Df P w K mg base k "_law_same" 2 (m__law_same 6)) : Body P w K mg base k N__law_asked "_law_asked" (defScope (top 33)) (defBody (top 33)) b__law_asked := fun f cd A outer s H E hr =>
  (p_cons (p_set (i := 3) nd__law_asked rfl (by first | exact .inl rfl | exact .inr rfl) (r_fn D__law_refusal hr tk_cx (a_cons (r_var 0) (a_cons (r_var 1) a_nil))))
  (p_cons (p_setC (i := 4) (own := [("row", 5)]) rfl nd__law_asked rfl rfl rfl (pi_seq (r_var 1)) ri_seq rfl (fun s0 H0 C0 cl0 fp0 => (g_nm (i := 5) nd__law_asked rfl (by first | exact .inl rfl | exact .inr rfl))) (fun s0 H0 C0 cl0 fp0 => c_nil) (fun s0 H0 C0 cl0 fp0 => (rf_callTy (m := false) call_list_of s_listF M.f_list (by decide +kernel) (a_cons (r_var 5) a_nil))))
  (p_cons (p_if (r_tru (r_var 2))
  (p_one (p_set (i := 6) nd__law_asked rfl (by first | exact .inl rfl | exact .inr rfl) (r_fn D__law_told hr tk_cx (a_cons (r_var 0) (a_cons (rf_callTy (m := false) call_tuple_of s_tupleF M.f_tuple (by decide +kernel) (a_cons (r_comp (own := [("row", 5)]) rfl nd__law_asked (pi_seq (r_var 1)) ri_seq rfl (fun s0 H0 C0 cl0 fp0 => (g_nm (i := 5) nd__law_asked rfl (by first | exact .inl rfl | exact .inr rfl))) (fun s0 H0 C0 cl0 fp0 => c_nil) (fun s0 H0 C0 cl0 fp0 => (rf_callTy (m := false) call_tuple_of s_tupleF M.f_tuple (by decide +kernel) (a_cons (r_var 5) a_nil)))) a_nil)) a_nil))))) (p_one (p_set (i := 6) nd__law_asked rfl (by first | exact .inl rfl | exact .inr rfl) (r_fn D__law_told hr tk_cx (a_cons (r_var 0) (a_cons (r_var 4) a_nil))))))
  (p_one (p_ret (r_and (r_fn D__law_same hr tk_cx (a_cons (r_var 6) (a_cons (r_var 3) a_nil))) (r_one (rs_cmp (n := 3) (o_eq hr.units) s_eq (r_var 4) (r_var 1) rfl))))))))
/-! ### _law_bound -/
abbrev N__law_bound : List Str := ["levels", "rows", "wide", "least", "alike", "i", "j", "many", "k"]
theorem nd__law_bound : N__law_bound.Nodup := by decide +kernel
theorem sc__law_bound : FnScope N__law_bound ["levels", "rows"] (defScope (top 37)) := ⟨rfl, rfl, rfl, nd__law_bound, rfl, by decide +kernel, by decide +kernel⟩
def it__law_bound_0 : IX := (iR1 (eVar 2))
def ct__law_bound_1 : EX := (eBs 3 eqD (eIxS (eIxS (eVar 1) (eVar 5)) (eVar 8)) (eIxS (eIxS (eVar 1) (eVar 6)) (eVar 8)))
def ce__law_bound_2 : EX := (eVar 8)
def it__law_bound_3 : IX := (iR1 (eVar 5))
def g__law_bound_4 : SX := (sSeq (sSet 7 (eLenS (eComp it__law_bound_0 (bNm 8) ct__law_bound_1 ce__law_bound_2 [8])))
  (sIf (eNinA 3 (eVar 7) (eVar 4))
  (sEx (eMut appF (eVar 4) [(eVar 7)])) sNil))
def it__law_bound_5 : IX := (iR1 (eLenS (eVar 1)))
def g__law_bound_6 : SX := (sFor it__law_bound_3 (bNm 6)
  g__law_bound_4)
def b__law_bound : SX := (sSeq (sSet 2 (eLenS (eIxS (eVar 1) (eC (.int 0)))))
  (sSeq (sSet 3 (eFn m_least_rows [(eVar 2), (eVar 0)]))
  (sSeq (sIf (eOr (eB ltD (eVar 2) (eC (.int 2))) (eB gtD (eLenS (eVar 1)) (eC (.int 64))))
  (sRet (eOr (eB ltD (eVar 2) (eC (.int 2))) (eB geD (eLenS (eVar 1)) (eVar 3)))) sNil)
  (sSeq (sSet 4 (eLstM []))
  (sSeq (sFor it__law_bound_5 (bNm 5)
  g__law_bound_6)
  (sRet (eAnd (eB geD (eLenS (eVar 1)) (eVar 3)) (eBs 3 eqD (eB eqD (eLenS (eVar 1)) (eVar 3)) (eB eqD (eLenS (eVar 4)) (eC (.int 1)))))))))))
noncomputable def m__law_bound : Fn := runQ b__law_bound 9
theorem bd__law_bound (M : Mg P w K mg) (D_least_rows : Df P w K mg base k "least_rows" 2 m_least_rows) : Body P w K mg base k N__law_bound "_law_bound" (defScope (top 37)) (defBody (top 37)) b__law_bound := fun f cd A outer s H E hr =>
  (p_cons (p_set (i := 2) nd__law_bound rfl (by first | exact .inl rfl | exact .inr rfl) (r_lenA M.f_len (a_cons (r_ixS (hu1 hr) (r_var 1) r_int) a_nil)))
  (p_cons (p_set (i := 3) nd__law_bound rfl (by first | exact .inl rfl | exact .inr rfl) (r_fn D_least_rows hr tk_cx (a_cons (r_var 2) (a_cons (r_var 0) a_nil))))
  (p_cons (p_if (r_orT (r_cmpT op_lt (s_cmpI _) b_cmpI (r_var 2) r_int rfl) (r_orT1 (r_cmpT op_gt (s_cmpI _) b_cmpI (r_lenA M.f_len (a_cons (r_var 1) a_nil)) r_int rfl))).pt
  (p_one (p_ret (r_or (r_cmp op_lt (s_cmpI _) (r_var 2) r_int rfl) (r_one (r_cmp op_ge (s_cmpI _) (r_lenA M.f_len (a_cons (r_var 1) a_nil)) (r_var 3) rfl))))) p_nil)
  (p_cons (p_set (i := 4) nd__law_bound rfl (by first | exact .inl rfl | exact .inr rfl) (r_lstM a_nil))
  (p_cons (p_for ps_cx rfl (pi_range1 rfl M.f_range (pa_cons (r_lenA M.f_len (a_cons (r_var 1) a_nil)) pa_nil)) ri_r1 (g_nm (i := 5) nd__law_bound rfl (by first | exact .inl rfl | exact .inr rfl))
  (p_one (p_for ps_cx rfl (pi_range1 rfl M.f_range (pa_cons (r_var 5) pa_nil)) ri_r1 (g_nm (i := 6) nd__law_bound rfl (by first | exact .inl rfl | exact .inr rfl))
  (p_cons (p_set (i := 7) nd__law_bound rfl (by first | exact .inl rfl | exact .inr rfl) (r_lenA M.f_len (a_cons (r_comp (own := [("k", 8)]) rfl nd__law_bound (pi_range1 rfl M.f_range (pa_cons (r_var 2) pa_nil)) ri_r1 rfl (fun s0 H0 C0 cl0 fp0 => (g_nm (i := 8) nd__law_bound rfl (by first | exact .inl rfl | exact .inr rfl))) (fun s0 H0 C0 cl0 fp0 => (c_one (rs_cmpT (n := 3) (o_eq hr.units) s_eq b_eq (r_ixS (hu1 hr) (r_ixS (hu1 hr) (r_var 1) (r_var 5)) (r_var 8)) (r_ixS (hu1 hr) (r_ixS (hu1 hr) (r_var 1) (r_var 6)) (r_var 8)) rfl))) (fun s0 H0 C0 cl0 fp0 => (r_var 8))) a_nil)))
  (p_one (p_if (r_ninAT (n := 3) (hu65 hr) (r_var 7) (r_var 4))
  (p_one (p_ex (r_mut PySem.F.slot_list_append PySem.F.type_list_append mt_append m_app (r_var 4) (a_cons (r_var 7) a_nil)))) p_nil))))))
  (p_one (p_ret (r_and (r_cmp op_ge (s_cmpI _) (r_lenA M.f_len (a_cons (r_var 1) a_nil)) (r_var 3) rfl) (r_one (rs_cmp (n := 3) (o_eq hr.units) s_eq (r_cmp (o_eq hr.units) s_eq (r_lenA M.f_len (a_cons (r_var 1) a_nil)) (r_var 3) rfl) (r_cmp (o_eq hr.units) s_eq (r_lenA M.f_len (a_cons (r_var 4) a_nil)) r_int rfl) rfl))))))))))
/-! ### law -/
abbrev N_law : List Str := ["script", "box", "levels", "rows", "tuples", "changed", "twice", "small", "wide", "drawn", "k", "j", "table", "row", "bent", "odd", "columns", "other"]
theorem nd_law : N_law.Nodup := by decide +kernel
theorem sc_law : FnScope N_law ["script"] (defScope (top 38)) := ⟨rfl, rfl, rfl, nd_law, rfl, by decide +kernel, by decide +kernel⟩
def it_law_0 : IX := (iR1 (eVar 8))
def ce_law_1 : EX := (eFn m__law_draw [(eVar 1), (eVar 7)])
def it_law_2 : IX := (iR1 (eBF false addF (eC (.int 1)) (eFn m__law_draw [(eVar 1), (eC (.int 9))])))
def g_law_3 : SX := (sEx (eMut appF (eVar 9) [(eComp it_law_0 (bNm 11) (eC (.bl true)) ce_law_1 [11])]))
def it_law_4 : IX := (iV seqI (eVar 5))
def ce_law_5 : EX := (eSlF false (eVar 13) none (some (eC (.int 1))))
def it_law_6 : IX := (iV seqI (eLst [(eVar 3), (eVar 5), (eVar 6), (eVar 3), (eComp it_law_4 (bNm 13) (eC (.bl true)) ce_law_5 [13])]))
def g_law_7 : SX := (sIf (eNot (eFn m__law_asked [(eVar 2), (eVar 12), (eVar 4)]))
  (sRet (eC (.bl false))) sNil)
def b_law : SX := (sSeq (sSet 1 (eFn m__law_pool [(eVar 0)]))
  (sSeq (sUn (bTp [(bNm 2), (bNm 3)]) (eFn m__law_good [(eVar 1)]))
  (sSeq (sSet 4 (eB eqD (eFn m__law_draw [(eVar 1), (eC (.int 2))]) (eC (.int 1))))
  (sSeq (sSet 5 (eFn m__law_changed [(eVar 1), (eVar 2), (eVar 3)]))
  (sSeq (sSet 6 (eFn m__law_changed [(eVar 1), (eVar 2), (eVar 5)]))
  (sSeq (sSet 7 (eBF false addF (eC (.int 2)) (eFn m__law_draw [(eVar 1), (eC (.int 3))])))
  (sSeq (sSet 8 (eBF false addF (eC (.int 1)) (eFn m__law_draw [(eVar 1), (eC (.int 4))])))
  (sSeq (sSet 9 (eLstM []))
  (sSeq (sFor it_law_2 (bNm 10)
  g_law_3)
  (sSeq (sFor it_law_6 (bNm 12)
  g_law_7)
  (sSeq (sIf (eOr (eB isntD (eFn m__law_fault [(eVar 2), (eVar 3)]) (eC .non)) (eNot (eFn m__law_bound [(eVar 2), (eVar 3)])))
  (sRet (eC (.bl false))) sNil)
  (sSeq (sSet 14 (eFn m__law_bent [(eVar 1), (eVar 2), (eVar 3)]))
  (sSeq (sSeq (sFr 9) (sIf (eOr (eNot (eFn m__law_asked [(eVar 7), (eVar 9), (eNot (eVar 4))])) (eNot (eFn m__law_asked [(eVar 2), (eVar 14), (eVar 4)])))
  (sRet (eC (.bl false))) sNil))
  (sSeq (sSet 15 (eIxS (eLst [(eC (.int 1)), (eC (.int 21)), (eC (.int 0)), (e1 negD (eB powM (eC (.int 10)) (eC (.int 60)))), (eB powM (eC (.int 10)) (eC (.int 60)))]) (eFn m__law_draw [(eVar 1), (eC (.int 5))])))
  (sSeq (sIf (eOr (eNot (eFn m__law_asked [(eVar 15), (eVar 14), (eVar 4)])) (eNot (eFn m__law_asked [(eC (.int 20)), (eLst [(eLst [(eC (.int 19)), (eC (.int 0))]), (eLst [(eC (.int 0)), (eC (.int 19))])]), (eVar 4)])))
  (sRet (eC (.bl false))) sNil)
  (sSeq (sIf (eOr (eNot (eFn m__law_asked [(eVar 2), (eLst []), (eVar 4)])) (eNot (eFn m__law_asked [(eC (.int 2)), (eLst [(eBF false mulF (eLst [(eC (.int 1))]) (eC (.int 30))), (eBF false mulF (eLst [(eC (.int 1))]) (eC (.int 30)))]), (eVar 4)])))
  (sRet (eC (.bl false))) sNil)
  (sSeq (sSet 16 (eIxS (eLst [(eC (.int 1)), (eC (.int 1000)), (eC (.int 0)), (eC (.int 1001)), (e1 negD (eB powM (eC (.int 10)) (eC (.int 60)))), (eBF false addF (eC (.int 1)) (eFn m__law_draw [(eVar 1), (eC (.int 1000))]))]) (eFn m__law_draw [(eVar 1), (eC (.int 6))])))
  (sSeq (sSet 17 (eIxS (eLst [(eC (.int 2)), (eC (.int 1000)), (eC (.int 1)), (eC (.int 1001)), (eB powM (eC (.int 10)) (eC (.int 60))), (eBF false addF (eC (.int 2)) (eFn m__law_draw [(eVar 1), (eC (.int 999))]))]) (eFn m__law_draw [(eVar 1), (eC (.int 6))])))
  (sSeq (sIf (eOr (eNot (eFn m__law_least [(eVar 16), (eVar 17)])) (eNot (eFn m__law_least [(eBF false addF (eC (.int 1)) (eFn m__law_draw [(eVar 1), (eC (.int 1000))])), (eVar 17)])))
  (sRet (eC (.bl false))) sNil)
  (sRet (eAnd (eFn m__law_least [(eVar 16), (eBF false addF (eC (.int 2)) (eFn m__law_draw [(eVar 1), (eC (.int 999))]))]) (eFn m__law_least [(eLenS (eIxS (eVar 3) (eC (.int 0)))), (eVar 2)]))))))))))))))))))))))
def m_law : Fn := runS b_law 18
theorem bd_law (M : Mg P w K mg) (D__law_pool : Df P w K mg base k "_law_pool" 1 m__law_pool) (D__law_good : Df P w K mg base k "_law_good" 1 m__law_good) (D__law_draw : Df P w K mg base k "_law_draw" 2 m__law_draw) (D__law_changed : Df P w K mg base k "_law_changed" 3 m__law_changed) (D__law_asked : Df P w K mg base k "_law_asked" 3 m__law_asked) (D__law_fault : Df P w K mg base k "_law_fault" 2 m__law_fault) (D__law_bound : Df P w K mg base k "_law_bound" 2 m__law_bound) (D__law_bent : Df P w K mg base k "_law_bent" 3 m__law_bent) (D__law_least : Df P w K mg base k "_law_least" 2 m__law_least) : Body P w K mg base k N_law "law" (defScope (top 38)) (defBody (top 38)) b_law := fun f cd A outer s H E hr =>
  (p_cons (p_set (i := 1) nd_law rfl (by first | exact .inl rfl | exact .inr rfl) (r_fn D__law_pool hr tk_cx (a_cons (r_var 0) a_nil)))
  (p_cons (p_un (r_fn D__law_good hr tk_cx (a_cons (r_var 1) a_nil)) (g_tp rfl (gs_cons (g_nm (i := 2) nd_law rfl (by first | exact .inl rfl | exact .inr rfl)) (gs_cons (g_nm (i := 3) nd_law rfl (by first | exact .inl rfl | exact .inr rfl)) gs_nil))))
  (p_cons (p_set (i := 4) nd_law rfl (by first | exact .inl rfl | exact .inr rfl) (r_cmp (o_eq hr.units) s_eq (r_fn D__law_draw hr tk_cx (a_cons (r_var 1) (a_cons r_int a_nil))) r_int rfl))
  (p_cons (p_set (i := 5) nd_law rfl (by first | exact .inl rfl | exact .inr rfl) (r_fn D__law_changed hr tk_cx (a_cons (r_var 1) (a_cons (r_var 2) (a_cons (r_var 3) a_nil)))))
  (p_cons (p_set (i := 6) nd_law rfl (by first | exact .inl rfl | exact .inr rfl) (r_fn D__law_changed hr tk_cx (a_cons (r_var 1) (a_cons (r_var 2) (a_cons (r_var 5) a_nil)))))
  (p_cons (p_set (i := 7) nd_law rfl (by first | exact .inl rfl | exact .inr rfl) (rf_bin (m := false) o_add s_addF r_int (r_fn D__law_draw hr tk_cx (a_cons (r_var 1) (a_cons r_int a_nil)))))
  (p_cons (p_set (i := 8) nd_law rfl (by first | exact .inl rfl | exact .inr rfl) (rf_bin (m := false) o_add s_addF r_int (r_fn D__law_draw hr tk_cx (a_cons (r_var 1) (a_cons r_int a_nil)))))
  (p_cons (p_set (i := 9) nd_law rfl (by first | exact .inl rfl | exact .inr rfl) (r_lstM a_nil))
  (p_cons (p_for ps_cx rfl (pi_range1 rfl M.f_range (pa_cons (rf_bin (m := false) o_add s_addF r_int (r_fn D__law_draw hr tk_cx (a_cons (r_var 1) (a_cons r_int a_nil)))) pa_nil)) ri_r1 (g_nm (i := 10) nd_law rfl (by first | exact .inl rfl | exact .inr rfl))
  (p_one (p_ex (r_mut PySem.F.slot_list_append PySem.F.type_list_append mt_append m_app (r_var 9) (a_cons (r_comp (own := [("j", 11)]) rfl nd_law (pi_range1 rfl M.f_range (pa_cons (r_var 8) pa_nil)) ri_r1 rfl (fun s0 H0 C0 cl0 fp0 => (g_nm (i := 11) nd_law rfl (by first | exact .inl rfl | exact .inr rfl))) (fun s0 H0 C0 cl0 fp0 => c_nil) (fun s0 H0 C0 cl0 fp0 => (r_fn D__law_draw hr tk0 (a_cons (r_var 1) (a_cons (r_var 7) a_nil))))) a_nil)))))
  (p_cons (p_for ps_cx rfl (pi_seq (r_lst (a_cons (r_var 3) (a_cons (r_var 5) (a_cons (r_var 6) (a_cons (r_var 3) (a_cons (r_comp (own := [("row", 13)]) rfl nd_law (pi_seq (r_var 5)) ri_seq rfl (fun s0 H0 C0 cl0 fp0 => (g_nm (i := 13) nd_law rfl (by first | exact .inl rfl | exact .inr rfl))) (fun s0 H0 C0 cl0 fp0 => c_nil) (fun s0 H0 C0 cl0 fp0 => (rf_sl (m := false) (r_var 13) .none (.some r_int)))) a_nil))))))) ri_seq (g_nm (i := 12) nd_law rfl (by first | exact .inl rfl | exact .inr rfl))
  (p_one (p_if (r_notT (r_tru (r_fn D__law_asked hr tk_cx (a_cons (r_var 2) (a_cons (r_var 12) (a_cons (r_var 4) a_nil))))))
  (p_one (p_ret r_bl)) p_nil)))
  (p_cons (p_if (r_orT (r_cmpT op_notN s_isnt b_isnt (r_fn D__law_fault hr tk_cx (a_cons (r_var 2) (a_cons (r_var 3) a_nil))) r_non rfl) (r_orT1 (r_notT (r_tru (r_fn D__law_bound hr tk_cx (a_cons (r_var 2) (a_cons (r_var 3) a_nil))))))).pt
  (p_one (p_ret r_bl)) p_nil)
  (p_cons (p_set (i := 14) nd_law rfl (by first | exact .inl rfl | exact .inr rfl) (r_fn D__law_bent hr tk_cx (a_cons (r_var 1) (a_cons (r_var 2) (a_cons (r_var 3) a_nil)))))
  (p_cons (p_fr 9 (p_if (r_orT (r_notT (r_tru (r_fn D__law_asked hr tk_cx (a_cons (r_var 7) (a_cons (r_var 9) (a_cons (r_not (r_var 4)) a_nil)))))) (r_orT1 (r_notT (r_tru (r_fn D__law_asked hr tk_cx (a_cons (r_var 2) (a_cons (r_var 14) (a_cons (r_var 4) a_nil)))))))).pt
  (p_one (p_ret r_bl)) p_nil))
  (p_cons (p_set (i := 15) nd_law rfl (by first | exact .inl rfl | exact .inr rfl) (r_ixS (hu1 hr) (r_lst (a_cons r_int (a_cons r_int (a_cons r_int (a_cons (r_un un_neg s_neg (r_bin o_powM s_powM r_int r_int)) (a_cons (r_bin o_powM s_powM r_int r_int) a_nil)))))) (r_fn D__law_draw hr tk_cx (a_cons (r_var 1) (a_cons r_int a_nil)))))
  (p_cons (p_if (r_orT (r_notT (r_tru (r_fn D__law_asked hr tk_cx (a_cons (r_var 15) (a_cons (r_var 14) (a_cons (r_var 4) a_nil)))))) (r_orT1 (r_notT (r_tru (r_fn D__law_asked hr tk_cx (a_cons r_int (a_cons (r_lst (a_cons (r_lst (a_cons r_int (a_cons r_int a_nil))) (a_cons (r_lst (a_cons r_int (a_cons r_int a_nil))) a_nil))) (a_cons (r_var 4) a_nil)))))))).pt
  (p_one (p_ret r_bl)) p_nil)
  (p_cons (p_if (r_orT (r_notT (r_tru (r_fn D__law_asked hr tk_cx (a_cons (r_var 2) (a_cons (r_lst a_nil) (a_cons (r_var 4) a_nil)))))) (r_orT1 (r_notT (r_tru (r_fn D__law_asked hr tk_cx (a_cons r_int (a_cons (r_lst (a_cons (rf_bin (m := false) o_mul s_mulF (r_lst (a_cons r_int a_nil)) r_int) (a_cons (rf_bin (m := false) o_mul s_mulF (r_lst (a_cons r_int a_nil)) r_int) a_nil))) (a_cons (r_var 4) a_nil)))))))).pt
  (p_one (p_ret r_bl)) p_nil)
  (p_cons (p_set (i := 16) nd_law rfl (by first | exact .inl rfl | exact .inr rfl) (r_ixS (hu1 hr) (r_lst (a_cons r_int (a_cons r_int (a_cons r_int (a_cons r_int (a_cons (r_un un_neg s_neg (r_bin o_powM s_powM r_int r_int)) (a_cons (rf_bin (m := false) o_add s_addF r_int (r_fn D__law_draw hr tk_cx (a_cons (r_var 1) (a_cons r_int a_nil)))) a_nil))))))) (r_fn D__law_draw hr tk_cx (a_cons (r_var 1) (a_cons r_int a_nil)))))
  (p_cons (p_set (i := 17) nd_law rfl (by first | exact .inl rfl | exact .inr rfl) (r_ixS (hu1 hr) (r_lst (a_cons r_int (a_cons r_int (a_cons r_int (a_cons r_int (a_cons (r_bin o_powM s_powM r_int r_int) (a_cons (rf_bin (m := false) o_add s_addF r_int (r_fn D__law_draw hr tk_cx (a_cons (r_var 1) (a_cons r_int a_nil)))) a_nil))))))) (r_fn D__law_draw hr tk_cx (a_cons (r_var 1) (a_cons r_int a_nil)))))
  (p_cons (p_if (r_orT (r_notT (r_tru (r_fn D__law_least hr tk_cx (a_cons (r_var 16) (a_cons (r_var 17) a_nil))))) (r_orT1 (r_notT (r_tru (r_fn D__law_least hr tk_cx (a_cons (rf_bin (m := false) o_add s_addF r_int (r_fn D__law_draw hr tk_cx (a_cons (r_var 1) (a_cons r_int a_nil)))) (a_cons (r_var 17) a_nil))))))).pt
  (p_one (p_ret r_bl)) p_nil)
  (p_one (p_ret (r_and (r_fn D__law_least hr tk_cx (a_cons (r_var 16) (a_cons (rf_bin (m := false) o_add s_addF r_int (r_fn D__law_draw hr tk_cx (a_cons (r_var 1) (a_cons r_int a_nil)))) a_nil))) (r_one (r_fn D__law_least hr tk_cx (a_cons (r_lenA M.f_len (a_cons (r_ixS (hu1 hr) (r_var 3) r_int) a_nil)) (a_cons (r_var 2) a_nil))))))))))))))))))))))))))
end
end
end K53

namespace K53
open PySem PySem.Spec PyProof.Rows L2 MB
theorem law_fd {K : Fg} {w : World} (c : SaysN fileR chk fnL xL tsL w K) : ∃ fd, FunD K "law" "law" (defArgs (top 38)) (defBody (top 38)) (defScope (top 38)) [] [] (He.ga K "law") fd := c.m.def_ 23 (d := ⟨("law", none), "law", "law", defArgs (top 38), defBody (top 38), defScope (top 38), [], []⟩) rfl
theorem all_df {w : World} {K : Fg} {mg : Str → Option Value} {base : Heap} {fd_law : FuncData} (M : Mg PySem.Challenge.pw_madeorbarred_k53_tables_of_strength_two w K mg) (c : SaysN fileR chk fnL xL tsL w K) (F_law : FunD K "law" "law" (defArgs (top 38)) (defBody (top 38)) (defScope (top 38)) [] [] (He.ga K "law") fd_law) : FnV PySem.Challenge.pw_madeorbarred_k53_tables_of_strength_two w K mg base 8 (He.ga K "law") fd_law ["script"] m_law := by
  obtain ⟨fd__law_pool, F__law_pool⟩ := c.m.def_ 0 (d := ⟨("_law_pool", none), "_law_pool", "_law_pool", defArgs (top 23), defBody (top 23), defScope (top 23), [], []⟩) rfl
  have B__law_pool : Binds K fd__law_pool ["script"] [] := FunD.bindsN F__law_pool fun _ _ _ _ _ _ us hl => match us, hl with | [_], _ => rfl
  have D__law_pool : Df PySem.Challenge.pw_madeorbarred_k53_tables_of_strength_two w K mg base 1 "_law_pool" 1 m__law_pool := df_okT M.gd__law_pool F__law_pool sc__law_pool B__law_pool (bd__law_pool M)
  obtain ⟨fd__law_draw, F__law_draw⟩ := c.m.def_ 1 (d := ⟨("_law_draw", none), "_law_draw", "_law_draw", defArgs (top 24), defBody (top 24), defScope (top 24), [], []⟩) rfl
  have B__law_draw : Binds K fd__law_draw ["box", "many"] [] := FunD.bindsN F__law_draw fun _ _ _ _ _ _ us hl => match us, hl with | [_, _], _ => rfl
  have D__law_draw : Df PySem.Challenge.pw_madeorbarred_k53_tables_of_strength_two w K mg base 1 "_law_draw" 2 m__law_draw := df_okT M.gd__law_draw F__law_draw sc__law_draw B__law_draw (bd__law_draw M)
  obtain ⟨fd__law_vectors, F__law_vectors⟩ := c.m.def_ 2 (d := ⟨("_law_vectors", none), "_law_vectors", "_law_vectors", defArgs (top 26), defBody (top 26), defScope (top 26), [], []⟩) rfl
  have B__law_vectors : Binds K fd__law_vectors ["levels", "digits"] [] := FunD.bindsN F__law_vectors fun _ _ _ _ _ _ us hl => match us, hl with | [_, _], _ => rfl
  have D__law_vectors : Df PySem.Challenge.pw_madeorbarred_k53_tables_of_strength_two w K mg base 1 "_law_vectors" 2 m__law_vectors := df_okT M.gd__law_vectors F__law_vectors sc__law_vectors B__law_vectors (bd__law_vectors M)
  obtain ⟨fd__law_sums, F__law_sums⟩ := c.m.def_ 3 (d := ⟨("_law_sums", none), "_law_sums", "_law_sums", defArgs (top 27), defBody (top 27), defScope (top 27), [], []⟩) rfl
  have B__law_sums : Binds K fd__law_sums ["box"] [] := FunD.bindsN F__law_sums fun _ _ _ _ _ _ us hl => match us, hl with | [_], _ => rfl
  have D__law_sums : Df PySem.Challenge.pw_madeorbarred_k53_tables_of_strength_two w K mg base 2 "_law_sums" 1 m__law_sums := df_okT M.gd__law_sums F__law_sums sc__law_sums B__law_sums (bd__law_sums M (D__law_draw.mono (by decide)) (D__law_vectors.mono (by decide)))
  obtain ⟨fd__law_good, F__law_good⟩ := c.m.def_ 4 (d := ⟨("_law_good", none), "_law_good", "_law_good", defArgs (top 28), defBody (top 28), defScope (top 28), [], []⟩) rfl
  have B__law_good : Binds K fd__law_good ["box"] [] := FunD.bindsN F__law_good fun _ _ _ _ _ _ us hl => match us, hl with | [_], _ => rfl
  have D__law_good : Df PySem.Challenge.pw_madeorbarred_k53_tables_of_strength_two w K mg base 3 "_law_good" 1 m__law_good := df_okT M.gd__law_good F__law_good sc__law_good B__law_good (bd__law_good M (D__law_draw.mono (by decide)) (D__law_sums.mono (by decide)))
  obtain ⟨fd__law_changed, F__law_changed⟩ := c.m.def_ 5 (d := ⟨("_law_changed", none), "_law_changed", "_law_changed", defArgs (top 29), defBody (top 29), defScope (top 29), [], []⟩) rfl
  have B__law_changed : Binds K fd__law_changed ["box", "levels", "rows"] [] := FunD.bindsN F__law_changed fun _ _ _ _ _ _ us hl => match us, hl with | [_, _, _], _ => rfl
  have D__law_changed : Df PySem.Challenge.pw_madeorbarred_k53_tables_of_strength_two w K mg base 2 "_law_changed" 3 m__law_changed := df_okT M.gd__law_changed F__law_changed sc__law_changed B__law_changed (bd__law_changed M (D__law_draw.mono (by decide)))
  obtain ⟨fd__law_bent, F__law_bent⟩ := c.m.def_ 6 (d := ⟨("_law_bent", none), "_law_bent", "_law_bent", defArgs (top 34), defBody (top 34), defScope (top 34), [], []⟩) rfl
  have B__law_bent : Binds K fd__law_bent ["box", "levels", "rows"] [] := FunD.bindsN F__law_bent fun _ _ _ _ _ _ us hl => match us, hl with | [_, _, _], _ => rfl
  have D__law_bent : Df PySem.Challenge.pw_madeorbarred_k53_tables_of_strength_two w K mg base 2 "_law_bent" 3 m__law_bent := df_okT M.gd__law_bent F__law_bent sc__law_bent B__law_bent (bd__law_bent M (D__law_draw.mono (by decide)))
  obtain ⟨fd__law_same, F__law_same⟩ := c.m.def_ 7 (d := ⟨("_law_same", none), "_law_same", "_law_same", defArgs (top 25), defBody (top 25), defScope (top 25), [], []⟩) rfl
  have B__law_same : Binds K fd__law_same ["told", "due"] [] := FunD.bindsN F__law_same fun _ _ _ _ _ _ us hl => match us, hl with | [_, _], _ => rfl
  have D__law_same : Df PySem.Challenge.pw_madeorbarred_k53_tables_of_strength_two w K mg base 6 "_law_same" 2 (m__law_same 6) := by
    have D0 : Df PySem.Challenge.pw_madeorbarred_k53_tables_of_strength_two w K mg base 0 "_law_same" 2 (m__law_same 0) := df_stuck M.gd__law_same F__law_same B__law_same rfl
    have D1 : Df PySem.Challenge.pw_madeorbarred_k53_tables_of_strength_two w K mg base 1 "_law_same" 2 (m__law_same 1) := df_ok M.gd__law_same F__law_same sc__law_same B__law_same (bd__law_same M D0)
    have D2 : Df PySem.Challenge.pw_madeorbarred_k53_tables_of_strength_two w K mg base 2 "_law_same" 2 (m__law_same 2) := df_ok M.gd__law_same F__law_same sc__law_same B__law_same (bd__law_same M D1)
    have D3 : Df PySem.Challenge.pw_madeorbarred_k53_tables_of_strength_two w K mg base 3 "_law_same" 2 (m__law_same 3) := df_ok M.gd__law_same F__law_same sc__law_same B__law_same (bd__law_same M D2)
    have D4 : Df PySem.Challenge.pw_madeorbarred_k53_tables_of_strength_two w K mg base 4 "_law_same" 2 (m__law_same 4) := df_ok M.gd__law_same F__law_same sc__law_same B__law_same (bd__law_same M D3)
    have D5 : Df PySem.Challenge.pw_madeorbarred_k53_tables_of_strength_two w K mg base 5 "_law_same" 2 (m__law_same 5) := df_ok M.gd__law_same F__law_same sc__law_same B__law_same (bd__law_same M D4)
    have D6 : Df PySem.Challenge.pw_madeorbarred_k53_tables_of_strength_two w K mg base 6 "_law_same" 2 (m__law_same 6) := df_ok M.gd__law_same F__law_same sc__law_same B__law_same (bd__law_same M D5)
    exact D6
  obtain ⟨fd_look_number, F_look_number⟩ := c.m.def_ 8 (d := ⟨("look_number", none), "look_number", "look_number", defArgs (top 9), defBody (top 9), defScope (top 9), [], []⟩) rfl
  have B_look_number : Binds K fd_look_number ["number", "low", "high"] [] := FunD.bindsN F_look_number fun _ _ _ _ _ _ us hl => match us, hl with | [_, _, _], _ => rfl
  have D_look_number : Df PySem.Challenge.pw_madeorbarred_k53_tables_of_strength_two w K mg base 1 "look_number" 3 m_look_number := df_okT M.gd_look_number F_look_number sc_look_number B_look_number (bd_look_number M)
  obtain ⟨fd_least_rows, F_least_rows⟩ := c.m.def_ 9 (d := ⟨("least_rows", none), "least_rows", "least_rows", defArgs (top 21), defBody (top 21), defScope (top 21), [], []⟩) rfl
  have B_least_rows : Binds K fd_least_rows ["columns", "levels"] [] := FunD.bindsN F_least_rows fun _ _ _ _ _ _ us hl => match us, hl with | [_, _], _ => rfl
  have D_least_rows : Df PySem.Challenge.pw_madeorbarred_k53_tables_of_strength_two w K mg base 2 "least_rows" 2 m_least_rows := df_okT M.gd_least_rows F_least_rows sc_least_rows B_least_rows (bd_least_rows M (D_look_number.mono (by decide)))
  obtain ⟨fd__law_numbers, F__law_numbers⟩ := c.m.def_ 10 (d := ⟨("_law_numbers", none), "_law_numbers", "_law_numbers", defArgs (top 35), defBody (top 35), defScope (top 35), [], []⟩) rfl
  have B__law_numbers : Binds K fd__law_numbers ["columns", "levels"] [] := FunD.bindsN F__law_numbers fun _ _ _ _ _ _ us hl => match us, hl with | [_, _], _ => rfl
  have D__law_numbers : Df PySem.Challenge.pw_madeorbarred_k53_tables_of_strength_two w K mg base 3 "_law_numbers" 2 m__law_numbers := df_okT M.gd__law_numbers F__law_numbers sc__law_numbers B__law_numbers (bd__law_numbers M (D_least_rows.mono (by decide)))
  obtain ⟨fd__law_least, F__law_least⟩ := c.m.def_ 11 (d := ⟨("_law_least", none), "_law_least", "_law_least", defArgs (top 36), defBody (top 36), defScope (top 36), [], []⟩) rfl
  have B__law_least : Binds K fd__law_least ["columns", "levels"] [] := FunD.bindsN F__law_least fun _ _ _ _ _ _ us hl => match us, hl with | [_, _], _ => rfl
  have D__law_least : Df PySem.Challenge.pw_madeorbarred_k53_tables_of_strength_two w K mg base 7 "_law_least" 2 m__law_least := df_okT M.gd__law_least F__law_least sc__law_least B__law_least (bd__law_least M (D__law_same.mono (by decide)) (D__law_numbers.mono (by decide)))
  obtain ⟨fd__law_fault, F__law_fault⟩ := c.m.def_ 12 (d := ⟨("_law_fault", none), "_law_fault", "_law_fault", defArgs (top 30), defBody (top 30), defScope (top 30), [], []⟩) rfl
  have B__law_fault : Binds K fd__law_fault ["levels", "rows"] [] := FunD.bindsN F__law_fault fun _ _ _ _ _ _ us hl => match us, hl with | [_, _], _ => rfl
  have D__law_fault : Df PySem.Challenge.pw_madeorbarred_k53_tables_of_strength_two w K mg base 1 "_law_fault" 2 m__law_fault := df_okT M.gd__law_fault F__law_fault sc__law_fault B__law_fault (bd__law_fault M)
  obtain ⟨fd__law_refusal, F__law_refusal⟩ := c.m.def_ 13 (d := ⟨("_law_refusal", none), "_law_refusal", "_law_refusal", defArgs (top 31), defBody (top 31), defScope (top 31), [], []⟩) rfl
  have B__law_refusal : Binds K fd__law_refusal ["levels", "rows"] [] := FunD.bindsN F__law_refusal fun _ _ _ _ _ _ us hl => match us, hl with | [_, _], _ => rfl
  have D__law_refusal : Df PySem.Challenge.pw_madeorbarred_k53_tables_of_strength_two w K mg base 2 "_law_refusal" 2 m__law_refusal := df_okT M.gd__law_refusal F__law_refusal sc__law_refusal B__law_refusal (bd__law_refusal M (D__law_fault.mono (by decide)))
  obtain ⟨fd_look_size, F_look_size⟩ := c.m.def_ 14 (d := ⟨("look_size", none), "look_size", "look_size", defArgs (top 10), defBody (top 10), defScope (top 10), [], []⟩) rfl
  have B_look_size : Binds K fd_look_size ["row", "low", "high"] [] := FunD.bindsN F_look_size fun _ _ _ _ _ _ us hl => match us, hl with | [_, _, _], _ => rfl
  have D_look_size : Df PySem.Challenge.pw_madeorbarred_k53_tables_of_strength_two w K mg base 1 "look_size" 3 m_look_size := df_okT M.gd_look_size F_look_size sc_look_size B_look_size (bd_look_size M)
  obtain ⟨fd_look_place, F_look_place⟩ := c.m.def_ 15 (d := ⟨("look_place", none), "look_place", "look_place", defArgs (top 11), defBody (top 11), defScope (top 11), [], []⟩) rfl
  have B_look_place : Binds K fd_look_place ["place", "many"] [] := FunD.bindsN F_look_place fun _ _ _ _ _ _ us hl => match us, hl with | [_, _], _ => rfl
  have D_look_place : Df PySem.Challenge.pw_madeorbarred_k53_tables_of_strength_two w K mg base 1 "look_place" 2 m_look_place := df_okT M.gd_look_place F_look_place sc_look_place B_look_place (bd_look_place M)
  obtain ⟨fd_look_places, F_look_places⟩ := c.m.def_ 16 (d := ⟨("look_places", none), "look_places", "look_places", defArgs (top 12), defBody (top 12), defScope (top 12), [], []⟩) rfl
  have B_look_places : Binds K fd_look_places ["row", "many"] [] := FunD.bindsN F_look_places fun _ _ _ _ _ _ us hl => match us, hl with | [_, _], _ => rfl
  have D_look_places : Df PySem.Challenge.pw_madeorbarred_k53_tables_of_strength_two w K mg base 2 "look_places" 2 m_look_places := df_okT M.gd_look_places F_look_places sc_look_places B_look_places (bd_look_places M (D_look_place.mono (by decide)))
  obtain ⟨fd__look_table, F__look_table⟩ := c.m.def_ 17 (d := ⟨("_look_table", none), "_look_table", "_look_table", defArgs (top 18), defBody (top 18), defScope (top 18), [], []⟩) rfl
  have B__look_table : Binds K fd__look_table ["levels", "rows"] [] := FunD.bindsN F__look_table fun _ _ _ _ _ _ us hl => match us, hl with | [_, _], _ => rfl
  have D__look_table : Df PySem.Challenge.pw_madeorbarred_k53_tables_of_strength_two w K mg base 3 "_look_table" 2 m__look_table := df_okT M.gd__look_table F__look_table sc__look_table B__look_table (bd__look_table M (D_look_number.mono (by decide)) (D_look_size.mono (by decide)) (D_look_places.mono (by decide)))
  obtain ⟨fd__pair_fault, F__pair_fault⟩ := c.m.def_ 18 (d := ⟨("_pair_fault", none), "_pair_fault", "_pair_fault", defArgs (top 20), defBody (top 20), defScope (top 20), [], []⟩) rfl
  have B__pair_fault : Binds K fd__pair_fault ["levels", "left", "right"] [] := FunD.bindsN F__pair_fault fun _ _ _ _ _ _ us hl => match us, hl with | [_, _, _], _ => rfl
  have D__pair_fault : Df PySem.Challenge.pw_madeorbarred_k53_tables_of_strength_two w K mg base 1 "_pair_fault" 3 m__pair_fault := df_okT M.gd__pair_fault F__pair_fault sc__pair_fault B__pair_fault (bd__pair_fault M)
  obtain ⟨fd_table_fault, F_table_fault⟩ := c.m.def_ 19 (d := ⟨("table_fault", none), "table_fault", "table_fault", defArgs (top 19), defBody (top 19), defScope (top 19), [], []⟩) rfl
  have B_table_fault : Binds K fd_table_fault ["levels", "rows"] [] := FunD.bindsN F_table_fault fun _ _ _ _ _ _ us hl => match us, hl with | [_, _], _ => rfl
  have D_table_fault : Df PySem.Challenge.pw_madeorbarred_k53_tables_of_strength_two w K mg base 4 "table_fault" 2 m_table_fault := df_okT M.gd_table_fault F_table_fault sc_table_fault B_table_fault (bd_table_fault M (D__look_table.mono (by decide)) (D__pair_fault.mono (by decide)))
  obtain ⟨fd__law_told, F__law_told⟩ := c.m.def_ 20 (d := ⟨("_law_told", none), "_law_told", "_law_told", defArgs (top 32), defBody (top 32), defScope (top 32), [], []⟩) rfl
  have B__law_told : Binds K fd__law_told ["levels", "rows"] [] := FunD.bindsN F__law_told fun _ _ _ _ _ _ us hl => match us, hl with | [_, _], _ => rfl
  have D__law_told : Df PySem.Challenge.pw_madeorbarred_k53_tables_of_strength_two w K mg base 5 "_law_told" 2 m__law_told := df_okT M.gd__law_told F__law_told sc__law_told B__law_told (bd__law_told M (D_table_fault.mono (by decide)))
  obtain ⟨fd__law_asked, F__law_asked⟩ := c.m.def_ 21 (d := ⟨("_law_asked", none), "_law_asked", "_law_asked", defArgs (top 33), defBody (top 33), defScope (top 33), [], []⟩) rfl
  have B__law_asked : Binds K fd__law_asked ["levels", "rows", "tuples"] [] := FunD.bindsN F__law_asked fun _ _ _ _ _ _ us hl => match us, hl with | [_, _, _], _ => rfl
  have D__law_asked : Df PySem.Challenge.pw_madeorbarred_k53_tables_of_strength_two w K mg base 7 "_law_asked" 3 m__law_asked := df_okT M.gd__law_asked F__law_asked sc__law_asked B__law_asked (bd__law_asked M (D__law_refusal.mono (by decide)) (D__law_told.mono (by decide)) (D__law_same.mono (by decide)))
  obtain ⟨fd__law_bound, F__law_bound⟩ := c.m.def_ 22 (d := ⟨("_law_bound", none), "_law_bound", "_law_bound", defArgs (top 37), defBody (top 37), defScope (top 37), [], []⟩) rfl
  have B__law_bound : Binds K fd__law_bound ["levels", "rows"] [] := FunD.bindsN F__law_bound fun _ _ _ _ _ _ us hl => match us, hl with | [_, _], _ => rfl
  have D__law_bound : Df PySem.Challenge.pw_madeorbarred_k53_tables_of_strength_two w K mg base 3 "_law_bound" 2 m__law_bound := df_okT M.gd__law_bound F__law_bound sc__law_bound B__law_bound (bd__law_bound M (D_least_rows.mono (by decide)))
  exact def_ok F_law sc_law (bd_law M (D__law_pool.mono (by decide)) (D__law_good.mono (by decide)) (D__law_draw.mono (by decide)) (D__law_changed.mono (by decide)) (D__law_asked.mono (by decide)) (D__law_fault.mono (by decide)) (D__law_bound.mono (by decide)) (D__law_bent.mono (by decide)) (D__law_least.mono (by decide)))
end K53

/-! What the law's draws answer. -/
namespace K53
open PySem MB
/-- the law's box of numbers -/
def Box (cs : List D) : Prop := ∃ (s i r : Int) (rs : List Int), cs = .int s :: .int i :: .int r :: rs.map D.int ∧ 0 ≤ i
/-- cell k holds the box -/
def BoxAt (S : Store) (k : Nat) : Prop := ∃ cs, S[k]? = some (some (.lst cs)) ∧ Box cs
theorem ixN1 {n : Nat} : L2.ixN (n + 1 + 1) 1 = some 1 := by
  unfold L2.ixN
  rw [if_pos (by omega), if_pos (by omega)]
  rfl
theorem ixN2 {n : Nat} : L2.ixN (n + 1 + 1 + 1) 2 = some 2 := by
  unfold L2.ixN
  rw [if_pos (by omega), if_pos (by omega)]
  rfl
theorem atI_box {s i i' r : Int} {rs : List Int} (h0 : 0 ≤ i) (h : i + 2 < (rs.length : Int) + 1 + 1 + 1) : ∃ z, L2.atI (D.int s :: .int i' :: .int r :: rs.map D.int) (i + 2) = some (.int z) := by
  have h2 : (i + 2).toNat < (D.int s :: .int i' :: .int r :: rs.map D.int).length := by
    simp only [List.length_cons, List.length_map] at h ⊢
    omega
  have e : L2.atI (D.int s :: .int i' :: .int r :: rs.map D.int) (i + 2) = (D.int s :: .int i' :: .int r :: rs.map D.int)[(i + 2).toNat]? := by
    unfold L2.atI L2.ixN
    have h3 : i + 2 < (((D.int s :: .int i' :: .int r :: rs.map D.int).length : Nat) : Int) := by simpa using h
    rw [if_pos (by omega), if_pos h3]
    rfl
  rw [e, List.getElem?_eq_getElem h2]
  have : ∀ (l : List Int) (k : Nat) (h : k < (l.map D.int).length), ∃ z, (l.map D.int)[k] = .int z := fun l k h => ⟨l[k]'(by simpa using h), by simp⟩
  obtain ⟨z, hz⟩ := this (s :: i' :: r :: rs) (i + 2).toNat (by simpa using h2)
  exact ⟨z, by simpa using hz⟩
theorem fmod_lt {a b : Int} (h : 0 < b) : 0 ≤ a.fmod b ∧ a.fmod b < b := ⟨Int.fmod_nonneg_of_pos _ h, Int.fmod_lt_of_pos _ h⟩
theorem box_cl {n : Nat} {s i r : Int} {rs : List Int} : clC n (.lst (D.int s :: .int i :: .int r :: rs.map D.int)) := by
  show clDs n _
  simp
theorem draw_spec {S : Store} {k : Nat} {many : Int} (hb : BoxAt S k) (h0 : 0 < many) (hd : divOk 0 many = true) : ∃ z cs, m__law_draw [.ce k, .int many] S = .ok (.int z) (S.set k (some (.lst cs))) ∧ Box cs ∧ 0 ≤ z ∧ z < many := by
  obtain ⟨cs, hS, s, i, r, rs, rfl, hi⟩ := hb
  have hk : k < S.length := (List.getElem?_eq_some_iff.mp hS).1
  have hne : many ≠ 0 := by omega
  have hdk : ∀ z, divOk z many = true := fun z => hd
  have hset : ∀ x, (S.set k x)[k]? = some x := fun x => by simp [hk]
  have fin : ∀ {z : Int} {s' i' r' : Int}, 0 ≤ i' → 0 ≤ z → z < many → runS b__law_draw 4 [.ce k, .int many] S = .ok (.int z) (S.set k (some (.lst (D.int s' :: .int i' :: .int r' :: rs.map D.int)))) →
      ∃ z cs, m__law_draw [.ce k, .int many] S = .ok (.int z) (S.set k (some (.lst cs))) ∧ Box cs ∧ 0 ≤ z ∧ z < many := fun {z s' i' r'} h1 h2 h3 e => by
    refine ⟨z, _, ?_, ⟨s', i', r', rs, rfl, h1⟩, h2, h3⟩
    show trimR S (runS b__law_draw 4 [.ce k, .int many] S) = _
    rw [e]
    have c := CutOk.one (S := S) (T := []) (k := k) (c := .lst (D.int s' :: .int i' :: .int r' :: rs.map D.int)) box_cl
    rw [List.append_nil] at c
    exact trimR_ok c (by simp)
  by_cases hr : r = 0
  · subst hr
    by_cases hl : i + 1 + 2 < (rs.length : Int) + 1 + 1 + 1
    · obtain ⟨z, hz⟩ := atI_box (s := s) (i := i + 1) (i' := i + 1) (r := 0) (rs := rs) (by omega) hl
      refine fin (z := z.fmod many) (s' := s) (i' := i + 1) (r' := z.fdiv many) (by omega) (fmod_lt h0).1 (fmod_lt h0).2 ?_
      simp [b__law_draw, hS, hset, ixN1, ixN2, hz, hl, hne, hdk]
    · refine fin (z := ((((s * 48271 + (i + 1) * 69621 + 11).fmod 2147483647 * (s * 48271 + (i + 1) * 69621 + 11).fmod 2147483647 + (i + 1) * 40692 + 3).fmod 2147483399).fdiv 7).fmod many) (s' := s) (i' := i + 1) (r' := 0) (by omega) (fmod_lt h0).1 (fmod_lt h0).2 ?_
      obtain ⟨b1, b2⟩ := fmod_lt (a := s * 48271 + (i + 1) * 69621 + 11) (b := 2147483647) (by omega)
      have b3 : -18446744073709551616 < (s * 48271 + (i + 1) * 69621 + 11).fmod 2147483647 := by omega
      have b4 : (s * 48271 + (i + 1) * 69621 + 11).fmod 2147483647 < 18446744073709551616 := by omega
      simp [b__law_draw, hS, hset, ixN1, ixN2, hl, hne, hdk, b3, b4, mulOk, divOk]
  · refine fin (z := r.fmod many) (s' := s) (i' := i) (r' := r.fdiv many) hi (fmod_lt h0).1 (fmod_lt h0).2 ?_
    simp [b__law_draw, hS, hset, ixN1, ixN2, hr, hne, hdk]
end K53

/-! The box is made. -/
namespace K53
open PySem MB
theorem trimR_no {S S' : Store} {d : D} (h : ¬ clD S.length d) : trimR S (.ok d S') = .ok d S' := by
  unfold trimR
  exact if_neg fun z => h z.2
def poolE (x : Option Sl) (s : Int) (l : List D) (ns : List Int) (S : Store) : En := ⟨[some (.val (.scr ns)), some (.val (.lst l)), x, some (.val (.int s))], S⟩
theorem pool_spec {S : Store} {ns : List Int} (h : ns.length ≤ 63) : ∃ cs, m__law_pool [.scr ns] S = .ok (.ce S.length) (S ++ [some (.lst cs)]) ∧ Box cs := by
  have hc : cutD ns none (some 63) = ns := cutD_all (by
    unfold HT.sIx
    constructor
    · rfl
    · show (if (63 : Int) < 0 then _ else _) = ns.length
      simp
      omega)
  have hE : E600 ≠ 0 := by have := E600_pos; have := E60_pos; have := E30_eq; omega
  have e1 : eComp it__law_pool_0 (bNm 2) (eC (.bl true)) ce__law_pool_1 [2] ⟨[some (.val (.scr ns)), none, none, none], S⟩
      = .ok (.lst ((ns.map D.int).map fun d => match d with | .int x => .int ((if x < 0 then -x else x).fmod E600) | d => d)) ⟨[some (.val (.scr ns)), none, none, none], S⟩ := by
    refine (eComp_map (ds := ns.map D.int) (ρ1 := ⟨[some (.val (.scr ns)), none, none, none], S⟩) ?_ (by simp; omega) ?_).trans rfl
    · simp [it__law_pool_0, hc]
    · intro d hd
      obtain ⟨x, _, rfl⟩ := List.mem_map.mp hd
      refine ⟨⟨[some (.val (.scr ns)), none, some (.val (.int x)), none], S⟩, rfl, ⟨[some (.val (.scr ns)), none, some (.val (.int x)), none], S⟩, ?_, rfl⟩
      simp [ce__law_pool_1, hE]
  have e2 : ∃ rs : List Int, ((ns.map D.int).map fun d => match d with | .int x => .int ((if x < 0 then -x else x).fmod E600) | d => d) = rs.map D.int ∧ rs.length = ns.length := ⟨ns.map fun x => (if x < 0 then -x else x).fmod E600, by simp, by simp⟩
  obtain ⟨rs, e3, e4⟩ := e2
  rw [e3] at e1
  have loop : ∃ ρ', loopS (bNm 2) g__law_pool_3 (rs.map D.int) (poolE none 42 (rs.map D.int) ns S) = .nx ρ' ∧ ∃ x s, ρ' = poolE x s (rs.map D.int) ns S := by
    refine loopS_inv (I := fun ρ => ∃ x s, ρ = poolE x s (rs.map D.int) ns S) (fun d hd ρ h => ?_) ⟨_, _, rfl⟩
    obtain ⟨x, s, rfl⟩ := h
    obtain ⟨y, _, rfl⟩ := List.mem_map.mp hd
    exact ⟨poolE (some (.val (.int y))) s (rs.map D.int) ns S, rfl, poolE (some (.val (.int y))) ((s * 31 + y.fmod 999983 + 1).fmod 1000003) (rs.map D.int) ns S, by simp [g__law_pool_3, poolE, mulOk], _, _, rfl⟩
  obtain ⟨ρ', e5, x, s, rfl⟩ := loop
  have hs : 3 + rs.length ≤ 16777216 := by omega
  refine ⟨D.int s :: .int 0 :: .int 0 :: rs.map D.int, ?_, s, 0, 0, rs, rfl, by omega⟩
  have e6 : runS b__law_pool 4 [.scr ns] S = .ok (.ce S.length) (S ++ [some (.lst (D.int s :: .int 0 :: .int 0 :: rs.map D.int))]) := by
    have e5' := e5
    unfold poolE at e5'
    simp [-eComp_ap, b__law_pool, e1, it__law_pool_2, e5', hs]
  show trimR S (runS b__law_pool 4 [.scr ns] S) = _
  rw [e6]
  exact trimR_no (by simp)
end K53

/-! Plain data: what == and in answer. -/
namespace MB
open PySem PySem.Spec PyProof.Rows L2
inductive Dat : Nat → D → Prop
  | non {n : Nat} : Dat n .non
  | bl {n : Nat} (b : Bool) : Dat n (.bl b)
  | int {n : Nat} (i : Int) : Dat n (.int i)
  | str {n : Nat} {x : Str} (h : PyData.strOk x = true) : Dat n (.str x)
  | tup {n : Nat} {ds : List D} (h : ∀ d ∈ ds, Dat n d) (hl : ds.length ≤ 1000000 := by first | decide | simp) : Dat (n + 1) (.tup ds)
  | lst {n : Nat} {ds : List D} (h : ∀ d ∈ ds, Dat n d) (hl : ds.length ≤ 1000000 := by first | decide | simp) : Dat (n + 1) (.lst ds)
theorem Dat.mono {n m : Nat} {d : D} (h : Dat n d) : n ≤ m → Dat m d := by
  induction h generalizing m with
  | non => exact fun _ => .non
  | bl b => exact fun _ => .bl b
  | int i => exact fun _ => .int i
  | str h => exact fun _ => .str h
  | tup h hl ih =>
    intro le
    cases m with
    | zero => omega
    | succ m => exact .tup (fun d hd => ih d hd (by omega)) hl
  | lst h hl ih =>
    intro le
    cases m with
    | zero => omega
    | succ m => exact .lst (fun d hd => ih d hd (by omega)) hl
theorem pys_of {n : Nat} : ∀ {ds : List D}, (∀ d ∈ ds, ∃ p, toPy d = some p ∧ PyData.canLay0 p = true ∧ PyData.depth p ≤ n) → ∃ ps, toPys ds = some ps ∧ PyData.canLayAll0 ps = true ∧ PyData.depthAll ps ≤ n
  | [], _ => ⟨[], by rw [toPys], by rw [PyData.canLayAll0], by rw [PyData.depthAll]; omega⟩
  | d :: ds, h => by
    obtain ⟨p, e1, e2, e3⟩ := h d List.mem_cons_self
    obtain ⟨ps, f1, f2, f3⟩ := pys_of fun d' m => h d' (List.mem_cons_of_mem _ m)
    refine ⟨p :: ps, by rw [toPys, e1, f1]; rfl, by rw [PyData.canLayAll0, e2, f2]; rfl, by rw [PyData.depthAll]; omega⟩
theorem dat_py {n : Nat} {d : D} (h : Dat n d) : ∃ p, toPy d = some p ∧ PyData.canLay0 p = true ∧ PyData.depth p ≤ n := by
  induction h with
  | non => exact ⟨.none, by rw [toPy], by rw [PyData.canLay0], by rw [PyData.depth]; omega⟩
  | bl b => exact ⟨.bool b, by rw [toPy], by rw [PyData.canLay0], by rw [PyData.depth]; omega⟩
  | int i => exact ⟨.int i, by rw [toPy], by rw [PyData.canLay0], by rw [PyData.depth]; omega⟩
  | str h => exact ⟨.str _, by rw [toPy], by rw [PyData.canLay0]; exact h, by rw [PyData.depth]; omega⟩
  | tup h hl ih =>
    obtain ⟨ps, f1, f2, f3⟩ := pys_of ih
    exact ⟨.tuple ps, by rw [toPy, f1]; rfl, by rw [PyData.canLay0]; exact f2, by rw [PyData.depth]; omega⟩
  | lst h hl ih =>
    obtain ⟨ps, f1, f2, f3⟩ := pys_of ih
    exact ⟨.list ps, by rw [toPy, f1]; rfl, by rw [PyData.canLay0]; exact f2, by rw [PyData.depth]; omega⟩
theorem shaped_of {p : PyData} {n : Nat} (h1 : PyData.canLay0 p = true) (h2 : PyData.depth p ≤ n) (h : n ≤ 64) : SeqAt.shaped p = true := by
  unfold SeqAt.shaped
  rw [h1, Bool.true_and]
  exact decide_eq_true (by omega)
theorem inDeep_ok {n : Nat} {d : D} {xs : List D} (h1 : Dat n d) (h2 : ∀ x ∈ xs, Dat n x) (h : n ≤ 63) : ∃ b, inDeep d xs = some b := by
  obtain ⟨p, e1, e2, e3⟩ := dat_py h1
  obtain ⟨ps, f1, f2, f3⟩ := pys_of fun x hx => dat_py (h2 x hx)
  have s1 : SeqAt.shaped p = true := shaped_of e2 e3 (by omega)
  have s2 : SeqAt.shaped (.list ps) = true := shaped_of (n := n + 1) (by rw [PyData.canLay0]; exact f2) (by rw [PyData.depth]; omega) (by omega)
  refine ⟨ps.any fun z => PyData.eqv z p, ?_⟩
  unfold inDeep
  rw [e1, f1]
  simp only [s1, s2, Bool.and_self, if_true]
theorem inM_ok {n : Nat} {d : D} {xs : List D} (h1 : Dat n d) (h2 : ∀ x ∈ xs, Dat n x) (h : n ≤ 63) : ∃ b, inM d (.lst xs) = some (.bl b) := by
  obtain ⟨b, e⟩ := inDeep_ok h1 h2 h
  have : inM d (.lst xs) = (match inB d xs with
    | some b => some (.bl b)
    | none => (inDeep d xs).map .bl) := by cases d <;> rfl
  rw [this]
  cases inB d xs with
  | some b' => exact ⟨b', rfl⟩
  | none => rw [e]; exact ⟨b, rfl⟩
theorem eqB_ok {n : Nat} {d e : D} (h1 : Dat n d) (h2 : Dat n e) (h : n ≤ 64) : ∃ b, eqB d e = some b := by
  unfold eqB
  split
  · exact ⟨_, rfl⟩
  · obtain ⟨p, e1, e2, e3⟩ := dat_py h1
    obtain ⟨q, f1, f2, f3⟩ := dat_py h2
    simp only [e1, f1, shaped_of e2 e3 h, shaped_of f2 f3 h, Bool.and_self, if_true]
    exact ⟨_, rfl⟩
theorem eqB_nil {n : Nat} {xs : List D} (h1 : ∀ x ∈ xs, Dat n x) (h : n ≤ 63) : eqB (.lst xs) (.lst []) = some xs.isEmpty := by
  obtain ⟨ps, f1, f2, f3⟩ := pys_of fun x hx => dat_py (h1 x hx)
  have s2 : SeqAt.shaped (.list ps) = true := shaped_of (n := n + 1) (by rw [PyData.canLay0]; exact f2) (by rw [PyData.depth]; omega) (by omega)
  have e1 : toPy (.lst xs) = some (.list ps) := by rw [toPy, f1]; rfl
  have e2 : toPy (.lst []) = some (.list []) := by rw [toPy, toPys]; rfl
  unfold eqB
  rw [if_neg (by show ¬ scalD (.lst xs) (.lst []) = true; simp [scalD]), e1, e2]
  simp only [s2, Bool.true_and]
  have s3 : SeqAt.shaped (.list []) = true := by decide +kernel
  rw [s3, if_pos rfl]
  cases xs with
  | nil =>
    rw [toPys] at f1
    cases f1
    rfl
  | cons x xs =>
    rw [toPys] at f1
    obtain ⟨p, _, f1⟩ := Option.bind_eq_some_iff.mp f1
    obtain ⟨qs, _, f1⟩ := Option.map_eq_some_iff.mp f1
    subst f1
    rfl
theorem neD_nil {n : Nat} {xs : List D} (h1 : ∀ x ∈ xs, Dat n x) (h : n ≤ 63) : neD (.lst xs) (.lst []) = some (.bl (!xs.isEmpty)) := by
  unfold neD
  rw [eqB_nil h1 h]
  rfl
theorem map_id_of {f : D → D} : ∀ {ds : List D}, (∀ d ∈ ds, f d = d) → ds.map f = ds
  | [], _ => rfl
  | d :: ds, h => by rw [List.map_cons, h d List.mem_cons_self, map_id_of fun d' m => h d' (List.mem_cons_of_mem _ m)]
theorem seeD_dat {S : Store} {n : Nat} {d : D} (h : Dat n d) : ∀ m, seeD S m d = d := by
  induction h with
  | non => exact fun m => seeD_n
  | bl b => exact fun m => seeD_b
  | int i => exact fun m => seeD_i
  | str h => exact fun m => seeD_s
  | tup h hl ih =>
    intro m
    cases m with
    | zero => rfl
    | succ m => rw [seeD_t, map_id_of fun d hd => ih d hd m]
  | lst h hl ih =>
    intro m
    cases m with
    | zero => rfl
    | succ m => rw [seeD_l, map_id_of fun d hd => ih d hd m]
theorem clD_dat {n : Nat} {d : D} (h : Dat n d) : ∀ m, clD m d := by
  induction h with
  | non => exact fun m => clD_non
  | bl b => exact fun m => clD_bl
  | int i => exact fun m => clD_int
  | str h => exact fun m => clD_str
  | tup h hl ih => exact fun m => clD_tup.mpr (clDs_all.mpr fun d hd => ih d hd m)
  | lst h hl ih => exact fun m => clD_lst.mpr (clDs_all.mpr fun d hd => ih d hd m)
/-- equal data: == says so -/
theorem eqB_refl {n : Nat} {d : D} (h1 : Dat n d) (h : n ≤ 64) : eqB d d = some true := by
  unfold eqB
  split
  · rename_i hs
    cases h1 <;> first | (simp [eqF]; done) | (exact absurd hs (by simp [scalD]))
  · obtain ⟨p, e1, e2, e3⟩ := dat_py h1
    simp only [e1, shaped_of e2 e3 h, Bool.and_self, if_true]
    exact congrArg some (SeqAt.eqv_refl _ e2)
end MB

/-! _law_same of equal data. -/
namespace K53
open PySem MB

theorem allB_true : ∀ n : Nat, allD [.lst (List.replicate n (.bl true))] = some (.bl true) := fun n => by
  have h : asBools (List.replicate n (.bl true)) = some (List.replicate n true) := by
    rw [show List.replicate n (D.bl true) = (List.replicate n true).map D.bl by simp, asBools_map]
  unfold allD
  simp [h]
theorem same_eq (n : Nat) (ds : List D) (S : Store) : m__law_same (n + 1) ds S = endR (b__law_same (m__law_same n) (envOf 4 ds S)) := rfl
theorem same_refl : ∀ {n : Nat} {d : D} {S : Store}, Dat n d → m__law_same (n + 1) [d, d] S = .ok (.bl true) S := by
  intro n
  induction n with
  | zero =>
    intro d S h
    rw [same_eq]
    cases h with
    | non => simp [b__law_same, isNo, isBlD]
    | bl b => cases b <;> simp [b__law_same, isNo, isBlD]
    | int i => simp [b__law_same, isNo, isBlD]
    | str h => simp [b__law_same, isNo, isBlD]
  | succ n ih =>
    intro d S h
    have key : ∀ (e : D) (ds : List D) (hds : ∀ d ∈ ds, Dat n d), (∀ ρ : En, kZZ e e ρ = .ok (zipD ds ds) ρ) → ds.length ≤ 1000000 →
        eComp (it__law_same_0 (m__law_same (n + 1))) (bTp [bNm 2, bNm 3]) (eC (.bl true)) (ce__law_same_1 (m__law_same (n + 1))) [2, 3] ⟨[some (.val e), some (.val e), none, none], S⟩ = .ok (.lst (List.replicate ds.length (.bl true))) ⟨[some (.val e), some (.val e), none, none], S⟩ := by
      intro e ds hds hz hl
      have hlen : (zipD ds ds).length = ds.length := by simp [zipD]
      refine (eComp_map (ds := zipD ds ds) (g := fun _ => .bl true) (ρ1 := ⟨[some (.val e), some (.val e), none, none], S⟩) ?_ (by omega) ?_).trans ?_
      · simp [it__law_same_0, hz]
      · intro p hp
        obtain ⟨k, hk⟩ := List.getElem?_of_mem hp
        obtain ⟨a, b, ha, hb, rfl⟩ := zipD_get hk
        rw [ha] at hb
        cases hb
        have hm : a ∈ ds := List.mem_of_getElem? ha
        refine ⟨⟨[some (.val e), some (.val e), some (.val a), some (.val a)], S⟩, by simp, ⟨[some (.val e), some (.val e), some (.val a), some (.val a)], S⟩, ?_, by simp⟩
        have := ih (S := S) (hds a hm)
        simp [ce__law_same_1, this]
      · simp [List.map_const', hlen]
    cases h with
    | non => rw [same_eq]; simp [b__law_same, isNo, isBlD]
    | bl b => rw [same_eq]; cases b <;> simp [b__law_same, isNo, isBlD]
    | int i => rw [same_eq]; simp [b__law_same, isNo, isBlD]
    | str h => rw [same_eq]; simp [b__law_same, isNo, isBlD]
    | tup h hl =>
      rename_i ds
      have k := key (.tup ds) ds h (fun ρ => rfl) hl
      rw [same_eq]
      simp [-eComp_ap, b__law_same, isNo, isBlD, k, allB_true]
    | lst h hl =>
      rename_i ds
      have k := key (.lst ds) ds h (fun ρ => rfl) hl
      rw [same_eq]
      simp [-eComp_ap, b__law_same, isNo, isBlD, k, allB_true]
end K53

/-! The program's small checks; _law_least. -/
namespace K53
open PySem MB
theorem run_same {b : SX} {n : Nat} {ds : List D} {S T : Store} {d : D} (h : runS b n ds S = .ok d (S ++ T)) (c : clD S.length d) : runQ b n ds S = .ok d S := by
  show trimR S (runS b n ds S) = _
  rw [h]
  exact trimR_ok CutOk.same c
theorem run_id {b : SX} {n : Nat} {ds : List D} {S : Store} {d : D} (h : runS b n ds S = .ok d S) (c : clD S.length d) : runQ b n ds S = .ok d S := run_same (T := []) (by rw [List.append_nil]; exact h) c
theorem run_err {b : SX} {n : Nat} {ds : List D} {S T : Store} {x : Ex} (h : runS b n ds S = .err x (S ++ T)) (c : clDs S.length (x.fs.map (·.2))) : runQ b n ds S = .err x S := by
  show trimR S (runS b n ds S) = _
  rw [h]
  exact trimR_err CutOk.same c
theorem run_ide {b : SX} {n : Nat} {ds : List D} {S : Store} {x : Ex} (h : runS b n ds S = .err x S) (c : clDs S.length (x.fs.map (·.2))) : runQ b n ds S = .err x S := run_err (T := []) (by rw [List.append_nil]; exact h) c
theorem run_one {b : SX} {n k : Nat} {ds : List D} {S T : Store} {d : D} {c : Cn} (h : runS b n ds S = .ok d (S.set k (some c) ++ T)) (hc : clC S.length c) (hd : clD S.length d) : runQ b n ds S = .ok d (S.set k (some c)) := by
  show trimR S (runS b n ds S) = _
  rw [h]
  exact trimR_ok (CutOk.one hc) hd
def xN (n : Int) : Ex := ⟨"NumberError", [("number", .int n)]⟩
def xS (n : Int) : Ex := ⟨"SizeError", [("count", .int n)]⟩
def xP (n : Int) : Ex := ⟨"PlaceError", [("place", .int n)]⟩
theorem look_number_ok {n lo hi : Int} {S : Store} (h1 : lo ≤ n) (h2 : n ≤ hi) : m_look_number [.int n, .int lo, .int hi] S = .ok .non S := by
  refine run_id ?_ (by simp)
  have a : ¬ n < lo := by omega
  have b : ¬ hi < n := by omega
  simp [b_look_number, a, b]
theorem look_number_err {n lo hi : Int} {S : Store} (h : n < lo ∨ hi < n) : m_look_number [.int n, .int lo, .int hi] S = .err (xN n) S := by
  refine run_ide ?_ (by simp [xN])
  by_cases a : n < lo
  · simp [b_look_number, a, xN]
  · have b : hi < n := by omega
    simp [b_look_number, a, b, xN]
theorem look_place_ok {n m : Int} {S : Store} (h1 : 0 ≤ n) (h2 : n < m) : m_look_place [.int n, .int m] S = .ok .non S := by
  refine run_id ?_ (by simp)
  have a : ¬ n < 0 := by omega
  have b : ¬ m ≤ n := by omega
  simp [b_look_place, a, b]
theorem look_place_err {n m : Int} {S : Store} (h : n < 0 ∨ m ≤ n) : m_look_place [.int n, .int m] S = .err (xP n) S := by
  refine run_ide ?_ (by simp [xP])
  by_cases a : n < 0
  · simp [b_look_place, a, xP]
  · have b : m ≤ n := by omega
    simp [b_look_place, a, b, xP]
/-- a list or a tuple -/
def seqD : Bool → List D → D
  | false, ds => .lst ds
  | true, ds => .tup ds
theorem seqI_s (t : Bool) (ds : List D) : seqI (seqD t ds) = some ds := by cases t <;> rfl
theorem len_s (t : Bool) (ds : List D) (S : Store) : lenS S (seqD t ds) = some (.int (ds.length : Nat)) := by cases t <;> rfl
theorem look_size_ok {t : Bool} {ds : List D} {lo hi : Int} {S : Store} (h1 : lo ≤ ds.length) (h2 : (ds.length : Int) ≤ hi) : m_look_size [seqD t ds, .int lo, .int hi] S = .ok .non S := by
  refine run_id ?_ (by simp)
  have a : ¬ (ds.length : Int) < lo := by omega
  have b : ¬ hi < (ds.length : Int) := by omega
  simp [-lenS_ap, b_look_size, len_s, a, b]
theorem look_size_err {t : Bool} {ds : List D} {lo hi : Int} {S : Store} (h : (ds.length : Int) < lo ∨ hi < ds.length) : m_look_size [seqD t ds, .int lo, .int hi] S = .err (xS ds.length) S := by
  refine run_ide ?_ (by simp [xS])
  by_cases a : (ds.length : Int) < lo
  · simp [-lenS_ap, b_look_size, len_s, a, xS]
  · have b : hi < (ds.length : Int) := by omega
    simp [-lenS_ap, b_look_size, len_s, a, b, xS]
theorem mul_ok1000 {i j : Int} (h1 : 1 ≤ i) (h2 : i ≤ 1000) : mulOk i j = true := by
  unfold mulOk
  simp only [Bool.or_eq_true, decide_eq_true_eq]
  left; left
  omega
theorem least_ok {c l : Int} {S : Store} (h1 : 1 ≤ c) (h2 : c ≤ 1000) (h3 : 2 ≤ l) (h4 : l ≤ 1000) : m_least_rows [.int c, .int l] S = .ok (.int (1 + c * (l - 1))) S := by
  refine run_id ?_ (by simp)
  simp [b_least_rows, dc_MOST_COUNTED, look_number_ok h1 h2, look_number_ok h3 h4, mul_ok1000 h1 h2]
theorem least_err {c l : Int} {S : Store} (h : c < 1 ∨ 1000 < c) : m_least_rows [.int c, .int l] S = .err (xN c) S := by
  refine run_ide ?_ (by simp [xN])
  simp [b_least_rows, dc_MOST_COUNTED, look_number_err h]
theorem least_err2 {c l : Int} {S : Store} (h1 : 1 ≤ c) (h2 : c ≤ 1000) (h : l < 2 ∨ 1000 < l) : m_least_rows [.int c, .int l] S = .err (xN l) S := by
  refine run_ide ?_ (by simp [xN])
  simp [b_least_rows, dc_MOST_COUNTED, look_number_ok h1 h2, look_number_err h]
theorem numbers_err {c l n : Int} {S : Store} (h : m_least_rows [.int c, .int l] S = .err (xN n) S) : m__law_numbers [.int c, .int l] S = .ok (.tup [.str "number", .int n, .bl true]) S := by
  refine run_id ?_ (by simp)
  simp [b__law_numbers, tb__law_numbers_0, hd__law_numbers_1, h, xN, isX, isXT, xs, ist_0, xf_number, List.lookup_cons, noExc]
theorem numbers_ok {c l n : Int} {S : Store} (h : m_least_rows [.int c, .int l] S = .ok (.int n) S) : m__law_numbers [.int c, .int l] S = .ok (.tup [.str "told", .int n]) S := by
  refine run_id ?_ (by simp)
  simp [b__law_numbers, tb__law_numbers_0, h]
end K53

/-! _law_least. -/
namespace K53
open PySem MB
theorem told_dat {n : Int} : Dat 5 (.tup [.str "told", .int n]) := .tup (fun d hd => by
  simp only [List.mem_cons, List.not_mem_nil, or_false] at hd
  rcases hd with rfl | rfl
  · exact .str (by decide +kernel)
  · exact .int _)
theorem number_dat {n : Int} : Dat 5 (.tup [.str "number", .int n, .bl true]) := .tup (fun d hd => by
  simp only [List.mem_cons, List.not_mem_nil, or_false] at hd
  rcases hd with rfl | rfl | rfl
  · exact .str (by decide +kernel)
  · exact .int _
  · exact .bl _)
theorem least_true {c l : Int} {S : Store} (hm : mulOk c (l - 1) = true) : m__law_least [.int c, .int l] S = .ok (.bl true) S := by
  refine run_id ?_ (by simp)
  have qc := same_refl (S := S) (number_dat (n := c))
  have ql := same_refl (S := S) (number_dat (n := l))
  have qt := same_refl (S := S) (told_dat (n := 1 + c * (l - 1)))
  by_cases a : c < 1
  · have e := numbers_err (S := S) (least_err (l := l) (.inl a))
    by_cases a2 : l < 2
    · simp [b__law_least, hm, a, a2, e, qc]
    · by_cases b2 : 1000 < l <;> simp [b__law_least, hm, a, a2, b2, e, qc]
  · by_cases b : 1000 < c
    · have e := numbers_err (S := S) (least_err (l := l) (.inr b))
      by_cases a2 : l < 2
      · simp [b__law_least, hm, a, b, a2, e, qc]
      · by_cases b2 : 1000 < l <;> simp [b__law_least, hm, a, b, a2, b2, e, qc]
    · by_cases a2 : l < 2
      · have e := numbers_err (S := S) (least_err2 (c := c) (by omega) (by omega) (.inl a2))
        simp [b__law_least, hm, a, b, a2, e, ql]
      · by_cases b2 : 1000 < l
        · have e := numbers_err (S := S) (least_err2 (c := c) (by omega) (by omega) (.inr b2))
          simp [b__law_least, hm, a, b, a2, b2, e, ql]
        · have e := numbers_ok (S := S) (least_ok (c := c) (l := l) (by omega) (by omega) (by omega) (by omega))
          simp [b__law_least, hm, a, b, a2, b2, e, qt]
end K53

/-! The table looked at. -/
namespace K53
open PySem MB
def rowD (t : Bool) (r : List Int) : D := seqD t (r.map D.int)
def tabD (t : Bool) (rows : List (List Int)) : D := seqD t (rows.map (rowD t))
def badP (lv : Int) : List Int → Option Int
  | [] => none
  | x :: r => if x < 0 ∨ lv ≤ x then some x else badP lv r
def outP (lv : Int) (r : List Int) (ρ : En) : Fl := match badP lv r with
  | none => .nx ρ
  | some z => .err (xP z) ρ
theorem places_loop {lv : Int} {a : D} {S : Store} : ∀ (r : List Int) (x : Option Sl), ∃ y, loopS (bNm 2) g_look_places_1 (r.map D.int) ⟨[some (.val a), some (.val (.int lv)), x], S⟩ = outP lv r ⟨[some (.val a), some (.val (.int lv)), y], S⟩
  | [], x => ⟨x, rfl⟩
  | z :: r, x => by
    by_cases h : z < 0 ∨ lv ≤ z
    · refine ⟨some (.val (.int z)), ?_⟩
      have e : badP lv (z :: r) = some z := if_pos h
      have q := look_place_err (S := S) h
      simp [outP, e, g_look_places_1, q]
    · have e : badP lv (z :: r) = badP lv r := if_neg h
      have q := look_place_ok (S := S) (n := z) (m := lv) (by omega) (by omega)
      obtain ⟨y, hy⟩ := places_loop r (some (.val (.int z)))
      refine ⟨y, ?_⟩
      unfold outP at hy ⊢
      rw [e, ← hy]
      simp [g_look_places_1, q]
theorem look_places_spec {t : Bool} {lv : Int} {r : List Int} {S : Store} : m_look_places [rowD t r, .int lv] S = match badP lv r with
    | none => .ok .non S
    | some z => .err (xP z) S := by
  obtain ⟨y, hy⟩ := places_loop (lv := lv) (a := rowD t r) (S := S) r none
  unfold outP at hy
  cases e : badP lv r with
  | none =>
    rw [e] at hy
    refine run_id ?_ (by simp)
    simp [b_look_places, it_look_places_0, rowD, seqI_s] at hy ⊢
    simp [hy]
  | some z =>
    rw [e] at hy
    refine run_ide ?_ (by simp [xP])
    simp [b_look_places, it_look_places_0, rowD, seqI_s] at hy ⊢
    simp [hy]
/-- what is wrong with a row of a table -/
def rowF (lv : Int) : Int → Int → List (List Int) → Option Ex
  | _, _, [] => none
  | lo, hi, r :: rs => if (r.length : Int) < lo ∨ hi < r.length then some (xS r.length) else match badP lv r with
    | some x => some (xP x)
    | none => rowF lv r.length r.length rs
def outR (lv lo hi : Int) (rows : List (List Int)) (ρ : En) : Fl := match rowF lv lo hi rows with
  | none => .nx ρ
  | some x => .err x ρ
theorem rows_loop {t : Bool} {lv : Int} {a : D} {S : Store} : ∀ (rows : List (List Int)) (lo hi : Int) (x : Option Sl), ∃ lo' hi' y,
    loopS (bNm 4) g__look_table_1 (rows.map (rowD t)) ⟨[some (.val (.int lv)), some (.val a), some (.val (.int lo)), some (.val (.int hi)), x], S⟩ = outR lv lo hi rows ⟨[some (.val (.int lv)), some (.val a), lo', hi', y], S⟩
  | [], lo, hi, x => ⟨_, _, x, rfl⟩
  | r :: rs, lo, hi, x => by
    by_cases h : (r.length : Int) < lo ∨ hi < r.length
    · refine ⟨some (.val (.int lo)), some (.val (.int hi)), some (.val (rowD t r)), ?_⟩
      have e : rowF lv lo hi (r :: rs) = some (xS r.length) := if_pos h
      have q : m_look_size [rowD t r, .int lo, .int hi] S = .err (xS r.length) S := by
        have := look_size_err (t := t) (ds := r.map D.int) (lo := lo) (hi := hi) (S := S) (by simpa using h)
        simpa [rowD] using this
      unfold outR
      rw [e]
      simp [g__look_table_1, q]
    · have q : m_look_size [rowD t r, .int lo, .int hi] S = .ok .non S := by
        have h' : lo ≤ (r.length : Int) ∧ (r.length : Int) ≤ hi := by omega
        exact look_size_ok (t := t) (ds := r.map D.int) (by simpa using h'.1) (by simpa using h'.2)
      have e0 : rowF lv lo hi (r :: rs) = match badP lv r with
        | some x => some (xP x)
        | none => rowF lv r.length r.length rs := if_neg h
      have q2 := look_places_spec (t := t) (lv := lv) (r := r) (S := S)
      cases e : badP lv r with
      | some z =>
        rw [e] at e0 q2
        refine ⟨some (.val (.int lo)), some (.val (.int hi)), some (.val (rowD t r)), ?_⟩
        unfold outR
        rw [e0]
        simp [g__look_table_1, q, q2]
      | none =>
        rw [e] at e0 q2
        obtain ⟨lo', hi', y, hy⟩ := rows_loop (t := t) rs r.length r.length (some (.val (rowD t r)))
        refine ⟨lo', hi', y, ?_⟩
        unfold outR at hy ⊢
        rw [e0, ← hy]
        have ql : lenS S (rowD t r) = some (.int (r.length : Nat)) := by
          unfold rowD
          rw [len_s]
          simp
        simp [-lenS_ap, g__look_table_1, q, q2, ql]
def lookF (lv : Int) (rows : List (List Int)) : Option Ex :=
  if lv < 2 ∨ 20 < lv then some (xN lv) else if (rows.length : Int) < 1 ∨ 200 < (rows.length : Int) then some (xS rows.length) else rowF lv 1 30 rows
theorem lookF_cl {n : Nat} {lv : Int} {rows : List (List Int)} {x : Ex} (h : lookF lv rows = some x) : clDs n (x.fs.map (·.2)) := by
  have rf : ∀ (rows : List (List Int)) (lo hi : Int), rowF lv lo hi rows = some x → clDs n (x.fs.map (·.2)) := by
    intro rows
    induction rows with
    | nil => intro lo hi h; cases h
    | cons r rs ih =>
      intro lo hi h
      unfold rowF at h
      split at h
      · cases h; simp [xS]
      · cases e : badP lv r with
        | some z => rw [e] at h; cases h; simp [xP]
        | none => rw [e] at h; exact ih _ _ h
  unfold lookF at h
  split at h
  · cases h; simp [xN]
  · split at h
    · cases h; simp [xS]
    · exact rf _ _ _ h
theorem look_table_spec {t : Bool} {lv : Int} {rows : List (List Int)} {S : Store} : m__look_table [.int lv, tabD t rows] S = match lookF lv rows with
    | none => .ok .non S
    | some x => .err x S := by
  by_cases h1 : lv < 2 ∨ 20 < lv
  · have e : lookF lv rows = some (xN lv) := if_pos h1
    rw [e]
    refine run_ide ?_ (lookF_cl e)
    have q := look_number_err (S := S) h1
    simp [b__look_table, dc_MOST_LEVELS, q]
  · have q1 := look_number_ok (S := S) (n := lv) (lo := 2) (hi := 20) (by omega) (by omega)
    by_cases h2 : (rows.length : Int) < 1 ∨ 200 < (rows.length : Int)
    · have e : lookF lv rows = some (xS rows.length) := by unfold lookF; rw [if_neg h1, if_pos h2]
      rw [e]
      refine run_ide ?_ (lookF_cl e)
      have q : m_look_size [tabD t rows, .int 1, .int 200] S = .err (xS rows.length) S := by
        have := look_size_err (t := t) (ds := rows.map (rowD t)) (lo := 1) (hi := 200) (S := S) (by simpa using h2)
        simpa [tabD] using this
      simp [b__look_table, dc_MOST_LEVELS, dc_MOST_ROWS, q1, q]
    · have q : m_look_size [tabD t rows, .int 1, .int 200] S = .ok .non S := look_size_ok (t := t) (ds := rows.map (rowD t)) (by simp; omega) (by simp; omega)
      have e : lookF lv rows = rowF lv 1 30 rows := by unfold lookF; rw [if_neg h1, if_neg h2]
      obtain ⟨lo', hi', y, hy⟩ := rows_loop (t := t) (lv := lv) (a := tabD t rows) (S := S) rows 1 30 none
      unfold outR at hy
      have qs : seqI (tabD t rows) = some (rows.map (rowD t)) := seqI_s _ _
      cases e2 : rowF lv 1 30 rows with
      | none =>
        rw [e, e2]
        rw [e2] at hy
        refine run_id ?_ (by simp)
        simp [b__look_table, dc_MOST_LEVELS, dc_MOST_ROWS, dc_MOST_COLUMNS, q1, q, it__look_table_0, qs, hy]
      | some x =>
        rw [e, e2]
        rw [e2] at hy
        refine run_ide ?_ (lookF_cl (e.trans e2))
        simp [b__look_table, dc_MOST_LEVELS, dc_MOST_ROWS, dc_MOST_COLUMNS, q1, q, it__look_table_0, qs, hy]
end K53

/-! Two columns of a table, counted by the program. -/
namespace K53
open PySem MB
theorem cell_get {S : Store} {c : Option Cn} : (S ++ [c])[S.length]? = some c := by simp
theorem cell_set {S : Store} {c d : Option Cn} : (S ++ [c]).set S.length d = S ++ [d] := by
  rw [List.set_append_right _ _ (Nat.le_refl _)]
  simp
theorem ixN_nat {n p : Nat} (h : p < n) : L2.ixN n (p : Int) = some p := by
  unfold L2.ixN
  rw [if_pos (by omega), if_pos (by omega)]
  rfl
theorem atI_int {cs : List Int} {p : Nat} (h : p < cs.length) : L2.atI (cs.map D.int) (p : Int) = some (.int (cs[p]?.getD 0)) := by
  unfold L2.atI
  rw [List.length_map, ixN_nat h]
  show (cs.map D.int)[p]? = _
  rw [List.getElem?_map, List.getElem?_eq_getElem h]
  rfl
theorem mul_small {i j : Int} (h1 : 0 ≤ j) (h2 : j ≤ 1000) : mulOk i j = true := by
  unfold mulOk
  simp only [Bool.or_eq_true, decide_eq_true_eq]
  left; right
  omega
theorem div_small {i j : Int} (h1 : 1 ≤ j) (h2 : j ≤ 1000) : divOk i j = true := by
  unfold divOk
  simp only [Bool.or_eq_true, decide_eq_true_eq]
  left
  omega
def bump (cs : List Int) (p : Nat) : List Int := cs.set p (cs[p]?.getD 0 + 1)
theorem bump_length {cs : List Int} {p : Nat} : (bump cs p).length = cs.length := by simp [bump]
def tally (n : Nat) (ps : List Nat) : List Int := ps.foldl bump (List.replicate n 0)
theorem fold_length : ∀ (ps : List Nat) (cs : List Int), (ps.foldl bump cs).length = cs.length
  | [], _ => rfl
  | p :: ps, cs => by rw [List.foldl_cons, fold_length ps, bump_length]
/-- where a pair is counted -/
def place (lv : Int) (p : Int × Int) : Nat := (p.1 * lv + p.2).toNat
def pairsD (ps : List (Int × Int)) : List D := ps.map fun p => .tup [.int p.1, .int p.2]
theorem zip_pairs : ∀ (xs ys : List Int), zipD (xs.map D.int) (ys.map D.int) = pairsD (xs.zip ys)
  | [], _ => by simp [pairsD]
  | x :: xs, [] => by simp [pairsD]
  | x :: xs, y :: ys => by
    rw [List.map_cons, List.map_cons, zipD_cons, zip_pairs xs ys]
    rfl
def pfE (lv : Int) (l r : D) (n : Nat) (x y u v : Option Sl) (S : Store) : En := ⟨[some (.val (.int lv)), some (.val l), some (.val r), some (.val (.ce n)), x, y, u, v], S⟩
theorem count_loop {lv : Int} {l r : D} {S : Store} (hl : 2 ≤ lv ∧ lv ≤ 20) : ∀ (ps : List (Int × Int)) (cs : List Int) (x y : Option Sl), (∀ p ∈ ps, 0 ≤ p.1 ∧ p.1 < lv ∧ 0 ≤ p.2 ∧ p.2 < lv) → cs.length = (lv * lv).toNat →
    ∃ x' y', loopS (bTp [bNm 4, bNm 5]) g__pair_fault_1 (pairsD ps) (pfE lv l r S.length x y none none (S ++ [some (.lst (cs.map D.int))])) = .nx (pfE lv l r S.length x' y' none none (S ++ [some (.lst (((ps.map (place lv)).foldl bump cs).map D.int))]))
  | [], cs, x, y, _, _ => ⟨x, y, rfl⟩
  | p :: ps, cs, x, y, hp, hc => by
    obtain ⟨h1, h2, h3, h4⟩ := hp p List.mem_cons_self
    have hb1 : 0 ≤ p.1 * lv + p.2 := Int.add_nonneg (Int.mul_nonneg h1 (by omega)) h3
    have hb2 : p.1 * lv + p.2 < lv * lv := by
      have : p.1 * lv ≤ (lv - 1) * lv := Int.mul_le_mul_of_nonneg_right (by omega) (by omega)
      have e : (lv - 1) * lv = lv * lv - lv := by rw [Int.sub_mul, Int.one_mul]
      omega
    have hpl : place lv p < cs.length := by
      unfold place
      omega
    have ep : p.1 * lv + p.2 = ((place lv p : Nat) : Int) := by
      unfold place
      omega
    obtain ⟨x', y', hy⟩ := count_loop (l := l) (r := r) (S := S) hl ps (bump cs (place lv p)) (some (.val (.int p.1))) (some (.val (.int p.2))) (fun q m => hp q (List.mem_cons_of_mem _ m)) (by rw [bump_length]; exact hc)
    refine ⟨x', y', ?_⟩
    rw [List.map_cons, List.foldl_cons, ← hy]
    have em : mulOk p.1 lv = true := mul_small (by omega) (by omega)
    have e1 := atI_int hpl
    have e2 : L2.ixN (cs.map D.int).length ((place lv p : Nat) : Int) = some (place lv p) := ixN_nat (by simpa using hpl)
    have e3 : ((cs.map D.int).set (place lv p) (.int (cs[place lv p]?.getD 0 + 1))) = (bump cs (place lv p)).map D.int := by
      unfold bump
      rw [List.map_set]
    rw [List.length_map] at e2
    simp [pairsD, pfE, g__pair_fault_1, em, ep, e1, e2, e3, cell_set]
/-- the first place whose count is not right -/
def badC (lv : Int) (n : Int) : Nat → List Int → Option (Nat × Int)
  | _, [] => none
  | k, c :: cs => if c * lv * lv = n then badC lv n (k + 1) cs else some (k, c)
theorem bad_loop {lv : Int} {l : List Int} {r w : D} {S : Store} (hl : 2 ≤ lv ∧ lv ≤ 20) : ∀ (cs : List Int) (k : Nat) (x y u v : Option Sl), ∃ u' v',
    loopS (bTp [bNm 6, bNm 7]) g__pair_fault_3 ((cs.map D.int).zipIdx k |>.map fun p => D.tup [.int (p.2 : Nat), p.1]) ⟨[some (.val (.int lv)), some (.val (.lst (l.map D.int))), some (.val r), some (.val w), x, y, u, v], S⟩
      = match badC lv l.length k cs with
        | none => .nx ⟨[some (.val (.int lv)), some (.val (.lst (l.map D.int))), some (.val r), some (.val w), x, y, u', v'], S⟩
        | some (q, c) => .rt (.tup [.int ((q : Int).fdiv lv), .int ((q : Int).fmod lv), .int c]) ⟨[some (.val (.int lv)), some (.val (.lst (l.map D.int))), some (.val r), some (.val w), x, y, u', v'], S⟩
  | [], k, x, y, u, v => ⟨u, v, rfl⟩
  | c :: cs, k, x, y, u, v => by
    have e1 : mulOk c lv = true := mul_small (by omega) (by omega)
    have e2 : mulOk (c * lv) lv = true := mul_small (by omega) (by omega)
    have e3 : divOk (k : Int) lv = true := div_small (by omega) (by omega)
    have e4 : lv ≠ 0 := by omega
    by_cases h : c * lv * lv = (l.length : Int)
    · obtain ⟨u', v', hy⟩ := bad_loop (l := l) (r := r) (w := w) (S := S) hl cs (k + 1) x y (some (.val (.int (k : Nat)))) (some (.val (.int c)))
      refine ⟨u', v', ?_⟩
      have e : badC lv l.length k (c :: cs) = badC lv l.length (k + 1) cs := if_pos h
      rw [e, ← hy]
      simp [g__pair_fault_3, e1, e2, h]
    · refine ⟨some (.val (.int (k : Nat))), some (.val (.int c)), ?_⟩
      have e : badC lv l.length k (c :: cs) = some (k, c) := if_neg h
      rw [e]
      simp [g__pair_fault_3, e1, e2, e3, e4, h]
end K53

/-! Two columns of a table, judged by the program. -/
namespace K53
open PySem MB
def pairF (lv : Int) (ps : List (Int × Int)) : Option (Nat × Int) := badC lv ps.length 0 (tally (lv * lv).toNat (ps.map (place lv)))
def pairFD (lv : Int) : Option (Nat × Int) → D
  | none => .non
  | some (q, c) => .tup [.int ((q : Int).fdiv lv), .int ((q : Int).fmod lv), .int c]
theorem ll_le {lv : Int} (hl : 2 ≤ lv ∧ lv ≤ 20) : 0 ≤ lv * lv ∧ lv * lv ≤ 400 := ⟨Int.mul_nonneg (by omega) (by omega), Int.le_trans (Int.mul_le_mul hl.2 hl.2 (by omega) (by omega)) (by decide)⟩
theorem zeros (n : Nat) : (List.replicate n [D.int 0]).flatten = (List.replicate n (0 : Int)).map D.int := by
  induction n with
  | zero => rfl
  | succ n ih => rw [List.replicate_succ, List.flatten_cons, ih, List.replicate_succ]; rfl
theorem pair_fault_spec {lv : Int} {l r : List Int} {S : Store} (hl : 2 ≤ lv ∧ lv ≤ 20) (hlr : l.length = r.length) (h1 : ∀ x ∈ l, 0 ≤ x ∧ x < lv) (h2 : ∀ x ∈ r, 0 ≤ x ∧ x < lv) :
    m__pair_fault [.int lv, .lst (l.map D.int), .lst (r.map D.int)] S = .ok (pairFD lv (pairF lv (l.zip r))) S := by
  obtain ⟨q1, q2⟩ := ll_le hl
  have hp : ∀ p ∈ l.zip r, 0 ≤ p.1 ∧ p.1 < lv ∧ 0 ≤ p.2 ∧ p.2 < lv := fun p m => by
    obtain ⟨m1, m2⟩ := List.of_mem_zip (show (p.1, p.2) ∈ l.zip r from m)
    exact ⟨(h1 _ m1).1, (h1 _ m1).2, (h2 _ m2).1, (h2 _ m2).2⟩
  obtain ⟨x', y', hc⟩ := count_loop (lv := lv) (l := .lst (l.map D.int)) (r := .lst (r.map D.int)) (S := S) hl (l.zip r) (List.replicate (lv * lv).toNat 0) none none hp (by simp)
  have hlen : (l.zip r).length = l.length := by simp [hlr]
  let cs := tally (lv * lv).toNat ((l.zip r).map (place lv))
  obtain ⟨u', v', hb⟩ := bad_loop (lv := lv) (l := l) (r := .lst (r.map D.int)) (w := .lst (cs.map D.int)) (S := S ++ [none]) hl cs 0 x' y' none none
  have e1 : mulOk lv lv = true := mul_small (by omega) (by omega)
  have e2 : -9223372036854775808 ≤ lv * lv ∧ lv * lv < 9223372036854775808 := by omega
  have e3 : (lv * lv).toNat ≤ 16777216 := by omega
  have ez := zip_pairs l r
  have en : enumD (cs.map D.int) = ((cs.map D.int).zipIdx 0 |>.map fun p => D.tup [.int (p.2 : Nat), p.1]) := rfl
  unfold pfE at hc
  have hc' : loopS (bTp [bNm 4, bNm 5]) g__pair_fault_1 (pairsD (l.zip r)) ⟨[some (.val (.int lv)), some (.val (.lst (l.map D.int))), some (.val (.lst (r.map D.int))), some (.val (.ce S.length)), none, none, none, none], S ++ [some (.lst ((List.replicate (lv * lv).toNat (0 : Int)).map D.int))]⟩ = .nx ⟨[some (.val (.int lv)), some (.val (.lst (l.map D.int))), some (.val (.lst (r.map D.int))), some (.val (.ce S.length)), x', y', none, none], S ++ [some (.lst (cs.map D.int))]⟩ := hc
  rw [← en] at hb
  have hb2 : pairF lv (l.zip r) = badC lv l.length 0 cs := by
    unfold pairF
    rw [hlen]
  rw [hb2]
  cases eb : badC lv l.length 0 cs with
  | none =>
    rw [eb] at hb
    refine run_same (T := [none]) ?_ (by simp [pairFD])
    rw [List.map_replicate] at hc'
    simp [b__pair_fault, e1, e2, e3, it__pair_fault_0, ez, hc', cell_set, it__pair_fault_2, hb, pairFD]
  | some q =>
    obtain ⟨k, c⟩ := q
    rw [eb] at hb
    refine run_same (T := [none]) ?_ (by simp [pairFD])
    rw [List.map_replicate] at hc'
    simp [b__pair_fault, e1, e2, e3, it__pair_fault_0, ez, hc', cell_set, it__pair_fault_2, hb, pairFD]
end K53

/-! The program's fault of a table. -/
namespace K53
open PySem MB
def colI (rows : List (List Int)) (k : Nat) : List Int := rows.map fun r => r[k]?.getD 0
def pairIJ (rows : List (List Int)) (i j : Nat) : List (Int × Int) := rows.map fun r => (r[i]?.getD 0, r[j]?.getD 0)
theorem zip_cols (i j : Nat) : ∀ rows : List (List Int), (colI rows i).zip (colI rows j) = pairIJ rows i j
  | [] => rfl
  | r :: rs => by
    show (_ :: colI rs i).zip (_ :: colI rs j) = _ :: pairIJ rs i j
    rw [List.zip_cons_cons, zip_cols i j rs]
def jF (lv : Int) (rows : List (List Int)) (i : Nat) : List Nat → Option D
  | [] => none
  | j :: js => match pairF lv (pairIJ rows i j) with
    | none => jF lv rows i js
    | some (q, c) => some (.tup [.int (i : Nat), .int (j : Nat), .int ((q : Int).fdiv lv), .int ((q : Int).fmod lv), .int c])
def aft (w i : Nat) : List Nat := (List.range (w - (i + 1))).map fun k => i + 1 + k
def iF (lv : Int) (rows : List (List Int)) (w : Nat) : List Nat → Option D
  | [] => none
  | i :: is => match jF lv rows i (aft w i) with
    | none => iF lv rows w is
    | some d => some d
/-- a table: rows of one length, entries in range -/
structure Tab (lv : Int) (rows : List (List Int)) (w : Nat) : Prop where
  lvs : 2 ≤ lv ∧ lv ≤ 20
  w1 : 1 ≤ w ∧ w ≤ 30
  n1 : 1 ≤ rows.length ∧ rows.length ≤ 200
  len : ∀ r ∈ rows, r.length = w
  ent : ∀ r ∈ rows, ∀ x ∈ r, 0 ≤ x ∧ x < lv
theorem ent_at {lv : Int} {rows : List (List Int)} {w k : Nat} (T : Tab lv rows w) (h : k < w) : ∀ x ∈ colI rows k, 0 ≤ x ∧ x < lv := by
  intro x m
  obtain ⟨r, mr, rfl⟩ := List.mem_map.mp m
  have hk : k < r.length := by rw [T.len r mr]; exact h
  rw [List.getElem?_eq_getElem hk]
  exact T.ent r mr _ (List.getElem_mem hk)
theorem ix_row {t : Bool} {r : List Int} {k : Nat} (h : k < r.length) : ixD (rowD t r) (.int (k : Nat)) = some (.int (r[k]?.getD 0)) := by
  cases t
  · exact atI_int h
  · exact atI_int h
theorem ixS_seq {t : Bool} {ds : List D} {S : Store} {e : D} : ixS S (seqD t ds) e = ixD (seqD t ds) e := by cases t <;> rfl
def tfE (lv : Int) (a c x3 x4 x5 x6 x7 : Option Sl) (S : Store) : En := ⟨[some (.val (.int lv)), a, c, x3, x4, x5, x6, x7], S⟩
theorem col_comp {t : Bool} {lv : Int} {rows : List (List Int)} {w k : Nat} {S : Store} {x : Option Sl} (T : Tab lv rows w) (h : k < w) :
    ce_table_fault_3 ⟨[some (.val (.int lv)), some (.val (tabD t rows)), none, x, some (.val (.int (k : Nat))), none, none, none], S⟩
      = .ok (.lst ((colI rows k).map D.int)) ⟨[some (.val (.int lv)), some (.val (tabD t rows)), none, x, some (.val (.int (k : Nat))), none, none, none], S⟩ := by
  have qs : seqI (tabD t rows) = some (rows.map (rowD t)) := seqI_s _ _
  unfold ce_table_fault_3
  refine (eComp_map (ds := rows.map (rowD t)) (g := fun d => (ixD d (.int (k : Nat))).getD .non) (ρ1 := ⟨[some (.val (.int lv)), some (.val (tabD t rows)), none, x, some (.val (.int (k : Nat))), none, none, none], S⟩) ?_ (by have := T.n1.2; simp; omega) ?_).trans ?_
  · simp [it_table_fault_0, qs]
  · intro d hd
    obtain ⟨r, mr, rfl⟩ := List.mem_map.mp hd
    have hk : k < r.length := by rw [T.len r mr]; exact h
    refine ⟨⟨[some (.val (.int lv)), some (.val (tabD t rows)), none, some (.val (rowD t r)), some (.val (.int (k : Nat))), none, none, none], S⟩, by simp, ⟨[some (.val (.int lv)), some (.val (tabD t rows)), none, some (.val (rowD t r)), some (.val (.int (k : Nat))), none, none, none], S⟩, ?_, by simp⟩
    have e : ixS S (rowD t r) (.int (k : Nat)) = some (.int (r[k]?.getD 0)) := ixS_seq.trans (ix_row hk)
    simp [-ixS_ap, ce_table_fault_1, e, ix_row hk]
  · have e : (rows.map (rowD t)).map (fun d => (ixD d (.int (k : Nat))).getD .non) = (colI rows k).map D.int := by
      unfold colI
      rw [List.map_map, List.map_map]
      refine List.map_congr_left fun r mr => ?_
      have hk : k < r.length := by rw [T.len r mr]; exact h
      show (ixD (rowD t r) (.int (k : Nat))).getD .non = _
      rw [ix_row hk]
      rfl
    rw [e]
    simp
end K53

/-! The program's fault of a table, all pairs of columns. -/
namespace K53
open PySem MB
def colsD (rows : List (List Int)) (w : Nat) : D := .lst ((List.range w).map fun k => .lst ((colI rows k).map D.int))
theorem atI_nat' {l : List D} {k : Nat} : L2.atI l (k : Int) = l[k]? := by
  unfold L2.atI L2.ixN
  rw [if_pos (by omega)]
  by_cases h : ((k : Nat) : Int) < (l.length : Int)
  · rw [if_pos h]
    show l[((k : Nat) : Int).toNat]? = _
    simp
  · rw [if_neg h]
    rw [List.getElem?_eq_none (by omega)]
    rfl
theorem cols_ix {rows : List (List Int)} {w k : Nat} {S : Store} (h : k < w) : ixS S (colsD rows w) (.int (k : Nat)) = some (.lst ((colI rows k).map D.int)) := by
  show L2.atI _ _ = _
  rw [atI_nat', List.getElem?_map, List.getElem?_range h]
  rfl
theorem cols_len {rows : List (List Int)} {w : Nat} {S : Store} : lenS S (colsD rows w) = some (.int (w : Nat)) := by
  show some (D.int _) = _
  simp
theorem range_nat (a n : Nat) : rangeL (a : Nat) n = ((List.range n).map fun k => a + k).map fun j => D.int (j : Nat) := by
  unfold rangeL
  rw [List.map_map]
  refine List.map_congr_left fun k _ => ?_
  simp
theorem big_ok {z : Int} (h1 : -1000000 ≤ z) (h2 : z ≤ 1000000) : big z = true := by
  unfold big
  exact decide_eq_true ⟨by omega, by omega⟩
theorem kR22_ok {ρ : En} {a b : Int} {ds : List D} (h1 : big a = true) (h2 : big b = true) (e : rangeL a (b - a).toNat = ds) : kR22 (.int a) (.int b) ρ = .ok ds ρ := by
  show (if big a = true ∧ big b = true then _ else _) = _
  rw [if_pos ⟨h1, h2⟩, e]
def outT (o : Option D) (ρ : En) : Fl := match o with
  | none => .nx ρ
  | some d => .rt d ρ
section
variable {lv : Int} {rows : List (List Int)} {w : Nat} {S : Store} {a x3 x4 : Option Sl}
def tE (lv : Int) (a : Option Sl) (rows : List (List Int)) (w : Nat) (x3 x4 x5 x6 x7 : Option Sl) (S : Store) : En := ⟨[some (.val (.int lv)), a, some (.val (colsD rows w)), x3, x4, x5, x6, x7], S⟩
theorem j_loop (T : Tab lv rows w) {i : Nat} (hi : i < w) : ∀ (js : List Nat) (x6 x7 : Option Sl), (∀ j ∈ js, j < w) → ∃ y6 y7,
    loopS (bNm 6) g_table_fault_5 (js.map fun j => D.int (j : Nat)) (tE lv a rows w x3 x4 (some (.val (.int (i : Nat)))) x6 x7 S) = outT (jF lv rows i js) (tE lv a rows w x3 x4 (some (.val (.int (i : Nat)))) y6 y7 S)
  | [], x6, x7, _ => ⟨x6, x7, rfl⟩
  | j :: js, x6, x7, hj => by
    have hjw := hj j List.mem_cons_self
    have q := pair_fault_spec (S := S) T.lvs (l := colI rows i) (r := colI rows j) (by simp [colI]) (ent_at T hi) (ent_at T hjw)
    rw [zip_cols] at q
    have c1 := cols_ix (rows := rows) (S := S) hi
    have c2 := cols_ix (rows := rows) (S := S) hjw
    cases e : pairF lv (pairIJ rows i j) with
    | none =>
      rw [e] at q
      obtain ⟨y6, y7, hy⟩ := j_loop T hi js (some (.val (.int (j : Nat)))) (some (.val .non)) fun k m => hj k (List.mem_cons_of_mem _ m)
      refine ⟨y6, y7, ?_⟩
      have ej : jF lv rows i (j :: js) = jF lv rows i js := by
        show (match pairF lv (pairIJ rows i j) with | none => _ | some (q, c) => _) = _
        rw [e]
      rw [ej, ← hy]
      simp [-ixS_ap, g_table_fault_5, tE, c1, c2, q, pairFD, isntD, isNo]
    | some p =>
      obtain ⟨k, c⟩ := p
      rw [e] at q
      refine ⟨some (.val (.int (j : Nat))), some (.val (.tup [.int ((k : Int).fdiv lv), .int ((k : Int).fmod lv), .int c])), ?_⟩
      have ej : jF lv rows i (j :: js) = some (.tup [.int (i : Nat), .int (j : Nat), .int ((k : Int).fdiv lv), .int ((k : Int).fmod lv), .int c]) := by
        show (match pairF lv (pairIJ rows i j) with | none => _ | some (q, c) => _) = _
        rw [e]
      rw [ej]
      simp [-ixS_ap, g_table_fault_5, tE, c1, c2, q, pairFD, isntD, isNo, outT]
theorem it4 {i : Nat} (T : Tab lv rows w) (hiw : i < w) {x6 x7 : Option Sl} : it_table_fault_4 (tE lv a rows w x3 x4 (some (.val (.int (i : Nat)))) x6 x7 S) = .ok ((aft w i).map fun j => D.int (j : Nat)) (tE lv a rows w x3 x4 (some (.val (.int (i : Nat)))) x6 x7 S) := by
  have hw := T.w1
  have cl := cols_len (rows := rows) (w := w) (S := S)
  have er : ∀ z : Int, z = ((i + 1 : Nat) : Int) → rangeL z ((w : Int) - z).toNat = (aft w i).map fun j => D.int (j : Nat) := fun z hz => by
    have e1 : ((w : Int) - z).toNat = w - (i + 1) := by omega
    rw [e1, hz, range_nat]
    rfl
  have kr : ∀ (z : Int) (ρ : En), z = ((i + 1 : Nat) : Int) → kR22 (.int z) (.int (w : Int)) ρ = .ok ((aft w i).map fun j => D.int (j : Nat)) ρ := fun z ρ hz => kR22_ok (big_ok (by omega) (by omega)) (big_ok (by omega) (by omega)) (er z hz)
  have e5 : ∀ ρ : En, eBF false addF (eVar 5) (eC (.int 1)) (tE lv a rows w x3 x4 (some (.val (.int (i : Nat)))) x6 x7 S) = .ok (.int ((i : Int) + 1)) (tE lv a rows w x3 x4 (some (.val (.int (i : Nat)))) x6 x7 S) := fun ρ => by
    generalize ((i : Nat) : Int) = z
    simp [tE]
  have e6 : eLenS (eVar 2) (tE lv a rows w x3 x4 (some (.val (.int (i : Nat)))) x6 x7 S) = .ok (.int (w : Nat)) (tE lv a rows w x3 x4 (some (.val (.int (i : Nat)))) x6 x7 S) := by
    generalize ((i : Nat) : Int) = z
    simp [-lenS_ap, tE, cl]
  unfold it_table_fault_4
  rw [iR2_ap, e5 ⟨[], S⟩, kI1_ok, e6, kI2_ok]
  exact kr _ _ (by omega)
theorem i_step (T : Tab lv rows w) {i : Nat} (hiw : i < w) (x6 x7 : Option Sl) : ∃ y6 y7,
    g_table_fault_7 (tE lv a rows w x3 x4 (some (.val (.int (i : Nat)))) x6 x7 S) = outT (jF lv rows i (aft w i)) (tE lv a rows w x3 x4 (some (.val (.int (i : Nat)))) y6 y7 S) := by
  obtain ⟨y6, y7, hy⟩ := j_loop (S := S) (a := a) (x3 := x3) (x4 := x4) T hiw (aft w i) x6 x7 fun j m => by
    obtain ⟨k, mk, rfl⟩ := List.mem_map.mp m
    have := List.mem_range.mp mk
    omega
  refine ⟨y6, y7, ?_⟩
  unfold g_table_fault_7
  rw [sFor_ap, it4 T hiw, kFor_ok]
  exact hy
theorem i_loop (T : Tab lv rows w) : ∀ (is : List Nat) (x5 x6 x7 : Option Sl), (∀ i ∈ is, i < w) → ∃ y5 y6 y7,
    loopS (bNm 5) g_table_fault_7 (is.map fun j => D.int (j : Nat)) (tE lv a rows w x3 x4 x5 x6 x7 S) = outT (iF lv rows w is) (tE lv a rows w x3 x4 y5 y6 y7 S) := by
  intro is
  induction is with
  | nil => exact fun x5 x6 x7 _ => ⟨x5, x6, x7, rfl⟩
  | cons i is ih =>
    intro x5 x6 x7 hi
    have hiw := hi i List.mem_cons_self
    obtain ⟨y6, y7, hy⟩ := i_step (S := S) (a := a) (x3 := x3) (x4 := x4) T hiw x6 x7
    have e0 : ∀ z : Int, bNm 5 (.int z) (tE lv a rows w x3 x4 x5 x6 x7 S) = some (tE lv a rows w x3 x4 (some (.val (.int z))) x6 x7 S) := fun z => rfl
    cases e : jF lv rows i (aft w i) with
    | none =>
      rw [e] at hy
      obtain ⟨z5, z6, z7, hz⟩ := ih (some (.val (.int (i : Nat)))) y6 y7 fun k m => hi k (List.mem_cons_of_mem _ m)
      refine ⟨z5, z6, z7, ?_⟩
      have ei : iF lv rows w (i :: is) = iF lv rows w is := by
        show (match jF lv rows i (aft w i) with | none => _ | some d => _) = _
        rw [e]
      rw [ei, ← hz, List.map_cons, loopS_cs, e0, kL1_s, hy]
      rfl
    | some d =>
      rw [e] at hy
      refine ⟨some (.val (.int (i : Nat))), y6, y7, ?_⟩
      have ei : iF lv rows w (i :: is) = some d := by
        show (match jF lv rows i (aft w i) with | none => _ | some d => _) = _
        rw [e]
      rw [ei, List.map_cons, loopS_cs, e0, kL1_s, hy]
      rfl
end
end K53

/-! table_fault. -/
namespace K53
open PySem MB
theorem badP_none {lv : Int} : ∀ {r : List Int}, badP lv r = none → ∀ x ∈ r, 0 ≤ x ∧ x < lv
  | [], _, x, m => absurd m List.not_mem_nil
  | z :: r, h, x, m => by
    unfold badP at h
    split at h
    · cases h
    · rename_i hz
      rcases List.mem_cons.mp m with rfl | m
      · omega
      · exact badP_none h x m
theorem rowF_none {lv : Int} : ∀ {rows : List (List Int)} {lo hi : Int}, rowF lv lo hi rows = none → ∀ r ∈ rows, lo ≤ r.length ∧ (r.length : Int) ≤ hi ∧ (∀ x ∈ r, 0 ≤ x ∧ x < lv) ∧ ∀ r0 rs, rows = r0 :: rs → r.length = r0.length
  | [], _, _, _, r, m => absurd m List.not_mem_nil
  | r0 :: rs, lo, hi, h, r, m => by
    unfold rowF at h
    split at h
    · cases h
    · rename_i hl
      cases e : badP lv r0 with
      | some z => rw [e] at h; cases h
      | none =>
        rw [e] at h
        have ih := rowF_none (show rowF lv r0.length r0.length rs = none from h)
        rcases List.mem_cons.mp m with rfl | m
        · exact ⟨by omega, by omega, badP_none e, fun _ _ q => by cases q; rfl⟩
        · obtain ⟨h1, h2, h3, _⟩ := ih r m
          have : r.length = r0.length := by omega
          exact ⟨by omega, by omega, h3, fun _ _ q => by cases q; exact this⟩
theorem tab_of {lv : Int} {rows : List (List Int)} (h : lookF lv rows = none) : ∃ r0 rs, rows = r0 :: rs ∧ Tab lv rows r0.length := by
  unfold lookF at h
  split at h
  · cases h
  · split at h
    · cases h
    · rename_i h1 h2
      cases rows with
      | nil => simp at h2
      | cons r0 rs =>
        have q := rowF_none h
        have q0 := q r0 List.mem_cons_self
        refine ⟨r0, rs, rfl, by omega, by omega, by omega, fun r m => (q r m).2.2.2 r0 rs rfl, fun r m => (q r m).2.2.1⟩
def faultD (o : Option D) : D := o.getD .non
theorem kR1_ok' {ρ : En} {n : Int} {ds : List D} (h : big n = true) (e : rangeL 0 n.toNat = ds) : kR1 (.ok (.int n) ρ) = .ok ds ρ := by
  show (if big n = true then _ else _) = _
  rw [if_pos h, e]
theorem range0 (n : Nat) : rangeL 0 n = (List.range n).map fun j => D.int (j : Nat) := by
  have := range_nat 0 n
  rw [show ((0 : Nat) : Int) = 0 from rfl] at this
  rw [this, List.map_map]
  refine List.map_congr_left fun k _ => ?_
  simp
theorem faultD_cl {n : Nat} {lv : Int} {rows : List (List Int)} {w : Nat} : ∀ is, clD n (faultD (iF lv rows w is)) := by
  have hj : ∀ i js, clD n (faultD (jF lv rows i js)) := by
    intro i js
    induction js with
    | nil => simp [jF, faultD]
    | cons j js ih =>
      unfold jF
      cases pairF lv (pairIJ rows i j) with
      | none => exact ih
      | some p => simp [faultD]
  intro is
  induction is with
  | nil => simp [iF, faultD]
  | cons i is ih =>
    unfold iF
    have := hj i (aft w i)
    cases e : jF lv rows i (aft w i) with
    | none => exact ih
    | some d => rw [e] at this; exact this
theorem table_fault_err {t : Bool} {lv : Int} {rows : List (List Int)} {S : Store} {x : Ex} (h : lookF lv rows = some x) : m_table_fault [.int lv, tabD t rows] S = .err x S := by
  have q := look_table_spec (t := t) (lv := lv) (rows := rows) (S := S)
  rw [h] at q
  refine run_ide ?_ (lookF_cl h)
  simp [b_table_fault, q]
theorem kR1_nat {ρ : En} {w : Nat} (h : w ≤ 1000) : kR1 (.ok (.int (w : Nat)) ρ) = .ok ((List.range w).map fun j => D.int (j : Nat)) ρ := by
  refine kR1_ok' (big_ok (by omega) (by omega)) ?_
  rw [Int.toNat_natCast, range0]
theorem len_e {a x2 x3 x4 x5 x6 x7 : Option Sl} {dt dr dw : D} {S : Store} (hix : ixS S dt (.int 0) = some dr) (hln : lenS S dr = some dw) :
    eLenS (eIxS (eVar 1) (eC (.int 0))) ⟨[a, some (.val dt), x2, x3, x4, x5, x6, x7], S⟩ = .ok dw ⟨[a, some (.val dt), x2, x3, x4, x5, x6, x7], S⟩ := by
  simp [-lenS_ap, -ixS_ap, hix, hln]
theorem len_c {a x1 x3 x4 x5 x6 x7 : Option Sl} {dt dw : D} {S : Store} (hln : lenS S dt = some dw) :
    eLenS (eVar 2) ⟨[a, x1, some (.val dt), x3, x4, x5, x6, x7], S⟩ = .ok dw ⟨[a, x1, some (.val dt), x3, x4, x5, x6, x7], S⟩ := by
  simp [-lenS_ap, hln]
def gC (rows : List (List Int)) : D → D := fun d => match d with | .int k => .lst ((colI rows k.toNat).map D.int) | d => d
theorem gC_int {rows : List (List Int)} {k : Nat} : gC rows (.int (k : Nat)) = .lst ((colI rows k).map D.int) := by
  show D.lst ((colI rows ((k : Nat) : Int).toNat).map D.int) = _
  rw [Int.toNat_natCast]
theorem cols_eq {rows : List (List Int)} {w : Nat} : D.lst (((List.range w).map fun j => D.int (j : Nat)).map (gC rows)) = colsD rows w := by
  unfold colsD
  rw [List.map_map]
  refine congrArg D.lst (List.map_congr_left fun k _ => ?_)
  exact gC_int
theorem hcols_l {t : Bool} {lv : Int} {rows : List (List Int)} {w : Nat} {S : Store} {dr : D} (T : Tab lv rows w) (hw : w ≤ 1000)
    (hix : ixS S (tabD t rows) (.int 0) = some dr) (hln : lenS S dr = some (.int (w : Nat))) :
    eComp it_table_fault_2 (bNm 4) (eC (.bl true)) ce_table_fault_3 [4] ⟨[some (.val (.int lv)), some (.val (tabD t rows)), none, none, none, none, none, none], S⟩
      = .ok (colsD rows w) ⟨[some (.val (.int lv)), some (.val (tabD t rows)), none, none, none, none, none, none], S⟩ := by
  refine (eComp_map (ds := (List.range w).map fun j => D.int (j : Nat)) (g := gC rows) (ρ1 := ⟨[some (.val (.int lv)), some (.val (tabD t rows)), none, none, none, none, none, none], S⟩) ?_ (by rw [List.length_map, List.length_range]; omega) ?_).trans ?_
  · unfold it_table_fault_2
    rw [iR1_ap, len_e hix hln]
    exact kR1_nat hw
  · intro d hd
    obtain ⟨k, mk, rfl⟩ := List.mem_map.mp hd
    have hk := List.mem_range.mp mk
    refine ⟨⟨[some (.val (.int lv)), some (.val (tabD t rows)), none, none, some (.val (.int (k : Nat))), none, none, none], S⟩, rfl, ⟨[some (.val (.int lv)), some (.val (tabD t rows)), none, none, some (.val (.int (k : Nat))), none, none, none], S⟩, ?_, rfl⟩
    rw [gC_int]
    exact col_comp T hk
  · rw [cols_eq]
    rfl
theorem hit_l {lv : Int} {a x3 x4 x5 x6 x7 : Option Sl} {rows : List (List Int)} {w : Nat} {S : Store} (hw : w ≤ 1000) :
    it_table_fault_6 (tE lv a rows w x3 x4 x5 x6 x7 S) = .ok ((List.range w).map fun j => D.int (j : Nat)) (tE lv a rows w x3 x4 x5 x6 x7 S) := by
  unfold it_table_fault_6 tE
  rw [iR1_ap, len_c cols_len]
  exact kR1_nat hw
theorem ix0 {t : Bool} {r0 : List Int} {rs : List (List Int)} {S : Store} : ixS S (tabD t (r0 :: rs)) (.int 0) = some (rowD t r0) := by
  cases t <;> simp [tabD, seqD]
theorem len0 {t : Bool} {r0 : List Int} {w : Nat} {S : Store} (h : r0.length = w) : lenS S (rowD t r0) = some (.int (w : Nat)) := by
  unfold rowD
  rw [len_s, List.length_map, h]
end K53

/-! table_fault itself. -/
namespace K53
open PySem MB
theorem tf1 {a b : D} {x2 x3 x4 x5 x6 x7 : Option Sl} {S : Store} (q : m__look_table [a, b] S = .ok .non S) :
    sEx (eFn m__look_table [eVar 0, eVar 1]) ⟨[some (.val a), some (.val b), x2, x3, x4, x5, x6, x7], S⟩ = .nx ⟨[some (.val a), some (.val b), x2, x3, x4, x5, x6, x7], S⟩ := by
  simp [q]
theorem tf2 {f : EX} {a b x2 x3 x4 x5 x6 x7 : Option Sl} {d : D} {S : Store} (q : f ⟨[a, b, x2, x3, x4, x5, x6, x7], S⟩ = .ok d ⟨[a, b, x2, x3, x4, x5, x6, x7], S⟩) :
    sSet 2 f ⟨[a, b, x2, x3, x4, x5, x6, x7], S⟩ = .nx ⟨[a, b, some (.val d), x3, x4, x5, x6, x7], S⟩ := by
  rw [sSet_ap, q]
  rfl
theorem tf3 {it : IX} {b : BX} {g : SX} {ds : List D} {ρ : En} {o : Fl} (q : it ρ = .ok ds ρ) (h : loopS b g ds ρ = o) : sFor it b g ρ = o := by
  rw [sFor_ap, q]
  exact h
theorem tfS {g h : SX} {ρ ρ1 : En} {o : Fl} (e1 : g ρ = .nx ρ1) (e2 : h ρ1 = o) : sSeq g h ρ = o := by
  rw [sSeq_ap, e1]
  exact e2
theorem tfR {g h : SX} {ρ ρ1 : En} {d : D} (e1 : g ρ = .rt d ρ1) : sSeq g h ρ = .rt d ρ1 := by
  rw [sSeq_ap, e1]
  rfl
theorem table_fault_body {a b dc : D} {o : Option D} {ds : List D} {S : Store} {y5 y6 y7 : Option Sl} (q : m__look_table [a, b] S = .ok .non S)
    (hcols : eComp it_table_fault_2 (bNm 4) (eC (.bl true)) ce_table_fault_3 [4] ⟨[some (.val a), some (.val b), none, none, none, none, none, none], S⟩ = .ok dc ⟨[some (.val a), some (.val b), none, none, none, none, none, none], S⟩)
    (hit : it_table_fault_6 ⟨[some (.val a), some (.val b), some (.val dc), none, none, none, none, none], S⟩ = .ok ds ⟨[some (.val a), some (.val b), some (.val dc), none, none, none, none, none], S⟩)
    (hy : loopS (bNm 5) g_table_fault_7 ds ⟨[some (.val a), some (.val b), some (.val dc), none, none, none, none, none], S⟩ = outT o ⟨[some (.val a), some (.val b), some (.val dc), none, none, y5, y6, y7], S⟩) :
    runS b_table_fault 8 [a, b] S = .ok (faultD o) S := by
  show endR (b_table_fault ⟨[some (.val a), some (.val b), none, none, none, none, none, none], S⟩) = _
  unfold b_table_fault
  rw [tfS (tf1 q) (tfS (tf2 hcols) rfl)]
  cases o with
  | none =>
    rw [tfS (tf3 hit hy) rfl]
    rfl
  | some d =>
    rw [tfR (tf3 hit hy)]
    rfl
theorem table_fault_spec {t : Bool} {lv : Int} {rows rs : List (List Int)} {r0 : List Int} {S : Store} (h : lookF lv rows = none) (e0 : rows = r0 :: rs) (T : Tab lv rows r0.length) :
    m_table_fault [.int lv, tabD t rows] S = .ok (faultD (iF lv rows r0.length (List.range r0.length))) S := by
  have q := look_table_spec (t := t) (lv := lv) (rows := rows) (S := S)
  rw [h] at q
  have hw : r0.length ≤ 1000 := by have := T.w1; omega
  have hcols := hcols_l (S := S) (t := t) T hw (by rw [e0]; exact ix0) (len0 rfl)
  generalize r0.length = w at T hw hcols
  obtain ⟨y5, y6, y7, hy⟩ := i_loop (S := S) (a := some (.val (tabD t rows))) (x3 := none) (x4 := none) T (List.range w) none none none fun i m => List.mem_range.mp m
  have hit := hit_l (S := S) (lv := lv) (a := some (.val (tabD t rows))) (rows := rows) (x3 := none) (x4 := none) (x5 := none) (x6 := none) (x7 := none) hw
  exact run_id (table_fault_body q hcols hit hy) (faultD_cl _)
end K53

/-! _law_told. -/
namespace K53
open PySem MB
theorem told_N {a b : D} {n : Int} {S : Store} (h : m_table_fault [a, b] S = .err (xN n) S) : m__law_told [a, b] S = .ok (.tup [.str "number", .int n, .bl true]) S := by
  refine run_id ?_ (by simp)
  simp [b__law_told, tb__law_told_0, hd__law_told_1, h, xN, isX, isXT, xs, ist_0, ist_1, ist_2, xf_number, List.lookup_cons, noExc]
theorem told_S {a b : D} {n : Int} {S : Store} (h : m_table_fault [a, b] S = .err (xS n) S) : m__law_told [a, b] S = .ok (.tup [.str "size", .int n, .bl true]) S := by
  refine run_id ?_ (by simp)
  simp [b__law_told, tb__law_told_0, hd__law_told_2, h, xS, isX, isXT, xs, ist_0, ist_1, ist_2, xf_count, List.lookup_cons, noExc]
theorem told_P {a b : D} {n : Int} {S : Store} (h : m_table_fault [a, b] S = .err (xP n) S) : m__law_told [a, b] S = .ok (.tup [.str "place", .int n, .bl true]) S := by
  refine run_id ?_ (by simp)
  simp [b__law_told, tb__law_told_0, hd__law_told_3, h, xP, isX, isXT, xs, ist_0, ist_1, ist_2, xf_place, List.lookup_cons, noExc]
theorem told_ok {a b d : D} {S : Store} (h : m_table_fault [a, b] S = .ok d S) (c : clD S.length d) : m__law_told [a, b] S = .ok (.tup [.str "told", d]) S := by
  refine run_id ?_ (by simpa using c)
  simp [b__law_told, tb__law_told_0, h]
end K53

/-! _law_refusal: its loops. -/
namespace K53
open PySem MB
def ansN (n : Int) : D := .tup [.str "number", .int n, .bl true]
def ansS (n : Int) : D := .tup [.str "size", .int n, .bl true]
def ansP (n : Int) : D := .tup [.str "place", .int n, .bl true]
def outQ (o : Option D) (ρ : En) : Fl := match o with
  | none => .nx ρ
  | some d => .rt d ρ
theorem ref_x {lv : Int} {a1 a2 a3 : Option Sl} {S : Store} : ∀ (r : List Int) (x : Option Sl), ∃ y,
    loopS (bNm 4) g__law_refusal_1 (r.map D.int) ⟨[some (.val (.int lv)), a1, a2, a3, x], S⟩ = outQ ((badP lv r).map ansP) ⟨[some (.val (.int lv)), a1, a2, a3, y], S⟩
  | [], x => ⟨x, rfl⟩
  | z :: r, x => by
    by_cases h : z < 0 ∨ lv ≤ z
    · refine ⟨some (.val (.int z)), ?_⟩
      have e : badP lv (z :: r) = some z := if_pos h
      rw [e]
      by_cases h1 : z < 0
      · simp [g__law_refusal_1, h1, outQ, ansP]
      · have h2 : lv ≤ z := by omega
        simp [g__law_refusal_1, h1, h2, outQ, ansP]
    · have e : badP lv (z :: r) = badP lv r := if_neg h
      obtain ⟨y, hy⟩ := ref_x (a1 := a1) (a2 := a2) (a3 := a3) r (some (.val (.int z)))
      refine ⟨y, ?_⟩
      rw [e, ← hy]
      have h1 : ¬ z < 0 := by omega
      have h2 : ¬ lv ≤ z := by omega
      simp [g__law_refusal_1, h1, h2]
/-- what the law's own test says of the rows, at a given width -/
def rowR (lv w : Int) : List (List Int) → Option D
  | [] => none
  | r :: rs => if (r.length : Int) ≠ w ∨ w < 1 ∨ 30 < w then some (ansS r.length) else match badP lv r with
    | some x => some (ansP x)
    | none => rowR lv w rs
end K53

/-! _law_refusal: the loop over the rows. -/
namespace K53
open PySem MB
theorem ref_if {lv w n : Int} {dr : D} {a1 x4 : Option Sl} {g : SX} {S : Store} (ql : lenS S dr = some (.int n)) (h : n ≠ w ∨ w < 1 ∨ 30 < w) :
    sSeq (sIf (eOr (eB neD (eLenS (eVar 3)) (eVar 2)) (eOr (eB ltD (eVar 2) (eC (.int 1))) (eB gtD (eVar 2) (eC (.int 30)))))
      (sRet (eTup [(eC (.str "size")), (eLenS (eVar 3)), (eC (.bl true))])) sNil) g ⟨[some (.val (.int lv)), a1, some (.val (.int w)), some (.val dr), x4], S⟩
      = .rt (ansS n) ⟨[some (.val (.int lv)), a1, some (.val (.int w)), some (.val dr), x4], S⟩ := by
  by_cases h1 : n = w
  · by_cases h2 : w < 1
    · simp [-lenS_ap, ql, h1, h2, ansS]
    · have h3 : 30 < w := by omega
      simp [-lenS_ap, ql, h1, h2, h3, ansS]
  · simp [-lenS_ap, ql, h1, ansS]
theorem ref_else {lv w : Int} {dr : D} {a1 x4 : Option Sl} {g : SX} {S : Store} (ql : lenS S dr = some (.int w)) (h1 : ¬ w < 1) (h2 : ¬ 30 < w) :
    sSeq (sIf (eOr (eB neD (eLenS (eVar 3)) (eVar 2)) (eOr (eB ltD (eVar 2) (eC (.int 1))) (eB gtD (eVar 2) (eC (.int 30)))))
      (sRet (eTup [(eC (.str "size")), (eLenS (eVar 3)), (eC (.bl true))])) sNil) g ⟨[some (.val (.int lv)), a1, some (.val (.int w)), some (.val dr), x4], S⟩
      = g ⟨[some (.val (.int lv)), a1, some (.val (.int w)), some (.val dr), x4], S⟩ := by
  simp [-lenS_ap, ql, h1, h2]
theorem len_row {t : Bool} {r : List Int} {S : Store} : lenS S (rowD t r) = some (.int (r.length : Nat)) := by
  unfold rowD
  rw [len_s, List.length_map]
theorem ref_rows {t : Bool} {lv w : Int} {a1 : Option Sl} {S : Store} : ∀ (rows : List (List Int)) (x3 x4 : Option Sl), ∃ y3 y4,
    loopS (bNm 3) g__law_refusal_3 (rows.map (rowD t)) ⟨[some (.val (.int lv)), a1, some (.val (.int w)), x3, x4], S⟩ = outQ (rowR lv w rows) ⟨[some (.val (.int lv)), a1, some (.val (.int w)), y3, y4], S⟩
  | [], x3, x4 => ⟨x3, x4, rfl⟩
  | r :: rs, x3, x4 => by
    have ql := len_row (t := t) (r := r) (S := S)
    have qs : seqI (rowD t r) = some (r.map D.int) := seqI_s _ _
    by_cases h : (r.length : Int) ≠ w ∨ w < 1 ∨ 30 < w
    · have e : rowR lv w (r :: rs) = some (ansS r.length) := if_pos h
      refine ⟨some (.val (rowD t r)), x4, ?_⟩
      rw [e, List.map_cons, loopS_cs]
      show kL1 _ _ _ (some ⟨[some (.val (.int lv)), a1, some (.val (.int w)), some (.val (rowD t r)), x4], S⟩) = _
      show kL2 _ _ _ (g__law_refusal_3 ⟨[some (.val (.int lv)), a1, some (.val (.int w)), some (.val (rowD t r)), x4], S⟩) = _
      unfold g__law_refusal_3
      rw [ref_if ql h]
      rfl
    · have e : rowR lv w (r :: rs) = match badP lv r with
        | some x => some (ansP x)
        | none => rowR lv w rs := if_neg h
      have hw : (r.length : Int) = w := by omega
      obtain ⟨y, hy⟩ := ref_x (lv := lv) (a1 := a1) (a2 := some (.val (.int w))) (a3 := some (.val (rowD t r))) (S := S) r x4
      have hg : g__law_refusal_3 ⟨[some (.val (.int lv)), a1, some (.val (.int w)), some (.val (rowD t r)), x4], S⟩ = outQ ((badP lv r).map ansP) ⟨[some (.val (.int lv)), a1, some (.val (.int w)), some (.val (rowD t r)), y], S⟩ := by
        unfold g__law_refusal_3
        rw [ref_else (by rw [ql, hw]) (by omega) (by omega), ← hy, sFor_ap]
        unfold it__law_refusal_0
        simp [qs]
      cases eb : badP lv r with
      | some z =>
        rw [eb] at e hg
        refine ⟨some (.val (rowD t r)), y, ?_⟩
        rw [e, List.map_cons, loopS_cs]
        show kL2 _ _ _ (g__law_refusal_3 ⟨[some (.val (.int lv)), a1, some (.val (.int w)), some (.val (rowD t r)), x4], S⟩) = _
        rw [hg]
        rfl
      | none =>
        rw [eb] at e hg
        obtain ⟨y3, y4, hy2⟩ := ref_rows (t := t) (lv := lv) (w := w) (a1 := a1) (S := S) rs (some (.val (rowD t r))) y
        refine ⟨y3, y4, ?_⟩
        rw [e, ← hy2, List.map_cons, loopS_cs]
        show kL2 _ _ _ (g__law_refusal_3 ⟨[some (.val (.int lv)), a1, some (.val (.int w)), some (.val (rowD t r)), x4], S⟩) = _
        rw [hg]
        rfl
end K53

/-! What table_fault raises and what _law_refusal answers go together. -/
namespace K53
open PySem MB
inductive Ans : Ex → D → Prop
  | n (k : Int) : Ans (xN k) (ansN k)
  | s (k : Int) : Ans (xS k) (ansS k)
  | p (k : Int) : Ans (xP k) (ansP k)
def Rel : Option Ex → Option D → Prop
  | none, none => True
  | some x, some d => Ans x d
  | _, _ => False
theorem rel_tail {lv w : Int} (h1 : 1 ≤ w) (h2 : w ≤ 30) : ∀ rows : List (List Int), Rel (rowF lv w w rows) (rowR lv w rows)
  | [] => trivial
  | r :: rs => by
    by_cases h : (r.length : Int) = w
    · have e : rowF lv w w (r :: rs) = match badP lv r with
        | some x => some (xP x)
        | none => rowF lv r.length r.length rs := if_neg (by omega)
      have e2 : rowR lv w (r :: rs) = match badP lv r with
        | some x => some (ansP x)
        | none => rowR lv w rs := if_neg (by omega)
      rw [e, e2, h]
      cases badP lv r with
      | some z => exact .p z
      | none => exact rel_tail h1 h2 rs
    · have e : rowF lv w w (r :: rs) = some (xS r.length) := if_pos (by omega)
      have e2 : rowR lv w (r :: rs) = some (ansS r.length) := if_pos (.inl h)
      rw [e, e2]
      exact .s _
theorem rel_head {lv : Int} (r : List Int) (rs : List (List Int)) : Rel (rowF lv 1 30 (r :: rs)) (rowR lv r.length (r :: rs)) := by
  by_cases h : (r.length : Int) < 1 ∨ 30 < (r.length : Int)
  · have e : rowF lv 1 30 (r :: rs) = some (xS r.length) := if_pos h
    have e2 : rowR lv r.length (r :: rs) = some (ansS r.length) := if_pos (.inr h)
    rw [e, e2]
    exact .s _
  · have e : rowF lv 1 30 (r :: rs) = match badP lv r with
      | some x => some (xP x)
      | none => rowF lv r.length r.length rs := if_neg h
    have e2 : rowR lv r.length (r :: rs) = match badP lv r with
      | some x => some (ansP x)
      | none => rowR lv r.length rs := if_neg (by omega)
    rw [e, e2]
    cases badP lv r with
    | some z => exact .p z
    | none => exact rel_tail (by omega) (by omega) rs
/-- the refusals, all in one: none where the rows are well laid -/
def refD (lv : Int) (rows : List (List Int)) : Option D :=
  if lv < 2 ∨ 20 < lv then some (ansN lv) else if (rows.length : Int) < 1 ∨ 200 < (rows.length : Int) then some (ansS rows.length) else rowR lv ((rows.head?.getD []).length) rows
theorem rel_all {lv : Int} (rows : List (List Int)) : Rel (lookF lv rows) (refD lv rows) := by
  unfold lookF refD
  by_cases h1 : lv < 2 ∨ 20 < lv
  · rw [if_pos h1, if_pos h1]
    exact .n _
  · rw [if_neg h1, if_neg h1]
    by_cases h2 : (rows.length : Int) < 1 ∨ 200 < (rows.length : Int)
    · rw [if_pos h2, if_pos h2]
      exact .s _
    · rw [if_neg h2, if_neg h2]
      cases rows with
      | nil => simp at h2
      | cons r rs => exact rel_head r rs
end K53

/-! _law_told and _law_refusal of a table of ints. -/
namespace K53
open PySem MB
def widthD (rows : List (List Int)) : Nat := (rows.head?.getD []).length
def tellD (lv : Int) (rows : List (List Int)) : D := match refD lv rows with
  | some d => d
  | none => .tup [.str "told", faultD (iF lv rows (widthD rows) (List.range (widthD rows)))]
theorem look_none {lv : Int} {rows : List (List Int)} (h : refD lv rows = none) : lookF lv rows = none := by
  have r := rel_all (lv := lv) rows
  rw [h] at r
  cases e : lookF lv rows with
  | none => rfl
  | some x => rw [e] at r; exact r.elim
theorem told_spec {t : Bool} {lv : Int} {rows : List (List Int)} {S : Store} : m__law_told [.int lv, tabD t rows] S = .ok (tellD lv rows) S := by
  have r := rel_all (lv := lv) rows
  unfold tellD
  cases e : refD lv rows with
  | none =>
    have hl := look_none e
    obtain ⟨r0, rs, e0, T⟩ := tab_of hl
    have q := table_fault_spec (t := t) (S := S) hl e0 T
    have hw : widthD rows = r0.length := by rw [e0]; rfl
    rw [hw]
    exact told_ok q (faultD_cl _)
  | some d =>
    cases el : lookF lv rows with
    | none => rw [e, el] at r; exact r.elim
    | some x =>
      rw [e, el] at r
      have q := table_fault_err (t := t) (S := S) el
      cases r with
      | n k => exact told_N q
      | s k => exact told_S q
      | p k => exact told_P q
end K53

/-! _law_refusal of a table of ints, given _law_fault. -/
namespace K53
open PySem MB
theorem if2_t {lv : Int} {g : SX} {a x2 x3 x4 : Option Sl} {S : Store} (c : lv < 2 ∨ 20 < lv) :
    sSeq (sIf (eOr (eB ltD (eVar 0) (eC (.int 2))) (eB gtD (eVar 0) (eC (.int 20)))) (sRet (eTup [(eC (.str "number")), (eVar 0), (eC (.bl true))])) sNil) g
      ⟨[some (.val (.int lv)), a, x2, x3, x4], S⟩ = .rt (ansN lv) ⟨[some (.val (.int lv)), a, x2, x3, x4], S⟩ := by
  by_cases h1 : lv < 2
  · simp [h1, ansN]
  · have h2 : 20 < lv := by omega
    simp [h1, h2, ansN]
theorem if2_f {lv : Int} {g h : SX} {a x2 x3 x4 : Option Sl} {S : Store} (h1 : ¬ lv < 2) (h2 : ¬ 20 < lv) :
    sSeq (sIf (eOr (eB ltD (eVar 0) (eC (.int 2))) (eB gtD (eVar 0) (eC (.int 20)))) h sNil) g
      ⟨[some (.val (.int lv)), a, x2, x3, x4], S⟩ = g ⟨[some (.val (.int lv)), a, x2, x3, x4], S⟩ := by
  simp [h1, h2]
theorem if3_t {n : Int} {g : SX} {dt : D} {a x2 x3 x4 : Option Sl} {S : Store} (q : lenS S dt = some (.int n)) (c : n < 1 ∨ 200 < n) :
    sSeq (sIf (eOr (eB ltD (eLenS (eVar 1)) (eC (.int 1))) (eB gtD (eLenS (eVar 1)) (eC (.int 200)))) (sRet (eTup [(eC (.str "size")), (eLenS (eVar 1)), (eC (.bl true))])) sNil) g
      ⟨[a, some (.val dt), x2, x3, x4], S⟩ = .rt (ansS n) ⟨[a, some (.val dt), x2, x3, x4], S⟩ := by
  by_cases h1 : n < 1
  · simp [-lenS_ap, q, h1, ansS]
  · have h2 : 200 < n := by omega
    simp [-lenS_ap, q, h1, h2, ansS]
theorem if3_f {n : Int} {g h : SX} {dt : D} {a x2 x3 x4 : Option Sl} {S : Store} (q : lenS S dt = some (.int n)) (h1 : ¬ n < 1) (h2 : ¬ 200 < n) :
    sSeq (sIf (eOr (eB ltD (eLenS (eVar 1)) (eC (.int 1))) (eB gtD (eLenS (eVar 1)) (eC (.int 200)))) h sNil) g
      ⟨[a, some (.val dt), x2, x3, x4], S⟩ = g ⟨[a, some (.val dt), x2, x3, x4], S⟩ := by
  simp [-lenS_ap, q, h1, h2]
theorem setw {dt dr dw : D} {a x2 x3 x4 : Option Sl} {S : Store} (hix : ixS S dt (.int 0) = some dr) (hln : lenS S dr = some dw) :
    sSet 2 (eLenS (eIxS (eVar 1) (eC (.int 0)))) ⟨[a, some (.val dt), x2, x3, x4], S⟩ = .nx ⟨[a, some (.val dt), some (.val dw), x3, x4], S⟩ := by
  simp [-lenS_ap, -ixS_ap, hix, hln]
theorem ret_f {f : Fn} {a b d : D} {x2 x3 x4 : Option Sl} {S : Store} (q : f [a, b] S = .ok d S) :
    sRet (eTup [(eC (.str "told")), (eFn f [(eVar 0), (eVar 1)])]) ⟨[some (.val a), some (.val b), x2, x3, x4], S⟩ = .rt (.tup [.str "told", d]) ⟨[some (.val a), some (.val b), x2, x3, x4], S⟩ := by
  simp [q]
theorem tab_len {t : Bool} {rows : List (List Int)} {S : Store} : lenS S (tabD t rows) = some (.int (rows.length : Nat)) := by
  unfold tabD
  rw [len_s, List.length_map]
theorem if_cl {n : Nat} {x : Int} : clD n (ansN x) ∧ clD n (ansS x) ∧ clD n (ansP x) := by simp [ansN, ansS, ansP]
end K53

/-! _law_refusal of a table of ints, given _law_fault: the whole. -/
namespace K53
open PySem MB
theorem rowR_cl {n : Nat} {lv w : Int} {d : D} : ∀ {rows : List (List Int)}, rowR lv w rows = some d → clD n d
  | [], h => by cases h
  | r :: rs, h => by
    unfold rowR at h
    split at h
    · cases h; exact if_cl.2.1
    · cases e : badP lv r with
      | some z => rw [e] at h; cases h; exact if_cl.2.2
      | none => rw [e] at h; exact rowR_cl h
/-- what is asked of _law_fault -/
def FaultOk (t : Bool) (lv : Int) (rows : List (List Int)) (S : Store) : Prop :=
  lookF lv rows = none → m__law_fault [.int lv, tabD t rows] S = .ok (faultD (iF lv rows (widthD rows) (List.range (widthD rows)))) S
theorem refusal_spec {t : Bool} {lv : Int} {rows : List (List Int)} {S : Store} (HF : FaultOk t lv rows S) : m__law_refusal [.int lv, tabD t rows] S = .ok (tellD lv rows) S := by
  have go : ∀ d, clD S.length d → (∃ sl, b__law_refusal ⟨[some (.val (.int lv)), some (.val (tabD t rows)), none, none, none], S⟩ = .rt d ⟨sl, S⟩) → m__law_refusal [.int lv, tabD t rows] S = .ok d S := by
    intro d c ⟨sl, h⟩
    refine run_id ?_ c
    show endR (b__law_refusal ⟨[some (.val (.int lv)), some (.val (tabD t rows)), none, none, none], S⟩) = _
    rw [h]
    rfl
  unfold tellD
  by_cases h1 : lv < 2 ∨ 20 < lv
  · rw [show refD lv rows = some (ansN lv) from if_pos h1]
    refine go _ if_cl.1 ?_
    unfold b__law_refusal
    exact ⟨_, if2_t h1⟩
  · have e1 : refD lv rows = if (rows.length : Int) < 1 ∨ 200 < (rows.length : Int) then some (ansS rows.length) else rowR lv ((rows.head?.getD []).length) rows := if_neg h1
    have ql := tab_len (t := t) (rows := rows) (S := S)
    by_cases h2 : (rows.length : Int) < 1 ∨ 200 < (rows.length : Int)
    · rw [show refD lv rows = some (ansS rows.length) from e1.trans (if_pos h2)]
      refine go _ if_cl.2.1 ?_
      unfold b__law_refusal
      rw [if2_f (by omega) (by omega)]
      exact ⟨_, if3_t ql h2⟩
    · rw [if_neg h2] at e1
      have hne : ∃ r0 rs, rows = r0 :: rs := by
        cases rows with
        | nil => simp at h2
        | cons r rs => exact ⟨r, rs, rfl⟩
      obtain ⟨r0, rs, e0⟩ := hne
      have hw : (rows.head?.getD []).length = r0.length := by rw [e0]; rfl
      rw [hw] at e1
      obtain ⟨y3, y4, hl⟩ := ref_rows (t := t) (lv := lv) (w := (r0.length : Nat)) (a1 := some (.val (tabD t rows))) (S := S) rows none none
      have hs := setw (a := some (.val (.int lv))) (x2 := none) (x3 := none) (x4 := none) (S := S) (dt := tabD t rows) (dr := rowD t r0) (by rw [e0]; exact ix0) (len_row (t := t) (r := r0) (S := S))
      have hit : it__law_refusal_2 ⟨[some (.val (.int lv)), some (.val (tabD t rows)), some (.val (.int (r0.length : Nat))), none, none], S⟩
          = .ok (rows.map (rowD t)) ⟨[some (.val (.int lv)), some (.val (tabD t rows)), some (.val (.int (r0.length : Nat))), none, none], S⟩ := by
        have qs : seqI (tabD t rows) = some (rows.map (rowD t)) := seqI_s _ _
        generalize ((r0.length : Nat) : Int) = z
        unfold it__law_refusal_2
        simp [qs]
      cases e : refD lv rows with
      | some d =>
        rw [e] at e1
        rw [← e1] at hl
        refine go _ (rowR_cl e1.symm) ?_
        · unfold b__law_refusal
          rw [if2_f (by omega) (by omega), if3_f ql (by omega) (by omega), tfS hs rfl]
          exact ⟨_, tfR (tf3 hit hl)⟩
      | none =>
        rw [e] at e1
        rw [← e1] at hl
        have q := HF (look_none e)
        refine go _ (by simpa using faultD_cl (n := S.length) _) ?_
        · unfold b__law_refusal
          rw [if2_f (by omega) (by omega), if3_f ql (by omega) (by omega), tfS hs rfl, tfS (tf3 hit hl) rfl]
          exact ⟨_, ret_f q⟩
end K53

/-! _law_fault: one step of its count. -/
namespace K53
open PySem MB
theorem cs1 {lv a b : Int} {dr di dj : D} {x1 x2 x5 x7 : Option Sl} {S : Store} (hi : ixS S dr di = some (.int a)) (hj : ixS S dr dj = some (.int b)) (em : mulOk a lv = true) :
    sSet 7 (eBF false addF (eBF false mulF (eIxS (eVar 6) (eVar 3)) (eVar 0)) (eIxS (eVar 6) (eVar 4)))
      ⟨[some (.val (.int lv)), x1, x2, some (.val di), some (.val dj), x5, some (.val dr), x7], S⟩
      = .nx ⟨[some (.val (.int lv)), x1, x2, some (.val di), some (.val dj), x5, some (.val dr), some (.val (.int (a * lv + b)))], S⟩ := by
  simp [-ixS_ap, hi, hj, em]
theorem cs2 {z c : Int} {p : Nat} {cs : List Int} {ds : List D} {x0 x1 x2 x3 x4 x6 : Option Sl} {S : Store} (e1 : L2.atI (cs.map D.int) z = some (.int c)) (e2 : L2.ixN cs.length z = some p) (e3 : (cs.map D.int).set p (.int (c + 1)) = ds) :
    sPutS (eVar 5) (eVar 7) (eBF false addF (eIxS (eVar 5) (eVar 7)) (eC (.int 1)))
      ⟨[x0, x1, x2, x3, x4, some (.val (.ce S.length)), x6, some (.val (.int z))], S ++ [some (.lst (cs.map D.int))]⟩
      = .nx ⟨[x0, x1, x2, x3, x4, some (.val (.ce S.length)), x6, some (.val (.int z))], S ++ [some (.lst ds)]⟩ := by
  simp [e1, e2, e3, cell_set]
end K53

/-! _law_fault: its count. -/
namespace K53
open PySem MB
def cE (lv : Int) (x1 x2 : Option Sl) (i j n : Nat) (y z : Option Sl) (S : Store) : En := ⟨[some (.val (.int lv)), x1, x2, some (.val (.int (i : Nat))), some (.val (.int (j : Nat))), some (.val (.ce n)), y, z], S⟩
theorem law_count {t : Bool} {lv : Int} {x1 x2 : Option Sl} {i j w : Nat} {S : Store} (hl : 2 ≤ lv ∧ lv ≤ 20) (hi : i < w) (hj : j < w) : ∀ (rows : List (List Int)) (cs : List Int) (y z : Option Sl),
    (∀ r ∈ rows, r.length = w) → (∀ r ∈ rows, ∀ x ∈ r, 0 ≤ x ∧ x < lv) → cs.length = (lv * lv).toNat →
    ∃ y' z', loopS (bNm 6) g__law_fault_1 (rows.map (rowD t)) (cE lv x1 x2 i j S.length y z (S ++ [some (.lst (cs.map D.int))]))
      = .nx (cE lv x1 x2 i j S.length y' z' (S ++ [some (.lst ((((pairIJ rows i j).map (place lv)).foldl bump cs).map D.int))]))
  | [], cs, y, z, _, _, _ => ⟨y, z, rfl⟩
  | r :: rs, cs, y, z, hw, he, hc => by
    have hr := hw r List.mem_cons_self
    have hi' : i < r.length := by omega
    have hj' : j < r.length := by omega
    have ei : ixS (S ++ [some (.lst (cs.map D.int))]) (rowD t r) (.int (i : Nat)) = some (.int (r[i]?.getD 0)) := ixS_seq.trans (ix_row hi')
    have ej : ixS (S ++ [some (.lst (cs.map D.int))]) (rowD t r) (.int (j : Nat)) = some (.int (r[j]?.getD 0)) := ixS_seq.trans (ix_row hj')
    have ma : r[i]?.getD 0 ∈ r := by rw [List.getElem?_eq_getElem hi']; exact List.getElem_mem hi'
    have mb : r[j]?.getD 0 ∈ r := by rw [List.getElem?_eq_getElem hj']; exact List.getElem_mem hj'
    have pa := he r List.mem_cons_self _ ma
    have pb := he r List.mem_cons_self _ mb
    have hp : pairIJ (r :: rs) i j = (r[i]?.getD 0, r[j]?.getD 0) :: pairIJ rs i j := rfl
    rw [hp]
    generalize r[i]?.getD 0 = a at ei pa
    generalize r[j]?.getD 0 = b at ej pb
    have hb1 : 0 ≤ a * lv + b := Int.add_nonneg (Int.mul_nonneg pa.1 (by omega)) pb.1
    have hb2 : a * lv + b < lv * lv := by
      have : a * lv ≤ (lv - 1) * lv := Int.mul_le_mul_of_nonneg_right (by omega) (by omega)
      have e : (lv - 1) * lv = lv * lv - lv := by rw [Int.sub_mul, Int.one_mul]
      omega
    have hpl : place lv (a, b) < cs.length := by
      show (a * lv + b).toNat < _
      omega
    have ep : ((place lv (a, b) : Nat) : Int) = a * lv + b := by
      show (((a * lv + b).toNat : Nat) : Int) = _
      omega
    have em : mulOk a lv = true := mul_small (by omega) (by omega)
    have q1 := atI_int hpl
    have q2 : L2.ixN cs.length ((place lv (a, b) : Nat) : Int) = some (place lv (a, b)) := ixN_nat hpl
    rw [ep] at q1 q2
    have s1 := cs1 (x1 := x1) (x2 := x2) (x5 := some (.val (.ce S.length))) (x7 := z) ei ej em
    have q3 : (cs.map D.int).set (place lv (a, b)) (.int (cs[place lv (a, b)]?.getD 0 + 1)) = (bump cs (place lv (a, b))).map D.int := by
      unfold bump
      rw [List.map_set]
    have s2 := cs2 (x0 := some (.val (.int lv))) (x1 := x1) (x2 := x2) (x3 := some (.val (.int (i : Nat)))) (x4 := some (.val (.int (j : Nat)))) (x6 := some (.val (rowD t r))) (S := S) q1 q2 q3
    obtain ⟨y', z', hy⟩ := law_count (t := t) (x1 := x1) (x2 := x2) (S := S) hl hi hj rs (bump cs (place lv (a, b))) (some (.val (rowD t r))) (some (.val (.int (a * lv + b)))) (fun q m => hw q (List.mem_cons_of_mem _ m)) (fun q m => he q (List.mem_cons_of_mem _ m)) (by rw [bump_length]; exact hc)
    refine ⟨y', z', ?_⟩
    rw [List.map_cons, List.map_cons, List.foldl_cons, ← hy, loopS_cs]
    show kL2 _ _ _ (g__law_fault_1 ⟨[some (.val (.int lv)), x1, x2, some (.val (.int (i : Nat))), some (.val (.int (j : Nat))), some (.val (.ce S.length)), some (.val (rowD t r)), z], S ++ [some (.lst (cs.map D.int))]⟩) = _
    unfold g__law_fault_1
    rw [tfS s1 s2]
    rfl
end K53

/-! _law_fault: one look at a count. -/
namespace K53
open PySem MB
theorem lk_ok {lv z c n : Int} {cs : List Int} {dt di dj : D} {x2 x6 : Option Sl} {S : Store} (hn : lenS (S ++ [some (.lst (cs.map D.int))]) dt = some (.int n)) (e1 : L2.atI (cs.map D.int) z = some (.int c))
    (m1 : mulOk c lv = true) (m2 : mulOk (c * lv) lv = true) (h : c * lv * lv = n) :
    g__law_fault_3 ⟨[some (.val (.int lv)), some (.val dt), x2, some (.val di), some (.val dj), some (.val (.ce S.length)), x6, some (.val (.int z))], S ++ [some (.lst (cs.map D.int))]⟩
      = .nx ⟨[some (.val (.int lv)), some (.val dt), x2, some (.val di), some (.val dj), some (.val (.ce S.length)), x6, some (.val (.int z))], S ++ [some (.lst (cs.map D.int))]⟩ := by
  simp [-lenS_ap, g__law_fault_3, hn, e1, m1, m2, h]
theorem lk_bad {lv z c n : Int} {cs : List Int} {dt di dj : D} {x2 x6 : Option Sl} {S : Store} (hn : lenS (S ++ [some (.lst (cs.map D.int))]) dt = some (.int n)) (e1 : L2.atI (cs.map D.int) z = some (.int c))
    (m1 : mulOk c lv = true) (m2 : mulOk (c * lv) lv = true) (h : c * lv * lv ≠ n) (d0 : lv ≠ 0) (d1 : divOk z lv = true) (m3 : mulOk (z.fdiv lv) lv = true) :
    g__law_fault_3 ⟨[some (.val (.int lv)), some (.val dt), x2, some (.val di), some (.val dj), some (.val (.ce S.length)), x6, some (.val (.int z))], S ++ [some (.lst (cs.map D.int))]⟩
      = .rt (.tup [di, dj, .int (z.fdiv lv), .int (z - z.fdiv lv * lv), .int c]) ⟨[some (.val (.int lv)), some (.val dt), x2, some (.val di), some (.val dj), some (.val (.ce S.length)), x6, some (.val (.int z))], S ++ [some (.lst (cs.map D.int))]⟩ := by
  simp [-lenS_ap, g__law_fault_3, hn, e1, m1, m2, m3, h, d0, d1]
end K53

/-! _law_fault: the looks. -/
namespace K53
open PySem MB
def lkD (lv : Int) (di dj : D) : Option (Nat × Int) → Option D
  | none => none
  | some (q, c) => some (.tup [di, dj, .int ((q : Int).fdiv lv), .int ((q : Int).fmod lv), .int c])
theorem law_look {lv n : Int} {all : List Int} {dt di dj : D} {x2 x6 : Option Sl} {S : Store} (hl : 2 ≤ lv ∧ lv ≤ 20) (hn : lenS (S ++ [some (.lst (all.map D.int))]) dt = some (.int n)) :
    ∀ (cs : List Int) (k : Nat) (x7 : Option Sl), all.drop k = cs → ∃ y7,
    loopS (bNm 7) g__law_fault_3 ((List.range' k cs.length).map fun j => D.int (j : Nat)) ⟨[some (.val (.int lv)), some (.val dt), x2, some (.val di), some (.val dj), some (.val (.ce S.length)), x6, x7], S ++ [some (.lst (all.map D.int))]⟩
      = outQ (lkD lv di dj (badC lv n k cs)) ⟨[some (.val (.int lv)), some (.val dt), x2, some (.val di), some (.val dj), some (.val (.ce S.length)), x6, y7], S ++ [some (.lst (all.map D.int))]⟩
  | [], k, x7, _ => ⟨x7, rfl⟩
  | c :: cs, k, x7, hd => by
    have hk : k < all.length := by
      have := congrArg List.length hd
      rw [List.length_drop, List.length_cons] at this
      omega
    have hc : all[k]?.getD 0 = c := by
      have : (all.drop k)[0]? = some c := by rw [hd]; rfl
      rw [List.getElem?_drop, Nat.add_zero] at this
      rw [this]
      rfl
    have hd' : all.drop (k + 1) = cs := by
      rw [← List.drop_drop, hd]
      rfl
    have q1 := atI_int hk
    rw [hc] at q1
    have m1 : mulOk c lv = true := mul_small (by omega) (by omega)
    have m2 : mulOk (c * lv) lv = true := mul_small (by omega) (by omega)
    have d1 : divOk (k : Int) lv = true := div_small (by omega) (by omega)
    have m3 : mulOk ((k : Int).fdiv lv) lv = true := mul_small (by omega) (by omega)
    rw [List.length_cons, List.range'_succ, List.map_cons, loopS_cs]
    by_cases h : c * lv * lv = n
    · have e : badC lv n k (c :: cs) = badC lv n (k + 1) cs := if_pos h
      obtain ⟨y7, hy⟩ := law_look (x2 := x2) (x6 := x6) (di := di) (dj := dj) hl hn cs (k + 1) (some (.val (.int (k : Nat)))) hd'
      refine ⟨y7, ?_⟩
      rw [e, ← hy]
      have s := lk_ok (x2 := x2) (x6 := x6) (di := di) (dj := dj) hn q1 m1 m2 h
      show kL2 _ _ _ (g__law_fault_3 ⟨[some (.val (.int lv)), some (.val dt), x2, some (.val di), some (.val dj), some (.val (.ce S.length)), x6, some (.val (.int (k : Nat)))], S ++ [some (.lst (all.map D.int))]⟩) = _
      rw [s]
      rfl
    · have e : badC lv n k (c :: cs) = some (k, c) := if_neg h
      refine ⟨some (.val (.int (k : Nat))), ?_⟩
      rw [e]
      have s := lk_bad (x2 := x2) (x6 := x6) (di := di) (dj := dj) hn q1 m1 m2 h (by omega) d1 m3
      have ef : (k : Int) - (k : Int).fdiv lv * lv = (k : Int).fmod lv := by
        have := Int.mul_fdiv_add_fmod (k : Int) lv
        rw [Int.mul_comm] at this
        omega
      rw [ef] at s
      show kL2 _ _ _ (g__law_fault_3 ⟨[some (.val (.int lv)), some (.val dt), x2, some (.val di), some (.val dj), some (.val (.ce S.length)), x6, some (.val (.int (k : Nat)))], S ++ [some (.lst (all.map D.int))]⟩) = _
      rw [s]
      rfl
end K53

/-! _law_fault: a new list of counts. -/
namespace K53
open PySem MB
theorem new_counts {lv m : Int} {x1 x2 x3 x4 x5 x6 x7 : Option Sl} {S : Store} (e1 : mulOk lv lv = true) (e2 : lv * lv = m) (h0 : 0 ≤ m) (h1 : m ≤ 400) :
    sSet 5 (eBF true mulF (eLst [(eC (.int 0))]) (eBF false mulF (eVar 0) (eVar 0))) ⟨[some (.val (.int lv)), x1, x2, x3, x4, x5, x6, x7], S⟩
      = .nx ⟨[some (.val (.int lv)), x1, x2, x3, x4, some (.val (.ce S.length)), x6, x7], S ++ [some (.lst (List.replicate m.toNat (D.int 0)))]⟩ := by
  have c1 : -9223372036854775808 ≤ m ∧ m < 9223372036854775808 := by omega
  have c2 : m ≤ 16777216 := by omega
  simp [e1, e2, c1, c2]
end K53

/-! _law_fault: one pair of columns. -/
namespace K53
open PySem MB
theorem it0_l {dt : D} {ds : List D} {x0 x2 x3 x4 x5 x6 x7 : Option Sl} {S : Store} (q : seqI dt = some ds) :
    it__law_fault_0 ⟨[x0, some (.val dt), x2, x3, x4, x5, x6, x7], S⟩ = .ok ds ⟨[x0, some (.val dt), x2, x3, x4, x5, x6, x7], S⟩ := by
  unfold it__law_fault_0
  simp [q]
theorem it2_l {lv m : Int} {x1 x2 x3 x4 x5 x6 x7 : Option Sl} {S : Store} (e1 : mulOk lv lv = true) (e2 : lv * lv = m) (hb : big m = true) :
    it__law_fault_2 ⟨[some (.val (.int lv)), x1, x2, x3, x4, x5, x6, x7], S⟩ = .ok (rangeL 0 m.toNat) ⟨[some (.val (.int lv)), x1, x2, x3, x4, x5, x6, x7], S⟩ := by
  unfold it__law_fault_2
  simp [e1, e2, hb]
end K53

/-! _law_fault: one pair of columns, whole. -/
namespace K53
open PySem MB
theorem tf3' {it : IX} {b : BX} {g : SX} {ds : List D} {ρ ρ1 : En} {o : Fl} (q : it ρ = .ok ds ρ1) (h : loopS b g ds ρ1 = o) : sFor it b g ρ = o := by
  rw [sFor_ap, q]
  exact h
theorem law_pair {t : Bool} {lv : Int} {rows : List (List Int)} {x2 x5 x6 x7 : Option Sl} {i j w : Nat} {S : Store} (T : Tab lv rows w) (hi : i < w) (hj : j < w) : ∃ y5 y6 y7 c,
    g__law_fault_5 ⟨[some (.val (.int lv)), some (.val (tabD t rows)), x2, some (.val (.int (i : Nat))), some (.val (.int (j : Nat))), x5, x6, x7], S⟩
      = outQ (lkD lv (.int (i : Nat)) (.int (j : Nat)) (pairF lv (pairIJ rows i j))) ⟨[some (.val (.int lv)), some (.val (tabD t rows)), x2, some (.val (.int (i : Nat))), some (.val (.int (j : Nat))), y5, y6, y7], S ++ [some c]⟩ := by
  obtain ⟨q1, q2⟩ := ll_le T.lvs
  have hl := T.lvs
  have e1 : mulOk lv lv = true := mul_small (by omega) (by omega)
  have z : (List.replicate (lv * lv).toNat (D.int 0)) = (List.replicate (lv * lv).toNat (0 : Int)).map D.int := by simp
  have s0 := new_counts (x1 := some (.val (tabD t rows))) (x2 := x2) (x3 := some (.val (.int (i : Nat)))) (x4 := some (.val (.int (j : Nat)))) (x5 := x5) (x6 := x6) (x7 := x7) (S := S) e1 rfl q1 q2
  rw [z] at s0
  obtain ⟨y', z', hc⟩ := law_count (t := t) (lv := lv) (x1 := some (.val (tabD t rows))) (x2 := x2) (S := S) hl hi hj rows (List.replicate (lv * lv).toNat (0 : Int)) x6 x7 T.len T.ent (by simp)
  have hp : pairF lv (pairIJ rows i j) = badC lv rows.length 0 (tally (lv * lv).toNat ((pairIJ rows i j).map (place lv))) := by
    unfold pairF
    rw [show (pairIJ rows i j).length = rows.length from List.length_map _]
  have hlen : (tally (lv * lv).toNat ((pairIJ rows i j).map (place lv))).length = (lv * lv).toNat := by
    unfold tally
    rw [fold_length, List.length_replicate]
  rw [hp]
  change _ = Fl.nx (cE lv _ x2 i j S.length y' z' (S ++ [some (.lst ((tally (lv * lv).toNat ((pairIJ rows i j).map (place lv))).map D.int))])) at hc
  generalize tally (lv * lv).toNat ((pairIJ rows i j).map (place lv)) = cs at hc hlen
  obtain ⟨y7, hk⟩ := law_look (x2 := x2) (x6 := y') (di := .int (i : Nat)) (dj := .int (j : Nat)) hl (tab_len (t := t) (rows := rows) (S := S ++ [some (.lst (cs.map D.int))])) cs 0 z' rfl
  refine ⟨some (.val (.ce S.length)), y', y7, .lst (cs.map D.int), ?_⟩
  have hr : rangeL 0 (lv * lv).toNat = (List.range' 0 cs.length).map fun j => D.int (j : Nat) := by
    rw [hlen, range0, List.range_eq_range']
  have i2 := it2_l (x1 := some (.val (tabD t rows))) (x2 := x2) (x3 := some (.val (.int (i : Nat)))) (x4 := some (.val (.int (j : Nat)))) (x5 := some (.val (.ce S.length))) (x6 := y') (x7 := z') (S := S ++ [some (.lst (cs.map D.int))]) e1 rfl (big_ok (by omega) (by omega))
  rw [hr] at i2
  unfold g__law_fault_5
  rw [tfS s0 (tfS (tf3' (it0_l (seqI_s _ _)) hc) rfl)]
  exact tf3' i2 hk
end K53

/-! _law_fault: the loop over the second column. -/
namespace K53
open PySem MB
theorem law_js {t : Bool} {lv : Int} {rows : List (List Int)} {x2 : Option Sl} {i w : Nat} (Tb : Tab lv rows w) (hi : i < w) : ∀ (js : List Nat) (x4 x5 x6 x7 : Option Sl) (S : Store), (∀ j ∈ js, j < w) → ∃ y4 y5 y6 y7 T,
    loopS (bNm 4) g__law_fault_5 (js.map fun j => D.int (j : Nat)) ⟨[some (.val (.int lv)), some (.val (tabD t rows)), x2, some (.val (.int (i : Nat))), x4, x5, x6, x7], S⟩
      = outQ (jF lv rows i js) ⟨[some (.val (.int lv)), some (.val (tabD t rows)), x2, some (.val (.int (i : Nat))), y4, y5, y6, y7], S ++ T⟩
  | [], x4, x5, x6, x7, S, _ => ⟨x4, x5, x6, x7, [], by rw [List.append_nil]; rfl⟩
  | j :: js, x4, x5, x6, x7, S, hj => by
    obtain ⟨y5, y6, y7, c, h⟩ := law_pair (t := t) (x2 := x2) (x5 := x5) (x6 := x6) (x7 := x7) (S := S) Tb hi (hj j List.mem_cons_self)
    have e : jF lv rows i (j :: js) = match pairF lv (pairIJ rows i j) with
      | none => jF lv rows i js
      | some (q, c) => some (.tup [.int (i : Nat), .int (j : Nat), .int ((q : Int).fdiv lv), .int ((q : Int).fmod lv), .int c]) := rfl
    cases ep : pairF lv (pairIJ rows i j) with
    | some p =>
      obtain ⟨q, k⟩ := p
      rw [ep] at e h
      refine ⟨some (.val (.int (j : Nat))), y5, y6, y7, [some c], ?_⟩
      rw [e, List.map_cons, loopS_cs]
      show kL2 _ _ _ (g__law_fault_5 ⟨[some (.val (.int lv)), some (.val (tabD t rows)), x2, some (.val (.int (i : Nat))), some (.val (.int (j : Nat))), x5, x6, x7], S⟩) = _
      rw [h]
      rfl
    | none =>
      rw [ep] at e h
      obtain ⟨z4, z5, z6, z7, T, hy⟩ := law_js (t := t) (x2 := x2) Tb hi js (some (.val (.int (j : Nat)))) y5 y6 y7 (S ++ [some c]) (fun k m => hj k (List.mem_cons_of_mem _ m))
      refine ⟨z4, z5, z6, z7, [some c] ++ T, ?_⟩
      rw [← List.append_assoc, e, ← hy, List.map_cons, loopS_cs]
      show kL2 _ _ _ (g__law_fault_5 ⟨[some (.val (.int lv)), some (.val (tabD t rows)), x2, some (.val (.int (i : Nat))), some (.val (.int (j : Nat))), x5, x6, x7], S⟩) = _
      rw [h]
      rfl
end K53

/-! _law_fault: the loop over the first column. -/
namespace K53
open PySem MB
theorem kq1 {b : BX} {g : SX} {ds : List D} {ρ : En} : kL2 b g ds (outQ none ρ) = loopS b g ds ρ := rfl
theorem kq2 {b : BX} {g : SX} {ds : List D} {ρ : En} {d : D} : kL2 b g ds (outQ (some d) ρ) = outQ (some d) ρ := rfl
theorem lcs3 {g : SX} {ds : List D} {d : D} {x0 x1 x2 x3 x4 x5 x6 x7 : Option Sl} {S : Store} : loopS (bNm 3) g (d :: ds) ⟨[x0, x1, x2, x3, x4, x5, x6, x7], S⟩ = kL2 (bNm 3) g ds (g ⟨[x0, x1, x2, some (.val d), x4, x5, x6, x7], S⟩) := by
  rw [loopS_cs]
  rfl
theorem lit4e {z v : Int} {x0 x1 x4 x5 x6 x7 : Option Sl} {S : Store} : eBF false addF (eVar 3) (eC (.int 1)) ⟨[x0, x1, some (.val (.int v)), some (.val (.int z)), x4, x5, x6, x7], S⟩ = .ok (.int (z + 1)) ⟨[x0, x1, some (.val (.int v)), some (.val (.int z)), x4, x5, x6, x7], S⟩ := by
  simp
theorem lit4v {z v : Int} {x0 x1 x4 x5 x6 x7 : Option Sl} {S : Store} : eVar 2 ⟨[x0, x1, some (.val (.int v)), some (.val (.int z)), x4, x5, x6, x7], S⟩ = .ok (.int v) ⟨[x0, x1, some (.val (.int v)), some (.val (.int z)), x4, x5, x6, x7], S⟩ := by
  simp
theorem lit4 {i w : Nat} (hw : w ≤ 30) (hiw : i < w) {x0 x1 x4 x5 x6 x7 : Option Sl} {S : Store} : it__law_fault_4 ⟨[x0, x1, some (.val (.int (w : Nat))), some (.val (.int (i : Nat))), x4, x5, x6, x7], S⟩
    = .ok ((aft w i).map fun j => D.int (j : Nat)) ⟨[x0, x1, some (.val (.int (w : Nat))), some (.val (.int (i : Nat))), x4, x5, x6, x7], S⟩ := by
  have er : ∀ z : Int, z = ((i + 1 : Nat) : Int) → rangeL z ((w : Int) - z).toNat = (aft w i).map fun j => D.int (j : Nat) := fun z hz => by
    have e1 : ((w : Int) - z).toNat = w - (i + 1) := by omega
    rw [e1, hz, range_nat]
    rfl
  have kr : ∀ (z : Int) (ρ : En), z = ((i + 1 : Nat) : Int) → kR22 (.int z) (.int (w : Int)) ρ = .ok ((aft w i).map fun j => D.int (j : Nat)) ρ := fun z ρ hz => kR22_ok (big_ok (by omega) (by omega)) (big_ok (by omega) (by omega)) (er z hz)
  unfold it__law_fault_4
  rw [iR2_ap, lit4e, kI1_ok, lit4v, kI2_ok]
  exact kr _ _ (by omega)
theorem law_is {t : Bool} {lv : Int} {rows : List (List Int)} {w : Nat} (Tb : Tab lv rows w) : ∀ (is : List Nat) (x3 x4 x5 x6 x7 : Option Sl) (S : Store), (∀ i ∈ is, i < w) → ∃ y3 y4 y5 y6 y7 T,
    loopS (bNm 3) g__law_fault_7 (is.map fun j => D.int (j : Nat)) ⟨[some (.val (.int lv)), some (.val (tabD t rows)), some (.val (.int (w : Nat))), x3, x4, x5, x6, x7], S⟩
      = outQ (iF lv rows w is) ⟨[some (.val (.int lv)), some (.val (tabD t rows)), some (.val (.int (w : Nat))), y3, y4, y5, y6, y7], S ++ T⟩
  | [], x3, x4, x5, x6, x7, S, _ => ⟨x3, x4, x5, x6, x7, [], by rw [List.append_nil]; rfl⟩
  | i :: is, x3, x4, x5, x6, x7, S, hi => by
    have hiw := hi i List.mem_cons_self
    obtain ⟨y4, y5, y6, y7, T, h⟩ := law_js (t := t) (x2 := some (.val (.int (w : Nat)))) Tb hiw (aft w i) x4 x5 x6 x7 S fun j m => by
      obtain ⟨k, mk, rfl⟩ := List.mem_map.mp m
      have := List.mem_range.mp mk
      omega
    have hg := tf3' (lit4 (x0 := some (.val (.int lv))) (x1 := some (.val (tabD t rows))) (x4 := x4) (x5 := x5) (x6 := x6) (x7 := x7) (S := S) Tb.w1.2 hiw) h
    have e : iF lv rows w (i :: is) = match jF lv rows i (aft w i) with
      | none => iF lv rows w is
      | some d => some d := rfl
    cases ej : jF lv rows i (aft w i) with
    | some d =>
      rw [ej] at e hg
      replace e : iF lv rows w (i :: is) = some d := e
      refine ⟨some (.val (.int (i : Nat))), y4, y5, y6, y7, T, ?_⟩
      rw [e, List.map_cons, lcs3]
      rw [show g__law_fault_7 ⟨[some (.val (.int lv)), some (.val (tabD t rows)), some (.val (.int (w : Nat))), some (.val (.int (i : Nat))), x4, x5, x6, x7], S⟩ = _ from hg]
      exact kq2
    | none =>
      rw [ej] at e hg
      replace e : iF lv rows w (i :: is) = iF lv rows w is := e
      obtain ⟨z3, z4, z5, z6, z7, T2, hy⟩ := law_is (t := t) Tb is (some (.val (.int (i : Nat)))) y4 y5 y6 y7 (S ++ T) (fun k m => hi k (List.mem_cons_of_mem _ m))
      refine ⟨z3, z4, z5, z6, z7, T ++ T2, ?_⟩
      rw [← List.append_assoc, e, ← hy, List.map_cons, lcs3]
      rw [show g__law_fault_7 ⟨[some (.val (.int lv)), some (.val (tabD t rows)), some (.val (.int (w : Nat))), some (.val (.int (i : Nat))), x4, x5, x6, x7], S⟩ = _ from hg]
      exact kq1
end K53

/-! _law_fault, whole; _law_refusal of every table of ints. -/
namespace K53
open PySem MB
theorem setw8 {dt dr dw : D} {a x2 x3 x4 x5 x6 x7 : Option Sl} {S : Store} (hix : ixS S dt (.int 0) = some dr) (hln : lenS S dr = some dw) :
    sSet 2 (eLenS (eIxS (eVar 1) (eC (.int 0)))) ⟨[a, some (.val dt), x2, x3, x4, x5, x6, x7], S⟩ = .nx ⟨[a, some (.val dt), some (.val dw), x3, x4, x5, x6, x7], S⟩ := by
  simp [-lenS_ap, -ixS_ap, hix, hln]
theorem it6v {z : D} {x0 x1 x3 x4 x5 x6 x7 : Option Sl} {S : Store} : eVar 2 ⟨[x0, x1, some (.val z), x3, x4, x5, x6, x7], S⟩ = .ok z ⟨[x0, x1, some (.val z), x3, x4, x5, x6, x7], S⟩ := by
  simp
theorem it6l {w : Nat} (hw : w ≤ 1000) {x0 x1 x3 x4 x5 x6 x7 : Option Sl} {S : Store} : it__law_fault_6 ⟨[x0, x1, some (.val (.int (w : Nat))), x3, x4, x5, x6, x7], S⟩
    = .ok ((List.range w).map fun j => D.int (j : Nat)) ⟨[x0, x1, some (.val (.int (w : Nat))), x3, x4, x5, x6, x7], S⟩ := by
  unfold it__law_fault_6
  rw [iR1_ap, it6v]
  exact kR1_nat hw
theorem endQ {o : Option D} {sl : List (Option Sl)} {S T : Store} {s : SX} {ρ : En} (h : s ρ = outQ o ⟨sl, S ++ T⟩) : endR (sSeq s (sRet (eC .non)) ρ) = .ok (faultD o) (S ++ T) := by
  cases o with
  | none => rw [tfS h rfl]; rfl
  | some d => rw [tfR h]; rfl
theorem law_fault_ok {t : Bool} {lv : Int} {rows : List (List Int)} {S : Store} : FaultOk t lv rows S := by
  intro h
  obtain ⟨r0, rs, e0, Tb⟩ := tab_of h
  have hw : widthD rows = r0.length := by rw [e0]; rfl
  rw [hw]
  have hs := setw8 (a := some (.val (.int lv))) (x2 := none) (x3 := none) (x4 := none) (x5 := none) (x6 := none) (x7 := none) (S := S) (dt := tabD t rows) (dr := rowD t r0) (by rw [e0]; exact ix0) (len_row (t := t) (r := r0) (S := S))
  generalize r0.length = w at Tb hs
  obtain ⟨y3, y4, y5, y6, y7, T, hy⟩ := law_is (t := t) Tb (List.range w) none none none none none S fun i m => List.mem_range.mp m
  have hf := tf3 (it6l (x0 := some (.val (.int lv))) (x1 := some (.val (tabD t rows))) (x3 := none) (x4 := none) (x5 := none) (x6 := none) (x7 := none) (S := S) (by have := Tb.w1; omega)) hy
  refine run_same (T := T) ?_ (faultD_cl _)
  show endR (b__law_fault ⟨[some (.val (.int lv)), some (.val (tabD t rows)), none, none, none, none, none, none], S⟩) = _
  unfold b__law_fault
  rw [tfS hs rfl]
  exact endQ hf
theorem refusal_ok {t : Bool} {lv : Int} {rows : List (List Int)} {S : Store} : m__law_refusal [.int lv, tabD t rows] S = .ok (tellD lv rows) S := refusal_spec law_fault_ok
end K53

namespace K53
/-! Sums over lists; the bound by rows of a table of strength two. -/
def sm {α : Type} (l : List α) (f : α → Int) : Int := (l.map f).sum
section
variable {α β : Type}
@[simp] theorem sm_nil (f : α → Int) : sm [] f = 0 := rfl
@[simp] theorem sm_cons (a : α) (l : List α) (f : α → Int) : sm (a :: l) f = f a + sm l f := by simp [sm]
theorem sm_app (l m : List α) (f : α → Int) : sm (l ++ m) f = sm l f + sm m f := by simp [sm]
theorem sm_congr {l : List α} {f g : α → Int} (h : ∀ a ∈ l, f a = g a) : sm l f = sm l g := by
  unfold sm
  rw [List.map_congr_left h]
theorem sm_add (l : List α) (f g : α → Int) : sm l (fun a => f a + g a) = sm l f + sm l g := by
  induction l with
  | nil => rfl
  | cons a l ih => simp only [sm_cons, ih]; omega
theorem sm_mul (l : List α) (c : Int) (f : α → Int) : sm l (fun a => c * f a) = c * sm l f := by
  induction l with
  | nil => simp
  | cons a l ih => simp only [sm_cons, ih, Int.mul_add]
theorem sm_const (l : List α) (c : Int) : sm l (fun _ => c) = l.length * c := by
  induction l with
  | nil => simp
  | cons a l ih => simp only [sm_cons, ih, List.length_cons]; grind
theorem sm_swap (l : List α) (m : List β) (f : α → β → Int) : sm l (fun a => sm m (fun b => f a b)) = sm m (fun b => sm l (fun a => f a b)) := by
  induction l with
  | nil => simp [sm_const]
  | cons a l ih => simp only [sm_cons, ih, sm_add]
theorem sm_nonneg {l : List α} {f : α → Int} (h : ∀ a ∈ l, 0 ≤ f a) : 0 ≤ sm l f := by
  induction l with
  | nil => simp
  | cons a l ih =>
    have h1 := h a List.mem_cons_self
    have h2 := ih fun b m => h b (List.mem_cons_of_mem _ m)
    simp only [sm_cons]; omega
theorem sm_zero {l : List α} {f : α → Int} (h : ∀ a ∈ l, 0 ≤ f a) (z : sm l f = 0) : ∀ a ∈ l, f a = 0 := by
  induction l with
  | nil => simp
  | cons a l ih =>
    have h1 := h a List.mem_cons_self
    have hl : ∀ b ∈ l, 0 ≤ f b := fun b m => h b (List.mem_cons_of_mem _ m)
    have h2 := sm_nonneg hl
    simp only [sm_cons] at z
    intro b m
    rcases List.mem_cons.mp m with rfl | m
    · omega
    · exact ih hl (by omega) b m
theorem sm_perm (f : α → Int) {l m : List α} (h : l.Perm m) : sm l f = sm m f := by
  induction h with
  | nil => rfl
  | cons a _ ih => simp only [sm_cons, ih]
  | swap a b l => simp only [sm_cons]; omega
  | trans _ _ h1 h2 => exact h1.trans h2
def ind (p : Prop) [Decidable p] : Int := if p then 1 else 0
theorem sm_sq (l : List α) (f : α → Int) : sm l f * sm l f = sm l (fun a => sm l (fun b => f a * f b)) := by
  have : ∀ m : List α, sm l f * sm m f = sm l (fun a => sm m (fun b => f a * f b)) := by
    intro m
    rw [Int.mul_comm, ← sm_mul]
    refine sm_congr fun a _ => ?_
    rw [sm_mul, Int.mul_comm]
  exact this l
/-- spread: m times the squares less the square of the sum -/
theorem spread (l : List α) (f : α → Int) : sm l (fun a => (l.length * f a - sm l f) * (l.length * f a - sm l f)) = l.length * (l.length * sm l (fun a => f a * f a) - sm l f * sm l f) := by
  have key : ∀ (m : List α) (n s : Int), sm m (fun a => (n * f a - s) * (n * f a - s)) = n * n * sm m (fun a => f a * f a) - 2 * n * s * sm m f + m.length * (s * s) := by
    intro m n s
    induction m with
    | nil => simp
    | cons a m ih => simp only [sm_cons, ih, List.length_cons]; grind
  rw [key]
  grind
end
/-- the equal places of two rows -/
def eqs (k : Nat) (x y : List Int) : Int := sm (List.range k) (fun t => ind (x[t]?.getD 0 = y[t]?.getD 0))
theorem ind_mul (p q : Prop) [Decidable p] [Decidable q] : ind p * ind q = ind (p ∧ q) := by
  unfold ind
  by_cases hp : p <;> by_cases hq : q <;> simp [hp, hq]
theorem sm_ind {α : Type} (l : List α) (p : α → Prop) [DecidablePred p] : sm l (fun a => ind (p a)) = (l.countP (fun a => decide (p a)) : Nat) := by
  induction l with
  | nil => rfl
  | cons a l ih =>
    rw [sm_cons, ih, List.countP_cons]
    unfold ind
    by_cases h : p a <;> simp [h] <;> omega
theorem sm_range_ne (k t : Nat) (h : t < k) (c d : Int) : sm (List.range k) (fun u => if u = t then c else d) = c + (k - 1) * d := by
  induction k with
  | zero => omega
  | succ k ih =>
    rw [List.range_succ, sm_app]
    simp only [sm_cons, sm_nil]
    by_cases e : t = k
    · subst e
      have : sm (List.range t) (fun u => if u = t then c else d) = sm (List.range t) (fun _ => d) := sm_congr fun u m => by
        have := List.mem_range.mp m
        rw [if_neg (by omega)]
      rw [this, sm_const, List.length_range]
      simp
      grind
    · rw [ih (by omega), if_neg (by omega)]
      push_cast
      grind
theorem rg1 {k S1 L : Int} (h : k + S1 = k * L) : S1 = k * (L - 1) := by grind
theorem rg2 {k S2 L l : Int} (h : k * k + S2 = k * (L + (k - 1) * l)) : S2 = k * (L + (k - 1) * l - k) := by grind
theorem rg3 {k l s : Int} : (l * s * s - 1) * ((l * s * s - 1) * (k * (l * s + (k - 1) * l - k)) - k * (l * s - 1) * (k * (l * s - 1))) = (l * s * s - 1) * (k * l * (s - 1) * (l * s * s - 1 - k * (s - 1))) := by grind
/-- what the bound rests on: from row x, with L = lam * s the rows that agree with it at a place, lam those at two -/
theorem rao {s lam : Int} {k : Nat} {x : List Int} {rows others : List (List Int)} (hp : rows.Perm (x :: others)) (hs : 2 ≤ s) (hl : 1 ≤ lam) (hk : 2 ≤ k)
    (h1 : ∀ t < k, sm rows (fun y => ind (x[t]?.getD 0 = y[t]?.getD 0)) = lam * s)
    (h2 : ∀ t < k, ∀ u < k, t ≠ u → sm rows (fun y => ind (x[t]?.getD 0 = y[t]?.getD 0 ∧ x[u]?.getD 0 = y[u]?.getD 0)) = lam)
    (hn : (rows.length : Int) = lam * s * s) :
    sm others (eqs k x) = k * (lam * s - 1) ∧ (k : Int) * (s - 1) ≤ rows.length - 1 ∧ (((k : Int) * (s - 1) = rows.length - 1) ↔ ∀ y ∈ others, (rows.length - 1) * eqs k x y = sm others (eqs k x)) := by
  have sp : ∀ f : List Int → Int, sm rows f = f x + sm others f := fun f => by
    have := sm_perm f hp
    rwa [sm_cons] at this
  have hx : eqs k x x = k := by
    unfold eqs
    rw [sm_congr (g := fun _ => 1) fun t _ => by simp [ind], sm_const, List.length_range]
    omega
  have a1 : sm rows (eqs k x) = k * (lam * s) := by
    unfold eqs
    rw [sm_swap, sm_congr (g := fun _ => lam * s) fun t m => h1 t (List.mem_range.mp m), sm_const, List.length_range]
  have a2 : sm rows (fun y => eqs k x y * eqs k x y) = k * (lam * s + (k - 1) * lam) := by
    have e1 : sm rows (fun y => eqs k x y * eqs k x y) = sm rows (fun y => sm (List.range k) fun t => sm (List.range k) fun u => ind (x[t]?.getD 0 = y[t]?.getD 0 ∧ x[u]?.getD 0 = y[u]?.getD 0)) := by
      refine sm_congr fun y _ => ?_
      unfold eqs
      rw [sm_sq]
      exact sm_congr fun t _ => sm_congr fun u _ => ind_mul _ _
    have e2 : ∀ t ∈ List.range k, sm rows (fun y => sm (List.range k) fun u => ind (x[t]?.getD 0 = y[t]?.getD 0 ∧ x[u]?.getD 0 = y[u]?.getD 0)) = lam * s + (k - 1) * lam := by
      intro t mt
      have ht := List.mem_range.mp mt
      rw [sm_swap, ← sm_range_ne k t ht]
      refine sm_congr fun u mu => ?_
      have hu := List.mem_range.mp mu
      by_cases e : u = t
      · subst e
        rw [if_pos rfl, ← h1 u hu]
        exact sm_congr fun y _ => by simp
      · rw [if_neg e, ← h2 t ht u hu (Ne.symm e)]
    rw [e1, sm_swap, sm_congr e2, sm_const, List.length_range]
  have hlen : (others.length : Int) = rows.length - 1 := by
    have := hp.length_eq
    simp at this
    omega
  rw [sp] at a1 a2
  rw [hx] at a1
  simp only [hx] at a2
  have q := spread others (eqs k x)
  have nn := sm_nonneg (l := others) (f := fun a => (others.length * eqs k x a - sm others (eqs k x)) * (others.length * eqs k x a - sm others (eqs k x))) fun a _ => by
    rcases Int.le_total 0 (others.length * eqs k x a - sm others (eqs k x)) with h | h
    · exact Int.mul_nonneg h h
    · exact Int.mul_nonneg_of_nonpos_of_nonpos h h
  generalize hS1 : sm others (eqs k x) = S1 at *
  generalize hS2 : sm others (fun y => eqs k x y * eqs k x y) = S2 at *
  generalize hm : (others.length : Int) = m at *
  have eS1 : S1 = k * (lam * s - 1) := rg1 a1
  have eS2 : S2 = k * (lam * s + (k - 1) * lam - k) := rg2 a2
  have em : m = lam * s * s - 1 := by omega
  have id : m * (m * S2 - S1 * S1) = m * (k * lam * (s - 1) * (m - k * (s - 1))) := by
    rw [eS1, eS2, em]
    exact rg3
  have mpos : 0 < m := by
    have : 1 * 2 ≤ lam * s := Int.mul_le_mul hl hs (by omega) (by omega)
    have : (lam * s) * 2 ≤ lam * s * s := Int.mul_le_mul_of_nonneg_left hs (by omega)
    omega
  have cpos : 0 < (k : Int) * lam * (s - 1) := Int.mul_pos (Int.mul_pos (by omega) (by omega)) (by omega)
  rw [id] at q
  rw [q] at nn
  have d0 : 0 ≤ m - k * (s - 1) := by
    have h3 : 0 ≤ k * lam * (s - 1) * (m - k * (s - 1)) := by
      rcases Int.lt_or_le (k * lam * (s - 1) * (m - k * (s - 1))) 0 with h | h
      · have := Int.mul_neg_of_pos_of_neg mpos h
        omega
      · exact h
    rcases Int.lt_or_le (m - k * (s - 1)) 0 with h | h
    · have := Int.mul_neg_of_pos_of_neg cpos h
      omega
    · exact h
  refine ⟨eS1, by omega, ?_⟩
  rw [← hlen]
  constructor
  · intro e y my
    have z : sm others (fun a => (m * eqs k x a - S1) * (m * eqs k x a - S1)) = 0 := by
      rw [q, show m - (k : Int) * (s - 1) = 0 by omega]
      simp
    have := sm_zero (fun a _ => by
      rcases Int.le_total 0 (m * eqs k x a - S1) with h | h
      · exact Int.mul_nonneg h h
      · exact Int.mul_nonneg_of_nonpos_of_nonpos h h) z y my
    have := Int.mul_eq_zero.mp this
    omega
  · intro h
    have z : sm others (fun a => (m * eqs k x a - S1) * (m * eqs k x a - S1)) = 0 := by
      rw [sm_congr (g := fun _ => 0) fun y my => by rw [h y my]; simp]
      rw [sm_const]; simp
    rw [q] at z
    rcases Int.mul_eq_zero.mp z with z | z
    · omega
    · rcases Int.mul_eq_zero.mp z with z | z
      · omega
      · omega
end K53

/-! Pairs of columns that have each pair of levels equally often. -/
namespace K53
/-- each pair of levels equally often -/
def Uni (lv : Int) (ps : List (Int × Int)) : Prop := (∀ q ∈ ps, 0 ≤ q.1 ∧ q.1 < lv ∧ 0 ≤ q.2 ∧ q.2 < lv) ∧ ∀ a b : Int, 0 ≤ a → a < lv → 0 ≤ b → b < lv → (ps.count (a, b) : Int) * lv * lv = ps.length
theorem Uni.perm {lv : Int} {ps qs : List (Int × Int)} (h : ps.Perm qs) (u : Uni lv ps) : Uni lv qs := by
  refine ⟨fun q m => u.1 q (h.mem_iff.mpr m), fun a b h1 h2 h3 h4 => ?_⟩
  rw [← h.count_eq, ← h.length_eq]
  exact u.2 a b h1 h2 h3 h4
theorem Uni.app {lv : Int} {ps qs : List (Int × Int)} (u : Uni lv ps) (v : Uni lv qs) : Uni lv (ps ++ qs) := by
  refine ⟨fun q m => (List.mem_append.mp m).elim (u.1 q) (v.1 q), fun a b h1 h2 h3 h4 => ?_⟩
  have e1 := u.2 a b h1 h2 h3 h4
  have e2 := v.2 a b h1 h2 h3 h4
  rw [List.count_append, List.length_append]
  push_cast
  rw [Int.add_mul, Int.add_mul, e1, e2]
theorem Uni.swap {lv : Int} {ps : List (Int × Int)} (u : Uni lv ps) : Uni lv (ps.map fun q => (q.2, q.1)) := by
  refine ⟨fun q m => ?_, fun a b h1 h2 h3 h4 => ?_⟩
  · obtain ⟨r, mr, rfl⟩ := List.mem_map.mp m
    obtain ⟨a, b, c, d⟩ := u.1 r mr
    exact ⟨c, d, a, b⟩
  · have e := u.2 b a h3 h4 h1 h2
    rw [List.length_map, ← e]
    congr 3
    rw [List.count_eq_countP, List.countP_map, List.count_eq_countP]
    refine List.countP_congr fun q _ => ?_
    obtain ⟨x, y⟩ := q
    simp [and_comm]
/-- levels turned by a number -/
theorem Uni.turn {lv : Int} {ps : List (Int × Int)} (hl : 0 < lv) (s : Int) (u : Uni lv ps) : Uni lv (ps.map fun q => ((q.1 + s).fmod lv, (q.2 + s).fmod lv)) := by
  refine ⟨fun q m => ?_, fun a b h1 h2 h3 h4 => ?_⟩
  · obtain ⟨r, mr, rfl⟩ := List.mem_map.mp m
    exact ⟨Int.fmod_nonneg_of_pos _ hl, Int.fmod_lt_of_pos _ hl, Int.fmod_nonneg_of_pos _ hl, Int.fmod_lt_of_pos _ hl⟩
  · have key : ∀ x c : Int, 0 ≤ x → x < lv → 0 ≤ c → c < lv → ((x + s).fmod lv = c ↔ x = (c - s).fmod lv) := by
      intro x c x0 x1 c0 c1
      constructor
      · intro e
        have q := Int.mul_fdiv_add_fmod (x + s) lv
        have q2 := Int.mul_fdiv_add_fmod (c - s) lv
        rw [e] at q
        have n0 := Int.fmod_nonneg_of_pos (c - s) hl
        have n1 := Int.fmod_lt_of_pos (c - s) hl
        have d : x - (c - s).fmod lv = lv * ((x + s).fdiv lv + (c - s).fdiv lv) := by rw [Int.mul_add]; omega
        generalize (x + s).fdiv lv + (c - s).fdiv lv = k at d
        have : k = 0 := by
          rcases Int.lt_trichotomy k 0 with h | h | h
          · have := Int.mul_le_mul_of_nonneg_left (show k ≤ -1 by omega) (show 0 ≤ lv by omega)
            omega
          · exact h
          · have := Int.mul_le_mul_of_nonneg_left (show 1 ≤ k by omega) (show 0 ≤ lv by omega)
            omega
        subst this
        omega
      · intro e
        have q := Int.mul_fdiv_add_fmod (x + s) lv
        have q2 := Int.mul_fdiv_add_fmod (c - s) lv
        rw [← e] at q2
        have n0 := Int.fmod_nonneg_of_pos (x + s) hl
        have n1 := Int.fmod_lt_of_pos (x + s) hl
        have d : (x + s).fmod lv - c = lv * (-((x + s).fdiv lv) - (c - s).fdiv lv) := by rw [Int.mul_sub, Int.mul_neg]; omega
        generalize -((x + s).fdiv lv) - (c - s).fdiv lv = k at d
        have : k = 0 := by
          rcases Int.lt_trichotomy k 0 with h | h | h
          · have := Int.mul_le_mul_of_nonneg_left (show k ≤ -1 by omega) (show 0 ≤ lv by omega)
            omega
          · exact h
          · have := Int.mul_le_mul_of_nonneg_left (show 1 ≤ k by omega) (show 0 ≤ lv by omega)
            omega
        subst this
        omega
    have e := u.2 ((a - s).fmod lv) ((b - s).fmod lv) (Int.fmod_nonneg_of_pos _ hl) (Int.fmod_lt_of_pos _ hl) (Int.fmod_nonneg_of_pos _ hl) (Int.fmod_lt_of_pos _ hl)
    rw [List.length_map, ← e]
    congr 3
    rw [List.count_eq_countP, List.countP_map, List.count_eq_countP]
    refine List.countP_congr fun q m => ?_
    obtain ⟨x, y⟩ := q
    obtain ⟨x0, x1, y0, y1⟩ := u.1 _ m
    have k1 := key x a x0 x1 h1 h2
    have k2 := key y b y0 y1 h3 h4
    simp [k1, k2]
/-- the pairs as one number each: the tally -/
theorem fold_get : ∀ (ps : List Nat) (cs : List Int) (k : Nat), k < cs.length → (ps.foldl bump cs)[k]?.getD 0 = cs[k]?.getD 0 + ps.count k
  | [], cs, k, _ => by simp
  | p :: ps, cs, k, h => by
    rw [List.foldl_cons, fold_get ps (bump cs p) k (by rw [bump_length]; exact h), List.count_cons]
    unfold bump
    by_cases e : p = k
    · subst e
      rw [List.getElem?_set_self h]
      simp
      omega
    · rw [List.getElem?_set_ne e]
      simp [e]
theorem badC_none {lv n : Int} : ∀ {cs : List Int} {k : Nat}, (∀ c ∈ cs, c * lv * lv = n) → badC lv n k cs = none
  | [], _, _ => rfl
  | c :: cs, k, h => by
    unfold badC
    rw [if_pos (h c List.mem_cons_self)]
    exact badC_none fun d m => h d (List.mem_cons_of_mem _ m)
theorem badC_all {lv n : Int} : ∀ {cs : List Int} {k : Nat}, badC lv n k cs = none → ∀ c ∈ cs, c * lv * lv = n
  | [], _, _, c, m => absurd m List.not_mem_nil
  | c :: cs, k, h, d, m => by
    unfold badC at h
    split at h
    · rename_i e
      rcases List.mem_cons.mp m with rfl | m
      · exact e
      · exact badC_all h d m
    · cases h
theorem place_lt {lv : Int} {q : Int × Int} (h1 : 0 ≤ q.1) (h2 : q.1 < lv) (h3 : 0 ≤ q.2) (h4 : q.2 < lv) : place lv q < (lv * lv).toNat ∧ ((place lv q : Nat) : Int) = q.1 * lv + q.2 := by
  have a : 0 ≤ q.1 * lv := Int.mul_nonneg h1 (by omega)
  have b : q.1 * lv ≤ (lv - 1) * lv := Int.mul_le_mul_of_nonneg_right (by omega) (by omega)
  have e : (lv - 1) * lv = lv * lv - lv := by rw [Int.sub_mul, Int.one_mul]
  unfold place
  omega
theorem place_inj {lv : Int} {q r : Int × Int} (h3 : 0 ≤ q.2) (h4 : q.2 < lv) (g3 : 0 ≤ r.2) (g4 : r.2 < lv) (e : q.1 * lv + q.2 = r.1 * lv + r.2) : q = r := by
  have d : (q.1 - r.1) * lv = r.2 - q.2 := by rw [Int.sub_mul]; omega
  have z : q.1 - r.1 = 0 := by
    generalize q.1 - r.1 = k at d
    rcases Int.lt_trichotomy k 0 with h | h | h
    · have := Int.mul_le_mul_of_nonneg_right (show k ≤ -1 by omega) (show 0 ≤ lv by omega)
      omega
    · exact h
    · have := Int.mul_le_mul_of_nonneg_right (show 1 ≤ k by omega) (show 0 ≤ lv by omega)
      omega
  have z2 : q.2 = r.2 := by rw [z] at d; omega
  exact Prod.ext (by omega) z2
theorem count_place {lv : Int} {ps : List (Int × Int)} (h : ∀ q ∈ ps, 0 ≤ q.1 ∧ q.1 < lv ∧ 0 ≤ q.2 ∧ q.2 < lv) {r : Int × Int} (g : 0 ≤ r.1 ∧ r.1 < lv ∧ 0 ≤ r.2 ∧ r.2 < lv) : (ps.map (place lv)).count (place lv r) = ps.count r := by
  rw [List.count_eq_countP, List.countP_map, List.count_eq_countP]
  refine List.countP_congr fun q m => ?_
  obtain ⟨a, b, c, d⟩ := h q m
  have e1 := (place_lt a b c d).2
  have e2 := (place_lt g.1 g.2.1 g.2.2.1 g.2.2.2).2
  simp only [Function.comp, beq_iff_eq]
  constructor
  · intro e
    exact place_inj c d g.2.2.1 g.2.2.2 (by omega)
  · rintro rfl
    rfl
theorem pair_none {lv : Int} {ps : List (Int × Int)} (hl : 0 < lv) (u : Uni lv ps) : pairF lv ps = none := by
  unfold pairF
  refine badC_none fun c m => ?_
  obtain ⟨k, hk, rfl⟩ := List.getElem_of_mem m
  have hk' : k < (lv * lv).toNat := by
    unfold tally at hk
    rw [fold_length, List.length_replicate] at hk
    exact hk
  have e : (tally (lv * lv).toNat (ps.map (place lv)))[k] = ((ps.map (place lv)).count k : Nat) := by
    have := fold_get (ps.map (place lv)) (List.replicate (lv * lv).toNat 0) k (by simpa using hk')
    have q : (tally (lv * lv).toNat (ps.map (place lv)))[k]?.getD 0 = (tally (lv * lv).toNat (ps.map (place lv)))[k] := by
      rw [List.getElem?_eq_getElem hk]
      rfl
    rw [← q]
    unfold tally
    rw [this]
    simp [hk']
  rw [e]
  have a0 : 0 ≤ (k : Int) / lv := Int.ediv_nonneg (by omega) (by omega)
  have a1 : (k : Int) / lv < lv := Int.ediv_lt_of_lt_mul hl (by omega)
  have b0 := Int.emod_nonneg (k : Int) (show lv ≠ 0 by omega)
  have b1 := Int.emod_lt_of_pos (k : Int) hl
  have ek : place lv ((k : Int) / lv, (k : Int) % lv) = k := by
    have := Int.ediv_mul_add_emod (k : Int) lv
    unfold place
    show ((k : Int) / lv * lv + (k : Int) % lv).toNat = k
    omega
  have := count_place u.1 (r := ((k : Int) / lv, (k : Int) % lv)) ⟨a0, a1, b0, b1⟩
  rw [ek] at this
  rw [this]
  exact u.2 _ _ a0 a1 b0 b1
theorem uni_of {lv : Int} {ps : List (Int × Int)} (h : ∀ q ∈ ps, 0 ≤ q.1 ∧ q.1 < lv ∧ 0 ≤ q.2 ∧ q.2 < lv) (u : pairF lv ps = none) : Uni lv ps := by
  refine ⟨h, fun a b h1 h2 h3 h4 => ?_⟩
  have k := (place_lt (q := (a, b)) h1 h2 h3 h4).1
  have e := count_place h (r := (a, b)) ⟨h1, h2, h3, h4⟩
  have g := fold_get (ps.map (place lv)) (List.replicate (lv * lv).toNat 0) (place lv (a, b)) (by simpa using k)
  have hk : place lv (a, b) < (tally (lv * lv).toNat (ps.map (place lv))).length := by
    unfold tally
    rw [fold_length, List.length_replicate]
    exact k
  have w := badC_all u _ (List.getElem_mem hk)
  have q : (tally (lv * lv).toNat (ps.map (place lv)))[place lv (a, b)]?.getD 0 = (tally (lv * lv).toNat (ps.map (place lv)))[place lv (a, b)] := by
    rw [List.getElem?_eq_getElem hk]
    rfl
  rw [← q] at w
  unfold tally at w
  rw [g, e] at w
  simpa [k] using w
end K53

/-! The tables of all rows of digits: any two columns of different directions. -/
namespace K53
/-- sums of powers tell the counts -/
def psum (B : Nat) (l : List Nat) : Nat := (l.map (B ^ ·)).sum
def dsum (B : Nat) : List Nat → Nat
  | [] => 0
  | c :: cs => c + B * dsum B cs
theorem dsum_inj {B : Nat} : ∀ {cs ds : List Nat}, cs.length = ds.length → (∀ c ∈ cs, c < B) → (∀ c ∈ ds, c < B) → dsum B cs = dsum B ds → cs = ds
  | [], [], _, _, _, _ => rfl
  | [], _ :: _, h, _, _, _ => by simp at h
  | _ :: _, [], h, _, _, _ => by simp at h
  | c :: cs, d :: ds, h, h1, h2, e => by
    have c1 := h1 c List.mem_cons_self
    have d1 := h2 d List.mem_cons_self
    simp only [dsum] at e
    have e1 : (c + B * dsum B cs) % B = (d + B * dsum B ds) % B := by rw [e]
    rw [Nat.add_mul_mod_self_left, Nat.add_mul_mod_self_left, Nat.mod_eq_of_lt c1, Nat.mod_eq_of_lt d1] at e1
    subst e1
    have e2 : B * dsum B cs = B * dsum B ds := by omega
    have e3 := Nat.eq_of_mul_eq_mul_left (by omega) e2
    rw [dsum_inj (by simpa using h) (fun x m => h1 x (List.mem_cons_of_mem _ m)) (fun x m => h2 x (List.mem_cons_of_mem _ m)) e3]
theorem dsum_zero {B n : Nat} : dsum B (List.replicate n 0) = 0 := by
  induction n with
  | zero => rfl
  | succ n ih => rw [List.replicate_succ, dsum, ih]; simp
theorem dsum_bump {B : Nat} : ∀ (cs : List Nat) (k : Nat), k < cs.length → dsum B (cs.set k (cs[k]?.getD 0 + 1)) = dsum B cs + B ^ k
  | [], k, h => by simp at h
  | c :: cs, 0, h => by simp [dsum]; omega
  | c :: cs, k + 1, h => by
    have := dsum_bump (B := B) cs k (by simpa using h)
    simp only [List.set_cons_succ, List.getElem?_cons_succ, dsum, this, Nat.mul_add, Nat.pow_succ]
    rw [Nat.mul_comm B (B ^ k)]
    omega
def countsL (n : Nat) (l : List Nat) : List Nat := (List.range n).map fun k => l.count k
theorem counts_cons {n x : Nat} {l : List Nat} (h : x < n) : countsL n (x :: l) = (countsL n l).set x ((countsL n l)[x]?.getD 0 + 1) := by
  unfold countsL
  refine List.ext_getElem (by simp) fun k h1 h2 => ?_
  have hk : k < n := by simpa using h1
  rw [List.getElem_set]
  by_cases e : x = k
  · subst e
    simp [h]
  · simp [e, List.count_cons]
theorem psum_counts {B n : Nat} : ∀ {l : List Nat}, (∀ x ∈ l, x < n) → psum B l = dsum B (countsL n l)
  | [], _ => by
    have : countsL n [] = List.replicate n 0 := by
      unfold countsL
      simp [List.map_const']
    rw [this, dsum_zero]
    rfl
  | x :: l, h => by
    have hx := h x List.mem_cons_self
    rw [counts_cons hx, dsum_bump _ _ (by simpa [countsL] using hx), ← psum_counts fun y m => h y (List.mem_cons_of_mem _ m)]
    simp [psum]
    omega
theorem counts_all {B n c : Nat} {l : List Nat} (h : ∀ x ∈ l, x < n) (hB : l.length < B) (hc : c < B) (e : psum B l = dsum B (List.replicate n c)) : ∀ k < n, l.count k = c := by
  rw [psum_counts h] at e
  have q := dsum_inj (by simp [countsL]) (fun x m => by
    obtain ⟨k, _, rfl⟩ := List.mem_map.mp m
    exact Nat.lt_of_le_of_lt List.count_le_length hB) (fun x m => by rw [List.eq_of_mem_replicate m]; exact hc) e
  intro k hk
  have : (countsL n l)[k]? = some c := by rw [q]; simp [hk]
  simpa [countsL, hk] using this
/-- the rows of digits, as the law lists them -/
def vecs (lv : Nat) : Nat → List (List Int)
  | 0 => [[]]
  | d + 1 => (vecs lv d).flatMap fun v => (List.range lv).map fun x => v ++ [((x : Nat) : Int)]
def dot (v c : List Int) : Int := (List.zipWith (· * ·) v c).sum
def isDir (v : List Int) : Bool := (v.filter (fun x => decide (0 < x))).take 1 == [1]
def dirs (lv d : Nat) : List (List Int) := (vecs lv d).filter isDir
def pairV (lv d : Nat) (c e : List Int) : List (Int × Int) := (vecs lv d).map fun v => ((dot v c).fmod lv, (dot v e).fmod lv)
/-- the check over numbers -/
def dotN : List Nat → List Nat → Nat
  | a :: v, b :: c => a * b + dotN v c
  | _, _ => 0
def vecsN (lv : Nat) : Nat → List (List Nat)
  | 0 => [[]]
  | d + 1 => (vecsN lv d).flatMap fun v => (List.range lv).map fun x => v ++ [x]
def isDirN : List Nat → Bool
  | [] => false
  | 0 :: v => isDirN v
  | 1 :: _ => true
  | _ :: _ => false
def accN (B p : Nat) : List Nat → List Nat → Nat → Nat
  | a :: x, b :: y, r => accN B p x y (r + B ^ (a * p + b))
  | _, _, r => r
def tails (f : List Nat → List Nat → Bool) : List (List Nat) → Bool
  | [] => true
  | x :: l => l.all (fun y => f x y) && tails f l
def chkN (lv d : Nat) : Bool :=
  tails (fun x y => accN 1024 lv x y 0 == dsum 1024 (List.replicate (lv * lv) (lv ^ (d - 2)))) (((vecsN lv d).filter isDirN).map fun c => (vecsN lv d).map fun v => dotN v c % lv)
end K53

/-! The checks over numbers carried to the law's rows. -/
namespace K53
theorem acc_eq {B p : Nat} : ∀ (x y : List Nat) (r : Nat), accN B p x y r = r + psum B (List.zipWith (fun a b => a * p + b) x y)
  | [], _, r => by simp [accN, psum]
  | _ :: _, [], r => by simp [accN, psum]
  | a :: x, b :: y, r => by
    rw [accN, acc_eq x y]
    simp [psum]
    omega
def castL (l : List Nat) : List Int := l.map fun x => ((x : Nat) : Int)
theorem vecs_cast (lv : Nat) : ∀ d, vecs lv d = (vecsN lv d).map castL
  | 0 => rfl
  | d + 1 => by
    rw [vecs, vecsN, vecs_cast lv d, List.flatMap_map, List.map_flatMap]
    congr 1
    funext v
    simp [castL]
theorem dot_cast : ∀ v c : List Nat, dot (castL v) (castL c) = (dotN v c : Int)
  | [], _ => by simp [dot, dotN, castL]
  | _ :: _, [] => by simp [dot, dotN, castL]
  | a :: v, b :: c => by
    have := dot_cast v c
    simp only [dot, castL, List.map_cons, List.zipWith_cons_cons, List.sum_cons, dotN] at this ⊢
    rw [this]
    push_cast
    rfl
theorem isDir_cast : ∀ v : List Nat, isDir (castL v) = isDirN v
  | [] => rfl
  | 0 :: v => by
    have := isDir_cast v
    simpa [isDir, castL, isDirN] using this
  | 1 :: v => by simp [isDir, castL, isDirN]
  | (n + 2) :: v => by
    have h : (0 : Int) < ((n + 2 : Nat) : Int) := by omega
    have h2 : ((n + 2 : Nat) : Int) ≠ 1 := by omega
    unfold isDir castL
    rw [List.map_cons, List.filter_cons_of_pos (by simpa using h)]
    simp [isDirN]
    omega
theorem dirs_cast (lv d : Nat) : dirs lv d = ((vecsN lv d).filter isDirN).map castL := by
  unfold dirs
  rw [vecs_cast, List.filter_map]
  congr 1
  refine List.filter_congr fun v _ => isDir_cast v
theorem tails_get {f : List Nat → List Nat → Bool} {α : Type} {g : α → List Nat} : ∀ {l : List α}, tails f (l.map g) = true → ∀ a ∈ l, ∀ b ∈ l, a = b ∨ f (g a) (g b) = true ∨ f (g b) (g a) = true
  | [], _, a, m, _, _ => absurd m List.not_mem_nil
  | x :: l, h, a, ma, b, mb => by
    simp only [List.map_cons, tails, Bool.and_eq_true, List.all_eq_true] at h
    rcases List.mem_cons.mp ma with ea | ma
    · rcases List.mem_cons.mp mb with eb | mb
      · exact .inl (ea.trans eb.symm)
      · exact .inr (.inl (by rw [ea]; exact h.1 _ (List.mem_map_of_mem mb)))
    · rcases List.mem_cons.mp mb with eb | mb
      · exact .inr (.inr (by rw [eb]; exact h.1 _ (List.mem_map_of_mem ma)))
      · exact tails_get h.2 a ma b mb
def chkS (lv d : Nat) : Bool := chkN lv d && ((vecsN lv d).length == lv ^ (d - 2) * lv * lv && (decide ((vecsN lv d).length < 1024) && (decide (lv ^ (d - 2) < 1024) && decide (0 < lv))))
theorem pairV_cast (lv d : Nat) (c e : List Nat) : pairV lv d (castL c) (castL e) = (vecsN lv d).map fun v => (((dotN v c % lv : Nat) : Int), ((dotN v e % lv : Nat) : Int)) := by
  unfold pairV
  rw [vecs_cast, List.map_map]
  refine List.map_congr_left fun v _ => ?_
  simp only [Function.comp, dot_cast]
  rw [Int.fmod_eq_emod_of_nonneg _ (by omega), Int.fmod_eq_emod_of_nonneg _ (by omega)]
  push_cast
  rfl
theorem one_chk {lv d : Nat} {c e : List Nat} (hl : 0 < lv) (hn : (vecsN lv d).length = lv ^ (d - 2) * lv * lv) (h1 : (vecsN lv d).length < 1024) (h2 : lv ^ (d - 2) < 1024)
    (h : accN 1024 lv ((vecsN lv d).map fun v => dotN v c % lv) ((vecsN lv d).map fun v => dotN v e % lv) 0 = dsum 1024 (List.replicate (lv * lv) (lv ^ (d - 2)))) : Uni lv (pairV lv d (castL c) (castL e)) := by
  rw [pairV_cast]
  have rg : ∀ q ∈ (vecsN lv d).map fun v => (((dotN v c % lv : Nat) : Int), ((dotN v e % lv : Nat) : Int)), 0 ≤ q.1 ∧ q.1 < (lv : Int) ∧ 0 ≤ q.2 ∧ q.2 < (lv : Int) := by
    intro q m
    obtain ⟨v, _, rfl⟩ := List.mem_map.mp m
    have a := Nat.mod_lt (dotN v c) hl
    have b := Nat.mod_lt (dotN v e) hl
    show 0 ≤ ((dotN v c % lv : Nat) : Int) ∧ ((dotN v c % lv : Nat) : Int) < lv ∧ 0 ≤ ((dotN v e % lv : Nat) : Int) ∧ ((dotN v e % lv : Nat) : Int) < lv
    omega
  rw [acc_eq, Nat.zero_add] at h
  have zw : List.zipWith (fun a b => a * lv + b) ((vecsN lv d).map fun v => dotN v c % lv) ((vecsN lv d).map fun v => dotN v e % lv) = ((vecsN lv d).map fun v => (((dotN v c % lv : Nat) : Int), ((dotN v e % lv : Nat) : Int))).map (place lv) := by
    rw [List.zipWith_map, List.zipWith_self, List.map_map]
    refine List.map_congr_left fun v _ => ?_
    show _ = (((dotN v c % lv : Nat) : Int) * lv + ((dotN v e % lv : Nat) : Int)).toNat
    rw [show (((dotN v c % lv : Nat) : Int) * lv + ((dotN v e % lv : Nat) : Int)) = ((dotN v c % lv * lv + dotN v e % lv : Nat) : Int) by push_cast; rfl]
    rfl
  rw [zw] at h
  generalize hps : ((vecsN lv d).map fun v => (((dotN v c % lv : Nat) : Int), ((dotN v e % lv : Nat) : Int))) = ps at *
  have hlen : ps.length = (vecsN lv d).length := by rw [← hps]; simp
  refine ⟨rg, fun a b a0 a1 b0 b1 => ?_⟩
  have pl := (place_lt (q := (a, b)) a0 a1 b0 b1).1
  have cnt := counts_all (n := lv * lv) (c := lv ^ (d - 2)) (l := ps.map (place lv)) (fun x m => by
    obtain ⟨q, mq, rfl⟩ := List.mem_map.mp m
    obtain ⟨q1, q2, q3, q4⟩ := rg q mq
    have := (place_lt q1 q2 q3 q4).1
    have e : ((lv : Int) * lv).toNat = lv * lv := by
      rw [← Int.natCast_mul]
      rfl
    omega) (by rw [List.length_map, hlen]; exact h1) h2 h (place lv (a, b)) (by
    have e : ((lv : Int) * lv).toNat = lv * lv := by
      rw [← Int.natCast_mul]
      rfl
    omega)
  rw [count_place rg (r := (a, b)) ⟨a0, a1, b0, b1⟩] at cnt
  rw [cnt, hlen, hn]
  push_cast
  rfl
theorem uni_dirs {lv d : Nat} (h : chkS lv d = true) : ∀ c ∈ dirs lv d, ∀ e ∈ dirs lv d, c ≠ e → Uni lv (pairV lv d c e) := by
  unfold chkS chkN at h
  simp only [Bool.and_eq_true, beq_iff_eq, decide_eq_true_eq] at h
  obtain ⟨h1, h2, h3, h4, h5⟩ := h
  intro c mc e me ne
  rw [dirs_cast] at mc me
  obtain ⟨c', mc', rfl⟩ := List.mem_map.mp mc
  obtain ⟨e', me', rfl⟩ := List.mem_map.mp me
  rcases tails_get h1 c' mc' e' me' with h | h | h
  · exact absurd (by rw [h]) ne
  · exact one_chk h5 h2 h3 h4 (by simpa using h)
  · have := (one_chk h5 h2 h3 h4 (by simpa using h)).swap
    unfold pairV at this ⊢
    rwa [List.map_map] at this
/-- the law's tables of sums -/
def rowsT (lv d : Nat) (cols : List (List Int)) (s : Int) : List (List Int) := (vecs lv d).map fun v => cols.map fun c => (dot v c + s).fmod lv
theorem uni_rows {lv d : Nat} (h : chkS lv d = true) {cols : List (List Int)} {s : Int} (hm : ∀ c ∈ cols, c ∈ dirs lv d) (hn : cols.Nodup) {i j : Nat} (hi : i < cols.length) (hj : j < cols.length) (ne : i ≠ j) :
    Uni lv (pairIJ (rowsT lv d cols s) i j) := by
  have hl : 0 < (lv : Int) := by
    unfold chkS at h
    simp only [Bool.and_eq_true, decide_eq_true_eq] at h
    omega
  have nc : cols[i] ≠ cols[j] := fun e => ne (by
    have := (List.getElem_inj hn).mp e
    exact this)
  have u := (uni_dirs h _ (hm _ (List.getElem_mem hi)) _ (hm _ (List.getElem_mem hj)) nc).turn hl s
  have e : pairIJ (rowsT lv d cols s) i j = (pairV lv d cols[i] cols[j]).map fun q => ((q.1 + s).fmod lv, (q.2 + s).fmod lv) := by
    unfold pairIJ rowsT pairV
    rw [List.map_map, List.map_map]
    refine List.map_congr_left fun v _ => ?_
    have fm : ∀ x : Int, (x.fmod lv + s).fmod lv = (x + s).fmod lv := fun x => by
      rw [Int.fmod_eq_emod_of_nonneg _ (by omega), Int.fmod_eq_emod_of_nonneg _ (by omega), Int.fmod_eq_emod_of_nonneg _ (by omega), Int.emod_add_emod]
    simp [hi, hj, fm]
  rw [e]
  exact u
end K53

/-! Good tables: no fault, the bound. -/
namespace K53
structure Good (lv : Int) (rows : List (List Int)) (w : Nat) : Prop where
  tab : Tab lv rows w
  uni : ∀ i j, i < w → j < w → i ≠ j → Uni lv (pairIJ rows i j)
theorem Good.perm {lv : Int} {rows qs : List (List Int)} {w : Nat} (h : rows.Perm qs) (g : Good lv rows w) : Good lv qs w :=
  ⟨⟨g.tab.lvs, g.tab.w1, by rw [← h.length_eq]; exact g.tab.n1, fun r m => g.tab.len r (h.mem_iff.mpr m), fun r m => g.tab.ent r (h.mem_iff.mpr m)⟩,
    fun i j hi hj ne => (g.uni i j hi hj ne).perm (h.map _)⟩
theorem Good.twice {lv : Int} {rows : List (List Int)} {w : Nat} (g : Good lv rows w) (h : rows.length ≤ 64) : Good lv (rows ++ rows) w :=
  ⟨⟨g.tab.lvs, g.tab.w1, by have := g.tab.n1; rw [List.length_append]; omega, fun r m => g.tab.len r ((List.mem_append.mp m).elim id id), fun r m => g.tab.ent r ((List.mem_append.mp m).elim id id)⟩,
    fun i j hi hj ne => by
      unfold pairIJ
      rw [List.map_append]
      exact (g.uni i j hi hj ne).app (g.uni i j hi hj ne)⟩
theorem Good.turnR {lv : Int} {rows : List (List Int)} {w : Nat} (g : Good lv rows w) (k : Nat) : Good lv (rows.drop k ++ rows.take k) w :=
  g.perm (by
    have := List.perm_append_comm (l₁ := rows.take k) (l₂ := rows.drop k)
    rwa [List.take_append_drop] at this)
theorem jF_none {lv : Int} {rows : List (List Int)} {w i : Nat} (g : Good lv rows w) (hi : i < w) : ∀ js : List Nat, (∀ j ∈ js, j < w ∧ i ≠ j) → jF lv rows i js = none
  | [], _ => rfl
  | j :: js, h => by
    have hj := h j List.mem_cons_self
    unfold jF
    rw [pair_none (by have := g.tab.lvs; omega) (g.uni i j hi hj.1 hj.2)]
    exact jF_none g hi js fun k m => h k (List.mem_cons_of_mem _ m)
theorem iF_none {lv : Int} {rows : List (List Int)} {w : Nat} (g : Good lv rows w) : ∀ is : List Nat, (∀ i ∈ is, i < w) → iF lv rows w is = none
  | [], _ => rfl
  | i :: is, h => by
    unfold iF
    rw [jF_none g (h i List.mem_cons_self) _ fun j m => by
      obtain ⟨k, mk, rfl⟩ := List.mem_map.mp m
      have := List.mem_range.mp mk
      omega]
    exact iF_none g is fun k m => h k (List.mem_cons_of_mem _ m)
/-- the checks of a table at hand -/
def chkG (lv : Int) (rows : List (List Int)) (w : Nat) : Bool :=
  decide (2 ≤ lv ∧ lv ≤ 20 ∧ 1 ≤ w ∧ w ≤ 30 ∧ 1 ≤ rows.length ∧ rows.length ≤ 200) && (rows.all (fun r => r.length == w && r.all fun x => decide (0 ≤ x ∧ x < lv)) &&
    (List.range w).all fun i => (List.range w).all fun j => i == j || (pairF lv (pairIJ rows i j)).isNone)
theorem pairIJ_in {lv : Int} {rows : List (List Int)} {w : Nat} (T : Tab lv rows w) {i j : Nat} (hi : i < w) (hj : j < w) : ∀ q ∈ pairIJ rows i j, 0 ≤ q.1 ∧ q.1 < lv ∧ 0 ≤ q.2 ∧ q.2 < lv := by
  intro q m
  obtain ⟨r, mr, rfl⟩ := List.mem_map.mp m
  have hl := T.len r mr
  have a : r[i]? = some (r[i]'(by omega)) := List.getElem?_eq_getElem _
  have b : r[j]? = some (r[j]'(by omega)) := List.getElem?_eq_getElem _
  rw [a, b]
  have x := T.ent r mr _ (List.getElem_mem (show i < r.length by omega))
  have y := T.ent r mr _ (List.getElem_mem (show j < r.length by omega))
  exact ⟨x.1, x.2, y.1, y.2⟩
theorem good_of {lv : Int} {rows : List (List Int)} {w : Nat} (h : chkG lv rows w = true) : Good lv rows w := by
  unfold chkG at h
  simp only [Bool.and_eq_true, decide_eq_true_eq, List.all_eq_true, beq_iff_eq, Bool.or_eq_true, List.mem_range, Option.isNone_iff_eq_none] at h
  obtain ⟨⟨a, b, c, d, e, f⟩, h1, h2⟩ := h
  have T : Tab lv rows w := ⟨⟨a, b⟩, ⟨c, d⟩, ⟨e, f⟩, fun r m => (h1 r m).1, fun r m => (h1 r m).2⟩
  refine ⟨T, fun i j hi hj ne => uni_of (pairIJ_in T hi hj) ?_⟩
  rcases h2 i hi j hj with h | h
  · exact absurd h ne
  · exact h
/-- the agreements of two rows, as the law counts them -/
def agree (w : Nat) (x y : List Int) : Nat := ((List.range w).filter fun t => decide (x[t]?.getD 0 = y[t]?.getD 0)).length
theorem agree_eq (w : Nat) (x y : List Int) : eqs w x y = (agree w x y : Nat) := by
  unfold eqs agree
  rw [sm_ind, List.countP_eq_length_filter]
theorem eqs_comm (w : Nat) (x y : List Int) : eqs w x y = eqs w y x := by
  unfold eqs
  refine sm_congr fun t _ => ?_
  unfold ind
  by_cases h : x[t]?.getD 0 = y[t]?.getD 0
  · rw [if_pos h, if_pos h.symm]
  · rw [if_neg h, if_neg fun e => h e.symm]
theorem count_sm {rows : List (List Int)} {t u : Nat} {a b : Int} : sm rows (fun y => ind (a = y[t]?.getD 0 ∧ b = y[u]?.getD 0)) = ((pairIJ rows t u).count (a, b) : Nat) := by
  rw [sm_ind]
  unfold pairIJ
  rw [List.count_eq_countP, List.countP_map]
  congr 1
  refine List.countP_congr fun y _ => ?_
  simp only [Function.comp, beq_iff_eq, decide_eq_true_eq, Prod.mk.injEq]
  exact ⟨fun h => ⟨h.1.symm, h.2.symm⟩, fun h => ⟨h.1.symm, h.2.symm⟩⟩
theorem one_sm {s : Nat} {z : Int} (h : 0 ≤ z ∧ z < s) : sm (List.range s) (fun b => ind (((b : Nat) : Int) = z)) = 1 := by
  obtain ⟨k, rfl⟩ := Int.eq_ofNat_of_zero_le h.1
  rw [sm_congr (g := fun b => if b = k then 1 else 0) fun b _ => by
    unfold ind
    by_cases e : b = k
    · rw [if_pos (by omega), if_pos e]
    · rw [if_neg (by omega), if_neg e], sm_range_ne s k (by omega)]
  omega
theorem cancel2 {a b s n : Int} (hs : 0 < s) (h1 : a * s * s = n) (h2 : b * s * s = n) : a = b := by
  have h3 : a * s * s = b * s * s := h1.trans h2.symm
  exact Int.eq_of_mul_eq_mul_right (by omega) (Int.eq_of_mul_eq_mul_right (by omega) h3)
theorem erase_perm {rows : List (List Int)} {i : Nat} (h : i < rows.length) : rows.Perm (rows[i] :: rows.eraseIdx i) := by
  rw [List.eraseIdx_eq_take_drop_succ]
  have e : rows = rows.take i ++ rows[i] :: rows.drop (i + 1) := by
    rw [List.getElem_cons_drop, List.take_append_drop]
  exact (List.Perm.of_eq e).trans List.perm_middle
theorem row_facts {lv : Int} {rows : List (List Int)} {w : Nat} (g : Good lv rows w) (hw : 2 ≤ w) : ∃ lam : Int, 1 ≤ lam ∧ (rows.length : Int) = lam * lv * lv ∧ ∀ (i : Nat) (h : i < rows.length),
    sm (rows.eraseIdx i) (eqs w rows[i]) = w * (lam * lv - 1) ∧ (w : Int) * (lv - 1) ≤ rows.length - 1 ∧ (((w : Int) * (lv - 1) = rows.length - 1) ↔ ∀ y ∈ rows.eraseIdx i, (rows.length - 1) * eqs w rows[i] y = sm (rows.eraseIdx i) (eqs w rows[i])) := by
  have hlv := g.tab.lvs
  have u01 := g.uni 0 1 (by omega) (by omega) (by omega)
  have len : ∀ i j, (pairIJ rows i j).length = rows.length := fun i j => by simp [pairIJ]
  have e0 := u01.2 0 0 (by omega) (by omega) (by omega) (by omega)
  rw [len] at e0
  refine ⟨((pairIJ rows 0 1).count ((0 : Int), (0 : Int)) : Nat), ?_, e0.symm, fun i h => ?_⟩
  · have := g.tab.n1
    generalize (pairIJ rows 0 1).count ((0 : Int), (0 : Int)) = c at e0
    cases c with
    | zero => simp at e0; omega
    | succ c => omega
  · generalize hl : (((pairIJ rows 0 1).count ((0 : Int), (0 : Int)) : Nat) : Int) = lam at e0
    have l1 : 1 ≤ lam := by
      have := g.tab.n1
      have c0 : 0 ≤ lam := by omega
      rcases Int.lt_or_le lam 1 with q | q
      · have : lam = 0 := by omega
        subst this
        simp at e0
        omega
      · exact q
    have two : ∀ t u a b, t < w → u < w → t ≠ u → 0 ≤ a → a < lv → 0 ≤ b → b < lv → sm rows (fun y => ind (a = y[t]?.getD 0 ∧ b = y[u]?.getD 0)) = lam := fun t u a b ht hu ne a0 a1 b0 b1 => by
      rw [count_sm]
      have q := (g.uni t u ht hu ne).2 a b a0 a1 b0 b1
      rw [len] at q
      exact cancel2 (by omega) q e0
    have inr : ∀ r ∈ rows, ∀ t, t < w → 0 ≤ r[t]?.getD 0 ∧ r[t]?.getD 0 < lv := fun r m t ht => by
      have hl := g.tab.len r m
      rw [List.getElem?_eq_getElem (show t < r.length by omega)]
      exact g.tab.ent r m _ (List.getElem_mem _)
    refine rao (erase_perm h) hlv.1 l1 hw (fun t ht => ?_) (fun t ht u hu ne => ?_) e0.symm
    · have hu : ∃ u, u < w ∧ t ≠ u := by
        by_cases z : t = 0
        · exact ⟨1, by omega, by omega⟩
        · exact ⟨0, by omega, z⟩
      obtain ⟨u, hu, ne⟩ := hu
      obtain ⟨s, hs⟩ := Int.eq_ofNat_of_zero_le (show 0 ≤ lv by omega)
      have e1 : sm rows (fun y => ind ((rows[i])[t]?.getD 0 = y[t]?.getD 0)) = sm rows (fun y => sm (List.range s) fun b => ind ((rows[i])[t]?.getD 0 = y[t]?.getD 0 ∧ ((b : Nat) : Int) = y[u]?.getD 0)) := by
        refine sm_congr fun y my => ?_
        rw [sm_congr (g := fun b => ind ((rows[i])[t]?.getD 0 = y[t]?.getD 0) * ind (((b : Nat) : Int) = y[u]?.getD 0)) fun b _ => (ind_mul _ _).symm, sm_mul, one_sm (by have := inr y my u hu; omega)]
        omega
      obtain ⟨a0, a1⟩ := inr _ (List.getElem_mem h) t ht
      rw [e1, sm_swap, sm_congr (g := fun _ => lam) fun b mb => by
        have := List.mem_range.mp mb
        exact two t u _ _ ht hu ne a0 a1 (by omega) (by omega), sm_const, List.length_range, hs, Int.mul_comm]
    · obtain ⟨a0, a1⟩ := inr _ (List.getElem_mem h) t ht
      obtain ⟨b0, b1⟩ := inr _ (List.getElem_mem h) u hu
      exact two t u _ _ ht hu ne a0 a1 b0 b1
theorem bound_main {lv : Int} {rows : List (List Int)} {w : Nat} (g : Good lv rows w) (hw : 2 ≤ w) : 1 + (w : Int) * (lv - 1) ≤ rows.length ∧ 2 ≤ rows.length ∧
    (((rows.length : Int) = 1 + (w : Int) * (lv - 1)) ↔ ∃ c : Nat, ∀ (i j : Nat) (hi : i < rows.length) (hj : j < i), agree w rows[i] (rows[j]'(by omega)) = c) := by
  obtain ⟨lam, hl, hn, F⟩ := row_facts g hw
  have hlv := g.tab.lvs
  have n2 : 2 ≤ rows.length := by
    have a1 : 1 * 2 ≤ lam * lv := Int.mul_le_mul hl hlv.1 (by omega) (by omega)
    have a2 : (lam * lv) * 2 ≤ lam * lv * lv := Int.mul_le_mul_of_nonneg_left hlv.1 (by omega)
    omega
  have f0 := F 0 (by omega)
  refine ⟨by omega, n2, ?_⟩
  constructor
  · intro e
    have key : ∀ (i j : Nat) (hi : i < rows.length) (hj : j < i), ((rows.length : Int) - 1) * (agree w rows[i] (rows[j]'(by omega)) : Nat) = w * (lam * lv - 1) := by
      intro i j hi hj
      obtain ⟨s1, _, s3⟩ := F i hi
      have m : rows[j]'(by omega) ∈ rows.eraseIdx i := by
        rw [List.mem_eraseIdx_iff_getElem]
        exact ⟨j, by omega, by omega, rfl⟩
      have := s3.mp (by omega) _ m
      rw [agree_eq] at this
      rw [this, s1]
    refine ⟨agree w rows[1] rows[0], fun i j hi hj => ?_⟩
    have k1 := key i j hi hj
    have k2 := key 1 0 (by omega) (by omega)
    have := Int.eq_of_mul_eq_mul_left (show (rows.length : Int) - 1 ≠ 0 by omega) (k1.trans k2.symm)
    omega
  · rintro ⟨c, h⟩
    have hi : rows.length - 1 < rows.length := by omega
    obtain ⟨s1, _, s3⟩ := F (rows.length - 1) hi
    have all : ∀ y ∈ rows.eraseIdx (rows.length - 1), eqs w rows[rows.length - 1] y = c := by
      intro y m
      rw [List.mem_eraseIdx_iff_getElem] at m
      obtain ⟨j, hj, ne, rfl⟩ := m
      rw [agree_eq, h (rows.length - 1) j hi (by omega)]
    have e := s3.mpr fun y m => by
      rw [all y m, sm_congr (g := fun _ => (c : Int)) all, sm_const, List.length_eraseIdx]
      rw [if_pos hi]
      congr 1
      omega
    omega
/-! the list of different things -/
section
variable {α : Type} [DecidableEq α]
def addN (al : List α) (m : α) : List α := if m ∈ al then al else al ++ [m]
theorem addN_mem {al : List α} {m x : α} : x ∈ addN al m ↔ x ∈ al ∨ x = m := by
  unfold addN
  split
  · rename_i h
    constructor
    · exact .inl
    · rintro (h | rfl)
      · exact h
      · exact h
  · simp
theorem addN_nodup {al : List α} {m : α} (h : al.Nodup) : (addN al m).Nodup := by
  unfold addN
  split
  · exact h
  · rename_i n
    rw [List.nodup_append]
    exact ⟨h, by simp, fun a ha b hb => by
      have : b = m := by simpa using hb
      rw [this]
      rintro rfl
      exact n ha⟩
theorem addN_len {al : List α} {m : α} : (addN al m).length ≤ al.length + 1 := by
  unfold addN
  split
  · omega
  · simp
theorem fold_mem : ∀ (l al : List α) (x : α), x ∈ l.foldl addN al ↔ x ∈ al ∨ x ∈ l
  | [], al, x => by simp
  | m :: l, al, x => by
    rw [List.foldl_cons, fold_mem l, addN_mem, List.mem_cons, or_assoc]
theorem fold_nodup : ∀ (l al : List α), al.Nodup → (l.foldl addN al).Nodup
  | [], _, h => h
  | _ :: l, _, h => fold_nodup l _ (addN_nodup h)
theorem fold_len : ∀ (l al : List α), (l.foldl addN al).length ≤ al.length + l.length
  | [], al => by simp
  | m :: l, al => by
    have := fold_len l (addN al m)
    have h2 := addN_len (al := al) (m := m)
    rw [List.foldl_cons, List.length_cons]
    omega
theorem fold_one {l : List α} (ne : l ≠ []) : (l.foldl addN []).length = 1 ↔ ∃ c, ∀ x ∈ l, x = c := by
  have mem := fold_mem l []
  have nd := fold_nodup l [] List.nodup_nil
  generalize l.foldl addN [] = r at mem nd
  simp at mem
  constructor
  · intro h
    obtain ⟨c, rfl⟩ := List.length_eq_one_iff.mp h
    exact ⟨c, fun x m => by simpa using (mem x).mpr m⟩
  · rintro ⟨c, h⟩
    cases r with
    | nil =>
      cases l with
      | nil => exact absurd rfl ne
      | cons x l => exact absurd ((mem x).mpr List.mem_cons_self) List.not_mem_nil
    | cons a r =>
      cases r with
      | nil => rfl
      | cons b r =>
        have ea := h a ((mem a).mp List.mem_cons_self)
        have eb := h b ((mem b).mp (List.mem_cons_of_mem _ List.mem_cons_self))
        rw [ea, eb] at nd
        simp at nd
end
end K53

/-! _law_asked says True of every table of ints. -/
namespace K53
open PySem MB
theorem three_dat {n : Nat} {s : String} {k : Int} (h : PyData.strOk (.ofString s) = true) : Dat (n + 1) (.tup [.str (.ofString s), .int k, .bl true]) := .tup (fun d hd => by
  simp only [List.mem_cons, List.not_mem_nil, or_false] at hd
  rcases hd with rfl | rfl | rfl
  · exact .str h
  · exact .int _
  · exact .bl _)
theorem ans_dat {n : Nat} {x : Ex} {d : D} (h : Ans x d) : Dat (n + 1) d := by
  cases h with
  | n k => exact three_dat (by decide +kernel)
  | s k => exact three_dat (by decide +kernel)
  | p k => exact three_dat (by decide +kernel)
theorem ref_dat {n : Nat} {lv : Int} {rows : List (List Int)} {d : D} (h : refD lv rows = some d) : Dat (n + 1) d := by
  have r := rel_all (lv := lv) rows
  rw [h] at r
  cases e : lookF lv rows with
  | none => rw [e] at r; exact r.elim
  | some x => rw [e] at r; exact ans_dat r
theorem five_dat {n : Nat} {a b c d e : Int} : Dat (n + 1) (.tup [.int a, .int b, .int c, .int d, .int e]) := .tup (fun x hd => by
  simp only [List.mem_cons, List.not_mem_nil, or_false] at hd
  rcases hd with rfl | rfl | rfl | rfl | rfl <;> exact .int _)
theorem fault_dat {n : Nat} {lv : Int} {rows : List (List Int)} {w : Nat} : ∀ is, Dat (n + 1) (faultD (iF lv rows w is)) := by
  have hj : ∀ i js, Dat (n + 1) (faultD (jF lv rows i js)) := by
    intro i js
    induction js with
    | nil => exact .non
    | cons j js ih =>
      unfold jF
      cases pairF lv (pairIJ rows i j) with
      | none => exact ih
      | some p => exact five_dat
  intro is
  induction is with
  | nil => exact .non
  | cons i is ih =>
    unfold iF
    have := hj i (aft w i)
    cases e : jF lv rows i (aft w i) with
    | none => exact ih
    | some d => rw [e] at this; exact this
theorem tell_dat {lv : Int} {rows : List (List Int)} : Dat 5 (tellD lv rows) := by
  unfold tellD
  cases e : refD lv rows with
  | some d => exact ref_dat e
  | none => exact .tup (fun x hd => by
      simp only [List.mem_cons, List.not_mem_nil, or_false] at hd
      rcases hd with rfl | rfl
      · exact .str (by decide +kernel)
      · exact fault_dat _)
/-- rows not too long to be compared -/
def Fair (rows : List (List Int)) : Prop := rows.length ≤ 1000 ∧ ∀ r ∈ rows, r.length ≤ 1000
theorem row_dat {t : Bool} {r : List Int} (h : r.length ≤ 1000) : Dat 1 (rowD t r) := by
  cases t
  · exact .lst (fun d hd => by
      obtain ⟨x, _, rfl⟩ := List.mem_map.mp hd
      exact .int _) (by rw [List.length_map]; omega)
  · exact .tup (fun d hd => by
      obtain ⟨x, _, rfl⟩ := List.mem_map.mp hd
      exact .int _) (by rw [List.length_map]; omega)
theorem tab_dat {t : Bool} {rows : List (List Int)} (h : Fair rows) : Dat 2 (tabD t rows) := by
  have q : ∀ d ∈ rows.map (rowD t), Dat 1 d := fun d hd => by
    obtain ⟨r, mr, rfl⟩ := List.mem_map.mp hd
    exact row_dat (h.2 r mr)
  have l : (rows.map (rowD t)).length ≤ 1000000 := by
    have := h.1
    rw [List.length_map]
    omega
  cases t
  · exact .lst q l
  · exact .tup q l
def aE (lv : Int) (d : D) (t : Bool) (x3 x4 x5 x6 : Option Sl) (S : Store) : En := ⟨[some (.val (.int lv)), some (.val d), some (.val (.bl t)), x3, x4, x5, x6], S⟩
theorem copy_rows {rows : List (List Int)} (h : Fair rows) {lv : Int} {t : Bool} {x3 x4 x5 x6 : Option Sl} {S : Store} (h5 : x5 = none) :
    eComp it__law_asked_0 (bNm 5) (eC (.bl true)) ce__law_asked_1 [5] (aE lv (tabD false rows) t x3 x4 x5 x6 S) = .ok (tabD false rows) (aE lv (tabD false rows) t x3 x4 x5 x6 S) := by
  subst h5
  refine (eComp_map (ds := rows.map (rowD false)) (g := fun d => d) (ρ1 := aE lv (tabD false rows) t x3 x4 none x6 S) ?_ (by have := h.1; rw [List.length_map]; omega) ?_).trans ?_
  · simp [it__law_asked_0, aE, tabD, seqD]
  · intro d hd
    obtain ⟨r, mr, rfl⟩ := List.mem_map.mp hd
    refine ⟨aE lv (tabD false rows) t x3 x4 (some (.val (rowD false r))) x6 S, by simp [aE], aE lv (tabD false rows) t x3 x4 (some (.val (rowD false r))) x6 S, ?_, by simp [aE]⟩
    simp [ce__law_asked_1, aE, rowD, seqD]
  · rw [show (fun d : D => d) = id from rfl, List.map_id]
    simp [aE, tabD, seqD]
theorem tup_rows {rows : List (List Int)} (h : Fair rows) {lv : Int} {t : Bool} {x3 x4 x6 : Option Sl} {S : Store} :
    eComp it__law_asked_2 (bNm 5) (eC (.bl true)) ce__law_asked_3 [5] (aE lv (tabD false rows) t x3 x4 none x6 S) = .ok (.lst (rows.map (rowD true))) (aE lv (tabD false rows) t x3 x4 none x6 S) := by
  refine (eComp_map (ds := rows.map (rowD false)) (g := fun d => match d with | .lst l => .tup l | d => d) (ρ1 := aE lv (tabD false rows) t x3 x4 none x6 S) ?_ (by have := h.1; rw [List.length_map]; omega) ?_).trans ?_
  · simp [it__law_asked_2, aE, tabD, seqD]
  · intro d hd
    obtain ⟨r, mr, rfl⟩ := List.mem_map.mp hd
    refine ⟨aE lv (tabD false rows) t x3 x4 (some (.val (rowD false r))) x6 S, by simp [aE], aE lv (tabD false rows) t x3 x4 (some (.val (rowD false r))) x6 S, ?_, by simp [aE]⟩
    simp [ce__law_asked_3, aE, rowD, seqD]
  · rw [List.map_map]
    simp [aE]
    exact fun a _ => rfl
theorem asked_ok {lv : Int} {rows : List (List Int)} {t : Bool} {S : Store} (h : Fair rows) : m__law_asked [.int lv, tabD false rows, .bl t] S = .ok (.bl true) S := by
  have q1 := refusal_ok (t := false) (lv := lv) (rows := rows) (S := S)
  have q2 := told_spec (t := t) (lv := lv) (rows := rows) (S := S)
  have q3 := same_refl (S := S) (tell_dat (lv := lv) (rows := rows))
  have q4 : eqD (tabD false rows) (tabD false rows) = some (.bl true) := by
    unfold eqD
    rw [eqB_refl (tab_dat h) (by decide)]
    rfl
  have q5 : seeD S 3 (tabD false rows) = tabD false rows := seeD_dat (tab_dat h) 3
  have c1 := copy_rows h (lv := lv) (t := t) (x3 := some (.val (tellD lv rows))) (x4 := none) (x5 := none) (x6 := none) (S := S) rfl
  have c2 := tup_rows h (lv := lv) (t := t) (x3 := some (.val (tellD lv rows))) (x4 := some (.val (tabD false rows))) (x6 := none) (S := S)
  unfold aE at c1 c2
  refine run_id ?_ (by simp)
  cases t
  · simp [-eComp_ap, b__law_asked, q1, c1, q2, q3, q4, q5]
  · have e : D.tup (rows.map (rowD true)) = tabD true rows := rfl
    simp [-eComp_ap, b__law_asked, q1, c1, c2, e, q2, q3, q4, q5]
end K53

/-! _law_bound says True of good tables. -/
namespace K53
open PySem MB
theorem in_ints {z : Int} {ns : List Int} : inM (.int z) (.lst (ns.map D.int)) = some (.bl (decide (z ∈ ns))) := by
  show (match inB (.int z) (ns.map D.int) with
    | some b => some (D.bl b)
    | none => (inDeep (.int z) (ns.map D.int)).map .bl) = _
  have h : inB (.int z) (ns.map D.int) = some (decide (z ∈ ns)) := by
    unfold inB
    have a : (flat (.int z) && (ns.map D.int).all flat) = true := by
      simp
    rw [if_pos a]
    congr 1
    induction ns with
    | nil => rfl
    | cons n ns ih =>
      rw [List.map_cons, List.any_cons, ih]
      · by_cases e : n = z
        · subst e; simp
        · have e2 : ¬ z = n := fun q => e q.symm
          simp [e, e2]
      · simp
  rw [h]
def rowAt (rows : List (List Int)) (i : Nat) : List Int := rows[i]?.getD []
theorem ix_tab {t : Bool} {rows : List (List Int)} {i : Nat} {S : Store} (h : i < rows.length) : ixS S (tabD t rows) (.int (i : Nat)) = some (rowD t (rowAt rows i)) := by
  have e : ixS S (tabD t rows) (.int (i : Nat)) = L2.atI (rows.map (rowD t)) ((i : Nat) : Int) := by cases t <;> rfl
  rw [e, atI_nat', List.getElem?_map]
  unfold rowAt
  rw [List.getElem?_eq_getElem h]
  rfl
theorem ix_row2 {t : Bool} {r : List Int} {k : Nat} {S : Store} (h : k < r.length) : ixS S (rowD t r) (.int (k : Nat)) = some (.int (r[k]?.getD 0)) := ixS_seq.trans (ix_row h)
theorem ct_l {di dj dk dt ri rj : D} {a b : Int} {x0 x2 x3 x4 x7 : Option Sl} {S : Store} (h1 : ixS S dt di = some ri) (h2 : ixS S dt dj = some rj) (h3 : ixS S ri dk = some (.int a)) (h4 : ixS S rj dk = some (.int b)) :
    ct__law_bound_1 ⟨[x0, some (.val dt), x2, x3, x4, some (.val di), some (.val dj), x7, some (.val dk)], S⟩ = .ok (.bl (decide (a = b))) ⟨[x0, some (.val dt), x2, x3, x4, some (.val di), some (.val dj), x7, some (.val dk)], S⟩ := by
  unfold ct__law_bound_1
  simp [-ixS_ap, h1, h2, h3, h4]
def sameAt (x y : List Int) : D → Bool
  | .int t => decide (x[t.toNat]?.getD 0 = y[t.toNat]?.getD 0)
  | _ => false
theorem itb0 {w : Nat} (hw : w ≤ 1000) {x0 x1 x3 x4 x5 x6 x7 : Option Sl} {S : Store} : it__law_bound_0 ⟨[x0, x1, some (.val (.int (w : Nat))), x3, x4, x5, x6, x7, none], S⟩
    = .ok ((List.range w).map fun j => D.int (j : Nat)) ⟨[x0, x1, some (.val (.int (w : Nat))), x3, x4, x5, x6, x7, none], S⟩ := by
  unfold it__law_bound_0
  have e : eVar 2 ⟨[x0, x1, some (.val (.int (w : Nat))), x3, x4, x5, x6, x7, none], S⟩ = .ok (.int (w : Nat)) ⟨[x0, x1, some (.val (.int (w : Nat))), x3, x4, x5, x6, x7, none], S⟩ := by
    generalize ((w : Nat) : Int) = z
    simp
  rw [iR1_ap, e]
  exact kR1_nat hw
theorem agree_list {w : Nat} {x y : List Int} : ((((List.range w).map fun j => D.int (j : Nat)).filter (sameAt x y)).map id).length = agree w x y := by
  unfold agree
  rw [List.map_id, List.filter_map, List.length_map]
  congr 1
theorem len_of {f : EX} {ds : List D} {ρ : En} (h : f ρ = .ok (.lst ds) ρ) : eLenS f ρ = .ok (.int (ds.length : Nat)) ρ := by
  simp [h]
theorem agree_comp {t : Bool} {rows : List (List Int)} {w i j : Nat} {x0 x3 x4 x7 : Option Sl} {S : Store} (hl : ∀ r ∈ rows, r.length = w) (hw : w ≤ 1000) (hi : i < rows.length) (hj : j < rows.length) :
    eLenS (eComp it__law_bound_0 (bNm 8) ct__law_bound_1 ce__law_bound_2 [8]) ⟨[x0, some (.val (tabD t rows)), some (.val (.int (w : Nat))), x3, x4, some (.val (.int (i : Nat))), some (.val (.int (j : Nat))), x7, none], S⟩
      = .ok (.int (agree w (rowAt rows i) (rowAt rows j) : Nat)) ⟨[x0, some (.val (tabD t rows)), some (.val (.int (w : Nat))), x3, x4, some (.val (.int (i : Nat))), some (.val (.int (j : Nat))), x7, none], S⟩ := by
  have li : (rowAt rows i).length = w := by
    unfold rowAt
    rw [List.getElem?_eq_getElem hi]
    exact hl _ (List.getElem_mem hi)
  have lj : (rowAt rows j).length = w := by
    unfold rowAt
    rw [List.getElem?_eq_getElem hj]
    exact hl _ (List.getElem_mem hj)
  have h1 := ix_tab (t := t) (S := S) hi
  have h2 := ix_tab (t := t) (S := S) hj
  have e := eComp_filt (it := it__law_bound_0) (b := bNm 8) (c := ct__law_bound_1) (e := ce__law_bound_2) (vs := [8]) (p := sameAt (rowAt rows i) (rowAt rows j)) (g := id)
    (itb0 (x0 := x0) (x1 := some (.val (tabD t rows))) (x3 := x3) (x4 := x4) (x5 := some (.val (.int (i : Nat)))) (x6 := some (.val (.int (j : Nat)))) (x7 := x7) (S := S) hw) (by rw [List.length_map, List.length_range]; omega) (fun d hd => by
      obtain ⟨k, mk, rfl⟩ := List.mem_map.mp hd
      have hk := List.mem_range.mp mk
      have h3 := ix_row2 (t := t) (S := S) (show k < (rowAt rows i).length by omega)
      have h4 := ix_row2 (t := t) (S := S) (show k < (rowAt rows j).length by omega)
      refine ⟨⟨[x0, some (.val (tabD t rows)), some (.val (.int (w : Nat))), x3, x4, some (.val (.int (i : Nat))), some (.val (.int (j : Nat))), x7, some (.val (.int (k : Nat)))], S⟩, rfl, _, _, ct_l h1 h2 h3 h4, ?_, fun _ => rfl, fun _ => ⟨_, rfl, rfl⟩⟩
      show some (decide _) = some (decide _)
      rw [Int.toNat_natCast])
  rw [len_of (e.trans rfl), agree_list]
theorem nin_if {z : Int} {ns : List Int} {x0 x1 x2 x3 x5 x6 x8 : Option Sl} {S : Store} (h : ns.length < 1000000) :
    sIf (eNinA 3 (eVar 7) (eVar 4)) (sEx (eMut appF (eVar 4) [(eVar 7)])) sNil ⟨[x0, x1, x2, x3, some (.val (.ce S.length)), x5, x6, some (.val (.int z)), x8], S ++ [some (.lst (ns.map D.int))]⟩
      = .nx ⟨[x0, x1, x2, x3, some (.val (.ce S.length)), x5, x6, some (.val (.int z)), x8], S ++ [some (.lst ((addN ns z).map D.int))]⟩ := by
  have hl : ns.length < 16777216 := by omega
  have hs : ∀ (S : Store) (n : Nat), (seeD S n ∘ D.int) = D.int := fun S n => funext fun i => seeD_i
  unfold addN
  by_cases e : z ∈ ns
  · rw [if_pos e]
    simp [hs, in_ints, e]
  · rw [if_neg e]
    simp [hs, in_ints, e, hl]
theorem sset7 {f : EX} {d : D} {x0 x1 x2 x3 x4 x5 x6 x7 x8 : Option Sl} {S : Store} (h : f ⟨[x0, x1, x2, x3, x4, x5, x6, x7, x8], S⟩ = .ok d ⟨[x0, x1, x2, x3, x4, x5, x6, x7, x8], S⟩) :
    sSet 7 f ⟨[x0, x1, x2, x3, x4, x5, x6, x7, x8], S⟩ = .nx ⟨[x0, x1, x2, x3, x4, x5, x6, some (.val d), x8], S⟩ := by
  rw [sSet_ap, h]
  rfl
def agI (w : Nat) (rows : List (List Int)) (i j : Nat) : Int := (agree w (rowAt rows i) (rowAt rows j) : Nat)
theorem bnd_step {t : Bool} {rows : List (List Int)} {w i j : Nat} {x0 x3 x7 : Option Sl} {S : Store} {ns : List Int} (hl : ∀ r ∈ rows, r.length = w) (hw : w ≤ 1000) (hi : i < rows.length) (hj : j < rows.length) (hn : ns.length < 1000000) :
    g__law_bound_4 ⟨[x0, some (.val (tabD t rows)), some (.val (.int (w : Nat))), x3, some (.val (.ce S.length)), some (.val (.int (i : Nat))), some (.val (.int (j : Nat))), x7, none], S ++ [some (.lst (ns.map D.int))]⟩
      = .nx ⟨[x0, some (.val (tabD t rows)), some (.val (.int (w : Nat))), x3, some (.val (.ce S.length)), some (.val (.int (i : Nat))), some (.val (.int (j : Nat))), some (.val (.int (agI w rows i j))), none], S ++ [some (.lst ((addN ns (agI w rows i j)).map D.int))]⟩ := by
  unfold g__law_bound_4
  rw [tfS (sset7 (agree_comp hl hw hi hj)) rfl]
  exact nin_if hn
theorem bnd_js {t : Bool} {rows : List (List Int)} {w i : Nat} {x0 x3 : Option Sl} {S : Store} (hl : ∀ r ∈ rows, r.length = w) (hw : w ≤ 1000) (hi : i < rows.length) : ∀ (js : List Nat) (ns : List Int) (x6 x7 : Option Sl), (∀ j ∈ js, j < rows.length) → ns.length + js.length < 1000000 → ∃ y6 y7,
    loopS (bNm 6) g__law_bound_4 (js.map fun j => D.int (j : Nat)) ⟨[x0, some (.val (tabD t rows)), some (.val (.int (w : Nat))), x3, some (.val (.ce S.length)), some (.val (.int (i : Nat))), x6, x7, none], S ++ [some (.lst (ns.map D.int))]⟩
      = .nx ⟨[x0, some (.val (tabD t rows)), some (.val (.int (w : Nat))), x3, some (.val (.ce S.length)), some (.val (.int (i : Nat))), y6, y7, none], S ++ [some (.lst (((js.map (agI w rows i)).foldl addN ns).map D.int))]⟩
  | [], ns, x6, x7, _, _ => ⟨x6, x7, rfl⟩
  | j :: js, ns, x6, x7, hj, hn => by
    rw [List.length_cons] at hn
    have s := bnd_step (t := t) (x0 := x0) (x3 := x3) (x7 := x7) (S := S) (ns := ns) hl hw hi (hj j List.mem_cons_self) (by omega)
    have hb := addN_len (al := ns) (m := agI w rows i j)
    obtain ⟨y6, y7, hy⟩ := bnd_js (t := t) (x0 := x0) (x3 := x3) (S := S) hl hw hi js (addN ns (agI w rows i j)) (some (.val (.int (j : Nat)))) (some (.val (.int (agI w rows i j)))) (fun k m => hj k (List.mem_cons_of_mem _ m)) (by omega)
    refine ⟨y6, y7, ?_⟩
    rw [List.map_cons, List.map_cons, List.foldl_cons, ← hy]
    exact loopS_cons rfl s
def agL (w : Nat) (rows : List (List Int)) (is : List Nat) : List Int := is.flatMap fun i => (List.range i).map (agI w rows i)
theorem itb3 {i : Nat} (hi : i ≤ 1000) {x0 x1 x2 x3 x4 x6 x7 : Option Sl} {S : Store} : it__law_bound_3 ⟨[x0, x1, x2, x3, x4, some (.val (.int (i : Nat))), x6, x7, none], S⟩
    = .ok ((List.range i).map fun j => D.int (j : Nat)) ⟨[x0, x1, x2, x3, x4, some (.val (.int (i : Nat))), x6, x7, none], S⟩ := by
  unfold it__law_bound_3
  have e : eVar 5 ⟨[x0, x1, x2, x3, x4, some (.val (.int (i : Nat))), x6, x7, none], S⟩ = .ok (.int (i : Nat)) ⟨[x0, x1, x2, x3, x4, some (.val (.int (i : Nat))), x6, x7, none], S⟩ := by
    generalize ((i : Nat) : Int) = z
    simp
  rw [iR1_ap, e]
  exact kR1_nat hi
theorem bnd_is {t : Bool} {rows : List (List Int)} {w : Nat} {x0 x3 : Option Sl} {S : Store} (hl : ∀ r ∈ rows, r.length = w) (hw : w ≤ 1000) (hr : rows.length ≤ 200) : ∀ (is : List Nat) (ns : List Int) (x5 x6 x7 : Option Sl), (∀ i ∈ is, i < rows.length) → ns.length + 200 * is.length < 1000000 → ∃ y5 y6 y7,
    loopS (bNm 5) g__law_bound_6 (is.map fun j => D.int (j : Nat)) ⟨[x0, some (.val (tabD t rows)), some (.val (.int (w : Nat))), x3, some (.val (.ce S.length)), x5, x6, x7, none], S ++ [some (.lst (ns.map D.int))]⟩
      = .nx ⟨[x0, some (.val (tabD t rows)), some (.val (.int (w : Nat))), x3, some (.val (.ce S.length)), y5, y6, y7, none], S ++ [some (.lst (((agL w rows is).foldl addN ns).map D.int))]⟩
  | [], ns, x5, x6, x7, _, _ => ⟨x5, x6, x7, rfl⟩
  | i :: is, ns, x5, x6, x7, hi, hn => by
    rw [List.length_cons] at hn
    have hii := hi i List.mem_cons_self
    obtain ⟨y6, y7, hy⟩ := bnd_js (t := t) (x0 := x0) (x3 := x3) (S := S) hl hw hii (List.range i) ns x6 x7 (fun j m => by have := List.mem_range.mp m; omega) (by rw [List.length_range]; omega)
    have hg := tf3 (itb3 (i := i) (x0 := x0) (x1 := some (.val (tabD t rows))) (x2 := some (.val (.int (w : Nat)))) (x3 := x3) (x4 := some (.val (.ce S.length))) (x6 := x6) (x7 := x7) (S := S ++ [some (.lst (ns.map D.int))]) (by omega)) hy
    have hb := fold_len ((List.range i).map (agI w rows i)) ns
    rw [List.length_map, List.length_range] at hb
    obtain ⟨z5, z6, z7, hz⟩ := bnd_is (t := t) (x0 := x0) (x3 := x3) (S := S) hl hw hr is _ (some (.val (.int (i : Nat)))) y6 y7 (fun k m => hi k (List.mem_cons_of_mem _ m)) (show (List.foldl addN ns ((List.range i).map (agI w rows i))).length + _ < _ by omega)
    refine ⟨z5, z6, z7, ?_⟩
    have ea : agL w rows (i :: is) = (List.range i).map (agI w rows i) ++ agL w rows is := rfl
    rw [ea, List.foldl_append, ← hz, List.map_cons]
    exact loopS_cons rfl hg
end K53

/-! _law_bound, whole. -/
namespace K53
open PySem MB
theorem bw {dt dr dw : D} {a x2 x3 x4 x5 x6 x7 x8 : Option Sl} {S : Store} (hix : ixS S dt (.int 0) = some dr) (hln : lenS S dr = some dw) :
    sSet 2 (eLenS (eIxS (eVar 1) (eC (.int 0)))) ⟨[a, some (.val dt), x2, x3, x4, x5, x6, x7, x8], S⟩ = .nx ⟨[a, some (.val dt), some (.val dw), x3, x4, x5, x6, x7, x8], S⟩ := by
  simp [-lenS_ap, -ixS_ap, hix, hln]
theorem bl {dl dw d : D} {x1 x3 x4 x5 x6 x7 x8 : Option Sl} {S : Store} (h : m_least_rows [dw, dl] S = .ok d S) :
    sSet 3 (eFn m_least_rows [(eVar 2), (eVar 0)]) ⟨[some (.val dl), x1, some (.val dw), x3, x4, x5, x6, x7, x8], S⟩ = .nx ⟨[some (.val dl), x1, some (.val dw), some (.val d), x4, x5, x6, x7, x8], S⟩ := by
  simp [h]
theorem bif_t {w n l : Int} {dt : D} {g : SX} {x0 x4 x5 x6 x7 x8 : Option Sl} {S : Store} (hl : lenS S dt = some (.int n)) (c : w < 2 ∨ 64 < n) (hn : 2 ≤ w → l ≤ n) :
    sSeq (sIf (eOr (eB ltD (eVar 2) (eC (.int 2))) (eB gtD (eLenS (eVar 1)) (eC (.int 64)))) (sRet (eOr (eB ltD (eVar 2) (eC (.int 2))) (eB geD (eLenS (eVar 1)) (eVar 3)))) sNil) g
      ⟨[x0, some (.val dt), some (.val (.int w)), some (.val (.int l)), x4, x5, x6, x7, x8], S⟩ = .rt (.bl true) ⟨[x0, some (.val dt), some (.val (.int w)), some (.val (.int l)), x4, x5, x6, x7, x8], S⟩ := by
  by_cases h : w < 2
  · simp [-lenS_ap, hl, h]
  · have h2 : 64 < n := by omega
    have h3 := hn (by omega)
    simp [-lenS_ap, hl, h, h2, h3]
theorem bif_f {w n : Int} {dt : D} {g h : SX} {x0 x3 x4 x5 x6 x7 x8 : Option Sl} {S : Store} (hl : lenS S dt = some (.int n)) (h1 : ¬ w < 2) (h2 : ¬ 64 < n) :
    sSeq (sIf (eOr (eB ltD (eVar 2) (eC (.int 2))) (eB gtD (eLenS (eVar 1)) (eC (.int 64)))) h sNil) g
      ⟨[x0, some (.val dt), some (.val (.int w)), x3, x4, x5, x6, x7, x8], S⟩ = g ⟨[x0, some (.val dt), some (.val (.int w)), x3, x4, x5, x6, x7, x8], S⟩ := by
  simp [-lenS_ap, hl, h1, h2]
theorem bal {x0 x1 x2 x3 x4 x5 x6 x7 x8 : Option Sl} {S : Store} : sSet 4 (eLstM []) ⟨[x0, x1, x2, x3, x4, x5, x6, x7, x8], S⟩ = .nx ⟨[x0, x1, x2, x3, some (.val (.ce S.length)), x5, x6, x7, x8], S ++ [some (.lst [])]⟩ := by
  simp
theorem bit {n : Nat} (hn : n ≤ 1000) {dt : D} {x0 x2 x3 x4 x5 x6 x7 x8 : Option Sl} {S : Store} (hl : lenS S dt = some (.int (n : Nat))) :
    it__law_bound_5 ⟨[x0, some (.val dt), x2, x3, x4, x5, x6, x7, x8], S⟩ = .ok ((List.range n).map fun j => D.int (j : Nat)) ⟨[x0, some (.val dt), x2, x3, x4, x5, x6, x7, x8], S⟩ := by
  unfold it__law_bound_5
  have e : eLenS (eVar 1) ⟨[x0, some (.val dt), x2, x3, x4, x5, x6, x7, x8], S⟩ = .ok (.int (n : Nat)) ⟨[x0, some (.val dt), x2, x3, x4, x5, x6, x7, x8], S⟩ := by
    generalize ((n : Nat) : Int) = z at hl
    simp [-lenS_ap, hl]
  rw [iR1_ap, e]
  exact kR1_nat hn
theorem bret {n l m : Int} {dt da : D} {x0 x2 x5 x6 x7 x8 : Option Sl} {S : Store} (hl : lenS S dt = some (.int n)) (ha : lenS S da = some (.int m)) (h1 : l ≤ n) (h2 : n = l ↔ m = 1) :
    sRet (eAnd (eB geD (eLenS (eVar 1)) (eVar 3)) (eBs 3 eqD (eB eqD (eLenS (eVar 1)) (eVar 3)) (eB eqD (eLenS (eVar 4)) (eC (.int 1)))))
      ⟨[x0, some (.val dt), x2, some (.val (.int l)), some (.val da), x5, x6, x7, x8], S⟩ = .rt (.bl true) ⟨[x0, some (.val dt), x2, some (.val (.int l)), some (.val da), x5, x6, x7, x8], S⟩ := by
  by_cases h : n = l
  · have h3 := h2.mp h
    subst h
    simp [-lenS_ap, hl, ha, h3]
  · have h3 : ¬ m = 1 := fun q => h (h2.mpr q)
    simp [-lenS_ap, hl, ha, h, h1, h3]
theorem cell_len {S : Store} {l : List D} : lenS (S ++ [some (.lst l)]) (.ce S.length) = some (.int (l.length : Nat)) := by
  simp
theorem agL_mem {w : Nat} {rows : List (List Int)} {n : Nat} {z : Int} : z ∈ agL w rows (List.range n) ↔ ∃ i j, i < n ∧ j < i ∧ agI w rows i j = z := by
  unfold agL
  rw [List.mem_flatMap]
  constructor
  · rintro ⟨i, mi, m⟩
    obtain ⟨j, mj, e⟩ := List.mem_map.mp m
    exact ⟨i, j, List.mem_range.mp mi, List.mem_range.mp mj, e⟩
  · rintro ⟨i, j, hi, hj, e⟩
    exact ⟨i, List.mem_range.mpr hi, List.mem_map.mpr ⟨j, List.mem_range.mpr hj, e⟩⟩
theorem one_iff {lv : Int} {rows : List (List Int)} {w : Nat} (g : Good lv rows w) (hw : 2 ≤ w) : (rows.length : Int) = 1 + w * (lv - 1) ↔ (((agL w rows (List.range rows.length)).foldl addN []).length : Int) = 1 := by
  obtain ⟨_, n2, B⟩ := bound_main g hw
  have ne : agL w rows (List.range rows.length) ≠ [] := fun e => by
    have : agI w rows 1 0 ∈ agL w rows (List.range rows.length) := agL_mem.mpr ⟨1, 0, by omega, by omega, rfl⟩
    rw [e] at this
    cases this
  rw [B]
  have f1 := fold_one ne
  have e1 : ((((agL w rows (List.range rows.length)).foldl addN []).length : Int) = 1) ↔ ((agL w rows (List.range rows.length)).foldl addN []).length = 1 := by omega
  rw [e1, f1]
  have at_ : ∀ i (h : i < rows.length), rowAt rows i = rows[i] := fun i h => by
    unfold rowAt
    rw [List.getElem?_eq_getElem h]
    rfl
  constructor
  · rintro ⟨c, h⟩
    refine ⟨(c : Int), fun x m => ?_⟩
    obtain ⟨i, j, hi, hj, e⟩ := agL_mem.mp m
    rw [← e]
    unfold agI
    rw [at_ i hi, at_ j (by omega), h i j hi hj]
  · rintro ⟨c, h⟩
    have c0 : agI w rows 1 0 = c := h _ (agL_mem.mpr ⟨1, 0, by omega, by omega, rfl⟩)
    refine ⟨agree w (rowAt rows 1) (rowAt rows 0), fun i j hi hj => ?_⟩
    have c1 : agI w rows i j = c := h _ (agL_mem.mpr ⟨i, j, hi, hj, rfl⟩)
    unfold agI at c0 c1
    rw [at_ i hi, at_ j (by omega)] at c1
    omega
theorem bound_ok {lv : Int} {rows : List (List Int)} {w : Nat} {S : Store} (g : Good lv rows w) : m__law_bound [.int lv, tabD false rows] S = .ok (.bl true) S := by
  have T := g.tab
  have hlv := T.lvs
  have hw1 := T.w1
  have hn := T.n1
  obtain ⟨r0, rs, e0⟩ : ∃ r0 rs, rows = r0 :: rs := by
    cases rows with
    | nil => simp at hn
    | cons r rs => exact ⟨r, rs, rfl⟩
  have hr0 : r0.length = w := T.len r0 (by rw [e0]; exact List.mem_cons_self)
  have s1 := bw (a := some (.val (.int lv))) (x2 := none) (x3 := none) (x4 := none) (x5 := none) (x6 := none) (x7 := none) (x8 := none) (S := S) (dt := tabD false rows) (dr := rowD false r0) (by rw [e0]; exact ix0) (len0 hr0)
  have s2 := bl (dl := .int lv) (dw := .int (w : Nat)) (x1 := some (.val (tabD false rows))) (x3 := none) (x4 := none) (x5 := none) (x6 := none) (x7 := none) (x8 := none) (S := S) (least_ok (by omega) (by omega) (by omega) (by omega))
  have hl := tab_len (t := false) (rows := rows) (S := S)
  have fin : ∀ T : Store, (∃ sl, b__law_bound ⟨[some (.val (.int lv)), some (.val (tabD false rows)), none, none, none, none, none, none, none], S⟩ = .rt (.bl true) ⟨sl, S ++ T⟩) → m__law_bound [.int lv, tabD false rows] S = .ok (.bl true) S := by
    intro T ⟨sl, h⟩
    refine run_same (T := T) ?_ (by simp)
    show endR (b__law_bound ⟨[some (.val (.int lv)), some (.val (tabD false rows)), none, none, none, none, none, none, none], S⟩) = _
    rw [h]
    rfl
  unfold b__law_bound at fin
  rw [tfS s1 (tfS s2 rfl)] at fin
  by_cases c : (w : Int) < 2 ∨ 64 < (rows.length : Int)
  · refine fin [] ?_
    rw [List.append_nil]
    refine ⟨_, bif_t hl c fun h => ?_⟩
    exact (bound_main g (by omega)).1
  · rw [bif_f hl (by omega) (by omega)] at fin
    rw [tfS bal rfl] at fin
    obtain ⟨y5, y6, y7, hy⟩ := bnd_is (t := false) (x0 := some (.val (.int lv))) (x3 := some (.val (.int (1 + (w : Int) * (lv - 1))))) (S := S) T.len (by omega) hn.2 (List.range rows.length) [] none none none (fun i m => List.mem_range.mp m) (by rw [List.length_range, List.length_nil]; omega)
    have it := bit (n := rows.length) (by omega) (x0 := some (.val (.int lv))) (x2 := some (.val (.int (w : Nat)))) (x3 := some (.val (.int (1 + (w : Int) * (lv - 1))))) (x4 := some (.val (.ce S.length))) (x5 := none) (x6 := none) (x7 := none) (x8 := none) (tab_len (t := false) (rows := rows) (S := S ++ [some (.lst [])]))
    rw [tfS (tf3 it hy) rfl] at fin
    refine fin _ ⟨_, bret (tab_len (t := false) (rows := rows)) cell_len ?_ ?_⟩
    · exact (bound_main g (by omega)).1
    · rw [List.length_map]
      exact one_iff g (by omega)
end K53

/-! Good tables have no fault; the law's vectors; what draws leave as it was. -/
namespace K53
open PySem MB
theorem badP_ok {lv : Int} : ∀ {r : List Int}, (∀ x ∈ r, 0 ≤ x ∧ x < lv) → badP lv r = none
  | [], _ => rfl
  | x :: r, h => by
    unfold badP
    have := h x List.mem_cons_self
    rw [if_neg (by omega)]
    exact badP_ok fun y m => h y (List.mem_cons_of_mem _ m)
theorem rowF_ok {lv : Int} {w : Nat} : ∀ {rows : List (List Int)} {lo hi : Int}, lo ≤ w → (w : Int) ≤ hi → (∀ r ∈ rows, r.length = w) → (∀ r ∈ rows, ∀ x ∈ r, 0 ≤ x ∧ x < lv) → rowF lv lo hi rows = none
  | [], _, _, _, _, _, _ => rfl
  | r :: rs, lo, hi, h1, h2, h3, h4 => by
    unfold rowF
    have hr := h3 r List.mem_cons_self
    rw [if_neg (by omega), badP_ok (h4 r List.mem_cons_self), hr]
    exact rowF_ok (by omega) (by omega) (fun q m => h3 q (List.mem_cons_of_mem _ m)) fun q m => h4 q (List.mem_cons_of_mem _ m)
theorem look_tab {lv : Int} {rows : List (List Int)} {w : Nat} (T : Tab lv rows w) : lookF lv rows = none := by
  unfold lookF
  have a := T.lvs
  have b := T.n1
  have c := T.w1
  rw [if_neg (by omega), if_neg (by omega)]
  exact rowF_ok (w := w) (by omega) (by omega) T.len T.ent
theorem fault_good {lv : Int} {rows : List (List Int)} {w : Nat} {S : Store} (g : Good lv rows w) : m__law_fault [.int lv, tabD false rows] S = .ok .non S := by
  have h := law_fault_ok (t := false) (S := S) (look_tab g.tab)
  have e : widthD rows = w := by
    obtain ⟨r0, rs, e0⟩ : ∃ r0 rs, rows = r0 :: rs := by
      cases rows with
      | nil => have := g.tab.n1; simp at this
      | cons r rs => exact ⟨r, rs, rfl⟩
    have : r0.length = w := g.tab.len r0 (by rw [e0]; exact List.mem_cons_self)
    unfold widthD
    rw [e0]
    exact this
  rw [h, e, iF_none g _ fun i m => List.mem_range.mp m]
  rfl
theorem good_fair {lv : Int} {rows : List (List Int)} {w : Nat} (T : Tab lv rows w) : Fair rows := ⟨by have := T.n1; omega, fun r m => by have := T.w1; rw [T.len r m]; omega⟩
/-! the vectors -/
def vD (v : List Int) : D := .tup (v.map D.int)
theorem sum_rep (n a : Nat) : (List.replicate n a).sum = n * a := by
  induction n with
  | zero => simp
  | succ n ih => rw [List.replicate_succ, List.sum_cons, ih, Nat.succ_mul]; omega
theorem vecs_len (lv : Nat) : ∀ d, (vecs lv d).length = lv ^ d
  | 0 => rfl
  | d + 1 => by
    rw [vecs, List.length_flatMap]
    have : (vecs lv d).map (fun v => ((List.range lv).map fun x => v ++ [((x : Nat) : Int)]).length) = List.replicate (lv ^ d) lv := by
      rw [← vecs_len lv d]
      simp [List.map_const']
    rw [this, sum_rep, Nat.pow_succ]
theorem vecs_each (lv : Nat) : ∀ d, ∀ v ∈ vecs lv d, v.length = d
  | 0, v, m => by
    have : v = [] := by simpa [vecs] using m
    rw [this]; rfl
  | d + 1, v, m => by
    rw [vecs, List.mem_flatMap] at m
    obtain ⟨u, mu, m⟩ := m
    obtain ⟨x, _, rfl⟩ := List.mem_map.mp m
    rw [List.length_append, vecs_each lv d u mu]
    rfl
theorem small_pow {lv d : Nat} (h1 : lv ≤ 13) (h2 : d ≤ 6) (h0 : 1 ≤ lv) : lv ^ d ≤ 4826809 := by
  have a : lv ^ d ≤ 13 ^ d := Nat.pow_le_pow_left h1 d
  have b : 13 ^ d ≤ 13 ^ 6 := Nat.pow_le_pow_right (by omega) h2
  have c : (13 : Nat) ^ 6 = 4826809 := by decide
  omega
theorem itv0 {lv : Nat} (h : lv ≤ 1000) {x1 x2 x3 x4 x5 x6 : Option Sl} {S : Store} : it__law_vectors_0 ⟨[some (.val (.int (lv : Nat))), x1, x2, x3, x4, x5, x6], S⟩ = .ok ((List.range lv).map fun j => D.int (j : Nat)) ⟨[some (.val (.int (lv : Nat))), x1, x2, x3, x4, x5, x6], S⟩ := by
  unfold it__law_vectors_0
  have e : eVar 0 ⟨[some (.val (.int (lv : Nat))), x1, x2, x3, x4, x5, x6], S⟩ = .ok (.int (lv : Nat)) ⟨[some (.val (.int (lv : Nat))), x1, x2, x3, x4, x5, x6], S⟩ := by
    generalize ((lv : Nat) : Int) = z
    simp
  rw [iR1_ap, e]
  exact kR1_nat h
theorem itv4 {d : Nat} (h : d ≤ 1000) {x0 x2 x3 x4 x5 x6 : Option Sl} {S : Store} : it__law_vectors_4 ⟨[x0, some (.val (.int (d : Nat))), x2, x3, x4, x5, x6], S⟩ = .ok ((List.range d).map fun j => D.int (j : Nat)) ⟨[x0, some (.val (.int (d : Nat))), x2, x3, x4, x5, x6], S⟩ := by
  unfold it__law_vectors_4
  have e : eVar 1 ⟨[x0, some (.val (.int (d : Nat))), x2, x3, x4, x5, x6], S⟩ = .ok (.int (d : Nat)) ⟨[x0, some (.val (.int (d : Nat))), x2, x3, x4, x5, x6], S⟩ := by
    generalize ((d : Nat) : Int) = z
    simp
  rw [iR1_ap, e]
  exact kR1_nat h
theorem vcomp {lv : Nat} (h : lv ≤ 1000) {v : List Int} (hv : v.length ≤ 1000) {x1 x2 x3 x4 : Option Sl} {S : Store} :
    eComp it__law_vectors_0 (bNm 6) (eC (.bl true)) ce__law_vectors_1 [6] ⟨[some (.val (.int (lv : Nat))), x1, x2, x3, x4, some (.val (vD v)), none], S⟩
      = .ok (.lst ((List.range lv).map fun x => vD (v ++ [((x : Nat) : Int)]))) ⟨[some (.val (.int (lv : Nat))), x1, x2, x3, x4, some (.val (vD v)), none], S⟩ := by
  refine (eComp_map (ds := (List.range lv).map fun j => D.int (j : Nat)) (g := fun d => .tup (v.map D.int ++ [d])) (ρ1 := ⟨[some (.val (.int (lv : Nat))), x1, x2, x3, x4, some (.val (vD v)), none], S⟩) (itv0 h) (by rw [List.length_map, List.length_range]; omega) ?_).trans ?_
  · intro d hd
    obtain ⟨k, mk, rfl⟩ := List.mem_map.mp hd
    refine ⟨⟨[some (.val (.int (lv : Nat))), x1, x2, x3, x4, some (.val (vD v)), some (.val (.int (k : Nat)))], S⟩, rfl, ⟨[some (.val (.int (lv : Nat))), x1, x2, x3, x4, some (.val (vD v)), some (.val (.int (k : Nat)))], S⟩, ?_, rfl⟩
    have hs : v.length + 1 ≤ 16777216 := by omega
    generalize ((k : Nat) : Int) = z
    generalize ((lv : Nat) : Int) = y
    simp [ce__law_vectors_1, vD, hs]
  · have e : ((List.range lv).map fun j => D.int (j : Nat)).map (fun d => D.tup (v.map D.int ++ [d])) = (List.range lv).map fun x => vD (v ++ [((x : Nat) : Int)]) := by
      rw [List.map_map]
      refine List.map_congr_left fun k _ => ?_
      simp [vD]
    rw [e]
    rfl
def more (lv : Nat) (vs : List (List Int)) : List (List Int) := vs.flatMap fun v => (List.range lv).map fun x => v ++ [((x : Nat) : Int)]
theorem vset {f : EX} {xs ys : List D} {x0 x1 x2 x3 x5 x6 : Option Sl} {S : Store} (h : f ⟨[x0, x1, x2, x3, some (.val (.lst xs)), x5, x6], S⟩ = .ok (.lst ys) ⟨[x0, x1, x2, x3, some (.val (.lst xs)), x5, x6], S⟩) (hl : xs.length + ys.length ≤ 16777216) :
    sSet 4 (eBF false addF (eVar 4) f) ⟨[x0, x1, x2, x3, some (.val (.lst xs)), x5, x6], S⟩ = .nx ⟨[x0, x1, x2, x3, some (.val (.lst (xs ++ ys))), x5, x6], S⟩ := by
  simp [h, hl]
theorem vloop {lv : Nat} (h : lv ≤ 13) {x1 x2 x3 : Option Sl} {S : Store} : ∀ (vs acc : List (List Int)) (x5 : Option Sl), (∀ v ∈ vs, v.length ≤ 1000) → acc.length + vs.length * lv ≤ 10000000 → ∃ y5,
    loopS (bNm 5) g__law_vectors_3 (vs.map vD) ⟨[some (.val (.int (lv : Nat))), x1, x2, x3, some (.val (.lst (acc.map vD))), x5, none], S⟩
      = .nx ⟨[some (.val (.int (lv : Nat))), x1, x2, x3, some (.val (.lst ((acc ++ more lv vs).map vD))), y5, none], S⟩
  | [], acc, x5, _, _ => ⟨x5, by simp [more]⟩
  | v :: vs, acc, x5, hv, hl => by
    rw [List.length_cons, Nat.add_mul, Nat.one_mul] at hl
    have c := vcomp (lv := lv) (by omega) (hv v List.mem_cons_self) (x1 := x1) (x2 := x2) (x3 := x3) (x4 := some (.val (.lst (acc.map vD)))) (S := S)
    have s := vset c (by rw [List.length_map, List.length_map, List.length_range]; omega)
    obtain ⟨y5, hy⟩ := vloop h (x1 := x1) (x2 := x2) (x3 := x3) (S := S) vs (acc ++ (List.range lv).map fun x => v ++ [((x : Nat) : Int)]) (some (.val (vD v))) (fun u m => hv u (List.mem_cons_of_mem _ m)) (by rw [List.length_append, List.length_map, List.length_range]; omega)
    refine ⟨y5, ?_⟩
    have e1 : acc ++ more lv (v :: vs) = (acc ++ (List.range lv).map fun x => v ++ [((x : Nat) : Int)]) ++ more lv vs := by
      unfold more
      rw [List.flatMap_cons, List.append_assoc]
    rw [e1, ← hy, List.map_cons]
    refine loopS_cons rfl ?_
    have e2 : (acc ++ (List.range lv).map fun x => v ++ [((x : Nat) : Int)]).map vD = acc.map vD ++ (List.range lv).map fun x => vD (v ++ [((x : Nat) : Int)]) := by
      rw [List.map_append, List.map_map]
      rfl
    rw [e2]
    exact s
theorem vset4 {x0 x1 x2 x3 x4 x5 x6 : Option Sl} {S : Store} : sSet 4 (eLst []) ⟨[x0, x1, x2, x3, x4, x5, x6], S⟩ = .nx ⟨[x0, x1, x2, x3, some (.val (.lst [])), x5, x6], S⟩ := by
  simp
theorem vset2 {d : D} {x0 x1 x2 x3 x5 x6 : Option Sl} {S : Store} : sSet 2 (eVar 4) ⟨[x0, x1, x2, x3, some (.val d), x5, x6], S⟩ = .nx ⟨[x0, x1, some (.val d), x3, some (.val d), x5, x6], S⟩ := by
  simp
theorem itv2 {ds : List D} {x0 x1 x3 x4 x5 x6 : Option Sl} {S : Store} : it__law_vectors_2 ⟨[x0, x1, some (.val (.lst ds)), x3, x4, x5, x6], S⟩ = .ok ds ⟨[x0, x1, some (.val (.lst ds)), x3, x4, x5, x6], S⟩ := by
  unfold it__law_vectors_2
  simp
theorem vouter {lv : Nat} (h0 : 1 ≤ lv) (h : lv ≤ 13) {x1 : Option Sl} {S : Store} : ∀ (n k : Nat) (x3 x4 x5 : Option Sl), k + n ≤ 6 → ∃ y3 y4 y5,
    loopS (bNm 3) g__law_vectors_5 ((List.range' k n).map fun j => D.int (j : Nat)) ⟨[some (.val (.int (lv : Nat))), x1, some (.val (.lst ((vecs lv k).map vD))), x3, x4, x5, none], S⟩
      = .nx ⟨[some (.val (.int (lv : Nat))), x1, some (.val (.lst ((vecs lv (k + n)).map vD))), y3, y4, y5, none], S⟩
  | 0, k, x3, x4, x5, _ => ⟨x3, x4, x5, rfl⟩
  | n + 1, k, x3, x4, x5, hk => by
    have hb : (vecs lv k).length * lv ≤ 10000000 := by
      rw [vecs_len, ← Nat.pow_succ]
      have := small_pow h (show k + 1 ≤ 6 by omega) h0
      rw [Nat.succ_eq_add_one]
      omega
    obtain ⟨y5, hy⟩ := vloop h (x1 := x1) (x2 := some (.val (.lst ((vecs lv k).map vD)))) (x3 := some (.val (.int (k : Nat)))) (S := S) (vecs lv k) [] x5 (fun v m => by rw [vecs_each lv k v m]; omega) (by rw [List.length_nil]; omega)
    obtain ⟨z3, z4, z5, hz⟩ := vouter h0 h (x1 := x1) (S := S) n (k + 1) (some (.val (.int (k : Nat)))) (some (.val (.lst ((vecs lv (k + 1)).map vD)))) y5 (by omega)
    refine ⟨z3, z4, z5, ?_⟩
    rw [show k + (n + 1) = k + 1 + n by omega, ← hz, List.range'_succ, List.map_cons]
    refine loopS_cons rfl ?_
    unfold g__law_vectors_5
    rw [List.nil_append] at hy
    exact tfS vset4 (tfS (tf3 itv2 hy) vset2)
theorem vectors_ok {lv d : Nat} (h0 : 1 ≤ lv) (h : lv ≤ 13) (hd : d ≤ 6) {S : Store} : m__law_vectors [.int (lv : Nat), .int (d : Nat)] S = .ok (.lst ((vecs lv d).map vD)) S := by
  obtain ⟨y3, y4, y5, hy⟩ := vouter h0 h (x1 := some (.val (.int (d : Nat)))) (S := S) d 0 none none none (by omega)
  rw [Nat.zero_add, ← List.range_eq_range'] at hy
  refine run_id ?_ ?_
  · show endR (b__law_vectors ⟨[some (.val (.int (lv : Nat))), some (.val (.int (d : Nat))), none, none, none, none, none], S⟩) = _
    unfold b__law_vectors
    have s : sSet 2 (eLst [eTup []]) ⟨[some (.val (.int (lv : Nat))), some (.val (.int (d : Nat))), none, none, none, none, none], S⟩ = .nx ⟨[some (.val (.int (lv : Nat))), some (.val (.int (d : Nat))), some (.val (.lst ((vecs lv 0).map vD))), none, none, none, none], S⟩ := by
      generalize ((lv : Nat) : Int) = y
      generalize ((d : Nat) : Int) = z
      simp [vecs, vD]
    have r : ∀ (x : D) (x0 x1 x3 x4 x5 x6 : Option Sl), sRet (eVar 2) ⟨[x0, x1, some (.val x), x3, x4, x5, x6], S⟩ = .rt x ⟨[x0, x1, some (.val x), x3, x4, x5, x6], S⟩ := fun x x0 x1 x3 x4 x5 x6 => by simp
    rw [tfS s (tfS (tf3 (itv4 (by omega)) hy) (r _ _ _ _ _ _ _))]
    rfl
  · rw [clD_lst, clDs_all]
    intro x m
    obtain ⟨v, _, rfl⟩ := List.mem_map.mp m
    unfold vD
    rw [clD_tup, clDs_all]
    intro y my
    obtain ⟨z, _, rfl⟩ := List.mem_map.mp my
    exact clD_int
end K53

/-! The store while numbers are drawn: the box at k, all else below as it was. -/
namespace K53
open PySem MB
structure Bx (S : Store) (k : Nat) (W : Store) : Prop where
  lt : k < S.length
  le : S.length ≤ W.length
  out : ∀ j, j < S.length → j ≠ k → W[j]? = S[j]?
  box : BoxAt W k
theorem Bx.refl {S : Store} {k : Nat} (h : BoxAt S k) : Bx S k S := by
  obtain ⟨cs, e, _⟩ := id h
  exact ⟨(List.getElem?_eq_some_iff.mp e).1, Nat.le_refl _, fun _ _ _ => rfl, h⟩
theorem BoxAt.get {W W' : Store} {k : Nat} (h : BoxAt W k) (e : W'[k]? = W[k]?) : BoxAt W' k := by
  obtain ⟨cs, h1, h2⟩ := h
  exact ⟨cs, e.trans h1, h2⟩
theorem Bx.push {S W : Store} {k : Nat} (b : Bx S k W) (c : Option Cn) : Bx S k (W ++ [c]) := by
  have hl := b.lt
  have hw := b.le
  refine ⟨b.lt, by rw [List.length_append]; omega, fun j hj ne => ?_, b.box.get ?_⟩
  · rw [List.getElem?_append_left (by omega)]
    exact b.out j hj ne
  · rw [List.getElem?_append_left (by omega)]
theorem Bx.put {S W : Store} {k j : Nat} (b : Bx S k W) (c : Option Cn) (h : S.length ≤ j) : Bx S k (W.set j c) := by
  have hl := b.lt
  refine ⟨b.lt, by rw [List.length_set]; exact b.le, fun i hi ne => ?_, b.box.get ?_⟩
  · rw [List.getElem?_set_ne (by omega)]
    exact b.out i hi ne
  · rw [List.getElem?_set_ne (by omega)]
/-- a draw: another box, all else as it was -/
structure Dr (k : Nat) (W W' : Store) : Prop where
  len : W'.length = W.length
  out : ∀ j, j ≠ k → W'[j]? = W[j]?
  box : BoxAt W' k
theorem Bx.dr {S W W' : Store} {k : Nat} (b : Bx S k W) (d : Dr k W W') : Bx S k W' :=
  ⟨b.lt, by rw [d.len]; exact b.le, fun j hj ne => (d.out j ne).trans (b.out j hj ne), d.box⟩
theorem Dr.trans {k : Nat} {W W1 W2 : Store} (a : Dr k W W1) (b : Dr k W1 W2) : Dr k W W2 :=
  ⟨b.len.trans a.len, fun j h => (b.out j h).trans (a.out j h), b.box⟩
theorem Dr.of {k : Nat} {W : Store} {cs : List D} (hk : k < W.length) (h : Box cs) : Dr k W (W.set k (some (.lst cs))) :=
  ⟨List.length_set, fun j ne => List.getElem?_set_ne (Ne.symm ne), ⟨cs, by rw [List.getElem?_set_self hk], h⟩⟩
theorem BoxAt.lt {W : Store} {k : Nat} (h : BoxAt W k) : k < W.length := by
  obtain ⟨cs, e, _⟩ := h
  exact (List.getElem?_eq_some_iff.mp e).1
theorem draw_dr {W : Store} {k : Nat} {many : Int} (hb : BoxAt W k) (h0 : 0 < many) (hd : many < 1073741824) : ∃ z W', m__law_draw [.ce k, .int many] W = .ok (.int z) W' ∧ Dr k W W' ∧ 0 ≤ z ∧ z < many := by
  have hdo : divOk 0 many = true := by
    unfold divOk
    simp only [Bool.or_eq_true, decide_eq_true_eq]
    left
    omega
  obtain ⟨z, cs, e, bx, z0, z1⟩ := draw_spec hb h0 hdo
  exact ⟨z, _, e, Dr.of hb.lt bx, z0, z1⟩
theorem Bx.form {S W : Store} {k : Nat} (b : Bx S k W) : ∃ cs, Box cs ∧ W = S.set k (some (.lst cs)) ++ W.drop S.length := by
  obtain ⟨cs, e, bx⟩ := b.box
  refine ⟨cs, bx, ?_⟩
  have hle := b.le
  have hlt := b.lt
  refine List.ext_getElem? fun j => ?_
  by_cases hj : j < S.length
  · rw [List.getElem?_append_left (by rw [List.length_set]; exact hj)]
    by_cases hk : j = k
    · subst hk
      rw [e, List.getElem?_set_self hlt]
    · rw [List.getElem?_set_ne (Ne.symm hk)]
      exact b.out j hj hk
  · rw [List.getElem?_append_right (by rw [List.length_set]; omega), List.getElem?_drop, List.length_set]
    congr 1
    omega
/-- the end of a def that drew: its own cells are forgotten -/
theorem Bx.fin {b : SX} {n k : Nat} {ds : List D} {S W : Store} {d : D} (B : Bx S k W) (h : runS b n ds S = .ok d W) (hd : clD S.length d) : ∃ W', runQ b n ds S = .ok d W' ∧ Dr k S W' := by
  obtain ⟨cs, bx, e⟩ := B.form
  rw [e] at h
  refine ⟨_, run_one h ?_ hd, Dr.of B.lt bx⟩
  obtain ⟨s, i, r, rs, rfl, _⟩ := bx
  exact box_cl
end K53

/-! len(set(xs)), a list of ints. -/
namespace MB
open PySem PySem.Spec PyProof.Rows L2
/-- the ints met first -/
def metI (ns : List Int) : List Int := PyProof.Rows.firstMet (fun i => ns.getD i 0) ns.length
theorem met_mem (f : Nat → Int) : ∀ (n : Nat) (z : Int), z ∈ PyProof.Rows.firstMet f n ↔ ∃ i, i < n ∧ f i = z
  | 0, z => ⟨fun h => absurd (show z ∈ ([] : List Int) from h) List.not_mem_nil, fun ⟨i, h, _⟩ => absurd h (Nat.not_lt_zero i)⟩
  | n + 1, z => by
    have ih := met_mem f n
    rw [PyProof.Rows.firstMet_succ]
    show z ∈ (if (PyProof.Rows.firstMet f n).any (· == f n) then PyProof.Rows.firstMet f n else PyProof.Rows.firstMet f n ++ [f n]) ↔ _
    split
    · rename_i h
      obtain ⟨y, hy, e⟩ := List.any_eq_true.mp h
      have e2 : y = f n := eq_of_beq e
      rw [ih]
      constructor
      · rintro ⟨i, hi, q⟩
        exact ⟨i, by omega, q⟩
      · rintro ⟨i, hi, q⟩
        by_cases hin : i < n
        · exact ⟨i, hin, q⟩
        · have : i = n := by omega
          subst this
          rw [← q, ← e2]
          exact (ih y).mp hy
    · rw [List.mem_append, ih]
      constructor
      · rintro (⟨i, hi, q⟩ | h)
        · exact ⟨i, by omega, q⟩
        · exact ⟨n, by omega, by simpa using (List.mem_singleton.mp h).symm⟩
      · rintro ⟨i, hi, q⟩
        by_cases hin : i < n
        · exact .inl ⟨i, hin, q⟩
        · have : i = n := by omega
          subst this
          exact .inr (by rw [q]; simp)
def tLenSet (K : Fg) (ta : TE) : TE := fun σ H Q => ta σ H fun x H1 => ∃ (l : Addr) (ns : List Int), x = .ref l ∧ SqL K H1 l (ns.map V.int) ∧ ns.length ≤ 4000 ∧ Q (.int ((metI ns).length : Nat)) H1
theorem met_le (ns : List Int) : ∀ n, (PyProof.Rows.firstMet (fun i => ns.getD i 0) n).length ≤ n
  | 0 => Nat.le_refl _
  | n + 1 => by
    have ih := met_le ns n
    rw [PyProof.Rows.firstMet_succ]
    show (if (PyProof.Rows.firstMet (fun i => ns.getD i 0) n).any (· == ns.getD n 0) then PyProof.Rows.firstMet (fun i => ns.getD i 0) n else PyProof.Rows.firstMet (fun i => ns.getD i 0) n ++ [ns.getD n 0]).length ≤ _
    split
    · omega
    · rw [List.length_append]
      show _ + 1 ≤ _
      omega
theorem pe_lenSet {X : Cx} {a : Expr} {ta : TE} {p p2 q pos : Pos} (hg : Gl X "len") (hm : X.mg "len" = none) (hg2 : Gl X "set") (hm2 : X.mg "set" = none) (ha : PE X a ta) (hc : X.calm = true)
    (na : starEach [a] X.env = (false, eval a X.env) :: starEach [] X.env) : PE X (.Call (.Name "len" p) [.Call (.Name "set" p2) [a] [] q] [] pos) (tLenSet X.K ta) := by
  constructor
  intro pins s σ H Q I h
  refine Call_ (ld_blt I hg hm boot_len (PyProof.Rows.callWith_builtin1 (PyProof.Rows.args_cons ?_ rfl) rfl rfl))
  refine Call_ (ld_blt I hg2 hm2 boot_set (PyProof.Rows.callWith_type1 (PyProof.Rows.args_cons (thn (ha.run pins s σ H _ I h) fun v s1 hh => PyProof.Rows.args_nil ?_) na) na rfl))
  obtain ⟨x, H1, I1, r1, l, ns, rfl, hq, hl, q1⟩ := hh
  cases r1
  obtain ⟨its, r, pl, hz⟩ := I1.list hq
  have sz : its.toArray.size = ns.length := by rw [List.size_toArray, ← r.length, List.length_map]
  refine call_set_list (I1.ok.hd hc) pl.isList (by simpa using RZ.intsAre_vals r) (by rw [sz]; unfold scanBound; omega) fun h' tk hS hk => PyProof.Rows.args_nil ?_
  rw [sz] at hS
  obtain ⟨o, es, ep, t, ho, hex, hd, _, _, _, hf, hn⟩ := hS
  have I2 : Inv X pins σ H1 { s1 with heap := h', toks := tk } := I1.kept fun b o e => hk b o (Heap.lt_size e) e
  have lm := met_le ns ns.length
  exact call_len_set ho hex hd hf (by rw [hn] <;> omega) ⟨.int ((metI ns).length : Nat), H1, I2.tok _, ⟨_, by rw [hn]; rfl⟩, q1⟩
def eLenSet (fa : EX) : EX := fun ρ => (fa ρ).bind fun d ρ1 => match see1 ρ1.st d with
  | .lst ds => match asInts ds with
    | some ns => if ns.length ≤ 4000 then .ok (.int ((metI ns).length : Nat)) ρ1 else .stuck
    | none => .stuck
  | _ => .stuck
theorem r_lenSet {X : Cx} {hx : Hx} {W : WX} {a : Expr} {fa : EX} {p p2 q pos : Pos} (hc : X.calm = true) (hm : X.mg "len" = none) (hm2 : X.mg "set" = none) (ha : PE X a (tX X.kw hx W fa)) (hg : Gl X "len" := by rfl) (hg2 : Gl X "set" := by rfl)
    (na : starEach [a] X.env = (false, eval a X.env) :: starEach [] X.env := by rfl) : PE X (.Call (.Name "len" p) [.Call (.Name "set" p2) [a] [] q] [] pos) (tX X.kw hx W (eLenSet fa)) :=
  (pe_lenSet hg hm hg2 hm2 ha hc na).imp fun σ H Q h => by
    obtain ⟨F, ρ, ⟨O, r0⟩, hp⟩ := h
    refine bindX r0 hp fun d ρ1 v H1 O1 r1 s1 dv hp1 => ?_
    have lv := see1_lv r1.ce dv
    generalize see1 ρ1.st d = d2 at lv hp1
    cases d2 <;> (try exact hp1.elim)
    rename_i ds
    obtain ⟨l, vs, rfl, g, t⟩ := lv.lst_of
    have hp2 : Po X.kw hx F W σ (match asInts ds with
      | some ns => if ns.length ≤ 4000 then Rs.ok (.int ((metI ns).length : Nat)) ρ1 else .stuck
      | none => .stuck) Q := hp1
    cases e : asInts ds with
    | none => rw [e] at hp2; exact hp2.elim
    | some ns =>
      rw [e] at hp2
      have hp3 : Po X.kw hx F W σ (if ns.length ≤ 4000 then Rs.ok (.int ((metI ns).length : Nat)) ρ1 else .stuck) Q := hp2
      split at hp3
      · rename_i hl
        have ed := asInts_ok e
        subst ed
        have ev := t.ints
        subst ev
        exact ⟨l, ns, rfl, .of g, hl, hp3 _ H1 ⟨O1, r1, .int _⟩⟩
      · exact hp3.elim
end MB

/-! for over a list, a tuple or a cell that holds a list. -/
namespace MB
open PySem PySem.Spec PyProof.Rows L2
def loopC (b : BX) (g : SX) (d : D) : Nat → Nat → SX
  | 0, _, _ => .stuck
  | k + 1, i, ρ => match lstAt ρ.st d with
    | none => .stuck
    | some (_, ds) => match ds[i]? with
      | none => .nx ρ
      | some x => match b x ρ with
        | none => .stuck
        | some ρ1 => match g ρ1 with
          | .nx ρ2 => loopC b g d k (i + 1) ρ2
          | .ct ρ2 => loopC b g d k (i + 1) ρ2
          | .bk ρ2 => .nx ρ2
          | r => r
def sForS (f : EX) (b : BX) (g : SX) : SX := fun ρ => (f ρ).then fun d ρ1 => match lstAt ρ1.st d with
  | some _ => loopC b g d 1000001 0 ρ1
  | none => match seqI d with
    | some ds => loopS b g ds ρ1
    | none => .stuck
theorem forC_core {is : List Nat} {K : Kw} {hx : Hx} {W : WX} {F : Fm} {b : BX} {g : SX} {D : Ends} {ρ : En} {σ : MB.St} {H : Hp} {O : Ow} {a : Addr} {d : MB.D} {N : Nat} (r : RO K hx F ρ σ H O) (dv : DV K (wo O H) (.ref a) d) (hp : PoS K hx F W (loopC b g d N 0 ρ) D) :
    ∃ Wi : Nat → Nat → MB.St → Hp → Prop, (∃ m, Wi 0 m σ H) ∧ ∀ i m σ H, Wi i m σ H →
      ((Itl K.K a).stop i H ∧ D.nx σ H) ∨ ((Itl K.K a).go i H ∧ ∃ N : MB.St → Hp → Prop, (∀ σ' H', N σ' H' → ∃ m', m' < m ∧ Wi (i + 1) m' σ' H') ∧ ∀ x H', (Itl K.K a).yld i H x H' → tG K hx is b x σ H' fun σ2 H2 => tS K hx W g { D with nx := N, ct := N, bk := D.nx } σ2 H2) := by
  let F1 : Fm := ⟨O, H⟩
  have hp1 : PoS K hx F1 W (loopC b g d N 0 ρ) D := PoS.fr r.fr hp
  refine ⟨fun i m σ H => ∃ ρ O, RO K hx F1 ρ σ H O ∧ PoS K hx F1 W (loopC b g d m i ρ) D, ⟨N, ρ, O, r.re, hp1⟩, ?_⟩
  rintro i m σ2 H2 ⟨ρ2, O2, r2, hp2⟩
  have dv2 : DV K (wo O2 H2) (.ref a) d := DV.mono r2.fr.fs _ _ dv
  cases m with
  | zero => exact hp2.elim
  | succ k =>
    unfold loopC at hp2
    cases e : lstAt ρ2.st d with
    | none => rw [e] at hp2; exact hp2.elim
    | some p =>
      obtain ⟨n, ds⟩ := p
      rw [e] at hp2
      obtain ⟨_, a', vs, ea, _, h1, t⟩ := r2.ce.lstAt dv2 e
      cases ea
      have hp3 : PoS K hx F1 W (match ds[i]? with
        | none => .nx ρ2
        | some x => match b x ρ2 with
          | none => .stuck
          | some ρ1 => match g ρ1 with
            | .nx ρ2 => loopC b g d k (i + 1) ρ2
            | .ct ρ2 => loopC b g d k (i + 1) ρ2
            | .bk ρ2 => .nx ρ2
            | r => r) D := hp2
      cases e2 : ds[i]? with
      | none =>
        rw [e2] at hp3
        refine .inl ⟨⟨vs, .of h1, ?_⟩, hp3 σ2 H2 ⟨O2, r2⟩⟩
        rw [t.length]
        exact List.getElem?_eq_none_iff.mp e2
      | some x =>
        rw [e2] at hp3
        obtain ⟨v, hv, dx⟩ := t.get e2
        refine .inr ⟨⟨vs, v, .of h1, hv⟩, fun σ' H' => ∃ ρ' O', RO K hx F1 ρ' σ' H' O' ∧ PoS K hx F1 W (loopC b g d k (i + 1) ρ') D, fun σ' H' ⟨ρ', O', r', p'⟩ => ⟨k, Nat.lt_succ_self k, ρ', O', r', p'⟩, fun u H3 y => ?_⟩
        obtain ⟨eH, y⟩ := y
        subst eH
        have eu : u = v := Option.some.inj ((y vs (.of h1)).symm.trans hv)
        subst eu
        have hp4 : PoS K hx F1 W (match b x ρ2 with
          | none => .stuck
          | some ρ1 => match g ρ1 with
            | .nx ρ2 => loopC b g d k (i + 1) ρ2
            | .ct ρ2 => loopC b g d k (i + 1) ρ2
            | .bk ρ2 => .nx ρ2
            | r => r) D := hp3
        cases e3 : b x ρ2 with
        | none => rw [e3] at hp4; exact hp4.elim
        | some ρ3 =>
          rw [e3] at hp4
          refine ⟨F1, ρ2, x, O2, ρ3, r2, dx, e3, fun σ4 _ r4 => ⟨F1, ρ3, ⟨O2, r4⟩, ?_⟩⟩
          have hp5 : PoS K hx F1 W (match g ρ3 with
            | .nx ρ2 => loopC b g d k (i + 1) ρ2
            | .ct ρ2 => loopC b g d k (i + 1) ρ2
            | .bk ρ2 => .nx ρ2
            | r => r) D := hp4
          cases e4 : g ρ3 with
          | nx ρ5 =>
            rw [e4] at hp5
            exact fun σ5 H5 ⟨O5, r5⟩ => ⟨ρ5, O5, r5, hp5⟩
          | ct ρ5 =>
            rw [e4] at hp5
            exact fun σ5 H5 ⟨O5, r5⟩ => ⟨ρ5, O5, r5, hp5⟩
          | bk ρ5 => rw [e4] at hp5; exact hp5
          | rt d ρ5 => rw [e4] at hp5; exact hp5
          | err x ρ5 => rw [e4] at hp5; exact hp5
          | stuck => rw [e4] at hp5; exact hp5
theorem p_forS {X : Cx} {hx : Hx} {W : WX} {tg l : Expr} {body : List Stmt} {b : BX} {g : SX} {f : EX} {pos : Pos} {is : List Nat} (hp : PassesOwn (model X.prog X.w) X.A X.env X.xe) (hc : X.calm = true) (hl : PE X l (tX X.kw hx W f)) (hg : PG X tg (tG X.kw hx is b)) (hb : PSs X body (tS X.kw hx W g)) (hs : ∀ x, foldedSetIterable l X.env x = pure x := by intro _; rfl) :
    PS X (.For tg l body [] pos) (tS X.kw hx W (sForS f b g)) := (ps_for hp hc (pi_seq hl) hg hb hs).imp fun D σ H q => by
  obtain ⟨F, ρ, ⟨O, r⟩, hq⟩ := q
  refine bindS r hq fun d ρ1 v H1 O1 r1 dv hp1 => ?_
  cases e : lstAt ρ1.st d with
  | some p =>
    obtain ⟨n, ds⟩ := p
    rw [e] at hp1
    obtain ⟨_, a, vs, rfl, _, h1, t⟩ := r1.ce.lstAt dv e
    exact ⟨a, rfl, .inl ⟨⟨vs, .of h1⟩, forC_core r1 dv hp1⟩⟩
  | none =>
    rw [e] at hp1
    have hp2 : PoS X.kw hx F W (match seqI d with
      | some ds => loopS b g ds ρ1
      | none => .stuck) D := hp1
    cases d <;> (try exact hp2.elim)
    · obtain ⟨a, vs, rfl, s, t⟩ := dv.tup_of
      exact ⟨a, rfl, .inr ⟨⟨vs, sqT_mono (wo_same O1 H1) s⟩, for_core r1 (its_tup s t) hp2⟩⟩
    · obtain ⟨a, vs, rfl, s, t⟩ := dv.lst_of
      exact ⟨a, rfl, .inl ⟨⟨vs, .of (wo_same O1 H1 _ _ s)⟩, for_core r1 (its_lst s t) hp2⟩⟩
end MB

/-! One step, one lemma: expressions and statements over any slots, each part by its own equation. -/
namespace MB
open PySem PySem.Spec PyProof.Rows L2
section
variable {sl sl1 sl2 : List (Option Sl)} {S S1 S2 S3 S4 : Store} {d e z a b c : D} {f g h : EX} {i j n : Nat} {m : Fn} {ds es : List D}
theorem v_ (h : sl[i]? = some (some (.val d))) : eVar i ⟨sl, S⟩ = .ok d ⟨sl, S⟩ := by simp [h]
theorem c_ : eC d ⟨sl, S⟩ = .ok d ⟨sl, S⟩ := rfl
theorem b_ {op : D → D → Option D} (h1 : f ⟨sl, S⟩ = .ok d ⟨sl1, S1⟩) (h2 : g ⟨sl1, S1⟩ = .ok e ⟨sl2, S2⟩) (q : op d e = some z) : eB op f g ⟨sl, S⟩ = .ok z ⟨sl2, S2⟩ := by
  rw [eB_ap, h1, kB1_ok, h2, kB2_ok, q, kO_some]
theorem bf_ {op : D → D → Option Oc} (h1 : f ⟨sl, S⟩ = .ok d ⟨sl1, S1⟩) (h2 : g ⟨sl1, S1⟩ = .ok e ⟨sl2, S2⟩) {mm : Bool} (q : op (see1 S2 d) (see1 S2 e) = some (.val z)) : eBF mm op f g ⟨sl, S⟩ = .ok z ⟨sl2, S2⟩ := by
  rw [eBF_ap, h1, kBF1_ok, h2, kBF2_ok, q, kF_v]
theorem bf_l {op : D → D → Option Oc} (h1 : f ⟨sl, S⟩ = .ok d ⟨sl1, S1⟩) (h2 : g ⟨sl1, S1⟩ = .ok e ⟨sl2, S2⟩) (q : op (see1 S2 d) (see1 S2 e) = some (.new ds)) : eBF false op f g ⟨sl, S⟩ = .ok (.lst ds) ⟨sl2, S2⟩ := by
  rw [eBF_ap, h1, kBF1_ok, h2, kBF2_ok, q, kF_f]
theorem bf_c {op : D → D → Option Oc} (h1 : f ⟨sl, S⟩ = .ok d ⟨sl1, S1⟩) (h2 : g ⟨sl1, S1⟩ = .ok e ⟨sl2, S2⟩) (q : op (see1 S2 d) (see1 S2 e) = some (.new ds)) : eBF true op f g ⟨sl, S⟩ = .ok (.ce S2.length) ⟨sl2, S2 ++ [some (.lst ds)]⟩ := by
  rw [eBF_ap, h1, kBF1_ok, h2, kBF2_ok, q, kF_t]
theorem fn1_ (h1 : f ⟨sl, S⟩ = .ok a ⟨sl1, S1⟩) (q : m [a] S1 = .ok z S2) : eFn m [f] ⟨sl, S⟩ = .ok z ⟨sl1, S2⟩ := by
  simp [h1, q]
theorem fn2_ (h1 : f ⟨sl, S⟩ = .ok a ⟨sl1, S1⟩) (h2 : g ⟨sl1, S1⟩ = .ok b ⟨sl2, S2⟩) (q : m [a, b] S2 = .ok z S3) : eFn m [f, g] ⟨sl, S⟩ = .ok z ⟨sl2, S3⟩ := by
  simp [h1, h2, q]
theorem fn3_ {sl3 : List (Option Sl)} (h1 : f ⟨sl, S⟩ = .ok a ⟨sl1, S1⟩) (h2 : g ⟨sl1, S1⟩ = .ok b ⟨sl2, S2⟩) (h3 : h ⟨sl2, S2⟩ = .ok c ⟨sl3, S3⟩) (q : m [a, b, c] S3 = .ok z S4) : eFn m [f, g, h] ⟨sl, S⟩ = .ok z ⟨sl3, S4⟩ := by
  simp [h1, h2, h3, q]
theorem ca1_ {F : List D → Option D} (h1 : f ⟨sl, S⟩ = .ok a ⟨sl1, S1⟩) (q : F [a] = some z) : eCall F [f] ⟨sl, S⟩ = .ok z ⟨sl1, S1⟩ := by
  simp [h1, q]
theorem ca2_ {F : List D → Option D} (h1 : f ⟨sl, S⟩ = .ok a ⟨sl1, S1⟩) (h2 : g ⟨sl1, S1⟩ = .ok b ⟨sl2, S2⟩) (q : F [a, b] = some z) : eCall F [f, g] ⟨sl, S⟩ = .ok z ⟨sl2, S2⟩ := by
  simp [h1, h2, q]
theorem cf_ {F : D → Option Oc} {mm : Bool} (h1 : f ⟨sl, S⟩ = .ok a ⟨sl1, S1⟩) (q : F (see1 S1 a) = some (.val z)) : eCallF mm F f ⟨sl, S⟩ = .ok z ⟨sl1, S1⟩ := by
  rw [eCallF_ap, evl_cons, h1, kA_ok, evl_nil, List.nil_append, kCF_ok, q, kF_v]
theorem cf_l {F : D → Option Oc} (h1 : f ⟨sl, S⟩ = .ok a ⟨sl1, S1⟩) (q : F (see1 S1 a) = some (.new ds)) : eCallF false F f ⟨sl, S⟩ = .ok (.lst ds) ⟨sl1, S1⟩ := by
  rw [eCallF_ap, evl_cons, h1, kA_ok, evl_nil, List.nil_append, kCF_ok, q, kF_f]
theorem cf_c {F : D → Option Oc} (h1 : f ⟨sl, S⟩ = .ok a ⟨sl1, S1⟩) (q : F (see1 S1 a) = some (.new ds)) : eCallF true F f ⟨sl, S⟩ = .ok (.ce S1.length) ⟨sl1, S1 ++ [some (.lst ds)]⟩ := by
  rw [eCallF_ap, evl_cons, h1, kA_ok, evl_nil, List.nil_append, kCF_ok, q, kF_t]
theorem ln_ (h1 : f ⟨sl, S⟩ = .ok a ⟨sl1, S1⟩) (q : lenS S1 a = some z) : eLenS f ⟨sl, S⟩ = .ok z ⟨sl1, S1⟩ := by
  rw [eLenS_ap, evl_cons, h1, kA_ok, evl_nil, List.nil_append, kLS_ok, q, kO_some]
theorem ix_ (h1 : f ⟨sl, S⟩ = .ok a ⟨sl1, S1⟩) (h2 : g ⟨sl1, S1⟩ = .ok b ⟨sl2, S2⟩) (q : ixS S2 a b = some z) : eIxS f g ⟨sl, S⟩ = .ok z ⟨sl2, S2⟩ := by
  rw [eIxS_ap, h1, kIx1_ok, h2, kIx2_ok, q, kO_some]
theorem bs_ {op : D → D → Option D} {k : Nat} {t : Bool} (h1 : f ⟨sl, S⟩ = .ok a ⟨sl1, S1⟩) (h2 : g ⟨sl1, S1⟩ = .ok b ⟨sl2, S2⟩) (q : op (seeD S2 k a) (seeD S2 k b) = some (.bl t)) : eBs k op f g ⟨sl, S⟩ = .ok (.bl t) ⟨sl2, S2⟩ := by
  rw [eBs_ap, h1, kBs1_ok, h2, kBs2_ok, q, kSc_b]
theorem lm0_ : eLstM [] ⟨sl, S⟩ = .ok (.ce S.length) ⟨sl, S ++ [some (.lst [])]⟩ := by simp
/-- a list's method -/
theorem mu1_ {F : List D → List D → Option (D × List D)} {k k2 : Nat} {xs ys : List D} (h1 : f ⟨sl, S⟩ = .ok d ⟨sl1, S1⟩) (l1 : lstAt S1 d = some (k, xs)) (h2 : g ⟨sl1, S1⟩ = .ok a ⟨sl2, S2⟩) (l2 : lstAt S2 d = some (k2, ys)) (q : F ys [a] = some (z, ds)) :
    eMut F f [g] ⟨sl, S⟩ = .ok z ⟨sl2, S2.set k2 (some (.lst ds))⟩ := by
  rw [eMut_ap, h1, kMu_ok, show En.st ⟨sl1, S1⟩ = S1 from rfl, l1, kMu0_s, evl_cons, h2, kA_ok, evl_nil, List.nil_append, kMu1_ok, show En.st ⟨sl2, S2⟩ = S2 from rfl, l2, kMu2_s, q, kMu3_s]
theorem mu0_ {F : List D → List D → Option (D × List D)} {k : Nat} {xs : List D} (h1 : f ⟨sl, S⟩ = .ok d ⟨sl1, S1⟩) (l1 : lstAt S1 d = some (k, xs)) (q : F xs [] = some (z, ds)) :
    eMut F f [] ⟨sl, S⟩ = .ok z ⟨sl1, S1.set k (some (.lst ds))⟩ := by
  rw [eMut_ap, h1, kMu_ok, show En.st ⟨sl1, S1⟩ = S1 from rfl, l1, kMu0_s, evl_nil, kMu1_ok, show En.st ⟨sl1, S1⟩ = S1 from rfl, l1, kMu2_s, q, kMu3_s]
theorem la_ {k : Nat} {xs : List D} (h : S[k]? = some (some (.lst xs))) : lstAt S (.ce k) = some (k, xs) := by simp [h]
theorem and_t (h1 : f ⟨sl, S⟩ = .ok a ⟨sl1, S1⟩) (t : truth a = some true) : eAnd f g ⟨sl, S⟩ = g ⟨sl1, S1⟩ := by
  rw [eAnd_ap, h1, kAnd_ok, t, kT_t]
theorem and_f (h1 : f ⟨sl, S⟩ = .ok a ⟨sl1, S1⟩) (t : truth a = some false) : eAnd f g ⟨sl, S⟩ = .ok a ⟨sl1, S1⟩ := by
  rw [eAnd_ap, h1, kAnd_ok, t, kT_f]
  rfl
theorem or_t (h1 : f ⟨sl, S⟩ = .ok a ⟨sl1, S1⟩) (t : truth a = some true) : eOr f g ⟨sl, S⟩ = .ok a ⟨sl1, S1⟩ := by
  rw [eOr_ap, h1, kOr_ok, t, kT_t]
  rfl
theorem or_f (h1 : f ⟨sl, S⟩ = .ok a ⟨sl1, S1⟩) (t : truth a = some false) : eOr f g ⟨sl, S⟩ = g ⟨sl1, S1⟩ := by
  rw [eOr_ap, h1, kOr_ok, t, kT_f]
theorem not_ {t : Bool} (h1 : f ⟨sl, S⟩ = .ok a ⟨sl1, S1⟩) (q : truth a = some t) : eNot f ⟨sl, S⟩ = .ok (.bl (!t)) ⟨sl1, S1⟩ := by
  rw [eNot_ap, h1, kNot_ok, q, kN_s]
theorem t2_ (h1 : f ⟨sl, S⟩ = .ok a ⟨sl1, S1⟩) (h2 : g ⟨sl1, S1⟩ = .ok b ⟨sl2, S2⟩) : eTup [f, g] ⟨sl, S⟩ = .ok (.tup [a, b]) ⟨sl2, S2⟩ := by
  simp [h1, h2]
/-! statements -/
theorem set_ (h1 : f ⟨sl, S⟩ = .ok d ⟨sl1, S1⟩) (e : sl1.set i (some (.val d)) = sl2) : sSet i f ⟨sl, S⟩ = .nx ⟨sl2, S1⟩ := by
  rw [sSet_ap, h1, ← e]
  rfl
theorem ex_ (h1 : f ⟨sl, S⟩ = .ok d ⟨sl1, S1⟩) : sEx f ⟨sl, S⟩ = .nx ⟨sl1, S1⟩ := by
  rw [sEx_ap, h1]
  rfl
theorem ret_ (h1 : f ⟨sl, S⟩ = .ok d ⟨sl1, S1⟩) : sRet f ⟨sl, S⟩ = .rt d ⟨sl1, S1⟩ := by
  rw [sRet_ap, h1]
  rfl
theorem if_t {u v : SX} (h1 : f ⟨sl, S⟩ = .ok d ⟨sl1, S1⟩) (t : truth d = some true) : sIf f u v ⟨sl, S⟩ = u ⟨sl1, S1⟩ := by
  rw [sIf_ap, h1]
  show kIT u v (truth d) _ = _
  rw [t]
  rfl
theorem if_f {u v : SX} (h1 : f ⟨sl, S⟩ = .ok d ⟨sl1, S1⟩) (t : truth d = some false) : sIf f u v ⟨sl, S⟩ = v ⟨sl1, S1⟩ := by
  rw [sIf_ap, h1]
  show kIT u v (truth d) _ = _
  rw [t]
  rfl
theorem nil_ : sNil ⟨sl, S⟩ = .nx ⟨sl, S⟩ := rfl
theorem un_ {bb : BX} {ρ : En} (h1 : f ⟨sl, S⟩ = .ok d ⟨sl1, S1⟩) (q : bb d ⟨sl1, S1⟩ = some ρ) : sUn bb f ⟨sl, S⟩ = .nx ρ := by
  rw [sUn_ap, h1]
  show kUO (bb d ⟨sl1, S1⟩) = _
  rw [q]
  rfl
theorem sq_ {u v : SX} {ρ ρ1 : En} {o : Fl} (e1 : u ρ = .nx ρ1) (e2 : v ρ1 = o) : sSeq u v ρ = o := by
  rw [sSeq_ap, e1]
  exact e2
theorem sq_r {u v : SX} {ρ ρ1 : En} {d : D} (e1 : u ρ = .rt d ρ1) : sSeq u v ρ = .rt d ρ1 := by
  rw [sSeq_ap, e1]
  rfl
theorem sq_e {u v : SX} {ρ ρ1 : En} {x : Ex} (e1 : u ρ = .err x ρ1) : sSeq u v ρ = .err x ρ1 := by
  rw [sSeq_ap, e1]
  rfl
theorem for_ {it : IX} {bb : BX} {u : SX} {ρ ρ1 : En} {o : Fl} (q : it ρ = .ok ds ρ1) (h : loopS bb u ds ρ1 = o) : sFor it bb u ρ = o := by
  rw [sFor_ap, q, kFor_ok]
  exact h
theorem fr_l (h : sl[i]? = some (some (.val (.lst ds)))) : sFr i ⟨sl, S⟩ = .nx ⟨sl, S⟩ := by
  simp [h]
theorem fr_t (h : sl[i]? = some (some (.val (.tup ds)))) : sFr i ⟨sl, S⟩ = .nx ⟨sl, S⟩ := by
  simp [h]
theorem fr_c {k : Nat} (h : sl[i]? = some (some (.val (.ce k)))) (q : S[k]? = some (some (.lst ds))) (e : sl.set i (some (.val (.lst ds))) = sl1) : sFr i ⟨sl, S⟩ = .nx ⟨sl1, S.set k none⟩ := by
  subst e
  simp [h, q]
theorem put_ {T : Store} (h3 : g ⟨sl, S⟩ = .ok e ⟨sl, S1⟩) (h1 : f ⟨sl, S1⟩ = .ok d ⟨sl, S2⟩) (h2 : h ⟨sl, S2⟩ = .ok z ⟨sl, S3⟩) (q : putS S3 d z e = some T) : sPutS f h g ⟨sl, S⟩ = .nx ⟨sl, T⟩ := by
  rw [sPutS_ap, h3, kPS1_ok, h1, kPS2_ok, h2, kPS3_ok, q, kPS_s]
/-! iterators -/
theorem iv_ {its : D → Option (List D)} (h1 : f ⟨sl, S⟩ = .ok d ⟨sl1, S1⟩) (q : its d = some ds) : iV its f ⟨sl, S⟩ = .ok ds ⟨sl1, S1⟩ := by
  simp [h1, q]
theorem ir1_ {k : Nat} (hk : k ≤ 1000000) (h1 : f ⟨sl, S⟩ = .ok (.int (k : Nat)) ⟨sl1, S1⟩) : iR1 f ⟨sl, S⟩ = .ok ((List.range k).map fun j => D.int (j : Nat)) ⟨sl1, S1⟩ := by
  have hb : ∀ z : Int, z = ((k : Nat) : Int) → big z = true := fun z hz => decide_eq_true ⟨by omega, by omega⟩
  have hr : ∀ z : Int, z = ((k : Nat) : Int) → rangeL 0 z.toNat = (List.range k).map fun j => D.int (j : Nat) := fun z hz => by
    unfold rangeL
    rw [hz, Int.toNat_natCast]
    refine List.map_congr_left fun k _ => ?_
    congr 1
    omega
  have key : ∀ z : Int, z = ((k : Nat) : Int) → kR1 (.ok (.int z) ⟨sl1, S1⟩) = .ok ((List.range k).map fun j => D.int (j : Nat)) ⟨sl1, S1⟩ := fun z hz => by
    show (if big z = true then _ else _) = _
    rw [if_pos (hb z hz), hr z hz]
  rw [iR1_ap, h1]
  exact key _ rfl
theorem lp_ {bb : BX} {u : SX} {ρ ρ1 ρ2 : En} {o : Fl} (e1 : bb d ρ = some ρ1) (e2 : u ρ1 = .nx ρ2) (e3 : loopS bb u ds ρ2 = o) : loopS bb u (d :: ds) ρ = o := (loopS_cons e1 e2).trans e3
end
theorem wipe_st (ρ : En) : ∀ vs : List Nat, (wipeE ρ vs).st = ρ.st
  | [] => rfl
  | v :: vs => by rw [wipeE_cons, En.set_st, wipe_st ρ vs]
theorem eCompM_filt {it : IX} {b : BX} {c e : EX} {vs : List Nat} {p : D → Bool} {g : D → D} {ds : List D} {ρ ρ1 : En} (hi : it ρ = .ok ds ρ1) (hl : ds.length ≤ 1000000)
    (H : ∀ d ∈ ds, ∃ ρ2, b d (wipeE ρ1 vs) = some ρ2 ∧ ∃ t ρ3, c ρ2 = .ok t ρ3 ∧ truth t = some (p d) ∧ (p d = false → wipeE ρ3 vs = wipeE ρ1 vs) ∧ (p d = true → ∃ ρ4, e ρ3 = .ok (g d) ρ4 ∧ wipeE ρ4 vs = wipeE ρ1 vs)) :
    eCompM it b c e vs ρ = .ok (.ce ρ1.st.length) ⟨(backE ρ1 (wipeE ρ1 vs) vs).sl, ρ1.st ++ [some (.lst ((ds.filter p).map g))]⟩ := by
  obtain ⟨ρ', e1, h1⟩ := compL_filt (acc := []) H rfl
  have hs : ρ'.st = ρ1.st := by rw [← wipe_st ρ' vs, h1, wipe_st]
  rw [eCompM_ap, hi, kCoM_ok, if_pos hl, e1, List.nil_append, kMl_ok, h1, hs]
theorem eCompM_map {it : IX} {b : BX} {e : EX} {vs : List Nat} {g : D → D} {ds : List D} {ρ ρ1 : En} (hi : it ρ = .ok ds ρ1) (hl : ds.length ≤ 1000000)
    (H : ∀ d ∈ ds, ∃ ρ2, b d (wipeE ρ1 vs) = some ρ2 ∧ ∃ ρ3, e ρ2 = .ok (g d) ρ3 ∧ wipeE ρ3 vs = wipeE ρ1 vs) :
    eCompM it b (eC (.bl true)) e vs ρ = .ok (.ce ρ1.st.length) ⟨(backE ρ1 (wipeE ρ1 vs) vs).sl, ρ1.st ++ [some (.lst (ds.map g))]⟩ := by
  obtain ⟨ρ', e1, h1⟩ := compL_map (acc := []) H rfl
  have hs : ρ'.st = ρ1.st := by rw [← wipe_st ρ' vs, h1, wipe_st]
  rw [eCompM_ap, hi, kCoM_ok, if_pos hl, e1, List.nil_append, kMl_ok, h1, hs]
section
variable {sl sl1 sl2 sl3 : List (Option Sl)} {S S1 S2 S3 : Store} {d : D} {f g h : EX} {ds : List D} {lo hi : Int}
theorem slh_l (h1 : f ⟨sl, S⟩ = .ok d ⟨sl1, S1⟩) (h2 : g ⟨sl1, S1⟩ = .ok (.int hi) ⟨sl2, S2⟩) (q : slF (see1 S2 d) none (some hi) = some (.new ds)) : eSlF false f none (some g) ⟨sl, S⟩ = .ok (.lst ds) ⟨sl2, S2⟩ := by
  rw [eSlF_ap, h1, kSla_n, kSlo_s, h2, kSlH_ok, kSl_ap, q, kF_f]
theorem sll_l (h1 : f ⟨sl, S⟩ = .ok d ⟨sl1, S1⟩) (h2 : g ⟨sl1, S1⟩ = .ok (.int lo) ⟨sl2, S2⟩) (q : slF (see1 S2 d) (some lo) none = some (.new ds)) : eSlF false f (some g) none ⟨sl, S⟩ = .ok (.lst ds) ⟨sl2, S2⟩ := by
  rw [eSlF_ap, h1, kSla_s, h2, kSlL_ok, kSlo_n, kSl_ap, q, kF_f]
theorem slb_l (h1 : f ⟨sl, S⟩ = .ok d ⟨sl1, S1⟩) (h2 : g ⟨sl1, S1⟩ = .ok (.int lo) ⟨sl2, S2⟩) (h3 : h ⟨sl2, S2⟩ = .ok (.int hi) ⟨sl3, S3⟩) (q : slF (see1 S3 d) (some lo) (some hi) = some (.new ds)) : eSlF false f (some g) (some h) ⟨sl, S⟩ = .ok (.lst ds) ⟨sl3, S3⟩ := by
  rw [eSlF_ap, h1, kSla_s, h2, kSlL_ok, kSlo_s, h3, kSlH_ok, kSl_ap, q, kF_f]
theorem l0_ : eLst [] ⟨sl, S⟩ = .ok (.lst []) ⟨sl, S⟩ := by simp
theorem l1_ {a : D} (h1 : f ⟨sl, S⟩ = .ok a ⟨sl1, S1⟩) : eLst [f] ⟨sl, S⟩ = .ok (.lst [a]) ⟨sl1, S1⟩ := by simp [h1]
theorem l2_ {a b : D} (h1 : f ⟨sl, S⟩ = .ok a ⟨sl1, S1⟩) (h2 : g ⟨sl1, S1⟩ = .ok b ⟨sl2, S2⟩) : eLst [f, g] ⟨sl, S⟩ = .ok (.lst [a, b]) ⟨sl2, S2⟩ := by simp [h1, h2]
theorem l3_ {a b c : D} (h1 : f ⟨sl, S⟩ = .ok a ⟨sl1, S1⟩) (h2 : g ⟨sl1, S1⟩ = .ok b ⟨sl2, S2⟩) (h3 : h ⟨sl2, S2⟩ = .ok c ⟨sl3, S3⟩) : eLst [f, g, h] ⟨sl, S⟩ = .ok (.lst [a, b, c]) ⟨sl3, S3⟩ := by simp [h1, h2, h3]
end
/-! slices of lists -/
theorem sIx_nat {n k : Nat} {d : Nat} : HT.sIx n d (some (k : Nat)) = min k n := by
  unfold HT.sIx
  simp only []
  split <;> omega
theorem cut_hi {α : Type} {l : List α} {k : Nat} : cutD l none (some (k : Nat)) = l.take k := by
  unfold cutD
  rw [sIx_nat]
  show (l.drop 0).take (min k l.length - 0) = _
  rw [List.drop_zero, Nat.sub_zero]
  rcases Nat.le_total k l.length with h | h
  · rw [Nat.min_eq_left h]
  · rw [Nat.min_eq_right h, List.take_length, List.take_of_length_le h]
theorem cut_lo {α : Type} {l : List α} {k : Nat} : cutD l (some (k : Nat)) none = l.drop k := by
  unfold cutD
  rw [sIx_nat]
  show (l.drop (min k l.length)).take (l.length - min k l.length) = _
  rcases Nat.le_total k l.length with h | h
  · rw [Nat.min_eq_left h, List.take_of_length_le (by rw [List.length_drop]; omega)]
  · rw [Nat.min_eq_right h, List.drop_length, List.drop_of_length_le h, List.take_nil]
theorem cut_no {α : Type} {l : List α} : cutD l none none = l := by
  unfold cutD
  show (l.drop 0).take (l.length - 0) = _
  rw [List.drop_zero, Nat.sub_zero, List.take_length]
end MB

/-! _law_sums: the directions. -/
namespace K53
open PySem MB
theorem eq_one {v : List Int} : eqD (.lst ((v.map D.int).take 1)) (.lst [.int 1]) = some (.bl (v.take 1 == [1])) := by
  cases v with
  | nil => rfl
  | cons y v =>
    show eqD (.lst [.int y]) (.lst [.int 1]) = some (.bl ([y] == [1]))
    have : eqB (.lst [.int y]) (.lst [.int 1]) = some (y == 1) := by
      unfold eqB
      rw [if_neg (by simp [scalD])]
      have e1 : toPy (.lst [.int y]) = some (.list [.int y]) := by simp [toPy, toPys]
      have e2 : toPy (.lst [.int 1]) = some (.list [.int 1]) := by simp [toPy, toPys]
      have s1 : SeqAt.shaped (.list [.int y]) = true := rfl
      have s2 : SeqAt.shaped (.list [.int 1]) = true := rfl
      rw [e1, e2]
      simp only [s1, s2, Bool.and_self, if_true]
      congr 1
      simp [PyData.eqv, PyData.eqvAll]
    unfold eqD
    rw [this]
    simp
def posD : D → Bool
  | .int t => decide (0 < t)
  | _ => false
theorem fcomp {v : List Int} (hv : v.length ≤ 1000) {x0 x1 x2 x3 x4 x5 x8 x9 xa xb xc xd xe xf xg : Option Sl} {S : Store} :
    eComp it__law_sums_0 (bNm 7) ct__law_sums_1 ce__law_sums_2 [7] ⟨[x0, x1, x2, x3, x4, x5, some (.val (vD v)), none, x8, x9, xa, xb, xc, xd, xe, xf, xg], S⟩
      = .ok (.lst ((v.filter fun x => decide (0 < x)).map D.int)) ⟨[x0, x1, x2, x3, x4, x5, some (.val (vD v)), none, x8, x9, xa, xb, xc, xd, xe, xf, xg], S⟩ := by
  have it : it__law_sums_0 ⟨[x0, x1, x2, x3, x4, x5, some (.val (vD v)), none, x8, x9, xa, xb, xc, xd, xe, xf, xg], S⟩ = .ok (v.map D.int) ⟨[x0, x1, x2, x3, x4, x5, some (.val (vD v)), none, x8, x9, xa, xb, xc, xd, xe, xf, xg], S⟩ := iv_ (v_ rfl) rfl
  refine (eComp_filt (p := posD) (g := id) it (by rw [List.length_map]; omega) ?_).trans ?_
  · intro d hd
    obtain ⟨x, _, rfl⟩ := List.mem_map.mp hd
    refine ⟨⟨[x0, x1, x2, x3, x4, x5, some (.val (vD v)), some (.val (.int x)), x8, x9, xa, xb, xc, xd, xe, xf, xg], S⟩, rfl, _, _, b_ (v_ rfl) c_ gtD_i, rfl, fun _ => rfl, fun _ => ⟨_, v_ rfl, rfl⟩⟩
  · rw [List.map_id, List.filter_map]
    rfl
theorem dtest {v : List Int} (hv : v.length ≤ 1000) {x0 x1 x2 x3 x4 x5 x8 x9 xa xb xc xd xe xf xg : Option Sl} {S : Store} :
    ct__law_sums_4 ⟨[x0, x1, x2, x3, x4, x5, some (.val (vD v)), none, x8, x9, xa, xb, xc, xd, xe, xf, xg], S⟩
      = .ok (.bl (isDir v)) ⟨[x0, x1, x2, x3, x4, x5, some (.val (vD v)), none, x8, x9, xa, xb, xc, xd, xe, xf, xg], S⟩ := by
  unfold ct__law_sums_4
  have c := fcomp hv (x0 := x0) (x1 := x1) (x2 := x2) (x3 := x3) (x4 := x4) (x5 := x5) (x8 := x8) (x9 := x9) (xa := xa) (xb := xb) (xc := xc) (xd := xd) (xe := xe) (xf := xf) (xg := xg) (S := S)
  have s := slh_l (hi := (1 : Nat)) (g := eC (.int 1)) c c_ (ds := ((v.filter fun x => decide (0 < x)).map D.int).take 1) (by
    show some (Oc.new (cutD _ none (some ((1 : Nat) : Int)))) = _
    rw [cut_hi])
  refine bs_ s (l1_ c_) ?_
  have e1 : seeD S 3 (.lst (((v.filter fun x => decide (0 < x)).map D.int).take 1)) = .lst (((v.filter fun x => decide (0 < x)).map D.int).take 1) := by
    rw [seeD_l, ← List.map_take, seeD_ints]
  have e2 : seeD S 3 (.lst [.int 1]) = .lst [.int 1] := by simp
  rw [e1, e2]
  exact eq_one
theorem icomp {vs : List (List Int)} (hl : vs.length ≤ 1000000) (hv : ∀ v ∈ vs, v.length ≤ 1000) {x0 x1 x2 x3 x5 x8 x9 xa xb xc xd xe xf xg : Option Sl} {S : Store} :
    eCompM it__law_sums_3 (bNm 6) ct__law_sums_4 ce__law_sums_5 [6] ⟨[x0, x1, x2, x3, some (.val (.lst (vs.map vD))), x5, none, none, x8, x9, xa, xb, xc, xd, xe, xf, xg], S⟩
      = .ok (.ce S.length) ⟨[x0, x1, x2, x3, some (.val (.lst (vs.map vD))), x5, none, none, x8, x9, xa, xb, xc, xd, xe, xf, xg], S ++ [some (.lst ((vs.filter isDir).map vD))]⟩ := by
  have it : it__law_sums_3 ⟨[x0, x1, x2, x3, some (.val (.lst (vs.map vD))), x5, none, none, x8, x9, xa, xb, xc, xd, xe, xf, xg], S⟩ = .ok (vs.map vD) ⟨[x0, x1, x2, x3, some (.val (.lst (vs.map vD))), x5, none, none, x8, x9, xa, xb, xc, xd, xe, xf, xg], S⟩ := iv_ (v_ rfl) rfl
  let p : D → Bool := fun d => match d with
    | .tup l => isDir (l.map fun e => match e with | .int i => i | _ => 0)
    | _ => false
  have hp : ∀ v : List Int, p (vD v) = isDir v := fun v => by
    show isDir ((v.map D.int).map _) = _
    rw [List.map_map]
    congr 1
    exact List.map_id _
  refine (eCompM_filt (p := p) (g := id) it (by rw [List.length_map]; exact hl) ?_).trans ?_
  · intro d hd
    obtain ⟨v, mv, rfl⟩ := List.mem_map.mp hd
    refine ⟨⟨[x0, x1, x2, x3, some (.val (.lst (vs.map vD))), x5, some (.val (vD v)), none, x8, x9, xa, xb, xc, xd, xe, xf, xg], S⟩, rfl, _, _, dtest (hv v mv), by rw [hp]; rfl, fun _ => rfl, fun _ => ⟨_, v_ rfl, rfl⟩⟩
  · rw [List.map_id, List.filter_map]
    have : (p ∘ vD) = isDir := funext hp
    rw [this]
    rfl
end K53

/-! _law_sums: the columns are drawn. -/
namespace K53
open PySem MB
theorem Dr.refl {k : Nat} {B : Store} (h : BoxAt B k) : Dr k B B := ⟨rfl, fun _ _ => rfl, h⟩
theorem BoxAt.app {B T : Store} {k : Nat} (h : BoxAt B k) : BoxAt (B ++ T) k := by
  have := h.lt
  exact h.get (List.getElem?_append_left this)
theorem draw_app {B T : Store} {k : Nat} {many : Int} (hb : BoxAt B k) (h0 : 0 < many) (hd : many < 1073741824) : ∃ z B', m__law_draw [.ce k, .int many] (B ++ T) = .ok (.int z) (B' ++ T) ∧ Dr k B B' ∧ 0 ≤ z ∧ z < many := by
  have hk := hb.lt
  have hdo : divOk 0 many = true := by
    unfold divOk
    simp only [Bool.or_eq_true, decide_eq_true_eq]
    left
    omega
  obtain ⟨z, cs, e, bx, z0, z1⟩ := draw_spec (hb.app (T := T)) h0 hdo
  refine ⟨z, B.set k (some (.lst cs)), ?_, Dr.of hk bx, z0, z1⟩
  rw [e, List.set_append_left _ _ hk]
theorem g2a {B : Store} {p : Nat} {a b : Option Cn} (h : B.length = p) : (B ++ [a, b])[p]? = some a := by
  subst h
  simp
theorem g2b {B : Store} {p : Nat} {a b : Option Cn} (h : B.length = p) : (B ++ [a, b])[p + 1]? = some b := by
  subst h
  simp
theorem s2a {B : Store} {p : Nat} {a b c : Option Cn} (h : B.length = p) : (B ++ [a, b]).set p c = B ++ [c, b] := by
  subst h
  rw [List.set_append_right _ _ (Nat.le_refl _)]
  simp
theorem s2b {B : Store} {p : Nat} {a b c : Option Cn} (h : B.length = p) : (B ++ [a, b]).set (p + 1) c = B ++ [a, c] := by
  subst h
  rw [List.set_append_right _ _ (by omega)]
  simp
theorem len_cell {S : Store} {k : Nat} {l : List D} (h : S[k]? = some (some (.lst l))) : lenS S (.ce k) = some (.int (l.length : Nat)) := by
  simp [h]
theorem popAt_z {ds : List D} {i : Nat} {z : Int} (hz : z = (i : Nat)) (h : i < ds.length) (hl : ds.length ≤ 1000000) : popAtF ds [.int z] = some (ds[i], ds.eraseIdx i) := by
  show (if -(2 ^ 63) ≤ z ∧ z < 2 ^ 63 then (seqIndex? z ds.length).bind fun k => (ds[k]?).map fun x => (x, ds.eraseIdx k) else none) = _
  have hc : -(2 ^ 63) ≤ z ∧ z < 2 ^ 63 := by constructor <;> omega
  rw [if_pos hc]
  have e : seqIndex? z ds.length = some i := by
    unfold seqIndex?
    subst hz
    simp
    omega
  rw [e]
  show (ds[i]?).map _ = _
  rw [List.getElem?_eq_getElem h]
  rfl
theorem popAt_nat {ds : List D} {i : Nat} (h : i < ds.length) (hl : ds.length ≤ 1000000) : popAtF ds [.int (i : Nat)] = some (ds[i], ds.eraseIdx i) := popAt_z rfl h hl
theorem app_ok {ds : List D} {e : D} (h : ds.length < 16777216) : appF ds [e] = some (.non, ds ++ [e]) := by
  simp [h]
theorem erase_map {vs : List (List Int)} {i : Nat} : (vs.map vD).eraseIdx i = (vs.eraseIdx i).map vD := by
  rw [List.eraseIdx_eq_take_drop_succ, List.eraseIdx_eq_take_drop_succ, List.map_append, List.map_take, List.map_drop]
theorem pop_step {k p : Nat} {B : Store} {rest cols : List (List Int)} {x1 x2 x3 x4 x6 x7 x8 x10 xb xc xd xe xf xg : Option Sl} (hb : BoxAt B k) (hp : B.length = p) (h0 : 0 < rest.length) (h1 : rest.length ≤ 1000000) (h2 : cols.length ≤ 1000000) :
    ∃ (i : Nat) (h : i < rest.length) (B' : Store), g__law_sums_7 ⟨[some (.val (.ce k)), x1, x2, x3, x4, some (.val (.ce p)), x6, x7, x8, some (.val (.ce (p + 1))), x10, xb, xc, xd, xe, xf, xg], B ++ [some (.lst (rest.map vD)), some (.lst (cols.map vD))]⟩
      = .nx ⟨[some (.val (.ce k)), x1, x2, x3, x4, some (.val (.ce p)), x6, x7, x8, some (.val (.ce (p + 1))), x10, xb, xc, xd, xe, xf, xg], B' ++ [some (.lst ((rest.eraseIdx i).map vD)), some (.lst ((cols ++ [rest[i]]).map vD))]⟩ ∧ Dr k B B' := by
  obtain ⟨z, B', e, d, z0, z1⟩ := draw_app (T := [some (.lst (rest.map vD)), some (.lst (cols.map vD))]) (many := (rest.length : Nat)) hb (by omega) (by omega)
  obtain ⟨i, rfl⟩ := Int.eq_ofNat_of_zero_le z0
  have hi : i < rest.length := by omega
  refine ⟨i, hi, B', ?_, d⟩
  have hp' : B'.length = p := d.len.trans hp
  have hl : (rest.map vD).length = rest.length := List.length_map _
  have e1 := ln_ (f := eVar 5) (sl := [some (.val (.ce k)), x1, x2, x3, x4, some (.val (.ce p)), x6, x7, x8, some (.val (.ce (p + 1))), x10, xb, xc, xd, xe, xf, xg]) (v_ rfl) (len_cell (g2a (a := some (.lst (rest.map vD))) (b := some (.lst (cols.map vD))) hp))
  rw [hl] at e1
  have e2 := fn2_ (f := eVar 0) (v_ rfl) e1 e
  have e3 := mu1_ (f := eVar 5) (F := popAtF) (v_ rfl) (la_ (g2a (a := some (.lst (rest.map vD))) (b := some (.lst (cols.map vD))) hp)) e2 (la_ (g2a (a := some (.lst (rest.map vD))) (b := some (.lst (cols.map vD))) hp')) (popAt_nat (by rw [hl]; exact hi) (by rw [hl]; exact h1))
  rw [s2a hp', erase_map] at e3
  have e4 := mu1_ (f := eVar 9) (F := appF) (v_ rfl) (la_ (g2b (a := some (.lst (rest.map vD))) (b := some (.lst (cols.map vD))) hp)) e3 (la_ (g2b (a := some (.lst ((rest.eraseIdx i).map vD))) (b := some (.lst (cols.map vD))) hp')) (app_ok (by rw [List.length_map]; omega))
  rw [s2b hp'] at e4
  unfold g__law_sums_7
  rw [ex_ e4]
  have e5 : (rest.map vD)[i]'(by rw [hl]; exact hi) = vD rest[i] := by simp
  rw [e5, List.map_append]
  rfl
theorem pop_loop {k p : Nat} {x1 x2 x3 x4 x6 x7 x8 xb xc xd xe xf xg : Option Sl} : ∀ (ds : List D) (B : Store) (rest cols : List (List Int)) (x10 : Option Sl), BoxAt B k → B.length = p → ds.length ≤ rest.length → rest.length ≤ 1000000 → cols.length + ds.length ≤ 1000000 → ∃ (B' : Store) (rest' cols' : List (List Int)) (y10 : Option Sl),
    loopS (bNm 10) g__law_sums_7 ds ⟨[some (.val (.ce k)), x1, x2, x3, x4, some (.val (.ce p)), x6, x7, x8, some (.val (.ce (p + 1))), x10, xb, xc, xd, xe, xf, xg], B ++ [some (.lst (rest.map vD)), some (.lst (cols.map vD))]⟩
      = .nx ⟨[some (.val (.ce k)), x1, x2, x3, x4, some (.val (.ce p)), x6, x7, x8, some (.val (.ce (p + 1))), y10, xb, xc, xd, xe, xf, xg], B' ++ [some (.lst (rest'.map vD)), some (.lst (cols'.map vD))]⟩ ∧ Dr k B B' ∧ cols'.length = cols.length + ds.length ∧ (cols' ++ rest').Perm (cols ++ rest)
  | [], B, rest, cols, x10, hb, _, _, _, _ => ⟨B, rest, cols, x10, rfl, Dr.refl hb, rfl, List.Perm.refl _⟩
  | d :: ds, B, rest, cols, x10, hb, hp, h1, h2, h3 => by
    rw [List.length_cons] at h1 h3
    obtain ⟨i, hi, B1, e, d1⟩ := pop_step (x1 := x1) (x2 := x2) (x3 := x3) (x4 := x4) (x6 := x6) (x7 := x7) (x8 := x8) (x10 := some (.val d)) (xb := xb) (xc := xc) (xd := xd) (xe := xe) (xf := xf) (xg := xg) (cols := cols) hb hp (show 0 < rest.length by omega) h2 (by omega)
    have hle := List.length_eraseIdx_of_lt hi
    obtain ⟨B2, rest', cols', y10, e2, d2, l2, p2⟩ := pop_loop (x1 := x1) (x2 := x2) (x3 := x3) (x4 := x4) (x6 := x6) (x7 := x7) (x8 := x8) (xb := xb) (xc := xc) (xd := xd) (xe := xe) (xf := xf) (xg := xg) ds B1 (rest.eraseIdx i) (cols ++ [rest[i]]) (some (.val d)) d1.box (d1.len.trans hp) (by omega) (by omega) (by rw [List.length_append, List.length_singleton]; omega)
    refine ⟨B2, rest', cols', y10, (loopS_cons rfl e).trans e2, d1.trans d2, by rw [l2, List.length_append, List.length_singleton, List.length_cons]; omega, p2.trans ?_⟩
    rw [List.append_assoc]
    refine List.Perm.append_left _ ?_
    have e5 : rest = rest.take i ++ rest[i] :: rest.drop (i + 1) := by
      rw [List.getElem_cons_drop, List.take_append_drop]
    rw [List.eraseIdx_eq_take_drop_succ, List.singleton_append]
    exact ((List.Perm.of_eq e5).trans List.perm_middle).symm
end K53

/-! _law_sums: the rows. -/
namespace K53
open PySem MB
theorem last_get {W : Store} {n : Nat} {c : Option Cn} (h : W.length = n) : (W ++ [c])[n]? = some c := by
  subst h; simp
theorem last_set {W : Store} {n : Nat} {c d : Option Cn} (h : W.length = n) : (W ++ [c]).set n d = W ++ [d] := by
  subst h
  rw [List.set_append_right _ _ (Nat.le_refl _)]
  simp
theorem app_get {W : Store} {q : Nat} {c x : Option Cn} (h : W[q]? = some x) : (W ++ [c])[q]? = some x := by
  rw [List.getElem?_append_left (List.getElem?_eq_some_iff.mp h).1]
  exact h
theorem app_set {W : Store} {q : Nat} {c d : Option Cn} (h : q < W.length) : (W ++ [c]).set q d = W.set q d ++ [c] := by
  rw [List.set_append_left _ _ h]
theorem zip_tups {v c : List Int} : zipD (v.map D.int) (c.map D.int) = (v.zip c).map fun p => D.tup [.int p.1, .int p.2] := zip_pairs v c
def prodD : D → D
  | .tup [.int a, .int b] => .int (a * b)
  | d => d
theorem dcomp {v c : List Int} (hv : v.length ≤ 1000) (hs : ∀ x ∈ c, 0 ≤ x ∧ x ≤ 1000) {x0 x1 x2 x3 x4 x5 x8 x9 xa xb xc xd xf : Option Sl} {S : Store} :
    eCall sumD [eComp it__law_sums_8 (bTp [bNm 7, bNm 16]) (eC (.bl true)) ce__law_sums_9 [7, 16]] ⟨[x0, x1, x2, x3, x4, x5, some (.val (vD v)), none, x8, x9, xa, xb, xc, xd, some (.val (vD c)), xf, none], S⟩
      = .ok (.int (dot v c)) ⟨[x0, x1, x2, x3, x4, x5, some (.val (vD v)), none, x8, x9, xa, xb, xc, xd, some (.val (vD c)), xf, none], S⟩ := by
  have it : it__law_sums_8 ⟨[x0, x1, x2, x3, x4, x5, some (.val (vD v)), none, x8, x9, xa, xb, xc, xd, some (.val (vD c)), xf, none], S⟩ = .ok ((v.zip c).map fun p => D.tup [.int p.1, .int p.2]) ⟨[x0, x1, x2, x3, x4, x5, some (.val (vD v)), none, x8, x9, xa, xb, xc, xd, some (.val (vD c)), xf, none], S⟩ := by
    unfold it__law_sums_8
    rw [iZ_ap, v_ (d := vD v) rfl, kI1_ok, v_ (d := vD c) rfl, kI2_ok, ← zip_tups]
    rfl
  have hl : ((v.zip c).map fun p => D.tup [.int p.1, .int p.2]).length ≤ 1000000 := by
    rw [List.length_map, List.length_zip]
    omega
  have e := eComp_map (b := bTp [bNm 7, bNm 16]) (e := ce__law_sums_9) (vs := [7, 16]) (g := prodD) it hl (fun d hd => by
    obtain ⟨p, mp, rfl⟩ := List.mem_map.mp hd
    have hp := hs p.2 (List.of_mem_zip (show (p.1, p.2) ∈ v.zip c from mp)).2
    refine ⟨⟨[x0, x1, x2, x3, x4, x5, some (.val (vD v)), some (.val (.int p.1)), x8, x9, xa, xb, xc, xd, some (.val (vD c)), xf, some (.val (.int p.2))], S⟩, rfl, _, bf_ (mm := false) (v_ rfl) (v_ rfl) (z := .int (p.1 * p.2)) ?_, rfl⟩
    show mulF (.int p.1) (.int p.2) = _
    rw [mulF_i, if_pos (mul_small hp.1 hp.2)])
  have es : ((v.zip c).map fun p => D.tup [.int p.1, .int p.2]).map prodD = (List.zipWith (· * ·) v c).map D.int := by
    rw [List.map_map, List.zip_eq_zipWith, List.map_zipWith, List.map_zipWith]
    rfl
  rw [es] at e
  refine ca1_ (e.trans rfl) ?_
  show (asInts _).map _ = _
  rw [asInts_map]
  rfl
theorem row_step {v c : List Int} {lv s : Int} {n : Nat} {W : Store} {row : List Int} (hlv : lv ≠ 0) (hv : v.length ≤ 1000) (hs : ∀ x ∈ c, 0 ≤ x ∧ x ≤ 1000) (hn : W.length = n) (hr : row.length < 1000000) {x0 x1 x3 x4 x5 x8 x9 xa xc xf : Option Sl} :
    g__law_sums_11 ⟨[x0, x1, some (.val (.int lv)), x3, x4, x5, some (.val (vD v)), none, x8, x9, xa, some (.val (.int s)), xc, some (.val (.ce n)), some (.val (vD c)), xf, none], W ++ [some (.lst (row.map D.int))]⟩
      = .nx ⟨[x0, x1, some (.val (.int lv)), x3, x4, x5, some (.val (vD v)), none, x8, x9, xa, some (.val (.int s)), xc, some (.val (.ce n)), some (.val (vD c)), some (.val (.int (dot v c + s))), none], W ++ [some (.lst ((row ++ [(dot v c + s).fmod lv]).map D.int))]⟩ := by
  unfold g__law_sums_11
  have e1 := bf_ (mm := false) (op := addF) (dcomp hv hs (x0 := x0) (x1 := x1) (x2 := some (.val (.int lv))) (x3 := x3) (x4 := x4) (x5 := x5) (x8 := x8) (x9 := x9) (xa := xa) (xb := some (.val (.int s))) (xc := xc) (xd := some (.val (.ce n))) (xf := xf) (S := W ++ [some (.lst (row.map D.int))])) (v_ (i := 11) rfl) (z := .int (dot v c + s)) rfl
  refine sq_ (set_ e1 rfl) ?_
  have e2 := mu1_ (F := appF) (f := eVar 13) (g := eB modD (eCall intD [(eVar 15)]) (eVar 2)) (sl := [x0, x1, some (.val (.int lv)), x3, x4, x5, some (.val (vD v)), none, x8, x9, xa, some (.val (.int s)), xc, some (.val (.ce n)), some (.val (vD c)), some (.val (.int (dot v c + s))), none]) (S := W ++ [some (.lst (row.map D.int))])
    (v_ rfl) (la_ (last_get hn)) (b_ (ca1_ (v_ rfl) intD_i) (v_ rfl) (z := .int ((dot v c + s).fmod lv)) (by rw [modD_i, if_pos hlv])) (la_ (last_get hn)) (app_ok (by rw [List.length_map]; omega))
  rw [last_set hn] at e2
  rw [List.map_append]
  exact ex_ e2
theorem row_loop {v : List Int} {lv s : Int} {n : Nat} {W : Store} (hlv : lv ≠ 0) (hv : v.length ≤ 1000) (hn : W.length = n) {x0 x1 x3 x4 x5 x8 x9 xa xc : Option Sl} : ∀ (cs : List (List Int)) (row : List Int) (xe xf : Option Sl), (∀ c ∈ cs, ∀ x ∈ c, 0 ≤ x ∧ x ≤ 1000) → row.length + cs.length < 1000000 → ∃ (ye yf : Option Sl),
    loopS (bNm 14) g__law_sums_11 (cs.map vD) ⟨[x0, x1, some (.val (.int lv)), x3, x4, x5, some (.val (vD v)), none, x8, x9, xa, some (.val (.int s)), xc, some (.val (.ce n)), xe, xf, none], W ++ [some (.lst (row.map D.int))]⟩
      = .nx ⟨[x0, x1, some (.val (.int lv)), x3, x4, x5, some (.val (vD v)), none, x8, x9, xa, some (.val (.int s)), xc, some (.val (.ce n)), ye, yf, none], W ++ [some (.lst ((row ++ cs.map fun c => (dot v c + s).fmod lv).map D.int))]⟩
  | [], row, xe, xf, _, _ => ⟨xe, xf, by simp⟩
  | c :: cs, row, xe, xf, hs, hr => by
    rw [List.length_cons] at hr
    have e := row_step (v := v) (c := c) (lv := lv) (s := s) (n := n) (W := W) (row := row) hlv hv (hs c List.mem_cons_self) hn (by omega) (x0 := x0) (x1 := x1) (x3 := x3) (x4 := x4) (x5 := x5) (x8 := x8) (x9 := x9) (xa := xa) (xc := xc) (xf := xf)
    obtain ⟨ye, yf, h⟩ := row_loop (v := v) hlv hv hn (x0 := x0) (x1 := x1) (x3 := x3) (x4 := x4) (x5 := x5) (x8 := x8) (x9 := x9) (xa := xa) (xc := xc) cs (row ++ [(dot v c + s).fmod lv]) (some (.val (vD c))) (some (.val (.int (dot v c + s)))) (fun d m => hs d (List.mem_cons_of_mem _ m)) (by rw [List.length_append, List.length_singleton]; omega)
    refine ⟨ye, yf, ?_⟩
    rw [List.map_cons, List.map_cons, show row ++ ((dot v c + s).fmod lv :: cs.map fun c => (dot v c + s).fmod lv) = (row ++ [(dot v c + s).fmod lv]) ++ cs.map fun c => (dot v c + s).fmod lv by simp]
    exact lp_ rfl e h
def rowT (lv s : Int) (cols : List (List Int)) (v : List Int) : List Int := cols.map fun c => (dot v c + s).fmod lv
theorem it10 {cols : List (List Int)} {x0 x1 x2 x3 x4 x5 x6 x7 x8 xa xb xc xd xe xf xg : Option Sl} {S : Store} :
    it__law_sums_10 ⟨[x0, x1, x2, x3, x4, x5, x6, x7, x8, some (.val (.lst (cols.map vD))), xa, xb, xc, xd, xe, xf, xg], S⟩ = .ok (cols.map vD) ⟨[x0, x1, x2, x3, x4, x5, x6, x7, x8, some (.val (.lst (cols.map vD))), xa, xb, xc, xd, xe, xf, xg], S⟩ := by
  unfold it__law_sums_10
  exact iv_ (v_ rfl) rfl
/-- one row; the columns are data by now, or a cell that is given up here -/
theorem one_row {v : List Int} {lv s : Int} {q : Nat} {W W1 : Store} {cols acc : List (List Int)} {x9 : Option Sl} (hlv : lv ≠ 0) (hv : v.length ≤ 1000) (hs : ∀ c ∈ cols, ∀ x ∈ c, 0 ≤ x ∧ x ≤ 1000) (hc : cols.length ≤ 1000) (hq : q < W.length) (hw1 : W1.length = W.length)
    {x0 x1 x3 x4 x5 x8 xa xd xe xf : Option Sl}
    (hf : sFr 9 ⟨[x0, x1, some (.val (.int lv)), x3, x4, x5, some (.val (vD v)), none, x8, x9, xa, some (.val (.int s)), some (.val (.ce q)), some (.val (.ce W.length)), xe, xf, none], W ++ [some (.lst [])]⟩
      = .nx ⟨[x0, x1, some (.val (.int lv)), x3, x4, x5, some (.val (vD v)), none, x8, some (.val (.lst (cols.map vD))), xa, some (.val (.int s)), some (.val (.ce q)), some (.val (.ce W.length)), xe, xf, none], W1 ++ [some (.lst [])]⟩)
    (hg : W1[q]? = some (some (.lst (acc.map (rowD false))))) (ha : acc.length < 1000000) : ∃ (yd ye yf : Option Sl),
    g__law_sums_13 ⟨[x0, x1, some (.val (.int lv)), x3, x4, x5, some (.val (vD v)), none, x8, x9, xa, some (.val (.int s)), some (.val (.ce q)), xd, xe, xf, none], W⟩
      = .nx ⟨[x0, x1, some (.val (.int lv)), x3, x4, x5, some (.val (vD v)), none, x8, some (.val (.lst (cols.map vD))), xa, some (.val (.int s)), some (.val (.ce q)), yd, ye, yf, none], W1.set q (some (.lst ((acc ++ [rowT lv s cols v]).map (rowD false)))) ++ [none]⟩ := by
  obtain ⟨ye, yf, h⟩ := row_loop (v := v) (lv := lv) (s := s) (W := W1) hlv hv hw1 (x0 := x0) (x1 := x1) (x3 := x3) (x4 := x4) (x5 := x5) (x8 := x8) (x9 := some (.val (.lst (cols.map vD)))) (xa := xa) (xc := some (.val (.ce q))) cols [] xe xf hs (by rw [List.length_nil]; omega)
  refine ⟨some (.val (rowD false (rowT lv s cols v))), ye, yf, ?_⟩
  unfold g__law_sums_13
  refine sq_ (set_ lm0_ rfl) (sq_ (sq_ hf (for_ it10 h)) ?_)
  refine sq_ (fr_c (sl := [x0, x1, some (.val (.int lv)), x3, x4, x5, some (.val (vD v)), none, x8, some (.val (.lst (cols.map vD))), xa, some (.val (.int s)), some (.val (.ce q)), some (.val (.ce W.length)), ye, yf, none]) rfl (last_get hw1) rfl) ?_
  rw [last_set hw1]
  have hg2 := app_get (c := none) hg
  have e := mu1_ (F := appF) (f := eVar 12) (g := eVar 13) (sl := [x0, x1, some (.val (.int lv)), x3, x4, x5, some (.val (vD v)), none, x8, some (.val (.lst (cols.map vD))), xa, some (.val (.int s)), some (.val (.ce q)), some (.val (rowD false (rowT lv s cols v))), ye, yf, none])
    (v_ rfl) (la_ hg2) (v_ rfl) (la_ hg2) (app_ok (by rw [List.length_map]; omega))
  rw [app_set (by omega)] at e
  have hh : (acc ++ [rowT lv s cols v]).map (rowD false) = acc.map (rowD false) ++ [rowD false (rowT lv s cols v)] := by
    rw [List.map_append]
    rfl
  rw [hh]
  exact ex_ e
end K53

/-! _law_sums, whole. -/
namespace K53
open PySem MB
theorem vec_loop {lv s : Int} {q k : Nat} {S : Store} {cols : List (List Int)} (hlv : lv ≠ 0) (hs : ∀ c ∈ cols, ∀ x ∈ c, 0 ≤ x ∧ x ≤ 1000) (hc : cols.length ≤ 1000) (hqS : S.length ≤ q) {x0 x1 x3 x4 x5 x8 xa : Option Sl} :
    ∀ (vs : List (List Int)) (W : Store) (acc : List (List Int)) (x6 xd xe xf : Option Sl), (∀ v ∈ vs, v.length ≤ 1000) → Bx S k W → W[q]? = some (some (.lst (acc.map (rowD false)))) → acc.length + vs.length < 1000000 → ∃ (W' : Store) (y6 yd ye yf : Option Sl),
    loopS (bNm 6) g__law_sums_13 (vs.map vD) ⟨[x0, x1, some (.val (.int lv)), x3, x4, x5, x6, none, x8, some (.val (.lst (cols.map vD))), xa, some (.val (.int s)), some (.val (.ce q)), xd, xe, xf, none], W⟩
      = .nx ⟨[x0, x1, some (.val (.int lv)), x3, x4, x5, y6, none, x8, some (.val (.lst (cols.map vD))), xa, some (.val (.int s)), some (.val (.ce q)), yd, ye, yf, none], W'⟩
      ∧ Bx S k W' ∧ W'[q]? = some (some (.lst ((acc ++ vs.map (rowT lv s cols)).map (rowD false))))
  | [], W, acc, x6, xd, xe, xf, _, hb, hg, _ => ⟨W, x6, xd, xe, xf, rfl, hb, by simpa using hg⟩
  | v :: vs, W, acc, x6, xd, xe, xf, hv, hb, hg, ha => by
    rw [List.length_cons] at ha
    have hq : q < W.length := (List.getElem?_eq_some_iff.mp hg).1
    have hf : sFr 9 ⟨[x0, x1, some (.val (.int lv)), x3, x4, x5, some (.val (vD v)), none, x8, some (.val (.lst (cols.map vD))), xa, some (.val (.int s)), some (.val (.ce q)), some (.val (.ce W.length)), xe, xf, none], W ++ [some (.lst [])]⟩
      = .nx ⟨[x0, x1, some (.val (.int lv)), x3, x4, x5, some (.val (vD v)), none, x8, some (.val (.lst (cols.map vD))), xa, some (.val (.int s)), some (.val (.ce q)), some (.val (.ce W.length)), xe, xf, none], W ++ [some (.lst [])]⟩ := fr_l rfl
    obtain ⟨yd, ye, yf, e⟩ := one_row (v := v) hlv (hv v List.mem_cons_self) hs hc hq rfl (xd := xd) hf hg (by omega)
    have hb2 := (hb.put (some (.lst ((acc ++ [rowT lv s cols v]).map (rowD false)))) hqS).push none
    have hg2 : (W.set q (some (.lst ((acc ++ [rowT lv s cols v]).map (rowD false)))) ++ [none])[q]? = some (some (.lst ((acc ++ [rowT lv s cols v]).map (rowD false)))) := app_get (by rw [List.getElem?_set_self hq])
    obtain ⟨W', y6, zd, ze, zf, e2, b2, g2⟩ := vec_loop hlv hs hc hqS (x0 := x0) (x1 := x1) (x3 := x3) (x4 := x4) (x5 := x5) (x8 := x8) (xa := xa) vs _ (acc ++ [rowT lv s cols v]) (some (.val (vD v))) yd ye yf (fun u m => hv u (List.mem_cons_of_mem _ m)) hb2 hg2 (by rw [List.length_append, List.length_singleton]; omega)
    refine ⟨W', y6, zd, ze, zf, lp_ rfl e e2, b2, ?_⟩
    rw [g2]
    simp
/-- the first row gives the columns up -/
theorem vec_first {lv s : Int} {q c k : Nat} {S W : Store} {cols : List (List Int)} {v : List Int} {vs : List (List Int)} (hlv : lv ≠ 0) (hs : ∀ c ∈ cols, ∀ x ∈ c, 0 ≤ x ∧ x ≤ 1000) (hc : cols.length ≤ 1000) (hqS : S.length ≤ q) (hcS : S.length ≤ c) (hqc : q ≠ c) {x0 x1 x3 x4 x5 x8 xa x6 xd xe xf : Option Sl}
    (hv : ∀ u ∈ v :: vs, u.length ≤ 1000) (hb : Bx S k W) (hg : W[q]? = some (some (.lst []))) (hcc : W[c]? = some (some (.lst (cols.map vD)))) (hl : vs.length < 100000) : ∃ (W' : Store) (y6 yd ye yf : Option Sl),
    loopS (bNm 6) g__law_sums_13 ((v :: vs).map vD) ⟨[x0, x1, some (.val (.int lv)), x3, x4, x5, x6, none, x8, some (.val (.ce c)), xa, some (.val (.int s)), some (.val (.ce q)), xd, xe, xf, none], W⟩
      = .nx ⟨[x0, x1, some (.val (.int lv)), x3, x4, x5, y6, none, x8, some (.val (.lst (cols.map vD))), xa, some (.val (.int s)), some (.val (.ce q)), yd, ye, yf, none], W'⟩
      ∧ Bx S k W' ∧ W'[q]? = some (some (.lst (((v :: vs).map (rowT lv s cols)).map (rowD false)))) := by
  have hq : q < W.length := (List.getElem?_eq_some_iff.mp hg).1
  have hcl : c < W.length := (List.getElem?_eq_some_iff.mp hcc).1
  have hf := fr_c (i := 9) (sl := [x0, x1, some (.val (.int lv)), x3, x4, x5, some (.val (vD v)), none, x8, some (.val (.ce c)), xa, some (.val (.int s)), some (.val (.ce q)), some (.val (.ce W.length)), xe, xf, none]) (S := W ++ [some (.lst [])]) rfl (app_get hcc) rfl
  rw [app_set hcl] at hf
  have hgW : (W.set c none)[q]? = some (some (.lst ((([] : List (List Int)).map (rowD false))))) := by
    rw [List.getElem?_set_ne (Ne.symm hqc)]
    exact hg
  obtain ⟨yd, ye, yf, e⟩ := one_row (v := v) (acc := []) hlv (hv v List.mem_cons_self) hs hc hq (by rw [List.length_set]) (xd := xd) hf hgW (by simp)
  have hb2 := ((hb.put (none) hcS).put (some (.lst (([] ++ [rowT lv s cols v]).map (rowD false)))) hqS).push none
  have hg2 : ((W.set c none).set q (some (.lst (([] ++ [rowT lv s cols v]).map (rowD false)))) ++ [none])[q]? = some (some (.lst (([] ++ [rowT lv s cols v]).map (rowD false)))) := app_get (by rw [List.getElem?_set_self (by rw [List.length_set]; exact hq)])
  obtain ⟨W', y6, zd, ze, zf, e2, b2, g2⟩ := vec_loop hlv hs hc hqS (x0 := x0) (x1 := x1) (x3 := x3) (x4 := x4) (x5 := x5) (x8 := x8) (xa := xa) vs _ ([] ++ [rowT lv s cols v]) (some (.val (vD v))) yd ye yf (fun u m => hv u (List.mem_cons_of_mem _ m)) hb2 hg2 (by simp; omega)
  refine ⟨W', y6, zd, ze, zf, lp_ rfl e e2, b2, ?_⟩
  rw [g2]
  simp
def sh1 : List (Nat × Nat) := [(2, 2), (2, 3), (3, 2), (3, 2), (2, 2), (2, 3), (3, 3), (5, 2)]
def sh2 : List (Nat × Nat) := [(2, 6), (3, 4), (5, 3), (11, 2), (13, 2), (7, 2), (2, 4), (2, 5)]
def pd (p : Nat × Nat) : D := .tup [.int (p.1 : Nat), .int (p.2 : Nat)]
def okB (p : Nat × Nat) : Bool := decide (2 ≤ p.1 ∧ p.1 ≤ 13 ∧ p.2 ≤ 6) && (chkS p.1 p.2 && (decide (1 ≤ (dirs p.1 p.2).length ∧ (vecs p.1 p.2).length ≤ 200) && decide (dirs p.1 p.2).Nodup))
theorem ok_all : ((sh1.eraseDups ++ sh2).all okB) = true := by decide +kernel
theorem ok_sh {p : Nat × Nat} (h : p ∈ sh1 ++ sh2) : okB p = true := by
  have := List.all_eq_true.mp ok_all p
  refine this ?_
  rcases List.mem_append.mp h with h | h
  · refine List.mem_append_left _ ?_
    have e : ∀ q ∈ sh1, q ∈ sh1.eraseDups := by decide
    exact e p h
  · exact List.mem_append_right _ h
theorem vecs_in {lv : Nat} : ∀ d, ∀ v ∈ vecs lv d, ∀ x ∈ v, 0 ≤ x ∧ x < (lv : Int)
  | 0, v, m, x, mx => by
    have : v = [] := by simpa [vecs] using m
    rw [this] at mx
    cases mx
  | d + 1, v, m, x, mx => by
    rw [vecs, List.mem_flatMap] at m
    obtain ⟨u, mu, m⟩ := m
    obtain ⟨y, my, rfl⟩ := List.mem_map.mp m
    have := List.mem_range.mp my
    rcases List.mem_append.mp mx with mx | mx
    · exact vecs_in d u mu x mx
    · have : x = (y : Int) := by simpa using mx
      omega
theorem at_list {l : List D} {z : Int} {S : Store} (h0 : 0 ≤ z) (h1 : z < l.length) : ∃ d, d ∈ l ∧ ixS S (.lst l) (.int z) = some d := by
  obtain ⟨i, rfl⟩ := Int.eq_ofNat_of_zero_le h0
  have hi : i < l.length := by omega
  refine ⟨l[i], List.getElem_mem hi, ?_⟩
  show L2.atI l ((i : Nat) : Int) = _
  rw [atI_nat', List.getElem?_eq_getElem hi]
end K53

/-! _law_sums, whole. -/
namespace K53
open PySem MB
abbrev sE (k : Nat) (x1 x2 x3 x4 x5 x6 x7 x8 x9 xa xb xc xd xe xf xg : Option Sl) : List (Option Sl) := [some (.val (.ce k)), x1, x2, x3, x4, x5, x6, x7, x8, x9, xa, xb, xc, xd, xe, xf, xg]
abbrev vI (z : Int) : Option Sl := some (.val (.int z))
abbrev vC (n : Nat) : Option Sl := some (.val (.ce n))
abbrev vL (l : List D) : Option Sl := some (.val (.lst l))
theorem draw_ev {sl : List (Option Sl)} {B : Store} {k : Nat} {many : Int} (hb : BoxAt B k) (h0 : 0 < many) (hd : many < 1073741824) (hs : sl[0]? = some (some (.val (.ce k)))) : ∃ z B', eFn m__law_draw [(eVar 0), (eC (.int many))] ⟨sl, B⟩ = .ok (.int z) ⟨sl, B'⟩ ∧ Dr k B B' ∧ 0 ≤ z ∧ z < many := by
  obtain ⟨z, B', e, d, z0, z1⟩ := draw_dr hb h0 hd
  exact ⟨z, B', fn2_ (v_ hs) c_ e, d, z0, z1⟩
theorem bind_pd {p : Nat × Nat} {k : Nat} {x1 x2 x3 x4 x5 x6 x7 x8 x9 xa xb xc xd xe xf xg : Option Sl} {S : Store} : bTp [bNm 2, bNm 3] (pd p) ⟨sE k x1 x2 x3 x4 x5 x6 x7 x8 x9 xa xb xc xd xe xf xg, S⟩ = some ⟨sE k x1 (vI (p.1 : Nat)) (vI (p.2 : Nat)) x4 x5 x6 x7 x8 x9 xa xb xc xd xe xf xg, S⟩ := rfl
theorem list1 {sl : List (Option Sl)} {S : Store} : eLst [(eTup [(eC (.int 2)), (eC (.int 2))]), (eTup [(eC (.int 2)), (eC (.int 3))]), (eTup [(eC (.int 3)), (eC (.int 2))]), (eTup [(eC (.int 3)), (eC (.int 2))]), (eTup [(eC (.int 2)), (eC (.int 2))]), (eTup [(eC (.int 2)), (eC (.int 3))]), (eTup [(eC (.int 3)), (eC (.int 3))]), (eTup [(eC (.int 5)), (eC (.int 2))])] ⟨sl, S⟩ = .ok (.lst (sh1.map pd)) ⟨sl, S⟩ := by
  simp [sh1, pd]
theorem list2 {sl : List (Option Sl)} {S : Store} : eLst [(eTup [(eC (.int 2)), (eC (.int 6))]), (eTup [(eC (.int 3)), (eC (.int 4))]), (eTup [(eC (.int 5)), (eC (.int 3))]), (eTup [(eC (.int 11)), (eC (.int 2))]), (eTup [(eC (.int 13)), (eC (.int 2))]), (eTup [(eC (.int 7)), (eC (.int 2))]), (eTup [(eC (.int 2)), (eC (.int 4))]), (eTup [(eC (.int 2)), (eC (.int 5))])] ⟨sl, S⟩ = .ok (.lst (sh2.map pd)) ⟨sl, S⟩ := by
  simp [sh2, pd]
/-- the shape that is drawn -/
theorem shape_ok {k : Nat} {S : Store} (hb : BoxAt S k) {g : SX} {x1 x2 x3 x4 x5 x6 x7 x8 x9 xa xb xc xd xe xf xg : Option Sl} : ∃ (p : Nat × Nat) (B : Store), p ∈ sh1 ++ sh2 ∧ Dr k S B ∧
    (sSeq (sSet 1 (eLst [(eTup [(eC (.int 2)), (eC (.int 2))]), (eTup [(eC (.int 2)), (eC (.int 3))]), (eTup [(eC (.int 3)), (eC (.int 2))]), (eTup [(eC (.int 3)), (eC (.int 2))]), (eTup [(eC (.int 2)), (eC (.int 2))]), (eTup [(eC (.int 2)), (eC (.int 3))]), (eTup [(eC (.int 3)), (eC (.int 3))]), (eTup [(eC (.int 5)), (eC (.int 2))])]))
  (sSeq (sUn (bTp [(bNm 2), (bNm 3)]) (eIxS (eVar 1) (eFn m__law_draw [(eVar 0), (eC (.int 8))])))
  (sSeq (sIf (eB eqD (eFn m__law_draw [(eVar 0), (eC (.int 8))]) (eC (.int 7)))
  (sUn (bTp [(bNm 2), (bNm 3)]) (eIxS (eLst [(eTup [(eC (.int 2)), (eC (.int 6))]), (eTup [(eC (.int 3)), (eC (.int 4))]), (eTup [(eC (.int 5)), (eC (.int 3))]), (eTup [(eC (.int 11)), (eC (.int 2))]), (eTup [(eC (.int 13)), (eC (.int 2))]), (eTup [(eC (.int 7)), (eC (.int 2))]), (eTup [(eC (.int 2)), (eC (.int 4))]), (eTup [(eC (.int 2)), (eC (.int 5))])]) (eFn m__law_draw [(eVar 0), (eC (.int 8))]))) sNil) g))) ⟨sE k x1 x2 x3 x4 x5 x6 x7 x8 x9 xa xb xc xd xe xf xg, S⟩
      = g ⟨sE k (vL (sh1.map pd)) (vI (p.1 : Nat)) (vI (p.2 : Nat)) x4 x5 x6 x7 x8 x9 xa xb xc xd xe xf xg, B⟩ := by
  obtain ⟨z1, B1, e1, d1, a1, b1⟩ := draw_ev (many := 8) (sl := sE k (vL (sh1.map pd)) x2 x3 x4 x5 x6 x7 x8 x9 xa xb xc xd xe xf xg) hb (by decide) (by decide) rfl
  obtain ⟨dd, md, ed⟩ := at_list (l := sh1.map pd) (z := z1) (S := B1) a1 b1
  obtain ⟨p, mp, rfl⟩ := List.mem_map.mp md
  have s1 := set_ (i := 1) (sl := sE k x1 x2 x3 x4 x5 x6 x7 x8 x9 xa xb xc xd xe xf xg) (S := S) list1 rfl
  have s2 := un_ (bb := bTp [bNm 2, bNm 3]) (ix_ (f := eVar 1) (v_ rfl) e1 ed) bind_pd
  obtain ⟨z2, B2, e2, d2, a2, b2⟩ := draw_ev (many := 8) (sl := sE k (vL (sh1.map pd)) (vI (p.1 : Nat)) (vI (p.2 : Nat)) x4 x5 x6 x7 x8 x9 xa xb xc xd xe xf xg) d1.box (by decide) (by decide) rfl
  have t := b_ (op := eqD) e2 (c_ (d := .int 7)) eqD_i
  by_cases h : z2 = 7
  · obtain ⟨z3, B3, e3, d3, a3, b3⟩ := draw_ev (many := 8) (sl := sE k (vL (sh1.map pd)) (vI (p.1 : Nat)) (vI (p.2 : Nat)) x4 x5 x6 x7 x8 x9 xa xb xc xd xe xf xg) d2.box (by decide) (by decide) rfl
    obtain ⟨dd, md, ed⟩ := at_list (l := sh2.map pd) (z := z3) (S := B3) a3 b3
    obtain ⟨p2, mp2, rfl⟩ := List.mem_map.mp md
    have s4 := un_ (bb := bTp [bNm 2, bNm 3]) (ix_ list2 e3 ed) bind_pd
    refine ⟨p2, B3, List.mem_append_right _ mp2, (d1.trans d2).trans d3, ?_⟩
    refine sq_ s1 (sq_ s2 (sq_ ((if_t t (by simp [h])).trans s4) rfl))
  · refine ⟨p, B2, List.mem_append_left _ mp, d1.trans d2, ?_⟩
    refine sq_ s1 (sq_ s2 (sq_ ((if_f t (by simp [h])).trans nil_) rfl))
theorem good_rows {p : Nat × Nat} (hp : p ∈ sh1 ++ sh2) {cols : List (List Int)} {s : Int} (hm : ∀ c ∈ cols, c ∈ dirs p.1 p.2) (hn : cols.Nodup) (h1 : 1 ≤ cols.length) (h2 : cols.length ≤ 30) : Good p.1 ((vecs p.1 p.2).map (rowT p.1 s cols)) cols.length := by
  have hok := ok_sh hp
  unfold okB at hok
  simp only [Bool.and_eq_true, decide_eq_true_eq] at hok
  obtain ⟨⟨a1, a2, a3⟩, a4, ⟨a5, a6⟩, a7⟩ := hok
  have v1 : 1 ≤ (vecs p.1 p.2).length := by
    rw [vecs_len]
    exact Nat.pow_pos (by omega)
  have hl : 0 < (p.1 : Int) := by omega
  refine ⟨⟨by omega, by omega, by rw [List.length_map]; omega, fun r m => ?_, fun r m x mx => ?_⟩, fun i j hi hj ne => ?_⟩
  · obtain ⟨v, _, rfl⟩ := List.mem_map.mp m
    exact List.length_map _
  · obtain ⟨v, _, rfl⟩ := List.mem_map.mp m
    obtain ⟨c, _, rfl⟩ := List.mem_map.mp mx
    exact ⟨Int.fmod_nonneg_of_pos _ hl, Int.fmod_lt_of_pos _ hl⟩
  · exact uni_rows a4 hm hn hi hj ne
end K53

/-! _law_sums, whole: the chain. -/
namespace K53
open PySem MB
theorem draw_evT {sl : List (Option Sl)} {B T : Store} {k i : Nat} {f : EX} {many : Int} (hb : BoxAt B k) (h0 : 0 < many) (hd : many < 1073741824) (hs : sl[0]? = some (some (.val (.ce k)))) (hf : ∀ S, f ⟨sl, S⟩ = .ok (.int many) ⟨sl, S⟩) : ∃ z B', eFn m__law_draw [(eVar 0), f] ⟨sl, B ++ T⟩ = .ok (.int z) ⟨sl, B' ++ T⟩ ∧ Dr k B B' ∧ 0 ≤ z ∧ z < many := by
  obtain ⟨z, B', e, d, z0, z1⟩ := draw_app (T := T) hb h0 hd
  exact ⟨z, B', fn2_ (v_ hs) (hf _) e, d, z0, z1⟩
theorem min_ok {i j : Int} : minD [.int i, .int j] = some (.int (if j < i then j else i)) := rfl
theorem app1 {α : Type} {B : List α} {a b : α} : (B ++ [a]) ++ [b] = B ++ [a, b] := by simp
theorem sums_tail {p : Nat × Nat} (hp : p ∈ sh1 ++ sh2) {k : Nat} {S B : Store} (hB : Bx S k B) {x1 : Option Sl} : ∃ (rows : List (List Int)) (w : Nat) (W : Store) (sl : List (Option Sl)), Good p.1 rows w ∧ Bx S k W ∧
  (sSeq (sSet 4 (eFn m__law_vectors [(eVar 2), (eVar 3)]))
  (sSeq (sSet 5 (eCompM it__law_sums_3 (bNm 6) ct__law_sums_4 ce__law_sums_5 [6]))
  (sSeq (sSet 8 (eCall minD [(eC (.int 30)), (eLenS (eVar 5))]))
  (sSeq (sIf (eB gtD (eFn m__law_draw [(eVar 0), (eC (.int 3))]) (eC (.int 0)))
  (sSet 8 (eBF false addF (eC (.int 1)) (eFn m__law_draw [(eVar 0), (eVar 8)]))) sNil)
  (sSeq (sSet 9 (eLstM []))
  (sSeq (sFor it__law_sums_6 (bNm 10)
  g__law_sums_7)
  (sSeq (sSet 11 (eFn m__law_draw [(eVar 0), (eVar 2)]))
  (sSeq (sSet 12 (eLstM []))
  (sSeq (sFor it__law_sums_12 (bNm 6)
  g__law_sums_13)
  (sSeq (sFr 12) (sRet (eTup [(eVar 2), (eVar 12)]))))))))))))
    ⟨sE k x1 (vI (p.1 : Nat)) (vI (p.2 : Nat)) none none none none none none none none none none none none none, B⟩ = .rt (.tup [.int (p.1 : Nat), tabD false rows]) ⟨sl, W⟩ := by
  have hok := ok_sh hp
  unfold okB at hok
  simp only [Bool.and_eq_true, decide_eq_true_eq] at hok
  obtain ⟨⟨a1, a2, a3⟩, a4, ⟨a5, a6⟩, a7⟩ := hok
  obtain ⟨lv, d⟩ := p
  simp only at a1 a2 a3 a4 a5 a6 a7 ⊢
  have vlen : ∀ v ∈ vecs lv d, v.length ≤ 1000 := fun v m => by rw [vecs_each lv d v m]; omega
  -- vectors, directions
  have s1 := set_ (i := 4) (sl := sE k x1 (vI (lv : Nat)) (vI (d : Nat)) none none none none none none none none none none none none none) (S := B) (fn2_ (v_ (i := 2) rfl) (v_ (i := 3) rfl) (vectors_ok (by omega) a2 a3)) rfl
  have s2 := set_ (i := 5) (icomp (vs := vecs lv d) (by omega) vlen (x0 := some (.val (.ce k))) (x1 := x1) (x2 := vI (lv : Nat)) (x3 := vI (d : Nat)) (x5 := none) (x8 := none) (x9 := none) (xa := none) (xb := none) (xc := none) (xd := none) (xe := none) (xf := none) (xg := none) (S := B)) rfl
  have hdl : ((vecs lv d).filter isDir).length = (dirs lv d).length := rfl
  have hd200 : (dirs lv d).length ≤ 200 := Nat.le_trans (List.length_filter_le _ _) a6
  -- the width
  have s3 := set_ (i := 8) (sl := sE k x1 (vI (lv : Nat)) (vI (d : Nat)) (vL ((vecs lv d).map vD)) (vC B.length) none none none none none none none none none none none) (S := B ++ [some (.lst (((vecs lv d).filter isDir).map vD))]) (ca2_ (c_ (d := .int 30)) (ln_ (v_ (i := 5) rfl) (len_cell (last_get rfl))) min_ok) rfl
  rw [List.length_map, hdl] at s3
  generalize hm : (if (((dirs lv d).length : Nat) : Int) < 30 then (((dirs lv d).length : Nat) : Int) else 30) = m at s3
  have m1 : 1 ≤ m := by split at hm <;> omega
  have m2 : m ≤ 30 ∧ m ≤ ((dirs lv d).length : Int) := by split at hm <;> omega
  obtain ⟨z3, B1, e3, d1, _, _⟩ := draw_evT (i := 0) (T := [some (.lst (((vecs lv d).filter isDir).map vD))]) (f := eC (.int 3)) (many := 3) (sl := sE k x1 (vI (lv : Nat)) (vI (d : Nat)) (vL ((vecs lv d).map vD)) (vC B.length) none none (vI m) none none none none none none none none) hB.box (by decide) (by decide) rfl (fun _ => rfl)
  have wide : ∃ (n : Nat) (B2 : Store), 1 ≤ n ∧ n ≤ 30 ∧ n ≤ (dirs lv d).length ∧ Dr k B B2 ∧ sIf (eB gtD (eFn m__law_draw [(eVar 0), (eC (.int 3))]) (eC (.int 0))) (sSet 8 (eBF false addF (eC (.int 1)) (eFn m__law_draw [(eVar 0), (eVar 8)]))) sNil
      ⟨sE k x1 (vI (lv : Nat)) (vI (d : Nat)) (vL ((vecs lv d).map vD)) (vC B.length) none none (vI m) none none none none none none none none, B ++ [some (.lst (((vecs lv d).filter isDir).map vD))]⟩
      = .nx ⟨sE k x1 (vI (lv : Nat)) (vI (d : Nat)) (vL ((vecs lv d).map vD)) (vC B.length) none none (vI (n : Nat)) none none none none none none none none, B2 ++ [some (.lst (((vecs lv d).filter isDir).map vD))]⟩ := by
    have t := b_ (op := gtD) e3 (c_ (d := .int 0)) gtD_i
    by_cases h : 0 < z3
    · obtain ⟨z4, B2, e4, d2, z0, z1⟩ := draw_evT (i := 0) (T := [some (.lst (((vecs lv d).filter isDir).map vD))]) (f := eVar 8) (many := m) (sl := sE k x1 (vI (lv : Nat)) (vI (d : Nat)) (vL ((vecs lv d).map vD)) (vC B.length) none none (vI m) none none none none none none none none) d1.box (by omega) (by omega) rfl (fun _ => v_ rfl)
      obtain ⟨i, rfl⟩ := Int.eq_ofNat_of_zero_le z0
      refine ⟨1 + i, B2, by omega, by omega, by omega, d1.trans d2, ?_⟩
      have e5 := set_ (i := 8) (bf_ (mm := false) (op := addF) (c_ (d := .int 1)) e4 (z := .int ((1 + i : Nat) : Int)) (by rw [show ((1 + i : Nat) : Int) = 1 + (i : Int) by omega]; rfl)) rfl
      exact (if_t t (by simp [h])).trans e5
    · obtain ⟨n, rfl⟩ := Int.eq_ofNat_of_zero_le (show 0 ≤ m by omega)
      refine ⟨n, B1, by omega, by omega, by omega, d1, ?_⟩
      exact (if_f t (by simp [h])).trans nil_
  obtain ⟨n, B2, n1, n30, nd, dB2, s4⟩ := wide
  have hp2 : B2.length = B.length := dB2.len
  -- columns
  have s5 := set_ (i := 9) (sl := sE k x1 (vI (lv : Nat)) (vI (d : Nat)) (vL ((vecs lv d).map vD)) (vC B.length) none none (vI (n : Nat)) none none none none none none none none) (S := B2 ++ [some (.lst (((vecs lv d).filter isDir).map vD))]) lm0_ rfl
  rw [app1, List.length_append, List.length_singleton, hp2] at s5
  have it6 := ir1_ (k := n) (sl := sE k x1 (vI (lv : Nat)) (vI (d : Nat)) (vL ((vecs lv d).map vD)) (vC B.length) none none (vI (n : Nat)) (vC (B.length + 1)) none none none none none none none) (S := B2 ++ [some (.lst (((vecs lv d).filter isDir).map vD)), some (.lst [])]) (by omega) (v_ (i := 8) rfl)
  obtain ⟨B3, rest', cols, y10, e6, dB3, lc, pc⟩ := pop_loop (p := B.length) (x1 := x1) (x2 := vI (lv : Nat)) (x3 := vI (d : Nat)) (x4 := vL ((vecs lv d).map vD)) (x6 := none) (x7 := none) (x8 := vI (n : Nat)) (xb := none) (xc := none) (xd := none) (xe := none) (xf := none) (xg := none)
    ((List.range n).map fun j => D.int (j : Nat)) B2 (dirs lv d) [] none dB2.box hp2 (by rw [List.length_map, List.length_range]; omega) (by omega) (by rw [List.length_map, List.length_range, List.length_nil]; omega)
  rw [List.length_map, List.length_range, List.length_nil, Nat.zero_add] at lc
  rw [List.nil_append] at pc
  have s6 := for_ it6 e6
  have hp3 : B3.length = B.length := dB3.len.trans hp2
  have cm : ∀ c ∈ cols, c ∈ dirs lv d := fun c m => pc.mem_iff.mp (List.mem_append_left _ m)
  have cn : cols.Nodup := (List.nodup_append.mp (pc.nodup_iff.mpr a7)).1
  have cs : ∀ c ∈ cols, ∀ x ∈ c, 0 ≤ x ∧ x ≤ 1000 := fun c m x mx => by
    have := vecs_in d c (List.mem_filter.mp (cm c m)).1 x mx
    omega
  -- the shift, the rows
  obtain ⟨s, B4, e7, dB4, _, _⟩ := draw_evT (i := 0) (T := [some (.lst (rest'.map vD)), some (.lst (cols.map vD))]) (f := eVar 2) (many := (lv : Int)) (sl := sE k x1 (vI (lv : Nat)) (vI (d : Nat)) (vL ((vecs lv d).map vD)) (vC B.length) none none (vI (n : Nat)) (vC (B.length + 1)) y10 none none none none none none) dB3.box (by omega) (by omega) rfl (fun _ => v_ rfl)
  have hp4 : B4.length = B.length := dB4.len.trans hp3
  have s7 := set_ (i := 11) e7 rfl
  have s8 := set_ (i := 12) (sl := sE k x1 (vI (lv : Nat)) (vI (d : Nat)) (vL ((vecs lv d).map vD)) (vC B.length) none none (vI (n : Nat)) (vC (B.length + 1)) y10 (vI s) none none none none none) (S := B4 ++ [some (.lst (rest'.map vD)), some (.lst (cols.map vD))]) lm0_ rfl
  have hl8 : (B4 ++ [some (Cn.lst (rest'.map vD)), some (.lst (cols.map vD))]).length = B.length + 2 := by rw [List.length_append, hp4]; rfl
  rw [hl8] at s8
  have hbS : S.length ≤ B.length := hB.le
  have hB4 : Bx S k B4 := (hB.dr dB2).dr (dB3.trans dB4)
  have hBW : Bx S k ((B4 ++ [some (Cn.lst (rest'.map vD)), some (.lst (cols.map vD))]) ++ [some (.lst [])]) := by
    rw [← app1]
    exact ((hB4.push _).push _).push _
  have vne : ∃ v vs, vecs lv d = v :: vs := by
    cases e : vecs lv d with
    | nil =>
      have := vecs_len lv d
      rw [e] at this
      have h := Nat.pow_pos (n := d) (show 0 < lv by omega)
      simp at this
      omega
    | cons v vs => exact ⟨v, vs, rfl⟩
  obtain ⟨v, vs, ev⟩ := vne
  have it12 : it__law_sums_12 ⟨sE k x1 (vI (lv : Nat)) (vI (d : Nat)) (vL ((vecs lv d).map vD)) (vC B.length) none none (vI (n : Nat)) (vC (B.length + 1)) y10 (vI s) (vC (B.length + 2)) none none none none, (B4 ++ [some (Cn.lst (rest'.map vD)), some (.lst (cols.map vD))]) ++ [some (.lst [])]⟩
      = .ok ((vecs lv d).map vD) ⟨sE k x1 (vI (lv : Nat)) (vI (d : Nat)) (vL ((vecs lv d).map vD)) (vC B.length) none none (vI (n : Nat)) (vC (B.length + 1)) y10 (vI s) (vC (B.length + 2)) none none none none, (B4 ++ [some (Cn.lst (rest'.map vD)), some (.lst (cols.map vD))]) ++ [some (.lst [])]⟩ := by
    unfold it__law_sums_12
    exact iv_ (v_ (i := 4) rfl) rfl
  obtain ⟨W, y6, yd, ye, yf, e9, bW, gW⟩ := vec_first (v := v) (vs := vs) (lv := (lv : Int)) (s := s) (q := B.length + 2) (c := B.length + 1) (cols := cols) (by omega) cs (by omega) (by omega) (by omega) (by omega)
    (x0 := some (.val (.ce k))) (x1 := x1) (x3 := vI (d : Nat)) (x4 := vL ((vecs lv d).map vD)) (x5 := vC B.length) (x8 := vI (n : Nat)) (xa := y10) (x6 := none) (xd := none) (xe := none) (xf := none) (by rw [← ev]; exact vlen) hBW (last_get hl8) (app_get (g2b hp4)) (by
      have := congrArg List.length ev
      rw [List.length_cons] at this
      omega)
  rw [← ev] at e9 gW
  have s9 := for_ it12 e9
  have s10 := fr_c (i := 12) (sl := sE k x1 (vI (lv : Nat)) (vI (d : Nat)) (vL ((vecs lv d).map vD)) (vC B.length) y6 none (vI (n : Nat)) (vL (cols.map vD)) y10 (vI s) (vC (B.length + 2)) yd ye yf none) (S := W) rfl gW rfl
  have s11 := ret_ (t2_ (v_ (i := 2) (sl := sE k x1 (vI (lv : Nat)) (vI (d : Nat)) (vL ((vecs lv d).map vD)) (vC B.length) y6 none (vI (n : Nat)) (vL (cols.map vD)) y10 (vI s) (vL (((vecs lv d).map (rowT lv s cols)).map (rowD false))) yd ye yf none) (S := W.set (B.length + 2) none) rfl) (v_ (i := 12) rfl))
  exact ⟨(vecs lv d).map (rowT lv s cols), cols.length, _, _, good_rows hp cm cn (by omega) (by omega), bW.put none (by omega),
    sq_ s1 (sq_ s2 (sq_ s3 (sq_ s4 (sq_ s5 (sq_ s6 (sq_ s7 (sq_ s8 (sq_ s9 (sq_ s10 s11)))))))))⟩
theorem tab_cl {n : Nat} {t : Bool} {rows : List (List Int)} : clD n (tabD t rows) := by
  have hr : ∀ r : List Int, clD n (rowD t r) := fun r => by
    have : ∀ d ∈ r.map D.int, clD n d := fun d m => by
      obtain ⟨x, _, rfl⟩ := List.mem_map.mp m
      exact clD_int
    cases t
    · exact clD_lst.mpr (clDs_all.mpr this)
    · exact clD_tup.mpr (clDs_all.mpr this)
  have : ∀ d ∈ rows.map (rowD t), clD n d := fun d m => by
    obtain ⟨x, _, rfl⟩ := List.mem_map.mp m
    exact hr x
  cases t
  · exact clD_lst.mpr (clDs_all.mpr this)
  · exact clD_tup.mpr (clDs_all.mpr this)
theorem sums_ok {k : Nat} {S : Store} (hb : BoxAt S k) : ∃ (lv : Nat) (rows : List (List Int)) (w : Nat) (W : Store), m__law_sums [.ce k] S = .ok (.tup [.int (lv : Nat), tabD false rows]) W ∧ Dr k S W ∧ Good lv rows w := by
  obtain ⟨p, B, hp, dB, e1⟩ := shape_ok hb (g := _) (x1 := none) (x2 := none) (x3 := none) (x4 := none) (x5 := none) (x6 := none) (x7 := none) (x8 := none) (x9 := none) (xa := none) (xb := none) (xc := none) (xd := none) (xe := none) (xf := none) (xg := none)
  obtain ⟨rows, w, W, sl, g, bW, e2⟩ := sums_tail hp ((Bx.refl hb).dr dB) (x1 := vL (sh1.map pd))
  have h : runS b__law_sums 17 [.ce k] S = .ok (.tup [.int (p.1 : Nat), tabD false rows]) W := by
    show endR (b__law_sums ⟨sE k none none none none none none none none none none none none none none none none, S⟩) = _
    unfold b__law_sums
    rw [e1, e2]
    rfl
  obtain ⟨W', e3, d3⟩ := bW.fin h (clD_tup.mpr (clDs_all.mpr fun d m => by
    simp only [List.mem_cons, List.not_mem_nil, or_false] at m
    rcases m with rfl | rfl
    · exact clD_int
    · exact tab_cl))
  exact ⟨p.1, rows, w, W', e3, d3, g⟩
end K53

/-! _law_good: the parts. -/
namespace K53
open PySem MB
/-- a table held in a slot: as data, or in a cell above S -/
def Hold (S W : Store) (d : D) (rows : List (List Int)) : Prop := d = tabD false rows ∨ ∃ r, S.length ≤ r ∧ d = .ce r ∧ W[r]? = some (some (.lst (rows.map (rowD false))))
theorem Hold.see {S W : Store} {d : D} {rows : List (List Int)} (h : Hold S W d rows) : see1 W d = tabD false rows := by
  rcases h with rfl | ⟨r, _, rfl, e⟩
  · rfl
  · rw [see1_c, e]; rfl
theorem Hold.len {S W : Store} {d : D} {rows : List (List Int)} (h : Hold S W d rows) : lenS W d = some (.int (rows.length : Nat)) := by
  rcases h with rfl | ⟨r, _, rfl, e⟩
  · exact tab_len
  · rw [len_cell e, List.length_map]
theorem Hold.dr {S W W' : Store} {k : Nat} {d : D} {rows : List (List Int)} (h : Hold S W d rows) (hk : k < S.length) (b : Dr k W W') : Hold S W' d rows := by
  rcases h with rfl | ⟨r, hr, rfl, e⟩
  · exact .inl rfl
  · exact .inr ⟨r, hr, rfl, (b.out r (by omega)).trans e⟩
theorem Hold.fr {S W : Store} {d : D} {rows : List (List Int)} {k i : Nat} {sl : List (Option Sl)} (h : Hold S W d rows) (b : Bx S k W) (hs : sl[i]? = some (some (.val d))) : ∃ W', sFr i ⟨sl, W⟩ = .nx ⟨sl.set i (some (.val (tabD false rows))), W'⟩ ∧ Bx S k W' := by
  rcases h with rfl | ⟨r, hr, rfl, e⟩
  · refine ⟨W, ?_, b⟩
    have e1 : sl.set i (some (.val (tabD false rows))) = sl := by
      refine List.ext_getElem? fun j => ?_
      by_cases hj : i = j
      · subst hj
        rw [List.getElem?_set_self (List.getElem?_eq_some_iff.mp hs).1, hs]
      · rw [List.getElem?_set_ne hj]
    rw [e1]
    exact fr_l hs
  · exact ⟨_, fr_c hs e rfl, b.put none hr⟩
abbrev gE (k : Nat) (x1 x2 x3 x4 x5 x6 x7 x8 x9 : Option Sl) : List (Option Sl) := [some (.val (.ce k)), x1, x2, x3, x4, x5, x6, x7, x8, x9]
def row0 (lv a b : Nat) : List Int := [(a : Int), (b : Int), ((a : Int) + b).fmod lv]
def rowsA (lv a : Nat) : List (List Int) := (List.range lv).map (row0 lv a)
def rows0 (lv : Nat) : List (List Int) := (List.range lv).flatMap (rowsA lv)
theorem good0 : chkG 4 (rows0 4) 3 = true ∧ chkG 6 (rows0 6) 3 = true ∧ chkG 14 (rows0 14) 3 = true := by decide +kernel
theorem ce1_ok {lv a b : Int} {S : Store} {x0 x1 x3 x6 x7 x8 x9 : Option Sl} (h : lv ≠ 0) : ce__law_good_1 ⟨[x0, x1, vI lv, x3, vI a, vI b, x6, x7, x8, x9], S⟩ = .ok (.lst [.int a, .int b, .int ((a + b).fmod lv)]) ⟨[x0, x1, vI lv, x3, vI a, vI b, x6, x7, x8, x9], S⟩ := by
  unfold ce__law_good_1
  exact l3_ (v_ rfl) (v_ rfl) (b_ (ca1_ (bf_ (mm := false) (v_ rfl) (v_ rfl) rfl) intD_i) (v_ rfl) (by rw [modD_i, if_pos h]))
theorem g3_ok {lv a r : Nat} {W : Store} {acc : List (List Int)} {k : Nat} {x1 x5 x6 x7 x8 x9 : Option Sl} (h1 : 1 ≤ lv) (h2 : lv ≤ 1000) (hg : W[r]? = some (some (.lst (acc.map (rowD false))))) (ha : acc.length ≤ 1000000) :
    g__law_good_3 ⟨gE k x1 (vI (lv : Nat)) (vC r) (vI (a : Nat)) none x6 x7 x8 x9, W⟩ = .nx ⟨gE k x1 (vI (lv : Nat)) (vC W.length) (vI (a : Nat)) none x6 x7 x8 x9, W ++ [some (.lst ((acc ++ rowsA lv a).map (rowD false)))]⟩ := by
  have it : it__law_good_0 ⟨gE k x1 (vI (lv : Nat)) (vC r) (vI (a : Nat)) none x6 x7 x8 x9, W⟩ = .ok ((List.range lv).map fun j => D.int (j : Nat)) ⟨gE k x1 (vI (lv : Nat)) (vC r) (vI (a : Nat)) none x6 x7 x8 x9, W⟩ := by
    unfold it__law_good_0
    exact ir1_ (by omega) (v_ rfl)
  have c := (eComp_map (b := bNm 5) (e := ce__law_good_1) (vs := [5]) (g := fun d => match d with | .int b => .lst [.int (a : Nat), .int b, .int (((a : Nat) + b).fmod (lv : Nat))] | d => d) it (by rw [List.length_map, List.length_range]; omega) (fun d hd => by
    obtain ⟨b, mb, rfl⟩ := List.mem_map.mp hd
    exact ⟨⟨gE k x1 (vI (lv : Nat)) (vC r) (vI (a : Nat)) (vI (b : Nat)) x6 x7 x8 x9, W⟩, rfl, _, ce1_ok (by omega), rfl⟩))
  have em : ((List.range lv).map fun j => D.int (j : Nat)).map (fun d => match d with | .int b => D.lst [.int (a : Nat), .int b, .int (((a : Nat) + b).fmod (lv : Nat))] | d => d) = (rowsA lv a).map (rowD false) := by
    unfold rowsA
    rw [List.map_map, List.map_map]
    rfl
  rw [em] at c
  have s1 : see1 W (.ce r) = .lst (acc.map (rowD false)) := by rw [see1_c, hg]; rfl
  unfold g__law_good_3
  refine set_ (bf_c (v_ rfl) (c.trans rfl) ?_) rfl
  rw [s1, see1_l, addF_l, List.map_append]
  refine if_pos ?_
  rw [List.length_map, List.length_map, PySem.sizeLine_eq]
  unfold rowsA
  rw [List.length_map, List.length_range]
  omega
theorem k0_loop {lv k : Nat} {S : Store} (h1 : 1 ≤ lv) (h2 : lv ≤ 1000) {x1 x6 x7 x8 x9 : Option Sl} : ∀ (as : List Nat) (W : Store) (r : Nat) (acc : List (List Int)) (x4 : Option Sl), Bx S k W → S.length ≤ r → W[r]? = some (some (.lst (acc.map (rowD false)))) → acc.length + as.length * lv ≤ 1000000 → ∃ (W' : Store) (r' : Nat) (y4 : Option Sl),
    loopS (bNm 4) g__law_good_3 (as.map fun j => D.int (j : Nat)) ⟨gE k x1 (vI (lv : Nat)) (vC r) x4 none x6 x7 x8 x9, W⟩ = .nx ⟨gE k x1 (vI (lv : Nat)) (vC r') y4 none x6 x7 x8 x9, W'⟩
      ∧ Bx S k W' ∧ S.length ≤ r' ∧ W'[r']? = some (some (.lst ((acc ++ as.flatMap (rowsA lv)).map (rowD false))))
  | [], W, r, acc, x4, hb, hr, hg, _ => ⟨W, r, x4, rfl, hb, hr, by simpa using hg⟩
  | a :: as, W, r, acc, x4, hb, hr, hg, hl => by
    rw [List.length_cons, Nat.add_mul, Nat.one_mul] at hl
    have e := g3_ok (a := a) (k := k) (x1 := x1) (x5 := none) (x6 := x6) (x7 := x7) (x8 := x8) (x9 := x9) h1 h2 hg (by omega)
    have la : (rowsA lv a).length = lv := by unfold rowsA; rw [List.length_map, List.length_range]
    obtain ⟨W', r', y4, e2, b2, r2, g2⟩ := k0_loop (k := k) (S := S) h1 h2 (x1 := x1) (x6 := x6) (x7 := x7) (x8 := x8) (x9 := x9) as _ W.length (acc ++ rowsA lv a) (vI (a : Nat)) (hb.push _) hb.le (last_get rfl) (by rw [List.length_append, la]; omega)
    refine ⟨W', r', y4, lp_ rfl e e2, b2, r2, ?_⟩
    rw [g2, List.flatMap_cons, List.append_assoc]
/-! the twelve rows of eleven signs -/
def q11 (z : Int) : Int := if z = 2 ∨ z = 6 ∨ z = 7 ∨ z = 8 ∨ z = 10 then 1 else 0
def rowX (x : Nat) : List Int := (List.range 11).map fun y => q11 ((((y : Nat) : Int) - (x : Nat)).fmod 11)
def rows1 : List (List Int) := List.replicate 11 1 :: (List.range 11).map rowX
theorem good1 : chkG 2 rows1 11 = true := by decide +kernel
theorem in_bit {z : Int} {S : Store} : inS 3 S (.int z) (.tup [.int 2, .int 6, .int 7, .int 8, .int 10]) = some (.bl (decide (z = 2 ∨ z = 6 ∨ z = 7 ∨ z = 8 ∨ z = 10))) := by
  have hb : ∀ a : Int, (a == z) = decide (z = a) := fun a => by
    by_cases h : z = a
    · simp [h]
    · have h2 : ¬ a = z := fun e => h e.symm
      simp [h, h2]
  simp [hb]
theorem ce5_ok {x y : Int} {S : Store} {x0 x1 x2 x3 x4 x5 x8 x9 : Option Sl} : ce__law_good_5 ⟨[x0, x1, x2, x3, x4, x5, vI x, vI y, x8, x9], S⟩ = .ok (.int (q11 ((y - x).fmod 11))) ⟨[x0, x1, x2, x3, x4, x5, vI x, vI y, x8, x9], S⟩ := by
  unfold ce__law_good_5
  have e1 : eB modD (eCall intD [(eB subD (eVar 7) (eVar 6))]) (eC (.int 11)) ⟨[x0, x1, x2, x3, x4, x5, vI x, vI y, x8, x9], S⟩ = .ok (.int ((y - x).fmod 11)) ⟨[x0, x1, x2, x3, x4, x5, vI x, vI y, x8, x9], S⟩ := b_ (ca1_ (b_ (v_ rfl) (v_ rfl) subD_i) intD_i) c_ (by rw [modD_i, if_pos (by decide)])
  generalize (y - x).fmod 11 = z at e1
  have e2 : eTup [(eC (.int 2)), (eC (.int 6)), (eC (.int 7)), (eC (.int 8)), (eC (.int 10))] ⟨[x0, x1, x2, x3, x4, x5, vI x, vI y, x8, x9], S⟩ = .ok (.tup [.int 2, .int 6, .int 7, .int 8, .int 10]) ⟨[x0, x1, x2, x3, x4, x5, vI x, vI y, x8, x9], S⟩ := by simp
  refine ca1_ (a := .bl (decide (z = 2 ∨ z = 6 ∨ z = 7 ∨ z = 8 ∨ z = 10))) (sl1 := [x0, x1, x2, x3, x4, x5, vI x, vI y, x8, x9]) (S1 := S) ?_ ?_
  · rw [eInA_ap, e1, kIn1_ok, e2, kIn2_ok, in_bit]
    rfl
  · rw [intD_b]
    unfold q11
    by_cases h : z = 2 ∨ z = 6 ∨ z = 7 ∨ z = 8 ∨ z = 10 <;> simp [h]
theorem g7_ok {x r : Nat} {W : Store} {acc : List (List Int)} {k : Nat} {x1 x2 x4 x5 x8 x9 : Option Sl} (hg : W[r]? = some (some (.lst (acc.map (rowD false))))) (ha : acc.length ≤ 1000000) :
    g__law_good_7 ⟨gE k x1 x2 (vC r) x4 x5 (vI (x : Nat)) none x8 x9, W⟩ = .nx ⟨gE k x1 x2 (vC r) x4 x5 (vI (x : Nat)) none x8 x9, W.set r (some (.lst ((acc ++ [rowX x]).map (rowD false))))⟩ := by
  have it : it__law_good_4 ⟨gE k x1 x2 (vC r) x4 x5 (vI (x : Nat)) none x8 x9, W⟩ = .ok ((List.range 11).map fun j => D.int (j : Nat)) ⟨gE k x1 x2 (vC r) x4 x5 (vI (x : Nat)) none x8 x9, W⟩ := by
    unfold it__law_good_4
    exact ir1_ (k := 11) (by omega) rfl
  have c := (eComp_map (b := bNm 7) (e := ce__law_good_5) (vs := [7]) (g := fun d => match d with | .int y => .int (q11 ((y - (x : Nat)).fmod 11)) | d => d) it (by rw [List.length_map, List.length_range]; omega) (fun d hd => by
    obtain ⟨b, mb, rfl⟩ := List.mem_map.mp hd
    exact ⟨⟨gE k x1 x2 (vC r) x4 x5 (vI (x : Nat)) (vI (b : Nat)) x8 x9, W⟩, rfl, _, ce5_ok, rfl⟩))
  have em : ((List.range 11).map fun j => D.int (j : Nat)).map (fun d => match d with | .int y => D.int (q11 ((y - (x : Nat)).fmod 11)) | d => d) = (rowX x).map D.int := by
    unfold rowX
    rw [List.map_map, List.map_map]
    rfl
  rw [em] at c
  have hh : (acc ++ [rowX x]).map (rowD false) = acc.map (rowD false) ++ [rowD false (rowX x)] := by
    rw [List.map_append]
    rfl
  unfold g__law_good_7
  rw [hh]
  exact ex_ (mu1_ (v_ rfl) (la_ hg) (c.trans rfl) (la_ hg) (app_ok (by rw [List.length_map]; omega)))
theorem k1_loop {r k : Nat} {S : Store} (hr : S.length ≤ r) {x1 x2 x4 x5 x8 x9 : Option Sl} : ∀ (as : List Nat) (W : Store) (acc : List (List Int)) (x6 : Option Sl), Bx S k W → W[r]? = some (some (.lst (acc.map (rowD false)))) → acc.length + as.length ≤ 1000000 → ∃ (W' : Store) (y6 : Option Sl),
    loopS (bNm 6) g__law_good_7 (as.map fun j => D.int (j : Nat)) ⟨gE k x1 x2 (vC r) x4 x5 x6 none x8 x9, W⟩ = .nx ⟨gE k x1 x2 (vC r) x4 x5 y6 none x8 x9, W'⟩
      ∧ Bx S k W' ∧ W'[r]? = some (some (.lst ((acc ++ as.map rowX).map (rowD false))))
  | [], W, acc, x6, hb, hg, _ => ⟨W, x6, rfl, hb, by simpa using hg⟩
  | a :: as, W, acc, x6, hb, hg, hl => by
    rw [List.length_cons] at hl
    have e := g7_ok (x := a) (k := k) (x1 := x1) (x2 := x2) (x4 := x4) (x5 := x5) (x8 := x8) (x9 := x9) hg (by omega)
    have hq := (List.getElem?_eq_some_iff.mp hg).1
    obtain ⟨W', y6, e2, b2, g2⟩ := k1_loop (k := k) hr (x1 := x1) (x2 := x2) (x4 := x4) (x5 := x5) (x8 := x8) (x9 := x9) as _ (acc ++ [rowX a]) (vI (a : Nat)) (hb.put _ hr) (List.getElem?_set_self hq) (by rw [List.length_append, List.length_singleton]; omega)
    refine ⟨W', y6, lp_ rfl e e2, b2, ?_⟩
    rw [g2]
    simp
end K53

/-! _law_good, whole. -/
namespace K53
open PySem MB
theorem branch_ok {k lv : Nat} {z : Int} {S W : Store} {x9 : Option Sl} (hb : Bx S k W) (hl : lv = 4 ∨ lv = 6 ∨ lv = 14) {r : Nat} (hr : S.length ≤ r) (hg : W[r]? = some (some (.lst []))) : ∃ (lv2 : Nat) (rows : List (List Int)) (w : Nat) (d : D) (W' : Store) (y4 y6 : Option Sl), Good lv2 rows w ∧ Bx S k W' ∧ Hold S W' d rows ∧
  (sIf (eB eqD (eVar 1) (eC (.int 0)))
  (sFor it__law_good_2 (bNm 4)
  g__law_good_3) (sIf (eB eqD (eVar 1) (eC (.int 1)))
  (sSeq (sSet 2 (eC (.int 2)))
  (sSeq (sSet 3 (eLstM [(eBF false mulF (eLst [(eC (.int 1))]) (eC (.int 11)))]))
  (sFor it__law_good_6 (bNm 6)
  g__law_good_7))) (sUn (bTp [(bNm 2), (bNm 3)]) (eFn m__law_sums [(eVar 0)])))) ⟨gE k (vI z) (vI (lv : Nat)) (vC r) none none none none none x9, W⟩
    = .nx ⟨gE k (vI z) (vI (lv2 : Nat)) (some (.val d)) y4 none y6 none none x9, W'⟩ := by
  have t0 := b_ (op := eqD) (sl := gE k (vI z) (vI (lv : Nat)) (vC r) none none none none none x9) (S := W) (v_ (i := 1) rfl) (c_ (d := .int 0)) eqD_i
  by_cases h0 : z = 0
  · have it : it__law_good_2 ⟨gE k (vI z) (vI (lv : Nat)) (vC r) none none none none none x9, W⟩ = .ok ((List.range lv).map fun j => D.int (j : Nat)) ⟨gE k (vI z) (vI (lv : Nat)) (vC r) none none none none none x9, W⟩ := by
      unfold it__law_good_2
      exact ir1_ (by omega) (v_ rfl)
    obtain ⟨W', r', y4, e, b2, r2, g2⟩ := k0_loop (lv := lv) (k := k) (S := S) (by omega) (by omega) (x1 := vI z) (x6 := none) (x7 := none) (x8 := none) (x9 := x9) (List.range lv) W r [] none hb hr hg (by rw [List.length_range, List.length_nil]; rcases hl with rfl | rfl | rfl <;> decide)
    rw [List.nil_append] at g2
    refine ⟨lv, rows0 lv, 3, .ce r', W', y4, none, ?_, b2, .inr ⟨r', r2, rfl, g2⟩, (if_t t0 (by simp [h0])).trans (for_ it e)⟩
    rcases hl with rfl | rfl | rfl
    · exact good_of good0.1
    · exact good_of good0.2.1
    · exact good_of good0.2.2
  · have t1 := b_ (op := eqD) (sl := gE k (vI z) (vI (lv : Nat)) (vC r) none none none none none x9) (S := W) (v_ (i := 1) rfl) (c_ (d := .int 1)) eqD_i
    by_cases h1 : z = 1
    · have s1 := set_ (i := 2) (sl := gE k (vI z) (vI (lv : Nat)) (vC r) none none none none none x9) (S := W) (c_ (d := .int 2)) rfl
      have s2 : sSet 3 (eLstM [(eBF false mulF (eLst [(eC (.int 1))]) (eC (.int 11)))]) ⟨gE k (vI z) (vI ((2 : Nat) : Int)) (vC r) none none none none none x9, W⟩ = .nx ⟨gE k (vI z) (vI ((2 : Nat) : Int)) (vC W.length) none none none none none x9, W ++ [some (.lst [rowD false (List.replicate 11 1)])]⟩ := by
        have e : eLstM [(eBF false mulF (eLst [(eC (.int 1))]) (eC (.int 11)))] ⟨gE k (vI z) (vI ((2 : Nat) : Int)) (vC r) none none none none none x9, W⟩ = .ok (.ce W.length) ⟨gE k (vI z) (vI ((2 : Nat) : Int)) (vC r) none none none none none x9, W ++ [some (.lst [rowD false (List.replicate 11 1)])]⟩ := by
          simp [rowD, seqD]
          try rfl
        exact set_ e rfl
      have it : it__law_good_6 ⟨gE k (vI z) (vI ((2 : Nat) : Int)) (vC W.length) none none none none none x9, W ++ [some (.lst [rowD false (List.replicate 11 1)])]⟩ = .ok ((List.range 11).map fun j => D.int (j : Nat)) ⟨gE k (vI z) (vI ((2 : Nat) : Int)) (vC W.length) none none none none none x9, W ++ [some (.lst [rowD false (List.replicate 11 1)])]⟩ := by
        unfold it__law_good_6
        exact ir1_ (k := 11) (by omega) rfl
      obtain ⟨W', y6, e, b2, g2⟩ := k1_loop (k := k) (S := S) hb.le (x1 := vI z) (x2 := vI ((2 : Nat) : Int)) (x4 := none) (x5 := none) (x8 := none) (x9 := x9) (List.range 11) _ [List.replicate 11 1] none (hb.push _) (last_get rfl) (by simp)
      refine ⟨2, rows1, 11, .ce W.length, W', none, y6, good_of good1, b2, .inr ⟨_, hb.le, rfl, g2⟩, ?_⟩
      exact (if_f t0 (by simp [h0])).trans ((if_t t1 (by simp [h1])).trans (sq_ s1 (sq_ s2 (for_ it e))))
    · obtain ⟨lv2, rows, w, W', e, d, g⟩ := sums_ok hb.box
      refine ⟨lv2, rows, w, tabD false rows, W', none, none, g, hb.dr d, .inl rfl, ?_⟩
      exact (if_f t0 (by simp [h0])).trans ((if_f t1 (by simp [h1])).trans (un_ (fn1_ (v_ rfl) e) rfl))
theorem copy8 {rows : List (List Int)} {k : Nat} {x1 x2 x4 x5 x6 x7 x9 : Option Sl} {W : Store} (hl : rows.length ≤ 1000) :
    eComp it__law_good_8 (bNm 8) (eC (.bl true)) ce__law_good_9 [8] ⟨gE k x1 x2 (some (.val (tabD false rows))) x4 x5 x6 x7 none x9, W⟩ = .ok (tabD false rows) ⟨gE k x1 x2 (some (.val (tabD false rows))) x4 x5 x6 x7 none x9, W⟩ := by
  have it : it__law_good_8 ⟨gE k x1 x2 (some (.val (tabD false rows))) x4 x5 x6 x7 none x9, W⟩ = .ok (rows.map (rowD false)) ⟨gE k x1 x2 (some (.val (tabD false rows))) x4 x5 x6 x7 none x9, W⟩ := by
    unfold it__law_good_8
    exact iv_ (v_ rfl) rfl
  refine (eComp_map (g := fun d => d) it (by rw [List.length_map]; omega) (fun d hd => ?_)).trans ?_
  · obtain ⟨r, mr, rfl⟩ := List.mem_map.mp hd
    exact ⟨⟨gE k x1 x2 (some (.val (tabD false rows))) x4 x5 x6 x7 (some (.val (rowD false r))) x9, W⟩, rfl, _, cf_l (v_ rfl) rfl, rfl⟩
  · rw [show (fun d : D => d) = id from rfl, List.map_id]
    rfl
theorem twice_ok {k lv w : Nat} {S W : Store} {rows : List (List Int)} {d : D} {x1 x4 x6 x9 : Option Sl} (hb : Bx S k W) (g : Good lv rows w) (hh : Hold S W d rows) : ∃ (rows2 : List (List Int)) (d2 : D) (W2 : Store), Good lv rows2 w ∧ Bx S k W2 ∧ Hold S W2 d2 rows2 ∧
  (sIf (eAnd (eB eqD (eFn m__law_draw [(eVar 0), (eC (.int 3))]) (eC (.int 2))) (eB leD (eLenS (eVar 3)) (eC (.int 64))))
  (sSeq (sFr 3) (sSet 3 (eBF true addF (eVar 3) (eComp it__law_good_8 (bNm 8) (eC (.bl true)) ce__law_good_9 [8])))) sNil) ⟨gE k x1 (vI (lv : Nat)) (some (.val d)) x4 none x6 none none x9, W⟩
    = .nx ⟨gE k x1 (vI (lv : Nat)) (some (.val d2)) x4 none x6 none none x9, W2⟩ := by
  have hn := g.tab.n1
  obtain ⟨z, W1, e1, d1, _, _⟩ := draw_ev (many := 3) (sl := gE k x1 (vI (lv : Nat)) (some (.val d)) x4 none x6 none none x9) hb.box (by decide) (by decide) rfl
  have hb1 := hb.dr d1
  have hh1 := hh.dr hb.lt d1
  have t1 := b_ (op := eqD) e1 (c_ (d := .int 2)) eqD_i
  by_cases h : z = 2
  · have t2 := b_ (op := leD) (sl := gE k x1 (vI (lv : Nat)) (some (.val d)) x4 none x6 none none x9) (ln_ (v_ (i := 3) rfl) hh1.len) (c_ (d := .int 64)) leD_i
    have t3 := (and_t (g := eB leD (eLenS (eVar 3)) (eC (.int 64))) t1 (by simp [h])).trans t2
    by_cases h2 : (rows.length : Int) ≤ 64
    · obtain ⟨W2, e2, b2⟩ := hh1.fr (i := 3) (sl := gE k x1 (vI (lv : Nat)) (some (.val d)) x4 none x6 none none x9) hb1 rfl
      have e3 := bf_c (op := addF) (v_ (i := 3) (sl := gE k x1 (vI (lv : Nat)) (some (.val (tabD false rows))) x4 none x6 none none x9) (S := W2) rfl) (copy8 (by omega)) (ds := (rows ++ rows).map (rowD false)) (by
        show addF (.lst (rows.map (rowD false))) (.lst (rows.map (rowD false))) = _
        rw [addF_l, List.map_append]
        refine if_pos ?_
        rw [List.length_map, PySem.sizeLine_eq]
        omega)
      exact ⟨rows ++ rows, .ce W2.length, _, g.twice (by omega), b2.push _, .inr ⟨_, b2.le, rfl, last_get rfl⟩, (if_t t3 (by simpa using h2)).trans (sq_ e2 (set_ e3 rfl))⟩
    · exact ⟨rows, d, W1, g, hb1, hh1, (if_f t3 (by simpa using h2)).trans nil_⟩
  · have t3 := and_f (g := eB leD (eLenS (eVar 3)) (eC (.int 64))) t1 (by simp [h])
    exact ⟨rows, d, W1, g, hb1, hh1, (if_f t3 (by simp [h])).trans nil_⟩
theorem good_ok {k : Nat} {S : Store} (hb : BoxAt S k) : ∃ (lv : Nat) (rows : List (List Int)) (w : Nat) (W : Store), m__law_good [.ce k] S = .ok (.tup [.int (lv : Nat), tabD false rows]) W ∧ Dr k S W ∧ Good lv rows w := by
  obtain ⟨z1, B1, e1, d1, _, _⟩ := draw_ev (many := 6) (sl := gE k none none none none none none none none none) hb (by decide) (by decide) rfl
  have s1 := set_ (i := 1) e1 rfl
  obtain ⟨z2, B2, e2, d2, z20, z21⟩ := draw_ev (many := 4) (sl := gE k (vI z1) none none none none none none none none) d1.box (by decide) (by decide) rfl
  have el : eLst [(eC (.int 4)), (eC (.int 4)), (eC (.int 6)), (eC (.int 14))] ⟨gE k (vI z1) none none none none none none none none, B1⟩ = .ok (.lst ([4, 4, 6, 14].map fun n : Nat => D.int n)) ⟨gE k (vI z1) none none none none none none none none, B1⟩ := by simp
  obtain ⟨dd, md, ed⟩ := at_list (l := [4, 4, 6, 14].map fun n : Nat => D.int n) (z := z2) (S := B2) z20 z21
  obtain ⟨lv, ml, rfl⟩ := List.mem_map.mp md
  have hl : lv = 4 ∨ lv = 6 ∨ lv = 14 := by
    simp at ml
    omega
  have s2 := set_ (i := 2) (ix_ el e2 ed) rfl
  have s3 := set_ (i := 3) (sl := gE k (vI z1) (vI (lv : Nat)) none none none none none none none) (S := B2) lm0_ rfl
  have hB2 : Bx S k B2 := ((Bx.refl hb).dr d1).dr d2
  obtain ⟨lv2, rows, w, d, W3, y4, y6, g3, b3, h3, s4⟩ := branch_ok (z := z1) (x9 := none) (hB2.push (some (.lst []))) hl (r := B2.length) hB2.le (last_get rfl)
  obtain ⟨rows2, d4, W4, g4, b4, h4, s5⟩ := twice_ok (x1 := vI z1) (x4 := y4) (x6 := y6) (x9 := none) b3 g3 h3
  have hn := g4.tab.n1
  obtain ⟨c, W5, e5, d5, c0, c1⟩ := draw_dr (many := (rows2.length : Nat)) b4.box (by omega) (by omega)
  have s6 := set_ (i := 9) (fn2_ (m := m__law_draw) (v_ (i := 0) (sl := gE k (vI z1) (vI (lv2 : Nat)) (some (.val d4)) y4 none y6 none none none) (S := W4) rfl) (ln_ (v_ (i := 3) rfl) h4.len) e5) rfl
  have b5 := b4.dr d5
  have h5 := h4.dr b4.lt d5
  obtain ⟨i, rfl⟩ := Int.eq_ofNat_of_zero_le c0
  have a1 := sll_l (sl := gE k (vI z1) (vI (lv2 : Nat)) (some (.val d4)) y4 none y6 none none (vI (i : Nat))) (S := W5) (v_ (i := 3) rfl) (v_ (i := 9) rfl) (ds := (rows2.drop i).map (rowD false)) (by
    rw [h5.see]
    show slF (.lst (rows2.map (rowD false))) (some ((i : Nat) : Int)) none = _
    rw [slF_l, cut_lo, List.map_drop])
  have a2 := slh_l (sl := gE k (vI z1) (vI (lv2 : Nat)) (some (.val d4)) y4 none y6 none none (vI (i : Nat))) (S := W5) (v_ (i := 3) rfl) (v_ (i := 9) rfl) (ds := (rows2.take i).map (rowD false)) (by
    rw [h5.see]
    show slF (.lst (rows2.map (rowD false))) none (some ((i : Nat) : Int)) = _
    rw [slF_l, cut_hi, List.map_take])
  have a3 := bf_l (op := addF) a1 a2 (ds := (rows2.drop i ++ rows2.take i).map (rowD false)) (by
    rw [see1_l, see1_l, addF_l, List.map_append]
    refine if_pos ?_
    rw [List.length_map, List.length_map, List.length_drop, List.length_take, PySem.sizeLine_eq]
    omega)
  have s7 := ret_ (t2_ (v_ (i := 2) rfl) a3)
  have h : runS b__law_good 10 [.ce k] S = .ok (.tup [.int (lv2 : Nat), tabD false (rows2.drop i ++ rows2.take i)]) W5 := by
    show endR (b__law_good ⟨gE k none none none none none none none none none, S⟩) = _
    unfold b__law_good
    rw [sq_ s1 (sq_ s2 (sq_ s3 (sq_ s4 (sq_ s5 (sq_ s6 s7)))))]
    rfl
  obtain ⟨W6, e6, d6⟩ := b5.fin h (clD_tup.mpr (clDs_all.mpr fun d m => by
    simp only [List.mem_cons, List.not_mem_nil, or_false] at m
    rcases m with rfl | rfl
    · exact clD_int
    · exact tab_cl))
  exact ⟨lv2, _, w, W6, e6, d6, g4.turnR i⟩
end K53

/-! Places of lists and cells at natural indexes; stores that grow. -/
namespace MB
open PySem PySem.Spec PyProof.Rows L2
theorem atZ {α : Type} {l : List α} {i : Nat} {z : Int} (hz : z = (i : Nat)) : L2.atI l z = l[i]? := by
  subst hz
  exact atI_nat
theorem ixl_ {S : Store} {ds : List D} {i : Nat} {d : D} (h : ds[i]? = some d) : ixS S (.lst ds) (.int (i : Nat)) = some d := by
  show L2.atI ds ((i : Nat) : Int) = _
  rw [atI_nat, h]
theorem ixt_ {S : Store} {ds : List D} {i : Nat} {d : D} (h : ds[i]? = some d) : ixS S (.tup ds) (.int (i : Nat)) = some d := by
  show L2.atI ds ((i : Nat) : Int) = _
  rw [atI_nat, h]
theorem ixc_ {S : Store} {ds : List D} {k i : Nat} {d : D} (hk : S[k]? = some (some (.lst ds))) (h : ds[i]? = some d) : ixS S (.ce k) (.int (i : Nat)) = some d := by
  have e : ∀ z : Int, L2.atI ds z = some d → ixS S (.ce k) (.int z) = some d := fun z hz => by simp [hk, hz]
  exact e _ (by rw [atI_nat, h])
theorem putc_ {S : Store} {ds : List D} {k i : Nat} {e : D} (hk : S[k]? = some (some (.lst ds))) (h : i < ds.length) : putS S (.ce k) (.int (i : Nat)) e = some (S.set k (some (.lst (ds.set i e)))) := by
  have q : ∀ z : Int, L2.ixN ds.length z = some i → putS S (.ce k) (.int z) e = some (S.set k (some (.lst (ds.set i e)))) := fun z hz => by simp [hk, hz]
  refine q _ ?_
  unfold L2.ixN
  rw [if_pos (by omega), if_pos (by omega)]
  rfl
theorem last_get {W : Store} {n : Nat} {c : Option Cn} (h : W.length = n) : (W ++ [c])[n]? = some c := by
  subst h; simp
theorem last_set {W : Store} {n : Nat} {c d : Option Cn} (h : W.length = n) : (W ++ [c]).set n d = W ++ [d] := by
  subst h
  rw [List.set_append_right _ _ (Nat.le_refl _)]
  simp
theorem app_get {W T : Store} {q : Nat} {x : Option Cn} (h : W[q]? = some x) : (W ++ T)[q]? = some x := by
  rw [List.getElem?_append_left (List.getElem?_eq_some_iff.mp h).1]
  exact h
theorem app_set {W T : Store} {q : Nat} {d : Option Cn} (h : q < W.length) : (W ++ T).set q d = W.set q d ++ T := by
  rw [List.set_append_left _ _ h]
theorem app_getR {W T : Store} {p i : Nat} {x : Option Cn} (hp : W.length = p) (h : T[i]? = some x) : (W ++ T)[p + i]? = some x := by
  subst hp
  rw [List.getElem?_append_right (by omega)]
  simpa using h
theorem app_setR {W T : Store} {p i : Nat} {x : Option Cn} (hp : W.length = p) : (W ++ T).set (p + i) x = W ++ T.set i x := by
  subst hp
  rw [List.set_append_right _ _ (by omega)]
  simp
/-- cells in a row, given up -/
theorem fzs_cells : ∀ (ls : List (List D)) (A B : Store), fzs (A ++ ls.map (fun l => some (Cn.lst l)) ++ B) ((List.range' A.length ls.length).map D.ce) = (ls.map D.lst, A ++ ls.map (fun _ => none) ++ B)
  | [], A, B => by simp
  | l :: ls, A, B => by
    have e0 : (A ++ (l :: ls).map (fun l => some (Cn.lst l)) ++ B)[A.length]? = some (some (.lst l)) := by simp
    have e3 : (A.length :: List.range' (A.length + 1) ls.length).map D.ce = .ce A.length :: (List.range' (A.length + 1) ls.length).map D.ce := rfl
    rw [List.length_cons, List.range'_succ, e3, fzs_cons, fz1_c e0]
    have e1 : (A ++ (l :: ls).map (fun l => some (Cn.lst l)) ++ B).set A.length none = (A ++ [none]) ++ ls.map (fun l => some (Cn.lst l)) ++ B := by
      rw [List.map_cons, List.append_assoc, List.set_append_right _ _ (Nat.le_refl _)]
      simp
    have e2 := fzs_cells ls (A ++ [none]) B
    rw [List.length_append, List.length_singleton] at e2
    show (D.lst l :: (fzs ((A ++ (l :: ls).map (fun l => some (Cn.lst l)) ++ B).set A.length none) _).1, (fzs ((A ++ (l :: ls).map (fun l => some (Cn.lst l)) ++ B).set A.length none) _).2) = _
    rw [e1, e2]
    simp
end MB

/-! _law_changed. -/
namespace K53
open PySem MB
abbrev hE (k : Nat) (x1 x2 x3 x4 x5 x6 : Option Sl) : List (Option Sl) := [some (.val (.ce k)), x1, x2, x3, x4, x5, x6]
def cellR (r : List Int) : Option Cn := some (.lst (r.map D.int))
theorem chg_comp {k : Nat} {x1 x2 x3 x5 x6 : Option Sl} : ∀ (rows : List (List Int)) (acc : List D) (x4 : Option Sl) (W : Store), ∃ y4,
    compL (bNm 4) (eC (.bl true)) ce__law_changed_1 [4] (rows.map (rowD false)) acc ⟨hE k x1 x2 x3 x4 x5 x6, W⟩
      = .ok (.lst (acc ++ (List.range' W.length rows.length).map D.ce)) ⟨hE k x1 x2 x3 y4 x5 x6, W ++ rows.map cellR⟩
  | [], acc, x4, W => ⟨x4, by simp⟩
  | r :: rs, acc, x4, W => by
    obtain ⟨y4, h⟩ := chg_comp (k := k) (x1 := x1) (x2 := x2) (x3 := x3) (x5 := x5) (x6 := x6) rs (acc ++ [.ce W.length]) (some (.val (rowD false r))) (W ++ [cellR r])
    refine ⟨y4, ?_⟩
    have e1 : ce__law_changed_1 ⟨hE k x1 x2 x3 (some (.val (rowD false r))) x5 x6, W⟩ = .ok (.ce W.length) ⟨hE k x1 x2 x3 (some (.val (rowD false r))) x5 x6, W ++ [cellR r]⟩ := cf_c (v_ rfl) rfl
    rw [List.map_cons, compL_cs]
    show kC0 _ _ _ _ _ _ (some ⟨hE k x1 x2 x3 (some (.val (rowD false r))) x5 x6, W⟩) = _
    rw [kC0_s, eC_ap, kC1_ok, truth_b, kC2_t, e1, kC3_ok, h]
    rw [List.length_append, List.length_singleton, List.length_cons, List.range'_succ]
    simp
theorem chg_start {k : Nat} {x1 x3 x5 x6 : Option Sl} {rows : List (List Int)} {W : Store} (hl : rows.length ≤ 1000000) :
    eComp it__law_changed_0 (bNm 4) (eC (.bl true)) ce__law_changed_1 [4] ⟨hE k x1 (some (.val (tabD false rows))) x3 none x5 x6, W⟩
      = .ok (.lst ((List.range' W.length rows.length).map D.ce)) ⟨hE k x1 (some (.val (tabD false rows))) x3 none x5 x6, W ++ rows.map cellR⟩ := by
  have it : it__law_changed_0 ⟨hE k x1 (some (.val (tabD false rows))) x3 none x5 x6, W⟩ = .ok (rows.map (rowD false)) ⟨hE k x1 (some (.val (tabD false rows))) x3 none x5 x6, W⟩ := by
    unfold it__law_changed_0
    exact iv_ (v_ rfl) rfl
  obtain ⟨y4, h⟩ := chg_comp (k := k) (x1 := x1) (x2 := some (.val (tabD false rows))) (x3 := x3) (x5 := x5) (x6 := x6) rows [] none W
  rw [eComp_ap, it, kCo_ok, if_pos (by rw [List.length_map]; exact hl), h]
  rfl
/-- rows of one length -/
structure Rect (rows : List (List Int)) (w : Nat) : Prop where
  n1 : 1 ≤ rows.length ∧ rows.length ≤ 200
  w1 : 1 ≤ w ∧ w ≤ 30
  len : ∀ r ∈ rows, r.length = w
theorem Tab.rect {lv : Int} {rows : List (List Int)} {w : Nat} (T : Tab lv rows w) : Rect rows w := ⟨T.n1, T.w1, T.len⟩
theorem Rect.fair {rows : List (List Int)} {w : Nat} (h : Rect rows w) : Fair rows := ⟨by have := h.n1; omega, fun r m => by have := h.w1; rw [h.len r m]; omega⟩
theorem rowAt_len {rows : List (List Int)} {w i : Nat} (h : Rect rows w) (hi : i < rows.length) : (rowAt rows i).length = w := by
  unfold rowAt
  rw [List.getElem?_eq_getElem hi]
  exact h.len _ (List.getElem_mem hi)
theorem rowAt_mem {rows : List (List Int)} {i : Nat} (hi : i < rows.length) : rowAt rows i ∈ rows := by
  unfold rowAt
  rw [List.getElem?_eq_getElem hi]
  exact List.getElem_mem hi
theorem Rect.set {rows : List (List Int)} {w i j : Nat} {v : Int} (h : Rect rows w) (hi : i < rows.length) : Rect (rows.set i ((rowAt rows i).set j v)) w := by
  refine ⟨by rw [List.length_set]; exact h.n1, h.w1, fun r m => ?_⟩
  rcases List.mem_or_eq_of_mem_set m with m | rfl
  · exact h.len r m
  · rw [List.length_set]
    exact rowAt_len h hi
theorem changed_ok {k : Nat} {lv : Int} {S : Store} {rows : List (List Int)} {w : Nat} (hb : BoxAt S k) (hR : Rect rows w) (hl : 2 ≤ lv ∧ lv ≤ 20) : ∃ (rows2 : List (List Int)) (W : Store), m__law_changed [.ce k, .int lv, tabD false rows] S = .ok (tabD false rows2) W ∧ Dr k S W ∧ Rect rows2 w := by
  have hn := hR.n1
  have hw := hR.w1
  have s1 := set_ (i := 3) (chg_start (k := k) (x1 := vI lv) (x3 := none) (x5 := none) (x6 := none) (rows := rows) (W := S) (by omega)) rfl
  have T1 : ∀ B : Store, tabD false rows = tabD false rows := fun _ => rfl
  -- i
  obtain ⟨zi, B1, e1, d1, i0, i1⟩ := draw_app (T := rows.map cellR) (many := (rows.length : Nat)) hb (by omega) (by omega)
  have s2 := set_ (i := 5) (fn2_ (m := m__law_draw) (v_ (i := 0) (sl := hE k (vI lv) (some (.val (tabD false rows))) (vL ((List.range' S.length rows.length).map D.ce)) none none none) (S := S ++ rows.map cellR) rfl) (ln_ (v_ (i := 2) rfl) tab_len) e1) rfl
  obtain ⟨i, rfl⟩ := Int.eq_ofNat_of_zero_le i0
  have hi : i < rows.length := by omega
  -- j
  obtain ⟨zj, B2, e2, d2, j0, j1⟩ := draw_app (T := rows.map cellR) (many := (w : Nat)) d1.box (by omega) (by omega)
  have r0 : ixS (B1 ++ rows.map cellR) (tabD false rows) (.int ((0 : Nat) : Int)) = some (rowD false (rowAt rows 0)) := ix_tab (by omega)
  have l0 : lenS (B1 ++ rows.map cellR) (rowD false (rowAt rows 0)) = some (.int (w : Nat)) := len0 (rowAt_len hR (by omega))
  have s3 := set_ (i := 6) (fn2_ (m := m__law_draw) (v_ (i := 0) (sl := hE k (vI lv) (some (.val (tabD false rows))) (vL ((List.range' S.length rows.length).map D.ce)) none (vI (i : Nat)) none) (S := B1 ++ rows.map cellR) rfl) (ln_ (ix_ (g := eC (.int 0)) (v_ (i := 2) rfl) c_ r0) l0) e2) rfl
  obtain ⟨j, rfl⟩ := Int.eq_ofNat_of_zero_le j0
  have hj : j < (rowAt rows i).length := by rw [rowAt_len hR hi]; omega
  -- the new entry
  obtain ⟨zv, B3, e3, d3, _, _⟩ := draw_app (T := rows.map cellR) (many := lv - 1) d2.box (by omega) (by omega)
  have hc : ((List.range' S.length rows.length).map D.ce)[i]? = some (.ce (S.length + i)) := by
    rw [List.getElem?_map, List.getElem?_range' hi]
    simp
  have hr : (rows.map cellR)[i]? = some (some (.lst ((rowAt rows i).map D.int))) := by
    rw [List.getElem?_map, List.getElem?_eq_getElem hi]
    unfold rowAt
    rw [List.getElem?_eq_getElem hi]
    rfl
  have hd : ((rowAt rows i).map D.int)[j]? = some (.int ((rowAt rows i)[j]'hj)) := by
    rw [List.getElem?_map, List.getElem?_eq_getElem hj]
    rfl
  have p2 : B2.length = S.length := d2.len.trans d1.len
  have p3 : B3.length = S.length := d3.len.trans p2
  let sl := hE k (vI lv) (some (.val (tabD false rows))) (vL ((List.range' S.length rows.length).map D.ce)) none (vI (i : Nat)) (vI (j : Nat))
  have o2 : eIxS (eVar 3) (eVar 5) ⟨sl, B2 ++ rows.map cellR⟩ = .ok (.ce (S.length + i)) ⟨sl, B2 ++ rows.map cellR⟩ := ix_ (v_ (i := 3) rfl) (v_ (i := 5) rfl) (ixl_ hc)
  have o3 : eIxS (eVar 3) (eVar 5) ⟨sl, B3 ++ rows.map cellR⟩ = .ok (.ce (S.length + i)) ⟨sl, B3 ++ rows.map cellR⟩ := ix_ (v_ (i := 3) rfl) (v_ (i := 5) rfl) (ixl_ hc)
  have q2 := ix_ o2 (v_ (i := 6) rfl) (ixc_ (app_getR p2 hr) hd)
  have q3 := bf_ (mm := false) (op := addF) q2 (c_ (d := .int 1)) rfl
  have q4 := fn2_ (m := m__law_draw) (v_ (i := 0) (sl := sl) (S := B2 ++ rows.map cellR) rfl) (b_ (op := subD) (g := eC (.int 1)) (v_ (i := 1) rfl) c_ subD_i) e3
  have q5 := bf_ (mm := false) (op := addF) q3 q4 rfl
  have q6 := b_ (op := modD) (ca1_ (F := intD) q5 intD_i) (v_ (i := 1) rfl) (by rw [modD_i, if_pos (show lv ≠ 0 by omega)])
  have s4 := put_ q6 o3 (v_ (i := 6) rfl) (putc_ (app_getR p3 hr) (by rw [List.length_map]; exact hj))
  generalize hz : ((rowAt rows i)[j]'hj + 1 + zv).fmod lv = z at s4
  -- given up
  have es : (rows.map cellR).set i (some (.lst (((rowAt rows i).map D.int).set j (.int z)))) = (rows.set i ((rowAt rows i).set j z)).map cellR := by
    rw [List.map_set]
    unfold cellR
    rw [List.map_set]
  rw [app_setR p3, es] at s4
  have f : fz2 (B3 ++ (rows.set i ((rowAt rows i).set j z)).map cellR) (.lst ((List.range' S.length rows.length).map D.ce)) = (tabD false (rows.set i ((rowAt rows i).set j z)), B3 ++ (rows.set i ((rowAt rows i).set j z)).map fun _ => none) := by
    have h := fzs_cells ((rows.set i ((rowAt rows i).set j z)).map fun r => r.map D.int) B3 []
    rw [List.append_nil, List.append_nil, List.length_map, List.length_set, p3, List.map_map, List.map_map, List.map_map] at h
    rw [fz2_l]
    have h2 : fzs (B3 ++ (rows.set i ((rowAt rows i).set j z)).map cellR) ((List.range' S.length rows.length).map D.ce) = _ := h
    rw [h2]
    rfl
  have s5 : sFrD 3 ⟨sl, B3 ++ (rows.set i ((rowAt rows i).set j z)).map cellR⟩ = .nx ⟨hE k (vI lv) (some (.val (tabD false rows))) (some (.val (tabD false (rows.set i ((rowAt rows i).set j z))))) none (vI (i : Nat)) (vI (j : Nat)), B3 ++ (rows.set i ((rowAt rows i).set j z)).map fun _ => none⟩ := by
    rw [sFrD_ap]
    show Fl.nx (fzR _ 3 (some (some (.val (.lst ((List.range' S.length rows.length).map D.ce)))))) = _
    rw [fzR_v]
    show Fl.nx ⟨_, _⟩ = _
    rw [show En.st ⟨sl, B3 ++ (rows.set i ((rowAt rows i).set j z)).map cellR⟩ = B3 ++ (rows.set i ((rowAt rows i).set j z)).map cellR from rfl, f]
    rfl
  have s6 := ret_ (v_ (i := 3) (sl := hE k (vI lv) (some (.val (tabD false rows))) (some (.val (tabD false (rows.set i ((rowAt rows i).set j z))))) none (vI (i : Nat)) (vI (j : Nat))) (S := B3 ++ (rows.set i ((rowAt rows i).set j z)).map fun _ => none) rfl)
  have h : runS b__law_changed 7 [.ce k, .int lv, tabD false rows] S = .ok (tabD false (rows.set i ((rowAt rows i).set j z))) (B3 ++ (rows.set i ((rowAt rows i).set j z)).map fun _ => none) := by
    show endR (b__law_changed ⟨hE k (vI lv) (some (.val (tabD false rows))) none none none none, S⟩) = _
    unfold b__law_changed
    rw [sq_ s1 (sq_ s2 (sq_ s3 (sq_ s4 (sq_ s5 s6))))]
    rfl
  have hB : Bx S k (B3 ++ (rows.set i ((rowAt rows i).set j z)).map fun _ => none) := by
    have : ∀ (l : List (Option Cn)) (B : Store), Bx S k B → Bx S k (B ++ l) := by
      intro l
      induction l with
      | nil => intro B h; rw [List.append_nil]; exact h
      | cons c l ih =>
        intro B h
        have := ih (B ++ [c]) (h.push c)
        rwa [List.append_assoc, List.singleton_append] at this
    exact this _ _ (((Bx.refl hb).dr d1).dr (d2.trans d3))
  obtain ⟨W, e7, d7⟩ := hB.fin h tab_cl
  exact ⟨_, W, e7, d7, hR.set hi⟩
end K53

/-! _law_bent. -/
namespace K53
open PySem MB
abbrev bE (k : Nat) (x1 x2 x3 x4 x5 x6 x7 x8 x9 xa : Option Sl) : List (Option Sl) := [some (.val (.ce k)), x1, x2, x3, x4, x5, x6, x7, x8, x9, xa]
/-- a table in a cell -/
structure Cel (S : Store) (k : Nat) (W : Store) (r : Nat) (rows : List (List Int)) : Prop where
  bx : Bx S k W
  hi : S.length ≤ r
  at_ : W[r]? = some (some (.lst (rows.map (rowD false))))
  fair : Fair rows
theorem Cel.dr {S W W' : Store} {k r : Nat} {rows : List (List Int)} (c : Cel S k W r rows) (d : Dr k W W') : Cel S k W' r rows :=
  ⟨c.bx.dr d, c.hi, (d.out r (by have := c.bx.lt; have := c.hi; omega)).trans c.at_, c.fair⟩
theorem Cel.put {S W : Store} {k r i : Nat} {rows : List (List Int)} {nr : List Int} (c : Cel S k W r rows) (h : nr.length ≤ 1000) : Cel S k (W.set r (some (.lst ((rows.set i nr).map (rowD false))))) r (rows.set i nr) :=
  ⟨c.bx.put _ c.hi, c.hi, List.getElem?_set_self (List.getElem?_eq_some_iff.mp c.at_).1, by rw [List.length_set]; exact c.fair.1, fun r m => by
    rcases List.mem_or_eq_of_mem_set m with m | rfl
    · exact c.fair.2 r m
    · exact h⟩
theorem put_row {S W : Store} {k r i : Nat} {rows : List (List Int)} {nr : List Int} {g : EX} {x1 x2 x4 x6 x7 x8 x9 xa : Option Sl} (c : Cel S k W r rows) (hi : i < rows.length) (h : nr.length ≤ 1000)
    (hg : g ⟨bE k x1 x2 (vC r) x4 (vI (i : Nat)) x6 x7 x8 x9 xa, W⟩ = .ok (rowD false nr) ⟨bE k x1 x2 (vC r) x4 (vI (i : Nat)) x6 x7 x8 x9 xa, W⟩) : ∃ W', sPutS (eVar 3) (eVar 5) g ⟨bE k x1 x2 (vC r) x4 (vI (i : Nat)) x6 x7 x8 x9 xa, W⟩ = .nx ⟨bE k x1 x2 (vC r) x4 (vI (i : Nat)) x6 x7 x8 x9 xa, W'⟩ ∧ Cel S k W' r (rows.set i nr) := by
  have e := put_ hg (v_ (i := 3) rfl) (v_ (i := 5) rfl) (putc_ c.at_ (by rw [List.length_map]; exact hi))
  rw [show (rows.map (rowD false)).set i (rowD false nr) = (rows.set i nr).map (rowD false) by rw [List.map_set]] at e
  exact ⟨_, e, c.put h⟩
theorem row_len1 {r : List Int} {S : Store} : lenS S (rowD false r) = some (.int (r.length : Nat)) := len_row
section
variable {S : Store} {k r i j : Nat} {z odd : Int} {row : List Int} {x1 x2 x9 xa : Option Sl}
theorem if0 {W : Store} {rows : List (List Int)} (hr : row.length ≤ 30) (c : Cel S k W r rows) (hi : i < rows.length) : ∃ (rows' : List (List Int)) (W' : Store), Cel S k W' r rows' ∧ i < rows'.length ∧
    sIf (eB eqD (eVar 7) (eC (.int 0))) (sPutS (eVar 3) (eVar 5) (eSlF false (eVar 4) none (some (eVar 6)))) sNil ⟨bE k x1 x2 (vC r) (some (.val (rowD false row))) (vI (i : Nat)) (vI (j : Nat)) (vI z) (vI odd) x9 xa, W⟩
      = .nx ⟨bE k x1 x2 (vC r) (some (.val (rowD false row))) (vI (i : Nat)) (vI (j : Nat)) (vI z) (vI odd) x9 xa, W'⟩ := by
  have t := b_ (op := eqD) (sl := bE k x1 x2 (vC r) (some (.val (rowD false row))) (vI (i : Nat)) (vI (j : Nat)) (vI z) (vI odd) x9 xa) (S := W) (v_ (i := 7) rfl) (c_ (d := .int 0)) eqD_i
  by_cases h : z = 0
  · have e := slh_l (sl := bE k x1 x2 (vC r) (some (.val (rowD false row))) (vI (i : Nat)) (vI (j : Nat)) (vI z) (vI odd) x9 xa) (S := W) (v_ (i := 4) rfl) (v_ (i := 6) rfl) (ds := (row.take j).map D.int) (by
      show slF (.lst (row.map D.int)) none (some ((j : Nat) : Int)) = _
      rw [slF_l, cut_hi, List.map_take])
    obtain ⟨W', e2, c2⟩ := put_row (nr := row.take j) c hi (by rw [List.length_take]; omega) e
    exact ⟨_, W', c2, by rw [List.length_set]; exact hi, (if_t t (by simp [h])).trans e2⟩
  · exact ⟨rows, W, c, hi, (if_f t (by simp [h])).trans nil_⟩
theorem if1 {W : Store} {rows : List (List Int)} (hr : row.length ≤ 30) (c : Cel S k W r rows) (hi : i < rows.length) : ∃ (rows' : List (List Int)) (W' : Store), Cel S k W' r rows' ∧ i < rows'.length ∧
    sIf (eB eqD (eVar 7) (eC (.int 1))) (sPutS (eVar 3) (eVar 5) (eBF false addF (eVar 4) (eBF false mulF (eLst [(eC (.int 0))]) (eB subD (eC (.int 31)) (eLenS (eVar 4)))))) sNil ⟨bE k x1 x2 (vC r) (some (.val (rowD false row))) (vI (i : Nat)) (vI (j : Nat)) (vI z) (vI odd) x9 xa, W⟩
      = .nx ⟨bE k x1 x2 (vC r) (some (.val (rowD false row))) (vI (i : Nat)) (vI (j : Nat)) (vI z) (vI odd) x9 xa, W'⟩ := by
  have t := b_ (op := eqD) (sl := bE k x1 x2 (vC r) (some (.val (rowD false row))) (vI (i : Nat)) (vI (j : Nat)) (vI z) (vI odd) x9 xa) (S := W) (v_ (i := 7) rfl) (c_ (d := .int 1)) eqD_i
  by_cases h : z = 1
  · have q : ∀ y : Int, y = 31 - (row.length : Int) → mulF (.lst [.int 0]) (.int y) = some (.new ((List.replicate (31 - row.length) (0 : Int)).map D.int)) := fun y hy => by
      rw [mulF_l, if_pos ⟨⟨by omega, by omega⟩, by rw [List.length_singleton, PySem.sizeLine_eq]; omega⟩, show y.toNat = 31 - row.length by omega, zeros]
    have e1 := bf_l (op := mulF) (l1_ (c_ (d := .int 0))) (b_ (op := subD) (c_ (d := .int 31)) (ln_ (v_ (i := 4) (sl := bE k x1 x2 (vC r) (some (.val (rowD false row))) (vI (i : Nat)) (vI (j : Nat)) (vI z) (vI odd) x9 xa) (S := W) rfl) row_len1) subD_i) (q _ rfl)
    have e2 := bf_l (op := addF) (v_ (i := 4) rfl) e1 (ds := (row ++ List.replicate (31 - row.length) (0 : Int)).map D.int) (by
      show addF (.lst (row.map D.int)) (.lst ((List.replicate (31 - row.length) (0 : Int)).map D.int)) = _
      rw [addF_l, List.map_append]
      refine if_pos ?_
      rw [List.length_map, List.length_map, List.length_replicate, PySem.sizeLine_eq]
      omega)
    obtain ⟨W', e3, c2⟩ := put_row (nr := row ++ List.replicate (31 - row.length) (0 : Int)) c hi (by rw [List.length_append, List.length_replicate]; omega) e2
    exact ⟨_, W', c2, by rw [List.length_set]; exact hi, (if_t t (by simp [h])).trans e3⟩
  · exact ⟨rows, W, c, hi, (if_f t (by simp [h])).trans nil_⟩
theorem if2 {W : Store} {rows : List (List Int)} (hr : row.length ≤ 30) (c : Cel S k W r rows) (hi : i < rows.length) : ∃ (rows' : List (List Int)) (W' : Store), Cel S k W' r rows' ∧ i < rows'.length ∧
    sIf (eOr (eB eqD (eVar 7) (eC (.int 2))) (eB eqD (eVar 7) (eC (.int 3)))) (sPutS (eVar 3) (eVar 5) (eBF false addF (eBF false addF (eSlF false (eVar 4) none (some (eVar 6))) (eLst [(eVar 8)])) (eSlF false (eVar 4) (some (eB subD (eBF false addF (eVar 6) (eVar 7)) (eC (.int 2)))) none))) sNil ⟨bE k x1 x2 (vC r) (some (.val (rowD false row))) (vI (i : Nat)) (vI (j : Nat)) (vI z) (vI odd) x9 xa, W⟩
      = .nx ⟨bE k x1 x2 (vC r) (some (.val (rowD false row))) (vI (i : Nat)) (vI (j : Nat)) (vI z) (vI odd) x9 xa, W'⟩ := by
  have t2 := b_ (op := eqD) (sl := bE k x1 x2 (vC r) (some (.val (rowD false row))) (vI (i : Nat)) (vI (j : Nat)) (vI z) (vI odd) x9 xa) (S := W) (v_ (i := 7) rfl) (c_ (d := .int 2)) eqD_i
  have t3 := b_ (op := eqD) (sl := bE k x1 x2 (vC r) (some (.val (rowD false row))) (vI (i : Nat)) (vI (j : Nat)) (vI z) (vI odd) x9 xa) (S := W) (v_ (i := 7) rfl) (c_ (d := .int 3)) eqD_i
  have go : ∀ n : Nat, (j : Int) + z - 2 = (n : Nat) → ∃ (rows' : List (List Int)) (W' : Store), Cel S k W' r rows' ∧ i < rows'.length ∧
      sPutS (eVar 3) (eVar 5) (eBF false addF (eBF false addF (eSlF false (eVar 4) none (some (eVar 6))) (eLst [(eVar 8)])) (eSlF false (eVar 4) (some (eB subD (eBF false addF (eVar 6) (eVar 7)) (eC (.int 2)))) none)) ⟨bE k x1 x2 (vC r) (some (.val (rowD false row))) (vI (i : Nat)) (vI (j : Nat)) (vI z) (vI odd) x9 xa, W⟩
      = .nx ⟨bE k x1 x2 (vC r) (some (.val (rowD false row))) (vI (i : Nat)) (vI (j : Nat)) (vI z) (vI odd) x9 xa, W'⟩ := by
    intro n hn
    have a1 := slh_l (sl := bE k x1 x2 (vC r) (some (.val (rowD false row))) (vI (i : Nat)) (vI (j : Nat)) (vI z) (vI odd) x9 xa) (S := W) (v_ (i := 4) rfl) (v_ (i := 6) rfl) (ds := (row.take j).map D.int) (by
      show slF (.lst (row.map D.int)) none (some ((j : Nat) : Int)) = _
      rw [slF_l, cut_hi, List.map_take])
    have a2 := bf_l (op := addF) a1 (l1_ (v_ (i := 8) rfl)) (ds := (row.take j ++ [odd]).map D.int) (by
      rw [see1_l, see1_l, addF_l, List.map_append]
      refine if_pos ?_
      rw [List.length_map, List.length_take, List.length_singleton, PySem.sizeLine_eq]
      omega)
    have a3 := b_ (op := subD) (bf_ (mm := false) (op := addF) (v_ (i := 6) (sl := bE k x1 x2 (vC r) (some (.val (rowD false row))) (vI (i : Nat)) (vI (j : Nat)) (vI z) (vI odd) x9 xa) (S := W) rfl) (v_ (i := 7) rfl) rfl) (c_ (d := .int 2)) subD_i
    rw [hn] at a3
    have a4 := sll_l (v_ (i := 4) rfl) a3 (ds := (row.drop n).map D.int) (by
      show slF (.lst (row.map D.int)) (some ((n : Nat) : Int)) none = _
      rw [slF_l, cut_lo, List.map_drop])
    have a5 := bf_l (op := addF) a2 a4 (ds := (row.take j ++ [odd] ++ row.drop n).map D.int) (by
      rw [see1_l, see1_l, addF_l, ← List.map_append]
      refine if_pos ?_
      rw [List.length_map, List.length_map, List.length_append, List.length_take, List.length_singleton, List.length_drop, PySem.sizeLine_eq]
      omega)
    obtain ⟨W', e3, c2⟩ := put_row (nr := row.take j ++ [odd] ++ row.drop n) c hi (by rw [List.length_append, List.length_append, List.length_take, List.length_singleton, List.length_drop]; omega) a5
    exact ⟨_, W', c2, by rw [List.length_set]; exact hi, e3⟩
  by_cases h2 : z = 2
  · obtain ⟨rows', W', c', hi', e⟩ := go j (by omega)
    exact ⟨rows', W', c', hi', (if_t (or_t (g := eB eqD (eVar 7) (eC (.int 3))) t2 (by simp [h2])) (by simp [h2])).trans e⟩
  · have t4 := (or_f (g := eB eqD (eVar 7) (eC (.int 3))) t2 (by simp [h2])).trans t3
    by_cases h3 : z = 3
    · obtain ⟨rows', W', c', hi', e⟩ := go (j + 1) (by omega)
      exact ⟨rows', W', c', hi', (if_t t4 (by simp [h3])).trans e⟩
    · exact ⟨rows, W, c, hi, (if_f t4 (by simp [h3])).trans nil_⟩
theorem if4 {W : Store} {rows : List (List Int)} (hr : row.length ≤ 30) (c : Cel S k W r rows) : ∃ (r' : Nat) (rows' : List (List Int)) (W' : Store), Cel S k W' r' rows' ∧
    sIf (eB eqD (eVar 7) (eC (.int 4))) (sSet 3 (eCompM it__law_bent_2 (bNm 9) (eC (.bl true)) ce__law_bent_3 [9])) sNil ⟨bE k x1 x2 (vC r) (some (.val (rowD false row))) (vI (i : Nat)) (vI (j : Nat)) (vI z) (vI odd) none xa, W⟩
      = .nx ⟨bE k x1 x2 (vC r') (some (.val (rowD false row))) (vI (i : Nat)) (vI (j : Nat)) (vI z) (vI odd) none xa, W'⟩ := by
  have t := b_ (op := eqD) (sl := bE k x1 x2 (vC r) (some (.val (rowD false row))) (vI (i : Nat)) (vI (j : Nat)) (vI z) (vI odd) none xa) (S := W) (v_ (i := 7) rfl) (c_ (d := .int 4)) eqD_i
  by_cases h : z = 4
  · obtain ⟨y, B, e1, d1, y0, y1⟩ := draw_ev (many := 2) (sl := bE k x1 x2 (vC r) (some (.val (rowD false row))) (vI (i : Nat)) (vI (j : Nat)) (vI z) (vI odd) none xa) c.bx.box (by decide) (by decide) rfl
    obtain ⟨n, rfl⟩ := Int.eq_ofNat_of_zero_le y0
    have it : it__law_bent_2 ⟨bE k x1 x2 (vC r) (some (.val (rowD false row))) (vI (i : Nat)) (vI (j : Nat)) (vI z) (vI odd) none xa, W⟩ = .ok ((List.range (200 + n)).map fun j => D.int (j : Nat)) ⟨bE k x1 x2 (vC r) (some (.val (rowD false row))) (vI (i : Nat)) (vI (j : Nat)) (vI z) (vI odd) none xa, B⟩ := by
      unfold it__law_bent_2
      refine ir1_ (by omega) (bf_ (mm := false) (c_ (d := .int 200)) e1 ?_)
      show some (Oc.val (.int (200 + (n : Int)))) = _
      congr 3
    have e2 := eCompM_map (b := bNm 9) (e := ce__law_bent_3) (vs := [9]) (g := fun _ => rowD false row) it (by rw [List.length_map, List.length_range]; omega) (fun d hd => by
      refine ⟨⟨bE k x1 x2 (vC r) (some (.val (rowD false row))) (vI (i : Nat)) (vI (j : Nat)) (vI z) (vI odd) (some (.val d)) xa, B⟩, rfl, _, cf_l (v_ rfl) rfl, rfl⟩)
    have em : ((List.range (200 + n)).map fun j => D.int (j : Nat)).map (fun _ => rowD false row) = (List.replicate (200 + n) row).map (rowD false) := by
      rw [List.map_map, List.map_replicate, ← List.length_range (n := 200 + n), ← List.map_const', List.length_range]
      rfl
    rw [em] at e2
    have b2 := c.bx.dr d1
    exact ⟨B.length, List.replicate (200 + n) row, _, ⟨b2.push _, b2.le, last_get rfl, by rw [List.length_replicate]; omega, fun q m => by rw [List.eq_of_mem_replicate m]; omega⟩, (if_t t (by simp [h])).trans (set_ e2 rfl)⟩
  · exact ⟨r, rows, W, c, (if_f t (by simp [h])).trans nil_⟩
theorem if5 {W : Store} {rows : List (List Int)} (c : Cel S k W r rows) : ∃ (r' : Nat) (rows' : List (List Int)) (W' : Store), Cel S k W' r' rows' ∧
    sIf (eB eqD (eVar 7) (eC (.int 5))) (sSeq (sFr 3) (sSet 3 (eCompM it__law_bent_4 (bNm 10) (eC (.bl true)) ce__law_bent_5 [10]))) sNil ⟨bE k x1 x2 (vC r) (some (.val (rowD false row))) (vI (i : Nat)) (vI (j : Nat)) (vI z) (vI odd) x9 none, W⟩
      = .nx ⟨bE k x1 x2 (vC r') (some (.val (rowD false row))) (vI (i : Nat)) (vI (j : Nat)) (vI z) (vI odd) x9 none, W'⟩ := by
  have t := b_ (op := eqD) (sl := bE k x1 x2 (vC r) (some (.val (rowD false row))) (vI (i : Nat)) (vI (j : Nat)) (vI z) (vI odd) x9 none) (S := W) (v_ (i := 7) rfl) (c_ (d := .int 5)) eqD_i
  by_cases h : z = 5
  · have f := fr_c (i := 3) (sl := bE k x1 x2 (vC r) (some (.val (rowD false row))) (vI (i : Nat)) (vI (j : Nat)) (vI z) (vI odd) x9 none) (S := W) rfl c.at_ rfl
    have it : it__law_bent_4 ⟨bE k x1 x2 (vL (rows.map (rowD false))) (some (.val (rowD false row))) (vI (i : Nat)) (vI (j : Nat)) (vI z) (vI odd) x9 none, W.set r none⟩ = .ok (rows.map (rowD false)) ⟨bE k x1 x2 (vL (rows.map (rowD false))) (some (.val (rowD false row))) (vI (i : Nat)) (vI (j : Nat)) (vI z) (vI odd) x9 none, W.set r none⟩ := by
      unfold it__law_bent_4
      exact iv_ (v_ (i := 3) rfl) rfl
    have hl : rows.length ≤ 1000 := c.fair.1
    have e2 := eCompM_map (b := bNm 10) (e := ce__law_bent_5) (vs := [10]) (g := fun _ => rowD false []) it (by rw [List.length_map]; omega) (fun d hd => by
      obtain ⟨q, mq, rfl⟩ := List.mem_map.mp hd
      refine ⟨⟨bE k x1 x2 (vL (rows.map (rowD false))) (some (.val (rowD false row))) (vI (i : Nat)) (vI (j : Nat)) (vI z) (vI odd) x9 (some (.val (rowD false q))), W.set r none⟩, rfl, _, slh_l (hi := ((0 : Nat) : Int)) (v_ (i := 10) rfl) c_ (ds := []) ?_, rfl⟩
      show slF (.lst (q.map D.int)) none (some ((0 : Nat) : Int)) = _
      rw [slF_l, cut_hi, List.take_zero])
    have em : (rows.map (rowD false)).map (fun _ => rowD false []) = (rows.map fun _ => ([] : List Int)).map (rowD false) := by
      rw [List.map_map, List.map_map]
      rfl
    rw [em] at e2
    have b2 := c.bx.put none c.hi
    refine ⟨(W.set r none).length, rows.map fun _ => [], _, ⟨b2.push _, b2.le, last_get rfl, by rw [List.length_map]; exact hl, fun q m => ?_⟩, (if_t t (by simp [h])).trans (sq_ f (set_ e2 rfl))⟩
    obtain ⟨_, _, rfl⟩ := List.mem_map.mp m
    simp
  · exact ⟨r, rows, W, c, (if_f t (by simp [h])).trans nil_⟩
end
end K53

/-! _law_bent, whole; lists of drawn numbers. -/
namespace K53
open PySem MB
theorem neg_list {lv : Int} {sl : List (Option Sl)} {S : Store} (h : sl[1]? = some (some (.val (.int lv)))) : eLst [(e1 negD (eC (.int 1))), (eVar 1), (eBF false addF (eVar 1) (eC (.int 1))), (e1 negD (eB powM (eC (.int 10)) (eC (.int 60)))), (eB powM (eC (.int 10)) (eC (.int 60)))] ⟨sl, S⟩
    = .ok (.lst ([-1, lv, lv + 1, -E60, E60].map D.int)) ⟨sl, S⟩ := by
  simp [h]
theorem bent_ok {k : Nat} {lv : Int} {S : Store} {rows : List (List Int)} {w : Nat} (hb : BoxAt S k) (hR : Rect rows w) : ∃ (rows2 : List (List Int)) (W : Store), m__law_bent [.ce k, .int lv, tabD false rows] S = .ok (tabD false rows2) W ∧ Dr k S W ∧ Fair rows2 := by
  have hn := hR.n1
  have hw := hR.w1
  have it : it__law_bent_0 ⟨bE k (vI lv) (some (.val (tabD false rows))) none none none none none none none none, S⟩ = .ok ((rows.take 6).map (rowD false)) ⟨bE k (vI lv) (some (.val (tabD false rows))) none none none none none none none none, S⟩ := by
    unfold it__law_bent_0
    refine iv_ (slh_l (hi := ((6 : Nat) : Int)) (v_ (i := 2) rfl) c_ (ds := (rows.take 6).map (rowD false)) ?_) rfl
    show slF (.lst (rows.map (rowD false))) none (some ((6 : Nat) : Int)) = _
    rw [slF_l, cut_hi, List.map_take]
  have e1 := eCompM_map (b := bNm 4) (e := ce__law_bent_1) (vs := [4]) (g := id) it (by rw [List.length_map, List.length_take]; omega) (fun d hd => by
    obtain ⟨q, mq, rfl⟩ := List.mem_map.mp hd
    refine ⟨⟨bE k (vI lv) (some (.val (tabD false rows))) none (some (.val (rowD false q))) none none none none none none, S⟩, rfl, _, cf_l (v_ rfl) rfl, rfl⟩)
  rw [List.map_id] at e1
  have s1 := set_ (i := 3) e1 rfl
  have c1 : Cel S k (S ++ [some (.lst ((rows.take 6).map (rowD false)))]) S.length (rows.take 6) := ⟨(Bx.refl hb).push _, Nat.le_refl _, last_get rfl, by rw [List.length_take]; omega, fun q m => by rw [hR.len q (List.mem_of_mem_take m)]; omega⟩
  obtain ⟨zi, W1, q1, d1, i0, i1⟩ := draw_dr (many := ((rows.take 6).length : Nat)) c1.bx.box (by rw [List.length_take]; omega) (by rw [List.length_take]; omega)
  have l1 := len_cell c1.at_
  rw [List.length_map] at l1
  have s2 := set_ (i := 5) (fn2_ (m := m__law_draw) (v_ (i := 0) (sl := bE k (vI lv) (some (.val (tabD false rows))) (vC S.length) none none none none none none none) (S := S ++ [some (.lst ((rows.take 6).map (rowD false)))]) rfl) (ln_ (v_ (i := 3) rfl) l1) q1) rfl
  have c2 := c1.dr d1
  obtain ⟨i, rfl⟩ := Int.eq_ofNat_of_zero_le i0
  have hi : i < (rows.take 6).length := by omega
  have hg : ((rows.take 6).map (rowD false))[i]? = some (rowD false ((rows.take 6)[i]'hi)) := by
    rw [List.getElem?_map, List.getElem?_eq_getElem hi]
    rfl
  have hrl : ((rows.take 6)[i]'hi).length = w := hR.len _ (List.mem_of_mem_take (List.getElem_mem hi))
  generalize ((rows.take 6)[i]'hi) = row at hg hrl
  have s3 := set_ (i := 4) (ix_ (v_ (i := 3) (sl := bE k (vI lv) (some (.val (tabD false rows))) (vC S.length) none (vI (i : Nat)) none none none none none) (S := W1) rfl) (v_ (i := 5) rfl) (ixc_ c2.at_ hg)) rfl
  obtain ⟨zj, W2, q2, d2, j0, j1⟩ := draw_dr (many := (row.length : Nat) + 1) c2.bx.box (by omega) (by omega)
  have s4 := set_ (i := 6) (fn2_ (m := m__law_draw) (v_ (i := 0) (sl := bE k (vI lv) (some (.val (tabD false rows))) (vC S.length) (some (.val (rowD false row))) (vI (i : Nat)) none none none none none) (S := W1) rfl) (bf_ (mm := false) (op := addF) (ln_ (v_ (i := 4) rfl) row_len1) (c_ (d := .int 1)) rfl) q2) rfl
  obtain ⟨j, rfl⟩ := Int.eq_ofNat_of_zero_le j0
  have c3 := c2.dr d2
  obtain ⟨z, W3, q3, d3, _, _⟩ := draw_ev (many := 6) (sl := bE k (vI lv) (some (.val (tabD false rows))) (vC S.length) (some (.val (rowD false row))) (vI (i : Nat)) (vI (j : Nat)) none none none none) c3.bx.box (by decide) (by decide) rfl
  have s5 := set_ (i := 7) q3 rfl
  have c4 := c3.dr d3
  obtain ⟨zo, W4, q4, d4, o0, o1⟩ := draw_ev (many := 5) (sl := bE k (vI lv) (some (.val (tabD false rows))) (vC S.length) (some (.val (rowD false row))) (vI (i : Nat)) (vI (j : Nat)) (vI z) none none none) c4.bx.box (by decide) (by decide) rfl
  obtain ⟨dd, md, ed⟩ := at_list (l := [-1, lv, lv + 1, -E60, E60].map D.int) (z := zo) (S := W4) o0 o1
  obtain ⟨odd, _, rfl⟩ := List.mem_map.mp md
  have s6 := set_ (i := 8) (ix_ (neg_list rfl) q4 ed) rfl
  have c5 := c4.dr d4
  obtain ⟨r1, V1, k1, h1, t1⟩ := if0 (x1 := vI lv) (x2 := some (.val (tabD false rows))) (x9 := none) (xa := none) (row := row) (j := j) (z := z) (odd := odd) (by omega) c5 hi
  obtain ⟨r2, V2, k2, h2, t2⟩ := if1 (x1 := vI lv) (x2 := some (.val (tabD false rows))) (x9 := none) (xa := none) (row := row) (j := j) (z := z) (odd := odd) (by omega) k1 h1
  obtain ⟨r3, V3, k3, h3, t3⟩ := if2 (x1 := vI lv) (x2 := some (.val (tabD false rows))) (x9 := none) (xa := none) (row := row) (j := j) (z := z) (odd := odd) (by omega) k2 h2
  obtain ⟨p4, r4, V4, k4, t4⟩ := if4 (x1 := vI lv) (x2 := some (.val (tabD false rows))) (xa := none) (row := row) (i := i) (j := j) (z := z) (odd := odd) (by omega) k3
  obtain ⟨p5, r5, V5, k5, t5⟩ := if5 (x1 := vI lv) (x2 := some (.val (tabD false rows))) (x9 := none) (row := row) (i := i) (j := j) (z := z) (odd := odd) k4
  have f := fr_c (i := 3) (sl := bE k (vI lv) (some (.val (tabD false rows))) (vC p5) (some (.val (rowD false row))) (vI (i : Nat)) (vI (j : Nat)) (vI z) (vI odd) none none) (S := V5) rfl k5.at_ rfl
  have s7 := ret_ (v_ (i := 3) (sl := bE k (vI lv) (some (.val (tabD false rows))) (some (.val (tabD false r5))) (some (.val (rowD false row))) (vI (i : Nat)) (vI (j : Nat)) (vI z) (vI odd) none none) (S := V5.set p5 none) rfl)
  have h : runS b__law_bent 11 [.ce k, .int lv, tabD false rows] S = .ok (tabD false r5) (V5.set p5 none) := by
    show endR (b__law_bent ⟨bE k (vI lv) (some (.val (tabD false rows))) none none none none none none none none, S⟩) = _
    unfold b__law_bent
    rw [sq_ s1 (sq_ s2 (sq_ s3 (sq_ s4 (sq_ s5 (sq_ s6 (sq_ t1 (sq_ t2 (sq_ t3 (sq_ t4 (sq_ t5 (sq_ f s7)))))))))))]
    rfl
  obtain ⟨W, e7, d7⟩ := (k5.bx.put none k5.hi).fin h tab_cl
  exact ⟨r5, W, e7, d7, k5.fair⟩
abbrev lE (x0 x1 x2 x3 x4 x5 x6 x7 x8 x9 xa xb xc xd xe xf xg xh : Option Sl) : List (Option Sl) := [x0, x1, x2, x3, x4, x5, x6, x7, x8, x9, xa, xb, xc, xd, xe, xf, xg, xh]
theorem drawn_comp {k : Nat} {m : Int} (h0 : 0 < m) (h1 : m < 1000) {x0 x2 x3 x4 x5 x6 x8 x9 xa xc xd xe xf xg xh : Option Sl} {T : Store} : ∀ (ds acc : List D) (B : Store) (xb : Option Sl), BoxAt B k → ∃ (zs : List Int) (B' : Store) (yb : Option Sl),
    compL (bNm 11) (eC (.bl true)) ce_law_1 [11] ds acc ⟨lE x0 (vC k) x2 x3 x4 x5 x6 (vI m) x8 x9 xa xb xc xd xe xf xg xh, B ++ T⟩
      = .ok (.lst (acc ++ zs.map D.int)) ⟨lE x0 (vC k) x2 x3 x4 x5 x6 (vI m) x8 x9 xa yb xc xd xe xf xg xh, B' ++ T⟩ ∧ Dr k B B' ∧ zs.length = ds.length
  | [], acc, B, xb, hb => ⟨[], B, xb, by simp, Dr.refl hb, rfl⟩
  | d :: ds, acc, B, xb, hb => by
    obtain ⟨z, B1, e, d1, _, _⟩ := draw_app (T := T) (many := m) hb h0 (by omega)
    have e1 : ce_law_1 ⟨lE x0 (vC k) x2 x3 x4 x5 x6 (vI m) x8 x9 xa (some (.val d)) xc xd xe xf xg xh, B ++ T⟩ = .ok (.int z) ⟨lE x0 (vC k) x2 x3 x4 x5 x6 (vI m) x8 x9 xa (some (.val d)) xc xd xe xf xg xh, B1 ++ T⟩ := fn2_ (v_ rfl) (v_ rfl) e
    obtain ⟨zs, B2, yb, e2, d2, l2⟩ := drawn_comp h0 h1 (x0 := x0) (x2 := x2) (x3 := x3) (x4 := x4) (x5 := x5) (x6 := x6) (x8 := x8) (x9 := x9) (xa := xa) (xc := xc) (xd := xd) (xe := xe) (xf := xf) (xg := xg) (xh := xh) (T := T) ds (acc ++ [.int z]) B1 (some (.val d)) d1.box
    refine ⟨z :: zs, B2, yb, ?_, d1.trans d2, by rw [List.length_cons, List.length_cons, l2]⟩
    rw [compL_cs]
    show kC0 _ _ _ _ _ _ (some ⟨lE x0 (vC k) x2 x3 x4 x5 x6 (vI m) x8 x9 xa (some (.val d)) xc xd xe xf xg xh, B ++ T⟩) = _
    rw [kC0_s, eC_ap, kC1_ok, truth_b, kC2_t, e1, kC3_ok, e2, List.map_cons, List.append_assoc]
    rfl
theorem drawn_loop {k p : Nat} {m : Int} {n : Nat} (h0 : 0 < m) (h1 : m < 1000) (hn : n ≤ 1000) {x0 x2 x3 x4 x5 x6 xc xd xe xf xg xh : Option Sl} : ∀ (ds : List D) (B : Store) (rows : List (List Int)) (xa : Option Sl), BoxAt B k → B.length = p → rows.length + ds.length ≤ 1000 → (∀ r ∈ rows, r.length = n) → ∃ (rows' : List (List Int)) (B' : Store) (ya : Option Sl),
    loopS (bNm 10) g_law_3 ds ⟨lE x0 (vC k) x2 x3 x4 x5 x6 (vI m) (vI (n : Nat)) (vC p) xa none xc xd xe xf xg xh, B ++ [some (.lst (rows.map (rowD false)))]⟩
      = .nx ⟨lE x0 (vC k) x2 x3 x4 x5 x6 (vI m) (vI (n : Nat)) (vC p) ya none xc xd xe xf xg xh, B' ++ [some (.lst (rows'.map (rowD false)))]⟩ ∧ Dr k B B' ∧ rows'.length = rows.length + ds.length ∧ (∀ r ∈ rows', r.length = n)
  | [], B, rows, xa, hb, _, _, hr => ⟨rows, B, xa, rfl, Dr.refl hb, rfl, hr⟩
  | d :: ds, B, rows, xa, hb, hp, hl, hr => by
    rw [List.length_cons] at hl
    have it : it_law_0 ⟨lE x0 (vC k) x2 x3 x4 x5 x6 (vI m) (vI (n : Nat)) (vC p) (some (.val d)) none xc xd xe xf xg xh, B ++ [some (.lst (rows.map (rowD false)))]⟩ = .ok ((List.range n).map fun j => D.int (j : Nat)) ⟨lE x0 (vC k) x2 x3 x4 x5 x6 (vI m) (vI (n : Nat)) (vC p) (some (.val d)) none xc xd xe xf xg xh, B ++ [some (.lst (rows.map (rowD false)))]⟩ := by
      unfold it_law_0
      exact ir1_ (by omega) (v_ rfl)
    obtain ⟨zs, B1, yb, e1, d1, l1⟩ := drawn_comp h0 h1 (x0 := x0) (x2 := x2) (x3 := x3) (x4 := x4) (x5 := x5) (x6 := x6) (x8 := vI (n : Nat)) (x9 := vC p) (xa := some (.val d)) (xc := xc) (xd := xd) (xe := xe) (xf := xf) (xg := xg) (xh := xh) (T := [some (.lst (rows.map (rowD false)))]) ((List.range n).map fun j => D.int (j : Nat)) [] B none hb
    rw [List.length_map, List.length_range] at l1
    have c : eComp it_law_0 (bNm 11) (eC (.bl true)) ce_law_1 [11] ⟨lE x0 (vC k) x2 x3 x4 x5 x6 (vI m) (vI (n : Nat)) (vC p) (some (.val d)) none xc xd xe xf xg xh, B ++ [some (.lst (rows.map (rowD false)))]⟩
        = .ok (rowD false zs) ⟨lE x0 (vC k) x2 x3 x4 x5 x6 (vI m) (vI (n : Nat)) (vC p) (some (.val d)) none xc xd xe xf xg xh, B1 ++ [some (.lst (rows.map (rowD false)))]⟩ := by
      rw [eComp_ap, it, kCo_ok, if_pos (by rw [List.length_map, List.length_range]; omega), e1]
      rfl
    have p1 : B1.length = p := d1.len.trans hp
    have e2 := mu1_ (F := appF) (f := eVar 9) (v_ rfl) (la_ (last_get hp)) c (la_ (last_get p1)) (app_ok (by rw [List.length_map]; omega))
    rw [last_set p1] at e2
    have hh : rows.map (rowD false) ++ [rowD false zs] = (rows ++ [zs]).map (rowD false) := by rw [List.map_append]; rfl
    rw [hh] at e2
    obtain ⟨rows', B', ya, e3, d3, l3, r3⟩ := drawn_loop h0 h1 hn (x0 := x0) (x2 := x2) (x3 := x3) (x4 := x4) (x5 := x5) (x6 := x6) (xc := xc) (xd := xd) (xe := xe) (xf := xf) (xg := xg) (xh := xh) ds B1 (rows ++ [zs]) (some (.val d)) d1.box p1 (by rw [List.length_append, List.length_singleton]; omega) (fun r m => by
      rcases List.mem_append.mp m with m | m
      · exact hr r m
      · rw [List.mem_singleton.mp m]; exact l1)
    refine ⟨rows', B', ya, lp_ rfl (ex_ e2) e3, d1.trans d3, by rw [l3, List.length_append, List.length_singleton, List.length_cons]; omega, r3⟩
end K53

/-! The law: the parts behind the draws. -/
namespace K53
open PySem MB
theorem draw_i {sl : List (Option Sl)} {B : Store} {k i : Nat} {many : Int} (hb : BoxAt B k) (h0 : 0 < many) (hd : many < 1073741824) (hs : sl[i]? = some (some (.val (.ce k)))) : ∃ z B', eFn m__law_draw [(eVar i), (eC (.int many))] ⟨sl, B⟩ = .ok (.int z) ⟨sl, B'⟩ ∧ Dr k B B' ∧ 0 ≤ z ∧ z < many := by
  obtain ⟨z, B', e, d, z0, z1⟩ := draw_dr hb h0 hd
  exact ⟨z, B', fn2_ (v_ hs) c_ e, d, z0, z1⟩
/-- the law asks: a table of ints is told right -/
theorem ask_ {f g h : EX} {sl : List (Option Sl)} {W : Store} {lv : Int} {rows : List (List Int)} {t : Bool} (h1 : f ⟨sl, W⟩ = .ok (.int lv) ⟨sl, W⟩) (h2 : g ⟨sl, W⟩ = .ok (tabD false rows) ⟨sl, W⟩) (h3 : h ⟨sl, W⟩ = .ok (.bl t) ⟨sl, W⟩) (hf : Fair rows) : eNot (eFn m__law_asked [f, g, h]) ⟨sl, W⟩ = .ok (.bl false) ⟨sl, W⟩ :=
  not_ (t := true) (fn3_ h1 h2 h3 (asked_ok hf)) rfl
theorem or_ff {f g : EX} {sl : List (Option Sl)} {W W1 W2 : Store} (h1 : f ⟨sl, W⟩ = .ok (.bl false) ⟨sl, W1⟩) (h2 : g ⟨sl, W1⟩ = .ok (.bl false) ⟨sl, W2⟩) {u : SX} : sIf (eOr f g) u sNil ⟨sl, W⟩ = .nx ⟨sl, W2⟩ :=
  (if_f ((or_f h1 rfl).trans h2) rfl).trans nil_
theorem ask_loop {lv : Int} {t : Bool} {W : Store} {x0 x1 x3 x5 x6 x7 x8 x9 xa xb xd xe xf xg xh : Option Sl} : ∀ (tabs : List (List (List Int))) (xc : Option Sl), (∀ r ∈ tabs, Fair r) → ∃ yc,
    loopS (bNm 12) g_law_7 (tabs.map (tabD false)) ⟨lE x0 x1 (vI lv) x3 (some (.val (.bl t))) x5 x6 x7 x8 x9 xa xb xc xd xe xf xg xh, W⟩ = .nx ⟨lE x0 x1 (vI lv) x3 (some (.val (.bl t))) x5 x6 x7 x8 x9 xa xb yc xd xe xf xg xh, W⟩
  | [], xc, _ => ⟨xc, rfl⟩
  | r :: rs, xc, h => by
    obtain ⟨yc, e⟩ := ask_loop (lv := lv) (t := t) (W := W) (x0 := x0) (x1 := x1) (x3 := x3) (x5 := x5) (x6 := x6) (x7 := x7) (x8 := x8) (x9 := x9) (xa := xa) (xb := xb) (xd := xd) (xe := xe) (xf := xf) (xg := xg) (xh := xh) rs (some (.val (tabD false r))) fun q m => h q (List.mem_cons_of_mem _ m)
    refine ⟨yc, lp_ (ρ1 := ⟨lE x0 x1 (vI lv) x3 (some (.val (.bl t))) x5 x6 x7 x8 x9 xa xb (some (.val (tabD false r))) xd xe xf xg xh, W⟩) rfl ?_ e⟩
    unfold g_law_7
    exact (if_f (ask_ (v_ (i := 2) rfl) (v_ (i := 12) rfl) (v_ (i := 4) rfl) (h r List.mem_cons_self)) rfl).trans nil_
def heads (rows : List (List Int)) : List (List Int) := rows.map (·.take 1)
theorem head_comp {rows : List (List Int)} (hf : Fair rows) {x0 x1 x2 x3 x4 x6 x7 x8 x9 xa xb xc xe xf xg xh : Option Sl} {W : Store} :
    eComp it_law_4 (bNm 13) (eC (.bl true)) ce_law_5 [13] ⟨lE x0 x1 x2 x3 x4 (some (.val (tabD false rows))) x6 x7 x8 x9 xa xb xc none xe xf xg xh, W⟩ = .ok (tabD false (heads rows)) ⟨lE x0 x1 x2 x3 x4 (some (.val (tabD false rows))) x6 x7 x8 x9 xa xb xc none xe xf xg xh, W⟩ := by
  have it : it_law_4 ⟨lE x0 x1 x2 x3 x4 (some (.val (tabD false rows))) x6 x7 x8 x9 xa xb xc none xe xf xg xh, W⟩ = .ok (rows.map (rowD false)) ⟨lE x0 x1 x2 x3 x4 (some (.val (tabD false rows))) x6 x7 x8 x9 xa xb xc none xe xf xg xh, W⟩ := by
    unfold it_law_4
    exact iv_ (v_ (i := 5) rfl) rfl
  have hl := hf.1
  refine (eComp_map (g := fun d => match d with | .lst l => .lst (l.take 1) | d => d) it (by rw [List.length_map]; omega) (fun d hd => ?_)).trans ?_
  · obtain ⟨r, mr, rfl⟩ := List.mem_map.mp hd
    refine ⟨⟨lE x0 x1 x2 x3 x4 (some (.val (tabD false rows))) x6 x7 x8 x9 xa xb xc (some (.val (rowD false r))) xe xf xg xh, W⟩, rfl, _, slh_l (hi := ((1 : Nat) : Int)) (v_ (i := 13) rfl) c_ (ds := (r.map D.int).take 1) ?_, rfl⟩
    show slF (.lst (r.map D.int)) none (some ((1 : Nat) : Int)) = _
    rw [slF_l, cut_hi]
  · have e : (rows.map (rowD false)).map (fun d => match d with | .lst l => D.lst (l.take 1) | d => d) = (heads rows).map (rowD false) := by
      unfold heads
      rw [List.map_map, List.map_map]
      refine List.map_congr_left fun r _ => ?_
      show D.lst ((r.map D.int).take 1) = D.lst ((r.take 1).map D.int)
      rw [List.map_take]
    rw [e]
    rfl
theorem heads_fair {rows : List (List Int)} (hf : Fair rows) : Fair (heads rows) := ⟨by unfold heads; rw [List.length_map]; exact hf.1, fun r m => by
  obtain ⟨q, _, rfl⟩ := List.mem_map.mp m
  rw [List.length_take]
  omega⟩
theorem five_tabs {r3 r5 r6 : List (List Int)} (hf : Fair r5) {x0 x1 x2 x4 x7 x8 x9 xa xb xc xe xf xg xh : Option Sl} {W : Store} :
    it_law_6 ⟨lE x0 x1 x2 (some (.val (tabD false r3))) x4 (some (.val (tabD false r5))) (some (.val (tabD false r6))) x7 x8 x9 xa xb xc none xe xf xg xh, W⟩ = .ok ([r3, r5, r6, r3, heads r5].map (tabD false)) ⟨lE x0 x1 x2 (some (.val (tabD false r3))) x4 (some (.val (tabD false r5))) (some (.val (tabD false r6))) x7 x8 x9 xa xb xc none xe xf xg xh, W⟩ := by
  have c := head_comp hf (x0 := x0) (x1 := x1) (x2 := x2) (x3 := some (.val (tabD false r3))) (x4 := x4) (x6 := some (.val (tabD false r6))) (x7 := x7) (x8 := x8) (x9 := x9) (xa := xa) (xb := xb) (xc := xc) (xe := xe) (xf := xf) (xg := xg) (xh := xh) (W := W)
  unfold it_law_6
  refine iv_ (d := .lst ([r3, r5, r6, r3, heads r5].map (tabD false))) (sl1 := lE x0 x1 x2 (some (.val (tabD false r3))) x4 (some (.val (tabD false r5))) (some (.val (tabD false r6))) x7 x8 x9 xa xb xc none xe xf xg xh) (S1 := W) ?_ rfl
  rw [eLst_ap, evl_cons, v_ (i := 3) (d := tabD false r3) rfl, kA_ok, evl_cons, v_ (i := 5) (d := tabD false r5) rfl, kA_ok, evl_cons, v_ (i := 6) (d := tabD false r6) rfl, kA_ok, evl_cons, v_ (i := 3) (d := tabD false r3) rfl, kA_ok, evl_cons, c, kA_ok, evl_nil, kLst_ok, if_pos (by simp)]
  rfl
/-! the numbers asked of least_rows -/
def Small (c : Int) : Prop := -(2 ^ 63) ≤ c ∧ c ≤ 2 ^ 63
theorem mul_any {c l : Int} (hc : c = -E60 ∨ Small c) (hl : l = E60 ∨ Small l) : mulOk c (l - 1) = true := by
  unfold Small at hc hl
  rcases hc with rfl | hc
  · rcases hl with rfl | hl
    · decide +kernel
    · unfold mulOk
      simp only [Bool.or_eq_true, decide_eq_true_eq]
      left; right
      omega
  · unfold mulOk
    simp only [Bool.or_eq_true, decide_eq_true_eq]
    left; left
    omega
theorem least_ask {f g : EX} {sl : List (Option Sl)} {W W1 W2 : Store} {c l : Int} (h1 : f ⟨sl, W⟩ = .ok (.int c) ⟨sl, W1⟩) (h2 : g ⟨sl, W1⟩ = .ok (.int l) ⟨sl, W2⟩) (hc : c = -E60 ∨ Small c) (hl : l = E60 ∨ Small l) : eFn m__law_least [f, g] ⟨sl, W⟩ = .ok (.bl true) ⟨sl, W2⟩ :=
  fn2_ h1 h2 (least_true (mul_any hc hl))
theorem cols_list {k : Nat} {W : Store} (hb : BoxAt W k) {sl : List (Option Sl)} (hs : sl[1]? = some (some (.val (.ce k)))) : ∃ (c : Int) (W' : Store), (c = -E60 ∨ Small c) ∧ Dr k W W' ∧
    eIxS (eLst [(eC (.int 1)), (eC (.int 1000)), (eC (.int 0)), (eC (.int 1001)), (e1 negD (eB powM (eC (.int 10)) (eC (.int 60)))), (eBF false addF (eC (.int 1)) (eFn m__law_draw [(eVar 1), (eC (.int 1000))]))]) (eFn m__law_draw [(eVar 1), (eC (.int 6))]) ⟨sl, W⟩ = .ok (.int c) ⟨sl, W'⟩ := by
  obtain ⟨z, B1, e1', d1, z0, z1⟩ := draw_i (many := 1000) hb (by decide) (by decide) hs
  obtain ⟨y, B2, e2, d2, y0, y1⟩ := draw_i (many := 6) d1.box (by decide) (by decide) hs
  have el : eLst [(eC (.int 1)), (eC (.int 1000)), (eC (.int 0)), (eC (.int 1001)), (e1 negD (eB powM (eC (.int 10)) (eC (.int 60)))), (eBF false addF (eC (.int 1)) (eFn m__law_draw [(eVar 1), (eC (.int 1000))]))] ⟨sl, W⟩ = .ok (.lst ([1, 1000, 0, 1001, -E60, 1 + z].map D.int)) ⟨sl, B1⟩ := by
    have e3 := bf_ (mm := false) (op := addF) (c_ (d := .int 1)) e1' (z := .int (1 + z)) rfl
    rw [eLst_ap]
    simp only [evl_cons, evl_nil, c_, kA_ok, List.nil_append, e1_ap, eB_ap, kB1_ok, kB2_ok, pw60, kO_some, kE1_ok, negD_i, e3]
    rw [kLst_ok, if_pos (by simp)]
    rfl
  obtain ⟨dd, md, ed⟩ := at_list (l := [1, 1000, 0, 1001, -E60, 1 + z].map D.int) (z := y) (S := B2) y0 y1
  obtain ⟨c, mc, rfl⟩ := List.mem_map.mp md
  refine ⟨c, B2, ?_, d1.trans d2, ix_ el e2 ed⟩
  unfold Small
  simp only [List.mem_cons, List.not_mem_nil, or_false] at mc
  rcases mc with rfl | rfl | rfl | rfl | rfl | rfl
  · right; omega
  · right; omega
  · right; omega
  · right; omega
  · left; rfl
  · right; omega
theorem levels_list {k : Nat} {W : Store} (hb : BoxAt W k) {sl : List (Option Sl)} (hs : sl[1]? = some (some (.val (.ce k)))) : ∃ (c : Int) (W' : Store), (c = E60 ∨ Small c) ∧ Dr k W W' ∧
    eIxS (eLst [(eC (.int 2)), (eC (.int 1000)), (eC (.int 1)), (eC (.int 1001)), (eB powM (eC (.int 10)) (eC (.int 60))), (eBF false addF (eC (.int 2)) (eFn m__law_draw [(eVar 1), (eC (.int 999))]))]) (eFn m__law_draw [(eVar 1), (eC (.int 6))]) ⟨sl, W⟩ = .ok (.int c) ⟨sl, W'⟩ := by
  obtain ⟨z, B1, e1', d1, z0, z1⟩ := draw_i (many := 999) hb (by decide) (by decide) hs
  obtain ⟨y, B2, e2, d2, y0, y1⟩ := draw_i (many := 6) d1.box (by decide) (by decide) hs
  have el : eLst [(eC (.int 2)), (eC (.int 1000)), (eC (.int 1)), (eC (.int 1001)), (eB powM (eC (.int 10)) (eC (.int 60))), (eBF false addF (eC (.int 2)) (eFn m__law_draw [(eVar 1), (eC (.int 999))]))] ⟨sl, W⟩ = .ok (.lst ([2, 1000, 1, 1001, E60, 2 + z].map D.int)) ⟨sl, B1⟩ := by
    have e3 := bf_ (mm := false) (op := addF) (c_ (d := .int 2)) e1' (z := .int (2 + z)) rfl
    rw [eLst_ap]
    simp only [evl_cons, evl_nil, c_, kA_ok, List.nil_append, eB_ap, kB1_ok, kB2_ok, pw60, kO_some, e3]
    rw [kLst_ok, if_pos (by simp)]
    rfl
  obtain ⟨dd, md, ed⟩ := at_list (l := [2, 1000, 1, 1001, E60, 2 + z].map D.int) (z := y) (S := B2) y0 y1
  obtain ⟨c, mc, rfl⟩ := List.mem_map.mp md
  refine ⟨c, B2, ?_, d1.trans d2, ix_ el e2 ed⟩
  unfold Small
  simp only [List.mem_cons, List.not_mem_nil, or_false] at mc
  rcases mc with rfl | rfl | rfl | rfl | rfl | rfl
  · right; omega
  · right; omega
  · right; omega
  · right; omega
  · left; rfl
  · right; omega
theorem five_ints {sl : List (Option Sl)} {S : Store} : eLst [(eC (.int 1)), (eC (.int 21)), (eC (.int 0)), (e1 negD (eB powM (eC (.int 10)) (eC (.int 60)))), (eB powM (eC (.int 10)) (eC (.int 60)))] ⟨sl, S⟩ = .ok (.lst ([1, 21, 0, -E60, E60].map D.int)) ⟨sl, S⟩ := by
  simp
theorem two_rows {sl : List (Option Sl)} {S : Store} : eLst [(eLst [(eC (.int 19)), (eC (.int 0))]), (eLst [(eC (.int 0)), (eC (.int 19))])] ⟨sl, S⟩ = .ok (tabD false [[19, 0], [0, 19]]) ⟨sl, S⟩ := by
  simp [tabD, rowD, seqD]
theorem ones {sl : List (Option Sl)} {S : Store} : eBF false mulF (eLst [(eC (.int 1))]) (eC (.int 30)) ⟨sl, S⟩ = .ok (rowD false (List.replicate 30 1)) ⟨sl, S⟩ := by
  simp [rowD, seqD]
theorem two_ones {sl : List (Option Sl)} {S : Store} : eLst [(eBF false mulF (eLst [(eC (.int 1))]) (eC (.int 30))), (eBF false mulF (eLst [(eC (.int 1))]) (eC (.int 30)))] ⟨sl, S⟩ = .ok (tabD false [List.replicate 30 1, List.replicate 30 1]) ⟨sl, S⟩ := l2_ ones ones
end K53

/-! The law, whole. -/
namespace K53
open PySem MB
theorem plain (ns : List Int) (h : ns.length ≤ 63) : ∃ W, m_law [.scr ns] [] = .ok (.bl true) W := by
  obtain ⟨cs, e1, bx⟩ := pool_spec (S := []) h
  have hb1 : BoxAt [some (.lst cs)] 0 := ⟨cs, rfl, bx⟩
  have s1 := set_ (i := 1) (fn1_ (m := m__law_pool) (v_ (i := 0) (sl := lE (some (.val (.scr ns))) none none none none none none none none none none none none none none none none none) (S := []) rfl) e1) rfl
  -- the good table
  obtain ⟨lv, rows, w, B2, e2, d2, g⟩ := good_ok hb1
  have hlv := g.tab.lvs
  have R := g.tab.rect
  have hn := R.n1
  have hw := R.w1
  have s2 := un_ (bb := bTp [bNm 2, bNm 3]) (fn1_ (m := m__law_good) (v_ (i := 1) (sl := lE (some (.val (.scr ns))) (vC 0) none none none none none none none none none none none none none none none none) (S := [some (.lst cs)]) rfl) e2) rfl
  have b2 := d2.box
  -- tuples
  obtain ⟨z3, B3, q3, d3, _, _⟩ := draw_i (i := 1) (many := 2) (sl := lE (some (.val (.scr ns))) (vC 0) (vI (lv : Nat)) (some (.val (tabD false rows))) none none none none none none none none none none none none none none) b2 (by decide) (by decide) rfl
  have s3 := set_ (i := 4) (b_ (op := eqD) q3 (c_ (d := .int 1)) eqD_i) rfl
  generalize decide (z3 = 1) = t at s3
  -- changed, twice
  obtain ⟨r5, B5, e5, d5, R5⟩ := changed_ok (lv := (lv : Nat)) d3.box R (by omega)
  have s5 := set_ (i := 5) (fn3_ (m := m__law_changed) (v_ (i := 1) (sl := lE (some (.val (.scr ns))) (vC 0) (vI (lv : Nat)) (some (.val (tabD false rows))) (some (.val (.bl t))) none none none none none none none none none none none none none) (S := B3) rfl) (v_ (i := 2) rfl) (v_ (i := 3) rfl) e5) rfl
  obtain ⟨r6, B6, e6, d6, R6⟩ := changed_ok (lv := (lv : Nat)) d5.box R5 (by omega)
  have s6 := set_ (i := 6) (fn3_ (m := m__law_changed) (v_ (i := 1) (sl := lE (some (.val (.scr ns))) (vC 0) (vI (lv : Nat)) (some (.val (tabD false rows))) (some (.val (.bl t))) (some (.val (tabD false r5))) none none none none none none none none none none none none) (S := B5) rfl) (v_ (i := 2) rfl) (v_ (i := 5) rfl) e6) rfl
  -- small, wide
  obtain ⟨z7, B7, q7, d7, z70, z71⟩ := draw_i (i := 1) (many := 3) (sl := lE (some (.val (.scr ns))) (vC 0) (vI (lv : Nat)) (some (.val (tabD false rows))) (some (.val (.bl t))) (some (.val (tabD false r5))) (some (.val (tabD false r6))) none none none none none none none none none none none) d6.box (by decide) (by decide) rfl
  have s7 := set_ (i := 7) (bf_ (mm := false) (op := addF) (c_ (d := .int 2)) q7 (z := .int (2 + z7)) rfl) rfl
  obtain ⟨z8, B8, q8, d8, z80, z81⟩ := draw_i (i := 1) (many := 4) (sl := lE (some (.val (.scr ns))) (vC 0) (vI (lv : Nat)) (some (.val (tabD false rows))) (some (.val (.bl t))) (some (.val (tabD false r5))) (some (.val (tabD false r6))) (vI (2 + z7)) none none none none none none none none none none) d7.box (by decide) (by decide) rfl
  obtain ⟨n8, rfl⟩ := Int.eq_ofNat_of_zero_le z80
  have s8 := set_ (i := 8) (bf_ (mm := false) (op := addF) (c_ (d := .int 1)) q8 (z := .int ((1 + n8 : Nat) : Int)) (by rw [show ((1 + n8 : Nat) : Int) = 1 + (n8 : Int) by omega]; rfl)) rfl
  -- drawn
  have s9 := set_ (i := 9) (sl := lE (some (.val (.scr ns))) (vC 0) (vI (lv : Nat)) (some (.val (tabD false rows))) (some (.val (.bl t))) (some (.val (tabD false r5))) (some (.val (tabD false r6))) (vI (2 + z7)) (vI ((1 + n8 : Nat) : Int)) none none none none none none none none none) (S := B8) lm0_ rfl
  obtain ⟨za, Ba, qa, da, za0, za1⟩ := draw_app (T := [some (.lst [])]) (many := 9) d8.box (by decide) (by decide)
  obtain ⟨na, rfl⟩ := Int.eq_ofNat_of_zero_le za0
  have ita : it_law_2 ⟨lE (some (.val (.scr ns))) (vC 0) (vI (lv : Nat)) (some (.val (tabD false rows))) (some (.val (.bl t))) (some (.val (tabD false r5))) (some (.val (tabD false r6))) (vI (2 + z7)) (vI ((1 + n8 : Nat) : Int)) (vC B8.length) none none none none none none none none, B8 ++ [some (.lst [])]⟩
      = .ok ((List.range (1 + na)).map fun j => D.int (j : Nat)) ⟨lE (some (.val (.scr ns))) (vC 0) (vI (lv : Nat)) (some (.val (tabD false rows))) (some (.val (.bl t))) (some (.val (tabD false r5))) (some (.val (tabD false r6))) (vI (2 + z7)) (vI ((1 + n8 : Nat) : Int)) (vC B8.length) none none none none none none none none, Ba ++ [some (.lst [])]⟩ := by
    unfold it_law_2
    refine ir1_ (by omega) (bf_ (mm := false) (op := addF) (c_ (d := .int 1)) (fn2_ (m := m__law_draw) (v_ (i := 1) rfl) (c_ (d := .int 9)) qa) ?_)
    show some (Oc.val (.int (1 + (na : Int)))) = _
    congr 3
  have pa : Ba.length = B8.length := da.len
  obtain ⟨r9, B9, ya, e9, d9, l9, R9⟩ := drawn_loop (k := 0) (p := B8.length) (m := 2 + z7) (n := 1 + n8) (by omega) (by omega) (by omega) (x0 := some (.val (.scr ns))) (x2 := vI (lv : Nat)) (x3 := some (.val (tabD false rows))) (x4 := some (.val (.bl t))) (x5 := some (.val (tabD false r5))) (x6 := some (.val (tabD false r6))) (xc := none) (xd := none) (xe := none) (xf := none) (xg := none) (xh := none)
    ((List.range (1 + na)).map fun j => D.int (j : Nat)) Ba [] none da.box pa (by rw [List.length_map, List.length_range, List.length_nil]; omega) (fun r m => absurd m List.not_mem_nil)
  rw [List.length_map, List.length_range, List.length_nil] at l9
  have f9 : Fair r9 := ⟨by omega, fun r m => by rw [R9 r m]; omega⟩
  have s10 := for_ ita e9
  have p9 : B9.length = B8.length := d9.len.trans pa
  -- five tables
  have fR : Fair rows := R.fair
  obtain ⟨yc, e11⟩ := ask_loop (lv := (lv : Nat)) (t := t) (W := B9 ++ [some (.lst (r9.map (rowD false)))]) (x0 := some (.val (.scr ns))) (x1 := vC 0) (x3 := some (.val (tabD false rows))) (x5 := some (.val (tabD false r5))) (x6 := some (.val (tabD false r6))) (x7 := vI (2 + z7)) (x8 := vI ((1 + n8 : Nat) : Int)) (x9 := vC B8.length) (xa := ya) (xb := none) (xd := none) (xe := none) (xf := none) (xg := none) (xh := none)
    [rows, r5, r6, rows, heads r5] none (fun r m => by
      simp only [List.mem_cons, List.not_mem_nil, or_false] at m
      rcases m with rfl | rfl | rfl | rfl | rfl
      · exact fR
      · exact R5.fair
      · exact R6.fair
      · exact fR
      · exact heads_fair R5.fair)
  have s11 := for_ (five_tabs (r3 := rows) (r6 := r6) R5.fair (x0 := some (.val (.scr ns))) (x1 := vC 0) (x2 := vI (lv : Nat)) (x4 := some (.val (.bl t))) (x7 := vI (2 + z7)) (x8 := vI ((1 + n8 : Nat) : Int)) (x9 := vC B8.length) (xa := ya) (xb := none) (xc := none) (xe := none) (xf := none) (xg := none) (xh := none) (W := B9 ++ [some (.lst (r9.map (rowD false)))])) e11
  -- the fault, the bound
  have s12 : sIf (eOr (eB isntD (eFn m__law_fault [(eVar 2), (eVar 3)]) (eC .non)) (eNot (eFn m__law_bound [(eVar 2), (eVar 3)]))) (sRet (eC (.bl false))) sNil ⟨lE (some (.val (.scr ns))) (vC 0) (vI (lv : Nat)) (some (.val (tabD false rows))) (some (.val (.bl t))) (some (.val (tabD false r5))) (some (.val (tabD false r6))) (vI (2 + z7)) (vI ((1 + n8 : Nat) : Int)) (vC B8.length) ya none yc none none none none none, B9 ++ [some (.lst (r9.map (rowD false)))]⟩
      = .nx ⟨lE (some (.val (.scr ns))) (vC 0) (vI (lv : Nat)) (some (.val (tabD false rows))) (some (.val (.bl t))) (some (.val (tabD false r5))) (some (.val (tabD false r6))) (vI (2 + z7)) (vI ((1 + n8 : Nat) : Int)) (vC B8.length) ya none yc none none none none none, B9 ++ [some (.lst (r9.map (rowD false)))]⟩ :=
    or_ff (b_ (op := isntD) (fn2_ (m := m__law_fault) (v_ (i := 2) rfl) (v_ (i := 3) rfl) (fault_good g)) (c_ (d := .non)) rfl) (not_ (t := true) (fn2_ (m := m__law_bound) (v_ (i := 2) rfl) (v_ (i := 3) rfl) (bound_ok g)) rfl)
  -- bent
  have bx9 : BoxAt (B9 ++ [some (.lst (r9.map (rowD false)))]) 0 := d9.box.app
  obtain ⟨r14, B14, e14, d14, f14⟩ := bent_ok (lv := (lv : Nat)) bx9 R
  have s14 := set_ (i := 14) (fn3_ (m := m__law_bent) (v_ (i := 1) (sl := lE (some (.val (.scr ns))) (vC 0) (vI (lv : Nat)) (some (.val (tabD false rows))) (some (.val (.bl t))) (some (.val (tabD false r5))) (some (.val (tabD false r6))) (vI (2 + z7)) (vI ((1 + n8 : Nat) : Int)) (vC B8.length) ya none yc none none none none none) (S := B9 ++ [some (.lst (r9.map (rowD false)))]) rfl) (v_ (i := 2) rfl) (v_ (i := 3) rfl) e14) rfl
  have pos8 : 0 < B8.length := d8.box.lt
  have g9 : B14[B8.length]? = some (some (.lst (r9.map (rowD false)))) := (d14.out _ (by omega)).trans (last_get p9)
  have s15 := fr_c (i := 9) (sl := lE (some (.val (.scr ns))) (vC 0) (vI (lv : Nat)) (some (.val (tabD false rows))) (some (.val (.bl t))) (some (.val (tabD false r5))) (some (.val (tabD false r6))) (vI (2 + z7)) (vI ((1 + n8 : Nat) : Int)) (vC B8.length) ya none yc none (some (.val (tabD false r14))) none none none) (S := B14) rfl g9 rfl
  have bx15 : BoxAt (B14.set B8.length none) 0 := d14.box.get (List.getElem?_set_ne (by omega))
  have s16 := or_ff (sl := lE (some (.val (.scr ns))) (vC 0) (vI (lv : Nat)) (some (.val (tabD false rows))) (some (.val (.bl t))) (some (.val (tabD false r5))) (some (.val (tabD false r6))) (vI (2 + z7)) (vI ((1 + n8 : Nat) : Int)) (some (.val (tabD false r9))) ya none yc none (some (.val (tabD false r14))) none none none) (W := B14.set B8.length none) (u := sRet (eC (.bl false)))
    (ask_ (v_ (i := 7) rfl) (v_ (i := 9) rfl) (not_ (v_ (i := 4) rfl) rfl) f9) (ask_ (v_ (i := 2) rfl) (v_ (i := 14) rfl) (v_ (i := 4) rfl) f14)
  -- odd
  obtain ⟨zo, Bo, qo, dO, o0, o1⟩ := draw_i (i := 1) (many := 5) (sl := lE (some (.val (.scr ns))) (vC 0) (vI (lv : Nat)) (some (.val (tabD false rows))) (some (.val (.bl t))) (some (.val (tabD false r5))) (some (.val (tabD false r6))) (vI (2 + z7)) (vI ((1 + n8 : Nat) : Int)) (some (.val (tabD false r9))) ya none yc none (some (.val (tabD false r14))) none none none) bx15 (by decide) (by decide) rfl
  obtain ⟨dd, md, ed⟩ := at_list (l := [1, 21, 0, -E60, E60].map D.int) (z := zo) (S := Bo) o0 o1
  obtain ⟨odd, _, rfl⟩ := List.mem_map.mp md
  have s17 := set_ (i := 15) (ix_ five_ints qo ed) rfl
  have s18 := or_ff (sl := lE (some (.val (.scr ns))) (vC 0) (vI (lv : Nat)) (some (.val (tabD false rows))) (some (.val (.bl t))) (some (.val (tabD false r5))) (some (.val (tabD false r6))) (vI (2 + z7)) (vI ((1 + n8 : Nat) : Int)) (some (.val (tabD false r9))) ya none yc none (some (.val (tabD false r14))) (vI odd) none none) (W := Bo) (u := sRet (eC (.bl false)))
    (ask_ (v_ (i := 15) rfl) (v_ (i := 14) rfl) (v_ (i := 4) rfl) f14) (ask_ (c_ (d := .int 20)) two_rows (v_ (i := 4) rfl) ⟨by decide, by decide⟩)
  have s19 := or_ff (sl := lE (some (.val (.scr ns))) (vC 0) (vI (lv : Nat)) (some (.val (tabD false rows))) (some (.val (.bl t))) (some (.val (tabD false r5))) (some (.val (tabD false r6))) (vI (2 + z7)) (vI ((1 + n8 : Nat) : Int)) (some (.val (tabD false r9))) ya none yc none (some (.val (tabD false r14))) (vI odd) none none) (W := Bo) (u := sRet (eC (.bl false)))
    (ask_ (v_ (i := 2) rfl) (rows := []) l0_ (v_ (i := 4) rfl) ⟨by decide, by decide⟩) (ask_ (c_ (d := .int 2)) two_ones (v_ (i := 4) rfl) ⟨by decide, by decide⟩)
  -- columns, other
  obtain ⟨c, Bc, hc, dc, qc⟩ := cols_list dO.box (sl := lE (some (.val (.scr ns))) (vC 0) (vI (lv : Nat)) (some (.val (tabD false rows))) (some (.val (.bl t))) (some (.val (tabD false r5))) (some (.val (tabD false r6))) (vI (2 + z7)) (vI ((1 + n8 : Nat) : Int)) (some (.val (tabD false r9))) ya none yc none (some (.val (tabD false r14))) (vI odd) none none) rfl
  have s20 := set_ (i := 16) qc rfl
  obtain ⟨l, Bl, hl, dl, ql⟩ := levels_list dc.box (sl := lE (some (.val (.scr ns))) (vC 0) (vI (lv : Nat)) (some (.val (tabD false rows))) (some (.val (.bl t))) (some (.val (tabD false r5))) (some (.val (tabD false r6))) (vI (2 + z7)) (vI ((1 + n8 : Nat) : Int)) (some (.val (tabD false r9))) ya none yc none (some (.val (tabD false r14))) (vI odd) (vI c) none) rfl
  have s21 := set_ (i := 17) ql rfl
  obtain ⟨zu, Bu, qu, du, u0, u1⟩ := draw_i (i := 1) (many := 1000) (sl := lE (some (.val (.scr ns))) (vC 0) (vI (lv : Nat)) (some (.val (tabD false rows))) (some (.val (.bl t))) (some (.val (tabD false r5))) (some (.val (tabD false r6))) (vI (2 + z7)) (vI ((1 + n8 : Nat) : Int)) (some (.val (tabD false r9))) ya none yc none (some (.val (tabD false r14))) (vI odd) (vI c) (vI l)) dl.box (by decide) (by decide) rfl
  have s22 := or_ff (u := sRet (eC (.bl false))) (not_ (t := true) (least_ask (v_ (i := 16) (sl := lE (some (.val (.scr ns))) (vC 0) (vI (lv : Nat)) (some (.val (tabD false rows))) (some (.val (.bl t))) (some (.val (tabD false r5))) (some (.val (tabD false r6))) (vI (2 + z7)) (vI ((1 + n8 : Nat) : Int)) (some (.val (tabD false r9))) ya none yc none (some (.val (tabD false r14))) (vI odd) (vI c) (vI l)) (S := Bl) rfl) (v_ (i := 17) rfl) hc hl) rfl)
    (not_ (t := true) (least_ask (bf_ (mm := false) (op := addF) (c_ (d := .int 1)) qu (z := .int (1 + zu)) rfl) (v_ (i := 17) rfl) (.inr ⟨by omega, by omega⟩) hl) rfl)
  -- the last two
  obtain ⟨zv, Bv, qv, dv, v0, v1⟩ := draw_i (i := 1) (many := 999) (sl := lE (some (.val (.scr ns))) (vC 0) (vI (lv : Nat)) (some (.val (tabD false rows))) (some (.val (.bl t))) (some (.val (tabD false r5))) (some (.val (tabD false r6))) (vI (2 + z7)) (vI ((1 + n8 : Nat) : Int)) (some (.val (tabD false r9))) ya none yc none (some (.val (tabD false r14))) (vI odd) (vI c) (vI l)) du.box (by decide) (by decide) rfl
  have a1 := least_ask (v_ (i := 16) (sl := lE (some (.val (.scr ns))) (vC 0) (vI (lv : Nat)) (some (.val (tabD false rows))) (some (.val (.bl t))) (some (.val (tabD false r5))) (some (.val (tabD false r6))) (vI (2 + z7)) (vI ((1 + n8 : Nat) : Int)) (some (.val (tabD false r9))) ya none yc none (some (.val (tabD false r14))) (vI odd) (vI c) (vI l)) (S := Bu) rfl) (bf_ (mm := false) (op := addF) (c_ (d := .int 2)) qv (z := .int (2 + zv)) rfl) hc (.inr ⟨by omega, by omega⟩)
  have r0 : ixS Bv (tabD false rows) (.int ((0 : Nat) : Int)) = some (rowD false (rowAt rows 0)) := ix_tab (by omega)
  have a2 := least_ask (ln_ (ix_ (g := eC (.int 0)) (v_ (i := 3) (sl := lE (some (.val (.scr ns))) (vC 0) (vI (lv : Nat)) (some (.val (tabD false rows))) (some (.val (.bl t))) (some (.val (tabD false r5))) (some (.val (tabD false r6))) (vI (2 + z7)) (vI ((1 + n8 : Nat) : Int)) (some (.val (tabD false r9))) ya none yc none (some (.val (tabD false r14))) (vI odd) (vI c) (vI l)) (S := Bv) rfl) c_ r0) (len0 (rowAt_len R (by omega)))) (v_ (i := 2) rfl) (.inr ⟨by omega, by omega⟩) (.inr ⟨by omega, by omega⟩)
  have s23 := ret_ ((and_t a1 rfl).trans a2)
  refine ⟨Bv, ?_⟩
  show endR (b_law ⟨lE (some (.val (.scr ns))) none none none none none none none none none none none none none none none none none, []⟩) = _
  unfold b_law
  rw [sq_ s1 (sq_ s2 (sq_ s3 (sq_ s5 (sq_ s6 (sq_ s7 (sq_ s8 (sq_ s9 (sq_ s10 (sq_ s11 (sq_ s12 (sq_ s14 (sq_ (sq_ s15 s16) (sq_ s17 (sq_ s18 (sq_ s19 (sq_ s20 (sq_ s21 (sq_ s22 s23))))))))))))))))))]
  rfl
end K53

open PySem PySem.W PySem.Calls PyProof.Rows
theorem PySem.Challenge.cw_madeorbarred_k53_tables_of_strength_two_holds : PySem.Challenge.rw_madeorbarred_k53_tables_of_strength_two.Holds := by
  w_on; o_law
  refine HandSHeadRun.head_any (r := OpenLaw.row PySem.Challenge.rw_madeorbarred_k53_tables_of_strength_two) (q := view (OpenLaw.row PySem.Challenge.rw_madeorbarred_k53_tables_of_strength_two).prog [38]) (H := K53.hk) (ob := K53.ob) (M := 9000) (loose := K53.names) (d := HandSHeadRun.topDef (OpenLaw.row PySem.Challenge.rw_madeorbarred_k53_tables_of_strength_two).prog 38) (kwd := []) K53.ob_eq
    (by kernel_rfl) (fun s => by kernel_rfl) K53.run (by kernel_rfl) (by kernel_rfl) (by kernel_rfl) (by rfl) (by first | assumption | decide +kernel) (by decide +kernel) ⟨rfl, rfl, rfl, rfl, rfl, by decide +kernel⟩ ?hw ?hc
  case hw => w_witness2
  case hc =>
    refine MB.walk_mb (l := PySem.Challenge.rw_madeorbarred_k53_tables_of_strength_two) (n := 63) (k := 8) (x := "script") rfl (by decide) (by kernel_rfl) ⟨rfl, by decide, by decide⟩ ?F (fun ns h _ => K53.plain ns h)
    intro w mg fa h Y G hmg0
    obtain ⟨K, KX, c⟩ := Y
    have hmg : mg ("law" : PySem.Str) = some (.ref fa) := by
      have e : (HandSHeadRun.topDef (OpenLaw.row PySem.Challenge.rw_madeorbarred_k53_tables_of_strength_two).prog 38).name = ("law" : PySem.Str) := by kernel_rfl
      rw [← e]
      exact hmg0
    have M := K53.mg_of KX G c
    obtain ⟨fd, F⟩ := K53.law_fd c
    have e := hmg.symm.trans M.gd_law
    cases e
    have b := L2.FunD.bindsA (ps := ["script"]) F fun _ _ _ _ _ _ us hl => match us, hl with | [_], _ => rfl
    exact ⟨K, fd, KX, fun s v => b s [v] rfl, fun base _ _ => K53.all_df M c F⟩

