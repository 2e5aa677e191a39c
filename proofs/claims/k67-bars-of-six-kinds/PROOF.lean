import PyProof.Rows.All
import Wide.All
import OpenK.AllK
import Wide.FinOn
import KE.KStateDown
import HandS.ForMost
import HandS.ExcCtx
import HandS.HotCalls
import HandS.CallSlots
import HandS.IsInst
import HandS.ExcField
import HandS.ExcIs
import HandS.Wide
import HandS.TupAny
import HandS.Flow
import HandS.SortInts
import HandS.WideBits
import HandS.HeadHook1
import HandS.Defaults
import HandS.HeadHook2
import KE.KExcSuper
import KE.KSuperObj
import KE.KSuper
import HandS.ExcInit
import HandS.CallLocal
import HandS.BoundList
import PyProof.MeetsSeq
import PyProof.EqAt
import PyProof.DictKinds
import PyProof.Dict
import HandS.HeadHook4
import HandS.Ends
import HandS.EndBits
import HandS.HeadEnd
import HandS.Zip
import HandS.HeadHook3
import HandS.Deep
import HandS.Words
import HandS.Head0
import HandS.Head1
import HandS.Head2
import HandS.Head3
import Wide.Once
import PySem.Challenge.RW_madeorbarred_k67_bars_of_six_kinds
set_option Elab.async false
set_option linter.all false
set_option maxRecDepth 100000
set_option maxHeartbeats 0
/-! A layer by values: what a def's body computes, as a plain function over data trees, with rules that tie each construct to it. -/
namespace MB
open PySem PySem.Spec PyProof.Rows L2
abbrev Fg := PySem.W.Frag
abbrev St := L2.St

/-! ### data -/
inductive D where
  | non | bl (b : Bool) | int (i : Int) | str (x : Str) | tup (xs : List D) | lst (xs : List D) | fn (x : Str) | scr (ns : List Int) | dct (ks : List L2.Key) (ds : List D) | obj (C : Str) (fs : List Str) (ds : List D)

mutual
inductive DV (K : Fg) (H : Hp) : V → D → Prop
  | non : DV K H .non .non
  | bl (b : Bool) : DV K H (.bl b) (.bl b)
  | int (i : Int) : DV K H (.int i) (.int i)
  | str (x : Str) : DV K H (.str x) (.str x)
  | tup {a : Addr} {vs : List V} {ds : List D} : SqT K H a vs → DVs K H vs ds → DV K H (.ref a) (.tup ds)
  | lst {a : Addr} {vs : List V} {ds : List D} : H a = some (.lst vs) → DVs K H vs ds → DV K H (.ref a) (.lst ds)
  | fn (x : Str) : DV K H (.ref (He.ga K x)) (.fn x)
  | scr {a : Addr} {ns : List Int} : SqL K H a (ns.map V.int) → DV K H (.ref a) (.scr ns)
  | dct {a : Addr} {ks : List L2.Key} {vs : List V} {ds : List D} : H a = some (.dK (ks.zip vs)) → vs.length = ks.length → DVs K H vs ds → DV K H (.ref a) (.dct ks ds)
  | obj {a dx : Addr} {C : Str} {fs : List Str} {vs : List V} {ds : List D} : H a = some (.ins (He.ga K C) dx (fs.zip vs)) → vs.length = fs.length → DVs K H vs ds → DV K H (.ref a) (.obj C fs ds)
inductive DVs (K : Fg) (H : Hp) : List V → List D → Prop
  | nil : DVs K H [] []
  | cons {v : V} {vs : List V} {d : D} {ds : List D} : DV K H v d → DVs K H vs ds → DVs K H (v :: vs) (d :: ds)
end

theorem sqT_mono {K : Fg} {H H' : Hp} (s : Same H H') {a : Addr} {xs : List V} (h : SqT K H a xs) : SqT K H' a xs := by
  rcases h with (h | ⟨o, h⟩) | h
  · exact .inl (.inl (s _ _ h))
  · exact .inl (.inr ⟨o, s _ _ h⟩)
  · exact .inr h

section
variable {K : Fg} {H H' : Hp}
mutual
theorem DV.mono (s : Same H H') : ∀ (d : D) (v : V), DV K H v d → DV K H' v d
  | .non, _, h => by cases h; exact .non
  | .bl b, _, h => by cases h; exact .bl b
  | .int i, _, h => by cases h; exact .int i
  | .str x, _, h => by cases h; exact .str x
  | .fn x, _, h => by cases h; exact .fn x
  | .scr ns, _, h => by
    cases h with
    | scr a => exact .scr (s.seq a)
  | .tup ds, _, h => by
    cases h with
    | tup a b => exact .tup (sqT_mono s a) (DVs.mono s ds _ b)
  | .lst ds, _, h => by
    cases h with
    | lst a b => exact .lst (s _ _ a) (DVs.mono s ds _ b)
  | .dct ks ds, _, h => by
    cases h with
    | dct a e b => exact .dct (s _ _ a) e (DVs.mono s ds _ b)
  | .obj C fs ds, _, h => by
    cases h with
    | obj a e b => exact .obj (s _ _ a) e (DVs.mono s ds _ b)
theorem DVs.mono (s : Same H H') : ∀ (ds : List D) (vs : List V), DVs K H vs ds → DVs K H' vs ds
  | [], _, h => by cases h; exact .nil
  | d :: ds, _, h => by
    cases h with
    | cons a b => exact .cons (DV.mono s d _ a) (DVs.mono s ds _ b)
end
theorem DVs.length : ∀ {vs : List V} {ds : List D}, DVs K H vs ds → vs.length = ds.length
  | _, _, .nil => rfl
  | _, _, .cons _ t => by simp [DVs.length t]
theorem DVs.get : ∀ {vs : List V} {ds : List D}, DVs K H vs ds → ∀ {i : Nat} {d : D}, ds[i]? = some d → ∃ v, vs[i]? = some v ∧ DV K H v d
  | _, _, .nil, i, d, e => by simp at e
  | _, _, .cons a t, 0, d, e => by simp at e; subst e; exact ⟨_, rfl, a⟩
  | _, _, .cons a t, i + 1, d, e => by
    obtain ⟨v, h1, h2⟩ := DVs.get t (i := i) (d := d) (by simpa using e)
    exact ⟨v, by simpa using h1, h2⟩
theorem DVs.get' : ∀ {vs : List V} {ds : List D}, DVs K H vs ds → ∀ {i : Nat} {v : V}, vs[i]? = some v → ∃ d, ds[i]? = some d ∧ DV K H v d
  | _, _, .nil, i, d, e => by simp at e
  | _, _, .cons a t, 0, d, e => by simp at e; subst e; exact ⟨_, rfl, a⟩
  | _, _, .cons a t, i + 1, d, e => by
    obtain ⟨v, h1, h2⟩ := DVs.get' t (i := i) (v := d) (by simpa using e)
    exact ⟨v, by simpa using h1, h2⟩
theorem DVs.append : ∀ {vs ws : List V} {ds es : List D}, DVs K H vs ds → DVs K H ws es → DVs K H (vs ++ ws) (ds ++ es)
  | _, _, _, _, .nil, t => t
  | _, _, _, _, .cons a r, t => .cons a (DVs.append r t)
theorem DVs.take : ∀ {vs : List V} {ds : List D} (n : Nat), DVs K H vs ds → DVs K H (vs.take n) (ds.take n)
  | _, _, 0, _ => by simpa using DVs.nil
  | _, _, n + 1, .nil => .nil
  | _, _, n + 1, .cons a t => .cons a (DVs.take n t)
theorem DVs.drop : ∀ {vs : List V} {ds : List D} (n : Nat), DVs K H vs ds → DVs K H (vs.drop n) (ds.drop n)
  | _, _, 0, h => h
  | _, _, n + 1, .nil => .nil
  | _, _, n + 1, .cons a t => DVs.drop n t
theorem DVs.set : ∀ {vs : List V} {ds : List D} (n : Nat) {v : V} {d : D}, DV K H v d → DVs K H vs ds → DVs K H (vs.set n v) (ds.set n d)
  | _, _, _, _, _, _, .nil => .nil
  | _, _, 0, _, _, h, .cons a t => .cons h t
  | _, _, n + 1, _, _, h, .cons a t => .cons a (DVs.set n h t)
theorem DVs.erase : ∀ {vs : List V} {ds : List D} (n : Nat), DVs K H vs ds → DVs K H (vs.eraseIdx n) (ds.eraseIdx n)
  | _, _, _, .nil => .nil
  | _, _, 0, .cons a t => t
  | _, _, n + 1, .cons a t => .cons a (DVs.erase n t)
theorem DVs.ints : ∀ {vs : List V} {ns : List Int}, DVs K H vs (ns.map D.int) → vs = ns.map V.int
  | vs, [], h => by cases h; rfl
  | vs, n :: ns, h => by
    cases h with
    | cons a t => cases a; rw [DVs.ints t]; rfl
theorem DVs.of_ints : ∀ (ns : List Int), DVs K H (ns.map V.int) (ns.map D.int)
  | [] => .nil
  | n :: ns => .cons (.int n) (DVs.of_ints ns)
end

/-! ### the heap without what one owns -/
def wo (O : List Addr) (H : Hp) : Hp := fun a => if a ∈ O then none else H a
theorem wo_nil (H : Hp) : wo [] H = H := by funext a; simp [wo]
theorem wo_same (O : List Addr) (H : Hp) : Same (wo O H) H := fun a o h => by
  unfold wo at h
  split at h
  · cases h
  · exact h
theorem wo_mono {O : List Addr} {H H' : Hp} (s : Same H H') : Same (wo O H) (wo O H') := fun a o h => by
  unfold wo at *
  split at h
  · cases h
  · rename_i n
    rw [if_neg n]
    exact s a o h
theorem same_upd {H : Hp} {p : Addr} {o : HO} (h : H p = none) : Same H (upd H p o) := fun b x e => by
  rw [upd_ne (ne_of_none e h)]
  exact e

set_option autoImplicit false
/-! ### exceptions, slots -/
structure Ex where
  c : Str
  fs : List (Str × D)
inductive DF (K : Fg) (H : Hp) : List (Str × V) → List (Str × D) → Prop
  | nil : DF K H [] []
  | cons {x : Str} {v : V} {d : D} {vs : List (Str × V)} {ds : List (Str × D)} : DV K H v d → DF K H vs ds → DF K H ((x, v) :: vs) ((x, d) :: ds)
theorem DF.mono {K : Fg} {H H' : Hp} (s : Same H H') : ∀ {vs : List (Str × V)} {ds : List (Str × D)}, DF K H vs ds → DF K H' vs ds
  | _, _, .nil => .nil
  | _, _, .cons a t => .cons (DV.mono s _ _ a) (DF.mono s t)
theorem DF.look {K : Fg} {H : Hp} {x : Str} : ∀ {vs : List (Str × V)} {ds : List (Str × D)}, DF K H vs ds → ∀ {d : D}, ds.lookup x = some d → ∃ v, vs.lookup x = some v ∧ DV K H v d
  | _, _, .nil, d, e => by simp at e
  | _, _, .cons (x := y) a t, d, e => by
    rw [List.lookup_cons] at e ⊢
    cases q : (x == y) with
    | true =>
      rw [q] at e
      cases e
      exact ⟨_, rfl, a⟩
    | false =>
      rw [q] at e
      exact DF.look t e
/-- the exception with the class cls and the own dict dd is x -/
def ExOk (K : Fg) (H : Hp) (x : Ex) (cls : Value) (dd : Option Addr) : Prop :=
  cls = .ref (He.ga K x.c) ∧ ((x.fs = [] ∧ dd = none) ∨ ∃ (d : Addr) (vs : List (Str × V)), dd = some d ∧ H d = some (.xd vs) ∧ DF K H vs x.fs)
theorem ExOk.mono {K : Fg} {H H' : Hp} (s : Same H H') {x : Ex} {cls : Value} {dd : Option Addr} (h : ExOk K H x cls dd) : ExOk K H' x cls dd := by
  obtain ⟨e, h | ⟨d, vs, e1, e2, e3⟩⟩ := h
  · exact ⟨e, .inl h⟩
  · exact ⟨e, .inr ⟨d, vs, e1, s _ _ e2, e3.mono s⟩⟩
/-- a slot: a value that nobody will change; a list that this name alone holds; the exception that is handled; the caller's list that this def changes in place -/
inductive Sl where
  | val (d : D) | own (ds : List D) | exc (x : Ex) | io (ds : List D)
def Sl.list : Sl → Option (List D)
  | .own ds => some ds
  | .io ds => some ds
  | _ => none
abbrev En := List (Option Sl)
/-- ex: the handled exception: where, its class, its dict; io: the slot of the list that is changed in place for the caller -/
structure Hx where
  ex : Option (Addr × Value × Option Addr) := none
  io : Option Nat := none
def h0 : Hx := {}
def SlOk (K : Fg) (hx : Hx) (O : List Addr) (H : Hp) (v : V) : Sl → Prop
  | .val d => DV K (wo O H) v d
  | .own ds => ∃ a vs, v = .ref a ∧ a ∈ O ∧ H a = some (.lst vs) ∧ DVs K (wo O H) vs ds
  | .io ds => ∃ a vs, v = .ref a ∧ a ∈ O ∧ H a = some (.lst vs) ∧ DVs K (wo O H) vs ds
  | .exc x => ∃ a cls dd, v = .ref a ∧ hx.ex = some (a, cls, dd) ∧ ExOk K (wo O H) x cls dd
theorem SlOk.mono {K : Fg} {hx : Hx} {O : List Addr} {H H' : Hp} (s : Same H H') {v : V} : ∀ {x : Sl}, SlOk K hx O H v x → SlOk K hx O H' v x
  | .val d, h => DV.mono (wo_mono s) _ _ h
  | .own ds, ⟨a, vs, e, m, h, k⟩ => ⟨a, vs, e, m, s _ _ h, DVs.mono (wo_mono s) _ _ k⟩
  | .io ds, ⟨a, vs, e, m, h, k⟩ => ⟨a, vs, e, m, s _ _ h, DVs.mono (wo_mono s) _ _ k⟩
  | .exc x, ⟨a, cls, dd, e, m, h⟩ => ⟨a, cls, dd, e, m, h.mono (wo_mono s)⟩
/-- what stands all along: data (f), lists that others own (g); io: where the list stands that is changed in place -/
structure Fm where
  f : Hp
  g : Hp
  io : Option Addr := none
/-- slots and heap are what the environment says; F: what stands all along; O: what the frame, or a caller, owns -/
structure RO (K : Fg) (hx : Hx) (F : Fm) (ρ : En) (σ : MB.St) (H : Hp) (O : List Addr) : Prop where
  fr : Same F.f (wo O H)
  gs : Same F.g H
  go : ∀ a o, F.g a = some o → a ∈ O
  gn : ∀ (i : Nat) (a : Addr) (x : Sl) (ds : List D), ρ[i]? = some (some x) → x.list = some ds → σ[i]? = some (some (.ref a)) → F.g a = none
  len : ρ.length = σ.length
  sl : ∀ (i : Nat) (x : Sl), ρ[i]? = some (some x) → ∃ v, σ[i]? = some (some v) ∧ SlOk K hx O H v x
  ne : ∀ (i j : Nat) (a : Addr) (x y : Sl) (ds es : List D), ρ[i]? = some (some x) → x.list = some ds → ρ[j]? = some (some y) → y.list = some es → σ[i]? = some (some (.ref a)) → σ[j]? = some (some (.ref a)) → i = j
  dom : ∀ a ∈ O, ∃ o, H a = some o
  pin : ∀ (j : Nat), hx.io = some j → ∃ (a : Addr) (ds : List D), F.io = some a ∧ ρ[j]? = some (some (.io ds)) ∧ σ[j]? = some (some (.ref a))
  nio : ∀ (i : Nat) (ds : List D), ρ[i]? = some (some (.io ds)) → hx.io = some i
def Rl (K : Fg) (hx : Hx) (F : Fm) (ρ : En) (σ : MB.St) (H : Hp) : Prop := ∃ O, RO K hx F ρ σ H O
def RV (K : Fg) (hx : Hx) (F : Fm) (ρ : En) (σ : MB.St) (H : Hp) (v : V) (d : D) : Prop := ∃ O, RO K hx F ρ σ H O ∧ DV K (wo O H) v d
def RX (K : Fg) (hx : Hx) (F : Fm) (ρ : En) (σ : MB.St) (H : Hp) (x : Ex) (cls : Value) (dd : Option Addr) : Prop := ∃ O, RO K hx F ρ σ H O ∧ ExOk K (wo O H) x cls dd
/-- a slot is written: what stands there from now on holds no list -/
theorem getset {α : Type} {l : List α} {i m : Nat} {x y : α} (h : (l.set i x)[m]? = some y) : (m = i ∧ y = x ∧ i < l.length) ∨ (m ≠ i ∧ l[m]? = some y) := by
  by_cases hm : m = i
  · subst hm
    rw [List.getElem?_set_self'] at h
    cases q : l[m]? with
    | none => rw [q] at h; cases h
    | some z =>
      rw [q] at h
      have h' : some x = some y := h
      exact .inl ⟨rfl, (Option.some.inj h').symm, (List.getElem?_eq_some_iff.mp q).1⟩
  · rw [List.getElem?_set_ne (Ne.symm hm)] at h
    exact .inr ⟨hm, h⟩
section
variable {K : Fg} {hx : Hx} {F F' : Fm} {H H' : Hp} {ρ : En} {σ : MB.St} {O : List Addr}
theorem RO.grow (r : RO K hx F ρ σ H O) (s : Same H H') : RO K hx F ρ σ H' O :=
  ⟨fun a o h => wo_mono s a o (r.fr a o h), fun a o h => s a o (r.gs a o h), r.go, r.gn, r.len, fun i x e => by
    obtain ⟨v, e1, h⟩ := r.sl i x e
    exact ⟨v, e1, h.mono s⟩, r.ne, fun a m => by
    obtain ⟨o, e⟩ := r.dom a m
    exact ⟨o, s a o e⟩, r.pin, r.nio⟩
/-- another frame condition: what stands now -/
theorem RO.re (r : RO K hx F ρ σ H O) : RO K hx ⟨wo O H, F.g, F.io⟩ ρ σ H O := ⟨fun _ _ h => h, r.gs, r.go, r.gn, r.len, r.sl, r.ne, r.dom, r.pin, r.nio⟩
theorem RO.fr_of (r : RO K hx F ρ σ H O) (s : Same F'.f F.f) (e : F'.g = F.g) (e2 : F'.io = F.io) : RO K hx F' ρ σ H O :=
  ⟨s.trans r.fr, by rw [e]; exact r.gs, by rw [e]; exact r.go, by rw [e]; exact r.gn, r.len, r.sl, r.ne, r.dom, by rw [e2]; exact r.pin, r.nio⟩
theorem RO.out (r : RO K hx F ρ σ H O) {p : Addr} (h : H p = none) : p ∉ O := fun m => by
  obtain ⟨o, e⟩ := r.dom p m
  rw [h] at e
  cases e
/-- a slot is written by what holds no list -/
theorem RO.put (r : RO K hx F ρ σ H O) (i : Nat) {x : Sl} {v : V} (hi : hx.io ≠ some i) (hl : x.list = none) (h : SlOk K hx O H v x) : RO K hx F (ρ.set i (some x)) (σ.set i (some v)) H O := by
  have nl : ∀ {m : Nat} {y : Sl} {ds : List D}, (ρ.set i (some x))[m]? = some (some y) → y.list = some ds → m ≠ i ∧ ρ[m]? = some (some y) := fun {m y ds} e hy => by
    rcases getset e with ⟨_, e2, _⟩ | z
    · cases e2
      rw [hl] at hy
      cases hy
    · exact z
  refine ⟨r.fr, r.gs, r.go, fun j a y ds e1 e2 e3 => ?_, by simp [r.len], fun j y e => ?_, fun j k a y z ds es e1 f1 e2 f2 e3 e4 => ?_, r.dom, fun j hj => ?_, fun j ds e => ?_⟩
  · obtain ⟨n, e1⟩ := nl e1 e2
    rw [List.getElem?_set_ne (Ne.symm n)] at e3
    exact r.gn j a y ds e1 e2 e3
  · rcases getset e with ⟨e1, e2, e3⟩ | ⟨n, e1⟩
    · subst e1
      cases e2
      exact ⟨v, by rw [List.getElem?_set_self (by rw [← r.len]; exact e3)], h⟩
    · obtain ⟨v', e2, h'⟩ := r.sl j y e1
      exact ⟨v', by rw [List.getElem?_set_ne (Ne.symm n)]; exact e2, h'⟩
  · obtain ⟨n1, e1⟩ := nl e1 f1
    obtain ⟨n2, e2⟩ := nl e2 f2
    rw [List.getElem?_set_ne (Ne.symm n1)] at e3
    rw [List.getElem?_set_ne (Ne.symm n2)] at e4
    exact r.ne j k a y z ds es e1 f1 e2 f2 e3 e4
  · obtain ⟨a, ds, e1, e2, e3⟩ := r.pin j hj
    have n : j ≠ i := fun z => hi (by rw [← z]; exact hj)
    exact ⟨a, ds, e1, by rw [List.getElem?_set_ne (Ne.symm n)]; exact e2, by rw [List.getElem?_set_ne (Ne.symm n)]; exact e3⟩
  · obtain ⟨_, e1⟩ := nl e rfl
    exact r.nio j ds e1
theorem RO.set (r : RO K hx F ρ σ H O) (i : Nat) {v : V} {d : D} (hi : hx.io ≠ some i) (h : DV K (wo O H) v d) : RO K hx F (ρ.set i (some (.val d))) (σ.set i (some v)) H O := r.put i hi rfl h
end
end MB

/-! Readings by values: expressions. -/
namespace MB
open PySem PySem.Spec PyProof.Rows L2

inductive Rs where
  | ok (d : D) (ρ : En) | err (x : Ex) (ρ : En) | stuck
abbrev EX := En → Rs
def Rs.bind (r : Rs) (k : D → En → Rs) : Rs := match r with
  | .ok d ρ => k d ρ
  | .err x ρ => .err x ρ
  | .stuck => .stuck
/-- what is wanted of an outcome -/
def Po (K : Fg) (hx : Hx) (F : Fm) (W : WX) (σ : MB.St) (r : Rs) (Q : VK) : Prop := match r with
  | .ok d ρ => ∀ v H, RV K hx F ρ σ H v d → Q v H
  | .err x ρ => ∀ cls dd H, RX K hx F ρ σ H x cls dd → W cls dd σ H
  | .stuck => False
/-- an expression's reading by its function -/
def tX (K : Fg) (hx : Hx) (W : WX) (f : EX) : TE := fun σ H Q => ∃ F ρ, Rl K hx F ρ σ H ∧ Po K hx F W σ (f ρ) Q
/-- a truth value -/
def truth : D → Option Bool
  | .non => some false
  | .bl b => some b
  | .int i => some (i != 0)
  | .tup xs => some (!xs.isEmpty)
  | .lst xs => some (!xs.isEmpty)
  | _ => none
def PoT (K : Fg) (hx : Hx) (F : Fm) (W : WX) (σ : MB.St) (r : Rs) (Q : Bool → Hp → Prop) : Prop := match r with
  | .ok d ρ => ∃ b, truth d = some b ∧ ∀ H, Rl K hx F ρ σ H → Q b H
  | .err x ρ => ∀ cls dd H, RX K hx F ρ σ H x cls dd → W cls dd σ H
  | .stuck => False
def tT (K : Fg) (hx : Hx) (W : WX) (f : EX) : TT := fun σ H Q => ∃ F ρ, Rl K hx F ρ σ H ∧ PoT K hx F W σ (f ρ) Q
theorem _root_.L2.PE.imp {X : Cx} {e : Expr} {t t' : TE} (h : PE X e t) (i : ∀ σ H Q, t' σ H Q → t σ H Q) : PE X e t' := ⟨fun pins s σ H Q I q => h.run pins s σ H Q I (i σ H Q q)⟩
theorem _root_.L2.PT.imp {X : Cx} {e : Expr} {t t' : TT} (h : PT X e t) (i : ∀ σ H Q, t' σ H Q → t σ H Q) : PT X e t' := ⟨fun pins s σ H Q I q => h.run pins s σ H Q I (i σ H Q q)⟩
theorem _root_.L2.PW.imp {X : Cx} {e : Expr} {t t' : TT} (h : PW X e t) (i : ∀ σ H Q, t' σ H Q → t σ H Q) : PW X e t' := ⟨fun wh pins s σ H Q I q => h.run wh pins s σ H Q I (i σ H Q q)⟩

theorem Po.fr {K : Fg} {hx : Hx} {F F' : Fm} {W : WX} {σ : MB.St} {r : Rs} {Q : VK} (s : Same F.f F'.f) (e : F.g = F'.g) (e2 : F.io = F'.io) (h : Po K hx F W σ r Q) : Po K hx F' W σ r Q := by
  cases r with
  | ok d ρ => exact fun v H ⟨O, r, dv⟩ => h v H ⟨O, r.fr_of s e e2, dv⟩
  | err x ρ => exact fun cls dd H ⟨O, r, dv⟩ => h cls dd H ⟨O, r.fr_of s e e2, dv⟩
  | stuck => exact h
theorem PoT.fr {K : Fg} {hx : Hx} {F F' : Fm} {W : WX} {σ : MB.St} {r : Rs} {Q : Bool → Hp → Prop} (s : Same F.f F'.f) (e : F.g = F'.g) (e2 : F.io = F'.io) (h : PoT K hx F W σ r Q) : PoT K hx F' W σ r Q := by
  cases r with
  | ok d ρ =>
    obtain ⟨b, hb, k⟩ := h
    exact ⟨b, hb, fun H ⟨O, r⟩ => k H ⟨O, r.fr_of s e e2⟩⟩
  | err x ρ => exact fun cls dd H ⟨O, r, dv⟩ => h cls dd H ⟨O, r.fr_of s e e2, dv⟩
  | stuck => exact h
section
variable {K : Fg} {hx : Hx} {F : Fm} {H : Hp} {ρ : En} {σ : MB.St} {O : List Addr} {W : WX}
/-- a part, then the rest: the part's frame is what stands now -/
theorem bindX {fa : EX} {k : D → En → Rs} {Q Q1 : VK} (r : RO K hx F ρ σ H O) (hp : Po K hx F W σ ((fa ρ).bind k) Q)
    (hk : ∀ d ρ1 v H1 O1, RO K hx F ρ1 σ H1 O1 → Same (wo O H) (wo O1 H1) → DV K (wo O1 H1) v d → Po K hx F W σ (k d ρ1) Q → Q1 v H1) : tX K hx W fa σ H Q1 := by
  refine ⟨⟨wo O H, F.g, F.io⟩, ρ, ⟨O, r.re⟩, ?_⟩
  cases e : fa ρ with
  | ok d ρ1 =>
    rw [e] at hp
    intro v H1 hv
    obtain ⟨O1, r1, dv⟩ := hv
    exact hk d ρ1 v H1 O1 (r1.fr_of r.fr rfl rfl) r1.fr dv hp
  | err x ρ1 =>
    rw [e] at hp
    intro cls dd H1 hv
    obtain ⟨O1, r1, ev⟩ := hv
    exact hp cls dd H1 ⟨O1, r1.fr_of r.fr rfl rfl, ev⟩
  | stuck =>
    rw [e] at hp
    exact hp
/-- the same with a test first -/
theorem bindT {fa : EX} {k : D → En → Rs} {Q : VK} {Q1 : Bool → Hp → Prop} (r : RO K hx F ρ σ H O) (hp : Po K hx F W σ ((fa ρ).bind k) Q)
    (ht : ∀ d ρ1, Po K hx F W σ (k d ρ1) Q → ∃ b, truth d = some b)
    (hk : ∀ d b ρ1 H1 O1, truth d = some b → RO K hx F ρ1 σ H1 O1 → Same (wo O H) (wo O1 H1) → Po K hx F W σ (k d ρ1) Q → Q1 b H1) : tT K hx W fa σ H Q1 := by
  refine ⟨⟨wo O H, F.g, F.io⟩, ρ, ⟨O, r.re⟩, ?_⟩
  cases e : fa ρ with
  | ok d ρ1 =>
    rw [e] at hp
    obtain ⟨b, hb⟩ := ht d ρ1 hp
    refine ⟨b, hb, fun H1 hv => ?_⟩
    obtain ⟨O1, r1⟩ := hv
    exact hk d b ρ1 H1 O1 hb (r1.fr_of r.fr rfl rfl) r1.fr hp
  | err x ρ1 =>
    rw [e] at hp
    intro cls dd H1 hv
    obtain ⟨O1, r1, ev⟩ := hv
    exact hp cls dd H1 ⟨O1, r1.fr_of r.fr rfl rfl, ev⟩
  | stuck =>
    rw [e] at hp
    exact hp
/-- .. all within a test -/
theorem bindTT {fa : EX} {k : D → En → Rs} {Q Q1 : Bool → Hp → Prop} (r : RO K hx F ρ σ H O) (hp : PoT K hx F W σ ((fa ρ).bind k) Q)
    (ht : ∀ d ρ1, PoT K hx F W σ (k d ρ1) Q → ∃ b, truth d = some b)
    (hk : ∀ d b ρ1 H1 O1, truth d = some b → RO K hx F ρ1 σ H1 O1 → Same (wo O H) (wo O1 H1) → PoT K hx F W σ (k d ρ1) Q → Q1 b H1) : tT K hx W fa σ H Q1 := by
  refine ⟨⟨wo O H, F.g, F.io⟩, ρ, ⟨O, r.re⟩, ?_⟩
  cases e : fa ρ with
  | ok d ρ1 =>
    rw [e] at hp
    obtain ⟨b, hb⟩ := ht d ρ1 hp
    refine ⟨b, hb, fun H1 hv => ?_⟩
    obtain ⟨O1, r1⟩ := hv
    exact hk d b ρ1 H1 O1 hb (r1.fr_of r.fr rfl rfl) r1.fr hp
  | err x ρ1 =>
    rw [e] at hp
    intro cls dd H1 hv
    obtain ⟨O1, r1, ev⟩ := hv
    exact hp cls dd H1 ⟨O1, r1.fr_of r.fr rfl rfl, ev⟩
  | stuck =>
    rw [e] at hp
    exact hp
/-- an expression within a test -/
theorem bindXT {fa : EX} {k : D → En → Rs} {Q : Bool → Hp → Prop} {Q1 : VK} (r : RO K hx F ρ σ H O) (hp : PoT K hx F W σ ((fa ρ).bind k) Q)
    (hk : ∀ d ρ1 v H1 O1, RO K hx F ρ1 σ H1 O1 → Same (wo O H) (wo O1 H1) → DV K (wo O1 H1) v d → PoT K hx F W σ (k d ρ1) Q → Q1 v H1) : tX K hx W fa σ H Q1 := by
  refine ⟨⟨wo O H, F.g, F.io⟩, ρ, ⟨O, r.re⟩, ?_⟩
  cases e : fa ρ with
  | ok d ρ1 =>
    rw [e] at hp
    intro v H1 hv
    obtain ⟨O1, r1, dv⟩ := hv
    exact hk d ρ1 v H1 O1 (r1.fr_of r.fr rfl rfl) r1.fr dv hp
  | err x ρ1 =>
    rw [e] at hp
    intro cls dd H1 hv
    obtain ⟨O1, r1, ev⟩ := hv
    exact hp cls dd H1 ⟨O1, r1.fr_of r.fr rfl rfl, ev⟩
  | stuck =>
    rw [e] at hp
    exact hp
end

/-! ### names, constants -/
def eVar (i : Nat) : EX := fun ρ => match ρ[i]? with
  | some (some (.val d)) => .ok d ρ
  | some (some (.own ds)) => .ok (.lst ds) (ρ.set i (some (.val (.lst ds))))
  | _ => .stuck
def eC (d : D) : EX := fun ρ => .ok d ρ
section
variable {X : Cx} {hx : Hx} {W : WX}
/-- an own list is let go: from now on nobody changes it -/
theorem RO.freeze {K : Fg} {hx : Hx} {F : Fm} {H : Hp} {ρ : En} {σ : MB.St} {O : List Addr} {i : Nat} {ds : List D} (r : RO K hx F ρ σ H O) (e : ρ[i]? = some (some (.own ds))) :
    ∃ a O', σ[i]? = some (some (V.ref a)) ∧ RO K hx F (ρ.set i (some (.val (.lst ds)))) σ H O' ∧ DV K (wo O' H) (.ref a) (.lst ds) := by
  obtain ⟨v, ev, a, vs, rfl, hm, hH, hv⟩ := r.sl i _ e
  have sm : Same (wo O H) (wo (O.filter (· ≠ a)) H) := fun b o h => by
    unfold wo at *
    split at h
    · cases h
    · rename_i n
      rw [if_neg (fun z => n (List.mem_filter.mp z).1)]
      exact h
  have at_ : wo (O.filter (· ≠ a)) H a = some (.lst vs) := by
    unfold wo
    rw [if_neg (fun z => by simpa using (List.mem_filter.mp z).2)]
    exact hH
  have dv : DV K (wo (O.filter (· ≠ a)) H) (.ref a) (.lst ds) := .lst at_ (DVs.mono sm _ _ hv)
  have ga : F.g a = none := r.gn i a _ ds e rfl ev
  have ni : hx.io ≠ some i := fun z => by
    obtain ⟨_, _, _, e2, _⟩ := r.pin i z
    rw [e] at e2
    cases e2
  have nl : ∀ {m : Nat} {y : Sl} {es : List D}, (ρ.set i (some (Sl.val (.lst ds))))[m]? = some (some y) → y.list = some es → m ≠ i ∧ ρ[m]? = some (some y) := fun {m y es} q hy => by
    rcases getset q with ⟨_, e2, _⟩ | z
    · cases e2
      cases hy
    · exact z
  have keepO : ∀ {j : Nat} {b : Addr} {y : Sl} {es : List D}, j ≠ i → ρ[j]? = some (some y) → y.list = some es → σ[j]? = some (some (.ref b)) → b ∈ O → b ∈ O.filter (· ≠ a) := fun {j b y es} hj e1 e2 e3 hb => List.mem_filter.mpr ⟨hb, by
    have nb : b ≠ a := fun z => by
      subst z
      exact hj (r.ne j i b y _ es ds e1 e2 e rfl e3 ev)
    simpa using nb⟩
  refine ⟨a, O.filter (· ≠ a), ev, ⟨r.fr.trans sm, r.gs, fun b o hb => List.mem_filter.mpr ⟨r.go b o hb, ?_⟩, fun j b y d1 e1 e2 e3 => ?_, by simp [r.len], fun j x ej => ?_, fun j k b y z d1 d2 e1 f1 e2 f2 e3 e4 => ?_, fun b hb => r.dom b (List.mem_filter.mp hb).1, fun j hj => ?_, fun j es ej => ?_⟩, dv⟩
  · have nb : b ≠ a := fun z => by
      subst z
      rw [ga] at hb
      cases hb
    simpa using nb
  · obtain ⟨_, e1⟩ := nl e1 e2
    exact r.gn j b y d1 e1 e2 e3
  · rcases getset ej with ⟨e1, e2, e3⟩ | ⟨hj, ej⟩
    · subst e1
      cases e2
      exact ⟨.ref a, ev, dv⟩
    · obtain ⟨v', e1, h'⟩ := r.sl j x ej
      refine ⟨v', e1, ?_⟩
      cases x with
      | val d => exact DV.mono sm _ _ h'
      | own es =>
        obtain ⟨b, ws, rfl, hb, hB, hw⟩ := h'
        exact ⟨b, ws, rfl, keepO hj ej rfl e1 hb, hB, DVs.mono sm _ _ hw⟩
      | io es =>
        obtain ⟨b, ws, rfl, hb, hB, hw⟩ := h'
        exact ⟨b, ws, rfl, keepO hj ej rfl e1 hb, hB, DVs.mono sm _ _ hw⟩
      | exc x =>
        obtain ⟨b, cls, dd, rfl, e2, h2⟩ := h'
        exact ⟨b, cls, dd, rfl, e2, h2.mono sm⟩
  · obtain ⟨_, e1⟩ := nl e1 f1
    obtain ⟨_, e2⟩ := nl e2 f2
    exact r.ne j k b y z d1 d2 e1 f1 e2 f2 e3 e4
  · obtain ⟨b, es, e1, e2, e3⟩ := r.pin j hj
    have n : j ≠ i := fun z => ni (by rw [← z]; exact hj)
    exact ⟨b, es, e1, by rw [List.getElem?_set_ne (Ne.symm n)]; exact e2, e3⟩
  · obtain ⟨_, e1⟩ := nl ej rfl
    exact r.nio j es e1
theorem r_var (i : Nat) {x : Str} {pos : Pos} (hN : X.N[i]? = some x := by rfl) (hv : Vis X.env.scope x := by first | exact Or.inl rfl | exact Or.inr (Or.inl rfl) | exact Or.inr (Or.inr rfl)) (hd : (x == ("__debug__" : Str)) = false := by decide)
    (hcd : (x == ("__classdict__" : Str)) = false := by decide) : PE X (.Name x pos) (tX X.K hx W (eVar i)) := by
  refine (pe_var hN hv hd hcd).imp fun σ H Q h => ?_
  obtain ⟨F, ρ, ⟨O, r⟩, hp⟩ := h
  unfold eVar at hp
  cases e : ρ[i]? with
  | none => rw [e] at hp; exact hp.elim
  | some o =>
    rw [e] at hp
    cases o with
    | none => exact hp.elim
    | some s =>
      cases s with
      | val d =>
        obtain ⟨v, ev, h⟩ := r.sl i _ e
        exact ⟨v, ev, hp v H ⟨O, r, h⟩⟩
      | own ds =>
        obtain ⟨a, O', ev, r', dv⟩ := r.freeze e
        exact ⟨.ref a, ev, hp _ H ⟨O', r', dv⟩⟩
      | exc x => exact hp.elim
      | io ds => exact hp.elim
theorem r_int {i j pos} : PE X (.Constant (.int i) j pos) (tX X.K hx W (eC (.int i))) := (pe_int).imp fun σ H Q h => by
  obtain ⟨F, ρ, ⟨O, r⟩, hp⟩ := h
  exact hp _ H ⟨O, r, .int i⟩
theorem r_bl {b j pos} : PE X (.Constant (.bool b) j pos) (tX X.K hx W (eC (.bl b))) := (pe_bl).imp fun σ H Q h => by
  obtain ⟨F, ρ, ⟨O, r⟩, hp⟩ := h
  exact hp _ H ⟨O, r, .bl b⟩
theorem r_non {j pos} : PE X (.Constant .none j pos) (tX X.K hx W (eC .non)) := (pe_non).imp fun σ H Q h => by
  obtain ⟨F, ρ, ⟨O, r⟩, hp⟩ := h
  exact hp _ H ⟨O, r, .non⟩
theorem r_str {x j pos} : PE X (.Constant (.str x) j pos) (tX X.K hx W (eC (.str x))) := (pe_str).imp fun σ H Q h => by
  obtain ⟨F, ρ, ⟨O, r⟩, hp⟩ := h
  exact hp _ H ⟨O, r, .str x⟩
/-- a module's constant: what stands at it is the datum d in every heap -/
structure GC (K : Fg) (mg : Str → Option Value) (x : Str) (d : D) : Prop where
  ex : ∃ u v, mg x = some u ∧ RelV v u ∧ ∀ H, DV K H v d
theorem r_glob {x : Str} {d : D} {pos : Pos} (c : GC X.K X.mg x d) (hg : Gl X x := by rfl) (hd : (x == ("__debug__" : Str)) = false := by decide) : PE X (.Name x pos) (tX X.K hx W (eC d)) := by
  obtain ⟨u, v, hm, rv, dv⟩ := c.ex
  refine (pe_glob hg hm rv hd).imp fun σ H Q h => ?_
  obtain ⟨F, ρ, ⟨O, r⟩, hp⟩ := h
  exact hp _ H ⟨O, r, dv _⟩
end

/-! ### operators of two values -/
/-- r gives what op says -/
def Op2 (K : Fg) (r : R2) (op : D → D → Option D) : Prop := ∀ (O : List Addr) (H : Hp) (x y : V) (d e res : D) (Q : VK), (∀ a ∈ O, ∃ o, H a = some o) → DV K (wo O H) x d → DV K (wo O H) y e → op d e = some res →
  (∀ v H', Same H H' → DV K (wo O H') v res → Q v H') → r x y H Q
def eB (op : D → D → Option D) (fa fb : EX) : EX := fun ρ => (fa ρ).bind fun d ρ1 => (fb ρ1).bind fun e ρ2 => match op d e with
  | some z => .ok z ρ2
  | none => .stuck
theorem t_op2 {K : Fg} {hx : Hx} {W : WX} {r : R2} {op : D → D → Option D} (ho : Op2 K r op) {fa fb : EX} {σ : MB.St} {H : Hp} {Q : VK} (h : tX K hx W (eB op fa fb) σ H Q) : tOp r (tX K hx W fa) (tX K hx W fb) σ H Q := by
  obtain ⟨F, ρ, ⟨O, r0⟩, hp⟩ := h
  refine bindX r0 hp fun d ρ1 v H1 O1 r1 s1 dv hp1 => ?_
  refine bindX r1 hp1 fun e ρ2 u H2 O2 r2 s2 du hp2 => ?_
  cases q : op d e with
  | none =>
    rw [q] at hp2
    exact hp2.elim
  | some z =>
    rw [q] at hp2
    exact ho O2 H2 v u d e z Q r2.dom (DV.mono s2 _ _ dv) du q fun v' H' s' dv' => hp2 v' H' ⟨O2, r2.grow s', dv'⟩
theorem t_op2T {K : Fg} {hx : Hx} {W : WX} {r : R2} {op : D → D → Option D} (ho : Op2 K r op) (hb : ∀ d e z, op d e = some z → ∃ b, z = .bl b) {fa fb : EX} {σ : MB.St} {H : Hp} {Q : Bool → Hp → Prop} (h : tT K hx W (eB op fa fb) σ H Q) :
    tTest (tOp r (tX K hx W fa) (tX K hx W fb)) σ H Q := by
  obtain ⟨F, ρ, ⟨O, r0⟩, hp⟩ := h
  refine bindXT r0 hp fun d ρ1 v H1 O1 r1 s1 dv hp1 => ?_
  refine bindXT r1 hp1 fun e ρ2 u H2 O2 r2 s2 du hp2 => ?_
  cases q : op d e with
  | none =>
    rw [q] at hp2
    exact hp2.elim
  | some z =>
    rw [q] at hp2
    obtain ⟨b, rfl⟩ := hb d e z q
    refine ho O2 H2 v u d e _ _ r2.dom (DV.mono s2 _ _ dv) du q fun v' H' s' dv' => ?_
    cases dv'
    obtain ⟨b', hb', k⟩ := hp2
    cases hb'
    exact ⟨b, rfl, k H' ⟨O2, r2.grow s'⟩⟩
section
variable {X : Cx} {hx : Hx} {W : WX} {a b : Expr} {fa fb : EX} {pos : Pos}
theorem r_bin {op : Operator} {r : R2} {f : D → D → Option D} (ho : OpR X (binaryOp op) r) (h2 : Op2 X.K r f) (ha : PE X a (tX X.K hx W fa)) (hb : PE X b (tX X.K hx W fb)) : PE X (.BinOp a op b pos) (tX X.K hx W (eB f fa fb)) :=
  (pe_op ho ha hb).imp fun _ _ _ h => t_op2 h2 h
theorem r_cmp {op : CmpOp} {r : R2} {f : D → D → Option D} (ho : OpR X (compareOp op) r) (h2 : Op2 X.K r f) (ha : PE X a (tX X.K hx W fa)) (hb : PE X b (tX X.K hx W fb)) (hm : behindInMarks op b = false) : PE X (.Compare a [op] [b] pos) (tX X.K hx W (eB f fa fb)) :=
  (pe_cmpR ho ha hb hm).imp fun _ _ _ h => t_op2 h2 h
theorem r_cmpT {op : CmpOp} {r : R2} {f : D → D → Option D} (ho : OpR X (compareOp op) r) (h2 : Op2 X.K r f) (hbl : ∀ d e z, f d e = some z → ∃ b, z = .bl b) (ha : PE X a (tX X.K hx W fa)) (hb : PE X b (tX X.K hx W fb)) (hm : behindInMarks op b = false) :
    PT X (.Compare a [op] [b] pos) (tT X.K hx W (eB f fa fb)) := (pt_cmpR ho ha hb hm).imp fun _ _ _ h => t_op2T h2 hbl h
end
end MB

/-! Operators by values. -/
namespace MB
open PySem PySem.Spec PyProof.Rows L2

/-! ### arithmetic -/
def mulOk (i j : Int) : Bool := decide (-(2 ^ 64) < i ∧ i < 2 ^ 64) || decide (-(2 ^ 64) < j ∧ j < 2 ^ 64) || decide (i.natAbs.log2 + j.natAbs.log2 < 1000000)
def divOk (_ j : Int) : Bool := decide (j ≠ 0 ∧ j.natAbs < 1073741824) || decide (0 < j ∧ j.natAbs.log2 < 9000)
def addD : D → D → Option D
  | .int i, .int j => some (.int (i + j))
  | .tup xs, .tup ys => if xs.length + ys.length ≤ sizeLine then some (.tup (xs ++ ys)) else none
  | .lst xs, .lst ys => if xs.length + ys.length ≤ sizeLine then some (.lst (xs ++ ys)) else none
  | .str x, .str y => if x.length + y.length ≤ sizeLine then some (.str (x ++ y)) else none
  | _, _ => none
def subD : D → D → Option D
  | .int i, .int j => some (.int (i - j))
  | _, _ => none
def mulD : D → D → Option D
  | .int i, .int j => if mulOk i j = true then some (.int (i * j)) else none
  | .lst xs, .int k => if (-(2 ^ 63) ≤ k ∧ k < 2 ^ 63) ∧ xs.length * k.toNat ≤ sizeLine then some (.lst (List.replicate k.toNat xs).flatten) else none
  | _, _ => none
def fdivD : D → D → Option D
  | .int i, .int j => if divOk i j = true then some (.int (i.fdiv j)) else none
  | _, _ => none
def modD : D → D → Option D
  | .int i, .int j => if j ≠ 0 then some (.int (i.fmod j)) else none
  | _, _ => none
def powD : D → D → Option D
  | .int i, .int j => if 0 ≤ j ∧ j ≤ 1000000 ∧ i.natAbs < 2 ^ 64 then some (.int (i ^ j.toNat)) else none
  | _, _ => none
def shlD : D → D → Option D
  | .int i, .int j => if 0 ≤ j ∧ j ≤ 1000000 ∧ i.natAbs < 2 ^ 64 then some (.int (i * 2 ^ j.toNat)) else none
  | _, _ => none
def orD : D → D → Option D
  | .int i, .int j => some (.int (Builtin.bitOr i j))
  | _, _ => none

section
variable {K : Fg} {H H' : Hp}
theorem DV.int_of {v : V} {i : Int} (h : DV K H v (.int i)) : v = .int i := by cases h; rfl
theorem DV.bl_of {v : V} {i : Bool} (h : DV K H v (.bl i)) : v = .bl i := by cases h; rfl
theorem DV.str_of {v : V} {i : Str} (h : DV K H v (.str i)) : v = .str i := by cases h; rfl
theorem DV.non_of {v : V} (h : DV K H v .non) : v = .non := by cases h; rfl
theorem DV.tup_of {v : V} {ds : List D} (h : DV K H v (.tup ds)) : ∃ a vs, v = .ref a ∧ SqT K H a vs ∧ DVs K H vs ds := by cases h with | tup a b => exact ⟨_, _, rfl, a, b⟩
theorem DV.lst_of {v : V} {ds : List D} (h : DV K H v (.lst ds)) : ∃ a vs, v = .ref a ∧ H a = some (.lst vs) ∧ DVs K H vs ds := by cases h with | lst a b => exact ⟨_, _, rfl, a, b⟩
end
theorem dom_out {H : Hp} {O : List Addr} (h : ∀ a ∈ O, ∃ o, H a = some o) {p : Addr} (n : H p = none) : p ∉ O := fun m => by
  obtain ⟨o, e⟩ := h p m
  rw [n] at e
  cases e
/-- a new object at p -/
theorem wo_new {H : Hp} {O : List Addr} {p : Addr} {o : HO} (n : p ∉ O) : wo O (upd H p o) p = some o := by
  unfold wo
  rw [if_neg n, upd_same]
theorem DV.newT {K : Fg} {H : Hp} {O : List Addr} {p : Addr} {vs : List V} {ds : List D} (hd : ∀ a ∈ O, ∃ o, H a = some o) (n : H p = none) (h : DVs K (wo O H) vs ds) : DV K (wo O (upd H p (.tup vs))) (.ref p) (.tup ds) :=
  .tup (.of (wo_new (dom_out hd n))) (DVs.mono (wo_mono (same_upd n)) _ _ h)
theorem DV.newL {K : Fg} {H : Hp} {O : List Addr} {p : Addr} {vs : List V} {ds : List D} (hd : ∀ a ∈ O, ∃ o, H a = some o) (n : H p = none) (h : DVs K (wo O H) vs ds) : DV K (wo O (upd H p (.lst vs))) (.ref p) (.lst ds) :=
  .lst (wo_new (dom_out hd n)) (DVs.mono (wo_mono (same_upd n)) _ _ h)

/-- the readings of the operators -/
def rAddD (K : Fg) : R2 := fun x y H Q => (∃ i j, x = .int i ∧ y = .int j ∧ Q (.int (i + j)) H) ∨ rCatA K x y H Q ∨ rCat x y H Q ∨ (∃ i j, x = .str i ∧ y = .str j ∧ i.length + j.length ≤ sizeLine ∧ Q (.str (i ++ j)) H)
section
variable {X : Cx}
theorem o_add : OpR X (binaryOp .Add) (rAddD X.K) := op_add.or (op_catA.or (op_cat.or op_add_str))
theorem s_add {K : Fg} : Op2 K (rAddD K) addD := by
  intro O H x y d e res Q hd hx hy h q
  cases d <;> cases e <;> try (cases h; done)
  · cases hx; cases hy
    cases h
    exact .inl ⟨_, _, rfl, rfl, q _ H (Same.refl H) (.int _)⟩
  · cases hx; cases hy
    rename_i i j
    have h' : (if i.length + j.length ≤ sizeLine then some (D.str (i ++ j)) else none) = some res := h
    split at h'
    · cases h'
      rename_i hl
      exact .inr (.inr (.inr ⟨_, _, rfl, rfl, hl, q _ H (Same.refl H) (.str _)⟩))
    · cases h'
  · rename_i xs ys
    have h' : (if xs.length + ys.length ≤ sizeLine then some (D.tup (xs ++ ys)) else none) = some res := h
    split at h'
    · cases h'
      rename_i hl
      obtain ⟨a, vs, rfl, sa, da⟩ := hx.tup_of
      obtain ⟨b, ws, rfl, sb, db⟩ := hy.tup_of
      have la := da.length
      have lb := db.length
      refine .inr (.inl ⟨a, b, vs, ws, rfl, rfl, sqT_mono (wo_same O H) sa, sqT_mono (wo_same O H) sb, by omega, fun z => ?_, fun _ z => ?_, fun _ _ p np => ?_⟩)
      · subst z
        cases da
        exact q _ H (Same.refl H) (.tup sb db)
      · subst z
        cases db
        rw [List.append_nil] at q
        exact q _ H (Same.refl H) (.tup sa da)
      · exact q _ _ (same_upd np) (DV.newT hd np (da.append db))
    · cases h'
  · rename_i xs ys
    have h' : (if xs.length + ys.length ≤ sizeLine then some (D.lst (xs ++ ys)) else none) = some res := h
    split at h'
    · cases h'
      rename_i hl
      obtain ⟨a, vs, rfl, sa, da⟩ := hx.lst_of
      obtain ⟨b, ws, rfl, sb, db⟩ := hy.lst_of
      have la := da.length
      have lb := db.length
      exact .inr (.inr (.inl ⟨a, b, vs, ws, rfl, rfl, wo_same O H _ _ sa, wo_same O H _ _ sb, by omega, fun p np => q _ _ (same_upd np) (DV.newL hd np (da.append db))⟩))
    · cases h'
theorem s_sub {K : Fg} : Op2 K (rI0 fun i j => .int (i - j)) subD := by
  intro O H x y d e res Q hd hx hy h q
  cases d <;> cases e <;> try (cases h; done)
  cases hx; cases hy; cases h
  exact ⟨_, _, rfl, rfl, q _ H (Same.refl H) (.int _)⟩
def rMulD : R2 := fun x y H Q => rI CMul (fun i j => .int (i * j)) x y H Q ∨ rI CMulW (fun i j => .int (i * j)) x y H Q ∨ rRep x y H Q
theorem o_mul : OpR X (binaryOp .Mult) rMulD := op_mul.or (op_mulW.or op_rep)
theorem flat_rep {K : Fg} {H : Hp} {vs : List V} {ds : List D} (h : DVs K H vs ds) : ∀ n : Nat, DVs K H (List.replicate n vs).flatten (List.replicate n ds).flatten
  | 0 => .nil
  | n + 1 => by
    rw [List.replicate_succ, List.replicate_succ, List.flatten_cons, List.flatten_cons]
    exact h.append (flat_rep h n)
theorem s_mul {K : Fg} : Op2 K rMulD mulD := by
  intro O H x y d e res Q hd hx hy h q
  cases d <;> cases e <;> try (cases h; done)
  · rename_i i j
    have h' : (if mulOk i j = true then some (D.int (i * j)) else none) = some res := h
    split at h'
    · cases h'
      rename_i hl
      cases hx; cases hy
      have fin := q _ H (Same.refl H) (.int (i * j))
      unfold mulOk at hl
      rw [Bool.or_eq_true, Bool.or_eq_true] at hl
      rcases hl with (hl | hl) | hl
      · exact .inl ⟨_, _, rfl, rfl, .inl (of_decide_eq_true hl), fin⟩
      · exact .inl ⟨_, _, rfl, rfl, .inr (of_decide_eq_true hl), fin⟩
      · exact .inr (.inl ⟨_, _, rfl, rfl, (of_decide_eq_true hl : i.natAbs.log2 + j.natAbs.log2 < 1000000), fin⟩)
    · cases h'
  · rename_i xs k
    have h' : (if (-(2 ^ 63) ≤ k ∧ k < 2 ^ 63) ∧ xs.length * k.toNat ≤ sizeLine then some (D.lst (List.replicate k.toNat xs).flatten) else none) = some res := h
    split at h'
    · cases h'
      rename_i hl
      obtain ⟨⟨h1, h2⟩, h3⟩ := hl
      obtain ⟨a, vs, rfl, sa, da⟩ := hx.lst_of
      cases hy
      have la := da.length
      exact .inr (.inr ⟨a, k, vs, rfl, rfl, wo_same O H _ _ sa, h1, h2, by rw [la]; exact h3, fun p np => q _ _ (same_upd np) (DV.newL hd np (flat_rep da _))⟩)
    · cases h'
def rDivD : R2 := fun x y H Q => rI CDivN (fun i j => .int (i.fdiv j)) x y H Q ∨ rI CDivW (fun i j => .int (i / j)) x y H Q
theorem o_fdiv : OpR X (binaryOp .FloorDiv) rDivD := op_fdivN.or op_fdivW
theorem s_fdiv {K : Fg} : Op2 K rDivD fdivD := by
  intro O H x y d e res Q hd hx hy h q
  cases d <;> cases e <;> try (cases h; done)
  rename_i i j
  have h' : (if divOk i j = true then some (D.int (i.fdiv j)) else none) = some res := h
  split at h'
  · cases h'
    rename_i hl
    cases hx; cases hy
    have fin := q _ H (Same.refl H) (.int (i.fdiv j))
    unfold divOk at hl
    rw [Bool.or_eq_true] at hl
    rcases hl with hl | hl
    · exact .inl ⟨_, _, rfl, rfl, (of_decide_eq_true hl : j ≠ 0 ∧ j.natAbs < 1073741824), fin⟩
    · have hl := of_decide_eq_true hl
      rw [Int.fdiv_eq_ediv_of_nonneg i (by omega)] at fin
      exact .inr ⟨_, _, rfl, rfl, hl, fin⟩
  · cases h'
theorem s_mod {K : Fg} : Op2 K (rI (fun _ j => j ≠ 0) fun i j => .int (i.fmod j)) modD := by
  intro O H x y d e res Q hd hx hy h q
  cases d <;> cases e <;> try (cases h; done)
  rename_i i j
  have h' : (if j ≠ 0 then some (D.int (i.fmod j)) else none) = some res := h
  split at h'
  · cases h'
    rename_i hl
    cases hx; cases hy
    exact ⟨_, _, rfl, rfl, hl, q _ H (Same.refl H) (.int _)⟩
  · cases h'
theorem s_pow {K : Fg} : Op2 K (rI CPow fun i j => .int (i ^ j.toNat)) powD := by
  intro O H x y d e res Q hd hx hy h q
  cases d <;> cases e <;> try (cases h; done)
  rename_i i j
  have h' : (if 0 ≤ j ∧ j ≤ 1000000 ∧ i.natAbs < 2 ^ 64 then some (D.int (i ^ j.toNat)) else none) = some res := h
  split at h'
  · cases h'
    rename_i hl
    cases hx; cases hy
    exact ⟨_, _, rfl, rfl, hl, q _ H (Same.refl H) (.int _)⟩
  · cases h'
theorem s_shl {K : Fg} : Op2 K (rI CPow fun i j => .int (i * 2 ^ j.toNat)) shlD := by
  intro O H x y d e res Q hd hx hy h q
  cases d <;> cases e <;> try (cases h; done)
  rename_i i j
  have h' : (if 0 ≤ j ∧ j ≤ 1000000 ∧ i.natAbs < 2 ^ 64 then some (D.int (i * 2 ^ j.toNat)) else none) = some res := h
  split at h'
  · cases h'
    rename_i hl
    cases hx; cases hy
    exact ⟨_, _, rfl, rfl, hl, q _ H (Same.refl H) (.int _)⟩
  · cases h'
theorem s_or {K : Fg} : Op2 K (rI0 fun i j => .int (Builtin.bitOr i j)) orD := by
  intro O H x y d e res Q hd hx hy h q
  cases d <;> cases e <;> try (cases h; done)
  cases hx; cases hy; cases h
  exact ⟨_, _, rfl, rfl, q _ H (Same.refl H) (.int _)⟩
end

/-! ### order -/
def cmpI (p : Int → Int → Bool) : D → D → Option D
  | .int i, .int j => some (.bl (p i j))
  | _, _ => none
abbrev ltD := cmpI fun i j => decide (i < j)
abbrev leD := cmpI fun i j => decide (i ≤ j)
abbrev gtD := cmpI fun i j => decide (j < i)
abbrev geD := cmpI fun i j => decide (j ≤ i)
theorem s_cmpI {K : Fg} (p : Int → Int → Bool) : Op2 K (rI0 fun i j => .bl (p i j)) (cmpI p) := by
  intro O H x y d e res Q hd hx hy h q
  cases d <;> cases e <;> try (cases h; done)
  cases hx; cases hy; cases h
  exact ⟨_, _, rfl, rfl, q _ H (Same.refl H) (.bl _)⟩
theorem b_cmpI {p : Int → Int → Bool} : ∀ d e z, cmpI p d e = some z → ∃ b, z = .bl b := by
  intro d e z h
  cases d <;> cases e <;> try (cases h; done)
  cases h
  exact ⟨_, rfl⟩

/-! ### equality -/
def flat : D → Bool
  | .non => true | .bl _ => true | .int _ => true | .str _ => true | _ => false
def flV : D → V
  | .non => .non | .bl b => .bl b | .int i => .int i | .str x => .str x | _ => .non
def eqF : D → D → Bool
  | .non, .non => true
  | .bl a, .bl b => a == b
  | .bl a, .int b => (if a then 1 else 0) == b
  | .int a, .bl b => a == (if b then 1 else 0)
  | .int a, .int b => a == b
  | .str a, .str b => a == b
  | _, _ => false
theorem flat_of {K : Fg} {H : Hp} {v : V} {d : D} (h : DV K H v d) (f : flat d = true) : v = flV d ∧ flatV v = true := by
  cases d <;> (try (cases f; done)) <;> cases h <;> exact ⟨rfl, rfl⟩
theorem eqV_flV {d e : D} (f : flat d = true) (g : flat e = true) : eqV (flV d) (flV e) = eqF d e := by
  cases d <;> (try (cases f; done)) <;> cases e <;> (try (cases g; done)) <;> rfl
mutual
def toPy : D → Option PyData
  | .non => some .none
  | .bl b => some (.bool b)
  | .int i => some (.int i)
  | .str x => some (.str x)
  | .tup xs => (toPys xs).map .tuple
  | .lst xs => (toPys xs).map .list
  | _ => none
def toPys : List D → Option (List PyData)
  | [] => some []
  | x :: xs => (toPy x).bind fun p => (toPys xs).map fun ps => p :: ps
end
section
variable {K : Fg} {H : Hp}
mutual
theorem dp_of : ∀ (d : D) (v : V) (p : PyData), DV K H v d → toPy d = some p → Dp K H v p
  | .non, _, _, h, e => by cases h; cases e; exact .non
  | .bl b, _, _, h, e => by cases h; cases e; exact .bl b
  | .int b, _, _, h, e => by cases h; cases e; exact .int b
  | .str b, _, _, h, e => by cases h; cases e; exact .str b
  | .fn _, _, _, _, e => by cases e
  | .scr _, _, _, _, e => by cases e
  | .tup ds, _, _, h, e => by
    rw [toPy] at e
    obtain ⟨ps, e1, e2⟩ := Option.map_eq_some_iff.mp e
    subst e2
    obtain ⟨a, vs, rfl, s, t⟩ := h.tup_of
    exact .tup s (dps_of ds vs ps t e1)
  | .lst ds, _, _, h, e => by
    rw [toPy] at e
    obtain ⟨ps, e1, e2⟩ := Option.map_eq_some_iff.mp e
    subst e2
    obtain ⟨a, vs, rfl, s, t⟩ := h.lst_of
    exact .lst (.of s) (dps_of ds vs ps t e1)
theorem dps_of : ∀ (ds : List D) (vs : List V) (ps : List PyData), DVs K H vs ds → toPys ds = some ps → DpAll K H vs ps
  | [], _, _, h, e => by cases h; cases e; exact .nil
  | d :: ds, _, _, h, e => by
    rw [toPys] at e
    obtain ⟨p, e1, e2⟩ := Option.bind_eq_some_iff.mp e
    obtain ⟨ps, e3, e4⟩ := Option.map_eq_some_iff.mp e2
    subst e4
    cases h with
    | cons a b => exact .cons (dp_of d _ p a e1) (dps_of ds _ ps b e3)
end
end
/-- == by data: scalars of one kind, or data at any depth -/
def scalD : D → D → Bool
  | .int _, .int _ => true | .bl _, .bl _ => true | .str _, .str _ => true | _, _ => false
def eqB (d e : D) : Option Bool := if scalD d e = true then some (eqF d e) else
  match toPy d, toPy e with
  | some a, some b => if (SeqAt.shaped a && SeqAt.shaped b) = true then some (PyData.eqv a b) else none
  | _, _ => none
def eqD (d e : D) : Option D := (eqB d e).map .bl
def neD (d e : D) : Option D := (eqB d e).map fun b => .bl (!b)
def rEqM (K : Fg) : R2 := fun x y H Q => rEq x y H Q ∨ rEqD K x y H Q
def rNeM (K : Fg) : R2 := fun x y H Q => rNe x y H Q ∨ rNeD K x y H Q
section
variable {X : Cx}
theorem o_eq (hu : X.A.units + 64 < cLine) : OpR X (compareOp .Eq) (rEqM X.K) := op_eq.or (op_eqD hu)
theorem o_ne (hu : X.A.units + 64 < cLine) : OpR X (compareOp .NotEq) (rNeM X.K) := op_ne.or (op_neD hu)
end
theorem eqB_scal {K : Fg} {H : Hp} {x y : V} {d e : D} (hx : DV K H x d) (hy : DV K H y e) (s : scalD d e = true) : scal x y = true ∧ decide (x = y) = eqF d e := by
  cases d <;> (try (cases s; done)) <;> cases e <;> (try (cases s; done)) <;> cases hx <;> cases hy
  · exact ⟨rfl, by rw [dec_bl]; rfl⟩
  · exact ⟨rfl, by rw [dec_int]; rfl⟩
  · exact ⟨rfl, by rw [dec_str]; rfl⟩
theorem eqB_data {d e : D} {b : Bool} (s : scalD d e = false) (h : eqB d e = some b) : ∃ p q, toPy d = some p ∧ toPy e = some q ∧ SeqAt.shaped p = true ∧ SeqAt.shaped q = true ∧ b = PyData.eqv p q := by
  unfold eqB at h
  rw [if_neg (by rw [s]; decide)] at h
  cases h1 : toPy d with
  | none => rw [h1] at h; cases h
  | some p =>
    cases h2 : toPy e with
    | none => rw [h1, h2] at h; cases h
    | some q =>
      rw [h1, h2] at h
      have h' : (if (SeqAt.shaped p && SeqAt.shaped q) = true then some (PyData.eqv p q) else none) = some b := h
      split at h'
      · rename_i c
        obtain ⟨c1, c2⟩ := Bool.and_eq_true_iff.mp c
        cases h'
        exact ⟨p, q, rfl, rfl, c1, c2, rfl⟩
      · cases h'
theorem s_eq {K : Fg} : Op2 K (rEqM K) eqD := by
  intro O H x y d e res Q hd hx hy h q
  obtain ⟨b, hb, rfl⟩ := Option.map_eq_some_iff.mp h
  cases s : scalD d e with
  | true =>
    obtain ⟨h1, h2⟩ := eqB_scal hx hy s
    have : b = eqF d e := by
      unfold eqB at hb
      rw [if_pos s] at hb
      exact (Option.some.inj hb).symm
    subst this
    exact .inl ⟨h1, by rw [h2]; exact q _ H (Same.refl H) (.bl _)⟩
  | false =>
    obtain ⟨p, r, h1, h2, h3, h4, rfl⟩ := eqB_data s hb
    exact .inr ⟨p, r, dp_of d x p (DV.mono (wo_same O H) _ _ hx) h1, dp_of e y r (DV.mono (wo_same O H) _ _ hy) h2, h3, h4, q _ H (Same.refl H) (.bl _)⟩
theorem s_ne {K : Fg} : Op2 K (rNeM K) neD := by
  intro O H x y d e res Q hd hx hy h q
  obtain ⟨b, hb, rfl⟩ := Option.map_eq_some_iff.mp h
  cases s : scalD d e with
  | true =>
    obtain ⟨h1, h2⟩ := eqB_scal hx hy s
    have : b = eqF d e := by
      unfold eqB at hb
      rw [if_pos s] at hb
      exact (Option.some.inj hb).symm
    subst this
    exact .inl ⟨h1, by rw [h2]; exact q _ H (Same.refl H) (.bl _)⟩
  | false =>
    obtain ⟨p, r, h1, h2, h3, h4, rfl⟩ := eqB_data s hb
    exact .inr ⟨p, r, dp_of d x p (DV.mono (wo_same O H) _ _ hx) h1, dp_of e y r (DV.mono (wo_same O H) _ _ hy) h2, h3, h4, q _ H (Same.refl H) (.bl _)⟩
theorem b_eq : ∀ d e z, eqD d e = some z → ∃ b, z = .bl b := fun d e z h => by
  obtain ⟨b, _, rfl⟩ := Option.map_eq_some_iff.mp h
  exact ⟨b, rfl⟩
theorem b_ne : ∀ d e z, neD d e = some z → ∃ b, z = .bl b := fun d e z h => by
  obtain ⟨b, _, rfl⟩ := Option.map_eq_some_iff.mp h
  exact ⟨_, rfl⟩

/-! ### is None, in -/
def isNo : D → Bool
  | .non => true
  | _ => false
def isD : D → D → Option D
  | d, .non => some (.bl (isNo d))
  | _, _ => none
def isntD : D → D → Option D
  | d, .non => some (.bl (!isNo d))
  | _, _ => none
theorem isNo_of {K : Fg} {H : Hp} {v : V} {d : D} (h : DV K H v d) : decide (v = V.non) = isNo d := by
  cases d <;> cases h <;> rfl
theorem s_is {K : Fg} : Op2 K (fun x y H Q => y = .non ∧ Q (.bl (decide (x = .non))) H) isD := by
  intro O H x y d e res Q hd hx hy h q
  cases e <;> (try (cases d <;> cases h; done))
  cases hy
  have h' : some (D.bl (isNo d)) = some res := by cases d <;> exact h
  cases h'
  exact ⟨rfl, by rw [isNo_of hx]; exact q _ H (Same.refl H) (.bl _)⟩
theorem s_isnt {K : Fg} : Op2 K (fun x y H Q => y = .non ∧ Q (.bl (!decide (x = .non))) H) isntD := by
  intro O H x y d e res Q hd hx hy h q
  cases e <;> (try (cases d <;> cases h; done))
  cases hy
  have h' : some (D.bl (!isNo d)) = some res := by cases d <;> exact h
  cases h'
  exact ⟨rfl, by rw [isNo_of hx]; exact q _ H (Same.refl H) (.bl _)⟩
theorem b_is : ∀ d e z, isD d e = some z → ∃ b, z = .bl b := fun d e z h => by
  cases e <;> (try (cases d <;> cases h; done))
  cases d <;> cases h <;> exact ⟨_, rfl⟩
theorem b_isnt : ∀ d e z, isntD d e = some z → ∃ b, z = .bl b := fun d e z h => by
  cases e <;> (try (cases d <;> cases h; done))
  cases d <;> cases h <;> exact ⟨_, rfl⟩
def inB (d : D) (xs : List D) : Option Bool := if (flat d && xs.all flat) = true then some (xs.any fun y => eqF y d) else none
def inD : D → D → Option D
  | d, .tup xs => (inB d xs).map .bl
  | d, .lst xs => (inB d xs).map .bl
  | _, _ => none
def ninD : D → D → Option D
  | d, .tup xs => (inB d xs).map fun b => .bl (!b)
  | d, .lst xs => (inB d xs).map fun b => .bl (!b)
  | _, _ => none
theorem flats_of {K : Fg} {H : Hp} : ∀ {vs : List V} {ds : List D}, DVs K H vs ds → ds.all flat = true → vs = ds.map flV ∧ vs.all flatV = true
  | _, _, .nil, _ => ⟨rfl, rfl⟩
  | _, _, .cons a t, f => by
    rw [List.all_cons, Bool.and_eq_true] at f
    obtain ⟨e1, f1⟩ := flat_of a f.1
    obtain ⟨e2, f2⟩ := flats_of t f.2
    refine ⟨by rw [e1, e2]; rfl, ?_⟩
    rw [List.all_cons, f1, f2]
    rfl
theorem any_flV {d : D} (f : flat d = true) : ∀ {ds : List D}, ds.all flat = true → ((ds.map flV).any fun y => eqV y (flV d)) = ds.any fun y => eqF y d
  | [], _ => rfl
  | e :: ds, g => by
    rw [List.all_cons, Bool.and_eq_true] at g
    rw [List.map_cons, List.any_cons, List.any_cons, eqV_flV g.1 f, any_flV f g.2]
theorem in_core {K : Fg} {H : Hp} {x : V} {vs : List V} {d : D} {ds : List D} {b : Bool} (hx : DV K H x d) (hv : DVs K H vs ds) (h : inB d ds = some b) : flatV x = true ∧ vs.all flatV = true ∧ inV x vs = b := by
  unfold inB at h
  split at h
  · rename_i c
    obtain ⟨c1, c2⟩ := Bool.and_eq_true_iff.mp c
    cases h
    obtain ⟨rfl, f1⟩ := flat_of hx c1
    obtain ⟨rfl, f2⟩ := flats_of hv c2
    exact ⟨f1, f2, any_flV c1 c2⟩
  · cases h
theorem s_in {K : Fg} : Op2 K (rIn K false) inD := by
  intro O H x y d e res Q hd hx hy h q
  cases e <;> (try (cases d <;> cases h; done))
  · rename_i xs
    have h' : (inB d xs).map D.bl = some res := by cases d <;> exact h
    obtain ⟨b, hb, rfl⟩ := Option.map_eq_some_iff.mp h'
    obtain ⟨a, vs, rfl, sa, da⟩ := hy.tup_of
    obtain ⟨f1, f2, rfl⟩ := in_core hx da hb
    exact ⟨a, vs, rfl, .inr (sqT_mono (wo_same O H) sa), f1, f2, q _ H (Same.refl H) (.bl _)⟩
  · rename_i xs
    have h' : (inB d xs).map D.bl = some res := by cases d <;> exact h
    obtain ⟨b, hb, rfl⟩ := Option.map_eq_some_iff.mp h'
    obtain ⟨a, vs, rfl, sa, da⟩ := hy.lst_of
    obtain ⟨f1, f2, rfl⟩ := in_core hx da hb
    exact ⟨a, vs, rfl, .inl (.of (wo_same O H _ _ sa)), f1, f2, q _ H (Same.refl H) (.bl _)⟩
theorem s_nin {K : Fg} : Op2 K (rIn K true) ninD := by
  intro O H x y d e res Q hd hx hy h q
  cases e <;> (try (cases d <;> cases h; done))
  · rename_i xs
    have h' : (inB d xs).map (fun b => D.bl (!b)) = some res := by cases d <;> exact h
    obtain ⟨b, hb, rfl⟩ := Option.map_eq_some_iff.mp h'
    obtain ⟨a, vs, rfl, sa, da⟩ := hy.tup_of
    obtain ⟨f1, f2, rfl⟩ := in_core hx da hb
    exact ⟨a, vs, rfl, .inr (sqT_mono (wo_same O H) sa), f1, f2, q _ H (Same.refl H) (.bl _)⟩
  · rename_i xs
    have h' : (inB d xs).map (fun b => D.bl (!b)) = some res := by cases d <;> exact h
    obtain ⟨b, hb, rfl⟩ := Option.map_eq_some_iff.mp h'
    obtain ⟨a, vs, rfl, sa, da⟩ := hy.lst_of
    obtain ⟨f1, f2, rfl⟩ := in_core hx da hb
    exact ⟨a, vs, rfl, .inl (.of (wo_same O H _ _ sa)), f1, f2, q _ H (Same.refl H) (.bl _)⟩
theorem b_in : ∀ d e z, inD d e = some z → ∃ b, z = .bl b := fun d e z h => by
  cases e <;> (try (cases d <;> cases h; done)) <;> (rename_i xs; have h' : (inB d xs).map D.bl = some z := (by cases d <;> exact h); obtain ⟨b, _, rfl⟩ := Option.map_eq_some_iff.mp h'; exact ⟨b, rfl⟩)
theorem b_nin : ∀ d e z, ninD d e = some z → ∃ b, z = .bl b := fun d e z h => by
  cases e <;> (try (cases d <;> cases h; done)) <;> (rename_i xs; have h' : (inB d xs).map (fun b => D.bl (!b)) = some z := (by cases d <;> exact h); obtain ⟨b, _, rfl⟩ := Option.map_eq_some_iff.mp h'; exact ⟨_, rfl⟩)
end MB

/-! Expressions by values, further: truth, displays, places, calls. -/
namespace MB
open PySem PySem.Spec PyProof.Rows L2

/-! ### truth -/
theorem truV_of {K : Fg} {H : Hp} {v : V} {d : D} {b : Bool} (h : DV K H v d) (t : truth d = some b) : TruV K v H b := by
  cases d <;> (try (cases t; done)) <;> cases h
  · cases t; rfl
  · cases t; rfl
  · cases t; rfl
  · rename_i ds a vs s hs
    cases t
    refine .inr (.inl ⟨vs, s, ?_⟩)
    cases hs <;> rfl
  · rename_i ds a vs s hs
    cases t
    refine .inl ⟨vs, .of s, ?_⟩
    cases hs <;> rfl
def eNot (fa : EX) : EX := fun ρ => (fa ρ).bind fun d ρ1 => match truth d with
  | some b => .ok (.bl (!b)) ρ1
  | none => .stuck
def eAnd (fa fb : EX) : EX := fun ρ => (fa ρ).bind fun d ρ1 => match truth d with
  | some true => fb ρ1
  | some false => .ok d ρ1
  | none => .stuck
def eOr (fa fb : EX) : EX := fun ρ => (fa ρ).bind fun d ρ1 => match truth d with
  | some true => .ok d ρ1
  | some false => fb ρ1
  | none => .stuck
def eIf (ft fa fb : EX) : EX := fun ρ => (ft ρ).bind fun d ρ1 => match truth d with
  | some true => fa ρ1
  | some false => fb ρ1
  | none => .stuck
section
variable {X : Cx} {hx : Hx} {W : WX} {a b c : Expr} {rest : List Expr} {fa fb fc : EX} {pos : Pos}
/-- an expression of any kind as a test -/
theorem r_tru (ha : PE X a (tX X.K hx W fa)) (he : ∀ whole, isTrue a X.env whole = (do let v ← whole; standAt a.pos; holding [v] (truthy v)) := by intro _; rfl) : PT X a (tT X.K hx W fa) :=
  (pt_truth ha he).imp fun σ H Q h => by
    obtain ⟨F, ρ, ⟨O, r⟩, hp⟩ := h
    refine ⟨F, ρ, ⟨O, r⟩, ?_⟩
    cases e : fa ρ with
    | ok d ρ1 =>
      rw [e] at hp
      obtain ⟨k, hb, hk⟩ := hp
      intro v H1 hv
      obtain ⟨O1, r1, dv⟩ := hv
      exact ⟨k, truV_of (DV.mono (wo_same O1 H1) _ _ dv) hb, hk H1 ⟨O1, r1⟩⟩
    | err x ρ1 => rw [e] at hp; exact hp
    | stuck => rw [e] at hp; exact hp
theorem r_notT (ha : PT X a (tT X.K hx W fa)) : PT X (.UnaryOp .Not a pos) (tT X.K hx W (eNot fa)) :=
  (pt_not ha).imp fun σ H Q h => by
    obtain ⟨F, ρ, ⟨O, r⟩, hp⟩ := h
    refine bindTT r hp (fun d ρ1 q => ?_) fun d b ρ1 H1 O1 tb r1 s1 q => ?_
    · cases t : truth d with
      | none => rw [t] at q; exact q.elim
      | some b => exact ⟨b, rfl⟩
    · rw [tb] at q
      obtain ⟨b', hb', k⟩ := q
      cases hb'
      exact k H1 ⟨O1, r1⟩
theorem r_not (ha : PE X a (tX X.K hx W fa)) : PE X (.UnaryOp .Not a pos) (tX X.K hx W (eNot fa)) :=
  (pe_notT ha).imp fun σ H Q h => by
    obtain ⟨F, ρ, ⟨O, r⟩, hp⟩ := h
    refine bindX r hp fun d ρ1 v H1 O1 r1 s1 dv q => ?_
    cases t : truth d with
    | none => rw [t] at q; exact q.elim
    | some b =>
      rw [t] at q
      exact ⟨b, truV_of (DV.mono (wo_same O1 H1) _ _ dv) t, q _ H1 ⟨O1, r1, .bl _⟩⟩
theorem r_and (ha : PE X a (tX X.K hx W fa)) (hb : PE X (.BoolOp .And (b :: rest) pos) (tX X.K hx W fb)) : PE X (.BoolOp .And (a :: b :: rest) pos) (tX X.K hx W (eAnd fa fb)) :=
  (pe_andT ha hb).imp fun σ H Q h => by
    obtain ⟨F, ρ, ⟨O, r⟩, hp⟩ := h
    refine bindX r hp fun d ρ1 v H1 O1 r1 s1 dv q => ?_
    cases t : truth d with
    | none => rw [t] at q; exact q.elim
    | some b =>
      rw [t] at q
      refine ⟨b, truV_of (DV.mono (wo_same O1 H1) _ _ dv) t, ?_⟩
      cases b with
      | true =>
        first
          | exact ⟨F, ρ1, ⟨O1, r1⟩, q⟩
          | (rw [if_pos rfl]; exact ⟨F, ρ1, ⟨O1, r1⟩, q⟩)
      | false =>
        first
          | exact q _ H1 ⟨O1, r1, dv⟩
          | (rw [if_neg Bool.false_ne_true]; exact q _ H1 ⟨O1, r1, dv⟩)
theorem r_or (ha : PE X a (tX X.K hx W fa)) (hb : PE X (.BoolOp .Or (b :: rest) pos) (tX X.K hx W fb)) : PE X (.BoolOp .Or (a :: b :: rest) pos) (tX X.K hx W (eOr fa fb)) :=
  (pe_orT ha hb).imp fun σ H Q h => by
    obtain ⟨F, ρ, ⟨O, r⟩, hp⟩ := h
    refine bindX r hp fun d ρ1 v H1 O1 r1 s1 dv q => ?_
    cases t : truth d with
    | none => rw [t] at q; exact q.elim
    | some b =>
      rw [t] at q
      refine ⟨b, truV_of (DV.mono (wo_same O1 H1) _ _ dv) t, ?_⟩
      cases b with
      | true =>
        first
          | exact q _ H1 ⟨O1, r1, dv⟩
          | (rw [if_pos rfl]; exact q _ H1 ⟨O1, r1, dv⟩)
      | false =>
        first
          | exact ⟨F, ρ1, ⟨O1, r1⟩, q⟩
          | (rw [if_neg Bool.false_ne_true]; exact ⟨F, ρ1, ⟨O1, r1⟩, q⟩)
theorem r_one {op} (ha : PE X a (tX X.K hx W fa)) : PE X (.BoolOp op [a] pos) (tX X.K hx W fa) := pe_one ha
theorem r_andT (ha : PT X a (tT X.K hx W fa)) (hb : PW X (.BoolOp .And (b :: rest) pos) (tT X.K hx W fb)) : PW X (.BoolOp .And (a :: b :: rest) pos) (tT X.K hx W (eAnd fa fb)) :=
  (pw_and ha hb).imp fun σ H Q h => by
    obtain ⟨F, ρ, ⟨O, r⟩, hp⟩ := h
    refine bindTT r hp (fun d ρ1 q => ?_) fun d b ρ1 H1 O1 tb r1 s1 q => ?_
    · cases t : truth d with
      | none => rw [t] at q; exact q.elim
      | some b => exact ⟨b, rfl⟩
    · rw [tb] at q
      cases b with
      | true =>
        rw [if_pos rfl]
        exact ⟨F, ρ1, ⟨O1, r1⟩, q⟩
      | false =>
        rw [if_neg Bool.false_ne_true]
        obtain ⟨b', hb', k⟩ := q
        rw [tb] at hb'
        cases hb'
        exact k H1 ⟨O1, r1⟩
theorem r_orT (ha : PT X a (tT X.K hx W fa)) (hb : PW X (.BoolOp .Or (b :: rest) pos) (tT X.K hx W fb)) : PW X (.BoolOp .Or (a :: b :: rest) pos) (tT X.K hx W (eOr fa fb)) :=
  (pw_or ha hb).imp fun σ H Q h => by
    obtain ⟨F, ρ, ⟨O, r⟩, hp⟩ := h
    refine bindTT r hp (fun d ρ1 q => ?_) fun d b ρ1 H1 O1 tb r1 s1 q => ?_
    · cases t : truth d with
      | none => rw [t] at q; exact q.elim
      | some b => exact ⟨b, rfl⟩
    · rw [tb] at q
      cases b with
      | true =>
        rw [if_pos rfl]
        obtain ⟨b', hb', k⟩ := q
        rw [tb] at hb'
        cases hb'
        exact k H1 ⟨O1, r1⟩
      | false =>
        rw [if_neg Bool.false_ne_true]
        exact ⟨F, ρ1, ⟨O1, r1⟩, q⟩
theorem r_andT1 (ha : PT X a (tT X.K hx W fa)) : PW X (.BoolOp .And [a] pos) (tT X.K hx W fa) := pw_and1 ha
theorem r_orT1 (ha : PT X a (tT X.K hx W fa)) : PW X (.BoolOp .Or [a] pos) (tT X.K hx W fa) := pw_or1 ha
theorem r_ifE (hc : PT X c (tT X.K hx W fc)) (ha : PE X a (tX X.K hx W fa)) (hb : PE X b (tX X.K hx W fb)) : PE X (.IfExp c a b pos) (tX X.K hx W (eIf fc fa fb)) :=
  (pe_ifExp hc ha hb).imp fun σ H Q h => by
    obtain ⟨F, ρ, ⟨O, r⟩, hp⟩ := h
    refine bindT r hp (fun d ρ1 q => ?_) fun d b ρ1 H1 O1 tb r1 s1 q => ?_
    · cases t : truth d with
      | none => rw [t] at q; exact q.elim
      | some b => exact ⟨b, rfl⟩
    · rw [tb] at q
      cases b with
      | true =>
        rw [if_pos rfl]
        exact ⟨F, ρ1, ⟨O1, r1⟩, q⟩
      | false =>
        rw [if_neg Bool.false_ne_true]
        exact ⟨F, ρ1, ⟨O1, r1⟩, q⟩
/-! ### a chain of two comparisons -/
def eChain (f g : D → D → Option D) (fa fb fc : EX) : EX := fun ρ => (fa ρ).bind fun d ρ1 => (fb ρ1).bind fun e ρ2 => match f d e with
  | some (.bl true) => (fc ρ2).bind fun z ρ3 => match g e z with
    | some y => .ok y ρ3
    | none => .stuck
  | some (.bl false) => .ok (.bl false) ρ2
  | _ => .stuck
theorem r_chainT {op op' : CmpOp} {r r' : R2} {f g : D → D → Option D} (ho : OpR X (compareOp op) r) (ho' : OpR X (compareOp op') r') (h2 : Op2 X.K r f) (h2' : Op2 X.K r' g) (hbl : ∀ d e z, g d e = some z → ∃ b, z = .bl b)
    (ha : PE X a (tX X.K hx W fa)) (hb : PE X b (tX X.K hx W fb)) (hc : PE X c (tX X.K hx W fc)) (hm : lastMarks [op, op'] [b, c] = false := by with_unfolding_all rfl) :
    PT X (.Compare a [op, op'] [b, c] pos) (tT X.K hx W (eChain f g fa fb fc)) :=
  (pt_chain ho ho' ha hb hc hm).imp fun σ H Q h => by
    obtain ⟨F, ρ, ⟨O, r⟩, hp⟩ := h
    refine bindXT r hp fun d ρ1 v H1 O1 r1 s1 dv hp1 => ?_
    refine bindXT r1 hp1 fun e ρ2 u H2 O2 r2 s2 du hp2 => ?_
    cases q : f d e with
    | none => rw [q] at hp2; exact hp2.elim
    | some z =>
      rw [q] at hp2
      refine h2 O2 H2 v u d e z _ r2.dom (DV.mono s2 _ _ dv) du q fun v' H' s' dv' => ?_
      cases z <;> (try exact (hp2 : False).elim)
      rename_i b
      cases dv'
      refine ⟨b, rfl, ?_⟩
      have r3 := r2.grow s'
      cases b with
      | false =>
        rw [if_neg Bool.false_ne_true]
        obtain ⟨b', hb', k⟩ := hp2
        cases hb'
        exact ⟨false, rfl, k H' ⟨O2, r3⟩⟩
      | true =>
        rw [if_pos rfl]
        refine bindXT r3 hp2 fun z ρ3 w' H4 O4 r4 s4 dw hp3 => ?_
        cases q2 : g e z with
        | none => rw [q2] at hp3; exact hp3.elim
        | some y =>
          rw [q2] at hp3
          obtain ⟨b2, rfl⟩ := hbl e z y q2
          refine h2' O4 H4 u w' e z _ _ r4.dom (DV.mono ((wo_mono s').trans s4) _ _ du) dw q2 fun v5 H5 s5 dv5 => ?_
          cases dv5
          obtain ⟨b', hb', k⟩ := hp3
          cases hb'
          exact ⟨b2, rfl, k H5 ⟨O4, r4.grow s5⟩⟩
end

/-! ### one value -/
def Op1 (K : Fg) (r : V → Hp → VK → Prop) (op : D → Option D) : Prop := ∀ (O : List Addr) (H : Hp) (x : V) (d res : D) (Q : VK), (∀ a ∈ O, ∃ o, H a = some o) → DV K (wo O H) x d → op d = some res →
  (∀ v H', Same H H' → DV K (wo O H') v res → Q v H') → r x H Q
def e1 (op : D → Option D) (fa : EX) : EX := fun ρ => (fa ρ).bind fun d ρ1 => match op d with
  | some z => .ok z ρ1
  | none => .stuck
def negD : D → Option D
  | .int i => some (.int (-i))
  | _ => none
theorem s_neg {K : Fg} : Op1 K (rU fun i => .int (-i)) negD := by
  intro O H x d res Q hd hx h q
  cases d <;> (try (cases h; done))
  cases hx; cases h
  exact ⟨_, rfl, q _ H (Same.refl H) (.int _)⟩
theorem r_un {X : Cx} {hx : Hx} {W : WX} {op : UnaryOp} {r : V → Hp → VK → Prop} {f : D → Option D} {a : Expr} {fa : EX} {pos : Pos} (ho : UnR X (unaryOp op) r) (h1 : Op1 X.K r f) (ha : PE X a (tX X.K hx W fa)) :
    PE X (.UnaryOp op a pos) (tX X.K hx W (e1 f fa)) := (pe_un ho ha).imp fun σ H Q h => by
  obtain ⟨F, ρ, ⟨O, r0⟩, hp⟩ := h
  refine bindX r0 hp fun d ρ1 v H1 O1 r1 s1 dv hp1 => ?_
  cases q : f d with
  | none => rw [q] at hp1; exact hp1.elim
  | some z =>
    rw [q] at hp1
    exact h1 O1 H1 v d z Q r1.dom dv q fun v' H' s' dv' => hp1 v' H' ⟨O1, r1.grow s', dv'⟩

/-! ### several values, from the left -/
def evs : List EX → (List D → En → Rs) → En → Rs
  | [], k, ρ => k [] ρ
  | f :: fs, k, ρ => (f ρ).bind fun d ρ1 => evs fs (fun ds ρ2 => k (d :: ds) ρ2) ρ1
def tA (K : Fg) (hx : Hx) (W : WX) (fs : List EX) : TA := fun σ H Qa => ∃ (F : Fm) (ρ : En) (k : List D → En → Rs) (Q : VK), Rl K hx F ρ σ H ∧ Po K hx F W σ (evs fs k ρ) Q ∧
  ∀ (F1 : Fm) (ds : List D) (ρ1 : En) (vs : List V) (H1 : Hp) (O1 : List Addr), ds.length = fs.length → Same F.f F1.f → F.g = F1.g → F.io = F1.io → RO K hx F1 ρ1 σ H1 O1 → DVs K (wo O1 H1) vs ds → Po K hx F1 W σ (k ds ρ1) Q → Qa vs H1
theorem _root_.L2.PA.imp {X : Cx} {es : List Expr} {t t' : TA} (h : PA X es t) (i : ∀ σ H Q, t' σ H Q → t σ H Q) : PA X es t' := ⟨fun pos pins s σ H Q I q => h.run pos pins s σ H Q I (i σ H Q q)⟩
section
variable {X : Cx} {hx : Hx} {W : WX} {e : Expr} {es : List Expr} {f : EX} {fs : List EX} {pos : Pos}
theorem a_nil : PA X [] (tA X.K hx W []) := pa_nil.imp fun σ H Q h => by
  obtain ⟨F, ρ, k, Q0, ⟨O, r⟩, hp, hk⟩ := h
  exact hk F [] ρ [] H O rfl (fun _ _ z => z) rfl rfl r .nil hp
theorem a_cons (ha : PE X e (tX X.K hx W f)) (hr : PA X es (tA X.K hx W fs)) (hs : starEach (e :: es) X.env = (false, eval e X.env) :: starEach es X.env := by rfl) : PA X (e :: es) (tA X.K hx W (f :: fs)) :=
  (pa_cons ha hr hs).imp fun σ H Qa h => by
    obtain ⟨F, ρ, k, Q, ⟨O, r⟩, hp, hk⟩ := h
    refine bindX r hp fun d ρ1 v H1 O1 r1 s1 dv hp1 => ?_
    refine ⟨⟨wo O1 H1, F.g, F.io⟩, ρ1, fun ds ρ2 => k (d :: ds) ρ2, Q, ⟨O1, r1.re⟩, hp1.fr r1.fr rfl rfl, fun F1 ds ρ2 vs H2 O2 ln s2 g2 i2 r2 dvs q => ?_⟩
    exact hk F1 (d :: ds) ρ2 (v :: vs) H2 O2 (by rw [List.length_cons, List.length_cons, ln]) (r1.fr.trans s2) g2 i2 r2 (.cons (DV.mono (s2.trans r2.fr) _ _ dv) dvs) q
/-- a reading over arguments from one of all of them -/
theorem tA_of {K : Fg} {F : Fm} {ρ : En} {σ : MB.St} {H : Hp} {O : List Addr} {k : List D → En → Rs} {Q : VK} {Qa : List V → Hp → Prop} (r : RO K hx F ρ σ H O) (hp : Po K hx F W σ (evs fs k ρ) Q)
    (hk : ∀ (F1 : Fm) (ds : List D) (ρ1 : En) (vs : List V) (H1 : Hp) (O1 : List Addr), ds.length = fs.length → RO K hx F1 ρ1 σ H1 O1 → DVs K (wo O1 H1) vs ds → Po K hx F1 W σ (k ds ρ1) Q → Qa vs H1) : tA K hx W fs σ H Qa :=
  ⟨F, ρ, k, Q, ⟨O, r⟩, hp, fun F1 ds ρ1 vs H1 O1 ln _ _ _ r1 d1 p1 => hk F1 ds ρ1 vs H1 O1 ln r1 d1 p1⟩
def eTup (fs : List EX) : EX := evs fs fun ds ρ => if ds.length ≤ 1000 then .ok (.tup ds) ρ else .stuck
def eLst (fs : List EX) : EX := evs fs fun ds ρ => if ds.length ≤ 1000 then .ok (.lst ds) ρ else .stuck
theorem le_line {n : Nat} (h : n ≤ 1000) : n ≤ sizeLine := by rw [sizeLine_eq]; omega
theorem r_tup {n : Nat} (h : PA X es (tA X.K hx W fs)) : PE X (.Tuple es n pos) (tX X.K hx W (eTup fs)) := (pe_tup h).imp fun σ H Q h => by
  obtain ⟨F, ρ, ⟨O, r⟩, hp⟩ := h
  refine tA_of r hp fun F1 ds ρ1 vs H1 O1 _ r1 dvs q => ?_
  split at q
  · rename_i hl
    refine ⟨le_line (by rw [dvs.length]; exact hl), fun p np => ?_⟩
    exact q _ _ ⟨O1, r1.grow (same_upd np), DV.newT r1.dom np dvs⟩
  · exact q.elim
theorem r_lst (h : PA X es (tA X.K hx W fs)) : PE X (.List es pos) (tX X.K hx W (eLst fs)) := (pe_lst h).imp fun σ H Q h => by
  obtain ⟨F, ρ, ⟨O, r⟩, hp⟩ := h
  refine tA_of r hp fun F1 ds ρ1 vs H1 O1 _ r1 dvs q => ?_
  split at q
  · rename_i hl
    refine ⟨le_line (by rw [dvs.length]; exact hl), fun p np => ?_⟩
    exact q _ _ ⟨O1, r1.grow (same_upd np), DV.newL r1.dom np dvs⟩
  · exact q.elim
end

/-! ### calls of built-ins -/
def CallD (K : Fg) (r : List V → Hp → VK → Prop) (f : List D → Option D) : Prop := ∀ (O : List Addr) (H : Hp) (vs : List V) (ds : List D) (res : D) (Q : VK), (∀ a ∈ O, ∃ o, H a = some o) → DVs K (wo O H) vs ds → f ds = some res →
  (∀ v H', Same H H' → DV K (wo O H') v res → Q v H') → r vs H Q
def eCall (f : List D → Option D) (fs : List EX) : EX := evs fs fun ds ρ => match f ds with
  | some d => .ok d ρ
  | none => .stuck
section
variable {X : Cx} {hx : Hx} {W : WX} {e : Expr} {es : List Expr} {fs : List EX} {pos p : Pos} {x : Str} {r : List V → Hp → VK → Prop} {f : List D → Option D}
theorem t_call (hf : CallD X.K r f) {σ : MB.St} {H : Hp} {Q : VK} (h : tX X.K hx W (eCall f fs) σ H Q) : tCB r (tA X.K hx W fs) σ H Q := by
  obtain ⟨F, ρ, ⟨O, r0⟩, hp⟩ := h
  refine tA_of r0 hp fun F1 ds ρ1 vs H1 O1 _ r1 dvs q => ?_
  cases e : f ds with
  | none => rw [e] at q; exact q.elim
  | some d =>
    rw [e] at q
    exact hf O1 H1 vs ds d Q r1.dom dvs e fun v' H' s' dv' => q v' H' ⟨O1, r1.grow s', dv'⟩
theorem r_callB {id : String} (hc : CallR X (.builtin id) r) (hf : CallD X.K r f) (hm : X.mg x = none) (hv : bootBuiltins x = some (.builtin id)) (ha : PA X (e :: es) (tA X.K hx W fs)) (hg : Gl X x := by rfl) (hn : x ≠ "__name__" := by decide) (hdb : (x == ("__debug__" : Str)) = false := by decide)
    (he : starEach (e :: es) X.env = (false, eval e X.env) :: starEach es X.env := by rfl) (hpl : (backTo pos (starEach es X.env)).any (·.1) = false := by rfl) : PE X (.Call (.Name x p) (e :: es) [] pos) (tX X.K hx W (eCall f fs)) :=
  (pe_callB hc hg hm hv ha hn hdb he hpl).imp fun _ _ _ h => t_call hf h
theorem r_callTy {T : String} (hc : CallR X (.type T) r) (hf : CallD X.K r f) (hm : X.mg x = none) (hv : bootBuiltins x = some (.type T)) (ha : PA X (e :: es) (tA X.K hx W fs)) (hg : Gl X x := by rfl) (hn : x ≠ "__name__" := by decide) (hdb : (x == ("__debug__" : Str)) = false := by decide)
    (he : starEach (e :: es) X.env = (false, eval e X.env) :: starEach es X.env := by rfl) (hpl : (backTo pos (starEach es X.env)).any (·.1) = false := by rfl) : PE X (.Call (.Name x p) (e :: es) [] pos) (tX X.K hx W (eCall f fs)) :=
  (pe_callTy hc hg hm hv ha hn hdb he hpl).imp fun _ _ _ h => t_call hf h
end
end MB

/-! Built-in functions, places, slices, by values. -/
namespace MB
open PySem PySem.Spec PyProof.Rows L2

/-! ### the built-in functions -/
def asInts : List D → Option (List Int)
  | [] => some []
  | .int i :: r => (asInts r).map fun ns => i :: ns
  | _ :: _ => none
theorem asInts_ok : ∀ {ds : List D} {ns : List Int}, asInts ds = some ns → ds = ns.map D.int
  | [], _, h => by cases h; rfl
  | d :: ds, ns, h => by
    cases d <;> (try (cases h; done))
    rename_i i
    have h' : (asInts ds).map (fun ns => i :: ns) = some ns := h
    obtain ⟨ms, e1, e2⟩ := Option.map_eq_some_iff.mp h'
    subst e2
    rw [asInts_ok e1]
    rfl
theorem asInts_map : ∀ (ns : List Int), asInts (ns.map D.int) = some ns
  | [] => rfl
  | n :: ns => by
    show (asInts (ns.map D.int)).map (fun ns => n :: ns) = _
    rw [asInts_map ns]
    rfl
def asBools : List D → Option (List Bool)
  | [] => some []
  | .bl i :: r => (asBools r).map fun ns => i :: ns
  | _ :: _ => none
theorem asBools_ok : ∀ {ds : List D} {ns : List Bool}, asBools ds = some ns → ds = ns.map D.bl
  | [], _, h => by cases h; rfl
  | d :: ds, ns, h => by
    cases d <;> (try (cases h; done))
    rename_i i
    have h' : (asBools ds).map (fun ns => i :: ns) = some ns := h
    obtain ⟨ms, e1, e2⟩ := Option.map_eq_some_iff.mp h'
    subst e2
    rw [asBools_ok e1]
    rfl
theorem asBools_map : ∀ (ns : List Bool), asBools (ns.map D.bl) = some ns
  | [] => rfl
  | n :: ns => by
    show (asBools (ns.map D.bl)).map (fun ns => n :: ns) = _
    rw [asBools_map ns]
    rfl
theorem DVs.bools {K : Fg} {H : Hp} : ∀ {vs : List V} {ns : List Bool}, DVs K H vs (ns.map D.bl) → vs = ns.map V.bl
  | vs, [], h => by cases h; rfl
  | vs, n :: ns, h => by
    cases h with
    | cons a t => cases a; rw [DVs.bools t]; rfl
def lenD : List D → Option D
  | [.tup xs] => some (.int xs.length)
  | [.lst xs] => some (.int xs.length)
  | [.scr xs] => some (.int xs.length)
  | [.str x] => if x.length ≤ sizeLine then some (.int x.length) else none
  | _ => none
def intD : List D → Option D
  | [.int i] => some (.int i)
  | [.bl b] => some (.int (if b then 1 else 0))
  | _ => none
def absD : List D → Option D
  | [.int i] => some (.int (if i < 0 then -i else i))
  | _ => none
def minD : List D → Option D
  | [.int i, .int j] => some (.int (if j < i then j else i))
  | _ => none
def maxD : List D → Option D
  | [.int i, .int j] => some (.int (if j > i then j else i))
  | _ => none
def sumD : List D → Option D
  | [.lst xs] => (asInts xs).map fun ns => .int ns.sum
  | _ => none
def allD : List D → Option D
  | [.lst xs] => (asBools xs).map fun ns => .bl (ns.all id)
  | _ => none
def anyD : List D → Option D
  | [.lst xs] => (asBools xs).map fun ns => .bl (ns.any id)
  | _ => none
def sortI (ns : List Int) : List Int := ns.mergeSort fun a b => decide (a ≤ b)
def sortedD : List D → Option D
  | [.lst xs] => (asInts xs).map fun ns => .lst ((sortI ns).map .int)
  | _ => none
def listD : List D → Option D
  | [.lst xs] => some (.lst xs)
  | [.tup xs] => some (.lst xs)
  | _ => none
def tupleD : List D → Option D
  | [.lst xs] => some (.tup xs)
  | [.tup xs] => some (.tup xs)
  | _ => none
def divmodD : List D → Option D
  | [.int i, .int j] => if j ≠ 0 ∧ j.natAbs < 1073741824 then some (.tup [.int (i.fdiv j), .int (i.fmod j)]) else none
  | _ => none
theorem DVs.one {K : Fg} {H : Hp} {vs : List V} {d : D} (h : DVs K H vs [d]) : ∃ v, vs = [v] ∧ DV K H v d := by
  cases h with
  | cons a t => cases t; exact ⟨_, rfl, a⟩
theorem DVs.two {K : Fg} {H : Hp} {vs : List V} {d e : D} (h : DVs K H vs [d, e]) : ∃ v u, vs = [v, u] ∧ DV K H v d ∧ DV K H u e := by
  cases h with
  | cons a t =>
    obtain ⟨u, rfl, b⟩ := t.one
    exact ⟨_, u, rfl, a, b⟩
theorem sort_unique {a b : List Int} (p : a.Perm b) (ha : a.Pairwise (· ≤ ·)) (hb : b.Pairwise (· ≤ ·)) : a = b :=
  p.eq_of_pairwise (fun x y _ _ h1 h2 => Int.le_antisymm h1 h2) ha hb
theorem sortI_perm (ns : List Int) : (sortI ns).Perm ns := List.mergeSort_perm ns _
theorem sortI_sorted (ns : List Int) : (sortI ns).Pairwise (· ≤ ·) :=
  (List.pairwise_mergeSort (le := fun a b : Int => decide (a ≤ b)) (fun a b c h1 h2 => decide_eq_true (Int.le_trans (of_decide_eq_true h1) (of_decide_eq_true h2))) (fun a b => by
    rcases Int.le_total a b with h | h
    · rw [decide_eq_true h]; rfl
    · rw [decide_eq_true h, Bool.or_true]) ns).imp fun h => of_decide_eq_true h
section
variable {K : Fg} {X : Cx}
theorem s_len : CallD K (fun xs H Q => ∃ x n, xs = [x] ∧ LenV K x H n ∧ Q (.int n) H) lenD := by
  intro O H vs ds res Q hd hv h q
  match ds, h with
  | [.tup xs], h =>
    cases h
    obtain ⟨v, rfl, dv⟩ := hv.one
    obtain ⟨a, ws, rfl, s, t⟩ := dv.tup_of
    exact ⟨_, xs.length, rfl, .inr ⟨ws, sqT_mono (wo_same O H) s, t.length.symm⟩, q _ H (Same.refl H) (.int _)⟩
  | [.lst xs], h =>
    cases h
    obtain ⟨v, rfl, dv⟩ := hv.one
    obtain ⟨a, ws, rfl, s, t⟩ := dv.lst_of
    exact ⟨_, xs.length, rfl, .inl ⟨ws, .of (wo_same O H _ _ s), t.length.symm⟩, q _ H (Same.refl H) (.int _)⟩
  | [.scr xs], h =>
    cases h
    obtain ⟨v, rfl, dv⟩ := hv.one
    cases dv with
    | scr s => exact ⟨_, xs.length, rfl, .inl ⟨_, (wo_same O H).seq s, by rw [List.length_map]⟩, q _ H (Same.refl H) (.int _)⟩
  | [.str x], h =>
    have h' : (if x.length ≤ sizeLine then some (D.int x.length) else none) = some res := h
    by_cases hl : x.length ≤ sizeLine
    · rw [if_pos hl] at h'
      cases h'
      obtain ⟨v, rfl, dv⟩ := hv.one
      cases dv
      exact ⟨_, x.length, rfl, ⟨hl, rfl⟩, q _ H (Same.refl H) (.int _)⟩
    · rw [if_neg hl] at h'
      cases h'
theorem s_int : CallD K (fun xs H Q => (∃ i, xs = [.int i] ∧ Q (.int i) H) ∨ ∃ k, xs = [.bl k] ∧ Q (.int (if k then 1 else 0)) H) intD := by
  intro O H vs ds res Q hd hv h q
  match ds, h with
  | [.int i], h =>
    cases h
    obtain ⟨v, rfl, dv⟩ := hv.one
    cases dv
    exact .inl ⟨_, rfl, q _ H (Same.refl H) (.int _)⟩
  | [.bl i], h =>
    cases h
    obtain ⟨v, rfl, dv⟩ := hv.one
    cases dv
    exact .inr ⟨_, rfl, q _ H (Same.refl H) (.int _)⟩
theorem s_abs : CallD K (fun xs H Q => ∃ i, xs = [.int i] ∧ Q (.int (if i < 0 then -i else i)) H) absD := by
  intro O H vs ds res Q hd hv h q
  match ds, h with
  | [.int i], h =>
    cases h
    obtain ⟨v, rfl, dv⟩ := hv.one
    cases dv
    exact ⟨_, rfl, q _ H (Same.refl H) (.int _)⟩
theorem s_min : CallD K (fun xs H Q => ∃ i j, xs = [.int i, .int j] ∧ Q (.int (if j < i then j else i)) H) minD := by
  intro O H vs ds res Q hd hv h q
  match ds, h with
  | [.int i, .int j], h =>
    cases h
    obtain ⟨v, u, rfl, dv, du⟩ := hv.two
    cases dv; cases du
    exact ⟨_, _, rfl, q _ H (Same.refl H) (.int _)⟩
theorem s_max : CallD K (fun xs H Q => ∃ i j, xs = [.int i, .int j] ∧ Q (.int (if j > i then j else i)) H) maxD := by
  intro O H vs ds res Q hd hv h q
  match ds, h with
  | [.int i, .int j], h =>
    cases h
    obtain ⟨v, u, rfl, dv, du⟩ := hv.two
    cases dv; cases du
    exact ⟨_, _, rfl, q _ H (Same.refl H) (.int _)⟩
theorem s_sum : CallD K (rSum K) sumD := by
  intro O H vs ds res Q hd hv h q
  match ds, h with
  | [.lst xs], h =>
    have h' : (asInts xs).map (fun ns => D.int ns.sum) = some res := h
    obtain ⟨ns, e1, rfl⟩ := Option.map_eq_some_iff.mp h'
    have e := asInts_ok e1
    subst e
    obtain ⟨v, rfl, dv⟩ := hv.one
    obtain ⟨a, ws, rfl, s, t⟩ := dv.lst_of
    have ew := t.ints
    subst ew
    exact ⟨a, ns, rfl, .of (wo_same O H _ _ s), q _ H (Same.refl H) (.int _)⟩
theorem s_all : CallD K (rAll K) allD := by
  intro O H vs ds res Q hd hv h q
  match ds, h with
  | [.lst xs], h =>
    have h' : (asBools xs).map (fun ns => D.bl (ns.all id)) = some res := h
    obtain ⟨ns, e1, rfl⟩ := Option.map_eq_some_iff.mp h'
    have e := asBools_ok e1
    subst e
    obtain ⟨v, rfl, dv⟩ := hv.one
    obtain ⟨a, ws, rfl, s, t⟩ := dv.lst_of
    have ew := t.bools
    subst ew
    exact ⟨a, ns, rfl, .of (wo_same O H _ _ s), q _ H (Same.refl H) (.bl _)⟩
theorem s_any : CallD K (rAny K) anyD := by
  intro O H vs ds res Q hd hv h q
  match ds, h with
  | [.lst xs], h =>
    have h' : (asBools xs).map (fun ns => D.bl (ns.any id)) = some res := h
    obtain ⟨ns, e1, rfl⟩ := Option.map_eq_some_iff.mp h'
    have e := asBools_ok e1
    subst e
    obtain ⟨v, rfl, dv⟩ := hv.one
    obtain ⟨a, ws, rfl, s, t⟩ := dv.lst_of
    have ew := t.bools
    subst ew
    exact ⟨a, ns, rfl, .of (wo_same O H _ _ s), q _ H (Same.refl H) (.bl _)⟩
theorem s_sorted : CallD K (rSortedI K) sortedD := by
  intro O H vs ds res Q hd hv h q
  match ds, h with
  | [.lst xs], h =>
    have h' : (asInts xs).map (fun ns => D.lst ((sortI ns).map .int)) = some res := h
    obtain ⟨ns, e1, rfl⟩ := Option.map_eq_some_iff.mp h'
    have e := asInts_ok e1
    subst e
    obtain ⟨v, rfl, dv⟩ := hv.one
    obtain ⟨a, ws, rfl, s, t⟩ := dv.lst_of
    have ew := t.ints
    subst ew
    refine ⟨a, ns, rfl, .of (wo_same O H _ _ s), fun ns' p p1 p2 np => ?_⟩
    have e : ns' = sortI ns := sort_unique (p1.trans (sortI_perm ns).symm) p2 (sortI_sorted ns)
    subst e
    exact q _ _ (same_upd np) (DV.newL hd np (DVs.of_ints _))
theorem s_list : CallD K (fun xs H Q => ∃ p ys, xs = [.ref p] ∧ (SqL K H p ys ∨ SqT K H p ys) ∧ ∀ l, H l = none → Q (.ref l) (upd H l (.lst ys))) listD := by
  intro O H vs ds res Q hd hv h q
  match ds, h with
  | [.lst xs], h =>
    cases h
    obtain ⟨v, rfl, dv⟩ := hv.one
    obtain ⟨a, ws, rfl, s, t⟩ := dv.lst_of
    exact ⟨a, ws, rfl, .inl (.of (wo_same O H _ _ s)), fun l nl => q _ _ (same_upd nl) (DV.newL hd nl t)⟩
  | [.tup xs], h =>
    cases h
    obtain ⟨v, rfl, dv⟩ := hv.one
    obtain ⟨a, ws, rfl, s, t⟩ := dv.tup_of
    exact ⟨a, ws, rfl, .inr (sqT_mono (wo_same O H) s), fun l nl => q _ _ (same_upd nl) (DV.newL hd nl t)⟩
theorem s_tuple : CallD K (fun xs H Q => ∃ p ys, xs = [.ref p] ∧ ((SqL K H p ys ∧ ∀ l, H l = none → Q (.ref l) (upd H l (.tup ys))) ∨ (SqT K H p ys ∧ Q (.ref p) H))) tupleD := by
  intro O H vs ds res Q hd hv h q
  match ds, h with
  | [.lst xs], h =>
    cases h
    obtain ⟨v, rfl, dv⟩ := hv.one
    obtain ⟨a, ws, rfl, s, t⟩ := dv.lst_of
    exact ⟨a, ws, rfl, .inl ⟨.of (wo_same O H _ _ s), fun l nl => q _ _ (same_upd nl) (DV.newT hd nl t)⟩⟩
  | [.tup xs], h =>
    cases h
    obtain ⟨v, rfl, dv⟩ := hv.one
    obtain ⟨a, ws, rfl, s, t⟩ := dv.tup_of
    exact ⟨a, ws, rfl, .inr ⟨sqT_mono (wo_same O H) s, q _ H (Same.refl H) (.tup s t)⟩⟩
/-- divmod with a divisor of any sign -/
def rDm : List V → Hp → VK → Prop := fun xs H Q => ∃ i j, xs = [.int i, .int j] ∧ CDivN i j ∧ ∀ p, H p = none → Q (.ref p) (upd H p (.tup [.int (i.fdiv j), .int (i.fmod j)]))
theorem c_divmod : CallR X (.builtin "divmod") rDm := by
  intro pins s σ H xs us Q I r h
  obtain ⟨i, j, rfl, ⟨h1, h2⟩, q⟩ := h
  obtain ⟨u, w', rfl, ⟨t, rfl⟩, ⟨t', rfl⟩⟩ := vals2 r
  refine divmod_int h1 ?_ (.inl (PyProof.noPylong_small h2))
  have hn : H s.heap.objs.size = none := I.hok.fresh (Nat.le_refl _)
  refine ⟨.ref s.heap.objs.size, _, ?_, rfl, q _ hn⟩
  refine I.laid (fun b o e => Heap.get?_push_of_some _ e) (Nat.le_refl _) ⟨by simp only [List.length_cons, List.length_nil]; rw [sizeLine_eq]; decide, [.int (i.fdiv j) s.toks, .int (i.fmod j) (s.toks + 1)], .cons ⟨_, rfl⟩ (.cons ⟨_, rfl⟩ .nil), ?_⟩
  exact ⟨_, Heap.get?_push_size s.heap rfl, rfl, 0, rfl⟩
theorem s_divmod : CallD K rDm divmodD := by
  intro O H vs ds res Q hd hv h q
  match ds, h with
  | [.int i, .int j], h =>
    have h' : (if j ≠ 0 ∧ j.natAbs < 1073741824 then some (D.tup [.int (i.fdiv j), .int (i.fmod j)]) else none) = some res := h
    by_cases hc : j ≠ 0 ∧ j.natAbs < 1073741824
    · rw [if_pos hc] at h'
      cases h'
      obtain ⟨v, u, rfl, dv, du⟩ := hv.two
      cases dv; cases du
      exact ⟨i, j, rfl, hc, fun p np => q _ _ (same_upd np) (DV.newT hd np (.cons (.int _) (.cons (.int _) .nil)))⟩
    · rw [if_neg hc] at h'
      cases h'
end

/-! ### places -/
def ixD : D → D → Option D
  | .tup xs, .int i => atI xs i
  | .lst xs, .int i => atI xs i
  | .str z, .int i => if z.length ≤ sizeLine then (atI z.cps.toList i).map fun c => .str ⟨#[c]⟩ else none
  | _, _ => none
theorem atI_dvs {K : Fg} {H : Hp} {vs : List V} {ds : List D} {i : Int} {d : D} (h : DVs K H vs ds) (e : atI ds i = some d) : ∃ v, atI vs i = some v ∧ DV K H v d := by
  unfold atI at *
  obtain ⟨j, e1, e2⟩ := Option.bind_eq_some_iff.mp e
  obtain ⟨v, e3, dv⟩ := h.get e2
  exact ⟨v, by rw [h.length, e1]; exact e3, dv⟩
theorem s_ix {K : Fg} : Op2 K (rIx K) ixD := by
  intro O H x y d e res Q hd hx hy h q
  cases e <;> (try (cases d <;> cases h; done))
  rename_i i
  cases hy
  cases d <;> (try (cases h; done))
  · rename_i z
    have h' : (if z.length ≤ sizeLine then (atI z.cps.toList i).map (fun c => D.str ⟨#[c]⟩) else none) = some res := h
    split at h'
    · rename_i hl
      obtain ⟨c, e1, rfl⟩ := Option.map_eq_some_iff.mp h'
      cases hx
      exact .inr (.inr ⟨z, i, c, rfl, rfl, hl, e1, q _ H (Same.refl H) (.str _)⟩)
    · cases h'
  · obtain ⟨a, vs, rfl, s, t⟩ := hx.tup_of
    obtain ⟨v, e1, dv⟩ := atI_dvs t h
    exact .inr (.inl ⟨a, vs, i, v, rfl, rfl, sqT_mono (wo_same O H) s, e1, q _ H (Same.refl H) dv⟩)
  · obtain ⟨a, vs, rfl, s, t⟩ := hx.lst_of
    obtain ⟨v, e1, dv⟩ := atI_dvs t h
    exact .inl ⟨a, vs, i, v, rfl, rfl, .of (wo_same O H _ _ s), e1, q _ H (Same.refl H) dv⟩
section
variable {X : Cx} {hx : Hx} {W : WX} {a b : Expr} {fa fb : EX} {pos : Pos}
theorem r_ix (ha : PE X a (tX X.K hx W fa)) (hb : PE X b (tX X.K hx W fb)) (hs : PlainIx b := by first | (intro _ _; rfl) | exact fun _ _ => rfl) : PE X (.Subscript a b pos) (tX X.K hx W (eB ixD fa fb)) :=
  (pe_ix ix_seq ha hb hs).imp fun _ _ _ h => t_op2 s_ix h

/-! ### slices -/
def cutD {α : Type} (xs : List α) (lo hi : Option Int) : List α := (xs.drop (HT.sIx xs.length 0 lo)).take (HT.sIx xs.length xs.length hi - HT.sIx xs.length 0 lo)
def slD : D → Option Int → Option Int → Option D
  | .tup xs, lo, hi => some (.tup (cutD xs lo hi))
  | .lst xs, lo, hi => some (.lst (cutD xs lo hi))
  | .scr ns, lo, hi => some (.lst ((cutD ns lo hi).map .int))
  | .str z, lo, hi => if z.length ≤ sizeLine then some (.str (cutS z lo hi)) else none
  | _, _, _ => none
theorem DVs.cut {K : Fg} {H : Hp} {vs : List V} {ds : List D} (h : DVs K H vs ds) (lo hi : Option Int) : DVs K H (cutV vs lo hi) (cutD ds lo hi) := by
  unfold cutV cutD
  rw [h.length]
  exact (h.drop _).take _
theorem cut_map {α β : Type} (f : α → β) (xs : List α) (lo hi : Option Int) : cutD (xs.map f) lo hi = (cutD xs lo hi).map f := by
  unfold cutD
  rw [List.length_map, List.map_take, List.map_drop]
theorem cutD_all {α : Type} {xs : List α} {lo hi : Option Int} (h : HT.sIx xs.length 0 lo = 0 ∧ HT.sIx xs.length xs.length hi = xs.length) : cutD xs lo hi = xs := by
  unfold cutD
  rw [h.1, h.2]
  simp
def rSlM (K : Fg) : V → Option Int → Option Int → Hp → VK → Prop := fun x lo hi H Q => rSlA K x lo hi H Q ∨ rSlL K x lo hi H Q ∨ rSlS x lo hi H Q
theorem sl_M : SlR X (rSlM X.K) := sl_tupA.or (sl_list.or sl_str)
theorem s_sl {K : Fg} {O : List Addr} {H : Hp} {x : V} {d res : D} {lo hi : Option Int} {Q : VK} (hd : ∀ a ∈ O, ∃ o, H a = some o) (hx : DV K (wo O H) x d) (h : slD d lo hi = some res)
    (q : ∀ v H', Same H H' → DV K (wo O H') v res → Q v H') : rSlM K x lo hi H Q := by
  cases d <;> (try (cases h; done))
  · rename_i z
    have h' : (if z.length ≤ sizeLine then some (D.str (cutS z lo hi)) else none) = some res := h
    split at h'
    · cases h'
      rename_i hl
      cases hx
      exact .inr (.inr ⟨z, rfl, hl, q _ H (Same.refl H) (.str _)⟩)
    · cases h'
  · cases h
    obtain ⟨a, vs, rfl, s, t⟩ := hx.tup_of
    refine .inl ⟨a, vs, rfl, sqT_mono (wo_same O H) s, fun hc => ?_, fun _ p np => q _ _ (same_upd np) (DV.newT hd np (t.cut lo hi))⟩
    refine q _ H (Same.refl H) (.tup s ?_)
    rw [cutD_all (by rw [← t.length]; exact hc)]
    exact t
  · cases h
    obtain ⟨a, vs, rfl, s, t⟩ := hx.lst_of
    exact .inr (.inl ⟨a, vs, rfl, .of (wo_same O H _ _ s), fun p np => q _ _ (same_upd np) (DV.newL hd np (t.cut lo hi))⟩)
  · cases h
    cases hx with
    | scr s =>
      refine .inr (.inl ⟨_, _, rfl, (wo_same O H).seq s, fun p np => q _ _ (same_upd np) ?_⟩)
      refine DV.newL hd np ?_
      rename_i ns a
      have e : cutV (ns.map V.int) lo hi = (cutD ns lo hi).map V.int := cut_map V.int ns lo hi
      rw [e]
      exact DVs.of_ints _
/-- an optional part of a slice -/
def eOpt (f : Option EX) (k : Option Int → En → Rs) : En → Rs := fun ρ => match f with
  | none => k none ρ
  | some f => (f ρ).bind fun d ρ1 => match d with
    | .int i => k (some i) ρ1
    | _ => .stuck
def eSl (fa : EX) (lo hi : Option EX) : EX := fun ρ => (fa ρ).bind fun d ρ1 => eOpt lo (fun l => eOpt hi fun h ρ3 => match slD d l h with
  | some z => .ok z ρ3
  | none => .stuck) ρ1
inductive PO' (X : Cx) (hx : Hx) (W : WX) : Option Expr → Option EX → Prop
  | none : PO' X hx W none none
  | some {e : Expr} {f : EX} (h : PE X e (tX X.K hx W f)) : PO' X hx W (some e) (some f)
def tO (K : Fg) (hx : Hx) (W : WX) : Option EX → TO
  | none => tNoPart
  | some f => tPart (tX K hx W f)
theorem PO'.po {lo : Option Expr} {fl : Option EX} (h : PO' X hx W lo fl) : PO X lo (tO X.K hx W fl) := by
  cases h with
  | none => exact po_none
  | some h => exact po_some h
theorem optX {K : Fg} {F : Fm} {ρ : En} {σ : MB.St} {H : Hp} {O : List Addr} {f : Option EX} {k : Option Int → En → Rs} {Q : VK} {Q1 : Option Int → Hp → Prop} (r : RO K hx F ρ σ H O) (hp : Po K hx F W σ (eOpt f k ρ) Q)
    (hk : ∀ i ρ1 H1 O1, RO K hx F ρ1 σ H1 O1 → Same (wo O H) (wo O1 H1) → Po K hx F W σ (k i ρ1) Q → Q1 i H1) : tO K hx W f σ H Q1 := by
  cases f with
  | none => exact hk none ρ H O r (Same.refl _) hp
  | some f =>
    refine bindX r hp fun d ρ1 v H1 O1 r1 s1 dv q => ?_
    cases d <;> (try exact (q : False).elim)
    cases dv
    exact ⟨_, rfl, hk _ ρ1 H1 O1 r1 s1 q⟩
theorem r_sl {lo hi : Option Expr} {fl fh : Option EX} {p2 : Pos} (ha : PE X a (tX X.K hx W fa)) (hl : PO' X hx W lo fl) (hh : PO' X hx W hi fh) : PE X (.Subscript a (.Slice lo hi none p2) pos) (tX X.K hx W (eSl fa fl fh)) :=
  (pe_slice sl_M ha hl.po hh.po).imp fun σ H Q h => by
    obtain ⟨F, ρ, ⟨O, r⟩, hp⟩ := h
    refine bindX r hp fun d ρ1 v H1 O1 r1 s1 dv hp1 => ?_
    refine optX r1 hp1 fun l ρ2 H2 O2 r2 s2 hp2 => ?_
    refine optX r2 hp2 fun u ρ3 H3 O3 r3 s3 hp3 => ?_
    cases e : slD d l u with
    | none => rw [e] at hp3; exact hp3.elim
    | some z =>
      rw [e] at hp3
      exact s_sl r3.dom (DV.mono (s2.trans s3) _ _ dv) e fun v' H' s' dv' => hp3 v' H' ⟨O3, r3.grow s', dv'⟩
end

/-! ### isinstance of a built-in class -/
def tyName : D → Option String
  | .non => some "NoneType" | .bl _ => some "bool" | .int _ => some "int" | .str _ => some "str" | .tup _ => some "tuple" | .lst _ => some "list" | _ => none
theorem tyX_of {K : Fg} {H : Hp} {v : V} {d : D} {t : String} (h : DV K H v d) (e : tyName d = some t) : TyX K H v (.type t) := by
  cases d <;> (try (cases e; done)) <;> cases e <;> cases h
  · exact .base .non
  · exact .base (.bl _)
  · exact .base (.int _)
  · exact .base (.str _)
  · rename_i a vs s t
    rcases s with (s | ⟨o, s⟩) | ⟨o, its, n, s, c, _⟩
    · exact .base (.tup s)
    · exact .fTuple s
    · exact .kTuple s c
  · rename_i a vs s t
    exact .base (.lst s)
def isT (T : String) (d : D) : Option D := match tyName d with
  | some t => (kitB t T).map .bl
  | none => none
def eIsT (T : String) (fa : EX) : EX := e1 (isT T) fa
section
variable {X : Cx} {hx : Hx} {W : WX} {a : Expr} {fa : EX} {pos p q : Pos}
theorem r_isT {T : Str} {Ts : String} (ha : PE X a (tX X.K hx W fa)) (hm : X.mg "isinstance" = none) (hT : X.mg T = none) (hb : bootBuiltins T = some (.type Ts)) (hg : Gl X "isinstance" := by rfl) (hg2 : Gl X T := by rfl)
    (hn : T ≠ "__name__" := by decide) (hdb : (T == ("__debug__" : Str)) = false := by decide)
    (he0 : starEach [Expr.Name T q] X.env = (false, eval (Expr.Name T q) X.env) :: starEach [] X.env := by rfl)
    (he : starEach (a :: [Expr.Name T q]) X.env = (false, eval a X.env) :: starEach [Expr.Name T q] X.env := by rfl) (hpl : (backTo pos (starEach [Expr.Name T q] X.env)).any (·.1) = false := by rfl) :
    PE X (.Call (.Name "isinstance" p) [a, .Name T q] [] pos) (tX X.K hx W (eIsT Ts fa)) :=
  (pe_callB call_isi hg hm (by decide +kernel) (pa_cons ha (pa_cons (pe_bltn (v := .ty Ts) hg2 hT hb rfl hn hdb) pa_nil he0) he) (by decide) (by decide) he hpl).imp fun σ H Q h => by
    obtain ⟨F, ρ, ⟨O, r0⟩, hp⟩ := h
    refine bindX r0 hp fun d ρ1 v H1 O1 r1 s1 dv hp1 => ?_
    cases e : isT Ts d with
    | none => rw [e] at hp1; exact hp1.elim
    | some z =>
      rw [e] at hp1
      unfold isT at e
      cases e2 : tyName d with
      | none => rw [e2] at e; cases e
      | some t =>
        rw [e2] at e
        have e' : (kitB t Ts).map D.bl = some z := e
        obtain ⟨b, e3, rfl⟩ := Option.map_eq_some_iff.mp e'
        exact ⟨v, .ty Ts, .type t, .type Ts, b, rfl, .ty Ts, tyX_of (DV.mono (wo_same O1 H1) _ _ dv) e2, kit_ty e3, hp1 _ H1 ⟨O1, r1, .bl b⟩⟩
end
end MB

/-! Calls of own defs, statements, by values. -/
namespace MB
open PySem PySem.Spec PyProof.Rows L2

/-! ### a def's promise by its function -/
inductive Rt where
  | ok (d : D) | err (x : Ex) | stuck
abbrev Fn := List D → Rt
def spV (K : Fg) (n : Nat) (m : Fn) : Sp := fun vs H Q E => vs.length = n ∧ ∃ (O : List Addr) (ds : List D), (∀ a ∈ O, ∃ o, H a = some o) ∧ DVs K (wo O H) vs ds ∧ match m ds with
  | .ok d => ∀ v H', Same H H' → DV K (wo O H') v d → Q v H'
  | .err x => ∀ cls dd H', Same H H' → ExOk K (wo O H') x cls dd → E cls dd H'
  | .stuck => False
def eFn (m : Fn) (fs : List EX) : EX := evs fs fun ds ρ => match m ds with
  | .ok d => .ok d ρ
  | .err x => .err x ρ
  | .stuck => .stuck
abbrev FnV (P : Program) (w : World) (K : Fg) (mg : Str → Option Value) (base : Heap) (k : Nat) (f : Addr) (fd : FuncData) (ps : List Str) (m : Fn) : Prop := FnOk P w K mg base (L2N.CX P w) k f fd ps (spV K ps.length m)
/-- what a caller knows of a def -/
structure Df (P : Program) (w : World) (K : Fg) (mg : Str → Option Value) (base : Heap) (k : Nat) (x : Str) (n : Nat) (m : Fn) : Prop where
  ex : ∃ f fd ps, mg x = some (.ref f) ∧ PySem.W.keepIn K (.ref f) = true ∧ Binds K fd ps [] ∧ ps.length = n ∧ FnV P w K mg base k f fd ps m
section
variable {X : Cx} {hx : Hx} {W : WX} {e : Expr} {es : List Expr} {fs : List EX} {pos p : Pos} {x : Str} {k n : Nat} {m : Fn}
theorem t_fn {ps : List Str} (hl : fs.length = ps.length) {σ : MB.St} {H : Hp} {Q : VK} (h : tX X.K hx W (eFn m fs) σ H Q) : tCallS (spV X.K ps.length m) (WE W) (tA X.K hx W fs) σ H Q := by
  obtain ⟨F, ρ, ⟨O, r0⟩, hp⟩ := h
  refine tA_of r0 hp fun F1 ds ρ1 vs H1 O1 ln r1 dvs q => ?_
  refine ⟨by rw [dvs.length, ln, hl], O1, ds, r1.dom, dvs, ?_⟩
  cases e : m ds with
  | ok d =>
    rw [e] at q
    exact fun v H' s' dv' => q v H' ⟨O1, r1.grow s', dv'⟩
  | err x =>
    rw [e] at q
    exact fun cls dd H' s' ev => q cls dd H' ⟨O1, r1.grow s', ev⟩
  | stuck =>
    rw [e] at q
    exact q.elim
theorem r_fn (F : Df X.prog X.w X.K X.mg X.base k x n m) (hr : Room k X.A) (tk : L2N.Takes X W) (ha : PA X (e :: es) (tA X.K hx W fs)) (hl : fs.length = n := by rfl) (hg : Gl X x := by rfl) (hdb : (x == ("__debug__" : Str)) = false := by decide)
    (he : starEach (e :: es) X.env = (false, eval e X.env) :: starEach es X.env := by rfl) (hpl : (backTo pos (starEach es X.env)).any (·.1) = false := by rfl) : PE X (.Call (.Name x p) (e :: es) [] pos) (tX X.K hx W (eFn m fs)) := by
  obtain ⟨f, fd, ps, hm, hk, hb, en, F⟩ := F.ex
  exact (pe_callS F hr hg hm hk hb (fun σ => L2N.passAt tk σ) ha hdb he hpl).imp fun _ _ _ h => t_fn (hl.trans en.symm) h
end
/-- nothing is let out -/
theorem tk0 {X : Cx} : L2N.Takes X (fun _ _ _ _ => False) := fun _ _ x => by
  obtain ⟨_, _, _, _, _, _, _, _, _, _, _, _, _, _, _, _, z⟩ := x
  exact z.elim

/-! ### statements -/
inductive Fl where
  | nx (ρ : En) | rt (d : D) (ρ : En) | bk (ρ : En) | ct (ρ : En) | err (x : Ex) (ρ : En) | stuck
abbrev SX := En → Fl
def PoS (K : Fg) (hx : Hx) (F : Fm) (W : WX) (g : Fl) (D : Ends) : Prop := match g with
  | .nx ρ => ∀ σ H, Rl K hx F ρ σ H → D.nx σ H
  | .rt d ρ => ∀ v σ H, RV K hx F ρ σ H v d → D.rt v H
  | .bk ρ => ∀ σ H, Rl K hx F ρ σ H → D.bk σ H
  | .ct ρ => ∀ σ H, Rl K hx F ρ σ H → D.ct σ H
  | .err x ρ => ∀ cls dd σ H, RX K hx F ρ σ H x cls dd → W cls dd σ H
  | .stuck => False
def tS (K : Fg) (hx : Hx) (W : WX) (g : SX) : TS := fun D σ H => ∃ F ρ, Rl K hx F ρ σ H ∧ PoS K hx F W (g ρ) D
theorem _root_.L2.PS.imp {X : Cx} {e : Stmt} {t t' : TS} (h : PS X e t) (i : ∀ D σ H, t' D σ H → t D σ H) : PS X e t' := ⟨fun pins s σ H D I q => h.run pins s σ H D I (i D σ H q)⟩
theorem _root_.L2.PSs.imp {X : Cx} {e : List Stmt} {t t' : TS} (h : PSs X e t) (i : ∀ D σ H, t' D σ H → t D σ H) : PSs X e t' := ⟨fun pins s σ H D I q => h.run pins s σ H D I (i D σ H q)⟩
theorem PoS.fr {K : Fg} {hx : Hx} {F F' : Fm} {W : WX} {g : Fl} {D : Ends} (s : Same F.f F'.f) (e : F.g = F'.g) (e2 : F.io = F'.io) (h : PoS K hx F W g D) : PoS K hx F' W g D := by
  cases g with
  | nx ρ => exact fun σ H ⟨O, r⟩ => h σ H ⟨O, r.fr_of s e e2⟩
  | rt d ρ => exact fun v σ H ⟨O, r, dv⟩ => h v σ H ⟨O, r.fr_of s e e2, dv⟩
  | bk ρ => exact fun σ H ⟨O, r⟩ => h σ H ⟨O, r.fr_of s e e2⟩
  | ct ρ => exact fun σ H ⟨O, r⟩ => h σ H ⟨O, r.fr_of s e e2⟩
  | err x ρ => exact fun cls dd σ H ⟨O, r, dv⟩ => h cls dd σ H ⟨O, r.fr_of s e e2, dv⟩
  | stuck => exact h
def Rs.then (r : Rs) (k : D → En → Fl) : Fl := match r with
  | .ok d ρ => k d ρ
  | .err x ρ => .err x ρ
  | .stuck => .stuck
section
variable {K : Fg} {hx : Hx} {F : Fm} {H : Hp} {ρ : En} {σ : MB.St} {O : List Addr} {W : WX}
/-- an expression within a statement -/
theorem bindS {fa : EX} {k : D → En → Fl} {D : Ends} {Q1 : VK} (r : RO K hx F ρ σ H O) (hp : PoS K hx F W ((fa ρ).then k) D)
    (hk : ∀ d ρ1 v H1 O1, RO K hx F ρ1 σ H1 O1 → DV K (wo O1 H1) v d → PoS K hx F W (k d ρ1) D → Q1 v H1) : tX K hx W fa σ H Q1 := by
  refine ⟨F, ρ, ⟨O, r⟩, ?_⟩
  cases e : fa ρ with
  | ok d ρ1 =>
    rw [e] at hp
    intro v H1 hv
    obtain ⟨O1, r1, dv⟩ := hv
    exact hk d ρ1 v H1 O1 r1 dv hp
  | err x ρ1 =>
    rw [e] at hp
    intro cls dd H1 hv
    exact hp cls dd σ H1 hv
  | stuck =>
    rw [e] at hp
    exact hp
theorem bindST {fa : EX} {k : D → En → Fl} {D : Ends} {Q1 : Bool → Hp → Prop} (r : RO K hx F ρ σ H O) (hp : PoS K hx F W ((fa ρ).then k) D) (ht : ∀ d ρ1, PoS K hx F W (k d ρ1) D → ∃ b, truth d = some b)
    (hk : ∀ d b ρ1 H1 O1, truth d = some b → RO K hx F ρ1 σ H1 O1 → PoS K hx F W (k d ρ1) D → Q1 b H1) : tT K hx W fa σ H Q1 := by
  refine ⟨F, ρ, ⟨O, r⟩, ?_⟩
  cases e : fa ρ with
  | ok d ρ1 =>
    rw [e] at hp
    obtain ⟨b, hb⟩ := ht d ρ1 hp
    refine ⟨b, hb, fun H1 hv => ?_⟩
    obtain ⟨O1, r1⟩ := hv
    exact hk d b ρ1 H1 O1 hb r1 hp
  | err x ρ1 =>
    rw [e] at hp
    intro cls dd H1 hv
    exact hp cls dd σ H1 hv
  | stuck =>
    rw [e] at hp
    exact hp
end
def sNil : SX := fun ρ => .nx ρ
def sSeq (g h : SX) : SX := fun ρ => match g ρ with
  | .nx ρ1 => h ρ1
  | r => r
def sEx (f : EX) : SX := fun ρ => (f ρ).then fun _ ρ1 => .nx ρ1
def sSet (i : Nat) (f : EX) : SX := fun ρ => (f ρ).then fun d ρ1 => .nx (ρ1.set i (some (.val d)))
def sRet (f : EX) : SX := fun ρ => (f ρ).then fun d ρ1 => .rt d ρ1
def sRetN : SX := fun ρ => .rt .non ρ
def sIf (c : EX) (g h : SX) : SX := fun ρ => (c ρ).then fun d ρ1 => match truth d with
  | some true => g ρ1
  | some false => h ρ1
  | none => .stuck
def sBk : SX := fun ρ => .bk ρ
def sCt : SX := fun ρ => .ct ρ
section
variable {X : Cx} {hx : Hx} {W : WX} {st : Stmt} {rest : List Stmt} {g h : SX} {e c : Expr} {f fc : EX} {pos : Pos}
theorem p_nil : PSs X [] (tS X.K hx W sNil) := pss_nil.imp fun D σ H h => by
  obtain ⟨F, ρ, r, hp⟩ := h
  exact hp σ H r
theorem t_seq {K : Fg} {D : Ends} {σ : MB.St} {H : Hp} (q : tS K hx W (sSeq g h) D σ H) : tSeq (tS K hx W g) (tS K hx W h) D σ H := by
  obtain ⟨F, ρ, r, hp⟩ := q
  refine ⟨F, ρ, r, ?_⟩
  unfold sSeq at hp
  cases e : g ρ with
  | nx ρ1 =>
    rw [e] at hp
    exact fun σ1 H1 r1 => ⟨F, ρ1, r1, hp⟩
  | rt d ρ1 => rw [e] at hp; exact hp
  | bk ρ1 => rw [e] at hp; exact hp
  | ct ρ1 => rw [e] at hp; exact hp
  | err x ρ1 => rw [e] at hp; exact hp
  | stuck => rw [e] at hp; exact hp
theorem p_cons (h1 : PS X st (tS X.K hx W g)) (h2 : PSs X rest (tS X.K hx W h)) : PSs X (st :: rest) (tS X.K hx W (sSeq g h)) := (pss_cons h1 h2).imp fun _ _ _ q => t_seq q
theorem p_one (h1 : PS X st (tS X.K hx W g)) : PSs X [st] (tS X.K hx W g) := pss_one h1
theorem p_ex (he : PE X e (tX X.K hx W f)) (hs : swapsWith e none pos.line X.env = pure false := by rfl) : PS X (.Expr e pos) (tS X.K hx W (sEx f)) := (ps_expr he hs).imp fun D σ H q => by
  obtain ⟨F, ρ, ⟨O, r⟩, hp⟩ := q
  exact bindS r hp fun d ρ1 v H1 O1 r1 dv hp1 => hp1 σ H1 ⟨O1, r1⟩
theorem p_set {i : Nat} {x : Str} {pos' : Pos} (hN : X.N.Nodup) (hi : X.N[i]? = some x) (hl : Loc X.env.scope x) (he : PE X e (tX X.K hx W f)) (hs : swapsWith e (some (.Name x pos')) pos.line X.env = pure false := by rfl)
    (hf : X.fn x = true ∨ X.env.scope.names.lookup x = some .local := by first | exact .inl rfl | exact .inr rfl | assumption) (hio : hx.io ≠ some i := by intro h; cases h) : PS X (.Assign [.Name x pos'] e pos) (tS X.K hx W (sSet i f)) := (ps_set hN hi hl he hs hf).imp fun D σ H q => by
  obtain ⟨F, ρ, ⟨O, r⟩, hp⟩ := q
  exact bindS r hp fun d ρ1 v H1 O1 r1 dv hp1 => hp1 _ H1 ⟨O1, r1.set i hio dv⟩
theorem p_ret (he : PE X e (tX X.K hx W f)) : PS X (.Return (some e) pos) (tS X.K hx W (sRet f)) := (ps_ret he).imp fun D σ H q => by
  obtain ⟨F, ρ, ⟨O, r⟩, hp⟩ := q
  exact bindS r hp fun d ρ1 v H1 O1 r1 dv hp1 => hp1 v σ H1 ⟨O1, r1, dv⟩
theorem p_retN : PS X (.Return none pos) (tS X.K hx W sRetN) := (ps_retN).imp fun D σ H q => by
  obtain ⟨F, ρ, ⟨O, r⟩, hp⟩ := q
  exact hp .non σ H ⟨O, r, .non⟩
theorem p_if {a b : List Stmt} (hc : PT X c (tT X.K hx W fc)) (ha : PSs X a (tS X.K hx W g)) (hb : PSs X b (tS X.K hx W h)) : PS X (.If c a b pos) (tS X.K hx W (sIf fc g h)) := (ps_if hc ha hb).imp fun D σ H q => by
  obtain ⟨F, ρ, ⟨O, r⟩, hp⟩ := q
  refine bindST r hp (fun d ρ1 q => ?_) fun d b ρ1 H1 O1 tb r1 hp1 => ?_
  · cases t : truth d with
    | none => rw [t] at q; exact q.elim
    | some b => exact ⟨b, rfl⟩
  · rw [tb] at hp1
    cases b with
    | true =>
      rw [if_pos rfl]
      exact ⟨F, ρ1, ⟨O1, r1⟩, hp1⟩
    | false =>
      rw [if_neg Bool.false_ne_true]
      exact ⟨F, ρ1, ⟨O1, r1⟩, hp1⟩
theorem p_bk : PS X (.Break pos) (tS X.K hx W sBk) := ps_break.imp fun D σ H q => by
  obtain ⟨F, ρ, r, hp⟩ := q
  exact hp σ H r
theorem p_ct : PS X (.Continue pos) (tS X.K hx W sCt) := ps_continue.imp fun D σ H q => by
  obtain ⟨F, ρ, r, hp⟩ := q
  exact hp σ H r
theorem p_pass : PS X (.Pass pos) (tS X.K hx W sNil) := ps_pass.imp fun D σ H q => by
  obtain ⟨F, ρ, r, hp⟩ := q
  exact hp σ H r
end

/-! ### targets -/
abbrev BX := D → En → Option En
def bNm (i : Nat) : BX := fun d ρ => some (ρ.set i (some (.val d)))
def bAll : List BX → List D → En → Option En
  | [], [], ρ => some ρ
  | b :: bs, d :: ds, ρ => (b d ρ).bind fun ρ1 => bAll bs ds ρ1
  | _, _, _ => none
def bTp (bs : List BX) : BX := fun d ρ => match d with
  | .tup ds => if ds.length = bs.length then bAll bs ds ρ else none
  | _ => none
/-- the slots at is alone have changed -/
def Wp (is : List Nat) (σ σ' : MB.St) : Prop := ∀ vs : List Nat, (∀ i ∈ is, i ∈ vs) → L2.wipe σ' vs = L2.wipe σ vs
theorem wipe_set {σ : MB.St} {i : Nat} {x : Option V} : ∀ {vs : List Nat}, i ∈ vs → L2.wipe (σ.set i x) vs = L2.wipe σ vs
  | v :: vs, h => by
    show (L2.wipe (σ.set i x) vs).set v none = (L2.wipe σ vs).set v none
    by_cases m : i ∈ vs
    · rw [wipe_set m]
    · have e : i = v := by
        rcases List.mem_cons.mp h with e | e
        · exact e
        · exact absurd e m
      subst e
      have out : ∀ {ws : List Nat}, i ∉ ws → L2.wipe (σ.set i x) ws = (L2.wipe σ ws).set i x := by
        intro ws
        induction ws with
        | nil => intro _; rfl
        | cons w ws ih =>
          intro hw
          simp only [List.mem_cons, not_or] at hw
          show (L2.wipe (σ.set i x) ws).set w none = ((L2.wipe σ ws).set w none).set i x
          rw [ih hw.2, List.set_comm _ _ hw.1]
      rw [out m, List.set_set]
def tG (K : Fg) (hx : Hx) (is : List Nat) (b : BX) : TG := fun v σ H Q => ∃ (F : Fm) (ρ : En) (d : D) (O : List Addr) (ρ' : En), RO K hx F ρ σ H O ∧ DV K (wo O H) v d ∧ b d ρ = some ρ' ∧ ∀ σ', Wp is σ σ' → RO K hx F ρ' σ' H O → Q σ' H
def tGs (K : Fg) (hx : Hx) (is : List Nat) (bs : List BX) : TGs := fun vs σ H Q => ∃ (F : Fm) (ρ : En) (ds : List D) (O : List Addr) (ρ' : En), RO K hx F ρ σ H O ∧ DVs K (wo O H) vs ds ∧ bAll bs ds ρ = some ρ' ∧ ∀ σ', Wp is σ σ' → RO K hx F ρ' σ' H O → Q σ' H
theorem _root_.L2.PG.imp {X : Cx} {e : Expr} {t t' : TG} (h : PG X e t) (i : ∀ v σ H Q, t' v σ H Q → t v σ H Q) : PG X e t' := ⟨fun pins s σ H v u Q I r q => h.run pins s σ H v u Q I r (i v σ H Q q)⟩
theorem _root_.L2.PGs.imp {X : Cx} {e : List Expr} {t t' : TGs} (h : PGs X e t) (i : ∀ v σ H Q, t' v σ H Q → t v σ H Q) : PGs X e t' := ⟨fun pins s σ H v u Q I r q => h.run pins s σ H v u Q I r (i v σ H Q q)⟩
section
variable {X : Cx} {hx : Hx} {W : WX} {e : Expr} {es : List Expr} {b : BX} {bs : List BX} {pos : Pos} {is js : List Nat}
theorem g_nm {i : Nat} {x : Str} (hN : X.N.Nodup) (hi : X.N[i]? = some x) (hl : Loc X.env.scope x) (hf : X.fn x = true ∨ X.env.scope.names.lookup x = some .local := by first | exact .inl rfl | exact .inr rfl | assumption) (hio : hx.io ≠ some i := by intro h; cases h) : PG X (.Name x pos) (tG X.K hx [i] (bNm i)) :=
  (pg_name hN hi hl hf).imp fun v σ H Q h => by
    obtain ⟨F, ρ, d, O, ρ', r, dv, e, k⟩ := h
    cases e
    exact k _ (fun vs h => wipe_set (h i List.mem_cons_self)) (r.set i hio dv)
theorem gs_nil : PGs X [] (tGs X.K hx [] []) := pgs_nil.imp fun v σ H Q h => by
  obtain ⟨F, ρ, ds, O, ρ', r, dv, e, k⟩ := h
  cases ds with
  | nil =>
    cases dv
    cases e
    exact ⟨rfl, k σ (fun _ _ => rfl) r⟩
  | cons d ds => cases e
theorem gs_cons (h1 : PG X e (tG X.K hx is b)) (h2 : PGs X es (tGs X.K hx js bs)) (hs : (assignEach (e :: es) X.env).map (·.2) = assign e X.env :: (assignEach es X.env).map (·.2) := by rfl) : PGs X (e :: es) (tGs X.K hx (is ++ js) (b :: bs)) :=
  (pgs_cons h1 h2 hs).imp fun v σ H Q h => by
    obtain ⟨F, ρ, ds, O, ρ', r, dv, e, k⟩ := h
    cases ds with
    | nil => cases e
    | cons d ds =>
      cases dv with
      | cons a t =>
        obtain ⟨ρ1, e1, e2⟩ := Option.bind_eq_some_iff.mp (show (b d ρ).bind (fun ρ1 => bAll bs ds ρ1) = some ρ' from e)
        exact ⟨_, _, rfl, F, ρ, d, O, ρ1, r, a, e1, fun σ1 w1 r1 => ⟨F, ρ1, ds, O, ρ', r1, t, e2, fun σ2 w2 r2 => k σ2 (fun vs h => (w2 vs fun i hi => h i (List.mem_append_right _ hi)).trans (w1 vs fun i hi => h i (List.mem_append_left _ hi))) r2⟩⟩
theorem g_tp {n : Nat} (hc : X.calm = true) (h : PGs X es (tGs X.K hx is bs)) (hn : (assignEach es X.env).length = bs.length := by rfl) (hst : (assignEach es X.env).findIdx? (·.1) = none := by rfl) : PG X (.Tuple es n pos) (tG X.K hx is (bTp bs)) :=
  (pg_tup hc h hn hst).imp fun v σ H Q h => by
    obtain ⟨F, ρ, d, O, ρ', r, dv, e, k⟩ := h
    cases d <;> (try (cases e; done))
    rename_i ds
    have e' : (if ds.length = bs.length then bAll bs ds ρ else none) = some ρ' := e
    split at e'
    · rename_i hl
      obtain ⟨a, vs, rfl, s, t⟩ := dv.tup_of
      exact ⟨a, vs, rfl, sqT_mono (wo_same O H) s, by rw [t.length, hl], F, ρ, ds, O, ρ', r, t, e', k⟩
    · cases e'
/-- a, b = e -/
def sUn (b : BX) (f : EX) : SX := fun ρ => (f ρ).then fun d ρ1 => match b d ρ1 with
  | some ρ2 => .nx ρ2
  | none => .stuck
theorem p_un {tg a : Expr} {f : EX} {b : BX} (he : PE X a (tX X.K hx W f)) (hg : PG X tg (tG X.K hx is b)) (hs : swapsWithSole [tg] a pos.line X.env = pure false := by rfl) (hw : swappedStores [tg] a X.env = pure none := by rfl)
    (h1 : (assignEach [tg] X.env).map (·.2) = [assign tg X.env] := by rfl) : PS X (.Assign [tg] a pos) (tS X.K hx W (sUn b f)) := (ps_asg he hg hs hw h1).imp fun D σ H q => by
  obtain ⟨F, ρ, ⟨O, r⟩, hp⟩ := q
  refine bindS r hp fun d ρ1 v H1 O1 r1 dv hp1 => ?_
  cases e : b d ρ1 with
  | none => rw [e] at hp1; exact hp1.elim
  | some ρ2 =>
    rw [e] at hp1
    exact ⟨F, ρ1, d, O1, ρ2, r1, dv, e, fun σ' _ r' => hp1 σ' H1 ⟨O1, r'⟩⟩
/-- x op= e, ints -/
def sAug (i : Nat) (op : D → D → Option D) (f : EX) : SX := fun ρ => match ρ[i]? with
  | some (some (.val d)) => (f ρ).then fun e ρ1 => match op d e with
    | some z => .nx (ρ1.set i (some (.val z)))
    | none => .stuck
  | _ => .stuck
theorem p_aug {i : Nat} {x : Str} {a : Expr} {f : EX} {op : Operator} {r : R2} {g : D → D → Option D} {pos' : Pos} (ho : PIp X op r) (h2 : Op2 X.K r g) (hN : X.N.Nodup) (hi : X.N[i]? = some x) (hl : Loc X.env.scope x) (he : PE X a (tX X.K hx W f))
    (hf : X.fn x = true ∨ X.env.scope.names.lookup x = some .local := by first | exact .inl rfl | exact .inr rfl | assumption) (hio : hx.io ≠ some i := by intro h; cases h) : PS X (.AugAssign (.Name x pos') op a pos) (tS X.K hx W (sAug i g f)) := (ps_aug hN hi hl he ho hf).imp fun D σ H q => by
  obtain ⟨F, ρ, ⟨O, r0⟩, hp⟩ := q
  unfold sAug at hp
  cases e : ρ[i]? with
  | none => rw [e] at hp; exact hp.elim
  | some o =>
    cases o with
    | none => rw [e] at hp; exact hp.elim
    | some s =>
      cases s with
      | own ds => rw [e] at hp; exact hp.elim
      | exc x => rw [e] at hp; exact hp.elim
      | io ds => rw [e] at hp; exact hp.elim
      | val d =>
        rw [e] at hp
        obtain ⟨v, ev, dv0⟩ := r0.sl i _ e
        refine ⟨v, ev, ?_⟩
        refine bindS (F := ⟨wo O H, F.g, F.io⟩) r0.re (PoS.fr r0.fr rfl rfl hp) fun e1 ρ1 u H1 O1 r1 du hp1 => ?_
        cases q : g d e1 with
        | none => rw [q] at hp1; exact hp1.elim
        | some z =>
          rw [q] at hp1
          exact h2 O1 H1 v u d e1 z _ r1.dom (DV.mono r1.fr _ _ dv0) du q fun v' H' s' dv' => hp1 _ H' ⟨O1, (r1.grow s').set i hio dv'⟩
end
end MB

/-! Loops and comprehensions, by values. -/
namespace MB
open PySem PySem.Spec PyProof.Rows L2

/-! ### what is walked -/
/-- from where T stands: the items are ds -/
def Its (K : Fg) (T : Hp) (J : It) (ds : List D) : Prop := ∀ (i : Nat) (H : Hp), Same T H → (∀ d, ds[i]? = some d → J.go i H ∧ ∀ x H', J.yld i H x H' → Same H H' ∧ ∀ O, (∀ a ∈ O, ∃ o, H a = some o) → Same T (wo O H) → DV K (wo O H') x d) ∧ (ds.length ≤ i → J.stop i H)
/-- the items that are walked -/
inductive Ri where
  | ok (ds : List D) (ρ : En) | err (x : Ex) (ρ : En) | stuck
abbrev IX := En → Ri
def seqI : D → Option (List D)
  | .tup xs => some xs
  | .lst xs => some xs
  | _ => none
theorem its_tup {K : Fg} {T : Hp} {a : Addr} {vs : List V} {ds : List D} (s : SqT K T a vs) (t : DVs K T vs ds) : Its K T (Itt K a) ds := fun i H st => by
  refine ⟨fun d hd => ?_, fun hi => ⟨vs, sqT_mono st s, by rw [t.length]; exact hi⟩⟩
  obtain ⟨v, hv, dv⟩ := t.get hd
  refine ⟨⟨vs, v, sqT_mono st s, hv⟩, fun x H' y => ?_⟩
  obtain ⟨e, y⟩ := y
  subst e
  have ex : x = v := Option.some.inj ((y vs (sqT_mono st s)).symm.trans hv)
  subst ex
  exact ⟨Same.refl _, fun O _ so => DV.mono so _ _ dv⟩
theorem its_lst {K : Fg} {T : Hp} {a : Addr} {vs : List V} {ds : List D} (s : T a = some (.lst vs)) (t : DVs K T vs ds) : Its K T (Itl K a) ds := fun i H st => by
  refine ⟨fun d hd => ?_, fun hi => ⟨vs, .of (st _ _ s), by rw [t.length]; exact hi⟩⟩
  obtain ⟨v, hv, dv⟩ := t.get hd
  refine ⟨⟨vs, v, .of (st _ _ s), hv⟩, fun x H' y => ?_⟩
  obtain ⟨e, y⟩ := y
  subst e
  have ex : x = v := Option.some.inj ((y vs (.of (st _ _ s))).symm.trans hv)
  subst ex
  exact ⟨Same.refl _, fun O _ so => DV.mono so _ _ dv⟩
def rangeL (lo : Int) (n : Nat) : List D := (List.range n).map fun i => .int (lo + (i : Nat))
theorem its_rng {K : Fg} {T : Hp} (lo : Int) (n : Nat) : Its K T (Itr lo n) (rangeL lo n) := fun i H st => by
  refine ⟨fun d hd => ?_, fun hi => by
    have e : (rangeL lo n).length = n := by simp [rangeL]
    rw [e] at hi
    exact hi⟩
  unfold rangeL at hd
  rw [List.getElem?_map] at hd
  cases e : (List.range n)[i]? with
  | none => rw [e] at hd; cases hd
  | some j =>
    rw [e] at hd
    have hi : i < n := by
      have := (List.getElem?_eq_some_iff.mp e).1
      simpa using this
    have ej : j = i := by
      have := (List.getElem?_eq_some_iff.mp e).2
      simpa using this.symm
    subst ej
    cases hd
    refine ⟨hi, fun x H' y => ?_⟩
    obtain ⟨e1, e2⟩ := y
    subst e1 e2
    exact ⟨Same.refl _, fun O _ _ => .int _⟩

/-! ### for -/
def loopS (b : BX) (g : SX) : List D → En → Fl
  | [], ρ => .nx ρ
  | d :: ds, ρ => match b d ρ with
    | none => .stuck
    | some ρ1 => match g ρ1 with
      | .nx ρ2 => loopS b g ds ρ2
      | .ct ρ2 => loopS b g ds ρ2
      | .bk ρ2 => .nx ρ2
      | r => r
theorem for_core {is : List Nat} {K : Fg} {hx : Hx} {W : WX} {F : Fm} {J : It} {ds : List D} {b : BX} {g : SX} {D : Ends} {ρ : En} {σ : MB.St} {H : Hp} {O : List Addr} (r : RO K hx F ρ σ H O) (hi : Its K (wo O H) J ds) (hp : PoS K hx F W (loopS b g ds ρ) D) :
    ∃ Wi : Nat → Nat → MB.St → Hp → Prop, (∃ m, Wi 0 m σ H) ∧ ∀ i m σ H, Wi i m σ H →
      (J.stop i H ∧ D.nx σ H) ∨ (J.go i H ∧ ∃ N : MB.St → Hp → Prop, (∀ σ' H', N σ' H' → ∃ m', m' < m ∧ Wi (i + 1) m' σ' H') ∧ ∀ x H', J.yld i H x H' → tG K hx is b x σ H' fun σ2 H2 => tS K hx W g { D with nx := N, ct := N, bk := D.nx } σ2 H2) := by
  let F1 : Fm := ⟨wo O H, F.g, F.io⟩
  have hp1 : PoS K hx F1 W (loopS b g ds ρ) D := PoS.fr r.fr rfl rfl hp
  refine ⟨fun i m σ H => m = ds.length - i ∧ i ≤ ds.length ∧ ∃ ρ O, RO K hx F1 ρ σ H O ∧ PoS K hx F1 W (loopS b g (ds.drop i) ρ) D, ⟨ds.length, by simp, Nat.zero_le _, ρ, O, r.re, hp1⟩, ?_⟩
  rintro i m σ2 H2 ⟨rfl, hle, ρ2, O2, r2, hp2⟩
  have sT : Same (wo O H) H2 := fun a o h => wo_same O2 H2 a o (r2.fr a o h)
  obtain ⟨hgo, hstop⟩ := hi i H2 sT
  by_cases hlt : i < ds.length
  · have hd : ds[i]? = some ds[i] := List.getElem?_eq_getElem hlt
    have hdrop : ds.drop i = ds[i] :: ds.drop (i + 1) := List.drop_eq_getElem_cons hlt
    rw [hdrop] at hp2
    obtain ⟨g1, g2⟩ := hgo _ hd
    refine .inr ⟨g1, fun σ' H' => ∃ ρ' O', RO K hx F1 ρ' σ' H' O' ∧ PoS K hx F1 W (loopS b g (ds.drop (i + 1)) ρ') D, fun σ' H' ⟨ρ', O', r', p'⟩ => ⟨ds.length - (i + 1), by omega, rfl, hlt, ρ', O', r', p'⟩, fun x H3 y => ?_⟩
    obtain ⟨s3, dv3⟩ := g2 x H3 y
    have r3 := r2.grow s3
    unfold loopS at hp2
    cases e : b ds[i] ρ2 with
    | none => rw [e] at hp2; exact hp2.elim
    | some ρ3 =>
      rw [e] at hp2
      refine ⟨F1, ρ2, ds[i], O2, ρ3, r3, dv3 O2 r2.dom r2.fr, e, fun σ4 _ r4 => ⟨F1, ρ3, ⟨O2, r4⟩, ?_⟩⟩
      have hp3 : PoS K hx F1 W (match g ρ3 with
        | .nx ρ2 => loopS b g (ds.drop (i + 1)) ρ2
        | .ct ρ2 => loopS b g (ds.drop (i + 1)) ρ2
        | .bk ρ2 => .nx ρ2
        | r => r) D := hp2
      cases e4 : g ρ3 with
      | nx ρ5 =>
        rw [e4] at hp3
        exact fun σ5 H5 ⟨O5, r5⟩ => ⟨ρ5, O5, r5, hp3⟩
      | ct ρ5 =>
        rw [e4] at hp3
        exact fun σ5 H5 ⟨O5, r5⟩ => ⟨ρ5, O5, r5, hp3⟩
      | bk ρ5 =>
        rw [e4] at hp3
        exact hp3
      | rt d ρ5 =>
        rw [e4] at hp3
        exact hp3
      | err x ρ5 =>
        rw [e4] at hp3
        exact hp3
      | stuck =>
        rw [e4] at hp3
        exact hp3
  · have e : i = ds.length := by omega
    subst e
    rw [List.drop_length] at hp2
    exact .inl ⟨hstop (Nat.le_refl _), hp2 σ2 H2 ⟨O2, r2⟩⟩
/-- for over a list or a tuple -/
def iSeq (K : Fg) (tl : TE) : TI := fun σ H R => tl σ H fun x H1 => ∃ a, x = .ref a ∧ (((∃ xs, SqL K H1 a xs) ∧ R (Itl K a) H1) ∨ ((∃ xs, SqT K H1 a xs) ∧ R (Itt K a) H1))
theorem pi_seq {X : Cx} {tg l : Expr} {tl : TE} (hl : PE X l tl) : PI X tg l (iSeq X.K tl) := by
  refine ⟨fun pins s σ H R I h => ?_⟩
  refine thn (hl.run pins s σ H _ I h) fun v s1 ⟨x, H1, I1, r1, q1⟩ => ?_
  obtain ⟨a, e, q⟩ := q1
  subst e
  cases r1
  rcases q with ⟨⟨xs, hq⟩, q⟩ | ⟨⟨xs, hq⟩, q⟩
  · obtain ⟨its, rv, p, hz⟩ := I1.list hq
    refine wpAny_pyIter_list p.isList ?_
    refine ⟨s1.heap.objs.size, [s1.heap.objs.size], _, _, H1, rfl, I1.kept (t' := s1.toks) fun b o e => Heap.get?_push_of_some _ e, turn_list a _, ⟨_, Heap.get?_push_size _ rfl, rfl, rfl⟩, fun b hb => ?_, q⟩
    have e : b = s1.heap.objs.size := by simpa using hb
    subst e
    exact I1.fpOk (Nat.le_refl _) (I1.hok.fresh (Nat.le_refl _))
  · obtain ⟨its, rv, p, hz⟩ := I1.tuple hq
    refine wpAny_pyIter_tuple (show s1.heap.IsTuple a its.toArray from p) ?_
    refine ⟨s1.heap.objs.size, [s1.heap.objs.size], _, _, H1, rfl, I1.kept (t' := s1.toks) fun b o e => Heap.get?_push_of_some _ e, turn_tuple a _, ⟨_, Heap.get?_push_size _ rfl, rfl, rfl⟩, fun b hb => ?_, q⟩
    have e : b = s1.heap.objs.size := by simpa using hb
    subst e
    exact I1.fpOk (Nat.le_refl _) (I1.hok.fresh (Nat.le_refl _))
/-- the items' reading -/
def RI (K : Fg) (hx : Hx) (W : WX) (it : IX) (wi : TI) : Prop := ∀ (σ : MB.St) (H : Hp) (R : It → Hp → Prop) (F : Fm) (ρ : En) (O : List Addr), RO K hx F ρ σ H O →
  (match it ρ with
    | .ok ds ρ1 => ∀ (J : It) (H1 : Hp) (O1 : List Addr), RO K hx F ρ1 σ H1 O1 → Same (wo O H) (wo O1 H1) → Its K (wo O1 H1) J ds → R J H1
    | .err x ρ1 => ∀ cls dd H1, RX K hx F ρ1 σ H1 x cls dd → W cls dd σ H1
    | .stuck => False) → wi σ H R
/-- an expression, then items -/
def iB (f : EX) (k : D → En → Ri) : IX := fun ρ => match f ρ with
  | .ok d ρ1 => k d ρ1
  | .err x ρ1 => .err x ρ1
  | .stuck => .stuck
theorem bindI {K : Fg} {hx : Hx} {W : WX} {f : EX} {k : D → En → Ri} {F : Fm} {ρ : En} {σ : MB.St} {H : Hp} {O : List Addr} {P : Ri → Prop} {Q1 : VK} (r : RO K hx F ρ σ H O) (hp : P (iB f k ρ)) (he : ∀ x ρ1, P (.err x ρ1) → ∀ cls dd H1, RX K hx F ρ1 σ H1 x cls dd → W cls dd σ H1) (hs : P .stuck → False)
    (hk : ∀ d ρ1 v H1 O1, RO K hx F ρ1 σ H1 O1 → Same (wo O H) (wo O1 H1) → DV K (wo O1 H1) v d → P (k d ρ1) → Q1 v H1) : tX K hx W f σ H Q1 := by
  refine ⟨⟨wo O H, F.g, F.io⟩, ρ, ⟨O, r.re⟩, ?_⟩
  unfold iB at hp
  cases e : f ρ with
  | ok d ρ1 =>
    rw [e] at hp
    exact fun v H1 ⟨O1, r1, dv⟩ => hk d ρ1 v H1 O1 (r1.fr_of r.fr rfl rfl) r1.fr dv hp
  | err x ρ1 =>
    rw [e] at hp
    exact fun cls dd H1 ⟨O1, r1, ev⟩ => he x ρ1 hp cls dd H1 ⟨O1, r1.fr_of r.fr rfl rfl, ev⟩
  | stuck =>
    rw [e] at hp
    exact hs hp
def iV (items : D → Option (List D)) (f : EX) : IX := iB f fun d ρ1 => match items d with
  | some ds => .ok ds ρ1
  | none => .stuck
section
variable {K : Fg} {hx : Hx} {W : WX} {f g : EX}
theorem ri_seq : RI K hx W (iV seqI f) (iSeq K (tX K hx W f)) := by
  intro σ H R F ρ O r hp
  refine bindI (P := fun z => match z with
    | .ok ds ρ1 => ∀ (J : It) (H1 : Hp) (O1 : List Addr), RO K hx F ρ1 σ H1 O1 → Same (wo O H) (wo O1 H1) → Its K (wo O1 H1) J ds → R J H1
    | .err x ρ1 => ∀ cls dd H1, RX K hx F ρ1 σ H1 x cls dd → W cls dd σ H1
    | .stuck => False) r hp (fun x ρ1 h => h) (fun h => h) fun d ρ1 v H1 O1 r1 s1 dv q => ?_
  cases d <;> (try exact (q : False).elim)
  · obtain ⟨a, vs, rfl, s, t⟩ := dv.tup_of
    exact ⟨a, rfl, .inr ⟨⟨vs, sqT_mono (wo_same O1 H1) s⟩, q _ H1 O1 r1 s1 (its_tup s t)⟩⟩
  · obtain ⟨a, vs, rfl, s, t⟩ := dv.lst_of
    exact ⟨a, rfl, .inl ⟨⟨vs, .of (wo_same O1 H1 _ _ s)⟩, q _ H1 O1 r1 s1 (its_lst s t)⟩⟩
/-- range(n), range(a, b) -/
def big (i : Int) : Bool := decide (-(2 ^ 62) ≤ i ∧ i < 2 ^ 62)
def iR1 (f : EX) : IX := iB f fun d ρ1 => match d with
  | .int n => if big n = true then .ok (rangeL 0 n.toNat) ρ1 else .stuck
  | _ => .stuck
def iR2 (f g : EX) : IX := iB f fun d ρ1 => iB g (fun e ρ2 => match d, e with
  | .int a, .int b => if big a = true ∧ big b = true then .ok (rangeL a (b - a).toNat) ρ2 else .stuck
  | _, _ => .stuck) ρ1
theorem ri_r1 : RI K hx W (iR1 f) (iRng1 (tCons (tX K hx W f) tNil)) := by
  intro σ H R F ρ O r hp
  refine bindI (P := fun z => match z with
    | .ok ds ρ1 => ∀ (J : It) (H1 : Hp) (O1 : List Addr), RO K hx F ρ1 σ H1 O1 → Same (wo O H) (wo O1 H1) → Its K (wo O1 H1) J ds → R J H1
    | .err x ρ1 => ∀ cls dd H1, RX K hx F ρ1 σ H1 x cls dd → W cls dd σ H1
    | .stuck => False) r hp (fun x ρ1 h => h) (fun h => h) fun d ρ1 v H1 O1 r1 s1 dv q => ?_
  cases d <;> (try exact (q : False).elim)
  rename_i n
  cases dv
  cases hb : big n with
  | false => simp [hb] at q
  | true =>
    simp only [hb, if_true] at q
    obtain ⟨b1, b2⟩ := of_decide_eq_true hb
    exact ⟨n, rfl, b1, b2, q _ H1 O1 r1 s1 (its_rng 0 n.toNat)⟩
theorem ri_r2 : RI K hx W (iR2 f g) (iRng2 (tCons (tX K hx W f) (tCons (tX K hx W g) tNil))) := by
  intro σ H R F ρ O r hp
  refine bindI (P := fun z => match z with
    | .ok ds ρ1 => ∀ (J : It) (H1 : Hp) (O1 : List Addr), RO K hx F ρ1 σ H1 O1 → Same (wo O H) (wo O1 H1) → Its K (wo O1 H1) J ds → R J H1
    | .err x ρ1 => ∀ cls dd H1, RX K hx F ρ1 σ H1 x cls dd → W cls dd σ H1
    | .stuck => False) r hp (fun x ρ1 h => h) (fun h => h) fun d ρ1 v H1 O1 r1 s1 dv q => ?_
  refine bindI (P := fun z => match z with
    | .ok ds ρ1 => ∀ (J : It) (H1 : Hp) (O1 : List Addr), RO K hx F ρ1 σ H1 O1 → Same (wo O H) (wo O1 H1) → Its K (wo O1 H1) J ds → R J H1
    | .err x ρ1 => ∀ cls dd H1, RX K hx F ρ1 σ H1 x cls dd → W cls dd σ H1
    | .stuck => False) r1 q (fun x ρ1 h => h) (fun h => h) fun e ρ2 u H2 O2 r2 s2 du q2 => ?_
  cases d <;> (try exact (q2 : False).elim)
  cases e <;> (try exact (q2 : False).elim)
  rename_i a b
  cases dv
  cases du
  by_cases hb : big a = true ∧ big b = true
  · simp only [hb, and_self, if_true] at q2
    obtain ⟨b1, b2⟩ := of_decide_eq_true hb.1
    obtain ⟨b3, b4⟩ := of_decide_eq_true hb.2
    exact ⟨a, b, rfl, ⟨b1, b2, b3, b4⟩, q2 _ H2 O2 r2 (s1.trans s2) (its_rng a (b - a).toNat)⟩
  · simp only [hb, if_false] at q2
end
def sFor (it : IX) (b : BX) (g : SX) : SX := fun ρ => match it ρ with
  | .ok ds ρ1 => loopS b g ds ρ1
  | .err x ρ1 => .err x ρ1
  | .stuck => .stuck
section
variable {X : Cx} {hx : Hx} {W : WX} {tg iter l a c : Expr} {body : List Stmt} {b : BX} {g : SX} {it : IX} {wi : TI} {pos p : Pos} {f fg : EX} {is : List Nat}
theorem p_for (hp : PassesOwn (model X.prog X.w) X.A X.env X.xe) (hc : X.calm = true) (hi : PI X tg iter wi) (ri : RI X.K hx W it wi) (hg : PG X tg (tG X.K hx is b)) (hb : PSs X body (tS X.K hx W g)) (hs : ∀ x, foldedSetIterable iter X.env x = pure x := by intro _; rfl) :
    PS X (.For tg iter body [] pos) (tS X.K hx W (sFor it b g)) := (ps_for hp hc hi hg hb hs).imp fun D σ H q => by
  obtain ⟨F, ρ, ⟨O, r⟩, hq⟩ := q
  refine ri σ H _ F ρ O r ?_
  unfold sFor at hq
  cases e : it ρ with
  | ok ds ρ1 =>
    rw [e] at hq
    exact fun J H1 O1 r1 s1 its => for_core r1 its hq
  | err x ρ1 =>
    rw [e] at hq
    exact fun cls dd H1 h => hq cls dd σ H1 h
  | stuck =>
    rw [e] at hq
    exact hq
end
end MB

/-! Comprehensions, by values. -/
namespace MB
open PySem PySem.Spec PyProof.Rows L2

/-- the comprehension's own slots forgotten -/
def wipeE (ρ : En) : List Nat → En
  | [] => ρ
  | v :: vs => (wipeE ρ vs).set v none
/-- the outer slots come back -/
def backE (ρ0 ρ : En) : List Nat → En
  | [] => ρ
  | v :: vs => (backE ρ0 ρ vs).set v (ρ0.getD v none)
def notOwn (ρ : En) (v : Nat) : Bool := match ρ[v]? with
  | some (some (.own _)) => false
  | _ => true
def compL (b : BX) (c e : EX) (vs : List Nat) : List D → List D → En → Rs
  | [], acc, ρ => .ok (.lst acc) ρ
  | d :: ds, acc, ρ => match b d (wipeE ρ vs) with
    | none => .stuck
    | some ρ1 => (c ρ1).bind fun t ρ2 => match truth t with
      | some true => (e ρ2).bind fun y ρ3 => compL b c e vs ds (acc ++ [y]) ρ3
      | some false => compL b c e vs ds acc ρ2
      | none => .stuck
def eComp (it : IX) (b : BX) (c e : EX) (vs : List Nat) : EX := fun ρ => match it ρ with
  | .ok ds ρ1 => if ds.length ≤ 1000000 ∧ vs.all (notOwn ρ1) = true then match compL b c e vs ds [] ρ1 with
      | .ok d ρ2 => .ok d (backE ρ1 (wipeE ρ2 vs) vs)
      | r => .stuck
    else .stuck
  | .err x ρ1 => .err x ρ1
  | .stuck => .stuck

section
variable {K : Fg} {hx : Hx} {F : Fm} {H : Hp} {ρ : En} {σ : MB.St} {O : List Addr}
theorem RO.setNone (r : RO K hx F ρ σ H O) (i : Nat) (hi : hx.io ≠ some i) : RO K hx F (ρ.set i none) (σ.set i none) H O := by
  have nv : ∀ {m : Nat} {x : Sl}, (ρ.set i none)[m]? = some (some x) → m ≠ i ∧ ρ[m]? = some (some x) := fun {m x} e => by
    rcases getset e with ⟨_, e2, _⟩ | z
    · cases e2
    · exact z
  refine ⟨r.fr, r.gs, r.go, fun j a x ds e1 e2 e3 => ?_, by simp [r.len], fun j x e => ?_, fun j k a x y ds es e1 f1 e2 f2 e3 e4 => ?_, r.dom, fun j hj => ?_, fun j ds e => ?_⟩
  · obtain ⟨n, e1⟩ := nv e1
    rw [List.getElem?_set_ne (Ne.symm n)] at e3
    exact r.gn j a x ds e1 e2 e3
  · obtain ⟨n1, e⟩ := nv e
    obtain ⟨v, ev, h⟩ := r.sl j x e
    exact ⟨v, by rw [List.getElem?_set_ne (Ne.symm n1)]; exact ev, h⟩
  · obtain ⟨n1, e1⟩ := nv e1
    obtain ⟨n2, e2⟩ := nv e2
    rw [List.getElem?_set_ne (Ne.symm n1)] at e3
    rw [List.getElem?_set_ne (Ne.symm n2)] at e4
    exact r.ne j k a x y ds es e1 f1 e2 f2 e3 e4
  · obtain ⟨a, ds, e1, e2, e3⟩ := r.pin j hj
    have n : j ≠ i := fun z => hi (by rw [← z]; exact hj)
    exact ⟨a, ds, e1, by rw [List.getElem?_set_ne (Ne.symm n)]; exact e2, by rw [List.getElem?_set_ne (Ne.symm n)]; exact e3⟩
  · exact r.nio j ds (nv e).2
/-- the slot of the list that is changed in place is none of these -/
def Hx.off (hx : Hx) (vs : List Nat) : Prop := ∀ v ∈ vs, hx.io ≠ some v
theorem RO.wipe (r : RO K hx F ρ σ H O) : ∀ vs : List Nat, hx.off vs → RO K hx F (wipeE ρ vs) (L2.wipe σ vs) H O
  | [], _ => r
  | v :: vs, h => (r.wipe vs fun u hu => h u (List.mem_cons_of_mem _ hu)).setNone v (h v List.mem_cons_self)
theorem wipeE_length (ρ : En) : ∀ vs : List Nat, (wipeE ρ vs).length = ρ.length
  | [] => rfl
  | v :: vs => by unfold wipeE; rw [List.length_set, wipeE_length ρ vs]
theorem backE_length (ρ0 ρ : En) : ∀ vs : List Nat, (backE ρ0 ρ vs).length = ρ.length
  | [] => rfl
  | v :: vs => by unfold backE; rw [List.length_set, backE_length ρ0 ρ vs]
theorem backE_get (ρ0 ρ : En) : ∀ (vs : List Nat) (i : Nat) (x : Sl), (backE ρ0 ρ vs)[i]? = some (some x) → (i ∈ vs ∧ ρ0[i]? = some (some x)) ∨ (i ∉ vs ∧ ρ[i]? = some (some x))
  | [], i, x, h => .inr ⟨by simp, h⟩
  | v :: vs, i, x, h => by
    unfold backE at h
    by_cases hi : v = i
    · subst hi
      rw [List.getElem?_set_self'] at h
      cases q : (backE ρ0 ρ vs)[v]? with
      | none => rw [q] at h; cases h
      | some z =>
        rw [q] at h
        have h' : some (ρ0.getD v none) = some (some x) := h
        have h2 := Option.some.inj h'
        rw [List.getD_eq_getElem?_getD] at h2
        cases q0 : ρ0[v]? with
        | none => rw [q0] at h2; cases h2
        | some z0 =>
          rw [q0] at h2
          have h3 : z0 = some x := h2
          rw [h3]
          exact .inl ⟨List.mem_cons_self, rfl⟩
    · rw [List.getElem?_set_ne hi] at h
      rcases backE_get ρ0 ρ vs i x h with ⟨m, e⟩ | ⟨m, e⟩
      · exact .inl ⟨List.mem_cons_of_mem _ m, e⟩
      · exact .inr ⟨by simp only [List.mem_cons, not_or]; exact ⟨fun e => hi e.symm, m⟩, e⟩
theorem wipe_out' {σ : MB.St} {i : Nat} : ∀ {vs : List Nat}, i ∉ vs → (L2.wipe σ vs)[i]? = σ[i]?
  | [], _ => rfl
  | v :: vs, h => by
    simp only [List.mem_cons, not_or] at h
    show ((L2.wipe σ vs).set v none)[i]? = σ[i]?
    rw [List.getElem?_set_ne (Ne.symm h.1)]
    exact wipe_out' h.2
theorem backE_out {ρ0 ρ : En} {i : Nat} : ∀ {vs : List Nat}, i ∉ vs → (backE ρ0 ρ vs)[i]? = ρ[i]?
  | [], _ => rfl
  | v :: vs, h => by
    simp only [List.mem_cons, not_or] at h
    show ((backE ρ0 ρ vs).set v (ρ0.getD v none))[i]? = ρ[i]?
    rw [List.getElem?_set_ne (Ne.symm h.1)]
    exact backE_out h.2
/-- behind the block: the outer slots come back -/
theorem RO.back {vs' : List Nat} {ρ0 : En} {H0 : Hp} {O0 : List Addr} (r0 : RO K hx F ρ0 σ H0 O0) (hoff : hx.off vs') (hv : ∀ v ∈ vs', notOwn ρ0 v = true) {F1 : Fm} {ρ' : En} (h1 : F1.f = wo O0 H0) (r : RO K hx F1 ρ' (L2.wipe σ vs') H O) : RO K hx F1 (backE ρ0 ρ' vs') σ H O := by
  have s1 : Same (wo O0 H0) (wo O H) := by rw [← h1]; exact r.fr
  have own : ∀ {i : Nat} {x : Sl} {ds : List D}, (backE ρ0 ρ' vs')[i]? = some (some x) → x.list = some ds → i ∉ vs' ∧ ρ'[i]? = some (some x) := fun {i x ds} e hx1 => by
    rcases backE_get ρ0 ρ' vs' i _ e with ⟨m, e0⟩ | h
    · cases x with
      | val d => cases hx1
      | exc y => cases hx1
      | own es =>
        have := hv i m
        unfold notOwn at this
        rw [e0] at this
        cases this
      | io es => exact absurd (r0.nio i es e0) (hoff i m)
    · exact h
  refine ⟨r.fr, r.gs, r.go, fun i a x ds e1 f1 e2 => ?_, ?_, fun i x e => ?_, fun i j a x y ds es e1 f1 e2 f2 e3 e4 => ?_, r.dom, fun j hj => ?_, fun i ds e => ?_⟩
  · obtain ⟨n, e⟩ := own e1 f1
    exact r.gn i a x ds e f1 (by rw [wipe_out' n]; exact e2)
  · rw [backE_length, r.len, wipe_length]
  · rcases backE_get ρ0 ρ' vs' i x e with ⟨m, e0⟩ | ⟨m, e0⟩
    · obtain ⟨v, ev, h⟩ := r0.sl i x e0
      refine ⟨v, ev, ?_⟩
      cases x with
      | val d => exact DV.mono s1 _ _ h
      | own ds => exact absurd m (own e rfl).1
      | io ds => exact absurd m (own e rfl).1
      | exc x =>
        obtain ⟨a, cls, dd, e1, e2, e3⟩ := h
        exact ⟨a, cls, dd, e1, e2, e3.mono s1⟩
    · obtain ⟨v, ev, h⟩ := r.sl i x e0
      rw [wipe_out' m] at ev
      exact ⟨v, ev, h⟩
  · obtain ⟨n1, q1⟩ := own e1 f1
    obtain ⟨n2, q2⟩ := own e2 f2
    exact r.ne i j a x y ds es q1 f1 q2 f2 (by rw [wipe_out' n1]; exact e3) (by rw [wipe_out' n2]; exact e4)
  · obtain ⟨a, ds, e1, e2, e3⟩ := r.pin j hj
    have n : j ∉ vs' := fun m => hoff j m hj
    exact ⟨a, ds, e1, by rw [backE_out n]; exact e2, by rw [← wipe_out' n]; exact e3⟩
  · exact r.nio i ds (own e rfl).2
/-- a new list of mine at p -/
theorem RO.addOwn (r : RO K hx F ρ σ H O) {p : Addr} {o : HO} (n : H p = none) : RO K hx F ρ σ (upd H p o) (p :: O) := by
  have np := r.out n
  have s : Same H (upd H p o) := same_upd n
  have sw : Same (wo O H) (wo (p :: O) (upd H p o)) := fun b x e => by
    unfold wo at *
    split at e
    · cases e
    · rename_i hb
      have hb2 : b ≠ p := fun z => by
        rw [z, n] at e
        cases e
      rw [if_neg (by simp only [List.mem_cons, not_or]; exact ⟨hb2, hb⟩), upd_ne hb2]
      exact e
  refine ⟨r.fr.trans sw, fun a x e => s a x (r.gs a x e), fun a x e => List.mem_cons_of_mem _ (r.go a x e), r.gn, r.len, fun i x e => ?_, r.ne, fun a m => ?_, r.pin, r.nio⟩
  · obtain ⟨v, ev, h⟩ := r.sl i x e
    refine ⟨v, ev, ?_⟩
    cases x with
    | val d => exact DV.mono sw _ _ h
    | own ds =>
      obtain ⟨a, vs, e1, e2, e3, e4⟩ := h
      exact ⟨a, vs, e1, List.mem_cons_of_mem _ e2, s _ _ e3, DVs.mono sw _ _ e4⟩
    | io ds =>
      obtain ⟨a, vs, e1, e2, e3, e4⟩ := h
      exact ⟨a, vs, e1, List.mem_cons_of_mem _ e2, s _ _ e3, DVs.mono sw _ _ e4⟩
    | exc x =>
      obtain ⟨a, cls, dd, e1, e2, e3⟩ := h
      exact ⟨a, cls, dd, e1, e2, e3.mono sw⟩
  · rcases List.mem_cons.mp m with e | m
    · rw [e]
      exact ⟨o, upd_same⟩
    · obtain ⟨x, e⟩ := r.dom a m
      exact ⟨x, s a x e⟩
/-- a list that no slot holds is changed -/
theorem RO.write (r : RO K hx F ρ σ H O) {p : Addr} {o : HO} (hp : p ∈ O) (hg : F.g p = none) (hn : ∀ (i : Nat) (x : Sl) (ds : List D), ρ[i]? = some (some x) → x.list = some ds → σ[i]? ≠ some (some (.ref p))) : RO K hx F ρ σ (upd H p o) O := by
  have ew : wo O (upd H p o) = wo O H := by
    funext a
    unfold wo
    by_cases m : a ∈ O
    · rw [if_pos m, if_pos m]
    · rw [if_neg m, if_neg m, upd_ne (fun z => m (by rw [z]; exact hp))]
  refine ⟨by rw [ew]; exact r.fr, fun a x e => ?_, r.go, r.gn, r.len, fun i x e => ?_, r.ne, fun a m => ?_, r.pin, r.nio⟩
  · rw [upd_ne (fun z => by rw [z, hg] at e; cases e)]
    exact r.gs a x e
  · obtain ⟨v, ev, h⟩ := r.sl i x e
    refine ⟨v, ev, ?_⟩
    cases x with
    | val d =>
      show DV K (wo O (upd H p o)) v d
      rw [ew]
      exact h
    | own ds =>
      obtain ⟨a, vs, e1, e2, e3, e4⟩ := h
      refine ⟨a, vs, e1, e2, ?_, by rw [ew]; exact e4⟩
      rw [upd_ne (fun z => by subst z; rw [e1] at ev; exact hn i _ ds e rfl ev)]
      exact e3
    | io ds =>
      obtain ⟨a, vs, e1, e2, e3, e4⟩ := h
      refine ⟨a, vs, e1, e2, ?_, by rw [ew]; exact e4⟩
      rw [upd_ne (fun z => by subst z; rw [e1] at ev; exact hn i _ ds e rfl ev)]
      exact e3
    | exc x =>
      obtain ⟨a, cls, dd, e1, e2, e3⟩ := h
      exact ⟨a, cls, dd, e1, e2, by rw [ew]; exact e3⟩
  · by_cases z : a = p
    · rw [z]
      exact ⟨o, upd_same⟩
    · rw [upd_ne z]
      exact r.dom a m
/-- a list of mine becomes data -/
theorem RO.giveUp (r : RO K hx F ρ σ H O) {p : Addr} (hg : F.g p = none) (hn : ∀ (i : Nat) (x : Sl) (ds : List D), ρ[i]? = some (some x) → x.list = some ds → σ[i]? ≠ some (some (.ref p))) : RO K hx F ρ σ H (O.filter (· ≠ p)) ∧ Same (wo O H) (wo (O.filter (· ≠ p)) H) := by
  have sm : Same (wo O H) (wo (O.filter (· ≠ p)) H) := fun b o h => by
    unfold wo at *
    split at h
    · cases h
    · rename_i n
      rw [if_neg (fun z => n (List.mem_filter.mp z).1)]
      exact h
  refine ⟨⟨r.fr.trans sm, r.gs, fun b o hb => List.mem_filter.mpr ⟨r.go b o hb, ?_⟩, r.gn, r.len, fun j x ej => ?_, r.ne, fun b hb => r.dom b (List.mem_filter.mp hb).1, r.pin, r.nio⟩, sm⟩
  · have nb : b ≠ p := fun z => by
      subst z
      rw [hg] at hb
      cases hb
    simpa using nb
  · obtain ⟨v', e1, h'⟩ := r.sl j x ej
    refine ⟨v', e1, ?_⟩
    cases x with
    | val d => exact DV.mono sm _ _ h'
    | own es =>
      obtain ⟨b, ws, rfl, hb, hB, hw⟩ := h'
      refine ⟨b, ws, rfl, List.mem_filter.mpr ⟨hb, ?_⟩, hB, DVs.mono sm _ _ hw⟩
      have nb : b ≠ p := fun z => by
        subst z
        exact hn j _ es ej rfl e1
      simpa using nb
    | io es =>
      obtain ⟨b, ws, rfl, hb, hB, hw⟩ := h'
      refine ⟨b, ws, rfl, List.mem_filter.mpr ⟨hb, ?_⟩, hB, DVs.mono sm _ _ hw⟩
      have nb : b ≠ p := fun z => by
        subst z
        exact hn j _ es ej rfl e1
      simpa using nb
    | exc x =>
      obtain ⟨b, cls, dd, rfl, e2, h2⟩ := h'
      exact ⟨b, cls, dd, rfl, e2, h2.mono sm⟩
end
theorem RO.weak {K : Fg} {hx : Hx} {F F' : Fm} {ρ : En} {σ : MB.St} {H : Hp} {O : List Addr} (r : RO K hx F ρ σ H O) (s : Same F'.f F.f) (g : Same F'.g F.g) (io : F'.io = F.io) : RO K hx F' ρ σ H O :=
  ⟨s.trans r.fr, g.trans r.gs, fun a o h => r.go a o (g a o h), fun i a x ds e1 f1 e2 => (by
    cases q : F'.g a with
    | none => rfl
    | some o =>
      have := g a o q
      rw [r.gn i a x ds e1 f1 e2] at this
      cases this), r.len, r.sl, r.ne, r.dom, by rw [io]; exact r.pin, r.nio⟩
theorem wipe_get {σ : MB.St} {i : Nat} : ∀ {vs : List Nat}, (L2.wipe σ vs)[i]? = if i ∈ vs then (σ[i]?).map (fun _ => none) else σ[i]?
  | [] => by simp [L2.wipe]
  | v :: vs => by
    show ((L2.wipe σ vs).set v none)[i]? = _
    by_cases e : v = i
    · subst e
      rw [List.getElem?_set_self', wipe_get, if_pos (List.mem_cons_self (a := v) (l := vs))]
      split
      · cases σ[v]? <;> rfl
      · cases σ[v]? <;> rfl
    · rw [List.getElem?_set_ne e, wipe_get]
      by_cases m : i ∈ vs
      · rw [if_pos m, if_pos (List.mem_cons_of_mem v m)]
      · rw [if_neg m, if_neg (by simp only [List.mem_cons, not_or]; exact ⟨fun z => e z.symm, m⟩)]
theorem wipe_idem (σ : MB.St) (vs : List Nat) : L2.wipe (L2.wipe σ vs) vs = L2.wipe σ vs := by
  apply List.ext_getElem?
  intro i
  rw [wipe_get, wipe_get]
  split
  · cases σ[i]? <;> rfl
  · rfl
theorem RO.lat {K : Fg} {hx : Hx} {F : Fm} {ρ : En} {σ : MB.St} {H : Hp} {O : List Addr} (r : RO K hx F ρ σ H O) {i : Nat} {x : Sl} {ds : List D} {a : Addr} (e : ρ[i]? = some (some x)) (hl : x.list = some ds) (es : σ[i]? = some (some (.ref a))) :
    a ∈ O ∧ ∃ vs, H a = some (.lst vs) ∧ DVs K (wo O H) vs ds := by
  obtain ⟨v, ev, h⟩ := r.sl i x e
  rw [es] at ev
  cases ev
  cases x with
  | val d => cases hl
  | exc y => cases hl
  | own es' =>
    cases hl
    obtain ⟨b, vs, e1, e2, e3, e4⟩ := h
    cases e1
    exact ⟨e2, vs, e3, e4⟩
  | io es' =>
    cases hl
    obtain ⟨b, vs, e1, e2, e3, e4⟩ := h
    cases e1
    exact ⟨e2, vs, e3, e4⟩
/-- what the block's turns carry -/
structure CW (K : Fg) (hx : Hx) (F1 : Fm) (b : BX) (c e : EX) (vs : List Nat) (σ : MB.St) (D : Addr) (ds : List MB.D) (out : MB.D) (ρo : En) (i : Nat) (H : Hp) : Prop where
  ex : ∃ (acc : List MB.D) (accV : List V) (ρ : En) (O : List Addr), H D = some (.lst accV) ∧ acc.length ≤ i ∧ DVs K (wo O H) accV acc ∧ D ∈ O ∧ RO K hx F1 (wipeE ρ vs) (L2.wipe σ vs) H O ∧
    (∀ (j : Nat) (x : Sl) (es : List MB.D), (wipeE ρ vs)[j]? = some (some x) → x.list = some es → (L2.wipe σ vs)[j]? ≠ some (some (.ref D))) ∧ compL b c e vs (ds.drop i) acc ρ = .ok out ρo
theorem comp_core {is : List Nat} {K : Fg} {hx : Hx} {F : Fm} {J : It} {ds : List D} {b : BX} {c e : EX} {vs : List Nat} {ρ : En} {σ : MB.St} {H : Hp} {O : List Addr} {D : Addr} {Qd : Hp → Prop} {out : MB.D} {ρo : En}
    (hoff : hx.off vs) (his : ∀ i ∈ is, i ∈ vs) (hl : ds.length ≤ 1000000) (r : RO K hx F ρ σ H O) (hi : Its K (wo O H) J ds) (hD : H D = none) (hp : compL b c e vs ds [] ρ = .ok out ρo)
    (hd : ∀ H1 O1, RO K hx ⟨wo O H, F.g, F.io⟩ (wipeE ρo vs) (L2.wipe σ vs) H1 O1 → DV K (wo O1 H1) (.ref D) out → Qd H1) :
    ∃ W : Nat → Nat → Hp → Prop, (∃ m, W 0 m (upd H D (.lst []))) ∧ ∀ i m H, W i m H →
      (J.stop i H ∧ Qd H) ∨ (J.go i H ∧ ∃ Nx : Hp → Prop, (∀ H', Nx H' → ∃ m', m' < m ∧ W (i + 1) m' H') ∧ ∀ x H', J.yld i H x H' → tG K hx is b x (L2.wipe σ vs) H' fun σ2 H2 => L2.wipe σ2 vs = L2.wipe σ vs ∧ tT K hx (fun _ _ _ _ => False) c σ2 H2 fun t H3 =>
        if t = true then tX K hx (fun _ _ _ _ => False) e σ2 H3 fun y H4 => ∃ acc, H4 D = some (.lst acc) ∧ acc.length < sizeLine ∧ Nx (upd H4 D (.lst (acc ++ [y]))) else Nx H3) := by
  have gD : F.g D = none := by
    cases q : F.g D with
    | none => rfl
    | some o =>
      have := r.gs D o q
      rw [hD] at this
      cases this
  have w0 : CW K hx ⟨wo O H, F.g, F.io⟩ b c e vs σ D ds out ρo 0 (upd H D (.lst [])) := by
    refine ⟨[], [], ρ, D :: O, upd_same, Nat.zero_le _, .nil, List.mem_cons_self, (r.re.addOwn hD).wipe vs hoff, fun j x es e1 f1 e2 => ?_, hp⟩
    obtain ⟨_, ws, e4, _⟩ := (r.wipe vs hoff).lat e1 f1 e2
    rw [hD] at e4
    cases e4
  refine ⟨fun i m H1 => m = ds.length - i ∧ i ≤ ds.length ∧ CW K hx ⟨wo O H, F.g, F.io⟩ b c e vs σ D ds out ρo i H1, ⟨ds.length, by simp, Nat.zero_le _, w0⟩, ?_⟩
  rintro i m H1 ⟨rfl, hle, ⟨acc, accV, ρ1, O1, h1, h2, h3, h4, r1, h5, h6⟩⟩
  have sT : Same (wo O H) H1 := fun a o h => wo_same O1 H1 a o (r1.fr a o h)
  obtain ⟨hgo, hstop⟩ := hi i H1 sT
  by_cases hlt : i < ds.length
  · have hdi : ds[i]? = some ds[i] := List.getElem?_eq_getElem hlt
    have hdrop : ds.drop i = ds[i] :: ds.drop (i + 1) := List.drop_eq_getElem_cons hlt
    rw [hdrop] at h6
    obtain ⟨g1, g2⟩ := hgo _ hdi
    refine .inr ⟨g1, CW K hx ⟨wo O H, F.g, F.io⟩ b c e vs σ D ds out ρo (i + 1), fun H' p' => ⟨ds.length - (i + 1), by omega, rfl, hlt, p'⟩, fun x H2 y => ?_⟩
    obtain ⟨s2, dv2⟩ := g2 x H2 y
    -- the frame that holds the list made so far
    let F2 : Fm := ⟨wo O1 H1, fun a => if a = D then some (.lst accV) else F.g a, F.io⟩
    have f2D : F2.g D = some (.lst accV) := if_pos rfl
    have f2n : ∀ {a : Addr}, a ≠ D → F2.g a = F.g a := fun {a} h => if_neg h
    have rF2 : RO K hx F2 (wipeE ρ1 vs) (L2.wipe σ vs) H1 O1 := by
      refine ⟨fun _ _ h => h, fun a o h => ?_, fun a o h => ?_, fun j a x es e1 f1 e2 => ?_, r1.len, r1.sl, r1.ne, r1.dom, r1.pin, r1.nio⟩
      · by_cases z : a = D
        · subst z
          rw [f2D] at h
          cases h
          exact h1
        · rw [f2n z] at h
          exact r1.gs a o h
      · by_cases z : a = D
        · rw [z]
          exact h4
        · rw [f2n z] at h
          exact r1.go a o h
      · have z : a ≠ D := fun z => h5 j x es e1 f1 (by rw [← z]; exact e2)
        rw [f2n z]
        exact r1.gn j a x es e1 f1 e2
    have r2 := rF2.grow s2
    have back1 : Same (wo O H) F2.f := r1.fr
    have back2 : Same F.g F2.g := fun a o h => by
      have z : a ≠ D := fun z => by
        rw [z, gD] at h
        cases h
      rw [f2n z]
      exact h
    have h6' : (match b ds[i] (wipeE ρ1 vs) with
      | none => Rs.stuck
      | some ρ1 => (c ρ1).bind fun t ρ2 => match truth t with
        | some true => (e ρ2).bind fun y ρ3 => compL b c e vs (ds.drop (i + 1)) (acc ++ [y]) ρ3
        | some false => compL b c e vs (ds.drop (i + 1)) acc ρ2
        | none => .stuck) = .ok out ρo := h6
    cases eb : b ds[i] (wipeE ρ1 vs) with
    | none =>
      rw [eb] at h6'
      cases h6'
    | some ρ2 =>
      rw [eb] at h6'
      refine ⟨F2, wipeE ρ1 vs, ds[i], O1, ρ2, r2, dv2 O1 r1.dom r1.fr, eb, fun σ2 wp r3 => ?_⟩
      have ew : L2.wipe σ2 vs = L2.wipe σ vs := (wp vs his).trans (wipe_idem σ vs)
      refine ⟨ew, F2, ρ2, ⟨O1, r3⟩, ?_⟩
      have h7 : (c ρ2).bind (fun t ρ2 => match truth t with
        | some true => (e ρ2).bind fun y ρ3 => compL b c e vs (ds.drop (i + 1)) (acc ++ [y]) ρ3
        | some false => compL b c e vs (ds.drop (i + 1)) acc ρ2
        | none => .stuck) = .ok out ρo := h6'
      cases ec : c ρ2 with
      | err x ρ3 =>
        rw [ec] at h7
        cases h7
      | stuck =>
        rw [ec] at h7
        cases h7
      | ok t ρ3 =>
        rw [ec] at h7
        have h8 : (match truth t with
          | some true => (e ρ3).bind fun y ρ3 => compL b c e vs (ds.drop (i + 1)) (acc ++ [y]) ρ3
          | some false => compL b c e vs (ds.drop (i + 1)) acc ρ3
          | none => .stuck) = .ok out ρo := h7
        cases et : truth t with
        | none =>
          rw [et] at h8
          cases h8
        | some tb =>
          rw [et] at h8
          refine ⟨tb, et, fun H3 hr3 => ?_⟩
          obtain ⟨O3, r4⟩ := hr3
          cases tb with
          | false =>
            rw [if_neg Bool.false_ne_true]
            have r5 := r4.wipe vs hoff
            rw [ew] at r5
            exact ⟨acc, accV, ρ3, O3, r4.gs D _ f2D, by omega, DVs.mono r4.fr _ _ h3, r4.go D _ f2D, r5.weak back1 back2 rfl, fun j x es e1 f1 e2 => (by
              have := r5.gn j D x es e1 f1 e2
              rw [f2D] at this
              cases this), h8⟩
          | true =>
            rw [if_pos rfl]
            refine ⟨F2, ρ3, ⟨O3, r4⟩, ?_⟩
            have h9 : (e ρ3).bind (fun y ρ3 => compL b c e vs (ds.drop (i + 1)) (acc ++ [y]) ρ3) = .ok out ρo := h8
            cases ee : e ρ3 with
            | err x ρ4 =>
              rw [ee] at h9
              cases h9
            | stuck =>
              rw [ee] at h9
              cases h9
            | ok y ρ4 =>
              rw [ee] at h9
              intro v H4 hv
              obtain ⟨O4, r6, dy⟩ := hv
              have hD4 := r6.gs D _ f2D
              have mD := r6.go D _ f2D
              have dacc := DVs.mono r6.fr _ _ h3
              refine ⟨accV, hD4, ?_, ?_⟩
              · rw [h3.length, sizeLine_eq]
                omega
              · have r7 := r6.wipe vs hoff
                rw [ew] at r7
                have nD : ∀ (j : Nat) (x : Sl) (es : List MB.D), (wipeE ρ4 vs)[j]? = some (some x) → x.list = some es → (L2.wipe σ vs)[j]? ≠ some (some (.ref D)) := fun j x es e1 f1 e2 => by
                  have := r7.gn j D x es e1 f1 e2
                  rw [f2D] at this
                  cases this
                have r8 := (r7.weak (F' := ⟨wo O H, F.g, F.io⟩) back1 back2 rfl).write (o := .lst (accV ++ [v])) mD gD nD
                have ewo : wo O4 (upd H4 D (.lst (accV ++ [v]))) = wo O4 H4 := by
                  funext a
                  unfold wo
                  by_cases m : a ∈ O4
                  · rw [if_pos m, if_pos m]
                  · rw [if_neg m, if_neg m, upd_ne (fun z => m (by rw [z]; exact mD))]
                exact ⟨acc ++ [y], accV ++ [v], ρ4, O4, upd_same, by rw [List.length_append]; show acc.length + 1 ≤ i + 1; omega, by rw [ewo]; exact dacc.append (.cons dy .nil), mD, r8, nD, h9⟩
  · have ei : i = ds.length := by omega
    subst ei
    rw [List.drop_length] at h6
    have h7 : Rs.ok (.lst acc) ρ1 = .ok out ρo := h6
    cases h7
    obtain ⟨r2, s2⟩ := r1.giveUp gD h5
    refine .inl ⟨hstop (Nat.le_refl _), hd H1 _ r2 (.lst ?_ (DVs.mono s2 _ _ h3))⟩
    unfold wo
    rw [if_neg (fun z => by simpa using (List.mem_filter.mp z).2)]
    exact h1
section
variable {X : Cx} {hx : Hx} {W : WX} {tg iter elt : Expr} {ifs : List Expr} {b : BX} {it : IX} {wi : TI} {pos : Pos} {c e : EX} {is : List Nat} {scope : Scope} {own : List (Str × Nat)}
theorem t_comp (hoff : hx.off (own.map (·.2))) (ri : RI X.K hx W it wi) (his : ∀ i ∈ is, i ∈ own.map (·.2)) {σ : MB.St} {H : Hp} {Q : VK} (h : tX X.K hx W (eComp it b c e (own.map (·.2))) σ H Q) :
    tLc wi (tG X.K hx is b) (tT X.K hx (fun _ _ _ _ => False) c) (tX X.K hx (fun _ _ _ _ => False) e) (own.map (·.2)) σ H Q := by
  obtain ⟨F, ρ, ⟨O, r⟩, hq⟩ := h
  refine ri σ H _ F ρ O r ?_
  unfold eComp at hq
  cases ei : it ρ with
  | err x ρ1 =>
    rw [ei] at hq
    exact hq
  | stuck =>
    rw [ei] at hq
    exact hq
  | ok ds ρ1 =>
    rw [ei] at hq
    intro J H1 O1 r1 s1 its D hD
    have hq' : Po X.K hx F W σ (if ds.length ≤ 1000000 ∧ (own.map (·.2)).all (notOwn ρ1) = true then match compL b c e (own.map (·.2)) ds [] ρ1 with
      | .ok d ρ2 => .ok d (backE ρ1 (wipeE ρ2 (own.map (·.2))) (own.map (·.2)))
      | r => .stuck
      else .stuck) Q := hq
    split at hq'
    · rename_i hc
      cases ec : compL b c e (own.map (·.2)) ds [] ρ1 with
      | err x ρ2 =>
        rw [ec] at hq'
        exact hq'.elim
      | stuck =>
        rw [ec] at hq'
        exact hq'.elim
      | ok out ρ2 =>
        rw [ec] at hq'
        refine comp_core hoff his hc.1 r1 its hD ec fun H2 O2 r2 dv => ?_
        have r3 := RO.back r1 hoff (fun v hv => List.all_eq_true.mp hc.2 v hv) (F1 := ⟨wo O1 H1, F.g, F.io⟩) rfl r2
        exact hq' _ H2 ⟨O2, r3.fr_of r1.fr rfl rfl, dv⟩
    · exact hq'.elim
/-- [elt for tg in iter if c] -/
theorem r_comp (hc : X.calm = true) (hN : X.N.Nodup) (hi : PI X tg iter wi) (ri : RI X.K hx W it wi) (ok : blkC X.N X.env.scope scope own = true)
    (hg : ∀ (s : Shared) (H : Hp) (C : Addr) (cl : List (Str × Addr)) (fp : List Addr), PG (X.blk s H scope (compEnvC scope cl C X.env) fp) tg (tG X.K hx is b))
    (ht : ∀ (s : Shared) (H : Hp) (C : Addr) (cl : List (Str × Addr)) (fp : List Addr), PTs (X.blk s H scope (compEnvC scope cl C X.env) fp) ifs (tT X.K hx (fun _ _ _ _ => False) c))
    (he : ∀ (s : Shared) (H : Hp) (C : Addr) (cl : List (Str × Addr)) (fp : List Addr), PE (X.blk s H scope (compEnvC scope cl C X.env) fp) elt (tX X.K hx (fun _ _ _ _ => False) e))
    (his : ∀ i ∈ is, i ∈ own.map (·.2) := by decide) (hs : ∀ x, foldedSetIterable iter X.env x = pure x := by intro _; rfl) (hoff : hx.off (own.map (·.2)) := by first | (intro v hv h; cases h; done) | (intro v hv h; revert hv; cases h; decide)) :
    PE X (.ListComp elt [⟨tg, iter, ifs, 0⟩] scope pos) (tX X.K hx W (eComp it b c e (own.map (·.2)))) :=
  (pe_lc hc hN hi (blkOk_by ok) hg ht he hs).imp fun _ _ _ h => t_comp hoff ri his h
/-- y = [elt for tg in iter if c] -/
theorem p_setC {i : Nat} {y : Str} {py spos : Pos} (hc : X.calm = true) (hN : X.N.Nodup) (hy : X.N[i]? = some y) (hyl : X.env.scope.names.lookup y = some .local)
    (hsw : swapsWith (.ListComp elt [⟨tg, iter, ifs, 0⟩] scope pos) (some (.Name y py)) spos.line X.env = pure true) (hi : PI X tg iter wi) (ri : RI X.K hx W it wi) (ok : blkC X.N X.env.scope scope own = true)
    (hg : ∀ (s : Shared) (H : Hp) (C : Addr) (cl : List (Str × Addr)) (fp : List Addr), PG (X.blk s H scope (compEnvC scope cl C X.env) fp) tg (tG X.K hx is b))
    (ht : ∀ (s : Shared) (H : Hp) (C : Addr) (cl : List (Str × Addr)) (fp : List Addr), PTs (X.blk s H scope (compEnvC scope cl C X.env) fp) ifs (tT X.K hx (fun _ _ _ _ => False) c))
    (he : ∀ (s : Shared) (H : Hp) (C : Addr) (cl : List (Str × Addr)) (fp : List Addr), PE (X.blk s H scope (compEnvC scope cl C X.env) fp) elt (tX X.K hx (fun _ _ _ _ => False) e))
    (his : ∀ i ∈ is, i ∈ own.map (·.2) := by decide) (hs : ∀ x, foldedSetIterable iter X.env x = pure x := by intro _; rfl) (hoff : hx.off (own.map (·.2)) := by first | (intro v hv h; cases h; done) | (intro v hv h; revert hv; cases h; decide)) (hio : hx.io ≠ some i := by intro h; cases h) :
    PS X (.Assign [.Name y py] (.ListComp elt [⟨tg, iter, ifs, 0⟩] scope pos) spos) (tS X.K hx W (sSet i (eComp it b c e (own.map (·.2))))) :=
  (ps_setLc hc hN hy hyl hsw hi (blkOk_by ok) hg ht he hs).imp fun D σ H q => by
    obtain ⟨F, ρ, ⟨O, r⟩, hp⟩ := q
    refine t_comp hoff ri his (bindS r hp fun d ρ1 v H1 O1 r1 dv hp1 => ?_)
    exact hp1 _ H1 ⟨O1, r1.set i hio dv⟩
theorem c_nil {X : Cx} : PTs X [] (tT X.K hx W (eC (.bl true))) := by
  refine ⟨fun pins s σ H Q I h => pts_nil.run pins s σ H Q I ?_⟩
  obtain ⟨F, ρ, ⟨O, r⟩, b, hb, k⟩ := h
  cases hb
  exact k H ⟨O, r⟩
theorem c_one {X : Cx} {a : Expr} {f : EX} (h : PT X a (tT X.K hx W f)) : PTs X [a] (tT X.K hx W f) := pts_one h
end
end MB

/-! Defs by their bodies, by values. -/
namespace MB
open PySem PySem.Spec PyProof.Rows L2

def envOf (n : Nat) (ds : List D) : En := ds.map (fun d => some (.val d)) ++ List.replicate (n - ds.length) none
def endR : Fl → Rt
  | .nx _ => .ok .non
  | .rt d _ => .ok d
  | .err x _ => .err x
  | _ => .stuck
def runS (b : SX) (n : Nat) : Fn := fun ds => endR (b (envOf n ds))
theorem envOf_get {n : Nat} {ds : List D} {i : Nat} {x : Sl} (h : (envOf n ds)[i]? = some (some x)) : ∃ d, x = .val d ∧ ds[i]? = some d := by
  unfold envOf at h
  by_cases hi : i < ds.length
  · rw [List.getElem?_append_left (by simpa using hi), List.getElem?_map] at h
    cases e : ds[i]? with
    | none => rw [e] at h; cases h
    | some d =>
      rw [e] at h
      cases h
      exact ⟨d, rfl, rfl⟩
  · rw [List.getElem?_append_right (by simpa using hi), List.getElem?_replicate] at h
    split at h <;> cases h
theorem start_get {N : List Str} {vs : List V} {i : Nat} {v : V} (h : vs[i]? = some v) : (L2.start N vs)[i]? = some (some v) := by
  unfold L2.start
  have hi : i < vs.length := (List.getElem?_eq_some_iff.mp h).1
  rw [List.getElem?_append_left (by simpa using hi), List.getElem?_map, h]
  rfl
/-- what the caller owns, but for the list at the address ia, stands apart -/
def ownOf (O : List Addr) (H : Hp) (ia : Option Addr) : Hp := fun a => if a ∈ O ∧ some a ≠ ia then H a else none
theorem ownOf_some {O : List Addr} {H : Hp} {ia : Option Addr} {a : Addr} {o : HO} (h : ownOf O H ia a = some o) : a ∈ O ∧ some a ≠ ia ∧ H a = some o := by
  unfold ownOf at h
  split at h
  · rename_i c
    exact ⟨c.1, c.2, h⟩
  · cases h
/-- at the entry: what the caller owns stands apart -/
theorem ro_start {K : Fg} {e : Option (Addr × Value × Option Addr)} {N : List Str} {O : List Addr} {H : Hp} {vs : List V} {ds : List D} (dom : ∀ a ∈ O, ∃ o, H a = some o) (dv : DVs K (wo O H) vs ds) :
    RO K ⟨e, none⟩ ⟨wo O H, ownOf O H none, none⟩ (envOf N.length ds) (L2.start N vs) H O := by
  refine ⟨Same.refl _, fun a o h => (ownOf_some h).2.2, fun a o h => (ownOf_some h).1, fun i a x es e1 f1 e2 => ?_, ?_, fun i x e => ?_, fun i j a x y ds es e1 f1 e2 f2 e3 e4 => ?_, dom, (fun j hj => by cases hj), fun i es e => ?_⟩
  · obtain ⟨d, q, _⟩ := envOf_get e1
    subst q
    cases f1
  · unfold envOf L2.start
    simp [dv.length]
  · obtain ⟨d, rfl, hd⟩ := envOf_get e
    obtain ⟨v, hv, h⟩ := dv.get hd
    exact ⟨v, start_get hv, h⟩
  · obtain ⟨d, q, _⟩ := envOf_get e1
    subst q
    cases f1
  · obtain ⟨d, q, _⟩ := envOf_get e
    cases q
/-- at the end: all that stood still stands, the result is apart of what the caller owns -/
theorem ro_end {K : Fg} {hx : Hx} {ρ : En} {σ : MB.St} {O O' : List Addr} {H H' : Hp} (dom : ∀ a ∈ O, ∃ o, H a = some o) (r : RO K hx ⟨wo O H, ownOf O H none, none⟩ ρ σ H' O') : Same H H' ∧ Same (wo O' H') (wo O H') := by
  have sub : ∀ a ∈ O, a ∈ O' := fun a m => by
    obtain ⟨o, e⟩ := dom a m
    exact r.go a o (show ownOf O H none a = some o by unfold ownOf; rw [if_pos ⟨m, nofun⟩]; exact e)
  refine ⟨fun a o h => ?_, fun a o h => ?_⟩
  · by_cases m : a ∈ O
    · exact r.gs a o (show ownOf O H none a = some o by unfold ownOf; rw [if_pos ⟨m, nofun⟩]; exact h)
    · exact wo_same O' H' a o (r.fr a o (show (if a ∈ O then none else H a) = some o by rw [if_neg m]; exact h))
  · unfold wo at *
    split at h
    · cases h
    · rename_i n
      rw [if_neg fun z => n (sub a z)]
      exact h
theorem body_run {K : Fg} {N : List Str} {b : SX} {O : List Addr} {H : Hp} {vs : List V} {ds : List D} {Q : VK} {E : XK} (dom : ∀ a ∈ O, ∃ o, H a = some o) (dv : DVs K (wo O H) vs ds)
    (h : match runS b N.length ds with
      | .ok d => ∀ v H', Same H H' → DV K (wo O H') v d → Q v H'
      | .err x => ∀ cls dd H', Same H H' → ExOk K (wo O H') x cls dd → E cls dd H'
      | .stuck => False) : tS K h0 (fun cls d _ H => E cls d H) b { nx := fun _ H' => Q .non H', rt := Q } (L2.start N vs) H := by
  refine ⟨_, envOf N.length ds, ⟨O, ro_start dom dv⟩, ?_⟩
  unfold runS at h
  cases e : b (envOf N.length ds) with
  | nx ρ =>
    rw [e] at h
    exact fun σ H' ⟨O', r⟩ => h .non H' (ro_end dom r).1 .non
  | rt d ρ =>
    rw [e] at h
    exact fun v σ H' ⟨O', r, dv⟩ => h v H' (ro_end dom r).1 (DV.mono (ro_end dom r).2 _ _ dv)
  | err x ρ =>
    rw [e] at h
    exact fun cls dd σ H' ⟨O', r, ev⟩ => h cls dd H' (ro_end dom r).1 (ev.mono (ro_end dom r).2)
  | bk ρ => rw [e] at h; exact h.elim
  | ct ρ => rw [e] at h; exact h.elim
  | stuck => rw [e] at h; exact h.elim
section
variable {P : Program} {w : World} {K : Fg} {mg : Str → Option Value} {base : Heap} {x qual : Str} {params : Arguments} {body : List Stmt} {scope : Scope} {f : Addr} {fd : FuncData}
/-- the context of a def's body -/
abbrev cx0 (P : Program) (w : World) (K : Fg) (mg : Str → Option Value) (base : Heap) (N : List Str) (qual : Str) (scope : Scope) (f : Addr) (cd : Value) (A : Around) (outer : List Env) (s : Shared) (H : Hp) (E : XK) : Cx := cxOf (L2N.CX P w) P w K mg base N qual scope f cd A outer s H E
abbrev wE0 (E : XK) : WX := fun cls d _ H => E cls d H
theorem tk_cx {N : List Str} {cd : Value} {A : Around} {outer : List Env} {s : Shared} {H : Hp} {E : XK} : L2N.Takes (cx0 P w K mg base N qual scope f cd A outer s H E) (wE0 E) := L2N.takes_of rfl rfl rfl rfl
theorem ps_cx {N : List Str} {cd : Value} {A : Around} {outer : List Env} {s : Shared} {H : Hp} {E : XK} : PassesOwn (model P w) (cx0 P w K mg base N qual scope f cd A outer s H E).A (cx0 P w K mg base N qual scope f cd A outer s H E).env (cx0 P w K mg base N qual scope f cd A outer s H E).xe := passes_of rfl
/-- a def's body, by its function -/
def Body (P : Program) (w : World) (K : Fg) (mg : Str → Option Value) (base : Heap) (k : Nat) (N : List Str) (qual : Str) (scope : Scope) (body : List Stmt) (b : SX) : Prop :=
  ∀ (f : Addr) (cd : Value) (A : Around) (outer : List Env) (s : Shared) (H : Hp) (E : XK), Room k (A.deeper (envOfC qual scope s.heap.objs.size f cd)) → PSs (cx0 P w K mg base N qual scope f cd A outer s H E) body (tS K h0 (wE0 E) b)
theorem def_ok {k : Nat} {N ps : List Str} {b : SX} (F : FunD K x qual params body scope [] [] f fd) (S : FnScope N ps scope) (hb : Body P w K mg base k N qual scope body b) : FnV P w K mg base (k + 1) f fd ps (runS b N.length) :=
  F.ok S (fun vs H Q E h => h.1) fun cdv A outer s H vs Q E hr h => by
    obtain ⟨hl, O, ds, dom, dv, q⟩ := h
    exact ⟨_, hb f cdv A outer s H E hr, body_run dom dv q⟩
theorem df_ok {k : Nat} {N ps : List Str} {b : SX} (hg : mg x = some (.ref f)) (F : FunD K x qual params body scope [] [] f fd) (S : FnScope N ps scope) (hbi : Binds K fd ps []) (hb : Body P w K mg base k N qual scope body b) : Df P w K mg base (k + 1) x ps.length (runS b N.length) :=
  ⟨f, fd, ps, hg, F.kp, hbi, rfl, def_ok F S hb⟩
theorem Df.mono {j k n : Nat} {m : Fn} (d : Df P w K mg base j x n m) (h : j ≤ k) : Df P w K mg base k x n m := by
  obtain ⟨f, fd, ps, h1, h2, h3, h4, h5⟩ := d.ex
  exact ⟨f, fd, ps, h1, h2, h3, h4, h5.mono h⟩
end

/-! ### defs that take the handled exception -/
structure FnE (P : Program) (w : World) (K : Fg) (mg : Str → Option Value) (base : Heap) (k : Nat) (f : Addr) (fd : FuncData) (ps : List Str) (m : Ex → Rt) : Prop where
  one : ps.length = 1
  run : ∀ (A : Around) (outer : List Env) (s : Shared) (H : Hp) (args : Args) (us : List Value) (Q : VK) (E : XK) (p : Addr × Obj) (O : List Addr) (y : Ex) (cls : Value) (dd : Option Addr), L2H.RoomH k A → L2H.Hot1 A p → L2H.PinOk outer H s p → Env0 P w K mg base A outer s H → BindsTo s fd args (ps.zip us) → Vals [.ref p.1] us →
    Zc cls dd p.2 → (∀ a ∈ O, ∃ o, H a = some o) → ExOk K (wo O H) y cls dd → (∃ d, m y = .ok d ∧ ∀ v H', Same H H' → DV K (wo O H') v d → Q v H') → codeAny (model P w) A (.call (.ref f) args) (CR (L2N.CX P w) outer P w H s Q E) s
theorem FnE.mono {P : Program} {w : World} {K : Fg} {mg : Str → Option Value} {base : Heap} {j k : Nat} {f : Addr} {fd : FuncData} {ps : List Str} {m : Ex → Rt} (F : FnE P w K mg base j f fd ps m) (h : j ≤ k) : FnE P w K mg base k f fd ps m :=
  ⟨F.one, fun A outer s H args us Q E p O y cls dd hr => F.run A outer s H args us Q E p O y cls dd (hr.mono h)⟩
def envE (n : Nat) (x : Ex) : En := some (.exc x) :: List.replicate (n - 1) none
def runE (b : SX) (n : Nat) : Ex → Rt := fun x => endR (b (envE n x))
theorem envE_get {n : Nat} {x : Ex} {i : Nat} {y : Sl} (h : (envE n x)[i]? = some (some y)) : y = .exc x ∧ i = 0 := by
  unfold envE at h
  cases i with
  | zero =>
    cases h
    exact ⟨rfl, rfl⟩
  | succ i =>
    rw [List.getElem?_cons_succ, List.getElem?_replicate] at h
    split at h <;> cases h
theorem ro_startE {K : Fg} {N : List Str} {O : List Addr} {H : Hp} {a : Addr} {x : Ex} {cls : Value} {dd : Option Addr} (hn : 1 ≤ N.length) (dom : ∀ a ∈ O, ∃ o, H a = some o) (ev : ExOk K (wo O H) x cls dd) :
    RO K ⟨some (a, cls, dd), none⟩ ⟨wo O H, ownOf O H none, none⟩ (envE N.length x) (L2.start N [.ref a]) H O := by
  refine ⟨Same.refl _, fun a o h => (ownOf_some h).2.2, fun a o h => (ownOf_some h).1, fun i a x es e1 f1 e2 => ?_, ?_, fun i y e => ?_, fun i j a x y ds es e1 f1 e2 f2 e3 e4 => ?_, dom, (fun j hj => by cases hj), fun i es e => ?_⟩
  · obtain ⟨q, _⟩ := envE_get e1
    subst q
    cases f1
  · unfold envE L2.start
    simp
  · obtain ⟨rfl, rfl⟩ := envE_get e
    exact ⟨.ref a, rfl, a, cls, dd, rfl, rfl, ev⟩
  · obtain ⟨q, _⟩ := envE_get e1
    subst q
    cases f1
  · obtain ⟨q, _⟩ := envE_get e
    cases q
section
variable {P : Program} {w : World} {K : Fg} {mg : Str → Option Value} {base : Heap} {x qual : Str} {params : Arguments} {body : List Stmt} {scope : Scope} {f : Addr} {fd : FuncData}
def BodyE (P : Program) (w : World) (K : Fg) (mg : Str → Option Value) (base : Heap) (k : Nat) (N : List Str) (qual : Str) (scope : Scope) (body : List Stmt) (b : SX) : Prop :=
  ∀ (f : Addr) (cd : Value) (A : Around) (outer : List Env) (s : Shared) (H : Hp) (E : XK) (a : Addr) (oe : Obj) (cls : Value) (dd : Option Addr), L2H.RoomH k (A.deeper (envOfC qual scope s.heap.objs.size f cd)) → L2H.Hot1 A (a, oe) → Zc cls dd oe →
    PSs (L2H.cxH (L2N.CX P w) P w K mg base N qual scope f cd A outer s H E (a, oe)) body (tS K ⟨some (a, cls, dd), none⟩ (fun _ _ _ _ => False) b)
theorem defE_ok {k : Nat} {N ps : List Str} {b : SX} (F : FunD K x qual params body scope [] [] f fd) (S : FnScope N ps scope) (h1 : ps.length = 1) (hb : BodyE P w K mg base k N qual scope body b) : FnE P w K mg base (k + 1) f fd ps (runE b N.length) := by
  refine ⟨h1, fun A outer s H args us Q E p O y cls dd hr hot hpin e0 hbi r hz dom ev hq => ?_⟩
  obtain ⟨oc, od, dV, kV, doc, pm, an, cdv, ct, osl, rfl, lk, hcd, _, _⟩ := F.ex
  have KX : K.In s.heap := e0.mod.kin.keeps fun b o e => (e0.bs b o e).1
  have lim : s.heap.NoLimit := e0.mod.nolimit.keeps fun b o e => (e0.bs b o e).1
  have hkind : ∀ y ∈ ps.zip us, scope.names.lookup y.1 = some .local ∨ (scope.names.lookup y.1 = some .cell ∧ ((cellsFrom (s.heap.objs.size + 1) scope.names []).lookup y.1).isSome = true) := fun ⟨n, v⟩ hy => by
    rcases S.par n (List.of_mem_zip hy).1 with q | q
    · exact .inl q
    · exact .inr ⟨q, PySem.W.cellsFrom_some _ _ _ (.inl q)⟩
  refine codeAny_call_function hr.depth (KX _ _ lk) rfl S.co S.gen rfl (PySem.W.codeRec_of KX hcd) (hbi _ _ _ _ ?_)
  refine wpAny_newFunctionEnv_cells S.kind hkind fun env he s1 x => ?_
  subst he
  refine ⟨lim.keeps x.toInCall.keep, codeAny_func ?_⟩
  obtain ⟨pa, po⟩ := p
  have hN : 1 ≤ N.length := by
    have := congrArg List.length S.pre
    rw [List.length_take] at this
    omega
  have ht := hb f cdv A outer s H E pa po cls dd (hr.deeper _) hot hz
  have I : Inv (L2H.cxH (L2N.CX P w) P w K mg base N qual scope f cdv A outer s H E (pa, po)) [] (L2.start N [.ref pa]) H s1 := L2H.inv_startH S hpin e0 h1.symm r x
  have hq' : tS K ⟨some (pa, cls, dd), none⟩ (fun _ _ _ _ => False) b { nx := fun _ H' => Q .non H', rt := Q } (L2.start N [.ref pa]) H := by
    refine ⟨_, envE N.length y, ⟨O, ro_startE hN dom ev⟩, ?_⟩
    obtain ⟨d, hm, hq⟩ := hq
    unfold runE at hm
    cases e : b (envE N.length y) with
    | nx ρ =>
      rw [e] at hm
      cases hm
      exact fun σ H' ⟨O', r⟩ => hq .non H' (ro_end dom r).1 .non
    | rt d ρ =>
      rw [e] at hm
      cases hm
      exact fun v σ H' ⟨O', r, dv⟩ => hq v H' (ro_end dom r).1 (DV.mono (ro_end dom r).2 _ _ dv)
    | err x ρ => rw [e] at hm; cases hm
    | bk ρ => rw [e] at hm; cases hm
    | ct ρ => rw [e] at hm; cases hm
    | stuck => rw [e] at hm; cases hm
  refine wpAny_mono (ht.run [] s1 (L2.start N [.ref pa]) H _ I hq') (fun fl s' hs => ?_) fun e s' hs => hs
  have fin : ∀ {σ' : MB.St} {H' : Hp} {v : V} {u : Value}, Inv (L2H.cxH (L2N.CX P w) P w K mg base N qual scope f cdv A outer s H E (pa, po)) [] σ' H' s' → RelV v u → Q v H' → CE outer P w H s Q u s' :=
    fun {σ' H' v u} J rv q => ⟨v, H', J.os, J.bare, J.base, J.hok, rv, q⟩
  cases fl with
  | ret u =>
    obtain ⟨v, σ', H', J, rv, q⟩ := hs
    exact fin J rv q
  | next =>
    obtain ⟨σ', H', J, q⟩ := hs
    exact fin (v := V.non) (u := Value.none) J rfl q
  | brk =>
    obtain ⟨_, _, _, q⟩ := hs
    exact False.elim q
  | cont =>
    obtain ⟨_, _, _, q⟩ := hs
    exact False.elim q
end
end MB

/-! The handled exception, try, by values. -/
namespace PySem.W
open PySem PySem.Spec PySem.Calls PyProof.Rows
section
variable {prog : Program} {w : World} {A : Around} {E : Value → Shared → Prop} {s : Shared} {K : Frag} {x C : Addr} {ox : Obj} {od : Option Obj}
theorem mb_findObj {name : Str} {a g : Value} (hc : (clsIn K C).isSome = true) (ha : findIn K (.ref C) name = some (some a)) (hg : specialIn K a "__get__" = some (some g)) (ht : takesIn K a = some true) : findObj K C od name = some (.bind g a) := by
  obtain ⟨cd, hc⟩ := Option.isSome_iff_exists.mp hc
  unfold findObj
  rw [hc, Option.bind_some, ha, Option.bind_some]
  simp [hg, ht]
theorem mb_class (T : L2.ExcC K C) (X : K.In s.heap) (I : InstAt s.heap x ox C od) {Q : Option Value → Shared → Prop} (h : Q (some (.ref C)) { s with toks := s.toks + 1 }) : wpAny (model prog w) A (getAttr? (.ref x) "__class__") Q E s := by
  have hf : findObj K C od "__class__" = some (.bind (.builtin "getset_descriptor.__get__") (.builtin "object.__class__")) := mb_findObj (by obtain ⟨cd, hc, _⟩ := any_some T.hd; rw [hc]; rfl) T.ha T.hn T.ht
  obtain ⟨hp, g, d, t, os⟩ := s
  have L0 := I.type (M := model prog w)
  have L1 := looks_findIn (M := model prog w) X T.hg
  have L2 := looks_findIn (M := model prog w) X T.hk
  have L3 := looks_find (M := model prog w) X I hf
  have sub : Looks (model prog w) hp (isInstance (.ref x) (.type "BaseException")) true := L0.andThen (looks_subIn X T.hs)
  unfold getAttr? getAttrBy? getAttrBy
  refine wpAny_bind (wpAny_mkText (wpAny_bind (wpAny_attempt (wpAny_holding (wpAny_bind (L0.at (wpAny_bind (L1.at ?_))))))))
  show wpAny _ _ (if (onTheHeap (Value.ref C) && Value.builtin "BaseException.__getattribute__" == Value.builtin "object.__getattribute__") = true then _ else _) _ _ _
  rw [show (onTheHeap (Value.ref C) && Value.builtin "BaseException.__getattribute__" == Value.builtin "object.__getattribute__") = false by rw [show (Value.builtin "BaseException.__getattribute__" == Value.builtin "object.__getattribute__") = false by decide +kernel]; rfl, if_neg Bool.false_ne_true]
  unfold getAttrByItsOwn hookBefore
  refine wpAny_bind ?_
  rw [if_pos (show onTheHeap (Value.ref C) = true from rfl)]
  refine L2.at (wpAny_bind (wpAny_attempt (wpAny_holding ?_)))
  unfold callGetattribute
  rw [show (false && onTheHeap (Value.builtin "BaseException.__getattribute__")) = false from rfl, if_neg Bool.false_ne_true]
  unfold boundAndCalled
  rw [PySem.F.excAttr_ValueError.ga.bind (.ref x)]
  refine wpAny_bind (wpAny_pure ?_)
  show wpAny _ _ (call (.builtin "BaseException.__getattribute__") [.ref x, .str "__class__" t]) _ _ _
  refine wpAny_call (codeAny_call_builtin PySem.F.excAttr_ValueError.ga.plain PySem.F.entry_bexc_ga ?_)
  refine @check_slot (model prog w) _ _ ⟨hp, g, d, t + 1, os⟩ "BaseException.__getattribute__" "BaseException" "__getattribute__" (.ref x) [.str "__class__" t] [] _ (by decide +kernel) (by decide +kernel) sub (PySem.F.args_bexc_ga (.ref x) (.str "__class__" t)) ?_
  unfold Builtin.«object.__getattribute__»
  refine wpAny_bind (wpAny_of_eq (a := ((Value.ref x : Value), [Value.str "__class__" t])) (by first | rfl | (simp only [slotArgs]; rfl)) ?_)
  refine wpAny_bind (wpAny_pure (wpAny_bind (L0.at (wpAny_bind (L3.at ?_)))))
  show wpAny _ _ (holding [Value.builtin "object.__class__"] (call (.builtin "getset_descriptor.__get__") [.builtin "object.__class__", .ref x, .ref C]) >>= ret) _ _ _
  refine wpAny_bind (wpAny_holding (wpAny_call (class_get (s := ⟨hp, g, d, t + 1, os⟩) (ox := ox) (od := od) X I T.hm ?_)))
  refine wpAny_pure ?_
  show wpAny _ _ (handedOut (.ref C)) _ _ _
  rw [handedOut_of (v := .ref C) rfl]
  first
    | exact wpAny_pure (wpAny_pure h)
    | exact wpAny_pure h
    | exact wpAny_pure (wpAny_bind (wpAny_pure (wpAny_pure h)))
theorem mb_kitx (T : L2.ExcC K C) : KitX K (.ref x) (.ref C) (fun h => InstAt h x ox C od) where
  ty := fun _ _ _ I => I.type
  it := fun _ _ X _ => by
    obtain ⟨cdD, hcD, _⟩ := any_some T.hd
    unfold clsIn at hcD
    split at hcD
    · rename_i c' d' cd' sl' ho
      intro A' Q' E' s' k q
      unfold isType loadHead
      exact wpAny_bind (wpAny_loadPart (k _ _ (X _ _ ho)) (wpAny_pure q))
    · cases hcD
  ne := fun h tp dd its n sl X htp => by
    obtain ⟨cdD, hcD, _⟩ := any_some T.hd
    refine Bool.eq_false_iff.mpr fun q => ?_
    have e : C = tp := Value.ref.inj (beq_iff_eq.mp q)
    subst e
    unfold clsIn at hcD
    split at hcD
    · rename_i c' d' cd' sl' ho
      have z := (X _ _ ho).symm.trans htp
      cases z
    · cases hcD
  ca := fun X I k => mb_class T X I k
end
end PySem.W
namespace MB
open PySem PySem.Spec PyProof.Rows L2

/-- the context holds the handled exception -/
def HxOk (X : Cx) (hx : Hx) : Prop := ∃ a oe cls dd, hx.ex = some (a, cls, dd) ∧ (a, oe) ∈ X.pn ∧ L2H.Hot1 X.A (a, oe) ∧ Zc cls dd oe
def dictOk (H : Hp) (dd : Option Addr) : Prop := dd = none ∨ ∃ d vs, dd = some d ∧ H d = some (.xd vs)
theorem ExOk.dict {K : Fg} {H H' : Hp} {x : Ex} {cls : Value} {dd : Option Addr} (h : ExOk K H x cls dd) (s : Same H H') : dictOk H' dd := by
  obtain ⟨_, ⟨_, h⟩ | ⟨d, vs, e, h, _⟩⟩ := h
  · exact .inl h
  · exact .inr ⟨d, vs, e, s _ _ h⟩
def rIsX (K : Fg) (C a : Addr) (dd : Option Addr) : List V → Hp → VK → Prop := fun xs H Q => ∃ (c : V) (cv : Value) (b : Bool), xs = [.ref a, c] ∧ (∀ u, RelV c u → u = cv) ∧ PySem.W.kitOne K (.ref C) cv = some b ∧ dictOk H dd ∧ Q (.bl b) H
theorem call_isX {X : Cx} {a C : Addr} {oe : Obj} {dd : Option Addr} (T : ExcC X.K C) (hm : (a, oe) ∈ X.pn) (hz : Zc (.ref C) dd oe) (hf : ∃ vs, oe.data = .fields vs) : CallR X (.builtin "isinstance") (rIsX X.K C a dd) := by
  intro pins s σ H xs us Q I r h
  obtain ⟨c, cv, b, rfl, hcv, e, hd, q⟩ := h
  cases r with
  | cons rx rr =>
    cases rr with
    | cons rt rr =>
      cases rr
      cases rx
      have ec := hcv _ rt
      subst ec
      obtain ⟨hget, _⟩ := I.pin (a, oe) (List.mem_append.mpr (.inl hm))
      obtain ⟨vs, hv⟩ := hf
      have J : ∃ od, PySem.W.InstAt s.heap a oe C od := by
        rcases hd with rfl | ⟨d, ws, rfl, hd⟩
        · exact ⟨none, hget, hz.1, by unfold PySem.W.notCls; rw [hv] <;> rfl, by rw [hz.2]; exact trivial⟩
        · obtain ⟨mA, hns, hr⟩ := (show ObjOk X.prog X.w H s.heap d (.xd ws) from I.hok d _ hd)
          obtain ⟨od, ho, hl⟩ := lookIn_ns hns
          exact ⟨some od, hget, hz.1, by unfold PySem.W.notCls; rw [hv] <;> rfl, by rw [hz.2]; exact ho⟩
      obtain ⟨od, J⟩ := J
      exact PySem.W.kia_one (PySem.W.mb_kitx T) I.kIn J e (fun z => nomatch z) fun tk => ⟨.bl b, H, I.kept (t' := tk) fun _ _ z => z, rfl, q⟩
/-- isinstance(e, C), e the handled exception; t: the answer by the class's name -/
def eIsE (i : Nat) (t : Str → Option Bool) : EX := fun ρ => match ρ[i]? with
  | some (some (.exc x)) => match t x.c with
    | some b => .ok (.bl b) ρ
    | none => .stuck
  | _ => .stuck
def ISF (K : Fg) (t : Str → Option Bool) (cv : Value) : Prop := ∀ c b, t c = some b → ExcC K (He.ga K c) ∧ PySem.W.kitOne K (.ref (He.ga K c)) cv = some b
section
variable {X : Cx} {hx : Hx} {W : WX} {pos p q q2 : Pos} {i : Nat} {x C : Str}
theorem is_core {t : Str → Option Bool} {cv : Value} {c : V} {te : TE} (ho : HxOk X hx) (hT : ISF X.K t cv) (hcv : ∀ u, RelV c u → u = cv) (hc : PE X (.Name C q2) (tC c)) (hN : X.N[i]? = some x) (hv : Vis X.env.scope x) (hm : X.mg "isinstance" = none) (hg : Gl X "isinstance")
    (hd : (x == ("__debug__" : Str)) = false) (hcd : (x == ("__classdict__" : Str)) = false) (he0 : starEach [Expr.Name C q2] X.env = (false, eval (Expr.Name C q2) X.env) :: starEach [] X.env)
    (he : starEach (.Name x q :: [Expr.Name C q2]) X.env = (false, eval (.Name x q) X.env) :: starEach [Expr.Name C q2] X.env) (hpl : (backTo pos (starEach [Expr.Name C q2] X.env)).any (·.1) = false) :
    PE X (.Call (.Name "isinstance" p) [.Name x q, .Name C q2] [] pos) (tX X.K hx W (eIsE i t)) := by
  obtain ⟨a, oe, cls, dd, hxe, hmem, hot, hz⟩ := ho
  refine ⟨fun pins s σ H Q I h => ?_⟩
  obtain ⟨F, ρ, ⟨O, r0⟩, hp⟩ := h
  unfold eIsE at hp
  cases e : ρ[i]? with
  | none => rw [e] at hp; exact hp.elim
  | some o =>
    cases o with
    | none => rw [e] at hp; exact hp.elim
    | some sl =>
      rw [e] at hp
      cases sl with
      | val d => exact hp.elim
      | own ds => exact hp.elim
      | io ds => exact hp.elim
      | exc y =>
        have hp' : Po X.K hx F W σ (match t y.c with
          | some b => Rs.ok (.bl b) ρ
          | none => .stuck) Q := hp
        cases e2 : t y.c with
        | none => rw [e2] at hp'; exact hp'.elim
        | some b =>
          rw [e2] at hp'
          obtain ⟨v, ev, a', cls', dd', rfl, e3, ex⟩ := r0.sl i _ e
          rw [hxe] at e3
          cases e3
          obtain ⟨hE, hk⟩ := hT _ _ e2
          have ec := ex.1
          subst ec
          have hcall := call_isX (X := X) hE hmem hz (by obtain ⟨_, vs, e1, _⟩ := hot; exact ⟨vs, e1⟩)
          refine (pe_callB hcall hg hm (by decide +kernel) (pa_cons (pe_var hN hv hd hcd) (pa_cons hc pa_nil he0) he) (by decide) (by decide) he hpl).run pins s σ H Q I ?_
          exact ⟨_, ev, c, cv, b, rfl, hcv, hk, ex.dict (wo_same O H), hp' _ H ⟨O, r0, .bl b⟩⟩
theorem r_isE {t : Str → Option Bool} {ca : Addr} (ho : HxOk X hx) (hT : ISF X.K t (.ref ca)) (hC : X.mg C = some (.ref ca)) (hm : X.mg "isinstance" = none) (hN : X.N[i]? = some x := by rfl) (hv : Vis X.env.scope x := by first | exact Or.inl rfl | exact Or.inr (Or.inl rfl) | exact Or.inr (Or.inr rfl)) (hg : Gl X "isinstance" := by rfl) (hg2 : Gl X C := by rfl)
    (hd : (x == ("__debug__" : Str)) = false := by decide) (hcd : (x == ("__classdict__" : Str)) = false := by decide) (hdb : (C == ("__debug__" : Str)) = false := by decide) (he0 : starEach [Expr.Name C q2] X.env = (false, eval (Expr.Name C q2) X.env) :: starEach [] X.env := by rfl)
    (he : starEach (.Name x q :: [Expr.Name C q2]) X.env = (false, eval (.Name x q) X.env) :: starEach [Expr.Name C q2] X.env := by rfl) (hpl : (backTo pos (starEach [Expr.Name C q2] X.env)).any (·.1) = false := by rfl) :
    PE X (.Call (.Name "isinstance" p) [.Name x q, .Name C q2] [] pos) (tX X.K hx W (eIsE i t)) :=
  is_core (te := tVar i) ho hT (c := .ref ca) (fun u h => by cases h; rfl) (pe_glob (v := .ref ca) hg2 hC rfl hdb) hN hv hm hg hd hcd he0 he hpl
theorem r_isEb {t : Str → Option Bool} {Ts : String} (ho : HxOk X hx) (hT : ISF X.K t (.type Ts)) (hC : X.mg C = none) (hb : bootBuiltins C = some (.type Ts)) (hm : X.mg "isinstance" = none) (hN : X.N[i]? = some x := by rfl) (hv : Vis X.env.scope x := by first | exact Or.inl rfl | exact Or.inr (Or.inl rfl) | exact Or.inr (Or.inr rfl)) (hg : Gl X "isinstance" := by rfl) (hg2 : Gl X C := by rfl)
    (hn : C ≠ "__name__" := by decide) (hd : (x == ("__debug__" : Str)) = false := by decide) (hcd : (x == ("__classdict__" : Str)) = false := by decide) (hdb : (C == ("__debug__" : Str)) = false := by decide) (he0 : starEach [Expr.Name C q2] X.env = (false, eval (Expr.Name C q2) X.env) :: starEach [] X.env := by rfl)
    (he : starEach (.Name x q :: [Expr.Name C q2]) X.env = (false, eval (.Name x q) X.env) :: starEach [Expr.Name C q2] X.env := by rfl) (hpl : (backTo pos (starEach [Expr.Name C q2] X.env)).any (·.1) = false := by rfl) :
    PE X (.Call (.Name "isinstance" p) [.Name x q, .Name C q2] [] pos) (tX X.K hx W (eIsE i t)) :=
  is_core (te := tVar i) ho hT (c := .ty Ts) (fun u h => by cases h; rfl) (pe_bltn (v := .ty Ts) hg2 hC hb rfl hn hdb) hN hv hm hg hd hcd he0 he hpl

/-! ### e.f -/
def eXf (i : Nat) (n : Str) (cs : List Str) : EX := fun ρ => match ρ[i]? with
  | some (some (.exc x)) => if cs.contains x.c then match x.fs.lookup n with
    | some d => .ok d ρ
    | none => .stuck else .stuck
  | _ => .stuck
def XFF (K : Fg) (n : Str) (cs : List Str) : Prop := ∀ c ∈ cs, XfC K (He.ga K c) ∧ PySem.W.findIn K (.ref (He.ga K c)) n = some none
theorem r_xf {n : Str} {cs : List Str} (ho : HxOk X hx) (hT : XFF X.K n cs) (hN : X.N[i]? = some x := by rfl) (hv : Vis X.env.scope x := by first | exact Or.inl rfl | exact Or.inr (Or.inl rfl) | exact Or.inr (Or.inr rfl))
    (hd : (x == ("__debug__" : Str)) = false := by decide) (hcd : (x == ("__classdict__" : Str)) = false := by decide) (hb : attributeBase (.Name x q) n X.env (eval (.Name x q) X.env) = eval (.Name x q) X.env := by rfl) :
    PE X (.Attribute (.Name x q) n pos) (tX X.K hx W (eXf i n cs)) := by
  obtain ⟨a, oe, cls, dd, hxe, hmem, hot, hz⟩ := ho
  refine ⟨fun pins s σ H Q I h => ?_⟩
  obtain ⟨F, ρ, ⟨O, r0⟩, hp⟩ := h
  unfold eXf at hp
  cases e : ρ[i]? with
  | none => rw [e] at hp; exact hp.elim
  | some o =>
    cases o with
    | none => rw [e] at hp; exact hp.elim
    | some sl =>
      rw [e] at hp
      cases sl with
      | val d => exact hp.elim
      | own ds => exact hp.elim
      | io ds => exact hp.elim
      | exc y =>
        have hp' : Po X.K hx F W σ (if cs.contains y.c then match y.fs.lookup n with
          | some d => Rs.ok d ρ
          | none => .stuck else .stuck) Q := hp
        split at hp'
        · rename_i hmc
          cases e2 : y.fs.lookup n with
          | none => rw [e2] at hp'; exact hp'.elim
          | some d =>
            rw [e2] at hp'
            obtain ⟨v, ev, a', cls', dd', rfl, e3, ex⟩ := r0.sl i _ e
            rw [hxe] at e3
            cases e3
            obtain ⟨T, hno⟩ := hT y.c (List.contains_iff_mem.mp hmc)
            obtain ⟨ec, ⟨z, _⟩ | ⟨dx, vs, rfl, hdx, hfs⟩⟩ := ex
            · rw [z] at e2; cases e2
            · subst ec
              obtain ⟨w1, l, dv⟩ := hfs.look e2
              have hq := hp' w1 H ⟨O, r0, dv⟩
              refine attr_of hb (thn ((pe_var hN hv hd hcd).run pins s σ H (fun v' H' => v' = .ref a ∧ H' = H) I ⟨_, ev, rfl, rfl⟩) fun u s1 hh => ?_)
              obtain ⟨x1, H1, I1, rx, rfl, rfl⟩ := hh
              obtain rfl : u = Value.ref a := rx
              obtain ⟨ha, _⟩ := I1.pin (a, oe) (List.mem_append_left _ hmem)
              obtain ⟨_, fv, hd1, _⟩ := hot
              have hX : ObjOk X.prog X.w H1 s1.heap dx (.xd vs) := I1.hok dx _ (wo_same O H1 _ _ hdx)
              obtain ⟨mA, hns, hr⟩ := hX
              obtain ⟨od, hod, hl⟩ := lookIn_ns hns
              obtain ⟨u, hu, ru⟩ := RelO.some_of (v := w1) (o := mA n) (by rw [← l]; exact hr n)
              have J : PySem.W.InstAt s1.heap a oe (He.ga X.K y.c) (some od) := ⟨ha, hz.1, by unfold PySem.W.notCls; rw [hd1] <;> rfl, by rw [hz.2]; exact hod⟩
              exact HandSPX.exc_get I1.kIn J T.ga T.gg T.exC (PySem.W.findObj_own T.hdC hno rfl (by rw [hl, hu])) (handed_of ru) ⟨w1, H1, I1.tok _, ru, hq⟩
        · exact hp'.elim

/-! ### calls with the handled exception -/
structure DfE (P : Program) (w : World) (K : Fg) (mg : Str → Option Value) (base : Heap) (k : Nat) (x : Str) (m : Ex → Rt) : Prop where
  ex : ∃ f fd ps, mg x = some (.ref f) ∧ PySem.W.keepIn K (.ref f) = true ∧ Binds K fd ps [] ∧ FnE P w K mg base k f fd ps m
def eFnE (i : Nat) (m : Ex → Rt) : EX := fun ρ => match ρ[i]? with
  | some (some (.exc x)) => match m x with
    | .ok d => .ok d ρ
    | _ => .stuck
  | _ => .stuck
theorem r_fnE {k : Nat} {f : Str} {m : Ex → Rt} (F : DfE X.prog X.w X.K X.mg X.base k f m) (hr : L2H.RoomH k X.A) (ho : HxOk X hx) (hN : X.N[i]? = some x := by rfl) (hv : Vis X.env.scope x := by first | exact Or.inl rfl | exact Or.inr (Or.inl rfl) | exact Or.inr (Or.inr rfl)) (hg : Gl X f := by rfl)
    (hd : (x == ("__debug__" : Str)) = false := by decide) (hcd : (x == ("__classdict__" : Str)) = false := by decide) (hdb : (f == ("__debug__" : Str)) = false := by decide) (he : starEach [Expr.Name x q] X.env = (false, eval (.Name x q) X.env) :: starEach [] X.env := by rfl)
    (hpl : (backTo pos (starEach [] X.env)).any (·.1) = false := by rfl) : PE X (.Call (.Name f p) [.Name x q] [] pos) (tX X.K hx W (eFnE i m)) := by
  obtain ⟨a, oe, cls, dd, hxe, hmem, hot, hz⟩ := ho
  obtain ⟨fa, fd, ps, hm, hk, hb, F⟩ := F.ex
  refine ⟨fun pins s σ H Q I h => ?_⟩
  obtain ⟨Fr, ρ, ⟨O, r0⟩, hp⟩ := h
  unfold eFnE at hp
  cases e : ρ[i]? with
  | none => rw [e] at hp; exact hp.elim
  | some o =>
    cases o with
    | none => rw [e] at hp; exact hp.elim
    | some sl =>
      rw [e] at hp
      cases sl with
      | val d => exact hp.elim
      | own ds => exact hp.elim
      | io ds => exact hp.elim
      | exc y =>
        have hp' : Po X.K hx Fr W σ (match m y with
          | .ok d => Rs.ok d ρ
          | _ => .stuck) Q := hp
        cases e2 : m y with
        | err z => rw [e2] at hp'; exact hp'.elim
        | stuck => rw [e2] at hp'; exact hp'.elim
        | ok d =>
          rw [e2] at hp'
          obtain ⟨v, ev, a', cls', dd', rfl, e3, ex⟩ := r0.sl i _ e
          rw [hxe] at e3
          cases e3
          refine wpAny_Call_Name_kw (ld_glob I hg hm ?_ hdb)
          refine PySem.W.callWith_K (h₀ := X.base) I.ok.mod.kin hk (thn ((pa_cons (pe_var hN hv hd hcd) pa_nil he).run pos pins s σ H (fun vs H' => vs = [.ref a] ∧ H' = H) I ⟨_, ev, rfl, rfl⟩) fun us s1 ⟨vs, H1, I1, r, q1, q2⟩ => ⟨I1.kIn, ?_⟩) he hpl
          subst q1 q2
          have hl : us.length = ps.length := by rw [← r.length, F.one]; rfl
          have b := hb s1 us I1.kIn (by rw [List.append_nil]; exact hl)
          rw [List.append_nil] at b
          have P1 := I1.pin (a, oe) (List.mem_append_left _ hmem)
          have hpin : L2H.PinOk X.stack H1 s1 (a, oe) := ⟨P1.1, P1.2.1, fun hm => (List.mem_cons.mp (I1.stkSub a hm)).elim P1.2.2.1 P1.2.2.2.1, P1.2.2.2.2⟩
          refine wpAny_call (codeAny_mono (F.run X.A X.stack s1 H1 ⟨us, []⟩ us Q (fun _ _ _ => False) (a, oe) O y cls dd hr hot hpin I1.env0 b r hz r0.dom ex ⟨d, e2, fun v H' s' dv => hp' v H' ⟨O, r0.grow s', dv⟩⟩) fun r s' hq => ?_)
          cases r with
          | error e =>
            obtain ⟨_, _, _, _, _, _, _, _, _, _, _, _, z⟩ := hq
            exact z.elim
          | ok fl =>
            cases fl with
            | ret u => exact I1.after hq
            | next => exact False.elim hq
            | brk => exact False.elim hq
            | cont => exact False.elim hq
end

/-! ### try -/
def noExc (ρ : En) : Bool := ρ.all fun o => match o with
  | some (.exc _) => false
  | _ => true
def sTry (gb : SX) (i : Nat) (t : Str → Option Bool) (gs : SX) : SX := fun ρ => match gb ρ with
  | .err x ρ1 => match t x.c with
    | some true => match gs (ρ1.set i (some (.exc x))) with
      | .nx ρ2 => if noExc (ρ2.set i none) then .nx (ρ2.set i none) else .stuck
      | .bk ρ2 => if noExc (ρ2.set i none) then .bk (ρ2.set i none) else .stuck
      | .ct ρ2 => if noExc (ρ2.set i none) then .ct (ρ2.set i none) else .stuck
      | .rt d ρ2 => if noExc (ρ2.set i none) then .rt d (ρ2.set i none) else .stuck
      | _ => .stuck
    | some false => .err x ρ1
    | none => .stuck
  | r => r
section
variable {K : Fg} {F : Fm} {H : Hp} {ρ : En} {σ : MB.St} {O : List Addr} {i : Nat} {jo : Option Nat} {ex : Option (Addr × Value × Option Addr)}
theorem RO.toE (r : RO K ⟨none, jo⟩ F ρ σ H O) : RO K ⟨ex, jo⟩ F ρ σ H O := by
  refine ⟨r.fr, r.gs, r.go, r.gn, r.len, fun i x e => ?_, r.ne, r.dom, r.pin, r.nio⟩
  obtain ⟨v, ev, h⟩ := r.sl i x e
  refine ⟨v, ev, ?_⟩
  cases x with
  | val d => exact h
  | own ds => exact h
  | io ds => exact h
  | exc y =>
    obtain ⟨_, _, _, _, z, _⟩ := h
    cases z
theorem RO.setE (r : RO K ⟨none, jo⟩ F ρ σ H O) {a : Addr} {cls : Value} {dd : Option Addr} {x : Ex} (hi : jo ≠ some i) (h : ExOk K (wo O H) x cls dd) : RO K ⟨some (a, cls, dd), jo⟩ F (ρ.set i (some (.exc x))) (σ.set i (some (.ref a))) H O :=
  (r.toE (ex := some (a, cls, dd))).put i hi rfl ⟨a, cls, dd, rfl, rfl, h⟩
theorem RO.unE (r : RO K ⟨ex, jo⟩ F ρ σ H O) (hi : jo ≠ some i) (hn : noExc (ρ.set i none) = true) : RO K ⟨none, jo⟩ F (ρ.set i none) (σ.set i none) H O := by
  have r1 := r.setNone i hi
  refine ⟨r1.fr, r1.gs, r1.go, r1.gn, r1.len, fun j x e => ?_, r1.ne, r1.dom, r1.pin, r1.nio⟩
  obtain ⟨v, ev, h⟩ := r1.sl j x e
  refine ⟨v, ev, ?_⟩
  cases x with
  | val d => exact h
  | own ds => exact h
  | io ds => exact h
  | exc y =>
    have := List.all_eq_true.mp hn _ (List.mem_of_getElem? e)
    cases this
end
def TEF (K : Fg) (t : Str → Option Bool) (c : Value) : Prop := ∀ cn b, t cn = some b → PySem.W.exmOne K (.ref (He.ga K cn)) c = some b
section
variable {X : Cx} {x n : Str} {c : Value} {i : Nat} {body suite : List Stmt} {b₀ : Stmt} {np pos pos' : Pos} {Wout : WX} {gb gs : SX} {t : Str → Option Bool}
theorem p_try {jo : Option Nat} (hs : X.stack = X.env :: X.outer) (hf : X.env.frame = some X.env.locals) (hN : X.N.Nodup) (hi : X.N[i]? = some n) (hln : X.env.kindOf n = some .local) (hc : Names X x c) (tk : L2N.Takes X Wout) (hT : TEF X.K t c) (hio : jo ≠ some i)
    (hb : ∀ (W : WX) (pn : List (Addr × Obj)) (xe : Value → Shared → Prop), L2N.Takes (X.tr pn xe) W → PassesOwn (model X.prog X.w) X.A X.env xe → PSs (X.tr pn xe) body (tS X.K ⟨none, jo⟩ W gb))
    (hsu : ∀ (a : Addr) (oe : Obj) (cls : Value) (d : Option Addr) (pn : List (Addr × Obj)), HxOk (X.suite a ((a, oe) :: pn)) ⟨some (a, cls, d), jo⟩ → PSs (X.suite a ((a, oe) :: pn)) (b₀ :: suite) (tS X.K ⟨some (a, cls, d), jo⟩ (fun _ _ _ _ => False) gs)) :
    PS X (.Try body [.ExceptHandler (some (.Name x np)) (some n) (b₀ :: suite) pos'] [] [] pos) (tS X.K ⟨none, jo⟩ Wout (sTry gb i t gs)) :=
  (L2N.ps_try_as (tb := fun W => tS X.K ⟨none, jo⟩ W gb) (ts := fun a cls d => tS X.K ⟨some (a, cls, d), jo⟩ (fun _ _ _ _ => False) gs) hs hf hN hi hln hc tk hb fun a oe cls d pn hz hfv => hsu a oe cls d pn ⟨a, oe, cls, d, rfl, List.mem_cons_self, ⟨rfl, by
    obtain ⟨vs, e⟩ := hfv
    exact ⟨vs, e, hz.2.2 vs e⟩⟩, hz.zc⟩).imp fun D σ H h => by
    obtain ⟨F, ρ, r, hp⟩ := h
    refine ⟨F, ρ, r, ?_⟩
    unfold sTry at hp
    cases e : gb ρ with
    | nx ρ1 => rw [e] at hp; exact hp
    | rt d ρ1 => rw [e] at hp; exact hp
    | bk ρ1 => rw [e] at hp; exact hp
    | ct ρ1 => rw [e] at hp; exact hp
    | stuck => rw [e] at hp; exact hp
    | err y ρ1 =>
      rw [e] at hp
      intro cls dd σ1 H1 hx1
      have hp' : PoS X.K ⟨none, jo⟩ F Wout (match t y.c with
        | some true => match gs (ρ1.set i (some (.exc y))) with
          | .nx ρ2 => if noExc (ρ2.set i none) then Fl.nx (ρ2.set i none) else .stuck
          | .bk ρ2 => if noExc (ρ2.set i none) then .bk (ρ2.set i none) else .stuck
          | .ct ρ2 => if noExc (ρ2.set i none) then .ct (ρ2.set i none) else .stuck
          | .rt d ρ2 => if noExc (ρ2.set i none) then .rt d (ρ2.set i none) else .stuck
          | _ => .stuck
        | some false => .err y ρ1
        | none => .stuck) D := hp
      cases e2 : t y.c with
      | none => rw [e2] at hp'; exact hp'.elim
      | some b =>
        rw [e2] at hp'
        have ho := hx1
        obtain ⟨O1, r1, ev⟩ := hx1
        have hk := hT _ _ e2
        rw [← ev.1] at hk
        refine ⟨b, hk, fun hb1 a ha => ?_, fun hb0 => ?_⟩
        · subst hb1
          refine ⟨F, _, ⟨O1, r1.setE (i := i) (a := a) hio ev⟩, ?_⟩
          cases e3 : gs (ρ1.set i (some (.exc y))) with
          | nx ρ2 =>
            simp only [e3] at hp'
            split at hp'
            · rename_i hn
              exact fun σ2 H2 ⟨O2, r2⟩ => hp' _ H2 ⟨O2, r2.unE hio hn⟩
            · exact hp'.elim
          | bk ρ2 =>
            simp only [e3] at hp'
            split at hp'
            · rename_i hn
              exact fun σ2 H2 ⟨O2, r2⟩ => hp' _ H2 ⟨O2, r2.unE hio hn⟩
            · exact hp'.elim
          | ct ρ2 =>
            simp only [e3] at hp'
            split at hp'
            · rename_i hn
              exact fun σ2 H2 ⟨O2, r2⟩ => hp' _ H2 ⟨O2, r2.unE hio hn⟩
            · exact hp'.elim
          | rt d ρ2 =>
            simp only [e3] at hp'
            split at hp'
            · rename_i hn
              exact fun v σ2 H2 ⟨O2, r2, dv⟩ => hp' v _ H2 ⟨O2, r2.unE hio hn, dv⟩
            · exact hp'.elim
          | err z ρ2 => simp only [e3] at hp'; exact hp'.elim
          | stuck => simp only [e3] at hp'; exact hp'.elim
        · subst hb0
          exact hp' cls dd σ1 H1 ho
end
end MB

/-! An own exception class with an __init__: super().__init__(text); self.f = f ... -/
namespace PySem
namespace MbX
open PySem.W PySem.Calls PyProof.Rows PySem.HandSPX
/-! ### the text of __init__ -/
structure XAs where
  n : Str
  p : Pos
  q1 : Pos
  q2 : Pos
  q3 : Pos
  q4 : Pos
def xSet (a : XAs) : Stmt := .Assign [.Attribute (.Name "self" a.q1) a.n a.q2] (.Name a.n a.q3) a.q4
structure XSu where
  ps : Pos
  txt : Str
  j : Nat
  p0 : Pos
  p1 : Pos
  p2 : Pos
  p3 : Pos
  p4 : Pos
  p5 : Pos
def xSup (u : XSu) : Stmt := .Expr (.Call (.Attribute (.Call (.Name "super" u.p0) [] [] u.p1) "__init__" u.p2) [.Constant (.str u.txt) u.j u.p3] [] u.p4) u.p5
def xA (u : XSu) (as : List XAs) : Arguments := { posonlyargs := [], args := { arg := "self", annotation := none, pos := u.ps } :: as.map fun a => { arg := a.n, annotation := none, pos := a.p }, vararg := none, kwonlyargs := [], kw_defaults := [], kwarg := none, defaults := [] }
def xB (u : XSu) (as : List XAs) : List Stmt := xSup u :: as.map xSet
def xS (as : List XAs) : Scope := { kind := .function, names := (PySem.Str.ofString "self", .local) :: (as.map fun a => (a.n, NameKind.local)) ++ [(PySem.Str.ofString "__class__", .free), (PySem.Str.ofString "super", .globalImplicit)], isGenerator := false, isCoroutine := false, more := [] }
abbrev fnI (qual : Str) (u : XSu) (as : List XAs) (cc : Addr) (dV kV doc pm : Value) (an : Option Addr) (cdv ct : Value) : FuncData := ksFn "__init__" qual (xA u as) (xB u as) (xS as) dV kV doc pm an cdv ct cc
/-- what the written part says of the class at C, of its __init__ at fI -/
structure XT (prog : Program) (K : Frag) (mg : Str → Option Value) (x : Str) (C fI cc : Addr) (u : XSu) (as : List XAs) : Prop where
  gC : mg x = some (.ref C)
  cls : ∃ nm q N bs bm sn sub ab col dd k0 k1 k2 k3 k5, K.lookup C = some (excClassObj nm q C N bs bm true sn sub ab col dd k0 k1 k2 k3 k5 "ValueError.__new__") ∧ refsVE bm = true ∧ alongIn K "__init__" bm = some (some (.builtin "ValueError.__init__"))
  sa : findIn K (.ref C) "__setattr__" = some (some (.builtin "object.__setattr__"))
  no : ∀ a ∈ as, findIn K (.ref C) a.n = some none
  iC : findIn K (.ref C) "__init__" = some (some (.ref fI))
  tC : typeIn K (.ref fI) = some (.type "function")
  kC : keepIn K (.ref C) = true
  exC : subIn K (.ref C) (.type "BaseException") = some true
  veC : subIn K (.ref C) (.type "ValueError") = some true
  ownC : subIn K (.ref C) (.ref C) = some true
  tyC : typeIn K (.ref C) = some (.type "type")
  opq : nsIn K cStatics "thirdparty.any" = some none
  cell : ∃ o, K.lookup cc = some o ∧ o.data = .cell (some (.ref C))
  sup : mg "super" = none
  top : (prog.main.scope.names.lookup ("super" : Str)).isSome = false
  fn : ∃ (oc : Value) (od : Option Addr) (q : Str) (kV doc pm : Value) (an : Option Addr) (cdv ct : Value) (osl : Array (Option Value)), K.lookup fI = some ⟨oc, od, .func (fnI q u as cc .none kV doc pm an cdv ct), osl⟩ ∧ codeIn K cdv q = true ∧
    ∃ (ca : Addr) (oc2 : Obj) (vs : Array Value) (file : Str) (tf : Tok), cdv = .ref ca ∧ K.lookup ca = some oc2 ∧ oc2.data = .fields vs ∧ vs[2]? = some (.str file tf) ∧ ((prog.main.file : Str) == file) = true
theorem mb_one_size (v : Value) : [v].length ≤ sizeLine := by
  rw [sizeLine_eq]
  exact (by decide : 1 ≤ 16777216)
theorem mb_kept_but {K : Frag} {h h' : Heap} {x : Addr} (X : K.In h) (hx : K.lookup x = none) (k : ∀ b o, b ≠ x → h.get? b = some o → h'.get? b = some o) : K.In h' := fun a o e =>
  k a o (fun z => by rw [z, hx] at e; cases e) (X a o e)
/-- the fields' names are the def's own -/
def goodLine (u : XSu) : Bool := u.p2.endLine == u.p4.line
def goodNames (as : List XAs) : Bool := decide ((xS as).names.lookup ("super" : Str) = some .globalImplicit) && (decide ((xS as).names.lookup ("__class__" : Str) = some .free) && as.all fun a => decide (((xS as).names.lookup a.n) = some .local) && !(a.n == ("__debug__" : Str)) && !(a.n == ("self" : Str)))
section
variable {prog : Program} {w : World} {A : Around} {E : Value → Shared → Prop} {R : Result → Shared → Prop} {s : Shared} {K : Frag} {mg : Str → Option Value} {cn : Str} {x C fI cc : Addr} {u : XSu} {as0 : List XAs}
theorem within_look : ∀ (fs : List (Str × Value)), Within (fun y => fs.lookup y) (fs.map (·.1))
  | [], y, h => absurd rfl h
  | (a, v) :: r, y, h => by
    by_cases e : y = a
    · rw [e]
      exact List.mem_cons_self ..
    · refine List.mem_cons_of_mem _ (within_look r y fun z => h ?_)
      have eb : (y == a) = false := by simpa using e
      show ((a, v) :: r).lookup y = none
      rw [List.lookup_cons, eb]
      exact z
theorem look_put (a : Str) (v : Value) (fs : List (Str × Value)) : (fun y => if y = a then some v else fs.lookup y) = fun y => ((a, v) :: fs).lookup y := by
  funext y
  rw [List.lookup_cons]
  by_cases e : y = a
  · rw [if_pos e]
    have eb : (y == a) = true := by simpa using e
    rw [eb]
  · rw [if_neg e]
    have eb : (y == a) = false := by simpa using e
    rw [eb]
/-- the fields behind the first -/
theorem sets_old {fd : FuncData} {L dx : Addr} {m : Str → Option Value} {fv : Array Value} {cd : ClassData} {Q : Flow → Shared → Prop} (hk : fd.scope.kind = .function) (hcd : clsIn K C = some cd) (hm : refsVE cd.mro = true) (hh : cd.hasDict = true) (sa : findIn K (.ref C) "__setattr__" = some (some (.builtin "object.__setattr__")))
    (hself : m "self" = some (.ref x)) (hsl : (callEnv fd L fI).kindOf "self" = some .local) (hxd : x ≠ dx) (hLd : L ≠ dx) (hKd : K.lookup dx = none) :
    ∀ (as : List XAs) (us : List Value) (fs : List (Str × Value)) (s : Shared), (∀ a ∈ as, (callEnv fd L fI).kindOf a.n = some .local ∧ (a.n == ("__debug__" : Str)) = false ∧ findIn K (.ref C) a.n = some none) → as.map (fun a => m a.n) = us.map some → fs.length + as.length ≤ 1000 →
      K.In s.heap → s.heap.Ns L m → s.heap.get? x = some { cls := .ref C, dict := some dx, data := .fields fv } → s.heap.Ns1 dx (fun y => fs.lookup y) →
      (∀ h' tk, (∀ b o, b ≠ dx → s.heap.get? b = some o → h'.get? b = some o) → h'.Ns1 dx (fun y => (((as.map (·.n)).zip us).reverse ++ fs).lookup y) → Q .next { s with heap := h', toks := tk }) →
      wpAny (model prog w) A (execs (as.map xSet) (callEnv fd L fI)) Q E s
  | [], us, fs, s, _, _, _, _, _, _, hn, hq => by
    refine wpAny_execs_nil ?_
    have q := hq s.heap s.toks (fun _ _ _ e => e) hn
    exact q
  | a :: as, [], _, _, _, e, _, _, _, _, _, _ => by cases e
  | a :: as, v :: us, fs, s, hl, e, hz, X, hL, hx, hn, hq => by
    obtain ⟨hl1, hl2, hl3⟩ := hl a List.mem_cons_self
    have e1 : m a.n = some v ∧ as.map (fun a => m a.n) = us.map some := by
      simp only [List.map_cons, List.cons.injEq] at e
      exact e
    refine wpAny_execs_cons (plainObj_wpAny_Assign_Attribute ?_)
    refine ldc hk hl1 hL e1.1 (ldc hk hsl hL hself ?_) hl2
    obtain ⟨oD, esD, epD, hoD, hdD, hcD⟩ := hn.count (within_look fs)
    have hz1 : fs.length + 1 + as.length ≤ 1000 := by
      rw [List.length_cons] at hz
      omega
    obtain ⟨hp, g, d, t, os⟩ := s
    refine set_plain X (ox := { cls := .ref C, dict := some dx, data := .fields fv }) (od := some oD) ⟨hx, rfl, rfl, hoD⟩ sa ?_
    refine OEX.osa_old X hx hn (within_look fs) (by rw [List.length_map]; omega) hcd hm hh hl3 (fun h1 tk1 k1 hn1 => ?_)
    have hn1' : h1.Ns1 dx (fun y => ((a.n, v) :: fs).lookup y) := by
      rw [← look_put]
      exact hn1
    refine sets_old hk hcd hm hh sa hself hsl hxd hLd hKd as us ((a.n, v) :: fs) ⟨h1, g, d, tk1, os⟩ (fun b hb => hl b (List.mem_cons_of_mem _ hb)) e1.2 (by rw [List.length_cons]; exact hz1) (mb_kept_but X hKd k1) (hL.at fun o q => k1 _ _ hLd q) (k1 _ _ hxd hx) hn1' fun h' tk k' hn' => ?_
    refine hq h' tk (fun b o hb eo => k' b o hb (k1 b o hb eo)) ?_
    have eq : (((a :: as).map (·.n)).zip (v :: us)).reverse ++ fs = ((as.map (·.n)).zip us).reverse ++ ((a.n, v) :: fs) := by simp
    rw [eq]
    exact hn'
/-- super().__init__(text), the built-in one -/
theorem sup_call {h : Heap} {g : Array GenState} {d : Drawn} {t : Nat} {os : OsState} {y t0 : Addr} {rest : List Value} {Q : Value → Shared → Prop} {nm q : Str} {N : Addr} {bs bm : List Value} {hdct : Bool} {sn : List Str} {sub : List Value} {ab : Bool} {col : Option Bool} {dd : Option Addr} {k0 k1 k2 k3 k5 : Option Value}
    (hC : h.get? C = some (excClassObj nm q C N bs bm hdct sn sub ab col dd k0 k1 k2 k3 k5 "ValueError.__new__")) (hu : h.get? y = some (kxs_mw "ValueError.__init__" x)) (he : h.get? x = some (excO C t0)) (hz : rest.length ≤ sizeLine)
    (hq : ∀ h', (∀ b o, b ≠ x → h.get? b = some o → h'.get? b = some o) → h'.get? x = some (excO C h.objs.size) → Q .none ⟨h', g, d, t, os⟩) : wpAny (model prog w) A (call (.ref y) rest) Q E ⟨h, g, d, t, os⟩ := by
  refine wpAny_call (codeAny_of_tree ?_)
  show wpAny _ A.in1 (callAny (.ref y) ⟨rest, []⟩) _ _ _
  simp only [callAny]
  refine wpAny_bind (wpAny_load hu ?_)
  simp only [kxs_mw, show (Value.type "method-wrapper" == Value.type "method" || Value.type "method-wrapper" == Value.type "builtin_function_or_method" || Value.type "method-wrapper" == Value.type "method-wrapper") = true by decide, if_true]
  refine KFB.if_so (by decide) ?_
  refine wpAny_bind (check_bound_init F.excBase_ValueError.toExcCallFacts hC he rfl ?_)
  refine wpAny_bind (wpAny_pure (wpAny_pure ?_))
  refine ⟨plainId_quiet F.excBase_ValueError.init.plain _, codeAny_builtin F.excBase_ValueError.initEntry ?_⟩
  exact exc_init_tree (cls := .ref C) (t0 := t0) (dv := none) (c2 := .none) (c3 := .none) (b4 := .bool false) he hz fun h' k e' _ => hq h' k e'
theorem super_eval {env : Env} {u : XSu} (hl : goodLine u = true) : eval (.Call (.Attribute (.Call (.Name "super" u.p0) [] [] u.p1) "__init__" u.p2) [.Constant (.str u.txt) u.j u.p3] [] u.p4) env = (do
      let ov ← attributeBase (.Call (.Name "super" u.p0) [] [] u.p1) "__init__" env (eval (.Call (.Name "super" u.p0) [] [] u.p1) env)
      standAt u.p2.atName
      let (f, first) ← holding [ov] (getMethod ov "__init__" (do return (← importBound (.Call (.Name "super" u.p0) [] [] u.p1) env).getD true))
      callWith u.p4 f first (backTo u.p4 (starEach [.Constant (.str u.txt) u.j u.p3] env)) []) := by
  rw [arm_eval_Call]
  have hpos : methodCallPos true (.Call (.Name "super" u.p0) [] [] u.p1) env u.p2 u.p4 = pure u.p4 := by
    unfold methodCallPos
    have hl' : (u.p2.endLine == u.p4.line) = true := hl
    simp [hl']
  have hm : ∀ ov, methodCall (.Call (.Name "super" u.p0) [] [] u.p1) "__init__" u.p2 u.p4 env ov ([Expr.Constant (.str u.txt) u.j u.p3].length + ([] : List Keyword).length) (backTo u.p4 (starEach [.Constant (.str u.txt) u.j u.p3] env)) (backToKw u.p4 (keywordEach [] env)) = (do
      let (f, first) ← holding [ov] (getMethod ov "__init__" (do return (← importBound (.Call (.Name "super" u.p0) [] [] u.p1) env).getD true))
      callWith u.p4 f first (backTo u.p4 (starEach [.Constant (.str u.txt) u.j u.p3] env)) []) := fun ov => by
    have hform : methodCallForm ([Expr.Constant (.str u.txt) u.j u.p3].length + ([] : List Keyword).length) (backTo u.p4 (starEach [.Constant (.str u.txt) u.j u.p3] env)) (backToKw u.p4 (keywordEach [] env)) = true := rfl
    unfold methodCall
    rw [hform, hpos]
    simp only [pure_bind]
    rfl
  simp only [hm]
/-- what __init__ leaves of a fresh exception at x -/
structure XEnd (h h' : Heap) (x C dx t1 : Addr) (fs : List (Str × Value)) : Prop where
  keep : ∀ b o, b ≠ x → h.get? b = some o → h'.get? b = some o
  obj : h'.get? x = some { cls := .ref C, dict := some dx, data := .fields #[.ref t1, .none, .none, .none, .bool false, .none] }
  dbig : h.objs.size ≤ dx
  dne : dx ≠ x
  ns : h'.Ns1 dx (fun y => fs.lookup y)
theorem x_init (T : XT prog K mg cn C fI cc u as0) {t0 : Addr} {us : List Value} {base : Heap} (hs : 1 ≤ as0.length) (h9 : as0.length ≤ 900) (hline : goodLine u = true) (hgo : goodNames as0 = true) (hM : L2.Mod K mg base) (hbs : ∀ b o, base.get? b = some o → s.heap.get? b = some o)
    (hx : s.heap.get? x = some (excO C t0)) (hnx : K.lookup x = none) (hroom : A.depth < recursionLimit)
    (hbind : ∀ q kV doc pm an cdv ct, BindsTo s (fnI q u as0 cc .none kV doc pm an cdv ct) ⟨.ref x :: us, []⟩ ((("self" : Str), Value.ref x) :: (as0.map (·.n)).zip us))
    (hm1 : ((("self" : Str), Value.ref x) :: (as0.map (·.n)).zip us).reverse.lookup ("self" : Str) = some (Value.ref x))
    (hm2 : as0.map (fun a => ((("self" : Str), Value.ref x) :: (as0.map (·.n)).zip us).reverse.lookup a.n) = us.map some)
    (hq : ∀ h' tk dx t1, XEnd s.heap h' x C dx t1 ((as0.map (·.n)).zip us).reverse → R (.ok (.ret .none)) { s with heap := h', toks := tk }) :
    codeAny (model prog w) A (.call (.ref fI) ⟨.ref x :: us, []⟩) R s := by
  have X : K.In s.heap := hM.kin.keeps hbs
  have hlim : s.heap.NoLimit := hM.nolimit.keeps hbs
  obtain ⟨oc, od, q, kV, doc, pm, an, cdv, ct, osl, ho, hcd, ca, oc2, cvs, file, tf, rfl, hca, hcvs, hfl, hfile⟩ := T.fn
  obtain ⟨nm, qn, N, bs, bm, sn, sub, ab, col, dd, k0, k1, k2, k3, k5, hC, hbm, hal⟩ := T.cls
  have hcl : clsIn K C = some { name := nm, bases := bs, mro := .ref C :: bm, ns := N, qualname := qn, hasDict := true, slotNames := sn, subclasses := sub, abstract := ab, collection := col, hasDel := false } := by unfold clsIn; rw [hC] <;> rfl
  obtain ⟨hks, hgo⟩ := Bool.and_eq_true_iff.mp hgo
  obtain ⟨hkc, hgo⟩ := Bool.and_eq_true_iff.mp hgo
  have hks := of_decide_eq_true hks
  have hkc := of_decide_eq_true hkc
  have hg0 : ∀ a ∈ as0, (xS as0).names.lookup a.n = some .local ∧ (a.n == ("__debug__" : Str)) = false := fun a ha => by
    have z := List.all_eq_true.mp hgo a ha
    simp only [Bool.and_eq_true, Bool.not_eq_true', decide_eq_true_eq] at z
    exact ⟨z.1.1, z.1.2⟩
  have hlself : (xS as0).names.lookup ("self" : Str) = some .local := rfl
  have hloc : ∀ y ∈ ((("self" : Str), Value.ref x) :: (as0.map (·.n)).zip us), (xS as0).names.lookup y.1 = some .local := fun ⟨n, v⟩ hy => by
    rcases List.mem_cons.mp hy with e | hy
    · cases e
      exact hlself
    · obtain ⟨a, ha, e⟩ := List.mem_map.mp (List.of_mem_zip hy).1
      have z := (hg0 a ha).1
      rw [e] at z
      exact z
  have hcell : ∀ y ∈ (xS as0).names, y.2 ≠ .cell := fun y hy => by
    rcases List.mem_cons.mp hy with e | hy
    · rw [e]
      decide
    · rcases List.mem_append.mp hy with hy | hy
      · obtain ⟨a, _, e⟩ := List.mem_map.mp hy
        rw [← e]
        exact fun z => nomatch z
      · rcases List.mem_cons.mp hy with e | hy
        · rw [e]
          decide
        · rcases List.mem_cons.mp hy with e | hy
          · rw [e]
            decide
          · cases hy
  refine ks_codeAny_call_defAt (fd := fnI q u as0 cc .none kV doc pm an (.ref ca) ct) hroom (X _ _ ho) rfl hlim (codeRec_of X hcd) rfl (hbind q kV doc pm an (.ref ca) ct) hcell hloc (fun h₁ hns k₁ => ?_) rfl rfl rfl
  have X₁ : K.In h₁ := X.keeps k₁
  have hbs₁ : ∀ b o, base.get? b = some o → h₁.get? b = some o := fun b o e => k₁ _ _ (hbs _ _ e)
  have hx₁ := k₁ _ _ hx
  have hLx : s.heap.objs.size ≠ x := Nat.ne_of_gt (Heap.lt_size hx)
  show _root_.PySem.wpAt _ _ _ (execs (xSup u :: as0.map xSet) _) _ _ _
  refine ks_wpAt_execs_cons ?_
  show _root_.PySem.wpAt _ _ _ (exec (.Expr (.Call (.Attribute (.Call (.Name "super" u.p0) [] [] u.p1) "__init__" u.p2) [.Constant (.str u.txt) u.j u.p3] [] u.p4) u.p5) _) _ _ _
  refine ks_wpAt_Expr_any (ks_wpAt_MethodCall ?_ (super_eval hline)) rfl rfl
  refine ks_wpAt_super_base (f := fI) (cc := ca) (fd := fnI q u as0 cc .none kV doc pm an (.ref ca) ct) hks hkc (by decide) rfl (X₁ _ _ ho) rfl rfl rfl (X₁ _ _ hca) hcvs hfl hfile T.top ?_
  obtain ⟨mb, hb1, hb2⟩ := hM.blt
  refine ks_loadName_global rfl hks (loadGlobal_builtin (hM.glob.keeps hbs₁) T.sup (hb1.keeps hbs₁) ((hb2 "super" (by decide)).trans (by decide +kernel)) ⟨rfl, ?_⟩)
  obtain ⟨oce, hce, hcd2⟩ := T.cell
  refine wpAny_loadName_free rfl hkc rfl ⟨oce, X₁ _ _ hce, hcd2⟩ ?_
  refine wpAny_loadName_local (v := .ref x) rfl hlself hns hm1 ?_
  refine ks_wpAny_isType_cls (X₁ _ _ hC) rfl ⟨rfl, ?_⟩
  refine ks_wpAny_call_super (X₁ _ _ hC) rfl hx₁ rfl (fun c e => by cases e) (looks_subIn X₁ T.ownC) (fun h₂ so₂ k₂ => ?_)
  have X₂ : K.In h₂ := X₁.keeps k₂
  have hx₂ := k₂ _ _ hx₁
  have I₂ : InstAt h₂ x (excO C t0) C none := ⟨hx₂, rfl, rfl, trivial⟩
  refine kxs_getMethod kxs_ValueError so₂ (looks_opaque X₂ T.opq) (l₀ := .ref C :: bm) (fun A Q E s k q => wpAny_bind ((looks_clsIn X₂ hcl) A _ E s k (wpAny_pure q))) (by simp) X₂ hal (I₂.type.andThen (looks_subIn X₂ T.veC)) (fun z => by rw [z, hC] at hnx; cases hnx) rfl ?_
  have k₃ : ∀ b o, h₂.get? b = some o → (h₂.push (kxs_mw "ValueError.__init__" x)).get? b = some o := fun b o e => Heap.get?_push_of_some _ e
  have hmw : (h₂.push (kxs_mw "ValueError.__init__" x)).get? h₂.objs.size = some (kxs_mw "ValueError.__init__" x) := Heap.get?_push_at rfl rfl
  refine kxs_callWith (i := "ValueError.__init__") (x := x) (by rfl) (evalArgs_plain (Calls.spliced_cons (Calls.Constant_str (k := u.j) (pos := u.p3) (Calls.spliced_nil ⟨hmw, ?_⟩))))
  refine sup_call (k₃ _ _ (k₂ _ _ (X₁ _ _ hC))) hmw (k₃ _ _ hx₂) (mb_one_size _) (fun h₄ k₄ hx₄ => ?_)
  have X₄ : K.In h₄ := mb_kept_but (X₂.keeps k₃) hnx k₄
  have k14 : ∀ b o, b ≠ x → h₁.get? b = some o → h₄.get? b = some o := fun b o hb e => k₄ _ _ hb (k₃ _ _ (k₂ _ _ e))
  have hns₄ := hns.at (h' := h₄) fun o e => k14 _ _ hLx e
  cases as0 with
  | nil => exact absurd hs (by simp)
  | cons a as1 =>
    cases us with
    | nil => cases hm2
    | cons v us1 =>
      simp only [List.map_cons, List.cons.injEq] at hm2
      obtain ⟨hl1, hl2⟩ := hg0 a List.mem_cons_self
      refine wpAt_of_wpAny (wpAny_execs_cons (plainObj_wpAny_Assign_Attribute ?_))
      refine ldc (fd := fnI q u (a :: as1) cc .none kV doc pm an (.ref ca) ct) rfl hl1 hns₄ hm2.1 (ldc (fd := fnI q u (a :: as1) cc .none kV doc pm an (.ref ca) ct) rfl hlself hns₄ hm1 ?_) hl2
      refine set_plain X₄ (ox := excO C (h₂.push (kxs_mw "ValueError.__init__" x)).objs.size) (od := none) ⟨hx₄, rfl, rfl, trivial⟩ T.sa ?_
      refine exc_osa X₄ hx₄ hcl (show refsVE (.ref C :: bm) = true from hbm) rfl (T.no a List.mem_cons_self) (fun h₅ tk₅ dx k₅ dn dne hx₅ hn₅ => ?_)
      have hnd : K.lookup dx = none := by
        cases e : K.lookup dx with
        | none => rfl
        | some o => exact absurd (Nat.lt_of_lt_of_le (Heap.lt_size (X₄ _ _ e)) dn) (Nat.lt_irrefl _)
      have hL4 : s.heap.objs.size < h₄.objs.size := hns₄.lt
      have hLd : s.heap.objs.size ≠ dx := Nat.ne_of_lt (Nat.lt_of_lt_of_le hL4 dn)
      have hn5 : h₅.Ns1 dx (fun y => ([(a.n, v)] : List (Str × Value)).lookup y) := by
        rw [← look_put]
        exact hn₅
      refine sets_old (K := K) (C := C) (x := x) (fd := fnI q u (a :: as1) cc .none kV doc pm an (.ref ca) ct) (L := s.heap.objs.size) rfl hcl (show refsVE (.ref C :: bm) = true from hbm) rfl T.sa hm1 hlself dne.symm hLd hnd as1 us1 [(a.n, v)] _
        (fun b hb => ⟨(hg0 b (List.mem_cons_of_mem _ hb)).1, (hg0 b (List.mem_cons_of_mem _ hb)).2, T.no b (List.mem_cons_of_mem _ hb)⟩) hm2.2 (by rw [List.length_cons] at h9; rw [List.length_singleton]; omega) (mb_kept_but X₄ hnx k₅) (hns₄.at fun o e => k₅ _ _ hLx e) hx₅ hn5 fun h₆ tk₆ k₆ hn₆ => ?_
      refine hq h₆ tk₆ dx _ ⟨fun b o hb e => ?_, k₆ _ _ dne.symm hx₅, Nat.le_of_lt (Nat.lt_of_lt_of_le hL4 dn), dne, ?_⟩
      · have e4 := k14 _ _ hb (k₁ _ _ e)
        exact k₆ _ _ (Nat.ne_of_lt (Nat.lt_of_lt_of_le (Heap.lt_size e4) dn)) (k₅ _ _ hb e4)
      · have eq : (((a :: as1).map (·.n)).zip (v :: us1)).reverse = ((as1.map (·.n)).zip us1).reverse ++ [(a.n, v)] := by simp
        rw [eq]
        exact hn₆
/-- the binding of the written values -/
structure XBi (u : XSu) (as0 : List XAs) : Prop where
  one : 1 ≤ as0.length
  few : as0.length ≤ 900
  line : goodLine u = true
  good : goodNames as0 = true
  bind : ∀ (s : Shared) (x cc : Addr) (us : List Value), us.length = as0.length → ∀ (q : Str) (kV doc pm : Value) (an : Option Addr) (cdv ct : Value), BindsTo s (fnI q u as0 cc .none kV doc pm an cdv ct) ⟨.ref x :: us, []⟩ ((("self" : Str), Value.ref x) :: (as0.map (·.n)).zip us)
  self : ∀ (x : Addr) (us : List Value), us.length = as0.length → ((("self" : Str), Value.ref x) :: (as0.map (·.n)).zip us).reverse.lookup ("self" : Str) = some (Value.ref x)
  arg : ∀ (x : Addr) (us : List Value), us.length = as0.length → as0.map (fun a => ((("self" : Str), Value.ref x) :: (as0.map (·.n)).zip us).reverse.lookup a.n) = us.map some
theorem xbi_one {u : XSu} {a : XAs} (hl : goodLine u = true) (hg : goodNames [a] = true) (hs : (("self" : Str) == a.n) = false)
    (hb : ∀ (x cc : Addr) (q : Str) (kV doc pm : Value) (an : Option Addr) (cdv ct v : Value), bindArgs (fnI q u [a] cc .none kV doc pm an cdv ct) ⟨[.ref x, v], []⟩ = pure [(("self" : Str), Value.ref x), (a.n, v)] := by intros; rfl) : XBi u [a] := by
  refine ⟨Nat.le_refl _, by simp, hl, hg, fun s x cc us h q kV doc pm an cdv ct => ?_, fun x us h => ?_, fun x us h => ?_⟩
  · match us, h with
    | [v], _ => exact .of_eq (hb ..)
  · match us, h with
    | [v], _ =>
      show ([(a.n, v), (("self" : Str), Value.ref x)] : List (Str × Value)).lookup ("self" : Str) = _
      rw [List.lookup_cons, hs]
      rfl
  · match us, h with
    | [v], _ =>
      show [([(a.n, v), (("self" : Str), Value.ref x)] : List (Str × Value)).lookup a.n] = _
      rw [List.lookup_cons, show (a.n == a.n) = true by simp]
      rfl
theorem xbi_two {u : XSu} {a b : XAs} (hl : goodLine u = true) (hg : goodNames [a, b] = true) (hs : (("self" : Str) == a.n) = false) (hs2 : (("self" : Str) == b.n) = false) (hab : (a.n == b.n) = false)
    (hb : ∀ (x cc : Addr) (q : Str) (kV doc pm : Value) (an : Option Addr) (cdv ct v w : Value), bindArgs (fnI q u [a, b] cc .none kV doc pm an cdv ct) ⟨[.ref x, v, w], []⟩ = pure [(("self" : Str), Value.ref x), (a.n, v), (b.n, w)] := by intros; rfl) : XBi u [a, b] := by
  refine ⟨by simp, by simp, hl, hg, fun s x cc us h q kV doc pm an cdv ct => ?_, fun x us h => ?_, fun x us h => ?_⟩
  · match us, h with
    | [v, w], _ => exact .of_eq (hb ..)
  · match us, h with
    | [v, w], _ =>
      show ([(b.n, w), (a.n, v), (("self" : Str), Value.ref x)] : List (Str × Value)).lookup ("self" : Str) = _
      rw [List.lookup_cons, hs2]
      show ([(a.n, v), (("self" : Str), Value.ref x)] : List (Str × Value)).lookup ("self" : Str) = _
      rw [List.lookup_cons, hs]
      rfl
  · match us, h with
    | [v, w], _ =>
      show [([(b.n, w), (a.n, v), (("self" : Str), Value.ref x)] : List (Str × Value)).lookup a.n, ([(b.n, w), (a.n, v), (("self" : Str), Value.ref x)] : List (Str × Value)).lookup b.n] = _
      have e1 : ([(b.n, w), (a.n, v), (("self" : Str), Value.ref x)] : List (Str × Value)).lookup a.n = some v := by
        rw [List.lookup_cons, hab]
        show ([(a.n, v), (("self" : Str), Value.ref x)] : List (Str × Value)).lookup a.n = _
        rw [List.lookup_cons, show (a.n == a.n) = true by simp]
      have e2 : ([(b.n, w), (a.n, v), (("self" : Str), Value.ref x)] : List (Str × Value)).lookup b.n = some w := by
        rw [List.lookup_cons, show (b.n == b.n) = true by simp]
      rw [e1, e2]
      rfl
/-- a made exception -/
structure XMade (h h' : Heap) (e C d : Addr) (fs : List (Str × Value)) : Prop where
  keep : ∀ b o, h.get? b = some o → h'.get? b = some o
  new : h.objs.size ≤ e
  obj : ∃ oe vs, h'.get? e = some oe ∧ oe.cls = .ref C ∧ oe.dict = some d ∧ oe.data = .fields vs ∧ vs[1]? = some .none ∧ vs[2]? = some .none
  dbig : h.objs.size ≤ d
  dne : d ≠ e
  ns : h'.Ns1 d (fun y => fs.lookup y)
theorem x_made (T : XT prog K mg cn C fI cc u as0) (B : XBi u as0) {us : List Value} {base : Heap} (hM : L2.Mod K mg base) (hbs : ∀ b o, base.get? b = some o → s.heap.get? b = some o) (hl : us.length = as0.length) (hroom : A.depth + 1 < recursionLimit)
    (hq : ∀ h' tk e d, XMade s.heap h' e C d ((as0.map (·.n)).zip us).reverse → R (.ok (.ret (.ref e))) { s with heap := h', toks := tk }) :
    codeAny (model prog w) A (.call (.ref C) ⟨us, []⟩) R s := by
  obtain ⟨nm, q, N, bs, bm, sn, sub, ab, col, dd, k0, k1, k2, k3, k5, hC, hbm, _⟩ := T.cls
  have X : K.In s.heap := hM.kin.keeps hbs
  obtain ⟨hp, g, dr, tk, os⟩ := s
  have k : ∀ b o, hp.get? b = some o → ((hp.push (kdv_tup us)).push (excO C hp.objs.size)).get? b = some o := fun b o e => Heap.get?_push_of_some _ (Heap.get?_push_of_some _ e)
  have hget : ((hp.push (kdv_tup us)).push (excO C hp.objs.size)).get? (hp.objs.size + 1) = some (excO C hp.objs.size) := by heap_get
  have hnx : K.lookup (hp.objs.size + 1) = none := by
    cases e : K.lookup (hp.objs.size + 1) with
    | none => rfl
    | some o =>
      have z : hp.get? (hp.objs.size + 1) = some o := X _ _ e
      exact absurd (Nat.lt_of_succ_lt (Heap.lt_size z)) (Nat.lt_irrefl _)
  have hz : us.length ≤ sizeLine := by
    have := B.few
    rw [sizeLine_eq]
    omega
  refine call_own F.excBase_ValueError (fun X => refsVE_contains X bm hbm) (X _ _ hC) (looks_findIn X T.iC) (fun self => bind_fn X self T.tC) hz ?_
  refine x_init (s := ⟨(hp.push (kdv_tup us)).push (excO C hp.objs.size), g, dr, tk, os⟩) T B.one B.few B.line B.good hM (fun b o e => k b o (hbs b o e)) hget hnx ?_ (B.bind _ _ _ us hl) (B.self _ us hl) (B.arg _ us hl) fun h' tk' dx t1 ⟨k', hx, dn, dne, hns⟩ => ?_
  · show A.depth + 1 < recursionLimit
    exact hroom
  · have old : ∀ b o, hp.get? b = some o → h'.get? b = some o := fun b o e => k' b o (Nat.ne_of_lt (Nat.lt_succ_of_lt (Heap.lt_size e))) (k b o e)
    have z : hp.objs.size + 1 + 1 ≤ dx := by
      first
        | (simpa only [Heap.size_push] using dn)
        | exact dn
        | (have q := dn; rw [Heap.size_push, Heap.size_push] at q; exact q)
    exact ⟨rfl, hq h' tk' (hp.objs.size + 1) dx ⟨old, Nat.le_succ _, ⟨_, _, hx, rfl, rfl, rfl, rfl, rfl⟩, Nat.le_trans (Nat.le_trans (Nat.le_succ _) (Nat.le_succ _)) z, dne, hns⟩⟩
end
end MbX
end PySem
namespace MB
open PySem PySem.Spec PyProof.Rows L2
theorem relO_app : ∀ {fs gs : List (Str × V)} {ws zs : List (Str × Value)} (f : Str), (∀ f, RelO (fs.lookup f) (ws.lookup f)) → (∀ f, RelO (gs.lookup f) (zs.lookup f)) → RelO ((fs ++ gs).lookup f) ((ws ++ zs).lookup f) := fun {fs gs ws zs} f h1 h2 => by
  have a1 : ∀ {α : Type} (l m : List (Str × α)), (l ++ m).lookup f = (l.lookup f).or (m.lookup f) := fun {α} l m => by
    induction l with
    | nil => simp [List.lookup]
    | cons p l ih =>
      obtain ⟨a, b⟩ := p
      rw [List.cons_append, List.lookup_cons, List.lookup_cons]
      cases (f == a) with
      | true => rfl
      | false => exact ih
  rw [a1, a1]
  have q := h1 f
  cases e1 : fs.lookup f with
  | some v =>
    cases e2 : ws.lookup f with
    | some u =>
      rw [e1, e2] at q
      exact q
    | none =>
      rw [e1, e2] at q
      exact q.elim
  | none =>
    cases e2 : ws.lookup f with
    | some u =>
      rw [e1, e2] at q
      exact q.elim
    | none => exact h2 f
theorem relO_rev : ∀ {ns : List Str} {vs : List V} {us : List Value}, Vals vs us → ∀ f, RelO ((ns.zip vs).reverse.lookup f) ((ns.zip us).reverse.lookup f)
  | [], _, _, _, f => by
    show RelO none none
    trivial
  | n :: ns, _, _, .nil, f => by
    show RelO none none
    trivial
  | n :: ns, v :: vs, u :: us, .cons a t, f => by
    rw [List.zip_cons_cons, List.zip_cons_cons, List.reverse_cons, List.reverse_cons]
    refine relO_app f (relO_rev t) fun g => ?_
    rw [List.lookup_cons, List.lookup_cons]
    cases (g == n) with
    | true => exact a
    | false => trivial
theorem df_app {K : Fg} {H : Hp} : ∀ {vs ws : List (Str × V)} {ds es : List (Str × D)}, DF K H vs ds → DF K H ws es → DF K H (vs ++ ws) (ds ++ es)
  | _, _, _, _, .nil, t => t
  | _, _, _, _, .cons a r, t => .cons a (df_app r t)
theorem df_rev {K : Fg} {H : Hp} : ∀ {ns : List Str} {vs : List V} {ds : List D}, DVs K H vs ds → DF K H (ns.zip vs).reverse (ns.zip ds).reverse
  | [], _, _, _ => .nil
  | n :: ns, _, _, .nil => .nil
  | n :: ns, v :: vs, d :: ds, .cons a t => by
    rw [List.zip_cons_cons, List.zip_cons_cons, List.reverse_cons, List.reverse_cons]
    exact df_app (df_rev t) (.cons a .nil)
section
variable {X : Cx} {hx : Hx} {W : WX} {cn : Str} {C fI cc : Addr} {u : PySem.MbX.XSu} {as0 : List PySem.MbX.XAs} {e : Expr} {es : List Expr} {fs : List EX} {p pos pos2 : Pos}
/-- C(e, ..) -/
def tMkX (C : Addr) (ns : List Str) (ta : TA) : MB.St → Hp → XK → Prop := fun σ H Q => ta σ H fun vs H1 => vs.length = ns.length ∧ ∀ d, H1 d = none → Q (.ref C) (some d) (upd H1 d (.xd (ns.zip vs).reverse))
theorem pmk_x {k : Nat} {t : TA} (T : PySem.MbX.XT X.prog X.K X.mg cn C fI cc u as0) (B : PySem.MbX.XBi u as0) (hr : Room k X.A) (ha : PA X (e :: es) t) (hg : Gl X cn) (hdb : (cn == ("__debug__" : Str)) = false) (he : starEach (e :: es) X.env = (false, eval e X.env) :: starEach es X.env) (hpl : (backTo pos (starEach es X.env)).any (·.1) = false) :
    L2N.PMk X (.Call (.Name cn p) (e :: es) [] pos) (tMkX C (as0.map (·.n)) t) := by
  intro pins s σ H Q I h
  refine wpAny_Call_Name_kw (ld_glob I hg T.gC ?_ hdb)
  refine PySem.W.callWith_K (h₀ := X.base) I.ok.mod.kin T.kC (thn (ha.run pos pins s σ H _ I h) fun us s1 hh => ?_) he hpl
  obtain ⟨vs, H1, I1, r1, hl, q1⟩ := hh
  refine ⟨I1.kIn, ?_⟩
  obtain ⟨hp, g, dr, tk, os⟩ := s1
  refine wpAny_call (PySem.MbX.x_made T B I1.ok.mod I1.bk (show us.length = as0.length by rw [← r1.length, hl, List.length_map]) (by have := hr.dp; omega) fun h' tk' e d M => ?_)
  show L2N.MkP X pins σ Q (.ref e) ⟨h', g, dr, tk', os⟩
  obtain ⟨oe, fv, hoe, hc, hd, hdat, h1, h2⟩ := M.obj
  have hns := M.ns
  obtain ⟨G', g1, g2⟩ := restrict h' fun b => decide (b ≠ e)
  have gk : ∀ b, b ≠ e → G'.get? b = h'.get? b := fun b hb => g1 b (decide_eq_true hb)
  have ge : G'.get? e = none := g2 e (by simp)
  have old : ∀ b o, hp.get? b = some o → G'.get? b = some o := fun b o q => (gk b (Nat.ne_of_lt (Nat.lt_of_lt_of_le (Heap.lt_size q) M.new))).trans (M.keep b o q)
  have ob : ObjOk X.prog X.w (upd H1 d (.xd ((as0.map (·.n)).zip vs).reverse)) G' d (.xd ((as0.map (·.n)).zip vs).reverse) :=
    ⟨_, hns.at (fun o q => (gk d M.dne).trans q), fun f => relO_rev r1 f⟩
  have J : Inv X pins σ (upd H1 d (.xd ((as0.map (·.n)).zip vs).reverse)) ⟨G', g, dr, tk', os⟩ := I1.laid (t' := tk') old M.dbig ob
  refine ⟨e, oe, fv, ⟨G', g, dr, tk', os⟩, _, .ref C, some d, rfl, J, fun b o q => ?_, ge, hoe, ⟨hc, hd, fun vs' e' => by
    rw [hdat] at e'
    cases e'
    exact h2⟩, hdat, h1, ?_, rfl, I1.bare, raises_own T.exC T.tyC, q1 d (I1.hok.fresh M.dbig)⟩
  · by_cases hb : b = e
    · have q' : G'.get? b = some o := q
      rw [hb, ge] at q'; cases q'
    · exact (gk b hb).symm.trans q
  · rw [upd_ne (Ne.symm M.dne)]
    exact I1.hok.fresh M.new
/-- raise C(e, ..) -/
def sRaise (c : Str) (ns : List Str) (fs : List EX) : SX := fun ρ => (evs fs (fun ds ρ => if ds.length = ns.length then .err ⟨c, (ns.zip ds).reverse⟩ ρ else .stuck) ρ).then fun _ _ => .stuck
theorem p_raise {k : Nat} (hc : X.calm = true) (tk : L2N.Takes X W) (T : PySem.MbX.XT X.prog X.K X.mg cn (He.ga X.K cn) fI cc u as0) (B : PySem.MbX.XBi u as0) (hr : Room k X.A) (ha : PA X (e :: es) (tA X.K hx W fs)) (hg : Gl X cn := by rfl) (hdb : (cn == ("__debug__" : Str)) = false := by decide)
    (he : starEach (e :: es) X.env = (false, eval e X.env) :: starEach es X.env := by rfl) (hpl : (backTo pos (starEach es X.env)).any (·.1) = false := by rfl) :
    PS X (.Raise (some (.Call (.Name cn p) (e :: es) [] pos)) none pos2) (tS X.K hx W (sRaise cn (as0.map (·.n)) fs)) :=
  (L2N.ps_raise hc tk (pmk_x T B hr ha hg hdb he hpl)).imp fun D σ H q => by
    obtain ⟨F, ρ, ⟨O, r⟩, hp⟩ := q
    have hp' : Po X.K hx F W σ (evs fs (fun ds ρ => if ds.length = (as0.map (·.n)).length then .err ⟨cn, ((as0.map (·.n)).zip ds).reverse⟩ ρ else .stuck) ρ) (fun _ _ => False) := by
      unfold sRaise at hp
      cases e : evs fs (fun ds ρ => if ds.length = (as0.map (·.n)).length then .err ⟨cn, ((as0.map (·.n)).zip ds).reverse⟩ ρ else .stuck) ρ with
      | ok d ρ1 => rw [e] at hp; exact hp.elim
      | err x ρ1 => rw [e] at hp; exact fun cls dd H1 h => hp cls dd σ H1 h
      | stuck => rw [e] at hp; exact hp.elim
    refine tA_of r hp' fun F1 ds ρ1 vs H1 O1 ln r1 dvs q => ?_
    split at q
    · rename_i hl
      refine ⟨dvs.length.trans hl, fun d nd => ?_⟩
      refine q _ _ _ ⟨O1, r1.grow (same_upd nd), rfl, .inr ⟨d, _, rfl, ?_, DF.mono (wo_mono (same_upd nd)) (df_rev dvs)⟩⟩
      unfold wo
      rw [if_neg (r1.out nd), upd_same]
    · exact q.elim
end
end MB

/-! Written dicts of int keys, calls of a local that holds a def, list.count; by values. -/
namespace MB
open PySem PySem.Spec PyProof.Rows L2

/-! ### a module's dict of int keys -/
def intKeysB (es : List DictEntry) : Bool := es.all fun e => match e.key with
  | .int k _ => e.hash == hashInt k
  | _ => false
def KDctI (K : Fg) (p : Addr) (i : Int) (v : V) : Prop := ∃ es n u, K.lookup p = some ⟨.type "dict", none, .dict es n, #[]⟩ ∧ intKeysB es.toList = true ∧ findBy Value.isInt es i = some u ∧ RelV v u
def rIxI (K : Fg) : R2 := fun x y H Q => ∃ p i v, x = .ref p ∧ y = .int i ∧ KDctI K p i v ∧ Q v H
theorem ix_kdictI {X : Cx} : IxR X (rIxI X.K) := by
  intro value slice pins s σ H x y v u Q I rx ry h hs
  obtain ⟨p, i, r, rfl, rfl, ⟨es, n, u0, hl, hk, e, ru⟩, q⟩ := h
  obtain rfl : v = Value.ref p := rx
  obtain ⟨t, rfl⟩ := ry
  have hm : s.heap.MapOf (intKind X.prog X.w) p (fun k => findBy Value.isInt es k) := ⟨_, es, n, I.kIn _ _ hl, ⟨rfl, rfl, rfl⟩, rfl, (fun e he => by
    have z := List.all_eq_true.mp hk e (Array.mem_toList_iff.mpr he)
    cases q : e.key with
    | int k t =>
      simp only [q] at z
      exact ⟨k, by simp [intKind, Value.isInt, q], beq_iff_eq.mp z⟩
    | _ =>
      simp only [q] at z
      cases z), fun _ => rfl⟩
  exact tail_any hm.typeIs slot_dict_getitem.lookup (wpAny_getItem_of (intKind_is X.prog X.w i t) hm e ⟨r, H, I.tok _, ru, q⟩) hs
def eTbl (t : Int → Option D) (f : EX) : EX := fun ρ => (f ρ).bind fun d ρ1 => match d with
  | .int i => match t i with
    | some z => .ok z ρ1
    | none => .stuck
  | _ => .stuck
def TBF (K : Fg) (x : Str) (t : Int → Option D) : Prop := ∀ i d, t i = some d → ∃ v, KDctI K (He.ga K x) i v ∧ ∀ H, DV K H v d
section
variable {X : Cx} {hx : Hx} {W : WX} {b : Expr} {fb : EX} {x : Str} {pos p : Pos}
theorem r_tbl {t : Int → Option D} (T : TBF X.K x t) (hm : X.mg x = some (.ref (He.ga X.K x))) (hb : PE X b (tX X.K hx W fb)) (hg : Gl X x := by rfl) (hd : (x == ("__debug__" : Str)) = false := by decide) (hs : PlainIx b := by first | (intro _ _; rfl) | exact fun _ _ => rfl) :
    PE X (.Subscript (.Name x p) b pos) (tX X.K hx W (eTbl t fb)) :=
  (pe_ix ix_kdictI (pe_glob (v := .ref (He.ga X.K x)) hg hm rfl hd) hb hs).imp fun σ H Q h => by
    obtain ⟨F, ρ, ⟨O, r0⟩, hp⟩ := h
    show tX X.K hx W fb σ H _
    refine bindX r0 hp fun d ρ1 v H1 O1 r1 s1 dv hp1 => ?_
    cases d <;> (try exact hp1.elim)
    rename_i i
    cases dv
    cases e : t i with
    | none => simp only [e] at hp1; exact hp1.elim
    | some z =>
      simp only [e] at hp1
      obtain ⟨v, k, dv⟩ := T i z e
      exact ⟨_, i, v, rfl, rfl, k, hp1 v H1 ⟨O1, r1, dv _⟩⟩
end

/-! ### a local that holds a def -/
def eLoc (i : Nat) (S : Str → Option Fn) (fs : List EX) : EX := fun ρ => match ρ[i]? with
  | some (some (.val (.fn nm))) => match S nm with
    | some m => eFn m fs ρ
    | none => .stuck
  | _ => .stuck
def LocF (P : Program) (w : World) (K : Fg) (mg : Str → Option Value) (base : Heap) (k n : Nat) (S : Str → Option Fn) : Prop := ∀ nm m, S nm = some m → mg nm = some (.ref (He.ga K nm)) ∧ Df P w K mg base k nm n m
section
variable {X : Cx} {hx : Hx} {W : WX} {e : Expr} {es : List Expr} {fs : List EX} {pos p : Pos} {x : Str} {k n i : Nat} {S : Str → Option Fn}
theorem r_loc (L : LocF X.prog X.w X.K X.mg X.base k n S) (hr : Room k X.A) (tk : L2N.Takes X W) (ha : PA X (e :: es) (tA X.K hx W fs)) (hl : fs.length = n := by rfl) (hN : X.N[i]? = some x := by rfl) (hv : Vis X.env.scope x := by first | exact Or.inl rfl | exact Or.inr (Or.inl rfl) | exact Or.inr (Or.inr rfl))
    (hdb : (x == ("__debug__" : Str)) = false := by decide) (hcd : (x == ("__classdict__" : Str)) = false := by decide) (he : starEach (e :: es) X.env = (false, eval e X.env) :: starEach es X.env := by rfl) (hpl : (backTo pos (starEach es X.env)).any (·.1) = false := by rfl) :
    PE X (.Call (.Name x p) (e :: es) [] pos) (tX X.K hx W (eLoc i S fs)) := by
  refine ⟨fun pins s σ H Q I h => ?_⟩
  obtain ⟨F, ρ, ⟨O, r0⟩, hp⟩ := h
  unfold eLoc at hp
  cases e0 : ρ[i]? with
  | none => rw [e0] at hp; exact hp.elim
  | some o =>
    cases o with
    | none => rw [e0] at hp; exact hp.elim
    | some sl =>
      rw [e0] at hp
      cases sl with
      | own ds => exact hp.elim
      | io ds => exact hp.elim
      | exc y => exact hp.elim
      | val d =>
        cases d <;> (try exact hp.elim)
        rename_i nm
        have hp' : Po X.K hx F W σ (match S nm with
          | some m => eFn m fs ρ
          | none => .stuck) Q := hp
        cases e1 : S nm with
        | none => rw [e1] at hp'; exact hp'.elim
        | some m =>
          rw [e1] at hp'
          obtain ⟨v, ev, dv⟩ := r0.sl i _ e0
          cases (show DV X.K (wo O H) v (.fn nm) from dv)
          obtain ⟨hg, D⟩ := L nm m e1
          obtain ⟨f, fd, ps, hm, hk, hb, en, FF⟩ := D.ex
          rw [hg] at hm
          cases hm
          refine wpAny_Call_Name_kw (thn ((pe_var (pos := p) hN hv hdb hcd).run pins s σ H (fun v H1 => v = .ref (He.ga X.K nm) ∧ H1 = H) I ⟨_, ev, rfl, rfl⟩) fun u s1 ⟨v, H1, I1, r1, q1⟩ => ?_)
          obtain ⟨rfl, rfl⟩ := q1
          cases r1
          have ht := t_fn (W := W) (hx := hx) (fs := fs) (m := m) (ps := ps) (hl.trans en.symm) (σ := σ) (H := H1) (Q := Q) ⟨F, ρ, ⟨O, r0⟩, hp'⟩
          refine PySem.W.callWith_K (h₀ := X.base) I1.ok.mod.kin hk (thn (ha.run pos pins s1 σ H1 (fun vs H2 => spV X.K ps.length m (vs ++ []) H2 Q (WE W σ)) I1 ?_) fun us s2 ⟨vs, H2, I2, r, q⟩ => ⟨I2.kIn, ?_⟩) he hpl
          · have e2 : (fun (vs : List V) (H2 : Hp) => spV X.K ps.length m (vs ++ []) H2 Q (WE W σ)) = fun vs H2 => spV X.K ps.length m vs H2 Q (WE W σ) := by
              funext vs H2
              rw [List.append_nil]
            rw [e2]
            exact ht
          · exact run_fnSD FF hr hb .nil (L2N.passAt tk σ) I2 r q
end

/-! ### list.count -/
def rCnt (K : Fg) : V → List V → Hp → VK → Prop := fun x xs H Q => ∃ (a : Addr) (ys : List V) (y : V), x = V.ref a ∧ xs = [y] ∧ SqL K H a ys ∧ flatV y = true ∧ ys.all flatV = true ∧ Q (.int ((ys.countP fun z => eqV z y : Nat))) H
theorem cnt_eqU {x : V} : ∀ {xs : List V} {us : List Value}, Vals xs us → xs.all flatV = true → us.countP (eqU x) = xs.countP fun y => eqV y x
  | _, _, .nil, _ => rfl
  | y :: xs, u :: us, .cons r t, f => by
    rw [List.all_cons, Bool.and_eq_true] at f
    rw [List.countP_cons, List.countP_cons, eqU_of r f.1, cnt_eqU t f.2]
theorem mt_count {X : Cx} : MtR X "list.count" (rCnt X.K) := by
  intro pins s σ H x xs v us Q I rx rxs h
  obtain ⟨a, ys, y, rfl, rfl, hs, fy, fys, q⟩ := h
  cases rx
  cases rxs with
  | cons ry rt =>
    rename_i uy ut
    cases rt
    obtain ⟨its, rv, ⟨⟨cls, dd, data, sl⟩, n, ho, hc, hdn, hd⟩, hlen⟩ := I.list hs
    simp only at hc hd
    subst hc hd
    refine call_meets PySem.F.slot_list_count ⟨_, ho, rfl⟩ PySem.F.entry_list_count (PySem.F.args_list_count_2 _ _)
      (SeqAt.list_countAt a its.toArray n dd sl uy (eqU y)) ⟨ho, fun u' hu' => mem_eqAt ry fy rv fys u' (by simpa using hu'), ?_⟩
    rw [show its.toArray.toList = its from rfl, cnt_eqU rv fys]
    exact ⟨.int _, H, I.tok _, ⟨_, rfl⟩, q⟩
def eCnt (fo fe : EX) : EX := fun ρ => (fo ρ).bind fun d ρ1 => match d with
  | .lst xs => (fe ρ1).bind fun y ρ2 => if (flat y && xs.all flat) = true then .ok (.int ((xs.countP fun z => eqF z y : Nat))) ρ2 else .stuck
  | _ => .stuck
theorem countP_flV {d : D} (f : flat d = true) : ∀ {ds : List D}, ds.all flat = true → ((ds.map flV).countP fun y => eqV y (flV d)) = ds.countP fun y => eqF y d
  | [], _ => rfl
  | e :: ds, g => by
    rw [List.all_cons, Bool.and_eq_true] at g
    rw [List.map_cons, List.countP_cons, List.countP_cons, eqV_flV g.1 f, countP_flV f g.2]
section
variable {X : Cx} {hx : Hx} {W : WX} {o e : Expr} {fo fe : EX} {apos cpos : Pos}
theorem r_cnt (ho : PE X o (tX X.K hx W fo)) (he : PE X e (tX X.K hx W fe)) (hbase : attributeBase o "count" X.env (eval o X.env) = eval o X.env := by rfl)
    (hfew : ((backTo cpos (starEach [e] X.env)).all (fun x => !x.1) && (backToKw cpos (keywordEach [] X.env)).all (fun x => x.1.isSome) && decide ([e].length + ([] : List Keyword).length + (if ([] : List Keyword).isEmpty then 0 else 1) < 30)) = true := by rfl)
    (hline : (apos.endLine == cpos.line) = true := by rfl) (hs : starEach [e] X.env = (false, eval e X.env) :: starEach [] X.env := by rfl) (hplain : (backTo cpos (starEach [] X.env)).any (·.1) = false := by rfl) :
    PE X (.Call (.Attribute o "count" apos) [e] [] cpos) (tX X.K hx W (eCnt fo fe)) :=
  (pe_bm PySem.F.plainAttrs_list PySem.F.slot_list_count PySem.F.type_list_count mt_count ho (pa_cons he pa_nil hs) hbase hfew hline hs hplain).imp fun σ H Q h => by
    obtain ⟨F, ρ, ⟨O, r0⟩, hp⟩ := h
    refine bindX r0 hp fun d ρ1 v H1 O1 r1 s1 dv hp1 => ?_
    cases d <;> (try exact hp1.elim)
    rename_i ds
    obtain ⟨a, vs, rfl, s, t⟩ := dv.lst_of
    refine ⟨.inl ⟨rfl, vs, .of (wo_same O1 H1 _ _ s)⟩, ?_⟩
    refine bindX r1 hp1 fun d2 ρ2 u H2 O2 r2 s2 du hp2 => ?_
    split at hp2
    · rename_i c
      obtain ⟨c1, c2⟩ := Bool.and_eq_true_iff.mp c
      obtain ⟨rfl, f1⟩ := flat_of du c1
      obtain ⟨e2, f2⟩ := flats_of t c2
      refine ⟨a, vs, _, rfl, rfl, .of (wo_same O2 H2 _ _ (s2 _ _ s)), f1, f2, ?_⟩
      rw [e2, countP_flV c1 c2]
      exact hp2 _ H2 ⟨O2, r2, .int _⟩
    · exact hp2.elim
end
end MB

/-! What the module's top leaves: one observation, and what it gives. -/
namespace MB
open PySem PySem.Spec PyProof.Rows L2

/-! ### data -/
def vOf : Value → V
  | .bool b => .bl b
  | .int i _ => .int i
  | .str x _ => .str x
  | .ref a => .ref a
  | _ => .non
def vals2 (f : Value → D → Bool) : List Value → List D → Bool
  | [], [] => true
  | u :: us, d :: ds => f u d && vals2 f us ds
  | _, _ => false
def dB (K : Fg) : Nat → Value → D → Bool
  | 0, _, _ => false
  | _ + 1, .none, .non => true
  | _ + 1, .bool b, .bl c => b == c
  | _ + 1, .int i _, .int j => decide (i = j)
  | _ + 1, .str x _, .str y => decide (x = y)
  | n + 1, .ref a, .tup ds => match K.lookup a with
    | some ⟨.type c, _, .seq its _, _⟩ => decide (c = "tuple") && (decide (its.size ≤ sizeLine) && vals2 (dB K n) its.toList ds)
    | _ => false
  | _ + 1, .ref a, .fn x => decide (a = He.ga K x)
  | _, _, _ => false
theorem vals2_ok {K : Fg} {f : Value → D → Bool} (hf : ∀ u d, f u d = true → RelV (vOf u) u ∧ ∀ H, DV K H (vOf u) d) : ∀ {us : List Value} {ds : List D}, vals2 f us ds = true → Vals (us.map vOf) us ∧ ∀ H, DVs K H (us.map vOf) ds
  | [], [], _ => ⟨.nil, fun _ => .nil⟩
  | [], _ :: _, h => by cases h
  | _ :: _, [], h => by cases h
  | u :: us, d :: ds, h => by
    obtain ⟨h1, h2⟩ := Bool.and_eq_true_iff.mp (show (f u d && vals2 f us ds) = true from h)
    obtain ⟨r, dv⟩ := hf u d h1
    obtain ⟨r2, dv2⟩ := vals2_ok hf h2
    exact ⟨.cons r r2, fun H => .cons (dv H) (dv2 H)⟩
theorem dB_ok {K : Fg} : ∀ (n : Nat) (u : Value) (d : D), dB K n u d = true → RelV (vOf u) u ∧ ∀ H, DV K H (vOf u) d
  | 0, _, _, h => by cases h
  | n + 1, u, d, h => by
    cases u with
    | none =>
      cases d with
      | non => exact ⟨rfl, fun _ => .non⟩
      | _ => cases h
    | bool b =>
      cases d with
      | bl c =>
        have e : b = c := eq_of_beq (show (b == c) = true from h)
        subst e
        exact ⟨rfl, fun _ => .bl _⟩
      | _ => cases h
    | int i t =>
      cases d with
      | int j =>
        have e : i = j := of_decide_eq_true h
        subst e
        exact ⟨⟨t, rfl⟩, fun _ => .int _⟩
      | _ => cases h
    | str x t =>
      cases d with
      | str y =>
        have e : x = y := of_decide_eq_true h
        subst e
        exact ⟨⟨t, rfl⟩, fun _ => .str _⟩
      | _ => cases h
    | ref a =>
      cases d with
      | tup ds =>
        have h1 : (match K.lookup a with
          | some ⟨.type c, _, .seq its _, _⟩ => decide (c = "tuple") && (decide (its.size ≤ sizeLine) && vals2 (dB K n) its.toList ds)
          | _ => false) = true := h
        cases q : K.lookup a with
        | none =>
          rw [q] at h1
          cases h1
        | some o =>
          obtain ⟨oc, od, dt, osl⟩ := o
          rw [q] at h1
          cases oc with
          | type c =>
            cases dt with
            | seq its m =>
              obtain ⟨h2, h3⟩ := Bool.and_eq_true_iff.mp (show (decide (c = "tuple") && (decide (its.size ≤ sizeLine) && vals2 (dB K n) its.toList ds)) = true from h1)
              obtain ⟨h4, h5⟩ := Bool.and_eq_true_iff.mp h3
              obtain ⟨r, dv⟩ := vals2_ok (fun u d => dB_ok n u d) h5
              exact ⟨rfl, fun H => .tup (.inr ⟨_, its, m, q, congrArg Value.type (of_decide_eq_true h2), rfl, of_decide_eq_true h4, r⟩) (dv H)⟩
            | _ => cases h1
          | _ => cases dt <;> cases h1
      | fn x =>
        have e : a = He.ga K x := of_decide_eq_true h
        subst e
        exact ⟨rfl, fun _ => .fn _⟩
      | _ => cases h
    | _ => cases d <;> cases h
def gcB (K : Fg) (x : Str) (d : D) : Bool := match PySem.W.nsIn K mainGlobals x with
  | some (some u) => dB K 12 u d
  | _ => false
theorem gc_ok {K : Fg} {h : Heap} {mg : Str → Option Value} {x : Str} {d : D} (X : K.In h) (G : h.Ns mainGlobals mg) (c : gcB K x d = true) : GC K mg x d := by
  unfold gcB at c
  split at c
  · rename_i u e
    obtain ⟨r, dv⟩ := dB_ok _ _ _ c
    exact ⟨u, vOf u, PySem.W.mg_of X G e, r, dv⟩
  · cases c

theorem mem_lookI {d : D} {i : Int} : ∀ {l : List (Int × D)}, l.lookup i = some d → (i, d) ∈ l
  | [], e => by cases e
  | (j, x) :: l, e => by
    rw [List.lookup_cons] at e
    cases q : (i == j) with
    | true =>
      rw [q] at e
      cases e
      rw [eq_of_beq q]
      exact List.mem_cons_self
    | false =>
      rw [q] at e
      exact List.mem_cons_of_mem _ (mem_lookI e)
/-! ### a dict of int keys -/
def tbB (K : Fg) (x : Str) (l : List (Int × D)) : Bool := match K.lookup (He.ga K x) with
  | some ⟨.type c, none, .dict es _, sl⟩ => decide (c = "dict") && (decide (sl.size = 0) && (intKeysB es.toList && l.all fun p => match findBy Value.isInt es p.1 with
    | some u => dB K 12 u p.2
    | none => false))
  | _ => false
theorem tb_ok {K : Fg} {x : Str} {l : List (Int × D)} (c : tbB K x l = true) : TBF K x (fun i => l.lookup i) := by
  intro i d hi
  unfold tbB at c
  cases q : K.lookup (He.ga K x) with
  | none => rw [q] at c; cases c
  | some o =>
    obtain ⟨oc, od, dt, osl⟩ := o
    rw [q] at c
    cases oc with
    | type cn =>
      cases od with
      | some _ => cases dt <;> cases c
      | none =>
        cases dt with
        | dict es n =>
          obtain ⟨h1, h2⟩ := Bool.and_eq_true_iff.mp (show (decide (cn = "dict") && (decide (osl.size = 0) && (intKeysB es.toList && l.all fun p => match findBy Value.isInt es p.1 with
            | some u => dB K 12 u p.2
            | none => false))) = true from c)
          obtain ⟨h3, h4⟩ := Bool.and_eq_true_iff.mp h2
          obtain ⟨h5, h6⟩ := Bool.and_eq_true_iff.mp h4
          have hm : (i, d) ∈ l := mem_lookI hi
          have h7 := List.all_eq_true.mp h6 _ hm
          have e1 : cn = "dict" := of_decide_eq_true h1
          have e2 : osl = #[] := Array.eq_empty_of_size_eq_zero (of_decide_eq_true h3)
          subst e1 e2
          cases e3 : findBy Value.isInt es i with
          | none => simp only [e3] at h7; cases h7
          | some u =>
            simp only [e3] at h7
            obtain ⟨r, dv⟩ := dB_ok _ _ _ h7
            exact ⟨vOf u, ⟨es, n, u, q, h5, e3, r⟩, dv⟩
        | _ => cases c
    | _ => cases od <;> cases dt <;> cases c

/-! ### exceptions -/
def excCB (K : Fg) (C : Addr) : Bool := decide (PySem.W.findIn K (.ref C) "__getattribute__" = some (some (.builtin "BaseException.__getattribute__"))) && (decide (PySem.W.findIn K (.ref C) "__getattr__" = some none) &&
  (decide (PySem.W.subIn K (.ref C) (.type "BaseException") = some true) && (PySem.W.hasDictIn K C && (decide (PySem.W.findIn K (.ref C) "__class__" = some (some (.builtin "object.__class__"))) &&
  (decide (PySem.W.specialIn K (.builtin "object.__class__") "__get__" = some (some (.builtin "getset_descriptor.__get__"))) && (decide (PySem.W.takesIn K (.builtin "object.__class__") = some true) && decide (PySem.W.mroIn K C (.type "object") = some true)))))))
theorem excC_ok {K : Fg} {C : Addr} (c : excCB K C = true) : ExcC K C := by
  obtain ⟨h1, c⟩ := Bool.and_eq_true_iff.mp c
  obtain ⟨h2, c⟩ := Bool.and_eq_true_iff.mp c
  obtain ⟨h3, c⟩ := Bool.and_eq_true_iff.mp c
  obtain ⟨h4, c⟩ := Bool.and_eq_true_iff.mp c
  obtain ⟨h5, c⟩ := Bool.and_eq_true_iff.mp c
  obtain ⟨h6, c⟩ := Bool.and_eq_true_iff.mp c
  obtain ⟨h7, h8⟩ := Bool.and_eq_true_iff.mp c
  exact ⟨of_decide_eq_true h1, of_decide_eq_true h2, of_decide_eq_true h3, h4, of_decide_eq_true h5, of_decide_eq_true h6, of_decide_eq_true h7, of_decide_eq_true h8⟩
/-- what isinstance of an instance of each raised class tells; l: each raised class with all classes it stands under -/
def isB (K : Fg) (l : List (Str × List Str)) (C : Str) (cv : Value) : Bool := l.all fun p => decide (PySem.W.kitOne K (.ref (He.ga K p.1)) cv = some (p.2.contains C))
def isX (l : List (Str × List Str)) (C : Str) : Str → Option Bool := fun c => (l.lookup c).map (·.contains C)
theorem is_ok {K : Fg} {l : List (Str × List Str)} {C : Str} {cv : Value} (h1 : (l.all fun p => excCB K (He.ga K p.1)) = true) (h2 : isB K l C cv = true) : ISF K (isX l C) cv := by
  intro c b e
  obtain ⟨q, e1, rfl⟩ := Option.map_eq_some_iff.mp e
  have hm : (c, q) ∈ l := PySem.mem_of_lookup e1
  exact ⟨excC_ok (List.all_eq_true.mp h1 _ hm), of_decide_eq_true (List.all_eq_true.mp h2 _ hm)⟩
/-- what an except clause of the class at cv catches -/
def teB (K : Fg) (l : List (Str × List Str)) (C : Str) (cv : Value) : Bool := l.all fun p => decide (PySem.W.exmOne K (.ref (He.ga K p.1)) cv = some (p.2.contains C))
theorem te_ok {K : Fg} {l : List (Str × List Str)} {C : Str} {cv : Value} (h : teB K l C cv = true) : TEF K (isX l C) cv := by
  intro c b e
  obtain ⟨q, e1, rfl⟩ := Option.map_eq_some_iff.mp e
  exact of_decide_eq_true (List.all_eq_true.mp h _ (PySem.mem_of_lookup e1))
def xfFB (K : Fg) (n : Str) (cs : List Str) : Bool := cs.all fun c => xfB K (He.ga K c) && decide (PySem.W.findIn K (.ref (He.ga K c)) n = some none)
theorem xff_ok {K : Fg} {n : Str} {cs : List Str} (h : xfFB K n cs = true) : XFF K n cs := fun c hc => by
  obtain ⟨h1, h2⟩ := Bool.and_eq_true_iff.mp (List.all_eq_true.mp h c hc)
  exact ⟨xfB_ok h1, of_decide_eq_true h2⟩

/-! ### a class with its own __init__ -/
open PySem.MbX in
abbrev FnY : Type := Option (Str × Str × Arguments × FuncBody × Scope × Addr × List Str × Addr)
def fnY (K : Fg) (a : Addr) : FnY := match K.lookup a with
  | some ⟨_, _, .func fd, _⟩ => some (fd.name, fd.qualname, fd.params, fd.body, fd.scope, fd.globals, fd.closure.map (·.1), fd.builtins)
  | _ => none
/-- the class's name, its __init__'s text, its fields -/
structure XD where
  cn : Str
  u : PySem.MbX.XSu
  as : List PySem.MbX.XAs
def XD.fI (K : Fg) (x : XD) : Addr := He.ma K (He.ga K x.cn) "__init__"
def XD.val (x : XD) : FnY := some ("__init__", x.cn ++ ".__init__", PySem.MbX.xA x.u x.as, .stmts (PySem.MbX.xB x.u x.as), PySem.MbX.xS x.as, mainGlobals, ["__class__"], builtinsNs)
def XD.cc (K : Fg) (x : XD) : Addr := match K.lookup (x.fI K) with
  | some ⟨_, _, .func fd, _⟩ => (match fd.closure with
    | (_, c) :: _ => c
    | _ => 0)
  | _ => 0
def clsB (K : Fg) (C : Addr) : Bool := match K.lookup C with
  | some ⟨.type t, _, .cls cd, sl⟩ => (match cd.mro, sl.toList with
    | .ref C' :: bm, [_, _, _, _, some (.builtin n), _] => decide (t = "type") && (decide (C' = C) && (decide (n = "ValueError.__new__") && (!cd.hasDel && (cd.hasDict && (PySem.HandSPX.refsVE bm && decide (PySem.W.alongIn K "__init__" bm = some (some (.builtin "ValueError.__init__"))))))))
    | _, _ => false)
  | _ => false
def cellB (K : Fg) (c C : Addr) : Bool := match K.lookup c with
  | some ⟨_, _, .cell (some (.ref D)), _⟩ => decide (D = C)
  | _ => false
def codeFB (file : Str) (K : Fg) (cdv : Value) : Bool := match cdv with
  | .ref ca => (match K.lookup ca with
    | some ⟨_, _, .fields vs, _⟩ => (match (vs[2]? : Option Value) with
      | some (Value.str f _) => file == f
      | _ => false)
    | _ => false)
  | _ => false
def fnB (file : Str) (K : Fg) (a : Addr) (q : Str) : Bool := match K.lookup a with
  | some ⟨_, _, .func fd, _⟩ => decide (fd.defaults = .none) && (PySem.W.codeIn K fd.code q && codeFB file K fd.code)
  | _ => false
def XD.ok (file : Str) (K : Fg) (x : XD) : Bool :=
  decide (PySem.W.nsIn K mainGlobals x.cn = some (some (.ref (He.ga K x.cn)))) && (clsB K (He.ga K x.cn) && (decide (PySem.W.findIn K (.ref (He.ga K x.cn)) "__setattr__" = some (some (.builtin "object.__setattr__"))) && ((x.as.all fun a => decide (PySem.W.findIn K (.ref (He.ga K x.cn)) a.n = some none)) &&
  (decide (PySem.W.findIn K (.ref (He.ga K x.cn)) "__init__" = some (some (.ref (x.fI K)))) && (decide (PySem.W.typeIn K (.ref (x.fI K)) = some (.type "function")) && (PySem.W.keepIn K (.ref (He.ga K x.cn)) && (decide (PySem.W.subIn K (.ref (He.ga K x.cn)) (.type "BaseException") = some true) &&
  (decide (PySem.W.subIn K (.ref (He.ga K x.cn)) (.type "ValueError") = some true) && (decide (PySem.W.subIn K (.ref (He.ga K x.cn)) (.ref (He.ga K x.cn)) = some true) && (decide (PySem.W.typeIn K (.ref (He.ga K x.cn)) = some (.type "type")) && (decide (PySem.W.nsIn K cStatics "thirdparty.any" = some none) &&
  (cellB K (x.cc K) (He.ga K x.cn) && (decide (PySem.W.nsIn K mainGlobals "super" = some none) && fnB file K (x.fI K) (x.cn ++ ".__init__"))))))))))))))
theorem cls_of {K : Fg} {C : Addr} (h : clsB K C = true) : ∃ nm q N bs bm sn sub ab col dd k0 k1 k2 k3 k5, K.lookup C = some (PySem.excClassObj nm q C N bs bm true sn sub ab col dd k0 k1 k2 k3 k5 "ValueError.__new__") ∧ PySem.HandSPX.refsVE bm = true ∧ PySem.W.alongIn K "__init__" bm = some (some (.builtin "ValueError.__init__")) := by
  unfold clsB at h
  split at h
  · rename_i t dd cd sl ho
    split at h
    · rename_i C' bm k0 k1 k2 k3 n k5 hm hs
      simp only [Bool.and_eq_true, decide_eq_true_eq, Bool.not_eq_true'] at h
      obtain ⟨rfl, rfl, rfl, hdel, hd, hr, ha⟩ := h
      obtain ⟨nm, bs, mro, ns, qn, hd', sn, sub, ab, col, del⟩ := cd
      dsimp only at hm hdel hd
      subst hm hdel hd
      have hsl : sl = #[k0, k1, k2, k3, some (.builtin "ValueError.__new__"), k5] := by
        obtain ⟨l⟩ := sl
        simp only at hs
        rw [hs]
      subst hsl
      exact ⟨nm, qn, ns, bs, bm, sn, sub, ab, col, dd, k0, k1, k2, k3, k5, ho, hr, ha⟩
    · cases h
  · cases h
theorem codeF_of {file : Str} {K : Fg} {cdv : Value} (h : codeFB file K cdv = true) : ∃ (ca : Addr) (oc2 : Obj) (vs : Array Value) (f : Str) (tf : Tok), cdv = .ref ca ∧ K.lookup ca = some oc2 ∧ oc2.data = .fields vs ∧ vs[2]? = some (.str f tf) ∧ (file == f) = true := by
  unfold codeFB at h
  split at h
  · rename_i ca
    split at h
    · rename_i oc2 od2 vs sl2 hca
      split at h
      · rename_i f tf hv
        exact ⟨ca, _, vs, f, tf, rfl, hca, rfl, hv, h⟩
      · cases h
    · cases h
  · cases h
theorem xt_of {prog : Program} {K : Fg} {h : Heap} {mg : Str → Option Value} {x : XD} (X : K.In h) (G : h.Ns mainGlobals mg) (top : (prog.main.scope.names.lookup ("super" : Str)).isSome = false) (e : fnY K (x.fI K) = x.val) (c : x.ok prog.main.file K = true) :
    PySem.MbX.XT prog K mg x.cn (He.ga K x.cn) (x.fI K) (x.cc K) x.u x.as := by
  obtain ⟨c1, c⟩ := Bool.and_eq_true_iff.mp c
  obtain ⟨c2, c⟩ := Bool.and_eq_true_iff.mp c
  obtain ⟨c3, c⟩ := Bool.and_eq_true_iff.mp c
  obtain ⟨c4, c⟩ := Bool.and_eq_true_iff.mp c
  obtain ⟨c5, c⟩ := Bool.and_eq_true_iff.mp c
  obtain ⟨c6, c⟩ := Bool.and_eq_true_iff.mp c
  obtain ⟨c7, c⟩ := Bool.and_eq_true_iff.mp c
  obtain ⟨c8, c⟩ := Bool.and_eq_true_iff.mp c
  obtain ⟨c9, c⟩ := Bool.and_eq_true_iff.mp c
  obtain ⟨c10, c⟩ := Bool.and_eq_true_iff.mp c
  obtain ⟨c11, c⟩ := Bool.and_eq_true_iff.mp c
  obtain ⟨c12, c⟩ := Bool.and_eq_true_iff.mp c
  obtain ⟨c13, c⟩ := Bool.and_eq_true_iff.mp c
  obtain ⟨c14, c15⟩ := Bool.and_eq_true_iff.mp c
  refine ⟨PySem.W.mg_of X G (of_decide_eq_true c1), cls_of c2, of_decide_eq_true c3, fun a ha => of_decide_eq_true (List.all_eq_true.mp c4 a ha), of_decide_eq_true c5, of_decide_eq_true c6, c7, of_decide_eq_true c8, of_decide_eq_true c9, of_decide_eq_true c10, of_decide_eq_true c11, of_decide_eq_true c12, ?_, PySem.W.mg_none_of X G (of_decide_eq_true c14), top, ?_⟩
  · unfold cellB at c13
    split at c13
    · rename_i oc od D sl ho
      cases of_decide_eq_true c13
      exact ⟨_, ho, rfl⟩
    · cases c13
  · unfold fnB at c15
    unfold fnY at e
    have ecc : x.cc K = match K.lookup (x.fI K) with
      | some ⟨_, _, .func fd, _⟩ => (match fd.closure with
        | (_, c) :: _ => c
        | _ => 0)
      | _ => 0 := rfl
    generalize x.cc K = cc at ecc ⊢
    cases q : K.lookup (x.fI K) with
    | none => rw [q] at e; cases e
    | some o =>
      obtain ⟨oc, od, dt, osl⟩ := o
      rw [q] at e c15 ecc
      cases dt with
      | func fd =>
        obtain ⟨n1, n2, n3, n4, n5, n6, n7, n8, n9, n10, n11, n12, n13, n14, n15⟩ := fd
        have e2 : (some (n1, n2, n3, n4, n5, n6, n7.map (·.1), n15) : FnY) = (some (("__init__" : Str), x.cn ++ (".__init__" : Str), PySem.MbX.xA x.u x.as, FuncBody.stmts (PySem.MbX.xB x.u x.as), PySem.MbX.xS x.as, mainGlobals, [("__class__" : Str)], builtinsNs) : FnY) := e
        simp only [Option.some.injEq, Prod.mk.injEq] at e2
        obtain ⟨h1, h2, h3, h4, h5, h6, h7, h8⟩ := e2
        subst h1 h2 h3 h4 h5 h6 h8
        obtain ⟨d1, d2⟩ := Bool.and_eq_true_iff.mp (show (decide (n8 = .none) && (PySem.W.codeIn K n13 (x.cn ++ ".__init__") && codeFB prog.main.file K n13)) = true from c15)
        obtain ⟨d3, d4⟩ := Bool.and_eq_true_iff.mp d2
        cases of_decide_eq_true d1
        match n7, h7, ecc with
        | [(y, c0)], h7, ecc =>
          have hy : y = "__class__" := (List.cons.inj h7).1
          subst hy
          have ec : cc = c0 := ecc
          subst ec
          exact ⟨oc, od, x.cn ++ ".__init__", n9, n10, n11, n12, n13, n14, osl, rfl, d3, codeF_of d4⟩
      | _ => cases e
end MB

/-! The hook; a class's text read off the row; small helpers of the printed part. -/
namespace MB
open PySem PySem.Spec PyProof.Rows L2
abbrev AlM : Type := Bool × List He.FnW × List FnY
def obsM (file : Str) (chk : Fg → Bool) (fn : List He.DefD) (xs : List XD) (K : Fg) : AlM := (chk K && ((fn.all fun d => d.ok K) && xs.all fun x => x.ok file K), fn.map fun d => He.fnW K d.at_, xs.map fun x => fnY K (x.fI K))
def valM (fn : List He.DefD) (xs : List XD) : AlM := (true, fn.map He.DefD.val, xs.map XD.val)
def SaysM (file : Str) (chk : Fg → Bool) (fn : List He.DefD) (xs : List XD) (K : Fg) : Prop := obsM file chk fn xs K = valM fn xs
def asM (g : Addr → Option Obj) : Nat → List Addr
  | 0 => [mainGlobals, cStatics]
  | n + 1 => He.growD g (asM g n)
def obsMG (n : Nat) (file : Str) (chk : Fg → Bool) (fn : List He.DefD) (xs : List XD) (g : Addr → Option Obj) : AlM := obsM file chk fn xs (He.frG g (asM g n))
def hookM (n : Nat) (file : Str) (chk : Fg → Bool) (fn : List He.DefD) (xs : List XD) : PySem.W.Hook where
  α := AlM
  obs := fun s => obsMG n file chk fn xs s.heap.get?
  val := fun _ => valM fn xs
  says := fun _ h => ∃ K : PySem.W.Frag, K.In h ∧ SaysM file chk fn xs K
  of := fun _ _ e => ⟨_, He.frG_in, e⟩
  keeps := fun _ _ _ ⟨K, hK, c⟩ k => ⟨K, PySem.W.Frag.In.keeps hK k, c⟩
theorem obsMG_eq {n : Nat} {file : Str} {chk : Fg → Bool} {fn : List He.DefD} {xs : List XD} {g : Addr → Option Obj} {s : Shared} (h : ∀ a, g a = s.heap.get? a) : obsMG n file chk fn xs g = (hookM n file chk fn xs).obs s := by
  have e : g = s.heap.get? := funext h
  rw [e] <;> rfl
section
variable {file : Str} {ck : Fg → Bool} {fn : List He.DefD} {xs : List XD} {K : Fg}
theorem SaysM.chk (c : SaysM file ck fn xs K) : ck K = true := (Bool.and_eq_true_iff.mp (congrArg (fun z : AlM => z.1) c)).1
theorem SaysM.def_ (c : SaysM file ck fn xs K) (i : Nat) {d : He.DefD} (h : fn[i]? = some d) : ∃ fd, FunD K d.name d.qual d.params d.body d.scope (d.dvs K) (d.kws K) (He.fAd K d.at_) fd := by
  have c2 := (Bool.and_eq_true_iff.mp (Bool.and_eq_true_iff.mp (congrArg (fun z : AlM => z.1) c)).2).1
  have e : fn.map (fun d => He.fnW K d.at_) = fn.map He.DefD.val := congrArg (fun z : AlM => z.2.1) c
  have e2 : (fn.map fun d => He.fnW K d.at_)[i]? = (fn.map He.DefD.val)[i]? := by rw [e]
  rw [List.getElem?_map, List.getElem?_map, h] at e2
  exact He.DefD.funD (Option.some.inj e2) (List.all_eq_true.mp c2 d (List.mem_of_getElem? h))
theorem SaysM.cls (c : SaysM file ck fn xs K) (i : Nat) {x : XD} (h : xs[i]? = some x) : fnY K (x.fI K) = x.val ∧ x.ok file K = true := by
  have c2 := (Bool.and_eq_true_iff.mp (Bool.and_eq_true_iff.mp (congrArg (fun z : AlM => z.1) c)).2).2
  have e : xs.map (fun x => fnY K (x.fI K)) = xs.map XD.val := congrArg (fun z : AlM => z.2.2) c
  have e2 : (xs.map fun x => fnY K (x.fI K))[i]? = (xs.map XD.val)[i]? := by rw [e]
  rw [List.getElem?_map, List.getElem?_map, h] at e2
  exact ⟨Option.some.inj e2, List.all_eq_true.mp c2 x (List.mem_of_getElem? h)⟩
end
/-- the fields that an __init__ sets -/
def xaOf : List Arg → List Stmt → List PySem.MbX.XAs
  | a :: as, .Assign [.Attribute (.Name _ q1) n q2] (.Name _ q3) q4 :: r => ⟨n, a.pos, q1, q2, q3, q4⟩ :: xaOf as r
  | _, _ => []
def noSu : PySem.MbX.XSu := ⟨⟨0, 0, 0, 0⟩, "", 0, ⟨0, 0, 0, 0⟩, ⟨0, 0, 0, 0⟩, ⟨0, 0, 0, 0⟩, ⟨0, 0, 0, 0⟩, ⟨0, 0, 0, 0⟩, ⟨0, 0, 0, 0⟩⟩
def bodyOf : Stmt → List Stmt
  | .ClassDef (body := b) .. => b
  | _ => []
def nameOf : Stmt → Str
  | .ClassDef (name := n) .. => n
  | _ => ""
def xuOf : List Arg → List Stmt → PySem.MbX.XSu
  | a :: _, .Expr (.Call (.Attribute (.Call (.Name _ p0) [] [] p1) _ p2) [.Constant (.str t) j p3] [] p4) p5 :: _ => ⟨a.pos, t, j, p0, p1, p2, p3, p4, p5⟩
  | _, _ => noSu
def xdOf (st : Stmt) : XD := match bodyOf st with
  | f :: _ => ⟨nameOf st, xuOf (defArgs f).args (defBody f), xaOf (defArgs f).args.tail (defBody f).tail⟩
  | _ => ⟨"", noSu, []⟩
theorem df_stuck {P : Program} {w : World} {K : Fg} {mg : Str → Option Value} {base : Heap} {k n : Nat} {x : Str} {qual : Str} {params : Arguments} {body : List Stmt} {scope : Scope} {f : Addr} {fd : FuncData} {ps : List Str} (hg : mg x = some (.ref f)) (F : FunD K x qual params body scope [] [] f fd) (hbi : Binds K fd ps []) (hn : ps.length = n) :
    Df P w K mg base k x n (fun _ => .stuck) :=
  ⟨f, fd, ps, hg, F.kp, hbi, hn, ⟨fun vs H Q E h => h.1, fun A outer s H args us vs Q E hr e0 hb r h => by
    obtain ⟨_, O, ds, _, _, z⟩ := h
    exact z.elim⟩⟩
theorem dfE_ok {P : Program} {w : World} {K : Fg} {mg : Str → Option Value} {base : Heap} {x qual : Str} {params : Arguments} {body : List Stmt} {scope : Scope} {f : Addr} {fd : FuncData} {k : Nat} {N ps : List Str} {b : SX} (hg : mg x = some (.ref f)) (F : FunD K x qual params body scope [] [] f fd) (S : FnScope N ps scope) (h1 : ps.length = 1) (hbi : Binds K fd ps []) (hb : BodyE P w K mg base k N qual scope body b) : DfE P w K mg base (k + 1) x (runE b N.length) :=
  ⟨f, fd, ps, hg, F.kp, hbi, defE_ok F S h1 hb⟩
theorem DfE.mono {P : Program} {w : World} {K : Fg} {mg : Str → Option Value} {base : Heap} {j k : Nat} {x : Str} {m : Ex → Rt} (d : DfE P w K mg base j x m) (h : j ≤ k) : DfE P w K mg base k x m := by
  obtain ⟨f, fd, ps, h1, h2, h3, h4⟩ := d.ex
  exact ⟨f, fd, ps, h1, h2, h3, h4.mono h⟩
theorem hu_of {k : Nat} {A : Around} (r : L2H.RoomH k A) : A.units + 64 < cLine := by have := r.un; omega
theorem hxOk_cxH {P : Program} {w : World} {K : Fg} {mg : Str → Option Value} {base : Heap} {N : List Str} {qual : Str} {scope : Scope} {f : Addr} {cd : Value} {A : Around} {outer : List Env} {s : Shared} {H : Hp} {E : XK} {a : Addr} {oe : Obj} {cls : Value} {dd : Option Addr} (hot : L2H.Hot1 A (a, oe)) (hz : Zc cls dd oe) :
    HxOk (L2H.cxH (L2N.CX P w) P w K mg base N qual scope f cd A outer s H E (a, oe)) ⟨some (a, cls, dd), none⟩ := ⟨a, oe, cls, dd, rfl, List.mem_cons_self, ⟨hot.1, hot.2⟩, hz⟩
end MB

/-! A law's end over the layer by values. -/
namespace MB
open PySem PySem.Spec PyProof.Rows L2
/-- the law's def, its function m: at every script it answers True -/
theorem walk_mb {l : PySem.W.OpenLaw} {n k : Nat} {q : Program} {loose : List Str} {XP : (Str → Option Value) → Heap → Prop} {YP : World → Heap → Prop} {d : DefRec} {x : Str} {m : Fn}
    (hn : l.most = some n) (hn2 : n ≤ sizeLine) (hdf : d.params.defaults = []) (hr : Room k callerA)
    (F : ∀ (w : World) (mg : Str → Option Value) (fa : Addr) (h : Heap), YP w h → h.Ns mainGlobals mg → mg d.name = some (.ref fa) →
      ∃ (K : PySem.W.Frag) (fd : FuncData), K.In h ∧ (∀ (s : Shared) (u : Value), BindsTo s fd ⟨[u], []⟩ [(x, u)]) ∧ ∀ base : Heap, K.In base → base.Ns mainGlobals mg → FnV l.prog w K mg base k fa fd [x] m)
    (hm : ∀ ns : List Int, ns.length ≤ n → (∀ z ∈ ns, Builtin.Int.intBits z ≤ 1048576) → m [.scr ns] = .ok (.bl true)) :
    PySem.W.WalkO q loose XP YP l.row.toRowW d [] (fun f vs => PySem.call f vs) := by
  refine Att.attach_callB hn hdf fun w s₀ s₁ mg mb fa o pm cd doc a vs ns G Y ho hd hcd hmg hobj hints hlen hbits hg => ?_
  obtain ⟨K, fd, KX, hb, hF⟩ := F w mg fa _ Y G.T.g hmg
  refine law_call (sp := spV K 1 m) KX G.T.g G.T.b G.T.builtins G.T.nolimit hg hobj hints (Nat.le_trans hlen hn2) hr hF hb (fun H hO hS => ?_) fun H e s' hc => ?_
  · refine ⟨rfl, [], [.scr ns], (fun a ha => nomatch ha), .cons (.scr (by rw [wo_nil]; exact hS)) .nil, ?_⟩
    rw [hm ns hlen hbits]
    intro v H' _ dv
    cases dv
    rfl
  · obtain ⟨_, _, _, _, _, _, _, _, _, _, _, _, z⟩ := hc
    exact z
end MB

/-! Constructs that are never reached; raise C() of an own class without __init__. -/
namespace MB
open PySem PySem.Spec PyProof.Rows L2
def eStuck : EX := fun _ => .stuck
def sStuck : SX := fun _ => .stuck
section
variable {X : Cx} {hx : Hx} {W : WX}
theorem tX_stuck {K : Fg} {σ : MB.St} {H : Hp} {Q : VK} (h : tX K hx W eStuck σ H Q) : False := by
  obtain ⟨F, ρ, r, hp⟩ := h
  exact hp
theorem tS_stuck {K : Fg} {D : Ends} {σ : MB.St} {H : Hp} (h : tS K hx W sStuck D σ H) : False := by
  obtain ⟨F, ρ, r, hp⟩ := h
  exact hp
theorem r_stuck {e : Expr} : PE X e (tX X.K hx W eStuck) := ⟨fun pins s σ H Q I h => (tX_stuck h).elim⟩
theorem rt_stuck {e : Expr} : PT X e (tT X.K hx W eStuck) := ⟨fun pins s σ H Q I h => by
  obtain ⟨F, ρ, r, hp⟩ := h
  exact (show False from hp).elim⟩
theorem p_stuck {st : Stmt} : PS X st (tS X.K hx W sStuck) := ⟨fun pins s σ H D I h => (tS_stuck h).elim⟩
theorem ps_stuck {st : List Stmt} : PSs X st (tS X.K hx W sStuck) := ⟨fun pins s σ H D I h => (tS_stuck h).elim⟩
end
/-- an own class of exceptions without __init__, of ValueError -/
def bmVE : List Value := [.type "ValueError", .type "Exception", .type "BaseException", .type "object"]
def x0B (K : Fg) (C : Addr) : Bool := PySem.W.excIn K C bmVE "ValueError.__new__" && (PySem.W.keepIn K (.ref C) && (decide (PySem.W.subIn K (.ref C) (.type "BaseException") = some true) && decide (PySem.W.typeIn K (.ref C) = some (.type "type"))))
structure X0 (K : Fg) (mg : Str → Option Value) (cn : Str) : Prop where
  gC : mg cn = some (.ref (He.ga K cn))
  ok : x0B K (He.ga K cn) = true
def sRaise0 (c : Str) : SX := fun ρ => .err ⟨c, []⟩ ρ
section
variable {X : Cx} {hx : Hx} {W : WX} {cn : Str} {p pos pos2 : Pos}
theorem pmk_own0 {C : Addr} (gC : X.mg cn = some (.ref C)) (ok : x0B X.K C = true) (hg : Gl X cn) (hdb : (cn == ("__debug__" : Str)) = false) :
    L2N.PMk X (.Call (.Name cn p) [] [] pos) (fun _ H Q => Q (.ref C) none H) := by
  unfold x0B at ok
  simp only [Bool.and_eq_true, decide_eq_true_eq] at ok
  obtain ⟨q, kC, r1, r2⟩ := ok
  intro pins s σ H Q I h
  refine wpAny_Call_Name_kw (ld_glob I hg gC ?_ hdb)
  refine PySem.W.callWith_K0 I.kIn kC ?_
  obtain ⟨bm, N, nm, qn, bs, hdct, sn, sub, ab, col, dd, k0, k1, k2, k3, k5, mN, hC, hN, hni, T⟩ := exc_obj I.kIn q
  obtain ⟨hp, g, d, t, os⟩ := s
  refine wpAny_call_exc_subT F.excBase_ValueError T hC hN hni (fun h' e hm => ?_) (Nat.zero_le _)
  exact L2N.mk_of I hm (raises_own r1 r2) h (I.hok.gone hm.new)
theorem p_raise0 (hc : X.calm = true) (tk : L2N.Takes X W) (T : X0 X.K X.mg cn) (hg : Gl X cn := by rfl) (hdb : (cn == ("__debug__" : Str)) = false := by decide) :
    PS X (.Raise (some (.Call (.Name cn p) [] [] pos)) none pos2) (tS X.K hx W (sRaise0 cn)) :=
  (L2N.ps_raise hc tk (pmk_own0 T.gC T.ok hg hdb)).imp fun D σ H q => by
    obtain ⟨F, ρ, ⟨O, r⟩, hp⟩ := q
    exact hp _ _ σ H ⟨O, r, rfl, .inl ⟨rfl, rfl⟩⟩
end
end MB

/-! zip of two lists or of two tuples. -/
namespace MB
open PySem PySem.Spec PyProof.Rows L2
def zipD (xs ys : List D) : List D := (xs.zip ys).map fun p => .tup [p.1, p.2]
theorem zipD_get {xs ys : List D} {i : Nat} {d : D} (h : (zipD xs ys)[i]? = some d) : ∃ x y, xs[i]? = some x ∧ ys[i]? = some y ∧ d = .tup [x, y] := by
  unfold zipD at h
  rw [List.getElem?_map] at h
  cases e : (xs.zip ys)[i]? with
  | none => rw [e] at h; cases h
  | some p =>
    rw [e] at h
    rw [List.getElem?_zip_eq_some] at e
    cases h
    exact ⟨p.1, p.2, e.1, e.2, rfl⟩
theorem pair_new {K : Fg} {H : Hp} {T : Addr} {x y : V} {dx dy : D} {O : List Addr} (n : H T = none) (dom : ∀ a ∈ O, ∃ o, H a = some o) (h1 : DV K (wo O H) x dx) (h2 : DV K (wo O H) y dy) : Same H (upd H T (.tup [x, y])) ∧ DV K (wo O (upd H T (.tup [x, y]))) (.ref T) (.tup [dx, dy]) := by
  have s := same_upd (o := HO.tup [x, y]) n
  have nO : T ∉ O := fun m => by
    obtain ⟨o, e⟩ := dom T m
    rw [n] at e
    cases e
  refine ⟨s, .tup (vs := [x, y]) (.inl (.inl ?_)) (.cons (DV.mono (wo_mono s) _ _ h1) (.cons (DV.mono (wo_mono s) _ _ h2) .nil))⟩
  unfold wo
  rw [if_neg nO, upd_same]
theorem its_zipL {K : Fg} {T : Hp} {a b : Addr} {vs ws : List V} {ds es : List D} (s1 : T a = some (.lst vs)) (t1 : DVs K T vs ds) (s2 : T b = some (.lst ws)) (t2 : DVs K T ws es) : Its K T (Itz K a b) (zipD ds es) := fun i H st => by
  refine ⟨fun d hd => ?_, fun hi => ⟨vs, ws, .of (st _ _ s1), .of (st _ _ s2), ?_⟩⟩
  · obtain ⟨dx, dy, e1, e2, rfl⟩ := zipD_get hd
    obtain ⟨x, hx, vx⟩ := t1.get e1
    obtain ⟨y, hy, vy⟩ := t2.get e2
    refine ⟨⟨vs, ws, x, y, .of (st _ _ s1), .of (st _ _ s2), hx, hy⟩, fun v H' yl => ?_⟩
    obtain ⟨c, x', y', rfl, hn, rfl, h1, h2⟩ := yl
    have ex : x' = x := Option.some.inj ((h1 vs (.of (st _ _ s1))).symm.trans hx)
    have ey : y' = y := Option.some.inj ((h2 ws (.of (st _ _ s2))).symm.trans hy)
    subst ex ey
    exact ⟨same_upd hn, fun O dom so => (pair_new hn dom (DV.mono so _ _ vx) (DV.mono so _ _ vy)).2⟩
  · rw [t1.length, t2.length]
    unfold zipD at hi
    simp only [List.length_map, List.length_zip] at hi
    omega
theorem its_zipT {K : Fg} {T : Hp} {a b : Addr} {vs ws : List V} {ds es : List D} (s1 : SqT K T a vs) (t1 : DVs K T vs ds) (s2 : SqT K T b ws) (t2 : DVs K T ws es) : Its K T (RZ.ItzT K a b) (zipD ds es) := fun i H st => by
  refine ⟨fun d hd => ?_, fun hi => ⟨vs, ws, sqT_mono st s1, sqT_mono st s2, ?_⟩⟩
  · obtain ⟨dx, dy, e1, e2, rfl⟩ := zipD_get hd
    obtain ⟨x, hx, vx⟩ := t1.get e1
    obtain ⟨y, hy, vy⟩ := t2.get e2
    refine ⟨⟨vs, ws, x, y, sqT_mono st s1, sqT_mono st s2, hx, hy⟩, fun v H' yl => ?_⟩
    obtain ⟨c, x', y', rfl, hn, rfl, h1, h2⟩ := yl
    have ex : x' = x := Option.some.inj ((h1 vs (sqT_mono st s1)).symm.trans hx)
    have ey : y' = y := Option.some.inj ((h2 ws (sqT_mono st s2)).symm.trans hy)
    subst ex ey
    exact ⟨same_upd hn, fun O dom so => (pair_new hn dom (DV.mono so _ _ vx) (DV.mono so _ _ vy)).2⟩
  · rw [t1.length, t2.length]
    unfold zipD at hi
    simp only [List.length_map, List.length_zip] at hi
    omega
/-- zip(f, g) -/
def iZ (f g : EX) : IX := iB f fun d ρ1 => iB g (fun e ρ2 => match d, e with
  | .lst xs, .lst ys => .ok (zipD xs ys) ρ2
  | .tup xs, .tup ys => .ok (zipD xs ys) ρ2
  | _, _ => .stuck) ρ1
section
variable {K : Fg} {hx : Hx} {W : WX} {f g : EX}
theorem ri_zip : RI K hx W (iZ f g) (RZ.iZipA K (tCons (tX K hx W f) (tCons (tX K hx W g) tNil))) := by
  intro σ H R F ρ O r hp
  refine bindI (P := fun z => match z with
    | .ok ds ρ1 => ∀ (J : It) (H1 : Hp) (O1 : List Addr), RO K hx F ρ1 σ H1 O1 → Same (wo O H) (wo O1 H1) → Its K (wo O1 H1) J ds → R J H1
    | .err x ρ1 => ∀ cls dd H1, RX K hx F ρ1 σ H1 x cls dd → W cls dd σ H1
    | .stuck => False) r hp (fun x ρ1 h => h) (fun h => h) fun d ρ1 v H1 O1 r1 s1 dv q => ?_
  refine bindI (P := fun z => match z with
    | .ok ds ρ1 => ∀ (J : It) (H1 : Hp) (O1 : List Addr), RO K hx F ρ1 σ H1 O1 → Same (wo O H) (wo O1 H1) → Its K (wo O1 H1) J ds → R J H1
    | .err x ρ1 => ∀ cls dd H1, RX K hx F ρ1 σ H1 x cls dd → W cls dd σ H1
    | .stuck => False) r1 q (fun x ρ1 h => h) (fun h => h) fun e ρ2 u H2 O2 r2 s2 du q2 => ?_
  have dv2 := DV.mono s2 _ _ dv
  cases d <;> cases e <;> (try exact (q2 : False).elim)
  · obtain ⟨a, vs, rfl, p1, t1⟩ := dv2.tup_of
    obtain ⟨b, ws, rfl, p2, t2⟩ := du.tup_of
    exact ⟨a, b, vs, ws, rfl, .inr ⟨sqT_mono (wo_same O2 H2) p1, sqT_mono (wo_same O2 H2) p2, q2 _ H2 O2 r2 (s1.trans s2) (its_zipT p1 t1 p2 t2)⟩⟩
  · obtain ⟨a, vs, rfl, p1, t1⟩ := dv2.lst_of
    obtain ⟨b, ws, rfl, p2, t2⟩ := du.lst_of
    exact ⟨a, b, vs, ws, rfl, .inl ⟨.of (wo_same O2 H2 _ _ p1), .of (wo_same O2 H2 _ _ p2), q2 _ H2 O2 r2 (s1.trans s2) (its_zipL p1 t1 p2 t2)⟩⟩
end
end MB

/-! Dicts with text keys: a module's table; the hook with tables. -/
namespace MB
open PySem PySem.Spec PyProof.Rows L2
/-! ### a module's dict with text keys -/
def TBS (K : Fg) (w : World) (x : Str) (l : List (Str × D)) : Prop := (∃ es n, KDict K w (He.ga K x) es n) ∧ ∀ z, match l.lookup z with
  | some d => ∃ u v, PySem.W.nsIn K (He.ga K x) z = some (some u) ∧ RelV v u ∧ ∀ H, DV K H v d
  | none => PySem.W.nsIn K (He.ga K x) z = some none
def eTbS (l : List (Str × D)) (f : EX) : EX := fun ρ => (f ρ).bind fun d ρ1 => match d with
  | .str z => match l.lookup z with
    | some y => .ok y ρ1
    | none => .stuck
  | _ => .stuck
def eInS (l : List (Str × D)) (f : EX) : EX := fun ρ => (f ρ).bind fun d ρ1 => match d with
  | .str z => .ok (.bl (l.lookup z).isSome) ρ1
  | _ => .stuck
def eNinS (l : List (Str × D)) (f : EX) : EX := fun ρ => (f ρ).bind fun d ρ1 => match d with
  | .str z => .ok (.bl !(l.lookup z).isSome) ρ1
  | _ => .stuck
section
variable {X : Cx} {hx : Hx} {W : WX} {b : Expr} {fb : EX} {x : Str} {pos p : Pos} {l : List (Str × D)}
theorem r_tbS (T : TBS X.K X.w x l) (hm : X.mg x = some (.ref (He.ga X.K x))) (hb : PE X b (tX X.K hx W fb)) (hg : Gl X x := by rfl) (hd : (x == ("__debug__" : Str)) = false := by decide) (hs : PlainIx b := by first | (intro _ _; rfl) | exact fun _ _ => rfl) :
    PE X (.Subscript (.Name x p) b pos) (tX X.K hx W (eTbS l fb)) :=
  (pe_ix ix_kdict (pe_glob (v := .ref (He.ga X.K x)) hg hm rfl hd) hb hs).imp fun σ H Q h => by
    obtain ⟨F, ρ, ⟨O, r0⟩, hp⟩ := h
    show tX X.K hx W fb σ H _
    refine bindX r0 hp fun d ρ1 v H1 O1 r1 s1 dv hp1 => ?_
    cases d <;> (try exact hp1.elim)
    rename_i z
    cases dv
    obtain ⟨⟨es, n, kd⟩, T2⟩ := T
    have T3 := T2 z
    cases e : l.lookup z with
    | none => simp only [e] at hp1; exact hp1.elim
    | some y =>
      simp only [e] at hp1 T3
      obtain ⟨u, v, h1, h2, h3⟩ := T3
      exact ⟨_, z, v, rfl, rfl, ⟨es, n, u, kd.at_, kd.lit, h1, h2⟩, hp1 v H1 ⟨O1, r1, h3 _⟩⟩
theorem op2_inS {r : R2} (K : Fg) (w : World) (x : Str) (l : List (Str × D)) (T : TBS K w x l) (hr : ∀ z s H Q, PySem.W.nsIn K (He.ga K x) z = some s → Q (.bl s.isSome) H → r (.str z) (.ref (He.ga K x)) H Q) {F : Fm} {ρ : En} {σ : MB.St} {H : Hp} {Q : VK} {fb : EX} {O : List Addr} (r0 : RO K hx F ρ σ H O) (hp : Po K hx F W σ (eInS l fb ρ) Q) :
    tOp r (tX K hx W fb) (tC (.ref (He.ga K x))) σ H Q := by
  refine bindX r0 hp fun d ρ1 v H1 O1 r1 s1 dv hp1 => ?_
  cases d <;> (try exact hp1.elim)
  rename_i z
  cases dv
  have T3 := T.2 z
  cases e : l.lookup z with
  | none =>
    simp only [e] at hp1 T3
    exact hr z none H1 Q T3 (hp1 _ H1 ⟨O1, r1, .bl _⟩)
  | some y =>
    simp only [e] at hp1 T3
    obtain ⟨u, v, h1, h2, h3⟩ := T3
    exact hr z (some u) H1 Q h1 (hp1 _ H1 ⟨O1, r1, .bl _⟩)
theorem r_inS (T : TBS X.K X.w x l) (hm : X.mg x = some (.ref (He.ga X.K x))) (hb : PE X b (tX X.K hx W fb)) (hg : Gl X x := by rfl) (hd : (x == ("__debug__" : Str)) = false := by decide) (hmk : behindInMarks .In (.Name x p) = false := by rfl) :
    PE X (.Compare b [.In] [.Name x p] pos) (tX X.K hx W (eInS l fb)) := by
  obtain ⟨es, n, kd⟩ := T.1
  exact (pe_cmpR (op_in_kd kd) hb (pe_glob (v := .ref (He.ga X.K x)) hg hm rfl hd) hmk).imp fun σ H Q h => by
    obtain ⟨F, ρ, ⟨O, r0⟩, hp⟩ := h
    exact op2_inS (W := W) X.K X.w x l T (fun z s H Q h1 h2 => ⟨z, s, rfl, rfl, h1, h2⟩) r0 hp
theorem r_ninS (T : TBS X.K X.w x l) (hm : X.mg x = some (.ref (He.ga X.K x))) (hb : PE X b (tX X.K hx W fb)) (hg : Gl X x := by rfl) (hd : (x == ("__debug__" : Str)) = false := by decide) (hmk : behindInMarks .NotIn (.Name x p) = false := by rfl) :
    PE X (.Compare b [.NotIn] [.Name x p] pos) (tX X.K hx W (eNinS l fb)) := by
  obtain ⟨es, n, kd⟩ := T.1
  exact (pe_cmpR (op_notIn_kd kd) hb (pe_glob (v := .ref (He.ga X.K x)) hg hm rfl hd) hmk).imp fun σ H Q h => by
    obtain ⟨F, ρ, ⟨O, r0⟩, hp⟩ := h
    show tX X.K hx W fb σ H _
    refine bindX r0 hp fun d ρ1 v H1 O1 r1 s1 dv hp1 => ?_
    cases d <;> (try exact hp1.elim)
    rename_i z
    cases dv
    have T3 := T.2 z
    cases e : l.lookup z with
    | none =>
      simp only [e] at hp1 T3
      exact ⟨z, none, rfl, rfl, T3, hp1 _ H1 ⟨O1, r1, .bl _⟩⟩
    | some y =>
      simp only [e] at hp1 T3
      obtain ⟨u, v, h1, h2, h3⟩ := T3
      exact ⟨z, some u, rfl, rfl, h1, hp1 _ H1 ⟨O1, r1, .bl _⟩⟩
end
/-! ### facts of such a table -/
def tbsB (K : Fg) (x : Str) (l : List (Str × D)) : Bool := l.all fun p => match PySem.W.nsIn K (He.ga K x) p.1 with
  | some (some u) => dB K 12 u p.2
  | _ => false
theorem mem_lookS {d : D} {i : Str} : ∀ {l : List (Str × D)}, l.lookup i = some d → (i, d) ∈ l
  | [], e => by cases e
  | (j, x) :: l, e => by
    rw [List.lookup_cons] at e
    cases q : (i == j) with
    | true =>
      rw [q] at e
      cases e
      rw [eq_of_beq q]
      exact List.mem_cons_self
    | false =>
      rw [q] at e
      exact List.mem_cons_of_mem _ (mem_lookS e)
theorem lookS_none {i : Str} : ∀ {l : List (Str × D)}, l.lookup i = none → i ∉ l.map (·.1)
  | [], _ => by simp
  | (j, x) :: l, e => by
    rw [List.lookup_cons] at e
    cases q : (i == j) with
    | true => rw [q] at e; cases e
    | false =>
      rw [q] at e
      intro h
      rcases List.mem_cons.mp h with h | h
      · have h' : i = j := h
        rw [h'] at q
        simp at q
      · exact lookS_none e h
/-- a text that is no key -/
theorem ns_none {P : Params} {z : Str} : ∀ {es : List DictEntry} {ks : List Str}, es.map He.keyOf = He.keysIn P ks → z ∉ ks → es.find? (·.key.isStr z) = none ∧ es.any (·.refKey) = false
  | [], _, _, _ => ⟨rfl, rfl⟩
  | e :: r, [], h, _ => by cases h
  | e :: r, k :: ks, h, hz => by
    have h1 : He.keyOf e :: r.map He.keyOf = some (k, PyData.keyHash P k) :: He.keysIn P ks := h
    injection h1 with h2 h3
    obtain ⟨i1, i2⟩ := ns_none h3 (fun m => hz (List.mem_cons_of_mem _ m))
    unfold He.keyOf at h2
    split at h2
    · rename_i x t q
      have h4 := Option.some.inj h2
      obtain ⟨h5, h6⟩ := Prod.mk.inj h4
      subst h5
      have hn : (e.key.isStr z) = false := by
        rw [q]
        show (_ : Bool) = false
        refine Bool.eq_false_iff.mpr fun y => hz ?_
        have : x = z := by
          first
          | exact (beq_iff_eq.mp y)
          | exact (beq_iff_eq.mp y).symm
          | exact of_decide_eq_true y
          | exact (of_decide_eq_true y).symm
        rw [← this]
        exact List.mem_cons_self
      refine ⟨by rw [List.find?_cons, hn]; exact i1, ?_⟩
      rw [List.any_cons, i2, Bool.or_false]
      unfold DictEntry.refKey
      rw [q]
    · cases h2
theorem tbs_ok {K : Fg} {w : World} {x : Str} {l : List (Str × D)} (h1 : He.dicW K (He.ga K x) = some (He.keysIn w.params (l.map (·.1)))) (h2 : tbsB K x l = true) : TBS K w x l := by
  obtain ⟨es, n, kd⟩ := He.dicW_ok h1
  have hk : es.toList.map He.keyOf = He.keysIn w.params (l.map (·.1)) := by
    unfold He.dicW at h1
    rw [kd.at_] at h1
    have h3 : (match decide (("dict" : String) = "dict") && ((#[] : Array (Option Value)).isEmpty && !(He.ga K x == sysModules)) with
      | true => some (es.toList.map He.keyOf)
      | false => none) = some (He.keysIn w.params (l.map (·.1))) := h1
    split at h3
    · exact Option.some.inj h3
    · cases h3
  refine ⟨⟨es, n, kd⟩, fun z => ?_⟩
  cases e : l.lookup z with
  | none =>
    show PySem.W.nsIn K (He.ga K x) z = some none
    obtain ⟨a, b⟩ := ns_none hk (lookS_none e)
    unfold PySem.W.nsIn
    rw [kd.at_]
    simp only [a, b]
    rfl
  | some d =>
    show ∃ u v, PySem.W.nsIn K (He.ga K x) z = some (some u) ∧ RelV v u ∧ ∀ H, DV K H v d
    have h3 := List.all_eq_true.mp h2 _ (mem_lookS e)
    cases q : PySem.W.nsIn K (He.ga K x) z with
    | none => simp only [q] at h3; cases h3
    | some o =>
      cases o with
      | none => simp only [q] at h3; cases h3
      | some u =>
        simp only [q] at h3
        obtain ⟨r, dv⟩ := dB_ok _ _ _ h3
        exact ⟨u, vOf u, rfl, r, dv⟩
/-! ### the hook with such tables -/
abbrev AlN : Type := AlM × List (Option (List (Option (Str × Int))))
abbrev Tbs : Type := List (Str × List Str)
def obsN (file : Str) (chk : Fg → Bool) (fn : List He.DefD) (xs : List XD) (ts : Tbs) (K : Fg) : AlN := (obsM file chk fn xs K, ts.map fun t => He.dicW K (He.ga K t.1))
def valN (fn : List He.DefD) (xs : List XD) (ts : Tbs) (w : World) : AlN := (valM fn xs, ts.map fun t => some (He.keysIn w.params t.2))
def SaysN (file : Str) (chk : Fg → Bool) (fn : List He.DefD) (xs : List XD) (ts : Tbs) (w : World) (K : Fg) : Prop := obsN file chk fn xs ts K = valN fn xs ts w
def obsNG (n : Nat) (file : Str) (chk : Fg → Bool) (fn : List He.DefD) (xs : List XD) (ts : Tbs) (g : Addr → Option Obj) : AlN := obsN file chk fn xs ts (He.frG g (asM g n))
def hookN (n : Nat) (file : Str) (chk : Fg → Bool) (fn : List He.DefD) (xs : List XD) (ts : Tbs) : PySem.W.Hook where
  α := AlN
  obs := fun s => obsNG n file chk fn xs ts s.heap.get?
  val := fun w => valN fn xs ts w
  says := fun w h => ∃ K : PySem.W.Frag, K.In h ∧ SaysN file chk fn xs ts w K
  of := fun _ _ e => ⟨_, He.frG_in, e⟩
  keeps := fun _ _ _ ⟨K, hK, c⟩ k => ⟨K, PySem.W.Frag.In.keeps hK k, c⟩
theorem obsNG_eq {n : Nat} {file : Str} {chk : Fg → Bool} {fn : List He.DefD} {xs : List XD} {ts : Tbs} {g : Addr → Option Obj} {s : Shared} (h : ∀ a, g a = s.heap.get? a) : obsNG n file chk fn xs ts g = (hookN n file chk fn xs ts).obs s := by
  have e : g = s.heap.get? := funext h
  rw [e] <;> rfl
section
variable {file : Str} {ck : Fg → Bool} {fn : List He.DefD} {xs : List XD} {ts : Tbs} {w : World} {K : Fg}
theorem SaysN.m (c : SaysN file ck fn xs ts w K) : SaysM file ck fn xs K := congrArg (fun z : AlN => z.1) c
theorem SaysN.tab (c : SaysN file ck fn xs ts w K) (i : Nat) {t : Str × List Str} (h : ts[i]? = some t) : He.dicW K (He.ga K t.1) = some (He.keysIn w.params t.2) := by
  have e : ts.map (fun t => He.dicW K (He.ga K t.1)) = ts.map fun t => some (He.keysIn w.params t.2) := congrArg (fun z : AlN => z.2) c
  have e2 : (ts.map fun t => He.dicW K (He.ga K t.1))[i]? = (ts.map fun t => some (He.keysIn w.params t.2))[i]? := by rw [e]
  rw [List.getElem?_map, List.getElem?_map, h] at e2
  exact Option.some.inj e2
end
end MB

/-! isinstance(e, (C, ..)) of the handled exception; a written dict with text keys as data; str(int). -/
namespace MB
open PySem PySem.Spec PyProof.Rows L2
/-! ### isinstance(e, (C1, C2, ..)) -/
def rIsXT (K : Fg) (C a : Addr) (dd : Option Addr) : List V → Hp → VK → Prop := fun xs H Q => ∃ (tp : Addr) (cs : List V) (us : List Value) (b : Bool), xs = [.ref a, .ref tp] ∧ H tp = some (.tup cs) ∧ Paired ClsV cs us ∧ PySem.W.kitAny K (.ref C) us = some b ∧ dictOk H dd ∧ Q (.bl b) H
theorem call_isXT {X : Cx} {a C : Addr} {oe : Obj} {dd : Option Addr} (T : ExcC X.K C) (hm : (a, oe) ∈ X.pn) (hz : Zc (.ref C) dd oe) (hf : ∃ vs, oe.data = .fields vs) : CallR X (.builtin "isinstance") (rIsXT X.K C a dd) := by
  intro pins s σ H xs us Q I r h
  obtain ⟨tp, cs, ws, b, rfl, hT, k, e, hd, q⟩ := h
  obtain ⟨u1, u2, rfl, r1, r2⟩ : ∃ u1 u2, us = [u1, u2] ∧ RelV (.ref a) u1 ∧ RelV (.ref tp) u2 := by
    cases r with
    | cons rx rr =>
      cases rr with
      | cons rt rr =>
        cases rr
        exact ⟨_, _, rfl, rx, rt⟩
  cases (show u2 = Value.ref tp from r2)
  cases (show u1 = Value.ref a from r1)
  obtain ⟨hget, _⟩ := I.pin (a, oe) (List.mem_append.mpr (.inl hm))
  obtain ⟨vs, hv⟩ := hf
  have J : ∃ od, PySem.W.InstAt s.heap a oe C od := by
    rcases hd with rfl | ⟨d, ws, rfl, hd⟩
    · exact ⟨none, hget, hz.1, by unfold PySem.W.notCls; rw [hv] <;> rfl, by rw [hz.2]; exact trivial⟩
    · obtain ⟨mA, hns, hr⟩ := (show ObjOk X.prog X.w H s.heap d (.xd ws) from I.hok d _ hd)
      obtain ⟨od, ho, hl⟩ := lookIn_ns hns
      exact ⟨some od, hget, hz.1, by unfold PySem.W.notCls; rw [hv] <;> rfl, by rw [hz.2]; exact ho⟩
  obtain ⟨od, J⟩ := J
  obtain ⟨_, its, rv, o, h1, h2, n, h3⟩ := (show ObjOk X.prog X.w H s.heap tp (.tup cs) from I.hok tp _ hT)
  have e3 := ClsV.all k rv
  subst e3
  obtain ⟨oc, od', dt, sl⟩ := o
  simp only at h2 h3
  subst h2 h3
  exact PySem.W.kia_tup (PySem.W.mb_kitx T) I.kIn J h1 e (fun z => nomatch z) fun tk => ⟨.bl b, H, I.tok tk, rfl, q⟩
def ISFT (K : Fg) (t : Str → Option Bool) (us : List Value) : Prop := ∀ c b, t c = some b → ExcC K (He.ga K c) ∧ PySem.W.kitAny K (.ref (He.ga K c)) us = some b
section
variable {X : Cx} {hx : Hx} {W : WX} {pos p q tpos : Pos} {i k : Nat} {x : Str} {es : List Expr}
theorem r_isET {t : Str → Option Bool} {us : List Value} {cs : List V} {ta : TA} (ho : HxOk X hx) (hT : ISFT X.K t us) (hcs : Paired ClsV cs us) (hlen : cs.length ≤ sizeLine) (ha : PA X es ta) (hta : ∀ (σ : MB.St) (H : Hp) (Q : List V → Hp → Prop), Q cs H → ta σ H Q) (hm : X.mg "isinstance" = none) (hN : X.N[i]? = some x := by rfl)
    (hv : Vis X.env.scope x := by first | exact Or.inl rfl | exact Or.inr (Or.inl rfl) | exact Or.inr (Or.inr rfl)) (hg : Gl X "isinstance" := by rfl)
    (hd : (x == ("__debug__" : Str)) = false := by decide) (hcd : (x == ("__classdict__" : Str)) = false := by decide) (he0 : starEach [Expr.Tuple es k tpos] X.env = (false, eval (Expr.Tuple es k tpos) X.env) :: starEach [] X.env := by rfl)
    (he : starEach (.Name x q :: [Expr.Tuple es k tpos]) X.env = (false, eval (.Name x q) X.env) :: starEach [Expr.Tuple es k tpos] X.env := by rfl) (hpl : (backTo pos (starEach [Expr.Tuple es k tpos] X.env)).any (·.1) = false := by rfl) :
    PE X (.Call (.Name "isinstance" p) [.Name x q, .Tuple es k tpos] [] pos) (tX X.K hx W (eIsE i t)) := by
  obtain ⟨a, oe, cls, dd, hxe, hmem, hot, hz⟩ := ho
  refine ⟨fun pins s σ H Q I h => ?_⟩
  obtain ⟨F, ρ, ⟨O, r0⟩, hp⟩ := h
  unfold eIsE at hp
  cases e : ρ[i]? with
  | none => rw [e] at hp; exact hp.elim
  | some o =>
    cases o with
    | none => rw [e] at hp; exact hp.elim
    | some sl =>
      rw [e] at hp
      cases sl with
      | val d => exact hp.elim
      | own ds => exact hp.elim
      | io ds => exact hp.elim
      | exc y =>
        have hp' : Po X.K hx F W σ (match t y.c with
          | some b => Rs.ok (.bl b) ρ
          | none => .stuck) Q := hp
        cases e2 : t y.c with
        | none => rw [e2] at hp'; exact hp'.elim
        | some b =>
          rw [e2] at hp'
          obtain ⟨v, ev, a', cls', dd', rfl, e3, ex⟩ := r0.sl i _ e
          rw [hxe] at e3
          cases e3
          obtain ⟨hE, hk⟩ := hT _ _ e2
          have ec := ex.1
          subst ec
          have hcall := call_isXT (X := X) hE hmem hz (by obtain ⟨_, vs, e1, _⟩ := hot; exact ⟨vs, e1⟩)
          refine (pe_callB hcall hg hm (by decide +kernel) (pa_cons (pe_var hN hv hd hcd) (pa_cons (pe_tup ha) pa_nil he0) he) (by decide) (by decide) he hpl).run pins s σ H Q I ?_
          refine ⟨_, ev, hta σ H _ ?_⟩
          classical
          have fin : ∀ T H2, H2 T = some (.tup cs) → Same H H2 → rIsXT X.K (He.ga X.K y.c) a dd [.ref a, .ref T] H2 Q := fun T H2 h2 s2 =>
            ⟨T, cs, us, b, rfl, h2, hcs, hk, ex.dict ((wo_same O H).trans s2), hp' _ H2 ⟨O, r0.grow s2, .bl b⟩⟩
          exact ⟨hlen, fun T hT => fin T _ upd_same (same_upd hT)⟩
end
def isXT (l : List (Str × List Str)) (Cs : List Str) : Str → Option Bool := fun c => (l.lookup c).map fun bs => Cs.any (bs.contains ·)
def clsVs (K : Fg) (Cs : List Str) : List Value := Cs.map fun C => .ref (He.ga K C)
def clsV (K : Fg) (Cs : List Str) : List V := Cs.map fun C => .ref (He.ga K C)
def isTB (K : Fg) (l : List (Str × List Str)) (Cs : List Str) : Bool := l.all fun p => decide (PySem.W.kitAny K (.ref (He.ga K p.1)) (clsVs K Cs) = some (Cs.any (p.2.contains ·)))
theorem clsV_pair (K : Fg) : ∀ Cs : List Str, Paired ClsV (clsV K Cs) (clsVs K Cs)
  | [] => .nil
  | C :: Cs => .cons (.own _) (clsV_pair K Cs)
theorem ist_ok {K : Fg} {l : List (Str × List Str)} {Cs : List Str} (h1 : (l.all fun p => excCB K (He.ga K p.1)) = true) (h2 : isTB K l Cs = true) : ISFT K (isXT l Cs) (clsVs K Cs) := by
  intro c b e
  unfold isXT at e
  cases q : l.lookup c with
  | none => rw [q] at e; cases e
  | some bs =>
    rw [q] at e
    cases e
    have hm : (c, bs) ∈ l := by
      clear h1 h2
      induction l with
      | nil => cases q
      | cons p r ih =>
        obtain ⟨x, y⟩ := p
        rw [List.lookup_cons] at q
        cases z : (c == x) with
        | true =>
          rw [z] at q
          cases q
          rw [eq_of_beq z]
          exact List.mem_cons_self
        | false =>
          rw [z] at q
          exact List.mem_cons_of_mem _ (ih q)
    exact ⟨excC_ok (List.all_eq_true.mp h1 _ hm), of_decide_eq_true (List.all_eq_true.mp h2 _ hm)⟩
/-! ### str(int) -/
def strD : List D → Option D
  | [.int i] => if i.natAbs.log2 < 1920 then some (.str (toString i)) else none
  | _ => none
theorem s_str {K : Fg} : CallD K (fun xs H Q => ∃ i, xs = [.int i] ∧ i.natAbs.log2 < 1920 ∧ Q (.str (toString i)) H) strD := by
  intro O H vs ds res Q hd dv e q
  match ds, dv, e with
  | [.int i], .cons (.int _) .nil, e =>
    have e' : (if i.natAbs.log2 < 1920 then some (D.str (toString i)) else none) = some res := e
    split at e'
    · rename_i h
      cases e'
      exact ⟨i, rfl, h, q _ H (Same.refl H) (.str _)⟩
    · cases e'
/-! ### a written dict of text keys and ints -/
def dInts (kvs : List (Str × Int)) : D := .dct (kvs.map fun p => .inr p.1) (kvs.map fun p => .int p.2)
theorem tPairs_const {σ : MB.St} {H : Hp} : ∀ {kvs : List (Str × Int)} {Q : List (V × V) → Hp → Prop}, Q (kvs.map fun p => (V.str p.1, V.int p.2)) H → tPairs (kvs.map fun p => (tC (.str p.1), tC (.int p.2))) σ H Q
  | [], Q, h => h
  | p :: r, Q, h => tPairs_const (kvs := r) (Q := fun ps H3 => Q ((V.str p.1, V.int p.2) :: ps) H3) h
section
variable {X : Cx} {hx : Hx} {W : WX} {pos : Pos}
theorem zip_map2 {α β γ : Type} (f : α → β) (g : α → γ) : ∀ l : List α, (l.map f).zip (l.map g) = l.map fun a => (f a, g a)
  | [] => rfl
  | a :: l => by simp [zip_map2 f g l]
theorem r_dct {keys : List (Option Expr)} {values : List Expr} {kvs : List (Str × Int)} (h : PPs X pos keys values (kvs.map fun p => (tC (.str p.1), tC (.int p.2)))) (hm : mergeK [] (kvs.map fun p => ((.inr p.1 : L2.Key), V.int p.2)) = kvs.map fun p => ((.inr p.1 : L2.Key), V.int p.2)) (h15 : kvs.length ≤ 15)
    (hall : keys.all (·.isSome) = true := by rfl) (hl : keys.length = values.length := by rfl) (h0 : keys ≠ [] := by intro h; cases h) (hk15 : keys.length ≤ 15 := by decide) : PE X (.Dict keys values pos) (tX X.K hx W (eC (dInts kvs))) :=
  (pe_disp h hall hl h0 hk15).imp fun σ H Q h => by
    obtain ⟨F, ρ, ⟨O, r⟩, hp⟩ := h
    intro p np
    refine tPairs_const ⟨upd_same, kvs.map fun p => ((.inr p.1 : L2.Key), V.int p.2), by rw [List.map_map]; rfl, by simpa using h15, ?_⟩
    rw [hm, upd_upd]
    have s := same_upd (o := HO.dK (kvs.map fun p => ((.inr p.1 : L2.Key), V.int p.2))) np
    refine hp _ _ ⟨O, r.grow s, .dct (vs := kvs.map fun p => V.int p.2) ?_ (by simp) ?_⟩
    · unfold wo
      rw [if_neg (r.out np), upd_same, zip_map2]
    · have : ∀ l : List (Str × Int), DVs X.K (wo O (L2.upd H p (.dK (kvs.map fun p => ((.inr p.1 : L2.Key), V.int p.2))))) (l.map fun p => V.int p.2) (l.map fun p => D.int p.2) := by
        intro l
        induction l with
        | nil => exact .nil
        | cons a l ih => exact .cons (.int _) ih
      exact this kvs
def lookK : List L2.Key → List D → L2.Key → Option D
  | k :: ks, d :: ds, z => if k = z then some d else lookK ks ds z
  | _, _, _ => none
theorem lookK_ok {K : Fg} {H : Hp} {z : L2.Key} {d : D} : ∀ {ks : List L2.Key} {vs : List V} {ds : List D}, DVs K H vs ds → lookK ks ds z = some d → ∃ v, valV (ks.zip vs) z = some v ∧ DV K H v d
  | [], _, _, .nil, e => by cases e
  | [], _, _, .cons _ _, e => by cases e
  | k :: ks, _, _, .nil, e => by cases e
  | k :: ks, v :: vs, _, .cons a t, e => by
    unfold lookK at e
    rw [List.zip_cons_cons]
    by_cases h : k = z
    · rw [if_pos h] at e
      cases e
      exact ⟨v, valV_pos (p := (k, v)) h, a⟩
    · rw [if_neg h] at e
      obtain ⟨w, h1, h2⟩ := lookK_ok t e
      exact ⟨w, by rw [valV_neg (p := (k, v)) h]; exact h1, h2⟩
def keyD : D → Option L2.Key
  | .int i => some (.inl i)
  | .str x => some (.inr x)
  | _ => none
def eIxK (fa fb : EX) : EX := fun ρ => (fa ρ).bind fun d ρ1 => (fb ρ1).bind fun e ρ2 => match d, keyD e with
  | .dct ks ds, some k => match lookK ks ds k with
    | some z => .ok z ρ2
    | none => .stuck
  | _, _ => .stuck
theorem r_ixK {a b : Expr} {fa fb : EX} (hu : X.A.units + 64 < cLine) (ha : PE X a (tX X.K hx W fa)) (hb : PE X b (tX X.K hx W fb)) (hs : NoSl b := by first | (intro _ _; rfl) | exact fun _ _ => rfl) : PE X (.Subscript a b pos) (tX X.K hx W (eIxK fa fb)) :=
  (pe_dget (by omega) ha hb hs).imp fun σ H Q h => by
    obtain ⟨F, ρ, ⟨O, r0⟩, hp⟩ := h
    show tX X.K hx W fa σ H _
    refine bindX r0 hp fun d ρ1 v H1 O1 r1 s1 dv hp1 => ?_
    refine bindX r1 hp1 fun e ρ2 u H2 O2 r2 s2 du hp2 => ?_
    have dv2 := DV.mono s2 _ _ dv
    cases d <;> (try exact hp2.elim)
    rename_i ks ds
    cases dv2 with
    | dct h1 h2 h3 =>
      rename_i a vs
      cases q : keyD e with
      | none => simp only [q] at hp2; exact hp2.elim
      | some k =>
        simp only [q] at hp2
        cases q2 : lookK ks ds k with
        | none => simp only [q2] at hp2; exact hp2.elim
        | some z =>
          simp only [q2] at hp2
          obtain ⟨w, g1, g2⟩ := lookK_ok h3 q2
          have hk : u = kV k := by
            cases e <;> (try (cases q; done))
            · cases du; cases q; rfl
            · cases du; cases q; rfl
          refine ⟨a, w, rfl, ?_, hp2 w H2 ⟨O2, r2, g2⟩⟩
          rw [hk, ← g1]
          exact DGet.k (wo_same O2 H2 _ _ h1)
end
end MB

/-! x is True, x is None; x in a list of data of any depth. -/
namespace MB
open PySem PySem.Spec PyProof.Rows L2
def okV : V → Bool
  | .non => true | .bl _ => true | .int _ => true | .str _ => true | .ref _ => true | _ => false
def rIsM : R2 := fun x y H Q => (y = .non ∧ Q (.bl (decide (x = .non))) H) ∨ ∃ b, okV x = true ∧ y = .bl b ∧ Q (.bl (decide (x = .bl b))) H
theorem op_isB {X : Cx} : OpR X (compareOp .Is) (fun x y H Q => ∃ b, okV x = true ∧ y = .bl b ∧ Q (.bl (decide (x = .bl b))) H) := by
  intro pins s σ H x y v u Q I rx ry h
  obtain ⟨b, hok, rfl, q⟩ := h
  cases ry
  cases x <;> (try (cases hok; done))
  · cases rx
    exact wpAny_pure (fin_bl I q rfl)
  · cases rx
    exact wpAny_pure (fin_bl I q (by rename_i a; cases a <;> cases b <;> rfl))
  all_goals first
    | (cases rx; exact wpAny_pure (fin_bl I q rfl))
    | (obtain ⟨t, rfl⟩ := rx; exact wpAny_pure (fin_bl I q rfl))
    | (cases rx; exact wpAny_pure (fin_bl I q (by rename_i a; cases a <;> cases b <;> rfl)))
theorem o_isM {X : Cx} : OpR X (compareOp .Is) rIsM := op_isN.or op_isB
def isBlD (b : Bool) : D → Bool
  | .bl a => a == b
  | _ => false
def isM : D → D → Option D
  | d, .non => some (.bl (isNo d))
  | d, .bl b => some (.bl (isBlD b d))
  | _, _ => none
theorem isBlD_of {K : Fg} {H : Hp} {v : V} {d : D} {b : Bool} (h : DV K H v d) : decide (v = V.bl b) = isBlD b d := by
  cases d <;> cases h <;> first | rfl | (rename_i a; cases a <;> cases b <;> rfl)
theorem okV_of {K : Fg} {H : Hp} {v : V} {d : D} (h : DV K H v d) : okV v = true := by
  cases d <;> cases h <;> rfl
theorem s_isM {K : Fg} : Op2 K rIsM isM := by
  intro O H x y d e res Q hd hx hy h q
  cases e <;> (try (cases d <;> cases h; done))
  · cases hy
    have h' : some (D.bl (isNo d)) = some res := by cases d <;> exact h
    cases h'
    exact .inl ⟨rfl, by rw [isNo_of hx]; exact q _ H (Same.refl H) (.bl _)⟩
  · cases hy
    rename_i b
    have h' : some (D.bl (isBlD b d)) = some res := by cases d <;> exact h
    cases h'
    exact .inr ⟨b, okV_of hx, rfl, by rw [isBlD_of hx]; exact q _ H (Same.refl H) (.bl _)⟩
theorem b_isM : ∀ d e z, isM d e = some z → ∃ b, z = .bl b := fun d e z h => by
  cases e <;> (try (cases d <;> cases h; done))
  · cases d <;> cases h <;> exact ⟨_, rfl⟩
  · cases d <;> cases h <;> exact ⟨_, rfl⟩
/-! ### in, at any depth -/
def inDeep (d : D) (xs : List D) : Option Bool := match toPy d, toPys xs with
  | some a, some ps => if (SeqAt.shaped a && SeqAt.shaped (.list ps)) = true then some (ps.any fun z => PyData.eqv z a) else none
  | _, _ => none
def inM : D → D → Option D
  | d, .tup xs => (inB d xs).map .bl
  | d, .lst xs => match inB d xs with
    | some b => some (.bl b)
    | none => (inDeep d xs).map .bl
  | _, _ => none
def rInM (K : Fg) : R2 := fun x y H Q => rIn K false x y H Q ∨ (∃ d ds, Dp K H x d ∧ Dp K H y (.list ds) ∧ SeqAt.shaped d = true ∧ SeqAt.shaped (.list ds) = true ∧ Q (.bl (ds.any fun z => PyData.eqv z d)) H)
theorem o_inM {X : Cx} (hu : X.A.units + 65 < cLine) : OpR X (compareOp .In) (rInM X.K) := op_in_seq.or (op_inD hu)
theorem Dp.mono_wo {K : Fg} {H : Hp} {O : List Addr} {v : V} {d : D} {p : PyData} (h : DV K (wo O H) v d) (e : toPy d = some p) : Dp K H v p := dp_of d v p (DV.mono (wo_same O H) _ _ h) e
theorem s_inM {K : Fg} : Op2 K (rInM K) inM := by
  intro O H x y d e res Q hd hx hy h q
  cases e <;> (try (cases d <;> cases h; done))
  · rename_i xs
    exact .inl (s_in O H x y d (.tup xs) res Q hd hx hy (by cases d <;> exact h) q)
  · rename_i xs
    have h' : (match inB d xs with
      | some b => some (.bl b)
      | none => (inDeep d xs).map .bl) = some res := by cases d <;> exact h
    cases e1 : inB d xs with
    | some b =>
      rw [e1] at h'
      refine .inl (s_in O H x y d (.lst xs) res Q hd hx hy ?_ q)
      have : (inB d xs).map D.bl = some res := by rw [e1]; exact h'
      cases d <;> exact this
    | none =>
      rw [e1] at h'
      obtain ⟨b, hb, rfl⟩ := Option.map_eq_some_iff.mp (show (inDeep d xs).map D.bl = some res from h')
      unfold inDeep at hb
      cases e2 : toPy d with
      | none => simp only [e2] at hb; cases hb
      | some a =>
        cases e3 : toPys xs with
        | none => simp only [e2, e3] at hb; cases hb
        | some ps =>
          simp only [e2, e3] at hb
          split at hb
          · rename_i hs
            obtain ⟨s1, s2⟩ := Bool.and_eq_true_iff.mp hs
            cases hb
            refine .inr ⟨a, ps, Dp.mono_wo hx e2, Dp.mono_wo hy ?_, s1, s2, q _ H (Same.refl H) (.bl _)⟩
            rw [toPy, e3]
            rfl
          · cases hb
theorem b_inM : ∀ d e z, inM d e = some z → ∃ b, z = .bl b := fun d e z h => by
  cases e <;> (try (cases d <;> cases h; done))
  · rename_i xs
    have h' : (inB d xs).map D.bl = some z := by cases d <;> exact h
    obtain ⟨b, _, rfl⟩ := Option.map_eq_some_iff.mp h'
    exact ⟨b, rfl⟩
  · rename_i xs
    have h' : (match inB d xs with
      | some b => some (.bl b)
      | none => (inDeep d xs).map .bl) = some z := by cases d <;> exact h
    cases e1 : inB d xs with
    | some b => rw [e1] at h'; cases h'; exact ⟨b, rfl⟩
    | none =>
      rw [e1] at h'
      obtain ⟨b, _, rfl⟩ := Option.map_eq_some_iff.mp (show (inDeep d xs).map D.bl = some z from h')
      exact ⟨b, rfl⟩
end MB

/-! x in TABLE as a test; room. -/
namespace MB
open PySem PySem.Spec PyProof.Rows L2
theorem hu65 {k : Nat} {A : Around} (r : Room k A) : A.units + 65 < cLine := by have := r.un; omega
theorem huH65 {k : Nat} {A : Around} (r : L2H.RoomH k A) : A.units + 65 < cLine := by have := r.un; omega
def powOk (i j : Int) : Bool := decide (0 ≤ j ∧ j ≤ 1000000 ∧ i.natAbs < 2 ^ 64) || decide (0 ≤ j ∧ (Builtin.Int.intBits i : Int) * j ≤ 2 ^ 27)
def powM : D → D → Option D
  | .int i, .int j => if powOk i j = true then some (.int (i ^ j.toNat)) else none
  | _, _ => none
theorem o_powM {X : Cx} : OpR X (binaryOp .Pow) (rI (fun i j => powOk i j = true) fun i j => .int (i ^ j.toNat)) := opI fun _ _ _ _ _ _ _ hc q => by
  unfold powOk at hc
  rcases Bool.or_eq_true_iff.mp hc with h | h
  · have h' := of_decide_eq_true h
    exact pow_int_small h'.1 h'.2.1 h'.2.2 q
  · have h' := of_decide_eq_true h
    exact pow_int h'.1 h'.2 q
theorem s_powM {K : Fg} : Op2 K (rI (fun i j => powOk i j = true) fun i j => .int (i ^ j.toNat)) powM := by
  intro O H x y d e res Q hd hx hy h q
  cases d <;> cases e <;> try (cases h; done)
  rename_i i j
  have h' : (if powOk i j = true then some (D.int (i ^ j.toNat)) else none) = some res := h
  split at h'
  · cases h'
    rename_i hl
    cases hx; cases hy
    exact ⟨_, _, rfl, rfl, hl, q _ H (Same.refl H) (.int _)⟩
  · cases h'
section
variable {X : Cx} {hx : Hx} {W : WX} {b : Expr} {fb : EX} {x : Str} {pos p : Pos} {l : List (Str × D)}
theorem r_inST (T : TBS X.K X.w x l) (hm : X.mg x = some (.ref (He.ga X.K x))) (hb : PE X b (tX X.K hx W fb)) (hg : Gl X x := by rfl) (hd : (x == ("__debug__" : Str)) = false := by decide) (hmk : behindInMarks .In (.Name x p) = false := by rfl) :
    PT X (.Compare b [.In] [.Name x p] pos) (tT X.K hx W (eInS l fb)) := by
  obtain ⟨es, n, kd⟩ := T.1
  exact (pt_cmpR (op_in_kd kd) hb (pe_glob (v := .ref (He.ga X.K x)) hg hm rfl hd) hmk).imp fun σ H Q h => by
    obtain ⟨F, ρ, ⟨O, r0⟩, hp⟩ := h
    show tX X.K hx W fb σ H _
    refine bindXT r0 hp fun d ρ1 v H1 O1 r1 s1 dv hp1 => ?_
    cases d <;> (try (obtain hp1 : False := hp1; exact hp1.elim))
    rename_i z
    cases dv
    have T3 := T.2 z
    obtain ⟨b, hb, k⟩ := hp1
    cases hb
    cases e : l.lookup z with
    | none =>
      simp only [e] at k T3
      exact ⟨z, none, rfl, rfl, T3, _, rfl, k H1 ⟨O1, r1⟩⟩
    | some y =>
      simp only [e] at k T3
      obtain ⟨u, v, h1, h2, h3⟩ := T3
      exact ⟨z, some u, rfl, rfl, h1, _, rfl, k H1 ⟨O1, r1⟩⟩
theorem r_ninST (T : TBS X.K X.w x l) (hm : X.mg x = some (.ref (He.ga X.K x))) (hb : PE X b (tX X.K hx W fb)) (hg : Gl X x := by rfl) (hd : (x == ("__debug__" : Str)) = false := by decide) (hmk : behindInMarks .NotIn (.Name x p) = false := by rfl) :
    PT X (.Compare b [.NotIn] [.Name x p] pos) (tT X.K hx W (eNinS l fb)) := by
  obtain ⟨es, n, kd⟩ := T.1
  exact (pt_cmpR (op_notIn_kd kd) hb (pe_glob (v := .ref (He.ga X.K x)) hg hm rfl hd) hmk).imp fun σ H Q h => by
    obtain ⟨F, ρ, ⟨O, r0⟩, hp⟩ := h
    show tX X.K hx W fb σ H _
    refine bindXT r0 hp fun d ρ1 v H1 O1 r1 s1 dv hp1 => ?_
    cases d <;> (try (obtain hp1 : False := hp1; exact hp1.elim))
    rename_i z
    cases dv
    have T3 := T.2 z
    obtain ⟨b, hb, k⟩ := hp1
    cases hb
    cases e : l.lookup z with
    | none =>
      simp only [e] at k T3
      exact ⟨z, none, rfl, rfl, T3, _, rfl, k H1 ⟨O1, r1⟩⟩
    | some y =>
      simp only [e] at k T3
      obtain ⟨u, v, h1, h2, h3⟩ := T3
      exact ⟨z, some u, rfl, rfl, h1, _, rfl, k H1 ⟨O1, r1⟩⟩
end
end MB

namespace K67
open PySem PySem.Spec PyProof.Rows L2 MB
def top (i : Nat) : Stmt := PySem.Challenge.pw_madeorbarred_k67_bars_of_six_kinds.main.body.getD i (.Pass ⟨0, 0, 0, 0⟩)
def xs : List (Str × List Str) := [("WishError", ["WishError", "MadeError", "ValueError", "Exception", "BaseException", "object"])]
def tb_BOUNDS : List (Str × D) := [("rounds", .tup [.tup [.int 2, .int (1000000000000000000000000000000)]]), ("triples", .tup [.tup [.int 3, .int (1000000000000000000000000000000)], .tup [.int 1, .int 1000]]), ("ring", .tup [.tup [.int 3, .int (1000000000000000000000000000000)]]), ("days", .tup [.tup [.int 3, .int (1000000000000000000000000000000)]]), ("fours", .tup [.tup [.int 4, .int (1000000000000000000000000000000)]]), ("mates", .tup [.tup [.int 1, .int (1000000000000000000000000000000)]]), ("signs", .tup [.tup [.int 1, .int 64]]), ("symmetric", .tup [.tup [.int 3, .int 10000], .tup [.int 2, .int 9999], .tup [.int 1, .int 9998]])]
def tb_KINDS : List (Str × D) := [("rounds", .fn "_rounds_bars"), ("triples", .fn "_triples_bars"), ("ring", .fn "_ring_bars"), ("days", .fn "_days_bars"), ("fours", .fn "_fours_bars"), ("mates", .fn "_mates_bars"), ("signs", .fn "_signs_bars"), ("symmetric", .fn "_symmetric_bars")]
def ist_0 : List Str := ["NumberError", "SizeError", "PlaceError", "SameError", "NoInverse", "NoField", "TooLarge"]
def ist_1 : List Str := ["NotSubgroup", "UnlikeError", "PartError", "TextError", "BareError", "TradeError", "DaysError"]
def ist_2 : List Str := ["TermError", "KindError", "RowError", "ColumnError", "MatesError", "NoPrime", "Barred"]
def ist_3 : List Str := ["MakingError", "CommandError", "NothingKept", "OpenError", "NothingToUndo", "NothingToRedo"]
structure Mg (P : Program) (w : World) (K : Fg) (mg : Str → Option Value) : Prop where
  f_ValueError : mg "ValueError" = none
  f_abs : mg "abs" = none
  f_all : mg "all" = none
  f_bool : mg "bool" = none
  f_int : mg "int" = none
  f_isinstance : mg "isinstance" = none
  f_len : mg "len" = none
  f_list : mg "list" = none
  f_range : mg "range" = none
  f_str : mg "str" = none
  f_tuple : mg "tuple" = none
  f_zip : mg "zip" = none
  g_BOUNDS : mg "BOUNDS" = some (.ref (He.ga K "BOUNDS"))
  t_BOUNDS : TBS K w "BOUNDS" tb_BOUNDS
  g_KINDS : mg "KINDS" = some (.ref (He.ga K "KINDS"))
  t_KINDS : TBS K w "KINDS" tb_KINDS
  gd__law_pool : mg "_law_pool" = some (.ref (He.ga K "_law_pool"))
  gd__law_draw : mg "_law_draw" = some (.ref (He.ga K "_law_draw"))
  gd__law_great : mg "_law_great" = some (.ref (He.ga K "_law_great"))
  gd__law_number : mg "_law_number" = some (.ref (He.ga K "_law_number"))
  gd__law_wishes : mg "_law_wishes" = some (.ref (He.ga K "_law_wishes"))
  gd__law_bounds : mg "_law_bounds" = some (.ref (He.ga K "_law_bounds"))
  gd__law_wrong : mg "_law_wrong" = some (.ref (He.ga K "_law_wrong"))
  gd__law_due : mg "_law_due" = some (.ref (He.ga K "_law_due"))
  gd__law_same : mg "_law_same" = some (.ref (He.ga K "_law_same"))
  gd_is_number : mg "is_number" = some (.ref (He.ga K "is_number"))
  gd__is_wish : mg "_is_wish" = some (.ref (He.ga K "_is_wish"))
  gd_looked_wish : mg "looked_wish" = some (.ref (He.ga K "looked_wish"))
  gd__bar : mg "_bar" = some (.ref (He.ga K "_bar"))
  gd__rounds_bars : mg "_rounds_bars" = some (.ref (He.ga K "_rounds_bars"))
  gd__triples_bars : mg "_triples_bars" = some (.ref (He.ga K "_triples_bars"))
  gd__ring_bars : mg "_ring_bars" = some (.ref (He.ga K "_ring_bars"))
  gd__days_bars : mg "_days_bars" = some (.ref (He.ga K "_days_bars"))
  gd__fours_bars : mg "_fours_bars" = some (.ref (He.ga K "_fours_bars"))
  gd__mates_bars : mg "_mates_bars" = some (.ref (He.ga K "_mates_bars"))
  gd__signs_bars : mg "_signs_bars" = some (.ref (He.ga K "_signs_bars"))
  gd_listed_bars : mg "listed_bars" = some (.ref (He.ga K "listed_bars"))
  gd_bars : mg "bars" = some (.ref (He.ga K "bars"))
  gd_first_bar : mg "first_bar" = some (.ref (He.ga K "first_bar"))
  gd__law_stray : mg "_law_stray" = some (.ref (He.ga K "_law_stray"))
  gd__law_told : mg "_law_told" = some (.ref (He.ga K "_law_told"))
  gd__law_asked : mg "_law_asked" = some (.ref (He.ga K "_law_asked"))
  gd__law_papers : mg "_law_papers" = some (.ref (He.ga K "_law_papers"))
  gd_law : mg "law" = some (.ref (He.ga K "law"))
  gc_BareError : mg "BareError" = some (.ref (He.ga K "BareError"))
  gc_Barred : mg "Barred" = some (.ref (He.ga K "Barred"))
  gc_ColumnError : mg "ColumnError" = some (.ref (He.ga K "ColumnError"))
  gc_CommandError : mg "CommandError" = some (.ref (He.ga K "CommandError"))
  gc_DaysError : mg "DaysError" = some (.ref (He.ga K "DaysError"))
  gc_KindError : mg "KindError" = some (.ref (He.ga K "KindError"))
  gc_MadeError : mg "MadeError" = some (.ref (He.ga K "MadeError"))
  gc_MakingError : mg "MakingError" = some (.ref (He.ga K "MakingError"))
  gc_MatesError : mg "MatesError" = some (.ref (He.ga K "MatesError"))
  gc_NoField : mg "NoField" = some (.ref (He.ga K "NoField"))
  gc_NoInverse : mg "NoInverse" = some (.ref (He.ga K "NoInverse"))
  gc_NoPrime : mg "NoPrime" = some (.ref (He.ga K "NoPrime"))
  gc_NotSubgroup : mg "NotSubgroup" = some (.ref (He.ga K "NotSubgroup"))
  gc_NothingKept : mg "NothingKept" = some (.ref (He.ga K "NothingKept"))
  gc_NothingToRedo : mg "NothingToRedo" = some (.ref (He.ga K "NothingToRedo"))
  gc_NothingToUndo : mg "NothingToUndo" = some (.ref (He.ga K "NothingToUndo"))
  gc_NumberError : mg "NumberError" = some (.ref (He.ga K "NumberError"))
  gc_OpenError : mg "OpenError" = some (.ref (He.ga K "OpenError"))
  gc_PartError : mg "PartError" = some (.ref (He.ga K "PartError"))
  gc_PlaceError : mg "PlaceError" = some (.ref (He.ga K "PlaceError"))
  gc_RowError : mg "RowError" = some (.ref (He.ga K "RowError"))
  gc_SameError : mg "SameError" = some (.ref (He.ga K "SameError"))
  gc_SizeError : mg "SizeError" = some (.ref (He.ga K "SizeError"))
  gc_TermError : mg "TermError" = some (.ref (He.ga K "TermError"))
  gc_TextError : mg "TextError" = some (.ref (He.ga K "TextError"))
  gc_TooLarge : mg "TooLarge" = some (.ref (He.ga K "TooLarge"))
  gc_TradeError : mg "TradeError" = some (.ref (He.ga K "TradeError"))
  gc_UnlikeError : mg "UnlikeError" = some (.ref (He.ga K "UnlikeError"))
  gc_WishError : mg "WishError" = some (.ref (He.ga K "WishError"))
  x0_WishError : X0 K mg "WishError"
  ec : (xs.all fun p => excCB K (He.ga K p.1)) = true
  is_WishError : ISF K (isX xs "WishError") (.ref (He.ga K "WishError"))
  isb_ValueError : ISF K (isX xs "ValueError") (.type "ValueError")
  ist_0 : ISFT K (isXT xs ist_0) (clsVs K ist_0)
  ist_1 : ISFT K (isXT xs ist_1) (clsVs K ist_1)
  ist_2 : ISFT K (isXT xs ist_2) (clsVs K ist_2)
  ist_3 : ISFT K (isXT xs ist_3) (clsVs K ist_3)
  te_MadeError : TEF K (isX xs "MadeError") (.ref (He.ga K "MadeError"))

end K67

namespace K67
open PySem PySem.Spec PyProof.Rows L2 MB
def chkL (K : Fg) : List Bool := [(He.Fa.free "ValueError").ok K,
  (He.Fa.free "abs").ok K,
  (He.Fa.free "all").ok K,
  (He.Fa.free "bool").ok K,
  (He.Fa.free "int").ok K,
  (He.Fa.free "isinstance").ok K,
  (He.Fa.free "len").ok K,
  (He.Fa.free "list").ok K,
  (He.Fa.free "range").ok K,
  (He.Fa.free "str").ok K,
  (He.Fa.free "tuple").ok K,
  (He.Fa.free "zip").ok K,
  (He.Fa.glo "BOUNDS").ok K,
  tbsB K "BOUNDS" tb_BOUNDS,
  (He.Fa.glo "KINDS").ok K,
  tbsB K "KINDS" tb_KINDS,
  (He.Fa.glo "_law_pool").ok K,
  (He.Fa.glo "_law_draw").ok K,
  (He.Fa.glo "_law_great").ok K,
  (He.Fa.glo "_law_number").ok K,
  (He.Fa.glo "_law_wishes").ok K,
  (He.Fa.glo "_law_bounds").ok K,
  (He.Fa.glo "_law_wrong").ok K,
  (He.Fa.glo "_law_due").ok K,
  (He.Fa.glo "_law_same").ok K,
  (He.Fa.glo "is_number").ok K,
  (He.Fa.glo "_is_wish").ok K,
  (He.Fa.glo "looked_wish").ok K,
  (He.Fa.glo "_bar").ok K,
  (He.Fa.glo "_rounds_bars").ok K,
  (He.Fa.glo "_triples_bars").ok K,
  (He.Fa.glo "_ring_bars").ok K,
  (He.Fa.glo "_days_bars").ok K,
  (He.Fa.glo "_fours_bars").ok K,
  (He.Fa.glo "_mates_bars").ok K,
  (He.Fa.glo "_signs_bars").ok K,
  (He.Fa.glo "listed_bars").ok K,
  (He.Fa.glo "bars").ok K,
  (He.Fa.glo "first_bar").ok K,
  (He.Fa.glo "_law_stray").ok K,
  (He.Fa.glo "_law_told").ok K,
  (He.Fa.glo "_law_asked").ok K,
  (He.Fa.glo "_law_papers").ok K,
  (He.Fa.glo "law").ok K,
  (He.Fa.glo "BareError").ok K,
  (He.Fa.glo "Barred").ok K,
  (He.Fa.glo "ColumnError").ok K,
  (He.Fa.glo "CommandError").ok K,
  (He.Fa.glo "DaysError").ok K,
  (He.Fa.glo "KindError").ok K,
  (He.Fa.glo "MadeError").ok K,
  (He.Fa.glo "MakingError").ok K,
  (He.Fa.glo "MatesError").ok K,
  (He.Fa.glo "NoField").ok K,
  (He.Fa.glo "NoInverse").ok K,
  (He.Fa.glo "NoPrime").ok K,
  (He.Fa.glo "NotSubgroup").ok K,
  (He.Fa.glo "NothingKept").ok K,
  (He.Fa.glo "NothingToRedo").ok K,
  (He.Fa.glo "NothingToUndo").ok K,
  (He.Fa.glo "NumberError").ok K,
  (He.Fa.glo "OpenError").ok K,
  (He.Fa.glo "PartError").ok K,
  (He.Fa.glo "PlaceError").ok K,
  (He.Fa.glo "RowError").ok K,
  (He.Fa.glo "SameError").ok K,
  (He.Fa.glo "SizeError").ok K,
  (He.Fa.glo "TermError").ok K,
  (He.Fa.glo "TextError").ok K,
  (He.Fa.glo "TooLarge").ok K,
  (He.Fa.glo "TradeError").ok K,
  (He.Fa.glo "UnlikeError").ok K,
  (He.Fa.glo "WishError").ok K,
  x0B K (He.ga K "WishError"),
  (xs.all fun p => excCB K (He.ga K p.1)),
  isB K xs "WishError" (.ref (He.ga K "WishError")),
  isB K xs "ValueError" (.type "ValueError"),
  isTB K xs ist_0,
  isTB K xs ist_1,
  isTB K xs ist_2,
  isTB K xs ist_3,
  teB K xs "MadeError" (.ref (He.ga K "MadeError"))]
def chk (K : Fg) : Bool := (chkL K).all id
theorem chk_at {K : Fg} (c : chk K = true) (i : Nat) {b : Bool} (e : (chkL K)[i]? = some b) : b = true := List.all_eq_true.mp c b (List.mem_of_getElem? e)
def fnL : List He.DefD := [⟨("_law_pool", none), "_law_pool", "_law_pool", defArgs (top 65), defBody (top 65), defScope (top 65), [], []⟩,
  ⟨("_law_draw", none), "_law_draw", "_law_draw", defArgs (top 66), defBody (top 66), defScope (top 66), [], []⟩,
  ⟨("_law_great", none), "_law_great", "_law_great", defArgs (top 70), defBody (top 70), defScope (top 70), [], []⟩,
  ⟨("_law_number", none), "_law_number", "_law_number", defArgs (top 71), defBody (top 71), defScope (top 71), [], []⟩,
  ⟨("_law_wishes", none), "_law_wishes", "_law_wishes", defArgs (top 72), defBody (top 72), defScope (top 72), [], []⟩,
  ⟨("_law_bounds", none), "_law_bounds", "_law_bounds", defArgs (top 76), defBody (top 76), defScope (top 76), [], []⟩,
  ⟨("_law_wrong", none), "_law_wrong", "_law_wrong", defArgs (top 77), defBody (top 77), defScope (top 77), [], []⟩,
  ⟨("_law_due", none), "_law_due", "_law_due", defArgs (top 73), defBody (top 73), defScope (top 73), [], []⟩,
  ⟨("_law_same", none), "_law_same", "_law_same", defArgs (top 67), defBody (top 67), defScope (top 67), [], []⟩,
  ⟨("is_number", none), "is_number", "is_number", defArgs (top 32), defBody (top 32), defScope (top 32), [], []⟩,
  ⟨("_is_wish", none), "_is_wish", "_is_wish", defArgs (top 48), defBody (top 48), defScope (top 48), [], []⟩,
  ⟨("looked_wish", none), "looked_wish", "looked_wish", defArgs (top 49), defBody (top 49), defScope (top 49), [], []⟩,
  ⟨("_bar", none), "_bar", "_bar", defArgs (top 51), defBody (top 51), defScope (top 51), [], []⟩,
  ⟨("_rounds_bars", none), "_rounds_bars", "_rounds_bars", defArgs (top 52), defBody (top 52), defScope (top 52), [], []⟩,
  ⟨("_triples_bars", none), "_triples_bars", "_triples_bars", defArgs (top 53), defBody (top 53), defScope (top 53), [], []⟩,
  ⟨("_ring_bars", none), "_ring_bars", "_ring_bars", defArgs (top 54), defBody (top 54), defScope (top 54), [], []⟩,
  ⟨("_days_bars", none), "_days_bars", "_days_bars", defArgs (top 55), defBody (top 55), defScope (top 55), [], []⟩,
  ⟨("_fours_bars", none), "_fours_bars", "_fours_bars", defArgs (top 56), defBody (top 56), defScope (top 56), [], []⟩,
  ⟨("_mates_bars", none), "_mates_bars", "_mates_bars", defArgs (top 57), defBody (top 57), defScope (top 57), [], []⟩,
  ⟨("_signs_bars", none), "_signs_bars", "_signs_bars", defArgs (top 58), defBody (top 58), defScope (top 58), [], []⟩,
  ⟨("listed_bars", none), "listed_bars", "listed_bars", defArgs (top 61), defBody (top 61), defScope (top 61), [], []⟩,
  ⟨("bars", none), "bars", "bars", defArgs (top 62), defBody (top 62), defScope (top 62), [], []⟩,
  ⟨("first_bar", none), "first_bar", "first_bar", defArgs (top 63), defBody (top 63), defScope (top 63), [], []⟩,
  ⟨("_law_stray", none), "_law_stray", "_law_stray", defArgs (top 68), defBody (top 68), defScope (top 68), [], []⟩,
  ⟨("_law_told", none), "_law_told", "_law_told", defArgs (top 69), defBody (top 69), defScope (top 69), [], []⟩,
  ⟨("_law_asked", none), "_law_asked", "_law_asked", defArgs (top 75), defBody (top 75), defScope (top 75), [], []⟩,
  ⟨("_law_papers", none), "_law_papers", "_law_papers", defArgs (top 74), defBody (top 74), defScope (top 74), [], []⟩,
  ⟨("law", none), "law", "law", defArgs (top 78), defBody (top 78), defScope (top 78), [], []⟩]
def xL : List XD := []
def tsL : Tbs := [("BOUNDS", tb_BOUNDS.map (·.1)), ("KINDS", tb_KINDS.map (·.1))]
abbrev R : PySem.W.OpenRow := PySem.W.OpenLaw.row PySem.Challenge.rw_madeorbarred_k67_bars_of_six_kinds
abbrev fileR : Str := PySem.Challenge.pw_madeorbarred_k67_bars_of_six_kinds.main.file
theorem mg_of {K : Fg} {w : World} {h : Heap} {mg : Str → Option Value} (X : K.In h) (G : h.Ns mainGlobals mg) (c : SaysN fileR chk fnL xL tsL w K) : Mg PySem.Challenge.pw_madeorbarred_k67_bars_of_six_kinds w K mg :=
  have C := c.m.chk
  have GCX_BareError : mg "BareError" = some (.ref (He.ga K "BareError")) := He.glo_ok X G (x := "BareError") (chk_at C 44 rfl)
  have GCX_Barred : mg "Barred" = some (.ref (He.ga K "Barred")) := He.glo_ok X G (x := "Barred") (chk_at C 45 rfl)
  have GCX_ColumnError : mg "ColumnError" = some (.ref (He.ga K "ColumnError")) := He.glo_ok X G (x := "ColumnError") (chk_at C 46 rfl)
  have GCX_CommandError : mg "CommandError" = some (.ref (He.ga K "CommandError")) := He.glo_ok X G (x := "CommandError") (chk_at C 47 rfl)
  have GCX_DaysError : mg "DaysError" = some (.ref (He.ga K "DaysError")) := He.glo_ok X G (x := "DaysError") (chk_at C 48 rfl)
  have GCX_KindError : mg "KindError" = some (.ref (He.ga K "KindError")) := He.glo_ok X G (x := "KindError") (chk_at C 49 rfl)
  have GCX_MadeError : mg "MadeError" = some (.ref (He.ga K "MadeError")) := He.glo_ok X G (x := "MadeError") (chk_at C 50 rfl)
  have GCX_MakingError : mg "MakingError" = some (.ref (He.ga K "MakingError")) := He.glo_ok X G (x := "MakingError") (chk_at C 51 rfl)
  have GCX_MatesError : mg "MatesError" = some (.ref (He.ga K "MatesError")) := He.glo_ok X G (x := "MatesError") (chk_at C 52 rfl)
  have GCX_NoField : mg "NoField" = some (.ref (He.ga K "NoField")) := He.glo_ok X G (x := "NoField") (chk_at C 53 rfl)
  have GCX_NoInverse : mg "NoInverse" = some (.ref (He.ga K "NoInverse")) := He.glo_ok X G (x := "NoInverse") (chk_at C 54 rfl)
  have GCX_NoPrime : mg "NoPrime" = some (.ref (He.ga K "NoPrime")) := He.glo_ok X G (x := "NoPrime") (chk_at C 55 rfl)
  have GCX_NotSubgroup : mg "NotSubgroup" = some (.ref (He.ga K "NotSubgroup")) := He.glo_ok X G (x := "NotSubgroup") (chk_at C 56 rfl)
  have GCX_NothingKept : mg "NothingKept" = some (.ref (He.ga K "NothingKept")) := He.glo_ok X G (x := "NothingKept") (chk_at C 57 rfl)
  have GCX_NothingToRedo : mg "NothingToRedo" = some (.ref (He.ga K "NothingToRedo")) := He.glo_ok X G (x := "NothingToRedo") (chk_at C 58 rfl)
  have GCX_NothingToUndo : mg "NothingToUndo" = some (.ref (He.ga K "NothingToUndo")) := He.glo_ok X G (x := "NothingToUndo") (chk_at C 59 rfl)
  have GCX_NumberError : mg "NumberError" = some (.ref (He.ga K "NumberError")) := He.glo_ok X G (x := "NumberError") (chk_at C 60 rfl)
  have GCX_OpenError : mg "OpenError" = some (.ref (He.ga K "OpenError")) := He.glo_ok X G (x := "OpenError") (chk_at C 61 rfl)
  have GCX_PartError : mg "PartError" = some (.ref (He.ga K "PartError")) := He.glo_ok X G (x := "PartError") (chk_at C 62 rfl)
  have GCX_PlaceError : mg "PlaceError" = some (.ref (He.ga K "PlaceError")) := He.glo_ok X G (x := "PlaceError") (chk_at C 63 rfl)
  have GCX_RowError : mg "RowError" = some (.ref (He.ga K "RowError")) := He.glo_ok X G (x := "RowError") (chk_at C 64 rfl)
  have GCX_SameError : mg "SameError" = some (.ref (He.ga K "SameError")) := He.glo_ok X G (x := "SameError") (chk_at C 65 rfl)
  have GCX_SizeError : mg "SizeError" = some (.ref (He.ga K "SizeError")) := He.glo_ok X G (x := "SizeError") (chk_at C 66 rfl)
  have GCX_TermError : mg "TermError" = some (.ref (He.ga K "TermError")) := He.glo_ok X G (x := "TermError") (chk_at C 67 rfl)
  have GCX_TextError : mg "TextError" = some (.ref (He.ga K "TextError")) := He.glo_ok X G (x := "TextError") (chk_at C 68 rfl)
  have GCX_TooLarge : mg "TooLarge" = some (.ref (He.ga K "TooLarge")) := He.glo_ok X G (x := "TooLarge") (chk_at C 69 rfl)
  have GCX_TradeError : mg "TradeError" = some (.ref (He.ga K "TradeError")) := He.glo_ok X G (x := "TradeError") (chk_at C 70 rfl)
  have GCX_UnlikeError : mg "UnlikeError" = some (.ref (He.ga K "UnlikeError")) := He.glo_ok X G (x := "UnlikeError") (chk_at C 71 rfl)
  have GCX_WishError : mg "WishError" = some (.ref (He.ga K "WishError")) := He.glo_ok X G (x := "WishError") (chk_at C 72 rfl)
  have EC : (xs.all fun p => excCB K (He.ga K p.1)) = true := chk_at C 74 rfl
  ⟨He.free_ok X G (x := "ValueError") (chk_at C 0 rfl),
   He.free_ok X G (x := "abs") (chk_at C 1 rfl),
   He.free_ok X G (x := "all") (chk_at C 2 rfl),
   He.free_ok X G (x := "bool") (chk_at C 3 rfl),
   He.free_ok X G (x := "int") (chk_at C 4 rfl),
   He.free_ok X G (x := "isinstance") (chk_at C 5 rfl),
   He.free_ok X G (x := "len") (chk_at C 6 rfl),
   He.free_ok X G (x := "list") (chk_at C 7 rfl),
   He.free_ok X G (x := "range") (chk_at C 8 rfl),
   He.free_ok X G (x := "str") (chk_at C 9 rfl),
   He.free_ok X G (x := "tuple") (chk_at C 10 rfl),
   He.free_ok X G (x := "zip") (chk_at C 11 rfl),
   He.glo_ok X G (x := "BOUNDS") (chk_at C 12 rfl),
   tbs_ok (c.tab 0 (t := ("BOUNDS", tb_BOUNDS.map (·.1))) rfl) (chk_at C 13 rfl),
   He.glo_ok X G (x := "KINDS") (chk_at C 14 rfl),
   tbs_ok (c.tab 1 (t := ("KINDS", tb_KINDS.map (·.1))) rfl) (chk_at C 15 rfl),
   He.glo_ok X G (x := "_law_pool") (chk_at C 16 rfl),
   He.glo_ok X G (x := "_law_draw") (chk_at C 17 rfl),
   He.glo_ok X G (x := "_law_great") (chk_at C 18 rfl),
   He.glo_ok X G (x := "_law_number") (chk_at C 19 rfl),
   He.glo_ok X G (x := "_law_wishes") (chk_at C 20 rfl),
   He.glo_ok X G (x := "_law_bounds") (chk_at C 21 rfl),
   He.glo_ok X G (x := "_law_wrong") (chk_at C 22 rfl),
   He.glo_ok X G (x := "_law_due") (chk_at C 23 rfl),
   He.glo_ok X G (x := "_law_same") (chk_at C 24 rfl),
   He.glo_ok X G (x := "is_number") (chk_at C 25 rfl),
   He.glo_ok X G (x := "_is_wish") (chk_at C 26 rfl),
   He.glo_ok X G (x := "looked_wish") (chk_at C 27 rfl),
   He.glo_ok X G (x := "_bar") (chk_at C 28 rfl),
   He.glo_ok X G (x := "_rounds_bars") (chk_at C 29 rfl),
   He.glo_ok X G (x := "_triples_bars") (chk_at C 30 rfl),
   He.glo_ok X G (x := "_ring_bars") (chk_at C 31 rfl),
   He.glo_ok X G (x := "_days_bars") (chk_at C 32 rfl),
   He.glo_ok X G (x := "_fours_bars") (chk_at C 33 rfl),
   He.glo_ok X G (x := "_mates_bars") (chk_at C 34 rfl),
   He.glo_ok X G (x := "_signs_bars") (chk_at C 35 rfl),
   He.glo_ok X G (x := "listed_bars") (chk_at C 36 rfl),
   He.glo_ok X G (x := "bars") (chk_at C 37 rfl),
   He.glo_ok X G (x := "first_bar") (chk_at C 38 rfl),
   He.glo_ok X G (x := "_law_stray") (chk_at C 39 rfl),
   He.glo_ok X G (x := "_law_told") (chk_at C 40 rfl),
   He.glo_ok X G (x := "_law_asked") (chk_at C 41 rfl),
   He.glo_ok X G (x := "_law_papers") (chk_at C 42 rfl),
   He.glo_ok X G (x := "law") (chk_at C 43 rfl),
   GCX_BareError,
   GCX_Barred,
   GCX_ColumnError,
   GCX_CommandError,
   GCX_DaysError,
   GCX_KindError,
   GCX_MadeError,
   GCX_MakingError,
   GCX_MatesError,
   GCX_NoField,
   GCX_NoInverse,
   GCX_NoPrime,
   GCX_NotSubgroup,
   GCX_NothingKept,
   GCX_NothingToRedo,
   GCX_NothingToUndo,
   GCX_NumberError,
   GCX_OpenError,
   GCX_PartError,
   GCX_PlaceError,
   GCX_RowError,
   GCX_SameError,
   GCX_SizeError,
   GCX_TermError,
   GCX_TextError,
   GCX_TooLarge,
   GCX_TradeError,
   GCX_UnlikeError,
   GCX_WishError,
   ⟨GCX_WishError, chk_at C 73 rfl⟩,
   EC,
   is_ok EC (chk_at C 75 rfl),
   is_ok EC (chk_at C 76 rfl),
   ist_ok EC (chk_at C 77 rfl),
   ist_ok EC (chk_at C 78 rfl),
   ist_ok EC (chk_at C 79 rfl),
   ist_ok EC (chk_at C 80 rfl),
   te_ok (chk_at C 81 rfl)⟩

end K67

namespace K67
open PySem PySem.Spec PyProof.Rows L2 MB
def nm0 : List PySem.Str := ["MadeError", "NumberError", "SizeError", "PlaceError", "SameError", "NoInverse", "NoField", "TooLarge", "NotSubgroup", "UnlikeError", "PartError", "TextError", "BareError", "TradeError", "DaysError", "TermError", "KindError", "RowError", "ColumnError", "MatesError", "NoPrime", "Barred", "WishError", "MakingError", "CommandError", "NothingKept", "OpenError", "NothingToUndo", "NothingToRedo", "is_number"]
def nm1 : List PySem.Str := ["look_number", "MOST_FACTORED", "_parts", "prime_parts", "power_modulo", "MOST_FACTOR", "_look_factor", "_parted", "_is_square", "_bars_at", "form_bars", "BOUNDS", "_is_wish", "looked_wish", "_bar", "_rounds_bars", "_triples_bars", "_ring_bars", "_days_bars", "_fours_bars", "_mates_bars", "_signs_bars", "_symmetric_bars", "KINDS", "listed_bars", "bars", "first_bar", "_law_pool", "_law_draw", "_law_same"]
def nm2 : List PySem.Str := ["_law_stray", "_law_told", "_law_great", "_law_number", "_law_wishes", "_law_due", "_law_papers", "_law_asked", "_law_bounds", "_law_wrong"]
def names : List PySem.Str := nm0 ++ nm1 ++ nm2
abbrev hk : PySem.W.Hook := hookN 3 fileR chk fnL xL tsL
def ob (s : PySem.W.SharedT) : AlN := obsNG 3 fileR chk fnL xL tsL (HandSHeadRun.getT s)
theorem ob_eq (s : PySem.W.SharedT) : ob s = hk.obs s.abs := obsNG_eq (HandSHeadRun.getT_eq s)
abbrev Rn (w : World) : Prop := HandSHeadRun.RunEqI R (PySem.W.view R.prog [0, 78]) hk ob 9000 names w
theorem map3 {σ α β γ : Type} {e : Option σ} {A : σ → α} {B : σ → β} {C : σ → γ} {a : α} {b : β} {c : γ} (h1 : e.map A = some a) (h2 : e.map B = some b) (h3 : e.map C = some c) : e.map (fun s => (A s, B s, C s)) = some (a, b, c) := by
  cases e with
  | none => cases h1
  | some s => cases h1; cases h2; cases h3; rfl
open PySem.Calls PySem.W in
noncomputable abbrev EF (w : World) := HandSHeadRun.wholeF (fun p => HandSHeadRun.stepQ (HandSHeadRun.denQ HandSHeadRun.tabQ) p w) HandSHeadRun.fenceQ 9000 R.prog
noncomputable abbrev EQ : Program := PySem.W.view R.prog [0, 78]
abbrev wF (w : World) : World := w.withFollow "special-get-raises" false
abbrev wT (w : World) : World := w.withFollow "special-get-raises" true
open PySem.Calls PySem.W in
theorem pF1 (w : World) : (EF (wF w)).map (fun x => HandSHeadRun.looksF R.prog x.1.heap x.2.abs) = some true := by
  kernel_rfl
theorem pF2 (w : World) : (EF (wF w)).map (fun x => HandSHeadRun.seenQ EQ names (importedModules R.prog.main.body) (fun s => PySem.W.xlAt EQ [] s && PySem.W.recOk R.toRowW.records s) x.2.abs) = some (PySem.W.openGood EQ names) := by
  kernel_rfl
theorem pF3 (w : World) : (EF (wF w)).map (fun x => ob x.2) = some (hk.val (wF w)) := by
  kernel_rfl
open PySem.Calls PySem.W in
theorem pT1 (w : World) : (EF (wT w)).map (fun x => HandSHeadRun.looksF R.prog x.1.heap x.2.abs) = some true := by
  kernel_rfl
theorem pT2 (w : World) : (EF (wT w)).map (fun x => HandSHeadRun.seenQ EQ names (importedModules R.prog.main.body) (fun s => PySem.W.xlAt EQ [] s && PySem.W.recOk R.toRowW.records s) x.2.abs) = some (PySem.W.openGood EQ names) := by
  kernel_rfl
theorem pT3 (w : World) : (EF (wT w)).map (fun x => ob x.2) = some (hk.val (wT w)) := by
  kernel_rfl
theorem runF (w : World) : Rn (wF w) := map3 (pF1 w) (pF2 w) (pF3 w)
theorem runT (w : World) : Rn (wT w) := map3 (pT1 w) (pT2 w) (pT3 w)
theorem run (w : World) : Rn w := PySem.W.byRow2 "special-get-raises" (P := Rn) runF runT w

end K67

/-! Lists that are changed in place. -/
namespace MB
open PySem PySem.Spec PyProof.Rows L2
/-- the slot with another content -/
def Sl.wl : Sl → List D → Sl
  | .own _, es => .own es
  | .io _, es => .io es
  | x, _ => x
theorem Sl.wl_list {x : Sl} {ds : List D} (h : x.list = some ds) (es : List D) : (x.wl es).list = some es := by
  cases x <;> first | rfl | cases h
theorem wo_at {O : List Addr} {H : Hp} {p : Addr} {o : HO} (hp : p ∈ O) : wo O (upd H p o) = wo O H := by
  funext a
  unfold wo
  by_cases m : a ∈ O
  · rw [if_pos m, if_pos m]
  · rw [if_neg m, if_neg m, upd_ne (fun z => m (by rw [z]; exact hp))]
section
variable {K : Fg} {hx : Hx} {F : Fm} {ρ : En} {σ : MB.St} {H : Hp} {O : List Addr}
/-- the list that the slot i holds is changed in place -/
theorem RO.upd (r : RO K hx F ρ σ H O) {i : Nat} {x : Sl} {ds es : List D} {a : Addr} {ws : List V} (e : ρ[i]? = some (some x)) (hl : x.list = some ds) (ha : σ[i]? = some (some (.ref a))) (dw : DVs K (wo O H) ws es) :
    RO K hx F (ρ.set i (some (x.wl es))) σ (L2.upd H a (.lst ws)) O := by
  obtain ⟨mO, vs, h1, h2⟩ := r.lat e hl ha
  have ew : wo O (L2.upd H a (.lst ws)) = wo O H := wo_at mO
  have hg : F.g a = none := r.gn i a x ds e hl ha
  -- what stands in a slot now, and what stood there
  have bk : ∀ {j : Nat} {y : Sl} {es' : List D}, (ρ.set i (some (x.wl es)))[j]? = some (some y) → y.list = some es' → ∃ y0 ds0, ρ[j]? = some (some y0) ∧ y0.list = some ds0 := fun {j y es'} q hy => by
    rcases getset q with ⟨q1, _, _⟩ | ⟨_, q1⟩
    · rw [q1]
      exact ⟨x, ds, e, hl⟩
    · exact ⟨y, es', q1, hy⟩
  refine ⟨by rw [ew]; exact r.fr, fun b o q => ?_, r.go, fun j b y es' q1 q2 q3 => ?_, by simp [r.len], fun j y q => ?_, fun j k b y z es1 es2 q1 q2 q3 q4 q5 q6 => ?_, fun b m => ?_, fun j hj => ?_, fun j es' q => ?_⟩
  · rw [upd_ne (fun z => by rw [z, hg] at q; cases q)]
    exact r.gs b o q
  · obtain ⟨y0, ds0, p1, p2⟩ := bk q1 q2
    exact r.gn j b y0 ds0 p1 p2 q3
  · rcases getset q with ⟨q1, q2, _⟩ | ⟨n, q1⟩
    · subst q1
      cases q2
      refine ⟨.ref a, ha, ?_⟩
      cases x with
      | val d => cases hl
      | exc y => cases hl
      | own es' => exact ⟨a, ws, rfl, mO, upd_same, by rw [ew]; exact dw⟩
      | io es' => exact ⟨a, ws, rfl, mO, upd_same, by rw [ew]; exact dw⟩
    · obtain ⟨v, ev, h⟩ := r.sl j y q1
      refine ⟨v, ev, ?_⟩
      cases y with
      | val d =>
        show DV K (wo O (L2.upd H a (.lst ws))) v d
        rw [ew]
        exact h
      | own es' =>
        obtain ⟨b, vs', e1, e2, e3, e4⟩ := h
        refine ⟨b, vs', e1, e2, ?_, by rw [ew]; exact e4⟩
        rw [upd_ne (fun z => by subst z; rw [e1] at ev; exact n (r.ne j i b _ x es' ds q1 rfl e hl ev ha))]
        exact e3
      | io es' =>
        obtain ⟨b, vs', e1, e2, e3, e4⟩ := h
        refine ⟨b, vs', e1, e2, ?_, by rw [ew]; exact e4⟩
        rw [upd_ne (fun z => by subst z; rw [e1] at ev; exact n (r.ne j i b _ x es' ds q1 rfl e hl ev ha))]
        exact e3
      | exc y' =>
        obtain ⟨b, cls, dd, e1, e2, e3⟩ := h
        exact ⟨b, cls, dd, e1, e2, by rw [ew]; exact e3⟩
  · obtain ⟨y0, ds0, p1, p2⟩ := bk q1 q2
    obtain ⟨z0, ds1, p3, p4⟩ := bk q3 q4
    exact r.ne j k b y0 z0 ds0 ds1 p1 p2 p3 p4 q5 q6
  · by_cases z : b = a
    · rw [z]
      exact ⟨_, upd_same⟩
    · rw [upd_ne z]
      exact r.dom b m
  · obtain ⟨b, ds0, e1, e2, e3⟩ := r.pin j hj
    by_cases z : j = i
    · subst z
      rw [e] at e2
      cases e2
      exact ⟨b, es, e1, by rw [List.getElem?_set_self (List.getElem?_eq_some_iff.mp e).1]; rfl, e3⟩
    · exact ⟨b, ds0, e1, by rw [List.getElem?_set_ne (Ne.symm z)]; exact e2, e3⟩
  · rcases getset q with ⟨q1, q2, _⟩ | ⟨_, q1⟩
    · subst q1
      cases x with
      | io es0 => exact r.nio j es0 e
      | val d => cases hl
      | exc y => cases hl
      | own es0 => cases q2
    · exact r.nio j es' q1
end
end MB

/-! x.append(e) -/
namespace MB
open PySem PySem.Spec PyProof.Rows L2
/-- x.append(e), x a list of mine or of the caller's -/
def sApp (i : Nat) (f : EX) : SX := fun ρ => (f ρ).then fun d ρ1 => match ρ1[i]? with
  | some (some x) => match x.list with
    | some ds => if ds.length < sizeLine then .nx (ρ1.set i (some (x.wl (ds ++ [d])))) else .stuck
    | none => .stuck
  | _ => .stuck
/-- the slot holds a list ahead, too -/
def sApp0 (i : Nat) (f : EX) : SX := fun ρ => match ρ[i]? with
  | some (some x) => match x.list with
    | some _ => sApp i f ρ
    | none => .stuck
  | _ => .stuck
section
variable {X : Cx} {hx : Hx} {W : WX} {e : Expr} {f : EX} {apos cpos pos p : Pos} {x : Str} {i : Nat}
theorem p_app (he : PE X e (tX X.K hx W f)) (hN : X.N[i]? = some x := by rfl) (hv : Vis X.env.scope x := by first | exact Or.inl rfl | exact Or.inr (Or.inl rfl) | exact Or.inr (Or.inr rfl))
    (hdb : (x == ("__debug__" : Str)) = false := by decide) (hcd : (x == ("__classdict__" : Str)) = false := by decide)
    (hbase : attributeBase (.Name x p) "append" X.env (eval (.Name x p) X.env) = eval (.Name x p) X.env := by rfl)
    (hfew : ((backTo cpos (starEach [e] X.env)).all (fun x => !x.1) && (backToKw cpos (keywordEach [] X.env)).all (fun x => x.1.isSome) && decide ([e].length + ([] : List Keyword).length + (if ([] : List Keyword).isEmpty then 0 else 1) < 30)) = true := by rfl)
    (hline : (apos.endLine == cpos.line) = true := by rfl) (hs : starEach [e] X.env = (false, eval e X.env) :: starEach [] X.env := by rfl) (hplain : (backTo cpos (starEach [] X.env)).any (·.1) = false := by rfl)
    (hw : swapsWith (.Call (.Attribute (.Name x p) "append" apos) [e] [] cpos) none pos.line X.env = pure false := by rfl) :
    PS X (.Expr (.Call (.Attribute (.Name x p) "append" apos) [e] [] cpos) pos) (tS X.K hx W (sApp0 i f)) :=
  (ps_expr (pe_bm PySem.F.plainAttrs_list PySem.F.slot_list_append PySem.F.type_list_append mt_append (pe_var (pos := p) hN hv hdb hcd) (pa_cons he pa_nil hs) hbase hfew hline hs hplain) hw).imp fun D σ H h => by
    obtain ⟨F, ρ, ⟨O, r0⟩, hp⟩ := h
    unfold sApp0 at hp
    cases e0 : ρ[i]? with
    | none => rw [e0] at hp; exact hp.elim
    | some o =>
      cases o with
      | none => rw [e0] at hp; exact hp.elim
      | some sl =>
        rw [e0] at hp
        cases e1 : sl.list with
        | none =>
          have hp' : PoS X.K hx F W (match sl.list with
            | some _ => sApp i f ρ
            | none => .stuck) D := hp
          rw [e1] at hp'
          exact hp'.elim
        | some ds =>
          have hp' : PoS X.K hx F W (match sl.list with
            | some _ => sApp i f ρ
            | none => .stuck) D := hp
          rw [e1] at hp'
          have hq : PoS X.K hx F W (sApp i f ρ) D := hp'
          unfold sApp at hq
          obtain ⟨v, ev, hsl⟩ := r0.sl i sl e0
          obtain ⟨a, rfl⟩ : ∃ a, v = .ref a := by
            cases sl with
            | val d => cases e1
            | exc y => cases e1
            | own es => obtain ⟨a, _, e, _⟩ := hsl; exact ⟨a, e⟩
            | io es => obtain ⟨a, _, e, _⟩ := hsl; exact ⟨a, e⟩
          obtain ⟨_, vs, h1, _⟩ := r0.lat e0 e1 ev
          refine ⟨.ref a, ev, .inl ⟨rfl, vs, .inl (.inl h1)⟩, ?_⟩
          refine bindS r0 hq fun d ρ1 u H1 O1 r1 du hp1 => ?_
          cases e2 : ρ1[i]? with
          | none => rw [e2] at hp1; exact hp1.elim
          | some o1 =>
            cases o1 with
            | none => rw [e2] at hp1; exact hp1.elim
            | some sl1 =>
              rw [e2] at hp1
              have hp2 : PoS X.K hx F W (match sl1.list with
                | some ds => if ds.length < sizeLine then .nx (ρ1.set i (some (sl1.wl (ds ++ [d])))) else .stuck
                | none => .stuck) D := hp1
              cases e3 : sl1.list with
              | none => rw [e3] at hp2; exact hp2.elim
              | some ds1 =>
                rw [e3] at hp2
                obtain ⟨mO, ws, h3, h4⟩ := r1.lat e2 e3 ev
                have hp3 : PoS X.K hx F W (if ds1.length < sizeLine then .nx (ρ1.set i (some (sl1.wl (ds1 ++ [d])))) else .stuck) D := hp2
                split at hp3
                · rename_i hlt
                  have hn : ws.length = ds1.length := h4.length
                  refine ⟨a, ws, u, rfl, rfl, h3, by rw [hn]; exact hlt, ?_⟩
                  exact hp3 σ _ ⟨O1, r1.upd e2 e3 ev (h4.append (.cons du .nil))⟩
                · exact hp3.elim
end
end MB

/-! x[i], x a list of mine or of the caller's: it stays mine -/
namespace MB
open PySem PySem.Spec PyProof.Rows L2
def listAt (ρ : En) (i : Nat) : Option (List D) := (ρ[i]?.bind id).bind Sl.list
theorem listAt_of {ρ : En} {i : Nat} {ds : List D} (h : listAt ρ i = some ds) : ∃ x, ρ[i]? = some (some x) ∧ x.list = some ds := by
  unfold listAt at h
  cases e : ρ[i]? with
  | none => rw [e] at h; cases h
  | some o =>
    cases o with
    | none => rw [e] at h; cases h
    | some x => rw [e] at h; exact ⟨x, rfl, h⟩
theorem RO.ref {K : Fg} {hx : Hx} {F : Fm} {ρ : En} {σ : MB.St} {H : Hp} {O : List Addr} (r : RO K hx F ρ σ H O) {i : Nat} {x : Sl} {ds : List D} (e : ρ[i]? = some (some x)) (hl : x.list = some ds) : ∃ a, σ[i]? = some (some (.ref a)) := by
  obtain ⟨v, ev, h⟩ := r.sl i x e
  cases x with
  | val d => cases hl
  | exc y => cases hl
  | own es => obtain ⟨a, _, rfl, _⟩ := h; exact ⟨a, ev⟩
  | io es => obtain ⟨a, _, rfl, _⟩ := h; exact ⟨a, ev⟩
def eIxO (i : Nat) (f : EX) : EX := fun ρ => match listAt ρ i with
  | some _ => (f ρ).bind fun d ρ1 => match listAt ρ1 i, d with
    | some ds, .int k => match atI ds k with
      | some z => .ok z ρ1
      | none => .stuck
    | _, _ => .stuck
  | none => .stuck
section
variable {X : Cx} {hx : Hx} {W : WX} {b : Expr} {f : EX} {pos p : Pos} {x : Str} {i : Nat}
theorem r_ixO (hb : PE X b (tX X.K hx W f)) (hN : X.N[i]? = some x := by rfl) (hv : Vis X.env.scope x := by first | exact Or.inl rfl | exact Or.inr (Or.inl rfl) | exact Or.inr (Or.inr rfl))
    (hdb : (x == ("__debug__" : Str)) = false := by decide) (hcd : (x == ("__classdict__" : Str)) = false := by decide) (hs : PlainIx b := by first | (intro _ _; rfl) | exact fun _ _ => rfl) :
    PE X (.Subscript (.Name x p) b pos) (tX X.K hx W (eIxO i f)) :=
  (pe_ix ix_seq (pe_var (pos := p) hN hv hdb hcd) hb hs).imp fun σ H Q h => by
    obtain ⟨F, ρ, ⟨O, r0⟩, hp⟩ := h
    unfold eIxO at hp
    cases e0 : listAt ρ i with
    | none => rw [e0] at hp; exact hp.elim
    | some ds =>
      rw [e0] at hp
      obtain ⟨sl, e1, e2⟩ := listAt_of e0
      obtain ⟨a, ev⟩ := r0.ref e1 e2
      refine ⟨.ref a, ev, bindX r0 hp fun d ρ1 u H1 O1 r1 s1 du hp1 => ?_⟩
      cases e3 : listAt ρ1 i with
      | none => rw [e3] at hp1; exact hp1.elim
      | some ds1 =>
        rw [e3] at hp1
        cases d <;> (try exact hp1.elim)
        rename_i k
        cases du
        have hp2 : Po X.K hx F W σ (match atI ds1 k with
          | some z => .ok z ρ1
          | none => .stuck) Q := hp1
        cases e4 : atI ds1 k with
        | none => rw [e4] at hp2; exact hp2.elim
        | some z =>
          rw [e4] at hp2
          obtain ⟨sl1, e5, e6⟩ := listAt_of e3
          obtain ⟨mO, ws, h3, h4⟩ := r1.lat e5 e6 ev
          obtain ⟨v, e7, dv⟩ := atI_dvs h4 e4
          exact .inl ⟨a, ws, k, v, rfl, rfl, .of h3, e7, hp2 v H1 ⟨O1, r1, dv⟩⟩
end
end MB

/-! A new list of mine in a slot. -/
namespace MB
open PySem PySem.Spec PyProof.Rows L2
section
variable {K : Fg} {hx : Hx} {F : Fm} {ρ : En} {σ : MB.St} {H : Hp} {O : List Addr}
theorem RO.new (r : RO K hx F ρ σ H O) {i : Nat} {p : Addr} {vs : List V} {ds : List D} (n : H p = none) (hi : hx.io ≠ some i) (d : DVs K (wo O H) vs ds) :
    RO K hx F (ρ.set i (some (.own ds))) (σ.set i (some (.ref p))) (L2.upd H p (.lst vs)) (p :: O) := by
  have r1 : RO K hx F ρ σ (L2.upd H p (.lst vs)) (p :: O) := r.addOwn n
  have hg : F.g p = none := by
    cases q : F.g p with
    | none => rfl
    | some o => rw [r.gs p o q] at n; cases n
  have np : ∀ {j : Nat} {x : Sl} {es : List D}, ρ[j]? = some (some x) → x.list = some es → σ[j]? ≠ some (some (.ref p)) := fun {j x es} e hl q => by
    obtain ⟨_, vs', h, _⟩ := r.lat e hl q
    rw [n] at h
    cases h
  have nO : p ∉ O := r.out n
  have ew : wo (p :: O) (L2.upd H p (.lst vs)) = wo O H := by
    funext a
    unfold wo
    by_cases z : a = p
    · subst z
      rw [if_pos List.mem_cons_self, if_neg nO, n]
    · by_cases m : a ∈ O
      · rw [if_pos (List.mem_cons_of_mem _ m), if_pos m]
      · rw [if_neg (fun q => (List.mem_cons.mp q).elim z m), if_neg m, upd_ne z]
  refine ⟨r1.fr, r1.gs, r1.go, fun j a y es e1 e2 e3 => ?_, by simp [r.len], fun j y e => ?_, fun j k a y z es1 es2 e1 f1 e2 f2 e3 e4 => ?_, r1.dom, fun j hj => ?_, fun j es e => ?_⟩
  · rcases getset e1 with ⟨q1, q2, q3⟩ | ⟨m, q⟩
    · subst q1
      rw [List.getElem?_set_self (by rw [← r.len]; exact q3)] at e3
      cases e3
      exact hg
    · rw [List.getElem?_set_ne (Ne.symm m)] at e3
      exact r.gn j a y es q e2 e3
  · rcases getset e with ⟨q1, q2, q3⟩ | ⟨m, q⟩
    · subst q1
      cases q2
      exact ⟨.ref p, by rw [List.getElem?_set_self (by rw [← r.len]; exact q3)], p, vs, rfl, List.mem_cons_self, upd_same, by rw [ew]; exact d⟩
    · obtain ⟨v, e2, h⟩ := r1.sl j y q
      exact ⟨v, by rw [List.getElem?_set_ne (Ne.symm m)]; exact e2, h⟩
  · rcases getset e1 with ⟨q1, q2, q3⟩ | ⟨m, q⟩
    · subst q1
      rw [List.getElem?_set_self (by rw [← r.len]; exact q3)] at e3
      cases e3
      rcases getset e2 with ⟨t1, _, _⟩ | ⟨m', t⟩
      · exact t1.symm
      · rw [List.getElem?_set_ne (Ne.symm m')] at e4
        exact absurd e4 (np t f2)
    · rw [List.getElem?_set_ne (Ne.symm m)] at e3
      rcases getset e2 with ⟨t1, _, t3⟩ | ⟨m', t⟩
      · subst t1
        rw [List.getElem?_set_self (by rw [← r.len]; exact t3)] at e4
        cases e4
        exact absurd e3 (np q f1)
      · rw [List.getElem?_set_ne (Ne.symm m')] at e4
        exact r.ne j k a y z es1 es2 q f1 t f2 e3 e4
  · obtain ⟨a, es, e1, e2, e3⟩ := r.pin j hj
    have m : j ≠ i := fun z => hi (by rw [← z]; exact hj)
    exact ⟨a, es, e1, by rw [List.getElem?_set_ne (Ne.symm m)]; exact e2, by rw [List.getElem?_set_ne (Ne.symm m)]; exact e3⟩
  · rcases getset e with ⟨_, q2, _⟩ | ⟨_, q⟩
    · cases q2
    · exact r.nio j es q
end
end MB

/-! x = [a, b, ..]: a new list of mine -/
namespace MB
open PySem PySem.Spec PyProof.Rows L2
theorem evs_out : ∀ (fs : List EX) (ρ : En), (∃ ds ρ1, ∀ k, evs fs k ρ = k ds ρ1) ∨ (∃ x ρ1, ∀ k, evs fs k ρ = .err x ρ1) ∨ (∀ k, evs fs k ρ = .stuck)
  | [], ρ => .inl ⟨[], ρ, fun _ => rfl⟩
  | f :: fs, ρ => by
    cases e : f ρ with
    | err x ρ1 => exact .inr (.inl ⟨x, ρ1, fun k => by show (f ρ).bind _ = _; rw [e]; rfl⟩)
    | stuck => exact .inr (.inr fun k => by show (f ρ).bind _ = _; rw [e]; rfl)
    | ok d ρ1 =>
      have h : ∀ k, evs (f :: fs) k ρ = evs fs (fun ds ρ2 => k (d :: ds) ρ2) ρ1 := fun k => by show (f ρ).bind _ = _; rw [e]; rfl
      rcases evs_out fs ρ1 with ⟨ds, ρ2, q⟩ | ⟨x, ρ2, q⟩ | q
      · exact .inl ⟨d :: ds, ρ2, fun k => by rw [h, q]⟩
      · exact .inr (.inl ⟨x, ρ2, fun k => by rw [h, q]⟩)
      · exact .inr (.inr fun k => by rw [h, q])
def sNewL (i : Nat) (fs : List EX) : SX := fun ρ => match evs fs (fun ds ρ1 => .ok (.tup ds) ρ1) ρ with
  | .ok (.tup ds) ρ1 => if ds.length ≤ sizeLine then .nx (ρ1.set i (some (.own ds))) else .stuck
  | .err x ρ1 => .err x ρ1
  | _ => .stuck
section
variable {X : Cx} {hx : Hx} {W : WX} {es : List Expr} {fs : List EX} {pos pos' pos2 : Pos} {x : Str} {i : Nat}
theorem p_setL (ha : PA X es (tA X.K hx W fs)) (hN : X.N.Nodup) (hi : X.N[i]? = some x) (hl : Loc X.env.scope x) (hs : swapsWith (.List es pos2) (some (.Name x pos')) pos.line X.env = pure false := by rfl)
    (hf : X.fn x = true ∨ X.env.scope.names.lookup x = some .local := by first | exact .inl rfl | exact .inr rfl | assumption) (hio : hx.io ≠ some i := by intro h; cases h) :
    PS X (.Assign [.Name x pos'] (.List es pos2) pos) (tS X.K hx W (sNewL i fs)) := (ps_set hN hi hl (pe_lst ha) hs hf).imp fun D σ H q => by
  obtain ⟨F, ρ, ⟨O, r⟩, hp⟩ := q
  unfold sNewL at hp
  classical
  rcases evs_out fs ρ with ⟨ds, ρ1, e⟩ | ⟨y, ρ1, e⟩ | e
  · rw [e] at hp
    have hp' : PoS X.K hx F W (if ds.length ≤ sizeLine then .nx (ρ1.set i (some (.own ds))) else .stuck) D := hp
    split at hp'
    · rename_i hlen
      refine ⟨F, ρ, fun ds' ρ' => if ds' = ds ∧ ρ' = ρ1 then .ok .non ρ' else .stuck, fun _ _ => True, ⟨O, r⟩, ?_, fun F1 ds' ρ' vs H1 O1 h1 h2 h3 h4 r1 dv hp1 => ?_⟩
      · rw [e, if_pos ⟨rfl, rfl⟩]
        exact fun _ _ _ => trivial
      · by_cases c : ds' = ds ∧ ρ' = ρ1
        · obtain ⟨rfl, rfl⟩ := c
          refine ⟨by rw [dv.length]; exact hlen, fun p np => ?_⟩
          have r2 : RO X.K hx F ρ' σ H1 O1 := r1.fr_of h2 h3 h4
          have r3 := r2.new (i := i) np hio dv
          exact hp' _ _ ⟨_, r3⟩
        · have hp2 : Po X.K hx F1 W σ (if ds' = ds ∧ ρ' = ρ1 then .ok .non ρ' else .stuck) (fun _ _ => True) := hp1
          rw [if_neg c] at hp2
          exact hp2.elim
    · exact hp'.elim
  · rw [e] at hp
    refine ⟨F, ρ, fun _ _ => .stuck, fun _ _ => True, ⟨O, r⟩, ?_, fun F1 ds' ρ' vs H1 O1 h1 h2 h3 h4 r1 dv hp1 => (show False from hp1).elim⟩
    rw [e]
    exact fun cls dd H' hv => hp cls dd σ H' hv
  · rw [e] at hp
    exact (show False from hp).elim
end
end MB

/-! len(x), x a list of mine or of the caller's: it stays mine -/
namespace MB
open PySem PySem.Spec PyProof.Rows L2
def eLenO (i : Nat) : EX := fun ρ => match listAt ρ i with
  | some ds => .ok (.int (ds.length : Nat)) ρ
  | none => .stuck
section
variable {X : Cx} {hx : Hx} {W : WX} {pos p p2 : Pos} {x f : Str} {i : Nat} {id : String}
theorem r_lenO (hc : CallR X (.builtin id) (fun xs H Q => ∃ x n, xs = [x] ∧ LenV X.K x H n ∧ Q (.int n) H)) (hm : X.mg f = none) (hb : bootBuiltins f = some (.builtin id))
    (hN : X.N[i]? = some x := by rfl) (hv : Vis X.env.scope x := by first | exact Or.inl rfl | exact Or.inr (Or.inl rfl) | exact Or.inr (Or.inr rfl))
    (hdb0 : (x == ("__debug__" : Str)) = false := by decide) (hcd : (x == ("__classdict__" : Str)) = false := by decide)
    (hg : Gl X f := by rfl) (hn : f ≠ "__name__" := by decide) (hdb : (f == ("__debug__" : Str)) = false := by decide)
    (he : starEach [.Name x p2] X.env = (false, eval (.Name x p2) X.env) :: starEach [] X.env := by rfl) (hpl : (backTo pos (starEach [] X.env)).any (·.1) = false := by rfl) :
    PE X (.Call (.Name f p) [.Name x p2] [] pos) (tX X.K hx W (eLenO i)) :=
  (pe_callB hc hg hm hb (pa_cons (pe_var (pos := p2) hN hv hdb0 hcd) pa_nil he) hn hdb he hpl).imp fun σ H Q h => by
    obtain ⟨F, ρ, ⟨O, r0⟩, hp⟩ := h
    unfold eLenO at hp
    cases e0 : listAt ρ i with
    | none => rw [e0] at hp; exact hp.elim
    | some ds =>
      rw [e0] at hp
      obtain ⟨sl, e1, e2⟩ := listAt_of e0
      obtain ⟨a, ev⟩ := r0.ref e1 e2
      obtain ⟨mO, ws, h3, h4⟩ := r0.lat e1 e2 ev
      exact ⟨.ref a, ev, _, ds.length, rfl, .inl ⟨ws, .of h3, h4.length.symm⟩, hp (.int (ds.length : Nat)) H ⟨O, r0, .int _⟩⟩
end
end MB

/-! x[k] = e, x a list of mine or of the caller's -/
namespace MB
open PySem PySem.Spec PyProof.Rows L2
def sPutO (i : Nat) (fk fe : EX) : SX := fun ρ => (fe ρ).then fun d ρ1 => match listAt ρ1 i with
  | some _ => (fk ρ1).then fun k ρ2 => match ρ2[i]?, k with
    | some (some x), .int k => match x.list with
      | some ds => match ixN ds.length k with
        | some j => .nx (ρ2.set i (some (x.wl (ds.set j d))))
        | none => .stuck
      | none => .stuck
    | _, _ => .stuck
  | none => .stuck
section
variable {X : Cx} {hx : Hx} {W : WX} {e b : Expr} {fe fk : EX} {pos p p2 : Pos} {x : Str} {i : Nat}
theorem p_putO (he : PE X e (tX X.K hx W fe)) (hb : PE X b (tX X.K hx W fk)) (hpg : PG X (.Subscript (.Name x p) b p2) (gSub (tVar i) (tX X.K hx W fk) rSetL)) (hN : X.N[i]? = some x := by rfl) (hv : Vis X.env.scope x := by first | exact Or.inl rfl | exact Or.inr (Or.inl rfl) | exact Or.inr (Or.inr rfl))
    (hdb0 : (x == ("__debug__" : Str)) = false := by decide) (hcd : (x == ("__classdict__" : Str)) = false := by decide)
    (hs : swapsWith e (some (.Subscript (.Name x p) b p2)) pos.line X.env = pure false := by rfl) :
    PS X (.Assign [.Subscript (.Name x p) b p2] e pos) (tS X.K hx W (sPutO i fk fe)) :=
  (ps_asg he hpg hs).imp fun D σ H h => by
    obtain ⟨F, ρ, ⟨O, r0⟩, hp⟩ := h
    unfold sPutO at hp
    refine bindS r0 hp fun d ρ1 u H1 O1 r1 du hp1 => ?_
    cases e1 : listAt ρ1 i with
    | none => rw [e1] at hp1; exact hp1.elim
    | some ds =>
      rw [e1] at hp1
      obtain ⟨sl, e2, e3⟩ := listAt_of e1
      obtain ⟨a, ev⟩ := r1.ref e2 e3
      refine ⟨.ref a, ev, ?_⟩
      refine bindS (F := ⟨wo O1 H1, F.g, F.io⟩) r1.re (PoS.fr r1.fr rfl rfl hp1) fun k ρ2 w H2 O2 r2 dk hp2 => ?_
      cases e4 : ρ2[i]? with
      | none => rw [e4] at hp2; exact hp2.elim
      | some o =>
        cases o with
        | none => rw [e4] at hp2; exact hp2.elim
        | some sl2 =>
          rw [e4] at hp2
          cases k <;> (try exact hp2.elim)
          rename_i z
          cases dk
          have hp3 : PoS X.K hx ⟨wo O1 H1, F.g, F.io⟩ W (match sl2.list with
            | some ds => match ixN ds.length z with
              | some j => .nx (ρ2.set i (some (sl2.wl (ds.set j d))))
              | none => .stuck
            | none => .stuck) D := hp2
          cases e5 : sl2.list with
          | none => rw [e5] at hp3; exact hp3.elim
          | some ds2 =>
            rw [e5] at hp3
            have hp4 : PoS X.K hx ⟨wo O1 H1, F.g, F.io⟩ W (match ixN ds2.length z with
              | some j => .nx (ρ2.set i (some (sl2.wl (ds2.set j d))))
              | none => .stuck) D := hp3
            cases e6 : ixN ds2.length z with
            | none => rw [e6] at hp4; exact hp4.elim
            | some j =>
              rw [e6] at hp4
              obtain ⟨mO, ws, h3, h4⟩ := r2.lat e4 e5 ev
              exact ⟨a, ws, z, j, rfl, rfl, h3, by rw [h4.length]; exact e6, hp4 σ _ ⟨O2, r2.upd e4 e5 ev (h4.set j (DV.mono r2.fr _ _ du))⟩⟩
end
end MB

/-! Defs that change the caller's list (parameter j) in place: entry and end. -/
namespace MB
open PySem PySem.Spec PyProof.Rows L2
/-- the environment at the entry: data, and at j the caller's list -/
def envI (n j : Nat) (ds : List D) (cs : List D) : En := (envOf n ds).set j (some (.io cs))
/-- at the end: all that stood still stands; the list at a holds the new data; the result is apart of what the caller owns -/
theorem ro_endI {K : Fg} {hx : Hx} {ρ : En} {σ : MB.St} {O O' : List Addr} {H H' : Hp} {a : Addr} {j : Nat} (dom : ∀ a ∈ O, ∃ o, H a = some o) (hj : hx.io = some j)
    (r : RO K hx ⟨wo O H, ownOf O H (some a), some a⟩ ρ σ H' O') : (∀ b o, b ≠ a → H b = some o → H' b = some o) ∧ ∃ cs vs, ρ[j]? = some (some (.io cs)) ∧ H' a = some (.lst vs) ∧ DVs K (wo O' H') vs cs := by
  refine ⟨fun b o n h => ?_, ?_⟩
  · by_cases m : b ∈ O
    · exact r.gs b o (show ownOf O H (some a) b = some o by unfold ownOf; rw [if_pos ⟨m, fun z => n (Option.some.inj z)⟩]; exact h)
    · exact wo_same O' H' b o (r.fr b o (show (if b ∈ O then none else H b) = some o by rw [if_neg m]; exact h))
  · obtain ⟨b, cs, e1, e2, e3⟩ := r.pin j hj
    cases e1
    obtain ⟨_, vs, h1, h2⟩ := r.lat e2 rfl e3
    exact ⟨cs, vs, e2, h1, h2⟩
/-- at the entry: vs are the arguments; the one at j is the address a of a list that the caller owns -/
theorem ro_startI {K : Fg} {e : Option (Addr × Value × Option Addr)} {N : List Str} {O : List Addr} {H : Hp} {vs ws : List V} {ds cs : List D} {a : Addr} {j : Nat} (dom : ∀ a ∈ O, ∃ o, H a = some o) (hl : vs.length = ds.length) (hn : ds.length ≤ N.length)
    (dv : ∀ (i : Nat) (d : D), i ≠ j → ds[i]? = some d → ∃ v, vs[i]? = some v ∧ DV K (wo O H) v d) (hj : j < ds.length) (ha : vs[j]? = some (.ref a)) (mO : a ∈ O) (hH : H a = some (.lst ws)) (dw : DVs K (wo O H) ws cs) :
    RO K ⟨e, some j⟩ ⟨wo O H, ownOf O H (some a), some a⟩ (envI N.length j ds cs) (L2.start N vs) H O := by
  have hlen : (envOf N.length ds).length = N.length := by unfold envOf; simp; omega
  have only : ∀ {i : Nat} {x : Sl} {es : List D}, (envI N.length j ds cs)[i]? = some (some x) → x.list = some es → i = j ∧ x = .io cs := fun {i x es} q hx => by
    rcases getset q with ⟨q1, q2, _⟩ | ⟨_, q1⟩
    · exact ⟨q1, Option.some.inj q2⟩
    · obtain ⟨d, q2, _⟩ := envOf_get q1
      subst q2
      cases hx
  have sj : (L2.start N vs)[j]? = some (some (.ref a)) := start_get ha
  refine ⟨Same.refl _, fun b o h => (ownOf_some h).2.2, fun b o h => (ownOf_some h).1, fun i b x es e1 f1 e2 => ?_, ?_, fun i x q => ?_, fun i k b x y es es2 e1 f1 e2 f2 e3 e4 => ?_, dom, fun k hk => ?_, fun i es q => ?_⟩
  · obtain ⟨rfl, _⟩ := only e1 f1
    rw [sj] at e2
    cases e2
    show ownOf O H (some a) a = none
    unfold ownOf
    rw [if_neg fun z => z.2 rfl]
  · unfold envI
    rw [List.length_set, hlen]
    unfold L2.start
    simp
    omega
  · rcases getset q with ⟨q1, q2, _⟩ | ⟨n, q1⟩
    · subst q1
      cases q2
      exact ⟨.ref a, sj, a, ws, rfl, mO, hH, dw⟩
    · obtain ⟨d, rfl, hd⟩ := envOf_get q1
      obtain ⟨v, hv, h⟩ := dv i d n hd
      exact ⟨v, start_get hv, h⟩
  · obtain ⟨rfl, _⟩ := only e1 f1
    obtain ⟨rfl, _⟩ := only e2 f2
    rfl
  · cases hk
    exact ⟨a, cs, rfl, by unfold envI; rw [List.getElem?_set_self (by omega)], sj⟩
  · obtain ⟨rfl, _⟩ := only q rfl
    rfl
end MB

/-! Defs that change the caller's list in place: what they promise. -/
namespace MB
open PySem PySem.Spec PyProof.Rows L2
inductive RtI where
  | ok (d : D) (cs : List D) | err (x : Ex) (cs : List D) | stuck
abbrev FnI := List D → List D → RtI
/-- all but the list at a stands; there stands cs -/
def NowI (K : Fg) (O : List Addr) (H H' : Hp) (a : Addr) (cs : List D) : Prop := (∀ b o, b ≠ a → H b = some o → H' b = some o) ∧ ∃ ws, H' a = some (.lst ws) ∧ DVs K (wo O H') ws cs
def spI (K : Fg) (n j : Nat) (m : FnI) : Sp := fun vs H Q E => vs.length = n ∧ ∃ (O : List Addr) (ds cs : List D) (a : Addr) (ws : List V), (∀ a ∈ O, ∃ o, H a = some o) ∧ ds.length = n ∧ j < n ∧
  (∀ (i : Nat) (d : D), i ≠ j → ds[i]? = some d → ∃ v, vs[i]? = some v ∧ DV K (wo O H) v d) ∧ vs[j]? = some (.ref a) ∧ a ∈ O ∧ H a = some (.lst ws) ∧ DVs K (wo O H) ws cs ∧ match m ds cs with
  | .ok d cs' => ∀ v H', NowI K O H H' a cs' → DV K (wo O H') v d → Q v H'
  | .err x cs' => ∀ cls dd H', NowI K O H H' a cs' → ExOk K (wo O H') x cls dd → E cls dd H'
  | .stuck => False
/-- the list that the slot j holds at the end -/
def endI (j : Nat) : Fl → RtI
  | .nx ρ => match listAt ρ j with
    | some cs => .ok .non cs
    | none => .stuck
  | .rt d ρ => match listAt ρ j with
    | some cs => .ok d cs
    | none => .stuck
  | .err x ρ => match listAt ρ j with
    | some cs => .err x cs
    | none => .stuck
  | _ => .stuck
def runI (b : SX) (n j : Nat) : FnI := fun ds cs => endI j (b (envI n j ds cs))
theorem ro_outI {K : Fg} {hx : Hx} {ρ : En} {σ : MB.St} {O O' : List Addr} {H H' : Hp} {a : Addr} {j : Nat} {cs : List D} (dom : ∀ a ∈ O, ∃ o, H a = some o) (hj : hx.io = some j) (mO : a ∈ O) (sub : ∀ b ∈ O, b ∈ O')
    (r : RO K hx ⟨wo O H, ownOf O H (some a), some a⟩ ρ σ H' O') (e : listAt ρ j = some cs) : NowI K O H H' a cs ∧ Same (wo O' H') (wo O H') := by
  have sm : Same (wo O' H') (wo O H') := fun b o h => by
    unfold wo at *
    split at h
    · cases h
    · rename_i n
      rw [if_neg fun z => n (sub b z)]
      exact h
  obtain ⟨h1, cs', vs, e1, h2, h3⟩ := ro_endI dom hj r
  have : listAt ρ j = some cs' := by unfold listAt; rw [e1]; rfl
  rw [e] at this
  cases this
  exact ⟨⟨h1, vs, h2, DVs.mono sm _ _ h3⟩, sm⟩
theorem RO.subI {K : Fg} {hx : Hx} {ρ : En} {σ : MB.St} {O O' : List Addr} {H H' : Hp} {a : Addr} {j : Nat} (dom : ∀ a ∈ O, ∃ o, H a = some o) (hj : hx.io = some j) (r : RO K hx ⟨wo O H, ownOf O H (some a), some a⟩ ρ σ H' O') : ∀ b ∈ O, b ∈ O' := fun b m => by
  by_cases z : b = a
  · obtain ⟨b', cs, e1, e2, e3⟩ := r.pin j hj
    cases e1
    rw [z]
    exact (r.lat e2 rfl e3).1
  · obtain ⟨o, e⟩ := dom b m
    exact r.go b o (show ownOf O H (some a) b = some o by unfold ownOf; rw [if_pos ⟨m, fun q => z (Option.some.inj q)⟩]; exact e)
end MB

/-! Defs that change the caller's list in place: the def rule. -/
namespace MB
open PySem PySem.Spec PyProof.Rows L2
theorem bodyI_run {K : Fg} {N : List Str} {b : SX} {n j : Nat} {H : Hp} {vs : List V} {Q : VK} {E : XK} (hn : n ≤ N.length) (h : spI K n j (runI b N.length j) vs H Q E) :
    tS K ⟨none, some j⟩ (fun cls d _ H => E cls d H) b { nx := fun _ H' => Q .non H', rt := Q } (L2.start N vs) H := by
  obtain ⟨hl, O, ds, cs, a, ws, dom, hd, hj, dv, ha, mO, hH, dw, q⟩ := h
  refine ⟨⟨wo O H, ownOf O H (some a), some a⟩, envI N.length j ds cs, ⟨O, ro_startI dom (hl.trans hd.symm) (by omega) dv (by omega) ha mO hH dw⟩, ?_⟩
  unfold runI at q
  cases e : b (envI N.length j ds cs) with
  | nx ρ =>
    rw [e] at q
    intro σ H' ⟨O', r⟩
    unfold endI at q
    cases e2 : listAt ρ j with
    | none => simp only [e2] at q
    | some cs' =>
      simp only [e2] at q
      exact q .non H' (ro_outI dom rfl mO (RO.subI dom rfl r) r e2).1 .non
  | rt d ρ =>
    rw [e] at q
    intro v σ H' ⟨O', r, dv'⟩
    unfold endI at q
    cases e2 : listAt ρ j with
    | none => simp only [e2] at q
    | some cs' =>
      simp only [e2] at q
      have z := ro_outI dom rfl mO (RO.subI dom rfl r) r e2
      exact q v H' z.1 (DV.mono z.2 _ _ dv')
  | err x ρ =>
    rw [e] at q
    intro cls dd σ H' ⟨O', r, ev⟩
    unfold endI at q
    cases e2 : listAt ρ j with
    | none => simp only [e2] at q
    | some cs' =>
      simp only [e2] at q
      have z := ro_outI dom rfl mO (RO.subI dom rfl r) r e2
      exact q cls dd H' z.1 (ev.mono z.2)
  | bk ρ => rw [e] at q; exact q.elim
  | ct ρ => rw [e] at q; exact q.elim
  | stuck => rw [e] at q; exact q.elim
end MB

namespace MB
open PySem PySem.Spec PyProof.Rows L2
section
variable {P : Program} {w : World} {K : Fg} {mg : Str → Option Value} {base : Heap} {x qual : Str} {params : Arguments} {body : List Stmt} {scope : Scope} {f : Addr} {fd : FuncData}
def BodyI (P : Program) (w : World) (K : Fg) (mg : Str → Option Value) (base : Heap) (k j : Nat) (N : List Str) (qual : Str) (scope : Scope) (body : List Stmt) (b : SX) : Prop :=
  ∀ (f : Addr) (cd : Value) (A : Around) (outer : List Env) (s : Shared) (H : Hp) (E : XK), Room k (A.deeper (envOfC qual scope s.heap.objs.size f cd)) → PSs (cx0 P w K mg base N qual scope f cd A outer s H E) body (tS K ⟨none, some j⟩ (wE0 E) b)
abbrev FnVI (P : Program) (w : World) (K : Fg) (mg : Str → Option Value) (base : Heap) (k : Nat) (f : Addr) (fd : FuncData) (ps : List Str) (j : Nat) (m : FnI) : Prop := FnOk P w K mg base (L2N.CX P w) k f fd ps (spI K ps.length j m)
theorem defI_ok {k j : Nat} {N ps : List Str} {b : SX} (F : FunD K x qual params body scope [] [] f fd) (S : FnScope N ps scope) (hN : ps.length ≤ N.length) (hb : BodyI P w K mg base k j N qual scope body b) : FnVI P w K mg base (k + 1) f fd ps j (runI b N.length j) :=
  F.ok S (fun vs H Q E h => h.1) fun cdv A outer s H vs Q E hr h => ⟨_, hb f cdv A outer s H E hr, bodyI_run hN h⟩
structure DfI (P : Program) (w : World) (K : Fg) (mg : Str → Option Value) (base : Heap) (k : Nat) (x : Str) (n j : Nat) (m : FnI) : Prop where
  ex : ∃ f fd ps, mg x = some (.ref f) ∧ PySem.W.keepIn K (.ref f) = true ∧ Binds K fd ps [] ∧ ps.length = n ∧ FnVI P w K mg base k f fd ps j m
end
end MB

/-! Arguments of which some are lists of mine that are handed on by their name. -/
namespace MB
open PySem PySem.Spec PyProof.Rows L2
inductive AX where
  | d (f : EX) | o (i : Nat)
def evsM : List AX → (List D → En → Rs) → En → Rs
  | [], k, ρ => k [] ρ
  | .d f :: fs, k, ρ => (f ρ).bind fun d ρ1 => evsM fs (fun ds ρ2 => k (d :: ds) ρ2) ρ1
  | .o i :: fs, k, ρ => match listAt ρ i with
    | some _ => evsM fs (fun ds ρ2 => k (.non :: ds) ρ2) ρ
    | none => .stuck
inductive ArgsM (K : Fg) (H : Hp) (σ : MB.St) : List AX → List V → List D → Prop
  | nil : ArgsM K H σ [] [] []
  | d {f : EX} {as : List AX} {v : V} {vs : List V} {d : D} {ds : List D} : DV K H v d → ArgsM K H σ as vs ds → ArgsM K H σ (.d f :: as) (v :: vs) (d :: ds)
  | o {i : Nat} {as : List AX} {v : V} {vs : List V} {ds : List D} : σ[i]? = some (some v) → ArgsM K H σ as vs ds → ArgsM K H σ (.o i :: as) (v :: vs) (.non :: ds)
def tM (K : Fg) (hx : Hx) (W : WX) (as : List AX) : TA := fun σ H Qa => ∃ (F : Fm) (ρ : En) (k : List D → En → Rs) (Q : VK), Rl K hx F ρ σ H ∧ Po K hx F W σ (evsM as k ρ) Q ∧
  ∀ (F1 : Fm) (ds : List D) (ρ1 : En) (vs : List V) (H1 : Hp) (O1 : List Addr), Same F.f F1.f → F.g = F1.g → F.io = F1.io → RO K hx F1 ρ1 σ H1 O1 → ArgsM K (wo O1 H1) σ as vs ds → Po K hx F1 W σ (k ds ρ1) Q → Qa vs H1
section
variable {X : Cx} {hx : Hx} {W : WX} {e : Expr} {es : List Expr} {f : EX} {as : List AX} {pos : Pos}
theorem m_nil : PA X [] (tM X.K hx W []) := pa_nil.imp fun σ H Q h => by
  obtain ⟨F, ρ, k, Q0, ⟨O, r⟩, hp, hk⟩ := h
  exact hk F [] ρ [] H O (fun _ _ z => z) rfl rfl r .nil hp
theorem m_d (ha : PE X e (tX X.K hx W f)) (hr : PA X es (tM X.K hx W as)) (hs : starEach (e :: es) X.env = (false, eval e X.env) :: starEach es X.env := by rfl) : PA X (e :: es) (tM X.K hx W (.d f :: as)) :=
  (pa_cons ha hr hs).imp fun σ H Qa h => by
    obtain ⟨F, ρ, k, Q, ⟨O, r⟩, hp, hk⟩ := h
    refine bindX r hp fun d ρ1 v H1 O1 r1 s1 dv hp1 => ?_
    refine ⟨⟨wo O1 H1, F.g, F.io⟩, ρ1, fun ds ρ2 => k (d :: ds) ρ2, Q, ⟨O1, r1.re⟩, hp1.fr r1.fr rfl rfl, fun F1 ds ρ2 vs H2 O2 s2 g2 i2 r2 dvs q => ?_⟩
    exact hk F1 (d :: ds) ρ2 (v :: vs) H2 O2 (r1.fr.trans s2) g2 i2 r2 (.d (DV.mono (s2.trans r2.fr) _ _ dv) dvs) q
theorem m_o {x : Str} {p : Pos} {i : Nat} (hr : PA X es (tM X.K hx W as)) (hN : X.N[i]? = some x := by rfl) (hv : Vis X.env.scope x := by first | exact Or.inl rfl | exact Or.inr (Or.inl rfl) | exact Or.inr (Or.inr rfl))
    (hdb : (x == ("__debug__" : Str)) = false := by decide) (hcd : (x == ("__classdict__" : Str)) = false := by decide) (hs : starEach (.Name x p :: es) X.env = (false, eval (.Name x p) X.env) :: starEach es X.env := by rfl) : PA X (.Name x p :: es) (tM X.K hx W (.o i :: as)) :=
  (pa_cons (pe_var (pos := p) hN hv hdb hcd) hr hs).imp fun σ H Qa h => by
    obtain ⟨F, ρ, k, Q, ⟨O, r⟩, hp, hk⟩ := h
    unfold evsM at hp
    cases e0 : listAt ρ i with
    | none => rw [e0] at hp; exact hp.elim
    | some ds =>
      rw [e0] at hp
      obtain ⟨sl, e1, e2⟩ := listAt_of e0
      obtain ⟨a, ev⟩ := r.ref e1 e2
      exact ⟨.ref a, ev, F, ρ, fun ds ρ2 => k (.non :: ds) ρ2, Q, ⟨O, r⟩, hp, fun F1 ds ρ2 vs H2 O2 s2 g2 i2 r2 dvs q => hk F1 (.non :: ds) ρ2 (.ref a :: vs) H2 O2 s2 g2 i2 r2 (.o ev dvs) q⟩
end
end MB

/-! After a call that changed a list of mine. -/
namespace MB
open PySem PySem.Spec PyProof.Rows L2
theorem RO.now {K : Fg} {hx : Hx} {F : Fm} {ρ : En} {σ : MB.St} {H H' : Hp} {O : List Addr} (r : RO K hx F ρ σ H O) {i : Nat} {x : Sl} {ds cs : List D} {a : Addr} (e : ρ[i]? = some (some x)) (hl : x.list = some ds) (ha : σ[i]? = some (some (.ref a))) (n : NowI K O H H' a cs) :
    RO K hx F (ρ.set i (some (x.wl cs))) σ H' O := by
  obtain ⟨mO, vs, h1, _⟩ := r.lat e hl ha
  obtain ⟨n1, ws, n2, n3⟩ := n
  let H1 : Hp := fun b => if b = a then H a else H' b
  have s1 : Same H H1 := fun b o h => by
    show (if b = a then H a else H' b) = some o
    split
    · rename_i z
      rw [← z]
      exact h
    · rename_i z
      exact n1 b o z h
  have eH : L2.upd H1 a (.lst ws) = H' := by
    funext b
    by_cases z : b = a
    · rw [z, upd_same, n2]
    · rw [upd_ne z]
      show (if b = a then H a else H' b) = H' b
      rw [if_neg z]
  have ew : wo O H1 = wo O H' := by rw [← eH]; exact (wo_at mO).symm
  have := (r.grow s1).upd e hl ha (ws := ws) (es := cs) (by rw [ew]; exact n3)
  rw [eH] at this
  exact this
end MB

/-! Call of a def that changes a list of mine. -/
namespace MB
open PySem PySem.Spec PyProof.Rows L2
def AX.isD : AX → Bool
  | .d _ => true
  | .o _ => false
/-- the slot that is handed on as the list that is changed: the argument j alone -/
def oneO : Nat → List AX → Option Nat
  | 0, .o i :: as => if as.all AX.isD then some i else none
  | n + 1, .d _ :: as => oneO n as
  | _, _ => none
section
variable {K : Fg} {H : Hp} {σ : MB.St}
theorem ArgsM.len : ∀ {as : List AX} {vs : List V} {ds : List D}, ArgsM K H σ as vs ds → vs.length = as.length ∧ ds.length = as.length
  | _, _, _, .nil => ⟨rfl, rfl⟩
  | _, _, _, .d _ t => by obtain ⟨a, b⟩ := t.len; exact ⟨by simp [a], by simp [b]⟩
  | _, _, _, .o _ t => by obtain ⟨a, b⟩ := t.len; exact ⟨by simp [a], by simp [b]⟩
theorem ArgsM.all : ∀ {as : List AX} {vs : List V} {ds : List D}, ArgsM K H σ as vs ds → as.all AX.isD = true → ∀ (q : Nat) (d : D), ds[q]? = some d → ∃ v, vs[q]? = some v ∧ DV K H v d
  | _, _, _, .nil, _, q, z, e => by simp at e
  | _, _, _, .d a t, h, 0, z, e => by
    simp at e
    subst e
    exact ⟨_, rfl, a⟩
  | _, _, _, .d a t, h, q + 1, z, e => by
    obtain ⟨v, h1, h2⟩ := t.all (by simpa [AX.isD] using h) q z (by simpa using e)
    exact ⟨v, by simpa using h1, h2⟩
  | _, _, _, .o a t, h, q, z, e => by simp [AX.isD] at h
theorem ArgsM.one : ∀ {as : List AX} {vs : List V} {ds : List D} {j i : Nat}, ArgsM K H σ as vs ds → oneO j as = some i →
    (∀ (q : Nat) (d : D), q ≠ j → ds[q]? = some d → ∃ v, vs[q]? = some v ∧ DV K H v d) ∧ (∃ v, vs[j]? = some v ∧ σ[i]? = some (some v)) ∧ j < as.length
  | _, _, _, 0, i, .nil, e => by simp [oneO] at e
  | _, _, _, n + 1, i, .nil, e => by simp [oneO] at e
  | _, _, _, 0, i, .d a t, e => by simp [oneO] at e
  | _, _, _, n + 1, i, .o a t, e => by simp [oneO] at e
  | _, _, _, 0, i, .o a t, e => by
    unfold oneO at e
    split at e
    · rename_i h
      cases e
      refine ⟨fun q d hq hd => ?_, ⟨_, rfl, a⟩, by simp⟩
      cases q with
      | zero => exact absurd rfl hq
      | succ q =>
        obtain ⟨v, h1, h2⟩ := t.all h q d (by simpa using hd)
        exact ⟨v, by simpa using h1, h2⟩
    · cases e
  | _, _, _, n + 1, i, .d a t, e => by
    have e' : oneO n _ = some i := e
    obtain ⟨h1, ⟨v, h2, h3⟩, h4⟩ := t.one e'
    refine ⟨fun q d hq hd => ?_, ⟨v, by simpa using h2, h3⟩, by simpa using h4⟩
    cases q with
    | zero =>
      simp at hd
      subst hd
      exact ⟨_, rfl, a⟩
    | succ q =>
      obtain ⟨v, h1, h2⟩ := h1 q d (fun z => hq (by rw [z])) (by simpa using hd)
      exact ⟨v, by simpa using h1, h2⟩
end
theorem evsM_out : ∀ (as : List AX) (ρ : En), (∃ ds ρ1, ∀ k, evsM as k ρ = k ds ρ1) ∨ (∃ x ρ1, ∀ k, evsM as k ρ = .err x ρ1) ∨ (∀ k, evsM as k ρ = .stuck)
  | [], ρ => .inl ⟨[], ρ, fun _ => rfl⟩
  | .d f :: as, ρ => by
    cases e : f ρ with
    | err x ρ1 => exact .inr (.inl ⟨x, ρ1, fun k => by show (f ρ).bind _ = _; rw [e]; rfl⟩)
    | stuck => exact .inr (.inr fun k => by show (f ρ).bind _ = _; rw [e]; rfl)
    | ok d ρ1 =>
      have h : ∀ k, evsM (.d f :: as) k ρ = evsM as (fun ds ρ2 => k (d :: ds) ρ2) ρ1 := fun k => by show (f ρ).bind _ = _; rw [e]; rfl
      rcases evsM_out as ρ1 with ⟨ds, ρ2, q⟩ | ⟨x, ρ2, q⟩ | q
      · exact .inl ⟨d :: ds, ρ2, fun k => by rw [h, q]⟩
      · exact .inr (.inl ⟨x, ρ2, fun k => by rw [h, q]⟩)
      · exact .inr (.inr fun k => by rw [h, q])
  | .o i :: as, ρ => by
    cases e : listAt ρ i with
    | none => exact .inr (.inr fun k => by show (match listAt ρ i with | some _ => _ | none => _) = _; rw [e])
    | some cs =>
      have h : ∀ k, evsM (.o i :: as) k ρ = evsM as (fun ds ρ2 => k (.non :: ds) ρ2) ρ := fun k => by show (match listAt ρ i with | some _ => _ | none => _) = _; rw [e]
      rcases evsM_out as ρ with ⟨ds, ρ2, q⟩ | ⟨x, ρ2, q⟩ | q
      · exact .inl ⟨.non :: ds, ρ2, fun k => by rw [h, q]⟩
      · exact .inr (.inl ⟨x, ρ2, fun k => by rw [h, q]⟩)
      · exact .inr (.inr fun k => by rw [h, q])
def putL (ρ : En) (i : Nat) (cs : List D) : En := match ρ[i]? with
  | some (some x) => ρ.set i (some (x.wl cs))
  | _ => ρ
def eFnI (m : FnI) (i : Nat) (as : List AX) : EX := evsM as fun ds ρ => match listAt ρ i with
  | some cs => match m ds cs with
    | .ok d cs' => .ok d (putL ρ i cs')
    | .err y cs' => .err y (putL ρ i cs')
    | .stuck => .stuck
  | none => .stuck
section
variable {X : Cx} {hx : Hx} {W : WX} {e : Expr} {es : List Expr} {as : List AX} {pos p : Pos} {x : Str} {k n j i : Nat} {m : FnI}
theorem t_fnI (hl : as.length = n) (ho : oneO j as = some i) {σ : MB.St} {H : Hp} {Q : VK} (h : tX X.K hx W (eFnI m i as) σ H Q) : tCallS (spI X.K n j m) (WE W) (tM X.K hx W as) σ H Q := by
  obtain ⟨F, ρ, ⟨O, r0⟩, hp⟩ := h
  refine ⟨F, ρ, _, Q, ⟨O, r0⟩, hp, fun F1 ds ρ1 vs H1 O1 s1 g1 i1 r1 dvs q => ?_⟩
  cases e1 : listAt ρ1 i with
  | none => rw [e1] at q; exact q.elim
  | some cs =>
    rw [e1] at q
    obtain ⟨sl, e2, e3⟩ := listAt_of e1
    obtain ⟨a, ev⟩ := r1.ref e2 e3
    obtain ⟨mO, ws, h1, h2⟩ := r1.lat e2 e3 ev
    obtain ⟨hv, hd⟩ := dvs.len
    obtain ⟨d1, ⟨v, d2, d3⟩, d4⟩ := dvs.one ho
    rw [ev] at d3
    cases d3
    have ep : ∀ cs', putL ρ1 i cs' = ρ1.set i (some (sl.wl cs')) := fun cs' => by unfold putL; rw [e2]
    refine ⟨by rw [hv, hl], O1, ds, cs, a, ws, r1.dom, by rw [hd, hl], by rw [← hl]; exact d4, d1, d2, mO, h1, h2, ?_⟩
    have q' : Po X.K hx F1 W σ (match m ds cs with
      | .ok d cs' => .ok d (putL ρ1 i cs')
      | .err y cs' => .err y (putL ρ1 i cs')
      | .stuck => .stuck) Q := q
    cases em : m ds cs with
    | ok d cs' =>
      rw [em] at q'
      exact fun u H' now dv => q' u H' ⟨O1, by rw [ep]; exact r1.now e2 e3 ev now, dv⟩
    | err y cs' =>
      rw [em] at q'
      exact fun cls dd H' now ex => q' cls dd H' ⟨O1, by rw [ep]; exact r1.now e2 e3 ev now, ex⟩
    | stuck =>
      rw [em] at q'
      exact q'.elim
theorem r_fnI (F : DfI X.prog X.w X.K X.mg X.base k x n j m) (hr : Room k X.A) (tk : L2N.Takes X W) (ha : PA X (e :: es) (tM X.K hx W as)) (hl : as.length = n := by rfl) (ho : oneO j as = some i := by rfl) (hg : Gl X x := by rfl) (hdb : (x == ("__debug__" : Str)) = false := by decide)
    (he : starEach (e :: es) X.env = (false, eval e X.env) :: starEach es X.env := by rfl) (hpl : (backTo pos (starEach es X.env)).any (·.1) = false := by rfl) : PE X (.Call (.Name x p) (e :: es) [] pos) (tX X.K hx W (eFnI m i as)) := by
  obtain ⟨f, fd, ps, hm, hk, hb, en, F⟩ := F.ex
  exact (pe_callS F hr hg hm hk hb (fun σ => L2N.passAt tk σ) ha hdb he hpl).imp fun σ H Q h => by
    have := t_fnI hl ho h
    rw [← en] at this
    exact this
end
section
variable {P : Program} {w : World} {K : Fg} {mg : Str → Option Value} {base : Heap} {x qual : Str} {params : Arguments} {body : List Stmt} {scope : Scope} {f : Addr} {fd : FuncData}
theorem dfI_ok {k j : Nat} {N ps : List Str} {b : SX} (hg : mg x = some (.ref f)) (F : FunD K x qual params body scope [] [] f fd) (S : FnScope N ps scope) (hN : ps.length ≤ N.length) (hbi : Binds K fd ps []) (hb : BodyI P w K mg base k j N qual scope body b) : DfI P w K mg base (k + 1) x ps.length j (runI b N.length j) :=
  ⟨f, fd, ps, hg, F.kp, hbi, rfl, defI_ok F S hN hb⟩
theorem DfI.mono {j k k' n : Nat} {m : FnI} (d : DfI P w K mg base k x n j m) (h : k ≤ k') : DfI P w K mg base k' x n j m := by
  obtain ⟨f, fd, ps, h1, h2, h3, h4, h5⟩ := d.ex
  exact ⟨f, fd, ps, h1, h2, h3, h4, h5.mono h⟩
end
end MB

/-! Defs that hand back a new list: `return a + b` at the end; x = f(..) of such a def is a list of mine. -/
namespace MB
open PySem PySem.Spec PyProof.Rows L2
abbrev FnN := List D → Option (List D)
/-- what is wanted of a new list -/
def NewL (K : Fg) (O : List Addr) (H : Hp) (cs : List D) (Q : VK) : Prop := ∀ (a : Addr) (ws : List V) (H' : Hp), Same H H' → H a = none → H' a = some (.lst ws) → DVs K (wo (a :: O) H') ws cs → Q (.ref a) H'
def spN (K : Fg) (n : Nat) (m : FnN) : Sp := fun vs H Q E => vs.length = n ∧ ∃ (O : List Addr) (ds : List D), (∀ a ∈ O, ∃ o, H a = some o) ∧ DVs K (wo O H) vs ds ∧ match m ds with
  | some cs => NewL K O H cs Q
  | none => False
def tRN (K : Fg) (hx : Hx) (h : En → Option (List D)) : TS := fun D σ H => ∃ F ρ, Rl K hx F ρ σ H ∧ match h ρ with
  | some cs => ∀ σ1 ρ1 H1 O1, RO K hx F ρ1 σ1 H1 O1 → NewL K O1 H1 cs D.rt
  | none => False
def sqN (g : SX) (h : En → Option (List D)) : En → Option (List D) := fun ρ => match g ρ with
  | .nx ρ1 => h ρ1
  | _ => none
def retN (fa fb : EX) : En → Option (List D) := fun ρ => match fa ρ with
  | .ok d ρ1 => match fb ρ1 with
    | .ok e _ => match d, e with
      | .lst xs, .lst ys => if xs.length + ys.length ≤ sizeLine then some (xs ++ ys) else none
      | _, _ => none
    | _ => none
  | _ => none
section
variable {X : Cx} {hx : Hx} {W : WX} {a b : Expr} {fa fb : EX} {pos pos2 : Pos} {st : Stmt} {rest : List Stmt} {g : SX} {h : En → Option (List D)}
theorem pn_ret (ha : PE X a (tX X.K hx W fa)) (hb : PE X b (tX X.K hx W fb)) : PSs X [.Return (some (.BinOp a .Add b pos)) pos2] (tRN X.K hx (retN fa fb)) :=
  pss_one ((ps_ret (pe_op o_add ha hb)).imp fun D σ H q => by
    obtain ⟨F, ρ, ⟨O, r0⟩, hp⟩ := q
    unfold retN at hp
    show tX X.K hx W fa σ H _
    refine ⟨F, ρ, ⟨O, r0⟩, ?_⟩
    cases e : fa ρ with
    | err x ρ1 => rw [e] at hp; exact hp.elim
    | stuck => rw [e] at hp; exact hp.elim
    | ok d ρ1 =>
      rw [e] at hp
      intro v H1 ⟨O1, r1, dv⟩
      refine ⟨⟨wo O1 H1, F.g, F.io⟩, ρ1, ⟨O1, r1.re⟩, ?_⟩
      cases e2 : fb ρ1 with
      | err x ρ2 => simp only [e2] at hp
      | stuck => simp only [e2] at hp
      | ok e3 ρ2 =>
        simp only [e2] at hp
        intro u H2 ⟨O2, r2, du⟩
        have dv2 := DV.mono r2.fr _ _ dv
        have r3 : RO X.K hx F ρ2 σ H2 O2 := r2.fr_of r1.fr rfl rfl
        cases d <;> cases e3 <;> (try exact hp.elim)
        rename_i xs ys
        obtain ⟨p, vs, rfl, sa, da⟩ := dv2.lst_of
        obtain ⟨q, ws, rfl, sb, db⟩ := du.lst_of
        have la := da.length
        have lb := db.length
        have hp' : match (if xs.length + ys.length ≤ sizeLine then some (xs ++ ys) else none) with
          | some cs => ∀ σ1 ρ1 H1 O1, RO X.K hx F ρ1 σ1 H1 O1 → NewL X.K O1 H1 cs D.rt
          | none => False := hp
        split at hp'
        · rename_i cs hcs
          split at hcs
          · rename_i hl
            cases hcs
            refine .inr (.inr (.inl ⟨p, q, vs, ws, rfl, rfl, wo_same O2 H2 _ _ sa, wo_same O2 H2 _ _ sb, by omega, fun l nl => ?_⟩))
            refine hp' σ ρ2 H2 O2 r3 l (vs ++ ws) _ (same_upd nl) nl upd_same ?_
            have ew : Same (wo O2 H2) (wo (l :: O2) (L2.upd H2 l (.lst (vs ++ ws)))) := fun c o hc => by
              unfold wo at *
              split at hc
              · cases hc
              · rename_i n
                have nc : c ≠ l := fun z => by rw [z, nl] at hc; cases hc
                rw [if_neg fun z => (List.mem_cons.mp z).elim nc n, upd_ne nc]
                exact hc
            exact DVs.mono ew _ _ (da.append db)
          · cases hcs
        · exact hp'.elim)
theorem pn_cons (h1 : PS X st (tS X.K hx W g)) (h2 : PSs X rest (tRN X.K hx h)) : PSs X (st :: rest) (tRN X.K hx (sqN g h)) := (pss_cons h1 h2).imp fun D σ H q => by
  obtain ⟨F, ρ, r, hp⟩ := q
  refine ⟨F, ρ, r, ?_⟩
  unfold sqN at hp
  cases e : g ρ with
  | nx ρ1 =>
    rw [e] at hp
    exact fun σ1 H1 r1 => ⟨F, ρ1, r1, hp⟩
  | rt d ρ1 => rw [e] at hp; exact hp.elim
  | bk ρ1 => rw [e] at hp; exact hp.elim
  | ct ρ1 => rw [e] at hp; exact hp.elim
  | err x ρ1 => rw [e] at hp; exact hp.elim
  | stuck => rw [e] at hp; exact hp.elim
end
def runN (h : En → Option (List D)) (n : Nat) : FnN := fun ds => h (envOf n ds)
theorem bodyN_run {K : Fg} {N : List Str} {h : En → Option (List D)} {n : Nat} {H : Hp} {vs : List V} {Q : VK} {E : XK} (q : spN K n (runN h N.length) vs H Q E) :
    tRN K h0 h { nx := fun _ H' => Q .non H', rt := Q } (L2.start N vs) H := by
  obtain ⟨hl, O, ds, dom, dv, q⟩ := q
  refine ⟨_, envOf N.length ds, ⟨O, ro_start dom dv⟩, ?_⟩
  unfold runN at q
  cases e : h (envOf N.length ds) with
  | none => rw [e] at q; exact q.elim
  | some cs =>
    rw [e] at q
    intro σ1 ρ1 H1 O1 r a ws H' s1 n1 l1 d1
    obtain ⟨s0, sm⟩ := ro_end dom r
    have sub : ∀ b ∈ O, b ∈ O1 := fun b m => by
      obtain ⟨o, e⟩ := dom b m
      exact r.go b o (show ownOf O H none b = some o by unfold ownOf; rw [if_pos ⟨m, nofun⟩]; exact e)
    refine q a ws H' (s0.trans s1) ?_ l1 (DVs.mono (fun b o hb => ?_) _ _ d1)
    · cases z : H a with
      | none => rfl
      | some o => rw [s0 a o z] at n1; cases n1
    · unfold wo at *
      split at hb
      · cases hb
      · rename_i n
        rw [if_neg fun z => n ((List.mem_cons.mp z).elim (fun y => by rw [y]; exact List.mem_cons_self) fun y => List.mem_cons_of_mem _ (sub b y))]
        exact hb
section
variable {P : Program} {w : World} {K : Fg} {mg : Str → Option Value} {base : Heap} {x qual : Str} {params : Arguments} {body : List Stmt} {scope : Scope} {f : Addr} {fd : FuncData}
def BodyN (P : Program) (w : World) (K : Fg) (mg : Str → Option Value) (base : Heap) (k : Nat) (N : List Str) (qual : Str) (scope : Scope) (body : List Stmt) (h : En → Option (List D)) : Prop :=
  ∀ (f : Addr) (cd : Value) (A : Around) (outer : List Env) (s : Shared) (H : Hp) (E : XK), Room k (A.deeper (envOfC qual scope s.heap.objs.size f cd)) → PSs (cx0 P w K mg base N qual scope f cd A outer s H E) body (tRN K h0 h)
abbrev FnVN (P : Program) (w : World) (K : Fg) (mg : Str → Option Value) (base : Heap) (k : Nat) (f : Addr) (fd : FuncData) (ps : List Str) (m : FnN) : Prop := FnOk P w K mg base (L2N.CX P w) k f fd ps (spN K ps.length m)
theorem defN_ok {k : Nat} {N ps : List Str} {h : En → Option (List D)} (F : FunD K x qual params body scope [] [] f fd) (S : FnScope N ps scope) (hb : BodyN P w K mg base k N qual scope body h) : FnVN P w K mg base (k + 1) f fd ps (runN h N.length) :=
  F.ok S (fun vs H Q E h => h.1) fun cdv A outer s H vs Q E hr h => ⟨_, hb f cdv A outer s H E hr, bodyN_run h⟩
structure DfN (P : Program) (w : World) (K : Fg) (mg : Str → Option Value) (base : Heap) (k : Nat) (x : Str) (n : Nat) (m : FnN) : Prop where
  ex : ∃ f fd ps, mg x = some (.ref f) ∧ PySem.W.keepIn K (.ref f) = true ∧ Binds K fd ps [] ∧ ps.length = n ∧ FnVN P w K mg base k f fd ps m
theorem dfN_ok {k : Nat} {N ps : List Str} {h : En → Option (List D)} (hg : mg x = some (.ref f)) (F : FunD K x qual params body scope [] [] f fd) (S : FnScope N ps scope) (hbi : Binds K fd ps []) (hb : BodyN P w K mg base k N qual scope body h) : DfN P w K mg base (k + 1) x ps.length (runN h N.length) :=
  ⟨f, fd, ps, hg, F.kp, hbi, rfl, defN_ok F S hb⟩
theorem DfN.mono {j k n : Nat} {m : FnN} (d : DfN P w K mg base j x n m) (h : j ≤ k) : DfN P w K mg base k x n m := by
  obtain ⟨f, fd, ps, h1, h2, h3, h4, h5⟩ := d.ex
  exact ⟨f, fd, ps, h1, h2, h3, h4, h5.mono h⟩
end
/-- a new list laid by someone else comes into a slot -/
theorem RO.newAt {K : Fg} {hx : Hx} {F : Fm} {ρ : En} {σ : MB.St} {H H' : Hp} {O : List Addr} (r : RO K hx F ρ σ H O) {i : Nat} {a : Addr} {ws : List V} {cs : List D} (hi : hx.io ≠ some i) (s : Same H H') (n : H a = none) (l : H' a = some (.lst ws)) (d : DVs K (wo (a :: O) H') ws cs) :
    RO K hx F (ρ.set i (some (.own cs))) (σ.set i (some (.ref a))) H' (a :: O) := by
  let H2 : Hp := fun b => if b = a then none else H' b
  have s2 : Same H H2 := fun b o e => by
    show (if b = a then none else H' b) = some o
    rw [if_neg fun z => by rw [z, n] at e; cases e]
    exact s b o e
  have n2 : H2 a = none := by
    show (if a = a then none else H' a) = none
    rw [if_pos rfl]
  have e1 : L2.upd H2 a (.lst ws) = H' := by
    funext b
    by_cases z : b = a
    · rw [z, upd_same, l]
    · rw [upd_ne z]
      show (if b = a then none else H' b) = H' b
      rw [if_neg z]
  have ew : wo (a :: O) H' = wo O H2 := by
    funext b
    unfold wo
    by_cases z : b = a
    · rw [if_pos (by rw [z]; exact List.mem_cons_self)]
      split
      · rfl
      · rw [z, n2]
    · by_cases m : b ∈ O
      · rw [if_pos m, if_pos (List.mem_cons_of_mem _ m)]
      · rw [if_neg m, if_neg fun y => (List.mem_cons.mp y).elim z m]
        show H' b = if b = a then none else H' b
        rw [if_neg z]
  have := (r.grow s2).new (i := i) n2 hi (by rw [← ew]; exact d)
  rw [e1] at this
  exact this
/-- x = f(..), f hands back a new list -/
def sSetN (i : Nat) (m : FnN) (fs : List EX) : SX := fun ρ => match evs fs (fun ds ρ1 => .ok (.tup ds) ρ1) ρ with
  | .ok (.tup ds) ρ1 => match m ds with
    | some cs => .nx (ρ1.set i (some (.own cs)))
    | none => .stuck
  | .err x ρ1 => .err x ρ1
  | _ => .stuck
section
variable {X : Cx} {hx : Hx} {W : WX} {e : Expr} {es : List Expr} {fs : List EX} {pos pos' pos2 p : Pos} {x f : Str} {i k n : Nat} {m : FnN}
theorem p_setN (F : DfN X.prog X.w X.K X.mg X.base k f n m) (hr : Room k X.A) (tk : L2N.Takes X W) (ha : PA X (e :: es) (tA X.K hx W fs)) (hN : X.N.Nodup) (hi : X.N[i]? = some x) (hl : Loc X.env.scope x) (hln : fs.length = n := by rfl) (hg : Gl X f := by rfl) (hdb : (f == ("__debug__" : Str)) = false := by decide)
    (he : starEach (e :: es) X.env = (false, eval e X.env) :: starEach es X.env := by rfl) (hpl : (backTo pos2 (starEach es X.env)).any (·.1) = false := by rfl) (hs : swapsWith (.Call (.Name f p) (e :: es) [] pos2) (some (.Name x pos')) pos.line X.env = pure false := by rfl)
    (hf : X.fn x = true ∨ X.env.scope.names.lookup x = some .local := by first | exact .inl rfl | exact .inr rfl | assumption) (hio : hx.io ≠ some i := by intro h; cases h) :
    PS X (.Assign [.Name x pos'] (.Call (.Name f p) (e :: es) [] pos2) pos) (tS X.K hx W (sSetN i m fs)) := by
  obtain ⟨fa, fd, ps, hm, hk, hb, en, F⟩ := F.ex
  exact (ps_set hN hi hl (pe_callS F hr hg hm hk hb (fun σ => L2N.passAt tk σ) ha hdb he hpl) hs hf).imp fun D σ H q => by
    obtain ⟨F, ρ, ⟨O, r⟩, hp⟩ := q
    unfold sSetN at hp
    classical
    rcases evs_out fs ρ with ⟨ds, ρ1, e⟩ | ⟨y, ρ1, e⟩ | e
    · rw [e] at hp
      have hp' : PoS X.K hx F W (match m ds with
        | some cs => .nx (ρ1.set i (some (.own cs)))
        | none => .stuck) D := hp
      cases em : m ds with
      | none => rw [em] at hp'; exact hp'.elim
      | some cs =>
        rw [em] at hp'
        refine ⟨F, ρ, fun ds' ρ' => if ds' = ds ∧ ρ' = ρ1 then .ok .non ρ' else .stuck, fun _ _ => True, ⟨O, r⟩, ?_, fun F1 ds' ρ' vs H1 O1 h1 h2 h3 h4 r1 dv hp1 => ?_⟩
        · rw [e, if_pos ⟨rfl, rfl⟩]
          exact fun _ _ _ => trivial
        · by_cases c : ds' = ds ∧ ρ' = ρ1
          · obtain ⟨rfl, rfl⟩ := c
            refine ⟨by rw [dv.length, h1, hln, en], O1, ds', r1.dom, dv, ?_⟩
            rw [em]
            intro a ws H' s1 n1 l1 d1
            have r2 : RO X.K hx F ρ' σ H1 O1 := r1.fr_of h2 h3 h4
            exact hp' _ _ ⟨_, r2.newAt hio s1 n1 l1 d1⟩
          · have hp2 : Po X.K hx F1 W σ (if ds' = ds ∧ ρ' = ρ1 then .ok .non ρ' else .stuck) (fun _ _ => True) := hp1
            rw [if_neg c] at hp2
            exact hp2.elim
    · rw [e] at hp
      refine ⟨F, ρ, fun _ _ => .stuck, fun _ _ => True, ⟨O, r⟩, ?_, fun F1 ds' ρ' vs H1 O1 h1 h2 h3 h4 r1 dv hp1 => (show False from hp1).elim⟩
      rw [e]
      exact fun cls dd H' hv => hp cls dd σ H' hv
    · rw [e] at hp
      exact (show False from hp).elim
end
end MB

namespace K67
open PySem PySem.Spec PyProof.Rows L2 MB
section
variable {P : Program} {w : World} {K : Fg} {mg : Str → Option Value} {base : Heap} {k : Nat}
/-! ### _law_pool -/
abbrev N__law_pool : List Str := ["script", "cells", "x", "seed"]
theorem nd__law_pool : N__law_pool.Nodup := by decide +kernel
theorem sc__law_pool : FnScope N__law_pool ["script"] (defScope (top 65)) := ⟨rfl, rfl, rfl, nd__law_pool, rfl, by decide +kernel, by decide +kernel⟩
def it__law_pool_0 : IX := (iV seqI (eSl (eVar 0) none (some (eC (.int 63)))))
def ce__law_pool_1 : EX := (eB modD (eCall absD [(eCall intD [(eVar 2)])]) (eB powM (eB powM (eC (.int 10)) (eC (.int 60))) (eC (.int 10))))
def it__law_pool_2 : IX := (iV seqI (eVar 1))
def g__law_pool_3 : SX := (sSet 3 (eB modD (eCall intD [(eB addD (eB addD (eB mulD (eVar 3) (eC (.int 31))) (eB modD (eCall intD [(eVar 2)]) (eC (.int 999983)))) (eC (.int 1)))]) (eC (.int 1000003))))
def b__law_pool : En → Option (List D) := (sqN (sSet 1 (eComp it__law_pool_0 (bNm 2) (eC (.bl true)) ce__law_pool_1 [2]))
  (sqN (sSet 3 (eC (.int 7)))
  (sqN (sFor it__law_pool_2 (bNm 2)
  g__law_pool_3)
  (retN (eLst [(eVar 3), (eC (.int 0)), (eC (.int 0))]) (eVar 1)))))
def m__law_pool : FnN := runN b__law_pool 4
theorem bd__law_pool (M : Mg P w K mg) : BodyN P w K mg base k N__law_pool "_law_pool" (defScope (top 65)) (defBody (top 65)) b__law_pool := fun f cd A outer s H E hr =>
  (pn_cons (W := wE0 E) (p_setC (i := 1) (own := [("x", 2)]) rfl nd__law_pool rfl rfl rfl (pi_seq (r_sl (r_var 0) .none (.some r_int))) ri_seq rfl (fun s0 H0 C0 cl0 fp0 => (g_nm (i := 2) nd__law_pool rfl (by first | exact .inl rfl | exact .inr rfl))) (fun s0 H0 C0 cl0 fp0 => c_nil) (fun s0 H0 C0 cl0 fp0 => (r_bin op_modN s_mod (r_callB call_abs s_abs M.f_abs (by decide +kernel) (a_cons (r_callTy call_int1 s_int M.f_int (by decide +kernel) (a_cons (r_var 2) a_nil)) a_nil)) (r_bin o_powM s_powM (r_bin o_powM s_powM r_int r_int) r_int))))
  (pn_cons (W := wE0 E) (p_set (i := 3) nd__law_pool rfl (by first | exact .inl rfl | exact .inr rfl) r_int)
  (pn_cons (W := wE0 E) (p_for ps_cx rfl (pi_seq (r_var 1)) ri_seq (g_nm (i := 2) nd__law_pool rfl (by first | exact .inl rfl | exact .inr rfl))
  (p_one (p_set (i := 3) nd__law_pool rfl (by first | exact .inl rfl | exact .inr rfl) (r_bin op_modN s_mod (r_callTy call_int1 s_int M.f_int (by decide +kernel) (a_cons (r_bin o_add s_add (r_bin o_add s_add (r_bin o_mul s_mul (r_var 3) r_int) (r_bin op_modN s_mod (r_callTy call_int1 s_int M.f_int (by decide +kernel) (a_cons (r_var 2) a_nil)) r_int)) r_int) a_nil)) r_int))))
  (pn_ret (W := wE0 E) (r_lst (a_cons (r_var 3) (a_cons r_int (a_cons r_int a_nil)))) (r_var 1)))))
/-! ### _law_draw -/
abbrev N__law_draw : List Str := ["box", "many", "mixed", "told"]
theorem nd__law_draw : N__law_draw.Nodup := by decide +kernel
theorem sc__law_draw : FnScope N__law_draw ["box", "many"] (defScope (top 66)) := ⟨rfl, rfl, rfl, nd__law_draw, rfl, by decide +kernel, by decide +kernel⟩
def b__law_draw : SX := (sSeq (sIf (eB eqD (eIxO 0 (eC (.int 2))) (eC (.int 0)))
  (sSeq (sPutO 0 (eC (.int 1)) (eB addD (eIxO 0 (eC (.int 1))) (eC (.int 1))))
  (sIf (eB ltD (eB addD (eIxO 0 (eC (.int 1))) (eC (.int 2))) (eLenO 0))
  (sPutO 0 (eC (.int 2)) (eIxO 0 (eB addD (eIxO 0 (eC (.int 1))) (eC (.int 2))))) (sSeq (sSet 2 (eB modD (eCall intD [(eB addD (eB addD (eB mulD (eIxO 0 (eC (.int 0))) (eC (.int 48271))) (eB mulD (eIxO 0 (eC (.int 1))) (eC (.int 69621)))) (eC (.int 11)))]) (eC (.int 2147483647))))
  (sSeq (sSet 2 (eB modD (eCall intD [(eB addD (eB addD (eB mulD (eVar 2) (eVar 2)) (eB mulD (eIxO 0 (eC (.int 1))) (eC (.int 40692)))) (eC (.int 3)))]) (eC (.int 2147483399))))
  (sRet (eB modD (eB fdivD (eVar 2) (eC (.int 7))) (eVar 1))))))) sNil)
  (sSeq (sSet 3 (eB modD (eCall intD [(eIxO 0 (eC (.int 2)))]) (eVar 1)))
  (sSeq (sPutO 0 (eC (.int 2)) (eB fdivD (eIxO 0 (eC (.int 2))) (eVar 1)))
  (sRet (eVar 3)))))
def m__law_draw : FnI := runI b__law_draw 4 0
theorem bd__law_draw (M : Mg P w K mg) : BodyI P w K mg base k 0 N__law_draw "_law_draw" (defScope (top 66)) (defBody (top 66)) b__law_draw := fun f cd A outer s H E hr =>
  (p_cons (p_if (r_cmpT (o_eq hr.units) s_eq b_eq (r_ixO r_int) r_int rfl)
  (p_cons (p_putO (i := 0) (r_bin o_add s_add (r_ixO r_int) r_int) r_int (pg_sub (pe_var (i := 0) rfl (by first | exact Or.inl rfl | exact Or.inr (Or.inl rfl) | exact Or.inr (Or.inr rfl)) (by decide) (by decide)) r_int set_list))
  (p_one (p_if (r_cmpT op_lt (s_cmpI _) b_cmpI (r_bin o_add s_add (r_ixO r_int) r_int) (r_lenO call_len M.f_len (by decide +kernel)) rfl)
  (p_one (p_putO (i := 0) (r_ixO (r_bin o_add s_add (r_ixO r_int) r_int)) r_int (pg_sub (pe_var (i := 0) rfl (by first | exact Or.inl rfl | exact Or.inr (Or.inl rfl) | exact Or.inr (Or.inr rfl)) (by decide) (by decide)) r_int set_list))) (p_cons (p_set (i := 2) nd__law_draw rfl (by first | exact .inl rfl | exact .inr rfl) (r_bin op_modN s_mod (r_callTy call_int1 s_int M.f_int (by decide +kernel) (a_cons (r_bin o_add s_add (r_bin o_add s_add (r_bin o_mul s_mul (r_ixO r_int) r_int) (r_bin o_mul s_mul (r_ixO r_int) r_int)) r_int) a_nil)) r_int))
  (p_cons (p_set (i := 2) nd__law_draw rfl (by first | exact .inl rfl | exact .inr rfl) (r_bin op_modN s_mod (r_callTy call_int1 s_int M.f_int (by decide +kernel) (a_cons (r_bin o_add s_add (r_bin o_add s_add (r_bin o_mul s_mul (r_var 2) (r_var 2)) (r_bin o_mul s_mul (r_ixO r_int) r_int)) r_int) a_nil)) r_int))
  (p_one (p_ret (r_bin op_modN s_mod (r_bin o_fdiv s_fdiv (r_var 2) r_int) (r_var 1))))))))) p_nil)
  (p_cons (p_set (i := 3) nd__law_draw rfl (by first | exact .inl rfl | exact .inr rfl) (r_bin op_modN s_mod (r_callTy call_int1 s_int M.f_int (by decide +kernel) (a_cons (r_ixO r_int) a_nil)) (r_var 1)))
  (p_cons (p_putO (i := 0) (r_bin o_fdiv s_fdiv (r_ixO r_int) (r_var 1)) r_int (pg_sub (pe_var (i := 0) rfl (by first | exact Or.inl rfl | exact Or.inr (Or.inl rfl) | exact Or.inr (Or.inr rfl)) (by decide) (by decide)) r_int set_list))
  (p_one (p_ret (r_var 3))))))
/-! ### _law_great -/
abbrev N__law_great : List Str := ["box", "many", "told", "k"]
theorem nd__law_great : N__law_great.Nodup := by decide +kernel
theorem sc__law_great : FnScope N__law_great ["box", "many"] (defScope (top 70)) := ⟨rfl, rfl, rfl, nd__law_great, rfl, by decide +kernel, by decide +kernel⟩
def it__law_great_0 : IX := (iR1 (eC (.int 6)))
def g__law_great_1 : SX := (sSet 2 (eB addD (eB mulD (eVar 2) (eB powM (eC (.int 10)) (eC (.int 6)))) (eFnI m__law_draw 0 [.o 0, .d (eB powM (eC (.int 10)) (eC (.int 6)))])))
def b__law_great : SX := (sSeq (sSet 2 (eC (.int 0)))
  (sSeq (sFor it__law_great_0 (bNm 3)
  g__law_great_1)
  (sRet (eB modD (eCall intD [(eVar 2)]) (eVar 1)))))
def m__law_great : FnI := runI b__law_great 4 0
theorem bd__law_great (M : Mg P w K mg) (D__law_draw : DfI P w K mg base k "_law_draw" 2 0 m__law_draw) : BodyI P w K mg base k 0 N__law_great "_law_great" (defScope (top 70)) (defBody (top 70)) b__law_great := fun f cd A outer s H E hr =>
  (p_cons (p_set (i := 2) nd__law_great rfl (by first | exact .inl rfl | exact .inr rfl) r_int)
  (p_cons (p_for ps_cx rfl (pi_range1 rfl M.f_range (pa_cons r_int pa_nil)) ri_r1 (g_nm (i := 3) nd__law_great rfl (by first | exact .inl rfl | exact .inr rfl))
  (p_one (p_set (i := 2) nd__law_great rfl (by first | exact .inl rfl | exact .inr rfl) (r_bin o_add s_add (r_bin o_mul s_mul (r_var 2) (r_bin o_powM s_powM r_int r_int)) (r_fnI D__law_draw hr tk_cx (m_o (m_d (r_bin o_powM s_powM r_int r_int) m_nil)))))))
  (p_one (p_ret (r_bin op_modN s_mod (r_callTy call_int1 s_int M.f_int (by decide +kernel) (a_cons (r_var 2) a_nil)) (r_var 1))))))
/-! ### _law_number -/
abbrev N__law_number : List Str := ["box", "low", "high", "kind"]
theorem nd__law_number : N__law_number.Nodup := by decide +kernel
theorem sc__law_number : FnScope N__law_number ["box", "low", "high"] (defScope (top 71)) := ⟨rfl, rfl, rfl, nd__law_number, rfl, by decide +kernel, by decide +kernel⟩
def b__law_number : SX := (sSeq (sSet 3 (eFnI m__law_draw 0 [.o 0, .d (eC (.int 5))]))
  (sSeq (sIf (eB ltD (eVar 3) (eC (.int 2)))
  (sRet (eB addD (eVar 1) (eFnI m__law_draw 0 [.o 0, .d (eC (.int 60))]))) sNil)
  (sSeq (sIf (eB eqD (eVar 3) (eC (.int 2)))
  (sRet (eB addD (eVar 1) (eFnI m__law_draw 0 [.o 0, .d (eC (.int 4))]))) sNil)
  (sSeq (sIf (eB eqD (eVar 3) (eC (.int 3)))
  (sRet (eB subD (eVar 2) (eFnI m__law_draw 0 [.o 0, .d (eC (.int 13))]))) sNil)
  (sRet (eB addD (eVar 1) (eFnI m__law_great 0 [.o 0, .d (eB addD (eB subD (eVar 2) (eVar 1)) (eC (.int 1)))])))))))
def m__law_number : FnI := runI b__law_number 4 0
theorem bd__law_number (M : Mg P w K mg) (D__law_draw : DfI P w K mg base k "_law_draw" 2 0 m__law_draw) (D__law_great : DfI P w K mg base k "_law_great" 2 0 m__law_great) : BodyI P w K mg base k 0 N__law_number "_law_number" (defScope (top 71)) (defBody (top 71)) b__law_number := fun f cd A outer s H E hr =>
  (p_cons (p_set (i := 3) nd__law_number rfl (by first | exact .inl rfl | exact .inr rfl) (r_fnI D__law_draw hr tk_cx (m_o (m_d r_int m_nil))))
  (p_cons (p_if (r_cmpT op_lt (s_cmpI _) b_cmpI (r_var 3) r_int rfl)
  (p_one (p_ret (r_bin o_add s_add (r_var 1) (r_fnI D__law_draw hr tk_cx (m_o (m_d r_int m_nil)))))) p_nil)
  (p_cons (p_if (r_cmpT (o_eq hr.units) s_eq b_eq (r_var 3) r_int rfl)
  (p_one (p_ret (r_bin o_add s_add (r_var 1) (r_fnI D__law_draw hr tk_cx (m_o (m_d r_int m_nil)))))) p_nil)
  (p_cons (p_if (r_cmpT (o_eq hr.units) s_eq b_eq (r_var 3) r_int rfl)
  (p_one (p_ret (r_bin op_sub s_sub (r_var 2) (r_fnI D__law_draw hr tk_cx (m_o (m_d r_int m_nil)))))) p_nil)
  (p_one (p_ret (r_bin o_add s_add (r_var 1) (r_fnI D__law_great hr tk_cx (m_o (m_d (r_bin o_add s_add (r_bin op_sub s_sub (r_var 2) (r_var 1)) r_int) m_nil))))))))))
/-! ### _law_wishes -/
abbrev N__law_wishes : List Str := ["box", "told"]
theorem nd__law_wishes : N__law_wishes.Nodup := by decide +kernel
theorem sc__law_wishes : FnScope N__law_wishes ["box"] (defScope (top 72)) := ⟨rfl, rfl, rfl, nd__law_wishes, rfl, by decide +kernel, by decide +kernel⟩
def b__law_wishes : SX := (sSeq (sNewL 1 [(eTup [(eC (.str "rounds")), (eFnI m__law_number 0 [.o 0, .d (eC (.int 2)), .d (eB powM (eC (.int 10)) (eC (.int 30)))])])])
  (sSeq (sApp0 1 (eTup [(eC (.str "triples")), (eFnI m__law_number 0 [.o 0, .d (eC (.int 3)), .d (eB powM (eC (.int 10)) (eC (.int 30)))]), (eFnI m__law_number 0 [.o 0, .d (eC (.int 1)), .d (eC (.int 1000))])]))
  (sSeq (sApp0 1 (eTup [(eC (.str "ring")), (eFnI m__law_number 0 [.o 0, .d (eC (.int 3)), .d (eB powM (eC (.int 10)) (eC (.int 30)))])]))
  (sSeq (sApp0 1 (eTup [(eC (.str "days")), (eFnI m__law_number 0 [.o 0, .d (eC (.int 3)), .d (eB powM (eC (.int 10)) (eC (.int 30)))])]))
  (sSeq (sApp0 1 (eTup [(eC (.str "fours")), (eFnI m__law_number 0 [.o 0, .d (eC (.int 4)), .d (eB powM (eC (.int 10)) (eC (.int 30)))])]))
  (sSeq (sApp0 1 (eTup [(eC (.str "mates")), (eFnI m__law_number 0 [.o 0, .d (eC (.int 1)), .d (eB powM (eC (.int 10)) (eC (.int 30)))])]))
  (sSeq (sApp0 1 (eTup [(eC (.str "signs")), (eFnI m__law_number 0 [.o 0, .d (eC (.int 1)), .d (eC (.int 64))])]))
  (sRet (eVar 1)))))))))
def m__law_wishes : FnI := runI b__law_wishes 2 0
theorem bd__law_wishes (M : Mg P w K mg) (D__law_number : DfI P w K mg base k "_law_number" 3 0 m__law_number) : BodyI P w K mg base k 0 N__law_wishes "_law_wishes" (defScope (top 72)) (defBody (top 72)) b__law_wishes := fun f cd A outer s H E hr =>
  (p_cons (p_setL (i := 1) (a_cons (r_tup (a_cons r_str (a_cons (r_fnI D__law_number hr tk_cx (m_o (m_d r_int (m_d (r_bin o_powM s_powM r_int r_int) m_nil)))) a_nil))) a_nil) nd__law_wishes rfl (by first | exact .inl rfl | exact .inr rfl))
  (p_cons (p_app (r_tup (a_cons r_str (a_cons (r_fnI D__law_number hr tk_cx (m_o (m_d r_int (m_d (r_bin o_powM s_powM r_int r_int) m_nil)))) (a_cons (r_fnI D__law_number hr tk_cx (m_o (m_d r_int (m_d r_int m_nil)))) a_nil)))))
  (p_cons (p_app (r_tup (a_cons r_str (a_cons (r_fnI D__law_number hr tk_cx (m_o (m_d r_int (m_d (r_bin o_powM s_powM r_int r_int) m_nil)))) a_nil))))
  (p_cons (p_app (r_tup (a_cons r_str (a_cons (r_fnI D__law_number hr tk_cx (m_o (m_d r_int (m_d (r_bin o_powM s_powM r_int r_int) m_nil)))) a_nil))))
  (p_cons (p_app (r_tup (a_cons r_str (a_cons (r_fnI D__law_number hr tk_cx (m_o (m_d r_int (m_d (r_bin o_powM s_powM r_int r_int) m_nil)))) a_nil))))
  (p_cons (p_app (r_tup (a_cons r_str (a_cons (r_fnI D__law_number hr tk_cx (m_o (m_d r_int (m_d (r_bin o_powM s_powM r_int r_int) m_nil)))) a_nil))))
  (p_cons (p_app (r_tup (a_cons r_str (a_cons (r_fnI D__law_number hr tk_cx (m_o (m_d r_int (m_d r_int m_nil)))) a_nil))))
  (p_one (p_ret (r_var 1))))))))))
/-! ### _law_bounds -/
abbrev N__law_bounds : List Str := ["wish", "low"]
theorem nd__law_bounds : N__law_bounds.Nodup := by decide +kernel
theorem sc__law_bounds : FnScope N__law_bounds ["wish"] (defScope (top 76)) := ⟨rfl, rfl, rfl, nd__law_bounds, rfl, by decide +kernel, by decide +kernel⟩
def b__law_bounds : SX := (sSeq (sSet 1 (eC (dInts [("rounds", 2), ("triples", 3), ("ring", 3), ("days", 3), ("fours", 4), ("mates", 1), ("signs", 1)])))
  (sSeq (sIf (eB eqD (eB ixD (eVar 0) (eC (.int 0))) (eC (.str "signs")))
  (sRet (eTup [(eC (.int 1)), (eC (.int 64))])) sNil)
  (sRet (eTup [(eIxK (eVar 1) (eB ixD (eVar 0) (eC (.int 0)))), (eB powM (eC (.int 10)) (eC (.int 30)))]))))
def m__law_bounds : Fn := runS b__law_bounds 2
theorem bd__law_bounds (M : Mg P w K mg) : Body P w K mg base k N__law_bounds "_law_bounds" (defScope (top 76)) (defBody (top 76)) b__law_bounds := fun f cd A outer s H E hr =>
  (p_cons (p_set (i := 1) nd__law_bounds rfl (by first | exact .inl rfl | exact .inr rfl) (r_dct (kvs := [("rounds", 2), ("triples", 3), ("ring", 3), ("days", 3), ("fours", 4), ("mates", 1), ("signs", 1)]) (pps_cons pe_str pe_int (pps_cons pe_str pe_int (pps_cons pe_str pe_int (pps_cons pe_str pe_int (pps_cons pe_str pe_int (pps_cons pe_str pe_int (pps_cons pe_str pe_int pps_nil))))))) (by rfl) (by decide)))
  (p_cons (p_if (r_cmpT (o_eq hr.units) s_eq b_eq (r_ix (r_var 0) r_int) r_str rfl)
  (p_one (p_ret (r_tup (a_cons r_int (a_cons r_int a_nil))))) p_nil)
  (p_one (p_ret (r_tup (a_cons (r_ixK hr.units (r_var 1) (r_ix (r_var 0) r_int)) (a_cons (r_bin o_powM s_powM r_int r_int) a_nil)))))))
/-! ### _law_wrong -/
abbrev N__law_wrong : List Str := ["box", "wish", "kind", "low", "high", "far", "number", "word"]
theorem nd__law_wrong : N__law_wrong.Nodup := by decide +kernel
theorem sc__law_wrong : FnScope N__law_wrong ["box", "wish"] (defScope (top 77)) := ⟨rfl, rfl, rfl, nd__law_wrong, rfl, by decide +kernel, by decide +kernel⟩
def b__law_wrong : SX := (sSeq (sSet 2 (eFnI m__law_draw 0 [.o 0, .d (eC (.int 12))]))
  (sSeq (sUn (bTp [(bNm 3), (bNm 4)]) (eFn m__law_bounds [(eVar 1)]))
  (sSeq (sSet 5 (eFnI m__law_great 0 [.o 0, .d (eB powM (eC (.int 10)) (eC (.int 30)))]))
  (sSeq (sIf (eB ltD (eVar 2) (eC (.int 4)))
  (sSeq (sSet 6 (eB ixD (eLst [(eB subD (eVar 3) (eC (.int 1))), (eB addD (eVar 4) (eC (.int 1))), (eB subD (eC (.int 0)) (eVar 5)), (eB addD (eB addD (eVar 4) (eC (.int 1))) (eVar 5))]) (eVar 2)))
  (sRet (eB addD (eTup [(eB ixD (eVar 1) (eC (.int 0))), (eVar 6)]) (eSl (eVar 1) (some (eC (.int 2))) none)))) sNil)
  (sSeq (sIf (eB eqD (eVar 2) (eC (.int 4)))
  (sRet (eSl (eVar 1) none (some (e1 negD (eC (.int 1)))))) sNil)
  (sSeq (sIf (eB eqD (eVar 2) (eC (.int 5)))
  (sRet (eB addD (eVar 1) (eTup [(eB addD (eC (.int 1)) (eFnI m__law_draw 0 [.o 0, .d (eC (.int 9))]))]))) sNil)
  (sSeq (sIf (eB eqD (eVar 2) (eC (.int 6)))
  (sRet (eB addD (eTup [(eB ixD (eVar 1) (eC (.int 0))), (eTup [(eB ixD (eVar 1) (eC (.int 1)))])]) (eSl (eVar 1) (some (eC (.int 2))) none))) sNil)
  (sSeq (sIf (eB eqD (eVar 2) (eC (.int 7)))
  (sRet (eB addD (eTup [(eB ixD (eVar 1) (eC (.int 0))), (eCall strD [(eB ixD (eVar 1) (eC (.int 1)))])]) (eSl (eVar 1) (some (eC (.int 2))) none))) sNil)
  (sSeq (sIf (eB eqD (eVar 2) (eC (.int 8)))
  (sRet (eSl (eVar 1) (some (eC (.int 1))) none)) sNil)
  (sSeq (sIf (eB eqD (eVar 2) (eC (.int 9)))
  (sSeq (sSet 7 (eB ixD (eLst [(eC (.str "round")), (eC (.str "Rounds")), (eC (.str "ringed")), (eC (.str "")), (eC (.str "triple")), (eC (.str "four")), (eC (.str "mate")), (eC (.str "sign")), (eC (.str "plane"))]) (eFnI m__law_draw 0 [.o 0, .d (eC (.int 9))])))
  (sRet (eB addD (eTup [(eVar 7)]) (eSl (eVar 1) (some (eC (.int 1))) none)))) sNil)
  (sSeq (sIf (eB eqD (eVar 2) (eC (.int 10)))
  (sRet (eTup [(eC (.str "triples")), (eB addD (eC (.int 3)) (eVar 5)), (eB ixD (eLst [(eC (.int 0)), (eC (.int 1001)), (eB subD (eC (.int 0)) (eC (.int 1))), (eB addD (eC (.int 1001)) (eVar 5))]) (eFnI m__law_draw 0 [.o 0, .d (eC (.int 4))]))])) sNil)
  (sRet (eB ixD (eLst [(eTup [(eVar 1)]), (eTup []), (eTup [(eTup [])]), (eB addD (eTup [(eC (.str "symmetric"))]) (eSl (eVar 1) (some (eC (.int 1))) (some (eC (.int 2))))), (eTup [(eB ixD (eVar 1) (eC (.int 1))), (eB ixD (eVar 1) (eC (.int 0)))])]) (eFnI m__law_draw 0 [.o 0, .d (eC (.int 5))]))))))))))))))
def m__law_wrong : FnI := runI b__law_wrong 8 0
theorem bd__law_wrong (M : Mg P w K mg) (D__law_draw : DfI P w K mg base k "_law_draw" 2 0 m__law_draw) (D__law_bounds : Df P w K mg base k "_law_bounds" 1 m__law_bounds) (D__law_great : DfI P w K mg base k "_law_great" 2 0 m__law_great) : BodyI P w K mg base k 0 N__law_wrong "_law_wrong" (defScope (top 77)) (defBody (top 77)) b__law_wrong := fun f cd A outer s H E hr =>
  (p_cons (p_set (i := 2) nd__law_wrong rfl (by first | exact .inl rfl | exact .inr rfl) (r_fnI D__law_draw hr tk_cx (m_o (m_d r_int m_nil))))
  (p_cons (p_un (r_fn D__law_bounds hr tk_cx (a_cons (r_var 1) a_nil)) (g_tp rfl (gs_cons (g_nm (i := 3) nd__law_wrong rfl (by first | exact .inl rfl | exact .inr rfl)) (gs_cons (g_nm (i := 4) nd__law_wrong rfl (by first | exact .inl rfl | exact .inr rfl)) gs_nil))))
  (p_cons (p_set (i := 5) nd__law_wrong rfl (by first | exact .inl rfl | exact .inr rfl) (r_fnI D__law_great hr tk_cx (m_o (m_d (r_bin o_powM s_powM r_int r_int) m_nil))))
  (p_cons (p_if (r_cmpT op_lt (s_cmpI _) b_cmpI (r_var 2) r_int rfl)
  (p_cons (p_set (i := 6) nd__law_wrong rfl (by first | exact .inl rfl | exact .inr rfl) (r_ix (r_lst (a_cons (r_bin op_sub s_sub (r_var 3) r_int) (a_cons (r_bin o_add s_add (r_var 4) r_int) (a_cons (r_bin op_sub s_sub r_int (r_var 5)) (a_cons (r_bin o_add s_add (r_bin o_add s_add (r_var 4) r_int) (r_var 5)) a_nil))))) (r_var 2)))
  (p_one (p_ret (r_bin o_add s_add (r_tup (a_cons (r_ix (r_var 1) r_int) (a_cons (r_var 6) a_nil))) (r_sl (r_var 1) (.some r_int) .none))))) p_nil)
  (p_cons (p_if (r_cmpT (o_eq hr.units) s_eq b_eq (r_var 2) r_int rfl)
  (p_one (p_ret (r_sl (r_var 1) .none (.some (r_un un_neg s_neg r_int))))) p_nil)
  (p_cons (p_if (r_cmpT (o_eq hr.units) s_eq b_eq (r_var 2) r_int rfl)
  (p_one (p_ret (r_bin o_add s_add (r_var 1) (r_tup (a_cons (r_bin o_add s_add r_int (r_fnI D__law_draw hr tk_cx (m_o (m_d r_int m_nil)))) a_nil))))) p_nil)
  (p_cons (p_if (r_cmpT (o_eq hr.units) s_eq b_eq (r_var 2) r_int rfl)
  (p_one (p_ret (r_bin o_add s_add (r_tup (a_cons (r_ix (r_var 1) r_int) (a_cons (r_tup (a_cons (r_ix (r_var 1) r_int) a_nil)) a_nil))) (r_sl (r_var 1) (.some r_int) .none)))) p_nil)
  (p_cons (p_if (r_cmpT (o_eq hr.units) s_eq b_eq (r_var 2) r_int rfl)
  (p_one (p_ret (r_bin o_add s_add (r_tup (a_cons (r_ix (r_var 1) r_int) (a_cons (r_callTy call_str_int s_str M.f_str (by decide +kernel) (a_cons (r_ix (r_var 1) r_int) a_nil)) a_nil))) (r_sl (r_var 1) (.some r_int) .none)))) p_nil)
  (p_cons (p_if (r_cmpT (o_eq hr.units) s_eq b_eq (r_var 2) r_int rfl)
  (p_one (p_ret (r_sl (r_var 1) (.some r_int) .none))) p_nil)
  (p_cons (p_if (r_cmpT (o_eq hr.units) s_eq b_eq (r_var 2) r_int rfl)
  (p_cons (p_set (i := 7) nd__law_wrong rfl (by first | exact .inl rfl | exact .inr rfl) (r_ix (r_lst (a_cons r_str (a_cons r_str (a_cons r_str (a_cons r_str (a_cons r_str (a_cons r_str (a_cons r_str (a_cons r_str (a_cons r_str a_nil)))))))))) (r_fnI D__law_draw hr tk_cx (m_o (m_d r_int m_nil)))))
  (p_one (p_ret (r_bin o_add s_add (r_tup (a_cons (r_var 7) a_nil)) (r_sl (r_var 1) (.some r_int) .none))))) p_nil)
  (p_cons (p_if (r_cmpT (o_eq hr.units) s_eq b_eq (r_var 2) r_int rfl)
  (p_one (p_ret (r_tup (a_cons r_str (a_cons (r_bin o_add s_add r_int (r_var 5)) (a_cons (r_ix (r_lst (a_cons r_int (a_cons r_int (a_cons (r_bin op_sub s_sub r_int r_int) (a_cons (r_bin o_add s_add r_int (r_var 5)) a_nil))))) (r_fnI D__law_draw hr tk_cx (m_o (m_d r_int m_nil)))) a_nil)))))) p_nil)
  (p_one (p_ret (r_ix (r_lst (a_cons (r_tup (a_cons (r_var 1) a_nil)) (a_cons (r_tup a_nil) (a_cons (r_tup (a_cons (r_tup a_nil) a_nil)) (a_cons (r_bin o_add s_add (r_tup (a_cons r_str a_nil)) (r_sl (r_var 1) (.some r_int) (.some r_int))) (a_cons (r_tup (a_cons (r_ix (r_var 1) r_int) (a_cons (r_ix (r_var 1) r_int) a_nil))) a_nil)))))) (r_fnI D__law_draw hr tk_cx (m_o (m_d r_int m_nil)))))))))))))))))
/-! ### _law_due -/
abbrev N__law_due : List Str := ["wish", "word", "v", "two", "three", "four", "told"]
theorem nd__law_due : N__law_due.Nodup := by decide +kernel
theorem sc__law_due : FnScope N__law_due ["wish"] (defScope (top 73)) := ⟨rfl, rfl, rfl, nd__law_due, rfl, by decide +kernel, by decide +kernel⟩
def b__law_due : SX := (sSeq (sSet 1 (eB ixD (eVar 0) (eC (.int 0))))
  (sSeq (sSet 2 (eB ixD (eVar 0) (eC (.int 1))))
  (sSeq (sSet 3 (eB modD (eCall intD [(eVar 2)]) (eC (.int 2))))
  (sSeq (sSet 4 (eB modD (eCall intD [(eVar 2)]) (eC (.int 3))))
  (sSeq (sSet 5 (eB modD (eCall intD [(eVar 2)]) (eC (.int 4))))
  (sSeq (sNewL 6 [])
  (sSeq (sIf (eAnd (eB eqD (eVar 1) (eC (.str "rounds"))) (eB eqD (eVar 3) (eC (.int 1))))
  (sApp0 6 (eTup [(eC (.str "odd"))])) sNil)
  (sSeq (sIf (eAnd (eB eqD (eVar 1) (eC (.str "triples"))) (eAnd (eB eqD (eVar 3) (eC (.int 0))) (eB eqD (eB modD (eCall intD [(eB ixD (eVar 0) (eC (.int 2)))]) (eC (.int 2))) (eC (.int 1)))))
  (sApp0 6 (eTup [(eC (.str "point"))])) sNil)
  (sSeq (sIf (eAnd (eB eqD (eVar 1) (eC (.str "triples"))) (eAnd (eB eqD (eVar 4) (eC (.int 2))) (eB gtD (eB modD (eCall intD [(eB ixD (eVar 0) (eC (.int 2)))]) (eC (.int 3))) (eC (.int 0)))))
  (sApp0 6 (eTup [(eC (.str "lots"))])) sNil)
  (sSeq (sIf (eAnd (eB inM (eVar 1) (eTup [(eC (.str "ring")), (eC (.str "days"))])) (eB eqD (eVar 3) (eC (.int 0))))
  (sApp0 6 (eTup [(eC (.str "point"))])) sNil)
  (sSeq (sIf (eAnd (eB eqD (eVar 1) (eC (.str "ring"))) (eB eqD (eVar 4) (eC (.int 2))))
  (sApp0 6 (eTup [(eC (.str "lots"))])) sNil)
  (sSeq (sIf (eAnd (eB eqD (eVar 1) (eC (.str "ring"))) (eB eqD (eVar 2) (eC (.int 9))))
  (sApp0 6 (eTup [(eC (.str "cases"))])) sNil)
  (sSeq (sIf (eAnd (eB eqD (eVar 1) (eC (.str "days"))) (eB gtD (eVar 4) (eC (.int 0))))
  (sApp0 6 (eTup [(eC (.str "days"))])) sNil)
  (sSeq (sIf (eAnd (eB eqD (eVar 1) (eC (.str "fours"))) (eB neD (eVar 4) (eC (.int 1))))
  (sApp0 6 (eTup [(eC (.str "point"))])) sNil)
  (sSeq (sIf (eAnd (eB eqD (eVar 1) (eC (.str "fours"))) (eOr (eB eqD (eVar 4) (eC (.int 2))) (eB gtD (eVar 5) (eC (.int 1)))))
  (sApp0 6 (eTup [(eC (.str "lots"))])) sNil)
  (sSeq (sIf (eAnd (eB eqD (eVar 1) (eC (.str "mates"))) (eB eqD (eVar 2) (eC (.int 2))))
  (sApp0 6 (eTup [(eC (.str "two"))])) sNil)
  (sSeq (sIf (eAnd (eB eqD (eVar 1) (eC (.str "mates"))) (eB eqD (eVar 2) (eC (.int 6))))
  (sApp0 6 (eTup [(eC (.str "six"))])) sNil)
  (sSeq (sIf (eAnd (eB eqD (eVar 1) (eC (.str "signs"))) (eAnd (eB gtD (eVar 2) (eC (.int 2))) (eB gtD (eVar 5) (eC (.int 0)))))
  (sApp0 6 (eTup [(eC (.str "rows"))])) sNil)
  (sRet (eVar 6))))))))))))))))))))
def m__law_due : Fn := runS b__law_due 7
theorem bd__law_due (M : Mg P w K mg) : Body P w K mg base k N__law_due "_law_due" (defScope (top 73)) (defBody (top 73)) b__law_due := fun f cd A outer s H E hr =>
  (p_cons (p_set (i := 1) nd__law_due rfl (by first | exact .inl rfl | exact .inr rfl) (r_ix (r_var 0) r_int))
  (p_cons (p_set (i := 2) nd__law_due rfl (by first | exact .inl rfl | exact .inr rfl) (r_ix (r_var 0) r_int))
  (p_cons (p_set (i := 3) nd__law_due rfl (by first | exact .inl rfl | exact .inr rfl) (r_bin op_modN s_mod (r_callTy call_int1 s_int M.f_int (by decide +kernel) (a_cons (r_var 2) a_nil)) r_int))
  (p_cons (p_set (i := 4) nd__law_due rfl (by first | exact .inl rfl | exact .inr rfl) (r_bin op_modN s_mod (r_callTy call_int1 s_int M.f_int (by decide +kernel) (a_cons (r_var 2) a_nil)) r_int))
  (p_cons (p_set (i := 5) nd__law_due rfl (by first | exact .inl rfl | exact .inr rfl) (r_bin op_modN s_mod (r_callTy call_int1 s_int M.f_int (by decide +kernel) (a_cons (r_var 2) a_nil)) r_int))
  (p_cons (p_setL (i := 6) a_nil nd__law_due rfl (by first | exact .inl rfl | exact .inr rfl))
  (p_cons (p_if (r_andT (r_cmpT (o_eq hr.units) s_eq b_eq (r_var 1) r_str rfl) (r_andT1 (r_cmpT (o_eq hr.units) s_eq b_eq (r_var 3) r_int rfl))).pt
  (p_one (p_app (r_tup (a_cons r_str a_nil)))) p_nil)
  (p_cons (p_if (r_andT (r_cmpT (o_eq hr.units) s_eq b_eq (r_var 1) r_str rfl) (r_andT (r_cmpT (o_eq hr.units) s_eq b_eq (r_var 3) r_int rfl) (r_andT1 (r_cmpT (o_eq hr.units) s_eq b_eq (r_bin op_modN s_mod (r_callTy call_int1 s_int M.f_int (by decide +kernel) (a_cons (r_ix (r_var 0) r_int) a_nil)) r_int) r_int rfl)))).pt
  (p_one (p_app (r_tup (a_cons r_str a_nil)))) p_nil)
  (p_cons (p_if (r_andT (r_cmpT (o_eq hr.units) s_eq b_eq (r_var 1) r_str rfl) (r_andT (r_cmpT (o_eq hr.units) s_eq b_eq (r_var 4) r_int rfl) (r_andT1 (r_cmpT op_gt (s_cmpI _) b_cmpI (r_bin op_modN s_mod (r_callTy call_int1 s_int M.f_int (by decide +kernel) (a_cons (r_ix (r_var 0) r_int) a_nil)) r_int) r_int rfl)))).pt
  (p_one (p_app (r_tup (a_cons r_str a_nil)))) p_nil)
  (p_cons (p_if (r_andT (r_cmpT (o_inM (hu65 hr)) s_inM b_inM (r_var 1) (r_tup (a_cons r_str (a_cons r_str a_nil))) rfl) (r_andT1 (r_cmpT (o_eq hr.units) s_eq b_eq (r_var 3) r_int rfl))).pt
  (p_one (p_app (r_tup (a_cons r_str a_nil)))) p_nil)
  (p_cons (p_if (r_andT (r_cmpT (o_eq hr.units) s_eq b_eq (r_var 1) r_str rfl) (r_andT1 (r_cmpT (o_eq hr.units) s_eq b_eq (r_var 4) r_int rfl))).pt
  (p_one (p_app (r_tup (a_cons r_str a_nil)))) p_nil)
  (p_cons (p_if (r_andT (r_cmpT (o_eq hr.units) s_eq b_eq (r_var 1) r_str rfl) (r_andT1 (r_cmpT (o_eq hr.units) s_eq b_eq (r_var 2) r_int rfl))).pt
  (p_one (p_app (r_tup (a_cons r_str a_nil)))) p_nil)
  (p_cons (p_if (r_andT (r_cmpT (o_eq hr.units) s_eq b_eq (r_var 1) r_str rfl) (r_andT1 (r_cmpT op_gt (s_cmpI _) b_cmpI (r_var 4) r_int rfl))).pt
  (p_one (p_app (r_tup (a_cons r_str a_nil)))) p_nil)
  (p_cons (p_if (r_andT (r_cmpT (o_eq hr.units) s_eq b_eq (r_var 1) r_str rfl) (r_andT1 (r_cmpT (o_ne hr.units) s_ne b_ne (r_var 4) r_int rfl))).pt
  (p_one (p_app (r_tup (a_cons r_str a_nil)))) p_nil)
  (p_cons (p_if (r_andT (r_cmpT (o_eq hr.units) s_eq b_eq (r_var 1) r_str rfl) (r_andT1 (r_orT (r_cmpT (o_eq hr.units) s_eq b_eq (r_var 4) r_int rfl) (r_orT1 (r_cmpT op_gt (s_cmpI _) b_cmpI (r_var 5) r_int rfl))).pt)).pt
  (p_one (p_app (r_tup (a_cons r_str a_nil)))) p_nil)
  (p_cons (p_if (r_andT (r_cmpT (o_eq hr.units) s_eq b_eq (r_var 1) r_str rfl) (r_andT1 (r_cmpT (o_eq hr.units) s_eq b_eq (r_var 2) r_int rfl))).pt
  (p_one (p_app (r_tup (a_cons r_str a_nil)))) p_nil)
  (p_cons (p_if (r_andT (r_cmpT (o_eq hr.units) s_eq b_eq (r_var 1) r_str rfl) (r_andT1 (r_cmpT (o_eq hr.units) s_eq b_eq (r_var 2) r_int rfl))).pt
  (p_one (p_app (r_tup (a_cons r_str a_nil)))) p_nil)
  (p_cons (p_if (r_andT (r_cmpT (o_eq hr.units) s_eq b_eq (r_var 1) r_str rfl) (r_andT (r_cmpT op_gt (s_cmpI _) b_cmpI (r_var 2) r_int rfl) (r_andT1 (r_cmpT op_gt (s_cmpI _) b_cmpI (r_var 5) r_int rfl)))).pt
  (p_one (p_app (r_tup (a_cons r_str a_nil)))) p_nil)
  (p_one (p_ret (r_var 6)))))))))))))))))))))
/-! ### _law_same -/
abbrev N__law_same : List Str := ["told", "due", "a", "b"]
theorem nd__law_same : N__law_same.Nodup := by decide +kernel
theorem sc__law_same : FnScope N__law_same ["told", "due"] (defScope (top 67)) := ⟨rfl, rfl, rfl, nd__law_same, rfl, by decide +kernel, by decide +kernel⟩
def it__law_same_0 (m : Fn) : IX := (iZ (eVar 0) (eVar 1))
def ce__law_same_1 (m : Fn) : EX := (eFn m [(eVar 2), (eVar 3)])
def b__law_same (m : Fn) : SX := (sSeq (sIf (eB isM (eVar 1) (eC .non))
  (sRet (eB isM (eVar 0) (eC .non))) sNil)
  (sSeq (sIf (eB isM (eVar 1) (eC (.bl true)))
  (sRet (eB isM (eVar 0) (eC (.bl true)))) sNil)
  (sSeq (sIf (eB isM (eVar 1) (eC (.bl false)))
  (sRet (eB isM (eVar 0) (eC (.bl false)))) sNil)
  (sSeq (sIf (eIsT "int" (eVar 1))
  (sRet (eAnd (eIsT "int" (eVar 0)) (eAnd (eNot (eIsT "bool" (eVar 0))) (eB eqD (eVar 0) (eVar 1))))) sNil)
  (sSeq (sIf (eIsT "str" (eVar 1))
  (sRet (eAnd (eIsT "str" (eVar 0)) (eB eqD (eVar 0) (eVar 1)))) sNil)
  (sSeq (sIf (eIsT "list" (eVar 1))
  (sIf (eOr (eNot (eIsT "list" (eVar 0))) (eB neD (eCall lenD [(eVar 0)]) (eCall lenD [(eVar 1)])))
  (sRet (eC (.bl false))) sNil) (sIf (eOr (eNot (eIsT "tuple" (eVar 0))) (eB neD (eCall lenD [(eVar 0)]) (eCall lenD [(eVar 1)])))
  (sRet (eC (.bl false))) sNil))
  (sRet (eCall allD [(eComp (it__law_same_0 m) (bTp [(bNm 2), (bNm 3)]) (eC (.bl true)) (ce__law_same_1 m) [2, 3])]))))))))
def m__law_same : Nat → Fn
  | 0 => fun _ => .stuck
  | n + 1 => runS (b__law_same (m__law_same n)) 4
theorem bd__law_same {m : Fn} (M : Mg P w K mg) (D__law_same : Df P w K mg base k "_law_same" 2 m) : Body P w K mg base k N__law_same "_law_same" (defScope (top 67)) (defBody (top 67)) (b__law_same m) := fun f cd A outer s H E hr =>
  (p_cons (p_if (r_cmpT o_isM s_isM b_isM (r_var 1) r_non rfl)
  (p_one (p_ret (r_cmp o_isM s_isM (r_var 0) r_non rfl))) p_nil)
  (p_cons (p_if (r_cmpT o_isM s_isM b_isM (r_var 1) r_bl rfl)
  (p_one (p_ret (r_cmp o_isM s_isM (r_var 0) r_bl rfl))) p_nil)
  (p_cons (p_if (r_cmpT o_isM s_isM b_isM (r_var 1) r_bl rfl)
  (p_one (p_ret (r_cmp o_isM s_isM (r_var 0) r_bl rfl))) p_nil)
  (p_cons (p_if (r_tru (r_isT (r_var 1) M.f_isinstance M.f_int (by decide +kernel)))
  (p_one (p_ret (r_and (r_isT (r_var 0) M.f_isinstance M.f_int (by decide +kernel)) (r_and (r_not (r_isT (r_var 0) M.f_isinstance M.f_bool (by decide +kernel))) (r_one (r_cmp (o_eq hr.units) s_eq (r_var 0) (r_var 1) rfl)))))) p_nil)
  (p_cons (p_if (r_tru (r_isT (r_var 1) M.f_isinstance M.f_str (by decide +kernel)))
  (p_one (p_ret (r_and (r_isT (r_var 0) M.f_isinstance M.f_str (by decide +kernel)) (r_one (r_cmp (o_eq hr.units) s_eq (r_var 0) (r_var 1) rfl))))) p_nil)
  (p_cons (p_if (r_tru (r_isT (r_var 1) M.f_isinstance M.f_list (by decide +kernel)))
  (p_one (p_if (r_orT (r_notT (r_tru (r_isT (r_var 0) M.f_isinstance M.f_list (by decide +kernel)))) (r_orT1 (r_cmpT (o_ne hr.units) s_ne b_ne (r_callB call_len s_len M.f_len (by decide +kernel) (a_cons (r_var 0) a_nil)) (r_callB call_len s_len M.f_len (by decide +kernel) (a_cons (r_var 1) a_nil)) rfl))).pt
  (p_one (p_ret r_bl)) p_nil)) (p_one (p_if (r_orT (r_notT (r_tru (r_isT (r_var 0) M.f_isinstance M.f_tuple (by decide +kernel)))) (r_orT1 (r_cmpT (o_ne hr.units) s_ne b_ne (r_callB call_len s_len M.f_len (by decide +kernel) (a_cons (r_var 0) a_nil)) (r_callB call_len s_len M.f_len (by decide +kernel) (a_cons (r_var 1) a_nil)) rfl))).pt
  (p_one (p_ret r_bl)) p_nil)))
  (p_one (p_ret (r_callB (cr_all rfl) s_all M.f_all (by decide +kernel) (a_cons (r_comp (own := [("a", 2), ("b", 3)]) rfl nd__law_same (RZ.pi_zipA rfl M.f_zip (pa_cons (r_var 0) (pa_cons (r_var 1) pa_nil))) ri_zip rfl (fun s0 H0 C0 cl0 fp0 => (g_tp rfl (gs_cons (g_nm (i := 2) nd__law_same rfl (by first | exact .inl rfl | exact .inr rfl)) (gs_cons (g_nm (i := 3) nd__law_same rfl (by first | exact .inl rfl | exact .inr rfl)) gs_nil)))) (fun s0 H0 C0 cl0 fp0 => c_nil) (fun s0 H0 C0 cl0 fp0 => (r_fn D__law_same hr tk0 (a_cons (r_var 2) (a_cons (r_var 3) a_nil))))) a_nil))))))))))
/-! ### is_number -/
abbrev N_is_number : List Str := ["thing"]
theorem nd_is_number : N_is_number.Nodup := by decide +kernel
theorem sc_is_number : FnScope N_is_number ["thing"] (defScope (top 32)) := ⟨rfl, rfl, rfl, nd_is_number, rfl, by decide +kernel, by decide +kernel⟩
def b_is_number : SX := (sRet (eAnd (eIsT "int" (eVar 0)) (eNot (eIsT "bool" (eVar 0)))))
def m_is_number : Fn := runS b_is_number 1
theorem bd_is_number (M : Mg P w K mg) : Body P w K mg base k N_is_number "is_number" (defScope (top 32)) (defBody (top 32)) b_is_number := fun f cd A outer s H E hr =>
  (p_one (p_ret (r_and (r_isT (r_var 0) M.f_isinstance M.f_int (by decide +kernel)) (r_one (r_not (r_isT (r_var 0) M.f_isinstance M.f_bool (by decide +kernel)))))))
/-! ### _is_wish -/
abbrev N__is_wish : List Str := ["wish", "bounds", "number", "low", "high"]
theorem nd__is_wish : N__is_wish.Nodup := by decide +kernel
theorem sc__is_wish : FnScope N__is_wish ["wish"] (defScope (top 48)) := ⟨rfl, rfl, rfl, nd__is_wish, rfl, by decide +kernel, by decide +kernel⟩
def it__is_wish_0 : IX := (iZ (eSl (eVar 0) (some (eC (.int 1))) none) (eVar 1))
def g__is_wish_1 : SX := (sIf (eOr (eNot (eFn m_is_number [(eVar 2)])) (eOr (eB ltD (eVar 2) (eVar 3)) (eB gtD (eVar 2) (eVar 4))))
  (sRet (eC (.bl false))) sNil)
def b__is_wish : SX := (sSeq (sIf (eOr (eNot (eIsT "tuple" (eVar 0))) (eB eqD (eCall lenD [(eVar 0)]) (eC (.int 0))))
  (sRet (eC (.bl false))) sNil)
  (sSeq (sIf (eOr (eNot (eIsT "str" (eB ixD (eVar 0) (eC (.int 0))))) (eNinS tb_BOUNDS (eB ixD (eVar 0) (eC (.int 0)))))
  (sRet (eC (.bl false))) sNil)
  (sSeq (sSet 1 (eTbS tb_BOUNDS (eB ixD (eVar 0) (eC (.int 0)))))
  (sSeq (sIf (eB neD (eCall lenD [(eVar 0)]) (eB addD (eCall lenD [(eVar 1)]) (eC (.int 1))))
  (sRet (eC (.bl false))) sNil)
  (sSeq (sFor it__is_wish_0 (bTp [(bNm 2), (bTp [(bNm 3), (bNm 4)])])
  g__is_wish_1)
  (sRet (eOr (eB neD (eB ixD (eVar 0) (eC (.int 0))) (eC (.str "symmetric"))) eStuck)))))))
def m__is_wish : Fn := runS b__is_wish 5
theorem bd__is_wish (M : Mg P w K mg) (D_is_number : Df P w K mg base k "is_number" 1 m_is_number) : Body P w K mg base k N__is_wish "_is_wish" (defScope (top 48)) (defBody (top 48)) b__is_wish := fun f cd A outer s H E hr =>
  (p_cons (p_if (r_orT (r_notT (r_tru (r_isT (r_var 0) M.f_isinstance M.f_tuple (by decide +kernel)))) (r_orT1 (r_cmpT (o_eq hr.units) s_eq b_eq (r_callB call_len s_len M.f_len (by decide +kernel) (a_cons (r_var 0) a_nil)) r_int rfl))).pt
  (p_one (p_ret r_bl)) p_nil)
  (p_cons (p_if (r_orT (r_notT (r_tru (r_isT (r_ix (r_var 0) r_int) M.f_isinstance M.f_str (by decide +kernel)))) (r_orT1 (r_ninST M.t_BOUNDS M.g_BOUNDS (r_ix (r_var 0) r_int)))).pt
  (p_one (p_ret r_bl)) p_nil)
  (p_cons (p_set (i := 1) nd__is_wish rfl (by first | exact .inl rfl | exact .inr rfl) (r_tbS M.t_BOUNDS M.g_BOUNDS (r_ix (r_var 0) r_int)))
  (p_cons (p_if (r_cmpT (o_ne hr.units) s_ne b_ne (r_callB call_len s_len M.f_len (by decide +kernel) (a_cons (r_var 0) a_nil)) (r_bin o_add s_add (r_callB call_len s_len M.f_len (by decide +kernel) (a_cons (r_var 1) a_nil)) r_int) rfl)
  (p_one (p_ret r_bl)) p_nil)
  (p_cons (p_for ps_cx rfl (RZ.pi_zipA rfl M.f_zip (pa_cons (r_sl (r_var 0) (.some r_int) .none) (pa_cons (r_var 1) pa_nil))) ri_zip (g_tp rfl (gs_cons (g_nm (i := 2) nd__is_wish rfl (by first | exact .inl rfl | exact .inr rfl)) (gs_cons (g_tp rfl (gs_cons (g_nm (i := 3) nd__is_wish rfl (by first | exact .inl rfl | exact .inr rfl)) (gs_cons (g_nm (i := 4) nd__is_wish rfl (by first | exact .inl rfl | exact .inr rfl)) gs_nil))) gs_nil)))
  (p_one (p_if (r_orT (r_notT (r_tru (r_fn D_is_number hr tk_cx (a_cons (r_var 2) a_nil)))) (r_orT (r_cmpT op_lt (s_cmpI _) b_cmpI (r_var 2) (r_var 3) rfl) (r_orT1 (r_cmpT op_gt (s_cmpI _) b_cmpI (r_var 2) (r_var 4) rfl)))).pt
  (p_one (p_ret r_bl)) p_nil)))
  (p_one (p_ret (r_or (r_cmp (o_ne hr.units) s_ne (r_ix (r_var 0) r_int) r_str rfl) (r_one r_stuck)))))))))
/-! ### looked_wish -/
abbrev N_looked_wish : List Str := ["wish"]
theorem nd_looked_wish : N_looked_wish.Nodup := by decide +kernel
theorem sc_looked_wish : FnScope N_looked_wish ["wish"] (defScope (top 49)) := ⟨rfl, rfl, rfl, nd_looked_wish, rfl, by decide +kernel, by decide +kernel⟩
def b_looked_wish : SX := (sSeq (sIf (eNot (eFn m__is_wish [(eVar 0)]))
  (sRaise0 "WishError") sNil)
  (sRet (eB ixD (eVar 0) (eC (.int 0)))))
def m_looked_wish : Fn := runS b_looked_wish 1
theorem bd_looked_wish (M : Mg P w K mg) (D__is_wish : Df P w K mg base k "_is_wish" 1 m__is_wish) : Body P w K mg base k N_looked_wish "looked_wish" (defScope (top 49)) (defBody (top 49)) b_looked_wish := fun f cd A outer s H E hr =>
  (p_cons (p_if (r_notT (r_tru (r_fn D__is_wish hr tk_cx (a_cons (r_var 0) a_nil))))
  (p_one (p_raise0 rfl tk_cx M.x0_WishError)) p_nil)
  (p_one (p_ret (r_ix (r_var 0) r_int))))
/-! ### _bar -/
abbrev N__bar : List Str := ["word", "applies"]
theorem nd__bar : N__bar.Nodup := by decide +kernel
theorem sc__bar : FnScope N__bar ["word", "applies"] (defScope (top 51)) := ⟨rfl, rfl, rfl, nd__bar, rfl, by decide +kernel, by decide +kernel⟩
def b__bar : SX := (sRet (eIf (eVar 1) (eLst [(eTup [(eVar 0)])]) (eLst [])))
def m__bar : Fn := runS b__bar 2
theorem bd__bar (M : Mg P w K mg) : Body P w K mg base k N__bar "_bar" (defScope (top 51)) (defBody (top 51)) b__bar := fun f cd A outer s H E hr =>
  (p_one (p_ret (r_ifE (r_tru (r_var 1)) (r_lst (a_cons (r_tup (a_cons (r_var 0) a_nil)) a_nil)) (r_lst a_nil))))
/-! ### _rounds_bars -/
abbrev N__rounds_bars : List Str := ["wish", "_", "v"]
theorem nd__rounds_bars : N__rounds_bars.Nodup := by decide +kernel
theorem sc__rounds_bars : FnScope N__rounds_bars ["wish"] (defScope (top 52)) := ⟨rfl, rfl, rfl, nd__rounds_bars, rfl, by decide +kernel, by decide +kernel⟩
def b__rounds_bars : SX := (sSeq (sUn (bTp [(bNm 1), (bNm 2)]) (eVar 0))
  (sRet (eFn m__bar [(eC (.str "odd")), (eB eqD (eB modD (eVar 2) (eC (.int 2))) (eC (.int 1)))])))
def m__rounds_bars : Fn := runS b__rounds_bars 3
theorem bd__rounds_bars (M : Mg P w K mg) (D__bar : Df P w K mg base k "_bar" 2 m__bar) : Body P w K mg base k N__rounds_bars "_rounds_bars" (defScope (top 52)) (defBody (top 52)) b__rounds_bars := fun f cd A outer s H E hr =>
  (p_cons (p_un (r_var 0) (g_tp rfl (gs_cons (g_nm (i := 1) nd__rounds_bars rfl (by first | exact .inl rfl | exact .inr rfl)) (gs_cons (g_nm (i := 2) nd__rounds_bars rfl (by first | exact .inl rfl | exact .inr rfl)) gs_nil))))
  (p_one (p_ret (r_fn D__bar hr tk_cx (a_cons r_str (a_cons (r_cmp (o_eq hr.units) s_eq (r_bin op_modN s_mod (r_var 2) r_int) r_int rfl) a_nil))))))
/-! ### _triples_bars -/
abbrev N__triples_bars : List Str := ["wish", "_", "v", "fold", "point"]
theorem nd__triples_bars : N__triples_bars.Nodup := by decide +kernel
theorem sc__triples_bars : FnScope N__triples_bars ["wish"] (defScope (top 53)) := ⟨rfl, rfl, rfl, nd__triples_bars, rfl, by decide +kernel, by decide +kernel⟩
def b__triples_bars : SX := (sSeq (sUn (bTp [(bNm 1), (bNm 2), (bNm 3)]) (eVar 0))
  (sSeq (sSet 4 (eFn m__bar [(eC (.str "point")), (eB eqD (eB modD (eB mulD (eVar 3) (eB subD (eVar 2) (eC (.int 1)))) (eC (.int 2))) (eC (.int 1)))]))
  (sRet (eB addD (eVar 4) (eFn m__bar [(eC (.str "lots")), (eB neD (eB modD (eB mulD (eB mulD (eVar 3) (eVar 2)) (eB subD (eVar 2) (eC (.int 1)))) (eC (.int 6))) (eC (.int 0)))])))))
def m__triples_bars : Fn := runS b__triples_bars 5
theorem bd__triples_bars (M : Mg P w K mg) (D__bar : Df P w K mg base k "_bar" 2 m__bar) : Body P w K mg base k N__triples_bars "_triples_bars" (defScope (top 53)) (defBody (top 53)) b__triples_bars := fun f cd A outer s H E hr =>
  (p_cons (p_un (r_var 0) (g_tp rfl (gs_cons (g_nm (i := 1) nd__triples_bars rfl (by first | exact .inl rfl | exact .inr rfl)) (gs_cons (g_nm (i := 2) nd__triples_bars rfl (by first | exact .inl rfl | exact .inr rfl)) (gs_cons (g_nm (i := 3) nd__triples_bars rfl (by first | exact .inl rfl | exact .inr rfl)) gs_nil)))))
  (p_cons (p_set (i := 4) nd__triples_bars rfl (by first | exact .inl rfl | exact .inr rfl) (r_fn D__bar hr tk_cx (a_cons r_str (a_cons (r_cmp (o_eq hr.units) s_eq (r_bin op_modN s_mod (r_bin o_mul s_mul (r_var 3) (r_bin op_sub s_sub (r_var 2) r_int)) r_int) r_int rfl) a_nil))))
  (p_one (p_ret (r_bin o_add s_add (r_var 4) (r_fn D__bar hr tk_cx (a_cons r_str (a_cons (r_cmp (o_ne hr.units) s_ne (r_bin op_modN s_mod (r_bin o_mul s_mul (r_bin o_mul s_mul (r_var 3) (r_var 2)) (r_bin op_sub s_sub (r_var 2) r_int)) r_int) r_int rfl) a_nil))))))))
/-! ### _ring_bars -/
abbrev N__ring_bars : List Str := ["wish", "_", "v", "point"]
theorem nd__ring_bars : N__ring_bars.Nodup := by decide +kernel
theorem sc__ring_bars : FnScope N__ring_bars ["wish"] (defScope (top 54)) := ⟨rfl, rfl, rfl, nd__ring_bars, rfl, by decide +kernel, by decide +kernel⟩
def b__ring_bars : SX := (sSeq (sUn (bTp [(bNm 1), (bNm 2)]) (eVar 0))
  (sSeq (sSet 3 (eFn m__bar [(eC (.str "point")), (eB eqD (eB modD (eVar 2) (eC (.int 2))) (eC (.int 0)))]))
  (sRet (eB addD (eB addD (eVar 3) (eFn m__bar [(eC (.str "lots")), (eB neD (eB modD (eB mulD (eVar 2) (eB subD (eVar 2) (eC (.int 1)))) (eC (.int 6))) (eC (.int 0)))])) (eFn m__bar [(eC (.str "cases")), (eB eqD (eVar 2) (eC (.int 9)))])))))
def m__ring_bars : Fn := runS b__ring_bars 4
theorem bd__ring_bars (M : Mg P w K mg) (D__bar : Df P w K mg base k "_bar" 2 m__bar) : Body P w K mg base k N__ring_bars "_ring_bars" (defScope (top 54)) (defBody (top 54)) b__ring_bars := fun f cd A outer s H E hr =>
  (p_cons (p_un (r_var 0) (g_tp rfl (gs_cons (g_nm (i := 1) nd__ring_bars rfl (by first | exact .inl rfl | exact .inr rfl)) (gs_cons (g_nm (i := 2) nd__ring_bars rfl (by first | exact .inl rfl | exact .inr rfl)) gs_nil))))
  (p_cons (p_set (i := 3) nd__ring_bars rfl (by first | exact .inl rfl | exact .inr rfl) (r_fn D__bar hr tk_cx (a_cons r_str (a_cons (r_cmp (o_eq hr.units) s_eq (r_bin op_modN s_mod (r_var 2) r_int) r_int rfl) a_nil))))
  (p_one (p_ret (r_bin o_add s_add (r_bin o_add s_add (r_var 3) (r_fn D__bar hr tk_cx (a_cons r_str (a_cons (r_cmp (o_ne hr.units) s_ne (r_bin op_modN s_mod (r_bin o_mul s_mul (r_var 2) (r_bin op_sub s_sub (r_var 2) r_int)) r_int) r_int rfl) a_nil)))) (r_fn D__bar hr tk_cx (a_cons r_str (a_cons (r_cmp (o_eq hr.units) s_eq (r_var 2) r_int rfl) a_nil))))))))
/-! ### _days_bars -/
abbrev N__days_bars : List Str := ["wish", "_", "v"]
theorem nd__days_bars : N__days_bars.Nodup := by decide +kernel
theorem sc__days_bars : FnScope N__days_bars ["wish"] (defScope (top 55)) := ⟨rfl, rfl, rfl, nd__days_bars, rfl, by decide +kernel, by decide +kernel⟩
def b__days_bars : SX := (sSeq (sUn (bTp [(bNm 1), (bNm 2)]) (eVar 0))
  (sRet (eB addD (eFn m__bar [(eC (.str "point")), (eB eqD (eB modD (eVar 2) (eC (.int 2))) (eC (.int 0)))]) (eFn m__bar [(eC (.str "days")), (eB neD (eB modD (eVar 2) (eC (.int 3))) (eC (.int 0)))]))))
def m__days_bars : Fn := runS b__days_bars 3
theorem bd__days_bars (M : Mg P w K mg) (D__bar : Df P w K mg base k "_bar" 2 m__bar) : Body P w K mg base k N__days_bars "_days_bars" (defScope (top 55)) (defBody (top 55)) b__days_bars := fun f cd A outer s H E hr =>
  (p_cons (p_un (r_var 0) (g_tp rfl (gs_cons (g_nm (i := 1) nd__days_bars rfl (by first | exact .inl rfl | exact .inr rfl)) (gs_cons (g_nm (i := 2) nd__days_bars rfl (by first | exact .inl rfl | exact .inr rfl)) gs_nil))))
  (p_one (p_ret (r_bin o_add s_add (r_fn D__bar hr tk_cx (a_cons r_str (a_cons (r_cmp (o_eq hr.units) s_eq (r_bin op_modN s_mod (r_var 2) r_int) r_int rfl) a_nil))) (r_fn D__bar hr tk_cx (a_cons r_str (a_cons (r_cmp (o_ne hr.units) s_ne (r_bin op_modN s_mod (r_var 2) r_int) r_int rfl) a_nil)))))))
/-! ### _fours_bars -/
abbrev N__fours_bars : List Str := ["wish", "_", "v"]
theorem nd__fours_bars : N__fours_bars.Nodup := by decide +kernel
theorem sc__fours_bars : FnScope N__fours_bars ["wish"] (defScope (top 56)) := ⟨rfl, rfl, rfl, nd__fours_bars, rfl, by decide +kernel, by decide +kernel⟩
def b__fours_bars : SX := (sSeq (sUn (bTp [(bNm 1), (bNm 2)]) (eVar 0))
  (sRet (eB addD (eFn m__bar [(eC (.str "point")), (eB neD (eB modD (eB subD (eVar 2) (eC (.int 1))) (eC (.int 3))) (eC (.int 0)))]) (eFn m__bar [(eC (.str "lots")), (eB neD (eB modD (eB mulD (eVar 2) (eB subD (eVar 2) (eC (.int 1)))) (eC (.int 12))) (eC (.int 0)))]))))
def m__fours_bars : Fn := runS b__fours_bars 3
theorem bd__fours_bars (M : Mg P w K mg) (D__bar : Df P w K mg base k "_bar" 2 m__bar) : Body P w K mg base k N__fours_bars "_fours_bars" (defScope (top 56)) (defBody (top 56)) b__fours_bars := fun f cd A outer s H E hr =>
  (p_cons (p_un (r_var 0) (g_tp rfl (gs_cons (g_nm (i := 1) nd__fours_bars rfl (by first | exact .inl rfl | exact .inr rfl)) (gs_cons (g_nm (i := 2) nd__fours_bars rfl (by first | exact .inl rfl | exact .inr rfl)) gs_nil))))
  (p_one (p_ret (r_bin o_add s_add (r_fn D__bar hr tk_cx (a_cons r_str (a_cons (r_cmp (o_ne hr.units) s_ne (r_bin op_modN s_mod (r_bin op_sub s_sub (r_var 2) r_int) r_int) r_int rfl) a_nil))) (r_fn D__bar hr tk_cx (a_cons r_str (a_cons (r_cmp (o_ne hr.units) s_ne (r_bin op_modN s_mod (r_bin o_mul s_mul (r_var 2) (r_bin op_sub s_sub (r_var 2) r_int)) r_int) r_int rfl) a_nil)))))))
/-! ### _mates_bars -/
abbrev N__mates_bars : List Str := ["wish", "_", "n"]
theorem nd__mates_bars : N__mates_bars.Nodup := by decide +kernel
theorem sc__mates_bars : FnScope N__mates_bars ["wish"] (defScope (top 57)) := ⟨rfl, rfl, rfl, nd__mates_bars, rfl, by decide +kernel, by decide +kernel⟩
def b__mates_bars : SX := (sSeq (sUn (bTp [(bNm 1), (bNm 2)]) (eVar 0))
  (sRet (eB addD (eFn m__bar [(eC (.str "two")), (eB eqD (eVar 2) (eC (.int 2)))]) (eFn m__bar [(eC (.str "six")), (eB eqD (eVar 2) (eC (.int 6)))]))))
def m__mates_bars : Fn := runS b__mates_bars 3
theorem bd__mates_bars (M : Mg P w K mg) (D__bar : Df P w K mg base k "_bar" 2 m__bar) : Body P w K mg base k N__mates_bars "_mates_bars" (defScope (top 57)) (defBody (top 57)) b__mates_bars := fun f cd A outer s H E hr =>
  (p_cons (p_un (r_var 0) (g_tp rfl (gs_cons (g_nm (i := 1) nd__mates_bars rfl (by first | exact .inl rfl | exact .inr rfl)) (gs_cons (g_nm (i := 2) nd__mates_bars rfl (by first | exact .inl rfl | exact .inr rfl)) gs_nil))))
  (p_one (p_ret (r_bin o_add s_add (r_fn D__bar hr tk_cx (a_cons r_str (a_cons (r_cmp (o_eq hr.units) s_eq (r_var 2) r_int rfl) a_nil))) (r_fn D__bar hr tk_cx (a_cons r_str (a_cons (r_cmp (o_eq hr.units) s_eq (r_var 2) r_int rfl) a_nil)))))))
/-! ### _signs_bars -/
abbrev N__signs_bars : List Str := ["wish", "_", "n"]
theorem nd__signs_bars : N__signs_bars.Nodup := by decide +kernel
theorem sc__signs_bars : FnScope N__signs_bars ["wish"] (defScope (top 58)) := ⟨rfl, rfl, rfl, nd__signs_bars, rfl, by decide +kernel, by decide +kernel⟩
def b__signs_bars : SX := (sSeq (sUn (bTp [(bNm 1), (bNm 2)]) (eVar 0))
  (sRet (eFn m__bar [(eC (.str "rows")), (eAnd (eB geD (eVar 2) (eC (.int 3))) (eB neD (eB modD (eVar 2) (eC (.int 4))) (eC (.int 0))))])))
def m__signs_bars : Fn := runS b__signs_bars 3
theorem bd__signs_bars (M : Mg P w K mg) (D__bar : Df P w K mg base k "_bar" 2 m__bar) : Body P w K mg base k N__signs_bars "_signs_bars" (defScope (top 58)) (defBody (top 58)) b__signs_bars := fun f cd A outer s H E hr =>
  (p_cons (p_un (r_var 0) (g_tp rfl (gs_cons (g_nm (i := 1) nd__signs_bars rfl (by first | exact .inl rfl | exact .inr rfl)) (gs_cons (g_nm (i := 2) nd__signs_bars rfl (by first | exact .inl rfl | exact .inr rfl)) gs_nil))))
  (p_one (p_ret (r_fn D__bar hr tk_cx (a_cons r_str (a_cons (r_and (r_cmp op_ge (s_cmpI _) (r_var 2) r_int rfl) (r_one (r_cmp (o_ne hr.units) s_ne (r_bin op_modN s_mod (r_var 2) r_int) r_int rfl))) a_nil))))))
/-! ### listed_bars -/
abbrev N_listed_bars : List Str := ["wish", "word", "found"]
theorem nd_listed_bars : N_listed_bars.Nodup := by decide +kernel
theorem sc_listed_bars : FnScope N_listed_bars ["wish"] (defScope (top 61)) := ⟨rfl, rfl, rfl, nd_listed_bars, rfl, by decide +kernel, by decide +kernel⟩
def sel_listed_bars : Str → Option Fn := fun nm => ([("_rounds_bars", m__rounds_bars), ("_triples_bars", m__triples_bars), ("_ring_bars", m__ring_bars), ("_days_bars", m__days_bars), ("_fours_bars", m__fours_bars), ("_mates_bars", m__mates_bars), ("_signs_bars", m__signs_bars)] : List (Str × Fn)).lookup nm
def b_listed_bars : SX := (sSeq (sSet 1 (eFn m_looked_wish [(eVar 0)]))
  (sSeq (sSet 2 (eTbS tb_KINDS (eVar 1)))
  (sRet (eLoc 2 sel_listed_bars [(eVar 0)]))))
def m_listed_bars : Fn := runS b_listed_bars 3
theorem bd_listed_bars (M : Mg P w K mg) (D_looked_wish : Df P w K mg base k "looked_wish" 1 m_looked_wish) (LS : LocF P w K mg base k 1 sel_listed_bars) : Body P w K mg base k N_listed_bars "listed_bars" (defScope (top 61)) (defBody (top 61)) b_listed_bars := fun f cd A outer s H E hr =>
  (p_cons (p_set (i := 1) nd_listed_bars rfl (by first | exact .inl rfl | exact .inr rfl) (r_fn D_looked_wish hr tk_cx (a_cons (r_var 0) a_nil)))
  (p_cons (p_set (i := 2) nd_listed_bars rfl (by first | exact .inl rfl | exact .inr rfl) (r_tbS M.t_KINDS M.g_KINDS (r_var 1)))
  (p_one (p_ret (r_loc (LS) hr tk_cx (a_cons (r_var 0) a_nil))))))
/-! ### bars -/
abbrev N_bars : List Str := ["wish", "paper"]
theorem nd_bars : N_bars.Nodup := by decide +kernel
theorem sc_bars : FnScope N_bars ["wish", "paper"] (defScope (top 62)) := ⟨rfl, rfl, rfl, nd_bars, rfl, by decide +kernel, by decide +kernel⟩
def b_bars : SX := (sRet (eB inM (eVar 1) (eFn m_listed_bars [(eVar 0)])))
def m_bars : Fn := runS b_bars 2
theorem bd_bars (M : Mg P w K mg) (D_listed_bars : Df P w K mg base k "listed_bars" 1 m_listed_bars) : Body P w K mg base k N_bars "bars" (defScope (top 62)) (defBody (top 62)) b_bars := fun f cd A outer s H E hr =>
  (p_one (p_ret (r_cmp (o_inM (hu65 hr)) s_inM (r_var 1) (r_fn D_listed_bars hr tk_cx (a_cons (r_var 0) a_nil)) rfl)))
/-! ### first_bar -/
abbrev N_first_bar : List Str := ["wish", "listed"]
theorem nd_first_bar : N_first_bar.Nodup := by decide +kernel
theorem sc_first_bar : FnScope N_first_bar ["wish"] (defScope (top 63)) := ⟨rfl, rfl, rfl, nd_first_bar, rfl, by decide +kernel, by decide +kernel⟩
def b_first_bar : SX := (sSeq (sSet 1 (eFn m_listed_bars [(eVar 0)]))
  (sRet (eIf (eVar 1) (eB ixD (eVar 1) (eC (.int 0))) (eC .non))))
def m_first_bar : Fn := runS b_first_bar 2
theorem bd_first_bar (M : Mg P w K mg) (D_listed_bars : Df P w K mg base k "listed_bars" 1 m_listed_bars) : Body P w K mg base k N_first_bar "first_bar" (defScope (top 63)) (defBody (top 63)) b_first_bar := fun f cd A outer s H E hr =>
  (p_cons (p_set (i := 1) nd_first_bar rfl (by first | exact .inl rfl | exact .inr rfl) (r_fn D_listed_bars hr tk_cx (a_cons (r_var 0) a_nil)))
  (p_one (p_ret (r_ifE (r_tru (r_var 1)) (r_ix (r_var 1) r_int) r_non))))
/-! ### _law_stray -/
abbrev N__law_stray : List Str := ["e"]
theorem nd__law_stray : N__law_stray.Nodup := by decide +kernel
theorem sc__law_stray : FnScope N__law_stray ["e"] (defScope (top 68)) := ⟨rfl, rfl, rfl, nd__law_stray, rfl, by decide +kernel, by decide +kernel⟩
def b__law_stray : SX := (sSeq (sIf (eIsE 0 (isXT xs ist_0))
  (sRet (eC (.bl true))) sNil)
  (sSeq (sIf (eIsE 0 (isXT xs ist_1))
  (sRet (eC (.bl true))) sNil)
  (sSeq (sIf (eIsE 0 (isXT xs ist_2))
  (sRet (eC (.bl true))) sNil)
  (sRet (eOr (eIsE 0 (isXT xs ist_3)) (eNot (eIsE 0 (isX xs "ValueError"))))))))
def m__law_stray : Ex → Rt := runE b__law_stray 1
theorem bd__law_stray (M : Mg P w K mg) : BodyE P w K mg base k N__law_stray "_law_stray" (defScope (top 68)) (defBody (top 68)) b__law_stray := fun f cd A outer s H E a0 oe0 cls0 dd0 hr hot hz =>
  have ho := hxOk_cxH (P := P) (w := w) (K := K) (mg := mg) (base := base) (N := N__law_stray) (qual := "_law_stray") (scope := defScope (top 68)) (f := f) (cd := cd) (A := A) (outer := outer) (s := s) (H := H) (E := E) hot hz
  (p_cons (p_if (r_tru (r_isET (cs := clsV K ist_0) ho M.ist_0 (clsV_pair K ist_0) (by show ist_0.length ≤ _; decide) (pa_cons (pe_glob (v := .ref _) rfl M.gc_NumberError rfl (by decide)) (pa_cons (pe_glob (v := .ref _) rfl M.gc_SizeError rfl (by decide)) (pa_cons (pe_glob (v := .ref _) rfl M.gc_PlaceError rfl (by decide)) (pa_cons (pe_glob (v := .ref _) rfl M.gc_SameError rfl (by decide)) (pa_cons (pe_glob (v := .ref _) rfl M.gc_NoInverse rfl (by decide)) (pa_cons (pe_glob (v := .ref _) rfl M.gc_NoField rfl (by decide)) (pa_cons (pe_glob (v := .ref _) rfl M.gc_TooLarge rfl (by decide)) pa_nil))))))) (fun _ _ _ h => h) M.f_isinstance))
  (p_one (p_ret r_bl)) p_nil)
  (p_cons (p_if (r_tru (r_isET (cs := clsV K ist_1) ho M.ist_1 (clsV_pair K ist_1) (by show ist_1.length ≤ _; decide) (pa_cons (pe_glob (v := .ref _) rfl M.gc_NotSubgroup rfl (by decide)) (pa_cons (pe_glob (v := .ref _) rfl M.gc_UnlikeError rfl (by decide)) (pa_cons (pe_glob (v := .ref _) rfl M.gc_PartError rfl (by decide)) (pa_cons (pe_glob (v := .ref _) rfl M.gc_TextError rfl (by decide)) (pa_cons (pe_glob (v := .ref _) rfl M.gc_BareError rfl (by decide)) (pa_cons (pe_glob (v := .ref _) rfl M.gc_TradeError rfl (by decide)) (pa_cons (pe_glob (v := .ref _) rfl M.gc_DaysError rfl (by decide)) pa_nil))))))) (fun _ _ _ h => h) M.f_isinstance))
  (p_one (p_ret r_bl)) p_nil)
  (p_cons (p_if (r_tru (r_isET (cs := clsV K ist_2) ho M.ist_2 (clsV_pair K ist_2) (by show ist_2.length ≤ _; decide) (pa_cons (pe_glob (v := .ref _) rfl M.gc_TermError rfl (by decide)) (pa_cons (pe_glob (v := .ref _) rfl M.gc_KindError rfl (by decide)) (pa_cons (pe_glob (v := .ref _) rfl M.gc_RowError rfl (by decide)) (pa_cons (pe_glob (v := .ref _) rfl M.gc_ColumnError rfl (by decide)) (pa_cons (pe_glob (v := .ref _) rfl M.gc_MatesError rfl (by decide)) (pa_cons (pe_glob (v := .ref _) rfl M.gc_NoPrime rfl (by decide)) (pa_cons (pe_glob (v := .ref _) rfl M.gc_Barred rfl (by decide)) pa_nil))))))) (fun _ _ _ h => h) M.f_isinstance))
  (p_one (p_ret r_bl)) p_nil)
  (p_one (p_ret (r_or (r_isET (cs := clsV K ist_3) ho M.ist_3 (clsV_pair K ist_3) (by show ist_3.length ≤ _; decide) (pa_cons (pe_glob (v := .ref _) rfl M.gc_MakingError rfl (by decide)) (pa_cons (pe_glob (v := .ref _) rfl M.gc_CommandError rfl (by decide)) (pa_cons (pe_glob (v := .ref _) rfl M.gc_NothingKept rfl (by decide)) (pa_cons (pe_glob (v := .ref _) rfl M.gc_OpenError rfl (by decide)) (pa_cons (pe_glob (v := .ref _) rfl M.gc_NothingToUndo rfl (by decide)) (pa_cons (pe_glob (v := .ref _) rfl M.gc_NothingToRedo rfl (by decide)) pa_nil)))))) (fun _ _ _ h => h) M.f_isinstance) (r_one (r_not (r_isEb (Ts := "ValueError") ho M.isb_ValueError M.f_ValueError (by decide +kernel) M.f_isinstance)))))))))
/-! ### _law_told -/
abbrev N__law_told : List Str := ["word", "wish", "paper", "told", "e"]
theorem nd__law_told : N__law_told.Nodup := by decide +kernel
theorem sc__law_told : FnScope N__law_told ["word", "wish", "paper"] (defScope (top 69)) := ⟨rfl, rfl, rfl, nd__law_told, rfl, by decide +kernel, by decide +kernel⟩
def b__law_told : SX := (sSeq (sTry (sIf (eB eqD (eVar 0) (eC (.str "bars")))
  (sSet 3 (eFn m_bars [(eVar 1), (eVar 2)])) (sSet 3 (eFn m_first_bar [(eVar 1)]))) 4 (isX xs "MadeError") (sRet (eLst [(eC (.str "error")), (eAnd (eIsE 4 (isX xs "WishError")) (eNot (eFnE 4 m__law_stray)))])))
  (sRet (eLst [(eC (.str "told")), (eVar 3)])))
def m__law_told : Fn := runS b__law_told 5
theorem bd__law_told (M : Mg P w K mg) (D_bars : Df P w K mg base k "bars" 2 m_bars) (D_first_bar : Df P w K mg base k "first_bar" 1 m_first_bar) (D__law_stray : DfE P w K mg base k "_law_stray" m__law_stray) : Body P w K mg base k N__law_told "_law_told" (defScope (top 69)) (defBody (top 69)) b__law_told := fun f cd A outer s H E hr =>
  (p_cons (p_try (i := 4) rfl rfl nd__law_told rfl rfl ⟨rfl, by decide, (.inl M.gc_MadeError)⟩ tk_cx M.te_MadeError (by intro h; cases h) (fun W0 pn0 xe0 htk hpo => (p_one (p_if (r_cmpT (o_eq hr.units) s_eq b_eq (r_var 0) r_str rfl)
  (p_one (p_set (i := 3) nd__law_told rfl (by first | exact .inl rfl | exact .inr rfl) (r_fn D_bars hr htk (a_cons (r_var 1) (a_cons (r_var 2) a_nil))))) (p_one (p_set (i := 3) nd__law_told rfl (by first | exact .inl rfl | exact .inr rfl) (r_fn D_first_bar hr htk (a_cons (r_var 1) a_nil))))))) (fun a0 oe0 cl0 d0 pn0 ho => (p_one (p_ret (r_lst (a_cons r_str (a_cons (r_and (r_isE ho M.is_WishError M.gc_WishError M.f_isinstance) (r_one (r_not (r_fnE D__law_stray ⟨hr.dp, hr.un⟩ ho)))) a_nil)))))))
  (p_one (p_ret (r_lst (a_cons r_str (a_cons (r_var 3) a_nil))))))
/-! ### _law_asked -/
abbrev N__law_asked : List Str := ["wish", "papers", "due", "first", "paper"]
theorem nd__law_asked : N__law_asked.Nodup := by decide +kernel
theorem sc__law_asked : FnScope N__law_asked ["wish", "papers"] (defScope (top 75)) := ⟨rfl, rfl, rfl, nd__law_asked, rfl, by decide +kernel, by decide +kernel⟩
def it__law_asked_0 : IX := (iV seqI (eVar 1))
def g__law_asked_1 : SX := (sIf (eNot (eFn (m__law_same 4) [(eFn m__law_told [(eC (.str "bars")), (eVar 0), (eVar 4)]), (eLst [(eC (.str "told")), (eB inM (eVar 4) (eVar 2))])]))
  (sRet (eC (.bl false))) sNil)
def b__law_asked : SX := (sSeq (sSet 2 (eFn m__law_due [(eVar 0)]))
  (sSeq (sSet 3 (eC .non))
  (sSeq (sIf (eB neD (eVar 2) (eLst []))
  (sSet 3 (eB ixD (eVar 2) (eC (.int 0)))) sNil)
  (sSeq (sIf (eNot (eFn (m__law_same 4) [(eFn m__law_told [(eC (.str "first")), (eVar 0), (eTup [])]), (eLst [(eC (.str "told")), (eVar 3)])]))
  (sRet (eC (.bl false))) sNil)
  (sSeq (sFor it__law_asked_0 (bNm 4)
  g__law_asked_1)
  (sRet (eFn (m__law_same 4) [(eFn m__law_told [(eC (.str "first")), (eVar 0), (eTup [])]), (eLst [(eC (.str "told")), (eVar 3)])])))))))
def m__law_asked : Fn := runS b__law_asked 5
theorem bd__law_asked (M : Mg P w K mg) (D__law_due : Df P w K mg base k "_law_due" 1 m__law_due) (D__law_same : Df P w K mg base k "_law_same" 2 (m__law_same 4)) (D__law_told : Df P w K mg base k "_law_told" 3 m__law_told) : Body P w K mg base k N__law_asked "_law_asked" (defScope (top 75)) (defBody (top 75)) b__law_asked := fun f cd A outer s H E hr =>
  (p_cons (p_set (i := 2) nd__law_asked rfl (by first | exact .inl rfl | exact .inr rfl) (r_fn D__law_due hr tk_cx (a_cons (r_var 0) a_nil)))
  (p_cons (p_set (i := 3) nd__law_asked rfl (by first | exact .inl rfl | exact .inr rfl) r_non)
  (p_cons (p_if (r_cmpT (o_ne hr.units) s_ne b_ne (r_var 2) (r_lst a_nil) rfl)
  (p_one (p_set (i := 3) nd__law_asked rfl (by first | exact .inl rfl | exact .inr rfl) (r_ix (r_var 2) r_int))) p_nil)
  (p_cons (p_if (r_notT (r_tru (r_fn D__law_same hr tk_cx (a_cons (r_fn D__law_told hr tk_cx (a_cons r_str (a_cons (r_var 0) (a_cons (r_tup a_nil) a_nil)))) (a_cons (r_lst (a_cons r_str (a_cons (r_var 3) a_nil))) a_nil)))))
  (p_one (p_ret r_bl)) p_nil)
  (p_cons (p_for ps_cx rfl (pi_seq (r_var 1)) ri_seq (g_nm (i := 4) nd__law_asked rfl (by first | exact .inl rfl | exact .inr rfl))
  (p_one (p_if (r_notT (r_tru (r_fn D__law_same hr tk_cx (a_cons (r_fn D__law_told hr tk_cx (a_cons r_str (a_cons (r_var 0) (a_cons (r_var 4) a_nil)))) (a_cons (r_lst (a_cons r_str (a_cons (r_cmp (o_inM (hu65 hr)) s_inM (r_var 4) (r_var 2) rfl) a_nil))) a_nil)))))
  (p_one (p_ret r_bl)) p_nil)))
  (p_one (p_ret (r_fn D__law_same hr tk_cx (a_cons (r_fn D__law_told hr tk_cx (a_cons r_str (a_cons (r_var 0) (a_cons (r_tup a_nil) a_nil)))) (a_cons (r_lst (a_cons r_str (a_cons (r_var 3) a_nil))) a_nil))))))))))
/-! ### _law_papers -/
abbrev N__law_papers : List Str := ["box", "wish", "number", "words", "told", "word", "some", "paper"]
theorem nd__law_papers : N__law_papers.Nodup := by decide +kernel
theorem sc__law_papers : FnScope N__law_papers ["box", "wish"] (defScope (top 74)) := ⟨rfl, rfl, rfl, nd__law_papers, rfl, by decide +kernel, by decide +kernel⟩
def it__law_papers_0 : IX := (iV seqI (eVar 3))
def ce__law_papers_1 : EX := (eTup [(eVar 5)])
def it__law_papers_2 : IX := (iV seqI (eFn m__law_due [(eVar 1)]))
def g__law_papers_3 : SX := (sSet 4 (eB addD (eVar 4) (eLst [(eB addD (eVar 7) (eTup [(eVar 2)])), (eTup [(eVar 7)]), (eB addD (eB addD (eVar 7) (eSl (eVar 7) (some (eC (.int 1))) none)) (eTup [(eTup [])]))])))
def b__law_papers : SX := (sSeq (sSet 2 (eB ixD (eLst [(eC (.int 0)), (eC (.int 1)), (eC (.int 2)), (eC (.int 3)), (eC (.int 6)), (eC (.int 9)), (eB ixD (eVar 1) (eC (.int 1)))]) (eFnI m__law_draw 0 [.o 0, .d (eC (.int 7))])))
  (sSeq (sSet 3 (eLst [(eC (.str "odd")), (eC (.str "point")), (eC (.str "lots")), (eC (.str "cases")), (eC (.str "days")), (eC (.str "two")), (eC (.str "six")), (eC (.str "rows")), (eC (.str "count")), (eC (.str "square")), (eC (.str "form")), (eC (.str "even")), (eC (.str "bar"))]))
  (sSeq (sSet 4 (eComp it__law_papers_0 (bNm 5) (eC (.bl true)) ce__law_papers_1 [5]))
  (sSeq (sSet 6 (eB ixD (eVar 3) (eFnI m__law_draw 0 [.o 0, .d (eC (.int 10))])))
  (sSeq (sSet 4 (eB addD (eVar 4) (eLst [(eTup [(eC (.str "form")), (eC (.int 2))]), (eTup [(eC (.str "form")), (eC (.int 3))]), (eTup [(eC (.str "form")), (eVar 2)]), (eTup [(eVar 6), (eVar 2)]), (eTup [(eVar 6), (eTup [])]), (eTup [(eTup [(eVar 6)])]), (eTup [(eVar 6), (eTup [(eVar 6)])])])))
  (sSeq (sSet 4 (eB addD (eVar 4) (eLst [(eTup []), (eTup [(eVar 2)]), (eTup [(eTup [])]), (eTup [(eB ixD (eVar 1) (eC (.int 0)))]), (eVar 1), (eTup [(eVar 2), (eC (.int 0))])])))
  (sSeq (sFor it__law_papers_2 (bNm 7)
  g__law_papers_3)
  (sRet (eVar 4)))))))))
def m__law_papers : FnI := runI b__law_papers 8 0
theorem bd__law_papers (M : Mg P w K mg) (D__law_draw : DfI P w K mg base k "_law_draw" 2 0 m__law_draw) (D__law_due : Df P w K mg base k "_law_due" 1 m__law_due) : BodyI P w K mg base k 0 N__law_papers "_law_papers" (defScope (top 74)) (defBody (top 74)) b__law_papers := fun f cd A outer s H E hr =>
  (p_cons (p_set (i := 2) nd__law_papers rfl (by first | exact .inl rfl | exact .inr rfl) (r_ix (r_lst (a_cons r_int (a_cons r_int (a_cons r_int (a_cons r_int (a_cons r_int (a_cons r_int (a_cons (r_ix (r_var 1) r_int) a_nil)))))))) (r_fnI D__law_draw hr tk_cx (m_o (m_d r_int m_nil)))))
  (p_cons (p_set (i := 3) nd__law_papers rfl (by first | exact .inl rfl | exact .inr rfl) (r_lst (a_cons r_str (a_cons r_str (a_cons r_str (a_cons r_str (a_cons r_str (a_cons r_str (a_cons r_str (a_cons r_str (a_cons r_str (a_cons r_str (a_cons r_str (a_cons r_str (a_cons r_str a_nil)))))))))))))))
  (p_cons (p_setC (i := 4) (own := [("word", 5)]) rfl nd__law_papers rfl rfl rfl (pi_seq (r_var 3)) ri_seq rfl (fun s0 H0 C0 cl0 fp0 => (g_nm (i := 5) nd__law_papers rfl (by first | exact .inl rfl | exact .inr rfl))) (fun s0 H0 C0 cl0 fp0 => c_nil) (fun s0 H0 C0 cl0 fp0 => (r_tup (a_cons (r_var 5) a_nil))))
  (p_cons (p_set (i := 6) nd__law_papers rfl (by first | exact .inl rfl | exact .inr rfl) (r_ix (r_var 3) (r_fnI D__law_draw hr tk_cx (m_o (m_d r_int m_nil)))))
  (p_cons (p_set (i := 4) nd__law_papers rfl (by first | exact .inl rfl | exact .inr rfl) (r_bin o_add s_add (r_var 4) (r_lst (a_cons (r_tup (a_cons r_str (a_cons r_int a_nil))) (a_cons (r_tup (a_cons r_str (a_cons r_int a_nil))) (a_cons (r_tup (a_cons r_str (a_cons (r_var 2) a_nil))) (a_cons (r_tup (a_cons (r_var 6) (a_cons (r_var 2) a_nil))) (a_cons (r_tup (a_cons (r_var 6) (a_cons (r_tup a_nil) a_nil))) (a_cons (r_tup (a_cons (r_tup (a_cons (r_var 6) a_nil)) a_nil)) (a_cons (r_tup (a_cons (r_var 6) (a_cons (r_tup (a_cons (r_var 6) a_nil)) a_nil))) a_nil))))))))))
  (p_cons (p_set (i := 4) nd__law_papers rfl (by first | exact .inl rfl | exact .inr rfl) (r_bin o_add s_add (r_var 4) (r_lst (a_cons (r_tup a_nil) (a_cons (r_tup (a_cons (r_var 2) a_nil)) (a_cons (r_tup (a_cons (r_tup a_nil) a_nil)) (a_cons (r_tup (a_cons (r_ix (r_var 1) r_int) a_nil)) (a_cons (r_var 1) (a_cons (r_tup (a_cons (r_var 2) (a_cons r_int a_nil))) a_nil)))))))))
  (p_cons (p_for ps_cx rfl (pi_seq (r_fn D__law_due hr tk_cx (a_cons (r_var 1) a_nil))) ri_seq (g_nm (i := 7) nd__law_papers rfl (by first | exact .inl rfl | exact .inr rfl))
  (p_one (p_set (i := 4) nd__law_papers rfl (by first | exact .inl rfl | exact .inr rfl) (r_bin o_add s_add (r_var 4) (r_lst (a_cons (r_bin o_add s_add (r_var 7) (r_tup (a_cons (r_var 2) a_nil))) (a_cons (r_tup (a_cons (r_var 7) a_nil)) (a_cons (r_bin o_add s_add (r_bin o_add s_add (r_var 7) (r_sl (r_var 7) (.some r_int) .none)) (r_tup (a_cons (r_tup a_nil) a_nil))) a_nil))))))))
  (p_one (p_ret (r_var 4))))))))))
/-! ### law -/
abbrev N_law : List Str := ["script", "box", "wishes", "wish", "wrong", "paper", "known"]
theorem nd_law : N_law.Nodup := by decide +kernel
theorem sc_law : FnScope N_law ["script"] (defScope (top 78)) := ⟨rfl, rfl, rfl, nd_law, rfl, by decide +kernel, by decide +kernel⟩
def it_law_0 : IX := (iV seqI (eVar 2))
def g_law_1 : SX := (sIf (eNot (eFn m__law_asked [(eVar 3), (eFnI m__law_papers 1 [.o 1, .d (eVar 3)])]))
  (sRet (eC (.bl false))) sNil)
def it_law_2 : IX := (iV seqI (eTup [(eTup [(eC (.str "point"))]), (eB ixD (eFnI m__law_papers 1 [.o 1, .d (eVar 3)]) (eFnI m__law_draw 1 [.o 1, .d (eC (.int 26))]))]))
def g_law_3 : SX := (sIf (eNot (eFn (m__law_same 4) [(eFn m__law_told [(eC (.str "bars")), (eVar 4), (eVar 5)]), (eLst [(eC (.str "error")), (eC (.bl true))])]))
  (sRet (eC (.bl false))) sNil)
def it_law_4 : IX := (iV seqI (eVar 2))
def g_law_5 : SX := (sSeq (sSet 4 (eFnI m__law_wrong 1 [.o 1, .d (eVar 3)]))
  (sSeq (sFor it_law_2 (bNm 5)
  g_law_3)
  (sIf (eNot (eFn (m__law_same 4) [(eFn m__law_told [(eC (.str "first")), (eVar 4), (eTup [])]), (eLst [(eC (.str "error")), (eC (.bl true))])]))
  (sRet (eC (.bl false))) sNil)))
def it_law_6 : IX := (iV seqI (eVar 6))
def g_law_7 : SX := (sIf (eNot (eFn m__law_asked [(eVar 3), (eFnI m__law_papers 1 [.o 1, .d (eVar 3)])]))
  (sRet (eC (.bl false))) sNil)
def it_law_8 : IX := (iV seqI (eVar 2))
def g_law_9 : SX := (sIf (eNot (eFn m__law_asked [(eVar 3), (eLst [(eTup []), (eTup [(eC (.str "point"))])])]))
  (sRet (eC (.bl false))) sNil)
def b_law : SX := (sSeq (sSetN 1 m__law_pool [(eVar 0)])
  (sSeq (sSet 2 (eFnI m__law_wishes 1 [.o 1]))
  (sSeq (sFor it_law_0 (bNm 3)
  g_law_1)
  (sSeq (sFor it_law_4 (bNm 3)
  g_law_5)
  (sSeq (sSet 6 (eLst [(eTup [(eC (.str "ring")), (eC (.int 9))]), (eTup [(eC (.str "mates")), (eC (.int 2))]), (eTup [(eC (.str "mates")), (eC (.int 6))]), (eTup [(eC (.str "signs")), (eC (.int 1))]), (eTup [(eC (.str "signs")), (eC (.int 2))]), (eTup [(eC (.str "signs")), (eC (.int 3))]), (eTup [(eC (.str "signs")), (eC (.int 4))])]))
  (sSeq (sSet 6 (eB addD (eVar 6) (eLst [(eTup [(eC (.str "ring")), (eC (.int 8))]), (eTup [(eC (.str "triples")), (eC (.int 8)), (eC (.int 1))]), (eTup [(eC (.str "fours")), (eC (.int 6))]), (eTup [(eC (.str "days")), (eC (.int 4))]), (eTup [(eC (.str "rounds")), (eC (.int 3))]), (eTup [(eC (.str "triples")), (eC (.int 5)), (eC (.int 3))])])))
  (sSeq (sFor it_law_6 (bNm 3)
  g_law_7)
  (sSeq (sFor it_law_8 (bNm 3)
  g_law_9)
  (sRet (eC (.bl true)))))))))))
def m_law : Fn := runS b_law 7
theorem bd_law (M : Mg P w K mg) (D__law_pool : DfN P w K mg base k "_law_pool" 1 m__law_pool) (D__law_wishes : DfI P w K mg base k "_law_wishes" 1 0 m__law_wishes) (D__law_asked : Df P w K mg base k "_law_asked" 2 m__law_asked) (D__law_papers : DfI P w K mg base k "_law_papers" 2 0 m__law_papers) (D__law_wrong : DfI P w K mg base k "_law_wrong" 2 0 m__law_wrong) (D__law_draw : DfI P w K mg base k "_law_draw" 2 0 m__law_draw) (D__law_same : Df P w K mg base k "_law_same" 2 (m__law_same 4)) (D__law_told : Df P w K mg base k "_law_told" 3 m__law_told) : Body P w K mg base k N_law "law" (defScope (top 78)) (defBody (top 78)) b_law := fun f cd A outer s H E hr =>
  (p_cons (p_setN (i := 1) D__law_pool hr tk_cx (a_cons (r_var 0) a_nil) nd_law rfl (by first | exact .inl rfl | exact .inr rfl))
  (p_cons (p_set (i := 2) nd_law rfl (by first | exact .inl rfl | exact .inr rfl) (r_fnI D__law_wishes hr tk_cx (m_o m_nil)))
  (p_cons (p_for ps_cx rfl (pi_seq (r_var 2)) ri_seq (g_nm (i := 3) nd_law rfl (by first | exact .inl rfl | exact .inr rfl))
  (p_one (p_if (r_notT (r_tru (r_fn D__law_asked hr tk_cx (a_cons (r_var 3) (a_cons (r_fnI D__law_papers hr tk_cx (m_o (m_d (r_var 3) m_nil))) a_nil)))))
  (p_one (p_ret r_bl)) p_nil)))
  (p_cons (p_for ps_cx rfl (pi_seq (r_var 2)) ri_seq (g_nm (i := 3) nd_law rfl (by first | exact .inl rfl | exact .inr rfl))
  (p_cons (p_set (i := 4) nd_law rfl (by first | exact .inl rfl | exact .inr rfl) (r_fnI D__law_wrong hr tk_cx (m_o (m_d (r_var 3) m_nil))))
  (p_cons (p_for ps_cx rfl (pi_seq (r_tup (a_cons (r_tup (a_cons r_str a_nil)) (a_cons (r_ix (r_fnI D__law_papers hr tk_cx (m_o (m_d (r_var 3) m_nil))) (r_fnI D__law_draw hr tk_cx (m_o (m_d r_int m_nil)))) a_nil)))) ri_seq (g_nm (i := 5) nd_law rfl (by first | exact .inl rfl | exact .inr rfl))
  (p_one (p_if (r_notT (r_tru (r_fn D__law_same hr tk_cx (a_cons (r_fn D__law_told hr tk_cx (a_cons r_str (a_cons (r_var 4) (a_cons (r_var 5) a_nil)))) (a_cons (r_lst (a_cons r_str (a_cons r_bl a_nil))) a_nil)))))
  (p_one (p_ret r_bl)) p_nil)))
  (p_one (p_if (r_notT (r_tru (r_fn D__law_same hr tk_cx (a_cons (r_fn D__law_told hr tk_cx (a_cons r_str (a_cons (r_var 4) (a_cons (r_tup a_nil) a_nil)))) (a_cons (r_lst (a_cons r_str (a_cons r_bl a_nil))) a_nil)))))
  (p_one (p_ret r_bl)) p_nil)))))
  (p_cons (p_set (i := 6) nd_law rfl (by first | exact .inl rfl | exact .inr rfl) (r_lst (a_cons (r_tup (a_cons r_str (a_cons r_int a_nil))) (a_cons (r_tup (a_cons r_str (a_cons r_int a_nil))) (a_cons (r_tup (a_cons r_str (a_cons r_int a_nil))) (a_cons (r_tup (a_cons r_str (a_cons r_int a_nil))) (a_cons (r_tup (a_cons r_str (a_cons r_int a_nil))) (a_cons (r_tup (a_cons r_str (a_cons r_int a_nil))) (a_cons (r_tup (a_cons r_str (a_cons r_int a_nil))) a_nil)))))))))
  (p_cons (p_set (i := 6) nd_law rfl (by first | exact .inl rfl | exact .inr rfl) (r_bin o_add s_add (r_var 6) (r_lst (a_cons (r_tup (a_cons r_str (a_cons r_int a_nil))) (a_cons (r_tup (a_cons r_str (a_cons r_int (a_cons r_int a_nil)))) (a_cons (r_tup (a_cons r_str (a_cons r_int a_nil))) (a_cons (r_tup (a_cons r_str (a_cons r_int a_nil))) (a_cons (r_tup (a_cons r_str (a_cons r_int a_nil))) (a_cons (r_tup (a_cons r_str (a_cons r_int (a_cons r_int a_nil)))) a_nil)))))))))
  (p_cons (p_for ps_cx rfl (pi_seq (r_var 6)) ri_seq (g_nm (i := 3) nd_law rfl (by first | exact .inl rfl | exact .inr rfl))
  (p_one (p_if (r_notT (r_tru (r_fn D__law_asked hr tk_cx (a_cons (r_var 3) (a_cons (r_fnI D__law_papers hr tk_cx (m_o (m_d (r_var 3) m_nil))) a_nil)))))
  (p_one (p_ret r_bl)) p_nil)))
  (p_cons (p_for ps_cx rfl (pi_seq (r_var 2)) ri_seq (g_nm (i := 3) nd_law rfl (by first | exact .inl rfl | exact .inr rfl))
  (p_one (p_if (r_notT (r_tru (r_fn D__law_asked hr tk_cx (a_cons (r_var 3) (a_cons (r_lst (a_cons (r_tup a_nil) (a_cons (r_tup (a_cons r_str a_nil)) a_nil))) a_nil)))))
  (p_one (p_ret r_bl)) p_nil)))
  (p_one (p_ret r_bl))))))))))
end
end K67

namespace K67
open PySem PySem.Spec PyProof.Rows L2 MB
theorem law_fd {K : Fg} {w : World} (c : SaysN fileR chk fnL xL tsL w K) : ∃ fd, FunD K "law" "law" (defArgs (top 78)) (defBody (top 78)) (defScope (top 78)) [] [] (He.ga K "law") fd := c.m.def_ 27 (d := ⟨("law", none), "law", "law", defArgs (top 78), defBody (top 78), defScope (top 78), [], []⟩) rfl
theorem all_df {w : World} {K : Fg} {mg : Str → Option Value} {base : Heap} {fd_law : FuncData} (M : Mg PySem.Challenge.pw_madeorbarred_k67_bars_of_six_kinds w K mg) (c : SaysN fileR chk fnL xL tsL w K) (F_law : FunD K "law" "law" (defArgs (top 78)) (defBody (top 78)) (defScope (top 78)) [] [] (He.ga K "law") fd_law) : FnV PySem.Challenge.pw_madeorbarred_k67_bars_of_six_kinds w K mg base 8 (He.ga K "law") fd_law ["script"] m_law := by
  obtain ⟨fd__law_pool, F__law_pool⟩ := c.m.def_ 0 (d := ⟨("_law_pool", none), "_law_pool", "_law_pool", defArgs (top 65), defBody (top 65), defScope (top 65), [], []⟩) rfl
  have B__law_pool : Binds K fd__law_pool ["script"] [] := FunD.bindsN F__law_pool fun _ _ _ _ _ _ us hl => match us, hl with | [_], _ => rfl
  have D__law_pool : DfN PySem.Challenge.pw_madeorbarred_k67_bars_of_six_kinds w K mg base 1 "_law_pool" 1 m__law_pool := dfN_ok M.gd__law_pool F__law_pool sc__law_pool B__law_pool (bd__law_pool M)
  obtain ⟨fd__law_draw, F__law_draw⟩ := c.m.def_ 1 (d := ⟨("_law_draw", none), "_law_draw", "_law_draw", defArgs (top 66), defBody (top 66), defScope (top 66), [], []⟩) rfl
  have B__law_draw : Binds K fd__law_draw ["box", "many"] [] := FunD.bindsN F__law_draw fun _ _ _ _ _ _ us hl => match us, hl with | [_, _], _ => rfl
  have D__law_draw : DfI PySem.Challenge.pw_madeorbarred_k67_bars_of_six_kinds w K mg base 1 "_law_draw" 2 0 m__law_draw := dfI_ok M.gd__law_draw F__law_draw sc__law_draw (by decide) B__law_draw (bd__law_draw M)
  obtain ⟨fd__law_great, F__law_great⟩ := c.m.def_ 2 (d := ⟨("_law_great", none), "_law_great", "_law_great", defArgs (top 70), defBody (top 70), defScope (top 70), [], []⟩) rfl
  have B__law_great : Binds K fd__law_great ["box", "many"] [] := FunD.bindsN F__law_great fun _ _ _ _ _ _ us hl => match us, hl with | [_, _], _ => rfl
  have D__law_great : DfI PySem.Challenge.pw_madeorbarred_k67_bars_of_six_kinds w K mg base 2 "_law_great" 2 0 m__law_great := dfI_ok M.gd__law_great F__law_great sc__law_great (by decide) B__law_great (bd__law_great M (D__law_draw.mono (by decide)))
  obtain ⟨fd__law_number, F__law_number⟩ := c.m.def_ 3 (d := ⟨("_law_number", none), "_law_number", "_law_number", defArgs (top 71), defBody (top 71), defScope (top 71), [], []⟩) rfl
  have B__law_number : Binds K fd__law_number ["box", "low", "high"] [] := FunD.bindsN F__law_number fun _ _ _ _ _ _ us hl => match us, hl with | [_, _, _], _ => rfl
  have D__law_number : DfI PySem.Challenge.pw_madeorbarred_k67_bars_of_six_kinds w K mg base 3 "_law_number" 3 0 m__law_number := dfI_ok M.gd__law_number F__law_number sc__law_number (by decide) B__law_number (bd__law_number M (D__law_draw.mono (by decide)) (D__law_great.mono (by decide)))
  obtain ⟨fd__law_wishes, F__law_wishes⟩ := c.m.def_ 4 (d := ⟨("_law_wishes", none), "_law_wishes", "_law_wishes", defArgs (top 72), defBody (top 72), defScope (top 72), [], []⟩) rfl
  have B__law_wishes : Binds K fd__law_wishes ["box"] [] := FunD.bindsN F__law_wishes fun _ _ _ _ _ _ us hl => match us, hl with | [_], _ => rfl
  have D__law_wishes : DfI PySem.Challenge.pw_madeorbarred_k67_bars_of_six_kinds w K mg base 4 "_law_wishes" 1 0 m__law_wishes := dfI_ok M.gd__law_wishes F__law_wishes sc__law_wishes (by decide) B__law_wishes (bd__law_wishes M (D__law_number.mono (by decide)))
  obtain ⟨fd__law_bounds, F__law_bounds⟩ := c.m.def_ 5 (d := ⟨("_law_bounds", none), "_law_bounds", "_law_bounds", defArgs (top 76), defBody (top 76), defScope (top 76), [], []⟩) rfl
  have B__law_bounds : Binds K fd__law_bounds ["wish"] [] := FunD.bindsN F__law_bounds fun _ _ _ _ _ _ us hl => match us, hl with | [_], _ => rfl
  have D__law_bounds : Df PySem.Challenge.pw_madeorbarred_k67_bars_of_six_kinds w K mg base 1 "_law_bounds" 1 m__law_bounds := df_ok M.gd__law_bounds F__law_bounds sc__law_bounds B__law_bounds (bd__law_bounds M)
  obtain ⟨fd__law_wrong, F__law_wrong⟩ := c.m.def_ 6 (d := ⟨("_law_wrong", none), "_law_wrong", "_law_wrong", defArgs (top 77), defBody (top 77), defScope (top 77), [], []⟩) rfl
  have B__law_wrong : Binds K fd__law_wrong ["box", "wish"] [] := FunD.bindsN F__law_wrong fun _ _ _ _ _ _ us hl => match us, hl with | [_, _], _ => rfl
  have D__law_wrong : DfI PySem.Challenge.pw_madeorbarred_k67_bars_of_six_kinds w K mg base 3 "_law_wrong" 2 0 m__law_wrong := dfI_ok M.gd__law_wrong F__law_wrong sc__law_wrong (by decide) B__law_wrong (bd__law_wrong M (D__law_draw.mono (by decide)) (D__law_bounds.mono (by decide)) (D__law_great.mono (by decide)))
  obtain ⟨fd__law_due, F__law_due⟩ := c.m.def_ 7 (d := ⟨("_law_due", none), "_law_due", "_law_due", defArgs (top 73), defBody (top 73), defScope (top 73), [], []⟩) rfl
  have B__law_due : Binds K fd__law_due ["wish"] [] := FunD.bindsN F__law_due fun _ _ _ _ _ _ us hl => match us, hl with | [_], _ => rfl
  have D__law_due : Df PySem.Challenge.pw_madeorbarred_k67_bars_of_six_kinds w K mg base 1 "_law_due" 1 m__law_due := df_ok M.gd__law_due F__law_due sc__law_due B__law_due (bd__law_due M)
  obtain ⟨fd__law_same, F__law_same⟩ := c.m.def_ 8 (d := ⟨("_law_same", none), "_law_same", "_law_same", defArgs (top 67), defBody (top 67), defScope (top 67), [], []⟩) rfl
  have B__law_same : Binds K fd__law_same ["told", "due"] [] := FunD.bindsN F__law_same fun _ _ _ _ _ _ us hl => match us, hl with | [_, _], _ => rfl
  have D__law_same : Df PySem.Challenge.pw_madeorbarred_k67_bars_of_six_kinds w K mg base 4 "_law_same" 2 (m__law_same 4) := by
    have D0 : Df PySem.Challenge.pw_madeorbarred_k67_bars_of_six_kinds w K mg base 0 "_law_same" 2 (m__law_same 0) := df_stuck M.gd__law_same F__law_same B__law_same rfl
    have D1 : Df PySem.Challenge.pw_madeorbarred_k67_bars_of_six_kinds w K mg base 1 "_law_same" 2 (m__law_same 1) := df_ok M.gd__law_same F__law_same sc__law_same B__law_same (bd__law_same M D0)
    have D2 : Df PySem.Challenge.pw_madeorbarred_k67_bars_of_six_kinds w K mg base 2 "_law_same" 2 (m__law_same 2) := df_ok M.gd__law_same F__law_same sc__law_same B__law_same (bd__law_same M D1)
    have D3 : Df PySem.Challenge.pw_madeorbarred_k67_bars_of_six_kinds w K mg base 3 "_law_same" 2 (m__law_same 3) := df_ok M.gd__law_same F__law_same sc__law_same B__law_same (bd__law_same M D2)
    have D4 : Df PySem.Challenge.pw_madeorbarred_k67_bars_of_six_kinds w K mg base 4 "_law_same" 2 (m__law_same 4) := df_ok M.gd__law_same F__law_same sc__law_same B__law_same (bd__law_same M D3)
    exact D4
  obtain ⟨fd_is_number, F_is_number⟩ := c.m.def_ 9 (d := ⟨("is_number", none), "is_number", "is_number", defArgs (top 32), defBody (top 32), defScope (top 32), [], []⟩) rfl
  have B_is_number : Binds K fd_is_number ["thing"] [] := FunD.bindsN F_is_number fun _ _ _ _ _ _ us hl => match us, hl with | [_], _ => rfl
  have D_is_number : Df PySem.Challenge.pw_madeorbarred_k67_bars_of_six_kinds w K mg base 1 "is_number" 1 m_is_number := df_ok M.gd_is_number F_is_number sc_is_number B_is_number (bd_is_number M)
  obtain ⟨fd__is_wish, F__is_wish⟩ := c.m.def_ 10 (d := ⟨("_is_wish", none), "_is_wish", "_is_wish", defArgs (top 48), defBody (top 48), defScope (top 48), [], []⟩) rfl
  have B__is_wish : Binds K fd__is_wish ["wish"] [] := FunD.bindsN F__is_wish fun _ _ _ _ _ _ us hl => match us, hl with | [_], _ => rfl
  have D__is_wish : Df PySem.Challenge.pw_madeorbarred_k67_bars_of_six_kinds w K mg base 2 "_is_wish" 1 m__is_wish := df_ok M.gd__is_wish F__is_wish sc__is_wish B__is_wish (bd__is_wish M (D_is_number.mono (by decide)))
  obtain ⟨fd_looked_wish, F_looked_wish⟩ := c.m.def_ 11 (d := ⟨("looked_wish", none), "looked_wish", "looked_wish", defArgs (top 49), defBody (top 49), defScope (top 49), [], []⟩) rfl
  have B_looked_wish : Binds K fd_looked_wish ["wish"] [] := FunD.bindsN F_looked_wish fun _ _ _ _ _ _ us hl => match us, hl with | [_], _ => rfl
  have D_looked_wish : Df PySem.Challenge.pw_madeorbarred_k67_bars_of_six_kinds w K mg base 3 "looked_wish" 1 m_looked_wish := df_ok M.gd_looked_wish F_looked_wish sc_looked_wish B_looked_wish (bd_looked_wish M (D__is_wish.mono (by decide)))
  obtain ⟨fd__bar, F__bar⟩ := c.m.def_ 12 (d := ⟨("_bar", none), "_bar", "_bar", defArgs (top 51), defBody (top 51), defScope (top 51), [], []⟩) rfl
  have B__bar : Binds K fd__bar ["word", "applies"] [] := FunD.bindsN F__bar fun _ _ _ _ _ _ us hl => match us, hl with | [_, _], _ => rfl
  have D__bar : Df PySem.Challenge.pw_madeorbarred_k67_bars_of_six_kinds w K mg base 1 "_bar" 2 m__bar := df_ok M.gd__bar F__bar sc__bar B__bar (bd__bar M)
  obtain ⟨fd__rounds_bars, F__rounds_bars⟩ := c.m.def_ 13 (d := ⟨("_rounds_bars", none), "_rounds_bars", "_rounds_bars", defArgs (top 52), defBody (top 52), defScope (top 52), [], []⟩) rfl
  have B__rounds_bars : Binds K fd__rounds_bars ["wish"] [] := FunD.bindsN F__rounds_bars fun _ _ _ _ _ _ us hl => match us, hl with | [_], _ => rfl
  have D__rounds_bars : Df PySem.Challenge.pw_madeorbarred_k67_bars_of_six_kinds w K mg base 2 "_rounds_bars" 1 m__rounds_bars := df_ok M.gd__rounds_bars F__rounds_bars sc__rounds_bars B__rounds_bars (bd__rounds_bars M (D__bar.mono (by decide)))
  obtain ⟨fd__triples_bars, F__triples_bars⟩ := c.m.def_ 14 (d := ⟨("_triples_bars", none), "_triples_bars", "_triples_bars", defArgs (top 53), defBody (top 53), defScope (top 53), [], []⟩) rfl
  have B__triples_bars : Binds K fd__triples_bars ["wish"] [] := FunD.bindsN F__triples_bars fun _ _ _ _ _ _ us hl => match us, hl with | [_], _ => rfl
  have D__triples_bars : Df PySem.Challenge.pw_madeorbarred_k67_bars_of_six_kinds w K mg base 2 "_triples_bars" 1 m__triples_bars := df_ok M.gd__triples_bars F__triples_bars sc__triples_bars B__triples_bars (bd__triples_bars M (D__bar.mono (by decide)))
  obtain ⟨fd__ring_bars, F__ring_bars⟩ := c.m.def_ 15 (d := ⟨("_ring_bars", none), "_ring_bars", "_ring_bars", defArgs (top 54), defBody (top 54), defScope (top 54), [], []⟩) rfl
  have B__ring_bars : Binds K fd__ring_bars ["wish"] [] := FunD.bindsN F__ring_bars fun _ _ _ _ _ _ us hl => match us, hl with | [_], _ => rfl
  have D__ring_bars : Df PySem.Challenge.pw_madeorbarred_k67_bars_of_six_kinds w K mg base 2 "_ring_bars" 1 m__ring_bars := df_ok M.gd__ring_bars F__ring_bars sc__ring_bars B__ring_bars (bd__ring_bars M (D__bar.mono (by decide)))
  obtain ⟨fd__days_bars, F__days_bars⟩ := c.m.def_ 16 (d := ⟨("_days_bars", none), "_days_bars", "_days_bars", defArgs (top 55), defBody (top 55), defScope (top 55), [], []⟩) rfl
  have B__days_bars : Binds K fd__days_bars ["wish"] [] := FunD.bindsN F__days_bars fun _ _ _ _ _ _ us hl => match us, hl with | [_], _ => rfl
  have D__days_bars : Df PySem.Challenge.pw_madeorbarred_k67_bars_of_six_kinds w K mg base 2 "_days_bars" 1 m__days_bars := df_ok M.gd__days_bars F__days_bars sc__days_bars B__days_bars (bd__days_bars M (D__bar.mono (by decide)))
  obtain ⟨fd__fours_bars, F__fours_bars⟩ := c.m.def_ 17 (d := ⟨("_fours_bars", none), "_fours_bars", "_fours_bars", defArgs (top 56), defBody (top 56), defScope (top 56), [], []⟩) rfl
  have B__fours_bars : Binds K fd__fours_bars ["wish"] [] := FunD.bindsN F__fours_bars fun _ _ _ _ _ _ us hl => match us, hl with | [_], _ => rfl
  have D__fours_bars : Df PySem.Challenge.pw_madeorbarred_k67_bars_of_six_kinds w K mg base 2 "_fours_bars" 1 m__fours_bars := df_ok M.gd__fours_bars F__fours_bars sc__fours_bars B__fours_bars (bd__fours_bars M (D__bar.mono (by decide)))
  obtain ⟨fd__mates_bars, F__mates_bars⟩ := c.m.def_ 18 (d := ⟨("_mates_bars", none), "_mates_bars", "_mates_bars", defArgs (top 57), defBody (top 57), defScope (top 57), [], []⟩) rfl
  have B__mates_bars : Binds K fd__mates_bars ["wish"] [] := FunD.bindsN F__mates_bars fun _ _ _ _ _ _ us hl => match us, hl with | [_], _ => rfl
  have D__mates_bars : Df PySem.Challenge.pw_madeorbarred_k67_bars_of_six_kinds w K mg base 2 "_mates_bars" 1 m__mates_bars := df_ok M.gd__mates_bars F__mates_bars sc__mates_bars B__mates_bars (bd__mates_bars M (D__bar.mono (by decide)))
  obtain ⟨fd__signs_bars, F__signs_bars⟩ := c.m.def_ 19 (d := ⟨("_signs_bars", none), "_signs_bars", "_signs_bars", defArgs (top 58), defBody (top 58), defScope (top 58), [], []⟩) rfl
  have B__signs_bars : Binds K fd__signs_bars ["wish"] [] := FunD.bindsN F__signs_bars fun _ _ _ _ _ _ us hl => match us, hl with | [_], _ => rfl
  have D__signs_bars : Df PySem.Challenge.pw_madeorbarred_k67_bars_of_six_kinds w K mg base 2 "_signs_bars" 1 m__signs_bars := df_ok M.gd__signs_bars F__signs_bars sc__signs_bars B__signs_bars (bd__signs_bars M (D__bar.mono (by decide)))
  obtain ⟨fd_listed_bars, F_listed_bars⟩ := c.m.def_ 20 (d := ⟨("listed_bars", none), "listed_bars", "listed_bars", defArgs (top 61), defBody (top 61), defScope (top 61), [], []⟩) rfl
  have B_listed_bars : Binds K fd_listed_bars ["wish"] [] := FunD.bindsN F_listed_bars fun _ _ _ _ _ _ us hl => match us, hl with | [_], _ => rfl
  have LS_listed_bars : LocF PySem.Challenge.pw_madeorbarred_k67_bars_of_six_kinds w K mg base 3 1 sel_listed_bars := fun nm m e => by
    have e2 := PySem.mem_of_lookup (show ([("_rounds_bars", m__rounds_bars), ("_triples_bars", m__triples_bars), ("_ring_bars", m__ring_bars), ("_days_bars", m__days_bars), ("_fours_bars", m__fours_bars), ("_mates_bars", m__mates_bars), ("_signs_bars", m__signs_bars)] : List (Str × Fn)).lookup nm = some m from e)
    simp only [List.mem_cons, Prod.mk.injEq, List.not_mem_nil, or_false] at e2
    rcases e2 with ⟨rfl, rfl⟩ | ⟨rfl, rfl⟩ | ⟨rfl, rfl⟩ | ⟨rfl, rfl⟩ | ⟨rfl, rfl⟩ | ⟨rfl, rfl⟩ | ⟨rfl, rfl⟩
    · exact ⟨M.gd__rounds_bars, D__rounds_bars.mono (by decide)⟩
    · exact ⟨M.gd__triples_bars, D__triples_bars.mono (by decide)⟩
    · exact ⟨M.gd__ring_bars, D__ring_bars.mono (by decide)⟩
    · exact ⟨M.gd__days_bars, D__days_bars.mono (by decide)⟩
    · exact ⟨M.gd__fours_bars, D__fours_bars.mono (by decide)⟩
    · exact ⟨M.gd__mates_bars, D__mates_bars.mono (by decide)⟩
    · exact ⟨M.gd__signs_bars, D__signs_bars.mono (by decide)⟩
  have D_listed_bars : Df PySem.Challenge.pw_madeorbarred_k67_bars_of_six_kinds w K mg base 4 "listed_bars" 1 m_listed_bars := df_ok M.gd_listed_bars F_listed_bars sc_listed_bars B_listed_bars (bd_listed_bars M (D_looked_wish.mono (by decide)) LS_listed_bars)
  obtain ⟨fd_bars, F_bars⟩ := c.m.def_ 21 (d := ⟨("bars", none), "bars", "bars", defArgs (top 62), defBody (top 62), defScope (top 62), [], []⟩) rfl
  have B_bars : Binds K fd_bars ["wish", "paper"] [] := FunD.bindsN F_bars fun _ _ _ _ _ _ us hl => match us, hl with | [_, _], _ => rfl
  have D_bars : Df PySem.Challenge.pw_madeorbarred_k67_bars_of_six_kinds w K mg base 5 "bars" 2 m_bars := df_ok M.gd_bars F_bars sc_bars B_bars (bd_bars M (D_listed_bars.mono (by decide)))
  obtain ⟨fd_first_bar, F_first_bar⟩ := c.m.def_ 22 (d := ⟨("first_bar", none), "first_bar", "first_bar", defArgs (top 63), defBody (top 63), defScope (top 63), [], []⟩) rfl
  have B_first_bar : Binds K fd_first_bar ["wish"] [] := FunD.bindsN F_first_bar fun _ _ _ _ _ _ us hl => match us, hl with | [_], _ => rfl
  have D_first_bar : Df PySem.Challenge.pw_madeorbarred_k67_bars_of_six_kinds w K mg base 5 "first_bar" 1 m_first_bar := df_ok M.gd_first_bar F_first_bar sc_first_bar B_first_bar (bd_first_bar M (D_listed_bars.mono (by decide)))
  obtain ⟨fd__law_stray, F__law_stray⟩ := c.m.def_ 23 (d := ⟨("_law_stray", none), "_law_stray", "_law_stray", defArgs (top 68), defBody (top 68), defScope (top 68), [], []⟩) rfl
  have B__law_stray : Binds K fd__law_stray ["e"] [] := FunD.bindsN F__law_stray fun _ _ _ _ _ _ us hl => match us, hl with | [_], _ => rfl
  have D__law_stray : DfE PySem.Challenge.pw_madeorbarred_k67_bars_of_six_kinds w K mg base 1 "_law_stray" m__law_stray := dfE_ok M.gd__law_stray F__law_stray sc__law_stray rfl B__law_stray (bd__law_stray M)
  obtain ⟨fd__law_told, F__law_told⟩ := c.m.def_ 24 (d := ⟨("_law_told", none), "_law_told", "_law_told", defArgs (top 69), defBody (top 69), defScope (top 69), [], []⟩) rfl
  have B__law_told : Binds K fd__law_told ["word", "wish", "paper"] [] := FunD.bindsN F__law_told fun _ _ _ _ _ _ us hl => match us, hl with | [_, _, _], _ => rfl
  have D__law_told : Df PySem.Challenge.pw_madeorbarred_k67_bars_of_six_kinds w K mg base 6 "_law_told" 3 m__law_told := df_ok M.gd__law_told F__law_told sc__law_told B__law_told (bd__law_told M (D_bars.mono (by decide)) (D_first_bar.mono (by decide)) (D__law_stray.mono (by decide)))
  obtain ⟨fd__law_asked, F__law_asked⟩ := c.m.def_ 25 (d := ⟨("_law_asked", none), "_law_asked", "_law_asked", defArgs (top 75), defBody (top 75), defScope (top 75), [], []⟩) rfl
  have B__law_asked : Binds K fd__law_asked ["wish", "papers"] [] := FunD.bindsN F__law_asked fun _ _ _ _ _ _ us hl => match us, hl with | [_, _], _ => rfl
  have D__law_asked : Df PySem.Challenge.pw_madeorbarred_k67_bars_of_six_kinds w K mg base 7 "_law_asked" 2 m__law_asked := df_ok M.gd__law_asked F__law_asked sc__law_asked B__law_asked (bd__law_asked M (D__law_due.mono (by decide)) (D__law_same.mono (by decide)) (D__law_told.mono (by decide)))
  obtain ⟨fd__law_papers, F__law_papers⟩ := c.m.def_ 26 (d := ⟨("_law_papers", none), "_law_papers", "_law_papers", defArgs (top 74), defBody (top 74), defScope (top 74), [], []⟩) rfl
  have B__law_papers : Binds K fd__law_papers ["box", "wish"] [] := FunD.bindsN F__law_papers fun _ _ _ _ _ _ us hl => match us, hl with | [_, _], _ => rfl
  have D__law_papers : DfI PySem.Challenge.pw_madeorbarred_k67_bars_of_six_kinds w K mg base 2 "_law_papers" 2 0 m__law_papers := dfI_ok M.gd__law_papers F__law_papers sc__law_papers (by decide) B__law_papers (bd__law_papers M (D__law_draw.mono (by decide)) (D__law_due.mono (by decide)))
  exact def_ok F_law sc_law (bd_law M (D__law_pool.mono (by decide)) (D__law_wishes.mono (by decide)) (D__law_asked.mono (by decide)) (D__law_papers.mono (by decide)) (D__law_wrong.mono (by decide)) (D__law_draw.mono (by decide)) (D__law_same.mono (by decide)) (D__law_told.mono (by decide)))
end K67

/-! Plain facts of the functions by values: loops, comprehensions, built-in types, powers. -/
namespace MB
open PySem PySem.Spec PyProof.Rows L2
@[simp] theorem kb_NoneType_int : L2.kitB "NoneType" "int" = some false := by decide +kernel
@[simp] theorem kb_NoneType_bool : L2.kitB "NoneType" "bool" = some false := by decide +kernel
@[simp] theorem kb_NoneType_str : L2.kitB "NoneType" "str" = some false := by decide +kernel
@[simp] theorem kb_NoneType_list : L2.kitB "NoneType" "list" = some false := by decide +kernel
@[simp] theorem kb_NoneType_tuple : L2.kitB "NoneType" "tuple" = some false := by decide +kernel
@[simp] theorem kb_bool_int : L2.kitB "bool" "int" = some true := by decide +kernel
@[simp] theorem kb_bool_bool : L2.kitB "bool" "bool" = some true := by decide +kernel
@[simp] theorem kb_bool_str : L2.kitB "bool" "str" = some false := by decide +kernel
@[simp] theorem kb_bool_list : L2.kitB "bool" "list" = some false := by decide +kernel
@[simp] theorem kb_bool_tuple : L2.kitB "bool" "tuple" = some false := by decide +kernel
@[simp] theorem kb_int_int : L2.kitB "int" "int" = some true := by decide +kernel
@[simp] theorem kb_int_bool : L2.kitB "int" "bool" = some false := by decide +kernel
@[simp] theorem kb_int_str : L2.kitB "int" "str" = some false := by decide +kernel
@[simp] theorem kb_int_list : L2.kitB "int" "list" = some false := by decide +kernel
@[simp] theorem kb_int_tuple : L2.kitB "int" "tuple" = some false := by decide +kernel
@[simp] theorem kb_str_int : L2.kitB "str" "int" = some false := by decide +kernel
@[simp] theorem kb_str_bool : L2.kitB "str" "bool" = some false := by decide +kernel
@[simp] theorem kb_str_str : L2.kitB "str" "str" = some true := by decide +kernel
@[simp] theorem kb_str_list : L2.kitB "str" "list" = some false := by decide +kernel
@[simp] theorem kb_str_tuple : L2.kitB "str" "tuple" = some false := by decide +kernel
@[simp] theorem kb_tuple_int : L2.kitB "tuple" "int" = some false := by decide +kernel
@[simp] theorem kb_tuple_bool : L2.kitB "tuple" "bool" = some false := by decide +kernel
@[simp] theorem kb_tuple_str : L2.kitB "tuple" "str" = some false := by decide +kernel
@[simp] theorem kb_tuple_list : L2.kitB "tuple" "list" = some false := by decide +kernel
@[simp] theorem kb_tuple_tuple : L2.kitB "tuple" "tuple" = some true := by decide +kernel
@[simp] theorem kb_list_int : L2.kitB "list" "int" = some false := by decide +kernel
@[simp] theorem kb_list_bool : L2.kitB "list" "bool" = some false := by decide +kernel
@[simp] theorem kb_list_str : L2.kitB "list" "str" = some false := by decide +kernel
@[simp] theorem kb_list_list : L2.kitB "list" "list" = some true := by decide +kernel
@[simp] theorem kb_list_tuple : L2.kitB "list" "tuple" = some false := by decide +kernel
/-- a loop whose turns all go on -/
theorem loopS_inv {I : En → Prop} {b : BX} {g : SX} : ∀ {ds : List D} {ρ : En}, (∀ d ∈ ds, ∀ ρ, I ρ → ∃ ρ1, b d ρ = some ρ1 ∧ ∃ ρ2, g ρ1 = .nx ρ2 ∧ I ρ2) → I ρ → ∃ ρ', loopS b g ds ρ = .nx ρ' ∧ I ρ'
  | [], ρ, _, h => ⟨ρ, rfl, h⟩
  | d :: ds, ρ, H, h => by
    obtain ⟨ρ1, e1, ρ2, e2, h2⟩ := H d List.mem_cons_self ρ h
    obtain ⟨ρ', e3, h3⟩ := loopS_inv (fun d' m => H d' (List.mem_cons_of_mem _ m)) h2
    refine ⟨ρ', ?_, h3⟩
    unfold loopS
    simp only [e1, e2]
    exact e3
theorem loopS_cons {b : BX} {g : SX} {d : D} {ds : List D} {ρ ρ1 ρ2 : En} (e1 : b d ρ = some ρ1) (e2 : g ρ1 = .nx ρ2) : loopS b g (d :: ds) ρ = loopS b g ds ρ2 := by
  conv => lhs; unfold loopS
  simp only [e1, e2]
theorem loopS_cons_rt {b : BX} {g : SX} {d y : D} {ds : List D} {ρ ρ1 ρ2 : En} (e1 : b d ρ = some ρ1) (e2 : g ρ1 = .rt y ρ2) : loopS b g (d :: ds) ρ = .rt y ρ2 := by
  conv => lhs; unfold loopS
  simp only [e1, e2]
/-- a comprehension without a test whose element is a function of the item -/
theorem compL_map {vs : List Nat} {b : BX} {e : EX} {g : D → D} {ρ0 : En} : ∀ {ds acc : List D} {ρ : En}, (∀ d ∈ ds, ∃ ρ1, b d ρ0 = some ρ1 ∧ ∃ ρ2, e ρ1 = .ok (g d) ρ2 ∧ wipeE ρ2 vs = ρ0) → wipeE ρ vs = ρ0 → ∃ ρ', compL b (eC (.bl true)) e vs ds acc ρ = .ok (.lst (acc ++ ds.map g)) ρ' ∧ wipeE ρ' vs = ρ0
  | [], acc, ρ, _, h => ⟨ρ, by simp [compL], h⟩
  | d :: ds, acc, ρ, H, h => by
    obtain ⟨ρ1, e1, ρ2, e2, h2⟩ := H d List.mem_cons_self
    obtain ⟨ρ', e3, h3⟩ := compL_map (acc := acc ++ [g d]) (fun d' m => H d' (List.mem_cons_of_mem _ m)) h2
    refine ⟨ρ', ?_, h3⟩
    unfold compL
    simp only [h, e1, eC, Rs.bind, truth, e2, e3]
    simp
theorem eComp_map {it : IX} {b : BX} {e : EX} {vs : List Nat} {g : D → D} {ds : List D} {ρ ρ1 : En} (hi : it ρ = .ok ds ρ1) (hl : ds.length ≤ 1000000) (hn : vs.all (notOwn ρ1) = true)
    (H : ∀ d ∈ ds, ∃ ρ2, b d (wipeE ρ1 vs) = some ρ2 ∧ ∃ ρ3, e ρ2 = .ok (g d) ρ3 ∧ wipeE ρ3 vs = wipeE ρ1 vs) : eComp it b (eC (.bl true)) e vs ρ = .ok (.lst (ds.map g)) (backE ρ1 (wipeE ρ1 vs) vs) := by
  obtain ⟨ρ', e1, h1⟩ := compL_map (acc := []) H rfl
  unfold eComp
  simp only [hi, hl, hn, and_self, if_true, e1, h1, List.nil_append]
/-- a comprehension with a test -/
theorem compL_filt {vs : List Nat} {b : BX} {c e : EX} {p : D → Bool} {g : D → D} {ρ0 : En} : ∀ {ds acc : List D} {ρ : En}, (∀ d ∈ ds, ∃ ρ1, b d ρ0 = some ρ1 ∧ ∃ t ρ2, c ρ1 = .ok t ρ2 ∧ truth t = some (p d) ∧ (p d = false → wipeE ρ2 vs = ρ0) ∧ (p d = true → ∃ ρ3, e ρ2 = .ok (g d) ρ3 ∧ wipeE ρ3 vs = ρ0)) → wipeE ρ vs = ρ0 →
    ∃ ρ', compL b c e vs ds acc ρ = .ok (.lst (acc ++ (ds.filter p).map g)) ρ' ∧ wipeE ρ' vs = ρ0
  | [], acc, ρ, _, h => ⟨ρ, by simp [compL], h⟩
  | d :: ds, acc, ρ, H, h => by
    obtain ⟨ρ1, e1, t, ρ2, e2, ht, hf, hg⟩ := H d List.mem_cons_self
    cases q : p d with
    | false =>
      obtain ⟨ρ', e3, h3⟩ := compL_filt (acc := acc) (fun d' m => H d' (List.mem_cons_of_mem _ m)) (hf q)
      refine ⟨ρ', ?_, h3⟩
      unfold compL
      rw [q] at ht
      simp only [h, e1, Rs.bind, e2, ht, e3, List.filter_cons, q]
      simp
    | true =>
      obtain ⟨ρ3, e4, h4⟩ := hg q
      obtain ⟨ρ', e3, h3⟩ := compL_filt (acc := acc ++ [g d]) (fun d' m => H d' (List.mem_cons_of_mem _ m)) h4
      refine ⟨ρ', ?_, h3⟩
      unfold compL
      rw [q] at ht
      simp only [h, e1, Rs.bind, e2, ht, e4, e3, List.filter_cons, q]
      simp
theorem eComp_filt {it : IX} {b : BX} {c e : EX} {vs : List Nat} {p : D → Bool} {g : D → D} {ds : List D} {ρ ρ1 : En} (hi : it ρ = .ok ds ρ1) (hl : ds.length ≤ 1000000) (hn : vs.all (notOwn ρ1) = true)
    (H : ∀ d ∈ ds, ∃ ρ2, b d (wipeE ρ1 vs) = some ρ2 ∧ ∃ t ρ3, c ρ2 = .ok t ρ3 ∧ truth t = some (p d) ∧ (p d = false → wipeE ρ3 vs = wipeE ρ1 vs) ∧ (p d = true → ∃ ρ4, e ρ3 = .ok (g d) ρ4 ∧ wipeE ρ4 vs = wipeE ρ1 vs)) :
    eComp it b c e vs ρ = .ok (.lst ((ds.filter p).map g)) (backE ρ1 (wipeE ρ1 vs) vs) := by
  obtain ⟨ρ', e1, h1⟩ := compL_filt (acc := []) H rfl
  unfold eComp
  simp only [hi, hl, hn, and_self, if_true, e1, h1, List.nil_append]
/-! powers of ten that the laws name -/
def E30 : Int := 10 ^ 30
def E60 : Int := 10 ^ 60
def E600 : Int := 10 ^ 600
theorem E30_eq : E30 = 1000000000000000000000000000000 := by decide +kernel
theorem E60_pos : E30 < E60 := by decide +kernel
theorem E600_pos : E60 < E600 := by decide +kernel
@[simp] theorem pw6 : powM (.int 10) (.int 6) = some (.int 1000000) := by
  show (if powOk 10 6 = true then some (D.int ((10 : Int) ^ (6 : Int).toNat)) else none) = _
  rw [if_pos (by decide +kernel)]
  rfl
@[simp] theorem pw30 : powM (.int 10) (.int 30) = some (.int E30) := by
  show (if powOk 10 30 = true then some (D.int ((10 : Int) ^ (30 : Int).toNat)) else none) = _
  rw [if_pos (by decide +kernel)]
  rfl
@[simp] theorem pw60 : powM (.int 10) (.int 60) = some (.int E60) := by
  show (if powOk 10 60 = true then some (D.int ((10 : Int) ^ (60 : Int).toNat)) else none) = _
  rw [if_pos (by decide +kernel)]
  rfl
@[simp] theorem pw600 : powM (.int E60) (.int 10) = some (.int E600) := by
  have h : powOk E60 10 = true := by decide +kernel
  have e : E60 ^ (10 : Int).toNat = E600 := by decide +kernel
  show (if powOk E60 10 = true then some (D.int (E60 ^ (10 : Int).toNat)) else none) = _
  rw [if_pos h, e]
end MB

/-! What the defs answer. -/
namespace K67
open PySem MB

/-- the law's box of numbers -/
def Box (cs : List D) : Prop := ∃ (s i r : Int) (rs : List Int), cs = .int s :: .int i :: .int r :: rs.map D.int ∧ 0 ≤ i
theorem atI0 {α : Type} {a : α} {l : List α} : L2.atI (a :: l) 0 = some a := by
  unfold L2.atI L2.ixN
  rw [if_pos (by omega), if_pos (by simp only [List.length_cons]; omega)]
  rfl
theorem atI1 {α : Type} {a b : α} {l : List α} : L2.atI (a :: b :: l) 1 = some b := by
  unfold L2.atI L2.ixN
  rw [if_pos (by omega), if_pos (by simp only [List.length_cons]; omega)]
  rfl
theorem atI2 {α : Type} {a b c : α} {l : List α} : L2.atI (a :: b :: c :: l) 2 = some c := by
  unfold L2.atI L2.ixN
  rw [if_pos (by omega), if_pos (by simp only [List.length_cons]; omega)]
  rfl
theorem ixN1 {n : Nat} : L2.ixN (n + 1 + 1) 1 = some 1 := by
  unfold L2.ixN
  rw [if_pos (by omega), if_pos (by omega)]
  rfl
theorem ixN2 {n : Nat} : L2.ixN (n + 1 + 1 + 1) 2 = some 2 := by
  unfold L2.ixN
  rw [if_pos (by omega), if_pos (by omega)]
  rfl
theorem atI_box {s i i' r : Int} {rs : List Int} (h0 : 0 ≤ i) (h : i + 2 < (((D.int s :: .int i :: .int r :: rs.map D.int).length : Nat) : Int)) : ∃ z, L2.atI (D.int s :: .int i' :: .int r :: rs.map D.int) (i + 2) = some (.int z) := by
  have h2 : (i + 2).toNat < (D.int s :: .int i' :: .int r :: rs.map D.int).length := by
    simp only [List.length_cons, List.length_map] at h ⊢
    omega
  have e : L2.atI (D.int s :: .int i' :: .int r :: rs.map D.int) (i + 2) = (D.int s :: .int i' :: .int r :: rs.map D.int)[(i + 2).toNat]? := by
    unfold L2.atI L2.ixN
    have h3 : i + 2 < (((D.int s :: .int i' :: .int r :: rs.map D.int).length : Nat) : Int) := by simpa using h
    rw [if_pos (by omega), if_pos h3]
    rfl
  rw [e, List.getElem?_eq_getElem h2]
  have : ∀ (l : List Int) (k : Nat) (h : k < (l.map D.int).length), ∃ z, (l.map D.int)[k] = .int z := fun l k h => ⟨l[k]'(by simpa using h), by simp⟩
  obtain ⟨z, hz⟩ := this (s :: i' :: r :: rs) (i + 2).toNat (by simpa using h2)
  exact ⟨z, by simpa using hz⟩
theorem fmod_lt {a b : Int} (h : 0 < b) : 0 ≤ a.fmod b ∧ a.fmod b < b := ⟨Int.fmod_nonneg_of_pos _ h, Int.fmod_lt_of_pos _ h⟩
theorem draw_spec {cs : List D} {many : Int} (hb : Box cs) (h0 : 0 < many) (hd : many.natAbs < 1073741824 ∨ many.natAbs.log2 < 9000) : ∃ z cs', m__law_draw [.non, .int many] cs = .ok (.int z) cs' ∧ Box cs' ∧ 0 ≤ z ∧ z < many := by
  obtain ⟨s, i, r, rs, rfl, hi⟩ := hb
  have hne : many ≠ 0 := by omega
  have hdk : many.natAbs < 1073741824 ∨ 0 < many ∧ many.natAbs.log2 < 9000 := hd.imp id fun h => ⟨h0, h⟩
  have last : ∀ (s' i' r' : Int), 0 ≤ i' → ∃ z cs', (Box cs' ∧ 0 ≤ z ∧ z < many) ∧ z = r'.fmod many ∧ cs' = D.int s' :: .int i' :: .int (r'.fdiv many) :: rs.map D.int :=
    fun s' i' r' h => ⟨_, _, ⟨⟨s', i', _, rs, rfl, h⟩, fmod_lt h0⟩, rfl, rfl⟩
  by_cases hr : r = 0
  · subst hr
    by_cases hl : i + 1 + 2 < (((D.int s :: .int i :: .int 0 :: rs.map D.int).length : Nat) : Int)
    · obtain ⟨z, hz⟩ := atI_box (s := s) (i := i + 1) (i' := i + 1) (r := 0) (rs := rs) (by omega) (by simpa using hl)
      obtain ⟨a, cs', ⟨h1, h2, h3⟩, rfl, rfl⟩ := last s (i + 1) z (by omega)
      refine ⟨_, _, ?_, h1, h2, h3⟩
      have hl' : i + 1 + 2 < (rs.length : Int) + 1 + 1 + 1 := by simpa using hl
      simp [m__law_draw, b__law_draw, runS, endR, envOf, sSeq, sSet, sIf, sRet, sRetN, sEx, sNil, sRaise, sRaise0, sUn, evs, Rs.then, Rs.bind, eB, eC, eVar, eCall, eTup, eLst, eFn, eNot, eAnd, eOr, eIf, eChain, e1, negD, addD, subD, mulD, fdivD, modD, cmpI, eqD, neD, eqB, scalD, eqF, truth, intD, lenD, minD, divmodD, bNm, bTp, bAll, runI, endI, envI, listAt, putL, eFnI, evsM, sPutO, eIxO, eLenO, sApp0, sApp, Sl.list, Sl.wl, isM, isNo, isBlD, mulOk, divOk, eIsT, MB.isT, tyName, kb_NoneType_int, kb_NoneType_bool, kb_NoneType_str, kb_NoneType_list, kb_NoneType_tuple, kb_bool_int, kb_bool_bool, kb_bool_str, kb_bool_list, kb_bool_tuple, kb_int_int, kb_int_bool, kb_int_str, kb_int_list, kb_int_tuple, kb_str_int, kb_str_bool, kb_str_str, kb_str_list, kb_str_tuple, kb_tuple_int, kb_tuple_bool, kb_tuple_str, kb_tuple_list, kb_tuple_tuple, kb_list_int, kb_list_bool, kb_list_str, kb_list_list, kb_list_tuple, pw6, pw30, pw60, pw600, iV, seqI, iB, iZ, allD, sFor, atI0, atI1, atI2, ixN1, ixN2, List.set, hl', hz, hne, hdk]
    · have hl' : ¬ i + 1 + 2 < (rs.length : Int) + 1 + 1 + 1 := by simpa using hl
      refine ⟨((((s * 48271 + (i + 1) * 69621 + 11).fmod 2147483647 * (s * 48271 + (i + 1) * 69621 + 11).fmod 2147483647 + (i + 1) * 40692 + 3).fmod 2147483399).fdiv 7).fmod many, D.int s :: .int (i + 1) :: .int 0 :: rs.map D.int, ?_, ⟨s, i + 1, 0, rs, rfl, by omega⟩, (fmod_lt h0).1, (fmod_lt h0).2⟩
      obtain ⟨b1, b2⟩ := fmod_lt (a := s * 48271 + (i + 1) * 69621 + 11) (b := 2147483647) (by omega)
      have b3 : -18446744073709551616 < (s * 48271 + (i + 1) * 69621 + 11).fmod 2147483647 := by omega
      have b4 : (s * 48271 + (i + 1) * 69621 + 11).fmod 2147483647 < 18446744073709551616 := by omega
      simp [m__law_draw, b__law_draw, runS, endR, envOf, sSeq, sSet, sIf, sRet, sRetN, sEx, sNil, sRaise, sRaise0, sUn, evs, Rs.then, Rs.bind, eB, eC, eVar, eCall, eTup, eLst, eFn, eNot, eAnd, eOr, eIf, eChain, e1, negD, addD, subD, mulD, fdivD, modD, cmpI, eqD, neD, eqB, scalD, eqF, truth, intD, lenD, minD, divmodD, bNm, bTp, bAll, runI, endI, envI, listAt, putL, eFnI, evsM, sPutO, eIxO, eLenO, sApp0, sApp, Sl.list, Sl.wl, isM, isNo, isBlD, mulOk, divOk, eIsT, MB.isT, tyName, kb_NoneType_int, kb_NoneType_bool, kb_NoneType_str, kb_NoneType_list, kb_NoneType_tuple, kb_bool_int, kb_bool_bool, kb_bool_str, kb_bool_list, kb_bool_tuple, kb_int_int, kb_int_bool, kb_int_str, kb_int_list, kb_int_tuple, kb_str_int, kb_str_bool, kb_str_str, kb_str_list, kb_str_tuple, kb_tuple_int, kb_tuple_bool, kb_tuple_str, kb_tuple_list, kb_tuple_tuple, kb_list_int, kb_list_bool, kb_list_str, kb_list_list, kb_list_tuple, pw6, pw30, pw60, pw600, iV, seqI, iB, iZ, allD, sFor, atI0, atI1, atI2, ixN1, ixN2, List.set, hl', hne, hdk, b3, b4]
  · obtain ⟨a, cs', ⟨h1, h2, h3⟩, rfl, rfl⟩ := last s i r hi
    have hr2 : (r == 0) = false := by simpa using hr
    refine ⟨_, _, ?_, h1, h2, h3⟩
    simp [m__law_draw, b__law_draw, runS, endR, envOf, sSeq, sSet, sIf, sRet, sRetN, sEx, sNil, sRaise, sRaise0, sUn, evs, Rs.then, Rs.bind, eB, eC, eVar, eCall, eTup, eLst, eFn, eNot, eAnd, eOr, eIf, eChain, e1, negD, addD, subD, mulD, fdivD, modD, cmpI, eqD, neD, eqB, scalD, eqF, truth, intD, lenD, minD, divmodD, bNm, bTp, bAll, runI, endI, envI, listAt, putL, eFnI, evsM, sPutO, eIxO, eLenO, sApp0, sApp, Sl.list, Sl.wl, isM, isNo, isBlD, mulOk, divOk, eIsT, MB.isT, tyName, kb_NoneType_int, kb_NoneType_bool, kb_NoneType_str, kb_NoneType_list, kb_NoneType_tuple, kb_bool_int, kb_bool_bool, kb_bool_str, kb_bool_list, kb_bool_tuple, kb_int_int, kb_int_bool, kb_int_str, kb_int_list, kb_int_tuple, kb_str_int, kb_str_bool, kb_str_str, kb_str_list, kb_str_tuple, kb_tuple_int, kb_tuple_bool, kb_tuple_str, kb_tuple_list, kb_tuple_tuple, kb_list_int, kb_list_bool, kb_list_str, kb_list_list, kb_list_tuple, pw6, pw30, pw60, pw600, iV, seqI, iB, iZ, allD, sFor, atI0, atI1, atI2, ixN1, ixN2, List.set, hr2, hne, hdk]
end K67

/-! What the defs answer. -/
namespace K67
open PySem MB

def poolBody (x : Option Sl) (s : Int) (l : List D) (ns : List Int) : En := [some (.val (.scr ns)), some (.val (.lst l)), x, some (.val (.int s))]
theorem pool_spec {ns : List Int} (h : ns.length ≤ 63) : ∃ cs, m__law_pool [.scr ns] = some cs ∧ Box cs := by
  have hc : cutD ns none (some 63) = ns := cutD_all (by
    unfold HT.sIx
    constructor
    · rfl
    · show (if (63 : Int) < 0 then _ else _) = ns.length
      simp
      omega)
  have e1 : (eComp it__law_pool_0 (bNm 2) (eC (.bl true)) ce__law_pool_1 [2]) [some (.val (.scr ns)), none, none, none]
      = .ok (.lst ((ns.map D.int).map fun d => match d with | .int x => .int ((if x < 0 then -x else x).fmod E600) | d => d)) [some (.val (.scr ns)), none, none, none] := by
    refine (eComp_map (ds := ns.map D.int) (ρ1 := [some (.val (.scr ns)), none, none, none]) ?_ (by simp; omega) (by rfl) ?_).trans rfl
    · simp [it__law_pool_0, runS, endR, envOf, sSeq, sSet, sIf, sRet, sRetN, sEx, sNil, sRaise, sRaise0, sUn, evs, Rs.then, Rs.bind, eB, eC, eVar, eCall, eTup, eLst, eFn, eNot, eAnd, eOr, eIf, eChain, e1, negD, addD, subD, mulD, fdivD, modD, cmpI, eqD, neD, eqB, scalD, eqF, truth, intD, lenD, minD, divmodD, bNm, bTp, bAll, runI, endI, envI, listAt, putL, eFnI, evsM, sPutO, eIxO, eLenO, sApp0, sApp, Sl.list, Sl.wl, isM, isNo, isBlD, mulOk, divOk, eIsT, MB.isT, tyName, kb_NoneType_int, kb_NoneType_bool, kb_NoneType_str, kb_NoneType_list, kb_NoneType_tuple, kb_bool_int, kb_bool_bool, kb_bool_str, kb_bool_list, kb_bool_tuple, kb_int_int, kb_int_bool, kb_int_str, kb_int_list, kb_int_tuple, kb_str_int, kb_str_bool, kb_str_str, kb_str_list, kb_str_tuple, kb_tuple_int, kb_tuple_bool, kb_tuple_str, kb_tuple_list, kb_tuple_tuple, kb_list_int, kb_list_bool, kb_list_str, kb_list_list, kb_list_tuple, pw6, pw30, pw60, pw600, iV, seqI, iB, iZ, allD, sFor, eSl, eOpt, slD, hc]
    · intro d hd
      obtain ⟨x, _, rfl⟩ := List.mem_map.mp hd
      refine ⟨[some (.val (.scr ns)), none, some (.val (.int x)), none], rfl, [some (.val (.scr ns)), none, some (.val (.int x)), none], ?_, rfl⟩
      have hE : E600 ≠ 0 := by have := E600_pos; have := E60_pos; have := E30_eq; omega
      simp [ce__law_pool_1, runS, endR, envOf, sSeq, sSet, sIf, sRet, sRetN, sEx, sNil, sRaise, sRaise0, sUn, evs, Rs.then, Rs.bind, eB, eC, eVar, eCall, eTup, eLst, eFn, eNot, eAnd, eOr, eIf, eChain, e1, negD, addD, subD, mulD, fdivD, modD, cmpI, eqD, neD, eqB, scalD, eqF, truth, intD, lenD, minD, divmodD, bNm, bTp, bAll, runI, endI, envI, listAt, putL, eFnI, evsM, sPutO, eIxO, eLenO, sApp0, sApp, Sl.list, Sl.wl, isM, isNo, isBlD, mulOk, divOk, eIsT, MB.isT, tyName, kb_NoneType_int, kb_NoneType_bool, kb_NoneType_str, kb_NoneType_list, kb_NoneType_tuple, kb_bool_int, kb_bool_bool, kb_bool_str, kb_bool_list, kb_bool_tuple, kb_int_int, kb_int_bool, kb_int_str, kb_int_list, kb_int_tuple, kb_str_int, kb_str_bool, kb_str_str, kb_str_list, kb_str_tuple, kb_tuple_int, kb_tuple_bool, kb_tuple_str, kb_tuple_list, kb_tuple_tuple, kb_list_int, kb_list_bool, kb_list_str, kb_list_list, kb_list_tuple, pw6, pw30, pw60, pw600, iV, seqI, iB, iZ, allD, sFor, absD, hE]
  have e2 : ∃ rs : List Int, ((ns.map D.int).map fun d => match d with | .int x => .int ((if x < 0 then -x else x).fmod E600) | d => d) = rs.map D.int ∧ rs.length = ns.length := ⟨ns.map fun x => (if x < 0 then -x else x).fmod E600, by simp, by simp⟩
  obtain ⟨rs, e3, e4⟩ := e2
  rw [e3] at e1
  have loop : ∃ ρ', loopS (bNm 2) g__law_pool_3 (rs.map D.int) (poolBody none 7 (rs.map D.int) ns) = .nx ρ' ∧ ∃ x s, ρ' = poolBody x s (rs.map D.int) ns := by
    refine loopS_inv (I := fun ρ => ∃ x s, ρ = poolBody x s (rs.map D.int) ns) (fun d hd ρ h => ?_) ⟨_, _, rfl⟩
    obtain ⟨x, s, rfl⟩ := h
    obtain ⟨y, _, rfl⟩ := List.mem_map.mp hd
    exact ⟨poolBody (some (.val (.int y))) s (rs.map D.int) ns, rfl, poolBody (some (.val (.int y))) ((s * 31 + y.fmod 999983 + 1).fmod 1000003) (rs.map D.int) ns, by simp [g__law_pool_3, poolBody, runS, endR, envOf, sSeq, sSet, sIf, sRet, sRetN, sEx, sNil, sRaise, sRaise0, sUn, evs, Rs.then, Rs.bind, eB, eC, eVar, eCall, eTup, eLst, eFn, eNot, eAnd, eOr, eIf, eChain, e1, negD, addD, subD, mulD, fdivD, modD, cmpI, eqD, neD, eqB, scalD, eqF, truth, intD, lenD, minD, divmodD, bNm, bTp, bAll, runI, endI, envI, listAt, putL, eFnI, evsM, sPutO, eIxO, eLenO, sApp0, sApp, Sl.list, Sl.wl, isM, isNo, isBlD, mulOk, divOk, eIsT, MB.isT, tyName, kb_NoneType_int, kb_NoneType_bool, kb_NoneType_str, kb_NoneType_list, kb_NoneType_tuple, kb_bool_int, kb_bool_bool, kb_bool_str, kb_bool_list, kb_bool_tuple, kb_int_int, kb_int_bool, kb_int_str, kb_int_list, kb_int_tuple, kb_str_int, kb_str_bool, kb_str_str, kb_str_list, kb_str_tuple, kb_tuple_int, kb_tuple_bool, kb_tuple_str, kb_tuple_list, kb_tuple_tuple, kb_list_int, kb_list_bool, kb_list_str, kb_list_list, kb_list_tuple, pw6, pw30, pw60, pw600, iV, seqI, iB, iZ, allD, sFor], _, _, rfl⟩
  obtain ⟨ρ', e5, x, s, rfl⟩ := loop
  refine ⟨D.int s :: .int 0 :: .int 0 :: rs.map D.int, ?_, s, 0, 0, rs, rfl, by omega⟩
  have hs : 3 + rs.length ≤ sizeLine := by rw [PySem.sizeLine_eq]; omega
  have e0 : envOf 4 [D.scr ns] = [some (.val (.scr ns)), none, none, none] := rfl
  unfold m__law_pool MB.runN b__law_pool
  rw [e0]
  have e5' := e5
  unfold poolBody at e5'
  simp [sqN, sSet, e1, Rs.then, eC, sFor, it__law_pool_2, iV, iB, eVar, seqI, e5', retN, eLst, evs, eB, Rs.bind, poolBody]
  omega

theorem great_spec {cs : List D} {many : Int} (hb : Box cs) (h0 : 0 < many) : ∃ z cs', m__law_great [.non, .int many] cs = .ok (.int z) cs' ∧ Box cs' ∧ 0 ≤ z ∧ z < many := by
  have hne : many ≠ 0 := by omega
  have loop : ∃ ρ', loopS (bNm 3) g__law_great_1 (rangeL 0 6) [some (.io cs), some (.val (.int many)), some (.val (.int 0)), none] = .nx ρ' ∧ ∃ cs' t x, ρ' = [some (.io cs'), some (.val (.int many)), some (.val (.int t)), x] ∧ Box cs' := by
    refine loopS_inv (I := fun ρ => ∃ cs' t x, ρ = [some (.io cs'), some (.val (.int many)), some (.val (.int t)), x] ∧ Box cs') (fun d hd ρ h => ?_) ⟨_, _, _, rfl, hb⟩
    obtain ⟨c1, t, x, rfl, h1⟩ := h
    obtain ⟨z, c2, e2, h2, _, _⟩ := draw_spec h1 (many := 1000000) (by omega) (.inl (by decide))
    exact ⟨[some (.io c1), some (.val (.int many)), some (.val (.int t)), some (.val d)], rfl, [some (.io c2), some (.val (.int many)), some (.val (.int (t * 1000000 + z))), some (.val d)], by simp [g__law_great_1, runS, endR, envOf, sSeq, sSet, sIf, sRet, sRetN, sEx, sNil, sRaise, sRaise0, sUn, evs, Rs.then, Rs.bind, eB, eC, eVar, eCall, eTup, eLst, eFn, eNot, eAnd, eOr, eIf, eChain, e1, negD, addD, subD, mulD, fdivD, modD, cmpI, eqD, neD, eqB, scalD, eqF, truth, intD, lenD, minD, divmodD, bNm, bTp, bAll, runI, endI, envI, listAt, putL, eFnI, evsM, sPutO, eIxO, eLenO, sApp0, sApp, Sl.list, Sl.wl, isM, isNo, isBlD, mulOk, divOk, eIsT, MB.isT, tyName, kb_NoneType_int, kb_NoneType_bool, kb_NoneType_str, kb_NoneType_list, kb_NoneType_tuple, kb_bool_int, kb_bool_bool, kb_bool_str, kb_bool_list, kb_bool_tuple, kb_int_int, kb_int_bool, kb_int_str, kb_int_list, kb_int_tuple, kb_str_int, kb_str_bool, kb_str_str, kb_str_list, kb_str_tuple, kb_tuple_int, kb_tuple_bool, kb_tuple_str, kb_tuple_list, kb_tuple_tuple, kb_list_int, kb_list_bool, kb_list_str, kb_list_list, kb_list_tuple, pw6, pw30, pw60, pw600, iV, seqI, iB, iZ, allD, sFor, e2, List.set], _, _, _, rfl, h2⟩
  obtain ⟨ρ', e, c1, t, x, rfl, h1⟩ := loop
  refine ⟨t.fmod many, c1, ?_, h1, (fmod_lt h0).1, (fmod_lt h0).2⟩
  simp [m__law_great, b__law_great, it__law_great_0, runS, endR, envOf, sSeq, sSet, sIf, sRet, sRetN, sEx, sNil, sRaise, sRaise0, sUn, evs, Rs.then, Rs.bind, eB, eC, eVar, eCall, eTup, eLst, eFn, eNot, eAnd, eOr, eIf, eChain, e1, negD, addD, subD, mulD, fdivD, modD, cmpI, eqD, neD, eqB, scalD, eqF, truth, intD, lenD, minD, divmodD, bNm, bTp, bAll, runI, endI, envI, listAt, putL, eFnI, evsM, sPutO, eIxO, eLenO, sApp0, sApp, Sl.list, Sl.wl, isM, isNo, isBlD, mulOk, divOk, eIsT, MB.isT, tyName, kb_NoneType_int, kb_NoneType_bool, kb_NoneType_str, kb_NoneType_list, kb_NoneType_tuple, kb_bool_int, kb_bool_bool, kb_bool_str, kb_bool_list, kb_bool_tuple, kb_int_int, kb_int_bool, kb_int_str, kb_int_list, kb_int_tuple, kb_str_int, kb_str_bool, kb_str_str, kb_str_list, kb_str_tuple, kb_tuple_int, kb_tuple_bool, kb_tuple_str, kb_tuple_list, kb_tuple_tuple, kb_list_int, kb_list_bool, kb_list_str, kb_list_list, kb_list_tuple, pw6, pw30, pw60, pw600, iV, seqI, iB, iZ, allD, sFor, iR1, big, e, hne]

theorem number_spec {cs : List D} {lo hi : Int} (hb : Box cs) (h1 : lo + 59 ≤ hi) : ∃ z cs', m__law_number [.non, .int lo, .int hi] cs = .ok (.int z) cs' ∧ Box cs' ∧ lo ≤ z ∧ z ≤ hi := by
  obtain ⟨k, c1, e1, b1, k0, k5⟩ := draw_spec hb (many := 5) (by omega) (.inl (by decide))
  by_cases q1 : k < 2
  · obtain ⟨z, c2, e2, b2, z0, z1⟩ := draw_spec b1 (many := 60) (by omega) (.inl (by decide))
    refine ⟨lo + z, c2, ?_, b2, by omega, by omega⟩
    simp [m__law_number, b__law_number, runS, endR, envOf, sSeq, sSet, sIf, sRet, sRetN, sEx, sNil, sRaise, sRaise0, sUn, evs, Rs.then, Rs.bind, eB, eC, eVar, eCall, eTup, eLst, eFn, eNot, eAnd, eOr, eIf, eChain, e1, negD, addD, subD, mulD, fdivD, modD, cmpI, eqD, neD, eqB, scalD, eqF, truth, intD, lenD, minD, divmodD, bNm, bTp, bAll, runI, endI, envI, listAt, putL, eFnI, evsM, sPutO, eIxO, eLenO, sApp0, sApp, Sl.list, Sl.wl, isM, isNo, isBlD, mulOk, divOk, eIsT, MB.isT, tyName, kb_NoneType_int, kb_NoneType_bool, kb_NoneType_str, kb_NoneType_list, kb_NoneType_tuple, kb_bool_int, kb_bool_bool, kb_bool_str, kb_bool_list, kb_bool_tuple, kb_int_int, kb_int_bool, kb_int_str, kb_int_list, kb_int_tuple, kb_str_int, kb_str_bool, kb_str_str, kb_str_list, kb_str_tuple, kb_tuple_int, kb_tuple_bool, kb_tuple_str, kb_tuple_list, kb_tuple_tuple, kb_list_int, kb_list_bool, kb_list_str, kb_list_list, kb_list_tuple, pw6, pw30, pw60, pw600, iV, seqI, iB, iZ, allD, sFor, e1, q1, e2]
  · by_cases q2 : k = 2
    · obtain ⟨z, c2, e2, b2, z0, z1⟩ := draw_spec b1 (many := 4) (by omega) (.inl (by decide))
      refine ⟨lo + z, c2, ?_, b2, by omega, by omega⟩
      subst q2
      simp [m__law_number, b__law_number, runS, endR, envOf, sSeq, sSet, sIf, sRet, sRetN, sEx, sNil, sRaise, sRaise0, sUn, evs, Rs.then, Rs.bind, eB, eC, eVar, eCall, eTup, eLst, eFn, eNot, eAnd, eOr, eIf, eChain, e1, negD, addD, subD, mulD, fdivD, modD, cmpI, eqD, neD, eqB, scalD, eqF, truth, intD, lenD, minD, divmodD, bNm, bTp, bAll, runI, endI, envI, listAt, putL, eFnI, evsM, sPutO, eIxO, eLenO, sApp0, sApp, Sl.list, Sl.wl, isM, isNo, isBlD, mulOk, divOk, eIsT, MB.isT, tyName, kb_NoneType_int, kb_NoneType_bool, kb_NoneType_str, kb_NoneType_list, kb_NoneType_tuple, kb_bool_int, kb_bool_bool, kb_bool_str, kb_bool_list, kb_bool_tuple, kb_int_int, kb_int_bool, kb_int_str, kb_int_list, kb_int_tuple, kb_str_int, kb_str_bool, kb_str_str, kb_str_list, kb_str_tuple, kb_tuple_int, kb_tuple_bool, kb_tuple_str, kb_tuple_list, kb_tuple_tuple, kb_list_int, kb_list_bool, kb_list_str, kb_list_list, kb_list_tuple, pw6, pw30, pw60, pw600, iV, seqI, iB, iZ, allD, sFor, e1, q1, e2]
    · have q2' : (k == 2) = false := by simpa using q2
      by_cases q3 : k = 3
      · obtain ⟨z, c2, e2, b2, z0, z1⟩ := draw_spec b1 (many := 13) (by omega) (.inl (by decide))
        refine ⟨hi - z, c2, ?_, b2, by omega, by omega⟩
        subst q3
        simp [m__law_number, b__law_number, runS, endR, envOf, sSeq, sSet, sIf, sRet, sRetN, sEx, sNil, sRaise, sRaise0, sUn, evs, Rs.then, Rs.bind, eB, eC, eVar, eCall, eTup, eLst, eFn, eNot, eAnd, eOr, eIf, eChain, e1, negD, addD, subD, mulD, fdivD, modD, cmpI, eqD, neD, eqB, scalD, eqF, truth, intD, lenD, minD, divmodD, bNm, bTp, bAll, runI, endI, envI, listAt, putL, eFnI, evsM, sPutO, eIxO, eLenO, sApp0, sApp, Sl.list, Sl.wl, isM, isNo, isBlD, mulOk, divOk, eIsT, MB.isT, tyName, kb_NoneType_int, kb_NoneType_bool, kb_NoneType_str, kb_NoneType_list, kb_NoneType_tuple, kb_bool_int, kb_bool_bool, kb_bool_str, kb_bool_list, kb_bool_tuple, kb_int_int, kb_int_bool, kb_int_str, kb_int_list, kb_int_tuple, kb_str_int, kb_str_bool, kb_str_str, kb_str_list, kb_str_tuple, kb_tuple_int, kb_tuple_bool, kb_tuple_str, kb_tuple_list, kb_tuple_tuple, kb_list_int, kb_list_bool, kb_list_str, kb_list_list, kb_list_tuple, pw6, pw30, pw60, pw600, iV, seqI, iB, iZ, allD, sFor, e1, q1, e2]
      · have q3' : (k == 3) = false := by simpa using q3
        obtain ⟨z, c2, e2, b2, z0, z1⟩ := great_spec b1 (many := hi - lo + 1) (by omega)
        refine ⟨lo + z, c2, ?_, b2, by omega, by omega⟩
        simp [m__law_number, b__law_number, runS, endR, envOf, sSeq, sSet, sIf, sRet, sRetN, sEx, sNil, sRaise, sRaise0, sUn, evs, Rs.then, Rs.bind, eB, eC, eVar, eCall, eTup, eLst, eFn, eNot, eAnd, eOr, eIf, eChain, e1, negD, addD, subD, mulD, fdivD, modD, cmpI, eqD, neD, eqB, scalD, eqF, truth, intD, lenD, minD, divmodD, bNm, bTp, bAll, runI, endI, envI, listAt, putL, eFnI, evsM, sPutO, eIxO, eLenO, sApp0, sApp, Sl.list, Sl.wl, isM, isNo, isBlD, mulOk, divOk, eIsT, MB.isT, tyName, kb_NoneType_int, kb_NoneType_bool, kb_NoneType_str, kb_NoneType_list, kb_NoneType_tuple, kb_bool_int, kb_bool_bool, kb_bool_str, kb_bool_list, kb_bool_tuple, kb_int_int, kb_int_bool, kb_int_str, kb_int_list, kb_int_tuple, kb_str_int, kb_str_bool, kb_str_str, kb_str_list, kb_str_tuple, kb_tuple_int, kb_tuple_bool, kb_tuple_str, kb_tuple_list, kb_tuple_tuple, kb_list_int, kb_list_bool, kb_list_str, kb_list_list, kb_list_tuple, pw6, pw30, pw60, pw600, iV, seqI, iB, iZ, allD, sFor, e1, q1, q2', q3', e2]
end K67

/-! Evaluation of the functions by values, one step a rewrite: a part first, then a frame that waits for it. -/
namespace MB
open PySem PySem.Spec PyProof.Rows L2
variable {ρ : En}
@[simp] theorem ofString_beq (a b : String) : ((Str.ofString a == Str.ofString b) : Bool) = (a == b) := by
  by_cases h : a = b
  · subst h; simp
  · have : Str.ofString a ≠ Str.ofString b := fun e => by
      rw [Str.ofString_eq_toList, Str.ofString_eq_toList] at e
      have e1 : a.toList.map Char.toNat = b.toList.map Char.toNat := by
        have := congrArg (fun s : Str => s.cps.toList) e
        simpa using this
      have inj : ∀ {l m : List Char}, l.map Char.toNat = m.map Char.toNat → l = m := by
        intro l
        induction l with
        | nil => intro m h; cases m <;> simp at h <;> rfl
        | cons c l ih =>
          intro m h
          cases m with
          | nil => simp at h
          | cons d m =>
            simp only [List.map_cons, List.cons.injEq] at h
            rw [ih h.2, Char.toNat_inj.mp h.1]
      have e2 := inj e1
      exact h (String.toList_inj.mp e2)
    rw [beq_eq_false_iff_ne.mpr this, beq_eq_false_iff_ne.mpr h]
@[simp] theorem ofString_eq (a b : String) : (Str.ofString a = Str.ofString b) = (a = b) := by
  have := ofString_beq a b
  by_cases h : a = b
  · subst h; simp
  · have h2 : (a == b) = false := beq_eq_false_iff_ne.mpr h
    rw [h2] at this
    simp [h, beq_eq_false_iff_ne.mp this]

def kO : Option D → En → Rs
  | some z, ρ => .ok z ρ
  | none, _ => .stuck
@[simp] theorem kO_some {z : D} : kO (some z) ρ = .ok z ρ := rfl
@[simp] theorem kO_none  : kO none ρ = .stuck := rfl
theorem kO_eq (o : Option D) (ρ : En) : (match o with | some z => Rs.ok z ρ | none => .stuck) = kO o ρ := by cases o <;> rfl
@[simp] theorem eC_ap {d : D} : eC d ρ = .ok d ρ := rfl
@[simp] theorem eStuck_ap  : eStuck ρ = .stuck := rfl
@[simp] theorem sStuck_ap  : sStuck ρ = .stuck := rfl
def kV (ρ : En) (i : Nat) : Option (Option Sl) → Rs
  | some (some (.val d)) => .ok d ρ
  | some (some (.own ds)) => .ok (.lst ds) (ρ.set i (some (.val (.lst ds))))
  | _ => .stuck
@[simp] theorem eVar_ap {i : Nat} : eVar i ρ = kV ρ i ρ[i]? := by
  unfold eVar kV
  rfl
@[simp] theorem kV_val {i : Nat} {d : D} : kV ρ i (some (some (.val d))) = .ok d ρ := rfl
@[simp] theorem kV_own {i : Nat} {ds : List D} : kV ρ i (some (some (.own ds))) = .ok (.lst ds) (ρ.set i (some (.val (.lst ds)))) := rfl
def kB2 (op : D → D → Option D) (d : D) : Rs → Rs
  | .ok e ρ => kO (op d e) ρ
  | .err x ρ => .err x ρ
  | .stuck => .stuck
@[simp] theorem kB2_ok {op : D → D → Option D} {d e : D} : kB2 op d (Rs.ok e ρ) = kO (op d e) ρ := rfl
@[simp] theorem kB2_err {op : D → D → Option D} {d : D} {x : Ex} : kB2 op d (Rs.err x ρ) = .err x ρ := rfl
@[simp] theorem kB2_st {op : D → D → Option D} {d : D} : kB2 op d Rs.stuck = .stuck := rfl
def kB1 (op : D → D → Option D) (fb : EX) : Rs → Rs
  | .ok d ρ => kB2 op d (fb ρ)
  | .err x ρ => .err x ρ
  | .stuck => .stuck
@[simp] theorem kB1_ok {op : D → D → Option D} {fb : EX} {d : D} : kB1 op fb (Rs.ok d ρ) = kB2 op d (fb ρ) := rfl
@[simp] theorem kB1_err {op : D → D → Option D} {fb : EX} {x : Ex} : kB1 op fb (Rs.err x ρ) = .err x ρ := rfl
@[simp] theorem kB1_st {op : D → D → Option D} {fb : EX} : kB1 op fb Rs.stuck = .stuck := rfl
@[simp] theorem eB_ap {op : D → D → Option D} {fa fb : EX} : eB op fa fb ρ = kB1 op fb (fa ρ) := by
  show (fa ρ).bind _ = _
  cases fa ρ with
  | ok d ρ1 =>
    show (fb ρ1).bind _ = kB2 op d (fb ρ1)
    cases fb ρ1 with
    | ok e ρ2 => exact kO_eq _ _
    | err x ρ2 => rfl
    | stuck => rfl
  | err x ρ1 => rfl
  | stuck => rfl
def kE1 (op : D → Option D) : Rs → Rs
  | .ok d ρ => kO (op d) ρ
  | .err x ρ => .err x ρ
  | .stuck => .stuck
@[simp] theorem kE1_ok {op : D → Option D} {d : D} : kE1 op (Rs.ok d ρ) = kO (op d) ρ := rfl
@[simp] theorem kE1_err {op : D → Option D} {x : Ex} : kE1 op (Rs.err x ρ) = .err x ρ := rfl
@[simp] theorem kE1_st {op : D → Option D} : kE1 op Rs.stuck = .stuck := rfl
@[simp] theorem e1_ap {op : D → Option D} {fa : EX} : e1 op fa ρ = kE1 op (fa ρ) := by
  show (fa ρ).bind _ = _
  cases fa ρ with
  | ok d ρ1 => exact kO_eq _ _
  | err x ρ1 => rfl
  | stuck => rfl
@[simp] theorem eIsT_ap {T : String} {fa : EX} : eIsT T fa ρ = kE1 (isT T) (fa ρ) := e1_ap
def kT (t f : EX) : Option Bool → En → Rs
  | some true, ρ => t ρ
  | some false, ρ => f ρ
  | none, _ => .stuck
theorem kT_eq (t f : EX) (o : Option Bool) (ρ : En) : (match o with | some true => t ρ | some false => f ρ | none => Rs.stuck) = kT t f o ρ := by
  cases o with
  | none => rfl
  | some b => cases b <;> rfl
@[simp] theorem kT_t {t f : EX} : kT t f (some true) ρ = t ρ := rfl
@[simp] theorem kT_f {t f : EX} : kT t f (some false) ρ = f ρ := rfl
def kN : Option Bool → En → Rs
  | some b, ρ => .ok (.bl (!b)) ρ
  | none, _ => .stuck
theorem kN_eq (o : Option Bool) (ρ : En) : (match o with | some b => Rs.ok (.bl (!b)) ρ | none => .stuck) = kN o ρ := by cases o <;> rfl
@[simp] theorem kN_s {b : Bool} : kN (some b) ρ = .ok (.bl (!b)) ρ := rfl
def kNot  : Rs → Rs
  | .ok d ρ => kN (truth d) ρ
  | .err x ρ => .err x ρ
  | .stuck => .stuck
@[simp] theorem kNot_ok  {d : D} : kNot  (Rs.ok d ρ) = kN (truth d) ρ := rfl
@[simp] theorem kNot_err  {x : Ex} : kNot  (Rs.err x ρ) = .err x ρ := rfl
@[simp] theorem kNot_st  : kNot  Rs.stuck = .stuck := rfl
@[simp] theorem eNot_ap  {fa : EX} : eNot fa ρ = kNot  (fa ρ) := by
  show (fa ρ).bind _ = _
  cases fa ρ with
  | ok d ρ1 => exact kN_eq _ _
  | err x ρ1 => rfl
  | stuck => rfl
def kAnd (fb : EX) : Rs → Rs
  | .ok d ρ => kT fb (eC d) (truth d) ρ
  | .err x ρ => .err x ρ
  | .stuck => .stuck
@[simp] theorem kAnd_ok {fb : EX} {d : D} : kAnd fb (Rs.ok d ρ) = kT fb (eC d) (truth d) ρ := rfl
@[simp] theorem kAnd_err {fb : EX} {x : Ex} : kAnd fb (Rs.err x ρ) = .err x ρ := rfl
@[simp] theorem kAnd_st {fb : EX} : kAnd fb Rs.stuck = .stuck := rfl
@[simp] theorem eAnd_ap {fb : EX} {fa : EX} : eAnd fa fb ρ = kAnd fb (fa ρ) := by
  show (fa ρ).bind _ = _
  cases fa ρ with
  | ok d ρ1 => exact kT_eq fb (eC d) (truth d) ρ1
  | err x ρ1 => rfl
  | stuck => rfl
def kOr (fb : EX) : Rs → Rs
  | .ok d ρ => kT (eC d) fb (truth d) ρ
  | .err x ρ => .err x ρ
  | .stuck => .stuck
@[simp] theorem kOr_ok {fb : EX} {d : D} : kOr fb (Rs.ok d ρ) = kT (eC d) fb (truth d) ρ := rfl
@[simp] theorem kOr_err {fb : EX} {x : Ex} : kOr fb (Rs.err x ρ) = .err x ρ := rfl
@[simp] theorem kOr_st {fb : EX} : kOr fb Rs.stuck = .stuck := rfl
@[simp] theorem eOr_ap {fb : EX} {fa : EX} : eOr fa fb ρ = kOr fb (fa ρ) := by
  show (fa ρ).bind _ = _
  cases fa ρ with
  | ok d ρ1 => exact kT_eq (eC d) fb (truth d) ρ1
  | err x ρ1 => rfl
  | stuck => rfl
def kIfE (fa fb : EX) : Rs → Rs
  | .ok d ρ => kT fa fb (truth d) ρ
  | .err x ρ => .err x ρ
  | .stuck => .stuck
@[simp] theorem kIfE_ok {fa fb : EX} {d : D} : kIfE fa fb (Rs.ok d ρ) = kT fa fb (truth d) ρ := rfl
@[simp] theorem kIfE_err {fa fb : EX} {x : Ex} : kIfE fa fb (Rs.err x ρ) = .err x ρ := rfl
@[simp] theorem kIfE_st {fa fb : EX} : kIfE fa fb Rs.stuck = .stuck := rfl
@[simp] theorem eIf_ap {fa fb : EX} {ft : EX} : eIf ft fa fb ρ = kIfE fa fb (ft ρ) := by
  show (ft ρ).bind _ = _
  cases ft ρ with
  | ok d ρ1 => exact kT_eq fa fb (truth d) ρ1
  | err x ρ1 => rfl
  | stuck => rfl
inductive Ra where
  | ok (ds : List D) (ρ : En) | err (x : Ex) (ρ : En) | stuck
def evl : List EX → List D → En → Ra
  | [], acc, ρ => .ok acc ρ
  | f :: fs, acc, ρ => match f ρ with
    | .ok d ρ1 => evl fs (acc ++ [d]) ρ1
    | .err x ρ1 => .err x ρ1
    | .stuck => .stuck
def kA (fs : List EX) (acc : List D) : Rs → Ra
  | .ok d ρ => evl fs (acc ++ [d]) ρ
  | .err x ρ => .err x ρ
  | .stuck => .stuck
@[simp] theorem evl_nil {acc : List D} : evl [] acc ρ = .ok acc ρ := rfl
@[simp] theorem evl_cons {f : EX} {fs : List EX} {acc : List D} : evl (f :: fs) acc ρ = kA fs acc (f ρ) := by
  show (match f ρ with | .ok d ρ1 => evl fs (acc ++ [d]) ρ1 | .err x ρ1 => .err x ρ1 | .stuck => .stuck) = _
  cases f ρ <;> rfl
@[simp] theorem kA_ok {fs : List EX} {acc : List D} {d : D} : kA fs acc (.ok d ρ) = evl fs (acc ++ [d]) ρ := rfl
@[simp] theorem kA_err {fs : List EX} {acc : List D} {x : Ex} : kA fs acc (.err x ρ) = .err x ρ := rfl
@[simp] theorem kA_st {fs : List EX} {acc : List D} : kA fs acc .stuck = .stuck := rfl
def kK (k : List D → En → Rs) : Ra → Rs
  | .ok ds ρ => k ds ρ
  | .err x ρ => .err x ρ
  | .stuck => .stuck
theorem evs_evl' : ∀ (fs : List EX) (acc : List D) (k : List D → En → Rs) (ρ : En), evs fs (fun ds ρ1 => k (acc ++ ds) ρ1) ρ = kK k (evl fs acc ρ)
  | [], acc, k, ρ => by show k (acc ++ []) ρ = _; rw [List.append_nil]; rfl
  | f :: fs, acc, k, ρ => by
    show (f ρ).bind _ = _
    rw [evl_cons]
    cases f ρ with
    | ok d ρ1 =>
      have := evs_evl' fs (acc ++ [d]) k ρ1
      simp only [List.append_assoc, List.singleton_append] at this
      exact this
    | err x ρ1 => rfl
    | stuck => rfl
theorem evs_evl (fs : List EX) (k : List D → En → Rs) (ρ : En) : evs fs k ρ = kK k (evl fs [] ρ) := evs_evl' fs [] k ρ
def kTup  : Ra → Rs
  | .ok ds ρ => if ds.length ≤ 1000 then .ok (.tup ds) ρ else .stuck
  | .err x ρ => .err x ρ
  | .stuck => .stuck
@[simp] theorem kTup_ok  {ds : List D} : kTup  (Ra.ok ds ρ) = if ds.length ≤ 1000 then .ok (.tup ds) ρ else .stuck := rfl
@[simp] theorem kTup_err  {x : Ex} : kTup  (Ra.err x ρ) = .err x ρ := rfl
@[simp] theorem kTup_st  : kTup  Ra.stuck = .stuck := rfl
@[simp] theorem eTup_ap  {fs : List EX} : eTup fs ρ = kTup  (evl fs [] ρ) := by
  show evs fs _ ρ = _
  rw [evs_evl]
  cases evl fs [] ρ with
  | ok ds ρ1 => exact rfl
  | err x ρ1 => rfl
  | stuck => rfl
def kLst  : Ra → Rs
  | .ok ds ρ => if ds.length ≤ 1000 then .ok (.lst ds) ρ else .stuck
  | .err x ρ => .err x ρ
  | .stuck => .stuck
@[simp] theorem kLst_ok  {ds : List D} : kLst  (Ra.ok ds ρ) = if ds.length ≤ 1000 then .ok (.lst ds) ρ else .stuck := rfl
@[simp] theorem kLst_err  {x : Ex} : kLst  (Ra.err x ρ) = .err x ρ := rfl
@[simp] theorem kLst_st  : kLst  Ra.stuck = .stuck := rfl
@[simp] theorem eLst_ap  {fs : List EX} : eLst fs ρ = kLst  (evl fs [] ρ) := by
  show evs fs _ ρ = _
  rw [evs_evl]
  cases evl fs [] ρ with
  | ok ds ρ1 => exact rfl
  | err x ρ1 => rfl
  | stuck => rfl
def kCall (f : List D → Option D) : Ra → Rs
  | .ok ds ρ => kO (f ds) ρ
  | .err x ρ => .err x ρ
  | .stuck => .stuck
@[simp] theorem kCall_ok {f : List D → Option D} {ds : List D} : kCall f (Ra.ok ds ρ) = kO (f ds) ρ := rfl
@[simp] theorem kCall_err {f : List D → Option D} {x : Ex} : kCall f (Ra.err x ρ) = .err x ρ := rfl
@[simp] theorem kCall_st {f : List D → Option D} : kCall f Ra.stuck = .stuck := rfl
@[simp] theorem eCall_ap {f : List D → Option D} {fs : List EX} : eCall f fs ρ = kCall f (evl fs [] ρ) := by
  show evs fs _ ρ = _
  rw [evs_evl]
  cases evl fs [] ρ with
  | ok ds ρ1 => exact kO_eq _ _
  | err x ρ1 => rfl
  | stuck => rfl
def kR : Rt → En → Rs
  | .ok d, ρ => .ok d ρ
  | .err x, ρ => .err x ρ
  | .stuck, _ => .stuck
@[simp] theorem kR_ok {d : D} : kR (.ok d) ρ = .ok d ρ := rfl
@[simp] theorem kR_err {x : Ex} : kR (.err x) ρ = .err x ρ := rfl
@[simp] theorem kR_st  : kR .stuck ρ = .stuck := rfl
def kFn (m : Fn) : Ra → Rs
  | .ok ds ρ => kR (m ds) ρ
  | .err x ρ => .err x ρ
  | .stuck => .stuck
@[simp] theorem kFn_ok {m : Fn} {ds : List D} : kFn m (Ra.ok ds ρ) = kR (m ds) ρ := rfl
@[simp] theorem kFn_err {m : Fn} {x : Ex} : kFn m (Ra.err x ρ) = .err x ρ := rfl
@[simp] theorem kFn_st {m : Fn} : kFn m Ra.stuck = .stuck := rfl
@[simp] theorem eFn_ap {m : Fn} {fs : List EX} : eFn m fs ρ = kFn m (evl fs [] ρ) := by
  show evs fs _ ρ = _
  rw [evs_evl]
  cases evl fs [] ρ with
  | ok ds ρ1 => exact (by show (match m ds with | .ok d => Rs.ok d ρ1 | .err x => .err x ρ1 | .stuck => .stuck) = kR (m ds) ρ1; cases m ds <;> rfl)
  | err x ρ1 => rfl
  | stuck => rfl
def kRaise (c : Str) (ns : List Str) : Ra → Fl
  | .ok ds ρ => if ds.length = ns.length then .err ⟨c, (ns.zip ds).reverse⟩ ρ else .stuck
  | .err x ρ => .err x ρ
  | .stuck => .stuck
@[simp] theorem kRaise_ok {c : Str} {ns : List Str} {ds : List D} : kRaise c ns (Ra.ok ds ρ) = if ds.length = ns.length then .err ⟨c, (ns.zip ds).reverse⟩ ρ else .stuck := rfl
@[simp] theorem kRaise_err {c : Str} {ns : List Str} {x : Ex} : kRaise c ns (Ra.err x ρ) = .err x ρ := rfl
@[simp] theorem kRaise_st {c : Str} {ns : List Str} : kRaise c ns Ra.stuck = .stuck := rfl
@[simp] theorem sRaise_ap {c : Str} {ns : List Str} {fs : List EX} : sRaise c ns fs ρ = kRaise c ns (evl fs [] ρ) := by
  unfold sRaise
  rw [evs_evl]
  cases evl fs [] ρ with
  | ok ds ρ1 =>
    show Rs.then (if ds.length = ns.length then _ else _) _ = (if ds.length = ns.length then _ else _)
    by_cases h : ds.length = ns.length <;> simp only [h, if_true, if_false] <;> rfl
  | err x ρ1 => rfl
  | stuck => rfl
@[simp] theorem sRaise0_ap {c : Str} : sRaise0 c ρ = .err ⟨c, []⟩ ρ := rfl
def kNewL (i : Nat) : Ra → Fl
  | .ok ds ρ => if ds.length ≤ sizeLine then .nx (ρ.set i (some (.own ds))) else .stuck
  | .err x ρ => .err x ρ
  | .stuck => .stuck
@[simp] theorem kNewL_ok {i : Nat} {ds : List D} : kNewL i (Ra.ok ds ρ) = if ds.length ≤ sizeLine then .nx (ρ.set i (some (.own ds))) else .stuck := rfl
@[simp] theorem kNewL_err {i : Nat} {x : Ex} : kNewL i (Ra.err x ρ) = .err x ρ := rfl
@[simp] theorem kNewL_st {i : Nat} : kNewL i Ra.stuck = .stuck := rfl
@[simp] theorem sNewL_ap {i : Nat} {fs : List EX} : sNewL i fs ρ = kNewL i (evl fs [] ρ) := by
  unfold sNewL
  rw [evs_evl]
  cases evl fs [] ρ <;> rfl
def kSN (i : Nat) : Option (List D) → En → Fl
  | some cs, ρ => .nx (ρ.set i (some (.own cs)))
  | none, _ => .stuck
@[simp] theorem kSN_s {i : Nat} {cs : List D} : kSN i (some cs) ρ = .nx (ρ.set i (some (.own cs))) := rfl
def kSetN (i : Nat) (m : FnN) : Ra → Fl
  | .ok ds ρ => kSN i (m ds) ρ
  | .err x ρ => .err x ρ
  | .stuck => .stuck
@[simp] theorem kSetN_ok {i : Nat} {m : FnN} {ds : List D} : kSetN i m (Ra.ok ds ρ) = kSN i (m ds) ρ := rfl
@[simp] theorem kSetN_err {i : Nat} {m : FnN} {x : Ex} : kSetN i m (Ra.err x ρ) = .err x ρ := rfl
@[simp] theorem kSetN_st {i : Nat} {m : FnN} : kSetN i m Ra.stuck = .stuck := rfl
@[simp] theorem sSetN_ap {i : Nat} {m : FnN} {fs : List EX} : sSetN i m fs ρ = kSetN i m (evl fs [] ρ) := by
  unfold sSetN
  rw [evs_evl]
  cases evl fs [] ρ with
  | ok ds ρ1 =>
    show (match m ds with | some cs => _ | none => _) = kSN i (m ds) ρ1
    cases m ds <;> rfl
  | err x ρ1 => rfl
  | stuck => rfl
def kLA : Option (Option Sl) → Option (List D)
  | some (some (.own ds)) => some ds
  | some (some (.io ds)) => some ds
  | _ => none
@[simp] theorem listAt_ap {i : Nat} : listAt ρ i = kLA ρ[i]? := by
  unfold listAt
  cases ρ[i]? with
  | none => rfl
  | some o =>
    cases o with
    | none => rfl
    | some x => cases x <;> rfl
@[simp] theorem kLA_own {ds : List D} : kLA (some (some (.own ds))) = some ds := rfl
@[simp] theorem kLA_io {ds : List D} : kLA (some (some (.io ds))) = some ds := rfl
def kPL (ρ : En) (i : Nat) (cs : List D) : Option (Option Sl) → En
  | some (some x) => ρ.set i (some (x.wl cs))
  | _ => ρ
@[simp] theorem putL_ap {i : Nat} {cs : List D} : putL ρ i cs = kPL ρ i cs ρ[i]? := by
  unfold putL kPL
  rfl
@[simp] theorem kPL_own {i : Nat} {cs ds : List D} : kPL ρ i cs (some (some (.own ds))) = ρ.set i (some (.own cs)) := rfl
@[simp] theorem kPL_io {i : Nat} {cs ds : List D} : kPL ρ i cs (some (some (.io ds))) = ρ.set i (some (.io cs)) := rfl
def evlM : List AX → List D → En → Ra
  | [], acc, ρ => .ok acc ρ
  | .d f :: as, acc, ρ => match f ρ with
    | .ok d ρ1 => evlM as (acc ++ [d]) ρ1
    | .err x ρ1 => .err x ρ1
    | .stuck => .stuck
  | .o i :: as, acc, ρ => match listAt ρ i with
    | some _ => evlM as (acc ++ [D.non]) ρ
    | none => .stuck
def kM (as : List AX) (acc : List D) : Rs → Ra
  | .ok d ρ => evlM as (acc ++ [d]) ρ
  | .err x ρ => .err x ρ
  | .stuck => .stuck
def kMo (as : List AX) (acc : List D) (ρ : En) : Option (List D) → Ra
  | some _ => evlM as (acc ++ [D.non]) ρ
  | none => .stuck
@[simp] theorem evlM_nil {acc : List D} : evlM [] acc ρ = .ok acc ρ := rfl
@[simp] theorem evlM_d {f : EX} {as : List AX} {acc : List D} : evlM (.d f :: as) acc ρ = kM as acc (f ρ) := by
  show (match f ρ with | .ok d ρ1 => evlM as (acc ++ [d]) ρ1 | .err x ρ1 => .err x ρ1 | .stuck => .stuck) = _
  cases f ρ <;> rfl
@[simp] theorem evlM_o {i : Nat} {as : List AX} {acc : List D} : evlM (.o i :: as) acc ρ = kMo as acc ρ (listAt ρ i) := by
  show (match listAt ρ i with | some _ => evlM as (acc ++ [D.non]) ρ | none => .stuck) = _
  cases listAt ρ i <;> rfl
@[simp] theorem kM_ok {as : List AX} {acc : List D} {d : D} : kM as acc (.ok d ρ) = evlM as (acc ++ [d]) ρ := rfl
@[simp] theorem kM_err {as : List AX} {acc : List D} {x : Ex} : kM as acc (.err x ρ) = .err x ρ := rfl
@[simp] theorem kMo_s {as : List AX} {acc cs : List D} : kMo as acc ρ (some cs) = evlM as (acc ++ [D.non]) ρ := rfl
theorem evsM_evl' : ∀ (as : List AX) (acc : List D) (k : List D → En → Rs) (ρ : En), evsM as (fun ds ρ1 => k (acc ++ ds) ρ1) ρ = kK k (evlM as acc ρ)
  | [], acc, k, ρ => by show k (acc ++ []) ρ = _; rw [List.append_nil]; rfl
  | .d f :: as, acc, k, ρ => by
    show (f ρ).bind _ = _
    rw [evlM_d]
    cases f ρ with
    | ok d ρ1 =>
      have := evsM_evl' as (acc ++ [d]) k ρ1
      simp only [List.append_assoc, List.singleton_append] at this
      exact this
    | err x ρ1 => rfl
    | stuck => rfl
  | .o i :: as, acc, k, ρ => by
    rw [evlM_o]
    show (match listAt ρ i with | some _ => _ | none => _) = _
    cases listAt ρ i with
    | none => rfl
    | some cs =>
      have := evsM_evl' as (acc ++ [.non]) k ρ
      simp only [List.append_assoc, List.singleton_append] at this
      exact this
theorem evsM_evl (as : List AX) (k : List D → En → Rs) (ρ : En) : evsM as k ρ = kK k (evlM as [] ρ) := evsM_evl' as [] k ρ
def kRI (i : Nat) : RtI → En → Rs
  | .ok d cs, ρ => .ok d (putL ρ i cs)
  | .err x cs, ρ => .err x (putL ρ i cs)
  | .stuck, _ => .stuck
def kI (m : FnI) (i : Nat) (ds : List D) (ρ : En) : Option (List D) → Rs
  | some cs => kRI i (m ds cs) ρ
  | none => .stuck
@[simp] theorem kRI_ok {i : Nat} {d : D} {cs : List D} : kRI i (.ok d cs) ρ = .ok d (putL ρ i cs) := rfl
@[simp] theorem kRI_err {i : Nat} {x : Ex} {cs : List D} : kRI i (.err x cs) ρ = .err x (putL ρ i cs) := rfl
@[simp] theorem kI_s {m : FnI} {i : Nat} {ds cs : List D} : kI m i ds ρ (some cs) = kRI i (m ds cs) ρ := rfl
def kFnI (m : FnI) (i : Nat) : Ra → Rs
  | .ok ds ρ => kI m i ds ρ (listAt ρ i)
  | .err x ρ => .err x ρ
  | .stuck => .stuck
@[simp] theorem kFnI_ok {m : FnI} {i : Nat} {ds : List D} : kFnI m i (Ra.ok ds ρ) = kI m i ds ρ (listAt ρ i) := rfl
@[simp] theorem kFnI_err {m : FnI} {i : Nat} {x : Ex} : kFnI m i (Ra.err x ρ) = .err x ρ := rfl
@[simp] theorem kFnI_st {m : FnI} {i : Nat} : kFnI m i Ra.stuck = .stuck := rfl
@[simp] theorem eFnI_ap {m : FnI} {i : Nat} {as : List AX} : eFnI m i as ρ = kFnI m i (evlM as [] ρ) := by
  unfold eFnI
  rw [evsM_evl]
  cases evlM as [] ρ with
  | ok ds ρ1 =>
    show (match listAt ρ1 i with | some cs => _ | none => _) = kI m i ds ρ1 (listAt ρ1 i)
    cases listAt ρ1 i with
    | none => rfl
    | some cs =>
      show (match m ds cs with | .ok d cs' => _ | .err y cs' => _ | .stuck => _) = kRI i (m ds cs) ρ1
      cases m ds cs <;> rfl
  | err x ρ1 => rfl
  | stuck => rfl
def kIO2 : Option (List D) → D → En → Rs
  | some ds, .int k, ρ => kO (L2.atI ds k) ρ
  | _, _, _ => .stuck
@[simp] theorem kIO2_s {ds : List D} {k : Int} : kIO2 (some ds) (.int k) ρ = kO (L2.atI ds k) ρ := rfl
def kIO1 (i : Nat) : Rs → Rs
  | .ok d ρ => kIO2 (listAt ρ i) d ρ
  | .err x ρ => .err x ρ
  | .stuck => .stuck
@[simp] theorem kIO1_ok {i : Nat} {d : D} : kIO1 i (.ok d ρ) = kIO2 (listAt ρ i) d ρ := rfl
@[simp] theorem kIO1_err {i : Nat} {x : Ex} : kIO1 i (.err x ρ) = .err x ρ := rfl
def kIO (i : Nat) (f : EX) (ρ : En) : Option (List D) → Rs
  | some _ => kIO1 i (f ρ)
  | none => .stuck
@[simp] theorem kIO_s {i : Nat} {f : EX} {ds : List D} : kIO i f ρ (some ds) = kIO1 i (f ρ) := rfl
@[simp] theorem eIxO_ap {i : Nat} {f : EX} : eIxO i f ρ = kIO i f ρ (listAt ρ i) := by
  unfold eIxO
  cases listAt ρ i with
  | none => rfl
  | some cs =>
    show (f ρ).bind _ = kIO1 i (f ρ)
    cases f ρ with
    | ok d ρ1 =>
      show (match listAt ρ1 i, d with | some ds, .int k => _ | _, _ => _) = kIO2 (listAt ρ1 i) d ρ1
      cases listAt ρ1 i with
      | none => cases d <;> rfl
      | some ds => cases d <;> first | rfl | exact kO_eq _ _
    | err x ρ1 => rfl
    | stuck => rfl
def kLen (ρ : En) : Option (List D) → Rs
  | some ds => .ok (.int (ds.length : Nat)) ρ
  | none => .stuck
@[simp] theorem kLen_s {ds : List D} : kLen ρ (some ds) = .ok (.int (ds.length : Nat)) ρ := rfl
@[simp] theorem eLenO_ap {i : Nat} : eLenO i ρ = kLen ρ (listAt ρ i) := by
  unfold eLenO
  cases listAt ρ i <;> rfl
def kKK : D → Option L2.Key → En → Rs
  | .dct ks ds, some k, ρ => kO (lookK ks ds k) ρ
  | _, _, _ => .stuck
def kK2 (d : D) : Rs → Rs
  | .ok e ρ => kKK d (keyD e) ρ
  | .err x ρ => .err x ρ
  | .stuck => .stuck
def kK1 (fb : EX) : Rs → Rs
  | .ok d ρ => kK2 d (fb ρ)
  | .err x ρ => .err x ρ
  | .stuck => .stuck
@[simp] theorem kKK_s {ks : List L2.Key} {ds : List D} {k : L2.Key} : kKK (.dct ks ds) (some k) ρ = kO (lookK ks ds k) ρ := rfl
@[simp] theorem kK2_ok {d e : D} : kK2 d (.ok e ρ) = kKK d (keyD e) ρ := rfl
@[simp] theorem kK1_ok {d : D} {fb : EX} : kK1 fb (.ok d ρ) = kK2 d (fb ρ) := rfl
@[simp] theorem eIxK_ap {fa fb : EX} : eIxK fa fb ρ = kK1 fb (fa ρ) := by
  show (fa ρ).bind _ = _
  cases fa ρ with
  | ok d ρ1 =>
    show (fb ρ1).bind _ = kK2 d (fb ρ1)
    cases fb ρ1 with
    | ok e ρ2 =>
      show (match d, keyD e with | .dct ks ds, some k => _ | _, _ => _) = kKK d (keyD e) ρ2
      cases d <;> cases keyD e <;> first | rfl | exact kO_eq _ _
    | err x ρ2 => rfl
    | stuck => rfl
  | err x ρ1 => rfl
  | stuck => rfl
def kTS (l : List (Str × D)) : D → En → Rs
  | .str z, ρ => kO (l.lookup z) ρ
  | _, _ => .stuck
def kIS (l : List (Str × D)) : D → En → Rs
  | .str z, ρ => .ok (.bl (l.lookup z).isSome) ρ
  | _, _ => .stuck
def kNS (l : List (Str × D)) : D → En → Rs
  | .str z, ρ => .ok (.bl !(l.lookup z).isSome) ρ
  | _, _ => .stuck
@[simp] theorem kTS_s {l : List (Str × D)} {z : Str} : kTS l (.str z) ρ = kO (l.lookup z) ρ := rfl
@[simp] theorem kIS_s {l : List (Str × D)} {z : Str} : kIS l (.str z) ρ = .ok (.bl (l.lookup z).isSome) ρ := rfl
@[simp] theorem kNS_s {l : List (Str × D)} {z : Str} : kNS l (.str z) ρ = .ok (.bl !(l.lookup z).isSome) ρ := rfl
def kTbS (l : List (Str × D)) : Rs → Rs
  | .ok d ρ => kTS l d ρ
  | .err x ρ => .err x ρ
  | .stuck => .stuck
@[simp] theorem kTbS_ok {l : List (Str × D)} {d : D} : kTbS l (Rs.ok d ρ) = kTS l d ρ := rfl
@[simp] theorem kTbS_err {l : List (Str × D)} {x : Ex} : kTbS l (Rs.err x ρ) = .err x ρ := rfl
@[simp] theorem kTbS_st {l : List (Str × D)} : kTbS l Rs.stuck = .stuck := rfl
@[simp] theorem eTbS_ap {l : List (Str × D)} {f : EX} : eTbS l f ρ = kTbS l (f ρ) := by
  show (f ρ).bind _ = _
  cases f ρ with
  | ok d ρ1 => exact (by cases d <;> first | rfl | exact kO_eq _ _)
  | err x ρ1 => rfl
  | stuck => rfl
def kInS (l : List (Str × D)) : Rs → Rs
  | .ok d ρ => kIS l d ρ
  | .err x ρ => .err x ρ
  | .stuck => .stuck
@[simp] theorem kInS_ok {l : List (Str × D)} {d : D} : kInS l (Rs.ok d ρ) = kIS l d ρ := rfl
@[simp] theorem kInS_err {l : List (Str × D)} {x : Ex} : kInS l (Rs.err x ρ) = .err x ρ := rfl
@[simp] theorem kInS_st {l : List (Str × D)} : kInS l Rs.stuck = .stuck := rfl
@[simp] theorem eInS_ap {l : List (Str × D)} {f : EX} : eInS l f ρ = kInS l (f ρ) := by
  show (f ρ).bind _ = _
  cases f ρ with
  | ok d ρ1 => exact (by cases d <;> first | rfl | exact kO_eq _ _)
  | err x ρ1 => rfl
  | stuck => rfl
def kNinS (l : List (Str × D)) : Rs → Rs
  | .ok d ρ => kNS l d ρ
  | .err x ρ => .err x ρ
  | .stuck => .stuck
@[simp] theorem kNinS_ok {l : List (Str × D)} {d : D} : kNinS l (Rs.ok d ρ) = kNS l d ρ := rfl
@[simp] theorem kNinS_err {l : List (Str × D)} {x : Ex} : kNinS l (Rs.err x ρ) = .err x ρ := rfl
@[simp] theorem kNinS_st {l : List (Str × D)} : kNinS l Rs.stuck = .stuck := rfl
@[simp] theorem eNinS_ap {l : List (Str × D)} {f : EX} : eNinS l f ρ = kNinS l (f ρ) := by
  show (f ρ).bind _ = _
  cases f ρ with
  | ok d ρ1 => exact (by cases d <;> first | rfl | exact kO_eq _ _)
  | err x ρ1 => rfl
  | stuck => rfl
def kSl (d : D) (l h : Option Int) (ρ : En) : Rs := kO (slD d l h) ρ
def kSlH (d : D) (l : Option Int) : Rs → Rs
  | .ok (.int i) ρ => kSl d l (some i) ρ
  | .ok _ _ => .stuck
  | .err x ρ => .err x ρ
  | .stuck => .stuck
def kSlo (d : D) (l : Option Int) (ρ : En) : Option EX → Rs
  | none => kSl d l none ρ
  | some f => kSlH d l (f ρ)
def kSlL (d : D) (hi : Option EX) : Rs → Rs
  | .ok (.int i) ρ => kSlo d (some i) ρ hi
  | .ok _ _ => .stuck
  | .err x ρ => .err x ρ
  | .stuck => .stuck
def kSla (lo hi : Option EX) : Rs → Rs
  | .ok d ρ => (match lo with
    | none => kSlo d none ρ hi
    | some f => kSlL d hi (f ρ))
  | .err x ρ => .err x ρ
  | .stuck => .stuck
@[simp] theorem kSl_ap {d : D} {l h : Option Int} : kSl d l h ρ = kO (slD d l h) ρ := rfl
@[simp] theorem kSlH_ok {d : D} {l : Option Int} {i : Int} : kSlH d l (.ok (.int i) ρ) = kSl d l (some i) ρ := rfl
@[simp] theorem kSlo_n {d : D} {l : Option Int} : kSlo d l ρ none = kSl d l none ρ := rfl
@[simp] theorem kSlo_s {d : D} {l : Option Int} {f : EX} : kSlo d l ρ (some f) = kSlH d l (f ρ) := rfl
@[simp] theorem kSlL_ok {d : D} {hi : Option EX} {i : Int} : kSlL d hi (.ok (.int i) ρ) = kSlo d (some i) ρ hi := rfl
@[simp] theorem kSla_n {d : D} {hi : Option EX} : kSla none hi (.ok d ρ) = kSlo d none ρ hi := rfl
@[simp] theorem kSla_s {d : D} {hi : Option EX} {f : EX} : kSla (some f) hi (.ok d ρ) = kSlL d hi (f ρ) := rfl
@[simp] theorem kSla_err {lo hi : Option EX} {x : Ex} : kSla lo hi (.err x ρ) = .err x ρ := rfl
theorem eOpt_hi (d : D) (l : Option Int) (hi : Option EX) (ρ : En) : eOpt hi (fun h ρ3 => match slD d l h with | some z => .ok z ρ3 | none => .stuck) ρ = kSlo d l ρ hi := by
  cases hi with
  | none => exact kO_eq _ _
  | some f =>
    show (f ρ).bind _ = kSlH d l (f ρ)
    cases f ρ with
    | ok e ρ1 => cases e <;> first | rfl | exact kO_eq _ _
    | err x ρ1 => rfl
    | stuck => rfl
@[simp] theorem eSl_ap {fa : EX} {lo hi : Option EX} : eSl fa lo hi ρ = kSla lo hi (fa ρ) := by
  show (fa ρ).bind _ = _
  cases fa ρ with
  | ok d ρ1 =>
    cases lo with
    | none => exact eOpt_hi d none hi ρ1
    | some f =>
      show (f ρ1).bind _ = kSlL d hi (f ρ1)
      cases f ρ1 with
      | ok e ρ2 => cases e <;> first | rfl | exact eOpt_hi d _ hi ρ2
      | err x ρ2 => rfl
      | stuck => rfl
  | err x ρ1 => rfl
  | stuck => rfl
def kEx (t : Str → Option Bool) (ρ : En) : Option (Option Sl) → Rs
  | some (some (.exc x)) => kO ((t x.c).map .bl) ρ
  | _ => .stuck
@[simp] theorem kEx_s {t : Str → Option Bool} {x : Ex} : kEx t ρ (some (some (.exc x))) = kO ((t x.c).map .bl) ρ := rfl
@[simp] theorem eIsE_ap {i : Nat} {t : Str → Option Bool} : eIsE i t ρ = kEx t ρ ρ[i]? := by
  unfold eIsE
  cases ρ[i]? with
  | none => rfl
  | some o =>
    cases o with
    | none => rfl
    | some s =>
      cases s with
      | exc x =>
        show (match t x.c with | some b => _ | none => _) = kO ((t x.c).map .bl) ρ
        cases t x.c <;> rfl
      | val d => rfl
      | own ds => rfl
      | io ds => rfl
def kXf (n : Str) (cs : List Str) (ρ : En) : Option (Option Sl) → Rs
  | some (some (.exc x)) => if cs.contains x.c then kO (x.fs.lookup n) ρ else .stuck
  | _ => .stuck
@[simp] theorem kXf_s {n : Str} {cs : List Str} {x : Ex} : kXf n cs ρ (some (some (.exc x))) = (if cs.contains x.c then kO (x.fs.lookup n) ρ else .stuck) := rfl
@[simp] theorem eXf_ap {i : Nat} {n : Str} {cs : List Str} : eXf i n cs ρ = kXf n cs ρ ρ[i]? := by
  unfold eXf
  cases ρ[i]? with
  | none => rfl
  | some o =>
    cases o with
    | none => rfl
    | some s =>
      cases s with
      | exc x =>
        show (if cs.contains x.c then (match x.fs.lookup n with | some d => _ | none => _) else _) = (if cs.contains x.c then kO (x.fs.lookup n) ρ else _)
        cases x.fs.lookup n <;> rfl
      | val d => rfl
      | own ds => rfl
      | io ds => rfl
def kRE : Rt → En → Rs
  | .ok d, ρ => .ok d ρ
  | _, _ => .stuck
def kFE (m : Ex → Rt) (ρ : En) : Option (Option Sl) → Rs
  | some (some (.exc x)) => kRE (m x) ρ
  | _ => .stuck
@[simp] theorem kRE_ok {d : D} : kRE (.ok d) ρ = .ok d ρ := rfl
@[simp] theorem kFE_s {m : Ex → Rt} {x : Ex} : kFE m ρ (some (some (.exc x))) = kRE (m x) ρ := rfl
@[simp] theorem eFnE_ap {i : Nat} {m : Ex → Rt} : eFnE i m ρ = kFE m ρ ρ[i]? := by
  unfold eFnE
  cases ρ[i]? with
  | none => rfl
  | some o =>
    cases o with
    | none => rfl
    | some s =>
      cases s with
      | exc x =>
        show (match m x with | .ok d => _ | _ => _) = kRE (m x) ρ
        cases m x <;> rfl
      | val d => rfl
      | own ds => rfl
      | io ds => rfl
def kLo (S : Str → Option Fn) (fs : List EX) (ρ : En) : Option Fn → Rs
  | some m => kFn m (evl fs [] ρ)
  | none => .stuck
def kLoc (S : Str → Option Fn) (fs : List EX) (ρ : En) : Option (Option Sl) → Rs
  | some (some (.val (.fn nm))) => kLo S fs ρ (S nm)
  | _ => .stuck
@[simp] theorem kLo_s {S : Str → Option Fn} {fs : List EX} {m : Fn} : kLo S fs ρ (some m) = kFn m (evl fs [] ρ) := rfl
@[simp] theorem kLoc_s {S : Str → Option Fn} {fs : List EX} {nm : Str} : kLoc S fs ρ (some (some (.val (.fn nm)))) = kLo S fs ρ (S nm) := rfl
@[simp] theorem eLoc_ap {i : Nat} {S : Str → Option Fn} {fs : List EX} : eLoc i S fs ρ = kLoc S fs ρ ρ[i]? := by
  unfold eLoc
  cases ρ[i]? with
  | none => rfl
  | some o =>
    cases o with
    | none => rfl
    | some s =>
      cases s with
      | val d =>
        cases d <;> try rfl
        rename_i nm
        show (match S nm with | some m => _ | none => _) = kLo S fs ρ (S nm)
        cases S nm with
        | none => rfl
        | some m => exact eFn_ap
      | exc x => rfl
      | own ds => rfl
      | io ds => rfl
def kSq (h : SX) : Fl → Fl
  | .nx ρ => h ρ
  | .rt d ρ => .rt d ρ
  | .bk ρ => .bk ρ
  | .ct ρ => .ct ρ
  | .err x ρ => .err x ρ
  | .stuck => .stuck
@[simp] theorem kSq_nx {h : SX} : kSq h (.nx ρ) = h ρ := rfl
@[simp] theorem kSq_rt {h : SX} {d : D} : kSq h (.rt d ρ) = .rt d ρ := rfl
@[simp] theorem kSq_bk {h : SX} : kSq h (.bk ρ) = .bk ρ := rfl
@[simp] theorem kSq_ct {h : SX} : kSq h (.ct ρ) = .ct ρ := rfl
@[simp] theorem kSq_err {h : SX} {x : Ex} : kSq h (.err x ρ) = .err x ρ := rfl
@[simp] theorem kSq_st {h : SX} : kSq h .stuck = .stuck := rfl
@[simp] theorem sSeq_ap {g h : SX} : sSeq g h ρ = kSq h (g ρ) := by
  unfold sSeq
  cases g ρ <;> rfl
@[simp] theorem sNil_ap  : sNil ρ = .nx ρ := rfl
@[simp] theorem sRetN_ap  : sRetN ρ = .rt .non ρ := rfl
@[simp] theorem sBk_ap  : sBk ρ = .bk ρ := rfl
@[simp] theorem sCt_ap  : sCt ρ = .ct ρ := rfl
def kSEx  : Rs → Fl
  | .ok d ρ => .nx ρ
  | .err x ρ => .err x ρ
  | .stuck => .stuck
@[simp] theorem kSEx_ok  {d : D} : kSEx  (Rs.ok d ρ) = .nx ρ := rfl
@[simp] theorem kSEx_err  {x : Ex} : kSEx  (Rs.err x ρ) = .err x ρ := rfl
@[simp] theorem kSEx_st  : kSEx  Rs.stuck = .stuck := rfl
@[simp] theorem sEx_ap  {f : EX} : sEx f ρ = kSEx  (f ρ) := by
  show (f ρ).then _ = _
  cases f ρ with
  | ok d ρ1 => exact rfl
  | err x ρ1 => rfl
  | stuck => rfl
def kSet (i : Nat) : Rs → Fl
  | .ok d ρ => .nx (ρ.set i (some (.val d)))
  | .err x ρ => .err x ρ
  | .stuck => .stuck
@[simp] theorem kSet_ok {i : Nat} {d : D} : kSet i (Rs.ok d ρ) = .nx (ρ.set i (some (.val d))) := rfl
@[simp] theorem kSet_err {i : Nat} {x : Ex} : kSet i (Rs.err x ρ) = .err x ρ := rfl
@[simp] theorem kSet_st {i : Nat} : kSet i Rs.stuck = .stuck := rfl
@[simp] theorem sSet_ap {i : Nat} {f : EX} : sSet i f ρ = kSet i (f ρ) := by
  show (f ρ).then _ = _
  cases f ρ with
  | ok d ρ1 => exact rfl
  | err x ρ1 => rfl
  | stuck => rfl
def kRet  : Rs → Fl
  | .ok d ρ => .rt d ρ
  | .err x ρ => .err x ρ
  | .stuck => .stuck
@[simp] theorem kRet_ok  {d : D} : kRet  (Rs.ok d ρ) = .rt d ρ := rfl
@[simp] theorem kRet_err  {x : Ex} : kRet  (Rs.err x ρ) = .err x ρ := rfl
@[simp] theorem kRet_st  : kRet  Rs.stuck = .stuck := rfl
@[simp] theorem sRet_ap  {f : EX} : sRet f ρ = kRet  (f ρ) := by
  show (f ρ).then _ = _
  cases f ρ with
  | ok d ρ1 => exact rfl
  | err x ρ1 => rfl
  | stuck => rfl
def kIT (g h : SX) : Option Bool → En → Fl
  | some true, ρ => g ρ
  | some false, ρ => h ρ
  | none, _ => .stuck
theorem kIT_eq (g h : SX) (o : Option Bool) (ρ : En) : (match o with | some true => g ρ | some false => h ρ | none => Fl.stuck) = kIT g h o ρ := by
  cases o with
  | none => rfl
  | some b => cases b <;> rfl
@[simp] theorem kIT_t {g h : SX} : kIT g h (some true) ρ = g ρ := rfl
@[simp] theorem kIT_f {g h : SX} : kIT g h (some false) ρ = h ρ := rfl
def kIf (g h : SX) : Rs → Fl
  | .ok d ρ => kIT g h (truth d) ρ
  | .err x ρ => .err x ρ
  | .stuck => .stuck
@[simp] theorem kIf_ok {g h : SX} {d : D} : kIf g h (Rs.ok d ρ) = kIT g h (truth d) ρ := rfl
@[simp] theorem kIf_err {g h : SX} {x : Ex} : kIf g h (Rs.err x ρ) = .err x ρ := rfl
@[simp] theorem kIf_st {g h : SX} : kIf g h Rs.stuck = .stuck := rfl
@[simp] theorem sIf_ap {g h : SX} {c : EX} : sIf c g h ρ = kIf g h (c ρ) := by
  show (c ρ).then _ = _
  cases c ρ with
  | ok d ρ1 => exact kIT_eq g h (truth d) ρ1
  | err x ρ1 => rfl
  | stuck => rfl
def kUO : Option En → Fl
  | some ρ => .nx ρ
  | none => .stuck
theorem kUO_eq (o : Option En) : (match o with | some ρ2 => Fl.nx ρ2 | none => .stuck) = kUO o := by cases o <;> rfl
@[simp] theorem kUO_s  : kUO (some ρ) = .nx ρ := rfl
def kUn (b : BX) : Rs → Fl
  | .ok d ρ => kUO (b d ρ)
  | .err x ρ => .err x ρ
  | .stuck => .stuck
@[simp] theorem kUn_ok {b : BX} {d : D} : kUn b (Rs.ok d ρ) = kUO (b d ρ) := rfl
@[simp] theorem kUn_err {b : BX} {x : Ex} : kUn b (Rs.err x ρ) = .err x ρ := rfl
@[simp] theorem kUn_st {b : BX} : kUn b Rs.stuck = .stuck := rfl
@[simp] theorem sUn_ap {b : BX} {f : EX} : sUn b f ρ = kUn b (f ρ) := by
  show (f ρ).then _ = _
  cases f ρ with
  | ok d ρ1 => exact kUO_eq _
  | err x ρ1 => rfl
  | stuck => rfl
@[simp] theorem bNm_ap {i : Nat} {d : D} : bNm i d ρ = some (ρ.set i (some (.val d))) := rfl
def kBA (bs : List BX) (ds : List D) : Option En → Option En
  | some ρ => bAll bs ds ρ
  | none => none
@[simp] theorem kBA_s {bs : List BX} {ds : List D} : kBA bs ds (some ρ) = bAll bs ds ρ := rfl
@[simp] theorem bAll_nil  : bAll [] [] ρ = some ρ := rfl
@[simp] theorem bAll_cons {b : BX} {bs : List BX} {d : D} {ds : List D} : bAll (b :: bs) (d :: ds) ρ = kBA bs ds (b d ρ) := by
  show (b d ρ).bind _ = _
  cases b d ρ <;> rfl
@[simp] theorem bTp_tup {bs : List BX} {ds : List D} : bTp bs (.tup ds) ρ = (if ds.length = bs.length then bAll bs ds ρ else none) := rfl
def kL2 (b : BX) (g : SX) (ds : List D) : Fl → Fl
  | .nx ρ => loopS b g ds ρ
  | .ct ρ => loopS b g ds ρ
  | .bk ρ => .nx ρ
  | .rt d ρ => .rt d ρ
  | .err x ρ => .err x ρ
  | .stuck => .stuck
@[simp] theorem kL2_nx {b : BX} {g : SX} {ds : List D} : kL2 b g ds (.nx ρ) = loopS b g ds ρ := rfl
@[simp] theorem kL2_ct {b : BX} {g : SX} {ds : List D} : kL2 b g ds (.ct ρ) = loopS b g ds ρ := rfl
@[simp] theorem kL2_bk {b : BX} {g : SX} {ds : List D} : kL2 b g ds (.bk ρ) = .nx ρ := rfl
@[simp] theorem kL2_rt {b : BX} {g : SX} {ds : List D} {d : D} : kL2 b g ds (.rt d ρ) = .rt d ρ := rfl
@[simp] theorem kL2_err {b : BX} {g : SX} {ds : List D} {x : Ex} : kL2 b g ds (.err x ρ) = .err x ρ := rfl
def kL1 (b : BX) (g : SX) (ds : List D) : Option En → Fl
  | some ρ => kL2 b g ds (g ρ)
  | none => .stuck
@[simp] theorem kL1_s {b : BX} {g : SX} {ds : List D} : kL1 b g ds (some ρ) = kL2 b g ds (g ρ) := rfl
@[simp] theorem loopS_nil {b : BX} {g : SX} : loopS b g [] ρ = .nx ρ := rfl
@[simp] theorem loopS_cs {b : BX} {g : SX} {ds : List D} {d : D} : loopS b g (d :: ds) ρ = kL1 b g ds (b d ρ) := by
  conv => lhs; unfold loopS
  cases b d ρ with
  | none => rfl
  | some ρ1 =>
    show (match g ρ1 with | .nx ρ2 => _ | .ct ρ2 => _ | .bk ρ2 => _ | r => _) = kL2 b g ds (g ρ1)
    cases g ρ1 <;> rfl
def kFor (b : BX) (g : SX) : Ri → Fl
  | .ok ds ρ => loopS b g ds ρ
  | .err x ρ => .err x ρ
  | .stuck => .stuck
@[simp] theorem kFor_ok {b : BX} {g : SX} {ds : List D} : kFor b g (.ok ds ρ) = loopS b g ds ρ := rfl
@[simp] theorem kFor_err {b : BX} {g : SX} {x : Ex} : kFor b g (.err x ρ) = .err x ρ := rfl
@[simp] theorem sFor_ap {it : IX} {b : BX} {g : SX} : sFor it b g ρ = kFor b g (it ρ) := by
  unfold sFor
  cases it ρ <;> rfl
def kOI : Option (List D) → En → Ri
  | some ds, ρ => .ok ds ρ
  | none, _ => .stuck
@[simp] theorem kOI_s {ds : List D} : kOI (some ds) ρ = .ok ds ρ := rfl
def kIV (items : D → Option (List D)) : Rs → Ri
  | .ok d ρ => kOI (items d) ρ
  | .err x ρ => .err x ρ
  | .stuck => .stuck
@[simp] theorem kIV_ok {items : D → Option (List D)} {d : D} : kIV items (.ok d ρ) = kOI (items d) ρ := rfl
@[simp] theorem kIV_err {items : D → Option (List D)} {x : Ex} : kIV items (.err x ρ) = .err x ρ := rfl
@[simp] theorem iV_ap {items : D → Option (List D)} {f : EX} : iV items f ρ = kIV items (f ρ) := by
  unfold iV iB
  cases f ρ with
  | ok d ρ1 =>
    show (match items d with | some ds => _ | none => _) = kOI (items d) ρ1
    cases items d <;> rfl
  | err x ρ1 => rfl
  | stuck => rfl
@[simp] theorem seqI_t {xs : List D} : seqI (.tup xs) = some xs := rfl
@[simp] theorem seqI_l {xs : List D} : seqI (.lst xs) = some xs := rfl
def kR1 : Rs → Ri
  | .ok (.int n) ρ => if big n = true then .ok (rangeL 0 n.toNat) ρ else .stuck
  | .ok _ _ => .stuck
  | .err x ρ => .err x ρ
  | .stuck => .stuck
@[simp] theorem kR1_ok {n : Int} : kR1 (.ok (.int n) ρ) = (if big n = true then .ok (rangeL 0 n.toNat) ρ else .stuck) := rfl
@[simp] theorem iR1_ap {f : EX} : iR1 f ρ = kR1 (f ρ) := by
  unfold iR1 iB
  cases f ρ with
  | ok d ρ1 => cases d <;> rfl
  | err x ρ1 => rfl
  | stuck => rfl
def kR22 : D → D → En → Ri
  | .int a, .int b, ρ => if big a = true ∧ big b = true then .ok (rangeL a (b - a).toNat) ρ else .stuck
  | _, _, _ => .stuck
def kZZ : D → D → En → Ri
  | .lst xs, .lst ys, ρ => .ok (zipD xs ys) ρ
  | .tup xs, .tup ys, ρ => .ok (zipD xs ys) ρ
  | _, _, _ => .stuck
def kI2 (k : D → D → En → Ri) (d : D) : Rs → Ri
  | .ok e ρ => k d e ρ
  | .err x ρ => .err x ρ
  | .stuck => .stuck
def kI1 (k : D → D → En → Ri) (g : EX) : Rs → Ri
  | .ok d ρ => kI2 k d (g ρ)
  | .err x ρ => .err x ρ
  | .stuck => .stuck
@[simp] theorem kR22_s {a b : Int} : kR22 (.int a) (.int b) ρ = (if big a = true ∧ big b = true then .ok (rangeL a (b - a).toNat) ρ else .stuck) := rfl
@[simp] theorem kZZ_l {xs ys : List D} : kZZ (.lst xs) (.lst ys) ρ = .ok (zipD xs ys) ρ := rfl
@[simp] theorem kZZ_t {xs ys : List D} : kZZ (.tup xs) (.tup ys) ρ = .ok (zipD xs ys) ρ := rfl
@[simp] theorem kI2_ok {k : D → D → En → Ri} {d e : D} : kI2 k d (.ok e ρ) = k d e ρ := rfl
@[simp] theorem kI1_ok {k : D → D → En → Ri} {g : EX} {d : D} : kI1 k g (.ok d ρ) = kI2 k d (g ρ) := rfl
@[simp] theorem iR2_ap {f g : EX} : iR2 f g ρ = kI1 kR22 g (f ρ) := by
  unfold iR2 iB
  cases f ρ with
  | ok d ρ1 =>
    show (match g ρ1 with | .ok d ρ1 => _ | .err x ρ1 => _ | .stuck => _) = kI2 kR22 d (g ρ1)
    cases g ρ1 with
    | ok e ρ2 => cases d <;> cases e <;> rfl
    | err x ρ2 => rfl
    | stuck => rfl
  | err x ρ1 => rfl
  | stuck => rfl
@[simp] theorem iZ_ap {f g : EX} : iZ f g ρ = kI1 kZZ g (f ρ) := by
  unfold iZ iB
  cases f ρ with
  | ok d ρ1 =>
    show (match g ρ1 with | .ok d ρ1 => _ | .err x ρ1 => _ | .stuck => _) = kI2 kZZ d (g ρ1)
    cases g ρ1 with
    | ok e ρ2 => cases d <;> cases e <;> rfl
    | err x ρ2 => rfl
    | stuck => rfl
  | err x ρ1 => rfl
  | stuck => rfl
@[simp] theorem zipD_nil {ys : List D} : zipD [] ys = [] := rfl
@[simp] theorem zipD_nil2 {xs : List D} : zipD xs [] = [] := by simp [zipD]
@[simp] theorem zipD_cons {x y : D} {xs ys : List D} : zipD (x :: xs) (y :: ys) = .tup [x, y] :: zipD xs ys := rfl
def kC3 (b : BX) (c e : EX) (vs : List Nat) (ds acc : List D) : Rs → Rs
  | .ok y ρ => compL b c e vs ds (acc ++ [y]) ρ
  | .err x ρ => .err x ρ
  | .stuck => .stuck
def kC2 (b : BX) (c e : EX) (vs : List Nat) (ds acc : List D) (ρ : En) : Option Bool → Rs
  | some true => kC3 b c e vs ds acc (e ρ)
  | some false => compL b c e vs ds acc ρ
  | none => .stuck
def kC1 (b : BX) (c e : EX) (vs : List Nat) (ds acc : List D) : Rs → Rs
  | .ok t ρ => kC2 b c e vs ds acc ρ (truth t)
  | .err x ρ => .err x ρ
  | .stuck => .stuck
def kC0 (b : BX) (c e : EX) (vs : List Nat) (ds acc : List D) : Option En → Rs
  | some ρ => kC1 b c e vs ds acc (c ρ)
  | none => .stuck
@[simp] theorem kC3_ok {b : BX} {c e : EX} {vs : List Nat} {ds acc : List D} {y : D} : kC3 b c e vs ds acc (.ok y ρ) = compL b c e vs ds (acc ++ [y]) ρ := rfl
@[simp] theorem kC2_t {b : BX} {c e : EX} {vs : List Nat} {ds acc : List D} : kC2 b c e vs ds acc ρ (some true) = kC3 b c e vs ds acc (e ρ) := rfl
@[simp] theorem kC2_f {b : BX} {c e : EX} {vs : List Nat} {ds acc : List D} : kC2 b c e vs ds acc ρ (some false) = compL b c e vs ds acc ρ := rfl
@[simp] theorem kC1_ok {b : BX} {c e : EX} {vs : List Nat} {ds acc : List D} {t : D} : kC1 b c e vs ds acc (.ok t ρ) = kC2 b c e vs ds acc ρ (truth t) := rfl
@[simp] theorem kC0_s {b : BX} {c e : EX} {vs : List Nat} {ds acc : List D} : kC0 b c e vs ds acc (some ρ) = kC1 b c e vs ds acc (c ρ) := rfl
@[simp] theorem compL_nil {b : BX} {c e : EX} {vs : List Nat} {acc : List D} : compL b c e vs [] acc ρ = .ok (.lst acc) ρ := rfl
@[simp] theorem compL_cs {b : BX} {c e : EX} {vs : List Nat} {ds acc : List D} {d : D} : compL b c e vs (d :: ds) acc ρ = kC0 b c e vs ds acc (b d (wipeE ρ vs)) := by
  conv => lhs; unfold compL
  cases b d (wipeE ρ vs) with
  | none => rfl
  | some ρ1 =>
    show (c ρ1).bind _ = kC1 b c e vs ds acc (c ρ1)
    cases c ρ1 with
    | ok t ρ2 =>
      show (match truth t with | some true => _ | some false => _ | none => _) = kC2 b c e vs ds acc ρ2 (truth t)
      cases truth t with
      | none => rfl
      | some q =>
        cases q with
        | false => rfl
        | true =>
          show (e ρ2).bind _ = kC3 b c e vs ds acc (e ρ2)
          cases e ρ2 <;> rfl
    | err x ρ2 => rfl
    | stuck => rfl
def kCE (ρ1 : En) (vs : List Nat) : Rs → Rs
  | .ok d ρ => .ok d (backE ρ1 (wipeE ρ vs) vs)
  | _ => .stuck
def kCo (b : BX) (c e : EX) (vs : List Nat) : Ri → Rs
  | .ok ds ρ => if ds.length ≤ 1000000 ∧ vs.all (notOwn ρ) = true then kCE ρ vs (compL b c e vs ds [] ρ) else .stuck
  | .err x ρ => .err x ρ
  | .stuck => .stuck
@[simp] theorem kCE_ok {ρ1 : En} {vs : List Nat} {d : D} : kCE ρ1 vs (.ok d ρ) = .ok d (backE ρ1 (wipeE ρ vs) vs) := rfl
@[simp] theorem kCo_ok {b : BX} {c e : EX} {vs : List Nat} {ds : List D} : kCo b c e vs (.ok ds ρ) = (if ds.length ≤ 1000000 ∧ vs.all (notOwn ρ) = true then kCE ρ vs (compL b c e vs ds [] ρ) else .stuck) := rfl
@[simp] theorem eComp_ap {it : IX} {b : BX} {c e : EX} {vs : List Nat} : eComp it b c e vs ρ = kCo b c e vs (it ρ) := by
  unfold eComp
  cases it ρ with
  | ok ds ρ1 =>
    show (if ds.length ≤ 1000000 ∧ vs.all (notOwn ρ1) = true then _ else _) = (if ds.length ≤ 1000000 ∧ vs.all (notOwn ρ1) = true then _ else _)
    split
    · cases compL b c e vs ds [] ρ1 <;> rfl
    · rfl
  | err x ρ1 => rfl
  | stuck => rfl
@[simp] theorem wipeE_nil : wipeE ρ [] = ρ := rfl
@[simp] theorem wipeE_cons {v : Nat} {vs : List Nat} : wipeE ρ (v :: vs) = (wipeE ρ vs).set v none := rfl
@[simp] theorem backE_nil {ρ0 : En} : backE ρ0 ρ [] = ρ := rfl
@[simp] theorem backE_cons {ρ0 : En} {v : Nat} {vs : List Nat} : backE ρ0 ρ (v :: vs) = (backE ρ0 ρ vs).set v (ρ0.getD v none) := rfl
def kNO : Option (Option Sl) → Bool
  | some (some (.own _)) => false
  | _ => true
@[simp] theorem notOwn_ap {v : Nat} : notOwn ρ v = kNO ρ[v]? := by
  unfold notOwn kNO
  rfl
@[simp] theorem kNO_v {d : D} : kNO (some (some (.val d))) = true := rfl
@[simp] theorem kNO_io {ds : List D} : kNO (some (some (.io ds))) = true := rfl
@[simp] theorem kNO_n : kNO (some none) = true := rfl
@[simp] theorem kNO_nn : kNO none = true := rfl
@[simp] theorem kNO_own {ds : List D} : kNO (some (some (.own ds))) = false := rfl
def kPut (i : Nat) (d : D) : Rs → Fl
  | .ok k ρ => (match ρ[i]?, k with
    | some (some x), .int k => match x.list with
      | some ds => match L2.ixN ds.length k with
        | some j => .nx (ρ.set i (some (x.wl (ds.set j d))))
        | none => .stuck
      | none => .stuck
    | _, _ => .stuck)
  | .err x ρ => .err x ρ
  | .stuck => .stuck
def kPu (i : Nat) (d : D) (k : Int) (ρ : En) : Option (Option Sl) → Fl
  | some (some (.own ds)) => (match L2.ixN ds.length k with
    | some j => .nx (ρ.set i (some (.own (ds.set j d))))
    | none => .stuck)
  | some (some (.io ds)) => (match L2.ixN ds.length k with
    | some j => .nx (ρ.set i (some (.io (ds.set j d))))
    | none => .stuck)
  | _ => .stuck
def kPuN (i : Nat) (ρ : En) (own : Bool) (ds : List D) (d : D) : Option Nat → Fl
  | some j => .nx (ρ.set i (some (if own then .own (ds.set j d) else .io (ds.set j d))))
  | none => .stuck
@[simp] theorem kPuN_o {i : Nat} {ds : List D} {d : D} {j : Nat} : kPuN i ρ true ds d (some j) = .nx (ρ.set i (some (.own (ds.set j d)))) := rfl
@[simp] theorem kPuN_i {i : Nat} {ds : List D} {d : D} {j : Nat} : kPuN i ρ false ds d (some j) = .nx (ρ.set i (some (.io (ds.set j d)))) := rfl
@[simp] theorem kPu_own {i : Nat} {d : D} {k : Int} {ds : List D} : kPu i d k ρ (some (some (.own ds))) = kPuN i ρ true ds d (L2.ixN ds.length k) := by
  show (match L2.ixN ds.length k with | some j => _ | none => _) = _
  cases L2.ixN ds.length k <;> rfl
@[simp] theorem kPu_io {i : Nat} {d : D} {k : Int} {ds : List D} : kPu i d k ρ (some (some (.io ds))) = kPuN i ρ false ds d (L2.ixN ds.length k) := by
  show (match L2.ixN ds.length k with | some j => _ | none => _) = _
  cases L2.ixN ds.length k <;> rfl
@[simp] theorem kPut_ok {i : Nat} {d : D} {k : Int} : kPut i d (.ok (.int k) ρ) = kPu i d k ρ ρ[i]? := by
  show (match ρ[i]?, (D.int k) with | some (some x), .int k => _ | _, _ => _) = _
  cases ρ[i]? with
  | none => rfl
  | some o =>
    cases o with
    | none => rfl
    | some x => cases x <;> rfl
def kPO (i : Nat) (fk : EX) (d : D) (ρ : En) : Option (List D) → Fl
  | some _ => kPut i d (fk ρ)
  | none => .stuck
@[simp] theorem kPO_s {i : Nat} {fk : EX} {d : D} {ds : List D} : kPO i fk d ρ (some ds) = kPut i d (fk ρ) := rfl
def kP (i : Nat) (fk : EX) : Rs → Fl
  | .ok d ρ => kPO i fk d ρ (listAt ρ i)
  | .err x ρ => .err x ρ
  | .stuck => .stuck
@[simp] theorem kP_ok {i : Nat} {fk : EX} {d : D} : kP i fk (Rs.ok d ρ) = kPO i fk d ρ (listAt ρ i) := rfl
@[simp] theorem kP_err {i : Nat} {fk : EX} {x : Ex} : kP i fk (Rs.err x ρ) = .err x ρ := rfl
@[simp] theorem kP_st {i : Nat} {fk : EX} : kP i fk Rs.stuck = .stuck := rfl
@[simp] theorem sPutO_ap {i : Nat} {fk : EX} {fe : EX} : sPutO i fk fe ρ = kP i fk (fe ρ) := by
  show (fe ρ).then _ = _
  cases fe ρ with
  | ok d ρ1 => exact (by
    show (match listAt ρ1 i with | some _ => _ | none => _) = kPO i fk d ρ1 (listAt ρ1 i)
    cases listAt ρ1 i with
    | none => rfl
    | some cs =>
      show (fk ρ1).then _ = kPut i d (fk ρ1)
      cases fk ρ1 <;> rfl)
  | err x ρ1 => rfl
  | stuck => rfl
def kAp (i : Nat) (d : D) (ρ : En) : Option (Option Sl) → Fl
  | some (some (.own ds)) => if ds.length < sizeLine then .nx (ρ.set i (some (.own (ds ++ [d])))) else .stuck
  | some (some (.io ds)) => if ds.length < sizeLine then .nx (ρ.set i (some (.io (ds ++ [d])))) else .stuck
  | _ => .stuck
@[simp] theorem kAp_own {i : Nat} {d : D} {ds : List D} : kAp i d ρ (some (some (.own ds))) = (if ds.length < sizeLine then .nx (ρ.set i (some (.own (ds ++ [d])))) else .stuck) := rfl
@[simp] theorem kAp_io {i : Nat} {d : D} {ds : List D} : kAp i d ρ (some (some (.io ds))) = (if ds.length < sizeLine then .nx (ρ.set i (some (.io (ds ++ [d])))) else .stuck) := rfl
def kApp (i : Nat) : Rs → Fl
  | .ok d ρ => kAp i d ρ ρ[i]?
  | .err x ρ => .err x ρ
  | .stuck => .stuck
@[simp] theorem kApp_ok {i : Nat} {d : D} : kApp i (.ok d ρ) = kAp i d ρ ρ[i]? := rfl
@[simp] theorem kApp_err {i : Nat} {x : Ex} : kApp i (.err x ρ) = .err x ρ := rfl
theorem sApp_ap {i : Nat} {f : EX} : sApp i f ρ = kApp i (f ρ) := by
  show (f ρ).then _ = _
  cases f ρ with
  | ok d ρ1 =>
    show (match ρ1[i]? with | some (some x) => _ | _ => _) = kAp i d ρ1 ρ1[i]?
    cases ρ1[i]? with
    | none => rfl
    | some o =>
      cases o with
      | none => rfl
      | some x => cases x <;> rfl
  | err x ρ1 => rfl
  | stuck => rfl
def kAp0 (i : Nat) (f : EX) (ρ : En) : Option (Option Sl) → Fl
  | some (some (.own _)) => kApp i (f ρ)
  | some (some (.io _)) => kApp i (f ρ)
  | _ => .stuck
@[simp] theorem kAp0_own {i : Nat} {f : EX} {ds : List D} : kAp0 i f ρ (some (some (.own ds))) = kApp i (f ρ) := rfl
@[simp] theorem kAp0_io {i : Nat} {f : EX} {ds : List D} : kAp0 i f ρ (some (some (.io ds))) = kApp i (f ρ) := rfl
@[simp] theorem sApp0_ap {i : Nat} {f : EX} : sApp0 i f ρ = kAp0 i f ρ ρ[i]? := by
  unfold sApp0
  rw [sApp_ap]
  cases ρ[i]? with
  | none => rfl
  | some o =>
    cases o with
    | none => rfl
    | some x => cases x <;> rfl
def kTE (i : Nat) : Fl → Fl
  | .nx ρ => if noExc (ρ.set i none) then .nx (ρ.set i none) else .stuck
  | .bk ρ => if noExc (ρ.set i none) then .bk (ρ.set i none) else .stuck
  | .ct ρ => if noExc (ρ.set i none) then .ct (ρ.set i none) else .stuck
  | .rt d ρ => if noExc (ρ.set i none) then .rt d (ρ.set i none) else .stuck
  | _ => .stuck
@[simp] theorem kTE_nx {i : Nat} : kTE i (.nx ρ) = (if noExc (ρ.set i none) then .nx (ρ.set i none) else .stuck) := rfl
@[simp] theorem kTE_rt {i : Nat} {d : D} : kTE i (.rt d ρ) = (if noExc (ρ.set i none) then .rt d (ρ.set i none) else .stuck) := rfl
def kTT (i : Nat) (gs : SX) (x : Ex) (ρ : En) : Option Bool → Fl
  | some true => kTE i (gs (ρ.set i (some (.exc x))))
  | some false => .err x ρ
  | none => .stuck
@[simp] theorem kTT_t {i : Nat} {gs : SX} {x : Ex} : kTT i gs x ρ (some true) = kTE i (gs (ρ.set i (some (.exc x)))) := rfl
@[simp] theorem kTT_f {i : Nat} {gs : SX} {x : Ex} : kTT i gs x ρ (some false) = .err x ρ := rfl
def kTry (i : Nat) (t : Str → Option Bool) (gs : SX) : Fl → Fl
  | .err x ρ => kTT i gs x ρ (t x.c)
  | r => r
@[simp] theorem kTry_err {i : Nat} {t : Str → Option Bool} {gs : SX} {x : Ex} : kTry i t gs (.err x ρ) = kTT i gs x ρ (t x.c) := rfl
@[simp] theorem kTry_nx {i : Nat} {t : Str → Option Bool} {gs : SX} : kTry i t gs (.nx ρ) = .nx ρ := rfl
@[simp] theorem kTry_rt {i : Nat} {t : Str → Option Bool} {gs : SX} {d : D} : kTry i t gs (.rt d ρ) = .rt d ρ := rfl
@[simp] theorem kTry_st {i : Nat} {t : Str → Option Bool} {gs : SX} : kTry i t gs .stuck = .stuck := rfl
@[simp] theorem sTry_ap {gb gs : SX} {i : Nat} {t : Str → Option Bool} : sTry gb i t gs ρ = kTry i t gs (gb ρ) := by
  unfold sTry
  cases gb ρ with
  | err x ρ1 =>
    show (match t x.c with | some true => _ | some false => _ | none => _) = kTT i gs x ρ1 (t x.c)
    cases t x.c with
    | none => rfl
    | some b =>
      cases b with
      | false => rfl
      | true =>
        show (match gs (ρ1.set i (some (.exc x))) with | .nx ρ2 => _ | .bk ρ2 => _ | .ct ρ2 => _ | .rt d ρ2 => _ | _ => _) = kTE i (gs (ρ1.set i (some (.exc x))))
        cases gs (ρ1.set i (some (.exc x))) <;> rfl
  | nx ρ1 => rfl
  | rt d ρ1 => rfl
  | bk ρ1 => rfl
  | ct ρ1 => rfl
  | stuck => rfl
@[simp] theorem runS_ap {b : SX} {n : Nat} {ds : List D} : runS b n ds = endR (b (envOf n ds)) := rfl
@[simp] theorem runE_ap {b : SX} {n : Nat} {x : Ex} : runE b n x = endR (b (envE n x)) := rfl
@[simp] theorem endR_nx : endR (.nx ρ) = .ok .non := rfl
@[simp] theorem endR_rt {d : D} : endR (.rt d ρ) = .ok d := rfl
@[simp] theorem endR_err {x : Ex} : endR (.err x ρ) = .err x := rfl
@[simp] theorem runI_ap {b : SX} {n j : Nat} {ds cs : List D} : runI b n j ds cs = endI j (b (envI n j ds cs)) := rfl
def kEn (d : D) : Option (List D) → RtI
  | some cs => .ok d cs
  | none => .stuck
def kEx' (x : Ex) : Option (List D) → RtI
  | some cs => .err x cs
  | none => .stuck
@[simp] theorem kEn_s {d : D} {cs : List D} : kEn d (some cs) = .ok d cs := rfl
@[simp] theorem kEx'_s {x : Ex} {cs : List D} : kEx' x (some cs) = .err x cs := rfl
@[simp] theorem endI_nx {j : Nat} : endI j (.nx ρ) = kEn .non (listAt ρ j) := by
  show (match listAt ρ j with | some cs => _ | none => _) = _
  cases listAt ρ j <;> rfl
@[simp] theorem endI_rt {j : Nat} {d : D} : endI j (.rt d ρ) = kEn d (listAt ρ j) := by
  show (match listAt ρ j with | some cs => _ | none => _) = _
  cases listAt ρ j <;> rfl
@[simp] theorem endI_err {j : Nat} {x : Ex} : endI j (.err x ρ) = kEx' x (listAt ρ j) := by
  show (match listAt ρ j with | some cs => _ | none => _) = _
  cases listAt ρ j <;> rfl
@[simp] theorem envOf_ap {n : Nat} {ds : List D} : envOf n ds = ds.map (fun d => some (.val d)) ++ List.replicate (n - ds.length) none := rfl
@[simp] theorem envI_ap {n j : Nat} {ds cs : List D} : envI n j ds cs = (envOf n ds).set j (some (.io cs)) := rfl
@[simp] theorem envE_ap {n : Nat} {x : Ex} : envE n x = some (.exc x) :: List.replicate (n - 1) none := rfl
@[simp] theorem noExc_nil : noExc [] = true := rfl
/-! operators -/
@[simp] theorem addD_i {i j : Int} : addD (.int i) (.int j) = some (.int (i + j)) := rfl
@[simp] theorem subD_i {i j : Int} : subD (.int i) (.int j) = some (.int (i - j)) := rfl
@[simp] theorem mulD_i {i j : Int} : mulD (.int i) (.int j) = (if mulOk i j = true then some (.int (i * j)) else none) := rfl
@[simp] theorem fdivD_i {i j : Int} : fdivD (.int i) (.int j) = (if divOk i j = true then some (.int (i.fdiv j)) else none) := rfl
@[simp] theorem modD_i {i j : Int} : modD (.int i) (.int j) = (if j ≠ 0 then some (.int (i.fmod j)) else none) := rfl
@[simp] theorem addD_t {xs ys : List D} : addD (.tup xs) (.tup ys) = (if xs.length + ys.length ≤ sizeLine then some (.tup (xs ++ ys)) else none) := rfl
@[simp] theorem addD_l {xs ys : List D} : addD (.lst xs) (.lst ys) = (if xs.length + ys.length ≤ sizeLine then some (.lst (xs ++ ys)) else none) := rfl
@[simp] theorem negD_i {i : Int} : negD (.int i) = some (.int (-i)) := rfl
@[simp] theorem eqD_i {i j : Int} : eqD (.int i) (.int j) = some (.bl (decide (i = j))) := by
  show some (D.bl (i == j)) = _
  by_cases h : i = j <;> simp [h]
@[simp] theorem neD_i {i j : Int} : neD (.int i) (.int j) = some (.bl (!decide (i = j))) := by
  show some (D.bl (!(i == j))) = _
  by_cases h : i = j <;> simp [h]
@[simp] theorem eqD_s {i j : Str} : eqD (.str i) (.str j) = some (.bl (i == j)) := rfl
@[simp] theorem neD_s {i j : Str} : neD (.str i) (.str j) = some (.bl (!(i == j))) := rfl
@[simp] theorem eqD_b {i j : Bool} : eqD (.bl i) (.bl j) = some (.bl (i == j)) := rfl
@[simp] theorem neD_b {i j : Bool} : neD (.bl i) (.bl j) = some (.bl (!(i == j))) := rfl
@[simp] theorem truth_n : truth .non = some false := rfl
@[simp] theorem truth_b {b : Bool} : truth (.bl b) = some b := rfl
@[simp] theorem truth_i {i : Int} : truth (.int i) = some (i != 0) := rfl
@[simp] theorem truth_t {xs : List D} : truth (.tup xs) = some (!xs.isEmpty) := rfl
@[simp] theorem truth_l {xs : List D} : truth (.lst xs) = some (!xs.isEmpty) := rfl
@[simp] theorem lenD_t {xs : List D} : lenD [.tup xs] = some (.int (xs.length : Nat)) := rfl
@[simp] theorem lenD_l {xs : List D} : lenD [.lst xs] = some (.int (xs.length : Nat)) := rfl
@[simp] theorem intD_i {i : Int} : intD [.int i] = some (.int i) := rfl
@[simp] theorem intD_b {b : Bool} : intD [.bl b] = some (.int (if b then 1 else 0)) := rfl
@[simp] theorem absD_i {i : Int} : absD [.int i] = some (.int (if i < 0 then -i else i)) := rfl
@[simp] theorem ixD_t {xs : List D} {i : Int} : ixD (.tup xs) (.int i) = L2.atI xs i := rfl
@[simp] theorem ixD_l {xs : List D} {i : Int} : ixD (.lst xs) (.int i) = L2.atI xs i := rfl
@[simp] theorem isM_n {d : D} : isM d .non = some (.bl (isNo d)) := by cases d <;> rfl
@[simp] theorem isM_b {d : D} {b : Bool} : isM d (.bl b) = some (.bl (isBlD b d)) := by cases d <;> rfl
@[simp] theorem keyD_s {x : Str} : keyD (.str x) = some (.inr x) := rfl
@[simp] theorem keyD_i {x : Int} : keyD (.int x) = some (.inl x) := rfl
def kIsT (T : String) : Option String → Option D
  | some t => (L2.kitB t T).map .bl
  | none => none
@[simp] theorem kIsT_s {T t : String} : kIsT T (some t) = (L2.kitB t T).map .bl := rfl
@[simp] theorem isT_ {d : D} {T : String} : isT T d = kIsT T (tyName d) := by
  unfold isT
  cases tyName d <;> rfl
@[simp] theorem tyN_n : tyName (.non) = some "NoneType" := rfl
@[simp] theorem tyN_b {b : Bool} : tyName (.bl b) = some "bool" := rfl
@[simp] theorem tyN_i {b : Int} : tyName (.int b) = some "int" := rfl
@[simp] theorem tyN_s {b : Str} : tyName (.str b) = some "str" := rfl
@[simp] theorem tyN_t {b : List D} : tyName (.tup b) = some "tuple" := rfl
@[simp] theorem tyN_l {b : List D} : tyName (.lst b) = some "list" := rfl
@[simp] theorem ltD_i {i j : Int} : ltD (.int i) (.int j) = some (.bl (decide (i < j))) := by first | rfl | (simp [ltD, cmpI])
@[simp] theorem leD_i {i j : Int} : leD (.int i) (.int j) = some (.bl (decide (i ≤ j))) := by first | rfl | (simp [leD, cmpI])
@[simp] theorem gtD_i {i j : Int} : gtD (.int i) (.int j) = some (.bl (decide (j < i))) := by first | rfl | (simp [gtD, cmpI])
@[simp] theorem geD_i {i j : Int} : geD (.int i) (.int j) = some (.bl (decide (j ≤ i))) := by first | rfl | (simp [geD, cmpI])
@[simp] theorem inM_t {d : D} {xs : List D} : inM d (.tup xs) = (inB d xs).map .bl := by cases d <;> rfl
@[simp] theorem inB_ap {d : D} {xs : List D} : inB d xs = (if (flat d && xs.all flat) = true then some (xs.any fun y => eqF y d) else none) := rfl
@[simp] theorem flat_s {x : Str} : flat (.str x) = true := rfl
@[simp] theorem flat_i {x : Int} : flat (.int x) = true := rfl
@[simp] theorem flat_b {x : Bool} : flat (.bl x) = true := rfl
@[simp] theorem flat_n : flat .non = true := rfl
@[simp] theorem eqF_s {x y : Str} : eqF (.str x) (.str y) = (x == y) := rfl
@[simp] theorem eqF_i {x y : Int} : eqF (.int x) (.int y) = (x == y) := rfl
@[simp] theorem sz1 (n : Nat) : (n ≤ sizeLine) = (n ≤ 16777216) := by rw [PySem.sizeLine_eq]
@[simp] theorem szl1 (n : Nat) : (n < sizeLine) = (n < 16777216) := by rw [PySem.sizeLine_eq]
@[simp] theorem atI_0 {α : Type} {a : α} {l : List α} : L2.atI (a :: l) 0 = some a := by
  unfold L2.atI L2.ixN
  rw [if_pos (by omega), if_pos (by simp only [List.length_cons]; omega)]
  rfl
@[simp] theorem atI_1 {α : Type} {a b : α} {l : List α} : L2.atI (a :: b :: l) 1 = some b := by
  unfold L2.atI L2.ixN
  rw [if_pos (by omega), if_pos (by simp only [List.length_cons]; omega)]
  rfl
@[simp] theorem atI_2 {α : Type} {a b c : α} {l : List α} : L2.atI (a :: b :: c :: l) 2 = some c := by
  unfold L2.atI L2.ixN
  rw [if_pos (by omega), if_pos (by simp only [List.length_cons]; omega)]
  rfl
@[simp] theorem atI_3 {α : Type} {a b c d : α} {l : List α} : L2.atI (a :: b :: c :: d :: l) 3 = some d := by
  unfold L2.atI L2.ixN
  rw [if_pos (by omega), if_pos (by simp only [List.length_cons]; omega)]
  rfl
theorem atI_nat {α : Type} {l : List α} {i : Nat} : L2.atI l (i : Nat) = l[i]? := by
  unfold L2.atI L2.ixN
  rw [if_pos (by omega)]
  split
  · simp
  · rename_i h
    rw [List.getElem?_eq_none (by omega)]
    rfl
end MB

/-! Plain data: what == and in answer. -/
namespace MB
open PySem PySem.Spec PyProof.Rows L2
inductive Dat : Nat → D → Prop
  | non {n : Nat} : Dat n .non
  | bl {n : Nat} (b : Bool) : Dat n (.bl b)
  | int {n : Nat} (i : Int) : Dat n (.int i)
  | str {n : Nat} {x : Str} (h : PyData.strOk x = true) : Dat n (.str x)
  | tup {n : Nat} {ds : List D} (h : ∀ d ∈ ds, Dat n d) (hl : ds.length ≤ 1000000 := by first | decide | simp) : Dat (n + 1) (.tup ds)
  | lst {n : Nat} {ds : List D} (h : ∀ d ∈ ds, Dat n d) (hl : ds.length ≤ 1000000 := by first | decide | simp) : Dat (n + 1) (.lst ds)
theorem Dat.mono {n m : Nat} {d : D} (h : Dat n d) : n ≤ m → Dat m d := by
  induction h generalizing m with
  | non => exact fun _ => .non
  | bl b => exact fun _ => .bl b
  | int i => exact fun _ => .int i
  | str h => exact fun _ => .str h
  | tup h hl ih =>
    intro le
    cases m with
    | zero => omega
    | succ m => exact .tup (fun d hd => ih d hd (by omega)) hl
  | lst h hl ih =>
    intro le
    cases m with
    | zero => omega
    | succ m => exact .lst (fun d hd => ih d hd (by omega)) hl
theorem pys_of {n : Nat} : ∀ {ds : List D}, (∀ d ∈ ds, ∃ p, toPy d = some p ∧ PyData.canLay0 p = true ∧ PyData.depth p ≤ n) → ∃ ps, toPys ds = some ps ∧ PyData.canLayAll0 ps = true ∧ PyData.depthAll ps ≤ n
  | [], _ => ⟨[], by rw [toPys], by rw [PyData.canLayAll0], by rw [PyData.depthAll]; omega⟩
  | d :: ds, h => by
    obtain ⟨p, e1, e2, e3⟩ := h d List.mem_cons_self
    obtain ⟨ps, f1, f2, f3⟩ := pys_of fun d' m => h d' (List.mem_cons_of_mem _ m)
    refine ⟨p :: ps, by rw [toPys, e1, f1]; rfl, by rw [PyData.canLayAll0, e2, f2]; rfl, by rw [PyData.depthAll]; omega⟩
theorem dat_py {n : Nat} {d : D} (h : Dat n d) : ∃ p, toPy d = some p ∧ PyData.canLay0 p = true ∧ PyData.depth p ≤ n := by
  induction h with
  | non => exact ⟨.none, by rw [toPy], by rw [PyData.canLay0], by rw [PyData.depth]; omega⟩
  | bl b => exact ⟨.bool b, by rw [toPy], by rw [PyData.canLay0], by rw [PyData.depth]; omega⟩
  | int i => exact ⟨.int i, by rw [toPy], by rw [PyData.canLay0], by rw [PyData.depth]; omega⟩
  | str h => exact ⟨.str _, by rw [toPy], by rw [PyData.canLay0]; exact h, by rw [PyData.depth]; omega⟩
  | tup h hl ih =>
    obtain ⟨ps, f1, f2, f3⟩ := pys_of ih
    exact ⟨.tuple ps, by rw [toPy, f1]; rfl, by rw [PyData.canLay0]; exact f2, by rw [PyData.depth]; omega⟩
  | lst h hl ih =>
    obtain ⟨ps, f1, f2, f3⟩ := pys_of ih
    exact ⟨.list ps, by rw [toPy, f1]; rfl, by rw [PyData.canLay0]; exact f2, by rw [PyData.depth]; omega⟩
theorem shaped_of {p : PyData} {n : Nat} (h1 : PyData.canLay0 p = true) (h2 : PyData.depth p ≤ n) (h : n ≤ 64) : SeqAt.shaped p = true := by
  unfold SeqAt.shaped
  rw [h1, Bool.true_and]
  exact decide_eq_true (by omega)
theorem inDeep_ok {n : Nat} {d : D} {xs : List D} (h1 : Dat n d) (h2 : ∀ x ∈ xs, Dat n x) (h : n ≤ 63) : ∃ b, inDeep d xs = some b := by
  obtain ⟨p, e1, e2, e3⟩ := dat_py h1
  obtain ⟨ps, f1, f2, f3⟩ := pys_of fun x hx => dat_py (h2 x hx)
  have s1 : SeqAt.shaped p = true := shaped_of e2 e3 (by omega)
  have s2 : SeqAt.shaped (.list ps) = true := shaped_of (n := n + 1) (by rw [PyData.canLay0]; exact f2) (by rw [PyData.depth]; omega) (by omega)
  refine ⟨ps.any fun z => PyData.eqv z p, ?_⟩
  unfold inDeep
  rw [e1, f1]
  simp only [s1, s2, Bool.and_self, if_true]
theorem inM_ok {n : Nat} {d : D} {xs : List D} (h1 : Dat n d) (h2 : ∀ x ∈ xs, Dat n x) (h : n ≤ 63) : ∃ b, inM d (.lst xs) = some (.bl b) := by
  obtain ⟨b, e⟩ := inDeep_ok h1 h2 h
  have : inM d (.lst xs) = (match inB d xs with
    | some b => some (.bl b)
    | none => (inDeep d xs).map .bl) := by cases d <;> rfl
  rw [this]
  cases inB d xs with
  | some b' => exact ⟨b', rfl⟩
  | none => rw [e]; exact ⟨b, rfl⟩
theorem eqB_ok {n : Nat} {d e : D} (h1 : Dat n d) (h2 : Dat n e) (h : n ≤ 64) : ∃ b, eqB d e = some b := by
  unfold eqB
  split
  · exact ⟨_, rfl⟩
  · obtain ⟨p, e1, e2, e3⟩ := dat_py h1
    obtain ⟨q, f1, f2, f3⟩ := dat_py h2
    simp only [e1, f1, shaped_of e2 e3 h, shaped_of f2 f3 h, Bool.and_self, if_true]
    exact ⟨_, rfl⟩
theorem eqB_nil {n : Nat} {xs : List D} (h1 : ∀ x ∈ xs, Dat n x) (h : n ≤ 63) : eqB (.lst xs) (.lst []) = some xs.isEmpty := by
  obtain ⟨ps, f1, f2, f3⟩ := pys_of fun x hx => dat_py (h1 x hx)
  have s2 : SeqAt.shaped (.list ps) = true := shaped_of (n := n + 1) (by rw [PyData.canLay0]; exact f2) (by rw [PyData.depth]; omega) (by omega)
  have e1 : toPy (.lst xs) = some (.list ps) := by rw [toPy, f1]; rfl
  have e2 : toPy (.lst []) = some (.list []) := by rw [toPy, toPys]; rfl
  unfold eqB
  rw [if_neg (by show ¬ scalD (.lst xs) (.lst []) = true; simp [scalD]), e1, e2]
  simp only [s2, Bool.true_and]
  have s3 : SeqAt.shaped (.list []) = true := by decide +kernel
  rw [s3, if_pos rfl]
  cases xs with
  | nil =>
    rw [toPys] at f1
    cases f1
    rfl
  | cons x xs =>
    rw [toPys] at f1
    obtain ⟨p, _, f1⟩ := Option.bind_eq_some_iff.mp f1
    obtain ⟨qs, _, f1⟩ := Option.map_eq_some_iff.mp f1
    subst f1
    rfl
theorem neD_nil {n : Nat} {xs : List D} (h1 : ∀ x ∈ xs, Dat n x) (h : n ≤ 63) : neD (.lst xs) (.lst []) = some (.bl (!xs.isEmpty)) := by
  unfold neD
  rw [eqB_nil h1 h]
  rfl
end MB

/-! What the defs answer: bars. -/
namespace K67
open PySem MB
/-- a list of bars, each if it applies -/
def bar (w : Str) (p : Prop) [Decidable p] : List D := if p then [.tup [.str w]] else []
theorem bar_t (w : Str) (p : Prop) [Decidable p] (h : p) : bar w p = [.tup [.str w]] := if_pos h
theorem bar_f (w : Str) (p : Prop) [Decidable p] (h : ¬ p) : bar w p = [] := if_neg h
theorem ev_bar (w : Str) (b : Bool) : m__bar [.str w, .bl b] = .ok (.lst (bar w (b = true))) := by
  cases b <;> simp [m__bar, b__bar, bar]
def due_rounds (v : Int) : List D := bar "odd" (v.fmod 2 = 1)
theorem ev_due_rounds (v : Int) : m__law_due [.tup [.str "rounds", .int v]] = .ok (.lst (due_rounds v)) := by
  unfold due_rounds
  by_cases q0 : v.fmod 2 = 1 <;> simp [m__law_due, b__law_due, bar, q0]
def due_triples (v f : Int) : List D := bar "point" (v.fmod 2 = 0 ∧ f.fmod 2 = 1) ++ bar "lots" (v.fmod 3 = 2 ∧ 0 < f.fmod 3)
theorem ev_due_triples (v f : Int) : m__law_due [.tup [.str "triples", .int v, .int f]] = .ok (.lst (due_triples v f)) := by
  unfold due_triples
  by_cases q0 : v.fmod 2 = 0 <;> by_cases q1 : f.fmod 2 = 1 <;> by_cases q2 : v.fmod 3 = 2 <;> by_cases q3 : 0 < f.fmod 3 <;> simp [m__law_due, b__law_due, bar, q0, q1, q2, q3]
def due_ring (v : Int) : List D := bar "point" (v.fmod 2 = 0) ++ bar "lots" (v.fmod 3 = 2) ++ bar "cases" (v = 9)
theorem ev_due_ring (v : Int) : m__law_due [.tup [.str "ring", .int v]] = .ok (.lst (due_ring v)) := by
  unfold due_ring
  by_cases q0 : v.fmod 2 = 0 <;> by_cases q1 : v.fmod 3 = 2 <;> by_cases q2 : v = 9 <;> simp [m__law_due, b__law_due, bar, q0, q1, q2]
def due_days (v : Int) : List D := bar "point" (v.fmod 2 = 0) ++ bar "days" (0 < v.fmod 3)
theorem ev_due_days (v : Int) : m__law_due [.tup [.str "days", .int v]] = .ok (.lst (due_days v)) := by
  unfold due_days
  by_cases q0 : v.fmod 2 = 0 <;> by_cases q1 : 0 < v.fmod 3 <;> simp [m__law_due, b__law_due, bar, q0, q1]
def due_fours (v : Int) : List D := bar "point" (v.fmod 3 ≠ 1) ++ bar "lots" (v.fmod 3 = 2 ∨ 1 < v.fmod 4)
theorem ev_due_fours (v : Int) : m__law_due [.tup [.str "fours", .int v]] = .ok (.lst (due_fours v)) := by
  unfold due_fours
  by_cases q0 : v.fmod 3 = 1 <;> by_cases q1 : v.fmod 3 = 2 <;> by_cases q2 : 1 < v.fmod 4 <;> simp [m__law_due, b__law_due, bar, q0, q1, q2]
def due_mates (v : Int) : List D := bar "two" (v = 2) ++ bar "six" (v = 6)
theorem ev_due_mates (v : Int) : m__law_due [.tup [.str "mates", .int v]] = .ok (.lst (due_mates v)) := by
  unfold due_mates
  by_cases q0 : v = 2 <;> by_cases q1 : v = 6 <;> simp [m__law_due, b__law_due, bar, q0, q1]
def due_signs (v : Int) : List D := bar "rows" (2 < v ∧ 0 < v.fmod 4)
theorem ev_due_signs (v : Int) : m__law_due [.tup [.str "signs", .int v]] = .ok (.lst (due_signs v)) := by
  unfold due_signs
  by_cases q0 : 2 < v <;> by_cases q1 : 0 < v.fmod 4 <;> simp [m__law_due, b__law_due, bar, q0, q1]
end K67

/-! What the defs answer: the program's bars. -/
namespace K67
open PySem MB
theorem bar_congr {w : Str} {p q : Prop} [Decidable p] [Decidable q] (h : p ↔ q) : bar w p = bar w q := by
  unfold bar
  by_cases hp : p
  · rw [if_pos hp, if_pos (h.mp hp)]
  · rw [if_neg hp, if_neg fun z => hp (h.mpr z)]
theorem log_lt {i : Int} (h1 : -(10 ^ 100) < i) (h2 : i < 10 ^ 100) : i.natAbs.log2 < 400 := by
  by_cases h : i.natAbs = 0
  · rw [h]; decide
  · rw [Nat.log2_lt h]
    have : (10 : Int) ^ 100 < 2 ^ 400 := by decide +kernel
    omega
theorem mul_ok {i j : Int} (h1 : -(10 ^ 100) < i) (h2 : i < 10 ^ 100) (h3 : -(10 ^ 100) < j) (h4 : j < 10 ^ 100) : mulOk i j = true := by
  unfold mulOk
  have a := log_lt h1 h2
  have b := log_lt h3 h4
  simp only [Bool.or_eq_true, decide_eq_true_eq]
  right
  omega
theorem mul_okS {i j : Int} (h1 : -1000000 < i) (h2 : i < 1000000) : mulOk i j = true := by
  unfold mulOk
  simp only [Bool.or_eq_true, decide_eq_true_eq]
  left; left
  omega
theorem fm {a b : Int} (h : 0 ≤ b) : a.fmod b = a % b := Int.fmod_eq_emod_of_nonneg a h
theorem p_triples1 (v f : Int) : (f * (v - 1)) % 2 = 1 ↔ v % 2 = 0 ∧ f % 2 = 1 := by
  have hv : v % 2 = 0 ∨ v % 2 = 1 := by omega
  have hf : f % 2 = 0 ∨ f % 2 = 1 := by omega
  rcases hv with hv | hv <;> rcases hf with hf | hf <;> simp [Int.mul_emod, Int.sub_emod, hv, hf]
theorem p_triples2 (v f : Int) : (f * v * (v - 1)) % 6 ≠ 0 ↔ v % 3 = 2 ∧ 0 < f % 3 := by
  have hv : v % 6 = 0 ∨ v % 6 = 1 ∨ v % 6 = 2 ∨ v % 6 = 3 ∨ v % 6 = 4 ∨ v % 6 = 5 := by omega
  have hf : f % 6 = 0 ∨ f % 6 = 1 ∨ f % 6 = 2 ∨ f % 6 = 3 ∨ f % 6 = 4 ∨ f % 6 = 5 := by omega
  rcases hv with hv | hv | hv | hv | hv | hv <;> rcases hf with hf | hf | hf | hf | hf | hf <;> simp [Int.mul_emod, Int.sub_emod, hv, hf] <;> omega
theorem p_ring (v : Int) : (v * (v - 1)) % 6 ≠ 0 ↔ v % 3 = 2 := by
  have hv : v % 6 = 0 ∨ v % 6 = 1 ∨ v % 6 = 2 ∨ v % 6 = 3 ∨ v % 6 = 4 ∨ v % 6 = 5 := by omega
  rcases hv with hv | hv | hv | hv | hv | hv <;> simp [Int.mul_emod, Int.sub_emod, hv] <;> omega
theorem p_fours (v : Int) : (v * (v - 1)) % 12 ≠ 0 ↔ (v % 3 = 2 ∨ 1 < v % 4) := by
  have hv : v % 12 = 0 ∨ v % 12 = 1 ∨ v % 12 = 2 ∨ v % 12 = 3 ∨ v % 12 = 4 ∨ v % 12 = 5 ∨ v % 12 = 6 ∨ v % 12 = 7 ∨ v % 12 = 8 ∨ v % 12 = 9 ∨ v % 12 = 10 ∨ v % 12 = 11 := by omega
  rcases hv with hv | hv | hv | hv | hv | hv | hv | hv | hv | hv | hv | hv <;> simp [Int.mul_emod, Int.sub_emod, hv] <;> omega
def T30 : Int := 10 ^ 30
theorem ev_is_rounds {v : Int} (h1 : 2 ≤ v) (h2 : v ≤ 1000000000000000000000000000000) : m__is_wish [.tup [.str "rounds", .int v]] = .ok (.bl true) := by
  have q1 : ¬ v < 2 := by omega
  have q2 : ¬ 1000000000000000000000000000000 < v := by omega
  simp [m__is_wish, b__is_wish, it__is_wish_0, g__is_wish_1, m_is_number, b_is_number, tb_BOUNDS, List.lookup_cons, slD, cutD, HT.sIx, q1, q2]
theorem ev_is_triples {v f : Int} (h1 : 3 ≤ v) (h2 : v ≤ 1000000000000000000000000000000) (h3 : 1 ≤ f) (h4 : f ≤ 1000) : m__is_wish [.tup [.str "triples", .int v, .int f]] = .ok (.bl true) := by
  have q1 : ¬ v < 3 := by omega
  have q2 : ¬ 1000000000000000000000000000000 < v := by omega
  have q3 : ¬ f < 1 := by omega
  have q4 : ¬ 1000 < f := by omega
  simp [m__is_wish, b__is_wish, it__is_wish_0, g__is_wish_1, m_is_number, b_is_number, tb_BOUNDS, List.lookup_cons, slD, cutD, HT.sIx, q1, q2, q3, q4]
theorem ev_is_ring {v : Int} (h1 : 3 ≤ v) (h2 : v ≤ 1000000000000000000000000000000) : m__is_wish [.tup [.str "ring", .int v]] = .ok (.bl true) := by
  have q1 : ¬ v < 3 := by omega
  have q2 : ¬ 1000000000000000000000000000000 < v := by omega
  simp [m__is_wish, b__is_wish, it__is_wish_0, g__is_wish_1, m_is_number, b_is_number, tb_BOUNDS, List.lookup_cons, slD, cutD, HT.sIx, q1, q2]
theorem ev_is_days {v : Int} (h1 : 3 ≤ v) (h2 : v ≤ 1000000000000000000000000000000) : m__is_wish [.tup [.str "days", .int v]] = .ok (.bl true) := by
  have q1 : ¬ v < 3 := by omega
  have q2 : ¬ 1000000000000000000000000000000 < v := by omega
  simp [m__is_wish, b__is_wish, it__is_wish_0, g__is_wish_1, m_is_number, b_is_number, tb_BOUNDS, List.lookup_cons, slD, cutD, HT.sIx, q1, q2]
theorem ev_is_fours {v : Int} (h1 : 4 ≤ v) (h2 : v ≤ 1000000000000000000000000000000) : m__is_wish [.tup [.str "fours", .int v]] = .ok (.bl true) := by
  have q1 : ¬ v < 4 := by omega
  have q2 : ¬ 1000000000000000000000000000000 < v := by omega
  simp [m__is_wish, b__is_wish, it__is_wish_0, g__is_wish_1, m_is_number, b_is_number, tb_BOUNDS, List.lookup_cons, slD, cutD, HT.sIx, q1, q2]
theorem ev_is_mates {v : Int} (h1 : 1 ≤ v) (h2 : v ≤ 1000000000000000000000000000000) : m__is_wish [.tup [.str "mates", .int v]] = .ok (.bl true) := by
  have q1 : ¬ v < 1 := by omega
  have q2 : ¬ 1000000000000000000000000000000 < v := by omega
  simp [m__is_wish, b__is_wish, it__is_wish_0, g__is_wish_1, m_is_number, b_is_number, tb_BOUNDS, List.lookup_cons, slD, cutD, HT.sIx, q1, q2]
theorem ev_is_signs {v : Int} (h1 : 1 ≤ v) (h2 : v ≤ 64) : m__is_wish [.tup [.str "signs", .int v]] = .ok (.bl true) := by
  have q1 : ¬ v < 1 := by omega
  have q2 : ¬ 64 < v := by omega
  simp [m__is_wish, b__is_wish, it__is_wish_0, g__is_wish_1, m_is_number, b_is_number, tb_BOUNDS, List.lookup_cons, slD, cutD, HT.sIx, q1, q2]
theorem ev_b_rounds {v : Int} (h1 : 2 ≤ v) (h2 : v ≤ 1000000000000000000000000000000) : m__rounds_bars [.tup [.str "rounds", .int v]] = .ok (.lst (due_rounds v)) := by
  have e : due_rounds v = bar "odd" (v.fmod 2 = 1) := by
    unfold due_rounds
    have i0 : (v.fmod 2 = 1) ↔ (v.fmod 2 = 1) := Iff.rfl
    rw [bar_congr (w := "odd") i0]
  rw [e]
  have ln : ∀ (w : Str) (p : Prop) [Decidable p], (bar w p).length ≤ 1 := fun w p _ => by unfold bar; split <;> simp
  have l0 := ln "odd" (v.fmod 2 = 1)
  simp [m__rounds_bars, b__rounds_bars, ev_bar]
theorem ev_b_triples {v f : Int} (h1 : 3 ≤ v) (h2 : v ≤ 1000000000000000000000000000000) (h3 : 1 ≤ f) (h4 : f ≤ 1000) : m__triples_bars [.tup [.str "triples", .int v, .int f]] = .ok (.lst (due_triples v f)) := by
  have e : due_triples v f = bar "point" ((f * (v - 1)).fmod 2 = 1) ++ bar "lots" (¬ (f * v * (v - 1)).fmod 6 = 0) := by
    unfold due_triples
    have i0 : ((f * (v - 1)).fmod 2 = 1) ↔ (v.fmod 2 = 0 ∧ f.fmod 2 = 1) := by rw [fm (by omega), fm (by omega), fm (by omega)]; exact p_triples1 v f
    have i1 : (¬ (f * v * (v - 1)).fmod 6 = 0) ↔ (v.fmod 3 = 2 ∧ 0 < f.fmod 3) := by rw [fm (by omega), fm (by omega), fm (by omega)]; exact p_triples2 v f
    rw [bar_congr (w := "point") i0, bar_congr (w := "lots") i1]
  rw [e]
  have m1 : mulOk f (v - 1) = true := mul_okS (by omega) (by omega)
  have m2 : mulOk f v = true := mul_okS (by omega) (by omega)
  have fv : 0 ≤ f * v ∧ f * v ≤ 1000 * v := ⟨Int.mul_nonneg (by omega) (by omega), Int.mul_le_mul_of_nonneg_right h4 (by omega)⟩
  have m3 : mulOk (f * v) (v - 1) = true := mul_ok (by omega) (by omega) (by omega) (by omega)
  have ln : ∀ (w : Str) (p : Prop) [Decidable p], (bar w p).length ≤ 1 := fun w p _ => by unfold bar; split <;> simp
  have l0 := ln "point" ((f * (v - 1)).fmod 2 = 1)
  have l1 := ln "lots" (¬ (f * v * (v - 1)).fmod 6 = 0)
  have L2 : (bar "point" ((f * (v - 1)).fmod 2 = 1)).length + (bar "lots" (¬ (f * v * (v - 1)).fmod 6 = 0)).length ≤ 16777216 := by omega
  simp [m__triples_bars, b__triples_bars, ev_bar, m1, m2, m3, L2]
theorem ev_b_ring {v : Int} (h1 : 3 ≤ v) (h2 : v ≤ 1000000000000000000000000000000) : m__ring_bars [.tup [.str "ring", .int v]] = .ok (.lst (due_ring v)) := by
  have e : due_ring v = bar "point" (v.fmod 2 = 0) ++ bar "lots" (¬ (v * (v - 1)).fmod 6 = 0) ++ bar "cases" (v = 9) := by
    unfold due_ring
    have i0 : (v.fmod 2 = 0) ↔ (v.fmod 2 = 0) := Iff.rfl
    have i1 : (¬ (v * (v - 1)).fmod 6 = 0) ↔ (v.fmod 3 = 2) := by rw [fm (by omega), fm (by omega)]; exact p_ring v
    have i2 : (v = 9) ↔ (v = 9) := Iff.rfl
    rw [bar_congr (w := "point") i0, bar_congr (w := "lots") i1, bar_congr (w := "cases") i2]
  rw [e]
  have m1 : mulOk v (v - 1) = true := mul_ok (by omega) (by omega) (by omega) (by omega)
  have ln : ∀ (w : Str) (p : Prop) [Decidable p], (bar w p).length ≤ 1 := fun w p _ => by unfold bar; split <;> simp
  have l0 := ln "point" (v.fmod 2 = 0)
  have l1 := ln "lots" (¬ (v * (v - 1)).fmod 6 = 0)
  have l2 := ln "cases" (v = 9)
  have L2 : (bar "point" (v.fmod 2 = 0)).length + (bar "lots" (¬ (v * (v - 1)).fmod 6 = 0)).length ≤ 16777216 := by omega
  have L3 : (bar "point" (v.fmod 2 = 0)).length + (bar "lots" (¬ (v * (v - 1)).fmod 6 = 0)).length + (bar "cases" (v = 9)).length ≤ 16777216 := by omega
  simp [m__ring_bars, b__ring_bars, ev_bar, m1, L2, L3]
theorem ev_b_days {v : Int} (h1 : 3 ≤ v) (h2 : v ≤ 1000000000000000000000000000000) : m__days_bars [.tup [.str "days", .int v]] = .ok (.lst (due_days v)) := by
  have e : due_days v = bar "point" (v.fmod 2 = 0) ++ bar "days" (¬ v.fmod 3 = 0) := by
    unfold due_days
    have i0 : (v.fmod 2 = 0) ↔ (v.fmod 2 = 0) := Iff.rfl
    have i1 : (¬ v.fmod 3 = 0) ↔ (0 < v.fmod 3) := by rw [fm (by omega)]; omega
    rw [bar_congr (w := "point") i0, bar_congr (w := "days") i1]
  rw [e]
  have ln : ∀ (w : Str) (p : Prop) [Decidable p], (bar w p).length ≤ 1 := fun w p _ => by unfold bar; split <;> simp
  have l0 := ln "point" (v.fmod 2 = 0)
  have l1 := ln "days" (¬ v.fmod 3 = 0)
  have L2 : (bar "point" (v.fmod 2 = 0)).length + (bar "days" (¬ v.fmod 3 = 0)).length ≤ 16777216 := by omega
  simp [m__days_bars, b__days_bars, ev_bar, L2]
theorem ev_b_fours {v : Int} (h1 : 4 ≤ v) (h2 : v ≤ 1000000000000000000000000000000) : m__fours_bars [.tup [.str "fours", .int v]] = .ok (.lst (due_fours v)) := by
  have e : due_fours v = bar "point" (¬ (v - 1).fmod 3 = 0) ++ bar "lots" (¬ (v * (v - 1)).fmod 12 = 0) := by
    unfold due_fours
    have i0 : (¬ (v - 1).fmod 3 = 0) ↔ (v.fmod 3 ≠ 1) := by rw [fm (by omega), fm (by omega)]; omega
    have i1 : (¬ (v * (v - 1)).fmod 12 = 0) ↔ (v.fmod 3 = 2 ∨ 1 < v.fmod 4) := by rw [fm (by omega), fm (by omega), fm (by omega)]; exact p_fours v
    rw [bar_congr (w := "point") i0, bar_congr (w := "lots") i1]
  rw [e]
  have m1 : mulOk v (v - 1) = true := mul_ok (by omega) (by omega) (by omega) (by omega)
  have ln : ∀ (w : Str) (p : Prop) [Decidable p], (bar w p).length ≤ 1 := fun w p _ => by unfold bar; split <;> simp
  have l0 := ln "point" (¬ (v - 1).fmod 3 = 0)
  have l1 := ln "lots" (¬ (v * (v - 1)).fmod 12 = 0)
  have L2 : (bar "point" (¬ (v - 1).fmod 3 = 0)).length + (bar "lots" (¬ (v * (v - 1)).fmod 12 = 0)).length ≤ 16777216 := by omega
  simp [m__fours_bars, b__fours_bars, ev_bar, m1, L2]
theorem ev_b_mates {v : Int} (h1 : 1 ≤ v) (h2 : v ≤ 1000000000000000000000000000000) : m__mates_bars [.tup [.str "mates", .int v]] = .ok (.lst (due_mates v)) := by
  have e : due_mates v = bar "two" (v = 2) ++ bar "six" (v = 6) := by
    unfold due_mates
    have i0 : (v = 2) ↔ (v = 2) := Iff.rfl
    have i1 : (v = 6) ↔ (v = 6) := Iff.rfl
    rw [bar_congr (w := "two") i0, bar_congr (w := "six") i1]
  rw [e]
  have ln : ∀ (w : Str) (p : Prop) [Decidable p], (bar w p).length ≤ 1 := fun w p _ => by unfold bar; split <;> simp
  have l0 := ln "two" (v = 2)
  have l1 := ln "six" (v = 6)
  have L2 : (bar "two" (v = 2)).length + (bar "six" (v = 6)).length ≤ 16777216 := by omega
  simp [m__mates_bars, b__mates_bars, ev_bar, L2]
theorem ev_b_signs {v : Int} (h1 : 1 ≤ v) (h2 : v ≤ 64) : m__signs_bars [.tup [.str "signs", .int v]] = .ok (.lst (due_signs v)) := by
  have e : due_signs v = bar "rows" (3 ≤ v ∧ ¬ v.fmod 4 = 0) := by
    unfold due_signs
    have i0 : (3 ≤ v ∧ ¬ v.fmod 4 = 0) ↔ (2 < v ∧ 0 < v.fmod 4) := by rw [fm (by omega)]; omega
    rw [bar_congr (w := "rows") i0]
  rw [e]
  have ln : ∀ (w : Str) (p : Prop) [Decidable p], (bar w p).length ≤ 1 := fun w p _ => by unfold bar; split <;> simp
  have l0 := ln "rows" (3 ≤ v ∧ ¬ v.fmod 4 = 0)
  by_cases q0 : 3 ≤ v <;> by_cases q1 : v.fmod 4 = 0 <;> simp [m__signs_bars, b__signs_bars, ev_bar, bar, q0, q1]
end K67

/-! What the defs answer: the same, told, asked. -/
namespace K67
open PySem MB

theorem allB_true : ∀ n : Nat, allD [.lst (List.replicate n (.bl true))] = some (.bl true) := fun n => by
  have h : asBools (List.replicate n (.bl true)) = some (List.replicate n true) := by
    rw [show List.replicate n (D.bl true) = (List.replicate n true).map D.bl by simp, asBools_map]
  unfold allD
  simp [h]
theorem same_eq (n : Nat) (ds : List D) : m__law_same (n + 1) ds = endR (b__law_same (m__law_same n) (envOf 4 ds)) := rfl
theorem same_refl : ∀ {n : Nat} {d : D}, Dat n d → m__law_same (n + 1) [d, d] = .ok (.bl true) := by
  intro n
  induction n with
  | zero =>
    intro d h
    cases h with
    | non => simp [m__law_same, b__law_same, isNo, isBlD]
    | bl b => cases b <;> simp [m__law_same, b__law_same, isNo, isBlD]
    | int i => simp [m__law_same, b__law_same, isNo, isBlD]
    | str h => simp [m__law_same, b__law_same, isNo, isBlD]
  | succ n ih =>
    intro d h
    have key : ∀ (e : D) (ds : List D) (hds : ∀ d ∈ ds, Dat n d), (∀ ρ : En, kZZ e e ρ = .ok (zipD ds ds) ρ) → ds.length ≤ 1000000 →
        eComp (it__law_same_0 (m__law_same (n + 1))) (bTp [bNm 2, bNm 3]) (eC (.bl true)) (ce__law_same_1 (m__law_same (n + 1))) [2, 3] [some (.val e), some (.val e), none, none] = .ok (.lst (List.replicate ds.length (.bl true))) [some (.val e), some (.val e), none, none] := by
      intro e ds hds hz hl
      have hlen : (zipD ds ds).length = ds.length := by simp [zipD]
      refine (eComp_map (ds := zipD ds ds) (g := fun _ => .bl true) (ρ1 := [some (.val e), some (.val e), none, none]) ?_ (by omega) (by rfl) ?_).trans ?_
      · simp [it__law_same_0, hz]
      · intro p hp
        obtain ⟨k, hk⟩ := List.getElem?_of_mem hp
        obtain ⟨a, b, ha, hb, rfl⟩ := zipD_get hk
        rw [ha] at hb
        cases hb
        have hm : a ∈ ds := List.mem_of_getElem? ha
        refine ⟨[some (.val e), some (.val e), some (.val a), some (.val a)], by simp, [some (.val e), some (.val e), some (.val a), some (.val a)], ?_, by simp⟩
        have := ih (hds a hm)
        simp [ce__law_same_1, this]
      · simp [List.map_const', hlen]
    cases h with
    | non => simp [m__law_same, b__law_same, isNo, isBlD]
    | bl b => cases b <;> simp [m__law_same, b__law_same, isNo, isBlD]
    | int i => simp [m__law_same, b__law_same, isNo, isBlD]
    | str h => simp [m__law_same, b__law_same, isNo, isBlD]
    | tup h hl =>
      rename_i ds
      have k := key (.tup ds) ds h (fun ρ => rfl) hl
      rw [same_eq]
      simp [-eComp_ap, b__law_same, isNo, isBlD, k, allB_true]
    | lst h hl =>
      rename_i ds
      have k := key (.lst ds) ds h (fun ρ => rfl) hl
      rw [same_eq]
      simp [-eComp_ap, b__law_same, isNo, isBlD, k, allB_true]
inductive Val : D → List D → Prop
  | rounds {v : Int} (h1 : 2 ≤ v) (h2 : v ≤ 1000000000000000000000000000000) : Val (.tup [.str "rounds", .int v]) (due_rounds v)
  | triples {v f : Int} (h1 : 3 ≤ v) (h2 : v ≤ 1000000000000000000000000000000) (h3 : 1 ≤ f) (h4 : f ≤ 1000) : Val (.tup [.str "triples", .int v, .int f]) (due_triples v f)
  | ring {v : Int} (h1 : 3 ≤ v) (h2 : v ≤ 1000000000000000000000000000000) : Val (.tup [.str "ring", .int v]) (due_ring v)
  | days {v : Int} (h1 : 3 ≤ v) (h2 : v ≤ 1000000000000000000000000000000) : Val (.tup [.str "days", .int v]) (due_days v)
  | fours {v : Int} (h1 : 4 ≤ v) (h2 : v ≤ 1000000000000000000000000000000) : Val (.tup [.str "fours", .int v]) (due_fours v)
  | mates {v : Int} (h1 : 1 ≤ v) (h2 : v ≤ 1000000000000000000000000000000) : Val (.tup [.str "mates", .int v]) (due_mates v)
  | signs {v : Int} (h1 : 1 ≤ v) (h2 : v ≤ 64) : Val (.tup [.str "signs", .int v]) (due_signs v)
variable {W p : D} {L : List D}
theorem val_is (h : Val W L) : m__is_wish [W] = .ok (.bl true) := by
  cases h with
  | rounds h1 h2 => exact ev_is_rounds h1 h2
  | triples h1 h2 h3 h4 => exact ev_is_triples h1 h2 h3 h4
  | ring h1 h2 => exact ev_is_ring h1 h2
  | days h1 h2 => exact ev_is_days h1 h2
  | fours h1 h2 => exact ev_is_fours h1 h2
  | mates h1 h2 => exact ev_is_mates h1 h2
  | signs h1 h2 => exact ev_is_signs h1 h2
theorem val_due (h : Val W L) : m__law_due [W] = .ok (.lst L) := by
  cases h with
  | rounds h1 h2 => exact ev_due_rounds _
  | triples h1 h2 h3 h4 => exact ev_due_triples _ _
  | ring h1 h2 => exact ev_due_ring _
  | days h1 h2 => exact ev_due_days _
  | fours h1 h2 => exact ev_due_fours _
  | mates h1 h2 => exact ev_due_mates _
  | signs h1 h2 => exact ev_due_signs _
theorem val_listed (h : Val W L) : m_listed_bars [W] = .ok (.lst L) := by
  have e := val_is h
  cases h with
  | rounds h1 h2 => have b := ev_b_rounds h1 h2; simp [m_listed_bars, b_listed_bars, m_looked_wish, b_looked_wish, e, tb_KINDS, sel_listed_bars, List.lookup_cons, b]
  | triples h1 h2 h3 h4 => have b := ev_b_triples h1 h2 h3 h4; simp [m_listed_bars, b_listed_bars, m_looked_wish, b_looked_wish, e, tb_KINDS, sel_listed_bars, List.lookup_cons, b]
  | ring h1 h2 => have b := ev_b_ring h1 h2; simp [m_listed_bars, b_listed_bars, m_looked_wish, b_looked_wish, e, tb_KINDS, sel_listed_bars, List.lookup_cons, b]
  | days h1 h2 => have b := ev_b_days h1 h2; simp [m_listed_bars, b_listed_bars, m_looked_wish, b_looked_wish, e, tb_KINDS, sel_listed_bars, List.lookup_cons, b]
  | fours h1 h2 => have b := ev_b_fours h1 h2; simp [m_listed_bars, b_listed_bars, m_looked_wish, b_looked_wish, e, tb_KINDS, sel_listed_bars, List.lookup_cons, b]
  | mates h1 h2 => have b := ev_b_mates h1 h2; simp [m_listed_bars, b_listed_bars, m_looked_wish, b_looked_wish, e, tb_KINDS, sel_listed_bars, List.lookup_cons, b]
  | signs h1 h2 => have b := ev_b_signs h1 h2; simp [m_listed_bars, b_listed_bars, m_looked_wish, b_looked_wish, e, tb_KINDS, sel_listed_bars, List.lookup_cons, b]
theorem bar_dat (w : Str) (h : PyData.strOk w = true) (q : Prop) [Decidable q] : ∀ d ∈ bar w q, Dat 2 d := fun d hd => by
  unfold bar at hd
  split at hd
  · cases List.mem_singleton.mp hd
    exact .tup fun d hd => by
      cases List.mem_singleton.mp hd
      exact .str h
  · cases hd
theorem val_dat (h : Val W L) : ∀ d ∈ L, Dat 2 d := by
  have s : ∀ w ∈ (["odd", "point", "lots", "cases", "days", "two", "six", "rows"] : List Str), PyData.strOk w = true := by decide +kernel
  cases h <;> intro d hd
  · unfold due_rounds at hd
    exact bar_dat _ (s _ (by simp)) _ d hd
  · unfold due_triples at hd
    simp only [List.mem_append] at hd
    rcases hd with hd | hd
    · exact bar_dat _ (s _ (by simp)) _ d hd
    · exact bar_dat _ (s _ (by simp)) _ d hd
  · unfold due_ring at hd
    simp only [List.mem_append] at hd
    rcases hd with (hd | hd) | hd
    · exact bar_dat _ (s _ (by simp)) _ d hd
    · exact bar_dat _ (s _ (by simp)) _ d hd
    · exact bar_dat _ (s _ (by simp)) _ d hd
  · unfold due_days at hd
    simp only [List.mem_append] at hd
    rcases hd with hd | hd
    · exact bar_dat _ (s _ (by simp)) _ d hd
    · exact bar_dat _ (s _ (by simp)) _ d hd
  · unfold due_fours at hd
    simp only [List.mem_append] at hd
    rcases hd with hd | hd
    · exact bar_dat _ (s _ (by simp)) _ d hd
    · exact bar_dat _ (s _ (by simp)) _ d hd
  · unfold due_mates at hd
    simp only [List.mem_append] at hd
    rcases hd with hd | hd
    · exact bar_dat _ (s _ (by simp)) _ d hd
    · exact bar_dat _ (s _ (by simp)) _ d hd
  · unfold due_signs at hd
    exact bar_dat _ (s _ (by simp)) _ d hd
/-- the first of a list, or None -/
def hdD : List D → D
  | [] => .non
  | d :: _ => d
theorem ev_bars (h : Val W L) {b : Bool} (hp : inM p (.lst L) = some (.bl b)) : m_bars [W, p] = .ok (.bl b) := by
  simp [m_bars, b_bars, val_listed h, hp]
theorem ev_first (h : Val W L) : m_first_bar [W] = .ok (hdD L) := by
  cases L with
  | nil => simp [m_first_bar, b_first_bar, val_listed h, hdD]
  | cons d l => simp [m_first_bar, b_first_bar, val_listed h, hdD]
theorem ev_told_bars (h : Val W L) {b : Bool} (hp : inM p (.lst L) = some (.bl b)) : m__law_told [.str "bars", W, p] = .ok (.lst [.str "told", .bl b]) := by
  simp [m__law_told, b__law_told, ev_bars h hp, noExc]
theorem ev_told_first (h : Val W L) : m__law_told [.str "first", W, p] = .ok (.lst [.str "told", hdD L]) := by
  simp [m__law_told, b__law_told, ev_first h, noExc]
theorem sOk : ∀ w ∈ (["told", "error"] : List Str), PyData.strOk w = true := by decide +kernel
theorem dat_told {d : D} (h : Dat 2 d) : Dat 3 (.lst [.str "told", d]) := .lst fun e he => by
  simp only [List.mem_cons, List.not_mem_nil, or_false] at he
  rcases he with rfl | rfl
  · exact .str (sOk _ (by simp))
  · exact h
theorem dat_error : Dat 3 (.lst [.str "error", .bl true]) := .lst fun e he => by
  simp only [List.mem_cons, List.not_mem_nil, or_false] at he
  rcases he with rfl | rfl
  · exact .str (sOk _ (by simp))
  · exact .bl _
theorem hd_dat (h : Val W L) : Dat 2 (hdD L) := by
  have := val_dat h
  cases L with
  | nil => exact .non
  | cons d l => exact this d List.mem_cons_self
theorem ev_asked (h : Val W L) {ps : List D} (hp : ∀ p ∈ ps, ∃ b, inM p (.lst L) = some (.bl b)) : m__law_asked [W, .lst ps] = .ok (.bl true) := by
  have d3 := same_refl (dat_told (hd_dat h))
  have ne := neD_nil (val_dat h) (by omega)
  have loop : ∀ x : D, ∃ ρ', loopS (bNm 4) g__law_asked_1 ps [some (.val W), some (.val (.lst ps)), some (.val (.lst L)), some (.val x), none] = .nx ρ' ∧ ∃ y, ρ' = [some (.val W), some (.val (.lst ps)), some (.val (.lst L)), some (.val x), y] := by
    intro x
    refine loopS_inv (I := fun ρ => ∃ y, ρ = [some (.val W), some (.val (.lst ps)), some (.val (.lst L)), some (.val x), y]) (fun p hm ρ hi => ?_) ⟨_, rfl⟩
    obtain ⟨y, rfl⟩ := hi
    obtain ⟨b, hb⟩ := hp p hm
    have d4 := same_refl (dat_told (.bl b))
    refine ⟨[some (.val W), some (.val (.lst ps)), some (.val (.lst L)), some (.val x), some (.val p)], by simp, [some (.val W), some (.val (.lst ps)), some (.val (.lst L)), some (.val x), some (.val p)], ?_, _, rfl⟩
    simp [g__law_asked_1, ev_told_bars h hb, hb, d4]
  cases L with
  | nil =>
    obtain ⟨ρ', e, y, rfl⟩ := loop .non
    simp [m__law_asked, b__law_asked, it__law_asked_0, val_due h, ev_told_first h, ne, d3, hdD, e] at d3 ⊢
    try simp [d3, e, ev_told_first h, hdD]
  | cons d l =>
    obtain ⟨ρ', e, y, rfl⟩ := loop d
    simp [m__law_asked, b__law_asked, it__law_asked_0, val_due h, ev_told_first h, ne, d3, hdD, e] at d3 ⊢
    try simp [d3, e, ev_told_first h, hdD]
end K67

/-! What the defs answer: papers, wrong wishes. -/
namespace K67
open PySem MB
theorem atI_mem {α : Type} {l : List α} {z : Int} (h0 : 0 ≤ z) (h : z < (l.length : Nat)) : ∃ d, L2.atI l z = some d ∧ d ∈ l := by
  have e : z = ((z.toNat : Nat) : Int) := by omega
  rw [e, atI_nat]
  have h2 : z.toNat < l.length := by omega
  exact ⟨l[z.toNat], List.getElem?_eq_getElem h2, List.getElem_mem h2⟩
@[simp] theorem atI_4 {α : Type} {a0 a1 a2 a3 a4 : α} {l : List α} : L2.atI (a0 :: a1 :: a2 :: a3 :: a4 :: l) 4 = some a4 := by
  unfold L2.atI L2.ixN
  rw [if_pos (by omega), if_pos (by simp only [List.length_cons]; omega)]
  rfl
@[simp] theorem atI_5 {α : Type} {a0 a1 a2 a3 a4 a5 : α} {l : List α} : L2.atI (a0 :: a1 :: a2 :: a3 :: a4 :: a5 :: l) 5 = some a5 := by
  unfold L2.atI L2.ixN
  rw [if_pos (by omega), if_pos (by simp only [List.length_cons]; omega)]
  rfl
@[simp] theorem atI_6 {α : Type} {a0 a1 a2 a3 a4 a5 a6 : α} {l : List α} : L2.atI (a0 :: a1 :: a2 :: a3 :: a4 :: a5 :: a6 :: l) 6 = some a6 := by
  unfold L2.atI L2.ixN
  rw [if_pos (by omega), if_pos (by simp only [List.length_cons]; omega)]
  rfl
@[simp] theorem atI_7 {α : Type} {a0 a1 a2 a3 a4 a5 a6 a7 : α} {l : List α} : L2.atI (a0 :: a1 :: a2 :: a3 :: a4 :: a5 :: a6 :: a7 :: l) 7 = some a7 := by
  unfold L2.atI L2.ixN
  rw [if_pos (by omega), if_pos (by simp only [List.length_cons]; omega)]
  rfl
@[simp] theorem atI_8 {α : Type} {a0 a1 a2 a3 a4 a5 a6 a7 a8 : α} {l : List α} : L2.atI (a0 :: a1 :: a2 :: a3 :: a4 :: a5 :: a6 :: a7 :: a8 :: l) 8 = some a8 := by
  unfold L2.atI L2.ixN
  rw [if_pos (by omega), if_pos (by simp only [List.length_cons]; omega)]
  rfl
variable {W p : D} {L : List D}
theorem val_form (h : Val W L) : ∃ (w : Str) (v : Int) (rest : List D), W = .tup (.str w :: .int v :: rest) ∧ PyData.strOk w = true ∧ Dat 1 W := by
  have s : ∀ w ∈ (["rounds", "triples", "ring", "days", "fours", "mates", "signs"] : List Str), PyData.strOk w = true := by decide +kernel
  have d : ∀ (w : Str) (v : Int), PyData.strOk w = true → Dat 1 (.tup [.str w, .int v]) := fun w v h => .tup fun d hd => by
    simp only [List.mem_cons, List.not_mem_nil, or_false] at hd
    rcases hd with rfl | rfl
    · exact .str h
    · exact .int _
  have d2 : ∀ (w : Str) (v f : Int), PyData.strOk w = true → Dat 1 (.tup [.str w, .int v, .int f]) := fun w v f h => .tup fun d hd => by
    simp only [List.mem_cons, List.not_mem_nil, or_false] at hd
    rcases hd with rfl | rfl | rfl
    · exact .str h
    · exact .int _
    · exact .int _
  cases h with
  | rounds _ _ => exact ⟨_, _, _, rfl, s _ (by simp), d _ _ (s _ (by simp))⟩
  | triples _ _ _ _ => exact ⟨_, _, _, rfl, s _ (by simp), d2 _ _ _ (s _ (by simp))⟩
  | ring _ _ => exact ⟨_, _, _, rfl, s _ (by simp), d _ _ (s _ (by simp))⟩
  | days _ _ => exact ⟨_, _, _, rfl, s _ (by simp), d _ _ (s _ (by simp))⟩
  | fours _ _ => exact ⟨_, _, _, rfl, s _ (by simp), d _ _ (s _ (by simp))⟩
  | mates _ _ => exact ⟨_, _, _, rfl, s _ (by simp), d _ _ (s _ (by simp))⟩
  | signs _ _ => exact ⟨_, _, _, rfl, s _ (by simp), d _ _ (s _ (by simp))⟩
theorem bar_form (w : Str) (h : PyData.strOk w = true) (q : Prop) [Decidable q] : ∀ d ∈ bar w q, ∃ w, d = .tup [.str w] ∧ PyData.strOk w = true := fun d hd => by
  unfold bar at hd
  split at hd
  · cases List.mem_singleton.mp hd
    exact ⟨_, rfl, h⟩
  · cases hd
theorem bar_len (w : Str) (q : Prop) [Decidable q] : (bar w q).length ≤ 1 := by unfold bar; split <;> simp
theorem val_tup (h : Val W L) : (∀ d ∈ L, ∃ w, d = .tup [.str w] ∧ PyData.strOk w = true) ∧ L.length ≤ 3 := by
  have s : ∀ w ∈ (["odd", "point", "lots", "cases", "days", "two", "six", "rows"] : List Str), PyData.strOk w = true := by decide +kernel
  cases h <;> refine ⟨fun d hd => ?_, ?_⟩
  · unfold due_rounds at hd
    exact bar_form _ (s _ (by simp)) _ d hd
  · unfold due_rounds
    rename_i v _ _
    have l0 := bar_len "odd" (v.fmod 2 = 1)
    omega
  · unfold due_triples at hd
    simp only [List.mem_append] at hd
    rcases hd with hd | hd
    · exact bar_form _ (s _ (by simp)) _ d hd
    · exact bar_form _ (s _ (by simp)) _ d hd
  · unfold due_triples
    simp only [List.length_append]
    rename_i v f _ _ _ _
    have l0 := bar_len "point" (v.fmod 2 = 0 ∧ f.fmod 2 = 1)
    have l1 := bar_len "lots" (v.fmod 3 = 2 ∧ 0 < f.fmod 3)
    omega
  · unfold due_ring at hd
    simp only [List.mem_append] at hd
    rcases hd with (hd | hd) | hd
    · exact bar_form _ (s _ (by simp)) _ d hd
    · exact bar_form _ (s _ (by simp)) _ d hd
    · exact bar_form _ (s _ (by simp)) _ d hd
  · unfold due_ring
    simp only [List.length_append]
    rename_i v _ _
    have l0 := bar_len "point" (v.fmod 2 = 0)
    have l1 := bar_len "lots" (v.fmod 3 = 2)
    have l2 := bar_len "cases" (v = 9)
    omega
  · unfold due_days at hd
    simp only [List.mem_append] at hd
    rcases hd with hd | hd
    · exact bar_form _ (s _ (by simp)) _ d hd
    · exact bar_form _ (s _ (by simp)) _ d hd
  · unfold due_days
    simp only [List.length_append]
    rename_i v _ _
    have l0 := bar_len "point" (v.fmod 2 = 0)
    have l1 := bar_len "days" (0 < v.fmod 3)
    omega
  · unfold due_fours at hd
    simp only [List.mem_append] at hd
    rcases hd with hd | hd
    · exact bar_form _ (s _ (by simp)) _ d hd
    · exact bar_form _ (s _ (by simp)) _ d hd
  · unfold due_fours
    simp only [List.length_append]
    rename_i v _ _
    have l0 := bar_len "point" (v.fmod 3 ≠ 1)
    have l1 := bar_len "lots" (v.fmod 3 = 2 ∨ 1 < v.fmod 4)
    omega
  · unfold due_mates at hd
    simp only [List.mem_append] at hd
    rcases hd with hd | hd
    · exact bar_form _ (s _ (by simp)) _ d hd
    · exact bar_form _ (s _ (by simp)) _ d hd
  · unfold due_mates
    simp only [List.length_append]
    rename_i v _ _
    have l0 := bar_len "two" (v = 2)
    have l1 := bar_len "six" (v = 6)
    omega
  · unfold due_signs at hd
    exact bar_form _ (s _ (by simp)) _ d hd
  · unfold due_signs
    rename_i v _ _
    have l0 := bar_len "rows" (2 < v ∧ 0 < v.fmod 4)
    omega

theorem dat1 {n : Nat} {d : D} (h : Dat n d) : Dat (n + 1) (.tup [d]) := .tup fun e he => by cases List.mem_singleton.mp he; exact h
theorem dat2 {n : Nat} {d e : D} (h : Dat n d) (h2 : Dat n e) : Dat (n + 1) (.tup [d, e]) := .tup fun x hx => by
  simp only [List.mem_cons, List.not_mem_nil, or_false] at hx
  rcases hx with rfl | rfl
  · exact h
  · exact h2
theorem dat0 {n : Nat} : Dat (n + 1) (.tup []) := .tup fun e he => by cases he
def PapL (ps : List D) : Prop := ∀ p ∈ ps, Dat 4 p
theorem papers_loop {io W num words some_ x5 : Option Sl} {n : Int} (hn : num = some (.val (.int n))) : ∀ {ds ps : List D} {x7 : Option Sl}, (∀ d ∈ ds, ∃ w, d = .tup [.str w] ∧ PyData.strOk w = true) → PapL ps → 26 ≤ ps.length → ps.length + 3 * ds.length ≤ 1000 →
    ∃ ps' x, loopS (bNm 7) g__law_papers_3 ds [io, W, num, words, some (.val (.lst ps)), x5, some_, x7] = .nx [io, W, num, words, some (.val (.lst ps')), x5, some_, x] ∧ PapL ps' ∧ 26 ≤ ps'.length
  | [], ps, x7, _, h2, h3, _ => ⟨ps, x7, rfl, h2, h3⟩
  | d :: ds, ps, x7, h1, h2, h3, h4 => by
    obtain ⟨w, rfl, hw⟩ := h1 d List.mem_cons_self
    subst hn
    have hl : ps.length + 3 ≤ 16777216 := by simp only [List.length_cons] at h4; omega
    have e : g__law_papers_3 [io, W, some (.val (.int n)), words, some (.val (.lst ps)), x5, some_, some (.val (.tup [.str w]))] = .nx [io, W, some (.val (.int n)), words, some (.val (.lst (ps ++ [.tup [.str w, .int n], .tup [.tup [.str w]], .tup [.str w, .tup []]]))), x5, some_, some (.val (.tup [.str w]))] := by
      simp [g__law_papers_3, slD, cutD, HT.sIx, hl]
    obtain ⟨ps', x, e2, e3, e4⟩ := papers_loop (io := io) (W := W) (words := words) (some_ := some_) (x5 := x5) rfl (ds := ds) (ps := ps ++ [.tup [.str w, .int n], .tup [.tup [.str w]], .tup [.str w, .tup []]]) (x7 := some (.val (.tup [.str w]))) (fun d' m => h1 d' (List.mem_cons_of_mem _ m)) (fun p hp => by
      rcases List.mem_append.mp hp with hp | hp
      · exact h2 p hp
      · simp only [List.mem_cons, List.not_mem_nil, or_false] at hp
        rcases hp with rfl | rfl | rfl
        · exact (dat2 (.str hw) (.int n)).mono (n := 1) (by omega)
        · exact (dat1 (dat1 (.str hw))).mono (n := 2) (by omega)
        · exact (dat2 (n := 1) (.str hw) dat0).mono (by omega)) (by simp; omega) (by simp only [List.length_cons, List.length_append, List.length_nil] at h4 ⊢; omega)
    refine ⟨ps', x, ?_, e3, e4⟩
    rw [loopS_cons (b := bNm 7) rfl e]
    exact e2
theorem papers_spec {cs : List D} (h : Val W L) (hb : Box cs) : ∃ ps cs', m__law_papers [.non, W] cs = .ok (.lst ps) cs' ∧ Box cs' ∧ PapL ps ∧ 26 ≤ ps.length := by
  obtain ⟨w, v, rest, rfl, hw, hW⟩ := val_form h
  obtain ⟨k, c1, e1, b1, k0, k1⟩ := draw_spec hb (many := 7) (by omega) (.inl (by decide))
  obtain ⟨j, c2, e2, b2, j0, j1⟩ := draw_spec b1 (many := 10) (by omega) (.inl (by decide))
  obtain ⟨num, e3, m3⟩ := atI_mem (l := [D.int 0, .int 1, .int 2, .int 3, .int 6, .int 9, .int v]) k0 (by simpa using k1)
  obtain ⟨n, rfl⟩ : ∃ n, num = .int n := by
    simp only [List.mem_cons, List.not_mem_nil, or_false] at m3
    rcases m3 with rfl | rfl | rfl | rfl | rfl | rfl | rfl <;> exact ⟨_, rfl⟩
  let ws : List Str := ["odd", "point", "lots", "cases", "days", "two", "six", "rows", "count", "square", "form", "even", "bar"]
  have sk : ∀ w ∈ ws, PyData.strOk w = true := by decide +kernel
  obtain ⟨so, e4, m4⟩ := atI_mem (l := ws.map D.str) j0 (by show j < 13; omega)
  obtain ⟨sw, hsw, rfl⟩ := List.mem_map.mp m4
  have hs := sk sw hsw
  have e4' : L2.atI [D.str "odd", .str "point", .str "lots", .str "cases", .str "days", .str "two", .str "six", .str "rows", .str "count", .str "square", .str "form", .str "even", .str "bar"] j = some (.str sw) := e4
  have hcomp : eComp it__law_papers_0 (bNm 5) (eC (.bl true)) ce__law_papers_1 [5] [some (.io c1), some (.val (.tup (.str w :: .int v :: rest))), some (.val (.int n)), some (.val (.lst (ws.map D.str))), none, none, none, none]
      = .ok (.lst (ws.map fun w => .tup [.str w])) [some (.io c1), some (.val (.tup (.str w :: .int v :: rest))), some (.val (.int n)), some (.val (.lst (ws.map D.str))), none, none, none, none] := by
    refine (eComp_map (ds := ws.map D.str) (g := fun d => .tup [d]) (ρ1 := [some (.io c1), some (.val (.tup (.str w :: .int v :: rest))), some (.val (.int n)), some (.val (.lst (ws.map D.str))), none, none, none, none]) ?_ (by decide) (by rfl) ?_).trans ?_
    · simp [it__law_papers_0]
    · intro d hd
      exact ⟨[some (.io c1), some (.val (.tup (.str w :: .int v :: rest))), some (.val (.int n)), some (.val (.lst (ws.map D.str))), none, some (.val d), none, none], by simp, [some (.io c1), some (.val (.tup (.str w :: .int v :: rest))), some (.val (.int n)), some (.val (.lst (ws.map D.str))), none, some (.val d), none, none], by simp [ce__law_papers_1], by simp⟩
    · simp [List.map_map, Function.comp_def]
  obtain ⟨ht, hlen⟩ := val_tup h
  let base : List D := (ws.map fun w => .tup [.str w]) ++ [.tup [.str "form", .int 2], .tup [.str "form", .int 3], .tup [.str "form", .int n], .tup [.str sw, .int n], .tup [.str sw, .tup []], .tup [.tup [.str sw]], .tup [.str sw, .tup [.str sw]]] ++ [.tup [], .tup [.int n], .tup [.tup []], .tup [.str w], .tup (.str w :: .int v :: rest), .tup [.int n, .int 0]]
  have hbase : PapL base := fun p hp => by
    have fo : PyData.strOk ("form" : Str) = true := by decide +kernel
    rcases List.mem_append.mp hp with hp | hp
    · rcases List.mem_append.mp hp with hp | hp
      · obtain ⟨x, hx, rfl⟩ := List.mem_map.mp hp
        exact (dat1 (.str (sk x hx))).mono (n := 1) (by omega)
      · simp only [List.mem_cons, List.not_mem_nil, or_false] at hp
        rcases hp with rfl | rfl | rfl | rfl | rfl | rfl | rfl
        · exact (dat2 (.str fo) (.int _)).mono (n := 1) (by omega)
        · exact (dat2 (.str fo) (.int _)).mono (n := 1) (by omega)
        · exact (dat2 (.str fo) (.int _)).mono (n := 1) (by omega)
        · exact (dat2 (.str hs) (.int _)).mono (n := 1) (by omega)
        · exact (dat2 (n := 1) (.str hs) dat0).mono (by omega)
        · exact (dat1 (dat1 (.str hs))).mono (n := 2) (by omega)
        · exact (dat2 (n := 1) (.str hs) (dat1 (.str hs))).mono (by omega)
    · simp only [List.mem_cons, List.not_mem_nil, or_false] at hp
      rcases hp with rfl | rfl | rfl | rfl | rfl | rfl
      · exact dat0
      · exact (dat1 (.int _)).mono (n := 1) (by omega)
      · exact (dat1 (n := 1) dat0).mono (by omega)
      · exact (dat1 (.str hw)).mono (n := 1) (by omega)
      · exact hW.mono (by omega)
      · exact (dat2 (.int _) (.int _)).mono (n := 1) (by omega)
  obtain ⟨ps', x, l1, l2, l3⟩ := papers_loop (io := some (.io c2)) (W := some (.val (.tup (.str w :: .int v :: rest)))) (num := some (.val (.int n))) (words := some (.val (.lst (ws.map D.str)))) (some_ := some (.val (.str sw))) (x5 := none) (n := n) rfl (ds := L) (ps := base) (x7 := none) ht hbase (by show 26 ≤ 26; omega) (by show 26 + 3 * L.length ≤ 1000; omega)
  refine ⟨ps', c2, ?_, b2, l2, l3⟩
  have hcomp' := hcomp
  simp only [ws, List.map_cons, List.map_nil] at hcomp' l1
  have l1' := l1
  simp only [base, ws, List.map_cons, List.map_nil, List.cons_append, List.nil_append] at l1'
  simp [-eComp_ap, m__law_papers, b__law_papers, it__law_papers_2, e1, e3, e2, e4', hcomp', val_due h, l1']
end K67

/-! Wrong wishes; the law. -/
namespace K67
open PySem MB
theorem log_ok {v : Int} (h1 : 0 ≤ v) (h2 : v ≤ 1000000000000000000000000000000) : v.natAbs.log2 < 1920 := by
  have := log_lt (i := v) (by omega) (by omega)
  omega
theorem wrong_rounds {cs : List D} {v : Int} (hb : Box cs) (h1 : 2 ≤ v) (h2 : v ≤ 1000000000000000000000000000000) : ∃ q cs', m__law_wrong [.non, .tup [.str "rounds", .int v]] cs = .ok q cs' ∧ Box cs' ∧ m__is_wish [q] = .ok (.bl false) := by
  have E := E30_eq
  obtain ⟨k, c1, e1, b1, k0, k1⟩ := draw_spec hb (many := 12) (by omega) (.inl (by decide))
  obtain ⟨far, c2, e2, b2, f0, f1⟩ := great_spec b1 (many := E30) (by omega)
  have bd : m__law_bounds [.tup [.str "rounds", .int v]] = .ok (.tup [.int 2, .int E30]) := by
    simp [m__law_bounds, b__law_bounds, dInts, lookK]
  have q1 : ¬ v < 2 := by omega
  have q2 : ¬ 1000000000000000000000000000000 < v := by omega
  have lg := log_ok (v := v) (by omega) (by omega)
  have hk : k = 0 ∨ k = 1 ∨ k = 2 ∨ k = 3 ∨ k = 4 ∨ k = 5 ∨ k = 6 ∨ k = 7 ∨ k = 8 ∨ k = 9 ∨ k = 10 ∨ k = 11 := by omega
  rcases hk with rfl | rfl | rfl | rfl | rfl | rfl | rfl | rfl | rfl | rfl | rfl | rfl
  · have z : True := trivial
    refine ⟨.tup [.str "rounds", .int (2 - 1)], c2, by simp [m__law_wrong, b__law_wrong, slD, cutD, HT.sIx, e1, bd, e2], b2, ?_⟩
    simp [m__is_wish, b__is_wish, it__is_wish_0, g__is_wish_1, m_is_number, b_is_number, tb_BOUNDS, List.lookup_cons, slD, cutD, HT.sIx, q1, q2, z]
  · have z : (2 ≤ E30 + 1) ∧ 1000000000000000000000000000000 < E30 + 1 ∧ ¬ E30 + 1 < 2 := by omega
    refine ⟨.tup [.str "rounds", .int (E30 + 1)], c2, by simp [m__law_wrong, b__law_wrong, slD, cutD, HT.sIx, e1, bd, e2], b2, ?_⟩
    simp [m__is_wish, b__is_wish, it__is_wish_0, g__is_wish_1, m_is_number, b_is_number, tb_BOUNDS, List.lookup_cons, slD, cutD, HT.sIx, q1, q2, z.1, z.2.1, z.2.2]
  · have z : 0 - far < 2 := by omega
    have z2 : -far < 2 := by omega
    refine ⟨.tup [.str "rounds", .int (0 - far)], c2, by simp [m__law_wrong, b__law_wrong, slD, cutD, HT.sIx, e1, bd, e2], b2, ?_⟩
    simp [m__is_wish, b__is_wish, it__is_wish_0, g__is_wish_1, m_is_number, b_is_number, tb_BOUNDS, List.lookup_cons, slD, cutD, HT.sIx, q1, q2, z, z2]
  · have z : 1000000000000000000000000000000 < E30 + 1 + far ∧ ¬ E30 + 1 + far < 2 := by omega
    refine ⟨.tup [.str "rounds", .int (E30 + 1 + far)], c2, by simp [m__law_wrong, b__law_wrong, slD, cutD, HT.sIx, e1, bd, e2], b2, ?_⟩
    simp [m__is_wish, b__is_wish, it__is_wish_0, g__is_wish_1, m_is_number, b_is_number, tb_BOUNDS, List.lookup_cons, slD, cutD, HT.sIx, q1, q2, z.1, z.2]
  · have z : True := trivial
    refine ⟨.tup [.str "rounds"], c2, by simp [m__law_wrong, b__law_wrong, slD, cutD, HT.sIx, e1, bd, e2], b2, ?_⟩
    simp [m__is_wish, b__is_wish, it__is_wish_0, g__is_wish_1, m_is_number, b_is_number, tb_BOUNDS, List.lookup_cons, slD, cutD, HT.sIx, q1, q2, z]
  · obtain ⟨z, c3, e3, b3, z0, z1⟩ := draw_spec b2 (many := 9) (by omega) (.inl (by decide))
    refine ⟨.tup [.str "rounds", .int v, .int (1 + z)], c3, by simp [m__law_wrong, b__law_wrong, slD, cutD, HT.sIx, e1, bd, e2, e3], b3, ?_⟩
    simp [m__is_wish, b__is_wish, it__is_wish_0, g__is_wish_1, m_is_number, b_is_number, tb_BOUNDS, List.lookup_cons, slD, cutD, HT.sIx, q1, q2]
  · have z : True := trivial
    refine ⟨.tup [.str "rounds", .tup [.int v]], c2, by simp [m__law_wrong, b__law_wrong, slD, cutD, HT.sIx, e1, bd, e2], b2, ?_⟩
    simp [m__is_wish, b__is_wish, it__is_wish_0, g__is_wish_1, m_is_number, b_is_number, tb_BOUNDS, List.lookup_cons, slD, cutD, HT.sIx, q1, q2, z]
  · refine ⟨.tup [.str "rounds", .str (toString v)], c2, by simp [m__law_wrong, b__law_wrong, slD, cutD, HT.sIx, e1, bd, e2, strD, lg], b2, ?_⟩
    simp [m__is_wish, b__is_wish, it__is_wish_0, g__is_wish_1, m_is_number, b_is_number, tb_BOUNDS, List.lookup_cons, slD, cutD, HT.sIx, q1, q2]
  · have z : True := trivial
    refine ⟨.tup [.int v], c2, by simp [m__law_wrong, b__law_wrong, slD, cutD, HT.sIx, e1, bd, e2], b2, ?_⟩
    simp [m__is_wish, b__is_wish, it__is_wish_0, g__is_wish_1, m_is_number, b_is_number, tb_BOUNDS, List.lookup_cons, slD, cutD, HT.sIx, q1, q2, z]
  · obtain ⟨z, c3, e3, b3, z0, z1⟩ := draw_spec b2 (many := 9) (by omega) (.inl (by decide))
    have hz : z = 0 ∨ z = 1 ∨ z = 2 ∨ z = 3 ∨ z = 4 ∨ z = 5 ∨ z = 6 ∨ z = 7 ∨ z = 8 := by omega
    rcases hz with rfl | rfl | rfl | rfl | rfl | rfl | rfl | rfl | rfl
    · refine ⟨.tup [.str "round", .int v], c3, by simp [m__law_wrong, b__law_wrong, slD, cutD, HT.sIx, e1, bd, e2, e3], b3, ?_⟩
      simp [m__is_wish, b__is_wish, it__is_wish_0, g__is_wish_1, m_is_number, b_is_number, tb_BOUNDS, List.lookup_cons, slD, cutD, HT.sIx, q1, q2]
    · refine ⟨.tup [.str "Rounds", .int v], c3, by simp [m__law_wrong, b__law_wrong, slD, cutD, HT.sIx, e1, bd, e2, e3], b3, ?_⟩
      simp [m__is_wish, b__is_wish, it__is_wish_0, g__is_wish_1, m_is_number, b_is_number, tb_BOUNDS, List.lookup_cons, slD, cutD, HT.sIx, q1, q2]
    · refine ⟨.tup [.str "ringed", .int v], c3, by simp [m__law_wrong, b__law_wrong, slD, cutD, HT.sIx, e1, bd, e2, e3], b3, ?_⟩
      simp [m__is_wish, b__is_wish, it__is_wish_0, g__is_wish_1, m_is_number, b_is_number, tb_BOUNDS, List.lookup_cons, slD, cutD, HT.sIx, q1, q2]
    · refine ⟨.tup [.str "", .int v], c3, by simp [m__law_wrong, b__law_wrong, slD, cutD, HT.sIx, e1, bd, e2, e3], b3, ?_⟩
      simp [m__is_wish, b__is_wish, it__is_wish_0, g__is_wish_1, m_is_number, b_is_number, tb_BOUNDS, List.lookup_cons, slD, cutD, HT.sIx, q1, q2]
    · refine ⟨.tup [.str "triple", .int v], c3, by simp [m__law_wrong, b__law_wrong, slD, cutD, HT.sIx, e1, bd, e2, e3], b3, ?_⟩
      simp [m__is_wish, b__is_wish, it__is_wish_0, g__is_wish_1, m_is_number, b_is_number, tb_BOUNDS, List.lookup_cons, slD, cutD, HT.sIx, q1, q2]
    · refine ⟨.tup [.str "four", .int v], c3, by simp [m__law_wrong, b__law_wrong, slD, cutD, HT.sIx, e1, bd, e2, e3], b3, ?_⟩
      simp [m__is_wish, b__is_wish, it__is_wish_0, g__is_wish_1, m_is_number, b_is_number, tb_BOUNDS, List.lookup_cons, slD, cutD, HT.sIx, q1, q2]
    · refine ⟨.tup [.str "mate", .int v], c3, by simp [m__law_wrong, b__law_wrong, slD, cutD, HT.sIx, e1, bd, e2, e3], b3, ?_⟩
      simp [m__is_wish, b__is_wish, it__is_wish_0, g__is_wish_1, m_is_number, b_is_number, tb_BOUNDS, List.lookup_cons, slD, cutD, HT.sIx, q1, q2]
    · refine ⟨.tup [.str "sign", .int v], c3, by simp [m__law_wrong, b__law_wrong, slD, cutD, HT.sIx, e1, bd, e2, e3], b3, ?_⟩
      simp [m__is_wish, b__is_wish, it__is_wish_0, g__is_wish_1, m_is_number, b_is_number, tb_BOUNDS, List.lookup_cons, slD, cutD, HT.sIx, q1, q2]
    · refine ⟨.tup [.str "plane", .int v], c3, by simp [m__law_wrong, b__law_wrong, slD, cutD, HT.sIx, e1, bd, e2, e3], b3, ?_⟩
      simp [m__is_wish, b__is_wish, it__is_wish_0, g__is_wish_1, m_is_number, b_is_number, tb_BOUNDS, List.lookup_cons, slD, cutD, HT.sIx, q1, q2]
  · obtain ⟨z, c3, e3, b3, z0, z1⟩ := draw_spec b2 (many := 4) (by omega) (.inl (by decide))
    have hz : z = 0 ∨ z = 1 ∨ z = 2 ∨ z = 3 := by omega
    have y1 : ¬ 3 + far < 3 := by omega
    have y2 : ¬ 1001 + far < 1 := by omega
    have y3 : 1000 < 1001 + far := by omega
    rcases hz with rfl | rfl | rfl | rfl
    · refine ⟨.tup [.str "triples", .int (3 + far), .int 0], c3, by simp [m__law_wrong, b__law_wrong, slD, cutD, HT.sIx, e1, bd, e2, e3], b3, ?_⟩
      by_cases y : 1000000000000000000000000000000 < 3 + far <;> simp [m__is_wish, b__is_wish, it__is_wish_0, g__is_wish_1, m_is_number, b_is_number, tb_BOUNDS, List.lookup_cons, slD, cutD, HT.sIx, y1, y2, y3, y]
    · refine ⟨.tup [.str "triples", .int (3 + far), .int 1001], c3, by simp [m__law_wrong, b__law_wrong, slD, cutD, HT.sIx, e1, bd, e2, e3], b3, ?_⟩
      by_cases y : 1000000000000000000000000000000 < 3 + far <;> simp [m__is_wish, b__is_wish, it__is_wish_0, g__is_wish_1, m_is_number, b_is_number, tb_BOUNDS, List.lookup_cons, slD, cutD, HT.sIx, y1, y2, y3, y]
    · refine ⟨.tup [.str "triples", .int (3 + far), .int (0 - 1)], c3, by simp [m__law_wrong, b__law_wrong, slD, cutD, HT.sIx, e1, bd, e2, e3], b3, ?_⟩
      by_cases y : 1000000000000000000000000000000 < 3 + far <;> simp [m__is_wish, b__is_wish, it__is_wish_0, g__is_wish_1, m_is_number, b_is_number, tb_BOUNDS, List.lookup_cons, slD, cutD, HT.sIx, y1, y2, y3, y]
    · refine ⟨.tup [.str "triples", .int (3 + far), .int (1001 + far)], c3, by simp [m__law_wrong, b__law_wrong, slD, cutD, HT.sIx, e1, bd, e2, e3], b3, ?_⟩
      by_cases y : 1000000000000000000000000000000 < 3 + far <;> simp [m__is_wish, b__is_wish, it__is_wish_0, g__is_wish_1, m_is_number, b_is_number, tb_BOUNDS, List.lookup_cons, slD, cutD, HT.sIx, y1, y2, y3, y]
  · obtain ⟨z, c3, e3, b3, z0, z1⟩ := draw_spec b2 (many := 5) (by omega) (.inl (by decide))
    have hz : z = 0 ∨ z = 1 ∨ z = 2 ∨ z = 3 ∨ z = 4 := by omega
    rcases hz with rfl | rfl | rfl | rfl | rfl
    · refine ⟨.tup [.tup [.str "rounds", .int v]], c3, by simp [m__law_wrong, b__law_wrong, slD, cutD, HT.sIx, e1, bd, e2, e3], b3, ?_⟩
      simp [m__is_wish, b__is_wish, it__is_wish_0, g__is_wish_1, m_is_number, b_is_number, tb_BOUNDS, List.lookup_cons, slD, cutD, HT.sIx, q1, q2]
    · refine ⟨.tup [], c3, by simp [m__law_wrong, b__law_wrong, slD, cutD, HT.sIx, e1, bd, e2, e3], b3, ?_⟩
      simp [m__is_wish, b__is_wish, it__is_wish_0, g__is_wish_1, m_is_number, b_is_number, tb_BOUNDS, List.lookup_cons, slD, cutD, HT.sIx, q1, q2]
    · refine ⟨.tup [.tup []], c3, by simp [m__law_wrong, b__law_wrong, slD, cutD, HT.sIx, e1, bd, e2, e3], b3, ?_⟩
      simp [m__is_wish, b__is_wish, it__is_wish_0, g__is_wish_1, m_is_number, b_is_number, tb_BOUNDS, List.lookup_cons, slD, cutD, HT.sIx, q1, q2]
    · refine ⟨.tup [.str "symmetric", .int v], c3, by simp [m__law_wrong, b__law_wrong, slD, cutD, HT.sIx, e1, bd, e2, e3], b3, ?_⟩
      simp [m__is_wish, b__is_wish, it__is_wish_0, g__is_wish_1, m_is_number, b_is_number, tb_BOUNDS, List.lookup_cons, slD, cutD, HT.sIx, q1, q2]
    · refine ⟨.tup [.int v, .str "rounds"], c3, by simp [m__law_wrong, b__law_wrong, slD, cutD, HT.sIx, e1, bd, e2, e3], b3, ?_⟩
      simp [m__is_wish, b__is_wish, it__is_wish_0, g__is_wish_1, m_is_number, b_is_number, tb_BOUNDS, List.lookup_cons, slD, cutD, HT.sIx, q1, q2]
theorem wrong_triples {cs : List D} {v f : Int} (hb : Box cs) (h1 : 3 ≤ v) (h2 : v ≤ 1000000000000000000000000000000) (h3 : 1 ≤ f) (h4 : f ≤ 1000) : ∃ q cs', m__law_wrong [.non, .tup [.str "triples", .int v, .int f]] cs = .ok q cs' ∧ Box cs' ∧ m__is_wish [q] = .ok (.bl false) := by
  have E := E30_eq
  obtain ⟨k, c1, e1, b1, k0, k1⟩ := draw_spec hb (many := 12) (by omega) (.inl (by decide))
  obtain ⟨far, c2, e2, b2, f0, f1⟩ := great_spec b1 (many := E30) (by omega)
  have bd : m__law_bounds [.tup [.str "triples", .int v, .int f]] = .ok (.tup [.int 3, .int E30]) := by
    simp [m__law_bounds, b__law_bounds, dInts, lookK]
  have q1 : ¬ v < 3 := by omega
  have q2 : ¬ 1000000000000000000000000000000 < v := by omega
  have lg := log_ok (v := v) (by omega) (by omega)
  have q3 : ¬ f < 1 := by omega
  have q4 : ¬ 1000 < f := by omega
  have hk : k = 0 ∨ k = 1 ∨ k = 2 ∨ k = 3 ∨ k = 4 ∨ k = 5 ∨ k = 6 ∨ k = 7 ∨ k = 8 ∨ k = 9 ∨ k = 10 ∨ k = 11 := by omega
  rcases hk with rfl | rfl | rfl | rfl | rfl | rfl | rfl | rfl | rfl | rfl | rfl | rfl
  · have z : True := trivial
    refine ⟨.tup [.str "triples", .int (3 - 1), .int f], c2, by simp [m__law_wrong, b__law_wrong, slD, cutD, HT.sIx, e1, bd, e2], b2, ?_⟩
    simp [m__is_wish, b__is_wish, it__is_wish_0, g__is_wish_1, m_is_number, b_is_number, tb_BOUNDS, List.lookup_cons, slD, cutD, HT.sIx, q1, q2, q3, q4, z]
  · have z : (3 ≤ E30 + 1) ∧ 1000000000000000000000000000000 < E30 + 1 ∧ ¬ E30 + 1 < 3 := by omega
    refine ⟨.tup [.str "triples", .int (E30 + 1), .int f], c2, by simp [m__law_wrong, b__law_wrong, slD, cutD, HT.sIx, e1, bd, e2], b2, ?_⟩
    simp [m__is_wish, b__is_wish, it__is_wish_0, g__is_wish_1, m_is_number, b_is_number, tb_BOUNDS, List.lookup_cons, slD, cutD, HT.sIx, q1, q2, q3, q4, z.1, z.2.1, z.2.2]
  · have z : 0 - far < 3 := by omega
    have z2 : -far < 3 := by omega
    refine ⟨.tup [.str "triples", .int (0 - far), .int f], c2, by simp [m__law_wrong, b__law_wrong, slD, cutD, HT.sIx, e1, bd, e2], b2, ?_⟩
    simp [m__is_wish, b__is_wish, it__is_wish_0, g__is_wish_1, m_is_number, b_is_number, tb_BOUNDS, List.lookup_cons, slD, cutD, HT.sIx, q1, q2, q3, q4, z, z2]
  · have z : 1000000000000000000000000000000 < E30 + 1 + far ∧ ¬ E30 + 1 + far < 3 := by omega
    refine ⟨.tup [.str "triples", .int (E30 + 1 + far), .int f], c2, by simp [m__law_wrong, b__law_wrong, slD, cutD, HT.sIx, e1, bd, e2], b2, ?_⟩
    simp [m__is_wish, b__is_wish, it__is_wish_0, g__is_wish_1, m_is_number, b_is_number, tb_BOUNDS, List.lookup_cons, slD, cutD, HT.sIx, q1, q2, q3, q4, z.1, z.2]
  · have z : True := trivial
    refine ⟨.tup [.str "triples", .int v], c2, by simp [m__law_wrong, b__law_wrong, slD, cutD, HT.sIx, e1, bd, e2], b2, ?_⟩
    simp [m__is_wish, b__is_wish, it__is_wish_0, g__is_wish_1, m_is_number, b_is_number, tb_BOUNDS, List.lookup_cons, slD, cutD, HT.sIx, q1, q2, q3, q4, z]
  · obtain ⟨z, c3, e3, b3, z0, z1⟩ := draw_spec b2 (many := 9) (by omega) (.inl (by decide))
    refine ⟨.tup [.str "triples", .int v, .int f, .int (1 + z)], c3, by simp [m__law_wrong, b__law_wrong, slD, cutD, HT.sIx, e1, bd, e2, e3], b3, ?_⟩
    simp [m__is_wish, b__is_wish, it__is_wish_0, g__is_wish_1, m_is_number, b_is_number, tb_BOUNDS, List.lookup_cons, slD, cutD, HT.sIx, q1, q2, q3, q4]
  · have z : True := trivial
    refine ⟨.tup [.str "triples", .tup [.int v], .int f], c2, by simp [m__law_wrong, b__law_wrong, slD, cutD, HT.sIx, e1, bd, e2], b2, ?_⟩
    simp [m__is_wish, b__is_wish, it__is_wish_0, g__is_wish_1, m_is_number, b_is_number, tb_BOUNDS, List.lookup_cons, slD, cutD, HT.sIx, q1, q2, q3, q4, z]
  · refine ⟨.tup [.str "triples", .str (toString v), .int f], c2, by simp [m__law_wrong, b__law_wrong, slD, cutD, HT.sIx, e1, bd, e2, strD, lg], b2, ?_⟩
    simp [m__is_wish, b__is_wish, it__is_wish_0, g__is_wish_1, m_is_number, b_is_number, tb_BOUNDS, List.lookup_cons, slD, cutD, HT.sIx, q1, q2, q3, q4]
  · have z : True := trivial
    refine ⟨.tup [.int v, .int f], c2, by simp [m__law_wrong, b__law_wrong, slD, cutD, HT.sIx, e1, bd, e2], b2, ?_⟩
    simp [m__is_wish, b__is_wish, it__is_wish_0, g__is_wish_1, m_is_number, b_is_number, tb_BOUNDS, List.lookup_cons, slD, cutD, HT.sIx, q1, q2, q3, q4, z]
  · obtain ⟨z, c3, e3, b3, z0, z1⟩ := draw_spec b2 (many := 9) (by omega) (.inl (by decide))
    have hz : z = 0 ∨ z = 1 ∨ z = 2 ∨ z = 3 ∨ z = 4 ∨ z = 5 ∨ z = 6 ∨ z = 7 ∨ z = 8 := by omega
    rcases hz with rfl | rfl | rfl | rfl | rfl | rfl | rfl | rfl | rfl
    · refine ⟨.tup [.str "round", .int v, .int f], c3, by simp [m__law_wrong, b__law_wrong, slD, cutD, HT.sIx, e1, bd, e2, e3], b3, ?_⟩
      simp [m__is_wish, b__is_wish, it__is_wish_0, g__is_wish_1, m_is_number, b_is_number, tb_BOUNDS, List.lookup_cons, slD, cutD, HT.sIx, q1, q2, q3, q4]
    · refine ⟨.tup [.str "Rounds", .int v, .int f], c3, by simp [m__law_wrong, b__law_wrong, slD, cutD, HT.sIx, e1, bd, e2, e3], b3, ?_⟩
      simp [m__is_wish, b__is_wish, it__is_wish_0, g__is_wish_1, m_is_number, b_is_number, tb_BOUNDS, List.lookup_cons, slD, cutD, HT.sIx, q1, q2, q3, q4]
    · refine ⟨.tup [.str "ringed", .int v, .int f], c3, by simp [m__law_wrong, b__law_wrong, slD, cutD, HT.sIx, e1, bd, e2, e3], b3, ?_⟩
      simp [m__is_wish, b__is_wish, it__is_wish_0, g__is_wish_1, m_is_number, b_is_number, tb_BOUNDS, List.lookup_cons, slD, cutD, HT.sIx, q1, q2, q3, q4]
    · refine ⟨.tup [.str "", .int v, .int f], c3, by simp [m__law_wrong, b__law_wrong, slD, cutD, HT.sIx, e1, bd, e2, e3], b3, ?_⟩
      simp [m__is_wish, b__is_wish, it__is_wish_0, g__is_wish_1, m_is_number, b_is_number, tb_BOUNDS, List.lookup_cons, slD, cutD, HT.sIx, q1, q2, q3, q4]
    · refine ⟨.tup [.str "triple", .int v, .int f], c3, by simp [m__law_wrong, b__law_wrong, slD, cutD, HT.sIx, e1, bd, e2, e3], b3, ?_⟩
      simp [m__is_wish, b__is_wish, it__is_wish_0, g__is_wish_1, m_is_number, b_is_number, tb_BOUNDS, List.lookup_cons, slD, cutD, HT.sIx, q1, q2, q3, q4]
    · refine ⟨.tup [.str "four", .int v, .int f], c3, by simp [m__law_wrong, b__law_wrong, slD, cutD, HT.sIx, e1, bd, e2, e3], b3, ?_⟩
      simp [m__is_wish, b__is_wish, it__is_wish_0, g__is_wish_1, m_is_number, b_is_number, tb_BOUNDS, List.lookup_cons, slD, cutD, HT.sIx, q1, q2, q3, q4]
    · refine ⟨.tup [.str "mate", .int v, .int f], c3, by simp [m__law_wrong, b__law_wrong, slD, cutD, HT.sIx, e1, bd, e2, e3], b3, ?_⟩
      simp [m__is_wish, b__is_wish, it__is_wish_0, g__is_wish_1, m_is_number, b_is_number, tb_BOUNDS, List.lookup_cons, slD, cutD, HT.sIx, q1, q2, q3, q4]
    · refine ⟨.tup [.str "sign", .int v, .int f], c3, by simp [m__law_wrong, b__law_wrong, slD, cutD, HT.sIx, e1, bd, e2, e3], b3, ?_⟩
      simp [m__is_wish, b__is_wish, it__is_wish_0, g__is_wish_1, m_is_number, b_is_number, tb_BOUNDS, List.lookup_cons, slD, cutD, HT.sIx, q1, q2, q3, q4]
    · refine ⟨.tup [.str "plane", .int v, .int f], c3, by simp [m__law_wrong, b__law_wrong, slD, cutD, HT.sIx, e1, bd, e2, e3], b3, ?_⟩
      simp [m__is_wish, b__is_wish, it__is_wish_0, g__is_wish_1, m_is_number, b_is_number, tb_BOUNDS, List.lookup_cons, slD, cutD, HT.sIx, q1, q2, q3, q4]
  · obtain ⟨z, c3, e3, b3, z0, z1⟩ := draw_spec b2 (many := 4) (by omega) (.inl (by decide))
    have hz : z = 0 ∨ z = 1 ∨ z = 2 ∨ z = 3 := by omega
    have y1 : ¬ 3 + far < 3 := by omega
    have y2 : ¬ 1001 + far < 1 := by omega
    have y3 : 1000 < 1001 + far := by omega
    rcases hz with rfl | rfl | rfl | rfl
    · refine ⟨.tup [.str "triples", .int (3 + far), .int 0], c3, by simp [m__law_wrong, b__law_wrong, slD, cutD, HT.sIx, e1, bd, e2, e3], b3, ?_⟩
      by_cases y : 1000000000000000000000000000000 < 3 + far <;> simp [m__is_wish, b__is_wish, it__is_wish_0, g__is_wish_1, m_is_number, b_is_number, tb_BOUNDS, List.lookup_cons, slD, cutD, HT.sIx, y1, y2, y3, y]
    · refine ⟨.tup [.str "triples", .int (3 + far), .int 1001], c3, by simp [m__law_wrong, b__law_wrong, slD, cutD, HT.sIx, e1, bd, e2, e3], b3, ?_⟩
      by_cases y : 1000000000000000000000000000000 < 3 + far <;> simp [m__is_wish, b__is_wish, it__is_wish_0, g__is_wish_1, m_is_number, b_is_number, tb_BOUNDS, List.lookup_cons, slD, cutD, HT.sIx, y1, y2, y3, y]
    · refine ⟨.tup [.str "triples", .int (3 + far), .int (0 - 1)], c3, by simp [m__law_wrong, b__law_wrong, slD, cutD, HT.sIx, e1, bd, e2, e3], b3, ?_⟩
      by_cases y : 1000000000000000000000000000000 < 3 + far <;> simp [m__is_wish, b__is_wish, it__is_wish_0, g__is_wish_1, m_is_number, b_is_number, tb_BOUNDS, List.lookup_cons, slD, cutD, HT.sIx, y1, y2, y3, y]
    · refine ⟨.tup [.str "triples", .int (3 + far), .int (1001 + far)], c3, by simp [m__law_wrong, b__law_wrong, slD, cutD, HT.sIx, e1, bd, e2, e3], b3, ?_⟩
      by_cases y : 1000000000000000000000000000000 < 3 + far <;> simp [m__is_wish, b__is_wish, it__is_wish_0, g__is_wish_1, m_is_number, b_is_number, tb_BOUNDS, List.lookup_cons, slD, cutD, HT.sIx, y1, y2, y3, y]
  · obtain ⟨z, c3, e3, b3, z0, z1⟩ := draw_spec b2 (many := 5) (by omega) (.inl (by decide))
    have hz : z = 0 ∨ z = 1 ∨ z = 2 ∨ z = 3 ∨ z = 4 := by omega
    rcases hz with rfl | rfl | rfl | rfl | rfl
    · refine ⟨.tup [.tup [.str "triples", .int v, .int f]], c3, by simp [m__law_wrong, b__law_wrong, slD, cutD, HT.sIx, e1, bd, e2, e3], b3, ?_⟩
      simp [m__is_wish, b__is_wish, it__is_wish_0, g__is_wish_1, m_is_number, b_is_number, tb_BOUNDS, List.lookup_cons, slD, cutD, HT.sIx, q1, q2, q3, q4]
    · refine ⟨.tup [], c3, by simp [m__law_wrong, b__law_wrong, slD, cutD, HT.sIx, e1, bd, e2, e3], b3, ?_⟩
      simp [m__is_wish, b__is_wish, it__is_wish_0, g__is_wish_1, m_is_number, b_is_number, tb_BOUNDS, List.lookup_cons, slD, cutD, HT.sIx, q1, q2, q3, q4]
    · refine ⟨.tup [.tup []], c3, by simp [m__law_wrong, b__law_wrong, slD, cutD, HT.sIx, e1, bd, e2, e3], b3, ?_⟩
      simp [m__is_wish, b__is_wish, it__is_wish_0, g__is_wish_1, m_is_number, b_is_number, tb_BOUNDS, List.lookup_cons, slD, cutD, HT.sIx, q1, q2, q3, q4]
    · refine ⟨.tup [.str "symmetric", .int v], c3, by simp [m__law_wrong, b__law_wrong, slD, cutD, HT.sIx, e1, bd, e2, e3], b3, ?_⟩
      simp [m__is_wish, b__is_wish, it__is_wish_0, g__is_wish_1, m_is_number, b_is_number, tb_BOUNDS, List.lookup_cons, slD, cutD, HT.sIx, q1, q2, q3, q4]
    · refine ⟨.tup [.int v, .str "triples"], c3, by simp [m__law_wrong, b__law_wrong, slD, cutD, HT.sIx, e1, bd, e2, e3], b3, ?_⟩
      simp [m__is_wish, b__is_wish, it__is_wish_0, g__is_wish_1, m_is_number, b_is_number, tb_BOUNDS, List.lookup_cons, slD, cutD, HT.sIx, q1, q2, q3, q4]
theorem wrong_ring {cs : List D} {v : Int} (hb : Box cs) (h1 : 3 ≤ v) (h2 : v ≤ 1000000000000000000000000000000) : ∃ q cs', m__law_wrong [.non, .tup [.str "ring", .int v]] cs = .ok q cs' ∧ Box cs' ∧ m__is_wish [q] = .ok (.bl false) := by
  have E := E30_eq
  obtain ⟨k, c1, e1, b1, k0, k1⟩ := draw_spec hb (many := 12) (by omega) (.inl (by decide))
  obtain ⟨far, c2, e2, b2, f0, f1⟩ := great_spec b1 (many := E30) (by omega)
  have bd : m__law_bounds [.tup [.str "ring", .int v]] = .ok (.tup [.int 3, .int E30]) := by
    simp [m__law_bounds, b__law_bounds, dInts, lookK]
  have q1 : ¬ v < 3 := by omega
  have q2 : ¬ 1000000000000000000000000000000 < v := by omega
  have lg := log_ok (v := v) (by omega) (by omega)
  have hk : k = 0 ∨ k = 1 ∨ k = 2 ∨ k = 3 ∨ k = 4 ∨ k = 5 ∨ k = 6 ∨ k = 7 ∨ k = 8 ∨ k = 9 ∨ k = 10 ∨ k = 11 := by omega
  rcases hk with rfl | rfl | rfl | rfl | rfl | rfl | rfl | rfl | rfl | rfl | rfl | rfl
  · have z : True := trivial
    refine ⟨.tup [.str "ring", .int (3 - 1)], c2, by simp [m__law_wrong, b__law_wrong, slD, cutD, HT.sIx, e1, bd, e2], b2, ?_⟩
    simp [m__is_wish, b__is_wish, it__is_wish_0, g__is_wish_1, m_is_number, b_is_number, tb_BOUNDS, List.lookup_cons, slD, cutD, HT.sIx, q1, q2, z]
  · have z : (3 ≤ E30 + 1) ∧ 1000000000000000000000000000000 < E30 + 1 ∧ ¬ E30 + 1 < 3 := by omega
    refine ⟨.tup [.str "ring", .int (E30 + 1)], c2, by simp [m__law_wrong, b__law_wrong, slD, cutD, HT.sIx, e1, bd, e2], b2, ?_⟩
    simp [m__is_wish, b__is_wish, it__is_wish_0, g__is_wish_1, m_is_number, b_is_number, tb_BOUNDS, List.lookup_cons, slD, cutD, HT.sIx, q1, q2, z.1, z.2.1, z.2.2]
  · have z : 0 - far < 3 := by omega
    have z2 : -far < 3 := by omega
    refine ⟨.tup [.str "ring", .int (0 - far)], c2, by simp [m__law_wrong, b__law_wrong, slD, cutD, HT.sIx, e1, bd, e2], b2, ?_⟩
    simp [m__is_wish, b__is_wish, it__is_wish_0, g__is_wish_1, m_is_number, b_is_number, tb_BOUNDS, List.lookup_cons, slD, cutD, HT.sIx, q1, q2, z, z2]
  · have z : 1000000000000000000000000000000 < E30 + 1 + far ∧ ¬ E30 + 1 + far < 3 := by omega
    refine ⟨.tup [.str "ring", .int (E30 + 1 + far)], c2, by simp [m__law_wrong, b__law_wrong, slD, cutD, HT.sIx, e1, bd, e2], b2, ?_⟩
    simp [m__is_wish, b__is_wish, it__is_wish_0, g__is_wish_1, m_is_number, b_is_number, tb_BOUNDS, List.lookup_cons, slD, cutD, HT.sIx, q1, q2, z.1, z.2]
  · have z : True := trivial
    refine ⟨.tup [.str "ring"], c2, by simp [m__law_wrong, b__law_wrong, slD, cutD, HT.sIx, e1, bd, e2], b2, ?_⟩
    simp [m__is_wish, b__is_wish, it__is_wish_0, g__is_wish_1, m_is_number, b_is_number, tb_BOUNDS, List.lookup_cons, slD, cutD, HT.sIx, q1, q2, z]
  · obtain ⟨z, c3, e3, b3, z0, z1⟩ := draw_spec b2 (many := 9) (by omega) (.inl (by decide))
    refine ⟨.tup [.str "ring", .int v, .int (1 + z)], c3, by simp [m__law_wrong, b__law_wrong, slD, cutD, HT.sIx, e1, bd, e2, e3], b3, ?_⟩
    simp [m__is_wish, b__is_wish, it__is_wish_0, g__is_wish_1, m_is_number, b_is_number, tb_BOUNDS, List.lookup_cons, slD, cutD, HT.sIx, q1, q2]
  · have z : True := trivial
    refine ⟨.tup [.str "ring", .tup [.int v]], c2, by simp [m__law_wrong, b__law_wrong, slD, cutD, HT.sIx, e1, bd, e2], b2, ?_⟩
    simp [m__is_wish, b__is_wish, it__is_wish_0, g__is_wish_1, m_is_number, b_is_number, tb_BOUNDS, List.lookup_cons, slD, cutD, HT.sIx, q1, q2, z]
  · refine ⟨.tup [.str "ring", .str (toString v)], c2, by simp [m__law_wrong, b__law_wrong, slD, cutD, HT.sIx, e1, bd, e2, strD, lg], b2, ?_⟩
    simp [m__is_wish, b__is_wish, it__is_wish_0, g__is_wish_1, m_is_number, b_is_number, tb_BOUNDS, List.lookup_cons, slD, cutD, HT.sIx, q1, q2]
  · have z : True := trivial
    refine ⟨.tup [.int v], c2, by simp [m__law_wrong, b__law_wrong, slD, cutD, HT.sIx, e1, bd, e2], b2, ?_⟩
    simp [m__is_wish, b__is_wish, it__is_wish_0, g__is_wish_1, m_is_number, b_is_number, tb_BOUNDS, List.lookup_cons, slD, cutD, HT.sIx, q1, q2, z]
  · obtain ⟨z, c3, e3, b3, z0, z1⟩ := draw_spec b2 (many := 9) (by omega) (.inl (by decide))
    have hz : z = 0 ∨ z = 1 ∨ z = 2 ∨ z = 3 ∨ z = 4 ∨ z = 5 ∨ z = 6 ∨ z = 7 ∨ z = 8 := by omega
    rcases hz with rfl | rfl | rfl | rfl | rfl | rfl | rfl | rfl | rfl
    · refine ⟨.tup [.str "round", .int v], c3, by simp [m__law_wrong, b__law_wrong, slD, cutD, HT.sIx, e1, bd, e2, e3], b3, ?_⟩
      simp [m__is_wish, b__is_wish, it__is_wish_0, g__is_wish_1, m_is_number, b_is_number, tb_BOUNDS, List.lookup_cons, slD, cutD, HT.sIx, q1, q2]
    · refine ⟨.tup [.str "Rounds", .int v], c3, by simp [m__law_wrong, b__law_wrong, slD, cutD, HT.sIx, e1, bd, e2, e3], b3, ?_⟩
      simp [m__is_wish, b__is_wish, it__is_wish_0, g__is_wish_1, m_is_number, b_is_number, tb_BOUNDS, List.lookup_cons, slD, cutD, HT.sIx, q1, q2]
    · refine ⟨.tup [.str "ringed", .int v], c3, by simp [m__law_wrong, b__law_wrong, slD, cutD, HT.sIx, e1, bd, e2, e3], b3, ?_⟩
      simp [m__is_wish, b__is_wish, it__is_wish_0, g__is_wish_1, m_is_number, b_is_number, tb_BOUNDS, List.lookup_cons, slD, cutD, HT.sIx, q1, q2]
    · refine ⟨.tup [.str "", .int v], c3, by simp [m__law_wrong, b__law_wrong, slD, cutD, HT.sIx, e1, bd, e2, e3], b3, ?_⟩
      simp [m__is_wish, b__is_wish, it__is_wish_0, g__is_wish_1, m_is_number, b_is_number, tb_BOUNDS, List.lookup_cons, slD, cutD, HT.sIx, q1, q2]
    · refine ⟨.tup [.str "triple", .int v], c3, by simp [m__law_wrong, b__law_wrong, slD, cutD, HT.sIx, e1, bd, e2, e3], b3, ?_⟩
      simp [m__is_wish, b__is_wish, it__is_wish_0, g__is_wish_1, m_is_number, b_is_number, tb_BOUNDS, List.lookup_cons, slD, cutD, HT.sIx, q1, q2]
    · refine ⟨.tup [.str "four", .int v], c3, by simp [m__law_wrong, b__law_wrong, slD, cutD, HT.sIx, e1, bd, e2, e3], b3, ?_⟩
      simp [m__is_wish, b__is_wish, it__is_wish_0, g__is_wish_1, m_is_number, b_is_number, tb_BOUNDS, List.lookup_cons, slD, cutD, HT.sIx, q1, q2]
    · refine ⟨.tup [.str "mate", .int v], c3, by simp [m__law_wrong, b__law_wrong, slD, cutD, HT.sIx, e1, bd, e2, e3], b3, ?_⟩
      simp [m__is_wish, b__is_wish, it__is_wish_0, g__is_wish_1, m_is_number, b_is_number, tb_BOUNDS, List.lookup_cons, slD, cutD, HT.sIx, q1, q2]
    · refine ⟨.tup [.str "sign", .int v], c3, by simp [m__law_wrong, b__law_wrong, slD, cutD, HT.sIx, e1, bd, e2, e3], b3, ?_⟩
      simp [m__is_wish, b__is_wish, it__is_wish_0, g__is_wish_1, m_is_number, b_is_number, tb_BOUNDS, List.lookup_cons, slD, cutD, HT.sIx, q1, q2]
    · refine ⟨.tup [.str "plane", .int v], c3, by simp [m__law_wrong, b__law_wrong, slD, cutD, HT.sIx, e1, bd, e2, e3], b3, ?_⟩
      simp [m__is_wish, b__is_wish, it__is_wish_0, g__is_wish_1, m_is_number, b_is_number, tb_BOUNDS, List.lookup_cons, slD, cutD, HT.sIx, q1, q2]
  · obtain ⟨z, c3, e3, b3, z0, z1⟩ := draw_spec b2 (many := 4) (by omega) (.inl (by decide))
    have hz : z = 0 ∨ z = 1 ∨ z = 2 ∨ z = 3 := by omega
    have y1 : ¬ 3 + far < 3 := by omega
    have y2 : ¬ 1001 + far < 1 := by omega
    have y3 : 1000 < 1001 + far := by omega
    rcases hz with rfl | rfl | rfl | rfl
    · refine ⟨.tup [.str "triples", .int (3 + far), .int 0], c3, by simp [m__law_wrong, b__law_wrong, slD, cutD, HT.sIx, e1, bd, e2, e3], b3, ?_⟩
      by_cases y : 1000000000000000000000000000000 < 3 + far <;> simp [m__is_wish, b__is_wish, it__is_wish_0, g__is_wish_1, m_is_number, b_is_number, tb_BOUNDS, List.lookup_cons, slD, cutD, HT.sIx, y1, y2, y3, y]
    · refine ⟨.tup [.str "triples", .int (3 + far), .int 1001], c3, by simp [m__law_wrong, b__law_wrong, slD, cutD, HT.sIx, e1, bd, e2, e3], b3, ?_⟩
      by_cases y : 1000000000000000000000000000000 < 3 + far <;> simp [m__is_wish, b__is_wish, it__is_wish_0, g__is_wish_1, m_is_number, b_is_number, tb_BOUNDS, List.lookup_cons, slD, cutD, HT.sIx, y1, y2, y3, y]
    · refine ⟨.tup [.str "triples", .int (3 + far), .int (0 - 1)], c3, by simp [m__law_wrong, b__law_wrong, slD, cutD, HT.sIx, e1, bd, e2, e3], b3, ?_⟩
      by_cases y : 1000000000000000000000000000000 < 3 + far <;> simp [m__is_wish, b__is_wish, it__is_wish_0, g__is_wish_1, m_is_number, b_is_number, tb_BOUNDS, List.lookup_cons, slD, cutD, HT.sIx, y1, y2, y3, y]
    · refine ⟨.tup [.str "triples", .int (3 + far), .int (1001 + far)], c3, by simp [m__law_wrong, b__law_wrong, slD, cutD, HT.sIx, e1, bd, e2, e3], b3, ?_⟩
      by_cases y : 1000000000000000000000000000000 < 3 + far <;> simp [m__is_wish, b__is_wish, it__is_wish_0, g__is_wish_1, m_is_number, b_is_number, tb_BOUNDS, List.lookup_cons, slD, cutD, HT.sIx, y1, y2, y3, y]
  · obtain ⟨z, c3, e3, b3, z0, z1⟩ := draw_spec b2 (many := 5) (by omega) (.inl (by decide))
    have hz : z = 0 ∨ z = 1 ∨ z = 2 ∨ z = 3 ∨ z = 4 := by omega
    rcases hz with rfl | rfl | rfl | rfl | rfl
    · refine ⟨.tup [.tup [.str "ring", .int v]], c3, by simp [m__law_wrong, b__law_wrong, slD, cutD, HT.sIx, e1, bd, e2, e3], b3, ?_⟩
      simp [m__is_wish, b__is_wish, it__is_wish_0, g__is_wish_1, m_is_number, b_is_number, tb_BOUNDS, List.lookup_cons, slD, cutD, HT.sIx, q1, q2]
    · refine ⟨.tup [], c3, by simp [m__law_wrong, b__law_wrong, slD, cutD, HT.sIx, e1, bd, e2, e3], b3, ?_⟩
      simp [m__is_wish, b__is_wish, it__is_wish_0, g__is_wish_1, m_is_number, b_is_number, tb_BOUNDS, List.lookup_cons, slD, cutD, HT.sIx, q1, q2]
    · refine ⟨.tup [.tup []], c3, by simp [m__law_wrong, b__law_wrong, slD, cutD, HT.sIx, e1, bd, e2, e3], b3, ?_⟩
      simp [m__is_wish, b__is_wish, it__is_wish_0, g__is_wish_1, m_is_number, b_is_number, tb_BOUNDS, List.lookup_cons, slD, cutD, HT.sIx, q1, q2]
    · refine ⟨.tup [.str "symmetric", .int v], c3, by simp [m__law_wrong, b__law_wrong, slD, cutD, HT.sIx, e1, bd, e2, e3], b3, ?_⟩
      simp [m__is_wish, b__is_wish, it__is_wish_0, g__is_wish_1, m_is_number, b_is_number, tb_BOUNDS, List.lookup_cons, slD, cutD, HT.sIx, q1, q2]
    · refine ⟨.tup [.int v, .str "ring"], c3, by simp [m__law_wrong, b__law_wrong, slD, cutD, HT.sIx, e1, bd, e2, e3], b3, ?_⟩
      simp [m__is_wish, b__is_wish, it__is_wish_0, g__is_wish_1, m_is_number, b_is_number, tb_BOUNDS, List.lookup_cons, slD, cutD, HT.sIx, q1, q2]
theorem wrong_days {cs : List D} {v : Int} (hb : Box cs) (h1 : 3 ≤ v) (h2 : v ≤ 1000000000000000000000000000000) : ∃ q cs', m__law_wrong [.non, .tup [.str "days", .int v]] cs = .ok q cs' ∧ Box cs' ∧ m__is_wish [q] = .ok (.bl false) := by
  have E := E30_eq
  obtain ⟨k, c1, e1, b1, k0, k1⟩ := draw_spec hb (many := 12) (by omega) (.inl (by decide))
  obtain ⟨far, c2, e2, b2, f0, f1⟩ := great_spec b1 (many := E30) (by omega)
  have bd : m__law_bounds [.tup [.str "days", .int v]] = .ok (.tup [.int 3, .int E30]) := by
    simp [m__law_bounds, b__law_bounds, dInts, lookK]
  have q1 : ¬ v < 3 := by omega
  have q2 : ¬ 1000000000000000000000000000000 < v := by omega
  have lg := log_ok (v := v) (by omega) (by omega)
  have hk : k = 0 ∨ k = 1 ∨ k = 2 ∨ k = 3 ∨ k = 4 ∨ k = 5 ∨ k = 6 ∨ k = 7 ∨ k = 8 ∨ k = 9 ∨ k = 10 ∨ k = 11 := by omega
  rcases hk with rfl | rfl | rfl | rfl | rfl | rfl | rfl | rfl | rfl | rfl | rfl | rfl
  · have z : True := trivial
    refine ⟨.tup [.str "days", .int (3 - 1)], c2, by simp [m__law_wrong, b__law_wrong, slD, cutD, HT.sIx, e1, bd, e2], b2, ?_⟩
    simp [m__is_wish, b__is_wish, it__is_wish_0, g__is_wish_1, m_is_number, b_is_number, tb_BOUNDS, List.lookup_cons, slD, cutD, HT.sIx, q1, q2, z]
  · have z : (3 ≤ E30 + 1) ∧ 1000000000000000000000000000000 < E30 + 1 ∧ ¬ E30 + 1 < 3 := by omega
    refine ⟨.tup [.str "days", .int (E30 + 1)], c2, by simp [m__law_wrong, b__law_wrong, slD, cutD, HT.sIx, e1, bd, e2], b2, ?_⟩
    simp [m__is_wish, b__is_wish, it__is_wish_0, g__is_wish_1, m_is_number, b_is_number, tb_BOUNDS, List.lookup_cons, slD, cutD, HT.sIx, q1, q2, z.1, z.2.1, z.2.2]
  · have z : 0 - far < 3 := by omega
    have z2 : -far < 3 := by omega
    refine ⟨.tup [.str "days", .int (0 - far)], c2, by simp [m__law_wrong, b__law_wrong, slD, cutD, HT.sIx, e1, bd, e2], b2, ?_⟩
    simp [m__is_wish, b__is_wish, it__is_wish_0, g__is_wish_1, m_is_number, b_is_number, tb_BOUNDS, List.lookup_cons, slD, cutD, HT.sIx, q1, q2, z, z2]
  · have z : 1000000000000000000000000000000 < E30 + 1 + far ∧ ¬ E30 + 1 + far < 3 := by omega
    refine ⟨.tup [.str "days", .int (E30 + 1 + far)], c2, by simp [m__law_wrong, b__law_wrong, slD, cutD, HT.sIx, e1, bd, e2], b2, ?_⟩
    simp [m__is_wish, b__is_wish, it__is_wish_0, g__is_wish_1, m_is_number, b_is_number, tb_BOUNDS, List.lookup_cons, slD, cutD, HT.sIx, q1, q2, z.1, z.2]
  · have z : True := trivial
    refine ⟨.tup [.str "days"], c2, by simp [m__law_wrong, b__law_wrong, slD, cutD, HT.sIx, e1, bd, e2], b2, ?_⟩
    simp [m__is_wish, b__is_wish, it__is_wish_0, g__is_wish_1, m_is_number, b_is_number, tb_BOUNDS, List.lookup_cons, slD, cutD, HT.sIx, q1, q2, z]
  · obtain ⟨z, c3, e3, b3, z0, z1⟩ := draw_spec b2 (many := 9) (by omega) (.inl (by decide))
    refine ⟨.tup [.str "days", .int v, .int (1 + z)], c3, by simp [m__law_wrong, b__law_wrong, slD, cutD, HT.sIx, e1, bd, e2, e3], b3, ?_⟩
    simp [m__is_wish, b__is_wish, it__is_wish_0, g__is_wish_1, m_is_number, b_is_number, tb_BOUNDS, List.lookup_cons, slD, cutD, HT.sIx, q1, q2]
  · have z : True := trivial
    refine ⟨.tup [.str "days", .tup [.int v]], c2, by simp [m__law_wrong, b__law_wrong, slD, cutD, HT.sIx, e1, bd, e2], b2, ?_⟩
    simp [m__is_wish, b__is_wish, it__is_wish_0, g__is_wish_1, m_is_number, b_is_number, tb_BOUNDS, List.lookup_cons, slD, cutD, HT.sIx, q1, q2, z]
  · refine ⟨.tup [.str "days", .str (toString v)], c2, by simp [m__law_wrong, b__law_wrong, slD, cutD, HT.sIx, e1, bd, e2, strD, lg], b2, ?_⟩
    simp [m__is_wish, b__is_wish, it__is_wish_0, g__is_wish_1, m_is_number, b_is_number, tb_BOUNDS, List.lookup_cons, slD, cutD, HT.sIx, q1, q2]
  · have z : True := trivial
    refine ⟨.tup [.int v], c2, by simp [m__law_wrong, b__law_wrong, slD, cutD, HT.sIx, e1, bd, e2], b2, ?_⟩
    simp [m__is_wish, b__is_wish, it__is_wish_0, g__is_wish_1, m_is_number, b_is_number, tb_BOUNDS, List.lookup_cons, slD, cutD, HT.sIx, q1, q2, z]
  · obtain ⟨z, c3, e3, b3, z0, z1⟩ := draw_spec b2 (many := 9) (by omega) (.inl (by decide))
    have hz : z = 0 ∨ z = 1 ∨ z = 2 ∨ z = 3 ∨ z = 4 ∨ z = 5 ∨ z = 6 ∨ z = 7 ∨ z = 8 := by omega
    rcases hz with rfl | rfl | rfl | rfl | rfl | rfl | rfl | rfl | rfl
    · refine ⟨.tup [.str "round", .int v], c3, by simp [m__law_wrong, b__law_wrong, slD, cutD, HT.sIx, e1, bd, e2, e3], b3, ?_⟩
      simp [m__is_wish, b__is_wish, it__is_wish_0, g__is_wish_1, m_is_number, b_is_number, tb_BOUNDS, List.lookup_cons, slD, cutD, HT.sIx, q1, q2]
    · refine ⟨.tup [.str "Rounds", .int v], c3, by simp [m__law_wrong, b__law_wrong, slD, cutD, HT.sIx, e1, bd, e2, e3], b3, ?_⟩
      simp [m__is_wish, b__is_wish, it__is_wish_0, g__is_wish_1, m_is_number, b_is_number, tb_BOUNDS, List.lookup_cons, slD, cutD, HT.sIx, q1, q2]
    · refine ⟨.tup [.str "ringed", .int v], c3, by simp [m__law_wrong, b__law_wrong, slD, cutD, HT.sIx, e1, bd, e2, e3], b3, ?_⟩
      simp [m__is_wish, b__is_wish, it__is_wish_0, g__is_wish_1, m_is_number, b_is_number, tb_BOUNDS, List.lookup_cons, slD, cutD, HT.sIx, q1, q2]
    · refine ⟨.tup [.str "", .int v], c3, by simp [m__law_wrong, b__law_wrong, slD, cutD, HT.sIx, e1, bd, e2, e3], b3, ?_⟩
      simp [m__is_wish, b__is_wish, it__is_wish_0, g__is_wish_1, m_is_number, b_is_number, tb_BOUNDS, List.lookup_cons, slD, cutD, HT.sIx, q1, q2]
    · refine ⟨.tup [.str "triple", .int v], c3, by simp [m__law_wrong, b__law_wrong, slD, cutD, HT.sIx, e1, bd, e2, e3], b3, ?_⟩
      simp [m__is_wish, b__is_wish, it__is_wish_0, g__is_wish_1, m_is_number, b_is_number, tb_BOUNDS, List.lookup_cons, slD, cutD, HT.sIx, q1, q2]
    · refine ⟨.tup [.str "four", .int v], c3, by simp [m__law_wrong, b__law_wrong, slD, cutD, HT.sIx, e1, bd, e2, e3], b3, ?_⟩
      simp [m__is_wish, b__is_wish, it__is_wish_0, g__is_wish_1, m_is_number, b_is_number, tb_BOUNDS, List.lookup_cons, slD, cutD, HT.sIx, q1, q2]
    · refine ⟨.tup [.str "mate", .int v], c3, by simp [m__law_wrong, b__law_wrong, slD, cutD, HT.sIx, e1, bd, e2, e3], b3, ?_⟩
      simp [m__is_wish, b__is_wish, it__is_wish_0, g__is_wish_1, m_is_number, b_is_number, tb_BOUNDS, List.lookup_cons, slD, cutD, HT.sIx, q1, q2]
    · refine ⟨.tup [.str "sign", .int v], c3, by simp [m__law_wrong, b__law_wrong, slD, cutD, HT.sIx, e1, bd, e2, e3], b3, ?_⟩
      simp [m__is_wish, b__is_wish, it__is_wish_0, g__is_wish_1, m_is_number, b_is_number, tb_BOUNDS, List.lookup_cons, slD, cutD, HT.sIx, q1, q2]
    · refine ⟨.tup [.str "plane", .int v], c3, by simp [m__law_wrong, b__law_wrong, slD, cutD, HT.sIx, e1, bd, e2, e3], b3, ?_⟩
      simp [m__is_wish, b__is_wish, it__is_wish_0, g__is_wish_1, m_is_number, b_is_number, tb_BOUNDS, List.lookup_cons, slD, cutD, HT.sIx, q1, q2]
  · obtain ⟨z, c3, e3, b3, z0, z1⟩ := draw_spec b2 (many := 4) (by omega) (.inl (by decide))
    have hz : z = 0 ∨ z = 1 ∨ z = 2 ∨ z = 3 := by omega
    have y1 : ¬ 3 + far < 3 := by omega
    have y2 : ¬ 1001 + far < 1 := by omega
    have y3 : 1000 < 1001 + far := by omega
    rcases hz with rfl | rfl | rfl | rfl
    · refine ⟨.tup [.str "triples", .int (3 + far), .int 0], c3, by simp [m__law_wrong, b__law_wrong, slD, cutD, HT.sIx, e1, bd, e2, e3], b3, ?_⟩
      by_cases y : 1000000000000000000000000000000 < 3 + far <;> simp [m__is_wish, b__is_wish, it__is_wish_0, g__is_wish_1, m_is_number, b_is_number, tb_BOUNDS, List.lookup_cons, slD, cutD, HT.sIx, y1, y2, y3, y]
    · refine ⟨.tup [.str "triples", .int (3 + far), .int 1001], c3, by simp [m__law_wrong, b__law_wrong, slD, cutD, HT.sIx, e1, bd, e2, e3], b3, ?_⟩
      by_cases y : 1000000000000000000000000000000 < 3 + far <;> simp [m__is_wish, b__is_wish, it__is_wish_0, g__is_wish_1, m_is_number, b_is_number, tb_BOUNDS, List.lookup_cons, slD, cutD, HT.sIx, y1, y2, y3, y]
    · refine ⟨.tup [.str "triples", .int (3 + far), .int (0 - 1)], c3, by simp [m__law_wrong, b__law_wrong, slD, cutD, HT.sIx, e1, bd, e2, e3], b3, ?_⟩
      by_cases y : 1000000000000000000000000000000 < 3 + far <;> simp [m__is_wish, b__is_wish, it__is_wish_0, g__is_wish_1, m_is_number, b_is_number, tb_BOUNDS, List.lookup_cons, slD, cutD, HT.sIx, y1, y2, y3, y]
    · refine ⟨.tup [.str "triples", .int (3 + far), .int (1001 + far)], c3, by simp [m__law_wrong, b__law_wrong, slD, cutD, HT.sIx, e1, bd, e2, e3], b3, ?_⟩
      by_cases y : 1000000000000000000000000000000 < 3 + far <;> simp [m__is_wish, b__is_wish, it__is_wish_0, g__is_wish_1, m_is_number, b_is_number, tb_BOUNDS, List.lookup_cons, slD, cutD, HT.sIx, y1, y2, y3, y]
  · obtain ⟨z, c3, e3, b3, z0, z1⟩ := draw_spec b2 (many := 5) (by omega) (.inl (by decide))
    have hz : z = 0 ∨ z = 1 ∨ z = 2 ∨ z = 3 ∨ z = 4 := by omega
    rcases hz with rfl | rfl | rfl | rfl | rfl
    · refine ⟨.tup [.tup [.str "days", .int v]], c3, by simp [m__law_wrong, b__law_wrong, slD, cutD, HT.sIx, e1, bd, e2, e3], b3, ?_⟩
      simp [m__is_wish, b__is_wish, it__is_wish_0, g__is_wish_1, m_is_number, b_is_number, tb_BOUNDS, List.lookup_cons, slD, cutD, HT.sIx, q1, q2]
    · refine ⟨.tup [], c3, by simp [m__law_wrong, b__law_wrong, slD, cutD, HT.sIx, e1, bd, e2, e3], b3, ?_⟩
      simp [m__is_wish, b__is_wish, it__is_wish_0, g__is_wish_1, m_is_number, b_is_number, tb_BOUNDS, List.lookup_cons, slD, cutD, HT.sIx, q1, q2]
    · refine ⟨.tup [.tup []], c3, by simp [m__law_wrong, b__law_wrong, slD, cutD, HT.sIx, e1, bd, e2, e3], b3, ?_⟩
      simp [m__is_wish, b__is_wish, it__is_wish_0, g__is_wish_1, m_is_number, b_is_number, tb_BOUNDS, List.lookup_cons, slD, cutD, HT.sIx, q1, q2]
    · refine ⟨.tup [.str "symmetric", .int v], c3, by simp [m__law_wrong, b__law_wrong, slD, cutD, HT.sIx, e1, bd, e2, e3], b3, ?_⟩
      simp [m__is_wish, b__is_wish, it__is_wish_0, g__is_wish_1, m_is_number, b_is_number, tb_BOUNDS, List.lookup_cons, slD, cutD, HT.sIx, q1, q2]
    · refine ⟨.tup [.int v, .str "days"], c3, by simp [m__law_wrong, b__law_wrong, slD, cutD, HT.sIx, e1, bd, e2, e3], b3, ?_⟩
      simp [m__is_wish, b__is_wish, it__is_wish_0, g__is_wish_1, m_is_number, b_is_number, tb_BOUNDS, List.lookup_cons, slD, cutD, HT.sIx, q1, q2]
theorem wrong_fours {cs : List D} {v : Int} (hb : Box cs) (h1 : 4 ≤ v) (h2 : v ≤ 1000000000000000000000000000000) : ∃ q cs', m__law_wrong [.non, .tup [.str "fours", .int v]] cs = .ok q cs' ∧ Box cs' ∧ m__is_wish [q] = .ok (.bl false) := by
  have E := E30_eq
  obtain ⟨k, c1, e1, b1, k0, k1⟩ := draw_spec hb (many := 12) (by omega) (.inl (by decide))
  obtain ⟨far, c2, e2, b2, f0, f1⟩ := great_spec b1 (many := E30) (by omega)
  have bd : m__law_bounds [.tup [.str "fours", .int v]] = .ok (.tup [.int 4, .int E30]) := by
    simp [m__law_bounds, b__law_bounds, dInts, lookK]
  have q1 : ¬ v < 4 := by omega
  have q2 : ¬ 1000000000000000000000000000000 < v := by omega
  have lg := log_ok (v := v) (by omega) (by omega)
  have hk : k = 0 ∨ k = 1 ∨ k = 2 ∨ k = 3 ∨ k = 4 ∨ k = 5 ∨ k = 6 ∨ k = 7 ∨ k = 8 ∨ k = 9 ∨ k = 10 ∨ k = 11 := by omega
  rcases hk with rfl | rfl | rfl | rfl | rfl | rfl | rfl | rfl | rfl | rfl | rfl | rfl
  · have z : True := trivial
    refine ⟨.tup [.str "fours", .int (4 - 1)], c2, by simp [m__law_wrong, b__law_wrong, slD, cutD, HT.sIx, e1, bd, e2], b2, ?_⟩
    simp [m__is_wish, b__is_wish, it__is_wish_0, g__is_wish_1, m_is_number, b_is_number, tb_BOUNDS, List.lookup_cons, slD, cutD, HT.sIx, q1, q2, z]
  · have z : (4 ≤ E30 + 1) ∧ 1000000000000000000000000000000 < E30 + 1 ∧ ¬ E30 + 1 < 4 := by omega
    refine ⟨.tup [.str "fours", .int (E30 + 1)], c2, by simp [m__law_wrong, b__law_wrong, slD, cutD, HT.sIx, e1, bd, e2], b2, ?_⟩
    simp [m__is_wish, b__is_wish, it__is_wish_0, g__is_wish_1, m_is_number, b_is_number, tb_BOUNDS, List.lookup_cons, slD, cutD, HT.sIx, q1, q2, z.1, z.2.1, z.2.2]
  · have z : 0 - far < 4 := by omega
    have z2 : -far < 4 := by omega
    refine ⟨.tup [.str "fours", .int (0 - far)], c2, by simp [m__law_wrong, b__law_wrong, slD, cutD, HT.sIx, e1, bd, e2], b2, ?_⟩
    simp [m__is_wish, b__is_wish, it__is_wish_0, g__is_wish_1, m_is_number, b_is_number, tb_BOUNDS, List.lookup_cons, slD, cutD, HT.sIx, q1, q2, z, z2]
  · have z : 1000000000000000000000000000000 < E30 + 1 + far ∧ ¬ E30 + 1 + far < 4 := by omega
    refine ⟨.tup [.str "fours", .int (E30 + 1 + far)], c2, by simp [m__law_wrong, b__law_wrong, slD, cutD, HT.sIx, e1, bd, e2], b2, ?_⟩
    simp [m__is_wish, b__is_wish, it__is_wish_0, g__is_wish_1, m_is_number, b_is_number, tb_BOUNDS, List.lookup_cons, slD, cutD, HT.sIx, q1, q2, z.1, z.2]
  · have z : True := trivial
    refine ⟨.tup [.str "fours"], c2, by simp [m__law_wrong, b__law_wrong, slD, cutD, HT.sIx, e1, bd, e2], b2, ?_⟩
    simp [m__is_wish, b__is_wish, it__is_wish_0, g__is_wish_1, m_is_number, b_is_number, tb_BOUNDS, List.lookup_cons, slD, cutD, HT.sIx, q1, q2, z]
  · obtain ⟨z, c3, e3, b3, z0, z1⟩ := draw_spec b2 (many := 9) (by omega) (.inl (by decide))
    refine ⟨.tup [.str "fours", .int v, .int (1 + z)], c3, by simp [m__law_wrong, b__law_wrong, slD, cutD, HT.sIx, e1, bd, e2, e3], b3, ?_⟩
    simp [m__is_wish, b__is_wish, it__is_wish_0, g__is_wish_1, m_is_number, b_is_number, tb_BOUNDS, List.lookup_cons, slD, cutD, HT.sIx, q1, q2]
  · have z : True := trivial
    refine ⟨.tup [.str "fours", .tup [.int v]], c2, by simp [m__law_wrong, b__law_wrong, slD, cutD, HT.sIx, e1, bd, e2], b2, ?_⟩
    simp [m__is_wish, b__is_wish, it__is_wish_0, g__is_wish_1, m_is_number, b_is_number, tb_BOUNDS, List.lookup_cons, slD, cutD, HT.sIx, q1, q2, z]
  · refine ⟨.tup [.str "fours", .str (toString v)], c2, by simp [m__law_wrong, b__law_wrong, slD, cutD, HT.sIx, e1, bd, e2, strD, lg], b2, ?_⟩
    simp [m__is_wish, b__is_wish, it__is_wish_0, g__is_wish_1, m_is_number, b_is_number, tb_BOUNDS, List.lookup_cons, slD, cutD, HT.sIx, q1, q2]
  · have z : True := trivial
    refine ⟨.tup [.int v], c2, by simp [m__law_wrong, b__law_wrong, slD, cutD, HT.sIx, e1, bd, e2], b2, ?_⟩
    simp [m__is_wish, b__is_wish, it__is_wish_0, g__is_wish_1, m_is_number, b_is_number, tb_BOUNDS, List.lookup_cons, slD, cutD, HT.sIx, q1, q2, z]
  · obtain ⟨z, c3, e3, b3, z0, z1⟩ := draw_spec b2 (many := 9) (by omega) (.inl (by decide))
    have hz : z = 0 ∨ z = 1 ∨ z = 2 ∨ z = 3 ∨ z = 4 ∨ z = 5 ∨ z = 6 ∨ z = 7 ∨ z = 8 := by omega
    rcases hz with rfl | rfl | rfl | rfl | rfl | rfl | rfl | rfl | rfl
    · refine ⟨.tup [.str "round", .int v], c3, by simp [m__law_wrong, b__law_wrong, slD, cutD, HT.sIx, e1, bd, e2, e3], b3, ?_⟩
      simp [m__is_wish, b__is_wish, it__is_wish_0, g__is_wish_1, m_is_number, b_is_number, tb_BOUNDS, List.lookup_cons, slD, cutD, HT.sIx, q1, q2]
    · refine ⟨.tup [.str "Rounds", .int v], c3, by simp [m__law_wrong, b__law_wrong, slD, cutD, HT.sIx, e1, bd, e2, e3], b3, ?_⟩
      simp [m__is_wish, b__is_wish, it__is_wish_0, g__is_wish_1, m_is_number, b_is_number, tb_BOUNDS, List.lookup_cons, slD, cutD, HT.sIx, q1, q2]
    · refine ⟨.tup [.str "ringed", .int v], c3, by simp [m__law_wrong, b__law_wrong, slD, cutD, HT.sIx, e1, bd, e2, e3], b3, ?_⟩
      simp [m__is_wish, b__is_wish, it__is_wish_0, g__is_wish_1, m_is_number, b_is_number, tb_BOUNDS, List.lookup_cons, slD, cutD, HT.sIx, q1, q2]
    · refine ⟨.tup [.str "", .int v], c3, by simp [m__law_wrong, b__law_wrong, slD, cutD, HT.sIx, e1, bd, e2, e3], b3, ?_⟩
      simp [m__is_wish, b__is_wish, it__is_wish_0, g__is_wish_1, m_is_number, b_is_number, tb_BOUNDS, List.lookup_cons, slD, cutD, HT.sIx, q1, q2]
    · refine ⟨.tup [.str "triple", .int v], c3, by simp [m__law_wrong, b__law_wrong, slD, cutD, HT.sIx, e1, bd, e2, e3], b3, ?_⟩
      simp [m__is_wish, b__is_wish, it__is_wish_0, g__is_wish_1, m_is_number, b_is_number, tb_BOUNDS, List.lookup_cons, slD, cutD, HT.sIx, q1, q2]
    · refine ⟨.tup [.str "four", .int v], c3, by simp [m__law_wrong, b__law_wrong, slD, cutD, HT.sIx, e1, bd, e2, e3], b3, ?_⟩
      simp [m__is_wish, b__is_wish, it__is_wish_0, g__is_wish_1, m_is_number, b_is_number, tb_BOUNDS, List.lookup_cons, slD, cutD, HT.sIx, q1, q2]
    · refine ⟨.tup [.str "mate", .int v], c3, by simp [m__law_wrong, b__law_wrong, slD, cutD, HT.sIx, e1, bd, e2, e3], b3, ?_⟩
      simp [m__is_wish, b__is_wish, it__is_wish_0, g__is_wish_1, m_is_number, b_is_number, tb_BOUNDS, List.lookup_cons, slD, cutD, HT.sIx, q1, q2]
    · refine ⟨.tup [.str "sign", .int v], c3, by simp [m__law_wrong, b__law_wrong, slD, cutD, HT.sIx, e1, bd, e2, e3], b3, ?_⟩
      simp [m__is_wish, b__is_wish, it__is_wish_0, g__is_wish_1, m_is_number, b_is_number, tb_BOUNDS, List.lookup_cons, slD, cutD, HT.sIx, q1, q2]
    · refine ⟨.tup [.str "plane", .int v], c3, by simp [m__law_wrong, b__law_wrong, slD, cutD, HT.sIx, e1, bd, e2, e3], b3, ?_⟩
      simp [m__is_wish, b__is_wish, it__is_wish_0, g__is_wish_1, m_is_number, b_is_number, tb_BOUNDS, List.lookup_cons, slD, cutD, HT.sIx, q1, q2]
  · obtain ⟨z, c3, e3, b3, z0, z1⟩ := draw_spec b2 (many := 4) (by omega) (.inl (by decide))
    have hz : z = 0 ∨ z = 1 ∨ z = 2 ∨ z = 3 := by omega
    have y1 : ¬ 3 + far < 3 := by omega
    have y2 : ¬ 1001 + far < 1 := by omega
    have y3 : 1000 < 1001 + far := by omega
    rcases hz with rfl | rfl | rfl | rfl
    · refine ⟨.tup [.str "triples", .int (3 + far), .int 0], c3, by simp [m__law_wrong, b__law_wrong, slD, cutD, HT.sIx, e1, bd, e2, e3], b3, ?_⟩
      by_cases y : 1000000000000000000000000000000 < 3 + far <;> simp [m__is_wish, b__is_wish, it__is_wish_0, g__is_wish_1, m_is_number, b_is_number, tb_BOUNDS, List.lookup_cons, slD, cutD, HT.sIx, y1, y2, y3, y]
    · refine ⟨.tup [.str "triples", .int (3 + far), .int 1001], c3, by simp [m__law_wrong, b__law_wrong, slD, cutD, HT.sIx, e1, bd, e2, e3], b3, ?_⟩
      by_cases y : 1000000000000000000000000000000 < 3 + far <;> simp [m__is_wish, b__is_wish, it__is_wish_0, g__is_wish_1, m_is_number, b_is_number, tb_BOUNDS, List.lookup_cons, slD, cutD, HT.sIx, y1, y2, y3, y]
    · refine ⟨.tup [.str "triples", .int (3 + far), .int (0 - 1)], c3, by simp [m__law_wrong, b__law_wrong, slD, cutD, HT.sIx, e1, bd, e2, e3], b3, ?_⟩
      by_cases y : 1000000000000000000000000000000 < 3 + far <;> simp [m__is_wish, b__is_wish, it__is_wish_0, g__is_wish_1, m_is_number, b_is_number, tb_BOUNDS, List.lookup_cons, slD, cutD, HT.sIx, y1, y2, y3, y]
    · refine ⟨.tup [.str "triples", .int (3 + far), .int (1001 + far)], c3, by simp [m__law_wrong, b__law_wrong, slD, cutD, HT.sIx, e1, bd, e2, e3], b3, ?_⟩
      by_cases y : 1000000000000000000000000000000 < 3 + far <;> simp [m__is_wish, b__is_wish, it__is_wish_0, g__is_wish_1, m_is_number, b_is_number, tb_BOUNDS, List.lookup_cons, slD, cutD, HT.sIx, y1, y2, y3, y]
  · obtain ⟨z, c3, e3, b3, z0, z1⟩ := draw_spec b2 (many := 5) (by omega) (.inl (by decide))
    have hz : z = 0 ∨ z = 1 ∨ z = 2 ∨ z = 3 ∨ z = 4 := by omega
    rcases hz with rfl | rfl | rfl | rfl | rfl
    · refine ⟨.tup [.tup [.str "fours", .int v]], c3, by simp [m__law_wrong, b__law_wrong, slD, cutD, HT.sIx, e1, bd, e2, e3], b3, ?_⟩
      simp [m__is_wish, b__is_wish, it__is_wish_0, g__is_wish_1, m_is_number, b_is_number, tb_BOUNDS, List.lookup_cons, slD, cutD, HT.sIx, q1, q2]
    · refine ⟨.tup [], c3, by simp [m__law_wrong, b__law_wrong, slD, cutD, HT.sIx, e1, bd, e2, e3], b3, ?_⟩
      simp [m__is_wish, b__is_wish, it__is_wish_0, g__is_wish_1, m_is_number, b_is_number, tb_BOUNDS, List.lookup_cons, slD, cutD, HT.sIx, q1, q2]
    · refine ⟨.tup [.tup []], c3, by simp [m__law_wrong, b__law_wrong, slD, cutD, HT.sIx, e1, bd, e2, e3], b3, ?_⟩
      simp [m__is_wish, b__is_wish, it__is_wish_0, g__is_wish_1, m_is_number, b_is_number, tb_BOUNDS, List.lookup_cons, slD, cutD, HT.sIx, q1, q2]
    · refine ⟨.tup [.str "symmetric", .int v], c3, by simp [m__law_wrong, b__law_wrong, slD, cutD, HT.sIx, e1, bd, e2, e3], b3, ?_⟩
      simp [m__is_wish, b__is_wish, it__is_wish_0, g__is_wish_1, m_is_number, b_is_number, tb_BOUNDS, List.lookup_cons, slD, cutD, HT.sIx, q1, q2]
    · refine ⟨.tup [.int v, .str "fours"], c3, by simp [m__law_wrong, b__law_wrong, slD, cutD, HT.sIx, e1, bd, e2, e3], b3, ?_⟩
      simp [m__is_wish, b__is_wish, it__is_wish_0, g__is_wish_1, m_is_number, b_is_number, tb_BOUNDS, List.lookup_cons, slD, cutD, HT.sIx, q1, q2]
theorem wrong_mates {cs : List D} {v : Int} (hb : Box cs) (h1 : 1 ≤ v) (h2 : v ≤ 1000000000000000000000000000000) : ∃ q cs', m__law_wrong [.non, .tup [.str "mates", .int v]] cs = .ok q cs' ∧ Box cs' ∧ m__is_wish [q] = .ok (.bl false) := by
  have E := E30_eq
  obtain ⟨k, c1, e1, b1, k0, k1⟩ := draw_spec hb (many := 12) (by omega) (.inl (by decide))
  obtain ⟨far, c2, e2, b2, f0, f1⟩ := great_spec b1 (many := E30) (by omega)
  have bd : m__law_bounds [.tup [.str "mates", .int v]] = .ok (.tup [.int 1, .int E30]) := by
    simp [m__law_bounds, b__law_bounds, dInts, lookK]
  have q1 : ¬ v < 1 := by omega
  have q2 : ¬ 1000000000000000000000000000000 < v := by omega
  have lg := log_ok (v := v) (by omega) (by omega)
  have hk : k = 0 ∨ k = 1 ∨ k = 2 ∨ k = 3 ∨ k = 4 ∨ k = 5 ∨ k = 6 ∨ k = 7 ∨ k = 8 ∨ k = 9 ∨ k = 10 ∨ k = 11 := by omega
  rcases hk with rfl | rfl | rfl | rfl | rfl | rfl | rfl | rfl | rfl | rfl | rfl | rfl
  · have z : True := trivial
    refine ⟨.tup [.str "mates", .int (1 - 1)], c2, by simp [m__law_wrong, b__law_wrong, slD, cutD, HT.sIx, e1, bd, e2], b2, ?_⟩
    simp [m__is_wish, b__is_wish, it__is_wish_0, g__is_wish_1, m_is_number, b_is_number, tb_BOUNDS, List.lookup_cons, slD, cutD, HT.sIx, q1, q2, z]
  · have z : (1 ≤ E30 + 1) ∧ 1000000000000000000000000000000 < E30 + 1 ∧ ¬ E30 + 1 < 1 := by omega
    refine ⟨.tup [.str "mates", .int (E30 + 1)], c2, by simp [m__law_wrong, b__law_wrong, slD, cutD, HT.sIx, e1, bd, e2], b2, ?_⟩
    simp [m__is_wish, b__is_wish, it__is_wish_0, g__is_wish_1, m_is_number, b_is_number, tb_BOUNDS, List.lookup_cons, slD, cutD, HT.sIx, q1, q2, z.1, z.2.1, z.2.2]
  · have z : 0 - far < 1 := by omega
    have z2 : -far < 1 := by omega
    refine ⟨.tup [.str "mates", .int (0 - far)], c2, by simp [m__law_wrong, b__law_wrong, slD, cutD, HT.sIx, e1, bd, e2], b2, ?_⟩
    simp [m__is_wish, b__is_wish, it__is_wish_0, g__is_wish_1, m_is_number, b_is_number, tb_BOUNDS, List.lookup_cons, slD, cutD, HT.sIx, q1, q2, z, z2]
  · have z : 1000000000000000000000000000000 < E30 + 1 + far ∧ ¬ E30 + 1 + far < 1 := by omega
    refine ⟨.tup [.str "mates", .int (E30 + 1 + far)], c2, by simp [m__law_wrong, b__law_wrong, slD, cutD, HT.sIx, e1, bd, e2], b2, ?_⟩
    simp [m__is_wish, b__is_wish, it__is_wish_0, g__is_wish_1, m_is_number, b_is_number, tb_BOUNDS, List.lookup_cons, slD, cutD, HT.sIx, q1, q2, z.1, z.2]
  · have z : True := trivial
    refine ⟨.tup [.str "mates"], c2, by simp [m__law_wrong, b__law_wrong, slD, cutD, HT.sIx, e1, bd, e2], b2, ?_⟩
    simp [m__is_wish, b__is_wish, it__is_wish_0, g__is_wish_1, m_is_number, b_is_number, tb_BOUNDS, List.lookup_cons, slD, cutD, HT.sIx, q1, q2, z]
  · obtain ⟨z, c3, e3, b3, z0, z1⟩ := draw_spec b2 (many := 9) (by omega) (.inl (by decide))
    refine ⟨.tup [.str "mates", .int v, .int (1 + z)], c3, by simp [m__law_wrong, b__law_wrong, slD, cutD, HT.sIx, e1, bd, e2, e3], b3, ?_⟩
    simp [m__is_wish, b__is_wish, it__is_wish_0, g__is_wish_1, m_is_number, b_is_number, tb_BOUNDS, List.lookup_cons, slD, cutD, HT.sIx, q1, q2]
  · have z : True := trivial
    refine ⟨.tup [.str "mates", .tup [.int v]], c2, by simp [m__law_wrong, b__law_wrong, slD, cutD, HT.sIx, e1, bd, e2], b2, ?_⟩
    simp [m__is_wish, b__is_wish, it__is_wish_0, g__is_wish_1, m_is_number, b_is_number, tb_BOUNDS, List.lookup_cons, slD, cutD, HT.sIx, q1, q2, z]
  · refine ⟨.tup [.str "mates", .str (toString v)], c2, by simp [m__law_wrong, b__law_wrong, slD, cutD, HT.sIx, e1, bd, e2, strD, lg], b2, ?_⟩
    simp [m__is_wish, b__is_wish, it__is_wish_0, g__is_wish_1, m_is_number, b_is_number, tb_BOUNDS, List.lookup_cons, slD, cutD, HT.sIx, q1, q2]
  · have z : True := trivial
    refine ⟨.tup [.int v], c2, by simp [m__law_wrong, b__law_wrong, slD, cutD, HT.sIx, e1, bd, e2], b2, ?_⟩
    simp [m__is_wish, b__is_wish, it__is_wish_0, g__is_wish_1, m_is_number, b_is_number, tb_BOUNDS, List.lookup_cons, slD, cutD, HT.sIx, q1, q2, z]
  · obtain ⟨z, c3, e3, b3, z0, z1⟩ := draw_spec b2 (many := 9) (by omega) (.inl (by decide))
    have hz : z = 0 ∨ z = 1 ∨ z = 2 ∨ z = 3 ∨ z = 4 ∨ z = 5 ∨ z = 6 ∨ z = 7 ∨ z = 8 := by omega
    rcases hz with rfl | rfl | rfl | rfl | rfl | rfl | rfl | rfl | rfl
    · refine ⟨.tup [.str "round", .int v], c3, by simp [m__law_wrong, b__law_wrong, slD, cutD, HT.sIx, e1, bd, e2, e3], b3, ?_⟩
      simp [m__is_wish, b__is_wish, it__is_wish_0, g__is_wish_1, m_is_number, b_is_number, tb_BOUNDS, List.lookup_cons, slD, cutD, HT.sIx, q1, q2]
    · refine ⟨.tup [.str "Rounds", .int v], c3, by simp [m__law_wrong, b__law_wrong, slD, cutD, HT.sIx, e1, bd, e2, e3], b3, ?_⟩
      simp [m__is_wish, b__is_wish, it__is_wish_0, g__is_wish_1, m_is_number, b_is_number, tb_BOUNDS, List.lookup_cons, slD, cutD, HT.sIx, q1, q2]
    · refine ⟨.tup [.str "ringed", .int v], c3, by simp [m__law_wrong, b__law_wrong, slD, cutD, HT.sIx, e1, bd, e2, e3], b3, ?_⟩
      simp [m__is_wish, b__is_wish, it__is_wish_0, g__is_wish_1, m_is_number, b_is_number, tb_BOUNDS, List.lookup_cons, slD, cutD, HT.sIx, q1, q2]
    · refine ⟨.tup [.str "", .int v], c3, by simp [m__law_wrong, b__law_wrong, slD, cutD, HT.sIx, e1, bd, e2, e3], b3, ?_⟩
      simp [m__is_wish, b__is_wish, it__is_wish_0, g__is_wish_1, m_is_number, b_is_number, tb_BOUNDS, List.lookup_cons, slD, cutD, HT.sIx, q1, q2]
    · refine ⟨.tup [.str "triple", .int v], c3, by simp [m__law_wrong, b__law_wrong, slD, cutD, HT.sIx, e1, bd, e2, e3], b3, ?_⟩
      simp [m__is_wish, b__is_wish, it__is_wish_0, g__is_wish_1, m_is_number, b_is_number, tb_BOUNDS, List.lookup_cons, slD, cutD, HT.sIx, q1, q2]
    · refine ⟨.tup [.str "four", .int v], c3, by simp [m__law_wrong, b__law_wrong, slD, cutD, HT.sIx, e1, bd, e2, e3], b3, ?_⟩
      simp [m__is_wish, b__is_wish, it__is_wish_0, g__is_wish_1, m_is_number, b_is_number, tb_BOUNDS, List.lookup_cons, slD, cutD, HT.sIx, q1, q2]
    · refine ⟨.tup [.str "mate", .int v], c3, by simp [m__law_wrong, b__law_wrong, slD, cutD, HT.sIx, e1, bd, e2, e3], b3, ?_⟩
      simp [m__is_wish, b__is_wish, it__is_wish_0, g__is_wish_1, m_is_number, b_is_number, tb_BOUNDS, List.lookup_cons, slD, cutD, HT.sIx, q1, q2]
    · refine ⟨.tup [.str "sign", .int v], c3, by simp [m__law_wrong, b__law_wrong, slD, cutD, HT.sIx, e1, bd, e2, e3], b3, ?_⟩
      simp [m__is_wish, b__is_wish, it__is_wish_0, g__is_wish_1, m_is_number, b_is_number, tb_BOUNDS, List.lookup_cons, slD, cutD, HT.sIx, q1, q2]
    · refine ⟨.tup [.str "plane", .int v], c3, by simp [m__law_wrong, b__law_wrong, slD, cutD, HT.sIx, e1, bd, e2, e3], b3, ?_⟩
      simp [m__is_wish, b__is_wish, it__is_wish_0, g__is_wish_1, m_is_number, b_is_number, tb_BOUNDS, List.lookup_cons, slD, cutD, HT.sIx, q1, q2]
  · obtain ⟨z, c3, e3, b3, z0, z1⟩ := draw_spec b2 (many := 4) (by omega) (.inl (by decide))
    have hz : z = 0 ∨ z = 1 ∨ z = 2 ∨ z = 3 := by omega
    have y1 : ¬ 3 + far < 3 := by omega
    have y2 : ¬ 1001 + far < 1 := by omega
    have y3 : 1000 < 1001 + far := by omega
    rcases hz with rfl | rfl | rfl | rfl
    · refine ⟨.tup [.str "triples", .int (3 + far), .int 0], c3, by simp [m__law_wrong, b__law_wrong, slD, cutD, HT.sIx, e1, bd, e2, e3], b3, ?_⟩
      by_cases y : 1000000000000000000000000000000 < 3 + far <;> simp [m__is_wish, b__is_wish, it__is_wish_0, g__is_wish_1, m_is_number, b_is_number, tb_BOUNDS, List.lookup_cons, slD, cutD, HT.sIx, y1, y2, y3, y]
    · refine ⟨.tup [.str "triples", .int (3 + far), .int 1001], c3, by simp [m__law_wrong, b__law_wrong, slD, cutD, HT.sIx, e1, bd, e2, e3], b3, ?_⟩
      by_cases y : 1000000000000000000000000000000 < 3 + far <;> simp [m__is_wish, b__is_wish, it__is_wish_0, g__is_wish_1, m_is_number, b_is_number, tb_BOUNDS, List.lookup_cons, slD, cutD, HT.sIx, y1, y2, y3, y]
    · refine ⟨.tup [.str "triples", .int (3 + far), .int (0 - 1)], c3, by simp [m__law_wrong, b__law_wrong, slD, cutD, HT.sIx, e1, bd, e2, e3], b3, ?_⟩
      by_cases y : 1000000000000000000000000000000 < 3 + far <;> simp [m__is_wish, b__is_wish, it__is_wish_0, g__is_wish_1, m_is_number, b_is_number, tb_BOUNDS, List.lookup_cons, slD, cutD, HT.sIx, y1, y2, y3, y]
    · refine ⟨.tup [.str "triples", .int (3 + far), .int (1001 + far)], c3, by simp [m__law_wrong, b__law_wrong, slD, cutD, HT.sIx, e1, bd, e2, e3], b3, ?_⟩
      by_cases y : 1000000000000000000000000000000 < 3 + far <;> simp [m__is_wish, b__is_wish, it__is_wish_0, g__is_wish_1, m_is_number, b_is_number, tb_BOUNDS, List.lookup_cons, slD, cutD, HT.sIx, y1, y2, y3, y]
  · obtain ⟨z, c3, e3, b3, z0, z1⟩ := draw_spec b2 (many := 5) (by omega) (.inl (by decide))
    have hz : z = 0 ∨ z = 1 ∨ z = 2 ∨ z = 3 ∨ z = 4 := by omega
    rcases hz with rfl | rfl | rfl | rfl | rfl
    · refine ⟨.tup [.tup [.str "mates", .int v]], c3, by simp [m__law_wrong, b__law_wrong, slD, cutD, HT.sIx, e1, bd, e2, e3], b3, ?_⟩
      simp [m__is_wish, b__is_wish, it__is_wish_0, g__is_wish_1, m_is_number, b_is_number, tb_BOUNDS, List.lookup_cons, slD, cutD, HT.sIx, q1, q2]
    · refine ⟨.tup [], c3, by simp [m__law_wrong, b__law_wrong, slD, cutD, HT.sIx, e1, bd, e2, e3], b3, ?_⟩
      simp [m__is_wish, b__is_wish, it__is_wish_0, g__is_wish_1, m_is_number, b_is_number, tb_BOUNDS, List.lookup_cons, slD, cutD, HT.sIx, q1, q2]
    · refine ⟨.tup [.tup []], c3, by simp [m__law_wrong, b__law_wrong, slD, cutD, HT.sIx, e1, bd, e2, e3], b3, ?_⟩
      simp [m__is_wish, b__is_wish, it__is_wish_0, g__is_wish_1, m_is_number, b_is_number, tb_BOUNDS, List.lookup_cons, slD, cutD, HT.sIx, q1, q2]
    · refine ⟨.tup [.str "symmetric", .int v], c3, by simp [m__law_wrong, b__law_wrong, slD, cutD, HT.sIx, e1, bd, e2, e3], b3, ?_⟩
      simp [m__is_wish, b__is_wish, it__is_wish_0, g__is_wish_1, m_is_number, b_is_number, tb_BOUNDS, List.lookup_cons, slD, cutD, HT.sIx, q1, q2]
    · refine ⟨.tup [.int v, .str "mates"], c3, by simp [m__law_wrong, b__law_wrong, slD, cutD, HT.sIx, e1, bd, e2, e3], b3, ?_⟩
      simp [m__is_wish, b__is_wish, it__is_wish_0, g__is_wish_1, m_is_number, b_is_number, tb_BOUNDS, List.lookup_cons, slD, cutD, HT.sIx, q1, q2]
theorem wrong_signs {cs : List D} {v : Int} (hb : Box cs) (h1 : 1 ≤ v) (h2 : v ≤ 64) : ∃ q cs', m__law_wrong [.non, .tup [.str "signs", .int v]] cs = .ok q cs' ∧ Box cs' ∧ m__is_wish [q] = .ok (.bl false) := by
  have E := E30_eq
  obtain ⟨k, c1, e1, b1, k0, k1⟩ := draw_spec hb (many := 12) (by omega) (.inl (by decide))
  obtain ⟨far, c2, e2, b2, f0, f1⟩ := great_spec b1 (many := E30) (by omega)
  have bd : m__law_bounds [.tup [.str "signs", .int v]] = .ok (.tup [.int 1, .int 64]) := by
    simp [m__law_bounds, b__law_bounds, dInts, lookK]
  have q1 : ¬ v < 1 := by omega
  have q2 : ¬ 64 < v := by omega
  have lg := log_ok (v := v) (by omega) (by omega)
  have hk : k = 0 ∨ k = 1 ∨ k = 2 ∨ k = 3 ∨ k = 4 ∨ k = 5 ∨ k = 6 ∨ k = 7 ∨ k = 8 ∨ k = 9 ∨ k = 10 ∨ k = 11 := by omega
  rcases hk with rfl | rfl | rfl | rfl | rfl | rfl | rfl | rfl | rfl | rfl | rfl | rfl
  · have z : True := trivial
    refine ⟨.tup [.str "signs", .int (1 - 1)], c2, by simp [m__law_wrong, b__law_wrong, slD, cutD, HT.sIx, e1, bd, e2], b2, ?_⟩
    simp [m__is_wish, b__is_wish, it__is_wish_0, g__is_wish_1, m_is_number, b_is_number, tb_BOUNDS, List.lookup_cons, slD, cutD, HT.sIx, q1, q2, z]
  · have z : True := trivial
    refine ⟨.tup [.str "signs", .int (64 + 1)], c2, by simp [m__law_wrong, b__law_wrong, slD, cutD, HT.sIx, e1, bd, e2], b2, ?_⟩
    simp [m__is_wish, b__is_wish, it__is_wish_0, g__is_wish_1, m_is_number, b_is_number, tb_BOUNDS, List.lookup_cons, slD, cutD, HT.sIx, q1, q2, z]
  · have z : 0 - far < 1 := by omega
    have z2 : -far < 1 := by omega
    refine ⟨.tup [.str "signs", .int (0 - far)], c2, by simp [m__law_wrong, b__law_wrong, slD, cutD, HT.sIx, e1, bd, e2], b2, ?_⟩
    simp [m__is_wish, b__is_wish, it__is_wish_0, g__is_wish_1, m_is_number, b_is_number, tb_BOUNDS, List.lookup_cons, slD, cutD, HT.sIx, q1, q2, z, z2]
  · have z : 64 < 64 + 1 + far ∧ ¬ 64 + 1 + far < 1 := by omega
    have z3 : 64 < 65 + far ∧ ¬ 65 + far < 1 := by omega
    refine ⟨.tup [.str "signs", .int (64 + 1 + far)], c2, by simp [m__law_wrong, b__law_wrong, slD, cutD, HT.sIx, e1, bd, e2], b2, ?_⟩
    simp [m__is_wish, b__is_wish, it__is_wish_0, g__is_wish_1, m_is_number, b_is_number, tb_BOUNDS, List.lookup_cons, slD, cutD, HT.sIx, q1, q2, z.1, z.2, z3.1, z3.2]
  · have z : True := trivial
    refine ⟨.tup [.str "signs"], c2, by simp [m__law_wrong, b__law_wrong, slD, cutD, HT.sIx, e1, bd, e2], b2, ?_⟩
    simp [m__is_wish, b__is_wish, it__is_wish_0, g__is_wish_1, m_is_number, b_is_number, tb_BOUNDS, List.lookup_cons, slD, cutD, HT.sIx, q1, q2, z]
  · obtain ⟨z, c3, e3, b3, z0, z1⟩ := draw_spec b2 (many := 9) (by omega) (.inl (by decide))
    refine ⟨.tup [.str "signs", .int v, .int (1 + z)], c3, by simp [m__law_wrong, b__law_wrong, slD, cutD, HT.sIx, e1, bd, e2, e3], b3, ?_⟩
    simp [m__is_wish, b__is_wish, it__is_wish_0, g__is_wish_1, m_is_number, b_is_number, tb_BOUNDS, List.lookup_cons, slD, cutD, HT.sIx, q1, q2]
  · have z : True := trivial
    refine ⟨.tup [.str "signs", .tup [.int v]], c2, by simp [m__law_wrong, b__law_wrong, slD, cutD, HT.sIx, e1, bd, e2], b2, ?_⟩
    simp [m__is_wish, b__is_wish, it__is_wish_0, g__is_wish_1, m_is_number, b_is_number, tb_BOUNDS, List.lookup_cons, slD, cutD, HT.sIx, q1, q2, z]
  · refine ⟨.tup [.str "signs", .str (toString v)], c2, by simp [m__law_wrong, b__law_wrong, slD, cutD, HT.sIx, e1, bd, e2, strD, lg], b2, ?_⟩
    simp [m__is_wish, b__is_wish, it__is_wish_0, g__is_wish_1, m_is_number, b_is_number, tb_BOUNDS, List.lookup_cons, slD, cutD, HT.sIx, q1, q2]
  · have z : True := trivial
    refine ⟨.tup [.int v], c2, by simp [m__law_wrong, b__law_wrong, slD, cutD, HT.sIx, e1, bd, e2], b2, ?_⟩
    simp [m__is_wish, b__is_wish, it__is_wish_0, g__is_wish_1, m_is_number, b_is_number, tb_BOUNDS, List.lookup_cons, slD, cutD, HT.sIx, q1, q2, z]
  · obtain ⟨z, c3, e3, b3, z0, z1⟩ := draw_spec b2 (many := 9) (by omega) (.inl (by decide))
    have hz : z = 0 ∨ z = 1 ∨ z = 2 ∨ z = 3 ∨ z = 4 ∨ z = 5 ∨ z = 6 ∨ z = 7 ∨ z = 8 := by omega
    rcases hz with rfl | rfl | rfl | rfl | rfl | rfl | rfl | rfl | rfl
    · refine ⟨.tup [.str "round", .int v], c3, by simp [m__law_wrong, b__law_wrong, slD, cutD, HT.sIx, e1, bd, e2, e3], b3, ?_⟩
      simp [m__is_wish, b__is_wish, it__is_wish_0, g__is_wish_1, m_is_number, b_is_number, tb_BOUNDS, List.lookup_cons, slD, cutD, HT.sIx, q1, q2]
    · refine ⟨.tup [.str "Rounds", .int v], c3, by simp [m__law_wrong, b__law_wrong, slD, cutD, HT.sIx, e1, bd, e2, e3], b3, ?_⟩
      simp [m__is_wish, b__is_wish, it__is_wish_0, g__is_wish_1, m_is_number, b_is_number, tb_BOUNDS, List.lookup_cons, slD, cutD, HT.sIx, q1, q2]
    · refine ⟨.tup [.str "ringed", .int v], c3, by simp [m__law_wrong, b__law_wrong, slD, cutD, HT.sIx, e1, bd, e2, e3], b3, ?_⟩
      simp [m__is_wish, b__is_wish, it__is_wish_0, g__is_wish_1, m_is_number, b_is_number, tb_BOUNDS, List.lookup_cons, slD, cutD, HT.sIx, q1, q2]
    · refine ⟨.tup [.str "", .int v], c3, by simp [m__law_wrong, b__law_wrong, slD, cutD, HT.sIx, e1, bd, e2, e3], b3, ?_⟩
      simp [m__is_wish, b__is_wish, it__is_wish_0, g__is_wish_1, m_is_number, b_is_number, tb_BOUNDS, List.lookup_cons, slD, cutD, HT.sIx, q1, q2]
    · refine ⟨.tup [.str "triple", .int v], c3, by simp [m__law_wrong, b__law_wrong, slD, cutD, HT.sIx, e1, bd, e2, e3], b3, ?_⟩
      simp [m__is_wish, b__is_wish, it__is_wish_0, g__is_wish_1, m_is_number, b_is_number, tb_BOUNDS, List.lookup_cons, slD, cutD, HT.sIx, q1, q2]
    · refine ⟨.tup [.str "four", .int v], c3, by simp [m__law_wrong, b__law_wrong, slD, cutD, HT.sIx, e1, bd, e2, e3], b3, ?_⟩
      simp [m__is_wish, b__is_wish, it__is_wish_0, g__is_wish_1, m_is_number, b_is_number, tb_BOUNDS, List.lookup_cons, slD, cutD, HT.sIx, q1, q2]
    · refine ⟨.tup [.str "mate", .int v], c3, by simp [m__law_wrong, b__law_wrong, slD, cutD, HT.sIx, e1, bd, e2, e3], b3, ?_⟩
      simp [m__is_wish, b__is_wish, it__is_wish_0, g__is_wish_1, m_is_number, b_is_number, tb_BOUNDS, List.lookup_cons, slD, cutD, HT.sIx, q1, q2]
    · refine ⟨.tup [.str "sign", .int v], c3, by simp [m__law_wrong, b__law_wrong, slD, cutD, HT.sIx, e1, bd, e2, e3], b3, ?_⟩
      simp [m__is_wish, b__is_wish, it__is_wish_0, g__is_wish_1, m_is_number, b_is_number, tb_BOUNDS, List.lookup_cons, slD, cutD, HT.sIx, q1, q2]
    · refine ⟨.tup [.str "plane", .int v], c3, by simp [m__law_wrong, b__law_wrong, slD, cutD, HT.sIx, e1, bd, e2, e3], b3, ?_⟩
      simp [m__is_wish, b__is_wish, it__is_wish_0, g__is_wish_1, m_is_number, b_is_number, tb_BOUNDS, List.lookup_cons, slD, cutD, HT.sIx, q1, q2]
  · obtain ⟨z, c3, e3, b3, z0, z1⟩ := draw_spec b2 (many := 4) (by omega) (.inl (by decide))
    have hz : z = 0 ∨ z = 1 ∨ z = 2 ∨ z = 3 := by omega
    have y1 : ¬ 3 + far < 3 := by omega
    have y2 : ¬ 1001 + far < 1 := by omega
    have y3 : 1000 < 1001 + far := by omega
    rcases hz with rfl | rfl | rfl | rfl
    · refine ⟨.tup [.str "triples", .int (3 + far), .int 0], c3, by simp [m__law_wrong, b__law_wrong, slD, cutD, HT.sIx, e1, bd, e2, e3], b3, ?_⟩
      by_cases y : 1000000000000000000000000000000 < 3 + far <;> simp [m__is_wish, b__is_wish, it__is_wish_0, g__is_wish_1, m_is_number, b_is_number, tb_BOUNDS, List.lookup_cons, slD, cutD, HT.sIx, y1, y2, y3, y]
    · refine ⟨.tup [.str "triples", .int (3 + far), .int 1001], c3, by simp [m__law_wrong, b__law_wrong, slD, cutD, HT.sIx, e1, bd, e2, e3], b3, ?_⟩
      by_cases y : 1000000000000000000000000000000 < 3 + far <;> simp [m__is_wish, b__is_wish, it__is_wish_0, g__is_wish_1, m_is_number, b_is_number, tb_BOUNDS, List.lookup_cons, slD, cutD, HT.sIx, y1, y2, y3, y]
    · refine ⟨.tup [.str "triples", .int (3 + far), .int (0 - 1)], c3, by simp [m__law_wrong, b__law_wrong, slD, cutD, HT.sIx, e1, bd, e2, e3], b3, ?_⟩
      by_cases y : 1000000000000000000000000000000 < 3 + far <;> simp [m__is_wish, b__is_wish, it__is_wish_0, g__is_wish_1, m_is_number, b_is_number, tb_BOUNDS, List.lookup_cons, slD, cutD, HT.sIx, y1, y2, y3, y]
    · refine ⟨.tup [.str "triples", .int (3 + far), .int (1001 + far)], c3, by simp [m__law_wrong, b__law_wrong, slD, cutD, HT.sIx, e1, bd, e2, e3], b3, ?_⟩
      by_cases y : 1000000000000000000000000000000 < 3 + far <;> simp [m__is_wish, b__is_wish, it__is_wish_0, g__is_wish_1, m_is_number, b_is_number, tb_BOUNDS, List.lookup_cons, slD, cutD, HT.sIx, y1, y2, y3, y]
  · obtain ⟨z, c3, e3, b3, z0, z1⟩ := draw_spec b2 (many := 5) (by omega) (.inl (by decide))
    have hz : z = 0 ∨ z = 1 ∨ z = 2 ∨ z = 3 ∨ z = 4 := by omega
    rcases hz with rfl | rfl | rfl | rfl | rfl
    · refine ⟨.tup [.tup [.str "signs", .int v]], c3, by simp [m__law_wrong, b__law_wrong, slD, cutD, HT.sIx, e1, bd, e2, e3], b3, ?_⟩
      simp [m__is_wish, b__is_wish, it__is_wish_0, g__is_wish_1, m_is_number, b_is_number, tb_BOUNDS, List.lookup_cons, slD, cutD, HT.sIx, q1, q2]
    · refine ⟨.tup [], c3, by simp [m__law_wrong, b__law_wrong, slD, cutD, HT.sIx, e1, bd, e2, e3], b3, ?_⟩
      simp [m__is_wish, b__is_wish, it__is_wish_0, g__is_wish_1, m_is_number, b_is_number, tb_BOUNDS, List.lookup_cons, slD, cutD, HT.sIx, q1, q2]
    · refine ⟨.tup [.tup []], c3, by simp [m__law_wrong, b__law_wrong, slD, cutD, HT.sIx, e1, bd, e2, e3], b3, ?_⟩
      simp [m__is_wish, b__is_wish, it__is_wish_0, g__is_wish_1, m_is_number, b_is_number, tb_BOUNDS, List.lookup_cons, slD, cutD, HT.sIx, q1, q2]
    · refine ⟨.tup [.str "symmetric", .int v], c3, by simp [m__law_wrong, b__law_wrong, slD, cutD, HT.sIx, e1, bd, e2, e3], b3, ?_⟩
      simp [m__is_wish, b__is_wish, it__is_wish_0, g__is_wish_1, m_is_number, b_is_number, tb_BOUNDS, List.lookup_cons, slD, cutD, HT.sIx, q1, q2]
    · refine ⟨.tup [.int v, .str "signs"], c3, by simp [m__law_wrong, b__law_wrong, slD, cutD, HT.sIx, e1, bd, e2, e3], b3, ?_⟩
      simp [m__is_wish, b__is_wish, it__is_wish_0, g__is_wish_1, m_is_number, b_is_number, tb_BOUNDS, List.lookup_cons, slD, cutD, HT.sIx, q1, q2]
end K67

/-! The law. -/
namespace K67
open PySem MB
theorem x1 : isX xs "MadeError" "WishError" = some true := by decide +kernel
theorem x2 : isX xs "WishError" "WishError" = some true := by decide +kernel
theorem x3 : isX xs "ValueError" "WishError" = some true := by decide +kernel
theorem y0 : isXT xs ist_0 "WishError" = some false := by decide +kernel
theorem y1 : isXT xs ist_1 "WishError" = some false := by decide +kernel
theorem y2 : isXT xs ist_2 "WishError" = some false := by decide +kernel
theorem y3 : isXT xs ist_3 "WishError" = some false := by decide +kernel
theorem ev_stray : m__law_stray ⟨"WishError", []⟩ = .ok (.bl false) := by
  simp [m__law_stray, b__law_stray, y0, y1, y2, y3, x3]
variable {W p q : D} {L : List D}
theorem told_wrong_bars (h : m__is_wish [q] = .ok (.bl false)) : m__law_told [.str "bars", q, p] = .ok (.lst [.str "error", .bl true]) := by
  simp [m__law_told, b__law_told, m_bars, b_bars, m_listed_bars, b_listed_bars, m_looked_wish, b_looked_wish, h, x1, x2, ev_stray, noExc]
theorem told_wrong_first (h : m__is_wish [q] = .ok (.bl false)) : m__law_told [.str "first", q, p] = .ok (.lst [.str "error", .bl true]) := by
  simp [m__law_told, b__law_told, m_first_bar, b_first_bar, m_listed_bars, b_listed_bars, m_looked_wish, b_looked_wish, h, x1, x2, ev_stray, noExc]
theorem wrong_spec {cs : List D} (h : Val W L) (hb : Box cs) : ∃ q cs', m__law_wrong [.non, W] cs = .ok q cs' ∧ Box cs' ∧ m__is_wish [q] = .ok (.bl false) := by
  cases h with
  | rounds h1 h2 => exact wrong_rounds hb h1 h2
  | triples h1 h2 h3 h4 => exact wrong_triples hb h1 h2 h3 h4
  | ring h1 h2 => exact wrong_ring hb h1 h2
  | days h1 h2 => exact wrong_days hb h1 h2
  | fours h1 h2 => exact wrong_fours hb h1 h2
  | mates h1 h2 => exact wrong_mates hb h1 h2
  | signs h1 h2 => exact wrong_signs hb h1 h2
theorem papL_in (h : Val W L) {ps : List D} (hp : PapL ps) : ∀ p ∈ ps, ∃ b, inM p (.lst L) = some (.bl b) := fun p hm =>
  inM_ok (hp p hm) (fun x hx => (val_dat h x hx).mono (by omega)) (by omega)
def AllVal (ws : List D) : Prop := ∀ w ∈ ws, ∃ L, Val w L
theorem wishes_spec {cs : List D} (hb : Box cs) : ∃ ws cs', m__law_wishes [.non] cs = .ok (.lst ws) cs' ∧ Box cs' ∧ AllVal ws ∧ ws.length = 7 := by
  have E := E30_eq
  obtain ⟨n1, c1, e1, b1, l1, u1⟩ := number_spec hb (lo := 2) (hi := E30) (by omega)
  obtain ⟨n2, c2, e2, b2, l2, u2⟩ := number_spec b1 (lo := 3) (hi := E30) (by omega)
  obtain ⟨n3, c3, e3, b3, l3, u3⟩ := number_spec b2 (lo := 1) (hi := 1000) (by omega)
  obtain ⟨n4, c4, e4, b4, l4, u4⟩ := number_spec b3 (lo := 3) (hi := E30) (by omega)
  obtain ⟨n5, c5, e5, b5, l5, u5⟩ := number_spec b4 (lo := 3) (hi := E30) (by omega)
  obtain ⟨n6, c6, e6, b6, l6, u6⟩ := number_spec b5 (lo := 4) (hi := E30) (by omega)
  obtain ⟨n7, c7, e7, b7, l7, u7⟩ := number_spec b6 (lo := 1) (hi := E30) (by omega)
  obtain ⟨n8, c8, e8, b8, l8, u8⟩ := number_spec b7 (lo := 1) (hi := 64) (by omega)
  refine ⟨[.tup [.str "rounds", .int n1], .tup [.str "triples", .int n2, .int n3], .tup [.str "ring", .int n4], .tup [.str "days", .int n5], .tup [.str "fours", .int n6], .tup [.str "mates", .int n7], .tup [.str "signs", .int n8]], c8, ?_, b8, ?_, rfl⟩
  · simp [m__law_wishes, b__law_wishes, e1, e2, e3, e4, e5, e6, e7, e8]
  · intro w hw
    simp only [List.mem_cons, List.not_mem_nil, or_false] at hw
    rcases hw with rfl | rfl | rfl | rfl | rfl | rfl | rfl
    · exact ⟨_, .rounds l1 (by omega)⟩
    · exact ⟨_, .triples l2 (by omega) l3 u3⟩
    · exact ⟨_, .ring l4 (by omega)⟩
    · exact ⟨_, .days l5 (by omega)⟩
    · exact ⟨_, .fours l6 (by omega)⟩
    · exact ⟨_, .mates l7 (by omega)⟩
    · exact ⟨_, .signs l8 u8⟩
/-- the law's slots -/
def En7 (a : D) (cs : List D) (w x3 x4 x5 x6 : Option Sl) : En := [some (.val a), some (.own cs), w, x3, x4, x5, x6]
theorem loop1 {a : D} {w x4 x5 x6 : Option Sl} {ws : List D} (hw : AllVal ws) {cs : List D} (hb : Box cs) {x3 : Option Sl} : ∃ ρ', loopS (bNm 3) g_law_1 ws (En7 a cs w x3 x4 x5 x6) = .nx ρ' ∧ ∃ cs' y3, ρ' = En7 a cs' w y3 x4 x5 x6 ∧ Box cs' := by
  refine loopS_inv (I := fun ρ => ∃ cs' y3, ρ = En7 a cs' w y3 x4 x5 x6 ∧ Box cs') (fun W hm ρ hi => ?_) ⟨cs, x3, rfl, hb⟩
  obtain ⟨cs1, y3, rfl, h1⟩ := hi
  obtain ⟨L, hv⟩ := hw W hm
  obtain ⟨ps, c2, e2, b2, p2, _⟩ := papers_spec hv h1
  have e3 := ev_asked hv (papL_in hv p2)
  exact ⟨En7 a cs1 w (some (.val W)) x4 x5 x6, by simp [En7], En7 a c2 w (some (.val W)) x4 x5 x6, by simp [En7, g_law_1, e2, e3], _, _, rfl, b2⟩
theorem loop3 {a : D} {w x4 x5 x6 : Option Sl} {ws : List D} (hw : AllVal ws) {cs : List D} (hb : Box cs) {x3 : Option Sl} : ∃ ρ', loopS (bNm 3) g_law_7 ws (En7 a cs w x3 x4 x5 x6) = .nx ρ' ∧ ∃ cs' y3, ρ' = En7 a cs' w y3 x4 x5 x6 ∧ Box cs' := by
  refine loopS_inv (I := fun ρ => ∃ cs' y3, ρ = En7 a cs' w y3 x4 x5 x6 ∧ Box cs') (fun W hm ρ hi => ?_) ⟨cs, x3, rfl, hb⟩
  obtain ⟨cs1, y3, rfl, h1⟩ := hi
  obtain ⟨L, hv⟩ := hw W hm
  obtain ⟨ps, c2, e2, b2, p2, _⟩ := papers_spec hv h1
  have e3 := ev_asked hv (papL_in hv p2)
  exact ⟨En7 a cs1 w (some (.val W)) x4 x5 x6, by simp [En7], En7 a c2 w (some (.val W)) x4 x5 x6, by simp [En7, g_law_7, e2, e3], _, _, rfl, b2⟩
theorem loop4 {a : D} {w x4 x5 x6 : Option Sl} {ws : List D} (hw : AllVal ws) {cs : List D} {x3 : Option Sl} : ∃ ρ', loopS (bNm 3) g_law_9 ws (En7 a cs w x3 x4 x5 x6) = .nx ρ' ∧ ∃ y3, ρ' = En7 a cs w y3 x4 x5 x6 := by
  refine loopS_inv (I := fun ρ => ∃ y3, ρ = En7 a cs w y3 x4 x5 x6) (fun W hm ρ hi => ?_) ⟨x3, rfl⟩
  obtain ⟨y3, rfl⟩ := hi
  obtain ⟨L, hv⟩ := hw W hm
  have po : PyData.strOk ("point" : Str) = true := by decide +kernel
  have hp : PapL [.tup [], .tup [.str "point"]] := fun p hp => by
    simp only [List.mem_cons, List.not_mem_nil, or_false] at hp
    rcases hp with rfl | rfl
    · exact dat0
    · exact (dat1 (.str po)).mono (n := 1) (by omega)
  have e3 := ev_asked hv (papL_in hv hp)
  exact ⟨En7 a cs w (some (.val W)) x4 x5 x6, by simp [En7], En7 a cs w (some (.val W)) x4 x5 x6, by simp [En7, g_law_9, e3], _, rfl⟩
theorem inner {a : D} {w x3 x6 : Option Sl} {q : D} (hq : m__is_wish [q] = .ok (.bl false)) {cs ps : List D} {x5 : Option Sl} : ∃ ρ', loopS (bNm 5) g_law_3 ps (En7 a cs w x3 (some (.val q)) x5 x6) = .nx ρ' ∧ ∃ y5, ρ' = En7 a cs w x3 (some (.val q)) y5 x6 := by
  refine loopS_inv (I := fun ρ => ∃ y5, ρ = En7 a cs w x3 (some (.val q)) y5 x6) (fun p hm ρ hi => ?_) ⟨x5, rfl⟩
  obtain ⟨y5, rfl⟩ := hi
  have d4 := same_refl dat_error
  exact ⟨En7 a cs w x3 (some (.val q)) (some (.val p)) x6, by simp [En7], En7 a cs w x3 (some (.val q)) (some (.val p)) x6, by simp [En7, g_law_3, told_wrong_bars hq, d4], _, rfl⟩
theorem loop2 {a : D} {w x6 : Option Sl} {ws : List D} (hw : AllVal ws) {cs : List D} (hb : Box cs) {x3 x4 x5 : Option Sl} : ∃ ρ', loopS (bNm 3) g_law_5 ws (En7 a cs w x3 x4 x5 x6) = .nx ρ' ∧ ∃ cs' y3 y4 y5, ρ' = En7 a cs' w y3 y4 y5 x6 ∧ Box cs' := by
  refine loopS_inv (I := fun ρ => ∃ cs' y3 y4 y5, ρ = En7 a cs' w y3 y4 y5 x6 ∧ Box cs') (fun W hm ρ hi => ?_) ⟨cs, x3, x4, x5, rfl, hb⟩
  obtain ⟨cs1, y3, y4, y5, rfl, h1⟩ := hi
  obtain ⟨L, hv⟩ := hw W hm
  obtain ⟨q, c2, e2, b2, hq⟩ := wrong_spec hv h1
  obtain ⟨ps, c3, e3, b3, p3, l3⟩ := papers_spec hv b2
  obtain ⟨z, c4, e4, b4, z0, z1⟩ := draw_spec b3 (many := 26) (by omega) (.inl (by decide))
  obtain ⟨d, e5, m5⟩ := atI_mem (l := ps) z0 (by omega)
  obtain ⟨ρ', e6, y5', rfl⟩ := inner (a := a) (w := w) (x3 := some (.val W)) (x6 := x6) hq (cs := c4) (ps := [.tup [.str "point"], d]) (x5 := y5)
  have d4 := same_refl dat_error
  have e7 := told_wrong_first (p := .tup []) hq
  unfold En7 at e6
  exact ⟨En7 a cs1 w (some (.val W)) y4 y5 x6, by simp [En7], En7 a c4 w (some (.val W)) (some (.val q)) y5' x6, by simp [-loopS_cs, En7, g_law_5, it_law_2, e2, e3, e4, e5, e6, e7, d4], _, _, _, _, rfl, b4⟩
theorem known_val : AllVal ([.tup [.str "ring", .int 9], .tup [.str "mates", .int 2], .tup [.str "mates", .int 6], .tup [.str "signs", .int 1], .tup [.str "signs", .int 2], .tup [.str "signs", .int 3], .tup [.str "signs", .int 4]] ++ [.tup [.str "ring", .int 8], .tup [.str "triples", .int 8, .int 1], .tup [.str "fours", .int 6], .tup [.str "days", .int 4], .tup [.str "rounds", .int 3], .tup [.str "triples", .int 5, .int 3]]) := by
  intro w hw
  simp only [List.cons_append, List.nil_append, List.mem_cons, List.not_mem_nil, or_false] at hw
  rcases hw with rfl | rfl | rfl | rfl | rfl | rfl | rfl | rfl | rfl | rfl | rfl | rfl | rfl
  · exact ⟨_, .ring (by omega) (by omega)⟩
  · exact ⟨_, .mates (by omega) (by omega)⟩
  · exact ⟨_, .mates (by omega) (by omega)⟩
  · exact ⟨_, .signs (by omega) (by omega)⟩
  · exact ⟨_, .signs (by omega) (by omega)⟩
  · exact ⟨_, .signs (by omega) (by omega)⟩
  · exact ⟨_, .signs (by omega) (by omega)⟩
  · exact ⟨_, .ring (by omega) (by omega)⟩
  · exact ⟨_, .triples (by omega) (by omega) (by omega) (by omega)⟩
  · exact ⟨_, .fours (by omega) (by omega)⟩
  · exact ⟨_, .days (by omega) (by omega)⟩
  · exact ⟨_, .rounds (by omega) (by omega)⟩
  · exact ⟨_, .triples (by omega) (by omega) (by omega) (by omega)⟩
theorem plain (ns : List Int) (h : ns.length ≤ 63) : m_law [.scr ns] = .ok (.bl true) := by
  obtain ⟨cs, e0, b0⟩ := pool_spec h
  obtain ⟨ws, c1, e1, b1, v1, l1⟩ := wishes_spec b0
  obtain ⟨r2, e2, c2, y3, rfl, b2⟩ := loop1 (a := .scr ns) (w := some (.val (.lst ws))) (x4 := none) (x5 := none) (x6 := none) v1 b1 (x3 := none)
  obtain ⟨r3, e3, c3, z3, z4, z5, rfl, b3⟩ := loop2 (a := .scr ns) (w := some (.val (.lst ws))) (x6 := none) v1 b2 (x3 := y3) (x4 := none) (x5 := none)
  let kn : List D := [.tup [.str "ring", .int 9], .tup [.str "mates", .int 2], .tup [.str "mates", .int 6], .tup [.str "signs", .int 1], .tup [.str "signs", .int 2], .tup [.str "signs", .int 3], .tup [.str "signs", .int 4]] ++ [.tup [.str "ring", .int 8], .tup [.str "triples", .int 8, .int 1], .tup [.str "fours", .int 6], .tup [.str "days", .int 4], .tup [.str "rounds", .int 3], .tup [.str "triples", .int 5, .int 3]]
  obtain ⟨r4, e4, c4, u3, rfl, b4⟩ := loop3 (a := .scr ns) (w := some (.val (.lst ws))) (x4 := z4) (x5 := z5) (x6 := some (.val (.lst kn))) known_val b3 (x3 := z3)
  obtain ⟨r5, e5, t3, rfl⟩ := loop4 (a := .scr ns) (w := some (.val (.lst ws))) (x4 := z4) (x5 := z5) (x6 := some (.val (.lst kn))) v1 (cs := c4) (x3 := u3)
  unfold En7 at e2 e3 e4 e5
  simp only [kn, List.cons_append, List.nil_append] at e4 e5
  simp [-loopS_cs, m_law, b_law, it_law_0, it_law_4, it_law_6, it_law_8, e0, e1, e2, e3, e4, e5]
end K67

open PySem PySem.W PySem.Calls PyProof.Rows
theorem PySem.Challenge.cw_madeorbarred_k67_bars_of_six_kinds_holds : PySem.Challenge.rw_madeorbarred_k67_bars_of_six_kinds.Holds := by
  w_on; o_law
  refine HandSHeadRun.head_imp (r := OpenLaw.row PySem.Challenge.rw_madeorbarred_k67_bars_of_six_kinds) (q := view (OpenLaw.row PySem.Challenge.rw_madeorbarred_k67_bars_of_six_kinds).prog [0, 78]) (H := K67.hk) (ob := K67.ob) (M := 9000) (loose := K67.names) (d := HandSHeadRun.topDef (OpenLaw.row PySem.Challenge.rw_madeorbarred_k67_bars_of_six_kinds).prog 78) (kwd := []) K67.ob_eq
    K67.run (by kernel_rfl) (by kernel_rfl) (by kernel_rfl) (by rfl) (by first | assumption | decide +kernel) (by decide +kernel) ⟨rfl, rfl, rfl, rfl, rfl, by decide +kernel⟩ ?hw ?hc
  case hw => w_witness2
  case hc =>
    refine MB.walk_mb (l := PySem.Challenge.rw_madeorbarred_k67_bars_of_six_kinds) (n := 63) (k := 8) (x := "script") rfl (by decide) (by kernel_rfl) ⟨rfl, by decide, by decide⟩ ?F (fun ns h _ => K67.plain ns h)
    intro w mg fa h Y G hmg0
    obtain ⟨K, KX, c⟩ := Y
    have hmg : mg ("law" : PySem.Str) = some (.ref fa) := by
      have e : (HandSHeadRun.topDef (OpenLaw.row PySem.Challenge.rw_madeorbarred_k67_bars_of_six_kinds).prog 78).name = ("law" : PySem.Str) := by kernel_rfl
      rw [← e]
      exact hmg0
    have M := K67.mg_of KX G c
    obtain ⟨fd, F⟩ := K67.law_fd c
    have e := hmg.symm.trans M.gd_law
    cases e
    have b := L2.FunD.bindsA (ps := ["script"]) F fun _ _ _ _ _ _ us hl => match us, hl with | [_], _ => rfl
    exact ⟨K, fd, KX, fun s v => b s [v] rfl, fun base _ _ => K67.all_df M c F⟩

