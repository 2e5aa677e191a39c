import PyProof.Rows.All
import Wide.All
import OpenK.AllK
import Wide.FinOn
import KE.KStateDown
import HandS.ForMost
import HandS.ExcCtx
import HandS.HotCalls
import HandS.CallSlots
import HandS.IsInst
import HandS.ExcField
import HandS.ExcIs
import HandS.Wide
import HandS.TupAny
import HandS.Flow
import HandS.SortInts
import HandS.WideBits
import HandS.HeadHook1
import HandS.Defaults
import HandS.HeadHook2
import KE.KExcSuper
import KE.KSuperObj
import KE.KSuper
import HandS.ExcInit
import HandS.CallLocal
import HandS.BoundList
import PyProof.MeetsSeq
import PyProof.EqAt
import PyProof.DictKinds
import PyProof.Dict
import HandS.HeadHook4
import HandS.Ends
import HandS.EndBits
import HandS.HeadEnd
import HandS.Words
import HandS.Head0
import HandS.Head1
import HandS.Head2
import Wide.Once
import PySem.Challenge.RW_madeorbarred_k39_difference_triples
set_option Elab.async false
set_option linter.all false
set_option maxRecDepth 100000
set_option maxHeartbeats 0
/-! A layer by values: what a def's body computes, as a plain function over data trees, with rules that tie each construct to it. -/
namespace MB
open PySem PySem.Spec PyProof.Rows L2
abbrev Fg := PySem.W.Frag
abbrev St := L2.St

/-! ### data -/
inductive D where
  | non | bl (b : Bool) | int (i : Int) | str (x : Str) | tup (xs : List D) | lst (xs : List D) | fn (x : Str) | scr (ns : List Int)

mutual
inductive DV (K : Fg) (H : Hp) : V → D → Prop
  | non : DV K H .non .non
  | bl (b : Bool) : DV K H (.bl b) (.bl b)
  | int (i : Int) : DV K H (.int i) (.int i)
  | str (x : Str) : DV K H (.str x) (.str x)
  | tup {a : Addr} {vs : List V} {ds : List D} : SqT K H a vs → DVs K H vs ds → DV K H (.ref a) (.tup ds)
  | lst {a : Addr} {vs : List V} {ds : List D} : H a = some (.lst vs) → DVs K H vs ds → DV K H (.ref a) (.lst ds)
  | fn (x : Str) : DV K H (.ref (He.ga K x)) (.fn x)
  | scr {a : Addr} {ns : List Int} : SqL K H a (ns.map V.int) → DV K H (.ref a) (.scr ns)
inductive DVs (K : Fg) (H : Hp) : List V → List D → Prop
  | nil : DVs K H [] []
  | cons {v : V} {vs : List V} {d : D} {ds : List D} : DV K H v d → DVs K H vs ds → DVs K H (v :: vs) (d :: ds)
end

theorem sqT_mono {K : Fg} {H H' : Hp} (s : Same H H') {a : Addr} {xs : List V} (h : SqT K H a xs) : SqT K H' a xs := by
  rcases h with (h | ⟨o, h⟩) | h
  · exact .inl (.inl (s _ _ h))
  · exact .inl (.inr ⟨o, s _ _ h⟩)
  · exact .inr h

section
variable {K : Fg} {H H' : Hp}
mutual
theorem DV.mono (s : Same H H') : ∀ (d : D) (v : V), DV K H v d → DV K H' v d
  | .non, _, h => by cases h; exact .non
  | .bl b, _, h => by cases h; exact .bl b
  | .int i, _, h => by cases h; exact .int i
  | .str x, _, h => by cases h; exact .str x
  | .fn x, _, h => by cases h; exact .fn x
  | .scr ns, _, h => by
    cases h with
    | scr a => exact .scr (s.seq a)
  | .tup ds, _, h => by
    cases h with
    | tup a b => exact .tup (sqT_mono s a) (DVs.mono s ds _ b)
  | .lst ds, _, h => by
    cases h with
    | lst a b => exact .lst (s _ _ a) (DVs.mono s ds _ b)
theorem DVs.mono (s : Same H H') : ∀ (ds : List D) (vs : List V), DVs K H vs ds → DVs K H' vs ds
  | [], _, h => by cases h; exact .nil
  | d :: ds, _, h => by
    cases h with
    | cons a b => exact .cons (DV.mono s d _ a) (DVs.mono s ds _ b)
end
theorem DVs.length : ∀ {vs : List V} {ds : List D}, DVs K H vs ds → vs.length = ds.length
  | _, _, .nil => rfl
  | _, _, .cons _ t => by simp [DVs.length t]
theorem DVs.get : ∀ {vs : List V} {ds : List D}, DVs K H vs ds → ∀ {i : Nat} {d : D}, ds[i]? = some d → ∃ v, vs[i]? = some v ∧ DV K H v d
  | _, _, .nil, i, d, e => by simp at e
  | _, _, .cons a t, 0, d, e => by simp at e; subst e; exact ⟨_, rfl, a⟩
  | _, _, .cons a t, i + 1, d, e => by
    obtain ⟨v, h1, h2⟩ := DVs.get t (i := i) (d := d) (by simpa using e)
    exact ⟨v, by simpa using h1, h2⟩
theorem DVs.get' : ∀ {vs : List V} {ds : List D}, DVs K H vs ds → ∀ {i : Nat} {v : V}, vs[i]? = some v → ∃ d, ds[i]? = some d ∧ DV K H v d
  | _, _, .nil, i, d, e => by simp at e
  | _, _, .cons a t, 0, d, e => by simp at e; subst e; exact ⟨_, rfl, a⟩
  | _, _, .cons a t, i + 1, d, e => by
    obtain ⟨v, h1, h2⟩ := DVs.get' t (i := i) (v := d) (by simpa using e)
    exact ⟨v, by simpa using h1, h2⟩
theorem DVs.append : ∀ {vs ws : List V} {ds es : List D}, DVs K H vs ds → DVs K H ws es → DVs K H (vs ++ ws) (ds ++ es)
  | _, _, _, _, .nil, t => t
  | _, _, _, _, .cons a r, t => .cons a (DVs.append r t)
theorem DVs.take : ∀ {vs : List V} {ds : List D} (n : Nat), DVs K H vs ds → DVs K H (vs.take n) (ds.take n)
  | _, _, 0, _ => by simpa using DVs.nil
  | _, _, n + 1, .nil => .nil
  | _, _, n + 1, .cons a t => .cons a (DVs.take n t)
theorem DVs.drop : ∀ {vs : List V} {ds : List D} (n : Nat), DVs K H vs ds → DVs K H (vs.drop n) (ds.drop n)
  | _, _, 0, h => h
  | _, _, n + 1, .nil => .nil
  | _, _, n + 1, .cons a t => DVs.drop n t
theorem DVs.set : ∀ {vs : List V} {ds : List D} (n : Nat) {v : V} {d : D}, DV K H v d → DVs K H vs ds → DVs K H (vs.set n v) (ds.set n d)
  | _, _, _, _, _, _, .nil => .nil
  | _, _, 0, _, _, h, .cons a t => .cons h t
  | _, _, n + 1, _, _, h, .cons a t => .cons a (DVs.set n h t)
theorem DVs.erase : ∀ {vs : List V} {ds : List D} (n : Nat), DVs K H vs ds → DVs K H (vs.eraseIdx n) (ds.eraseIdx n)
  | _, _, _, .nil => .nil
  | _, _, 0, .cons a t => t
  | _, _, n + 1, .cons a t => .cons a (DVs.erase n t)
theorem DVs.ints : ∀ {vs : List V} {ns : List Int}, DVs K H vs (ns.map D.int) → vs = ns.map V.int
  | vs, [], h => by cases h; rfl
  | vs, n :: ns, h => by
    cases h with
    | cons a t => cases a; rw [DVs.ints t]; rfl
theorem DVs.of_ints : ∀ (ns : List Int), DVs K H (ns.map V.int) (ns.map D.int)
  | [] => .nil
  | n :: ns => .cons (.int n) (DVs.of_ints ns)
end

/-! ### the heap without what one owns -/
def wo (O : List Addr) (H : Hp) : Hp := fun a => if a ∈ O then none else H a
theorem wo_nil (H : Hp) : wo [] H = H := by funext a; simp [wo]
theorem wo_same (O : List Addr) (H : Hp) : Same (wo O H) H := fun a o h => by
  unfold wo at h
  split at h
  · cases h
  · exact h
theorem wo_mono {O : List Addr} {H H' : Hp} (s : Same H H') : Same (wo O H) (wo O H') := fun a o h => by
  unfold wo at *
  split at h
  · cases h
  · rename_i n
    rw [if_neg n]
    exact s a o h
theorem same_upd {H : Hp} {p : Addr} {o : HO} (h : H p = none) : Same H (upd H p o) := fun b x e => by
  rw [upd_ne (ne_of_none e h)]
  exact e

set_option autoImplicit false
/-! ### exceptions, slots -/
structure Ex where
  c : Str
  fs : List (Str × D)
inductive DF (K : Fg) (H : Hp) : List (Str × V) → List (Str × D) → Prop
  | nil : DF K H [] []
  | cons {x : Str} {v : V} {d : D} {vs : List (Str × V)} {ds : List (Str × D)} : DV K H v d → DF K H vs ds → DF K H ((x, v) :: vs) ((x, d) :: ds)
theorem DF.mono {K : Fg} {H H' : Hp} (s : Same H H') : ∀ {vs : List (Str × V)} {ds : List (Str × D)}, DF K H vs ds → DF K H' vs ds
  | _, _, .nil => .nil
  | _, _, .cons a t => .cons (DV.mono s _ _ a) (DF.mono s t)
theorem DF.look {K : Fg} {H : Hp} {x : Str} : ∀ {vs : List (Str × V)} {ds : List (Str × D)}, DF K H vs ds → ∀ {d : D}, ds.lookup x = some d → ∃ v, vs.lookup x = some v ∧ DV K H v d
  | _, _, .nil, d, e => by simp at e
  | _, _, .cons (x := y) a t, d, e => by
    rw [List.lookup_cons] at e ⊢
    cases q : (x == y) with
    | true =>
      rw [q] at e
      cases e
      exact ⟨_, rfl, a⟩
    | false =>
      rw [q] at e
      exact DF.look t e
/-- the exception with the class cls and the own dict dd is x -/
def ExOk (K : Fg) (H : Hp) (x : Ex) (cls : Value) (dd : Option Addr) : Prop :=
  cls = .ref (He.ga K x.c) ∧ ((x.fs = [] ∧ dd = none) ∨ ∃ (d : Addr) (vs : List (Str × V)), dd = some d ∧ H d = some (.xd vs) ∧ DF K H vs x.fs)
theorem ExOk.mono {K : Fg} {H H' : Hp} (s : Same H H') {x : Ex} {cls : Value} {dd : Option Addr} (h : ExOk K H x cls dd) : ExOk K H' x cls dd := by
  obtain ⟨e, h | ⟨d, vs, e1, e2, e3⟩⟩ := h
  · exact ⟨e, .inl h⟩
  · exact ⟨e, .inr ⟨d, vs, e1, s _ _ e2, e3.mono s⟩⟩
/-- a slot: a value that nobody will change; a list that this name alone holds; the exception that is handled -/
inductive Sl where
  | val (d : D) | own (ds : List D) | exc (x : Ex)
abbrev En := List (Option Sl)
/-- the handled exception: where, its class, its dict -/
abbrev Hx := Option (Addr × Value × Option Addr)
def SlOk (K : Fg) (hx : Hx) (O : List Addr) (H : Hp) (v : V) : Sl → Prop
  | .val d => DV K (wo O H) v d
  | .own ds => ∃ a vs, v = .ref a ∧ a ∈ O ∧ H a = some (.lst vs) ∧ DVs K (wo O H) vs ds
  | .exc x => ∃ a cls dd, v = .ref a ∧ hx = some (a, cls, dd) ∧ ExOk K (wo O H) x cls dd
theorem SlOk.mono {K : Fg} {hx : Hx} {O : List Addr} {H H' : Hp} (s : Same H H') {v : V} : ∀ {x : Sl}, SlOk K hx O H v x → SlOk K hx O H' v x
  | .val d, h => DV.mono (wo_mono s) _ _ h
  | .own ds, ⟨a, vs, e, m, h, k⟩ => ⟨a, vs, e, m, s _ _ h, DVs.mono (wo_mono s) _ _ k⟩
  | .exc x, ⟨a, cls, dd, e, m, h⟩ => ⟨a, cls, dd, e, m, h.mono (wo_mono s)⟩
/-- what stands all along: data (f), lists that others own (g) -/
structure Fm where
  f : Hp
  g : Hp
/-- slots and heap are what the environment says; F: what stands all along; O: what the frame, or a caller, owns -/
structure RO (K : Fg) (hx : Hx) (F : Fm) (ρ : En) (σ : MB.St) (H : Hp) (O : List Addr) : Prop where
  fr : Same F.f (wo O H)
  gs : Same F.g H
  go : ∀ a o, F.g a = some o → a ∈ O
  gn : ∀ (i : Nat) (a : Addr) (ds : List D), ρ[i]? = some (some (.own ds)) → σ[i]? = some (some (.ref a)) → F.g a = none
  len : ρ.length = σ.length
  sl : ∀ (i : Nat) (x : Sl), ρ[i]? = some (some x) → ∃ v, σ[i]? = some (some v) ∧ SlOk K hx O H v x
  ne : ∀ (i j : Nat) (a : Addr) (ds es : List D), ρ[i]? = some (some (.own ds)) → ρ[j]? = some (some (.own es)) → σ[i]? = some (some (.ref a)) → σ[j]? = some (some (.ref a)) → i = j
  dom : ∀ a ∈ O, ∃ o, H a = some o
def Rl (K : Fg) (hx : Hx) (F : Fm) (ρ : En) (σ : MB.St) (H : Hp) : Prop := ∃ O, RO K hx F ρ σ H O
def RV (K : Fg) (hx : Hx) (F : Fm) (ρ : En) (σ : MB.St) (H : Hp) (v : V) (d : D) : Prop := ∃ O, RO K hx F ρ σ H O ∧ DV K (wo O H) v d
def RX (K : Fg) (hx : Hx) (F : Fm) (ρ : En) (σ : MB.St) (H : Hp) (x : Ex) (cls : Value) (dd : Option Addr) : Prop := ∃ O, RO K hx F ρ σ H O ∧ ExOk K (wo O H) x cls dd
section
variable {K : Fg} {hx : Hx} {F F' : Fm} {H H' : Hp} {ρ : En} {σ : MB.St} {O : List Addr}
theorem RO.grow (r : RO K hx F ρ σ H O) (s : Same H H') : RO K hx F ρ σ H' O :=
  ⟨fun a o h => wo_mono s a o (r.fr a o h), fun a o h => s a o (r.gs a o h), r.go, r.gn, r.len, fun i x e => by
    obtain ⟨v, e1, h⟩ := r.sl i x e
    exact ⟨v, e1, h.mono s⟩, r.ne, fun a m => by
    obtain ⟨o, e⟩ := r.dom a m
    exact ⟨o, s a o e⟩⟩
/-- another frame condition: what stands now -/
theorem RO.re (r : RO K hx F ρ σ H O) : RO K hx ⟨wo O H, F.g⟩ ρ σ H O := ⟨fun _ _ h => h, r.gs, r.go, r.gn, r.len, r.sl, r.ne, r.dom⟩
theorem RO.fr_of (r : RO K hx F ρ σ H O) (s : Same F'.f F.f) (e : F'.g = F.g) : RO K hx F' ρ σ H O := ⟨s.trans r.fr, by rw [e]; exact r.gs, by rw [e]; exact r.go, by rw [e]; exact r.gn, r.len, r.sl, r.ne, r.dom⟩
theorem RO.out (r : RO K hx F ρ σ H O) {p : Addr} (h : H p = none) : p ∉ O := fun m => by
  obtain ⟨o, e⟩ := r.dom p m
  rw [h] at e
  cases e
theorem RO.set (r : RO K hx F ρ σ H O) (i : Nat) {v : V} {d : D} (h : DV K (wo O H) v d) : RO K hx F (ρ.set i (some (.val d))) (σ.set i (some v)) H O := by
  refine ⟨r.fr, r.gs, r.go, fun j a ds e1 e2 => ?_, by simp [r.len], fun j x e => ?_, fun j k a ds es e1 e2 e3 e4 => ?_, r.dom⟩
  · by_cases hj : j = i
    · subst hj
      rw [List.getElem?_set_self'] at e1
      cases q : ρ[j]? with
      | none => rw [q] at e1; cases e1
      | some z =>
        rw [q] at e1
        have e' : some (some (Sl.val d)) = some (some (Sl.own ds)) := e1
        cases e'
    · rw [List.getElem?_set_ne (Ne.symm hj)] at e1 e2
      exact r.gn j a ds e1 e2
  · by_cases hj : j = i
    · subst hj
      rw [List.getElem?_set_self'] at e
      cases q : ρ[j]? with
      | none => rw [q] at e; cases e
      | some z =>
        rw [q] at e
        have e' : some (some (Sl.val d)) = some (some x) := e
        cases e'
        have hl : j < σ.length := by
          rw [← r.len]
          exact (List.getElem?_eq_some_iff.mp q).1
        exact ⟨v, by rw [List.getElem?_set_self hl], h⟩
    · rw [List.getElem?_set_ne (Ne.symm hj)] at e
      obtain ⟨v', e1, h'⟩ := r.sl j x e
      exact ⟨v', by rw [List.getElem?_set_ne (Ne.symm hj)]; exact e1, h'⟩
  · have nv : ∀ {m : Nat} {ds : List D}, (ρ.set i (some (.val d)))[m]? = some (some (.own ds)) → m ≠ i := fun {m ds} e z => by
      subst z
      rw [List.getElem?_set_self'] at e
      cases q : ρ[m]? with
      | none => rw [q] at e; cases e
      | some z =>
        rw [q] at e
        have e' : some (some (Sl.val d)) = some (some (Sl.own ds)) := e
        cases e'
    have n1 := nv e1
    have n2 := nv e2
    rw [List.getElem?_set_ne (Ne.symm n1)] at e1 e3
    rw [List.getElem?_set_ne (Ne.symm n2)] at e2 e4
    exact r.ne j k a ds es e1 e2 e3 e4
end
end MB

/-! Readings by values: expressions. -/
namespace MB
open PySem PySem.Spec PyProof.Rows L2

inductive Rs where
  | ok (d : D) (ρ : En) | err (x : Ex) (ρ : En) | stuck
abbrev EX := En → Rs
def Rs.bind (r : Rs) (k : D → En → Rs) : Rs := match r with
  | .ok d ρ => k d ρ
  | .err x ρ => .err x ρ
  | .stuck => .stuck
/-- what is wanted of an outcome -/
def Po (K : Fg) (hx : Hx) (F : Fm) (W : WX) (σ : MB.St) (r : Rs) (Q : VK) : Prop := match r with
  | .ok d ρ => ∀ v H, RV K hx F ρ σ H v d → Q v H
  | .err x ρ => ∀ cls dd H, RX K hx F ρ σ H x cls dd → W cls dd σ H
  | .stuck => False
/-- an expression's reading by its function -/
def tX (K : Fg) (hx : Hx) (W : WX) (f : EX) : TE := fun σ H Q => ∃ F ρ, Rl K hx F ρ σ H ∧ Po K hx F W σ (f ρ) Q
/-- a truth value -/
def truth : D → Option Bool
  | .non => some false
  | .bl b => some b
  | .int i => some (i != 0)
  | .tup xs => some (!xs.isEmpty)
  | .lst xs => some (!xs.isEmpty)
  | _ => none
def PoT (K : Fg) (hx : Hx) (F : Fm) (W : WX) (σ : MB.St) (r : Rs) (Q : Bool → Hp → Prop) : Prop := match r with
  | .ok d ρ => ∃ b, truth d = some b ∧ ∀ H, Rl K hx F ρ σ H → Q b H
  | .err x ρ => ∀ cls dd H, RX K hx F ρ σ H x cls dd → W cls dd σ H
  | .stuck => False
def tT (K : Fg) (hx : Hx) (W : WX) (f : EX) : TT := fun σ H Q => ∃ F ρ, Rl K hx F ρ σ H ∧ PoT K hx F W σ (f ρ) Q
theorem _root_.L2.PE.imp {X : Cx} {e : Expr} {t t' : TE} (h : PE X e t) (i : ∀ σ H Q, t' σ H Q → t σ H Q) : PE X e t' := ⟨fun pins s σ H Q I q => h.run pins s σ H Q I (i σ H Q q)⟩
theorem _root_.L2.PT.imp {X : Cx} {e : Expr} {t t' : TT} (h : PT X e t) (i : ∀ σ H Q, t' σ H Q → t σ H Q) : PT X e t' := ⟨fun pins s σ H Q I q => h.run pins s σ H Q I (i σ H Q q)⟩
theorem _root_.L2.PW.imp {X : Cx} {e : Expr} {t t' : TT} (h : PW X e t) (i : ∀ σ H Q, t' σ H Q → t σ H Q) : PW X e t' := ⟨fun wh pins s σ H Q I q => h.run wh pins s σ H Q I (i σ H Q q)⟩

theorem Po.fr {K : Fg} {hx : Hx} {F F' : Fm} {W : WX} {σ : MB.St} {r : Rs} {Q : VK} (s : Same F.f F'.f) (e : F.g = F'.g) (h : Po K hx F W σ r Q) : Po K hx F' W σ r Q := by
  cases r with
  | ok d ρ => exact fun v H ⟨O, r, dv⟩ => h v H ⟨O, r.fr_of s e, dv⟩
  | err x ρ => exact fun cls dd H ⟨O, r, dv⟩ => h cls dd H ⟨O, r.fr_of s e, dv⟩
  | stuck => exact h
theorem PoT.fr {K : Fg} {hx : Hx} {F F' : Fm} {W : WX} {σ : MB.St} {r : Rs} {Q : Bool → Hp → Prop} (s : Same F.f F'.f) (e : F.g = F'.g) (h : PoT K hx F W σ r Q) : PoT K hx F' W σ r Q := by
  cases r with
  | ok d ρ =>
    obtain ⟨b, hb, k⟩ := h
    exact ⟨b, hb, fun H ⟨O, r⟩ => k H ⟨O, r.fr_of s e⟩⟩
  | err x ρ => exact fun cls dd H ⟨O, r, dv⟩ => h cls dd H ⟨O, r.fr_of s e, dv⟩
  | stuck => exact h
section
variable {K : Fg} {hx : Hx} {F : Fm} {H : Hp} {ρ : En} {σ : MB.St} {O : List Addr} {W : WX}
/-- a part, then the rest: the part's frame is what stands now -/
theorem bindX {fa : EX} {k : D → En → Rs} {Q Q1 : VK} (r : RO K hx F ρ σ H O) (hp : Po K hx F W σ ((fa ρ).bind k) Q)
    (hk : ∀ d ρ1 v H1 O1, RO K hx F ρ1 σ H1 O1 → Same (wo O H) (wo O1 H1) → DV K (wo O1 H1) v d → Po K hx F W σ (k d ρ1) Q → Q1 v H1) : tX K hx W fa σ H Q1 := by
  refine ⟨⟨wo O H, F.g⟩, ρ, ⟨O, r.re⟩, ?_⟩
  cases e : fa ρ with
  | ok d ρ1 =>
    rw [e] at hp
    intro v H1 hv
    obtain ⟨O1, r1, dv⟩ := hv
    exact hk d ρ1 v H1 O1 (r1.fr_of r.fr rfl) r1.fr dv hp
  | err x ρ1 =>
    rw [e] at hp
    intro cls dd H1 hv
    obtain ⟨O1, r1, ev⟩ := hv
    exact hp cls dd H1 ⟨O1, r1.fr_of r.fr rfl, ev⟩
  | stuck =>
    rw [e] at hp
    exact hp
/-- the same with a test first -/
theorem bindT {fa : EX} {k : D → En → Rs} {Q : VK} {Q1 : Bool → Hp → Prop} (r : RO K hx F ρ σ H O) (hp : Po K hx F W σ ((fa ρ).bind k) Q)
    (ht : ∀ d ρ1, Po K hx F W σ (k d ρ1) Q → ∃ b, truth d = some b)
    (hk : ∀ d b ρ1 H1 O1, truth d = some b → RO K hx F ρ1 σ H1 O1 → Same (wo O H) (wo O1 H1) → Po K hx F W σ (k d ρ1) Q → Q1 b H1) : tT K hx W fa σ H Q1 := by
  refine ⟨⟨wo O H, F.g⟩, ρ, ⟨O, r.re⟩, ?_⟩
  cases e : fa ρ with
  | ok d ρ1 =>
    rw [e] at hp
    obtain ⟨b, hb⟩ := ht d ρ1 hp
    refine ⟨b, hb, fun H1 hv => ?_⟩
    obtain ⟨O1, r1⟩ := hv
    exact hk d b ρ1 H1 O1 hb (r1.fr_of r.fr rfl) r1.fr hp
  | err x ρ1 =>
    rw [e] at hp
    intro cls dd H1 hv
    obtain ⟨O1, r1, ev⟩ := hv
    exact hp cls dd H1 ⟨O1, r1.fr_of r.fr rfl, ev⟩
  | stuck =>
    rw [e] at hp
    exact hp
/-- .. all within a test -/
theorem bindTT {fa : EX} {k : D → En → Rs} {Q Q1 : Bool → Hp → Prop} (r : RO K hx F ρ σ H O) (hp : PoT K hx F W σ ((fa ρ).bind k) Q)
    (ht : ∀ d ρ1, PoT K hx F W σ (k d ρ1) Q → ∃ b, truth d = some b)
    (hk : ∀ d b ρ1 H1 O1, truth d = some b → RO K hx F ρ1 σ H1 O1 → Same (wo O H) (wo O1 H1) → PoT K hx F W σ (k d ρ1) Q → Q1 b H1) : tT K hx W fa σ H Q1 := by
  refine ⟨⟨wo O H, F.g⟩, ρ, ⟨O, r.re⟩, ?_⟩
  cases e : fa ρ with
  | ok d ρ1 =>
    rw [e] at hp
    obtain ⟨b, hb⟩ := ht d ρ1 hp
    refine ⟨b, hb, fun H1 hv => ?_⟩
    obtain ⟨O1, r1⟩ := hv
    exact hk d b ρ1 H1 O1 hb (r1.fr_of r.fr rfl) r1.fr hp
  | err x ρ1 =>
    rw [e] at hp
    intro cls dd H1 hv
    obtain ⟨O1, r1, ev⟩ := hv
    exact hp cls dd H1 ⟨O1, r1.fr_of r.fr rfl, ev⟩
  | stuck =>
    rw [e] at hp
    exact hp
/-- an expression within a test -/
theorem bindXT {fa : EX} {k : D → En → Rs} {Q : Bool → Hp → Prop} {Q1 : VK} (r : RO K hx F ρ σ H O) (hp : PoT K hx F W σ ((fa ρ).bind k) Q)
    (hk : ∀ d ρ1 v H1 O1, RO K hx F ρ1 σ H1 O1 → Same (wo O H) (wo O1 H1) → DV K (wo O1 H1) v d → PoT K hx F W σ (k d ρ1) Q → Q1 v H1) : tX K hx W fa σ H Q1 := by
  refine ⟨⟨wo O H, F.g⟩, ρ, ⟨O, r.re⟩, ?_⟩
  cases e : fa ρ with
  | ok d ρ1 =>
    rw [e] at hp
    intro v H1 hv
    obtain ⟨O1, r1, dv⟩ := hv
    exact hk d ρ1 v H1 O1 (r1.fr_of r.fr rfl) r1.fr dv hp
  | err x ρ1 =>
    rw [e] at hp
    intro cls dd H1 hv
    obtain ⟨O1, r1, ev⟩ := hv
    exact hp cls dd H1 ⟨O1, r1.fr_of r.fr rfl, ev⟩
  | stuck =>
    rw [e] at hp
    exact hp
end

/-! ### names, constants -/
def eVar (i : Nat) : EX := fun ρ => match ρ[i]? with
  | some (some (.val d)) => .ok d ρ
  | some (some (.own ds)) => .ok (.lst ds) (ρ.set i (some (.val (.lst ds))))
  | _ => .stuck
def eC (d : D) : EX := fun ρ => .ok d ρ
section
variable {X : Cx} {hx : Hx} {W : WX}
/-- an own list is let go: from now on nobody changes it -/
theorem RO.freeze {K : Fg} {hx : Hx} {F : Fm} {H : Hp} {ρ : En} {σ : MB.St} {O : List Addr} {i : Nat} {ds : List D} (r : RO K hx F ρ σ H O) (e : ρ[i]? = some (some (.own ds))) :
    ∃ a O', σ[i]? = some (some (V.ref a)) ∧ RO K hx F (ρ.set i (some (.val (.lst ds)))) σ H O' ∧ DV K (wo O' H) (.ref a) (.lst ds) := by
  obtain ⟨v, ev, a, vs, rfl, hm, hH, hv⟩ := r.sl i _ e
  have sm : Same (wo O H) (wo (O.filter (· ≠ a)) H) := fun b o h => by
    unfold wo at *
    split at h
    · cases h
    · rename_i n
      rw [if_neg (fun z => n (List.mem_filter.mp z).1)]
      exact h
  have at_ : wo (O.filter (· ≠ a)) H a = some (.lst vs) := by
    unfold wo
    rw [if_neg (fun z => by simpa using (List.mem_filter.mp z).2)]
    exact hH
  have dv : DV K (wo (O.filter (· ≠ a)) H) (.ref a) (.lst ds) := .lst at_ (DVs.mono sm _ _ hv)
  have hl : i < ρ.length := (List.getElem?_eq_some_iff.mp e).1
  have ga : F.g a = none := r.gn i a ds e ev
  refine ⟨a, O.filter (· ≠ a), ev, ⟨r.fr.trans sm, r.gs, fun b o hb => List.mem_filter.mpr ⟨r.go b o hb, ?_⟩, fun j b d1 e1 e2 => ?_, by simp [r.len], fun j x ej => ?_, fun j k b d1 d2 e1 e2 e3 e4 => ?_, fun b hb => r.dom b (List.mem_filter.mp hb).1⟩, dv⟩
  · have nb : b ≠ a := fun z => by
      subst z
      rw [ga] at hb
      cases hb
    simpa using nb
  · by_cases hj : j = i
    · subst hj
      rw [List.getElem?_set_self hl] at e1
      cases e1
    · rw [List.getElem?_set_ne (Ne.symm hj)] at e1
      exact r.gn j b d1 e1 e2
  · by_cases hj : j = i
    · subst hj
      rw [List.getElem?_set_self hl] at ej
      cases ej
      exact ⟨.ref a, ev, dv⟩
    · rw [List.getElem?_set_ne (Ne.symm hj)] at ej
      obtain ⟨v', e1, h'⟩ := r.sl j x ej
      refine ⟨v', e1, ?_⟩
      cases x with
      | val d => exact DV.mono sm _ _ h'
      | own es =>
        obtain ⟨b, ws, rfl, hb, hB, hw⟩ := h'
        refine ⟨b, ws, rfl, List.mem_filter.mpr ⟨hb, ?_⟩, hB, DVs.mono sm _ _ hw⟩
        have nb : b ≠ a := fun z => by
          subst z
          exact hj (r.ne j i b es ds ej e e1 ev)
        simpa using nb
      | exc x =>
        obtain ⟨b, cls, dd, rfl, e2, h2⟩ := h'
        exact ⟨b, cls, dd, rfl, e2, h2.mono sm⟩
  · have nv : ∀ {m : Nat} {ds' : List D}, (ρ.set i (some (Sl.val (.lst ds))))[m]? = some (some (.own ds')) → m ≠ i := fun {m ds'} q z => by
      subst z
      rw [List.getElem?_set_self hl] at q
      cases q
    have n1 := nv e1
    have n2 := nv e2
    rw [List.getElem?_set_ne (Ne.symm n1)] at e1
    rw [List.getElem?_set_ne (Ne.symm n2)] at e2
    exact r.ne j k b d1 d2 e1 e2 e3 e4
theorem r_var (i : Nat) {x : Str} {pos : Pos} (hN : X.N[i]? = some x := by rfl) (hv : Vis X.env.scope x := by first | exact Or.inl rfl | exact Or.inr (Or.inl rfl) | exact Or.inr (Or.inr rfl)) (hd : (x == ("__debug__" : Str)) = false := by decide)
    (hcd : (x == ("__classdict__" : Str)) = false := by decide) : PE X (.Name x pos) (tX X.K hx W (eVar i)) := by
  refine (pe_var hN hv hd hcd).imp fun σ H Q h => ?_
  obtain ⟨F, ρ, ⟨O, r⟩, hp⟩ := h
  unfold eVar at hp
  cases e : ρ[i]? with
  | none => rw [e] at hp; exact hp.elim
  | some o =>
    rw [e] at hp
    cases o with
    | none => exact hp.elim
    | some s =>
      cases s with
      | val d =>
        obtain ⟨v, ev, h⟩ := r.sl i _ e
        exact ⟨v, ev, hp v H ⟨O, r, h⟩⟩
      | own ds =>
        obtain ⟨a, O', ev, r', dv⟩ := r.freeze e
        exact ⟨.ref a, ev, hp _ H ⟨O', r', dv⟩⟩
      | exc x => exact hp.elim
theorem r_int {i j pos} : PE X (.Constant (.int i) j pos) (tX X.K hx W (eC (.int i))) := (pe_int).imp fun σ H Q h => by
  obtain ⟨F, ρ, ⟨O, r⟩, hp⟩ := h
  exact hp _ H ⟨O, r, .int i⟩
theorem r_bl {b j pos} : PE X (.Constant (.bool b) j pos) (tX X.K hx W (eC (.bl b))) := (pe_bl).imp fun σ H Q h => by
  obtain ⟨F, ρ, ⟨O, r⟩, hp⟩ := h
  exact hp _ H ⟨O, r, .bl b⟩
theorem r_non {j pos} : PE X (.Constant .none j pos) (tX X.K hx W (eC .non)) := (pe_non).imp fun σ H Q h => by
  obtain ⟨F, ρ, ⟨O, r⟩, hp⟩ := h
  exact hp _ H ⟨O, r, .non⟩
theorem r_str {x j pos} : PE X (.Constant (.str x) j pos) (tX X.K hx W (eC (.str x))) := (pe_str).imp fun σ H Q h => by
  obtain ⟨F, ρ, ⟨O, r⟩, hp⟩ := h
  exact hp _ H ⟨O, r, .str x⟩
/-- a module's constant: what stands at it is the datum d in every heap -/
structure GC (K : Fg) (mg : Str → Option Value) (x : Str) (d : D) : Prop where
  ex : ∃ u v, mg x = some u ∧ RelV v u ∧ ∀ H, DV K H v d
theorem r_glob {x : Str} {d : D} {pos : Pos} (c : GC X.K X.mg x d) (hg : Gl X x := by rfl) (hd : (x == ("__debug__" : Str)) = false := by decide) : PE X (.Name x pos) (tX X.K hx W (eC d)) := by
  obtain ⟨u, v, hm, rv, dv⟩ := c.ex
  refine (pe_glob hg hm rv hd).imp fun σ H Q h => ?_
  obtain ⟨F, ρ, ⟨O, r⟩, hp⟩ := h
  exact hp _ H ⟨O, r, dv _⟩
end

/-! ### operators of two values -/
/-- r gives what op says -/
def Op2 (K : Fg) (r : R2) (op : D → D → Option D) : Prop := ∀ (O : List Addr) (H : Hp) (x y : V) (d e res : D) (Q : VK), (∀ a ∈ O, ∃ o, H a = some o) → DV K (wo O H) x d → DV K (wo O H) y e → op d e = some res →
  (∀ v H', Same H H' → DV K (wo O H') v res → Q v H') → r x y H Q
def eB (op : D → D → Option D) (fa fb : EX) : EX := fun ρ => (fa ρ).bind fun d ρ1 => (fb ρ1).bind fun e ρ2 => match op d e with
  | some z => .ok z ρ2
  | none => .stuck
theorem t_op2 {K : Fg} {hx : Hx} {W : WX} {r : R2} {op : D → D → Option D} (ho : Op2 K r op) {fa fb : EX} {σ : MB.St} {H : Hp} {Q : VK} (h : tX K hx W (eB op fa fb) σ H Q) : tOp r (tX K hx W fa) (tX K hx W fb) σ H Q := by
  obtain ⟨F, ρ, ⟨O, r0⟩, hp⟩ := h
  refine bindX r0 hp fun d ρ1 v H1 O1 r1 s1 dv hp1 => ?_
  refine bindX r1 hp1 fun e ρ2 u H2 O2 r2 s2 du hp2 => ?_
  cases q : op d e with
  | none =>
    rw [q] at hp2
    exact hp2.elim
  | some z =>
    rw [q] at hp2
    exact ho O2 H2 v u d e z Q r2.dom (DV.mono s2 _ _ dv) du q fun v' H' s' dv' => hp2 v' H' ⟨O2, r2.grow s', dv'⟩
theorem t_op2T {K : Fg} {hx : Hx} {W : WX} {r : R2} {op : D → D → Option D} (ho : Op2 K r op) (hb : ∀ d e z, op d e = some z → ∃ b, z = .bl b) {fa fb : EX} {σ : MB.St} {H : Hp} {Q : Bool → Hp → Prop} (h : tT K hx W (eB op fa fb) σ H Q) :
    tTest (tOp r (tX K hx W fa) (tX K hx W fb)) σ H Q := by
  obtain ⟨F, ρ, ⟨O, r0⟩, hp⟩ := h
  refine bindXT r0 hp fun d ρ1 v H1 O1 r1 s1 dv hp1 => ?_
  refine bindXT r1 hp1 fun e ρ2 u H2 O2 r2 s2 du hp2 => ?_
  cases q : op d e with
  | none =>
    rw [q] at hp2
    exact hp2.elim
  | some z =>
    rw [q] at hp2
    obtain ⟨b, rfl⟩ := hb d e z q
    refine ho O2 H2 v u d e _ _ r2.dom (DV.mono s2 _ _ dv) du q fun v' H' s' dv' => ?_
    cases dv'
    obtain ⟨b', hb', k⟩ := hp2
    cases hb'
    exact ⟨b, rfl, k H' ⟨O2, r2.grow s'⟩⟩
section
variable {X : Cx} {hx : Hx} {W : WX} {a b : Expr} {fa fb : EX} {pos : Pos}
theorem r_bin {op : Operator} {r : R2} {f : D → D → Option D} (ho : OpR X (binaryOp op) r) (h2 : Op2 X.K r f) (ha : PE X a (tX X.K hx W fa)) (hb : PE X b (tX X.K hx W fb)) : PE X (.BinOp a op b pos) (tX X.K hx W (eB f fa fb)) :=
  (pe_op ho ha hb).imp fun _ _ _ h => t_op2 h2 h
theorem r_cmp {op : CmpOp} {r : R2} {f : D → D → Option D} (ho : OpR X (compareOp op) r) (h2 : Op2 X.K r f) (ha : PE X a (tX X.K hx W fa)) (hb : PE X b (tX X.K hx W fb)) (hm : behindInMarks op b = false) : PE X (.Compare a [op] [b] pos) (tX X.K hx W (eB f fa fb)) :=
  (pe_cmpR ho ha hb hm).imp fun _ _ _ h => t_op2 h2 h
theorem r_cmpT {op : CmpOp} {r : R2} {f : D → D → Option D} (ho : OpR X (compareOp op) r) (h2 : Op2 X.K r f) (hbl : ∀ d e z, f d e = some z → ∃ b, z = .bl b) (ha : PE X a (tX X.K hx W fa)) (hb : PE X b (tX X.K hx W fb)) (hm : behindInMarks op b = false) :
    PT X (.Compare a [op] [b] pos) (tT X.K hx W (eB f fa fb)) := (pt_cmpR ho ha hb hm).imp fun _ _ _ h => t_op2T h2 hbl h
end
end MB

/-! Operators by values. -/
namespace MB
open PySem PySem.Spec PyProof.Rows L2

/-! ### arithmetic -/
def mulOk (i j : Int) : Bool := decide (-(2 ^ 64) < i ∧ i < 2 ^ 64) || decide (-(2 ^ 64) < j ∧ j < 2 ^ 64) || decide (i.natAbs.log2 + j.natAbs.log2 < 1000000)
def divOk (_ j : Int) : Bool := decide (j ≠ 0 ∧ j.natAbs < 1073741824) || decide (0 < j ∧ j.natAbs.log2 < 9000)
def addD : D → D → Option D
  | .int i, .int j => some (.int (i + j))
  | .tup xs, .tup ys => if xs.length + ys.length ≤ sizeLine then some (.tup (xs ++ ys)) else none
  | .lst xs, .lst ys => if xs.length + ys.length ≤ sizeLine then some (.lst (xs ++ ys)) else none
  | .str x, .str y => if x.length + y.length ≤ sizeLine then some (.str (x ++ y)) else none
  | _, _ => none
def subD : D → D → Option D
  | .int i, .int j => some (.int (i - j))
  | _, _ => none
def mulD : D → D → Option D
  | .int i, .int j => if mulOk i j = true then some (.int (i * j)) else none
  | .lst xs, .int k => if (-(2 ^ 63) ≤ k ∧ k < 2 ^ 63) ∧ xs.length * k.toNat ≤ sizeLine then some (.lst (List.replicate k.toNat xs).flatten) else none
  | _, _ => none
def fdivD : D → D → Option D
  | .int i, .int j => if divOk i j = true then some (.int (i.fdiv j)) else none
  | _, _ => none
def modD : D → D → Option D
  | .int i, .int j => if j ≠ 0 then some (.int (i.fmod j)) else none
  | _, _ => none
def powD : D → D → Option D
  | .int i, .int j => if 0 ≤ j ∧ j ≤ 1000000 ∧ i.natAbs < 2 ^ 64 then some (.int (i ^ j.toNat)) else none
  | _, _ => none
def shlD : D → D → Option D
  | .int i, .int j => if 0 ≤ j ∧ j ≤ 1000000 ∧ i.natAbs < 2 ^ 64 then some (.int (i * 2 ^ j.toNat)) else none
  | _, _ => none
def orD : D → D → Option D
  | .int i, .int j => some (.int (Builtin.bitOr i j))
  | _, _ => none

section
variable {K : Fg} {H H' : Hp}
theorem DV.int_of {v : V} {i : Int} (h : DV K H v (.int i)) : v = .int i := by cases h; rfl
theorem DV.bl_of {v : V} {i : Bool} (h : DV K H v (.bl i)) : v = .bl i := by cases h; rfl
theorem DV.str_of {v : V} {i : Str} (h : DV K H v (.str i)) : v = .str i := by cases h; rfl
theorem DV.non_of {v : V} (h : DV K H v .non) : v = .non := by cases h; rfl
theorem DV.tup_of {v : V} {ds : List D} (h : DV K H v (.tup ds)) : ∃ a vs, v = .ref a ∧ SqT K H a vs ∧ DVs K H vs ds := by cases h with | tup a b => exact ⟨_, _, rfl, a, b⟩
theorem DV.lst_of {v : V} {ds : List D} (h : DV K H v (.lst ds)) : ∃ a vs, v = .ref a ∧ H a = some (.lst vs) ∧ DVs K H vs ds := by cases h with | lst a b => exact ⟨_, _, rfl, a, b⟩
end
theorem dom_out {H : Hp} {O : List Addr} (h : ∀ a ∈ O, ∃ o, H a = some o) {p : Addr} (n : H p = none) : p ∉ O := fun m => by
  obtain ⟨o, e⟩ := h p m
  rw [n] at e
  cases e
/-- a new object at p -/
theorem wo_new {H : Hp} {O : List Addr} {p : Addr} {o : HO} (n : p ∉ O) : wo O (upd H p o) p = some o := by
  unfold wo
  rw [if_neg n, upd_same]
theorem DV.newT {K : Fg} {H : Hp} {O : List Addr} {p : Addr} {vs : List V} {ds : List D} (hd : ∀ a ∈ O, ∃ o, H a = some o) (n : H p = none) (h : DVs K (wo O H) vs ds) : DV K (wo O (upd H p (.tup vs))) (.ref p) (.tup ds) :=
  .tup (.of (wo_new (dom_out hd n))) (DVs.mono (wo_mono (same_upd n)) _ _ h)
theorem DV.newL {K : Fg} {H : Hp} {O : List Addr} {p : Addr} {vs : List V} {ds : List D} (hd : ∀ a ∈ O, ∃ o, H a = some o) (n : H p = none) (h : DVs K (wo O H) vs ds) : DV K (wo O (upd H p (.lst vs))) (.ref p) (.lst ds) :=
  .lst (wo_new (dom_out hd n)) (DVs.mono (wo_mono (same_upd n)) _ _ h)

/-- the readings of the operators -/
def rAddD (K : Fg) : R2 := fun x y H Q => (∃ i j, x = .int i ∧ y = .int j ∧ Q (.int (i + j)) H) ∨ rCatA K x y H Q ∨ rCat x y H Q ∨ (∃ i j, x = .str i ∧ y = .str j ∧ i.length + j.length ≤ sizeLine ∧ Q (.str (i ++ j)) H)
section
variable {X : Cx}
theorem o_add : OpR X (binaryOp .Add) (rAddD X.K) := op_add.or (op_catA.or (op_cat.or op_add_str))
theorem s_add {K : Fg} : Op2 K (rAddD K) addD := by
  intro O H x y d e res Q hd hx hy h q
  cases d <;> cases e <;> try (cases h; done)
  · cases hx; cases hy
    cases h
    exact .inl ⟨_, _, rfl, rfl, q _ H (Same.refl H) (.int _)⟩
  · cases hx; cases hy
    rename_i i j
    have h' : (if i.length + j.length ≤ sizeLine then some (D.str (i ++ j)) else none) = some res := h
    split at h'
    · cases h'
      rename_i hl
      exact .inr (.inr (.inr ⟨_, _, rfl, rfl, hl, q _ H (Same.refl H) (.str _)⟩))
    · cases h'
  · rename_i xs ys
    have h' : (if xs.length + ys.length ≤ sizeLine then some (D.tup (xs ++ ys)) else none) = some res := h
    split at h'
    · cases h'
      rename_i hl
      obtain ⟨a, vs, rfl, sa, da⟩ := hx.tup_of
      obtain ⟨b, ws, rfl, sb, db⟩ := hy.tup_of
      have la := da.length
      have lb := db.length
      refine .inr (.inl ⟨a, b, vs, ws, rfl, rfl, sqT_mono (wo_same O H) sa, sqT_mono (wo_same O H) sb, by omega, fun z => ?_, fun _ z => ?_, fun _ _ p np => ?_⟩)
      · subst z
        cases da
        exact q _ H (Same.refl H) (.tup sb db)
      · subst z
        cases db
        rw [List.append_nil] at q
        exact q _ H (Same.refl H) (.tup sa da)
      · exact q _ _ (same_upd np) (DV.newT hd np (da.append db))
    · cases h'
  · rename_i xs ys
    have h' : (if xs.length + ys.length ≤ sizeLine then some (D.lst (xs ++ ys)) else none) = some res := h
    split at h'
    · cases h'
      rename_i hl
      obtain ⟨a, vs, rfl, sa, da⟩ := hx.lst_of
      obtain ⟨b, ws, rfl, sb, db⟩ := hy.lst_of
      have la := da.length
      have lb := db.length
      exact .inr (.inr (.inl ⟨a, b, vs, ws, rfl, rfl, wo_same O H _ _ sa, wo_same O H _ _ sb, by omega, fun p np => q _ _ (same_upd np) (DV.newL hd np (da.append db))⟩))
    · cases h'
theorem s_sub {K : Fg} : Op2 K (rI0 fun i j => .int (i - j)) subD := by
  intro O H x y d e res Q hd hx hy h q
  cases d <;> cases e <;> try (cases h; done)
  cases hx; cases hy; cases h
  exact ⟨_, _, rfl, rfl, q _ H (Same.refl H) (.int _)⟩
def rMulD : R2 := fun x y H Q => rI CMul (fun i j => .int (i * j)) x y H Q ∨ rI CMulW (fun i j => .int (i * j)) x y H Q ∨ rRep x y H Q
theorem o_mul : OpR X (binaryOp .Mult) rMulD := op_mul.or (op_mulW.or op_rep)
theorem flat_rep {K : Fg} {H : Hp} {vs : List V} {ds : List D} (h : DVs K H vs ds) : ∀ n : Nat, DVs K H (List.replicate n vs).flatten (List.replicate n ds).flatten
  | 0 => .nil
  | n + 1 => by
    rw [List.replicate_succ, List.replicate_succ, List.flatten_cons, List.flatten_cons]
    exact h.append (flat_rep h n)
theorem s_mul {K : Fg} : Op2 K rMulD mulD := by
  intro O H x y d e res Q hd hx hy h q
  cases d <;> cases e <;> try (cases h; done)
  · rename_i i j
    have h' : (if mulOk i j = true then some (D.int (i * j)) else none) = some res := h
    split at h'
    · cases h'
      rename_i hl
      cases hx; cases hy
      have fin := q _ H (Same.refl H) (.int (i * j))
      unfold mulOk at hl
      rw [Bool.or_eq_true, Bool.or_eq_true] at hl
      rcases hl with (hl | hl) | hl
      · exact .inl ⟨_, _, rfl, rfl, .inl (of_decide_eq_true hl), fin⟩
      · exact .inl ⟨_, _, rfl, rfl, .inr (of_decide_eq_true hl), fin⟩
      · exact .inr (.inl ⟨_, _, rfl, rfl, (of_decide_eq_true hl : i.natAbs.log2 + j.natAbs.log2 < 1000000), fin⟩)
    · cases h'
  · rename_i xs k
    have h' : (if (-(2 ^ 63) ≤ k ∧ k < 2 ^ 63) ∧ xs.length * k.toNat ≤ sizeLine then some (D.lst (List.replicate k.toNat xs).flatten) else none) = some res := h
    split at h'
    · cases h'
      rename_i hl
      obtain ⟨⟨h1, h2⟩, h3⟩ := hl
      obtain ⟨a, vs, rfl, sa, da⟩ := hx.lst_of
      cases hy
      have la := da.length
      exact .inr (.inr ⟨a, k, vs, rfl, rfl, wo_same O H _ _ sa, h1, h2, by rw [la]; exact h3, fun p np => q _ _ (same_upd np) (DV.newL hd np (flat_rep da _))⟩)
    · cases h'
def rDivD : R2 := fun x y H Q => rI CDivN (fun i j => .int (i.fdiv j)) x y H Q ∨ rI CDivW (fun i j => .int (i / j)) x y H Q
theorem o_fdiv : OpR X (binaryOp .FloorDiv) rDivD := op_fdivN.or op_fdivW
theorem s_fdiv {K : Fg} : Op2 K rDivD fdivD := by
  intro O H x y d e res Q hd hx hy h q
  cases d <;> cases e <;> try (cases h; done)
  rename_i i j
  have h' : (if divOk i j = true then some (D.int (i.fdiv j)) else none) = some res := h
  split at h'
  · cases h'
    rename_i hl
    cases hx; cases hy
    have fin := q _ H (Same.refl H) (.int (i.fdiv j))
    unfold divOk at hl
    rw [Bool.or_eq_true] at hl
    rcases hl with hl | hl
    · exact .inl ⟨_, _, rfl, rfl, (of_decide_eq_true hl : j ≠ 0 ∧ j.natAbs < 1073741824), fin⟩
    · have hl := of_decide_eq_true hl
      rw [Int.fdiv_eq_ediv_of_nonneg i (by omega)] at fin
      exact .inr ⟨_, _, rfl, rfl, hl, fin⟩
  · cases h'
theorem s_mod {K : Fg} : Op2 K (rI (fun _ j => j ≠ 0) fun i j => .int (i.fmod j)) modD := by
  intro O H x y d e res Q hd hx hy h q
  cases d <;> cases e <;> try (cases h; done)
  rename_i i j
  have h' : (if j ≠ 0 then some (D.int (i.fmod j)) else none) = some res := h
  split at h'
  · cases h'
    rename_i hl
    cases hx; cases hy
    exact ⟨_, _, rfl, rfl, hl, q _ H (Same.refl H) (.int _)⟩
  · cases h'
theorem s_pow {K : Fg} : Op2 K (rI CPow fun i j => .int (i ^ j.toNat)) powD := by
  intro O H x y d e res Q hd hx hy h q
  cases d <;> cases e <;> try (cases h; done)
  rename_i i j
  have h' : (if 0 ≤ j ∧ j ≤ 1000000 ∧ i.natAbs < 2 ^ 64 then some (D.int (i ^ j.toNat)) else none) = some res := h
  split at h'
  · cases h'
    rename_i hl
    cases hx; cases hy
    exact ⟨_, _, rfl, rfl, hl, q _ H (Same.refl H) (.int _)⟩
  · cases h'
theorem s_shl {K : Fg} : Op2 K (rI CPow fun i j => .int (i * 2 ^ j.toNat)) shlD := by
  intro O H x y d e res Q hd hx hy h q
  cases d <;> cases e <;> try (cases h; done)
  rename_i i j
  have h' : (if 0 ≤ j ∧ j ≤ 1000000 ∧ i.natAbs < 2 ^ 64 then some (D.int (i * 2 ^ j.toNat)) else none) = some res := h
  split at h'
  · cases h'
    rename_i hl
    cases hx; cases hy
    exact ⟨_, _, rfl, rfl, hl, q _ H (Same.refl H) (.int _)⟩
  · cases h'
theorem s_or {K : Fg} : Op2 K (rI0 fun i j => .int (Builtin.bitOr i j)) orD := by
  intro O H x y d e res Q hd hx hy h q
  cases d <;> cases e <;> try (cases h; done)
  cases hx; cases hy; cases h
  exact ⟨_, _, rfl, rfl, q _ H (Same.refl H) (.int _)⟩
end

/-! ### order -/
def cmpI (p : Int → Int → Bool) : D → D → Option D
  | .int i, .int j => some (.bl (p i j))
  | _, _ => none
abbrev ltD := cmpI fun i j => decide (i < j)
abbrev leD := cmpI fun i j => decide (i ≤ j)
abbrev gtD := cmpI fun i j => decide (j < i)
abbrev geD := cmpI fun i j => decide (j ≤ i)
theorem s_cmpI {K : Fg} (p : Int → Int → Bool) : Op2 K (rI0 fun i j => .bl (p i j)) (cmpI p) := by
  intro O H x y d e res Q hd hx hy h q
  cases d <;> cases e <;> try (cases h; done)
  cases hx; cases hy; cases h
  exact ⟨_, _, rfl, rfl, q _ H (Same.refl H) (.bl _)⟩
theorem b_cmpI {p : Int → Int → Bool} : ∀ d e z, cmpI p d e = some z → ∃ b, z = .bl b := by
  intro d e z h
  cases d <;> cases e <;> try (cases h; done)
  cases h
  exact ⟨_, rfl⟩

/-! ### equality -/
def flat : D → Bool
  | .non => true | .bl _ => true | .int _ => true | .str _ => true | _ => false
def flV : D → V
  | .non => .non | .bl b => .bl b | .int i => .int i | .str x => .str x | _ => .non
def eqF : D → D → Bool
  | .non, .non => true
  | .bl a, .bl b => a == b
  | .bl a, .int b => (if a then 1 else 0) == b
  | .int a, .bl b => a == (if b then 1 else 0)
  | .int a, .int b => a == b
  | .str a, .str b => a == b
  | _, _ => false
theorem flat_of {K : Fg} {H : Hp} {v : V} {d : D} (h : DV K H v d) (f : flat d = true) : v = flV d ∧ flatV v = true := by
  cases d <;> (try (cases f; done)) <;> cases h <;> exact ⟨rfl, rfl⟩
theorem eqV_flV {d e : D} (f : flat d = true) (g : flat e = true) : eqV (flV d) (flV e) = eqF d e := by
  cases d <;> (try (cases f; done)) <;> cases e <;> (try (cases g; done)) <;> rfl
mutual
def toPy : D → Option PyData
  | .non => some .none
  | .bl b => some (.bool b)
  | .int i => some (.int i)
  | .str x => some (.str x)
  | .tup xs => (toPys xs).map .tuple
  | .lst xs => (toPys xs).map .list
  | _ => none
def toPys : List D → Option (List PyData)
  | [] => some []
  | x :: xs => (toPy x).bind fun p => (toPys xs).map fun ps => p :: ps
end
section
variable {K : Fg} {H : Hp}
mutual
theorem dp_of : ∀ (d : D) (v : V) (p : PyData), DV K H v d → toPy d = some p → Dp K H v p
  | .non, _, _, h, e => by cases h; cases e; exact .non
  | .bl b, _, _, h, e => by cases h; cases e; exact .bl b
  | .int b, _, _, h, e => by cases h; cases e; exact .int b
  | .str b, _, _, h, e => by cases h; cases e; exact .str b
  | .fn _, _, _, _, e => by cases e
  | .scr _, _, _, _, e => by cases e
  | .tup ds, _, _, h, e => by
    rw [toPy] at e
    obtain ⟨ps, e1, e2⟩ := Option.map_eq_some_iff.mp e
    subst e2
    obtain ⟨a, vs, rfl, s, t⟩ := h.tup_of
    exact .tup s (dps_of ds vs ps t e1)
  | .lst ds, _, _, h, e => by
    rw [toPy] at e
    obtain ⟨ps, e1, e2⟩ := Option.map_eq_some_iff.mp e
    subst e2
    obtain ⟨a, vs, rfl, s, t⟩ := h.lst_of
    exact .lst (.of s) (dps_of ds vs ps t e1)
theorem dps_of : ∀ (ds : List D) (vs : List V) (ps : List PyData), DVs K H vs ds → toPys ds = some ps → DpAll K H vs ps
  | [], _, _, h, e => by cases h; cases e; exact .nil
  | d :: ds, _, _, h, e => by
    rw [toPys] at e
    obtain ⟨p, e1, e2⟩ := Option.bind_eq_some_iff.mp e
    obtain ⟨ps, e3, e4⟩ := Option.map_eq_some_iff.mp e2
    subst e4
    cases h with
    | cons a b => exact .cons (dp_of d _ p a e1) (dps_of ds _ ps b e3)
end
end
/-- == by data: scalars of one kind, or data at any depth -/
def scalD : D → D → Bool
  | .int _, .int _ => true | .bl _, .bl _ => true | .str _, .str _ => true | _, _ => false
def eqB (d e : D) : Option Bool := if scalD d e = true then some (eqF d e) else
  match toPy d, toPy e with
  | some a, some b => if (SeqAt.shaped a && SeqAt.shaped b) = true then some (PyData.eqv a b) else none
  | _, _ => none
def eqD (d e : D) : Option D := (eqB d e).map .bl
def neD (d e : D) : Option D := (eqB d e).map fun b => .bl (!b)
def rEqM (K : Fg) : R2 := fun x y H Q => rEq x y H Q ∨ rEqD K x y H Q
def rNeM (K : Fg) : R2 := fun x y H Q => rNe x y H Q ∨ rNeD K x y H Q
section
variable {X : Cx}
theorem o_eq (hu : X.A.units + 64 < cLine) : OpR X (compareOp .Eq) (rEqM X.K) := op_eq.or (op_eqD hu)
theorem o_ne (hu : X.A.units + 64 < cLine) : OpR X (compareOp .NotEq) (rNeM X.K) := op_ne.or (op_neD hu)
end
theorem eqB_scal {K : Fg} {H : Hp} {x y : V} {d e : D} (hx : DV K H x d) (hy : DV K H y e) (s : scalD d e = true) : scal x y = true ∧ decide (x = y) = eqF d e := by
  cases d <;> (try (cases s; done)) <;> cases e <;> (try (cases s; done)) <;> cases hx <;> cases hy
  · exact ⟨rfl, by rw [dec_bl]; rfl⟩
  · exact ⟨rfl, by rw [dec_int]; rfl⟩
  · exact ⟨rfl, by rw [dec_str]; rfl⟩
theorem eqB_data {d e : D} {b : Bool} (s : scalD d e = false) (h : eqB d e = some b) : ∃ p q, toPy d = some p ∧ toPy e = some q ∧ SeqAt.shaped p = true ∧ SeqAt.shaped q = true ∧ b = PyData.eqv p q := by
  unfold eqB at h
  rw [if_neg (by rw [s]; decide)] at h
  cases h1 : toPy d with
  | none => rw [h1] at h; cases h
  | some p =>
    cases h2 : toPy e with
    | none => rw [h1, h2] at h; cases h
    | some q =>
      rw [h1, h2] at h
      have h' : (if (SeqAt.shaped p && SeqAt.shaped q) = true then some (PyData.eqv p q) else none) = some b := h
      split at h'
      · rename_i c
        obtain ⟨c1, c2⟩ := Bool.and_eq_true_iff.mp c
        cases h'
        exact ⟨p, q, rfl, rfl, c1, c2, rfl⟩
      · cases h'
theorem s_eq {K : Fg} : Op2 K (rEqM K) eqD := by
  intro O H x y d e res Q hd hx hy h q
  obtain ⟨b, hb, rfl⟩ := Option.map_eq_some_iff.mp h
  cases s : scalD d e with
  | true =>
    obtain ⟨h1, h2⟩ := eqB_scal hx hy s
    have : b = eqF d e := by
      unfold eqB at hb
      rw [if_pos s] at hb
      exact (Option.some.inj hb).symm
    subst this
    exact .inl ⟨h1, by rw [h2]; exact q _ H (Same.refl H) (.bl _)⟩
  | false =>
    obtain ⟨p, r, h1, h2, h3, h4, rfl⟩ := eqB_data s hb
    exact .inr ⟨p, r, dp_of d x p (DV.mono (wo_same O H) _ _ hx) h1, dp_of e y r (DV.mono (wo_same O H) _ _ hy) h2, h3, h4, q _ H (Same.refl H) (.bl _)⟩
theorem s_ne {K : Fg} : Op2 K (rNeM K) neD := by
  intro O H x y d e res Q hd hx hy h q
  obtain ⟨b, hb, rfl⟩ := Option.map_eq_some_iff.mp h
  cases s : scalD d e with
  | true =>
    obtain ⟨h1, h2⟩ := eqB_scal hx hy s
    have : b = eqF d e := by
      unfold eqB at hb
      rw [if_pos s] at hb
      exact (Option.some.inj hb).symm
    subst this
    exact .inl ⟨h1, by rw [h2]; exact q _ H (Same.refl H) (.bl _)⟩
  | false =>
    obtain ⟨p, r, h1, h2, h3, h4, rfl⟩ := eqB_data s hb
    exact .inr ⟨p, r, dp_of d x p (DV.mono (wo_same O H) _ _ hx) h1, dp_of e y r (DV.mono (wo_same O H) _ _ hy) h2, h3, h4, q _ H (Same.refl H) (.bl _)⟩
theorem b_eq : ∀ d e z, eqD d e = some z → ∃ b, z = .bl b := fun d e z h => by
  obtain ⟨b, _, rfl⟩ := Option.map_eq_some_iff.mp h
  exact ⟨b, rfl⟩
theorem b_ne : ∀ d e z, neD d e = some z → ∃ b, z = .bl b := fun d e z h => by
  obtain ⟨b, _, rfl⟩ := Option.map_eq_some_iff.mp h
  exact ⟨_, rfl⟩

/-! ### is None, in -/
def isNo : D → Bool
  | .non => true
  | _ => false
def isD : D → D → Option D
  | d, .non => some (.bl (isNo d))
  | _, _ => none
def isntD : D → D → Option D
  | d, .non => some (.bl (!isNo d))
  | _, _ => none
theorem isNo_of {K : Fg} {H : Hp} {v : V} {d : D} (h : DV K H v d) : decide (v = V.non) = isNo d := by
  cases d <;> cases h <;> rfl
theorem s_is {K : Fg} : Op2 K (fun x y H Q => y = .non ∧ Q (.bl (decide (x = .non))) H) isD := by
  intro O H x y d e res Q hd hx hy h q
  cases e <;> (try (cases d <;> cases h; done))
  cases hy
  have h' : some (D.bl (isNo d)) = some res := by cases d <;> exact h
  cases h'
  exact ⟨rfl, by rw [isNo_of hx]; exact q _ H (Same.refl H) (.bl _)⟩
theorem s_isnt {K : Fg} : Op2 K (fun x y H Q => y = .non ∧ Q (.bl (!decide (x = .non))) H) isntD := by
  intro O H x y d e res Q hd hx hy h q
  cases e <;> (try (cases d <;> cases h; done))
  cases hy
  have h' : some (D.bl (!isNo d)) = some res := by cases d <;> exact h
  cases h'
  exact ⟨rfl, by rw [isNo_of hx]; exact q _ H (Same.refl H) (.bl _)⟩
theorem b_is : ∀ d e z, isD d e = some z → ∃ b, z = .bl b := fun d e z h => by
  cases e <;> (try (cases d <;> cases h; done))
  cases d <;> cases h <;> exact ⟨_, rfl⟩
theorem b_isnt : ∀ d e z, isntD d e = some z → ∃ b, z = .bl b := fun d e z h => by
  cases e <;> (try (cases d <;> cases h; done))
  cases d <;> cases h <;> exact ⟨_, rfl⟩
def inB (d : D) (xs : List D) : Option Bool := if (flat d && xs.all flat) = true then some (xs.any fun y => eqF y d) else none
def inD : D → D → Option D
  | d, .tup xs => (inB d xs).map .bl
  | d, .lst xs => (inB d xs).map .bl
  | _, _ => none
def ninD : D → D → Option D
  | d, .tup xs => (inB d xs).map fun b => .bl (!b)
  | d, .lst xs => (inB d xs).map fun b => .bl (!b)
  | _, _ => none
theorem flats_of {K : Fg} {H : Hp} : ∀ {vs : List V} {ds : List D}, DVs K H vs ds → ds.all flat = true → vs = ds.map flV ∧ vs.all flatV = true
  | _, _, .nil, _ => ⟨rfl, rfl⟩
  | _, _, .cons a t, f => by
    rw [List.all_cons, Bool.and_eq_true] at f
    obtain ⟨e1, f1⟩ := flat_of a f.1
    obtain ⟨e2, f2⟩ := flats_of t f.2
    refine ⟨by rw [e1, e2]; rfl, ?_⟩
    rw [List.all_cons, f1, f2]
    rfl
theorem any_flV {d : D} (f : flat d = true) : ∀ {ds : List D}, ds.all flat = true → ((ds.map flV).any fun y => eqV y (flV d)) = ds.any fun y => eqF y d
  | [], _ => rfl
  | e :: ds, g => by
    rw [List.all_cons, Bool.and_eq_true] at g
    rw [List.map_cons, List.any_cons, List.any_cons, eqV_flV g.1 f, any_flV f g.2]
theorem in_core {K : Fg} {H : Hp} {x : V} {vs : List V} {d : D} {ds : List D} {b : Bool} (hx : DV K H x d) (hv : DVs K H vs ds) (h : inB d ds = some b) : flatV x = true ∧ vs.all flatV = true ∧ inV x vs = b := by
  unfold inB at h
  split at h
  · rename_i c
    obtain ⟨c1, c2⟩ := Bool.and_eq_true_iff.mp c
    cases h
    obtain ⟨rfl, f1⟩ := flat_of hx c1
    obtain ⟨rfl, f2⟩ := flats_of hv c2
    exact ⟨f1, f2, any_flV c1 c2⟩
  · cases h
theorem s_in {K : Fg} : Op2 K (rIn K false) inD := by
  intro O H x y d e res Q hd hx hy h q
  cases e <;> (try (cases d <;> cases h; done))
  · rename_i xs
    have h' : (inB d xs).map D.bl = some res := by cases d <;> exact h
    obtain ⟨b, hb, rfl⟩ := Option.map_eq_some_iff.mp h'
    obtain ⟨a, vs, rfl, sa, da⟩ := hy.tup_of
    obtain ⟨f1, f2, rfl⟩ := in_core hx da hb
    exact ⟨a, vs, rfl, .inr (sqT_mono (wo_same O H) sa), f1, f2, q _ H (Same.refl H) (.bl _)⟩
  · rename_i xs
    have h' : (inB d xs).map D.bl = some res := by cases d <;> exact h
    obtain ⟨b, hb, rfl⟩ := Option.map_eq_some_iff.mp h'
    obtain ⟨a, vs, rfl, sa, da⟩ := hy.lst_of
    obtain ⟨f1, f2, rfl⟩ := in_core hx da hb
    exact ⟨a, vs, rfl, .inl (.of (wo_same O H _ _ sa)), f1, f2, q _ H (Same.refl H) (.bl _)⟩
theorem s_nin {K : Fg} : Op2 K (rIn K true) ninD := by
  intro O H x y d e res Q hd hx hy h q
  cases e <;> (try (cases d <;> cases h; done))
  · rename_i xs
    have h' : (inB d xs).map (fun b => D.bl (!b)) = some res := by cases d <;> exact h
    obtain ⟨b, hb, rfl⟩ := Option.map_eq_some_iff.mp h'
    obtain ⟨a, vs, rfl, sa, da⟩ := hy.tup_of
    obtain ⟨f1, f2, rfl⟩ := in_core hx da hb
    exact ⟨a, vs, rfl, .inr (sqT_mono (wo_same O H) sa), f1, f2, q _ H (Same.refl H) (.bl _)⟩
  · rename_i xs
    have h' : (inB d xs).map (fun b => D.bl (!b)) = some res := by cases d <;> exact h
    obtain ⟨b, hb, rfl⟩ := Option.map_eq_some_iff.mp h'
    obtain ⟨a, vs, rfl, sa, da⟩ := hy.lst_of
    obtain ⟨f1, f2, rfl⟩ := in_core hx da hb
    exact ⟨a, vs, rfl, .inl (.of (wo_same O H _ _ sa)), f1, f2, q _ H (Same.refl H) (.bl _)⟩
theorem b_in : ∀ d e z, inD d e = some z → ∃ b, z = .bl b := fun d e z h => by
  cases e <;> (try (cases d <;> cases h; done)) <;> (rename_i xs; have h' : (inB d xs).map D.bl = some z := (by cases d <;> exact h); obtain ⟨b, _, rfl⟩ := Option.map_eq_some_iff.mp h'; exact ⟨b, rfl⟩)
theorem b_nin : ∀ d e z, ninD d e = some z → ∃ b, z = .bl b := fun d e z h => by
  cases e <;> (try (cases d <;> cases h; done)) <;> (rename_i xs; have h' : (inB d xs).map (fun b => D.bl (!b)) = some z := (by cases d <;> exact h); obtain ⟨b, _, rfl⟩ := Option.map_eq_some_iff.mp h'; exact ⟨_, rfl⟩)
end MB

/-! Expressions by values, further: truth, displays, places, calls. -/
namespace MB
open PySem PySem.Spec PyProof.Rows L2

/-! ### truth -/
theorem truV_of {K : Fg} {H : Hp} {v : V} {d : D} {b : Bool} (h : DV K H v d) (t : truth d = some b) : TruV K v H b := by
  cases d <;> (try (cases t; done)) <;> cases h
  · cases t; rfl
  · cases t; rfl
  · cases t; rfl
  · rename_i ds a vs s hs
    cases t
    refine .inr (.inl ⟨vs, s, ?_⟩)
    cases hs <;> rfl
  · rename_i ds a vs s hs
    cases t
    refine .inl ⟨vs, .of s, ?_⟩
    cases hs <;> rfl
def eNot (fa : EX) : EX := fun ρ => (fa ρ).bind fun d ρ1 => match truth d with
  | some b => .ok (.bl (!b)) ρ1
  | none => .stuck
def eAnd (fa fb : EX) : EX := fun ρ => (fa ρ).bind fun d ρ1 => match truth d with
  | some true => fb ρ1
  | some false => .ok d ρ1
  | none => .stuck
def eOr (fa fb : EX) : EX := fun ρ => (fa ρ).bind fun d ρ1 => match truth d with
  | some true => .ok d ρ1
  | some false => fb ρ1
  | none => .stuck
def eIf (ft fa fb : EX) : EX := fun ρ => (ft ρ).bind fun d ρ1 => match truth d with
  | some true => fa ρ1
  | some false => fb ρ1
  | none => .stuck
section
variable {X : Cx} {hx : Hx} {W : WX} {a b c : Expr} {rest : List Expr} {fa fb fc : EX} {pos : Pos}
/-- an expression of any kind as a test -/
theorem r_tru (ha : PE X a (tX X.K hx W fa)) (he : ∀ whole, isTrue a X.env whole = (do let v ← whole; standAt a.pos; holding [v] (truthy v)) := by intro _; rfl) : PT X a (tT X.K hx W fa) :=
  (pt_truth ha he).imp fun σ H Q h => by
    obtain ⟨F, ρ, ⟨O, r⟩, hp⟩ := h
    refine ⟨F, ρ, ⟨O, r⟩, ?_⟩
    cases e : fa ρ with
    | ok d ρ1 =>
      rw [e] at hp
      obtain ⟨k, hb, hk⟩ := hp
      intro v H1 hv
      obtain ⟨O1, r1, dv⟩ := hv
      exact ⟨k, truV_of (DV.mono (wo_same O1 H1) _ _ dv) hb, hk H1 ⟨O1, r1⟩⟩
    | err x ρ1 => rw [e] at hp; exact hp
    | stuck => rw [e] at hp; exact hp
theorem r_notT (ha : PT X a (tT X.K hx W fa)) : PT X (.UnaryOp .Not a pos) (tT X.K hx W (eNot fa)) :=
  (pt_not ha).imp fun σ H Q h => by
    obtain ⟨F, ρ, ⟨O, r⟩, hp⟩ := h
    refine bindTT r hp (fun d ρ1 q => ?_) fun d b ρ1 H1 O1 tb r1 s1 q => ?_
    · cases t : truth d with
      | none => rw [t] at q; exact q.elim
      | some b => exact ⟨b, rfl⟩
    · rw [tb] at q
      obtain ⟨b', hb', k⟩ := q
      cases hb'
      exact k H1 ⟨O1, r1⟩
theorem r_not (ha : PE X a (tX X.K hx W fa)) : PE X (.UnaryOp .Not a pos) (tX X.K hx W (eNot fa)) :=
  (pe_notT ha).imp fun σ H Q h => by
    obtain ⟨F, ρ, ⟨O, r⟩, hp⟩ := h
    refine bindX r hp fun d ρ1 v H1 O1 r1 s1 dv q => ?_
    cases t : truth d with
    | none => rw [t] at q; exact q.elim
    | some b =>
      rw [t] at q
      exact ⟨b, truV_of (DV.mono (wo_same O1 H1) _ _ dv) t, q _ H1 ⟨O1, r1, .bl _⟩⟩
theorem r_and (ha : PE X a (tX X.K hx W fa)) (hb : PE X (.BoolOp .And (b :: rest) pos) (tX X.K hx W fb)) : PE X (.BoolOp .And (a :: b :: rest) pos) (tX X.K hx W (eAnd fa fb)) :=
  (pe_andT ha hb).imp fun σ H Q h => by
    obtain ⟨F, ρ, ⟨O, r⟩, hp⟩ := h
    refine bindX r hp fun d ρ1 v H1 O1 r1 s1 dv q => ?_
    cases t : truth d with
    | none => rw [t] at q; exact q.elim
    | some b =>
      rw [t] at q
      refine ⟨b, truV_of (DV.mono (wo_same O1 H1) _ _ dv) t, ?_⟩
      cases b with
      | true =>
        first
          | exact ⟨F, ρ1, ⟨O1, r1⟩, q⟩
          | (rw [if_pos rfl]; exact ⟨F, ρ1, ⟨O1, r1⟩, q⟩)
      | false =>
        first
          | exact q _ H1 ⟨O1, r1, dv⟩
          | (rw [if_neg Bool.false_ne_true]; exact q _ H1 ⟨O1, r1, dv⟩)
theorem r_or (ha : PE X a (tX X.K hx W fa)) (hb : PE X (.BoolOp .Or (b :: rest) pos) (tX X.K hx W fb)) : PE X (.BoolOp .Or (a :: b :: rest) pos) (tX X.K hx W (eOr fa fb)) :=
  (pe_orT ha hb).imp fun σ H Q h => by
    obtain ⟨F, ρ, ⟨O, r⟩, hp⟩ := h
    refine bindX r hp fun d ρ1 v H1 O1 r1 s1 dv q => ?_
    cases t : truth d with
    | none => rw [t] at q; exact q.elim
    | some b =>
      rw [t] at q
      refine ⟨b, truV_of (DV.mono (wo_same O1 H1) _ _ dv) t, ?_⟩
      cases b with
      | true =>
        first
          | exact q _ H1 ⟨O1, r1, dv⟩
          | (rw [if_pos rfl]; exact q _ H1 ⟨O1, r1, dv⟩)
      | false =>
        first
          | exact ⟨F, ρ1, ⟨O1, r1⟩, q⟩
          | (rw [if_neg Bool.false_ne_true]; exact ⟨F, ρ1, ⟨O1, r1⟩, q⟩)
theorem r_one {op} (ha : PE X a (tX X.K hx W fa)) : PE X (.BoolOp op [a] pos) (tX X.K hx W fa) := pe_one ha
theorem r_andT (ha : PT X a (tT X.K hx W fa)) (hb : PW X (.BoolOp .And (b :: rest) pos) (tT X.K hx W fb)) : PW X (.BoolOp .And (a :: b :: rest) pos) (tT X.K hx W (eAnd fa fb)) :=
  (pw_and ha hb).imp fun σ H Q h => by
    obtain ⟨F, ρ, ⟨O, r⟩, hp⟩ := h
    refine bindTT r hp (fun d ρ1 q => ?_) fun d b ρ1 H1 O1 tb r1 s1 q => ?_
    · cases t : truth d with
      | none => rw [t] at q; exact q.elim
      | some b => exact ⟨b, rfl⟩
    · rw [tb] at q
      cases b with
      | true =>
        rw [if_pos rfl]
        exact ⟨F, ρ1, ⟨O1, r1⟩, q⟩
      | false =>
        rw [if_neg Bool.false_ne_true]
        obtain ⟨b', hb', k⟩ := q
        rw [tb] at hb'
        cases hb'
        exact k H1 ⟨O1, r1⟩
theorem r_orT (ha : PT X a (tT X.K hx W fa)) (hb : PW X (.BoolOp .Or (b :: rest) pos) (tT X.K hx W fb)) : PW X (.BoolOp .Or (a :: b :: rest) pos) (tT X.K hx W (eOr fa fb)) :=
  (pw_or ha hb).imp fun σ H Q h => by
    obtain ⟨F, ρ, ⟨O, r⟩, hp⟩ := h
    refine bindTT r hp (fun d ρ1 q => ?_) fun d b ρ1 H1 O1 tb r1 s1 q => ?_
    · cases t : truth d with
      | none => rw [t] at q; exact q.elim
      | some b => exact ⟨b, rfl⟩
    · rw [tb] at q
      cases b with
      | true =>
        rw [if_pos rfl]
        obtain ⟨b', hb', k⟩ := q
        rw [tb] at hb'
        cases hb'
        exact k H1 ⟨O1, r1⟩
      | false =>
        rw [if_neg Bool.false_ne_true]
        exact ⟨F, ρ1, ⟨O1, r1⟩, q⟩
theorem r_andT1 (ha : PT X a (tT X.K hx W fa)) : PW X (.BoolOp .And [a] pos) (tT X.K hx W fa) := pw_and1 ha
theorem r_orT1 (ha : PT X a (tT X.K hx W fa)) : PW X (.BoolOp .Or [a] pos) (tT X.K hx W fa) := pw_or1 ha
theorem r_ifE (hc : PT X c (tT X.K hx W fc)) (ha : PE X a (tX X.K hx W fa)) (hb : PE X b (tX X.K hx W fb)) : PE X (.IfExp c a b pos) (tX X.K hx W (eIf fc fa fb)) :=
  (pe_ifExp hc ha hb).imp fun σ H Q h => by
    obtain ⟨F, ρ, ⟨O, r⟩, hp⟩ := h
    refine bindT r hp (fun d ρ1 q => ?_) fun d b ρ1 H1 O1 tb r1 s1 q => ?_
    · cases t : truth d with
      | none => rw [t] at q; exact q.elim
      | some b => exact ⟨b, rfl⟩
    · rw [tb] at q
      cases b with
      | true =>
        rw [if_pos rfl]
        exact ⟨F, ρ1, ⟨O1, r1⟩, q⟩
      | false =>
        rw [if_neg Bool.false_ne_true]
        exact ⟨F, ρ1, ⟨O1, r1⟩, q⟩
/-! ### a chain of two comparisons -/
def eChain (f g : D → D → Option D) (fa fb fc : EX) : EX := fun ρ => (fa ρ).bind fun d ρ1 => (fb ρ1).bind fun e ρ2 => match f d e with
  | some (.bl true) => (fc ρ2).bind fun z ρ3 => match g e z with
    | some y => .ok y ρ3
    | none => .stuck
  | some (.bl false) => .ok (.bl false) ρ2
  | _ => .stuck
theorem r_chainT {op op' : CmpOp} {r r' : R2} {f g : D → D → Option D} (ho : OpR X (compareOp op) r) (ho' : OpR X (compareOp op') r') (h2 : Op2 X.K r f) (h2' : Op2 X.K r' g) (hbl : ∀ d e z, g d e = some z → ∃ b, z = .bl b)
    (ha : PE X a (tX X.K hx W fa)) (hb : PE X b (tX X.K hx W fb)) (hc : PE X c (tX X.K hx W fc)) (hm : lastMarks [op, op'] [b, c] = false := by with_unfolding_all rfl) :
    PT X (.Compare a [op, op'] [b, c] pos) (tT X.K hx W (eChain f g fa fb fc)) :=
  (pt_chain ho ho' ha hb hc hm).imp fun σ H Q h => by
    obtain ⟨F, ρ, ⟨O, r⟩, hp⟩ := h
    refine bindXT r hp fun d ρ1 v H1 O1 r1 s1 dv hp1 => ?_
    refine bindXT r1 hp1 fun e ρ2 u H2 O2 r2 s2 du hp2 => ?_
    cases q : f d e with
    | none => rw [q] at hp2; exact hp2.elim
    | some z =>
      rw [q] at hp2
      refine h2 O2 H2 v u d e z _ r2.dom (DV.mono s2 _ _ dv) du q fun v' H' s' dv' => ?_
      cases z <;> (try exact (hp2 : False).elim)
      rename_i b
      cases dv'
      refine ⟨b, rfl, ?_⟩
      have r3 := r2.grow s'
      cases b with
      | false =>
        rw [if_neg Bool.false_ne_true]
        obtain ⟨b', hb', k⟩ := hp2
        cases hb'
        exact ⟨false, rfl, k H' ⟨O2, r3⟩⟩
      | true =>
        rw [if_pos rfl]
        refine bindXT r3 hp2 fun z ρ3 w' H4 O4 r4 s4 dw hp3 => ?_
        cases q2 : g e z with
        | none => rw [q2] at hp3; exact hp3.elim
        | some y =>
          rw [q2] at hp3
          obtain ⟨b2, rfl⟩ := hbl e z y q2
          refine h2' O4 H4 u w' e z _ _ r4.dom (DV.mono ((wo_mono s').trans s4) _ _ du) dw q2 fun v5 H5 s5 dv5 => ?_
          cases dv5
          obtain ⟨b', hb', k⟩ := hp3
          cases hb'
          exact ⟨b2, rfl, k H5 ⟨O4, r4.grow s5⟩⟩
end

/-! ### one value -/
def Op1 (K : Fg) (r : V → Hp → VK → Prop) (op : D → Option D) : Prop := ∀ (O : List Addr) (H : Hp) (x : V) (d res : D) (Q : VK), (∀ a ∈ O, ∃ o, H a = some o) → DV K (wo O H) x d → op d = some res →
  (∀ v H', Same H H' → DV K (wo O H') v res → Q v H') → r x H Q
def e1 (op : D → Option D) (fa : EX) : EX := fun ρ => (fa ρ).bind fun d ρ1 => match op d with
  | some z => .ok z ρ1
  | none => .stuck
def negD : D → Option D
  | .int i => some (.int (-i))
  | _ => none
theorem s_neg {K : Fg} : Op1 K (rU fun i => .int (-i)) negD := by
  intro O H x d res Q hd hx h q
  cases d <;> (try (cases h; done))
  cases hx; cases h
  exact ⟨_, rfl, q _ H (Same.refl H) (.int _)⟩
theorem r_un {X : Cx} {hx : Hx} {W : WX} {op : UnaryOp} {r : V → Hp → VK → Prop} {f : D → Option D} {a : Expr} {fa : EX} {pos : Pos} (ho : UnR X (unaryOp op) r) (h1 : Op1 X.K r f) (ha : PE X a (tX X.K hx W fa)) :
    PE X (.UnaryOp op a pos) (tX X.K hx W (e1 f fa)) := (pe_un ho ha).imp fun σ H Q h => by
  obtain ⟨F, ρ, ⟨O, r0⟩, hp⟩ := h
  refine bindX r0 hp fun d ρ1 v H1 O1 r1 s1 dv hp1 => ?_
  cases q : f d with
  | none => rw [q] at hp1; exact hp1.elim
  | some z =>
    rw [q] at hp1
    exact h1 O1 H1 v d z Q r1.dom dv q fun v' H' s' dv' => hp1 v' H' ⟨O1, r1.grow s', dv'⟩

/-! ### several values, from the left -/
def evs : List EX → (List D → En → Rs) → En → Rs
  | [], k, ρ => k [] ρ
  | f :: fs, k, ρ => (f ρ).bind fun d ρ1 => evs fs (fun ds ρ2 => k (d :: ds) ρ2) ρ1
def tA (K : Fg) (hx : Hx) (W : WX) (fs : List EX) : TA := fun σ H Qa => ∃ (F : Fm) (ρ : En) (k : List D → En → Rs) (Q : VK), Rl K hx F ρ σ H ∧ Po K hx F W σ (evs fs k ρ) Q ∧
  ∀ (F1 : Fm) (ds : List D) (ρ1 : En) (vs : List V) (H1 : Hp) (O1 : List Addr), ds.length = fs.length → Same F.f F1.f → F.g = F1.g → RO K hx F1 ρ1 σ H1 O1 → DVs K (wo O1 H1) vs ds → Po K hx F1 W σ (k ds ρ1) Q → Qa vs H1
theorem _root_.L2.PA.imp {X : Cx} {es : List Expr} {t t' : TA} (h : PA X es t) (i : ∀ σ H Q, t' σ H Q → t σ H Q) : PA X es t' := ⟨fun pos pins s σ H Q I q => h.run pos pins s σ H Q I (i σ H Q q)⟩
section
variable {X : Cx} {hx : Hx} {W : WX} {e : Expr} {es : List Expr} {f : EX} {fs : List EX} {pos : Pos}
theorem a_nil : PA X [] (tA X.K hx W []) := pa_nil.imp fun σ H Q h => by
  obtain ⟨F, ρ, k, Q0, ⟨O, r⟩, hp, hk⟩ := h
  exact hk F [] ρ [] H O rfl (fun _ _ z => z) rfl r .nil hp
theorem a_cons (ha : PE X e (tX X.K hx W f)) (hr : PA X es (tA X.K hx W fs)) (hs : starEach (e :: es) X.env = (false, eval e X.env) :: starEach es X.env := by rfl) : PA X (e :: es) (tA X.K hx W (f :: fs)) :=
  (pa_cons ha hr hs).imp fun σ H Qa h => by
    obtain ⟨F, ρ, k, Q, ⟨O, r⟩, hp, hk⟩ := h
    refine bindX r hp fun d ρ1 v H1 O1 r1 s1 dv hp1 => ?_
    refine ⟨⟨wo O1 H1, F.g⟩, ρ1, fun ds ρ2 => k (d :: ds) ρ2, Q, ⟨O1, r1.re⟩, hp1.fr r1.fr rfl, fun F1 ds ρ2 vs H2 O2 ln s2 g2 r2 dvs q => ?_⟩
    exact hk F1 (d :: ds) ρ2 (v :: vs) H2 O2 (by rw [List.length_cons, List.length_cons, ln]) (r1.fr.trans s2) g2 r2 (.cons (DV.mono (s2.trans r2.fr) _ _ dv) dvs) q
/-- a reading over arguments from one of all of them -/
theorem tA_of {K : Fg} {F : Fm} {ρ : En} {σ : MB.St} {H : Hp} {O : List Addr} {k : List D → En → Rs} {Q : VK} {Qa : List V → Hp → Prop} (r : RO K hx F ρ σ H O) (hp : Po K hx F W σ (evs fs k ρ) Q)
    (hk : ∀ (F1 : Fm) (ds : List D) (ρ1 : En) (vs : List V) (H1 : Hp) (O1 : List Addr), ds.length = fs.length → RO K hx F1 ρ1 σ H1 O1 → DVs K (wo O1 H1) vs ds → Po K hx F1 W σ (k ds ρ1) Q → Qa vs H1) : tA K hx W fs σ H Qa :=
  ⟨F, ρ, k, Q, ⟨O, r⟩, hp, fun F1 ds ρ1 vs H1 O1 ln _ _ r1 d1 p1 => hk F1 ds ρ1 vs H1 O1 ln r1 d1 p1⟩
def eTup (fs : List EX) : EX := evs fs fun ds ρ => if ds.length ≤ 1000 then .ok (.tup ds) ρ else .stuck
def eLst (fs : List EX) : EX := evs fs fun ds ρ => if ds.length ≤ 1000 then .ok (.lst ds) ρ else .stuck
theorem le_line {n : Nat} (h : n ≤ 1000) : n ≤ sizeLine := by rw [sizeLine_eq]; omega
theorem r_tup {n : Nat} (h : PA X es (tA X.K hx W fs)) : PE X (.Tuple es n pos) (tX X.K hx W (eTup fs)) := (pe_tup h).imp fun σ H Q h => by
  obtain ⟨F, ρ, ⟨O, r⟩, hp⟩ := h
  refine tA_of r hp fun F1 ds ρ1 vs H1 O1 _ r1 dvs q => ?_
  split at q
  · rename_i hl
    refine ⟨le_line (by rw [dvs.length]; exact hl), fun p np => ?_⟩
    exact q _ _ ⟨O1, r1.grow (same_upd np), DV.newT r1.dom np dvs⟩
  · exact q.elim
theorem r_lst (h : PA X es (tA X.K hx W fs)) : PE X (.List es pos) (tX X.K hx W (eLst fs)) := (pe_lst h).imp fun σ H Q h => by
  obtain ⟨F, ρ, ⟨O, r⟩, hp⟩ := h
  refine tA_of r hp fun F1 ds ρ1 vs H1 O1 _ r1 dvs q => ?_
  split at q
  · rename_i hl
    refine ⟨le_line (by rw [dvs.length]; exact hl), fun p np => ?_⟩
    exact q _ _ ⟨O1, r1.grow (same_upd np), DV.newL r1.dom np dvs⟩
  · exact q.elim
end

/-! ### calls of built-ins -/
def CallD (K : Fg) (r : List V → Hp → VK → Prop) (f : List D → Option D) : Prop := ∀ (O : List Addr) (H : Hp) (vs : List V) (ds : List D) (res : D) (Q : VK), (∀ a ∈ O, ∃ o, H a = some o) → DVs K (wo O H) vs ds → f ds = some res →
  (∀ v H', Same H H' → DV K (wo O H') v res → Q v H') → r vs H Q
def eCall (f : List D → Option D) (fs : List EX) : EX := evs fs fun ds ρ => match f ds with
  | some d => .ok d ρ
  | none => .stuck
section
variable {X : Cx} {hx : Hx} {W : WX} {e : Expr} {es : List Expr} {fs : List EX} {pos p : Pos} {x : Str} {r : List V → Hp → VK → Prop} {f : List D → Option D}
theorem t_call (hf : CallD X.K r f) {σ : MB.St} {H : Hp} {Q : VK} (h : tX X.K hx W (eCall f fs) σ H Q) : tCB r (tA X.K hx W fs) σ H Q := by
  obtain ⟨F, ρ, ⟨O, r0⟩, hp⟩ := h
  refine tA_of r0 hp fun F1 ds ρ1 vs H1 O1 _ r1 dvs q => ?_
  cases e : f ds with
  | none => rw [e] at q; exact q.elim
  | some d =>
    rw [e] at q
    exact hf O1 H1 vs ds d Q r1.dom dvs e fun v' H' s' dv' => q v' H' ⟨O1, r1.grow s', dv'⟩
theorem r_callB {id : String} (hc : CallR X (.builtin id) r) (hf : CallD X.K r f) (hm : X.mg x = none) (hv : bootBuiltins x = some (.builtin id)) (ha : PA X (e :: es) (tA X.K hx W fs)) (hg : Gl X x := by rfl) (hn : x ≠ "__name__" := by decide) (hdb : (x == ("__debug__" : Str)) = false := by decide)
    (he : starEach (e :: es) X.env = (false, eval e X.env) :: starEach es X.env := by rfl) (hpl : (backTo pos (starEach es X.env)).any (·.1) = false := by rfl) : PE X (.Call (.Name x p) (e :: es) [] pos) (tX X.K hx W (eCall f fs)) :=
  (pe_callB hc hg hm hv ha hn hdb he hpl).imp fun _ _ _ h => t_call hf h
theorem r_callTy {T : String} (hc : CallR X (.type T) r) (hf : CallD X.K r f) (hm : X.mg x = none) (hv : bootBuiltins x = some (.type T)) (ha : PA X (e :: es) (tA X.K hx W fs)) (hg : Gl X x := by rfl) (hn : x ≠ "__name__" := by decide) (hdb : (x == ("__debug__" : Str)) = false := by decide)
    (he : starEach (e :: es) X.env = (false, eval e X.env) :: starEach es X.env := by rfl) (hpl : (backTo pos (starEach es X.env)).any (·.1) = false := by rfl) : PE X (.Call (.Name x p) (e :: es) [] pos) (tX X.K hx W (eCall f fs)) :=
  (pe_callTy hc hg hm hv ha hn hdb he hpl).imp fun _ _ _ h => t_call hf h
end
end MB

/-! Built-in functions, places, slices, by values. -/
namespace MB
open PySem PySem.Spec PyProof.Rows L2

/-! ### the built-in functions -/
def asInts : List D → Option (List Int)
  | [] => some []
  | .int i :: r => (asInts r).map fun ns => i :: ns
  | _ :: _ => none
theorem asInts_ok : ∀ {ds : List D} {ns : List Int}, asInts ds = some ns → ds = ns.map D.int
  | [], _, h => by cases h; rfl
  | d :: ds, ns, h => by
    cases d <;> (try (cases h; done))
    rename_i i
    have h' : (asInts ds).map (fun ns => i :: ns) = some ns := h
    obtain ⟨ms, e1, e2⟩ := Option.map_eq_some_iff.mp h'
    subst e2
    rw [asInts_ok e1]
    rfl
theorem asInts_map : ∀ (ns : List Int), asInts (ns.map D.int) = some ns
  | [] => rfl
  | n :: ns => by
    show (asInts (ns.map D.int)).map (fun ns => n :: ns) = _
    rw [asInts_map ns]
    rfl
def asBools : List D → Option (List Bool)
  | [] => some []
  | .bl i :: r => (asBools r).map fun ns => i :: ns
  | _ :: _ => none
theorem asBools_ok : ∀ {ds : List D} {ns : List Bool}, asBools ds = some ns → ds = ns.map D.bl
  | [], _, h => by cases h; rfl
  | d :: ds, ns, h => by
    cases d <;> (try (cases h; done))
    rename_i i
    have h' : (asBools ds).map (fun ns => i :: ns) = some ns := h
    obtain ⟨ms, e1, e2⟩ := Option.map_eq_some_iff.mp h'
    subst e2
    rw [asBools_ok e1]
    rfl
theorem asBools_map : ∀ (ns : List Bool), asBools (ns.map D.bl) = some ns
  | [] => rfl
  | n :: ns => by
    show (asBools (ns.map D.bl)).map (fun ns => n :: ns) = _
    rw [asBools_map ns]
    rfl
theorem DVs.bools {K : Fg} {H : Hp} : ∀ {vs : List V} {ns : List Bool}, DVs K H vs (ns.map D.bl) → vs = ns.map V.bl
  | vs, [], h => by cases h; rfl
  | vs, n :: ns, h => by
    cases h with
    | cons a t => cases a; rw [DVs.bools t]; rfl
def lenD : List D → Option D
  | [.tup xs] => some (.int xs.length)
  | [.lst xs] => some (.int xs.length)
  | [.scr xs] => some (.int xs.length)
  | [.str x] => if x.length ≤ sizeLine then some (.int x.length) else none
  | _ => none
def intD : List D → Option D
  | [.int i] => some (.int i)
  | [.bl b] => some (.int (if b then 1 else 0))
  | _ => none
def absD : List D → Option D
  | [.int i] => some (.int (if i < 0 then -i else i))
  | _ => none
def minD : List D → Option D
  | [.int i, .int j] => some (.int (if j < i then j else i))
  | _ => none
def maxD : List D → Option D
  | [.int i, .int j] => some (.int (if j > i then j else i))
  | _ => none
def sumD : List D → Option D
  | [.lst xs] => (asInts xs).map fun ns => .int ns.sum
  | _ => none
def allD : List D → Option D
  | [.lst xs] => (asBools xs).map fun ns => .bl (ns.all id)
  | _ => none
def anyD : List D → Option D
  | [.lst xs] => (asBools xs).map fun ns => .bl (ns.any id)
  | _ => none
def sortI (ns : List Int) : List Int := ns.mergeSort fun a b => decide (a ≤ b)
def sortedD : List D → Option D
  | [.lst xs] => (asInts xs).map fun ns => .lst ((sortI ns).map .int)
  | _ => none
def listD : List D → Option D
  | [.lst xs] => some (.lst xs)
  | [.tup xs] => some (.lst xs)
  | _ => none
def tupleD : List D → Option D
  | [.lst xs] => some (.tup xs)
  | [.tup xs] => some (.tup xs)
  | _ => none
def divmodD : List D → Option D
  | [.int i, .int j] => if j ≠ 0 ∧ j.natAbs < 1073741824 then some (.tup [.int (i.fdiv j), .int (i.fmod j)]) else none
  | _ => none
theorem DVs.one {K : Fg} {H : Hp} {vs : List V} {d : D} (h : DVs K H vs [d]) : ∃ v, vs = [v] ∧ DV K H v d := by
  cases h with
  | cons a t => cases t; exact ⟨_, rfl, a⟩
theorem DVs.two {K : Fg} {H : Hp} {vs : List V} {d e : D} (h : DVs K H vs [d, e]) : ∃ v u, vs = [v, u] ∧ DV K H v d ∧ DV K H u e := by
  cases h with
  | cons a t =>
    obtain ⟨u, rfl, b⟩ := t.one
    exact ⟨_, u, rfl, a, b⟩
theorem sort_unique {a b : List Int} (p : a.Perm b) (ha : a.Pairwise (· ≤ ·)) (hb : b.Pairwise (· ≤ ·)) : a = b :=
  p.eq_of_pairwise (fun x y _ _ h1 h2 => Int.le_antisymm h1 h2) ha hb
theorem sortI_perm (ns : List Int) : (sortI ns).Perm ns := List.mergeSort_perm ns _
theorem sortI_sorted (ns : List Int) : (sortI ns).Pairwise (· ≤ ·) :=
  (List.pairwise_mergeSort (le := fun a b : Int => decide (a ≤ b)) (fun a b c h1 h2 => decide_eq_true (Int.le_trans (of_decide_eq_true h1) (of_decide_eq_true h2))) (fun a b => by
    rcases Int.le_total a b with h | h
    · rw [decide_eq_true h]; rfl
    · rw [decide_eq_true h, Bool.or_true]) ns).imp fun h => of_decide_eq_true h
section
variable {K : Fg} {X : Cx}
theorem s_len : CallD K (fun xs H Q => ∃ x n, xs = [x] ∧ LenV K x H n ∧ Q (.int n) H) lenD := by
  intro O H vs ds res Q hd hv h q
  match ds, h with
  | [.tup xs], h =>
    cases h
    obtain ⟨v, rfl, dv⟩ := hv.one
    obtain ⟨a, ws, rfl, s, t⟩ := dv.tup_of
    exact ⟨_, xs.length, rfl, .inr ⟨ws, sqT_mono (wo_same O H) s, t.length.symm⟩, q _ H (Same.refl H) (.int _)⟩
  | [.lst xs], h =>
    cases h
    obtain ⟨v, rfl, dv⟩ := hv.one
    obtain ⟨a, ws, rfl, s, t⟩ := dv.lst_of
    exact ⟨_, xs.length, rfl, .inl ⟨ws, .of (wo_same O H _ _ s), t.length.symm⟩, q _ H (Same.refl H) (.int _)⟩
  | [.scr xs], h =>
    cases h
    obtain ⟨v, rfl, dv⟩ := hv.one
    cases dv with
    | scr s => exact ⟨_, xs.length, rfl, .inl ⟨_, (wo_same O H).seq s, by rw [List.length_map]⟩, q _ H (Same.refl H) (.int _)⟩
  | [.str x], h =>
    have h' : (if x.length ≤ sizeLine then some (D.int x.length) else none) = some res := h
    by_cases hl : x.length ≤ sizeLine
    · rw [if_pos hl] at h'
      cases h'
      obtain ⟨v, rfl, dv⟩ := hv.one
      cases dv
      exact ⟨_, x.length, rfl, ⟨hl, rfl⟩, q _ H (Same.refl H) (.int _)⟩
    · rw [if_neg hl] at h'
      cases h'
theorem s_int : CallD K (fun xs H Q => (∃ i, xs = [.int i] ∧ Q (.int i) H) ∨ ∃ k, xs = [.bl k] ∧ Q (.int (if k then 1 else 0)) H) intD := by
  intro O H vs ds res Q hd hv h q
  match ds, h with
  | [.int i], h =>
    cases h
    obtain ⟨v, rfl, dv⟩ := hv.one
    cases dv
    exact .inl ⟨_, rfl, q _ H (Same.refl H) (.int _)⟩
  | [.bl i], h =>
    cases h
    obtain ⟨v, rfl, dv⟩ := hv.one
    cases dv
    exact .inr ⟨_, rfl, q _ H (Same.refl H) (.int _)⟩
theorem s_abs : CallD K (fun xs H Q => ∃ i, xs = [.int i] ∧ Q (.int (if i < 0 then -i else i)) H) absD := by
  intro O H vs ds res Q hd hv h q
  match ds, h with
  | [.int i], h =>
    cases h
    obtain ⟨v, rfl, dv⟩ := hv.one
    cases dv
    exact ⟨_, rfl, q _ H (Same.refl H) (.int _)⟩
theorem s_min : CallD K (fun xs H Q => ∃ i j, xs = [.int i, .int j] ∧ Q (.int (if j < i then j else i)) H) minD := by
  intro O H vs ds res Q hd hv h q
  match ds, h with
  | [.int i, .int j], h =>
    cases h
    obtain ⟨v, u, rfl, dv, du⟩ := hv.two
    cases dv; cases du
    exact ⟨_, _, rfl, q _ H (Same.refl H) (.int _)⟩
theorem s_max : CallD K (fun xs H Q => ∃ i j, xs = [.int i, .int j] ∧ Q (.int (if j > i then j else i)) H) maxD := by
  intro O H vs ds res Q hd hv h q
  match ds, h with
  | [.int i, .int j], h =>
    cases h
    obtain ⟨v, u, rfl, dv, du⟩ := hv.two
    cases dv; cases du
    exact ⟨_, _, rfl, q _ H (Same.refl H) (.int _)⟩
theorem s_sum : CallD K (rSum K) sumD := by
  intro O H vs ds res Q hd hv h q
  match ds, h with
  | [.lst xs], h =>
    have h' : (asInts xs).map (fun ns => D.int ns.sum) = some res := h
    obtain ⟨ns, e1, rfl⟩ := Option.map_eq_some_iff.mp h'
    have e := asInts_ok e1
    subst e
    obtain ⟨v, rfl, dv⟩ := hv.one
    obtain ⟨a, ws, rfl, s, t⟩ := dv.lst_of
    have ew := t.ints
    subst ew
    exact ⟨a, ns, rfl, .of (wo_same O H _ _ s), q _ H (Same.refl H) (.int _)⟩
theorem s_all : CallD K (rAll K) allD := by
  intro O H vs ds res Q hd hv h q
  match ds, h with
  | [.lst xs], h =>
    have h' : (asBools xs).map (fun ns => D.bl (ns.all id)) = some res := h
    obtain ⟨ns, e1, rfl⟩ := Option.map_eq_some_iff.mp h'
    have e := asBools_ok e1
    subst e
    obtain ⟨v, rfl, dv⟩ := hv.one
    obtain ⟨a, ws, rfl, s, t⟩ := dv.lst_of
    have ew := t.bools
    subst ew
    exact ⟨a, ns, rfl, .of (wo_same O H _ _ s), q _ H (Same.refl H) (.bl _)⟩
theorem s_any : CallD K (rAny K) anyD := by
  intro O H vs ds res Q hd hv h q
  match ds, h with
  | [.lst xs], h =>
    have h' : (asBools xs).map (fun ns => D.bl (ns.any id)) = some res := h
    obtain ⟨ns, e1, rfl⟩ := Option.map_eq_some_iff.mp h'
    have e := asBools_ok e1
    subst e
    obtain ⟨v, rfl, dv⟩ := hv.one
    obtain ⟨a, ws, rfl, s, t⟩ := dv.lst_of
    have ew := t.bools
    subst ew
    exact ⟨a, ns, rfl, .of (wo_same O H _ _ s), q _ H (Same.refl H) (.bl _)⟩
theorem s_sorted : CallD K (rSortedI K) sortedD := by
  intro O H vs ds res Q hd hv h q
  match ds, h with
  | [.lst xs], h =>
    have h' : (asInts xs).map (fun ns => D.lst ((sortI ns).map .int)) = some res := h
    obtain ⟨ns, e1, rfl⟩ := Option.map_eq_some_iff.mp h'
    have e := asInts_ok e1
    subst e
    obtain ⟨v, rfl, dv⟩ := hv.one
    obtain ⟨a, ws, rfl, s, t⟩ := dv.lst_of
    have ew := t.ints
    subst ew
    refine ⟨a, ns, rfl, .of (wo_same O H _ _ s), fun ns' p p1 p2 np => ?_⟩
    have e : ns' = sortI ns := sort_unique (p1.trans (sortI_perm ns).symm) p2 (sortI_sorted ns)
    subst e
    exact q _ _ (same_upd np) (DV.newL hd np (DVs.of_ints _))
theorem s_list : CallD K (fun xs H Q => ∃ p ys, xs = [.ref p] ∧ (SqL K H p ys ∨ SqT K H p ys) ∧ ∀ l, H l = none → Q (.ref l) (upd H l (.lst ys))) listD := by
  intro O H vs ds res Q hd hv h q
  match ds, h with
  | [.lst xs], h =>
    cases h
    obtain ⟨v, rfl, dv⟩ := hv.one
    obtain ⟨a, ws, rfl, s, t⟩ := dv.lst_of
    exact ⟨a, ws, rfl, .inl (.of (wo_same O H _ _ s)), fun l nl => q _ _ (same_upd nl) (DV.newL hd nl t)⟩
  | [.tup xs], h =>
    cases h
    obtain ⟨v, rfl, dv⟩ := hv.one
    obtain ⟨a, ws, rfl, s, t⟩ := dv.tup_of
    exact ⟨a, ws, rfl, .inr (sqT_mono (wo_same O H) s), fun l nl => q _ _ (same_upd nl) (DV.newL hd nl t)⟩
theorem s_tuple : CallD K (fun xs H Q => ∃ p ys, xs = [.ref p] ∧ ((SqL K H p ys ∧ ∀ l, H l = none → Q (.ref l) (upd H l (.tup ys))) ∨ (SqT K H p ys ∧ Q (.ref p) H))) tupleD := by
  intro O H vs ds res Q hd hv h q
  match ds, h with
  | [.lst xs], h =>
    cases h
    obtain ⟨v, rfl, dv⟩ := hv.one
    obtain ⟨a, ws, rfl, s, t⟩ := dv.lst_of
    exact ⟨a, ws, rfl, .inl ⟨.of (wo_same O H _ _ s), fun l nl => q _ _ (same_upd nl) (DV.newT hd nl t)⟩⟩
  | [.tup xs], h =>
    cases h
    obtain ⟨v, rfl, dv⟩ := hv.one
    obtain ⟨a, ws, rfl, s, t⟩ := dv.tup_of
    exact ⟨a, ws, rfl, .inr ⟨sqT_mono (wo_same O H) s, q _ H (Same.refl H) (.tup s t)⟩⟩
/-- divmod with a divisor of any sign -/
def rDm : List V → Hp → VK → Prop := fun xs H Q => ∃ i j, xs = [.int i, .int j] ∧ CDivN i j ∧ ∀ p, H p = none → Q (.ref p) (upd H p (.tup [.int (i.fdiv j), .int (i.fmod j)]))
theorem c_divmod : CallR X (.builtin "divmod") rDm := by
  intro pins s σ H xs us Q I r h
  obtain ⟨i, j, rfl, ⟨h1, h2⟩, q⟩ := h
  obtain ⟨u, w', rfl, ⟨t, rfl⟩, ⟨t', rfl⟩⟩ := vals2 r
  refine divmod_int h1 ?_ (.inl (PyProof.noPylong_small h2))
  have hn : H s.heap.objs.size = none := I.hok.fresh (Nat.le_refl _)
  refine ⟨.ref s.heap.objs.size, _, ?_, rfl, q _ hn⟩
  refine I.laid (fun b o e => Heap.get?_push_of_some _ e) (Nat.le_refl _) ⟨by simp only [List.length_cons, List.length_nil]; rw [sizeLine_eq]; decide, [.int (i.fdiv j) s.toks, .int (i.fmod j) (s.toks + 1)], .cons ⟨_, rfl⟩ (.cons ⟨_, rfl⟩ .nil), ?_⟩
  exact ⟨_, Heap.get?_push_size s.heap rfl, rfl, 0, rfl⟩
theorem s_divmod : CallD K rDm divmodD := by
  intro O H vs ds res Q hd hv h q
  match ds, h with
  | [.int i, .int j], h =>
    have h' : (if j ≠ 0 ∧ j.natAbs < 1073741824 then some (D.tup [.int (i.fdiv j), .int (i.fmod j)]) else none) = some res := h
    by_cases hc : j ≠ 0 ∧ j.natAbs < 1073741824
    · rw [if_pos hc] at h'
      cases h'
      obtain ⟨v, u, rfl, dv, du⟩ := hv.two
      cases dv; cases du
      exact ⟨i, j, rfl, hc, fun p np => q _ _ (same_upd np) (DV.newT hd np (.cons (.int _) (.cons (.int _) .nil)))⟩
    · rw [if_neg hc] at h'
      cases h'
end

/-! ### places -/
def ixD : D → D → Option D
  | .tup xs, .int i => atI xs i
  | .lst xs, .int i => atI xs i
  | .str z, .int i => if z.length ≤ sizeLine then (atI z.cps.toList i).map fun c => .str ⟨#[c]⟩ else none
  | _, _ => none
theorem atI_dvs {K : Fg} {H : Hp} {vs : List V} {ds : List D} {i : Int} {d : D} (h : DVs K H vs ds) (e : atI ds i = some d) : ∃ v, atI vs i = some v ∧ DV K H v d := by
  unfold atI at *
  obtain ⟨j, e1, e2⟩ := Option.bind_eq_some_iff.mp e
  obtain ⟨v, e3, dv⟩ := h.get e2
  exact ⟨v, by rw [h.length, e1]; exact e3, dv⟩
theorem s_ix {K : Fg} : Op2 K (rIx K) ixD := by
  intro O H x y d e res Q hd hx hy h q
  cases e <;> (try (cases d <;> cases h; done))
  rename_i i
  cases hy
  cases d <;> (try (cases h; done))
  · rename_i z
    have h' : (if z.length ≤ sizeLine then (atI z.cps.toList i).map (fun c => D.str ⟨#[c]⟩) else none) = some res := h
    split at h'
    · rename_i hl
      obtain ⟨c, e1, rfl⟩ := Option.map_eq_some_iff.mp h'
      cases hx
      exact .inr (.inr ⟨z, i, c, rfl, rfl, hl, e1, q _ H (Same.refl H) (.str _)⟩)
    · cases h'
  · obtain ⟨a, vs, rfl, s, t⟩ := hx.tup_of
    obtain ⟨v, e1, dv⟩ := atI_dvs t h
    exact .inr (.inl ⟨a, vs, i, v, rfl, rfl, sqT_mono (wo_same O H) s, e1, q _ H (Same.refl H) dv⟩)
  · obtain ⟨a, vs, rfl, s, t⟩ := hx.lst_of
    obtain ⟨v, e1, dv⟩ := atI_dvs t h
    exact .inl ⟨a, vs, i, v, rfl, rfl, .of (wo_same O H _ _ s), e1, q _ H (Same.refl H) dv⟩
section
variable {X : Cx} {hx : Hx} {W : WX} {a b : Expr} {fa fb : EX} {pos : Pos}
theorem r_ix (ha : PE X a (tX X.K hx W fa)) (hb : PE X b (tX X.K hx W fb)) (hs : PlainIx b := by first | (intro _ _; rfl) | exact fun _ _ => rfl) : PE X (.Subscript a b pos) (tX X.K hx W (eB ixD fa fb)) :=
  (pe_ix ix_seq ha hb hs).imp fun _ _ _ h => t_op2 s_ix h

/-! ### slices -/
def cutD {α : Type} (xs : List α) (lo hi : Option Int) : List α := (xs.drop (HT.sIx xs.length 0 lo)).take (HT.sIx xs.length xs.length hi - HT.sIx xs.length 0 lo)
def slD : D → Option Int → Option Int → Option D
  | .tup xs, lo, hi => some (.tup (cutD xs lo hi))
  | .lst xs, lo, hi => some (.lst (cutD xs lo hi))
  | .scr ns, lo, hi => some (.lst ((cutD ns lo hi).map .int))
  | .str z, lo, hi => if z.length ≤ sizeLine then some (.str (cutS z lo hi)) else none
  | _, _, _ => none
theorem DVs.cut {K : Fg} {H : Hp} {vs : List V} {ds : List D} (h : DVs K H vs ds) (lo hi : Option Int) : DVs K H (cutV vs lo hi) (cutD ds lo hi) := by
  unfold cutV cutD
  rw [h.length]
  exact (h.drop _).take _
theorem cut_map {α β : Type} (f : α → β) (xs : List α) (lo hi : Option Int) : cutD (xs.map f) lo hi = (cutD xs lo hi).map f := by
  unfold cutD
  rw [List.length_map, List.map_take, List.map_drop]
theorem cutD_all {α : Type} {xs : List α} {lo hi : Option Int} (h : HT.sIx xs.length 0 lo = 0 ∧ HT.sIx xs.length xs.length hi = xs.length) : cutD xs lo hi = xs := by
  unfold cutD
  rw [h.1, h.2]
  simp
def rSlM (K : Fg) : V → Option Int → Option Int → Hp → VK → Prop := fun x lo hi H Q => rSlA K x lo hi H Q ∨ rSlL K x lo hi H Q ∨ rSlS x lo hi H Q
theorem sl_M : SlR X (rSlM X.K) := sl_tupA.or (sl_list.or sl_str)
theorem s_sl {K : Fg} {O : List Addr} {H : Hp} {x : V} {d res : D} {lo hi : Option Int} {Q : VK} (hd : ∀ a ∈ O, ∃ o, H a = some o) (hx : DV K (wo O H) x d) (h : slD d lo hi = some res)
    (q : ∀ v H', Same H H' → DV K (wo O H') v res → Q v H') : rSlM K x lo hi H Q := by
  cases d <;> (try (cases h; done))
  · rename_i z
    have h' : (if z.length ≤ sizeLine then some (D.str (cutS z lo hi)) else none) = some res := h
    split at h'
    · cases h'
      rename_i hl
      cases hx
      exact .inr (.inr ⟨z, rfl, hl, q _ H (Same.refl H) (.str _)⟩)
    · cases h'
  · cases h
    obtain ⟨a, vs, rfl, s, t⟩ := hx.tup_of
    refine .inl ⟨a, vs, rfl, sqT_mono (wo_same O H) s, fun hc => ?_, fun _ p np => q _ _ (same_upd np) (DV.newT hd np (t.cut lo hi))⟩
    refine q _ H (Same.refl H) (.tup s ?_)
    rw [cutD_all (by rw [← t.length]; exact hc)]
    exact t
  · cases h
    obtain ⟨a, vs, rfl, s, t⟩ := hx.lst_of
    exact .inr (.inl ⟨a, vs, rfl, .of (wo_same O H _ _ s), fun p np => q _ _ (same_upd np) (DV.newL hd np (t.cut lo hi))⟩)
  · cases h
    cases hx with
    | scr s =>
      refine .inr (.inl ⟨_, _, rfl, (wo_same O H).seq s, fun p np => q _ _ (same_upd np) ?_⟩)
      refine DV.newL hd np ?_
      rename_i ns a
      have e : cutV (ns.map V.int) lo hi = (cutD ns lo hi).map V.int := cut_map V.int ns lo hi
      rw [e]
      exact DVs.of_ints _
/-- an optional part of a slice -/
def eOpt (f : Option EX) (k : Option Int → En → Rs) : En → Rs := fun ρ => match f with
  | none => k none ρ
  | some f => (f ρ).bind fun d ρ1 => match d with
    | .int i => k (some i) ρ1
    | _ => .stuck
def eSl (fa : EX) (lo hi : Option EX) : EX := fun ρ => (fa ρ).bind fun d ρ1 => eOpt lo (fun l => eOpt hi fun h ρ3 => match slD d l h with
  | some z => .ok z ρ3
  | none => .stuck) ρ1
inductive PO' (X : Cx) (hx : Hx) (W : WX) : Option Expr → Option EX → Prop
  | none : PO' X hx W none none
  | some {e : Expr} {f : EX} (h : PE X e (tX X.K hx W f)) : PO' X hx W (some e) (some f)
def tO (K : Fg) (hx : Hx) (W : WX) : Option EX → TO
  | none => tNoPart
  | some f => tPart (tX K hx W f)
theorem PO'.po {lo : Option Expr} {fl : Option EX} (h : PO' X hx W lo fl) : PO X lo (tO X.K hx W fl) := by
  cases h with
  | none => exact po_none
  | some h => exact po_some h
theorem optX {K : Fg} {F : Fm} {ρ : En} {σ : MB.St} {H : Hp} {O : List Addr} {f : Option EX} {k : Option Int → En → Rs} {Q : VK} {Q1 : Option Int → Hp → Prop} (r : RO K hx F ρ σ H O) (hp : Po K hx F W σ (eOpt f k ρ) Q)
    (hk : ∀ i ρ1 H1 O1, RO K hx F ρ1 σ H1 O1 → Same (wo O H) (wo O1 H1) → Po K hx F W σ (k i ρ1) Q → Q1 i H1) : tO K hx W f σ H Q1 := by
  cases f with
  | none => exact hk none ρ H O r (Same.refl _) hp
  | some f =>
    refine bindX r hp fun d ρ1 v H1 O1 r1 s1 dv q => ?_
    cases d <;> (try exact (q : False).elim)
    cases dv
    exact ⟨_, rfl, hk _ ρ1 H1 O1 r1 s1 q⟩
theorem r_sl {lo hi : Option Expr} {fl fh : Option EX} {p2 : Pos} (ha : PE X a (tX X.K hx W fa)) (hl : PO' X hx W lo fl) (hh : PO' X hx W hi fh) : PE X (.Subscript a (.Slice lo hi none p2) pos) (tX X.K hx W (eSl fa fl fh)) :=
  (pe_slice sl_M ha hl.po hh.po).imp fun σ H Q h => by
    obtain ⟨F, ρ, ⟨O, r⟩, hp⟩ := h
    refine bindX r hp fun d ρ1 v H1 O1 r1 s1 dv hp1 => ?_
    refine optX r1 hp1 fun l ρ2 H2 O2 r2 s2 hp2 => ?_
    refine optX r2 hp2 fun u ρ3 H3 O3 r3 s3 hp3 => ?_
    cases e : slD d l u with
    | none => rw [e] at hp3; exact hp3.elim
    | some z =>
      rw [e] at hp3
      exact s_sl r3.dom (DV.mono (s2.trans s3) _ _ dv) e fun v' H' s' dv' => hp3 v' H' ⟨O3, r3.grow s', dv'⟩
end

/-! ### isinstance of a built-in class -/
def tyName : D → Option String
  | .non => some "NoneType" | .bl _ => some "bool" | .int _ => some "int" | .str _ => some "str" | .tup _ => some "tuple" | .lst _ => some "list" | _ => none
theorem tyX_of {K : Fg} {H : Hp} {v : V} {d : D} {t : String} (h : DV K H v d) (e : tyName d = some t) : TyX K H v (.type t) := by
  cases d <;> (try (cases e; done)) <;> cases e <;> cases h
  · exact .base .non
  · exact .base (.bl _)
  · exact .base (.int _)
  · exact .base (.str _)
  · rename_i a vs s t
    rcases s with (s | ⟨o, s⟩) | ⟨o, its, n, s, c, _⟩
    · exact .base (.tup s)
    · exact .fTuple s
    · exact .kTuple s c
  · rename_i a vs s t
    exact .base (.lst s)
def isT (T : String) (d : D) : Option D := match tyName d with
  | some t => (kitB t T).map .bl
  | none => none
def eIsT (T : String) (fa : EX) : EX := e1 (isT T) fa
section
variable {X : Cx} {hx : Hx} {W : WX} {a : Expr} {fa : EX} {pos p q : Pos}
theorem r_isT {T : Str} {Ts : String} (ha : PE X a (tX X.K hx W fa)) (hm : X.mg "isinstance" = none) (hT : X.mg T = none) (hb : bootBuiltins T = some (.type Ts)) (hg : Gl X "isinstance" := by rfl) (hg2 : Gl X T := by rfl)
    (hn : T ≠ "__name__" := by decide) (hdb : (T == ("__debug__" : Str)) = false := by decide)
    (he0 : starEach [Expr.Name T q] X.env = (false, eval (Expr.Name T q) X.env) :: starEach [] X.env := by rfl)
    (he : starEach (a :: [Expr.Name T q]) X.env = (false, eval a X.env) :: starEach [Expr.Name T q] X.env := by rfl) (hpl : (backTo pos (starEach [Expr.Name T q] X.env)).any (·.1) = false := by rfl) :
    PE X (.Call (.Name "isinstance" p) [a, .Name T q] [] pos) (tX X.K hx W (eIsT Ts fa)) :=
  (pe_callB call_isi hg hm (by decide +kernel) (pa_cons ha (pa_cons (pe_bltn (v := .ty Ts) hg2 hT hb rfl hn hdb) pa_nil he0) he) (by decide) (by decide) he hpl).imp fun σ H Q h => by
    obtain ⟨F, ρ, ⟨O, r0⟩, hp⟩ := h
    refine bindX r0 hp fun d ρ1 v H1 O1 r1 s1 dv hp1 => ?_
    cases e : isT Ts d with
    | none => rw [e] at hp1; exact hp1.elim
    | some z =>
      rw [e] at hp1
      unfold isT at e
      cases e2 : tyName d with
      | none => rw [e2] at e; cases e
      | some t =>
        rw [e2] at e
        have e' : (kitB t Ts).map D.bl = some z := e
        obtain ⟨b, e3, rfl⟩ := Option.map_eq_some_iff.mp e'
        exact ⟨v, .ty Ts, .type t, .type Ts, b, rfl, .ty Ts, tyX_of (DV.mono (wo_same O1 H1) _ _ dv) e2, kit_ty e3, hp1 _ H1 ⟨O1, r1, .bl b⟩⟩
end
end MB

/-! Calls of own defs, statements, by values. -/
namespace MB
open PySem PySem.Spec PyProof.Rows L2

/-! ### a def's promise by its function -/
inductive Rt where
  | ok (d : D) | err (x : Ex) | stuck
abbrev Fn := List D → Rt
def spV (K : Fg) (n : Nat) (m : Fn) : Sp := fun vs H Q E => vs.length = n ∧ ∃ (O : List Addr) (ds : List D), (∀ a ∈ O, ∃ o, H a = some o) ∧ DVs K (wo O H) vs ds ∧ match m ds with
  | .ok d => ∀ v H', Same H H' → DV K (wo O H') v d → Q v H'
  | .err x => ∀ cls dd H', Same H H' → ExOk K (wo O H') x cls dd → E cls dd H'
  | .stuck => False
def eFn (m : Fn) (fs : List EX) : EX := evs fs fun ds ρ => match m ds with
  | .ok d => .ok d ρ
  | .err x => .err x ρ
  | .stuck => .stuck
abbrev FnV (P : Program) (w : World) (K : Fg) (mg : Str → Option Value) (base : Heap) (k : Nat) (f : Addr) (fd : FuncData) (ps : List Str) (m : Fn) : Prop := FnOk P w K mg base (L2N.CX P w) k f fd ps (spV K ps.length m)
/-- what a caller knows of a def -/
structure Df (P : Program) (w : World) (K : Fg) (mg : Str → Option Value) (base : Heap) (k : Nat) (x : Str) (n : Nat) (m : Fn) : Prop where
  ex : ∃ f fd ps, mg x = some (.ref f) ∧ PySem.W.keepIn K (.ref f) = true ∧ Binds K fd ps [] ∧ ps.length = n ∧ FnV P w K mg base k f fd ps m
section
variable {X : Cx} {hx : Hx} {W : WX} {e : Expr} {es : List Expr} {fs : List EX} {pos p : Pos} {x : Str} {k n : Nat} {m : Fn}
theorem t_fn {ps : List Str} (hl : fs.length = ps.length) {σ : MB.St} {H : Hp} {Q : VK} (h : tX X.K hx W (eFn m fs) σ H Q) : tCallS (spV X.K ps.length m) (WE W) (tA X.K hx W fs) σ H Q := by
  obtain ⟨F, ρ, ⟨O, r0⟩, hp⟩ := h
  refine tA_of r0 hp fun F1 ds ρ1 vs H1 O1 ln r1 dvs q => ?_
  refine ⟨by rw [dvs.length, ln, hl], O1, ds, r1.dom, dvs, ?_⟩
  cases e : m ds with
  | ok d =>
    rw [e] at q
    exact fun v H' s' dv' => q v H' ⟨O1, r1.grow s', dv'⟩
  | err x =>
    rw [e] at q
    exact fun cls dd H' s' ev => q cls dd H' ⟨O1, r1.grow s', ev⟩
  | stuck =>
    rw [e] at q
    exact q.elim
theorem r_fn (F : Df X.prog X.w X.K X.mg X.base k x n m) (hr : Room k X.A) (tk : L2N.Takes X W) (ha : PA X (e :: es) (tA X.K hx W fs)) (hl : fs.length = n := by rfl) (hg : Gl X x := by rfl) (hdb : (x == ("__debug__" : Str)) = false := by decide)
    (he : starEach (e :: es) X.env = (false, eval e X.env) :: starEach es X.env := by rfl) (hpl : (backTo pos (starEach es X.env)).any (·.1) = false := by rfl) : PE X (.Call (.Name x p) (e :: es) [] pos) (tX X.K hx W (eFn m fs)) := by
  obtain ⟨f, fd, ps, hm, hk, hb, en, F⟩ := F.ex
  exact (pe_callS F hr hg hm hk hb (fun σ => L2N.passAt tk σ) ha hdb he hpl).imp fun _ _ _ h => t_fn (hl.trans en.symm) h
end
/-- nothing is let out -/
theorem tk0 {X : Cx} : L2N.Takes X (fun _ _ _ _ => False) := fun _ _ x => by
  obtain ⟨_, _, _, _, _, _, _, _, _, _, _, _, _, _, _, _, z⟩ := x
  exact z.elim

/-! ### statements -/
inductive Fl where
  | nx (ρ : En) | rt (d : D) (ρ : En) | bk (ρ : En) | ct (ρ : En) | err (x : Ex) (ρ : En) | stuck
abbrev SX := En → Fl
def PoS (K : Fg) (hx : Hx) (F : Fm) (W : WX) (g : Fl) (D : Ends) : Prop := match g with
  | .nx ρ => ∀ σ H, Rl K hx F ρ σ H → D.nx σ H
  | .rt d ρ => ∀ v σ H, RV K hx F ρ σ H v d → D.rt v H
  | .bk ρ => ∀ σ H, Rl K hx F ρ σ H → D.bk σ H
  | .ct ρ => ∀ σ H, Rl K hx F ρ σ H → D.ct σ H
  | .err x ρ => ∀ cls dd σ H, RX K hx F ρ σ H x cls dd → W cls dd σ H
  | .stuck => False
def tS (K : Fg) (hx : Hx) (W : WX) (g : SX) : TS := fun D σ H => ∃ F ρ, Rl K hx F ρ σ H ∧ PoS K hx F W (g ρ) D
theorem _root_.L2.PS.imp {X : Cx} {e : Stmt} {t t' : TS} (h : PS X e t) (i : ∀ D σ H, t' D σ H → t D σ H) : PS X e t' := ⟨fun pins s σ H D I q => h.run pins s σ H D I (i D σ H q)⟩
theorem _root_.L2.PSs.imp {X : Cx} {e : List Stmt} {t t' : TS} (h : PSs X e t) (i : ∀ D σ H, t' D σ H → t D σ H) : PSs X e t' := ⟨fun pins s σ H D I q => h.run pins s σ H D I (i D σ H q)⟩
theorem PoS.fr {K : Fg} {hx : Hx} {F F' : Fm} {W : WX} {g : Fl} {D : Ends} (s : Same F.f F'.f) (e : F.g = F'.g) (h : PoS K hx F W g D) : PoS K hx F' W g D := by
  cases g with
  | nx ρ => exact fun σ H ⟨O, r⟩ => h σ H ⟨O, r.fr_of s e⟩
  | rt d ρ => exact fun v σ H ⟨O, r, dv⟩ => h v σ H ⟨O, r.fr_of s e, dv⟩
  | bk ρ => exact fun σ H ⟨O, r⟩ => h σ H ⟨O, r.fr_of s e⟩
  | ct ρ => exact fun σ H ⟨O, r⟩ => h σ H ⟨O, r.fr_of s e⟩
  | err x ρ => exact fun cls dd σ H ⟨O, r, dv⟩ => h cls dd σ H ⟨O, r.fr_of s e, dv⟩
  | stuck => exact h
def Rs.then (r : Rs) (k : D → En → Fl) : Fl := match r with
  | .ok d ρ => k d ρ
  | .err x ρ => .err x ρ
  | .stuck => .stuck
section
variable {K : Fg} {hx : Hx} {F : Fm} {H : Hp} {ρ : En} {σ : MB.St} {O : List Addr} {W : WX}
/-- an expression within a statement -/
theorem bindS {fa : EX} {k : D → En → Fl} {D : Ends} {Q1 : VK} (r : RO K hx F ρ σ H O) (hp : PoS K hx F W ((fa ρ).then k) D)
    (hk : ∀ d ρ1 v H1 O1, RO K hx F ρ1 σ H1 O1 → DV K (wo O1 H1) v d → PoS K hx F W (k d ρ1) D → Q1 v H1) : tX K hx W fa σ H Q1 := by
  refine ⟨F, ρ, ⟨O, r⟩, ?_⟩
  cases e : fa ρ with
  | ok d ρ1 =>
    rw [e] at hp
    intro v H1 hv
    obtain ⟨O1, r1, dv⟩ := hv
    exact hk d ρ1 v H1 O1 r1 dv hp
  | err x ρ1 =>
    rw [e] at hp
    intro cls dd H1 hv
    exact hp cls dd σ H1 hv
  | stuck =>
    rw [e] at hp
    exact hp
theorem bindST {fa : EX} {k : D → En → Fl} {D : Ends} {Q1 : Bool → Hp → Prop} (r : RO K hx F ρ σ H O) (hp : PoS K hx F W ((fa ρ).then k) D) (ht : ∀ d ρ1, PoS K hx F W (k d ρ1) D → ∃ b, truth d = some b)
    (hk : ∀ d b ρ1 H1 O1, truth d = some b → RO K hx F ρ1 σ H1 O1 → PoS K hx F W (k d ρ1) D → Q1 b H1) : tT K hx W fa σ H Q1 := by
  refine ⟨F, ρ, ⟨O, r⟩, ?_⟩
  cases e : fa ρ with
  | ok d ρ1 =>
    rw [e] at hp
    obtain ⟨b, hb⟩ := ht d ρ1 hp
    refine ⟨b, hb, fun H1 hv => ?_⟩
    obtain ⟨O1, r1⟩ := hv
    exact hk d b ρ1 H1 O1 hb r1 hp
  | err x ρ1 =>
    rw [e] at hp
    intro cls dd H1 hv
    exact hp cls dd σ H1 hv
  | stuck =>
    rw [e] at hp
    exact hp
end
def sNil : SX := fun ρ => .nx ρ
def sSeq (g h : SX) : SX := fun ρ => match g ρ with
  | .nx ρ1 => h ρ1
  | r => r
def sEx (f : EX) : SX := fun ρ => (f ρ).then fun _ ρ1 => .nx ρ1
def sSet (i : Nat) (f : EX) : SX := fun ρ => (f ρ).then fun d ρ1 => .nx (ρ1.set i (some (.val d)))
def sRet (f : EX) : SX := fun ρ => (f ρ).then fun d ρ1 => .rt d ρ1
def sRetN : SX := fun ρ => .rt .non ρ
def sIf (c : EX) (g h : SX) : SX := fun ρ => (c ρ).then fun d ρ1 => match truth d with
  | some true => g ρ1
  | some false => h ρ1
  | none => .stuck
def sBk : SX := fun ρ => .bk ρ
def sCt : SX := fun ρ => .ct ρ
section
variable {X : Cx} {hx : Hx} {W : WX} {st : Stmt} {rest : List Stmt} {g h : SX} {e c : Expr} {f fc : EX} {pos : Pos}
theorem p_nil : PSs X [] (tS X.K hx W sNil) := pss_nil.imp fun D σ H h => by
  obtain ⟨F, ρ, r, hp⟩ := h
  exact hp σ H r
theorem t_seq {K : Fg} {D : Ends} {σ : MB.St} {H : Hp} (q : tS K hx W (sSeq g h) D σ H) : tSeq (tS K hx W g) (tS K hx W h) D σ H := by
  obtain ⟨F, ρ, r, hp⟩ := q
  refine ⟨F, ρ, r, ?_⟩
  unfold sSeq at hp
  cases e : g ρ with
  | nx ρ1 =>
    rw [e] at hp
    exact fun σ1 H1 r1 => ⟨F, ρ1, r1, hp⟩
  | rt d ρ1 => rw [e] at hp; exact hp
  | bk ρ1 => rw [e] at hp; exact hp
  | ct ρ1 => rw [e] at hp; exact hp
  | err x ρ1 => rw [e] at hp; exact hp
  | stuck => rw [e] at hp; exact hp
theorem p_cons (h1 : PS X st (tS X.K hx W g)) (h2 : PSs X rest (tS X.K hx W h)) : PSs X (st :: rest) (tS X.K hx W (sSeq g h)) := (pss_cons h1 h2).imp fun _ _ _ q => t_seq q
theorem p_one (h1 : PS X st (tS X.K hx W g)) : PSs X [st] (tS X.K hx W g) := pss_one h1
theorem p_ex (he : PE X e (tX X.K hx W f)) (hs : swapsWith e none pos.line X.env = pure false := by rfl) : PS X (.Expr e pos) (tS X.K hx W (sEx f)) := (ps_expr he hs).imp fun D σ H q => by
  obtain ⟨F, ρ, ⟨O, r⟩, hp⟩ := q
  exact bindS r hp fun d ρ1 v H1 O1 r1 dv hp1 => hp1 σ H1 ⟨O1, r1⟩
theorem p_set {i : Nat} {x : Str} {pos' : Pos} (hN : X.N.Nodup) (hi : X.N[i]? = some x) (hl : Loc X.env.scope x) (he : PE X e (tX X.K hx W f)) (hs : swapsWith e (some (.Name x pos')) pos.line X.env = pure false := by rfl)
    (hf : X.fn x = true ∨ X.env.scope.names.lookup x = some .local := by first | exact .inl rfl | exact .inr rfl | assumption) : PS X (.Assign [.Name x pos'] e pos) (tS X.K hx W (sSet i f)) := (ps_set hN hi hl he hs hf).imp fun D σ H q => by
  obtain ⟨F, ρ, ⟨O, r⟩, hp⟩ := q
  exact bindS r hp fun d ρ1 v H1 O1 r1 dv hp1 => hp1 _ H1 ⟨O1, r1.set i dv⟩
theorem p_ret (he : PE X e (tX X.K hx W f)) : PS X (.Return (some e) pos) (tS X.K hx W (sRet f)) := (ps_ret he).imp fun D σ H q => by
  obtain ⟨F, ρ, ⟨O, r⟩, hp⟩ := q
  exact bindS r hp fun d ρ1 v H1 O1 r1 dv hp1 => hp1 v σ H1 ⟨O1, r1, dv⟩
theorem p_retN : PS X (.Return none pos) (tS X.K hx W sRetN) := (ps_retN).imp fun D σ H q => by
  obtain ⟨F, ρ, ⟨O, r⟩, hp⟩ := q
  exact hp .non σ H ⟨O, r, .non⟩
theorem p_if {a b : List Stmt} (hc : PT X c (tT X.K hx W fc)) (ha : PSs X a (tS X.K hx W g)) (hb : PSs X b (tS X.K hx W h)) : PS X (.If c a b pos) (tS X.K hx W (sIf fc g h)) := (ps_if hc ha hb).imp fun D σ H q => by
  obtain ⟨F, ρ, ⟨O, r⟩, hp⟩ := q
  refine bindST r hp (fun d ρ1 q => ?_) fun d b ρ1 H1 O1 tb r1 hp1 => ?_
  · cases t : truth d with
    | none => rw [t] at q; exact q.elim
    | some b => exact ⟨b, rfl⟩
  · rw [tb] at hp1
    cases b with
    | true =>
      rw [if_pos rfl]
      exact ⟨F, ρ1, ⟨O1, r1⟩, hp1⟩
    | false =>
      rw [if_neg Bool.false_ne_true]
      exact ⟨F, ρ1, ⟨O1, r1⟩, hp1⟩
theorem p_bk : PS X (.Break pos) (tS X.K hx W sBk) := ps_break.imp fun D σ H q => by
  obtain ⟨F, ρ, r, hp⟩ := q
  exact hp σ H r
theorem p_ct : PS X (.Continue pos) (tS X.K hx W sCt) := ps_continue.imp fun D σ H q => by
  obtain ⟨F, ρ, r, hp⟩ := q
  exact hp σ H r
theorem p_pass : PS X (.Pass pos) (tS X.K hx W sNil) := ps_pass.imp fun D σ H q => by
  obtain ⟨F, ρ, r, hp⟩ := q
  exact hp σ H r
end

/-! ### targets -/
abbrev BX := D → En → Option En
def bNm (i : Nat) : BX := fun d ρ => some (ρ.set i (some (.val d)))
def bAll : List BX → List D → En → Option En
  | [], [], ρ => some ρ
  | b :: bs, d :: ds, ρ => (b d ρ).bind fun ρ1 => bAll bs ds ρ1
  | _, _, _ => none
def bTp (bs : List BX) : BX := fun d ρ => match d with
  | .tup ds => if ds.length = bs.length then bAll bs ds ρ else none
  | _ => none
/-- the slots at is alone have changed -/
def Wp (is : List Nat) (σ σ' : MB.St) : Prop := ∀ vs : List Nat, (∀ i ∈ is, i ∈ vs) → L2.wipe σ' vs = L2.wipe σ vs
theorem wipe_set {σ : MB.St} {i : Nat} {x : Option V} : ∀ {vs : List Nat}, i ∈ vs → L2.wipe (σ.set i x) vs = L2.wipe σ vs
  | v :: vs, h => by
    show (L2.wipe (σ.set i x) vs).set v none = (L2.wipe σ vs).set v none
    by_cases m : i ∈ vs
    · rw [wipe_set m]
    · have e : i = v := by
        rcases List.mem_cons.mp h with e | e
        · exact e
        · exact absurd e m
      subst e
      have out : ∀ {ws : List Nat}, i ∉ ws → L2.wipe (σ.set i x) ws = (L2.wipe σ ws).set i x := by
        intro ws
        induction ws with
        | nil => intro _; rfl
        | cons w ws ih =>
          intro hw
          simp only [List.mem_cons, not_or] at hw
          show (L2.wipe (σ.set i x) ws).set w none = ((L2.wipe σ ws).set w none).set i x
          rw [ih hw.2, List.set_comm _ _ hw.1]
      rw [out m, List.set_set]
def tG (K : Fg) (hx : Hx) (is : List Nat) (b : BX) : TG := fun v σ H Q => ∃ (F : Fm) (ρ : En) (d : D) (O : List Addr) (ρ' : En), RO K hx F ρ σ H O ∧ DV K (wo O H) v d ∧ b d ρ = some ρ' ∧ ∀ σ', Wp is σ σ' → RO K hx F ρ' σ' H O → Q σ' H
def tGs (K : Fg) (hx : Hx) (is : List Nat) (bs : List BX) : TGs := fun vs σ H Q => ∃ (F : Fm) (ρ : En) (ds : List D) (O : List Addr) (ρ' : En), RO K hx F ρ σ H O ∧ DVs K (wo O H) vs ds ∧ bAll bs ds ρ = some ρ' ∧ ∀ σ', Wp is σ σ' → RO K hx F ρ' σ' H O → Q σ' H
theorem _root_.L2.PG.imp {X : Cx} {e : Expr} {t t' : TG} (h : PG X e t) (i : ∀ v σ H Q, t' v σ H Q → t v σ H Q) : PG X e t' := ⟨fun pins s σ H v u Q I r q => h.run pins s σ H v u Q I r (i v σ H Q q)⟩
theorem _root_.L2.PGs.imp {X : Cx} {e : List Expr} {t t' : TGs} (h : PGs X e t) (i : ∀ v σ H Q, t' v σ H Q → t v σ H Q) : PGs X e t' := ⟨fun pins s σ H v u Q I r q => h.run pins s σ H v u Q I r (i v σ H Q q)⟩
section
variable {X : Cx} {hx : Hx} {W : WX} {e : Expr} {es : List Expr} {b : BX} {bs : List BX} {pos : Pos} {is js : List Nat}
theorem g_nm {i : Nat} {x : Str} (hN : X.N.Nodup) (hi : X.N[i]? = some x) (hl : Loc X.env.scope x) (hf : X.fn x = true ∨ X.env.scope.names.lookup x = some .local := by first | exact .inl rfl | exact .inr rfl | assumption) : PG X (.Name x pos) (tG X.K hx [i] (bNm i)) :=
  (pg_name hN hi hl hf).imp fun v σ H Q h => by
    obtain ⟨F, ρ, d, O, ρ', r, dv, e, k⟩ := h
    cases e
    exact k _ (fun vs h => wipe_set (h i List.mem_cons_self)) (r.set i dv)
theorem gs_nil : PGs X [] (tGs X.K hx [] []) := pgs_nil.imp fun v σ H Q h => by
  obtain ⟨F, ρ, ds, O, ρ', r, dv, e, k⟩ := h
  cases ds with
  | nil =>
    cases dv
    cases e
    exact ⟨rfl, k σ (fun _ _ => rfl) r⟩
  | cons d ds => cases e
theorem gs_cons (h1 : PG X e (tG X.K hx is b)) (h2 : PGs X es (tGs X.K hx js bs)) (hs : (assignEach (e :: es) X.env).map (·.2) = assign e X.env :: (assignEach es X.env).map (·.2) := by rfl) : PGs X (e :: es) (tGs X.K hx (is ++ js) (b :: bs)) :=
  (pgs_cons h1 h2 hs).imp fun v σ H Q h => by
    obtain ⟨F, ρ, ds, O, ρ', r, dv, e, k⟩ := h
    cases ds with
    | nil => cases e
    | cons d ds =>
      cases dv with
      | cons a t =>
        obtain ⟨ρ1, e1, e2⟩ := Option.bind_eq_some_iff.mp (show (b d ρ).bind (fun ρ1 => bAll bs ds ρ1) = some ρ' from e)
        exact ⟨_, _, rfl, F, ρ, d, O, ρ1, r, a, e1, fun σ1 w1 r1 => ⟨F, ρ1, ds, O, ρ', r1, t, e2, fun σ2 w2 r2 => k σ2 (fun vs h => (w2 vs fun i hi => h i (List.mem_append_right _ hi)).trans (w1 vs fun i hi => h i (List.mem_append_left _ hi))) r2⟩⟩
theorem g_tp {n : Nat} (hc : X.calm = true) (h : PGs X es (tGs X.K hx is bs)) (hn : (assignEach es X.env).length = bs.length := by rfl) (hst : (assignEach es X.env).findIdx? (·.1) = none := by rfl) : PG X (.Tuple es n pos) (tG X.K hx is (bTp bs)) :=
  (pg_tup hc h hn hst).imp fun v σ H Q h => by
    obtain ⟨F, ρ, d, O, ρ', r, dv, e, k⟩ := h
    cases d <;> (try (cases e; done))
    rename_i ds
    have e' : (if ds.length = bs.length then bAll bs ds ρ else none) = some ρ' := e
    split at e'
    · rename_i hl
      obtain ⟨a, vs, rfl, s, t⟩ := dv.tup_of
      exact ⟨a, vs, rfl, sqT_mono (wo_same O H) s, by rw [t.length, hl], F, ρ, ds, O, ρ', r, t, e', k⟩
    · cases e'
/-- a, b = e -/
def sUn (b : BX) (f : EX) : SX := fun ρ => (f ρ).then fun d ρ1 => match b d ρ1 with
  | some ρ2 => .nx ρ2
  | none => .stuck
theorem p_un {tg a : Expr} {f : EX} {b : BX} (he : PE X a (tX X.K hx W f)) (hg : PG X tg (tG X.K hx is b)) (hs : swapsWithSole [tg] a pos.line X.env = pure false := by rfl) (hw : swappedStores [tg] a X.env = pure none := by rfl)
    (h1 : (assignEach [tg] X.env).map (·.2) = [assign tg X.env] := by rfl) : PS X (.Assign [tg] a pos) (tS X.K hx W (sUn b f)) := (ps_asg he hg hs hw h1).imp fun D σ H q => by
  obtain ⟨F, ρ, ⟨O, r⟩, hp⟩ := q
  refine bindS r hp fun d ρ1 v H1 O1 r1 dv hp1 => ?_
  cases e : b d ρ1 with
  | none => rw [e] at hp1; exact hp1.elim
  | some ρ2 =>
    rw [e] at hp1
    exact ⟨F, ρ1, d, O1, ρ2, r1, dv, e, fun σ' _ r' => hp1 σ' H1 ⟨O1, r'⟩⟩
/-- x op= e, ints -/
def sAug (i : Nat) (op : D → D → Option D) (f : EX) : SX := fun ρ => match ρ[i]? with
  | some (some (.val d)) => (f ρ).then fun e ρ1 => match op d e with
    | some z => .nx (ρ1.set i (some (.val z)))
    | none => .stuck
  | _ => .stuck
theorem p_aug {i : Nat} {x : Str} {a : Expr} {f : EX} {op : Operator} {r : R2} {g : D → D → Option D} {pos' : Pos} (ho : PIp X op r) (h2 : Op2 X.K r g) (hN : X.N.Nodup) (hi : X.N[i]? = some x) (hl : Loc X.env.scope x) (he : PE X a (tX X.K hx W f))
    (hf : X.fn x = true ∨ X.env.scope.names.lookup x = some .local := by first | exact .inl rfl | exact .inr rfl | assumption) : PS X (.AugAssign (.Name x pos') op a pos) (tS X.K hx W (sAug i g f)) := (ps_aug hN hi hl he ho hf).imp fun D σ H q => by
  obtain ⟨F, ρ, ⟨O, r0⟩, hp⟩ := q
  unfold sAug at hp
  cases e : ρ[i]? with
  | none => rw [e] at hp; exact hp.elim
  | some o =>
    cases o with
    | none => rw [e] at hp; exact hp.elim
    | some s =>
      cases s with
      | own ds => rw [e] at hp; exact hp.elim
      | exc x => rw [e] at hp; exact hp.elim
      | val d =>
        rw [e] at hp
        obtain ⟨v, ev, dv0⟩ := r0.sl i _ e
        refine ⟨v, ev, ?_⟩
        refine bindS (F := ⟨wo O H, F.g⟩) r0.re (PoS.fr r0.fr rfl hp) fun e1 ρ1 u H1 O1 r1 du hp1 => ?_
        cases q : g d e1 with
        | none => rw [q] at hp1; exact hp1.elim
        | some z =>
          rw [q] at hp1
          exact h2 O1 H1 v u d e1 z _ r1.dom (DV.mono r1.fr _ _ dv0) du q fun v' H' s' dv' => hp1 _ H' ⟨O1, (r1.grow s').set i dv'⟩
end
end MB

/-! Loops and comprehensions, by values. -/
namespace MB
open PySem PySem.Spec PyProof.Rows L2

/-! ### what is walked -/
/-- from where T stands: the items are ds -/
def Its (K : Fg) (T : Hp) (J : It) (ds : List D) : Prop := ∀ (i : Nat) (H : Hp), Same T H → (∀ d, ds[i]? = some d → J.go i H ∧ ∀ x H', J.yld i H x H' → Same H H' ∧ ∀ O, (∀ a ∈ O, ∃ o, H a = some o) → Same T (wo O H) → DV K (wo O H') x d) ∧ (ds.length ≤ i → J.stop i H)
/-- the items that are walked -/
inductive Ri where
  | ok (ds : List D) (ρ : En) | err (x : Ex) (ρ : En) | stuck
abbrev IX := En → Ri
def seqI : D → Option (List D)
  | .tup xs => some xs
  | .lst xs => some xs
  | _ => none
theorem its_tup {K : Fg} {T : Hp} {a : Addr} {vs : List V} {ds : List D} (s : SqT K T a vs) (t : DVs K T vs ds) : Its K T (Itt K a) ds := fun i H st => by
  refine ⟨fun d hd => ?_, fun hi => ⟨vs, sqT_mono st s, by rw [t.length]; exact hi⟩⟩
  obtain ⟨v, hv, dv⟩ := t.get hd
  refine ⟨⟨vs, v, sqT_mono st s, hv⟩, fun x H' y => ?_⟩
  obtain ⟨e, y⟩ := y
  subst e
  have ex : x = v := Option.some.inj ((y vs (sqT_mono st s)).symm.trans hv)
  subst ex
  exact ⟨Same.refl _, fun O _ so => DV.mono so _ _ dv⟩
theorem its_lst {K : Fg} {T : Hp} {a : Addr} {vs : List V} {ds : List D} (s : T a = some (.lst vs)) (t : DVs K T vs ds) : Its K T (Itl K a) ds := fun i H st => by
  refine ⟨fun d hd => ?_, fun hi => ⟨vs, .of (st _ _ s), by rw [t.length]; exact hi⟩⟩
  obtain ⟨v, hv, dv⟩ := t.get hd
  refine ⟨⟨vs, v, .of (st _ _ s), hv⟩, fun x H' y => ?_⟩
  obtain ⟨e, y⟩ := y
  subst e
  have ex : x = v := Option.some.inj ((y vs (.of (st _ _ s))).symm.trans hv)
  subst ex
  exact ⟨Same.refl _, fun O _ so => DV.mono so _ _ dv⟩
def rangeL (lo : Int) (n : Nat) : List D := (List.range n).map fun i => .int (lo + (i : Nat))
theorem its_rng {K : Fg} {T : Hp} (lo : Int) (n : Nat) : Its K T (Itr lo n) (rangeL lo n) := fun i H st => by
  refine ⟨fun d hd => ?_, fun hi => by
    have e : (rangeL lo n).length = n := by simp [rangeL]
    rw [e] at hi
    exact hi⟩
  unfold rangeL at hd
  rw [List.getElem?_map] at hd
  cases e : (List.range n)[i]? with
  | none => rw [e] at hd; cases hd
  | some j =>
    rw [e] at hd
    have hi : i < n := by
      have := (List.getElem?_eq_some_iff.mp e).1
      simpa using this
    have ej : j = i := by
      have := (List.getElem?_eq_some_iff.mp e).2
      simpa using this.symm
    subst ej
    cases hd
    refine ⟨hi, fun x H' y => ?_⟩
    obtain ⟨e1, e2⟩ := y
    subst e1 e2
    exact ⟨Same.refl _, fun O _ _ => .int _⟩

/-! ### for -/
def loopS (b : BX) (g : SX) : List D → En → Fl
  | [], ρ => .nx ρ
  | d :: ds, ρ => match b d ρ with
    | none => .stuck
    | some ρ1 => match g ρ1 with
      | .nx ρ2 => loopS b g ds ρ2
      | .ct ρ2 => loopS b g ds ρ2
      | .bk ρ2 => .nx ρ2
      | r => r
theorem for_core {is : List Nat} {K : Fg} {hx : Hx} {W : WX} {F : Fm} {J : It} {ds : List D} {b : BX} {g : SX} {D : Ends} {ρ : En} {σ : MB.St} {H : Hp} {O : List Addr} (r : RO K hx F ρ σ H O) (hi : Its K (wo O H) J ds) (hp : PoS K hx F W (loopS b g ds ρ) D) :
    ∃ Wi : Nat → Nat → MB.St → Hp → Prop, (∃ m, Wi 0 m σ H) ∧ ∀ i m σ H, Wi i m σ H →
      (J.stop i H ∧ D.nx σ H) ∨ (J.go i H ∧ ∃ N : MB.St → Hp → Prop, (∀ σ' H', N σ' H' → ∃ m', m' < m ∧ Wi (i + 1) m' σ' H') ∧ ∀ x H', J.yld i H x H' → tG K hx is b x σ H' fun σ2 H2 => tS K hx W g { D with nx := N, ct := N, bk := D.nx } σ2 H2) := by
  let F1 : Fm := ⟨wo O H, F.g⟩
  have hp1 : PoS K hx F1 W (loopS b g ds ρ) D := PoS.fr r.fr rfl hp
  refine ⟨fun i m σ H => m = ds.length - i ∧ i ≤ ds.length ∧ ∃ ρ O, RO K hx F1 ρ σ H O ∧ PoS K hx F1 W (loopS b g (ds.drop i) ρ) D, ⟨ds.length, by simp, Nat.zero_le _, ρ, O, r.re, hp1⟩, ?_⟩
  rintro i m σ2 H2 ⟨rfl, hle, ρ2, O2, r2, hp2⟩
  have sT : Same (wo O H) H2 := fun a o h => wo_same O2 H2 a o (r2.fr a o h)
  obtain ⟨hgo, hstop⟩ := hi i H2 sT
  by_cases hlt : i < ds.length
  · have hd : ds[i]? = some ds[i] := List.getElem?_eq_getElem hlt
    have hdrop : ds.drop i = ds[i] :: ds.drop (i + 1) := List.drop_eq_getElem_cons hlt
    rw [hdrop] at hp2
    obtain ⟨g1, g2⟩ := hgo _ hd
    refine .inr ⟨g1, fun σ' H' => ∃ ρ' O', RO K hx F1 ρ' σ' H' O' ∧ PoS K hx F1 W (loopS b g (ds.drop (i + 1)) ρ') D, fun σ' H' ⟨ρ', O', r', p'⟩ => ⟨ds.length - (i + 1), by omega, rfl, hlt, ρ', O', r', p'⟩, fun x H3 y => ?_⟩
    obtain ⟨s3, dv3⟩ := g2 x H3 y
    have r3 := r2.grow s3
    unfold loopS at hp2
    cases e : b ds[i] ρ2 with
    | none => rw [e] at hp2; exact hp2.elim
    | some ρ3 =>
      rw [e] at hp2
      refine ⟨F1, ρ2, ds[i], O2, ρ3, r3, dv3 O2 r2.dom r2.fr, e, fun σ4 _ r4 => ⟨F1, ρ3, ⟨O2, r4⟩, ?_⟩⟩
      have hp3 : PoS K hx F1 W (match g ρ3 with
        | .nx ρ2 => loopS b g (ds.drop (i + 1)) ρ2
        | .ct ρ2 => loopS b g (ds.drop (i + 1)) ρ2
        | .bk ρ2 => .nx ρ2
        | r => r) D := hp2
      cases e4 : g ρ3 with
      | nx ρ5 =>
        rw [e4] at hp3
        exact fun σ5 H5 ⟨O5, r5⟩ => ⟨ρ5, O5, r5, hp3⟩
      | ct ρ5 =>
        rw [e4] at hp3
        exact fun σ5 H5 ⟨O5, r5⟩ => ⟨ρ5, O5, r5, hp3⟩
      | bk ρ5 =>
        rw [e4] at hp3
        exact hp3
      | rt d ρ5 =>
        rw [e4] at hp3
        exact hp3
      | err x ρ5 =>
        rw [e4] at hp3
        exact hp3
      | stuck =>
        rw [e4] at hp3
        exact hp3
  · have e : i = ds.length := by omega
    subst e
    rw [List.drop_length] at hp2
    exact .inl ⟨hstop (Nat.le_refl _), hp2 σ2 H2 ⟨O2, r2⟩⟩
/-- for over a list or a tuple -/
def iSeq (K : Fg) (tl : TE) : TI := fun σ H R => tl σ H fun x H1 => ∃ a, x = .ref a ∧ (((∃ xs, SqL K H1 a xs) ∧ R (Itl K a) H1) ∨ ((∃ xs, SqT K H1 a xs) ∧ R (Itt K a) H1))
theorem pi_seq {X : Cx} {tg l : Expr} {tl : TE} (hl : PE X l tl) : PI X tg l (iSeq X.K tl) := by
  refine ⟨fun pins s σ H R I h => ?_⟩
  refine thn (hl.run pins s σ H _ I h) fun v s1 ⟨x, H1, I1, r1, q1⟩ => ?_
  obtain ⟨a, e, q⟩ := q1
  subst e
  cases r1
  rcases q with ⟨⟨xs, hq⟩, q⟩ | ⟨⟨xs, hq⟩, q⟩
  · obtain ⟨its, rv, p, hz⟩ := I1.list hq
    refine wpAny_pyIter_list p.isList ?_
    refine ⟨s1.heap.objs.size, [s1.heap.objs.size], _, _, H1, rfl, I1.kept (t' := s1.toks) fun b o e => Heap.get?_push_of_some _ e, turn_list a _, ⟨_, Heap.get?_push_size _ rfl, rfl, rfl⟩, fun b hb => ?_, q⟩
    have e : b = s1.heap.objs.size := by simpa using hb
    subst e
    exact I1.fpOk (Nat.le_refl _) (I1.hok.fresh (Nat.le_refl _))
  · obtain ⟨its, rv, p, hz⟩ := I1.tuple hq
    refine wpAny_pyIter_tuple (show s1.heap.IsTuple a its.toArray from p) ?_
    refine ⟨s1.heap.objs.size, [s1.heap.objs.size], _, _, H1, rfl, I1.kept (t' := s1.toks) fun b o e => Heap.get?_push_of_some _ e, turn_tuple a _, ⟨_, Heap.get?_push_size _ rfl, rfl, rfl⟩, fun b hb => ?_, q⟩
    have e : b = s1.heap.objs.size := by simpa using hb
    subst e
    exact I1.fpOk (Nat.le_refl _) (I1.hok.fresh (Nat.le_refl _))
/-- the items' reading -/
def RI (K : Fg) (hx : Hx) (W : WX) (it : IX) (wi : TI) : Prop := ∀ (σ : MB.St) (H : Hp) (R : It → Hp → Prop) (F : Fm) (ρ : En) (O : List Addr), RO K hx F ρ σ H O →
  (match it ρ with
    | .ok ds ρ1 => ∀ (J : It) (H1 : Hp) (O1 : List Addr), RO K hx F ρ1 σ H1 O1 → Same (wo O H) (wo O1 H1) → Its K (wo O1 H1) J ds → R J H1
    | .err x ρ1 => ∀ cls dd H1, RX K hx F ρ1 σ H1 x cls dd → W cls dd σ H1
    | .stuck => False) → wi σ H R
/-- an expression, then items -/
def iB (f : EX) (k : D → En → Ri) : IX := fun ρ => match f ρ with
  | .ok d ρ1 => k d ρ1
  | .err x ρ1 => .err x ρ1
  | .stuck => .stuck
theorem bindI {K : Fg} {hx : Hx} {W : WX} {f : EX} {k : D → En → Ri} {F : Fm} {ρ : En} {σ : MB.St} {H : Hp} {O : List Addr} {P : Ri → Prop} {Q1 : VK} (r : RO K hx F ρ σ H O) (hp : P (iB f k ρ)) (he : ∀ x ρ1, P (.err x ρ1) → ∀ cls dd H1, RX K hx F ρ1 σ H1 x cls dd → W cls dd σ H1) (hs : P .stuck → False)
    (hk : ∀ d ρ1 v H1 O1, RO K hx F ρ1 σ H1 O1 → Same (wo O H) (wo O1 H1) → DV K (wo O1 H1) v d → P (k d ρ1) → Q1 v H1) : tX K hx W f σ H Q1 := by
  refine ⟨⟨wo O H, F.g⟩, ρ, ⟨O, r.re⟩, ?_⟩
  unfold iB at hp
  cases e : f ρ with
  | ok d ρ1 =>
    rw [e] at hp
    exact fun v H1 ⟨O1, r1, dv⟩ => hk d ρ1 v H1 O1 (r1.fr_of r.fr rfl) r1.fr dv hp
  | err x ρ1 =>
    rw [e] at hp
    exact fun cls dd H1 ⟨O1, r1, ev⟩ => he x ρ1 hp cls dd H1 ⟨O1, r1.fr_of r.fr rfl, ev⟩
  | stuck =>
    rw [e] at hp
    exact hs hp
def iV (items : D → Option (List D)) (f : EX) : IX := iB f fun d ρ1 => match items d with
  | some ds => .ok ds ρ1
  | none => .stuck
section
variable {K : Fg} {hx : Hx} {W : WX} {f g : EX}
theorem ri_seq : RI K hx W (iV seqI f) (iSeq K (tX K hx W f)) := by
  intro σ H R F ρ O r hp
  refine bindI (P := fun z => match z with
    | .ok ds ρ1 => ∀ (J : It) (H1 : Hp) (O1 : List Addr), RO K hx F ρ1 σ H1 O1 → Same (wo O H) (wo O1 H1) → Its K (wo O1 H1) J ds → R J H1
    | .err x ρ1 => ∀ cls dd H1, RX K hx F ρ1 σ H1 x cls dd → W cls dd σ H1
    | .stuck => False) r hp (fun x ρ1 h => h) (fun h => h) fun d ρ1 v H1 O1 r1 s1 dv q => ?_
  cases d <;> (try exact (q : False).elim)
  · obtain ⟨a, vs, rfl, s, t⟩ := dv.tup_of
    exact ⟨a, rfl, .inr ⟨⟨vs, sqT_mono (wo_same O1 H1) s⟩, q _ H1 O1 r1 s1 (its_tup s t)⟩⟩
  · obtain ⟨a, vs, rfl, s, t⟩ := dv.lst_of
    exact ⟨a, rfl, .inl ⟨⟨vs, .of (wo_same O1 H1 _ _ s)⟩, q _ H1 O1 r1 s1 (its_lst s t)⟩⟩
/-- range(n), range(a, b) -/
def big (i : Int) : Bool := decide (-(2 ^ 62) ≤ i ∧ i < 2 ^ 62)
def iR1 (f : EX) : IX := iB f fun d ρ1 => match d with
  | .int n => if big n = true then .ok (rangeL 0 n.toNat) ρ1 else .stuck
  | _ => .stuck
def iR2 (f g : EX) : IX := iB f fun d ρ1 => iB g (fun e ρ2 => match d, e with
  | .int a, .int b => if big a = true ∧ big b = true then .ok (rangeL a (b - a).toNat) ρ2 else .stuck
  | _, _ => .stuck) ρ1
theorem ri_r1 : RI K hx W (iR1 f) (iRng1 (tCons (tX K hx W f) tNil)) := by
  intro σ H R F ρ O r hp
  refine bindI (P := fun z => match z with
    | .ok ds ρ1 => ∀ (J : It) (H1 : Hp) (O1 : List Addr), RO K hx F ρ1 σ H1 O1 → Same (wo O H) (wo O1 H1) → Its K (wo O1 H1) J ds → R J H1
    | .err x ρ1 => ∀ cls dd H1, RX K hx F ρ1 σ H1 x cls dd → W cls dd σ H1
    | .stuck => False) r hp (fun x ρ1 h => h) (fun h => h) fun d ρ1 v H1 O1 r1 s1 dv q => ?_
  cases d <;> (try exact (q : False).elim)
  rename_i n
  cases dv
  cases hb : big n with
  | false => simp [hb] at q
  | true =>
    simp only [hb, if_true] at q
    obtain ⟨b1, b2⟩ := of_decide_eq_true hb
    exact ⟨n, rfl, b1, b2, q _ H1 O1 r1 s1 (its_rng 0 n.toNat)⟩
theorem ri_r2 : RI K hx W (iR2 f g) (iRng2 (tCons (tX K hx W f) (tCons (tX K hx W g) tNil))) := by
  intro σ H R F ρ O r hp
  refine bindI (P := fun z => match z with
    | .ok ds ρ1 => ∀ (J : It) (H1 : Hp) (O1 : List Addr), RO K hx F ρ1 σ H1 O1 → Same (wo O H) (wo O1 H1) → Its K (wo O1 H1) J ds → R J H1
    | .err x ρ1 => ∀ cls dd H1, RX K hx F ρ1 σ H1 x cls dd → W cls dd σ H1
    | .stuck => False) r hp (fun x ρ1 h => h) (fun h => h) fun d ρ1 v H1 O1 r1 s1 dv q => ?_
  refine bindI (P := fun z => match z with
    | .ok ds ρ1 => ∀ (J : It) (H1 : Hp) (O1 : List Addr), RO K hx F ρ1 σ H1 O1 → Same (wo O H) (wo O1 H1) → Its K (wo O1 H1) J ds → R J H1
    | .err x ρ1 => ∀ cls dd H1, RX K hx F ρ1 σ H1 x cls dd → W cls dd σ H1
    | .stuck => False) r1 q (fun x ρ1 h => h) (fun h => h) fun e ρ2 u H2 O2 r2 s2 du q2 => ?_
  cases d <;> (try exact (q2 : False).elim)
  cases e <;> (try exact (q2 : False).elim)
  rename_i a b
  cases dv
  cases du
  by_cases hb : big a = true ∧ big b = true
  · simp only [hb, and_self, if_true] at q2
    obtain ⟨b1, b2⟩ := of_decide_eq_true hb.1
    obtain ⟨b3, b4⟩ := of_decide_eq_true hb.2
    exact ⟨a, b, rfl, ⟨b1, b2, b3, b4⟩, q2 _ H2 O2 r2 (s1.trans s2) (its_rng a (b - a).toNat)⟩
  · simp only [hb, if_false] at q2
end
def sFor (it : IX) (b : BX) (g : SX) : SX := fun ρ => match it ρ with
  | .ok ds ρ1 => loopS b g ds ρ1
  | .err x ρ1 => .err x ρ1
  | .stuck => .stuck
section
variable {X : Cx} {hx : Hx} {W : WX} {tg iter l a c : Expr} {body : List Stmt} {b : BX} {g : SX} {it : IX} {wi : TI} {pos p : Pos} {f fg : EX} {is : List Nat}
theorem p_for (hp : PassesOwn (model X.prog X.w) X.A X.env X.xe) (hc : X.calm = true) (hi : PI X tg iter wi) (ri : RI X.K hx W it wi) (hg : PG X tg (tG X.K hx is b)) (hb : PSs X body (tS X.K hx W g)) (hs : ∀ x, foldedSetIterable iter X.env x = pure x := by intro _; rfl) :
    PS X (.For tg iter body [] pos) (tS X.K hx W (sFor it b g)) := (ps_for hp hc hi hg hb hs).imp fun D σ H q => by
  obtain ⟨F, ρ, ⟨O, r⟩, hq⟩ := q
  refine ri σ H _ F ρ O r ?_
  unfold sFor at hq
  cases e : it ρ with
  | ok ds ρ1 =>
    rw [e] at hq
    exact fun J H1 O1 r1 s1 its => for_core r1 its hq
  | err x ρ1 =>
    rw [e] at hq
    exact fun cls dd H1 h => hq cls dd σ H1 h
  | stuck =>
    rw [e] at hq
    exact hq
end
end MB

/-! Comprehensions, by values. -/
namespace MB
open PySem PySem.Spec PyProof.Rows L2

/-- the comprehension's own slots forgotten -/
def wipeE (ρ : En) : List Nat → En
  | [] => ρ
  | v :: vs => (wipeE ρ vs).set v none
/-- the outer slots come back -/
def backE (ρ0 ρ : En) : List Nat → En
  | [] => ρ
  | v :: vs => (backE ρ0 ρ vs).set v (ρ0.getD v none)
def notOwn (ρ : En) (v : Nat) : Bool := match ρ[v]? with
  | some (some (.own _)) => false
  | _ => true
def compL (b : BX) (c e : EX) (vs : List Nat) : List D → List D → En → Rs
  | [], acc, ρ => .ok (.lst acc) ρ
  | d :: ds, acc, ρ => match b d (wipeE ρ vs) with
    | none => .stuck
    | some ρ1 => (c ρ1).bind fun t ρ2 => match truth t with
      | some true => (e ρ2).bind fun y ρ3 => compL b c e vs ds (acc ++ [y]) ρ3
      | some false => compL b c e vs ds acc ρ2
      | none => .stuck
def eComp (it : IX) (b : BX) (c e : EX) (vs : List Nat) : EX := fun ρ => match it ρ with
  | .ok ds ρ1 => if ds.length ≤ 1000000 ∧ vs.all (notOwn ρ1) = true then match compL b c e vs ds [] ρ1 with
      | .ok d ρ2 => .ok d (backE ρ1 (wipeE ρ2 vs) vs)
      | r => .stuck
    else .stuck
  | .err x ρ1 => .err x ρ1
  | .stuck => .stuck

section
variable {K : Fg} {hx : Hx} {F : Fm} {H : Hp} {ρ : En} {σ : MB.St} {O : List Addr}
theorem RO.setNone (r : RO K hx F ρ σ H O) (i : Nat) : RO K hx F (ρ.set i none) (σ.set i none) H O := by
  have nv : ∀ {m : Nat} {x : Sl}, (ρ.set i none)[m]? = some (some x) → m ≠ i := fun {m x} e z => by
    subst z
    rw [List.getElem?_set_self'] at e
    cases q : ρ[m]? with
    | none => rw [q] at e; cases e
    | some z =>
      rw [q] at e
      have e' : some (none : Option Sl) = some (some x) := e
      cases e'
  refine ⟨r.fr, r.gs, r.go, fun j a ds e1 e2 => ?_, by simp [r.len], fun j x e => ?_, fun j k a ds es e1 e2 e3 e4 => ?_, r.dom⟩
  · have n1 := nv e1
    rw [List.getElem?_set_ne (Ne.symm n1)] at e1 e2
    exact r.gn j a ds e1 e2
  · have n1 := nv e
    rw [List.getElem?_set_ne (Ne.symm n1)] at e
    obtain ⟨v, ev, h⟩ := r.sl j x e
    exact ⟨v, by rw [List.getElem?_set_ne (Ne.symm n1)]; exact ev, h⟩
  · have n1 := nv e1
    have n2 := nv e2
    rw [List.getElem?_set_ne (Ne.symm n1)] at e1 e3
    rw [List.getElem?_set_ne (Ne.symm n2)] at e2 e4
    exact r.ne j k a ds es e1 e2 e3 e4
theorem RO.wipe (r : RO K hx F ρ σ H O) : ∀ vs : List Nat, RO K hx F (wipeE ρ vs) (L2.wipe σ vs) H O
  | [] => r
  | v :: vs => (r.wipe vs).setNone v
theorem wipeE_length (ρ : En) : ∀ vs : List Nat, (wipeE ρ vs).length = ρ.length
  | [] => rfl
  | v :: vs => by unfold wipeE; rw [List.length_set, wipeE_length ρ vs]
theorem backE_length (ρ0 ρ : En) : ∀ vs : List Nat, (backE ρ0 ρ vs).length = ρ.length
  | [] => rfl
  | v :: vs => by unfold backE; rw [List.length_set, backE_length ρ0 ρ vs]
theorem backE_get (ρ0 ρ : En) : ∀ (vs : List Nat) (i : Nat) (x : Sl), (backE ρ0 ρ vs)[i]? = some (some x) → (i ∈ vs ∧ ρ0[i]? = some (some x)) ∨ (i ∉ vs ∧ ρ[i]? = some (some x))
  | [], i, x, h => .inr ⟨by simp, h⟩
  | v :: vs, i, x, h => by
    unfold backE at h
    by_cases hi : v = i
    · subst hi
      rw [List.getElem?_set_self'] at h
      cases q : (backE ρ0 ρ vs)[v]? with
      | none => rw [q] at h; cases h
      | some z =>
        rw [q] at h
        have h' : some (ρ0.getD v none) = some (some x) := h
        have h2 := Option.some.inj h'
        rw [List.getD_eq_getElem?_getD] at h2
        cases q0 : ρ0[v]? with
        | none => rw [q0] at h2; cases h2
        | some z0 =>
          rw [q0] at h2
          have h3 : z0 = some x := h2
          rw [h3]
          exact .inl ⟨List.mem_cons_self, rfl⟩
    · rw [List.getElem?_set_ne hi] at h
      rcases backE_get ρ0 ρ vs i x h with ⟨m, e⟩ | ⟨m, e⟩
      · exact .inl ⟨List.mem_cons_of_mem _ m, e⟩
      · exact .inr ⟨by simp only [List.mem_cons, not_or]; exact ⟨fun e => hi e.symm, m⟩, e⟩
theorem wipe_out' {σ : MB.St} {i : Nat} : ∀ {vs : List Nat}, i ∉ vs → (L2.wipe σ vs)[i]? = σ[i]?
  | [], _ => rfl
  | v :: vs, h => by
    simp only [List.mem_cons, not_or] at h
    show ((L2.wipe σ vs).set v none)[i]? = σ[i]?
    rw [List.getElem?_set_ne (Ne.symm h.1)]
    exact wipe_out' h.2
/-- behind the block: the outer slots come back -/
theorem RO.back {vs' : List Nat} {ρ0 : En} {H0 : Hp} {O0 : List Addr} (r0 : RO K hx F ρ0 σ H0 O0) (hv : ∀ v ∈ vs', notOwn ρ0 v = true) {F1 : Fm} {ρ' : En} (h1 : F1.f = wo O0 H0) (r : RO K hx F1 ρ' (L2.wipe σ vs') H O) : RO K hx F1 (backE ρ0 ρ' vs') σ H O := by
  have s1 : Same (wo O0 H0) (wo O H) := by rw [← h1]; exact r.fr
  have own : ∀ {i : Nat} {ds : List D}, (backE ρ0 ρ' vs')[i]? = some (some (.own ds)) → i ∉ vs' ∧ ρ'[i]? = some (some (.own ds)) := fun {i ds} e => by
    rcases backE_get ρ0 ρ' vs' i _ e with ⟨m, e0⟩ | h
    · have := hv i m
      unfold notOwn at this
      rw [e0] at this
      cases this
    · exact h
  refine ⟨r.fr, r.gs, r.go, fun i a ds e1 e2 => ?_, ?_, fun i x e => ?_, fun i j a ds es e1 e2 e3 e4 => ?_, r.dom⟩
  · obtain ⟨n, e⟩ := own e1
    exact r.gn i a ds e (by rw [wipe_out' n]; exact e2)
  · rw [backE_length, r.len, wipe_length]
  · rcases backE_get ρ0 ρ' vs' i x e with ⟨m, e0⟩ | ⟨m, e0⟩
    · obtain ⟨v, ev, h⟩ := r0.sl i x e0
      refine ⟨v, ev, ?_⟩
      cases x with
      | val d => exact DV.mono s1 _ _ h
      | own ds =>
        have := hv i m
        unfold notOwn at this
        rw [e0] at this
        cases this
      | exc x =>
        obtain ⟨a, cls, dd, e1, e2, e3⟩ := h
        exact ⟨a, cls, dd, e1, e2, e3.mono s1⟩
    · obtain ⟨v, ev, h⟩ := r.sl i x e0
      rw [wipe_out' m] at ev
      exact ⟨v, ev, h⟩
  · obtain ⟨n1, q1⟩ := own e1
    obtain ⟨n2, q2⟩ := own e2
    exact r.ne i j a ds es q1 q2 (by rw [wipe_out' n1]; exact e3) (by rw [wipe_out' n2]; exact e4)
/-- a new list of mine at p -/
theorem RO.addOwn (r : RO K hx F ρ σ H O) {p : Addr} {o : HO} (n : H p = none) : RO K hx F ρ σ (upd H p o) (p :: O) := by
  have np := r.out n
  have s : Same H (upd H p o) := same_upd n
  have sw : Same (wo O H) (wo (p :: O) (upd H p o)) := fun b x e => by
    unfold wo at *
    split at e
    · cases e
    · rename_i hb
      have hb2 : b ≠ p := fun z => by
        rw [z, n] at e
        cases e
      rw [if_neg (by simp only [List.mem_cons, not_or]; exact ⟨hb2, hb⟩), upd_ne hb2]
      exact e
  refine ⟨r.fr.trans sw, fun a x e => s a x (r.gs a x e), fun a x e => List.mem_cons_of_mem _ (r.go a x e), r.gn, r.len, fun i x e => ?_, r.ne, fun a m => ?_⟩
  · obtain ⟨v, ev, h⟩ := r.sl i x e
    refine ⟨v, ev, ?_⟩
    cases x with
    | val d => exact DV.mono sw _ _ h
    | own ds =>
      obtain ⟨a, vs, e1, e2, e3, e4⟩ := h
      exact ⟨a, vs, e1, List.mem_cons_of_mem _ e2, s _ _ e3, DVs.mono sw _ _ e4⟩
    | exc x =>
      obtain ⟨a, cls, dd, e1, e2, e3⟩ := h
      exact ⟨a, cls, dd, e1, e2, e3.mono sw⟩
  · rcases List.mem_cons.mp m with e | m
    · rw [e]
      exact ⟨o, upd_same⟩
    · obtain ⟨x, e⟩ := r.dom a m
      exact ⟨x, s a x e⟩
/-- a list that no slot holds is changed -/
theorem RO.write (r : RO K hx F ρ σ H O) {p : Addr} {o : HO} (hp : p ∈ O) (hg : F.g p = none) (hn : ∀ (i : Nat) (ds : List D), ρ[i]? = some (some (.own ds)) → σ[i]? ≠ some (some (.ref p))) : RO K hx F ρ σ (upd H p o) O := by
  have ew : wo O (upd H p o) = wo O H := by
    funext a
    unfold wo
    by_cases m : a ∈ O
    · rw [if_pos m, if_pos m]
    · rw [if_neg m, if_neg m, upd_ne (fun z => m (by rw [z]; exact hp))]
  refine ⟨by rw [ew]; exact r.fr, fun a x e => ?_, r.go, r.gn, r.len, fun i x e => ?_, r.ne, fun a m => ?_⟩
  · rw [upd_ne (fun z => by rw [z, hg] at e; cases e)]
    exact r.gs a x e
  · obtain ⟨v, ev, h⟩ := r.sl i x e
    refine ⟨v, ev, ?_⟩
    cases x with
    | val d =>
      show DV K (wo O (upd H p o)) v d
      rw [ew]
      exact h
    | own ds =>
      obtain ⟨a, vs, e1, e2, e3, e4⟩ := h
      refine ⟨a, vs, e1, e2, ?_, by rw [ew]; exact e4⟩
      rw [upd_ne (fun z => by subst z; rw [e1] at ev; exact hn i ds e ev)]
      exact e3
    | exc x =>
      obtain ⟨a, cls, dd, e1, e2, e3⟩ := h
      exact ⟨a, cls, dd, e1, e2, by rw [ew]; exact e3⟩
  · by_cases z : a = p
    · rw [z]
      exact ⟨o, upd_same⟩
    · rw [upd_ne z]
      exact r.dom a m
/-- a list of mine becomes data -/
theorem RO.giveUp (r : RO K hx F ρ σ H O) {p : Addr} (hg : F.g p = none) (hn : ∀ (i : Nat) (ds : List D), ρ[i]? = some (some (.own ds)) → σ[i]? ≠ some (some (.ref p))) : RO K hx F ρ σ H (O.filter (· ≠ p)) ∧ Same (wo O H) (wo (O.filter (· ≠ p)) H) := by
  have sm : Same (wo O H) (wo (O.filter (· ≠ p)) H) := fun b o h => by
    unfold wo at *
    split at h
    · cases h
    · rename_i n
      rw [if_neg (fun z => n (List.mem_filter.mp z).1)]
      exact h
  refine ⟨⟨r.fr.trans sm, r.gs, fun b o hb => List.mem_filter.mpr ⟨r.go b o hb, ?_⟩, r.gn, r.len, fun j x ej => ?_, r.ne, fun b hb => r.dom b (List.mem_filter.mp hb).1⟩, sm⟩
  · have nb : b ≠ p := fun z => by
      subst z
      rw [hg] at hb
      cases hb
    simpa using nb
  · obtain ⟨v', e1, h'⟩ := r.sl j x ej
    refine ⟨v', e1, ?_⟩
    cases x with
    | val d => exact DV.mono sm _ _ h'
    | own es =>
      obtain ⟨b, ws, rfl, hb, hB, hw⟩ := h'
      refine ⟨b, ws, rfl, List.mem_filter.mpr ⟨hb, ?_⟩, hB, DVs.mono sm _ _ hw⟩
      have nb : b ≠ p := fun z => by
        subst z
        exact hn j es ej e1
      simpa using nb
    | exc x =>
      obtain ⟨b, cls, dd, rfl, e2, h2⟩ := h'
      exact ⟨b, cls, dd, rfl, e2, h2.mono sm⟩
end
theorem RO.weak {K : Fg} {hx : Hx} {F F' : Fm} {ρ : En} {σ : MB.St} {H : Hp} {O : List Addr} (r : RO K hx F ρ σ H O) (s : Same F'.f F.f) (g : Same F'.g F.g) : RO K hx F' ρ σ H O :=
  ⟨s.trans r.fr, g.trans r.gs, fun a o h => r.go a o (g a o h), fun i a ds e1 e2 => (by
    cases q : F'.g a with
    | none => rfl
    | some o =>
      have := g a o q
      rw [r.gn i a ds e1 e2] at this
      cases this), r.len, r.sl, r.ne, r.dom⟩
theorem wipe_get {σ : MB.St} {i : Nat} : ∀ {vs : List Nat}, (L2.wipe σ vs)[i]? = if i ∈ vs then (σ[i]?).map (fun _ => none) else σ[i]?
  | [] => by simp [L2.wipe]
  | v :: vs => by
    show ((L2.wipe σ vs).set v none)[i]? = _
    by_cases e : v = i
    · subst e
      rw [List.getElem?_set_self', wipe_get, if_pos (List.mem_cons_self (a := v) (l := vs))]
      split
      · cases σ[v]? <;> rfl
      · cases σ[v]? <;> rfl
    · rw [List.getElem?_set_ne e, wipe_get]
      by_cases m : i ∈ vs
      · rw [if_pos m, if_pos (List.mem_cons_of_mem v m)]
      · rw [if_neg m, if_neg (by simp only [List.mem_cons, not_or]; exact ⟨fun z => e z.symm, m⟩)]
theorem wipe_idem (σ : MB.St) (vs : List Nat) : L2.wipe (L2.wipe σ vs) vs = L2.wipe σ vs := by
  apply List.ext_getElem?
  intro i
  rw [wipe_get, wipe_get]
  split
  · cases σ[i]? <;> rfl
  · rfl
/-- what the block's turns carry -/
structure CW (K : Fg) (hx : Hx) (F1 : Fm) (b : BX) (c e : EX) (vs : List Nat) (σ : MB.St) (D : Addr) (ds : List MB.D) (out : MB.D) (ρo : En) (i : Nat) (H : Hp) : Prop where
  ex : ∃ (acc : List MB.D) (accV : List V) (ρ : En) (O : List Addr), H D = some (.lst accV) ∧ acc.length ≤ i ∧ DVs K (wo O H) accV acc ∧ D ∈ O ∧ RO K hx F1 (wipeE ρ vs) (L2.wipe σ vs) H O ∧
    (∀ (j : Nat) (es : List MB.D), (wipeE ρ vs)[j]? = some (some (.own es)) → (L2.wipe σ vs)[j]? ≠ some (some (.ref D))) ∧ compL b c e vs (ds.drop i) acc ρ = .ok out ρo
theorem comp_core {is : List Nat} {K : Fg} {hx : Hx} {F : Fm} {J : It} {ds : List D} {b : BX} {c e : EX} {vs : List Nat} {ρ : En} {σ : MB.St} {H : Hp} {O : List Addr} {D : Addr} {Qd : Hp → Prop} {out : MB.D} {ρo : En}
    (his : ∀ i ∈ is, i ∈ vs) (hl : ds.length ≤ 1000000) (r : RO K hx F ρ σ H O) (hi : Its K (wo O H) J ds) (hD : H D = none) (hp : compL b c e vs ds [] ρ = .ok out ρo)
    (hd : ∀ H1 O1, RO K hx ⟨wo O H, F.g⟩ (wipeE ρo vs) (L2.wipe σ vs) H1 O1 → DV K (wo O1 H1) (.ref D) out → Qd H1) :
    ∃ W : Nat → Nat → Hp → Prop, (∃ m, W 0 m (upd H D (.lst []))) ∧ ∀ i m H, W i m H →
      (J.stop i H ∧ Qd H) ∨ (J.go i H ∧ ∃ Nx : Hp → Prop, (∀ H', Nx H' → ∃ m', m' < m ∧ W (i + 1) m' H') ∧ ∀ x H', J.yld i H x H' → tG K hx is b x (L2.wipe σ vs) H' fun σ2 H2 => L2.wipe σ2 vs = L2.wipe σ vs ∧ tT K hx (fun _ _ _ _ => False) c σ2 H2 fun t H3 =>
        if t = true then tX K hx (fun _ _ _ _ => False) e σ2 H3 fun y H4 => ∃ acc, H4 D = some (.lst acc) ∧ acc.length < sizeLine ∧ Nx (upd H4 D (.lst (acc ++ [y]))) else Nx H3) := by
  have gD : F.g D = none := by
    cases q : F.g D with
    | none => rfl
    | some o =>
      have := r.gs D o q
      rw [hD] at this
      cases this
  have w0 : CW K hx ⟨wo O H, F.g⟩ b c e vs σ D ds out ρo 0 (upd H D (.lst [])) := by
    refine ⟨[], [], ρ, D :: O, upd_same, Nat.zero_le _, .nil, List.mem_cons_self, (r.re.addOwn hD).wipe vs, fun j es e1 e2 => ?_, hp⟩
    obtain ⟨v, ev, a, ws, e3, _, e4, _⟩ := (r.wipe vs).sl j _ e1
    rw [e2] at ev
    cases ev
    cases e3
    rw [hD] at e4
    cases e4
  refine ⟨fun i m H1 => m = ds.length - i ∧ i ≤ ds.length ∧ CW K hx ⟨wo O H, F.g⟩ b c e vs σ D ds out ρo i H1, ⟨ds.length, by simp, Nat.zero_le _, w0⟩, ?_⟩
  rintro i m H1 ⟨rfl, hle, ⟨acc, accV, ρ1, O1, h1, h2, h3, h4, r1, h5, h6⟩⟩
  have sT : Same (wo O H) H1 := fun a o h => wo_same O1 H1 a o (r1.fr a o h)
  obtain ⟨hgo, hstop⟩ := hi i H1 sT
  by_cases hlt : i < ds.length
  · have hdi : ds[i]? = some ds[i] := List.getElem?_eq_getElem hlt
    have hdrop : ds.drop i = ds[i] :: ds.drop (i + 1) := List.drop_eq_getElem_cons hlt
    rw [hdrop] at h6
    obtain ⟨g1, g2⟩ := hgo _ hdi
    refine .inr ⟨g1, CW K hx ⟨wo O H, F.g⟩ b c e vs σ D ds out ρo (i + 1), fun H' p' => ⟨ds.length - (i + 1), by omega, rfl, hlt, p'⟩, fun x H2 y => ?_⟩
    obtain ⟨s2, dv2⟩ := g2 x H2 y
    -- the frame that holds the list made so far
    let F2 : Fm := ⟨wo O1 H1, fun a => if a = D then some (.lst accV) else F.g a⟩
    have f2D : F2.g D = some (.lst accV) := if_pos rfl
    have f2n : ∀ {a : Addr}, a ≠ D → F2.g a = F.g a := fun {a} h => if_neg h
    have rF2 : RO K hx F2 (wipeE ρ1 vs) (L2.wipe σ vs) H1 O1 := by
      refine ⟨fun _ _ h => h, fun a o h => ?_, fun a o h => ?_, fun j a es e1 e2 => ?_, r1.len, r1.sl, r1.ne, r1.dom⟩
      · by_cases z : a = D
        · subst z
          rw [f2D] at h
          cases h
          exact h1
        · rw [f2n z] at h
          exact r1.gs a o h
      · by_cases z : a = D
        · rw [z]
          exact h4
        · rw [f2n z] at h
          exact r1.go a o h
      · have z : a ≠ D := fun z => h5 j es e1 (by rw [← z]; exact e2)
        rw [f2n z]
        exact r1.gn j a es e1 e2
    have r2 := rF2.grow s2
    have back1 : Same (wo O H) F2.f := r1.fr
    have back2 : Same F.g F2.g := fun a o h => by
      have z : a ≠ D := fun z => by
        rw [z, gD] at h
        cases h
      rw [f2n z]
      exact h
    have h6' : (match b ds[i] (wipeE ρ1 vs) with
      | none => Rs.stuck
      | some ρ1 => (c ρ1).bind fun t ρ2 => match truth t with
        | some true => (e ρ2).bind fun y ρ3 => compL b c e vs (ds.drop (i + 1)) (acc ++ [y]) ρ3
        | some false => compL b c e vs (ds.drop (i + 1)) acc ρ2
        | none => .stuck) = .ok out ρo := h6
    cases eb : b ds[i] (wipeE ρ1 vs) with
    | none =>
      rw [eb] at h6'
      cases h6'
    | some ρ2 =>
      rw [eb] at h6'
      refine ⟨F2, wipeE ρ1 vs, ds[i], O1, ρ2, r2, dv2 O1 r1.dom r1.fr, eb, fun σ2 wp r3 => ?_⟩
      have ew : L2.wipe σ2 vs = L2.wipe σ vs := (wp vs his).trans (wipe_idem σ vs)
      refine ⟨ew, F2, ρ2, ⟨O1, r3⟩, ?_⟩
      have h7 : (c ρ2).bind (fun t ρ2 => match truth t with
        | some true => (e ρ2).bind fun y ρ3 => compL b c e vs (ds.drop (i + 1)) (acc ++ [y]) ρ3
        | some false => compL b c e vs (ds.drop (i + 1)) acc ρ2
        | none => .stuck) = .ok out ρo := h6'
      cases ec : c ρ2 with
      | err x ρ3 =>
        rw [ec] at h7
        cases h7
      | stuck =>
        rw [ec] at h7
        cases h7
      | ok t ρ3 =>
        rw [ec] at h7
        have h8 : (match truth t with
          | some true => (e ρ3).bind fun y ρ3 => compL b c e vs (ds.drop (i + 1)) (acc ++ [y]) ρ3
          | some false => compL b c e vs (ds.drop (i + 1)) acc ρ3
          | none => .stuck) = .ok out ρo := h7
        cases et : truth t with
        | none =>
          rw [et] at h8
          cases h8
        | some tb =>
          rw [et] at h8
          refine ⟨tb, et, fun H3 hr3 => ?_⟩
          obtain ⟨O3, r4⟩ := hr3
          cases tb with
          | false =>
            rw [if_neg Bool.false_ne_true]
            have r5 := r4.wipe vs
            rw [ew] at r5
            exact ⟨acc, accV, ρ3, O3, r4.gs D _ f2D, by omega, DVs.mono r4.fr _ _ h3, r4.go D _ f2D, r5.weak back1 back2, fun j es e1 e2 => (by
              have := r5.gn j D es e1 e2
              rw [f2D] at this
              cases this), h8⟩
          | true =>
            rw [if_pos rfl]
            refine ⟨F2, ρ3, ⟨O3, r4⟩, ?_⟩
            have h9 : (e ρ3).bind (fun y ρ3 => compL b c e vs (ds.drop (i + 1)) (acc ++ [y]) ρ3) = .ok out ρo := h8
            cases ee : e ρ3 with
            | err x ρ4 =>
              rw [ee] at h9
              cases h9
            | stuck =>
              rw [ee] at h9
              cases h9
            | ok y ρ4 =>
              rw [ee] at h9
              intro v H4 hv
              obtain ⟨O4, r6, dy⟩ := hv
              have hD4 := r6.gs D _ f2D
              have mD := r6.go D _ f2D
              have dacc := DVs.mono r6.fr _ _ h3
              refine ⟨accV, hD4, ?_, ?_⟩
              · rw [h3.length, sizeLine_eq]
                omega
              · have r7 := r6.wipe vs
                rw [ew] at r7
                have nD : ∀ (j : Nat) (es : List MB.D), (wipeE ρ4 vs)[j]? = some (some (.own es)) → (L2.wipe σ vs)[j]? ≠ some (some (.ref D)) := fun j es e1 e2 => by
                  have := r7.gn j D es e1 e2
                  rw [f2D] at this
                  cases this
                have r8 := (r7.weak (F' := ⟨wo O H, F.g⟩) back1 back2).write (o := .lst (accV ++ [v])) mD gD nD
                have ewo : wo O4 (upd H4 D (.lst (accV ++ [v]))) = wo O4 H4 := by
                  funext a
                  unfold wo
                  by_cases m : a ∈ O4
                  · rw [if_pos m, if_pos m]
                  · rw [if_neg m, if_neg m, upd_ne (fun z => m (by rw [z]; exact mD))]
                exact ⟨acc ++ [y], accV ++ [v], ρ4, O4, upd_same, by rw [List.length_append]; show acc.length + 1 ≤ i + 1; omega, by rw [ewo]; exact dacc.append (.cons dy .nil), mD, r8, nD, h9⟩
  · have ei : i = ds.length := by omega
    subst ei
    rw [List.drop_length] at h6
    have h7 : Rs.ok (.lst acc) ρ1 = .ok out ρo := h6
    cases h7
    obtain ⟨r2, s2⟩ := r1.giveUp gD h5
    refine .inl ⟨hstop (Nat.le_refl _), hd H1 _ r2 (.lst ?_ (DVs.mono s2 _ _ h3))⟩
    unfold wo
    rw [if_neg (fun z => by simpa using (List.mem_filter.mp z).2)]
    exact h1
section
variable {X : Cx} {hx : Hx} {W : WX} {tg iter elt : Expr} {ifs : List Expr} {b : BX} {it : IX} {wi : TI} {pos : Pos} {c e : EX} {is : List Nat} {scope : Scope} {own : List (Str × Nat)}
theorem t_comp (ri : RI X.K hx W it wi) (his : ∀ i ∈ is, i ∈ own.map (·.2)) {σ : MB.St} {H : Hp} {Q : VK} (h : tX X.K hx W (eComp it b c e (own.map (·.2))) σ H Q) :
    tLc wi (tG X.K hx is b) (tT X.K hx (fun _ _ _ _ => False) c) (tX X.K hx (fun _ _ _ _ => False) e) (own.map (·.2)) σ H Q := by
  obtain ⟨F, ρ, ⟨O, r⟩, hq⟩ := h
  refine ri σ H _ F ρ O r ?_
  unfold eComp at hq
  cases ei : it ρ with
  | err x ρ1 =>
    rw [ei] at hq
    exact hq
  | stuck =>
    rw [ei] at hq
    exact hq
  | ok ds ρ1 =>
    rw [ei] at hq
    intro J H1 O1 r1 s1 its D hD
    have hq' : Po X.K hx F W σ (if ds.length ≤ 1000000 ∧ (own.map (·.2)).all (notOwn ρ1) = true then match compL b c e (own.map (·.2)) ds [] ρ1 with
      | .ok d ρ2 => .ok d (backE ρ1 (wipeE ρ2 (own.map (·.2))) (own.map (·.2)))
      | r => .stuck
      else .stuck) Q := hq
    split at hq'
    · rename_i hc
      cases ec : compL b c e (own.map (·.2)) ds [] ρ1 with
      | err x ρ2 =>
        rw [ec] at hq'
        exact hq'.elim
      | stuck =>
        rw [ec] at hq'
        exact hq'.elim
      | ok out ρ2 =>
        rw [ec] at hq'
        refine comp_core his hc.1 r1 its hD ec fun H2 O2 r2 dv => ?_
        have r3 := RO.back r1 (fun v hv => List.all_eq_true.mp hc.2 v hv) (F1 := ⟨wo O1 H1, F.g⟩) rfl r2
        exact hq' _ H2 ⟨O2, r3.fr_of r1.fr rfl, dv⟩
    · exact hq'.elim
/-- [elt for tg in iter if c] -/
theorem r_comp (hc : X.calm = true) (hN : X.N.Nodup) (hi : PI X tg iter wi) (ri : RI X.K hx W it wi) (ok : blkC X.N X.env.scope scope own = true)
    (hg : ∀ (s : Shared) (H : Hp) (C : Addr) (cl : List (Str × Addr)) (fp : List Addr), PG (X.blk s H scope (compEnvC scope cl C X.env) fp) tg (tG X.K hx is b))
    (ht : ∀ (s : Shared) (H : Hp) (C : Addr) (cl : List (Str × Addr)) (fp : List Addr), PTs (X.blk s H scope (compEnvC scope cl C X.env) fp) ifs (tT X.K hx (fun _ _ _ _ => False) c))
    (he : ∀ (s : Shared) (H : Hp) (C : Addr) (cl : List (Str × Addr)) (fp : List Addr), PE (X.blk s H scope (compEnvC scope cl C X.env) fp) elt (tX X.K hx (fun _ _ _ _ => False) e))
    (his : ∀ i ∈ is, i ∈ own.map (·.2) := by decide) (hs : ∀ x, foldedSetIterable iter X.env x = pure x := by intro _; rfl) :
    PE X (.ListComp elt [⟨tg, iter, ifs, 0⟩] scope pos) (tX X.K hx W (eComp it b c e (own.map (·.2)))) :=
  (pe_lc hc hN hi (blkOk_by ok) hg ht he hs).imp fun _ _ _ h => t_comp ri his h
/-- y = [elt for tg in iter if c] -/
theorem p_setC {i : Nat} {y : Str} {py spos : Pos} (hc : X.calm = true) (hN : X.N.Nodup) (hy : X.N[i]? = some y) (hyl : X.env.scope.names.lookup y = some .local)
    (hsw : swapsWith (.ListComp elt [⟨tg, iter, ifs, 0⟩] scope pos) (some (.Name y py)) spos.line X.env = pure true) (hi : PI X tg iter wi) (ri : RI X.K hx W it wi) (ok : blkC X.N X.env.scope scope own = true)
    (hg : ∀ (s : Shared) (H : Hp) (C : Addr) (cl : List (Str × Addr)) (fp : List Addr), PG (X.blk s H scope (compEnvC scope cl C X.env) fp) tg (tG X.K hx is b))
    (ht : ∀ (s : Shared) (H : Hp) (C : Addr) (cl : List (Str × Addr)) (fp : List Addr), PTs (X.blk s H scope (compEnvC scope cl C X.env) fp) ifs (tT X.K hx (fun _ _ _ _ => False) c))
    (he : ∀ (s : Shared) (H : Hp) (C : Addr) (cl : List (Str × Addr)) (fp : List Addr), PE (X.blk s H scope (compEnvC scope cl C X.env) fp) elt (tX X.K hx (fun _ _ _ _ => False) e))
    (his : ∀ i ∈ is, i ∈ own.map (·.2) := by decide) (hs : ∀ x, foldedSetIterable iter X.env x = pure x := by intro _; rfl) :
    PS X (.Assign [.Name y py] (.ListComp elt [⟨tg, iter, ifs, 0⟩] scope pos) spos) (tS X.K hx W (sSet i (eComp it b c e (own.map (·.2))))) :=
  (ps_setLc hc hN hy hyl hsw hi (blkOk_by ok) hg ht he hs).imp fun D σ H q => by
    obtain ⟨F, ρ, ⟨O, r⟩, hp⟩ := q
    refine t_comp ri his (bindS r hp fun d ρ1 v H1 O1 r1 dv hp1 => ?_)
    exact hp1 _ H1 ⟨O1, r1.set i dv⟩
theorem c_nil {X : Cx} : PTs X [] (tT X.K hx W (eC (.bl true))) := by
  refine ⟨fun pins s σ H Q I h => pts_nil.run pins s σ H Q I ?_⟩
  obtain ⟨F, ρ, ⟨O, r⟩, b, hb, k⟩ := h
  cases hb
  exact k H ⟨O, r⟩
theorem c_one {X : Cx} {a : Expr} {f : EX} (h : PT X a (tT X.K hx W f)) : PTs X [a] (tT X.K hx W f) := pts_one h
end
end MB

/-! Defs by their bodies, by values. -/
namespace MB
open PySem PySem.Spec PyProof.Rows L2

def envOf (n : Nat) (ds : List D) : En := ds.map (fun d => some (.val d)) ++ List.replicate (n - ds.length) none
def endR : Fl → Rt
  | .nx _ => .ok .non
  | .rt d _ => .ok d
  | .err x _ => .err x
  | _ => .stuck
def runS (b : SX) (n : Nat) : Fn := fun ds => endR (b (envOf n ds))
theorem envOf_get {n : Nat} {ds : List D} {i : Nat} {x : Sl} (h : (envOf n ds)[i]? = some (some x)) : ∃ d, x = .val d ∧ ds[i]? = some d := by
  unfold envOf at h
  by_cases hi : i < ds.length
  · rw [List.getElem?_append_left (by simpa using hi), List.getElem?_map] at h
    cases e : ds[i]? with
    | none => rw [e] at h; cases h
    | some d =>
      rw [e] at h
      cases h
      exact ⟨d, rfl, rfl⟩
  · rw [List.getElem?_append_right (by simpa using hi), List.getElem?_replicate] at h
    split at h <;> cases h
theorem start_get {N : List Str} {vs : List V} {i : Nat} {v : V} (h : vs[i]? = some v) : (L2.start N vs)[i]? = some (some v) := by
  unfold L2.start
  have hi : i < vs.length := (List.getElem?_eq_some_iff.mp h).1
  rw [List.getElem?_append_left (by simpa using hi), List.getElem?_map, h]
  rfl
/-- at the entry: what the caller owns stands apart -/
theorem ro_start {K : Fg} {hx : Hx} {N : List Str} {O : List Addr} {H : Hp} {vs : List V} {ds : List D} (dom : ∀ a ∈ O, ∃ o, H a = some o) (dv : DVs K (wo O H) vs ds) :
    RO K hx ⟨wo O H, fun a => if a ∈ O then H a else none⟩ (envOf N.length ds) (L2.start N vs) H O := by
  refine ⟨Same.refl _, fun a o h => ?_, fun a o h => ?_, fun i a es e1 e2 => ?_, ?_, fun i x e => ?_, fun i j a ds es e1 e2 e3 e4 => ?_, dom⟩
  · have h' : (if a ∈ O then H a else none) = some o := h
    split at h'
    · exact h'
    · cases h'
  · have h' : (if a ∈ O then H a else none) = some o := h
    split at h'
    · assumption
    · cases h'
  · obtain ⟨d, q, _⟩ := envOf_get e1
    cases q
  · unfold envOf L2.start
    simp [dv.length]
  · obtain ⟨d, rfl, hd⟩ := envOf_get e
    obtain ⟨v, hv, h⟩ := dv.get hd
    exact ⟨v, start_get hv, h⟩
  · obtain ⟨d, q, _⟩ := envOf_get e1
    cases q
/-- at the end: all that stood still stands, the result is apart of what the caller owns -/
theorem ro_end {K : Fg} {hx : Hx} {ρ : En} {σ : MB.St} {O O' : List Addr} {H H' : Hp} (dom : ∀ a ∈ O, ∃ o, H a = some o) (r : RO K hx ⟨wo O H, fun a => if a ∈ O then H a else none⟩ ρ σ H' O') : Same H H' ∧ Same (wo O' H') (wo O H') := by
  have sub : ∀ a ∈ O, a ∈ O' := fun a m => by
    obtain ⟨o, e⟩ := dom a m
    exact r.go a o (show (if a ∈ O then H a else none) = some o by rw [if_pos m]; exact e)
  refine ⟨fun a o h => ?_, fun a o h => ?_⟩
  · by_cases m : a ∈ O
    · exact r.gs a o (show (if a ∈ O then H a else none) = some o by rw [if_pos m]; exact h)
    · exact wo_same O' H' a o (r.fr a o (show (if a ∈ O then none else H a) = some o by rw [if_neg m]; exact h))
  · unfold wo at *
    split at h
    · cases h
    · rename_i n
      rw [if_neg fun z => n (sub a z)]
      exact h
theorem body_run {K : Fg} {N : List Str} {b : SX} {O : List Addr} {H : Hp} {vs : List V} {ds : List D} {Q : VK} {E : XK} (dom : ∀ a ∈ O, ∃ o, H a = some o) (dv : DVs K (wo O H) vs ds)
    (h : match runS b N.length ds with
      | .ok d => ∀ v H', Same H H' → DV K (wo O H') v d → Q v H'
      | .err x => ∀ cls dd H', Same H H' → ExOk K (wo O H') x cls dd → E cls dd H'
      | .stuck => False) : tS K none (fun cls d _ H => E cls d H) b { nx := fun _ H' => Q .non H', rt := Q } (L2.start N vs) H := by
  refine ⟨_, envOf N.length ds, ⟨O, ro_start dom dv⟩, ?_⟩
  unfold runS at h
  cases e : b (envOf N.length ds) with
  | nx ρ =>
    rw [e] at h
    exact fun σ H' ⟨O', r⟩ => h .non H' (ro_end dom r).1 .non
  | rt d ρ =>
    rw [e] at h
    exact fun v σ H' ⟨O', r, dv⟩ => h v H' (ro_end dom r).1 (DV.mono (ro_end dom r).2 _ _ dv)
  | err x ρ =>
    rw [e] at h
    exact fun cls dd σ H' ⟨O', r, ev⟩ => h cls dd H' (ro_end dom r).1 (ev.mono (ro_end dom r).2)
  | bk ρ => rw [e] at h; exact h.elim
  | ct ρ => rw [e] at h; exact h.elim
  | stuck => rw [e] at h; exact h.elim
section
variable {P : Program} {w : World} {K : Fg} {mg : Str → Option Value} {base : Heap} {x qual : Str} {params : Arguments} {body : List Stmt} {scope : Scope} {f : Addr} {fd : FuncData}
/-- the context of a def's body -/
abbrev cx0 (P : Program) (w : World) (K : Fg) (mg : Str → Option Value) (base : Heap) (N : List Str) (qual : Str) (scope : Scope) (f : Addr) (cd : Value) (A : Around) (outer : List Env) (s : Shared) (H : Hp) (E : XK) : Cx := cxOf (L2N.CX P w) P w K mg base N qual scope f cd A outer s H E
abbrev wE0 (E : XK) : WX := fun cls d _ H => E cls d H
theorem tk_cx {N : List Str} {cd : Value} {A : Around} {outer : List Env} {s : Shared} {H : Hp} {E : XK} : L2N.Takes (cx0 P w K mg base N qual scope f cd A outer s H E) (wE0 E) := L2N.takes_of rfl rfl rfl rfl
theorem ps_cx {N : List Str} {cd : Value} {A : Around} {outer : List Env} {s : Shared} {H : Hp} {E : XK} : PassesOwn (model P w) (cx0 P w K mg base N qual scope f cd A outer s H E).A (cx0 P w K mg base N qual scope f cd A outer s H E).env (cx0 P w K mg base N qual scope f cd A outer s H E).xe := passes_of rfl
/-- a def's body, by its function -/
def Body (P : Program) (w : World) (K : Fg) (mg : Str → Option Value) (base : Heap) (k : Nat) (N : List Str) (qual : Str) (scope : Scope) (body : List Stmt) (b : SX) : Prop :=
  ∀ (f : Addr) (cd : Value) (A : Around) (outer : List Env) (s : Shared) (H : Hp) (E : XK), Room k (A.deeper (envOfC qual scope s.heap.objs.size f cd)) → PSs (cx0 P w K mg base N qual scope f cd A outer s H E) body (tS K none (wE0 E) b)
theorem def_ok {k : Nat} {N ps : List Str} {b : SX} (F : FunD K x qual params body scope [] [] f fd) (S : FnScope N ps scope) (hb : Body P w K mg base k N qual scope body b) : FnV P w K mg base (k + 1) f fd ps (runS b N.length) :=
  F.ok S (fun vs H Q E h => h.1) fun cdv A outer s H vs Q E hr h => by
    obtain ⟨hl, O, ds, dom, dv, q⟩ := h
    exact ⟨_, hb f cdv A outer s H E hr, body_run dom dv q⟩
theorem df_ok {k : Nat} {N ps : List Str} {b : SX} (hg : mg x = some (.ref f)) (F : FunD K x qual params body scope [] [] f fd) (S : FnScope N ps scope) (hbi : Binds K fd ps []) (hb : Body P w K mg base k N qual scope body b) : Df P w K mg base (k + 1) x ps.length (runS b N.length) :=
  ⟨f, fd, ps, hg, F.kp, hbi, rfl, def_ok F S hb⟩
theorem Df.mono {j k n : Nat} {m : Fn} (d : Df P w K mg base j x n m) (h : j ≤ k) : Df P w K mg base k x n m := by
  obtain ⟨f, fd, ps, h1, h2, h3, h4, h5⟩ := d.ex
  exact ⟨f, fd, ps, h1, h2, h3, h4, h5.mono h⟩
end

/-! ### defs that take the handled exception -/
structure FnE (P : Program) (w : World) (K : Fg) (mg : Str → Option Value) (base : Heap) (k : Nat) (f : Addr) (fd : FuncData) (ps : List Str) (m : Ex → Rt) : Prop where
  one : ps.length = 1
  run : ∀ (A : Around) (outer : List Env) (s : Shared) (H : Hp) (args : Args) (us : List Value) (Q : VK) (E : XK) (p : Addr × Obj) (O : List Addr) (y : Ex) (cls : Value) (dd : Option Addr), L2H.RoomH k A → L2H.Hot1 A p → L2H.PinOk outer H s p → Env0 P w K mg base A outer s H → BindsTo s fd args (ps.zip us) → Vals [.ref p.1] us →
    Zc cls dd p.2 → (∀ a ∈ O, ∃ o, H a = some o) → ExOk K (wo O H) y cls dd → (∃ d, m y = .ok d ∧ ∀ v H', Same H H' → DV K (wo O H') v d → Q v H') → codeAny (model P w) A (.call (.ref f) args) (CR (L2N.CX P w) outer P w H s Q E) s
theorem FnE.mono {P : Program} {w : World} {K : Fg} {mg : Str → Option Value} {base : Heap} {j k : Nat} {f : Addr} {fd : FuncData} {ps : List Str} {m : Ex → Rt} (F : FnE P w K mg base j f fd ps m) (h : j ≤ k) : FnE P w K mg base k f fd ps m :=
  ⟨F.one, fun A outer s H args us Q E p O y cls dd hr => F.run A outer s H args us Q E p O y cls dd (hr.mono h)⟩
def envE (n : Nat) (x : Ex) : En := some (.exc x) :: List.replicate (n - 1) none
def runE (b : SX) (n : Nat) : Ex → Rt := fun x => endR (b (envE n x))
theorem envE_get {n : Nat} {x : Ex} {i : Nat} {y : Sl} (h : (envE n x)[i]? = some (some y)) : y = .exc x ∧ i = 0 := by
  unfold envE at h
  cases i with
  | zero =>
    cases h
    exact ⟨rfl, rfl⟩
  | succ i =>
    rw [List.getElem?_cons_succ, List.getElem?_replicate] at h
    split at h <;> cases h
theorem ro_startE {K : Fg} {N : List Str} {O : List Addr} {H : Hp} {a : Addr} {x : Ex} {cls : Value} {dd : Option Addr} (hn : 1 ≤ N.length) (dom : ∀ a ∈ O, ∃ o, H a = some o) (ev : ExOk K (wo O H) x cls dd) :
    RO K (some (a, cls, dd)) ⟨wo O H, fun a => if a ∈ O then H a else none⟩ (envE N.length x) (L2.start N [.ref a]) H O := by
  refine ⟨Same.refl _, fun a o h => ?_, fun a o h => ?_, fun i a es e1 e2 => ?_, ?_, fun i y e => ?_, fun i j a ds es e1 e2 e3 e4 => ?_, dom⟩
  · have h' : (if a ∈ O then H a else none) = some o := h
    split at h'
    · exact h'
    · cases h'
  · have h' : (if a ∈ O then H a else none) = some o := h
    split at h'
    · assumption
    · cases h'
  · obtain ⟨q, _⟩ := envE_get e1
    cases q
  · unfold envE L2.start
    simp
  · obtain ⟨rfl, rfl⟩ := envE_get e
    exact ⟨.ref a, rfl, a, cls, dd, rfl, rfl, ev⟩
  · obtain ⟨q, _⟩ := envE_get e1
    cases q
section
variable {P : Program} {w : World} {K : Fg} {mg : Str → Option Value} {base : Heap} {x qual : Str} {params : Arguments} {body : List Stmt} {scope : Scope} {f : Addr} {fd : FuncData}
def BodyE (P : Program) (w : World) (K : Fg) (mg : Str → Option Value) (base : Heap) (k : Nat) (N : List Str) (qual : Str) (scope : Scope) (body : List Stmt) (b : SX) : Prop :=
  ∀ (f : Addr) (cd : Value) (A : Around) (outer : List Env) (s : Shared) (H : Hp) (E : XK) (a : Addr) (oe : Obj) (cls : Value) (dd : Option Addr), L2H.RoomH k (A.deeper (envOfC qual scope s.heap.objs.size f cd)) → L2H.Hot1 A (a, oe) → Zc cls dd oe →
    PSs (L2H.cxH (L2N.CX P w) P w K mg base N qual scope f cd A outer s H E (a, oe)) body (tS K (some (a, cls, dd)) (fun _ _ _ _ => False) b)
theorem defE_ok {k : Nat} {N ps : List Str} {b : SX} (F : FunD K x qual params body scope [] [] f fd) (S : FnScope N ps scope) (h1 : ps.length = 1) (hb : BodyE P w K mg base k N qual scope body b) : FnE P w K mg base (k + 1) f fd ps (runE b N.length) := by
  refine ⟨h1, fun A outer s H args us Q E p O y cls dd hr hot hpin e0 hbi r hz dom ev hq => ?_⟩
  obtain ⟨oc, od, dV, kV, doc, pm, an, cdv, ct, osl, rfl, lk, hcd, _, _⟩ := F.ex
  have KX : K.In s.heap := e0.mod.kin.keeps fun b o e => (e0.bs b o e).1
  have lim : s.heap.NoLimit := e0.mod.nolimit.keeps fun b o e => (e0.bs b o e).1
  have hkind : ∀ y ∈ ps.zip us, scope.names.lookup y.1 = some .local ∨ (scope.names.lookup y.1 = some .cell ∧ ((cellsFrom (s.heap.objs.size + 1) scope.names []).lookup y.1).isSome = true) := fun ⟨n, v⟩ hy => by
    rcases S.par n (List.of_mem_zip hy).1 with q | q
    · exact .inl q
    · exact .inr ⟨q, PySem.W.cellsFrom_some _ _ _ (.inl q)⟩
  refine codeAny_call_function hr.depth (KX _ _ lk) rfl S.co S.gen rfl (PySem.W.codeRec_of KX hcd) (hbi _ _ _ _ ?_)
  refine wpAny_newFunctionEnv_cells S.kind hkind fun env he s1 x => ?_
  subst he
  refine ⟨lim.keeps x.toInCall.keep, codeAny_func ?_⟩
  obtain ⟨pa, po⟩ := p
  have hN : 1 ≤ N.length := by
    have := congrArg List.length S.pre
    rw [List.length_take] at this
    omega
  have ht := hb f cdv A outer s H E pa po cls dd (hr.deeper _) hot hz
  have I : Inv (L2H.cxH (L2N.CX P w) P w K mg base N qual scope f cdv A outer s H E (pa, po)) [] (L2.start N [.ref pa]) H s1 := L2H.inv_startH S hpin e0 h1.symm r x
  have hq' : tS K (some (pa, cls, dd)) (fun _ _ _ _ => False) b { nx := fun _ H' => Q .non H', rt := Q } (L2.start N [.ref pa]) H := by
    refine ⟨_, envE N.length y, ⟨O, ro_startE hN dom ev⟩, ?_⟩
    obtain ⟨d, hm, hq⟩ := hq
    unfold runE at hm
    cases e : b (envE N.length y) with
    | nx ρ =>
      rw [e] at hm
      cases hm
      exact fun σ H' ⟨O', r⟩ => hq .non H' (ro_end dom r).1 .non
    | rt d ρ =>
      rw [e] at hm
      cases hm
      exact fun v σ H' ⟨O', r, dv⟩ => hq v H' (ro_end dom r).1 (DV.mono (ro_end dom r).2 _ _ dv)
    | err x ρ => rw [e] at hm; cases hm
    | bk ρ => rw [e] at hm; cases hm
    | ct ρ => rw [e] at hm; cases hm
    | stuck => rw [e] at hm; cases hm
  refine wpAny_mono (ht.run [] s1 (L2.start N [.ref pa]) H _ I hq') (fun fl s' hs => ?_) fun e s' hs => hs
  have fin : ∀ {σ' : MB.St} {H' : Hp} {v : V} {u : Value}, Inv (L2H.cxH (L2N.CX P w) P w K mg base N qual scope f cdv A outer s H E (pa, po)) [] σ' H' s' → RelV v u → Q v H' → CE outer P w H s Q u s' :=
    fun {σ' H' v u} J rv q => ⟨v, H', J.os, J.bare, J.base, J.hok, rv, q⟩
  cases fl with
  | ret u =>
    obtain ⟨v, σ', H', J, rv, q⟩ := hs
    exact fin J rv q
  | next =>
    obtain ⟨σ', H', J, q⟩ := hs
    exact fin (v := V.non) (u := Value.none) J rfl q
  | brk =>
    obtain ⟨_, _, _, q⟩ := hs
    exact False.elim q
  | cont =>
    obtain ⟨_, _, _, q⟩ := hs
    exact False.elim q
end
end MB

/-! The handled exception, try, by values. -/
namespace PySem.W
open PySem PySem.Spec PySem.Calls PyProof.Rows
section
variable {prog : Program} {w : World} {A : Around} {E : Value → Shared → Prop} {s : Shared} {K : Frag} {x C : Addr} {ox : Obj} {od : Option Obj}
theorem mb_findObj {name : Str} {a g : Value} (hc : (clsIn K C).isSome = true) (ha : findIn K (.ref C) name = some (some a)) (hg : specialIn K a "__get__" = some (some g)) (ht : takesIn K a = some true) : findObj K C od name = some (.bind g a) := by
  obtain ⟨cd, hc⟩ := Option.isSome_iff_exists.mp hc
  unfold findObj
  rw [hc, Option.bind_some, ha, Option.bind_some]
  simp [hg, ht]
theorem mb_class (T : L2.ExcC K C) (X : K.In s.heap) (I : InstAt s.heap x ox C od) {Q : Option Value → Shared → Prop} (h : Q (some (.ref C)) { s with toks := s.toks + 1 }) : wpAny (model prog w) A (getAttr? (.ref x) "__class__") Q E s := by
  have hf : findObj K C od "__class__" = some (.bind (.builtin "getset_descriptor.__get__") (.builtin "object.__class__")) := mb_findObj (by obtain ⟨cd, hc, _⟩ := any_some T.hd; rw [hc]; rfl) T.ha T.hn T.ht
  obtain ⟨hp, g, d, t, os⟩ := s
  have L0 := I.type (M := model prog w)
  have L1 := looks_findIn (M := model prog w) X T.hg
  have L2 := looks_findIn (M := model prog w) X T.hk
  have L3 := looks_find (M := model prog w) X I hf
  have sub : Looks (model prog w) hp (isInstance (.ref x) (.type "BaseException")) true := L0.andThen (looks_subIn X T.hs)
  unfold getAttr? getAttrBy? getAttrBy
  refine wpAny_bind (wpAny_mkText (wpAny_bind (wpAny_attempt (wpAny_holding (wpAny_bind (L0.at (wpAny_bind (L1.at ?_))))))))
  show wpAny _ _ (if (onTheHeap (Value.ref C) && Value.builtin "BaseException.__getattribute__" == Value.builtin "object.__getattribute__") = true then _ else _) _ _ _
  rw [show (onTheHeap (Value.ref C) && Value.builtin "BaseException.__getattribute__" == Value.builtin "object.__getattribute__") = false by rw [show (Value.builtin "BaseException.__getattribute__" == Value.builtin "object.__getattribute__") = false by decide +kernel]; rfl, if_neg Bool.false_ne_true]
  unfold getAttrByItsOwn hookBefore
  refine wpAny_bind ?_
  rw [if_pos (show onTheHeap (Value.ref C) = true from rfl)]
  refine L2.at (wpAny_bind (wpAny_attempt (wpAny_holding ?_)))
  unfold callGetattribute
  rw [show (false && onTheHeap (Value.builtin "BaseException.__getattribute__")) = false from rfl, if_neg Bool.false_ne_true]
  unfold boundAndCalled
  rw [PySem.F.excAttr_ValueError.ga.bind (.ref x)]
  refine wpAny_bind (wpAny_pure ?_)
  show wpAny _ _ (call (.builtin "BaseException.__getattribute__") [.ref x, .str "__class__" t]) _ _ _
  refine wpAny_call (codeAny_call_builtin PySem.F.excAttr_ValueError.ga.plain PySem.F.entry_bexc_ga ?_)
  refine @check_slot (model prog w) _ _ ⟨hp, g, d, t + 1, os⟩ "BaseException.__getattribute__" "BaseException" "__getattribute__" (.ref x) [.str "__class__" t] [] _ (by decide +kernel) (by decide +kernel) sub (PySem.F.args_bexc_ga (.ref x) (.str "__class__" t)) ?_
  unfold Builtin.«object.__getattribute__»
  refine wpAny_bind (wpAny_of_eq (a := ((Value.ref x : Value), [Value.str "__class__" t])) (by first | rfl | (simp only [slotArgs]; rfl)) ?_)
  refine wpAny_bind (wpAny_pure (wpAny_bind (L0.at (wpAny_bind (L3.at ?_)))))
  show wpAny _ _ (holding [Value.builtin "object.__class__"] (call (.builtin "getset_descriptor.__get__") [.builtin "object.__class__", .ref x, .ref C]) >>= ret) _ _ _
  refine wpAny_bind (wpAny_holding (wpAny_call (class_get (s := ⟨hp, g, d, t + 1, os⟩) (ox := ox) (od := od) X I T.hm ?_)))
  refine wpAny_pure ?_
  show wpAny _ _ (handedOut (.ref C)) _ _ _
  rw [handedOut_of (v := .ref C) rfl]
  first
    | exact wpAny_pure (wpAny_pure h)
    | exact wpAny_pure h
    | exact wpAny_pure (wpAny_bind (wpAny_pure (wpAny_pure h)))
theorem mb_kitx (T : L2.ExcC K C) : KitX K (.ref x) (.ref C) (fun h => InstAt h x ox C od) where
  ty := fun _ _ _ I => I.type
  it := fun _ _ X _ => by
    obtain ⟨cdD, hcD, _⟩ := any_some T.hd
    unfold clsIn at hcD
    split at hcD
    · rename_i c' d' cd' sl' ho
      intro A' Q' E' s' k q
      unfold isType loadHead
      exact wpAny_bind (wpAny_loadPart (k _ _ (X _ _ ho)) (wpAny_pure q))
    · cases hcD
  ne := fun h tp dd its n sl X htp => by
    obtain ⟨cdD, hcD, _⟩ := any_some T.hd
    refine Bool.eq_false_iff.mpr fun q => ?_
    have e : C = tp := Value.ref.inj (beq_iff_eq.mp q)
    subst e
    unfold clsIn at hcD
    split at hcD
    · rename_i c' d' cd' sl' ho
      have z := (X _ _ ho).symm.trans htp
      cases z
    · cases hcD
  ca := fun X I k => mb_class T X I k
end
end PySem.W
namespace MB
open PySem PySem.Spec PyProof.Rows L2

/-- the context holds the handled exception -/
def HxOk (X : Cx) (hx : Hx) : Prop := ∃ a oe cls dd, hx = some (a, cls, dd) ∧ (a, oe) ∈ X.pn ∧ L2H.Hot1 X.A (a, oe) ∧ Zc cls dd oe
def dictOk (H : Hp) (dd : Option Addr) : Prop := dd = none ∨ ∃ d vs, dd = some d ∧ H d = some (.xd vs)
theorem ExOk.dict {K : Fg} {H H' : Hp} {x : Ex} {cls : Value} {dd : Option Addr} (h : ExOk K H x cls dd) (s : Same H H') : dictOk H' dd := by
  obtain ⟨_, ⟨_, h⟩ | ⟨d, vs, e, h, _⟩⟩ := h
  · exact .inl h
  · exact .inr ⟨d, vs, e, s _ _ h⟩
def rIsX (K : Fg) (C a : Addr) (dd : Option Addr) : List V → Hp → VK → Prop := fun xs H Q => ∃ (c : V) (cv : Value) (b : Bool), xs = [.ref a, c] ∧ (∀ u, RelV c u → u = cv) ∧ PySem.W.kitOne K (.ref C) cv = some b ∧ dictOk H dd ∧ Q (.bl b) H
theorem call_isX {X : Cx} {a C : Addr} {oe : Obj} {dd : Option Addr} (T : ExcC X.K C) (hm : (a, oe) ∈ X.pn) (hz : Zc (.ref C) dd oe) (hf : ∃ vs, oe.data = .fields vs) : CallR X (.builtin "isinstance") (rIsX X.K C a dd) := by
  intro pins s σ H xs us Q I r h
  obtain ⟨c, cv, b, rfl, hcv, e, hd, q⟩ := h
  cases r with
  | cons rx rr =>
    cases rr with
    | cons rt rr =>
      cases rr
      cases rx
      have ec := hcv _ rt
      subst ec
      obtain ⟨hget, _⟩ := I.pin (a, oe) (List.mem_append.mpr (.inl hm))
      obtain ⟨vs, hv⟩ := hf
      have J : ∃ od, PySem.W.InstAt s.heap a oe C od := by
        rcases hd with rfl | ⟨d, ws, rfl, hd⟩
        · exact ⟨none, hget, hz.1, by unfold PySem.W.notCls; rw [hv] <;> rfl, by rw [hz.2]; exact trivial⟩
        · obtain ⟨mA, hns, hr⟩ := (show ObjOk X.prog X.w H s.heap d (.xd ws) from I.hok d _ hd)
          obtain ⟨od, ho, hl⟩ := lookIn_ns hns
          exact ⟨some od, hget, hz.1, by unfold PySem.W.notCls; rw [hv] <;> rfl, by rw [hz.2]; exact ho⟩
      obtain ⟨od, J⟩ := J
      exact PySem.W.kia_one (PySem.W.mb_kitx T) I.kIn J e (fun z => nomatch z) fun tk => ⟨.bl b, H, I.kept (t' := tk) fun _ _ z => z, rfl, q⟩
/-- isinstance(e, C), e the handled exception; t: the answer by the class's name -/
def eIsE (i : Nat) (t : Str → Option Bool) : EX := fun ρ => match ρ[i]? with
  | some (some (.exc x)) => match t x.c with
    | some b => .ok (.bl b) ρ
    | none => .stuck
  | _ => .stuck
def ISF (K : Fg) (t : Str → Option Bool) (cv : Value) : Prop := ∀ c b, t c = some b → ExcC K (He.ga K c) ∧ PySem.W.kitOne K (.ref (He.ga K c)) cv = some b
section
variable {X : Cx} {hx : Hx} {W : WX} {pos p q q2 : Pos} {i : Nat} {x C : Str}
theorem is_core {t : Str → Option Bool} {cv : Value} {c : V} {te : TE} (ho : HxOk X hx) (hT : ISF X.K t cv) (hcv : ∀ u, RelV c u → u = cv) (hc : PE X (.Name C q2) (tC c)) (hN : X.N[i]? = some x) (hv : Vis X.env.scope x) (hm : X.mg "isinstance" = none) (hg : Gl X "isinstance")
    (hd : (x == ("__debug__" : Str)) = false) (hcd : (x == ("__classdict__" : Str)) = false) (he0 : starEach [Expr.Name C q2] X.env = (false, eval (Expr.Name C q2) X.env) :: starEach [] X.env)
    (he : starEach (.Name x q :: [Expr.Name C q2]) X.env = (false, eval (.Name x q) X.env) :: starEach [Expr.Name C q2] X.env) (hpl : (backTo pos (starEach [Expr.Name C q2] X.env)).any (·.1) = false) :
    PE X (.Call (.Name "isinstance" p) [.Name x q, .Name C q2] [] pos) (tX X.K hx W (eIsE i t)) := by
  obtain ⟨a, oe, cls, dd, rfl, hmem, hot, hz⟩ := ho
  refine ⟨fun pins s σ H Q I h => ?_⟩
  obtain ⟨F, ρ, ⟨O, r0⟩, hp⟩ := h
  unfold eIsE at hp
  cases e : ρ[i]? with
  | none => rw [e] at hp; exact hp.elim
  | some o =>
    cases o with
    | none => rw [e] at hp; exact hp.elim
    | some sl =>
      rw [e] at hp
      cases sl with
      | val d => exact hp.elim
      | own ds => exact hp.elim
      | exc y =>
        have hp' : Po X.K (some (a, cls, dd)) F W σ (match t y.c with
          | some b => Rs.ok (.bl b) ρ
          | none => .stuck) Q := hp
        cases e2 : t y.c with
        | none => rw [e2] at hp'; exact hp'.elim
        | some b =>
          rw [e2] at hp'
          obtain ⟨v, ev, a', cls', dd', rfl, e3, ex⟩ := r0.sl i _ e
          cases e3
          obtain ⟨hE, hk⟩ := hT _ _ e2
          have ec := ex.1
          subst ec
          have hcall := call_isX (X := X) hE hmem hz (by obtain ⟨_, vs, e1, _⟩ := hot; exact ⟨vs, e1⟩)
          refine (pe_callB hcall hg hm (by decide +kernel) (pa_cons (pe_var hN hv hd hcd) (pa_cons hc pa_nil he0) he) (by decide) (by decide) he hpl).run pins s σ H Q I ?_
          exact ⟨_, ev, c, cv, b, rfl, hcv, hk, ex.dict (wo_same O H), hp' _ H ⟨O, r0, .bl b⟩⟩
theorem r_isE {t : Str → Option Bool} {ca : Addr} (ho : HxOk X hx) (hT : ISF X.K t (.ref ca)) (hC : X.mg C = some (.ref ca)) (hm : X.mg "isinstance" = none) (hN : X.N[i]? = some x := by rfl) (hv : Vis X.env.scope x := by first | exact Or.inl rfl | exact Or.inr (Or.inl rfl) | exact Or.inr (Or.inr rfl)) (hg : Gl X "isinstance" := by rfl) (hg2 : Gl X C := by rfl)
    (hd : (x == ("__debug__" : Str)) = false := by decide) (hcd : (x == ("__classdict__" : Str)) = false := by decide) (hdb : (C == ("__debug__" : Str)) = false := by decide) (he0 : starEach [Expr.Name C q2] X.env = (false, eval (Expr.Name C q2) X.env) :: starEach [] X.env := by rfl)
    (he : starEach (.Name x q :: [Expr.Name C q2]) X.env = (false, eval (.Name x q) X.env) :: starEach [Expr.Name C q2] X.env := by rfl) (hpl : (backTo pos (starEach [Expr.Name C q2] X.env)).any (·.1) = false := by rfl) :
    PE X (.Call (.Name "isinstance" p) [.Name x q, .Name C q2] [] pos) (tX X.K hx W (eIsE i t)) :=
  is_core (te := tVar i) ho hT (c := .ref ca) (fun u h => by cases h; rfl) (pe_glob (v := .ref ca) hg2 hC rfl hdb) hN hv hm hg hd hcd he0 he hpl
theorem r_isEb {t : Str → Option Bool} {Ts : String} (ho : HxOk X hx) (hT : ISF X.K t (.type Ts)) (hC : X.mg C = none) (hb : bootBuiltins C = some (.type Ts)) (hm : X.mg "isinstance" = none) (hN : X.N[i]? = some x := by rfl) (hv : Vis X.env.scope x := by first | exact Or.inl rfl | exact Or.inr (Or.inl rfl) | exact Or.inr (Or.inr rfl)) (hg : Gl X "isinstance" := by rfl) (hg2 : Gl X C := by rfl)
    (hn : C ≠ "__name__" := by decide) (hd : (x == ("__debug__" : Str)) = false := by decide) (hcd : (x == ("__classdict__" : Str)) = false := by decide) (hdb : (C == ("__debug__" : Str)) = false := by decide) (he0 : starEach [Expr.Name C q2] X.env = (false, eval (Expr.Name C q2) X.env) :: starEach [] X.env := by rfl)
    (he : starEach (.Name x q :: [Expr.Name C q2]) X.env = (false, eval (.Name x q) X.env) :: starEach [Expr.Name C q2] X.env := by rfl) (hpl : (backTo pos (starEach [Expr.Name C q2] X.env)).any (·.1) = false := by rfl) :
    PE X (.Call (.Name "isinstance" p) [.Name x q, .Name C q2] [] pos) (tX X.K hx W (eIsE i t)) :=
  is_core (te := tVar i) ho hT (c := .ty Ts) (fun u h => by cases h; rfl) (pe_bltn (v := .ty Ts) hg2 hC hb rfl hn hdb) hN hv hm hg hd hcd he0 he hpl

/-! ### e.f -/
def eXf (i : Nat) (n : Str) (cs : List Str) : EX := fun ρ => match ρ[i]? with
  | some (some (.exc x)) => if cs.contains x.c then match x.fs.lookup n with
    | some d => .ok d ρ
    | none => .stuck else .stuck
  | _ => .stuck
def XFF (K : Fg) (n : Str) (cs : List Str) : Prop := ∀ c ∈ cs, XfC K (He.ga K c) ∧ PySem.W.findIn K (.ref (He.ga K c)) n = some none
theorem r_xf {n : Str} {cs : List Str} (ho : HxOk X hx) (hT : XFF X.K n cs) (hN : X.N[i]? = some x := by rfl) (hv : Vis X.env.scope x := by first | exact Or.inl rfl | exact Or.inr (Or.inl rfl) | exact Or.inr (Or.inr rfl))
    (hd : (x == ("__debug__" : Str)) = false := by decide) (hcd : (x == ("__classdict__" : Str)) = false := by decide) (hb : attributeBase (.Name x q) n X.env (eval (.Name x q) X.env) = eval (.Name x q) X.env := by rfl) :
    PE X (.Attribute (.Name x q) n pos) (tX X.K hx W (eXf i n cs)) := by
  obtain ⟨a, oe, cls, dd, rfl, hmem, hot, hz⟩ := ho
  refine ⟨fun pins s σ H Q I h => ?_⟩
  obtain ⟨F, ρ, ⟨O, r0⟩, hp⟩ := h
  unfold eXf at hp
  cases e : ρ[i]? with
  | none => rw [e] at hp; exact hp.elim
  | some o =>
    cases o with
    | none => rw [e] at hp; exact hp.elim
    | some sl =>
      rw [e] at hp
      cases sl with
      | val d => exact hp.elim
      | own ds => exact hp.elim
      | exc y =>
        have hp' : Po X.K (some (a, cls, dd)) F W σ (if cs.contains y.c then match y.fs.lookup n with
          | some d => Rs.ok d ρ
          | none => .stuck else .stuck) Q := hp
        split at hp'
        · rename_i hmc
          cases e2 : y.fs.lookup n with
          | none => rw [e2] at hp'; exact hp'.elim
          | some d =>
            rw [e2] at hp'
            obtain ⟨v, ev, a', cls', dd', rfl, e3, ex⟩ := r0.sl i _ e
            cases e3
            obtain ⟨T, hno⟩ := hT y.c (List.contains_iff_mem.mp hmc)
            obtain ⟨ec, ⟨z, _⟩ | ⟨dx, vs, rfl, hdx, hfs⟩⟩ := ex
            · rw [z] at e2; cases e2
            · subst ec
              obtain ⟨w1, l, dv⟩ := hfs.look e2
              have hq := hp' w1 H ⟨O, r0, dv⟩
              refine attr_of hb (thn ((pe_var hN hv hd hcd).run pins s σ H (fun v' H' => v' = .ref a ∧ H' = H) I ⟨_, ev, rfl, rfl⟩) fun u s1 hh => ?_)
              obtain ⟨x1, H1, I1, rx, rfl, rfl⟩ := hh
              obtain rfl : u = Value.ref a := rx
              obtain ⟨ha, _⟩ := I1.pin (a, oe) (List.mem_append_left _ hmem)
              obtain ⟨_, fv, hd1, _⟩ := hot
              have hX : ObjOk X.prog X.w H1 s1.heap dx (.xd vs) := I1.hok dx _ (wo_same O H1 _ _ hdx)
              obtain ⟨mA, hns, hr⟩ := hX
              obtain ⟨od, hod, hl⟩ := lookIn_ns hns
              obtain ⟨u, hu, ru⟩ := RelO.some_of (v := w1) (o := mA n) (by rw [← l]; exact hr n)
              have J : PySem.W.InstAt s1.heap a oe (He.ga X.K y.c) (some od) := ⟨ha, hz.1, by unfold PySem.W.notCls; rw [hd1] <;> rfl, by rw [hz.2]; exact hod⟩
              exact HandSPX.exc_get I1.kIn J T.ga T.gg T.exC (PySem.W.findObj_own T.hdC hno rfl (by rw [hl, hu])) (handed_of ru) ⟨w1, H1, I1.tok _, ru, hq⟩
        · exact hp'.elim

/-! ### calls with the handled exception -/
structure DfE (P : Program) (w : World) (K : Fg) (mg : Str → Option Value) (base : Heap) (k : Nat) (x : Str) (m : Ex → Rt) : Prop where
  ex : ∃ f fd ps, mg x = some (.ref f) ∧ PySem.W.keepIn K (.ref f) = true ∧ Binds K fd ps [] ∧ FnE P w K mg base k f fd ps m
def eFnE (i : Nat) (m : Ex → Rt) : EX := fun ρ => match ρ[i]? with
  | some (some (.exc x)) => match m x with
    | .ok d => .ok d ρ
    | _ => .stuck
  | _ => .stuck
theorem r_fnE {k : Nat} {f : Str} {m : Ex → Rt} (F : DfE X.prog X.w X.K X.mg X.base k f m) (hr : L2H.RoomH k X.A) (ho : HxOk X hx) (hN : X.N[i]? = some x := by rfl) (hv : Vis X.env.scope x := by first | exact Or.inl rfl | exact Or.inr (Or.inl rfl) | exact Or.inr (Or.inr rfl)) (hg : Gl X f := by rfl)
    (hd : (x == ("__debug__" : Str)) = false := by decide) (hcd : (x == ("__classdict__" : Str)) = false := by decide) (hdb : (f == ("__debug__" : Str)) = false := by decide) (he : starEach [Expr.Name x q] X.env = (false, eval (.Name x q) X.env) :: starEach [] X.env := by rfl)
    (hpl : (backTo pos (starEach [] X.env)).any (·.1) = false := by rfl) : PE X (.Call (.Name f p) [.Name x q] [] pos) (tX X.K hx W (eFnE i m)) := by
  obtain ⟨a, oe, cls, dd, rfl, hmem, hot, hz⟩ := ho
  obtain ⟨fa, fd, ps, hm, hk, hb, F⟩ := F.ex
  refine ⟨fun pins s σ H Q I h => ?_⟩
  obtain ⟨Fr, ρ, ⟨O, r0⟩, hp⟩ := h
  unfold eFnE at hp
  cases e : ρ[i]? with
  | none => rw [e] at hp; exact hp.elim
  | some o =>
    cases o with
    | none => rw [e] at hp; exact hp.elim
    | some sl =>
      rw [e] at hp
      cases sl with
      | val d => exact hp.elim
      | own ds => exact hp.elim
      | exc y =>
        have hp' : Po X.K (some (a, cls, dd)) Fr W σ (match m y with
          | .ok d => Rs.ok d ρ
          | _ => .stuck) Q := hp
        cases e2 : m y with
        | err z => rw [e2] at hp'; exact hp'.elim
        | stuck => rw [e2] at hp'; exact hp'.elim
        | ok d =>
          rw [e2] at hp'
          obtain ⟨v, ev, a', cls', dd', rfl, e3, ex⟩ := r0.sl i _ e
          cases e3
          refine wpAny_Call_Name_kw (ld_glob I hg hm ?_ hdb)
          refine PySem.W.callWith_K (h₀ := X.base) I.ok.mod.kin hk (thn ((pa_cons (pe_var hN hv hd hcd) pa_nil he).run pos pins s σ H (fun vs H' => vs = [.ref a] ∧ H' = H) I ⟨_, ev, rfl, rfl⟩) fun us s1 ⟨vs, H1, I1, r, q1, q2⟩ => ⟨I1.kIn, ?_⟩) he hpl
          subst q1 q2
          have hl : us.length = ps.length := by rw [← r.length, F.one]; rfl
          have b := hb s1 us I1.kIn (by rw [List.append_nil]; exact hl)
          rw [List.append_nil] at b
          have P1 := I1.pin (a, oe) (List.mem_append_left _ hmem)
          have hpin : L2H.PinOk X.stack H1 s1 (a, oe) := ⟨P1.1, P1.2.1, fun hm => (List.mem_cons.mp (I1.stkSub a hm)).elim P1.2.2.1 P1.2.2.2.1, P1.2.2.2.2⟩
          refine wpAny_call (codeAny_mono (F.run X.A X.stack s1 H1 ⟨us, []⟩ us Q (fun _ _ _ => False) (a, oe) O y cls dd hr hot hpin I1.env0 b r hz r0.dom ex ⟨d, e2, fun v H' s' dv => hp' v H' ⟨O, r0.grow s', dv⟩⟩) fun r s' hq => ?_)
          cases r with
          | error e =>
            obtain ⟨_, _, _, _, _, _, _, _, _, _, _, _, z⟩ := hq
            exact z.elim
          | ok fl =>
            cases fl with
            | ret u => exact I1.after hq
            | next => exact False.elim hq
            | brk => exact False.elim hq
            | cont => exact False.elim hq
end

/-! ### try -/
def noExc (ρ : En) : Bool := ρ.all fun o => match o with
  | some (.exc _) => false
  | _ => true
def sTry (gb : SX) (i : Nat) (t : Str → Option Bool) (gs : SX) : SX := fun ρ => match gb ρ with
  | .err x ρ1 => match t x.c with
    | some true => match gs (ρ1.set i (some (.exc x))) with
      | .nx ρ2 => if noExc (ρ2.set i none) then .nx (ρ2.set i none) else .stuck
      | .bk ρ2 => if noExc (ρ2.set i none) then .bk (ρ2.set i none) else .stuck
      | .ct ρ2 => if noExc (ρ2.set i none) then .ct (ρ2.set i none) else .stuck
      | .rt d ρ2 => if noExc (ρ2.set i none) then .rt d (ρ2.set i none) else .stuck
      | _ => .stuck
    | some false => .err x ρ1
    | none => .stuck
  | r => r
section
variable {K : Fg} {hx : Hx} {F : Fm} {H : Hp} {ρ : En} {σ : MB.St} {O : List Addr} {i : Nat}
theorem RO.setE (r : RO K none F ρ σ H O) {a : Addr} {cls : Value} {dd : Option Addr} {x : Ex} (h : ExOk K (wo O H) x cls dd) : RO K (some (a, cls, dd)) F (ρ.set i (some (.exc x))) (σ.set i (some (.ref a))) H O := by
  have nv : ∀ {m : Nat} {ds : List D}, (ρ.set i (some (.exc x)))[m]? = some (some (.own ds)) → m ≠ i := fun {m ds} e z => by
    subst z
    rw [List.getElem?_set_self'] at e
    cases q : ρ[m]? with
    | none => rw [q] at e; cases e
    | some z =>
      rw [q] at e
      have e' : some (some (Sl.exc x)) = some (some (Sl.own ds)) := e
      cases e'
  refine ⟨r.fr, r.gs, r.go, fun j b ds e1 e2 => ?_, by simp [r.len], fun j y e => ?_, fun j k b ds es e1 e2 e3 e4 => ?_, r.dom⟩
  · have hj := nv e1
    rw [List.getElem?_set_ne (Ne.symm hj)] at e1 e2
    exact r.gn j b ds e1 e2
  · by_cases hj : j = i
    · subst hj
      rw [List.getElem?_set_self'] at e
      cases q : ρ[j]? with
      | none => rw [q] at e; cases e
      | some z =>
        rw [q] at e
        have e' : some (some (Sl.exc x)) = some (some y) := e
        cases e'
        have hl : j < σ.length := by
          rw [← r.len]
          exact (List.getElem?_eq_some_iff.mp q).1
        exact ⟨.ref a, by rw [List.getElem?_set_self hl], a, cls, dd, rfl, rfl, h⟩
    · rw [List.getElem?_set_ne (Ne.symm hj)] at e
      obtain ⟨v', e1, h'⟩ := r.sl j y e
      refine ⟨v', by rw [List.getElem?_set_ne (Ne.symm hj)]; exact e1, ?_⟩
      cases y with
      | val d => exact h'
      | own ds => exact h'
      | exc z =>
        obtain ⟨_, _, _, _, e, _⟩ := h'
        cases e
  · have n1 := nv e1
    have n2 := nv e2
    rw [List.getElem?_set_ne (Ne.symm n1)] at e1 e3
    rw [List.getElem?_set_ne (Ne.symm n2)] at e2 e4
    exact r.ne j k b ds es e1 e2 e3 e4
theorem RO.unE (r : RO K hx F ρ σ H O) (hn : noExc (ρ.set i none) = true) : RO K none F (ρ.set i none) (σ.set i none) H O := by
  have nv : ∀ {m : Nat} {y : Sl}, (ρ.set i none)[m]? = some (some y) → m ≠ i := fun {m y} e z => by
    subst z
    rw [List.getElem?_set_self'] at e
    cases q : ρ[m]? with
    | none => rw [q] at e; cases e
    | some z =>
      rw [q] at e
      have e' : some (none : Option Sl) = some (some y) := e
      cases e'
  refine ⟨r.fr, r.gs, r.go, fun j b ds e1 e2 => ?_, by simp [r.len], fun j y e => ?_, fun j k b ds es e1 e2 e3 e4 => ?_, r.dom⟩
  · have hj := nv e1
    rw [List.getElem?_set_ne (Ne.symm hj)] at e1 e2
    exact r.gn j b ds e1 e2
  · have hj := nv e
    have e0 := e
    rw [List.getElem?_set_ne (Ne.symm hj)] at e
    obtain ⟨v', e1, h'⟩ := r.sl j y e
    refine ⟨v', by rw [List.getElem?_set_ne (Ne.symm hj)]; exact e1, ?_⟩
    cases y with
    | val d => exact h'
    | own ds => exact h'
    | exc z =>
      have := List.all_eq_true.mp hn _ (List.mem_of_getElem? e0)
      cases this
  · have n1 := nv e1
    have n2 := nv e2
    rw [List.getElem?_set_ne (Ne.symm n1)] at e1 e3
    rw [List.getElem?_set_ne (Ne.symm n2)] at e2 e4
    exact r.ne j k b ds es e1 e2 e3 e4
end
def TEF (K : Fg) (t : Str → Option Bool) (c : Value) : Prop := ∀ cn b, t cn = some b → PySem.W.exmOne K (.ref (He.ga K cn)) c = some b
section
variable {X : Cx} {x n : Str} {c : Value} {i : Nat} {body suite : List Stmt} {b₀ : Stmt} {np pos pos' : Pos} {Wout : WX} {gb gs : SX} {t : Str → Option Bool}
theorem p_try (hs : X.stack = X.env :: X.outer) (hf : X.env.frame = some X.env.locals) (hN : X.N.Nodup) (hi : X.N[i]? = some n) (hln : X.env.kindOf n = some .local) (hc : Names X x c) (tk : L2N.Takes X Wout) (hT : TEF X.K t c)
    (hb : ∀ (W : WX) (pn : List (Addr × Obj)) (xe : Value → Shared → Prop), L2N.Takes (X.tr pn xe) W → PassesOwn (model X.prog X.w) X.A X.env xe → PSs (X.tr pn xe) body (tS X.K none W gb))
    (hsu : ∀ (a : Addr) (oe : Obj) (cls : Value) (d : Option Addr) (pn : List (Addr × Obj)), HxOk (X.suite a ((a, oe) :: pn)) (some (a, cls, d)) → PSs (X.suite a ((a, oe) :: pn)) (b₀ :: suite) (tS X.K (some (a, cls, d)) (fun _ _ _ _ => False) gs)) :
    PS X (.Try body [.ExceptHandler (some (.Name x np)) (some n) (b₀ :: suite) pos'] [] [] pos) (tS X.K none Wout (sTry gb i t gs)) :=
  (L2N.ps_try_as (tb := fun W => tS X.K none W gb) (ts := fun a cls d => tS X.K (some (a, cls, d)) (fun _ _ _ _ => False) gs) hs hf hN hi hln hc tk hb fun a oe cls d pn hz hfv => hsu a oe cls d pn ⟨a, oe, cls, d, rfl, List.mem_cons_self, ⟨rfl, by
    obtain ⟨vs, e⟩ := hfv
    exact ⟨vs, e, hz.2.2 vs e⟩⟩, hz.zc⟩).imp fun D σ H h => by
    obtain ⟨F, ρ, r, hp⟩ := h
    refine ⟨F, ρ, r, ?_⟩
    unfold sTry at hp
    cases e : gb ρ with
    | nx ρ1 => rw [e] at hp; exact hp
    | rt d ρ1 => rw [e] at hp; exact hp
    | bk ρ1 => rw [e] at hp; exact hp
    | ct ρ1 => rw [e] at hp; exact hp
    | stuck => rw [e] at hp; exact hp
    | err y ρ1 =>
      rw [e] at hp
      intro cls dd σ1 H1 hx1
      have hp' : PoS X.K none F Wout (match t y.c with
        | some true => match gs (ρ1.set i (some (.exc y))) with
          | .nx ρ2 => if noExc (ρ2.set i none) then Fl.nx (ρ2.set i none) else .stuck
          | .bk ρ2 => if noExc (ρ2.set i none) then .bk (ρ2.set i none) else .stuck
          | .ct ρ2 => if noExc (ρ2.set i none) then .ct (ρ2.set i none) else .stuck
          | .rt d ρ2 => if noExc (ρ2.set i none) then .rt d (ρ2.set i none) else .stuck
          | _ => .stuck
        | some false => .err y ρ1
        | none => .stuck) D := hp
      cases e2 : t y.c with
      | none => rw [e2] at hp'; exact hp'.elim
      | some b =>
        rw [e2] at hp'
        have ho := hx1
        obtain ⟨O1, r1, ev⟩ := hx1
        have hk := hT _ _ e2
        rw [← ev.1] at hk
        refine ⟨b, hk, fun hb1 a ha => ?_, fun hb0 => ?_⟩
        · subst hb1
          refine ⟨F, _, ⟨O1, r1.setE (i := i) (a := a) ev⟩, ?_⟩
          cases e3 : gs (ρ1.set i (some (.exc y))) with
          | nx ρ2 =>
            simp only [e3] at hp'
            split at hp'
            · rename_i hn
              exact fun σ2 H2 ⟨O2, r2⟩ => hp' _ H2 ⟨O2, r2.unE hn⟩
            · exact hp'.elim
          | bk ρ2 =>
            simp only [e3] at hp'
            split at hp'
            · rename_i hn
              exact fun σ2 H2 ⟨O2, r2⟩ => hp' _ H2 ⟨O2, r2.unE hn⟩
            · exact hp'.elim
          | ct ρ2 =>
            simp only [e3] at hp'
            split at hp'
            · rename_i hn
              exact fun σ2 H2 ⟨O2, r2⟩ => hp' _ H2 ⟨O2, r2.unE hn⟩
            · exact hp'.elim
          | rt d ρ2 =>
            simp only [e3] at hp'
            split at hp'
            · rename_i hn
              exact fun v σ2 H2 ⟨O2, r2, dv⟩ => hp' v _ H2 ⟨O2, r2.unE hn, dv⟩
            · exact hp'.elim
          | err z ρ2 => simp only [e3] at hp'; exact hp'.elim
          | stuck => simp only [e3] at hp'; exact hp'.elim
        · subst hb0
          exact hp' cls dd σ1 H1 ho
end
end MB

/-! An own exception class with an __init__: super().__init__(text); self.f = f ... -/
namespace PySem
namespace MbX
open PySem.W PySem.Calls PyProof.Rows PySem.HandSPX
/-! ### the text of __init__ -/
structure XAs where
  n : Str
  p : Pos
  q1 : Pos
  q2 : Pos
  q3 : Pos
  q4 : Pos
def xSet (a : XAs) : Stmt := .Assign [.Attribute (.Name "self" a.q1) a.n a.q2] (.Name a.n a.q3) a.q4
structure XSu where
  ps : Pos
  txt : Str
  j : Nat
  p0 : Pos
  p1 : Pos
  p2 : Pos
  p3 : Pos
  p4 : Pos
  p5 : Pos
def xSup (u : XSu) : Stmt := .Expr (.Call (.Attribute (.Call (.Name "super" u.p0) [] [] u.p1) "__init__" u.p2) [.Constant (.str u.txt) u.j u.p3] [] u.p4) u.p5
def xA (u : XSu) (as : List XAs) : Arguments := { posonlyargs := [], args := { arg := "self", annotation := none, pos := u.ps } :: as.map fun a => { arg := a.n, annotation := none, pos := a.p }, vararg := none, kwonlyargs := [], kw_defaults := [], kwarg := none, defaults := [] }
def xB (u : XSu) (as : List XAs) : List Stmt := xSup u :: as.map xSet
def xS (as : List XAs) : Scope := { kind := .function, names := (PySem.Str.ofString "self", .local) :: (as.map fun a => (a.n, NameKind.local)) ++ [(PySem.Str.ofString "__class__", .free), (PySem.Str.ofString "super", .globalImplicit)], isGenerator := false, isCoroutine := false, more := [] }
abbrev fnI (qual : Str) (u : XSu) (as : List XAs) (cc : Addr) (dV kV doc pm : Value) (an : Option Addr) (cdv ct : Value) : FuncData := ksFn "__init__" qual (xA u as) (xB u as) (xS as) dV kV doc pm an cdv ct cc
/-- what the written part says of the class at C, of its __init__ at fI -/
structure XT (prog : Program) (K : Frag) (mg : Str → Option Value) (x : Str) (C fI cc : Addr) (u : XSu) (as : List XAs) : Prop where
  gC : mg x = some (.ref C)
  cls : ∃ nm q N bs bm sn sub ab col dd k0 k1 k2 k3 k5, K.lookup C = some (excClassObj nm q C N bs bm true sn sub ab col dd k0 k1 k2 k3 k5 "ValueError.__new__") ∧ refsVE bm = true ∧ alongIn K "__init__" bm = some (some (.builtin "ValueError.__init__"))
  sa : findIn K (.ref C) "__setattr__" = some (some (.builtin "object.__setattr__"))
  no : ∀ a ∈ as, findIn K (.ref C) a.n = some none
  iC : findIn K (.ref C) "__init__" = some (some (.ref fI))
  tC : typeIn K (.ref fI) = some (.type "function")
  kC : keepIn K (.ref C) = true
  exC : subIn K (.ref C) (.type "BaseException") = some true
  veC : subIn K (.ref C) (.type "ValueError") = some true
  ownC : subIn K (.ref C) (.ref C) = some true
  tyC : typeIn K (.ref C) = some (.type "type")
  opq : nsIn K cStatics "thirdparty.any" = some none
  cell : ∃ o, K.lookup cc = some o ∧ o.data = .cell (some (.ref C))
  sup : mg "super" = none
  top : (prog.main.scope.names.lookup ("super" : Str)).isSome = false
  fn : ∃ (oc : Value) (od : Option Addr) (q : Str) (kV doc pm : Value) (an : Option Addr) (cdv ct : Value) (osl : Array (Option Value)), K.lookup fI = some ⟨oc, od, .func (fnI q u as cc .none kV doc pm an cdv ct), osl⟩ ∧ codeIn K cdv q = true ∧
    ∃ (ca : Addr) (oc2 : Obj) (vs : Array Value) (file : Str) (tf : Tok), cdv = .ref ca ∧ K.lookup ca = some oc2 ∧ oc2.data = .fields vs ∧ vs[2]? = some (.str file tf) ∧ ((prog.main.file : Str) == file) = true
theorem mb_one_size (v : Value) : [v].length ≤ sizeLine := by
  rw [sizeLine_eq]
  exact (by decide : 1 ≤ 16777216)
theorem mb_kept_but {K : Frag} {h h' : Heap} {x : Addr} (X : K.In h) (hx : K.lookup x = none) (k : ∀ b o, b ≠ x → h.get? b = some o → h'.get? b = some o) : K.In h' := fun a o e =>
  k a o (fun z => by rw [z, hx] at e; cases e) (X a o e)
/-- the fields' names are the def's own -/
def goodLine (u : XSu) : Bool := u.p2.endLine == u.p4.line
def goodNames (as : List XAs) : Bool := decide ((xS as).names.lookup ("super" : Str) = some .globalImplicit) && (decide ((xS as).names.lookup ("__class__" : Str) = some .free) && as.all fun a => decide (((xS as).names.lookup a.n) = some .local) && !(a.n == ("__debug__" : Str)) && !(a.n == ("self" : Str)))
section
variable {prog : Program} {w : World} {A : Around} {E : Value → Shared → Prop} {R : Result → Shared → Prop} {s : Shared} {K : Frag} {mg : Str → Option Value} {cn : Str} {x C fI cc : Addr} {u : XSu} {as0 : List XAs}
theorem within_look : ∀ (fs : List (Str × Value)), Within (fun y => fs.lookup y) (fs.map (·.1))
  | [], y, h => absurd rfl h
  | (a, v) :: r, y, h => by
    by_cases e : y = a
    · rw [e]
      exact List.mem_cons_self ..
    · refine List.mem_cons_of_mem _ (within_look r y fun z => h ?_)
      have eb : (y == a) = false := by simpa using e
      show ((a, v) :: r).lookup y = none
      rw [List.lookup_cons, eb]
      exact z
theorem look_put (a : Str) (v : Value) (fs : List (Str × Value)) : (fun y => if y = a then some v else fs.lookup y) = fun y => ((a, v) :: fs).lookup y := by
  funext y
  rw [List.lookup_cons]
  by_cases e : y = a
  · rw [if_pos e]
    have eb : (y == a) = true := by simpa using e
    rw [eb]
  · rw [if_neg e]
    have eb : (y == a) = false := by simpa using e
    rw [eb]
/-- the fields behind the first -/
theorem sets_old {fd : FuncData} {L dx : Addr} {m : Str → Option Value} {fv : Array Value} {cd : ClassData} {Q : Flow → Shared → Prop} (hk : fd.scope.kind = .function) (hcd : clsIn K C = some cd) (hm : refsVE cd.mro = true) (hh : cd.hasDict = true) (sa : findIn K (.ref C) "__setattr__" = some (some (.builtin "object.__setattr__")))
    (hself : m "self" = some (.ref x)) (hsl : (callEnv fd L fI).kindOf "self" = some .local) (hxd : x ≠ dx) (hLd : L ≠ dx) (hKd : K.lookup dx = none) :
    ∀ (as : List XAs) (us : List Value) (fs : List (Str × Value)) (s : Shared), (∀ a ∈ as, (callEnv fd L fI).kindOf a.n = some .local ∧ (a.n == ("__debug__" : Str)) = false ∧ findIn K (.ref C) a.n = some none) → as.map (fun a => m a.n) = us.map some → fs.length + as.length ≤ 1000 →
      K.In s.heap → s.heap.Ns L m → s.heap.get? x = some { cls := .ref C, dict := some dx, data := .fields fv } → s.heap.Ns1 dx (fun y => fs.lookup y) →
      (∀ h' tk, (∀ b o, b ≠ dx → s.heap.get? b = some o → h'.get? b = some o) → h'.Ns1 dx (fun y => (((as.map (·.n)).zip us).reverse ++ fs).lookup y) → Q .next { s with heap := h', toks := tk }) →
      wpAny (model prog w) A (execs (as.map xSet) (callEnv fd L fI)) Q E s
  | [], us, fs, s, _, _, _, _, _, _, hn, hq => by
    refine wpAny_execs_nil ?_
    have q := hq s.heap s.toks (fun _ _ _ e => e) hn
    exact q
  | a :: as, [], _, _, _, e, _, _, _, _, _, _ => by cases e
  | a :: as, v :: us, fs, s, hl, e, hz, X, hL, hx, hn, hq => by
    obtain ⟨hl1, hl2, hl3⟩ := hl a List.mem_cons_self
    have e1 : m a.n = some v ∧ as.map (fun a => m a.n) = us.map some := by
      simp only [List.map_cons, List.cons.injEq] at e
      exact e
    refine wpAny_execs_cons (plainObj_wpAny_Assign_Attribute ?_)
    refine ldc hk hl1 hL e1.1 (ldc hk hsl hL hself ?_) hl2
    obtain ⟨oD, esD, epD, hoD, hdD, hcD⟩ := hn.count (within_look fs)
    have hz1 : fs.length + 1 + as.length ≤ 1000 := by
      rw [List.length_cons] at hz
      omega
    obtain ⟨hp, g, d, t, os⟩ := s
    refine set_plain X (ox := { cls := .ref C, dict := some dx, data := .fields fv }) (od := some oD) ⟨hx, rfl, rfl, hoD⟩ sa ?_
    refine OEX.osa_old X hx hn (within_look fs) (by rw [List.length_map]; omega) hcd hm hh hl3 (fun h1 tk1 k1 hn1 => ?_)
    have hn1' : h1.Ns1 dx (fun y => ((a.n, v) :: fs).lookup y) := by
      rw [← look_put]
      exact hn1
    refine sets_old hk hcd hm hh sa hself hsl hxd hLd hKd as us ((a.n, v) :: fs) ⟨h1, g, d, tk1, os⟩ (fun b hb => hl b (List.mem_cons_of_mem _ hb)) e1.2 (by rw [List.length_cons]; exact hz1) (mb_kept_but X hKd k1) (hL.at fun o q => k1 _ _ hLd q) (k1 _ _ hxd hx) hn1' fun h' tk k' hn' => ?_
    refine hq h' tk (fun b o hb eo => k' b o hb (k1 b o hb eo)) ?_
    have eq : (((a :: as).map (·.n)).zip (v :: us)).reverse ++ fs = ((as.map (·.n)).zip us).reverse ++ ((a.n, v) :: fs) := by simp
    rw [eq]
    exact hn'
/-- super().__init__(text), the built-in one -/
theorem sup_call {h : Heap} {g : Array GenState} {d : Drawn} {t : Nat} {os : OsState} {y t0 : Addr} {rest : List Value} {Q : Value → Shared → Prop} {nm q : Str} {N : Addr} {bs bm : List Value} {hdct : Bool} {sn : List Str} {sub : List Value} {ab : Bool} {col : Option Bool} {dd : Option Addr} {k0 k1 k2 k3 k5 : Option Value}
    (hC : h.get? C = some (excClassObj nm q C N bs bm hdct sn sub ab col dd k0 k1 k2 k3 k5 "ValueError.__new__")) (hu : h.get? y = some (kxs_mw "ValueError.__init__" x)) (he : h.get? x = some (excO C t0)) (hz : rest.length ≤ sizeLine)
    (hq : ∀ h', (∀ b o, b ≠ x → h.get? b = some o → h'.get? b = some o) → h'.get? x = some (excO C h.objs.size) → Q .none ⟨h', g, d, t, os⟩) : wpAny (model prog w) A (call (.ref y) rest) Q E ⟨h, g, d, t, os⟩ := by
  refine wpAny_call (codeAny_of_tree ?_)
  show wpAny _ A.in1 (callAny (.ref y) ⟨rest, []⟩) _ _ _
  simp only [callAny]
  refine wpAny_bind (wpAny_load hu ?_)
  simp only [kxs_mw, show (Value.type "method-wrapper" == Value.type "method" || Value.type "method-wrapper" == Value.type "builtin_function_or_method" || Value.type "method-wrapper" == Value.type "method-wrapper") = true by decide, if_true]
  refine KFB.if_so (by decide) ?_
  refine wpAny_bind (check_bound_init F.excBase_ValueError.toExcCallFacts hC he rfl ?_)
  refine wpAny_bind (wpAny_pure (wpAny_pure ?_))
  refine ⟨plainId_quiet F.excBase_ValueError.init.plain _, codeAny_builtin F.excBase_ValueError.initEntry ?_⟩
  exact exc_init_tree (cls := .ref C) (t0 := t0) (dv := none) (c2 := .none) (c3 := .none) (b4 := .bool false) he hz fun h' k e' _ => hq h' k e'
theorem super_eval {env : Env} {u : XSu} (hl : goodLine u = true) : eval (.Call (.Attribute (.Call (.Name "super" u.p0) [] [] u.p1) "__init__" u.p2) [.Constant (.str u.txt) u.j u.p3] [] u.p4) env = (do
      let ov ← attributeBase (.Call (.Name "super" u.p0) [] [] u.p1) "__init__" env (eval (.Call (.Name "super" u.p0) [] [] u.p1) env)
      standAt u.p2.atName
      let (f, first) ← holding [ov] (getMethod ov "__init__" (do return (← importBound (.Call (.Name "super" u.p0) [] [] u.p1) env).getD true))
      callWith u.p4 f first (backTo u.p4 (starEach [.Constant (.str u.txt) u.j u.p3] env)) []) := by
  rw [arm_eval_Call]
  have hpos : methodCallPos true (.Call (.Name "super" u.p0) [] [] u.p1) env u.p2 u.p4 = pure u.p4 := by
    unfold methodCallPos
    have hl' : (u.p2.endLine == u.p4.line) = true := hl
    simp [hl']
  have hm : ∀ ov, methodCall (.Call (.Name "super" u.p0) [] [] u.p1) "__init__" u.p2 u.p4 env ov ([Expr.Constant (.str u.txt) u.j u.p3].length + ([] : List Keyword).length) (backTo u.p4 (starEach [.Constant (.str u.txt) u.j u.p3] env)) (backToKw u.p4 (keywordEach [] env)) = (do
      let (f, first) ← holding [ov] (getMethod ov "__init__" (do return (← importBound (.Call (.Name "super" u.p0) [] [] u.p1) env).getD true))
      callWith u.p4 f first (backTo u.p4 (starEach [.Constant (.str u.txt) u.j u.p3] env)) []) := fun ov => by
    have hform : methodCallForm ([Expr.Constant (.str u.txt) u.j u.p3].length + ([] : List Keyword).length) (backTo u.p4 (starEach [.Constant (.str u.txt) u.j u.p3] env)) (backToKw u.p4 (keywordEach [] env)) = true := rfl
    unfold methodCall
    rw [hform, hpos]
    simp only [pure_bind]
    rfl
  simp only [hm]
/-- what __init__ leaves of a fresh exception at x -/
structure XEnd (h h' : Heap) (x C dx t1 : Addr) (fs : List (Str × Value)) : Prop where
  keep : ∀ b o, b ≠ x → h.get? b = some o → h'.get? b = some o
  obj : h'.get? x = some { cls := .ref C, dict := some dx, data := .fields #[.ref t1, .none, .none, .none, .bool false, .none] }
  dbig : h.objs.size ≤ dx
  dne : dx ≠ x
  ns : h'.Ns1 dx (fun y => fs.lookup y)
theorem x_init (T : XT prog K mg cn C fI cc u as0) {t0 : Addr} {us : List Value} {base : Heap} (hs : 1 ≤ as0.length) (h9 : as0.length ≤ 900) (hline : goodLine u = true) (hgo : goodNames as0 = true) (hM : L2.Mod K mg base) (hbs : ∀ b o, base.get? b = some o → s.heap.get? b = some o)
    (hx : s.heap.get? x = some (excO C t0)) (hnx : K.lookup x = none) (hroom : A.depth < recursionLimit)
    (hbind : ∀ q kV doc pm an cdv ct, BindsTo s (fnI q u as0 cc .none kV doc pm an cdv ct) ⟨.ref x :: us, []⟩ ((("self" : Str), Value.ref x) :: (as0.map (·.n)).zip us))
    (hm1 : ((("self" : Str), Value.ref x) :: (as0.map (·.n)).zip us).reverse.lookup ("self" : Str) = some (Value.ref x))
    (hm2 : as0.map (fun a => ((("self" : Str), Value.ref x) :: (as0.map (·.n)).zip us).reverse.lookup a.n) = us.map some)
    (hq : ∀ h' tk dx t1, XEnd s.heap h' x C dx t1 ((as0.map (·.n)).zip us).reverse → R (.ok (.ret .none)) { s with heap := h', toks := tk }) :
    codeAny (model prog w) A (.call (.ref fI) ⟨.ref x :: us, []⟩) R s := by
  have X : K.In s.heap := hM.kin.keeps hbs
  have hlim : s.heap.NoLimit := hM.nolimit.keeps hbs
  obtain ⟨oc, od, q, kV, doc, pm, an, cdv, ct, osl, ho, hcd, ca, oc2, cvs, file, tf, rfl, hca, hcvs, hfl, hfile⟩ := T.fn
  obtain ⟨nm, qn, N, bs, bm, sn, sub, ab, col, dd, k0, k1, k2, k3, k5, hC, hbm, hal⟩ := T.cls
  have hcl : clsIn K C = some { name := nm, bases := bs, mro := .ref C :: bm, ns := N, qualname := qn, hasDict := true, slotNames := sn, subclasses := sub, abstract := ab, collection := col, hasDel := false } := by unfold clsIn; rw [hC] <;> rfl
  obtain ⟨hks, hgo⟩ := Bool.and_eq_true_iff.mp hgo
  obtain ⟨hkc, hgo⟩ := Bool.and_eq_true_iff.mp hgo
  have hks := of_decide_eq_true hks
  have hkc := of_decide_eq_true hkc
  have hg0 : ∀ a ∈ as0, (xS as0).names.lookup a.n = some .local ∧ (a.n == ("__debug__" : Str)) = false := fun a ha => by
    have z := List.all_eq_true.mp hgo a ha
    simp only [Bool.and_eq_true, Bool.not_eq_true', decide_eq_true_eq] at z
    exact ⟨z.1.1, z.1.2⟩
  have hlself : (xS as0).names.lookup ("self" : Str) = some .local := rfl
  have hloc : ∀ y ∈ ((("self" : Str), Value.ref x) :: (as0.map (·.n)).zip us), (xS as0).names.lookup y.1 = some .local := fun ⟨n, v⟩ hy => by
    rcases List.mem_cons.mp hy with e | hy
    · cases e
      exact hlself
    · obtain ⟨a, ha, e⟩ := List.mem_map.mp (List.of_mem_zip hy).1
      have z := (hg0 a ha).1
      rw [e] at z
      exact z
  have hcell : ∀ y ∈ (xS as0).names, y.2 ≠ .cell := fun y hy => by
    rcases List.mem_cons.mp hy with e | hy
    · rw [e]
      decide
    · rcases List.mem_append.mp hy with hy | hy
      · obtain ⟨a, _, e⟩ := List.mem_map.mp hy
        rw [← e]
        exact fun z => nomatch z
      · rcases List.mem_cons.mp hy with e | hy
        · rw [e]
          decide
        · rcases List.mem_cons.mp hy with e | hy
          · rw [e]
            decide
          · cases hy
  refine ks_codeAny_call_defAt (fd := fnI q u as0 cc .none kV doc pm an (.ref ca) ct) hroom (X _ _ ho) rfl hlim (codeRec_of X hcd) rfl (hbind q kV doc pm an (.ref ca) ct) hcell hloc (fun h₁ hns k₁ => ?_) rfl rfl rfl
  have X₁ : K.In h₁ := X.keeps k₁
  have hbs₁ : ∀ b o, base.get? b = some o → h₁.get? b = some o := fun b o e => k₁ _ _ (hbs _ _ e)
  have hx₁ := k₁ _ _ hx
  have hLx : s.heap.objs.size ≠ x := Nat.ne_of_gt (Heap.lt_size hx)
  show _root_.PySem.wpAt _ _ _ (execs (xSup u :: as0.map xSet) _) _ _ _
  refine ks_wpAt_execs_cons ?_
  show _root_.PySem.wpAt _ _ _ (exec (.Expr (.Call (.Attribute (.Call (.Name "super" u.p0) [] [] u.p1) "__init__" u.p2) [.Constant (.str u.txt) u.j u.p3] [] u.p4) u.p5) _) _ _ _
  refine ks_wpAt_Expr_any (ks_wpAt_MethodCall ?_ (super_eval hline)) rfl rfl
  refine ks_wpAt_super_base (f := fI) (cc := ca) (fd := fnI q u as0 cc .none kV doc pm an (.ref ca) ct) hks hkc (by decide) rfl (X₁ _ _ ho) rfl rfl rfl (X₁ _ _ hca) hcvs hfl hfile T.top ?_
  obtain ⟨mb, hb1, hb2⟩ := hM.blt
  refine ks_loadName_global rfl hks (loadGlobal_builtin (hM.glob.keeps hbs₁) T.sup (hb1.keeps hbs₁) ((hb2 "super" (by decide)).trans (by decide +kernel)) ⟨rfl, ?_⟩)
  obtain ⟨oce, hce, hcd2⟩ := T.cell
  refine wpAny_loadName_free rfl hkc rfl ⟨oce, X₁ _ _ hce, hcd2⟩ ?_
  refine wpAny_loadName_local (v := .ref x) rfl hlself hns hm1 ?_
  refine ks_wpAny_isType_cls (X₁ _ _ hC) rfl ⟨rfl, ?_⟩
  refine ks_wpAny_call_super (X₁ _ _ hC) rfl hx₁ rfl (fun c e => by cases e) (looks_subIn X₁ T.ownC) (fun h₂ so₂ k₂ => ?_)
  have X₂ : K.In h₂ := X₁.keeps k₂
  have hx₂ := k₂ _ _ hx₁
  have I₂ : InstAt h₂ x (excO C t0) C none := ⟨hx₂, rfl, rfl, trivial⟩
  refine kxs_getMethod kxs_ValueError so₂ (looks_opaque X₂ T.opq) (l₀ := .ref C :: bm) (fun A Q E s k q => wpAny_bind ((looks_clsIn X₂ hcl) A _ E s k (wpAny_pure q))) (by simp) X₂ hal (I₂.type.andThen (looks_subIn X₂ T.veC)) (fun z => by rw [z, hC] at hnx; cases hnx) rfl ?_
  have k₃ : ∀ b o, h₂.get? b = some o → (h₂.push (kxs_mw "ValueError.__init__" x)).get? b = some o := fun b o e => Heap.get?_push_of_some _ e
  have hmw : (h₂.push (kxs_mw "ValueError.__init__" x)).get? h₂.objs.size = some (kxs_mw "ValueError.__init__" x) := Heap.get?_push_at rfl rfl
  refine kxs_callWith (i := "ValueError.__init__") (x := x) (by rfl) (evalArgs_plain (Calls.spliced_cons (Calls.Constant_str (k := u.j) (pos := u.p3) (Calls.spliced_nil ⟨hmw, ?_⟩))))
  refine sup_call (k₃ _ _ (k₂ _ _ (X₁ _ _ hC))) hmw (k₃ _ _ hx₂) (mb_one_size _) (fun h₄ k₄ hx₄ => ?_)
  have X₄ : K.In h₄ := mb_kept_but (X₂.keeps k₃) hnx k₄
  have k14 : ∀ b o, b ≠ x → h₁.get? b = some o → h₄.get? b = some o := fun b o hb e => k₄ _ _ hb (k₃ _ _ (k₂ _ _ e))
  have hns₄ := hns.at (h' := h₄) fun o e => k14 _ _ hLx e
  cases as0 with
  | nil => exact absurd hs (by simp)
  | cons a as1 =>
    cases us with
    | nil => cases hm2
    | cons v us1 =>
      simp only [List.map_cons, List.cons.injEq] at hm2
      obtain ⟨hl1, hl2⟩ := hg0 a List.mem_cons_self
      refine wpAt_of_wpAny (wpAny_execs_cons (plainObj_wpAny_Assign_Attribute ?_))
      refine ldc (fd := fnI q u (a :: as1) cc .none kV doc pm an (.ref ca) ct) rfl hl1 hns₄ hm2.1 (ldc (fd := fnI q u (a :: as1) cc .none kV doc pm an (.ref ca) ct) rfl hlself hns₄ hm1 ?_) hl2
      refine set_plain X₄ (ox := excO C (h₂.push (kxs_mw "ValueError.__init__" x)).objs.size) (od := none) ⟨hx₄, rfl, rfl, trivial⟩ T.sa ?_
      refine exc_osa X₄ hx₄ hcl (show refsVE (.ref C :: bm) = true from hbm) rfl (T.no a List.mem_cons_self) (fun h₅ tk₅ dx k₅ dn dne hx₅ hn₅ => ?_)
      have hnd : K.lookup dx = none := by
        cases e : K.lookup dx with
        | none => rfl
        | some o => exact absurd (Nat.lt_of_lt_of_le (Heap.lt_size (X₄ _ _ e)) dn) (Nat.lt_irrefl _)
      have hL4 : s.heap.objs.size < h₄.objs.size := hns₄.lt
      have hLd : s.heap.objs.size ≠ dx := Nat.ne_of_lt (Nat.lt_of_lt_of_le hL4 dn)
      have hn5 : h₅.Ns1 dx (fun y => ([(a.n, v)] : List (Str × Value)).lookup y) := by
        rw [← look_put]
        exact hn₅
      refine sets_old (K := K) (C := C) (x := x) (fd := fnI q u (a :: as1) cc .none kV doc pm an (.ref ca) ct) (L := s.heap.objs.size) rfl hcl (show refsVE (.ref C :: bm) = true from hbm) rfl T.sa hm1 hlself dne.symm hLd hnd as1 us1 [(a.n, v)] _
        (fun b hb => ⟨(hg0 b (List.mem_cons_of_mem _ hb)).1, (hg0 b (List.mem_cons_of_mem _ hb)).2, T.no b (List.mem_cons_of_mem _ hb)⟩) hm2.2 (by rw [List.length_cons] at h9; rw [List.length_singleton]; omega) (mb_kept_but X₄ hnx k₅) (hns₄.at fun o e => k₅ _ _ hLx e) hx₅ hn5 fun h₆ tk₆ k₆ hn₆ => ?_
      refine hq h₆ tk₆ dx _ ⟨fun b o hb e => ?_, k₆ _ _ dne.symm hx₅, Nat.le_of_lt (Nat.lt_of_lt_of_le hL4 dn), dne, ?_⟩
      · have e4 := k14 _ _ hb (k₁ _ _ e)
        exact k₆ _ _ (Nat.ne_of_lt (Nat.lt_of_lt_of_le (Heap.lt_size e4) dn)) (k₅ _ _ hb e4)
      · have eq : (((a :: as1).map (·.n)).zip (v :: us1)).reverse = ((as1.map (·.n)).zip us1).reverse ++ [(a.n, v)] := by simp
        rw [eq]
        exact hn₆
/-- the binding of the written values -/
structure XBi (u : XSu) (as0 : List XAs) : Prop where
  one : 1 ≤ as0.length
  few : as0.length ≤ 900
  line : goodLine u = true
  good : goodNames as0 = true
  bind : ∀ (s : Shared) (x cc : Addr) (us : List Value), us.length = as0.length → ∀ (q : Str) (kV doc pm : Value) (an : Option Addr) (cdv ct : Value), BindsTo s (fnI q u as0 cc .none kV doc pm an cdv ct) ⟨.ref x :: us, []⟩ ((("self" : Str), Value.ref x) :: (as0.map (·.n)).zip us)
  self : ∀ (x : Addr) (us : List Value), us.length = as0.length → ((("self" : Str), Value.ref x) :: (as0.map (·.n)).zip us).reverse.lookup ("self" : Str) = some (Value.ref x)
  arg : ∀ (x : Addr) (us : List Value), us.length = as0.length → as0.map (fun a => ((("self" : Str), Value.ref x) :: (as0.map (·.n)).zip us).reverse.lookup a.n) = us.map some
theorem xbi_one {u : XSu} {a : XAs} (hl : goodLine u = true) (hg : goodNames [a] = true) (hs : (("self" : Str) == a.n) = false)
    (hb : ∀ (x cc : Addr) (q : Str) (kV doc pm : Value) (an : Option Addr) (cdv ct v : Value), bindArgs (fnI q u [a] cc .none kV doc pm an cdv ct) ⟨[.ref x, v], []⟩ = pure [(("self" : Str), Value.ref x), (a.n, v)] := by intros; rfl) : XBi u [a] := by
  refine ⟨Nat.le_refl _, by simp, hl, hg, fun s x cc us h q kV doc pm an cdv ct => ?_, fun x us h => ?_, fun x us h => ?_⟩
  · match us, h with
    | [v], _ => exact .of_eq (hb ..)
  · match us, h with
    | [v], _ =>
      show ([(a.n, v), (("self" : Str), Value.ref x)] : List (Str × Value)).lookup ("self" : Str) = _
      rw [List.lookup_cons, hs]
      rfl
  · match us, h with
    | [v], _ =>
      show [([(a.n, v), (("self" : Str), Value.ref x)] : List (Str × Value)).lookup a.n] = _
      rw [List.lookup_cons, show (a.n == a.n) = true by simp]
      rfl
theorem xbi_two {u : XSu} {a b : XAs} (hl : goodLine u = true) (hg : goodNames [a, b] = true) (hs : (("self" : Str) == a.n) = false) (hs2 : (("self" : Str) == b.n) = false) (hab : (a.n == b.n) = false)
    (hb : ∀ (x cc : Addr) (q : Str) (kV doc pm : Value) (an : Option Addr) (cdv ct v w : Value), bindArgs (fnI q u [a, b] cc .none kV doc pm an cdv ct) ⟨[.ref x, v, w], []⟩ = pure [(("self" : Str), Value.ref x), (a.n, v), (b.n, w)] := by intros; rfl) : XBi u [a, b] := by
  refine ⟨by simp, by simp, hl, hg, fun s x cc us h q kV doc pm an cdv ct => ?_, fun x us h => ?_, fun x us h => ?_⟩
  · match us, h with
    | [v, w], _ => exact .of_eq (hb ..)
  · match us, h with
    | [v, w], _ =>
      show ([(b.n, w), (a.n, v), (("self" : Str), Value.ref x)] : List (Str × Value)).lookup ("self" : Str) = _
      rw [List.lookup_cons, hs2]
      show ([(a.n, v), (("self" : Str), Value.ref x)] : List (Str × Value)).lookup ("self" : Str) = _
      rw [List.lookup_cons, hs]
      rfl
  · match us, h with
    | [v, w], _ =>
      show [([(b.n, w), (a.n, v), (("self" : Str), Value.ref x)] : List (Str × Value)).lookup a.n, ([(b.n, w), (a.n, v), (("self" : Str), Value.ref x)] : List (Str × Value)).lookup b.n] = _
      have e1 : ([(b.n, w), (a.n, v), (("self" : Str), Value.ref x)] : List (Str × Value)).lookup a.n = some v := by
        rw [List.lookup_cons, hab]
        show ([(a.n, v), (("self" : Str), Value.ref x)] : List (Str × Value)).lookup a.n = _
        rw [List.lookup_cons, show (a.n == a.n) = true by simp]
      have e2 : ([(b.n, w), (a.n, v), (("self" : Str), Value.ref x)] : List (Str × Value)).lookup b.n = some w := by
        rw [List.lookup_cons, show (b.n == b.n) = true by simp]
      rw [e1, e2]
      rfl
/-- a made exception -/
structure XMade (h h' : Heap) (e C d : Addr) (fs : List (Str × Value)) : Prop where
  keep : ∀ b o, h.get? b = some o → h'.get? b = some o
  new : h.objs.size ≤ e
  obj : ∃ oe vs, h'.get? e = some oe ∧ oe.cls = .ref C ∧ oe.dict = some d ∧ oe.data = .fields vs ∧ vs[1]? = some .none ∧ vs[2]? = some .none
  dbig : h.objs.size ≤ d
  dne : d ≠ e
  ns : h'.Ns1 d (fun y => fs.lookup y)
theorem x_made (T : XT prog K mg cn C fI cc u as0) (B : XBi u as0) {us : List Value} {base : Heap} (hM : L2.Mod K mg base) (hbs : ∀ b o, base.get? b = some o → s.heap.get? b = some o) (hl : us.length = as0.length) (hroom : A.depth + 1 < recursionLimit)
    (hq : ∀ h' tk e d, XMade s.heap h' e C d ((as0.map (·.n)).zip us).reverse → R (.ok (.ret (.ref e))) { s with heap := h', toks := tk }) :
    codeAny (model prog w) A (.call (.ref C) ⟨us, []⟩) R s := by
  obtain ⟨nm, q, N, bs, bm, sn, sub, ab, col, dd, k0, k1, k2, k3, k5, hC, hbm, _⟩ := T.cls
  have X : K.In s.heap := hM.kin.keeps hbs
  obtain ⟨hp, g, dr, tk, os⟩ := s
  have k : ∀ b o, hp.get? b = some o → ((hp.push (kdv_tup us)).push (excO C hp.objs.size)).get? b = some o := fun b o e => Heap.get?_push_of_some _ (Heap.get?_push_of_some _ e)
  have hget : ((hp.push (kdv_tup us)).push (excO C hp.objs.size)).get? (hp.objs.size + 1) = some (excO C hp.objs.size) := by heap_get
  have hnx : K.lookup (hp.objs.size + 1) = none := by
    cases e : K.lookup (hp.objs.size + 1) with
    | none => rfl
    | some o =>
      have z : hp.get? (hp.objs.size + 1) = some o := X _ _ e
      exact absurd (Nat.lt_of_succ_lt (Heap.lt_size z)) (Nat.lt_irrefl _)
  have hz : us.length ≤ sizeLine := by
    have := B.few
    rw [sizeLine_eq]
    omega
  refine call_own F.excBase_ValueError (fun X => refsVE_contains X bm hbm) (X _ _ hC) (looks_findIn X T.iC) (fun self => bind_fn X self T.tC) hz ?_
  refine x_init (s := ⟨(hp.push (kdv_tup us)).push (excO C hp.objs.size), g, dr, tk, os⟩) T B.one B.few B.line B.good hM (fun b o e => k b o (hbs b o e)) hget hnx ?_ (B.bind _ _ _ us hl) (B.self _ us hl) (B.arg _ us hl) fun h' tk' dx t1 ⟨k', hx, dn, dne, hns⟩ => ?_
  · show A.depth + 1 < recursionLimit
    exact hroom
  · have old : ∀ b o, hp.get? b = some o → h'.get? b = some o := fun b o e => k' b o (Nat.ne_of_lt (Nat.lt_succ_of_lt (Heap.lt_size e))) (k b o e)
    have z : hp.objs.size + 1 + 1 ≤ dx := by
      first
        | (simpa only [Heap.size_push] using dn)
        | exact dn
        | (have q := dn; rw [Heap.size_push, Heap.size_push] at q; exact q)
    exact ⟨rfl, hq h' tk' (hp.objs.size + 1) dx ⟨old, Nat.le_succ _, ⟨_, _, hx, rfl, rfl, rfl, rfl, rfl⟩, Nat.le_trans (Nat.le_trans (Nat.le_succ _) (Nat.le_succ _)) z, dne, hns⟩⟩
end
end MbX
end PySem
namespace MB
open PySem PySem.Spec PyProof.Rows L2
theorem relO_app : ∀ {fs gs : List (Str × V)} {ws zs : List (Str × Value)} (f : Str), (∀ f, RelO (fs.lookup f) (ws.lookup f)) → (∀ f, RelO (gs.lookup f) (zs.lookup f)) → RelO ((fs ++ gs).lookup f) ((ws ++ zs).lookup f) := fun {fs gs ws zs} f h1 h2 => by
  have a1 : ∀ {α : Type} (l m : List (Str × α)), (l ++ m).lookup f = (l.lookup f).or (m.lookup f) := fun {α} l m => by
    induction l with
    | nil => simp [List.lookup]
    | cons p l ih =>
      obtain ⟨a, b⟩ := p
      rw [List.cons_append, List.lookup_cons, List.lookup_cons]
      cases (f == a) with
      | true => rfl
      | false => exact ih
  rw [a1, a1]
  have q := h1 f
  cases e1 : fs.lookup f with
  | some v =>
    cases e2 : ws.lookup f with
    | some u =>
      rw [e1, e2] at q
      exact q
    | none =>
      rw [e1, e2] at q
      exact q.elim
  | none =>
    cases e2 : ws.lookup f with
    | some u =>
      rw [e1, e2] at q
      exact q.elim
    | none => exact h2 f
theorem relO_rev : ∀ {ns : List Str} {vs : List V} {us : List Value}, Vals vs us → ∀ f, RelO ((ns.zip vs).reverse.lookup f) ((ns.zip us).reverse.lookup f)
  | [], _, _, _, f => by
    show RelO none none
    trivial
  | n :: ns, _, _, .nil, f => by
    show RelO none none
    trivial
  | n :: ns, v :: vs, u :: us, .cons a t, f => by
    rw [List.zip_cons_cons, List.zip_cons_cons, List.reverse_cons, List.reverse_cons]
    refine relO_app f (relO_rev t) fun g => ?_
    rw [List.lookup_cons, List.lookup_cons]
    cases (g == n) with
    | true => exact a
    | false => trivial
theorem df_app {K : Fg} {H : Hp} : ∀ {vs ws : List (Str × V)} {ds es : List (Str × D)}, DF K H vs ds → DF K H ws es → DF K H (vs ++ ws) (ds ++ es)
  | _, _, _, _, .nil, t => t
  | _, _, _, _, .cons a r, t => .cons a (df_app r t)
theorem df_rev {K : Fg} {H : Hp} : ∀ {ns : List Str} {vs : List V} {ds : List D}, DVs K H vs ds → DF K H (ns.zip vs).reverse (ns.zip ds).reverse
  | [], _, _, _ => .nil
  | n :: ns, _, _, .nil => .nil
  | n :: ns, v :: vs, d :: ds, .cons a t => by
    rw [List.zip_cons_cons, List.zip_cons_cons, List.reverse_cons, List.reverse_cons]
    exact df_app (df_rev t) (.cons a .nil)
section
variable {X : Cx} {hx : Hx} {W : WX} {cn : Str} {C fI cc : Addr} {u : PySem.MbX.XSu} {as0 : List PySem.MbX.XAs} {e : Expr} {es : List Expr} {fs : List EX} {p pos pos2 : Pos}
/-- C(e, ..) -/
def tMkX (C : Addr) (ns : List Str) (ta : TA) : MB.St → Hp → XK → Prop := fun σ H Q => ta σ H fun vs H1 => vs.length = ns.length ∧ ∀ d, H1 d = none → Q (.ref C) (some d) (upd H1 d (.xd (ns.zip vs).reverse))
theorem pmk_x {k : Nat} {t : TA} (T : PySem.MbX.XT X.prog X.K X.mg cn C fI cc u as0) (B : PySem.MbX.XBi u as0) (hr : Room k X.A) (ha : PA X (e :: es) t) (hg : Gl X cn) (hdb : (cn == ("__debug__" : Str)) = false) (he : starEach (e :: es) X.env = (false, eval e X.env) :: starEach es X.env) (hpl : (backTo pos (starEach es X.env)).any (·.1) = false) :
    L2N.PMk X (.Call (.Name cn p) (e :: es) [] pos) (tMkX C (as0.map (·.n)) t) := by
  intro pins s σ H Q I h
  refine wpAny_Call_Name_kw (ld_glob I hg T.gC ?_ hdb)
  refine PySem.W.callWith_K (h₀ := X.base) I.ok.mod.kin T.kC (thn (ha.run pos pins s σ H _ I h) fun us s1 hh => ?_) he hpl
  obtain ⟨vs, H1, I1, r1, hl, q1⟩ := hh
  refine ⟨I1.kIn, ?_⟩
  obtain ⟨hp, g, dr, tk, os⟩ := s1
  refine wpAny_call (PySem.MbX.x_made T B I1.ok.mod I1.bk (show us.length = as0.length by rw [← r1.length, hl, List.length_map]) (by have := hr.dp; omega) fun h' tk' e d M => ?_)
  show L2N.MkP X pins σ Q (.ref e) ⟨h', g, dr, tk', os⟩
  obtain ⟨oe, fv, hoe, hc, hd, hdat, h1, h2⟩ := M.obj
  have hns := M.ns
  obtain ⟨G', g1, g2⟩ := restrict h' fun b => decide (b ≠ e)
  have gk : ∀ b, b ≠ e → G'.get? b = h'.get? b := fun b hb => g1 b (decide_eq_true hb)
  have ge : G'.get? e = none := g2 e (by simp)
  have old : ∀ b o, hp.get? b = some o → G'.get? b = some o := fun b o q => (gk b (Nat.ne_of_lt (Nat.lt_of_lt_of_le (Heap.lt_size q) M.new))).trans (M.keep b o q)
  have ob : ObjOk X.prog X.w (upd H1 d (.xd ((as0.map (·.n)).zip vs).reverse)) G' d (.xd ((as0.map (·.n)).zip vs).reverse) :=
    ⟨_, hns.at (fun o q => (gk d M.dne).trans q), fun f => relO_rev r1 f⟩
  have J : Inv X pins σ (upd H1 d (.xd ((as0.map (·.n)).zip vs).reverse)) ⟨G', g, dr, tk', os⟩ := I1.laid (t' := tk') old M.dbig ob
  refine ⟨e, oe, fv, ⟨G', g, dr, tk', os⟩, _, .ref C, some d, rfl, J, fun b o q => ?_, ge, hoe, ⟨hc, hd, fun vs' e' => by
    rw [hdat] at e'
    cases e'
    exact h2⟩, hdat, h1, ?_, rfl, I1.bare, raises_own T.exC T.tyC, q1 d (I1.hok.fresh M.dbig)⟩
  · by_cases hb : b = e
    · have q' : G'.get? b = some o := q
      rw [hb, ge] at q'; cases q'
    · exact (gk b hb).symm.trans q
  · rw [upd_ne (Ne.symm M.dne)]
    exact I1.hok.fresh M.new
/-- raise C(e, ..) -/
def sRaise (c : Str) (ns : List Str) (fs : List EX) : SX := fun ρ => (evs fs (fun ds ρ => if ds.length = ns.length then .err ⟨c, (ns.zip ds).reverse⟩ ρ else .stuck) ρ).then fun _ _ => .stuck
theorem p_raise {k : Nat} (hc : X.calm = true) (tk : L2N.Takes X W) (T : PySem.MbX.XT X.prog X.K X.mg cn (He.ga X.K cn) fI cc u as0) (B : PySem.MbX.XBi u as0) (hr : Room k X.A) (ha : PA X (e :: es) (tA X.K hx W fs)) (hg : Gl X cn := by rfl) (hdb : (cn == ("__debug__" : Str)) = false := by decide)
    (he : starEach (e :: es) X.env = (false, eval e X.env) :: starEach es X.env := by rfl) (hpl : (backTo pos (starEach es X.env)).any (·.1) = false := by rfl) :
    PS X (.Raise (some (.Call (.Name cn p) (e :: es) [] pos)) none pos2) (tS X.K hx W (sRaise cn (as0.map (·.n)) fs)) :=
  (L2N.ps_raise hc tk (pmk_x T B hr ha hg hdb he hpl)).imp fun D σ H q => by
    obtain ⟨F, ρ, ⟨O, r⟩, hp⟩ := q
    have hp' : Po X.K hx F W σ (evs fs (fun ds ρ => if ds.length = (as0.map (·.n)).length then .err ⟨cn, ((as0.map (·.n)).zip ds).reverse⟩ ρ else .stuck) ρ) (fun _ _ => False) := by
      unfold sRaise at hp
      cases e : evs fs (fun ds ρ => if ds.length = (as0.map (·.n)).length then .err ⟨cn, ((as0.map (·.n)).zip ds).reverse⟩ ρ else .stuck) ρ with
      | ok d ρ1 => rw [e] at hp; exact hp.elim
      | err x ρ1 => rw [e] at hp; exact fun cls dd H1 h => hp cls dd σ H1 h
      | stuck => rw [e] at hp; exact hp.elim
    refine tA_of r hp' fun F1 ds ρ1 vs H1 O1 ln r1 dvs q => ?_
    split at q
    · rename_i hl
      refine ⟨dvs.length.trans hl, fun d nd => ?_⟩
      refine q _ _ _ ⟨O1, r1.grow (same_upd nd), rfl, .inr ⟨d, _, rfl, ?_, DF.mono (wo_mono (same_upd nd)) (df_rev dvs)⟩⟩
      unfold wo
      rw [if_neg (r1.out nd), upd_same]
    · exact q.elim
end
end MB

/-! Written dicts of int keys, calls of a local that holds a def, list.count; by values. -/
namespace MB
open PySem PySem.Spec PyProof.Rows L2

/-! ### a module's dict of int keys -/
def intKeysB (es : List DictEntry) : Bool := es.all fun e => match e.key with
  | .int k _ => e.hash == hashInt k
  | _ => false
def KDctI (K : Fg) (p : Addr) (i : Int) (v : V) : Prop := ∃ es n u, K.lookup p = some ⟨.type "dict", none, .dict es n, #[]⟩ ∧ intKeysB es.toList = true ∧ findBy Value.isInt es i = some u ∧ RelV v u
def rIxI (K : Fg) : R2 := fun x y H Q => ∃ p i v, x = .ref p ∧ y = .int i ∧ KDctI K p i v ∧ Q v H
theorem ix_kdictI {X : Cx} : IxR X (rIxI X.K) := by
  intro value slice pins s σ H x y v u Q I rx ry h hs
  obtain ⟨p, i, r, rfl, rfl, ⟨es, n, u0, hl, hk, e, ru⟩, q⟩ := h
  obtain rfl : v = Value.ref p := rx
  obtain ⟨t, rfl⟩ := ry
  have hm : s.heap.MapOf (intKind X.prog X.w) p (fun k => findBy Value.isInt es k) := ⟨_, es, n, I.kIn _ _ hl, ⟨rfl, rfl, rfl⟩, rfl, (fun e he => by
    have z := List.all_eq_true.mp hk e (Array.mem_toList_iff.mpr he)
    cases q : e.key with
    | int k t =>
      simp only [q] at z
      exact ⟨k, by simp [intKind, Value.isInt, q], beq_iff_eq.mp z⟩
    | _ =>
      simp only [q] at z
      cases z), fun _ => rfl⟩
  exact tail_any hm.typeIs slot_dict_getitem.lookup (wpAny_getItem_of (intKind_is X.prog X.w i t) hm e ⟨r, H, I.tok _, ru, q⟩) hs
def eTbl (t : Int → Option D) (f : EX) : EX := fun ρ => (f ρ).bind fun d ρ1 => match d with
  | .int i => match t i with
    | some z => .ok z ρ1
    | none => .stuck
  | _ => .stuck
def TBF (K : Fg) (x : Str) (t : Int → Option D) : Prop := ∀ i d, t i = some d → ∃ v, KDctI K (He.ga K x) i v ∧ ∀ H, DV K H v d
section
variable {X : Cx} {hx : Hx} {W : WX} {b : Expr} {fb : EX} {x : Str} {pos p : Pos}
theorem r_tbl {t : Int → Option D} (T : TBF X.K x t) (hm : X.mg x = some (.ref (He.ga X.K x))) (hb : PE X b (tX X.K hx W fb)) (hg : Gl X x := by rfl) (hd : (x == ("__debug__" : Str)) = false := by decide) (hs : PlainIx b := by first | (intro _ _; rfl) | exact fun _ _ => rfl) :
    PE X (.Subscript (.Name x p) b pos) (tX X.K hx W (eTbl t fb)) :=
  (pe_ix ix_kdictI (pe_glob (v := .ref (He.ga X.K x)) hg hm rfl hd) hb hs).imp fun σ H Q h => by
    obtain ⟨F, ρ, ⟨O, r0⟩, hp⟩ := h
    show tX X.K hx W fb σ H _
    refine bindX r0 hp fun d ρ1 v H1 O1 r1 s1 dv hp1 => ?_
    cases d <;> (try exact hp1.elim)
    rename_i i
    cases dv
    cases e : t i with
    | none => simp only [e] at hp1; exact hp1.elim
    | some z =>
      simp only [e] at hp1
      obtain ⟨v, k, dv⟩ := T i z e
      exact ⟨_, i, v, rfl, rfl, k, hp1 v H1 ⟨O1, r1, dv _⟩⟩
end

/-! ### a local that holds a def -/
def eLoc (i : Nat) (S : Str → Option Fn) (fs : List EX) : EX := fun ρ => match ρ[i]? with
  | some (some (.val (.fn nm))) => match S nm with
    | some m => eFn m fs ρ
    | none => .stuck
  | _ => .stuck
def LocF (P : Program) (w : World) (K : Fg) (mg : Str → Option Value) (base : Heap) (k n : Nat) (S : Str → Option Fn) : Prop := ∀ nm m, S nm = some m → mg nm = some (.ref (He.ga K nm)) ∧ Df P w K mg base k nm n m
section
variable {X : Cx} {hx : Hx} {W : WX} {e : Expr} {es : List Expr} {fs : List EX} {pos p : Pos} {x : Str} {k n i : Nat} {S : Str → Option Fn}
theorem r_loc (L : LocF X.prog X.w X.K X.mg X.base k n S) (hr : Room k X.A) (tk : L2N.Takes X W) (ha : PA X (e :: es) (tA X.K hx W fs)) (hl : fs.length = n := by rfl) (hN : X.N[i]? = some x := by rfl) (hv : Vis X.env.scope x := by first | exact Or.inl rfl | exact Or.inr (Or.inl rfl) | exact Or.inr (Or.inr rfl))
    (hdb : (x == ("__debug__" : Str)) = false := by decide) (hcd : (x == ("__classdict__" : Str)) = false := by decide) (he : starEach (e :: es) X.env = (false, eval e X.env) :: starEach es X.env := by rfl) (hpl : (backTo pos (starEach es X.env)).any (·.1) = false := by rfl) :
    PE X (.Call (.Name x p) (e :: es) [] pos) (tX X.K hx W (eLoc i S fs)) := by
  refine ⟨fun pins s σ H Q I h => ?_⟩
  obtain ⟨F, ρ, ⟨O, r0⟩, hp⟩ := h
  unfold eLoc at hp
  cases e0 : ρ[i]? with
  | none => rw [e0] at hp; exact hp.elim
  | some o =>
    cases o with
    | none => rw [e0] at hp; exact hp.elim
    | some sl =>
      rw [e0] at hp
      cases sl with
      | own ds => exact hp.elim
      | exc y => exact hp.elim
      | val d =>
        cases d <;> (try exact hp.elim)
        rename_i nm
        have hp' : Po X.K hx F W σ (match S nm with
          | some m => eFn m fs ρ
          | none => .stuck) Q := hp
        cases e1 : S nm with
        | none => rw [e1] at hp'; exact hp'.elim
        | some m =>
          rw [e1] at hp'
          obtain ⟨v, ev, dv⟩ := r0.sl i _ e0
          cases (show DV X.K (wo O H) v (.fn nm) from dv)
          obtain ⟨hg, D⟩ := L nm m e1
          obtain ⟨f, fd, ps, hm, hk, hb, en, FF⟩ := D.ex
          rw [hg] at hm
          cases hm
          refine wpAny_Call_Name_kw (thn ((pe_var (pos := p) hN hv hdb hcd).run pins s σ H (fun v H1 => v = .ref (He.ga X.K nm) ∧ H1 = H) I ⟨_, ev, rfl, rfl⟩) fun u s1 ⟨v, H1, I1, r1, q1⟩ => ?_)
          obtain ⟨rfl, rfl⟩ := q1
          cases r1
          have ht := t_fn (W := W) (hx := hx) (fs := fs) (m := m) (ps := ps) (hl.trans en.symm) (σ := σ) (H := H1) (Q := Q) ⟨F, ρ, ⟨O, r0⟩, hp'⟩
          refine PySem.W.callWith_K (h₀ := X.base) I1.ok.mod.kin hk (thn (ha.run pos pins s1 σ H1 (fun vs H2 => spV X.K ps.length m (vs ++ []) H2 Q (WE W σ)) I1 ?_) fun us s2 ⟨vs, H2, I2, r, q⟩ => ⟨I2.kIn, ?_⟩) he hpl
          · have e2 : (fun (vs : List V) (H2 : Hp) => spV X.K ps.length m (vs ++ []) H2 Q (WE W σ)) = fun vs H2 => spV X.K ps.length m vs H2 Q (WE W σ) := by
              funext vs H2
              rw [List.append_nil]
            rw [e2]
            exact ht
          · exact run_fnSD FF hr hb .nil (L2N.passAt tk σ) I2 r q
end

/-! ### list.count -/
def rCnt (K : Fg) : V → List V → Hp → VK → Prop := fun x xs H Q => ∃ (a : Addr) (ys : List V) (y : V), x = V.ref a ∧ xs = [y] ∧ SqL K H a ys ∧ flatV y = true ∧ ys.all flatV = true ∧ Q (.int ((ys.countP fun z => eqV z y : Nat))) H
theorem cnt_eqU {x : V} : ∀ {xs : List V} {us : List Value}, Vals xs us → xs.all flatV = true → us.countP (eqU x) = xs.countP fun y => eqV y x
  | _, _, .nil, _ => rfl
  | y :: xs, u :: us, .cons r t, f => by
    rw [List.all_cons, Bool.and_eq_true] at f
    rw [List.countP_cons, List.countP_cons, eqU_of r f.1, cnt_eqU t f.2]
theorem mt_count {X : Cx} : MtR X "list.count" (rCnt X.K) := by
  intro pins s σ H x xs v us Q I rx rxs h
  obtain ⟨a, ys, y, rfl, rfl, hs, fy, fys, q⟩ := h
  cases rx
  cases rxs with
  | cons ry rt =>
    rename_i uy ut
    cases rt
    obtain ⟨its, rv, ⟨⟨cls, dd, data, sl⟩, n, ho, hc, hdn, hd⟩, hlen⟩ := I.list hs
    simp only at hc hd
    subst hc hd
    refine call_meets PySem.F.slot_list_count ⟨_, ho, rfl⟩ PySem.F.entry_list_count (PySem.F.args_list_count_2 _ _)
      (SeqAt.list_countAt a its.toArray n dd sl uy (eqU y)) ⟨ho, fun u' hu' => mem_eqAt ry fy rv fys u' (by simpa using hu'), ?_⟩
    rw [show its.toArray.toList = its from rfl, cnt_eqU rv fys]
    exact ⟨.int _, H, I.tok _, ⟨_, rfl⟩, q⟩
def eCnt (fo fe : EX) : EX := fun ρ => (fo ρ).bind fun d ρ1 => match d with
  | .lst xs => (fe ρ1).bind fun y ρ2 => if (flat y && xs.all flat) = true then .ok (.int ((xs.countP fun z => eqF z y : Nat))) ρ2 else .stuck
  | _ => .stuck
theorem countP_flV {d : D} (f : flat d = true) : ∀ {ds : List D}, ds.all flat = true → ((ds.map flV).countP fun y => eqV y (flV d)) = ds.countP fun y => eqF y d
  | [], _ => rfl
  | e :: ds, g => by
    rw [List.all_cons, Bool.and_eq_true] at g
    rw [List.map_cons, List.countP_cons, List.countP_cons, eqV_flV g.1 f, countP_flV f g.2]
section
variable {X : Cx} {hx : Hx} {W : WX} {o e : Expr} {fo fe : EX} {apos cpos : Pos}
theorem r_cnt (ho : PE X o (tX X.K hx W fo)) (he : PE X e (tX X.K hx W fe)) (hbase : attributeBase o "count" X.env (eval o X.env) = eval o X.env := by rfl)
    (hfew : ((backTo cpos (starEach [e] X.env)).all (fun x => !x.1) && (backToKw cpos (keywordEach [] X.env)).all (fun x => x.1.isSome) && decide ([e].length + ([] : List Keyword).length + (if ([] : List Keyword).isEmpty then 0 else 1) < 30)) = true := by rfl)
    (hline : (apos.endLine == cpos.line) = true := by rfl) (hs : starEach [e] X.env = (false, eval e X.env) :: starEach [] X.env := by rfl) (hplain : (backTo cpos (starEach [] X.env)).any (·.1) = false := by rfl) :
    PE X (.Call (.Attribute o "count" apos) [e] [] cpos) (tX X.K hx W (eCnt fo fe)) :=
  (pe_bm PySem.F.plainAttrs_list PySem.F.slot_list_count PySem.F.type_list_count mt_count ho (pa_cons he pa_nil hs) hbase hfew hline hs hplain).imp fun σ H Q h => by
    obtain ⟨F, ρ, ⟨O, r0⟩, hp⟩ := h
    refine bindX r0 hp fun d ρ1 v H1 O1 r1 s1 dv hp1 => ?_
    cases d <;> (try exact hp1.elim)
    rename_i ds
    obtain ⟨a, vs, rfl, s, t⟩ := dv.lst_of
    refine ⟨.inl ⟨rfl, vs, .of (wo_same O1 H1 _ _ s)⟩, ?_⟩
    refine bindX r1 hp1 fun d2 ρ2 u H2 O2 r2 s2 du hp2 => ?_
    split at hp2
    · rename_i c
      obtain ⟨c1, c2⟩ := Bool.and_eq_true_iff.mp c
      obtain ⟨rfl, f1⟩ := flat_of du c1
      obtain ⟨e2, f2⟩ := flats_of t c2
      refine ⟨a, vs, _, rfl, rfl, .of (wo_same O2 H2 _ _ (s2 _ _ s)), f1, f2, ?_⟩
      rw [e2, countP_flV c1 c2]
      exact hp2 _ H2 ⟨O2, r2, .int _⟩
    · exact hp2.elim
end
end MB

/-! What the module's top leaves: one observation, and what it gives. -/
namespace MB
open PySem PySem.Spec PyProof.Rows L2

/-! ### data -/
def vOf : Value → V
  | .bool b => .bl b
  | .int i _ => .int i
  | .str x _ => .str x
  | .ref a => .ref a
  | _ => .non
def vals2 (f : Value → D → Bool) : List Value → List D → Bool
  | [], [] => true
  | u :: us, d :: ds => f u d && vals2 f us ds
  | _, _ => false
def dB (K : Fg) : Nat → Value → D → Bool
  | 0, _, _ => false
  | _ + 1, .none, .non => true
  | _ + 1, .bool b, .bl c => b == c
  | _ + 1, .int i _, .int j => decide (i = j)
  | _ + 1, .str x _, .str y => decide (x = y)
  | n + 1, .ref a, .tup ds => match K.lookup a with
    | some ⟨.type c, _, .seq its _, _⟩ => decide (c = "tuple") && (decide (its.size ≤ sizeLine) && vals2 (dB K n) its.toList ds)
    | _ => false
  | _ + 1, .ref a, .fn x => decide (a = He.ga K x)
  | _, _, _ => false
theorem vals2_ok {K : Fg} {f : Value → D → Bool} (hf : ∀ u d, f u d = true → RelV (vOf u) u ∧ ∀ H, DV K H (vOf u) d) : ∀ {us : List Value} {ds : List D}, vals2 f us ds = true → Vals (us.map vOf) us ∧ ∀ H, DVs K H (us.map vOf) ds
  | [], [], _ => ⟨.nil, fun _ => .nil⟩
  | [], _ :: _, h => by cases h
  | _ :: _, [], h => by cases h
  | u :: us, d :: ds, h => by
    obtain ⟨h1, h2⟩ := Bool.and_eq_true_iff.mp (show (f u d && vals2 f us ds) = true from h)
    obtain ⟨r, dv⟩ := hf u d h1
    obtain ⟨r2, dv2⟩ := vals2_ok hf h2
    exact ⟨.cons r r2, fun H => .cons (dv H) (dv2 H)⟩
theorem dB_ok {K : Fg} : ∀ (n : Nat) (u : Value) (d : D), dB K n u d = true → RelV (vOf u) u ∧ ∀ H, DV K H (vOf u) d
  | 0, _, _, h => by cases h
  | n + 1, u, d, h => by
    cases u with
    | none =>
      cases d with
      | non => exact ⟨rfl, fun _ => .non⟩
      | _ => cases h
    | bool b =>
      cases d with
      | bl c =>
        have e : b = c := eq_of_beq (show (b == c) = true from h)
        subst e
        exact ⟨rfl, fun _ => .bl _⟩
      | _ => cases h
    | int i t =>
      cases d with
      | int j =>
        have e : i = j := of_decide_eq_true h
        subst e
        exact ⟨⟨t, rfl⟩, fun _ => .int _⟩
      | _ => cases h
    | str x t =>
      cases d with
      | str y =>
        have e : x = y := of_decide_eq_true h
        subst e
        exact ⟨⟨t, rfl⟩, fun _ => .str _⟩
      | _ => cases h
    | ref a =>
      cases d with
      | tup ds =>
        have h1 : (match K.lookup a with
          | some ⟨.type c, _, .seq its _, _⟩ => decide (c = "tuple") && (decide (its.size ≤ sizeLine) && vals2 (dB K n) its.toList ds)
          | _ => false) = true := h
        cases q : K.lookup a with
        | none =>
          rw [q] at h1
          cases h1
        | some o =>
          obtain ⟨oc, od, dt, osl⟩ := o
          rw [q] at h1
          cases oc with
          | type c =>
            cases dt with
            | seq its m =>
              obtain ⟨h2, h3⟩ := Bool.and_eq_true_iff.mp (show (decide (c = "tuple") && (decide (its.size ≤ sizeLine) && vals2 (dB K n) its.toList ds)) = true from h1)
              obtain ⟨h4, h5⟩ := Bool.and_eq_true_iff.mp h3
              obtain ⟨r, dv⟩ := vals2_ok (fun u d => dB_ok n u d) h5
              exact ⟨rfl, fun H => .tup (.inr ⟨_, its, m, q, congrArg Value.type (of_decide_eq_true h2), rfl, of_decide_eq_true h4, r⟩) (dv H)⟩
            | _ => cases h1
          | _ => cases dt <;> cases h1
      | fn x =>
        have e : a = He.ga K x := of_decide_eq_true h
        subst e
        exact ⟨rfl, fun _ => .fn _⟩
      | _ => cases h
    | _ => cases d <;> cases h
def gcB (K : Fg) (x : Str) (d : D) : Bool := match PySem.W.nsIn K mainGlobals x with
  | some (some u) => dB K 12 u d
  | _ => false
theorem gc_ok {K : Fg} {h : Heap} {mg : Str → Option Value} {x : Str} {d : D} (X : K.In h) (G : h.Ns mainGlobals mg) (c : gcB K x d = true) : GC K mg x d := by
  unfold gcB at c
  split at c
  · rename_i u e
    obtain ⟨r, dv⟩ := dB_ok _ _ _ c
    exact ⟨u, vOf u, PySem.W.mg_of X G e, r, dv⟩
  · cases c

theorem mem_lookI {d : D} {i : Int} : ∀ {l : List (Int × D)}, l.lookup i = some d → (i, d) ∈ l
  | [], e => by cases e
  | (j, x) :: l, e => by
    rw [List.lookup_cons] at e
    cases q : (i == j) with
    | true =>
      rw [q] at e
      cases e
      rw [eq_of_beq q]
      exact List.mem_cons_self
    | false =>
      rw [q] at e
      exact List.mem_cons_of_mem _ (mem_lookI e)
/-! ### a dict of int keys -/
def tbB (K : Fg) (x : Str) (l : List (Int × D)) : Bool := match K.lookup (He.ga K x) with
  | some ⟨.type c, none, .dict es _, sl⟩ => decide (c = "dict") && (decide (sl.size = 0) && (intKeysB es.toList && l.all fun p => match findBy Value.isInt es p.1 with
    | some u => dB K 12 u p.2
    | none => false))
  | _ => false
theorem tb_ok {K : Fg} {x : Str} {l : List (Int × D)} (c : tbB K x l = true) : TBF K x (fun i => l.lookup i) := by
  intro i d hi
  unfold tbB at c
  cases q : K.lookup (He.ga K x) with
  | none => rw [q] at c; cases c
  | some o =>
    obtain ⟨oc, od, dt, osl⟩ := o
    rw [q] at c
    cases oc with
    | type cn =>
      cases od with
      | some _ => cases dt <;> cases c
      | none =>
        cases dt with
        | dict es n =>
          obtain ⟨h1, h2⟩ := Bool.and_eq_true_iff.mp (show (decide (cn = "dict") && (decide (osl.size = 0) && (intKeysB es.toList && l.all fun p => match findBy Value.isInt es p.1 with
            | some u => dB K 12 u p.2
            | none => false))) = true from c)
          obtain ⟨h3, h4⟩ := Bool.and_eq_true_iff.mp h2
          obtain ⟨h5, h6⟩ := Bool.and_eq_true_iff.mp h4
          have hm : (i, d) ∈ l := mem_lookI hi
          have h7 := List.all_eq_true.mp h6 _ hm
          have e1 : cn = "dict" := of_decide_eq_true h1
          have e2 : osl = #[] := Array.eq_empty_of_size_eq_zero (of_decide_eq_true h3)
          subst e1 e2
          cases e3 : findBy Value.isInt es i with
          | none => simp only [e3] at h7; cases h7
          | some u =>
            simp only [e3] at h7
            obtain ⟨r, dv⟩ := dB_ok _ _ _ h7
            exact ⟨vOf u, ⟨es, n, u, q, h5, e3, r⟩, dv⟩
        | _ => cases c
    | _ => cases od <;> cases dt <;> cases c

/-! ### exceptions -/
def excCB (K : Fg) (C : Addr) : Bool := decide (PySem.W.findIn K (.ref C) "__getattribute__" = some (some (.builtin "BaseException.__getattribute__"))) && (decide (PySem.W.findIn K (.ref C) "__getattr__" = some none) &&
  (decide (PySem.W.subIn K (.ref C) (.type "BaseException") = some true) && (PySem.W.hasDictIn K C && (decide (PySem.W.findIn K (.ref C) "__class__" = some (some (.builtin "object.__class__"))) &&
  (decide (PySem.W.specialIn K (.builtin "object.__class__") "__get__" = some (some (.builtin "getset_descriptor.__get__"))) && (decide (PySem.W.takesIn K (.builtin "object.__class__") = some true) && decide (PySem.W.mroIn K C (.type "object") = some true)))))))
theorem excC_ok {K : Fg} {C : Addr} (c : excCB K C = true) : ExcC K C := by
  obtain ⟨h1, c⟩ := Bool.and_eq_true_iff.mp c
  obtain ⟨h2, c⟩ := Bool.and_eq_true_iff.mp c
  obtain ⟨h3, c⟩ := Bool.and_eq_true_iff.mp c
  obtain ⟨h4, c⟩ := Bool.and_eq_true_iff.mp c
  obtain ⟨h5, c⟩ := Bool.and_eq_true_iff.mp c
  obtain ⟨h6, c⟩ := Bool.and_eq_true_iff.mp c
  obtain ⟨h7, h8⟩ := Bool.and_eq_true_iff.mp c
  exact ⟨of_decide_eq_true h1, of_decide_eq_true h2, of_decide_eq_true h3, h4, of_decide_eq_true h5, of_decide_eq_true h6, of_decide_eq_true h7, of_decide_eq_true h8⟩
/-- what isinstance of an instance of each raised class tells; l: each raised class with all classes it stands under -/
def isB (K : Fg) (l : List (Str × List Str)) (C : Str) (cv : Value) : Bool := l.all fun p => decide (PySem.W.kitOne K (.ref (He.ga K p.1)) cv = some (p.2.contains C))
def isX (l : List (Str × List Str)) (C : Str) : Str → Option Bool := fun c => (l.lookup c).map (·.contains C)
theorem is_ok {K : Fg} {l : List (Str × List Str)} {C : Str} {cv : Value} (h1 : (l.all fun p => excCB K (He.ga K p.1)) = true) (h2 : isB K l C cv = true) : ISF K (isX l C) cv := by
  intro c b e
  obtain ⟨q, e1, rfl⟩ := Option.map_eq_some_iff.mp e
  have hm : (c, q) ∈ l := PySem.mem_of_lookup e1
  exact ⟨excC_ok (List.all_eq_true.mp h1 _ hm), of_decide_eq_true (List.all_eq_true.mp h2 _ hm)⟩
/-- what an except clause of the class at cv catches -/
def teB (K : Fg) (l : List (Str × List Str)) (C : Str) (cv : Value) : Bool := l.all fun p => decide (PySem.W.exmOne K (.ref (He.ga K p.1)) cv = some (p.2.contains C))
theorem te_ok {K : Fg} {l : List (Str × List Str)} {C : Str} {cv : Value} (h : teB K l C cv = true) : TEF K (isX l C) cv := by
  intro c b e
  obtain ⟨q, e1, rfl⟩ := Option.map_eq_some_iff.mp e
  exact of_decide_eq_true (List.all_eq_true.mp h _ (PySem.mem_of_lookup e1))
def xfFB (K : Fg) (n : Str) (cs : List Str) : Bool := cs.all fun c => xfB K (He.ga K c) && decide (PySem.W.findIn K (.ref (He.ga K c)) n = some none)
theorem xff_ok {K : Fg} {n : Str} {cs : List Str} (h : xfFB K n cs = true) : XFF K n cs := fun c hc => by
  obtain ⟨h1, h2⟩ := Bool.and_eq_true_iff.mp (List.all_eq_true.mp h c hc)
  exact ⟨xfB_ok h1, of_decide_eq_true h2⟩

/-! ### a class with its own __init__ -/
open PySem.MbX in
abbrev FnY : Type := Option (Str × Str × Arguments × FuncBody × Scope × Addr × List Str × Addr)
def fnY (K : Fg) (a : Addr) : FnY := match K.lookup a with
  | some ⟨_, _, .func fd, _⟩ => some (fd.name, fd.qualname, fd.params, fd.body, fd.scope, fd.globals, fd.closure.map (·.1), fd.builtins)
  | _ => none
/-- the class's name, its __init__'s text, its fields -/
structure XD where
  cn : Str
  u : PySem.MbX.XSu
  as : List PySem.MbX.XAs
def XD.fI (K : Fg) (x : XD) : Addr := He.ma K (He.ga K x.cn) "__init__"
def XD.val (x : XD) : FnY := some ("__init__", x.cn ++ ".__init__", PySem.MbX.xA x.u x.as, .stmts (PySem.MbX.xB x.u x.as), PySem.MbX.xS x.as, mainGlobals, ["__class__"], builtinsNs)
def XD.cc (K : Fg) (x : XD) : Addr := match K.lookup (x.fI K) with
  | some ⟨_, _, .func fd, _⟩ => (match fd.closure with
    | (_, c) :: _ => c
    | _ => 0)
  | _ => 0
def clsB (K : Fg) (C : Addr) : Bool := match K.lookup C with
  | some ⟨.type t, _, .cls cd, sl⟩ => (match cd.mro, sl.toList with
    | .ref C' :: bm, [_, _, _, _, some (.builtin n), _] => decide (t = "type") && (decide (C' = C) && (decide (n = "ValueError.__new__") && (!cd.hasDel && (cd.hasDict && (PySem.HandSPX.refsVE bm && decide (PySem.W.alongIn K "__init__" bm = some (some (.builtin "ValueError.__init__"))))))))
    | _, _ => false)
  | _ => false
def cellB (K : Fg) (c C : Addr) : Bool := match K.lookup c with
  | some ⟨_, _, .cell (some (.ref D)), _⟩ => decide (D = C)
  | _ => false
def codeFB (file : Str) (K : Fg) (cdv : Value) : Bool := match cdv with
  | .ref ca => (match K.lookup ca with
    | some ⟨_, _, .fields vs, _⟩ => (match (vs[2]? : Option Value) with
      | some (Value.str f _) => file == f
      | _ => false)
    | _ => false)
  | _ => false
def fnB (file : Str) (K : Fg) (a : Addr) (q : Str) : Bool := match K.lookup a with
  | some ⟨_, _, .func fd, _⟩ => decide (fd.defaults = .none) && (PySem.W.codeIn K fd.code q && codeFB file K fd.code)
  | _ => false
def XD.ok (file : Str) (K : Fg) (x : XD) : Bool :=
  decide (PySem.W.nsIn K mainGlobals x.cn = some (some (.ref (He.ga K x.cn)))) && (clsB K (He.ga K x.cn) && (decide (PySem.W.findIn K (.ref (He.ga K x.cn)) "__setattr__" = some (some (.builtin "object.__setattr__"))) && ((x.as.all fun a => decide (PySem.W.findIn K (.ref (He.ga K x.cn)) a.n = some none)) &&
  (decide (PySem.W.findIn K (.ref (He.ga K x.cn)) "__init__" = some (some (.ref (x.fI K)))) && (decide (PySem.W.typeIn K (.ref (x.fI K)) = some (.type "function")) && (PySem.W.keepIn K (.ref (He.ga K x.cn)) && (decide (PySem.W.subIn K (.ref (He.ga K x.cn)) (.type "BaseException") = some true) &&
  (decide (PySem.W.subIn K (.ref (He.ga K x.cn)) (.type "ValueError") = some true) && (decide (PySem.W.subIn K (.ref (He.ga K x.cn)) (.ref (He.ga K x.cn)) = some true) && (decide (PySem.W.typeIn K (.ref (He.ga K x.cn)) = some (.type "type")) && (decide (PySem.W.nsIn K cStatics "thirdparty.any" = some none) &&
  (cellB K (x.cc K) (He.ga K x.cn) && (decide (PySem.W.nsIn K mainGlobals "super" = some none) && fnB file K (x.fI K) (x.cn ++ ".__init__"))))))))))))))
theorem cls_of {K : Fg} {C : Addr} (h : clsB K C = true) : ∃ nm q N bs bm sn sub ab col dd k0 k1 k2 k3 k5, K.lookup C = some (PySem.excClassObj nm q C N bs bm true sn sub ab col dd k0 k1 k2 k3 k5 "ValueError.__new__") ∧ PySem.HandSPX.refsVE bm = true ∧ PySem.W.alongIn K "__init__" bm = some (some (.builtin "ValueError.__init__")) := by
  unfold clsB at h
  split at h
  · rename_i t dd cd sl ho
    split at h
    · rename_i C' bm k0 k1 k2 k3 n k5 hm hs
      simp only [Bool.and_eq_true, decide_eq_true_eq, Bool.not_eq_true'] at h
      obtain ⟨rfl, rfl, rfl, hdel, hd, hr, ha⟩ := h
      obtain ⟨nm, bs, mro, ns, qn, hd', sn, sub, ab, col, del⟩ := cd
      dsimp only at hm hdel hd
      subst hm hdel hd
      have hsl : sl = #[k0, k1, k2, k3, some (.builtin "ValueError.__new__"), k5] := by
        obtain ⟨l⟩ := sl
        simp only at hs
        rw [hs]
      subst hsl
      exact ⟨nm, qn, ns, bs, bm, sn, sub, ab, col, dd, k0, k1, k2, k3, k5, ho, hr, ha⟩
    · cases h
  · cases h
theorem codeF_of {file : Str} {K : Fg} {cdv : Value} (h : codeFB file K cdv = true) : ∃ (ca : Addr) (oc2 : Obj) (vs : Array Value) (f : Str) (tf : Tok), cdv = .ref ca ∧ K.lookup ca = some oc2 ∧ oc2.data = .fields vs ∧ vs[2]? = some (.str f tf) ∧ (file == f) = true := by
  unfold codeFB at h
  split at h
  · rename_i ca
    split at h
    · rename_i oc2 od2 vs sl2 hca
      split at h
      · rename_i f tf hv
        exact ⟨ca, _, vs, f, tf, rfl, hca, rfl, hv, h⟩
      · cases h
    · cases h
  · cases h
theorem xt_of {prog : Program} {K : Fg} {h : Heap} {mg : Str → Option Value} {x : XD} (X : K.In h) (G : h.Ns mainGlobals mg) (top : (prog.main.scope.names.lookup ("super" : Str)).isSome = false) (e : fnY K (x.fI K) = x.val) (c : x.ok prog.main.file K = true) :
    PySem.MbX.XT prog K mg x.cn (He.ga K x.cn) (x.fI K) (x.cc K) x.u x.as := by
  obtain ⟨c1, c⟩ := Bool.and_eq_true_iff.mp c
  obtain ⟨c2, c⟩ := Bool.and_eq_true_iff.mp c
  obtain ⟨c3, c⟩ := Bool.and_eq_true_iff.mp c
  obtain ⟨c4, c⟩ := Bool.and_eq_true_iff.mp c
  obtain ⟨c5, c⟩ := Bool.and_eq_true_iff.mp c
  obtain ⟨c6, c⟩ := Bool.and_eq_true_iff.mp c
  obtain ⟨c7, c⟩ := Bool.and_eq_true_iff.mp c
  obtain ⟨c8, c⟩ := Bool.and_eq_true_iff.mp c
  obtain ⟨c9, c⟩ := Bool.and_eq_true_iff.mp c
  obtain ⟨c10, c⟩ := Bool.and_eq_true_iff.mp c
  obtain ⟨c11, c⟩ := Bool.and_eq_true_iff.mp c
  obtain ⟨c12, c⟩ := Bool.and_eq_true_iff.mp c
  obtain ⟨c13, c⟩ := Bool.and_eq_true_iff.mp c
  obtain ⟨c14, c15⟩ := Bool.and_eq_true_iff.mp c
  refine ⟨PySem.W.mg_of X G (of_decide_eq_true c1), cls_of c2, of_decide_eq_true c3, fun a ha => of_decide_eq_true (List.all_eq_true.mp c4 a ha), of_decide_eq_true c5, of_decide_eq_true c6, c7, of_decide_eq_true c8, of_decide_eq_true c9, of_decide_eq_true c10, of_decide_eq_true c11, of_decide_eq_true c12, ?_, PySem.W.mg_none_of X G (of_decide_eq_true c14), top, ?_⟩
  · unfold cellB at c13
    split at c13
    · rename_i oc od D sl ho
      cases of_decide_eq_true c13
      exact ⟨_, ho, rfl⟩
    · cases c13
  · unfold fnB at c15
    unfold fnY at e
    have ecc : x.cc K = match K.lookup (x.fI K) with
      | some ⟨_, _, .func fd, _⟩ => (match fd.closure with
        | (_, c) :: _ => c
        | _ => 0)
      | _ => 0 := rfl
    generalize x.cc K = cc at ecc ⊢
    cases q : K.lookup (x.fI K) with
    | none => rw [q] at e; cases e
    | some o =>
      obtain ⟨oc, od, dt, osl⟩ := o
      rw [q] at e c15 ecc
      cases dt with
      | func fd =>
        obtain ⟨n1, n2, n3, n4, n5, n6, n7, n8, n9, n10, n11, n12, n13, n14, n15⟩ := fd
        have e2 : (some (n1, n2, n3, n4, n5, n6, n7.map (·.1), n15) : FnY) = (some (("__init__" : Str), x.cn ++ (".__init__" : Str), PySem.MbX.xA x.u x.as, FuncBody.stmts (PySem.MbX.xB x.u x.as), PySem.MbX.xS x.as, mainGlobals, [("__class__" : Str)], builtinsNs) : FnY) := e
        simp only [Option.some.injEq, Prod.mk.injEq] at e2
        obtain ⟨h1, h2, h3, h4, h5, h6, h7, h8⟩ := e2
        subst h1 h2 h3 h4 h5 h6 h8
        obtain ⟨d1, d2⟩ := Bool.and_eq_true_iff.mp (show (decide (n8 = .none) && (PySem.W.codeIn K n13 (x.cn ++ ".__init__") && codeFB prog.main.file K n13)) = true from c15)
        obtain ⟨d3, d4⟩ := Bool.and_eq_true_iff.mp d2
        cases of_decide_eq_true d1
        match n7, h7, ecc with
        | [(y, c0)], h7, ecc =>
          have hy : y = "__class__" := (List.cons.inj h7).1
          subst hy
          have ec : cc = c0 := ecc
          subst ec
          exact ⟨oc, od, x.cn ++ ".__init__", n9, n10, n11, n12, n13, n14, osl, rfl, d3, codeF_of d4⟩
      | _ => cases e
end MB

/-! The hook; a class's text read off the row; small helpers of the printed part. -/
namespace MB
open PySem PySem.Spec PyProof.Rows L2
abbrev AlM : Type := Bool × List He.FnW × List FnY
def obsM (file : Str) (chk : Fg → Bool) (fn : List He.DefD) (xs : List XD) (K : Fg) : AlM := (chk K && ((fn.all fun d => d.ok K) && xs.all fun x => x.ok file K), fn.map fun d => He.fnW K d.at_, xs.map fun x => fnY K (x.fI K))
def valM (fn : List He.DefD) (xs : List XD) : AlM := (true, fn.map He.DefD.val, xs.map XD.val)
def SaysM (file : Str) (chk : Fg → Bool) (fn : List He.DefD) (xs : List XD) (K : Fg) : Prop := obsM file chk fn xs K = valM fn xs
def asM (g : Addr → Option Obj) : Nat → List Addr
  | 0 => [mainGlobals, cStatics]
  | n + 1 => He.growD g (asM g n)
def obsMG (n : Nat) (file : Str) (chk : Fg → Bool) (fn : List He.DefD) (xs : List XD) (g : Addr → Option Obj) : AlM := obsM file chk fn xs (He.frG g (asM g n))
def hookM (n : Nat) (file : Str) (chk : Fg → Bool) (fn : List He.DefD) (xs : List XD) : PySem.W.Hook where
  α := AlM
  obs := fun s => obsMG n file chk fn xs s.heap.get?
  val := fun _ => valM fn xs
  says := fun _ h => ∃ K : PySem.W.Frag, K.In h ∧ SaysM file chk fn xs K
  of := fun _ _ e => ⟨_, He.frG_in, e⟩
  keeps := fun _ _ _ ⟨K, hK, c⟩ k => ⟨K, PySem.W.Frag.In.keeps hK k, c⟩
theorem obsMG_eq {n : Nat} {file : Str} {chk : Fg → Bool} {fn : List He.DefD} {xs : List XD} {g : Addr → Option Obj} {s : Shared} (h : ∀ a, g a = s.heap.get? a) : obsMG n file chk fn xs g = (hookM n file chk fn xs).obs s := by
  have e : g = s.heap.get? := funext h
  rw [e] <;> rfl
section
variable {file : Str} {ck : Fg → Bool} {fn : List He.DefD} {xs : List XD} {K : Fg}
theorem SaysM.chk (c : SaysM file ck fn xs K) : ck K = true := (Bool.and_eq_true_iff.mp (congrArg (fun z : AlM => z.1) c)).1
theorem SaysM.def_ (c : SaysM file ck fn xs K) (i : Nat) {d : He.DefD} (h : fn[i]? = some d) : ∃ fd, FunD K d.name d.qual d.params d.body d.scope (d.dvs K) (d.kws K) (He.fAd K d.at_) fd := by
  have c2 := (Bool.and_eq_true_iff.mp (Bool.and_eq_true_iff.mp (congrArg (fun z : AlM => z.1) c)).2).1
  have e : fn.map (fun d => He.fnW K d.at_) = fn.map He.DefD.val := congrArg (fun z : AlM => z.2.1) c
  have e2 : (fn.map fun d => He.fnW K d.at_)[i]? = (fn.map He.DefD.val)[i]? := by rw [e]
  rw [List.getElem?_map, List.getElem?_map, h] at e2
  exact He.DefD.funD (Option.some.inj e2) (List.all_eq_true.mp c2 d (List.mem_of_getElem? h))
theorem SaysM.cls (c : SaysM file ck fn xs K) (i : Nat) {x : XD} (h : xs[i]? = some x) : fnY K (x.fI K) = x.val ∧ x.ok file K = true := by
  have c2 := (Bool.and_eq_true_iff.mp (Bool.and_eq_true_iff.mp (congrArg (fun z : AlM => z.1) c)).2).2
  have e : xs.map (fun x => fnY K (x.fI K)) = xs.map XD.val := congrArg (fun z : AlM => z.2.2) c
  have e2 : (xs.map fun x => fnY K (x.fI K))[i]? = (xs.map XD.val)[i]? := by rw [e]
  rw [List.getElem?_map, List.getElem?_map, h] at e2
  exact ⟨Option.some.inj e2, List.all_eq_true.mp c2 x (List.mem_of_getElem? h)⟩
end
/-- the fields that an __init__ sets -/
def xaOf : List Arg → List Stmt → List PySem.MbX.XAs
  | a :: as, .Assign [.Attribute (.Name _ q1) n q2] (.Name _ q3) q4 :: r => ⟨n, a.pos, q1, q2, q3, q4⟩ :: xaOf as r
  | _, _ => []
def noSu : PySem.MbX.XSu := ⟨⟨0, 0, 0, 0⟩, "", 0, ⟨0, 0, 0, 0⟩, ⟨0, 0, 0, 0⟩, ⟨0, 0, 0, 0⟩, ⟨0, 0, 0, 0⟩, ⟨0, 0, 0, 0⟩, ⟨0, 0, 0, 0⟩⟩
def bodyOf : Stmt → List Stmt
  | .ClassDef (body := b) .. => b
  | _ => []
def nameOf : Stmt → Str
  | .ClassDef (name := n) .. => n
  | _ => ""
def xuOf : List Arg → List Stmt → PySem.MbX.XSu
  | a :: _, .Expr (.Call (.Attribute (.Call (.Name _ p0) [] [] p1) _ p2) [.Constant (.str t) j p3] [] p4) p5 :: _ => ⟨a.pos, t, j, p0, p1, p2, p3, p4, p5⟩
  | _, _ => noSu
def xdOf (st : Stmt) : XD := match bodyOf st with
  | f :: _ => ⟨nameOf st, xuOf (defArgs f).args (defBody f), xaOf (defArgs f).args.tail (defBody f).tail⟩
  | _ => ⟨"", noSu, []⟩
theorem df_stuck {P : Program} {w : World} {K : Fg} {mg : Str → Option Value} {base : Heap} {k n : Nat} {x : Str} {qual : Str} {params : Arguments} {body : List Stmt} {scope : Scope} {f : Addr} {fd : FuncData} {ps : List Str} (hg : mg x = some (.ref f)) (F : FunD K x qual params body scope [] [] f fd) (hbi : Binds K fd ps []) (hn : ps.length = n) :
    Df P w K mg base k x n (fun _ => .stuck) :=
  ⟨f, fd, ps, hg, F.kp, hbi, hn, ⟨fun vs H Q E h => h.1, fun A outer s H args us vs Q E hr e0 hb r h => by
    obtain ⟨_, O, ds, _, _, z⟩ := h
    exact z.elim⟩⟩
theorem dfE_ok {P : Program} {w : World} {K : Fg} {mg : Str → Option Value} {base : Heap} {x qual : Str} {params : Arguments} {body : List Stmt} {scope : Scope} {f : Addr} {fd : FuncData} {k : Nat} {N ps : List Str} {b : SX} (hg : mg x = some (.ref f)) (F : FunD K x qual params body scope [] [] f fd) (S : FnScope N ps scope) (h1 : ps.length = 1) (hbi : Binds K fd ps []) (hb : BodyE P w K mg base k N qual scope body b) : DfE P w K mg base (k + 1) x (runE b N.length) :=
  ⟨f, fd, ps, hg, F.kp, hbi, defE_ok F S h1 hb⟩
theorem DfE.mono {P : Program} {w : World} {K : Fg} {mg : Str → Option Value} {base : Heap} {j k : Nat} {x : Str} {m : Ex → Rt} (d : DfE P w K mg base j x m) (h : j ≤ k) : DfE P w K mg base k x m := by
  obtain ⟨f, fd, ps, h1, h2, h3, h4⟩ := d.ex
  exact ⟨f, fd, ps, h1, h2, h3, h4.mono h⟩
theorem hu_of {k : Nat} {A : Around} (r : L2H.RoomH k A) : A.units + 64 < cLine := by have := r.un; omega
theorem hxOk_cxH {P : Program} {w : World} {K : Fg} {mg : Str → Option Value} {base : Heap} {N : List Str} {qual : Str} {scope : Scope} {f : Addr} {cd : Value} {A : Around} {outer : List Env} {s : Shared} {H : Hp} {E : XK} {a : Addr} {oe : Obj} {cls : Value} {dd : Option Addr} (hot : L2H.Hot1 A (a, oe)) (hz : Zc cls dd oe) :
    HxOk (L2H.cxH (L2N.CX P w) P w K mg base N qual scope f cd A outer s H E (a, oe)) (some (a, cls, dd)) := ⟨a, oe, cls, dd, rfl, List.mem_cons_self, ⟨hot.1, hot.2⟩, hz⟩
end MB

/-! A law's end over the layer by values. -/
namespace MB
open PySem PySem.Spec PyProof.Rows L2
/-- the law's def, its function m: at every script it answers True -/
theorem walk_mb {l : PySem.W.OpenLaw} {n k : Nat} {q : Program} {loose : List Str} {XP : (Str → Option Value) → Heap → Prop} {YP : World → Heap → Prop} {d : DefRec} {x : Str} {m : Fn}
    (hn : l.most = some n) (hn2 : n ≤ sizeLine) (hdf : d.params.defaults = []) (hr : Room k callerA)
    (F : ∀ (w : World) (mg : Str → Option Value) (fa : Addr) (h : Heap), YP w h → h.Ns mainGlobals mg → mg d.name = some (.ref fa) →
      ∃ (K : PySem.W.Frag) (fd : FuncData), K.In h ∧ (∀ (s : Shared) (u : Value), BindsTo s fd ⟨[u], []⟩ [(x, u)]) ∧ ∀ base : Heap, K.In base → base.Ns mainGlobals mg → FnV l.prog w K mg base k fa fd [x] m)
    (hm : ∀ ns : List Int, ns.length ≤ n → (∀ z ∈ ns, Builtin.Int.intBits z ≤ 1048576) → m [.scr ns] = .ok (.bl true)) :
    PySem.W.WalkO q loose XP YP l.row.toRowW d [] (fun f vs => PySem.call f vs) := by
  refine Att.attach_callB hn hdf fun w s₀ s₁ mg mb fa o pm cd doc a vs ns G Y ho hd hcd hmg hobj hints hlen hbits hg => ?_
  obtain ⟨K, fd, KX, hb, hF⟩ := F w mg fa _ Y G.T.g hmg
  refine law_call (sp := spV K 1 m) KX G.T.g G.T.b G.T.builtins G.T.nolimit hg hobj hints (Nat.le_trans hlen hn2) hr hF hb (fun H hO hS => ?_) fun H e s' hc => ?_
  · refine ⟨rfl, [], [.scr ns], (fun a ha => nomatch ha), .cons (.scr (by rw [wo_nil]; exact hS)) .nil, ?_⟩
    rw [hm ns hlen hbits]
    intro v H' _ dv
    cases dv
    rfl
  · obtain ⟨_, _, _, _, _, _, _, _, _, _, _, _, z⟩ := hc
    exact z
end MB

namespace K39
open PySem PySem.Spec PyProof.Rows L2 MB
def top (i : Nat) : Stmt := PySem.Challenge.pw_madeorbarred_k39_difference_triples.main.body.getD i (.Pass ⟨0, 0, 0, 0⟩)
def xs : List (Str × List Str) := [("NumberError", ["NumberError", "MadeError", "ValueError", "Exception", "BaseException", "object"]), ("KindError", ["KindError", "MadeError", "ValueError", "Exception", "BaseException", "object"])]
def dc_LEAST : D := .int 7
def dc_MOST : D := .int (1000000000000000000000000000000000000000000000000000000000000)
def dc_RING_OF_27 : D := .tup [.tup [.int 1, .int 12, .int 13], .tup [.int 2, .int 5, .int 7], .tup [.int 3, .int 8, .int 11], .tup [.int 4, .int 6, .int 10]]
def dc_RING_OF_45 : D := .tup [.tup [.int 1, .int 11, .int 12], .tup [.int 2, .int 17, .int 19], .tup [.int 3, .int 20, .int 22], .tup [.int 4, .int 10, .int 14], .tup [.int 5, .int 8, .int 13], .tup [.int 6, .int 18, .int 21], .tup [.int 7, .int 9, .int 16]]
def tb_FAMILIES : List (Int × D) := [(1, .fn "_families_of_1"), (3, .fn "_families_of_3"), (7, .fn "_families_of_7"), (9, .fn "_families_of_9"), (13, .fn "_families_of_13"), (15, .fn "_families_of_15")]
def xf_number : List Str := ["NumberError"]
def xf_what : List Str := ["KindError"]
def xd_KindError : XD := xdOf (top 17)
theorem xb_KindError : PySem.MbX.XBi xd_KindError.u xd_KindError.as := PySem.MbX.xbi_one (by decide +kernel) (by decide +kernel) (by decide +kernel)
def xd_NumberError : XD := xdOf (top 2)
theorem xb_NumberError : PySem.MbX.XBi xd_NumberError.u xd_NumberError.as := PySem.MbX.xbi_one (by decide +kernel) (by decide +kernel) (by decide +kernel)
structure Mg (P : Program) (K : Fg) (mg : Str → Option Value) : Prop where
  f_ValueError : mg "ValueError" = none
  f_all : mg "all" = none
  f_bool : mg "bool" = none
  f_divmod : mg "divmod" = none
  f_int : mg "int" = none
  f_isinstance : mg "isinstance" = none
  f_len : mg "len" = none
  f_list : mg "list" = none
  f_min : mg "min" = none
  f_range : mg "range" = none
  f_sorted : mg "sorted" = none
  f_str : mg "str" = none
  f_sum : mg "sum" = none
  f_tuple : mg "tuple" = none
  c_LEAST : GC K mg "LEAST" dc_LEAST
  c_MOST : GC K mg "MOST" dc_MOST
  c_RING_OF_27 : GC K mg "RING_OF_27" dc_RING_OF_27
  c_RING_OF_45 : GC K mg "RING_OF_45" dc_RING_OF_45
  g_FAMILIES : mg "FAMILIES" = some (.ref (He.ga K "FAMILIES"))
  t_FAMILIES : TBF K "FAMILIES" (fun i => tb_FAMILIES.lookup i)
  gd__law_mixed : mg "_law_mixed" = some (.ref (He.ga K "_law_mixed"))
  gd__law_cells : mg "_law_cells" = some (.ref (He.ga K "_law_cells"))
  gd__law_size : mg "_law_size" = some (.ref (He.ga K "_law_size"))
  gd__law_spot : mg "_law_spot" = some (.ref (He.ga K "_law_spot"))
  gd__law_near : mg "_law_near" = some (.ref (He.ga K "_law_near"))
  gd__law_others : mg "_law_others" = some (.ref (He.ga K "_law_others"))
  gd__law_table : mg "_law_table" = some (.ref (He.ga K "_law_table"))
  gd__law_triple : mg "_law_triple" = some (.ref (He.ga K "_law_triple"))
  gd_look_number : mg "look_number" = some (.ref (He.ga K "look_number"))
  gd__alone : mg "_alone" = some (.ref (He.ga K "_alone"))
  gd__families_of_1 : mg "_families_of_1" = some (.ref (He.ga K "_families_of_1"))
  gd__families_of_3 : mg "_families_of_3" = some (.ref (He.ga K "_families_of_3"))
  gd__families_of_7 : mg "_families_of_7" = some (.ref (He.ga K "_families_of_7"))
  gd__families_of_9 : mg "_families_of_9" = some (.ref (He.ga K "_families_of_9"))
  gd__families_of_13 : mg "_families_of_13" = some (.ref (He.ga K "_families_of_13"))
  gd__families_of_15 : mg "_families_of_15" = some (.ref (He.ga K "_families_of_15"))
  gd_found_triple : mg "found_triple" = some (.ref (He.ga K "found_triple"))
  gd_is_ring : mg "is_ring" = some (.ref (He.ga K "is_ring"))
  gd_difference_triple : mg "difference_triple" = some (.ref (He.ga K "difference_triple"))
  gd__law_alone : mg "_law_alone" = some (.ref (He.ga K "_law_alone"))
  gd__law_error : mg "_law_error" = some (.ref (He.ga K "_law_error"))
  gd__law_ask : mg "_law_ask" = some (.ref (He.ga K "_law_ask"))
  gd__law_like : mg "_law_like" = some (.ref (He.ga K "_law_like"))
  gd__law_family : mg "_law_family" = some (.ref (He.ga K "_law_family"))
  gd__law_find : mg "_law_find" = some (.ref (He.ga K "_law_find"))
  gd__law_every : mg "_law_every" = some (.ref (He.ga K "_law_every"))
  gd__law_wanted : mg "_law_wanted" = some (.ref (He.ga K "_law_wanted"))
  gd_law : mg "law" = some (.ref (He.ga K "law"))
  gc_BareError : mg "BareError" = some (.ref (He.ga K "BareError"))
  gc_Barred : mg "Barred" = some (.ref (He.ga K "Barred"))
  gc_ColumnError : mg "ColumnError" = some (.ref (He.ga K "ColumnError"))
  gc_CommandError : mg "CommandError" = some (.ref (He.ga K "CommandError"))
  gc_DaysError : mg "DaysError" = some (.ref (He.ga K "DaysError"))
  gc_KindError : mg "KindError" = some (.ref (He.ga K "KindError"))
  gc_MadeError : mg "MadeError" = some (.ref (He.ga K "MadeError"))
  gc_MakingError : mg "MakingError" = some (.ref (He.ga K "MakingError"))
  gc_MatesError : mg "MatesError" = some (.ref (He.ga K "MatesError"))
  gc_NoField : mg "NoField" = some (.ref (He.ga K "NoField"))
  gc_NoInverse : mg "NoInverse" = some (.ref (He.ga K "NoInverse"))
  gc_NoPrime : mg "NoPrime" = some (.ref (He.ga K "NoPrime"))
  gc_NotSubgroup : mg "NotSubgroup" = some (.ref (He.ga K "NotSubgroup"))
  gc_NothingKept : mg "NothingKept" = some (.ref (He.ga K "NothingKept"))
  gc_NothingToRedo : mg "NothingToRedo" = some (.ref (He.ga K "NothingToRedo"))
  gc_NothingToUndo : mg "NothingToUndo" = some (.ref (He.ga K "NothingToUndo"))
  gc_NumberError : mg "NumberError" = some (.ref (He.ga K "NumberError"))
  gc_OpenError : mg "OpenError" = some (.ref (He.ga K "OpenError"))
  gc_PartError : mg "PartError" = some (.ref (He.ga K "PartError"))
  gc_PlaceError : mg "PlaceError" = some (.ref (He.ga K "PlaceError"))
  gc_RowError : mg "RowError" = some (.ref (He.ga K "RowError"))
  gc_SameError : mg "SameError" = some (.ref (He.ga K "SameError"))
  gc_SizeError : mg "SizeError" = some (.ref (He.ga K "SizeError"))
  gc_TermError : mg "TermError" = some (.ref (He.ga K "TermError"))
  gc_TextError : mg "TextError" = some (.ref (He.ga K "TextError"))
  gc_TooLarge : mg "TooLarge" = some (.ref (He.ga K "TooLarge"))
  gc_TradeError : mg "TradeError" = some (.ref (He.ga K "TradeError"))
  gc_UnlikeError : mg "UnlikeError" = some (.ref (He.ga K "UnlikeError"))
  gc_WishError : mg "WishError" = some (.ref (He.ga K "WishError"))
  ec : (xs.all fun p => excCB K (He.ga K p.1)) = true
  is_BareError : ISF K (isX xs "BareError") (.ref (He.ga K "BareError"))
  is_Barred : ISF K (isX xs "Barred") (.ref (He.ga K "Barred"))
  is_ColumnError : ISF K (isX xs "ColumnError") (.ref (He.ga K "ColumnError"))
  is_CommandError : ISF K (isX xs "CommandError") (.ref (He.ga K "CommandError"))
  is_DaysError : ISF K (isX xs "DaysError") (.ref (He.ga K "DaysError"))
  is_KindError : ISF K (isX xs "KindError") (.ref (He.ga K "KindError"))
  is_MakingError : ISF K (isX xs "MakingError") (.ref (He.ga K "MakingError"))
  is_MatesError : ISF K (isX xs "MatesError") (.ref (He.ga K "MatesError"))
  is_NoField : ISF K (isX xs "NoField") (.ref (He.ga K "NoField"))
  is_NoInverse : ISF K (isX xs "NoInverse") (.ref (He.ga K "NoInverse"))
  is_NoPrime : ISF K (isX xs "NoPrime") (.ref (He.ga K "NoPrime"))
  is_NotSubgroup : ISF K (isX xs "NotSubgroup") (.ref (He.ga K "NotSubgroup"))
  is_NothingKept : ISF K (isX xs "NothingKept") (.ref (He.ga K "NothingKept"))
  is_NothingToRedo : ISF K (isX xs "NothingToRedo") (.ref (He.ga K "NothingToRedo"))
  is_NothingToUndo : ISF K (isX xs "NothingToUndo") (.ref (He.ga K "NothingToUndo"))
  is_NumberError : ISF K (isX xs "NumberError") (.ref (He.ga K "NumberError"))
  is_OpenError : ISF K (isX xs "OpenError") (.ref (He.ga K "OpenError"))
  is_PartError : ISF K (isX xs "PartError") (.ref (He.ga K "PartError"))
  is_PlaceError : ISF K (isX xs "PlaceError") (.ref (He.ga K "PlaceError"))
  is_RowError : ISF K (isX xs "RowError") (.ref (He.ga K "RowError"))
  is_SameError : ISF K (isX xs "SameError") (.ref (He.ga K "SameError"))
  is_SizeError : ISF K (isX xs "SizeError") (.ref (He.ga K "SizeError"))
  is_TermError : ISF K (isX xs "TermError") (.ref (He.ga K "TermError"))
  is_TextError : ISF K (isX xs "TextError") (.ref (He.ga K "TextError"))
  is_TooLarge : ISF K (isX xs "TooLarge") (.ref (He.ga K "TooLarge"))
  is_TradeError : ISF K (isX xs "TradeError") (.ref (He.ga K "TradeError"))
  is_UnlikeError : ISF K (isX xs "UnlikeError") (.ref (He.ga K "UnlikeError"))
  is_WishError : ISF K (isX xs "WishError") (.ref (He.ga K "WishError"))
  isb_ValueError : ISF K (isX xs "ValueError") (.type "ValueError")
  te_MadeError : TEF K (isX xs "MadeError") (.ref (He.ga K "MadeError"))
  xf_number : XFF K "number" xf_number
  xf_what : XFF K "what" xf_what
  x_KindError : PySem.MbX.XT P K mg "KindError" (He.ga K "KindError") (xd_KindError.fI K) (xd_KindError.cc K) xd_KindError.u xd_KindError.as
  x_NumberError : PySem.MbX.XT P K mg "NumberError" (He.ga K "NumberError") (xd_NumberError.fI K) (xd_NumberError.cc K) xd_NumberError.u xd_NumberError.as
section
variable {P : Program} {w : World} {K : Fg} {mg : Str → Option Value} {base : Heap} {k : Nat}
/-! ### _law_mixed -/
abbrev N__law_mixed : List Str := ["total", "place", "first", "second"]
theorem nd__law_mixed : N__law_mixed.Nodup := by decide +kernel
theorem sc__law_mixed : FnScope N__law_mixed ["total", "place"] (defScope (top 49)) := ⟨rfl, rfl, rfl, nd__law_mixed, rfl, by decide +kernel, by decide +kernel⟩
def b__law_mixed : SX := (sSeq (sSet 2 (eB modD (eCall intD [(eB addD (eB addD (eB mulD (eVar 0) (eC (.int 48271))) (eB mulD (eVar 1) (eC (.int 69621)))) (eC (.int 12345)))]) (eC (.int 2147483647))))
  (sSeq (sSet 3 (eB modD (eCall intD [(eB addD (eB addD (eB mulD (eVar 2) (eVar 2)) (eB mulD (eVar 1) (eC (.int 40692)))) (eC (.int 777)))]) (eC (.int 2147483399))))
  (sRet (eB modD (eCall intD [(eB addD (eB mulD (eVar 3) (eVar 3)) (eVar 2))]) (eC (.int 2147483629))))))
def m__law_mixed : Fn := runS b__law_mixed 4
theorem bd__law_mixed (M : Mg P K mg) : Body P w K mg base k N__law_mixed "_law_mixed" (defScope (top 49)) (defBody (top 49)) b__law_mixed := fun f cd A outer s H E hr =>
  (p_cons (p_set (i := 2) nd__law_mixed rfl (by first | exact .inl rfl | exact .inr rfl) (r_bin op_modN s_mod (r_callTy call_int1 s_int M.f_int (by decide +kernel) (a_cons (r_bin o_add s_add (r_bin o_add s_add (r_bin o_mul s_mul (r_var 0) r_int) (r_bin o_mul s_mul (r_var 1) r_int)) r_int) a_nil)) r_int))
  (p_cons (p_set (i := 3) nd__law_mixed rfl (by first | exact .inl rfl | exact .inr rfl) (r_bin op_modN s_mod (r_callTy call_int1 s_int M.f_int (by decide +kernel) (a_cons (r_bin o_add s_add (r_bin o_add s_add (r_bin o_mul s_mul (r_var 2) (r_var 2)) (r_bin o_mul s_mul (r_var 1) r_int)) r_int) a_nil)) r_int))
  (p_one (p_ret (r_bin op_modN s_mod (r_callTy call_int1 s_int M.f_int (by decide +kernel) (a_cons (r_bin o_add s_add (r_bin o_mul s_mul (r_var 3) (r_var 3)) (r_var 2)) a_nil)) r_int)))))
/-! ### _law_cells -/
abbrev N__law_cells : List Str := ["script", "cells", "total", "k"]
theorem nd__law_cells : N__law_cells.Nodup := by decide +kernel
theorem sc__law_cells : FnScope N__law_cells ["script"] (defScope (top 50)) := ⟨rfl, rfl, rfl, nd__law_cells, rfl, by decide +kernel, by decide +kernel⟩
def b__law_cells : SX := (sSeq (sSet 1 (eCall listD [(eSl (eVar 0) none (some (eC (.int 63))))]))
  (sSeq (sSet 2 (eCall sumD [(eComp (iR1 (eCall lenD [(eVar 1)])) (bNm 3) (eC (.bl true)) (eB mulD (eB addD (eVar 3) (eC (.int 1))) (eB ixD (eVar 1) (eVar 3))) [3])]))
  (sRet (eB addD (eVar 1) (eComp (iR2 (eCall lenD [(eVar 1)]) (eC (.int 63))) (bNm 3) (eC (.bl true)) (eFn m__law_mixed [(eVar 2), (eVar 3)]) [3])))))
def m__law_cells : Fn := runS b__law_cells 4
theorem bd__law_cells (M : Mg P K mg) (D__law_mixed : Df P w K mg base k "_law_mixed" 2 m__law_mixed) : Body P w K mg base k N__law_cells "_law_cells" (defScope (top 50)) (defBody (top 50)) b__law_cells := fun f cd A outer s H E hr =>
  (p_cons (p_set (i := 1) nd__law_cells rfl (by first | exact .inl rfl | exact .inr rfl) (r_callTy call_list_of s_list M.f_list (by decide +kernel) (a_cons (r_sl (r_var 0) .none (.some r_int)) a_nil)))
  (p_cons (p_set (i := 2) nd__law_cells rfl (by first | exact .inl rfl | exact .inr rfl) (r_callB (cr_sum rfl) s_sum M.f_sum (by decide +kernel) (a_cons (r_comp (own := [("k", 3)]) rfl nd__law_cells (pi_range1 rfl M.f_range (pa_cons (r_callB call_len s_len M.f_len (by decide +kernel) (a_cons (r_var 1) a_nil)) pa_nil)) ri_r1 rfl (fun s0 H0 C0 cl0 fp0 => (g_nm (i := 3) nd__law_cells rfl (by first | exact .inl rfl | exact .inr rfl))) (fun s0 H0 C0 cl0 fp0 => c_nil) (fun s0 H0 C0 cl0 fp0 => (r_bin o_mul s_mul (r_bin o_add s_add (r_var 3) r_int) (r_ix (r_var 1) (r_var 3))))) a_nil)))
  (p_one (p_ret (r_bin o_add s_add (r_var 1) (r_comp (own := [("k", 3)]) rfl nd__law_cells (pi_range2 rfl M.f_range (pa_cons (r_callB call_len s_len M.f_len (by decide +kernel) (a_cons (r_var 1) a_nil)) (pa_cons r_int pa_nil))) ri_r2 rfl (fun s0 H0 C0 cl0 fp0 => (g_nm (i := 3) nd__law_cells rfl (by first | exact .inl rfl | exact .inr rfl))) (fun s0 H0 C0 cl0 fp0 => c_nil) (fun s0 H0 C0 cl0 fp0 => (r_fn D__law_mixed hr tk0 (a_cons (r_var 2) (a_cons (r_var 3) a_nil))))))))))
/-! ### _law_size -/
abbrev N__law_size : List Str := ["kind", "pick", "cell", "left", "least", "top", "s"]
theorem nd__law_size : N__law_size.Nodup := by decide +kernel
theorem sc__law_size : FnScope N__law_size ["kind", "pick", "cell"] (defScope (top 60)) := ⟨rfl, rfl, rfl, nd__law_size, rfl, by decide +kernel, by decide +kernel⟩
def b__law_size : SX := (sSeq (sSet 3 (eB ixD (eLst [(eC (.int 1)), (eC (.int 3)), (eC (.int 7)), (eC (.int 9)), (eC (.int 13)), (eC (.int 15))]) (eVar 0)))
  (sSeq (sSet 4 (eB ixD (eLst [(eC (.int 1)), (eC (.int 1)), (eC (.int 0)), (eC (.int 1)), (eC (.int 0)), (eC (.int 0))]) (eVar 0)))
  (sSeq (sSet 5 (eB fdivD (eB subD (eB powD (eC (.int 10)) (eC (.int 60))) (eC (.int 15))) (eC (.int 18))))
  (sSeq (sSet 1 (eB modD (eCall intD [(eVar 1)]) (eC (.int 16))))
  (sSeq (sSet 2 (eCall intD [(eVar 2)]))
  (sSeq (sSet 6 (eB addD (eVar 4) (eB modD (eVar 2) (eC (.int 7)))))
  (sSeq (sIf (eB eqD (eVar 1) (eC (.int 1)))
  (sSet 6 (eB addD (eVar 4) (eB modD (eVar 2) (eB powD (eC (.int 10)) (eC (.int 40)))))) sNil)
  (sSeq (sIf (eB eqD (eVar 1) (eC (.int 5)))
  (sSet 6 (eB subD (eVar 5) (eB modD (eVar 2) (eC (.int 1000))))) sNil)
  (sSeq (sIf (eB eqD (eVar 1) (eC (.int 9)))
  (sSet 6 (eB addD (eB powD (eC (.int 10)) (eC (.int 38))) (eB modD (eVar 2) (eB powD (eC (.int 10)) (eC (.int 38)))))) sNil)
  (sSeq (sIf (eB eqD (eVar 1) (eC (.int 13)))
  (sSet 6 (eB addD (eVar 4) (eB modD (eVar 2) (eVar 5)))) sNil)
  (sRet (eB addD (eB mulD (eC (.int 18)) (eVar 6)) (eVar 3)))))))))))))
def m__law_size : Fn := runS b__law_size 7
theorem bd__law_size (M : Mg P K mg) : Body P w K mg base k N__law_size "_law_size" (defScope (top 60)) (defBody (top 60)) b__law_size := fun f cd A outer s H E hr =>
  (p_cons (p_set (i := 3) nd__law_size rfl (by first | exact .inl rfl | exact .inr rfl) (r_ix (r_lst (a_cons r_int (a_cons r_int (a_cons r_int (a_cons r_int (a_cons r_int (a_cons r_int a_nil))))))) (r_var 0)))
  (p_cons (p_set (i := 4) nd__law_size rfl (by first | exact .inl rfl | exact .inr rfl) (r_ix (r_lst (a_cons r_int (a_cons r_int (a_cons r_int (a_cons r_int (a_cons r_int (a_cons r_int a_nil))))))) (r_var 0)))
  (p_cons (p_set (i := 5) nd__law_size rfl (by first | exact .inl rfl | exact .inr rfl) (r_bin o_fdiv s_fdiv (r_bin op_sub s_sub (r_bin op_pow s_pow r_int r_int) r_int) r_int))
  (p_cons (p_set (i := 1) nd__law_size rfl (by first | exact .inl rfl | exact .inr rfl) (r_bin op_modN s_mod (r_callTy call_int1 s_int M.f_int (by decide +kernel) (a_cons (r_var 1) a_nil)) r_int))
  (p_cons (p_set (i := 2) nd__law_size rfl (by first | exact .inl rfl | exact .inr rfl) (r_callTy call_int1 s_int M.f_int (by decide +kernel) (a_cons (r_var 2) a_nil)))
  (p_cons (p_set (i := 6) nd__law_size rfl (by first | exact .inl rfl | exact .inr rfl) (r_bin o_add s_add (r_var 4) (r_bin op_modN s_mod (r_var 2) r_int)))
  (p_cons (p_if (r_cmpT (o_eq hr.units) s_eq b_eq (r_var 1) r_int rfl)
  (p_one (p_set (i := 6) nd__law_size rfl (by first | exact .inl rfl | exact .inr rfl) (r_bin o_add s_add (r_var 4) (r_bin op_modN s_mod (r_var 2) (r_bin op_pow s_pow r_int r_int))))) p_nil)
  (p_cons (p_if (r_cmpT (o_eq hr.units) s_eq b_eq (r_var 1) r_int rfl)
  (p_one (p_set (i := 6) nd__law_size rfl (by first | exact .inl rfl | exact .inr rfl) (r_bin op_sub s_sub (r_var 5) (r_bin op_modN s_mod (r_var 2) r_int)))) p_nil)
  (p_cons (p_if (r_cmpT (o_eq hr.units) s_eq b_eq (r_var 1) r_int rfl)
  (p_one (p_set (i := 6) nd__law_size rfl (by first | exact .inl rfl | exact .inr rfl) (r_bin o_add s_add (r_bin op_pow s_pow r_int r_int) (r_bin op_modN s_mod (r_var 2) (r_bin op_pow s_pow r_int r_int))))) p_nil)
  (p_cons (p_if (r_cmpT (o_eq hr.units) s_eq b_eq (r_var 1) r_int rfl)
  (p_one (p_set (i := 6) nd__law_size rfl (by first | exact .inl rfl | exact .inr rfl) (r_bin o_add s_add (r_var 4) (r_bin op_modN s_mod (r_var 2) (r_var 5))))) p_nil)
  (p_one (p_ret (r_bin o_add s_add (r_bin o_mul s_mul r_int (r_var 6)) (r_var 3))))))))))))))
/-! ### _law_spot -/
abbrev N__law_spot : List Str := ["cell", "many", "starts"]
theorem nd__law_spot : N__law_spot.Nodup := by decide +kernel
theorem sc__law_spot : FnScope N__law_spot ["cell", "many"] (defScope (top 51)) := ⟨rfl, rfl, rfl, nd__law_spot, rfl, by decide +kernel, by decide +kernel⟩
def b__law_spot : SX := (sSeq (sSet 2 (eLst [(eB subD (eVar 1) (eC (.int 1))), (eC (.int 0)), (eB fdivD (eVar 1) (eC (.int 2))), (eB mulD (eB fdivD (eVar 1) (eC (.int 3))) (eC (.int 2))), (eB mulD (eB fdivD (eVar 1) (eC (.int 7))) (eC (.int 5)))]))
  (sRet (eB modD (eCall intD [(eB addD (eB ixD (eVar 2) (eB modD (eCall intD [(eVar 0)]) (eC (.int 5)))) (eB fdivD (eCall intD [(eVar 0)]) (eC (.int 5))))]) (eVar 1))))
def m__law_spot : Fn := runS b__law_spot 3
theorem bd__law_spot (M : Mg P K mg) : Body P w K mg base k N__law_spot "_law_spot" (defScope (top 51)) (defBody (top 51)) b__law_spot := fun f cd A outer s H E hr =>
  (p_cons (p_set (i := 2) nd__law_spot rfl (by first | exact .inl rfl | exact .inr rfl) (r_lst (a_cons (r_bin op_sub s_sub (r_var 1) r_int) (a_cons r_int (a_cons (r_bin o_fdiv s_fdiv (r_var 1) r_int) (a_cons (r_bin o_mul s_mul (r_bin o_fdiv s_fdiv (r_var 1) r_int) r_int) (a_cons (r_bin o_mul s_mul (r_bin o_fdiv s_fdiv (r_var 1) r_int) r_int) a_nil)))))))
  (p_one (p_ret (r_bin op_modN s_mod (r_callTy call_int1 s_int M.f_int (by decide +kernel) (a_cons (r_bin o_add s_add (r_ix (r_var 2) (r_bin op_modN s_mod (r_callTy call_int1 s_int M.f_int (by decide +kernel) (a_cons (r_var 0) a_nil)) r_int)) (r_bin o_fdiv s_fdiv (r_callTy call_int1 s_int M.f_int (by decide +kernel) (a_cons (r_var 0) a_nil)) r_int)) a_nil)) (r_var 1)))))
/-! ### _law_near -/
abbrev N__law_near : List Str := ["v", "c", "half", "out", "cell"]
theorem nd__law_near : N__law_near.Nodup := by decide +kernel
theorem sc__law_near : FnScope N__law_near ["v", "c"] (defScope (top 63)) := ⟨rfl, rfl, rfl, nd__law_near, rfl, by decide +kernel, by decide +kernel⟩
def b__law_near : SX := (sSeq (sSet 2 (eB fdivD (eB subD (eVar 0) (eC (.int 1))) (eC (.int 2))))
  (sSeq (sSet 3 (eLst [(eTup [(eVar 0), (eVar 2)]), (eTup [(eVar 0), (eB addD (eVar 2) (eC (.int 1)))]), (eTup [(eVar 0), (eC (.int 0))]), (eTup [(eVar 0), (eB fdivD (eVar 0) (eC (.int 3)))]), (eTup [(e1 negD (eVar 0)), (eC (.int 1))])]))
  (sSeq (sSet 3 (eB addD (eVar 3) (eComp (iV seqI (eSl (eVar 1) (some (eC (.int 15))) (some (eC (.int 19))))) (bNm 4) (eC (.bl true)) (eTup [(eVar 0), (eB addD (eC (.int 1)) (eFn m__law_spot [(eVar 4), (eVar 2)]))]) [4])))
  (sRet (eB addD (eVar 3) (eLst [(eTup [(eVar 0), (eB subD (e1 negD (eC (.int 1))) (eB modD (eCall intD [(eB ixD (eVar 1) (eC (.int 19)))]) (eC (.int 1000))))]), (eTup [(eVar 0), (eB addD (eB addD (eVar 2) (eC (.int 1))) (eB modD (eCall intD [(eB ixD (eVar 1) (eC (.int 20)))]) (eC (.int 1000))))])]))))))
def m__law_near : Fn := runS b__law_near 5
theorem bd__law_near (M : Mg P K mg) (D__law_spot : Df P w K mg base k "_law_spot" 2 m__law_spot) : Body P w K mg base k N__law_near "_law_near" (defScope (top 63)) (defBody (top 63)) b__law_near := fun f cd A outer s H E hr =>
  (p_cons (p_set (i := 2) nd__law_near rfl (by first | exact .inl rfl | exact .inr rfl) (r_bin o_fdiv s_fdiv (r_bin op_sub s_sub (r_var 0) r_int) r_int))
  (p_cons (p_set (i := 3) nd__law_near rfl (by first | exact .inl rfl | exact .inr rfl) (r_lst (a_cons (r_tup (a_cons (r_var 0) (a_cons (r_var 2) a_nil))) (a_cons (r_tup (a_cons (r_var 0) (a_cons (r_bin o_add s_add (r_var 2) r_int) a_nil))) (a_cons (r_tup (a_cons (r_var 0) (a_cons r_int a_nil))) (a_cons (r_tup (a_cons (r_var 0) (a_cons (r_bin o_fdiv s_fdiv (r_var 0) r_int) a_nil))) (a_cons (r_tup (a_cons (r_un un_neg s_neg (r_var 0)) (a_cons r_int a_nil))) a_nil)))))))
  (p_cons (p_set (i := 3) nd__law_near rfl (by first | exact .inl rfl | exact .inr rfl) (r_bin o_add s_add (r_var 3) (r_comp (own := [("cell", 4)]) rfl nd__law_near (pi_seq (r_sl (r_var 1) (.some r_int) (.some r_int))) ri_seq rfl (fun s0 H0 C0 cl0 fp0 => (g_nm (i := 4) nd__law_near rfl (by first | exact .inl rfl | exact .inr rfl))) (fun s0 H0 C0 cl0 fp0 => c_nil) (fun s0 H0 C0 cl0 fp0 => (r_tup (a_cons (r_var 0) (a_cons (r_bin o_add s_add r_int (r_fn D__law_spot hr tk0 (a_cons (r_var 4) (a_cons (r_var 2) a_nil)))) a_nil)))))))
  (p_one (p_ret (r_bin o_add s_add (r_var 3) (r_lst (a_cons (r_tup (a_cons (r_var 0) (a_cons (r_bin op_sub s_sub (r_un un_neg s_neg r_int) (r_bin op_modN s_mod (r_callTy call_int1 s_int M.f_int (by decide +kernel) (a_cons (r_ix (r_var 1) r_int) a_nil)) r_int)) a_nil))) (a_cons (r_tup (a_cons (r_var 0) (a_cons (r_bin o_add s_add (r_bin o_add s_add (r_var 2) r_int) (r_bin op_modN s_mod (r_callTy call_int1 s_int M.f_int (by decide +kernel) (a_cons (r_ix (r_var 1) r_int) a_nil)) r_int)) a_nil))) a_nil)))))))))
/-! ### _law_others -/
abbrev N__law_others : List Str := ["c", "w", "x", "d", "out"]
theorem nd__law_others : N__law_others.Nodup := by decide +kernel
theorem sc__law_others : FnScope N__law_others ["c"] (defScope (top 64)) := ⟨rfl, rfl, rfl, nd__law_others, rfl, by decide +kernel, by decide +kernel⟩
def b__law_others : SX := (sSeq (sSet 1 (eB addD (eC (.int 5)) (eB modD (eCall intD [(eB ixD (eVar 0) (eC (.int 21)))]) (eC (.int 60)))))
  (sSeq (sSet 2 (eB subD (eB powD (eC (.int 10)) (eC (.int 60))) (eB modD (eCall intD [(eB ixD (eVar 0) (eC (.int 22)))]) (eB powD (eC (.int 10)) (eC (.int 30))))))
  (sSeq (sSet 3 (eB addD (eC (.int 1)) (eFn m__law_spot [(eB ixD (eVar 0) (eC (.int 24))), (eB powD (eC (.int 10)) (eC (.int 58)))])))
  (sSeq (sSet 4 (eLst [(eTup [(eVar 1), (eB modD (eCall intD [(eB ixD (eVar 0) (eC (.int 23)))]) (eC (.int 36)))]), (eTup [(eVar 1), (eC (.int 1))]), (eTup [(eVar 2), (eC (.int 0))]), (eTup [(eVar 2), (eVar 3)])]))
  (sSeq (sSet 4 (eB addD (eVar 4) (eLst [(eTup [(eC (.int 9)), (eC (.int 3))]), (eTup [(eC (.int 9)), (eC (.int 1))]), (eTup [(eC (.int 9)), (eC (.int 5))]), (eTup [(eC (.int 8)), (eC (.int 9))]), (eTup [(eC (.int 8)), (eC (.int 3))]), (eTup [(eC (.int 6)), (e1 negD (eC (.int 5)))]), (eTup [(eC (.int 7)), (eC (.int 0))]), (eTup [(eC (.int 7)), (eC (.int 3))]), (eTup [(eC (.int 7)), (eC (.int 4))])])))
  (sRet (eB addD (eVar 4) (eLst [(eTup [(eC (.int 15)), (eC (.int 5))]), (eTup [(eC (.int 15)), (eC (.int 6))]), (eTup [(eC (.int 21)), (eC (.int 7))]), (eTup [(eB powD (eC (.int 10)) (eC (.int 60))), (eC (.int 1))]), (eTup [(eC (.int 12)), (eC (.int 4))]), (eTup [(eC (.int 11)), (eC (.int 2))])]))))))))
def m__law_others : Fn := runS b__law_others 5
theorem bd__law_others (M : Mg P K mg) (D__law_spot : Df P w K mg base k "_law_spot" 2 m__law_spot) : Body P w K mg base k N__law_others "_law_others" (defScope (top 64)) (defBody (top 64)) b__law_others := fun f cd A outer s H E hr =>
  (p_cons (p_set (i := 1) nd__law_others rfl (by first | exact .inl rfl | exact .inr rfl) (r_bin o_add s_add r_int (r_bin op_modN s_mod (r_callTy call_int1 s_int M.f_int (by decide +kernel) (a_cons (r_ix (r_var 0) r_int) a_nil)) r_int)))
  (p_cons (p_set (i := 2) nd__law_others rfl (by first | exact .inl rfl | exact .inr rfl) (r_bin op_sub s_sub (r_bin op_pow s_pow r_int r_int) (r_bin op_modN s_mod (r_callTy call_int1 s_int M.f_int (by decide +kernel) (a_cons (r_ix (r_var 0) r_int) a_nil)) (r_bin op_pow s_pow r_int r_int))))
  (p_cons (p_set (i := 3) nd__law_others rfl (by first | exact .inl rfl | exact .inr rfl) (r_bin o_add s_add r_int (r_fn D__law_spot hr tk_cx (a_cons (r_ix (r_var 0) r_int) (a_cons (r_bin op_pow s_pow r_int r_int) a_nil)))))
  (p_cons (p_set (i := 4) nd__law_others rfl (by first | exact .inl rfl | exact .inr rfl) (r_lst (a_cons (r_tup (a_cons (r_var 1) (a_cons (r_bin op_modN s_mod (r_callTy call_int1 s_int M.f_int (by decide +kernel) (a_cons (r_ix (r_var 0) r_int) a_nil)) r_int) a_nil))) (a_cons (r_tup (a_cons (r_var 1) (a_cons r_int a_nil))) (a_cons (r_tup (a_cons (r_var 2) (a_cons r_int a_nil))) (a_cons (r_tup (a_cons (r_var 2) (a_cons (r_var 3) a_nil))) a_nil))))))
  (p_cons (p_set (i := 4) nd__law_others rfl (by first | exact .inl rfl | exact .inr rfl) (r_bin o_add s_add (r_var 4) (r_lst (a_cons (r_tup (a_cons r_int (a_cons r_int a_nil))) (a_cons (r_tup (a_cons r_int (a_cons r_int a_nil))) (a_cons (r_tup (a_cons r_int (a_cons r_int a_nil))) (a_cons (r_tup (a_cons r_int (a_cons r_int a_nil))) (a_cons (r_tup (a_cons r_int (a_cons r_int a_nil))) (a_cons (r_tup (a_cons r_int (a_cons (r_un un_neg s_neg r_int) a_nil))) (a_cons (r_tup (a_cons r_int (a_cons r_int a_nil))) (a_cons (r_tup (a_cons r_int (a_cons r_int a_nil))) (a_cons (r_tup (a_cons r_int (a_cons r_int a_nil))) a_nil))))))))))))
  (p_one (p_ret (r_bin o_add s_add (r_var 4) (r_lst (a_cons (r_tup (a_cons r_int (a_cons r_int a_nil))) (a_cons (r_tup (a_cons r_int (a_cons r_int a_nil))) (a_cons (r_tup (a_cons r_int (a_cons r_int a_nil))) (a_cons (r_tup (a_cons (r_bin op_pow s_pow r_int r_int) (a_cons r_int a_nil))) (a_cons (r_tup (a_cons r_int (a_cons r_int a_nil))) (a_cons (r_tup (a_cons r_int (a_cons r_int a_nil))) a_nil)))))))))))))))
/-! ### _law_table -/
abbrev N__law_table : List Str := ["v", "rows", "row"]
theorem nd__law_table : N__law_table.Nodup := by decide +kernel
theorem sc__law_table : FnScope N__law_table ["v"] (defScope (top 56)) := ⟨rfl, rfl, rfl, nd__law_table, rfl, by decide +kernel, by decide +kernel⟩
def b__law_table : SX := (sSeq (sIf (eB eqD (eB modD (eVar 0) (eC (.int 18))) (eC (.int 1)))
  (sRet (eLst [(eTup [(eC (.int 0)), (eC (.int 0)), (eC (.int 0)), (eC (.int 3)), (eC (.int 0)), (eC (.int 0)), (eC (.int 3)), (eC (.int 1)), (eC (.int 0)), (eC (.int 6)), (eC (.int 1))]), (eTup [(eC (.int 0)), (e1 negD (eC (.int 1))), (eC (.int 3)), (eC (.int 0)), (eC (.int 1)), (e1 negD (eC (.int 1))), (eC (.int 4)), (eC (.int 1)), (eC (.int 2)), (eC (.int 4)), (eC (.int 2))]), (eTup [(eC (.int 0)), (e1 negD (eC (.int 1))), (eC (.int 3)), (eC (.int 0)), (eC (.int 2)), (e1 negD (eC (.int 1))), (eC (.int 8)), (eC (.int 0)), (eC (.int 2)), (eC (.int 8)), (eC (.int 2))]), (eTup [(eC (.int 0)), (e1 negD (eC (.int 2))), (eC (.int 3)), (eC (.int 0)), (eC (.int 3)), (e1 negD (eC (.int 2))), (eC (.int 6)), (e1 negD (eC (.int 1))), (eC (.int 1)), (eC (.int 6)), (eC (.int 2))])])) sNil)
  (sSeq (sIf (eB eqD (eB modD (eVar 0) (eC (.int 18))) (eC (.int 3)))
  (sRet (eLst [(eTup [(eC (.int 0)), (e1 negD (eC (.int 1))), (eC (.int 3)), (eC (.int 0)), (eC (.int 1)), (e1 negD (eC (.int 1))), (eC (.int 8)), (eC (.int 1)), (eC (.int 2)), (eC (.int 8)), (eC (.int 2))]), (eTup [(eC (.int 0)), (e1 negD (eC (.int 1))), (eC (.int 3)), (eC (.int 0)), (eC (.int 2)), (e1 negD (eC (.int 1))), (eC (.int 4)), (eC (.int 0)), (eC (.int 2)), (eC (.int 4)), (eC (.int 2))]), (eTup [(eC (.int 0)), (e1 negD (eC (.int 1))), (eC (.int 3)), (eC (.int 0)), (eC (.int 3)), (e1 negD (eC (.int 2))), (eC (.int 6)), (e1 negD (eC (.int 1))), (eC (.int 1)), (eC (.int 6)), (eC (.int 2))])])) sNil)
  (sSeq (sIf (eB eqD (eB modD (eVar 0) (eC (.int 18))) (eC (.int 7)))
  (sRet (eLst [(eTup [(eC (.int 0)), (eC (.int 0)), (eC (.int 0)), (eC (.int 3)), (eC (.int 1)), (eC (.int 0)), (eC (.int 4)), (eC (.int 2)), (eC (.int 0)), (eC (.int 7)), (eC (.int 3))]), (eTup [(eC (.int 0)), (e1 negD (eC (.int 1))), (eC (.int 3)), (eC (.int 0)), (eC (.int 1)), (e1 negD (eC (.int 1))), (eC (.int 8)), (eC (.int 3)), (eC (.int 2)), (eC (.int 8)), (eC (.int 4))]), (eTup [(eC (.int 0)), (e1 negD (eC (.int 1))), (eC (.int 3)), (eC (.int 0)), (eC (.int 2)), (e1 negD (eC (.int 2))), (eC (.int 6)), (eC (.int 1)), (eC (.int 1)), (eC (.int 6)), (eC (.int 3))]), (eTup [(eC (.int 0)), (e1 negD (eC (.int 1))), (eC (.int 3)), (eC (.int 0)), (eC (.int 3)), (e1 negD (eC (.int 1))), (eC (.int 4)), (eC (.int 1)), (eC (.int 2)), (eC (.int 4)), (eC (.int 4))])])) sNil)
  (sSeq (sIf (eB eqD (eB modD (eVar 0) (eC (.int 18))) (eC (.int 13)))
  (sRet (eLst [(eTup [(eC (.int 0)), (eC (.int 0)), (eC (.int 0)), (eC (.int 3)), (eC (.int 2)), (eC (.int 0)), (eC (.int 7)), (eC (.int 5)), (eC (.int 0)), (eC (.int 8)), (eC (.int 6))]), (eTup [(eC (.int 0)), (e1 negD (eC (.int 1))), (eC (.int 3)), (eC (.int 0)), (eC (.int 2)), (e1 negD (eC (.int 2))), (eC (.int 6)), (eC (.int 3)), (eC (.int 1)), (eC (.int 6)), (eC (.int 5))]), (eTup [(eC (.int 0)), (e1 negD (eC (.int 1))), (eC (.int 3)), (eC (.int 0)), (eC (.int 3)), (e1 negD (eC (.int 1))), (eC (.int 8)), (eC (.int 5)), (eC (.int 2)), (eC (.int 8)), (eC (.int 8))]), (eTup [(eC (.int 0)), (eC (.int 0)), (eC (.int 3)), (eC (.int 0)), (eC (.int 1)), (e1 negD (eC (.int 1))), (eC (.int 4)), (eC (.int 3)), (eC (.int 2)), (eC (.int 4)), (eC (.int 4))])])) sNil)
  (sSeq (sIf (eB eqD (eB modD (eVar 0) (eC (.int 18))) (eC (.int 15)))
  (sRet (eLst [(eTup [(eC (.int 0)), (eC (.int 0)), (eC (.int 3)), (eC (.int 0)), (eC (.int 1)), (e1 negD (eC (.int 1))), (eC (.int 4)), (eC (.int 3)), (eC (.int 2)), (eC (.int 4)), (eC (.int 4))]), (eTup [(eC (.int 0)), (eC (.int 0)), (eC (.int 3)), (eC (.int 0)), (eC (.int 2)), (e1 negD (eC (.int 1))), (eC (.int 8)), (eC (.int 6)), (eC (.int 2)), (eC (.int 8)), (eC (.int 8))]), (eTup [(eC (.int 0)), (e1 negD (eC (.int 1))), (eC (.int 3)), (eC (.int 0)), (eC (.int 3)), (e1 negD (eC (.int 2))), (eC (.int 6)), (eC (.int 3)), (eC (.int 1)), (eC (.int 6)), (eC (.int 6))])])) sNil)
  (sSeq (sIf (eB eqD (eVar 0) (eC (.int 27)))
  (sSeq (sSet 1 (eLst [(eTup [(eC (.int 1)), (eC (.int 12)), (eC (.int 13))]), (eTup [(eC (.int 2)), (eC (.int 5)), (eC (.int 7))]), (eTup [(eC (.int 3)), (eC (.int 8)), (eC (.int 11))]), (eTup [(eC (.int 4)), (eC (.int 6)), (eC (.int 10))])]))
  (sRet (eComp (iV seqI (eVar 1)) (bNm 2) (eC (.bl true)) (eTup [(eC (.int 0)), (eC (.int 0)), (eC (.int 0)), (eC (.int 0)), (eB ixD (eVar 2) (eC (.int 0))), (eC (.int 0)), (eC (.int 0)), (eB ixD (eVar 2) (eC (.int 1))), (eC (.int 0)), (eC (.int 0)), (eB ixD (eVar 2) (eC (.int 2)))]) [2]))) sNil)
  (sSeq (sIf (eB eqD (eVar 0) (eC (.int 45)))
  (sSeq (sSet 1 (eLst [(eTup [(eC (.int 1)), (eC (.int 11)), (eC (.int 12))]), (eTup [(eC (.int 2)), (eC (.int 17)), (eC (.int 19))]), (eTup [(eC (.int 3)), (eC (.int 20)), (eC (.int 22))]), (eTup [(eC (.int 4)), (eC (.int 10)), (eC (.int 14))]), (eTup [(eC (.int 5)), (eC (.int 8)), (eC (.int 13))]), (eTup [(eC (.int 6)), (eC (.int 18)), (eC (.int 21))]), (eTup [(eC (.int 7)), (eC (.int 9)), (eC (.int 16))])]))
  (sRet (eComp (iV seqI (eVar 1)) (bNm 2) (eC (.bl true)) (eTup [(eC (.int 0)), (eC (.int 0)), (eC (.int 0)), (eC (.int 0)), (eB ixD (eVar 2) (eC (.int 0))), (eC (.int 0)), (eC (.int 0)), (eB ixD (eVar 2) (eC (.int 1))), (eC (.int 0)), (eC (.int 0)), (eB ixD (eVar 2) (eC (.int 2)))]) [2]))) sNil)
  (sRet (eLst [(eTup [(eC (.int 0)), (eC (.int 0)), (eC (.int 3)), (eC (.int 0)), (eC (.int 1)), (e1 negD (eC (.int 1))), (eC (.int 4)), (eC (.int 3)), (eC (.int 2)), (eC (.int 4)), (eC (.int 4))]), (eTup [(eC (.int 2)), (e1 negD (eC (.int 2))), (eC (.int 3)), (eC (.int 0)), (eC (.int 2)), (e1 negD (eC (.int 1))), (eC (.int 8)), (eC (.int 2)), (eC (.int 2)), (eC (.int 8)), (eC (.int 4))]), (eTup [(eC (.int 1)), (e1 negD (eC (.int 2))), (eC (.int 3)), (eC (.int 0)), (eC (.int 3)), (e1 negD (eC (.int 2))), (eC (.int 6)), (eC (.int 1)), (eC (.int 1)), (eC (.int 6)), (eC (.int 4))]), (eTup [(eC (.int 0)), (eC (.int 0)), (eC (.int 0)), (eC (.int 0)), (eC (.int 2)), (eC (.int 0)), (eC (.int 8)), (eC (.int 3)), (eC (.int 0)), (eC (.int 8)), (eC (.int 5))]), (eTup [(eC (.int 0)), (eC (.int 0)), (eC (.int 0)), (eC (.int 0)), (eC (.int 3)), (eC (.int 0)), (eC (.int 8)), (eC (.int 1)), (eC (.int 0)), (eC (.int 8)), (eC (.int 4))]), (eTup [(eC (.int 0)), (eC (.int 0)), (eC (.int 0)), (eC (.int 0)), (eC (.int 5)), (eC (.int 0)), (eC (.int 8)), (eC (.int 2)), (eC (.int 0)), (eC (.int 8)), (eC (.int 7))]), (eTup [(eC (.int 0)), (eC (.int 0)), (eC (.int 0)), (eC (.int 3)), (e1 negD (eC (.int 1))), (eC (.int 0)), (eC (.int 3)), (eC (.int 2)), (eC (.int 0)), (eC (.int 6)), (eC (.int 1))]), (eTup [(eC (.int 0)), (eC (.int 0)), (eC (.int 0)), (eC (.int 3)), (eC (.int 0)), (eC (.int 0)), (eC (.int 7)), (eC (.int 3)), (eC (.int 0)), (eC (.int 8)), (eC (.int 6))])])))))))))
def m__law_table : Fn := runS b__law_table 3
theorem bd__law_table (M : Mg P K mg) : Body P w K mg base k N__law_table "_law_table" (defScope (top 56)) (defBody (top 56)) b__law_table := fun f cd A outer s H E hr =>
  (p_cons (p_if (r_cmpT (o_eq hr.units) s_eq b_eq (r_bin op_modN s_mod (r_var 0) r_int) r_int rfl)
  (p_one (p_ret (r_lst (a_cons (r_tup (a_cons r_int (a_cons r_int (a_cons r_int (a_cons r_int (a_cons r_int (a_cons r_int (a_cons r_int (a_cons r_int (a_cons r_int (a_cons r_int (a_cons r_int a_nil)))))))))))) (a_cons (r_tup (a_cons r_int (a_cons (r_un un_neg s_neg r_int) (a_cons r_int (a_cons r_int (a_cons r_int (a_cons (r_un un_neg s_neg r_int) (a_cons r_int (a_cons r_int (a_cons r_int (a_cons r_int (a_cons r_int a_nil)))))))))))) (a_cons (r_tup (a_cons r_int (a_cons (r_un un_neg s_neg r_int) (a_cons r_int (a_cons r_int (a_cons r_int (a_cons (r_un un_neg s_neg r_int) (a_cons r_int (a_cons r_int (a_cons r_int (a_cons r_int (a_cons r_int a_nil)))))))))))) (a_cons (r_tup (a_cons r_int (a_cons (r_un un_neg s_neg r_int) (a_cons r_int (a_cons r_int (a_cons r_int (a_cons (r_un un_neg s_neg r_int) (a_cons r_int (a_cons (r_un un_neg s_neg r_int) (a_cons r_int (a_cons r_int (a_cons r_int a_nil)))))))))))) a_nil))))))) p_nil)
  (p_cons (p_if (r_cmpT (o_eq hr.units) s_eq b_eq (r_bin op_modN s_mod (r_var 0) r_int) r_int rfl)
  (p_one (p_ret (r_lst (a_cons (r_tup (a_cons r_int (a_cons (r_un un_neg s_neg r_int) (a_cons r_int (a_cons r_int (a_cons r_int (a_cons (r_un un_neg s_neg r_int) (a_cons r_int (a_cons r_int (a_cons r_int (a_cons r_int (a_cons r_int a_nil)))))))))))) (a_cons (r_tup (a_cons r_int (a_cons (r_un un_neg s_neg r_int) (a_cons r_int (a_cons r_int (a_cons r_int (a_cons (r_un un_neg s_neg r_int) (a_cons r_int (a_cons r_int (a_cons r_int (a_cons r_int (a_cons r_int a_nil)))))))))))) (a_cons (r_tup (a_cons r_int (a_cons (r_un un_neg s_neg r_int) (a_cons r_int (a_cons r_int (a_cons r_int (a_cons (r_un un_neg s_neg r_int) (a_cons r_int (a_cons (r_un un_neg s_neg r_int) (a_cons r_int (a_cons r_int (a_cons r_int a_nil)))))))))))) a_nil)))))) p_nil)
  (p_cons (p_if (r_cmpT (o_eq hr.units) s_eq b_eq (r_bin op_modN s_mod (r_var 0) r_int) r_int rfl)
  (p_one (p_ret (r_lst (a_cons (r_tup (a_cons r_int (a_cons r_int (a_cons r_int (a_cons r_int (a_cons r_int (a_cons r_int (a_cons r_int (a_cons r_int (a_cons r_int (a_cons r_int (a_cons r_int a_nil)))))))))))) (a_cons (r_tup (a_cons r_int (a_cons (r_un un_neg s_neg r_int) (a_cons r_int (a_cons r_int (a_cons r_int (a_cons (r_un un_neg s_neg r_int) (a_cons r_int (a_cons r_int (a_cons r_int (a_cons r_int (a_cons r_int a_nil)))))))))))) (a_cons (r_tup (a_cons r_int (a_cons (r_un un_neg s_neg r_int) (a_cons r_int (a_cons r_int (a_cons r_int (a_cons (r_un un_neg s_neg r_int) (a_cons r_int (a_cons r_int (a_cons r_int (a_cons r_int (a_cons r_int a_nil)))))))))))) (a_cons (r_tup (a_cons r_int (a_cons (r_un un_neg s_neg r_int) (a_cons r_int (a_cons r_int (a_cons r_int (a_cons (r_un un_neg s_neg r_int) (a_cons r_int (a_cons r_int (a_cons r_int (a_cons r_int (a_cons r_int a_nil)))))))))))) a_nil))))))) p_nil)
  (p_cons (p_if (r_cmpT (o_eq hr.units) s_eq b_eq (r_bin op_modN s_mod (r_var 0) r_int) r_int rfl)
  (p_one (p_ret (r_lst (a_cons (r_tup (a_cons r_int (a_cons r_int (a_cons r_int (a_cons r_int (a_cons r_int (a_cons r_int (a_cons r_int (a_cons r_int (a_cons r_int (a_cons r_int (a_cons r_int a_nil)))))))))))) (a_cons (r_tup (a_cons r_int (a_cons (r_un un_neg s_neg r_int) (a_cons r_int (a_cons r_int (a_cons r_int (a_cons (r_un un_neg s_neg r_int) (a_cons r_int (a_cons r_int (a_cons r_int (a_cons r_int (a_cons r_int a_nil)))))))))))) (a_cons (r_tup (a_cons r_int (a_cons (r_un un_neg s_neg r_int) (a_cons r_int (a_cons r_int (a_cons r_int (a_cons (r_un un_neg s_neg r_int) (a_cons r_int (a_cons r_int (a_cons r_int (a_cons r_int (a_cons r_int a_nil)))))))))))) (a_cons (r_tup (a_cons r_int (a_cons r_int (a_cons r_int (a_cons r_int (a_cons r_int (a_cons (r_un un_neg s_neg r_int) (a_cons r_int (a_cons r_int (a_cons r_int (a_cons r_int (a_cons r_int a_nil)))))))))))) a_nil))))))) p_nil)
  (p_cons (p_if (r_cmpT (o_eq hr.units) s_eq b_eq (r_bin op_modN s_mod (r_var 0) r_int) r_int rfl)
  (p_one (p_ret (r_lst (a_cons (r_tup (a_cons r_int (a_cons r_int (a_cons r_int (a_cons r_int (a_cons r_int (a_cons (r_un un_neg s_neg r_int) (a_cons r_int (a_cons r_int (a_cons r_int (a_cons r_int (a_cons r_int a_nil)))))))))))) (a_cons (r_tup (a_cons r_int (a_cons r_int (a_cons r_int (a_cons r_int (a_cons r_int (a_cons (r_un un_neg s_neg r_int) (a_cons r_int (a_cons r_int (a_cons r_int (a_cons r_int (a_cons r_int a_nil)))))))))))) (a_cons (r_tup (a_cons r_int (a_cons (r_un un_neg s_neg r_int) (a_cons r_int (a_cons r_int (a_cons r_int (a_cons (r_un un_neg s_neg r_int) (a_cons r_int (a_cons r_int (a_cons r_int (a_cons r_int (a_cons r_int a_nil)))))))))))) a_nil)))))) p_nil)
  (p_cons (p_if (r_cmpT (o_eq hr.units) s_eq b_eq (r_var 0) r_int rfl)
  (p_cons (p_set (i := 1) nd__law_table rfl (by first | exact .inl rfl | exact .inr rfl) (r_lst (a_cons (r_tup (a_cons r_int (a_cons r_int (a_cons r_int a_nil)))) (a_cons (r_tup (a_cons r_int (a_cons r_int (a_cons r_int a_nil)))) (a_cons (r_tup (a_cons r_int (a_cons r_int (a_cons r_int a_nil)))) (a_cons (r_tup (a_cons r_int (a_cons r_int (a_cons r_int a_nil)))) a_nil))))))
  (p_one (p_ret (r_comp (own := [("row", 2)]) rfl nd__law_table (pi_seq (r_var 1)) ri_seq rfl (fun s0 H0 C0 cl0 fp0 => (g_nm (i := 2) nd__law_table rfl (by first | exact .inl rfl | exact .inr rfl))) (fun s0 H0 C0 cl0 fp0 => c_nil) (fun s0 H0 C0 cl0 fp0 => (r_tup (a_cons r_int (a_cons r_int (a_cons r_int (a_cons r_int (a_cons (r_ix (r_var 2) r_int) (a_cons r_int (a_cons r_int (a_cons (r_ix (r_var 2) r_int) (a_cons r_int (a_cons r_int (a_cons (r_ix (r_var 2) r_int) a_nil))))))))))))))))) p_nil)
  (p_cons (p_if (r_cmpT (o_eq hr.units) s_eq b_eq (r_var 0) r_int rfl)
  (p_cons (p_set (i := 1) nd__law_table rfl (by first | exact .inl rfl | exact .inr rfl) (r_lst (a_cons (r_tup (a_cons r_int (a_cons r_int (a_cons r_int a_nil)))) (a_cons (r_tup (a_cons r_int (a_cons r_int (a_cons r_int a_nil)))) (a_cons (r_tup (a_cons r_int (a_cons r_int (a_cons r_int a_nil)))) (a_cons (r_tup (a_cons r_int (a_cons r_int (a_cons r_int a_nil)))) (a_cons (r_tup (a_cons r_int (a_cons r_int (a_cons r_int a_nil)))) (a_cons (r_tup (a_cons r_int (a_cons r_int (a_cons r_int a_nil)))) (a_cons (r_tup (a_cons r_int (a_cons r_int (a_cons r_int a_nil)))) a_nil)))))))))
  (p_one (p_ret (r_comp (own := [("row", 2)]) rfl nd__law_table (pi_seq (r_var 1)) ri_seq rfl (fun s0 H0 C0 cl0 fp0 => (g_nm (i := 2) nd__law_table rfl (by first | exact .inl rfl | exact .inr rfl))) (fun s0 H0 C0 cl0 fp0 => c_nil) (fun s0 H0 C0 cl0 fp0 => (r_tup (a_cons r_int (a_cons r_int (a_cons r_int (a_cons r_int (a_cons (r_ix (r_var 2) r_int) (a_cons r_int (a_cons r_int (a_cons (r_ix (r_var 2) r_int) (a_cons r_int (a_cons r_int (a_cons (r_ix (r_var 2) r_int) a_nil))))))))))))))))) p_nil)
  (p_one (p_ret (r_lst (a_cons (r_tup (a_cons r_int (a_cons r_int (a_cons r_int (a_cons r_int (a_cons r_int (a_cons (r_un un_neg s_neg r_int) (a_cons r_int (a_cons r_int (a_cons r_int (a_cons r_int (a_cons r_int a_nil)))))))))))) (a_cons (r_tup (a_cons r_int (a_cons (r_un un_neg s_neg r_int) (a_cons r_int (a_cons r_int (a_cons r_int (a_cons (r_un un_neg s_neg r_int) (a_cons r_int (a_cons r_int (a_cons r_int (a_cons r_int (a_cons r_int a_nil)))))))))))) (a_cons (r_tup (a_cons r_int (a_cons (r_un un_neg s_neg r_int) (a_cons r_int (a_cons r_int (a_cons r_int (a_cons (r_un un_neg s_neg r_int) (a_cons r_int (a_cons r_int (a_cons r_int (a_cons r_int (a_cons r_int a_nil)))))))))))) (a_cons (r_tup (a_cons r_int (a_cons r_int (a_cons r_int (a_cons r_int (a_cons r_int (a_cons r_int (a_cons r_int (a_cons r_int (a_cons r_int (a_cons r_int (a_cons r_int a_nil)))))))))))) (a_cons (r_tup (a_cons r_int (a_cons r_int (a_cons r_int (a_cons r_int (a_cons r_int (a_cons r_int (a_cons r_int (a_cons r_int (a_cons r_int (a_cons r_int (a_cons r_int a_nil)))))))))))) (a_cons (r_tup (a_cons r_int (a_cons r_int (a_cons r_int (a_cons r_int (a_cons r_int (a_cons r_int (a_cons r_int (a_cons r_int (a_cons r_int (a_cons r_int (a_cons r_int a_nil)))))))))))) (a_cons (r_tup (a_cons r_int (a_cons r_int (a_cons r_int (a_cons r_int (a_cons (r_un un_neg s_neg r_int) (a_cons r_int (a_cons r_int (a_cons r_int (a_cons r_int (a_cons r_int (a_cons r_int a_nil)))))))))))) (a_cons (r_tup (a_cons r_int (a_cons r_int (a_cons r_int (a_cons r_int (a_cons r_int (a_cons r_int (a_cons r_int (a_cons r_int (a_cons r_int (a_cons r_int (a_cons r_int a_nil)))))))))))) a_nil))))))))))))))))))
/-! ### _law_triple -/
abbrev N__law_triple : List Str := ["v", "row", "r", "s", "a", "b", "c"]
theorem nd__law_triple : N__law_triple.Nodup := by decide +kernel
theorem sc__law_triple : FnScope N__law_triple ["v", "row", "r"] (defScope (top 57)) := ⟨rfl, rfl, rfl, nd__law_triple, rfl, by decide +kernel, by decide +kernel⟩
def b__law_triple : SX := (sSeq (sSet 3 (eB fdivD (eVar 0) (eC (.int 18))))
  (sSeq (sSet 4 (eB addD (eB addD (eB mulD (eB ixD (eVar 1) (eC (.int 2))) (eVar 2)) (eB mulD (eB ixD (eVar 1) (eC (.int 3))) (eVar 3))) (eB ixD (eVar 1) (eC (.int 4)))))
  (sSeq (sSet 5 (eB addD (eB addD (eB mulD (eB ixD (eVar 1) (eC (.int 5))) (eVar 2)) (eB mulD (eB ixD (eVar 1) (eC (.int 6))) (eVar 3))) (eB ixD (eVar 1) (eC (.int 7)))))
  (sSeq (sSet 6 (eB addD (eB addD (eB mulD (eB ixD (eVar 1) (eC (.int 8))) (eVar 2)) (eB mulD (eB ixD (eVar 1) (eC (.int 9))) (eVar 3))) (eB ixD (eVar 1) (eC (.int 10)))))
  (sSeq (sIf (eB gtD (eVar 6) (eB fdivD (eB subD (eVar 0) (eC (.int 1))) (eC (.int 2))))
  (sSet 6 (eB subD (eVar 0) (eVar 6))) sNil)
  (sRet (eTup [(eVar 4), (eVar 5), (eVar 6)])))))))
def m__law_triple : Fn := runS b__law_triple 7
theorem bd__law_triple (M : Mg P K mg) : Body P w K mg base k N__law_triple "_law_triple" (defScope (top 57)) (defBody (top 57)) b__law_triple := fun f cd A outer s H E hr =>
  (p_cons (p_set (i := 3) nd__law_triple rfl (by first | exact .inl rfl | exact .inr rfl) (r_bin o_fdiv s_fdiv (r_var 0) r_int))
  (p_cons (p_set (i := 4) nd__law_triple rfl (by first | exact .inl rfl | exact .inr rfl) (r_bin o_add s_add (r_bin o_add s_add (r_bin o_mul s_mul (r_ix (r_var 1) r_int) (r_var 2)) (r_bin o_mul s_mul (r_ix (r_var 1) r_int) (r_var 3))) (r_ix (r_var 1) r_int)))
  (p_cons (p_set (i := 5) nd__law_triple rfl (by first | exact .inl rfl | exact .inr rfl) (r_bin o_add s_add (r_bin o_add s_add (r_bin o_mul s_mul (r_ix (r_var 1) r_int) (r_var 2)) (r_bin o_mul s_mul (r_ix (r_var 1) r_int) (r_var 3))) (r_ix (r_var 1) r_int)))
  (p_cons (p_set (i := 6) nd__law_triple rfl (by first | exact .inl rfl | exact .inr rfl) (r_bin o_add s_add (r_bin o_add s_add (r_bin o_mul s_mul (r_ix (r_var 1) r_int) (r_var 2)) (r_bin o_mul s_mul (r_ix (r_var 1) r_int) (r_var 3))) (r_ix (r_var 1) r_int)))
  (p_cons (p_if (r_cmpT op_gt (s_cmpI _) b_cmpI (r_var 6) (r_bin o_fdiv s_fdiv (r_bin op_sub s_sub (r_var 0) r_int) r_int) rfl)
  (p_one (p_set (i := 6) nd__law_triple rfl (by first | exact .inl rfl | exact .inr rfl) (r_bin op_sub s_sub (r_var 0) (r_var 6)))) p_nil)
  (p_one (p_ret (r_tup (a_cons (r_var 4) (a_cons (r_var 5) (a_cons (r_var 6) a_nil)))))))))))
/-! ### look_number -/
abbrev N_look_number : List Str := ["number", "low", "high"]
theorem nd_look_number : N_look_number.Nodup := by decide +kernel
theorem sc_look_number : FnScope N_look_number ["number", "low", "high"] (defScope (top 31)) := ⟨rfl, rfl, rfl, nd_look_number, rfl, by decide +kernel, by decide +kernel⟩
def b_look_number : SX := (sIf (eOr (eB ltD (eVar 0) (eVar 1)) (eB gtD (eVar 0) (eVar 2)))
  (sRaise "NumberError" ["number"] [(eVar 0)]) sNil)
def m_look_number : Fn := runS b_look_number 3
theorem bd_look_number (M : Mg P K mg) : Body P w K mg base k N_look_number "look_number" (defScope (top 31)) (defBody (top 31)) b_look_number := fun f cd A outer s H E hr =>
  (p_one (p_if (r_orT (r_cmpT op_lt (s_cmpI _) b_cmpI (r_var 0) (r_var 1) rfl) (r_orT1 (r_cmpT op_gt (s_cmpI _) b_cmpI (r_var 0) (r_var 2) rfl))).pt
  (p_one (p_raise rfl tk_cx M.x_NumberError xb_NumberError hr (a_cons (r_var 0) a_nil))) p_nil))
/-! ### _alone -/
abbrev N__alone : List Str := ["a", "b", "c"]
theorem nd__alone : N__alone.Nodup := by decide +kernel
theorem sc__alone : FnScope N__alone ["a", "b", "c"] (defScope (top 37)) := ⟨rfl, rfl, rfl, nd__alone, rfl, by decide +kernel, by decide +kernel⟩
def b__alone : SX := (sRet (eTup [(eTup [(eVar 0), (eC (.int 1))]), (eTup [(eVar 1), (eC (.int 1))]), (eTup [(eVar 2), (eC (.int 1))]), (eC (.int 0)), (eC (.int 0))]))
def m__alone : Fn := runS b__alone 3
theorem bd__alone (M : Mg P K mg) : Body P w K mg base k N__alone "_alone" (defScope (top 37)) (defBody (top 37)) b__alone := fun f cd A outer s H E hr =>
  (p_one (p_ret (r_tup (a_cons (r_tup (a_cons (r_var 0) (a_cons r_int a_nil))) (a_cons (r_tup (a_cons (r_var 1) (a_cons r_int a_nil))) (a_cons (r_tup (a_cons (r_var 2) (a_cons r_int a_nil))) (a_cons r_int (a_cons r_int a_nil))))))))
/-! ### _families_of_1 -/
abbrev N__families_of_1 : List Str := ["s"]
theorem nd__families_of_1 : N__families_of_1.Nodup := by decide +kernel
theorem sc__families_of_1 : FnScope N__families_of_1 ["s"] (defScope (top 38)) := ⟨rfl, rfl, rfl, nd__families_of_1, rfl, by decide +kernel, by decide +kernel⟩
def b__families_of_1 : SX := (sRet (eLst [(eTup [(eTup [(eC (.int 1)), (eC (.int 3))]), (eTup [(eB addD (eB mulD (eC (.int 4)) (eVar 0)) (eC (.int 1))), (e1 negD (eC (.int 1)))]), (eTup [(eB addD (eB mulD (eC (.int 4)) (eVar 0)) (eC (.int 2))), (eC (.int 2))]), (eC (.int 0)), (eB subD (eVar 0) (eC (.int 1)))]), (eTup [(eTup [(eC (.int 2)), (eC (.int 3))]), (eTup [(eB mulD (eC (.int 8)) (eVar 0)), (e1 negD (eC (.int 1)))]), (eTup [(eB addD (eB mulD (eC (.int 8)) (eVar 0)) (eC (.int 2))), (eC (.int 2))]), (eC (.int 0)), (eB subD (eVar 0) (eC (.int 1)))]), (eTup [(eTup [(eC (.int 3)), (eC (.int 3))]), (eTup [(eB subD (eB mulD (eC (.int 6)) (eVar 0)) (eC (.int 1))), (e1 negD (eC (.int 2)))]), (eTup [(eB addD (eB mulD (eC (.int 6)) (eVar 0)) (eC (.int 2))), (eC (.int 1))]), (eC (.int 0)), (eB subD (eVar 0) (eC (.int 2)))]), (eFn m__alone [(eB mulD (eC (.int 3)) (eVar 0)), (eB addD (eB mulD (eC (.int 3)) (eVar 0)) (eC (.int 1))), (eB addD (eB mulD (eC (.int 6)) (eVar 0)) (eC (.int 1)))])]))
def m__families_of_1 : Fn := runS b__families_of_1 1
theorem bd__families_of_1 (M : Mg P K mg) (D__alone : Df P w K mg base k "_alone" 3 m__alone) : Body P w K mg base k N__families_of_1 "_families_of_1" (defScope (top 38)) (defBody (top 38)) b__families_of_1 := fun f cd A outer s H E hr =>
  (p_one (p_ret (r_lst (a_cons (r_tup (a_cons (r_tup (a_cons r_int (a_cons r_int a_nil))) (a_cons (r_tup (a_cons (r_bin o_add s_add (r_bin o_mul s_mul r_int (r_var 0)) r_int) (a_cons (r_un un_neg s_neg r_int) a_nil))) (a_cons (r_tup (a_cons (r_bin o_add s_add (r_bin o_mul s_mul r_int (r_var 0)) r_int) (a_cons r_int a_nil))) (a_cons r_int (a_cons (r_bin op_sub s_sub (r_var 0) r_int) a_nil)))))) (a_cons (r_tup (a_cons (r_tup (a_cons r_int (a_cons r_int a_nil))) (a_cons (r_tup (a_cons (r_bin o_mul s_mul r_int (r_var 0)) (a_cons (r_un un_neg s_neg r_int) a_nil))) (a_cons (r_tup (a_cons (r_bin o_add s_add (r_bin o_mul s_mul r_int (r_var 0)) r_int) (a_cons r_int a_nil))) (a_cons r_int (a_cons (r_bin op_sub s_sub (r_var 0) r_int) a_nil)))))) (a_cons (r_tup (a_cons (r_tup (a_cons r_int (a_cons r_int a_nil))) (a_cons (r_tup (a_cons (r_bin op_sub s_sub (r_bin o_mul s_mul r_int (r_var 0)) r_int) (a_cons (r_un un_neg s_neg r_int) a_nil))) (a_cons (r_tup (a_cons (r_bin o_add s_add (r_bin o_mul s_mul r_int (r_var 0)) r_int) (a_cons r_int a_nil))) (a_cons r_int (a_cons (r_bin op_sub s_sub (r_var 0) r_int) a_nil)))))) (a_cons (r_fn D__alone hr tk_cx (a_cons (r_bin o_mul s_mul r_int (r_var 0)) (a_cons (r_bin o_add s_add (r_bin o_mul s_mul r_int (r_var 0)) r_int) (a_cons (r_bin o_add s_add (r_bin o_mul s_mul r_int (r_var 0)) r_int) a_nil)))) a_nil)))))))
/-! ### _families_of_3 -/
abbrev N__families_of_3 : List Str := ["s"]
theorem nd__families_of_3 : N__families_of_3.Nodup := by decide +kernel
theorem sc__families_of_3 : FnScope N__families_of_3 ["s"] (defScope (top 39)) := ⟨rfl, rfl, rfl, nd__families_of_3, rfl, by decide +kernel, by decide +kernel⟩
def b__families_of_3 : SX := (sRet (eLst [(eTup [(eTup [(eC (.int 1)), (eC (.int 3))]), (eTup [(eB addD (eB mulD (eC (.int 8)) (eVar 0)) (eC (.int 1))), (e1 negD (eC (.int 1)))]), (eTup [(eB addD (eB mulD (eC (.int 8)) (eVar 0)) (eC (.int 2))), (eC (.int 2))]), (eC (.int 0)), (eB subD (eVar 0) (eC (.int 1)))]), (eTup [(eTup [(eC (.int 2)), (eC (.int 3))]), (eTup [(eB mulD (eC (.int 4)) (eVar 0)), (e1 negD (eC (.int 1)))]), (eTup [(eB addD (eB mulD (eC (.int 4)) (eVar 0)) (eC (.int 2))), (eC (.int 2))]), (eC (.int 0)), (eB subD (eVar 0) (eC (.int 1)))]), (eTup [(eTup [(eC (.int 3)), (eC (.int 3))]), (eTup [(eB subD (eB mulD (eC (.int 6)) (eVar 0)) (eC (.int 1))), (e1 negD (eC (.int 2)))]), (eTup [(eB addD (eB mulD (eC (.int 6)) (eVar 0)) (eC (.int 2))), (eC (.int 1))]), (eC (.int 0)), (eB subD (eVar 0) (eC (.int 1)))])]))
def m__families_of_3 : Fn := runS b__families_of_3 1
theorem bd__families_of_3 (M : Mg P K mg) : Body P w K mg base k N__families_of_3 "_families_of_3" (defScope (top 39)) (defBody (top 39)) b__families_of_3 := fun f cd A outer s H E hr =>
  (p_one (p_ret (r_lst (a_cons (r_tup (a_cons (r_tup (a_cons r_int (a_cons r_int a_nil))) (a_cons (r_tup (a_cons (r_bin o_add s_add (r_bin o_mul s_mul r_int (r_var 0)) r_int) (a_cons (r_un un_neg s_neg r_int) a_nil))) (a_cons (r_tup (a_cons (r_bin o_add s_add (r_bin o_mul s_mul r_int (r_var 0)) r_int) (a_cons r_int a_nil))) (a_cons r_int (a_cons (r_bin op_sub s_sub (r_var 0) r_int) a_nil)))))) (a_cons (r_tup (a_cons (r_tup (a_cons r_int (a_cons r_int a_nil))) (a_cons (r_tup (a_cons (r_bin o_mul s_mul r_int (r_var 0)) (a_cons (r_un un_neg s_neg r_int) a_nil))) (a_cons (r_tup (a_cons (r_bin o_add s_add (r_bin o_mul s_mul r_int (r_var 0)) r_int) (a_cons r_int a_nil))) (a_cons r_int (a_cons (r_bin op_sub s_sub (r_var 0) r_int) a_nil)))))) (a_cons (r_tup (a_cons (r_tup (a_cons r_int (a_cons r_int a_nil))) (a_cons (r_tup (a_cons (r_bin op_sub s_sub (r_bin o_mul s_mul r_int (r_var 0)) r_int) (a_cons (r_un un_neg s_neg r_int) a_nil))) (a_cons (r_tup (a_cons (r_bin o_add s_add (r_bin o_mul s_mul r_int (r_var 0)) r_int) (a_cons r_int a_nil))) (a_cons r_int (a_cons (r_bin op_sub s_sub (r_var 0) r_int) a_nil)))))) a_nil))))))
/-! ### _families_of_7 -/
abbrev N__families_of_7 : List Str := ["s"]
theorem nd__families_of_7 : N__families_of_7.Nodup := by decide +kernel
theorem sc__families_of_7 : FnScope N__families_of_7 ["s"] (defScope (top 40)) := ⟨rfl, rfl, rfl, nd__families_of_7, rfl, by decide +kernel, by decide +kernel⟩
def b__families_of_7 : SX := (sRet (eLst [(eTup [(eTup [(eC (.int 1)), (eC (.int 3))]), (eTup [(eB addD (eB mulD (eC (.int 8)) (eVar 0)) (eC (.int 3))), (e1 negD (eC (.int 1)))]), (eTup [(eB addD (eB mulD (eC (.int 8)) (eVar 0)) (eC (.int 4))), (eC (.int 2))]), (eC (.int 0)), (eB subD (eVar 0) (eC (.int 1)))]), (eTup [(eTup [(eC (.int 2)), (eC (.int 3))]), (eTup [(eB addD (eB mulD (eC (.int 6)) (eVar 0)) (eC (.int 1))), (e1 negD (eC (.int 2)))]), (eTup [(eB addD (eB mulD (eC (.int 6)) (eVar 0)) (eC (.int 3))), (eC (.int 1))]), (eC (.int 0)), (eB subD (eVar 0) (eC (.int 1)))]), (eTup [(eTup [(eC (.int 3)), (eC (.int 3))]), (eTup [(eB addD (eB mulD (eC (.int 4)) (eVar 0)) (eC (.int 1))), (e1 negD (eC (.int 1)))]), (eTup [(eB addD (eB mulD (eC (.int 4)) (eVar 0)) (eC (.int 4))), (eC (.int 2))]), (eC (.int 0)), (eB subD (eVar 0) (eC (.int 1)))]), (eFn m__alone [(eB addD (eB mulD (eC (.int 3)) (eVar 0)) (eC (.int 1))), (eB addD (eB mulD (eC (.int 4)) (eVar 0)) (eC (.int 2))), (eB addD (eB mulD (eC (.int 7)) (eVar 0)) (eC (.int 3)))])]))
def m__families_of_7 : Fn := runS b__families_of_7 1
theorem bd__families_of_7 (M : Mg P K mg) (D__alone : Df P w K mg base k "_alone" 3 m__alone) : Body P w K mg base k N__families_of_7 "_families_of_7" (defScope (top 40)) (defBody (top 40)) b__families_of_7 := fun f cd A outer s H E hr =>
  (p_one (p_ret (r_lst (a_cons (r_tup (a_cons (r_tup (a_cons r_int (a_cons r_int a_nil))) (a_cons (r_tup (a_cons (r_bin o_add s_add (r_bin o_mul s_mul r_int (r_var 0)) r_int) (a_cons (r_un un_neg s_neg r_int) a_nil))) (a_cons (r_tup (a_cons (r_bin o_add s_add (r_bin o_mul s_mul r_int (r_var 0)) r_int) (a_cons r_int a_nil))) (a_cons r_int (a_cons (r_bin op_sub s_sub (r_var 0) r_int) a_nil)))))) (a_cons (r_tup (a_cons (r_tup (a_cons r_int (a_cons r_int a_nil))) (a_cons (r_tup (a_cons (r_bin o_add s_add (r_bin o_mul s_mul r_int (r_var 0)) r_int) (a_cons (r_un un_neg s_neg r_int) a_nil))) (a_cons (r_tup (a_cons (r_bin o_add s_add (r_bin o_mul s_mul r_int (r_var 0)) r_int) (a_cons r_int a_nil))) (a_cons r_int (a_cons (r_bin op_sub s_sub (r_var 0) r_int) a_nil)))))) (a_cons (r_tup (a_cons (r_tup (a_cons r_int (a_cons r_int a_nil))) (a_cons (r_tup (a_cons (r_bin o_add s_add (r_bin o_mul s_mul r_int (r_var 0)) r_int) (a_cons (r_un un_neg s_neg r_int) a_nil))) (a_cons (r_tup (a_cons (r_bin o_add s_add (r_bin o_mul s_mul r_int (r_var 0)) r_int) (a_cons r_int a_nil))) (a_cons r_int (a_cons (r_bin op_sub s_sub (r_var 0) r_int) a_nil)))))) (a_cons (r_fn D__alone hr tk_cx (a_cons (r_bin o_add s_add (r_bin o_mul s_mul r_int (r_var 0)) r_int) (a_cons (r_bin o_add s_add (r_bin o_mul s_mul r_int (r_var 0)) r_int) (a_cons (r_bin o_add s_add (r_bin o_mul s_mul r_int (r_var 0)) r_int) a_nil)))) a_nil)))))))
/-! ### _families_of_9 -/
abbrev N__families_of_9 : List Str := ["s", "a", "b", "c"]
theorem nd__families_of_9 : N__families_of_9.Nodup := by decide +kernel
theorem sc__families_of_9 : FnScope N__families_of_9 ["s"] (defScope (top 41)) := ⟨rfl, rfl, rfl, nd__families_of_9, rfl, by decide +kernel, by decide +kernel⟩
def b__families_of_9 : SX := (sSeq (sIf (eB eqD (eVar 0) (eC (.int 1)))
  (sRet (eComp (iV seqI (eC dc_RING_OF_27)) (bTp [(bNm 1), (bNm 2), (bNm 3)]) (eC (.bl true)) (eFn m__alone [(eVar 1), (eVar 2), (eVar 3)]) [1, 2, 3])) sNil)
  (sSeq (sIf (eB eqD (eVar 0) (eC (.int 2)))
  (sRet (eComp (iV seqI (eC dc_RING_OF_45)) (bTp [(bNm 1), (bNm 2), (bNm 3)]) (eC (.bl true)) (eFn m__alone [(eVar 1), (eVar 2), (eVar 3)]) [1, 2, 3])) sNil)
  (sRet (eLst [(eTup [(eTup [(eC (.int 1)), (eC (.int 3))]), (eTup [(eB addD (eB mulD (eC (.int 4)) (eVar 0)) (eC (.int 3))), (e1 negD (eC (.int 1)))]), (eTup [(eB addD (eB mulD (eC (.int 4)) (eVar 0)) (eC (.int 4))), (eC (.int 2))]), (eC (.int 0)), (eVar 0)]), (eTup [(eTup [(eC (.int 2)), (eC (.int 3))]), (eTup [(eB addD (eB mulD (eC (.int 8)) (eVar 0)) (eC (.int 2))), (e1 negD (eC (.int 1)))]), (eTup [(eB addD (eB mulD (eC (.int 8)) (eVar 0)) (eC (.int 4))), (eC (.int 2))]), (eC (.int 2)), (eB subD (eVar 0) (eC (.int 2)))]), (eTup [(eTup [(eC (.int 3)), (eC (.int 3))]), (eTup [(eB addD (eB mulD (eC (.int 6)) (eVar 0)) (eC (.int 1))), (e1 negD (eC (.int 2)))]), (eTup [(eB addD (eB mulD (eC (.int 6)) (eVar 0)) (eC (.int 4))), (eC (.int 1))]), (eC (.int 1)), (eB subD (eVar 0) (eC (.int 2)))]), (eFn m__alone [(eC (.int 2)), (eB addD (eB mulD (eC (.int 8)) (eVar 0)) (eC (.int 3))), (eB addD (eB mulD (eC (.int 8)) (eVar 0)) (eC (.int 5)))]), (eFn m__alone [(eC (.int 3)), (eB addD (eB mulD (eC (.int 8)) (eVar 0)) (eC (.int 1))), (eB addD (eB mulD (eC (.int 8)) (eVar 0)) (eC (.int 4)))]), (eFn m__alone [(eC (.int 5)), (eB addD (eB mulD (eC (.int 8)) (eVar 0)) (eC (.int 2))), (eB addD (eB mulD (eC (.int 8)) (eVar 0)) (eC (.int 7)))]), (eFn m__alone [(eB subD (eB mulD (eC (.int 3)) (eVar 0)) (eC (.int 1))), (eB addD (eB mulD (eC (.int 3)) (eVar 0)) (eC (.int 2))), (eB addD (eB mulD (eC (.int 6)) (eVar 0)) (eC (.int 1)))]), (eFn m__alone [(eB mulD (eC (.int 3)) (eVar 0)), (eB addD (eB mulD (eC (.int 7)) (eVar 0)) (eC (.int 3))), (eB addD (eB mulD (eC (.int 8)) (eVar 0)) (eC (.int 6)))])]))))
def m__families_of_9 : Fn := runS b__families_of_9 4
theorem bd__families_of_9 (M : Mg P K mg) (D__alone : Df P w K mg base k "_alone" 3 m__alone) : Body P w K mg base k N__families_of_9 "_families_of_9" (defScope (top 41)) (defBody (top 41)) b__families_of_9 := fun f cd A outer s H E hr =>
  (p_cons (p_if (r_cmpT (o_eq hr.units) s_eq b_eq (r_var 0) r_int rfl)
  (p_one (p_ret (r_comp (own := [("a", 1), ("b", 2), ("c", 3)]) rfl nd__families_of_9 (pi_seq (r_glob M.c_RING_OF_27)) ri_seq rfl (fun s0 H0 C0 cl0 fp0 => (g_tp rfl (gs_cons (g_nm (i := 1) nd__families_of_9 rfl (by first | exact .inl rfl | exact .inr rfl)) (gs_cons (g_nm (i := 2) nd__families_of_9 rfl (by first | exact .inl rfl | exact .inr rfl)) (gs_cons (g_nm (i := 3) nd__families_of_9 rfl (by first | exact .inl rfl | exact .inr rfl)) gs_nil))))) (fun s0 H0 C0 cl0 fp0 => c_nil) (fun s0 H0 C0 cl0 fp0 => (r_fn D__alone hr tk0 (a_cons (r_var 1) (a_cons (r_var 2) (a_cons (r_var 3) a_nil)))))))) p_nil)
  (p_cons (p_if (r_cmpT (o_eq hr.units) s_eq b_eq (r_var 0) r_int rfl)
  (p_one (p_ret (r_comp (own := [("a", 1), ("b", 2), ("c", 3)]) rfl nd__families_of_9 (pi_seq (r_glob M.c_RING_OF_45)) ri_seq rfl (fun s0 H0 C0 cl0 fp0 => (g_tp rfl (gs_cons (g_nm (i := 1) nd__families_of_9 rfl (by first | exact .inl rfl | exact .inr rfl)) (gs_cons (g_nm (i := 2) nd__families_of_9 rfl (by first | exact .inl rfl | exact .inr rfl)) (gs_cons (g_nm (i := 3) nd__families_of_9 rfl (by first | exact .inl rfl | exact .inr rfl)) gs_nil))))) (fun s0 H0 C0 cl0 fp0 => c_nil) (fun s0 H0 C0 cl0 fp0 => (r_fn D__alone hr tk0 (a_cons (r_var 1) (a_cons (r_var 2) (a_cons (r_var 3) a_nil)))))))) p_nil)
  (p_one (p_ret (r_lst (a_cons (r_tup (a_cons (r_tup (a_cons r_int (a_cons r_int a_nil))) (a_cons (r_tup (a_cons (r_bin o_add s_add (r_bin o_mul s_mul r_int (r_var 0)) r_int) (a_cons (r_un un_neg s_neg r_int) a_nil))) (a_cons (r_tup (a_cons (r_bin o_add s_add (r_bin o_mul s_mul r_int (r_var 0)) r_int) (a_cons r_int a_nil))) (a_cons r_int (a_cons (r_var 0) a_nil)))))) (a_cons (r_tup (a_cons (r_tup (a_cons r_int (a_cons r_int a_nil))) (a_cons (r_tup (a_cons (r_bin o_add s_add (r_bin o_mul s_mul r_int (r_var 0)) r_int) (a_cons (r_un un_neg s_neg r_int) a_nil))) (a_cons (r_tup (a_cons (r_bin o_add s_add (r_bin o_mul s_mul r_int (r_var 0)) r_int) (a_cons r_int a_nil))) (a_cons r_int (a_cons (r_bin op_sub s_sub (r_var 0) r_int) a_nil)))))) (a_cons (r_tup (a_cons (r_tup (a_cons r_int (a_cons r_int a_nil))) (a_cons (r_tup (a_cons (r_bin o_add s_add (r_bin o_mul s_mul r_int (r_var 0)) r_int) (a_cons (r_un un_neg s_neg r_int) a_nil))) (a_cons (r_tup (a_cons (r_bin o_add s_add (r_bin o_mul s_mul r_int (r_var 0)) r_int) (a_cons r_int a_nil))) (a_cons r_int (a_cons (r_bin op_sub s_sub (r_var 0) r_int) a_nil)))))) (a_cons (r_fn D__alone hr tk_cx (a_cons r_int (a_cons (r_bin o_add s_add (r_bin o_mul s_mul r_int (r_var 0)) r_int) (a_cons (r_bin o_add s_add (r_bin o_mul s_mul r_int (r_var 0)) r_int) a_nil)))) (a_cons (r_fn D__alone hr tk_cx (a_cons r_int (a_cons (r_bin o_add s_add (r_bin o_mul s_mul r_int (r_var 0)) r_int) (a_cons (r_bin o_add s_add (r_bin o_mul s_mul r_int (r_var 0)) r_int) a_nil)))) (a_cons (r_fn D__alone hr tk_cx (a_cons r_int (a_cons (r_bin o_add s_add (r_bin o_mul s_mul r_int (r_var 0)) r_int) (a_cons (r_bin o_add s_add (r_bin o_mul s_mul r_int (r_var 0)) r_int) a_nil)))) (a_cons (r_fn D__alone hr tk_cx (a_cons (r_bin op_sub s_sub (r_bin o_mul s_mul r_int (r_var 0)) r_int) (a_cons (r_bin o_add s_add (r_bin o_mul s_mul r_int (r_var 0)) r_int) (a_cons (r_bin o_add s_add (r_bin o_mul s_mul r_int (r_var 0)) r_int) a_nil)))) (a_cons (r_fn D__alone hr tk_cx (a_cons (r_bin o_mul s_mul r_int (r_var 0)) (a_cons (r_bin o_add s_add (r_bin o_mul s_mul r_int (r_var 0)) r_int) (a_cons (r_bin o_add s_add (r_bin o_mul s_mul r_int (r_var 0)) r_int) a_nil)))) a_nil)))))))))))))
/-! ### _families_of_13 -/
abbrev N__families_of_13 : List Str := ["s"]
theorem nd__families_of_13 : N__families_of_13.Nodup := by decide +kernel
theorem sc__families_of_13 : FnScope N__families_of_13 ["s"] (defScope (top 42)) := ⟨rfl, rfl, rfl, nd__families_of_13, rfl, by decide +kernel, by decide +kernel⟩
def b__families_of_13 : SX := (sRet (eLst [(eTup [(eTup [(eC (.int 2)), (eC (.int 3))]), (eTup [(eB addD (eB mulD (eC (.int 6)) (eVar 0)) (eC (.int 3))), (e1 negD (eC (.int 2)))]), (eTup [(eB addD (eB mulD (eC (.int 6)) (eVar 0)) (eC (.int 5))), (eC (.int 1))]), (eC (.int 0)), (eB subD (eVar 0) (eC (.int 1)))]), (eTup [(eTup [(eC (.int 3)), (eC (.int 3))]), (eTup [(eB addD (eB mulD (eC (.int 8)) (eVar 0)) (eC (.int 5))), (e1 negD (eC (.int 1)))]), (eTup [(eB addD (eB mulD (eC (.int 8)) (eVar 0)) (eC (.int 8))), (eC (.int 2))]), (eC (.int 0)), (eB subD (eVar 0) (eC (.int 1)))]), (eTup [(eTup [(eC (.int 1)), (eC (.int 3))]), (eTup [(eB addD (eB mulD (eC (.int 4)) (eVar 0)) (eC (.int 3))), (e1 negD (eC (.int 1)))]), (eTup [(eB addD (eB mulD (eC (.int 4)) (eVar 0)) (eC (.int 4))), (eC (.int 2))]), (eC (.int 0)), (eVar 0)]), (eFn m__alone [(eB addD (eB mulD (eC (.int 3)) (eVar 0)) (eC (.int 2))), (eB addD (eB mulD (eC (.int 7)) (eVar 0)) (eC (.int 5))), (eB addD (eB mulD (eC (.int 8)) (eVar 0)) (eC (.int 6)))])]))
def m__families_of_13 : Fn := runS b__families_of_13 1
theorem bd__families_of_13 (M : Mg P K mg) (D__alone : Df P w K mg base k "_alone" 3 m__alone) : Body P w K mg base k N__families_of_13 "_families_of_13" (defScope (top 42)) (defBody (top 42)) b__families_of_13 := fun f cd A outer s H E hr =>
  (p_one (p_ret (r_lst (a_cons (r_tup (a_cons (r_tup (a_cons r_int (a_cons r_int a_nil))) (a_cons (r_tup (a_cons (r_bin o_add s_add (r_bin o_mul s_mul r_int (r_var 0)) r_int) (a_cons (r_un un_neg s_neg r_int) a_nil))) (a_cons (r_tup (a_cons (r_bin o_add s_add (r_bin o_mul s_mul r_int (r_var 0)) r_int) (a_cons r_int a_nil))) (a_cons r_int (a_cons (r_bin op_sub s_sub (r_var 0) r_int) a_nil)))))) (a_cons (r_tup (a_cons (r_tup (a_cons r_int (a_cons r_int a_nil))) (a_cons (r_tup (a_cons (r_bin o_add s_add (r_bin o_mul s_mul r_int (r_var 0)) r_int) (a_cons (r_un un_neg s_neg r_int) a_nil))) (a_cons (r_tup (a_cons (r_bin o_add s_add (r_bin o_mul s_mul r_int (r_var 0)) r_int) (a_cons r_int a_nil))) (a_cons r_int (a_cons (r_bin op_sub s_sub (r_var 0) r_int) a_nil)))))) (a_cons (r_tup (a_cons (r_tup (a_cons r_int (a_cons r_int a_nil))) (a_cons (r_tup (a_cons (r_bin o_add s_add (r_bin o_mul s_mul r_int (r_var 0)) r_int) (a_cons (r_un un_neg s_neg r_int) a_nil))) (a_cons (r_tup (a_cons (r_bin o_add s_add (r_bin o_mul s_mul r_int (r_var 0)) r_int) (a_cons r_int a_nil))) (a_cons r_int (a_cons (r_var 0) a_nil)))))) (a_cons (r_fn D__alone hr tk_cx (a_cons (r_bin o_add s_add (r_bin o_mul s_mul r_int (r_var 0)) r_int) (a_cons (r_bin o_add s_add (r_bin o_mul s_mul r_int (r_var 0)) r_int) (a_cons (r_bin o_add s_add (r_bin o_mul s_mul r_int (r_var 0)) r_int) a_nil)))) a_nil)))))))
/-! ### _families_of_15 -/
abbrev N__families_of_15 : List Str := ["s"]
theorem nd__families_of_15 : N__families_of_15.Nodup := by decide +kernel
theorem sc__families_of_15 : FnScope N__families_of_15 ["s"] (defScope (top 43)) := ⟨rfl, rfl, rfl, nd__families_of_15, rfl, by decide +kernel, by decide +kernel⟩
def b__families_of_15 : SX := (sRet (eLst [(eTup [(eTup [(eC (.int 1)), (eC (.int 3))]), (eTup [(eB addD (eB mulD (eC (.int 4)) (eVar 0)) (eC (.int 3))), (e1 negD (eC (.int 1)))]), (eTup [(eB addD (eB mulD (eC (.int 4)) (eVar 0)) (eC (.int 4))), (eC (.int 2))]), (eC (.int 0)), (eVar 0)]), (eTup [(eTup [(eC (.int 2)), (eC (.int 3))]), (eTup [(eB addD (eB mulD (eC (.int 8)) (eVar 0)) (eC (.int 6))), (e1 negD (eC (.int 1)))]), (eTup [(eB addD (eB mulD (eC (.int 8)) (eVar 0)) (eC (.int 8))), (eC (.int 2))]), (eC (.int 0)), (eVar 0)]), (eTup [(eTup [(eC (.int 3)), (eC (.int 3))]), (eTup [(eB addD (eB mulD (eC (.int 6)) (eVar 0)) (eC (.int 3))), (e1 negD (eC (.int 2)))]), (eTup [(eB addD (eB mulD (eC (.int 6)) (eVar 0)) (eC (.int 6))), (eC (.int 1))]), (eC (.int 0)), (eB subD (eVar 0) (eC (.int 1)))])]))
def m__families_of_15 : Fn := runS b__families_of_15 1
theorem bd__families_of_15 (M : Mg P K mg) : Body P w K mg base k N__families_of_15 "_families_of_15" (defScope (top 43)) (defBody (top 43)) b__families_of_15 := fun f cd A outer s H E hr =>
  (p_one (p_ret (r_lst (a_cons (r_tup (a_cons (r_tup (a_cons r_int (a_cons r_int a_nil))) (a_cons (r_tup (a_cons (r_bin o_add s_add (r_bin o_mul s_mul r_int (r_var 0)) r_int) (a_cons (r_un un_neg s_neg r_int) a_nil))) (a_cons (r_tup (a_cons (r_bin o_add s_add (r_bin o_mul s_mul r_int (r_var 0)) r_int) (a_cons r_int a_nil))) (a_cons r_int (a_cons (r_var 0) a_nil)))))) (a_cons (r_tup (a_cons (r_tup (a_cons r_int (a_cons r_int a_nil))) (a_cons (r_tup (a_cons (r_bin o_add s_add (r_bin o_mul s_mul r_int (r_var 0)) r_int) (a_cons (r_un un_neg s_neg r_int) a_nil))) (a_cons (r_tup (a_cons (r_bin o_add s_add (r_bin o_mul s_mul r_int (r_var 0)) r_int) (a_cons r_int a_nil))) (a_cons r_int (a_cons (r_var 0) a_nil)))))) (a_cons (r_tup (a_cons (r_tup (a_cons r_int (a_cons r_int a_nil))) (a_cons (r_tup (a_cons (r_bin o_add s_add (r_bin o_mul s_mul r_int (r_var 0)) r_int) (a_cons (r_un un_neg s_neg r_int) a_nil))) (a_cons (r_tup (a_cons (r_bin o_add s_add (r_bin o_mul s_mul r_int (r_var 0)) r_int) (a_cons r_int a_nil))) (a_cons r_int (a_cons (r_bin op_sub s_sub (r_var 0) r_int) a_nil)))))) a_nil))))))
/-! ### found_triple -/
abbrev N_found_triple : List Str := ["v", "d", "families", "first", "second", "third", "low", "high", "value", "start", "step", "r", "left", "c"]
theorem nd_found_triple : N_found_triple.Nodup := by decide +kernel
theorem sc_found_triple : FnScope N_found_triple ["v", "d"] (defScope (top 46)) := ⟨rfl, rfl, rfl, nd_found_triple, rfl, by decide +kernel, by decide +kernel⟩
def sel_found_triple : Str → Option Fn := fun nm => ([("_families_of_1", m__families_of_1), ("_families_of_3", m__families_of_3), ("_families_of_7", m__families_of_7), ("_families_of_9", m__families_of_9), ("_families_of_13", m__families_of_13), ("_families_of_15", m__families_of_15)] : List (Str × Fn)).lookup nm
def b_found_triple : SX := (sSeq (sSet 2 (eTbl (fun i => tb_FAMILIES.lookup i) (eB modD (eVar 0) (eC (.int 18)))))
  (sSeq (sFor (iV seqI (eLoc 2 sel_found_triple [(eB fdivD (eVar 0) (eC (.int 18)))])) (bTp [(bNm 3), (bNm 4), (bNm 5), (bNm 6), (bNm 7)])
  (sFor (iV seqI (eTup [(eTup [(eVar 1), (eVar 3)]), (eTup [(eVar 1), (eVar 4)]), (eTup [(eVar 1), (eVar 5)]), (eTup [(eB subD (eVar 0) (eVar 1)), (eVar 5)])])) (bTp [(bNm 8), (bTp [(bNm 9), (bNm 10)])])
  (sSeq (sUn (bTp [(bNm 11), (bNm 12)]) (eCall divmodD [(eB subD (eVar 8) (eVar 9)), (eVar 10)]))
  (sIf (eAnd (eB eqD (eVar 12) (eC (.int 0))) (eChain leD leD (eVar 6) (eVar 11) (eVar 7)))
  (sSeq (sSet 13 (eB addD (eB ixD (eVar 5) (eC (.int 0))) (eB mulD (eVar 11) (eB ixD (eVar 5) (eC (.int 1))))))
  (sRet (eTup [(eB addD (eB ixD (eVar 3) (eC (.int 0))) (eB mulD (eVar 11) (eB ixD (eVar 3) (eC (.int 1))))), (eB addD (eB ixD (eVar 4) (eC (.int 0))) (eB mulD (eVar 11) (eB ixD (eVar 4) (eC (.int 1))))), (eCall minD [(eVar 13), (eB subD (eVar 0) (eVar 13))])]))) sNil))))
  (sRaise "KindError" ["what"] [(eC (.str "short"))])))
def m_found_triple : Fn := runS b_found_triple 14
theorem bd_found_triple (M : Mg P K mg) (LS : LocF P w K mg base k 1 sel_found_triple) : Body P w K mg base k N_found_triple "found_triple" (defScope (top 46)) (defBody (top 46)) b_found_triple := fun f cd A outer s H E hr =>
  (p_cons (p_set (i := 2) nd_found_triple rfl (by first | exact .inl rfl | exact .inr rfl) (r_tbl M.t_FAMILIES M.g_FAMILIES (r_bin op_modN s_mod (r_var 0) r_int)))
  (p_cons (p_for ps_cx rfl (pi_seq (r_loc (LS) hr tk_cx (a_cons (r_bin o_fdiv s_fdiv (r_var 0) r_int) a_nil))) ri_seq (g_tp rfl (gs_cons (g_nm (i := 3) nd_found_triple rfl (by first | exact .inl rfl | exact .inr rfl)) (gs_cons (g_nm (i := 4) nd_found_triple rfl (by first | exact .inl rfl | exact .inr rfl)) (gs_cons (g_nm (i := 5) nd_found_triple rfl (by first | exact .inl rfl | exact .inr rfl)) (gs_cons (g_nm (i := 6) nd_found_triple rfl (by first | exact .inl rfl | exact .inr rfl)) (gs_cons (g_nm (i := 7) nd_found_triple rfl (by first | exact .inl rfl | exact .inr rfl)) gs_nil))))))
  (p_one (p_for ps_cx rfl (pi_seq (r_tup (a_cons (r_tup (a_cons (r_var 1) (a_cons (r_var 3) a_nil))) (a_cons (r_tup (a_cons (r_var 1) (a_cons (r_var 4) a_nil))) (a_cons (r_tup (a_cons (r_var 1) (a_cons (r_var 5) a_nil))) (a_cons (r_tup (a_cons (r_bin op_sub s_sub (r_var 0) (r_var 1)) (a_cons (r_var 5) a_nil))) a_nil)))))) ri_seq (g_tp rfl (gs_cons (g_nm (i := 8) nd_found_triple rfl (by first | exact .inl rfl | exact .inr rfl)) (gs_cons (g_tp rfl (gs_cons (g_nm (i := 9) nd_found_triple rfl (by first | exact .inl rfl | exact .inr rfl)) (gs_cons (g_nm (i := 10) nd_found_triple rfl (by first | exact .inl rfl | exact .inr rfl)) gs_nil))) gs_nil)))
  (p_cons (p_un (r_callB c_divmod s_divmod M.f_divmod (by decide +kernel) (a_cons (r_bin op_sub s_sub (r_var 8) (r_var 9)) (a_cons (r_var 10) a_nil))) (g_tp rfl (gs_cons (g_nm (i := 11) nd_found_triple rfl (by first | exact .inl rfl | exact .inr rfl)) (gs_cons (g_nm (i := 12) nd_found_triple rfl (by first | exact .inl rfl | exact .inr rfl)) gs_nil))))
  (p_one (p_if (r_andT (r_cmpT (o_eq hr.units) s_eq b_eq (r_var 12) r_int rfl) (r_andT1 (r_chainT op_le op_le (s_cmpI _) (s_cmpI _) b_cmpI (r_var 6) (r_var 11) (r_var 7)))).pt
  (p_cons (p_set (i := 13) nd_found_triple rfl (by first | exact .inl rfl | exact .inr rfl) (r_bin o_add s_add (r_ix (r_var 5) r_int) (r_bin o_mul s_mul (r_var 11) (r_ix (r_var 5) r_int))))
  (p_one (p_ret (r_tup (a_cons (r_bin o_add s_add (r_ix (r_var 3) r_int) (r_bin o_mul s_mul (r_var 11) (r_ix (r_var 3) r_int))) (a_cons (r_bin o_add s_add (r_ix (r_var 4) r_int) (r_bin o_mul s_mul (r_var 11) (r_ix (r_var 4) r_int))) (a_cons (r_callB (call_min2 rfl) s_min M.f_min (by decide +kernel) (a_cons (r_var 13) (a_cons (r_bin op_sub s_sub (r_var 0) (r_var 13)) a_nil))) a_nil))))))) p_nil))))))
  (p_one (p_raise rfl tk_cx M.x_KindError xb_KindError hr (a_cons r_str a_nil)))))
/-! ### is_ring -/
abbrev N_is_ring : List Str := ["v"]
theorem nd_is_ring : N_is_ring.Nodup := by decide +kernel
theorem sc_is_ring : FnScope N_is_ring ["v"] (defScope (top 45)) := ⟨rfl, rfl, rfl, nd_is_ring, rfl, by decide +kernel, by decide +kernel⟩
def b_is_ring : SX := (sRet (eAnd (eB inD (eB modD (eVar 0) (eC (.int 6))) (eTup [(eC (.int 1)), (eC (.int 3))])) (eB neD (eVar 0) (eC (.int 9)))))
def m_is_ring : Fn := runS b_is_ring 1
theorem bd_is_ring (M : Mg P K mg) : Body P w K mg base k N_is_ring "is_ring" (defScope (top 45)) (defBody (top 45)) b_is_ring := fun f cd A outer s H E hr =>
  (p_one (p_ret (r_and (r_cmp op_in_seq s_in (r_bin op_modN s_mod (r_var 0) r_int) (r_tup (a_cons r_int (a_cons r_int a_nil))) rfl) (r_one (r_cmp (o_ne hr.units) s_ne (r_var 0) r_int rfl)))))
/-! ### difference_triple -/
abbrev N_difference_triple : List Str := ["v", "d"]
theorem nd_difference_triple : N_difference_triple.Nodup := by decide +kernel
theorem sc_difference_triple : FnScope N_difference_triple ["v", "d"] (defScope (top 47)) := ⟨rfl, rfl, rfl, nd_difference_triple, rfl, by decide +kernel, by decide +kernel⟩
def b_difference_triple : SX := (sSeq (sEx (eFn m_look_number [(eVar 0), (eC dc_LEAST), (eC dc_MOST)]))
  (sSeq (sEx (eFn m_look_number [(eVar 1), (eC (.int 1)), (eB fdivD (eB subD (eVar 0) (eC (.int 1))) (eC (.int 2)))]))
  (sSeq (sIf (eNot (eFn m_is_ring [(eVar 0)]))
  (sRaise "KindError" ["what"] [(eC (.str "ring"))]) sNil)
  (sRet (eFn m_found_triple [(eVar 0), (eVar 1)])))))
def m_difference_triple : Fn := runS b_difference_triple 2
theorem bd_difference_triple (M : Mg P K mg) (D_look_number : Df P w K mg base k "look_number" 3 m_look_number) (D_is_ring : Df P w K mg base k "is_ring" 1 m_is_ring) (D_found_triple : Df P w K mg base k "found_triple" 2 m_found_triple) : Body P w K mg base k N_difference_triple "difference_triple" (defScope (top 47)) (defBody (top 47)) b_difference_triple := fun f cd A outer s H E hr =>
  (p_cons (p_ex (r_fn D_look_number hr tk_cx (a_cons (r_var 0) (a_cons (r_glob M.c_LEAST) (a_cons (r_glob M.c_MOST) a_nil)))))
  (p_cons (p_ex (r_fn D_look_number hr tk_cx (a_cons (r_var 1) (a_cons r_int (a_cons (r_bin o_fdiv s_fdiv (r_bin op_sub s_sub (r_var 0) r_int) r_int) a_nil)))))
  (p_cons (p_if (r_notT (r_tru (r_fn D_is_ring hr tk_cx (a_cons (r_var 0) a_nil))))
  (p_one (p_raise rfl tk_cx M.x_KindError xb_KindError hr (a_cons r_str a_nil))) p_nil)
  (p_one (p_ret (r_fn D_found_triple hr tk_cx (a_cons (r_var 0) (a_cons (r_var 1) a_nil))))))))
/-! ### _law_alone -/
abbrev N__law_alone : List Str := ["e", "kinds"]
theorem nd__law_alone : N__law_alone.Nodup := by decide +kernel
theorem sc__law_alone : FnScope N__law_alone ["e"] (defScope (top 53)) := ⟨rfl, rfl, rfl, nd__law_alone, rfl, by decide +kernel, by decide +kernel⟩
def b__law_alone : SX := (sSeq (sSet 1 (eLst [(eIsE 0 (isX xs "NumberError")), (eIsE 0 (isX xs "SizeError")), (eIsE 0 (isX xs "PlaceError")), (eIsE 0 (isX xs "SameError")), (eIsE 0 (isX xs "NoInverse")), (eIsE 0 (isX xs "NoField")), (eIsE 0 (isX xs "TooLarge")), (eIsE 0 (isX xs "NotSubgroup")), (eIsE 0 (isX xs "UnlikeError")), (eIsE 0 (isX xs "PartError")), (eIsE 0 (isX xs "TextError")), (eIsE 0 (isX xs "BareError")), (eIsE 0 (isX xs "TradeError")), (eIsE 0 (isX xs "DaysError")), (eIsE 0 (isX xs "TermError")), (eIsE 0 (isX xs "KindError")), (eIsE 0 (isX xs "RowError")), (eIsE 0 (isX xs "ColumnError")), (eIsE 0 (isX xs "MatesError")), (eIsE 0 (isX xs "NoPrime")), (eIsE 0 (isX xs "Barred")), (eIsE 0 (isX xs "WishError")), (eIsE 0 (isX xs "MakingError")), (eIsE 0 (isX xs "CommandError")), (eIsE 0 (isX xs "NothingKept")), (eIsE 0 (isX xs "OpenError")), (eIsE 0 (isX xs "NothingToUndo")), (eIsE 0 (isX xs "NothingToRedo"))]))
  (sRet (eAnd (eB eqD (eCnt (eVar 1) (eC (.bl true))) (eC (.int 1))) (eIsE 0 (isX xs "ValueError")))))
def m__law_alone : Ex → Rt := runE b__law_alone 2
theorem bd__law_alone (M : Mg P K mg) : BodyE P w K mg base k N__law_alone "_law_alone" (defScope (top 53)) (defBody (top 53)) b__law_alone := fun f cd A outer s H E a0 oe0 cls0 dd0 hr hot hz =>
  have ho := hxOk_cxH (P := P) (w := w) (K := K) (mg := mg) (base := base) (N := N__law_alone) (qual := "_law_alone") (scope := defScope (top 53)) (f := f) (cd := cd) (A := A) (outer := outer) (s := s) (H := H) (E := E) hot hz
  (p_cons (p_set (i := 1) nd__law_alone rfl (by first | exact .inl rfl | exact .inr rfl) (r_lst (a_cons (r_isE ho M.is_NumberError M.gc_NumberError M.f_isinstance) (a_cons (r_isE ho M.is_SizeError M.gc_SizeError M.f_isinstance) (a_cons (r_isE ho M.is_PlaceError M.gc_PlaceError M.f_isinstance) (a_cons (r_isE ho M.is_SameError M.gc_SameError M.f_isinstance) (a_cons (r_isE ho M.is_NoInverse M.gc_NoInverse M.f_isinstance) (a_cons (r_isE ho M.is_NoField M.gc_NoField M.f_isinstance) (a_cons (r_isE ho M.is_TooLarge M.gc_TooLarge M.f_isinstance) (a_cons (r_isE ho M.is_NotSubgroup M.gc_NotSubgroup M.f_isinstance) (a_cons (r_isE ho M.is_UnlikeError M.gc_UnlikeError M.f_isinstance) (a_cons (r_isE ho M.is_PartError M.gc_PartError M.f_isinstance) (a_cons (r_isE ho M.is_TextError M.gc_TextError M.f_isinstance) (a_cons (r_isE ho M.is_BareError M.gc_BareError M.f_isinstance) (a_cons (r_isE ho M.is_TradeError M.gc_TradeError M.f_isinstance) (a_cons (r_isE ho M.is_DaysError M.gc_DaysError M.f_isinstance) (a_cons (r_isE ho M.is_TermError M.gc_TermError M.f_isinstance) (a_cons (r_isE ho M.is_KindError M.gc_KindError M.f_isinstance) (a_cons (r_isE ho M.is_RowError M.gc_RowError M.f_isinstance) (a_cons (r_isE ho M.is_ColumnError M.gc_ColumnError M.f_isinstance) (a_cons (r_isE ho M.is_MatesError M.gc_MatesError M.f_isinstance) (a_cons (r_isE ho M.is_NoPrime M.gc_NoPrime M.f_isinstance) (a_cons (r_isE ho M.is_Barred M.gc_Barred M.f_isinstance) (a_cons (r_isE ho M.is_WishError M.gc_WishError M.f_isinstance) (a_cons (r_isE ho M.is_MakingError M.gc_MakingError M.f_isinstance) (a_cons (r_isE ho M.is_CommandError M.gc_CommandError M.f_isinstance) (a_cons (r_isE ho M.is_NothingKept M.gc_NothingKept M.f_isinstance) (a_cons (r_isE ho M.is_OpenError M.gc_OpenError M.f_isinstance) (a_cons (r_isE ho M.is_NothingToUndo M.gc_NothingToUndo M.f_isinstance) (a_cons (r_isE ho M.is_NothingToRedo M.gc_NothingToRedo M.f_isinstance) a_nil))))))))))))))))))))))))))))))
  (p_one (p_ret (r_and (r_cmp (o_eq (hu_of hr)) s_eq (r_cnt (r_var 1) r_bl) r_int rfl) (r_one (r_isEb (Ts := "ValueError") ho M.isb_ValueError M.f_ValueError (by decide +kernel) M.f_isinstance))))))
/-! ### _law_error -/
abbrev N__law_error : List Str := ["e"]
theorem nd__law_error : N__law_error.Nodup := by decide +kernel
theorem sc__law_error : FnScope N__law_error ["e"] (defScope (top 54)) := ⟨rfl, rfl, rfl, nd__law_error, rfl, by decide +kernel, by decide +kernel⟩
def b__law_error : SX := (sSeq (sIf (eNot (eFnE 0 m__law_alone))
  (sRet (eTup [(eC (.str "odd"))])) sNil)
  (sSeq (sIf (eIsE 0 (isX xs "NumberError"))
  (sRet (eTup [(eC (.str "NumberError")), (eXf 0 "number" xf_number)])) sNil)
  (sSeq (sIf (eIsE 0 (isX xs "KindError"))
  (sRet (eTup [(eC (.str "KindError")), (eXf 0 "what" xf_what)])) sNil)
  (sRet (eTup [(eC (.str "another"))])))))
def m__law_error : Ex → Rt := runE b__law_error 1
theorem bd__law_error (M : Mg P K mg) (D__law_alone : DfE P w K mg base k "_law_alone" m__law_alone) : BodyE P w K mg base k N__law_error "_law_error" (defScope (top 54)) (defBody (top 54)) b__law_error := fun f cd A outer s H E a0 oe0 cls0 dd0 hr hot hz =>
  have ho := hxOk_cxH (P := P) (w := w) (K := K) (mg := mg) (base := base) (N := N__law_error) (qual := "_law_error") (scope := defScope (top 54)) (f := f) (cd := cd) (A := A) (outer := outer) (s := s) (H := H) (E := E) hot hz
  (p_cons (p_if (r_notT (r_tru (r_fnE D__law_alone hr ho)))
  (p_one (p_ret (r_tup (a_cons r_str a_nil)))) p_nil)
  (p_cons (p_if (r_tru (r_isE ho M.is_NumberError M.gc_NumberError M.f_isinstance))
  (p_one (p_ret (r_tup (a_cons r_str (a_cons (r_xf ho M.xf_number) a_nil))))) p_nil)
  (p_cons (p_if (r_tru (r_isE ho M.is_KindError M.gc_KindError M.f_isinstance))
  (p_one (p_ret (r_tup (a_cons r_str (a_cons (r_xf ho M.xf_what) a_nil))))) p_nil)
  (p_one (p_ret (r_tup (a_cons r_str a_nil)))))))
/-! ### _law_ask -/
abbrev N__law_ask : List Str := ["v", "d", "e"]
theorem nd__law_ask : N__law_ask.Nodup := by decide +kernel
theorem sc__law_ask : FnScope N__law_ask ["v", "d"] (defScope (top 55)) := ⟨rfl, rfl, rfl, nd__law_ask, rfl, by decide +kernel, by decide +kernel⟩
def b__law_ask : SX := (sTry (sRet (eTup [(eC (.str "told")), (eFn m_difference_triple [(eVar 0), (eVar 1)])])) 2 (isX xs "MadeError") (sRet (eFnE 2 m__law_error)))
def m__law_ask : Fn := runS b__law_ask 3
theorem bd__law_ask (M : Mg P K mg) (D_difference_triple : Df P w K mg base k "difference_triple" 2 m_difference_triple) (D__law_error : DfE P w K mg base k "_law_error" m__law_error) : Body P w K mg base k N__law_ask "_law_ask" (defScope (top 55)) (defBody (top 55)) b__law_ask := fun f cd A outer s H E hr =>
  (p_one (p_try (i := 2) rfl rfl nd__law_ask rfl rfl ⟨rfl, by decide, (.inl M.gc_MadeError)⟩ tk_cx M.te_MadeError (fun W0 pn0 xe0 htk hpo => (p_one (p_ret (r_tup (a_cons r_str (a_cons (r_fn D_difference_triple hr htk (a_cons (r_var 0) (a_cons (r_var 1) a_nil))) a_nil)))))) (fun a0 oe0 cl0 d0 pn0 ho => (p_one (p_ret (r_fnE D__law_error ⟨hr.dp, hr.un⟩ ho))))))
/-! ### _law_like -/
abbrev N__law_like : List Str := ["told", "due", "k"]
theorem nd__law_like : N__law_like.Nodup := by decide +kernel
theorem sc__law_like : FnScope N__law_like ["told", "due"] (defScope (top 52)) := ⟨rfl, rfl, rfl, nd__law_like, rfl, by decide +kernel, by decide +kernel⟩
def b__law_like (m : Fn) : SX := (sSeq (sIf (eOr (eIsT "tuple" (eVar 1)) (eIsT "list" (eVar 1)))
  (sSeq (sIf (eAnd (eIsT "tuple" (eVar 1)) (eNot (eIsT "tuple" (eVar 0))))
  (sRet (eC (.bl false))) sNil)
  (sSeq (sIf (eAnd (eIsT "list" (eVar 1)) (eNot (eIsT "list" (eVar 0))))
  (sRet (eC (.bl false))) sNil)
  (sSeq (sIf (eB neD (eCall lenD [(eVar 0)]) (eCall lenD [(eVar 1)]))
  (sRet (eC (.bl false))) sNil)
  (sRet (eCall allD [(eComp (iR1 (eCall lenD [(eVar 1)])) (bNm 2) (eC (.bl true)) (eFn m [(eB ixD (eVar 0) (eVar 2)), (eB ixD (eVar 1) (eVar 2))]) [2])]))))) sNil)
  (sSeq (sIf (eIsT "bool" (eVar 1))
  (sRet (eAnd (eIsT "bool" (eVar 0)) (eB eqD (eVar 0) (eVar 1)))) sNil)
  (sSeq (sIf (eIsT "int" (eVar 1))
  (sRet (eAnd (eIsT "int" (eVar 0)) (eAnd (eNot (eIsT "bool" (eVar 0))) (eB eqD (eVar 0) (eVar 1))))) sNil)
  (sSeq (sIf (eIsT "str" (eVar 1))
  (sRet (eAnd (eIsT "str" (eVar 0)) (eB eqD (eVar 0) (eVar 1)))) sNil)
  (sRet (eB isD (eVar 0) (eC .non)))))))
def m__law_like : Nat → Fn
  | 0 => fun _ => .stuck
  | n + 1 => runS (b__law_like (m__law_like n)) 3
theorem bd__law_like {m : Fn} (M : Mg P K mg) (D__law_like : Df P w K mg base k "_law_like" 2 m) : Body P w K mg base k N__law_like "_law_like" (defScope (top 52)) (defBody (top 52)) (b__law_like m) := fun f cd A outer s H E hr =>
  (p_cons (p_if (r_orT (r_tru (r_isT (r_var 1) M.f_isinstance M.f_tuple (by decide +kernel))) (r_orT1 (r_tru (r_isT (r_var 1) M.f_isinstance M.f_list (by decide +kernel))))).pt
  (p_cons (p_if (r_andT (r_tru (r_isT (r_var 1) M.f_isinstance M.f_tuple (by decide +kernel))) (r_andT1 (r_notT (r_tru (r_isT (r_var 0) M.f_isinstance M.f_tuple (by decide +kernel)))))).pt
  (p_one (p_ret r_bl)) p_nil)
  (p_cons (p_if (r_andT (r_tru (r_isT (r_var 1) M.f_isinstance M.f_list (by decide +kernel))) (r_andT1 (r_notT (r_tru (r_isT (r_var 0) M.f_isinstance M.f_list (by decide +kernel)))))).pt
  (p_one (p_ret r_bl)) p_nil)
  (p_cons (p_if (r_cmpT (o_ne hr.units) s_ne b_ne (r_callB call_len s_len M.f_len (by decide +kernel) (a_cons (r_var 0) a_nil)) (r_callB call_len s_len M.f_len (by decide +kernel) (a_cons (r_var 1) a_nil)) rfl)
  (p_one (p_ret r_bl)) p_nil)
  (p_one (p_ret (r_callB (cr_all rfl) s_all M.f_all (by decide +kernel) (a_cons (r_comp (own := [("k", 2)]) rfl nd__law_like (pi_range1 rfl M.f_range (pa_cons (r_callB call_len s_len M.f_len (by decide +kernel) (a_cons (r_var 1) a_nil)) pa_nil)) ri_r1 rfl (fun s0 H0 C0 cl0 fp0 => (g_nm (i := 2) nd__law_like rfl (by first | exact .inl rfl | exact .inr rfl))) (fun s0 H0 C0 cl0 fp0 => c_nil) (fun s0 H0 C0 cl0 fp0 => (r_fn D__law_like hr tk0 (a_cons (r_ix (r_var 0) (r_var 2)) (a_cons (r_ix (r_var 1) (r_var 2)) a_nil))))) a_nil))))))) p_nil)
  (p_cons (p_if (r_tru (r_isT (r_var 1) M.f_isinstance M.f_bool (by decide +kernel)))
  (p_one (p_ret (r_and (r_isT (r_var 0) M.f_isinstance M.f_bool (by decide +kernel)) (r_one (r_cmp (o_eq hr.units) s_eq (r_var 0) (r_var 1) rfl))))) p_nil)
  (p_cons (p_if (r_tru (r_isT (r_var 1) M.f_isinstance M.f_int (by decide +kernel)))
  (p_one (p_ret (r_and (r_isT (r_var 0) M.f_isinstance M.f_int (by decide +kernel)) (r_and (r_not (r_isT (r_var 0) M.f_isinstance M.f_bool (by decide +kernel))) (r_one (r_cmp (o_eq hr.units) s_eq (r_var 0) (r_var 1) rfl)))))) p_nil)
  (p_cons (p_if (r_tru (r_isT (r_var 1) M.f_isinstance M.f_str (by decide +kernel)))
  (p_one (p_ret (r_and (r_isT (r_var 0) M.f_isinstance M.f_str (by decide +kernel)) (r_one (r_cmp (o_eq hr.units) s_eq (r_var 0) (r_var 1) rfl))))) p_nil)
  (p_one (p_ret (r_cmp op_isN s_is (r_var 0) r_non rfl)))))))
/-! ### _law_family -/
abbrev N__law_family : List Str := ["v", "which", "cell", "rows", "row", "many", "due", "d", "told"]
theorem nd__law_family : N__law_family.Nodup := by decide +kernel
theorem sc__law_family : FnScope N__law_family ["v", "which", "cell"] (defScope (top 61)) := ⟨rfl, rfl, rfl, nd__law_family, rfl, by decide +kernel, by decide +kernel⟩
def b__law_family : SX := (sSeq (sSet 3 (eFn m__law_table [(eVar 0)]))
  (sSeq (sSet 4 (eB ixD (eVar 3) (eB modD (eCall intD [(eVar 1)]) (eCall lenD [(eVar 3)]))))
  (sSeq (sSet 5 (eB addD (eB subD (eB addD (eB fdivD (eVar 0) (eC (.int 18))) (eB ixD (eVar 4) (eC (.int 1)))) (eB ixD (eVar 4) (eC (.int 0)))) (eC (.int 1))))
  (sSeq (sIf (eB ltD (eVar 5) (eC (.int 1)))
  (sSeq (sSet 4 (eB ixD (eVar 3) (eC (.int 0))))
  (sSet 5 (eB addD (eB subD (eB addD (eB fdivD (eVar 0) (eC (.int 18))) (eB ixD (eVar 4) (eC (.int 1)))) (eB ixD (eVar 4) (eC (.int 0)))) (eC (.int 1))))) sNil)
  (sSeq (sSet 6 (eFn m__law_triple [(eVar 0), (eVar 4), (eB addD (eB ixD (eVar 4) (eC (.int 0))) (eFn m__law_spot [(eVar 2), (eVar 5)]))]))
  (sSeq (sFor (iV seqI (eVar 6)) (bNm 7)
  (sSeq (sSet 8 (eFn m__law_ask [(eVar 0), (eVar 7)]))
  (sSeq (sIf (eNot (eFn (m__law_like 5) [(eVar 8), (eTup [(eC (.str "told")), (eVar 6)])]))
  (sRet (eC (.bl false))) sNil)
  (sIf (eB ninD (eB addD (eB ixD (eB ixD (eVar 8) (eC (.int 1))) (eC (.int 0))) (eB ixD (eB ixD (eVar 8) (eC (.int 1))) (eC (.int 1)))) (eTup [(eB ixD (eB ixD (eVar 8) (eC (.int 1))) (eC (.int 2))), (eB subD (eVar 0) (eB ixD (eB ixD (eVar 8) (eC (.int 1))) (eC (.int 2))))]))
  (sRet (eC (.bl false))) sNil))))
  (sRet (eC (.bl true)))))))))
def m__law_family : Fn := runS b__law_family 9
theorem bd__law_family (M : Mg P K mg) (D__law_table : Df P w K mg base k "_law_table" 1 m__law_table) (D__law_triple : Df P w K mg base k "_law_triple" 3 m__law_triple) (D__law_spot : Df P w K mg base k "_law_spot" 2 m__law_spot) (D__law_ask : Df P w K mg base k "_law_ask" 2 m__law_ask) (D__law_like : Df P w K mg base k "_law_like" 2 (m__law_like 5)) : Body P w K mg base k N__law_family "_law_family" (defScope (top 61)) (defBody (top 61)) b__law_family := fun f cd A outer s H E hr =>
  (p_cons (p_set (i := 3) nd__law_family rfl (by first | exact .inl rfl | exact .inr rfl) (r_fn D__law_table hr tk_cx (a_cons (r_var 0) a_nil)))
  (p_cons (p_set (i := 4) nd__law_family rfl (by first | exact .inl rfl | exact .inr rfl) (r_ix (r_var 3) (r_bin op_modN s_mod (r_callTy call_int1 s_int M.f_int (by decide +kernel) (a_cons (r_var 1) a_nil)) (r_callB call_len s_len M.f_len (by decide +kernel) (a_cons (r_var 3) a_nil)))))
  (p_cons (p_set (i := 5) nd__law_family rfl (by first | exact .inl rfl | exact .inr rfl) (r_bin o_add s_add (r_bin op_sub s_sub (r_bin o_add s_add (r_bin o_fdiv s_fdiv (r_var 0) r_int) (r_ix (r_var 4) r_int)) (r_ix (r_var 4) r_int)) r_int))
  (p_cons (p_if (r_cmpT op_lt (s_cmpI _) b_cmpI (r_var 5) r_int rfl)
  (p_cons (p_set (i := 4) nd__law_family rfl (by first | exact .inl rfl | exact .inr rfl) (r_ix (r_var 3) r_int))
  (p_one (p_set (i := 5) nd__law_family rfl (by first | exact .inl rfl | exact .inr rfl) (r_bin o_add s_add (r_bin op_sub s_sub (r_bin o_add s_add (r_bin o_fdiv s_fdiv (r_var 0) r_int) (r_ix (r_var 4) r_int)) (r_ix (r_var 4) r_int)) r_int)))) p_nil)
  (p_cons (p_set (i := 6) nd__law_family rfl (by first | exact .inl rfl | exact .inr rfl) (r_fn D__law_triple hr tk_cx (a_cons (r_var 0) (a_cons (r_var 4) (a_cons (r_bin o_add s_add (r_ix (r_var 4) r_int) (r_fn D__law_spot hr tk_cx (a_cons (r_var 2) (a_cons (r_var 5) a_nil)))) a_nil)))))
  (p_cons (p_for ps_cx rfl (pi_seq (r_var 6)) ri_seq (g_nm (i := 7) nd__law_family rfl (by first | exact .inl rfl | exact .inr rfl))
  (p_cons (p_set (i := 8) nd__law_family rfl (by first | exact .inl rfl | exact .inr rfl) (r_fn D__law_ask hr tk_cx (a_cons (r_var 0) (a_cons (r_var 7) a_nil))))
  (p_cons (p_if (r_notT (r_tru (r_fn D__law_like hr tk_cx (a_cons (r_var 8) (a_cons (r_tup (a_cons r_str (a_cons (r_var 6) a_nil))) a_nil)))))
  (p_one (p_ret r_bl)) p_nil)
  (p_one (p_if (r_cmpT op_notIn_seq s_nin b_nin (r_bin o_add s_add (r_ix (r_ix (r_var 8) r_int) r_int) (r_ix (r_ix (r_var 8) r_int) r_int)) (r_tup (a_cons (r_ix (r_ix (r_var 8) r_int) r_int) (a_cons (r_bin op_sub s_sub (r_var 0) (r_ix (r_ix (r_var 8) r_int) r_int)) a_nil))) rfl)
  (p_one (p_ret r_bl)) p_nil)))))
  (p_one (p_ret r_bl))))))))
/-! ### _law_find -/
abbrev N__law_find : List Str := ["v", "d", "s", "row", "at", "goal", "rest", "r"]
theorem nd__law_find : N__law_find.Nodup := by decide +kernel
theorem sc__law_find : FnScope N__law_find ["v", "d"] (defScope (top 58)) := ⟨rfl, rfl, rfl, nd__law_find, rfl, by decide +kernel, by decide +kernel⟩
def b__law_find : SX := (sSeq (sSet 2 (eB fdivD (eVar 0) (eC (.int 18))))
  (sSeq (sFor (iV seqI (eFn m__law_table [(eVar 0)])) (bNm 3)
  (sFor (iV seqI (eLst [(eC (.int 2)), (eC (.int 5)), (eC (.int 8))])) (bNm 4)
  (sFor (iV seqI (eLst [(eVar 1), (eB subD (eVar 0) (eVar 1))])) (bNm 5)
  (sSeq (sSet 6 (eB subD (eB subD (eVar 5) (eB mulD (eB ixD (eVar 3) (eB addD (eVar 4) (eC (.int 1)))) (eVar 2))) (eB ixD (eVar 3) (eB addD (eVar 4) (eC (.int 2))))))
  (sSeq (sSet 7 (eB ixD (eVar 3) (eC (.int 0))))
  (sSeq (sIf (eB neD (eB ixD (eVar 3) (eVar 4)) (eC (.int 0)))
  (sSet 7 (eB fdivD (eVar 6) (eB ixD (eVar 3) (eVar 4)))) sNil)
  (sIf (eAnd (eB eqD (eVar 6) (eB mulD (eB ixD (eVar 3) (eVar 4)) (eVar 7))) (eChain leD leD (eB ixD (eVar 3) (eC (.int 0))) (eVar 7) (eB addD (eVar 2) (eB ixD (eVar 3) (eC (.int 1))))))
  (sRet (eFn m__law_triple [(eVar 0), (eVar 3), (eVar 7)])) sNil)))))))
  (sRet (eTup [(eC (.int 0)), (eC (.int 0)), (eC (.int 0))]))))
def m__law_find : Fn := runS b__law_find 8
theorem bd__law_find (M : Mg P K mg) (D__law_table : Df P w K mg base k "_law_table" 1 m__law_table) (D__law_triple : Df P w K mg base k "_law_triple" 3 m__law_triple) : Body P w K mg base k N__law_find "_law_find" (defScope (top 58)) (defBody (top 58)) b__law_find := fun f cd A outer s H E hr =>
  (p_cons (p_set (i := 2) nd__law_find rfl (by first | exact .inl rfl | exact .inr rfl) (r_bin o_fdiv s_fdiv (r_var 0) r_int))
  (p_cons (p_for ps_cx rfl (pi_seq (r_fn D__law_table hr tk_cx (a_cons (r_var 0) a_nil))) ri_seq (g_nm (i := 3) nd__law_find rfl (by first | exact .inl rfl | exact .inr rfl))
  (p_one (p_for ps_cx rfl (pi_seq (r_lst (a_cons r_int (a_cons r_int (a_cons r_int a_nil))))) ri_seq (g_nm (i := 4) nd__law_find rfl (by first | exact .inl rfl | exact .inr rfl))
  (p_one (p_for ps_cx rfl (pi_seq (r_lst (a_cons (r_var 1) (a_cons (r_bin op_sub s_sub (r_var 0) (r_var 1)) a_nil)))) ri_seq (g_nm (i := 5) nd__law_find rfl (by first | exact .inl rfl | exact .inr rfl))
  (p_cons (p_set (i := 6) nd__law_find rfl (by first | exact .inl rfl | exact .inr rfl) (r_bin op_sub s_sub (r_bin op_sub s_sub (r_var 5) (r_bin o_mul s_mul (r_ix (r_var 3) (r_bin o_add s_add (r_var 4) r_int)) (r_var 2))) (r_ix (r_var 3) (r_bin o_add s_add (r_var 4) r_int))))
  (p_cons (p_set (i := 7) nd__law_find rfl (by first | exact .inl rfl | exact .inr rfl) (r_ix (r_var 3) r_int))
  (p_cons (p_if (r_cmpT (o_ne hr.units) s_ne b_ne (r_ix (r_var 3) (r_var 4)) r_int rfl)
  (p_one (p_set (i := 7) nd__law_find rfl (by first | exact .inl rfl | exact .inr rfl) (r_bin o_fdiv s_fdiv (r_var 6) (r_ix (r_var 3) (r_var 4))))) p_nil)
  (p_one (p_if (r_andT (r_cmpT (o_eq hr.units) s_eq b_eq (r_var 6) (r_bin o_mul s_mul (r_ix (r_var 3) (r_var 4)) (r_var 7)) rfl) (r_andT1 (r_chainT op_le op_le (s_cmpI _) (s_cmpI _) b_cmpI (r_ix (r_var 3) r_int) (r_var 7) (r_bin o_add s_add (r_var 2) (r_ix (r_var 3) r_int))))).pt
  (p_one (p_ret (r_fn D__law_triple hr tk_cx (a_cons (r_var 0) (a_cons (r_var 3) (a_cons (r_var 7) a_nil)))))) p_nil))))))))))
  (p_one (p_ret (r_tup (a_cons r_int (a_cons r_int (a_cons r_int a_nil))))))))
/-! ### _law_every -/
abbrev N__law_every : List Str := ["v", "out", "d", "told"]
theorem nd__law_every : N__law_every.Nodup := by decide +kernel
theorem sc__law_every : FnScope N__law_every ["v"] (defScope (top 62)) := ⟨rfl, rfl, rfl, nd__law_every, rfl, by decide +kernel, by decide +kernel⟩
def b__law_every : SX := (sSeq (sSet 1 (eLst []))
  (sSeq (sFor (iR2 (eC (.int 1)) (eB fdivD (eB addD (eVar 0) (eC (.int 1))) (eC (.int 2)))) (bNm 2)
  (sIf (eB neD (eB mulD (eC (.int 3)) (eVar 2)) (eVar 0))
  (sSeq (sSet 3 (eFn m__law_ask [(eVar 0), (eVar 2)]))
  (sSeq (sIf (eNot (eFn (m__law_like 5) [(eVar 3), (eTup [(eC (.str "told")), (eFn m__law_find [(eVar 0), (eVar 2)])])]))
  (sRet (eC (.bl false))) sNil)
  (sIf (eB eqD (eB ixD (eB ixD (eVar 3) (eC (.int 1))) (eC (.int 0))) (eVar 2))
  (sSet 1 (eB addD (eVar 1) (eCall listD [(eB ixD (eVar 3) (eC (.int 1)))]))) sNil))) sNil))
  (sRet (eB eqD (eCall sortedD [(eVar 1)]) (eComp (iR2 (eC (.int 1)) (eB fdivD (eB addD (eVar 0) (eC (.int 1))) (eC (.int 2)))) (bNm 2) (eB neD (eB mulD (eC (.int 3)) (eVar 2)) (eVar 0)) (eVar 2) [2])))))
def m__law_every : Fn := runS b__law_every 4
theorem bd__law_every (M : Mg P K mg) (D__law_ask : Df P w K mg base k "_law_ask" 2 m__law_ask) (D__law_like : Df P w K mg base k "_law_like" 2 (m__law_like 5)) (D__law_find : Df P w K mg base k "_law_find" 2 m__law_find) : Body P w K mg base k N__law_every "_law_every" (defScope (top 62)) (defBody (top 62)) b__law_every := fun f cd A outer s H E hr =>
  (p_cons (p_set (i := 1) nd__law_every rfl (by first | exact .inl rfl | exact .inr rfl) (r_lst a_nil))
  (p_cons (p_for ps_cx rfl (pi_range2 rfl M.f_range (pa_cons r_int (pa_cons (r_bin o_fdiv s_fdiv (r_bin o_add s_add (r_var 0) r_int) r_int) pa_nil))) ri_r2 (g_nm (i := 2) nd__law_every rfl (by first | exact .inl rfl | exact .inr rfl))
  (p_one (p_if (r_cmpT (o_ne hr.units) s_ne b_ne (r_bin o_mul s_mul r_int (r_var 2)) (r_var 0) rfl)
  (p_cons (p_set (i := 3) nd__law_every rfl (by first | exact .inl rfl | exact .inr rfl) (r_fn D__law_ask hr tk_cx (a_cons (r_var 0) (a_cons (r_var 2) a_nil))))
  (p_cons (p_if (r_notT (r_tru (r_fn D__law_like hr tk_cx (a_cons (r_var 3) (a_cons (r_tup (a_cons r_str (a_cons (r_fn D__law_find hr tk_cx (a_cons (r_var 0) (a_cons (r_var 2) a_nil))) a_nil))) a_nil)))))
  (p_one (p_ret r_bl)) p_nil)
  (p_one (p_if (r_cmpT (o_eq hr.units) s_eq b_eq (r_ix (r_ix (r_var 3) r_int) r_int) (r_var 2) rfl)
  (p_one (p_set (i := 1) nd__law_every rfl (by first | exact .inl rfl | exact .inr rfl) (r_bin o_add s_add (r_var 1) (r_callTy call_list_of s_list M.f_list (by decide +kernel) (a_cons (r_ix (r_var 3) r_int) a_nil))))) p_nil)))) p_nil)))
  (p_one (p_ret (r_cmp (o_eq hr.units) s_eq (r_callB cr_sortedI s_sorted M.f_sorted (by decide +kernel) (a_cons (r_var 1) a_nil)) (r_comp (own := [("d", 2)]) rfl nd__law_every (pi_range2 rfl M.f_range (pa_cons r_int (pa_cons (r_bin o_fdiv s_fdiv (r_bin o_add s_add (r_var 0) r_int) r_int) pa_nil))) ri_r2 rfl (fun s0 H0 C0 cl0 fp0 => (g_nm (i := 2) nd__law_every rfl (by first | exact .inl rfl | exact .inr rfl))) (fun s0 H0 C0 cl0 fp0 => (c_one (r_cmpT (o_ne hr.units) s_ne b_ne (r_bin o_mul s_mul r_int (r_var 2)) (r_var 0) rfl))) (fun s0 H0 C0 cl0 fp0 => (r_var 2))) rfl)))))
/-! ### _law_wanted -/
abbrev N__law_wanted : List Str := ["v", "d"]
theorem nd__law_wanted : N__law_wanted.Nodup := by decide +kernel
theorem sc__law_wanted : FnScope N__law_wanted ["v", "d"] (defScope (top 59)) := ⟨rfl, rfl, rfl, nd__law_wanted, rfl, by decide +kernel, by decide +kernel⟩
def b__law_wanted : SX := (sSeq (sIf (eB ltD (eVar 0) (eC (.int 7)))
  (sRet (eTup [(eC (.str "NumberError")), (eVar 0)])) sNil)
  (sSeq (sIf (eOr (eB ltD (eVar 1) (eC (.int 1))) (eB gtD (eVar 1) (eB fdivD (eB subD (eVar 0) (eC (.int 1))) (eC (.int 2)))))
  (sRet (eTup [(eC (.str "NumberError")), (eVar 1)])) sNil)
  (sSeq (sIf (eOr (eB ninD (eB modD (eVar 0) (eC (.int 6))) (eTup [(eC (.int 1)), (eC (.int 3))])) (eB eqD (eVar 0) (eC (.int 9))))
  (sRet (eTup [(eC (.str "KindError")), (eC (.str "ring"))])) sNil)
  (sSeq (sIf (eB eqD (eB mulD (eC (.int 3)) (eVar 1)) (eVar 0))
  (sRet (eTup [(eC (.str "KindError")), (eC (.str "short"))])) sNil)
  (sRet (eTup [(eC (.str "told")), (eFn m__law_find [(eVar 0), (eVar 1)])]))))))
def m__law_wanted : Fn := runS b__law_wanted 2
theorem bd__law_wanted (M : Mg P K mg) (D__law_find : Df P w K mg base k "_law_find" 2 m__law_find) : Body P w K mg base k N__law_wanted "_law_wanted" (defScope (top 59)) (defBody (top 59)) b__law_wanted := fun f cd A outer s H E hr =>
  (p_cons (p_if (r_cmpT op_lt (s_cmpI _) b_cmpI (r_var 0) r_int rfl)
  (p_one (p_ret (r_tup (a_cons r_str (a_cons (r_var 0) a_nil))))) p_nil)
  (p_cons (p_if (r_orT (r_cmpT op_lt (s_cmpI _) b_cmpI (r_var 1) r_int rfl) (r_orT1 (r_cmpT op_gt (s_cmpI _) b_cmpI (r_var 1) (r_bin o_fdiv s_fdiv (r_bin op_sub s_sub (r_var 0) r_int) r_int) rfl))).pt
  (p_one (p_ret (r_tup (a_cons r_str (a_cons (r_var 1) a_nil))))) p_nil)
  (p_cons (p_if (r_orT (r_cmpT op_notIn_seq s_nin b_nin (r_bin op_modN s_mod (r_var 0) r_int) (r_tup (a_cons r_int (a_cons r_int a_nil))) rfl) (r_orT1 (r_cmpT (o_eq hr.units) s_eq b_eq (r_var 0) r_int rfl))).pt
  (p_one (p_ret (r_tup (a_cons r_str (a_cons r_str a_nil))))) p_nil)
  (p_cons (p_if (r_cmpT (o_eq hr.units) s_eq b_eq (r_bin o_mul s_mul r_int (r_var 1)) (r_var 0) rfl)
  (p_one (p_ret (r_tup (a_cons r_str (a_cons r_str a_nil))))) p_nil)
  (p_one (p_ret (r_tup (a_cons r_str (a_cons (r_fn D__law_find hr tk_cx (a_cons (r_var 0) (a_cons (r_var 1) a_nil))) a_nil)))))))))
/-! ### law -/
abbrev N_law : List Str := ["script", "c", "v", "k", "two"]
theorem nd_law : N_law.Nodup := by decide +kernel
theorem sc_law : FnScope N_law ["script"] (defScope (top 65)) := ⟨rfl, rfl, rfl, nd_law, rfl, by decide +kernel, by decide +kernel⟩
def b_law : SX := (sSeq (sSet 1 (eFn m__law_cells [(eVar 0)]))
  (sSeq (sSet 2 (eFn m__law_size [(eB modD (eCall intD [(eB ixD (eVar 1) (eC (.int 0)))]) (eC (.int 6))), (eB ixD (eVar 1) (eC (.int 1))), (eB ixD (eVar 1) (eC (.int 2)))]))
  (sSeq (sFor (iR1 (eC (.int 6))) (bNm 3)
  (sIf (eNot (eFn m__law_family [(eVar 2), (eB ixD (eVar 1) (eB addD (eC (.int 3)) (eB mulD (eC (.int 2)) (eVar 3)))), (eB ixD (eVar 1) (eB addD (eC (.int 4)) (eB mulD (eC (.int 2)) (eVar 3))))]))
  (sRet (eC (.bl false))) sNil))
  (sSeq (sIf (eAnd (eB leD (eVar 2) (eC (.int 120))) (eNot (eFn m__law_every [(eVar 2)])))
  (sRet (eC (.bl false))) sNil)
  (sSeq (sFor (iV seqI (eB addD (eFn m__law_near [(eVar 2), (eVar 1)]) (eFn m__law_others [(eVar 1)]))) (bNm 4)
  (sIf (eNot (eFn (m__law_like 5) [(eFn m__law_ask [(eB ixD (eVar 4) (eC (.int 0))), (eB ixD (eVar 4) (eC (.int 1)))]), (eFn m__law_wanted [(eB ixD (eVar 4) (eC (.int 0))), (eB ixD (eVar 4) (eC (.int 1)))])]))
  (sRet (eC (.bl false))) sNil))
  (sRet (eC (.bl true))))))))
def m_law : Fn := runS b_law 5
theorem bd_law (M : Mg P K mg) (D__law_cells : Df P w K mg base k "_law_cells" 1 m__law_cells) (D__law_size : Df P w K mg base k "_law_size" 3 m__law_size) (D__law_family : Df P w K mg base k "_law_family" 3 m__law_family) (D__law_every : Df P w K mg base k "_law_every" 1 m__law_every) (D__law_near : Df P w K mg base k "_law_near" 2 m__law_near) (D__law_others : Df P w K mg base k "_law_others" 1 m__law_others) (D__law_like : Df P w K mg base k "_law_like" 2 (m__law_like 5)) (D__law_ask : Df P w K mg base k "_law_ask" 2 m__law_ask) (D__law_wanted : Df P w K mg base k "_law_wanted" 2 m__law_wanted) : Body P w K mg base k N_law "law" (defScope (top 65)) (defBody (top 65)) b_law := fun f cd A outer s H E hr =>
  (p_cons (p_set (i := 1) nd_law rfl (by first | exact .inl rfl | exact .inr rfl) (r_fn D__law_cells hr tk_cx (a_cons (r_var 0) a_nil)))
  (p_cons (p_set (i := 2) nd_law rfl (by first | exact .inl rfl | exact .inr rfl) (r_fn D__law_size hr tk_cx (a_cons (r_bin op_modN s_mod (r_callTy call_int1 s_int M.f_int (by decide +kernel) (a_cons (r_ix (r_var 1) r_int) a_nil)) r_int) (a_cons (r_ix (r_var 1) r_int) (a_cons (r_ix (r_var 1) r_int) a_nil)))))
  (p_cons (p_for ps_cx rfl (pi_range1 rfl M.f_range (pa_cons r_int pa_nil)) ri_r1 (g_nm (i := 3) nd_law rfl (by first | exact .inl rfl | exact .inr rfl))
  (p_one (p_if (r_notT (r_tru (r_fn D__law_family hr tk_cx (a_cons (r_var 2) (a_cons (r_ix (r_var 1) (r_bin o_add s_add r_int (r_bin o_mul s_mul r_int (r_var 3)))) (a_cons (r_ix (r_var 1) (r_bin o_add s_add r_int (r_bin o_mul s_mul r_int (r_var 3)))) a_nil))))))
  (p_one (p_ret r_bl)) p_nil)))
  (p_cons (p_if (r_andT (r_cmpT op_le (s_cmpI _) b_cmpI (r_var 2) r_int rfl) (r_andT1 (r_notT (r_tru (r_fn D__law_every hr tk_cx (a_cons (r_var 2) a_nil)))))).pt
  (p_one (p_ret r_bl)) p_nil)
  (p_cons (p_for ps_cx rfl (pi_seq (r_bin o_add s_add (r_fn D__law_near hr tk_cx (a_cons (r_var 2) (a_cons (r_var 1) a_nil))) (r_fn D__law_others hr tk_cx (a_cons (r_var 1) a_nil)))) ri_seq (g_nm (i := 4) nd_law rfl (by first | exact .inl rfl | exact .inr rfl))
  (p_one (p_if (r_notT (r_tru (r_fn D__law_like hr tk_cx (a_cons (r_fn D__law_ask hr tk_cx (a_cons (r_ix (r_var 4) r_int) (a_cons (r_ix (r_var 4) r_int) a_nil))) (a_cons (r_fn D__law_wanted hr tk_cx (a_cons (r_ix (r_var 4) r_int) (a_cons (r_ix (r_var 4) r_int) a_nil))) a_nil)))))
  (p_one (p_ret r_bl)) p_nil)))
  (p_one (p_ret r_bl)))))))
end
end K39

namespace K39
open PySem PySem.Spec PyProof.Rows L2 MB
def chkL (K : Fg) : List Bool := [(He.Fa.free "ValueError").ok K,
  (He.Fa.free "all").ok K,
  (He.Fa.free "bool").ok K,
  (He.Fa.free "divmod").ok K,
  (He.Fa.free "int").ok K,
  (He.Fa.free "isinstance").ok K,
  (He.Fa.free "len").ok K,
  (He.Fa.free "list").ok K,
  (He.Fa.free "min").ok K,
  (He.Fa.free "range").ok K,
  (He.Fa.free "sorted").ok K,
  (He.Fa.free "str").ok K,
  (He.Fa.free "sum").ok K,
  (He.Fa.free "tuple").ok K,
  gcB K "LEAST" dc_LEAST,
  gcB K "MOST" dc_MOST,
  gcB K "RING_OF_27" dc_RING_OF_27,
  gcB K "RING_OF_45" dc_RING_OF_45,
  (He.Fa.glo "FAMILIES").ok K,
  tbB K "FAMILIES" tb_FAMILIES,
  (He.Fa.glo "_law_mixed").ok K,
  (He.Fa.glo "_law_cells").ok K,
  (He.Fa.glo "_law_size").ok K,
  (He.Fa.glo "_law_spot").ok K,
  (He.Fa.glo "_law_near").ok K,
  (He.Fa.glo "_law_others").ok K,
  (He.Fa.glo "_law_table").ok K,
  (He.Fa.glo "_law_triple").ok K,
  (He.Fa.glo "look_number").ok K,
  (He.Fa.glo "_alone").ok K,
  (He.Fa.glo "_families_of_1").ok K,
  (He.Fa.glo "_families_of_3").ok K,
  (He.Fa.glo "_families_of_7").ok K,
  (He.Fa.glo "_families_of_9").ok K,
  (He.Fa.glo "_families_of_13").ok K,
  (He.Fa.glo "_families_of_15").ok K,
  (He.Fa.glo "found_triple").ok K,
  (He.Fa.glo "is_ring").ok K,
  (He.Fa.glo "difference_triple").ok K,
  (He.Fa.glo "_law_alone").ok K,
  (He.Fa.glo "_law_error").ok K,
  (He.Fa.glo "_law_ask").ok K,
  (He.Fa.glo "_law_like").ok K,
  (He.Fa.glo "_law_family").ok K,
  (He.Fa.glo "_law_find").ok K,
  (He.Fa.glo "_law_every").ok K,
  (He.Fa.glo "_law_wanted").ok K,
  (He.Fa.glo "law").ok K,
  (He.Fa.glo "BareError").ok K,
  (He.Fa.glo "Barred").ok K,
  (He.Fa.glo "ColumnError").ok K,
  (He.Fa.glo "CommandError").ok K,
  (He.Fa.glo "DaysError").ok K,
  (He.Fa.glo "KindError").ok K,
  (He.Fa.glo "MadeError").ok K,
  (He.Fa.glo "MakingError").ok K,
  (He.Fa.glo "MatesError").ok K,
  (He.Fa.glo "NoField").ok K,
  (He.Fa.glo "NoInverse").ok K,
  (He.Fa.glo "NoPrime").ok K,
  (He.Fa.glo "NotSubgroup").ok K,
  (He.Fa.glo "NothingKept").ok K,
  (He.Fa.glo "NothingToRedo").ok K,
  (He.Fa.glo "NothingToUndo").ok K,
  (He.Fa.glo "NumberError").ok K,
  (He.Fa.glo "OpenError").ok K,
  (He.Fa.glo "PartError").ok K,
  (He.Fa.glo "PlaceError").ok K,
  (He.Fa.glo "RowError").ok K,
  (He.Fa.glo "SameError").ok K,
  (He.Fa.glo "SizeError").ok K,
  (He.Fa.glo "TermError").ok K,
  (He.Fa.glo "TextError").ok K,
  (He.Fa.glo "TooLarge").ok K,
  (He.Fa.glo "TradeError").ok K,
  (He.Fa.glo "UnlikeError").ok K,
  (He.Fa.glo "WishError").ok K,
  (xs.all fun p => excCB K (He.ga K p.1)),
  isB K xs "BareError" (.ref (He.ga K "BareError")),
  isB K xs "Barred" (.ref (He.ga K "Barred")),
  isB K xs "ColumnError" (.ref (He.ga K "ColumnError")),
  isB K xs "CommandError" (.ref (He.ga K "CommandError")),
  isB K xs "DaysError" (.ref (He.ga K "DaysError")),
  isB K xs "KindError" (.ref (He.ga K "KindError")),
  isB K xs "MakingError" (.ref (He.ga K "MakingError")),
  isB K xs "MatesError" (.ref (He.ga K "MatesError")),
  isB K xs "NoField" (.ref (He.ga K "NoField")),
  isB K xs "NoInverse" (.ref (He.ga K "NoInverse")),
  isB K xs "NoPrime" (.ref (He.ga K "NoPrime")),
  isB K xs "NotSubgroup" (.ref (He.ga K "NotSubgroup")),
  isB K xs "NothingKept" (.ref (He.ga K "NothingKept")),
  isB K xs "NothingToRedo" (.ref (He.ga K "NothingToRedo")),
  isB K xs "NothingToUndo" (.ref (He.ga K "NothingToUndo")),
  isB K xs "NumberError" (.ref (He.ga K "NumberError")),
  isB K xs "OpenError" (.ref (He.ga K "OpenError")),
  isB K xs "PartError" (.ref (He.ga K "PartError")),
  isB K xs "PlaceError" (.ref (He.ga K "PlaceError")),
  isB K xs "RowError" (.ref (He.ga K "RowError")),
  isB K xs "SameError" (.ref (He.ga K "SameError")),
  isB K xs "SizeError" (.ref (He.ga K "SizeError")),
  isB K xs "TermError" (.ref (He.ga K "TermError")),
  isB K xs "TextError" (.ref (He.ga K "TextError")),
  isB K xs "TooLarge" (.ref (He.ga K "TooLarge")),
  isB K xs "TradeError" (.ref (He.ga K "TradeError")),
  isB K xs "UnlikeError" (.ref (He.ga K "UnlikeError")),
  isB K xs "WishError" (.ref (He.ga K "WishError")),
  isB K xs "ValueError" (.type "ValueError"),
  teB K xs "MadeError" (.ref (He.ga K "MadeError")),
  xfFB K "number" xf_number,
  xfFB K "what" xf_what]
def chk (K : Fg) : Bool := (chkL K).all id
theorem chk_at {K : Fg} (c : chk K = true) (i : Nat) {b : Bool} (e : (chkL K)[i]? = some b) : b = true := List.all_eq_true.mp c b (List.mem_of_getElem? e)
def fnL : List He.DefD := [⟨("_law_mixed", none), "_law_mixed", "_law_mixed", defArgs (top 49), defBody (top 49), defScope (top 49), [], []⟩,
  ⟨("_law_cells", none), "_law_cells", "_law_cells", defArgs (top 50), defBody (top 50), defScope (top 50), [], []⟩,
  ⟨("_law_size", none), "_law_size", "_law_size", defArgs (top 60), defBody (top 60), defScope (top 60), [], []⟩,
  ⟨("_law_spot", none), "_law_spot", "_law_spot", defArgs (top 51), defBody (top 51), defScope (top 51), [], []⟩,
  ⟨("_law_near", none), "_law_near", "_law_near", defArgs (top 63), defBody (top 63), defScope (top 63), [], []⟩,
  ⟨("_law_others", none), "_law_others", "_law_others", defArgs (top 64), defBody (top 64), defScope (top 64), [], []⟩,
  ⟨("_law_table", none), "_law_table", "_law_table", defArgs (top 56), defBody (top 56), defScope (top 56), [], []⟩,
  ⟨("_law_triple", none), "_law_triple", "_law_triple", defArgs (top 57), defBody (top 57), defScope (top 57), [], []⟩,
  ⟨("look_number", none), "look_number", "look_number", defArgs (top 31), defBody (top 31), defScope (top 31), [], []⟩,
  ⟨("_alone", none), "_alone", "_alone", defArgs (top 37), defBody (top 37), defScope (top 37), [], []⟩,
  ⟨("_families_of_1", none), "_families_of_1", "_families_of_1", defArgs (top 38), defBody (top 38), defScope (top 38), [], []⟩,
  ⟨("_families_of_3", none), "_families_of_3", "_families_of_3", defArgs (top 39), defBody (top 39), defScope (top 39), [], []⟩,
  ⟨("_families_of_7", none), "_families_of_7", "_families_of_7", defArgs (top 40), defBody (top 40), defScope (top 40), [], []⟩,
  ⟨("_families_of_9", none), "_families_of_9", "_families_of_9", defArgs (top 41), defBody (top 41), defScope (top 41), [], []⟩,
  ⟨("_families_of_13", none), "_families_of_13", "_families_of_13", defArgs (top 42), defBody (top 42), defScope (top 42), [], []⟩,
  ⟨("_families_of_15", none), "_families_of_15", "_families_of_15", defArgs (top 43), defBody (top 43), defScope (top 43), [], []⟩,
  ⟨("found_triple", none), "found_triple", "found_triple", defArgs (top 46), defBody (top 46), defScope (top 46), [], []⟩,
  ⟨("is_ring", none), "is_ring", "is_ring", defArgs (top 45), defBody (top 45), defScope (top 45), [], []⟩,
  ⟨("difference_triple", none), "difference_triple", "difference_triple", defArgs (top 47), defBody (top 47), defScope (top 47), [], []⟩,
  ⟨("_law_alone", none), "_law_alone", "_law_alone", defArgs (top 53), defBody (top 53), defScope (top 53), [], []⟩,
  ⟨("_law_error", none), "_law_error", "_law_error", defArgs (top 54), defBody (top 54), defScope (top 54), [], []⟩,
  ⟨("_law_ask", none), "_law_ask", "_law_ask", defArgs (top 55), defBody (top 55), defScope (top 55), [], []⟩,
  ⟨("_law_like", none), "_law_like", "_law_like", defArgs (top 52), defBody (top 52), defScope (top 52), [], []⟩,
  ⟨("_law_family", none), "_law_family", "_law_family", defArgs (top 61), defBody (top 61), defScope (top 61), [], []⟩,
  ⟨("_law_find", none), "_law_find", "_law_find", defArgs (top 58), defBody (top 58), defScope (top 58), [], []⟩,
  ⟨("_law_every", none), "_law_every", "_law_every", defArgs (top 62), defBody (top 62), defScope (top 62), [], []⟩,
  ⟨("_law_wanted", none), "_law_wanted", "_law_wanted", defArgs (top 59), defBody (top 59), defScope (top 59), [], []⟩,
  ⟨("law", none), "law", "law", defArgs (top 65), defBody (top 65), defScope (top 65), [], []⟩]
def xL : List XD := [xd_KindError, xd_NumberError]
abbrev R : PySem.W.OpenRow := PySem.W.OpenLaw.row PySem.Challenge.rw_madeorbarred_k39_difference_triples
abbrev fileR : Str := PySem.Challenge.pw_madeorbarred_k39_difference_triples.main.file
theorem mg_of {K : Fg} {h : Heap} {mg : Str → Option Value} (X : K.In h) (G : h.Ns mainGlobals mg) (c : SaysM fileR chk fnL xL K) : Mg PySem.Challenge.pw_madeorbarred_k39_difference_triples K mg :=
  have C := c.chk
  have EC : (xs.all fun p => excCB K (He.ga K p.1)) = true := chk_at C 77 rfl
  ⟨He.free_ok X G (x := "ValueError") (chk_at C 0 rfl),
   He.free_ok X G (x := "all") (chk_at C 1 rfl),
   He.free_ok X G (x := "bool") (chk_at C 2 rfl),
   He.free_ok X G (x := "divmod") (chk_at C 3 rfl),
   He.free_ok X G (x := "int") (chk_at C 4 rfl),
   He.free_ok X G (x := "isinstance") (chk_at C 5 rfl),
   He.free_ok X G (x := "len") (chk_at C 6 rfl),
   He.free_ok X G (x := "list") (chk_at C 7 rfl),
   He.free_ok X G (x := "min") (chk_at C 8 rfl),
   He.free_ok X G (x := "range") (chk_at C 9 rfl),
   He.free_ok X G (x := "sorted") (chk_at C 10 rfl),
   He.free_ok X G (x := "str") (chk_at C 11 rfl),
   He.free_ok X G (x := "sum") (chk_at C 12 rfl),
   He.free_ok X G (x := "tuple") (chk_at C 13 rfl),
   gc_ok X G (chk_at C 14 rfl),
   gc_ok X G (chk_at C 15 rfl),
   gc_ok X G (chk_at C 16 rfl),
   gc_ok X G (chk_at C 17 rfl),
   He.glo_ok X G (x := "FAMILIES") (chk_at C 18 rfl),
   tb_ok (chk_at C 19 rfl),
   He.glo_ok X G (x := "_law_mixed") (chk_at C 20 rfl),
   He.glo_ok X G (x := "_law_cells") (chk_at C 21 rfl),
   He.glo_ok X G (x := "_law_size") (chk_at C 22 rfl),
   He.glo_ok X G (x := "_law_spot") (chk_at C 23 rfl),
   He.glo_ok X G (x := "_law_near") (chk_at C 24 rfl),
   He.glo_ok X G (x := "_law_others") (chk_at C 25 rfl),
   He.glo_ok X G (x := "_law_table") (chk_at C 26 rfl),
   He.glo_ok X G (x := "_law_triple") (chk_at C 27 rfl),
   He.glo_ok X G (x := "look_number") (chk_at C 28 rfl),
   He.glo_ok X G (x := "_alone") (chk_at C 29 rfl),
   He.glo_ok X G (x := "_families_of_1") (chk_at C 30 rfl),
   He.glo_ok X G (x := "_families_of_3") (chk_at C 31 rfl),
   He.glo_ok X G (x := "_families_of_7") (chk_at C 32 rfl),
   He.glo_ok X G (x := "_families_of_9") (chk_at C 33 rfl),
   He.glo_ok X G (x := "_families_of_13") (chk_at C 34 rfl),
   He.glo_ok X G (x := "_families_of_15") (chk_at C 35 rfl),
   He.glo_ok X G (x := "found_triple") (chk_at C 36 rfl),
   He.glo_ok X G (x := "is_ring") (chk_at C 37 rfl),
   He.glo_ok X G (x := "difference_triple") (chk_at C 38 rfl),
   He.glo_ok X G (x := "_law_alone") (chk_at C 39 rfl),
   He.glo_ok X G (x := "_law_error") (chk_at C 40 rfl),
   He.glo_ok X G (x := "_law_ask") (chk_at C 41 rfl),
   He.glo_ok X G (x := "_law_like") (chk_at C 42 rfl),
   He.glo_ok X G (x := "_law_family") (chk_at C 43 rfl),
   He.glo_ok X G (x := "_law_find") (chk_at C 44 rfl),
   He.glo_ok X G (x := "_law_every") (chk_at C 45 rfl),
   He.glo_ok X G (x := "_law_wanted") (chk_at C 46 rfl),
   He.glo_ok X G (x := "law") (chk_at C 47 rfl),
   He.glo_ok X G (x := "BareError") (chk_at C 48 rfl),
   He.glo_ok X G (x := "Barred") (chk_at C 49 rfl),
   He.glo_ok X G (x := "ColumnError") (chk_at C 50 rfl),
   He.glo_ok X G (x := "CommandError") (chk_at C 51 rfl),
   He.glo_ok X G (x := "DaysError") (chk_at C 52 rfl),
   He.glo_ok X G (x := "KindError") (chk_at C 53 rfl),
   He.glo_ok X G (x := "MadeError") (chk_at C 54 rfl),
   He.glo_ok X G (x := "MakingError") (chk_at C 55 rfl),
   He.glo_ok X G (x := "MatesError") (chk_at C 56 rfl),
   He.glo_ok X G (x := "NoField") (chk_at C 57 rfl),
   He.glo_ok X G (x := "NoInverse") (chk_at C 58 rfl),
   He.glo_ok X G (x := "NoPrime") (chk_at C 59 rfl),
   He.glo_ok X G (x := "NotSubgroup") (chk_at C 60 rfl),
   He.glo_ok X G (x := "NothingKept") (chk_at C 61 rfl),
   He.glo_ok X G (x := "NothingToRedo") (chk_at C 62 rfl),
   He.glo_ok X G (x := "NothingToUndo") (chk_at C 63 rfl),
   He.glo_ok X G (x := "NumberError") (chk_at C 64 rfl),
   He.glo_ok X G (x := "OpenError") (chk_at C 65 rfl),
   He.glo_ok X G (x := "PartError") (chk_at C 66 rfl),
   He.glo_ok X G (x := "PlaceError") (chk_at C 67 rfl),
   He.glo_ok X G (x := "RowError") (chk_at C 68 rfl),
   He.glo_ok X G (x := "SameError") (chk_at C 69 rfl),
   He.glo_ok X G (x := "SizeError") (chk_at C 70 rfl),
   He.glo_ok X G (x := "TermError") (chk_at C 71 rfl),
   He.glo_ok X G (x := "TextError") (chk_at C 72 rfl),
   He.glo_ok X G (x := "TooLarge") (chk_at C 73 rfl),
   He.glo_ok X G (x := "TradeError") (chk_at C 74 rfl),
   He.glo_ok X G (x := "UnlikeError") (chk_at C 75 rfl),
   He.glo_ok X G (x := "WishError") (chk_at C 76 rfl),
   EC,
   is_ok EC (chk_at C 78 rfl),
   is_ok EC (chk_at C 79 rfl),
   is_ok EC (chk_at C 80 rfl),
   is_ok EC (chk_at C 81 rfl),
   is_ok EC (chk_at C 82 rfl),
   is_ok EC (chk_at C 83 rfl),
   is_ok EC (chk_at C 84 rfl),
   is_ok EC (chk_at C 85 rfl),
   is_ok EC (chk_at C 86 rfl),
   is_ok EC (chk_at C 87 rfl),
   is_ok EC (chk_at C 88 rfl),
   is_ok EC (chk_at C 89 rfl),
   is_ok EC (chk_at C 90 rfl),
   is_ok EC (chk_at C 91 rfl),
   is_ok EC (chk_at C 92 rfl),
   is_ok EC (chk_at C 93 rfl),
   is_ok EC (chk_at C 94 rfl),
   is_ok EC (chk_at C 95 rfl),
   is_ok EC (chk_at C 96 rfl),
   is_ok EC (chk_at C 97 rfl),
   is_ok EC (chk_at C 98 rfl),
   is_ok EC (chk_at C 99 rfl),
   is_ok EC (chk_at C 100 rfl),
   is_ok EC (chk_at C 101 rfl),
   is_ok EC (chk_at C 102 rfl),
   is_ok EC (chk_at C 103 rfl),
   is_ok EC (chk_at C 104 rfl),
   is_ok EC (chk_at C 105 rfl),
   is_ok EC (chk_at C 106 rfl),
   te_ok (chk_at C 107 rfl),
   xff_ok (chk_at C 108 rfl),
   xff_ok (chk_at C 109 rfl),
   xt_of (x := xd_KindError) X G (by decide +kernel) (c.cls 0 rfl).1 (c.cls 0 rfl).2,
   xt_of (x := xd_NumberError) X G (by decide +kernel) (c.cls 1 rfl).1 (c.cls 1 rfl).2⟩
theorem law_fd {K : Fg} (c : SaysM fileR chk fnL xL K) : ∃ fd, FunD K "law" "law" (defArgs (top 65)) (defBody (top 65)) (defScope (top 65)) [] [] (He.ga K "law") fd := c.def_ 27 (d := ⟨("law", none), "law", "law", defArgs (top 65), defBody (top 65), defScope (top 65), [], []⟩) rfl
theorem all_df {w : World} {K : Fg} {mg : Str → Option Value} {base : Heap} {fd_law : FuncData} (M : Mg PySem.Challenge.pw_madeorbarred_k39_difference_triples K mg) (c : SaysM fileR chk fnL xL K) (F_law : FunD K "law" "law" (defArgs (top 65)) (defBody (top 65)) (defScope (top 65)) [] [] (He.ga K "law") fd_law) : FnV PySem.Challenge.pw_madeorbarred_k39_difference_triples w K mg base 7 (He.ga K "law") fd_law ["script"] m_law := by
  obtain ⟨fd__law_mixed, F__law_mixed⟩ := c.def_ 0 (d := ⟨("_law_mixed", none), "_law_mixed", "_law_mixed", defArgs (top 49), defBody (top 49), defScope (top 49), [], []⟩) rfl
  have B__law_mixed : Binds K fd__law_mixed ["total", "place"] [] := FunD.bindsN F__law_mixed fun _ _ _ _ _ _ us hl => match us, hl with | [_, _], _ => rfl
  have D__law_mixed : Df PySem.Challenge.pw_madeorbarred_k39_difference_triples w K mg base 1 "_law_mixed" 2 m__law_mixed := df_ok M.gd__law_mixed F__law_mixed sc__law_mixed B__law_mixed (bd__law_mixed M)
  obtain ⟨fd__law_cells, F__law_cells⟩ := c.def_ 1 (d := ⟨("_law_cells", none), "_law_cells", "_law_cells", defArgs (top 50), defBody (top 50), defScope (top 50), [], []⟩) rfl
  have B__law_cells : Binds K fd__law_cells ["script"] [] := FunD.bindsN F__law_cells fun _ _ _ _ _ _ us hl => match us, hl with | [_], _ => rfl
  have D__law_cells : Df PySem.Challenge.pw_madeorbarred_k39_difference_triples w K mg base 2 "_law_cells" 1 m__law_cells := df_ok M.gd__law_cells F__law_cells sc__law_cells B__law_cells (bd__law_cells M (D__law_mixed.mono (by decide)))
  obtain ⟨fd__law_size, F__law_size⟩ := c.def_ 2 (d := ⟨("_law_size", none), "_law_size", "_law_size", defArgs (top 60), defBody (top 60), defScope (top 60), [], []⟩) rfl
  have B__law_size : Binds K fd__law_size ["kind", "pick", "cell"] [] := FunD.bindsN F__law_size fun _ _ _ _ _ _ us hl => match us, hl with | [_, _, _], _ => rfl
  have D__law_size : Df PySem.Challenge.pw_madeorbarred_k39_difference_triples w K mg base 1 "_law_size" 3 m__law_size := df_ok M.gd__law_size F__law_size sc__law_size B__law_size (bd__law_size M)
  obtain ⟨fd__law_spot, F__law_spot⟩ := c.def_ 3 (d := ⟨("_law_spot", none), "_law_spot", "_law_spot", defArgs (top 51), defBody (top 51), defScope (top 51), [], []⟩) rfl
  have B__law_spot : Binds K fd__law_spot ["cell", "many"] [] := FunD.bindsN F__law_spot fun _ _ _ _ _ _ us hl => match us, hl with | [_, _], _ => rfl
  have D__law_spot : Df PySem.Challenge.pw_madeorbarred_k39_difference_triples w K mg base 1 "_law_spot" 2 m__law_spot := df_ok M.gd__law_spot F__law_spot sc__law_spot B__law_spot (bd__law_spot M)
  obtain ⟨fd__law_near, F__law_near⟩ := c.def_ 4 (d := ⟨("_law_near", none), "_law_near", "_law_near", defArgs (top 63), defBody (top 63), defScope (top 63), [], []⟩) rfl
  have B__law_near : Binds K fd__law_near ["v", "c"] [] := FunD.bindsN F__law_near fun _ _ _ _ _ _ us hl => match us, hl with | [_, _], _ => rfl
  have D__law_near : Df PySem.Challenge.pw_madeorbarred_k39_difference_triples w K mg base 2 "_law_near" 2 m__law_near := df_ok M.gd__law_near F__law_near sc__law_near B__law_near (bd__law_near M (D__law_spot.mono (by decide)))
  obtain ⟨fd__law_others, F__law_others⟩ := c.def_ 5 (d := ⟨("_law_others", none), "_law_others", "_law_others", defArgs (top 64), defBody (top 64), defScope (top 64), [], []⟩) rfl
  have B__law_others : Binds K fd__law_others ["c"] [] := FunD.bindsN F__law_others fun _ _ _ _ _ _ us hl => match us, hl with | [_], _ => rfl
  have D__law_others : Df PySem.Challenge.pw_madeorbarred_k39_difference_triples w K mg base 2 "_law_others" 1 m__law_others := df_ok M.gd__law_others F__law_others sc__law_others B__law_others (bd__law_others M (D__law_spot.mono (by decide)))
  obtain ⟨fd__law_table, F__law_table⟩ := c.def_ 6 (d := ⟨("_law_table", none), "_law_table", "_law_table", defArgs (top 56), defBody (top 56), defScope (top 56), [], []⟩) rfl
  have B__law_table : Binds K fd__law_table ["v"] [] := FunD.bindsN F__law_table fun _ _ _ _ _ _ us hl => match us, hl with | [_], _ => rfl
  have D__law_table : Df PySem.Challenge.pw_madeorbarred_k39_difference_triples w K mg base 1 "_law_table" 1 m__law_table := df_ok M.gd__law_table F__law_table sc__law_table B__law_table (bd__law_table M)
  obtain ⟨fd__law_triple, F__law_triple⟩ := c.def_ 7 (d := ⟨("_law_triple", none), "_law_triple", "_law_triple", defArgs (top 57), defBody (top 57), defScope (top 57), [], []⟩) rfl
  have B__law_triple : Binds K fd__law_triple ["v", "row", "r"] [] := FunD.bindsN F__law_triple fun _ _ _ _ _ _ us hl => match us, hl with | [_, _, _], _ => rfl
  have D__law_triple : Df PySem.Challenge.pw_madeorbarred_k39_difference_triples w K mg base 1 "_law_triple" 3 m__law_triple := df_ok M.gd__law_triple F__law_triple sc__law_triple B__law_triple (bd__law_triple M)
  obtain ⟨fd_look_number, F_look_number⟩ := c.def_ 8 (d := ⟨("look_number", none), "look_number", "look_number", defArgs (top 31), defBody (top 31), defScope (top 31), [], []⟩) rfl
  have B_look_number : Binds K fd_look_number ["number", "low", "high"] [] := FunD.bindsN F_look_number fun _ _ _ _ _ _ us hl => match us, hl with | [_, _, _], _ => rfl
  have D_look_number : Df PySem.Challenge.pw_madeorbarred_k39_difference_triples w K mg base 1 "look_number" 3 m_look_number := df_ok M.gd_look_number F_look_number sc_look_number B_look_number (bd_look_number M)
  obtain ⟨fd__alone, F__alone⟩ := c.def_ 9 (d := ⟨("_alone", none), "_alone", "_alone", defArgs (top 37), defBody (top 37), defScope (top 37), [], []⟩) rfl
  have B__alone : Binds K fd__alone ["a", "b", "c"] [] := FunD.bindsN F__alone fun _ _ _ _ _ _ us hl => match us, hl with | [_, _, _], _ => rfl
  have D__alone : Df PySem.Challenge.pw_madeorbarred_k39_difference_triples w K mg base 1 "_alone" 3 m__alone := df_ok M.gd__alone F__alone sc__alone B__alone (bd__alone M)
  obtain ⟨fd__families_of_1, F__families_of_1⟩ := c.def_ 10 (d := ⟨("_families_of_1", none), "_families_of_1", "_families_of_1", defArgs (top 38), defBody (top 38), defScope (top 38), [], []⟩) rfl
  have B__families_of_1 : Binds K fd__families_of_1 ["s"] [] := FunD.bindsN F__families_of_1 fun _ _ _ _ _ _ us hl => match us, hl with | [_], _ => rfl
  have D__families_of_1 : Df PySem.Challenge.pw_madeorbarred_k39_difference_triples w K mg base 2 "_families_of_1" 1 m__families_of_1 := df_ok M.gd__families_of_1 F__families_of_1 sc__families_of_1 B__families_of_1 (bd__families_of_1 M (D__alone.mono (by decide)))
  obtain ⟨fd__families_of_3, F__families_of_3⟩ := c.def_ 11 (d := ⟨("_families_of_3", none), "_families_of_3", "_families_of_3", defArgs (top 39), defBody (top 39), defScope (top 39), [], []⟩) rfl
  have B__families_of_3 : Binds K fd__families_of_3 ["s"] [] := FunD.bindsN F__families_of_3 fun _ _ _ _ _ _ us hl => match us, hl with | [_], _ => rfl
  have D__families_of_3 : Df PySem.Challenge.pw_madeorbarred_k39_difference_triples w K mg base 1 "_families_of_3" 1 m__families_of_3 := df_ok M.gd__families_of_3 F__families_of_3 sc__families_of_3 B__families_of_3 (bd__families_of_3 M)
  obtain ⟨fd__families_of_7, F__families_of_7⟩ := c.def_ 12 (d := ⟨("_families_of_7", none), "_families_of_7", "_families_of_7", defArgs (top 40), defBody (top 40), defScope (top 40), [], []⟩) rfl
  have B__families_of_7 : Binds K fd__families_of_7 ["s"] [] := FunD.bindsN F__families_of_7 fun _ _ _ _ _ _ us hl => match us, hl with | [_], _ => rfl
  have D__families_of_7 : Df PySem.Challenge.pw_madeorbarred_k39_difference_triples w K mg base 2 "_families_of_7" 1 m__families_of_7 := df_ok M.gd__families_of_7 F__families_of_7 sc__families_of_7 B__families_of_7 (bd__families_of_7 M (D__alone.mono (by decide)))
  obtain ⟨fd__families_of_9, F__families_of_9⟩ := c.def_ 13 (d := ⟨("_families_of_9", none), "_families_of_9", "_families_of_9", defArgs (top 41), defBody (top 41), defScope (top 41), [], []⟩) rfl
  have B__families_of_9 : Binds K fd__families_of_9 ["s"] [] := FunD.bindsN F__families_of_9 fun _ _ _ _ _ _ us hl => match us, hl with | [_], _ => rfl
  have D__families_of_9 : Df PySem.Challenge.pw_madeorbarred_k39_difference_triples w K mg base 2 "_families_of_9" 1 m__families_of_9 := df_ok M.gd__families_of_9 F__families_of_9 sc__families_of_9 B__families_of_9 (bd__families_of_9 M (D__alone.mono (by decide)))
  obtain ⟨fd__families_of_13, F__families_of_13⟩ := c.def_ 14 (d := ⟨("_families_of_13", none), "_families_of_13", "_families_of_13", defArgs (top 42), defBody (top 42), defScope (top 42), [], []⟩) rfl
  have B__families_of_13 : Binds K fd__families_of_13 ["s"] [] := FunD.bindsN F__families_of_13 fun _ _ _ _ _ _ us hl => match us, hl with | [_], _ => rfl
  have D__families_of_13 : Df PySem.Challenge.pw_madeorbarred_k39_difference_triples w K mg base 2 "_families_of_13" 1 m__families_of_13 := df_ok M.gd__families_of_13 F__families_of_13 sc__families_of_13 B__families_of_13 (bd__families_of_13 M (D__alone.mono (by decide)))
  obtain ⟨fd__families_of_15, F__families_of_15⟩ := c.def_ 15 (d := ⟨("_families_of_15", none), "_families_of_15", "_families_of_15", defArgs (top 43), defBody (top 43), defScope (top 43), [], []⟩) rfl
  have B__families_of_15 : Binds K fd__families_of_15 ["s"] [] := FunD.bindsN F__families_of_15 fun _ _ _ _ _ _ us hl => match us, hl with | [_], _ => rfl
  have D__families_of_15 : Df PySem.Challenge.pw_madeorbarred_k39_difference_triples w K mg base 1 "_families_of_15" 1 m__families_of_15 := df_ok M.gd__families_of_15 F__families_of_15 sc__families_of_15 B__families_of_15 (bd__families_of_15 M)
  obtain ⟨fd_found_triple, F_found_triple⟩ := c.def_ 16 (d := ⟨("found_triple", none), "found_triple", "found_triple", defArgs (top 46), defBody (top 46), defScope (top 46), [], []⟩) rfl
  have B_found_triple : Binds K fd_found_triple ["v", "d"] [] := FunD.bindsN F_found_triple fun _ _ _ _ _ _ us hl => match us, hl with | [_, _], _ => rfl
  have LS_found_triple : LocF PySem.Challenge.pw_madeorbarred_k39_difference_triples w K mg base 2 1 sel_found_triple := fun nm m e => by
    have e2 := PySem.mem_of_lookup (show ([("_families_of_1", m__families_of_1), ("_families_of_3", m__families_of_3), ("_families_of_7", m__families_of_7), ("_families_of_9", m__families_of_9), ("_families_of_13", m__families_of_13), ("_families_of_15", m__families_of_15)] : List (Str × Fn)).lookup nm = some m from e)
    simp only [List.mem_cons, Prod.mk.injEq, List.not_mem_nil, or_false] at e2
    rcases e2 with ⟨rfl, rfl⟩ | ⟨rfl, rfl⟩ | ⟨rfl, rfl⟩ | ⟨rfl, rfl⟩ | ⟨rfl, rfl⟩ | ⟨rfl, rfl⟩
    · exact ⟨M.gd__families_of_1, D__families_of_1.mono (by decide)⟩
    · exact ⟨M.gd__families_of_3, D__families_of_3.mono (by decide)⟩
    · exact ⟨M.gd__families_of_7, D__families_of_7.mono (by decide)⟩
    · exact ⟨M.gd__families_of_9, D__families_of_9.mono (by decide)⟩
    · exact ⟨M.gd__families_of_13, D__families_of_13.mono (by decide)⟩
    · exact ⟨M.gd__families_of_15, D__families_of_15.mono (by decide)⟩
  have D_found_triple : Df PySem.Challenge.pw_madeorbarred_k39_difference_triples w K mg base 3 "found_triple" 2 m_found_triple := df_ok M.gd_found_triple F_found_triple sc_found_triple B_found_triple (bd_found_triple M LS_found_triple)
  obtain ⟨fd_is_ring, F_is_ring⟩ := c.def_ 17 (d := ⟨("is_ring", none), "is_ring", "is_ring", defArgs (top 45), defBody (top 45), defScope (top 45), [], []⟩) rfl
  have B_is_ring : Binds K fd_is_ring ["v"] [] := FunD.bindsN F_is_ring fun _ _ _ _ _ _ us hl => match us, hl with | [_], _ => rfl
  have D_is_ring : Df PySem.Challenge.pw_madeorbarred_k39_difference_triples w K mg base 1 "is_ring" 1 m_is_ring := df_ok M.gd_is_ring F_is_ring sc_is_ring B_is_ring (bd_is_ring M)
  obtain ⟨fd_difference_triple, F_difference_triple⟩ := c.def_ 18 (d := ⟨("difference_triple", none), "difference_triple", "difference_triple", defArgs (top 47), defBody (top 47), defScope (top 47), [], []⟩) rfl
  have B_difference_triple : Binds K fd_difference_triple ["v", "d"] [] := FunD.bindsN F_difference_triple fun _ _ _ _ _ _ us hl => match us, hl with | [_, _], _ => rfl
  have D_difference_triple : Df PySem.Challenge.pw_madeorbarred_k39_difference_triples w K mg base 4 "difference_triple" 2 m_difference_triple := df_ok M.gd_difference_triple F_difference_triple sc_difference_triple B_difference_triple (bd_difference_triple M (D_look_number.mono (by decide)) (D_is_ring.mono (by decide)) (D_found_triple.mono (by decide)))
  obtain ⟨fd__law_alone, F__law_alone⟩ := c.def_ 19 (d := ⟨("_law_alone", none), "_law_alone", "_law_alone", defArgs (top 53), defBody (top 53), defScope (top 53), [], []⟩) rfl
  have B__law_alone : Binds K fd__law_alone ["e"] [] := FunD.bindsN F__law_alone fun _ _ _ _ _ _ us hl => match us, hl with | [_], _ => rfl
  have D__law_alone : DfE PySem.Challenge.pw_madeorbarred_k39_difference_triples w K mg base 1 "_law_alone" m__law_alone := dfE_ok M.gd__law_alone F__law_alone sc__law_alone rfl B__law_alone (bd__law_alone M)
  obtain ⟨fd__law_error, F__law_error⟩ := c.def_ 20 (d := ⟨("_law_error", none), "_law_error", "_law_error", defArgs (top 54), defBody (top 54), defScope (top 54), [], []⟩) rfl
  have B__law_error : Binds K fd__law_error ["e"] [] := FunD.bindsN F__law_error fun _ _ _ _ _ _ us hl => match us, hl with | [_], _ => rfl
  have D__law_error : DfE PySem.Challenge.pw_madeorbarred_k39_difference_triples w K mg base 2 "_law_error" m__law_error := dfE_ok M.gd__law_error F__law_error sc__law_error rfl B__law_error (bd__law_error M (D__law_alone.mono (by decide)))
  obtain ⟨fd__law_ask, F__law_ask⟩ := c.def_ 21 (d := ⟨("_law_ask", none), "_law_ask", "_law_ask", defArgs (top 55), defBody (top 55), defScope (top 55), [], []⟩) rfl
  have B__law_ask : Binds K fd__law_ask ["v", "d"] [] := FunD.bindsN F__law_ask fun _ _ _ _ _ _ us hl => match us, hl with | [_, _], _ => rfl
  have D__law_ask : Df PySem.Challenge.pw_madeorbarred_k39_difference_triples w K mg base 5 "_law_ask" 2 m__law_ask := df_ok M.gd__law_ask F__law_ask sc__law_ask B__law_ask (bd__law_ask M (D_difference_triple.mono (by decide)) (D__law_error.mono (by decide)))
  obtain ⟨fd__law_like, F__law_like⟩ := c.def_ 22 (d := ⟨("_law_like", none), "_law_like", "_law_like", defArgs (top 52), defBody (top 52), defScope (top 52), [], []⟩) rfl
  have B__law_like : Binds K fd__law_like ["told", "due"] [] := FunD.bindsN F__law_like fun _ _ _ _ _ _ us hl => match us, hl with | [_, _], _ => rfl
  have D__law_like : Df PySem.Challenge.pw_madeorbarred_k39_difference_triples w K mg base 5 "_law_like" 2 (m__law_like 5) := by
    have D0 : Df PySem.Challenge.pw_madeorbarred_k39_difference_triples w K mg base 0 "_law_like" 2 (m__law_like 0) := df_stuck M.gd__law_like F__law_like B__law_like rfl
    have D1 : Df PySem.Challenge.pw_madeorbarred_k39_difference_triples w K mg base 1 "_law_like" 2 (m__law_like 1) := df_ok M.gd__law_like F__law_like sc__law_like B__law_like (bd__law_like M D0)
    have D2 : Df PySem.Challenge.pw_madeorbarred_k39_difference_triples w K mg base 2 "_law_like" 2 (m__law_like 2) := df_ok M.gd__law_like F__law_like sc__law_like B__law_like (bd__law_like M D1)
    have D3 : Df PySem.Challenge.pw_madeorbarred_k39_difference_triples w K mg base 3 "_law_like" 2 (m__law_like 3) := df_ok M.gd__law_like F__law_like sc__law_like B__law_like (bd__law_like M D2)
    have D4 : Df PySem.Challenge.pw_madeorbarred_k39_difference_triples w K mg base 4 "_law_like" 2 (m__law_like 4) := df_ok M.gd__law_like F__law_like sc__law_like B__law_like (bd__law_like M D3)
    have D5 : Df PySem.Challenge.pw_madeorbarred_k39_difference_triples w K mg base 5 "_law_like" 2 (m__law_like 5) := df_ok M.gd__law_like F__law_like sc__law_like B__law_like (bd__law_like M D4)
    exact D5
  obtain ⟨fd__law_family, F__law_family⟩ := c.def_ 23 (d := ⟨("_law_family", none), "_law_family", "_law_family", defArgs (top 61), defBody (top 61), defScope (top 61), [], []⟩) rfl
  have B__law_family : Binds K fd__law_family ["v", "which", "cell"] [] := FunD.bindsN F__law_family fun _ _ _ _ _ _ us hl => match us, hl with | [_, _, _], _ => rfl
  have D__law_family : Df PySem.Challenge.pw_madeorbarred_k39_difference_triples w K mg base 6 "_law_family" 3 m__law_family := df_ok M.gd__law_family F__law_family sc__law_family B__law_family (bd__law_family M (D__law_table.mono (by decide)) (D__law_triple.mono (by decide)) (D__law_spot.mono (by decide)) (D__law_ask.mono (by decide)) (D__law_like.mono (by decide)))
  obtain ⟨fd__law_find, F__law_find⟩ := c.def_ 24 (d := ⟨("_law_find", none), "_law_find", "_law_find", defArgs (top 58), defBody (top 58), defScope (top 58), [], []⟩) rfl
  have B__law_find : Binds K fd__law_find ["v", "d"] [] := FunD.bindsN F__law_find fun _ _ _ _ _ _ us hl => match us, hl with | [_, _], _ => rfl
  have D__law_find : Df PySem.Challenge.pw_madeorbarred_k39_difference_triples w K mg base 2 "_law_find" 2 m__law_find := df_ok M.gd__law_find F__law_find sc__law_find B__law_find (bd__law_find M (D__law_table.mono (by decide)) (D__law_triple.mono (by decide)))
  obtain ⟨fd__law_every, F__law_every⟩ := c.def_ 25 (d := ⟨("_law_every", none), "_law_every", "_law_every", defArgs (top 62), defBody (top 62), defScope (top 62), [], []⟩) rfl
  have B__law_every : Binds K fd__law_every ["v"] [] := FunD.bindsN F__law_every fun _ _ _ _ _ _ us hl => match us, hl with | [_], _ => rfl
  have D__law_every : Df PySem.Challenge.pw_madeorbarred_k39_difference_triples w K mg base 6 "_law_every" 1 m__law_every := df_ok M.gd__law_every F__law_every sc__law_every B__law_every (bd__law_every M (D__law_ask.mono (by decide)) (D__law_like.mono (by decide)) (D__law_find.mono (by decide)))
  obtain ⟨fd__law_wanted, F__law_wanted⟩ := c.def_ 26 (d := ⟨("_law_wanted", none), "_law_wanted", "_law_wanted", defArgs (top 59), defBody (top 59), defScope (top 59), [], []⟩) rfl
  have B__law_wanted : Binds K fd__law_wanted ["v", "d"] [] := FunD.bindsN F__law_wanted fun _ _ _ _ _ _ us hl => match us, hl with | [_, _], _ => rfl
  have D__law_wanted : Df PySem.Challenge.pw_madeorbarred_k39_difference_triples w K mg base 3 "_law_wanted" 2 m__law_wanted := df_ok M.gd__law_wanted F__law_wanted sc__law_wanted B__law_wanted (bd__law_wanted M (D__law_find.mono (by decide)))
  exact def_ok F_law sc_law (bd_law M (D__law_cells.mono (by decide)) (D__law_size.mono (by decide)) (D__law_family.mono (by decide)) (D__law_every.mono (by decide)) (D__law_near.mono (by decide)) (D__law_others.mono (by decide)) (D__law_like.mono (by decide)) (D__law_ask.mono (by decide)) (D__law_wanted.mono (by decide)))
end K39

namespace K39
open PySem PySem.Spec PyProof.Rows L2 MB
def nm0 : List PySem.Str := ["MadeError", "NumberError", "SizeError", "PlaceError", "SameError", "NoInverse", "NoField", "TooLarge", "NotSubgroup", "UnlikeError", "PartError", "TextError", "BareError", "TradeError", "DaysError", "TermError", "KindError", "RowError", "ColumnError", "MatesError", "NoPrime", "Barred", "WishError", "MakingError", "CommandError", "NothingKept", "OpenError", "NothingToUndo", "NothingToRedo", "look_number"]
def nm1 : List PySem.Str := ["LEAST", "MOST", "RING_OF_27", "RING_OF_45", "_alone", "_families_of_1", "_families_of_3", "_families_of_7", "_families_of_9", "_families_of_13", "_families_of_15", "FAMILIES", "is_ring", "found_triple", "difference_triple", "_law_mixed", "_law_cells", "_law_spot", "_law_like", "_law_alone", "_law_error", "_law_ask", "_law_table", "_law_triple", "_law_find", "_law_wanted", "_law_size", "_law_family", "_law_every", "_law_near"]
def nm2 : List PySem.Str := ["_law_others"]
def names : List PySem.Str := nm0 ++ nm1 ++ nm2
abbrev hk : PySem.W.Hook := hookM 5 fileR chk fnL xL
def ob (s : PySem.W.SharedT) : AlM := obsMG 5 fileR chk fnL xL (HandSHeadRun.getT s)
theorem ob_eq (s : PySem.W.SharedT) : ob s = hk.obs s.abs := obsMG_eq (HandSHeadRun.getT_eq s)
abbrev Rn (w : World) : Prop := HandSHeadRun.RunEq R (PySem.W.view R.prog [65]) hk ob 9000 names w
theorem runF (w : World) : Rn (w.withFollow "special-get-raises" false) := fun os => by
  kernel_rfl
theorem runT (w : World) : Rn (w.withFollow "special-get-raises" true) := fun os => by
  kernel_rfl
theorem run (w : World) : Rn w := PySem.W.byRow2 "special-get-raises" (P := Rn) runF runT w

end K39

/-! Difference triples, plain: a search over progressions. -/
namespace K39
structure Fam where
  A : Int
  α : Int
  B : Int
  β : Int
  C : Int
  γ : Int
  lo : Int
  hi : Int
abbrev T3 := Int × Int × Int
def mn (i j : Int) : Int := if j < i then j else i
def tri (v : Int) (f : Fam) (r : Int) : T3 := (f.A + r * f.α, f.B + r * f.β, mn (f.C + r * f.γ) (v - (f.C + r * f.γ)))
def tryF (v : Int) (f : Fam) (x start step : Int) : Option T3 := if (x - start).fmod step = 0 ∧ f.lo ≤ (x - start).fdiv step ∧ (x - start).fdiv step ≤ f.hi then some (tri v f ((x - start).fdiv step)) else none
def foundF (v d : Int) (f : Fam) : Option T3 := match tryF v f d f.A f.α with
  | some t => some t
  | none => match tryF v f d f.B f.β with
    | some t => some t
    | none => match tryF v f d f.C f.γ with
      | some t => some t
      | none => tryF v f (v - d) f.C f.γ
def found (v d : Int) : List Fam → Option T3
  | [] => none
  | f :: fs => match foundF v d f with
    | some t => some t
    | none => found v d fs
def At (v d : Int) (f : Fam) (r : Int) : Prop := d = f.A + r * f.α ∨ d = f.B + r * f.β ∨ d = f.C + r * f.γ ∨ v - d = f.C + r * f.γ
def Occ (F : List Fam) (v d : Int) (t : T3) : Prop := ∃ f ∈ F, ∃ r, f.lo ≤ r ∧ r ≤ f.hi ∧ t = tri v f r ∧ At v d f r
theorem step_of {x start step : Int} (h0 : step ≠ 0) (h : (x - start).fmod step = 0) : x = start + (x - start).fdiv step * step := by
  have e := Int.mul_fdiv_add_fmod (x - start) step
  rw [h, Int.mul_comm] at e
  omega
theorem step_to {x start step r : Int} (h0 : step ≠ 0) (h : x = start + r * step) : (x - start).fmod step = 0 ∧ (x - start).fdiv step = r := by
  have e : x - start = step * r := by rw [Int.mul_comm]; omega
  rw [e]
  exact ⟨Int.mul_fmod_right _ _, Int.mul_fdiv_cancel_left _ h0⟩
theorem tryF_some {v x start step : Int} {f : Fam} {t : T3} (h0 : step ≠ 0) (h : tryF v f x start step = some t) : ∃ r, f.lo ≤ r ∧ r ≤ f.hi ∧ t = tri v f r ∧ x = start + r * step := by
  unfold tryF at h
  split at h
  · rename_i c
    cases h
    exact ⟨_, c.2.1, c.2.2, rfl, step_of h0 c.1⟩
  · cases h
theorem tryF_none {v x start step r : Int} {f : Fam} (h0 : step ≠ 0) (h : tryF v f x start step = none) (h1 : f.lo ≤ r) (h2 : r ≤ f.hi) (e : x = start + r * step) : False := by
  unfold tryF at h
  obtain ⟨e1, e2⟩ := step_to h0 e
  rw [if_pos ⟨e1, by rw [e2]; exact h1, by rw [e2]; exact h2⟩] at h
  cases h
def Ok (F : List Fam) : Prop := ∀ f ∈ F, f.α ≠ 0 ∧ f.β ≠ 0 ∧ f.γ ≠ 0
theorem found_some {v d : Int} {t : T3} : ∀ {F : List Fam}, Ok F → found v d F = some t → Occ F v d t
  | [], _, h => by cases h
  | f :: fs, ok, h => by
    obtain ⟨o1, o2, o3⟩ := ok f List.mem_cons_self
    unfold found at h
    split at h
    · rename_i t' e
      cases h
      unfold foundF at e
      split at e
      · rename_i q
        cases e
        obtain ⟨r, h1, h2, h3, h4⟩ := tryF_some o1 q
        exact ⟨f, List.mem_cons_self, r, h1, h2, h3, .inl h4⟩
      · split at e
        · rename_i q
          cases e
          obtain ⟨r, h1, h2, h3, h4⟩ := tryF_some o2 q
          exact ⟨f, List.mem_cons_self, r, h1, h2, h3, .inr (.inl h4)⟩
        · split at e
          · rename_i q
            cases e
            obtain ⟨r, h1, h2, h3, h4⟩ := tryF_some o3 q
            exact ⟨f, List.mem_cons_self, r, h1, h2, h3, .inr (.inr (.inl h4))⟩
          · obtain ⟨r, h1, h2, h3, h4⟩ := tryF_some o3 e
            exact ⟨f, List.mem_cons_self, r, h1, h2, h3, .inr (.inr (.inr h4))⟩
    · obtain ⟨g, hg, z⟩ := found_some (fun g hg => ok g (List.mem_cons_of_mem _ hg)) h
      exact ⟨g, List.mem_cons_of_mem _ hg, z⟩
theorem found_none {v d : Int} {t : T3} : ∀ {F : List Fam}, Ok F → found v d F = none → ¬ Occ F v d t
  | [], _, _, ⟨_, hf, _⟩ => by cases hf
  | f :: fs, ok, h, ⟨g, hg, r, h1, h2, h3, h4⟩ => by
    obtain ⟨o1, o2, o3⟩ := ok f List.mem_cons_self
    unfold found at h
    split at h
    · cases h
    · rename_i e
      rcases List.mem_cons.mp hg with rfl | hg
      · unfold foundF at e
        split at e
        · cases e
        · rename_i q1
          split at e
          · cases e
          · rename_i q2
            split at e
            · cases e
            · rename_i q3
              rcases h4 with h4 | h4 | h4 | h4
              · exact tryF_none o1 q1 h1 h2 h4
              · exact tryF_none o2 q2 h1 h2 h4
              · exact tryF_none o3 q3 h1 h2 h4
              · exact tryF_none o3 e h1 h2 h4
      · exact found_none (fun g hg => ok g (List.mem_cons_of_mem _ hg)) h ⟨g, hg, r, h1, h2, h3, h4⟩
/-! ### the law's own search -/
def tryR (v : Int) (f : Fam) (goal start step r : Int) : Option T3 := if goal - start = step * r ∧ f.lo ≤ r ∧ r ≤ f.hi then some (tri v f r) else none
def stepR (f : Fam) (goal start step : Int) : Int := if step ≠ 0 then (goal - start).fdiv step else f.lo
def tryL (v : Int) (f : Fam) (goal start step : Int) : Option T3 := tryR v f goal start step (stepR f goal start step)
def two (v d : Int) (f : Fam) (start step : Int) : Option T3 := match tryL v f d start step with
  | some t => some t
  | none => tryL v f (v - d) start step
def findF (v d : Int) (f : Fam) : Option T3 := match two v d f f.A f.α with
  | some t => some t
  | none => match two v d f f.B f.β with
    | some t => some t
    | none => two v d f f.C f.γ
def find (v d : Int) : List Fam → Option T3
  | [] => none
  | f :: fs => match findF v d f with
    | some t => some t
    | none => find v d fs
def At6 (v d : Int) (f : Fam) (r : Int) : Prop := (d = f.A + r * f.α ∨ v - d = f.A + r * f.α) ∨ (d = f.B + r * f.β ∨ v - d = f.B + r * f.β) ∨ (d = f.C + r * f.γ ∨ v - d = f.C + r * f.γ)
def Occ6 (F : List Fam) (v d : Int) (t : T3) : Prop := ∃ f ∈ F, ∃ r, f.lo ≤ r ∧ r ≤ f.hi ∧ t = tri v f r ∧ At6 v d f r
theorem tryL_some {v x start step : Int} {f : Fam} {t : T3} (h : tryL v f x start step = some t) : ∃ r, f.lo ≤ r ∧ r ≤ f.hi ∧ t = tri v f r ∧ x = start + r * step := by
  unfold tryL tryR at h
  split at h
  · rename_i c
    cases h
    refine ⟨_, c.2.1, c.2.2, rfl, ?_⟩
    have e := c.1
    rw [Int.mul_comm] at e
    omega
  · cases h
theorem tryL_none {v x start step r : Int} {f : Fam} (h : tryL v f x start step = none) (h1 : f.lo ≤ r) (h2 : r ≤ f.hi) (e : x = start + r * step) : False := by
  unfold tryL tryR at h
  by_cases h0 : step = 0
  · have e0 : stepR f x start step = f.lo := if_neg fun z => z h0
    have e' : x - start = 0 := by rw [h0, Int.mul_zero] at e; omega
    rw [e0, if_pos ⟨by rw [e', h0, Int.zero_mul], Int.le_refl _, Int.le_trans h1 h2⟩] at h
    cases h
  · have e0 : stepR f x start step = r := (if_pos h0).trans (step_to h0 e).2
    rw [e0, if_pos ⟨by rw [Int.mul_comm]; omega, h1, h2⟩] at h
    cases h
theorem two_some {v d start step : Int} {f : Fam} {t : T3} (h : two v d f start step = some t) : ∃ r, f.lo ≤ r ∧ r ≤ f.hi ∧ t = tri v f r ∧ (d = start + r * step ∨ v - d = start + r * step) := by
  unfold two at h
  split at h
  · rename_i q
    cases h
    obtain ⟨r, h1, h2, h3, h4⟩ := tryL_some q
    exact ⟨r, h1, h2, h3, .inl h4⟩
  · obtain ⟨r, h1, h2, h3, h4⟩ := tryL_some h
    exact ⟨r, h1, h2, h3, .inr h4⟩
theorem two_none {v d start step r : Int} {f : Fam} (h : two v d f start step = none) (h1 : f.lo ≤ r) (h2 : r ≤ f.hi) (e : d = start + r * step ∨ v - d = start + r * step) : False := by
  unfold two at h
  split at h
  · cases h
  · rename_i q
    rcases e with e | e
    · exact tryL_none q h1 h2 e
    · exact tryL_none h h1 h2 e
theorem find_some {v d : Int} {t : T3} : ∀ {F : List Fam}, find v d F = some t → Occ6 F v d t
  | [], h => by cases h
  | f :: fs, h => by
    unfold find at h
    split at h
    · rename_i t' e
      cases h
      unfold findF at e
      split at e
      · rename_i q
        cases e
        obtain ⟨r, h1, h2, h3, h4⟩ := two_some q
        exact ⟨f, List.mem_cons_self, r, h1, h2, h3, .inl h4⟩
      · split at e
        · rename_i q
          cases e
          obtain ⟨r, h1, h2, h3, h4⟩ := two_some q
          exact ⟨f, List.mem_cons_self, r, h1, h2, h3, .inr (.inl h4)⟩
        · obtain ⟨r, h1, h2, h3, h4⟩ := two_some e
          exact ⟨f, List.mem_cons_self, r, h1, h2, h3, .inr (.inr h4)⟩
    · obtain ⟨g, hg, z⟩ := find_some h
      exact ⟨g, List.mem_cons_of_mem _ hg, z⟩
theorem find_none {v d : Int} {t : T3} : ∀ {F : List Fam}, find v d F = none → ¬ Occ6 F v d t
  | [], _, ⟨_, hf, _⟩ => by cases hf
  | f :: fs, h, ⟨g, hg, r, h1, h2, h3, h4⟩ => by
    unfold find at h
    split at h
    · cases h
    · rename_i e
      rcases List.mem_cons.mp hg with rfl | hg
      · unfold findF at e
        split at e
        · cases e
        · rename_i q1
          split at e
          · cases e
          · rename_i q2
            rcases h4 with h4 | h4 | h4
            · exact two_none q1 h1 h2 h4
            · exact two_none q2 h1 h2 h4
            · exact two_none e h1 h2 h4
      · exact find_none h ⟨g, hg, r, h1, h2, h3, h4⟩
/-! ### what is wanted of a class -/
structure Cls (v half : Int) (F G : List Fam) : Prop where
  ok : Ok F
  uniq : ∀ d t t', 1 ≤ d → d ≤ half → Occ F v d t → Occ F v d t' → t = t'
  ex : ∀ d, 1 ≤ d → d ≤ half → 3 * d ≠ v → ∃ t, Occ F v d t
  no : ∀ d t, 3 * d = v → ¬ Occ F v d t
  gf : ∀ d t, 1 ≤ d → d ≤ half → Occ6 G v d t → Occ F v d t
  fg : ∀ d t, Occ F v d t → ∃ t', Occ6 G v d t'
  rg : ∀ f ∈ G, ∀ r, f.lo ≤ r → r ≤ f.hi → (1 ≤ f.A + r * f.α ∧ f.A + r * f.α ≤ half) ∧ (1 ≤ f.B + r * f.β ∧ f.B + r * f.β ≤ half) ∧ (1 ≤ f.C + r * f.γ ∧ f.C + r * f.γ ≤ v - 1) ∧ (f.A + r * f.α + (f.B + r * f.β) = f.C + r * f.γ ∨ f.A + r * f.α + (f.B + r * f.β) = v - (f.C + r * f.γ))
theorem Cls.same {v half d : Int} {F G : List Fam} (c : Cls v half F G) (h1 : 1 ≤ d) (h2 : d ≤ half) (h3 : 3 * d ≠ v) : ∃ t, found v d F = some t ∧ find v d G = some t := by
  obtain ⟨t0, o⟩ := c.ex d h1 h2 h3
  obtain ⟨t1, o1⟩ := c.fg d t0 o
  cases e : found v d F with
  | none => exact absurd o (found_none c.ok e)
  | some t =>
    cases e2 : find v d G with
    | none => exact absurd o1 (find_none e2)
    | some t' =>
      have z := c.uniq d t t' h1 h2 (found_some c.ok e) (c.gf d t' h1 h2 (find_some e2))
      exact ⟨t, rfl, by rw [z]⟩
theorem Cls.short {v half d : Int} {F G : List Fam} (c : Cls v half F G) (h3 : 3 * d = v) : found v d F = none := by
  cases e : found v d F with
  | none => rfl
  | some t => exact absurd (found_some c.ok e) (c.no d t h3)
theorem Cls.due {v half d r : Int} {F G : List Fam} {f : Fam} (c : Cls v half F G) (hf : f ∈ G) (h1 : f.lo ≤ r) (h2 : r ≤ f.hi) (hd : 1 ≤ d) (hh : d ≤ half) (ha : At6 v d f r) : found v d F = some (tri v f r) := by
  have o : Occ F v d (tri v f r) := c.gf d _ hd hh ⟨f, hf, r, h1, h2, rfl, ha⟩
  cases e : found v d F with
  | none => exact absurd o (found_none c.ok e)
  | some t => rw [c.uniq d t _ hd hh (found_some c.ok e) o]
end K39

/-! Difference triples, plain: the six classes. -/
namespace K39
theorem tri_eq {v : Int} {f g : Fam} {r q : Int} (h1 : f.A + r * f.α = g.A + q * g.α) (h2 : f.B + r * f.β = g.B + q * g.β) (h3 : f.C + r * f.γ = g.C + q * g.γ) : tri v f r = tri v g q := by
  unfold tri
  rw [h1, h2, h3]
def F1 (s : Int) : List Fam := [⟨1, 3, 4 * s + 1, (-1), 4 * s + 2, 2, 0, s - 1⟩, ⟨2, 3, 8 * s, (-1), 8 * s + 2, 2, 0, s - 1⟩, ⟨3, 3, 6 * s - 1, (-2), 6 * s + 2, 1, 0, s - 2⟩, ⟨3 * s, 1, 3 * s + 1, 1, 6 * s + 1, 1, 0, 0⟩]
def G1 (s : Int) : List Fam := [⟨3 * s + 0, 0, 3 * s + 1, 0, 6 * s + 1, 0, 0, s + 0⟩, ⟨0 * s + 1, 3, 4 * s + 1, (-1), 4 * s + 2, 2, 0, s + (-1)⟩, ⟨0 * s + 2, 3, 8 * s + 0, (-1), 8 * s + 2, 2, 0, s + (-1)⟩, ⟨0 * s + 3, 3, 6 * s + (-1), (-2), 6 * s + 2, 1, 0, s + (-2)⟩]
theorem cls1 {s : Int} (hs : 1 ≤ s) : Cls (18 * s + 1) (9 * s) (F1 s) (G1 s) where
  ok := fun f hf => by
    simp only [F1, List.mem_cons, List.not_mem_nil, or_false] at hf
    rcases hf with rfl | rfl | rfl | rfl <;> exact ⟨by dsimp only; decide, by dsimp only; decide, by dsimp only; decide⟩
  uniq := fun d t t' h1 h2 ⟨f, hf, r, r1, r2, e1, ha⟩ ⟨g, hg, q, q1, q2, e2, hb⟩ => by
    subst e1 e2
    simp only [F1, List.mem_cons, List.not_mem_nil, or_false] at hf hg
    rcases hf with rfl | rfl | rfl | rfl <;> rcases hg with rfl | rfl | rfl | rfl <;> dsimp only at r1 r2 q1 q2 <;> rcases ha with ha | ha | ha | ha <;> dsimp only at ha <;> rcases hb with hb | hb | hb | hb <;> dsimp only at hb <;> first
      | (exfalso; omega)
      | (obtain rfl : r = q := by omega
         rfl)
  ex := fun d h1 h2 h3 => by
    by_cases c4 : d ≤ 3 * s - 1
    · skip
      rcases (by omega : d % 3 = 0 ∨ d % 3 = 1 ∨ d % 3 = 2) with m6 | m6 | m6
      · skip
        exact ⟨_, _, (List.mem_cons_of_mem _ (List.mem_cons_of_mem _ List.mem_cons_self)), ((d - (3)) / 3), by (try dsimp only) <;> omega, by (try dsimp only) <;> omega, rfl, .inl (by (try dsimp only) <;> omega)⟩
      · skip
        exact ⟨_, _, List.mem_cons_self, ((d - (1)) / 3), by (try dsimp only) <;> omega, by (try dsimp only) <;> omega, rfl, .inl (by (try dsimp only) <;> omega)⟩
      · skip
        exact ⟨_, _, (List.mem_cons_of_mem _ List.mem_cons_self), ((d - (2)) / 3), by (try dsimp only) <;> omega, by (try dsimp only) <;> omega, rfl, .inl (by (try dsimp only) <;> omega)⟩
    · skip
      by_cases c6 : d ≤ 3 * s
      · skip
        exact ⟨_, _, (List.mem_cons_of_mem _ (List.mem_cons_of_mem _ (List.mem_cons_of_mem _ List.mem_cons_self))), 0, by (try dsimp only) <;> omega, by (try dsimp only) <;> omega, rfl, .inl (by (try dsimp only) <;> omega)⟩
      · skip
        by_cases c8 : d ≤ 3 * s + 1
        · skip
          exact ⟨_, _, (List.mem_cons_of_mem _ (List.mem_cons_of_mem _ (List.mem_cons_of_mem _ List.mem_cons_self))), 0, by (try dsimp only) <;> omega, by (try dsimp only) <;> omega, rfl, .inr (.inl (by (try dsimp only) <;> omega))⟩
        · skip
          by_cases c10 : d ≤ 4 * s + 1
          · skip
            exact ⟨_, _, List.mem_cons_self, ((4 * s + 1) - d), by (try dsimp only) <;> omega, by (try dsimp only) <;> omega, rfl, .inr (.inl (by (try dsimp only) <;> omega))⟩
          · skip
            by_cases c12 : d ≤ 6 * s
            · skip
              rcases (by omega : d % 2 = 0 ∨ d % 2 = 1) with m14 | m14
              · skip
                exact ⟨_, _, List.mem_cons_self, ((d - (4 * s + 2)) / 2), by (try dsimp only) <;> omega, by (try dsimp only) <;> omega, rfl, .inr (.inr (.inl (by (try dsimp only) <;> omega)))⟩
              · skip
                exact ⟨_, _, (List.mem_cons_of_mem _ (List.mem_cons_of_mem _ List.mem_cons_self)), (((6 * s - 1) - d) / 2), by (try dsimp only) <;> omega, by (try dsimp only) <;> omega, rfl, .inr (.inl (by (try dsimp only) <;> omega))⟩
            · skip
              by_cases c14 : d ≤ 6 * s + 1
              · skip
                exact ⟨_, _, (List.mem_cons_of_mem _ (List.mem_cons_of_mem _ (List.mem_cons_of_mem _ List.mem_cons_self))), 0, by (try dsimp only) <;> omega, by (try dsimp only) <;> omega, rfl, .inr (.inr (.inl (by (try dsimp only) <;> omega)))⟩
              · skip
                by_cases c16 : d ≤ 7 * s
                · skip
                  exact ⟨_, _, (List.mem_cons_of_mem _ (List.mem_cons_of_mem _ List.mem_cons_self)), (d - (6 * s + 2)), by (try dsimp only) <;> omega, by (try dsimp only) <;> omega, rfl, .inr (.inr (.inl (by (try dsimp only) <;> omega)))⟩
                · skip
                  by_cases c18 : d ≤ 8 * s
                  · skip
                    exact ⟨_, _, (List.mem_cons_of_mem _ List.mem_cons_self), ((8 * s) - d), by (try dsimp only) <;> omega, by (try dsimp only) <;> omega, rfl, .inr (.inl (by (try dsimp only) <;> omega))⟩
                  · skip
                    rcases (by omega : d % 2 = 0 ∨ d % 2 = 1) with m20 | m20
                    · skip
                      exact ⟨_, _, (List.mem_cons_of_mem _ List.mem_cons_self), ((d - (8 * s + 2)) / 2), by (try dsimp only) <;> omega, by (try dsimp only) <;> omega, rfl, .inr (.inr (.inl (by (try dsimp only) <;> omega)))⟩
                    · skip
                      exact ⟨_, _, (List.mem_cons_of_mem _ List.mem_cons_self), (((10 * s - 1) - d) / 2), by (try dsimp only) <;> omega, by (try dsimp only) <;> omega, rfl, .inr (.inr (.inr (by (try dsimp only) <;> omega)))⟩
  no := fun d t h3 ⟨f, hf, r, r1, r2, e1, ha⟩ => by
    simp only [F1, List.mem_cons, List.not_mem_nil, or_false] at hf
    rcases hf with rfl | rfl | rfl | rfl <;> dsimp only at r1 r2 <;> rcases ha with ha | ha | ha | ha <;> dsimp only at ha <;> omega
  gf := fun d t h1 h2 ⟨f, hf, r, r1, r2, e1, ha⟩ => by
    subst e1
    simp only [G1, List.mem_cons, List.not_mem_nil, or_false] at hf
    rcases hf with rfl | rfl | rfl | rfl <;> dsimp only at r1 r2
    · rcases ha with (ha | ha) | (ha | ha) | (ha | ha) <;> dsimp only at ha <;> first
        | (exfalso; omega)
        | (refine ⟨_, (List.mem_cons_of_mem _ (List.mem_cons_of_mem _ (List.mem_cons_of_mem _ List.mem_cons_self))), 0, ?_, ?_, tri_eq ?_ ?_ ?_, .inl ?_⟩ <;> (try dsimp only) <;> omega)
        | (refine ⟨_, (List.mem_cons_of_mem _ (List.mem_cons_of_mem _ (List.mem_cons_of_mem _ List.mem_cons_self))), 0, ?_, ?_, tri_eq ?_ ?_ ?_, .inr (.inl ?_)⟩ <;> (try dsimp only) <;> omega)
        | (refine ⟨_, (List.mem_cons_of_mem _ (List.mem_cons_of_mem _ (List.mem_cons_of_mem _ List.mem_cons_self))), 0, ?_, ?_, tri_eq ?_ ?_ ?_, .inr (.inr (.inl ?_))⟩ <;> (try dsimp only) <;> omega)
        | (refine ⟨_, (List.mem_cons_of_mem _ (List.mem_cons_of_mem _ (List.mem_cons_of_mem _ List.mem_cons_self))), 0, ?_, ?_, tri_eq ?_ ?_ ?_, .inr (.inr (.inr ?_))⟩ <;> (try dsimp only) <;> omega)
    · rcases ha with (ha | ha) | (ha | ha) | (ha | ha) <;> dsimp only at ha <;> first
        | (exfalso; omega)
        | (refine ⟨_, List.mem_cons_self, r, ?_, ?_, tri_eq ?_ ?_ ?_, .inl ?_⟩ <;> (try dsimp only) <;> omega)
        | (refine ⟨_, List.mem_cons_self, r, ?_, ?_, tri_eq ?_ ?_ ?_, .inr (.inl ?_)⟩ <;> (try dsimp only) <;> omega)
        | (refine ⟨_, List.mem_cons_self, r, ?_, ?_, tri_eq ?_ ?_ ?_, .inr (.inr (.inl ?_))⟩ <;> (try dsimp only) <;> omega)
        | (refine ⟨_, List.mem_cons_self, r, ?_, ?_, tri_eq ?_ ?_ ?_, .inr (.inr (.inr ?_))⟩ <;> (try dsimp only) <;> omega)
    · rcases ha with (ha | ha) | (ha | ha) | (ha | ha) <;> dsimp only at ha <;> first
        | (exfalso; omega)
        | (refine ⟨_, (List.mem_cons_of_mem _ List.mem_cons_self), r, ?_, ?_, tri_eq ?_ ?_ ?_, .inl ?_⟩ <;> (try dsimp only) <;> omega)
        | (refine ⟨_, (List.mem_cons_of_mem _ List.mem_cons_self), r, ?_, ?_, tri_eq ?_ ?_ ?_, .inr (.inl ?_)⟩ <;> (try dsimp only) <;> omega)
        | (refine ⟨_, (List.mem_cons_of_mem _ List.mem_cons_self), r, ?_, ?_, tri_eq ?_ ?_ ?_, .inr (.inr (.inl ?_))⟩ <;> (try dsimp only) <;> omega)
        | (refine ⟨_, (List.mem_cons_of_mem _ List.mem_cons_self), r, ?_, ?_, tri_eq ?_ ?_ ?_, .inr (.inr (.inr ?_))⟩ <;> (try dsimp only) <;> omega)
    · rcases ha with (ha | ha) | (ha | ha) | (ha | ha) <;> dsimp only at ha <;> first
        | (exfalso; omega)
        | (refine ⟨_, (List.mem_cons_of_mem _ (List.mem_cons_of_mem _ List.mem_cons_self)), r, ?_, ?_, tri_eq ?_ ?_ ?_, .inl ?_⟩ <;> (try dsimp only) <;> omega)
        | (refine ⟨_, (List.mem_cons_of_mem _ (List.mem_cons_of_mem _ List.mem_cons_self)), r, ?_, ?_, tri_eq ?_ ?_ ?_, .inr (.inl ?_)⟩ <;> (try dsimp only) <;> omega)
        | (refine ⟨_, (List.mem_cons_of_mem _ (List.mem_cons_of_mem _ List.mem_cons_self)), r, ?_, ?_, tri_eq ?_ ?_ ?_, .inr (.inr (.inl ?_))⟩ <;> (try dsimp only) <;> omega)
        | (refine ⟨_, (List.mem_cons_of_mem _ (List.mem_cons_of_mem _ List.mem_cons_self)), r, ?_, ?_, tri_eq ?_ ?_ ?_, .inr (.inr (.inr ?_))⟩ <;> (try dsimp only) <;> omega)
  fg := fun d t ⟨f, hf, r, r1, r2, e1, ha⟩ => by
    simp only [F1, List.mem_cons, List.not_mem_nil, or_false] at hf
    rcases hf with rfl | rfl | rfl | rfl <;> dsimp only at r1 r2
    · rcases ha with ha | ha | ha | ha <;> dsimp only at ha
      · exact ⟨_, _, (List.mem_cons_of_mem _ List.mem_cons_self), r, by (try dsimp only) <;> omega, by (try dsimp only) <;> omega, rfl, .inl (.inl (by (try dsimp only) <;> omega))⟩
      · exact ⟨_, _, (List.mem_cons_of_mem _ List.mem_cons_self), r, by (try dsimp only) <;> omega, by (try dsimp only) <;> omega, rfl, .inr (.inl (.inl (by (try dsimp only) <;> omega)))⟩
      · exact ⟨_, _, (List.mem_cons_of_mem _ List.mem_cons_self), r, by (try dsimp only) <;> omega, by (try dsimp only) <;> omega, rfl, .inr (.inr (.inl (by (try dsimp only) <;> omega)))⟩
      · exact ⟨_, _, (List.mem_cons_of_mem _ List.mem_cons_self), r, by (try dsimp only) <;> omega, by (try dsimp only) <;> omega, rfl, .inr (.inr (.inr (by (try dsimp only) <;> omega)))⟩
    · rcases ha with ha | ha | ha | ha <;> dsimp only at ha
      · exact ⟨_, _, (List.mem_cons_of_mem _ (List.mem_cons_of_mem _ List.mem_cons_self)), r, by (try dsimp only) <;> omega, by (try dsimp only) <;> omega, rfl, .inl (.inl (by (try dsimp only) <;> omega))⟩
      · exact ⟨_, _, (List.mem_cons_of_mem _ (List.mem_cons_of_mem _ List.mem_cons_self)), r, by (try dsimp only) <;> omega, by (try dsimp only) <;> omega, rfl, .inr (.inl (.inl (by (try dsimp only) <;> omega)))⟩
      · exact ⟨_, _, (List.mem_cons_of_mem _ (List.mem_cons_of_mem _ List.mem_cons_self)), r, by (try dsimp only) <;> omega, by (try dsimp only) <;> omega, rfl, .inr (.inr (.inl (by (try dsimp only) <;> omega)))⟩
      · exact ⟨_, _, (List.mem_cons_of_mem _ (List.mem_cons_of_mem _ List.mem_cons_self)), r, by (try dsimp only) <;> omega, by (try dsimp only) <;> omega, rfl, .inr (.inr (.inr (by (try dsimp only) <;> omega)))⟩
    · rcases ha with ha | ha | ha | ha <;> dsimp only at ha
      · exact ⟨_, _, (List.mem_cons_of_mem _ (List.mem_cons_of_mem _ (List.mem_cons_of_mem _ List.mem_cons_self))), r, by (try dsimp only) <;> omega, by (try dsimp only) <;> omega, rfl, .inl (.inl (by (try dsimp only) <;> omega))⟩
      · exact ⟨_, _, (List.mem_cons_of_mem _ (List.mem_cons_of_mem _ (List.mem_cons_of_mem _ List.mem_cons_self))), r, by (try dsimp only) <;> omega, by (try dsimp only) <;> omega, rfl, .inr (.inl (.inl (by (try dsimp only) <;> omega)))⟩
      · exact ⟨_, _, (List.mem_cons_of_mem _ (List.mem_cons_of_mem _ (List.mem_cons_of_mem _ List.mem_cons_self))), r, by (try dsimp only) <;> omega, by (try dsimp only) <;> omega, rfl, .inr (.inr (.inl (by (try dsimp only) <;> omega)))⟩
      · exact ⟨_, _, (List.mem_cons_of_mem _ (List.mem_cons_of_mem _ (List.mem_cons_of_mem _ List.mem_cons_self))), r, by (try dsimp only) <;> omega, by (try dsimp only) <;> omega, rfl, .inr (.inr (.inr (by (try dsimp only) <;> omega)))⟩
    · rcases ha with ha | ha | ha | ha <;> dsimp only at ha
      · exact ⟨_, _, List.mem_cons_self, r, by (try dsimp only) <;> omega, by (try dsimp only) <;> omega, rfl, .inl (.inl (by (try dsimp only) <;> omega))⟩
      · exact ⟨_, _, List.mem_cons_self, r, by (try dsimp only) <;> omega, by (try dsimp only) <;> omega, rfl, .inr (.inl (.inl (by (try dsimp only) <;> omega)))⟩
      · exact ⟨_, _, List.mem_cons_self, r, by (try dsimp only) <;> omega, by (try dsimp only) <;> omega, rfl, .inr (.inr (.inl (by (try dsimp only) <;> omega)))⟩
      · exact ⟨_, _, List.mem_cons_self, r, by (try dsimp only) <;> omega, by (try dsimp only) <;> omega, rfl, .inr (.inr (.inr (by (try dsimp only) <;> omega)))⟩
  rg := fun f hf r r1 r2 => by
    simp only [G1, List.mem_cons, List.not_mem_nil, or_false] at hf
    rcases hf with rfl | rfl | rfl | rfl <;> dsimp only at r1 r2 ⊢ <;> refine ⟨⟨by omega, by omega⟩, ⟨by omega, by omega⟩, ⟨by omega, by omega⟩, ?_⟩ <;> first | (left; omega) | (right; omega)
def F3 (s : Int) : List Fam := [⟨1, 3, 8 * s + 1, (-1), 8 * s + 2, 2, 0, s - 1⟩, ⟨2, 3, 4 * s, (-1), 4 * s + 2, 2, 0, s - 1⟩, ⟨3, 3, 6 * s - 1, (-2), 6 * s + 2, 1, 0, s - 1⟩]
def G3 (s : Int) : List Fam := [⟨0 * s + 1, 3, 8 * s + 1, (-1), 8 * s + 2, 2, 0, s + (-1)⟩, ⟨0 * s + 2, 3, 4 * s + 0, (-1), 4 * s + 2, 2, 0, s + (-1)⟩, ⟨0 * s + 3, 3, 6 * s + (-1), (-2), 6 * s + 2, 1, 0, s + (-1)⟩]
theorem cls3 {s : Int} (hs : 1 ≤ s) : Cls (18 * s + 3) (9 * s + 1) (F3 s) (G3 s) where
  ok := fun f hf => by
    simp only [F3, List.mem_cons, List.not_mem_nil, or_false] at hf
    rcases hf with rfl | rfl | rfl <;> exact ⟨by dsimp only; decide, by dsimp only; decide, by dsimp only; decide⟩
  uniq := fun d t t' h1 h2 ⟨f, hf, r, r1, r2, e1, ha⟩ ⟨g, hg, q, q1, q2, e2, hb⟩ => by
    subst e1 e2
    simp only [F3, List.mem_cons, List.not_mem_nil, or_false] at hf hg
    rcases hf with rfl | rfl | rfl <;> rcases hg with rfl | rfl | rfl <;> dsimp only at r1 r2 q1 q2 <;> rcases ha with ha | ha | ha | ha <;> dsimp only at ha <;> rcases hb with hb | hb | hb | hb <;> dsimp only at hb <;> first
      | (exfalso; omega)
      | (obtain rfl : r = q := by omega
         rfl)
  ex := fun d h1 h2 h3 => by
    by_cases c4 : d ≤ 3 * s
    · skip
      rcases (by omega : d % 3 = 0 ∨ d % 3 = 1 ∨ d % 3 = 2) with m6 | m6 | m6
      · skip
        exact ⟨_, _, (List.mem_cons_of_mem _ (List.mem_cons_of_mem _ List.mem_cons_self)), ((d - (3)) / 3), by (try dsimp only) <;> omega, by (try dsimp only) <;> omega, rfl, .inl (by (try dsimp only) <;> omega)⟩
      · skip
        exact ⟨_, _, List.mem_cons_self, ((d - (1)) / 3), by (try dsimp only) <;> omega, by (try dsimp only) <;> omega, rfl, .inl (by (try dsimp only) <;> omega)⟩
      · skip
        exact ⟨_, _, (List.mem_cons_of_mem _ List.mem_cons_self), ((d - (2)) / 3), by (try dsimp only) <;> omega, by (try dsimp only) <;> omega, rfl, .inl (by (try dsimp only) <;> omega)⟩
    · skip
      by_cases c6 : d ≤ 4 * s
      · skip
        exact ⟨_, _, (List.mem_cons_of_mem _ List.mem_cons_self), ((4 * s) - d), by (try dsimp only) <;> omega, by (try dsimp only) <;> omega, rfl, .inr (.inl (by (try dsimp only) <;> omega))⟩
      · skip
        by_cases c8 : d ≤ 6 * s
        · skip
          rcases (by omega : d % 2 = 0 ∨ d % 2 = 1) with m10 | m10
          · skip
            exact ⟨_, _, (List.mem_cons_of_mem _ List.mem_cons_self), ((d - (4 * s + 2)) / 2), by (try dsimp only) <;> omega, by (try dsimp only) <;> omega, rfl, .inr (.inr (.inl (by (try dsimp only) <;> omega)))⟩
          · skip
            exact ⟨_, _, (List.mem_cons_of_mem _ (List.mem_cons_of_mem _ List.mem_cons_self)), (((6 * s - 1) - d) / 2), by (try dsimp only) <;> omega, by (try dsimp only) <;> omega, rfl, .inr (.inl (by (try dsimp only) <;> omega))⟩
        · skip
          by_cases c10 : d ≤ 7 * s + 1
          · skip
            exact ⟨_, _, (List.mem_cons_of_mem _ (List.mem_cons_of_mem _ List.mem_cons_self)), (d - (6 * s + 2)), by (try dsimp only) <;> omega, by (try dsimp only) <;> omega, rfl, .inr (.inr (.inl (by (try dsimp only) <;> omega)))⟩
          · skip
            by_cases c12 : d ≤ 8 * s + 1
            · skip
              exact ⟨_, _, List.mem_cons_self, ((8 * s + 1) - d), by (try dsimp only) <;> omega, by (try dsimp only) <;> omega, rfl, .inr (.inl (by (try dsimp only) <;> omega))⟩
            · skip
              rcases (by omega : d % 2 = 0 ∨ d % 2 = 1) with m14 | m14
              · skip
                exact ⟨_, _, List.mem_cons_self, ((d - (8 * s + 2)) / 2), by (try dsimp only) <;> omega, by (try dsimp only) <;> omega, rfl, .inr (.inr (.inl (by (try dsimp only) <;> omega)))⟩
              · skip
                exact ⟨_, _, List.mem_cons_self, (((10 * s + 1) - d) / 2), by (try dsimp only) <;> omega, by (try dsimp only) <;> omega, rfl, .inr (.inr (.inr (by (try dsimp only) <;> omega)))⟩
  no := fun d t h3 ⟨f, hf, r, r1, r2, e1, ha⟩ => by
    simp only [F3, List.mem_cons, List.not_mem_nil, or_false] at hf
    rcases hf with rfl | rfl | rfl <;> dsimp only at r1 r2 <;> rcases ha with ha | ha | ha | ha <;> dsimp only at ha <;> omega
  gf := fun d t h1 h2 ⟨f, hf, r, r1, r2, e1, ha⟩ => by
    subst e1
    simp only [G3, List.mem_cons, List.not_mem_nil, or_false] at hf
    rcases hf with rfl | rfl | rfl <;> dsimp only at r1 r2
    · rcases ha with (ha | ha) | (ha | ha) | (ha | ha) <;> dsimp only at ha <;> first
        | (exfalso; omega)
        | (refine ⟨_, List.mem_cons_self, r, ?_, ?_, tri_eq ?_ ?_ ?_, .inl ?_⟩ <;> (try dsimp only) <;> omega)
        | (refine ⟨_, List.mem_cons_self, r, ?_, ?_, tri_eq ?_ ?_ ?_, .inr (.inl ?_)⟩ <;> (try dsimp only) <;> omega)
        | (refine ⟨_, List.mem_cons_self, r, ?_, ?_, tri_eq ?_ ?_ ?_, .inr (.inr (.inl ?_))⟩ <;> (try dsimp only) <;> omega)
        | (refine ⟨_, List.mem_cons_self, r, ?_, ?_, tri_eq ?_ ?_ ?_, .inr (.inr (.inr ?_))⟩ <;> (try dsimp only) <;> omega)
    · rcases ha with (ha | ha) | (ha | ha) | (ha | ha) <;> dsimp only at ha <;> first
        | (exfalso; omega)
        | (refine ⟨_, (List.mem_cons_of_mem _ List.mem_cons_self), r, ?_, ?_, tri_eq ?_ ?_ ?_, .inl ?_⟩ <;> (try dsimp only) <;> omega)
        | (refine ⟨_, (List.mem_cons_of_mem _ List.mem_cons_self), r, ?_, ?_, tri_eq ?_ ?_ ?_, .inr (.inl ?_)⟩ <;> (try dsimp only) <;> omega)
        | (refine ⟨_, (List.mem_cons_of_mem _ List.mem_cons_self), r, ?_, ?_, tri_eq ?_ ?_ ?_, .inr (.inr (.inl ?_))⟩ <;> (try dsimp only) <;> omega)
        | (refine ⟨_, (List.mem_cons_of_mem _ List.mem_cons_self), r, ?_, ?_, tri_eq ?_ ?_ ?_, .inr (.inr (.inr ?_))⟩ <;> (try dsimp only) <;> omega)
    · rcases ha with (ha | ha) | (ha | ha) | (ha | ha) <;> dsimp only at ha <;> first
        | (exfalso; omega)
        | (refine ⟨_, (List.mem_cons_of_mem _ (List.mem_cons_of_mem _ List.mem_cons_self)), r, ?_, ?_, tri_eq ?_ ?_ ?_, .inl ?_⟩ <;> (try dsimp only) <;> omega)
        | (refine ⟨_, (List.mem_cons_of_mem _ (List.mem_cons_of_mem _ List.mem_cons_self)), r, ?_, ?_, tri_eq ?_ ?_ ?_, .inr (.inl ?_)⟩ <;> (try dsimp only) <;> omega)
        | (refine ⟨_, (List.mem_cons_of_mem _ (List.mem_cons_of_mem _ List.mem_cons_self)), r, ?_, ?_, tri_eq ?_ ?_ ?_, .inr (.inr (.inl ?_))⟩ <;> (try dsimp only) <;> omega)
        | (refine ⟨_, (List.mem_cons_of_mem _ (List.mem_cons_of_mem _ List.mem_cons_self)), r, ?_, ?_, tri_eq ?_ ?_ ?_, .inr (.inr (.inr ?_))⟩ <;> (try dsimp only) <;> omega)
  fg := fun d t ⟨f, hf, r, r1, r2, e1, ha⟩ => by
    simp only [F3, List.mem_cons, List.not_mem_nil, or_false] at hf
    rcases hf with rfl | rfl | rfl <;> dsimp only at r1 r2
    · rcases ha with ha | ha | ha | ha <;> dsimp only at ha
      · exact ⟨_, _, List.mem_cons_self, r, by (try dsimp only) <;> omega, by (try dsimp only) <;> omega, rfl, .inl (.inl (by (try dsimp only) <;> omega))⟩
      · exact ⟨_, _, List.mem_cons_self, r, by (try dsimp only) <;> omega, by (try dsimp only) <;> omega, rfl, .inr (.inl (.inl (by (try dsimp only) <;> omega)))⟩
      · exact ⟨_, _, List.mem_cons_self, r, by (try dsimp only) <;> omega, by (try dsimp only) <;> omega, rfl, .inr (.inr (.inl (by (try dsimp only) <;> omega)))⟩
      · exact ⟨_, _, List.mem_cons_self, r, by (try dsimp only) <;> omega, by (try dsimp only) <;> omega, rfl, .inr (.inr (.inr (by (try dsimp only) <;> omega)))⟩
    · rcases ha with ha | ha | ha | ha <;> dsimp only at ha
      · exact ⟨_, _, (List.mem_cons_of_mem _ List.mem_cons_self), r, by (try dsimp only) <;> omega, by (try dsimp only) <;> omega, rfl, .inl (.inl (by (try dsimp only) <;> omega))⟩
      · exact ⟨_, _, (List.mem_cons_of_mem _ List.mem_cons_self), r, by (try dsimp only) <;> omega, by (try dsimp only) <;> omega, rfl, .inr (.inl (.inl (by (try dsimp only) <;> omega)))⟩
      · exact ⟨_, _, (List.mem_cons_of_mem _ List.mem_cons_self), r, by (try dsimp only) <;> omega, by (try dsimp only) <;> omega, rfl, .inr (.inr (.inl (by (try dsimp only) <;> omega)))⟩
      · exact ⟨_, _, (List.mem_cons_of_mem _ List.mem_cons_self), r, by (try dsimp only) <;> omega, by (try dsimp only) <;> omega, rfl, .inr (.inr (.inr (by (try dsimp only) <;> omega)))⟩
    · rcases ha with ha | ha | ha | ha <;> dsimp only at ha
      · exact ⟨_, _, (List.mem_cons_of_mem _ (List.mem_cons_of_mem _ List.mem_cons_self)), r, by (try dsimp only) <;> omega, by (try dsimp only) <;> omega, rfl, .inl (.inl (by (try dsimp only) <;> omega))⟩
      · exact ⟨_, _, (List.mem_cons_of_mem _ (List.mem_cons_of_mem _ List.mem_cons_self)), r, by (try dsimp only) <;> omega, by (try dsimp only) <;> omega, rfl, .inr (.inl (.inl (by (try dsimp only) <;> omega)))⟩
      · exact ⟨_, _, (List.mem_cons_of_mem _ (List.mem_cons_of_mem _ List.mem_cons_self)), r, by (try dsimp only) <;> omega, by (try dsimp only) <;> omega, rfl, .inr (.inr (.inl (by (try dsimp only) <;> omega)))⟩
      · exact ⟨_, _, (List.mem_cons_of_mem _ (List.mem_cons_of_mem _ List.mem_cons_self)), r, by (try dsimp only) <;> omega, by (try dsimp only) <;> omega, rfl, .inr (.inr (.inr (by (try dsimp only) <;> omega)))⟩
  rg := fun f hf r r1 r2 => by
    simp only [G3, List.mem_cons, List.not_mem_nil, or_false] at hf
    rcases hf with rfl | rfl | rfl <;> dsimp only at r1 r2 ⊢ <;> refine ⟨⟨by omega, by omega⟩, ⟨by omega, by omega⟩, ⟨by omega, by omega⟩, ?_⟩ <;> first | (left; omega) | (right; omega)
def F7 (s : Int) : List Fam := [⟨1, 3, 8 * s + 3, (-1), 8 * s + 4, 2, 0, s - 1⟩, ⟨2, 3, 6 * s + 1, (-2), 6 * s + 3, 1, 0, s - 1⟩, ⟨3, 3, 4 * s + 1, (-1), 4 * s + 4, 2, 0, s - 1⟩, ⟨3 * s + 1, 1, 4 * s + 2, 1, 7 * s + 3, 1, 0, 0⟩]
def G7 (s : Int) : List Fam := [⟨3 * s + 1, 0, 4 * s + 2, 0, 7 * s + 3, 0, 0, s + 0⟩, ⟨0 * s + 1, 3, 8 * s + 3, (-1), 8 * s + 4, 2, 0, s + (-1)⟩, ⟨0 * s + 2, 3, 6 * s + 1, (-2), 6 * s + 3, 1, 0, s + (-1)⟩, ⟨0 * s + 3, 3, 4 * s + 1, (-1), 4 * s + 4, 2, 0, s + (-1)⟩]
theorem cls7 {s : Int} (hs : 0 ≤ s) : Cls (18 * s + 7) (9 * s + 3) (F7 s) (G7 s) where
  ok := fun f hf => by
    simp only [F7, List.mem_cons, List.not_mem_nil, or_false] at hf
    rcases hf with rfl | rfl | rfl | rfl <;> exact ⟨by dsimp only; decide, by dsimp only; decide, by dsimp only; decide⟩
  uniq := fun d t t' h1 h2 ⟨f, hf, r, r1, r2, e1, ha⟩ ⟨g, hg, q, q1, q2, e2, hb⟩ => by
    subst e1 e2
    simp only [F7, List.mem_cons, List.not_mem_nil, or_false] at hf hg
    rcases hf with rfl | rfl | rfl | rfl <;> rcases hg with rfl | rfl | rfl | rfl <;> dsimp only at r1 r2 q1 q2 <;> rcases ha with ha | ha | ha | ha <;> dsimp only at ha <;> rcases hb with hb | hb | hb | hb <;> dsimp only at hb <;> first
      | (exfalso; omega)
      | (obtain rfl : r = q := by omega
         rfl)
  ex := fun d h1 h2 h3 => by
    by_cases c4 : d ≤ 3 * s
    · skip
      rcases (by omega : d % 3 = 0 ∨ d % 3 = 1 ∨ d % 3 = 2) with m6 | m6 | m6
      · skip
        exact ⟨_, _, (List.mem_cons_of_mem _ (List.mem_cons_of_mem _ List.mem_cons_self)), ((d - (3)) / 3), by (try dsimp only) <;> omega, by (try dsimp only) <;> omega, rfl, .inl (by (try dsimp only) <;> omega)⟩
      · skip
        exact ⟨_, _, List.mem_cons_self, ((d - (1)) / 3), by (try dsimp only) <;> omega, by (try dsimp only) <;> omega, rfl, .inl (by (try dsimp only) <;> omega)⟩
      · skip
        exact ⟨_, _, (List.mem_cons_of_mem _ List.mem_cons_self), ((d - (2)) / 3), by (try dsimp only) <;> omega, by (try dsimp only) <;> omega, rfl, .inl (by (try dsimp only) <;> omega)⟩
    · skip
      by_cases c6 : d ≤ 3 * s + 1
      · skip
        exact ⟨_, _, (List.mem_cons_of_mem _ (List.mem_cons_of_mem _ (List.mem_cons_of_mem _ List.mem_cons_self))), 0, by (try dsimp only) <;> omega, by (try dsimp only) <;> omega, rfl, .inl (by (try dsimp only) <;> omega)⟩
      · skip
        by_cases c8 : d ≤ 4 * s + 1
        · skip
          exact ⟨_, _, (List.mem_cons_of_mem _ (List.mem_cons_of_mem _ List.mem_cons_self)), ((4 * s + 1) - d), by (try dsimp only) <;> omega, by (try dsimp only) <;> omega, rfl, .inr (.inl (by (try dsimp only) <;> omega))⟩
        · skip
          by_cases c10 : d ≤ 4 * s + 2
          · skip
            exact ⟨_, _, (List.mem_cons_of_mem _ (List.mem_cons_of_mem _ (List.mem_cons_of_mem _ List.mem_cons_self))), 0, by (try dsimp only) <;> omega, by (try dsimp only) <;> omega, rfl, .inr (.inl (by (try dsimp only) <;> omega))⟩
          · skip
            by_cases c12 : d ≤ 6 * s + 2
            · skip
              rcases (by omega : d % 2 = 0 ∨ d % 2 = 1) with m14 | m14
              · skip
                exact ⟨_, _, (List.mem_cons_of_mem _ (List.mem_cons_of_mem _ List.mem_cons_self)), ((d - (4 * s + 4)) / 2), by (try dsimp only) <;> omega, by (try dsimp only) <;> omega, rfl, .inr (.inr (.inl (by (try dsimp only) <;> omega)))⟩
              · skip
                exact ⟨_, _, (List.mem_cons_of_mem _ List.mem_cons_self), (((6 * s + 1) - d) / 2), by (try dsimp only) <;> omega, by (try dsimp only) <;> omega, rfl, .inr (.inl (by (try dsimp only) <;> omega))⟩
            · skip
              by_cases c14 : d ≤ 7 * s + 2
              · skip
                exact ⟨_, _, (List.mem_cons_of_mem _ List.mem_cons_self), (d - (6 * s + 3)), by (try dsimp only) <;> omega, by (try dsimp only) <;> omega, rfl, .inr (.inr (.inl (by (try dsimp only) <;> omega)))⟩
              · skip
                by_cases c16 : d ≤ 7 * s + 3
                · skip
                  exact ⟨_, _, (List.mem_cons_of_mem _ (List.mem_cons_of_mem _ (List.mem_cons_of_mem _ List.mem_cons_self))), 0, by (try dsimp only) <;> omega, by (try dsimp only) <;> omega, rfl, .inr (.inr (.inl (by (try dsimp only) <;> omega)))⟩
                · skip
                  by_cases c18 : d ≤ 8 * s + 3
                  · skip
                    exact ⟨_, _, List.mem_cons_self, ((8 * s + 3) - d), by (try dsimp only) <;> omega, by (try dsimp only) <;> omega, rfl, .inr (.inl (by (try dsimp only) <;> omega))⟩
                  · skip
                    rcases (by omega : d % 2 = 0 ∨ d % 2 = 1) with m20 | m20
                    · skip
                      exact ⟨_, _, List.mem_cons_self, ((d - (8 * s + 4)) / 2), by (try dsimp only) <;> omega, by (try dsimp only) <;> omega, rfl, .inr (.inr (.inl (by (try dsimp only) <;> omega)))⟩
                    · skip
                      exact ⟨_, _, List.mem_cons_self, (((10 * s + 3) - d) / 2), by (try dsimp only) <;> omega, by (try dsimp only) <;> omega, rfl, .inr (.inr (.inr (by (try dsimp only) <;> omega)))⟩
  no := fun d t h3 ⟨f, hf, r, r1, r2, e1, ha⟩ => by
    simp only [F7, List.mem_cons, List.not_mem_nil, or_false] at hf
    rcases hf with rfl | rfl | rfl | rfl <;> dsimp only at r1 r2 <;> rcases ha with ha | ha | ha | ha <;> dsimp only at ha <;> omega
  gf := fun d t h1 h2 ⟨f, hf, r, r1, r2, e1, ha⟩ => by
    subst e1
    simp only [G7, List.mem_cons, List.not_mem_nil, or_false] at hf
    rcases hf with rfl | rfl | rfl | rfl <;> dsimp only at r1 r2
    · rcases ha with (ha | ha) | (ha | ha) | (ha | ha) <;> dsimp only at ha <;> first
        | (exfalso; omega)
        | (refine ⟨_, (List.mem_cons_of_mem _ (List.mem_cons_of_mem _ (List.mem_cons_of_mem _ List.mem_cons_self))), 0, ?_, ?_, tri_eq ?_ ?_ ?_, .inl ?_⟩ <;> (try dsimp only) <;> omega)
        | (refine ⟨_, (List.mem_cons_of_mem _ (List.mem_cons_of_mem _ (List.mem_cons_of_mem _ List.mem_cons_self))), 0, ?_, ?_, tri_eq ?_ ?_ ?_, .inr (.inl ?_)⟩ <;> (try dsimp only) <;> omega)
        | (refine ⟨_, (List.mem_cons_of_mem _ (List.mem_cons_of_mem _ (List.mem_cons_of_mem _ List.mem_cons_self))), 0, ?_, ?_, tri_eq ?_ ?_ ?_, .inr (.inr (.inl ?_))⟩ <;> (try dsimp only) <;> omega)
        | (refine ⟨_, (List.mem_cons_of_mem _ (List.mem_cons_of_mem _ (List.mem_cons_of_mem _ List.mem_cons_self))), 0, ?_, ?_, tri_eq ?_ ?_ ?_, .inr (.inr (.inr ?_))⟩ <;> (try dsimp only) <;> omega)
    · rcases ha with (ha | ha) | (ha | ha) | (ha | ha) <;> dsimp only at ha <;> first
        | (exfalso; omega)
        | (refine ⟨_, List.mem_cons_self, r, ?_, ?_, tri_eq ?_ ?_ ?_, .inl ?_⟩ <;> (try dsimp only) <;> omega)
        | (refine ⟨_, List.mem_cons_self, r, ?_, ?_, tri_eq ?_ ?_ ?_, .inr (.inl ?_)⟩ <;> (try dsimp only) <;> omega)
        | (refine ⟨_, List.mem_cons_self, r, ?_, ?_, tri_eq ?_ ?_ ?_, .inr (.inr (.inl ?_))⟩ <;> (try dsimp only) <;> omega)
        | (refine ⟨_, List.mem_cons_self, r, ?_, ?_, tri_eq ?_ ?_ ?_, .inr (.inr (.inr ?_))⟩ <;> (try dsimp only) <;> omega)
    · rcases ha with (ha | ha) | (ha | ha) | (ha | ha) <;> dsimp only at ha <;> first
        | (exfalso; omega)
        | (refine ⟨_, (List.mem_cons_of_mem _ List.mem_cons_self), r, ?_, ?_, tri_eq ?_ ?_ ?_, .inl ?_⟩ <;> (try dsimp only) <;> omega)
        | (refine ⟨_, (List.mem_cons_of_mem _ List.mem_cons_self), r, ?_, ?_, tri_eq ?_ ?_ ?_, .inr (.inl ?_)⟩ <;> (try dsimp only) <;> omega)
        | (refine ⟨_, (List.mem_cons_of_mem _ List.mem_cons_self), r, ?_, ?_, tri_eq ?_ ?_ ?_, .inr (.inr (.inl ?_))⟩ <;> (try dsimp only) <;> omega)
        | (refine ⟨_, (List.mem_cons_of_mem _ List.mem_cons_self), r, ?_, ?_, tri_eq ?_ ?_ ?_, .inr (.inr (.inr ?_))⟩ <;> (try dsimp only) <;> omega)
    · rcases ha with (ha | ha) | (ha | ha) | (ha | ha) <;> dsimp only at ha <;> first
        | (exfalso; omega)
        | (refine ⟨_, (List.mem_cons_of_mem _ (List.mem_cons_of_mem _ List.mem_cons_self)), r, ?_, ?_, tri_eq ?_ ?_ ?_, .inl ?_⟩ <;> (try dsimp only) <;> omega)
        | (refine ⟨_, (List.mem_cons_of_mem _ (List.mem_cons_of_mem _ List.mem_cons_self)), r, ?_, ?_, tri_eq ?_ ?_ ?_, .inr (.inl ?_)⟩ <;> (try dsimp only) <;> omega)
        | (refine ⟨_, (List.mem_cons_of_mem _ (List.mem_cons_of_mem _ List.mem_cons_self)), r, ?_, ?_, tri_eq ?_ ?_ ?_, .inr (.inr (.inl ?_))⟩ <;> (try dsimp only) <;> omega)
        | (refine ⟨_, (List.mem_cons_of_mem _ (List.mem_cons_of_mem _ List.mem_cons_self)), r, ?_, ?_, tri_eq ?_ ?_ ?_, .inr (.inr (.inr ?_))⟩ <;> (try dsimp only) <;> omega)
  fg := fun d t ⟨f, hf, r, r1, r2, e1, ha⟩ => by
    simp only [F7, List.mem_cons, List.not_mem_nil, or_false] at hf
    rcases hf with rfl | rfl | rfl | rfl <;> dsimp only at r1 r2
    · rcases ha with ha | ha | ha | ha <;> dsimp only at ha
      · exact ⟨_, _, (List.mem_cons_of_mem _ List.mem_cons_self), r, by (try dsimp only) <;> omega, by (try dsimp only) <;> omega, rfl, .inl (.inl (by (try dsimp only) <;> omega))⟩
      · exact ⟨_, _, (List.mem_cons_of_mem _ List.mem_cons_self), r, by (try dsimp only) <;> omega, by (try dsimp only) <;> omega, rfl, .inr (.inl (.inl (by (try dsimp only) <;> omega)))⟩
      · exact ⟨_, _, (List.mem_cons_of_mem _ List.mem_cons_self), r, by (try dsimp only) <;> omega, by (try dsimp only) <;> omega, rfl, .inr (.inr (.inl (by (try dsimp only) <;> omega)))⟩
      · exact ⟨_, _, (List.mem_cons_of_mem _ List.mem_cons_self), r, by (try dsimp only) <;> omega, by (try dsimp only) <;> omega, rfl, .inr (.inr (.inr (by (try dsimp only) <;> omega)))⟩
    · rcases ha with ha | ha | ha | ha <;> dsimp only at ha
      · exact ⟨_, _, (List.mem_cons_of_mem _ (List.mem_cons_of_mem _ List.mem_cons_self)), r, by (try dsimp only) <;> omega, by (try dsimp only) <;> omega, rfl, .inl (.inl (by (try dsimp only) <;> omega))⟩
      · exact ⟨_, _, (List.mem_cons_of_mem _ (List.mem_cons_of_mem _ List.mem_cons_self)), r, by (try dsimp only) <;> omega, by (try dsimp only) <;> omega, rfl, .inr (.inl (.inl (by (try dsimp only) <;> omega)))⟩
      · exact ⟨_, _, (List.mem_cons_of_mem _ (List.mem_cons_of_mem _ List.mem_cons_self)), r, by (try dsimp only) <;> omega, by (try dsimp only) <;> omega, rfl, .inr (.inr (.inl (by (try dsimp only) <;> omega)))⟩
      · exact ⟨_, _, (List.mem_cons_of_mem _ (List.mem_cons_of_mem _ List.mem_cons_self)), r, by (try dsimp only) <;> omega, by (try dsimp only) <;> omega, rfl, .inr (.inr (.inr (by (try dsimp only) <;> omega)))⟩
    · rcases ha with ha | ha | ha | ha <;> dsimp only at ha
      · exact ⟨_, _, (List.mem_cons_of_mem _ (List.mem_cons_of_mem _ (List.mem_cons_of_mem _ List.mem_cons_self))), r, by (try dsimp only) <;> omega, by (try dsimp only) <;> omega, rfl, .inl (.inl (by (try dsimp only) <;> omega))⟩
      · exact ⟨_, _, (List.mem_cons_of_mem _ (List.mem_cons_of_mem _ (List.mem_cons_of_mem _ List.mem_cons_self))), r, by (try dsimp only) <;> omega, by (try dsimp only) <;> omega, rfl, .inr (.inl (.inl (by (try dsimp only) <;> omega)))⟩
      · exact ⟨_, _, (List.mem_cons_of_mem _ (List.mem_cons_of_mem _ (List.mem_cons_of_mem _ List.mem_cons_self))), r, by (try dsimp only) <;> omega, by (try dsimp only) <;> omega, rfl, .inr (.inr (.inl (by (try dsimp only) <;> omega)))⟩
      · exact ⟨_, _, (List.mem_cons_of_mem _ (List.mem_cons_of_mem _ (List.mem_cons_of_mem _ List.mem_cons_self))), r, by (try dsimp only) <;> omega, by (try dsimp only) <;> omega, rfl, .inr (.inr (.inr (by (try dsimp only) <;> omega)))⟩
    · rcases ha with ha | ha | ha | ha <;> dsimp only at ha
      · exact ⟨_, _, List.mem_cons_self, r, by (try dsimp only) <;> omega, by (try dsimp only) <;> omega, rfl, .inl (.inl (by (try dsimp only) <;> omega))⟩
      · exact ⟨_, _, List.mem_cons_self, r, by (try dsimp only) <;> omega, by (try dsimp only) <;> omega, rfl, .inr (.inl (.inl (by (try dsimp only) <;> omega)))⟩
      · exact ⟨_, _, List.mem_cons_self, r, by (try dsimp only) <;> omega, by (try dsimp only) <;> omega, rfl, .inr (.inr (.inl (by (try dsimp only) <;> omega)))⟩
      · exact ⟨_, _, List.mem_cons_self, r, by (try dsimp only) <;> omega, by (try dsimp only) <;> omega, rfl, .inr (.inr (.inr (by (try dsimp only) <;> omega)))⟩
  rg := fun f hf r r1 r2 => by
    simp only [G7, List.mem_cons, List.not_mem_nil, or_false] at hf
    rcases hf with rfl | rfl | rfl | rfl <;> dsimp only at r1 r2 ⊢ <;> refine ⟨⟨by omega, by omega⟩, ⟨by omega, by omega⟩, ⟨by omega, by omega⟩, ?_⟩ <;> first | (left; omega) | (right; omega)
def F9 (s : Int) : List Fam := [⟨1, 3, 4 * s + 3, (-1), 4 * s + 4, 2, 0, s⟩, ⟨2, 3, 8 * s + 2, (-1), 8 * s + 4, 2, 2, s - 2⟩, ⟨3, 3, 6 * s + 1, (-2), 6 * s + 4, 1, 1, s - 2⟩, ⟨2, 1, 8 * s + 3, 1, 8 * s + 5, 1, 0, 0⟩, ⟨3, 1, 8 * s + 1, 1, 8 * s + 4, 1, 0, 0⟩, ⟨5, 1, 8 * s + 2, 1, 8 * s + 7, 1, 0, 0⟩, ⟨3 * s - 1, 1, 3 * s + 2, 1, 6 * s + 1, 1, 0, 0⟩, ⟨3 * s, 1, 7 * s + 3, 1, 8 * s + 6, 1, 0, 0⟩]
def G9 (s : Int) : List Fam := [⟨0 * s + 1, 3, 4 * s + 3, (-1), 4 * s + 4, 2, 0, s + 0⟩, ⟨0 * s + 2, 3, 8 * s + 2, (-1), 8 * s + 4, 2, 2, s + (-2)⟩, ⟨0 * s + 3, 3, 6 * s + 1, (-2), 6 * s + 4, 1, 1, s + (-2)⟩, ⟨0 * s + 2, 0, 8 * s + 3, 0, 8 * s + 5, 0, 0, s + 0⟩, ⟨0 * s + 3, 0, 8 * s + 1, 0, 8 * s + 4, 0, 0, s + 0⟩, ⟨0 * s + 5, 0, 8 * s + 2, 0, 8 * s + 7, 0, 0, s + 0⟩, ⟨3 * s + (-1), 0, 3 * s + 2, 0, 6 * s + 1, 0, 0, s + 0⟩, ⟨3 * s + 0, 0, 7 * s + 3, 0, 8 * s + 6, 0, 0, s + 0⟩]
theorem cls9 {s : Int} (hs : 3 ≤ s) : Cls (18 * s + 9) (9 * s + 4) (F9 s) (G9 s) where
  ok := fun f hf => by
    simp only [F9, List.mem_cons, List.not_mem_nil, or_false] at hf
    rcases hf with rfl | rfl | rfl | rfl | rfl | rfl | rfl | rfl <;> exact ⟨by dsimp only; decide, by dsimp only; decide, by dsimp only; decide⟩
  uniq := fun d t t' h1 h2 ⟨f, hf, r, r1, r2, e1, ha⟩ ⟨g, hg, q, q1, q2, e2, hb⟩ => by
    subst e1 e2
    simp only [F9, List.mem_cons, List.not_mem_nil, or_false] at hf hg
    rcases hf with rfl | rfl | rfl | rfl | rfl | rfl | rfl | rfl <;> rcases hg with rfl | rfl | rfl | rfl | rfl | rfl | rfl | rfl <;> dsimp only at r1 r2 q1 q2 <;> rcases ha with ha | ha | ha | ha <;> dsimp only at ha <;> rcases hb with hb | hb | hb | hb <;> dsimp only at hb <;> first
      | (exfalso; omega)
      | (obtain rfl : r = q := by omega
         rfl)
  ex := fun d h1 h2 h3 => by
    by_cases c4 : d ≤ 3 * s + 1
    · skip
      by_cases e6 : d = 2
      · skip
        exact ⟨_, _, (List.mem_cons_of_mem _ (List.mem_cons_of_mem _ (List.mem_cons_of_mem _ List.mem_cons_self))), 0, by (try dsimp only) <;> omega, by (try dsimp only) <;> omega, rfl, .inl (by (try dsimp only) <;> omega)⟩
      · skip
        by_cases e8 : d = 3
        · skip
          exact ⟨_, _, (List.mem_cons_of_mem _ (List.mem_cons_of_mem _ (List.mem_cons_of_mem _ (List.mem_cons_of_mem _ List.mem_cons_self)))), 0, by (try dsimp only) <;> omega, by (try dsimp only) <;> omega, rfl, .inl (by (try dsimp only) <;> omega)⟩
        · skip
          by_cases e10 : d = 5
          · skip
            exact ⟨_, _, (List.mem_cons_of_mem _ (List.mem_cons_of_mem _ (List.mem_cons_of_mem _ (List.mem_cons_of_mem _ (List.mem_cons_of_mem _ List.mem_cons_self))))), 0, by (try dsimp only) <;> omega, by (try dsimp only) <;> omega, rfl, .inl (by (try dsimp only) <;> omega)⟩
          · skip
            by_cases e12 : d = 3 * s - 1
            · skip
              exact ⟨_, _, (List.mem_cons_of_mem _ (List.mem_cons_of_mem _ (List.mem_cons_of_mem _ (List.mem_cons_of_mem _ (List.mem_cons_of_mem _ (List.mem_cons_of_mem _ List.mem_cons_self)))))), 0, by (try dsimp only) <;> omega, by (try dsimp only) <;> omega, rfl, .inl (by (try dsimp only) <;> omega)⟩
            · skip
              by_cases e14 : d = 3 * s
              · skip
                exact ⟨_, _, (List.mem_cons_of_mem _ (List.mem_cons_of_mem _ (List.mem_cons_of_mem _ (List.mem_cons_of_mem _ (List.mem_cons_of_mem _ (List.mem_cons_of_mem _ (List.mem_cons_of_mem _ List.mem_cons_self))))))), 0, by (try dsimp only) <;> omega, by (try dsimp only) <;> omega, rfl, .inl (by (try dsimp only) <;> omega)⟩
              · skip
                rcases (by omega : d % 3 = 0 ∨ d % 3 = 1 ∨ d % 3 = 2) with m16 | m16 | m16
                · skip
                  exact ⟨_, _, (List.mem_cons_of_mem _ (List.mem_cons_of_mem _ List.mem_cons_self)), ((d - (3)) / 3), by (try dsimp only) <;> omega, by (try dsimp only) <;> omega, rfl, .inl (by (try dsimp only) <;> omega)⟩
                · skip
                  exact ⟨_, _, List.mem_cons_self, ((d - (1)) / 3), by (try dsimp only) <;> omega, by (try dsimp only) <;> omega, rfl, .inl (by (try dsimp only) <;> omega)⟩
                · skip
                  exact ⟨_, _, (List.mem_cons_of_mem _ List.mem_cons_self), ((d - (2)) / 3), by (try dsimp only) <;> omega, by (try dsimp only) <;> omega, rfl, .inl (by (try dsimp only) <;> omega)⟩
    · skip
      by_cases c6 : d ≤ 3 * s + 2
      · skip
        exact ⟨_, _, (List.mem_cons_of_mem _ (List.mem_cons_of_mem _ (List.mem_cons_of_mem _ (List.mem_cons_of_mem _ (List.mem_cons_of_mem _ (List.mem_cons_of_mem _ List.mem_cons_self)))))), 0, by (try dsimp only) <;> omega, by (try dsimp only) <;> omega, rfl, .inr (.inl (by (try dsimp only) <;> omega))⟩
      · skip
        by_cases c8 : d ≤ 4 * s + 3
        · skip
          exact ⟨_, _, List.mem_cons_self, ((4 * s + 3) - d), by (try dsimp only) <;> omega, by (try dsimp only) <;> omega, rfl, .inr (.inl (by (try dsimp only) <;> omega))⟩
        · skip
          by_cases c10 : d ≤ 6 * s + 4
          · skip
            by_cases e12 : d = 6 * s + 1
            · skip
              exact ⟨_, _, (List.mem_cons_of_mem _ (List.mem_cons_of_mem _ (List.mem_cons_of_mem _ (List.mem_cons_of_mem _ (List.mem_cons_of_mem _ (List.mem_cons_of_mem _ List.mem_cons_self)))))), 0, by (try dsimp only) <;> omega, by (try dsimp only) <;> omega, rfl, .inr (.inr (.inl (by (try dsimp only) <;> omega)))⟩
            · skip
              rcases (by omega : d % 2 = 0 ∨ d % 2 = 1) with m14 | m14
              · skip
                exact ⟨_, _, List.mem_cons_self, ((d - (4 * s + 4)) / 2), by (try dsimp only) <;> omega, by (try dsimp only) <;> omega, rfl, .inr (.inr (.inl (by (try dsimp only) <;> omega)))⟩
              · skip
                exact ⟨_, _, (List.mem_cons_of_mem _ (List.mem_cons_of_mem _ List.mem_cons_self)), (((6 * s + 1) - d) / 2), by (try dsimp only) <;> omega, by (try dsimp only) <;> omega, rfl, .inr (.inl (by (try dsimp only) <;> omega))⟩
          · skip
            by_cases c12 : d ≤ 7 * s + 2
            · skip
              exact ⟨_, _, (List.mem_cons_of_mem _ (List.mem_cons_of_mem _ List.mem_cons_self)), (d - (6 * s + 4)), by (try dsimp only) <;> omega, by (try dsimp only) <;> omega, rfl, .inr (.inr (.inl (by (try dsimp only) <;> omega)))⟩
            · skip
              by_cases c14 : d ≤ 7 * s + 3
              · skip
                exact ⟨_, _, (List.mem_cons_of_mem _ (List.mem_cons_of_mem _ (List.mem_cons_of_mem _ (List.mem_cons_of_mem _ (List.mem_cons_of_mem _ (List.mem_cons_of_mem _ (List.mem_cons_of_mem _ List.mem_cons_self))))))), 0, by (try dsimp only) <;> omega, by (try dsimp only) <;> omega, rfl, .inr (.inl (by (try dsimp only) <;> omega))⟩
              · skip
                by_cases c16 : d ≤ 8 * s
                · skip
                  exact ⟨_, _, (List.mem_cons_of_mem _ List.mem_cons_self), ((8 * s + 2) - d), by (try dsimp only) <;> omega, by (try dsimp only) <;> omega, rfl, .inr (.inl (by (try dsimp only) <;> omega))⟩
                · skip
                  by_cases c18 : d ≤ 8 * s + 1
                  · skip
                    exact ⟨_, _, (List.mem_cons_of_mem _ (List.mem_cons_of_mem _ (List.mem_cons_of_mem _ (List.mem_cons_of_mem _ List.mem_cons_self)))), 0, by (try dsimp only) <;> omega, by (try dsimp only) <;> omega, rfl, .inr (.inl (by (try dsimp only) <;> omega))⟩
                  · skip
                    by_cases c20 : d ≤ 8 * s + 2
                    · skip
                      exact ⟨_, _, (List.mem_cons_of_mem _ (List.mem_cons_of_mem _ (List.mem_cons_of_mem _ (List.mem_cons_of_mem _ (List.mem_cons_of_mem _ List.mem_cons_self))))), 0, by (try dsimp only) <;> omega, by (try dsimp only) <;> omega, rfl, .inr (.inl (by (try dsimp only) <;> omega))⟩
                    · skip
                      by_cases c22 : d ≤ 8 * s + 3
                      · skip
                        exact ⟨_, _, (List.mem_cons_of_mem _ (List.mem_cons_of_mem _ (List.mem_cons_of_mem _ List.mem_cons_self))), 0, by (try dsimp only) <;> omega, by (try dsimp only) <;> omega, rfl, .inr (.inl (by (try dsimp only) <;> omega))⟩
                      · skip
                        by_cases c24 : d ≤ 8 * s + 4
                        · skip
                          exact ⟨_, _, (List.mem_cons_of_mem _ (List.mem_cons_of_mem _ (List.mem_cons_of_mem _ (List.mem_cons_of_mem _ List.mem_cons_self)))), 0, by (try dsimp only) <;> omega, by (try dsimp only) <;> omega, rfl, .inr (.inr (.inl (by (try dsimp only) <;> omega)))⟩
                        · skip
                          by_cases c26 : d ≤ 8 * s + 5
                          · skip
                            exact ⟨_, _, (List.mem_cons_of_mem _ (List.mem_cons_of_mem _ (List.mem_cons_of_mem _ List.mem_cons_self))), 0, by (try dsimp only) <;> omega, by (try dsimp only) <;> omega, rfl, .inr (.inr (.inl (by (try dsimp only) <;> omega)))⟩
                          · skip
                            by_cases c28 : d ≤ 8 * s + 6
                            · skip
                              exact ⟨_, _, (List.mem_cons_of_mem _ (List.mem_cons_of_mem _ (List.mem_cons_of_mem _ (List.mem_cons_of_mem _ (List.mem_cons_of_mem _ (List.mem_cons_of_mem _ (List.mem_cons_of_mem _ List.mem_cons_self))))))), 0, by (try dsimp only) <;> omega, by (try dsimp only) <;> omega, rfl, .inr (.inr (.inl (by (try dsimp only) <;> omega)))⟩
                            · skip
                              by_cases c30 : d ≤ 8 * s + 7
                              · skip
                                exact ⟨_, _, (List.mem_cons_of_mem _ (List.mem_cons_of_mem _ (List.mem_cons_of_mem _ (List.mem_cons_of_mem _ (List.mem_cons_of_mem _ List.mem_cons_self))))), 0, by (try dsimp only) <;> omega, by (try dsimp only) <;> omega, rfl, .inr (.inr (.inl (by (try dsimp only) <;> omega)))⟩
                              · skip
                                rcases (by omega : d % 2 = 0 ∨ d % 2 = 1) with m32 | m32
                                · skip
                                  exact ⟨_, _, (List.mem_cons_of_mem _ List.mem_cons_self), ((d - (8 * s + 4)) / 2), by (try dsimp only) <;> omega, by (try dsimp only) <;> omega, rfl, .inr (.inr (.inl (by (try dsimp only) <;> omega)))⟩
                                · skip
                                  exact ⟨_, _, (List.mem_cons_of_mem _ List.mem_cons_self), (((10 * s + 5) - d) / 2), by (try dsimp only) <;> omega, by (try dsimp only) <;> omega, rfl, .inr (.inr (.inr (by (try dsimp only) <;> omega)))⟩
  no := fun d t h3 ⟨f, hf, r, r1, r2, e1, ha⟩ => by
    simp only [F9, List.mem_cons, List.not_mem_nil, or_false] at hf
    rcases hf with rfl | rfl | rfl | rfl | rfl | rfl | rfl | rfl <;> dsimp only at r1 r2 <;> rcases ha with ha | ha | ha | ha <;> dsimp only at ha <;> omega
  gf := fun d t h1 h2 ⟨f, hf, r, r1, r2, e1, ha⟩ => by
    subst e1
    simp only [G9, List.mem_cons, List.not_mem_nil, or_false] at hf
    rcases hf with rfl | rfl | rfl | rfl | rfl | rfl | rfl | rfl <;> dsimp only at r1 r2
    · rcases ha with (ha | ha) | (ha | ha) | (ha | ha) <;> dsimp only at ha <;> first
        | (exfalso; omega)
        | (refine ⟨_, List.mem_cons_self, r, ?_, ?_, tri_eq ?_ ?_ ?_, .inl ?_⟩ <;> (try dsimp only) <;> omega)
        | (refine ⟨_, List.mem_cons_self, r, ?_, ?_, tri_eq ?_ ?_ ?_, .inr (.inl ?_)⟩ <;> (try dsimp only) <;> omega)
        | (refine ⟨_, List.mem_cons_self, r, ?_, ?_, tri_eq ?_ ?_ ?_, .inr (.inr (.inl ?_))⟩ <;> (try dsimp only) <;> omega)
        | (refine ⟨_, List.mem_cons_self, r, ?_, ?_, tri_eq ?_ ?_ ?_, .inr (.inr (.inr ?_))⟩ <;> (try dsimp only) <;> omega)
    · rcases ha with (ha | ha) | (ha | ha) | (ha | ha) <;> dsimp only at ha <;> first
        | (exfalso; omega)
        | (refine ⟨_, (List.mem_cons_of_mem _ List.mem_cons_self), r, ?_, ?_, tri_eq ?_ ?_ ?_, .inl ?_⟩ <;> (try dsimp only) <;> omega)
        | (refine ⟨_, (List.mem_cons_of_mem _ List.mem_cons_self), r, ?_, ?_, tri_eq ?_ ?_ ?_, .inr (.inl ?_)⟩ <;> (try dsimp only) <;> omega)
        | (refine ⟨_, (List.mem_cons_of_mem _ List.mem_cons_self), r, ?_, ?_, tri_eq ?_ ?_ ?_, .inr (.inr (.inl ?_))⟩ <;> (try dsimp only) <;> omega)
        | (refine ⟨_, (List.mem_cons_of_mem _ List.mem_cons_self), r, ?_, ?_, tri_eq ?_ ?_ ?_, .inr (.inr (.inr ?_))⟩ <;> (try dsimp only) <;> omega)
    · rcases ha with (ha | ha) | (ha | ha) | (ha | ha) <;> dsimp only at ha <;> first
        | (exfalso; omega)
        | (refine ⟨_, (List.mem_cons_of_mem _ (List.mem_cons_of_mem _ List.mem_cons_self)), r, ?_, ?_, tri_eq ?_ ?_ ?_, .inl ?_⟩ <;> (try dsimp only) <;> omega)
        | (refine ⟨_, (List.mem_cons_of_mem _ (List.mem_cons_of_mem _ List.mem_cons_self)), r, ?_, ?_, tri_eq ?_ ?_ ?_, .inr (.inl ?_)⟩ <;> (try dsimp only) <;> omega)
        | (refine ⟨_, (List.mem_cons_of_mem _ (List.mem_cons_of_mem _ List.mem_cons_self)), r, ?_, ?_, tri_eq ?_ ?_ ?_, .inr (.inr (.inl ?_))⟩ <;> (try dsimp only) <;> omega)
        | (refine ⟨_, (List.mem_cons_of_mem _ (List.mem_cons_of_mem _ List.mem_cons_self)), r, ?_, ?_, tri_eq ?_ ?_ ?_, .inr (.inr (.inr ?_))⟩ <;> (try dsimp only) <;> omega)
    · rcases ha with (ha | ha) | (ha | ha) | (ha | ha) <;> dsimp only at ha <;> first
        | (exfalso; omega)
        | (refine ⟨_, (List.mem_cons_of_mem _ (List.mem_cons_of_mem _ (List.mem_cons_of_mem _ List.mem_cons_self))), 0, ?_, ?_, tri_eq ?_ ?_ ?_, .inl ?_⟩ <;> (try dsimp only) <;> omega)
        | (refine ⟨_, (List.mem_cons_of_mem _ (List.mem_cons_of_mem _ (List.mem_cons_of_mem _ List.mem_cons_self))), 0, ?_, ?_, tri_eq ?_ ?_ ?_, .inr (.inl ?_)⟩ <;> (try dsimp only) <;> omega)
        | (refine ⟨_, (List.mem_cons_of_mem _ (List.mem_cons_of_mem _ (List.mem_cons_of_mem _ List.mem_cons_self))), 0, ?_, ?_, tri_eq ?_ ?_ ?_, .inr (.inr (.inl ?_))⟩ <;> (try dsimp only) <;> omega)
        | (refine ⟨_, (List.mem_cons_of_mem _ (List.mem_cons_of_mem _ (List.mem_cons_of_mem _ List.mem_cons_self))), 0, ?_, ?_, tri_eq ?_ ?_ ?_, .inr (.inr (.inr ?_))⟩ <;> (try dsimp only) <;> omega)
    · rcases ha with (ha | ha) | (ha | ha) | (ha | ha) <;> dsimp only at ha <;> first
        | (exfalso; omega)
        | (refine ⟨_, (List.mem_cons_of_mem _ (List.mem_cons_of_mem _ (List.mem_cons_of_mem _ (List.mem_cons_of_mem _ List.mem_cons_self)))), 0, ?_, ?_, tri_eq ?_ ?_ ?_, .inl ?_⟩ <;> (try dsimp only) <;> omega)
        | (refine ⟨_, (List.mem_cons_of_mem _ (List.mem_cons_of_mem _ (List.mem_cons_of_mem _ (List.mem_cons_of_mem _ List.mem_cons_self)))), 0, ?_, ?_, tri_eq ?_ ?_ ?_, .inr (.inl ?_)⟩ <;> (try dsimp only) <;> omega)
        | (refine ⟨_, (List.mem_cons_of_mem _ (List.mem_cons_of_mem _ (List.mem_cons_of_mem _ (List.mem_cons_of_mem _ List.mem_cons_self)))), 0, ?_, ?_, tri_eq ?_ ?_ ?_, .inr (.inr (.inl ?_))⟩ <;> (try dsimp only) <;> omega)
        | (refine ⟨_, (List.mem_cons_of_mem _ (List.mem_cons_of_mem _ (List.mem_cons_of_mem _ (List.mem_cons_of_mem _ List.mem_cons_self)))), 0, ?_, ?_, tri_eq ?_ ?_ ?_, .inr (.inr (.inr ?_))⟩ <;> (try dsimp only) <;> omega)
    · rcases ha with (ha | ha) | (ha | ha) | (ha | ha) <;> dsimp only at ha <;> first
        | (exfalso; omega)
        | (refine ⟨_, (List.mem_cons_of_mem _ (List.mem_cons_of_mem _ (List.mem_cons_of_mem _ (List.mem_cons_of_mem _ (List.mem_cons_of_mem _ List.mem_cons_self))))), 0, ?_, ?_, tri_eq ?_ ?_ ?_, .inl ?_⟩ <;> (try dsimp only) <;> omega)
        | (refine ⟨_, (List.mem_cons_of_mem _ (List.mem_cons_of_mem _ (List.mem_cons_of_mem _ (List.mem_cons_of_mem _ (List.mem_cons_of_mem _ List.mem_cons_self))))), 0, ?_, ?_, tri_eq ?_ ?_ ?_, .inr (.inl ?_)⟩ <;> (try dsimp only) <;> omega)
        | (refine ⟨_, (List.mem_cons_of_mem _ (List.mem_cons_of_mem _ (List.mem_cons_of_mem _ (List.mem_cons_of_mem _ (List.mem_cons_of_mem _ List.mem_cons_self))))), 0, ?_, ?_, tri_eq ?_ ?_ ?_, .inr (.inr (.inl ?_))⟩ <;> (try dsimp only) <;> omega)
        | (refine ⟨_, (List.mem_cons_of_mem _ (List.mem_cons_of_mem _ (List.mem_cons_of_mem _ (List.mem_cons_of_mem _ (List.mem_cons_of_mem _ List.mem_cons_self))))), 0, ?_, ?_, tri_eq ?_ ?_ ?_, .inr (.inr (.inr ?_))⟩ <;> (try dsimp only) <;> omega)
    · rcases ha with (ha | ha) | (ha | ha) | (ha | ha) <;> dsimp only at ha <;> first
        | (exfalso; omega)
        | (refine ⟨_, (List.mem_cons_of_mem _ (List.mem_cons_of_mem _ (List.mem_cons_of_mem _ (List.mem_cons_of_mem _ (List.mem_cons_of_mem _ (List.mem_cons_of_mem _ List.mem_cons_self)))))), 0, ?_, ?_, tri_eq ?_ ?_ ?_, .inl ?_⟩ <;> (try dsimp only) <;> omega)
        | (refine ⟨_, (List.mem_cons_of_mem _ (List.mem_cons_of_mem _ (List.mem_cons_of_mem _ (List.mem_cons_of_mem _ (List.mem_cons_of_mem _ (List.mem_cons_of_mem _ List.mem_cons_self)))))), 0, ?_, ?_, tri_eq ?_ ?_ ?_, .inr (.inl ?_)⟩ <;> (try dsimp only) <;> omega)
        | (refine ⟨_, (List.mem_cons_of_mem _ (List.mem_cons_of_mem _ (List.mem_cons_of_mem _ (List.mem_cons_of_mem _ (List.mem_cons_of_mem _ (List.mem_cons_of_mem _ List.mem_cons_self)))))), 0, ?_, ?_, tri_eq ?_ ?_ ?_, .inr (.inr (.inl ?_))⟩ <;> (try dsimp only) <;> omega)
        | (refine ⟨_, (List.mem_cons_of_mem _ (List.mem_cons_of_mem _ (List.mem_cons_of_mem _ (List.mem_cons_of_mem _ (List.mem_cons_of_mem _ (List.mem_cons_of_mem _ List.mem_cons_self)))))), 0, ?_, ?_, tri_eq ?_ ?_ ?_, .inr (.inr (.inr ?_))⟩ <;> (try dsimp only) <;> omega)
    · rcases ha with (ha | ha) | (ha | ha) | (ha | ha) <;> dsimp only at ha <;> first
        | (exfalso; omega)
        | (refine ⟨_, (List.mem_cons_of_mem _ (List.mem_cons_of_mem _ (List.mem_cons_of_mem _ (List.mem_cons_of_mem _ (List.mem_cons_of_mem _ (List.mem_cons_of_mem _ (List.mem_cons_of_mem _ List.mem_cons_self))))))), 0, ?_, ?_, tri_eq ?_ ?_ ?_, .inl ?_⟩ <;> (try dsimp only) <;> omega)
        | (refine ⟨_, (List.mem_cons_of_mem _ (List.mem_cons_of_mem _ (List.mem_cons_of_mem _ (List.mem_cons_of_mem _ (List.mem_cons_of_mem _ (List.mem_cons_of_mem _ (List.mem_cons_of_mem _ List.mem_cons_self))))))), 0, ?_, ?_, tri_eq ?_ ?_ ?_, .inr (.inl ?_)⟩ <;> (try dsimp only) <;> omega)
        | (refine ⟨_, (List.mem_cons_of_mem _ (List.mem_cons_of_mem _ (List.mem_cons_of_mem _ (List.mem_cons_of_mem _ (List.mem_cons_of_mem _ (List.mem_cons_of_mem _ (List.mem_cons_of_mem _ List.mem_cons_self))))))), 0, ?_, ?_, tri_eq ?_ ?_ ?_, .inr (.inr (.inl ?_))⟩ <;> (try dsimp only) <;> omega)
        | (refine ⟨_, (List.mem_cons_of_mem _ (List.mem_cons_of_mem _ (List.mem_cons_of_mem _ (List.mem_cons_of_mem _ (List.mem_cons_of_mem _ (List.mem_cons_of_mem _ (List.mem_cons_of_mem _ List.mem_cons_self))))))), 0, ?_, ?_, tri_eq ?_ ?_ ?_, .inr (.inr (.inr ?_))⟩ <;> (try dsimp only) <;> omega)
  fg := fun d t ⟨f, hf, r, r1, r2, e1, ha⟩ => by
    simp only [F9, List.mem_cons, List.not_mem_nil, or_false] at hf
    rcases hf with rfl | rfl | rfl | rfl | rfl | rfl | rfl | rfl <;> dsimp only at r1 r2
    · rcases ha with ha | ha | ha | ha <;> dsimp only at ha
      · exact ⟨_, _, List.mem_cons_self, r, by (try dsimp only) <;> omega, by (try dsimp only) <;> omega, rfl, .inl (.inl (by (try dsimp only) <;> omega))⟩
      · exact ⟨_, _, List.mem_cons_self, r, by (try dsimp only) <;> omega, by (try dsimp only) <;> omega, rfl, .inr (.inl (.inl (by (try dsimp only) <;> omega)))⟩
      · exact ⟨_, _, List.mem_cons_self, r, by (try dsimp only) <;> omega, by (try dsimp only) <;> omega, rfl, .inr (.inr (.inl (by (try dsimp only) <;> omega)))⟩
      · exact ⟨_, _, List.mem_cons_self, r, by (try dsimp only) <;> omega, by (try dsimp only) <;> omega, rfl, .inr (.inr (.inr (by (try dsimp only) <;> omega)))⟩
    · rcases ha with ha | ha | ha | ha <;> dsimp only at ha
      · exact ⟨_, _, (List.mem_cons_of_mem _ List.mem_cons_self), r, by (try dsimp only) <;> omega, by (try dsimp only) <;> omega, rfl, .inl (.inl (by (try dsimp only) <;> omega))⟩
      · exact ⟨_, _, (List.mem_cons_of_mem _ List.mem_cons_self), r, by (try dsimp only) <;> omega, by (try dsimp only) <;> omega, rfl, .inr (.inl (.inl (by (try dsimp only) <;> omega)))⟩
      · exact ⟨_, _, (List.mem_cons_of_mem _ List.mem_cons_self), r, by (try dsimp only) <;> omega, by (try dsimp only) <;> omega, rfl, .inr (.inr (.inl (by (try dsimp only) <;> omega)))⟩
      · exact ⟨_, _, (List.mem_cons_of_mem _ List.mem_cons_self), r, by (try dsimp only) <;> omega, by (try dsimp only) <;> omega, rfl, .inr (.inr (.inr (by (try dsimp only) <;> omega)))⟩
    · rcases ha with ha | ha | ha | ha <;> dsimp only at ha
      · exact ⟨_, _, (List.mem_cons_of_mem _ (List.mem_cons_of_mem _ List.mem_cons_self)), r, by (try dsimp only) <;> omega, by (try dsimp only) <;> omega, rfl, .inl (.inl (by (try dsimp only) <;> omega))⟩
      · exact ⟨_, _, (List.mem_cons_of_mem _ (List.mem_cons_of_mem _ List.mem_cons_self)), r, by (try dsimp only) <;> omega, by (try dsimp only) <;> omega, rfl, .inr (.inl (.inl (by (try dsimp only) <;> omega)))⟩
      · exact ⟨_, _, (List.mem_cons_of_mem _ (List.mem_cons_of_mem _ List.mem_cons_self)), r, by (try dsimp only) <;> omega, by (try dsimp only) <;> omega, rfl, .inr (.inr (.inl (by (try dsimp only) <;> omega)))⟩
      · exact ⟨_, _, (List.mem_cons_of_mem _ (List.mem_cons_of_mem _ List.mem_cons_self)), r, by (try dsimp only) <;> omega, by (try dsimp only) <;> omega, rfl, .inr (.inr (.inr (by (try dsimp only) <;> omega)))⟩
    · rcases ha with ha | ha | ha | ha <;> dsimp only at ha
      · exact ⟨_, _, (List.mem_cons_of_mem _ (List.mem_cons_of_mem _ (List.mem_cons_of_mem _ List.mem_cons_self))), r, by (try dsimp only) <;> omega, by (try dsimp only) <;> omega, rfl, .inl (.inl (by (try dsimp only) <;> omega))⟩
      · exact ⟨_, _, (List.mem_cons_of_mem _ (List.mem_cons_of_mem _ (List.mem_cons_of_mem _ List.mem_cons_self))), r, by (try dsimp only) <;> omega, by (try dsimp only) <;> omega, rfl, .inr (.inl (.inl (by (try dsimp only) <;> omega)))⟩
      · exact ⟨_, _, (List.mem_cons_of_mem _ (List.mem_cons_of_mem _ (List.mem_cons_of_mem _ List.mem_cons_self))), r, by (try dsimp only) <;> omega, by (try dsimp only) <;> omega, rfl, .inr (.inr (.inl (by (try dsimp only) <;> omega)))⟩
      · exact ⟨_, _, (List.mem_cons_of_mem _ (List.mem_cons_of_mem _ (List.mem_cons_of_mem _ List.mem_cons_self))), r, by (try dsimp only) <;> omega, by (try dsimp only) <;> omega, rfl, .inr (.inr (.inr (by (try dsimp only) <;> omega)))⟩
    · rcases ha with ha | ha | ha | ha <;> dsimp only at ha
      · exact ⟨_, _, (List.mem_cons_of_mem _ (List.mem_cons_of_mem _ (List.mem_cons_of_mem _ (List.mem_cons_of_mem _ List.mem_cons_self)))), r, by (try dsimp only) <;> omega, by (try dsimp only) <;> omega, rfl, .inl (.inl (by (try dsimp only) <;> omega))⟩
      · exact ⟨_, _, (List.mem_cons_of_mem _ (List.mem_cons_of_mem _ (List.mem_cons_of_mem _ (List.mem_cons_of_mem _ List.mem_cons_self)))), r, by (try dsimp only) <;> omega, by (try dsimp only) <;> omega, rfl, .inr (.inl (.inl (by (try dsimp only) <;> omega)))⟩
      · exact ⟨_, _, (List.mem_cons_of_mem _ (List.mem_cons_of_mem _ (List.mem_cons_of_mem _ (List.mem_cons_of_mem _ List.mem_cons_self)))), r, by (try dsimp only) <;> omega, by (try dsimp only) <;> omega, rfl, .inr (.inr (.inl (by (try dsimp only) <;> omega)))⟩
      · exact ⟨_, _, (List.mem_cons_of_mem _ (List.mem_cons_of_mem _ (List.mem_cons_of_mem _ (List.mem_cons_of_mem _ List.mem_cons_self)))), r, by (try dsimp only) <;> omega, by (try dsimp only) <;> omega, rfl, .inr (.inr (.inr (by (try dsimp only) <;> omega)))⟩
    · rcases ha with ha | ha | ha | ha <;> dsimp only at ha
      · exact ⟨_, _, (List.mem_cons_of_mem _ (List.mem_cons_of_mem _ (List.mem_cons_of_mem _ (List.mem_cons_of_mem _ (List.mem_cons_of_mem _ List.mem_cons_self))))), r, by (try dsimp only) <;> omega, by (try dsimp only) <;> omega, rfl, .inl (.inl (by (try dsimp only) <;> omega))⟩
      · exact ⟨_, _, (List.mem_cons_of_mem _ (List.mem_cons_of_mem _ (List.mem_cons_of_mem _ (List.mem_cons_of_mem _ (List.mem_cons_of_mem _ List.mem_cons_self))))), r, by (try dsimp only) <;> omega, by (try dsimp only) <;> omega, rfl, .inr (.inl (.inl (by (try dsimp only) <;> omega)))⟩
      · exact ⟨_, _, (List.mem_cons_of_mem _ (List.mem_cons_of_mem _ (List.mem_cons_of_mem _ (List.mem_cons_of_mem _ (List.mem_cons_of_mem _ List.mem_cons_self))))), r, by (try dsimp only) <;> omega, by (try dsimp only) <;> omega, rfl, .inr (.inr (.inl (by (try dsimp only) <;> omega)))⟩
      · exact ⟨_, _, (List.mem_cons_of_mem _ (List.mem_cons_of_mem _ (List.mem_cons_of_mem _ (List.mem_cons_of_mem _ (List.mem_cons_of_mem _ List.mem_cons_self))))), r, by (try dsimp only) <;> omega, by (try dsimp only) <;> omega, rfl, .inr (.inr (.inr (by (try dsimp only) <;> omega)))⟩
    · rcases ha with ha | ha | ha | ha <;> dsimp only at ha
      · exact ⟨_, _, (List.mem_cons_of_mem _ (List.mem_cons_of_mem _ (List.mem_cons_of_mem _ (List.mem_cons_of_mem _ (List.mem_cons_of_mem _ (List.mem_cons_of_mem _ List.mem_cons_self)))))), r, by (try dsimp only) <;> omega, by (try dsimp only) <;> omega, rfl, .inl (.inl (by (try dsimp only) <;> omega))⟩
      · exact ⟨_, _, (List.mem_cons_of_mem _ (List.mem_cons_of_mem _ (List.mem_cons_of_mem _ (List.mem_cons_of_mem _ (List.mem_cons_of_mem _ (List.mem_cons_of_mem _ List.mem_cons_self)))))), r, by (try dsimp only) <;> omega, by (try dsimp only) <;> omega, rfl, .inr (.inl (.inl (by (try dsimp only) <;> omega)))⟩
      · exact ⟨_, _, (List.mem_cons_of_mem _ (List.mem_cons_of_mem _ (List.mem_cons_of_mem _ (List.mem_cons_of_mem _ (List.mem_cons_of_mem _ (List.mem_cons_of_mem _ List.mem_cons_self)))))), r, by (try dsimp only) <;> omega, by (try dsimp only) <;> omega, rfl, .inr (.inr (.inl (by (try dsimp only) <;> omega)))⟩
      · exact ⟨_, _, (List.mem_cons_of_mem _ (List.mem_cons_of_mem _ (List.mem_cons_of_mem _ (List.mem_cons_of_mem _ (List.mem_cons_of_mem _ (List.mem_cons_of_mem _ List.mem_cons_self)))))), r, by (try dsimp only) <;> omega, by (try dsimp only) <;> omega, rfl, .inr (.inr (.inr (by (try dsimp only) <;> omega)))⟩
    · rcases ha with ha | ha | ha | ha <;> dsimp only at ha
      · exact ⟨_, _, (List.mem_cons_of_mem _ (List.mem_cons_of_mem _ (List.mem_cons_of_mem _ (List.mem_cons_of_mem _ (List.mem_cons_of_mem _ (List.mem_cons_of_mem _ (List.mem_cons_of_mem _ List.mem_cons_self))))))), r, by (try dsimp only) <;> omega, by (try dsimp only) <;> omega, rfl, .inl (.inl (by (try dsimp only) <;> omega))⟩
      · exact ⟨_, _, (List.mem_cons_of_mem _ (List.mem_cons_of_mem _ (List.mem_cons_of_mem _ (List.mem_cons_of_mem _ (List.mem_cons_of_mem _ (List.mem_cons_of_mem _ (List.mem_cons_of_mem _ List.mem_cons_self))))))), r, by (try dsimp only) <;> omega, by (try dsimp only) <;> omega, rfl, .inr (.inl (.inl (by (try dsimp only) <;> omega)))⟩
      · exact ⟨_, _, (List.mem_cons_of_mem _ (List.mem_cons_of_mem _ (List.mem_cons_of_mem _ (List.mem_cons_of_mem _ (List.mem_cons_of_mem _ (List.mem_cons_of_mem _ (List.mem_cons_of_mem _ List.mem_cons_self))))))), r, by (try dsimp only) <;> omega, by (try dsimp only) <;> omega, rfl, .inr (.inr (.inl (by (try dsimp only) <;> omega)))⟩
      · exact ⟨_, _, (List.mem_cons_of_mem _ (List.mem_cons_of_mem _ (List.mem_cons_of_mem _ (List.mem_cons_of_mem _ (List.mem_cons_of_mem _ (List.mem_cons_of_mem _ (List.mem_cons_of_mem _ List.mem_cons_self))))))), r, by (try dsimp only) <;> omega, by (try dsimp only) <;> omega, rfl, .inr (.inr (.inr (by (try dsimp only) <;> omega)))⟩
  rg := fun f hf r r1 r2 => by
    simp only [G9, List.mem_cons, List.not_mem_nil, or_false] at hf
    rcases hf with rfl | rfl | rfl | rfl | rfl | rfl | rfl | rfl <;> dsimp only at r1 r2 ⊢ <;> refine ⟨⟨by omega, by omega⟩, ⟨by omega, by omega⟩, ⟨by omega, by omega⟩, ?_⟩ <;> first | (left; omega) | (right; omega)
def F13 (s : Int) : List Fam := [⟨2, 3, 6 * s + 3, (-2), 6 * s + 5, 1, 0, s - 1⟩, ⟨3, 3, 8 * s + 5, (-1), 8 * s + 8, 2, 0, s - 1⟩, ⟨1, 3, 4 * s + 3, (-1), 4 * s + 4, 2, 0, s⟩, ⟨3 * s + 2, 1, 7 * s + 5, 1, 8 * s + 6, 1, 0, 0⟩]
def G13 (s : Int) : List Fam := [⟨3 * s + 2, 0, 7 * s + 5, 0, 8 * s + 6, 0, 0, s + 0⟩, ⟨0 * s + 2, 3, 6 * s + 3, (-2), 6 * s + 5, 1, 0, s + (-1)⟩, ⟨0 * s + 3, 3, 8 * s + 5, (-1), 8 * s + 8, 2, 0, s + (-1)⟩, ⟨0 * s + 1, 3, 4 * s + 3, (-1), 4 * s + 4, 2, 0, s + 0⟩]
theorem cls13 {s : Int} (hs : 0 ≤ s) : Cls (18 * s + 13) (9 * s + 6) (F13 s) (G13 s) where
  ok := fun f hf => by
    simp only [F13, List.mem_cons, List.not_mem_nil, or_false] at hf
    rcases hf with rfl | rfl | rfl | rfl <;> exact ⟨by dsimp only; decide, by dsimp only; decide, by dsimp only; decide⟩
  uniq := fun d t t' h1 h2 ⟨f, hf, r, r1, r2, e1, ha⟩ ⟨g, hg, q, q1, q2, e2, hb⟩ => by
    subst e1 e2
    simp only [F13, List.mem_cons, List.not_mem_nil, or_false] at hf hg
    rcases hf with rfl | rfl | rfl | rfl <;> rcases hg with rfl | rfl | rfl | rfl <;> dsimp only at r1 r2 q1 q2 <;> rcases ha with ha | ha | ha | ha <;> dsimp only at ha <;> rcases hb with hb | hb | hb | hb <;> dsimp only at hb <;> first
      | (exfalso; omega)
      | (obtain rfl : r = q := by omega
         rfl)
  ex := fun d h1 h2 h3 => by
    by_cases c4 : d ≤ 3 * s + 1
    · skip
      rcases (by omega : d % 3 = 0 ∨ d % 3 = 1 ∨ d % 3 = 2) with m6 | m6 | m6
      · skip
        exact ⟨_, _, (List.mem_cons_of_mem _ List.mem_cons_self), ((d - (3)) / 3), by (try dsimp only) <;> omega, by (try dsimp only) <;> omega, rfl, .inl (by (try dsimp only) <;> omega)⟩
      · skip
        exact ⟨_, _, (List.mem_cons_of_mem _ (List.mem_cons_of_mem _ List.mem_cons_self)), ((d - (1)) / 3), by (try dsimp only) <;> omega, by (try dsimp only) <;> omega, rfl, .inl (by (try dsimp only) <;> omega)⟩
      · skip
        exact ⟨_, _, List.mem_cons_self, ((d - (2)) / 3), by (try dsimp only) <;> omega, by (try dsimp only) <;> omega, rfl, .inl (by (try dsimp only) <;> omega)⟩
    · skip
      by_cases c6 : d ≤ 3 * s + 2
      · skip
        exact ⟨_, _, (List.mem_cons_of_mem _ (List.mem_cons_of_mem _ (List.mem_cons_of_mem _ List.mem_cons_self))), 0, by (try dsimp only) <;> omega, by (try dsimp only) <;> omega, rfl, .inl (by (try dsimp only) <;> omega)⟩
      · skip
        by_cases c8 : d ≤ 4 * s + 3
        · skip
          exact ⟨_, _, (List.mem_cons_of_mem _ (List.mem_cons_of_mem _ List.mem_cons_self)), ((4 * s + 3) - d), by (try dsimp only) <;> omega, by (try dsimp only) <;> omega, rfl, .inr (.inl (by (try dsimp only) <;> omega))⟩
        · skip
          by_cases c10 : d ≤ 6 * s + 4
          · skip
            rcases (by omega : d % 2 = 0 ∨ d % 2 = 1) with m12 | m12
            · skip
              exact ⟨_, _, (List.mem_cons_of_mem _ (List.mem_cons_of_mem _ List.mem_cons_self)), ((d - (4 * s + 4)) / 2), by (try dsimp only) <;> omega, by (try dsimp only) <;> omega, rfl, .inr (.inr (.inl (by (try dsimp only) <;> omega)))⟩
            · skip
              exact ⟨_, _, List.mem_cons_self, (((6 * s + 3) - d) / 2), by (try dsimp only) <;> omega, by (try dsimp only) <;> omega, rfl, .inr (.inl (by (try dsimp only) <;> omega))⟩
          · skip
            by_cases c12 : d ≤ 7 * s + 4
            · skip
              exact ⟨_, _, List.mem_cons_self, (d - (6 * s + 5)), by (try dsimp only) <;> omega, by (try dsimp only) <;> omega, rfl, .inr (.inr (.inl (by (try dsimp only) <;> omega)))⟩
            · skip
              by_cases c14 : d ≤ 7 * s + 5
              · skip
                exact ⟨_, _, (List.mem_cons_of_mem _ (List.mem_cons_of_mem _ (List.mem_cons_of_mem _ List.mem_cons_self))), 0, by (try dsimp only) <;> omega, by (try dsimp only) <;> omega, rfl, .inr (.inl (by (try dsimp only) <;> omega))⟩
              · skip
                by_cases c16 : d ≤ 8 * s + 5
                · skip
                  exact ⟨_, _, (List.mem_cons_of_mem _ List.mem_cons_self), ((8 * s + 5) - d), by (try dsimp only) <;> omega, by (try dsimp only) <;> omega, rfl, .inr (.inl (by (try dsimp only) <;> omega))⟩
                · skip
                  by_cases c18 : d ≤ 8 * s + 6
                  · skip
                    exact ⟨_, _, (List.mem_cons_of_mem _ (List.mem_cons_of_mem _ (List.mem_cons_of_mem _ List.mem_cons_self))), 0, by (try dsimp only) <;> omega, by (try dsimp only) <;> omega, rfl, .inr (.inr (.inl (by (try dsimp only) <;> omega)))⟩
                  · skip
                    rcases (by omega : d % 2 = 0 ∨ d % 2 = 1) with m20 | m20
                    · skip
                      exact ⟨_, _, (List.mem_cons_of_mem _ List.mem_cons_self), ((d - (8 * s + 8)) / 2), by (try dsimp only) <;> omega, by (try dsimp only) <;> omega, rfl, .inr (.inr (.inl (by (try dsimp only) <;> omega)))⟩
                    · skip
                      exact ⟨_, _, (List.mem_cons_of_mem _ List.mem_cons_self), (((10 * s + 5) - d) / 2), by (try dsimp only) <;> omega, by (try dsimp only) <;> omega, rfl, .inr (.inr (.inr (by (try dsimp only) <;> omega)))⟩
  no := fun d t h3 ⟨f, hf, r, r1, r2, e1, ha⟩ => by
    simp only [F13, List.mem_cons, List.not_mem_nil, or_false] at hf
    rcases hf with rfl | rfl | rfl | rfl <;> dsimp only at r1 r2 <;> rcases ha with ha | ha | ha | ha <;> dsimp only at ha <;> omega
  gf := fun d t h1 h2 ⟨f, hf, r, r1, r2, e1, ha⟩ => by
    subst e1
    simp only [G13, List.mem_cons, List.not_mem_nil, or_false] at hf
    rcases hf with rfl | rfl | rfl | rfl <;> dsimp only at r1 r2
    · rcases ha with (ha | ha) | (ha | ha) | (ha | ha) <;> dsimp only at ha <;> first
        | (exfalso; omega)
        | (refine ⟨_, (List.mem_cons_of_mem _ (List.mem_cons_of_mem _ (List.mem_cons_of_mem _ List.mem_cons_self))), 0, ?_, ?_, tri_eq ?_ ?_ ?_, .inl ?_⟩ <;> (try dsimp only) <;> omega)
        | (refine ⟨_, (List.mem_cons_of_mem _ (List.mem_cons_of_mem _ (List.mem_cons_of_mem _ List.mem_cons_self))), 0, ?_, ?_, tri_eq ?_ ?_ ?_, .inr (.inl ?_)⟩ <;> (try dsimp only) <;> omega)
        | (refine ⟨_, (List.mem_cons_of_mem _ (List.mem_cons_of_mem _ (List.mem_cons_of_mem _ List.mem_cons_self))), 0, ?_, ?_, tri_eq ?_ ?_ ?_, .inr (.inr (.inl ?_))⟩ <;> (try dsimp only) <;> omega)
        | (refine ⟨_, (List.mem_cons_of_mem _ (List.mem_cons_of_mem _ (List.mem_cons_of_mem _ List.mem_cons_self))), 0, ?_, ?_, tri_eq ?_ ?_ ?_, .inr (.inr (.inr ?_))⟩ <;> (try dsimp only) <;> omega)
    · rcases ha with (ha | ha) | (ha | ha) | (ha | ha) <;> dsimp only at ha <;> first
        | (exfalso; omega)
        | (refine ⟨_, List.mem_cons_self, r, ?_, ?_, tri_eq ?_ ?_ ?_, .inl ?_⟩ <;> (try dsimp only) <;> omega)
        | (refine ⟨_, List.mem_cons_self, r, ?_, ?_, tri_eq ?_ ?_ ?_, .inr (.inl ?_)⟩ <;> (try dsimp only) <;> omega)
        | (refine ⟨_, List.mem_cons_self, r, ?_, ?_, tri_eq ?_ ?_ ?_, .inr (.inr (.inl ?_))⟩ <;> (try dsimp only) <;> omega)
        | (refine ⟨_, List.mem_cons_self, r, ?_, ?_, tri_eq ?_ ?_ ?_, .inr (.inr (.inr ?_))⟩ <;> (try dsimp only) <;> omega)
    · rcases ha with (ha | ha) | (ha | ha) | (ha | ha) <;> dsimp only at ha <;> first
        | (exfalso; omega)
        | (refine ⟨_, (List.mem_cons_of_mem _ List.mem_cons_self), r, ?_, ?_, tri_eq ?_ ?_ ?_, .inl ?_⟩ <;> (try dsimp only) <;> omega)
        | (refine ⟨_, (List.mem_cons_of_mem _ List.mem_cons_self), r, ?_, ?_, tri_eq ?_ ?_ ?_, .inr (.inl ?_)⟩ <;> (try dsimp only) <;> omega)
        | (refine ⟨_, (List.mem_cons_of_mem _ List.mem_cons_self), r, ?_, ?_, tri_eq ?_ ?_ ?_, .inr (.inr (.inl ?_))⟩ <;> (try dsimp only) <;> omega)
        | (refine ⟨_, (List.mem_cons_of_mem _ List.mem_cons_self), r, ?_, ?_, tri_eq ?_ ?_ ?_, .inr (.inr (.inr ?_))⟩ <;> (try dsimp only) <;> omega)
    · rcases ha with (ha | ha) | (ha | ha) | (ha | ha) <;> dsimp only at ha <;> first
        | (exfalso; omega)
        | (refine ⟨_, (List.mem_cons_of_mem _ (List.mem_cons_of_mem _ List.mem_cons_self)), r, ?_, ?_, tri_eq ?_ ?_ ?_, .inl ?_⟩ <;> (try dsimp only) <;> omega)
        | (refine ⟨_, (List.mem_cons_of_mem _ (List.mem_cons_of_mem _ List.mem_cons_self)), r, ?_, ?_, tri_eq ?_ ?_ ?_, .inr (.inl ?_)⟩ <;> (try dsimp only) <;> omega)
        | (refine ⟨_, (List.mem_cons_of_mem _ (List.mem_cons_of_mem _ List.mem_cons_self)), r, ?_, ?_, tri_eq ?_ ?_ ?_, .inr (.inr (.inl ?_))⟩ <;> (try dsimp only) <;> omega)
        | (refine ⟨_, (List.mem_cons_of_mem _ (List.mem_cons_of_mem _ List.mem_cons_self)), r, ?_, ?_, tri_eq ?_ ?_ ?_, .inr (.inr (.inr ?_))⟩ <;> (try dsimp only) <;> omega)
  fg := fun d t ⟨f, hf, r, r1, r2, e1, ha⟩ => by
    simp only [F13, List.mem_cons, List.not_mem_nil, or_false] at hf
    rcases hf with rfl | rfl | rfl | rfl <;> dsimp only at r1 r2
    · rcases ha with ha | ha | ha | ha <;> dsimp only at ha
      · exact ⟨_, _, (List.mem_cons_of_mem _ List.mem_cons_self), r, by (try dsimp only) <;> omega, by (try dsimp only) <;> omega, rfl, .inl (.inl (by (try dsimp only) <;> omega))⟩
      · exact ⟨_, _, (List.mem_cons_of_mem _ List.mem_cons_self), r, by (try dsimp only) <;> omega, by (try dsimp only) <;> omega, rfl, .inr (.inl (.inl (by (try dsimp only) <;> omega)))⟩
      · exact ⟨_, _, (List.mem_cons_of_mem _ List.mem_cons_self), r, by (try dsimp only) <;> omega, by (try dsimp only) <;> omega, rfl, .inr (.inr (.inl (by (try dsimp only) <;> omega)))⟩
      · exact ⟨_, _, (List.mem_cons_of_mem _ List.mem_cons_self), r, by (try dsimp only) <;> omega, by (try dsimp only) <;> omega, rfl, .inr (.inr (.inr (by (try dsimp only) <;> omega)))⟩
    · rcases ha with ha | ha | ha | ha <;> dsimp only at ha
      · exact ⟨_, _, (List.mem_cons_of_mem _ (List.mem_cons_of_mem _ List.mem_cons_self)), r, by (try dsimp only) <;> omega, by (try dsimp only) <;> omega, rfl, .inl (.inl (by (try dsimp only) <;> omega))⟩
      · exact ⟨_, _, (List.mem_cons_of_mem _ (List.mem_cons_of_mem _ List.mem_cons_self)), r, by (try dsimp only) <;> omega, by (try dsimp only) <;> omega, rfl, .inr (.inl (.inl (by (try dsimp only) <;> omega)))⟩
      · exact ⟨_, _, (List.mem_cons_of_mem _ (List.mem_cons_of_mem _ List.mem_cons_self)), r, by (try dsimp only) <;> omega, by (try dsimp only) <;> omega, rfl, .inr (.inr (.inl (by (try dsimp only) <;> omega)))⟩
      · exact ⟨_, _, (List.mem_cons_of_mem _ (List.mem_cons_of_mem _ List.mem_cons_self)), r, by (try dsimp only) <;> omega, by (try dsimp only) <;> omega, rfl, .inr (.inr (.inr (by (try dsimp only) <;> omega)))⟩
    · rcases ha with ha | ha | ha | ha <;> dsimp only at ha
      · exact ⟨_, _, (List.mem_cons_of_mem _ (List.mem_cons_of_mem _ (List.mem_cons_of_mem _ List.mem_cons_self))), r, by (try dsimp only) <;> omega, by (try dsimp only) <;> omega, rfl, .inl (.inl (by (try dsimp only) <;> omega))⟩
      · exact ⟨_, _, (List.mem_cons_of_mem _ (List.mem_cons_of_mem _ (List.mem_cons_of_mem _ List.mem_cons_self))), r, by (try dsimp only) <;> omega, by (try dsimp only) <;> omega, rfl, .inr (.inl (.inl (by (try dsimp only) <;> omega)))⟩
      · exact ⟨_, _, (List.mem_cons_of_mem _ (List.mem_cons_of_mem _ (List.mem_cons_of_mem _ List.mem_cons_self))), r, by (try dsimp only) <;> omega, by (try dsimp only) <;> omega, rfl, .inr (.inr (.inl (by (try dsimp only) <;> omega)))⟩
      · exact ⟨_, _, (List.mem_cons_of_mem _ (List.mem_cons_of_mem _ (List.mem_cons_of_mem _ List.mem_cons_self))), r, by (try dsimp only) <;> omega, by (try dsimp only) <;> omega, rfl, .inr (.inr (.inr (by (try dsimp only) <;> omega)))⟩
    · rcases ha with ha | ha | ha | ha <;> dsimp only at ha
      · exact ⟨_, _, List.mem_cons_self, r, by (try dsimp only) <;> omega, by (try dsimp only) <;> omega, rfl, .inl (.inl (by (try dsimp only) <;> omega))⟩
      · exact ⟨_, _, List.mem_cons_self, r, by (try dsimp only) <;> omega, by (try dsimp only) <;> omega, rfl, .inr (.inl (.inl (by (try dsimp only) <;> omega)))⟩
      · exact ⟨_, _, List.mem_cons_self, r, by (try dsimp only) <;> omega, by (try dsimp only) <;> omega, rfl, .inr (.inr (.inl (by (try dsimp only) <;> omega)))⟩
      · exact ⟨_, _, List.mem_cons_self, r, by (try dsimp only) <;> omega, by (try dsimp only) <;> omega, rfl, .inr (.inr (.inr (by (try dsimp only) <;> omega)))⟩
  rg := fun f hf r r1 r2 => by
    simp only [G13, List.mem_cons, List.not_mem_nil, or_false] at hf
    rcases hf with rfl | rfl | rfl | rfl <;> dsimp only at r1 r2 ⊢ <;> refine ⟨⟨by omega, by omega⟩, ⟨by omega, by omega⟩, ⟨by omega, by omega⟩, ?_⟩ <;> first | (left; omega) | (right; omega)
def F15 (s : Int) : List Fam := [⟨1, 3, 4 * s + 3, (-1), 4 * s + 4, 2, 0, s⟩, ⟨2, 3, 8 * s + 6, (-1), 8 * s + 8, 2, 0, s⟩, ⟨3, 3, 6 * s + 3, (-2), 6 * s + 6, 1, 0, s - 1⟩]
def G15 (s : Int) : List Fam := [⟨0 * s + 1, 3, 4 * s + 3, (-1), 4 * s + 4, 2, 0, s + 0⟩, ⟨0 * s + 2, 3, 8 * s + 6, (-1), 8 * s + 8, 2, 0, s + 0⟩, ⟨0 * s + 3, 3, 6 * s + 3, (-2), 6 * s + 6, 1, 0, s + (-1)⟩]
theorem cls15 {s : Int} (hs : 0 ≤ s) : Cls (18 * s + 15) (9 * s + 7) (F15 s) (G15 s) where
  ok := fun f hf => by
    simp only [F15, List.mem_cons, List.not_mem_nil, or_false] at hf
    rcases hf with rfl | rfl | rfl <;> exact ⟨by dsimp only; decide, by dsimp only; decide, by dsimp only; decide⟩
  uniq := fun d t t' h1 h2 ⟨f, hf, r, r1, r2, e1, ha⟩ ⟨g, hg, q, q1, q2, e2, hb⟩ => by
    subst e1 e2
    simp only [F15, List.mem_cons, List.not_mem_nil, or_false] at hf hg
    rcases hf with rfl | rfl | rfl <;> rcases hg with rfl | rfl | rfl <;> dsimp only at r1 r2 q1 q2 <;> rcases ha with ha | ha | ha | ha <;> dsimp only at ha <;> rcases hb with hb | hb | hb | hb <;> dsimp only at hb <;> first
      | (exfalso; omega)
      | (obtain rfl : r = q := by omega
         rfl)
  ex := fun d h1 h2 h3 => by
    by_cases c4 : d ≤ 3 * s + 2
    · skip
      rcases (by omega : d % 3 = 0 ∨ d % 3 = 1 ∨ d % 3 = 2) with m6 | m6 | m6
      · skip
        exact ⟨_, _, (List.mem_cons_of_mem _ (List.mem_cons_of_mem _ List.mem_cons_self)), ((d - (3)) / 3), by (try dsimp only) <;> omega, by (try dsimp only) <;> omega, rfl, .inl (by (try dsimp only) <;> omega)⟩
      · skip
        exact ⟨_, _, List.mem_cons_self, ((d - (1)) / 3), by (try dsimp only) <;> omega, by (try dsimp only) <;> omega, rfl, .inl (by (try dsimp only) <;> omega)⟩
      · skip
        exact ⟨_, _, (List.mem_cons_of_mem _ List.mem_cons_self), ((d - (2)) / 3), by (try dsimp only) <;> omega, by (try dsimp only) <;> omega, rfl, .inl (by (try dsimp only) <;> omega)⟩
    · skip
      by_cases c6 : d ≤ 4 * s + 3
      · skip
        exact ⟨_, _, List.mem_cons_self, ((4 * s + 3) - d), by (try dsimp only) <;> omega, by (try dsimp only) <;> omega, rfl, .inr (.inl (by (try dsimp only) <;> omega))⟩
      · skip
        by_cases c8 : d ≤ 6 * s + 4
        · skip
          rcases (by omega : d % 2 = 0 ∨ d % 2 = 1) with m10 | m10
          · skip
            exact ⟨_, _, List.mem_cons_self, ((d - (4 * s + 4)) / 2), by (try dsimp only) <;> omega, by (try dsimp only) <;> omega, rfl, .inr (.inr (.inl (by (try dsimp only) <;> omega)))⟩
          · skip
            exact ⟨_, _, (List.mem_cons_of_mem _ (List.mem_cons_of_mem _ List.mem_cons_self)), (((6 * s + 3) - d) / 2), by (try dsimp only) <;> omega, by (try dsimp only) <;> omega, rfl, .inr (.inl (by (try dsimp only) <;> omega))⟩
        · skip
          by_cases c10 : d ≤ 7 * s + 5
          · skip
            exact ⟨_, _, (List.mem_cons_of_mem _ (List.mem_cons_of_mem _ List.mem_cons_self)), (d - (6 * s + 6)), by (try dsimp only) <;> omega, by (try dsimp only) <;> omega, rfl, .inr (.inr (.inl (by (try dsimp only) <;> omega)))⟩
          · skip
            by_cases c12 : d ≤ 8 * s + 6
            · skip
              exact ⟨_, _, (List.mem_cons_of_mem _ List.mem_cons_self), ((8 * s + 6) - d), by (try dsimp only) <;> omega, by (try dsimp only) <;> omega, rfl, .inr (.inl (by (try dsimp only) <;> omega))⟩
            · skip
              rcases (by omega : d % 2 = 0 ∨ d % 2 = 1) with m14 | m14
              · skip
                exact ⟨_, _, (List.mem_cons_of_mem _ List.mem_cons_self), ((d - (8 * s + 8)) / 2), by (try dsimp only) <;> omega, by (try dsimp only) <;> omega, rfl, .inr (.inr (.inl (by (try dsimp only) <;> omega)))⟩
              · skip
                exact ⟨_, _, (List.mem_cons_of_mem _ List.mem_cons_self), (((10 * s + 7) - d) / 2), by (try dsimp only) <;> omega, by (try dsimp only) <;> omega, rfl, .inr (.inr (.inr (by (try dsimp only) <;> omega)))⟩
  no := fun d t h3 ⟨f, hf, r, r1, r2, e1, ha⟩ => by
    simp only [F15, List.mem_cons, List.not_mem_nil, or_false] at hf
    rcases hf with rfl | rfl | rfl <;> dsimp only at r1 r2 <;> rcases ha with ha | ha | ha | ha <;> dsimp only at ha <;> omega
  gf := fun d t h1 h2 ⟨f, hf, r, r1, r2, e1, ha⟩ => by
    subst e1
    simp only [G15, List.mem_cons, List.not_mem_nil, or_false] at hf
    rcases hf with rfl | rfl | rfl <;> dsimp only at r1 r2
    · rcases ha with (ha | ha) | (ha | ha) | (ha | ha) <;> dsimp only at ha <;> first
        | (exfalso; omega)
        | (refine ⟨_, List.mem_cons_self, r, ?_, ?_, tri_eq ?_ ?_ ?_, .inl ?_⟩ <;> (try dsimp only) <;> omega)
        | (refine ⟨_, List.mem_cons_self, r, ?_, ?_, tri_eq ?_ ?_ ?_, .inr (.inl ?_)⟩ <;> (try dsimp only) <;> omega)
        | (refine ⟨_, List.mem_cons_self, r, ?_, ?_, tri_eq ?_ ?_ ?_, .inr (.inr (.inl ?_))⟩ <;> (try dsimp only) <;> omega)
        | (refine ⟨_, List.mem_cons_self, r, ?_, ?_, tri_eq ?_ ?_ ?_, .inr (.inr (.inr ?_))⟩ <;> (try dsimp only) <;> omega)
    · rcases ha with (ha | ha) | (ha | ha) | (ha | ha) <;> dsimp only at ha <;> first
        | (exfalso; omega)
        | (refine ⟨_, (List.mem_cons_of_mem _ List.mem_cons_self), r, ?_, ?_, tri_eq ?_ ?_ ?_, .inl ?_⟩ <;> (try dsimp only) <;> omega)
        | (refine ⟨_, (List.mem_cons_of_mem _ List.mem_cons_self), r, ?_, ?_, tri_eq ?_ ?_ ?_, .inr (.inl ?_)⟩ <;> (try dsimp only) <;> omega)
        | (refine ⟨_, (List.mem_cons_of_mem _ List.mem_cons_self), r, ?_, ?_, tri_eq ?_ ?_ ?_, .inr (.inr (.inl ?_))⟩ <;> (try dsimp only) <;> omega)
        | (refine ⟨_, (List.mem_cons_of_mem _ List.mem_cons_self), r, ?_, ?_, tri_eq ?_ ?_ ?_, .inr (.inr (.inr ?_))⟩ <;> (try dsimp only) <;> omega)
    · rcases ha with (ha | ha) | (ha | ha) | (ha | ha) <;> dsimp only at ha <;> first
        | (exfalso; omega)
        | (refine ⟨_, (List.mem_cons_of_mem _ (List.mem_cons_of_mem _ List.mem_cons_self)), r, ?_, ?_, tri_eq ?_ ?_ ?_, .inl ?_⟩ <;> (try dsimp only) <;> omega)
        | (refine ⟨_, (List.mem_cons_of_mem _ (List.mem_cons_of_mem _ List.mem_cons_self)), r, ?_, ?_, tri_eq ?_ ?_ ?_, .inr (.inl ?_)⟩ <;> (try dsimp only) <;> omega)
        | (refine ⟨_, (List.mem_cons_of_mem _ (List.mem_cons_of_mem _ List.mem_cons_self)), r, ?_, ?_, tri_eq ?_ ?_ ?_, .inr (.inr (.inl ?_))⟩ <;> (try dsimp only) <;> omega)
        | (refine ⟨_, (List.mem_cons_of_mem _ (List.mem_cons_of_mem _ List.mem_cons_self)), r, ?_, ?_, tri_eq ?_ ?_ ?_, .inr (.inr (.inr ?_))⟩ <;> (try dsimp only) <;> omega)
  fg := fun d t ⟨f, hf, r, r1, r2, e1, ha⟩ => by
    simp only [F15, List.mem_cons, List.not_mem_nil, or_false] at hf
    rcases hf with rfl | rfl | rfl <;> dsimp only at r1 r2
    · rcases ha with ha | ha | ha | ha <;> dsimp only at ha
      · exact ⟨_, _, List.mem_cons_self, r, by (try dsimp only) <;> omega, by (try dsimp only) <;> omega, rfl, .inl (.inl (by (try dsimp only) <;> omega))⟩
      · exact ⟨_, _, List.mem_cons_self, r, by (try dsimp only) <;> omega, by (try dsimp only) <;> omega, rfl, .inr (.inl (.inl (by (try dsimp only) <;> omega)))⟩
      · exact ⟨_, _, List.mem_cons_self, r, by (try dsimp only) <;> omega, by (try dsimp only) <;> omega, rfl, .inr (.inr (.inl (by (try dsimp only) <;> omega)))⟩
      · exact ⟨_, _, List.mem_cons_self, r, by (try dsimp only) <;> omega, by (try dsimp only) <;> omega, rfl, .inr (.inr (.inr (by (try dsimp only) <;> omega)))⟩
    · rcases ha with ha | ha | ha | ha <;> dsimp only at ha
      · exact ⟨_, _, (List.mem_cons_of_mem _ List.mem_cons_self), r, by (try dsimp only) <;> omega, by (try dsimp only) <;> omega, rfl, .inl (.inl (by (try dsimp only) <;> omega))⟩
      · exact ⟨_, _, (List.mem_cons_of_mem _ List.mem_cons_self), r, by (try dsimp only) <;> omega, by (try dsimp only) <;> omega, rfl, .inr (.inl (.inl (by (try dsimp only) <;> omega)))⟩
      · exact ⟨_, _, (List.mem_cons_of_mem _ List.mem_cons_self), r, by (try dsimp only) <;> omega, by (try dsimp only) <;> omega, rfl, .inr (.inr (.inl (by (try dsimp only) <;> omega)))⟩
      · exact ⟨_, _, (List.mem_cons_of_mem _ List.mem_cons_self), r, by (try dsimp only) <;> omega, by (try dsimp only) <;> omega, rfl, .inr (.inr (.inr (by (try dsimp only) <;> omega)))⟩
    · rcases ha with ha | ha | ha | ha <;> dsimp only at ha
      · exact ⟨_, _, (List.mem_cons_of_mem _ (List.mem_cons_of_mem _ List.mem_cons_self)), r, by (try dsimp only) <;> omega, by (try dsimp only) <;> omega, rfl, .inl (.inl (by (try dsimp only) <;> omega))⟩
      · exact ⟨_, _, (List.mem_cons_of_mem _ (List.mem_cons_of_mem _ List.mem_cons_self)), r, by (try dsimp only) <;> omega, by (try dsimp only) <;> omega, rfl, .inr (.inl (.inl (by (try dsimp only) <;> omega)))⟩
      · exact ⟨_, _, (List.mem_cons_of_mem _ (List.mem_cons_of_mem _ List.mem_cons_self)), r, by (try dsimp only) <;> omega, by (try dsimp only) <;> omega, rfl, .inr (.inr (.inl (by (try dsimp only) <;> omega)))⟩
      · exact ⟨_, _, (List.mem_cons_of_mem _ (List.mem_cons_of_mem _ List.mem_cons_self)), r, by (try dsimp only) <;> omega, by (try dsimp only) <;> omega, rfl, .inr (.inr (.inr (by (try dsimp only) <;> omega)))⟩
  rg := fun f hf r r1 r2 => by
    simp only [G15, List.mem_cons, List.not_mem_nil, or_false] at hf
    rcases hf with rfl | rfl | rfl <;> dsimp only at r1 r2 ⊢ <;> refine ⟨⟨by omega, by omega⟩, ⟨by omega, by omega⟩, ⟨by omega, by omega⟩, ?_⟩ <;> first | (left; omega) | (right; omega)
def F27 : List Fam := [⟨1, 1, 12, 1, 13, 1, 0, 0⟩, ⟨2, 1, 5, 1, 7, 1, 0, 0⟩, ⟨3, 1, 8, 1, 11, 1, 0, 0⟩, ⟨4, 1, 6, 1, 10, 1, 0, 0⟩]
def G27 : List Fam := [⟨0 * 1 + 1, 0, 0 * 1 + 12, 0, 0 * 1 + 13, 0, 0, 1 + 0⟩, ⟨0 * 1 + 2, 0, 0 * 1 + 5, 0, 0 * 1 + 7, 0, 0, 1 + 0⟩, ⟨0 * 1 + 3, 0, 0 * 1 + 8, 0, 0 * 1 + 11, 0, 0, 1 + 0⟩, ⟨0 * 1 + 4, 0, 0 * 1 + 6, 0, 0 * 1 + 10, 0, 0, 1 + 0⟩]
theorem cls27 : Cls 27 13 F27 G27 where
  ok := fun f hf => by
    simp only [F27, List.mem_cons, List.not_mem_nil, or_false] at hf
    rcases hf with rfl | rfl | rfl | rfl <;> exact ⟨by dsimp only; decide, by dsimp only; decide, by dsimp only; decide⟩
  uniq := fun d t t' h1 h2 ⟨f, hf, r, r1, r2, e1, ha⟩ ⟨g, hg, q, q1, q2, e2, hb⟩ => by
    subst e1 e2
    simp only [F27, List.mem_cons, List.not_mem_nil, or_false] at hf hg
    rcases hf with rfl | rfl | rfl | rfl <;> rcases hg with rfl | rfl | rfl | rfl <;> dsimp only at r1 r2 q1 q2 <;> rcases ha with ha | ha | ha | ha <;> dsimp only at ha <;> rcases hb with hb | hb | hb | hb <;> dsimp only at hb <;> first
      | (exfalso; omega)
      | (obtain rfl : r = q := by omega
         rfl)
  ex := fun d h1 h2 h3 => by
    by_cases e100 : d = 1
    · exact ⟨_, _, List.mem_cons_self, 0, by (try dsimp only) <;> omega, by (try dsimp only) <;> omega, rfl, .inl (by (try dsimp only) <;> omega)⟩
    by_cases e102 : d = 12
    · exact ⟨_, _, List.mem_cons_self, 0, by (try dsimp only) <;> omega, by (try dsimp only) <;> omega, rfl, .inr (.inl (by (try dsimp only) <;> omega))⟩
    by_cases e104 : d = 13
    · exact ⟨_, _, List.mem_cons_self, 0, by (try dsimp only) <;> omega, by (try dsimp only) <;> omega, rfl, .inr (.inr (.inl (by (try dsimp only) <;> omega)))⟩
    by_cases e106 : d = 2
    · exact ⟨_, _, (List.mem_cons_of_mem _ List.mem_cons_self), 0, by (try dsimp only) <;> omega, by (try dsimp only) <;> omega, rfl, .inl (by (try dsimp only) <;> omega)⟩
    by_cases e108 : d = 5
    · exact ⟨_, _, (List.mem_cons_of_mem _ List.mem_cons_self), 0, by (try dsimp only) <;> omega, by (try dsimp only) <;> omega, rfl, .inr (.inl (by (try dsimp only) <;> omega))⟩
    by_cases e110 : d = 7
    · exact ⟨_, _, (List.mem_cons_of_mem _ List.mem_cons_self), 0, by (try dsimp only) <;> omega, by (try dsimp only) <;> omega, rfl, .inr (.inr (.inl (by (try dsimp only) <;> omega)))⟩
    by_cases e112 : d = 3
    · exact ⟨_, _, (List.mem_cons_of_mem _ (List.mem_cons_of_mem _ List.mem_cons_self)), 0, by (try dsimp only) <;> omega, by (try dsimp only) <;> omega, rfl, .inl (by (try dsimp only) <;> omega)⟩
    by_cases e114 : d = 8
    · exact ⟨_, _, (List.mem_cons_of_mem _ (List.mem_cons_of_mem _ List.mem_cons_self)), 0, by (try dsimp only) <;> omega, by (try dsimp only) <;> omega, rfl, .inr (.inl (by (try dsimp only) <;> omega))⟩
    by_cases e116 : d = 11
    · exact ⟨_, _, (List.mem_cons_of_mem _ (List.mem_cons_of_mem _ List.mem_cons_self)), 0, by (try dsimp only) <;> omega, by (try dsimp only) <;> omega, rfl, .inr (.inr (.inl (by (try dsimp only) <;> omega)))⟩
    by_cases e118 : d = 4
    · exact ⟨_, _, (List.mem_cons_of_mem _ (List.mem_cons_of_mem _ (List.mem_cons_of_mem _ List.mem_cons_self))), 0, by (try dsimp only) <;> omega, by (try dsimp only) <;> omega, rfl, .inl (by (try dsimp only) <;> omega)⟩
    by_cases e120 : d = 6
    · exact ⟨_, _, (List.mem_cons_of_mem _ (List.mem_cons_of_mem _ (List.mem_cons_of_mem _ List.mem_cons_self))), 0, by (try dsimp only) <;> omega, by (try dsimp only) <;> omega, rfl, .inr (.inl (by (try dsimp only) <;> omega))⟩
    by_cases e122 : d = 10
    · exact ⟨_, _, (List.mem_cons_of_mem _ (List.mem_cons_of_mem _ (List.mem_cons_of_mem _ List.mem_cons_self))), 0, by (try dsimp only) <;> omega, by (try dsimp only) <;> omega, rfl, .inr (.inr (.inl (by (try dsimp only) <;> omega)))⟩
    exfalso
    omega
  no := fun d t h3 ⟨f, hf, r, r1, r2, e1, ha⟩ => by
    simp only [F27, List.mem_cons, List.not_mem_nil, or_false] at hf
    rcases hf with rfl | rfl | rfl | rfl <;> dsimp only at r1 r2 <;> rcases ha with ha | ha | ha | ha <;> dsimp only at ha <;> omega
  gf := fun d t h1 h2 ⟨f, hf, r, r1, r2, e1, ha⟩ => by
    subst e1
    simp only [G27, List.mem_cons, List.not_mem_nil, or_false] at hf
    rcases hf with rfl | rfl | rfl | rfl <;> dsimp only at r1 r2
    · rcases ha with (ha | ha) | (ha | ha) | (ha | ha) <;> dsimp only at ha <;> first
        | (exfalso; omega)
        | (refine ⟨_, List.mem_cons_self, 0, ?_, ?_, tri_eq ?_ ?_ ?_, .inl ?_⟩ <;> (try dsimp only) <;> omega)
        | (refine ⟨_, List.mem_cons_self, 0, ?_, ?_, tri_eq ?_ ?_ ?_, .inr (.inl ?_)⟩ <;> (try dsimp only) <;> omega)
        | (refine ⟨_, List.mem_cons_self, 0, ?_, ?_, tri_eq ?_ ?_ ?_, .inr (.inr (.inl ?_))⟩ <;> (try dsimp only) <;> omega)
        | (refine ⟨_, List.mem_cons_self, 0, ?_, ?_, tri_eq ?_ ?_ ?_, .inr (.inr (.inr ?_))⟩ <;> (try dsimp only) <;> omega)
    · rcases ha with (ha | ha) | (ha | ha) | (ha | ha) <;> dsimp only at ha <;> first
        | (exfalso; omega)
        | (refine ⟨_, (List.mem_cons_of_mem _ List.mem_cons_self), 0, ?_, ?_, tri_eq ?_ ?_ ?_, .inl ?_⟩ <;> (try dsimp only) <;> omega)
        | (refine ⟨_, (List.mem_cons_of_mem _ List.mem_cons_self), 0, ?_, ?_, tri_eq ?_ ?_ ?_, .inr (.inl ?_)⟩ <;> (try dsimp only) <;> omega)
        | (refine ⟨_, (List.mem_cons_of_mem _ List.mem_cons_self), 0, ?_, ?_, tri_eq ?_ ?_ ?_, .inr (.inr (.inl ?_))⟩ <;> (try dsimp only) <;> omega)
        | (refine ⟨_, (List.mem_cons_of_mem _ List.mem_cons_self), 0, ?_, ?_, tri_eq ?_ ?_ ?_, .inr (.inr (.inr ?_))⟩ <;> (try dsimp only) <;> omega)
    · rcases ha with (ha | ha) | (ha | ha) | (ha | ha) <;> dsimp only at ha <;> first
        | (exfalso; omega)
        | (refine ⟨_, (List.mem_cons_of_mem _ (List.mem_cons_of_mem _ List.mem_cons_self)), 0, ?_, ?_, tri_eq ?_ ?_ ?_, .inl ?_⟩ <;> (try dsimp only) <;> omega)
        | (refine ⟨_, (List.mem_cons_of_mem _ (List.mem_cons_of_mem _ List.mem_cons_self)), 0, ?_, ?_, tri_eq ?_ ?_ ?_, .inr (.inl ?_)⟩ <;> (try dsimp only) <;> omega)
        | (refine ⟨_, (List.mem_cons_of_mem _ (List.mem_cons_of_mem _ List.mem_cons_self)), 0, ?_, ?_, tri_eq ?_ ?_ ?_, .inr (.inr (.inl ?_))⟩ <;> (try dsimp only) <;> omega)
        | (refine ⟨_, (List.mem_cons_of_mem _ (List.mem_cons_of_mem _ List.mem_cons_self)), 0, ?_, ?_, tri_eq ?_ ?_ ?_, .inr (.inr (.inr ?_))⟩ <;> (try dsimp only) <;> omega)
    · rcases ha with (ha | ha) | (ha | ha) | (ha | ha) <;> dsimp only at ha <;> first
        | (exfalso; omega)
        | (refine ⟨_, (List.mem_cons_of_mem _ (List.mem_cons_of_mem _ (List.mem_cons_of_mem _ List.mem_cons_self))), 0, ?_, ?_, tri_eq ?_ ?_ ?_, .inl ?_⟩ <;> (try dsimp only) <;> omega)
        | (refine ⟨_, (List.mem_cons_of_mem _ (List.mem_cons_of_mem _ (List.mem_cons_of_mem _ List.mem_cons_self))), 0, ?_, ?_, tri_eq ?_ ?_ ?_, .inr (.inl ?_)⟩ <;> (try dsimp only) <;> omega)
        | (refine ⟨_, (List.mem_cons_of_mem _ (List.mem_cons_of_mem _ (List.mem_cons_of_mem _ List.mem_cons_self))), 0, ?_, ?_, tri_eq ?_ ?_ ?_, .inr (.inr (.inl ?_))⟩ <;> (try dsimp only) <;> omega)
        | (refine ⟨_, (List.mem_cons_of_mem _ (List.mem_cons_of_mem _ (List.mem_cons_of_mem _ List.mem_cons_self))), 0, ?_, ?_, tri_eq ?_ ?_ ?_, .inr (.inr (.inr ?_))⟩ <;> (try dsimp only) <;> omega)
  fg := fun d t ⟨f, hf, r, r1, r2, e1, ha⟩ => by
    simp only [F27, List.mem_cons, List.not_mem_nil, or_false] at hf
    rcases hf with rfl | rfl | rfl | rfl <;> dsimp only at r1 r2
    · rcases ha with ha | ha | ha | ha <;> dsimp only at ha
      · exact ⟨_, _, List.mem_cons_self, r, by (try dsimp only) <;> omega, by (try dsimp only) <;> omega, rfl, .inl (.inl (by (try dsimp only) <;> omega))⟩
      · exact ⟨_, _, List.mem_cons_self, r, by (try dsimp only) <;> omega, by (try dsimp only) <;> omega, rfl, .inr (.inl (.inl (by (try dsimp only) <;> omega)))⟩
      · exact ⟨_, _, List.mem_cons_self, r, by (try dsimp only) <;> omega, by (try dsimp only) <;> omega, rfl, .inr (.inr (.inl (by (try dsimp only) <;> omega)))⟩
      · exact ⟨_, _, List.mem_cons_self, r, by (try dsimp only) <;> omega, by (try dsimp only) <;> omega, rfl, .inr (.inr (.inr (by (try dsimp only) <;> omega)))⟩
    · rcases ha with ha | ha | ha | ha <;> dsimp only at ha
      · exact ⟨_, _, (List.mem_cons_of_mem _ List.mem_cons_self), r, by (try dsimp only) <;> omega, by (try dsimp only) <;> omega, rfl, .inl (.inl (by (try dsimp only) <;> omega))⟩
      · exact ⟨_, _, (List.mem_cons_of_mem _ List.mem_cons_self), r, by (try dsimp only) <;> omega, by (try dsimp only) <;> omega, rfl, .inr (.inl (.inl (by (try dsimp only) <;> omega)))⟩
      · exact ⟨_, _, (List.mem_cons_of_mem _ List.mem_cons_self), r, by (try dsimp only) <;> omega, by (try dsimp only) <;> omega, rfl, .inr (.inr (.inl (by (try dsimp only) <;> omega)))⟩
      · exact ⟨_, _, (List.mem_cons_of_mem _ List.mem_cons_self), r, by (try dsimp only) <;> omega, by (try dsimp only) <;> omega, rfl, .inr (.inr (.inr (by (try dsimp only) <;> omega)))⟩
    · rcases ha with ha | ha | ha | ha <;> dsimp only at ha
      · exact ⟨_, _, (List.mem_cons_of_mem _ (List.mem_cons_of_mem _ List.mem_cons_self)), r, by (try dsimp only) <;> omega, by (try dsimp only) <;> omega, rfl, .inl (.inl (by (try dsimp only) <;> omega))⟩
      · exact ⟨_, _, (List.mem_cons_of_mem _ (List.mem_cons_of_mem _ List.mem_cons_self)), r, by (try dsimp only) <;> omega, by (try dsimp only) <;> omega, rfl, .inr (.inl (.inl (by (try dsimp only) <;> omega)))⟩
      · exact ⟨_, _, (List.mem_cons_of_mem _ (List.mem_cons_of_mem _ List.mem_cons_self)), r, by (try dsimp only) <;> omega, by (try dsimp only) <;> omega, rfl, .inr (.inr (.inl (by (try dsimp only) <;> omega)))⟩
      · exact ⟨_, _, (List.mem_cons_of_mem _ (List.mem_cons_of_mem _ List.mem_cons_self)), r, by (try dsimp only) <;> omega, by (try dsimp only) <;> omega, rfl, .inr (.inr (.inr (by (try dsimp only) <;> omega)))⟩
    · rcases ha with ha | ha | ha | ha <;> dsimp only at ha
      · exact ⟨_, _, (List.mem_cons_of_mem _ (List.mem_cons_of_mem _ (List.mem_cons_of_mem _ List.mem_cons_self))), r, by (try dsimp only) <;> omega, by (try dsimp only) <;> omega, rfl, .inl (.inl (by (try dsimp only) <;> omega))⟩
      · exact ⟨_, _, (List.mem_cons_of_mem _ (List.mem_cons_of_mem _ (List.mem_cons_of_mem _ List.mem_cons_self))), r, by (try dsimp only) <;> omega, by (try dsimp only) <;> omega, rfl, .inr (.inl (.inl (by (try dsimp only) <;> omega)))⟩
      · exact ⟨_, _, (List.mem_cons_of_mem _ (List.mem_cons_of_mem _ (List.mem_cons_of_mem _ List.mem_cons_self))), r, by (try dsimp only) <;> omega, by (try dsimp only) <;> omega, rfl, .inr (.inr (.inl (by (try dsimp only) <;> omega)))⟩
      · exact ⟨_, _, (List.mem_cons_of_mem _ (List.mem_cons_of_mem _ (List.mem_cons_of_mem _ List.mem_cons_self))), r, by (try dsimp only) <;> omega, by (try dsimp only) <;> omega, rfl, .inr (.inr (.inr (by (try dsimp only) <;> omega)))⟩
  rg := fun f hf r r1 r2 => by
    simp only [G27, List.mem_cons, List.not_mem_nil, or_false] at hf
    rcases hf with rfl | rfl | rfl | rfl <;> dsimp only at r1 r2 ⊢ <;> refine ⟨⟨by omega, by omega⟩, ⟨by omega, by omega⟩, ⟨by omega, by omega⟩, ?_⟩ <;> first | (left; omega) | (right; omega)
def F45 : List Fam := [⟨1, 1, 11, 1, 12, 1, 0, 0⟩, ⟨2, 1, 17, 1, 19, 1, 0, 0⟩, ⟨3, 1, 20, 1, 22, 1, 0, 0⟩, ⟨4, 1, 10, 1, 14, 1, 0, 0⟩, ⟨5, 1, 8, 1, 13, 1, 0, 0⟩, ⟨6, 1, 18, 1, 21, 1, 0, 0⟩, ⟨7, 1, 9, 1, 16, 1, 0, 0⟩]
def G45 : List Fam := [⟨0 * 2 + 1, 0, 0 * 2 + 11, 0, 0 * 2 + 12, 0, 0, 2 + 0⟩, ⟨0 * 2 + 2, 0, 0 * 2 + 17, 0, 0 * 2 + 19, 0, 0, 2 + 0⟩, ⟨0 * 2 + 3, 0, 0 * 2 + 20, 0, 0 * 2 + 22, 0, 0, 2 + 0⟩, ⟨0 * 2 + 4, 0, 0 * 2 + 10, 0, 0 * 2 + 14, 0, 0, 2 + 0⟩, ⟨0 * 2 + 5, 0, 0 * 2 + 8, 0, 0 * 2 + 13, 0, 0, 2 + 0⟩, ⟨0 * 2 + 6, 0, 0 * 2 + 18, 0, 0 * 2 + 21, 0, 0, 2 + 0⟩, ⟨0 * 2 + 7, 0, 0 * 2 + 9, 0, 0 * 2 + 16, 0, 0, 2 + 0⟩]
theorem cls45 : Cls 45 22 F45 G45 where
  ok := fun f hf => by
    simp only [F45, List.mem_cons, List.not_mem_nil, or_false] at hf
    rcases hf with rfl | rfl | rfl | rfl | rfl | rfl | rfl <;> exact ⟨by dsimp only; decide, by dsimp only; decide, by dsimp only; decide⟩
  uniq := fun d t t' h1 h2 ⟨f, hf, r, r1, r2, e1, ha⟩ ⟨g, hg, q, q1, q2, e2, hb⟩ => by
    subst e1 e2
    simp only [F45, List.mem_cons, List.not_mem_nil, or_false] at hf hg
    rcases hf with rfl | rfl | rfl | rfl | rfl | rfl | rfl <;> rcases hg with rfl | rfl | rfl | rfl | rfl | rfl | rfl <;> dsimp only at r1 r2 q1 q2 <;> rcases ha with ha | ha | ha | ha <;> dsimp only at ha <;> rcases hb with hb | hb | hb | hb <;> dsimp only at hb <;> first
      | (exfalso; omega)
      | (obtain rfl : r = q := by omega
         rfl)
  ex := fun d h1 h2 h3 => by
    by_cases e100 : d = 1
    · exact ⟨_, _, List.mem_cons_self, 0, by (try dsimp only) <;> omega, by (try dsimp only) <;> omega, rfl, .inl (by (try dsimp only) <;> omega)⟩
    by_cases e102 : d = 11
    · exact ⟨_, _, List.mem_cons_self, 0, by (try dsimp only) <;> omega, by (try dsimp only) <;> omega, rfl, .inr (.inl (by (try dsimp only) <;> omega))⟩
    by_cases e104 : d = 12
    · exact ⟨_, _, List.mem_cons_self, 0, by (try dsimp only) <;> omega, by (try dsimp only) <;> omega, rfl, .inr (.inr (.inl (by (try dsimp only) <;> omega)))⟩
    by_cases e106 : d = 2
    · exact ⟨_, _, (List.mem_cons_of_mem _ List.mem_cons_self), 0, by (try dsimp only) <;> omega, by (try dsimp only) <;> omega, rfl, .inl (by (try dsimp only) <;> omega)⟩
    by_cases e108 : d = 17
    · exact ⟨_, _, (List.mem_cons_of_mem _ List.mem_cons_self), 0, by (try dsimp only) <;> omega, by (try dsimp only) <;> omega, rfl, .inr (.inl (by (try dsimp only) <;> omega))⟩
    by_cases e110 : d = 19
    · exact ⟨_, _, (List.mem_cons_of_mem _ List.mem_cons_self), 0, by (try dsimp only) <;> omega, by (try dsimp only) <;> omega, rfl, .inr (.inr (.inl (by (try dsimp only) <;> omega)))⟩
    by_cases e112 : d = 3
    · exact ⟨_, _, (List.mem_cons_of_mem _ (List.mem_cons_of_mem _ List.mem_cons_self)), 0, by (try dsimp only) <;> omega, by (try dsimp only) <;> omega, rfl, .inl (by (try dsimp only) <;> omega)⟩
    by_cases e114 : d = 20
    · exact ⟨_, _, (List.mem_cons_of_mem _ (List.mem_cons_of_mem _ List.mem_cons_self)), 0, by (try dsimp only) <;> omega, by (try dsimp only) <;> omega, rfl, .inr (.inl (by (try dsimp only) <;> omega))⟩
    by_cases e116 : d = 22
    · exact ⟨_, _, (List.mem_cons_of_mem _ (List.mem_cons_of_mem _ List.mem_cons_self)), 0, by (try dsimp only) <;> omega, by (try dsimp only) <;> omega, rfl, .inr (.inr (.inl (by (try dsimp only) <;> omega)))⟩
    by_cases e118 : d = 4
    · exact ⟨_, _, (List.mem_cons_of_mem _ (List.mem_cons_of_mem _ (List.mem_cons_of_mem _ List.mem_cons_self))), 0, by (try dsimp only) <;> omega, by (try dsimp only) <;> omega, rfl, .inl (by (try dsimp only) <;> omega)⟩
    by_cases e120 : d = 10
    · exact ⟨_, _, (List.mem_cons_of_mem _ (List.mem_cons_of_mem _ (List.mem_cons_of_mem _ List.mem_cons_self))), 0, by (try dsimp only) <;> omega, by (try dsimp only) <;> omega, rfl, .inr (.inl (by (try dsimp only) <;> omega))⟩
    by_cases e122 : d = 14
    · exact ⟨_, _, (List.mem_cons_of_mem _ (List.mem_cons_of_mem _ (List.mem_cons_of_mem _ List.mem_cons_self))), 0, by (try dsimp only) <;> omega, by (try dsimp only) <;> omega, rfl, .inr (.inr (.inl (by (try dsimp only) <;> omega)))⟩
    by_cases e124 : d = 5
    · exact ⟨_, _, (List.mem_cons_of_mem _ (List.mem_cons_of_mem _ (List.mem_cons_of_mem _ (List.mem_cons_of_mem _ List.mem_cons_self)))), 0, by (try dsimp only) <;> omega, by (try dsimp only) <;> omega, rfl, .inl (by (try dsimp only) <;> omega)⟩
    by_cases e126 : d = 8
    · exact ⟨_, _, (List.mem_cons_of_mem _ (List.mem_cons_of_mem _ (List.mem_cons_of_mem _ (List.mem_cons_of_mem _ List.mem_cons_self)))), 0, by (try dsimp only) <;> omega, by (try dsimp only) <;> omega, rfl, .inr (.inl (by (try dsimp only) <;> omega))⟩
    by_cases e128 : d = 13
    · exact ⟨_, _, (List.mem_cons_of_mem _ (List.mem_cons_of_mem _ (List.mem_cons_of_mem _ (List.mem_cons_of_mem _ List.mem_cons_self)))), 0, by (try dsimp only) <;> omega, by (try dsimp only) <;> omega, rfl, .inr (.inr (.inl (by (try dsimp only) <;> omega)))⟩
    by_cases e130 : d = 6
    · exact ⟨_, _, (List.mem_cons_of_mem _ (List.mem_cons_of_mem _ (List.mem_cons_of_mem _ (List.mem_cons_of_mem _ (List.mem_cons_of_mem _ List.mem_cons_self))))), 0, by (try dsimp only) <;> omega, by (try dsimp only) <;> omega, rfl, .inl (by (try dsimp only) <;> omega)⟩
    by_cases e132 : d = 18
    · exact ⟨_, _, (List.mem_cons_of_mem _ (List.mem_cons_of_mem _ (List.mem_cons_of_mem _ (List.mem_cons_of_mem _ (List.mem_cons_of_mem _ List.mem_cons_self))))), 0, by (try dsimp only) <;> omega, by (try dsimp only) <;> omega, rfl, .inr (.inl (by (try dsimp only) <;> omega))⟩
    by_cases e134 : d = 21
    · exact ⟨_, _, (List.mem_cons_of_mem _ (List.mem_cons_of_mem _ (List.mem_cons_of_mem _ (List.mem_cons_of_mem _ (List.mem_cons_of_mem _ List.mem_cons_self))))), 0, by (try dsimp only) <;> omega, by (try dsimp only) <;> omega, rfl, .inr (.inr (.inl (by (try dsimp only) <;> omega)))⟩
    by_cases e136 : d = 7
    · exact ⟨_, _, (List.mem_cons_of_mem _ (List.mem_cons_of_mem _ (List.mem_cons_of_mem _ (List.mem_cons_of_mem _ (List.mem_cons_of_mem _ (List.mem_cons_of_mem _ List.mem_cons_self)))))), 0, by (try dsimp only) <;> omega, by (try dsimp only) <;> omega, rfl, .inl (by (try dsimp only) <;> omega)⟩
    by_cases e138 : d = 9
    · exact ⟨_, _, (List.mem_cons_of_mem _ (List.mem_cons_of_mem _ (List.mem_cons_of_mem _ (List.mem_cons_of_mem _ (List.mem_cons_of_mem _ (List.mem_cons_of_mem _ List.mem_cons_self)))))), 0, by (try dsimp only) <;> omega, by (try dsimp only) <;> omega, rfl, .inr (.inl (by (try dsimp only) <;> omega))⟩
    by_cases e140 : d = 16
    · exact ⟨_, _, (List.mem_cons_of_mem _ (List.mem_cons_of_mem _ (List.mem_cons_of_mem _ (List.mem_cons_of_mem _ (List.mem_cons_of_mem _ (List.mem_cons_of_mem _ List.mem_cons_self)))))), 0, by (try dsimp only) <;> omega, by (try dsimp only) <;> omega, rfl, .inr (.inr (.inl (by (try dsimp only) <;> omega)))⟩
    exfalso
    omega
  no := fun d t h3 ⟨f, hf, r, r1, r2, e1, ha⟩ => by
    simp only [F45, List.mem_cons, List.not_mem_nil, or_false] at hf
    rcases hf with rfl | rfl | rfl | rfl | rfl | rfl | rfl <;> dsimp only at r1 r2 <;> rcases ha with ha | ha | ha | ha <;> dsimp only at ha <;> omega
  gf := fun d t h1 h2 ⟨f, hf, r, r1, r2, e1, ha⟩ => by
    subst e1
    simp only [G45, List.mem_cons, List.not_mem_nil, or_false] at hf
    rcases hf with rfl | rfl | rfl | rfl | rfl | rfl | rfl <;> dsimp only at r1 r2
    · rcases ha with (ha | ha) | (ha | ha) | (ha | ha) <;> dsimp only at ha <;> first
        | (exfalso; omega)
        | (refine ⟨_, List.mem_cons_self, 0, ?_, ?_, tri_eq ?_ ?_ ?_, .inl ?_⟩ <;> (try dsimp only) <;> omega)
        | (refine ⟨_, List.mem_cons_self, 0, ?_, ?_, tri_eq ?_ ?_ ?_, .inr (.inl ?_)⟩ <;> (try dsimp only) <;> omega)
        | (refine ⟨_, List.mem_cons_self, 0, ?_, ?_, tri_eq ?_ ?_ ?_, .inr (.inr (.inl ?_))⟩ <;> (try dsimp only) <;> omega)
        | (refine ⟨_, List.mem_cons_self, 0, ?_, ?_, tri_eq ?_ ?_ ?_, .inr (.inr (.inr ?_))⟩ <;> (try dsimp only) <;> omega)
    · rcases ha with (ha | ha) | (ha | ha) | (ha | ha) <;> dsimp only at ha <;> first
        | (exfalso; omega)
        | (refine ⟨_, (List.mem_cons_of_mem _ List.mem_cons_self), 0, ?_, ?_, tri_eq ?_ ?_ ?_, .inl ?_⟩ <;> (try dsimp only) <;> omega)
        | (refine ⟨_, (List.mem_cons_of_mem _ List.mem_cons_self), 0, ?_, ?_, tri_eq ?_ ?_ ?_, .inr (.inl ?_)⟩ <;> (try dsimp only) <;> omega)
        | (refine ⟨_, (List.mem_cons_of_mem _ List.mem_cons_self), 0, ?_, ?_, tri_eq ?_ ?_ ?_, .inr (.inr (.inl ?_))⟩ <;> (try dsimp only) <;> omega)
        | (refine ⟨_, (List.mem_cons_of_mem _ List.mem_cons_self), 0, ?_, ?_, tri_eq ?_ ?_ ?_, .inr (.inr (.inr ?_))⟩ <;> (try dsimp only) <;> omega)
    · rcases ha with (ha | ha) | (ha | ha) | (ha | ha) <;> dsimp only at ha <;> first
        | (exfalso; omega)
        | (refine ⟨_, (List.mem_cons_of_mem _ (List.mem_cons_of_mem _ List.mem_cons_self)), 0, ?_, ?_, tri_eq ?_ ?_ ?_, .inl ?_⟩ <;> (try dsimp only) <;> omega)
        | (refine ⟨_, (List.mem_cons_of_mem _ (List.mem_cons_of_mem _ List.mem_cons_self)), 0, ?_, ?_, tri_eq ?_ ?_ ?_, .inr (.inl ?_)⟩ <;> (try dsimp only) <;> omega)
        | (refine ⟨_, (List.mem_cons_of_mem _ (List.mem_cons_of_mem _ List.mem_cons_self)), 0, ?_, ?_, tri_eq ?_ ?_ ?_, .inr (.inr (.inl ?_))⟩ <;> (try dsimp only) <;> omega)
        | (refine ⟨_, (List.mem_cons_of_mem _ (List.mem_cons_of_mem _ List.mem_cons_self)), 0, ?_, ?_, tri_eq ?_ ?_ ?_, .inr (.inr (.inr ?_))⟩ <;> (try dsimp only) <;> omega)
    · rcases ha with (ha | ha) | (ha | ha) | (ha | ha) <;> dsimp only at ha <;> first
        | (exfalso; omega)
        | (refine ⟨_, (List.mem_cons_of_mem _ (List.mem_cons_of_mem _ (List.mem_cons_of_mem _ List.mem_cons_self))), 0, ?_, ?_, tri_eq ?_ ?_ ?_, .inl ?_⟩ <;> (try dsimp only) <;> omega)
        | (refine ⟨_, (List.mem_cons_of_mem _ (List.mem_cons_of_mem _ (List.mem_cons_of_mem _ List.mem_cons_self))), 0, ?_, ?_, tri_eq ?_ ?_ ?_, .inr (.inl ?_)⟩ <;> (try dsimp only) <;> omega)
        | (refine ⟨_, (List.mem_cons_of_mem _ (List.mem_cons_of_mem _ (List.mem_cons_of_mem _ List.mem_cons_self))), 0, ?_, ?_, tri_eq ?_ ?_ ?_, .inr (.inr (.inl ?_))⟩ <;> (try dsimp only) <;> omega)
        | (refine ⟨_, (List.mem_cons_of_mem _ (List.mem_cons_of_mem _ (List.mem_cons_of_mem _ List.mem_cons_self))), 0, ?_, ?_, tri_eq ?_ ?_ ?_, .inr (.inr (.inr ?_))⟩ <;> (try dsimp only) <;> omega)
    · rcases ha with (ha | ha) | (ha | ha) | (ha | ha) <;> dsimp only at ha <;> first
        | (exfalso; omega)
        | (refine ⟨_, (List.mem_cons_of_mem _ (List.mem_cons_of_mem _ (List.mem_cons_of_mem _ (List.mem_cons_of_mem _ List.mem_cons_self)))), 0, ?_, ?_, tri_eq ?_ ?_ ?_, .inl ?_⟩ <;> (try dsimp only) <;> omega)
        | (refine ⟨_, (List.mem_cons_of_mem _ (List.mem_cons_of_mem _ (List.mem_cons_of_mem _ (List.mem_cons_of_mem _ List.mem_cons_self)))), 0, ?_, ?_, tri_eq ?_ ?_ ?_, .inr (.inl ?_)⟩ <;> (try dsimp only) <;> omega)
        | (refine ⟨_, (List.mem_cons_of_mem _ (List.mem_cons_of_mem _ (List.mem_cons_of_mem _ (List.mem_cons_of_mem _ List.mem_cons_self)))), 0, ?_, ?_, tri_eq ?_ ?_ ?_, .inr (.inr (.inl ?_))⟩ <;> (try dsimp only) <;> omega)
        | (refine ⟨_, (List.mem_cons_of_mem _ (List.mem_cons_of_mem _ (List.mem_cons_of_mem _ (List.mem_cons_of_mem _ List.mem_cons_self)))), 0, ?_, ?_, tri_eq ?_ ?_ ?_, .inr (.inr (.inr ?_))⟩ <;> (try dsimp only) <;> omega)
    · rcases ha with (ha | ha) | (ha | ha) | (ha | ha) <;> dsimp only at ha <;> first
        | (exfalso; omega)
        | (refine ⟨_, (List.mem_cons_of_mem _ (List.mem_cons_of_mem _ (List.mem_cons_of_mem _ (List.mem_cons_of_mem _ (List.mem_cons_of_mem _ List.mem_cons_self))))), 0, ?_, ?_, tri_eq ?_ ?_ ?_, .inl ?_⟩ <;> (try dsimp only) <;> omega)
        | (refine ⟨_, (List.mem_cons_of_mem _ (List.mem_cons_of_mem _ (List.mem_cons_of_mem _ (List.mem_cons_of_mem _ (List.mem_cons_of_mem _ List.mem_cons_self))))), 0, ?_, ?_, tri_eq ?_ ?_ ?_, .inr (.inl ?_)⟩ <;> (try dsimp only) <;> omega)
        | (refine ⟨_, (List.mem_cons_of_mem _ (List.mem_cons_of_mem _ (List.mem_cons_of_mem _ (List.mem_cons_of_mem _ (List.mem_cons_of_mem _ List.mem_cons_self))))), 0, ?_, ?_, tri_eq ?_ ?_ ?_, .inr (.inr (.inl ?_))⟩ <;> (try dsimp only) <;> omega)
        | (refine ⟨_, (List.mem_cons_of_mem _ (List.mem_cons_of_mem _ (List.mem_cons_of_mem _ (List.mem_cons_of_mem _ (List.mem_cons_of_mem _ List.mem_cons_self))))), 0, ?_, ?_, tri_eq ?_ ?_ ?_, .inr (.inr (.inr ?_))⟩ <;> (try dsimp only) <;> omega)
    · rcases ha with (ha | ha) | (ha | ha) | (ha | ha) <;> dsimp only at ha <;> first
        | (exfalso; omega)
        | (refine ⟨_, (List.mem_cons_of_mem _ (List.mem_cons_of_mem _ (List.mem_cons_of_mem _ (List.mem_cons_of_mem _ (List.mem_cons_of_mem _ (List.mem_cons_of_mem _ List.mem_cons_self)))))), 0, ?_, ?_, tri_eq ?_ ?_ ?_, .inl ?_⟩ <;> (try dsimp only) <;> omega)
        | (refine ⟨_, (List.mem_cons_of_mem _ (List.mem_cons_of_mem _ (List.mem_cons_of_mem _ (List.mem_cons_of_mem _ (List.mem_cons_of_mem _ (List.mem_cons_of_mem _ List.mem_cons_self)))))), 0, ?_, ?_, tri_eq ?_ ?_ ?_, .inr (.inl ?_)⟩ <;> (try dsimp only) <;> omega)
        | (refine ⟨_, (List.mem_cons_of_mem _ (List.mem_cons_of_mem _ (List.mem_cons_of_mem _ (List.mem_cons_of_mem _ (List.mem_cons_of_mem _ (List.mem_cons_of_mem _ List.mem_cons_self)))))), 0, ?_, ?_, tri_eq ?_ ?_ ?_, .inr (.inr (.inl ?_))⟩ <;> (try dsimp only) <;> omega)
        | (refine ⟨_, (List.mem_cons_of_mem _ (List.mem_cons_of_mem _ (List.mem_cons_of_mem _ (List.mem_cons_of_mem _ (List.mem_cons_of_mem _ (List.mem_cons_of_mem _ List.mem_cons_self)))))), 0, ?_, ?_, tri_eq ?_ ?_ ?_, .inr (.inr (.inr ?_))⟩ <;> (try dsimp only) <;> omega)
  fg := fun d t ⟨f, hf, r, r1, r2, e1, ha⟩ => by
    simp only [F45, List.mem_cons, List.not_mem_nil, or_false] at hf
    rcases hf with rfl | rfl | rfl | rfl | rfl | rfl | rfl <;> dsimp only at r1 r2
    · rcases ha with ha | ha | ha | ha <;> dsimp only at ha
      · exact ⟨_, _, List.mem_cons_self, r, by (try dsimp only) <;> omega, by (try dsimp only) <;> omega, rfl, .inl (.inl (by (try dsimp only) <;> omega))⟩
      · exact ⟨_, _, List.mem_cons_self, r, by (try dsimp only) <;> omega, by (try dsimp only) <;> omega, rfl, .inr (.inl (.inl (by (try dsimp only) <;> omega)))⟩
      · exact ⟨_, _, List.mem_cons_self, r, by (try dsimp only) <;> omega, by (try dsimp only) <;> omega, rfl, .inr (.inr (.inl (by (try dsimp only) <;> omega)))⟩
      · exact ⟨_, _, List.mem_cons_self, r, by (try dsimp only) <;> omega, by (try dsimp only) <;> omega, rfl, .inr (.inr (.inr (by (try dsimp only) <;> omega)))⟩
    · rcases ha with ha | ha | ha | ha <;> dsimp only at ha
      · exact ⟨_, _, (List.mem_cons_of_mem _ List.mem_cons_self), r, by (try dsimp only) <;> omega, by (try dsimp only) <;> omega, rfl, .inl (.inl (by (try dsimp only) <;> omega))⟩
      · exact ⟨_, _, (List.mem_cons_of_mem _ List.mem_cons_self), r, by (try dsimp only) <;> omega, by (try dsimp only) <;> omega, rfl, .inr (.inl (.inl (by (try dsimp only) <;> omega)))⟩
      · exact ⟨_, _, (List.mem_cons_of_mem _ List.mem_cons_self), r, by (try dsimp only) <;> omega, by (try dsimp only) <;> omega, rfl, .inr (.inr (.inl (by (try dsimp only) <;> omega)))⟩
      · exact ⟨_, _, (List.mem_cons_of_mem _ List.mem_cons_self), r, by (try dsimp only) <;> omega, by (try dsimp only) <;> omega, rfl, .inr (.inr (.inr (by (try dsimp only) <;> omega)))⟩
    · rcases ha with ha | ha | ha | ha <;> dsimp only at ha
      · exact ⟨_, _, (List.mem_cons_of_mem _ (List.mem_cons_of_mem _ List.mem_cons_self)), r, by (try dsimp only) <;> omega, by (try dsimp only) <;> omega, rfl, .inl (.inl (by (try dsimp only) <;> omega))⟩
      · exact ⟨_, _, (List.mem_cons_of_mem _ (List.mem_cons_of_mem _ List.mem_cons_self)), r, by (try dsimp only) <;> omega, by (try dsimp only) <;> omega, rfl, .inr (.inl (.inl (by (try dsimp only) <;> omega)))⟩
      · exact ⟨_, _, (List.mem_cons_of_mem _ (List.mem_cons_of_mem _ List.mem_cons_self)), r, by (try dsimp only) <;> omega, by (try dsimp only) <;> omega, rfl, .inr (.inr (.inl (by (try dsimp only) <;> omega)))⟩
      · exact ⟨_, _, (List.mem_cons_of_mem _ (List.mem_cons_of_mem _ List.mem_cons_self)), r, by (try dsimp only) <;> omega, by (try dsimp only) <;> omega, rfl, .inr (.inr (.inr (by (try dsimp only) <;> omega)))⟩
    · rcases ha with ha | ha | ha | ha <;> dsimp only at ha
      · exact ⟨_, _, (List.mem_cons_of_mem _ (List.mem_cons_of_mem _ (List.mem_cons_of_mem _ List.mem_cons_self))), r, by (try dsimp only) <;> omega, by (try dsimp only) <;> omega, rfl, .inl (.inl (by (try dsimp only) <;> omega))⟩
      · exact ⟨_, _, (List.mem_cons_of_mem _ (List.mem_cons_of_mem _ (List.mem_cons_of_mem _ List.mem_cons_self))), r, by (try dsimp only) <;> omega, by (try dsimp only) <;> omega, rfl, .inr (.inl (.inl (by (try dsimp only) <;> omega)))⟩
      · exact ⟨_, _, (List.mem_cons_of_mem _ (List.mem_cons_of_mem _ (List.mem_cons_of_mem _ List.mem_cons_self))), r, by (try dsimp only) <;> omega, by (try dsimp only) <;> omega, rfl, .inr (.inr (.inl (by (try dsimp only) <;> omega)))⟩
      · exact ⟨_, _, (List.mem_cons_of_mem _ (List.mem_cons_of_mem _ (List.mem_cons_of_mem _ List.mem_cons_self))), r, by (try dsimp only) <;> omega, by (try dsimp only) <;> omega, rfl, .inr (.inr (.inr (by (try dsimp only) <;> omega)))⟩
    · rcases ha with ha | ha | ha | ha <;> dsimp only at ha
      · exact ⟨_, _, (List.mem_cons_of_mem _ (List.mem_cons_of_mem _ (List.mem_cons_of_mem _ (List.mem_cons_of_mem _ List.mem_cons_self)))), r, by (try dsimp only) <;> omega, by (try dsimp only) <;> omega, rfl, .inl (.inl (by (try dsimp only) <;> omega))⟩
      · exact ⟨_, _, (List.mem_cons_of_mem _ (List.mem_cons_of_mem _ (List.mem_cons_of_mem _ (List.mem_cons_of_mem _ List.mem_cons_self)))), r, by (try dsimp only) <;> omega, by (try dsimp only) <;> omega, rfl, .inr (.inl (.inl (by (try dsimp only) <;> omega)))⟩
      · exact ⟨_, _, (List.mem_cons_of_mem _ (List.mem_cons_of_mem _ (List.mem_cons_of_mem _ (List.mem_cons_of_mem _ List.mem_cons_self)))), r, by (try dsimp only) <;> omega, by (try dsimp only) <;> omega, rfl, .inr (.inr (.inl (by (try dsimp only) <;> omega)))⟩
      · exact ⟨_, _, (List.mem_cons_of_mem _ (List.mem_cons_of_mem _ (List.mem_cons_of_mem _ (List.mem_cons_of_mem _ List.mem_cons_self)))), r, by (try dsimp only) <;> omega, by (try dsimp only) <;> omega, rfl, .inr (.inr (.inr (by (try dsimp only) <;> omega)))⟩
    · rcases ha with ha | ha | ha | ha <;> dsimp only at ha
      · exact ⟨_, _, (List.mem_cons_of_mem _ (List.mem_cons_of_mem _ (List.mem_cons_of_mem _ (List.mem_cons_of_mem _ (List.mem_cons_of_mem _ List.mem_cons_self))))), r, by (try dsimp only) <;> omega, by (try dsimp only) <;> omega, rfl, .inl (.inl (by (try dsimp only) <;> omega))⟩
      · exact ⟨_, _, (List.mem_cons_of_mem _ (List.mem_cons_of_mem _ (List.mem_cons_of_mem _ (List.mem_cons_of_mem _ (List.mem_cons_of_mem _ List.mem_cons_self))))), r, by (try dsimp only) <;> omega, by (try dsimp only) <;> omega, rfl, .inr (.inl (.inl (by (try dsimp only) <;> omega)))⟩
      · exact ⟨_, _, (List.mem_cons_of_mem _ (List.mem_cons_of_mem _ (List.mem_cons_of_mem _ (List.mem_cons_of_mem _ (List.mem_cons_of_mem _ List.mem_cons_self))))), r, by (try dsimp only) <;> omega, by (try dsimp only) <;> omega, rfl, .inr (.inr (.inl (by (try dsimp only) <;> omega)))⟩
      · exact ⟨_, _, (List.mem_cons_of_mem _ (List.mem_cons_of_mem _ (List.mem_cons_of_mem _ (List.mem_cons_of_mem _ (List.mem_cons_of_mem _ List.mem_cons_self))))), r, by (try dsimp only) <;> omega, by (try dsimp only) <;> omega, rfl, .inr (.inr (.inr (by (try dsimp only) <;> omega)))⟩
    · rcases ha with ha | ha | ha | ha <;> dsimp only at ha
      · exact ⟨_, _, (List.mem_cons_of_mem _ (List.mem_cons_of_mem _ (List.mem_cons_of_mem _ (List.mem_cons_of_mem _ (List.mem_cons_of_mem _ (List.mem_cons_of_mem _ List.mem_cons_self)))))), r, by (try dsimp only) <;> omega, by (try dsimp only) <;> omega, rfl, .inl (.inl (by (try dsimp only) <;> omega))⟩
      · exact ⟨_, _, (List.mem_cons_of_mem _ (List.mem_cons_of_mem _ (List.mem_cons_of_mem _ (List.mem_cons_of_mem _ (List.mem_cons_of_mem _ (List.mem_cons_of_mem _ List.mem_cons_self)))))), r, by (try dsimp only) <;> omega, by (try dsimp only) <;> omega, rfl, .inr (.inl (.inl (by (try dsimp only) <;> omega)))⟩
      · exact ⟨_, _, (List.mem_cons_of_mem _ (List.mem_cons_of_mem _ (List.mem_cons_of_mem _ (List.mem_cons_of_mem _ (List.mem_cons_of_mem _ (List.mem_cons_of_mem _ List.mem_cons_self)))))), r, by (try dsimp only) <;> omega, by (try dsimp only) <;> omega, rfl, .inr (.inr (.inl (by (try dsimp only) <;> omega)))⟩
      · exact ⟨_, _, (List.mem_cons_of_mem _ (List.mem_cons_of_mem _ (List.mem_cons_of_mem _ (List.mem_cons_of_mem _ (List.mem_cons_of_mem _ (List.mem_cons_of_mem _ List.mem_cons_self)))))), r, by (try dsimp only) <;> omega, by (try dsimp only) <;> omega, rfl, .inr (.inr (.inr (by (try dsimp only) <;> omega)))⟩
  rg := fun f hf r r1 r2 => by
    simp only [G45, List.mem_cons, List.not_mem_nil, or_false] at hf
    rcases hf with rfl | rfl | rfl | rfl | rfl | rfl | rfl <;> dsimp only at r1 r2 ⊢ <;> refine ⟨⟨by omega, by omega⟩, ⟨by omega, by omega⟩, ⟨by omega, by omega⟩, ?_⟩ <;> first | (left; omega) | (right; omega)
end K39

/-! What the defs answer. -/
namespace K39
open PySem MB
def famD (f : Fam) : D := .tup [.tup [.int f.A, .int f.α], .tup [.int f.B, .int f.β], .tup [.int f.C, .int f.γ], .int f.lo, .int f.hi]
def t3D (t : T3) : D := .tup [.int t.1, .int t.2.1, .int t.2.2]
theorem ev_look_ok {n lo hi : Int} (h1 : lo ≤ n) (h2 : n ≤ hi) : m_look_number [.int n, .int lo, .int hi] = .ok .non := by
  have q1 : ¬ n < lo := by omega
  have q2 : ¬ hi < n := by omega
  simp [m_look_number, b_look_number, runS, endR, envOf, sSeq, sSet, sIf, sRet, sRetN, sEx, sNil, sRaise, sUn, evs, Rs.then, Rs.bind, eB, eC, eVar, eCall, eTup, eLst, eFn, eNot, eAnd, eOr, eIf, eChain, e1, negD, addD, subD, mulD, fdivD, modD, powD, cmpI, eqD, neD, eqB, scalD, eqF, inD, ninD, inB, flat, truth, intD, lenD, minD, divmodD, bNm, bTp, bAll, mulOk, divOk, q1, q2]
theorem ev_look_bad {n lo hi : Int} (h : n < lo ∨ hi < n) : m_look_number [.int n, .int lo, .int hi] = .err ⟨"NumberError", [("number", .int n)]⟩ := by
  by_cases q1 : n < lo
  · simp [m_look_number, b_look_number, runS, endR, envOf, sSeq, sSet, sIf, sRet, sRetN, sEx, sNil, sRaise, sUn, evs, Rs.then, Rs.bind, eB, eC, eVar, eCall, eTup, eLst, eFn, eNot, eAnd, eOr, eIf, eChain, e1, negD, addD, subD, mulD, fdivD, modD, powD, cmpI, eqD, neD, eqB, scalD, eqF, inD, ninD, inB, flat, truth, intD, lenD, minD, divmodD, bNm, bTp, bAll, mulOk, divOk, q1]
  · have q2 : hi < n := by omega
    simp [m_look_number, b_look_number, runS, endR, envOf, sSeq, sSet, sIf, sRet, sRetN, sEx, sNil, sRaise, sUn, evs, Rs.then, Rs.bind, eB, eC, eVar, eCall, eTup, eLst, eFn, eNot, eAnd, eOr, eIf, eChain, e1, negD, addD, subD, mulD, fdivD, modD, powD, cmpI, eqD, neD, eqB, scalD, eqF, inD, ninD, inB, flat, truth, intD, lenD, minD, divmodD, bNm, bTp, bAll, mulOk, divOk, q1, q2]
theorem ev_alone (a b c : Int) : m__alone [.int a, .int b, .int c] = .ok (famD ⟨a, 1, b, 1, c, 1, 0, 0⟩) := by
  simp [m__alone, b__alone, runS, endR, envOf, sSeq, sSet, sIf, sRet, sRetN, sEx, sNil, sRaise, sUn, evs, Rs.then, Rs.bind, eB, eC, eVar, eCall, eTup, eLst, eFn, eNot, eAnd, eOr, eIf, eChain, e1, negD, addD, subD, mulD, fdivD, modD, powD, cmpI, eqD, neD, eqB, scalD, eqF, inD, ninD, inB, flat, truth, intD, lenD, minD, divmodD, bNm, bTp, bAll, mulOk, divOk, famD]
theorem ev_fam1 (s : Int) : m__families_of_1 [.int s] = .ok (.lst ((F1 s).map famD)) := by
  simp [m__families_of_1, b__families_of_1, runS, endR, envOf, sSeq, sSet, sIf, sRet, sRetN, sEx, sNil, sRaise, sUn, evs, Rs.then, Rs.bind, eB, eC, eVar, eCall, eTup, eLst, eFn, eNot, eAnd, eOr, eIf, eChain, e1, negD, addD, subD, mulD, fdivD, modD, powD, cmpI, eqD, neD, eqB, scalD, eqF, inD, ninD, inB, flat, truth, intD, lenD, minD, divmodD, bNm, bTp, bAll, mulOk, divOk, famD, F1, ev_alone]
theorem ev_fam3 (s : Int) : m__families_of_3 [.int s] = .ok (.lst ((F3 s).map famD)) := by
  simp [m__families_of_3, b__families_of_3, runS, endR, envOf, sSeq, sSet, sIf, sRet, sRetN, sEx, sNil, sRaise, sUn, evs, Rs.then, Rs.bind, eB, eC, eVar, eCall, eTup, eLst, eFn, eNot, eAnd, eOr, eIf, eChain, e1, negD, addD, subD, mulD, fdivD, modD, powD, cmpI, eqD, neD, eqB, scalD, eqF, inD, ninD, inB, flat, truth, intD, lenD, minD, divmodD, bNm, bTp, bAll, mulOk, divOk, famD, F3, ev_alone]
theorem ev_fam7 (s : Int) : m__families_of_7 [.int s] = .ok (.lst ((F7 s).map famD)) := by
  simp [m__families_of_7, b__families_of_7, runS, endR, envOf, sSeq, sSet, sIf, sRet, sRetN, sEx, sNil, sRaise, sUn, evs, Rs.then, Rs.bind, eB, eC, eVar, eCall, eTup, eLst, eFn, eNot, eAnd, eOr, eIf, eChain, e1, negD, addD, subD, mulD, fdivD, modD, powD, cmpI, eqD, neD, eqB, scalD, eqF, inD, ninD, inB, flat, truth, intD, lenD, minD, divmodD, bNm, bTp, bAll, mulOk, divOk, famD, F7, ev_alone]
theorem ev_fam13 (s : Int) : m__families_of_13 [.int s] = .ok (.lst ((F13 s).map famD)) := by
  simp [m__families_of_13, b__families_of_13, runS, endR, envOf, sSeq, sSet, sIf, sRet, sRetN, sEx, sNil, sRaise, sUn, evs, Rs.then, Rs.bind, eB, eC, eVar, eCall, eTup, eLst, eFn, eNot, eAnd, eOr, eIf, eChain, e1, negD, addD, subD, mulD, fdivD, modD, powD, cmpI, eqD, neD, eqB, scalD, eqF, inD, ninD, inB, flat, truth, intD, lenD, minD, divmodD, bNm, bTp, bAll, mulOk, divOk, famD, F13, ev_alone]
theorem ev_fam15 (s : Int) : m__families_of_15 [.int s] = .ok (.lst ((F15 s).map famD)) := by
  simp [m__families_of_15, b__families_of_15, runS, endR, envOf, sSeq, sSet, sIf, sRet, sRetN, sEx, sNil, sRaise, sUn, evs, Rs.then, Rs.bind, eB, eC, eVar, eCall, eTup, eLst, eFn, eNot, eAnd, eOr, eIf, eChain, e1, negD, addD, subD, mulD, fdivD, modD, powD, cmpI, eqD, neD, eqB, scalD, eqF, inD, ninD, inB, flat, truth, intD, lenD, minD, divmodD, bNm, bTp, bAll, mulOk, divOk, famD, F15, ev_alone]
def mulOkF (f : Fam) : Prop := ∀ r, mulOk r f.α = true ∧ mulOk r f.β = true ∧ mulOk r f.γ = true

theorem ev_fam9' (s : Int) (h1 : s ≠ 1) (h2 : s ≠ 2) : m__families_of_9 [.int s] = .ok (.lst ((F9 s).map famD)) := by
  have q1 : (s == 1) = false := by simpa using h1
  have q2 : (s == 2) = false := by simpa using h2
  simp [m__families_of_9, b__families_of_9, runS, endR, envOf, sSeq, sSet, sIf, sRet, sRetN, sEx, sNil, sRaise, sUn, evs, Rs.then, Rs.bind, eB, eC, eVar, eCall, eTup, eLst, eFn, eNot, eAnd, eOr, eIf, eChain, e1, negD, addD, subD, mulD, fdivD, modD, powD, cmpI, eqD, neD, eqB, scalD, eqF, inD, ninD, inB, flat, truth, intD, lenD, minD, divmodD, bNm, bTp, bAll, mulOk, divOk, famD, F9, ev_alone, q1, q2]
abbrev sv (d : D) : Option Sl := some (.val d)
abbrev si (i : Int) : Option Sl := some (.val (.int i))
abbrev pr (a b : Int) : Option Sl := some (.val (.tup [.int a, .int b]))
def gIn : SX := (sSeq (sUn (bTp [(bNm 11), (bNm 12)]) (eCall divmodD [(eB subD (eVar 8) (eVar 9)), (eVar 10)]))
  (sIf (eAnd (eB eqD (eVar 12) (eC (.int 0))) (eChain leD leD (eVar 6) (eVar 11) (eVar 7)))
  (sSeq (sSet 13 (eB addD (eB ixD (eVar 5) (eC (.int 0))) (eB mulD (eVar 11) (eB ixD (eVar 5) (eC (.int 1))))))
  (sRet (eTup [(eB addD (eB ixD (eVar 3) (eC (.int 0))) (eB mulD (eVar 11) (eB ixD (eVar 3) (eC (.int 1))))), (eB addD (eB ixD (eVar 4) (eC (.int 0))) (eB mulD (eVar 11) (eB ixD (eVar 4) (eC (.int 1))))), (eCall minD [(eVar 13), (eB subD (eVar 0) (eVar 13))])]))) sNil))
def bIn : BX := (bTp [(bNm 8), (bTp [(bNm 9), (bNm 10)])])
theorem ev_in (v d x start step : Int) (f : Fam) (x2 x11 x12 x13 : Option Sl) (hs : step ≠ 0 ∧ step.natAbs < 1073741824) (h5 : mulOkF f) :
    ∃ y13, gIn [si v, si d, x2, pr f.A f.α, pr f.B f.β, pr f.C f.γ, si f.lo, si f.hi, si x, si start, si step, x11, x12, x13] =
      (match tryF v f x start step with
        | some t => .rt (t3D t) [si v, si d, x2, pr f.A f.α, pr f.B f.β, pr f.C f.γ, si f.lo, si f.hi, si x, si start, si step, si ((x - start).fdiv step), si ((x - start).fmod step), y13]
        | none => .nx [si v, si d, x2, pr f.A f.α, pr f.B f.β, pr f.C f.γ, si f.lo, si f.hi, si x, si start, si step, si ((x - start).fdiv step), si ((x - start).fmod step), y13]) := by
  unfold tryF
  by_cases c1 : (x - start).fmod step = 0
  · by_cases c2 : f.lo ≤ (x - start).fdiv step
    · by_cases c3 : (x - start).fdiv step ≤ f.hi
      · refine ⟨si (f.C + (x - start).fdiv step * f.γ), ?_⟩
        rw [if_pos ⟨c1, c2, c3⟩]
        obtain ⟨m1, m2, m3⟩ := h5 ((x - start).fdiv step)
        simp [gIn, runS, endR, envOf, sSeq, sSet, sIf, sRet, sRetN, sEx, sNil, sRaise, sUn, evs, Rs.then, Rs.bind, eB, eC, eVar, eCall, eTup, eLst, eFn, eNot, eAnd, eOr, eIf, eChain, e1, negD, addD, subD, mulD, fdivD, modD, powD, cmpI, eqD, neD, eqB, scalD, eqF, inD, ninD, inB, flat, truth, intD, lenD, minD, divmodD, bNm, bTp, bAll, divOk, hs, c1, c2, c3, ixD, L2.atI, L2.ixN, t3D, tri, mn, m1, m2, m3]
      · refine ⟨x13, ?_⟩
        rw [if_neg fun z => c3 z.2.2]
        simp [gIn, runS, endR, envOf, sSeq, sSet, sIf, sRet, sRetN, sEx, sNil, sRaise, sUn, evs, Rs.then, Rs.bind, eB, eC, eVar, eCall, eTup, eLst, eFn, eNot, eAnd, eOr, eIf, eChain, e1, negD, addD, subD, mulD, fdivD, modD, powD, cmpI, eqD, neD, eqB, scalD, eqF, inD, ninD, inB, flat, truth, intD, lenD, minD, divmodD, bNm, bTp, bAll, divOk, hs, c1, c2, c3]
    · refine ⟨x13, ?_⟩
      rw [if_neg fun z => c2 z.2.1]
      simp [gIn, runS, endR, envOf, sSeq, sSet, sIf, sRet, sRetN, sEx, sNil, sRaise, sUn, evs, Rs.then, Rs.bind, eB, eC, eVar, eCall, eTup, eLst, eFn, eNot, eAnd, eOr, eIf, eChain, e1, negD, addD, subD, mulD, fdivD, modD, powD, cmpI, eqD, neD, eqB, scalD, eqF, inD, ninD, inB, flat, truth, intD, lenD, minD, divmodD, bNm, bTp, bAll, divOk, hs, c1, c2]
  · refine ⟨x13, ?_⟩
    rw [if_neg fun z => c1 z.1]
    have q0 : ((x - start).fmod step == 0) = false := by simpa using c1
    simp [gIn, runS, endR, envOf, sSeq, sSet, sIf, sRet, sRetN, sEx, sNil, sRaise, sUn, evs, Rs.then, Rs.bind, eB, eC, eVar, eCall, eTup, eLst, eFn, eNot, eAnd, eOr, eIf, eChain, e1, negD, addD, subD, mulD, fdivD, modD, powD, cmpI, eqD, neD, eqB, scalD, eqF, inD, ninD, inB, flat, truth, intD, lenD, minD, divmodD, bNm, bTp, bAll, divOk, hs, q0]

theorem step_in {v d x start step : Int} {f : Fam} {x2 x8 x9 x10 x11 x12 x13 : Option Sl} {rest : List D} (hs : step ≠ 0 ∧ step.natAbs < 1073741824) (h5 : mulOkF f) :
    (∀ t, tryF v f x start step = some t → ∃ ρ', loopS bIn gIn (.tup [.int x, .tup [.int start, .int step]] :: rest) [si v, si d, x2, pr f.A f.α, pr f.B f.β, pr f.C f.γ, si f.lo, si f.hi, x8, x9, x10, x11, x12, x13] = .rt (t3D t) ρ') ∧
    (tryF v f x start step = none → ∃ y8 y9 y10 y11 y12 y13, loopS bIn gIn (.tup [.int x, .tup [.int start, .int step]] :: rest) [si v, si d, x2, pr f.A f.α, pr f.B f.β, pr f.C f.γ, si f.lo, si f.hi, x8, x9, x10, x11, x12, x13] =
      loopS bIn gIn rest [si v, si d, x2, pr f.A f.α, pr f.B f.β, pr f.C f.γ, si f.lo, si f.hi, y8, y9, y10, y11, y12, y13]) := by
  have hb : bIn (.tup [.int x, .tup [.int start, .int step]]) [si v, si d, x2, pr f.A f.α, pr f.B f.β, pr f.C f.γ, si f.lo, si f.hi, x8, x9, x10, x11, x12, x13] = some [si v, si d, x2, pr f.A f.α, pr f.B f.β, pr f.C f.γ, si f.lo, si f.hi, si x, si start, si step, x11, x12, x13] := rfl
  obtain ⟨y13, e⟩ := ev_in v d x start step f x2 x11 x12 x13 hs h5
  have h0 : loopS bIn gIn (.tup [.int x, .tup [.int start, .int step]] :: rest) [si v, si d, x2, pr f.A f.α, pr f.B f.β, pr f.C f.γ, si f.lo, si f.hi, x8, x9, x10, x11, x12, x13] = (match gIn [si v, si d, x2, pr f.A f.α, pr f.B f.β, pr f.C f.γ, si f.lo, si f.hi, si x, si start, si step, x11, x12, x13] with
      | .nx ρ2 => loopS bIn gIn rest ρ2
      | .ct ρ2 => loopS bIn gIn rest ρ2
      | .bk ρ2 => .nx ρ2
      | r => r) := by
    rw [loopS, hb]
    try rfl
  refine ⟨fun t q => ?_, fun q => ?_⟩
  · rw [q] at e
    rw [e] at h0
    exact ⟨_, h0⟩
  · rw [q] at e
    rw [e] at h0
    exact ⟨_, _, _, _, _, y13, h0⟩
def gOut : SX := (sFor (iV seqI (eTup [(eTup [(eVar 1), (eVar 3)]), (eTup [(eVar 1), (eVar 4)]), (eTup [(eVar 1), (eVar 5)]), (eTup [(eB subD (eVar 0) (eVar 1)), (eVar 5)])])) (bTp [(bNm 8), (bTp [(bNm 9), (bNm 10)])])
  (sSeq (sUn (bTp [(bNm 11), (bNm 12)]) (eCall divmodD [(eB subD (eVar 8) (eVar 9)), (eVar 10)]))
  (sIf (eAnd (eB eqD (eVar 12) (eC (.int 0))) (eChain leD leD (eVar 6) (eVar 11) (eVar 7)))
  (sSeq (sSet 13 (eB addD (eB ixD (eVar 5) (eC (.int 0))) (eB mulD (eVar 11) (eB ixD (eVar 5) (eC (.int 1))))))
  (sRet (eTup [(eB addD (eB ixD (eVar 3) (eC (.int 0))) (eB mulD (eVar 11) (eB ixD (eVar 3) (eC (.int 1))))), (eB addD (eB ixD (eVar 4) (eC (.int 0))) (eB mulD (eVar 11) (eB ixD (eVar 4) (eC (.int 1))))), (eCall minD [(eVar 13), (eB subD (eVar 0) (eVar 13))])]))) sNil)))
def bOut : BX := (bTp [(bNm 3), (bNm 4), (bNm 5), (bNm 6), (bNm 7)])
def okF (f : Fam) : Prop := (f.α ≠ 0 ∧ f.α.natAbs < 1073741824) ∧ (f.β ≠ 0 ∧ f.β.natAbs < 1073741824) ∧ (f.γ ≠ 0 ∧ f.γ.natAbs < 1073741824) ∧ mulOkF f
theorem step_out {v d : Int} {f : Fam} {x2 x3 x4 x5 x6 x7 x8 x9 x10 x11 x12 x13 : Option Sl} {rest : List D} (hf : okF f) :
    (∀ t, foundF v d f = some t → ∃ ρ', loopS bOut gOut (famD f :: rest) [si v, si d, x2, x3, x4, x5, x6, x7, x8, x9, x10, x11, x12, x13] = .rt (t3D t) ρ') ∧
    (foundF v d f = none → ∃ y3 y4 y5 y6 y7 y8 y9 y10 y11 y12 y13, loopS bOut gOut (famD f :: rest) [si v, si d, x2, x3, x4, x5, x6, x7, x8, x9, x10, x11, x12, x13] = loopS bOut gOut rest [si v, si d, x2, y3, y4, y5, y6, y7, y8, y9, y10, y11, y12, y13]) := by
  obtain ⟨o1, o2, o3, o4⟩ := hf
  have hb : bOut (famD f) [si v, si d, x2, x3, x4, x5, x6, x7, x8, x9, x10, x11, x12, x13] = some [si v, si d, x2, pr f.A f.α, pr f.B f.β, pr f.C f.γ, si f.lo, si f.hi, x8, x9, x10, x11, x12, x13] := rfl
  have hg : gOut [si v, si d, x2, pr f.A f.α, pr f.B f.β, pr f.C f.γ, si f.lo, si f.hi, x8, x9, x10, x11, x12, x13] =
      loopS bIn gIn [.tup [.int d, .tup [.int f.A, .int f.α]], .tup [.int d, .tup [.int f.B, .int f.β]], .tup [.int d, .tup [.int f.C, .int f.γ]], .tup [.int (v - d), .tup [.int f.C, .int f.γ]]] [si v, si d, x2, pr f.A f.α, pr f.B f.β, pr f.C f.γ, si f.lo, si f.hi, x8, x9, x10, x11, x12, x13] := rfl
  have fin : ∀ ρ1 t, gOut [si v, si d, x2, pr f.A f.α, pr f.B f.β, pr f.C f.γ, si f.lo, si f.hi, x8, x9, x10, x11, x12, x13] = .rt (t3D t) ρ1 → ∃ ρ', loopS bOut gOut (famD f :: rest) [si v, si d, x2, x3, x4, x5, x6, x7, x8, x9, x10, x11, x12, x13] = .rt (t3D t) ρ' := fun ρ1 t e => ⟨ρ1, by rw [loopS, hb]; simp only [e]⟩
  cases q1 : tryF v f d f.A f.α with
  | some t1 =>
    obtain ⟨ρ1, e1⟩ := (step_in (v := v) (d := d) (x := d) (f := f) o1 o4).1 t1 q1
    refine ⟨fun t q => ?_, fun q => ?_⟩
    · have et : t1 = t := by
        unfold foundF at q
        rw [q1] at q
        exact Option.some.inj q
      subst et
      exact fin ρ1 t1 (hg.trans e1)
    · unfold foundF at q
      rw [q1] at q
      cases q
  | none =>
    obtain ⟨a8, a9, a10, a11, a12, a13, e1⟩ := (step_in (v := v) (d := d) (x := d) (f := f) (x2 := x2) (x8 := x8) (x9 := x9) (x10 := x10) (x11 := x11) (x12 := x12) (x13 := x13) (rest := [.tup [.int d, .tup [.int f.B, .int f.β]], .tup [.int d, .tup [.int f.C, .int f.γ]], .tup [.int (v - d), .tup [.int f.C, .int f.γ]]]) o1 o4).2 q1
    cases q2 : tryF v f d f.B f.β with
    | some t1 =>
      obtain ⟨ρ1, e2⟩ := (step_in (v := v) (d := d) (x := d) (f := f) (x2 := x2) (x8 := a8) (x9 := a9) (x10 := a10) (x11 := a11) (x12 := a12) (x13 := a13) (rest := [.tup [.int d, .tup [.int f.C, .int f.γ]], .tup [.int (v - d), .tup [.int f.C, .int f.γ]]]) o2 o4).1 t1 q2
      refine ⟨fun t q => ?_, fun q => ?_⟩
      · have et : t1 = t := by
          unfold foundF at q
          rw [q1] at q
          simp only [q2] at q
          exact Option.some.inj q
        subst et
        exact fin ρ1 t1 (hg.trans (e1.trans e2))
      · unfold foundF at q
        rw [q1] at q
        simp only [q2] at q
        cases q
    | none =>
      obtain ⟨b8, b9, b10, b11, b12, b13, e2⟩ := (step_in (v := v) (d := d) (x := d) (f := f) (x2 := x2) (x8 := a8) (x9 := a9) (x10 := a10) (x11 := a11) (x12 := a12) (x13 := a13) (rest := [.tup [.int d, .tup [.int f.C, .int f.γ]], .tup [.int (v - d), .tup [.int f.C, .int f.γ]]]) o2 o4).2 q2
      cases q3 : tryF v f d f.C f.γ with
      | some t1 =>
        obtain ⟨ρ1, e3⟩ := (step_in (v := v) (d := d) (x := d) (f := f) (x2 := x2) (x8 := b8) (x9 := b9) (x10 := b10) (x11 := b11) (x12 := b12) (x13 := b13) (rest := [.tup [.int (v - d), .tup [.int f.C, .int f.γ]]]) o3 o4).1 t1 q3
        refine ⟨fun t q => ?_, fun q => ?_⟩
        · have et : t1 = t := by
            unfold foundF at q
            rw [q1] at q
            simp only [q2, q3] at q
            exact Option.some.inj q
          subst et
          exact fin ρ1 t1 (hg.trans (e1.trans (e2.trans e3)))
        · unfold foundF at q
          rw [q1] at q
          simp only [q2, q3] at q
          cases q
      | none =>
        obtain ⟨c8, c9, c10, c11, c12, c13, e3⟩ := (step_in (v := v) (d := d) (x := d) (f := f) (x2 := x2) (x8 := b8) (x9 := b9) (x10 := b10) (x11 := b11) (x12 := b12) (x13 := b13) (rest := [.tup [.int (v - d), .tup [.int f.C, .int f.γ]]]) o3 o4).2 q3
        have q' : foundF v d f = tryF v f (v - d) f.C f.γ := by
          unfold foundF
          rw [q1]
          simp only [q2, q3]
        refine ⟨fun t q => ?_, fun q => ?_⟩
        · rw [q'] at q
          obtain ⟨ρ1, e4⟩ := (step_in (v := v) (d := d) (x := v - d) (f := f) (x2 := x2) (x8 := c8) (x9 := c9) (x10 := c10) (x11 := c11) (x12 := c12) (x13 := c13) (rest := []) o3 o4).1 t q
          exact fin ρ1 t (hg.trans (e1.trans (e2.trans (e3.trans e4))))
        · rw [q'] at q
          obtain ⟨z8, z9, z10, z11, z12, z13, e4⟩ := (step_in (v := v) (d := d) (x := v - d) (f := f) (x2 := x2) (x8 := c8) (x9 := c9) (x10 := c10) (x11 := c11) (x12 := c12) (x13 := c13) (rest := []) o3 o4).2 q
          refine ⟨pr f.A f.α, pr f.B f.β, pr f.C f.γ, si f.lo, si f.hi, z8, z9, z10, z11, z12, z13, ?_⟩
          rw [loopS, hb]
          simp only [hg.trans (e1.trans (e2.trans (e3.trans e4)))]
          rfl
theorem loop_out {v d : Int} {x2 : Option Sl} : ∀ (F : List Fam) (x3 x4 x5 x6 x7 x8 x9 x10 x11 x12 x13 : Option Sl), (∀ f ∈ F, okF f) →
    (∀ t, found v d F = some t → ∃ ρ', loopS bOut gOut (F.map famD) [si v, si d, x2, x3, x4, x5, x6, x7, x8, x9, x10, x11, x12, x13] = .rt (t3D t) ρ') ∧
    (found v d F = none → ∃ ρ', loopS bOut gOut (F.map famD) [si v, si d, x2, x3, x4, x5, x6, x7, x8, x9, x10, x11, x12, x13] = .nx ρ')
  | [], _, _, _, _, _, _, _, _, _, _, _, _ => ⟨fun t q => (by cases q), fun _ => ⟨_, rfl⟩⟩
  | f :: F, x3, x4, x5, x6, x7, x8, x9, x10, x11, x12, x13, ok => by
    have hf := ok f List.mem_cons_self
    obtain ⟨h1, h2⟩ := step_out (v := v) (d := d) (f := f) (x2 := x2) (x3 := x3) (x4 := x4) (x5 := x5) (x6 := x6) (x7 := x7) (x8 := x8) (x9 := x9) (x10 := x10) (x11 := x11) (x12 := x12) (x13 := x13) (rest := F.map famD) hf
    cases q : foundF v d f with
    | some t1 =>
      have e : found v d (f :: F) = some t1 := by
        unfold found
        rw [q]
      rw [e]
      refine ⟨fun t et => ?_, fun et => by cases et⟩
      cases et
      exact h1 t1 q
    | none =>
      have e : found v d (f :: F) = found v d F := by
        show (match foundF v d f with
          | some t => some t
          | none => found v d F) = _
        rw [q]
      rw [e]
      obtain ⟨y3, y4, y5, y6, y7, y8, y9, y10, y11, y12, y13, e2⟩ := h2 q
      obtain ⟨k1, k2⟩ := loop_out F y3 y4 y5 y6 y7 y8 y9 y10 y11 y12 y13 fun g hg => ok g (List.mem_cons_of_mem _ hg)
      refine ⟨fun t et => ?_, fun et => ?_⟩
      · obtain ⟨ρ', e3⟩ := k1 t et
        exact ⟨ρ', e2.trans e3⟩
      · obtain ⟨ρ', e3⟩ := k2 et
        exact ⟨ρ', e2.trans e3⟩
end K39

/-! What the defs answer. -/
namespace K39
open PySem MB

theorem b_found_eq : b_found_triple = sSeq (sSet 2 (eTbl (fun i => tb_FAMILIES.lookup i) (eB modD (eVar 0) (eC (.int 18))))) (sSeq (sFor (iV seqI (eLoc 2 sel_found_triple [(eB fdivD (eVar 0) (eC (.int 18)))])) bOut gOut) (sRaise "KindError" ["what"] [(eC (.str "short"))])) := rfl
theorem ev_found {v d : Int} {F : List Fam} {nm : Str} {m : Fn} (hl : tb_FAMILIES.lookup (v.fmod 18) = some (.fn nm)) (hs : sel_found_triple nm = some m) (hm : m [.int (v.fdiv 18)] = .ok (.lst (F.map famD))) (ok : ∀ f ∈ F, okF f) :
    m_found_triple [.int v, .int d] = (match found v d F with
      | some t => .ok (t3D t)
      | none => .err ⟨"KindError", [("what", .str "short")]⟩) := by
  obtain ⟨k1, k2⟩ := loop_out (v := v) (d := d) (x2 := some (.val (.fn nm))) F none none none none none none none none none none none ok
  unfold m_found_triple
  rw [b_found_eq]
  cases q : found v d F with
  | some t =>
    obtain ⟨ρ', e⟩ := k1 t q
    simp [runS, endR, envOf, sSeq, sSet, sIf, sRet, sRetN, sEx, sNil, sRaise, sUn, evs, Rs.then, Rs.bind, eB, eC, eVar, eCall, eTup, eLst, eFn, eNot, eAnd, eOr, eIf, eChain, e1, negD, addD, subD, mulD, fdivD, modD, powD, cmpI, eqD, neD, eqB, scalD, eqF, inD, ninD, inB, flat, truth, intD, lenD, minD, divmodD, bNm, bTp, bAll, mulOk, divOk, eTbl, eLoc, sFor, iV, iB, seqI, hl, hs, hm, List.replicate, e]
  | none =>
    obtain ⟨ρ', e⟩ := k2 q
    simp [runS, endR, envOf, sSeq, sSet, sIf, sRet, sRetN, sEx, sNil, sRaise, sUn, evs, Rs.then, Rs.bind, eB, eC, eVar, eCall, eTup, eLst, eFn, eNot, eAnd, eOr, eIf, eChain, e1, negD, addD, subD, mulD, fdivD, modD, powD, cmpI, eqD, neD, eqB, scalD, eqF, inD, ninD, inB, flat, truth, intD, lenD, minD, divmodD, bNm, bTp, bAll, mulOk, divOk, eTbl, eLoc, sFor, iV, iB, seqI, hl, hs, hm, List.replicate, e]
end K39

/-! What the defs answer. -/
namespace K39
open PySem MB
theorem okF1 (s : Int) : ∀ f ∈ F1 s, okF f := by
  intro f hf
  simp only [F1, List.mem_cons, List.not_mem_nil, or_false] at hf
  rcases hf with rfl | rfl | rfl | rfl <;> simp [okF, mulOkF, mulOk]
theorem okF3 (s : Int) : ∀ f ∈ F3 s, okF f := by
  intro f hf
  simp only [F3, List.mem_cons, List.not_mem_nil, or_false] at hf
  rcases hf with rfl | rfl | rfl <;> simp [okF, mulOkF, mulOk]
theorem okF7 (s : Int) : ∀ f ∈ F7 s, okF f := by
  intro f hf
  simp only [F7, List.mem_cons, List.not_mem_nil, or_false] at hf
  rcases hf with rfl | rfl | rfl | rfl <;> simp [okF, mulOkF, mulOk]
theorem okF9 (s : Int) : ∀ f ∈ F9 s, okF f := by
  intro f hf
  simp only [F9, List.mem_cons, List.not_mem_nil, or_false] at hf
  rcases hf with rfl | rfl | rfl | rfl | rfl | rfl | rfl | rfl <;> simp [okF, mulOkF, mulOk]
theorem okF13 (s : Int) : ∀ f ∈ F13 s, okF f := by
  intro f hf
  simp only [F13, List.mem_cons, List.not_mem_nil, or_false] at hf
  rcases hf with rfl | rfl | rfl | rfl <;> simp [okF, mulOkF, mulOk]
theorem okF15 (s : Int) : ∀ f ∈ F15 s, okF f := by
  intro f hf
  simp only [F15, List.mem_cons, List.not_mem_nil, or_false] at hf
  rcases hf with rfl | rfl | rfl <;> simp [okF, mulOkF, mulOk]
def rowD (row : List Int) : D := .tup (row.map .int)
def R1 : List (List Int) := [[0, 0, 0, 3, 0, 0, 3, 1, 0, 6, 1], [0, -1, 3, 0, 1, -1, 4, 1, 2, 4, 2], [0, -1, 3, 0, 2, -1, 8, 0, 2, 8, 2], [0, -2, 3, 0, 3, -2, 6, -1, 1, 6, 2]]
def R3 : List (List Int) := [[0, -1, 3, 0, 1, -1, 8, 1, 2, 8, 2], [0, -1, 3, 0, 2, -1, 4, 0, 2, 4, 2], [0, -1, 3, 0, 3, -2, 6, -1, 1, 6, 2]]
def R7 : List (List Int) := [[0, 0, 0, 3, 1, 0, 4, 2, 0, 7, 3], [0, -1, 3, 0, 1, -1, 8, 3, 2, 8, 4], [0, -1, 3, 0, 2, -2, 6, 1, 1, 6, 3], [0, -1, 3, 0, 3, -1, 4, 1, 2, 4, 4]]
def R9 : List (List Int) := [[0, 0, 3, 0, 1, -1, 4, 3, 2, 4, 4], [2, -2, 3, 0, 2, -1, 8, 2, 2, 8, 4], [1, -2, 3, 0, 3, -2, 6, 1, 1, 6, 4], [0, 0, 0, 0, 2, 0, 8, 3, 0, 8, 5], [0, 0, 0, 0, 3, 0, 8, 1, 0, 8, 4], [0, 0, 0, 0, 5, 0, 8, 2, 0, 8, 7], [0, 0, 0, 3, -1, 0, 3, 2, 0, 6, 1], [0, 0, 0, 3, 0, 0, 7, 3, 0, 8, 6]]
def R13 : List (List Int) := [[0, 0, 0, 3, 2, 0, 7, 5, 0, 8, 6], [0, -1, 3, 0, 2, -2, 6, 3, 1, 6, 5], [0, -1, 3, 0, 3, -1, 8, 5, 2, 8, 8], [0, 0, 3, 0, 1, -1, 4, 3, 2, 4, 4]]
def R15 : List (List Int) := [[0, 0, 3, 0, 1, -1, 4, 3, 2, 4, 4], [0, 0, 3, 0, 2, -1, 8, 6, 2, 8, 8], [0, -1, 3, 0, 3, -2, 6, 3, 1, 6, 6]]
def R27 : List (List Int) := [[0, 0, 0, 0, 1, 0, 0, 12, 0, 0, 13], [0, 0, 0, 0, 2, 0, 0, 5, 0, 0, 7], [0, 0, 0, 0, 3, 0, 0, 8, 0, 0, 11], [0, 0, 0, 0, 4, 0, 0, 6, 0, 0, 10]]
def R45 : List (List Int) := [[0, 0, 0, 0, 1, 0, 0, 11, 0, 0, 12], [0, 0, 0, 0, 2, 0, 0, 17, 0, 0, 19], [0, 0, 0, 0, 3, 0, 0, 20, 0, 0, 22], [0, 0, 0, 0, 4, 0, 0, 10, 0, 0, 14], [0, 0, 0, 0, 5, 0, 0, 8, 0, 0, 13], [0, 0, 0, 0, 6, 0, 0, 18, 0, 0, 21], [0, 0, 0, 0, 7, 0, 0, 9, 0, 0, 16]]
theorem ev_tab1 {v : Int} (h : v.fmod 18 = 1) : m__law_table [.int v] = .ok (.lst (R1.map rowD)) := by
  simp [m__law_table, b__law_table, runS, endR, envOf, sSeq, sSet, sIf, sRet, sRetN, sEx, sNil, sRaise, sUn, evs, Rs.then, Rs.bind, eB, eC, eVar, eCall, eTup, eLst, eFn, eNot, eAnd, eOr, eIf, eChain, e1, negD, addD, subD, mulD, fdivD, modD, powD, cmpI, eqD, neD, eqB, scalD, eqF, inD, ninD, inB, flat, truth, intD, lenD, minD, divmodD, bNm, bTp, bAll, mulOk, divOk, R1, rowD, h]
theorem ev_tab3 {v : Int} (h : v.fmod 18 = 3) : m__law_table [.int v] = .ok (.lst (R3.map rowD)) := by
  simp [m__law_table, b__law_table, runS, endR, envOf, sSeq, sSet, sIf, sRet, sRetN, sEx, sNil, sRaise, sUn, evs, Rs.then, Rs.bind, eB, eC, eVar, eCall, eTup, eLst, eFn, eNot, eAnd, eOr, eIf, eChain, e1, negD, addD, subD, mulD, fdivD, modD, powD, cmpI, eqD, neD, eqB, scalD, eqF, inD, ninD, inB, flat, truth, intD, lenD, minD, divmodD, bNm, bTp, bAll, mulOk, divOk, R3, rowD, h]
theorem ev_tab7 {v : Int} (h : v.fmod 18 = 7) : m__law_table [.int v] = .ok (.lst (R7.map rowD)) := by
  simp [m__law_table, b__law_table, runS, endR, envOf, sSeq, sSet, sIf, sRet, sRetN, sEx, sNil, sRaise, sUn, evs, Rs.then, Rs.bind, eB, eC, eVar, eCall, eTup, eLst, eFn, eNot, eAnd, eOr, eIf, eChain, e1, negD, addD, subD, mulD, fdivD, modD, powD, cmpI, eqD, neD, eqB, scalD, eqF, inD, ninD, inB, flat, truth, intD, lenD, minD, divmodD, bNm, bTp, bAll, mulOk, divOk, R7, rowD, h]
theorem ev_tab13 {v : Int} (h : v.fmod 18 = 13) : m__law_table [.int v] = .ok (.lst (R13.map rowD)) := by
  simp [m__law_table, b__law_table, runS, endR, envOf, sSeq, sSet, sIf, sRet, sRetN, sEx, sNil, sRaise, sUn, evs, Rs.then, Rs.bind, eB, eC, eVar, eCall, eTup, eLst, eFn, eNot, eAnd, eOr, eIf, eChain, e1, negD, addD, subD, mulD, fdivD, modD, powD, cmpI, eqD, neD, eqB, scalD, eqF, inD, ninD, inB, flat, truth, intD, lenD, minD, divmodD, bNm, bTp, bAll, mulOk, divOk, R13, rowD, h]
theorem ev_tab15 {v : Int} (h : v.fmod 18 = 15) : m__law_table [.int v] = .ok (.lst (R15.map rowD)) := by
  simp [m__law_table, b__law_table, runS, endR, envOf, sSeq, sSet, sIf, sRet, sRetN, sEx, sNil, sRaise, sUn, evs, Rs.then, Rs.bind, eB, eC, eVar, eCall, eTup, eLst, eFn, eNot, eAnd, eOr, eIf, eChain, e1, negD, addD, subD, mulD, fdivD, modD, powD, cmpI, eqD, neD, eqB, scalD, eqF, inD, ninD, inB, flat, truth, intD, lenD, minD, divmodD, bNm, bTp, bAll, mulOk, divOk, R15, rowD, h]
theorem ev_tab9 {v : Int} (h : v.fmod 18 = 9) (n27 : (v == 27) = false) (n45 : (v == 45) = false) : m__law_table [.int v] = .ok (.lst (R9.map rowD)) := by
  simp [m__law_table, b__law_table, runS, endR, envOf, sSeq, sSet, sIf, sRet, sRetN, sEx, sNil, sRaise, sUn, evs, Rs.then, Rs.bind, eB, eC, eVar, eCall, eTup, eLst, eFn, eNot, eAnd, eOr, eIf, eChain, e1, negD, addD, subD, mulD, fdivD, modD, powD, cmpI, eqD, neD, eqB, scalD, eqF, inD, ninD, inB, flat, truth, intD, lenD, minD, divmodD, bNm, bTp, bAll, mulOk, divOk, R9, rowD, h, n27, n45]
theorem ev_tab27 : m__law_table [.int 27] = .ok (.lst (R27.map rowD)) := by rfl
theorem ev_tab45 : m__law_table [.int 45] = .ok (.lst (R45.map rowD)) := by rfl

theorem mulOk_l {i : Int} (h : -(2 ^ 64) < i ∧ i < 2 ^ 64) (j : Int) : mulOk i j = true := by
  unfold mulOk
  rw [decide_eq_true h]
  rfl
theorem mulOk_r {i : Int} (h : -(2 ^ 64) < i ∧ i < 2 ^ 64) (j : Int) : mulOk j i = true := by
  unfold mulOk
  rw [decide_eq_true h, Bool.or_true]
  rfl
/-- a row of the law's table -/
structure Row where
  l : Int
  h : Int
  a1 : Int
  a2 : Int
  a3 : Int
  b1 : Int
  b2 : Int
  b3 : Int
  c1 : Int
  c2 : Int
  c3 : Int
def Row.li (w : Row) : List Int := [w.l, w.h, w.a1, w.a2, w.a3, w.b1, w.b2, w.b3, w.c1, w.c2, w.c3]
def Row.fam (w : Row) (s : Int) : Fam := ⟨w.a2 * s + w.a3, w.a1, w.b2 * s + w.b3, w.b1, w.c2 * s + w.c3, w.c1, w.l, s + w.h⟩
def sm (i : Int) : Prop := -1000 < i ∧ i < 1000
structure Row.Ok (w : Row) : Prop where
  a1 : sm w.a1
  a2 : sm w.a2
  b1 : sm w.b1
  b2 : sm w.b2
  c1 : sm w.c1
  c2 : sm w.c2
theorem sm.wide {i : Int} (h : sm i) : -(2 ^ 64) < i ∧ i < 2 ^ 64 := by unfold sm at h; omega
theorem ev_triple {v r : Int} {w : Row} (o : w.Ok) (hv : v % 2 = 1) : m__law_triple [.int v, rowD w.li, .int r] = .ok (t3D (tri v (w.fam (v.fdiv 18)) r)) := by
  have m1 := mulOk_l o.a1.wide r
  have m2 := mulOk_l o.a2.wide (v.fdiv 18)
  have m3 := mulOk_l o.b1.wide r
  have m4 := mulOk_l o.b2.wide (v.fdiv 18)
  have m5 := mulOk_l o.c1.wide r
  have m6 := mulOk_l o.c2.wide (v.fdiv 18)
  have q1 : w.a2 * v.fdiv 18 + w.a3 + r * w.a1 = w.a1 * r + w.a2 * v.fdiv 18 + w.a3 := by rw [Int.mul_comm r]; omega
  have q2 : w.b2 * v.fdiv 18 + w.b3 + r * w.b1 = w.b1 * r + w.b2 * v.fdiv 18 + w.b3 := by rw [Int.mul_comm r]; omega
  have q3 : w.c2 * v.fdiv 18 + w.c3 + r * w.c1 = w.c1 * r + w.c2 * v.fdiv 18 + w.c3 := by rw [Int.mul_comm r]; omega
  have hd : (v - 1).fdiv 2 = (v - 1) / 2 := Int.fdiv_eq_ediv_of_nonneg _ (by decide)
  generalize ec : w.c1 * r + w.c2 * v.fdiv 18 + w.c3 = c at q3
  by_cases k : (v - 1) / 2 < c
  · have k2 : v - c < c := by omega
    simp [m__law_triple, b__law_triple, runS, endR, envOf, sSeq, sSet, sIf, sRet, sRetN, sEx, sNil, sRaise, sUn, evs, Rs.then, Rs.bind, eB, eC, eVar, eCall, eTup, eLst, eFn, eNot, eAnd, eOr, eIf, eChain, e1, negD, addD, subD, mulD, fdivD, modD, powD, cmpI, eqD, neD, eqB, scalD, eqF, inD, ninD, inB, flat, truth, intD, lenD, minD, divmodD, bNm, bTp, bAll, divOk, rowD, Row.li, ixD, L2.atI, L2.ixN, m1, m2, m3, m4, m5, m6, ec, hd, k, t3D, tri, Row.fam, q1, q2, q3, mn, k2]
  · have k2 : ¬ v - c < c := by omega
    simp [m__law_triple, b__law_triple, runS, endR, envOf, sSeq, sSet, sIf, sRet, sRetN, sEx, sNil, sRaise, sUn, evs, Rs.then, Rs.bind, eB, eC, eVar, eCall, eTup, eLst, eFn, eNot, eAnd, eOr, eIf, eChain, e1, negD, addD, subD, mulD, fdivD, modD, powD, cmpI, eqD, neD, eqB, scalD, eqF, inD, ninD, inB, flat, truth, intD, lenD, minD, divmodD, bNm, bTp, bAll, divOk, rowD, Row.li, ixD, L2.atI, L2.ixN, m1, m2, m3, m4, m5, m6, ec, hd, k, t3D, tri, Row.fam, q1, q2, q3, mn, k2]
def gL : SX := (sSeq (sSet 6 (eB subD (eB subD (eVar 5) (eB mulD (eB ixD (eVar 3) (eB addD (eVar 4) (eC (.int 1)))) (eVar 2))) (eB ixD (eVar 3) (eB addD (eVar 4) (eC (.int 2))))))
  (sSeq (sSet 7 (eB ixD (eVar 3) (eC (.int 0))))
  (sSeq (sIf (eB neD (eB ixD (eVar 3) (eVar 4)) (eC (.int 0)))
  (sSet 7 (eB fdivD (eVar 6) (eB ixD (eVar 3) (eVar 4)))) sNil)
  (sIf (eAnd (eB eqD (eVar 6) (eB mulD (eB ixD (eVar 3) (eVar 4)) (eVar 7))) (eChain leD leD (eB ixD (eVar 3) (eC (.int 0))) (eVar 7) (eB addD (eVar 2) (eB ixD (eVar 3) (eC (.int 1))))))
  (sRet (eFn m__law_triple [(eVar 0), (eVar 3), (eVar 7)])) sNil))))
theorem ev_try {v d s at_ goal x2 x3 step start : Int} {w : Row} {x6 x7 : Option Sl} (ht : ∀ r, m__law_triple [.int v, rowD w.li, .int r] = .ok (t3D (tri v (w.fam s) r)))
    (i0 : ixD (rowD w.li) (.int 0) = some (.int w.l)) (i1 : ixD (rowD w.li) (.int 1) = some (.int w.h)) (ia : ixD (rowD w.li) (.int at_) = some (.int step)) (ib : ixD (rowD w.li) (.int (at_ + 1)) = some (.int x2)) (ic : ixD (rowD w.li) (.int (at_ + 2)) = some (.int x3))
    (hs : sm step) (h2 : sm x2) (hst : start = x2 * s + x3) :
    (∀ t, tryL v (w.fam s) goal start step = some t → ∃ ρ', gL [si v, si d, si s, some (.val (rowD w.li)), si at_, si goal, x6, x7] = .rt (t3D t) ρ') ∧
    (tryL v (w.fam s) goal start step = none → ∃ y6 y7, gL [si v, si d, si s, some (.val (rowD w.li)), si at_, si goal, x6, x7] = .nx [si v, si d, si s, some (.val (rowD w.li)), si at_, si goal, y6, y7]) := by
  have m1 := mulOk_l h2.wide s
  have m2 := mulOk_l hs.wide
  have q0 : goal - x2 * s - x3 = goal - start := by omega
  have hlo : (w.fam s).lo = w.l := rfl
  have hhi : (w.fam s).hi = s + w.h := rfl
  by_cases k : step = 0
  · have nb : (step == 0) = true := by simpa using k
    have e0 : tryL v (w.fam s) goal start step = tryR v (w.fam s) goal start step (w.l) := by
      unfold tryL stepR
      rw [if_neg (fun z => z k), hlo]
    rw [e0]
    unfold tryR
    rw [hlo, hhi]
    by_cases c1 : goal - start = step * (w.l)
    · have e : (goal - start == step * (w.l)) = true := by simpa using c1
      by_cases c2 : w.l ≤ (w.l)
      · by_cases c3 : (w.l) ≤ s + w.h
        · rw [if_pos ⟨c1, c2, c3⟩]
          refine ⟨fun t et => ?_, fun et => by cases et⟩
          cases et
          refine ⟨[si v, si d, si s, some (.val (rowD w.li)), si at_, si goal, si (goal - start), si (w.l)], ?_⟩
          simp [gL, runS, endR, envOf, sSeq, sSet, sIf, sRet, sRetN, sEx, sNil, sRaise, sUn, evs, Rs.then, Rs.bind, eB, eC, eVar, eCall, eTup, eLst, eFn, eNot, eAnd, eOr, eIf, eChain, e1, negD, addD, subD, mulD, fdivD, modD, powD, cmpI, eqD, neD, eqB, scalD, eqF, inD, ninD, inB, flat, truth, intD, lenD, minD, divmodD, bNm, bTp, bAll, i0, i1, ia, ib, ic, m1, m2, q0, nb,  e, c2, c3, ht]
        · rw [if_neg fun z => c3 z.2.2]
          refine ⟨fun t et => by (cases et), fun _ => ⟨si (goal - start), si (w.l), ?_⟩⟩
          simp [gL, runS, endR, envOf, sSeq, sSet, sIf, sRet, sRetN, sEx, sNil, sRaise, sUn, evs, Rs.then, Rs.bind, eB, eC, eVar, eCall, eTup, eLst, eFn, eNot, eAnd, eOr, eIf, eChain, e1, negD, addD, subD, mulD, fdivD, modD, powD, cmpI, eqD, neD, eqB, scalD, eqF, inD, ninD, inB, flat, truth, intD, lenD, minD, divmodD, bNm, bTp, bAll, i0, i1, ia, ib, ic, m1, m2, q0, nb,  e, c2, c3]
      · exact absurd (Int.le_refl _) c2
    · have e : (goal - start == step * (w.l)) = false := by simpa using c1
      rw [if_neg fun z => c1 z.1]
      refine ⟨fun t et => by (cases et), fun _ => ⟨si (goal - start), si (w.l), ?_⟩⟩
      simp [gL, runS, endR, envOf, sSeq, sSet, sIf, sRet, sRetN, sEx, sNil, sRaise, sUn, evs, Rs.then, Rs.bind, eB, eC, eVar, eCall, eTup, eLst, eFn, eNot, eAnd, eOr, eIf, eChain, e1, negD, addD, subD, mulD, fdivD, modD, powD, cmpI, eqD, neD, eqB, scalD, eqF, inD, ninD, inB, flat, truth, intD, lenD, minD, divmodD, bNm, bTp, bAll, i0, i1, ia, ib, ic, m1, m2, q0, nb,  e]
  · have nb : (step == 0) = false := by simpa using k
    have dv : divOk (goal - start) step = true := by
      unfold sm at hs
      unfold divOk
      rw [decide_eq_true (show step ≠ 0 ∧ step.natAbs < 1073741824 from ⟨k, by omega⟩)]
      rfl
    have e0 : tryL v (w.fam s) goal start step = tryR v (w.fam s) goal start step ((goal - start).fdiv step) := by
      unfold tryL stepR
      rw [if_pos k]
    rw [e0]
    unfold tryR
    rw [hlo, hhi]
    by_cases c1 : goal - start = step * ((goal - start).fdiv step)
    · have e : (goal - start == step * ((goal - start).fdiv step)) = true := by simpa using c1
      by_cases c2 : w.l ≤ ((goal - start).fdiv step)
      · by_cases c3 : ((goal - start).fdiv step) ≤ s + w.h
        · rw [if_pos ⟨c1, c2, c3⟩]
          refine ⟨fun t et => ?_, fun et => by cases et⟩
          cases et
          refine ⟨[si v, si d, si s, some (.val (rowD w.li)), si at_, si goal, si (goal - start), si ((goal - start).fdiv step)], ?_⟩
          simp [gL, runS, endR, envOf, sSeq, sSet, sIf, sRet, sRetN, sEx, sNil, sRaise, sUn, evs, Rs.then, Rs.bind, eB, eC, eVar, eCall, eTup, eLst, eFn, eNot, eAnd, eOr, eIf, eChain, e1, negD, addD, subD, mulD, fdivD, modD, powD, cmpI, eqD, neD, eqB, scalD, eqF, inD, ninD, inB, flat, truth, intD, lenD, minD, divmodD, bNm, bTp, bAll, i0, i1, ia, ib, ic, m1, m2, q0, nb, dv, e, c2, c3, ht]
        · rw [if_neg fun z => c3 z.2.2]
          refine ⟨fun t et => by (cases et), fun _ => ⟨si (goal - start), si ((goal - start).fdiv step), ?_⟩⟩
          simp [gL, runS, endR, envOf, sSeq, sSet, sIf, sRet, sRetN, sEx, sNil, sRaise, sUn, evs, Rs.then, Rs.bind, eB, eC, eVar, eCall, eTup, eLst, eFn, eNot, eAnd, eOr, eIf, eChain, e1, negD, addD, subD, mulD, fdivD, modD, powD, cmpI, eqD, neD, eqB, scalD, eqF, inD, ninD, inB, flat, truth, intD, lenD, minD, divmodD, bNm, bTp, bAll, i0, i1, ia, ib, ic, m1, m2, q0, nb, dv, e, c2, c3]
      · rw [if_neg fun z => c2 z.2.1]
        refine ⟨fun t et => by (cases et), fun _ => ⟨si (goal - start), si ((goal - start).fdiv step), ?_⟩⟩
        simp [gL, runS, endR, envOf, sSeq, sSet, sIf, sRet, sRetN, sEx, sNil, sRaise, sUn, evs, Rs.then, Rs.bind, eB, eC, eVar, eCall, eTup, eLst, eFn, eNot, eAnd, eOr, eIf, eChain, e1, negD, addD, subD, mulD, fdivD, modD, powD, cmpI, eqD, neD, eqB, scalD, eqF, inD, ninD, inB, flat, truth, intD, lenD, minD, divmodD, bNm, bTp, bAll, i0, i1, ia, ib, ic, m1, m2, q0, nb, dv, e, c2]
    · have e : (goal - start == step * ((goal - start).fdiv step)) = false := by simpa using c1
      rw [if_neg fun z => c1 z.1]
      refine ⟨fun t et => by (cases et), fun _ => ⟨si (goal - start), si ((goal - start).fdiv step), ?_⟩⟩
      simp [gL, runS, endR, envOf, sSeq, sSet, sIf, sRet, sRetN, sEx, sNil, sRaise, sUn, evs, Rs.then, Rs.bind, eB, eC, eVar, eCall, eTup, eLst, eFn, eNot, eAnd, eOr, eIf, eChain, e1, negD, addD, subD, mulD, fdivD, modD, powD, cmpI, eqD, neD, eqB, scalD, eqF, inD, ninD, inB, flat, truth, intD, lenD, minD, divmodD, bNm, bTp, bAll, i0, i1, ia, ib, ic, m1, m2, q0, nb, dv, e]
end K39

/-! What the defs answer. -/
namespace K39
open PySem MB
def Res (o : Option T3) (fl : Fl) (I : En → Prop) : Prop := (∀ t, o = some t → ∃ ρ', fl = .rt (t3D t) ρ') ∧ (o = none → ∃ ρ', fl = .nx ρ' ∧ I ρ')
def orE (o o' : Option T3) : Option T3 := match o with
  | some t => some t
  | none => o'
theorem res_cons {b : BX} {g : SX} {x : D} {ds : List D} {ρ ρ1 : En} {o o' : Option T3} {I J : En → Prop} (hb : b x ρ = some ρ1) (h : Res o (g ρ1) I) (k : ∀ ρ', I ρ' → Res o' (loopS b g ds ρ') J) :
    Res (orE o o') (loopS b g (x :: ds) ρ) J := by
  have h0 : loopS b g (x :: ds) ρ = (match g ρ1 with
      | .nx ρ2 => loopS b g ds ρ2
      | .ct ρ2 => loopS b g ds ρ2
      | .bk ρ2 => .nx ρ2
      | r => r) := by
    rw [loopS, hb]
    try rfl
  cases o with
  | some t =>
    obtain ⟨ρ', e⟩ := h.1 t rfl
    rw [e] at h0
    exact ⟨fun t' et => by
      cases et
      exact ⟨ρ', h0⟩, fun et => by cases et⟩
  | none =>
    obtain ⟨ρ', e, i⟩ := h.2 rfl
    rw [e] at h0
    rw [h0]
    exact k ρ' i
theorem res_nil {b : BX} {g : SX} {ρ : En} {J : En → Prop} (h : J ρ) : Res none (loopS b g [] ρ) J := ⟨fun t et => (by cases et), fun _ => ⟨ρ, rfl, h⟩⟩
theorem res_o {o : Option T3} {fl : Fl} {I : En → Prop} (h : Res (orE o none) fl I) : Res o fl I := by cases o <;> exact h
section
variable {v d s : Int} {w : Row} (ht : ∀ r, m__law_triple [.int v, rowD w.li, .int r] = .ok (t3D (tri v (w.fam s) r)))
include ht
theorem two_ev {at_ x2 x3 step start : Int} {x5 x6 x7 : Option Sl}
    (i0 : ixD (rowD w.li) (.int 0) = some (.int w.l)) (i1 : ixD (rowD w.li) (.int 1) = some (.int w.h)) (ia : ixD (rowD w.li) (.int at_) = some (.int step)) (ib : ixD (rowD w.li) (.int (at_ + 1)) = some (.int x2)) (ic : ixD (rowD w.li) (.int (at_ + 2)) = some (.int x3))
    (hs : sm step) (h2 : sm x2) (hst : start = x2 * s + x3) :
    Res (two v d (w.fam s) start step) (loopS (bNm 5) gL [.int d, .int (v - d)] [si v, si d, si s, some (.val (rowD w.li)), si at_, x5, x6, x7]) (fun ρ => ∃ y5 y6 y7, ρ = [si v, si d, si s, some (.val (rowD w.li)), si at_, y5, y6, y7]) := by
  have st : ∀ (goal : Int) (x6 x7 : Option Sl), Res (tryL v (w.fam s) goal start step) (gL [si v, si d, si s, some (.val (rowD w.li)), si at_, si goal, x6, x7]) (fun ρ => ∃ y5 y6 y7, ρ = [si v, si d, si s, some (.val (rowD w.li)), si at_, y5, y6, y7]) := fun goal x6 x7 => by
    obtain ⟨k1, k2⟩ := ev_try (v := v) (d := d) (s := s) (goal := goal) (x6 := x6) (x7 := x7) ht i0 i1 ia ib ic hs h2 hst
    exact ⟨k1, fun e => by
      obtain ⟨y6, y7, q⟩ := k2 e
      exact ⟨_, q, _, y6, y7, rfl⟩⟩
  show Res (orE (tryL v (w.fam s) d start step) (tryL v (w.fam s) (v - d) start step)) _ _
  refine res_cons (ρ1 := [si v, si d, si s, some (.val (rowD w.li)), si at_, si d, x6, x7]) (by rfl) (st d x6 x7) fun ρ' ⟨y5, y6, y7, e⟩ => ?_
  subst e
  exact res_o (res_cons (ρ1 := [si v, si d, si s, some (.val (rowD w.li)), si at_, si (v - d), y6, y7]) (by rfl) (st (v - d) y6 y7) fun ρ' i => res_nil i)
def gM : SX := (sFor (iV seqI (eLst [(eVar 1), (eB subD (eVar 0) (eVar 1))])) (bNm 5)
  (sSeq (sSet 6 (eB subD (eB subD (eVar 5) (eB mulD (eB ixD (eVar 3) (eB addD (eVar 4) (eC (.int 1)))) (eVar 2))) (eB ixD (eVar 3) (eB addD (eVar 4) (eC (.int 2))))))
  (sSeq (sSet 7 (eB ixD (eVar 3) (eC (.int 0))))
  (sSeq (sIf (eB neD (eB ixD (eVar 3) (eVar 4)) (eC (.int 0)))
  (sSet 7 (eB fdivD (eVar 6) (eB ixD (eVar 3) (eVar 4)))) sNil)
  (sIf (eAnd (eB eqD (eVar 6) (eB mulD (eB ixD (eVar 3) (eVar 4)) (eVar 7))) (eChain leD leD (eB ixD (eVar 3) (eC (.int 0))) (eVar 7) (eB addD (eVar 2) (eB ixD (eVar 3) (eC (.int 1))))))
  (sRet (eFn m__law_triple [(eVar 0), (eVar 3), (eVar 7)])) sNil)))))
theorem gM_ev {at_ x2 x3 step start : Int} {x5 x6 x7 : Option Sl}
    (i0 : ixD (rowD w.li) (.int 0) = some (.int w.l)) (i1 : ixD (rowD w.li) (.int 1) = some (.int w.h)) (ia : ixD (rowD w.li) (.int at_) = some (.int step)) (ib : ixD (rowD w.li) (.int (at_ + 1)) = some (.int x2)) (ic : ixD (rowD w.li) (.int (at_ + 2)) = some (.int x3))
    (hs : sm step) (h2 : sm x2) (hst : start = x2 * s + x3) :
    Res (two v d (w.fam s) start step) (gM [si v, si d, si s, some (.val (rowD w.li)), si at_, x5, x6, x7]) (fun ρ => ∃ y4 y5 y6 y7, ρ = [si v, si d, si s, some (.val (rowD w.li)), y4, y5, y6, y7]) := by
  have e : gM [si v, si d, si s, some (.val (rowD w.li)), si at_, x5, x6, x7] = loopS (bNm 5) gL [.int d, .int (v - d)] [si v, si d, si s, some (.val (rowD w.li)), si at_, x5, x6, x7] := rfl
  rw [e]
  obtain ⟨k1, k2⟩ := two_ev (v := v) (d := d) ht (x5 := x5) (x6 := x6) (x7 := x7) i0 i1 ia ib ic hs h2 hst
  exact ⟨k1, fun q => by
    obtain ⟨ρ', e1, y5, y6, y7, e2⟩ := k2 q
    exact ⟨ρ', e1, _, y5, y6, y7, e2⟩⟩
def gN : SX := (sFor (iV seqI (eLst [(eC (.int 2)), (eC (.int 5)), (eC (.int 8))])) (bNm 4)
  (sFor (iV seqI (eLst [(eVar 1), (eB subD (eVar 0) (eVar 1))])) (bNm 5)
  (sSeq (sSet 6 (eB subD (eB subD (eVar 5) (eB mulD (eB ixD (eVar 3) (eB addD (eVar 4) (eC (.int 1)))) (eVar 2))) (eB ixD (eVar 3) (eB addD (eVar 4) (eC (.int 2))))))
  (sSeq (sSet 7 (eB ixD (eVar 3) (eC (.int 0))))
  (sSeq (sIf (eB neD (eB ixD (eVar 3) (eVar 4)) (eC (.int 0)))
  (sSet 7 (eB fdivD (eVar 6) (eB ixD (eVar 3) (eVar 4)))) sNil)
  (sIf (eAnd (eB eqD (eVar 6) (eB mulD (eB ixD (eVar 3) (eVar 4)) (eVar 7))) (eChain leD leD (eB ixD (eVar 3) (eC (.int 0))) (eVar 7) (eB addD (eVar 2) (eB ixD (eVar 3) (eC (.int 1))))))
  (sRet (eFn m__law_triple [(eVar 0), (eVar 3), (eVar 7)])) sNil))))))
theorem gN_ev (o : w.Ok) {x4 x5 x6 x7 : Option Sl} :
    Res (findF v d (w.fam s)) (gN [si v, si d, si s, some (.val (rowD w.li)), x4, x5, x6, x7]) (fun ρ => ∃ y3 y4 y5 y6 y7, ρ = [si v, si d, si s, y3, y4, y5, y6, y7]) := by
  have e : gN [si v, si d, si s, some (.val (rowD w.li)), x4, x5, x6, x7] = loopS (bNm 4) gM [.int 2, .int 5, .int 8] [si v, si d, si s, some (.val (rowD w.li)), x4, x5, x6, x7] := rfl
  rw [e]
  show Res (orE (two v d (w.fam s) (w.fam s).A (w.fam s).α) (orE (two v d (w.fam s) (w.fam s).B (w.fam s).β) (two v d (w.fam s) (w.fam s).C (w.fam s).γ))) _ _
  refine res_cons (ρ1 := [si v, si d, si s, some (.val (rowD w.li)), si 2, x5, x6, x7]) (by rfl) (gM_ev (x2 := w.a2) (x3 := w.a3) ht rfl rfl rfl rfl rfl o.a1 o.a2 rfl) fun ρ' ⟨y4, y5, y6, y7, e1⟩ => ?_
  subst e1
  refine res_cons (ρ1 := [si v, si d, si s, some (.val (rowD w.li)), si 5, y5, y6, y7]) (by rfl) (gM_ev (x2 := w.b2) (x3 := w.b3) ht rfl rfl rfl rfl rfl o.b1 o.b2 rfl) fun ρ' ⟨z4, z5, z6, z7, e1⟩ => ?_
  subst e1
  refine res_o (res_cons (ρ1 := [si v, si d, si s, some (.val (rowD w.li)), si 8, z5, z6, z7]) (by rfl) (gM_ev (x2 := w.c2) (x3 := w.c3) ht rfl rfl rfl rfl rfl o.c1 o.c2 rfl) fun ρ' ⟨u4, u5, u6, u7, e1⟩ => ?_)
  subst e1
  exact res_nil ⟨_, _, _, _, _, rfl⟩
end
theorem rows_ev {v d s : Int} : ∀ (ws : List Row) (x3 x4 x5 x6 x7 : Option Sl), (∀ w ∈ ws, w.Ok ∧ ∀ r, m__law_triple [.int v, rowD w.li, .int r] = .ok (t3D (tri v (w.fam s) r))) →
    Res (find v d (ws.map (Row.fam · s))) (loopS (bNm 3) gN (ws.map fun w => rowD w.li) [si v, si d, si s, x3, x4, x5, x6, x7]) (fun _ => True)
  | [], _, _, _, _, _, _ => res_nil trivial
  | w :: ws, x3, x4, x5, x6, x7, ok => by
    obtain ⟨o, ht⟩ := ok w List.mem_cons_self
    show Res (orE (findF v d (w.fam s)) (find v d (ws.map (Row.fam · s)))) (loopS (bNm 3) gN (rowD w.li :: ws.map fun w => rowD w.li) _) _
    refine res_cons (ρ1 := [si v, si d, si s, some (.val (rowD w.li)), x4, x5, x6, x7]) (by rfl) (gN_ev (d := d) ht o) fun ρ' ⟨y3, y4, y5, y6, y7, e⟩ => ?_
    subst e
    exact rows_ev ws y3 y4 y5 y6 y7 fun u hu => ok u (List.mem_cons_of_mem _ hu)
theorem b_find_eq : b__law_find = sSeq (sSet 2 (eB fdivD (eVar 0) (eC (.int 18)))) (sSeq (sFor (iV seqI (eFn m__law_table [(eVar 0)])) (bNm 3) gN) (sRet (eTup [(eC (.int 0)), (eC (.int 0)), (eC (.int 0))]))) := rfl
def orZ (o : Option T3) : T3 := o.getD (0, 0, 0)
theorem ev_find {v d : Int} {ws : List Row} (ok : ∀ w ∈ ws, w.Ok) (hv : v % 2 = 1) (htab : m__law_table [.int v] = .ok (.lst (ws.map fun w => rowD w.li))) :
    m__law_find [.int v, .int d] = .ok (t3D (orZ (find v d (ws.map (Row.fam · (v.fdiv 18)))))) := by
  obtain ⟨k1, k2⟩ := rows_ev (v := v) (d := d) (s := v.fdiv 18) ws none none none none none fun w hw => ⟨ok w hw, fun r => ev_triple (ok w hw) hv⟩
  have dv : divOk v 18 = true := rfl
  unfold m__law_find
  rw [b_find_eq]
  cases q : find v d (ws.map (Row.fam · (v.fdiv 18))) with
  | some t =>
    obtain ⟨ρ', e⟩ := k1 t q
    simp [runS, endR, envOf, sSeq, sSet, sIf, sRet, sRetN, sEx, sNil, sRaise, sUn, evs, Rs.then, Rs.bind, eB, eC, eVar, eCall, eTup, eLst, eFn, eNot, eAnd, eOr, eIf, eChain, e1, negD, addD, subD, mulD, fdivD, modD, powD, cmpI, eqD, neD, eqB, scalD, eqF, inD, ninD, inB, flat, truth, intD, lenD, minD, divmodD, bNm, bTp, bAll, dv, sFor, iV, iB, seqI, htab, List.replicate, e, orZ]
  | none =>
    obtain ⟨ρ', e, _⟩ := k2 q
    simp [runS, endR, envOf, sSeq, sSet, sIf, sRet, sRetN, sEx, sNil, sRaise, sUn, evs, Rs.then, Rs.bind, eB, eC, eVar, eCall, eTup, eLst, eFn, eNot, eAnd, eOr, eIf, eChain, e1, negD, addD, subD, mulD, fdivD, modD, powD, cmpI, eqD, neD, eqB, scalD, eqF, inD, ninD, inB, flat, truth, intD, lenD, minD, divmodD, bNm, bTp, bAll, dv, sFor, iV, iB, seqI, htab, List.replicate, e, orZ, t3D]
end K39

/-! What the defs answer. -/
namespace K39
open PySem MB
theorem k_tuple_tuple : L2.kitB "tuple" "tuple" = some true := by decide +kernel
theorem k_tuple_list : L2.kitB "tuple" "list" = some false := by decide +kernel
theorem k_int_tuple : L2.kitB "int" "tuple" = some false := by decide +kernel
theorem k_int_list : L2.kitB "int" "list" = some false := by decide +kernel
theorem k_int_bool : L2.kitB "int" "bool" = some false := by decide +kernel
theorem k_int_int : L2.kitB "int" "int" = some true := by decide +kernel
theorem k_str_tuple : L2.kitB "str" "tuple" = some false := by decide +kernel
theorem k_str_list : L2.kitB "str" "list" = some false := by decide +kernel
theorem k_str_bool : L2.kitB "str" "bool" = some false := by decide +kernel
theorem k_str_int : L2.kitB "str" "int" = some false := by decide +kernel
theorem k_str_str : L2.kitB "str" "str" = some true := by decide +kernel
theorem fm {a b : Int} (h : 0 ≤ b) : a.fmod b = a % b := Int.fmod_eq_emod_of_nonneg a h
theorem fd {a b : Int} (h : 0 ≤ b) : a.fdiv b = a / b := Int.fdiv_eq_ediv_of_nonneg a h
def ring (v : Int) : Prop := (v % 6 = 1 ∨ v % 6 = 3) ∧ v ≠ 9
theorem ev_ring {v : Int} (h : ring v) : m_is_ring [.int v] = .ok (.bl true) := by
  obtain ⟨h1, h2⟩ := h
  have q2 : (v == 9) = false := by simpa using h2
  rcases h1 with h1 | h1 <;> simp [m_is_ring, b_is_ring, runS, endR, envOf, sSeq, sSet, sIf, sRet, sRetN, sEx, sNil, sRaise, sUn, evs, Rs.then, Rs.bind, eB, eC, eVar, eCall, eTup, eLst, eFn, eNot, eAnd, eOr, eIf, eChain, e1, negD, addD, subD, mulD, fdivD, modD, powD, cmpI, eqD, neD, eqB, scalD, eqF, inD, ninD, inB, flat, truth, intD, lenD, minD, divmodD, bNm, bTp, bAll, mulOk, divOk, fm, h1, q2]
theorem ev_noring {v : Int} (h : ¬ ring v) : m_is_ring [.int v] = .ok (.bl false) := by
  by_cases k : v % 6 = 1 ∨ v % 6 = 3
  · have q2 : v = 9 := Decidable.byContradiction fun z => h ⟨k, z⟩
    subst q2
    rfl
  · have q1 : ¬ v % 6 = 1 := fun z => k (.inl z)
    have q3 : ¬ v % 6 = 3 := fun z => k (.inr z)
    have p1 : (1 == v % 6) = false := by simpa using fun z => q1 z.symm
    have p3 : (3 == v % 6) = false := by simpa using fun z => q3 z.symm
    simp [m_is_ring, b_is_ring, runS, endR, envOf, sSeq, sSet, sIf, sRet, sRetN, sEx, sNil, sRaise, sUn, evs, Rs.then, Rs.bind, eB, eC, eVar, eCall, eTup, eLst, eFn, eNot, eAnd, eOr, eIf, eChain, e1, negD, addD, subD, mulD, fdivD, modD, powD, cmpI, eqD, neD, eqB, scalD, eqF, inD, ninD, inB, flat, truth, intD, lenD, minD, divmodD, bNm, bTp, bAll, mulOk, divOk, fm, p1, p3]
def top60 : Int := 1000000000000000000000000000000000000000000000000000000000000
def numE (n : Int) : Ex := ⟨"NumberError", [("number", .int n)]⟩
def kindE (x : Str) : Ex := ⟨"KindError", [("what", .str x)]⟩
theorem b_diff_eq : b_difference_triple = sSeq (sEx (eFn m_look_number [(eVar 0), (eC dc_LEAST), (eC dc_MOST)])) (sSeq (sEx (eFn m_look_number [(eVar 1), (eC (.int 1)), (eB fdivD (eB subD (eVar 0) (eC (.int 1))) (eC (.int 2)))])) (sSeq (sIf (eNot (eFn m_is_ring [(eVar 0)])) (sRaise "KindError" ["what"] [(eC (.str "ring"))]) sNil) (sRet (eFn m_found_triple [(eVar 0), (eVar 1)])))) := rfl
theorem ev_diffA {v d : Int} (h : v < 7) : m_difference_triple [.int v, .int d] = .err (numE v) := by
  have l1 := ev_look_bad (n := v) (lo := 7) (hi := top60) (.inl h)
  unfold top60 at l1
  simp [m_difference_triple, b_difference_triple, runS, endR, envOf, sSeq, sSet, sIf, sRet, sRetN, sEx, sNil, sRaise, sUn, evs, Rs.then, Rs.bind, eB, eC, eVar, eCall, eTup, eLst, eFn, eNot, eAnd, eOr, eIf, eChain, e1, negD, addD, subD, mulD, fdivD, modD, powD, cmpI, eqD, neD, eqB, scalD, eqF, inD, ninD, inB, flat, truth, intD, lenD, minD, divmodD, bNm, bTp, bAll, mulOk, divOk, dc_LEAST, dc_MOST, l1, numE]
theorem ev_diffB {v d : Int} (h7 : 7 ≤ v) (ht : v ≤ top60) (h : d < 1 ∨ (v - 1) / 2 < d) : m_difference_triple [.int v, .int d] = .err (numE d) := by
  have l1 := ev_look_ok (n := v) (lo := 7) (hi := top60) h7 ht
  have l2 := ev_look_bad (n := d) (lo := 1) (hi := (v - 1) / 2) h
  unfold top60 at l1
  simp [m_difference_triple, b_difference_triple, runS, endR, envOf, sSeq, sSet, sIf, sRet, sRetN, sEx, sNil, sRaise, sUn, evs, Rs.then, Rs.bind, eB, eC, eVar, eCall, eTup, eLst, eFn, eNot, eAnd, eOr, eIf, eChain, e1, negD, addD, subD, mulD, fdivD, modD, powD, cmpI, eqD, neD, eqB, scalD, eqF, inD, ninD, inB, flat, truth, intD, lenD, minD, divmodD, bNm, bTp, bAll, mulOk, divOk, dc_LEAST, dc_MOST, l1, l2, numE, fd]
theorem ev_diffC {v d : Int} (h7 : 7 ≤ v) (ht : v ≤ top60) (h1 : 1 ≤ d) (h2 : d ≤ (v - 1) / 2) (h : ¬ ring v) : m_difference_triple [.int v, .int d] = .err (kindE "ring") := by
  have l1 := ev_look_ok (n := v) (lo := 7) (hi := top60) h7 ht
  have l2 := ev_look_ok (n := d) (lo := 1) (hi := (v - 1) / 2) h1 h2
  have l3 := ev_noring h
  unfold top60 at l1
  simp [m_difference_triple, b_difference_triple, runS, endR, envOf, sSeq, sSet, sIf, sRet, sRetN, sEx, sNil, sRaise, sUn, evs, Rs.then, Rs.bind, eB, eC, eVar, eCall, eTup, eLst, eFn, eNot, eAnd, eOr, eIf, eChain, e1, negD, addD, subD, mulD, fdivD, modD, powD, cmpI, eqD, neD, eqB, scalD, eqF, inD, ninD, inB, flat, truth, intD, lenD, minD, divmodD, bNm, bTp, bAll, mulOk, divOk, dc_LEAST, dc_MOST, l1, l2, l3, kindE, fd]
theorem ev_diffD {v d : Int} {t : T3} (h7 : 7 ≤ v) (ht : v ≤ top60) (h1 : 1 ≤ d) (h2 : d ≤ (v - 1) / 2) (h : ring v) (hf : m_found_triple [.int v, .int d] = .ok (t3D t)) : m_difference_triple [.int v, .int d] = .ok (t3D t) := by
  have l1 := ev_look_ok (n := v) (lo := 7) (hi := top60) h7 ht
  have l2 := ev_look_ok (n := d) (lo := 1) (hi := (v - 1) / 2) h1 h2
  have l3 := ev_ring h
  unfold top60 at l1
  simp [m_difference_triple, b_difference_triple, runS, endR, envOf, sSeq, sSet, sIf, sRet, sRetN, sEx, sNil, sRaise, sUn, evs, Rs.then, Rs.bind, eB, eC, eVar, eCall, eTup, eLst, eFn, eNot, eAnd, eOr, eIf, eChain, e1, negD, addD, subD, mulD, fdivD, modD, powD, cmpI, eqD, neD, eqB, scalD, eqF, inD, ninD, inB, flat, truth, intD, lenD, minD, divmodD, bNm, bTp, bAll, mulOk, divOk, dc_LEAST, dc_MOST, l1, l2, l3, fd, hf]
theorem ev_diffE {v d : Int} (h7 : 7 ≤ v) (ht : v ≤ top60) (h1 : 1 ≤ d) (h2 : d ≤ (v - 1) / 2) (h : ring v) (hf : m_found_triple [.int v, .int d] = .err (kindE "short")) : m_difference_triple [.int v, .int d] = .err (kindE "short") := by
  have l1 := ev_look_ok (n := v) (lo := 7) (hi := top60) h7 ht
  have l2 := ev_look_ok (n := d) (lo := 1) (hi := (v - 1) / 2) h1 h2
  have l3 := ev_ring h
  unfold top60 at l1
  simp [m_difference_triple, b_difference_triple, runS, endR, envOf, sSeq, sSet, sIf, sRet, sRetN, sEx, sNil, sRaise, sUn, evs, Rs.then, Rs.bind, eB, eC, eVar, eCall, eTup, eLst, eFn, eNot, eAnd, eOr, eIf, eChain, e1, negD, addD, subD, mulD, fdivD, modD, powD, cmpI, eqD, neD, eqB, scalD, eqF, inD, ninD, inB, flat, truth, intD, lenD, minD, divmodD, bNm, bTp, bAll, mulOk, divOk, dc_LEAST, dc_MOST, l1, l2, l3, fd, hf]
theorem ev_errN (n : Int) : m__law_error (numE n) = .ok (.tup [.str "NumberError", .int n]) := rfl
theorem ev_errK (x : Str) : m__law_error (kindE x) = .ok (.tup [.str "KindError", .str x]) := rfl
theorem ev_ask_ok {v d : Int} {t : D} (h : m_difference_triple [.int v, .int d] = .ok t) : m__law_ask [.int v, .int d] = .ok (.tup [.str "told", t]) := by
  simp [m__law_ask, b__law_ask, runS, endR, envOf, sSeq, sSet, sIf, sRet, sRetN, sEx, sNil, sRaise, sUn, evs, Rs.then, Rs.bind, eB, eC, eVar, eCall, eTup, eLst, eFn, eNot, eAnd, eOr, eIf, eChain, e1, negD, addD, subD, mulD, fdivD, modD, powD, cmpI, eqD, neD, eqB, scalD, eqF, inD, ninD, inB, flat, truth, intD, lenD, minD, divmodD, bNm, bTp, bAll, mulOk, divOk, eIsT, MB.isT, tyName, k_tuple_tuple, k_tuple_list, k_int_tuple, k_int_list, k_int_bool, k_int_int, k_str_tuple, k_str_list, k_str_bool, k_str_int, k_str_str, eComp, iR1, iR2, iB, iV, seqI, big, rangeL, compL, allD, asBools, wipeE, backE, notOwn, sTry, eFnE, noExc, List.replicate, h]
theorem ev_ask_N {v d n : Int} (h : m_difference_triple [.int v, .int d] = .err (numE n)) : m__law_ask [.int v, .int d] = .ok (.tup [.str "NumberError", .int n]) := by
  have q : isX xs "MadeError" (numE n).c = some true := rfl
  simp [m__law_ask, b__law_ask, runS, endR, envOf, sSeq, sSet, sIf, sRet, sRetN, sEx, sNil, sRaise, sUn, evs, Rs.then, Rs.bind, eB, eC, eVar, eCall, eTup, eLst, eFn, eNot, eAnd, eOr, eIf, eChain, e1, negD, addD, subD, mulD, fdivD, modD, powD, cmpI, eqD, neD, eqB, scalD, eqF, inD, ninD, inB, flat, truth, intD, lenD, minD, divmodD, bNm, bTp, bAll, mulOk, divOk, eIsT, MB.isT, tyName, k_tuple_tuple, k_tuple_list, k_int_tuple, k_int_list, k_int_bool, k_int_int, k_str_tuple, k_str_list, k_str_bool, k_str_int, k_str_str, eComp, iR1, iR2, iB, iV, seqI, big, rangeL, compL, allD, asBools, wipeE, backE, notOwn, sTry, eFnE, noExc, List.replicate, h, q, ev_errN]
theorem ev_ask_K {v d : Int} {x : Str} (h : m_difference_triple [.int v, .int d] = .err (kindE x)) : m__law_ask [.int v, .int d] = .ok (.tup [.str "KindError", .str x]) := by
  have q : isX xs "MadeError" (kindE x).c = some true := rfl
  simp [m__law_ask, b__law_ask, runS, endR, envOf, sSeq, sSet, sIf, sRet, sRetN, sEx, sNil, sRaise, sUn, evs, Rs.then, Rs.bind, eB, eC, eVar, eCall, eTup, eLst, eFn, eNot, eAnd, eOr, eIf, eChain, e1, negD, addD, subD, mulD, fdivD, modD, powD, cmpI, eqD, neD, eqB, scalD, eqF, inD, ninD, inB, flat, truth, intD, lenD, minD, divmodD, bNm, bTp, bAll, mulOk, divOk, eIsT, MB.isT, tyName, k_tuple_tuple, k_tuple_list, k_int_tuple, k_int_list, k_int_bool, k_int_int, k_str_tuple, k_str_list, k_str_bool, k_str_int, k_str_str, eComp, iR1, iR2, iB, iV, seqI, big, rangeL, compL, allD, asBools, wipeE, backE, notOwn, sTry, eFnE, noExc, List.replicate, h, q, ev_errK]
theorem like_int (k : Nat) (n : Int) : m__law_like (k + 1) [.int n, .int n] = .ok (.bl true) := by
  simp [m__law_like, b__law_like, runS, endR, envOf, sSeq, sSet, sIf, sRet, sRetN, sEx, sNil, sRaise, sUn, evs, Rs.then, Rs.bind, eB, eC, eVar, eCall, eTup, eLst, eFn, eNot, eAnd, eOr, eIf, eChain, e1, negD, addD, subD, mulD, fdivD, modD, powD, cmpI, eqD, neD, eqB, scalD, eqF, inD, ninD, inB, flat, truth, intD, lenD, minD, divmodD, bNm, bTp, bAll, mulOk, divOk, eIsT, MB.isT, tyName, k_tuple_tuple, k_tuple_list, k_int_tuple, k_int_list, k_int_bool, k_int_int, k_str_tuple, k_str_list, k_str_bool, k_str_int, k_str_str, eComp, iR1, iR2, iB, iV, seqI, big, rangeL, compL, allD, asBools, wipeE, backE, notOwn, sTry, eFnE, noExc, List.replicate]
theorem like_str (k : Nat) (x : Str) : m__law_like (k + 1) [.str x, .str x] = .ok (.bl true) := by
  simp [m__law_like, b__law_like, runS, endR, envOf, sSeq, sSet, sIf, sRet, sRetN, sEx, sNil, sRaise, sUn, evs, Rs.then, Rs.bind, eB, eC, eVar, eCall, eTup, eLst, eFn, eNot, eAnd, eOr, eIf, eChain, e1, negD, addD, subD, mulD, fdivD, modD, powD, cmpI, eqD, neD, eqB, scalD, eqF, inD, ninD, inB, flat, truth, intD, lenD, minD, divmodD, bNm, bTp, bAll, mulOk, divOk, eIsT, MB.isT, tyName, k_tuple_tuple, k_tuple_list, k_int_tuple, k_int_list, k_int_bool, k_int_int, k_str_tuple, k_str_list, k_str_bool, k_str_int, k_str_str, eComp, iR1, iR2, iB, iV, seqI, big, rangeL, compL, allD, asBools, wipeE, backE, notOwn, sTry, eFnE, noExc, List.replicate]
theorem like_two (k : Nat) (a b : D) (ha : m__law_like (k + 1) [a, a] = .ok (.bl true)) (hb : m__law_like (k + 1) [b, b] = .ok (.bl true)) : m__law_like (k + 2) [.tup [a, b], .tup [a, b]] = .ok (.bl true) := by
  rw [m__law_like]
  simp [b__law_like, runS, endR, envOf, sSeq, sSet, sIf, sRet, sRetN, sEx, sNil, sRaise, sUn, evs, Rs.then, Rs.bind, eB, eC, eVar, eCall, eTup, eLst, eFn, eNot, eAnd, eOr, eIf, eChain, e1, negD, addD, subD, mulD, fdivD, modD, powD, cmpI, eqD, neD, eqB, scalD, eqF, inD, ninD, inB, flat, truth, intD, lenD, minD, divmodD, bNm, bTp, bAll, mulOk, divOk, eIsT, MB.isT, tyName, k_tuple_tuple, k_tuple_list, k_int_tuple, k_int_list, k_int_bool, k_int_int, k_str_tuple, k_str_list, k_str_bool, k_str_int, k_str_str, eComp, iR1, iR2, iB, iV, seqI, big, rangeL, compL, allD, asBools, wipeE, backE, notOwn, sTry, eFnE, noExc, List.replicate, ixD, L2.atI, L2.ixN, List.range_succ, ha, hb]
theorem like_three (k : Nat) (a b c : D) (ha : m__law_like (k + 1) [a, a] = .ok (.bl true)) (hb : m__law_like (k + 1) [b, b] = .ok (.bl true)) (hc : m__law_like (k + 1) [c, c] = .ok (.bl true)) : m__law_like (k + 2) [.tup [a, b, c], .tup [a, b, c]] = .ok (.bl true) := by
  rw [m__law_like]
  simp [b__law_like, runS, endR, envOf, sSeq, sSet, sIf, sRet, sRetN, sEx, sNil, sRaise, sUn, evs, Rs.then, Rs.bind, eB, eC, eVar, eCall, eTup, eLst, eFn, eNot, eAnd, eOr, eIf, eChain, e1, negD, addD, subD, mulD, fdivD, modD, powD, cmpI, eqD, neD, eqB, scalD, eqF, inD, ninD, inB, flat, truth, intD, lenD, minD, divmodD, bNm, bTp, bAll, mulOk, divOk, eIsT, MB.isT, tyName, k_tuple_tuple, k_tuple_list, k_int_tuple, k_int_list, k_int_bool, k_int_int, k_str_tuple, k_str_list, k_str_bool, k_str_int, k_str_str, eComp, iR1, iR2, iB, iV, seqI, big, rangeL, compL, allD, asBools, wipeE, backE, notOwn, sTry, eFnE, noExc, List.replicate, ixD, L2.atI, L2.ixN, List.range_succ, ha, hb, hc]
theorem like_told (t : T3) : m__law_like 5 [.tup [.str "told", t3D t], .tup [.str "told", t3D t]] = .ok (.bl true) :=
  like_two 3 _ _ (like_str _ _) (like_three 2 _ _ _ (like_int _ _) (like_int _ _) (like_int _ _))
end K39

/-! What the defs answer. -/
namespace K39
open PySem MB
def W1 : List Row := [⟨0, 0, 0, 3, 0, 0, 3, 1, 0, 6, 1⟩, ⟨0, -1, 3, 0, 1, -1, 4, 1, 2, 4, 2⟩, ⟨0, -1, 3, 0, 2, -1, 8, 0, 2, 8, 2⟩, ⟨0, -2, 3, 0, 3, -2, 6, -1, 1, 6, 2⟩]
theorem okW1 : ∀ w ∈ W1, w.Ok := by
  intro w hw
  simp only [W1, List.mem_cons, List.not_mem_nil, or_false] at hw
  rcases hw with rfl | rfl | rfl | rfl <;> exact ⟨by unfold sm; decide, by unfold sm; decide, by unfold sm; decide, by unfold sm; decide, by unfold sm; decide, by unfold sm; decide⟩
def W3 : List Row := [⟨0, -1, 3, 0, 1, -1, 8, 1, 2, 8, 2⟩, ⟨0, -1, 3, 0, 2, -1, 4, 0, 2, 4, 2⟩, ⟨0, -1, 3, 0, 3, -2, 6, -1, 1, 6, 2⟩]
theorem okW3 : ∀ w ∈ W3, w.Ok := by
  intro w hw
  simp only [W3, List.mem_cons, List.not_mem_nil, or_false] at hw
  rcases hw with rfl | rfl | rfl <;> exact ⟨by unfold sm; decide, by unfold sm; decide, by unfold sm; decide, by unfold sm; decide, by unfold sm; decide, by unfold sm; decide⟩
def W7 : List Row := [⟨0, 0, 0, 3, 1, 0, 4, 2, 0, 7, 3⟩, ⟨0, -1, 3, 0, 1, -1, 8, 3, 2, 8, 4⟩, ⟨0, -1, 3, 0, 2, -2, 6, 1, 1, 6, 3⟩, ⟨0, -1, 3, 0, 3, -1, 4, 1, 2, 4, 4⟩]
theorem okW7 : ∀ w ∈ W7, w.Ok := by
  intro w hw
  simp only [W7, List.mem_cons, List.not_mem_nil, or_false] at hw
  rcases hw with rfl | rfl | rfl | rfl <;> exact ⟨by unfold sm; decide, by unfold sm; decide, by unfold sm; decide, by unfold sm; decide, by unfold sm; decide, by unfold sm; decide⟩
def W9 : List Row := [⟨0, 0, 3, 0, 1, -1, 4, 3, 2, 4, 4⟩, ⟨2, -2, 3, 0, 2, -1, 8, 2, 2, 8, 4⟩, ⟨1, -2, 3, 0, 3, -2, 6, 1, 1, 6, 4⟩, ⟨0, 0, 0, 0, 2, 0, 8, 3, 0, 8, 5⟩, ⟨0, 0, 0, 0, 3, 0, 8, 1, 0, 8, 4⟩, ⟨0, 0, 0, 0, 5, 0, 8, 2, 0, 8, 7⟩, ⟨0, 0, 0, 3, -1, 0, 3, 2, 0, 6, 1⟩, ⟨0, 0, 0, 3, 0, 0, 7, 3, 0, 8, 6⟩]
theorem okW9 : ∀ w ∈ W9, w.Ok := by
  intro w hw
  simp only [W9, List.mem_cons, List.not_mem_nil, or_false] at hw
  rcases hw with rfl | rfl | rfl | rfl | rfl | rfl | rfl | rfl <;> exact ⟨by unfold sm; decide, by unfold sm; decide, by unfold sm; decide, by unfold sm; decide, by unfold sm; decide, by unfold sm; decide⟩
def W13 : List Row := [⟨0, 0, 0, 3, 2, 0, 7, 5, 0, 8, 6⟩, ⟨0, -1, 3, 0, 2, -2, 6, 3, 1, 6, 5⟩, ⟨0, -1, 3, 0, 3, -1, 8, 5, 2, 8, 8⟩, ⟨0, 0, 3, 0, 1, -1, 4, 3, 2, 4, 4⟩]
theorem okW13 : ∀ w ∈ W13, w.Ok := by
  intro w hw
  simp only [W13, List.mem_cons, List.not_mem_nil, or_false] at hw
  rcases hw with rfl | rfl | rfl | rfl <;> exact ⟨by unfold sm; decide, by unfold sm; decide, by unfold sm; decide, by unfold sm; decide, by unfold sm; decide, by unfold sm; decide⟩
def W15 : List Row := [⟨0, 0, 3, 0, 1, -1, 4, 3, 2, 4, 4⟩, ⟨0, 0, 3, 0, 2, -1, 8, 6, 2, 8, 8⟩, ⟨0, -1, 3, 0, 3, -2, 6, 3, 1, 6, 6⟩]
theorem okW15 : ∀ w ∈ W15, w.Ok := by
  intro w hw
  simp only [W15, List.mem_cons, List.not_mem_nil, or_false] at hw
  rcases hw with rfl | rfl | rfl <;> exact ⟨by unfold sm; decide, by unfold sm; decide, by unfold sm; decide, by unfold sm; decide, by unfold sm; decide, by unfold sm; decide⟩
def W27 : List Row := [⟨0, 0, 0, 0, 1, 0, 0, 12, 0, 0, 13⟩, ⟨0, 0, 0, 0, 2, 0, 0, 5, 0, 0, 7⟩, ⟨0, 0, 0, 0, 3, 0, 0, 8, 0, 0, 11⟩, ⟨0, 0, 0, 0, 4, 0, 0, 6, 0, 0, 10⟩]
theorem okW27 : ∀ w ∈ W27, w.Ok := by
  intro w hw
  simp only [W27, List.mem_cons, List.not_mem_nil, or_false] at hw
  rcases hw with rfl | rfl | rfl | rfl <;> exact ⟨by unfold sm; decide, by unfold sm; decide, by unfold sm; decide, by unfold sm; decide, by unfold sm; decide, by unfold sm; decide⟩
def W45 : List Row := [⟨0, 0, 0, 0, 1, 0, 0, 11, 0, 0, 12⟩, ⟨0, 0, 0, 0, 2, 0, 0, 17, 0, 0, 19⟩, ⟨0, 0, 0, 0, 3, 0, 0, 20, 0, 0, 22⟩, ⟨0, 0, 0, 0, 4, 0, 0, 10, 0, 0, 14⟩, ⟨0, 0, 0, 0, 5, 0, 0, 8, 0, 0, 13⟩, ⟨0, 0, 0, 0, 6, 0, 0, 18, 0, 0, 21⟩, ⟨0, 0, 0, 0, 7, 0, 0, 9, 0, 0, 16⟩]
theorem okW45 : ∀ w ∈ W45, w.Ok := by
  intro w hw
  simp only [W45, List.mem_cons, List.not_mem_nil, or_false] at hw
  rcases hw with rfl | rfl | rfl | rfl | rfl | rfl | rfl <;> exact ⟨by unfold sm; decide, by unfold sm; decide, by unfold sm; decide, by unfold sm; decide, by unfold sm; decide, by unfold sm; decide⟩

structure RingOk (v : Int) : Prop where
  ex : ∃ (F : List Fam) (w0 : Row) (ws : List Row), Cls v ((v - 1) / 2) F ((w0 :: ws).map (Row.fam · (v.fdiv 18))) ∧ (∀ w ∈ w0 :: ws, w.Ok) ∧ m__law_table [.int v] = .ok (.lst ((w0 :: ws).map fun w => rowD w.li)) ∧
    (∀ d, m_found_triple [.int v, .int d] = match found v d F with
      | some t => .ok (t3D t)
      | none => .err (kindE "short")) ∧ 1 ≤ v.fdiv 18 + w0.h - w0.l + 1 ∧ (w0 :: ws).length ≤ 8
theorem ringOk {v : Int} (h7 : 7 ≤ v) (hr : ring v) : RingOk v := by
  obtain ⟨h6, h9⟩ := hr
  have hc : v % 18 = 1 ∨ v % 18 = 3 ∨ v % 18 = 7 ∨ v % 18 = 9 ∨ v % 18 = 13 ∨ v % 18 = 15 := by omega
  rcases hc with hc | hc | hc | hc | hc | hc
  · obtain ⟨s, rfl⟩ : ∃ s, v = 18 * s + 1 := ⟨v / 18, by omega⟩
    have hs : (18 * s + 1).fdiv 18 = s := by rw [fd (by decide)]; omega
    have hm : (18 * s + 1).fmod 18 = 1 := by rw [fm (by decide)]; omega
    have hh : (18 * s + 1 - 1) / 2 = 9 * s := by omega
    have hl : 1 ≤ s := by omega
    refine ⟨F1 s, _, _, ?_, okW1, ?_, fun d => ?_, ?_, by decide⟩
    · rw [hs, hh]
      exact cls1 hl
    · exact ev_tab1 hm
    · refine ev_found (nm := "_families_of_1") (by rw [hm]; rfl) rfl ?_ (okF1 s)
      rw [hs]
      exact ev_fam1 s
    · rw [hs]
      show 1 ≤ s + 0 - 0 + 1
      omega
  · obtain ⟨s, rfl⟩ : ∃ s, v = 18 * s + 3 := ⟨v / 18, by omega⟩
    have hs : (18 * s + 3).fdiv 18 = s := by rw [fd (by decide)]; omega
    have hm : (18 * s + 3).fmod 18 = 3 := by rw [fm (by decide)]; omega
    have hh : (18 * s + 3 - 1) / 2 = 9 * s + 1 := by omega
    have hl : 1 ≤ s := by omega
    refine ⟨F3 s, _, _, ?_, okW3, ?_, fun d => ?_, ?_, by decide⟩
    · rw [hs, hh]
      exact cls3 hl
    · exact ev_tab3 hm
    · refine ev_found (nm := "_families_of_3") (by rw [hm]; rfl) rfl ?_ (okF3 s)
      rw [hs]
      exact ev_fam3 s
    · rw [hs]
      show 1 ≤ s + -1 - 0 + 1
      omega
  · obtain ⟨s, rfl⟩ : ∃ s, v = 18 * s + 7 := ⟨v / 18, by omega⟩
    have hs : (18 * s + 7).fdiv 18 = s := by rw [fd (by decide)]; omega
    have hm : (18 * s + 7).fmod 18 = 7 := by rw [fm (by decide)]; omega
    have hh : (18 * s + 7 - 1) / 2 = 9 * s + 3 := by omega
    have hl : 0 ≤ s := by omega
    refine ⟨F7 s, _, _, ?_, okW7, ?_, fun d => ?_, ?_, by decide⟩
    · rw [hs, hh]
      exact cls7 hl
    · exact ev_tab7 hm
    · refine ev_found (nm := "_families_of_7") (by rw [hm]; rfl) rfl ?_ (okF7 s)
      rw [hs]
      exact ev_fam7 s
    · rw [hs]
      show 1 ≤ s + 0 - 0 + 1
      omega
  · by_cases k1 : v = 27
    · subst k1
      have c0 : Cls 27 ((27 - 1) / 2) F27 (W27.map (Row.fam · ((27 : Int).fdiv 18))) := cls27
      refine ⟨F27, _, _, c0, okW27, ev_tab27, fun d => ?_, by decide, by decide⟩
      refine ev_found (nm := "_families_of_9") rfl rfl rfl ?_
      intro f hf
      simp only [F27, List.mem_cons, List.not_mem_nil, or_false] at hf
      rcases hf with rfl | rfl | rfl | rfl <;> simp [okF, mulOkF, mulOk]
    · by_cases k2 : v = 45
      · subst k2
        have c0 : Cls 45 ((45 - 1) / 2) F45 (W45.map (Row.fam · ((45 : Int).fdiv 18))) := cls45
        refine ⟨F45, _, _, c0, okW45, ev_tab45, fun d => ?_, by decide, by decide⟩
        refine ev_found (nm := "_families_of_9") rfl rfl rfl ?_
        intro f hf
        simp only [F45, List.mem_cons, List.not_mem_nil, or_false] at hf
        rcases hf with rfl | rfl | rfl | rfl | rfl | rfl | rfl <;> simp [okF, mulOkF, mulOk]
      · skip
        obtain ⟨s, rfl⟩ : ∃ s, v = 18 * s + 9 := ⟨v / 18, by omega⟩
        have hs : (18 * s + 9).fdiv 18 = s := by rw [fd (by decide)]; omega
        have hm : (18 * s + 9).fmod 18 = 9 := by rw [fm (by decide)]; omega
        have hh : (18 * s + 9 - 1) / 2 = 9 * s + 4 := by omega
        have hl : 3 ≤ s := by omega
        refine ⟨F9 s, _, _, ?_, okW9, ?_, fun d => ?_, ?_, by decide⟩
        · rw [hs, hh]
          exact cls9 hl
        · exact ev_tab9 hm (by simp; omega) (by simp; omega)
        · refine ev_found (nm := "_families_of_9") (by rw [hm]; rfl) rfl ?_ (okF9 s)
          rw [hs]
          exact ev_fam9' s (by omega) (by omega)
        · rw [hs]
          show 1 ≤ s + 0 - 0 + 1
          omega
  · obtain ⟨s, rfl⟩ : ∃ s, v = 18 * s + 13 := ⟨v / 18, by omega⟩
    have hs : (18 * s + 13).fdiv 18 = s := by rw [fd (by decide)]; omega
    have hm : (18 * s + 13).fmod 18 = 13 := by rw [fm (by decide)]; omega
    have hh : (18 * s + 13 - 1) / 2 = 9 * s + 6 := by omega
    have hl : 0 ≤ s := by omega
    refine ⟨F13 s, _, _, ?_, okW13, ?_, fun d => ?_, ?_, by decide⟩
    · rw [hs, hh]
      exact cls13 hl
    · exact ev_tab13 hm
    · refine ev_found (nm := "_families_of_13") (by rw [hm]; rfl) rfl ?_ (okF13 s)
      rw [hs]
      exact ev_fam13 s
    · rw [hs]
      show 1 ≤ s + 0 - 0 + 1
      omega
  · obtain ⟨s, rfl⟩ : ∃ s, v = 18 * s + 15 := ⟨v / 18, by omega⟩
    have hs : (18 * s + 15).fdiv 18 = s := by rw [fd (by decide)]; omega
    have hm : (18 * s + 15).fmod 18 = 15 := by rw [fm (by decide)]; omega
    have hh : (18 * s + 15 - 1) / 2 = 9 * s + 7 := by omega
    have hl : 0 ≤ s := by omega
    refine ⟨F15 s, _, _, ?_, okW15, ?_, fun d => ?_, ?_, by decide⟩
    · rw [hs, hh]
      exact cls15 hl
    · exact ev_tab15 hm
    · refine ev_found (nm := "_families_of_15") (by rw [hm]; rfl) rfl ?_ (okF15 s)
      rw [hs]
      exact ev_fam15 s
    · rw [hs]
      show 1 ≤ s + 0 - 0 + 1
      omega

theorem ev_wantA {v d : Int} (h : v < 7) : m__law_wanted [.int v, .int d] = .ok (.tup [.str "NumberError", .int v]) := by
  simp [m__law_wanted, b__law_wanted, runS, endR, envOf, sSeq, sSet, sIf, sRet, sRetN, sEx, sNil, sRaise, sUn, evs, Rs.then, Rs.bind, eB, eC, eVar, eCall, eTup, eLst, eFn, eNot, eAnd, eOr, eIf, eChain, e1, negD, addD, subD, mulD, fdivD, modD, powD, cmpI, eqD, neD, eqB, scalD, eqF, inD, ninD, inB, flat, truth, intD, lenD, minD, divmodD, bNm, bTp, bAll, mulOk, divOk, h]
theorem ev_wantB {v d : Int} (h7 : 7 ≤ v) (h : d < 1 ∨ (v - 1) / 2 < d) : m__law_wanted [.int v, .int d] = .ok (.tup [.str "NumberError", .int d]) := by
  have h1 : ¬ v < 7 := by omega
  by_cases k : d < 1
  · simp [m__law_wanted, b__law_wanted, runS, endR, envOf, sSeq, sSet, sIf, sRet, sRetN, sEx, sNil, sRaise, sUn, evs, Rs.then, Rs.bind, eB, eC, eVar, eCall, eTup, eLst, eFn, eNot, eAnd, eOr, eIf, eChain, e1, negD, addD, subD, mulD, fdivD, modD, powD, cmpI, eqD, neD, eqB, scalD, eqF, inD, ninD, inB, flat, truth, intD, lenD, minD, divmodD, bNm, bTp, bAll, mulOk, divOk, h1, k]
  · have k2 : (v - 1) / 2 < d := by omega
    simp [m__law_wanted, b__law_wanted, runS, endR, envOf, sSeq, sSet, sIf, sRet, sRetN, sEx, sNil, sRaise, sUn, evs, Rs.then, Rs.bind, eB, eC, eVar, eCall, eTup, eLst, eFn, eNot, eAnd, eOr, eIf, eChain, e1, negD, addD, subD, mulD, fdivD, modD, powD, cmpI, eqD, neD, eqB, scalD, eqF, inD, ninD, inB, flat, truth, intD, lenD, minD, divmodD, bNm, bTp, bAll, mulOk, divOk, h1, k, k2, fd]
theorem ev_wantC {v d : Int} (h7 : 7 ≤ v) (p1 : 1 ≤ d) (p2 : d ≤ (v - 1) / 2) (h : ¬ ring v) : m__law_wanted [.int v, .int d] = .ok (.tup [.str "KindError", .str "ring"]) := by
  have h1 : ¬ v < 7 := by omega
  have h2 : ¬ d < 1 := by omega
  have h3 : ¬ (v - 1) / 2 < d := by omega
  by_cases k : v % 6 = 1 ∨ v % 6 = 3
  · have q2 : v = 9 := Decidable.byContradiction fun z => h ⟨k, z⟩
    subst q2
    rcases k with k | k
    · exact absurd k (by decide)
    · have q4 : ¬ 4 < d := by omega
      simp [m__law_wanted, b__law_wanted, runS, endR, envOf, sSeq, sSet, sIf, sRet, sRetN, sEx, sNil, sRaise, sUn, evs, Rs.then, Rs.bind, eB, eC, eVar, eCall, eTup, eLst, eFn, eNot, eAnd, eOr, eIf, eChain, e1, negD, addD, subD, mulD, fdivD, modD, powD, cmpI, eqD, neD, eqB, scalD, eqF, inD, ninD, inB, flat, truth, intD, lenD, minD, divmodD, bNm, bTp, bAll, mulOk, divOk, h2, q4, fd, fm]
  · have q1 : ¬ v % 6 = 1 := fun z => k (.inl z)
    have q3 : ¬ v % 6 = 3 := fun z => k (.inr z)
    have p1 : (1 == v % 6) = false := by simpa using fun z => q1 z.symm
    have p3 : (3 == v % 6) = false := by simpa using fun z => q3 z.symm
    simp [m__law_wanted, b__law_wanted, runS, endR, envOf, sSeq, sSet, sIf, sRet, sRetN, sEx, sNil, sRaise, sUn, evs, Rs.then, Rs.bind, eB, eC, eVar, eCall, eTup, eLst, eFn, eNot, eAnd, eOr, eIf, eChain, e1, negD, addD, subD, mulD, fdivD, modD, powD, cmpI, eqD, neD, eqB, scalD, eqF, inD, ninD, inB, flat, truth, intD, lenD, minD, divmodD, bNm, bTp, bAll, mulOk, divOk, h1, h2, h3, fd, fm, p1, p3]
theorem ev_wantD {v d : Int} {z : Rt} (h7 : 7 ≤ v) (p1 : 1 ≤ d) (p2 : d ≤ (v - 1) / 2) (h : ring v) (h3d : 3 * d = v) : m__law_wanted [.int v, .int d] = .ok (.tup [.str "KindError", .str "short"]) := by
  have h1 : ¬ v < 7 := by omega
  have h2 : ¬ d < 1 := by omega
  have h3 : ¬ (v - 1) / 2 < d := by omega
  obtain ⟨k, n9⟩ := h
  have q9 : (v == 9) = false := by simpa using n9
  have q3 : (3 * d == v) = true := by simpa using h3d
  rcases k with k | k <;> simp [m__law_wanted, b__law_wanted, runS, endR, envOf, sSeq, sSet, sIf, sRet, sRetN, sEx, sNil, sRaise, sUn, evs, Rs.then, Rs.bind, eB, eC, eVar, eCall, eTup, eLst, eFn, eNot, eAnd, eOr, eIf, eChain, e1, negD, addD, subD, mulD, fdivD, modD, powD, cmpI, eqD, neD, eqB, scalD, eqF, inD, ninD, inB, flat, truth, intD, lenD, minD, divmodD, bNm, bTp, bAll, mulOk, divOk, h1, h2, h3, fd, fm, k, q9, q3]
theorem ev_wantE {v d : Int} {t : T3} (h7 : 7 ≤ v) (p1 : 1 ≤ d) (p2 : d ≤ (v - 1) / 2) (h : ring v) (h3d : 3 * d ≠ v) (hf : m__law_find [.int v, .int d] = .ok (t3D t)) : m__law_wanted [.int v, .int d] = .ok (.tup [.str "told", t3D t]) := by
  have h1 : ¬ v < 7 := by omega
  have h2 : ¬ d < 1 := by omega
  have h3 : ¬ (v - 1) / 2 < d := by omega
  obtain ⟨k, n9⟩ := h
  have q9 : (v == 9) = false := by simpa using n9
  have q3 : (3 * d == v) = false := by simpa using h3d
  rcases k with k | k <;> simp [m__law_wanted, b__law_wanted, runS, endR, envOf, sSeq, sSet, sIf, sRet, sRetN, sEx, sNil, sRaise, sUn, evs, Rs.then, Rs.bind, eB, eC, eVar, eCall, eTup, eLst, eFn, eNot, eAnd, eOr, eIf, eChain, e1, negD, addD, subD, mulD, fdivD, modD, powD, cmpI, eqD, neD, eqB, scalD, eqF, inD, ninD, inB, flat, truth, intD, lenD, minD, divmodD, bNm, bTp, bAll, mulOk, divOk, h1, h2, h3, fd, fm, k, q9, q3, hf]
/-- what is told is what is wanted -/
theorem told_wanted {v d : Int} (ht : v ≤ top60) : ∃ x, m__law_ask [.int v, .int d] = .ok x ∧ m__law_wanted [.int v, .int d] = .ok x ∧ m__law_like 5 [x, x] = .ok (.bl true) := by
  by_cases h7 : v < 7
  · exact ⟨_, ev_ask_N (ev_diffA h7), ev_wantA h7, like_two 3 _ _ (like_str _ _) (like_int _ _)⟩
  · have h7 : 7 ≤ v := by omega
    by_cases hd : d < 1 ∨ (v - 1) / 2 < d
    · exact ⟨_, ev_ask_N (ev_diffB h7 ht hd), ev_wantB h7 hd, like_two 3 _ _ (like_str _ _) (like_int _ _)⟩
    · have p1 : 1 ≤ d := by omega
      have p2 : d ≤ (v - 1) / 2 := by omega
      by_cases hr : ring v
      · obtain ⟨F, w0, ws, c, ok, tab, fnd, _, _⟩ := (ringOk h7 hr).ex
        have hodd : v % 2 = 1 := by
          have := hr.1
          omega
        by_cases h3 : 3 * d = v
        · have e := fnd d
          rw [c.short h3] at e
          exact ⟨_, ev_ask_K (ev_diffE h7 ht p1 p2 hr e), ev_wantD (z := .stuck) h7 p1 p2 hr h3, like_two 3 _ _ (like_str _ _) (like_str _ _)⟩
        · obtain ⟨t, e1, e2⟩ := c.same p1 p2 h3
          have e := fnd d
          rw [e1] at e
          have f := ev_find (d := d) ok hodd tab
          rw [e2] at f
          exact ⟨_, ev_ask_ok (ev_diffD h7 ht p1 p2 hr e), ev_wantE h7 p1 p2 hr h3 f, like_told t⟩
      · exact ⟨_, ev_ask_K (ev_diffC h7 ht p1 p2 hr), ev_wantC h7 p1 p2 hr, like_two 3 _ _ (like_str _ _) (like_str _ _)⟩
end K39

/-! What the defs answer. -/
namespace K39
open PySem MB
theorem atI_nn {α : Type} {xs : List α} {i : Int} (h0 : 0 ≤ i) (h1 : i < xs.length) : ∃ x, L2.atI xs i = some x ∧ xs[i.toNat]? = some x := by
  have hl : i.toNat < xs.length := by omega
  refine ⟨xs[i.toNat], ?_, List.getElem?_eq_getElem hl⟩
  unfold L2.atI L2.ixN
  rw [if_pos h0, if_pos h1]
  exact List.getElem?_eq_getElem hl
theorem ix_ints {cs : List Int} {k : Int} (h0 : 0 ≤ k) (h1 : k < cs.length) : ∃ z, ixD (.lst (cs.map .int)) (.int k) = some (.int z) := by
  obtain ⟨x, e, hx⟩ := atI_nn (xs := cs.map D.int) h0 (by rw [List.length_map]; exact h1)
  rw [List.getElem?_map] at hx
  obtain ⟨z, _, rfl⟩ := Option.map_eq_some_iff.mp hx
  exact ⟨z, e⟩
theorem ev_spot {cell many : Int} (hm : 1 ≤ many) : ∃ r, m__law_spot [.int cell, .int many] = .ok (.int r) ∧ 0 ≤ r ∧ r < many := by
  have n0 : ¬ many = 0 := by omega
  have m1 : ∀ x, mulOk x 2 = true := mulOk_r (by decide)
  have m2 : ∀ x, mulOk x 5 = true := mulOk_r (by decide)
  have d2 : ∀ x, divOk x 2 = true := fun _ => rfl
  have d3 : ∀ x, divOk x 3 = true := fun _ => rfl
  have d7 : ∀ x, divOk x 7 = true := fun _ => rfl
  have d5 : ∀ x, divOk x 5 = true := fun _ => rfl
  have h5 : cell % 5 = 0 ∨ cell % 5 = 1 ∨ cell % 5 = 2 ∨ cell % 5 = 3 ∨ cell % 5 = 4 := by omega
  have fin : ∀ x : Int, 0 ≤ x.fmod many ∧ x.fmod many < many := fun x => by
    rw [fm (by omega)]
    exact ⟨Int.emod_nonneg _ n0, Int.emod_lt_of_pos _ (by omega)⟩
  have go : ∃ x : Int, m__law_spot [.int cell, .int many] = .ok (.int (x.fmod many)) := by
    rcases h5 with h5 | h5 | h5 | h5 | h5
    · exact ⟨(many - 1) + cell.fdiv 5, by simp [m__law_spot, b__law_spot, runS, endR, envOf, sSeq, sSet, sIf, sRet, sRetN, sEx, sNil, sRaise, sUn, evs, Rs.then, Rs.bind, eB, eC, eVar, eCall, eTup, eLst, eFn, eNot, eAnd, eOr, eIf, eChain, e1, negD, addD, subD, mulD, fdivD, modD, powD, cmpI, eqD, neD, eqB, scalD, eqF, inD, ninD, inB, flat, truth, intD, lenD, minD, divmodD, bNm, bTp, bAll, n0, m1, m2, d2, d3, d5, d7, fm (a := cell) (b := 5) (by decide), h5, ixD, L2.atI, L2.ixN]⟩
    · exact ⟨0 + cell.fdiv 5, by simp [m__law_spot, b__law_spot, runS, endR, envOf, sSeq, sSet, sIf, sRet, sRetN, sEx, sNil, sRaise, sUn, evs, Rs.then, Rs.bind, eB, eC, eVar, eCall, eTup, eLst, eFn, eNot, eAnd, eOr, eIf, eChain, e1, negD, addD, subD, mulD, fdivD, modD, powD, cmpI, eqD, neD, eqB, scalD, eqF, inD, ninD, inB, flat, truth, intD, lenD, minD, divmodD, bNm, bTp, bAll, n0, m1, m2, d2, d3, d5, d7, fm (a := cell) (b := 5) (by decide), h5, ixD, L2.atI, L2.ixN]⟩
    · exact ⟨many.fdiv 2 + cell.fdiv 5, by simp [m__law_spot, b__law_spot, runS, endR, envOf, sSeq, sSet, sIf, sRet, sRetN, sEx, sNil, sRaise, sUn, evs, Rs.then, Rs.bind, eB, eC, eVar, eCall, eTup, eLst, eFn, eNot, eAnd, eOr, eIf, eChain, e1, negD, addD, subD, mulD, fdivD, modD, powD, cmpI, eqD, neD, eqB, scalD, eqF, inD, ninD, inB, flat, truth, intD, lenD, minD, divmodD, bNm, bTp, bAll, n0, m1, m2, d2, d3, d5, d7, fm (a := cell) (b := 5) (by decide), h5, ixD, L2.atI, L2.ixN]⟩
    · exact ⟨many.fdiv 3 * 2 + cell.fdiv 5, by simp [m__law_spot, b__law_spot, runS, endR, envOf, sSeq, sSet, sIf, sRet, sRetN, sEx, sNil, sRaise, sUn, evs, Rs.then, Rs.bind, eB, eC, eVar, eCall, eTup, eLst, eFn, eNot, eAnd, eOr, eIf, eChain, e1, negD, addD, subD, mulD, fdivD, modD, powD, cmpI, eqD, neD, eqB, scalD, eqF, inD, ninD, inB, flat, truth, intD, lenD, minD, divmodD, bNm, bTp, bAll, n0, m1, m2, d2, d3, d5, d7, fm (a := cell) (b := 5) (by decide), h5, ixD, L2.atI, L2.ixN]⟩
    · exact ⟨many.fdiv 7 * 5 + cell.fdiv 5, by simp [m__law_spot, b__law_spot, runS, endR, envOf, sSeq, sSet, sIf, sRet, sRetN, sEx, sNil, sRaise, sUn, evs, Rs.then, Rs.bind, eB, eC, eVar, eCall, eTup, eLst, eFn, eNot, eAnd, eOr, eIf, eChain, e1, negD, addD, subD, mulD, fdivD, modD, powD, cmpI, eqD, neD, eqB, scalD, eqF, inD, ninD, inB, flat, truth, intD, lenD, minD, divmodD, bNm, bTp, bAll, n0, m1, m2, d2, d3, d5, d7, fm (a := cell) (b := 5) (by decide), h5, ixD, L2.atI, L2.ixN]⟩
  obtain ⟨x, e⟩ := go
  exact ⟨_, e, fin x⟩
theorem ev_mixed (a b : Int) : ∃ z, m__law_mixed [.int a, .int b] = .ok (.int z) := by
  have m1 : ∀ x, mulOk x 48271 = true := mulOk_r (by decide)
  have m2 : ∀ x, mulOk x 69621 = true := mulOk_r (by decide)
  have m3 : ∀ x, mulOk x 40692 = true := mulOk_r (by decide)
  have m4 : mulOk ((a * 48271 + b * 69621 + 12345).fmod 2147483647) ((a * 48271 + b * 69621 + 12345).fmod 2147483647) = true := mulOk_l (by rw [fm (by decide)]; omega) _
  have m5 : ∀ x : Int, mulOk (x.fmod 2147483399) (x.fmod 2147483399) = true := fun x => mulOk_l (by rw [fm (by decide)]; omega) _
  have go : ∃ z, m__law_mixed [.int a, .int b] = z ∧ ∃ y, z = .ok (.int y) := by
    refine ⟨_, rfl, ?_⟩
    simp [m__law_mixed, b__law_mixed, runS, endR, envOf, sSeq, sSet, sIf, sRet, sRetN, sEx, sNil, sRaise, sUn, evs, Rs.then, Rs.bind, eB, eC, eVar, eCall, eTup, eLst, eFn, eNot, eAnd, eOr, eIf, eChain, e1, negD, addD, subD, mulD, fdivD, modD, powD, cmpI, eqD, neD, eqB, scalD, eqF, inD, ninD, inB, flat, truth, intD, lenD, minD, divmodD, bNm, bTp, bAll, m1, m2, m3, m4, m5]
  obtain ⟨z, e, y, ey⟩ := go
  exact ⟨y, e.trans ey⟩
/-! ### comprehensions -/
theorem compL_map {b : BX} {e : EX} {vs : List Nat} {f : D → D} {I : En → Prop} : ∀ (ds acc : List D) (ρ : En), (∀ d ∈ ds, ∀ ρ, I ρ → ∃ ρ1 ρ2, b d (wipeE ρ vs) = some ρ1 ∧ e ρ1 = .ok (f d) ρ2 ∧ I ρ2) → I ρ → ∃ ρ', compL b (eC (.bl true)) e vs ds acc ρ = .ok (.lst (acc ++ ds.map f)) ρ' ∧ I ρ'
  | [], acc, ρ, _, i => ⟨ρ, by simp [compL], i⟩
  | d :: ds, acc, ρ, h, i => by
    obtain ⟨ρ1, ρ2, h1, h2, i2⟩ := h d List.mem_cons_self ρ i
    obtain ⟨ρ', e3, i3⟩ := compL_map ds (acc ++ [f d]) ρ2 (fun d hd => h d (List.mem_cons_of_mem _ hd)) i2
    refine ⟨ρ', ?_, i3⟩
    rw [compL, h1]
    simp only [eC, Rs.bind, truth, h2]
    rw [e3]
    simp
theorem iR1_ev {f : EX} {ρ ρ1 : En} {L : Int} (h : f ρ = .ok (.int L) ρ1) (hb : big L = true) : iR1 f ρ = .ok (rangeL 0 L.toNat) ρ1 := by
  unfold iR1 iB
  rw [h]
  simp only [hb, if_true]
theorem iR2_ev {f g : EX} {ρ ρ1 ρ2 : En} {a b : Int} (h : f ρ = .ok (.int a) ρ1) (h2 : g ρ1 = .ok (.int b) ρ2) (ha : big a = true) (hb : big b = true) : iR2 f g ρ = .ok (rangeL a (b - a).toNat) ρ2 := by
  unfold iR2 iB
  rw [h]
  simp only [h2, ha, hb, and_self, if_true]
theorem eComp_ev {it : IX} {b : BX} {c e : EX} {vs : List Nat} {ρ ρ1 ρ2 : En} {ds : List D} {d : D} (h1 : it ρ = .ok ds ρ1) (hl : ds.length ≤ 1000000) (hv : vs.all (notOwn ρ1) = true) (h2 : compL b c e vs ds [] ρ1 = .ok d ρ2) : eComp it b c e vs ρ = .ok d (backE ρ1 (wipeE ρ2 vs) vs) := by
  unfold eComp
  rw [h1]
  simp only
  rw [if_pos ⟨hl, hv⟩, h2]
theorem eCall1_ev {f : List D → Option D} {g : EX} {ρ ρ1 : En} {d z : D} (h : g ρ = .ok d ρ1) (hf : f [d] = some z) : eCall f [g] ρ = .ok z ρ1 := by
  show ((g ρ).bind fun d ρ1 => match f [d] with
    | some z => .ok z ρ1
    | none => .stuck) = _
  rw [h]
  show (match f [d] with
    | some z => Rs.ok z ρ1
    | none => .stuck) = _
  rw [hf]
theorem sSet_ev {i : Nat} {f : EX} {ρ ρ1 : En} {d : D} (h : f ρ = .ok d ρ1) : sSet i f ρ = .nx (ρ1.set i (some (.val d))) := by
  unfold sSet
  rw [h]
  rfl
theorem sRet_ev {f : EX} {ρ ρ1 : En} {d : D} (h : f ρ = .ok d ρ1) : sRet f ρ = .rt d ρ1 := by
  unfold sRet
  rw [h]
  rfl
theorem eB_ev {op : D → D → Option D} {fa fb : EX} {ρ ρ1 ρ2 : En} {d e z : D} (h : fa ρ = .ok d ρ1) (h2 : fb ρ1 = .ok e ρ2) (ho : op d e = some z) : eB op fa fb ρ = .ok z ρ2 := by
  unfold eB
  rw [h]
  simp only [Rs.bind, h2, ho]
theorem sSeq_nx {g h : SX} {ρ ρ1 : En} (e : g ρ = .nx ρ1) : sSeq g h ρ = h ρ1 := by
  unfold sSeq
  rw [e]
theorem big_nat {n : Nat} (h : n ≤ 1000000) : big (n : Int) = true := by
  have h1 : (n : Int) ≤ 1000000 := by omega
  have h0 : (0 : Int) ≤ n := by omega
  generalize (n : Int) = L at h0 h1
  exact decide_eq_true ⟨by omega, by omega⟩
theorem rangeL_len (lo : Int) (n : Nat) : (rangeL lo n).length = n := by
  unfold rangeL
  rw [List.length_map, List.length_range]
def dI : D → Int
  | .int i => i
  | _ => 0
theorem cut63 {ns : List Int} (h : ns.length ≤ 63) : cutD ns none (some 63) = ns := cutD_all ⟨rfl, by
  show HT.sIx ns.length ns.length (some ((63 : Nat) : Int)) = ns.length
  rw [HT.sIx_nat]
  omega⟩
def gComp1 : EX := (eComp (iR1 (eCall lenD [(eVar 1)])) (bNm 3) (eC (.bl true)) (eB mulD (eB addD (eVar 3) (eC (.int 1))) (eB ixD (eVar 1) (eVar 3))) [3])
def gComp2 : EX := (eComp (iR2 (eCall lenD [(eVar 1)]) (eC (.int 63))) (bNm 3) (eC (.bl true)) (eFn m__law_mixed [(eVar 2), (eVar 3)]) [3])
theorem b_cells_eq : b__law_cells = sSeq (sSet 1 (eCall listD [(eSl (eVar 0) none (some (eC (.int 63))))])) (sSeq (sSet 2 (eCall sumD [gComp1])) (sRet (eB addD (eVar 1) gComp2))) := rfl
theorem mem_rangeL {lo : Int} {n : Nat} {d : D} (h : d ∈ rangeL lo n) : ∃ i : Nat, i < n ∧ d = .int (lo + i) := by
  unfold rangeL at h
  obtain ⟨i, hi, e⟩ := List.mem_map.mp h
  exact ⟨i, by simpa using hi, e.symm⟩
theorem comp1_ev {ns : List Int} (h : ns.length ≤ 63) : ∃ zs : List Int, gComp1 [some (.val (.scr ns)), some (.val (.lst (ns.map .int))), none, none] = .ok (.lst (zs.map .int)) [some (.val (.scr ns)), some (.val (.lst (ns.map .int))), none, none] := by
  let g : D → Int := fun d => (dI d + 1) * (dI ((ixD (.lst (ns.map .int)) d).getD .non))
  obtain ⟨ρ', e, x, i⟩ := compL_map (b := bNm 3) (e := (eB mulD (eB addD (eVar 3) (eC (.int 1))) (eB ixD (eVar 1) (eVar 3)))) (vs := [3]) (f := fun d => .int (g d)) (I := fun ρ => ∃ x, ρ = [some (.val (.scr ns)), some (.val (.lst (ns.map .int))), none, x]) (rangeL 0 ns.length) [] [some (.val (.scr ns)), some (.val (.lst (ns.map .int))), none, none] (fun d hd ρ ⟨x, hx⟩ => by
    subst hx
    obtain ⟨k, hk0, hk1, rfl⟩ : ∃ k : Int, 0 ≤ k ∧ k < ns.length ∧ d = .int k := by
      obtain ⟨i, hi, e⟩ := mem_rangeL hd
      exact ⟨_, by omega, by omega, e⟩
    obtain ⟨z, hz⟩ := ix_ints (cs := ns) hk0 hk1
    have mo : mulOk (k + 1) z = true := mulOk_l (by omega) _
    refine ⟨[some (.val (.scr ns)), some (.val (.lst (ns.map .int))), none, si k], [some (.val (.scr ns)), some (.val (.lst (ns.map .int))), none, si k], rfl, ?_, _, rfl⟩
    have h1 : eB addD (eVar 3) (eC (.int 1)) [some (.val (.scr ns)), some (.val (.lst (ns.map .int))), none, si k] = .ok (.int (k + 1)) [some (.val (.scr ns)), some (.val (.lst (ns.map .int))), none, si k] := rfl
    have h2 : eB ixD (eVar 1) (eVar 3) [some (.val (.scr ns)), some (.val (.lst (ns.map .int))), none, si k] = .ok (.int z) [some (.val (.scr ns)), some (.val (.lst (ns.map .int))), none, si k] := by
      show (match ixD (.lst (ns.map .int)) (.int k) with
        | some z => Rs.ok z [some (.val (.scr ns)), some (.val (.lst (ns.map .int))), none, si k]
        | none => .stuck) = _
      rw [hz]
    have h3 : mulD (.int (k + 1)) (.int z) = some (.int ((k + 1) * z)) := if_pos mo
    have hg : g (.int k) = (k + 1) * z := by
      show (k + 1) * (dI ((ixD (.lst (ns.map .int)) (.int k)).getD .non)) = _
      rw [hz]
      rfl
    rw [hg]
    show ((eB addD (eVar 3) (eC (.int 1)) [some (.val (.scr ns)), some (.val (.lst (ns.map .int))), none, si k]).bind fun d ρ1 => (eB ixD (eVar 1) (eVar 3) ρ1).bind fun e ρ2 => match mulD d e with
      | some z => .ok z ρ2
      | none => .stuck) = _
    rw [h1]
    show ((eB ixD (eVar 1) (eVar 3) [some (.val (.scr ns)), some (.val (.lst (ns.map .int))), none, si k]).bind fun e ρ2 => match mulD (.int (k + 1)) e with
      | some z => .ok z ρ2
      | none => .stuck) = _
    rw [h2]
    show (match mulD (.int (k + 1)) (.int z) with
      | some z => Rs.ok z [some (.val (.scr ns)), some (.val (.lst (ns.map .int))), none, si k]
      | none => .stuck) = _
    rw [h3]) ⟨none, rfl⟩
  subst i
  refine ⟨(rangeL 0 ns.length).map g, ?_⟩
  have hlen : eCall lenD [(eVar 1)] [some (.val (.scr ns)), some (.val (.lst (ns.map .int))), none, none] = .ok (.int (ns.length : Int)) [some (.val (.scr ns)), some (.val (.lst (ns.map .int))), none, none] :=
    eCall1_ev (d := .lst (ns.map .int)) rfl (by show some (D.int ((ns.map D.int).length : Nat)) = _; rw [List.length_map])
  have hit := iR1_ev hlen (big_nat (by omega))
  rw [Int.toNat_natCast] at hit
  have q := eComp_ev (b := bNm 3) (c := eC (.bl true)) (e := (eB mulD (eB addD (eVar 3) (eC (.int 1))) (eB ixD (eVar 1) (eVar 3)))) (vs := [3]) hit (by rw [rangeL_len]; omega) rfl e
  have ee : ([] ++ (rangeL 0 ns.length).map fun d => D.int (g d)) = ((rangeL 0 ns.length).map g).map D.int := by rw [List.map_map]; rfl
  rw [ee] at q
  exact q
theorem comp2_ev {ns : List Int} {tot : Int} (h : ns.length ≤ 63) : ∃ zs : List Int, zs.length = 63 - ns.length ∧ gComp2 [some (.val (.scr ns)), some (.val (.lst (ns.map .int))), si tot, none] = .ok (.lst (zs.map .int)) [some (.val (.scr ns)), some (.val (.lst (ns.map .int))), si tot, none] := by
  let g : D → Int := fun d => match m__law_mixed [.int tot, d] with
    | .ok z => dI z
    | _ => 0
  obtain ⟨ρ', e, x, i⟩ := compL_map (b := bNm 3) (e := (eFn m__law_mixed [(eVar 2), (eVar 3)])) (vs := [3]) (f := fun d => .int (g d)) (I := fun ρ => ∃ x, ρ = [some (.val (.scr ns)), some (.val (.lst (ns.map .int))), si tot, x]) (rangeL ns.length (63 - (ns.length : Int)).toNat) [] [some (.val (.scr ns)), some (.val (.lst (ns.map .int))), si tot, none] (fun d hd ρ ⟨x, hx⟩ => by
    subst hx
    obtain ⟨i, hi, rfl⟩ := mem_rangeL hd
    obtain ⟨z, hz⟩ := ev_mixed tot ((ns.length : Int) + (i : Int))
    refine ⟨[some (.val (.scr ns)), some (.val (.lst (ns.map .int))), si tot, si ((ns.length : Int) + (i : Int))], [some (.val (.scr ns)), some (.val (.lst (ns.map .int))), si tot, si ((ns.length : Int) + (i : Int))], rfl, ?_, _, rfl⟩
    simp [runS, endR, envOf, sSeq, sSet, sIf, sRet, sRetN, sEx, sNil, sRaise, sUn, evs, Rs.then, Rs.bind, eB, eC, eVar, eCall, eTup, eLst, eFn, eNot, eAnd, eOr, eIf, eChain, e1, negD, addD, subD, mulD, fdivD, modD, powD, cmpI, eqD, neD, eqB, scalD, eqF, inD, ninD, inB, flat, truth, intD, lenD, minD, divmodD, bNm, bTp, bAll, hz, g, dI]) ⟨none, rfl⟩
  subst i
  refine ⟨(rangeL ns.length (63 - (ns.length : Int)).toNat).map g, ?_, ?_⟩
  · unfold rangeL
    simp
  have hlen : eCall lenD [(eVar 1)] [some (.val (.scr ns)), some (.val (.lst (ns.map .int))), si tot, none] = .ok (.int (ns.length : Int)) [some (.val (.scr ns)), some (.val (.lst (ns.map .int))), si tot, none] :=
    eCall1_ev (d := .lst (ns.map .int)) rfl (by show some (D.int ((ns.map D.int).length : Nat)) = _; rw [List.length_map])
  have hit := iR2_ev (g := eC (.int 63)) (b := 63) hlen rfl (big_nat (by omega)) rfl
  have q := eComp_ev (b := bNm 3) (c := eC (.bl true)) (e := (eFn m__law_mixed [(eVar 2), (eVar 3)])) (vs := [3]) hit (by rw [rangeL_len]; omega) rfl e
  have ee : ([] ++ (rangeL ns.length (63 - (ns.length : Int)).toNat).map fun d => D.int (g d)) = ((rangeL ns.length (63 - (ns.length : Int)).toNat).map g).map D.int := by rw [List.map_map]; rfl
  rw [ee] at q
  exact q
theorem ev_cells {ns : List Int} (h : ns.length ≤ 63) : ∃ cs : List Int, cs.length = 63 ∧ m__law_cells [.scr ns] = .ok (.lst (cs.map .int)) := by
  obtain ⟨zs, e1⟩ := comp1_ev h
  obtain ⟨ws, hw, e2⟩ := comp2_ev (tot := zs.sum) h
  refine ⟨ns ++ ws, by rw [List.length_append, hw]; omega, ?_⟩
  unfold m__law_cells
  rw [b_cells_eq]
  have hs : (ns.map D.int).length + (ws.map D.int).length ≤ sizeLine := by
    rw [sizeLine_eq, List.length_map, List.length_map]
    omega
  have ha : addD (.lst (ns.map .int)) (.lst (ws.map .int)) = some (.lst (ns.map .int ++ ws.map .int)) := if_pos hs
  have s1 : sSet 1 (eCall listD [(eSl (eVar 0) none (some (eC (.int 63))))]) (envOf 4 [.scr ns]) = .nx [some (.val (.scr ns)), some (.val (.lst (ns.map .int))), none, none] := by
    show (match slD (.scr ns) none (some 63) with
      | some z => Fl.nx [some (.val (.scr ns)), some (.val z), none, none]
      | none => .stuck) = _
    show Fl.nx [some (.val (.scr ns)), some (.val (.lst ((cutD ns none (some 63)).map .int))), none, none] = _
    rw [cut63 h]
  have hsum : sumD [.lst (zs.map .int)] = some (.int zs.sum) := by
    show (asInts (zs.map D.int)).map (fun ns => D.int ns.sum) = _
    rw [asInts_map]
    rfl
  have s2 := sSet_ev (i := 2) (eCall1_ev e1 hsum)
  have v1 : eVar 1 [some (.val (.scr ns)), some (.val (.lst (ns.map .int))), si zs.sum, none] = .ok (.lst (ns.map .int)) [some (.val (.scr ns)), some (.val (.lst (ns.map .int))), si zs.sum, none] := rfl
  have s3 := sRet_ev (eB_ev v1 e2 ha)
  show endR (sSeq _ (sSeq _ _) (envOf 4 [.scr ns])) = _
  rw [sSeq_nx s1, sSeq_nx s2]
  show endR (sRet (eB addD (eVar 1) gComp2) [some (.val (.scr ns)), some (.val (.lst (ns.map .int))), si zs.sum, none]) = _
  rw [s3, List.map_append]
  rfl
end K39

/-! What the defs answer. -/
namespace K39
open PySem MB
theorem ev_size {kind pick cell : Int} (h0 : 0 ≤ kind) (h1 : kind < 6) : ∃ v, m__law_size [.int kind, .int pick, .int cell] = .ok (.int v) ∧ 7 ≤ v ∧ v ≤ top60 ∧ ring v := by
  have f7 : cell.fmod 7 = cell % 7 := fm (by decide)
  have f16 : pick.fmod 16 = pick % 16 := fm (by decide)
  have f1000 : cell.fmod 1000 = cell % 1000 := fm (by decide)
  have f40 : cell.fmod 10000000000000000000000000000000000000000 = cell % 10000000000000000000000000000000000000000 := fm (by decide)
  have f38 : cell.fmod 100000000000000000000000000000000000000 = cell % 100000000000000000000000000000000000000 := fm (by decide)
  have ft : cell.fmod 55555555555555555555555555555555555555555555555555555555554 = cell % 55555555555555555555555555555555555555555555555555555555554 := fm (by decide)
  have dt : (1000000000000000000000000000000000000000000000000000000000000 - 15 : Int).fdiv 18 = 55555555555555555555555555555555555555555555555555555555554 := by decide +kernel
  have dt2 : (999999999999999999999999999999999999999999999999999999999985 : Int).fdiv 18 = 55555555555555555555555555555555555555555555555555555555554 := by decide +kernel
  have m18 : ∀ x, mulOk 18 x = true := mulOk_l (by decide)
  have d18 : ∀ x, divOk x 18 = true := fun _ => rfl
  have hk : kind = 0 ∨ kind = 1 ∨ kind = 2 ∨ kind = 3 ∨ kind = 4 ∨ kind = 5 := by omega
  by_cases p1 : pick % 16 = 1
  · rcases hk with rfl | rfl | rfl | rfl | rfl | rfl
    · exact ⟨18 * (1 + cell % 10000000000000000000000000000000000000000) + 1, by simp [m__law_size, b__law_size, runS, endR, envOf, sSeq, sSet, sIf, sRet, sRetN, sEx, sNil, sRaise, sUn, evs, Rs.then, Rs.bind, eB, eC, eVar, eCall, eTup, eLst, eFn, eNot, eAnd, eOr, eIf, eChain, e1, negD, addD, subD, mulD, fdivD, modD, powD, cmpI, eqD, neD, eqB, scalD, eqF, inD, ninD, inB, flat, truth, intD, lenD, minD, divmodD, bNm, bTp, bAll, ixD, L2.atI, L2.ixN, m18, d18, f7, f16, f1000, f40, f38, ft, dt, dt2, p1], by omega, by (unfold top60; omega), ⟨by omega, by omega⟩⟩
    · exact ⟨18 * (1 + cell % 10000000000000000000000000000000000000000) + 3, by simp [m__law_size, b__law_size, runS, endR, envOf, sSeq, sSet, sIf, sRet, sRetN, sEx, sNil, sRaise, sUn, evs, Rs.then, Rs.bind, eB, eC, eVar, eCall, eTup, eLst, eFn, eNot, eAnd, eOr, eIf, eChain, e1, negD, addD, subD, mulD, fdivD, modD, powD, cmpI, eqD, neD, eqB, scalD, eqF, inD, ninD, inB, flat, truth, intD, lenD, minD, divmodD, bNm, bTp, bAll, ixD, L2.atI, L2.ixN, m18, d18, f7, f16, f1000, f40, f38, ft, dt, dt2, p1], by omega, by (unfold top60; omega), ⟨by omega, by omega⟩⟩
    · exact ⟨18 * (0 + cell % 10000000000000000000000000000000000000000) + 7, by simp [m__law_size, b__law_size, runS, endR, envOf, sSeq, sSet, sIf, sRet, sRetN, sEx, sNil, sRaise, sUn, evs, Rs.then, Rs.bind, eB, eC, eVar, eCall, eTup, eLst, eFn, eNot, eAnd, eOr, eIf, eChain, e1, negD, addD, subD, mulD, fdivD, modD, powD, cmpI, eqD, neD, eqB, scalD, eqF, inD, ninD, inB, flat, truth, intD, lenD, minD, divmodD, bNm, bTp, bAll, ixD, L2.atI, L2.ixN, m18, d18, f7, f16, f1000, f40, f38, ft, dt, dt2, p1], by omega, by (unfold top60; omega), ⟨by omega, by omega⟩⟩
    · exact ⟨18 * (1 + cell % 10000000000000000000000000000000000000000) + 9, by simp [m__law_size, b__law_size, runS, endR, envOf, sSeq, sSet, sIf, sRet, sRetN, sEx, sNil, sRaise, sUn, evs, Rs.then, Rs.bind, eB, eC, eVar, eCall, eTup, eLst, eFn, eNot, eAnd, eOr, eIf, eChain, e1, negD, addD, subD, mulD, fdivD, modD, powD, cmpI, eqD, neD, eqB, scalD, eqF, inD, ninD, inB, flat, truth, intD, lenD, minD, divmodD, bNm, bTp, bAll, ixD, L2.atI, L2.ixN, m18, d18, f7, f16, f1000, f40, f38, ft, dt, dt2, p1], by omega, by (unfold top60; omega), ⟨by omega, by omega⟩⟩
    · exact ⟨18 * (0 + cell % 10000000000000000000000000000000000000000) + 13, by simp [m__law_size, b__law_size, runS, endR, envOf, sSeq, sSet, sIf, sRet, sRetN, sEx, sNil, sRaise, sUn, evs, Rs.then, Rs.bind, eB, eC, eVar, eCall, eTup, eLst, eFn, eNot, eAnd, eOr, eIf, eChain, e1, negD, addD, subD, mulD, fdivD, modD, powD, cmpI, eqD, neD, eqB, scalD, eqF, inD, ninD, inB, flat, truth, intD, lenD, minD, divmodD, bNm, bTp, bAll, ixD, L2.atI, L2.ixN, m18, d18, f7, f16, f1000, f40, f38, ft, dt, dt2, p1], by omega, by (unfold top60; omega), ⟨by omega, by omega⟩⟩
    · exact ⟨18 * (0 + cell % 10000000000000000000000000000000000000000) + 15, by simp [m__law_size, b__law_size, runS, endR, envOf, sSeq, sSet, sIf, sRet, sRetN, sEx, sNil, sRaise, sUn, evs, Rs.then, Rs.bind, eB, eC, eVar, eCall, eTup, eLst, eFn, eNot, eAnd, eOr, eIf, eChain, e1, negD, addD, subD, mulD, fdivD, modD, powD, cmpI, eqD, neD, eqB, scalD, eqF, inD, ninD, inB, flat, truth, intD, lenD, minD, divmodD, bNm, bTp, bAll, ixD, L2.atI, L2.ixN, m18, d18, f7, f16, f1000, f40, f38, ft, dt, dt2, p1], by omega, by (unfold top60; omega), ⟨by omega, by omega⟩⟩
  · by_cases p5 : pick % 16 = 5
    · rcases hk with rfl | rfl | rfl | rfl | rfl | rfl
      · exact ⟨18 * (55555555555555555555555555555555555555555555555555555555554 - cell % 1000) + 1, by simp [m__law_size, b__law_size, runS, endR, envOf, sSeq, sSet, sIf, sRet, sRetN, sEx, sNil, sRaise, sUn, evs, Rs.then, Rs.bind, eB, eC, eVar, eCall, eTup, eLst, eFn, eNot, eAnd, eOr, eIf, eChain, e1, negD, addD, subD, mulD, fdivD, modD, powD, cmpI, eqD, neD, eqB, scalD, eqF, inD, ninD, inB, flat, truth, intD, lenD, minD, divmodD, bNm, bTp, bAll, ixD, L2.atI, L2.ixN, m18, d18, f7, f16, f1000, f40, f38, ft, dt, dt2, p5], by omega, by (unfold top60; omega), ⟨by omega, by omega⟩⟩
      · exact ⟨18 * (55555555555555555555555555555555555555555555555555555555554 - cell % 1000) + 3, by simp [m__law_size, b__law_size, runS, endR, envOf, sSeq, sSet, sIf, sRet, sRetN, sEx, sNil, sRaise, sUn, evs, Rs.then, Rs.bind, eB, eC, eVar, eCall, eTup, eLst, eFn, eNot, eAnd, eOr, eIf, eChain, e1, negD, addD, subD, mulD, fdivD, modD, powD, cmpI, eqD, neD, eqB, scalD, eqF, inD, ninD, inB, flat, truth, intD, lenD, minD, divmodD, bNm, bTp, bAll, ixD, L2.atI, L2.ixN, m18, d18, f7, f16, f1000, f40, f38, ft, dt, dt2, p5], by omega, by (unfold top60; omega), ⟨by omega, by omega⟩⟩
      · exact ⟨18 * (55555555555555555555555555555555555555555555555555555555554 - cell % 1000) + 7, by simp [m__law_size, b__law_size, runS, endR, envOf, sSeq, sSet, sIf, sRet, sRetN, sEx, sNil, sRaise, sUn, evs, Rs.then, Rs.bind, eB, eC, eVar, eCall, eTup, eLst, eFn, eNot, eAnd, eOr, eIf, eChain, e1, negD, addD, subD, mulD, fdivD, modD, powD, cmpI, eqD, neD, eqB, scalD, eqF, inD, ninD, inB, flat, truth, intD, lenD, minD, divmodD, bNm, bTp, bAll, ixD, L2.atI, L2.ixN, m18, d18, f7, f16, f1000, f40, f38, ft, dt, dt2, p5], by omega, by (unfold top60; omega), ⟨by omega, by omega⟩⟩
      · exact ⟨18 * (55555555555555555555555555555555555555555555555555555555554 - cell % 1000) + 9, by simp [m__law_size, b__law_size, runS, endR, envOf, sSeq, sSet, sIf, sRet, sRetN, sEx, sNil, sRaise, sUn, evs, Rs.then, Rs.bind, eB, eC, eVar, eCall, eTup, eLst, eFn, eNot, eAnd, eOr, eIf, eChain, e1, negD, addD, subD, mulD, fdivD, modD, powD, cmpI, eqD, neD, eqB, scalD, eqF, inD, ninD, inB, flat, truth, intD, lenD, minD, divmodD, bNm, bTp, bAll, ixD, L2.atI, L2.ixN, m18, d18, f7, f16, f1000, f40, f38, ft, dt, dt2, p5], by omega, by (unfold top60; omega), ⟨by omega, by omega⟩⟩
      · exact ⟨18 * (55555555555555555555555555555555555555555555555555555555554 - cell % 1000) + 13, by simp [m__law_size, b__law_size, runS, endR, envOf, sSeq, sSet, sIf, sRet, sRetN, sEx, sNil, sRaise, sUn, evs, Rs.then, Rs.bind, eB, eC, eVar, eCall, eTup, eLst, eFn, eNot, eAnd, eOr, eIf, eChain, e1, negD, addD, subD, mulD, fdivD, modD, powD, cmpI, eqD, neD, eqB, scalD, eqF, inD, ninD, inB, flat, truth, intD, lenD, minD, divmodD, bNm, bTp, bAll, ixD, L2.atI, L2.ixN, m18, d18, f7, f16, f1000, f40, f38, ft, dt, dt2, p5], by omega, by (unfold top60; omega), ⟨by omega, by omega⟩⟩
      · exact ⟨18 * (55555555555555555555555555555555555555555555555555555555554 - cell % 1000) + 15, by simp [m__law_size, b__law_size, runS, endR, envOf, sSeq, sSet, sIf, sRet, sRetN, sEx, sNil, sRaise, sUn, evs, Rs.then, Rs.bind, eB, eC, eVar, eCall, eTup, eLst, eFn, eNot, eAnd, eOr, eIf, eChain, e1, negD, addD, subD, mulD, fdivD, modD, powD, cmpI, eqD, neD, eqB, scalD, eqF, inD, ninD, inB, flat, truth, intD, lenD, minD, divmodD, bNm, bTp, bAll, ixD, L2.atI, L2.ixN, m18, d18, f7, f16, f1000, f40, f38, ft, dt, dt2, p5], by omega, by (unfold top60; omega), ⟨by omega, by omega⟩⟩
    · by_cases p9 : pick % 16 = 9
      · rcases hk with rfl | rfl | rfl | rfl | rfl | rfl
        · exact ⟨18 * (100000000000000000000000000000000000000 + cell % 100000000000000000000000000000000000000) + 1, by simp [m__law_size, b__law_size, runS, endR, envOf, sSeq, sSet, sIf, sRet, sRetN, sEx, sNil, sRaise, sUn, evs, Rs.then, Rs.bind, eB, eC, eVar, eCall, eTup, eLst, eFn, eNot, eAnd, eOr, eIf, eChain, e1, negD, addD, subD, mulD, fdivD, modD, powD, cmpI, eqD, neD, eqB, scalD, eqF, inD, ninD, inB, flat, truth, intD, lenD, minD, divmodD, bNm, bTp, bAll, ixD, L2.atI, L2.ixN, m18, d18, f7, f16, f1000, f40, f38, ft, dt, dt2, p9], by omega, by (unfold top60; omega), ⟨by omega, by omega⟩⟩
        · exact ⟨18 * (100000000000000000000000000000000000000 + cell % 100000000000000000000000000000000000000) + 3, by simp [m__law_size, b__law_size, runS, endR, envOf, sSeq, sSet, sIf, sRet, sRetN, sEx, sNil, sRaise, sUn, evs, Rs.then, Rs.bind, eB, eC, eVar, eCall, eTup, eLst, eFn, eNot, eAnd, eOr, eIf, eChain, e1, negD, addD, subD, mulD, fdivD, modD, powD, cmpI, eqD, neD, eqB, scalD, eqF, inD, ninD, inB, flat, truth, intD, lenD, minD, divmodD, bNm, bTp, bAll, ixD, L2.atI, L2.ixN, m18, d18, f7, f16, f1000, f40, f38, ft, dt, dt2, p9], by omega, by (unfold top60; omega), ⟨by omega, by omega⟩⟩
        · exact ⟨18 * (100000000000000000000000000000000000000 + cell % 100000000000000000000000000000000000000) + 7, by simp [m__law_size, b__law_size, runS, endR, envOf, sSeq, sSet, sIf, sRet, sRetN, sEx, sNil, sRaise, sUn, evs, Rs.then, Rs.bind, eB, eC, eVar, eCall, eTup, eLst, eFn, eNot, eAnd, eOr, eIf, eChain, e1, negD, addD, subD, mulD, fdivD, modD, powD, cmpI, eqD, neD, eqB, scalD, eqF, inD, ninD, inB, flat, truth, intD, lenD, minD, divmodD, bNm, bTp, bAll, ixD, L2.atI, L2.ixN, m18, d18, f7, f16, f1000, f40, f38, ft, dt, dt2, p9], by omega, by (unfold top60; omega), ⟨by omega, by omega⟩⟩
        · exact ⟨18 * (100000000000000000000000000000000000000 + cell % 100000000000000000000000000000000000000) + 9, by simp [m__law_size, b__law_size, runS, endR, envOf, sSeq, sSet, sIf, sRet, sRetN, sEx, sNil, sRaise, sUn, evs, Rs.then, Rs.bind, eB, eC, eVar, eCall, eTup, eLst, eFn, eNot, eAnd, eOr, eIf, eChain, e1, negD, addD, subD, mulD, fdivD, modD, powD, cmpI, eqD, neD, eqB, scalD, eqF, inD, ninD, inB, flat, truth, intD, lenD, minD, divmodD, bNm, bTp, bAll, ixD, L2.atI, L2.ixN, m18, d18, f7, f16, f1000, f40, f38, ft, dt, dt2, p9], by omega, by (unfold top60; omega), ⟨by omega, by omega⟩⟩
        · exact ⟨18 * (100000000000000000000000000000000000000 + cell % 100000000000000000000000000000000000000) + 13, by simp [m__law_size, b__law_size, runS, endR, envOf, sSeq, sSet, sIf, sRet, sRetN, sEx, sNil, sRaise, sUn, evs, Rs.then, Rs.bind, eB, eC, eVar, eCall, eTup, eLst, eFn, eNot, eAnd, eOr, eIf, eChain, e1, negD, addD, subD, mulD, fdivD, modD, powD, cmpI, eqD, neD, eqB, scalD, eqF, inD, ninD, inB, flat, truth, intD, lenD, minD, divmodD, bNm, bTp, bAll, ixD, L2.atI, L2.ixN, m18, d18, f7, f16, f1000, f40, f38, ft, dt, dt2, p9], by omega, by (unfold top60; omega), ⟨by omega, by omega⟩⟩
        · exact ⟨18 * (100000000000000000000000000000000000000 + cell % 100000000000000000000000000000000000000) + 15, by simp [m__law_size, b__law_size, runS, endR, envOf, sSeq, sSet, sIf, sRet, sRetN, sEx, sNil, sRaise, sUn, evs, Rs.then, Rs.bind, eB, eC, eVar, eCall, eTup, eLst, eFn, eNot, eAnd, eOr, eIf, eChain, e1, negD, addD, subD, mulD, fdivD, modD, powD, cmpI, eqD, neD, eqB, scalD, eqF, inD, ninD, inB, flat, truth, intD, lenD, minD, divmodD, bNm, bTp, bAll, ixD, L2.atI, L2.ixN, m18, d18, f7, f16, f1000, f40, f38, ft, dt, dt2, p9], by omega, by (unfold top60; omega), ⟨by omega, by omega⟩⟩
      · by_cases p13 : pick % 16 = 13
        · rcases hk with rfl | rfl | rfl | rfl | rfl | rfl
          · exact ⟨18 * (1 + cell % 55555555555555555555555555555555555555555555555555555555554) + 1, by simp [m__law_size, b__law_size, runS, endR, envOf, sSeq, sSet, sIf, sRet, sRetN, sEx, sNil, sRaise, sUn, evs, Rs.then, Rs.bind, eB, eC, eVar, eCall, eTup, eLst, eFn, eNot, eAnd, eOr, eIf, eChain, e1, negD, addD, subD, mulD, fdivD, modD, powD, cmpI, eqD, neD, eqB, scalD, eqF, inD, ninD, inB, flat, truth, intD, lenD, minD, divmodD, bNm, bTp, bAll, ixD, L2.atI, L2.ixN, m18, d18, f7, f16, f1000, f40, f38, ft, dt, dt2, p13], by omega, by (unfold top60; omega), ⟨by omega, by omega⟩⟩
          · exact ⟨18 * (1 + cell % 55555555555555555555555555555555555555555555555555555555554) + 3, by simp [m__law_size, b__law_size, runS, endR, envOf, sSeq, sSet, sIf, sRet, sRetN, sEx, sNil, sRaise, sUn, evs, Rs.then, Rs.bind, eB, eC, eVar, eCall, eTup, eLst, eFn, eNot, eAnd, eOr, eIf, eChain, e1, negD, addD, subD, mulD, fdivD, modD, powD, cmpI, eqD, neD, eqB, scalD, eqF, inD, ninD, inB, flat, truth, intD, lenD, minD, divmodD, bNm, bTp, bAll, ixD, L2.atI, L2.ixN, m18, d18, f7, f16, f1000, f40, f38, ft, dt, dt2, p13], by omega, by (unfold top60; omega), ⟨by omega, by omega⟩⟩
          · exact ⟨18 * (0 + cell % 55555555555555555555555555555555555555555555555555555555554) + 7, by simp [m__law_size, b__law_size, runS, endR, envOf, sSeq, sSet, sIf, sRet, sRetN, sEx, sNil, sRaise, sUn, evs, Rs.then, Rs.bind, eB, eC, eVar, eCall, eTup, eLst, eFn, eNot, eAnd, eOr, eIf, eChain, e1, negD, addD, subD, mulD, fdivD, modD, powD, cmpI, eqD, neD, eqB, scalD, eqF, inD, ninD, inB, flat, truth, intD, lenD, minD, divmodD, bNm, bTp, bAll, ixD, L2.atI, L2.ixN, m18, d18, f7, f16, f1000, f40, f38, ft, dt, dt2, p13], by omega, by (unfold top60; omega), ⟨by omega, by omega⟩⟩
          · exact ⟨18 * (1 + cell % 55555555555555555555555555555555555555555555555555555555554) + 9, by simp [m__law_size, b__law_size, runS, endR, envOf, sSeq, sSet, sIf, sRet, sRetN, sEx, sNil, sRaise, sUn, evs, Rs.then, Rs.bind, eB, eC, eVar, eCall, eTup, eLst, eFn, eNot, eAnd, eOr, eIf, eChain, e1, negD, addD, subD, mulD, fdivD, modD, powD, cmpI, eqD, neD, eqB, scalD, eqF, inD, ninD, inB, flat, truth, intD, lenD, minD, divmodD, bNm, bTp, bAll, ixD, L2.atI, L2.ixN, m18, d18, f7, f16, f1000, f40, f38, ft, dt, dt2, p13], by omega, by (unfold top60; omega), ⟨by omega, by omega⟩⟩
          · exact ⟨18 * (0 + cell % 55555555555555555555555555555555555555555555555555555555554) + 13, by simp [m__law_size, b__law_size, runS, endR, envOf, sSeq, sSet, sIf, sRet, sRetN, sEx, sNil, sRaise, sUn, evs, Rs.then, Rs.bind, eB, eC, eVar, eCall, eTup, eLst, eFn, eNot, eAnd, eOr, eIf, eChain, e1, negD, addD, subD, mulD, fdivD, modD, powD, cmpI, eqD, neD, eqB, scalD, eqF, inD, ninD, inB, flat, truth, intD, lenD, minD, divmodD, bNm, bTp, bAll, ixD, L2.atI, L2.ixN, m18, d18, f7, f16, f1000, f40, f38, ft, dt, dt2, p13], by omega, by (unfold top60; omega), ⟨by omega, by omega⟩⟩
          · exact ⟨18 * (0 + cell % 55555555555555555555555555555555555555555555555555555555554) + 15, by simp [m__law_size, b__law_size, runS, endR, envOf, sSeq, sSet, sIf, sRet, sRetN, sEx, sNil, sRaise, sUn, evs, Rs.then, Rs.bind, eB, eC, eVar, eCall, eTup, eLst, eFn, eNot, eAnd, eOr, eIf, eChain, e1, negD, addD, subD, mulD, fdivD, modD, powD, cmpI, eqD, neD, eqB, scalD, eqF, inD, ninD, inB, flat, truth, intD, lenD, minD, divmodD, bNm, bTp, bAll, ixD, L2.atI, L2.ixN, m18, d18, f7, f16, f1000, f40, f38, ft, dt, dt2, p13], by omega, by (unfold top60; omega), ⟨by omega, by omega⟩⟩
        · rcases hk with rfl | rfl | rfl | rfl | rfl | rfl
          · exact ⟨18 * (1 + cell % 7) + 1, by simp [m__law_size, b__law_size, runS, endR, envOf, sSeq, sSet, sIf, sRet, sRetN, sEx, sNil, sRaise, sUn, evs, Rs.then, Rs.bind, eB, eC, eVar, eCall, eTup, eLst, eFn, eNot, eAnd, eOr, eIf, eChain, e1, negD, addD, subD, mulD, fdivD, modD, powD, cmpI, eqD, neD, eqB, scalD, eqF, inD, ninD, inB, flat, truth, intD, lenD, minD, divmodD, bNm, bTp, bAll, ixD, L2.atI, L2.ixN, m18, d18, f7, f16, f1000, f40, f38, ft, dt, dt2, beq_false_of_ne p1, beq_false_of_ne p5, beq_false_of_ne p9, beq_false_of_ne p13], by omega, by (unfold top60; omega), ⟨by omega, by omega⟩⟩
          · exact ⟨18 * (1 + cell % 7) + 3, by simp [m__law_size, b__law_size, runS, endR, envOf, sSeq, sSet, sIf, sRet, sRetN, sEx, sNil, sRaise, sUn, evs, Rs.then, Rs.bind, eB, eC, eVar, eCall, eTup, eLst, eFn, eNot, eAnd, eOr, eIf, eChain, e1, negD, addD, subD, mulD, fdivD, modD, powD, cmpI, eqD, neD, eqB, scalD, eqF, inD, ninD, inB, flat, truth, intD, lenD, minD, divmodD, bNm, bTp, bAll, ixD, L2.atI, L2.ixN, m18, d18, f7, f16, f1000, f40, f38, ft, dt, dt2, beq_false_of_ne p1, beq_false_of_ne p5, beq_false_of_ne p9, beq_false_of_ne p13], by omega, by (unfold top60; omega), ⟨by omega, by omega⟩⟩
          · exact ⟨18 * (0 + cell % 7) + 7, by simp [m__law_size, b__law_size, runS, endR, envOf, sSeq, sSet, sIf, sRet, sRetN, sEx, sNil, sRaise, sUn, evs, Rs.then, Rs.bind, eB, eC, eVar, eCall, eTup, eLst, eFn, eNot, eAnd, eOr, eIf, eChain, e1, negD, addD, subD, mulD, fdivD, modD, powD, cmpI, eqD, neD, eqB, scalD, eqF, inD, ninD, inB, flat, truth, intD, lenD, minD, divmodD, bNm, bTp, bAll, ixD, L2.atI, L2.ixN, m18, d18, f7, f16, f1000, f40, f38, ft, dt, dt2, beq_false_of_ne p1, beq_false_of_ne p5, beq_false_of_ne p9, beq_false_of_ne p13], by omega, by (unfold top60; omega), ⟨by omega, by omega⟩⟩
          · exact ⟨18 * (1 + cell % 7) + 9, by simp [m__law_size, b__law_size, runS, endR, envOf, sSeq, sSet, sIf, sRet, sRetN, sEx, sNil, sRaise, sUn, evs, Rs.then, Rs.bind, eB, eC, eVar, eCall, eTup, eLst, eFn, eNot, eAnd, eOr, eIf, eChain, e1, negD, addD, subD, mulD, fdivD, modD, powD, cmpI, eqD, neD, eqB, scalD, eqF, inD, ninD, inB, flat, truth, intD, lenD, minD, divmodD, bNm, bTp, bAll, ixD, L2.atI, L2.ixN, m18, d18, f7, f16, f1000, f40, f38, ft, dt, dt2, beq_false_of_ne p1, beq_false_of_ne p5, beq_false_of_ne p9, beq_false_of_ne p13], by omega, by (unfold top60; omega), ⟨by omega, by omega⟩⟩
          · exact ⟨18 * (0 + cell % 7) + 13, by simp [m__law_size, b__law_size, runS, endR, envOf, sSeq, sSet, sIf, sRet, sRetN, sEx, sNil, sRaise, sUn, evs, Rs.then, Rs.bind, eB, eC, eVar, eCall, eTup, eLst, eFn, eNot, eAnd, eOr, eIf, eChain, e1, negD, addD, subD, mulD, fdivD, modD, powD, cmpI, eqD, neD, eqB, scalD, eqF, inD, ninD, inB, flat, truth, intD, lenD, minD, divmodD, bNm, bTp, bAll, ixD, L2.atI, L2.ixN, m18, d18, f7, f16, f1000, f40, f38, ft, dt, dt2, beq_false_of_ne p1, beq_false_of_ne p5, beq_false_of_ne p9, beq_false_of_ne p13], by omega, by (unfold top60; omega), ⟨by omega, by omega⟩⟩
          · exact ⟨18 * (0 + cell % 7) + 15, by simp [m__law_size, b__law_size, runS, endR, envOf, sSeq, sSet, sIf, sRet, sRetN, sEx, sNil, sRaise, sUn, evs, Rs.then, Rs.bind, eB, eC, eVar, eCall, eTup, eLst, eFn, eNot, eAnd, eOr, eIf, eChain, e1, negD, addD, subD, mulD, fdivD, modD, powD, cmpI, eqD, neD, eqB, scalD, eqF, inD, ninD, inB, flat, truth, intD, lenD, minD, divmodD, bNm, bTp, bAll, ixD, L2.atI, L2.ixN, m18, d18, f7, f16, f1000, f40, f38, ft, dt, dt2, beq_false_of_ne p1, beq_false_of_ne p5, beq_false_of_ne p9, beq_false_of_ne p13], by omega, by (unfold top60; omega), ⟨by omega, by omega⟩⟩
theorem row_at {ws : List Row} {i : Int} (h0 : 0 ≤ i) (h1 : i < ws.length) : ∃ w ∈ ws, ixD (.lst (ws.map fun w => rowD w.li)) (.int i) = some (rowD w.li) := by
  obtain ⟨x, e, hx⟩ := atI_nn (xs := ws.map fun w => rowD w.li) h0 (by rw [List.length_map]; exact h1)
  rw [List.getElem?_map] at hx
  obtain ⟨w, hw, rfl⟩ := Option.map_eq_some_iff.mp hx
  exact ⟨w, List.mem_of_getElem? hw, e⟩
end K39

/-! What the defs answer. -/
namespace K39
open PySem MB
def gF : SX := (sSeq (sSet 8 (eFn m__law_ask [(eVar 0), (eVar 7)]))
  (sSeq (sIf (eNot (eFn (m__law_like 5) [(eVar 8), (eTup [(eC (.str "told")), (eVar 6)])]))
  (sRet (eC (.bl false))) sNil)
  (sIf (eB ninD (eB addD (eB ixD (eB ixD (eVar 8) (eC (.int 1))) (eC (.int 0))) (eB ixD (eB ixD (eVar 8) (eC (.int 1))) (eC (.int 1)))) (eTup [(eB ixD (eB ixD (eVar 8) (eC (.int 1))) (eC (.int 2))), (eB subD (eVar 0) (eB ixD (eB ixD (eVar 8) (eC (.int 1))) (eC (.int 2))))]))
  (sRet (eC (.bl false))) sNil)))
theorem b_family_eq : b__law_family = sSeq (sSet 3 (eFn m__law_table [(eVar 0)])) (sSeq (sSet 4 (eB ixD (eVar 3) (eB modD (eCall intD [(eVar 1)]) (eCall lenD [(eVar 3)])))) (sSeq (sSet 5 (eB addD (eB subD (eB addD (eB fdivD (eVar 0) (eC (.int 18))) (eB ixD (eVar 4) (eC (.int 1)))) (eB ixD (eVar 4) (eC (.int 0)))) (eC (.int 1)))) (sSeq (sIf (eB ltD (eVar 5) (eC (.int 1)))
  (sSeq (sSet 4 (eB ixD (eVar 3) (eC (.int 0))))
  (sSet 5 (eB addD (eB subD (eB addD (eB fdivD (eVar 0) (eC (.int 18))) (eB ixD (eVar 4) (eC (.int 1)))) (eB ixD (eVar 4) (eC (.int 0)))) (eC (.int 1))))) sNil) (sSeq (sSet 6 (eFn m__law_triple [(eVar 0), (eVar 4), (eB addD (eB ixD (eVar 4) (eC (.int 0))) (eFn m__law_spot [(eVar 2), (eVar 5)]))])) (sSeq (sFor (iV seqI (eVar 6)) (bNm 7) gF) (sRet (eC (.bl true)))))))) := rfl
theorem gF_ev {v x : Int} {t : T3} {y1 y2 y3 y4 y5 y8 : Option Sl} (ha : m__law_ask [.int v, .int x] = .ok (.tup [.str "told", t3D t])) (hn : ninD (.int (t.1 + t.2.1)) (.tup [.int t.2.2, .int (v - t.2.2)]) = some (.bl false)) :
    gF [si v, y1, y2, y3, y4, y5, some (.val (t3D t)), si x, y8] = .nx [si v, y1, y2, y3, y4, y5, some (.val (t3D t)), si x, some (.val (.tup [.str "told", t3D t]))] := by
  have j1 : ixD (.tup [.str "told", t3D t]) (.int 1) = some (t3D t) := rfl
  have i0 : ixD (t3D t) (.int 0) = some (.int t.1) := rfl
  have i1 : ixD (t3D t) (.int 1) = some (.int t.2.1) := rfl
  have i2 : ixD (t3D t) (.int 2) = some (.int t.2.2) := rfl
  have lk := like_told t
  simp [gF, runS, endR, envOf, sSeq, sSet, sIf, sRet, sRetN, sEx, sNil, sRaise, sUn, evs, Rs.then, Rs.bind, eB, eC, eVar, eCall, eTup, eLst, eFn, eNot, eAnd, eOr, eIf, eChain, e1, negD, addD, subD, mulD, fdivD, modD, powD, cmpI, eqD, neD, eqB, scalD, eqF, inD, truth, intD, lenD, minD, divmodD, bNm, bTp, bAll, mulOk, divOk, ha, lk, j1, i0, i1, i2, hn]
theorem fam_loop {v : Int} {t : T3} {y1 y2 y3 y4 y5 y7 y8 : Option Sl} (h1 : m__law_ask [.int v, .int t.1] = .ok (.tup [.str "told", t3D t])) (h2 : m__law_ask [.int v, .int t.2.1] = .ok (.tup [.str "told", t3D t])) (h3 : m__law_ask [.int v, .int t.2.2] = .ok (.tup [.str "told", t3D t])) (hn : ninD (.int (t.1 + t.2.1)) (.tup [.int t.2.2, .int (v - t.2.2)]) = some (.bl false)) :
    ∃ ρ, loopS (bNm 7) gF [.int t.1, .int t.2.1, .int t.2.2] [si v, y1, y2, y3, y4, y5, some (.val (t3D t)), y7, y8] = .nx ρ := by
  refine ⟨[si v, y1, y2, y3, y4, y5, some (.val (t3D t)), si t.2.2, some (.val (.tup [.str "told", t3D t]))], ?_⟩
  have e1 := gF_ev (y1 := y1) (y2 := y2) (y3 := y3) (y4 := y4) (y5 := y5) (y8 := y8) h1 hn
  have e2 := gF_ev (y1 := y1) (y2 := y2) (y3 := y3) (y4 := y4) (y5 := y5) (y8 := some (.val (.tup [.str "told", t3D t]))) h2 hn
  have e3 := gF_ev (y1 := y1) (y2 := y2) (y3 := y3) (y4 := y4) (y5 := y5) (y8 := some (.val (.tup [.str "told", t3D t]))) h3 hn
  show (match gF [si v, y1, y2, y3, y4, y5, some (.val (t3D t)), si t.1, y8] with
    | .nx ρ2 => loopS (bNm 7) gF [.int t.2.1, .int t.2.2] ρ2
    | .ct ρ2 => loopS (bNm 7) gF [.int t.2.1, .int t.2.2] ρ2
    | .bk ρ2 => .nx ρ2
    | r => r) = _
  rw [e1]
  show (match gF [si v, y1, y2, y3, y4, y5, some (.val (t3D t)), si t.2.1, some (.val (.tup [.str "told", t3D t]))] with
    | .nx ρ2 => loopS (bNm 7) gF [.int t.2.2] ρ2
    | .ct ρ2 => loopS (bNm 7) gF [.int t.2.2] ρ2
    | .bk ρ2 => .nx ρ2
    | r => r) = _
  rw [e2]
  show (match gF [si v, y1, y2, y3, y4, y5, some (.val (t3D t)), si t.2.2, some (.val (.tup [.str "told", t3D t]))] with
    | .nx ρ2 => loopS (bNm 7) gF [] ρ2
    | .ct ρ2 => loopS (bNm 7) gF [] ρ2
    | .bk ρ2 => .nx ρ2
    | r => r) = _
  rw [e3]
  rfl
/-- a due triple is told at each of its differences -/
theorem due_told {v r : Int} {F : List Fam} {w0 w : Row} {ws : List Row} (h7 : 7 ≤ v) (ht : v ≤ top60) (hr : ring v) (c : Cls v ((v - 1) / 2) F ((w0 :: ws).map (Row.fam · (v.fdiv 18))))
    (fnd : ∀ d, m_found_triple [.int v, .int d] = match found v d F with
      | some t => .ok (t3D t)
      | none => .err (kindE "short")) (hw : w ∈ w0 :: ws) (h1 : w.l ≤ r) (h2 : r ≤ v.fdiv 18 + w.h) :
    (∀ x, x = (tri v (w.fam (v.fdiv 18)) r).1 ∨ x = (tri v (w.fam (v.fdiv 18)) r).2.1 ∨ x = (tri v (w.fam (v.fdiv 18)) r).2.2 → m__law_ask [.int v, .int x] = .ok (.tup [.str "told", t3D (tri v (w.fam (v.fdiv 18)) r)])) ∧
    ninD (.int ((tri v (w.fam (v.fdiv 18)) r).1 + (tri v (w.fam (v.fdiv 18)) r).2.1)) (.tup [.int (tri v (w.fam (v.fdiv 18)) r).2.2, .int (v - (tri v (w.fam (v.fdiv 18)) r).2.2)]) = some (.bl false) := by
  have hm : w.fam (v.fdiv 18) ∈ (w0 :: ws).map (Row.fam · (v.fdiv 18)) := List.mem_map.mpr ⟨w, hw, rfl⟩
  have hodd : v % 2 = 1 := by
    have := hr.1
    omega
  have rg := c.rg _ hm r h1 h2
  have go : ∀ x, 1 ≤ x → x ≤ (v - 1) / 2 → At6 v x (w.fam (v.fdiv 18)) r → m__law_ask [.int v, .int x] = .ok (.tup [.str "told", t3D (tri v (w.fam (v.fdiv 18)) r)]) := fun x p1 p2 ha => by
    have e := c.due hm h1 h2 p1 p2 ha
    have e1 := fnd x
    rw [e] at e1
    exact ev_ask_ok (ev_diffD h7 ht p1 p2 hr e1)
  unfold tri
  dsimp only
  unfold tri At6 at go
  generalize w.fam (v.fdiv 18) = f at *
  generalize f.A + r * f.α = a at *
  generalize f.B + r * f.β = b at *
  generalize hc : f.C + r * f.γ = cc at *
  obtain ⟨⟨ra1, ra2⟩, ⟨rb1, rb2⟩, ⟨rc1, rc2⟩, rs⟩ := rg
  have hmn : mn cc (v - cc) = cc ∨ mn cc (v - cc) = v - cc := by
    unfold mn
    split
    · exact .inr rfl
    · exact .inl rfl
  have hmr : 1 ≤ mn cc (v - cc) ∧ mn cc (v - cc) ≤ (v - 1) / 2 := by
    unfold mn
    split <;> omega
  generalize mn cc (v - cc) = m at *
  refine ⟨fun x hx => ?_, ?_⟩
  · rcases hx with rfl | rfl | rfl
    · exact go _ ra1 ra2 (.inl (.inl rfl))
    · exact go _ rb1 rb2 (.inr (.inl (.inl rfl)))
    · exact go _ hmr.1 hmr.2 (.inr (.inr (by omega)))
  · have hor : m = a + b ∨ v - m = a + b := by omega
    rcases hor with h | h <;> simp [ninD, inB, flat, eqF, h]
theorem ev_family {v which cell : Int} (h7 : 7 ≤ v) (ht : v ≤ top60) (hr : ring v) : m__law_family [.int v, .int which, .int cell] = .ok (.bl true) := by
  obtain ⟨F, w0, ws, c, ok, tab, fnd, many0, len8⟩ := (ringOk h7 hr).ex
  have hodd : v % 2 = 1 := by
    have := hr.1
    omega
  have d18 : divOk v 18 = true := rfl
  -- the row that is taken
  have hL : ∃ L : Int, L = ((w0 :: ws).length : Int) ∧ 1 ≤ L := ⟨_, rfl, by rw [List.length_cons]; omega⟩
  obtain ⟨L, eL, L1⟩ := hL
  obtain ⟨w, hw, hix⟩ := row_at (ws := w0 :: ws) (i := which.fmod L) (by rw [fm (by omega)]; exact Int.emod_nonneg _ (by omega)) (by rw [fm (by omega), ← eL]; exact Int.emod_lt_of_pos _ (by omega))
  have hlen : lenD [.lst ((w0 :: ws).map fun w => rowD w.li)] = some (.int L) := by
    show some (D.int (((w0 :: ws).map fun w => rowD w.li).length : Nat)) = _
    rw [List.length_map, eL]
  have h0 : ixD (.lst ((w0 :: ws).map fun w => rowD w.li)) (.int 0) = some (rowD w0.li) := by
    show L2.atI ((w0 :: ws).map fun w => rowD w.li) 0 = _
    unfold L2.atI L2.ixN
    rw [if_pos (Int.le_refl 0), if_pos (by rw [List.length_map, List.length_cons]; omega)]
    rfl
  generalize hR : D.lst ((w0 :: ws).map fun w => rowD w.li) = R at *
  have nL : ¬ L = 0 := by omega
  have i0 : ∀ u : Row, ixD (rowD u.li) (.int 0) = some (.int u.l) := fun _ => rfl
  have i1 : ∀ u : Row, ixD (rowD u.li) (.int 1) = some (.int u.h) := fun _ => rfl
  have st : ∃ u ∈ w0 :: ws, ∃ y4 y5 : Option Sl, ∃ many : Int, 1 ≤ many ∧ many = v.fdiv 18 + u.h - u.l + 1 ∧
      (∀ h : SX, sSeq (sSet 3 (eFn m__law_table [(eVar 0)])) (sSeq (sSet 4 (eB ixD (eVar 3) (eB modD (eCall intD [(eVar 1)]) (eCall lenD [(eVar 3)])))) (sSeq (sSet 5 (eB addD (eB subD (eB addD (eB fdivD (eVar 0) (eC (.int 18))) (eB ixD (eVar 4) (eC (.int 1)))) (eB ixD (eVar 4) (eC (.int 0)))) (eC (.int 1)))) (sSeq (sIf (eB ltD (eVar 5) (eC (.int 1)))
  (sSeq (sSet 4 (eB ixD (eVar 3) (eC (.int 0))))
  (sSet 5 (eB addD (eB subD (eB addD (eB fdivD (eVar 0) (eC (.int 18))) (eB ixD (eVar 4) (eC (.int 1)))) (eB ixD (eVar 4) (eC (.int 0)))) (eC (.int 1))))) sNil) h))) (envOf 9 [.int v, .int which, .int cell]) = h [si v, si which, si cell, some (.val R), some (.val (rowD u.li)), si many, none, none, none]) := by
    by_cases k : v.fdiv 18 + w.h - w.l + 1 < 1
    · exact ⟨w0, List.mem_cons_self, none, none, v.fdiv 18 + w0.h - w0.l + 1, many0, rfl, fun h => by simp [runS, endR, envOf, sSeq, sSet, sIf, sRet, sRetN, sEx, sNil, sRaise, sUn, evs, Rs.then, Rs.bind, eB, eC, eVar, eCall, eTup, eLst, eFn, eNot, eAnd, eOr, eIf, eChain, e1, negD, addD, subD, mulD, fdivD, modD, powD, cmpI, eqD, neD, eqB, scalD, eqF, inD, truth, intD, minD, divmodD, bNm, bTp, bAll, List.replicate, tab, hlen, hix, h0, i0, i1, d18, nL, k]⟩
    · exact ⟨w, hw, none, none, v.fdiv 18 + w.h - w.l + 1, by omega, rfl, fun h => by simp [runS, endR, envOf, sSeq, sSet, sIf, sRet, sRetN, sEx, sNil, sRaise, sUn, evs, Rs.then, Rs.bind, eB, eC, eVar, eCall, eTup, eLst, eFn, eNot, eAnd, eOr, eIf, eChain, e1, negD, addD, subD, mulD, fdivD, modD, powD, cmpI, eqD, neD, eqB, scalD, eqF, inD, truth, intD, minD, divmodD, bNm, bTp, bAll, List.replicate, tab, hlen, hix, h0, i0, i1, d18, nL, k]⟩
  obtain ⟨u, hu, _, _, many, hm1, hm2, st⟩ := st
  obtain ⟨p, e1, p0, p1⟩ := ev_spot (cell := cell) (many := many) hm1
  have e2 := ev_triple (v := v) (r := u.l + p) (ok u hu) hodd
  obtain ⟨k1, k2⟩ := due_told (r := u.l + p) h7 ht hr c fnd hu (by omega) (by omega)
  obtain ⟨ρ, e3⟩ := fam_loop (v := v) (y1 := si which) (y2 := si cell) (y3 := some (.val R)) (y4 := some (.val (rowD u.li))) (y5 := si many) (y7 := none) (y8 := none) (k1 _ (.inl rfl)) (k1 _ (.inr (.inl rfl))) (k1 _ (.inr (.inr rfl))) k2
  have e4 : seqI (t3D (tri v (u.fam (v.fdiv 18)) (u.l + p))) = some [.int (tri v (u.fam (v.fdiv 18)) (u.l + p)).1, .int (tri v (u.fam (v.fdiv 18)) (u.l + p)).2.1, .int (tri v (u.fam (v.fdiv 18)) (u.l + p)).2.2] := rfl
  unfold m__law_family
  rw [b_family_eq]
  show endR (sSeq _ _ _) = _
  rw [st]
  simp [runS, endR, envOf, sSeq, sSet, sIf, sRet, sRetN, sEx, sNil, sRaise, sUn, evs, Rs.then, Rs.bind, eB, eC, eVar, eCall, eTup, eLst, eFn, eNot, eAnd, eOr, eIf, eChain, e1, negD, addD, subD, mulD, fdivD, modD, powD, cmpI, eqD, neD, eqB, scalD, eqF, inD, truth, intD, lenD, minD, divmodD, bNm, bTp, bAll, mulOk, divOk, i0, e1, e2, sFor, iV, iB, e4, e3]
end K39

/-! What the defs answer. -/
namespace K39
open PySem MB
theorem loop_nx {b : BX} {g : SX} {I : En → Prop} : ∀ (ds : List D) (ρ : En), (∀ d ∈ ds, ∀ ρ, I ρ → ∃ ρ1 ρ2, b d ρ = some ρ1 ∧ g ρ1 = .nx ρ2 ∧ I ρ2) → I ρ → ∃ ρ', loopS b g ds ρ = .nx ρ' ∧ I ρ'
  | [], ρ, _, i => ⟨ρ, rfl, i⟩
  | d :: ds, ρ, h, i => by
    obtain ⟨ρ1, ρ2, h1, h2, i2⟩ := h d List.mem_cons_self ρ i
    obtain ⟨ρ', e, i3⟩ := loop_nx ds ρ2 (fun d hd => h d (List.mem_cons_of_mem _ hd)) i2
    refine ⟨ρ', ?_, i3⟩
    rw [loopS, h1]
    simp only [h2]
    exact e
theorem addL {a b : List D} (h : a.length + b.length ≤ 1000) : addD (.lst a) (.lst b) = some (.lst (a ++ b)) := if_pos (by rw [sizeLine_eq]; omega)
def pD (p : Int × Int) : D := .tup [.int p.1, .int p.2]
def gNear : EX := (eComp (iV seqI (eSl (eVar 1) (some (eC (.int 15))) (some (eC (.int 19))))) (bNm 4) (eC (.bl true)) (eTup [(eVar 0), (eB addD (eC (.int 1)) (eFn m__law_spot [(eVar 4), (eVar 2)]))]) [4])
theorem b_near_eq : b__law_near = sSeq (sSet 2 (eB fdivD (eB subD (eVar 0) (eC (.int 1))) (eC (.int 2)))) (sSeq (sSet 3 (eLst [(eTup [(eVar 0), (eVar 2)]), (eTup [(eVar 0), (eB addD (eVar 2) (eC (.int 1)))]), (eTup [(eVar 0), (eC (.int 0))]), (eTup [(eVar 0), (eB fdivD (eVar 0) (eC (.int 3)))]), (eTup [(e1 negD (eVar 0)), (eC (.int 1))])])) (sSeq (sSet 3 (eB addD (eVar 3) gNear)) (sRet (eB addD (eVar 3) (eLst [(eTup [(eVar 0), (eB subD (e1 negD (eC (.int 1))) (eB modD (eCall intD [(eB ixD (eVar 1) (eC (.int 19)))]) (eC (.int 1000))))]), (eTup [(eVar 0), (eB addD (eB addD (eVar 2) (eC (.int 1))) (eB modD (eCall intD [(eB ixD (eVar 1) (eC (.int 20)))]) (eC (.int 1000))))])]))))) := rfl
theorem near_comp {v half : Int} {C o : D} {zs : List Int} (hs : slD C (some 15) (some 19) = some (.lst (zs.map .int))) (hl : zs.length ≤ 1000) (hh : 1 ≤ half) :
    ∃ ps : List (Int × Int), ps.length = zs.length ∧ (∀ p ∈ ps, p.1 = v) ∧ gNear [si v, some (.val C), si half, some (.val o), none] = .ok (.lst (ps.map pD)) [si v, some (.val C), si half, some (.val o), none] := by
  let g : D → Int := fun d => 1 + (match m__law_spot [d, .int half] with
    | .ok z => dI z
    | _ => 0)
  obtain ⟨ρ', e, x, i⟩ := compL_map (b := bNm 4) (e := (eTup [(eVar 0), (eB addD (eC (.int 1)) (eFn m__law_spot [(eVar 4), (eVar 2)]))])) (vs := [4]) (f := fun d => pD (v, g d)) (I := fun ρ => ∃ x, ρ = [si v, some (.val C), si half, some (.val o), x]) (zs.map .int) [] [si v, some (.val C), si half, some (.val o), none] (fun d hd ρ ⟨x, hx⟩ => by
    subst hx
    obtain ⟨z, _, rfl⟩ := List.mem_map.mp hd
    obtain ⟨r, hr, _, _⟩ := ev_spot (cell := z) hh
    refine ⟨[si v, some (.val C), si half, some (.val o), si z], [si v, some (.val C), si half, some (.val o), si z], rfl, ?_, _, rfl⟩
    simp [runS, endR, envOf, sSeq, sSet, sIf, sRet, sRetN, sEx, sNil, sRaise, sUn, evs, Rs.then, Rs.bind, eB, eC, eVar, eCall, eTup, eLst, eFn, eNot, eAnd, eOr, eIf, eChain, e1, negD, addD, subD, mulD, fdivD, modD, powD, cmpI, eqD, neD, eqB, scalD, eqF, inD, ninD, inB, flat, truth, intD, lenD, minD, divmodD, bNm, bTp, bAll, hr, g, dI, pD]) ⟨none, rfl⟩
  subst i
  refine ⟨(zs.map D.int).map fun d => (v, g d), by rw [List.length_map, List.length_map], fun p hp => ?_, ?_⟩
  · obtain ⟨d, _, rfl⟩ := List.mem_map.mp hp
    rfl
  have hit : (iV seqI (eSl (eVar 1) (some (eC (.int 15))) (some (eC (.int 19))))) [si v, some (.val C), si half, some (.val o), none] = .ok (zs.map .int) [si v, some (.val C), si half, some (.val o), none] := by
    simp [iV, iB, eSl, eOpt, eVar, eC, Rs.bind, hs, seqI]
  have q := eComp_ev (b := bNm 4) (c := eC (.bl true)) (e := (eTup [(eVar 0), (eB addD (eC (.int 1)) (eFn m__law_spot [(eVar 4), (eVar 2)]))])) (vs := [4]) hit (by rw [List.length_map]; omega) rfl e
  have ee : ∀ ds : List D, ([] ++ ds.map fun d => pD (v, g d)) = (ds.map fun d => (v, g d)).map pD := fun ds => by
    rw [List.nil_append, List.map_map]
    rfl
  rw [ee] at q
  exact q
theorem slice_ints (cs : List Int) (lo hi : Option Int) : slD (.lst (cs.map .int)) lo hi = some (.lst ((cutD cs lo hi).map .int)) := by
  show some (D.lst (cutD (cs.map D.int) lo hi)) = _
  rw [cut_map]
theorem ev_near {v : Int} {cs : List Int} (hl : cs.length = 63) (h7 : 7 ≤ v) (ht : v ≤ top60) : ∃ ps : List (Int × Int), m__law_near [.int v, .lst (cs.map .int)] = .ok (.lst (ps.map pD)) ∧ (∀ p ∈ ps, p.1 ≤ top60) ∧ ps.length ≤ 500 := by
  obtain ⟨z19, e19⟩ := ix_ints (cs := cs) (k := 19) (by omega) (by omega)
  obtain ⟨z20, e20⟩ := ix_ints (cs := cs) (k := 20) (by omega) (by omega)
  have hs := slice_ints cs (some 15) (some 19)
  have hz : (cutD cs (some 15) (some 19)).length ≤ 63 := by
    unfold cutD
    rw [List.length_take, List.length_drop]
    omega
  generalize cutD cs (some 15) (some 19) = zs at hs hz
  generalize D.lst (cs.map D.int) = C at *
  have fh : (v - 1).fdiv 2 = (v - 1) / 2 := fd (by decide)
  have f3 : v.fdiv 3 = v / 3 := fd (by decide)
  have f1 : z19.fmod 1000 = z19 % 1000 := fm (by decide)
  have f2 : z20.fmod 1000 = z20 % 1000 := fm (by decide)
  have d2 : ∀ x, divOk x 2 = true := fun _ => rfl
  have d3 : ∀ x, divOk x 3 = true := fun _ => rfl
  obtain ⟨ps, hp1, hp2, hp3⟩ := near_comp (v := v) (half := (v - 1) / 2) (C := C) (o := .lst ([(v, (v - 1) / 2), (v, (v - 1) / 2 + 1), (v, 0), (v, v / 3), (-v, 1)].map pD)) (zs := zs) hs (by omega) (by omega)
  have a1 : addD (.lst ([(v, (v - 1) / 2), (v, (v - 1) / 2 + 1), (v, 0), (v, v / 3), (-v, 1)].map pD)) (.lst (ps.map pD)) = some (.lst (([(v, (v - 1) / 2), (v, (v - 1) / 2 + 1), (v, 0), (v, v / 3), (-v, 1)] ++ ps).map pD)) := by
    rw [addL (by rw [List.length_map, List.length_map, hp1]; simp; omega), List.map_append]
  have a2 : addD (.lst (([(v, (v - 1) / 2), (v, (v - 1) / 2 + 1), (v, 0), (v, v / 3), (-v, 1)] ++ ps).map pD)) (.lst ([(v, -1 - z19 % 1000), (v, (v - 1) / 2 + 1 + z20 % 1000)].map pD)) = some (.lst (([(v, (v - 1) / 2), (v, (v - 1) / 2 + 1), (v, 0), (v, v / 3), (-v, 1)] ++ ps ++ [(v, -1 - z19 % 1000), (v, (v - 1) / 2 + 1 + z20 % 1000)]).map pD)) := by
    rw [addL (by rw [List.length_map, List.length_map, List.length_append, hp1]; simp; omega), ← List.map_append]
  refine ⟨[(v, (v - 1) / 2), (v, (v - 1) / 2 + 1), (v, 0), (v, v / 3), (-v, 1)] ++ ps ++ [(v, -1 - z19 % 1000), (v, (v - 1) / 2 + 1 + z20 % 1000)], ?_, fun p hp => ?_, by simp; omega⟩
  · have s1 : (sSet 2 (eB fdivD (eB subD (eVar 0) (eC (.int 1))) (eC (.int 2)))) (envOf 5 [.int v, C]) = .nx [si v, some (.val C), si ((v - 1) / 2), none, none] := by
      simp [runS, endR, envOf, sSeq, sSet, sIf, sRet, sRetN, sEx, sNil, sRaise, sUn, evs, Rs.then, Rs.bind, eB, eC, eVar, eCall, eTup, eLst, eFn, eNot, eAnd, eOr, eIf, eChain, e1, negD, addD, subD, mulD, fdivD, modD, powD, cmpI, eqD, neD, eqB, scalD, eqF, inD, ninD, inB, flat, truth, intD, lenD, minD, divmodD, bNm, bTp, bAll, d2, fh, List.replicate]
    have s2 : (sSet 3 (eLst [(eTup [(eVar 0), (eVar 2)]), (eTup [(eVar 0), (eB addD (eVar 2) (eC (.int 1)))]), (eTup [(eVar 0), (eC (.int 0))]), (eTup [(eVar 0), (eB fdivD (eVar 0) (eC (.int 3)))]), (eTup [(e1 negD (eVar 0)), (eC (.int 1))])])) [si v, some (.val C), si ((v - 1) / 2), none, none] = .nx [si v, some (.val C), si ((v - 1) / 2), some (.val (.lst ([(v, (v - 1) / 2), (v, (v - 1) / 2 + 1), (v, 0), (v, v / 3), (-v, 1)].map pD))), none] := by
      simp [runS, endR, envOf, sSeq, sSet, sIf, sRet, sRetN, sEx, sNil, sRaise, sUn, evs, Rs.then, Rs.bind, eB, eC, eVar, eCall, eTup, eLst, eFn, eNot, eAnd, eOr, eIf, eChain, e1, negD, addD, subD, mulD, fdivD, modD, powD, cmpI, eqD, neD, eqB, scalD, eqF, inD, ninD, inB, flat, truth, intD, lenD, minD, divmodD, bNm, bTp, bAll, d3, f3, pD]
    have v3 : eVar 3 [si v, some (.val C), si ((v - 1) / 2), some (.val (.lst ([(v, (v - 1) / 2), (v, (v - 1) / 2 + 1), (v, 0), (v, v / 3), (-v, 1)].map pD))), none] = .ok (.lst ([(v, (v - 1) / 2), (v, (v - 1) / 2 + 1), (v, 0), (v, v / 3), (-v, 1)].map pD)) [si v, some (.val C), si ((v - 1) / 2), some (.val (.lst ([(v, (v - 1) / 2), (v, (v - 1) / 2 + 1), (v, 0), (v, v / 3), (-v, 1)].map pD))), none] := rfl
    have s3 := sSet_ev (i := 3) (eB_ev v3 hp3 a1)
    generalize hA : [(v, (v - 1) / 2), (v, (v - 1) / 2 + 1), (v, 0), (v, v / 3), (-v, 1)] ++ ps = A at *
    have w3 : eVar 3 [si v, some (.val C), si ((v - 1) / 2), some (.val (.lst (A.map pD))), none] = .ok (.lst (A.map pD)) [si v, some (.val C), si ((v - 1) / 2), some (.val (.lst (A.map pD))), none] := rfl
    have l3 : (eLst [(eTup [(eVar 0), (eB subD (e1 negD (eC (.int 1))) (eB modD (eCall intD [(eB ixD (eVar 1) (eC (.int 19)))]) (eC (.int 1000))))]), (eTup [(eVar 0), (eB addD (eB addD (eVar 2) (eC (.int 1))) (eB modD (eCall intD [(eB ixD (eVar 1) (eC (.int 20)))]) (eC (.int 1000))))])]) [si v, some (.val C), si ((v - 1) / 2), some (.val (.lst (A.map pD))), none] = .ok (.lst ([(v, -1 - z19 % 1000), (v, (v - 1) / 2 + 1 + z20 % 1000)].map pD)) [si v, some (.val C), si ((v - 1) / 2), some (.val (.lst (A.map pD))), none] := by
      simp [runS, endR, envOf, sSeq, sSet, sIf, sRet, sRetN, sEx, sNil, sRaise, sUn, evs, Rs.then, Rs.bind, eB, eC, eVar, eCall, eTup, eLst, eFn, eNot, eAnd, eOr, eIf, eChain, e1, negD, addD, subD, mulD, fdivD, modD, powD, cmpI, eqD, neD, eqB, scalD, eqF, inD, ninD, inB, flat, truth, intD, lenD, minD, divmodD, bNm, bTp, bAll, e19, e20, f1, f2, pD]
    have s4 := sRet_ev (eB_ev w3 l3 a2)
    unfold m__law_near
    rw [b_near_eq]
    show endR (sSeq _ _ _) = _
    rw [sSeq_nx s1, sSeq_nx s2, sSeq_nx s3]
    show endR (sRet _ [si v, some (.val C), si ((v - 1) / 2), some (.val (.lst (A.map pD))), none]) = _
    rw [s4]
    rfl
  · rcases List.mem_append.mp hp with hp | hp
    · rcases List.mem_append.mp hp with hp | hp
      · simp only [List.mem_cons, List.not_mem_nil, or_false] at hp
        rcases hp with rfl | rfl | rfl | rfl | rfl <;> dsimp only <;> omega
      · rw [hp2 p hp]
        exact ht
    · simp only [List.mem_cons, List.not_mem_nil, or_false] at hp
      rcases hp with rfl | rfl <;> dsimp only <;> omega
end K39

/-! What the defs answer. -/
namespace K39
open PySem MB
theorem ev_others {cs : List Int} (hl : cs.length = 63) : ∃ ps : List (Int × Int), m__law_others [.lst (cs.map .int)] = .ok (.lst (ps.map pD)) ∧ (∀ p ∈ ps, p.1 ≤ top60) ∧ ps.length ≤ 100 := by
  obtain ⟨z21, e21⟩ := ix_ints (cs := cs) (k := 21) (by omega) (by omega)
  obtain ⟨z22, e22⟩ := ix_ints (cs := cs) (k := 22) (by omega) (by omega)
  obtain ⟨z23, e23⟩ := ix_ints (cs := cs) (k := 23) (by omega) (by omega)
  obtain ⟨z24, e24⟩ := ix_ints (cs := cs) (k := 24) (by omega) (by omega)
  generalize D.lst (cs.map D.int) = C at *
  have f60 : z21.fmod 60 = z21 % 60 := fm (by decide)
  have f30 : z22.fmod 1000000000000000000000000000000 = z22 % 1000000000000000000000000000000 := fm (by decide)
  have f36 : z23.fmod 36 = z23 % 36 := fm (by decide)
  obtain ⟨r, hr, _, _⟩ := ev_spot (cell := z24) (many := 10000000000000000000000000000000000000000000000000000000000) (by decide)
  refine ⟨[(5 + z21 % 60, z23 % 36), (5 + z21 % 60, 1), (1000000000000000000000000000000000000000000000000000000000000 - z22 % 1000000000000000000000000000000, 0), (1000000000000000000000000000000000000000000000000000000000000 - z22 % 1000000000000000000000000000000, 1 + r), (9, 3), (9, 1), (9, 5), (8, 9), (8, 3), (6, -5), (7, 0), (7, 3), (7, 4), (15, 5), (15, 6), (21, 7), (1000000000000000000000000000000000000000000000000000000000000, 1), (12, 4), (11, 2)], ?_, fun p hp => ?_, by simp⟩
  · have hz : ∀ n : Nat, n ≤ 100 → n ≤ sizeLine := fun n h => by rw [sizeLine_eq]; omega
    have h13 : 13 ≤ sizeLine := hz _ (by decide)
    have h19 : 19 ≤ sizeLine := hz _ (by decide)
    simp [m__law_others, b__law_others, runS, endR, envOf, sSeq, sSet, sIf, sRet, sRetN, sEx, sNil, sRaise, sUn, evs, Rs.then, Rs.bind, eB, eC, eVar, eCall, eTup, eLst, eFn, eNot, eAnd, eOr, eIf, eChain, e1, negD, addD, subD, mulD, fdivD, modD, powD, cmpI, eqD, neD, eqB, scalD, eqF, inD, ninD, inB, flat, truth, intD, lenD, minD, divmodD, bNm, bTp, bAll, List.replicate, e21, e22, e23, e24, f60, f30, f36, hr, pD, h13, h19]
  · simp only [List.mem_cons, List.not_mem_nil, or_false] at hp
    rcases hp with rfl | rfl | rfl | rfl | rfl | rfl | rfl | rfl | rfl | rfl | rfl | rfl | rfl | rfl | rfl | rfl | rfl | rfl | rfl <;> dsimp only <;> unfold top60 <;> omega
def gP : SX := (sIf (eNot (eFn (m__law_like 5) [(eFn m__law_ask [(eB ixD (eVar 4) (eC (.int 0))), (eB ixD (eVar 4) (eC (.int 1)))]), (eFn m__law_wanted [(eB ixD (eVar 4) (eC (.int 0))), (eB ixD (eVar 4) (eC (.int 1)))])]))
  (sRet (eC (.bl false))) sNil)
def gK : SX := (sIf (eNot (eFn m__law_family [(eVar 2), (eB ixD (eVar 1) (eB addD (eC (.int 3)) (eB mulD (eC (.int 2)) (eVar 3)))), (eB ixD (eVar 1) (eB addD (eC (.int 4)) (eB mulD (eC (.int 2)) (eVar 3))))]))
  (sRet (eC (.bl false))) sNil)
theorem b_law_eq : b_law = sSeq (sSet 1 (eFn m__law_cells [(eVar 0)])) (sSeq (sSet 2 (eFn m__law_size [(eB modD (eCall intD [(eB ixD (eVar 1) (eC (.int 0)))]) (eC (.int 6))), (eB ixD (eVar 1) (eC (.int 1))), (eB ixD (eVar 1) (eC (.int 2)))])) (sSeq (sFor (iR1 (eC (.int 6))) (bNm 3) gK) (sSeq (sIf (eAnd (eB leD (eVar 2) (eC (.int 120))) (eNot (eFn m__law_every [(eVar 2)])))
  (sRet (eC (.bl false))) sNil) (sSeq (sFor (iV seqI (eB addD (eFn m__law_near [(eVar 2), (eVar 1)]) (eFn m__law_others [(eVar 1)]))) (bNm 4) gP) (sRet (eC (.bl true))))))) := rfl
theorem gP_ev {p : Int × Int} {y0 y1 y2 y3 : Option Sl} (h : p.1 ≤ top60) : gP [y0, y1, y2, y3, some (.val (pD p))] = .nx [y0, y1, y2, y3, some (.val (pD p))] := by
  obtain ⟨x, h1, h2, h3⟩ := told_wanted (d := p.2) h
  have i0 : ixD (pD p) (.int 0) = some (.int p.1) := rfl
  have i1 : ixD (pD p) (.int 1) = some (.int p.2) := rfl
  simp [gP, runS, endR, envOf, sSeq, sSet, sIf, sRet, sRetN, sEx, sNil, sRaise, sUn, evs, Rs.then, Rs.bind, eB, eC, eVar, eCall, eTup, eLst, eFn, eNot, eAnd, eOr, eIf, eChain, e1, negD, addD, subD, mulD, fdivD, modD, powD, cmpI, eqD, neD, eqB, scalD, eqF, inD, ninD, inB, flat, truth, intD, lenD, minD, divmodD, bNm, bTp, bAll, i0, i1, h1, h2, h3]
theorem gK_ev {v k : Int} {cs : List Int} {y0 y4 : Option Sl} (hl : cs.length = 63) (h7 : 7 ≤ v) (ht : v ≤ top60) (hr : ring v) (k0 : 0 ≤ k) (k1 : k < 6) :
    gK [y0, some (.val (.lst (cs.map .int))), si v, si k, y4] = .nx [y0, some (.val (.lst (cs.map .int))), si v, si k, y4] := by
  obtain ⟨z1, e1⟩ := ix_ints (cs := cs) (k := 3 + 2 * k) (by omega) (by omega)
  obtain ⟨z2, e2⟩ := ix_ints (cs := cs) (k := 4 + 2 * k) (by omega) (by omega)
  generalize D.lst (cs.map D.int) = C at *
  have m2 : ∀ x, mulOk 2 x = true := mulOk_l (by decide)
  have hf := ev_family (which := z1) (cell := z2) h7 ht hr
  simp [gK, runS, endR, envOf, sSeq, sSet, sIf, sRet, sRetN, sEx, sNil, sRaise, sUn, evs, Rs.then, Rs.bind, eB, eC, eVar, eCall, eTup, eLst, eFn, eNot, eAnd, eOr, eIf, eChain, e1, negD, addD, subD, mulD, fdivD, modD, powD, cmpI, eqD, neD, eqB, scalD, eqF, inD, ninD, inB, flat, truth, intD, lenD, minD, divmodD, bNm, bTp, bAll, e1, e2, m2, hf]
theorem eFn1_ev {m : Fn} {f : EX} {ρ ρ1 : En} {d z : D} (h : f ρ = .ok d ρ1) (hm : m [d] = .ok z) : eFn m [f] ρ = .ok z ρ1 := by
  show ((f ρ).bind fun d ρ1 => match m [d] with
    | .ok d => .ok d ρ1
    | .err x => .err x ρ1
    | .stuck => .stuck) = _
  rw [h]
  show (match m [d] with
    | .ok d => Rs.ok d ρ1
    | .err x => .err x ρ1
    | .stuck => .stuck) = _
  rw [hm]
theorem ev_law {ns : List Int} (hn : ns.length ≤ 63) (hev : ∀ v : Int, 7 ≤ v → v ≤ 120 → ring v → m__law_every [.int v] = .ok (.bl true)) : m_law [.scr ns] = .ok (.bl true) := by
  obtain ⟨cs, hl, hc⟩ := ev_cells hn
  obtain ⟨z0, e0⟩ := ix_ints (cs := cs) (k := 0) (by omega) (by omega)
  obtain ⟨z1, e1⟩ := ix_ints (cs := cs) (k := 1) (by omega) (by omega)
  obtain ⟨z2, e2⟩ := ix_ints (cs := cs) (k := 2) (by omega) (by omega)
  obtain ⟨v, hv, h7, ht, hr⟩ := ev_size (kind := z0 % 6) (pick := z1) (cell := z2) (by omega) (by omega)
  obtain ⟨ps, hp1, hp2, hp3⟩ := ev_near hl h7 ht
  obtain ⟨qs, hq1, hq2, hq3⟩ := ev_others hl
  have f6 : z0.fmod 6 = z0 % 6 := fm (by decide)
  have hadd : addD (.lst (ps.map pD)) (.lst (qs.map pD)) = some (.lst ((ps ++ qs).map pD)) := by
    rw [addL (by rw [List.length_map, List.length_map]; omega), List.map_append]
  have s1 : (sSet 1 (eFn m__law_cells [(eVar 0)])) (envOf 5 [.scr ns]) = .nx [some (.val (.scr ns)), some (.val (.lst (cs.map .int))), none, none, none] := sSet_ev (i := 1) (eFn1_ev (f := eVar 0) (ρ := envOf 5 [.scr ns]) (ρ1 := [some (.val (.scr ns)), none, none, none, none]) (d := .scr ns) rfl hc)
  have lk := loop_nx (b := bNm 3) (g := gK) (I := fun ρ => ∃ y, ρ = [some (.val (.scr ns)), some (.val (.lst (cs.map .int))), si v, y, none]) (rangeL 0 6) [some (.val (.scr ns)), some (.val (.lst (cs.map .int))), si v, none, none] (fun d hd ρ ⟨y, hy⟩ => by
    subst hy
    obtain ⟨k, k0, k1, rfl⟩ : ∃ k : Int, 0 ≤ k ∧ k < 6 ∧ d = .int k := by
      obtain ⟨i, hi, e⟩ := mem_rangeL hd
      exact ⟨_, by omega, by omega, e⟩
    exact ⟨_, _, rfl, gK_ev hl h7 ht hr k0 k1, _, rfl⟩) ⟨none, rfl⟩
  obtain ⟨ρk, ek, yk, rfl⟩ := lk
  have lp := loop_nx (b := bNm 4) (g := gP) (I := fun ρ => ∃ y, ρ = [some (.val (.scr ns)), some (.val (.lst (cs.map .int))), si v, yk, y]) ((ps ++ qs).map pD) [some (.val (.scr ns)), some (.val (.lst (cs.map .int))), si v, yk, none] (fun d hd ρ ⟨y, hy⟩ => by
    subst hy
    obtain ⟨p, hp, rfl⟩ := List.mem_map.mp hd
    have hb : p.1 ≤ top60 := by
      rcases List.mem_append.mp hp with hp | hp
      · exact hp2 p hp
      · exact hq2 p hp
    exact ⟨_, _, rfl, gP_ev hb, _, rfl⟩) ⟨none, rfl⟩
  obtain ⟨ρp, ep, yp, rfl⟩ := lp
  generalize D.lst (cs.map D.int) = C at *
  have s2 : (sSet 2 (eFn m__law_size [(eB modD (eCall intD [(eB ixD (eVar 1) (eC (.int 0)))]) (eC (.int 6))), (eB ixD (eVar 1) (eC (.int 1))), (eB ixD (eVar 1) (eC (.int 2)))])) [some (.val (.scr ns)), some (.val C), none, none, none] = .nx [some (.val (.scr ns)), some (.val C), si v, none, none] := by
    simp [runS, endR, envOf, sSeq, sSet, sIf, sRet, sRetN, sEx, sNil, sRaise, sUn, evs, Rs.then, Rs.bind, eB, eC, eVar, eCall, eTup, eLst, eFn, eNot, eAnd, eOr, eIf, eChain, e1, negD, addD, subD, mulD, fdivD, modD, powD, cmpI, eqD, neD, eqB, scalD, eqF, inD, ninD, inB, flat, truth, intD, lenD, minD, divmodD, bNm, bTp, bAll, e0, e1, e2, f6, hv]
  have s3 : (sFor (iR1 (eC (.int 6))) (bNm 3) gK) [some (.val (.scr ns)), some (.val C), si v, none, none] = .nx [some (.val (.scr ns)), some (.val C), si v, yk, none] := by
    have hit := iR1_ev (f := eC (.int 6)) (ρ := [some (.val (.scr ns)), some (.val C), si v, none, none]) rfl (show big 6 = true from rfl)
    unfold sFor
    rw [hit]
    exact ek
  have s4 : (sIf (eAnd (eB leD (eVar 2) (eC (.int 120))) (eNot (eFn m__law_every [(eVar 2)])))
  (sRet (eC (.bl false))) sNil) [some (.val (.scr ns)), some (.val C), si v, yk, none] = .nx [some (.val (.scr ns)), some (.val C), si v, yk, none] := by
    by_cases k : v ≤ 120
    · have he := hev v h7 k hr
      simp [runS, endR, envOf, sSeq, sSet, sIf, sRet, sRetN, sEx, sNil, sRaise, sUn, evs, Rs.then, Rs.bind, eB, eC, eVar, eCall, eTup, eLst, eFn, eNot, eAnd, eOr, eIf, eChain, e1, negD, addD, subD, mulD, fdivD, modD, powD, cmpI, eqD, neD, eqB, scalD, eqF, inD, ninD, inB, flat, truth, intD, lenD, minD, divmodD, bNm, bTp, bAll, k, he]
    · simp [runS, endR, envOf, sSeq, sSet, sIf, sRet, sRetN, sEx, sNil, sRaise, sUn, evs, Rs.then, Rs.bind, eB, eC, eVar, eCall, eTup, eLst, eFn, eNot, eAnd, eOr, eIf, eChain, e1, negD, addD, subD, mulD, fdivD, modD, powD, cmpI, eqD, neD, eqB, scalD, eqF, inD, ninD, inB, flat, truth, intD, lenD, minD, divmodD, bNm, bTp, bAll, k]
  have s5 : (sFor (iV seqI (eB addD (eFn m__law_near [(eVar 2), (eVar 1)]) (eFn m__law_others [(eVar 1)]))) (bNm 4) gP) [some (.val (.scr ns)), some (.val C), si v, yk, none] = .nx [some (.val (.scr ns)), some (.val C), si v, yk, yp] := by
    have hit : (iV seqI (eB addD (eFn m__law_near [(eVar 2), (eVar 1)]) (eFn m__law_others [(eVar 1)]))) [some (.val (.scr ns)), some (.val C), si v, yk, none] = .ok ((ps ++ qs).map pD) [some (.val (.scr ns)), some (.val C), si v, yk, none] := by
      have e1 : (eFn m__law_near [(eVar 2), (eVar 1)]) [some (.val (.scr ns)), some (.val C), si v, yk, none] = .ok (.lst (ps.map pD)) [some (.val (.scr ns)), some (.val C), si v, yk, none] := by
        simp [eFn, evs, eVar, Rs.bind, hp1]
      have e2 : (eFn m__law_others [(eVar 1)]) [some (.val (.scr ns)), some (.val C), si v, yk, none] = .ok (.lst (qs.map pD)) [some (.val (.scr ns)), some (.val C), si v, yk, none] := by
        simp [eFn, evs, eVar, Rs.bind, hq1]
      have e3 := eB_ev e1 e2 hadd
      simp only [iV, iB, e3, seqI]
    unfold sFor
    rw [hit]
    exact ep
  unfold m_law
  rw [b_law_eq]
  show endR (sSeq _ _ _) = _
  rw [sSeq_nx s1, sSeq_nx s2, sSeq_nx s3, sSeq_nx s4, sSeq_nx s5]
  rfl
end K39

/-! What the defs answer. -/
namespace K39
open PySem MB
def FF (v : Int) : List Fam := if v = 27 then F27 else if v = 45 then F45 else if v % 18 = 1 then F1 (v / 18) else if v % 18 = 3 then F3 (v / 18) else if v % 18 = 7 then F7 (v / 18) else if v % 18 = 9 then F9 (v / 18) else if v % 18 = 13 then F13 (v / 18) else F15 (v / 18)
theorem fnd_FF {v : Int} (h7 : 7 ≤ v) (hr : ring v) (d : Int) : m_found_triple [.int v, .int d] = (match found v d (FF v) with
      | some t => .ok (t3D t)
      | none => .err (kindE "short")) := by
  obtain ⟨h6, h9⟩ := hr
  have hs : v.fdiv 18 = v / 18 := fd (by decide)
  have hm : v.fmod 18 = v % 18 := fm (by decide)
  unfold FF
  by_cases k1 : v = 27
  · subst k1
    refine ev_found (nm := "_families_of_9") rfl rfl rfl ?_
    intro f hf
    simp only [if_true, F27, List.mem_cons, List.not_mem_nil, or_false] at hf
    rcases hf with rfl | rfl | rfl | rfl <;> simp [okF, mulOkF, mulOk]
  · rw [if_neg k1]
    by_cases k2 : v = 45
    · subst k2
      refine ev_found (nm := "_families_of_9") rfl rfl rfl ?_
      intro f hf
      simp only [if_true, F45, List.mem_cons, List.not_mem_nil, or_false] at hf
      rcases hf with rfl | rfl | rfl | rfl | rfl | rfl | rfl <;> simp [okF, mulOkF, mulOk]
    · rw [if_neg k2]
      by_cases c1 : v % 18 = 1
      · rw [if_pos c1]
        exact ev_found (nm := "_families_of_1") (by rw [hm, c1]; rfl) rfl (by rw [hs]; exact ev_fam1 _) (okF1 _)
      · rw [if_neg c1]
        by_cases c3 : v % 18 = 3
        · rw [if_pos c3]
          exact ev_found (nm := "_families_of_3") (by rw [hm, c3]; rfl) rfl (by rw [hs]; exact ev_fam3 _) (okF3 _)
        · rw [if_neg c3]
          by_cases c7 : v % 18 = 7
          · rw [if_pos c7]
            exact ev_found (nm := "_families_of_7") (by rw [hm, c7]; rfl) rfl (by rw [hs]; exact ev_fam7 _) (okF7 _)
          · rw [if_neg c7]
            by_cases c9 : v % 18 = 9
            · rw [if_pos c9]
              exact ev_found (nm := "_families_of_9") (by rw [hm, c9]; rfl) rfl (by rw [hs]; exact ev_fam9' _ (by omega) (by omega)) (okF9 _)
            · rw [if_neg c9]
              by_cases c13 : v % 18 = 13
              · rw [if_pos c13]
                exact ev_found (nm := "_families_of_13") (by rw [hm, c13]; rfl) rfl (by rw [hs]; exact ev_fam13 _) (okF13 _)
              · rw [if_neg c13]
                have c15 : v % 18 = 15 := by omega
                exact ev_found (nm := "_families_of_15") (by rw [hm, c15]; rfl) rfl (by rw [hs]; exact ev_fam15 _) (okF15 _)

def tv (v d : Int) : T3 := (found v d (FF v)).getD (0, 0, 0)
def outF (v : Int) : List Int → List Int → List Int
  | [], acc => acc
  | d :: ds, acc => outF v ds (if 3 * d = v then acc else if (tv v d).1 = d then acc ++ [(tv v d).1, (tv v d).2.1, (tv v d).2.2] else acc)
def dsOf (v : Int) : List Int := (List.range ((v + 1) / 2 - 1).toNat).map fun (i : Nat) => 1 + (i : Int)
def wantF (v : Int) : List Int := (dsOf v).filter fun d => !(3 * d == v)
def chkE (v : Int) : Bool := (outF v (dsOf v) []).isPerm (wantF v) && (decide ((wantF v).Pairwise (· ≤ ·)) && match eqB (.lst ((wantF v).map .int)) (.lst ((wantF v).map .int)) with
  | some b => b
  | none => false)
def ringB (v : Int) : Bool := (v % 6 == 1 || v % 6 == 3) && !(v == 9)
def chkN (n : Nat) : Bool := !(decide (7 ≤ n) && ringB (n : Int)) || chkE (n : Int)
theorem chk_0 : ([0, 1, 2, 3].all chkN) = true := by decide +kernel
theorem chk_1 : ([4, 5, 6, 7].all chkN) = true := by decide +kernel
theorem chk_2 : ([8, 9, 10, 11].all chkN) = true := by decide +kernel
theorem chk_3 : ([12, 13, 14, 15].all chkN) = true := by decide +kernel
theorem chk_4 : ([16, 17, 18, 19].all chkN) = true := by decide +kernel
theorem chk_5 : ([20, 21, 22, 23].all chkN) = true := by decide +kernel
theorem chk_6 : ([24, 25, 26, 27].all chkN) = true := by decide +kernel
theorem chk_7 : ([28, 29, 30, 31].all chkN) = true := by decide +kernel
theorem chk_8 : ([32, 33, 34, 35].all chkN) = true := by decide +kernel
theorem chk_9 : ([36, 37, 38, 39].all chkN) = true := by decide +kernel
theorem chk_10 : ([40, 41, 42, 43].all chkN) = true := by decide +kernel
theorem chk_11 : ([44, 45, 46, 47].all chkN) = true := by decide +kernel
theorem chk_12 : ([48, 49, 50, 51].all chkN) = true := by decide +kernel
theorem chk_13 : ([52, 53, 54, 55].all chkN) = true := by decide +kernel
theorem chk_14 : ([56, 57, 58, 59].all chkN) = true := by decide +kernel
theorem chk_15 : ([60, 61, 62, 63].all chkN) = true := by decide +kernel
theorem chk_16 : ([64, 65, 66, 67].all chkN) = true := by decide +kernel
theorem chk_17 : ([68, 69, 70, 71].all chkN) = true := by decide +kernel
theorem chk_18 : ([72, 73, 74, 75].all chkN) = true := by decide +kernel
theorem chk_19 : ([76, 77, 78, 79].all chkN) = true := by decide +kernel
theorem chk_20 : ([80, 81, 82, 83].all chkN) = true := by decide +kernel
theorem chk_21 : ([84, 85, 86, 87].all chkN) = true := by decide +kernel
theorem chk_22 : ([88, 89, 90, 91].all chkN) = true := by decide +kernel
theorem chk_23 : ([92, 93, 94, 95].all chkN) = true := by decide +kernel
theorem chk_24 : ([96, 97, 98, 99].all chkN) = true := by decide +kernel
theorem chk_25 : ([100, 101, 102, 103].all chkN) = true := by decide +kernel
theorem chk_26 : ([104, 105, 106, 107].all chkN) = true := by decide +kernel
theorem chk_27 : ([108, 109, 110, 111].all chkN) = true := by decide +kernel
theorem chk_28 : ([112, 113, 114, 115].all chkN) = true := by decide +kernel
theorem chk_29 : ([116, 117, 118, 119].all chkN) = true := by decide +kernel
theorem chk_30 : ([120, 121, 122, 123].all chkN) = true := by decide +kernel
theorem chk_n {n : Nat} (h : n < 124) : chkN n = true := by
  have hd : n / 4 < 31 := by omega
  have hm : n % 4 < 4 := by omega
  have e : n = 4 * (n / 4) + n % 4 := by omega
  generalize n / 4 = q at *
  generalize n % 4 = r at *
  subst e
  have hq : q = 0 ∨ q = 1 ∨ q = 2 ∨ q = 3 ∨ q = 4 ∨ q = 5 ∨ q = 6 ∨ q = 7 ∨ q = 8 ∨ q = 9 ∨ q = 10 ∨ q = 11 ∨ q = 12 ∨ q = 13 ∨ q = 14 ∨ q = 15 ∨ q = 16 ∨ q = 17 ∨ q = 18 ∨ q = 19 ∨ q = 20 ∨ q = 21 ∨ q = 22 ∨ q = 23 ∨ q = 24 ∨ q = 25 ∨ q = 26 ∨ q = 27 ∨ q = 28 ∨ q = 29 ∨ q = 30 := by omega
  have hr4 : r = 0 ∨ r = 1 ∨ r = 2 ∨ r = 3 := by omega
  rcases hq with rfl | rfl | rfl | rfl | rfl | rfl | rfl | rfl | rfl | rfl | rfl | rfl | rfl | rfl | rfl | rfl | rfl | rfl | rfl | rfl | rfl | rfl | rfl | rfl | rfl | rfl | rfl | rfl | rfl | rfl | rfl
  · have z := chk_0
    simp only [List.all_cons, List.all_nil, Bool.and_true, Bool.and_eq_true] at z
    rcases hr4 with rfl | rfl | rfl | rfl
    · exact z.1
    · exact z.2.1
    · exact z.2.2.1
    · exact z.2.2.2
  · have z := chk_1
    simp only [List.all_cons, List.all_nil, Bool.and_true, Bool.and_eq_true] at z
    rcases hr4 with rfl | rfl | rfl | rfl
    · exact z.1
    · exact z.2.1
    · exact z.2.2.1
    · exact z.2.2.2
  · have z := chk_2
    simp only [List.all_cons, List.all_nil, Bool.and_true, Bool.and_eq_true] at z
    rcases hr4 with rfl | rfl | rfl | rfl
    · exact z.1
    · exact z.2.1
    · exact z.2.2.1
    · exact z.2.2.2
  · have z := chk_3
    simp only [List.all_cons, List.all_nil, Bool.and_true, Bool.and_eq_true] at z
    rcases hr4 with rfl | rfl | rfl | rfl
    · exact z.1
    · exact z.2.1
    · exact z.2.2.1
    · exact z.2.2.2
  · have z := chk_4
    simp only [List.all_cons, List.all_nil, Bool.and_true, Bool.and_eq_true] at z
    rcases hr4 with rfl | rfl | rfl | rfl
    · exact z.1
    · exact z.2.1
    · exact z.2.2.1
    · exact z.2.2.2
  · have z := chk_5
    simp only [List.all_cons, List.all_nil, Bool.and_true, Bool.and_eq_true] at z
    rcases hr4 with rfl | rfl | rfl | rfl
    · exact z.1
    · exact z.2.1
    · exact z.2.2.1
    · exact z.2.2.2
  · have z := chk_6
    simp only [List.all_cons, List.all_nil, Bool.and_true, Bool.and_eq_true] at z
    rcases hr4 with rfl | rfl | rfl | rfl
    · exact z.1
    · exact z.2.1
    · exact z.2.2.1
    · exact z.2.2.2
  · have z := chk_7
    simp only [List.all_cons, List.all_nil, Bool.and_true, Bool.and_eq_true] at z
    rcases hr4 with rfl | rfl | rfl | rfl
    · exact z.1
    · exact z.2.1
    · exact z.2.2.1
    · exact z.2.2.2
  · have z := chk_8
    simp only [List.all_cons, List.all_nil, Bool.and_true, Bool.and_eq_true] at z
    rcases hr4 with rfl | rfl | rfl | rfl
    · exact z.1
    · exact z.2.1
    · exact z.2.2.1
    · exact z.2.2.2
  · have z := chk_9
    simp only [List.all_cons, List.all_nil, Bool.and_true, Bool.and_eq_true] at z
    rcases hr4 with rfl | rfl | rfl | rfl
    · exact z.1
    · exact z.2.1
    · exact z.2.2.1
    · exact z.2.2.2
  · have z := chk_10
    simp only [List.all_cons, List.all_nil, Bool.and_true, Bool.and_eq_true] at z
    rcases hr4 with rfl | rfl | rfl | rfl
    · exact z.1
    · exact z.2.1
    · exact z.2.2.1
    · exact z.2.2.2
  · have z := chk_11
    simp only [List.all_cons, List.all_nil, Bool.and_true, Bool.and_eq_true] at z
    rcases hr4 with rfl | rfl | rfl | rfl
    · exact z.1
    · exact z.2.1
    · exact z.2.2.1
    · exact z.2.2.2
  · have z := chk_12
    simp only [List.all_cons, List.all_nil, Bool.and_true, Bool.and_eq_true] at z
    rcases hr4 with rfl | rfl | rfl | rfl
    · exact z.1
    · exact z.2.1
    · exact z.2.2.1
    · exact z.2.2.2
  · have z := chk_13
    simp only [List.all_cons, List.all_nil, Bool.and_true, Bool.and_eq_true] at z
    rcases hr4 with rfl | rfl | rfl | rfl
    · exact z.1
    · exact z.2.1
    · exact z.2.2.1
    · exact z.2.2.2
  · have z := chk_14
    simp only [List.all_cons, List.all_nil, Bool.and_true, Bool.and_eq_true] at z
    rcases hr4 with rfl | rfl | rfl | rfl
    · exact z.1
    · exact z.2.1
    · exact z.2.2.1
    · exact z.2.2.2
  · have z := chk_15
    simp only [List.all_cons, List.all_nil, Bool.and_true, Bool.and_eq_true] at z
    rcases hr4 with rfl | rfl | rfl | rfl
    · exact z.1
    · exact z.2.1
    · exact z.2.2.1
    · exact z.2.2.2
  · have z := chk_16
    simp only [List.all_cons, List.all_nil, Bool.and_true, Bool.and_eq_true] at z
    rcases hr4 with rfl | rfl | rfl | rfl
    · exact z.1
    · exact z.2.1
    · exact z.2.2.1
    · exact z.2.2.2
  · have z := chk_17
    simp only [List.all_cons, List.all_nil, Bool.and_true, Bool.and_eq_true] at z
    rcases hr4 with rfl | rfl | rfl | rfl
    · exact z.1
    · exact z.2.1
    · exact z.2.2.1
    · exact z.2.2.2
  · have z := chk_18
    simp only [List.all_cons, List.all_nil, Bool.and_true, Bool.and_eq_true] at z
    rcases hr4 with rfl | rfl | rfl | rfl
    · exact z.1
    · exact z.2.1
    · exact z.2.2.1
    · exact z.2.2.2
  · have z := chk_19
    simp only [List.all_cons, List.all_nil, Bool.and_true, Bool.and_eq_true] at z
    rcases hr4 with rfl | rfl | rfl | rfl
    · exact z.1
    · exact z.2.1
    · exact z.2.2.1
    · exact z.2.2.2
  · have z := chk_20
    simp only [List.all_cons, List.all_nil, Bool.and_true, Bool.and_eq_true] at z
    rcases hr4 with rfl | rfl | rfl | rfl
    · exact z.1
    · exact z.2.1
    · exact z.2.2.1
    · exact z.2.2.2
  · have z := chk_21
    simp only [List.all_cons, List.all_nil, Bool.and_true, Bool.and_eq_true] at z
    rcases hr4 with rfl | rfl | rfl | rfl
    · exact z.1
    · exact z.2.1
    · exact z.2.2.1
    · exact z.2.2.2
  · have z := chk_22
    simp only [List.all_cons, List.all_nil, Bool.and_true, Bool.and_eq_true] at z
    rcases hr4 with rfl | rfl | rfl | rfl
    · exact z.1
    · exact z.2.1
    · exact z.2.2.1
    · exact z.2.2.2
  · have z := chk_23
    simp only [List.all_cons, List.all_nil, Bool.and_true, Bool.and_eq_true] at z
    rcases hr4 with rfl | rfl | rfl | rfl
    · exact z.1
    · exact z.2.1
    · exact z.2.2.1
    · exact z.2.2.2
  · have z := chk_24
    simp only [List.all_cons, List.all_nil, Bool.and_true, Bool.and_eq_true] at z
    rcases hr4 with rfl | rfl | rfl | rfl
    · exact z.1
    · exact z.2.1
    · exact z.2.2.1
    · exact z.2.2.2
  · have z := chk_25
    simp only [List.all_cons, List.all_nil, Bool.and_true, Bool.and_eq_true] at z
    rcases hr4 with rfl | rfl | rfl | rfl
    · exact z.1
    · exact z.2.1
    · exact z.2.2.1
    · exact z.2.2.2
  · have z := chk_26
    simp only [List.all_cons, List.all_nil, Bool.and_true, Bool.and_eq_true] at z
    rcases hr4 with rfl | rfl | rfl | rfl
    · exact z.1
    · exact z.2.1
    · exact z.2.2.1
    · exact z.2.2.2
  · have z := chk_27
    simp only [List.all_cons, List.all_nil, Bool.and_true, Bool.and_eq_true] at z
    rcases hr4 with rfl | rfl | rfl | rfl
    · exact z.1
    · exact z.2.1
    · exact z.2.2.1
    · exact z.2.2.2
  · have z := chk_28
    simp only [List.all_cons, List.all_nil, Bool.and_true, Bool.and_eq_true] at z
    rcases hr4 with rfl | rfl | rfl | rfl
    · exact z.1
    · exact z.2.1
    · exact z.2.2.1
    · exact z.2.2.2
  · have z := chk_29
    simp only [List.all_cons, List.all_nil, Bool.and_true, Bool.and_eq_true] at z
    rcases hr4 with rfl | rfl | rfl | rfl
    · exact z.1
    · exact z.2.1
    · exact z.2.2.1
    · exact z.2.2.2
  · have z := chk_30
    simp only [List.all_cons, List.all_nil, Bool.and_true, Bool.and_eq_true] at z
    rcases hr4 with rfl | rfl | rfl | rfl
    · exact z.1
    · exact z.2.1
    · exact z.2.2.1
    · exact z.2.2.2
theorem chk_at120 {v : Int} (h7 : 7 ≤ v) (h : v ≤ 120) (hr : ring v) : chkE v = true := by
  obtain ⟨n, rfl⟩ : ∃ n : Nat, v = n := ⟨v.toNat, by omega⟩
  have q : (!(decide (7 ≤ n) && ringB (n : Int)) || chkE (n : Int)) = true := chk_n (n := n) (by omega)
  have r1 : ringB (n : Int) = true := by
    obtain ⟨h1, h2⟩ := hr
    unfold ringB
    have q9 : (((n : Int) == 9) = false) := by simpa using h2
    rw [q9]
    rcases h1 with h1 | h1 <;> rw [h1] <;> rfl
  have r2 : decide (7 ≤ n) = true := decide_eq_true (by omega)
  rw [r1, r2] at q
  simpa using q
def gE : SX := (sIf (eB neD (eB mulD (eC (.int 3)) (eVar 2)) (eVar 0))
  (sSeq (sSet 3 (eFn m__law_ask [(eVar 0), (eVar 2)]))
  (sSeq (sIf (eNot (eFn (m__law_like 5) [(eVar 3), (eTup [(eC (.str "told")), (eFn m__law_find [(eVar 0), (eVar 2)])])]))
  (sRet (eC (.bl false))) sNil)
  (sIf (eB eqD (eB ixD (eB ixD (eVar 3) (eC (.int 1))) (eC (.int 0))) (eVar 2))
  (sSet 1 (eB addD (eVar 1) (eCall listD [(eB ixD (eVar 3) (eC (.int 1)))]))) sNil))) sNil)
theorem tv_told {v d : Int} (h7 : 7 ≤ v) (ht : v ≤ top60) (hr : ring v) (p1 : 1 ≤ d) (p2 : d ≤ (v - 1) / 2) (h3 : 3 * d ≠ v) :
    m__law_ask [.int v, .int d] = .ok (.tup [.str "told", t3D (tv v d)]) ∧ m__law_find [.int v, .int d] = .ok (t3D (tv v d)) := by
  obtain ⟨F, w0, ws, c, ok, tab, fnd, _, _⟩ := (ringOk h7 hr).ex
  have hodd : v % 2 = 1 := by
    have := hr.1
    omega
  obtain ⟨t, e1, e2⟩ := c.same p1 p2 h3
  have e := fnd d
  rw [e1] at e
  have f := ev_find (d := d) ok hodd tab
  rw [e2] at f
  have et : tv v d = t := by
    have e' := fnd_FF h7 hr d
    rw [e] at e'
    unfold tv
    cases q : found v d (FF v) with
    | none =>
      rw [q] at e'
      cases e'
    | some u =>
      rw [q] at e'
      have e3 : t3D t = t3D u := Rt.ok.inj e'
      obtain ⟨t1, t2, t3⟩ := t
      obtain ⟨u1, u2, u3⟩ := u
      unfold t3D at e3
      dsimp only at e3
      simp only [D.tup.injEq, List.cons.injEq, D.int.injEq, and_true] at e3
      obtain ⟨h1, h2, h3⟩ := e3
      subst h1 h2 h3
      rfl
  rw [et]
  exact ⟨ev_ask_ok (ev_diffD h7 ht p1 p2 hr e), f⟩
theorem gE_ev {v d : Int} {acc : List Int} {x3 : Option Sl} (h7 : 7 ≤ v) (ht : v ≤ top60) (hr : ring v) (p1 : 1 ≤ d) (p2 : d ≤ (v - 1) / 2) (hl : acc.length ≤ 900) :
    ∃ y3, gE [si v, some (.val (.lst (acc.map .int))), si d, x3] = .nx [si v, some (.val (.lst ((if 3 * d = v then acc else if (tv v d).1 = d then acc ++ [(tv v d).1, (tv v d).2.1, (tv v d).2.2] else acc).map .int))), si d, y3] := by
  have m3 : ∀ x, mulOk 3 x = true := mulOk_l (by decide)
  by_cases h3 : 3 * d = v
  · have q : (3 * d == v) = true := by simpa using h3
    refine ⟨x3, ?_⟩
    rw [if_pos h3]
    simp [gE, runS, endR, envOf, sSeq, sSet, sIf, sRet, sRetN, sEx, sNil, sRaise, sUn, evs, Rs.then, Rs.bind, eB, eC, eVar, eCall, eTup, eLst, eFn, eNot, eAnd, eOr, eIf, eChain, e1, negD, addD, subD, mulD, fdivD, modD, powD, cmpI, eqD, neD, eqB, scalD, eqF, inD, ninD, inB, flat, truth, intD, lenD, minD, divmodD, bNm, bTp, bAll, m3, q]
  · have q : (3 * d == v) = false := by simpa using h3
    obtain ⟨ha, hf⟩ := tv_told h7 ht hr p1 p2 h3
    have lk := like_told (tv v d)
    have j1 : ixD (.tup [.str "told", t3D (tv v d)]) (.int 1) = some (t3D (tv v d)) := rfl
    have i0 : ixD (t3D (tv v d)) (.int 0) = some (.int (tv v d).1) := rfl
    have l1 : listD [t3D (tv v d)] = some (.lst [.int (tv v d).1, .int (tv v d).2.1, .int (tv v d).2.2]) := rfl
    refine ⟨some (.val (.tup [.str "told", t3D (tv v d)])), ?_⟩
    rw [if_neg h3]
    by_cases k : (tv v d).1 = d
    · have k2 : ((tv v d).1 == d) = true := by simpa using k
      rw [if_pos k]
      have ad : addD (.lst (acc.map .int)) (.lst [.int (tv v d).1, .int (tv v d).2.1, .int (tv v d).2.2]) = some (.lst ((acc ++ [(tv v d).1, (tv v d).2.1, (tv v d).2.2]).map .int)) := by
        rw [addL (by rw [List.length_map]; simp; omega), List.map_append]
        rfl
      generalize (acc ++ [(tv v d).1, (tv v d).2.1, (tv v d).2.2]).map D.int = L2' at *
      generalize acc.map D.int = L1' at *
      simp [gE, runS, endR, envOf, sSeq, sSet, sIf, sRet, sRetN, sEx, sNil, sRaise, sUn, evs, Rs.then, Rs.bind, eB, eC, eVar, eCall, eTup, eLst, eFn, eNot, eAnd, eOr, eIf, eChain, e1, negD, subD, mulD, fdivD, modD, powD, cmpI, eqD, neD, eqB, scalD, eqF, inD, ninD, inB, flat, truth, intD, lenD, minD, divmodD, bNm, bTp, bAll, divOk, m3, q, ha, hf, lk, j1, i0, l1, k2, ad]
    · have k2 : ((tv v d).1 == d) = false := by simpa using k
      rw [if_neg k]
      generalize acc.map D.int = L1' at *
      simp [gE, runS, endR, envOf, sSeq, sSet, sIf, sRet, sRetN, sEx, sNil, sRaise, sUn, evs, Rs.then, Rs.bind, eB, eC, eVar, eCall, eTup, eLst, eFn, eNot, eAnd, eOr, eIf, eChain, e1, negD, subD, mulD, fdivD, modD, powD, cmpI, eqD, neD, eqB, scalD, eqF, inD, ninD, inB, flat, truth, intD, lenD, minD, divmodD, bNm, bTp, bAll, divOk, m3, q, ha, hf, lk, j1, i0, l1, k2]
def nO (o : Option Sl) : Prop := o = none ∨ ∃ d, o = some (.val d)
theorem outF_ev {v : Int} (h7 : 7 ≤ v) (ht : v ≤ top60) (hr : ring v) : ∀ (ds acc : List Int) (x2 x3 : Option Sl), (∀ d ∈ ds, 1 ≤ d ∧ d ≤ (v - 1) / 2) → acc.length + 3 * ds.length ≤ 900 → nO x2 →
    ∃ y2 y3, nO y2 ∧ loopS (bNm 2) gE (ds.map .int) [si v, some (.val (.lst (acc.map .int))), x2, x3] = .nx [si v, some (.val (.lst ((outF v ds acc).map .int))), y2, y3]
  | [], acc, x2, x3, _, _, hx => ⟨x2, x3, hx, rfl⟩
  | d :: ds, acc, x2, x3, hd, hl, hx => by
    obtain ⟨p1, p2⟩ := hd d List.mem_cons_self
    rw [List.length_cons] at hl
    obtain ⟨y3, e⟩ := gE_ev (x3 := x3) h7 ht hr p1 p2 (acc := acc) (by omega)
    obtain ⟨z2, z3, hz, e2⟩ := outF_ev h7 ht hr ds (if 3 * d = v then acc else if (tv v d).1 = d then acc ++ [(tv v d).1, (tv v d).2.1, (tv v d).2.2] else acc) (si d) y3 (fun d hd' => hd d (List.mem_cons_of_mem _ hd')) (by
      split
      · omega
      · split
        · rw [List.length_append]
          simp
          omega
        · omega) (.inr ⟨_, rfl⟩)
    refine ⟨z2, z3, hz, ?_⟩
    have h0 : loopS (bNm 2) gE ((d :: ds).map .int) [si v, some (.val (.lst (acc.map .int))), x2, x3] = (match gE [si v, some (.val (.lst (acc.map .int))), si d, x3] with
      | .nx ρ2 => loopS (bNm 2) gE (ds.map .int) ρ2
      | .ct ρ2 => loopS (bNm 2) gE (ds.map .int) ρ2
      | .bk ρ2 => .nx ρ2
      | r => r) := rfl
    rw [h0, e]
    exact e2
theorem compL_filter {b : BX} {c e : EX} {vs : List Nat} {p : D → Bool} {I : En → Prop} : ∀ (ds acc : List D) (ρ : En), (∀ d ∈ ds, ∀ ρ, I ρ → ∃ ρ1, b d (wipeE ρ vs) = some ρ1 ∧ c ρ1 = .ok (.bl (p d)) ρ1 ∧ e ρ1 = .ok d ρ1 ∧ I ρ1) → I ρ → ∃ ρ', compL b c e vs ds acc ρ = .ok (.lst (acc ++ ds.filter p)) ρ' ∧ I ρ'
  | [], acc, ρ, _, i => ⟨ρ, by simp [compL], i⟩
  | d :: ds, acc, ρ, h, i => by
    obtain ⟨ρ1, h1, h2, h3, i2⟩ := h d List.mem_cons_self ρ i
    cases k : p d with
    | true =>
      obtain ⟨ρ', e3, i3⟩ := compL_filter ds (acc ++ [d]) ρ1 (fun d hd => h d (List.mem_cons_of_mem _ hd)) i2
      refine ⟨ρ', ?_, i3⟩
      rw [compL, h1]
      simp only [h2, Rs.bind, truth, k, h3]
      rw [e3, List.filter_cons, k]
      simp
    | false =>
      obtain ⟨ρ', e3, i3⟩ := compL_filter ds acc ρ1 (fun d hd => h d (List.mem_cons_of_mem _ hd)) i2
      refine ⟨ρ', ?_, i3⟩
      rw [compL, h1]
      simp only [h2, Rs.bind, truth, k]
      rw [e3, List.filter_cons, k]
      simp
theorem rangeL_eq (v : Int) : rangeL 1 ((v + 1) / 2 - 1).toNat = (dsOf v).map .int := by
  unfold rangeL dsOf
  rw [List.map_map]
  rfl
def gC : EX := (eComp (iR2 (eC (.int 1)) (eB fdivD (eB addD (eVar 0) (eC (.int 1))) (eC (.int 2)))) (bNm 2) (eB neD (eB mulD (eC (.int 3)) (eVar 2)) (eVar 0)) (eVar 2) [2])
theorem b_every_eq : b__law_every = sSeq (sSet 1 (eLst [])) (sSeq (sFor (iR2 (eC (.int 1)) (eB fdivD (eB addD (eVar 0) (eC (.int 1))) (eC (.int 2)))) (bNm 2) gE) (sRet (eB eqD (eCall sortedD [(eVar 1)]) gC))) := rfl
theorem ev_every {v : Int} (h7 : 7 ≤ v) (h120 : v ≤ 120) (hr : ring v) : m__law_every [.int v] = .ok (.bl true) := by
  have ht : v ≤ top60 := by unfold top60; omega
  have ck := chk_at120 h7 h120 hr
  unfold chkE at ck
  obtain ⟨c1, ck⟩ := Bool.and_eq_true_iff.mp ck
  obtain ⟨c2, c3⟩ := Bool.and_eq_true_iff.mp ck
  have hsort : sortI (outF v (dsOf v) []) = wantF v := sort_unique ((sortI_perm _).trans (List.isPerm_iff.mp c1)) (sortI_sorted _) (of_decide_eq_true c2)
  have heq : eqD (.lst ((wantF v).map .int)) (.lst ((wantF v).map .int)) = some (.bl true) := by
    unfold eqD
    cases q : eqB (.lst ((wantF v).map .int)) (.lst ((wantF v).map .int)) with
    | none => rw [q] at c3; cases c3
    | some b =>
      rw [q] at c3
      have eb : b = true := c3
      rw [eb]
      rfl
  have hodd : v % 2 = 1 := by
    have := hr.1
    omega
  have hds : ∀ d ∈ dsOf v, 1 ≤ d ∧ d ≤ (v - 1) / 2 := fun d hd => by
    obtain ⟨i, hi, rfl⟩ := List.mem_map.mp hd
    have hi' := List.mem_range.mp hi
    constructor <;> omega
  have hlen : (dsOf v).length ≤ 60 := by
    unfold dsOf
    rw [List.length_map, List.length_range]
    omega
  obtain ⟨y2, y3, hy2, e1⟩ := outF_ev h7 ht hr (dsOf v) [] none none hds (by simp; omega) (.inl rfl)
  have hso : sortedD [.lst ((outF v (dsOf v) []).map .int)] = some (.lst ((wantF v).map .int)) := by
    show (asInts ((outF v (dsOf v) []).map D.int)).map (fun ns => D.lst ((sortI ns).map .int)) = _
    rw [asInts_map]
    show some (D.lst ((sortI (outF v (dsOf v) [])).map .int)) = _
    rw [hsort]
  have d2 : ∀ x, divOk x 2 = true := fun _ => rfl
  have f2 : (v + 1).fdiv 2 = (v + 1) / 2 := fd (by decide)
  have bg : big ((v + 1) / 2) = true := decide_eq_true ⟨by omega, by omega⟩
  have hi : ∀ y1 y2 y3 : Option Sl, (eB fdivD (eB addD (eVar 0) (eC (.int 1))) (eC (.int 2))) [si v, y1, y2, y3] = .ok (.int ((v + 1) / 2)) [si v, y1, y2, y3] := fun y1 y2 y3 => by
    simp [eB, eVar, eC, Rs.bind, addD, fdivD, d2, f2]
  have hit : ∀ y1 y2 y3 : Option Sl, (iR2 (eC (.int 1)) (eB fdivD (eB addD (eVar 0) (eC (.int 1))) (eC (.int 2)))) [si v, y1, y2, y3] = .ok ((dsOf v).map .int) [si v, y1, y2, y3] := fun y1 y2 y3 => by
    rw [← rangeL_eq]
    exact iR2_ev (f := eC (.int 1)) (a := 1) rfl (hi y1 y2 y3) (show big 1 = true from rfl) bg
  generalize hO : D.lst ((outF v (dsOf v) []).map D.int) = O at *
  have m3 : ∀ x, mulOk 3 x = true := mulOk_l (by decide)
  obtain ⟨ρ', e2, x, i⟩ := compL_filter (b := bNm 2) (c := (eB neD (eB mulD (eC (.int 3)) (eVar 2)) (eVar 0))) (e := eVar 2) (vs := [2]) (p := fun d => !(3 * dI d == v)) (I := fun ρ => ∃ x, ρ = [si v, some (.val O), x, y3]) ((dsOf v).map .int) [] [si v, some (.val O), y2, y3] (fun d hd ρ ⟨x, hx⟩ => by
    subst hx
    obtain ⟨z, _, rfl⟩ := List.mem_map.mp hd
    refine ⟨[si v, some (.val O), si z, y3], rfl, ?_, rfl, _, rfl⟩
    simp [runS, endR, envOf, sSeq, sSet, sIf, sRet, sRetN, sEx, sNil, sRaise, sUn, evs, Rs.then, Rs.bind, eB, eC, eVar, eCall, eTup, eLst, eFn, eNot, eAnd, eOr, eIf, eChain, e1, negD, addD, subD, mulD, fdivD, modD, powD, cmpI, eqD, neD, eqB, scalD, eqF, inD, ninD, inB, flat, truth, intD, lenD, minD, divmodD, bNm, bTp, bAll, m3, dI]) ⟨_, rfl⟩
  subst i
  have s1 : (sSet 1 (eLst [])) (envOf 4 [.int v]) = .nx [si v, some (.val (.lst (([] : List Int).map .int))), none, none] := rfl
  have s2 : (sFor (iR2 (eC (.int 1)) (eB fdivD (eB addD (eVar 0) (eC (.int 1))) (eC (.int 2)))) (bNm 2) gE) [si v, some (.val (.lst (([] : List Int).map .int))), none, none] = .nx [si v, some (.val O), y2, y3] := by
    unfold sFor
    rw [hit]
    exact e1
  have nown : [2].all (notOwn [si v, some (.val O), y2, y3]) = true := by
    rcases hy2 with rfl | ⟨d, rfl⟩ <;> rfl
  have q := eComp_ev (b := bNm 2) (c := (eB neD (eB mulD (eC (.int 3)) (eVar 2)) (eVar 0))) (e := eVar 2) (vs := [2]) (hit (some (.val O)) y2 y3) (by rw [List.length_map]; omega) nown e2
  have hfil : ∀ l : List Int, ([] : List D) ++ (l.map D.int).filter (fun d => !(3 * dI d == v)) = (l.filter fun d => !(3 * d == v)).map D.int := fun l => by
    rw [List.nil_append, List.filter_map]
    rfl
  rw [hfil] at q
  have v1 := eCall1_ev (g := eVar 1) (ρ := [si v, some (.val O), y2, y3]) (ρ1 := [si v, some (.val O), y2, y3]) (d := O) rfl hso
  have s3 := sRet_ev (eB_ev v1 q heq)
  unfold m__law_every
  rw [b_every_eq]
  show endR (sSeq _ _ _) = _
  rw [sSeq_nx s1, sSeq_nx s2]
  show endR (sRet (eB eqD (eCall sortedD [(eVar 1)]) gC) [si v, some (.val O), y2, y3]) = _
  exact congrArg endR s3
theorem plain : ∀ ns : List Int, ns.length ≤ 63 → (∀ z ∈ ns, PySem.Builtin.Int.intBits z ≤ 1048576) → m_law [.scr ns] = .ok (.bl true) := fun ns h _ => ev_law h fun v h7 h120 hr => ev_every h7 h120 hr
end K39

open PySem PySem.W PySem.Calls PyProof.Rows
theorem PySem.Challenge.cw_madeorbarred_k39_difference_triples_holds : PySem.Challenge.rw_madeorbarred_k39_difference_triples.Holds := by
  w_on; o_law
  refine HandSHeadRun.head_any (r := OpenLaw.row PySem.Challenge.rw_madeorbarred_k39_difference_triples) (q := view (OpenLaw.row PySem.Challenge.rw_madeorbarred_k39_difference_triples).prog [65]) (H := K39.hk) (ob := K39.ob) (M := 9000) (loose := K39.names) (d := HandSHeadRun.topDef (OpenLaw.row PySem.Challenge.rw_madeorbarred_k39_difference_triples).prog 65) (kwd := []) K39.ob_eq
    (by kernel_rfl) (fun s => by kernel_rfl) K39.run (by kernel_rfl) (by kernel_rfl) (by kernel_rfl) (by rfl) (by first | assumption | decide +kernel) (by decide +kernel) ⟨rfl, rfl, rfl, rfl, rfl, by decide +kernel⟩ ?hw ?hc
  case hw => w_witness2
  case hc =>
    refine MB.walk_mb (l := PySem.Challenge.rw_madeorbarred_k39_difference_triples) (n := 63) (k := 7) (x := "script") rfl (by decide) (by kernel_rfl) ⟨rfl, by decide, by decide⟩ ?F K39.plain
    intro w mg fa h Y G hmg0
    obtain ⟨K, KX, c⟩ := Y
    have hmg : mg ("law" : PySem.Str) = some (.ref fa) := by
      have e : (HandSHeadRun.topDef (OpenLaw.row PySem.Challenge.rw_madeorbarred_k39_difference_triples).prog 65).name = ("law" : PySem.Str) := by kernel_rfl
      rw [← e]
      exact hmg0
    have M := K39.mg_of KX G c
    obtain ⟨fd, F⟩ := K39.law_fd c
    have e := hmg.symm.trans M.gd_law
    cases e
    have b := L2.FunD.bindsA (ps := ["script"]) F fun _ _ _ _ _ _ us hl => match us, hl with | [_], _ => rfl
    exact ⟨K, fd, KX, fun s v => b s [v] rfl, fun base _ _ => K39.all_df M c F⟩

