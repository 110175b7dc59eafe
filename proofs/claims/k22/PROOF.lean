import PyProof.Rows.All
import Wide.All
import OpenK.AllK
import Wide.FinOn
import HandS.ForMost
import HandS.Walk
import HandS.Zip
import HandS.IsInst
import HandS.SortInts
import HandS.Wide
import HandS.TupLe
import HandS.More
import PySem.Challenge.RW_traitlattice_k22_whole_fewest_rules
set_option Elab.async false
set_option linter.all false
set_option autoImplicit false
set_option maxRecDepth 100000
set_option maxHeartbeats 4000000
/-! a layer over HandS: values as data (Dt), objects either frozen or owned by one slot; readings without heaps. -/
namespace Tq
open PySem PySem.Spec L2
open PyProof.Rows hiding St

inductive Dt where
  | non
  | bl (b : Bool)
  | int (i : Int)
  | str (x : Str)
  | tup (ds : List Dt)
  | lst (ds : List Dt)
  | dct (kvs : List (Key × Dt))
  | obj (C : Addr) (fs : List (Str × Dt))

mutual
inductive Rp (K : PySem.W.Frag) (F : Hp) : V → Dt → Prop
  | non : Rp K F .non .non
  | bl (b : Bool) : Rp K F (.bl b) (.bl b)
  | int (i : Int) : Rp K F (.int i) (.int i)
  | str (x : Str) : Rp K F (.str x) (.str x)
  | tup {a : Addr} {xs : List V} {ds : List Dt} : F a = some (.tup xs) → RpL K F xs ds → Rp K F (.ref a) (.tup ds)
  | lst {a : Addr} {xs : List V} {ds : List Dt} : SqL K F a xs → RpL K F xs ds → Rp K F (.ref a) (.lst ds)
  | dct {a : Addr} {kvs : List (Key × V)} {ds : List (Key × Dt)} : F a = some (.dK kvs) → RpK K F kvs ds → Rp K F (.ref a) (.dct ds)
  | obj {a C dx : Addr} {fs : List (Str × V)} {ds : List (Str × Dt)} : F a = some (.ins C dx fs) → RpF K F fs ds → Rp K F (.ref a) (.obj C ds)
inductive RpL (K : PySem.W.Frag) (F : Hp) : List V → List Dt → Prop
  | nil : RpL K F [] []
  | cons {v : V} {vs : List V} {d : Dt} {ds : List Dt} : Rp K F v d → RpL K F vs ds → RpL K F (v :: vs) (d :: ds)
inductive RpK (K : PySem.W.Frag) (F : Hp) : List (Key × V) → List (Key × Dt) → Prop
  | nil : RpK K F [] []
  | cons {k : Key} {v : V} {vs : List (Key × V)} {d : Dt} {ds : List (Key × Dt)} : Rp K F v d → RpK K F vs ds → RpK K F ((k, v) :: vs) ((k, d) :: ds)
inductive RpF (K : PySem.W.Frag) (F : Hp) : List (Str × V) → List (Str × Dt) → Prop
  | nil : RpF K F [] []
  | cons {k : Str} {v : V} {vs : List (Str × V)} {d : Dt} {ds : List (Str × Dt)} : Rp K F v d → RpF K F vs ds → RpF K F ((k, v) :: vs) ((k, d) :: ds)
end

theorem rdS {H H' : Hp} {a : Addr} {u : HO} (e : Same H H') (h : Rd H a u) : Rd H' a u := by
  rcases h with h | ⟨o, h⟩
  · exact .inl (e _ _ h)
  · exact .inr ⟨o, e _ _ h⟩

section
variable {K : PySem.W.Frag} {F F' : Hp} (e : Same F F')
include e
mutual
theorem Rp.mono : ∀ {v : V} {x : Dt}, Rp K F v x → Rp K F' v x
  | _, _, .non => .non
  | _, _, .bl b => .bl b
  | _, _, .int i => .int i
  | _, _, .str x => .str x
  | _, _, .tup h r => .tup (e _ _ h) (RpL.mono r)
  | _, _, .lst h r => .lst (e.seq h) (RpL.mono r)
  | _, _, .dct h r => .dct (e _ _ h) (RpK.mono r)
  | _, _, .obj h r => .obj (e _ _ h) (RpF.mono r)
theorem RpL.mono : ∀ {vs : List V} {xs : List Dt}, RpL K F vs xs → RpL K F' vs xs
  | _, _, .nil => .nil
  | _, _, .cons r t => .cons (Rp.mono r) (RpL.mono t)
theorem RpK.mono : ∀ {vs : List (Key × V)} {xs : List (Key × Dt)}, RpK K F vs xs → RpK K F' vs xs
  | _, _, .nil => .nil
  | _, _, .cons r t => .cons (Rp.mono r) (RpK.mono t)
theorem RpF.mono : ∀ {vs : List (Str × V)} {xs : List (Str × Dt)}, RpF K F vs xs → RpF K F' vs xs
  | _, _, .nil => .nil
  | _, _, .cons r t => .cons (Rp.mono r) (RpF.mono t)
end
end

section
variable {K : PySem.W.Frag} {F : Hp}
theorem RpL.length : ∀ {vs : List V} {xs : List Dt}, RpL K F vs xs → vs.length = xs.length
  | _, _, .nil => rfl
  | _, _, .cons _ t => congrArg (· + 1) (RpL.length t)
theorem RpL.get : ∀ {vs : List V} {xs : List Dt} {i : Nat} {v : V}, RpL K F vs xs → vs[i]? = some v → ∃ x, xs[i]? = some x ∧ Rp K F v x
  | _, _, _, _, .nil, e => by simp at e
  | _, _, 0, _, .cons r _, e => by
    simp at e
    subst e
    exact ⟨_, rfl, r⟩
  | _, _, i + 1, v, .cons _ t, e => by
    obtain ⟨x, h1, h2⟩ := RpL.get (i := i) (v := v) t (by simpa using e)
    exact ⟨x, by simpa using h1, h2⟩
theorem RpL.at : ∀ {vs : List V} {xs : List Dt} {i : Nat} {x : Dt}, RpL K F vs xs → xs[i]? = some x → ∃ v, vs[i]? = some v ∧ Rp K F v x
  | _, _, _, _, .nil, e => by simp at e
  | _, _, 0, _, .cons r _, e => by
    simp at e
    subst e
    exact ⟨_, rfl, r⟩
  | _, _, i + 1, x, .cons _ t, e => by
    obtain ⟨v, h1, h2⟩ := RpL.at (i := i) (x := x) t (by simpa using e)
    exact ⟨v, by simpa using h1, h2⟩
theorem RpL.app : ∀ {vs ws : List V} {xs ys : List Dt}, RpL K F vs xs → RpL K F ws ys → RpL K F (vs ++ ws) (xs ++ ys)
  | _, _, _, _, .nil, s => s
  | _, _, _, _, .cons r t, s => .cons r (RpL.app t s)
theorem RpL.take : ∀ {vs : List V} {xs : List Dt} (n : Nat), RpL K F vs xs → RpL K F (vs.take n) (xs.take n)
  | _, _, 0, _ => .nil
  | _, _, _ + 1, .nil => .nil
  | _, _, n + 1, .cons r t => .cons r (RpL.take n t)
theorem RpL.drop : ∀ {vs : List V} {xs : List Dt} (n : Nat), RpL K F vs xs → RpL K F (vs.drop n) (xs.drop n)
  | _, _, 0, r => r
  | _, _, _ + 1, .nil => .nil
  | _, _, n + 1, .cons _ t => RpL.drop n t
theorem RpL.set {v : V} {x : Dt} (r : Rp K F v x) : ∀ {vs : List V} {xs : List Dt} (i : Nat), RpL K F vs xs → RpL K F (vs.set i v) (xs.set i x)
  | _, _, _, .nil => .nil
  | _, _, 0, .cons _ t => .cons r t
  | _, _, i + 1, .cons q t => .cons q (RpL.set r i t)
theorem RpL.eraseIdx : ∀ {vs : List V} {xs : List Dt} (i : Nat), RpL K F vs xs → RpL K F (vs.eraseIdx i) (xs.eraseIdx i)
  | _, _, _, .nil => .nil
  | _, _, 0, .cons _ t => t
  | _, _, i + 1, .cons q t => .cons q (RpL.eraseIdx i t)
theorem RpL.ints_inv : ∀ {vs : List V} {ns : List Int}, RpL K F vs (ns.map Dt.int) → vs = ns.map V.int
  | _, [], .nil => rfl
  | _, n :: ns, .cons (.int _) t => by rw [RpL.ints_inv (ns := ns) t]; rfl
theorem RpL.of_ints : ∀ (ns : List Int), RpL K F (ns.map V.int) (ns.map Dt.int)
  | [] => .nil
  | _ :: ns => .cons (.int _) (RpL.of_ints ns)
end

/-! ### kinds: fz frozen (lives for ever), vw a list or dict that is read only through this call, rd read now, fr fresh (nobody else has it), ow owned by its slot -/
inductive Kd where
  | fz | vw | rd | fr | ow (l : Addr)
inductive Sl where
  | no
  | v (k : Kd) (x : Dt)
abbrev DEnv := List Sl
structure Hs where
  f : Hp
  g : Hp
  h : Hp

/-- a container at v as it stands in H, what it holds frozen in F -/
def Cn (K : PySem.W.Frag) (F H : Hp) (v : V) (x : Dt) : Prop :=
  (∃ a xs ds, v = .ref a ∧ x = .lst ds ∧ SqL K H a xs ∧ RpL K F xs ds) ∨ (∃ a kvs ds, v = .ref a ∧ x = .dct ds ∧ H a = some (.dK kvs) ∧ RpK K F kvs ds)
/-- readable: frozen, or a container now -/
def Rq (K : PySem.W.Frag) (F H : Hp) (v : V) (x : Dt) : Prop := Rp K F v x ∨ Cn K F H v x
/-- one's own container at l -/
def Ow (K : PySem.W.Frag) (F H : Hp) (l : Addr) (x : Dt) : Prop :=
  (∃ xs ds, x = .lst ds ∧ H l = some (.lst xs) ∧ RpL K F xs ds) ∨ (∃ kvs ds, x = .dct ds ∧ H l = some (.dK kvs) ∧ RpK K F kvs ds)
/-- the kinds' meaning; B: the heap at the expression's start -/
def RK (K : PySem.W.Frag) (B : Hp) (s : Hs) (k : Kd) (v : V) (x : Dt) : Prop :=
  match k with
  | .fz => Rp K s.f v x
  | .vw => Rq K s.f s.g v x
  | .rd => Rq K s.f s.h v x
  | .fr => ∃ l, v = .ref l ∧ B l = none ∧ s.g l = none ∧ Ow K s.f s.h l x
  | .ow l => v = .ref l ∧ s.g l = none ∧ Ow K s.f s.h l x
/-- the heaps' part: e the entry -/
structure RH (e s : Hs) : Prop where
  fg : Same s.f s.g
  gh : Same s.g s.h
  ef : Same e.f s.f
  eg : Same e.h s.g
  nf : ∀ a, e.h a ≠ none → s.f a = e.f a
structure Rep (K : PySem.W.Frag) (e s : Hs) (σ : St) (ρ : DEnv) : Prop where
  rh : RH e s
  len : σ.length = ρ.length
  sl : ∀ (i : Nat) (k : Kd) (x : Dt), ρ[i]? = some (Sl.v k x) → ∃ v, σ[i]? = some (some v) ∧ RK K e.h s k v x ∧ k ≠ .rd ∧ k ≠ .fr
  dj : ∀ (i j : Nat) (l : Addr) (x y : Dt), ρ[i]? = some (Sl.v (Kd.ow l) x) → ρ[j]? = some (Sl.v (Kd.ow l) y) → i = j
/-- an expression's step -/
structure Grow (s s' : Hs) : Prop where
  f : Same s.f s'.f
  g : Same s.g s'.g
  h : Same s.h s'.h
  fg : Same s'.f s'.g
  gh : Same s'.g s'.h
  nf : ∀ a, s.h a ≠ none → s'.f a = s.f a
  ng : ∀ a, s.h a ≠ none → s'.g a = s.g a
/-- a statement's -/
structure Ext (s s' : Hs) : Prop where
  f : Same s.f s'.f
  g : Same s.g s'.g

theorem ne_none {α : Type} {o : Option α} {x : α} (h : o = some x) : o ≠ none := by rw [h]; exact fun z => nomatch z
theorem Same.some_ne {H H' : Hp} (e : Same H H') {a : Addr} (h : H a ≠ none) : H' a ≠ none := by
  cases q : H a with
  | none => exact absurd q h
  | some o => exact ne_none (e a o q)

section
variable {K : PySem.W.Frag} {e s s' s'' : Hs} {B : Hp} {k : Kd} {v : V} {x : Dt} {σ : St} {ρ : DEnv} {l : Addr}
theorem Grow.refl (r : RH e s) : Grow s s := ⟨Same.refl _, Same.refl _, Same.refl _, r.fg, r.gh, fun _ _ => rfl, fun _ _ => rfl⟩
theorem Grow.trans (a : Grow s s') (b : Grow s' s'') : Grow s s'' :=
  ⟨a.f.trans b.f, a.g.trans b.g, a.h.trans b.h, b.fg, b.gh, fun c h => (b.nf c (Same.some_ne a.h h)).trans (a.nf c h), fun c h => (b.ng c (Same.some_ne a.h h)).trans (a.ng c h)⟩
theorem Ext.refl (s : Hs) : Ext s s := ⟨Same.refl _, Same.refl _⟩
theorem Ext.trans (a : Ext s s') (b : Ext s' s'') : Ext s s'' := ⟨a.f.trans b.f, a.g.trans b.g⟩
theorem Grow.ext (a : Grow s s') : Ext s s' := ⟨a.f, a.g⟩
theorem RH.grow (r : RH e s) (g : Grow s s') : RH e s' := by
  refine ⟨g.fg, g.gh, r.ef.trans g.f, r.eg.trans g.g, fun a h => ?_⟩
  rw [g.nf a (Same.some_ne (r.eg.trans r.gh) h), r.nf a h]
theorem Cn.mono {F F' H H' : Hp} (hf : Same F F') (hh : Same H H') (c : Cn K F H v x) : Cn K F' H' v x := by
  rcases c with ⟨a, xs, ds, e1, e2, h, r⟩ | ⟨a, kvs, ds, e1, e2, h, r⟩
  · exact .inl ⟨a, xs, ds, e1, e2, hh.seq h, r.mono hf⟩
  · exact .inr ⟨a, kvs, ds, e1, e2, hh _ _ h, r.mono hf⟩
theorem Rq.mono {F F' H H' : Hp} (hf : Same F F') (hh : Same H H') (c : Rq K F H v x) : Rq K F' H' v x := c.elim (fun r => .inl (r.mono hf)) fun c => .inr (c.mono hf hh)
theorem Ow.mono {F F' H H' : Hp} (hf : Same F F') (hh : Same H H') (c : Ow K F H l x) : Ow K F' H' l x := by
  rcases c with ⟨xs, ds, e2, h, r⟩ | ⟨kvs, ds, e2, h, r⟩
  · exact .inl ⟨xs, ds, e2, hh _ _ h, r.mono hf⟩
  · exact .inr ⟨kvs, ds, e2, hh _ _ h, r.mono hf⟩
theorem Ow.there {F H : Hp} (c : Ow K F H l x) : H l ≠ none := by
  rcases c with ⟨xs, ds, e2, h, r⟩ | ⟨kvs, ds, e2, h, r⟩ <;> exact ne_none h
theorem Ow.cn {F H : Hp} (c : Ow K F H l x) : Cn K F H (.ref l) x := by
  rcases c with ⟨xs, ds, e2, h, r⟩ | ⟨kvs, ds, e2, h, r⟩
  · exact .inl ⟨l, xs, ds, rfl, e2, .inl (.inl h), r⟩
  · exact .inr ⟨l, kvs, ds, rfl, e2, h, r⟩
/-- frozen content at l in a heap that has it -/
theorem Ow.rp {F F' H : Hp} (c : Ow K F H l x) (hf : Same F F') (hl : ∀ o, H l = some o → F' l = some o) : Rp K F' (.ref l) x := by
  rcases c with ⟨xs, ds, e2, h, r⟩ | ⟨kvs, ds, e2, h, r⟩
  · subst e2
    exact .lst (.inl (.inl (hl _ h))) (r.mono hf)
  · subst e2
    exact .dct (hl _ h) (r.mono hf)
theorem RK.grow (g : Grow s s') (r : RK K B s k v x) : RK K B s' k v x := by
  cases k with
  | fz => exact Rp.mono g.f r
  | vw => exact Rq.mono g.f g.g r
  | rd => exact Rq.mono g.f g.h r
  | fr =>
    obtain ⟨l, e1, b, n, c⟩ := r
    exact ⟨l, e1, b, (g.ng l c.there).trans n, c.mono g.f g.h⟩
  | ow l =>
    obtain ⟨e1, n, c⟩ := r
    exact ⟨e1, (g.ng l c.there).trans n, c.mono g.f g.h⟩
theorem RK.base {B' : Hp} (h : ∀ a, B a = none → B' a = none) (r : RK K B s k v x) : RK K B' s k v x := by
  cases k with
  | fz => exact r
  | vw => exact r
  | rd => exact r
  | fr =>
    obtain ⟨l, e1, b, n, c⟩ := r
    exact ⟨l, e1, h _ b, n, c⟩
  | ow l => exact r
theorem Rep.grow (r : Rep K e s σ ρ) (g : Grow s s') : Rep K e s' σ ρ :=
  ⟨r.rh.grow g, r.len, fun i k x h => let ⟨v, h1, h2, h3⟩ := r.sl i k x h; ⟨v, h1, h2.grow g, h3⟩, r.dj⟩
/-- every kind can be read now -/
theorem RK.rq (r : RH e s) (q : RK K B s k v x) : Rq K s.f s.h v x := by
  cases k with
  | fz => exact .inl q
  | vw => exact Rq.mono (Same.refl _) r.gh q
  | rd => exact q
  | fr =>
    obtain ⟨l, rfl, b, n, c⟩ := q
    exact .inr c.cn
  | ow l =>
    obtain ⟨rfl, n, c⟩ := q
    exact .inr c.cn
/-- freeze what stands at l -/
def Hs.frz (s : Hs) (l : Addr) : Hs := ⟨fun a => if a = l then s.h l else s.f a, fun a => if a = l then s.h l else s.g a, s.h⟩
theorem Grow.frz {s0 : Hs} (g : Grow s0 s) (h0 : s0.h l = none) (hg : s.g l = none) : Grow s0 (s.frz l) := by
  have hfl : s.f l = none := Same.free g.fg hg
  have hf : Same s.f (s.frz l).f := fun a o q => by
    show (if a = l then s.h l else s.f a) = some o
    by_cases z : a = l
    · rw [z, hfl] at q; cases q
    · rw [if_neg z]; exact q
  have hgg : Same s.g (s.frz l).g := fun a o q => by
    show (if a = l then s.h l else s.g a) = some o
    by_cases z : a = l
    · rw [z, hg] at q; cases q
    · rw [if_neg z]; exact q
  refine ⟨g.f.trans hf, g.g.trans hgg, g.h, fun a o q => ?_, fun a o q => ?_, fun a h => ?_, fun a h => ?_⟩
  · have q' : (if a = l then s.h l else s.f a) = some o := q
    show (if a = l then s.h l else s.g a) = some o
    by_cases z : a = l
    · rw [if_pos z] at q' ⊢; exact q'
    · rw [if_neg z] at q' ⊢; exact g.fg a o q'
  · have q' : (if a = l then s.h l else s.g a) = some o := q
    show s.h a = some o
    by_cases z : a = l
    · rw [if_pos z] at q'; rw [z]; exact q'
    · rw [if_neg z] at q'; exact g.gh a o q'
  · have z : a ≠ l := fun z => h (z ▸ h0)
    show (if a = l then s.h l else s.f a) = _
    rw [if_neg z]; exact g.nf a h
  · have z : a ≠ l := fun z => h (z ▸ h0)
    show (if a = l then s.h l else s.g a) = _
    rw [if_neg z]; exact g.ng a h
theorem Hs.frz_at : (s.frz l).f l = s.h l := by
  show (if l = l then s.h l else s.f l) = s.h l
  rw [if_pos rfl]
/-- storable: frozen, or fresh (then it is frozen now) -/
def Kd.st : Kd → Bool
  | .fz => true
  | .fr => true
  | _ => false
theorem RK.freeze {s0 : Hs} (g : Grow s0 s) (r : RK K s0.h s k v x) (hk : k.st = true) : ∃ s', Grow s0 s' ∧ s'.h = s.h ∧ Same s.f s'.f ∧ Rp K s'.f v x := by
  cases k with
  | fz => exact ⟨s, g, rfl, Same.refl _, r⟩
  | fr =>
    obtain ⟨l, rfl, b, n, c⟩ := r
    have hfl : s.f l = none := Same.free g.fg n
    have hf : Same s.f (s.frz l).f := fun a o q => by
      show (if a = l then s.h l else s.f a) = some o
      by_cases z : a = l
      · rw [z, hfl] at q; cases q
      · rw [if_neg z]; exact q
    exact ⟨s.frz l, g.frz b n, rfl, hf, c.rp hf fun o q => by rw [Hs.frz_at]; exact q⟩
  | vw => cases hk
  | rd => cases hk
  | ow l => cases hk
/-- a new object laid, frozen -/
def Hs.lay (s : Hs) (p : Addr) (o : HO) : Hs := ⟨upd s.f p o, upd s.g p o, upd s.h p o⟩
theorem same_upd {H : Hp} {p : Addr} {o : HO} (h : H p = none) : Same H (upd H p o) := fun b x e => by
  rw [upd_ne (ne_of_none e h)]; exact e
theorem Same.upd {H H' : Hp} {p : Addr} {o : HO} (h : Same H H') : Same (upd H p o) (upd H' p o) := fun b x e => by
  by_cases z : b = p
  · subst z; rw [upd_same] at e ⊢; exact e
  · rw [upd_ne z] at e ⊢; exact h b x e
theorem Grow.lay {s0 : Hs} (g : Grow s0 s) {p : Addr} {o : HO} (hp : s.h p = none) : Grow s0 (s.lay p o) := by
  have hg : s.g p = none := Same.free g.gh hp
  have hf : s.f p = none := Same.free g.fg hg
  refine ⟨g.f.trans (same_upd hf), g.g.trans (same_upd hg), g.h.trans (same_upd hp), Same.upd g.fg, Same.upd g.gh, fun a h => ?_, fun a h => ?_⟩
  · have z : a ≠ p := fun z => Same.some_ne g.h h (z ▸ hp)
    exact (upd_ne z).trans (g.nf a h)
  · have z : a ≠ p := fun z => Same.some_ne g.h h (z ▸ hp)
    exact (upd_ne z).trans (g.ng a h)
/-- .. not frozen -/
def Hs.new (s : Hs) (p : Addr) (o : HO) : Hs := ⟨s.f, s.g, upd s.h p o⟩
theorem Grow.new {s0 : Hs} (g : Grow s0 s) {p : Addr} {o : HO} (hp : s.h p = none) : Grow s0 (s.new p o) :=
  ⟨g.f, g.g, g.h.trans (same_upd hp), g.fg, g.gh.trans (same_upd hp), g.nf, g.ng⟩
/-- reading lists -/
theorem Rq.lst {F H : Hp} {ds : List Dt} (hfh : Same F H) (q : Rq K F H v (.lst ds)) : ∃ a xs, v = .ref a ∧ SqL K H a xs ∧ RpL K F xs ds := by
  rcases q with q | ⟨a, xs, ds', e1, e2, h, r⟩ | ⟨a, kvs, ds', e1, e2, h, r⟩
  · cases q with
    | lst h r => exact ⟨_, _, rfl, hfh.seq h, r⟩
  · cases e2; exact ⟨a, xs, e1, h, r⟩
  · cases e2
theorem Rq.tup {F H : Hp} {ds : List Dt} (hfh : Same F H) (q : Rq K F H v (.tup ds)) : ∃ a xs, v = .ref a ∧ H a = some (.tup xs) ∧ RpL K F xs ds := by
  rcases q with q | ⟨a, xs, ds', e1, e2, h, r⟩ | ⟨a, kvs, ds', e1, e2, h, r⟩
  · cases q with
    | tup h r => exact ⟨_, _, rfl, hfh _ _ h, r⟩
  · cases e2
  · cases e2
theorem Rq.int {F H : Hp} {i : Int} (q : Rq K F H v (.int i)) : v = .int i := by
  rcases q with q | ⟨a, xs, ds', e1, e2, h, r⟩ | ⟨a, kvs, ds', e1, e2, h, r⟩
  · cases q; rfl
  · cases e2
  · cases e2
theorem Rq.str {F H : Hp} {i : Str} (q : Rq K F H v (.str i)) : v = .str i := by
  rcases q with q | ⟨a, xs, ds', e1, e2, h, r⟩ | ⟨a, kvs, ds', e1, e2, h, r⟩
  · cases q; rfl
  · cases e2
  · cases e2
theorem Rq.bl {F H : Hp} {i : Bool} (q : Rq K F H v (.bl i)) : v = .bl i := by
  rcases q with q | ⟨a, xs, ds', e1, e2, h, r⟩ | ⟨a, kvs, ds', e1, e2, h, r⟩
  · cases q; rfl
  · cases e2
  · cases e2
theorem Rq.non {F H : Hp} (q : Rq K F H v .non) : v = .non := by
  rcases q with q | ⟨a, xs, ds', e1, e2, h, r⟩ | ⟨a, kvs, ds', e1, e2, h, r⟩
  · cases q; rfl
  · cases e2
  · cases e2
theorem RH.fh (r : RH e s) : Same s.f s.h := r.fg.trans r.gh
end

/-! ### judgements -/
abbrev DK := Kd → Dt → Prop
abbrev TEd := DEnv → DK → Prop
abbrev TTd := DEnv → (Bool → Prop) → Prop
abbrev TAd := DEnv → (List (Kd × Dt) → Prop) → Prop
structure VE (X : Cx) (e0 : Hs) (e : Expr) (T : TE) (t : TEd) : Prop where
  pe : PE X e T
  run : ∀ (s : Hs) (σ : St) (ρ : DEnv) (P : DK) (Q : VK), Rep X.K e0 s σ ρ → t ρ P →
    (∀ s' k v x, Grow s s' → RK X.K s.h s' k v x → P k x → Q v s'.h) → T σ s.h Q
structure VT (X : Cx) (e0 : Hs) (e : Expr) (T : TT) (t : TTd) : Prop where
  pe : PT X e T
  run : ∀ (s : Hs) (σ : St) (ρ : DEnv) (P : Bool → Prop) (Q : Bool → Hp → Prop), Rep X.K e0 s σ ρ → t ρ P →
    (∀ s' b, Grow s s' → P b → Q b s'.h) → T σ s.h Q
/-- an argument: frozen, or readable -/
inductive ArgsR (K : PySem.W.Frag) (F H : Hp) : List V → List (Kd × Dt) → Prop
  | nil : ArgsR K F H [] []
  | fz {v : V} {x : Dt} {vs : List V} {xs : List (Kd × Dt)} : Rp K F v x → ArgsR K F H vs xs → ArgsR K F H (v :: vs) ((.fz, x) :: xs)
  | rd {v : V} {x : Dt} {vs : List V} {xs : List (Kd × Dt)} : Rq K F H v x → ArgsR K F H vs xs → ArgsR K F H (v :: vs) ((.rd, x) :: xs)
theorem ArgsR.mono {K : PySem.W.Frag} {F F' H H' : Hp} (hf : Same F F') (hh : Same H H') : ∀ {vs : List V} {xs : List (Kd × Dt)}, ArgsR K F H vs xs → ArgsR K F' H' vs xs
  | _, _, .nil => .nil
  | _, _, .fz r t => .fz (r.mono hf) (t.mono hf hh)
  | _, _, .rd r t => .rd (r.mono hf hh) (t.mono hf hh)
structure VA (X : Cx) (e0 : Hs) (es : List Expr) (T : TA) (t : TAd) : Prop where
  pe : PA X es T
  run : ∀ (s : Hs) (σ : St) (ρ : DEnv) (P : List (Kd × Dt) → Prop) (Q : List V → Hp → Prop), Rep X.K e0 s σ ρ → t ρ P →
    (∀ s' vs xs, Grow s s' → ArgsR X.K s'.f s'.h vs xs → xs.length = es.length → P xs → Q vs s'.h) → T σ s.h Q
structure EndsD where
  nx : DEnv → Prop
  rt : DK
  bk : DEnv → Prop := fun _ => False
  ct : DEnv → Prop := fun _ => False
abbrev TSd := EndsD → DEnv → Prop
structure Lk (K : PySem.W.Frag) (e0 s : Hs) (D : Ends) (D' : EndsD) : Prop where
  nx : ∀ s' σ ρ, Rep K e0 s' σ ρ → Ext s s' → D'.nx ρ → D.nx σ s'.h
  rt : ∀ s' k v x, RH e0 s' → Ext s s' → RK K e0.h s' k v x → D'.rt k x → D.rt v s'.h
  bk : ∀ s' σ ρ, Rep K e0 s' σ ρ → Ext s s' → D'.bk ρ → D.bk σ s'.h
  ct : ∀ s' σ ρ, Rep K e0 s' σ ρ → Ext s s' → D'.ct ρ → D.ct σ s'.h
structure VS (X : Cx) (e0 : Hs) (st : Stmt) (t : TSd) : Prop where
  run : ∃ T : TS, PS X st T ∧ ∀ (s : Hs) (σ : St) (ρ : DEnv) (D : Ends) (D' : EndsD), Rep X.K e0 s σ ρ → t D' ρ → Lk X.K e0 s D D' → T D σ s.h
structure VSs (X : Cx) (e0 : Hs) (st : List Stmt) (t : TSd) : Prop where
  run : ∃ T : TS, PSs X st T ∧ ∀ (s : Hs) (σ : St) (ρ : DEnv) (D : Ends) (D' : EndsD), Rep X.K e0 s σ ρ → t D' ρ → Lk X.K e0 s D D' → T D σ s.h
theorem Lk.ext {K : PySem.W.Frag} {e0 s s1 : Hs} {D : Ends} {D' : EndsD} (l : Lk K e0 s D D') (x : Ext s s1) : Lk K e0 s1 D D' :=
  ⟨fun s' σ ρ r y => l.nx s' σ ρ r (x.trans y), fun s' k v z r y => l.rt s' k v z r (x.trans y), fun s' σ ρ r y => l.bk s' σ ρ r (x.trans y), fun s' σ ρ r y => l.ct s' σ ρ r (x.trans y)⟩

section
variable {X : Cx} {e0 : Hs} {pos : Pos}
/-! ### expressions -/
def rdV (o : Option Sl) (P : DK) : Prop := match o with
  | some (.v (.ow _) x) => P .rd x
  | some (.v k x) => P k x
  | _ => False
def eVar (i : Nat) : TEd := fun ρ P => rdV ρ[i]? P
theorem ve_var (i : Nat) {x : Str} (h : PE X (.Name x pos) (tVar i)) : VE X e0 (.Name x pos) (tVar i) (eVar i) := by
  refine ⟨h, fun s σ ρ P Q r t k => ?_⟩
  unfold eVar rdV at t
  cases q : ρ[i]? with
  | none => rw [q] at t; exact t.elim
  | some sl =>
    rw [q] at t
    cases sl with
    | no => exact t.elim
    | v kd y =>
      obtain ⟨v, h1, h2, h3, h4⟩ := r.sl i kd y q
      refine ⟨v, h1, ?_⟩
      cases kd with
      | fz => exact k s .fz v y (Grow.refl r.rh) h2 t
      | vw => exact k s .vw v y (Grow.refl r.rh) h2 t
      | rd => exact absurd rfl h3
      | fr => exact absurd rfl h4
      | ow l => exact k s .rd v y (Grow.refl r.rh) (h2.rq r.rh) t
def eC (x : Dt) : TEd := fun _ P => P .fz x
theorem ve_const {e : Expr} {v : V} {x : Dt} (h : PE X e (tC v)) (r : ∀ F, Rp X.K F v x) : VE X e0 e (tC v) (eC x) :=
  ⟨h, fun s σ ρ P Q rp t k => k s .fz v x (Grow.refl rp.rh) (r _) t⟩
theorem ve_int {i j} : VE X e0 (.Constant (.int i) j pos) (tC (.int i)) (eC (.int i)) := ve_const pe_int fun _ => .int _
theorem ve_bl {b j} : VE X e0 (.Constant (.bool b) j pos) (tC (.bl b)) (eC (.bl b)) := ve_const pe_bl fun _ => .bl _
theorem ve_non {j} : VE X e0 (.Constant .none j pos) (tC .non) (eC .non) := ve_const pe_non fun _ => .non
theorem ve_str {x j} : VE X e0 (.Constant (.str x) j pos) (tC (.str x)) (eC (.str x)) := ve_const pe_str fun _ => .str _

/-- a binary operation by data -/
abbrev R2d := Dt → Dt → DK → Prop
structure VOp (X : Cx) (f : Value → Value → Sem Value) (R : R2) (d : R2d) : Prop where
  pe : OpR X f R
  run : ∀ (s : Hs) (v u : V) (x y : Dt) (P : DK) (Q : VK), Grow s s → Rq X.K s.f s.h v x → Rq X.K s.f s.h u y → d x y P →
    (∀ s' k w z, Grow s s' → RK X.K s.h s' k w z → P k z → Q w s'.h) → R v u s.h Q
def eOp (d : R2d) (ta tb : TEd) : TEd := fun ρ P => ta ρ fun _ x => tb ρ fun _ y => d x y P
theorem Rep.self {s : Hs} {σ : St} {ρ : DEnv} (r : Rep X.K e0 s σ ρ) : Grow s s := Grow.refl r.rh
theorem none_of_same {H H' : Hp} (e : Same H H') {a : Addr} (h : H' a = none) : H a = none := Same.free e h
variable {a b : Expr} {d : R2d} {R : R2} {Ta Tb : TE} {ta tb : TEd}
theorem op_core {f : Value → Value → Sem Value} (ho : VOp X f R d) (ha : VE X e0 a Ta ta) (hb : VE X e0 b Tb tb) :
    ∀ (s : Hs) (σ : St) (ρ : DEnv) (P : DK) (Q : VK), Rep X.K e0 s σ ρ → eOp d ta tb ρ P →
      (∀ s' k v x, Grow s s' → RK X.K s.h s' k v x → P k x → Q v s'.h) → tOp R Ta Tb σ s.h Q := by
  intro s σ ρ P Q rp t k
  refine ha.run s σ ρ _ _ rp t fun s1 k1 v1 x1 g1 r1 t1 => ?_
  have rp1 := rp.grow g1
  refine hb.run s1 σ ρ _ _ rp1 t1 fun s2 k2 v2 x2 g2 r2 t2 => ?_
  have rp2 := rp1.grow g2
  refine ho.run s2 v1 v2 x1 x2 P Q rp2.self ((r1.rq rp1.rh).mono g2.f g2.h) (r2.rq rp2.rh) t2 fun s3 k3 v3 x3 g3 r3 t3 => ?_
  have g := (g1.trans g2)
  exact k s3 k3 v3 x3 (g.trans g3) (r3.base fun a h => none_of_same g.h h) t3
theorem ve_op {op : Operator} (ho : VOp X (binaryOp op) R d) (ha : VE X e0 a Ta ta) (hb : VE X e0 b Tb tb) : VE X e0 (.BinOp a op b pos) (tOp R Ta Tb) (eOp d ta tb) :=
  ⟨pe_op ho.pe ha.pe hb.pe, op_core ho ha hb⟩
theorem ve_cmp {op : CmpOp} (ho : VOp X (compareOp op) R d) (ha : VE X e0 a Ta ta) (hb : VE X e0 b Tb tb) (hm : behindInMarks op b = false) : VE X e0 (.Compare a [op] [b] pos) (tOp R Ta Tb) (eOp d ta tb) :=
  ⟨pe_cmpR ho.pe ha.pe hb.pe hm, op_core ho ha hb⟩
/-- a test: a value that is a bool -/
def dB (x : Dt) (P : Bool → Prop) : Prop := match x with
  | .bl b => P b
  | _ => False
def tB' (t : TEd) : TTd := fun ρ P => t ρ fun _ x => dB x P
theorem tst_core {T : TE} {t : TEd} (h : ∀ (s : Hs) (σ : St) (ρ : DEnv) (P : DK) (Q : VK), Rep X.K e0 s σ ρ → t ρ P → (∀ s' k v x, Grow s s' → RK X.K s.h s' k v x → P k x → Q v s'.h) → T σ s.h Q) :
    ∀ (s : Hs) (σ : St) (ρ : DEnv) (P : Bool → Prop) (Q : Bool → Hp → Prop), Rep X.K e0 s σ ρ → tB' t ρ P → (∀ s' b, Grow s s' → P b → Q b s'.h) → T σ s.h (fun x H' => ∃ k, x = .bl k ∧ Q k H') := by
  intro s σ ρ P Q rp t k
  refine h s σ ρ _ _ rp t fun s1 k1 v1 x1 g1 r1 t1 => ?_
  cases x1 with
  | bl b =>
    have q := r1.rq (rp.grow g1).rh
    exact ⟨b, q.bl, k s1 b g1 t1⟩
  | _ => exact t1.elim
theorem vt_cmp {op : CmpOp} (ho : VOp X (compareOp op) R d) (ha : VE X e0 a Ta ta) (hb : VE X e0 b Tb tb) (hm : behindInMarks op b = false) : VT X e0 (.Compare a [op] [b] pos) (tTest (tOp R Ta Tb)) (tB' (eOp d ta tb)) :=
  ⟨pt_cmpR ho.pe ha.pe hb.pe hm, tst_core (op_core ho ha hb)⟩
theorem vt_val {e : Expr} {T : TE} {t : TEd} (h : VE X e0 e T t) (he : ∀ whole, isTrue e X.env whole = (do let v ← whole; standAt e.pos; holding [v] (truthy v)) := by intro _; rfl) : VT X e0 e (tB T) (tB' t) :=
  ⟨pt_val h.pe he, tst_core h.run⟩
end
end Tq
set_option Elab.async false
set_option linter.all false
set_option autoImplicit false
set_option maxRecDepth 100000
set_option maxHeartbeats 4000000
namespace Tq
open PySem PySem.Spec L2
open PyProof.Rows hiding St

/-! ### as the library's data, for == -/
mutual
def Dt.py : Dt → PyData
  | .non => .none
  | .bl b => .bool b
  | .int i => .int i
  | .str x => .str x
  | .tup ds => .tuple (Dt.pys ds)
  | .lst ds => .list (Dt.pys ds)
  | .dct _ => .dict []
  | .obj _ _ => .dict []
def Dt.pys : List Dt → List PyData
  | [] => []
  | d :: ds => d.py :: Dt.pys ds
end
section
variable {K : PySem.W.Frag} {F H : Hp}
mutual
theorem Rp.dp (hs : Same F H) : ∀ {v : V} {x : Dt}, Rp K F v x → x.py.canLay0 = true → Dp K H v x.py
  | _, _, .non, _ => .non
  | _, _, .bl b, _ => .bl b
  | _, _, .int i, _ => .int i
  | _, _, .str x, _ => .str x
  | _, _, .tup h r, c => .tup (.inl (.inl (hs _ _ h))) (RpL.dp hs r c)
  | _, _, .lst h r, c => .lst (hs.seq h) (RpL.dp hs r c)
  | _, _, .dct h r, c => nomatch c
  | _, _, .obj h r, c => nomatch c
theorem RpL.dp (hs : Same F H) : ∀ {vs : List V} {xs : List Dt}, RpL K F vs xs → PyData.canLayAll0 (Dt.pys xs) = true → DpAll K H vs (Dt.pys xs)
  | _, _, .nil, _ => .nil
  | _, _, .cons r t, c => .cons (Rp.dp hs r (Bool.and_eq_true_iff.mp c).1) (RpL.dp hs t (Bool.and_eq_true_iff.mp c).2)
end
theorem Rq.dp (hs : Same F H) {v : V} {x : Dt} (q : Rq K F H v x) (c : x.py.canLay0 = true) : Dp K H v x.py := by
  rcases q with q | ⟨a, xs, ds, e1, e2, h, r⟩ | ⟨a, kvs, ds, e1, e2, h, r⟩
  · exact q.dp hs c
  · subst e1; subst e2
    exact .lst h (r.dp hs c)
  · subst e2
    exact nomatch c
end

/-! ### operations by data -/
section
variable {X : Cx}
def dI0 (g : Int → Int → Dt) : R2d := fun x y P => match x, y with
  | .int i, .int j => P .fz (g i j)
  | _, _ => False
def dI (C : Int → Int → Prop) (g : Int → Int → Dt) : R2d := fun x y P => match x, y with
  | .int i, .int j => C i j ∧ P .fz (g i j)
  | _, _ => False
theorem vop_i0 {f : Value → Value → Sem Value} {g : Int → Int → V} {g' : Int → Int → Dt} (h : OpR X f (rI0 g)) (hg : ∀ i j F, Rp X.K F (g i j) (g' i j)) : VOp X f (rI0 g) (dI0 g') := by
  refine ⟨h, fun s v u x y P Q gr q1 q2 d k => ?_⟩
  cases x <;> first | exact d.elim | skip
  cases y <;> first | exact d.elim | skip
  exact ⟨_, _, q1.int, q2.int, k s .fz _ _ gr (hg _ _ _) d⟩
theorem vop_i {f : Value → Value → Sem Value} {C : Int → Int → Prop} {g : Int → Int → V} {g' : Int → Int → Dt} (h : OpR X f (rI C g)) (hg : ∀ i j F, Rp X.K F (g i j) (g' i j)) : VOp X f (rI C g) (dI C g') := by
  refine ⟨h, fun s v u x y P Q gr q1 q2 d k => ?_⟩
  cases x <;> first | exact d.elim | skip
  cases y <;> first | exact d.elim | skip
  exact ⟨_, _, q1.int, q2.int, d.1, k s .fz _ _ gr (hg _ _ _) d.2⟩
abbrev dSub : R2d := dI0 fun i j => .int (i - j)
abbrev dAnd : R2d := dI0 fun i j => .int (Builtin.bitAnd i j)
abbrev dOr : R2d := dI0 fun i j => .int (Builtin.bitOr i j)
abbrev dXor : R2d := dI0 fun i j => .int (Builtin.bitXor i j)
abbrev dLt : R2d := dI0 fun i j => .bl (decide (i < j))
abbrev dLe : R2d := dI0 fun i j => .bl (decide (i ≤ j))
abbrev dGt : R2d := dI0 fun i j => .bl (decide (j < i))
abbrev dGe : R2d := dI0 fun i j => .bl (decide (j ≤ i))
abbrev dMod : R2d := dI (fun _ j => 0 < j) fun i j => .int (i % j)
abbrev dFdiv : R2d := dI CDiv fun i j => .int (i / j)
abbrev dPow : R2d := dI CPow fun i j => .int (i ^ j.toNat)
abbrev dShl : R2d := dI CPow fun i j => .int (i * 2 ^ j.toNat)
abbrev dShr : R2d := dI (fun _ j => 0 ≤ j) fun i j => .int (i / 2 ^ j.toNat)
theorem vo_sub : VOp X (binaryOp .Sub) (rI0 fun i j => .int (i - j)) dSub := vop_i0 op_sub fun _ _ _ => .int _
theorem vo_and : VOp X (binaryOp .BitAnd) (rI0 fun i j => .int (Builtin.bitAnd i j)) dAnd := vop_i0 op_and fun _ _ _ => .int _
theorem vo_or : VOp X (binaryOp .BitOr) (rI0 fun i j => .int (Builtin.bitOr i j)) dOr := vop_i0 op_or fun _ _ _ => .int _
theorem vo_xor : VOp X (binaryOp .BitXor) (rI0 fun i j => .int (Builtin.bitXor i j)) dXor := vop_i0 op_xor fun _ _ _ => .int _
theorem vo_lt : VOp X (compareOp .Lt) (rI0 fun i j => .bl (decide (i < j))) dLt := vop_i0 op_lt fun _ _ _ => .bl _
theorem vo_le : VOp X (compareOp .LtE) (rI0 fun i j => .bl (decide (i ≤ j))) dLe := vop_i0 op_le fun _ _ _ => .bl _
theorem vo_gt : VOp X (compareOp .Gt) (rI0 fun i j => .bl (decide (j < i))) dGt := vop_i0 op_gt fun _ _ _ => .bl _
theorem vo_ge : VOp X (compareOp .GtE) (rI0 fun i j => .bl (decide (j ≤ i))) dGe := vop_i0 op_ge fun _ _ _ => .bl _
theorem vo_mod : VOp X (binaryOp .Mod) (rI (fun _ j => 0 < j) fun i j => .int (i % j)) dMod := vop_i op_mod fun _ _ _ => .int _
theorem vo_fdiv : VOp X (binaryOp .FloorDiv) (rI CDiv fun i j => .int (i / j)) dFdiv := vop_i op_fdiv fun _ _ _ => .int _
theorem vo_pow : VOp X (binaryOp .Pow) (rI CPow fun i j => .int (i ^ j.toNat)) dPow := vop_i op_pow fun _ _ _ => .int _
theorem vo_shl : VOp X (binaryOp .LShift) (rI CPow fun i j => .int (i * 2 ^ j.toNat)) dShl := vop_i op_shl fun _ _ _ => .int _
theorem vo_shr : VOp X (binaryOp .RShift) (rI (fun _ j => 0 ≤ j) fun i j => .int (i / 2 ^ j.toNat)) dShr := vop_i op_shr fun _ _ _ => .int _
/-- a list and a list, whatever stands by them -/
def rCatS (K : PySem.W.Frag) : R2 := fun x y H Q => ∃ l b xs zs, x = .ref l ∧ y = .ref b ∧ SqL K H l xs ∧ SqL K H b zs ∧ xs.length + zs.length ≤ sizeLine ∧ ∀ p, H p = none → Q (.ref p) (upd H p (.lst (xs ++ zs)))
theorem op_catS : OpR X (binaryOp .Add) (rCatS X.K) := by
  intro pins s σ H x y v u Q I rx ry h
  obtain ⟨l, b, xs, zs, rfl, rfl, hH, hB, hz, q⟩ := h
  cases rx
  cases ry
  obtain ⟨its, r, ⟨⟨c1, d1, t1, sl1⟩, n, e, ec, ed, et⟩, z⟩ := I.list hH
  obtain ⟨its2, r2, ⟨⟨c2, d2, t2, sl2⟩, n2, e2, ec2, ed2, et2⟩, z2⟩ := I.list hB
  simp only at ec ed et ec2 ed2 et2
  subst ec ed et ec2 ed2 et2
  have hl := r.length
  have hl2 := r2.length
  refine concat_meets ⟨_, e, rfl⟩ ⟨_, e2, rfl⟩ noFill_list_add seq_list_add PySem.F.slot_list_add PySem.F.entry_list_add (PySem.F.args_list_add_2 _ _) (PyProof.Rows.list_addW l b its.toArray its2.toArray n n2 none none sl1 sl2 (by simpa [← hl, ← hl2] using hz)) ⟨e, e2, ?_⟩
  have ea : its.toArray ++ its2.toArray = (its ++ its2).toArray := by simp
  rw [ea]
  exact ⟨.ref _, _, I.lnew (t' := s.toks) (r.append r2) (by rw [List.length_append]; omega), rfl, q _ I.fresh⟩
theorem VOp.or {f : Value → Value → Sem Value} {R R' : R2} {d d' : R2d} (h : VOp X f R d) (h' : VOp X f R' d') : VOp X f (fun x y H Q => R x y H Q ∨ R' x y H Q) (fun x y P => d x y P ∨ d' x y P) := by
  obtain ⟨hR, r⟩ := h
  obtain ⟨hR', r'⟩ := h'
  exact ⟨hR.or hR', fun s v u x y P Q gr q1 q2 d k => d.elim (fun d => .inl (r s v u x y P Q gr q1 q2 d k)) fun d => .inr (r' s v u x y P Q gr q1 q2 d k)⟩
theorem VOp.imp {f : Value → Value → Sem Value} {R : R2} {d d' : R2d} (h : VOp X f R d) (i : ∀ x y P, d' x y P → d x y P) : VOp X f R d' := by
  obtain ⟨hR, r⟩ := h
  exact ⟨hR, fun s v u x y P Q gr q1 q2 d k => r s v u x y P Q gr q1 q2 (i _ _ _ d) k⟩
def dCat : R2d := fun x y P => match x, y with
  | .lst a, .lst b => a.length + b.length ≤ 16777216 ∧ P .fr (.lst (a ++ b))
  | _, _ => False
theorem fresh_new {K : PySem.W.Frag} {s0 s : Hs} {v : V} {p : Addr} {xs : List V} {ds : List Dt} (gr : Grow s0 s) (hp : s.h p = none) (r : RpL K s.f xs ds) (hv : v = .ref p) :
    Grow s0 (s.new p (.lst xs)) ∧ RK K s0.h (s.new p (.lst xs)) .fr v (.lst ds) :=
  ⟨gr.new hp, p, hv, Same.free gr.h hp, Same.free gr.gh hp, .inl ⟨xs, ds, rfl, upd_same, r⟩⟩
theorem vo_cat : VOp X (binaryOp .Add) (rCatS X.K) dCat := by
  refine ⟨op_catS, fun s v u x y P Q gr q1 q2 d k => ?_⟩
  cases x <;> first | exact d.elim | skip
  cases y <;> first | exact d.elim | skip
  obtain ⟨dl, d⟩ := d
  obtain ⟨a, xs, rfl, h1, r1⟩ := Rq.lst (gr.fg.trans gr.gh) q1
  obtain ⟨b, ys, rfl, h2, r2⟩ := Rq.lst (gr.fg.trans gr.gh) q2
  refine ⟨a, b, xs, ys, rfl, rfl, h1, h2, by rw [r1.length, r2.length, sizeLine_eq]; exact dl, fun p hp => ?_⟩
  obtain ⟨g, r⟩ := fresh_new gr hp (r1.app r2) rfl
  exact k _ .fr _ _ g r d
def dStr2 (f : Str → Str → Dt) (C : Str → Str → Prop) : R2d := fun x y P => match x, y with
  | .str a, .str b => C a b ∧ P .fz (f a b)
  | _, _ => False
def rAddS : R2 := fun x y H Q => ∃ i j, x = .str i ∧ y = .str j ∧ i.length + j.length ≤ sizeLine ∧ Q (.str (i ++ j)) H
theorem vo_adds : VOp X (binaryOp .Add) rAddS (dStr2 (fun a b => .str (a ++ b)) fun a b => a.length + b.length ≤ 16777216) := by
  refine ⟨op_add_str, fun s v u x y P Q gr q1 q2 d k => ?_⟩
  cases x <;> first | exact d.elim | skip
  cases y <;> first | exact d.elim | skip
  obtain ⟨dl, d⟩ := d
  exact ⟨_, _, q1.str, q2.str, by rw [sizeLine_eq]; exact dl, k s .fz _ _ gr (.str _) d⟩
def dAdd : R2d := fun x y P => match x, y with
  | .int i, .int j => P .fz (.int (i + j))
  | .str a, .str b => a.length + b.length ≤ 16777216 ∧ P .fz (.str (a ++ b))
  | .lst a, .lst b => a.length + b.length ≤ 16777216 ∧ P .fr (.lst (a ++ b))
  | _, _ => False
def rAddD (K : PySem.W.Frag) : R2 := fun x y H Q => rI0 (fun i j => .int (i + j)) x y H Q ∨ rAddS x y H Q ∨ rCatS K x y H Q
theorem vo_add : VOp X (binaryOp .Add) (rAddD X.K) dAdd := by
  refine VOp.imp ((vop_i0 (g' := fun i j => .int (i + j)) op_add fun _ _ _ => .int _).or (vo_adds.or vo_cat)) fun x y P d => ?_
  cases x <;> cases y <;> first | exact d.elim | skip
  · exact .inl d
  · exact .inr (.inl d)
  · exact .inr (.inr d)
def dRep : R2d := fun x y P => match x, y with
  | .lst a, .int k => -(2 ^ 63) ≤ k ∧ k < 2 ^ 63 ∧ a.length * k.toNat ≤ 16777216 ∧ P .fr (.lst (List.replicate k.toNat a).flatten)
  | _, _ => False
/-- products: one side small -/
def dMul : R2d := fun x y P => match x, y with
  | .int i, .int j => CMul i j ∧ P .fz (.int (i * j))
  | _, _ => False
theorem vo_mul : VOp X (binaryOp .Mult) (rI CMul fun i j => .int (i * j)) dMul := VOp.imp (vop_i (g' := fun i j => .int (i * j)) op_mul fun _ _ _ => .int _) fun x y P d => by
  cases x <;> cases y <;> first | exact d.elim | exact d
/-! ### == -/
def dEqG (n : Bool) : R2d := fun x y P => SeqAt.shaped x.py = true ∧ SeqAt.shaped y.py = true ∧ P .fz (.bl (PyData.eqv x.py y.py != n))
theorem eqS {i j : Int} : PyData.eqv (.int i) (.int j) = decide (i = j) := by
  show (i == j) = decide (i = j)
  by_cases e : i = j
  · subst e; simp
  · simp [e]
theorem vo_eqG (hu : X.A.units + 64 < cLine) : VOp X (compareOp .Eq) (rEqD X.K) (dEqG false) := by
  refine ⟨op_eqD hu, fun s v u x y P Q gr q1 q2 d k => ?_⟩
  obtain ⟨d1, d2, d⟩ := d
  have hs := gr.fg.trans gr.gh
  refine ⟨x.py, y.py, q1.dp hs (SeqAt.canLay_of_shaped d1), q2.dp hs (SeqAt.canLay_of_shaped d2), d1, d2, k s .fz _ _ gr (.bl _) ?_⟩
  rw [Bool.bne_false] at d
  exact d
theorem vo_neG (hu : X.A.units + 64 < cLine) : VOp X (compareOp .NotEq) (rNeD X.K) (dEqG true) := by
  refine ⟨op_neD hu, fun s v u x y P Q gr q1 q2 d k => ?_⟩
  obtain ⟨d1, d2, d⟩ := d
  have hs := gr.fg.trans gr.gh
  refine ⟨x.py, y.py, q1.dp hs (SeqAt.canLay_of_shaped d1), q2.dp hs (SeqAt.canLay_of_shaped d2), d1, d2, k s .fz _ _ gr (.bl _) ?_⟩
  rw [Bool.bne_true] at d
  exact d
def dEq : R2d := fun x y P => match x, y with
  | .int i, .int j => P .fz (.bl (decide (i = j)))
  | .bl i, .bl j => P .fz (.bl (decide (i = j)))
  | .str i, .str j => P .fz (.bl (decide (i = j)))
  | x, y => dEqG false x y P
def dNe : R2d := fun x y P => match x, y with
  | .int i, .int j => P .fz (.bl (!decide (i = j)))
  | .bl i, .bl j => P .fz (.bl (!decide (i = j)))
  | .str i, .str j => P .fz (.bl (!decide (i = j)))
  | x, y => dEqG true x y P
def dEqS : R2d := fun x y P => match x, y with
  | .int i, .int j => P .fz (.bl (decide (i = j)))
  | .bl i, .bl j => P .fz (.bl (decide (i = j)))
  | .str i, .str j => P .fz (.bl (decide (i = j)))
  | _, _ => False
def dNeS : R2d := fun x y P => match x, y with
  | .int i, .int j => P .fz (.bl (!decide (i = j)))
  | .bl i, .bl j => P .fz (.bl (!decide (i = j)))
  | .str i, .str j => P .fz (.bl (!decide (i = j)))
  | _, _ => False
theorem deq_int {i j : Int} : decide (V.int i = V.int j) = decide (i = j) := by simp
theorem deq_bl {i j : Bool} : decide (V.bl i = V.bl j) = decide (i = j) := by simp
theorem deq_str {i j : Str} : decide (V.str i = V.str j) = decide (i = j) := by simp
theorem vo_eqS : VOp X (compareOp .Eq) rEq dEqS := by
  refine ⟨op_eq, fun s v u x y P Q gr q1 q2 d k => ?_⟩
  cases x <;> cases y <;> first | exact d.elim | skip
  · cases q1.bl; cases q2.bl
    exact ⟨rfl, by rw [deq_bl]; exact k s .fz _ _ gr (.bl _) d⟩
  · cases q1.int; cases q2.int
    exact ⟨rfl, by rw [deq_int]; exact k s .fz _ _ gr (.bl _) d⟩
  · cases q1.str; cases q2.str
    exact ⟨rfl, by rw [deq_str]; exact k s .fz _ _ gr (.bl _) d⟩
theorem vo_neS : VOp X (compareOp .NotEq) rNe dNeS := by
  refine ⟨op_ne, fun s v u x y P Q gr q1 q2 d k => ?_⟩
  cases x <;> cases y <;> first | exact d.elim | skip
  · cases q1.bl; cases q2.bl
    exact ⟨rfl, by rw [deq_bl]; exact k s .fz _ _ gr (.bl _) d⟩
  · cases q1.int; cases q2.int
    exact ⟨rfl, by rw [deq_int]; exact k s .fz _ _ gr (.bl _) d⟩
  · cases q1.str; cases q2.str
    exact ⟨rfl, by rw [deq_str]; exact k s .fz _ _ gr (.bl _) d⟩
theorem vo_eq (hu : X.A.units + 64 < cLine) : VOp X (compareOp .Eq) (fun x y H Q => rEq x y H Q ∨ rEqD X.K x y H Q) dEq := by
  refine VOp.imp (vo_eqS.or (vo_eqG hu)) fun x y P d => ?_
  cases x <;> cases y <;> first | exact .inl d | exact .inr d
theorem vo_ne (hu : X.A.units + 64 < cLine) : VOp X (compareOp .NotEq) (fun x y H Q => rNe x y H Q ∨ rNeD X.K x y H Q) dNe := by
  refine VOp.imp (vo_neS.or (vo_neG hu)) fun x y P d => ?_
  cases x <;> cases y <;> first | exact .inl d | exact .inr d
/-! ### is None -/
def Dt.isNon : Dt → Bool
  | .non => true
  | _ => false
theorem isNon_eq {K : PySem.W.Frag} {F H : Hp} {v : V} {x : Dt} (q : Rq K F H v x) : decide (v = .non) = x.isNon := by
  rcases q with q | ⟨a, xs, ds, e1, e2, h, r⟩ | ⟨a, kvs, ds, e1, e2, h, r⟩
  · cases q <;> rfl
  · subst e1; subst e2; rfl
  · subst e1; subst e2; rfl
def dIs : R2d := fun x y P => match y with
  | .non => P .fz (.bl x.isNon)
  | _ => False
def dIsNot : R2d := fun x y P => match y with
  | .non => P .fz (.bl (!x.isNon))
  | _ => False
def rIsN : R2 := fun x y H Q => y = .non ∧ Q (.bl (decide (x = .non))) H
def rIsNotN : R2 := fun x y H Q => y = .non ∧ Q (.bl (!decide (x = .non))) H
theorem vo_is : VOp X (compareOp .Is) rIsN dIs := by
  refine ⟨op_isN, fun s v u x y P Q gr q1 q2 d k => ?_⟩
  cases y <;> first | exact d.elim | skip
  exact ⟨q2.non, by rw [isNon_eq q1]; exact k s .fz _ _ gr (.bl _) d⟩
theorem vo_isnot : VOp X (compareOp .IsNot) rIsNotN dIsNot := by
  refine ⟨op_notN, fun s v u x y P Q gr q1 q2 d k => ?_⟩
  cases y <;> first | exact d.elim | skip
  exact ⟨q2.non, by rw [isNon_eq q1]; exact k s .fz _ _ gr (.bl _) d⟩
end
end Tq
set_option Elab.async false
set_option linter.all false
set_option autoImplicit false
set_option maxRecDepth 100000
set_option maxHeartbeats 4000000
namespace Tq
open PySem PySem.Spec L2
open PyProof.Rows hiding St
section
variable {X : Cx} {e0 : Hs} {pos : Pos}
/-! ### unary -/
def dI1 (g : Int → Dt) : Dt → DK → Prop := fun x P => match x with
  | .int i => P .fz (g i)
  | _ => False
def eUn (d : Dt → DK → Prop) (ta : TEd) : TEd := fun ρ P => ta ρ fun _ x => d x P
theorem ve_neg {a : Expr} {Ta : TE} {ta : TEd} (ha : VE X e0 a Ta ta) : VE X e0 (.UnaryOp .USub a pos) (tUn (rU fun i => .int (-i)) Ta) (eUn (dI1 fun i => .int (-i)) ta) := by
  obtain ⟨hTa, ra⟩ := ha
  refine ⟨pe_un un_neg hTa, fun s σ ρ P Q rp t k => ?_⟩
  refine ra s σ ρ _ _ rp t fun s1 k1 v1 x1 g1 r1 t1 => ?_
  cases x1 <;> first | exact t1.elim | skip
  exact ⟨_, (r1.rq (rp.grow g1).rh).int, k s1 .fz _ _ g1 (.int _) t1⟩
/-! ### subscripts -/
def optD (o : Option Dt) (P : DK) : Prop := match o with
  | some d => P .fz d
  | none => False
def optC (z : Str) (o : Option Nat) (P : DK) : Prop := match o with
  | some c => z.length ≤ 16777216 ∧ P .fz (.str ⟨#[c]⟩)
  | none => False
def dIx : R2d := fun x y P => match x, y with
  | .lst ds, .int i => optD (atI ds i) P
  | .tup ds, .int i => optD (atI ds i) P
  | .str z, .int i => optC z (atI z.cps.toList i) P
  | _, _ => False
theorem RpL.atI {K : PySem.W.Frag} {F : Hp} {vs : List V} {xs : List Dt} {i : Int} {x : Dt} (r : RpL K F vs xs) (h : L2.atI xs i = some x) : ∃ v, L2.atI vs i = some v ∧ Rp K F v x := by
  unfold L2.atI at h ⊢
  rw [r.length]
  cases e : ixN xs.length i with
  | none => rw [e] at h; cases h
  | some j =>
    rw [e] at h
    exact r.at h
theorem ve_ix {a b : Expr} {Ta Tb : TE} {ta tb : TEd} (ha : VE X e0 a Ta ta) (hb : VE X e0 b Tb tb) (hs : PlainIx b) : VE X e0 (.Subscript a b pos) (tOp (rIx X.K) Ta Tb) (eOp dIx ta tb) := by
  obtain ⟨hTa, ra⟩ := ha
  obtain ⟨hTb, rb⟩ := hb
  refine ⟨pe_ix ix_seq hTa hTb hs, fun s σ ρ P Q rp t k => ?_⟩
  refine ra s σ ρ _ _ rp t fun s1 k1 v1 x1 g1 r1 t1 => ?_
  have rp1 := rp.grow g1
  refine rb s1 σ ρ _ _ rp1 t1 fun s2 k2 v2 x2 g2 r2 t2 => ?_
  have rp2 := rp1.grow g2
  have q1 := (r1.rq rp1.rh).mono g2.f g2.h
  have q2 := r2.rq rp2.rh
  have g := g1.trans g2
  cases x1 <;> first | exact t2.elim | skip
  all_goals cases x2 <;> first | exact t2.elim | skip
  · rename_i z i
    cases q1.str; cases q2.int
    revert t2
    show (match L2.atI z.cps.toList i with
      | some c => z.length ≤ 16777216 ∧ P .fz (.str ⟨#[c]⟩)
      | none => False) → _
    cases e : L2.atI z.cps.toList i with
    | none => exact fun t2 => t2.elim
    | some c => exact fun t2 => .inr (.inr ⟨z, i, c, rfl, rfl, by rw [sizeLine_eq]; exact t2.1, e, k s2 .fz _ _ g (.str _) t2.2⟩)
  · rename_i ds i
    cases q2.int
    obtain ⟨a', xs, rfl, h1, r1'⟩ := Rq.tup rp2.rh.fh q1
    revert t2
    show (match L2.atI ds i with
      | some d => P .fz d
      | none => False) → _
    cases e : L2.atI ds i with
    | none => exact fun t2 => t2.elim
    | some d =>
      intro t2
      obtain ⟨v, hv, rv⟩ := r1'.atI e
      exact .inr (.inl ⟨a', xs, i, v, rfl, rfl, .inl (.inl h1), hv, k s2 .fz _ _ g rv t2⟩)
  · rename_i ds i
    cases q2.int
    obtain ⟨a', xs, rfl, h1, r1'⟩ := Rq.lst rp2.rh.fh q1
    revert t2
    show (match L2.atI ds i with
      | some d => P .fz d
      | none => False) → _
    cases e : L2.atI ds i with
    | none => exact fun t2 => t2.elim
    | some d =>
      intro t2
      obtain ⟨v, hv, rv⟩ := r1'.atI e
      exact .inl ⟨a', xs, i, v, rfl, rfl, h1, hv, k s2 .fz _ _ g rv t2⟩
/-! ### slices -/
def cutL {α : Type} (xs : List α) (lo hi : Option Int) : List α := (xs.drop (HT.sIx xs.length 0 lo)).take (HT.sIx xs.length xs.length hi - HT.sIx xs.length 0 lo)
abbrev TOd := DEnv → (Option Int → Prop) → Prop
structure VO (X : Cx) (e0 : Hs) (e : Option Expr) (T : TO) (t : TOd) : Prop where
  pe : PO X e T
  run : ∀ (s : Hs) (σ : St) (ρ : DEnv) (P : Option Int → Prop) (Q : Option Int → Hp → Prop), Rep X.K e0 s σ ρ → t ρ P → (∀ s' o, Grow s s' → P o → Q o s'.h) → T σ s.h Q
def oNo : TOd := fun _ P => P none
def oPartK (x : Dt) (P : Option Int → Prop) : Prop := match x with
  | .int i => P (some i)
  | _ => False
def oPart (t : TEd) : TOd := fun ρ P => t ρ fun _ x => oPartK x P
theorem vo_no : VO X e0 none tNoPart oNo := ⟨po_none, fun s σ ρ P Q rp t k => k s none rp.self t⟩
theorem vo_part {e : Expr} {T : TE} {t : TEd} (h : VE X e0 e T t) : VO X e0 (some e) (tPart T) (oPart t) := by
  obtain ⟨hTa, ra⟩ := h
  refine ⟨po_some hTa, fun s σ ρ P Q rp t k => ?_⟩
  refine ra s σ ρ _ _ rp t fun s1 k1 v1 x1 g1 r1 t1 => ?_
  cases x1 <;> first | exact t1.elim | skip
  exact ⟨_, (r1.rq (rp.grow g1).rh).int, k s1 _ g1 t1⟩
def dSl (x : Dt) (lo hi : Option Int) (P : DK) : Prop := match x with
  | .lst ds => P .fr (.lst (cutL ds lo hi))
  | .str z => z.length ≤ 16777216 ∧ P .fz (.str (cutS z lo hi))
  | _ => False
def eSl (ta : TEd) (tl th : TOd) : TEd := fun ρ P => ta ρ fun _ x => tl ρ fun l => th ρ fun u => dSl x l u P
theorem RpL.cut {K : PySem.W.Frag} {F : Hp} {vs : List V} {xs : List Dt} (r : RpL K F vs xs) (lo hi : Option Int) : RpL K F (cutV vs lo hi) (cutL xs lo hi) := by
  unfold cutV cutL
  rw [r.length]
  exact (r.drop _).take _
theorem ve_slice {e : Expr} {lo hi : Option Expr} {p2 : Pos} {Ta : TE} {Tl Th : TO} {ta : TEd} {tl th : TOd} (ha : VE X e0 e Ta ta) (hl : VO X e0 lo Tl tl) (hh : VO X e0 hi Th th) : VE X e0 (.Subscript e (.Slice lo hi none p2) pos) (tSl (fun x lo hi H Q => rSlL X.K x lo hi H Q ∨ rSlS x lo hi H Q) Ta Tl Th) (eSl ta tl th) := by
  obtain ⟨hTa, ra⟩ := ha
  obtain ⟨hTl, rl⟩ := hl
  obtain ⟨hTh, rh⟩ := hh
  refine ⟨pe_slice (sl_list.or sl_str) hTa hTl hTh, fun s σ ρ P Q rp t k => ?_⟩
  refine ra s σ ρ _ _ rp t fun s1 k1 v1 x1 g1 r1 t1 => ?_
  have rp1 := rp.grow g1
  refine rl s1 σ ρ _ _ rp1 t1 fun s2 l g2 t2 => ?_
  have rp2 := rp1.grow g2
  refine rh s2 σ ρ _ _ rp2 t2 fun s3 u g3 t3 => ?_
  have rp3 := rp2.grow g3
  have g := g1.trans (g2.trans g3)
  have q1 := (r1.rq rp1.rh).mono (g2.trans g3).f (g2.trans g3).h
  cases x1 <;> first | exact t3.elim | skip
  · cases q1.str
    exact .inr ⟨_, rfl, by rw [sizeLine_eq]; exact t3.1, k s3 .fz _ _ g (.str _) t3.2⟩
  · obtain ⟨a', xs, rfl, h1, r1'⟩ := Rq.lst rp3.rh.fh q1
    refine .inl ⟨a', xs, rfl, h1, fun p hp => ?_⟩
    obtain ⟨gg, rr⟩ := fresh_new g hp (r1'.cut l u) rfl
    exact k _ .fr _ _ gg rr t3
/-! ### arguments, tuples, lists -/
def Kd.arg : Kd → Kd
  | .fz => .fz
  | .fr => .fz
  | _ => .rd
def aNil : TAd := fun _ P => P []
def aCons (t : TEd) (u : TAd) : TAd := fun ρ P => t ρ fun k x => u ρ fun as => P ((k.arg, x) :: as)
theorem va_nil : VA X e0 [] tNil aNil := ⟨pa_nil, fun s σ ρ P Q rp t k => k s [] [] rp.self .nil rfl t⟩
theorem va_cons {e : Expr} {es : List Expr} {T : TE} {U : TA} {t : TEd} {u : TAd} (he : VE X e0 e T t) (hr : VA X e0 es U u) (hs : starEach (e :: es) X.env = (false, eval e X.env) :: starEach es X.env := by rfl) : VA X e0 (e :: es) (tCons T U) (aCons t u) := by
  obtain ⟨hTa, ra⟩ := he
  obtain ⟨hTb, rb⟩ := hr
  refine ⟨pa_cons hTa hTb hs, fun s σ ρ P Q rp t k => ?_⟩
  refine ra s σ ρ _ _ rp t fun s1 k1 v1 x1 g1 r1 t1 => ?_
  by_cases hk : k1.st = true
  · obtain ⟨s1', g1', e1, f1, p1⟩ := r1.freeze g1 hk
    have ek : k1.arg = .fz := by cases k1 <;> first | rfl | cases hk
    rw [ek] at t1
    have rp1 := rp.grow g1'
    have h := rb s1' σ ρ _ (fun vs H => Q (v1 :: vs) H) rp1 t1 fun s2 vs xs g2 ar hl t2 => k s2 (v1 :: vs) _ (g1'.trans g2) (.fz (p1.mono g2.f) ar) (by simp [hl]) t2
    rw [e1] at h
    exact h
  · have ek : k1.arg = .rd := by cases k1 <;> first | rfl | exact absurd rfl hk
    rw [ek] at t1
    have rp1 := rp.grow g1
    exact rb s1 σ ρ _ _ rp1 t1 fun s2 vs xs g2 ar hl t2 => k s2 (v1 :: vs) _ (g1.trans g2) (.rd ((r1.rq rp1.rh).mono g2.f g2.h) ar) (by simp [hl]) t2
def allfz : List (Kd × Dt) → Bool
  | [] => true
  | (.fz, _) :: r => allfz r
  | _ :: _ => false
def dts : List (Kd × Dt) → List Dt
  | [] => []
  | (_, x) :: r => x :: dts r
theorem dts_length : ∀ as : List (Kd × Dt), (dts as).length = as.length
  | [] => rfl
  | (_, _) :: r => congrArg (· + 1) (dts_length r)
theorem ArgsR.rpl {K : PySem.W.Frag} {F H : Hp} : ∀ {vs : List V} {as : List (Kd × Dt)}, ArgsR K F H vs as → allfz as = true → RpL K F vs (dts as)
  | _, _, .nil, _ => .nil
  | _, _, .fz r t, h => .cons r (ArgsR.rpl t h)
  | _, _, .rd r t, h => nomatch h
def eTup (t : TAd) : TEd := fun ρ P => t ρ fun as => allfz as = true ∧ P .fz (.tup (dts as))
def eLst (t : TAd) : TEd := fun ρ P => t ρ fun as => allfz as = true ∧ P .fr (.lst (dts as))
theorem ve_tup {es : List Expr} {T : TA} {t : TAd} {x1} (h : VA X e0 es T t) (hl : es.length ≤ 1000 := by decide) : VE X e0 (.Tuple es x1 pos) (tTup T) (eTup t) := by
  obtain ⟨hTa, ra⟩ := h
  refine ⟨pe_tup hTa, fun s σ ρ P Q rp t k => ?_⟩
  refine ra s σ ρ _ _ rp t fun s1 vs xs g1 ar hxl t1 => ?_
  obtain ⟨hf, t1⟩ := t1
  have r := ar.rpl hf
  refine ⟨by rw [r.length, dts_length, hxl, sizeLine_eq]; omega, fun p hp => ?_⟩
  refine k (s1.lay p (.tup vs)) .fz _ _ (g1.lay hp) (.tup upd_same (r.mono (same_upd ?_))) t1
  exact Same.free (g1.fg.trans g1.gh) hp
theorem ve_lst {es : List Expr} {T : TA} {t : TAd} (h : VA X e0 es T t) (hl : es.length ≤ 1000 := by decide) : VE X e0 (.List es pos) (tLst T) (eLst t) := by
  obtain ⟨hTa, ra⟩ := h
  refine ⟨pe_lst hTa, fun s σ ρ P Q rp t k => ?_⟩
  refine ra s σ ρ _ _ rp t fun s1 vs xs g1 ar hxl t1 => ?_
  obtain ⟨hf, t1⟩ := t1
  have r := ar.rpl hf
  refine ⟨by rw [r.length, dts_length, hxl, sizeLine_eq]; omega, fun p hp => ?_⟩
  obtain ⟨gg, rr⟩ := fresh_new g1 hp r rfl
  exact k _ .fr _ _ gg rr t1
/-! ### built-in functions -/
structure VCall (X : Cx) (f : Value) (R : List V → Hp → VK → Prop) (d : List (Kd × Dt) → DK → Prop) : Prop where
  pe : CallR X f R
  run : ∀ (s0 s : Hs) (vs : List V) (as : List (Kd × Dt)) (P : DK) (Q : VK), Grow s0 s → ArgsR X.K s.f s.h vs as → d as P →
    (∀ s' k w z, Grow s0 s' → RK X.K s0.h s' k w z → P k z → Q w s'.h) → R vs s.h Q
def eCall (d : List (Kd × Dt) → DK → Prop) (t : TAd) : TEd := fun ρ P => t ρ fun as => d as P
theorem ve_callB {id : String} {x : Str} {p : Pos} {e : Expr} {es : List Expr} {R : List V → Hp → VK → Prop} {d : List (Kd × Dt) → DK → Prop} {Ta : TA} {t : TAd} (hc : VCall X (.builtin id) R d) (hg : Gl X x) (hm : X.mg x = none) (hv : bootBuiltins x = some (.builtin id)) (ha : VA X e0 (e :: es) Ta t) (hn : x ≠ "__name__" := by decide) (hdb : (x == ("__debug__" : Str)) = false := by decide)
    (he : starEach (e :: es) X.env = (false, eval e X.env) :: starEach es X.env := by rfl) (hpl : (backTo pos (starEach es X.env)).any (·.1) = false := by rfl) : VE X e0 (.Call (.Name x p) (e :: es) [] pos) (tCB R Ta) (eCall d t) := by
  obtain ⟨hR, r⟩ := hc
  obtain ⟨hTa, ra⟩ := ha
  refine ⟨pe_callB hR hg hm hv hTa hn hdb he hpl, fun s σ ρ P Q rp t k => ?_⟩
  exact ra s σ ρ _ _ rp t fun s1 vs xs g1 ar hxl t1 => r s s1 vs xs P Q g1 ar t1 k
theorem ve_callTy {T : String} {x : Str} {p : Pos} {e : Expr} {es : List Expr} {R : List V → Hp → VK → Prop} {d : List (Kd × Dt) → DK → Prop} {Ta : TA} {t : TAd} (hc : VCall X (.type T) R d) (hg : Gl X x) (hm : X.mg x = none) (hv : bootBuiltins x = some (.type T)) (ha : VA X e0 (e :: es) Ta t) (hn : x ≠ "__name__" := by decide) (hdb : (x == ("__debug__" : Str)) = false := by decide)
    (he : starEach (e :: es) X.env = (false, eval e X.env) :: starEach es X.env := by rfl) (hpl : (backTo pos (starEach es X.env)).any (·.1) = false := by rfl) : VE X e0 (.Call (.Name x p) (e :: es) [] pos) (tCB R Ta) (eCall d t) := by
  obtain ⟨hR, r⟩ := hc
  obtain ⟨hTa, ra⟩ := ha
  refine ⟨pe_callTy hR hg hm hv hTa hn hdb he hpl, fun s σ ρ P Q rp t k => ?_⟩
  exact ra s σ ρ _ _ rp t fun s1 vs xs g1 ar hxl t1 => r s s1 vs xs P Q g1 ar t1 k
theorem ArgsR.one {K : PySem.W.Frag} {F H : Hp} {vs : List V} {k : Kd} {x : Dt} (h : ArgsR K F H vs [(k, x)]) : ∃ v, vs = [v] ∧ Rq K F H v x := by
  cases h with
  | fz r t => cases t; exact ⟨_, rfl, .inl r⟩
  | rd r t => cases t; exact ⟨_, rfl, r⟩
theorem ArgsR.two {K : PySem.W.Frag} {F H : Hp} {vs : List V} {k k' : Kd} {x y : Dt} (h : ArgsR K F H vs [(k, x), (k', y)]) : ∃ v u, vs = [v, u] ∧ Rq K F H v x ∧ Rq K F H u y := by
  cases h with
  | fz r t =>
    obtain ⟨u, rfl, q⟩ := ArgsR.one t
    exact ⟨_, _, rfl, .inl r, q⟩
  | rd r t =>
    obtain ⟨u, rfl, q⟩ := ArgsR.one t
    exact ⟨_, _, rfl, r, q⟩
def bLen : List (Kd × Dt) → DK → Prop := fun as P => match as with
  | [(_, .lst ds)] => P .fz (.int ds.length)
  | [(_, .tup ds)] => P .fz (.int ds.length)
  | [(_, .str z)] => z.length ≤ 16777216 ∧ P .fz (.int z.length)
  | _ => False
def rLenD (K : PySem.W.Frag) : List V → Hp → VK → Prop := fun xs H Q => (∃ p ys, xs = [.ref p] ∧ (SqL K H p ys ∨ SqT K H p ys) ∧ Q (.int ys.length) H) ∨ ∃ z, xs = [.str z] ∧ z.length ≤ sizeLine ∧ Q (.int z.length) H
theorem vc_len : VCall X (.builtin "len") (rLenD X.K) bLen := by
  refine ⟨call_len_seq.or call_len_str, fun s0 s vs as P Q g ar d k => ?_⟩
  have fh := g.fg.trans g.gh
  match as, ar, d with
  | [(_, .lst ds)], ar, d =>
    obtain ⟨v, rfl, q⟩ := ar.one
    obtain ⟨a, xs, rfl, h, r⟩ := Rq.lst fh q
    refine .inl ⟨a, xs, rfl, .inl h, ?_⟩
    rw [r.length]
    exact k s .fz _ _ g (.int _) d
  | [(_, .tup ds)], ar, d =>
    obtain ⟨v, rfl, q⟩ := ar.one
    obtain ⟨a, xs, rfl, h, r⟩ := Rq.tup fh q
    refine .inl ⟨a, xs, rfl, .inr (.inl (.inl h)), ?_⟩
    rw [r.length]
    exact k s .fz _ _ g (.int _) d
  | [(_, .str z)], ar, d =>
    obtain ⟨v, rfl, q⟩ := ar.one
    cases q.str
    exact .inr ⟨z, rfl, by rw [sizeLine_eq]; exact d.1, k s .fz _ _ g (.int _) d.2⟩
def bList : List (Kd × Dt) → DK → Prop := fun as P => match as with
  | [(_, .lst ds)] => P .fr (.lst ds)
  | [(_, .tup ds)] => P .fr (.lst ds)
  | _ => False
def rListD (K : PySem.W.Frag) : List V → Hp → VK → Prop := fun xs H Q => ∃ p ys, xs = [.ref p] ∧ (SqL K H p ys ∨ SqT K H p ys) ∧ ∀ l, H l = none → Q (.ref l) (upd H l (.lst ys))
theorem vc_list : VCall X (.type "list") (rListD X.K) bList := by
  refine ⟨call_list_of, fun s0 s vs as P Q g ar d k => ?_⟩
  have fh := g.fg.trans g.gh
  match as, ar, d with
  | [(_, .lst ds)], ar, d =>
    obtain ⟨v, rfl, q⟩ := ar.one
    obtain ⟨a, xs, rfl, h, r⟩ := Rq.lst fh q
    refine ⟨a, xs, rfl, .inl h, fun l hl => ?_⟩
    obtain ⟨gg, rr⟩ := fresh_new g hl r rfl
    exact k _ .fr _ _ gg rr d
  | [(_, .tup ds)], ar, d =>
    obtain ⟨v, rfl, q⟩ := ar.one
    obtain ⟨a, xs, rfl, h, r⟩ := Rq.tup fh q
    refine ⟨a, xs, rfl, .inr (.inl (.inl h)), fun l hl => ?_⟩
    obtain ⟨gg, rr⟩ := fresh_new g hl r rfl
    exact k _ .fr _ _ gg rr d
def bDivmod : List (Kd × Dt) → DK → Prop := fun as P => match as with
  | [(_, .int i), (_, .int j)] => CDiv i j ∧ P .fz (.tup [.int (i / j), .int (i % j)])
  | _ => False
def rDivD : List V → Hp → VK → Prop := fun xs H Q => ∃ i j, xs = [.int i, .int j] ∧ CDiv i j ∧ ∀ p, H p = none → Q (.ref p) (upd H p (.tup [.int (i / j), .int (i % j)]))
theorem vc_divmod : VCall X (.builtin "divmod") rDivD bDivmod := by
  refine ⟨call_divmod, fun s0 s vs as P Q g ar d k => ?_⟩
  match as, ar, d with
  | [(_, .int i), (_, .int j)], ar, d =>
    obtain ⟨v, u, rfl, q1, q2⟩ := ar.two
    cases q1.int; cases q2.int
    refine ⟨i, j, rfl, d.1, fun p hp => ?_⟩
    exact k (s.lay p _) .fz _ _ (g.lay hp) (.tup upd_same (.cons (.int _) (.cons (.int _) .nil))) d.2
/-! ### and, or, not, if -/
def selAnd (b : Bool) (t : TTd) (ρ : DEnv) (P : Bool → Prop) : Prop := if b = true then t ρ P else P false
def selOr (b : Bool) (t : TTd) (ρ : DEnv) (P : Bool → Prop) : Prop := if b = true then P true else t ρ P
def bAnd (ta tb : TTd) : TTd := fun ρ P => ta ρ fun b => selAnd b tb ρ P
def bOr (ta tb : TTd) : TTd := fun ρ P => ta ρ fun b => selOr b tb ρ P
def bNot (ta : TTd) : TTd := fun ρ P => ta ρ fun b => P (!b)
structure VW (X : Cx) (e0 : Hs) (e : Expr) (T : TT) (t : TTd) : Prop where
  pe : PW X e T
  run : ∀ (s : Hs) (σ : St) (ρ : DEnv) (P : Bool → Prop) (Q : Bool → Hp → Prop), Rep X.K e0 s σ ρ → t ρ P →
    (∀ s' b, Grow s s' → P b → Q b s'.h) → T σ s.h Q
theorem VW.vt {e : Expr} {T : TT} {t : TTd} (h : VW X e0 e T t) : VT X e0 e T t := by
  obtain ⟨hT, r⟩ := h
  exact ⟨hT.pt, r⟩
theorem vw_and1 {a : Expr} {T : TT} {t : TTd} (h : VT X e0 a T t) : VW X e0 (.BoolOp .And [a] pos) T t := by
  obtain ⟨hT, r⟩ := h
  exact ⟨pw_and1 hT, r⟩
theorem vw_or1 {a : Expr} {T : TT} {t : TTd} (h : VT X e0 a T t) : VW X e0 (.BoolOp .Or [a] pos) T t := by
  obtain ⟨hT, r⟩ := h
  exact ⟨pw_or1 hT, r⟩
theorem vw_and {a b : Expr} {rest : List Expr} {T U : TT} {t u : TTd} (h : VT X e0 a T t) (h' : VW X e0 (.BoolOp .And (b :: rest) pos) U u) : VW X e0 (.BoolOp .And (a :: b :: rest) pos) (tAnd T U) (bAnd t u) := by
  obtain ⟨hT, r⟩ := h
  obtain ⟨hU, r'⟩ := h'
  refine ⟨pw_and hT hU, fun s σ ρ P Q rp t k => ?_⟩
  refine r s σ ρ _ _ rp t fun s1 b g1 t1 => ?_
  cases b with
  | true => exact r' s1 σ ρ P Q (rp.grow g1) t1 fun s2 b g2 t2 => k s2 b (g1.trans g2) t2
  | false => exact k s1 false g1 t1
theorem vw_or {a b : Expr} {rest : List Expr} {T U : TT} {t u : TTd} (h : VT X e0 a T t) (h' : VW X e0 (.BoolOp .Or (b :: rest) pos) U u) : VW X e0 (.BoolOp .Or (a :: b :: rest) pos) (tOr T U) (bOr t u) := by
  obtain ⟨hT, r⟩ := h
  obtain ⟨hU, r'⟩ := h'
  refine ⟨pw_or hT hU, fun s σ ρ P Q rp t k => ?_⟩
  refine r s σ ρ _ _ rp t fun s1 b g1 t1 => ?_
  cases b with
  | true => exact k s1 true g1 t1
  | false => exact r' s1 σ ρ P Q (rp.grow g1) t1 fun s2 b g2 t2 => k s2 b (g1.trans g2) t2
theorem vt_not {a : Expr} {T : TT} {t : TTd} (h : VT X e0 a T t) : VT X e0 (.UnaryOp .Not a pos) (tNot T) (bNot t) := by
  obtain ⟨hT, r⟩ := h
  refine ⟨pt_not hT, fun s σ ρ P Q rp t k => ?_⟩
  exact r s σ ρ _ _ rp t fun s1 b g1 t1 => k s1 _ g1 t1
/-- values that are bools -/
def selE (b : Bool) (t u : TEd) (ρ : DEnv) (P : DK) : Prop := if b = true then t ρ P else u ρ P
def eAnd (ta tb : TEd) : TEd := fun ρ P => ta ρ fun _ x => dB x fun b => selE b tb (eC (.bl false)) ρ P
def eOr (ta tb : TEd) : TEd := fun ρ P => ta ρ fun _ x => dB x fun b => selE b (eC (.bl true)) tb ρ P
def eNot (ta : TEd) : TEd := fun ρ P => ta ρ fun _ x => dB x fun b => P .fz (.bl (!b))
theorem ve_one {op} {a : Expr} {T : TE} {t : TEd} (h : VE X e0 a T t) : VE X e0 (.BoolOp op [a] pos) T t := by
  obtain ⟨hT, r⟩ := h
  exact ⟨pe_one hT, r⟩
theorem ve_and {a b : Expr} {rest : List Expr} {T U : TE} {t u : TEd} (h : VE X e0 a T t) (h' : VE X e0 (.BoolOp .And (b :: rest) pos) U u) : VE X e0 (.BoolOp .And (a :: b :: rest) pos) (tAndV T U) (eAnd t u) := by
  obtain ⟨hT, r⟩ := h
  obtain ⟨hU, r'⟩ := h'
  refine ⟨pe_and hT hU, fun s σ ρ P Q rp t k => ?_⟩
  refine r s σ ρ _ _ rp t fun s1 k1 v1 x1 g1 r1 t1 => ?_
  cases x1 <;> first | exact t1.elim | skip
  rename_i b
  refine ⟨b, (r1.rq (rp.grow g1).rh).bl, ?_⟩
  cases b with
  | true => exact r' s1 σ ρ P Q (rp.grow g1) t1 fun s2 k2 v2 x2 g2 r2 t2 => k s2 k2 v2 x2 (g1.trans g2) (r2.base fun a h => none_of_same g1.h h) t2
  | false => exact k s1 .fz _ _ g1 (.bl _) t1
theorem ve_or {a b : Expr} {rest : List Expr} {T U : TE} {t u : TEd} (h : VE X e0 a T t) (h' : VE X e0 (.BoolOp .Or (b :: rest) pos) U u) : VE X e0 (.BoolOp .Or (a :: b :: rest) pos) (tOrV T U) (eOr t u) := by
  obtain ⟨hT, r⟩ := h
  obtain ⟨hU, r'⟩ := h'
  refine ⟨pe_or hT hU, fun s σ ρ P Q rp t k => ?_⟩
  refine r s σ ρ _ _ rp t fun s1 k1 v1 x1 g1 r1 t1 => ?_
  cases x1 <;> first | exact t1.elim | skip
  rename_i b
  refine ⟨b, (r1.rq (rp.grow g1).rh).bl, ?_⟩
  cases b with
  | true => exact k s1 .fz _ _ g1 (.bl _) t1
  | false => exact r' s1 σ ρ P Q (rp.grow g1) t1 fun s2 k2 v2 x2 g2 r2 t2 => k s2 k2 v2 x2 (g1.trans g2) (r2.base fun a h => none_of_same g1.h h) t2
theorem ve_not {a : Expr} {T : TE} {t : TEd} (h : VE X e0 a T t) : VE X e0 (.UnaryOp .Not a pos) (tNotV T) (eNot t) := by
  obtain ⟨hT, r⟩ := h
  refine ⟨pe_not hT, fun s σ ρ P Q rp t k => ?_⟩
  refine r s σ ρ _ _ rp t fun s1 k1 v1 x1 g1 r1 t1 => ?_
  cases x1 <;> first | exact t1.elim | skip
  exact ⟨_, (r1.rq (rp.grow g1).rh).bl, k s1 .fz _ _ g1 (.bl _) t1⟩
def eIf (tc : TTd) (ta tb : TEd) : TEd := fun ρ P => tc ρ fun c => selE c ta tb ρ P
theorem ve_if {c a b : Expr} {Tc : TT} {A B : TE} {tc : TTd} {ta tb : TEd} (hc : VT X e0 c Tc tc) (ha : VE X e0 a A ta) (hb : VE X e0 b B tb) : VE X e0 (.IfExp c a b pos) (tIf Tc A B) (eIf tc ta tb) := by
  obtain ⟨hT, r⟩ := hc
  obtain ⟨hA, ra⟩ := ha
  obtain ⟨hB, rb⟩ := hb
  refine ⟨pe_ifExp hT hA hB, fun s σ ρ P Q rp t k => ?_⟩
  refine r s σ ρ _ _ rp t fun s1 b g1 t1 => ?_
  cases b with
  | true => exact ra s1 σ ρ P Q (rp.grow g1) t1 fun s2 k2 v2 x2 g2 r2 t2 => k s2 k2 v2 x2 (g1.trans g2) (r2.base fun a h => none_of_same g1.h h) t2
  | false => exact rb s1 σ ρ P Q (rp.grow g1) t1 fun s2 k2 v2 x2 g2 r2 t2 => k s2 k2 v2 x2 (g1.trans g2) (r2.base fun a h => none_of_same g1.h h) t2
/-- a op b op' c, b asked once -/
def eChain (d d' : R2d) (ta tb tc : TEd) : TEd := fun ρ P => ta ρ fun _ x => tb ρ fun _ y => d x y fun _ z => dB z fun b => selE b (fun ρ P => tc ρ fun _ u => d' y u P) (eC (.bl false)) ρ P
end
end Tq
set_option Elab.async false
set_option linter.all false
set_option autoImplicit false
set_option maxRecDepth 100000
set_option maxHeartbeats 4000000
namespace Tq
open PySem PySem.Spec L2
open PyProof.Rows hiding St
/-! ### what a def promises, by data -/
abbrev DSp := List (Kd × Dt) → DK → Prop
/-- the answer's heaps -/
structure Back (K : PySem.W.Frag) (F H : Hp) (s : Hs) : Prop where
  f : Same F s.f
  h : Same H s.h
  fh : Same s.f s.h
  nf : ∀ a, H a ≠ none → s.f a = F a
/-- frozen, or a fresh container -/
def RR (K : PySem.W.Frag) (H : Hp) (s : Hs) (k : Kd) (v : V) (x : Dt) : Prop :=
  match k with
  | .fz => Rp K s.f v x
  | .fr => ∃ l, v = .ref l ∧ H l = none ∧ s.f l = none ∧ Ow K s.f s.h l x
  | _ => False
def spL (K : PySem.W.Frag) (S : DSp) : Sp := fun vs H Q _ => ∃ (F : Hp) (as : List (Kd × Dt)) (P : DK), Same F H ∧ ArgsR K F H vs as ∧ S as P ∧
  ∀ (s : Hs) (k : Kd) (v : V) (x : Dt), Back K F H s → RR K H s k v x → P k x → Q v s.h
theorem ArgsR.length {K : PySem.W.Frag} {F H : Hp} : ∀ {vs : List V} {as : List (Kd × Dt)}, ArgsR K F H vs as → vs.length = as.length
  | _, _, .nil => rfl
  | _, _, .fz _ t => congrArg (· + 1) (ArgsR.length t)
  | _, _, .rd _ t => congrArg (· + 1) (ArgsR.length t)
section
variable {X : Cx} {e0 : Hs} {pos : Pos}
/-- behind a call: the caller's heaps -/
theorem back_grow {K : PySem.W.Frag} {s s' : Hs} (rh : RH e0 s) (b : Back K s.f s.h s') : ∃ s2 : Hs, Grow s s2 ∧ s2.f = s'.f ∧ s2.h = s'.h ∧ ∀ l, s.h l = none → s'.f l = none → s2.g l = none := by
  refine ⟨⟨s'.f, fun a => match s'.f a with
    | some o => some o
    | none => s.g a, s'.h⟩, ⟨b.f, fun a o q => ?_, b.h, fun a o q => ?_, fun a o q => ?_, b.nf, fun a h => ?_⟩, rfl, rfl, fun l h1 h2 => ?_⟩
  · show (match s'.f a with
      | some o => some o
      | none => s.g a) = some o
    have h := b.nf a (ne_none (rh.gh a o q))
    rw [h]
    cases e : s.f a with
    | none => exact q
    | some o' => exact (rh.fg a o' e).symm.trans q
  · show (match s'.f a with
      | some o => some o
      | none => s.g a) = some o
    rw [q]
  · have q' : (match s'.f a with
      | some o => some o
      | none => s.g a) = some o := q
    show s'.h a = some o
    cases e : s'.f a with
    | none =>
      rw [e] at q'
      exact b.h a o (rh.gh a o q')
    | some o' =>
      rw [e] at q'
      cases q'
      exact b.fh a o e
  · show (match s'.f a with
      | some o => some o
      | none => s.g a) = s.g a
    rw [b.nf a h]
    cases e : s.f a with
    | none => rfl
    | some o' => exact (rh.fg a o' e).symm
  · show (match s'.f l with
      | some o => some o
      | none => s.g l) = none
    rw [h2]
    exact Same.free rh.gh h1
theorem ve_call {k : Nat} {f : Addr} {fd : FuncData} {ps : List Str} {S : DSp} {x : Str} {p : Pos} {e : Expr} {es : List Expr} {Ta : TA} {t : TAd} (F : FnOk X.prog X.w X.K X.mg X.base CX0 k f fd ps (spL X.K S)) (hr : Room k X.A) (hg : Gl X x) (hm : X.mg x = some (.ref f)) (hk : PySem.W.keepIn X.K (.ref f) = true) (hb : Binds X.K fd ps [])
    (ha : VA X e0 (e :: es) Ta t) (hdb : (x == ("__debug__" : Str)) = false := by decide) (he : starEach (e :: es) X.env = (false, eval e X.env) :: starEach es X.env := by rfl) (hpl : (backTo pos (starEach es X.env)).any (·.1) = false := by rfl) :
    VE X e0 (.Call (.Name x p) (e :: es) [] pos) (tCall (spL X.K S) [] E0 Ta) (eCall S t) := by
  obtain ⟨hTa, ra⟩ := ha
  refine ⟨pe_call F hr hg hm hk hb .nil pass0 hTa hdb he hpl, fun s σ ρ P Q rp t k => ?_⟩
  refine ra s σ ρ _ _ rp t fun s1 vs xs g1 ar hxl t1 => ?_
  rw [List.append_nil]
  have rp1 := rp.grow g1
  refine ⟨s1.f, xs, P, rp1.rh.fh, ar, t1, fun s' k' v x b r q => ?_⟩
  obtain ⟨s2, g2, ef, eh, hl⟩ := back_grow rp1.rh b
  have g := g1.trans g2
  have q' := k s2 k' v x g ?_ q
  · rw [eh] at q'
    exact q'
  · cases k' with
    | fz =>
      show Rp X.K s2.f v x
      rw [ef]
      exact r
    | fr =>
      obtain ⟨l, e1, h1, h2, o⟩ := r
      refine ⟨l, e1, none_of_same g1.h h1, hl l h1 h2, ?_⟩
      rw [ef, eh]
      exact o
    | vw => exact r.elim
    | rd => exact r.elim
    | ow l => exact r.elim
end
def startS : List (Kd × Dt) → DEnv
  | [] => []
  | (.fz, x) :: r => .v .fz x :: startS r
  | (_, x) :: r => .v .vw x :: startS r
theorem startS_length : ∀ as : List (Kd × Dt), (startS as).length = as.length
  | [] => rfl
  | (k, _) :: r => by cases k <;> exact congrArg (· + 1) (startS_length r)
def startD (n : Nat) (as : List (Kd × Dt)) : DEnv := startS as ++ List.replicate (n - as.length) .no
theorem start_slots {K : PySem.W.Frag} {F H B : Hp} : ∀ {vs : List V} {as : List (Kd × Dt)}, ArgsR K F H vs as → ∀ (i : Nat) (k : Kd) (x : Dt), (startS as)[i]? = some (Sl.v k x) →
    ∃ v, vs[i]? = some v ∧ RK K B ⟨F, H, H⟩ k v x ∧ (k = .fz ∨ k = .vw)
  | _, _, .nil, i, k, x, h => by simp [startS] at h
  | _, _, .fz r t, 0, k, x, h => by
    simp [startS] at h
    obtain ⟨rfl, rfl⟩ := h
    exact ⟨_, rfl, r, .inl rfl⟩
  | _, _, .rd r t, 0, k, x, h => by
    simp [startS] at h
    obtain ⟨rfl, rfl⟩ := h
    exact ⟨_, rfl, r, .inr rfl⟩
  | _, _, .fz r t, i + 1, k, x, h => start_slots t i k x (by simpa [startS] using h)
  | _, _, .rd r t, i + 1, k, x, h => start_slots t i k x (by simpa [startS] using h)
theorem rep_start {K : PySem.W.Frag} {F H : Hp} {N : List Str} {vs : List V} {as : List (Kd × Dt)} (hf : Same F H) (ar : ArgsR K F H vs as) (hl : as.length ≤ N.length) :
    Rep K ⟨F, H, H⟩ ⟨F, H, H⟩ (L2.start N vs) (startD N.length as) := by
  have key : ∀ (i : Nat) (k : Kd) (x : Dt), (startD N.length as)[i]? = some (Sl.v k x) → ∃ v, (L2.start N vs)[i]? = some (some v) ∧ RK K H ⟨F, H, H⟩ k v x ∧ (k = .fz ∨ k = .vw) := fun i k x h => by
    unfold startD at h
    by_cases hi : i < as.length
    · rw [List.getElem?_append_left (by rw [startS_length]; exact hi)] at h
      obtain ⟨v, h1, h2, h3⟩ := start_slots (B := H) ar i k x h
      refine ⟨v, ?_, h2, h3⟩
      unfold L2.start
      rw [List.getElem?_append_left (by rw [List.length_map, ar.length]; exact hi), List.getElem?_map, h1]
      rfl
    · rw [List.getElem?_append_right (by rw [startS_length]; omega)] at h
      rw [List.getElem?_replicate] at h
      split at h <;> cases h
  refine ⟨⟨hf, Same.refl _, Same.refl _, Same.refl _, fun _ _ => rfl⟩, ?_, fun i k x h => ?_, fun i j l x y h1 h2 => ?_⟩
  · unfold L2.start startD
    rw [List.length_append, List.length_append, List.length_map, List.length_replicate, List.length_replicate, startS_length, ar.length]
  · obtain ⟨v, h1, h2, h3⟩ := key i k x h
    exact ⟨v, h1, h2, by rcases h3 with rfl | rfl <;> (intro z; cases z), by rcases h3 with rfl | rfl <;> (intro z; cases z)⟩
  · obtain ⟨v, h1, h2, h3⟩ := key i _ x h1
    rcases h3 with z | z <;> cases z
section
variable {P : Program} {w : World} {K : PySem.W.Frag} {mg : Str → Option Value} {base : Heap}
/-- THE RULE for a def -/
theorem fn_ok {x qual : Str} {st : Stmt} {f : Addr} {fd : FuncData} {N ps : List Str} {k : Nat} {S : DSp} {t : TSd} (F : Fun K x qual st f fd) (Sc : FnScope N ps (defScope st)) (len : ∀ as P, S as P → as.length = ps.length)
    (hb : ∀ (cdv : Value) (A : Around) (outer : List Env) (s : Shared) (H : Hp) (E : XK) (e0 : Hs), Room k (A.deeper (envOfC qual (defScope st) s.heap.objs.size f cdv)) →
      VSs (cxOf CX0 P w K mg base N qual (defScope st) f cdv A outer s H E).nox e0 (defBody st) t)
    (hp : ps.length ≤ N.length) (h : ∀ as P, S as P → t { nx := fun _ => P .fz .non, rt := fun k x => k.st = true ∧ P k x } (startD N.length as)) : FnOk P w K mg base CX0 (k + 1) f fd ps (spL K S) := by
  refine F.ok Sc (fun vs H Q E hs => ?_) (fun cdv A outer s H vs Q E hr hs => ?_)
  · obtain ⟨F, as, P, _, ar, sp, _⟩ := hs
    rw [ar.length]
    exact len as P sp
  · obtain ⟨F, as, P', hf, ar, sp, q⟩ := hs
    obtain ⟨T, hT, r⟩ := (hb cdv A outer s H E ⟨F, H, H⟩ hr).run
    refine ⟨T, hT, ?_⟩
    have fin : ∀ (s' : Hs), RH ⟨F, H, H⟩ s' → Back K F H s' := fun s' rh => ⟨rh.ef, rh.eg.trans rh.gh, rh.fg.trans rh.gh, rh.nf⟩
    refine r ⟨F, H, H⟩ (L2.start N vs) (startD N.length as) _ _ (rep_start hf ar (by rw [len as P' sp]; exact hp)) (h as P' sp) ⟨fun s' σ ρ rp x hp => ?_, fun s' k v x rh ex rk hp => ?_, fun s' σ ρ rp x hp => hp, fun s' σ ρ rp x hp => hp⟩
    · exact q s' .fz .non .non (fin s' rp.rh) .non hp
    · obtain ⟨hk, hp⟩ := hp
      refine q s' k v x (fin s' rh) ?_ hp
      cases k with
      | fz => exact rk
      | fr =>
        obtain ⟨l, e1, b, n, o⟩ := rk
        exact ⟨l, e1, b, Same.free rh.fg n, o⟩
      | vw => cases hk
      | rd => cases hk
      | ow l => cases hk
end
/-! ### statements -/
section
variable {K : PySem.W.Frag} {e0 s s' : Hs} {σ : St} {ρ : DEnv}
theorem Rep.store {i : Nat} {sl : Sl} {v : V} (r : Rep K e0 s σ ρ) (h : ∀ k x, sl = .v k x → RK K e0.h s k v x ∧ k ≠ .rd ∧ k ≠ .fr) (hd : ∀ l x, sl = .v (.ow l) x → ∀ j y, ρ[j]? = some (Sl.v (Kd.ow l) y) → j = i) : Rep K e0 s (σ.set i (some v)) (ρ.set i sl) := by
  refine ⟨r.rh, by rw [List.length_set, List.length_set]; exact r.len, fun j k x q => ?_, fun j j' l x y q1 q2 => ?_⟩
  · by_cases e : j = i
    · subst e
      have hj : j < ρ.length := by
        rcases Nat.lt_or_ge j ρ.length with z | z
        · exact z
        · rw [List.getElem?_eq_none_iff.mpr (by rw [List.length_set]; exact z)] at q; cases q
      rw [List.getElem?_set_self hj] at q
      obtain ⟨h1, h2⟩ := h k x (Option.some.inj q)
      exact ⟨v, by rw [List.getElem?_set_self (by rw [r.len]; exact hj)], h1, h2⟩
    · rw [List.getElem?_set_ne (Ne.symm e)] at q
      obtain ⟨v', h1, h2⟩ := r.sl j k x q
      exact ⟨v', by rw [List.getElem?_set_ne (Ne.symm e)]; exact h1, h2⟩
  · have at_ : ∀ (j : Nat) (x : Dt), (ρ.set i sl)[j]? = some (Sl.v (.ow l) x) → (j = i ∧ sl = .v (.ow l) x) ∨ (j ≠ i ∧ ρ[j]? = some (Sl.v (Kd.ow l) x)) := fun j x q => by
      by_cases e : j = i
      · subst e
        have hj : j < ρ.length := by
          rcases Nat.lt_or_ge j ρ.length with z | z
          · exact z
          · rw [List.getElem?_eq_none_iff.mpr (by rw [List.length_set]; exact z)] at q; cases q
        rw [List.getElem?_set_self hj] at q
        exact .inl ⟨rfl, Option.some.inj q⟩
      · rw [List.getElem?_set_ne (Ne.symm e)] at q
        exact .inr ⟨e, q⟩
    rcases at_ j x q1 with ⟨a1, a2⟩ | ⟨a1, a2⟩ <;> rcases at_ j' y q2 with ⟨b1, b2⟩ | ⟨b1, b2⟩
    · rw [a1, b1]
    · rw [a1]; exact (hd l x a2 j' y b2).symm
    · rw [b1]; exact hd l y b2 j x a2
    · exact r.dj j j' l x y a2 b2
/-- a slot forgotten, its value whatever -/
theorem Rep.forget {i : Nat} (r : Rep K e0 s σ ρ) : Rep K e0 s σ (ρ.set i .no) := by
  refine ⟨r.rh, by rw [List.length_set]; exact r.len, fun j k x q => ?_, fun j j' l x y q1 q2 => ?_⟩
  · by_cases e : i = j
    · subst e
      rw [List.getElem?_set] at q
      simp at q
    · rw [List.getElem?_set_ne e] at q
      exact r.sl j k x q
  · have at_ : ∀ (j : Nat) (x : Dt), (ρ.set i .no)[j]? = some (Sl.v (.ow l) x) → ρ[j]? = some (Sl.v (Kd.ow l) x) := fun j x q => by
      by_cases e : i = j
      · subst e
        rw [List.getElem?_set] at q
        simp at q
      · rw [List.getElem?_set_ne e] at q
        exact q
    exact r.dj j j' l x y (at_ j x q1) (at_ j' y q2)
/-- what a slot's own container is frozen -/
def frzE (i : Nat) (ρ : DEnv) : DEnv := match ρ[i]? with
  | some (.v (.ow _) x) => ρ.set i (.v .fz x)
  | _ => ρ
theorem RK.frz_keep {B : Hp} {k : Kd} {v : V} {x : Dt} {l : Addr} (hg : s.g l = none) (hgh : Same s.g s.h) (hfg : Same s.f s.g) (hk : ∀ l', k = .ow l' → l' ≠ l) (hk2 : k ≠ .fr) (r : RK K B s k v x) : RK K B (s.frz l) k v x := by
  have hfl : s.f l = none := Same.free hfg hg
  have hf : Same s.f (s.frz l).f := fun a o q => by
    show (if a = l then s.h l else s.f a) = some o
    by_cases z : a = l
    · rw [z, hfl] at q; cases q
    · rw [if_neg z]; exact q
  have hgg : Same s.g (s.frz l).g := fun a o q => by
    show (if a = l then s.h l else s.g a) = some o
    by_cases z : a = l
    · rw [z, hg] at q; cases q
    · rw [if_neg z]; exact q
  cases k with
  | fz => exact Rp.mono hf r
  | vw => exact Rq.mono hf hgg r
  | rd => exact Rq.mono hf (Same.refl _) r
  | fr => exact absurd rfl hk2
  | ow l' =>
    obtain ⟨e1, n, c⟩ := r
    refine ⟨e1, ?_, c.mono hf (Same.refl _)⟩
    show (if l' = l then s.h l else s.g l') = none
    rw [if_neg (hk l' rfl)]
    exact n
theorem Rep.freeze (i : Nat) (r : Rep K e0 s σ ρ) : ∃ s', s'.h = s.h ∧ Ext s s' ∧ Rep K e0 s' σ (frzE i ρ) := by
  unfold frzE
  split
  · rename_i l x q
    obtain ⟨v, h1, ⟨e1, n, c⟩, h3⟩ := r.sl i (.ow l) x q
    subst e1
    have hfl : s.f l = none := Same.free r.rh.fg n
    have hf : Same s.f (s.frz l).f := fun a o q => by
      show (if a = l then s.h l else s.f a) = some o
      by_cases z : a = l
      · rw [z, hfl] at q; cases q
      · rw [if_neg z]; exact q
    have hgg : Same s.g (s.frz l).g := fun a o q => by
      show (if a = l then s.h l else s.g a) = some o
      by_cases z : a = l
      · rw [z, n] at q; cases q
      · rw [if_neg z]; exact q
    have hel : e0.h l = none := Same.free r.rh.eg n
    have hi : i < ρ.length := (List.getElem?_eq_some_iff.mp q).1
    refine ⟨s.frz l, rfl, ⟨hf, hgg⟩, ⟨fun a o q => ?_, fun a o q => ?_, r.rh.ef.trans hf, r.rh.eg.trans hgg, fun a h => ?_⟩, by rw [List.length_set]; exact r.len, fun j k y q' => ?_, fun j j' l' y z q1 q2 => ?_⟩
    · have q' : (if a = l then s.h l else s.f a) = some o := q
      show (if a = l then s.h l else s.g a) = some o
      by_cases z : a = l
      · rw [if_pos z] at q' ⊢; exact q'
      · rw [if_neg z] at q' ⊢; exact r.rh.fg a o q'
    · have q' : (if a = l then s.h l else s.g a) = some o := q
      show s.h a = some o
      by_cases z : a = l
      · rw [if_pos z] at q'; rw [z]; exact q'
      · rw [if_neg z] at q'; exact r.rh.gh a o q'
    · have z : a ≠ l := fun z => h (z ▸ hel)
      show (if a = l then s.h l else s.f a) = e0.f a
      rw [if_neg z]
      exact r.rh.nf a h
    · by_cases e : j = i
      · subst e
        rw [List.getElem?_set_self hi] at q'
        cases q'
        exact ⟨_, h1, c.rp hf (fun o q => by rw [Hs.frz_at]; exact q), (by intro z; cases z), (by intro z; cases z)⟩
      · rw [List.getElem?_set_ne (Ne.symm e)] at q'
        obtain ⟨v', g1, g2, g3, g4⟩ := r.sl j k y q'
        refine ⟨v', g1, g2.frz_keep n r.rh.gh r.rh.fg (fun l' z => ?_) g4, g3, g4⟩
        subst z
        intro z
        subst z
        exact e (r.dj j i _ _ _ q' q)
    · have at_ : ∀ (j : Nat) (y : Dt), (ρ.set i (.v .fz x))[j]? = some (Sl.v (.ow l') y) → ρ[j]? = some (Sl.v (Kd.ow l') y) := fun j y q' => by
        by_cases e : j = i
        · subst e
          rw [List.getElem?_set_self hi] at q'
          cases q'
        · rw [List.getElem?_set_ne (Ne.symm e)] at q'
          exact q'
      exact r.dj j j' l' y z (at_ j y q1) (at_ j' z q2)
  · exact ⟨s, rfl, Ext.refl s, r⟩
end
/-- weaker knowledge: slots forgotten, own containers frozen -/
inductive Wk : DEnv → DEnv → Prop
  | refl (ρ : DEnv) : Wk ρ ρ
  | no {ρ ρ' : DEnv} (i : Nat) : Wk (ρ.set i .no) ρ' → Wk ρ ρ'
  | fz {ρ ρ' : DEnv} (i : Nat) : Wk (frzE i ρ) ρ' → Wk ρ ρ'
theorem Wk.rep {K : PySem.W.Frag} {e0 : Hs} {ρ ρ' : DEnv} (w : Wk ρ ρ') : ∀ {s : Hs} {σ : St}, Rep K e0 s σ ρ → ∃ s', s'.h = s.h ∧ Ext s s' ∧ Rep K e0 s' σ ρ' := by
  induction w with
  | refl ρ => exact fun r => ⟨_, rfl, Ext.refl _, r⟩
  | no i w ih => exact fun r => ih r.forget
  | fz i w ih =>
    intro s σ r
    obtain ⟨s1, h1, x1, r1⟩ := r.freeze i
    obtain ⟨s2, h2, x2, r2⟩ := ih r1
    exact ⟨s2, h2.trans h1, x1.trans x2, r2⟩
end Tq
set_option Elab.async false
set_option linter.all false
set_option autoImplicit false
set_option maxRecDepth 100000
set_option maxHeartbeats 4000000
namespace Tq
open PySem PySem.Spec L2
open PyProof.Rows hiding St
theorem kfz : Kd.fz ≠ Kd.rd ∧ Kd.fz ≠ Kd.fr := ⟨fun z => (nomatch z), fun z => (nomatch z)⟩
theorem kvw : Kd.vw ≠ Kd.rd ∧ Kd.vw ≠ Kd.fr := ⟨fun z => (nomatch z), fun z => (nomatch z)⟩
theorem kow {l : Addr} : Kd.ow l ≠ Kd.rd ∧ Kd.ow l ≠ Kd.fr := ⟨fun z => (nomatch z), fun z => (nomatch z)⟩
section
variable {X : Cx} {e0 : Hs} {pos : Pos} {st : Stmt} {rest : List Stmt}
/-! ### blocks -/
def sNil : TSd := fun D ρ => D.nx ρ
def sSeq (t u : TSd) : TSd := fun D ρ => t { D with nx := u D } ρ
theorem vss_nil : VSs X e0 [] sNil := ⟨tNext, pss_nil, fun s σ ρ D D' rp t l => l.nx s σ ρ rp (Ext.refl s) t⟩
theorem vss_cons {t u : TSd} (h1 : VS X e0 st t) (h2 : VSs X e0 rest u) : VSs X e0 (st :: rest) (sSeq t u) := by
  obtain ⟨T, hT, r⟩ := h1.run
  obtain ⟨U, hU, r'⟩ := h2.run
  refine ⟨_, pss_cons hT hU, fun s σ ρ D D' rp t l => ?_⟩
  exact r s σ ρ _ _ rp t ⟨fun s' σ' ρ' rp' x q => r' s' σ' ρ' D D' rp' q (l.ext x), l.rt, l.bk, l.ct⟩
theorem vss_one {t : TSd} (h1 : VS X e0 st t) : VSs X e0 [st] t := by
  obtain ⟨T, hT, r⟩ := h1.run
  exact ⟨_, pss_one hT, r⟩
/-- ahead of a statement: what slot i owns is frozen -/
def sFz (i : Nat) (t : TSd) : TSd := fun D ρ => t D (frzE i ρ)
theorem vs_fz (i : Nat) {t : TSd} (h : VS X e0 st t) : VS X e0 st (sFz i t) := by
  obtain ⟨T, hT, r⟩ := h.run
  refine ⟨T, hT, fun s σ ρ D D' rp t l => ?_⟩
  obtain ⟨s1, h1, x1, r1⟩ := rp.freeze i
  have q := r s1 σ _ D D' r1 t (l.ext x1)
  rw [h1] at q
  exact q
/-- ahead of a statement: slots forgotten, containers frozen -/
def sWk (t : TSd) : TSd := fun D ρ => ∃ ρ', Wk ρ ρ' ∧ t D ρ'
theorem vs_wk {t : TSd} (h : VS X e0 st t) : VS X e0 st (sWk t) := by
  obtain ⟨T, hT, r⟩ := h.run
  refine ⟨T, hT, fun s σ ρ D D' rp t l => ?_⟩
  obtain ⟨ρ', w, t⟩ := t
  obtain ⟨s1, h1, x1, r1⟩ := w.rep rp
  have q := r s1 σ _ D D' r1 t (l.ext x1)
  rw [h1] at q
  exact q
/-! ### small statements -/
def sPass : TSd := fun D ρ => D.nx ρ
def sBreak : TSd := fun D ρ => D.bk ρ
def sCont : TSd := fun D ρ => D.ct ρ
theorem vs_pass : VS X e0 (.Pass pos) sPass := ⟨_, ps_pass, fun s σ ρ D D' rp t l => l.nx s σ ρ rp (Ext.refl s) t⟩
theorem vs_break : VS X e0 (.Break pos) sBreak := ⟨_, ps_break, fun s σ ρ D D' rp t l => l.bk s σ ρ rp (Ext.refl s) t⟩
theorem vs_cont : VS X e0 (.Continue pos) sCont := ⟨_, ps_continue, fun s σ ρ D D' rp t l => l.ct s σ ρ rp (Ext.refl s) t⟩
theorem vs_doc {x j pos pos'} : VS X e0 (.Expr (.Constant (.str x) j pos) pos') sPass := ⟨_, ps_doc, fun s σ ρ D D' rp t l => l.nx s σ ρ rp (Ext.refl s) t⟩
/-- an expression, its value dropped -/
def sExpr (te : TEd) : TSd := fun D ρ => te ρ fun _ _ => D.nx ρ
theorem vs_expr {e : Expr} {T : TE} {te : TEd} (h : VE X e0 e T te) (hs : swapsWith e none pos.line X.env = pure false := by rfl) : VS X e0 (.Expr e pos) (sExpr te) :=
  ⟨_, ps_expr h.pe hs, fun s σ ρ D D' rp t l => h.run s σ ρ _ _ rp t fun s1 k1 v1 x1 g1 r1 t1 => l.nx s1 σ ρ (rp.grow g1) g1.ext t1⟩
def sRet (te : TEd) : TSd := fun D ρ => te ρ D.rt
theorem vs_ret {e : Expr} {T : TE} {te : TEd} (h : VE X e0 e T te) : VS X e0 (.Return (some e) pos) (sRet te) :=
  ⟨_, ps_ret h.pe, fun s σ ρ D D' rp t l => h.run s σ ρ _ _ rp t fun s1 k1 v1 x1 g1 r1 t1 => l.rt s1 k1 v1 x1 (rp.grow g1).rh g1.ext (r1.base fun a h => none_of_same (rp.rh.eg.trans rp.rh.gh) h) t1⟩
def sRetN : TSd := fun D ρ => D.rt .fz .non
theorem vs_retN : VS X e0 (.Return none pos) sRetN := ⟨_, ps_retN, fun s σ ρ D D' rp t l => l.rt s .fz .non .non rp.rh (Ext.refl s) .non t⟩
/-- return of a name: what it owns is handed on -/
def retV (o : Option Sl) (P : DK) : Prop := match o with
  | some (.v (.ow _) x) => P .fr x
  | some (.v k x) => P k x
  | _ => False
def sRetV (i : Nat) : TSd := fun D ρ => retV ρ[i]? D.rt
theorem vs_retV (i : Nat) {x : Str} {p : Pos} (h : PE X (.Name x p) (tVar i)) : VS X e0 (.Return (some (.Name x p)) pos) (sRetV i) := by
  refine ⟨_, ps_ret h, fun s σ ρ D D' rp t l => ?_⟩
  unfold sRetV retV at t
  cases q : ρ[i]? with
  | none => rw [q] at t; exact t.elim
  | some sl =>
    rw [q] at t
    cases sl with
    | no => exact t.elim
    | v kd y =>
      obtain ⟨v, h1, h2, h3, h4⟩ := rp.sl i kd y q
      refine ⟨v, h1, ?_⟩
      cases kd with
      | fz => exact l.rt s .fz v y rp.rh (Ext.refl s) h2 t
      | vw => exact l.rt s .vw v y rp.rh (Ext.refl s) h2 t
      | rd => exact absurd rfl h3
      | fr => exact absurd rfl h4
      | ow a =>
        obtain ⟨e1, n, c⟩ := h2
        exact l.rt s .fr v y rp.rh (Ext.refl s) ⟨a, e1, Same.free rp.rh.eg n, n, c⟩ t
/-! ### name = e -/
def stor (i : Nat) (D : DEnv → Prop) (ρ : DEnv) (k : Kd) (x : Dt) : Prop := match k with
  | .fz => D (ρ.set i (.v .fz x))
  | .vw => D (ρ.set i (.v .vw x))
  | .fr => ∀ l, D (ρ.set i (.v (.ow l) x))
  | _ => False
theorem stor_ok {K : PySem.W.Frag} {s s1 : Hs} {σ : St} {ρ : DEnv} {i : Nat} {D : DEnv → Prop} {k : Kd} {v : V} {x : Dt} {Q : St → Hp → Prop} (rp : Rep K e0 s σ ρ) (g : Grow s s1) (r : RK K s.h s1 k v x) (t : stor i D ρ k x)
    (h : ∀ ρ', Rep K e0 s1 (σ.set i (some v)) ρ' → D ρ' → Q (σ.set i (some v)) s1.h) : Q (σ.set i (some v)) s1.h := by
  have rp1 := rp.grow g
  cases k with
  | fz => exact h _ (rp1.store (fun k x e => by cases e; exact ⟨r, kfz⟩) fun l x e => by cases e) t
  | vw => exact h _ (rp1.store (fun k x e => by cases e; exact ⟨r, kvw⟩) fun l x e => by cases e) t
  | fr =>
    obtain ⟨l, e1, b, n, c⟩ := r
    refine h _ (rp1.store (fun k x e => by cases e; exact ⟨⟨e1, n, c⟩, kow⟩) fun l' x e j y q => ?_) (t l)
    cases e
    obtain ⟨_, _, ⟨_, _, c'⟩, _⟩ := rp.sl j _ y q
    exact absurd b c'.there
  | rd => exact t.elim
  | ow l => exact t.elim
def sSet (i : Nat) (te : TEd) : TSd := fun D ρ => te ρ fun k x => stor i D.nx ρ k x
theorem vs_set {i : Nat} {e : Expr} {T : TE} {te : TEd} (h : VE X e0 e T te) (hp : PS X st (tAsg T (gName i))) : VS X e0 st (sSet i te) :=
  ⟨_, hp, fun s σ ρ D D' rp t l => h.run s σ ρ _ _ rp t fun s1 k1 v1 x1 g1 r1 t1 => stor_ok (Q := fun σ H => D.nx σ H) rp g1 r1 t1 fun ρ' rp' q => l.nx s1 _ ρ' rp' g1.ext q⟩
/-- .. frozen at once -/
def storF (i : Nat) (D : DEnv → Prop) (ρ : DEnv) (k : Kd) (x : Dt) : Prop := match k with
  | .fz => D (ρ.set i (.v .fz x))
  | .fr => D (ρ.set i (.v .fz x))
  | .vw => D (ρ.set i (.v .vw x))
  | _ => False
def sSetF (i : Nat) (te : TEd) : TSd := fun D ρ => te ρ fun k x => storF i D.nx ρ k x
theorem vs_setF {i : Nat} {e : Expr} {T : TE} {te : TEd} (h : VE X e0 e T te) (hp : PS X st (tAsg T (gName i))) : VS X e0 st (sSetF i te) := by
  refine ⟨_, hp, fun s σ ρ D D' rp t l => h.run s σ ρ _ _ rp t fun s1 k1 v1 x1 g1 r1 t1 => ?_⟩
  have rp1 := rp.grow g1
  have fin : k1.st = true → D'.nx (ρ.set i (.v .fz x1)) → D.nx (σ.set i (some v1)) s1.h := fun hk q => by
    obtain ⟨s2, g2, e2, f2, p2⟩ := r1.freeze g1 hk
    have z := l.nx s2 (σ.set i (some v1)) (ρ.set i (.v .fz x1)) ((rp.grow g2).store (fun k x e => by cases e; exact ⟨p2, kfz⟩) fun l x e => by cases e) g2.ext q
    rw [e2] at z
    exact z
  cases k1 with
  | fz => exact fin rfl t1
  | fr => exact fin rfl t1
  | vw => exact l.nx s1 _ _ (rp1.store (fun k x e => by cases e; exact ⟨r1, kvw⟩) fun l x e => by cases e) g1.ext t1
  | rd => exact t1.elim
  | ow l => exact t1.elim
/-! ### if, while -/
def selS (b : Bool) (f g : DEnv → Prop) (ρ : DEnv) : Prop := if b = true then f ρ else g ρ
def sIf (tc : TTd) (t u : TSd) : TSd := fun D ρ => tc ρ fun b => selS b (t D) (u D) ρ
theorem vs_if {c : Expr} {a b : List Stmt} {T : TT} {tc : TTd} {t u : TSd} (hc : VT X e0 c T tc) (ha : VSs X e0 a t) (hb : VSs X e0 b u) : VS X e0 (.If c a b pos) (sIf tc t u) := by
  obtain ⟨A, hA, ra⟩ := ha.run
  obtain ⟨B, hB, rb⟩ := hb.run
  refine ⟨_, ps_if hc.pe hA hB, fun s σ ρ D D' rp t l => hc.run s σ ρ _ _ rp t fun s1 b g1 t1 => ?_⟩
  cases b with
  | true => exact ra s1 σ ρ D D' (rp.grow g1) t1 (l.ext g1.ext)
  | false => exact rb s1 σ ρ D D' (rp.grow g1) t1 (l.ext g1.ext)
def sWhile (tc : TTd) (tb : TSd) : TSd := fun D ρ => ∃ W : Nat → DEnv → Prop, (∃ m ρ', Wk ρ ρ' ∧ W m ρ') ∧ ∀ m ρ, W m ρ → tc ρ fun b =>
  selS b (tb { D with nx := fun ρ2 => ∃ ρ3 m', m' < m ∧ Wk ρ2 ρ3 ∧ W m' ρ3, ct := fun ρ2 => ∃ ρ3 m', m' < m ∧ Wk ρ2 ρ3 ∧ W m' ρ3, bk := D.nx }) D.nx ρ
theorem vs_while {c : Expr} {body : List Stmt} {T : TT} {tc : TTd} {tb : TSd} (hp : PassesOwn (model X.prog X.w) X.A X.env X.xe) (hc : VT X e0 c T tc) (hb : VSs X e0 body tb) : VS X e0 (.While c body [] pos) (sWhile tc tb) := by
  obtain ⟨B, hB, rb⟩ := hb.run
  refine ⟨_, ps_while hp hc.pe hB, fun s σ ρ D D' rp t l => ?_⟩
  obtain ⟨W, ⟨m0, ρ0, w0, i0⟩, turn⟩ := t
  obtain ⟨s0, h0, x0, r0⟩ := w0.rep rp
  refine ⟨fun m σ H => ∃ s' ρ', s'.h = H ∧ Rep X.K e0 s' σ ρ' ∧ Ext s s' ∧ W m ρ', ⟨m0, s0, ρ0, h0, r0, x0, i0⟩, ?_⟩
  rintro m σ' H' ⟨s', ρ', rfl, rp', x', w'⟩
  refine hc.run s' σ' ρ' _ _ rp' (turn m ρ' w') fun s1 b g1 t1 => ?_
  have rp1 := rp'.grow g1
  have x1 := x'.trans g1.ext
  cases b with
  | true =>
    have again : ∀ s2 σ2 ρ2, Rep X.K e0 s2 σ2 ρ2 → Ext s1 s2 → (∃ ρ3 m', m' < m ∧ Wk ρ2 ρ3 ∧ W m' ρ3) → ∃ m', m' < m ∧ ∃ s' ρ', s'.h = s2.h ∧ Rep X.K e0 s' σ2 ρ' ∧ Ext s s' ∧ W m' ρ' := fun s2 σ2 ρ2 rp2 x2 ⟨ρ3, m', hm, w3, i3⟩ => by
      obtain ⟨s3, h3, x3, r3⟩ := w3.rep rp2
      exact ⟨m', hm, s3, ρ3, h3, r3, (x1.trans x2).trans x3, i3⟩
    refine ⟨fun σ2 H2 => ∃ m', m' < m ∧ ∃ s' ρ', s'.h = H2 ∧ Rep X.K e0 s' σ2 ρ' ∧ Ext s s' ∧ W m' ρ', fun σ2 H2 q => q, ?_⟩
    exact rb s1 σ' ρ' _ _ rp1 t1 ⟨again, (l.ext x1).rt, fun s2 σ2 ρ2 rp2 x2 q => l.nx s2 σ2 ρ2 rp2 (x1.trans x2) q, again⟩
  | false => exact l.nx s1 σ' ρ' rp1 x1 t1
/-! ### own lists changed -/
theorem Rep.mut {K : PySem.W.Frag} {s : Hs} {σ : St} {ρ : DEnv} {i : Nat} {l : Addr} {x x' : Dt} (r : Rep K e0 s σ ρ) (hi : ρ[i]? = some (Sl.v (Kd.ow l) x)) (o : HO) (hc : Ow K s.f (upd s.h l o) l x') :
    Rep K e0 ⟨s.f, s.g, upd s.h l o⟩ σ (ρ.set i (.v (.ow l) x')) ∧ Ext s ⟨s.f, s.g, upd s.h l o⟩ := by
  obtain ⟨v, h1, ⟨e1, n, c⟩, h3⟩ := r.sl i _ x hi
  have hlt : i < ρ.length := (List.getElem?_eq_some_iff.mp hi).1
  refine ⟨⟨⟨r.rh.fg, fun a u q => ?_, r.rh.ef, r.rh.eg, r.rh.nf⟩, by rw [List.length_set]; exact r.len, fun j k y q => ?_, fun j j' l' y z q1 q2 => ?_⟩, ⟨Same.refl _, Same.refl _⟩⟩
  · show upd s.h l o a = some u
    rw [upd_ne (ne_of_none q n)]
    exact r.rh.gh a u q
  · by_cases e : j = i
    · subst e
      rw [List.getElem?_set_self hlt] at q
      cases q
      exact ⟨v, h1, ⟨e1, n, hc⟩, kow⟩
    · rw [List.getElem?_set_ne (Ne.symm e)] at q
      obtain ⟨v', g1, g2, g3, g4⟩ := r.sl j k y q
      refine ⟨v', g1, ?_, g3, g4⟩
      cases k with
      | fz => exact g2
      | vw => exact g2
      | rd => exact absurd rfl g3
      | fr => exact absurd rfl g4
      | ow l' =>
        obtain ⟨f1, f2, f3⟩ := g2
        have hne : l' ≠ l := fun z => by
          subst z
          exact e (r.dj j i _ _ _ q hi)
        refine ⟨f1, f2, ?_⟩
        rcases f3 with ⟨xs, ds, e2, h, rr⟩ | ⟨kvs, ds, e2, h, rr⟩
        · exact .inl ⟨xs, ds, e2, by show upd s.h l o l' = _; rw [upd_ne hne]; exact h, rr⟩
        · exact .inr ⟨kvs, ds, e2, by show upd s.h l o l' = _; rw [upd_ne hne]; exact h, rr⟩
  · have at_ : ∀ (j : Nat) (y : Dt), (ρ.set i (.v (.ow l) x'))[j]? = some (Sl.v (.ow l') y) → ∃ y', ρ[j]? = some (Sl.v (Kd.ow l') y') := fun j y q => by
      by_cases e : j = i
      · subst e
        rw [List.getElem?_set_self hlt] at q
        cases q
        exact ⟨x, hi⟩
      · rw [List.getElem?_set_ne (Ne.symm e)] at q
        exact ⟨y, q⟩
    obtain ⟨y1, a1⟩ := at_ j y q1
    obtain ⟨y2, a2⟩ := at_ j' z q2
    exact r.dj j j' l' y1 y2 a1 a2
def appS (o : Option Sl) (i : Nat) (te : TEd) (D : EndsD) (ρ : DEnv) : Prop := match o with
  | some (.v (.ow l) (.lst ds)) => te ρ fun k x => k.st = true ∧ ds.length < 16777216 ∧ D.nx (ρ.set i (.v (.ow l) (.lst (ds ++ [x]))))
  | _ => False
def sApp (i : Nat) (te : TEd) : TSd := fun D ρ => appS ρ[i]? i te D ρ
theorem Ow.lst {K : PySem.W.Frag} {F H : Hp} {l : Addr} {ds : List Dt} (c : Ow K F H l (.lst ds)) : ∃ xs, H l = some (.lst xs) ∧ RpL K F xs ds := by
  rcases c with ⟨xs, ds', e2, h, r⟩ | ⟨kvs, ds', e2, h, r⟩
  · cases e2; exact ⟨xs, h, r⟩
  · cases e2
theorem TE.var_own {K : PySem.W.Frag} {s : Hs} {σ : St} {ρ : DEnv} {i : Nat} {l : Addr} {x : Dt} (r : Rep K e0 s σ ρ) (hi : ρ[i]? = some (Sl.v (Kd.ow l) x)) : σ[i]? = some (some (V.ref l)) ∧ Ow K s.f s.h l x := by
  obtain ⟨v, h1, ⟨e1, n, c⟩, h3⟩ := r.sl i _ x hi
  subst e1
  exact ⟨h1, c⟩
theorem vs_app {i : Nat} {e : Expr} {T : TE} {te : TEd} (h : VE X e0 e T te) (hp : PS X st (tDrop (tBM X.K "list" rAppend (tVar i) (tCons T tNil)))) : VS X e0 st (sApp i te) := by
  refine ⟨_, hp, fun s σ ρ D D' rp t l => ?_⟩
  unfold sApp appS at t
  split at t
  · rename_i a ds q
    obtain ⟨h1, c⟩ := TE.var_own rp q
    obtain ⟨xs, h2, r2⟩ := c.lst
    refine ⟨_, h1, .inl ⟨rfl, _, .inl (.inl h2)⟩, ?_⟩
    refine h.run s σ ρ _ _ rp t fun s1 k1 v1 x1 g1 r1 t1 => ?_
    obtain ⟨hk, hl, t1⟩ := t1
    obtain ⟨s2, g2, e2, f2, p2⟩ := r1.freeze g1 hk
    have rp2 := rp.grow g2
    have h3 : s2.h a = some (.lst xs) := g2.h _ _ h2
    refine ⟨a, xs, v1, rfl, rfl, by rw [← e2]; exact h3, by rw [r2.length, sizeLine_eq]; exact hl, ?_⟩
    obtain ⟨rp3, x3⟩ := rp2.mut q (.lst (xs ++ [v1])) (x' := .lst (ds ++ [x1])) (.inl ⟨_, _, rfl, upd_same, (r2.mono g2.f).app (.cons p2 .nil)⟩)
    have z := l.nx _ σ _ rp3 (g2.ext.trans x3) t1
    rw [← e2]
    exact z
  · exact t.elim
/-- x[i] = e of an own list -/
def setIxN (o : Option Nat) (i : Nat) (l : Addr) (ds : List Dt) (y : Dt) (D : EndsD) (ρ : DEnv) : Prop := match o with
  | some j => D.nx (ρ.set i (.v (.ow l) (.lst (ds.set j y))))
  | none => False
def setIxZ (z : Dt) (i : Nat) (l : Addr) (ds : List Dt) (y : Dt) (D : EndsD) (ρ : DEnv) : Prop := match z with
  | .int n => setIxN (ixN ds.length n) i l ds y D ρ
  | _ => False
def setIxS (o : Option Sl) (i : Nat) (tix te : TEd) (D : EndsD) (ρ : DEnv) : Prop := match o with
  | some (.v (.ow l) (.lst ds)) => te ρ fun k y => k.st = true ∧ tix ρ fun _ z => setIxZ z i l ds y D ρ
  | _ => False
def sSetIx (i : Nat) (tix te : TEd) : TSd := fun D ρ => setIxS ρ[i]? i tix te D ρ
theorem vs_setIx {i : Nat} {e ie : Expr} {T Ti : TE} {te tix : TEd} (h : VE X e0 e T te) (h' : VE X e0 ie Ti tix) (hp : PS X st (tAsg T (gSub (tVar i) Ti rSetL))) : VS X e0 st (sSetIx i tix te) := by
  refine ⟨_, hp, fun s σ ρ D D' rp t l => ?_⟩
  unfold sSetIx setIxS at t
  split at t
  · rename_i a ds q
    obtain ⟨h1, c⟩ := TE.var_own rp q
    obtain ⟨xs, h2, r2⟩ := c.lst
    refine h.run s σ ρ _ (fun v H => gSub (tVar i) Ti rSetL v σ H D.nx) rp t fun s1 k1 v1 x1 g1 r1 t1 => ?_
    obtain ⟨hk, t1⟩ := t1
    obtain ⟨s2, g2, e2, f2, p2⟩ := r1.freeze g1 hk
    have rp2 := rp.grow g2
    rw [← e2]
    refine ⟨_, h1, ?_⟩
    refine h'.run s2 σ ρ _ (fun iv H => rSetL (.ref a) iv v1 H fun H3 => D.nx σ H3) rp2 t1 fun s3 k3 v3 x3 g3 r3 t3 => ?_
    have rp3 := rp2.grow g3
    cases x3 <;> first | exact t3.elim | skip
    rename_i n
    cases (r3.rq rp3.rh).int
    revert t3
    show (match ixN ds.length n with
      | some j => D'.nx (List.set ρ i (Sl.v (Kd.ow a) (Dt.lst (ds.set j x1))))
      | none => False) → _
    cases en : ixN ds.length n with
    | none => exact fun z => z.elim
    | some j =>
      intro t3
      have h3 : s3.h a = some (.lst xs) := (g2.trans g3).h _ _ h2
      refine ⟨a, xs, n, j, rfl, rfl, h3, by rw [r2.length]; exact en, ?_⟩
      obtain ⟨rp4, x4⟩ := rp3.mut q (.lst (xs.set j v1)) (x' := .lst (ds.set j x1)) (.inl ⟨_, _, rfl, upd_same, RpL.set (p2.mono g3.f) j (r2.mono (g2.trans g3).f)⟩)
      exact l.nx _ σ _ rp4 ((g2.trans g3).ext.trans x4) t3
  · exact t.elim
/-! ### name op= e -/
def augS (o : Option Sl) (i : Nat) (d : R2d) (te : TEd) (D : EndsD) (ρ : DEnv) : Prop := match o with
  | some (.v .fz x) => te ρ fun _ y => d x y fun k z => storF i D.nx ρ k z
  | _ => False
def sAug (i : Nat) (d : R2d) (te : TEd) : TSd := fun D ρ => augS ρ[i]? i d te D ρ
theorem vs_aug {i : Nat} {e : Expr} {op : Operator} {T : TE} {te : TEd} {R : R2} {d : R2d} (ho : VOp X (inplaceOp op) R d) (h : VE X e0 e T te) (hp : PIp X op R → PS X st (tAug i T R)) : VS X e0 st (sAug i d te) := by
  refine ⟨_, hp fun pins s σ H x y v u Q I r1 r2 q => ho.pe pins s σ H x y v u Q I r1 r2 q, fun s σ ρ D D' rp t l => ?_⟩
  unfold sAug augS at t
  split at t
  · rename_i x q
    obtain ⟨v, h1, r0, h3⟩ := rp.sl i _ x q
    refine ⟨v, h1, ?_⟩
    refine h.run s σ ρ _ (fun y H1 => R v y H1 fun z H2 => D.nx (σ.set i (some z)) H2) rp t fun s1 k1 v1 x1 g1 r1 t1 => ?_
    have rp1 := rp.grow g1
    refine ho.run s1 v v1 x x1 _ _ rp1.self (.inl (Rp.mono g1.f r0)) (r1.rq rp1.rh) t1 fun s2 k2 w z g2 r2 t2 => ?_
    have g := g1.trans g2
    have rp2 := rp1.grow g2
    have fin : k2.st = true → D'.nx (ρ.set i (.v .fz z)) → D.nx (σ.set i (some w)) s2.h := fun hk q => by
      obtain ⟨s3, g3, e3, f3, p3⟩ := r2.freeze g2 hk
      have z' := l.nx s3 (σ.set i (some w)) (ρ.set i (.v .fz z)) ((rp1.grow g3).store (fun k x e => by cases e; exact ⟨p3, kfz⟩) fun l x e => by cases e) (g1.trans g3).ext q
      rw [e3] at z'
      exact z'
    cases k2 with
    | fz => exact fin rfl t2
    | fr => exact fin rfl t2
    | vw => exact l.nx s2 _ _ (rp2.store (fun k x e => by cases e; exact ⟨r2, kvw⟩) fun l x e => by cases e) g.ext t2
    | rd => exact t2.elim
    | ow l => exact t2.elim
  · exact t.elim
end
section
variable {X : Cx}
def dIAdd : R2d := fun x y P => match x, y with
  | .int i, .int j => P .fz (.int (i + j))
  | .str a, .str b => a.length + b.length ≤ 16777216 ∧ P .fz (.str (a ++ b))
  | _, _ => False
theorem vio_add : VOp X (inplaceOp .Add) (fun x y H Q => rI0 (fun i j => .int (i + j)) x y H Q ∨ rAddS x y H Q) dIAdd := by
  have hs : VOp X (inplaceOp .Add) rAddS (dStr2 (fun a b => .str (a ++ b)) fun a b => a.length + b.length ≤ 16777216) := by
    refine ⟨iop_add_str, fun s v u x y P Q gr q1 q2 d k => ?_⟩
    cases x <;> first | exact d.elim | skip
    cases y <;> first | exact d.elim | skip
    obtain ⟨dl, d⟩ := d
    exact ⟨_, _, q1.str, q2.str, by rw [sizeLine_eq]; exact dl, k s .fz _ _ gr (.str _) d⟩
  refine VOp.imp ((vop_i0 (g' := fun i j => .int (i + j)) iop_add fun _ _ _ => .int _).or hs) fun x y P d => ?_
  cases x <;> cases y <;> first | exact d.elim | skip
  · exact .inl d
  · exact .inr d
theorem vio_sub : VOp X (inplaceOp .Sub) (rI0 fun i j => .int (i - j)) dSub := vop_i0 iop_sub fun _ _ _ => .int _
theorem vio_or : VOp X (inplaceOp .BitOr) (rI0 fun i j => .int (Builtin.bitOr i j)) dOr := vop_i0 iop_or fun _ _ _ => .int _
end
end Tq
set_option Elab.async false
set_option linter.all false
set_option autoImplicit false
set_option maxRecDepth 100000
set_option maxHeartbeats 4000000
namespace Tq
open PySem PySem.Spec L2
open PyProof.Rows hiding St
/-! ### what is walked -/
/-- the iterator J gives xs in every later state -/
def ItD (K : PySem.W.Frag) (e0 s : Hs) (J : It) (xs : List Dt) : Prop :=
  ∃ (G : Hp → Prop) (Y : Nat → Hp → V → Hp → Prop), Walk J xs.length G Y ∧ (∀ s', RH e0 s' → Ext s s' → G s'.h) ∧
    ∀ s' i y H' x, RH e0 s' → Ext s s' → xs[i]? = some x → Y i s'.h y H' → ∃ s'', Grow s' s'' ∧ s''.h = H' ∧ Rp K s''.f y x
abbrev TId := DEnv → (List Dt → Prop) → Prop
structure VI (X : Cx) (e0 : Hs) (tg e : Expr) (w : TI) (t : TId) : Prop where
  pe : PI X tg e w
  run : ∀ (s : Hs) (σ : St) (ρ : DEnv) (P : List Dt → Prop) (R : It → Hp → Prop), Rep X.K e0 s σ ρ → t ρ P → (∀ s' J xs, Grow s s' → ItD X.K e0 s' J xs → P xs → R J s'.h) → w σ s.h R
abbrev TGd := Dt → DEnv → (DEnv → Prop) → Prop
structure VG (X : Cx) (e0 : Hs) (tg : Expr) (T : TG) (t : TGd) : Prop where
  pe : PG X tg T
  run : ∀ (s : Hs) (σ : St) (ρ : DEnv) (v : V) (x : Dt) (P : DEnv → Prop) (Q : St → Hp → Prop), Rep X.K e0 s σ ρ → Rp X.K s.f v x → t x ρ P → (∀ σ' ρ', Rep X.K e0 s σ' ρ' → P ρ' → Q σ' s.h) → T v σ s.h Q
abbrev TGsd := List Dt → DEnv → (DEnv → Prop) → Prop
structure VGs (X : Cx) (e0 : Hs) (tg : List Expr) (T : TGs) (t : TGsd) : Prop where
  pe : PGs X tg T
  run : ∀ (s : Hs) (σ : St) (ρ : DEnv) (v : List V) (x : List Dt) (P : DEnv → Prop) (Q : St → Hp → Prop), Rep X.K e0 s σ ρ → RpL X.K s.f v x → t x ρ P → (∀ σ' ρ', Rep X.K e0 s σ' ρ' → P ρ' → Q σ' s.h) → T v σ s.h Q
section
variable {X : Cx} {e0 : Hs} {pos : Pos} {tg e : Expr}
def hName (i : Nat) : TGd := fun x ρ P => P (ρ.set i (.v .fz x))
theorem vg_name {i : Nat} (hp : PG X tg (gName i)) : VG X e0 tg (gName i) (hName i) :=
  ⟨hp, fun s σ ρ v x P Q rp r t k => k _ _ (rp.store (fun k x e => by cases e; exact ⟨r, kfz⟩) fun l x e => by cases e) t⟩
def hsNil : TGsd := fun xs ρ P => xs = [] ∧ P ρ
def hsCons (t : TGd) (u : TGsd) : TGsd := fun xs ρ P => match xs with
  | x :: r => t x ρ fun ρ' => u r ρ' P
  | [] => False
theorem vgs_nil : VGs X e0 [] gNil hsNil := ⟨pgs_nil, fun s σ ρ v x P Q rp r t k => by
  obtain ⟨e, t⟩ := t
  subst e
  cases r
  exact ⟨rfl, k _ _ rp t⟩⟩
theorem vgs_cons {es : List Expr} {T : TG} {U : TGs} {t : TGd} {u : TGsd} (h1 : VG X e0 e T t) (h2 : VGs X e0 es U u) (hs : (assignEach (e :: es) X.env).map (·.2) = assign e X.env :: (assignEach es X.env).map (·.2) := by rfl) : VGs X e0 (e :: es) (gCons T U) (hsCons t u) := by
  refine ⟨pgs_cons h1.pe h2.pe hs, fun s σ ρ v x P Q rp r t k => ?_⟩
  cases r with
  | nil => exact t.elim
  | cons r rr =>
    exact ⟨_, _, rfl, h1.run s σ ρ _ _ _ _ rp r t fun σ' ρ' rp' t' => h2.run s σ' ρ' _ _ P Q rp' rr t' k⟩
def hTup (n : Nat) (t : TGsd) : TGd := fun x ρ P => match x with
  | .tup ds => ds.length = n ∧ t ds ρ P
  | _ => False
theorem vg_tup {es : List Expr} {k : Nat} {T : TGs} {t : TGsd} {n : Nat} (hc : X.calm = true) (h : VGs X e0 es T t) (hn : (assignEach es X.env).length = n := by rfl) (hst : (assignEach es X.env).findIdx? (·.1) = none := by rfl) : VG X e0 (.Tuple es k pos) (gTup X.K n T) (hTup n t) := by
  refine ⟨pg_tup hc h.pe hn hst, fun s σ ρ v x P Q rp r t k => ?_⟩
  cases r <;> first | exact t.elim | skip
  rename_i a xs ds h1 r
  exact ⟨a, xs, rfl, .inl (.inl (rp.rh.fh _ _ h1)), by rw [r.length]; exact t.1, h.run s σ ρ _ _ P Q rp r t.2 k⟩
/-- (a, b) = e -/
def sAsg (te : TEd) (g : TGd) : TSd := fun D ρ => te ρ fun k x => k.st = true ∧ g x ρ D.nx
theorem vs_asg {st : Stmt} {T : TE} {G : TG} {te : TEd} {g : TGd} (h : VE X e0 e T te) (hg : VG X e0 tg G g) (hp : PS X st (tAsg T G)) : VS X e0 st (sAsg te g) := by
  refine ⟨_, hp, fun s σ ρ D D' rp t l => ?_⟩
  refine h.run s σ ρ _ (fun v H => G v σ H D.nx) rp t fun s1 k1 v1 x1 g1 r1 t1 => ?_
  obtain ⟨hk, t1⟩ := t1
  obtain ⟨s2, g2, e2, f2, p2⟩ := r1.freeze g1 hk
  rw [← e2]
  exact hg.run s2 σ ρ _ _ _ _ (rp.grow g2) p2 t1 fun σ' ρ' rp' q => l.nx s2 σ' ρ' rp' g2.ext q
/-! ### lists, tuples -/
theorem itd_list {K : PySem.W.Frag} {s : Hs} {a : Addr} {vs : List V} {xs : List Dt} (h : SqL K s.g a vs) (r : RpL K s.f vs xs) : ItD K e0 s (Itl K a) xs := by
  refine ⟨fun H => SqL K H a vs, YAt vs, by rw [← r.length]; exact walk_list (K := K) (a := a) (xs := vs), fun s' rh x => (x.g.trans rh.gh).seq h, fun s' i y H' x rh ex hx hy => ?_⟩
  obtain ⟨e1, e2⟩ := hy
  obtain ⟨v, h1, h2⟩ := r.at hx
  rw [e2] at h1
  cases h1
  exact ⟨s', Grow.refl rh, e1.symm, h2.mono ex.f⟩
theorem itd_tup {K : PySem.W.Frag} {s : Hs} {a : Addr} {vs : List V} {xs : List Dt} (h : s.g a = some (.tup vs)) (r : RpL K s.f vs xs) : ItD K e0 s (Itt K a) xs := by
  refine ⟨fun H => SqT K H a vs, YAt vs, by rw [← r.length]; exact walk_tup (K := K) (a := a) (xs := vs), fun s' rh x => .inl (.inl (rh.gh _ _ (x.g _ _ h))), fun s' i y H' x rh ex hx hy => ?_⟩
  obtain ⟨e1, e2⟩ := hy
  obtain ⟨v, h1, h2⟩ := r.at hx
  rw [e2] at h1
  cases h1
  exact ⟨s', Grow.refl rh, e1.symm, h2.mono ex.f⟩
/-- the list that an expression gives: frozen, fresh, or read only through the call -/
def Kd.it : Kd → Bool
  | .fz => true
  | .fr => true
  | .vw => true
  | _ => false
/-- .. its place in the stable heap -/
theorem RK.stable {s0 s : Hs} {k : Kd} {v : V} {ds : List Dt} {K : PySem.W.Frag} (g : Grow s0 s) (r : RK K s0.h s k v (.lst ds)) (hk : k.it = true) : ∃ s' a vs, Grow s0 s' ∧ s'.h = s.h ∧ v = .ref a ∧ SqL K s'.g a vs ∧ RpL K s'.f vs ds := by
  by_cases h : k.st = true
  · obtain ⟨s2, g2, e2, f2, p2⟩ := r.freeze g h
    cases p2 with
    | lst h1 r1 => exact ⟨s2, _, _, g2, e2, rfl, g2.fg.seq h1, r1⟩
  · cases k with
    | fz => exact absurd rfl h
    | fr => exact absurd rfl h
    | vw =>
      obtain ⟨a, xs, e1, h1, r1⟩ := Rq.lst g.fg r
      exact ⟨s, a, xs, g, rfl, e1, h1, r1⟩
    | rd => cases hk
    | ow l => cases hk
def lstP (x : Dt) (P : List Dt → Prop) : Prop := match x with
  | .lst ds => P ds
  | _ => False
def tupP (x : Dt) (P : List Dt → Prop) : Prop := match x with
  | .tup ds => P ds
  | _ => False
def iLst (t : TEd) : TId := fun ρ P => t ρ fun k x => k.it = true ∧ lstP x P
theorem vi_list {T : TE} {t : TEd} (h : VE X e0 e T t) : VI X e0 tg e (iList X.K T) (iLst t) := by
  refine ⟨pi_list h.pe, fun s σ ρ P R rp t k => ?_⟩
  refine h.run s σ ρ _ (fun x H1 => ∃ a, x = .ref a ∧ (∃ xs, SqL X.K H1 a xs) ∧ R (Itl X.K a) H1) rp t fun s1 k1 v1 x1 g1 r1 t1 => ?_
  obtain ⟨hk, t1⟩ := t1
  cases x1 <;> first | exact t1.elim | skip
  obtain ⟨s2, a, vs, g2, e2, rfl, h1, r2⟩ := r1.stable g1 hk
  rw [← e2]
  exact ⟨a, rfl, ⟨vs, g2.gh.seq h1⟩, k s2 _ _ g2 (itd_list h1 r2) t1⟩
def iTp (t : TEd) : TId := fun ρ P => t ρ fun k x => k = .fz ∧ tupP x P
theorem vi_tup {T : TE} {t : TEd} (h : VE X e0 e T t) : VI X e0 tg e (iTup X.K T) (iTp t) := by
  refine ⟨pi_tup h.pe, fun s σ ρ P R rp t k => ?_⟩
  refine h.run s σ ρ _ (fun x H1 => ∃ a, x = .ref a ∧ (∃ xs, SqT X.K H1 a xs) ∧ R (Itt X.K a) H1) rp t fun s1 k1 v1 x1 g1 r1 t1 => ?_
  obtain ⟨hk, t1⟩ := t1
  subst hk
  cases x1 <;> first | exact t1.elim | skip
  cases r1 with
  | tup h1 r2 => exact ⟨_, rfl, ⟨_, .inl (.inl (g1.gh _ _ (g1.fg _ _ h1)))⟩, k s1 _ _ g1 (itd_tup (g1.fg _ _ h1) r2) t1⟩
/-! ### ranges -/
/-- lo, lo + 1, .. : n of them -/
def rngD (lo : Int) (n : Nat) : List Dt := (List.range n).map fun (i : Nat) => .int (lo + i)
theorem rngD_at {lo : Int} {n i : Nat} {x : Dt} (h : (rngD lo n)[i]? = some x) : i < n ∧ x = .int (lo + i) := by
  unfold rngD at h
  rw [List.getElem?_map] at h
  rcases Nat.lt_or_ge i n with z | z
  · rw [List.getElem?_eq_getElem (by simpa using z)] at h
    simp at h
    exact ⟨z, h.symm⟩
  · rw [List.getElem?_eq_none_iff.mpr (by simpa using z)] at h
    cases h
theorem rngD_length {lo : Int} {n : Nat} : (rngD lo n).length = n := by simp [rngD]
theorem itd_range {K : PySem.W.Frag} {s : Hs} {lo : Int} {n : Nat} : ItD K e0 s (Itr lo n) (rngD lo n) := by
  refine ⟨_, _, by rw [rngD_length]; exact walk_range, fun s' rh x => trivial, fun s' i y H' x rh ex hx hy => ?_⟩
  obtain ⟨e1, e2⟩ := hy
  obtain ⟨h1, rfl⟩ := rngD_at hx
  subst e2
  exact ⟨s', Grow.refl rh, e1.symm, .int _⟩
def r1P (as : List (Kd × Dt)) (P : List Dt → Prop) : Prop := match as with
  | [(_, .int j)] => j < 2 ^ 62 ∧ -(2 ^ 62) ≤ j ∧ P (rngD 0 j.toNat)
  | _ => False
def iR1 (t : TAd) : TId := fun ρ P => t ρ fun as => r1P as P
theorem ArgsR.int1 {K : PySem.W.Frag} {F H : Hp} {vs : List V} {k : Kd} {j : Int} (h : ArgsR K F H vs [(k, .int j)]) : vs = [.int j] := by
  obtain ⟨v, rfl, q⟩ := h.one
  rw [q.int]
theorem vi_range1 {a : Expr} {Ta : TA} {t : TAd} {p : Pos} (hg : Gl X "range") (hm : X.mg "range" = none) (ha : VA X e0 [a] Ta t) (hs : starEach [a] X.env = [(false, eval a X.env)] := by rfl) : VI X e0 tg (.Call (.Name "range" p) [a] [] pos) (iRng1 Ta) (iR1 t) := by
  refine ⟨pi_range1 hg hm ha.pe hs, fun s σ ρ P R rp t k => ?_⟩
  refine ha.run s σ ρ _ (fun vs H1 => ∃ j : Int, vs = [.int j] ∧ -(2 ^ 62) ≤ j ∧ j < 2 ^ 62 ∧ R (Itr 0 j.toNat) H1) rp t fun s1 vs as g1 ar hl t1 => ?_
  match as, ar, t1 with
  | [(_, .int j)], ar, t1 => exact ⟨j, ar.int1, t1.2.1, t1.1, k s1 _ _ g1 itd_range t1.2.2⟩
def r2P (as : List (Kd × Dt)) (P : List Dt → Prop) : Prop := match as with
  | [(_, .int i), (_, .int j)] => (-(2 ^ 62) ≤ i ∧ i < 2 ^ 62 ∧ -(2 ^ 62) ≤ j ∧ j < 2 ^ 62) ∧ P (rngD i (j - i).toNat)
  | _ => False
def iR2 (t : TAd) : TId := fun ρ P => t ρ fun as => r2P as P
theorem vi_range2 {a b : Expr} {Ta : TA} {t : TAd} {p : Pos} (hg : Gl X "range") (hm : X.mg "range" = none) (ha : VA X e0 [a, b] Ta t) (hs : starEach [a, b] X.env = [(false, eval a X.env), (false, eval b X.env)] := by rfl) (hs2 : starEach [b] X.env = [(false, eval b X.env)] := by rfl) : VI X e0 tg (.Call (.Name "range" p) [a, b] [] pos) (iRng2 Ta) (iR2 t) := by
  refine ⟨pi_range2 hg hm ha.pe hs hs2, fun s σ ρ P R rp t k => ?_⟩
  refine ha.run s σ ρ _ (fun vs H1 => ∃ i j : Int, vs = [.int i, .int j] ∧ (-(2 ^ 62) ≤ i ∧ i < 2 ^ 62 ∧ -(2 ^ 62) ≤ j ∧ j < 2 ^ 62) ∧ R (Itr i (j - i).toNat) H1) rp t fun s1 vs as g1 ar hl t1 => ?_
  match as, ar, t1 with
  | [(_, .int i), (_, .int j)], ar, t1 =>
    obtain ⟨v, u, rfl, q1, q2⟩ := ar.two
    rw [q1.int, q2.int]
    exact ⟨i, j, rfl, t1.1, k s1 _ _ g1 itd_range t1.2⟩
/-! ### enumerate, zip -/
def enumD (ds : List Dt) : List Dt := ds.zipIdx.map fun p => .tup [.int (p.2 : Nat), p.1]
theorem enumD_length {ds : List Dt} : (enumD ds).length = ds.length := by simp [enumD]
theorem enumD_at {ds : List Dt} {i : Nat} {x : Dt} (h : (enumD ds)[i]? = some x) : ∃ d, ds[i]? = some d ∧ x = .tup [.int (i : Nat), d] := by
  unfold enumD at h
  rw [List.getElem?_map, List.getElem?_zipIdx] at h
  cases e : ds[i]? with
  | none => rw [e] at h; simp at h
  | some d => rw [e] at h; simp at h; exact ⟨d, rfl, h.symm⟩
theorem pair_grow {K : PySem.W.Frag} {s : Hs} {T : Addr} {v u : V} {x y : Dt} {H' : Hp} (rh : RH e0 s) (hT : s.h T = none) (e : H' = upd s.h T (.tup [v, u])) (r1 : Rp K s.f v x) (r2 : Rp K s.f u y) : ∃ s'', Grow s s'' ∧ s''.h = H' ∧ Rp K s''.f (.ref T) (.tup [x, y]) := by
  refine ⟨s.lay T (.tup [v, u]), (Grow.refl rh).lay hT, e.symm, ?_⟩
  have hf : Same s.f (s.lay T (.tup [v, u])).f := same_upd (Same.free rh.fh hT)
  exact .tup upd_same (.cons (r1.mono hf) (.cons (r2.mono hf) .nil))
theorem itd_enum {K : PySem.W.Frag} {s : Hs} {a : Addr} {vs : List V} {xs : List Dt} (h : SqL K s.g a vs) (r : RpL K s.f vs xs) : ItD K e0 s (Ite K a) (enumD xs) := by
  refine ⟨fun H => SqL K H a vs, YPair (fun i => some (.int (i : Nat))) (fun i => vs[i]?), by rw [enumD_length, ← r.length]; exact walk_enum (K := K) (a := a) (xs := vs), fun s' rh x => (x.g.trans rh.gh).seq h, fun s' i y H' x rh ex hx hy => ?_⟩
  obtain ⟨T, v, u, rfl, hT, e, e1, e2⟩ := hy
  obtain ⟨d, h1, rfl⟩ := enumD_at hx
  obtain ⟨v', h3, h4⟩ := r.at h1
  have e3 : vs[i]? = some u := e2
  rw [e3] at h3
  cases h3
  cases e1
  exact pair_grow rh hT e (.int _) (h4.mono ex.f)
def iEn (t : TEd) : TId := fun ρ P => t ρ fun k x => k.it = true ∧ lstP x fun ds => P (enumD ds)
theorem vi_enum {a : Expr} {T : TE} {t : TEd} {tpos : Pos} {elts : List Expr} {kk : Nat} (h : VE X e0 a T t) (hp : PI X (.Tuple elts kk tpos) e (iEnum X.K (tCons T tNil))) : VI X e0 (.Tuple elts kk tpos) e (iEnum X.K (tCons T tNil)) (iEn t) := by
  refine ⟨hp, fun s σ ρ P R rp t k => ?_⟩
  refine h.run s σ ρ _ _ rp t fun s1 k1 v1 x1 g1 r1 t1 => ?_
  obtain ⟨hk, t1⟩ := t1
  cases x1 <;> first | exact t1.elim | skip
  obtain ⟨s2, a, vs, g2, e2, rfl, h1, r2⟩ := r1.stable g1 hk
  rw [← e2]
  exact ⟨a, vs, rfl, g2.gh.seq h1, k s2 _ _ g2 (itd_enum h1 r2) t1⟩
def zipD (xs ys : List Dt) : List Dt := (xs.zip ys).map fun p => .tup [p.1, p.2]
theorem zipD_length {xs ys : List Dt} : (zipD xs ys).length = min xs.length ys.length := by simp [zipD]
theorem zipD_at {xs ys : List Dt} {i : Nat} {x : Dt} (h : (zipD xs ys)[i]? = some x) : ∃ a b, xs[i]? = some a ∧ ys[i]? = some b ∧ x = .tup [a, b] := by
  unfold zipD at h
  rw [List.getElem?_map] at h
  cases e : (xs.zip ys)[i]? with
  | none => rw [e] at h; cases h
  | some p =>
    rw [e] at h
    obtain ⟨h1, h2⟩ := List.getElem?_zip_eq_some.mp e
    exact ⟨p.1, p.2, h1, h2, (Option.some.inj h).symm⟩
theorem itd_zip {K : PySem.W.Frag} {s : Hs} {a b : Addr} {vs us : List V} {xs ys : List Dt} (h : SqL K s.g a vs) (h' : SqL K s.g b us) (r : RpL K s.f vs xs) (r' : RpL K s.f us ys) : ItD K e0 s (Itz K a b) (zipD xs ys) := by
  refine ⟨fun H => SqL K H a vs ∧ SqL K H b us, YPair (fun i => vs[i]?) (fun i => us[i]?), walk_zip (by rw [zipD_length, r.length, r'.length]), fun s' rh x => ⟨(x.g.trans rh.gh).seq h, (x.g.trans rh.gh).seq h'⟩, fun s' i y H' x rh ex hx hy => ?_⟩
  obtain ⟨T, v, u, rfl, hT, e, e1, e2⟩ := hy
  obtain ⟨d, d', h1, h2, rfl⟩ := zipD_at hx
  obtain ⟨v', h3, h4⟩ := r.at h1
  obtain ⟨u', h5, h6⟩ := r'.at h2
  have e3 : vs[i]? = some v := e1
  have e4 : us[i]? = some u := e2
  rw [e3] at h3
  rw [e4] at h5
  cases h3
  cases h5
  exact pair_grow rh hT e (h4.mono ex.f) (h6.mono ex.f)
def iZp (t u : TEd) : TId := fun ρ P => t ρ fun k x => u ρ fun k' y => k.it = true ∧ k'.it = true ∧ lstP x fun ds => lstP y fun es => P (zipD ds es)
theorem vi_zip {a b : Expr} {T U : TE} {t u : TEd} {tpos : Pos} {elts : List Expr} {kk : Nat} (h : VE X e0 a T t) (h' : VE X e0 b U u) (hp : PI X (.Tuple elts kk tpos) e (iZip X.K (tCons T (tCons U tNil)))) : VI X e0 (.Tuple elts kk tpos) e (iZip X.K (tCons T (tCons U tNil))) (iZp t u) := by
  refine ⟨hp, fun s σ ρ P R rp t k => ?_⟩
  refine h.run s σ ρ _ _ rp t fun s1 k1 v1 x1 g1 r1 t1 => ?_
  -- the first is made stable ahead of the second
  have rp1 := rp.grow g1
  by_cases hk1 : k1.it = true
  · have key : ∀ (y1 : List Dt), x1 = .lst y1 → U σ s1.h fun y H2 => ∃ (a b : Addr) (xs ys : List V), [v1, y] = [V.ref a, V.ref b] ∧ SqL X.K H2 a xs ∧ SqL X.K H2 b ys ∧ R (Itz X.K a b) H2 := fun y1 e => by
      subst e
      obtain ⟨s2, a, vs, g2, e2, rfl, h1, r2⟩ := r1.stable g1 hk1
      have rp2 := rp.grow g2
      rw [← e2]
      refine h'.run s2 σ ρ _ _ rp2 t1 fun s3 k3 v3 x3 g3 r3 t3 => ?_
      obtain ⟨_, hk, t3⟩ := t3
      cases x3 <;> first | exact t3.elim | skip
      obtain ⟨s4, b, us, g4, e4, rfl, h4, r4⟩ := r3.stable g3 hk
      rw [← e4]
      have h1' := g4.g.seq h1
      exact ⟨a, b, vs, us, rfl, g4.gh.seq h1', g4.gh.seq h4, k s4 _ _ (g2.trans g4) (itd_zip h1' h4 (r2.mono g4.f) r4) t3⟩
    cases x1 with
    | lst y1 => exact key y1 rfl
    | _ => exact h'.run s1 σ ρ _ _ rp1 t1 fun s3 k3 v3 x3 g3 r3 t3 => (by obtain ⟨_, _, t3⟩ := t3; cases x3 <;> exact t3.elim)
  · exact h'.run s1 σ ρ _ _ rp1 t1 fun s3 k3 v3 x3 g3 r3 t3 => absurd t3.1 hk1
end
end Tq
set_option Elab.async false
set_option linter.all false
set_option autoImplicit false
set_option maxRecDepth 100000
set_option maxHeartbeats 4000000
namespace Tq
open PySem PySem.Spec L2
open PyProof.Rows hiding St
section
variable {X : Cx} {e0 : Hs} {pos : Pos} {tg e : Expr}
/-! ### for -/
def sFor (it : TId) (g : TGd) (tb : TSd) : TSd := fun D ρ => it ρ fun xs => ∃ W : Nat → DEnv → Prop, (∃ ρ', Wk ρ ρ' ∧ W 0 ρ') ∧
  (∀ i x ρ', xs[i]? = some x → W i ρ' → g x ρ' fun ρ1 => tb { D with nx := fun ρ2 => ∃ ρ3, Wk ρ2 ρ3 ∧ W (i + 1) ρ3, ct := fun ρ2 => ∃ ρ3, Wk ρ2 ρ3 ∧ W (i + 1) ρ3, bk := D.nx } ρ1) ∧
  ∀ ρ', W xs.length ρ' → D.nx ρ'
theorem for_core {s1 : Hs} {σ : St} {ρ0 : DEnv} {D : Ends} {D' : EndsD} {J : It} {xs : List Dt} {T : TG} {g : TGd} {B : TS} {tb : TSd} (hg : VG X e0 tg T g)
    (rb : ∀ (s : Hs) (σ : St) (ρ : DEnv) (D : Ends) (D' : EndsD), Rep X.K e0 s σ ρ → tb D' ρ → Lk X.K e0 s D D' → B D σ s.h) (l : Lk X.K e0 s1 D D')
    (it : ItD X.K e0 s1 J xs) (W : Nat → DEnv → Prop) (r0 : ∃ s2, s2.h = s1.h ∧ Ext s1 s2 ∧ Rep X.K e0 s2 σ ρ0) (h0 : W 0 ρ0)
    (hs : ∀ i x ρ', xs[i]? = some x → W i ρ' → g x ρ' fun ρ1 => tb { D' with nx := fun ρ2 => ∃ ρ3, Wk ρ2 ρ3 ∧ W (i + 1) ρ3, ct := fun ρ2 => ∃ ρ3, Wk ρ2 ρ3 ∧ W (i + 1) ρ3, bk := D'.nx } ρ1)
    (hd : ∀ ρ', W xs.length ρ' → D'.nx ρ') :
    ∃ W : Nat → Nat → St → Hp → Prop, (∃ m, W 0 m σ s1.h) ∧ ∀ i m σ H, W i m σ H →
      (J.stop i H ∧ D.nx σ H) ∨ (J.go i H ∧ ∃ N : St → Hp → Prop, (∀ σ' H', N σ' H' → ∃ m', m' < m ∧ W (i + 1) m' σ' H') ∧ ∀ x H', J.yld i H x H' → T x σ H' fun σ2 H2 => B { D with nx := N, ct := N, bk := D.nx } σ2 H2) := by
  obtain ⟨G, Y, wk, hG, hY⟩ := it
  obtain ⟨s2, e2, x2, r2⟩ := r0
  refine for_it wk (fun i σ H => ∃ s' ρ', s'.h = H ∧ Rep X.K e0 s' σ ρ' ∧ Ext s1 s' ∧ W i ρ') ⟨s2, ρ0, e2, r2, x2, h0⟩ (fun i σ H hi ⟨s', ρ', e, r, x, w⟩ => by rw [← e]; exact hG s' r.rh x) ?_ ?_
  · rintro i y σ' H H' hi ⟨s', ρ', rfl, rp, x, w⟩ hy
    obtain ⟨x', hx⟩ : ∃ x', xs[i]? = some x' := ⟨xs[i], List.getElem?_eq_getElem hi⟩
    obtain ⟨s3, g3, e3, r3⟩ := hY s' i y H' x' rp.rh x hx hy
    have rp3 := rp.grow g3
    have x3 := x.trans g3.ext
    subst e3
    have again : ∀ s4 σ4 ρ4, Rep X.K e0 s4 σ4 ρ4 → Ext s3 s4 → (∃ ρ3, Wk ρ4 ρ3 ∧ W (i + 1) ρ3) → ∃ s' ρ', s'.h = s4.h ∧ Rep X.K e0 s' σ4 ρ' ∧ Ext s1 s' ∧ W (i + 1) ρ' := fun s4 σ4 ρ4 rp4 x4 ⟨ρ3, w3, i3⟩ => by
      obtain ⟨s5, h5, x5, r5⟩ := w3.rep rp4
      exact ⟨s5, ρ3, h5, r5, (x3.trans x4).trans x5, i3⟩
    refine hg.run s3 σ' ρ' y x' _ _ rp3 r3 (hs i x' ρ' hx w) fun σ4 ρ4 rp4 t4 => ?_
    exact rb s3 σ4 ρ4 _ _ rp4 t4 ⟨again, (l.ext x3).rt, fun s5 σ5 ρ5 rp5 x5 q => l.nx s5 σ5 ρ5 rp5 (x3.trans x5) q, again⟩
  · rintro σ' H ⟨s', ρ', rfl, rp, x, w⟩
    exact l.nx s' σ' ρ' rp x (hd ρ' w)
theorem vs_for {iter : Expr} {body : List Stmt} {w : TI} {it : TId} {T : TG} {g : TGd} {tb : TSd} (hp : PassesOwn (model X.prog X.w) X.A X.env X.xe) (hc : X.calm = true) (hi : VI X e0 tg iter w it) (hg : VG X e0 tg T g) (hb : VSs X e0 body tb)
    (hs : ∀ x, foldedSetIterable iter X.env x = pure x := by intro _; rfl) : VS X e0 (.For tg iter body [] pos) (sFor it g tb) := by
  obtain ⟨B, hB, rb⟩ := hb.run
  refine ⟨_, ps_for hp hc hi.pe hg.pe hB hs, fun s σ ρ D D' rp t l => ?_⟩
  refine hi.run s σ ρ _ _ rp t fun s1 J xs g1 itd t1 => ?_
  obtain ⟨W, ⟨ρ0, w0, i0⟩, turn, done⟩ := t1
  obtain ⟨s2, h2, x2, r2⟩ := w0.rep (rp.grow g1)
  exact for_core hg rb (l.ext g1.ext) itd W ⟨s2, h2, x2, r2⟩ i0 turn done
/-- over what slot i owns: it stays as it is through the loop -/
def forOS (o : Option Sl) (i : Nat) (g : TGd) (tb : TSd) (D : EndsD) (ρ : DEnv) : Prop := match o with
  | some (.v (.ow l) (.lst xs)) => ∃ W : Nat → DEnv → Prop, (∀ j ρ', W j ρ' → ρ'[i]? = some (.v (.ow l) (.lst xs))) ∧ (∃ ρ', Wk ρ ρ' ∧ W 0 ρ') ∧
    (∀ j x ρ', xs[j]? = some x → W j ρ' → g x ρ' fun ρ1 => tb { D with nx := fun ρ2 => ∃ ρ3, Wk ρ2 ρ3 ∧ W (j + 1) ρ3, ct := fun ρ2 => ∃ ρ3, Wk ρ2 ρ3 ∧ W (j + 1) ρ3, bk := D.nx } ρ1) ∧
    ∀ ρ', W xs.length ρ' → D.nx ρ'
  | _ => False
def sForO (i : Nat) (g : TGd) (tb : TSd) : TSd := fun D ρ => forOS ρ[i]? i g tb D ρ
theorem vs_forO {i : Nat} {x : Str} {p : Pos} {body : List Stmt} {T : TG} {g : TGd} {tb : TSd} (hp : PassesOwn (model X.prog X.w) X.A X.env X.xe) (hc : X.calm = true) (hv : PE X (.Name x p) (tVar i)) (hg : VG X e0 tg T g) (hb : VSs X e0 body tb) : VS X e0 (.For tg (.Name x p) body [] pos) (sForO i g tb) := by
  obtain ⟨B, hB, rb⟩ := hb.run
  refine ⟨_, ps_for hp hc (pi_list hv) hg.pe hB, fun s σ ρ D D' rp t l => ?_⟩
  unfold sForO forOS at t
  split at t
  · rename_i a xs q
    obtain ⟨h1, c⟩ := TE.var_own rp q
    obtain ⟨vs, h2, r2⟩ := c.lst
    obtain ⟨W, hW, ⟨ρ0, w0, i0⟩, turn, done⟩ := t
    obtain ⟨s2, e2, x2, rp2⟩ := w0.rep rp
    refine ⟨_, h1, a, rfl, ⟨vs, .inl (.inl h2)⟩, ?_⟩
    refine ⟨fun j m σ H => m = xs.length - j ∧ j ≤ xs.length ∧ ∃ s' ρ', s'.h = H ∧ Rep X.K e0 s' σ ρ' ∧ Ext s s' ∧ W j ρ', ⟨xs.length, by simp, Nat.zero_le _, s2, ρ0, e2, rp2, x2, i0⟩, ?_⟩
    rintro j m σ' H ⟨rfl, hj, s', ρ', rfl, rp', x', w'⟩
    obtain ⟨g1, c'⟩ := TE.var_own rp' (hW j ρ' w')
    obtain ⟨us, h3, r3⟩ := c'.lst
    by_cases hlt : j < xs.length
    · obtain ⟨u, hu, ru⟩ := r3.at (List.getElem?_eq_getElem hlt)
      have again : ∀ s4 σ4 ρ4, Rep X.K e0 s4 σ4 ρ4 → Ext s' s4 → (∃ ρ3, Wk ρ4 ρ3 ∧ W (j + 1) ρ3) → ∃ s' ρ', s'.h = s4.h ∧ Rep X.K e0 s' σ4 ρ' ∧ Ext s s' ∧ W (j + 1) ρ' := fun s4 σ4 ρ4 rp4 x4 ⟨ρ3, w3, i3⟩ => by
        obtain ⟨s5, h5, x5, r5⟩ := w3.rep rp4
        exact ⟨s5, ρ3, h5, r5, (x'.trans x4).trans x5, i3⟩
      refine .inr ⟨⟨us, u, .inl (.inl h3), hu⟩, fun σ2 H2 => ∃ s' ρ', s'.h = H2 ∧ Rep X.K e0 s' σ2 ρ' ∧ Ext s s' ∧ W (j + 1) ρ', fun σ2 H2 q => ⟨xs.length - (j + 1), by omega, rfl, hlt, q⟩, fun y H' hy => ?_⟩
      obtain ⟨e1, hy⟩ := hy
      subst e1
      have ey := hy us (.inl (.inl h3))
      rw [hu] at ey
      cases ey
      refine hg.run s' σ' ρ' _ _ _ _ rp' ru (turn j _ ρ' (List.getElem?_eq_getElem hlt) w') fun σ4 ρ4 rp4 t4 => ?_
      exact rb s' σ4 ρ4 _ _ rp4 t4 ⟨again, (l.ext x').rt, fun s5 σ5 ρ5 rp5 x5 q => l.nx s5 σ5 ρ5 rp5 (x'.trans x5) q, again⟩
    · have ej : j = xs.length := by omega
      subst ej
      exact .inl ⟨⟨us, .inl (.inl h3), by rw [r3.length]; exact Nat.le_refl _⟩, l.nx s' σ' ρ' rp' x' (done ρ' w')⟩
  · exact t.elim
/-! ### comprehensions -/
def wipeD (ρ : DEnv) : List Nat → DEnv
  | [] => ρ
  | v :: vs => (wipeD ρ vs).set v .no
/-- the target stores into its own slots alone -/
def OwnTg (T : TG) (vs : List Nat) : Prop := ∀ v σ H Q, T v (wipe σ vs) H Q → T v (wipe σ vs) H fun σ2 H2 => wipe σ2 vs = wipe σ vs ∧ Q σ2 H2
theorem own_name (i : Nat) : OwnTg (gName i) [i] := fun v σ H Q h => by
  refine ⟨?_, h⟩
  show (((σ.set i none).set i (some v)).set i none) = σ.set i none
  rw [List.set_set, List.set_set]
theorem own_two (i j : Nat) (K : PySem.W.Frag) : OwnTg (gTup K 2 (gCons (gName i) (gCons (gName j) gNil))) [i, j] := fun v σ H Q h => by
  obtain ⟨a, xs, e1, h1, h2, x, r, e2, y, r2, e3, e4, q⟩ := h
  refine ⟨a, xs, e1, h1, h2, x, r, e2, y, r2, e3, e4, ?_, q⟩
  show ((((((σ.set j none).set i none).set i (some x)).set j (some y)).set j none).set i none) = (σ.set j none).set i none
  refine List.ext_getElem? fun n => ?_
  simp only [List.getElem?_set, List.length_set]
  by_cases h1 : i = n <;> by_cases h2 : j = n <;> simp [h1, h2]
theorem Rep.wipe {K : PySem.W.Frag} {s : Hs} {σ : St} {ρ : DEnv} (r : Rep K e0 s σ ρ) : ∀ vs : List Nat, Rep K e0 s (L2.wipe σ vs) (wipeD ρ vs)
  | [] => r
  | v :: vs => by
    have ih := Rep.wipe r vs
    refine ⟨ih.rh, by show ((L2.wipe σ vs).set v none).length = ((wipeD ρ vs).set v .no).length; rw [List.length_set, List.length_set]; exact ih.len, fun j k x q => ?_, ih.forget.dj⟩
    obtain ⟨u, h1, h2⟩ := ih.forget.sl j k x q
    have hne : v ≠ j := fun z => by
      subst z
      have q' : ((wipeD ρ vs).set v .no)[v]? = some (Sl.v k x) := q
      rw [List.getElem?_set] at q'
      simp at q'
    refine ⟨u, ?_, h2⟩
    show ((L2.wipe σ vs).set v none)[j]? = some (some u)
    rw [List.getElem?_set_ne hne]
    exact h1
def eLc (it : TId) (g : TGd) (tt : TTd) (te : TEd) (vs : List Nat) : TEd := fun ρ P => it ρ fun xs => xs.length ≤ 16777216 ∧ ∃ W : Nat → List Dt → Prop, W 0 [] ∧
  (∀ i x acc, xs[i]? = some x → W i acc → g x (wipeD ρ vs) fun ρ1 => tt ρ1 fun b => selS b (fun ρ2 => te ρ2 fun k y => k.st = true ∧ W (i + 1) (acc ++ [y])) (fun _ => W (i + 1) acc) ρ1) ∧
  ∀ acc, W xs.length acc → P .fr (.lst acc)
theorem lc_core' {s s1 : Hs} {σ : St} {ρ : DEnv} {vs : List Nat} {J : It} {xs : List Dt} {T : TG} {g : TGd} {C : TT} {tt : TTd} {E : TE} {te : TEd} {P : DK} {Q : VK} (rp : Rep X.K e0 s σ ρ) (g1 : Grow s s1) (it : ItD X.K e0 s1 J xs)
    (ho : OwnTg T vs) (rg : ∀ (s : Hs) (σ : St) (ρ : DEnv) (v : V) (x : Dt) (P : DEnv → Prop) (Q : St → Hp → Prop), Rep X.K e0 s σ ρ → Rp X.K s.f v x → g x ρ P → (∀ σ' ρ', Rep X.K e0 s σ' ρ' → P ρ' → Q σ' s.h) → T v σ s.h Q)
    (rc : ∀ (s : Hs) (σ : St) (ρ : DEnv) (P : Bool → Prop) (Q : Bool → Hp → Prop), Rep X.K e0 s σ ρ → tt ρ P → (∀ s' b, Grow s s' → P b → Q b s'.h) → C σ s.h Q)
    (re : ∀ (s : Hs) (σ : St) (ρ : DEnv) (P : DK) (Q : VK), Rep X.K e0 s σ ρ → te ρ P → (∀ s' k v x, Grow s s' → RK X.K s.h s' k v x → P k x → Q v s'.h) → E σ s.h Q)
    (hl : xs.length ≤ 16777216) (W : Nat → List Dt → Prop) (h0 : W 0 [])
    (hs : ∀ i x acc, xs[i]? = some x → W i acc → g x (wipeD ρ vs) fun ρ1 => tt ρ1 fun b => if b = true then te ρ1 fun k y => k.st = true ∧ W (i + 1) (acc ++ [y]) else W (i + 1) acc)
    (hd : ∀ acc, W xs.length acc → P .fr (.lst acc)) (k : ∀ s' k v x, Grow s s' → RK X.K s.h s' k v x → P k x → Q v s'.h) {D : Addr} (hD : s1.h D = none) :
    ∃ W : Nat → Nat → Hp → Prop, (∃ m, W 0 m (upd s1.h D (.lst []))) ∧ ∀ i m H, W i m H →
      (J.stop i H ∧ Q (.ref D) H) ∨ (J.go i H ∧ ∃ Nx : Hp → Prop, (∀ H', Nx H' → ∃ m', m' < m ∧ W (i + 1) m' H') ∧ ∀ x H', J.yld i H x H' → T x (wipe σ vs) H' fun σ2 H2 => wipe σ2 vs = wipe σ vs ∧ C σ2 H2 fun b H3 =>
        if b = true then E σ2 H3 fun y H4 => ∃ acc, H4 D = some (.lst acc) ∧ acc.length < sizeLine ∧ Nx (upd H4 D (.lst (acc ++ [y]))) else Nx H3) := by
  obtain ⟨G, Y, wk, hG, hY⟩ := it
  have hDs : s.h D = none := Same.free g1.h hD
  -- between two turns: the heaps grown from s1, the list at D of what was kept
  refine lc_it (Qd := fun H => Q (.ref D) H) wk (fun i H => ∃ (s' : Hs) (acc : List Dt) (ys : List V), s'.h = H ∧ Grow s s' ∧ Ext s1 s' ∧ s'.g D = none ∧ s'.h D = some (.lst ys) ∧ RpL X.K s'.f ys acc ∧ acc.length ≤ i ∧ W i acc)
    ⟨s1.new D (.lst []), [], [], rfl, g1.new hD, ⟨Same.refl _, Same.refl _⟩, Same.free g1.gh hD, upd_same, .nil, Nat.le_refl _, h0⟩
    (fun i H hi ⟨s', acc, ys, e, g, x, _⟩ => by rw [← e]; exact hG s' (rp.grow g).rh x) ?_ ?_
  · rintro i y H H' hi ⟨s', acc, ys, rfl, g', x', n', h', r', l', w'⟩ hy
    have rp' := rp.grow g'
    obtain ⟨x, hx⟩ : ∃ x, xs[i]? = some x := ⟨xs[i], List.getElem?_eq_getElem hi⟩
    obtain ⟨s3, g3, e3, r3⟩ := hY s' i y H' x rp'.rh x' hx hy
    subst e3
    refine ho _ _ _ _ ?_
    refine rg s3 _ (wipeD ρ vs) y x _ _ ((rp'.grow g3).wipe vs) r3 (hs i x acc hx w') fun σ4 ρ4 rp4 t4 => ?_
    refine rc s3 σ4 ρ4 _ _ rp4 t4 fun s5 b g5 t5 => ?_
    have rp5 := rp4.grow g5
    have g35 := g3.trans g5
    cases b with
    | false =>
      have t5' : W (i + 1) acc := t5
      refine iteF ⟨s5, acc, ys, rfl, g'.trans g35, x'.trans g35.ext, (g35.ng D (ne_none h')).trans n', g35.h _ _ h', r'.mono g35.f, by omega, t5'⟩
    | true =>
      refine iteT ?_
      refine re s5 σ4 ρ4 _ _ rp5 t5 fun s6 k6 v6 x6 g6 r6 t6 => ?_
      obtain ⟨hk, t6⟩ := t6
      obtain ⟨s7, g7, e7, f7, p7⟩ := r6.freeze g6 hk
      have g37 := g35.trans g7
      have h7 : s7.h D = some (.lst ys) := g37.h _ _ h'
      have n7 : s7.g D = none := (g37.ng D (ne_none h')).trans n'
      refine ⟨ys, by rw [← e7]; exact h7, by rw [r'.length, sizeLine_eq]; omega, ?_⟩
      rw [← e7]
      have g8 : Grow s ⟨s7.f, s7.g, upd s7.h D (.lst (ys ++ [v6]))⟩ := by
        have gg := g'.trans g37
        refine ⟨gg.f, gg.g, fun a o q => ?_, gg.fg, fun a o q => ?_, gg.nf, gg.ng⟩
        · show upd s7.h D _ a = some o
          rw [upd_ne (ne_of_none q hDs)]
          exact gg.h a o q
        · show upd s7.h D _ a = some o
          rw [upd_ne (ne_of_none q n7)]
          exact gg.gh a o q
      exact ⟨⟨s7.f, s7.g, upd s7.h D (.lst (ys ++ [v6]))⟩, acc ++ [x6], ys ++ [v6], rfl, g8, x'.trans ⟨g37.f, g37.g⟩, n7, upd_same, (r'.mono g37.f).app (.cons p7 .nil), by rw [List.length_append, List.length_singleton]; omega, t6⟩
  · rintro H ⟨s', acc, ys, rfl, g', x', n', h', r', l', w'⟩
    exact k s' .fr _ _ g' ⟨D, rfl, hDs, n', .inl ⟨ys, acc, rfl, h', r'⟩⟩ (hd acc w')
/-- the block's rules, at every context of the block -/
theorem ve_lc {elt iter : Expr} {ifs : List Expr} {scope : Scope} {own : List (Str × Nat)} {w : TI} {it : TId} {T : TG} {g : TGd} {C : TT} {tt : TTd} {E : TE} {te : TEd} (hc : X.calm = true) (hN : X.N.Nodup) (hi : VI X e0 tg iter w it) (ok : BlkOk X.N X.env.scope scope own) (ho : OwnTg T (own.map (·.2)))
    (hg : ∀ (s : Shared) (H : Hp) (Ca : Addr) (cl : List (Str × Addr)) (fp : List Addr), VG (X.blk s H scope (compEnvC scope cl Ca X.env) fp) e0 tg T g)
    (ht : ∀ (s : Shared) (H : Hp) (Ca : Addr) (cl : List (Str × Addr)) (fp : List Addr), PTs (X.blk s H scope (compEnvC scope cl Ca X.env) fp) ifs C)
    (rc : ∀ (s : Hs) (σ : St) (ρ : DEnv) (P : Bool → Prop) (Q : Bool → Hp → Prop), Rep X.K e0 s σ ρ → tt ρ P → (∀ s' b, Grow s s' → P b → Q b s'.h) → C σ s.h Q)
    (he : ∀ (s : Shared) (H : Hp) (Ca : Addr) (cl : List (Str × Addr)) (fp : List Addr), VE (X.blk s H scope (compEnvC scope cl Ca X.env) fp) e0 elt E te)
    (hs : ∀ x, foldedSetIterable iter X.env x = pure x := by intro _; rfl) :
    VE X e0 (.ListComp elt [⟨tg, iter, ifs, 0⟩] scope pos) (tLc w T C E (own.map (·.2))) (eLc it g tt te (own.map (·.2))) := by
  refine ⟨pe_lc hc hN hi.pe ok (fun s H Ca cl fp => (hg s H Ca cl fp).pe) ht (fun s H Ca cl fp => (he s H Ca cl fp).pe) hs, fun s σ ρ P Q rp t k => ?_⟩
  refine hi.run s σ ρ _ _ rp t fun s1 J xs g1 itd t1 => ?_
  obtain ⟨hl, W, h0, turn, done⟩ := t1
  intro D hD
  exact lc_core' rp g1 itd ho (hg X.s_0 X.H_0 0 [] []).run rc (he X.s_0 X.H_0 0 [] []).run hl W h0 turn done k hD
end
end Tq
set_option Elab.async false
set_option linter.all false
set_option autoImplicit false
set_option maxRecDepth 100000
set_option maxHeartbeats 4000000
namespace Tq
open PySem PySem.Spec L2
open PyProof.Rows hiding St
section
variable {X : Cx} {e0 : Hs} {pos : Pos} {st : Stmt}
/-! ### sugar for printed terms -/
theorem vs_set' {i : Nat} {e : Expr} {T : TE} {te : TEd} (h : VE X e0 e T te) (hp : PE X e T → PS X st (tAsg T (gName i))) : VS X e0 st (sSet i te) := vs_set h (hp h.pe)
theorem vs_setF' {i : Nat} {e : Expr} {T : TE} {te : TEd} (h : VE X e0 e T te) (hp : PE X e T → PS X st (tAsg T (gName i))) : VS X e0 st (sSetF i te) := vs_setF h (hp h.pe)
theorem vs_app' {i : Nat} {e : Expr} {T : TE} {te : TEd} (h : VE X e0 e T te) (hp : PE X e T → PS X st (tDrop (tBM X.K "list" rAppend (tVar i) (tCons T tNil)))) : VS X e0 st (sApp i te) := vs_app h (hp h.pe)
theorem vs_asg' {tg e : Expr} {T : TE} {G : TG} {te : TEd} {g : TGd} (h : VE X e0 e T te) (hg : VG X e0 tg G g) (hp : PE X e T → PG X tg G → PS X st (tAsg T G)) : VS X e0 st (sAsg te g) := vs_asg h hg (hp h.pe hg.pe)
theorem vs_setIx' {i : Nat} {e ie : Expr} {T Ti : TE} {te tix : TEd} (h : VE X e0 e T te) (h' : VE X e0 ie Ti tix) (hp : PE X e T → PE X ie Ti → PS X st (tAsg T (gSub (tVar i) Ti rSetL))) : VS X e0 st (sSetIx i tix te) := vs_setIx h h' (hp h.pe h'.pe)
theorem vs_aug' {i : Nat} {e : Expr} {op : Operator} {T : TE} {te : TEd} {R : R2} {d : R2d} (ho : VOp X (inplaceOp op) R d) (h : VE X e0 e T te) (hp : PE X e T → PIp X op R → PS X st (tAug i T R)) : VS X e0 st (sAug i d te) := vs_aug ho h (hp h.pe)
theorem vi_enum' {a e : Expr} {T : TE} {t : TEd} {tpos : Pos} {elts : List Expr} {kk : Nat} (h : VE X e0 a T t) (hp : PE X a T → PI X (.Tuple elts kk tpos) e (iEnum X.K (tCons T tNil))) : VI X e0 (.Tuple elts kk tpos) e (iEnum X.K (tCons T tNil)) (iEn t) := vi_enum h (hp h.pe)
theorem vi_zip' {a b e : Expr} {T U : TE} {t u : TEd} {tpos : Pos} {elts : List Expr} {kk : Nat} (h : VE X e0 a T t) (h' : VE X e0 b U u) (hp : PE X a T → PE X b U → PI X (.Tuple elts kk tpos) e (iZip X.K (tCons T (tCons U tNil)))) : VI X e0 (.Tuple elts kk tpos) e (iZip X.K (tCons T (tCons U tNil))) (iZp t u) := vi_zip h h' (hp h.pe h'.pe)
/-! ### chains -/
theorem chain_core {a b c : Expr} {f f' : Value → Value → Sem Value} {R R' : R2} {d d' : R2d} {Ta Tb Tc : TE} {ta tb tc : TEd} (ho : VOp X f R d) (ho' : VOp X f' R' d') (ha : VE X e0 a Ta ta) (hb : VE X e0 b Tb tb) (hc : VE X e0 c Tc tc) :
    ∀ (s : Hs) (σ : St) (ρ : DEnv) (P : DK) (Q : VK), Rep X.K e0 s σ ρ → eChain d d' ta tb tc ρ P →
      (∀ s' k v x, Grow s s' → RK X.K s.h s' k v x → P k x → Q v s'.h) → tChain R R' Ta Tb Tc σ s.h Q := by
  intro s σ ρ P Q rp t k
  refine ha.run s σ ρ _ _ rp t fun s1 k1 v1 x1 g1 r1 t1 => ?_
  have rp1 := rp.grow g1
  refine hb.run s1 σ ρ _ _ rp1 t1 fun s2 k2 v2 x2 g2 r2 t2 => ?_
  have rp2 := rp1.grow g2
  refine ho.run s2 v1 v2 x1 x2 _ _ rp2.self ((r1.rq rp1.rh).mono g2.f g2.h) (r2.rq rp2.rh) t2 fun s3 k3 v3 x3 g3 r3 t3 => ?_
  have rp3 := rp2.grow g3
  cases x3 <;> first | exact t3.elim | skip
  rename_i bb
  refine ⟨bb, (r3.rq rp3.rh).bl, ?_⟩
  have g13 := g1.trans (g2.trans g3)
  cases bb with
  | true =>
    refine iteT ?_
    refine hc.run s3 σ ρ _ (fun w H => R' v2 w H Q) rp3 t3 fun s4 k4 v4 x4 g4 r4 t4 => ?_
    have rp4 := rp3.grow g4
    refine ho'.run s4 v2 v4 x2 x4 P Q rp4.self (((r2.rq rp2.rh).mono g3.f g3.h).mono g4.f g4.h) (r4.rq rp4.rh) t4 fun s5 k5 v5 x5 g5 r5 t5 => ?_
    have g := g13.trans g4
    exact k s5 k5 v5 x5 (g.trans g5) (r5.base fun a h => none_of_same g.h h) t5
  | false =>
    refine iteF ?_
    exact k s3 .fz _ _ g13 (.bl _) t3
theorem ve_chain {a b c : Expr} {op op' : CmpOp} {R R' : R2} {d d' : R2d} {Ta Tb Tc : TE} {ta tb tc : TEd} (ho : VOp X (compareOp op) R d) (ho' : VOp X (compareOp op') R' d') (ha : VE X e0 a Ta ta) (hb : VE X e0 b Tb tb) (hc : VE X e0 c Tc tc)
    (hm : lastMarks [op, op'] [b, c] = false := by with_unfolding_all rfl) : VE X e0 (.Compare a [op, op'] [b, c] pos) (tChain R R' Ta Tb Tc) (eChain d d' ta tb tc) :=
  ⟨pe_chain ho.pe ho'.pe ha.pe hb.pe hc.pe hm, chain_core ho ho' ha hb hc⟩
theorem vt_chain {a b c : Expr} {op op' : CmpOp} {R R' : R2} {d d' : R2d} {Ta Tb Tc : TE} {ta tb tc : TEd} (ho : VOp X (compareOp op) R d) (ho' : VOp X (compareOp op') R' d') (ha : VE X e0 a Ta ta) (hb : VE X e0 b Tb tb) (hc : VE X e0 c Tc tc)
    (hm : lastMarks [op, op'] [b, c] = false := by with_unfolding_all rfl) : VT X e0 (.Compare a [op, op'] [b, c] pos) (tTest (tChain R R' Ta Tb Tc)) (tB' (eChain d d' ta tb tc)) :=
  ⟨pt_chain ho.pe ho'.pe ha.pe hb.pe hc.pe hm, tst_core (chain_core ho ho' ha hb hc)⟩
/-! ### in -/
def Dt.toV : Dt → V
  | .non => .non
  | .bl b => .bl b
  | .int i => .int i
  | .str x => .str x
  | _ => .ref 0
def Dt.flat : Dt → Bool
  | .non => true
  | .bl _ => true
  | .int _ => true
  | .str _ => true
  | _ => false
theorem flat_toV : ∀ {x : Dt}, x.flat = true → flatV x.toV = true
  | .non, _ => rfl
  | .bl _, _ => rfl
  | .int _, _ => rfl
  | .str _, _ => rfl
theorem Rp.flat {K : PySem.W.Frag} {F : Hp} {v : V} {x : Dt} (r : Rp K F v x) (h : x.flat = true) : v = x.toV := by
  cases r <;> first | rfl | cases h
theorem Rq.flat {K : PySem.W.Frag} {F H : Hp} {v : V} {x : Dt} (r : Rq K F H v x) (h : x.flat = true) : v = x.toV := by
  rcases r with r | ⟨a, xs, ds, e1, e2, h', r⟩ | ⟨a, kvs, ds, e1, e2, h', r⟩
  · exact r.flat h
  · subst e2; cases h
  · subst e2; cases h
theorem RpL.flat {K : PySem.W.Frag} {F : Hp} : ∀ {vs : List V} {ds : List Dt}, RpL K F vs ds → ds.all Dt.flat = true → vs = ds.map Dt.toV ∧ vs.all flatV = true
  | _, _, .nil, _ => ⟨rfl, rfl⟩
  | _, _, .cons r t, h => by
    rw [List.all_cons, Bool.and_eq_true] at h
    obtain ⟨h1, h2⟩ := RpL.flat t h.2
    rw [List.map_cons, List.all_cons, h2, h1, r.flat h.1, flat_toV h.1]
    exact ⟨rfl, rfl⟩
def inD (x : Dt) (ds : List Dt) : Bool := inV x.toV (ds.map Dt.toV)
def dIn (n : Bool) : R2d := fun x y P => match y with
  | .lst ds => x.flat = true ∧ ds.all Dt.flat = true ∧ P .fz (.bl (if n then !inD x ds else inD x ds))
  | .tup ds => x.flat = true ∧ ds.all Dt.flat = true ∧ P .fz (.bl (if n then !inD x ds else inD x ds))
  | _ => False
theorem in_core {n : Bool} {f : Value → Value → Sem Value} (h : OpR X f (rIn X.K n)) : VOp X f (rIn X.K n) (dIn n) := by
  refine ⟨h, fun s v u x y P Q gr q1 q2 d k => ?_⟩
  have fh := gr.fg.trans gr.gh
  cases y <;> first | exact d.elim | skip
  · rename_i ds
    obtain ⟨h1, h2, d⟩ := d
    obtain ⟨a, xs, rfl, hx, r⟩ := Rq.tup fh q2
    obtain ⟨e1, e2⟩ := r.flat h2
    have e3 := q1.flat h1
    subst e3
    refine ⟨a, xs, rfl, .inr (.inl (.inl hx)), flat_toV h1, e2, ?_⟩
    rw [e1]
    exact k s .fz _ _ gr (.bl _) d
  · rename_i ds
    obtain ⟨h1, h2, d⟩ := d
    obtain ⟨a, xs, rfl, hx, r⟩ := Rq.lst fh q2
    obtain ⟨e1, e2⟩ := r.flat h2
    have e3 := q1.flat h1
    subst e3
    refine ⟨a, xs, rfl, .inl hx, flat_toV h1, e2, ?_⟩
    rw [e1]
    exact k s .fz _ _ gr (.bl _) d
theorem vo_in : VOp X (compareOp .In) (rIn X.K false) (dIn false) := in_core op_in_seq
theorem vo_notin : VOp X (compareOp .NotIn) (rIn X.K true) (dIn true) := in_core op_notIn_seq
/-! ### isinstance of a built-in class -/
def Dt.isT (x : Dt) (n : String) : Option Bool := match x with
  | .non => kitB "NoneType" n
  | .bl _ => kitB "bool" n
  | .int _ => kitB "int" n
  | .str _ => kitB "str" n
  | .tup _ => kitB "tuple" n
  | .lst _ => kitB "list" n
  | .dct _ => kitB "dict" n
  | .obj _ _ => none
def optB (o : Option Bool) (P : DK) : Prop := match o with
  | some b => P .fz (.bl b)
  | none => False
def eIsi (n : String) (t : TEd) : TEd := fun ρ P => t ρ fun _ x => optB (x.isT n) P
theorem ve_isi {n : String} {a e : Expr} {T : TE} {t : TEd} (h : VE X e0 a T t) (hp : PE X a T → PE X e (tCB (rIsi X.K) (tCons T (tCons (tC (.ty n)) tNil)))) : VE X e0 e (tCB (rIsi X.K) (tCons T (tCons (tC (.ty n)) tNil))) (eIsi n t) := by
  refine ⟨hp h.pe, fun s σ ρ P Q rp t k => ?_⟩
  refine h.run s σ ρ _ (fun x H1 => rIsi X.K [x, .ty n] H1 Q) rp t fun s1 k1 v1 x1 g1 r1 t1 => ?_
  have q := r1.rq (rp.grow g1).rh
  have fh := g1.fg.trans g1.gh
  have fin : ∀ (ty : String), x1.isT n = kitB ty n → TyX X.K s1.h v1 (.type ty) → rIsi X.K [v1, .ty n] s1.h Q := fun ty e hty => by
    revert t1
    show (match x1.isT n with
      | some b => P .fz (.bl b)
      | none => False) → _
    rw [e]
    cases eb : kitB ty n with
    | none => exact fun t1 => t1.elim
    | some b => exact fun t1 => ⟨v1, .ty n, .type ty, .type n, b, rfl, .ty n, hty, kit_ty eb, k s1 .fz _ _ g1 (.bl b) t1⟩
  cases x1 with
  | non => cases q.non; exact fin _ rfl (.base .non)
  | bl b => cases q.bl; exact fin _ rfl (.base (.bl _))
  | int b => cases q.int; exact fin _ rfl (.base (.int _))
  | str b => cases q.str; exact fin _ rfl (.base (.str _))
  | tup ds =>
    obtain ⟨a, xs, rfl, hx, r⟩ := Rq.tup fh q
    exact fin _ rfl (.base (.tup hx))
  | lst ds =>
    obtain ⟨a, xs, rfl, hx, r⟩ := Rq.lst fh q
    rcases hx with (hx | ⟨o, hx⟩) | ⟨o, its, n, hk, hc, _⟩
    · exact fin _ rfl (.base (.lst hx))
    · exact fin _ rfl (.base (.frz hx))
    · exact fin _ rfl (.kList hk hc)
  | dct ds =>
    rcases q with q | ⟨a, xs, ds', e1, e2, h', r⟩ | ⟨a, kvs, ds', e1, e2, h', r⟩
    · cases q with
      | dct h' r => exact fin _ rfl (.base (.dK (fh _ _ h')))
    · cases e2
    · subst e1; exact fin _ rfl (.base (.dK h'))
  | obj C fs => exact t1.elim
/-! ### more built-in functions -/
def bAbs : List (Kd × Dt) → DK → Prop := fun as P => match as with
  | [(_, .int i)] => P .fz (.int (if i < 0 then -i else i))
  | _ => False
def rAbsD : List V → Hp → VK → Prop := fun xs H Q => ∃ i, xs = [.int i] ∧ Q (.int (if i < 0 then -i else i)) H
theorem vc_abs : VCall X (.builtin "abs") rAbsD bAbs := by
  refine ⟨call_abs, fun s0 s vs as P Q g ar d k => ?_⟩
  match as, ar, d with
  | [(_, .int i)], ar, d => exact ⟨i, ar.int1, k s .fz _ _ g (.int _) d⟩
def bMax2 : List (Kd × Dt) → DK → Prop := fun as P => match as with
  | [(_, .int i), (_, .int j)] => P .fz (.int (if j > i then j else i))
  | _ => False
def rMax2D : List V → Hp → VK → Prop := fun xs H Q => ∃ i j, xs = [.int i, .int j] ∧ Q (.int (if j > i then j else i)) H
theorem vc_max2 (hc : X.calm = true) : VCall X (.builtin "max") rMax2D bMax2 := by
  refine ⟨call_max2 hc, fun s0 s vs as P Q g ar d k => ?_⟩
  match as, ar, d with
  | [(_, .int i), (_, .int j)], ar, d =>
    obtain ⟨v, u, rfl, q1, q2⟩ := ar.two
    rw [q1.int, q2.int]
    exact ⟨i, j, rfl, k s .fz _ _ g (.int _) d⟩
def bMin2 : List (Kd × Dt) → DK → Prop := fun as P => match as with
  | [(_, .int i), (_, .int j)] => P .fz (.int (if j < i then j else i))
  | _ => False
def rMin2D : List V → Hp → VK → Prop := fun xs H Q => ∃ i j, xs = [.int i, .int j] ∧ Q (.int (if j < i then j else i)) H
theorem vc_min2 (hc : X.calm = true) : VCall X (.builtin "min") rMin2D bMin2 := by
  refine ⟨call_min2 hc, fun s0 s vs as P Q g ar d k => ?_⟩
  match as, ar, d with
  | [(_, .int i), (_, .int j)], ar, d =>
    obtain ⟨v, u, rfl, q1, q2⟩ := ar.two
    rw [q1.int, q2.int]
    exact ⟨i, j, rfl, k s .fz _ _ g (.int _) d⟩
/-- lists of ints -/
theorem RpL.to_ints {K : PySem.W.Frag} {F : Hp} {vs : List V} {ds : List Dt} {ns : List Int} (r : RpL K F vs ds) (e : ds = ns.map Dt.int) : vs = ns.map V.int := by
  subst e; exact r.ints_inv
def bSorted : List (Kd × Dt) → DK → Prop := fun as P => match as with
  | [(_, .lst ds)] => ∃ ns : List Int, ds = ns.map Dt.int ∧ ∀ ms : List Int, ms.Perm ns → ms.Pairwise (· ≤ ·) → P .fr (.lst (ms.map Dt.int))
  | _ => False
theorem vc_sorted : VCall X (.builtin "sorted") (rSortedI X.K) bSorted := by
  refine ⟨cr_sortedI, fun s0 s vs as P Q g ar d k => ?_⟩
  match as, ar, d with
  | [(_, .lst ds)], ar, d =>
    obtain ⟨ns, e, d⟩ := d
    obtain ⟨v, rfl, q⟩ := ar.one
    obtain ⟨a, xs, rfl, h, r⟩ := Rq.lst (g.fg.trans g.gh) q
    have e2 := r.to_ints e
    subst e2
    refine ⟨a, ns, rfl, h, fun ms p hp ho hn => ?_⟩
    obtain ⟨gg, rr⟩ := fresh_new (ds := ms.map Dt.int) g hn (RpL.of_ints ms) rfl
    exact k _ .fr _ _ gg rr (d ms hp ho)
def bSum : List (Kd × Dt) → DK → Prop := fun as P => match as with
  | [(_, .lst ds)] => ∃ ns : List Int, ds = ns.map Dt.int ∧ P .fz (.int ns.sum)
  | _ => False
theorem vc_sum (hc : X.calm = true) : VCall X (.builtin "sum") (rSum X.K) bSum := by
  refine ⟨cr_sum hc, fun s0 s vs as P Q g ar d k => ?_⟩
  match as, ar, d with
  | [(_, .lst ds)], ar, d =>
    obtain ⟨ns, e, d⟩ := d
    obtain ⟨v, rfl, q⟩ := ar.one
    obtain ⟨a, xs, rfl, h, r⟩ := Rq.lst (g.fg.trans g.gh) q
    have e2 := r.to_ints e
    subst e2
    exact ⟨a, ns, rfl, h, k s .fz _ _ g (.int _) d⟩
/-! ### assignment of a comprehension -/
theorem vs_setLcF {i : Nat} {y : Str} {py spos : Pos} {tg elt iter : Expr} {ifs : List Expr} {scope : Scope} {own : List (Str × Nat)} {w : TI} {it : TId} {T : TG} {g : TGd} {C : TT} {tt : TTd} {E : TE} {te : TEd} (fr : Bool) (hc : X.calm = true) (hN : X.N.Nodup) (hy : X.N[i]? = some y) (hyl : X.env.scope.names.lookup y = some .local)
    (hsw : swapsWith (.ListComp elt [⟨tg, iter, ifs, 0⟩] scope pos) (some (.Name y py)) spos.line X.env = pure true) (hi : VI X e0 tg iter w it) (ok : BlkOk X.N X.env.scope scope own) (ho : OwnTg T (own.map (·.2)))
    (hg : ∀ (s : Shared) (H : Hp) (Ca : Addr) (cl : List (Str × Addr)) (fp : List Addr), VG (X.blk s H scope (compEnvC scope cl Ca X.env) fp) e0 tg T g)
    (ht : ∀ (s : Shared) (H : Hp) (Ca : Addr) (cl : List (Str × Addr)) (fp : List Addr), PTs (X.blk s H scope (compEnvC scope cl Ca X.env) fp) ifs C)
    (rc : ∀ (s : Hs) (σ : St) (ρ : DEnv) (P : Bool → Prop) (Q : Bool → Hp → Prop), Rep X.K e0 s σ ρ → tt ρ P → (∀ s' b, Grow s s' → P b → Q b s'.h) → C σ s.h Q)
    (he : ∀ (s : Shared) (H : Hp) (Ca : Addr) (cl : List (Str × Addr)) (fp : List Addr), VE (X.blk s H scope (compEnvC scope cl Ca X.env) fp) e0 elt E te)
    (hs : ∀ x, foldedSetIterable iter X.env x = pure x := by intro _; rfl) :
    VS X e0 (.Assign [.Name y py] (.ListComp elt [⟨tg, iter, ifs, 0⟩] scope pos) spos) (if fr then sSetF i (eLc it g tt te (own.map (·.2))) else sSet i (eLc it g tt te (own.map (·.2)))) := by
  have ps := ps_setLc (spos := spos) hc hN hy hyl hsw hi.pe ok (fun s H Ca cl fp => (hg s H Ca cl fp).pe) ht (fun s H Ca cl fp => (he s H Ca cl fp).pe) hs
  have ve : VE X e0 (.ListComp elt [⟨tg, iter, ifs, 0⟩] scope pos) (tLc w T C E (own.map (·.2))) (eLc it g tt te (own.map (·.2))) := ve_lc hc hN hi ok ho hg ht rc he hs
  cases fr with
  | true => exact vs_setF ve ps
  | false => exact vs_set ve ps
/-- no test; one test -/
theorem no_tst : ∀ (K : PySem.W.Frag) (s : Hs) (σ : St) (ρ : DEnv) (P : Bool → Prop) (Q : Bool → Hp → Prop), Rep K e0 s σ ρ → (fun (_ : DEnv) (P : Bool → Prop) => P true) ρ P → (∀ s' b, Grow s s' → P b → Q b s'.h) → tYes σ s.h Q :=
  fun K s σ ρ P Q rp t k => k s true (Grow.refl rp.rh) t
def bYes : TTd := fun _ P => P true
/-! ### defs known by what they promise -/
def Has (P : Program) (w : World) (K : PySem.W.Frag) (mg : Str → Option Value) (base : Heap) (k : Nat) (x : Str) (ps : List Str) (S : DSp) : Prop :=
  ∃ (f : Addr) (fd : FuncData), FnOk P w K mg base CX0 k f fd ps (spL K S) ∧ mg x = some (.ref f) ∧ PySem.W.keepIn K (.ref f) = true ∧ Binds K fd ps []
theorem ve_callH {k : Nat} {ps : List Str} {S : DSp} {x : Str} {p : Pos} {e : Expr} {es : List Expr} {Ta : TA} {t : TAd} (h : Has X.prog X.w X.K X.mg X.base k x ps S) (hr : Room k X.A) (hg : Gl X x)
    (ha : VA X e0 (e :: es) Ta t) (hdb : (x == ("__debug__" : Str)) = false := by decide) (he : starEach (e :: es) X.env = (false, eval e X.env) :: starEach es X.env := by rfl) (hpl : (backTo pos (starEach es X.env)).any (·.1) = false := by rfl) :
    VE X e0 (.Call (.Name x p) (e :: es) [] pos) (tCall (spL X.K S) [] E0 Ta) (eCall S t) := by
  obtain ⟨f, fd, F, hm, hk, hb⟩ := h
  exact ve_call F hr hg hm hk hb ha hdb he hpl
end
section
variable {P : Program} {w : World} {K : PySem.W.Frag} {mg : Str → Option Value} {base : Heap}
theorem Has.mono {j k : Nat} {x : Str} {ps : List Str} {S : DSp} (h : Has P w K mg base j x ps S) (hj : j ≤ k) : Has P w K mg base k x ps S := by
  obtain ⟨f, fd, F, r⟩ := h
  exact ⟨f, fd, F.mono hj, r⟩
/-- a weaker promise -/
theorem Has.imp {k : Nat} {x : Str} {ps : List Str} {S S' : DSp} (h : Has P w K mg base k x ps S) (hS : ∀ as P, S' as P → S as P) : Has P w K mg base k x ps S' := by
  obtain ⟨f, fd, F, r⟩ := h
  exact ⟨f, fd, F.imp fun vs H Q E ⟨F, as, P, h1, h2, h3, h4⟩ => ⟨F, as, P, h1, h2, hS as P h3, h4⟩, r⟩
/-- a def of the text as it stands -/
structure Df (K : PySem.W.Frag) (mg : Str → Option Value) (x : Str) (st : Stmt) (ps : List Str) : Prop where
  ex : ∃ (f : Addr) (fd : FuncData), Fun K x x st f fd ∧ mg x = some (.ref f) ∧ Binds K fd ps []
theorem has_ok {x : Str} {st : Stmt} {N ps : List Str} {k : Nat} {S : DSp} {t : TSd} (d : Df K mg x st ps) (Sc : FnScope N ps (defScope st)) (hp : ps.length ≤ N.length)
    (hb : ∀ (f : Addr) (cdv : Value) (A : Around) (outer : List Env) (s : Shared) (H : Hp) (E : XK) (e0 : Hs), Room k (A.deeper (envOfC x (defScope st) s.heap.objs.size f cdv)) →
      VSs (cxOf CX0 P w K mg base N x (defScope st) f cdv A outer s H E).nox e0 (defBody st) t)
    (len : ∀ as P, S as P → as.length = ps.length) (h : ∀ as P, S as P → t { nx := fun _ => P .fz .non, rt := fun k x => k.st = true ∧ P k x } (startD N.length as)) : Has P w K mg base (k + 1) x ps S := by
  obtain ⟨f, fd, F, hm, bi⟩ := d.ex
  exact ⟨f, fd, fn_ok F Sc len (fun cdv A outer s H E e0 hr => hb f cdv A outer s H E e0 hr) hp h, hm, F.kp, bi⟩
end
end Tq
set_option Elab.async false
set_option linter.all false
set_option autoImplicit false
set_option maxRecDepth 100000
set_option maxHeartbeats 4000000
namespace Tq
open PySem PySem.Spec L2
open PyProof.Rows hiding St
section
variable {X : Cx} {e0 : Hs} {pos : Pos} {st : Stmt}
abbrev dFdivW : R2d := dI CDivW fun i j => .int (i / j)
theorem vo_fdivW : VOp X (binaryOp .FloorDiv) (rI CDivW fun i j => .int (i / j)) dFdivW := vop_i op_fdivW fun _ _ _ => .int _
abbrev dMulW : R2d := dI CMulW fun i j => .int (i * j)
theorem vo_mulW : VOp X (binaryOp .Mult) (rI CMulW fun i j => .int (i * j)) dMulW := vop_i op_mulW fun _ _ _ => .int _
theorem RpL.rep {K : PySem.W.Frag} {F : Hp} {vs : List V} {xs : List Dt} (r : RpL K F vs xs) : ∀ k : Nat, RpL K F (List.replicate k vs).flatten (List.replicate k xs).flatten
  | 0 => .nil
  | k + 1 => by
    rw [List.replicate_succ, List.replicate_succ, List.flatten_cons, List.flatten_cons]
    exact r.app (RpL.rep r k)
/-- a list that was just made, times an int -/
theorem ve_rep {a b : Expr} {T U : TE} {t u : TEd} (ha : VE X e0 a T t) (hb : VE X e0 b U u) : VE X e0 (.BinOp a .Mult b pos) (tOp rRep T U) (fun ρ P => t ρ fun k x => u ρ fun _ y => k = .fr ∧ dRep x y P) := by
  refine ⟨pe_op op_rep ha.pe hb.pe, fun s σ ρ P Q rp t k => ?_⟩
  refine ha.run s σ ρ _ _ rp t fun s1 k1 v1 x1 g1 r1 t1 => ?_
  have rp1 := rp.grow g1
  refine hb.run s1 σ ρ _ _ rp1 t1 fun s2 k2 v2 x2 g2 r2 t2 => ?_
  have rp2 := rp1.grow g2
  obtain ⟨e1, t2⟩ := t2
  subst e1
  have r1' := r1.grow g2
  cases x1 <;> first | exact t2.elim | skip
  rename_i ds
  cases x2 <;> first | exact t2.elim | skip
  rename_i n
  obtain ⟨l, rfl, b, gn, c⟩ := r1'
  obtain ⟨xs, h, r⟩ := c.lst
  obtain ⟨h1, h2, h3, t2⟩ := t2
  refine ⟨l, n, xs, rfl, (r2.rq rp2.rh).int, h, h1, h2, by rw [r.length, sizeLine_eq]; exact h3, fun p hp => ?_⟩
  obtain ⟨gg, rr⟩ := fresh_new (g1.trans g2) hp (r.rep n.toNat) rfl
  exact k _ .fr _ _ gg rr t2
def eRep (t u : TEd) : TEd := fun ρ P => t ρ fun k x => u ρ fun _ y => k = .fr ∧ dRep x y P
/-! ### comprehensions, without and with one test -/
section
variable {tg elt iter c y' : Expr} {scope : Scope} {own : List (Str × Nat)} {vs : List Nat} {w : TI} {it : TId} {T : TG} {g : TGd} {C : TT} {tt : TTd} {E : TE} {te : TEd}
theorem ve_lc0 (hc : X.calm = true) (hN : X.N.Nodup) (hi : VI X e0 tg iter w it) (ok : BlkOk X.N X.env.scope scope own) (ho : OwnTg T (own.map (·.2)))
    (hg : ∀ (s : Shared) (H : Hp) (Ca : Addr) (cl : List (Str × Addr)) (fp : List Addr), VG (X.blk s H scope (compEnvC scope cl Ca X.env) fp) e0 tg T g)
    (he : ∀ (s : Shared) (H : Hp) (Ca : Addr) (cl : List (Str × Addr)) (fp : List Addr), VE (X.blk s H scope (compEnvC scope cl Ca X.env) fp) e0 elt E te)
    (hs : ∀ x, foldedSetIterable iter X.env x = pure x := by intro _; rfl) (hvs : own.map (·.2) = vs := by rfl) :
    VE X e0 (.ListComp elt [⟨tg, iter, [], 0⟩] scope pos) (tLc w T tYes E (own.map (·.2))) (eLc it g bYes te vs) := by
  subst hvs
  exact ve_lc hc hN hi ok ho hg (fun _ _ _ _ _ => pts_nil) (fun s σ ρ P Q rp t k => k s true (Grow.refl rp.rh) t) he hs
theorem ve_lc1 (hc : X.calm = true) (hN : X.N.Nodup) (hi : VI X e0 tg iter w it) (ok : BlkOk X.N X.env.scope scope own) (ho : OwnTg T (own.map (·.2)))
    (hg : ∀ (s : Shared) (H : Hp) (Ca : Addr) (cl : List (Str × Addr)) (fp : List Addr), VG (X.blk s H scope (compEnvC scope cl Ca X.env) fp) e0 tg T g)
    (ht : ∀ (s : Shared) (H : Hp) (Ca : Addr) (cl : List (Str × Addr)) (fp : List Addr), VT (X.blk s H scope (compEnvC scope cl Ca X.env) fp) e0 c C tt)
    (he : ∀ (s : Shared) (H : Hp) (Ca : Addr) (cl : List (Str × Addr)) (fp : List Addr), VE (X.blk s H scope (compEnvC scope cl Ca X.env) fp) e0 elt E te)
    (hs : ∀ x, foldedSetIterable iter X.env x = pure x := by intro _; rfl) (hvs : own.map (·.2) = vs := by rfl) :
    VE X e0 (.ListComp elt [⟨tg, iter, [c], 0⟩] scope pos) (tLc w T C E (own.map (·.2))) (eLc it g tt te vs) := by
  subst hvs
  exact ve_lc hc hN hi ok ho hg (fun s H Ca cl fp => pts_one (ht s H Ca cl fp).pe) (ht X.s_0 X.H_0 0 [] []).run he hs
variable {i : Nat} {y : Str} {py spos : Pos}
theorem vs_setLc0F (hy : X.N[i]? = some y) (hN : X.N.Nodup) (hyl : X.env.scope.names.lookup y = some .local) (hc : X.calm = true)
    (hsw : swapsWith (.ListComp elt [⟨tg, iter, [], 0⟩] scope pos) (some (.Name y py)) spos.line X.env = pure true) (hi : VI X e0 tg iter w it) (ok : BlkOk X.N X.env.scope scope own) (ho : OwnTg T (own.map (·.2)))
    (hg : ∀ (s : Shared) (H : Hp) (Ca : Addr) (cl : List (Str × Addr)) (fp : List Addr), VG (X.blk s H scope (compEnvC scope cl Ca X.env) fp) e0 tg T g)
    (he : ∀ (s : Shared) (H : Hp) (Ca : Addr) (cl : List (Str × Addr)) (fp : List Addr), VE (X.blk s H scope (compEnvC scope cl Ca X.env) fp) e0 elt E te)
    (hs : ∀ x, foldedSetIterable iter X.env x = pure x := by intro _; rfl) (hvs : own.map (·.2) = vs := by rfl) :
    VS X e0 (.Assign [.Name y py] (.ListComp elt [⟨tg, iter, [], 0⟩] scope pos) spos) (sSetF i (eLc it g bYes te vs)) := by
  subst hvs
  exact vs_setLcF true hc hN hy hyl hsw hi ok ho hg (fun _ _ _ _ _ => pts_nil) (fun s σ ρ P Q rp t k => k s true (Grow.refl rp.rh) t) he hs
theorem vs_setLc0 (hy : X.N[i]? = some y) (hN : X.N.Nodup) (hyl : X.env.scope.names.lookup y = some .local) (hc : X.calm = true)
    (hsw : swapsWith (.ListComp elt [⟨tg, iter, [], 0⟩] scope pos) (some (.Name y py)) spos.line X.env = pure true) (hi : VI X e0 tg iter w it) (ok : BlkOk X.N X.env.scope scope own) (ho : OwnTg T (own.map (·.2)))
    (hg : ∀ (s : Shared) (H : Hp) (Ca : Addr) (cl : List (Str × Addr)) (fp : List Addr), VG (X.blk s H scope (compEnvC scope cl Ca X.env) fp) e0 tg T g)
    (he : ∀ (s : Shared) (H : Hp) (Ca : Addr) (cl : List (Str × Addr)) (fp : List Addr), VE (X.blk s H scope (compEnvC scope cl Ca X.env) fp) e0 elt E te)
    (hs : ∀ x, foldedSetIterable iter X.env x = pure x := by intro _; rfl) (hvs : own.map (·.2) = vs := by rfl) :
    VS X e0 (.Assign [.Name y py] (.ListComp elt [⟨tg, iter, [], 0⟩] scope pos) spos) (sSet i (eLc it g bYes te vs)) := by
  subst hvs
  exact vs_setLcF false hc hN hy hyl hsw hi ok ho hg (fun _ _ _ _ _ => pts_nil) (fun s σ ρ P Q rp t k => k s true (Grow.refl rp.rh) t) he hs
theorem vs_setLc1F (hy : X.N[i]? = some y) (hN : X.N.Nodup) (hyl : X.env.scope.names.lookup y = some .local) (hc : X.calm = true)
    (hsw : swapsWith (.ListComp elt [⟨tg, iter, [c], 0⟩] scope pos) (some (.Name y py)) spos.line X.env = pure true) (hi : VI X e0 tg iter w it) (ok : BlkOk X.N X.env.scope scope own) (ho : OwnTg T (own.map (·.2)))
    (hg : ∀ (s : Shared) (H : Hp) (Ca : Addr) (cl : List (Str × Addr)) (fp : List Addr), VG (X.blk s H scope (compEnvC scope cl Ca X.env) fp) e0 tg T g)
    (ht : ∀ (s : Shared) (H : Hp) (Ca : Addr) (cl : List (Str × Addr)) (fp : List Addr), VT (X.blk s H scope (compEnvC scope cl Ca X.env) fp) e0 c C tt)
    (he : ∀ (s : Shared) (H : Hp) (Ca : Addr) (cl : List (Str × Addr)) (fp : List Addr), VE (X.blk s H scope (compEnvC scope cl Ca X.env) fp) e0 elt E te)
    (hs : ∀ x, foldedSetIterable iter X.env x = pure x := by intro _; rfl) (hvs : own.map (·.2) = vs := by rfl) :
    VS X e0 (.Assign [.Name y py] (.ListComp elt [⟨tg, iter, [c], 0⟩] scope pos) spos) (sSetF i (eLc it g tt te vs)) := by
  subst hvs
  exact vs_setLcF true hc hN hy hyl hsw hi ok ho hg (fun s H Ca cl fp => pts_one (ht s H Ca cl fp).pe) (ht X.s_0 X.H_0 0 [] []).run he hs
theorem vs_setLc1 (hy : X.N[i]? = some y) (hN : X.N.Nodup) (hyl : X.env.scope.names.lookup y = some .local) (hc : X.calm = true)
    (hsw : swapsWith (.ListComp elt [⟨tg, iter, [c], 0⟩] scope pos) (some (.Name y py)) spos.line X.env = pure true) (hi : VI X e0 tg iter w it) (ok : BlkOk X.N X.env.scope scope own) (ho : OwnTg T (own.map (·.2)))
    (hg : ∀ (s : Shared) (H : Hp) (Ca : Addr) (cl : List (Str × Addr)) (fp : List Addr), VG (X.blk s H scope (compEnvC scope cl Ca X.env) fp) e0 tg T g)
    (ht : ∀ (s : Shared) (H : Hp) (Ca : Addr) (cl : List (Str × Addr)) (fp : List Addr), VT (X.blk s H scope (compEnvC scope cl Ca X.env) fp) e0 c C tt)
    (he : ∀ (s : Shared) (H : Hp) (Ca : Addr) (cl : List (Str × Addr)) (fp : List Addr), VE (X.blk s H scope (compEnvC scope cl Ca X.env) fp) e0 elt E te)
    (hs : ∀ x, foldedSetIterable iter X.env x = pure x := by intro _; rfl) (hvs : own.map (·.2) = vs := by rfl) :
    VS X e0 (.Assign [.Name y py] (.ListComp elt [⟨tg, iter, [c], 0⟩] scope pos) spos) (sSet i (eLc it g tt te vs)) := by
  subst hvs
  exact vs_setLcF false hc hN hy hyl hsw hi ok ho hg (fun s H Ca cl fp => pts_one (ht s H Ca cl fp).pe) (ht X.s_0 X.H_0 0 [] []).run he hs
end
end
/-! ### the end: a law's own def -/
theorem df_mk {K : PySem.W.Frag} {mg : Str → Option Value} {h : Heap} {x : Str} {st : Stmt} {ps : List Str} {f : Addr} {oc : Value} {od an : Option Addr} {osl : Array (Option Value)} {kV doc pm cdv ct : Value} (X : K.In h) (G : h.Ns mainGlobals mg)
    (a : PySem.W.nsIn K mainGlobals x = some (some (.ref f))) (l : K.lookup f = some ⟨oc, od, .func (PySem.W.fnOf x x (defArgs st) (defBody st) (defScope st) .none kV doc pm an cdv ct), osl⟩)
    (c : PySem.W.codeIn K cdv x = true) (k : PySem.W.keepIn K (.ref f) = true)
    (hb : ∀ (kV doc pm : Value) (an : Option Addr) (cdv ct : Value) (us : List Value), us.length = ps.length → bindArgs (PySem.W.fnOf x x (defArgs st) (defBody st) (defScope st) .none kV doc pm an cdv ct) ⟨us, []⟩ = pure (ps.zip us)) : Df K mg x st ps :=
  ⟨f, _, fun_mk l c k, PySem.W.mg_of X G a, (fun_mk (st := st) l c k).binds hb⟩
/-- what a law promises: True of every list of at most 63 ints -/
def spLaw : DSp := fun as P => ∃ ns : List Int, as = [(.rd, .lst (ns.map .int))] ∧ ns.length ≤ 63 ∧ P .fz (.bl true)
/-- .. as the library asks it -/
def spL2 (K : PySem.W.Frag) : Sp := fun vs H Q _ => ∃ (a : Addr) (ns : List Int), vs = [.ref a] ∧ SqL K H a (ns.map V.int) ∧ ns.length ≤ 63 ∧ ∀ H', Q (.bl true) H'
theorem law_imp {K : PySem.W.Frag} {vs : List V} {H : Hp} {Q : VK} {E : XK} (h : spL2 K vs H Q E) : spL K spLaw vs H Q E := by
  obtain ⟨a, ns, rfl, hr, hl, q⟩ := h
  refine ⟨fun _ => none, [(.rd, .lst (ns.map .int))], fun k x => k = .fz ∧ x = .bl true, (fun _ _ z => by cases z), .rd (.inr (.inl ⟨a, ns.map V.int, _, rfl, rfl, hr, RpL.of_ints ns⟩)) .nil, ⟨ns, rfl, hl, rfl, rfl⟩, fun s k v x b r e => ?_⟩
  obtain ⟨rfl, rfl⟩ := e
  cases r
  exact q _
end Tq
set_option Elab.async false
set_option linter.all false
set_option autoImplicit false
set_option maxRecDepth 100000
set_option maxHeartbeats 4000000
namespace Tq
open PySem PySem.Spec L2
open PyProof.Rows hiding St
/-! ### the same rules with the written part K named (so that a comprehension's block has its reading told outside) -/
section
variable {X : Cx} {e0 : Hs} {pos : Pos} {K : PySem.W.Frag} (hK : X.K = K)
include hK
theorem vo_addK : VOp X (binaryOp .Add) (rAddD K) dAdd := by subst hK; exact vo_add
theorem vo_eqK (hu : X.A.units + 64 < cLine) : VOp X (compareOp .Eq) (fun x y H Q => rEq x y H Q ∨ rEqD K x y H Q) dEq := by subst hK; exact vo_eq hu
theorem vo_neK (hu : X.A.units + 64 < cLine) : VOp X (compareOp .NotEq) (fun x y H Q => rNe x y H Q ∨ rNeD K x y H Q) dNe := by subst hK; exact vo_ne hu
theorem vo_inK : VOp X (compareOp .In) (rIn K false) (dIn false) := by subst hK; exact vo_in
theorem vo_notinK : VOp X (compareOp .NotIn) (rIn K true) (dIn true) := by subst hK; exact vo_notin
theorem vc_lenK : VCall X (.builtin "len") (rLenD K) bLen := by subst hK; exact vc_len
theorem vc_listK : VCall X (.type "list") (rListD K) bList := by subst hK; exact vc_list
theorem vc_sortedK : VCall X (.builtin "sorted") (rSortedI K) bSorted := by subst hK; exact vc_sorted
theorem vc_sumK (hc : X.calm = true) : VCall X (.builtin "sum") (rSum K) bSum := by subst hK; exact vc_sum hc
theorem ve_ixK {a b : Expr} {Ta Tb : TE} {ta tb : TEd} (ha : VE X e0 a Ta ta) (hb : VE X e0 b Tb tb) (hs : PlainIx b) : VE X e0 (.Subscript a b pos) (tOp (rIx K) Ta Tb) (eOp dIx ta tb) := by subst hK; exact ve_ix ha hb hs
theorem ve_sliceK {e : Expr} {lo hi : Option Expr} {p2 : Pos} {Ta : TE} {Tl Th : TO} {ta : TEd} {tl th : TOd} (ha : VE X e0 e Ta ta) (hl : VO X e0 lo Tl tl) (hh : VO X e0 hi Th th) : VE X e0 (.Subscript e (.Slice lo hi none p2) pos) (tSl (fun x lo hi H Q => rSlL K x lo hi H Q ∨ rSlS x lo hi H Q) Ta Tl Th) (eSl ta tl th) := by subst hK; exact ve_slice ha hl hh
theorem ve_isiK {n : String} {a e : Expr} {T : TE} {t : TEd} (h : VE X e0 a T t) (hp : PE X a T → PE X e (tCB (rIsi X.K) (tCons T (tCons (tC (.ty n)) tNil)))) : VE X e0 e (tCB (rIsi K) (tCons T (tCons (tC (.ty n)) tNil))) (eIsi n t) := by subst hK; exact ve_isi h hp
theorem ve_callHK {k : Nat} {ps : List Str} {S : DSp} {x : Str} {p : Pos} {e : Expr} {es : List Expr} {Ta : TA} {t : TAd} (h : Has X.prog X.w X.K X.mg X.base k x ps S) (hr : Room k X.A) (hg : Gl X x)
    (ha : VA X e0 (e :: es) Ta t) (hdb : (x == ("__debug__" : Str)) = false := by decide) (he : starEach (e :: es) X.env = (false, eval e X.env) :: starEach es X.env := by rfl) (hpl : (backTo pos (starEach es X.env)).any (·.1) = false := by rfl) :
    VE X e0 (.Call (.Name x p) (e :: es) [] pos) (tCall (spL K S) [] E0 Ta) (eCall S t) := by subst hK; exact ve_callH h hr hg ha hdb he hpl
theorem vi_listK {tg e : Expr} {T : TE} {t : TEd} (h : VE X e0 e T t) : VI X e0 tg e (iList K T) (iLst t) := by subst hK; exact vi_list h
theorem vi_tupK {tg e : Expr} {T : TE} {t : TEd} (h : VE X e0 e T t) : VI X e0 tg e (iTup K T) (iTp t) := by subst hK; exact vi_tup h
theorem vi_enumK {a e : Expr} {T : TE} {t : TEd} {tpos : Pos} {elts : List Expr} {kk : Nat} (h : VE X e0 a T t) (hp : PE X a T → PI X (.Tuple elts kk tpos) e (iEnum X.K (tCons T tNil))) : VI X e0 (.Tuple elts kk tpos) e (iEnum K (tCons T tNil)) (iEn t) := by subst hK; exact vi_enum' h hp
theorem vi_zipK {a b e : Expr} {T U : TE} {t u : TEd} {tpos : Pos} {elts : List Expr} {kk : Nat} (h : VE X e0 a T t) (h' : VE X e0 b U u) (hp : PE X a T → PE X b U → PI X (.Tuple elts kk tpos) e (iZip X.K (tCons T (tCons U tNil)))) : VI X e0 (.Tuple elts kk tpos) e (iZip K (tCons T (tCons U tNil))) (iZp t u) := by subst hK; exact vi_zip' h h' hp
theorem vg_tupK {es : List Expr} {k : Nat} {T : TGs} {t : TGsd} {n : Nat} (hc : X.calm = true) (h : VGs X e0 es T t) (hn : (assignEach es X.env).length = n := by rfl) (hst : (assignEach es X.env).findIdx? (·.1) = none := by rfl) : VG X e0 (.Tuple es k pos) (gTup K n T) (hTup n t) := by subst hK; exact vg_tup hc h hn hst
end
end Tq
namespace Tq
open PySem PySem.Spec L2
open PyProof.Rows hiding St
theorem atI_0 {α : Type} {a : α} {l : List α} : L2.atI (a :: l) 0 = some a := atI_nat (j := 0) rfl
theorem atI_1 {α : Type} {a b : α} {l : List α} : L2.atI (a :: b :: l) 1 = some b := atI_nat (j := 1) rfl
theorem atI_2 {α : Type} {a b c : α} {l : List α} : L2.atI (a :: b :: c :: l) 2 = some c := atI_nat (j := 2) rfl
def Dt.ty : Dt → String
  | .non => "NoneType"
  | .bl _ => "bool"
  | .int _ => "int"
  | .str _ => "str"
  | .tup _ => "tuple"
  | .lst _ => "list"
  | .dct _ => "dict"
  | .obj _ _ => "object"
def Dt.isObj : Dt → Bool
  | .obj _ _ => true
  | _ => false
theorem kitB_all : ∀ (a : String), a ∈ ["NoneType", "bool", "int", "str", "tuple", "list", "dict"] → ∀ b, b ∈ ["int", "list", "tuple", "str", "bool", "dict"] → kitB a b = some (a == b || (a == "bool" && b == "int")) := by decide +kernel
theorem isT_eq (x : Dt) (h : x.isObj = false) (b : String) (hb : b ∈ ["int", "list", "tuple", "str", "bool", "dict"]) : x.isT b = some (x.ty == b || (x.ty == "bool" && b == "int")) := by
  cases x <;> first | exact kitB_all _ (by decide) b hb | cases h
theorem isT_int_int {i : Int} : (Dt.int i).isT "int" = some true := isT_eq _ rfl _ (by decide)
theorem isT_int_bool {i : Int} : (Dt.int i).isT "bool" = some false := isT_eq _ rfl _ (by decide)
theorem isT_bl_int {i : Bool} : (Dt.bl i).isT "int" = some true := isT_eq _ rfl _ (by decide)
theorem isT_bl_bool {i : Bool} : (Dt.bl i).isT "bool" = some true := isT_eq _ rfl _ (by decide)
theorem isT_lst_list {ds : List Dt} : (Dt.lst ds).isT "list" = some true := isT_eq _ rfl _ (by decide)
theorem isT_tup_tuple {ds : List Dt} : (Dt.tup ds).isT "tuple" = some true := isT_eq _ rfl _ (by decide)
theorem isT_str_str {x : Str} : (Dt.str x).isT "str" = some true := isT_eq _ rfl _ (by decide)
theorem isT_non_int : Dt.non.isT "int" = some false := isT_eq _ rfl _ (by decide)
end Tq
namespace Tq
theorem kst_fz : Kd.fz.st = true := rfl
theorem kst_fr : Kd.fr.st = true := rfl
theorem kit_fz : Kd.fz.it = true := rfl
theorem kit_fr : Kd.fr.it = true := rfl
theorem kit_vw : Kd.vw.it = true := rfl
theorem karg_fz : Kd.fz.arg = .fz := rfl
theorem karg_fr : Kd.fr.arg = .fz := rfl
theorem karg_vw : Kd.vw.arg = .rd := rfl
theorem karg_rd : Kd.rd.arg = .rd := rfl
end Tq
set_option Elab.async false
set_option linter.all false
set_option autoImplicit false
set_option maxRecDepth 100000
set_option maxHeartbeats 4000000
namespace Tq
open PySem PySem.Spec L2
open PyProof.Rows hiding St
/-! ### arguments as a def takes them: containers to be read, the rest frozen -/
def normA : Kd × Dt → Kd × Dt
  | (_, .lst ds) => (.rd, .lst ds)
  | (_, .dct ds) => (.rd, .dct ds)
  | (_, x) => (.fz, x)
def norm : List (Kd × Dt) → List (Kd × Dt)
  | [] => []
  | a :: r => normA a :: norm r
theorem norm_length : ∀ as, (norm as).length = as.length
  | [] => rfl
  | a :: r => congrArg (· + 1) (norm_length r)
theorem ArgsR.norm {K : PySem.W.Frag} {F H : Hp} : ∀ {vs : List V} {as : List (Kd × Dt)}, ArgsR K F H vs as → ArgsR K F H vs (Tq.norm as)
  | _, _, .nil => .nil
  | _, _, .fz (x := x) r t => by
    cases x with
    | lst ds => exact .rd (.inl r) (ArgsR.norm t)
    | dct ds => exact .rd (.inl r) (ArgsR.norm t)
    | _ => exact .fz r (ArgsR.norm t)
  | _, _, .rd (x := x) r t => by
    cases x with
    | lst ds => exact .rd r (ArgsR.norm t)
    | dct ds => exact .rd r (ArgsR.norm t)
    | _ =>
      refine .fz ?_ (ArgsR.norm t)
      rcases r with r | ⟨_, _, _, _, e, _⟩ | ⟨_, _, _, _, e, _⟩
      · exact r
      · cases e
      · cases e
def eCallN (S : DSp) (t : TAd) : TEd := fun ρ P => t ρ fun as => S (norm as) P
theorem spL_norm {K : PySem.W.Frag} {S : DSp} {vs : List V} {H : Hp} {Q : VK} {E : XK} (h : spL K (fun as P => S (norm as) P) vs H Q E) : spL K S vs H Q E := by
  obtain ⟨F, as, P, h1, h2, h3, h4⟩ := h
  exact ⟨F, norm as, P, h1, h2.norm, h3, h4⟩
section
variable {X : Cx} {e0 : Hs} {pos : Pos} {K : PySem.W.Frag}
theorem ve_callN (hK : X.K = K) {k : Nat} {ps : List Str} {S : DSp} {x : Str} {p : Pos} {e : Expr} {es : List Expr} {Ta : TA} {t : TAd} (h : Has X.prog X.w X.K X.mg X.base k x ps S) (hr : Room k X.A) (hg : Gl X x)
    (ha : VA X e0 (e :: es) Ta t) (hdb : (x == ("__debug__" : Str)) = false := by decide) (he : starEach (e :: es) X.env = (false, eval e X.env) :: starEach es X.env := by rfl) (hpl : (backTo pos (starEach es X.env)).any (·.1) = false := by rfl) :
    VE X e0 (.Call (.Name x p) (e :: es) [] pos) (tCall (spL K fun as P => S (norm as) P) [] E0 Ta) (eCallN S t) := by
  subst hK
  obtain ⟨f, fd, F, hm, hk, hb⟩ := h
  have F' : FnOk X.prog X.w X.K X.mg X.base CX0 k f fd ps (spL X.K fun as P => S (norm as) P) := F.imp fun vs H Q E h => spL_norm h
  exact ve_callH ⟨f, fd, F', hm, hk, hb⟩ hr hg ha hdb he hpl
end
/-! ### sets of small whole numbers as Nat -/
theorem band_nat (a b : Nat) : Builtin.bitAnd (a : Int) (b : Int) = ((a &&& b : Nat) : Int) := by
  rw [bitAnd_pp (Int.natCast_nonneg a) (Int.natCast_nonneg b), Int.toNat_natCast, Int.toNat_natCast]
theorem bor_nat (a b : Nat) : Builtin.bitOr (a : Int) (b : Int) = ((a ||| b : Nat) : Int) := by
  rw [Bits.bitOr_pp (Int.natCast_nonneg a) (Int.natCast_nonneg b), Int.toNat_natCast, Int.toNat_natCast]
theorem bxor_nat (a b : Nat) : Builtin.bitXor (a : Int) (b : Int) = ((a ^^^ b : Nat) : Int) := by
  rw [Bits.bitXor_pp (Int.natCast_nonneg a) (Int.natCast_nonneg b), Int.toNat_natCast, Int.toNat_natCast]
theorem shl_nat (a k : Nat) : (a : Int) * 2 ^ ((k : Int).toNat) = ((a * 2 ^ k : Nat) : Int) := by
  rw [Int.toNat_natCast, Int.natCast_mul, Int.natCast_pow]; rfl
theorem shl1_nat (k : Nat) : (1 : Int) * 2 ^ ((k : Int).toNat) = ((2 ^ k : Nat) : Int) := by
  rw [Int.toNat_natCast, Int.one_mul, Int.natCast_pow]; rfl
theorem shr_nat (a k : Nat) : (a : Int) / 2 ^ ((k : Int).toNat) = ((a / 2 ^ k : Nat) : Int) := by
  rw [Int.toNat_natCast, Int.natCast_ediv, Int.natCast_pow]; rfl
theorem cpow1 {k : Nat} (h : k ≤ 1000000) : CPow 1 (k : Int) := ⟨by omega, by omega, by decide⟩
theorem cpow_nat {a k : Nat} (ha : a < 2 ^ 64) (h : k ≤ 1000000) : CPow (a : Int) (k : Int) := ⟨by omega, by omega, by rw [Int.natAbs_natCast]; exact ha⟩
abbrev nat (n : Nat) : Dt := .int (n : Int)
abbrev intsD (ns : List Int) : Dt := .lst (ns.map Dt.int)
abbrev nats (ks : List Nat) : Dt := .lst (ks.map fun (k : Nat) => .int (k : Int))
theorem dec_nat {a b : Nat} : decide ((a : Int) = (b : Int)) = decide (a = b) := by
  by_cases h : a = b
  · simp [h]
  · have : ¬ (a : Int) = (b : Int) := by omega
    simp [h, this]
theorem cdivW_pow {i : Int} {k : Nat} (h : k < 9000) : CDivW i ((2 ^ k : Nat) : Int) := by
  refine ⟨by have := Nat.two_pow_pos k; omega, ?_⟩
  rw [Int.natAbs_natCast, Nat.log2_two_pow]
  exact h
end Tq
set_option Elab.async false
set_option linter.all false
set_option autoImplicit false
set_option maxRecDepth 100000
set_option maxHeartbeats 4000000
namespace Tq
open PySem PySem.Spec L2
open PyProof.Rows hiding St
/-! ### loops over lists of a known form -/
theorem for_map {α : Type} (xs : List α) (f : α → Dt) (I : Nat → DEnv → Prop) {ρ : DEnv} {B : (Nat → DEnv → Prop) → Nat → Dt → DEnv → Prop} {Z : DEnv → Prop} (h0 : ∃ ρ', Wk ρ ρ' ∧ I 0 ρ')
    (hs : ∀ (i : Nat) (h : i < xs.length) (ρ' : DEnv), I i ρ' → B I i (f xs[i]) ρ') (hd : ∀ ρ', I xs.length ρ' → Z ρ') :
    ∃ W : Nat → DEnv → Prop, (∃ ρ', Wk ρ ρ' ∧ W 0 ρ') ∧ (∀ i x ρ', (xs.map f)[i]? = some x → W i ρ' → B W i x ρ') ∧ ∀ ρ', W (xs.map f).length ρ' → Z ρ' := by
  refine ⟨I, h0, fun i x ρ' hx hw => ?_, fun ρ' h => hd ρ' (by rw [List.length_map] at h; exact h)⟩
  rw [List.getElem?_map] at hx
  cases e : xs[i]? with
  | none => rw [e] at hx; cases hx
  | some y =>
    rw [e] at hx
    cases hx
    obtain ⟨hi, rfl⟩ := List.getElem?_eq_some_iff.mp e
    exact hs i hi ρ' hw
theorem for_list' (xs : List Dt) (I : Nat → DEnv → Prop) {ρ : DEnv} {B : (Nat → DEnv → Prop) → Nat → Dt → DEnv → Prop} {Z : DEnv → Prop} (h0 : ∃ ρ', Wk ρ ρ' ∧ I 0 ρ')
    (hs : ∀ (i : Nat) (h : i < xs.length) (ρ' : DEnv), I i ρ' → B I i xs[i] ρ') (hd : ∀ ρ', I xs.length ρ' → Z ρ') :
    ∃ W : Nat → DEnv → Prop, (∃ ρ', Wk ρ ρ' ∧ W 0 ρ') ∧ (∀ i x ρ', xs[i]? = some x → W i ρ' → B W i x ρ') ∧ ∀ ρ', W xs.length ρ' → Z ρ' := by
  refine ⟨I, h0, fun i x ρ' hx hw => ?_, hd⟩
  obtain ⟨hi, rfl⟩ := List.getElem?_eq_some_iff.mp hx
  exact hs i hi ρ' hw
theorem for_rng (lo : Int) (n : Nat) (I : Nat → DEnv → Prop) {ρ : DEnv} {B : (Nat → DEnv → Prop) → Nat → Dt → DEnv → Prop} {Z : DEnv → Prop} (h0 : ∃ ρ', Wk ρ ρ' ∧ I 0 ρ')
    (hs : ∀ (i : Nat) (h : i < n) (ρ' : DEnv), I i ρ' → B I i (.int (lo + (i : Int))) ρ') (hd : ∀ ρ', I n ρ' → Z ρ') :
    ∃ W : Nat → DEnv → Prop, (∃ ρ', Wk ρ ρ' ∧ W 0 ρ') ∧ (∀ i x ρ', (rngD lo n)[i]? = some x → W i ρ' → B W i x ρ') ∧ ∀ ρ', W (rngD lo n).length ρ' → Z ρ' := by
  refine ⟨I, h0, fun i x ρ' hx hw => ?_, fun ρ' h => hd ρ' (by rw [rngD_length] at h; exact h)⟩
  obtain ⟨hi, rfl⟩ := rngD_at hx
  exact hs i hi ρ' hw
/-- range(n): the turn's number as it is -/
theorem for_rng0 (n : Nat) (I : Nat → DEnv → Prop) {ρ : DEnv} {B : (Nat → DEnv → Prop) → Nat → Dt → DEnv → Prop} {Z : DEnv → Prop} (h0 : ∃ ρ', Wk ρ ρ' ∧ I 0 ρ')
    (hs : ∀ (i : Nat) (h : i < n) (ρ' : DEnv), I i ρ' → B I i (.int (i : Int)) ρ') (hd : ∀ ρ', I n ρ' → Z ρ') :
    ∃ W : Nat → DEnv → Prop, (∃ ρ', Wk ρ ρ' ∧ W 0 ρ') ∧ (∀ i x ρ', (rngD 0 n)[i]? = some x → W i ρ' → B W i x ρ') ∧ ∀ ρ', W (rngD 0 n).length ρ' → Z ρ' :=
  for_rng 0 n I h0 (fun i h ρ' w => by rw [Int.zero_add]; exact hs i h ρ' w) hd
theorem for_enum {α : Type} (xs : List α) (f : α → Dt) (I : Nat → DEnv → Prop) {ρ : DEnv} {B : (Nat → DEnv → Prop) → Nat → Dt → DEnv → Prop} {Z : DEnv → Prop} (h0 : ∃ ρ', Wk ρ ρ' ∧ I 0 ρ')
    (hs : ∀ (i : Nat) (h : i < xs.length) (ρ' : DEnv), I i ρ' → B I i (.tup [.int (i : Int), f xs[i]]) ρ') (hd : ∀ ρ', I xs.length ρ' → Z ρ') :
    ∃ W : Nat → DEnv → Prop, (∃ ρ', Wk ρ ρ' ∧ W 0 ρ') ∧ (∀ i x ρ', (enumD (xs.map f))[i]? = some x → W i ρ' → B W i x ρ') ∧ ∀ ρ', W (enumD (xs.map f)).length ρ' → Z ρ' := by
  refine ⟨I, h0, fun i x ρ' hx hw => ?_, fun ρ' h => hd ρ' (by rw [enumD_length, List.length_map] at h; exact h)⟩
  obtain ⟨d, h1, rfl⟩ := enumD_at hx
  rw [List.getElem?_map] at h1
  cases e : xs[i]? with
  | none => rw [e] at h1; cases h1
  | some y =>
    rw [e] at h1
    cases h1
    obtain ⟨hi, rfl⟩ := List.getElem?_eq_some_iff.mp e
    exact hs i hi ρ' hw
/-! ### comprehensions over lists of a known form -/
/-- no test: the map -/
theorem lc_map {α : Type} (xs : List α) (f g : α → Dt) {B : (Nat → List Dt → Prop) → Nat → Dt → List Dt → Prop} {Z : List Dt → Prop}
    (hs : ∀ (W : Nat → List Dt → Prop) (i : Nat) (h : i < xs.length) (acc : List Dt), W (i + 1) (acc ++ [g xs[i]]) → B W i (f xs[i]) acc) (hd : Z (xs.map g)) :
    ∃ W : Nat → List Dt → Prop, W 0 [] ∧ (∀ i x acc, (xs.map f)[i]? = some x → W i acc → B W i x acc) ∧ ∀ acc, W (xs.map f).length acc → Z acc := by
  refine ⟨fun i acc => acc = (xs.take i).map g, by simp, fun i x acc hx hw => ?_, fun acc h => ?_⟩
  · rw [List.getElem?_map] at hx
    cases e : xs[i]? with
    | none => rw [e] at hx; cases hx
    | some y =>
      rw [e] at hx
      cases hx
      obtain ⟨hi, rfl⟩ := List.getElem?_eq_some_iff.mp e
      refine hs _ i hi acc ?_
      show acc ++ [g xs[i]] = (xs.take (i + 1)).map g
      rw [hw, List.take_add_one, e, Option.toList_some, List.map_append, List.map_singleton]
  · rw [List.length_map, List.take_length] at h
    rw [h]
    exact hd
/-- one test: the map of what passes -/
theorem lc_filter {α : Type} (xs : List α) (f g : α → Dt) (p : α → Bool) {B : (Nat → List Dt → Prop) → Nat → Dt → List Dt → Prop} {Z : List Dt → Prop}
    (hs : ∀ (W : Nat → List Dt → Prop) (i : Nat) (h : i < xs.length) (acc : List Dt), (p xs[i] = true → W (i + 1) (acc ++ [g xs[i]])) → (p xs[i] = false → W (i + 1) acc) → B W i (f xs[i]) acc) (hd : Z ((xs.filter p).map g)) :
    ∃ W : Nat → List Dt → Prop, W 0 [] ∧ (∀ i x acc, (xs.map f)[i]? = some x → W i acc → B W i x acc) ∧ ∀ acc, W (xs.map f).length acc → Z acc := by
  refine ⟨fun i acc => acc = ((xs.take i).filter p).map g, by simp, fun i x acc hx hw => ?_, fun acc h => ?_⟩
  · rw [List.getElem?_map] at hx
    cases e : xs[i]? with
    | none => rw [e] at hx; cases hx
    | some y =>
      rw [e] at hx
      cases hx
      obtain ⟨hi, rfl⟩ := List.getElem?_eq_some_iff.mp e
      refine hs _ i hi acc (fun hp => ?_) fun hp => ?_
      · show acc ++ [g xs[i]] = ((xs.take (i + 1)).filter p).map g
        rw [hw, List.take_add_one, e, Option.toList_some, List.filter_append, List.map_append, List.filter_cons_of_pos hp, List.filter_nil, List.map_singleton]
      · show acc = ((xs.take (i + 1)).filter p).map g
        rw [hw, List.take_add_one, e, Option.toList_some, List.filter_append, List.map_append, List.filter_cons_of_neg (by rw [hp]; exact Bool.false_ne_true), List.filter_nil, List.map_nil, List.append_nil]
  · rw [List.length_map, List.take_length] at h
    rw [h]
    exact hd
theorem rngD0 (n : Nat) : rngD 0 n = (List.range n).map nat := by
  unfold rngD
  exact List.map_congr_left fun i _ => by rw [Int.zero_add]
theorem toNat_len {α : Type} (xs : List α) : ((xs.length : Int)).toNat = xs.length := Int.toNat_natCast _
theorem atI_map {α : Type} (xs : List α) (f : α → Dt) (k : Nat) (h : k < xs.length) : L2.atI (xs.map f) (k : Int) = some (f xs[k]) :=
  atI_nat (by rw [List.getElem?_map, List.getElem?_eq_getElem h]; rfl)
end Tq
set_option Elab.async false
set_option linter.all false
set_option autoImplicit false
set_option maxRecDepth 100000
set_option maxHeartbeats 4000000
namespace Tq
open PySem PySem.Spec L2
open PyProof.Rows hiding St
theorem args_three {K : PySem.W.Frag} {F H : Hp} {vs : List V} {k k' k'' : Kd} {x y z : Dt} (h : ArgsR K F H vs [(k, x), (k', y), (k'', z)]) : ∃ v u w, vs = [v, u, w] ∧ Rq K F H v x ∧ Rq K F H u y ∧ Rq K F H w z := by
  cases h with
  | fz r t =>
    obtain ⟨u, w, rfl, q, q'⟩ := ArgsR.two t
    exact ⟨_, _, _, rfl, .inl r, q, q'⟩
  | rd r t =>
    obtain ⟨u, w, rfl, q, q'⟩ := ArgsR.two t
    exact ⟨_, _, _, rfl, r, q, q'⟩
section
variable {X : Cx} {e0 : Hs} {pos : Pos} {tg : Expr}
/-! ### int(..) of a whole number or a truth value -/
def bInt : List (Kd × Dt) → DK → Prop := fun as P => match as with
  | [(_, .int i)] => P .fz (.int i)
  | [(_, .bl b)] => P .fz (.int (if b then 1 else 0))
  | _ => False
def rIntD : List V → Hp → VK → Prop := fun xs H Q => (∃ i, xs = [.int i] ∧ Q (.int i) H) ∨ ∃ k, xs = [.bl k] ∧ Q (.int (if k then 1 else 0)) H
theorem vc_int : VCall X (.type "int") rIntD bInt := by
  refine ⟨call_int1, fun s0 s vs as P Q g ar d k => ?_⟩
  match as, ar, d with
  | [(_, .int i)], ar, d => exact .inl ⟨i, ar.int1, k s .fz _ _ g (.int _) d⟩
  | [(_, .bl b)], ar, d =>
    obtain ⟨v, rfl, q⟩ := ar.one
    rw [q.bl]
    exact .inr ⟨b, rfl, k s .fz _ _ g (.int _) d⟩
/-! ### is True -/
def dIsB : R2d := fun x y P => match x, y with
  | .bl a, .bl b => P .fz (.bl (decide (a = b)))
  | _, _ => False
def dIsNotB : R2d := fun x y P => match x, y with
  | .bl a, .bl b => P .fz (.bl (!decide (a = b)))
  | _, _ => False
def rIsBl : R2 := fun x y H Q => ∃ a b, x = .bl a ∧ y = .bl b ∧ Q (.bl (decide (a = b))) H
def rIsNotBl : R2 := fun x y H Q => ∃ a b, x = .bl a ∧ y = .bl b ∧ Q (.bl (!decide (a = b))) H
theorem vo_isB : VOp X (compareOp .Is) rIsBl dIsB := by
  refine ⟨op_is_bl, fun s v u x y P Q gr q1 q2 d k => ?_⟩
  cases x <;> cases y <;> first | exact d.elim | skip
  exact ⟨_, _, q1.bl, q2.bl, k s .fz _ _ gr (.bl _) d⟩
theorem vo_isnotB : VOp X (compareOp .IsNot) rIsNotBl dIsNotB := by
  refine ⟨op_isnot_bl, fun s v u x y P Q gr q1 q2 d k => ?_⟩
  cases x <;> cases y <;> first | exact d.elim | skip
  exact ⟨_, _, q1.bl, q2.bl, k s .fz _ _ gr (.bl _) d⟩
theorem dIsB_bl {a b : Bool} {P : DK} : dIsB (.bl a) (.bl b) P = P .fz (.bl (decide (a = b))) := rfl
theorem dIsNotB_bl {a b : Bool} {P : DK} : dIsNotB (.bl a) (.bl b) P = P .fz (.bl (!decide (a = b))) := rfl
/-! ### ranges with a step -/
def rngC (lo c : Int) (n : Nat) : List Dt := (List.range n).map fun (i : Nat) => .int (lo + (i : Int) * c)
theorem rngC_at {lo c : Int} {n i : Nat} {x : Dt} (h : (rngC lo c n)[i]? = some x) : i < n ∧ x = .int (lo + (i : Int) * c) := by
  unfold rngC at h
  rw [List.getElem?_map] at h
  rcases Nat.lt_or_ge i n with z | z
  · rw [List.getElem?_eq_getElem (by simpa using z)] at h
    simp at h
    exact ⟨z, h.symm⟩
  · rw [List.getElem?_eq_none_iff.mpr (by simpa using z)] at h
    cases h
theorem rngC_length {lo c : Int} {n : Nat} : (rngC lo c n).length = n := by simp [rngC]
theorem itd_rangeC {K : PySem.W.Frag} {s : Hs} {lo c : Int} {n : Nat} : ItD K e0 s (Itc lo c n) (rngC lo c n) := by
  refine ⟨_, _, by rw [rngC_length]; exact walk_rangeC, fun s' rh x => trivial, fun s' i y H' x rh ex hx hy => ?_⟩
  obtain ⟨e1, e2⟩ := hy
  obtain ⟨h1, rfl⟩ := rngC_at hx
  subst e2
  exact ⟨s', Grow.refl rh, e1.symm, .int _⟩
def r3P (as : List (Kd × Dt)) (P : List Dt → Prop) : Prop := match as with
  | [(_, .int i), (_, .int j), (_, .int c)] => ∃ n, RgC i j c n ∧ P (rngC i c n)
  | _ => False
def iR3 (t : TAd) : TId := fun ρ P => t ρ fun as => r3P as P
theorem r3P_int {k k' k'' : Kd} {i j c : Int} {P : List Dt → Prop} : r3P [(k, .int i), (k', .int j), (k'', .int c)] P = ∃ n, RgC i j c n ∧ P (rngC i c n) := rfl
theorem bInt_int {k : Kd} {i : Int} {P : DK} : bInt [(k, .int i)] P = P .fz (.int i) := rfl
theorem bInt_bl {k : Kd} {b : Bool} {P : DK} : bInt [(k, .bl b)] P = P .fz (.int (if b then 1 else 0)) := rfl
theorem vi_range3 {a b c : Expr} {Ta : TA} {t : TAd} {p : Pos} (hg : Gl X "range") (hm : X.mg "range" = none) (ha : VA X e0 [a, b, c] Ta t)
    (hs : starEach [a, b, c] X.env = (false, eval a X.env) :: starEach [b, c] X.env := by rfl) (hpl : (backTo pos (starEach [b, c] X.env)).any (·.1) = false := by rfl) : VI X e0 tg (.Call (.Name "range" p) [a, b, c] [] pos) (iRng3 Ta) (iR3 t) := by
  refine ⟨pi_range3 hg hm ha.pe hs hpl, fun s σ ρ P R rp t k => ?_⟩
  refine ha.run s σ ρ _ (fun vs H1 => ∃ (i j c : Int) (n : Nat), vs = [.int i, .int j, .int c] ∧ RgC i j c n ∧ R (Itc i c n) H1) rp t fun s1 vs as g1 ar hl t1 => ?_
  match as, ar, t1 with
  | [(_, .int i), (_, .int j), (_, .int c)], ar, t1 =>
    obtain ⟨n, h1, h2⟩ := t1
    obtain ⟨v1, v2, v3, rfl, q1, q2, q3⟩ := args_three ar
    rw [q1.int, q2.int, q3.int]
    exact ⟨i, j, c, n, rfl, h1, k s1 _ _ g1 itd_rangeC h2⟩
end
/-- the turns of a rising range -/
theorem RgC.up1 {i j : Int} (ha : -(2 ^ 60) ≤ i) (ha' : i < 2 ^ 60) (hb : -(2 ^ 60) ≤ j) (hb' : j < 2 ^ 60) : ∃ n, RgC i j 1 n ∧ ∀ k : Nat, k < n → i + (k : Int) * 1 < j := by
  refine ⟨(j - i).toNat, ⟨by decide, by decide, small_one (by omega) (by omega) (by omega) (by omega), ?_⟩, fun k hk => by omega⟩
  rw [rangeSize_one]
  split <;> omega
theorem RgC.up3 {i j : Int} (ha : -(2 ^ 60) ≤ i) (ha' : i < 2 ^ 60) (hb : -(2 ^ 60) ≤ j) (hb' : j < 2 ^ 60) : ∃ n, RgC i j 3 n ∧ ∀ k : Nat, k < n → i + (k : Int) * 3 < j := by
  have e : Builtin.Range.rangeSize i j 3 = if i < j then (j - i - 1) / 3 + 1 else 0 := by
    unfold Builtin.Range.rangeSize
    rw [if_pos (by decide)]
  refine ⟨(if i < j then (j - i - 1) / 3 + 1 else 0).toNat, ⟨by decide, by decide, ?_, ?_⟩, fun k hk => ?_⟩
  · unfold Builtin.Range.small
    rw [e]
    simp only [Builtin.Range.rangeFitsLong, Bool.and_eq_true, Bool.or_eq_true, decide_eq_true_eq, beq_iff_eq, show (3 : Int) > 0 by decide, if_true]
    split <;> omega
  · rw [e]
    split <;> omega
  · split at hk <;> omega
theorem RgC.down {i j : Int} (ha : -(2 ^ 60) ≤ i) (ha' : i < 2 ^ 60) (hb : -(2 ^ 60) ≤ j) (hb' : j < 2 ^ 60) : RgC i j (-1) (i - j).toNat := RgC.neg (by omega) (by omega) (by omega) (by omega)
end Tq
set_option Elab.async false
set_option linter.all false
set_option autoImplicit false
set_option maxRecDepth 100000
set_option maxHeartbeats 4000000
namespace L2
open PySem PySem.Spec PyProof.Rows
section
variable {X : Cx}
/-- sorted(d) of a dict whose keys are ints, any number of them -/
def rSortedDI : List V → Hp → VK → Prop := fun xs H Q => ∃ (a : Addr) (kvs : List (Key × V)) (ks : List Int), xs = [.ref a] ∧ Rd H a (.dK kvs) ∧ kvs.map (·.1) = ks.map Sum.inl ∧
    ∀ (ys : List Int) (p : Addr), ys.Perm ks → ys.Pairwise (· ≤ ·) → H p = none → Q (.ref p) (upd H p (.lst (ys.map V.int)))
theorem call_sortedDIb (hcalm : X.calm = true) : CallR X (.builtin "sorted") rSortedDI := by
  intro pins s σ H xs us Q I r q
  obtain ⟨a, kvs, ks, ex, hd, hks, q⟩ := q
  subst ex
  obtain ⟨u, eu, rx⟩ := vals1 r
  subst eu
  cases rx
  obtain ⟨z, lo, vs, rel, dd⟩ := dk_rd I.hok hd
  obtain ⟨ep, hat⟩ := dd.dictAt
  have hkeys : vs.map (·.1) = ks.map Sum.inl := rel.keys.symm.trans hks
  have hl : vs.length = ks.length := by
    have e := congrArg List.length hkeys
    rw [List.length_map, List.length_map] at e
    exact e
  have h16 : vs.length ≤ sizeLine := by rw [← rel.length]; exact z
  refine Calls.call_function_entry PyProof.Rows.kind_sorted PyProof.Rows.plain_sorted PyProof.Rows.entry_sorted (PyProof.Rows.args_sorted1 _) ?_
  unfold Builtin.«sorted»
  refine wpAny_bind (m := checkCount "sorted" 1 1 _) (wpAny_pure ?_)
  refine wpAny_bind (PySem.W.kdu_collect (A := X.A.in1) (PySem.W.kdl_dict (knd := mixKind X.prog X.w) (kvs := vs) (ep := ep) lo) (I.ok.hd hcalm) hat h16 fun h' tk acc hk hacc => ?_)
  have hal : acc.toList.length = ks.length := by rw [Array.length_toList, hacc.1, hl]
  have hS : IntsAre acc.toList ks := ints_each hal fun j v e => by
    obtain ⟨k, x, e1, e2⟩ := hacc.2 j v (by rw [← Array.getElem?_toList]; exact e)
    have e3 : (vs.map (·.1))[j]? = some k := by rw [List.getElem?_map, e1]; rfl
    rw [hkeys, List.getElem?_map] at e3
    cases e4 : ks[j]? with
    | none => rw [e4] at e3; cases e3
    | some y =>
      rw [e4] at e3
      have e5 : Sum.inl y = k := Option.some.inj e3
      subst e5
      rcases keyIs_shape (show keyIs (Sum.inl y) v = true from e2) with ⟨i, t, ek, ev⟩ | ⟨z, t, ek, ev⟩
      · cases ek
        exact ⟨y, t, rfl, ev⟩
      · cases ek
  have I1 : Inv X pins σ H { s with heap := h', toks := tk } := I.kept hk
  have hz : acc.toList.length ≤ sizeLine := by rw [hal, ← hl]; exact h16
  refine wpAny_bind (wpAny_newList ?_ hz)
  have hoL : (h'.push (seqObj "list" acc.toList.toArray 0)).get? h'.objs.size = some (seqObj "list" acc.toList.toArray 0) := Heap.get?_push_size _ rfl
  show wpAny _ _ _ _ _ { s with heap := h'.push (seqObj "list" acc.toList.toArray 0), toks := tk }
  refine wpAny_bind (wpAny_holding (wpAny_call_entry PyProof.Rows.slot_list_sort ⟨_, hoL, rfl⟩ PyProof.Rows.entry_list_sort
    (SrtO.list_sort_ord (s := { s with heap := h'.push (seqObj "list" acc.toList.toArray 0), toks := tk }) SrtO.swo_int hoL hz (fun h2 => SrtO.ints_sortable hS h2) fun out h1 h2 => ⟨_, rfl, ?_⟩) (PyProof.Rows.args_list_sort _)))
  obtain ⟨k1, k2, k3⟩ := SrtO.ints_out hS h1 h2
  obtain ⟨e', he'⟩ := PyProof.Rows.sortedHeap_at (vs := acc.toList) (out := out.toArray) hoL
  have hlen : ((out.map SrtO.iv).map V.int).length ≤ sizeLine := by
    rw [List.length_map, k2.length_eq, ← hal]
    exact hz
  refine wpAny_pure ⟨_, rfl, .ref h'.objs.size, upd H h'.objs.size (.lst ((out.map SrtO.iv).map V.int)), I1.laid (t' := tk) (fun b u e => ?_) (Nat.le_refl _)
    (show ObjOk X.prog X.w _ _ _ (.lst ((out.map SrtO.iv).map V.int)) from ⟨hlen, out, e', vals_of_ints k1, he'⟩), rfl, q _ _ k2 k3 (I1.hok.fresh (Nat.le_refl _))⟩
  have hb : b < h'.objs.size := Heap.lt_size e
  rw [PyProof.Rows.sortedHeap_old (Nat.ne_of_lt hb) (by rw [size_push']; exact Nat.lt_succ_of_lt hb)]
  exact Heap.get?_push_of_some _ e
end
end L2
namespace Tq
open PySem PySem.Spec L2
open PyProof.Rows hiding St
/-! ### dicts -/
def keyD : Dt → Option Key
  | .int i => some (.inl i)
  | .str x => some (.inr x)
  | _ => none
def valD (ds : List (Key × Dt)) (k : Key) : Option Dt := (ds.find? fun kv => decide (kv.1 = k)).map (·.2)
def putD (ds : List (Key × Dt)) (k : Key) (x : Dt) : List (Key × Dt) :=
  if (ds.any fun kv => decide (kv.1 = k)) = true then ds.map (fun kv => if kv.1 = k then (kv.1, x) else kv) else ds ++ [(k, x)]
section
variable {K : PySem.W.Frag} {F H : Hp}
theorem RpK.length : ∀ {vs : List (Key × V)} {ds : List (Key × Dt)}, RpK K F vs ds → vs.length = ds.length
  | _, _, .nil => rfl
  | _, _, .cons _ t => congrArg (· + 1) (RpK.length t)
theorem RpK.keys : ∀ {vs : List (Key × V)} {ds : List (Key × Dt)}, RpK K F vs ds → vs.map (·.1) = ds.map (·.1)
  | _, _, .nil => rfl
  | _, _, .cons _ t => by rw [List.map_cons, List.map_cons, RpK.keys t]
theorem RpK.any (k : Key) : ∀ {vs : List (Key × V)} {ds : List (Key × Dt)}, RpK K F vs ds → (vs.any fun kv => decide (kv.1 = k)) = ds.any fun kv => decide (kv.1 = k)
  | _, _, .nil => rfl
  | _, _, .cons _ t => by rw [List.any_cons, List.any_cons, RpK.any k t]
theorem RpK.val (k : Key) : ∀ {vs : List (Key × V)} {ds : List (Key × Dt)}, RpK K F vs ds → (valV vs k = none ∧ valD ds k = none) ∨ ∃ v x, valV vs k = some v ∧ valD ds k = some x ∧ Rp K F v x
  | _, _, .nil => .inl ⟨rfl, rfl⟩
  | _, _, .cons (k := k') r t => by
    by_cases e : k' = k
    · exact .inr ⟨_, _, by rw [valV_pos (by exact e)], by simp [valD, List.find?_cons, e], r⟩
    · rcases RpK.val k t with ⟨h1, h2⟩ | ⟨v, x, h1, h2, h3⟩
      · exact .inl ⟨by rw [valV_neg (by exact e), h1], by simpa [valD, List.find?_cons, e] using h2⟩
      · exact .inr ⟨v, x, by rw [valV_neg (by exact e), h1], by simpa [valD, List.find?_cons, e] using h2, h3⟩
theorem RpK.repl (k : Key) {y : V} {x : Dt} (q : Rp K F y x) : ∀ {vs : List (Key × V)} {ds : List (Key × Dt)}, RpK K F vs ds → RpK K F (vs.map fun kv => if kv.1 = k then (kv.1, y) else kv) (ds.map fun kv => if kv.1 = k then (kv.1, x) else kv)
  | _, _, .nil => .nil
  | _, _, .cons (k := k') r t => by
    rw [List.map_cons, List.map_cons]
    by_cases e : k' = k
    · rw [if_pos (by exact e), if_pos (by exact e)]
      exact .cons q (RpK.repl k q t)
    · rw [if_neg (by exact e), if_neg (by exact e)]
      exact .cons r (RpK.repl k q t)
theorem RpK.snoc (k : Key) {y : V} {x : Dt} (q : Rp K F y x) : ∀ {vs : List (Key × V)} {ds : List (Key × Dt)}, RpK K F vs ds → RpK K F (vs ++ [(k, y)]) (ds ++ [(k, x)])
  | _, _, .nil => .cons q .nil
  | _, _, .cons r t => .cons r (RpK.snoc k q t)
theorem RpK.put (k : Key) {y : V} {x : Dt} (q : Rp K F y x) {vs : List (Key × V)} {ds : List (Key × Dt)} (r : RpK K F vs ds) : RpK K F (putK vs k y) (putD ds k x) := by
  unfold putK putD
  rw [r.any k]
  split
  · exact r.repl k q
  · exact r.snoc k q
theorem Rq.dct {v : V} {ds : List (Key × Dt)} (hfh : Same F H) (q : Rq K F H v (.dct ds)) : ∃ a kvs, v = .ref a ∧ H a = some (.dK kvs) ∧ RpK K F kvs ds := by
  rcases q with q | ⟨a, xs, ds', e1, e2, h, r⟩ | ⟨a, kvs, ds', e1, e2, h, r⟩
  · cases q with
    | dct h r => exact ⟨_, _, rfl, hfh _ _ h, r⟩
  · cases e2
  · cases e2; exact ⟨a, kvs, e1, h, r⟩
theorem Rq.key {v : V} {x : Dt} {k : Key} (q : Rq K F H v x) (e : keyD x = some k) : v = kV k := by
  cases x with
  | int i => cases e; exact q.int
  | str z => cases e; exact q.str
  | _ => cases e
end
section
variable {X : Cx} {e0 : Hs} {pos pos' : Pos} {st : Stmt}
/-! {} -/
def eDct : TEd := fun _ P => P .fr (.dct [])
theorem ve_dct : VE X e0 (.Dict [] [] pos) tDNewK eDct := by
  refine ⟨pe_dnewK, fun s σ ρ P Q rp t k => ?_⟩
  intro p hp
  have g := Grow.refl rp.rh
  exact k (s.new p (.dK [])) .fr _ (.dct []) (g.new hp) ⟨p, rfl, hp, Same.free rp.rh.gh hp, .inr ⟨[], [], rfl, upd_same, .nil⟩⟩ t
/-! d[k] -/
def getD' (o : Option Dt) (P : DK) : Prop := match o with
  | some x => P .fz x
  | none => False
def dGetK (ds : List (Key × Dt)) (o : Option Key) (P : DK) : Prop := match o with
  | some k => getD' (valD ds k) P
  | none => False
def dGet (x y : Dt) (P : DK) : Prop := match x with
  | .dct ds => dGetK ds (keyD y) P
  | _ => False
def eDGet (ta tb : TEd) : TEd := fun ρ P => ta ρ fun _ x => tb ρ fun _ y => dGet x y P
theorem ve_dget {a b : Expr} {Ta Tb : TE} {ta tb : TEd} (hu : X.A.units + 64 < cLine) (ha : VE X e0 a Ta ta) (hb : VE X e0 b Tb tb) (hs : NoSl b) : VE X e0 (.Subscript a b pos) (tDGet Ta Tb) (eDGet ta tb) := by
  obtain ⟨hTa, ra⟩ := ha
  obtain ⟨hTb, rb⟩ := hb
  refine ⟨pe_dget (by omega) hTa hTb hs, fun s σ ρ P Q rp t k => ?_⟩
  refine ra s σ ρ _ _ rp t fun s1 k1 v1 x1 g1 r1 t1 => ?_
  have rp1 := rp.grow g1
  refine rb s1 σ ρ _ _ rp1 t1 fun s2 k2 v2 x2 g2 r2 t2 => ?_
  have rp2 := rp1.grow g2
  have q1 := (r1.rq rp1.rh).mono g2.f g2.h
  have q2 := r2.rq rp2.rh
  unfold dGet at t2
  cases x1 <;> first | exact t2.elim | skip
  rename_i ds
  obtain ⟨p, kvs, rfl, h1, r⟩ := Rq.dct rp2.rh.fh q1
  revert t2
  show dGetK ds (keyD x2) P → _
  cases e : keyD x2 with
  | none => exact fun z => z.elim
  | some key =>
    show getD' (valD ds key) P → _
    rcases r.val key with ⟨h2, h3⟩ | ⟨v, x, h2, h3, h4⟩
    · rw [h3]; exact fun z => z.elim
    · rw [h3]
      intro t2
      have ek := q2.key e
      subst ek
      exact ⟨p, v, rfl, .inl ⟨kvs, key, .inl h1, rfl, h2.symm⟩, k s2 .fz v x (g1.trans g2) h4 t2⟩
/-! k in d -/
def dInK (n : Bool) (ds : List (Key × Dt)) (o : Option Key) (P : DK) : Prop := match o with
  | some k => P .fz (.bl ((valD ds k).isSome != n))
  | none => False
def dInD (n : Bool) (y x : Dt) (P : DK) : Prop := match x with
  | .dct ds => dInK n ds (keyD y) P
  | _ => False
def eDIn (n : Bool) (tb ta : TEd) : TEd := fun ρ P => tb ρ fun _ y => ta ρ fun _ x => dInD n y x P
/-! d[k] = v of an own dict -/
def setKyK (o : Option Key) (i : Nat) (l : Addr) (ds : List (Key × Dt)) (y : Dt) (D : EndsD) (ρ : DEnv) : Prop := match o with
  | some k => D.nx (ρ.set i (.v (.ow l) (.dct (putD ds k y))))
  | none => False
def setKyS (o : Option Sl) (i : Nat) (tix te : TEd) (D : EndsD) (ρ : DEnv) : Prop := match o with
  | some (.v (.ow l) (.dct ds)) => te ρ fun k y => k.st = true ∧ ds.length < 16777216 ∧ tix ρ fun _ z => setKyK (keyD z) i l ds y D ρ
  | _ => False
def sSetKy (i : Nat) (tix te : TEd) : TSd := fun D ρ => setKyS ρ[i]? i tix te D ρ
theorem vs_setKy {i : Nat} {e ie : Expr} {T Ti : TE} {te tix : TEd} (h : VE X e0 e T te) (h' : VE X e0 ie Ti tix) (hp : PS X st (sDPut (tVar i) Ti T)) : VS X e0 st (sSetKy i tix te) := by
  refine ⟨_, hp, fun s σ ρ D D' rp t l => ?_⟩
  unfold sSetKy setKyS at t
  split at t
  · rename_i a ds q
    obtain ⟨h1, c⟩ := TE.var_own rp q
    refine h.run s σ ρ _ (fun v H1 => tVar i σ H1 fun x H2 => Ti σ H2 fun y H3 => ∃ a H4, x = .ref a ∧ DPut H3 a y v H4 ∧ D.nx σ H4) rp t fun s1 k1 v1 x1 g1 r1 t1 => ?_
    obtain ⟨hk, hl, t1⟩ := t1
    obtain ⟨s2, g2, e2, f2, p2⟩ := r1.freeze g1 hk
    have rp2 := rp.grow g2
    rw [← e2]
    refine ⟨_, h1, ?_⟩
    refine h'.run s2 σ ρ _ (fun y H3 => ∃ a' H4, V.ref a = .ref a' ∧ DPut H3 a' y v1 H4 ∧ D.nx σ H4) rp2 t1 fun s3 k3 v3 x3 g3 r3 t3 => ?_
    have rp3 := rp2.grow g3
    revert t3
    show setKyK (keyD x3) i a ds x1 D' ρ → _
    cases en : keyD x3 with
    | none => exact fun z => z.elim
    | some key =>
      intro t3
      have ek := (r3.rq rp3.rh).key en
      subst ek
      rcases c with ⟨xs, ds', e3, h2, r2⟩ | ⟨kvs, ds', e3, h2, r2⟩
      · cases e3
      · cases e3
        have h3 : s3.h a = some (.dK kvs) := (g2.trans g3).h _ _ h2
        obtain ⟨rp4, x4⟩ := rp3.mut q (.dK (putK kvs key v1)) (x' := .dct (putD ds key x1)) (.inr ⟨_, _, rfl, upd_same, RpK.put key (p2.mono g3.f) (r2.mono (g2.trans g3).f)⟩)
        exact ⟨a, _, rfl, DPut.k h3 (by rw [r2.length, sizeLine_eq]; omega), l.nx _ σ _ rp4 ((g2.trans g3).ext.trans x4) t3⟩
  · exact t.elim
/-! sorted(d) -/
def bSortedD : List (Kd × Dt) → DK → Prop := fun as P => match as with
  | [(_, .dct ds)] => ∃ ks : List Int, ds.map (·.1) = ks.map Sum.inl ∧ ∀ ys : List Int, ys.Perm ks → ys.Pairwise (· ≤ ·) → P .fr (.lst (ys.map Dt.int))
  | _ => False
theorem vc_sortedD (hc : X.calm = true) : VCall X (.builtin "sorted") rSortedDI bSortedD := by
  refine ⟨call_sortedDIb hc, fun s0 s vs as P Q g ar d k => ?_⟩
  match as, ar, d with
  | [(_, .dct ds)], ar, d =>
    obtain ⟨ks, e, d⟩ := d
    obtain ⟨v, rfl, q⟩ := ar.one
    obtain ⟨a, kvs, rfl, h, r⟩ := Rq.dct (g.fg.trans g.gh) q
    refine ⟨a, kvs, ks, rfl, .inl h, by rw [r.keys, e], fun ms p hp ho hn => ?_⟩
    obtain ⟨gg, rr⟩ := fresh_new (ds := ms.map Dt.int) g hn (RpL.of_ints ms) rfl
    exact k _ .fr _ _ gg rr (d ms hp ho)
end
end Tq
namespace Tq
open PySem PySem.Spec L2
open PyProof.Rows hiding St
section
variable {X : Cx} {e0 : Hs} {pos : Pos}
theorem din_core {n : Bool} {a b : Expr} {Ta Tb : TE} {ta tb : TEd} (T : TE) (hT : ∀ σ H Q, (Tb σ H fun y H1 => Ta σ H1 fun x H2 => ∃ p o, x = .ref p ∧ DGet H2 p y o ∧ Q (.bl (o.isSome != n)) H2) → T σ H Q)
    (ha : VE X e0 a Ta ta) (hb : VE X e0 b Tb tb) : ∀ (s : Hs) (σ : St) (ρ : DEnv) (P : DK) (Q : VK), Rep X.K e0 s σ ρ → eDIn n tb ta ρ P → (∀ s' k v x, Grow s s' → RK X.K s.h s' k v x → P k x → Q v s'.h) → T σ s.h Q := by
  intro s σ ρ P Q rp t k
  obtain ⟨hTa, ra⟩ := ha
  obtain ⟨hTb, rb⟩ := hb
  refine hT σ s.h Q ?_
  refine rb s σ ρ _ _ rp t fun s1 k1 v1 x1 g1 r1 t1 => ?_
  have rp1 := rp.grow g1
  refine ra s1 σ ρ _ _ rp1 t1 fun s2 k2 v2 x2 g2 r2 t2 => ?_
  have rp2 := rp1.grow g2
  have q1 := (r1.rq rp1.rh).mono g2.f g2.h
  have q2 := r2.rq rp2.rh
  unfold dInD at t2
  cases x2 <;> first | exact t2.elim | skip
  rename_i ds
  obtain ⟨p, kvs, rfl, h1, r⟩ := Rq.dct rp2.rh.fh q2
  revert t2
  show dInK n ds (keyD x1) P → _
  cases e : keyD x1 with
  | none => exact fun z => z.elim
  | some key =>
    intro t2
    have ek := q1.key e
    subst ek
    refine ⟨p, valV kvs key, rfl, .inl ⟨kvs, key, .inl h1, rfl, rfl⟩, ?_⟩
    have : (valV kvs key).isSome = (valD ds key).isSome := by
      rcases r.val key with ⟨h2, h3⟩ | ⟨v, x, h2, h3, h4⟩ <;> rw [h2, h3] <;> rfl
    rw [this]
    exact k s2 .fz _ _ (g1.trans g2) (.bl _) t2
theorem ve_din {a b : Expr} {Ta Tb : TE} {ta tb : TEd} (hu : X.A.units + 64 < cLine) (hb : VE X e0 b Tb tb) (ha : VE X e0 a Ta ta) (hm : behindInMarks .In a = false) : VE X e0 (.Compare b [.In] [a] pos) (tDIn Tb Ta) (eDIn false tb ta) :=
  ⟨pe_cmp (pc_din (by omega) hb.pe ha.pe) hm, din_core _ (fun σ H Q h => by simpa [tDIn] using h) ha hb⟩
theorem ve_dnotin {a b : Expr} {Ta Tb : TE} {ta tb : TEd} (hu : X.A.units + 64 < cLine) (hb : VE X e0 b Tb tb) (ha : VE X e0 a Ta ta) (hm : behindInMarks .NotIn a = false) : VE X e0 (.Compare b [.NotIn] [a] pos) (tDNotIn Tb Ta) (eDIn true tb ta) :=
  ⟨pe_cmp (pc_dnotin (by omega) hb.pe ha.pe) hm, din_core _ (fun σ H Q h => by simpa [tDNotIn] using h) ha hb⟩
theorem vt_din {a b : Expr} {Ta Tb : TE} {ta tb : TEd} (hu : X.A.units + 64 < cLine) (hb : VE X e0 b Tb tb) (ha : VE X e0 a Ta ta) (hm : behindInMarks .In a = false) : VT X e0 (.Compare b [.In] [a] pos) (tB (tDIn Tb Ta)) (tB' (eDIn false tb ta)) :=
  ⟨pt_cmp (pc_din (by omega) hb.pe ha.pe) hm, tst_core (ve_din (pos := pos) hu hb ha hm).run⟩
theorem vt_dnotin {a b : Expr} {Ta Tb : TE} {ta tb : TEd} (hu : X.A.units + 64 < cLine) (hb : VE X e0 b Tb tb) (ha : VE X e0 a Ta ta) (hm : behindInMarks .NotIn a = false) : VT X e0 (.Compare b [.NotIn] [a] pos) (tB (tDNotIn Tb Ta)) (tB' (eDIn true tb ta)) :=
  ⟨pt_cmp (pc_dnotin (by omega) hb.pe ha.pe) hm, tst_core (ve_dnotin (pos := pos) hu hb ha hm).run⟩
theorem dGet_int {ds : List (Key × Dt)} {i : Int} {P : DK} : dGet (.dct ds) (.int i) P = getD' (valD ds (.inl i)) P := rfl
theorem dGet_str {ds : List (Key × Dt)} {z : Str} {P : DK} : dGet (.dct ds) (.str z) P = getD' (valD ds (.inr z)) P := rfl
theorem getD'_some {x : Dt} {P : DK} : getD' (some x) P = P .fz x := rfl
theorem dInD_int {n : Bool} {ds : List (Key × Dt)} {i : Int} {P : DK} : dInD n (.int i) (.dct ds) P = P .fz (.bl ((valD ds (.inl i)).isSome != n)) := rfl
theorem dInD_str {n : Bool} {ds : List (Key × Dt)} {z : Str} {P : DK} : dInD n (.str z) (.dct ds) P = P .fz (.bl ((valD ds (.inr z)).isSome != n)) := rfl
theorem setKyS_ow {l : Addr} {ds : List (Key × Dt)} {i : Nat} {tix te : TEd} {D : EndsD} {ρ : DEnv} : setKyS (some (.v (.ow l) (.dct ds))) i tix te D ρ = te ρ fun k y => k.st = true ∧ ds.length < 16777216 ∧ tix ρ fun _ z => setKyK (keyD z) i l ds y D ρ := rfl
theorem setKyK_int {i : Int} {n : Nat} {l : Addr} {ds : List (Key × Dt)} {y : Dt} {D : EndsD} {ρ : DEnv} : setKyK (keyD (.int i)) n l ds y D ρ = D.nx (ρ.set n (.v (.ow l) (.dct (putD ds (.inl i) y)))) := rfl
theorem setKyK_str {z : Str} {n : Nat} {l : Addr} {ds : List (Key × Dt)} {y : Dt} {D : EndsD} {ρ : DEnv} : setKyK (keyD (.str z)) n l ds y D ρ = D.nx (ρ.set n (.v (.ow l) (.dct (putD ds (.inr z) y)))) := rfl
theorem bSortedD_dct {k : Kd} {ds : List (Key × Dt)} {P : DK} : bSortedD [(k, .dct ds)] P = ∃ ks : List Int, ds.map (·.1) = ks.map Sum.inl ∧ ∀ ys : List Int, ys.Perm ks → ys.Pairwise (· ≤ ·) → P .fr (.lst (ys.map Dt.int)) := rfl
end
end Tq
namespace Tq
open PySem PySem.Spec L2
open PyProof.Rows hiding St
section
variable {X : Cx} {e0 : Hs} {pos : Pos} {st : Stmt}
theorem vs_setKy' {i : Nat} {e ie : Expr} {T Ti : TE} {te tix : TEd} (h : VE X e0 e T te) (h' : VE X e0 ie Ti tix) (hp : PE X e T → PE X ie Ti → PS X st (sDPut (tVar i) Ti T)) : VS X e0 st (sSetKy i tix te) := vs_setKy h h' (hp h.pe h'.pe)
theorem units1 (hu : X.A.units + 64 < cLine) : X.A.units + 1 < cLine := by omega
end
end Tq
set_option Elab.async false
set_option linter.all false
set_option autoImplicit false
set_option maxHeartbeats 4000000
namespace Tq
/-! ### sets kept as numbers -/
/-- the places below n that are in the set m, the least first -/
def bits (n m : Nat) : List Nat := (List.range n).filter fun k => m.testBit k
def setOf (ks : List Nat) : Nat := ks.foldl (fun m k => m ||| 2 ^ k) 0
theorem setOf_snoc (ks : List Nat) (k : Nat) : setOf (ks ++ [k]) = setOf ks ||| 2 ^ k := by simp [setOf]
theorem bits_succ (n m : Nat) : bits (n + 1) m = bits n m ++ (if m.testBit n then [n] else []) := by
  unfold bits
  rw [List.range_succ, List.filter_append]
  congr 1
  by_cases h : m.testBit n <;> simp [h]
theorem bits_length (n m : Nat) : (bits n m).length ≤ n := by
  unfold bits
  exact Nat.le_trans (List.length_filter_le _ _) (by simp)
theorem mem_bits {n m k : Nat} : k ∈ bits n m ↔ k < n ∧ m.testBit k = true := by
  unfold bits
  rw [List.mem_filter, List.mem_range]
theorem bits_nodup (n m : Nat) : (bits n m).Nodup := List.Pairwise.filter _ List.nodup_range
theorem bits_more {n j m : Nat} (h : m < 2 ^ j) (hj : j ≤ n) : bits n m = bits j m := by
  obtain ⟨d, rfl⟩ : ∃ d, n = j + d := ⟨n - j, by omega⟩
  clear hj
  induction d with
  | zero => rfl
  | succ d ih =>
    rw [← Nat.add_assoc, bits_succ, ih]
    have : m.testBit (j + d) = false := Nat.testBit_lt_two_pow (Nat.lt_of_lt_of_le h (Nat.pow_le_pow_right (by decide) (by omega)))
    simp [this]
theorem testBit_pow (k j : Nat) : (2 ^ k).testBit j = decide (k = j) := Nat.testBit_two_pow
theorem testBit_setOf (ks : List Nat) (j : Nat) : (setOf ks).testBit j = decide (j ∈ ks) := by
  have key : ∀ (ks : List Nat) (m : Nat), (ks.foldl (fun m k => m ||| 2 ^ k) m).testBit j = (m.testBit j || decide (j ∈ ks)) := by
    intro ks
    induction ks with
    | nil => intro m; simp
    | cons k ks ih =>
      intro m
      rw [List.foldl_cons, ih, Nat.testBit_or, testBit_pow]
      by_cases h : k = j
      · subst h; simp
      · have h' : ¬ j = k := fun z => h z.symm
        simp [h, h']
  unfold setOf
  rw [key]
  simp
theorem lt_pow_of {n m : Nat} (h : ∀ k, n ≤ k → m.testBit k = false) : m < 2 ^ n := Nat.lt_pow_two_of_testBit m h
theorem testBit_ge {n m k : Nat} (h : m < 2 ^ n) (hk : n ≤ k) : m.testBit k = false := Nat.testBit_lt_two_pow (Nat.lt_of_lt_of_le h (Nat.pow_le_pow_right (by decide) hk))
theorem setOf_lt {ks : List Nat} {n : Nat} (h : ∀ k ∈ ks, k < n) : setOf ks < 2 ^ n := by
  refine lt_pow_of fun k hk => ?_
  rw [testBit_setOf, decide_eq_false_iff_not]
  intro hm
  have := h k hm
  omega
theorem nat_or_and_add (m : Nat) : ∀ n : Nat, (m ||| n) + (m &&& n) = m + n := by
  induction m using Nat.strongRecOn with
  | _ m ih =>
    intro n
    by_cases h0 : m = 0
    · subst h0
      simp
    · have ih' := ih (m / 2) (by omega) (n / 2)
      rw [← Nat.or_div_two, ← Nat.and_div_two] at ih'
      have o1 := @Nat.or_mod_two_eq_one m n
      have a1 := @Nat.and_mod_two_eq_one m n
      omega
theorem and_pow_of_not {m k : Nat} (h : m.testBit k = false) : m &&& 2 ^ k = 0 := by
  refine Nat.eq_of_testBit_eq fun j => ?_
  rw [Nat.testBit_and, testBit_pow, Nat.zero_testBit]
  by_cases e : k = j
  · subst e; rw [h]; rfl
  · simp [e]
theorem sum_pows : ∀ {ks : List Nat}, ks.Nodup → (ks.map fun k => 2 ^ k).sum = setOf ks := by
  have key : ∀ (ks : List Nat) (pre : List Nat), (pre ++ ks).Nodup → setOf pre + (ks.map fun k => 2 ^ k).sum = setOf (pre ++ ks) := by
    intro ks
    induction ks with
    | nil => intro pre _; simp
    | cons k ks ih =>
      intro pre h
      have e : pre ++ k :: ks = (pre ++ [k]) ++ ks := by simp
      rw [e] at h ⊢
      rw [← ih _ h, setOf_snoc, List.map_cons, List.sum_cons]
      have hk : k ∉ pre := by
        intro hm
        rw [List.append_assoc, List.nodup_append] at h
        exact h.2.2 k hm k (by simp) rfl
      have hb : (setOf pre).testBit k = false := by rw [testBit_setOf, decide_eq_false_iff_not]; exact hk
      have h1 := nat_or_and_add (setOf pre) (2 ^ k)
      rw [and_pow_of_not hb] at h1
      omega
  intro ks h
  have := key ks [] (by simpa using h)
  simpa [setOf] using this
/-- small lies within large -/
theorem sub_iff {a b : Nat} : a &&& b = a ↔ ∀ k, a.testBit k = true → b.testBit k = true := by
  constructor
  · intro h k hk
    have h2 : (a &&& b).testBit k = true := by rw [h]; exact hk
    rw [Nat.testBit_and, hk, Bool.true_and] at h2
    exact h2
  · intro h
    refine Nat.eq_of_testBit_eq fun k => ?_
    rw [Nat.testBit_and]
    cases e : a.testBit k with
    | false => rfl
    | true => rw [h k e]; rfl
end Tq
set_option Elab.async false
set_option linter.all false
set_option autoImplicit false
set_option maxRecDepth 100000
set_option maxHeartbeats 4000000
namespace Tq
open PySem PySem.Spec L2
open PyProof.Rows hiding St
/-! ### the readings' equations, by constructors -/
section
variable {P : DK} {Q : Bool → Prop} {R : List Dt → Prop} {k k' : Kd} {x y : Dt} {l : Addr} {i j : Int} {b : Bool} {z w : Str} {ds es : List Dt} {n m : Nat} {D : EndsD} {ρ : DEnv} {N : DEnv → Prop} {te u : TEd} {tt : TTd} {f g : DEnv → Prop}
theorem rdV_fz : rdV (some (.v .fz x)) P = P .fz x := rfl
theorem rdV_vw : rdV (some (.v .vw x)) P = P .vw x := rfl
theorem rdV_ow : rdV (some (.v (.ow l) x)) P = P .rd x := rfl
theorem retV_fz : retV (some (.v .fz x)) P = P .fz x := rfl
theorem retV_vw : retV (some (.v .vw x)) P = P .vw x := rfl
theorem retV_ow : retV (some (.v (.ow l) x)) P = P .fr x := rfl
theorem dB_bl : dB (.bl b) Q = Q b := rfl
theorem selS_t : selS true f g ρ = f ρ := if_pos rfl
theorem selS_f : selS false f g ρ = g ρ := if_neg Bool.false_ne_true
theorem selE_t : selE true te u ρ P = te ρ P := if_pos rfl
theorem selE_f : selE false te u ρ P = u ρ P := if_neg Bool.false_ne_true
theorem selAnd_t : selAnd true tt ρ Q = tt ρ Q := if_pos rfl
theorem selAnd_f : selAnd false tt ρ Q = Q false := if_neg Bool.false_ne_true
theorem selOr_t : selOr true tt ρ Q = Q true := if_pos rfl
theorem selOr_f : selOr false tt ρ Q = tt ρ Q := if_neg Bool.false_ne_true
theorem stor_fz : stor n N ρ .fz x = N (ρ.set n (.v .fz x)) := rfl
theorem stor_vw : stor n N ρ .vw x = N (ρ.set n (.v .vw x)) := rfl
theorem stor_fr : stor n N ρ .fr x = ∀ l, N (ρ.set n (.v (.ow l) x)) := rfl
theorem storF_fz : storF n N ρ .fz x = N (ρ.set n (.v .fz x)) := rfl
theorem storF_vw : storF n N ρ .vw x = N (ρ.set n (.v .vw x)) := rfl
theorem storF_fr : storF n N ρ .fr x = N (ρ.set n (.v .fz x)) := rfl
theorem dI0_int {h : Int → Int → Dt} : dI0 h (.int i) (.int j) P = P .fz (h i j) := rfl
theorem dI_int {C : Int → Int → Prop} {h : Int → Int → Dt} : dI C h (.int i) (.int j) P = (C i j ∧ P .fz (h i j)) := rfl
theorem dI1_int {h : Int → Dt} : dI1 h (.int i) P = P .fz (h i) := rfl
theorem dAdd_int : dAdd (.int i) (.int j) P = P .fz (.int (i + j)) := rfl
theorem dAdd_str : dAdd (.str z) (.str w) P = (z.length + w.length ≤ 16777216 ∧ P .fz (.str (z ++ w))) := rfl
theorem dAdd_lst : dAdd (.lst ds) (.lst es) P = (ds.length + es.length ≤ 16777216 ∧ P .fr (.lst (ds ++ es))) := rfl
theorem dIAdd_int : dIAdd (.int i) (.int j) P = P .fz (.int (i + j)) := rfl
theorem dIAdd_str : dIAdd (.str z) (.str w) P = (z.length + w.length ≤ 16777216 ∧ P .fz (.str (z ++ w))) := rfl
theorem dMul_int : dMul (.int i) (.int j) P = (CMul i j ∧ P .fz (.int (i * j))) := rfl
theorem dEq_int : dEq (.int i) (.int j) P = P .fz (.bl (decide (i = j))) := rfl
theorem dEq_bl {c : Bool} : dEq (.bl b) (.bl c) P = P .fz (.bl (decide (b = c))) := rfl
theorem dEq_str : dEq (.str z) (.str w) P = P .fz (.bl (decide (z = w))) := rfl
theorem dEq_lst : dEq (.lst ds) (.lst es) P = dEqG false (.lst ds) (.lst es) P := rfl
theorem dEq_tup : dEq (.tup ds) (.tup es) P = dEqG false (.tup ds) (.tup es) P := rfl
theorem dNe_int : dNe (.int i) (.int j) P = P .fz (.bl (!decide (i = j))) := rfl
theorem dNe_bl {c : Bool} : dNe (.bl b) (.bl c) P = P .fz (.bl (!decide (b = c))) := rfl
theorem dNe_str : dNe (.str z) (.str w) P = P .fz (.bl (!decide (z = w))) := rfl
theorem dNe_lst : dNe (.lst ds) (.lst es) P = dEqG true (.lst ds) (.lst es) P := rfl
theorem dNe_tup : dNe (.tup ds) (.tup es) P = dEqG true (.tup ds) (.tup es) P := rfl
theorem dIs_non : dIs x .non P = P .fz (.bl x.isNon) := rfl
theorem dIsNot_non : dIsNot x .non P = P .fz (.bl (!x.isNon)) := rfl
theorem isNon_non : Dt.non.isNon = true := rfl
theorem isNon_int : (Dt.int i).isNon = false := rfl
theorem isNon_bl : (Dt.bl b).isNon = false := rfl
theorem isNon_str : (Dt.str z).isNon = false := rfl
theorem isNon_lst : (Dt.lst ds).isNon = false := rfl
theorem isNon_tup : (Dt.tup ds).isNon = false := rfl
theorem dIn_lst {c : Bool} : dIn c x (.lst ds) P = (x.flat = true ∧ ds.all Dt.flat = true ∧ P .fz (.bl (if c then !inD x ds else inD x ds))) := rfl
theorem dIn_tup {c : Bool} : dIn c x (.tup ds) P = (x.flat = true ∧ ds.all Dt.flat = true ∧ P .fz (.bl (if c then !inD x ds else inD x ds))) := rfl
theorem dIx_lst : dIx (.lst ds) (.int i) P = optD (L2.atI ds i) P := rfl
theorem dIx_tup : dIx (.tup ds) (.int i) P = optD (L2.atI ds i) P := rfl
theorem dIx_str : dIx (.str z) (.int i) P = optC z (L2.atI z.cps.toList i) P := rfl
theorem optD_some : optD (some x) P = P .fz x := rfl
theorem optB_some : optB (some b) P = P .fz (.bl b) := rfl
theorem optC_some : optC z (some n) P = (z.length ≤ 16777216 ∧ P .fz (.str ⟨#[n]⟩)) := rfl
theorem oPartK_int {O : Option Int → Prop} : oPartK (.int i) O = O (some i) := rfl
theorem dSl_lst {a c : Option Int} : dSl (.lst ds) a c P = P .fr (.lst (cutL ds a c)) := rfl
theorem dSl_str {a c : Option Int} : dSl (.str z) a c P = (z.length ≤ 16777216 ∧ P .fz (.str (cutS z a c))) := rfl
theorem lstP_lst : lstP (.lst ds) R = R ds := rfl
theorem tupP_tup : tupP (.tup ds) R = R ds := rfl
theorem r1P_int : r1P [(k, .int j)] R = (j < 2 ^ 62 ∧ -(2 ^ 62) ≤ j ∧ R (rngD 0 j.toNat)) := rfl
theorem r2P_int : r2P [(k, .int i), (k', .int j)] R = ((-(2 ^ 62) ≤ i ∧ i < 2 ^ 62 ∧ -(2 ^ 62) ≤ j ∧ j < 2 ^ 62) ∧ R (rngD i (j - i).toNat)) := rfl
theorem hTup_tup {t : TGsd} : hTup n t (.tup ds) ρ N = (ds.length = n ∧ t ds ρ N) := rfl
theorem hsCons_cons {t : TGd} {v : TGsd} : hsCons t v (x :: ds) ρ N = t x ρ fun ρ' => v ds ρ' N := rfl
theorem hsNil_nil : hsNil [] ρ N = N ρ := propext ⟨fun h => h.2, fun h => ⟨rfl, h⟩⟩
theorem bLen_lst : bLen [(k, .lst ds)] P = P .fz (.int (ds.length : Nat)) := by cases k <;> rfl
theorem bLen_tup : bLen [(k, .tup ds)] P = P .fz (.int (ds.length : Nat)) := by cases k <;> rfl
theorem bLen_str : bLen [(k, .str z)] P = (z.length ≤ 16777216 ∧ P .fz (.int (z.length : Nat))) := by cases k <;> rfl
theorem bList_lst : bList [(k, .lst ds)] P = P .fr (.lst ds) := rfl
theorem bList_tup : bList [(k, .tup ds)] P = P .fr (.lst ds) := rfl
theorem bDivmod_int : bDivmod [(k, .int i), (k', .int j)] P = (CDiv i j ∧ P .fz (.tup [.int (i / j), .int (i % j)])) := rfl
theorem bAbs_int : bAbs [(k, .int i)] P = P .fz (.int (if i < 0 then -i else i)) := rfl
theorem bMax2_int : bMax2 [(k, .int i), (k', .int j)] P = P .fz (.int (if j > i then j else i)) := rfl
theorem bMin2_int : bMin2 [(k, .int i), (k', .int j)] P = P .fz (.int (if j < i then j else i)) := rfl
theorem bSorted_lst : bSorted [(k, .lst ds)] P = ∃ ns : List Int, ds = ns.map Dt.int ∧ ∀ ms : List Int, ms.Perm ns → ms.Pairwise (· ≤ ·) → P .fr (.lst (ms.map Dt.int)) := rfl
theorem bSum_lst : bSum [(k, .lst ds)] P = ∃ ns : List Int, ds = ns.map Dt.int ∧ P .fz (.int ns.sum) := rfl
theorem normA_lst : normA (k, .lst ds) = (.rd, .lst ds) := rfl
theorem normA_tup : normA (k, .tup ds) = (.fz, .tup ds) := rfl
theorem normA_int : normA (k, .int i) = (.fz, .int i) := rfl
theorem normA_bl : normA (k, .bl b) = (.fz, .bl b) := rfl
theorem normA_str : normA (k, .str z) = (.fz, .str z) := rfl
theorem normA_non : normA (k, .non) = (.fz, .non) := rfl
theorem normA_dct {q : List (Key × Dt)} : normA (k, .dct q) = (.rd, .dct q) := rfl
theorem norm_nil : norm [] = [] := rfl
theorem norm_cons {a : Kd × Dt} {r : List (Kd × Dt)} : norm (a :: r) = normA a :: norm r := rfl
theorem appS_ow : appS (some (.v (.ow l) (.lst ds))) n te D ρ = te ρ fun k x => k.st = true ∧ ds.length < 16777216 ∧ D.nx (ρ.set n (.v (.ow l) (.lst (ds ++ [x])))) := rfl
theorem setIxS_ow : setIxS (some (.v (.ow l) (.lst ds))) n u te D ρ = te ρ fun k y => k.st = true ∧ u ρ fun _ z => setIxZ z n l ds y D ρ := rfl
theorem setIxZ_int : setIxZ (.int i) n l ds y D ρ = setIxN (ixN ds.length i) n l ds y D ρ := rfl
theorem setIxN_some : setIxN (some m) n l ds y D ρ = D.nx (ρ.set n (.v (.ow l) (.lst (ds.set m y)))) := rfl
theorem augS_fz {d : R2d} : augS (some (.v .fz x)) n d te D ρ = te ρ fun _ y => d x y fun k z => storF n D.nx ρ k z := rfl
theorem startS_nil : startS [] = [] := rfl
theorem startS_fz {r : List (Kd × Dt)} : startS ((.fz, x) :: r) = .v .fz x :: startS r := rfl
theorem startS_rd {r : List (Kd × Dt)} : startS ((.rd, x) :: r) = .v .vw x :: startS r := rfl
theorem frzE_ow (h : ρ[n]? = some (.v (.ow l) x)) : frzE n ρ = ρ.set n (.v .fz x) := by unfold frzE; rw [h]
end
/-! ### splitting at a test -/
theorem selS_dec {p : Prop} [Decidable p] {f g : DEnv → Prop} {ρ : DEnv} (h1 : p → f ρ) (h2 : ¬ p → g ρ) : selS (decide p) f g ρ := by
  by_cases h : p
  · rw [decide_eq_true h, selS_t]; exact h1 h
  · rw [decide_eq_false h, selS_f]; exact h2 h
theorem selS_b {b : Bool} {f g : DEnv → Prop} {ρ : DEnv} (h1 : b = true → f ρ) (h2 : b = false → g ρ) : selS b f g ρ := by
  cases b with
  | true => rw [selS_t]; exact h1 rfl
  | false => rw [selS_f]; exact h2 rfl
theorem selE_b {b : Bool} {f g : TEd} {ρ : DEnv} {P : DK} (h1 : b = true → f ρ P) (h2 : b = false → g ρ P) : selE b f g ρ P := by
  cases b with
  | true => rw [selE_t]; exact h1 rfl
  | false => rw [selE_f]; exact h2 rfl
theorem selAnd_b {b : Bool} {t : TTd} {ρ : DEnv} {P : Bool → Prop} (h1 : b = true → t ρ P) (h2 : b = false → P false) : selAnd b t ρ P := by
  cases b with
  | true => rw [selAnd_t]; exact h1 rfl
  | false => rw [selAnd_f]; exact h2 rfl
theorem selOr_b {b : Bool} {t : TTd} {ρ : DEnv} {P : Bool → Prop} (h1 : b = true → P true) (h2 : b = false → t ρ P) : selOr b t ρ P := by
  cases b with
  | true => rw [selOr_t]; exact h1 rfl
  | false => rw [selOr_f]; exact h2 rfl
end Tq
namespace Tq
theorem selAnd_dec {p : Prop} [Decidable p] {t : TTd} {ρ : DEnv} {P : Bool → Prop} (h1 : p → t ρ P) (h2 : ¬ p → P false) : selAnd (decide p) t ρ P :=
  selAnd_b (fun h => h1 (of_decide_eq_true h)) fun h => h2 (of_decide_eq_false h)
theorem selOr_dec {p : Prop} [Decidable p] {t : TTd} {ρ : DEnv} {P : Bool → Prop} (h1 : p → P true) (h2 : ¬ p → t ρ P) : selOr (decide p) t ρ P :=
  selOr_b (fun h => h1 (of_decide_eq_true h)) fun h => h2 (of_decide_eq_false h)
theorem selE_dec {p : Prop} [Decidable p] {f g : TEd} {ρ : DEnv} {P : DK} (h1 : p → f ρ P) (h2 : ¬ p → g ρ P) : selE (decide p) f g ρ P :=
  selE_b (fun h => h1 (of_decide_eq_true h)) fun h => h2 (of_decide_eq_false h)
end Tq
namespace Tq
open PySem PySem.Spec L2
theorem iT_non_int  : (Dt.non).isT "int" = some false := isT_eq _ rfl _ (by decide)
theorem iT_non_list  : (Dt.non).isT "list" = some false := isT_eq _ rfl _ (by decide)
theorem iT_non_tuple  : (Dt.non).isT "tuple" = some false := isT_eq _ rfl _ (by decide)
theorem iT_non_str  : (Dt.non).isT "str" = some false := isT_eq _ rfl _ (by decide)
theorem iT_non_bool  : (Dt.non).isT "bool" = some false := isT_eq _ rfl _ (by decide)
theorem iT_non_dict  : (Dt.non).isT "dict" = some false := isT_eq _ rfl _ (by decide)
theorem iT_bl_int {b : Bool} : (Dt.bl b).isT "int" = some true := isT_eq _ rfl _ (by decide)
theorem iT_bl_list {b : Bool} : (Dt.bl b).isT "list" = some false := isT_eq _ rfl _ (by decide)
theorem iT_bl_tuple {b : Bool} : (Dt.bl b).isT "tuple" = some false := isT_eq _ rfl _ (by decide)
theorem iT_bl_str {b : Bool} : (Dt.bl b).isT "str" = some false := isT_eq _ rfl _ (by decide)
theorem iT_bl_bool {b : Bool} : (Dt.bl b).isT "bool" = some true := isT_eq _ rfl _ (by decide)
theorem iT_bl_dict {b : Bool} : (Dt.bl b).isT "dict" = some false := isT_eq _ rfl _ (by decide)
theorem iT_int_int {i : Int} : (Dt.int i).isT "int" = some true := isT_eq _ rfl _ (by decide)
theorem iT_int_list {i : Int} : (Dt.int i).isT "list" = some false := isT_eq _ rfl _ (by decide)
theorem iT_int_tuple {i : Int} : (Dt.int i).isT "tuple" = some false := isT_eq _ rfl _ (by decide)
theorem iT_int_str {i : Int} : (Dt.int i).isT "str" = some false := isT_eq _ rfl _ (by decide)
theorem iT_int_bool {i : Int} : (Dt.int i).isT "bool" = some false := isT_eq _ rfl _ (by decide)
theorem iT_int_dict {i : Int} : (Dt.int i).isT "dict" = some false := isT_eq _ rfl _ (by decide)
theorem iT_str_int {z : Str} : (Dt.str z).isT "int" = some false := isT_eq _ rfl _ (by decide)
theorem iT_str_list {z : Str} : (Dt.str z).isT "list" = some false := isT_eq _ rfl _ (by decide)
theorem iT_str_tuple {z : Str} : (Dt.str z).isT "tuple" = some false := isT_eq _ rfl _ (by decide)
theorem iT_str_str {z : Str} : (Dt.str z).isT "str" = some true := isT_eq _ rfl _ (by decide)
theorem iT_str_bool {z : Str} : (Dt.str z).isT "bool" = some false := isT_eq _ rfl _ (by decide)
theorem iT_str_dict {z : Str} : (Dt.str z).isT "dict" = some false := isT_eq _ rfl _ (by decide)
theorem iT_tup_int {ds : List Dt} : (Dt.tup ds).isT "int" = some false := isT_eq _ rfl _ (by decide)
theorem iT_tup_list {ds : List Dt} : (Dt.tup ds).isT "list" = some false := isT_eq _ rfl _ (by decide)
theorem iT_tup_tuple {ds : List Dt} : (Dt.tup ds).isT "tuple" = some true := isT_eq _ rfl _ (by decide)
theorem iT_tup_str {ds : List Dt} : (Dt.tup ds).isT "str" = some false := isT_eq _ rfl _ (by decide)
theorem iT_tup_bool {ds : List Dt} : (Dt.tup ds).isT "bool" = some false := isT_eq _ rfl _ (by decide)
theorem iT_tup_dict {ds : List Dt} : (Dt.tup ds).isT "dict" = some false := isT_eq _ rfl _ (by decide)
theorem iT_lst_int {ds : List Dt} : (Dt.lst ds).isT "int" = some false := isT_eq _ rfl _ (by decide)
theorem iT_lst_list {ds : List Dt} : (Dt.lst ds).isT "list" = some true := isT_eq _ rfl _ (by decide)
theorem iT_lst_tuple {ds : List Dt} : (Dt.lst ds).isT "tuple" = some false := isT_eq _ rfl _ (by decide)
theorem iT_lst_str {ds : List Dt} : (Dt.lst ds).isT "str" = some false := isT_eq _ rfl _ (by decide)
theorem iT_lst_bool {ds : List Dt} : (Dt.lst ds).isT "bool" = some false := isT_eq _ rfl _ (by decide)
theorem iT_lst_dict {ds : List Dt} : (Dt.lst ds).isT "dict" = some false := isT_eq _ rfl _ (by decide)
theorem iT_dct_int {ks : List (Key × Dt)} : (Dt.dct ks).isT "int" = some false := isT_eq _ rfl _ (by decide)
theorem iT_dct_list {ks : List (Key × Dt)} : (Dt.dct ks).isT "list" = some false := isT_eq _ rfl _ (by decide)
theorem iT_dct_tuple {ks : List (Key × Dt)} : (Dt.dct ks).isT "tuple" = some false := isT_eq _ rfl _ (by decide)
theorem iT_dct_str {ks : List (Key × Dt)} : (Dt.dct ks).isT "str" = some false := isT_eq _ rfl _ (by decide)
theorem iT_dct_bool {ks : List (Key × Dt)} : (Dt.dct ks).isT "bool" = some false := isT_eq _ rfl _ (by decide)
theorem iT_dct_dict {ks : List (Key × Dt)} : (Dt.dct ks).isT "dict" = some true := isT_eq _ rfl _ (by decide)
end Tq
namespace Tq
open PySem PySem.Spec L2
theorem flat_int {i : Int} : (Dt.int i).flat = true := rfl
theorem flat_str {z : Str} : (Dt.str z).flat = true := rfl
theorem flat_bl {b : Bool} : (Dt.bl b).flat = true := rfl
theorem flat_non : Dt.non.flat = true := rfl
theorem flat_nats {ks : List Nat} : (ks.map fun (k : Nat) => Dt.int (k : Int)).all Dt.flat = true := by simp [Dt.flat]
theorem flat_ints {ks : List Int} : (ks.map Dt.int).all Dt.flat = true := by simp [Dt.flat]
theorem flat_strs {ks : List Str} : (ks.map Dt.str).all Dt.flat = true := by simp [Dt.flat]
theorem inD_ints {k : Int} {ks : List Int} : inD (.int k) (ks.map Dt.int) = decide (k ∈ ks) := by
  unfold inD inV
  induction ks with
  | nil => rfl
  | cons a r ih =>
    rw [List.map_cons, List.map_cons, List.any_cons, ih]
    show ((a == k) || decide (k ∈ r)) = decide (k ∈ a :: r)
    by_cases h : a = k
    · subst h; simp
    · have h' : ¬ k = a := fun z => h z.symm
      simp [h, h']
theorem inD_nats {k : Nat} {ks : List Nat} : inD (.int (k : Int)) (ks.map fun (k : Nat) => Dt.int (k : Int)) = decide (k ∈ ks) := by
  have e : (ks.map fun (k : Nat) => Dt.int (k : Int)) = (ks.map fun (k : Nat) => (k : Int)).map Dt.int := by rw [List.map_map]; rfl
  rw [e, inD_ints]
  congr 1
  rw [List.mem_map]
  refine propext ⟨fun ⟨a, h1, h2⟩ => ?_, fun h => ⟨k, h, rfl⟩⟩
  have : a = k := by omega
  exact this ▸ h1
theorem inD_strs {k : Str} {ks : List Str} : inD (.str k) (ks.map Dt.str) = decide (k ∈ ks) := by
  unfold inD inV
  induction ks with
  | nil => rfl
  | cons a r ih =>
    rw [List.map_cons, List.map_cons, List.any_cons, ih]
    show ((a == k) || decide (k ∈ r)) = decide (k ∈ a :: r)
    by_cases h : a = k
    · subst h; simp
    · have h' : ¬ k = a := fun z => h z.symm
      simp [h, h']
theorem mod_nat (c : Int) {n : Nat} (h : 0 < n) : ∃ p : Nat, c % (n : Int) = (p : Int) ∧ p < n := by
  have h1 := Int.emod_nonneg c (show (n : Int) ≠ 0 by omega)
  have h2 := Int.emod_lt_of_pos c (show (0 : Int) < n by omega)
  exact ⟨(c % n).toNat, by omega, by omega⟩
/-- ints that are not below nought, as numbers -/
theorem ints_nats (ns : List Int) (f : Int → Int) (h : ∀ x, 0 ≤ f x) : (ns.map fun x => Dt.int (f x)) = (ns.map fun x => (f x).toNat).map fun (k : Nat) => Dt.int (k : Int) := by
  rw [List.map_map]
  refine List.map_congr_left fun x _ => ?_
  show Dt.int (f x) = Dt.int (((f x).toNat : Nat) : Int)
  rw [Int.toNat_of_nonneg (h x)]
/-! ### == of data of a known form -/
theorem pys_ints (ns : List Int) : Dt.pys (ns.map Dt.int) = ns.map PyData.int := by
  induction ns with
  | nil => rfl
  | cons a r ih => show _ :: Dt.pys _ = _; rw [ih]; rfl
theorem pys_nats (ns : List Nat) : Dt.pys (ns.map fun (k : Nat) => Dt.int (k : Int)) = (ns.map fun (k : Nat) => (k : Int)).map PyData.int := by
  induction ns with
  | nil => rfl
  | cons a r ih => show _ :: Dt.pys _ = _; rw [ih]; rfl
theorem eqvAll_ints : ∀ xs ys : List Int, PyData.eqvAll (xs.map PyData.int) (ys.map PyData.int) = decide (xs = ys)
  | [], [] => rfl
  | [], _ :: _ => rfl
  | _ :: _, [] => rfl
  | x :: xs, y :: ys => by
    show (PyData.eqv (.int x) (.int y) && PyData.eqvAll (xs.map PyData.int) (ys.map PyData.int)) = _
    rw [eqvAll_ints xs ys, eqS]
    by_cases h : x = y <;> by_cases h' : xs = ys <;> simp [h, h']
theorem lay_ints : ∀ xs : List Int, PyData.canLayAll0 (xs.map PyData.int) = true ∧ PyData.depthAll (xs.map PyData.int) = 0
  | [] => ⟨rfl, rfl⟩
  | x :: xs => by
    obtain ⟨h1, h2⟩ := lay_ints xs
    refine ⟨?_, ?_⟩
    · show (true && PyData.canLayAll0 (xs.map PyData.int)) = true
      rw [h1]; rfl
    · show max 0 (PyData.depthAll (xs.map PyData.int)) = 0
      rw [h2]; rfl
theorem shaped_ints (xs : List Int) : SeqAt.shaped (.list (xs.map PyData.int)) = true := by
  obtain ⟨h1, h2⟩ := lay_ints xs
  show (PyData.canLayAll0 (xs.map PyData.int) && decide (PyData.depthAll (xs.map PyData.int) + 1 ≤ 64)) = true
  rw [h1, h2]; rfl
theorem eqG_ints {n : Bool} {xs ys : List Int} {P : DK} : dEqG n (.lst (xs.map Dt.int)) (.lst (ys.map Dt.int)) P = P .fz (.bl (decide (xs = ys) != n)) := by
  have e1 : (Dt.lst (xs.map Dt.int)).py = .list (xs.map PyData.int) := by show PyData.list _ = _; rw [pys_ints]
  have e2 : (Dt.lst (ys.map Dt.int)).py = .list (ys.map PyData.int) := by show PyData.list _ = _; rw [pys_ints]
  unfold dEqG
  rw [e1, e2, shaped_ints, shaped_ints]
  show (true = true ∧ true = true ∧ P .fz (.bl (PyData.eqvAll _ _ != n))) = _
  rw [eqvAll_ints]
  simp
theorem map_cast_inj {xs ys : List Nat} : (xs.map fun (k : Nat) => (k : Int)) = (ys.map fun (k : Nat) => (k : Int)) ↔ xs = ys := by
  constructor
  · intro h
    have := congrArg (List.map Int.toNat) h
    simpa [List.map_map, Function.comp_def] using this
  · intro h; rw [h]
theorem eqG_nats {n : Bool} {xs ys : List Nat} {P : DK} : dEqG n (.lst (xs.map fun (k : Nat) => Dt.int (k : Int))) (.lst (ys.map fun (k : Nat) => Dt.int (k : Int))) P = P .fz (.bl (decide (xs = ys) != n)) := by
  have e : ∀ ks : List Nat, (ks.map fun (k : Nat) => Dt.int (k : Int)) = (ks.map fun (k : Nat) => (k : Int)).map Dt.int := fun ks => by rw [List.map_map]; rfl
  rw [e, e, eqG_ints]
  simp only [map_cast_inj]
end Tq
set_option Elab.async false
set_option linter.all false
set_option autoImplicit false
set_option maxHeartbeats 4000000
namespace Tq
/-! ### tables: having, shared, closed -/
def sub (a b : Nat) : Bool := decide (a &&& b = a)
theorem sub_true {a b : Nat} : sub a b = true ↔ ∀ k, a.testBit k = true → b.testBit k = true := by
  unfold sub
  rw [decide_eq_true_eq, sub_iff]
def hav (rows : List Nat) (m : Nat) : Nat := setOf ((List.range rows.length).filter fun i => sub m (rows.getD i 0))
def sha (rows : List Nat) (w g : Nat) : Nat := (bits rows.length g).foldl (fun m t => m &&& rows.getD t 0) (2 ^ w - 1)
def clo (rows : List Nat) (w m : Nat) : Nat := sha rows w (hav rows m)
theorem testBit_hav {rows : List Nat} {m i : Nat} : (hav rows m).testBit i = decide (i < rows.length ∧ sub m (rows.getD i 0) = true) := by
  unfold hav
  rw [testBit_setOf]
  congr 1
  simp
theorem hav_lt (rows : List Nat) (m : Nat) : hav rows m < 2 ^ rows.length := setOf_lt fun k hk => by
  have := (List.mem_filter.mp hk).1
  exact List.mem_range.mp this
theorem foldl_and (rows : List Nat) : ∀ (ts : List Nat) (m k : Nat), (ts.foldl (fun m t => m &&& rows.getD t 0) m).testBit k = (m.testBit k && ts.all fun t => (rows.getD t 0).testBit k)
  | [], m, k => by simp
  | t :: ts, m, k => by
    rw [List.foldl_cons, foldl_and rows ts, Nat.testBit_and, List.all_cons, Bool.and_assoc]
theorem testBit_full (w k : Nat) : (2 ^ w - 1).testBit k = decide (k < w) := Nat.testBit_two_pow_sub_one ..
theorem testBit_sha {rows : List Nat} {w g k : Nat} : (sha rows w g).testBit k = decide (k < w ∧ ∀ t, t < rows.length → g.testBit t = true → (rows.getD t 0).testBit k = true) := by
  unfold sha
  rw [foldl_and, testBit_full, Bool.eq_iff_iff, Bool.and_eq_true, decide_eq_true_eq, decide_eq_true_eq, List.all_eq_true]
  constructor
  · rintro ⟨h1, h2⟩
    exact ⟨h1, fun t ht hg => h2 t (mem_bits.mpr ⟨ht, hg⟩)⟩
  · rintro ⟨h1, h2⟩
    exact ⟨h1, fun t ht => h2 t (mem_bits.mp ht).1 (mem_bits.mp ht).2⟩
theorem sha_lt (rows : List Nat) (w g : Nat) : sha rows w g < 2 ^ w := lt_pow_of fun k hk => by
  rw [testBit_sha, decide_eq_false_iff_not]
  intro h
  omega
theorem clo_lt (rows : List Nat) (w m : Nat) : clo rows w m < 2 ^ w := sha_lt _ _ _
/-- a column is in the closed set just where each row that has the set has it -/
theorem testBit_clo {rows : List Nat} {w m k : Nat} : (clo rows w m).testBit k = decide (k < w ∧ ∀ t, t < rows.length → sub m (rows.getD t 0) = true → (rows.getD t 0).testBit k = true) := by
  unfold clo
  rw [testBit_sha]
  congr 1
  refine propext ⟨fun h => ⟨h.1, fun t ht hs => h.2 t ht ?_⟩, fun h => ⟨h.1, fun t ht hs => h.2 t ht ?_⟩⟩
  · rw [testBit_hav, decide_eq_true_eq]
    exact ⟨ht, hs⟩
  · rw [testBit_hav, decide_eq_true_eq] at hs
    exact hs.2
theorem pow_sub_one (w : Nat) : ((2 ^ w : Nat) : Int) - 1 = ((2 ^ w - 1 : Nat) : Int) := by
  have := Nat.two_pow_pos w
  omega
theorem pow_back (w : Nat) : ((2 ^ w - 1 : Nat) : Int) + 1 = ((2 ^ w : Nat) : Int) := by
  have := Nat.two_pow_pos w
  omega
theorem sub_refl (a : Nat) : sub a a = true := sub_true.mpr fun _ h => h
theorem sub_trans {a b c : Nat} (h1 : sub a b = true) (h2 : sub b c = true) : sub a c = true := sub_true.mpr fun k h => sub_true.mp h2 k (sub_true.mp h1 k h)
theorem sub_antisymm {a b : Nat} (h1 : sub a b = true) (h2 : sub b a = true) : a = b := Nat.eq_of_testBit_eq fun k => by
  rw [Bool.eq_iff_iff]
  exact ⟨sub_true.mp h1 k, sub_true.mp h2 k⟩
theorem sub_or_left (a b : Nat) : sub a (a ||| b) = true := sub_true.mpr fun k h => by rw [Nat.testBit_or, h]; rfl
theorem sub_or_right (a b : Nat) : sub b (a ||| b) = true := sub_true.mpr fun k h => by rw [Nat.testBit_or, h, Bool.or_true]
theorem sub_full {a w : Nat} (h : a < 2 ^ w) : sub a (2 ^ w - 1) = true := sub_true.mpr fun k hk => by
  rw [testBit_full, decide_eq_true_eq]
  rcases Nat.lt_or_ge k w with z | z
  · exact z
  · rw [testBit_ge h z] at hk; cases hk
theorem sub_lt {a b w : Nat} (h : sub a b = true) (hb : b < 2 ^ w) : a < 2 ^ w := lt_pow_of fun k hk => by
  cases e : a.testBit k with
  | false => rfl
  | true =>
    have := sub_true.mp h k e
    rw [testBit_ge hb hk] at this
    cases this
/-! closure laws -/
theorem clo_ext {rows : List Nat} {w m : Nat} (h : m < 2 ^ w) : sub m (clo rows w m) = true := sub_true.mpr fun k hk => by
  rw [testBit_clo, decide_eq_true_eq]
  refine ⟨?_, fun t ht hs => sub_true.mp hs k hk⟩
  rcases Nat.lt_or_ge k w with z | z
  · exact z
  · rw [testBit_ge h z] at hk; cases hk
theorem clo_mono {rows : List Nat} {w a b : Nat} (h : sub a b = true) : sub (clo rows w a) (clo rows w b) = true := sub_true.mpr fun k hk => by
  rw [testBit_clo, decide_eq_true_eq] at hk ⊢
  exact ⟨hk.1, fun t ht hs => hk.2 t ht (sub_trans h hs)⟩
theorem clo_row {rows : List Nat} {w m t : Nat} (ht : t < rows.length) (h : sub m (rows.getD t 0) = true) : sub (clo rows w m) (rows.getD t 0) = true := sub_true.mpr fun k hk => by
  rw [testBit_clo, decide_eq_true_eq] at hk
  exact hk.2 t ht h
theorem clo_idem (rows : List Nat) (w m : Nat) : clo rows w (clo rows w m) = clo rows w m := by
  refine sub_antisymm (sub_true.mpr fun k hk => ?_) (clo_ext (clo_lt _ _ _))
  rw [testBit_clo, decide_eq_true_eq] at hk ⊢
  exact ⟨hk.1, fun t ht hs => hk.2 t ht (clo_row ht hs)⟩
end Tq
namespace Tq
open PySem PySem.Spec L2
theorem cdivW_nat {i : Int} {n : Nat} (h0 : 0 < n) (h : n < 2 ^ 60) : CDivW i (n : Int) :=
  wide_div (b := 60) (by omega) (by rw [Int.natAbs_natCast]; exact h) (by decide) (by decide)
end Tq
namespace Tq
open PySem PySem.Spec L2
/-- a comprehension whose element is told by what holds of it -/
theorem lc_rel {α β : Type} (xs : List α) (f : α → Dt) (g : β → Dt) (p : β → Prop) {B : (Nat → List Dt → Prop) → Nat → Dt → List Dt → Prop} {Z : List Dt → Prop}
    (hs : ∀ (W : Nat → List Dt → Prop) (i : Nat) (h : i < xs.length) (acc : List Dt), (∀ b, p b → W (i + 1) (acc ++ [g b])) → B W i (f xs[i]) acc)
    (hd : ∀ ys : List β, ys.length = xs.length → (∀ y ∈ ys, p y) → Z (ys.map g)) :
    ∃ W : Nat → List Dt → Prop, W 0 [] ∧ (∀ i x acc, (xs.map f)[i]? = some x → W i acc → B W i x acc) ∧ ∀ acc, W (xs.map f).length acc → Z acc := by
  refine ⟨fun i acc => ∃ ys : List β, ys.length = i ∧ (∀ y ∈ ys, p y) ∧ acc = ys.map g, ⟨[], rfl, by simp, rfl⟩, fun i x acc hx hw => ?_, fun acc h => ?_⟩
  · rw [List.getElem?_map] at hx
    cases e : xs[i]? with
    | none => rw [e] at hx; cases hx
    | some y =>
      rw [e] at hx
      cases hx
      obtain ⟨hi, rfl⟩ := List.getElem?_eq_some_iff.mp e
      obtain ⟨ys, h1, h2, rfl⟩ := hw
      refine hs _ i hi _ fun b hb => ⟨ys ++ [b], by simp [h1], fun y hy => ?_, by simp⟩
      rcases List.mem_append.mp hy with z | z
      · exact h2 y z
      · simp at z; exact z ▸ hb
  · rw [List.length_map] at h
    obtain ⟨ys, h1, h2, rfl⟩ := h
    exact hd ys h1 h2
theorem cutL_map {α β : Type} (f : α → β) (xs : List α) (lo hi : Option Int) : cutL (xs.map f) lo hi = (cutL xs lo hi).map f := by
  unfold cutL
  rw [List.length_map, List.map_take, List.map_drop]
theorem cutL_nat {α : Type} (xs : List α) (a b : Nat) : cutL xs (some (a : Int)) (some (b : Int)) = (xs.take b).drop a := by
  unfold cutL
  rw [HT.sIx_nat, HT.sIx_nat, List.drop_take]
  rcases Nat.lt_or_ge a xs.length with h | h
  · rw [Nat.min_eq_left (Nat.le_of_lt h)]
    rcases Nat.lt_or_ge b xs.length with h' | h'
    · rw [Nat.min_eq_left (Nat.le_of_lt h')]
    · rw [Nat.min_eq_right h', List.take_of_length_le (by rw [List.length_drop]; omega), List.take_of_length_le (by rw [List.length_drop]; omega)]
  · rw [Nat.min_eq_right h, List.drop_length, List.drop_of_length_le h]
    simp
theorem cutL_from {α : Type} (xs : List α) (a : Nat) : cutL xs (some (a : Int)) none = xs.drop a := by
  unfold cutL
  rw [HT.sIx_nat, HT.sIx_none]
  rcases Nat.lt_or_ge a xs.length with h | h
  · rw [Nat.min_eq_left (Nat.le_of_lt h), List.take_of_length_le (by rw [List.length_drop]; omega)]
  · rw [Nat.min_eq_right h, List.drop_length, List.drop_of_length_le h]
    simp
theorem cutL_to {α : Type} (xs : List α) (b : Nat) : cutL xs none (some (b : Int)) = xs.take b := by
  unfold cutL
  rw [HT.sIx_nat, HT.sIx_none, List.drop_zero, Nat.sub_zero]
  rcases Nat.lt_or_ge b xs.length with h | h
  · rw [Nat.min_eq_left (Nat.le_of_lt h)]
  · rw [Nat.min_eq_right h, List.take_length, List.take_of_length_le h]
theorem cutL_len {α : Type} (xs : List α) (a b : Nat) : (cutL xs (some (a : Int)) (some (b : Int))).length ≤ b - a := by
  rw [cutL_nat, List.length_drop, List.length_take]
  omega
end Tq
set_option Elab.async false
set_option linter.all false
set_option autoImplicit false
set_option maxHeartbeats 4000000
namespace Tq
/-! ### rules: pairs of sets -/
def rul (r : Nat × Nat) : Dt := .tup [nat r.1, nat r.2]
def brk (row : Nat) (r : Nat × Nat) : Bool := sub r.1 row && !sub r.2 row
def optN : Option Nat → Dt
  | none => .non
  | some k => nat k
theorem dec_sub {a b : Nat} : decide (((a &&& b : Nat) : Int) = (a : Int)) = sub a b := by
  rw [dec_nat]; rfl
theorem dec_sub' {a b : Nat} : decide (((b &&& a : Nat) : Int) = (a : Int)) = sub a b := by
  rw [dec_nat, Nat.and_comm]; rfl
theorem dec_subn {a b : Nat} : decide ((a &&& b) = a) = sub a b := rfl
theorem find_none {α : Type} {p : α → Bool} {xs : List α} (h : ∀ (i : Nat) (hi : i < xs.length), p xs[i] = false) : xs.findIdx? p = none := by
  rw [List.findIdx?_eq_none_iff]
  intro x hx
  obtain ⟨i, hi, rfl⟩ := List.getElem_of_mem hx
  exact h i hi
theorem find_some {α : Type} {p : α → Bool} {xs : List α} {k : Nat} (hk : k < xs.length) (h : ∀ (i : Nat) (hi : i < k), p (xs[i]'(by omega)) = false) (hp : p xs[k] = true) : xs.findIdx? p = some k := by
  rw [List.findIdx?_eq_some_iff_getElem]
  exact ⟨hk, hp, fun j hj => by rw [h j hj]; exact Bool.false_ne_true⟩
open PySem PySem.Spec L2 in
theorem ixn {n j : Nat} (hj : j < n) : ixN n (j : Int) = some j := by
  unfold ixN
  rw [if_pos (by omega), if_pos (by omega)]
  simp
end Tq
namespace Tq
open PySem PySem.Spec L2
abbrev rulesD (rs : List (Nat × Nat)) : Dt := .lst (rs.map rul)
theorem normA_rul {k : Kd} {r : Nat × Nat} : normA (k, rul r) = (.fz, rul r) := rfl
theorem atI_3 {a b c d : Dt} {r : List Dt} : L2.atI (a :: b :: c :: d :: r) 3 = some d := by
  have := @atI_nat Dt (a :: b :: c :: d :: r) 3 d rfl
  exact this
theorem or_lt {a b n : Nat} (ha : a < 2 ^ n) (hb : b < 2 ^ n) : a ||| b < 2 ^ n := Nat.or_lt_two_pow ha hb
theorem shl_lt {q a w : Nat} (h : q < 2 ^ w) : q * 2 ^ a < 2 ^ (a + w) := by
  rw [Nat.add_comm, Nat.pow_add]
  exact Nat.mul_lt_mul_of_pos_right h (Nat.two_pow_pos a)
theorem or_ge (a b : Nat) : a ≤ a ||| b := Nat.left_le_or
theorem or_gt {a b : Nat} (h : sub b a = false) : a < a ||| b := by
  rcases Nat.lt_or_ge a (a ||| b) with z | z
  · exact z
  · have e : a ||| b = a := Nat.le_antisymm z (or_ge a b)
    have : sub b a = true := by
      have h2 := sub_or_right a b
      rw [e] at h2
      exact h2
    rw [this] at h; cases h
theorem or_sub {a b c : Nat} (h1 : sub a c = true) (h2 : sub b c = true) : sub (a ||| b) c = true := sub_true.mpr fun k hk => by
  rw [Nat.testBit_or, Bool.or_eq_true] at hk
  rcases hk with h | h
  · exact sub_true.mp h1 k h
  · exact sub_true.mp h2 k h
theorem brk_iff {m : Nat} {r : Nat × Nat} : brk m r = true ↔ sub r.1 m = true ∧ sub r.2 m = false := by
  unfold brk
  rw [Bool.and_eq_true, Bool.not_eq_true']
theorem nobrk {m : Nat} {r : Nat × Nat} (h : brk m r = false) (h1 : sub r.1 m = true) : sub r.2 m = true := by
  unfold brk at h
  rw [h1] at h
  simpa using h
/-- the set that a walk through the rules has gathered -/
def mkW (rs : List (Nat × Nat)) (m : Nat) (ps : List Nat) : Nat := ps.foldl (fun h k => h ||| (rs.getD k (0, 0)).2) m
theorem mkW_snoc (rs : List (Nat × Nat)) (m : Nat) (ps : List Nat) (k : Nat) : mkW rs m (ps ++ [k]) = mkW rs m ps ||| (rs.getD k (0, 0)).2 := by simp [mkW]
/-- each step's rule is one that is due there, and the aim is not yet reached ahead of it -/
def Wlk (rs : List (Nat × Nat)) (m b : Nat) (ps : List Nat) : Prop := ∀ (i : Nat) (hi : i < ps.length), ps[i] < rs.length ∧ brk (mkW rs m (ps.take i)) (rs.getD ps[i] (0, 0)) = true ∧ sub b (mkW rs m (ps.take i)) = false
theorem Wlk.nil (rs : List (Nat × Nat)) (m b : Nat) : Wlk rs m b [] := fun i hi => by simp at hi
theorem Wlk.snoc {rs : List (Nat × Nat)} {m b : Nat} {ps : List Nat} {k : Nat} (h : Wlk rs m b ps) (hk : k < rs.length) (h1 : brk (mkW rs m ps) (rs.getD k (0, 0)) = true) (h2 : sub b (mkW rs m ps) = false) : Wlk rs m b (ps ++ [k]) := fun i hi => by
  rw [List.length_append, List.length_singleton] at hi
  rcases Nat.lt_or_ge i ps.length with z | z
  · have e : (ps ++ [k])[i] = ps[i] := List.getElem_append_left z
    rw [e, List.take_append_of_le_length (Nat.le_of_lt z)]
    exact h i z
  · have : i = ps.length := by omega
    subst this
    rw [List.getElem_concat_length rfl, List.take_left]
    exact ⟨hk, h1, h2⟩
theorem getD_at {α : Type} (xs : List α) (d : α) (i : Nat) (h : i < xs.length) : xs.getD i d = xs[i] := by simp [List.getD_eq_getElem?_getD, h]
theorem take_succ_at {α : Type} (xs : List α) (i : Nat) (h : i < xs.length) : xs.take (i + 1) = xs.take i ++ [xs[i]] := by
  rw [List.take_add_one, List.getElem?_eq_getElem h, Option.toList_some]
theorem find_some_at {α : Type} {p : α → Bool} {xs : List α} {k : Nat} (h : xs.findIdx? p = some k) : ∃ hk : k < xs.length, p xs[k] = true := by
  obtain ⟨h1, h2, _⟩ := List.findIdx?_eq_some_iff_getElem.mp h
  exact ⟨h1, h2⟩
theorem find_none_all {α : Type} {p : α → Bool} {xs : List α} (h : xs.findIdx? p = none) : ∀ x ∈ xs, p x = false := by
  rw [List.findIdx?_eq_none_iff] at h
  exact fun x hx => h x hx
end Tq
namespace Tq
theorem mod_i (c n : Int) (h : 0 < n) : ∃ p : Nat, c % n = (p : Int) ∧ (p : Int) < n := by
  have h1 := Int.emod_nonneg c (show n ≠ 0 by omega)
  have h2 := Int.emod_lt_of_pos c h
  exact ⟨(c % n).toNat, by omega, by omega⟩
end Tq
namespace Tq
open PySem PySem.Spec L2
theorem cutL_le {α : Type} (xs : List α) (lo hi : Option Int) : (cutL xs lo hi).length ≤ xs.length := by
  unfold cutL
  rw [List.length_take, List.length_drop]
  omega
end Tq
set_option Elab.async false
set_option linter.all false
set_option autoImplicit false
set_option maxHeartbeats 4000000
namespace Tq
open PySem PySem.Spec L2
/-! ### == of data told by a map into the data -/
class Enc {α : Type} [DecidableEq α] (f : α → Dt) (d : outParam Nat) : Prop where
  lay : ∀ a, (f a).py.canLay0 = true
  dep : ∀ a, (f a).py.depth ≤ d
  eqv : ∀ a b, PyData.eqv (f a).py (f b).py = decide (a = b)
section
variable {α β : Type} [DecidableEq α] [DecidableEq β] {f : α → Dt} {g : β → Dt} {d e : Nat}
theorem enc_lays [i : Enc f d] : ∀ xs : List α, PyData.canLayAll0 (Dt.pys (xs.map f)) = true ∧ PyData.depthAll (Dt.pys (xs.map f)) ≤ d
  | [] => ⟨rfl, Nat.zero_le _⟩
  | x :: xs => by
    obtain ⟨h1, h2⟩ := enc_lays (i := i) xs
    refine ⟨?_, ?_⟩
    · show ((f x).py.canLay0 && PyData.canLayAll0 (Dt.pys (xs.map f))) = true
      rw [h1, i.lay]; rfl
    · show max (f x).py.depth (PyData.depthAll (Dt.pys (xs.map f))) ≤ d
      exact Nat.max_le.mpr ⟨i.dep x, h2⟩
theorem enc_all [i : Enc f d] : ∀ xs ys : List α, PyData.eqvAll (Dt.pys (xs.map f)) (Dt.pys (ys.map f)) = decide (xs = ys)
  | [], [] => rfl
  | [], _ :: _ => rfl
  | _ :: _, [] => rfl
  | x :: xs, y :: ys => by
    show (PyData.eqv (f x).py (f y).py && PyData.eqvAll (Dt.pys (xs.map f)) (Dt.pys (ys.map f))) = _
    rw [enc_all (i := i) xs ys, i.eqv]
    by_cases h : x = y <;> by_cases h' : xs = ys <;> simp [h, h']
instance enc_int : Enc Dt.int 0 := ⟨fun _ => rfl, fun _ => Nat.le_refl _, fun a b => eqS⟩
instance enc_nat : Enc (fun (k : Nat) => Dt.int (k : Int)) 0 := ⟨fun _ => rfl, fun _ => Nat.le_refl _, fun a b => by
  show PyData.eqv (.int (a : Int)) (.int (b : Int)) = _
  rw [eqS]
  by_cases h : a = b
  · simp [h]
  · have : ¬ (a : Int) = (b : Int) := by omega
    simp [h, this]⟩
instance enc_lst [i : Enc f d] : Enc (fun xs : List α => Dt.lst (xs.map f)) (d + 1) := ⟨fun xs => (enc_lays (i := i) xs).1, fun xs => Nat.succ_le_succ (enc_lays (i := i) xs).2, fun xs ys => enc_all (i := i) xs ys⟩
instance enc_pair [i : Enc f d] [j : Enc g e] : Enc (fun p : α × β => Dt.tup [f p.1, g p.2]) (max d e + 1) := ⟨fun p => by
    show ((f p.1).py.canLay0 && ((g p.2).py.canLay0 && true)) = true
    rw [i.lay, j.lay]; rfl, fun p => by
    show max (f p.1).py.depth (max (g p.2).py.depth 0) + 1 ≤ _
    have := i.dep p.1
    have := j.dep p.2
    omega, fun p q => by
    show (PyData.eqv (f p.1).py (f q.1).py && (PyData.eqv (g p.2).py (g q.2).py && true)) = _
    rw [i.eqv, j.eqv]
    obtain ⟨p1, p2⟩ := p
    obtain ⟨q1, q2⟩ := q
    by_cases h : p1 = q1 <;> by_cases h' : p2 = q2 <;> simp [h, h']⟩
instance enc_rul : Enc rul 1 := enc_pair (f := fun (k : Nat) => Dt.int (k : Int)) (g := fun (k : Nat) => Dt.int (k : Int))
theorem eqG_enc [i : Enc f d] {n : Bool} {xs ys : List α} {P : DK} (hd : d + 1 ≤ 64 := by decide) : dEqG n (.lst (xs.map f)) (.lst (ys.map f)) P = P .fz (.bl (decide (xs = ys) != n)) := by
  have s : ∀ xs : List α, SeqAt.shaped (Dt.lst (xs.map f)).py = true := fun xs => by
    show (PyData.canLayAll0 (Dt.pys (xs.map f)) && decide (PyData.depthAll (Dt.pys (xs.map f)) + 1 ≤ 64)) = true
    have := (enc_lays (i := i) xs).2
    rw [(enc_lays (i := i) xs).1, Bool.true_and, decide_eq_true_eq]
    omega
  unfold dEqG
  rw [s, s]
  show (true = true ∧ true = true ∧ P .fz (.bl (PyData.eqvAll _ _ != n))) = _
  rw [enc_all]
  simp
theorem eqG_enc1 [i : Enc f d] {n : Bool} {x y : α} {P : DK} (hd : d ≤ 64 := by decide) : dEqG n (f x) (f y) P = P .fz (.bl (decide (x = y) != n)) := by
  have s : ∀ x : α, SeqAt.shaped (f x).py = true := fun x => by
    show ((f x).py.canLay0 && decide ((f x).py.depth ≤ 64)) = true
    have := i.dep x
    rw [i.lay, Bool.true_and, decide_eq_true_eq]
    omega
  unfold dEqG
  rw [s, s, i.eqv]
  simp
theorem rulesD_snoc (rs : List (Nat × Nat)) (r : Nat × Nat) : rulesD (rs ++ [r]) = .lst (rs.map rul ++ [rul r]) := by
  show Dt.lst ((rs ++ [r]).map rul) = _
  rw [List.map_append]; rfl
theorem nats_snoc (ks : List Nat) (k : Nat) : nats (ks ++ [k]) = .lst ((ks.map fun (k : Nat) => Dt.int (k : Int)) ++ [Dt.int (k : Int)]) := by
  show Dt.lst ((ks ++ [k]).map _) = _
  rw [List.map_append]; rfl
theorem eqG_ruls {n : Bool} {xs ys : List (Nat × Nat)} {P : DK} : dEqG n (.lst (xs.map rul)) (.lst (ys.map rul)) P = P .fz (.bl (decide (xs = ys) != n)) := eqG_enc
end
end Tq
set_option Elab.async false
set_option linter.all false
set_option autoImplicit false
set_option maxHeartbeats 4000000
namespace Tq
open PySem PySem.Spec L2
/-! ### the closed sets in their order -/
theorem band_one (a : Nat) : Builtin.bitAnd (a : Int) 1 = ((a &&& 1 : Nat) : Int) := band_nat a 1
theorem bor_one (a : Nat) : Builtin.bitOr (a : Int) 1 = ((a ||| 1 : Nat) : Int) := bor_nat a 1
theorem n0 : ((0 : Nat) : Int) = 0 := rfl
theorem n1 : ((1 : Nat) : Int) = 1 := rfl
theorem n2 : ((2 : Nat) : Int) = 2 := rfl
theorem n3 : ((3 : Nat) : Int) = 3 := rfl
theorem sub_le {a b : Nat} (h : sub a b = true) : a ≤ b := by
  have e : a &&& b = a := by simpa [sub] using h
  rw [← e]
  exact Nat.and_le_right
theorem add_pow {a k : Nat} (h : a < 2 ^ k) : a + 2 ^ k = a ||| 2 ^ k := by
  have h1 := nat_or_and_add a (2 ^ k)
  rw [and_pow_of_not (testBit_ge h (Nat.le_refl k))] at h1
  omega
/-- the highest place at which two numbers differ -/
theorem high_bit : ∀ {c a : Nat}, a < c → ∃ j, c.testBit j = true ∧ a.testBit j = false ∧ ∀ k, j < k → c.testBit k = a.testBit k := by
  intro c
  induction c using Nat.strongRecOn with
  | _ c ih =>
    intro a h
    rcases Nat.lt_or_ge (a / 2) (c / 2) with z | z
    · obtain ⟨j, h1, h2, h3⟩ := ih (c / 2) (by omega) z
      refine ⟨j + 1, by rw [Nat.testBit_succ]; exact h1, by rw [Nat.testBit_succ]; exact h2, fun k hk => ?_⟩
      obtain ⟨m, rfl⟩ : ∃ m, k = m + 1 := ⟨k - 1, by omega⟩
      rw [Nat.testBit_succ, Nat.testBit_succ]
      exact h3 m (by omega)
    · have e : c / 2 = a / 2 := by omega
      refine ⟨0, ?_, ?_, fun k hk => ?_⟩
      · rw [Nat.testBit_zero, decide_eq_true_eq]; omega
      · rw [Nat.testBit_zero, decide_eq_false_iff_not]; omega
      · obtain ⟨m, rfl⟩ : ∃ m, k = m + 1 := ⟨k - 1, by omega⟩
        rw [Nat.testBit_succ, Nat.testBit_succ, e]
theorem lt_of_bit {x y : Nat} (i : Nat) (hx : x.testBit i = false) (hy : y.testBit i = true) (h : ∀ j, i < j → x.testBit j = y.testBit j) : x < y := by
  rcases Nat.lt_trichotomy x y with z | z | z
  · exact z
  · subst z; rw [hx] at hy; cases hy
  · obtain ⟨j, h1, h2, h3⟩ := high_bit z
    rcases Nat.lt_trichotomy j i with q | q | q
    · rw [h3 i q, hy] at hx; cases hx
    · subst q; rw [hx] at h1; cases h1
    · rw [h j q, h2] at h1; cases h1
def isCl (rows : List Nat) (w m : Nat) : Bool := decide (clo rows w m = m)
theorem isCl_iff {rows : List Nat} {w m : Nat} : isCl rows w m = true ↔ clo rows w m = m := by unfold isCl; rw [decide_eq_true_eq]
theorem isCl_clo (rows : List Nat) (w m : Nat) : isCl rows w (clo rows w m) = true := isCl_iff.mpr (clo_idem rows w m)
def seed (m i : Nat) : Nat := (m / 2 ^ i ||| 1) * 2 ^ i
theorem one_bit (k : Nat) : (1 : Nat).testBit k = decide (k = 0) := by
  have := testBit_pow 0 k
  rw [Nat.pow_zero] at this
  rw [this]
  by_cases h : k = 0
  · subst h; rfl
  · have h' : ¬ 0 = k := fun z => h z.symm
    simp [h, h']
theorem testBit_seed {m i k : Nat} : (seed m i).testBit k = (decide (i ≤ k) && (m.testBit k || decide (k = i))) := by
  unfold seed
  rw [Nat.testBit_mul_two_pow]
  by_cases h : i ≤ k
  · rw [Nat.testBit_or, Nat.testBit_div_two_pow, one_bit, show k - i + i = k by omega]
    have : decide (k - i = 0) = decide (k = i) := by
      by_cases h2 : k = i
      · subst h2; simp
      · have : ¬ k - i = 0 := by omega
        simp [h2, this]
    rw [this]
  · have h' : decide (i ≤ k) = false := by simp [h]
    rw [h']; simp
/-- the test of next_mask: above the column as before, and the column -/
theorem fits_iff {m i d : Nat} : d / 2 ^ i = (m / 2 ^ i ||| 1) ↔ d.testBit i = true ∧ ∀ k, i < k → d.testBit k = m.testBit k := by
  constructor
  · intro h
    refine ⟨?_, fun k hk => ?_⟩
    · have := congrArg (fun z => z.testBit 0) h
      simp only [Nat.testBit_or, Nat.testBit_div_two_pow, one_bit, Nat.zero_add] at this
      simpa using this
    · have := congrArg (fun z => z.testBit (k - i)) h
      simp only [Nat.testBit_or, Nat.testBit_div_two_pow, one_bit, show k - i + i = k by omega] at this
      have h0 : ¬ k - i = 0 := by omega
      simpa [h0] using this
  · rintro ⟨h1, h2⟩
    refine Nat.eq_of_testBit_eq fun k => ?_
    rw [Nat.testBit_or, Nat.testBit_div_two_pow, Nat.testBit_div_two_pow, one_bit]
    by_cases h : k = 0
    · subst h; simp [h1]
    · rw [h2 (k + i) (by omega)]; simp [h]
section
variable {rows : List Nat} {w m i : Nat}
theorem clo_le_of {a c : Nat} (hc : clo rows w c = c) (h : sub a c = true) : sub (clo rows w a) c = true := by
  have := clo_mono (rows := rows) (w := w) h
  rw [hc] at this
  exact this
theorem seed_lt (hm : m < 2 ^ w) (hi : i < w) : seed m i < 2 ^ w := lt_pow_of fun k hk => by
  rw [testBit_seed, testBit_ge hm hk]
  have : ¬ k = i := by omega
  simp [this]
/-- a closed set above m fits at the place where it first differs -/
theorem fits_of (hm : m < 2 ^ w) {c : Nat} (hc : c < 2 ^ w) (hcl : clo rows w c = c) {j : Nat} (h1 : c.testBit j = true) (h2 : m.testBit j = false) (h3 : ∀ k, j < k → c.testBit k = m.testBit k) :
    j < w ∧ sub (clo rows w (seed m j)) c = true ∧ clo rows w (seed m j) / 2 ^ j = (m / 2 ^ j ||| 1) := by
  have hj : j < w := by
    rcases Nat.lt_or_ge j w with z | z
    · exact z
    · rw [testBit_ge hc z] at h1; cases h1
  have hs : sub (seed m j) c = true := sub_true.mpr fun k hk => by
    rw [testBit_seed, Bool.and_eq_true, decide_eq_true_eq, Bool.or_eq_true, decide_eq_true_eq] at hk
    obtain ⟨h4, h5⟩ := hk
    rcases Nat.lt_or_ge j k with z | z
    · rw [h3 k z]
      rcases h5 with h5 | h5
      · exact h5
      · omega
    · have : k = j := by omega
      subst this; exact h1
  have hs2 := clo_le_of hcl hs
  have he : sub (seed m j) (clo rows w (seed m j)) = true := clo_ext (seed_lt hm hj)
  refine ⟨hj, hs2, fits_iff.mpr ⟨?_, fun k hk => ?_⟩⟩
  · refine sub_true.mp he j ?_
    rw [testBit_seed]; simp
  · have hb := sub_true.mp hs2 k
    have hb2 := sub_true.mp he k
    rw [testBit_seed] at hb2
    have : decide (j ≤ k) = true := by rw [decide_eq_true_eq]; omega
    rw [this] at hb2
    rw [h3 k hk] at hb
    cases e : m.testBit k with
    | true => exact hb2 (by rw [e]; rfl)
    | false =>
      cases e2 : (clo rows w (seed m j)).testBit k with
      | false => rfl
      | true => rw [← e]; exact (hb e2).symm ▸ rfl
theorem next_some (hm : m < 2 ^ w) (hi : i < w) (hbit : m.testBit i = false) (hfit : clo rows w (seed m i) / 2 ^ i = (m / 2 ^ i ||| 1))
    (hno : ∀ j, j < i → m.testBit j = false → ¬ clo rows w (seed m j) / 2 ^ j = (m / 2 ^ j ||| 1)) :
    m < clo rows w (seed m i) ∧ clo rows w (seed m i) < 2 ^ w ∧ ∀ c, m < c → c < clo rows w (seed m i) → ¬ clo rows w c = c := by
  obtain ⟨f1, f2⟩ := fits_iff.mp hfit
  refine ⟨lt_of_bit i hbit f1 fun k hk => (f2 k hk).symm, clo_lt _ _ _, fun c h1 h2 hcl => ?_⟩
  obtain ⟨j, g1, g2, g3⟩ := high_bit h1
  obtain ⟨hj, g4, g5⟩ := fits_of hm (Nat.lt_trans h2 (clo_lt _ _ _)) hcl g1 g2 g3
  rcases Nat.lt_trichotomy j i with z | z | z
  · exact hno j z g2 g5
  · subst z
    have := sub_le g4
    omega
  · have : clo rows w (seed m i) < c := lt_of_bit j (by rw [f2 j z]; exact g2) g1 fun k hk => by rw [f2 k (by omega), g3 k hk]
    omega
theorem next_none (hm : m < 2 ^ w) (hno : ∀ j, j < w → m.testBit j = false → ¬ clo rows w (seed m j) / 2 ^ j = (m / 2 ^ j ||| 1)) : ∀ c, m < c → c < 2 ^ w → ¬ clo rows w c = c := fun c h1 h2 hcl => by
  obtain ⟨j, g1, g2, g3⟩ := high_bit h1
  obtain ⟨hj, g4, g5⟩ := fits_of hm h2 hcl g1 g2 g3
  exact hno j hj g2 g5
end
/-- the closed sets, rising -/
def cls (rows : List Nat) (w n : Nat) : List Nat := (List.range n).filter fun m => isCl rows w m
def ids (rows : List Nat) (w n : Nat) : List (Nat × Nat) := (cls rows w n).map fun m => (hav rows m, m)
theorem mem_cls {rows : List Nat} {w n m : Nat} : m ∈ cls rows w n ↔ m < n ∧ clo rows w m = m := by
  unfold cls
  rw [List.mem_filter, List.mem_range, isCl_iff]
theorem cls_next {rows : List Nat} {w c : Nat} : ∀ {n : Nat}, c < n → clo rows w c = c → (∀ k, c < k → k < n → ¬ clo rows w k = k) → cls rows w n = cls rows w c ++ [c] := by
  intro n
  induction n with
  | zero => intro h; omega
  | succ n ih =>
    intro h hc hno
    have e : cls rows w (n + 1) = cls rows w n ++ (if isCl rows w n = true then [n] else []) := by
      unfold cls
      rw [List.range_succ, List.filter_append]
      congr 1
      by_cases h : isCl rows w n = true <;> simp [h]
    rw [e]
    rcases Nat.lt_or_ge c n with z | z
    · rw [ih z hc fun k h1 h2 => hno k h1 (by omega), if_neg]
      · simp
      · rw [isCl_iff]; exact hno n z (by omega)
    · have : c = n := by omega
      subst this
      rw [if_pos (isCl_iff.mpr hc)]
theorem cls_first (rows : List Nat) (w : Nat) : cls rows w (clo rows w 0) = [] := by
  unfold cls
  rw [List.filter_eq_nil_iff]
  intro m hm
  rw [List.mem_range] at hm
  rw [isCl_iff]
  intro h
  have := sub_le (clo_le_of (rows := rows) (w := w) h (show sub 0 m = true from sub_true.mpr fun k hk => by simp at hk))
  omega
theorem ids_next {rows : List Nat} {w c n : Nat} (h : c < n) (hc : clo rows w c = c) (hno : ∀ k, c < k → k < n → ¬ clo rows w k = k) : ids rows w n = ids rows w c ++ [(hav rows c, c)] := by
  unfold ids
  rw [cls_next h hc hno, List.map_append]
  rfl
theorem cls_length (rows : List Nat) (w n : Nat) : (cls rows w n).length ≤ n := by
  unfold cls
  exact Nat.le_trans (List.length_filter_le _ _) (by simp)
theorem ids_length (rows : List Nat) (w n : Nat) : (ids rows w n).length ≤ n := by
  unfold ids
  rw [List.length_map]
  exact cls_length _ _ _
theorem cls_sorted (rows : List Nat) (w n : Nat) : (cls rows w n).Pairwise (· < ·) := List.Pairwise.filter _ List.pairwise_lt_range
end Tq
set_option Elab.async false
set_option linter.all false
set_option autoImplicit false
set_option maxHeartbeats 4000000
namespace Tq
open PySem PySem.Spec L2
/-! ### the least row -/
def lst (rows : List Nat) (w : Nat) : Nat → List (Nat × Nat)
  | 0 => []
  | n + 1 => lst rows w n ++ if ((lst rows w n).findIdx? fun r => brk n r) = none ∧ clo rows w n ≠ n then [(n, clo rows w n ^^^ n)] else []
theorem lst_length (rows : List Nat) (w : Nat) : ∀ n, (lst rows w n).length ≤ n
  | 0 => Nat.le_refl _
  | n + 1 => by
    have := lst_length rows w n
    unfold lst
    rw [List.length_append]
    split
    · rw [List.length_singleton]; omega
    · rw [List.length_nil]; omega
theorem lst_mem_lt {rows : List Nat} {w : Nat} : ∀ {n : Nat} {r : Nat × Nat}, r ∈ lst rows w n → r.1 < n ∧ r.2 = clo rows w r.1 ^^^ r.1 ∧ clo rows w r.1 ≠ r.1
  | n + 1, r, h => by
    unfold lst at h
    rcases List.mem_append.mp h with z | z
    · obtain ⟨h1, h2⟩ := lst_mem_lt z
      exact ⟨by omega, h2⟩
    · split at z
      · rename_i c
        rw [List.mem_singleton] at z
        subst z
        exact ⟨by omega, rfl, c.2⟩
      · cases z
theorem lst_sub {rows : List Nat} {w m : Nat} {r : Nat × Nat} (h : r ∈ lst rows w m) : ∀ {n : Nat}, m ≤ n → r ∈ lst rows w n
  | 0, hn => by
    have : m = 0 := by omega
    subst this; exact h
  | n + 1, hn => by
    rcases Nat.lt_or_ge m (n + 1) with z | z
    · unfold lst
      exact List.mem_append_left _ (lst_sub h (by omega))
    · have : m = n + 1 := by omega
      subst this; exact h
/-- a set in which no rule of the least row is broken is closed -/
theorem lst_whole {rows : List Nat} {w m n : Nat} (hm : m < n) (hn : n ≤ 2 ^ w) (h : ∀ r ∈ lst rows w n, brk m r = false) : clo rows w m = m := by
  by_cases hc : clo rows w m = m
  · exact hc
  · exfalso
    have h1 : ((lst rows w m).findIdx? fun r => brk m r) = none := by
      rw [List.findIdx?_eq_none_iff]
      exact fun r hr => h r (lst_sub hr (by omega))
    have h2 : (m, clo rows w m ^^^ m) ∈ lst rows w (m + 1) := by
      unfold lst
      rw [if_pos ⟨h1, hc⟩]
      exact List.mem_append_right _ (List.mem_singleton.mpr rfl)
    have h3 := nobrk (h _ (lst_sub h2 hm)) (sub_refl m)
    refine hc (Nat.eq_of_testBit_eq fun k => ?_)
    have h4 := sub_true.mp h3 k
    rw [Nat.testBit_xor] at h4
    cases e : m.testBit k with
    | true =>
      rw [e] at h4
      cases e2 : (clo rows w m).testBit k with
      | true => rfl
      | false =>
        rcases Nat.lt_or_ge m (2 ^ w) with z | z
        · rw [sub_true.mp (clo_ext z) k e] at e2; cases e2
        · exact absurd z (by omega)
    | false =>
      rw [e] at h4
      cases e2 : (clo rows w m).testBit k with
      | false => rfl
      | true => rw [e2] at h4; simp at h4
/-- each rule of the least row holds -/
theorem lst_holds {rows : List Nat} {w n : Nat} (hn : n ≤ 2 ^ w) {r : Nat × Nat} (hr : r ∈ lst rows w n) : r.2 < 2 ^ w ∧ ∀ t, t < rows.length → brk (rows.getD t 0) r = false := by
  obtain ⟨h1, h2, _⟩ := lst_mem_lt hr
  refine ⟨by rw [h2]; exact Nat.xor_lt_two_pow (clo_lt _ _ _) (by omega), fun t ht => ?_⟩
  cases e : brk (rows.getD t 0) r with
  | false => rfl
  | true =>
    obtain ⟨b1, b2⟩ := brk_iff.mp e
    have h3 := clo_row (w := w) ht b1
    have h4 : sub r.2 (rows.getD t 0) = true := sub_true.mpr fun k hk => by
      rw [h2, Nat.testBit_xor] at hk
      cases e2 : (clo rows w r.1).testBit k with
      | true => exact sub_true.mp h3 k e2
      | false =>
        rw [e2] at hk
        exact sub_true.mp b1 k (by simpa using hk)
    rw [h4] at b2
    cases b2
/-- what holds in all rows is in the closed set -/
theorem clo_rule {rows : List Nat} {w : Nat} {r : Nat × Nat} (h2 : r.2 < 2 ^ w) (h : ∀ t, t < rows.length → brk (rows.getD t 0) r = false) : sub r.2 (clo rows w r.1) = true := sub_true.mpr fun k hk => by
  rw [testBit_clo, decide_eq_true_eq]
  refine ⟨?_, fun t ht hs => sub_true.mp (nobrk (h t ht) hs) k hk⟩
  rcases Nat.lt_or_ge k w with z | z
  · exact z
  · rw [testBit_ge h2 z] at hk; cases hk
theorem clo_take {rows : List Nat} {w m i : Nat} (hi : i < rows.length) : clo (rows.take (i + 1)) w m = if sub m rows[i] = true then clo (rows.take i) w m &&& rows[i] else clo (rows.take i) w m := by
  have key : ∀ j k, j ≤ rows.length → ((clo (rows.take j) w m).testBit k = true ↔ (k < w ∧ ∀ t, t < j → sub m (rows.getD t 0) = true → (rows.getD t 0).testBit k = true)) := fun j k hj => by
    rw [testBit_clo, decide_eq_true_eq, List.length_take, Nat.min_eq_left hj]
    refine and_congr Iff.rfl ⟨fun h t ht => ?_, fun h t ht => ?_⟩
    · have := h t ht
      rw [List.getD_eq_getElem?_getD, List.getElem?_take_of_lt ht, ← List.getD_eq_getElem?_getD] at this
      exact this
    · rw [List.getD_eq_getElem?_getD, List.getElem?_take_of_lt ht, ← List.getD_eq_getElem?_getD]
      exact h t ht
  have e : rows.getD i 0 = rows[i] := getD_at _ _ _ hi
  refine Nat.eq_of_testBit_eq fun k => ?_
  rw [Bool.eq_iff_iff, key _ _ (by omega)]
  split
  · rename_i hs
    rw [Nat.testBit_and, Bool.and_eq_true, key _ _ (by omega)]
    constructor
    · rintro ⟨h1, h2⟩
      exact ⟨⟨h1, fun t ht => h2 t (by omega)⟩, e ▸ h2 i (by omega) (e ▸ hs)⟩
    · rintro ⟨⟨h1, h2⟩, h3⟩
      refine ⟨h1, fun t ht hs2 => ?_⟩
      rcases Nat.lt_or_ge t i with z | z
      · exact h2 t z hs2
      · have : t = i := by omega
        subst this; rw [e]; exact h3
  · rename_i hs
    rw [key _ _ (by omega)]
    refine and_congr Iff.rfl ⟨fun h t ht => h t (by omega), fun h t ht hs2 => ?_⟩
    rcases Nat.lt_or_ge t i with z | z
    · exact h t z hs2
    · have : t = i := by omega
      subst this
      rw [e] at hs2
      exact absurd hs2 hs
end Tq
namespace Tq
open PySem PySem.Spec L2
theorem cutL_mem {α : Type} {xs : List α} {lo hi : Option Int} {x : α} (h : x ∈ cutL xs lo hi) : x ∈ xs := by
  unfold cutL at h
  exact List.mem_of_mem_drop (List.mem_of_mem_take h)
end Tq
namespace Tq
open PySem PySem.Spec L2
/-- a closed set keeps each rule of the least row -/
theorem lst_keeps {rows : List Nat} {w n : Nat} (hn : n ≤ 2 ^ w) {r : Nat × Nat} (hr : r ∈ lst rows w n) {c : Nat} (hc : clo rows w c = c) : brk c r = false := by
  obtain ⟨h1, h2, _⟩ := lst_mem_lt hr
  cases e : brk c r with
  | false => rfl
  | true =>
    obtain ⟨b1, b2⟩ := brk_iff.mp e
    have h3 := clo_le_of hc b1
    have h4 : sub r.2 c = true := sub_true.mpr fun k hk => by
      rw [h2, Nat.testBit_xor] at hk
      cases e2 : (clo rows w r.1).testBit k with
      | true => exact sub_true.mp h3 k e2
      | false =>
        rw [e2] at hk
        exact sub_true.mp b1 k (by simpa using hk)
    rw [h4] at b2
    cases b2
/-- grown by the least row is the closed set -/
theorem lst_grown {rows : List Nat} {w m t : Nat} (hm : m < 2 ^ w) (ht : t < 2 ^ w) (h1 : sub m t = true) (h2 : ∀ r ∈ lst rows w (2 ^ w), brk t r = false) (h3 : ∀ u, sub m u = true → (∀ r ∈ lst rows w (2 ^ w), brk u r = false) → sub t u = true) : t = clo rows w m :=
  sub_antisymm (h3 _ (clo_ext hm) fun r hr => lst_keeps (Nat.le_refl _) hr (clo_idem _ _ _)) (clo_le_of (lst_whole ht (Nat.le_refl _) h2) h1)
end Tq
namespace Tq
open PySem PySem.Spec L2
theorem for_rngC (lo c : Int) (n : Nat) (I : Nat → DEnv → Prop) {ρ : DEnv} {B : (Nat → DEnv → Prop) → Nat → Dt → DEnv → Prop} {Z : DEnv → Prop} (h0 : ∃ ρ', Wk ρ ρ' ∧ I 0 ρ')
    (hs : ∀ (i : Nat) (h : i < n) (ρ' : DEnv), I i ρ' → B I i (.int (lo + (i : Int) * c)) ρ') (hd : ∀ ρ', I n ρ' → Z ρ') :
    ∃ W : Nat → DEnv → Prop, (∃ ρ', Wk ρ ρ' ∧ W 0 ρ') ∧ (∀ i x ρ', (rngC lo c n)[i]? = some x → W i ρ' → B W i x ρ') ∧ ∀ ρ', W (rngC lo c n).length ρ' → Z ρ' := by
  refine ⟨I, h0, fun i x ρ' hx hw => ?_, fun ρ' h => hd ρ' (by rw [rngC_length] at h; exact h)⟩
  obtain ⟨hi, rfl⟩ := rngC_at hx
  exact hs i hi ρ' hw
end Tq
set_option Elab.async false
set_option linter.all false
set_option autoImplicit false
set_option maxHeartbeats 4000000
namespace Tq
open PySem PySem.Spec L2
/-! ### dicts with whole numbers as keys -/
instance decKey (k : Key) (l : List Key) : Decidable (k ∈ l) := decidable_of_iff ((l.any fun x => decide (x = k)) = true) (by
  rw [List.any_eq_true]
  constructor
  · rintro ⟨x, hx, h⟩; have e : x = k := by simpa using h
    exact e ▸ hx
  · exact fun h => ⟨k, h, by simp⟩)
theorem putD_keys (ds : List (Key × Dt)) (k : Key) (x : Dt) : (putD ds k x).map (·.1) = if k ∈ ds.map (·.1) then ds.map (·.1) else ds.map (·.1) ++ [k] := by
  unfold putD
  have e : (ds.any fun kv => decide (kv.1 = k)) = decide (k ∈ ds.map (·.1)) := by
    rw [Bool.eq_iff_iff, List.any_eq_true, decide_eq_true_eq, List.mem_map]
    constructor
    · rintro ⟨p, hp, h⟩; exact ⟨p, hp, by simpa using h⟩
    · rintro ⟨p, hp, h⟩; exact ⟨p, hp, by simpa using h⟩
  rw [e]
  by_cases h : k ∈ ds.map (·.1)
  · rw [if_pos h, if_pos (by simpa using h), List.map_map]
    refine List.map_congr_left fun p _ => ?_
    show (if p.1 = k then (p.1, x) else p).1 = p.1
    split <;> rfl
  · rw [if_neg h, if_neg (by simpa using h), List.map_append]
    rfl
theorem valD_put (ds : List (Key × Dt)) (k j : Key) (x : Dt) : valD (putD ds k x) j = if j = k then some x else valD ds j := by
  unfold putD
  split
  · rename_i h
    induction ds with
    | nil => simp at h
    | cons p r ih =>
      unfold valD at ih ⊢
      by_cases hp : p.1 = k
      · by_cases hj : j = k
        · subst hj; simp [hp]
        · have hpj : ¬ p.1 = j := fun z => hj (z.symm.trans hp)
          have hk : ¬ k = j := fun z => hj z.symm
          simp only [List.map_cons, hp, if_true, List.find?_cons, hk, decide_false, hj, if_false]
          by_cases hr : (r.any fun kv => decide (kv.1 = k)) = true
          · have := ih hr
            rw [if_neg hj] at this
            exact this
          · have e : (r.map fun kv => if kv.1 = k then (kv.1, x) else kv) = r := by
              rw [List.map_congr_left (g := id) fun q hq => ?_, List.map_id]
              rw [if_neg]; · rfl
              intro z
              exact hr (List.any_eq_true.mpr ⟨q, hq, by simpa using z⟩)
            rw [e]
      · have hr : (r.any fun kv => decide (kv.1 = k)) = true := by simpa [List.any_cons, hp] using h
        by_cases hj : p.1 = j
        · have hjk : ¬ j = k := fun z => hp (hj.trans z)
          simp [hp, hj, hjk]
        · have := ih hr
          simp only [List.map_cons, hp, if_false, List.find?_cons, hj, decide_false]
          exact this
  · rename_i h
    have hn : ∀ p ∈ ds, ¬ p.1 = k := fun p hp z => h (List.any_eq_true.mpr ⟨p, hp, by simpa using z⟩)
    unfold valD
    rw [List.find?_append]
    by_cases hj : j = k
    · subst hj
      have : (ds.find? fun kv => decide (kv.1 = j)) = none := by
        rw [List.find?_eq_none]
        exact fun p hp => by simpa using hn p hp
      rw [this]; simp
    · have hk : ¬ k = j := fun z => hj z.symm
      cases e : (ds.find? fun kv => decide (kv.1 = j)) <;> simp [hj, hk]
theorem valD_some {ds : List (Key × Dt)} {k : Key} : (valD ds k).isSome = decide (k ∈ ds.map (·.1)) := by
  unfold valD
  rw [Bool.eq_iff_iff, Option.isSome_map, List.find?_isSome, decide_eq_true_eq, List.mem_map]
  constructor
  · rintro ⟨p, hp, h⟩; exact ⟨p, hp, by simpa using h⟩
  · rintro ⟨p, hp, h⟩; exact ⟨p, hp, by simpa using h⟩
/-- sorted lists of the same numbers, each once, are the same -/
theorem sorted_same : ∀ {xs ys : List Nat}, xs.Pairwise (· < ·) → ys.Pairwise (· < ·) → (∀ k, k ∈ xs ↔ k ∈ ys) → xs = ys
  | [], [], _, _, _ => rfl
  | [], y :: ys, _, _, h => absurd ((h y).mpr (by simp)) (by simp)
  | x :: xs, [], _, _, h => absurd ((h x).mp (by simp)) (by simp)
  | x :: xs, y :: ys, h1, h2, h => by
    rw [List.pairwise_cons] at h1 h2
    have e : x = y := by
      have a := (h x).mp (by simp)
      have b := (h y).mpr (by simp)
      rcases List.mem_cons.mp a with z | z
      · exact z
      · rcases List.mem_cons.mp b with q | q
        · exact q.symm
        · have := h1.1 y q
          have := h2.1 x z
          omega
    subst e
    rw [sorted_same h1.2 h2.2 fun k => ?_]
    constructor
    · intro hk
      rcases List.mem_cons.mp ((h k).mp (List.mem_cons_of_mem _ hk)) with z | z
      · subst z; exact absurd (h1.1 k hk) (by omega)
      · exact z
    · intro hk
      rcases List.mem_cons.mp ((h k).mpr (List.mem_cons_of_mem _ hk)) with z | z
      · subst z; exact absurd (h2.1 k hk) (by omega)
      · exact z
/-- the keys of a dict are just the numbers of ks -/
def KeysN (ds : List (Key × Dt)) (ks : List Nat) : Prop := ds.map (·.1) = ks.map (fun (k : Nat) => Sum.inl (k : Int)) ∧ ks.Nodup
theorem KeysN.mem {ds : List (Key × Dt)} {ks : List Nat} (h : KeysN ds ks) {k : Nat} : ((Sum.inl (k : Int) : Key) ∈ ds.map (·.1)) ↔ k ∈ ks := by
  rw [h.1, List.mem_map]
  constructor
  · rintro ⟨j, hj, e⟩
    have : (j : Int) = (k : Int) := Sum.inl.inj e
    have : j = k := by omega
    exact this ▸ hj
  · exact fun hk => ⟨k, hk, rfl⟩
theorem KeysN.put {ds : List (Key × Dt)} {ks : List Nat} (h : KeysN ds ks) (k : Nat) (x : Dt) : KeysN (putD ds (.inl (k : Int)) x) (if k ∈ ks then ks else ks ++ [k]) := by
  unfold KeysN
  rw [putD_keys]
  by_cases hk : k ∈ ks
  · rw [if_pos (h.mem.mpr hk), if_pos hk]; exact h
  · rw [if_neg (fun z => hk (h.mem.mp z)), if_neg hk, h.1, List.map_append]
    refine ⟨rfl, ?_⟩
    rw [List.nodup_append]
    refine ⟨h.2, by simp, ?_⟩
    rintro a ha b hb rfl
    simp at hb
    exact hk (hb ▸ ha)
theorem KeysN.sorted {ds : List (Key × Dt)} {ks : List Nat} (h : KeysN ds ks) {cs : List Nat} (hc : cs.Pairwise (· < ·)) (hm : ∀ k, k ∈ ks ↔ k ∈ cs) :
    ∃ zs : List Int, ds.map (·.1) = zs.map Sum.inl ∧ ∀ ys : List Int, ys.Perm zs → ys.Pairwise (· ≤ ·) → Dt.lst (ys.map Dt.int) = nats cs := by
  refine ⟨ks.map fun (k : Nat) => (k : Int), by rw [h.1, List.map_map]; rfl, fun ys hp ho => ?_⟩
  have hpos : ∀ y ∈ ys, 0 ≤ y := fun y hy => by
    obtain ⟨k, _, rfl⟩ := List.mem_map.mp (hp.mem_iff.mp hy)
    exact Int.natCast_nonneg k
  have hback : ys = (ys.map Int.toNat).map fun (k : Nat) => (k : Int) := by
    rw [List.map_map, List.map_congr_left (g := id) fun y hy => ?_, List.map_id]
    show ((y.toNat : Nat) : Int) = y
    exact Int.toNat_of_nonneg (hpos y hy)
  have hp2 : (ys.map Int.toNat).Perm ks := by
    have := hp.map Int.toNat
    rw [List.map_map] at this
    have e : (ks.map (Int.toNat ∘ fun (k : Nat) => (k : Int))) = ks := by
      rw [List.map_congr_left (g := id) fun y hy => ?_, List.map_id]
      rfl
    rw [e] at this
    exact this
  have hn : (ys.map Int.toNat).Nodup := hp2.nodup_iff.mpr h.2
  have hs : (ys.map Int.toNat).Pairwise (· ≤ ·) := by
    rw [List.pairwise_map]
    exact ho.imp fun {a b} hab => Int.toNat_le_toNat hab
  have hlt : (ys.map Int.toNat).Pairwise (· < ·) := by
    have := List.Pairwise.and hs hn
    exact this.imp fun {a b} ⟨h1, h2⟩ => Nat.lt_of_le_of_ne h1 h2
  have e := sorted_same hlt hc fun k => (hp2.mem_iff).trans (hm k)
  rw [hback, e, List.map_map]
  rfl
end Tq
set_option Elab.async false
set_option linter.all false
set_option autoImplicit false
set_option maxHeartbeats 4000000
namespace Tq
open PySem PySem.Spec L2
/-! ### the starts of the least row -/
theorem lst_mem_at {rows : List Nat} {w : Nat} : ∀ {n : Nat} {r : Nat × Nat}, r ∈ lst rows w n → r ∈ lst rows w (r.1 + 1) ∧ ∀ q ∈ lst rows w r.1, brk r.1 q = false
  | n + 1, r, h => by
    have h0 := h
    unfold lst at h
    rcases List.mem_append.mp h with z | z
    · exact lst_mem_at z
    · split at z
      · rename_i c
        rw [List.mem_singleton] at z
        subst z
        exact ⟨h0, find_none_all c.1⟩
      · cases z
/-- a start keeps each rule of the least row but its own -/
theorem lst_start_keeps {rows : List Nat} {w n : Nat} {r q : Nat × Nat} (hr : r ∈ lst rows w n) (hq : q ∈ lst rows w n) (hne : q.1 ≠ r.1) : brk r.1 q = false := by
  cases e : brk r.1 q with
  | false => rfl
  | true =>
    obtain ⟨b1, b2⟩ := brk_iff.mp e
    have h1 := sub_le b1
    have h2 := lst_sub (lst_mem_at hq).1 (show q.1 + 1 ≤ r.1 by omega)
    rw [(lst_mem_at hr).2 q h2] at e
    cases e
theorem lst_rising (rows : List Nat) (w : Nat) : ∀ n, (lst rows w n).Pairwise fun a b => a.1 < b.1
  | 0 => List.Pairwise.nil
  | n + 1 => by
    unfold lst
    rw [List.pairwise_append]
    refine ⟨lst_rising rows w n, ?_, fun a ha b hb => ?_⟩
    · split
      · exact List.pairwise_singleton _ _
      · exact List.Pairwise.nil
    · split at hb
      · rw [List.mem_singleton] at hb
        subst hb
        exact (lst_mem_lt ha).1
      · cases hb
theorem lst_start {rows : List Nat} {w n m : Nat} (hm : m < n) (hc : clo rows w m ≠ m) (h : ∀ q ∈ lst rows w n, q.1 ≠ m → brk m q = false) : (m, clo rows w m ^^^ m) ∈ lst rows w n := by
  refine lst_sub (m := m + 1) ?_ hm
  unfold lst
  have h1 : ((lst rows w m).findIdx? fun r => brk m r) = none := by
    rw [List.findIdx?_eq_none_iff]
    intro q hq
    refine h q (lst_sub hq (by omega)) ?_
    have := (lst_mem_lt hq).1
    omega
  rw [if_pos ⟨h1, hc⟩]
  exact List.mem_append_right _ (List.mem_singleton.mpr rfl)
theorem nodup_le : ∀ {n : Nat} {l : List Nat}, l.Nodup → (∀ x ∈ l, x < n) → l.length ≤ n
  | 0, [], _, _ => Nat.le_refl _
  | 0, x :: l, _, h => absurd (h x (by simp)) (by omega)
  | n + 1, l, hn, h => by
    by_cases hm : n ∈ l
    · have h1 := nodup_le (n := n) (hn.erase n) fun x hx => by
        have := (hn.mem_erase_iff).mp hx
        have := h x this.2
        omega
      rw [List.length_erase_of_mem hm] at h1
      omega
    · have := nodup_le (n := n) hn fun x hx => by
        have h1 := h x hx
        have : x ≠ n := fun z => hm (z ▸ hx)
        omega
      omega
theorem xor_sub {a c b : Nat} (h1 : sub a b = true) (h2 : sub (c ^^^ a) b = true) : sub c b = true := sub_true.mpr fun k hk => by
  cases e : a.testBit k with
  | true => exact sub_true.mp h1 k e
  | false => exact sub_true.mp h2 k (by rw [Nat.testBit_xor, hk, e]; rfl)
theorem sub_and {a b c : Nat} (h1 : sub a b = true) (h2 : sub a c = true) : sub a (b &&& c) = true := sub_true.mpr fun k hk => by
  rw [Nat.testBit_and, sub_true.mp h1 k hk, sub_true.mp h2 k hk]; rfl
theorem and_sub_left (a b : Nat) : sub (a &&& b) a = true := sub_true.mpr fun k hk => by
  rw [Nat.testBit_and, Bool.and_eq_true] at hk; exact hk.1
theorem and_sub_right (a b : Nat) : sub (a &&& b) b = true := sub_true.mpr fun k hk => by
  rw [Nat.testBit_and, Bool.and_eq_true] at hk; exact hk.2
/-- a rule that holds is not due at two starts -/
theorem lst_apart {rows : List Nat} {w : Nat} {r q f : Nat × Nat} (hr : r ∈ lst rows w (2 ^ w)) (hq : q ∈ lst rows w (2 ^ w)) (hne : r.1 ≠ q.1) (hf : sub f.2 (clo rows w f.1) = true) (b1 : brk r.1 f = true) (b2 : brk q.1 f = true) : False := by
  have key : ∀ {r q : Nat × Nat}, r ∈ lst rows w (2 ^ w) → q ∈ lst rows w (2 ^ w) → r.1 ≠ q.1 → brk r.1 f = true → brk q.1 f = true → sub r.1 q.1 = true → False := fun {r q} hr hq hne b1 b2 h => by
    have h1 := nobrk (lst_start_keeps hq hr hne) h
    rw [(lst_mem_lt hr).2.1] at h1
    have h2 := xor_sub h h1
    have h3 := sub_trans hf (sub_trans (clo_mono (brk_iff.mp b1).1) h2)
    rw [(brk_iff.mp b2).2] at h3
    cases h3
  by_cases h1 : sub r.1 q.1 = true
  · exact key hr hq hne b1 b2 h1
  by_cases h2 : sub q.1 r.1 = true
  · exact key hq hr hne.symm b2 b1 h2
  have hlt : r.1 &&& q.1 < 2 ^ w := sub_lt (and_sub_left _ _) (lst_mem_lt hr).1
  have hc : clo rows w (r.1 &&& q.1) = r.1 &&& q.1 := lst_whole hlt (Nat.le_refl _) fun R hR => by
    cases e : brk (r.1 &&& q.1) R with
    | false => rfl
    | true =>
      obtain ⟨e1, e2⟩ := brk_iff.mp e
      have g1 := sub_trans e1 (and_sub_left _ _)
      have g2 := sub_trans e1 (and_sub_right _ _)
      have n1 : R.1 ≠ r.1 := fun z => h1 (z ▸ g2)
      have n2 : R.1 ≠ q.1 := fun z => h2 (z ▸ g1)
      rw [sub_and (nobrk (lst_start_keeps hr hR n1) g1) (nobrk (lst_start_keeps hq hR n2) g2)] at e2
      cases e2
  have h3 := sub_trans hf (clo_le_of hc (sub_and (brk_iff.mp b1).1 (brk_iff.mp b2).1))
  have h4 := sub_trans h3 (and_sub_left _ _)
  rw [(brk_iff.mp b1).2] at h4
  cases h4
/-- no smaller list of rules that hold is due at each start -/
theorem lst_fewest {rows : List Nat} {w : Nat} {fs : List (Nat × Nat)} (hf : ∀ f ∈ fs, sub f.2 (clo rows w f.1) = true) (h : ∀ r ∈ lst rows w (2 ^ w), ∃ j, ∃ hj : j < fs.length, brk r.1 fs[j] = true) : (lst rows w (2 ^ w)).length ≤ fs.length := by
  let g : Nat × Nat → Nat := fun r => (fs.findIdx? fun f => brk r.1 f).getD 0
  have hg : ∀ r ∈ lst rows w (2 ^ w), ∃ hj : g r < fs.length, brk r.1 fs[g r] = true := fun r hr => by
    cases e : fs.findIdx? fun f => brk r.1 f with
    | none =>
      obtain ⟨j, hj, hb⟩ := h r hr
      rw [find_none_all e _ (List.getElem_mem hj)] at hb
      cases hb
    | some k =>
      have e2 : g r = k := by show (fs.findIdx? fun f => brk r.1 f).getD 0 = k; rw [e]; rfl
      obtain ⟨hk, hb⟩ := find_some_at e
      exact ⟨e2 ▸ hk, by simp only [e2]; exact hb⟩
  have hn : ((lst rows w (2 ^ w)).map g).Nodup := by
    rw [List.Nodup, List.pairwise_map]
    refine (lst_rising rows w (2 ^ w)).imp_of_mem fun {a b} ha hb hab => ?_
    intro e
    obtain ⟨h1, h2⟩ := hg a ha
    obtain ⟨h3, h4⟩ := hg b hb
    refine lst_apart ha hb (by omega) (hf _ (List.getElem_mem h1)) h2 ?_
    simp only [e]
    exact h4
  have := nodup_le hn (n := fs.length) fun x hx => by
    obtain ⟨r, hr, rfl⟩ := List.mem_map.mp hx
    exact (hg r hr).1
  rw [List.length_map] at this
  exact this
theorem putD_len (ds : List (Key × Dt)) (k : Key) (x : Dt) : (putD ds k x).length ≤ ds.length + 1 := by
  unfold putD
  split
  · rw [List.length_map]; omega
  · rw [List.length_append, List.length_singleton]; exact Nat.le_refl _
end Tq

set_option Elab.async false
set_option linter.all false
set_option autoImplicit false
set_option maxRecDepth 100000
set_option maxHeartbeats 4000000

namespace Tq
open PySem PySem.Spec L2
open PyProof.Rows hiding St

local macro_rules
  | `(tactic| push_cast [$as,*]) => `(tactic| simp only [$as,*, sSetKy, setKyS_ow, setKyK_int, setKyK_str, sSeq, sNil, sSet, sSetF, sRet, sRetN, sRetV, sIf, sApp, sSetIx, sAug, sAsg, sExpr, sPass, sBreak, sCont, sFz, frzE, hName, stor_fz, stor_vw, stor_fr, storF_fz, storF_vw, storF_fr, retV_fz, retV_vw, retV_ow, appS_ow, setIxS_ow, setIxZ_int, setIxN_some, augS_fz, hTup_tup, hsCons_cons, hsNil_nil, selS_t, selS_f, eDct, eDGet, eDIn, dGet_int, dGet_str, getD'_some, dInD_int, dInD_str, bSortedD_dct, dIsB_bl, dIsNotB_bl, iR3, r3P_int, bInt_int, bInt_bl, atI_3, band_one, bor_one, normA_rul, eVar, eC, eOp, eUn, eNot, eAnd, eOr, eIf, eChain, eSl, oNo, oPart, eTup, eLst, eCall, eCallN, eIsi, aNil, aCons, tB', bAnd, bOr, bNot, bYes, iLst, iTp, iR1, iR2, iEn, iZp, wipeD, allfz, dts, rdV_fz, rdV_vw, rdV_ow, dB_bl, selE_t, selE_f, selAnd_t, selAnd_f, selOr_t, selOr_f, dI0_int, dI_int, dI1_int, dAdd_int, dAdd_str, dAdd_lst, dIAdd_int, dIAdd_str, dMul_int, dEq_int, dEq_bl, dEq_str, dEq_lst, dEq_tup, dNe_int, dNe_bl, dNe_str, dNe_lst, dNe_tup, dIs_non, dIsNot_non, isNon_non, isNon_int, isNon_bl, isNon_str, isNon_lst, isNon_tup, dIn_lst, dIn_tup, dIx_lst, dIx_tup, dIx_str, optD_some, optB_some, optC_some, oPartK_int, dSl_lst, dSl_str, lstP_lst, tupP_tup, r1P_int, r2P_int, bLen_lst, bLen_tup, bLen_str, bList_lst, bList_tup, bDivmod_int, bAbs_int, bMax2_int, bMin2_int, bSorted_lst, bSum_lst, normA_lst, normA_tup, normA_int, normA_bl, normA_str, normA_non, normA_dct, norm_nil, norm_cons, kst_fz, kst_fr, kit_fz, kit_fr, kit_vw, karg_fz, karg_fr, karg_vw, karg_rd, iT_non_int, iT_non_list, iT_non_tuple, iT_non_str, iT_non_bool, iT_non_dict, iT_bl_int, iT_bl_list, iT_bl_tuple, iT_bl_str, iT_bl_bool, iT_bl_dict, iT_int_int, iT_int_list, iT_int_tuple, iT_int_str, iT_int_bool, iT_int_dict, iT_str_int, iT_str_list, iT_str_tuple, iT_str_str, iT_str_bool, iT_str_dict, iT_tup_int, iT_tup_list, iT_tup_tuple, iT_tup_str, iT_tup_bool, iT_tup_dict, iT_lst_int, iT_lst_list, iT_lst_tuple, iT_lst_str, iT_lst_bool, iT_lst_dict, iT_dct_int, iT_dct_list, iT_dct_tuple, iT_dct_str, iT_dct_bool, iT_dct_dict, startD, startS_nil, startS_fz, startS_rd, List.length_cons, List.length_nil, List.reduceReplicate, List.cons_append, List.nil_append, List.append_nil, List.set_cons_zero, List.set_cons_succ, List.getElem?_cons_zero, List.getElem?_cons_succ, Nat.reduceAdd, Nat.reduceSub, true_and, and_true, ↓reduceIte, Bool.false_eq_true, if_true, if_false, reduceCtorEq, atI_0, atI_1, atI_2, Bool.not_true, Bool.not_false, forall_const, band_nat, bor_nat, bxor_nat, shl_nat, shl1_nat, shr_nat, flat_int, flat_str, flat_bl, flat_non, flat_nats, flat_ints, flat_strs, inD_ints, inD_nats, inD_strs, eqG_ints, eqG_nats, eqG_ruls, Bool.bne_false, Bool.bne_true])
  | `(tactic| push_cast only [$as,*]) => `(tactic| simp only [$as,*, sFor, sForO, eLc, eDct, eDGet, eDIn, dGet_int, dGet_str, getD'_some, dInD_int, dInD_str, bSortedD_dct, dIsB_bl, dIsNotB_bl, iR3, r3P_int, bInt_int, bInt_bl, atI_3, band_one, bor_one, normA_rul, eVar, eC, eOp, eUn, eNot, eAnd, eOr, eIf, eChain, eSl, oNo, oPart, eTup, eLst, eCall, eCallN, eIsi, aNil, aCons, tB', bAnd, bOr, bNot, bYes, iLst, iTp, iR1, iR2, iEn, iZp, wipeD, allfz, dts, rdV_fz, rdV_vw, rdV_ow, dB_bl, selE_t, selE_f, selAnd_t, selAnd_f, selOr_t, selOr_f, dI0_int, dI_int, dI1_int, dAdd_int, dAdd_str, dAdd_lst, dIAdd_int, dIAdd_str, dMul_int, dEq_int, dEq_bl, dEq_str, dEq_lst, dEq_tup, dNe_int, dNe_bl, dNe_str, dNe_lst, dNe_tup, dIs_non, dIsNot_non, isNon_non, isNon_int, isNon_bl, isNon_str, isNon_lst, isNon_tup, dIn_lst, dIn_tup, dIx_lst, dIx_tup, dIx_str, optD_some, optB_some, optC_some, oPartK_int, dSl_lst, dSl_str, lstP_lst, tupP_tup, r1P_int, r2P_int, bLen_lst, bLen_tup, bLen_str, bList_lst, bList_tup, bDivmod_int, bAbs_int, bMax2_int, bMin2_int, bSorted_lst, bSum_lst, normA_lst, normA_tup, normA_int, normA_bl, normA_str, normA_non, normA_dct, norm_nil, norm_cons, kst_fz, kst_fr, kit_fz, kit_fr, kit_vw, karg_fz, karg_fr, karg_vw, karg_rd, iT_non_int, iT_non_list, iT_non_tuple, iT_non_str, iT_non_bool, iT_non_dict, iT_bl_int, iT_bl_list, iT_bl_tuple, iT_bl_str, iT_bl_bool, iT_bl_dict, iT_int_int, iT_int_list, iT_int_tuple, iT_int_str, iT_int_bool, iT_int_dict, iT_str_int, iT_str_list, iT_str_tuple, iT_str_str, iT_str_bool, iT_str_dict, iT_tup_int, iT_tup_list, iT_tup_tuple, iT_tup_str, iT_tup_bool, iT_tup_dict, iT_lst_int, iT_lst_list, iT_lst_tuple, iT_lst_str, iT_lst_bool, iT_lst_dict, iT_dct_int, iT_dct_list, iT_dct_tuple, iT_dct_str, iT_dct_bool, iT_dct_dict, startD, startS_nil, startS_fz, startS_rd, List.length_cons, List.length_nil, List.reduceReplicate, List.cons_append, List.nil_append, List.append_nil, List.set_cons_zero, List.set_cons_succ, List.getElem?_cons_zero, List.getElem?_cons_succ, Nat.reduceAdd, Nat.reduceSub, true_and, and_true, ↓reduceIte, Bool.false_eq_true, if_true, if_false, reduceCtorEq, atI_0, atI_1, atI_2, Bool.not_true, Bool.not_false, forall_const, band_nat, bor_nat, bxor_nat, shl_nat, shl1_nat, shr_nat, flat_int, flat_str, flat_bl, flat_non, flat_nats, flat_ints, flat_strs, inD_ints, inD_nats, inD_strs, eqG_ints, eqG_nats, eqG_ruls, Bool.bne_false, Bool.bne_true])
local macro_rules
  | `(tactic| walk_at "vx") => `(tactic| simp only [sSetKy, setKyS_ow, setKyK_int, setKyK_str, sSeq, sNil, sSet, sSetF, sRet, sRetN, sRetV, sIf, sApp, sSetIx, sAug, sAsg, sExpr, sPass, sBreak, sCont, sFz, frzE, hName, stor_fz, stor_vw, stor_fr, storF_fz, storF_vw, storF_fr, retV_fz, retV_vw, retV_ow, appS_ow, setIxS_ow, setIxZ_int, setIxN_some, augS_fz, hTup_tup, hsCons_cons, hsNil_nil, selS_t, selS_f, eDct, eDGet, eDIn, dGet_int, dGet_str, getD'_some, dInD_int, dInD_str, bSortedD_dct, dIsB_bl, dIsNotB_bl, iR3, r3P_int, bInt_int, bInt_bl, atI_3, band_one, bor_one, normA_rul, eVar, eC, eOp, eUn, eNot, eAnd, eOr, eIf, eChain, eSl, oNo, oPart, eTup, eLst, eCall, eCallN, eIsi, aNil, aCons, tB', bAnd, bOr, bNot, bYes, iLst, iTp, iR1, iR2, iEn, iZp, wipeD, allfz, dts, rdV_fz, rdV_vw, rdV_ow, dB_bl, selE_t, selE_f, selAnd_t, selAnd_f, selOr_t, selOr_f, dI0_int, dI_int, dI1_int, dAdd_int, dAdd_str, dAdd_lst, dIAdd_int, dIAdd_str, dMul_int, dEq_int, dEq_bl, dEq_str, dEq_lst, dEq_tup, dNe_int, dNe_bl, dNe_str, dNe_lst, dNe_tup, dIs_non, dIsNot_non, isNon_non, isNon_int, isNon_bl, isNon_str, isNon_lst, isNon_tup, dIn_lst, dIn_tup, dIx_lst, dIx_tup, dIx_str, optD_some, optB_some, optC_some, oPartK_int, dSl_lst, dSl_str, lstP_lst, tupP_tup, r1P_int, r2P_int, bLen_lst, bLen_tup, bLen_str, bList_lst, bList_tup, bDivmod_int, bAbs_int, bMax2_int, bMin2_int, bSorted_lst, bSum_lst, normA_lst, normA_tup, normA_int, normA_bl, normA_str, normA_non, normA_dct, norm_nil, norm_cons, kst_fz, kst_fr, kit_fz, kit_fr, kit_vw, karg_fz, karg_fr, karg_vw, karg_rd, iT_non_int, iT_non_list, iT_non_tuple, iT_non_str, iT_non_bool, iT_non_dict, iT_bl_int, iT_bl_list, iT_bl_tuple, iT_bl_str, iT_bl_bool, iT_bl_dict, iT_int_int, iT_int_list, iT_int_tuple, iT_int_str, iT_int_bool, iT_int_dict, iT_str_int, iT_str_list, iT_str_tuple, iT_str_str, iT_str_bool, iT_str_dict, iT_tup_int, iT_tup_list, iT_tup_tuple, iT_tup_str, iT_tup_bool, iT_tup_dict, iT_lst_int, iT_lst_list, iT_lst_tuple, iT_lst_str, iT_lst_bool, iT_lst_dict, iT_dct_int, iT_dct_list, iT_dct_tuple, iT_dct_str, iT_dct_bool, iT_dct_dict, startD, startS_nil, startS_fz, startS_rd, List.length_cons, List.length_nil, List.reduceReplicate, List.cons_append, List.nil_append, List.append_nil, List.set_cons_zero, List.set_cons_succ, List.getElem?_cons_zero, List.getElem?_cons_succ, Nat.reduceAdd, Nat.reduceSub, true_and, and_true, ↓reduceIte, Bool.false_eq_true, if_true, if_false, reduceCtorEq, atI_0, atI_1, atI_2, Bool.not_true, Bool.not_false, forall_const, band_nat, bor_nat, bxor_nat, shl_nat, shl1_nat, shr_nat, flat_int, flat_str, flat_bl, flat_non, flat_nats, flat_ints, flat_strs, inD_ints, inD_nats, inD_strs, eqG_ints, eqG_nats, eqG_ruls, Bool.bne_false, Bool.bne_true])
local macro_rules
  | `(tactic| walk_at "vi") => `(tactic| simp only [sFor, sForO, eLc, eDct, eDGet, eDIn, dGet_int, dGet_str, getD'_some, dInD_int, dInD_str, bSortedD_dct, dIsB_bl, dIsNotB_bl, iR3, r3P_int, bInt_int, bInt_bl, atI_3, band_one, bor_one, normA_rul, eVar, eC, eOp, eUn, eNot, eAnd, eOr, eIf, eChain, eSl, oNo, oPart, eTup, eLst, eCall, eCallN, eIsi, aNil, aCons, tB', bAnd, bOr, bNot, bYes, iLst, iTp, iR1, iR2, iEn, iZp, wipeD, allfz, dts, rdV_fz, rdV_vw, rdV_ow, dB_bl, selE_t, selE_f, selAnd_t, selAnd_f, selOr_t, selOr_f, dI0_int, dI_int, dI1_int, dAdd_int, dAdd_str, dAdd_lst, dIAdd_int, dIAdd_str, dMul_int, dEq_int, dEq_bl, dEq_str, dEq_lst, dEq_tup, dNe_int, dNe_bl, dNe_str, dNe_lst, dNe_tup, dIs_non, dIsNot_non, isNon_non, isNon_int, isNon_bl, isNon_str, isNon_lst, isNon_tup, dIn_lst, dIn_tup, dIx_lst, dIx_tup, dIx_str, optD_some, optB_some, optC_some, oPartK_int, dSl_lst, dSl_str, lstP_lst, tupP_tup, r1P_int, r2P_int, bLen_lst, bLen_tup, bLen_str, bList_lst, bList_tup, bDivmod_int, bAbs_int, bMax2_int, bMin2_int, bSorted_lst, bSum_lst, normA_lst, normA_tup, normA_int, normA_bl, normA_str, normA_non, normA_dct, norm_nil, norm_cons, kst_fz, kst_fr, kit_fz, kit_fr, kit_vw, karg_fz, karg_fr, karg_vw, karg_rd, iT_non_int, iT_non_list, iT_non_tuple, iT_non_str, iT_non_bool, iT_non_dict, iT_bl_int, iT_bl_list, iT_bl_tuple, iT_bl_str, iT_bl_bool, iT_bl_dict, iT_int_int, iT_int_list, iT_int_tuple, iT_int_str, iT_int_bool, iT_int_dict, iT_str_int, iT_str_list, iT_str_tuple, iT_str_str, iT_str_bool, iT_str_dict, iT_tup_int, iT_tup_list, iT_tup_tuple, iT_tup_str, iT_tup_bool, iT_tup_dict, iT_lst_int, iT_lst_list, iT_lst_tuple, iT_lst_str, iT_lst_bool, iT_lst_dict, iT_dct_int, iT_dct_list, iT_dct_tuple, iT_dct_str, iT_dct_bool, iT_dct_dict, startD, startS_nil, startS_fz, startS_rd, List.length_cons, List.length_nil, List.reduceReplicate, List.cons_append, List.nil_append, List.append_nil, List.set_cons_zero, List.set_cons_succ, List.getElem?_cons_zero, List.getElem?_cons_succ, Nat.reduceAdd, Nat.reduceSub, true_and, and_true, ↓reduceIte, Bool.false_eq_true, if_true, if_false, reduceCtorEq, atI_0, atI_1, atI_2, Bool.not_true, Bool.not_false, forall_const, band_nat, bor_nat, bxor_nat, shl_nat, shl1_nat, shr_nat, flat_int, flat_str, flat_bl, flat_non, flat_nats, flat_ints, flat_strs, inD_ints, inD_nats, inD_strs, eqG_ints, eqG_nats, eqG_ruls, Bool.bne_false, Bool.bne_true])

def topS (i : Nat) : Stmt := PySem.Challenge.pw_traitlattice_k22_whole_fewest_rules.main.body.getD i (.Pass ⟨0, 0, 0, 0⟩)
structure Bt (mg : Str → Option Value) : Prop where
  z_bool : mg "bool" = none
  z_divmod : mg "divmod" = none
  z_enumerate : mg "enumerate" = none
  z_int : mg "int" = none
  z_isinstance : mg "isinstance" = none
  z_len : mg "len" = none
  z_list : mg "list" = none
  z_range : mg "range" = none
  z_tuple : mg "tuple" = none
section
variable {P : Program} {w : World} {K : PySem.W.Frag} {mg : Str → Option Value} {base : Heap}
abbrev s_ones : Stmt := topS 1
abbrev s_within : Stmt := topS 2
abbrev s_shared : Stmt := topS 4
abbrev s_having : Stmt := topS 5
abbrev s_closed : Stmt := topS 6
abbrev s_broken_by : Stmt := topS 8
abbrev s_broken_place : Stmt := topS 9
abbrev s_way : Stmt := topS 10
abbrev s_least : Stmt := topS 12
abbrev s_law_cell : Stmt := topS 14
abbrev s_law_grown : Stmt := topS 15
abbrev s_law_table : Stmt := topS 16
abbrev s_law_closed : Stmt := topS 17
abbrev s_law_rule : Stmt := topS 18
abbrev s_law_sharp : Stmt := topS 19
abbrev s_law_walked : Stmt := topS 20
abbrev s_law_fewer : Stmt := topS 21
abbrev s_law_lacks : Stmt := topS 22
abbrev s_law_width : Stmt := topS 23
abbrev s_law : Stmt := topS 24
/-! ### ones -/
def sp_ones : DSp := fun as P => ∃ (m n : Nat), as = [(.fz, .int m)] ∧ m < 2 ^ n ∧ n ≤ 1000 ∧ P .fr (nats (bits n m))

theorem sc_ones : FnScope ["mask", "members", "at", "last"] ["mask"] (defScope s_ones) := ⟨rfl, rfl, rfl, by decide +kernel, rfl, by decide +kernel, by decide +kernel⟩
def t_ones : TSd := (sSeq (sSet 1 (eLst aNil))
 (sSeq (sSetF 2 (eC (.int 0)))
 (sSeq (sWhile (tB' (eOp dGt (eVar 0) (eC (.int 0))))
 (sSeq (sAsg (eCall bDivmod (aCons (eVar 0) (aCons (eC (.int 2)) aNil))) (hTup 2 (hsCons (hName 0) (hsCons (hName 3) hsNil))))
 (sSeq (sIf (tB' (eOp dEq (eVar 3) (eC (.int 1))))
 (sApp 1 (eVar 2))
 sNil)
 (sAug 2 dIAdd (eC (.int 1))))))
 (sRetV 1))))
theorem vs_ones (B : Bt mg) (f : Addr) (cdv : Value) (A : Around) (outer : List Env) (s : Shared) (H : Hp) (E : XK) (e0 : Hs) (hr : Room 0 (A.deeper (envOfC "ones" (defScope s_ones) s.heap.objs.size f cdv))) :
    VSs (cxOf CX0 P w K mg base ["mask", "members", "at", "last"] "ones" (defScope s_ones) f cdv A outer s H E).nox e0 (defBody s_ones) t_ones := by
  have Sc := sc_ones
  exact (vss_cons (vs_set' (i := 1) (ve_lst va_nil) (fun h => ps_set Sc.nd rfl (.inl rfl) h))
 (vss_cons (vs_setF' (i := 2) ve_int (fun h => ps_set Sc.nd rfl (.inl rfl) h))
 (vss_cons (vs_while PassesOwn.never (vt_cmp vo_gt (ve_var 0 (pv 0)) ve_int (nomark _))
 (vss_cons (vs_asg' (ve_callB vc_divmod (by rfl) B.z_divmod PyProof.Rows.boot_divmod (va_cons (ve_var 0 (pv 0)) (va_cons ve_int va_nil))) (vg_tupK (K := K) rfl rfl (vgs_cons (vg_name (pg_name (i := 0) Sc.nd rfl (.inl rfl))) (vgs_cons (vg_name (pg_name (i := 3) Sc.nd rfl (.inl rfl))) vgs_nil))) (fun h h' => ps_asg h h'))
 (vss_cons (vs_if (vt_cmp (vo_eqK (K := K) rfl hr.units) (ve_var 3 (pv 3)) ve_int (nomark _))
 (vss_one (vs_app' (i := 1) (ve_var 2 (pv 2)) (fun h => ps_expr (pe_bm PySem.F.plainAttrs_list PySem.F.slot_list_append PySem.F.type_list_append mt_append (pv 1) (pa_cons h pa_nil)))))
 vss_nil)
 (vss_one (vs_aug' (i := 2) vio_add ve_int (fun h h' => ps_aug Sc.nd rfl (.inl rfl) h h'))))))
 (vss_one (vs_retV 1 (pv 1))))))
theorem len_ones : ∀ as P, sp_ones as P → as.length = 1 := by
  rintro as P ⟨m, n, rfl, _⟩
  rfl
theorem rd_ones : ∀ as P, sp_ones as P → t_ones { nx := fun _ => P .fz .non, rt := fun k x => k.st = true ∧ P k x } (startD 4 as) := by
  rintro as P ⟨m, n, rfl, hm, hn, hP⟩
  push_cast [t_ones]
  intro l
  refine ⟨fun c ρ => ∃ (j : Nat), c + j = n ∧ ρ = [.v .fz (.int ((m / 2 ^ j : Nat) : Int)), .v (.ow l) (nats (bits j m)), .v .fz (.int j), .no], ⟨n, _, .refl _, 0, rfl, by simp [bits]⟩, ?_⟩
  rintro c ρ ⟨j, hc, rfl⟩
  walk_at "vx"
  refine selS_dec (fun h => ?_) (fun h => ?_)
  · have hj : j < n := by
      rcases Nat.lt_or_ge j n with z | z
      · exact z
      · have : m / 2 ^ j = 0 := Nat.div_eq_of_lt (Nat.lt_of_lt_of_le hm (Nat.pow_le_pow_right (by decide) z))
        omega
    have e2 : ((m / 2 ^ j : Nat) : Int) / 2 = ((m / 2 ^ (j + 1) : Nat) : Int) := by
      rw [Nat.pow_succ, ← Nat.div_div_eq_div_mul]; omega
    have e3 : m.testBit j = decide (m / 2 ^ j % 2 = 1) := by rw [Nat.testBit_eq_decide_div_mod_eq]
    push_cast [e2]
    refine ⟨⟨by decide, by decide⟩, ?_⟩
    refine selS_dec (fun h1 => ?_) (fun h1 => ?_)
    · have h3 : m.testBit j = true := by rw [e3, decide_eq_true_eq]; omega
      walk_at "vx"
      refine ⟨by have := bits_length j m; rw [List.length_map]; omega, _, c - 1, by omega, .no 3 (.refl _), j + 1, by omega, ?_⟩
      rw [bits_succ, h3]
      simp
    · have h3 : m.testBit j = false := by rw [e3, decide_eq_false_iff_not]; omega
      walk_at "vx"
      refine ⟨_, c - 1, by omega, .no 3 (.refl _), j + 1, by omega, ?_⟩
      rw [bits_succ, h3]
      simp
  · have h0 : m / 2 ^ j = 0 := by generalize m / 2 ^ j = q at h; omega
    have h1 : m < 2 ^ j := by
      rcases Nat.lt_or_ge m (2 ^ j) with z | z
      · exact z
      · have := Nat.div_pos z (Nat.two_pow_pos j)
        omega
    walk_at "vx"
    rw [← bits_more h1 (show j ≤ n by omega)]
    exact hP

theorem ok_ones (B : Bt mg) (d : Df K mg "ones" s_ones ["mask"]) : Has P w K mg base 1 "ones" ["mask"] sp_ones :=
  has_ok d sc_ones (by decide) (vs_ones B) len_ones rd_ones
/-! ### within -/
def sp_within : DSp := fun as P => ∃ a b : Nat, as = [(.fz, nat a), (.fz, nat b)] ∧ P .fz (.bl (decide (a &&& b = a)))

theorem sc_within : FnScope ["small", "large"] ["small", "large"] (defScope s_within) := ⟨rfl, rfl, rfl, by decide +kernel, rfl, by decide +kernel, by decide +kernel⟩
def t_within : TSd := (sRet (eOp dEq (eOp dAnd (eVar 0) (eVar 1)) (eVar 0)))
theorem vs_within (B : Bt mg) (f : Addr) (cdv : Value) (A : Around) (outer : List Env) (s : Shared) (H : Hp) (E : XK) (e0 : Hs) (hr : Room 0 (A.deeper (envOfC "within" (defScope s_within) s.heap.objs.size f cdv))) :
    VSs (cxOf CX0 P w K mg base ["small", "large"] "within" (defScope s_within) f cdv A outer s H E).nox e0 (defBody s_within) t_within := by
  have Sc := sc_within
  exact (vss_one (vs_ret (ve_cmp (vo_eqK (K := K) rfl hr.units) (ve_op vo_and (ve_var 0 (pv 0)) (ve_var 1 (pv 1))) (ve_var 0 (pv 0)) (nomark _))))
theorem len_within : ∀ as P, sp_within as P → as.length = 2 := by
  rintro as P ⟨a, b, rfl, _⟩; rfl
theorem rd_within : ∀ as P, sp_within as P → t_within { nx := fun _ => P .fz .non, rt := fun k x => k.st = true ∧ P k x } (startD 2 as) := by
  rintro as P ⟨a, b, rfl, hP⟩
  push_cast [t_within, dec_nat]
  exact hP

theorem ok_within (B : Bt mg) (d : Df K mg "within" s_within ["small", "large"]) : Has P w K mg base 1 "within" ["small", "large"] sp_within :=
  has_ok d sc_within (by decide) (vs_within B) len_within rd_within
/-! ### shared -/
def sp_shared : DSp := fun as P => ∃ (rows : List Nat) (w g : Nat), as = [(.rd, nats rows), (.fz, nat w), (.fz, nat g)] ∧ rows.length ≤ 1000 ∧ w ≤ 1000 ∧ g < 2 ^ rows.length ∧ P .fz (nat (sha rows w g))

theorem sc_shared : FnScope ["rows", "width", "group", "mask", "thing"] ["rows", "width", "group"] (defScope s_shared) := ⟨rfl, rfl, rfl, by decide +kernel, rfl, by decide +kernel, by decide +kernel⟩
def t_shared : TSd := (sSeq (sSetF 3 (eOp dSub (eOp dShl (eC (.int 1)) (eVar 1)) (eC (.int 1))))
 (sSeq (sFor (iLst (eCallN sp_ones (aCons (eVar 2) aNil))) (hName 4)
 (sSetF 3 (eOp dAnd (eVar 3) (eOp dIx (eVar 0) (eVar 4)))))
 (sRet (eVar 3))))
theorem vs_shared (B : Bt mg) (h_ones : Has P w K mg base 1 "ones" ["mask"] sp_ones) (f : Addr) (cdv : Value) (A : Around) (outer : List Env) (s : Shared) (H : Hp) (E : XK) (e0 : Hs) (hr : Room 1 (A.deeper (envOfC "shared" (defScope s_shared) s.heap.objs.size f cdv))) :
    VSs (cxOf CX0 P w K mg base ["rows", "width", "group", "mask", "thing"] "shared" (defScope s_shared) f cdv A outer s H E).nox e0 (defBody s_shared) t_shared := by
  have Sc := sc_shared
  exact (vss_cons (vs_setF' (i := 3) (ve_op vo_sub (ve_op vo_shl ve_int (ve_var 1 (pv 1))) ve_int) (fun h => ps_set Sc.nd rfl (.inl rfl) h))
 (vss_cons (vs_for PassesOwn.never rfl (vi_listK (K := K) rfl (ve_callN (K := K) rfl h_ones (hr.mono (by decide)) (by rfl) (va_cons (ve_var 2 (pv 2)) va_nil))) (vg_name (pg_name (i := 4) Sc.nd rfl (.inl rfl)))
 (vss_one (vs_setF' (i := 3) (ve_op vo_and (ve_var 3 (pv 3)) (ve_ixK (K := K) rfl (ve_var 0 (pv 0)) (ve_var 4 (pv 4)) (fun _ _ => rfl))) (fun h => ps_set Sc.nd rfl (.inl rfl) h))))
 (vss_one (vs_ret (ve_var 3 (pv 3))))))
theorem len_shared : ∀ as P, sp_shared as P → as.length = 3 := by
  rintro as P ⟨ks, _, _, rfl, _⟩; rfl
theorem rd_shared : ∀ as P, sp_shared as P → t_shared { nx := fun _ => P .fz .non, rt := fun k x => k.st = true ∧ P k x } (startD 5 as) := by
  rintro as P ⟨rows, w, g, rfl, hl, hw, hg, hP⟩
  push_cast [t_shared, pow_sub_one]
  refine ⟨cpow1 (by omega), ?_⟩
  walk_at "vi"
  refine ⟨g, rows.length, rfl, hg, by omega, ?_⟩
  walk_at "vi"
  refine for_map (bits rows.length g) nat (fun i ρ => ρ = [.v .vw (nats rows), .v .fz (nat w), .v .fz (nat g), .v .fz (nat (((bits rows.length g).take i).foldl (fun m t => m &&& rows.getD t 0) (2 ^ w - 1))), .no]) ⟨_, .refl _, by simp⟩ ?_ ?_
  · rintro i hi ρ rfl
    have hm : (bits rows.length g)[i] < rows.length := (mem_bits.mp (List.getElem_mem hi)).1
    have hx := atI_map rows nat _ hm
    push_cast [hx]
    refine ⟨_, .no 4 (.refl _), ?_⟩
    rw [List.take_add_one, List.getElem?_eq_getElem hi, Option.toList_some, List.foldl_append]
    simp [List.getD_eq_getElem?_getD, hm]
  · rintro ρ rfl
    push_cast [List.take_length]
    exact hP

theorem ok_shared (B : Bt mg) (d : Df K mg "shared" s_shared ["rows", "width", "group"]) (h_ones : Has P w K mg base 1 "ones" ["mask"] sp_ones) : Has P w K mg base 2 "shared" ["rows", "width", "group"] sp_shared :=
  has_ok d sc_shared (by decide) (vs_shared B h_ones) len_shared rd_shared
/-! ### having -/
def sp_having : DSp := fun as P => ∃ (rows : List Nat) (m : Nat), as = [(.rd, nats rows), (.fz, nat m)] ∧ rows.length ≤ 1000 ∧ P .fz (nat (hav rows m))
theorem hav_take (rows : List Nat) (m i : Nat) (hi : i < rows.length) : hav (rows.take (i + 1)) m = if sub m rows[i] = true then hav (rows.take i) m ||| 2 ^ i else hav (rows.take i) m := by
  refine Nat.eq_of_testBit_eq fun k => ?_
  have key : ∀ j, j ≤ rows.length → (hav (rows.take j) m).testBit k = decide (k < j ∧ sub m (rows.getD k 0) = true) := by
    intro j hj
    rw [testBit_hav, List.length_take, Nat.min_eq_left hj]
    congr 1
    refine propext ⟨fun h => ⟨h.1, ?_⟩, fun h => ⟨h.1, ?_⟩⟩
    · have h2 := h.2
      rw [List.getD_eq_getElem?_getD, List.getElem?_take_of_lt h.1, ← List.getD_eq_getElem?_getD] at h2
      exact h2
    · rw [List.getD_eq_getElem?_getD, List.getElem?_take_of_lt h.1, ← List.getD_eq_getElem?_getD]
      exact h.2
  have e : rows.getD i 0 = rows[i] := by simp [List.getD_eq_getElem?_getD, hi]
  rw [key (i + 1) (by omega)]
  by_cases hs : sub m rows[i] = true
  · rw [if_pos hs, Nat.testBit_or, key i (by omega), testBit_pow, Bool.eq_iff_iff, Bool.or_eq_true, decide_eq_true_eq, decide_eq_true_eq, decide_eq_true_eq]
    constructor
    · rintro ⟨h1, h2⟩
      rcases Nat.lt_or_ge k i with z | z
      · exact .inl ⟨z, h2⟩
      · exact .inr (by omega)
    · rintro (⟨h1, h2⟩ | rfl)
      · exact ⟨by omega, h2⟩
      · exact ⟨by omega, by rw [e]; exact hs⟩
  · rw [if_neg hs, key i (by omega), Bool.eq_iff_iff, decide_eq_true_eq, decide_eq_true_eq]
    constructor
    · rintro ⟨h1, h2⟩
      rcases Nat.lt_or_ge k i with z | z
      · exact ⟨z, h2⟩
      · have : k = i := by omega
        subst this
        rw [e] at h2
        exact absurd h2 hs
    · rintro ⟨h1, h2⟩
      exact ⟨by omega, h2⟩

theorem sc_having : FnScope ["rows", "mask", "group", "thing", "row"] ["rows", "mask"] (defScope s_having) := ⟨rfl, rfl, rfl, by decide +kernel, rfl, by decide +kernel, by decide +kernel⟩
def t_having : TSd := (sSeq (sSetF 2 (eC (.int 0)))
 (sSeq (sFor (iEn (eVar 0)) (hTup 2 (hsCons (hName 3) (hsCons (hName 4) hsNil)))
 (sIf (tB' (eCallN sp_within (aCons (eVar 1) (aCons (eVar 4) aNil))))
 (sSetF 2 (eOp dOr (eVar 2) (eOp dShl (eC (.int 1)) (eVar 3))))
 sNil))
 (sRet (eVar 2))))
theorem vs_having (B : Bt mg) (h_within : Has P w K mg base 1 "within" ["small", "large"] sp_within) (f : Addr) (cdv : Value) (A : Around) (outer : List Env) (s : Shared) (H : Hp) (E : XK) (e0 : Hs) (hr : Room 1 (A.deeper (envOfC "having" (defScope s_having) s.heap.objs.size f cdv))) :
    VSs (cxOf CX0 P w K mg base ["rows", "mask", "group", "thing", "row"] "having" (defScope s_having) f cdv A outer s H E).nox e0 (defBody s_having) t_having := by
  have Sc := sc_having
  exact (vss_cons (vs_setF' (i := 2) ve_int (fun h => ps_set Sc.nd rfl (.inl rfl) h))
 (vss_cons (vs_for PassesOwn.never rfl (vi_enumK (K := K) rfl (ve_var 0 (pv 0)) (fun h => pi_enum (by rfl) B.z_enumerate (pa_cons h pa_nil))) (vg_tupK (K := K) rfl rfl (vgs_cons (vg_name (pg_name (i := 3) Sc.nd rfl (.inl rfl))) (vgs_cons (vg_name (pg_name (i := 4) Sc.nd rfl (.inl rfl))) vgs_nil)))
 (vss_one (vs_if (vt_val (ve_callN (K := K) rfl h_within (hr.mono (by decide)) (by rfl) (va_cons (ve_var 1 (pv 1)) (va_cons (ve_var 4 (pv 4)) va_nil))))
 (vss_one (vs_setF' (i := 2) (ve_op vo_or (ve_var 2 (pv 2)) (ve_op vo_shl ve_int (ve_var 3 (pv 3)))) (fun h => ps_set Sc.nd rfl (.inl rfl) h)))
 vss_nil)))
 (vss_one (vs_ret (ve_var 2 (pv 2))))))
theorem len_having : ∀ as P, sp_having as P → as.length = 2 := by
  rintro as P ⟨ks, _, rfl, _⟩; rfl
theorem rd_having : ∀ as P, sp_having as P → t_having { nx := fun _ => P .fz .non, rt := fun k x => k.st = true ∧ P k x } (startD 5 as) := by
  rintro as P ⟨rows, m, rfl, hl, hP⟩
  push_cast [t_having]
  walk_at "vi"
  refine for_enum rows nat (fun i ρ => ρ = [.v .vw (nats rows), .v .fz (nat m), .v .fz (nat (hav (rows.take i) m)), .no, .no]) ⟨_, .refl _, by simp [hav, setOf]⟩ ?_ ?_
  · rintro i hi ρ rfl
    walk_at "vx"
    refine ⟨m, rows[i], rfl, ?_⟩
    walk_at "vx"
    rw [hav_take rows m i hi]
    refine selS_b (fun h => ?_) (fun h => ?_)
    · walk_at "vx"
      refine ⟨cpow1 (by omega), _, .no 3 (.no 4 (.refl _)), ?_⟩
      rw [if_pos (show sub m rows[i] = true from h)]
      rfl
    · walk_at "vx"
      refine ⟨_, .no 3 (.no 4 (.refl _)), ?_⟩
      rw [if_neg (show ¬ sub m rows[i] = true from by unfold sub; rw [h]; exact Bool.false_ne_true)]
      rfl
  · rintro ρ rfl
    push_cast [List.take_length]
    exact hP

theorem ok_having (B : Bt mg) (d : Df K mg "having" s_having ["rows", "mask"]) (h_within : Has P w K mg base 1 "within" ["small", "large"] sp_within) : Has P w K mg base 2 "having" ["rows", "mask"] sp_having :=
  has_ok d sc_having (by decide) (vs_having B h_within) len_having rd_having
/-! ### closed -/
def sp_closed : DSp := fun as P => ∃ (rows : List Nat) (w m : Nat), as = [(.rd, nats rows), (.fz, nat w), (.fz, nat m)] ∧ rows.length ≤ 1000 ∧ w ≤ 1000 ∧ P .fz (nat (clo rows w m))

theorem sc_closed : FnScope ["rows", "width", "mask"] ["rows", "width", "mask"] (defScope s_closed) := ⟨rfl, rfl, rfl, by decide +kernel, rfl, by decide +kernel, by decide +kernel⟩
def t_closed : TSd := (sRet (eCallN sp_shared (aCons (eVar 0) (aCons (eVar 1) (aCons (eCallN sp_having (aCons (eVar 0) (aCons (eVar 2) aNil))) aNil)))))
theorem vs_closed (B : Bt mg) (h_having : Has P w K mg base 2 "having" ["rows", "mask"] sp_having) (h_shared : Has P w K mg base 2 "shared" ["rows", "width", "group"] sp_shared) (f : Addr) (cdv : Value) (A : Around) (outer : List Env) (s : Shared) (H : Hp) (E : XK) (e0 : Hs) (hr : Room 2 (A.deeper (envOfC "closed" (defScope s_closed) s.heap.objs.size f cdv))) :
    VSs (cxOf CX0 P w K mg base ["rows", "width", "mask"] "closed" (defScope s_closed) f cdv A outer s H E).nox e0 (defBody s_closed) t_closed := by
  have Sc := sc_closed
  exact (vss_one (vs_ret (ve_callN (K := K) rfl h_shared (hr.mono (by decide)) (by rfl) (va_cons (ve_var 0 (pv 0)) (va_cons (ve_var 1 (pv 1)) (va_cons (ve_callN (K := K) rfl h_having (hr.mono (by decide)) (by rfl) (va_cons (ve_var 0 (pv 0)) (va_cons (ve_var 2 (pv 2)) va_nil))) va_nil))))))
theorem len_closed : ∀ as P, sp_closed as P → as.length = 3 := by
  rintro as P ⟨ks, _, _, rfl, _⟩; rfl
theorem rd_closed : ∀ as P, sp_closed as P → t_closed { nx := fun _ => P .fz .non, rt := fun k x => k.st = true ∧ P k x } (startD 3 as) := by
  rintro as P ⟨rows, w, m, rfl, hl, hw, hP⟩
  push_cast [t_closed]
  refine ⟨rows, m, rfl, hl, ?_⟩
  walk_at "vx"
  exact ⟨rows, w, hav rows m, rfl, hl, hw, hav_lt _ _, rfl, hP⟩

theorem ok_closed (B : Bt mg) (d : Df K mg "closed" s_closed ["rows", "width", "mask"]) (h_having : Has P w K mg base 2 "having" ["rows", "mask"] sp_having) (h_shared : Has P w K mg base 2 "shared" ["rows", "width", "group"] sp_shared) : Has P w K mg base 3 "closed" ["rows", "width", "mask"] sp_closed :=
  has_ok d sc_closed (by decide) (vs_closed B h_having h_shared) len_closed rd_closed
/-! ### broken_by -/
def sp_broken_by : DSp := fun as P => ∃ (row : Nat) (r : Nat × Nat), as = [(.fz, nat row), (.fz, rul r)] ∧ P .fz (.bl (brk row r))

theorem sc_broken_by : FnScope ["row", "rule"] ["row", "rule"] (defScope s_broken_by) := ⟨rfl, rfl, rfl, by decide +kernel, rfl, by decide +kernel, by decide +kernel⟩
def t_broken_by : TSd := (sRet (eAnd (eCallN sp_within (aCons (eOp dIx (eVar 1) (eC (.int 0))) (aCons (eVar 0) aNil))) (eNot (eCallN sp_within (aCons (eOp dIx (eVar 1) (eC (.int 1))) (aCons (eVar 0) aNil))))))
theorem vs_broken_by (B : Bt mg) (h_within : Has P w K mg base 1 "within" ["small", "large"] sp_within) (f : Addr) (cdv : Value) (A : Around) (outer : List Env) (s : Shared) (H : Hp) (E : XK) (e0 : Hs) (hr : Room 1 (A.deeper (envOfC "broken_by" (defScope s_broken_by) s.heap.objs.size f cdv))) :
    VSs (cxOf CX0 P w K mg base ["row", "rule"] "broken_by" (defScope s_broken_by) f cdv A outer s H E).nox e0 (defBody s_broken_by) t_broken_by := by
  have Sc := sc_broken_by
  exact (vss_one (vs_ret (ve_and (ve_callN (K := K) rfl h_within (hr.mono (by decide)) (by rfl) (va_cons (ve_ixK (K := K) rfl (ve_var 1 (pv 1)) ve_int (fun _ _ => rfl)) (va_cons (ve_var 0 (pv 0)) va_nil))) (ve_one (ve_not (ve_callN (K := K) rfl h_within (hr.mono (by decide)) (by rfl) (va_cons (ve_ixK (K := K) rfl (ve_var 1 (pv 1)) ve_int (fun _ _ => rfl)) (va_cons (ve_var 0 (pv 0)) va_nil))))))))
theorem len_broken_by : ∀ as P, sp_broken_by as P → as.length = 2 := by
  rintro as P ⟨row, r, rfl, _⟩; rfl
theorem rd_broken_by : ∀ as P, sp_broken_by as P → t_broken_by { nx := fun _ => P .fz .non, rt := fun k x => k.st = true ∧ P k x } (startD 2 as) := by
  rintro as P ⟨row, r, rfl, hP⟩
  push_cast [t_broken_by]
  refine ⟨r.1, row, rfl, ?_⟩
  walk_at "vx"
  have e : brk row r = (sub r.1 row && !sub r.2 row) := rfl
  refine selE_b (fun h => ?_) (fun h => ?_)
  · walk_at "vx"
    refine ⟨r.2, row, rfl, ?_⟩
    push_cast [dec_subn]
    rw [e, show sub r.1 row = true from h, Bool.true_and] at hP
    exact hP
  · push_cast [dec_subn]
    rw [e, show sub r.1 row = false from h, Bool.false_and] at hP
    exact hP

theorem ok_broken_by (B : Bt mg) (d : Df K mg "broken_by" s_broken_by ["row", "rule"]) (h_within : Has P w K mg base 1 "within" ["small", "large"] sp_within) : Has P w K mg base 2 "broken_by" ["row", "rule"] sp_broken_by :=
  has_ok d sc_broken_by (by decide) (vs_broken_by B h_within) len_broken_by rd_broken_by
/-! ### broken_place -/
def sp_broken_place : DSp := fun as P => ∃ (rs : List (Nat × Nat)) (m : Nat), as = [(.rd, rulesD rs), (.fz, nat m)] ∧ P .fz (optN (rs.findIdx? fun x => brk m x))

theorem sc_broken_place : FnScope ["rules", "mask", "place", "rule"] ["rules", "mask"] (defScope s_broken_place) := ⟨rfl, rfl, rfl, by decide +kernel, rfl, by decide +kernel, by decide +kernel⟩
def t_broken_place : TSd := (sSeq (sFor (iEn (eVar 0)) (hTup 2 (hsCons (hName 2) (hsCons (hName 3) hsNil)))
 (sIf (tB' (eCallN sp_broken_by (aCons (eVar 1) (aCons (eVar 3) aNil))))
 (sRet (eVar 2))
 sNil))
 (sRet (eC .non)))
theorem vs_broken_place (B : Bt mg) (h_broken_by : Has P w K mg base 2 "broken_by" ["row", "rule"] sp_broken_by) (f : Addr) (cdv : Value) (A : Around) (outer : List Env) (s : Shared) (H : Hp) (E : XK) (e0 : Hs) (hr : Room 2 (A.deeper (envOfC "broken_place" (defScope s_broken_place) s.heap.objs.size f cdv))) :
    VSs (cxOf CX0 P w K mg base ["rules", "mask", "place", "rule"] "broken_place" (defScope s_broken_place) f cdv A outer s H E).nox e0 (defBody s_broken_place) t_broken_place := by
  have Sc := sc_broken_place
  exact (vss_cons (vs_for PassesOwn.never rfl (vi_enumK (K := K) rfl (ve_var 0 (pv 0)) (fun h => pi_enum (by rfl) B.z_enumerate (pa_cons h pa_nil))) (vg_tupK (K := K) rfl rfl (vgs_cons (vg_name (pg_name (i := 2) Sc.nd rfl (.inl rfl))) (vgs_cons (vg_name (pg_name (i := 3) Sc.nd rfl (.inl rfl))) vgs_nil)))
 (vss_one (vs_if (vt_val (ve_callN (K := K) rfl h_broken_by (hr.mono (by decide)) (by rfl) (va_cons (ve_var 1 (pv 1)) (va_cons (ve_var 3 (pv 3)) va_nil))))
 (vss_one (vs_ret (ve_var 2 (pv 2))))
 vss_nil)))
 (vss_one (vs_ret ve_non)))
theorem len_broken_place : ∀ as P, sp_broken_place as P → as.length = 2 := by
  rintro as P ⟨_, _, rfl, _⟩; rfl
theorem rd_broken_place : ∀ as P, sp_broken_place as P → t_broken_place { nx := fun _ => P .fz .non, rt := fun k x => k.st = true ∧ P k x } (startD 4 as) := by
  rintro as P ⟨rs, m, rfl, hP⟩
  push_cast [t_broken_place]
  walk_at "vi"
  refine for_enum rs rul (fun i ρ => ρ = [.v .vw (rulesD rs), .v .fz (nat m), .no, .no] ∧ ∀ k, (hk : k < i) → (hk2 : k < rs.length) → brk m rs[k] = false) ⟨_, .refl _, rfl, by omega⟩ ?_ ?_
  · rintro i hi ρ ⟨rfl, hb⟩
    walk_at "vx"
    refine ⟨m, rs[i], rfl, ?_⟩
    refine selS_b (fun h => ?_) (fun h => ?_)
    · walk_at "vx"
      rw [find_some hi (fun k hk => hb k hk (by omega)) h] at hP
      exact hP
    · walk_at "vx"
      refine ⟨_, .no 2 (.no 3 (.refl _)), rfl, fun k hk hk2 => ?_⟩
      rcases Nat.lt_or_ge k i with z | z
      · exact hb k z hk2
      · have : k = i := by omega
        subst this; exact h
  · rintro ρ ⟨rfl, hb⟩
    walk_at "vx"
    rw [find_none fun k hk => hb k hk hk] at hP
    exact hP

theorem ok_broken_place (B : Bt mg) (d : Df K mg "broken_place" s_broken_place ["rules", "mask"]) (h_broken_by : Has P w K mg base 2 "broken_by" ["row", "rule"] sp_broken_by) : Has P w K mg base 3 "broken_place" ["rules", "mask"] sp_broken_place :=
  has_ok d sc_broken_place (by decide) (vs_broken_place B h_broken_by) len_broken_place rd_broken_place
/-! ### way -/
def sp_way : DSp := fun as P => ∃ (rs : List (Nat × Nat)) (r : Nat × Nat) (W : Nat), as = [(.rd, rulesD rs), (.fz, rul r)] ∧ r.1 < 2 ^ W ∧ (∀ r ∈ rs, r.2 < 2 ^ W) ∧ W ≤ 20 ∧
  (∀ h, h < 2 ^ W → sub r.1 h = true → (∀ r' ∈ rs, brk h r' = false) → sub r.2 h = false → P .fz .non) ∧ (∀ paper, Wlk rs r.1 r.2 paper → sub r.2 (mkW rs r.1 paper) = true → P .fr (nats paper))

theorem sc_way : FnScope ["rules", "rule", "have", "paper", "place"] ["rules", "rule"] (defScope s_way) := ⟨rfl, rfl, rfl, by decide +kernel, rfl, by decide +kernel, by decide +kernel⟩
def t_way : TSd := (sSeq (sSetF 2 (eOp dIx (eVar 1) (eC (.int 0))))
 (sSeq (sSet 3 (eLst aNil))
 (sSeq (sWhile (bNot (tB' (eCallN sp_within (aCons (eOp dIx (eVar 1) (eC (.int 1))) (aCons (eVar 2) aNil)))))
 (sSeq (sSetF 4 (eCallN sp_broken_place (aCons (eVar 0) (aCons (eVar 2) aNil))))
 (sSeq (sIf (tB' (eOp dIs (eVar 4) (eC .non)))
 (sRet (eC .non))
 sNil)
 (sSeq (sApp 3 (eVar 4))
 (sAug 2 dOr (eOp dIx (eOp dIx (eVar 0) (eVar 4)) (eC (.int 1))))))))
 (sRetV 3))))
theorem vs_way (B : Bt mg) (h_within : Has P w K mg base 1 "within" ["small", "large"] sp_within) (h_broken_place : Has P w K mg base 3 "broken_place" ["rules", "mask"] sp_broken_place) (f : Addr) (cdv : Value) (A : Around) (outer : List Env) (s : Shared) (H : Hp) (E : XK) (e0 : Hs) (hr : Room 3 (A.deeper (envOfC "way" (defScope s_way) s.heap.objs.size f cdv))) :
    VSs (cxOf CX0 P w K mg base ["rules", "rule", "have", "paper", "place"] "way" (defScope s_way) f cdv A outer s H E).nox e0 (defBody s_way) t_way := by
  have Sc := sc_way
  exact (vss_cons (vs_setF' (i := 2) (ve_ixK (K := K) rfl (ve_var 1 (pv 1)) ve_int (fun _ _ => rfl)) (fun h => ps_set Sc.nd rfl (.inl rfl) h))
 (vss_cons (vs_set' (i := 3) (ve_lst va_nil) (fun h => ps_set Sc.nd rfl (.inl rfl) h))
 (vss_cons (vs_while PassesOwn.never (vt_not (vt_val (ve_callN (K := K) rfl h_within (hr.mono (by decide)) (by rfl) (va_cons (ve_ixK (K := K) rfl (ve_var 1 (pv 1)) ve_int (fun _ _ => rfl)) (va_cons (ve_var 2 (pv 2)) va_nil)))))
 (vss_cons (vs_setF' (i := 4) (ve_callN (K := K) rfl h_broken_place (hr.mono (by decide)) (by rfl) (va_cons (ve_var 0 (pv 0)) (va_cons (ve_var 2 (pv 2)) va_nil))) (fun h => ps_set Sc.nd rfl (.inl rfl) h))
 (vss_cons (vs_if (vt_cmp vo_is (ve_var 4 (pv 4)) ve_non (nomark _))
 (vss_one (vs_ret ve_non))
 vss_nil)
 (vss_cons (vs_app' (i := 3) (ve_var 4 (pv 4)) (fun h => ps_expr (pe_bm PySem.F.plainAttrs_list PySem.F.slot_list_append PySem.F.type_list_append mt_append (pv 3) (pa_cons h pa_nil))))
 (vss_one (vs_aug' (i := 2) vio_or (ve_ixK (K := K) rfl (ve_ixK (K := K) rfl (ve_var 0 (pv 0)) (ve_var 4 (pv 4)) (fun _ _ => rfl)) ve_int (fun _ _ => rfl)) (fun h h' => ps_aug Sc.nd rfl (.inl rfl) h h')))))))
 (vss_one (vs_retV 3 (pv 3))))))
theorem len_way : ∀ as P, sp_way as P → as.length = 2 := by
  rintro as P ⟨_, _, _, rfl, _⟩; rfl
theorem rd_way : ∀ as P, sp_way as P → t_way { nx := fun _ => P .fz .non, rt := fun k x => k.st = true ∧ P k x } (startD 5 as) := by
  rintro as P ⟨rs, r, W, rfl, hm, hr, hW, hN, hP⟩
  push_cast [t_way, rul]
  intro l
  have h20 : 2 ^ W ≤ 2 ^ 20 := Nat.pow_le_pow_right (by decide) hW
  refine ⟨fun n ρ => ∃ (ps : List Nat) (x : Sl), n = 2 ^ W - mkW rs r.1 ps ∧ ρ = [.v .vw (rulesD rs), .v .fz (.tup [nat r.1, nat r.2]), .v .fz (nat (mkW rs r.1 ps)), .v (.ow l) (nats ps), x] ∧
    mkW rs r.1 ps < 2 ^ W ∧ sub r.1 (mkW rs r.1 ps) = true ∧ ps.length ≤ mkW rs r.1 ps ∧ Wlk rs r.1 r.2 ps, ⟨_, _, .refl _, [], _, rfl, rfl, hm, sub_refl _, Nat.zero_le _, Wlk.nil _ _ _⟩, ?_⟩
  rintro n ρ ⟨ps, x, rfl, rfl, hc, hs, hl, hw⟩
  obtain ⟨c, hce⟩ : ∃ c, mkW rs r.1 ps = c := ⟨_, rfl⟩
  rw [hce] at hc hs hl
  push_cast [hce]
  refine ⟨r.2, c, rfl, ?_⟩
  push_cast [dec_subn]
  cases h : sub r.2 c with
  | true =>
    walk_at "vx"
    exact hP ps hw (by rw [hce]; exact h)
  | false =>
    walk_at "vx"
    refine ⟨rs, c, rfl, ?_⟩
    cases e : rs.findIdx? fun x => brk c x with
    | none =>
      push_cast [optN]
      exact hN c hc hs (find_none_all e) h
    | some k =>
      obtain ⟨hk, hb⟩ := find_some_at e
      have hx := atI_map rs rul k hk
      have hb2 := brk_iff.mp hb
      have h3 : c ||| rs[k].2 < 2 ^ W := or_lt hc (hr _ (List.getElem_mem hk))
      have h4 := or_gt hb2.2
      have hm2 : mkW rs r.1 (ps ++ [k]) = c ||| rs[k].2 := by rw [mkW_snoc, hce, getD_at _ _ _ hk]
      push_cast [optN, List.length_map, hx, rul]
      refine ⟨by omega, _, _, ?_, .refl _, ps ++ [k], _, rfl, by rw [hm2, nats_snoc], ?_, ?_, ?_, ?_⟩
      · rw [hm2]; omega
      · rw [hm2]; exact h3
      · rw [hm2]; exact sub_trans hs (sub_or_left _ _)
      · rw [hm2, List.length_append, List.length_singleton]; omega
      · exact hw.snoc hk (by rw [hce, getD_at _ _ _ hk]; exact hb) (by rw [hce]; exact h)

theorem ok_way (B : Bt mg) (d : Df K mg "way" s_way ["rules", "rule"]) (h_within : Has P w K mg base 1 "within" ["small", "large"] sp_within) (h_broken_place : Has P w K mg base 3 "broken_place" ["rules", "mask"] sp_broken_place) : Has P w K mg base 4 "way" ["rules", "rule"] sp_way :=
  has_ok d sc_way (by decide) (vs_way B h_within h_broken_place) len_way rd_way
/-! ### least -/
def sp_least : DSp := fun as P => ∃ (rows : List Nat) (w : Nat), as = [(.rd, nats rows), (.fz, nat w)] ∧ rows.length ≤ 1000 ∧ w ≤ 16 ∧ P .fr (rulesD (lst rows w (2 ^ w)))

theorem sc_least : FnScope ["rows", "width", "found", "mask", "end"] ["rows", "width"] (defScope s_least) := ⟨rfl, rfl, rfl, by decide +kernel, rfl, by decide +kernel, by decide +kernel⟩
def t_least : TSd := (sSeq (sSet 2 (eLst aNil))
 (sSeq (sFor (iR1 (aCons (eOp dShl (eC (.int 1)) (eVar 1)) aNil)) (hName 3)
 (sSeq (sIf (tB' (eOp dIsNot (eCallN sp_broken_place (aCons (eVar 2) (aCons (eVar 3) aNil))) (eC .non)))
 sCont
 sNil)
 (sSeq (sSetF 4 (eCallN sp_closed (aCons (eVar 0) (aCons (eVar 1) (aCons (eVar 3) aNil)))))
 (sIf (tB' (eOp dNe (eVar 4) (eVar 3)))
 (sApp 2 (eTup (aCons (eVar 3) (aCons (eOp dXor (eVar 4) (eVar 3)) aNil))))
 sNil))))
 (sRetV 2)))
theorem vs_least (B : Bt mg) (h_broken_place : Has P w K mg base 3 "broken_place" ["rules", "mask"] sp_broken_place) (h_closed : Has P w K mg base 3 "closed" ["rows", "width", "mask"] sp_closed) (f : Addr) (cdv : Value) (A : Around) (outer : List Env) (s : Shared) (H : Hp) (E : XK) (e0 : Hs) (hr : Room 3 (A.deeper (envOfC "least" (defScope s_least) s.heap.objs.size f cdv))) :
    VSs (cxOf CX0 P w K mg base ["rows", "width", "found", "mask", "end"] "least" (defScope s_least) f cdv A outer s H E).nox e0 (defBody s_least) t_least := by
  have Sc := sc_least
  exact (vss_cons (vs_set' (i := 2) (ve_lst va_nil) (fun h => ps_set Sc.nd rfl (.inl rfl) h))
 (vss_cons (vs_for PassesOwn.never rfl (vi_range1 (by rfl) B.z_range (va_cons (ve_op vo_shl ve_int (ve_var 1 (pv 1))) va_nil)) (vg_name (pg_name (i := 3) Sc.nd rfl (.inl rfl)))
 (vss_cons (vs_if (vt_cmp vo_isnot (ve_callN (K := K) rfl h_broken_place (hr.mono (by decide)) (by rfl) (va_cons (ve_var 2 (pv 2)) (va_cons (ve_var 3 (pv 3)) va_nil))) ve_non (nomark _))
 (vss_one vs_cont)
 vss_nil)
 (vss_cons (vs_setF' (i := 4) (ve_callN (K := K) rfl h_closed (hr.mono (by decide)) (by rfl) (va_cons (ve_var 0 (pv 0)) (va_cons (ve_var 1 (pv 1)) (va_cons (ve_var 3 (pv 3)) va_nil)))) (fun h => ps_set Sc.nd rfl (.inl rfl) h))
 (vss_one (vs_if (vt_cmp (vo_neK (K := K) rfl hr.units) (ve_var 4 (pv 4)) (ve_var 3 (pv 3)) (nomark _))
 (vss_one (vs_app' (i := 2) (ve_tup (va_cons (ve_var 3 (pv 3)) (va_cons (ve_op vo_xor (ve_var 4 (pv 4)) (ve_var 3 (pv 3))) va_nil))) (fun h => ps_expr (pe_bm PySem.F.plainAttrs_list PySem.F.slot_list_append PySem.F.type_list_append mt_append (pv 2) (pa_cons h pa_nil)))))
 vss_nil)))))
 (vss_one (vs_retV 2 (pv 2)))))
theorem len_least : ∀ as P, sp_least as P → as.length = 2 := by
  rintro as P ⟨_, _, rfl, _⟩; rfl
theorem rd_least : ∀ as P, sp_least as P → t_least { nx := fun _ => P .fz .non, rt := fun k x => k.st = true ∧ P k x } (startD 5 as) := by
  rintro as P ⟨rows, w, rfl, hl, hw, hP⟩
  have hp := Nat.two_pow_pos w
  have h16 : 2 ^ w ≤ 2 ^ 16 := Nat.pow_le_pow_right (by decide) hw
  push_cast [t_least]
  intro l
  walk_at "vi"
  rw [Int.toNat_natCast]
  refine ⟨cpow1 (by omega), by omega, by omega, ?_⟩
  refine for_rng0 (2 ^ w) (fun i ρ => ∃ x y, ρ = [.v .vw (nats rows), .v .fz (nat w), .v (.ow l) (rulesD (lst rows w i)), x, y]) ⟨_, .refl _, _, _, rfl⟩ ?_ ?_
  · rintro i hi ρ ⟨x, y, rfl⟩
    walk_at "vx"
    refine ⟨lst rows w i, i, rfl, ?_⟩
    cases e : (lst rows w i).findIdx? fun r => brk i r with
    | some k =>
      push_cast [optN]
      have e3 : lst rows w (i + 1) = lst rows w i := by rw [lst, if_neg (by rw [e]; simp), List.append_nil]
      exact ⟨_, .refl _, _, _, by rw [e3]⟩
    | none =>
      push_cast [optN]
      refine ⟨rows, w, i, rfl, hl, by omega, ?_⟩
      push_cast [dec_nat]
      cases e2 : decide (clo rows w i = i) with
      | true =>
        walk_at "vx"
        have : clo rows w i = i := by simpa using e2
        have e3 : lst rows w (i + 1) = lst rows w i := by rw [lst, if_neg (by rw [e]; simp [this]), List.append_nil]
        exact ⟨_, .refl _, _, _, by rw [e3]⟩
      | false =>
        have h3 : clo rows w i ≠ i := by simpa using e2
        have h4 := lst_length rows w i
        push_cast [List.length_map]
        have e3 : lst rows w (i + 1) = lst rows w i ++ [(i, clo rows w i ^^^ i)] := by rw [lst, if_pos ⟨e, h3⟩]
        exact ⟨by omega, _, .refl _, _, _, by rw [e3, rulesD_snoc]; rfl⟩
  · rintro ρ ⟨x, y, rfl⟩
    walk_at "vx"
    exact hP

theorem ok_least (B : Bt mg) (d : Df K mg "least" s_least ["rows", "width"]) (h_broken_place : Has P w K mg base 3 "broken_place" ["rules", "mask"] sp_broken_place) (h_closed : Has P w K mg base 3 "closed" ["rows", "width", "mask"] sp_closed) : Has P w K mg base 4 "least" ["rows", "width"] sp_least :=
  has_ok d sc_least (by decide) (vs_least B h_broken_place h_closed) len_least rd_least
/-! ### _law_cell -/

def sp_law_cell : DSp := fun as P => ∃ (ns : List Int) (k : Nat), as = [(.rd, intsD ns), (.fz, nat k)] ∧ P .fz (.int (ns.getD k 0))

theorem sc_law_cell : FnScope ["script", "k"] ["script", "k"] (defScope s_law_cell) := ⟨rfl, rfl, rfl, by decide +kernel, rfl, by decide +kernel, by decide +kernel⟩
def t_law_cell : TSd := (sSeq (sIf (tB' (eOp dLt (eVar 1) (eCall bLen (aCons (eVar 0) aNil))))
 (sRet (eOp dIx (eVar 0) (eVar 1)))
 sNil)
 (sRet (eC (.int 0))))
theorem vs_law_cell (B : Bt mg) (f : Addr) (cdv : Value) (A : Around) (outer : List Env) (s : Shared) (H : Hp) (E : XK) (e0 : Hs) (hr : Room 0 (A.deeper (envOfC "_law_cell" (defScope s_law_cell) s.heap.objs.size f cdv))) :
    VSs (cxOf CX0 P w K mg base ["script", "k"] "_law_cell" (defScope s_law_cell) f cdv A outer s H E).nox e0 (defBody s_law_cell) t_law_cell := by
  have Sc := sc_law_cell
  exact (vss_cons (vs_if (vt_cmp vo_lt (ve_var 1 (pv 1)) (ve_callB (vc_lenK (K := K) rfl) (by rfl) B.z_len PySem.boot_len (va_cons (ve_var 0 (pv 0)) va_nil)) (nomark _))
 (vss_one (vs_ret (ve_ixK (K := K) rfl (ve_var 0 (pv 0)) (ve_var 1 (pv 1)) (fun _ _ => rfl))))
 vss_nil)
 (vss_one (vs_ret ve_int)))
theorem len_law_cell : ∀ as P, sp_law_cell as P → as.length = 2 := by
  rintro as P ⟨ks, k, rfl, _⟩; rfl
theorem rd_law_cell : ∀ as P, sp_law_cell as P → t_law_cell { nx := fun _ => P .fz .non, rt := fun k x => k.st = true ∧ P k x } (startD 2 as) := by
  rintro as P ⟨ns, k, rfl, hP⟩
  push_cast [t_law_cell, List.length_map]
  refine selS_dec (fun h => ?_) (fun h => ?_)
  · have h' : k < ns.length := by omega
    push_cast [atI_map ns _ k h']
    rw [List.getD_eq_getElem?_getD, List.getElem?_eq_getElem h'] at hP
    exact hP
  · walk_at "vx"
    rw [List.getD_eq_getElem?_getD, List.getElem?_eq_none_iff.mpr (by omega)] at hP
    exact hP

theorem ok_law_cell (B : Bt mg) (d : Df K mg "_law_cell" s_law_cell ["script", "k"]) : Has P w K mg base 1 "_law_cell" ["script", "k"] sp_law_cell :=
  has_ok d sc_law_cell (by decide) (vs_law_cell B) len_law_cell rd_law_cell
/-! ### _law_grown -/
def sp_law_grown : DSp := fun as P => ∃ (rs : List (Nat × Nat)) (m W : Nat), as = [(.rd, rulesD rs), (.fz, nat m)] ∧ rs.length ≤ 1000 ∧ m < 2 ^ W ∧ (∀ r ∈ rs, r.2 < 2 ^ W) ∧ ∀ t : Nat, t < 2 ^ W → P .fz (nat t)

theorem sc_law_grown : FnScope ["rules", "have", "k", "rule"] ["rules", "have"] (defScope s_law_grown) := ⟨rfl, rfl, rfl, by decide +kernel, rfl, by decide +kernel, by decide +kernel⟩
def t_law_grown : TSd := (sSeq (sFor (iR1 (aCons (eCall bLen (aCons (eVar 0) aNil)) aNil)) (hName 2)
 (sFor (iLst (eVar 0)) (hName 3)
 (sIf (tB' (eOp dEq (eOp dAnd (eOp dIx (eVar 3) (eC (.int 0))) (eVar 1)) (eOp dIx (eVar 3) (eC (.int 0)))))
 (sSetF 1 (eOp dOr (eVar 1) (eOp dIx (eVar 3) (eC (.int 1)))))
 sNil)))
 (sRet (eVar 1)))
theorem vs_law_grown (B : Bt mg) (f : Addr) (cdv : Value) (A : Around) (outer : List Env) (s : Shared) (H : Hp) (E : XK) (e0 : Hs) (hr : Room 0 (A.deeper (envOfC "_law_grown" (defScope s_law_grown) s.heap.objs.size f cdv))) :
    VSs (cxOf CX0 P w K mg base ["rules", "have", "k", "rule"] "_law_grown" (defScope s_law_grown) f cdv A outer s H E).nox e0 (defBody s_law_grown) t_law_grown := by
  have Sc := sc_law_grown
  exact (vss_cons (vs_for PassesOwn.never rfl (vi_range1 (by rfl) B.z_range (va_cons (ve_callB (vc_lenK (K := K) rfl) (by rfl) B.z_len PySem.boot_len (va_cons (ve_var 0 (pv 0)) va_nil)) va_nil)) (vg_name (pg_name (i := 2) Sc.nd rfl (.inl rfl)))
 (vss_one (vs_for PassesOwn.never rfl (vi_listK (K := K) rfl (ve_var 0 (pv 0))) (vg_name (pg_name (i := 3) Sc.nd rfl (.inl rfl)))
 (vss_one (vs_if (vt_cmp (vo_eqK (K := K) rfl hr.units) (ve_op vo_and (ve_ixK (K := K) rfl (ve_var 3 (pv 3)) ve_int (fun _ _ => rfl)) (ve_var 1 (pv 1))) (ve_ixK (K := K) rfl (ve_var 3 (pv 3)) ve_int (fun _ _ => rfl)) (nomark _))
 (vss_one (vs_setF' (i := 1) (ve_op vo_or (ve_var 1 (pv 1)) (ve_ixK (K := K) rfl (ve_var 3 (pv 3)) ve_int (fun _ _ => rfl))) (fun h => ps_set Sc.nd rfl (.inl rfl) h)))
 vss_nil)))))
 (vss_one (vs_ret (ve_var 1 (pv 1)))))
theorem len_law_grown : ∀ as P, sp_law_grown as P → as.length = 2 := by
  rintro as P ⟨_, _, _, rfl, _⟩; rfl
theorem rd_law_grown : ∀ as P, sp_law_grown as P → t_law_grown { nx := fun _ => P .fz .non, rt := fun k x => k.st = true ∧ P k x } (startD 4 as) := by
  rintro as P ⟨rs, m, W, rfl, hl, hm, hr, hP⟩
  push_cast [t_law_grown]
  walk_at "vi"
  rw [List.length_map, toNat_len]
  refine ⟨by omega, by omega, ?_⟩
  refine for_rng0 rs.length (fun i ρ => ∃ (c : Nat) (x y : Sl), ρ = [.v .vw (rulesD rs), .v .fz (nat c), x, y] ∧ c < 2 ^ W) ⟨_, .refl _, m, _, _, rfl, hm⟩ ?_ ?_
  · rintro i hi ρ ⟨c, x, y, rfl, hc⟩
    walk_at "vx"
    refine for_map rs rul (fun i ρ => ∃ (c : Nat) (x y : Sl), ρ = [.v .vw (rulesD rs), .v .fz (nat c), x, y] ∧ c < 2 ^ W) ⟨_, .refl _, c, _, _, rfl, hc⟩ ?_ ?_
    · rintro j hj ρ ⟨d, x, y, rfl, hd⟩
      push_cast [rul]
      refine selS_dec (fun h => ?_) (fun h => ?_)
      · push_cast [rul]
        exact ⟨_, .refl _, _, _, _, rfl, or_lt hd (hr _ (List.getElem_mem hj))⟩
      · walk_at "vx"
        exact ⟨_, .refl _, _, _, _, rfl, hd⟩
    · rintro ρ ⟨d, x, y, rfl, hd⟩
      exact ⟨_, .refl _, _, _, _, rfl, hd⟩
  · rintro ρ ⟨c, x, y, rfl, hc⟩
    walk_at "vx"
    exact hP c hc

theorem ok_law_grown (B : Bt mg) (d : Df K mg "_law_grown" s_law_grown ["rules", "have"]) : Has P w K mg base 1 "_law_grown" ["rules", "have"] sp_law_grown :=
  has_ok d sc_law_grown (by decide) (vs_law_grown B) len_law_grown rd_law_grown
/-! ### _law_table -/
def sp_law_table : DSp := fun as P => ∃ (ns : List Int) (w : Nat), as = [(.rd, intsD ns), (.fz, nat w)] ∧ ns.length ≤ 63 ∧ w ≤ 1000 ∧ ∀ rows : List Nat, rows.length ≤ 63 → (∀ r ∈ rows, r < 2 ^ w) → P .fr (nats rows)

theorem sc_law_table : FnScope ["script", "width", "size", "many", "rules", "k", "cell"] ["script", "width"] (defScope s_law_table) := ⟨rfl, rfl, rfl, by decide +kernel, rfl, by decide +kernel, by decide +kernel⟩
def t_law_table : TSd := (sSeq (sSetF 2 (eOp dShl (eC (.int 1)) (eVar 1)))
 (sSeq (sSetF 3 (eOp dMod (eCallN sp_law_cell (aCons (eVar 0) (aCons (eC (.int 1)) aNil))) (eC (.int 6))))
 (sSeq (sSet 4 (eLst aNil))
 (sSeq (sFor (iR1 (aCons (eVar 3) aNil)) (hName 5)
 (sApp 4 (eTup (aCons (eOp dMod (eCallN sp_law_cell (aCons (eVar 0) (aCons (eOp dAdd (eOp dMul (eC (.int 2)) (eVar 5)) (eC (.int 2))) aNil))) (eVar 2)) (aCons (eOp dMod (eCallN sp_law_cell (aCons (eVar 0) (aCons (eOp dAdd (eOp dMul (eC (.int 2)) (eVar 5)) (eC (.int 3))) aNil))) (eVar 2)) aNil)))))
 (sRet (eLc (iLst (eSl (eVar 0) (oPart (eOp dAdd (eOp dMul (eC (.int 2)) (eVar 3)) (eC (.int 2)))) (oPart (eOp dAdd (eOp dMul (eC (.int 2)) (eVar 3)) (eC (.int 62)))))) (hName 6) bYes (eCallN sp_law_grown (aCons (eVar 4) (aCons (eOp dMod (eVar 6) (eVar 2)) aNil))) [6]))))))
theorem vs_law_table (B : Bt mg) (h_law_cell : Has P w K mg base 1 "_law_cell" ["script", "k"] sp_law_cell) (h_law_grown : Has P w K mg base 1 "_law_grown" ["rules", "have"] sp_law_grown) (f : Addr) (cdv : Value) (A : Around) (outer : List Env) (s : Shared) (H : Hp) (E : XK) (e0 : Hs) (hr : Room 1 (A.deeper (envOfC "_law_table" (defScope s_law_table) s.heap.objs.size f cdv))) :
    VSs (cxOf CX0 P w K mg base ["script", "width", "size", "many", "rules", "k", "cell"] "_law_table" (defScope s_law_table) f cdv A outer s H E).nox e0 (defBody s_law_table) t_law_table := by
  have Sc := sc_law_table
  exact (vss_cons (vs_setF' (i := 2) (ve_op vo_shl ve_int (ve_var 1 (pv 1))) (fun h => ps_set Sc.nd rfl (.inr rfl) h))
 (vss_cons (vs_setF' (i := 3) (ve_op vo_mod (ve_callN (K := K) rfl h_law_cell (hr.mono (by decide)) (by rfl) (va_cons (ve_var 0 (pv 0)) (va_cons ve_int va_nil))) ve_int) (fun h => ps_set Sc.nd rfl (.inl rfl) h))
 (vss_cons (vs_set' (i := 4) (ve_lst va_nil) (fun h => ps_set Sc.nd rfl (.inr rfl) h))
 (vss_cons (vs_for PassesOwn.never rfl (vi_range1 (by rfl) B.z_range (va_cons (ve_var 3 (pv 3)) va_nil)) (vg_name (pg_name (i := 5) Sc.nd rfl (.inl rfl)))
 (vss_one (vs_app' (i := 4) (ve_tup (va_cons (ve_op vo_mod (ve_callN (K := K) rfl h_law_cell (hr.mono (by decide)) (by rfl) (va_cons (ve_var 0 (pv 0)) (va_cons (ve_op (vo_addK (K := K) rfl) (ve_op vo_mul ve_int (ve_var 5 (pv 5))) ve_int) va_nil))) (ve_var 2 (pv 2))) (va_cons (ve_op vo_mod (ve_callN (K := K) rfl h_law_cell (hr.mono (by decide)) (by rfl) (va_cons (ve_var 0 (pv 0)) (va_cons (ve_op (vo_addK (K := K) rfl) (ve_op vo_mul ve_int (ve_var 5 (pv 5))) ve_int) va_nil))) (ve_var 2 (pv 2))) va_nil))) (fun h => ps_expr (pe_bm PySem.F.plainAttrs_list PySem.F.slot_list_append PySem.F.type_list_append mt_append (pv 4) (pa_cons h pa_nil))))))
 (vss_one (vs_ret (ve_lc0 rfl Sc.nd (vi_listK (K := K) rfl (ve_sliceK (K := K) rfl (ve_var 0 (pv 0)) (vo_part (ve_op (vo_addK (K := K) rfl) (ve_op vo_mul ve_int (ve_var 3 (pv 3))) ve_int)) (vo_part (ve_op (vo_addK (K := K) rfl) (ve_op vo_mul ve_int (ve_var 3 (pv 3))) ve_int)))) (blkOk_by (own := [("cell", 6)]) (N := ["script", "width", "size", "many", "rules", "k", "cell"]) (sc := defScope s_law_table) (by decide +kernel)) (own_name 6) (fun _ _ _ _ _ => (vg_name (pg_name (i := 6) Sc.nd rfl (by first | exact .inl rfl | exact .inr rfl)))) (fun _ _ _ _ _ => (ve_callN (K := K) rfl h_law_grown (hr.mono (by decide)) (by rfl) (va_cons (ve_var 4 (pv 4)) (va_cons (ve_op vo_mod (ve_var 6 (pv 6)) (ve_var 2 (pv 2))) va_nil)))))))))))
theorem len_law_table : ∀ as P, sp_law_table as P → as.length = 2 := by
  rintro as P ⟨_, _, rfl, _⟩; rfl
theorem rd_law_table : ∀ as P, sp_law_table as P → t_law_table { nx := fun _ => P .fz .non, rt := fun k x => k.st = true ∧ P k x } (startD 7 as) := by
  rintro as P ⟨ns, w, rfl, hl, hw, hP⟩
  have hp := Nat.two_pow_pos w
  push_cast [t_law_table]
  refine ⟨cpow1 (by omega), ns, 1, rfl, ?_⟩
  obtain ⟨n, hn, hn2⟩ := mod_i (ns.getD 1 0) 6 (by decide)
  push_cast [hn]
  refine ⟨by decide, ?_⟩
  intro l
  walk_at "vi"
  rw [Int.toNat_natCast]
  refine ⟨by omega, by omega, ?_⟩
  refine for_rng0 n (fun i ρ => ∃ (rs : List (Nat × Nat)) (x : Sl), ρ = [.v .vw (intsD ns), .v .fz (nat w), .v .fz (nat (2 ^ w)), .v .fz (nat n), .v (.ow l) (rulesD rs), x, .no] ∧ rs.length = i ∧ ∀ r ∈ rs, r.2 < 2 ^ w) ⟨_, .refl _, [], _, rfl, rfl, by simp⟩ ?_ ?_
  · rintro i hi ρ ⟨rs, x, rfl, hrl, hr⟩
    have e2 : 2 * (i : Int) + 2 = ((2 * i + 2 : Nat) : Int) := by omega
    have e3 : 2 * (i : Int) + 3 = ((2 * i + 3 : Nat) : Int) := by omega
    push_cast [e2, e3]
    refine ⟨.inl ⟨by decide, by decide⟩, ns, 2 * i + 2, rfl, ?_⟩
    obtain ⟨a, ha, ha2⟩ := mod_nat (ns.getD (2 * i + 2) 0) hp
    push_cast [ha, e3]
    refine ⟨by omega, .inl ⟨by decide, by decide⟩, ns, 2 * i + 3, rfl, ?_⟩
    obtain ⟨b, hb, hb2⟩ := mod_nat (ns.getD (2 * i + 3) 0) hp
    push_cast [hb, List.length_map]
    refine ⟨by omega, by omega, _, .refl _, rs ++ [(a, b)], .v .fz (nat i), by rw [rulesD_snoc]; rfl, by simp [hrl], fun r' hr' => ?_⟩
    rcases List.mem_append.mp hr' with z | z
    · exact hr r' z
    · simp at z; rw [z]; exact hb2
  · rintro ρ ⟨rs, x, rfl, hrl, hr⟩
    walk_at "vx"
    walk_at "vi"
    obtain ⟨cs, hcs, hcl⟩ : ∃ z, cutL ns (some (2 * (n : Int) + 2)) (some (2 * (n : Int) + 62)) = z ∧ z.length ≤ 63 := ⟨_, rfl, Nat.le_trans (cutL_le _ _ _) hl⟩
    simp only [cutL_map, hcs]
    refine ⟨.inl ⟨by decide, by decide⟩, .inl ⟨by decide, by decide⟩, by rw [List.length_map]; omega, lc_rel cs Dt.int nat (fun r => r < 2 ^ w) (fun W i hi acc h => ?_) (fun rows hr1 hr2 => ?_)⟩
    · obtain ⟨q, hq, hq2⟩ := mod_nat cs[i] hp
      push_cast [hq]
      refine ⟨by omega, rs, q, w, rfl, by omega, hq2, hr, fun t ht => ?_⟩
      exact ⟨rfl, h t ht⟩
    · exact hP rows (by omega) hr2

theorem ok_law_table (B : Bt mg) (d : Df K mg "_law_table" s_law_table ["script", "width"]) (h_law_cell : Has P w K mg base 1 "_law_cell" ["script", "k"] sp_law_cell) (h_law_grown : Has P w K mg base 1 "_law_grown" ["rules", "have"] sp_law_grown) : Has P w K mg base 2 "_law_table" ["script", "width"] sp_law_table :=
  has_ok d sc_law_table (by decide) (vs_law_table B h_law_cell h_law_grown) len_law_table rd_law_table
/-! ### _law_closed -/
def sp_law_closed : DSp := fun as P => ∃ (rows : List Nat) (w m : Nat), as = [(.rd, nats rows), (.fz, nat w), (.fz, nat m)] ∧ w ≤ 1000 ∧ P .fz (nat (clo rows w m))

theorem sc_law_closed : FnScope ["rows", "width", "mask", "have", "row"] ["rows", "width", "mask"] (defScope s_law_closed) := ⟨rfl, rfl, rfl, by decide +kernel, rfl, by decide +kernel, by decide +kernel⟩
def t_law_closed : TSd := (sSeq (sSetF 3 (eOp dSub (eOp dShl (eC (.int 1)) (eVar 1)) (eC (.int 1))))
 (sSeq (sFor (iLst (eVar 0)) (hName 4)
 (sIf (tB' (eOp dEq (eOp dAnd (eVar 2) (eVar 4)) (eVar 2)))
 (sSetF 3 (eOp dAnd (eVar 3) (eVar 4)))
 sNil))
 (sRet (eVar 3))))
theorem vs_law_closed (B : Bt mg) (f : Addr) (cdv : Value) (A : Around) (outer : List Env) (s : Shared) (H : Hp) (E : XK) (e0 : Hs) (hr : Room 0 (A.deeper (envOfC "_law_closed" (defScope s_law_closed) s.heap.objs.size f cdv))) :
    VSs (cxOf CX0 P w K mg base ["rows", "width", "mask", "have", "row"] "_law_closed" (defScope s_law_closed) f cdv A outer s H E).nox e0 (defBody s_law_closed) t_law_closed := by
  have Sc := sc_law_closed
  exact (vss_cons (vs_setF' (i := 3) (ve_op vo_sub (ve_op vo_shl ve_int (ve_var 1 (pv 1))) ve_int) (fun h => ps_set Sc.nd rfl (.inl rfl) h))
 (vss_cons (vs_for PassesOwn.never rfl (vi_listK (K := K) rfl (ve_var 0 (pv 0))) (vg_name (pg_name (i := 4) Sc.nd rfl (.inl rfl)))
 (vss_one (vs_if (vt_cmp (vo_eqK (K := K) rfl hr.units) (ve_op vo_and (ve_var 2 (pv 2)) (ve_var 4 (pv 4))) (ve_var 2 (pv 2)) (nomark _))
 (vss_one (vs_setF' (i := 3) (ve_op vo_and (ve_var 3 (pv 3)) (ve_var 4 (pv 4))) (fun h => ps_set Sc.nd rfl (.inl rfl) h)))
 vss_nil)))
 (vss_one (vs_ret (ve_var 3 (pv 3))))))
theorem len_law_closed : ∀ as P, sp_law_closed as P → as.length = 3 := by
  rintro as P ⟨_, _, _, rfl, _⟩; rfl
theorem rd_law_closed : ∀ as P, sp_law_closed as P → t_law_closed { nx := fun _ => P .fz .non, rt := fun k x => k.st = true ∧ P k x } (startD 5 as) := by
  rintro as P ⟨rows, w, m, rfl, hw, hP⟩
  push_cast [t_law_closed, pow_sub_one]
  refine ⟨cpow1 (by omega), ?_⟩
  walk_at "vi"
  refine for_map rows nat (fun i ρ => ∃ x, ρ = [.v .vw (nats rows), .v .fz (nat w), .v .fz (nat m), .v .fz (nat (clo (rows.take i) w m)), x]) ⟨_, .refl _, .no, ?_⟩ ?_ ?_
  · rw [List.take_zero]; rfl
  · rintro i hi ρ ⟨x, rfl⟩
    push_cast [dec_sub]
    rw [clo_take hi]
    refine selS_b (fun h => ?_) (fun h => ?_)
    · push_cast [h]
      exact ⟨_, .refl _, _, rfl⟩
    · push_cast [h]
      exact ⟨_, .refl _, _, rfl⟩
  · rintro ρ ⟨x, rfl⟩
    push_cast [List.take_length]
    exact hP

theorem ok_law_closed (B : Bt mg) (d : Df K mg "_law_closed" s_law_closed ["rows", "width", "mask"]) : Has P w K mg base 1 "_law_closed" ["rows", "width", "mask"] sp_law_closed :=
  has_ok d sc_law_closed (by decide) (vs_law_closed B) len_law_closed rd_law_closed
/-! ### _law_rule -/
def sp_law_rule : DSp := fun as P => ∃ (r : Nat × Nat), as = [(.fz, rul r)] ∧ P .fz (.bl true)

theorem sc_law_rule : FnScope ["told", "part"] ["told"] (defScope s_law_rule) := ⟨rfl, rfl, rfl, by decide +kernel, rfl, by decide +kernel, by decide +kernel⟩
def t_law_rule : TSd := (sSeq (sIf (bOr (bNot (tB' (eIsi "tuple" (eVar 0)))) (tB' (eOp dNe (eCall bLen (aCons (eVar 0) aNil)) (eC (.int 2)))))
 (sRet (eC (.bl false)))
 sNil)
 (sSeq (sFor (iTp (eVar 0)) (hName 1)
 (sIf (bOr (bNot (tB' (eIsi "int" (eVar 1)))) (tB' (eIsi "bool" (eVar 1))))
 (sRet (eC (.bl false)))
 sNil))
 (sRet (eC (.bl true)))))
theorem vs_law_rule (B : Bt mg) (f : Addr) (cdv : Value) (A : Around) (outer : List Env) (s : Shared) (H : Hp) (E : XK) (e0 : Hs) (hr : Room 0 (A.deeper (envOfC "_law_rule" (defScope s_law_rule) s.heap.objs.size f cdv))) :
    VSs (cxOf CX0 P w K mg base ["told", "part"] "_law_rule" (defScope s_law_rule) f cdv A outer s H E).nox e0 (defBody s_law_rule) t_law_rule := by
  have Sc := sc_law_rule
  exact (vss_cons (vs_if (VW.vt (vw_or (vt_not (vt_val (ve_isiK (K := K) rfl (ve_var 0 (pv 0)) (fun h => pe_callB call_isi (by rfl) B.z_isinstance PyProof.Rows.boot_isinstance (pa_cons h (pa_cons (pe_bltn (by rfl) B.z_tuple PyProof.Rows.boot_tuple rfl) pa_nil)))))) (vw_or1 (vt_cmp (vo_neK (K := K) rfl hr.units) (ve_callB (vc_lenK (K := K) rfl) (by rfl) B.z_len PySem.boot_len (va_cons (ve_var 0 (pv 0)) va_nil)) ve_int (nomark _)))))
 (vss_one (vs_ret ve_bl))
 vss_nil)
 (vss_cons (vs_for PassesOwn.never rfl (vi_tupK (K := K) rfl (ve_var 0 (pv 0))) (vg_name (pg_name (i := 1) Sc.nd rfl (.inl rfl)))
 (vss_one (vs_if (VW.vt (vw_or (vt_not (vt_val (ve_isiK (K := K) rfl (ve_var 1 (pv 1)) (fun h => pe_callB call_isi (by rfl) B.z_isinstance PyProof.Rows.boot_isinstance (pa_cons h (pa_cons (pe_bltn (by rfl) B.z_int PyProof.Rows.boot_int rfl) pa_nil)))))) (vw_or1 (vt_val (ve_isiK (K := K) rfl (ve_var 1 (pv 1)) (fun h => pe_callB call_isi (by rfl) B.z_isinstance PyProof.Rows.boot_isinstance (pa_cons h (pa_cons (pe_bltn (by rfl) B.z_bool PyProof.Rows.boot_bool rfl) pa_nil))))))))
 (vss_one (vs_ret ve_bl))
 vss_nil)))
 (vss_one (vs_ret ve_bl))))
theorem len_law_rule : ∀ as P, sp_law_rule as P → as.length = 1 := by
  rintro as P ⟨_, rfl, _⟩; rfl
theorem rd_law_rule : ∀ as P, sp_law_rule as P → t_law_rule { nx := fun _ => P .fz .non, rt := fun k x => k.st = true ∧ P k x } (startD 2 as) := by
  rintro as P ⟨r, rfl, hP⟩
  push_cast [t_law_rule, rul, n2, decide_true]
  walk_at "vi"
  refine for_list' [nat r.1, nat r.2] (fun i ρ => ∃ x, ρ = [.v .fz (.tup [nat r.1, nat r.2]), x]) ⟨_, .refl _, _, rfl⟩ ?_ ?_
  · rintro i hi ρ ⟨x, rfl⟩
    have hi2 : i = 0 ∨ i = 1 := by simp at hi; omega
    rcases hi2 with rfl | rfl
    · push_cast [List.getElem_cons_zero]
      exact ⟨_, .refl _, _, rfl⟩
    · push_cast [List.getElem_cons_succ, List.getElem_cons_zero]
      exact ⟨_, .refl _, _, rfl⟩
  · rintro ρ ⟨x, rfl⟩
    walk_at "vx"
    exact hP

theorem ok_law_rule (B : Bt mg) (d : Df K mg "_law_rule" s_law_rule ["told"]) : Has P w K mg base 1 "_law_rule" ["told"] sp_law_rule :=
  has_ok d sc_law_rule (by decide) (vs_law_rule B) len_law_rule rd_law_rule
/-! ### _law_sharp -/
def sp_law_sharp : DSp := fun as P => ∃ (rows : List Nat) (w m t : Nat), as = [(.rd, nats rows), (.fz, nat w), (.fz, nat m), (.fz, nat t)] ∧ w ≤ 1000 ∧ ∀ h : Nat, sub h m = true → clo rows w h = clo rows w m → P .fz (rul (h, clo rows w m))

theorem sc_law_sharp : FnScope ["rows", "width", "start", "turn", "end", "have", "k", "less"] ["rows", "width", "start", "turn"] (defScope s_law_sharp) := ⟨rfl, rfl, rfl, by decide +kernel, rfl, by decide +kernel, by decide +kernel⟩
def t_law_sharp : TSd := (sSeq (sSetF 4 (eCallN sp_law_closed (aCons (eVar 0) (aCons (eVar 1) (aCons (eVar 2) aNil)))))
 (sSeq (sSetF 5 (eVar 2))
 (sSeq (sFor (iR1 (aCons (eVar 1) aNil)) (hName 6)
 (sSeq (sSetF 7 (eOp dAnd (eVar 5) (eOp dXor (eVar 4) (eOp dShl (eC (.int 1)) (eOp dMod (eOp dAdd (eVar 6) (eVar 3)) (eVar 1))))))
 (sIf (tB' (eOp dEq (eCallN sp_law_closed (aCons (eVar 0) (aCons (eVar 1) (aCons (eVar 7) aNil)))) (eVar 4)))
 (sSetF 5 (eVar 7))
 sNil)))
 (sRet (eTup (aCons (eVar 5) (aCons (eVar 4) aNil)))))))
theorem vs_law_sharp (B : Bt mg) (h_law_closed : Has P w K mg base 1 "_law_closed" ["rows", "width", "mask"] sp_law_closed) (f : Addr) (cdv : Value) (A : Around) (outer : List Env) (s : Shared) (H : Hp) (E : XK) (e0 : Hs) (hr : Room 1 (A.deeper (envOfC "_law_sharp" (defScope s_law_sharp) s.heap.objs.size f cdv))) :
    VSs (cxOf CX0 P w K mg base ["rows", "width", "start", "turn", "end", "have", "k", "less"] "_law_sharp" (defScope s_law_sharp) f cdv A outer s H E).nox e0 (defBody s_law_sharp) t_law_sharp := by
  have Sc := sc_law_sharp
  exact (vss_cons (vs_setF' (i := 4) (ve_callN (K := K) rfl h_law_closed (hr.mono (by decide)) (by rfl) (va_cons (ve_var 0 (pv 0)) (va_cons (ve_var 1 (pv 1)) (va_cons (ve_var 2 (pv 2)) va_nil)))) (fun h => ps_set Sc.nd rfl (.inl rfl) h))
 (vss_cons (vs_setF' (i := 5) (ve_var 2 (pv 2)) (fun h => ps_set Sc.nd rfl (.inl rfl) h))
 (vss_cons (vs_for PassesOwn.never rfl (vi_range1 (by rfl) B.z_range (va_cons (ve_var 1 (pv 1)) va_nil)) (vg_name (pg_name (i := 6) Sc.nd rfl (.inl rfl)))
 (vss_cons (vs_setF' (i := 7) (ve_op vo_and (ve_var 5 (pv 5)) (ve_op vo_xor (ve_var 4 (pv 4)) (ve_op vo_shl ve_int (ve_op vo_mod (ve_op (vo_addK (K := K) rfl) (ve_var 6 (pv 6)) (ve_var 3 (pv 3))) (ve_var 1 (pv 1)))))) (fun h => ps_set Sc.nd rfl (.inl rfl) h))
 (vss_one (vs_if (vt_cmp (vo_eqK (K := K) rfl hr.units) (ve_callN (K := K) rfl h_law_closed (hr.mono (by decide)) (by rfl) (va_cons (ve_var 0 (pv 0)) (va_cons (ve_var 1 (pv 1)) (va_cons (ve_var 7 (pv 7)) va_nil)))) (ve_var 4 (pv 4)) (nomark _))
 (vss_one (vs_setF' (i := 5) (ve_var 7 (pv 7)) (fun h => ps_set Sc.nd rfl (.inl rfl) h)))
 vss_nil))))
 (vss_one (vs_ret (ve_tup (va_cons (ve_var 5 (pv 5)) (va_cons (ve_var 4 (pv 4)) va_nil))))))))
theorem len_law_sharp : ∀ as P, sp_law_sharp as P → as.length = 4 := by
  rintro as P ⟨_, _, _, _, rfl, _⟩; rfl
theorem rd_law_sharp : ∀ as P, sp_law_sharp as P → t_law_sharp { nx := fun _ => P .fz .non, rt := fun k x => k.st = true ∧ P k x } (startD 8 as) := by
  rintro as P ⟨rows, w, m, t, rfl, hw, hP⟩
  push_cast [t_law_sharp]
  refine ⟨rows, w, m, rfl, hw, ?_⟩
  walk_at "vx"
  walk_at "vi"
  rw [Int.toNat_natCast]
  refine ⟨by omega, by omega, ?_⟩
  refine for_rng0 w (fun i ρ => ∃ (h : Nat) (x y : Sl), ρ = [.v .vw (nats rows), .v .fz (nat w), .v .fz (nat m), .v .fz (nat t), .v .fz (nat (clo rows w m)), .v .fz (nat h), x, y] ∧ sub h m = true ∧ clo rows w h = clo rows w m) ⟨_, .refl _, m, _, _, rfl, sub_refl m, rfl⟩ ?_ ?_
  · rintro i hi ρ ⟨h, x, y, rfl, hh, hc⟩
    obtain ⟨q, hq, hq2⟩ := mod_nat ((i : Int) + (t : Int)) (n := w) (by omega)
    push_cast [hq]
    refine ⟨by omega, cpow1 (by omega), rows, w, _, rfl, hw, ?_⟩
    walk_at "vx"
    refine selS_dec (fun h1 => ?_) (fun h1 => ?_)
    · walk_at "vx"
      exact ⟨_, .refl _, _, _, _, rfl, sub_trans (and_sub_left _ _) hh, by omega⟩
    · walk_at "vx"
      exact ⟨_, .refl _, _, _, _, rfl, hh, hc⟩
  · rintro ρ ⟨h, x, y, rfl, hh, hc⟩
    walk_at "vx"
    exact hP h hh hc

theorem ok_law_sharp (B : Bt mg) (d : Df K mg "_law_sharp" s_law_sharp ["rows", "width", "start", "turn"]) (h_law_closed : Has P w K mg base 1 "_law_closed" ["rows", "width", "mask"] sp_law_closed) : Has P w K mg base 2 "_law_sharp" ["rows", "width", "start", "turn"] sp_law_sharp :=
  has_ok d sc_law_sharp (by decide) (vs_law_sharp B h_law_closed) len_law_sharp rd_law_sharp
/-! ### _law_walked -/
def sp_law_walked : DSp := fun as P => ∃ (rs : List (Nat × Nat)) (r : Nat × Nat) (ps : List Nat), as = [(.rd, rulesD rs), (.fz, rul r), (.rd, nats ps)] ∧ Wlk rs r.1 r.2 ps ∧ sub r.2 (mkW rs r.1 ps) = true ∧ P .fz (.bl true)

theorem sc_law_walked : FnScope ["rules", "rule", "paper", "have", "place"] ["rules", "rule", "paper"] (defScope s_law_walked) := ⟨rfl, rfl, rfl, by decide +kernel, rfl, by decide +kernel, by decide +kernel⟩
def t_law_walked : TSd := (sSeq (sSetF 3 (eOp dIx (eVar 1) (eC (.int 0))))
 (sSeq (sIf (bNot (tB' (eIsi "list" (eVar 2))))
 (sRet (eC (.bl false)))
 sNil)
 (sSeq (sFor (iLst (eVar 2)) (hName 4)
 (sSeq (sIf (bOr (bNot (tB' (eIsi "int" (eVar 4)))) (bOr (tB' (eIsi "bool" (eVar 4))) (bOr (tB' (eOp dLt (eVar 4) (eC (.int 0)))) (tB' (eOp dGe (eVar 4) (eCall bLen (aCons (eVar 0) aNil)))))))
 (sRet (eC (.bl false)))
 sNil)
 (sSeq (sIf (bOr (tB' (eOp dNe (eOp dAnd (eOp dIx (eOp dIx (eVar 0) (eVar 4)) (eC (.int 0))) (eVar 3)) (eOp dIx (eOp dIx (eVar 0) (eVar 4)) (eC (.int 0))))) (tB' (eOp dEq (eOp dAnd (eOp dIx (eOp dIx (eVar 0) (eVar 4)) (eC (.int 1))) (eVar 3)) (eOp dIx (eOp dIx (eVar 0) (eVar 4)) (eC (.int 1))))))
 (sRet (eC (.bl false)))
 sNil)
 (sSetF 3 (eOp dOr (eVar 3) (eOp dIx (eOp dIx (eVar 0) (eVar 4)) (eC (.int 1))))))))
 (sRet (eOp dEq (eOp dAnd (eOp dIx (eVar 1) (eC (.int 1))) (eVar 3)) (eOp dIx (eVar 1) (eC (.int 1))))))))
theorem vs_law_walked (B : Bt mg) (f : Addr) (cdv : Value) (A : Around) (outer : List Env) (s : Shared) (H : Hp) (E : XK) (e0 : Hs) (hr : Room 0 (A.deeper (envOfC "_law_walked" (defScope s_law_walked) s.heap.objs.size f cdv))) :
    VSs (cxOf CX0 P w K mg base ["rules", "rule", "paper", "have", "place"] "_law_walked" (defScope s_law_walked) f cdv A outer s H E).nox e0 (defBody s_law_walked) t_law_walked := by
  have Sc := sc_law_walked
  exact (vss_cons (vs_setF' (i := 3) (ve_ixK (K := K) rfl (ve_var 1 (pv 1)) ve_int (fun _ _ => rfl)) (fun h => ps_set Sc.nd rfl (.inl rfl) h))
 (vss_cons (vs_if (vt_not (vt_val (ve_isiK (K := K) rfl (ve_var 2 (pv 2)) (fun h => pe_callB call_isi (by rfl) B.z_isinstance PyProof.Rows.boot_isinstance (pa_cons h (pa_cons (pe_bltn (by rfl) B.z_list PyProof.Rows.boot_list rfl) pa_nil))))))
 (vss_one (vs_ret ve_bl))
 vss_nil)
 (vss_cons (vs_for PassesOwn.never rfl (vi_listK (K := K) rfl (ve_var 2 (pv 2))) (vg_name (pg_name (i := 4) Sc.nd rfl (.inl rfl)))
 (vss_cons (vs_if (VW.vt (vw_or (vt_not (vt_val (ve_isiK (K := K) rfl (ve_var 4 (pv 4)) (fun h => pe_callB call_isi (by rfl) B.z_isinstance PyProof.Rows.boot_isinstance (pa_cons h (pa_cons (pe_bltn (by rfl) B.z_int PyProof.Rows.boot_int rfl) pa_nil)))))) (vw_or (vt_val (ve_isiK (K := K) rfl (ve_var 4 (pv 4)) (fun h => pe_callB call_isi (by rfl) B.z_isinstance PyProof.Rows.boot_isinstance (pa_cons h (pa_cons (pe_bltn (by rfl) B.z_bool PyProof.Rows.boot_bool rfl) pa_nil))))) (vw_or (vt_cmp vo_lt (ve_var 4 (pv 4)) ve_int (nomark _)) (vw_or1 (vt_cmp vo_ge (ve_var 4 (pv 4)) (ve_callB (vc_lenK (K := K) rfl) (by rfl) B.z_len PySem.boot_len (va_cons (ve_var 0 (pv 0)) va_nil)) (nomark _)))))))
 (vss_one (vs_ret ve_bl))
 vss_nil)
 (vss_cons (vs_if (VW.vt (vw_or (vt_cmp (vo_neK (K := K) rfl hr.units) (ve_op vo_and (ve_ixK (K := K) rfl (ve_ixK (K := K) rfl (ve_var 0 (pv 0)) (ve_var 4 (pv 4)) (fun _ _ => rfl)) ve_int (fun _ _ => rfl)) (ve_var 3 (pv 3))) (ve_ixK (K := K) rfl (ve_ixK (K := K) rfl (ve_var 0 (pv 0)) (ve_var 4 (pv 4)) (fun _ _ => rfl)) ve_int (fun _ _ => rfl)) (nomark _)) (vw_or1 (vt_cmp (vo_eqK (K := K) rfl hr.units) (ve_op vo_and (ve_ixK (K := K) rfl (ve_ixK (K := K) rfl (ve_var 0 (pv 0)) (ve_var 4 (pv 4)) (fun _ _ => rfl)) ve_int (fun _ _ => rfl)) (ve_var 3 (pv 3))) (ve_ixK (K := K) rfl (ve_ixK (K := K) rfl (ve_var 0 (pv 0)) (ve_var 4 (pv 4)) (fun _ _ => rfl)) ve_int (fun _ _ => rfl)) (nomark _)))))
 (vss_one (vs_ret ve_bl))
 vss_nil)
 (vss_one (vs_setF' (i := 3) (ve_op vo_or (ve_var 3 (pv 3)) (ve_ixK (K := K) rfl (ve_ixK (K := K) rfl (ve_var 0 (pv 0)) (ve_var 4 (pv 4)) (fun _ _ => rfl)) ve_int (fun _ _ => rfl))) (fun h => ps_set Sc.nd rfl (.inl rfl) h))))))
 (vss_one (vs_ret (ve_cmp (vo_eqK (K := K) rfl hr.units) (ve_op vo_and (ve_ixK (K := K) rfl (ve_var 1 (pv 1)) ve_int (fun _ _ => rfl)) (ve_var 3 (pv 3))) (ve_ixK (K := K) rfl (ve_var 1 (pv 1)) ve_int (fun _ _ => rfl)) (nomark _)))))))
theorem len_law_walked : ∀ as P, sp_law_walked as P → as.length = 3 := by
  rintro as P ⟨_, _, _, rfl, _⟩; rfl
theorem rd_law_walked : ∀ as P, sp_law_walked as P → t_law_walked { nx := fun _ => P .fz .non, rt := fun k x => k.st = true ∧ P k x } (startD 5 as) := by
  rintro as P ⟨rs, r, ps, rfl, hw, hs, hP⟩
  push_cast [t_law_walked, rul]
  walk_at "vi"
  refine for_map ps nat (fun i ρ => ∃ x, ρ = [.v .vw (rulesD rs), .v .fz (.tup [nat r.1, nat r.2]), .v .vw (nats ps), .v .fz (nat (mkW rs r.1 (ps.take i))), x]) ⟨_, .refl _, _, rfl⟩ ?_ ?_
  · rintro i hi ρ ⟨x, rfl⟩
    obtain ⟨h1, h2, h3⟩ := hw i hi
    have hx := atI_map rs rul ps[i] h1
    rw [getD_at _ _ _ h1] at h2
    have hb := brk_iff.mp h2
    have hA : decide ((ps[i] : Int) < 0) = false := by rw [decide_eq_false_iff_not]; omega
    have hB : decide ((rs.length : Int) ≤ (ps[i] : Int)) = false := by rw [decide_eq_false_iff_not]; omega
    push_cast [hA, hB, List.length_map, hx, rul, dec_sub, hb.1, hb.2]
    refine ⟨_, .refl _, .v .fz (nat ps[i]), ?_⟩
    rw [take_succ_at _ _ hi, mkW_snoc, getD_at _ _ _ h1]
  · rintro ρ ⟨x, rfl⟩
    rw [List.take_length]
    push_cast [dec_sub, hs]
    exact hP

theorem ok_law_walked (B : Bt mg) (d : Df K mg "_law_walked" s_law_walked ["rules", "rule", "paper"]) : Has P w K mg base 1 "_law_walked" ["rules", "rule", "paper"] sp_law_walked :=
  has_ok d sc_law_walked (by decide) (vs_law_walked B) len_law_walked rd_law_walked
/-! ### _law_fewer -/
def sp_law_fewer : DSp := fun as P => ∃ (ns : List Int) (rows : List Nat) (w : Nat) (ts ss : List (Nat × Nat)), as = [(.rd, intsD ns), (.rd, nats rows), (.fz, nat w), (.rd, rulesD ts), (.rd, rulesD ss)] ∧ w ≤ 16 ∧ 0 < ts.length ∧ ts.length ≤ 1000000 ∧ ss.length = ts.length ∧
  (∀ f ∈ ss, f.2 < 2 ^ w ∧ sub f.2 (clo rows w f.1) = true) ∧ ∀ fs : List (Nat × Nat), fs.length = ts.length - 1 → (∀ f ∈ fs, f.2 < 2 ^ w ∧ sub f.2 (clo rows w f.1) = true) → P .fr (rulesD fs)

theorem sc_law_fewer : FnScope ["script", "rows", "width", "told", "sharp", "rules", "left", "mixed", "k", "place", "number", "start"] ["script", "rows", "width", "told", "sharp"] (defScope s_law_fewer) := ⟨rfl, rfl, rfl, by decide +kernel, rfl, by decide +kernel, by decide +kernel⟩
def t_law_fewer : TSd := (sSeq (sSet 5 (eLst aNil))
 (sSeq (sSetF 6 (eOp dMod (eOp dFdiv (eCallN sp_law_cell (aCons (eVar 0) (aCons (eC (.int 0)) aNil))) (eC (.int 7))) (eCall bLen (aCons (eVar 3) aNil))))
 (sSeq (sSetF 7 (eOp dEq (eOp dMod (eOp dFdiv (eCallN sp_law_cell (aCons (eVar 0) (aCons (eC (.int 1)) aNil))) (eC (.int 6))) (eC (.int 2))) (eC (.int 1))))
 (sSeq (sFor (iR1 (aCons (eOp dSub (eCall bLen (aCons (eVar 3) aNil)) (eC (.int 1))) aNil)) (hName 8)
 (sSeq (sSetF 9 (eOp dAdd (eVar 8) (eCall bInt (aCons (eOp dGe (eVar 8) (eVar 6)) aNil))))
 (sSeq (sSetF 10 (eOp dMod (eOp dMul (eCallN sp_law_cell (aCons (eVar 0) (aCons (eOp dAdd (eVar 8) (eC (.int 2))) aNil))) (eC (.int 48271))) (eC (.int 2147483647))))
 (sIf (bNot (tB' (eVar 7)))
 (sApp 5 (eOp dIx (eVar 4) (eVar 9)))
 (sIf (tB' (eOp dEq (eOp dMod (eVar 10) (eC (.int 3))) (eC (.int 0))))
 (sSeq (sSetF 11 (eOp dMod (eOp dFdiv (eVar 10) (eC (.int 3))) (eOp dShl (eC (.int 1)) (eVar 2))))
 (sApp 5 (eTup (aCons (eVar 11) (aCons (eCallN sp_law_closed (aCons (eVar 1) (aCons (eVar 2) (aCons (eVar 11) aNil)))) aNil)))))
 (sIf (tB' (eOp dEq (eOp dMod (eVar 10) (eC (.int 3))) (eC (.int 1))))
 (sSeq (sSetF 11 (eOp dAnd (eOp dIx (eOp dIx (eVar 3) (eVar 9)) (eC (.int 0))) (eOp dIx (eOp dIx (eVar 3) (eOp dMod (eOp dFdiv (eVar 10) (eC (.int 3))) (eCall bLen (aCons (eVar 3) aNil)))) (eC (.int 0)))))
 (sApp 5 (eTup (aCons (eVar 11) (aCons (eCallN sp_law_closed (aCons (eVar 1) (aCons (eVar 2) (aCons (eVar 11) aNil)))) aNil)))))
 (sApp 5 (eOp dIx (eVar 4) (eVar 9)))))))))
 (sRetV 5)))))
theorem vs_law_fewer (B : Bt mg) (h_law_cell : Has P w K mg base 1 "_law_cell" ["script", "k"] sp_law_cell) (h_law_closed : Has P w K mg base 1 "_law_closed" ["rows", "width", "mask"] sp_law_closed) (f : Addr) (cdv : Value) (A : Around) (outer : List Env) (s : Shared) (H : Hp) (E : XK) (e0 : Hs) (hr : Room 1 (A.deeper (envOfC "_law_fewer" (defScope s_law_fewer) s.heap.objs.size f cdv))) :
    VSs (cxOf CX0 P w K mg base ["script", "rows", "width", "told", "sharp", "rules", "left", "mixed", "k", "place", "number", "start"] "_law_fewer" (defScope s_law_fewer) f cdv A outer s H E).nox e0 (defBody s_law_fewer) t_law_fewer := by
  have Sc := sc_law_fewer
  exact (vss_cons (vs_set' (i := 5) (ve_lst va_nil) (fun h => ps_set Sc.nd rfl (.inl rfl) h))
 (vss_cons (vs_setF' (i := 6) (ve_op vo_mod (ve_op vo_fdiv (ve_callN (K := K) rfl h_law_cell (hr.mono (by decide)) (by rfl) (va_cons (ve_var 0 (pv 0)) (va_cons ve_int va_nil))) ve_int) (ve_callB (vc_lenK (K := K) rfl) (by rfl) B.z_len PySem.boot_len (va_cons (ve_var 3 (pv 3)) va_nil))) (fun h => ps_set Sc.nd rfl (.inl rfl) h))
 (vss_cons (vs_setF' (i := 7) (ve_cmp (vo_eqK (K := K) rfl hr.units) (ve_op vo_mod (ve_op vo_fdiv (ve_callN (K := K) rfl h_law_cell (hr.mono (by decide)) (by rfl) (va_cons (ve_var 0 (pv 0)) (va_cons ve_int va_nil))) ve_int) ve_int) ve_int (nomark _)) (fun h => ps_set Sc.nd rfl (.inl rfl) h))
 (vss_cons (vs_for PassesOwn.never rfl (vi_range1 (by rfl) B.z_range (va_cons (ve_op vo_sub (ve_callB (vc_lenK (K := K) rfl) (by rfl) B.z_len PySem.boot_len (va_cons (ve_var 3 (pv 3)) va_nil)) ve_int) va_nil)) (vg_name (pg_name (i := 8) Sc.nd rfl (.inl rfl)))
 (vss_cons (vs_setF' (i := 9) (ve_op (vo_addK (K := K) rfl) (ve_var 8 (pv 8)) (ve_callTy vc_int (by rfl) B.z_int PyProof.Rows.boot_int (va_cons (ve_cmp vo_ge (ve_var 8 (pv 8)) (ve_var 6 (pv 6)) (nomark _)) va_nil))) (fun h => ps_set Sc.nd rfl (.inl rfl) h))
 (vss_cons (vs_setF' (i := 10) (ve_op vo_mod (ve_op vo_mul (ve_callN (K := K) rfl h_law_cell (hr.mono (by decide)) (by rfl) (va_cons (ve_var 0 (pv 0)) (va_cons (ve_op (vo_addK (K := K) rfl) (ve_var 8 (pv 8)) ve_int) va_nil))) ve_int) ve_int) (fun h => ps_set Sc.nd rfl (.inl rfl) h))
 (vss_one (vs_if (vt_not (vt_val (ve_var 7 (pv 7))))
 (vss_one (vs_app' (i := 5) (ve_ixK (K := K) rfl (ve_var 4 (pv 4)) (ve_var 9 (pv 9)) (fun _ _ => rfl)) (fun h => ps_expr (pe_bm PySem.F.plainAttrs_list PySem.F.slot_list_append PySem.F.type_list_append mt_append (pv 5) (pa_cons h pa_nil)))))
 (vss_one (vs_if (vt_cmp (vo_eqK (K := K) rfl hr.units) (ve_op vo_mod (ve_var 10 (pv 10)) ve_int) ve_int (nomark _))
 (vss_cons (vs_setF' (i := 11) (ve_op vo_mod (ve_op vo_fdiv (ve_var 10 (pv 10)) ve_int) (ve_op vo_shl ve_int (ve_var 2 (pv 2)))) (fun h => ps_set Sc.nd rfl (.inl rfl) h))
 (vss_one (vs_app' (i := 5) (ve_tup (va_cons (ve_var 11 (pv 11)) (va_cons (ve_callN (K := K) rfl h_law_closed (hr.mono (by decide)) (by rfl) (va_cons (ve_var 1 (pv 1)) (va_cons (ve_var 2 (pv 2)) (va_cons (ve_var 11 (pv 11)) va_nil)))) va_nil))) (fun h => ps_expr (pe_bm PySem.F.plainAttrs_list PySem.F.slot_list_append PySem.F.type_list_append mt_append (pv 5) (pa_cons h pa_nil))))))
 (vss_one (vs_if (vt_cmp (vo_eqK (K := K) rfl hr.units) (ve_op vo_mod (ve_var 10 (pv 10)) ve_int) ve_int (nomark _))
 (vss_cons (vs_setF' (i := 11) (ve_op vo_and (ve_ixK (K := K) rfl (ve_ixK (K := K) rfl (ve_var 3 (pv 3)) (ve_var 9 (pv 9)) (fun _ _ => rfl)) ve_int (fun _ _ => rfl)) (ve_ixK (K := K) rfl (ve_ixK (K := K) rfl (ve_var 3 (pv 3)) (ve_op vo_mod (ve_op vo_fdiv (ve_var 10 (pv 10)) ve_int) (ve_callB (vc_lenK (K := K) rfl) (by rfl) B.z_len PySem.boot_len (va_cons (ve_var 3 (pv 3)) va_nil))) (fun _ _ => rfl)) ve_int (fun _ _ => rfl))) (fun h => ps_set Sc.nd rfl (.inl rfl) h))
 (vss_one (vs_app' (i := 5) (ve_tup (va_cons (ve_var 11 (pv 11)) (va_cons (ve_callN (K := K) rfl h_law_closed (hr.mono (by decide)) (by rfl) (va_cons (ve_var 1 (pv 1)) (va_cons (ve_var 2 (pv 2)) (va_cons (ve_var 11 (pv 11)) va_nil)))) va_nil))) (fun h => ps_expr (pe_bm PySem.F.plainAttrs_list PySem.F.slot_list_append PySem.F.type_list_append mt_append (pv 5) (pa_cons h pa_nil))))))
 (vss_one (vs_app' (i := 5) (ve_ixK (K := K) rfl (ve_var 4 (pv 4)) (ve_var 9 (pv 9)) (fun _ _ => rfl)) (fun h => ps_expr (pe_bm PySem.F.plainAttrs_list PySem.F.slot_list_append PySem.F.type_list_append mt_append (pv 5) (pa_cons h pa_nil))))))))))))))
 (vss_one (vs_retV 5 (pv 5)))))))
theorem len_law_fewer : ∀ as P, sp_law_fewer as P → as.length = 5 := by
  rintro as P ⟨_, _, _, _, _, rfl, _⟩; rfl
theorem rd_law_fewer : ∀ as P, sp_law_fewer as P → t_law_fewer { nx := fun _ => P .fz .non, rt := fun k x => k.st = true ∧ P k x } (startD 12 as) := by
  rintro as P ⟨ns, rows, w, ts, ss, rfl, hw, ht0, ht, hs, hss, hP⟩
  have hp := Nat.two_pow_pos w
  have h16 : 2 ^ w ≤ 2 ^ 16 := Nat.pow_le_pow_right (by decide) (by omega)
  push_cast [t_law_fewer]
  intro l
  refine ⟨ns, 0, rfl, ?_⟩
  obtain ⟨left, hleft, hleft2⟩ := mod_nat (ns.getD 0 0 / 7) (n := ts.length) ht0
  push_cast [List.length_map, hleft]
  refine ⟨⟨by decide, by decide⟩, by omega, ns, 1, rfl, ?_⟩
  walk_at "vx"
  refine ⟨⟨by decide, by decide⟩, by decide, ?_⟩
  walk_at "vi"
  obtain ⟨n, hn⟩ : ∃ n : Nat, ts.length = n + 1 := ⟨ts.length - 1, by omega⟩
  have en : (((ts.map rul).length : Nat) : Int) - 1 = (n : Int) := by rw [List.length_map]; omega
  obtain ⟨b, hb⟩ : ∃ b, decide (ns.getD 1 0 / 6 % 2 = 1) = b := ⟨_, rfl⟩
  rw [en, Int.toNat_natCast, hb]
  refine ⟨by omega, by omega, ?_⟩
  refine for_rng0 n (fun i ρ => ∃ (fs : List (Nat × Nat)) (x y z u : Sl), ρ = [.v .vw (intsD ns), .v .vw (nats rows), .v .fz (nat w), .v .vw (rulesD ts), .v .vw (rulesD ss), .v (.ow l) (rulesD fs), .v .fz (nat left), .v .fz (.bl b), x, y, z, u] ∧ fs.length = i ∧ ∀ f ∈ fs, f.2 < 2 ^ w ∧ sub f.2 (clo rows w f.1) = true) ⟨_, .refl _, [], _, _, _, _, rfl, rfl, by simp⟩ ?_ ?_
  · rintro i hi ρ ⟨fs, x, y, z, u, rfl, hfl, hfs⟩
    obtain ⟨j, hj, hj2⟩ : ∃ j : Nat, (i : Int) + (if decide ((i : Int) ≥ (left : Int)) = true then 1 else 0) = (j : Int) ∧ j < ts.length := by
      by_cases q : (i : Int) ≥ (left : Int)
      · exact ⟨i + 1, by simp only [q]; rfl, by omega⟩
      · exact ⟨i, by simp only [q]; simp, by omega⟩
    obtain ⟨c, hc⟩ : ∃ c, ns.getD (i + 2) 0 = c := ⟨_, rfl⟩
    obtain ⟨v, hv, hv2⟩ := mod_i (c * 48271) 2147483647 (by decide)
    have ei : (i : Int) + 2 = ((i + 2 : Nat) : Int) := by omega
    have hx := atI_map ts rul j hj2
    have hy := atI_map ss rul j (by omega)
    have more : ∀ (f : Nat × Nat) (z u : Sl), f.2 < 2 ^ w → sub f.2 (clo rows w f.1) = true → ∃ ρ', Wk [.v .vw (intsD ns), .v .vw (nats rows), .v .fz (nat w), .v .vw (rulesD ts), .v .vw (rulesD ss), .v (.ow l) (rulesD (fs ++ [f])), .v .fz (nat left), .v .fz (.bl b), .v .fz (nat i), .v .fz (nat j), z, u] ρ' ∧ ∃ (fs : List (Nat × Nat)) (x y z u : Sl), ρ' = [.v .vw (intsD ns), .v .vw (nats rows), .v .fz (nat w), .v .vw (rulesD ts), .v .vw (rulesD ss), .v (.ow l) (rulesD fs), .v .fz (nat left), .v .fz (.bl b), x, y, z, u] ∧ fs.length = i + 1 ∧ ∀ f ∈ fs, f.2 < 2 ^ w ∧ sub f.2 (clo rows w f.1) = true := fun f z u g1 g2 => by
      refine ⟨_, .refl _, fs ++ [f], _, _, _, _, rfl, by rw [List.length_append, List.length_singleton, hfl], fun f' h => ?_⟩
      rcases List.mem_append.mp h with q | q
      · exact hfs f' q
      · rw [List.mem_singleton] at q; rw [q]; exact ⟨g1, g2⟩
    simp only [rulesD_snoc] at more
    obtain ⟨s1, s2⟩ := hss _ (List.getElem_mem (show j < ss.length by omega))
    push_cast [hj, ei]
    refine ⟨ns, i + 2, rfl, ?_⟩
    push_cast [hc, hv]
    refine ⟨.inr ⟨by decide, by decide⟩, by decide, ?_⟩
    cases b with
    | false =>
      push_cast [hy, List.length_map]
      exact ⟨by omega, more _ _ _ s1 s2⟩
    | true =>
      walk_at "vx"
      refine ⟨by decide, selS_dec (fun h3 => ?_) (fun h3 => ?_)⟩
      · obtain ⟨e, he, he2⟩ := mod_nat ((v : Int) / 3) (n := 2 ^ w) hp
        push_cast [he]
        refine ⟨⟨by decide, by decide⟩, cpow1 (by omega), by omega, rows, w, e, rfl, by omega, ?_⟩
        push_cast [List.length_map]
        exact ⟨by omega, more (_, _) _ _ (clo_lt _ _ _) (sub_refl _)⟩
      · walk_at "vx"
        refine ⟨by decide, selS_dec (fun h4 => ?_) (fun h4 => ?_)⟩
        · obtain ⟨e, he, he2⟩ := mod_nat ((v : Int) / 3) (n := ts.length) ht0
          have hz := atI_map ts rul e he2
          push_cast [hx, rul, List.length_map, he, hz]
          refine ⟨⟨by decide, by decide⟩, by omega, rows, w, _, rfl, by omega, ?_⟩
          push_cast [List.length_map]
          exact ⟨by omega, more (_, _) _ _ (clo_lt _ _ _) (sub_refl _)⟩
        · push_cast [hy, List.length_map]
          exact ⟨by omega, more _ _ _ s1 s2⟩
  · rintro ρ ⟨fs, x, y, z, u, rfl, hfl, hfs⟩
    walk_at "vx"
    exact hP fs (by omega) hfs

theorem ok_law_fewer (B : Bt mg) (d : Df K mg "_law_fewer" s_law_fewer ["script", "rows", "width", "told", "sharp"]) (h_law_cell : Has P w K mg base 1 "_law_cell" ["script", "k"] sp_law_cell) (h_law_closed : Has P w K mg base 1 "_law_closed" ["rows", "width", "mask"] sp_law_closed) : Has P w K mg base 2 "_law_fewer" ["script", "rows", "width", "told", "sharp"] sp_law_fewer :=
  has_ok d sc_law_fewer (by decide) (vs_law_fewer B h_law_cell h_law_closed) len_law_fewer rd_law_fewer
/-! ### _law_lacks -/
def sp_law_lacks : DSp := fun as P => ∃ (rs ts : List (Nat × Nat)) (W : Nat), as = [(.rd, rulesD rs), (.rd, rulesD ts)] ∧ (∀ r ∈ ts, r.1 < 2 ^ W) ∧ (∀ r ∈ rs, r.2 < 2 ^ W) ∧ W ≤ 20 ∧
  (¬ ∀ r ∈ ts, ∃ ps, Wlk rs r.1 r.2 ps ∧ sub r.2 (mkW rs r.1 ps) = true) ∧ P .fz (.bl true)

theorem sc_law_lacks : FnScope ["rules", "told", "rule"] ["rules", "told"] (defScope s_law_lacks) := ⟨rfl, rfl, rfl, by decide +kernel, rfl, by decide +kernel, by decide +kernel⟩
def t_law_lacks : TSd := (sSeq (sFor (iLst (eVar 1)) (hName 2)
 (sIf (tB' (eOp dIs (eCallN sp_way (aCons (eCall bList (aCons (eVar 0) aNil)) (aCons (eVar 2) aNil))) (eC .non)))
 (sRet (eC (.bl true)))
 sNil))
 (sRet (eC (.bl false))))
theorem vs_law_lacks (B : Bt mg) (h_way : Has P w K mg base 4 "way" ["rules", "rule"] sp_way) (f : Addr) (cdv : Value) (A : Around) (outer : List Env) (s : Shared) (H : Hp) (E : XK) (e0 : Hs) (hr : Room 4 (A.deeper (envOfC "_law_lacks" (defScope s_law_lacks) s.heap.objs.size f cdv))) :
    VSs (cxOf CX0 P w K mg base ["rules", "told", "rule"] "_law_lacks" (defScope s_law_lacks) f cdv A outer s H E).nox e0 (defBody s_law_lacks) t_law_lacks := by
  have Sc := sc_law_lacks
  exact (vss_cons (vs_for PassesOwn.never rfl (vi_listK (K := K) rfl (ve_var 1 (pv 1))) (vg_name (pg_name (i := 2) Sc.nd rfl (.inl rfl)))
 (vss_one (vs_if (vt_cmp vo_is (ve_callN (K := K) rfl h_way (hr.mono (by decide)) (by rfl) (va_cons (ve_callTy (vc_listK (K := K) rfl) (by rfl) B.z_list PyProof.Rows.boot_list (va_cons (ve_var 0 (pv 0)) va_nil)) (va_cons (ve_var 2 (pv 2)) va_nil))) ve_non (nomark _))
 (vss_one (vs_ret ve_bl))
 vss_nil)))
 (vss_one (vs_ret ve_bl)))
theorem len_law_lacks : ∀ as P, sp_law_lacks as P → as.length = 2 := by
  rintro as P ⟨_, _, _, rfl, _⟩; rfl
theorem rd_law_lacks : ∀ as P, sp_law_lacks as P → t_law_lacks { nx := fun _ => P .fz .non, rt := fun k x => k.st = true ∧ P k x } (startD 3 as) := by
  rintro as P ⟨rs, ts, W, rfl, h1, h2, hW, hno, hP⟩
  push_cast [t_law_lacks]
  walk_at "vi"
  refine for_map ts rul (fun i ρ => ∃ x, ρ = [.v .vw (rulesD rs), .v .vw (rulesD ts), x] ∧ ∀ k, (hk : k < i) → (hk2 : k < ts.length) → ∃ ps, Wlk rs ts[k].1 ts[k].2 ps ∧ sub ts[k].2 (mkW rs ts[k].1 ps) = true) ⟨_, .refl _, _, rfl, by omega⟩ ?_ ?_
  · rintro i hi ρ ⟨x, rfl, hb⟩
    walk_at "vx"
    refine ⟨rs, ts[i], W, rfl, h1 _ (List.getElem_mem hi), h2, hW, fun h g1 g2 g3 g4 => ?_, fun ps g1 g2 => ?_⟩
    · walk_at "vx"
      exact hP
    · walk_at "vx"
      refine ⟨_, .refl _, _, rfl, fun k hk hk2 => ?_⟩
      rcases Nat.lt_or_ge k i with z | z
      · exact hb k z hk2
      · have : k = i := by omega
        subst this; exact ⟨ps, g1, g2⟩
  · rintro ρ ⟨x, rfl, hb⟩
    refine absurd (fun r hr => ?_) hno
    obtain ⟨k, hk, rfl⟩ := List.getElem_of_mem hr
    exact hb k hk hk

theorem ok_law_lacks (B : Bt mg) (d : Df K mg "_law_lacks" s_law_lacks ["rules", "told"]) (h_way : Has P w K mg base 4 "way" ["rules", "rule"] sp_way) : Has P w K mg base 5 "_law_lacks" ["rules", "told"] sp_law_lacks :=
  has_ok d sc_law_lacks (by decide) (vs_law_lacks B h_way) len_law_lacks rd_law_lacks
/-! ### _law_width -/
def sp_law_width : DSp := fun as P => ∃ (ns : List Int), as = [(.rd, intsD ns)] ∧ ∀ w : Nat, w ≤ 10 → P .fz (nat w)

theorem sc_law_width : FnScope ["script", "first"] ["script"] (defScope s_law_width) := ⟨rfl, rfl, rfl, by decide +kernel, rfl, by decide +kernel, by decide +kernel⟩
def t_law_width : TSd := (sSeq (sSetF 1 (eCallN sp_law_cell (aCons (eVar 0) (aCons (eC (.int 0)) aNil))))
 (sSeq (sIf (tB' (eOp dEq (eOp dMod (eOp dFdiv (eVar 1) (eC (.int 7))) (eC (.int 8))) (eC (.int 3))))
 (sRet (eOp dAdd (eC (.int 7)) (eOp dMod (eOp dFdiv (eVar 1) (eC (.int 56))) (eC (.int 4)))))
 sNil)
 (sRet (eOp dMod (eVar 1) (eC (.int 7))))))
theorem vs_law_width (B : Bt mg) (h_law_cell : Has P w K mg base 1 "_law_cell" ["script", "k"] sp_law_cell) (f : Addr) (cdv : Value) (A : Around) (outer : List Env) (s : Shared) (H : Hp) (E : XK) (e0 : Hs) (hr : Room 1 (A.deeper (envOfC "_law_width" (defScope s_law_width) s.heap.objs.size f cdv))) :
    VSs (cxOf CX0 P w K mg base ["script", "first"] "_law_width" (defScope s_law_width) f cdv A outer s H E).nox e0 (defBody s_law_width) t_law_width := by
  have Sc := sc_law_width
  exact (vss_cons (vs_setF' (i := 1) (ve_callN (K := K) rfl h_law_cell (hr.mono (by decide)) (by rfl) (va_cons (ve_var 0 (pv 0)) (va_cons ve_int va_nil))) (fun h => ps_set Sc.nd rfl (.inl rfl) h))
 (vss_cons (vs_if (vt_cmp (vo_eqK (K := K) rfl hr.units) (ve_op vo_mod (ve_op vo_fdiv (ve_var 1 (pv 1)) ve_int) ve_int) ve_int (nomark _))
 (vss_one (vs_ret (ve_op (vo_addK (K := K) rfl) ve_int (ve_op vo_mod (ve_op vo_fdiv (ve_var 1 (pv 1)) ve_int) ve_int))))
 vss_nil)
 (vss_one (vs_ret (ve_op vo_mod (ve_var 1 (pv 1)) ve_int)))))
theorem len_law_width : ∀ as P, sp_law_width as P → as.length = 1 := by
  rintro as P ⟨_, rfl, _⟩; rfl
theorem rd_law_width : ∀ as P, sp_law_width as P → t_law_width { nx := fun _ => P .fz .non, rt := fun k x => k.st = true ∧ P k x } (startD 2 as) := by
  rintro as P ⟨ns, rfl, hP⟩
  obtain ⟨w0, hw, hw2⟩ := mod_i (ns.getD 0 0) 7 (by decide)
  obtain ⟨w1, hv, hv2⟩ := mod_i (ns.getD 0 0 / 56) 4 (by decide)
  push_cast [t_law_width]
  refine ⟨ns, 0, rfl, ?_⟩
  walk_at "vx"
  refine ⟨⟨by decide, by decide⟩, by decide, selS_dec (fun h => ?_) (fun h => ?_)⟩
  · push_cast [hv, show (7 : Int) + (w1 : Int) = ((7 + w1 : Nat) : Int) by omega]
    exact ⟨⟨by decide, by decide⟩, by decide, hP _ (by omega)⟩
  · push_cast [hw]
    exact ⟨by decide, hP _ (by omega)⟩

theorem ok_law_width (B : Bt mg) (d : Df K mg "_law_width" s_law_width ["script"]) (h_law_cell : Has P w K mg base 1 "_law_cell" ["script", "k"] sp_law_cell) : Has P w K mg base 2 "_law_width" ["script"] sp_law_width :=
  has_ok d sc_law_width (by decide) (vs_law_width B h_law_cell) len_law_width rd_law_width
/-! ### law -/
abbrev sp_law : DSp := spLaw

theorem sc_law : FnScope ["script", "width", "rows", "told", "sharp", "rule"] ["script"] (defScope s_law) := ⟨rfl, rfl, rfl, by decide +kernel, rfl, by decide +kernel, by decide +kernel⟩
def t_law : TSd := (sSeq (sSetF 1 (eCallN sp_law_width (aCons (eVar 0) aNil)))
 (sSeq (sSetF 2 (eSl (eCallN sp_law_table (aCons (eVar 0) (aCons (eVar 1) aNil))) oNo (oPart (eOp dIx (eLst (aCons (eC (.int 40)) (aCons (eC (.int 14)) (aCons (eC (.int 8)) aNil)))) (eOp dAdd (eCall bInt (aCons (eOp dGt (eVar 1) (eC (.int 6))) aNil)) (eCall bInt (aCons (eOp dGt (eVar 1) (eC (.int 8))) aNil)))))))
 (sSeq (sSetF 3 (eCallN sp_least (aCons (eCall bList (aCons (eVar 2) aNil)) (aCons (eVar 1) aNil))))
 (sSeq (sIf (bNot (tB' (eIsi "list" (eVar 3))))
 (sRet (eC (.bl false)))
 sNil)
 (sSeq (sSet 4 (eLst aNil))
 (sSeq (sFor (iLst (eVar 3)) (hName 5)
 (sSeq (sIf (bOr (bNot (tB' (eCallN sp_law_rule (aCons (eVar 5) aNil)))) (bOr (tB' (eOp dLt (eOp dIx (eVar 5) (eC (.int 0))) (eC (.int 0)))) (tB' (eOp dGe (eOp dIx (eVar 5) (eC (.int 0))) (eOp dShl (eC (.int 1)) (eVar 1))))))
 (sRet (eC (.bl false)))
 sNil)
 (sApp 4 (eCallN sp_law_sharp (aCons (eVar 2) (aCons (eVar 1) (aCons (eOp dIx (eVar 5) (eC (.int 0))) (aCons (eOp dMod (eCallN sp_law_cell (aCons (eVar 0) (aCons (eCall bLen (aCons (eVar 4) aNil)) aNil))) (eC (.int 7))) aNil))))))))
 (sSeq (sIf (tB' (eOp dEq (eCall bLen (aCons (eVar 3) aNil)) (eC (.int 0))))
 (sRet (eC (.bl true)))
 sNil)
 (sSeq (sFor (iLst (eVar 3)) (hName 5)
 (sIf (bNot (tB' (eCallN sp_law_walked (aCons (eVar 4) (aCons (eVar 5) (aCons (eCallN sp_way (aCons (eCall bList (aCons (eVar 4) aNil)) (aCons (eVar 5) aNil))) aNil))))))
 (sRet (eC (.bl false)))
 sNil))
 (sRet (eAnd (eCallN sp_law_lacks (aCons (eLst aNil) (aCons (eVar 3) aNil))) (eCallN sp_law_lacks (aCons (eCallN sp_law_fewer (aCons (eVar 0) (aCons (eVar 2) (aCons (eVar 1) (aCons (eVar 3) (aCons (eVar 4) aNil)))))) (aCons (eVar 3) aNil)))))))))))))
theorem vs_law (B : Bt mg) (h_law_width : Has P w K mg base 2 "_law_width" ["script"] sp_law_width) (h_law_table : Has P w K mg base 2 "_law_table" ["script", "width"] sp_law_table) (h_least : Has P w K mg base 4 "least" ["rows", "width"] sp_least) (h_law_rule : Has P w K mg base 1 "_law_rule" ["told"] sp_law_rule) (h_law_cell : Has P w K mg base 1 "_law_cell" ["script", "k"] sp_law_cell) (h_law_sharp : Has P w K mg base 2 "_law_sharp" ["rows", "width", "start", "turn"] sp_law_sharp) (h_way : Has P w K mg base 4 "way" ["rules", "rule"] sp_way) (h_law_walked : Has P w K mg base 1 "_law_walked" ["rules", "rule", "paper"] sp_law_walked) (h_law_lacks : Has P w K mg base 5 "_law_lacks" ["rules", "told"] sp_law_lacks) (h_law_fewer : Has P w K mg base 2 "_law_fewer" ["script", "rows", "width", "told", "sharp"] sp_law_fewer) (f : Addr) (cdv : Value) (A : Around) (outer : List Env) (s : Shared) (H : Hp) (E : XK) (e0 : Hs) (hr : Room 5 (A.deeper (envOfC "law" (defScope s_law) s.heap.objs.size f cdv))) :
    VSs (cxOf CX0 P w K mg base ["script", "width", "rows", "told", "sharp", "rule"] "law" (defScope s_law) f cdv A outer s H E).nox e0 (defBody s_law) t_law := by
  have Sc := sc_law
  exact (vss_cons (vs_setF' (i := 1) (ve_callN (K := K) rfl h_law_width (hr.mono (by decide)) (by rfl) (va_cons (ve_var 0 (pv 0)) va_nil)) (fun h => ps_set Sc.nd rfl (.inl rfl) h))
 (vss_cons (vs_setF' (i := 2) (ve_sliceK (K := K) rfl (ve_callN (K := K) rfl h_law_table (hr.mono (by decide)) (by rfl) (va_cons (ve_var 0 (pv 0)) (va_cons (ve_var 1 (pv 1)) va_nil))) vo_no (vo_part (ve_ixK (K := K) rfl (ve_lst (va_cons ve_int (va_cons ve_int (va_cons ve_int va_nil)))) (ve_op (vo_addK (K := K) rfl) (ve_callTy vc_int (by rfl) B.z_int PyProof.Rows.boot_int (va_cons (ve_cmp vo_gt (ve_var 1 (pv 1)) ve_int (nomark _)) va_nil)) (ve_callTy vc_int (by rfl) B.z_int PyProof.Rows.boot_int (va_cons (ve_cmp vo_gt (ve_var 1 (pv 1)) ve_int (nomark _)) va_nil))) (fun _ _ => rfl)))) (fun h => ps_set Sc.nd rfl (.inl rfl) h))
 (vss_cons (vs_setF' (i := 3) (ve_callN (K := K) rfl h_least (hr.mono (by decide)) (by rfl) (va_cons (ve_callTy (vc_listK (K := K) rfl) (by rfl) B.z_list PyProof.Rows.boot_list (va_cons (ve_var 2 (pv 2)) va_nil)) (va_cons (ve_var 1 (pv 1)) va_nil))) (fun h => ps_set Sc.nd rfl (.inl rfl) h))
 (vss_cons (vs_if (vt_not (vt_val (ve_isiK (K := K) rfl (ve_var 3 (pv 3)) (fun h => pe_callB call_isi (by rfl) B.z_isinstance PyProof.Rows.boot_isinstance (pa_cons h (pa_cons (pe_bltn (by rfl) B.z_list PyProof.Rows.boot_list rfl) pa_nil))))))
 (vss_one (vs_ret ve_bl))
 vss_nil)
 (vss_cons (vs_set' (i := 4) (ve_lst va_nil) (fun h => ps_set Sc.nd rfl (.inl rfl) h))
 (vss_cons (vs_for PassesOwn.never rfl (vi_listK (K := K) rfl (ve_var 3 (pv 3))) (vg_name (pg_name (i := 5) Sc.nd rfl (.inl rfl)))
 (vss_cons (vs_if (VW.vt (vw_or (vt_not (vt_val (ve_callN (K := K) rfl h_law_rule (hr.mono (by decide)) (by rfl) (va_cons (ve_var 5 (pv 5)) va_nil)))) (vw_or (vt_cmp vo_lt (ve_ixK (K := K) rfl (ve_var 5 (pv 5)) ve_int (fun _ _ => rfl)) ve_int (nomark _)) (vw_or1 (vt_cmp vo_ge (ve_ixK (K := K) rfl (ve_var 5 (pv 5)) ve_int (fun _ _ => rfl)) (ve_op vo_shl ve_int (ve_var 1 (pv 1))) (nomark _))))))
 (vss_one (vs_ret ve_bl))
 vss_nil)
 (vss_one (vs_app' (i := 4) (ve_callN (K := K) rfl h_law_sharp (hr.mono (by decide)) (by rfl) (va_cons (ve_var 2 (pv 2)) (va_cons (ve_var 1 (pv 1)) (va_cons (ve_ixK (K := K) rfl (ve_var 5 (pv 5)) ve_int (fun _ _ => rfl)) (va_cons (ve_op vo_mod (ve_callN (K := K) rfl h_law_cell (hr.mono (by decide)) (by rfl) (va_cons (ve_var 0 (pv 0)) (va_cons (ve_callB (vc_lenK (K := K) rfl) (by rfl) B.z_len PySem.boot_len (va_cons (ve_var 4 (pv 4)) va_nil)) va_nil))) ve_int) va_nil))))) (fun h => ps_expr (pe_bm PySem.F.plainAttrs_list PySem.F.slot_list_append PySem.F.type_list_append mt_append (pv 4) (pa_cons h pa_nil)))))))
 (vss_cons (vs_if (vt_cmp (vo_eqK (K := K) rfl hr.units) (ve_callB (vc_lenK (K := K) rfl) (by rfl) B.z_len PySem.boot_len (va_cons (ve_var 3 (pv 3)) va_nil)) ve_int (nomark _))
 (vss_one (vs_ret ve_bl))
 vss_nil)
 (vss_cons (vs_for PassesOwn.never rfl (vi_listK (K := K) rfl (ve_var 3 (pv 3))) (vg_name (pg_name (i := 5) Sc.nd rfl (.inl rfl)))
 (vss_one (vs_if (vt_not (vt_val (ve_callN (K := K) rfl h_law_walked (hr.mono (by decide)) (by rfl) (va_cons (ve_var 4 (pv 4)) (va_cons (ve_var 5 (pv 5)) (va_cons (ve_callN (K := K) rfl h_way (hr.mono (by decide)) (by rfl) (va_cons (ve_callTy (vc_listK (K := K) rfl) (by rfl) B.z_list PyProof.Rows.boot_list (va_cons (ve_var 4 (pv 4)) va_nil)) (va_cons (ve_var 5 (pv 5)) va_nil))) va_nil))))))
 (vss_one (vs_ret ve_bl))
 vss_nil)))
 (vss_one (vs_ret (ve_and (ve_callN (K := K) rfl h_law_lacks (hr.mono (by decide)) (by rfl) (va_cons (ve_lst va_nil) (va_cons (ve_var 3 (pv 3)) va_nil))) (ve_one (ve_callN (K := K) rfl h_law_lacks (hr.mono (by decide)) (by rfl) (va_cons (ve_callN (K := K) rfl h_law_fewer (hr.mono (by decide)) (by rfl) (va_cons (ve_var 0 (pv 0)) (va_cons (ve_var 2 (pv 2)) (va_cons (ve_var 1 (pv 1)) (va_cons (ve_var 3 (pv 3)) (va_cons (ve_var 4 (pv 4)) va_nil)))))) (va_cons (ve_var 3 (pv 3)) va_nil)))))))))))))))
theorem len_law : ∀ as P, sp_law as P → as.length = 1 := by
  rintro as P ⟨ns, rfl, _⟩; rfl
theorem rd_law : ∀ as P, sp_law as P → t_law { nx := fun _ => P .fz .non, rt := fun k x => k.st = true ∧ P k x } (startD 6 as) := by
  rintro as P ⟨ns, rfl, hl, hP⟩
  push_cast [t_law]
  refine ⟨ns, rfl, fun w hw => ?_⟩
  have hp := Nat.two_pow_pos w
  have h16 : 2 ^ w ≤ 2 ^ 16 := Nat.pow_le_pow_right (by decide) (by omega)
  walk_at "vx"
  refine ⟨ns, w, rfl, hl, by omega, fun rows0 hrl0 hrw0 => ?_⟩
  obtain ⟨hi, hhi⟩ : ∃ hi : Int, L2.atI [Dt.int 40, .int 14, .int 8] ((if decide ((w : Int) > 6) = true then 1 else 0) + (if decide ((w : Int) > 8) = true then 1 else 0)) = some (.int hi) := by
    by_cases q : (w : Int) > 8
    · exact ⟨8, by have q2 : (w : Int) > 6 := by omega
                   simp only [q, q2]; rfl⟩
    · by_cases q2 : (w : Int) > 6
      · exact ⟨14, by simp only [q, q2]; rfl⟩
      · exact ⟨40, by simp only [q, q2]; rfl⟩
  push_cast [hhi, cutL_map]
  obtain ⟨rows, hre, hrl⟩ : ∃ z, cutL rows0 none (some hi) = z ∧ z.length ≤ 63 := ⟨_, rfl, Nat.le_trans (cutL_le _ _ _) hrl0⟩
  rw [hre]
  refine ⟨rows, w, rfl, by omega, by omega, ?_⟩
  obtain ⟨told, htd⟩ : ∃ z, lst rows w (2 ^ w) = z := ⟨_, rfl⟩
  have htl : told.length ≤ 2 ^ w := htd ▸ lst_length rows w (2 ^ w)
  have hmem : ∀ r ∈ told, r.1 < 2 ^ w ∧ r.2 < 2 ^ w ∧ r.2 = clo rows w r.1 ^^^ r.1 ∧ clo rows w r.1 ≠ r.1 := fun r hr => by
    rw [← htd] at hr
    obtain ⟨h1, h2, h3⟩ := lst_mem_lt hr
    exact ⟨h1, (lst_holds (Nat.le_refl _) hr).1, h2, h3⟩
  have hneed : ∀ r ∈ told, sub r.2 r.1 = false := fun r hr => by
    obtain ⟨h1, h2, h3, h4⟩ := hmem r hr
    cases e : sub r.2 r.1 with
    | false => rfl
    | true =>
      rw [h3] at e
      exact absurd (sub_antisymm (xor_sub (sub_refl _) e) (clo_ext h1)) h4
  rw [htd]
  walk_at "vx"
  intro l
  walk_at "vi"
  refine for_map told rul (fun i ρ => ∃ (ss : List (Nat × Nat)) (x : Sl), ρ = [.v .vw (intsD ns), .v .fz (nat w), .v .fz (nats rows), .v .fz (rulesD told), .v (.ow l) (rulesD ss), x] ∧ ss.length = i ∧ ∀ k, (hk : k < ss.length) → (hk2 : k < told.length) → sub ss[k].1 told[k].1 = true ∧ ss[k].2 = clo rows w told[k].1 ∧ clo rows w ss[k].1 = clo rows w told[k].1) ⟨_, .refl _, [], _, rfl, rfl, by intro k hk; simp at hk⟩ ?_ ?_
  · rintro i hi ρ ⟨ss, x, rfl, hsl, hss⟩
    obtain ⟨h1, h2, h3, h4⟩ := hmem _ (List.getElem_mem hi)
    have hA : decide ((told[i].1 : Int) < 0) = false := by rw [decide_eq_false_iff_not]; omega
    have hB : decide (((2 ^ w : Nat) : Int) ≤ (told[i].1 : Int)) = false := by rw [decide_eq_false_iff_not]; omega
    walk_at "vx"
    refine ⟨told[i], rfl, ?_⟩
    push_cast [rul, hA, hB, List.length_map]
    refine ⟨cpow1 (by omega), ns, ss.length, rfl, ?_⟩
    obtain ⟨t, ht, ht2⟩ := mod_i (ns.getD ss.length 0) 7 (by decide)
    push_cast [ht]
    refine ⟨by decide, rows, w, _, t, rfl, by omega, fun h g1 g2 => ?_⟩
    push_cast [List.length_map]
    refine ⟨by omega, _, .refl _, ss ++ [(h, clo rows w told[i].1)], _, by rw [rulesD_snoc], by rw [List.length_append, List.length_singleton, hsl], fun k hk hk2 => ?_⟩
    rw [List.length_append, List.length_singleton] at hk
    rcases Nat.lt_or_ge k ss.length with z | z
    · rw [List.getElem_append_left z]
      exact hss k z hk2
    · have : k = i := by omega
      subst this
      simp only [← hsl, List.getElem_concat_length]
      simp only [hsl]
      exact ⟨g1, trivial, g2⟩
  · rintro ρ ⟨ss, x, rfl, hsl, hss⟩
    have hs2 : ∀ f ∈ ss, f.2 < 2 ^ w ∧ sub f.2 (clo rows w f.1) = true := fun f hf => by
      obtain ⟨k, hk, rfl⟩ := List.getElem_of_mem hf
      obtain ⟨g1, g2, g3⟩ := hss k hk (by omega)
      rw [g3, g2]
      exact ⟨clo_lt _ _ _, sub_refl _⟩
    push_cast [List.length_map]
    refine selS_dec (fun h => ?_) (fun h => ?_)
    · walk_at "vx"
      exact hP
    have ht0 : 0 < told.length := by omega
    walk_at "vx"
    try walk_at "vi"
    refine for_map told rul (fun i ρ => ∃ (x : Sl), ρ = [.v .vw (intsD ns), .v .fz (nat w), .v .fz (nats rows), .v .fz (rulesD told), .v (.ow l) (rulesD ss), x]) ⟨_, .refl _, _, rfl⟩ ?_ ?_
    · rintro i hi ρ ⟨x, rfl⟩
      obtain ⟨h1, h2, h3, h4⟩ := hmem _ (List.getElem_mem hi)
      obtain ⟨g1, g2, g3⟩ := hss i (by omega) hi
      walk_at "vx"
      refine ⟨ss, told[i], w, rfl, h1, fun f hf => (hs2 f hf).1, by omega, fun h q1 q2 q3 q4 => ?_, fun ps q1 q2 => ?_⟩
      · exfalso
        have e1 := nobrk (q3 _ (List.getElem_mem (show i < ss.length by omega))) (sub_trans g1 q2)
        rw [g2] at e1
        have e2 : sub told[i].2 (clo rows w told[i].1) = true := sub_true.mpr fun k hk => by
          rw [h3, Nat.testBit_xor] at hk
          cases e : (clo rows w told[i].1).testBit k with
          | true => rfl
          | false =>
            rw [e] at hk
            have := sub_true.mp (clo_ext (rows := rows) h1) k (by simpa using hk)
            rw [e] at this; cases this
        rw [sub_trans e2 e1] at q4
        cases q4
      · walk_at "vx"
        refine ⟨ss, told[i], ps, rfl, q1, q2, ?_⟩
        walk_at "vx"
        exact ⟨_, .refl _, _, rfl⟩
    · rintro ρ ⟨x, rfl⟩
      walk_at "vx"
      refine ⟨[], told, w, rfl, fun r hr => (hmem r hr).1, by simp, by omega, fun hall => ?_, ?_⟩
      · obtain ⟨ps, q1, q2⟩ := hall _ (List.getElem_mem ht0)
        cases ps with
        | nil =>
          rw [show mkW [] told[0].1 [] = told[0].1 from rfl, hneed _ (List.getElem_mem ht0)] at q2
          cases q2
        | cons a r => exact absurd (q1 0 (by simp)).1 (by simp)
      walk_at "vx"
      refine ⟨ns, rows, w, told, ss, rfl, by omega, ht0, by omega, hsl, hs2, fun fs hfl hfs => ?_⟩
      walk_at "vx"
      refine ⟨fs, told, w, rfl, fun r hr => (hmem r hr).1, fun f hf => (hfs f hf).1, by omega, fun hall => ?_, ?_⟩
      · have := lst_fewest (rows := rows) (w := w) (fun f hf => (hfs f hf).2) (fun r hr => by
          rw [htd] at hr
          obtain ⟨ps, q1, q2⟩ := hall r hr
          cases ps with
          | nil =>
            rw [show mkW fs r.1 [] = r.1 from rfl, hneed r hr] at q2
            cases q2
          | cons a q =>
            obtain ⟨e1, e2, e3⟩ := q1 0 (by simp)
            refine ⟨a, e1, ?_⟩
            rw [← getD_at fs (0, 0) a e1]
            exact e2)
        rw [htd] at this
        omega
      · walk_at "vx"
        exact hP

theorem ok_law (B : Bt mg) (d : Df K mg "law" s_law ["script"]) (h_law_width : Has P w K mg base 2 "_law_width" ["script"] sp_law_width) (h_law_table : Has P w K mg base 2 "_law_table" ["script", "width"] sp_law_table) (h_least : Has P w K mg base 4 "least" ["rows", "width"] sp_least) (h_law_rule : Has P w K mg base 1 "_law_rule" ["told"] sp_law_rule) (h_law_cell : Has P w K mg base 1 "_law_cell" ["script", "k"] sp_law_cell) (h_law_sharp : Has P w K mg base 2 "_law_sharp" ["rows", "width", "start", "turn"] sp_law_sharp) (h_way : Has P w K mg base 4 "way" ["rules", "rule"] sp_way) (h_law_walked : Has P w K mg base 1 "_law_walked" ["rules", "rule", "paper"] sp_law_walked) (h_law_lacks : Has P w K mg base 5 "_law_lacks" ["rules", "told"] sp_law_lacks) (h_law_fewer : Has P w K mg base 2 "_law_fewer" ["script", "rows", "width", "told", "sharp"] sp_law_fewer) : Has P w K mg base 6 "law" ["script"] sp_law :=
  has_ok d sc_law (by decide) (vs_law B h_law_width h_law_table h_least h_law_rule h_law_cell h_law_sharp h_way h_law_walked h_law_lacks h_law_fewer) len_law rd_law
theorem okf_law (B : Bt mg) {f : Addr} {fd : FuncData} (F : Fun K "law" "law" s_law f fd) (h_law_width : Has P w K mg base 2 "_law_width" ["script"] sp_law_width) (h_law_table : Has P w K mg base 2 "_law_table" ["script", "width"] sp_law_table) (h_least : Has P w K mg base 4 "least" ["rows", "width"] sp_least) (h_law_rule : Has P w K mg base 1 "_law_rule" ["told"] sp_law_rule) (h_law_cell : Has P w K mg base 1 "_law_cell" ["script", "k"] sp_law_cell) (h_law_sharp : Has P w K mg base 2 "_law_sharp" ["rows", "width", "start", "turn"] sp_law_sharp) (h_way : Has P w K mg base 4 "way" ["rules", "rule"] sp_way) (h_law_walked : Has P w K mg base 1 "_law_walked" ["rules", "rule", "paper"] sp_law_walked) (h_law_lacks : Has P w K mg base 5 "_law_lacks" ["rules", "told"] sp_law_lacks) (h_law_fewer : Has P w K mg base 2 "_law_fewer" ["script", "rows", "width", "told", "sharp"] sp_law_fewer) : FnOk P w K mg base CX0 6 f fd ["script"] (spL K sp_law) :=
  fn_ok F sc_law len_law (fun cdv A outer s H E e0 hr => vs_law B h_law_width h_law_table h_least h_law_rule h_law_cell h_law_sharp h_way h_law_walked h_law_lacks h_law_fewer f cdv A outer s H E e0 hr) (by decide) rd_law
end
theorem all_mk {l : PySem.W.OpenLaw} {w : World} {K : PySem.W.Frag} {h : Heap} {mg : Str → Option Value} {fa : Addr} (X : K.In h) (G : h.Ns mainGlobals mg) (hfa : mg "law" = some (.ref fa))
    {f0 : Addr} {oc0 kV0 dc0 pm0 cd0 ct0 : Value} {od0 an0 : Option Addr} {sl0 : Array (Option Value)}
    (a0 : PySem.W.nsIn K mainGlobals "ones" = some (some (.ref f0))) (l0 : K.lookup f0 = some ⟨oc0, od0, .func (PySem.W.fnOf "ones" "ones" (defArgs s_ones) (defBody s_ones) (defScope s_ones) .none kV0 dc0 pm0 an0 cd0 ct0), sl0⟩) (c0 : PySem.W.codeIn K cd0 "ones" = true) (k0 : PySem.W.keepIn K (.ref f0) = true)
    {f1 : Addr} {oc1 kV1 dc1 pm1 cd1 ct1 : Value} {od1 an1 : Option Addr} {sl1 : Array (Option Value)}
    (a1 : PySem.W.nsIn K mainGlobals "within" = some (some (.ref f1))) (l1 : K.lookup f1 = some ⟨oc1, od1, .func (PySem.W.fnOf "within" "within" (defArgs s_within) (defBody s_within) (defScope s_within) .none kV1 dc1 pm1 an1 cd1 ct1), sl1⟩) (c1 : PySem.W.codeIn K cd1 "within" = true) (k1 : PySem.W.keepIn K (.ref f1) = true)
    {f2 : Addr} {oc2 kV2 dc2 pm2 cd2 ct2 : Value} {od2 an2 : Option Addr} {sl2 : Array (Option Value)}
    (a2 : PySem.W.nsIn K mainGlobals "shared" = some (some (.ref f2))) (l2 : K.lookup f2 = some ⟨oc2, od2, .func (PySem.W.fnOf "shared" "shared" (defArgs s_shared) (defBody s_shared) (defScope s_shared) .none kV2 dc2 pm2 an2 cd2 ct2), sl2⟩) (c2 : PySem.W.codeIn K cd2 "shared" = true) (k2 : PySem.W.keepIn K (.ref f2) = true)
    {f3 : Addr} {oc3 kV3 dc3 pm3 cd3 ct3 : Value} {od3 an3 : Option Addr} {sl3 : Array (Option Value)}
    (a3 : PySem.W.nsIn K mainGlobals "having" = some (some (.ref f3))) (l3 : K.lookup f3 = some ⟨oc3, od3, .func (PySem.W.fnOf "having" "having" (defArgs s_having) (defBody s_having) (defScope s_having) .none kV3 dc3 pm3 an3 cd3 ct3), sl3⟩) (c3 : PySem.W.codeIn K cd3 "having" = true) (k3 : PySem.W.keepIn K (.ref f3) = true)
    {f4 : Addr} {oc4 kV4 dc4 pm4 cd4 ct4 : Value} {od4 an4 : Option Addr} {sl4 : Array (Option Value)}
    (a4 : PySem.W.nsIn K mainGlobals "closed" = some (some (.ref f4))) (l4 : K.lookup f4 = some ⟨oc4, od4, .func (PySem.W.fnOf "closed" "closed" (defArgs s_closed) (defBody s_closed) (defScope s_closed) .none kV4 dc4 pm4 an4 cd4 ct4), sl4⟩) (c4 : PySem.W.codeIn K cd4 "closed" = true) (k4 : PySem.W.keepIn K (.ref f4) = true)
    {f5 : Addr} {oc5 kV5 dc5 pm5 cd5 ct5 : Value} {od5 an5 : Option Addr} {sl5 : Array (Option Value)}
    (a5 : PySem.W.nsIn K mainGlobals "broken_by" = some (some (.ref f5))) (l5 : K.lookup f5 = some ⟨oc5, od5, .func (PySem.W.fnOf "broken_by" "broken_by" (defArgs s_broken_by) (defBody s_broken_by) (defScope s_broken_by) .none kV5 dc5 pm5 an5 cd5 ct5), sl5⟩) (c5 : PySem.W.codeIn K cd5 "broken_by" = true) (k5 : PySem.W.keepIn K (.ref f5) = true)
    {f6 : Addr} {oc6 kV6 dc6 pm6 cd6 ct6 : Value} {od6 an6 : Option Addr} {sl6 : Array (Option Value)}
    (a6 : PySem.W.nsIn K mainGlobals "broken_place" = some (some (.ref f6))) (l6 : K.lookup f6 = some ⟨oc6, od6, .func (PySem.W.fnOf "broken_place" "broken_place" (defArgs s_broken_place) (defBody s_broken_place) (defScope s_broken_place) .none kV6 dc6 pm6 an6 cd6 ct6), sl6⟩) (c6 : PySem.W.codeIn K cd6 "broken_place" = true) (k6 : PySem.W.keepIn K (.ref f6) = true)
    {f7 : Addr} {oc7 kV7 dc7 pm7 cd7 ct7 : Value} {od7 an7 : Option Addr} {sl7 : Array (Option Value)}
    (a7 : PySem.W.nsIn K mainGlobals "way" = some (some (.ref f7))) (l7 : K.lookup f7 = some ⟨oc7, od7, .func (PySem.W.fnOf "way" "way" (defArgs s_way) (defBody s_way) (defScope s_way) .none kV7 dc7 pm7 an7 cd7 ct7), sl7⟩) (c7 : PySem.W.codeIn K cd7 "way" = true) (k7 : PySem.W.keepIn K (.ref f7) = true)
    {f8 : Addr} {oc8 kV8 dc8 pm8 cd8 ct8 : Value} {od8 an8 : Option Addr} {sl8 : Array (Option Value)}
    (a8 : PySem.W.nsIn K mainGlobals "least" = some (some (.ref f8))) (l8 : K.lookup f8 = some ⟨oc8, od8, .func (PySem.W.fnOf "least" "least" (defArgs s_least) (defBody s_least) (defScope s_least) .none kV8 dc8 pm8 an8 cd8 ct8), sl8⟩) (c8 : PySem.W.codeIn K cd8 "least" = true) (k8 : PySem.W.keepIn K (.ref f8) = true)
    {f9 : Addr} {oc9 kV9 dc9 pm9 cd9 ct9 : Value} {od9 an9 : Option Addr} {sl9 : Array (Option Value)}
    (a9 : PySem.W.nsIn K mainGlobals "_law_cell" = some (some (.ref f9))) (l9 : K.lookup f9 = some ⟨oc9, od9, .func (PySem.W.fnOf "_law_cell" "_law_cell" (defArgs s_law_cell) (defBody s_law_cell) (defScope s_law_cell) .none kV9 dc9 pm9 an9 cd9 ct9), sl9⟩) (c9 : PySem.W.codeIn K cd9 "_law_cell" = true) (k9 : PySem.W.keepIn K (.ref f9) = true)
    {f10 : Addr} {oc10 kV10 dc10 pm10 cd10 ct10 : Value} {od10 an10 : Option Addr} {sl10 : Array (Option Value)}
    (a10 : PySem.W.nsIn K mainGlobals "_law_grown" = some (some (.ref f10))) (l10 : K.lookup f10 = some ⟨oc10, od10, .func (PySem.W.fnOf "_law_grown" "_law_grown" (defArgs s_law_grown) (defBody s_law_grown) (defScope s_law_grown) .none kV10 dc10 pm10 an10 cd10 ct10), sl10⟩) (c10 : PySem.W.codeIn K cd10 "_law_grown" = true) (k10 : PySem.W.keepIn K (.ref f10) = true)
    {f11 : Addr} {oc11 kV11 dc11 pm11 cd11 ct11 : Value} {od11 an11 : Option Addr} {sl11 : Array (Option Value)}
    (a11 : PySem.W.nsIn K mainGlobals "_law_table" = some (some (.ref f11))) (l11 : K.lookup f11 = some ⟨oc11, od11, .func (PySem.W.fnOf "_law_table" "_law_table" (defArgs s_law_table) (defBody s_law_table) (defScope s_law_table) .none kV11 dc11 pm11 an11 cd11 ct11), sl11⟩) (c11 : PySem.W.codeIn K cd11 "_law_table" = true) (k11 : PySem.W.keepIn K (.ref f11) = true)
    {f12 : Addr} {oc12 kV12 dc12 pm12 cd12 ct12 : Value} {od12 an12 : Option Addr} {sl12 : Array (Option Value)}
    (a12 : PySem.W.nsIn K mainGlobals "_law_closed" = some (some (.ref f12))) (l12 : K.lookup f12 = some ⟨oc12, od12, .func (PySem.W.fnOf "_law_closed" "_law_closed" (defArgs s_law_closed) (defBody s_law_closed) (defScope s_law_closed) .none kV12 dc12 pm12 an12 cd12 ct12), sl12⟩) (c12 : PySem.W.codeIn K cd12 "_law_closed" = true) (k12 : PySem.W.keepIn K (.ref f12) = true)
    {f13 : Addr} {oc13 kV13 dc13 pm13 cd13 ct13 : Value} {od13 an13 : Option Addr} {sl13 : Array (Option Value)}
    (a13 : PySem.W.nsIn K mainGlobals "_law_rule" = some (some (.ref f13))) (l13 : K.lookup f13 = some ⟨oc13, od13, .func (PySem.W.fnOf "_law_rule" "_law_rule" (defArgs s_law_rule) (defBody s_law_rule) (defScope s_law_rule) .none kV13 dc13 pm13 an13 cd13 ct13), sl13⟩) (c13 : PySem.W.codeIn K cd13 "_law_rule" = true) (k13 : PySem.W.keepIn K (.ref f13) = true)
    {f14 : Addr} {oc14 kV14 dc14 pm14 cd14 ct14 : Value} {od14 an14 : Option Addr} {sl14 : Array (Option Value)}
    (a14 : PySem.W.nsIn K mainGlobals "_law_sharp" = some (some (.ref f14))) (l14 : K.lookup f14 = some ⟨oc14, od14, .func (PySem.W.fnOf "_law_sharp" "_law_sharp" (defArgs s_law_sharp) (defBody s_law_sharp) (defScope s_law_sharp) .none kV14 dc14 pm14 an14 cd14 ct14), sl14⟩) (c14 : PySem.W.codeIn K cd14 "_law_sharp" = true) (k14 : PySem.W.keepIn K (.ref f14) = true)
    {f15 : Addr} {oc15 kV15 dc15 pm15 cd15 ct15 : Value} {od15 an15 : Option Addr} {sl15 : Array (Option Value)}
    (a15 : PySem.W.nsIn K mainGlobals "_law_walked" = some (some (.ref f15))) (l15 : K.lookup f15 = some ⟨oc15, od15, .func (PySem.W.fnOf "_law_walked" "_law_walked" (defArgs s_law_walked) (defBody s_law_walked) (defScope s_law_walked) .none kV15 dc15 pm15 an15 cd15 ct15), sl15⟩) (c15 : PySem.W.codeIn K cd15 "_law_walked" = true) (k15 : PySem.W.keepIn K (.ref f15) = true)
    {f16 : Addr} {oc16 kV16 dc16 pm16 cd16 ct16 : Value} {od16 an16 : Option Addr} {sl16 : Array (Option Value)}
    (a16 : PySem.W.nsIn K mainGlobals "_law_fewer" = some (some (.ref f16))) (l16 : K.lookup f16 = some ⟨oc16, od16, .func (PySem.W.fnOf "_law_fewer" "_law_fewer" (defArgs s_law_fewer) (defBody s_law_fewer) (defScope s_law_fewer) .none kV16 dc16 pm16 an16 cd16 ct16), sl16⟩) (c16 : PySem.W.codeIn K cd16 "_law_fewer" = true) (k16 : PySem.W.keepIn K (.ref f16) = true)
    {f17 : Addr} {oc17 kV17 dc17 pm17 cd17 ct17 : Value} {od17 an17 : Option Addr} {sl17 : Array (Option Value)}
    (a17 : PySem.W.nsIn K mainGlobals "_law_lacks" = some (some (.ref f17))) (l17 : K.lookup f17 = some ⟨oc17, od17, .func (PySem.W.fnOf "_law_lacks" "_law_lacks" (defArgs s_law_lacks) (defBody s_law_lacks) (defScope s_law_lacks) .none kV17 dc17 pm17 an17 cd17 ct17), sl17⟩) (c17 : PySem.W.codeIn K cd17 "_law_lacks" = true) (k17 : PySem.W.keepIn K (.ref f17) = true)
    {f18 : Addr} {oc18 kV18 dc18 pm18 cd18 ct18 : Value} {od18 an18 : Option Addr} {sl18 : Array (Option Value)}
    (a18 : PySem.W.nsIn K mainGlobals "_law_width" = some (some (.ref f18))) (l18 : K.lookup f18 = some ⟨oc18, od18, .func (PySem.W.fnOf "_law_width" "_law_width" (defArgs s_law_width) (defBody s_law_width) (defScope s_law_width) .none kV18 dc18 pm18 an18 cd18 ct18), sl18⟩) (c18 : PySem.W.codeIn K cd18 "_law_width" = true) (k18 : PySem.W.keepIn K (.ref f18) = true)
    {f19 : Addr} {oc19 kV19 dc19 pm19 cd19 ct19 : Value} {od19 an19 : Option Addr} {sl19 : Array (Option Value)}
    (a19 : PySem.W.nsIn K mainGlobals "law" = some (some (.ref f19))) (l19 : K.lookup f19 = some ⟨oc19, od19, .func (PySem.W.fnOf "law" "law" (defArgs s_law) (defBody s_law) (defScope s_law) .none kV19 dc19 pm19 an19 cd19 ct19), sl19⟩) (c19 : PySem.W.codeIn K cd19 "law" = true) (k19 : PySem.W.keepIn K (.ref f19) = true)
    (z_bool : PySem.W.nsIn K mainGlobals "bool" = some none)
    (z_divmod : PySem.W.nsIn K mainGlobals "divmod" = some none)
    (z_enumerate : PySem.W.nsIn K mainGlobals "enumerate" = some none)
    (z_int : PySem.W.nsIn K mainGlobals "int" = some none)
    (z_isinstance : PySem.W.nsIn K mainGlobals "isinstance" = some none)
    (z_len : PySem.W.nsIn K mainGlobals "len" = some none)
    (z_list : PySem.W.nsIn K mainGlobals "list" = some none)
    (z_range : PySem.W.nsIn K mainGlobals "range" = some none)
    (z_tuple : PySem.W.nsIn K mainGlobals "tuple" = some none)
    : ∃ fd : FuncData, (∀ (s : Shared) (v : Value), BindsTo s fd ⟨[v], []⟩ [("script", v)]) ∧ ∀ base : Heap, K.In base → base.Ns mainGlobals mg → FnOk l.prog w K mg base CX0 6 fa fd ["script"] (spL2 K) := by
  have e := hfa.symm.trans (PySem.W.mg_of X G a19)
  cases e
  have B : Bt mg := ⟨PySem.W.mg_none_of X G z_bool, PySem.W.mg_none_of X G z_divmod, PySem.W.mg_none_of X G z_enumerate, PySem.W.mg_none_of X G z_int, PySem.W.mg_none_of X G z_isinstance, PySem.W.mg_none_of X G z_len, PySem.W.mg_none_of X G z_list, PySem.W.mg_none_of X G z_range, PySem.W.mg_none_of X G z_tuple⟩
  have d_ones : Df K mg "ones" s_ones ["mask"] := df_mk X G a0 l0 c0 k0 (fun _ _ _ _ _ _ us hl => match us, hl with | [_], _ => rfl)
  have d_within : Df K mg "within" s_within ["small", "large"] := df_mk X G a1 l1 c1 k1 (fun _ _ _ _ _ _ us hl => match us, hl with | [_, _], _ => rfl)
  have d_shared : Df K mg "shared" s_shared ["rows", "width", "group"] := df_mk X G a2 l2 c2 k2 (fun _ _ _ _ _ _ us hl => match us, hl with | [_, _, _], _ => rfl)
  have d_having : Df K mg "having" s_having ["rows", "mask"] := df_mk X G a3 l3 c3 k3 (fun _ _ _ _ _ _ us hl => match us, hl with | [_, _], _ => rfl)
  have d_closed : Df K mg "closed" s_closed ["rows", "width", "mask"] := df_mk X G a4 l4 c4 k4 (fun _ _ _ _ _ _ us hl => match us, hl with | [_, _, _], _ => rfl)
  have d_broken_by : Df K mg "broken_by" s_broken_by ["row", "rule"] := df_mk X G a5 l5 c5 k5 (fun _ _ _ _ _ _ us hl => match us, hl with | [_, _], _ => rfl)
  have d_broken_place : Df K mg "broken_place" s_broken_place ["rules", "mask"] := df_mk X G a6 l6 c6 k6 (fun _ _ _ _ _ _ us hl => match us, hl with | [_, _], _ => rfl)
  have d_way : Df K mg "way" s_way ["rules", "rule"] := df_mk X G a7 l7 c7 k7 (fun _ _ _ _ _ _ us hl => match us, hl with | [_, _], _ => rfl)
  have d_least : Df K mg "least" s_least ["rows", "width"] := df_mk X G a8 l8 c8 k8 (fun _ _ _ _ _ _ us hl => match us, hl with | [_, _], _ => rfl)
  have d_law_cell : Df K mg "_law_cell" s_law_cell ["script", "k"] := df_mk X G a9 l9 c9 k9 (fun _ _ _ _ _ _ us hl => match us, hl with | [_, _], _ => rfl)
  have d_law_grown : Df K mg "_law_grown" s_law_grown ["rules", "have"] := df_mk X G a10 l10 c10 k10 (fun _ _ _ _ _ _ us hl => match us, hl with | [_, _], _ => rfl)
  have d_law_table : Df K mg "_law_table" s_law_table ["script", "width"] := df_mk X G a11 l11 c11 k11 (fun _ _ _ _ _ _ us hl => match us, hl with | [_, _], _ => rfl)
  have d_law_closed : Df K mg "_law_closed" s_law_closed ["rows", "width", "mask"] := df_mk X G a12 l12 c12 k12 (fun _ _ _ _ _ _ us hl => match us, hl with | [_, _, _], _ => rfl)
  have d_law_rule : Df K mg "_law_rule" s_law_rule ["told"] := df_mk X G a13 l13 c13 k13 (fun _ _ _ _ _ _ us hl => match us, hl with | [_], _ => rfl)
  have d_law_sharp : Df K mg "_law_sharp" s_law_sharp ["rows", "width", "start", "turn"] := df_mk X G a14 l14 c14 k14 (fun _ _ _ _ _ _ us hl => match us, hl with | [_, _, _, _], _ => rfl)
  have d_law_walked : Df K mg "_law_walked" s_law_walked ["rules", "rule", "paper"] := df_mk X G a15 l15 c15 k15 (fun _ _ _ _ _ _ us hl => match us, hl with | [_, _, _], _ => rfl)
  have d_law_fewer : Df K mg "_law_fewer" s_law_fewer ["script", "rows", "width", "told", "sharp"] := df_mk X G a16 l16 c16 k16 (fun _ _ _ _ _ _ us hl => match us, hl with | [_, _, _, _, _], _ => rfl)
  have d_law_lacks : Df K mg "_law_lacks" s_law_lacks ["rules", "told"] := df_mk X G a17 l17 c17 k17 (fun _ _ _ _ _ _ us hl => match us, hl with | [_, _], _ => rfl)
  have d_law_width : Df K mg "_law_width" s_law_width ["script"] := df_mk X G a18 l18 c18 k18 (fun _ _ _ _ _ _ us hl => match us, hl with | [_], _ => rfl)
  have d_law : Df K mg "law" s_law ["script"] := df_mk X G a19 l19 c19 k19 (fun _ _ _ _ _ _ us hl => match us, hl with | [_], _ => rfl)
  refine ⟨PySem.W.fnOf "law" "law" (defArgs s_law) (defBody s_law) (defScope s_law) .none kV19 dc19 pm19 an19 cd19 ct19, fun s v => .of_eq rfl, fun base _ _ => ?_⟩
  have h_ones : Has l.prog w K mg base 1 "ones" ["mask"] sp_ones := ok_ones B d_ones
  have h_within : Has l.prog w K mg base 1 "within" ["small", "large"] sp_within := ok_within B d_within
  have h_shared : Has l.prog w K mg base 2 "shared" ["rows", "width", "group"] sp_shared := ok_shared B d_shared h_ones
  have h_having : Has l.prog w K mg base 2 "having" ["rows", "mask"] sp_having := ok_having B d_having h_within
  have h_closed : Has l.prog w K mg base 3 "closed" ["rows", "width", "mask"] sp_closed := ok_closed B d_closed h_having h_shared
  have h_broken_by : Has l.prog w K mg base 2 "broken_by" ["row", "rule"] sp_broken_by := ok_broken_by B d_broken_by h_within
  have h_broken_place : Has l.prog w K mg base 3 "broken_place" ["rules", "mask"] sp_broken_place := ok_broken_place B d_broken_place h_broken_by
  have h_way : Has l.prog w K mg base 4 "way" ["rules", "rule"] sp_way := ok_way B d_way h_within h_broken_place
  have h_least : Has l.prog w K mg base 4 "least" ["rows", "width"] sp_least := ok_least B d_least h_broken_place h_closed
  have h_law_cell : Has l.prog w K mg base 1 "_law_cell" ["script", "k"] sp_law_cell := ok_law_cell B d_law_cell
  have h_law_grown : Has l.prog w K mg base 1 "_law_grown" ["rules", "have"] sp_law_grown := ok_law_grown B d_law_grown
  have h_law_table : Has l.prog w K mg base 2 "_law_table" ["script", "width"] sp_law_table := ok_law_table B d_law_table h_law_cell h_law_grown
  have h_law_closed : Has l.prog w K mg base 1 "_law_closed" ["rows", "width", "mask"] sp_law_closed := ok_law_closed B d_law_closed
  have h_law_rule : Has l.prog w K mg base 1 "_law_rule" ["told"] sp_law_rule := ok_law_rule B d_law_rule
  have h_law_sharp : Has l.prog w K mg base 2 "_law_sharp" ["rows", "width", "start", "turn"] sp_law_sharp := ok_law_sharp B d_law_sharp h_law_closed
  have h_law_walked : Has l.prog w K mg base 1 "_law_walked" ["rules", "rule", "paper"] sp_law_walked := ok_law_walked B d_law_walked
  have h_law_fewer : Has l.prog w K mg base 2 "_law_fewer" ["script", "rows", "width", "told", "sharp"] sp_law_fewer := ok_law_fewer B d_law_fewer h_law_cell h_law_closed
  have h_law_lacks : Has l.prog w K mg base 5 "_law_lacks" ["rules", "told"] sp_law_lacks := ok_law_lacks B d_law_lacks h_way
  have h_law_width : Has l.prog w K mg base 2 "_law_width" ["script"] sp_law_width := ok_law_width B d_law_width h_law_cell
  exact (okf_law B (fun_mk (st := s_law) l19 c19 k19) h_law_width h_law_table h_least h_law_rule h_law_cell h_law_sharp h_way h_law_walked h_law_lacks h_law_fewer).imp fun vs H Q E h => law_imp h
end Tq
open PySem PySem.W PyProof.Rows
set_option maxHeartbeats 0 in
theorem PySem.Challenge.cw_traitlattice_k22_whole_fewest_rules_holds : PySem.Challenge.rw_traitlattice_k22_whole_fewest_rules.Holds := by
  w_on; o_law; k_head; (case hw => w_witness2)
  k_fill
  refine L2.walk_of (l := PySem.Challenge.rw_traitlattice_k22_whole_fewest_rules) (n := 63) (k := 6) (x := "script") (CX := fun _ => L2.CX0) (sp := fun w => Tq.spL2 _) rfl (by decide) rfl ⟨rfl, by decide, by decide⟩ (fun w h Y => PySem.W.kIn_of Y) ?F (fun _ _ a ns hl _ hS => ⟨a, ns, rfl, hS, hl, fun _ => rfl⟩) (fun _ _ _ _ _ h => h)
  case F =>
    intro w mg fa h KX G hmg
    refine' Tq.all_mk KX G hmg ?a0 ?l0 ?c0 ?k0 ?a1 ?l1 ?c1 ?k1 ?a2 ?l2 ?c2 ?k2 ?a3 ?l3 ?c3 ?k3 ?a4 ?l4 ?c4 ?k4 ?a5 ?l5 ?c5 ?k5 ?a6 ?l6 ?c6 ?k6 ?a7 ?l7 ?c7 ?k7 ?a8 ?l8 ?c8 ?k8 ?a9 ?l9 ?c9 ?k9 ?a10 ?l10 ?c10 ?k10 ?a11 ?l11 ?c11 ?k11 ?a12 ?l12 ?c12 ?k12 ?a13 ?l13 ?c13 ?k13 ?a14 ?l14 ?c14 ?k14 ?a15 ?l15 ?c15 ?k15 ?a16 ?l16 ?c16 ?k16 ?a17 ?l17 ?c17 ?k17 ?a18 ?l18 ?c18 ?k18 ?a19 ?l19 ?c19 ?k19 ?z_bool ?z_divmod ?z_enumerate ?z_int ?z_isinstance ?z_len ?z_list ?z_range ?z_tuple
    (case a0 => k_is); (case l0 => k_is); (case c0 => k_is); (case k0 => k_is); (case a1 => k_is); (case l1 => k_is); (case c1 => k_is); (case k1 => k_is); (case a2 => k_is); (case l2 => k_is); (case c2 => k_is); (case k2 => k_is); (case a3 => k_is); (case l3 => k_is); (case c3 => k_is); (case k3 => k_is); (case a4 => k_is); (case l4 => k_is); (case c4 => k_is); (case k4 => k_is); (case a5 => k_is); (case l5 => k_is); (case c5 => k_is); (case k5 => k_is); (case a6 => k_is); (case l6 => k_is); (case c6 => k_is); (case k6 => k_is); (case a7 => k_is); (case l7 => k_is); (case c7 => k_is); (case k7 => k_is); (case a8 => k_is); (case l8 => k_is); (case c8 => k_is); (case k8 => k_is); (case a9 => k_is); (case l9 => k_is); (case c9 => k_is); (case k9 => k_is); (case a10 => k_is); (case l10 => k_is); (case c10 => k_is); (case k10 => k_is); (case a11 => k_is); (case l11 => k_is); (case c11 => k_is); (case k11 => k_is); (case a12 => k_is); (case l12 => k_is); (case c12 => k_is); (case k12 => k_is); (case a13 => k_is); (case l13 => k_is); (case c13 => k_is); (case k13 => k_is); (case a14 => k_is); (case l14 => k_is); (case c14 => k_is); (case k14 => k_is); (case a15 => k_is); (case l15 => k_is); (case c15 => k_is); (case k15 => k_is); (case a16 => k_is); (case l16 => k_is); (case c16 => k_is); (case k16 => k_is); (case a17 => k_is); (case l17 => k_is); (case c17 => k_is); (case k17 => k_is); (case a18 => k_is); (case l18 => k_is); (case c18 => k_is); (case k18 => k_is); (case a19 => k_is); (case l19 => k_is); (case c19 => k_is); (case k19 => k_is); (case z_bool => k_is); (case z_divmod => k_is); (case z_enumerate => k_is); (case z_int => k_is); (case z_isinstance => k_is); (case z_len => k_is); (case z_list => k_is); (case z_range => k_is); (case z_tuple => k_is)
#print axioms PySem.Challenge.cw_traitlattice_k22_whole_fewest_rules_holds
