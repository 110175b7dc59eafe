import PyProof.Rows.All
import Wide.All
import OpenK.AllK
import Wide.FinOn
import HandS.ForMost
import HandS.Walk
import HandS.Zip
import HandS.IsInst
import HandS.Exc
import HandS.SortInts
import HandS.Wide
import HandS.TupLe
import HandS.More
import HandS.Conv
import HandS.Style
import HandS.Defaults
import HandS.WordsDict
import KE.KSortKeyAny
import HandS.SortKw
import PySem.Challenge.RW_traitlattice_k28_whole_book_kept
set_option Elab.async false
set_option linter.all false
set_option autoImplicit false
set_option maxRecDepth 100000
set_option maxHeartbeats 4000000
/-! a layer over HandS: values as data (Dt), objects either frozen or owned by one slot; readings without heaps. -/
namespace Tq
open PySem PySem.Spec L2
open PyProof.Rows hiding St

inductive Dt where
  | non
  | bl (b : Bool)
  | int (i : Int)
  | str (x : Str)
  | tup (ds : List Dt)
  | lst (ds : List Dt)
  | dct (kvs : List (Key × Dt))
  | obj (C : Addr) (fs : List (Str × Dt))
  | exc (C : Addr) (fs : List (Str × Dt))
/-- an exception of the class at C stands at a, its dict at d -/
def ExcAt (C a : Addr) (d : Option Addr) : Heap → Prop := fun h => ∃ oe vs, h.get? a = some oe ∧ oe.cls = .ref C ∧ oe.dict = d ∧ oe.data = .fields vs

mutual
inductive Rp (K : PySem.W.Frag) (F : Hp) : V → Dt → Prop
  | non : Rp K F .non .non
  | bl (b : Bool) : Rp K F (.bl b) (.bl b)
  | int (i : Int) : Rp K F (.int i) (.int i)
  | str (x : Str) : Rp K F (.str x) (.str x)
  | tup {a : Addr} {xs : List V} {ds : List Dt} : F a = some (.tup xs) → RpL K F xs ds → Rp K F (.ref a) (.tup ds)
  | lst {a : Addr} {xs : List V} {ds : List Dt} : SqL K F a xs → RpL K F xs ds → Rp K F (.ref a) (.lst ds)
  | dct {a : Addr} {kvs : List (Key × V)} {ds : List (Key × Dt)} : F a = some (.dK kvs) → RpK K F kvs ds → Rp K F (.ref a) (.dct ds)
  | obj {a C dx : Addr} {fs : List (Str × V)} {ds : List (Str × Dt)} : F a = some (.ins C dx fs) → RpF K F fs ds → Rp K F (.ref a) (.obj C ds)
  | exc0 {a C : Addr} : F a = some (.ext (ExcAt C a none)) → Rp K F (.ref a) (.exc C [])
  | exc1 {a C d : Addr} {fs : List (Str × V)} {ds : List (Str × Dt)} : F a = some (.ext (ExcAt C a (some d))) → F d = some (.xd fs) → RpF K F fs ds → Rp K F (.ref a) (.exc C ds)
inductive RpL (K : PySem.W.Frag) (F : Hp) : List V → List Dt → Prop
  | nil : RpL K F [] []
  | cons {v : V} {vs : List V} {d : Dt} {ds : List Dt} : Rp K F v d → RpL K F vs ds → RpL K F (v :: vs) (d :: ds)
inductive RpK (K : PySem.W.Frag) (F : Hp) : List (Key × V) → List (Key × Dt) → Prop
  | nil : RpK K F [] []
  | cons {k : Key} {v : V} {vs : List (Key × V)} {d : Dt} {ds : List (Key × Dt)} : Rp K F v d → RpK K F vs ds → RpK K F ((k, v) :: vs) ((k, d) :: ds)
inductive RpF (K : PySem.W.Frag) (F : Hp) : List (Str × V) → List (Str × Dt) → Prop
  | nil : RpF K F [] []
  | cons {k : Str} {v : V} {vs : List (Str × V)} {d : Dt} {ds : List (Str × Dt)} : Rp K F v d → RpF K F vs ds → RpF K F ((k, v) :: vs) ((k, d) :: ds)
end

theorem rdS {H H' : Hp} {a : Addr} {u : HO} (e : Same H H') (h : Rd H a u) : Rd H' a u := by
  rcases h with h | ⟨o, h⟩
  · exact .inl (e _ _ h)
  · exact .inr ⟨o, e _ _ h⟩

section
variable {K : PySem.W.Frag} {F F' : Hp} (e : Same F F')
include e
mutual
theorem Rp.mono : ∀ {v : V} {x : Dt}, Rp K F v x → Rp K F' v x
  | _, _, .non => .non
  | _, _, .bl b => .bl b
  | _, _, .int i => .int i
  | _, _, .str x => .str x
  | _, _, .tup h r => .tup (e _ _ h) (RpL.mono r)
  | _, _, .lst h r => .lst (e.seq h) (RpL.mono r)
  | _, _, .dct h r => .dct (e _ _ h) (RpK.mono r)
  | _, _, .obj h r => .obj (e _ _ h) (RpF.mono r)
  | _, _, .exc0 h => .exc0 (e _ _ h)
  | _, _, .exc1 h h' r => .exc1 (e _ _ h) (e _ _ h') (RpF.mono r)
theorem RpL.mono : ∀ {vs : List V} {xs : List Dt}, RpL K F vs xs → RpL K F' vs xs
  | _, _, .nil => .nil
  | _, _, .cons r t => .cons (Rp.mono r) (RpL.mono t)
theorem RpK.mono : ∀ {vs : List (Key × V)} {xs : List (Key × Dt)}, RpK K F vs xs → RpK K F' vs xs
  | _, _, .nil => .nil
  | _, _, .cons r t => .cons (Rp.mono r) (RpK.mono t)
theorem RpF.mono : ∀ {vs : List (Str × V)} {xs : List (Str × Dt)}, RpF K F vs xs → RpF K F' vs xs
  | _, _, .nil => .nil
  | _, _, .cons r t => .cons (Rp.mono r) (RpF.mono t)
end
end

section
variable {K : PySem.W.Frag} {F : Hp}
theorem RpL.length : ∀ {vs : List V} {xs : List Dt}, RpL K F vs xs → vs.length = xs.length
  | _, _, .nil => rfl
  | _, _, .cons _ t => congrArg (· + 1) (RpL.length t)
theorem RpL.get : ∀ {vs : List V} {xs : List Dt} {i : Nat} {v : V}, RpL K F vs xs → vs[i]? = some v → ∃ x, xs[i]? = some x ∧ Rp K F v x
  | _, _, _, _, .nil, e => by simp at e
  | _, _, 0, _, .cons r _, e => by
    simp at e
    subst e
    exact ⟨_, rfl, r⟩
  | _, _, i + 1, v, .cons _ t, e => by
    obtain ⟨x, h1, h2⟩ := RpL.get (i := i) (v := v) t (by simpa using e)
    exact ⟨x, by simpa using h1, h2⟩
theorem RpL.at : ∀ {vs : List V} {xs : List Dt} {i : Nat} {x : Dt}, RpL K F vs xs → xs[i]? = some x → ∃ v, vs[i]? = some v ∧ Rp K F v x
  | _, _, _, _, .nil, e => by simp at e
  | _, _, 0, _, .cons r _, e => by
    simp at e
    subst e
    exact ⟨_, rfl, r⟩
  | _, _, i + 1, x, .cons _ t, e => by
    obtain ⟨v, h1, h2⟩ := RpL.at (i := i) (x := x) t (by simpa using e)
    exact ⟨v, by simpa using h1, h2⟩
theorem RpL.app : ∀ {vs ws : List V} {xs ys : List Dt}, RpL K F vs xs → RpL K F ws ys → RpL K F (vs ++ ws) (xs ++ ys)
  | _, _, _, _, .nil, s => s
  | _, _, _, _, .cons r t, s => .cons r (RpL.app t s)
theorem RpL.take : ∀ {vs : List V} {xs : List Dt} (n : Nat), RpL K F vs xs → RpL K F (vs.take n) (xs.take n)
  | _, _, 0, _ => .nil
  | _, _, _ + 1, .nil => .nil
  | _, _, n + 1, .cons r t => .cons r (RpL.take n t)
theorem RpL.drop : ∀ {vs : List V} {xs : List Dt} (n : Nat), RpL K F vs xs → RpL K F (vs.drop n) (xs.drop n)
  | _, _, 0, r => r
  | _, _, _ + 1, .nil => .nil
  | _, _, n + 1, .cons _ t => RpL.drop n t
theorem RpL.set {v : V} {x : Dt} (r : Rp K F v x) : ∀ {vs : List V} {xs : List Dt} (i : Nat), RpL K F vs xs → RpL K F (vs.set i v) (xs.set i x)
  | _, _, _, .nil => .nil
  | _, _, 0, .cons _ t => .cons r t
  | _, _, i + 1, .cons q t => .cons q (RpL.set r i t)
theorem RpL.eraseIdx : ∀ {vs : List V} {xs : List Dt} (i : Nat), RpL K F vs xs → RpL K F (vs.eraseIdx i) (xs.eraseIdx i)
  | _, _, _, .nil => .nil
  | _, _, 0, .cons _ t => t
  | _, _, i + 1, .cons q t => .cons q (RpL.eraseIdx i t)
theorem RpL.ints_inv : ∀ {vs : List V} {ns : List Int}, RpL K F vs (ns.map Dt.int) → vs = ns.map V.int
  | _, [], .nil => rfl
  | _, n :: ns, .cons (.int _) t => by rw [RpL.ints_inv (ns := ns) t]; rfl
theorem RpL.of_ints : ∀ (ns : List Int), RpL K F (ns.map V.int) (ns.map Dt.int)
  | [] => .nil
  | _ :: ns => .cons (.int _) (RpL.of_ints ns)
end

/-! ### what is owned, as a tree: frozen data, lists, dicts (of frozen data), objects -/
inductive Ot where
  | pt (x : Dt)
  | lst (l : Addr) (ts : List Ot)
  | dct (l : Addr) (ds : List (Key × Dt))
  | obj (l C : Addr) (fs : List (Str × Ot))
mutual
def Ot.dt : Ot → Dt
  | .pt x => x
  | .lst _ ts => .lst (Ot.dts ts)
  | .dct _ ds => .dct ds
  | .obj _ C fs => .obj C (Ot.dfs fs)
def Ot.dts : List Ot → List Dt
  | [] => []
  | t :: r => t.dt :: Ot.dts r
def Ot.dfs : List (Str × Ot) → List (Str × Dt)
  | [] => []
  | (f, t) :: r => (f, t.dt) :: Ot.dfs r
end
mutual
def Ot.fp : Ot → List Addr
  | .pt _ => []
  | .lst l ts => l :: Ot.fps ts
  | .dct l _ => [l]
  | .obj l _ fs => l :: Ot.fpf fs
def Ot.fps : List Ot → List Addr
  | [] => []
  | t :: r => t.fp ++ Ot.fps r
def Ot.fpf : List (Str × Ot) → List Addr
  | [] => []
  | (_, t) :: r => t.fp ++ Ot.fpf r
end
mutual
inductive OwT (K : PySem.W.Frag) (F H : Hp) : V → Ot → Prop
  | pt {v : V} {x : Dt} : Rp K F v x → OwT K F H v (.pt x)
  | lst {l : Addr} {vs : List V} {ts : List Ot} : H l = some (.lst vs) → OwTL K F H vs ts → OwT K F H (.ref l) (.lst l ts)
  | dct {l : Addr} {kvs : List (Key × V)} {ds : List (Key × Dt)} : H l = some (.dK kvs) → RpK K F kvs ds → OwT K F H (.ref l) (.dct l ds)
  | obj {l C dx : Addr} {vs : List (Str × V)} {fs : List (Str × Ot)} : H l = some (.ins C dx vs) → OwTF K F H vs fs → OwT K F H (.ref l) (.obj l C fs)
inductive OwTL (K : PySem.W.Frag) (F H : Hp) : List V → List Ot → Prop
  | nil : OwTL K F H [] []
  | cons {v : V} {vs : List V} {t : Ot} {ts : List Ot} : OwT K F H v t → OwTL K F H vs ts → OwTL K F H (v :: vs) (t :: ts)
inductive OwTF (K : PySem.W.Frag) (F H : Hp) : List (Str × V) → List (Str × Ot) → Prop
  | nil : OwTF K F H [] []
  | cons {f : Str} {v : V} {vs : List (Str × V)} {t : Ot} {ts : List (Str × Ot)} : OwT K F H v t → OwTF K F H vs ts → OwTF K F H ((f, v) :: vs) ((f, t) :: ts)
end
section
variable {K : PySem.W.Frag} {F F' H H' : Hp} (hf : Same F F')
include hf
mutual
/-- content unchanged at the tree's own places -/
theorem OwT.keep : ∀ {v : V} {t : Ot}, OwT K F H v t → (∀ a ∈ t.fp, ∀ o, H a = some o → H' a = some o) → OwT K F' H' v t
  | _, _, .pt r, _ => .pt (r.mono hf)
  | _, _, .lst h r, k => .lst (k _ (List.mem_cons_self) _ h) (OwTL.keep r fun a ha => k a (List.mem_cons_of_mem _ ha))
  | _, _, .dct h r, k => .dct (k _ (List.mem_cons_self) _ h) (r.mono hf)
  | _, _, .obj h r, k => .obj (k _ (List.mem_cons_self) _ h) (OwTF.keep r fun a ha => k a (List.mem_cons_of_mem _ ha))
theorem OwTL.keep : ∀ {vs : List V} {ts : List Ot}, OwTL K F H vs ts → (∀ a ∈ Ot.fps ts, ∀ o, H a = some o → H' a = some o) → OwTL K F' H' vs ts
  | _, _, .nil, _ => .nil
  | _, _, .cons r q, k => .cons (OwT.keep r fun a ha => k a (List.mem_append_left _ ha)) (OwTL.keep q fun a ha => k a (List.mem_append_right _ ha))
theorem OwTF.keep : ∀ {vs : List (Str × V)} {ts : List (Str × Ot)}, OwTF K F H vs ts → (∀ a ∈ Ot.fpf ts, ∀ o, H a = some o → H' a = some o) → OwTF K F' H' vs ts
  | _, _, .nil, _ => .nil
  | _, _, .cons r q, k => .cons (OwT.keep r fun a ha => k a (List.mem_append_left _ ha)) (OwTF.keep q fun a ha => k a (List.mem_append_right _ ha))
end
end
theorem OwT.mono {K : PySem.W.Frag} {F F' H H' : Hp} {v : V} {t : Ot} (hf : Same F F') (hh : Same H H') (r : OwT K F H v t) : OwT K F' H' v t := r.keep hf fun a _ o q => hh a o q
section
variable {K : PySem.W.Frag} {F H : Hp}
mutual
/-- each place of a tree is taken -/
theorem OwT.there : ∀ {v : V} {t : Ot}, OwT K F H v t → ∀ a ∈ t.fp, H a ≠ none
  | _, _, .pt r, a, ha => by cases ha
  | _, _, .lst h r, a, ha => by
    rcases List.mem_cons.mp ha with z | z
    · rw [z, h]; intro q; cases q
    · exact OwTL.there r a z
  | _, _, .dct h r, a, ha => by
    rcases List.mem_cons.mp ha with z | z
    · rw [z, h]; intro q; cases q
    · cases z
  | _, _, .obj h r, a, ha => by
    rcases List.mem_cons.mp ha with z | z
    · rw [z, h]; intro q; cases q
    · exact OwTF.there r a z
theorem OwTL.there : ∀ {vs : List V} {ts : List Ot}, OwTL K F H vs ts → ∀ a ∈ Ot.fps ts, H a ≠ none
  | _, _, .nil, a, ha => by cases ha
  | _, _, .cons r q, a, ha => (List.mem_append.mp ha).elim (OwT.there r a) (OwTL.there q a)
theorem OwTF.there : ∀ {vs : List (Str × V)} {ts : List (Str × Ot)}, OwTF K F H vs ts → ∀ a ∈ Ot.fpf ts, H a ≠ none
  | _, _, .nil, a, ha => by cases ha
  | _, _, .cons r q, a, ha => (List.mem_append.mp ha).elim (OwT.there r a) (OwTF.there q a)
end
end
/-- a leaf: a list of frozen things -/
def Ot.leaf (l : Addr) (ds : List Dt) : Ot := .lst l (ds.map .pt)
theorem dts_leaf : ∀ ds : List Dt, Ot.dts (ds.map .pt) = ds
  | [] => rfl
  | d :: ds => by rw [List.map_cons]; show d :: Ot.dts (ds.map .pt) = _; rw [dts_leaf ds]
theorem fps_leaf : ∀ ds : List Dt, Ot.fps (ds.map .pt) = []
  | [] => rfl
  | d :: ds => by rw [List.map_cons]; exact fps_leaf ds
theorem Ot.dt_leaf (l : Addr) (ds : List Dt) : (Ot.leaf l ds).dt = .lst ds := by
  show Dt.lst (Ot.dts (ds.map .pt)) = _
  rw [dts_leaf]
theorem Ot.fp_leaf (l : Addr) (ds : List Dt) : (Ot.leaf l ds).fp = [l] := by
  show l :: Ot.fps (ds.map .pt) = _
  rw [fps_leaf]
theorem owtl_leaf {K : PySem.W.Frag} {F H : Hp} : ∀ {vs : List V} {ds : List Dt}, OwTL K F H vs (ds.map .pt) ↔ RpL K F vs ds := by
  intro vs ds
  induction ds generalizing vs with
  | nil =>
    constructor
    · intro h; cases h; exact .nil
    · intro h; cases h; exact .nil
  | cons d ds ih =>
    constructor
    · intro h
      cases h with
      | cons r q => cases r with
        | pt r => exact .cons r (ih.mp q)
    · intro h
      cases h with
      | cons r q => exact .cons (.pt r) (ih.mpr q)

/-! ### kinds: fz frozen (lives for ever), vw a list or dict that is read only through this call, rd read now, fr fresh (nobody else has it), ow owned by its slot;
trees: tr owned by its slot, mt owned through this call (the caller's), ft fresh, vt read only through this call, rt read now; iv a list of ints of which a law is known, whoever changes it -/
inductive Kd where
  | fz | vw | rd | fr | ow (l : Addr) | tr (t : Ot) | mt (t : Ot) | ft (t : Ot) | vt (t : Ot) | rt (t : Ot) | iv (I : List Int → Prop)
inductive Sl where
  | no
  | v (k : Kd) (x : Dt)
abbrev DEnv := List Sl
/-- f: frozen; g: stable through this call; h: known; w: the whole heap; i: the lists with a law -/
structure Hs where
  f : Hp
  g : Hp
  h : Hp
  w : Hp
  i : Addr → Option (List Int → Prop)
  m : Nat → Option (V × List Addr)

/-- a container at v as it stands in H, what it holds frozen in F -/
def Cn (K : PySem.W.Frag) (F H : Hp) (v : V) (x : Dt) : Prop :=
  (∃ a xs ds, v = .ref a ∧ x = .lst ds ∧ SqL K H a xs ∧ RpL K F xs ds) ∨ (∃ a kvs ds, v = .ref a ∧ x = .dct ds ∧ H a = some (.dK kvs) ∧ RpK K F kvs ds)
/-- readable: frozen, or a container now -/
def Rq (K : PySem.W.Frag) (F H : Hp) (v : V) (x : Dt) : Prop := Rp K F v x ∨ Cn K F H v x
/-- one's own container at l -/
def Ow (K : PySem.W.Frag) (F H : Hp) (l : Addr) (x : Dt) : Prop :=
  (∃ xs ds, x = .lst ds ∧ H l = some (.lst xs) ∧ RpL K F xs ds) ∨ (∃ kvs ds, x = .dct ds ∧ H l = some (.dK kvs) ∧ RpK K F kvs ds)
/-- the kinds' meaning; B: the heap at the expression's start (in a slot: at the def's) -/
def RK (K : PySem.W.Frag) (B : Hp) (s : Hs) (k : Kd) (v : V) (x : Dt) : Prop :=
  match k with
  | .fz => Rp K s.f v x
  | .vw => Rq K s.f s.g v x
  | .rd => Rq K s.f s.h v x
  | .fr => ∃ l, v = .ref l ∧ B l = none ∧ s.g l = none ∧ Ow K s.f s.h l x
  | .ow l => v = .ref l ∧ B l = none ∧ s.g l = none ∧ Ow K s.f s.h l x
  | .tr t => x = t.dt ∧ (∀ a ∈ t.fp, B a = none) ∧ (∀ a ∈ t.fp, s.g a = none) ∧ t.fp.Nodup ∧ OwT K s.f s.h v t
  | .ft t => x = t.dt ∧ (∀ a ∈ t.fp, B a = none) ∧ (∀ a ∈ t.fp, s.g a = none) ∧ t.fp.Nodup ∧ OwT K s.f s.h v t
  | .mt t => x = t.dt ∧ (∀ a ∈ t.fp, s.g a = none) ∧ t.fp.Nodup ∧ OwT K s.f s.h v t
  | .vt t => x = t.dt ∧ OwT K s.f s.g v t
  | .rt t => x = t.dt ∧ OwT K s.f s.h v t
  | .iv I => ∃ a, v = .ref a ∧ s.i a = some I ∧ x = .lst []
/-- the places that a slot owns -/
def Kd.fp : Kd → List Addr
  | .ow l => [l]
  | .tr t => t.fp
  | .mt t => t.fp
  | _ => []
/-- kinds of slots -/
def Kd.sl : Kd → Bool
  | .rd => false
  | .fr => false
  | .ft _ => false
  | .rt _ => false
  | _ => true
/-- leaves: what is in them is frozen -/
def Kd.lf : Kd → Bool
  | .fz => true
  | .vw => true
  | .rd => true
  | .fr => true
  | .ow _ => true
  | _ => false
/-- the lists with a law keep it -/
def IvOk (s : Hs) : Prop := ∀ a I, s.i a = some I → s.h a = none ∧ ∃ ns : List Int, I ns ∧ s.w a = some (.lst (ns.map V.int))
/-- the heaps' part: e the entry -/
structure RH (e s : Hs) : Prop where
  fg : Same s.f s.g
  gh : Same s.g s.h
  hw : Same s.h s.w
  ef : Same e.f s.f
  eg : Same e.g s.g
  nf : ∀ a, e.w a ≠ none → s.f a = e.f a
  ew : ∀ a, e.w a ≠ none → s.w a ≠ none
  iv : IvOk s
  ei : ∀ a I, e.i a = some I → s.i a = some I
structure Rep (K : PySem.W.Frag) (e s : Hs) (σ : St) (ρ : DEnv) : Prop where
  rh : RH e s
  len : σ.length = ρ.length
  sl : ∀ (i : Nat) (k : Kd) (x : Dt), ρ[i]? = some (Sl.v k x) → ∃ v, σ[i]? = some (some v) ∧ RK K e.w s k v x ∧ k.sl = true
  dj : ∀ (i j : Nat) (k k' : Kd) (x y : Dt), ρ[i]? = some (Sl.v k x) → ρ[j]? = some (Sl.v k' y) → i ≠ j → ∀ a ∈ k.fp, a ∉ k'.fp
  mt : ∀ (i : Nat) (t : Ot) (x : Dt), ρ[i]? = some (Sl.v (.mt t) x) → ∃ v L, e.m i = some (v, L) ∧ σ[i]? = some (some v) ∧ ∀ a ∈ t.fp, a ∈ L ∨ e.w a = none
/-- an expression's step -/
structure Grow (s s' : Hs) : Prop where
  f : Same s.f s'.f
  g : Same s.g s'.g
  h : Same s.h s'.h
  fg : Same s'.f s'.g
  gh : Same s'.g s'.h
  hw : Same s'.h s'.w
  nf : ∀ a, s.w a ≠ none → s'.f a = s.f a
  ng : ∀ a, s.w a ≠ none → s'.g a = s.g a
  w : ∀ a, s.w a ≠ none → s'.w a ≠ none
  w0 : Same s.h s.w
  iv : IvOk s'
  i : ∀ a I, s.i a = some I → s'.i a = some I
/-- a statement's -/
structure Ext (s s' : Hs) : Prop where
  f : Same s.f s'.f
  g : Same s.g s'.g
  i : ∀ a I, s.i a = some I → s'.i a = some I

theorem ne_none {α : Type} {o : Option α} {x : α} (h : o = some x) : o ≠ none := by rw [h]; exact fun z => nomatch z
theorem Same.some_ne {H H' : Hp} (e : Same H H') {a : Addr} (h : H a ≠ none) : H' a ≠ none := by
  cases q : H a with
  | none => exact absurd q h
  | some o => exact ne_none (e a o q)

section
variable {K : PySem.W.Frag} {e s s' s'' : Hs} {B : Hp} {k : Kd} {v : V} {x : Dt} {σ : St} {ρ : DEnv} {l : Addr}
theorem Grow.refl (r : RH e s) : Grow s s := ⟨Same.refl _, Same.refl _, Same.refl _, r.fg, r.gh, r.hw, fun _ _ => rfl, fun _ _ => rfl, fun _ h => h, r.hw, r.iv, fun _ _ h => h⟩
theorem Grow.trans (a : Grow s s') (b : Grow s' s'') : Grow s s'' :=
  ⟨a.f.trans b.f, a.g.trans b.g, a.h.trans b.h, b.fg, b.gh, b.hw, fun c h => (b.nf c (a.w c h)).trans (a.nf c h), fun c h => (b.ng c (a.w c h)).trans (a.ng c h), fun c h => b.w c (a.w c h), a.w0, b.iv, fun c I h => b.i c I (a.i c I h)⟩
theorem Ext.refl (s : Hs) : Ext s s := ⟨Same.refl _, Same.refl _, fun _ _ h => h⟩
theorem Ext.trans (a : Ext s s') (b : Ext s' s'') : Ext s s'' := ⟨a.f.trans b.f, a.g.trans b.g, fun c I h => b.i c I (a.i c I h)⟩
theorem Grow.ext (a : Grow s s') : Ext s s' := ⟨a.f, a.g, a.i⟩
theorem RH.grow (r : RH e s) (g : Grow s s') : RH e s' :=
  ⟨g.fg, g.gh, g.hw, r.ef.trans g.f, r.eg.trans g.g, fun a h => by rw [g.nf a (r.ew a h), r.nf a h], fun a h => g.w a (r.ew a h), g.iv, fun a I h => g.i a I (r.ei a I h)⟩
theorem RH.fh (r : RH e s) : Same s.f s.h := r.fg.trans r.gh
theorem RH.fw (r : RH e s) : Same s.f s.w := r.fh.trans r.hw
theorem RH.gw (r : RH e s) : Same s.g s.w := r.gh.trans r.hw
theorem Grow.fh (r : Grow s s') : Same s'.f s'.h := r.fg.trans r.gh
theorem Grow.fw (r : Grow s s') : Same s'.f s'.w := r.fh.trans r.hw
theorem Grow.gw (r : Grow s s') : Same s'.g s'.w := r.gh.trans r.hw
theorem RH.ewn (r : RH e s) {a : Addr} (h : s.w a = none) : e.w a = none := by
  cases q : e.w a with
  | none => rfl
  | some o => exact absurd h (r.ew a (ne_none q))
theorem Cn.mono {F F' H H' : Hp} (hf : Same F F') (hh : Same H H') (c : Cn K F H v x) : Cn K F' H' v x := by
  rcases c with ⟨a, xs, ds, e1, e2, h, r⟩ | ⟨a, kvs, ds, e1, e2, h, r⟩
  · exact .inl ⟨a, xs, ds, e1, e2, hh.seq h, r.mono hf⟩
  · exact .inr ⟨a, kvs, ds, e1, e2, hh _ _ h, r.mono hf⟩
theorem Rq.mono {F F' H H' : Hp} (hf : Same F F') (hh : Same H H') (c : Rq K F H v x) : Rq K F' H' v x := c.elim (fun r => .inl (r.mono hf)) fun c => .inr (c.mono hf hh)
theorem Ow.mono {F F' H H' : Hp} (hf : Same F F') (hh : Same H H') (c : Ow K F H l x) : Ow K F' H' l x := by
  rcases c with ⟨xs, ds, e2, h, r⟩ | ⟨kvs, ds, e2, h, r⟩
  · exact .inl ⟨xs, ds, e2, hh _ _ h, r.mono hf⟩
  · exact .inr ⟨kvs, ds, e2, hh _ _ h, r.mono hf⟩
theorem Ow.keep {F F' H H' : Hp} (hf : Same F F') (hh : ∀ o, H l = some o → H' l = some o) (c : Ow K F H l x) : Ow K F' H' l x := by
  rcases c with ⟨xs, ds, e2, h, r⟩ | ⟨kvs, ds, e2, h, r⟩
  · exact .inl ⟨xs, ds, e2, hh _ h, r.mono hf⟩
  · exact .inr ⟨kvs, ds, e2, hh _ h, r.mono hf⟩
theorem Ow.there {F H : Hp} (c : Ow K F H l x) : H l ≠ none := by
  rcases c with ⟨xs, ds, e2, h, r⟩ | ⟨kvs, ds, e2, h, r⟩ <;> exact ne_none h
theorem Ow.cn {F H : Hp} (c : Ow K F H l x) : Cn K F H (.ref l) x := by
  rcases c with ⟨xs, ds, e2, h, r⟩ | ⟨kvs, ds, e2, h, r⟩
  · exact .inl ⟨l, xs, ds, rfl, e2, .inl (.inl h), r⟩
  · exact .inr ⟨l, kvs, ds, rfl, e2, h, r⟩
/-- frozen content at l in a heap that has it -/
theorem Ow.rp {F F' H : Hp} (c : Ow K F H l x) (hf : Same F F') (hl : ∀ o, H l = some o → F' l = some o) : Rp K F' (.ref l) x := by
  rcases c with ⟨xs, ds, e2, h, r⟩ | ⟨kvs, ds, e2, h, r⟩
  · subst e2
    exact .lst (.inl (.inl (hl _ h))) (r.mono hf)
  · subst e2
    exact .dct (hl _ h) (r.mono hf)
mutual
theorem OwT.rp {F F' H : Hp} (hf : Same F F') : ∀ {v : V} {t : Ot}, OwT K F H v t → (∀ a ∈ t.fp, ∀ o, H a = some o → F' a = some o) → Rp K F' v t.dt
  | _, _, .pt r, _ => r.mono hf
  | _, _, .lst h r, k => .lst (.inl (.inl (k _ (List.mem_cons_self) _ h))) (OwTL.rp hf r fun a ha => k a (List.mem_cons_of_mem _ ha))
  | _, _, .dct h r, k => .dct (k _ (List.mem_cons_self) _ h) (r.mono hf)
  | _, _, .obj h r, k => .obj (k _ (List.mem_cons_self) _ h) (OwTF.rp hf r fun a ha => k a (List.mem_cons_of_mem _ ha))
theorem OwTL.rp {F F' H : Hp} (hf : Same F F') : ∀ {vs : List V} {ts : List Ot}, OwTL K F H vs ts → (∀ a ∈ Ot.fps ts, ∀ o, H a = some o → F' a = some o) → RpL K F' vs (Ot.dts ts)
  | _, _, .nil, _ => .nil
  | _, _, .cons r q, k => .cons (OwT.rp hf r fun a ha => k a (List.mem_append_left _ ha)) (OwTL.rp hf q fun a ha => k a (List.mem_append_right _ ha))
theorem OwTF.rp {F F' H : Hp} (hf : Same F F') : ∀ {vs : List (Str × V)} {ts : List (Str × Ot)}, OwTF K F H vs ts → (∀ a ∈ Ot.fpf ts, ∀ o, H a = some o → F' a = some o) → RpF K F' vs (Ot.dfs ts)
  | _, _, .nil, _ => .nil
  | _, _, .cons r q, k => .cons (OwT.rp hf r fun a ha => k a (List.mem_append_left _ ha)) (OwTF.rp hf q fun a ha => k a (List.mem_append_right _ ha))
end
theorem RK.grow (g : Grow s s') (r : RK K B s k v x) : RK K B s' k v x := by
  cases k with
  | fz => exact Rp.mono g.f r
  | vw => exact Rq.mono g.f g.g r
  | rd => exact Rq.mono g.f g.h r
  | fr =>
    obtain ⟨l, e1, b, n, c⟩ := r
    exact ⟨l, e1, b, (g.ng l (Same.some_ne g.w0 c.there)).trans n, c.mono g.f g.h⟩
  | ow l =>
    obtain ⟨e1, b, n, c⟩ := r
    exact ⟨e1, b, (g.ng l (Same.some_ne g.w0 c.there)).trans n, c.mono g.f g.h⟩
  | tr t =>
    obtain ⟨e1, b, n, d, c⟩ := r
    exact ⟨e1, b, fun a ha => (g.ng a (Same.some_ne g.w0 (c.there a ha))).trans (n a ha), d, c.mono g.f g.h⟩
  | ft t =>
    obtain ⟨e1, b, n, d, c⟩ := r
    exact ⟨e1, b, fun a ha => (g.ng a (Same.some_ne g.w0 (c.there a ha))).trans (n a ha), d, c.mono g.f g.h⟩
  | mt t =>
    obtain ⟨e1, n, d, c⟩ := r
    exact ⟨e1, fun a ha => (g.ng a (Same.some_ne g.w0 (c.there a ha))).trans (n a ha), d, c.mono g.f g.h⟩
  | vt t => exact ⟨r.1, r.2.mono g.f g.g⟩
  | rt t => exact ⟨r.1, r.2.mono g.f g.h⟩
  | iv I =>
    obtain ⟨a, e1, e2, e3⟩ := r
    exact ⟨a, e1, g.i a I e2, e3⟩

theorem RK.base {B' : Hp} (h : ∀ a, B a = none → B' a = none) (r : RK K B s k v x) : RK K B' s k v x := by
  cases k with
  | fr =>
    obtain ⟨l, e1, b, n, c⟩ := r
    exact ⟨l, e1, h _ b, n, c⟩
  | ow l =>
    obtain ⟨e1, b, n, c⟩ := r
    exact ⟨e1, h _ b, n, c⟩
  | tr t =>
    obtain ⟨e1, b, n, d, c⟩ := r
    exact ⟨e1, fun a ha => h _ (b a ha), n, d, c⟩
  | ft t =>
    obtain ⟨e1, b, n, d, c⟩ := r
    exact ⟨e1, fun a ha => h _ (b a ha), n, d, c⟩
  | _ => exact r
theorem Rep.grow (r : Rep K e s σ ρ) (g : Grow s s') : Rep K e s' σ ρ :=
  ⟨r.rh.grow g, r.len, fun i k x h => let ⟨v, h1, h2, h3⟩ := r.sl i k x h; ⟨v, h1, h2.grow g, h3⟩, r.dj, r.mt⟩
/-- leaves can be read now -/
theorem RK.rq (r : RH e s) (q : RK K B s k v x) (hk : k.lf = true) : Rq K s.f s.h v x := by
  cases k with
  | fz => exact .inl q
  | vw => exact Rq.mono (Same.refl _) r.gh q
  | rd => exact q
  | fr =>
    obtain ⟨l, rfl, b, n, c⟩ := q
    exact .inr c.cn
  | ow l =>
    obtain ⟨rfl, b, n, c⟩ := q
    exact .inr c.cn
  | _ => cases hk
/-- freeze what stands at the places of L -/
def Hs.frzs (s : Hs) (L : List Addr) : Hs := ⟨fun a => if a ∈ L then s.h a else s.f a, fun a => if a ∈ L then s.h a else s.g a, s.h, s.w, s.i, s.m⟩
section
variable {L : List Addr}
theorem frzs_f (hL : ∀ a ∈ L, s.g a = none) (fg : Same s.f s.g) : Same s.f (s.frzs L).f := fun a o q => by
  show (if a ∈ L then s.h a else s.f a) = some o
  by_cases z : a ∈ L
  · rw [Same.free fg (hL a z)] at q; cases q
  · rw [if_neg z]; exact q
theorem frzs_g (hL : ∀ a ∈ L, s.g a = none) : Same s.g (s.frzs L).g := fun a o q => by
  show (if a ∈ L then s.h a else s.g a) = some o
  by_cases z : a ∈ L
  · rw [hL a z] at q; cases q
  · rw [if_neg z]; exact q
theorem frzs_fg (fg : Same s.f s.g) : Same (s.frzs L).f (s.frzs L).g := fun a o q => by
  have q' : (if a ∈ L then s.h a else s.f a) = some o := q
  show (if a ∈ L then s.h a else s.g a) = some o
  by_cases z : a ∈ L
  · rw [if_pos z] at q' ⊢; exact q'
  · rw [if_neg z] at q' ⊢; exact fg a o q'
theorem frzs_gh (gh : Same s.g s.h) : Same (s.frzs L).g (s.frzs L).h := fun a o q => by
  have q' : (if a ∈ L then s.h a else s.g a) = some o := q
  show s.h a = some o
  by_cases z : a ∈ L
  · rw [if_pos z] at q'; exact q'
  · rw [if_neg z] at q'; exact gh a o q'
theorem Hs.frzs_at {a : Addr} (h : a ∈ L) : (s.frzs L).f a = s.h a := by
  show (if a ∈ L then s.h a else s.f a) = s.h a
  rw [if_pos h]
theorem Grow.frzs {s0 : Hs} (g : Grow s0 s) (h0 : ∀ a ∈ L, s0.w a = none) (hg : ∀ a ∈ L, s.g a = none) : Grow s0 (s.frzs L) := by
  refine ⟨g.f.trans (frzs_f hg g.fg), g.g.trans (frzs_g hg), g.h, frzs_fg g.fg, frzs_gh g.gh, g.hw, fun a h => ?_, fun a h => ?_, g.w, g.w0, g.iv, g.i⟩
  · have z : a ∉ L := fun z => h (h0 a z)
    show (if a ∈ L then s.h a else s.f a) = _
    rw [if_neg z]; exact g.nf a h
  · have z : a ∉ L := fun z => h (h0 a z)
    show (if a ∈ L then s.h a else s.g a) = _
    rw [if_neg z]; exact g.ng a h
end
/-- storable: frozen, or fresh (then it is frozen now) -/
def Kd.st : Kd → Bool
  | .fz => true
  | .fr => true
  | .ft _ => true
  | _ => false
theorem RK.freeze {s0 : Hs} (g : Grow s0 s) (r : RK K s0.w s k v x) (hk : k.st = true) : ∃ s', Grow s0 s' ∧ s'.h = s.h ∧ s'.w = s.w ∧ Same s.f s'.f ∧ Rp K s'.f v x := by
  cases k with
  | fz => exact ⟨s, g, rfl, rfl, Same.refl _, r⟩
  | fr =>
    obtain ⟨l, rfl, b, n, c⟩ := r
    have hl : ∀ a ∈ [l], s.g a = none := fun a h => by rw [List.mem_singleton] at h; rw [h]; exact n
    have hf := frzs_f hl g.fg
    exact ⟨s.frzs [l], g.frzs (fun a h => by rw [List.mem_singleton] at h; rw [h]; exact b) hl, rfl, rfl, hf, c.rp hf fun o q => by rw [Hs.frzs_at (List.mem_singleton.mpr rfl)]; exact q⟩
  | ft t =>
    obtain ⟨rfl, b, n, d, c⟩ := r
    have hf := frzs_f n g.fg
    exact ⟨s.frzs t.fp, g.frzs b n, rfl, rfl, hf, c.rp hf fun a ha o q => by rw [Hs.frzs_at ha]; exact q⟩
  | _ => cases hk
theorem same_upd {H : Hp} {p : Addr} {o : HO} (h : H p = none) : Same H (upd H p o) := fun b x e => by
  rw [upd_ne (ne_of_none e h)]; exact e
theorem Same.upd {H H' : Hp} {p : Addr} {o : HO} (h : Same H H') : Same (upd H p o) (upd H' p o) := fun b x e => by
  by_cases z : b = p
  · subst z; rw [upd_same] at e ⊢; exact e
  · rw [upd_ne z] at e ⊢; exact h b x e
theorem IvOk.upd {f g h w : Hp} {i : Addr → Option (List Int → Prop)} {m m' : Nat → Option (V × List Addr)} (iv : IvOk ⟨f, g, h, w, i, m⟩) {p : Addr} {o : HO} {f' g' : Hp} (hp : i p = none) : IvOk ⟨f', g', L2.upd h p o, L2.upd w p o, i, m'⟩ := fun a I q => by
  obtain ⟨h1, ns, h2, h3⟩ := iv a I q
  have hne : a ≠ p := fun z => by subst z; exact absurd (hp.symm.trans q) (fun z => nomatch z)
  exact ⟨(upd_ne hne).trans h1, ns, h2, (upd_ne hne).trans h3⟩
theorem IvOk.new {s : Hs} (iv : IvOk s) {p : Addr} (hp : s.w p = none) : s.i p = none := by
  cases q : s.i p with
  | none => rfl
  | some I =>
    obtain ⟨h1, ns, h2, h3⟩ := iv p I q
    rw [hp] at h3; cases h3
theorem IvOk.known {s : Hs} (iv : IvOk s) {p : Addr} (hp : s.h p ≠ none) : s.i p = none := by
  cases q : s.i p with
  | none => rfl
  | some I => exact absurd (iv p I q).1 hp
theorem upd_some {H : Hp} {p a : Addr} {o : HO} (h : H a ≠ none) : upd H p o a ≠ none := by
  by_cases z : a = p
  · subst z; rw [upd_same]; exact fun q => nomatch q
  · rw [upd_ne z]; exact h
/-- a new object laid, frozen -/
def Hs.lay (s : Hs) (p : Addr) (o : HO) : Hs := ⟨upd s.f p o, upd s.g p o, upd s.h p o, upd s.w p o, s.i, s.m⟩
theorem Grow.lay {s0 : Hs} (g : Grow s0 s) {p : Addr} {o : HO} (hp : s.w p = none) : Grow s0 (s.lay p o) := by
  have hh : s.h p = none := Same.free g.hw hp
  have hg : s.g p = none := Same.free g.gh hh
  have hf : s.f p = none := Same.free g.fg hg
  refine ⟨g.f.trans (same_upd hf), g.g.trans (same_upd hg), g.h.trans (same_upd hh), Same.upd g.fg, Same.upd g.gh, Same.upd g.hw, fun a h => ?_, fun a h => ?_, fun a h => upd_some (g.w a h), g.w0, g.iv.upd (g.iv.new hp), g.i⟩
  · have z : a ≠ p := fun z => g.w a h (z ▸ hp)
    exact (upd_ne z).trans (g.nf a h)
  · have z : a ≠ p := fun z => g.w a h (z ▸ hp)
    exact (upd_ne z).trans (g.ng a h)
/-- .. not frozen -/
def Hs.new (s : Hs) (p : Addr) (o : HO) : Hs := ⟨s.f, s.g, upd s.h p o, upd s.w p o, s.i, s.m⟩
theorem Grow.new {s0 : Hs} (g : Grow s0 s) {p : Addr} {o : HO} (hp : s.w p = none) : Grow s0 (s.new p o) :=
  have hh : s.h p = none := Same.free g.hw hp
  ⟨g.f, g.g, g.h.trans (same_upd hh), g.fg, g.gh.trans (same_upd hh), Same.upd g.hw, g.nf, g.ng, fun a h => upd_some (g.w a h), g.w0, g.iv.upd (g.iv.new hp), g.i⟩
/-- reading lists -/
theorem Rq.lst {F H W : Hp} {ds : List Dt} (hf : Same F W) (hh : Same H W) (q : Rq K F H v (.lst ds)) : ∃ a xs, v = .ref a ∧ SqL K W a xs ∧ RpL K F xs ds := by
  rcases q with q | ⟨a, xs, ds', e1, e2, h, r⟩ | ⟨a, kvs, ds', e1, e2, h, r⟩
  · cases q with
    | lst h r => exact ⟨_, _, rfl, hf.seq h, r⟩
  · cases e2; exact ⟨a, xs, e1, hh.seq h, r⟩
  · cases e2
theorem Rq.tup {F H W : Hp} {ds : List Dt} (hf : Same F W) (q : Rq K F H v (.tup ds)) : ∃ a xs, v = .ref a ∧ W a = some (.tup xs) ∧ RpL K F xs ds := by
  rcases q with q | ⟨a, xs, ds', e1, e2, h, r⟩ | ⟨a, kvs, ds', e1, e2, h, r⟩
  · cases q with
    | tup h r => exact ⟨_, _, rfl, hf _ _ h, r⟩
  · cases e2
  · cases e2
theorem Rq.int {F H : Hp} {i : Int} (q : Rq K F H v (.int i)) : v = .int i := by
  rcases q with q | ⟨a, xs, ds', e1, e2, h, r⟩ | ⟨a, kvs, ds', e1, e2, h, r⟩
  · cases q; rfl
  · cases e2
  · cases e2
theorem Rq.str {F H : Hp} {i : Str} (q : Rq K F H v (.str i)) : v = .str i := by
  rcases q with q | ⟨a, xs, ds', e1, e2, h, r⟩ | ⟨a, kvs, ds', e1, e2, h, r⟩
  · cases q; rfl
  · cases e2
  · cases e2
theorem Rq.bl {F H : Hp} {i : Bool} (q : Rq K F H v (.bl i)) : v = .bl i := by
  rcases q with q | ⟨a, xs, ds', e1, e2, h, r⟩ | ⟨a, kvs, ds', e1, e2, h, r⟩
  · cases q; rfl
  · cases e2
  · cases e2
theorem Rq.non {F H : Hp} (q : Rq K F H v .non) : v = .non := by
  rcases q with q | ⟨a, xs, ds', e1, e2, h, r⟩ | ⟨a, kvs, ds', e1, e2, h, r⟩
  · cases q; rfl
  · cases e2
  · cases e2
end

/-! ### judgements -/
abbrev DK := Kd → Dt → Prop
abbrev TEd := DEnv → DK → Prop
abbrev TTd := DEnv → (Bool → Prop) → Prop
abbrev TAd := DEnv → (List (Kd × Dt) → Prop) → Prop
structure VE (X : Cx) (e0 : Hs) (e : Expr) (T : TE) (t : TEd) : Prop where
  pe : PE X e T
  run : ∀ (s : Hs) (σ : St) (ρ : DEnv) (P : DK) (Q : VK), Rep X.K e0 s σ ρ → t ρ P →
    (∀ s' k v x, Grow s s' → RK X.K s.w s' k v x → P k x → Q v s'.w) → T σ s.w Q
structure VT (X : Cx) (e0 : Hs) (e : Expr) (T : TT) (t : TTd) : Prop where
  pe : PT X e T
  run : ∀ (s : Hs) (σ : St) (ρ : DEnv) (P : Bool → Prop) (Q : Bool → Hp → Prop), Rep X.K e0 s σ ρ → t ρ P →
    (∀ s' b, Grow s s' → P b → Q b s'.w) → T σ s.w Q
/-- an argument: frozen, or readable; a tree read; a list with a law -/
inductive ArgsR (K : PySem.W.Frag) (F H : Hp) (i : Addr → Option (List Int → Prop)) : List V → List (Kd × Dt) → Prop
  | nil : ArgsR K F H i [] []
  | fz {v : V} {x : Dt} {vs : List V} {xs : List (Kd × Dt)} : Rp K F v x → ArgsR K F H i vs xs → ArgsR K F H i (v :: vs) ((.fz, x) :: xs)
  | rd {v : V} {x : Dt} {vs : List V} {xs : List (Kd × Dt)} : Rq K F H v x → ArgsR K F H i vs xs → ArgsR K F H i (v :: vs) ((.rd, x) :: xs)
  | rt {v : V} {t : Ot} {vs : List V} {xs : List (Kd × Dt)} : OwT K F H v t → ArgsR K F H i vs xs → ArgsR K F H i (v :: vs) ((.rt t, t.dt) :: xs)
  | iv {a : Addr} {I : List Int → Prop} {vs : List V} {xs : List (Kd × Dt)} : i a = some I → ArgsR K F H i vs xs → ArgsR K F H i (.ref a :: vs) ((.iv I, .lst []) :: xs)
theorem ArgsR.mono {K : PySem.W.Frag} {F F' H H' : Hp} {i i' : Addr → Option (List Int → Prop)} (hf : Same F F') (hh : Same H H') (hi : ∀ a I, i a = some I → i' a = some I) : ∀ {vs : List V} {xs : List (Kd × Dt)}, ArgsR K F H i vs xs → ArgsR K F' H' i' vs xs
  | _, _, .nil => .nil
  | _, _, .fz r t => .fz (r.mono hf) (t.mono hf hh hi)
  | _, _, .rd r t => .rd (r.mono hf hh) (t.mono hf hh hi)
  | _, _, .rt r t => .rt (r.mono hf hh) (t.mono hf hh hi)
  | _, _, .iv r t => .iv (hi _ _ r) (t.mono hf hh hi)
structure VA (X : Cx) (e0 : Hs) (es : List Expr) (T : TA) (t : TAd) : Prop where
  pe : PA X es T
  run : ∀ (s : Hs) (σ : St) (ρ : DEnv) (P : List (Kd × Dt) → Prop) (Q : List V → Hp → Prop), Rep X.K e0 s σ ρ → t ρ P →
    (∀ s' vs xs, Grow s s' → ArgsR X.K s'.f s'.h s'.i vs xs → xs.length = es.length → P xs → Q vs s'.w) → T σ s.w Q
/-- an exception in flight: its class, its dict (frozen) -/
def RX (K : PySem.W.Frag) (s : Hs) (cls : Value) (d : Option Addr) (x : Dt) : Prop := ∃ (C : Addr) (fs : List (Str × Dt)), cls = .ref C ∧ x = .exc C fs ∧
  match d with
  | none => fs = []
  | some a => ∃ vs, s.f a = some (.xd vs) ∧ RpF K s.f vs fs
theorem RX.mono {K : PySem.W.Frag} {s s' : Hs} {cls : Value} {d : Option Addr} {x : Dt} (h : Same s.f s'.f) (r : RX K s cls d x) : RX K s' cls d x := by
  obtain ⟨C, fs, e1, e2, r⟩ := r
  refine ⟨C, fs, e1, e2, ?_⟩
  cases d with
  | none => exact r
  | some a =>
    obtain ⟨vs, h1, h2⟩ := r
    exact ⟨vs, h _ _ h1, h2.mono h⟩
/-- the places of a fresh answer -/
def rfp : Kd → V → List Addr
  | .ft t, _ => t.fp
  | .fr, .ref l => [l]
  | _, _ => []
theorem RK.rfp {K : PySem.W.Frag} {B : Hp} {s : Hs} {k : Kd} {v : V} {x : Dt} (r : RK K B s k v x) : ∀ a ∈ Tq.rfp k v, B a = none := fun a ha => by
  cases k with
  | ft t => exact r.2.1 a ha
  | fr =>
    obtain ⟨l, rfl, b, _⟩ := r
    rw [List.mem_singleton.mp ha]; exact b
  | _ => cases ha
structure EndsD where
  nx : DEnv → Prop
  rt : DK
  bk : DEnv → Prop := fun _ => False
  ct : DEnv → Prop := fun _ => False
  rtm : DEnv → DK := fun _ => rt
  ex : DEnv → Dt → Prop := fun _ _ => False
abbrev TSd := EndsD → DEnv → Prop
structure Lk (K : PySem.W.Frag) (e0 s : Hs) (W : WX) (D : Ends) (D' : EndsD) : Prop where
  nx : ∀ s' σ ρ, Rep K e0 s' σ ρ → Ext s s' → D'.nx ρ → D.nx σ s'.w
  rt : ∀ s' σ ρ k v x, Rep K e0 s' σ ρ → Ext s s' → RK K e0.w s' k v x → (∀ a ∈ rfp k v, ∀ (j : Nat) (t : Ot) (y : Dt), ρ[j]? = some (Sl.v (.mt t) y) → a ∉ t.fp) → D'.rtm ρ k x → D.rt v s'.w
  bk : ∀ s' σ ρ, Rep K e0 s' σ ρ → Ext s s' → D'.bk ρ → D.bk σ s'.w
  ct : ∀ s' σ ρ, Rep K e0 s' σ ρ → Ext s s' → D'.ct ρ → D.ct σ s'.w
  ex : ∀ s' σ ρ cls d x, Rep K e0 s' σ ρ → Ext s s' → RX K s' cls d x → D'.ex ρ x → W cls d σ s'.w
structure VS (X : Cx) (e0 : Hs) (W : WX) (st : Stmt) (t : TSd) : Prop where
  run : ∃ T : TS, PS X st T ∧ ∀ (s : Hs) (σ : St) (ρ : DEnv) (D : Ends) (D' : EndsD), Rep X.K e0 s σ ρ → t D' ρ → Lk X.K e0 s W D D' → T D σ s.w
structure VSs (X : Cx) (e0 : Hs) (W : WX) (st : List Stmt) (t : TSd) : Prop where
  run : ∃ T : TS, PSs X st T ∧ ∀ (s : Hs) (σ : St) (ρ : DEnv) (D : Ends) (D' : EndsD), Rep X.K e0 s σ ρ → t D' ρ → Lk X.K e0 s W D D' → T D σ s.w
theorem Lk.ext {K : PySem.W.Frag} {e0 s s1 : Hs} {W : WX} {D : Ends} {D' : EndsD} (l : Lk K e0 s W D D') (x : Ext s s1) : Lk K e0 s1 W D D' :=
  ⟨fun s' σ ρ r y => l.nx s' σ ρ r (x.trans y), fun s' σ ρ k v z r y => l.rt s' σ ρ k v z r (x.trans y), fun s' σ ρ r y => l.bk s' σ ρ r (x.trans y), fun s' σ ρ r y => l.ct s' σ ρ r (x.trans y), fun s' σ ρ c d z r y => l.ex s' σ ρ c d z r (x.trans y)⟩

section
variable {X : Cx} {e0 : Hs} {pos : Pos}
/-! ### expressions -/
/-- what a slot's kind is read as -/
def Kd.rdk : Kd → Kd
  | .ow _ => .rd
  | .tr t => .rt t
  | .mt t => .rt t
  | k => k
def rdV (o : Option Sl) (P : DK) : Prop := match o with
  | some (.v k x) => P k.rdk x
  | _ => False
def eVar (i : Nat) : TEd := fun ρ P => rdV ρ[i]? P
theorem ve_var (i : Nat) {x : Str} (h : PE X (.Name x pos) (tVar i)) : VE X e0 (.Name x pos) (tVar i) (eVar i) := by
  refine ⟨h, fun s σ ρ P Q r t k => ?_⟩
  unfold eVar rdV at t
  cases q : ρ[i]? with
  | none => rw [q] at t; exact t.elim
  | some sl =>
    rw [q] at t
    cases sl with
    | no => exact t.elim
    | v kd y =>
      obtain ⟨v, h1, h2, h3⟩ := r.sl i kd y q
      refine ⟨v, h1, ?_⟩
      cases kd with
      | fz => exact k s .fz v y (Grow.refl r.rh) h2 t
      | vw => exact k s .vw v y (Grow.refl r.rh) h2 t
      | ow l => exact k s .rd v y (Grow.refl r.rh) (h2.rq r.rh rfl) t
      | tr t' => exact k s (.rt t') v y (Grow.refl r.rh) ⟨h2.1, h2.2.2.2.2⟩ t
      | mt t' => exact k s (.rt t') v y (Grow.refl r.rh) ⟨h2.1, h2.2.2.2⟩ t
      | vt t' => exact k s (.vt t') v y (Grow.refl r.rh) h2 t
      | iv I => exact k s (.iv I) v y (Grow.refl r.rh) h2 t
      | _ => cases h3
def eC (x : Dt) : TEd := fun _ P => P .fz x
theorem ve_const {e : Expr} {v : V} {x : Dt} (h : PE X e (tC v)) (r : ∀ F, Rp X.K F v x) : VE X e0 e (tC v) (eC x) :=
  ⟨h, fun s σ ρ P Q rp t k => k s .fz v x (Grow.refl rp.rh) (r _) t⟩
theorem ve_int {i j} : VE X e0 (.Constant (.int i) j pos) (tC (.int i)) (eC (.int i)) := ve_const pe_int fun _ => .int _
theorem ve_bl {b j} : VE X e0 (.Constant (.bool b) j pos) (tC (.bl b)) (eC (.bl b)) := ve_const pe_bl fun _ => .bl _
theorem ve_non {j} : VE X e0 (.Constant .none j pos) (tC .non) (eC .non) := ve_const pe_non fun _ => .non
theorem ve_str {x j} : VE X e0 (.Constant (.str x) j pos) (tC (.str x)) (eC (.str x)) := ve_const pe_str fun _ => .str _

/-- a binary operation by data -/
abbrev R2d := Dt → Dt → DK → Prop
structure VOp (X : Cx) (f : Value → Value → Sem Value) (R : R2) (d : R2d) : Prop where
  pe : OpR X f R
  run : ∀ (s : Hs) (v u : V) (x y : Dt) (P : DK) (Q : VK), Grow s s → Rq X.K s.f s.h v x → Rq X.K s.f s.h u y → d x y P →
    (∀ s' k w z, Grow s s' → RK X.K s.w s' k w z → P k z → Q w s'.w) → R v u s.w Q
def eOp (d : R2d) (ta tb : TEd) : TEd := fun ρ P => ta ρ fun k x => tb ρ fun k' y => k.lf = true ∧ k'.lf = true ∧ d x y P
theorem Rep.self {s : Hs} {σ : St} {ρ : DEnv} (r : Rep X.K e0 s σ ρ) : Grow s s := Grow.refl r.rh
theorem none_of_same {H H' : Hp} (e : Same H H') {a : Addr} (h : H' a = none) : H a = none := Same.free e h
theorem Grow.nw {s s' : Hs} (g : Grow s s') {a : Addr} (h : s'.w a = none) : s.w a = none := by
  cases q : s.w a with
  | none => rfl
  | some o => exact absurd h (g.w a (ne_none q))
theorem RK.isbl {K : PySem.W.Frag} {B : Hp} {s : Hs} {k : Kd} {v : V} {b : Bool} (q : RK K B s k v (.bl b)) : v = .bl b := by
  have ht : ∀ {t : Ot} {H : Hp}, Dt.bl b = t.dt → OwT K s.f H v t → v = .bl b := fun {t H} e r => by
    cases r with
    | pt r => subst e; cases r; rfl
    | lst h r => cases e
    | dct h r => cases e
    | obj h r => cases e
  cases k with
  | fz => cases q; rfl
  | vw => exact Rq.bl q
  | rd => exact Rq.bl q
  | fr =>
    obtain ⟨l, e1, b, n, c⟩ := q
    rcases c with ⟨_, _, e, _⟩ | ⟨_, _, e, _⟩ <;> cases e
  | ow l =>
    obtain ⟨e1, b, n, c⟩ := q
    rcases c with ⟨_, _, e, _⟩ | ⟨_, _, e, _⟩ <;> cases e
  | tr t => exact ht q.1 q.2.2.2.2
  | ft t => exact ht q.1 q.2.2.2.2
  | mt t => exact ht q.1 q.2.2.2
  | vt t => exact ht q.1 q.2
  | rt t => exact ht q.1 q.2
  | iv I => obtain ⟨_, _, _, e⟩ := q; cases e
theorem RK.isint {K : PySem.W.Frag} {B : Hp} {s : Hs} {k : Kd} {v : V} {b : Int} (q : RK K B s k v (.int b)) : v = .int b := by
  have ht : ∀ {t : Ot} {H : Hp}, Dt.int b = t.dt → OwT K s.f H v t → v = .int b := fun {t H} e r => by
    cases r with
    | pt r => subst e; cases r; rfl
    | lst h r => cases e
    | dct h r => cases e
    | obj h r => cases e
  cases k with
  | fz => cases q; rfl
  | vw => exact Rq.int q
  | rd => exact Rq.int q
  | fr =>
    obtain ⟨l, e1, b, n, c⟩ := q
    rcases c with ⟨_, _, e, _⟩ | ⟨_, _, e, _⟩ <;> cases e
  | ow l =>
    obtain ⟨e1, b, n, c⟩ := q
    rcases c with ⟨_, _, e, _⟩ | ⟨_, _, e, _⟩ <;> cases e
  | tr t => exact ht q.1 q.2.2.2.2
  | ft t => exact ht q.1 q.2.2.2.2
  | mt t => exact ht q.1 q.2.2.2
  | vt t => exact ht q.1 q.2
  | rt t => exact ht q.1 q.2
  | iv I => obtain ⟨_, _, _, e⟩ := q; cases e
theorem RK.isstr {K : PySem.W.Frag} {B : Hp} {s : Hs} {k : Kd} {v : V} {b : Str} (q : RK K B s k v (.str b)) : v = .str b := by
  have ht : ∀ {t : Ot} {H : Hp}, Dt.str b = t.dt → OwT K s.f H v t → v = .str b := fun {t H} e r => by
    cases r with
    | pt r => subst e; cases r; rfl
    | lst h r => cases e
    | dct h r => cases e
    | obj h r => cases e
  cases k with
  | fz => cases q; rfl
  | vw => exact Rq.str q
  | rd => exact Rq.str q
  | fr =>
    obtain ⟨l, e1, b, n, c⟩ := q
    rcases c with ⟨_, _, e, _⟩ | ⟨_, _, e, _⟩ <;> cases e
  | ow l =>
    obtain ⟨e1, b, n, c⟩ := q
    rcases c with ⟨_, _, e, _⟩ | ⟨_, _, e, _⟩ <;> cases e
  | tr t => exact ht q.1 q.2.2.2.2
  | ft t => exact ht q.1 q.2.2.2.2
  | mt t => exact ht q.1 q.2.2.2
  | vt t => exact ht q.1 q.2
  | rt t => exact ht q.1 q.2
  | iv I => obtain ⟨_, _, _, e⟩ := q; cases e
variable {a b : Expr} {d : R2d} {R : R2} {Ta Tb : TE} {ta tb : TEd}
theorem op_core {f : Value → Value → Sem Value} (ho : VOp X f R d) (ha : VE X e0 a Ta ta) (hb : VE X e0 b Tb tb) :
    ∀ (s : Hs) (σ : St) (ρ : DEnv) (P : DK) (Q : VK), Rep X.K e0 s σ ρ → eOp d ta tb ρ P →
      (∀ s' k v x, Grow s s' → RK X.K s.w s' k v x → P k x → Q v s'.w) → tOp R Ta Tb σ s.w Q := by
  intro s σ ρ P Q rp t k
  refine ha.run s σ ρ _ _ rp t fun s1 k1 v1 x1 g1 r1 t1 => ?_
  have rp1 := rp.grow g1
  refine hb.run s1 σ ρ _ _ rp1 t1 fun s2 k2 v2 x2 g2 r2 t2 => ?_
  have rp2 := rp1.grow g2
  obtain ⟨hk1, hk2, t2⟩ := t2
  refine ho.run s2 v1 v2 x1 x2 P Q rp2.self ((r1.rq rp1.rh hk1).mono g2.f g2.h) (r2.rq rp2.rh hk2) t2 fun s3 k3 v3 x3 g3 r3 t3 => ?_
  have g := (g1.trans g2)
  exact k s3 k3 v3 x3 (g.trans g3) (r3.base fun a h => g.nw h) t3
theorem ve_op {op : Operator} (ho : VOp X (binaryOp op) R d) (ha : VE X e0 a Ta ta) (hb : VE X e0 b Tb tb) : VE X e0 (.BinOp a op b pos) (tOp R Ta Tb) (eOp d ta tb) :=
  ⟨pe_op ho.pe ha.pe hb.pe, op_core ho ha hb⟩
theorem ve_cmp {op : CmpOp} (ho : VOp X (compareOp op) R d) (ha : VE X e0 a Ta ta) (hb : VE X e0 b Tb tb) (hm : behindInMarks op b = false) : VE X e0 (.Compare a [op] [b] pos) (tOp R Ta Tb) (eOp d ta tb) :=
  ⟨pe_cmpR ho.pe ha.pe hb.pe hm, op_core ho ha hb⟩
/-- a test: a value that is a bool -/
def dB (x : Dt) (P : Bool → Prop) : Prop := match x with
  | .bl b => P b
  | _ => False
def tB' (t : TEd) : TTd := fun ρ P => t ρ fun _ x => dB x P
theorem tst_core {T : TE} {t : TEd} (h : ∀ (s : Hs) (σ : St) (ρ : DEnv) (P : DK) (Q : VK), Rep X.K e0 s σ ρ → t ρ P → (∀ s' k v x, Grow s s' → RK X.K s.w s' k v x → P k x → Q v s'.w) → T σ s.w Q) :
    ∀ (s : Hs) (σ : St) (ρ : DEnv) (P : Bool → Prop) (Q : Bool → Hp → Prop), Rep X.K e0 s σ ρ → tB' t ρ P → (∀ s' b, Grow s s' → P b → Q b s'.w) → T σ s.w (fun x H' => ∃ k, x = .bl k ∧ Q k H') := by
  intro s σ ρ P Q rp t k
  refine h s σ ρ _ _ rp t fun s1 k1 v1 x1 g1 r1 t1 => ?_
  cases x1 with
  | bl b =>
    exact ⟨b, r1.isbl, k s1 b g1 t1⟩
  | _ => exact t1.elim
theorem vt_cmp {op : CmpOp} (ho : VOp X (compareOp op) R d) (ha : VE X e0 a Ta ta) (hb : VE X e0 b Tb tb) (hm : behindInMarks op b = false) : VT X e0 (.Compare a [op] [b] pos) (tTest (tOp R Ta Tb)) (tB' (eOp d ta tb)) :=
  ⟨pt_cmpR ho.pe ha.pe hb.pe hm, tst_core (op_core ho ha hb)⟩
theorem vt_val {e : Expr} {T : TE} {t : TEd} (h : VE X e0 e T t) (he : ∀ whole, isTrue e X.env whole = (do let v ← whole; standAt e.pos; holding [v] (truthy v)) := by intro _; rfl) : VT X e0 e (tB T) (tB' t) :=
  ⟨pt_val h.pe he, tst_core h.run⟩
end
end Tq
set_option Elab.async false
set_option linter.all false
set_option autoImplicit false
set_option maxRecDepth 100000
set_option maxHeartbeats 4000000
namespace Tq
open PySem PySem.Spec L2
open PyProof.Rows hiding St

/-! ### as the library's data, for == -/
mutual
def Dt.py : Dt → PyData
  | .non => .none
  | .bl b => .bool b
  | .int i => .int i
  | .str x => .str x
  | .tup ds => .tuple (Dt.pys ds)
  | .lst ds => .list (Dt.pys ds)
  | .dct _ => .dict []
  | .obj _ _ => .dict []
  | .exc _ _ => .dict []
def Dt.pys : List Dt → List PyData
  | [] => []
  | d :: ds => d.py :: Dt.pys ds
end
section
variable {K : PySem.W.Frag} {F H : Hp}
mutual
theorem Rp.dp (hs : Same F H) : ∀ {v : V} {x : Dt}, Rp K F v x → x.py.canLay0 = true → Dp K H v x.py
  | _, _, .non, _ => .non
  | _, _, .bl b, _ => .bl b
  | _, _, .int i, _ => .int i
  | _, _, .str x, _ => .str x
  | _, _, .tup h r, c => .tup (.inl (.inl (hs _ _ h))) (RpL.dp hs r c)
  | _, _, .lst h r, c => .lst (hs.seq h) (RpL.dp hs r c)
  | _, _, .dct h r, c => nomatch c
  | _, _, .obj h r, c => nomatch c
  | _, _, .exc0 h, c => nomatch c
  | _, _, .exc1 h h' r, c => nomatch c
theorem RpL.dp (hs : Same F H) : ∀ {vs : List V} {xs : List Dt}, RpL K F vs xs → PyData.canLayAll0 (Dt.pys xs) = true → DpAll K H vs (Dt.pys xs)
  | _, _, .nil, _ => .nil
  | _, _, .cons r t, c => .cons (Rp.dp hs r (Bool.and_eq_true_iff.mp c).1) (RpL.dp hs t (Bool.and_eq_true_iff.mp c).2)
end
theorem Rq.dp {W : Hp} (hs : Same F W) (hh : Same H W) {v : V} {x : Dt} (q : Rq K F H v x) (c : x.py.canLay0 = true) : Dp K W v x.py := by
  rcases q with q | ⟨a, xs, ds, e1, e2, h, r⟩ | ⟨a, kvs, ds, e1, e2, h, r⟩
  · exact q.dp hs c
  · subst e1; subst e2
    exact .lst (hh.seq h) (r.dp hs c)
  · subst e2
    exact nomatch c
end

/-! ### operations by data -/
section
variable {X : Cx}
def dI0 (g : Int → Int → Dt) : R2d := fun x y P => match x, y with
  | .int i, .int j => P .fz (g i j)
  | _, _ => False
def dI (C : Int → Int → Prop) (g : Int → Int → Dt) : R2d := fun x y P => match x, y with
  | .int i, .int j => C i j ∧ P .fz (g i j)
  | _, _ => False
theorem vop_i0 {f : Value → Value → Sem Value} {g : Int → Int → V} {g' : Int → Int → Dt} (h : OpR X f (rI0 g)) (hg : ∀ i j F, Rp X.K F (g i j) (g' i j)) : VOp X f (rI0 g) (dI0 g') := by
  refine ⟨h, fun s v u x y P Q gr q1 q2 d k => ?_⟩
  cases x <;> first | exact d.elim | skip
  cases y <;> first | exact d.elim | skip
  exact ⟨_, _, q1.int, q2.int, k s .fz _ _ gr (hg _ _ _) d⟩
theorem vop_i {f : Value → Value → Sem Value} {C : Int → Int → Prop} {g : Int → Int → V} {g' : Int → Int → Dt} (h : OpR X f (rI C g)) (hg : ∀ i j F, Rp X.K F (g i j) (g' i j)) : VOp X f (rI C g) (dI C g') := by
  refine ⟨h, fun s v u x y P Q gr q1 q2 d k => ?_⟩
  cases x <;> first | exact d.elim | skip
  cases y <;> first | exact d.elim | skip
  exact ⟨_, _, q1.int, q2.int, d.1, k s .fz _ _ gr (hg _ _ _) d.2⟩
abbrev dSub : R2d := dI0 fun i j => .int (i - j)
abbrev dAnd : R2d := dI0 fun i j => .int (Builtin.bitAnd i j)
abbrev dOr : R2d := dI0 fun i j => .int (Builtin.bitOr i j)
abbrev dXor : R2d := dI0 fun i j => .int (Builtin.bitXor i j)
abbrev dLt : R2d := dI0 fun i j => .bl (decide (i < j))
abbrev dLe : R2d := dI0 fun i j => .bl (decide (i ≤ j))
abbrev dGt : R2d := dI0 fun i j => .bl (decide (j < i))
abbrev dGe : R2d := dI0 fun i j => .bl (decide (j ≤ i))
abbrev dMod : R2d := dI (fun _ j => 0 < j) fun i j => .int (i % j)
abbrev dFdiv : R2d := dI CDiv fun i j => .int (i / j)
abbrev dPow : R2d := dI CPow fun i j => .int (i ^ j.toNat)
abbrev dShl : R2d := dI CPow fun i j => .int (i * 2 ^ j.toNat)
abbrev dShr : R2d := dI (fun _ j => 0 ≤ j) fun i j => .int (i / 2 ^ j.toNat)
theorem vo_sub : VOp X (binaryOp .Sub) (rI0 fun i j => .int (i - j)) dSub := vop_i0 op_sub fun _ _ _ => .int _
theorem vo_and : VOp X (binaryOp .BitAnd) (rI0 fun i j => .int (Builtin.bitAnd i j)) dAnd := vop_i0 op_and fun _ _ _ => .int _
theorem vo_or : VOp X (binaryOp .BitOr) (rI0 fun i j => .int (Builtin.bitOr i j)) dOr := vop_i0 op_or fun _ _ _ => .int _
theorem vo_xor : VOp X (binaryOp .BitXor) (rI0 fun i j => .int (Builtin.bitXor i j)) dXor := vop_i0 op_xor fun _ _ _ => .int _
theorem vo_lt : VOp X (compareOp .Lt) (rI0 fun i j => .bl (decide (i < j))) dLt := vop_i0 op_lt fun _ _ _ => .bl _
theorem vo_le : VOp X (compareOp .LtE) (rI0 fun i j => .bl (decide (i ≤ j))) dLe := vop_i0 op_le fun _ _ _ => .bl _
theorem vo_gt : VOp X (compareOp .Gt) (rI0 fun i j => .bl (decide (j < i))) dGt := vop_i0 op_gt fun _ _ _ => .bl _
theorem vo_ge : VOp X (compareOp .GtE) (rI0 fun i j => .bl (decide (j ≤ i))) dGe := vop_i0 op_ge fun _ _ _ => .bl _
theorem vo_mod : VOp X (binaryOp .Mod) (rI (fun _ j => 0 < j) fun i j => .int (i % j)) dMod := vop_i op_mod fun _ _ _ => .int _
theorem vo_fdiv : VOp X (binaryOp .FloorDiv) (rI CDiv fun i j => .int (i / j)) dFdiv := vop_i op_fdiv fun _ _ _ => .int _
theorem vo_pow : VOp X (binaryOp .Pow) (rI CPow fun i j => .int (i ^ j.toNat)) dPow := vop_i op_pow fun _ _ _ => .int _
theorem vo_shl : VOp X (binaryOp .LShift) (rI CPow fun i j => .int (i * 2 ^ j.toNat)) dShl := vop_i op_shl fun _ _ _ => .int _
theorem vo_shr : VOp X (binaryOp .RShift) (rI (fun _ j => 0 ≤ j) fun i j => .int (i / 2 ^ j.toNat)) dShr := vop_i op_shr fun _ _ _ => .int _
/-- a list and a list, whatever stands by them -/
def rCatS (K : PySem.W.Frag) : R2 := fun x y H Q => ∃ l b xs zs, x = .ref l ∧ y = .ref b ∧ SqL K H l xs ∧ SqL K H b zs ∧ xs.length + zs.length ≤ sizeLine ∧ ∀ p, H p = none → Q (.ref p) (upd H p (.lst (xs ++ zs)))
theorem op_catS : OpR X (binaryOp .Add) (rCatS X.K) := by
  intro pins s σ H x y v u Q I rx ry h
  obtain ⟨l, b, xs, zs, rfl, rfl, hH, hB, hz, q⟩ := h
  cases rx
  cases ry
  obtain ⟨its, r, ⟨⟨c1, d1, t1, sl1⟩, n, e, ec, ed, et⟩, z⟩ := I.list hH
  obtain ⟨its2, r2, ⟨⟨c2, d2, t2, sl2⟩, n2, e2, ec2, ed2, et2⟩, z2⟩ := I.list hB
  simp only at ec ed et ec2 ed2 et2
  subst ec ed et ec2 ed2 et2
  have hl := r.length
  have hl2 := r2.length
  refine concat_meets ⟨_, e, rfl⟩ ⟨_, e2, rfl⟩ noFill_list_add seq_list_add PySem.F.slot_list_add PySem.F.entry_list_add (PySem.F.args_list_add_2 _ _) (PyProof.Rows.list_addW l b its.toArray its2.toArray n n2 none none sl1 sl2 (by simpa [← hl, ← hl2] using hz)) ⟨e, e2, ?_⟩
  have ea : its.toArray ++ its2.toArray = (its ++ its2).toArray := by simp
  rw [ea]
  exact ⟨.ref _, _, I.lnew (t' := s.toks) (r.append r2) (by rw [List.length_append]; omega), rfl, q _ I.fresh⟩
theorem VOp.or {f : Value → Value → Sem Value} {R R' : R2} {d d' : R2d} (h : VOp X f R d) (h' : VOp X f R' d') : VOp X f (fun x y H Q => R x y H Q ∨ R' x y H Q) (fun x y P => d x y P ∨ d' x y P) := by
  obtain ⟨hR, r⟩ := h
  obtain ⟨hR', r'⟩ := h'
  exact ⟨hR.or hR', fun s v u x y P Q gr q1 q2 d k => d.elim (fun d => .inl (r s v u x y P Q gr q1 q2 d k)) fun d => .inr (r' s v u x y P Q gr q1 q2 d k)⟩
theorem VOp.imp {f : Value → Value → Sem Value} {R : R2} {d d' : R2d} (h : VOp X f R d) (i : ∀ x y P, d' x y P → d x y P) : VOp X f R d' := by
  obtain ⟨hR, r⟩ := h
  exact ⟨hR, fun s v u x y P Q gr q1 q2 d k => r s v u x y P Q gr q1 q2 (i _ _ _ d) k⟩
def dCat : R2d := fun x y P => match x, y with
  | .lst a, .lst b => a.length + b.length ≤ 16777216 ∧ P .fr (.lst (a ++ b))
  | _, _ => False
theorem fresh_new {K : PySem.W.Frag} {s0 s : Hs} {v : V} {p : Addr} {xs : List V} {ds : List Dt} (gr : Grow s0 s) (hp : s.w p = none) (r : RpL K s.f xs ds) (hv : v = .ref p) :
    Grow s0 (s.new p (.lst xs)) ∧ RK K s0.w (s.new p (.lst xs)) .fr v (.lst ds) :=
  ⟨gr.new hp, p, hv, gr.nw hp, Same.free gr.gh (Same.free gr.hw hp), .inl ⟨xs, ds, rfl, upd_same, r⟩⟩
theorem vo_cat : VOp X (binaryOp .Add) (rCatS X.K) dCat := by
  refine ⟨op_catS, fun s v u x y P Q gr q1 q2 d k => ?_⟩
  cases x <;> first | exact d.elim | skip
  cases y <;> first | exact d.elim | skip
  obtain ⟨dl, d⟩ := d
  obtain ⟨a, xs, rfl, h1, r1⟩ := Rq.lst gr.fw gr.hw q1
  obtain ⟨b, ys, rfl, h2, r2⟩ := Rq.lst gr.fw gr.hw q2
  refine ⟨a, b, xs, ys, rfl, rfl, h1, h2, by rw [r1.length, r2.length, sizeLine_eq]; exact dl, fun p hp => ?_⟩
  obtain ⟨g, r⟩ := fresh_new gr hp (r1.app r2) rfl
  exact k _ .fr _ _ g r d
def dStr2 (f : Str → Str → Dt) (C : Str → Str → Prop) : R2d := fun x y P => match x, y with
  | .str a, .str b => C a b ∧ P .fz (f a b)
  | _, _ => False
def rAddS : R2 := fun x y H Q => ∃ i j, x = .str i ∧ y = .str j ∧ i.length + j.length ≤ sizeLine ∧ Q (.str (i ++ j)) H
theorem vo_adds : VOp X (binaryOp .Add) rAddS (dStr2 (fun a b => .str (a ++ b)) fun a b => a.length + b.length ≤ 16777216) := by
  refine ⟨op_add_str, fun s v u x y P Q gr q1 q2 d k => ?_⟩
  cases x <;> first | exact d.elim | skip
  cases y <;> first | exact d.elim | skip
  obtain ⟨dl, d⟩ := d
  exact ⟨_, _, q1.str, q2.str, by rw [sizeLine_eq]; exact dl, k s .fz _ _ gr (.str _) d⟩
def dAdd : R2d := fun x y P => match x, y with
  | .int i, .int j => P .fz (.int (i + j))
  | .str a, .str b => a.length + b.length ≤ 16777216 ∧ P .fz (.str (a ++ b))
  | .lst a, .lst b => a.length + b.length ≤ 16777216 ∧ P .fr (.lst (a ++ b))
  | _, _ => False
def rAddD (K : PySem.W.Frag) : R2 := fun x y H Q => rI0 (fun i j => .int (i + j)) x y H Q ∨ rAddS x y H Q ∨ rCatS K x y H Q
theorem vo_add : VOp X (binaryOp .Add) (rAddD X.K) dAdd := by
  refine VOp.imp ((vop_i0 (g' := fun i j => .int (i + j)) op_add fun _ _ _ => .int _).or (vo_adds.or vo_cat)) fun x y P d => ?_
  cases x <;> cases y <;> first | exact d.elim | skip
  · exact .inl d
  · exact .inr (.inl d)
  · exact .inr (.inr d)
def dRep : R2d := fun x y P => match x, y with
  | .lst a, .int k => -(2 ^ 63) ≤ k ∧ k < 2 ^ 63 ∧ a.length * k.toNat ≤ 16777216 ∧ P .fr (.lst (List.replicate k.toNat a).flatten)
  | _, _ => False
/-- products: one side small -/
def dMul : R2d := fun x y P => match x, y with
  | .int i, .int j => CMul i j ∧ P .fz (.int (i * j))
  | _, _ => False
theorem vo_mul : VOp X (binaryOp .Mult) (rI CMul fun i j => .int (i * j)) dMul := VOp.imp (vop_i (g' := fun i j => .int (i * j)) op_mul fun _ _ _ => .int _) fun x y P d => by
  cases x <;> cases y <;> first | exact d.elim | exact d
/-! ### == -/
def dEqG (n : Bool) : R2d := fun x y P => SeqAt.shaped x.py = true ∧ SeqAt.shaped y.py = true ∧ P .fz (.bl (PyData.eqv x.py y.py != n))
theorem eqS {i j : Int} : PyData.eqv (.int i) (.int j) = decide (i = j) := by
  show (i == j) = decide (i = j)
  by_cases e : i = j
  · subst e; simp
  · simp [e]
theorem vo_eqG (hu : X.A.units + 64 < cLine) : VOp X (compareOp .Eq) (rEqD X.K) (dEqG false) := by
  refine ⟨op_eqD hu, fun s v u x y P Q gr q1 q2 d k => ?_⟩
  obtain ⟨d1, d2, d⟩ := d
  refine ⟨x.py, y.py, q1.dp gr.fw gr.hw (SeqAt.canLay_of_shaped d1), q2.dp gr.fw gr.hw (SeqAt.canLay_of_shaped d2), d1, d2, k s .fz _ _ gr (.bl _) ?_⟩
  rw [Bool.bne_false] at d
  exact d
theorem vo_neG (hu : X.A.units + 64 < cLine) : VOp X (compareOp .NotEq) (rNeD X.K) (dEqG true) := by
  refine ⟨op_neD hu, fun s v u x y P Q gr q1 q2 d k => ?_⟩
  obtain ⟨d1, d2, d⟩ := d
  refine ⟨x.py, y.py, q1.dp gr.fw gr.hw (SeqAt.canLay_of_shaped d1), q2.dp gr.fw gr.hw (SeqAt.canLay_of_shaped d2), d1, d2, k s .fz _ _ gr (.bl _) ?_⟩
  rw [Bool.bne_true] at d
  exact d
def dEq : R2d := fun x y P => match x, y with
  | .int i, .int j => P .fz (.bl (decide (i = j)))
  | .bl i, .bl j => P .fz (.bl (decide (i = j)))
  | .str i, .str j => P .fz (.bl (decide (i = j)))
  | x, y => dEqG false x y P
def dNe : R2d := fun x y P => match x, y with
  | .int i, .int j => P .fz (.bl (!decide (i = j)))
  | .bl i, .bl j => P .fz (.bl (!decide (i = j)))
  | .str i, .str j => P .fz (.bl (!decide (i = j)))
  | x, y => dEqG true x y P
def dEqS : R2d := fun x y P => match x, y with
  | .int i, .int j => P .fz (.bl (decide (i = j)))
  | .bl i, .bl j => P .fz (.bl (decide (i = j)))
  | .str i, .str j => P .fz (.bl (decide (i = j)))
  | _, _ => False
def dNeS : R2d := fun x y P => match x, y with
  | .int i, .int j => P .fz (.bl (!decide (i = j)))
  | .bl i, .bl j => P .fz (.bl (!decide (i = j)))
  | .str i, .str j => P .fz (.bl (!decide (i = j)))
  | _, _ => False
theorem deq_int {i j : Int} : decide (V.int i = V.int j) = decide (i = j) := by simp
theorem deq_bl {i j : Bool} : decide (V.bl i = V.bl j) = decide (i = j) := by simp
theorem deq_str {i j : Str} : decide (V.str i = V.str j) = decide (i = j) := by simp
theorem vo_eqS : VOp X (compareOp .Eq) rEq dEqS := by
  refine ⟨op_eq, fun s v u x y P Q gr q1 q2 d k => ?_⟩
  cases x <;> cases y <;> first | exact d.elim | skip
  · cases q1.bl; cases q2.bl
    exact ⟨rfl, by rw [deq_bl]; exact k s .fz _ _ gr (.bl _) d⟩
  · cases q1.int; cases q2.int
    exact ⟨rfl, by rw [deq_int]; exact k s .fz _ _ gr (.bl _) d⟩
  · cases q1.str; cases q2.str
    exact ⟨rfl, by rw [deq_str]; exact k s .fz _ _ gr (.bl _) d⟩
theorem vo_neS : VOp X (compareOp .NotEq) rNe dNeS := by
  refine ⟨op_ne, fun s v u x y P Q gr q1 q2 d k => ?_⟩
  cases x <;> cases y <;> first | exact d.elim | skip
  · cases q1.bl; cases q2.bl
    exact ⟨rfl, by rw [deq_bl]; exact k s .fz _ _ gr (.bl _) d⟩
  · cases q1.int; cases q2.int
    exact ⟨rfl, by rw [deq_int]; exact k s .fz _ _ gr (.bl _) d⟩
  · cases q1.str; cases q2.str
    exact ⟨rfl, by rw [deq_str]; exact k s .fz _ _ gr (.bl _) d⟩
theorem vo_eq (hu : X.A.units + 64 < cLine) : VOp X (compareOp .Eq) (fun x y H Q => rEq x y H Q ∨ rEqD X.K x y H Q) dEq := by
  refine VOp.imp (vo_eqS.or (vo_eqG hu)) fun x y P d => ?_
  cases x <;> cases y <;> first | exact .inl d | exact .inr d
theorem vo_ne (hu : X.A.units + 64 < cLine) : VOp X (compareOp .NotEq) (fun x y H Q => rNe x y H Q ∨ rNeD X.K x y H Q) dNe := by
  refine VOp.imp (vo_neS.or (vo_neG hu)) fun x y P d => ?_
  cases x <;> cases y <;> first | exact .inl d | exact .inr d
/-! ### is None -/
def Dt.isNon : Dt → Bool
  | .non => true
  | _ => false
theorem isNon_eq {K : PySem.W.Frag} {F H : Hp} {v : V} {x : Dt} (q : Rq K F H v x) : decide (v = .non) = x.isNon := by
  rcases q with q | ⟨a, xs, ds, e1, e2, h, r⟩ | ⟨a, kvs, ds, e1, e2, h, r⟩
  · cases q <;> rfl
  · subst e1; subst e2; rfl
  · subst e1; subst e2; rfl
def dIs : R2d := fun x y P => match y with
  | .non => P .fz (.bl x.isNon)
  | _ => False
def dIsNot : R2d := fun x y P => match y with
  | .non => P .fz (.bl (!x.isNon))
  | _ => False
def rIsN : R2 := fun x y H Q => y = .non ∧ Q (.bl (decide (x = .non))) H
def rIsNotN : R2 := fun x y H Q => y = .non ∧ Q (.bl (!decide (x = .non))) H
theorem vo_is : VOp X (compareOp .Is) rIsN dIs := by
  refine ⟨op_isN, fun s v u x y P Q gr q1 q2 d k => ?_⟩
  cases y <;> first | exact d.elim | skip
  exact ⟨q2.non, by rw [isNon_eq q1]; exact k s .fz _ _ gr (.bl _) d⟩
theorem vo_isnot : VOp X (compareOp .IsNot) rIsNotN dIsNot := by
  refine ⟨op_notN, fun s v u x y P Q gr q1 q2 d k => ?_⟩
  cases y <;> first | exact d.elim | skip
  exact ⟨q2.non, by rw [isNon_eq q1]; exact k s .fz _ _ gr (.bl _) d⟩
end
end Tq
set_option Elab.async false
set_option linter.all false
set_option autoImplicit false
set_option maxRecDepth 100000
set_option maxHeartbeats 4000000
namespace Tq
open PySem PySem.Spec L2
open PyProof.Rows hiding St
section
variable {X : Cx} {e0 : Hs} {pos : Pos}
/-! ### unary -/
def dI1 (g : Int → Dt) : Dt → DK → Prop := fun x P => match x with
  | .int i => P .fz (g i)
  | _ => False
def eUn (d : Dt → DK → Prop) (ta : TEd) : TEd := fun ρ P => ta ρ fun _ x => d x P
theorem ve_neg {a : Expr} {Ta : TE} {ta : TEd} (ha : VE X e0 a Ta ta) : VE X e0 (.UnaryOp .USub a pos) (tUn (rU fun i => .int (-i)) Ta) (eUn (dI1 fun i => .int (-i)) ta) := by
  obtain ⟨hTa, ra⟩ := ha
  refine ⟨pe_un un_neg hTa, fun s σ ρ P Q rp t k => ?_⟩
  refine ra s σ ρ _ _ rp t fun s1 k1 v1 x1 g1 r1 t1 => ?_
  cases x1 <;> first | exact t1.elim | skip
  exact ⟨_, r1.isint, k s1 .fz _ _ g1 (.int _) t1⟩
/-! ### subscripts -/
def optD (o : Option Dt) (P : DK) : Prop := match o with
  | some d => P .fz d
  | none => False
def optC (z : Str) (o : Option Nat) (P : DK) : Prop := match o with
  | some c => z.length ≤ 16777216 ∧ P .fz (.str ⟨#[c]⟩)
  | none => False
def dIx : R2d := fun x y P => match x, y with
  | .lst ds, .int i => optD (atI ds i) P
  | .tup ds, .int i => optD (atI ds i) P
  | .str z, .int i => optC z (atI z.cps.toList i) P
  | _, _ => False
theorem RpL.atI {K : PySem.W.Frag} {F : Hp} {vs : List V} {xs : List Dt} {i : Int} {x : Dt} (r : RpL K F vs xs) (h : L2.atI xs i = some x) : ∃ v, L2.atI vs i = some v ∧ Rp K F v x := by
  unfold L2.atI at h ⊢
  rw [r.length]
  cases e : ixN xs.length i with
  | none => rw [e] at h; cases h
  | some j =>
    rw [e] at h
    exact r.at h
theorem ve_ix {a b : Expr} {Ta Tb : TE} {ta tb : TEd} (ha : VE X e0 a Ta ta) (hb : VE X e0 b Tb tb) (hs : PlainIx b) : VE X e0 (.Subscript a b pos) (tOp (rIx X.K) Ta Tb) (eOp dIx ta tb) := by
  obtain ⟨hTa, ra⟩ := ha
  obtain ⟨hTb, rb⟩ := hb
  refine ⟨pe_ix ix_seq hTa hTb hs, fun s σ ρ P Q rp t k => ?_⟩
  refine ra s σ ρ _ _ rp t fun s1 k1 v1 x1 g1 r1 t1 => ?_
  have rp1 := rp.grow g1
  refine rb s1 σ ρ _ _ rp1 t1 fun s2 k2 v2 x2 g2 r2 t2 => ?_
  have rp2 := rp1.grow g2
  obtain ⟨hk1, hk2, t2⟩ := t2
  have q1 := (r1.rq rp1.rh hk1).mono g2.f g2.h
  have q2 := r2.rq rp2.rh hk2
  have g := g1.trans g2
  cases x1 <;> first | exact t2.elim | skip
  all_goals cases x2 <;> first | exact t2.elim | skip
  · rename_i z i
    cases q1.str; cases q2.int
    revert t2
    show (match L2.atI z.cps.toList i with
      | some c => z.length ≤ 16777216 ∧ P .fz (.str ⟨#[c]⟩)
      | none => False) → _
    cases e : L2.atI z.cps.toList i with
    | none => exact fun t2 => t2.elim
    | some c => exact fun t2 => .inr (.inr ⟨z, i, c, rfl, rfl, by rw [sizeLine_eq]; exact t2.1, e, k s2 .fz _ _ g (.str _) t2.2⟩)
  · rename_i ds i
    cases q2.int
    obtain ⟨a', xs, rfl, h1, r1'⟩ := Rq.tup rp2.rh.fw q1
    revert t2
    show (match L2.atI ds i with
      | some d => P .fz d
      | none => False) → _
    cases e : L2.atI ds i with
    | none => exact fun t2 => t2.elim
    | some d =>
      intro t2
      obtain ⟨v, hv, rv⟩ := r1'.atI e
      exact .inr (.inl ⟨a', xs, i, v, rfl, rfl, .inl (.inl h1), hv, k s2 .fz _ _ g rv t2⟩)
  · rename_i ds i
    cases q2.int
    obtain ⟨a', xs, rfl, h1, r1'⟩ := Rq.lst rp2.rh.fw rp2.rh.hw q1
    revert t2
    show (match L2.atI ds i with
      | some d => P .fz d
      | none => False) → _
    cases e : L2.atI ds i with
    | none => exact fun t2 => t2.elim
    | some d =>
      intro t2
      obtain ⟨v, hv, rv⟩ := r1'.atI e
      exact .inl ⟨a', xs, i, v, rfl, rfl, h1, hv, k s2 .fz _ _ g rv t2⟩
/-! ### slices -/
def cutL {α : Type} (xs : List α) (lo hi : Option Int) : List α := (xs.drop (HT.sIx xs.length 0 lo)).take (HT.sIx xs.length xs.length hi - HT.sIx xs.length 0 lo)
abbrev TOd := DEnv → (Option Int → Prop) → Prop
structure VO (X : Cx) (e0 : Hs) (e : Option Expr) (T : TO) (t : TOd) : Prop where
  pe : PO X e T
  run : ∀ (s : Hs) (σ : St) (ρ : DEnv) (P : Option Int → Prop) (Q : Option Int → Hp → Prop), Rep X.K e0 s σ ρ → t ρ P → (∀ s' o, Grow s s' → P o → Q o s'.w) → T σ s.w Q
def oNo : TOd := fun _ P => P none
def oPartK (x : Dt) (P : Option Int → Prop) : Prop := match x with
  | .int i => P (some i)
  | _ => False
def oPart (t : TEd) : TOd := fun ρ P => t ρ fun _ x => oPartK x P
theorem vo_no : VO X e0 none tNoPart oNo := ⟨po_none, fun s σ ρ P Q rp t k => k s none rp.self t⟩
theorem vo_part {e : Expr} {T : TE} {t : TEd} (h : VE X e0 e T t) : VO X e0 (some e) (tPart T) (oPart t) := by
  obtain ⟨hTa, ra⟩ := h
  refine ⟨po_some hTa, fun s σ ρ P Q rp t k => ?_⟩
  refine ra s σ ρ _ _ rp t fun s1 k1 v1 x1 g1 r1 t1 => ?_
  cases x1 <;> first | exact t1.elim | skip
  exact ⟨_, r1.isint, k s1 _ g1 t1⟩
def dSl (x : Dt) (lo hi : Option Int) (P : DK) : Prop := match x with
  | .lst ds => P .fr (.lst (cutL ds lo hi))
  | .str z => z.length ≤ 16777216 ∧ P .fz (.str (cutS z lo hi))
  | _ => False
def eSl (ta : TEd) (tl th : TOd) : TEd := fun ρ P => ta ρ fun k x => tl ρ fun l => th ρ fun u => k.lf = true ∧ dSl x l u P
theorem RpL.cut {K : PySem.W.Frag} {F : Hp} {vs : List V} {xs : List Dt} (r : RpL K F vs xs) (lo hi : Option Int) : RpL K F (cutV vs lo hi) (cutL xs lo hi) := by
  unfold cutV cutL
  rw [r.length]
  exact (r.drop _).take _
theorem ve_slice {e : Expr} {lo hi : Option Expr} {p2 : Pos} {Ta : TE} {Tl Th : TO} {ta : TEd} {tl th : TOd} (ha : VE X e0 e Ta ta) (hl : VO X e0 lo Tl tl) (hh : VO X e0 hi Th th) : VE X e0 (.Subscript e (.Slice lo hi none p2) pos) (tSl (fun x lo hi H Q => rSlL X.K x lo hi H Q ∨ rSlS x lo hi H Q) Ta Tl Th) (eSl ta tl th) := by
  obtain ⟨hTa, ra⟩ := ha
  obtain ⟨hTl, rl⟩ := hl
  obtain ⟨hTh, rh⟩ := hh
  refine ⟨pe_slice (sl_list.or sl_str) hTa hTl hTh, fun s σ ρ P Q rp t k => ?_⟩
  refine ra s σ ρ _ _ rp t fun s1 k1 v1 x1 g1 r1 t1 => ?_
  have rp1 := rp.grow g1
  refine rl s1 σ ρ _ _ rp1 t1 fun s2 l g2 t2 => ?_
  have rp2 := rp1.grow g2
  refine rh s2 σ ρ _ _ rp2 t2 fun s3 u g3 t3 => ?_
  have rp3 := rp2.grow g3
  have g := g1.trans (g2.trans g3)
  obtain ⟨hk1, t3⟩ := t3
  have q1 := (r1.rq rp1.rh hk1).mono (g2.trans g3).f (g2.trans g3).h
  cases x1 <;> first | exact t3.elim | skip
  · cases q1.str
    exact .inr ⟨_, rfl, by rw [sizeLine_eq]; exact t3.1, k s3 .fz _ _ g (.str _) t3.2⟩
  · obtain ⟨a', xs, rfl, h1, r1'⟩ := Rq.lst rp3.rh.fw rp3.rh.hw q1
    refine .inl ⟨a', xs, rfl, h1, fun p hp => ?_⟩
    obtain ⟨gg, rr⟩ := fresh_new g hp (r1'.cut l u) rfl
    exact k _ .fr _ _ gg rr t3
/-! ### arguments, tuples, lists -/
def Kd.arg : Kd → Kd
  | .fz => .fz
  | .fr => .fz
  | .ft _ => .fz
  | .tr t => .rt t
  | .mt t => .rt t
  | .rt t => .rt t
  | .vt t => .rt t
  | .iv I => .iv I
  | _ => .rd
def aNil : TAd := fun _ P => P []
def aCons (t : TEd) (u : TAd) : TAd := fun ρ P => t ρ fun k x => u ρ fun as => P ((k.arg, x) :: as)
theorem va_nil : VA X e0 [] tNil aNil := ⟨pa_nil, fun s σ ρ P Q rp t k => k s [] [] rp.self .nil rfl t⟩
theorem va_cons {e : Expr} {es : List Expr} {T : TE} {U : TA} {t : TEd} {u : TAd} (he : VE X e0 e T t) (hr : VA X e0 es U u) (hs : starEach (e :: es) X.env = (false, eval e X.env) :: starEach es X.env := by rfl) : VA X e0 (e :: es) (tCons T U) (aCons t u) := by
  obtain ⟨hTa, ra⟩ := he
  obtain ⟨hTb, rb⟩ := hr
  refine ⟨pa_cons hTa hTb hs, fun s σ ρ P Q rp t k => ?_⟩
  refine ra s σ ρ _ _ rp t fun s1 k1 v1 x1 g1 r1 t1 => ?_
  by_cases hk : k1.st = true
  · obtain ⟨s1', g1', e1, w1, f1, p1⟩ := r1.freeze g1 hk
    have ek : k1.arg = .fz := by cases k1 <;> first | rfl | cases hk
    rw [ek] at t1
    have rp1 := rp.grow g1'
    have h := rb s1' σ ρ _ (fun vs H => Q (v1 :: vs) H) rp1 t1 fun s2 vs xs g2 ar hl t2 => k s2 (v1 :: vs) _ (g1'.trans g2) (.fz (p1.mono g2.f) ar) (by simp [hl]) t2
    rw [w1] at h
    exact h
  · have rp1 := rp.grow g1
    refine rb s1 σ ρ _ _ rp1 t1 fun s2 vs xs g2 ar hl t2 => ?_
    have r2 := r1.grow g2
    have g := g1.trans g2
    cases k1 with
    | fz => exact absurd rfl hk
    | fr => exact absurd rfl hk
    | ft t => exact absurd rfl hk
    | vw => exact k s2 (v1 :: vs) _ g (.rd (r2.rq (rp1.grow g2).rh rfl) ar) (by simp [hl]) t2
    | rd => exact k s2 (v1 :: vs) _ g (.rd (r2.rq (rp1.grow g2).rh rfl) ar) (by simp [hl]) t2
    | ow l => exact k s2 (v1 :: vs) _ g (.rd (r2.rq (rp1.grow g2).rh rfl) ar) (by simp [hl]) t2
    | tr t => obtain ⟨rfl, _, _, _, c⟩ := r2; exact k s2 (v1 :: vs) _ g (.rt c ar) (by simp [hl]) t2
    | mt t => obtain ⟨rfl, _, _, c⟩ := r2; exact k s2 (v1 :: vs) _ g (.rt c ar) (by simp [hl]) t2
    | rt t => obtain ⟨rfl, c⟩ := r2; exact k s2 (v1 :: vs) _ g (.rt c ar) (by simp [hl]) t2
    | vt t => obtain ⟨rfl, c⟩ := r2; exact k s2 (v1 :: vs) _ g (.rt (c.mono (Same.refl _) g2.gh) ar) (by simp [hl]) t2
    | iv I => obtain ⟨a, rfl, e, rfl⟩ := r2; exact k s2 (.ref a :: vs) _ g (.iv e ar) (by simp [hl]) t2
def allfz : List (Kd × Dt) → Bool
  | [] => true
  | (.fz, _) :: r => allfz r
  | _ :: _ => false
def dts : List (Kd × Dt) → List Dt
  | [] => []
  | (_, x) :: r => x :: dts r
theorem dts_length : ∀ as : List (Kd × Dt), (dts as).length = as.length
  | [] => rfl
  | (_, _) :: r => congrArg (· + 1) (dts_length r)
theorem ArgsR.rpl {K : PySem.W.Frag} {F H : Hp} {i : Addr → Option (List Int → Prop)} : ∀ {vs : List V} {as : List (Kd × Dt)}, ArgsR K F H i vs as → allfz as = true → RpL K F vs (dts as)
  | _, _, .nil, _ => .nil
  | _, _, .fz r t, h => .cons r (ArgsR.rpl t h)
  | _, _, .rd r t, h => nomatch h
  | _, _, .rt r t, h => nomatch h
  | _, _, .iv r t, h => nomatch h
/-- leaves alone -/
def lfs : List (Kd × Dt) → Bool
  | [] => true
  | (k, _) :: r => k.lf && lfs r
theorem lfs_cons {k : Kd} {x : Dt} {r : List (Kd × Dt)} (h : lfs ((k, x) :: r) = true) : k.lf = true ∧ lfs r = true := Bool.and_eq_true_iff.mp h
def eTup (t : TAd) : TEd := fun ρ P => t ρ fun as => allfz as = true ∧ P .fz (.tup (dts as))
def eLst (t : TAd) : TEd := fun ρ P => t ρ fun as => allfz as = true ∧ P .fr (.lst (dts as))
theorem ve_tup {es : List Expr} {T : TA} {t : TAd} {x1} (h : VA X e0 es T t) (hl : es.length ≤ 1000 := by decide) : VE X e0 (.Tuple es x1 pos) (tTup T) (eTup t) := by
  obtain ⟨hTa, ra⟩ := h
  refine ⟨pe_tup hTa, fun s σ ρ P Q rp t k => ?_⟩
  refine ra s σ ρ _ _ rp t fun s1 vs xs g1 ar hxl t1 => ?_
  obtain ⟨hf, t1⟩ := t1
  have r := ar.rpl hf
  refine ⟨by rw [r.length, dts_length, hxl, sizeLine_eq]; omega, fun p hp => ?_⟩
  refine k (s1.lay p (.tup vs)) .fz _ _ (g1.lay hp) (.tup upd_same (r.mono (same_upd ?_))) t1
  exact Same.free g1.fw hp
theorem ve_lst {es : List Expr} {T : TA} {t : TAd} (h : VA X e0 es T t) (hl : es.length ≤ 1000 := by decide) : VE X e0 (.List es pos) (tLst T) (eLst t) := by
  obtain ⟨hTa, ra⟩ := h
  refine ⟨pe_lst hTa, fun s σ ρ P Q rp t k => ?_⟩
  refine ra s σ ρ _ _ rp t fun s1 vs xs g1 ar hxl t1 => ?_
  obtain ⟨hf, t1⟩ := t1
  have r := ar.rpl hf
  refine ⟨by rw [r.length, dts_length, hxl, sizeLine_eq]; omega, fun p hp => ?_⟩
  obtain ⟨gg, rr⟩ := fresh_new g1 hp r rfl
  exact k _ .fr _ _ gg rr t1
/-! ### built-in functions -/
structure VCall (X : Cx) (f : Value) (R : List V → Hp → VK → Prop) (d : List (Kd × Dt) → DK → Prop) : Prop where
  pe : CallR X f R
  run : ∀ (s0 s : Hs) (vs : List V) (as : List (Kd × Dt)) (P : DK) (Q : VK), Grow s0 s → ArgsR X.K s.f s.h s.i vs as → lfs as = true → d as P →
    (∀ s' k w z, Grow s0 s' → RK X.K s0.w s' k w z → P k z → Q w s'.w) → R vs s.w Q
def eCall (d : List (Kd × Dt) → DK → Prop) (t : TAd) : TEd := fun ρ P => t ρ fun as => lfs as = true ∧ d as P
theorem ve_callB {id : String} {x : Str} {p : Pos} {e : Expr} {es : List Expr} {R : List V → Hp → VK → Prop} {d : List (Kd × Dt) → DK → Prop} {Ta : TA} {t : TAd} (hc : VCall X (.builtin id) R d) (hg : Gl X x) (hm : X.mg x = none) (hv : bootBuiltins x = some (.builtin id)) (ha : VA X e0 (e :: es) Ta t) (hn : x ≠ "__name__" := by decide) (hdb : (x == ("__debug__" : Str)) = false := by decide)
    (he : starEach (e :: es) X.env = (false, eval e X.env) :: starEach es X.env := by rfl) (hpl : (backTo pos (starEach es X.env)).any (·.1) = false := by rfl) : VE X e0 (.Call (.Name x p) (e :: es) [] pos) (tCB R Ta) (eCall d t) := by
  obtain ⟨hR, r⟩ := hc
  obtain ⟨hTa, ra⟩ := ha
  refine ⟨pe_callB hR hg hm hv hTa hn hdb he hpl, fun s σ ρ P Q rp t k => ?_⟩
  exact ra s σ ρ _ _ rp t fun s1 vs xs g1 ar hxl t1 => r s s1 vs xs P Q g1 ar t1.1 t1.2 k
theorem ve_callTy {T : String} {x : Str} {p : Pos} {e : Expr} {es : List Expr} {R : List V → Hp → VK → Prop} {d : List (Kd × Dt) → DK → Prop} {Ta : TA} {t : TAd} (hc : VCall X (.type T) R d) (hg : Gl X x) (hm : X.mg x = none) (hv : bootBuiltins x = some (.type T)) (ha : VA X e0 (e :: es) Ta t) (hn : x ≠ "__name__" := by decide) (hdb : (x == ("__debug__" : Str)) = false := by decide)
    (he : starEach (e :: es) X.env = (false, eval e X.env) :: starEach es X.env := by rfl) (hpl : (backTo pos (starEach es X.env)).any (·.1) = false := by rfl) : VE X e0 (.Call (.Name x p) (e :: es) [] pos) (tCB R Ta) (eCall d t) := by
  obtain ⟨hR, r⟩ := hc
  obtain ⟨hTa, ra⟩ := ha
  refine ⟨pe_callTy hR hg hm hv hTa hn hdb he hpl, fun s σ ρ P Q rp t k => ?_⟩
  exact ra s σ ρ _ _ rp t fun s1 vs xs g1 ar hxl t1 => r s s1 vs xs P Q g1 ar t1.1 t1.2 k
theorem ArgsR.one {K : PySem.W.Frag} {F H : Hp} {i : Addr → Option (List Int → Prop)} {vs : List V} {k : Kd} {x : Dt} (h : ArgsR K F H i vs [(k, x)]) (hk : lfs [(k, x)] = true) : ∃ v, vs = [v] ∧ Rq K F H v x := by
  cases h with
  | fz r t => cases t; exact ⟨_, rfl, .inl r⟩
  | rd r t => cases t; exact ⟨_, rfl, r⟩
  | rt r t => cases hk
  | iv r t => cases hk
theorem ArgsR.two {K : PySem.W.Frag} {F H : Hp} {i : Addr → Option (List Int → Prop)} {vs : List V} {k k' : Kd} {x y : Dt} (h : ArgsR K F H i vs [(k, x), (k', y)]) (hk : lfs [(k, x), (k', y)] = true) : ∃ v u, vs = [v, u] ∧ Rq K F H v x ∧ Rq K F H u y := by
  obtain ⟨hk1, hk2⟩ := lfs_cons hk
  cases h with
  | fz r t =>
    obtain ⟨u, rfl, q⟩ := ArgsR.one t hk2
    exact ⟨_, _, rfl, .inl r, q⟩
  | rd r t =>
    obtain ⟨u, rfl, q⟩ := ArgsR.one t hk2
    exact ⟨_, _, rfl, r, q⟩
  | rt r t => cases hk1
  | iv r t => cases hk1
def bLen : List (Kd × Dt) → DK → Prop := fun as P => match as with
  | [(_, .lst ds)] => P .fz (.int ds.length)
  | [(_, .tup ds)] => P .fz (.int ds.length)
  | [(_, .str z)] => z.length ≤ 16777216 ∧ P .fz (.int z.length)
  | _ => False
def rLenD (K : PySem.W.Frag) : List V → Hp → VK → Prop := fun xs H Q => (∃ p ys, xs = [.ref p] ∧ (SqL K H p ys ∨ SqT K H p ys) ∧ Q (.int ys.length) H) ∨ ∃ z, xs = [.str z] ∧ z.length ≤ sizeLine ∧ Q (.int z.length) H
theorem vc_len : VCall X (.builtin "len") (rLenD X.K) bLen := by
  refine ⟨call_len_seq.or call_len_str, fun s0 s vs as P Q g ar hlf d k => ?_⟩
  match as, ar, hlf, d with
  | [(_, .lst ds)], ar, hlf, d =>
    obtain ⟨v, rfl, q⟩ := ar.one hlf
    obtain ⟨a, xs, rfl, h, r⟩ := Rq.lst g.fw g.hw q
    refine .inl ⟨a, xs, rfl, .inl h, ?_⟩
    rw [r.length]
    exact k s .fz _ _ g (.int _) d
  | [(_, .tup ds)], ar, hlf, d =>
    obtain ⟨v, rfl, q⟩ := ar.one hlf
    obtain ⟨a, xs, rfl, h, r⟩ := Rq.tup g.fw q
    refine .inl ⟨a, xs, rfl, .inr (.inl (.inl h)), ?_⟩
    rw [r.length]
    exact k s .fz _ _ g (.int _) d
  | [(_, .str z)], ar, hlf, d =>
    obtain ⟨v, rfl, q⟩ := ar.one hlf
    cases q.str
    exact .inr ⟨z, rfl, by rw [sizeLine_eq]; exact d.1, k s .fz _ _ g (.int _) d.2⟩
def bList : List (Kd × Dt) → DK → Prop := fun as P => match as with
  | [(_, .lst ds)] => P .fr (.lst ds)
  | [(_, .tup ds)] => P .fr (.lst ds)
  | _ => False
def rListD (K : PySem.W.Frag) : List V → Hp → VK → Prop := fun xs H Q => ∃ p ys, xs = [.ref p] ∧ (SqL K H p ys ∨ SqT K H p ys) ∧ ∀ l, H l = none → Q (.ref l) (upd H l (.lst ys))
theorem vc_list : VCall X (.type "list") (rListD X.K) bList := by
  refine ⟨call_list_of, fun s0 s vs as P Q g ar hlf d k => ?_⟩
  match as, ar, hlf, d with
  | [(_, .lst ds)], ar, hlf, d =>
    obtain ⟨v, rfl, q⟩ := ar.one hlf
    obtain ⟨a, xs, rfl, h, r⟩ := Rq.lst g.fw g.hw q
    refine ⟨a, xs, rfl, .inl h, fun l hl => ?_⟩
    obtain ⟨gg, rr⟩ := fresh_new g hl r rfl
    exact k _ .fr _ _ gg rr d
  | [(_, .tup ds)], ar, hlf, d =>
    obtain ⟨v, rfl, q⟩ := ar.one hlf
    obtain ⟨a, xs, rfl, h, r⟩ := Rq.tup g.fw q
    refine ⟨a, xs, rfl, .inr (.inl (.inl h)), fun l hl => ?_⟩
    obtain ⟨gg, rr⟩ := fresh_new g hl r rfl
    exact k _ .fr _ _ gg rr d
def bDivmod : List (Kd × Dt) → DK → Prop := fun as P => match as with
  | [(_, .int i), (_, .int j)] => CDiv i j ∧ P .fz (.tup [.int (i / j), .int (i % j)])
  | _ => False
def rDivD : List V → Hp → VK → Prop := fun xs H Q => ∃ i j, xs = [.int i, .int j] ∧ CDiv i j ∧ ∀ p, H p = none → Q (.ref p) (upd H p (.tup [.int (i / j), .int (i % j)]))
theorem vc_divmod : VCall X (.builtin "divmod") rDivD bDivmod := by
  refine ⟨call_divmod, fun s0 s vs as P Q g ar hlf d k => ?_⟩
  match as, ar, hlf, d with
  | [(_, .int i), (_, .int j)], ar, hlf, d =>
    obtain ⟨v, u, rfl, q1, q2⟩ := ar.two hlf
    cases q1.int; cases q2.int
    refine ⟨i, j, rfl, d.1, fun p hp => ?_⟩
    exact k (s.lay p _) .fz _ _ (g.lay hp) (.tup upd_same (.cons (.int _) (.cons (.int _) .nil))) d.2
/-! ### and, or, not, if -/
def selAnd (b : Bool) (t : TTd) (ρ : DEnv) (P : Bool → Prop) : Prop := if b = true then t ρ P else P false
def selOr (b : Bool) (t : TTd) (ρ : DEnv) (P : Bool → Prop) : Prop := if b = true then P true else t ρ P
def bAnd (ta tb : TTd) : TTd := fun ρ P => ta ρ fun b => selAnd b tb ρ P
def bOr (ta tb : TTd) : TTd := fun ρ P => ta ρ fun b => selOr b tb ρ P
def bNot (ta : TTd) : TTd := fun ρ P => ta ρ fun b => P (!b)
structure VW (X : Cx) (e0 : Hs) (e : Expr) (T : TT) (t : TTd) : Prop where
  pe : PW X e T
  run : ∀ (s : Hs) (σ : St) (ρ : DEnv) (P : Bool → Prop) (Q : Bool → Hp → Prop), Rep X.K e0 s σ ρ → t ρ P →
    (∀ s' b, Grow s s' → P b → Q b s'.w) → T σ s.w Q
theorem VW.vt {e : Expr} {T : TT} {t : TTd} (h : VW X e0 e T t) : VT X e0 e T t := by
  obtain ⟨hT, r⟩ := h
  exact ⟨hT.pt, r⟩
theorem vw_and1 {a : Expr} {T : TT} {t : TTd} (h : VT X e0 a T t) : VW X e0 (.BoolOp .And [a] pos) T t := by
  obtain ⟨hT, r⟩ := h
  exact ⟨pw_and1 hT, r⟩
theorem vw_or1 {a : Expr} {T : TT} {t : TTd} (h : VT X e0 a T t) : VW X e0 (.BoolOp .Or [a] pos) T t := by
  obtain ⟨hT, r⟩ := h
  exact ⟨pw_or1 hT, r⟩
theorem vw_and {a b : Expr} {rest : List Expr} {T U : TT} {t u : TTd} (h : VT X e0 a T t) (h' : VW X e0 (.BoolOp .And (b :: rest) pos) U u) : VW X e0 (.BoolOp .And (a :: b :: rest) pos) (tAnd T U) (bAnd t u) := by
  obtain ⟨hT, r⟩ := h
  obtain ⟨hU, r'⟩ := h'
  refine ⟨pw_and hT hU, fun s σ ρ P Q rp t k => ?_⟩
  refine r s σ ρ _ _ rp t fun s1 b g1 t1 => ?_
  cases b with
  | true => exact r' s1 σ ρ P Q (rp.grow g1) t1 fun s2 b g2 t2 => k s2 b (g1.trans g2) t2
  | false => exact k s1 false g1 t1
theorem vw_or {a b : Expr} {rest : List Expr} {T U : TT} {t u : TTd} (h : VT X e0 a T t) (h' : VW X e0 (.BoolOp .Or (b :: rest) pos) U u) : VW X e0 (.BoolOp .Or (a :: b :: rest) pos) (tOr T U) (bOr t u) := by
  obtain ⟨hT, r⟩ := h
  obtain ⟨hU, r'⟩ := h'
  refine ⟨pw_or hT hU, fun s σ ρ P Q rp t k => ?_⟩
  refine r s σ ρ _ _ rp t fun s1 b g1 t1 => ?_
  cases b with
  | true => exact k s1 true g1 t1
  | false => exact r' s1 σ ρ P Q (rp.grow g1) t1 fun s2 b g2 t2 => k s2 b (g1.trans g2) t2
theorem vt_not {a : Expr} {T : TT} {t : TTd} (h : VT X e0 a T t) : VT X e0 (.UnaryOp .Not a pos) (tNot T) (bNot t) := by
  obtain ⟨hT, r⟩ := h
  refine ⟨pt_not hT, fun s σ ρ P Q rp t k => ?_⟩
  exact r s σ ρ _ _ rp t fun s1 b g1 t1 => k s1 _ g1 t1
/-- values that are bools -/
def selE (b : Bool) (t u : TEd) (ρ : DEnv) (P : DK) : Prop := if b = true then t ρ P else u ρ P
def eAnd (ta tb : TEd) : TEd := fun ρ P => ta ρ fun _ x => dB x fun b => selE b tb (eC (.bl false)) ρ P
def eOr (ta tb : TEd) : TEd := fun ρ P => ta ρ fun _ x => dB x fun b => selE b (eC (.bl true)) tb ρ P
def eNot (ta : TEd) : TEd := fun ρ P => ta ρ fun _ x => dB x fun b => P .fz (.bl (!b))
theorem ve_one {op} {a : Expr} {T : TE} {t : TEd} (h : VE X e0 a T t) : VE X e0 (.BoolOp op [a] pos) T t := by
  obtain ⟨hT, r⟩ := h
  exact ⟨pe_one hT, r⟩
theorem ve_and {a b : Expr} {rest : List Expr} {T U : TE} {t u : TEd} (h : VE X e0 a T t) (h' : VE X e0 (.BoolOp .And (b :: rest) pos) U u) : VE X e0 (.BoolOp .And (a :: b :: rest) pos) (tAndV T U) (eAnd t u) := by
  obtain ⟨hT, r⟩ := h
  obtain ⟨hU, r'⟩ := h'
  refine ⟨pe_and hT hU, fun s σ ρ P Q rp t k => ?_⟩
  refine r s σ ρ _ _ rp t fun s1 k1 v1 x1 g1 r1 t1 => ?_
  cases x1 <;> first | exact t1.elim | skip
  rename_i b
  refine ⟨b, r1.isbl, ?_⟩
  cases b with
  | true => exact r' s1 σ ρ P Q (rp.grow g1) t1 fun s2 k2 v2 x2 g2 r2 t2 => k s2 k2 v2 x2 (g1.trans g2) (r2.base fun a h => g1.nw h) t2
  | false => exact k s1 .fz _ _ g1 (.bl _) t1
theorem ve_or {a b : Expr} {rest : List Expr} {T U : TE} {t u : TEd} (h : VE X e0 a T t) (h' : VE X e0 (.BoolOp .Or (b :: rest) pos) U u) : VE X e0 (.BoolOp .Or (a :: b :: rest) pos) (tOrV T U) (eOr t u) := by
  obtain ⟨hT, r⟩ := h
  obtain ⟨hU, r'⟩ := h'
  refine ⟨pe_or hT hU, fun s σ ρ P Q rp t k => ?_⟩
  refine r s σ ρ _ _ rp t fun s1 k1 v1 x1 g1 r1 t1 => ?_
  cases x1 <;> first | exact t1.elim | skip
  rename_i b
  refine ⟨b, r1.isbl, ?_⟩
  cases b with
  | true => exact k s1 .fz _ _ g1 (.bl _) t1
  | false => exact r' s1 σ ρ P Q (rp.grow g1) t1 fun s2 k2 v2 x2 g2 r2 t2 => k s2 k2 v2 x2 (g1.trans g2) (r2.base fun a h => g1.nw h) t2
theorem ve_not {a : Expr} {T : TE} {t : TEd} (h : VE X e0 a T t) : VE X e0 (.UnaryOp .Not a pos) (tNotV T) (eNot t) := by
  obtain ⟨hT, r⟩ := h
  refine ⟨pe_not hT, fun s σ ρ P Q rp t k => ?_⟩
  refine r s σ ρ _ _ rp t fun s1 k1 v1 x1 g1 r1 t1 => ?_
  cases x1 <;> first | exact t1.elim | skip
  exact ⟨_, r1.isbl, k s1 .fz _ _ g1 (.bl _) t1⟩
def eIf (tc : TTd) (ta tb : TEd) : TEd := fun ρ P => tc ρ fun c => selE c ta tb ρ P
theorem ve_if {c a b : Expr} {Tc : TT} {A B : TE} {tc : TTd} {ta tb : TEd} (hc : VT X e0 c Tc tc) (ha : VE X e0 a A ta) (hb : VE X e0 b B tb) : VE X e0 (.IfExp c a b pos) (tIf Tc A B) (eIf tc ta tb) := by
  obtain ⟨hT, r⟩ := hc
  obtain ⟨hA, ra⟩ := ha
  obtain ⟨hB, rb⟩ := hb
  refine ⟨pe_ifExp hT hA hB, fun s σ ρ P Q rp t k => ?_⟩
  refine r s σ ρ _ _ rp t fun s1 b g1 t1 => ?_
  cases b with
  | true => exact ra s1 σ ρ P Q (rp.grow g1) t1 fun s2 k2 v2 x2 g2 r2 t2 => k s2 k2 v2 x2 (g1.trans g2) (r2.base fun a h => g1.nw h) t2
  | false => exact rb s1 σ ρ P Q (rp.grow g1) t1 fun s2 k2 v2 x2 g2 r2 t2 => k s2 k2 v2 x2 (g1.trans g2) (r2.base fun a h => g1.nw h) t2
/-- a op b op' c, b asked once -/
def eChain (d d' : R2d) (ta tb tc : TEd) : TEd := fun ρ P => ta ρ fun k x => tb ρ fun k' y => k.lf = true ∧ k'.lf = true ∧ d x y fun _ z => dB z fun b => selE b (fun ρ P => tc ρ fun k u => k.lf = true ∧ d' y u P) (eC (.bl false)) ρ P
end
end Tq
set_option Elab.async false
set_option linter.all false
set_option autoImplicit false
set_option maxRecDepth 100000
set_option maxHeartbeats 4000000
namespace Tq
open PySem PySem.Spec L2
open PyProof.Rows hiding St
/-! ### what a def promises, by data -/
abbrev DSp := List (Kd × Dt) → DK → Prop
/-- a call's entry -/
abbrev ent (F H W : Hp) (i : Addr → Option (List Int → Prop)) : Hs := ⟨F, H, H, W, i, fun _ => none⟩
/-- frozen, or a fresh container -/
def RR (K : PySem.W.Frag) (W : Hp) (s : Hs) (k : Kd) (v : V) (x : Dt) : Prop :=
  match k with
  | .fz => Rp K s.f v x
  | .fr => ∃ l, v = .ref l ∧ W l = none ∧ s.f l = none ∧ Ow K s.f s.h l x
  | .ft t => x = t.dt ∧ (∀ a ∈ t.fp, W a = none ∧ s.f a = none) ∧ t.fp.Nodup ∧ OwT K s.f s.h v t
  | _ => False
def spL (K : PySem.W.Frag) (S : DSp) : Sp := fun vs W Q _ => ∃ (F H : Hp) (i : Addr → Option (List Int → Prop)) (as : List (Kd × Dt)) (P : DK), Same F H ∧ Same H W ∧ IvOk (ent F H W i) ∧ ArgsR K F H i vs as ∧ S as P ∧
  ∀ (s : Hs) (k : Kd) (v : V) (x : Dt), RH (ent F H W i) s → RR K W s k v x → P k x → Q v s.w
theorem ArgsR.length {K : PySem.W.Frag} {F H : Hp} {i : Addr → Option (List Int → Prop)} : ∀ {vs : List V} {as : List (Kd × Dt)}, ArgsR K F H i vs as → vs.length = as.length
  | _, _, .nil => rfl
  | _, _, .fz _ t => congrArg (· + 1) (ArgsR.length t)
  | _, _, .rd _ t => congrArg (· + 1) (ArgsR.length t)
  | _, _, .rt _ t => congrArg (· + 1) (ArgsR.length t)
  | _, _, .iv _ t => congrArg (· + 1) (ArgsR.length t)
section
variable {X : Cx} {e0 : Hs} {pos : Pos}
/-- behind a call: the caller's heaps -/
theorem back_grow {s s' : Hs} (rh : RH e0 s) (b : RH (ent s.f s.h s.w s.i) s') : ∃ s2 : Hs, Grow s s2 ∧ s2.f = s'.f ∧ s2.h = s'.h ∧ s2.w = s'.w ∧ ∀ l, s.w l = none → s'.f l = none → s2.g l = none := by
  have hh : Same s.h s'.h := b.eg.trans b.gh
  refine ⟨⟨s'.f, fun a => match s'.f a with
    | some o => some o
    | none => s.g a, s'.h, s'.w, s.i, s.m⟩, ⟨b.ef, fun a o q => ?_, hh, fun a o q => ?_, fun a o q => ?_, b.hw, b.nf, fun a h => ?_, b.ew, rh.hw, fun a I q => ?_, fun a I q => q⟩, rfl, rfl, rfl, fun l h1 h2 => ?_⟩
  · show (match s'.f a with
      | some o => some o
      | none => s.g a) = some o
    have h := b.nf a (ne_none (rh.hw _ _ (rh.gh a o q)))
    have h : s'.f a = s.f a := h
    rw [h]
    cases e : s.f a with
    | none => exact q
    | some o' => exact (rh.fg a o' e).symm.trans q
  · show (match s'.f a with
      | some o => some o
      | none => s.g a) = some o
    rw [q]
  · have q' : (match s'.f a with
      | some o => some o
      | none => s.g a) = some o := q
    show s'.h a = some o
    cases e : s'.f a with
    | none =>
      rw [e] at q'
      exact hh a o (rh.gh a o q')
    | some o' =>
      rw [e] at q'
      cases q'
      exact b.fh a o e
  · show (match s'.f a with
      | some o => some o
      | none => s.g a) = s.g a
    have h : s'.f a = s.f a := b.nf a h
    rw [h]
    cases e : s.f a with
    | none => rfl
    | some o' => exact (rh.fg a o' e).symm
  · exact b.iv a I (b.ei a I q)
  · show (match s'.f l with
      | some o => some o
      | none => s.g l) = none
    rw [h2]
    exact Same.free rh.gh (Same.free rh.hw h1)
theorem rr_rk {K : PySem.W.Frag} {s0 s s2 s' : Hs} {k : Kd} {v : V} {x : Dt} (g1 : Grow s0 s) (ef : s2.f = s'.f) (eh : s2.h = s'.h) (hl : ∀ l, s.w l = none → s'.f l = none → s2.g l = none) (r : RR K s.w s' k v x) : RK K s0.w s2 k v x := by
  cases k with
  | fz =>
    show Rp K s2.f v x
    rw [ef]
    exact r
  | fr =>
    obtain ⟨l, e1, h1, h2, o⟩ := r
    refine ⟨l, e1, g1.nw h1, hl l h1 h2, ?_⟩
    rw [ef, eh]
    exact o
  | ft t =>
    obtain ⟨e1, h, d, o⟩ := r
    refine ⟨e1, fun a ha => g1.nw (h a ha).1, fun a ha => hl a (h a ha).1 (h a ha).2, d, ?_⟩
    rw [ef, eh]
    exact o
  | _ => exact r.elim
def eCallD (d : DSp) (t : TAd) : TEd := fun ρ P => t ρ fun as => d as P
theorem ve_call {k : Nat} {f : Addr} {fd : FuncData} {ps : List Str} {S : DSp} {x : Str} {p : Pos} {e : Expr} {es : List Expr} {Ta : TA} {t : TAd} (F : FnOk X.prog X.w X.K X.mg X.base CX0 k f fd ps (spL X.K S)) (hr : Room k X.A) (hg : Gl X x) (hm : X.mg x = some (.ref f)) (hk : PySem.W.keepIn X.K (.ref f) = true) (hb : Binds X.K fd ps [])
    (ha : VA X e0 (e :: es) Ta t) (hdb : (x == ("__debug__" : Str)) = false := by decide) (he : starEach (e :: es) X.env = (false, eval e X.env) :: starEach es X.env := by rfl) (hpl : (backTo pos (starEach es X.env)).any (·.1) = false := by rfl) :
    VE X e0 (.Call (.Name x p) (e :: es) [] pos) (tCall (spL X.K S) [] E0 Ta) (eCallD S t) := by
  obtain ⟨hTa, ra⟩ := ha
  refine ⟨pe_call F hr hg hm hk hb .nil pass0 hTa hdb he hpl, fun s σ ρ P Q rp t k => ?_⟩
  refine ra s σ ρ _ _ rp t fun s1 vs xs g1 ar hxl t1 => ?_
  rw [List.append_nil]
  have rp1 := rp.grow g1
  refine ⟨s1.f, s1.h, s1.i, xs, P, rp1.rh.fh, rp1.rh.hw, rp1.rh.iv, ar, t1, fun s' k' v x b r q => ?_⟩
  obtain ⟨s2, g2, ef, eh, ew, hl⟩ := back_grow rp1.rh b
  have q' := k s2 k' v x (g1.trans g2) (rr_rk g1 ef eh hl r) q
  rw [ew] at q'
  exact q'
end
def startS : List (Kd × Dt) → DEnv
  | [] => []
  | (.fz, x) :: r => .v .fz x :: startS r
  | (.rt t, x) :: r => .v (.vt t) x :: startS r
  | (.iv I, x) :: r => .v (.iv I) x :: startS r
  | (.mt t, x) :: r => .v (.mt t) x :: startS r
  | (_, x) :: r => .v .vw x :: startS r
theorem startS_length : ∀ as : List (Kd × Dt), (startS as).length = as.length
  | [] => rfl
  | (k, _) :: r => by cases k <;> exact congrArg (· + 1) (startS_length r)
def startD (n : Nat) (as : List (Kd × Dt)) : DEnv := startS as ++ List.replicate (n - as.length) .no
theorem start_slots {K : PySem.W.Frag} {F H B W : Hp} {iv : Addr → Option (List Int → Prop)} : ∀ {vs : List V} {as : List (Kd × Dt)}, ArgsR K F H iv vs as → ∀ (i : Nat) (k : Kd) (x : Dt), (startS as)[i]? = some (Sl.v k x) →
    ∃ v, vs[i]? = some v ∧ RK K B (ent F H W iv) k v x ∧ k.sl = true ∧ k.fp = [] ∧ ∀ t, k ≠ .mt t
  | _, _, .nil, i, k, x, h => by simp [startS] at h
  | _, _, .fz r t, 0, k, x, h => by
    simp [startS] at h
    obtain ⟨rfl, rfl⟩ := h
    exact ⟨_, rfl, r, rfl, rfl, fun _ z => nomatch z⟩
  | _, _, .rd r t, 0, k, x, h => by
    simp [startS] at h
    obtain ⟨rfl, rfl⟩ := h
    exact ⟨_, rfl, r, rfl, rfl, fun _ z => nomatch z⟩
  | _, _, .rt r t, 0, k, x, h => by
    simp [startS] at h
    obtain ⟨rfl, rfl⟩ := h
    exact ⟨_, rfl, ⟨rfl, r⟩, rfl, rfl, fun _ z => nomatch z⟩
  | _, _, .iv r t, 0, k, x, h => by
    simp [startS] at h
    obtain ⟨rfl, rfl⟩ := h
    exact ⟨_, rfl, ⟨_, rfl, r, rfl⟩, rfl, rfl, fun _ z => nomatch z⟩
  | _, _, .fz r t, i + 1, k, x, h => start_slots t i k x (by simpa [startS] using h)
  | _, _, .rd r t, i + 1, k, x, h => start_slots t i k x (by simpa [startS] using h)
  | _, _, .rt r t, i + 1, k, x, h => start_slots t i k x (by simpa [startS] using h)
  | _, _, .iv r t, i + 1, k, x, h => start_slots t i k x (by simpa [startS] using h)
theorem ent_rh {F H W : Hp} {i : Addr → Option (List Int → Prop)} (hf : Same F H) (hw : Same H W) (iv : IvOk (ent F H W i)) : RH (ent F H W i) (ent F H W i) :=
  ⟨hf, Same.refl _, hw, Same.refl _, Same.refl _, fun _ _ => rfl, fun _ h => h, iv, fun _ _ h => h⟩
theorem rep_start {K : PySem.W.Frag} {F H W : Hp} {iv : Addr → Option (List Int → Prop)} {N : List Str} {vs : List V} {as : List (Kd × Dt)} (hf : Same F H) (hw : Same H W) (hiv : IvOk (ent F H W iv)) (ar : ArgsR K F H iv vs as) (hl : as.length ≤ N.length) :
    Rep K (ent F H W iv) (ent F H W iv) (L2.start N vs) (startD N.length as) := by
  have key : ∀ (i : Nat) (k : Kd) (x : Dt), (startD N.length as)[i]? = some (Sl.v k x) → ∃ v, (L2.start N vs)[i]? = some (some v) ∧ RK K W (ent F H W iv) k v x ∧ k.sl = true ∧ k.fp = [] ∧ ∀ t, k ≠ .mt t := fun i k x h => by
    unfold startD at h
    by_cases hi : i < as.length
    · rw [List.getElem?_append_left (by rw [startS_length]; exact hi)] at h
      obtain ⟨v, h1, h2, h3⟩ := start_slots (B := W) ar i k x h
      refine ⟨v, ?_, h2, h3⟩
      unfold L2.start
      rw [List.getElem?_append_left (by rw [List.length_map, ar.length]; exact hi), List.getElem?_map, h1]
      rfl
    · rw [List.getElem?_append_right (by rw [startS_length]; omega)] at h
      rw [List.getElem?_replicate] at h
      split at h <;> cases h
  refine ⟨ent_rh hf hw hiv, ?_, fun i k x h => ?_, fun i j k k' x y h1 h2 _ a ha => ?_, fun i t x h1 => ?_⟩
  · unfold L2.start startD
    rw [List.length_append, List.length_append, List.length_map, List.length_replicate, List.length_replicate, startS_length, ar.length]
  · obtain ⟨v, h1, h2, h3, _⟩ := key i k x h
    exact ⟨v, h1, h2, h3⟩
  · obtain ⟨v, _, _, _, h4, _⟩ := key i _ x h1
    rw [h4] at ha
    cases ha
  · obtain ⟨v, _, h2, _, _, h5⟩ := key i _ x h1
    exact absurd rfl (h5 t)
abbrev WX0 : WX := fun _ _ _ _ => True
section
variable {P : Program} {w : World} {K : PySem.W.Frag} {mg : Str → Option Value} {base : Heap}
/-- what leaves a def -/
theorem rk_rr {e s : Hs} {k : Kd} {v : V} {x : Dt} (rh : RH e s) (rk : RK K e.w s k v x) (hk : k.st = true) : RR K e.w s k v x := by
  cases k with
  | fz => exact rk
  | fr =>
    obtain ⟨l, e1, b, n, o⟩ := rk
    exact ⟨l, e1, b, Same.free rh.fg n, o⟩
  | ft t =>
    obtain ⟨e1, b, n, d, o⟩ := rk
    exact ⟨e1, fun a ha => ⟨b a ha, Same.free rh.fg (n a ha)⟩, d, o⟩
  | _ => cases hk
/-- THE RULE for a def -/
theorem fn_ok {x qual : Str} {st : Stmt} {f : Addr} {fd : FuncData} {N ps : List Str} {k : Nat} {S : DSp} {t : TSd} (F : Fun K x qual st f fd) (Sc : FnScope N ps (defScope st)) (len : ∀ as P, S as P → as.length = ps.length)
    (hb : ∀ (cdv : Value) (A : Around) (outer : List Env) (s : Shared) (H : Hp) (E : XK) (e0 : Hs), Room k (A.deeper (envOfC qual (defScope st) s.heap.objs.size f cdv)) →
      VSs (cxOf CX0 P w K mg base N qual (defScope st) f cdv A outer s H E).nox e0 WX0 (defBody st) t)
    (hp : ps.length ≤ N.length) (h : ∀ as P, S as P → t { nx := fun _ => P .fz .non, rt := fun k x => k.st = true ∧ P k x } (startD N.length as)) : FnOk P w K mg base CX0 (k + 1) f fd ps (spL K S) := by
  refine F.ok Sc (fun vs H Q E hs => ?_) (fun cdv A outer s H vs Q E hr hs => ?_)
  · obtain ⟨F, H, i, as, P, _, _, _, ar, sp, _⟩ := hs
    rw [ar.length]
    exact len as P sp
  · obtain ⟨F, H', i, as, P', hf, hw, hiv, ar, sp, q⟩ := hs
    obtain ⟨T, hT, r⟩ := (hb cdv A outer s H E (ent F H' H i) hr).run
    refine ⟨T, hT, ?_⟩
    refine r (ent F H' H i) (L2.start N vs) (startD N.length as) _ _ (rep_start hf hw hiv ar (by rw [len as P' sp]; exact hp)) (h as P' sp) ⟨fun s' σ ρ rp x hp => ?_, fun s' σ ρ k v x rp ex rk _ hp => ?_, fun s' σ ρ rp x hp => hp, fun s' σ ρ rp x hp => hp, fun s' σ ρ c d x rp ex rx hp => hp.elim⟩
    · exact q s' .fz .non .non rp.rh .non hp
    · obtain ⟨hk, hp⟩ := hp
      exact q s' k v x rp.rh (rk_rr rp.rh rk hk) hp
end
/-! ### statements -/
section
variable {K : PySem.W.Frag} {e0 s s' : Hs} {σ : St} {ρ : DEnv}
theorem Rep.store {i : Nat} {sl : Sl} {v : V} (r : Rep K e0 s σ ρ) (h : ∀ k x, sl = .v k x → RK K e0.w s k v x ∧ k.sl = true) (hd : ∀ k x, sl = .v k x → ∀ j k' y, ρ[j]? = some (Sl.v k' y) → j ≠ i → ∀ a ∈ k.fp, a ∉ k'.fp) (hm : ∀ t x, sl ≠ .v (.mt t) x) : Rep K e0 s (σ.set i (some v)) (ρ.set i sl) := by
  refine ⟨r.rh, by rw [List.length_set, List.length_set]; exact r.len, fun j k x q => ?_, fun j j' k k' x y q1 q2 hne => ?_, fun j t x q => ?_⟩
  · by_cases e : j = i
    · subst e
      have hj : j < ρ.length := by
        rcases Nat.lt_or_ge j ρ.length with z | z
        · exact z
        · rw [List.getElem?_eq_none_iff.mpr (by rw [List.length_set]; exact z)] at q; cases q
      rw [List.getElem?_set_self hj] at q
      obtain ⟨h1, h2⟩ := h k x (Option.some.inj q)
      exact ⟨v, by rw [List.getElem?_set_self (by rw [r.len]; exact hj)], h1, h2⟩
    · rw [List.getElem?_set_ne (Ne.symm e)] at q
      obtain ⟨v', h1, h2⟩ := r.sl j k x q
      exact ⟨v', by rw [List.getElem?_set_ne (Ne.symm e)]; exact h1, h2⟩
  · have at_ : ∀ (j : Nat) (k : Kd) (x : Dt), (ρ.set i sl)[j]? = some (Sl.v k x) → (j = i ∧ sl = .v k x) ∨ (j ≠ i ∧ ρ[j]? = some (Sl.v k x)) := fun j k x q => by
      by_cases e : j = i
      · subst e
        have hj : j < ρ.length := by
          rcases Nat.lt_or_ge j ρ.length with z | z
          · exact z
          · rw [List.getElem?_eq_none_iff.mpr (by rw [List.length_set]; exact z)] at q; cases q
        rw [List.getElem?_set_self hj] at q
        exact .inl ⟨rfl, Option.some.inj q⟩
      · rw [List.getElem?_set_ne (Ne.symm e)] at q
        exact .inr ⟨e, q⟩
    rcases at_ j k x q1 with ⟨a1, a2⟩ | ⟨a1, a2⟩ <;> rcases at_ j' k' y q2 with ⟨b1, b2⟩ | ⟨b1, b2⟩
    · exact absurd (a1.trans b1.symm) hne
    · exact hd k x a2 j' k' y b2 b1
    · exact fun a ha hb => hd k' y b2 j k x a2 a1 a hb ha
    · exact r.dj j j' k k' x y a2 b2 hne
  · by_cases e : j = i
    · subst e
      have hj : j < ρ.length := by
        rcases Nat.lt_or_ge j ρ.length with z | z
        · exact z
        · rw [List.getElem?_eq_none_iff.mpr (by rw [List.length_set]; exact z)] at q; cases q
      rw [List.getElem?_set_self hj] at q
      exact absurd (Option.some.inj q) (hm t x)
    · rw [List.getElem?_set_ne (Ne.symm e)] at q
      obtain ⟨v', L, h1, h2, h3⟩ := r.mt j t x q
      exact ⟨v', L, h1, by rw [List.getElem?_set_ne (Ne.symm e)]; exact h2, h3⟩
/-- a slot forgotten, its value whatever -/
theorem Rep.forget {i : Nat} (r : Rep K e0 s σ ρ) : Rep K e0 s σ (ρ.set i .no) := by
  have at_ : ∀ (j : Nat) (k : Kd) (x : Dt), (ρ.set i .no)[j]? = some (Sl.v k x) → ρ[j]? = some (Sl.v k x) := fun j k x q => by
    by_cases e : i = j
    · subst e
      rw [List.getElem?_set] at q
      simp at q
    · rw [List.getElem?_set_ne e] at q
      exact q
  exact ⟨r.rh, by rw [List.length_set]; exact r.len, fun j k x q => r.sl j k x (at_ j k x q), fun j j' k k' x y q1 q2 => r.dj j j' k k' x y (at_ j k x q1) (at_ j' k' y q2), fun j t x q => r.mt j t x (at_ j (.mt t) x q)⟩
/-- what a slot's own container is frozen -/
def frzE (i : Nat) (ρ : DEnv) : DEnv := match ρ[i]? with
  | some (.v (.ow _) x) => ρ.set i (.v .fz x)
  | some (.v (.tr _) x) => ρ.set i (.v .fz x)
  | _ => ρ
theorem RK.frz_keep {B : Hp} {k : Kd} {v : V} {x : Dt} {L : List Addr} (hg : ∀ a ∈ L, s.g a = none) (hfg : Same s.f s.g) (hk : ∀ a ∈ k.fp, a ∉ L) (hk2 : k.sl = true) (r : RK K B s k v x) : RK K B (s.frzs L) k v x := by
  have hf := frzs_f hg hfg
  have hgg := frzs_g hg
  have ng : ∀ a, a ∉ L → s.g a = none → (s.frzs L).g a = none := fun a h n => by
    show (if a ∈ L then s.h a else s.g a) = none
    rw [if_neg h]; exact n
  cases k with
  | fz => exact Rp.mono hf r
  | vw => exact Rq.mono hf hgg r
  | ow l =>
    obtain ⟨e1, b, n, c⟩ := r
    exact ⟨e1, b, ng l (hk l (List.mem_singleton.mpr rfl)) n, c.mono hf (Same.refl _)⟩
  | tr t =>
    obtain ⟨e1, b, n, d, c⟩ := r
    exact ⟨e1, b, fun a ha => ng a (hk a ha) (n a ha), d, c.mono hf (Same.refl _)⟩
  | mt t =>
    obtain ⟨e1, n, d, c⟩ := r
    exact ⟨e1, fun a ha => ng a (hk a ha) (n a ha), d, c.mono hf (Same.refl _)⟩
  | vt t => exact ⟨r.1, r.2.mono hf hgg⟩
  | iv I => exact r
  | _ => cases hk2
/-- slot i's own things frozen -/
theorem Rep.freezeL {i : Nat} {k : Kd} {x : Dt} (r : Rep K e0 s σ ρ) (q : ρ[i]? = some (Sl.v k x)) (hb : ∀ a ∈ k.fp, e0.w a = none) (hg : ∀ a ∈ k.fp, s.g a = none) (hr : ∀ v, RK K e0.w s k v x → Rp K (s.frzs k.fp).f v x) :
    ∃ s', s'.h = s.h ∧ s'.w = s.w ∧ Ext s s' ∧ Rep K e0 s' σ (ρ.set i (.v .fz x)) := by
  have hi : i < ρ.length := (List.getElem?_eq_some_iff.mp q).1
  have hf := frzs_f hg r.rh.fg
  have hgg := frzs_g hg
  refine ⟨s.frzs k.fp, rfl, rfl, ⟨hf, hgg, fun _ _ h => h⟩, ⟨frzs_fg r.rh.fg, frzs_gh r.rh.gh, r.rh.hw, r.rh.ef.trans hf, r.rh.eg.trans hgg, fun a h => ?_, r.rh.ew, r.rh.iv, r.rh.ei⟩, by rw [List.length_set]; exact r.len, fun j k' y q' => ?_, fun j j' k1 k2 y z q1 q2 hne => ?_, fun j t y q' => ?_⟩
  · have z : a ∉ k.fp := fun z => h (hb a z)
    show (if a ∈ k.fp then s.h a else s.f a) = e0.f a
    rw [if_neg z]
    exact r.rh.nf a h
  · by_cases e : j = i
    · subst e
      rw [List.getElem?_set_self hi] at q'
      cases q'
      obtain ⟨v, h1, h2, h3⟩ := r.sl j k x q
      exact ⟨v, h1, hr v h2, rfl⟩
    · rw [List.getElem?_set_ne (Ne.symm e)] at q'
      obtain ⟨v', g1, g2, g3⟩ := r.sl j k' y q'
      exact ⟨v', g1, g2.frz_keep hg r.rh.fg (r.dj j i k' k y x q' q e) g3, g3⟩
  · have at_ : ∀ (j : Nat) (k' : Kd) (y : Dt), (ρ.set i (.v .fz x))[j]? = some (Sl.v k' y) → k'.fp = [] ∨ ρ[j]? = some (Sl.v k' y) := fun j k' y q' => by
      by_cases e : j = i
      · subst e
        rw [List.getElem?_set_self hi] at q'
        cases q'
        exact .inl rfl
      · rw [List.getElem?_set_ne (Ne.symm e)] at q'
        exact .inr q'
    intro a ha hb
    rcases at_ j k1 y q1 with z1 | z1
    · rw [z1] at ha; cases ha
    · rcases at_ j' k2 z q2 with z2 | z2
      · rw [z2] at hb; cases hb
      · exact r.dj j j' k1 k2 y z z1 z2 hne a ha hb
  · by_cases e : j = i
    · subst e
      rw [List.getElem?_set_self hi] at q'
      cases q'
    · rw [List.getElem?_set_ne (Ne.symm e)] at q'
      exact r.mt j t y q'
theorem Rep.freeze (i : Nat) (r : Rep K e0 s σ ρ) : ∃ s', s'.h = s.h ∧ s'.w = s.w ∧ Ext s s' ∧ Rep K e0 s' σ (frzE i ρ) := by
  unfold frzE
  split
  · rename_i l x q
    obtain ⟨v, h1, ⟨e1, b, n, c⟩, h3⟩ := r.sl i (.ow l) x q
    have hl : ∀ a ∈ [l], s.g a = none := fun a h => by rw [List.mem_singleton] at h; rw [h]; exact n
    exact r.freezeL q (fun a h => by have := List.mem_singleton.mp h; rw [this]; exact b) hl fun v' rk => by
      obtain ⟨rfl, _, _, c'⟩ := rk
      exact c'.rp (frzs_f hl r.rh.fg) fun o q => by show (s.frzs [l]).f l = some o; rw [Hs.frzs_at (List.mem_singleton.mpr rfl)]; exact q
  · rename_i t x q
    obtain ⟨v, h1, ⟨e1, b, n, d, c⟩, h3⟩ := r.sl i (.tr t) x q
    exact r.freezeL q b n fun v' rk => by
      obtain ⟨rfl, _, _, _, c'⟩ := rk
      exact c'.rp (frzs_f n r.rh.fg) fun a ha o q => by rw [Hs.frzs_at ha]; exact q
  · exact ⟨s, rfl, rfl, Ext.refl s, r⟩
end
/-- weaker knowledge: slots forgotten, own containers frozen -/
inductive Wk : DEnv → DEnv → Prop
  | refl (ρ : DEnv) : Wk ρ ρ
  | no {ρ ρ' : DEnv} (i : Nat) : Wk (ρ.set i .no) ρ' → Wk ρ ρ'
  | fz {ρ ρ' : DEnv} (i : Nat) : Wk (frzE i ρ) ρ' → Wk ρ ρ'
theorem Wk.rep {K : PySem.W.Frag} {e0 : Hs} {ρ ρ' : DEnv} (w : Wk ρ ρ') : ∀ {s : Hs} {σ : St}, Rep K e0 s σ ρ → ∃ s', s'.h = s.h ∧ s'.w = s.w ∧ Ext s s' ∧ Rep K e0 s' σ ρ' := by
  induction w with
  | refl ρ => exact fun r => ⟨_, rfl, rfl, Ext.refl _, r⟩
  | no i w ih => exact fun r => ih r.forget
  | fz i w ih =>
    intro s σ r
    obtain ⟨s1, h1, w1, x1, r1⟩ := r.freeze i
    obtain ⟨s2, h2, w2, x2, r2⟩ := ih r1
    exact ⟨s2, h2.trans h1, w2.trans w1, x1.trans x2, r2⟩
end Tq
set_option Elab.async false
set_option linter.all false
set_option autoImplicit false
set_option maxRecDepth 100000
set_option maxHeartbeats 4000000
namespace Tq
open PySem PySem.Spec L2
open PyProof.Rows hiding St
section
variable {X : Cx} {e0 : Hs} {W : WX} {pos : Pos} {st : Stmt} {rest : List Stmt}
/-- what is new stands apart from all slots -/
theorem Rep.apart {K : PySem.W.Frag} {s : Hs} {σ : St} {ρ : DEnv} (rp : Rep K e0 s σ ρ) {a : Addr} (h : s.w a = none) {j : Nat} {k : Kd} {y : Dt} (q : ρ[j]? = some (Sl.v k y)) : a ∉ k.fp := fun ha => by
  obtain ⟨v, _, r, _⟩ := rp.sl j k y q
  have hh : s.h a ≠ none := by
    cases k with
    | ow l => rw [List.mem_singleton.mp ha]; exact r.2.2.2.there
    | tr t => exact r.2.2.2.2.there a ha
    | mt t => exact r.2.2.2.there a ha
    | _ => cases ha
  exact Same.some_ne rp.rh.hw hh h
/-! ### blocks -/
def sNil : TSd := fun D ρ => D.nx ρ
def sSeq (t u : TSd) : TSd := fun D ρ => t { D with nx := u D } ρ
theorem vss_nil : VSs X e0 W [] sNil := ⟨tNext, pss_nil, fun s σ ρ D D' rp t l => l.nx s σ ρ rp (Ext.refl s) t⟩
theorem vss_cons {t u : TSd} (h1 : VS X e0 W st t) (h2 : VSs X e0 W rest u) : VSs X e0 W (st :: rest) (sSeq t u) := by
  obtain ⟨T, hT, r⟩ := h1.run
  obtain ⟨U, hU, r'⟩ := h2.run
  refine ⟨_, pss_cons hT hU, fun s σ ρ D D' rp t l => ?_⟩
  exact r s σ ρ _ _ rp t ⟨fun s' σ' ρ' rp' x q => r' s' σ' ρ' D D' rp' q (l.ext x), l.rt, l.bk, l.ct, l.ex⟩
theorem vss_one {t : TSd} (h1 : VS X e0 W st t) : VSs X e0 W [st] t := by
  obtain ⟨T, hT, r⟩ := h1.run
  exact ⟨_, pss_one hT, r⟩
/-- ahead of a statement: what slot i owns is frozen -/
def sFz (i : Nat) (t : TSd) : TSd := fun D ρ => t D (frzE i ρ)
theorem vs_fz (i : Nat) {t : TSd} (h : VS X e0 W st t) : VS X e0 W st (sFz i t) := by
  obtain ⟨T, hT, r⟩ := h.run
  refine ⟨T, hT, fun s σ ρ D D' rp t l => ?_⟩
  obtain ⟨s1, h1, w1, x1, r1⟩ := rp.freeze i
  have q := r s1 σ _ D D' r1 t (l.ext x1)
  rw [w1] at q
  exact q
/-- ahead of a statement: slots forgotten, containers frozen -/
def sWk (t : TSd) : TSd := fun D ρ => ∃ ρ', Wk ρ ρ' ∧ t D ρ'
theorem vs_wk {t : TSd} (h : VS X e0 W st t) : VS X e0 W st (sWk t) := by
  obtain ⟨T, hT, r⟩ := h.run
  refine ⟨T, hT, fun s σ ρ D D' rp t l => ?_⟩
  obtain ⟨ρ', w, t⟩ := t
  obtain ⟨s1, h1, w1, x1, r1⟩ := w.rep rp
  have q := r s1 σ _ D D' r1 t (l.ext x1)
  rw [w1] at q
  exact q
/-! ### small statements -/
def sPass : TSd := fun D ρ => D.nx ρ
def sBreak : TSd := fun D ρ => D.bk ρ
def sCont : TSd := fun D ρ => D.ct ρ
theorem vs_pass : VS X e0 W (.Pass pos) sPass := ⟨_, ps_pass, fun s σ ρ D D' rp t l => l.nx s σ ρ rp (Ext.refl s) t⟩
theorem vs_break : VS X e0 W (.Break pos) sBreak := ⟨_, ps_break, fun s σ ρ D D' rp t l => l.bk s σ ρ rp (Ext.refl s) t⟩
theorem vs_cont : VS X e0 W (.Continue pos) sCont := ⟨_, ps_continue, fun s σ ρ D D' rp t l => l.ct s σ ρ rp (Ext.refl s) t⟩
theorem vs_doc {x j pos pos'} : VS X e0 W (.Expr (.Constant (.str x) j pos) pos') sPass := ⟨_, ps_doc, fun s σ ρ D D' rp t l => l.nx s σ ρ rp (Ext.refl s) t⟩
/-- an expression, its value dropped -/
def sExpr (te : TEd) : TSd := fun D ρ => te ρ fun _ _ => D.nx ρ
theorem vs_expr {e : Expr} {T : TE} {te : TEd} (h : VE X e0 e T te) (hs : swapsWith e none pos.line X.env = pure false := by rfl) : VS X e0 W (.Expr e pos) (sExpr te) :=
  ⟨_, ps_expr h.pe hs, fun s σ ρ D D' rp t l => h.run s σ ρ _ _ rp t fun s1 k1 v1 x1 g1 r1 t1 => l.nx s1 σ ρ (rp.grow g1) g1.ext t1⟩
def sRet (te : TEd) : TSd := fun D ρ => te ρ (D.rtm ρ)
theorem vs_ret {e : Expr} {T : TE} {te : TEd} (h : VE X e0 e T te) : VS X e0 W (.Return (some e) pos) (sRet te) :=
  ⟨_, ps_ret h.pe, fun s σ ρ D D' rp t l => h.run s σ ρ _ _ rp t fun s1 k1 v1 x1 g1 r1 t1 => l.rt s1 σ ρ k1 v1 x1 (rp.grow g1) g1.ext (r1.base fun a h => rp.rh.ewn h) (fun a ha j t y q => rp.apart (r1.rfp a ha) q) t1⟩
def sRetN : TSd := fun D ρ => D.rtm ρ .fz .non
theorem vs_retN : VS X e0 W (.Return none pos) sRetN := ⟨_, ps_retN, fun s σ ρ D D' rp t l => l.rt s σ ρ .fz .non .non rp (Ext.refl s) .non (fun a ha => by cases ha) t⟩
/-- return of a name: what it owns is handed on -/
def Kd.ret : Kd → Kd
  | .ow _ => .fr
  | .tr t => .ft t
  | k => k
def retV (o : Option Sl) (P : DK) : Prop := match o with
  | some (.v k x) => P k.ret x
  | _ => False
def sRetV (i : Nat) : TSd := fun D ρ => retV ρ[i]? (D.rtm ρ)
theorem vs_retV (i : Nat) {x : Str} {p : Pos} (h : PE X (.Name x p) (tVar i)) : VS X e0 W (.Return (some (.Name x p)) pos) (sRetV i) := by
  refine ⟨_, ps_ret h, fun s σ ρ D D' rp t l => ?_⟩
  unfold sRetV retV at t
  cases q : ρ[i]? with
  | none => rw [q] at t; exact t.elim
  | some sl =>
    rw [q] at t
    cases sl with
    | no => exact t.elim
    | v kd y =>
      obtain ⟨v, h1, h2, h3⟩ := rp.sl i kd y q
      refine ⟨v, h1, ?_⟩
      cases kd with
      | ow a =>
        obtain ⟨e1, b, n, c⟩ := h2
        subst e1
        exact l.rt s σ ρ .fr _ y rp (Ext.refl s) ⟨a, rfl, b, n, c⟩ (fun a' ha' j t' y' q' => rp.dj i j _ _ y y' q q' (fun z => by subst z; rw [q] at q'; cases q') a' ha') t
      | tr t' => exact l.rt s σ ρ (.ft t') v y rp (Ext.refl s) h2 (fun a' ha' j t2 y' q' => rp.dj i j _ _ y y' q q' (fun z => by subst z; rw [q] at q'; cases q') a' ha') t
      | fz => exact l.rt s σ ρ .fz v y rp (Ext.refl s) h2 (fun a ha => by cases ha) t
      | vw => exact l.rt s σ ρ .vw v y rp (Ext.refl s) h2 (fun a ha => by cases ha) t
      | mt t' => exact l.rt s σ ρ (.mt t') v y rp (Ext.refl s) h2 (fun a ha => by cases ha) t
      | vt t' => exact l.rt s σ ρ (.vt t') v y rp (Ext.refl s) h2 (fun a ha => by cases ha) t
      | iv I => exact l.rt s σ ρ (.iv I) v y rp (Ext.refl s) h2 (fun a ha => by cases ha) t
      | _ => cases h3
/-! ### name = e -/
def stor (i : Nat) (D : DEnv → Prop) (ρ : DEnv) (k : Kd) (x : Dt) : Prop := match k with
  | .fz => D (ρ.set i (.v .fz x))
  | .vw => D (ρ.set i (.v .vw x))
  | .fr => ∀ l, D (ρ.set i (.v (.ow l) x))
  | .ft t => D (ρ.set i (.v (.tr t) x))
  | .vt t => D (ρ.set i (.v (.vt t) x))
  | .iv I => D (ρ.set i (.v (.iv I) x))
  | _ => False
theorem stor_ok {K : PySem.W.Frag} {s s1 : Hs} {σ : St} {ρ : DEnv} {i : Nat} {D : DEnv → Prop} {k : Kd} {v : V} {x : Dt} {Q : St → Hp → Prop} (rp : Rep K e0 s σ ρ) (g : Grow s s1) (r : RK K s.w s1 k v x) (t : stor i D ρ k x)
    (h : ∀ ρ', Rep K e0 s1 (σ.set i (some v)) ρ' → D ρ' → Q (σ.set i (some v)) s1.w) : Q (σ.set i (some v)) s1.w := by
  have rp1 := rp.grow g
  have low : ∀ (k' : Kd), RK K e0.w s1 k' v x → k'.sl = true → k'.fp = [] → (∀ t, k' ≠ .mt t) → Rep K e0 s1 (σ.set i (some v)) (ρ.set i (.v k' x)) := fun k' r' hs hf hm =>
    rp1.store (fun k x e => by cases e; exact ⟨r', hs⟩) (fun k2 x2 e j k3 y q hne a ha => by cases e; rw [hf] at ha; cases ha) (fun t x e => by cases e; exact hm t rfl)
  cases k with
  | fz => exact h _ (low .fz r rfl rfl (fun _ z => nomatch z)) t
  | vw => exact h _ (low .vw r rfl rfl (fun _ z => nomatch z)) t
  | vt t' => exact h _ (low (.vt t') r rfl rfl (fun _ z => nomatch z)) t
  | iv I => exact h _ (low (.iv I) r rfl rfl (fun _ z => nomatch z)) t
  | fr =>
    obtain ⟨l, e1, b, n, c⟩ := r
    refine h _ (rp1.store (fun k x e => by cases e; exact ⟨⟨e1, rp.rh.ewn b, n, c⟩, rfl⟩) (fun k2 x2 e j k3 y q hne a ha => ?_) (fun t x e => by cases e)) (t l)
    cases e
    rw [List.mem_singleton.mp ha]
    exact rp.apart b q
  | ft t' =>
    obtain ⟨e1, b, n, d, c⟩ := r
    refine h _ (rp1.store (fun k x e => by cases e; exact ⟨⟨e1, fun a ha => rp.rh.ewn (b a ha), n, d, c⟩, rfl⟩) (fun k2 x2 e j k3 y q hne a ha => ?_) (fun t x e => by cases e)) t
    cases e
    exact rp.apart (b a ha) q
  | _ => exact t.elim
def sSet (i : Nat) (te : TEd) : TSd := fun D ρ => te ρ fun k x => stor i D.nx ρ k x
theorem vs_set {i : Nat} {e : Expr} {T : TE} {te : TEd} (h : VE X e0 e T te) (hp : PS X st (tAsg T (gName i))) : VS X e0 W st (sSet i te) :=
  ⟨_, hp, fun s σ ρ D D' rp t l => h.run s σ ρ _ _ rp t fun s1 k1 v1 x1 g1 r1 t1 => stor_ok (Q := fun σ H => D.nx σ H) rp g1 r1 t1 fun ρ' rp' q => l.nx s1 _ ρ' rp' g1.ext q⟩
/-- .. frozen at once -/
def storF (i : Nat) (D : DEnv → Prop) (ρ : DEnv) (k : Kd) (x : Dt) : Prop := match k with
  | .fz => D (ρ.set i (.v .fz x))
  | .fr => D (ρ.set i (.v .fz x))
  | .ft _ => D (ρ.set i (.v .fz x))
  | .vw => D (ρ.set i (.v .vw x))
  | .vt t => D (ρ.set i (.v (.vt t) x))
  | .iv I => D (ρ.set i (.v (.iv I) x))
  | _ => False
theorem Rep.low {K : PySem.W.Frag} {s : Hs} {σ : St} {ρ : DEnv} {i : Nat} {k : Kd} {v : V} {x : Dt} (rp : Rep K e0 s σ ρ) (r : RK K e0.w s k v x) (hs : k.sl = true) (hf : k.fp = []) (hm : ∀ t, k ≠ .mt t := by intro _ z; cases z) : Rep K e0 s (σ.set i (some v)) (ρ.set i (.v k x)) :=
  rp.store (fun k x e => by cases e; exact ⟨r, hs⟩) (fun k2 x2 e j k3 y q hne a ha => by cases e; rw [hf] at ha; cases ha) (fun t x e => by cases e; exact hm t rfl)
theorem storF_ok {K : PySem.W.Frag} {s s1 : Hs} {σ : St} {ρ : DEnv} {i : Nat} {D : DEnv → Prop} {k : Kd} {v : V} {x : Dt} {Q : St → Hp → Prop} (rp : Rep K e0 s σ ρ) (g : Grow s s1) (r : RK K s.w s1 k v x) (t : storF i D ρ k x)
    (h : ∀ s2 ρ', Grow s s2 → Rep K e0 s2 (σ.set i (some v)) ρ' → D ρ' → Q (σ.set i (some v)) s2.w) : Q (σ.set i (some v)) s1.w := by
  have rp1 := rp.grow g
  have fin : k.st = true → D (ρ.set i (.v .fz x)) → Q (σ.set i (some v)) s1.w := fun hk q => by
    obtain ⟨s2, g2, e2, w2, f2, p2⟩ := r.freeze g hk
    have z := h s2 _ g2 ((rp.grow g2).low (i := i) (k := .fz) p2 rfl rfl) q
    rw [w2] at z
    exact z
  cases k with
  | fz => exact fin rfl t
  | fr => exact fin rfl t
  | ft t' => exact fin rfl t
  | vw => exact h s1 _ g (rp1.low (k := .vw) r rfl rfl) t
  | vt t' => exact h s1 _ g (rp1.low (k := .vt t') r rfl rfl) t
  | iv I => exact h s1 _ g (rp1.low (k := .iv I) r rfl rfl) t
  | _ => exact t.elim
def sSetF (i : Nat) (te : TEd) : TSd := fun D ρ => te ρ fun k x => storF i D.nx ρ k x
theorem vs_setF {i : Nat} {e : Expr} {T : TE} {te : TEd} (h : VE X e0 e T te) (hp : PS X st (tAsg T (gName i))) : VS X e0 W st (sSetF i te) :=
  ⟨_, hp, fun s σ ρ D D' rp t l => h.run s σ ρ _ _ rp t fun s1 k1 v1 x1 g1 r1 t1 => storF_ok (Q := fun σ H => D.nx σ H) rp g1 r1 t1 fun s2 ρ' g2 rp' q => l.nx s2 _ ρ' rp' g2.ext q⟩
/-! ### if, while -/
def selS (b : Bool) (f g : DEnv → Prop) (ρ : DEnv) : Prop := if b = true then f ρ else g ρ
def sIf (tc : TTd) (t u : TSd) : TSd := fun D ρ => tc ρ fun b => selS b (t D) (u D) ρ
theorem vs_if {c : Expr} {a b : List Stmt} {T : TT} {tc : TTd} {t u : TSd} (hc : VT X e0 c T tc) (ha : VSs X e0 W a t) (hb : VSs X e0 W b u) : VS X e0 W (.If c a b pos) (sIf tc t u) := by
  obtain ⟨A, hA, ra⟩ := ha.run
  obtain ⟨B, hB, rb⟩ := hb.run
  refine ⟨_, ps_if hc.pe hA hB, fun s σ ρ D D' rp t l => hc.run s σ ρ _ _ rp t fun s1 b g1 t1 => ?_⟩
  cases b with
  | true => exact ra s1 σ ρ D D' (rp.grow g1) t1 (l.ext g1.ext)
  | false => exact rb s1 σ ρ D D' (rp.grow g1) t1 (l.ext g1.ext)
def sWhile (tc : TTd) (tb : TSd) : TSd := fun D ρ => ∃ W : Nat → DEnv → Prop, (∃ m ρ', Wk ρ ρ' ∧ W m ρ') ∧ ∀ m ρ, W m ρ → tc ρ fun b =>
  selS b (tb { D with nx := fun ρ2 => ∃ ρ3 m', m' < m ∧ Wk ρ2 ρ3 ∧ W m' ρ3, ct := fun ρ2 => ∃ ρ3 m', m' < m ∧ Wk ρ2 ρ3 ∧ W m' ρ3, bk := D.nx }) D.nx ρ
theorem vs_while {c : Expr} {body : List Stmt} {T : TT} {tc : TTd} {tb : TSd} (hp : PassesOwn (model X.prog X.w) X.A X.env X.xe) (hc : VT X e0 c T tc) (hb : VSs X e0 W body tb) : VS X e0 W (.While c body [] pos) (sWhile tc tb) := by
  obtain ⟨B, hB, rb⟩ := hb.run
  refine ⟨_, ps_while hp hc.pe hB, fun s σ ρ D D' rp t l => ?_⟩
  obtain ⟨W', ⟨m0, ρ0, w0, i0⟩, turn⟩ := t
  obtain ⟨s0, _, h0, x0, r0⟩ := w0.rep rp
  refine ⟨fun m σ H => ∃ s' ρ', s'.w = H ∧ Rep X.K e0 s' σ ρ' ∧ Ext s s' ∧ W' m ρ', ⟨m0, s0, ρ0, h0, r0, x0, i0⟩, ?_⟩
  rintro m σ' H' ⟨s', ρ', rfl, rp', x', w'⟩
  refine hc.run s' σ' ρ' _ _ rp' (turn m ρ' w') fun s1 b g1 t1 => ?_
  have rp1 := rp'.grow g1
  have x1 := x'.trans g1.ext
  cases b with
  | true =>
    have again : ∀ s2 σ2 ρ2, Rep X.K e0 s2 σ2 ρ2 → Ext s1 s2 → (∃ ρ3 m', m' < m ∧ Wk ρ2 ρ3 ∧ W' m' ρ3) → ∃ m', m' < m ∧ ∃ s' ρ', s'.w = s2.w ∧ Rep X.K e0 s' σ2 ρ' ∧ Ext s s' ∧ W' m' ρ' := fun s2 σ2 ρ2 rp2 x2 ⟨ρ3, m', hm, w3, i3⟩ => by
      obtain ⟨s3, _, h3, x3, r3⟩ := w3.rep rp2
      exact ⟨m', hm, s3, ρ3, h3, r3, (x1.trans x2).trans x3, i3⟩
    refine ⟨fun σ2 H2 => ∃ m', m' < m ∧ ∃ s' ρ', s'.w = H2 ∧ Rep X.K e0 s' σ2 ρ' ∧ Ext s s' ∧ W' m' ρ', fun σ2 H2 q => q, ?_⟩
    exact rb s1 σ' ρ' _ _ rp1 t1 ⟨again, (l.ext x1).rt, fun s2 σ2 ρ2 rp2 x2 q => l.nx s2 σ2 ρ2 rp2 (x1.trans x2) q, again, (l.ext x1).ex⟩
  | false => exact l.nx s1 σ' ρ' rp1 x1 t1
/-! ### own things changed -/
theorem Rep.mutK {K : PySem.W.Frag} {s : Hs} {σ : St} {ρ : DEnv} {i : Nat} {l : Addr} {k k' : Kd} {x x' : Dt} (r : Rep K e0 s σ ρ) (hi : ρ[i]? = some (Sl.v k x)) (hl : l ∈ k.fp) (o : HO) (hs : k'.sl = true) (hk : ∀ a ∈ k'.fp, a ∈ k.fp ∨ ∀ (j : Nat) (k2 : Kd) (y : Dt), ρ[j]? = some (Sl.v k2 y) → a ∉ k2.fp)
    (hm : ∀ t, k' = .mt t → (∃ t', k = .mt t') ∧ ∀ a ∈ t.fp, a ∈ k.fp ∨ e0.w a = none)
    (hc : ∀ v, RK K e0.w s k v x → RK K e0.w ⟨s.f, s.g, upd s.h l o, upd s.w l o, s.i, s.m⟩ k' v x') :
    Rep K e0 ⟨s.f, s.g, upd s.h l o, upd s.w l o, s.i, s.m⟩ σ (ρ.set i (.v k' x')) ∧ Ext s ⟨s.f, s.g, upd s.h l o, upd s.w l o, s.i, s.m⟩ := by
  have hlt : i < ρ.length := (List.getElem?_eq_some_iff.mp hi).1
  obtain ⟨v, h1, h2, h3⟩ := r.sl i k x hi
  have hgl : s.g l = none ∧ s.h l ≠ none := by
    cases k with
    | ow l' => rw [List.mem_singleton.mp hl]; exact ⟨h2.2.2.1, h2.2.2.2.there⟩
    | tr t => exact ⟨h2.2.2.1 l hl, h2.2.2.2.2.there l hl⟩
    | mt t => exact ⟨h2.2.1 l hl, h2.2.2.2.there l hl⟩
    | _ => cases hl
  refine ⟨⟨⟨r.rh.fg, fun a u q => ?_, Same.upd r.rh.hw, r.rh.ef, r.rh.eg, r.rh.nf, fun a h => upd_some (r.rh.ew a h), r.rh.iv.upd (r.rh.iv.known hgl.2), r.rh.ei⟩, by rw [List.length_set]; exact r.len, fun j kj y q => ?_, fun j j' k1 k2 y z q1 q2 hne => ?_, fun j t y q => ?_⟩, ⟨Same.refl _, Same.refl _, fun _ _ h => h⟩⟩
  · show upd s.h l o a = some u
    rw [upd_ne (ne_of_none q hgl.1)]
    exact r.rh.gh a u q
  · by_cases e : j = i
    · subst e
      rw [List.getElem?_set_self hlt] at q
      cases q
      exact ⟨v, h1, hc v h2, hs⟩
    · rw [List.getElem?_set_ne (Ne.symm e)] at q
      obtain ⟨v', g1, g2, g3⟩ := r.sl j kj y q
      have hn := r.dj i j k kj x y hi q (fun z => e z.symm) l hl
      refine ⟨v', g1, ?_, g3⟩
      cases kj with
      | fz => exact g2
      | vw => exact g2
      | vt t => exact g2
      | iv I => exact g2
      | ow l' =>
        obtain ⟨f1, f2, f3, f4⟩ := g2
        have hne : l' ≠ l := fun z => hn (z ▸ List.mem_singleton.mpr rfl)
        exact ⟨f1, f2, f3, f4.keep (Same.refl _) fun u q => by show upd s.h l o l' = _; rw [upd_ne hne]; exact q⟩
      | tr t =>
        obtain ⟨f1, f2, f3, f4, f5⟩ := g2
        exact ⟨f1, f2, f3, f4, f5.keep (Same.refl _) fun a ha u q => by show upd s.h l o a = _; rw [upd_ne (fun (z : a = l) => hn (by rw [← z]; exact ha))]; exact q⟩
      | mt t =>
        obtain ⟨f1, f3, f4, f5⟩ := g2
        exact ⟨f1, f3, f4, f5.keep (Same.refl _) fun a ha u q => by show upd s.h l o a = _; rw [upd_ne (fun (z : a = l) => hn (by rw [← z]; exact ha))]; exact q⟩
      | _ => cases g3
  · have at_ : ∀ (j : Nat) (kj : Kd) (y : Dt), (ρ.set i (.v k' x'))[j]? = some (Sl.v kj y) → (j = i ∧ kj = k') ∨ (j ≠ i ∧ ρ[j]? = some (Sl.v kj y)) := fun j kj y q => by
      by_cases e : j = i
      · subst e
        rw [List.getElem?_set_self hlt] at q
        cases q
        exact .inl ⟨rfl, rfl⟩
      · rw [List.getElem?_set_ne (Ne.symm e)] at q
        exact .inr ⟨e, q⟩
    intro a ha hb
    rcases at_ j k1 y q1 with ⟨a1, rfl⟩ | ⟨a1, a2⟩ <;> rcases at_ j' k2 z q2 with ⟨b1, rfl⟩ | ⟨b1, b2⟩
    · exact hne (a1.trans b1.symm)
    · rcases hk a ha with h | h
      · exact r.dj i j' k k2 x z hi b2 (fun z => b1 z.symm) a h hb
      · exact h j' k2 z b2 hb
    · rcases hk a hb with h | h
      · exact r.dj i j k k1 x y hi a2 (fun z => a1 z.symm) a h ha
      · exact h j k1 y a2 ha
    · exact r.dj j j' k1 k2 y z a2 b2 hne a ha hb
  · by_cases e : j = i
    · subst e
      rw [List.getElem?_set_self hlt] at q
      cases q
      obtain ⟨⟨t', rfl⟩, hn⟩ := hm t rfl
      obtain ⟨v', L, g1, g2, g3⟩ := r.mt j t' x hi
      exact ⟨v', L, g1, g2, fun a ha => (hn a ha).elim (g3 a) .inr⟩
    · rw [List.getElem?_set_ne (Ne.symm e)] at q
      exact r.mt j t y q
theorem Rep.mut {K : PySem.W.Frag} {s : Hs} {σ : St} {ρ : DEnv} {i : Nat} {l : Addr} {x x' : Dt} (r : Rep K e0 s σ ρ) (hi : ρ[i]? = some (Sl.v (Kd.ow l) x)) (o : HO) (hc : Ow K s.f (upd s.h l o) l x') :
    Rep K e0 ⟨s.f, s.g, upd s.h l o, upd s.w l o, s.i, s.m⟩ σ (ρ.set i (.v (.ow l) x')) ∧ Ext s ⟨s.f, s.g, upd s.h l o, upd s.w l o, s.i, s.m⟩ :=
  r.mutK hi (List.mem_singleton.mpr rfl) o rfl (fun a ha => .inl ha) (fun _ z => nomatch z) fun v h => ⟨h.1, h.2.1, h.2.2.1, hc⟩
def appS (o : Option Sl) (i : Nat) (te : TEd) (D : EndsD) (ρ : DEnv) : Prop := match o with
  | some (.v (.ow l) (.lst ds)) => te ρ fun k x => k.st = true ∧ ds.length < 16777216 ∧ D.nx (ρ.set i (.v (.ow l) (.lst (ds ++ [x]))))
  | _ => False
def sApp (i : Nat) (te : TEd) : TSd := fun D ρ => appS ρ[i]? i te D ρ
theorem Ow.lst {K : PySem.W.Frag} {F H : Hp} {l : Addr} {ds : List Dt} (c : Ow K F H l (.lst ds)) : ∃ xs, H l = some (.lst xs) ∧ RpL K F xs ds := by
  rcases c with ⟨xs, ds', e2, h, r⟩ | ⟨kvs, ds', e2, h, r⟩
  · cases e2; exact ⟨xs, h, r⟩
  · cases e2
theorem TE.var_own {K : PySem.W.Frag} {s : Hs} {σ : St} {ρ : DEnv} {i : Nat} {l : Addr} {x : Dt} (r : Rep K e0 s σ ρ) (hi : ρ[i]? = some (Sl.v (Kd.ow l) x)) : σ[i]? = some (some (V.ref l)) ∧ Ow K s.f s.h l x := by
  obtain ⟨v, h1, ⟨e1, b, n, c⟩, h3⟩ := r.sl i _ x hi
  subst e1
  exact ⟨h1, c⟩
theorem vs_app {i : Nat} {e : Expr} {T : TE} {te : TEd} (h : VE X e0 e T te) (hp : PS X st (tDrop (tBM X.K "list" rAppend (tVar i) (tCons T tNil)))) : VS X e0 W st (sApp i te) := by
  refine ⟨_, hp, fun s σ ρ D D' rp t l => ?_⟩
  unfold sApp appS at t
  split at t
  · rename_i a ds q
    obtain ⟨h1, c⟩ := TE.var_own rp q
    obtain ⟨xs, h2, r2⟩ := c.lst
    refine ⟨_, h1, .inl ⟨rfl, _, .inl (.inl (rp.rh.hw _ _ h2))⟩, ?_⟩
    refine h.run s σ ρ _ _ rp t fun s1 k1 v1 x1 g1 r1 t1 => ?_
    obtain ⟨hk, hl, t1⟩ := t1
    obtain ⟨s2, g2, e2, w2, f2, p2⟩ := r1.freeze g1 hk
    have rp2 := rp.grow g2
    have h3 : s2.h a = some (.lst xs) := g2.h _ _ h2
    refine ⟨a, xs, v1, rfl, rfl, by rw [← w2]; exact g2.hw _ _ h3, by rw [r2.length, sizeLine_eq]; exact hl, ?_⟩
    obtain ⟨rp3, x3⟩ := rp2.mut q (.lst (xs ++ [v1])) (x' := .lst (ds ++ [x1])) (.inl ⟨_, _, rfl, upd_same, (r2.mono g2.f).app (.cons p2 .nil)⟩)
    have z := l.nx _ σ _ rp3 (g2.ext.trans x3) t1
    rw [← w2]
    exact z
  · exact t.elim
/-- x[i] = e of an own list -/
def setIxN (o : Option Nat) (i : Nat) (l : Addr) (ds : List Dt) (y : Dt) (D : EndsD) (ρ : DEnv) : Prop := match o with
  | some j => D.nx (ρ.set i (.v (.ow l) (.lst (ds.set j y))))
  | none => False
def setIxZ (z : Dt) (i : Nat) (l : Addr) (ds : List Dt) (y : Dt) (D : EndsD) (ρ : DEnv) : Prop := match z with
  | .int n => setIxN (ixN ds.length n) i l ds y D ρ
  | _ => False
def setIxS (o : Option Sl) (i : Nat) (tix te : TEd) (D : EndsD) (ρ : DEnv) : Prop := match o with
  | some (.v (.ow l) (.lst ds)) => te ρ fun k y => k.st = true ∧ tix ρ fun _ z => setIxZ z i l ds y D ρ
  | _ => False
def sSetIx (i : Nat) (tix te : TEd) : TSd := fun D ρ => setIxS ρ[i]? i tix te D ρ
theorem vs_setIx {i : Nat} {e ie : Expr} {T Ti : TE} {te tix : TEd} (h : VE X e0 e T te) (h' : VE X e0 ie Ti tix) (hp : PS X st (tAsg T (gSub (tVar i) Ti rSetL))) : VS X e0 W st (sSetIx i tix te) := by
  refine ⟨_, hp, fun s σ ρ D D' rp t l => ?_⟩
  unfold sSetIx setIxS at t
  split at t
  · rename_i a ds q
    obtain ⟨h1, c⟩ := TE.var_own rp q
    obtain ⟨xs, h2, r2⟩ := c.lst
    refine h.run s σ ρ _ (fun v H => gSub (tVar i) Ti rSetL v σ H D.nx) rp t fun s1 k1 v1 x1 g1 r1 t1 => ?_
    obtain ⟨hk, t1⟩ := t1
    obtain ⟨s2, g2, e2, w2, f2, p2⟩ := r1.freeze g1 hk
    have rp2 := rp.grow g2
    rw [← w2]
    refine ⟨_, h1, ?_⟩
    refine h'.run s2 σ ρ _ (fun iv H => rSetL (.ref a) iv v1 H fun H3 => D.nx σ H3) rp2 t1 fun s3 k3 v3 x3 g3 r3 t3 => ?_
    have rp3 := rp2.grow g3
    cases x3 <;> first | exact t3.elim | skip
    rename_i n
    cases r3.isint
    revert t3
    show (match ixN ds.length n with
      | some j => D'.nx (List.set ρ i (Sl.v (Kd.ow a) (Dt.lst (ds.set j x1))))
      | none => False) → _
    cases en : ixN ds.length n with
    | none => exact fun z => z.elim
    | some j =>
      intro t3
      have h3 : s3.h a = some (.lst xs) := (g2.trans g3).h _ _ h2
      refine ⟨a, xs, n, j, rfl, rfl, g3.hw _ _ h3, by rw [r2.length]; exact en, ?_⟩
      obtain ⟨rp4, x4⟩ := rp3.mut q (.lst (xs.set j v1)) (x' := .lst (ds.set j x1)) (.inl ⟨_, _, rfl, upd_same, RpL.set (p2.mono g3.f) j (r2.mono (g2.trans g3).f)⟩)
      exact l.nx _ σ _ rp4 ((g2.trans g3).ext.trans x4) t3
  · exact t.elim
/-! ### name op= e -/
def augS (o : Option Sl) (i : Nat) (d : R2d) (te : TEd) (D : EndsD) (ρ : DEnv) : Prop := match o with
  | some (.v .fz x) => te ρ fun k' y => k'.lf = true ∧ d x y fun k z => storF i D.nx ρ k z
  | _ => False
def sAug (i : Nat) (d : R2d) (te : TEd) : TSd := fun D ρ => augS ρ[i]? i d te D ρ
theorem vs_aug {i : Nat} {e : Expr} {op : Operator} {T : TE} {te : TEd} {R : R2} {d : R2d} (ho : VOp X (inplaceOp op) R d) (h : VE X e0 e T te) (hp : PIp X op R → PS X st (tAug i T R)) : VS X e0 W st (sAug i d te) := by
  refine ⟨_, hp fun pins s σ H x y v u Q I r1 r2 q => ho.pe pins s σ H x y v u Q I r1 r2 q, fun s σ ρ D D' rp t l => ?_⟩
  unfold sAug augS at t
  split at t
  · rename_i x q
    obtain ⟨v, h1, r0, h3⟩ := rp.sl i _ x q
    refine ⟨v, h1, ?_⟩
    refine h.run s σ ρ _ (fun y H1 => R v y H1 fun z H2 => D.nx (σ.set i (some z)) H2) rp t fun s1 k1 v1 x1 g1 r1 t1 => ?_
    have rp1 := rp.grow g1
    obtain ⟨hk1, t1⟩ := t1
    refine ho.run s1 v v1 x x1 _ _ rp1.self (.inl (Rp.mono g1.f r0)) (r1.rq rp1.rh hk1) t1 fun s2 k2 w z g2 r2 t2 => ?_
    exact storF_ok (Q := fun σ H => D.nx σ H) rp1 g2 r2 t2 fun s3 ρ' g3 rp' q => l.nx s3 _ ρ' rp' (g1.trans g3).ext q
  · exact t.elim
end
section
variable {X : Cx}
def dIAdd : R2d := fun x y P => match x, y with
  | .int i, .int j => P .fz (.int (i + j))
  | .str a, .str b => a.length + b.length ≤ 16777216 ∧ P .fz (.str (a ++ b))
  | _, _ => False
theorem vio_add : VOp X (inplaceOp .Add) (fun x y H Q => rI0 (fun i j => .int (i + j)) x y H Q ∨ rAddS x y H Q) dIAdd := by
  have hs : VOp X (inplaceOp .Add) rAddS (dStr2 (fun a b => .str (a ++ b)) fun a b => a.length + b.length ≤ 16777216) := by
    refine ⟨iop_add_str, fun s v u x y P Q gr q1 q2 d k => ?_⟩
    cases x <;> first | exact d.elim | skip
    cases y <;> first | exact d.elim | skip
    obtain ⟨dl, d⟩ := d
    exact ⟨_, _, q1.str, q2.str, by rw [sizeLine_eq]; exact dl, k s .fz _ _ gr (.str _) d⟩
  refine VOp.imp ((vop_i0 (g' := fun i j => .int (i + j)) iop_add fun _ _ _ => .int _).or hs) fun x y P d => ?_
  cases x <;> cases y <;> first | exact d.elim | skip
  · exact .inl d
  · exact .inr d
theorem vio_sub : VOp X (inplaceOp .Sub) (rI0 fun i j => .int (i - j)) dSub := vop_i0 iop_sub fun _ _ _ => .int _
theorem vio_or : VOp X (inplaceOp .BitOr) (rI0 fun i j => .int (Builtin.bitOr i j)) dOr := vop_i0 iop_or fun _ _ _ => .int _
end
end Tq
set_option Elab.async false
set_option linter.all false
set_option autoImplicit false
set_option maxRecDepth 100000
set_option maxHeartbeats 4000000
namespace Tq
open PySem PySem.Spec L2
open PyProof.Rows hiding St
/-! ### what is walked -/
/-- the iterator J gives xs in every state that R leads to -/
def ItR (K : PySem.W.Frag) (R : Hs → Prop) (J : It) (xs : List Dt) : Prop :=
  ∃ (G : Hp → Prop) (Y : Nat → Hp → V → Hp → Prop), Walk J xs.length G Y ∧ (∀ s', R s' → G s'.w) ∧
    ∀ s' i y H' x, R s' → xs[i]? = some x → Y i s'.w y H' → ∃ s'', Grow s' s'' ∧ s''.w = H' ∧ Rp K s''.f y x
/-- .. in every later state -/
abbrev ItD (K : PySem.W.Frag) (e0 s : Hs) (J : It) (xs : List Dt) : Prop := ItR K (fun s' => RH e0 s' ∧ Ext s s') J xs
/-- .. as long as nothing known changes -/
abbrev ItG (K : PySem.W.Frag) (s : Hs) (J : It) (xs : List Dt) : Prop := ItR K (fun s' => Grow s s') J xs
abbrev TId := DEnv → (List Dt → Prop) → Prop
structure VI (X : Cx) (e0 : Hs) (tg e : Expr) (w : TI) (t : TId) : Prop where
  pe : PI X tg e w
  run : ∀ (s : Hs) (σ : St) (ρ : DEnv) (P : List Dt → Prop) (R : It → Hp → Prop), Rep X.K e0 s σ ρ → t ρ P → (∀ s' J xs, Grow s s' → ItD X.K e0 s' J xs → P xs → R J s'.w) → w σ s.w R
/-- .. in a comprehension -/
structure VJ (X : Cx) (e0 : Hs) (tg e : Expr) (w : TI) (t : TId) : Prop where
  pe : PI X tg e w
  run : ∀ (s : Hs) (σ : St) (ρ : DEnv) (P : List Dt → Prop) (R : It → Hp → Prop), Rep X.K e0 s σ ρ → t ρ P → (∀ s' J xs, Grow s s' → ItG X.K s' J xs → P xs → R J s'.w) → w σ s.w R
theorem ItR.imp {K : PySem.W.Frag} {R R' : Hs → Prop} {J : It} {xs : List Dt} (h : ∀ s, R' s → R s) (i : ItR K R J xs) : ItR K R' J xs := by
  obtain ⟨G, Y, wk, hG, hY⟩ := i
  exact ⟨G, Y, wk, fun s' r => hG s' (h s' r), fun s' i y H' x r => hY s' i y H' x (h s' r)⟩
theorem VI.vj {X : Cx} {e0 : Hs} {tg e : Expr} {w : TI} {t : TId} (h : VI X e0 tg e w t) : VJ X e0 tg e w t := by
  obtain ⟨pe, r⟩ := h
  refine ⟨pe, fun s σ ρ P R rp t k => ?_⟩
  exact r s σ ρ P R rp t fun s' J xs g it p => k s' J xs g (it.imp fun s2 g2 => ⟨(rp.rh.grow g).grow g2, g2.ext⟩) p
abbrev TGd := Dt → DEnv → (DEnv → Prop) → Prop
structure VG (X : Cx) (e0 : Hs) (tg : Expr) (T : TG) (t : TGd) : Prop where
  pe : PG X tg T
  run : ∀ (s : Hs) (σ : St) (ρ : DEnv) (v : V) (x : Dt) (P : DEnv → Prop) (Q : St → Hp → Prop), Rep X.K e0 s σ ρ → Rp X.K s.f v x → t x ρ P → (∀ σ' ρ', Rep X.K e0 s σ' ρ' → P ρ' → Q σ' s.w) → T v σ s.w Q
abbrev TGsd := List Dt → DEnv → (DEnv → Prop) → Prop
structure VGs (X : Cx) (e0 : Hs) (tg : List Expr) (T : TGs) (t : TGsd) : Prop where
  pe : PGs X tg T
  run : ∀ (s : Hs) (σ : St) (ρ : DEnv) (v : List V) (x : List Dt) (P : DEnv → Prop) (Q : St → Hp → Prop), Rep X.K e0 s σ ρ → RpL X.K s.f v x → t x ρ P → (∀ σ' ρ', Rep X.K e0 s σ' ρ' → P ρ' → Q σ' s.w) → T v σ s.w Q
section
variable {X : Cx} {e0 : Hs} {pos : Pos} {tg e : Expr}
def hName (i : Nat) : TGd := fun x ρ P => P (ρ.set i (.v .fz x))
theorem vg_name {i : Nat} (hp : PG X tg (gName i)) : VG X e0 tg (gName i) (hName i) :=
  ⟨hp, fun s σ ρ v x P Q rp r t k => k _ _ (rp.low (k := .fz) r rfl rfl) t⟩
def hsNil : TGsd := fun xs ρ P => xs = [] ∧ P ρ
def hsCons (t : TGd) (u : TGsd) : TGsd := fun xs ρ P => match xs with
  | x :: r => t x ρ fun ρ' => u r ρ' P
  | [] => False
theorem vgs_nil : VGs X e0 [] gNil hsNil := ⟨pgs_nil, fun s σ ρ v x P Q rp r t k => by
  obtain ⟨e, t⟩ := t
  subst e
  cases r
  exact ⟨rfl, k _ _ rp t⟩⟩
theorem vgs_cons {es : List Expr} {T : TG} {U : TGs} {t : TGd} {u : TGsd} (h1 : VG X e0 e T t) (h2 : VGs X e0 es U u) (hs : (assignEach (e :: es) X.env).map (·.2) = assign e X.env :: (assignEach es X.env).map (·.2) := by rfl) : VGs X e0 (e :: es) (gCons T U) (hsCons t u) := by
  refine ⟨pgs_cons h1.pe h2.pe hs, fun s σ ρ v x P Q rp r t k => ?_⟩
  cases r with
  | nil => exact t.elim
  | cons r rr =>
    exact ⟨_, _, rfl, h1.run s σ ρ _ _ _ _ rp r t fun σ' ρ' rp' t' => h2.run s σ' ρ' _ _ P Q rp' rr t' k⟩
def hTup (n : Nat) (t : TGsd) : TGd := fun x ρ P => match x with
  | .tup ds => ds.length = n ∧ t ds ρ P
  | _ => False
theorem vg_tup {es : List Expr} {k : Nat} {T : TGs} {t : TGsd} {n : Nat} (hc : X.calm = true) (h : VGs X e0 es T t) (hn : (assignEach es X.env).length = n := by rfl) (hst : (assignEach es X.env).findIdx? (·.1) = none := by rfl) : VG X e0 (.Tuple es k pos) (gTup X.K n T) (hTup n t) := by
  refine ⟨pg_tup hc h.pe hn hst, fun s σ ρ v x P Q rp r t k => ?_⟩
  cases r <;> first | exact t.elim | skip
  rename_i a xs ds h1 r
  exact ⟨a, xs, rfl, .inl (.inl (rp.rh.fw _ _ h1)), by rw [r.length]; exact t.1, h.run s σ ρ _ _ P Q rp r t.2 k⟩
/-- (a, b) = e -/
def sAsg (te : TEd) (g : TGd) : TSd := fun D ρ => te ρ fun k x => k.st = true ∧ g x ρ D.nx
theorem vs_asg {W : WX} {st : Stmt} {T : TE} {G : TG} {te : TEd} {g : TGd} (h : VE X e0 e T te) (hg : VG X e0 tg G g) (hp : PS X st (tAsg T G)) : VS X e0 W st (sAsg te g) := by
  refine ⟨_, hp, fun s σ ρ D D' rp t l => ?_⟩
  refine h.run s σ ρ _ (fun v H => G v σ H D.nx) rp t fun s1 k1 v1 x1 g1 r1 t1 => ?_
  obtain ⟨hk, t1⟩ := t1
  obtain ⟨s2, g2, e2, w2, f2, p2⟩ := r1.freeze g1 hk
  rw [← w2]
  exact hg.run s2 σ ρ _ _ _ _ (rp.grow g2) p2 t1 fun σ' ρ' rp' q => l.nx s2 σ' ρ' rp' g2.ext q
/-! ### lists, tuples -/
theorem itd_list {K : PySem.W.Frag} {s : Hs} {a : Addr} {vs : List V} {xs : List Dt} (h : SqL K s.g a vs) (r : RpL K s.f vs xs) : ItD K e0 s (Itl K a) xs := by
  refine ⟨fun H => SqL K H a vs, YAt vs, by rw [← r.length]; exact walk_list (K := K) (a := a) (xs := vs), fun s' ⟨rh, x⟩ => (x.g.trans rh.gw).seq h, fun s' i y H' x ⟨rh, ex⟩ hx hy => ?_⟩
  obtain ⟨e1, e2⟩ := hy
  obtain ⟨v, h1, h2⟩ := r.at hx
  rw [e2] at h1
  cases h1
  exact ⟨s', Grow.refl rh, e1.symm, h2.mono ex.f⟩
theorem itd_tup {K : PySem.W.Frag} {s : Hs} {a : Addr} {vs : List V} {xs : List Dt} (h : s.g a = some (.tup vs)) (r : RpL K s.f vs xs) : ItD K e0 s (Itt K a) xs := by
  refine ⟨fun H => SqT K H a vs, YAt vs, by rw [← r.length]; exact walk_tup (K := K) (a := a) (xs := vs), fun s' ⟨rh, x⟩ => .inl (.inl (rh.gw _ _ (x.g _ _ h))), fun s' i y H' x ⟨rh, ex⟩ hx hy => ?_⟩
  obtain ⟨e1, e2⟩ := hy
  obtain ⟨v, h1, h2⟩ := r.at hx
  rw [e2] at h1
  cases h1
  exact ⟨s', Grow.refl rh, e1.symm, h2.mono ex.f⟩
theorem itg_list {K : PySem.W.Frag} {s : Hs} {a : Addr} {vs : List V} {xs : List Dt} (rh : RH e0 s) (h : SqL K s.h a vs) (r : RpL K s.f vs xs) : ItG K s (Itl K a) xs := by
  refine ⟨fun H => SqL K H a vs, YAt vs, by rw [← r.length]; exact walk_list (K := K) (a := a) (xs := vs), fun s' g => (g.h.trans g.hw).seq h, fun s' i y H' x g hx hy => ?_⟩
  obtain ⟨e1, e2⟩ := hy
  obtain ⟨v, h1, h2⟩ := r.at hx
  rw [e2] at h1
  cases h1
  exact ⟨s', Grow.refl (rh.grow g), e1.symm, h2.mono g.f⟩
/-- the list that an expression gives: frozen, fresh, or read only through the call -/
def Kd.it : Kd → Bool
  | .fz => true
  | .fr => true
  | .vw => true
  | .ft _ => true
  | _ => false
/-- .. its place in the stable heap -/
theorem RK.stable {s0 s : Hs} {k : Kd} {v : V} {ds : List Dt} {K : PySem.W.Frag} (g : Grow s0 s) (r : RK K s0.w s k v (.lst ds)) (hk : k.it = true) : ∃ s' a vs, Grow s0 s' ∧ s'.w = s.w ∧ v = .ref a ∧ SqL K s'.g a vs ∧ RpL K s'.f vs ds := by
  by_cases h : k.st = true
  · obtain ⟨s2, g2, e2, w2, f2, p2⟩ := r.freeze g h
    cases p2 with
    | lst h1 r1 => exact ⟨s2, _, _, g2, w2, rfl, g2.fg.seq h1, r1⟩
  · cases k with
    | fz => exact absurd rfl h
    | fr => exact absurd rfl h
    | ft t => exact absurd rfl h
    | vw =>
      obtain ⟨a, xs, e1, h1, r1⟩ := Rq.lst g.fg (Same.refl _) r
      exact ⟨s, a, xs, g, rfl, e1, h1, r1⟩
    | _ => cases hk
def lstP (x : Dt) (P : List Dt → Prop) : Prop := match x with
  | .lst ds => P ds
  | _ => False
def tupP (x : Dt) (P : List Dt → Prop) : Prop := match x with
  | .tup ds => P ds
  | _ => False
def iLst (t : TEd) : TId := fun ρ P => t ρ fun k x => k.it = true ∧ lstP x P
theorem vi_list {T : TE} {t : TEd} (h : VE X e0 e T t) : VI X e0 tg e (iList X.K T) (iLst t) := by
  refine ⟨pi_list h.pe, fun s σ ρ P R rp t k => ?_⟩
  refine h.run s σ ρ _ (fun x H1 => ∃ a, x = .ref a ∧ (∃ xs, SqL X.K H1 a xs) ∧ R (Itl X.K a) H1) rp t fun s1 k1 v1 x1 g1 r1 t1 => ?_
  obtain ⟨hk, t1⟩ := t1
  cases x1 <;> first | exact t1.elim | skip
  obtain ⟨s2, a, vs, g2, e2, rfl, h1, r2⟩ := r1.stable g1 hk
  rw [← e2]
  exact ⟨a, rfl, ⟨vs, g2.gw.seq h1⟩, k s2 _ _ g2 (itd_list h1 r2) t1⟩
def iTp (t : TEd) : TId := fun ρ P => t ρ fun k x => k = .fz ∧ tupP x P
theorem vi_tup {T : TE} {t : TEd} (h : VE X e0 e T t) : VI X e0 tg e (iTup X.K T) (iTp t) := by
  refine ⟨pi_tup h.pe, fun s σ ρ P R rp t k => ?_⟩
  refine h.run s σ ρ _ (fun x H1 => ∃ a, x = .ref a ∧ (∃ xs, SqT X.K H1 a xs) ∧ R (Itt X.K a) H1) rp t fun s1 k1 v1 x1 g1 r1 t1 => ?_
  obtain ⟨hk, t1⟩ := t1
  subst hk
  cases x1 <;> first | exact t1.elim | skip
  cases r1 with
  | tup h1 r2 => exact ⟨_, rfl, ⟨_, .inl (.inl (g1.fw _ _ h1))⟩, k s1 _ _ g1 (itd_tup (g1.fg _ _ h1) r2) t1⟩
/-! ### ranges -/
/-- lo, lo + 1, .. : n of them -/
def rngD (lo : Int) (n : Nat) : List Dt := (List.range n).map fun (i : Nat) => .int (lo + i)
theorem rngD_at {lo : Int} {n i : Nat} {x : Dt} (h : (rngD lo n)[i]? = some x) : i < n ∧ x = .int (lo + i) := by
  unfold rngD at h
  rw [List.getElem?_map] at h
  rcases Nat.lt_or_ge i n with z | z
  · rw [List.getElem?_eq_getElem (by simpa using z)] at h
    simp at h
    exact ⟨z, h.symm⟩
  · rw [List.getElem?_eq_none_iff.mpr (by simpa using z)] at h
    cases h
theorem rngD_length {lo : Int} {n : Nat} : (rngD lo n).length = n := by simp [rngD]
theorem itd_range {K : PySem.W.Frag} {s : Hs} {lo : Int} {n : Nat} : ItD K e0 s (Itr lo n) (rngD lo n) := by
  refine ⟨_, _, by rw [rngD_length]; exact walk_range, fun s' _ => trivial, fun s' i y H' x ⟨rh, ex⟩ hx hy => ?_⟩
  obtain ⟨e1, e2⟩ := hy
  obtain ⟨h1, rfl⟩ := rngD_at hx
  subst e2
  exact ⟨s', Grow.refl rh, e1.symm, .int _⟩
def r1P (as : List (Kd × Dt)) (P : List Dt → Prop) : Prop := match as with
  | [(_, .int j)] => j < 2 ^ 62 ∧ -(2 ^ 62) ≤ j ∧ P (rngD 0 j.toNat)
  | _ => False
def iR1 (t : TAd) : TId := fun ρ P => t ρ fun as => r1P as P
/-- ints among the arguments -/
theorem OwT.isint {K : PySem.W.Frag} {F H : Hp} {v : V} {t : Ot} {j : Int} (r : OwT K F H v t) (e : Dt.int j = t.dt) : v = .int j := by
  cases r with
  | pt r => subst e; cases r; rfl
  | lst h r => cases e
  | dct h r => cases e
  | obj h r => cases e
theorem ArgsR.int0 {K : PySem.W.Frag} {F H : Hp} {i : Addr → Option (List Int → Prop)} {vs : List V} {k : Kd} {j : Int} {r : List (Kd × Dt)} (h : ArgsR K F H i vs ((k, .int j) :: r)) : ∃ us, vs = .int j :: us ∧ ArgsR K F H i us r := by
  generalize e : (k, Dt.int j) :: r = as at h
  cases h with
  | nil => cases e
  | fz q t => cases e; cases q; exact ⟨_, rfl, t⟩
  | rd q t => cases e; rw [q.int]; exact ⟨_, rfl, t⟩
  | rt q t =>
    injection e with e1 e2
    injection e1 with e3 e4
    subst e2
    rw [q.isint e4]
    exact ⟨_, rfl, t⟩
  | iv q t =>
    injection e with e1 e2
    injection e1 with e3 e4
    cases e4
theorem ArgsR.nil0 {K : PySem.W.Frag} {F H : Hp} {i : Addr → Option (List Int → Prop)} {vs : List V} (h : ArgsR K F H i vs []) : vs = [] := by cases h; rfl
theorem ArgsR.int1 {K : PySem.W.Frag} {F H : Hp} {i : Addr → Option (List Int → Prop)} {vs : List V} {k : Kd} {j : Int} (h : ArgsR K F H i vs [(k, .int j)]) : vs = [.int j] := by
  obtain ⟨us, rfl, t⟩ := h.int0
  rw [t.nil0]
theorem vi_range1 {a : Expr} {Ta : TA} {t : TAd} {p : Pos} (hg : Gl X "range") (hm : X.mg "range" = none) (ha : VA X e0 [a] Ta t) (hs : starEach [a] X.env = [(false, eval a X.env)] := by rfl) : VI X e0 tg (.Call (.Name "range" p) [a] [] pos) (iRng1 Ta) (iR1 t) := by
  refine ⟨pi_range1 hg hm ha.pe hs, fun s σ ρ P R rp t k => ?_⟩
  refine ha.run s σ ρ _ (fun vs H1 => ∃ j : Int, vs = [.int j] ∧ -(2 ^ 62) ≤ j ∧ j < 2 ^ 62 ∧ R (Itr 0 j.toNat) H1) rp t fun s1 vs as g1 ar hl t1 => ?_
  match as, ar, t1 with
  | [(_, .int j)], ar, t1 => exact ⟨j, ar.int1, t1.2.1, t1.1, k s1 _ _ g1 itd_range t1.2.2⟩
def r2P (as : List (Kd × Dt)) (P : List Dt → Prop) : Prop := match as with
  | [(_, .int i), (_, .int j)] => (-(2 ^ 62) ≤ i ∧ i < 2 ^ 62 ∧ -(2 ^ 62) ≤ j ∧ j < 2 ^ 62) ∧ P (rngD i (j - i).toNat)
  | _ => False
def iR2 (t : TAd) : TId := fun ρ P => t ρ fun as => r2P as P
theorem vi_range2 {a b : Expr} {Ta : TA} {t : TAd} {p : Pos} (hg : Gl X "range") (hm : X.mg "range" = none) (ha : VA X e0 [a, b] Ta t) (hs : starEach [a, b] X.env = [(false, eval a X.env), (false, eval b X.env)] := by rfl) (hs2 : starEach [b] X.env = [(false, eval b X.env)] := by rfl) : VI X e0 tg (.Call (.Name "range" p) [a, b] [] pos) (iRng2 Ta) (iR2 t) := by
  refine ⟨pi_range2 hg hm ha.pe hs hs2, fun s σ ρ P R rp t k => ?_⟩
  refine ha.run s σ ρ _ (fun vs H1 => ∃ i j : Int, vs = [.int i, .int j] ∧ (-(2 ^ 62) ≤ i ∧ i < 2 ^ 62 ∧ -(2 ^ 62) ≤ j ∧ j < 2 ^ 62) ∧ R (Itr i (j - i).toNat) H1) rp t fun s1 vs as g1 ar hl t1 => ?_
  match as, ar, t1 with
  | [(_, .int i), (_, .int j)], ar, t1 =>
    obtain ⟨us, rfl, ar2⟩ := ar.int0
    obtain ⟨us2, rfl, ar3⟩ := ar2.int0
    rw [ar3.nil0]
    exact ⟨i, j, rfl, t1.1, k s1 _ _ g1 itd_range t1.2⟩
/-! ### enumerate, zip -/
def enumD (ds : List Dt) : List Dt := ds.zipIdx.map fun p => .tup [.int (p.2 : Nat), p.1]
theorem enumD_length {ds : List Dt} : (enumD ds).length = ds.length := by simp [enumD]
theorem enumD_at {ds : List Dt} {i : Nat} {x : Dt} (h : (enumD ds)[i]? = some x) : ∃ d, ds[i]? = some d ∧ x = .tup [.int (i : Nat), d] := by
  unfold enumD at h
  rw [List.getElem?_map, List.getElem?_zipIdx] at h
  cases e : ds[i]? with
  | none => rw [e] at h; simp at h
  | some d => rw [e] at h; simp at h; exact ⟨d, rfl, h.symm⟩
theorem pair_grow {K : PySem.W.Frag} {s s1 : Hs} {T : Addr} {v u : V} {x y : Dt} {H' : Hp} (g : Grow s1 s) (hT : s.w T = none) (e : H' = upd s.w T (.tup [v, u])) (r1 : Rp K s.f v x) (r2 : Rp K s.f u y) : ∃ s'', Grow s s'' ∧ s''.w = H' ∧ Rp K s''.f (.ref T) (.tup [x, y]) := by
  have g0 : Grow s s := ⟨Same.refl _, Same.refl _, Same.refl _, g.fg, g.gh, g.hw, fun _ _ => rfl, fun _ _ => rfl, fun _ h => h, g.hw, g.iv, fun _ _ h => h⟩
  refine ⟨s.lay T (.tup [v, u]), g0.lay hT, e.symm, ?_⟩
  have hf : Same s.f (s.lay T (.tup [v, u])).f := same_upd (Same.free g.fw hT)
  exact .tup upd_same (.cons (r1.mono hf) (.cons (r2.mono hf) .nil))
theorem itr_enum {K : PySem.W.Frag} {s : Hs} {a : Addr} {vs : List V} {xs : List Dt} {R : Hs → Prop} (hs : ∀ s', R s' → SqL K s'.w a vs) (hg : ∀ s', R s' → Grow s' s') (hr : ∀ s', R s' → RpL K s'.f vs xs) (hl : vs.length = xs.length) : ItR K R (Ite K a) (enumD xs) := by
  refine ⟨fun H => SqL K H a vs, YPair (fun i => some (.int (i : Nat))) (fun i => vs[i]?), by rw [enumD_length, ← hl]; exact walk_enum (K := K) (a := a) (xs := vs), hs, fun s' i y H' x rr hx hy => ?_⟩
  obtain ⟨T, v, u, rfl, hT, e, e1, e2⟩ := hy
  obtain ⟨d, h1, rfl⟩ := enumD_at hx
  obtain ⟨v', h3, h4⟩ := (hr s' rr).at h1
  have e3 : vs[i]? = some u := e2
  rw [e3] at h3
  cases h3
  cases e1
  exact pair_grow (hg s' rr) hT e (.int _) h4
theorem itd_enum {K : PySem.W.Frag} {s : Hs} {a : Addr} {vs : List V} {xs : List Dt} (h : SqL K s.g a vs) (r : RpL K s.f vs xs) : ItD K e0 s (Ite K a) (enumD xs) :=
  itr_enum (s := s) (fun s' ⟨rh, x⟩ => (x.g.trans rh.gw).seq h) (fun s' ⟨rh, x⟩ => Grow.refl rh) (fun s' ⟨rh, x⟩ => r.mono x.f) r.length
theorem itg_enum {K : PySem.W.Frag} {s : Hs} {a : Addr} {vs : List V} {xs : List Dt} (rh : RH e0 s) (h : SqL K s.h a vs) (r : RpL K s.f vs xs) : ItG K s (Ite K a) (enumD xs) :=
  itr_enum (s := s) (fun s' g => (g.h.trans g.hw).seq h) (fun s' g => Grow.refl (rh.grow g)) (fun s' g => r.mono g.f) r.length
def iEn (t : TEd) : TId := fun ρ P => t ρ fun k x => k.it = true ∧ lstP x fun ds => P (enumD ds)
theorem vi_enum {a : Expr} {T : TE} {t : TEd} {tpos : Pos} {elts : List Expr} {kk : Nat} (h : VE X e0 a T t) (hp : PI X (.Tuple elts kk tpos) e (iEnum X.K (tCons T tNil))) : VI X e0 (.Tuple elts kk tpos) e (iEnum X.K (tCons T tNil)) (iEn t) := by
  refine ⟨hp, fun s σ ρ P R rp t k => ?_⟩
  refine h.run s σ ρ _ _ rp t fun s1 k1 v1 x1 g1 r1 t1 => ?_
  obtain ⟨hk, t1⟩ := t1
  cases x1 <;> first | exact t1.elim | skip
  obtain ⟨s2, a, vs, g2, e2, rfl, h1, r2⟩ := r1.stable g1 hk
  rw [← e2]
  exact ⟨a, vs, rfl, g2.gw.seq h1, k s2 _ _ g2 (itd_enum h1 r2) t1⟩
def zipD (xs ys : List Dt) : List Dt := (xs.zip ys).map fun p => .tup [p.1, p.2]
theorem zipD_length {xs ys : List Dt} : (zipD xs ys).length = min xs.length ys.length := by simp [zipD]
theorem zipD_at {xs ys : List Dt} {i : Nat} {x : Dt} (h : (zipD xs ys)[i]? = some x) : ∃ a b, xs[i]? = some a ∧ ys[i]? = some b ∧ x = .tup [a, b] := by
  unfold zipD at h
  rw [List.getElem?_map] at h
  cases e : (xs.zip ys)[i]? with
  | none => rw [e] at h; cases h
  | some p =>
    rw [e] at h
    obtain ⟨h1, h2⟩ := List.getElem?_zip_eq_some.mp e
    exact ⟨p.1, p.2, h1, h2, (Option.some.inj h).symm⟩
theorem itr_zip {K : PySem.W.Frag} {a b : Addr} {vs us : List V} {xs ys : List Dt} {R : Hs → Prop} (hs : ∀ s', R s' → SqL K s'.w a vs ∧ SqL K s'.w b us) (hg : ∀ s', R s' → Grow s' s') (hr : ∀ s', R s' → RpL K s'.f vs xs ∧ RpL K s'.f us ys) (hl : vs.length = xs.length) (hl' : us.length = ys.length) : ItR K R (Itz K a b) (zipD xs ys) := by
  refine ⟨fun H => SqL K H a vs ∧ SqL K H b us, YPair (fun i => vs[i]?) (fun i => us[i]?), walk_zip (by rw [zipD_length, hl, hl']), hs, fun s' i y H' x rr hx hy => ?_⟩
  obtain ⟨T, v, u, rfl, hT, e, e1, e2⟩ := hy
  obtain ⟨d, d', h1, h2, rfl⟩ := zipD_at hx
  obtain ⟨v', h3, h4⟩ := (hr s' rr).1.at h1
  obtain ⟨u', h5, h6⟩ := (hr s' rr).2.at h2
  have e3 : vs[i]? = some v := e1
  have e4 : us[i]? = some u := e2
  rw [e3] at h3
  rw [e4] at h5
  cases h3
  cases h5
  exact pair_grow (hg s' rr) hT e h4 h6
theorem itd_zip {K : PySem.W.Frag} {s : Hs} {a b : Addr} {vs us : List V} {xs ys : List Dt} (h : SqL K s.g a vs) (h' : SqL K s.g b us) (r : RpL K s.f vs xs) (r' : RpL K s.f us ys) : ItD K e0 s (Itz K a b) (zipD xs ys) :=
  itr_zip (fun s' ⟨rh, x⟩ => ⟨(x.g.trans rh.gw).seq h, (x.g.trans rh.gw).seq h'⟩) (fun s' ⟨rh, x⟩ => Grow.refl rh) (fun s' ⟨rh, x⟩ => ⟨r.mono x.f, r'.mono x.f⟩) r.length r'.length
theorem itg_zip {K : PySem.W.Frag} {s : Hs} {a b : Addr} {vs us : List V} {xs ys : List Dt} (rh : RH e0 s) (h : SqL K s.h a vs) (h' : SqL K s.h b us) (r : RpL K s.f vs xs) (r' : RpL K s.f us ys) : ItG K s (Itz K a b) (zipD xs ys) :=
  itr_zip (fun s' g => ⟨(g.h.trans g.hw).seq h, (g.h.trans g.hw).seq h'⟩) (fun s' g => Grow.refl (rh.grow g)) (fun s' g => ⟨r.mono g.f, r'.mono g.f⟩) r.length r'.length
def iZp (t u : TEd) : TId := fun ρ P => t ρ fun k x => u ρ fun k' y => k.it = true ∧ k'.it = true ∧ lstP x fun ds => lstP y fun es => P (zipD ds es)
theorem vi_zip {a b : Expr} {T U : TE} {t u : TEd} {tpos : Pos} {elts : List Expr} {kk : Nat} (h : VE X e0 a T t) (h' : VE X e0 b U u) (hp : PI X (.Tuple elts kk tpos) e (iZip X.K (tCons T (tCons U tNil)))) : VI X e0 (.Tuple elts kk tpos) e (iZip X.K (tCons T (tCons U tNil))) (iZp t u) := by
  refine ⟨hp, fun s σ ρ P R rp t k => ?_⟩
  refine h.run s σ ρ _ _ rp t fun s1 k1 v1 x1 g1 r1 t1 => ?_
  -- the first is made stable ahead of the second
  have rp1 := rp.grow g1
  by_cases hk1 : k1.it = true
  · have key : ∀ (y1 : List Dt), x1 = .lst y1 → U σ s1.w fun y H2 => ∃ (a b : Addr) (xs ys : List V), [v1, y] = [V.ref a, V.ref b] ∧ SqL X.K H2 a xs ∧ SqL X.K H2 b ys ∧ R (Itz X.K a b) H2 := fun y1 e => by
      subst e
      obtain ⟨s2, a, vs, g2, e2, rfl, h1, r2⟩ := r1.stable g1 hk1
      have rp2 := rp.grow g2
      rw [← e2]
      refine h'.run s2 σ ρ _ _ rp2 t1 fun s3 k3 v3 x3 g3 r3 t3 => ?_
      obtain ⟨_, hk, t3⟩ := t3
      cases x3 <;> first | exact t3.elim | skip
      obtain ⟨s4, b, us, g4, e4, rfl, h4, r4⟩ := r3.stable g3 hk
      rw [← e4]
      have h1' := g4.g.seq h1
      exact ⟨a, b, vs, us, rfl, g4.gw.seq h1', g4.gw.seq h4, k s4 _ _ (g2.trans g4) (itd_zip h1' h4 (r2.mono g4.f) r4) t3⟩
    cases x1 with
    | lst y1 => exact key y1 rfl
    | _ => exact h'.run s1 σ ρ _ _ rp1 t1 fun s3 k3 v3 x3 g3 r3 t3 => (by obtain ⟨_, _, t3⟩ := t3; cases x3 <;> exact t3.elim)
  · exact h'.run s1 σ ρ _ _ rp1 t1 fun s3 k3 v3 x3 g3 r3 t3 => absurd t3.1 hk1
/-! ### in comprehensions: whatever can be read now -/
def iLstG (t : TEd) : TId := fun ρ P => t ρ fun k x => k.lf = true ∧ lstP x P
theorem RK.known {K : PySem.W.Frag} {s0 s : Hs} {k : Kd} {v : V} {ds : List Dt} {σ : St} {ρ : DEnv} (rp : Rep K e0 s0 σ ρ) (g : Grow s0 s) (r : RK K s0.w s k v (.lst ds)) (hk : k.lf = true) : ∃ a vs, v = .ref a ∧ SqL K s.h a vs ∧ RpL K s.f vs ds :=
  Rq.lst g.fh (Same.refl _) (r.rq (rp.rh.grow g) hk)
theorem vj_list {T : TE} {t : TEd} (h : VE X e0 e T t) : VJ X e0 tg e (iList X.K T) (iLstG t) := by
  refine ⟨pi_list h.pe, fun s σ ρ P R rp t k => ?_⟩
  refine h.run s σ ρ _ (fun x H1 => ∃ a, x = .ref a ∧ (∃ xs, SqL X.K H1 a xs) ∧ R (Itl X.K a) H1) rp t fun s1 k1 v1 x1 g1 r1 t1 => ?_
  obtain ⟨hk, t1⟩ := t1
  cases x1 <;> first | exact t1.elim | skip
  obtain ⟨a, vs, rfl, h1, r2⟩ := r1.known rp g1 hk
  exact ⟨a, rfl, ⟨vs, g1.hw.seq h1⟩, k s1 _ _ g1 (itg_list (rp.rh.grow g1) h1 r2) t1⟩
def iEnG (t : TEd) : TId := fun ρ P => t ρ fun k x => k.lf = true ∧ lstP x fun ds => P (enumD ds)
theorem vj_enum {a : Expr} {T : TE} {t : TEd} {tpos : Pos} {elts : List Expr} {kk : Nat} (h : VE X e0 a T t) (hp : PI X (.Tuple elts kk tpos) e (iEnum X.K (tCons T tNil))) : VJ X e0 (.Tuple elts kk tpos) e (iEnum X.K (tCons T tNil)) (iEnG t) := by
  refine ⟨hp, fun s σ ρ P R rp t k => ?_⟩
  refine h.run s σ ρ _ _ rp t fun s1 k1 v1 x1 g1 r1 t1 => ?_
  obtain ⟨hk, t1⟩ := t1
  cases x1 <;> first | exact t1.elim | skip
  obtain ⟨a, vs, rfl, h1, r2⟩ := r1.known rp g1 hk
  exact ⟨a, vs, rfl, g1.hw.seq h1, k s1 _ _ g1 (itg_enum (rp.rh.grow g1) h1 r2) t1⟩
def iZpG (t u : TEd) : TId := fun ρ P => t ρ fun k x => u ρ fun k' y => k.lf = true ∧ k'.lf = true ∧ lstP x fun ds => lstP y fun es => P (zipD ds es)
theorem vj_zip {a b : Expr} {T U : TE} {t u : TEd} {tpos : Pos} {elts : List Expr} {kk : Nat} (h : VE X e0 a T t) (h' : VE X e0 b U u) (hp : PI X (.Tuple elts kk tpos) e (iZip X.K (tCons T (tCons U tNil)))) : VJ X e0 (.Tuple elts kk tpos) e (iZip X.K (tCons T (tCons U tNil))) (iZpG t u) := by
  refine ⟨hp, fun s σ ρ P R rp t k => ?_⟩
  refine h.run s σ ρ _ _ rp t fun s1 k1 v1 x1 g1 r1 t1 => ?_
  have rp1 := rp.grow g1
  refine h'.run s1 σ ρ _ _ rp1 t1 fun s3 k3 v3 x3 g3 r3 t3 => ?_
  obtain ⟨hk1, hk3, t3⟩ := t3
  cases x1 <;> first | exact t3.elim | skip
  cases x3 <;> first | exact t3.elim | skip
  obtain ⟨a, vs, rfl, h1, r1'⟩ := r1.known rp g1 hk1
  obtain ⟨b, us, rfl, h3, r3'⟩ := r3.known rp1 g3 hk3
  have h1' := g3.h.seq h1
  exact ⟨a, b, vs, us, rfl, g3.hw.seq h1', g3.hw.seq h3, k s3 _ _ (g1.trans g3) (itg_zip (rp1.rh.grow g3) h1' h3 (r1'.mono g3.f) r3') t3⟩
end
end Tq
set_option Elab.async false
set_option linter.all false
set_option autoImplicit false
set_option maxRecDepth 100000
set_option maxHeartbeats 4000000
namespace Tq
open PySem PySem.Spec L2
open PyProof.Rows hiding St
section
variable {X : Cx} {e0 : Hs} {Wx : WX} {pos : Pos} {tg e : Expr}
/-! ### for -/
def sFor (it : TId) (g : TGd) (tb : TSd) : TSd := fun D ρ => it ρ fun xs => ∃ W : Nat → DEnv → Prop, (∃ ρ', Wk ρ ρ' ∧ W 0 ρ') ∧
  (∀ i x ρ', xs[i]? = some x → W i ρ' → g x ρ' fun ρ1 => tb { D with nx := fun ρ2 => ∃ ρ3, Wk ρ2 ρ3 ∧ W (i + 1) ρ3, ct := fun ρ2 => ∃ ρ3, Wk ρ2 ρ3 ∧ W (i + 1) ρ3, bk := D.nx } ρ1) ∧
  ∀ ρ', W xs.length ρ' → D.nx ρ'
theorem for_core {s1 : Hs} {σ : St} {ρ0 : DEnv} {D : Ends} {D' : EndsD} {J : It} {xs : List Dt} {T : TG} {g : TGd} {B : TS} {tb : TSd} (hg : VG X e0 tg T g)
    (rb : ∀ (s : Hs) (σ : St) (ρ : DEnv) (D : Ends) (D' : EndsD), Rep X.K e0 s σ ρ → tb D' ρ → Lk X.K e0 s Wx D D' → B D σ s.w) (l : Lk X.K e0 s1 Wx D D')
    (it : ItD X.K e0 s1 J xs) (W : Nat → DEnv → Prop) (r0 : ∃ s2, s2.w = s1.w ∧ Ext s1 s2 ∧ Rep X.K e0 s2 σ ρ0) (h0 : W 0 ρ0)
    (hs : ∀ i x ρ', xs[i]? = some x → W i ρ' → g x ρ' fun ρ1 => tb { D' with nx := fun ρ2 => ∃ ρ3, Wk ρ2 ρ3 ∧ W (i + 1) ρ3, ct := fun ρ2 => ∃ ρ3, Wk ρ2 ρ3 ∧ W (i + 1) ρ3, bk := D'.nx } ρ1)
    (hd : ∀ ρ', W xs.length ρ' → D'.nx ρ') :
    ∃ W : Nat → Nat → St → Hp → Prop, (∃ m, W 0 m σ s1.w) ∧ ∀ i m σ H, W i m σ H →
      (J.stop i H ∧ D.nx σ H) ∨ (J.go i H ∧ ∃ N : St → Hp → Prop, (∀ σ' H', N σ' H' → ∃ m', m' < m ∧ W (i + 1) m' σ' H') ∧ ∀ x H', J.yld i H x H' → T x σ H' fun σ2 H2 => B { D with nx := N, ct := N, bk := D.nx } σ2 H2) := by
  obtain ⟨G, Y, wk, hG, hY⟩ := it
  obtain ⟨s2, e2, x2, r2⟩ := r0
  refine for_it wk (fun i σ H => ∃ s' ρ', s'.w = H ∧ Rep X.K e0 s' σ ρ' ∧ Ext s1 s' ∧ W i ρ') ⟨s2, ρ0, e2, r2, x2, h0⟩ (fun i σ H hi ⟨s', ρ', e, r, x, w⟩ => by rw [← e]; exact hG s' ⟨r.rh, x⟩) ?_ ?_
  · rintro i y σ' H H' hi ⟨s', ρ', rfl, rp, x, w⟩ hy
    obtain ⟨x', hx⟩ : ∃ x', xs[i]? = some x' := ⟨xs[i], List.getElem?_eq_getElem hi⟩
    obtain ⟨s3, g3, e3, r3⟩ := hY s' i y H' x' ⟨rp.rh, x⟩ hx hy
    have rp3 := rp.grow g3
    have x3 := x.trans g3.ext
    subst e3
    have again : ∀ s4 σ4 ρ4, Rep X.K e0 s4 σ4 ρ4 → Ext s3 s4 → (∃ ρ3, Wk ρ4 ρ3 ∧ W (i + 1) ρ3) → ∃ s' ρ', s'.w = s4.w ∧ Rep X.K e0 s' σ4 ρ' ∧ Ext s1 s' ∧ W (i + 1) ρ' := fun s4 σ4 ρ4 rp4 x4 ⟨ρ3, w3, i3⟩ => by
      obtain ⟨s5, _, h5, x5, r5⟩ := w3.rep rp4
      exact ⟨s5, ρ3, h5, r5, (x3.trans x4).trans x5, i3⟩
    refine hg.run s3 σ' ρ' y x' _ _ rp3 r3 (hs i x' ρ' hx w) fun σ4 ρ4 rp4 t4 => ?_
    exact rb s3 σ4 ρ4 _ _ rp4 t4 ⟨again, (l.ext x3).rt, fun s5 σ5 ρ5 rp5 x5 q => l.nx s5 σ5 ρ5 rp5 (x3.trans x5) q, again, (l.ext x3).ex⟩
  · rintro σ' H ⟨s', ρ', rfl, rp, x, w⟩
    exact l.nx s' σ' ρ' rp x (hd ρ' w)
theorem vs_for {iter : Expr} {body : List Stmt} {w : TI} {it : TId} {T : TG} {g : TGd} {tb : TSd} (hp : PassesOwn (model X.prog X.w) X.A X.env X.xe) (hc : X.calm = true) (hi : VI X e0 tg iter w it) (hg : VG X e0 tg T g) (hb : VSs X e0 Wx body tb)
    (hs : ∀ x, foldedSetIterable iter X.env x = pure x := by intro _; rfl) : VS X e0 Wx (.For tg iter body [] pos) (sFor it g tb) := by
  obtain ⟨B, hB, rb⟩ := hb.run
  refine ⟨_, ps_for hp hc hi.pe hg.pe hB hs, fun s σ ρ D D' rp t l => ?_⟩
  refine hi.run s σ ρ _ _ rp t fun s1 J xs g1 itd t1 => ?_
  obtain ⟨W, ⟨ρ0, w0, i0⟩, turn, done⟩ := t1
  obtain ⟨s2, _, h2, x2, r2⟩ := w0.rep (rp.grow g1)
  exact for_core hg rb (l.ext g1.ext) itd W ⟨s2, h2, x2, r2⟩ i0 turn done
/-- over what slot i owns: it stays as it is through the loop -/
def forOS (o : Option Sl) (i : Nat) (g : TGd) (tb : TSd) (D : EndsD) (ρ : DEnv) : Prop := match o with
  | some (.v (.ow l) (.lst xs)) => ∃ W : Nat → DEnv → Prop, (∀ j ρ', W j ρ' → ρ'[i]? = some (.v (.ow l) (.lst xs))) ∧ (∃ ρ', Wk ρ ρ' ∧ W 0 ρ') ∧
    (∀ j x ρ', xs[j]? = some x → W j ρ' → g x ρ' fun ρ1 => tb { D with nx := fun ρ2 => ∃ ρ3, Wk ρ2 ρ3 ∧ W (j + 1) ρ3, ct := fun ρ2 => ∃ ρ3, Wk ρ2 ρ3 ∧ W (j + 1) ρ3, bk := D.nx } ρ1) ∧
    ∀ ρ', W xs.length ρ' → D.nx ρ'
  | _ => False
def sForO (i : Nat) (g : TGd) (tb : TSd) : TSd := fun D ρ => forOS ρ[i]? i g tb D ρ
theorem vs_forO {i : Nat} {x : Str} {p : Pos} {body : List Stmt} {T : TG} {g : TGd} {tb : TSd} (hp : PassesOwn (model X.prog X.w) X.A X.env X.xe) (hc : X.calm = true) (hv : PE X (.Name x p) (tVar i)) (hg : VG X e0 tg T g) (hb : VSs X e0 Wx body tb) : VS X e0 Wx (.For tg (.Name x p) body [] pos) (sForO i g tb) := by
  obtain ⟨B, hB, rb⟩ := hb.run
  refine ⟨_, ps_for hp hc (pi_list hv) hg.pe hB, fun s σ ρ D D' rp t l => ?_⟩
  unfold sForO forOS at t
  split at t
  · rename_i a xs q
    obtain ⟨h1, c⟩ := TE.var_own rp q
    obtain ⟨vs, h2, r2⟩ := c.lst
    obtain ⟨W, hW, ⟨ρ0, w0, i0⟩, turn, done⟩ := t
    obtain ⟨s2, _, e2, x2, rp2⟩ := w0.rep rp
    refine ⟨_, h1, a, rfl, ⟨vs, .inl (.inl (rp.rh.hw _ _ h2))⟩, ?_⟩
    refine ⟨fun j m σ H => m = xs.length - j ∧ j ≤ xs.length ∧ ∃ s' ρ', s'.w = H ∧ Rep X.K e0 s' σ ρ' ∧ Ext s s' ∧ W j ρ', ⟨xs.length, by simp, Nat.zero_le _, s2, ρ0, e2, rp2, x2, i0⟩, ?_⟩
    rintro j m σ' H ⟨rfl, hj, s', ρ', rfl, rp', x', w'⟩
    obtain ⟨g1, c'⟩ := TE.var_own rp' (hW j ρ' w')
    obtain ⟨us, h3, r3⟩ := c'.lst
    by_cases hlt : j < xs.length
    · obtain ⟨u, hu, ru⟩ := r3.at (List.getElem?_eq_getElem hlt)
      have again : ∀ s4 σ4 ρ4, Rep X.K e0 s4 σ4 ρ4 → Ext s' s4 → (∃ ρ3, Wk ρ4 ρ3 ∧ W (j + 1) ρ3) → ∃ s' ρ', s'.w = s4.w ∧ Rep X.K e0 s' σ4 ρ' ∧ Ext s s' ∧ W (j + 1) ρ' := fun s4 σ4 ρ4 rp4 x4 ⟨ρ3, w3, i3⟩ => by
        obtain ⟨s5, _, h5, x5, r5⟩ := w3.rep rp4
        exact ⟨s5, ρ3, h5, r5, (x'.trans x4).trans x5, i3⟩
      refine .inr ⟨⟨us, u, .inl (.inl (rp'.rh.hw _ _ h3)), hu⟩, fun σ2 H2 => ∃ s' ρ', s'.w = H2 ∧ Rep X.K e0 s' σ2 ρ' ∧ Ext s s' ∧ W (j + 1) ρ', fun σ2 H2 q => ⟨xs.length - (j + 1), by omega, rfl, hlt, q⟩, fun y H' hy => ?_⟩
      obtain ⟨e1, hy⟩ := hy
      subst e1
      have ey := hy us (.inl (.inl (rp'.rh.hw _ _ h3)))
      rw [hu] at ey
      cases ey
      refine hg.run s' σ' ρ' _ _ _ _ rp' ru (turn j _ ρ' (List.getElem?_eq_getElem hlt) w') fun σ4 ρ4 rp4 t4 => ?_
      exact rb s' σ4 ρ4 _ _ rp4 t4 ⟨again, (l.ext x').rt, fun s5 σ5 ρ5 rp5 x5 q => l.nx s5 σ5 ρ5 rp5 (x'.trans x5) q, again, (l.ext x').ex⟩
    · have ej : j = xs.length := by omega
      subst ej
      exact .inl ⟨⟨us, .inl (.inl (rp'.rh.hw _ _ h3)), by rw [r3.length]; exact Nat.le_refl _⟩, l.nx s' σ' ρ' rp' x' (done ρ' w')⟩
  · exact t.elim
/-! ### comprehensions -/
def wipeD (ρ : DEnv) : List Nat → DEnv
  | [] => ρ
  | v :: vs => (wipeD ρ vs).set v .no
/-- the target stores into its own slots alone -/
def OwnTg (T : TG) (vs : List Nat) : Prop := ∀ v σ H Q, T v (wipe σ vs) H Q → T v (wipe σ vs) H fun σ2 H2 => wipe σ2 vs = wipe σ vs ∧ Q σ2 H2
theorem own_name (i : Nat) : OwnTg (gName i) [i] := fun v σ H Q h => by
  refine ⟨?_, h⟩
  show (((σ.set i none).set i (some v)).set i none) = σ.set i none
  rw [List.set_set, List.set_set]
theorem own_two (i j : Nat) (K : PySem.W.Frag) : OwnTg (gTup K 2 (gCons (gName i) (gCons (gName j) gNil))) [i, j] := fun v σ H Q h => by
  obtain ⟨a, xs, e1, h1, h2, x, r, e2, y, r2, e3, e4, q⟩ := h
  refine ⟨a, xs, e1, h1, h2, x, r, e2, y, r2, e3, e4, ?_, q⟩
  show ((((((σ.set j none).set i none).set i (some x)).set j (some y)).set j none).set i none) = (σ.set j none).set i none
  refine List.ext_getElem? fun n => ?_
  simp only [List.getElem?_set, List.length_set]
  by_cases h1 : i = n <;> by_cases h2 : j = n <;> simp [h1, h2]
theorem Rep.wipe {K : PySem.W.Frag} {s : Hs} {σ : St} {ρ : DEnv} (r : Rep K e0 s σ ρ) : ∀ vs : List Nat, Rep K e0 s (L2.wipe σ vs) (wipeD ρ vs)
  | [] => r
  | v :: vs => by
    have ih := Rep.wipe r vs
    have ne_ : ∀ (j : Nat) (k : Kd) (x : Dt), ((wipeD ρ vs).set v .no)[j]? = some (Sl.v k x) → v ≠ j := fun j k x q z => by
      subst z
      rw [List.getElem?_set] at q
      simp at q
    refine ⟨ih.rh, by show ((L2.wipe σ vs).set v none).length = ((wipeD ρ vs).set v .no).length; rw [List.length_set, List.length_set]; exact ih.len, fun j k x q => ?_, ih.forget.dj, fun j t x q => ?_⟩
    · obtain ⟨u, h1, h2⟩ := ih.forget.sl j k x q
      refine ⟨u, ?_, h2⟩
      show ((L2.wipe σ vs).set v none)[j]? = some (some u)
      rw [List.getElem?_set_ne (ne_ j k x q)]
      exact h1
    · obtain ⟨u, L, h0, h1, h2⟩ := ih.forget.mt j t x q
      refine ⟨u, L, h0, ?_, h2⟩
      show ((L2.wipe σ vs).set v none)[j]? = some (some u)
      rw [List.getElem?_set_ne (ne_ j _ x q)]
      exact h1
def eLc (it : TId) (g : TGd) (tt : TTd) (te : TEd) (vs : List Nat) : TEd := fun ρ P => it ρ fun xs => xs.length ≤ 16777216 ∧ ∃ W : Nat → List Dt → Prop, W 0 [] ∧
  (∀ i x acc, xs[i]? = some x → W i acc → g x (wipeD ρ vs) fun ρ1 => tt ρ1 fun b => selS b (fun ρ2 => te ρ2 fun k y => k.st = true ∧ W (i + 1) (acc ++ [y])) (fun _ => W (i + 1) acc) ρ1) ∧
  ∀ acc, W xs.length acc → P .fr (.lst acc)
theorem lc_core' {s s1 : Hs} {σ : St} {ρ : DEnv} {vs : List Nat} {J : It} {xs : List Dt} {T : TG} {g : TGd} {C : TT} {tt : TTd} {E : TE} {te : TEd} {P : DK} {Q : VK} (rp : Rep X.K e0 s σ ρ) (g1 : Grow s s1) (it : ItG X.K s1 J xs)
    (ho : OwnTg T vs) (rg : ∀ (s : Hs) (σ : St) (ρ : DEnv) (v : V) (x : Dt) (P : DEnv → Prop) (Q : St → Hp → Prop), Rep X.K e0 s σ ρ → Rp X.K s.f v x → g x ρ P → (∀ σ' ρ', Rep X.K e0 s σ' ρ' → P ρ' → Q σ' s.w) → T v σ s.w Q)
    (rc : ∀ (s : Hs) (σ : St) (ρ : DEnv) (P : Bool → Prop) (Q : Bool → Hp → Prop), Rep X.K e0 s σ ρ → tt ρ P → (∀ s' b, Grow s s' → P b → Q b s'.w) → C σ s.w Q)
    (re : ∀ (s : Hs) (σ : St) (ρ : DEnv) (P : DK) (Q : VK), Rep X.K e0 s σ ρ → te ρ P → (∀ s' k v x, Grow s s' → RK X.K s.w s' k v x → P k x → Q v s'.w) → E σ s.w Q)
    (hl : xs.length ≤ 16777216) (W : Nat → List Dt → Prop) (h0 : W 0 [])
    (hs : ∀ i x acc, xs[i]? = some x → W i acc → g x (wipeD ρ vs) fun ρ1 => tt ρ1 fun b => if b = true then te ρ1 fun k y => k.st = true ∧ W (i + 1) (acc ++ [y]) else W (i + 1) acc)
    (hd : ∀ acc, W xs.length acc → P .fr (.lst acc)) (k : ∀ s' k v x, Grow s s' → RK X.K s.w s' k v x → P k x → Q v s'.w) {D : Addr} (hD : s1.w D = none) :
    ∃ W : Nat → Nat → Hp → Prop, (∃ m, W 0 m (upd s1.w D (.lst []))) ∧ ∀ i m H, W i m H →
      (J.stop i H ∧ Q (.ref D) H) ∨ (J.go i H ∧ ∃ Nx : Hp → Prop, (∀ H', Nx H' → ∃ m', m' < m ∧ W (i + 1) m' H') ∧ ∀ x H', J.yld i H x H' → T x (wipe σ vs) H' fun σ2 H2 => wipe σ2 vs = wipe σ vs ∧ C σ2 H2 fun b H3 =>
        if b = true then E σ2 H3 fun y H4 => ∃ acc, H4 D = some (.lst acc) ∧ acc.length < sizeLine ∧ Nx (upd H4 D (.lst (acc ++ [y]))) else Nx H3) := by
  obtain ⟨G, Y, wk, hG, hY⟩ := it
  have hDs : s.w D = none := g1.nw hD
  have hDh : s1.h D = none := Same.free g1.hw hD
  have hD0 : s.h D = none := Same.free g1.w0 hDs
  -- between two turns: the heaps grown from s1, the list at D of what was kept
  refine lc_it (Qd := fun H => Q (.ref D) H) wk (fun i H => ∃ (s' : Hs) (acc : List Dt) (ys : List V), s'.w = H ∧ Grow s s' ∧ Grow s1 s' ∧ s'.g D = none ∧ s'.h D = some (.lst ys) ∧ RpL X.K s'.f ys acc ∧ acc.length ≤ i ∧ W i acc)
    ⟨s1.new D (.lst []), [], [], rfl, g1.new hD, (Grow.refl (rp.rh.grow g1)).new hD, Same.free g1.gh hDh, upd_same, .nil, Nat.le_refl _, h0⟩
    (fun i H hi ⟨s', acc, ys, e, g, x, _⟩ => by rw [← e]; exact hG s' x) ?_ ?_
  · rintro i y H H' hi ⟨s', acc, ys, rfl, g', x', n', h', r', l', w'⟩ hy
    have rp' := rp.grow g'
    obtain ⟨x, hx⟩ : ∃ x, xs[i]? = some x := ⟨xs[i], List.getElem?_eq_getElem hi⟩
    obtain ⟨s3, g3, e3, r3⟩ := hY s' i y H' x x' hx hy
    subst e3
    refine ho _ _ _ _ ?_
    refine rg s3 _ (wipeD ρ vs) y x _ _ ((rp'.grow g3).wipe vs) r3 (hs i x acc hx w') fun σ4 ρ4 rp4 t4 => ?_
    refine rc s3 σ4 ρ4 _ _ rp4 t4 fun s5 b g5 t5 => ?_
    have rp5 := rp4.grow g5
    have g35 := g3.trans g5
    have hw' : ∀ {s9 : Hs}, Grow s' s9 → s9.h D = some (.lst ys) ∧ s9.g D = none := fun g9 => ⟨g9.h _ _ h', (g9.ng D (Same.some_ne rp'.rh.hw (ne_none h'))).trans n'⟩
    cases b with
    | false =>
      have t5' : W (i + 1) acc := t5
      refine iteF ⟨s5, acc, ys, rfl, g'.trans g35, x'.trans g35, (hw' g35).2, (hw' g35).1, r'.mono g35.f, by omega, t5'⟩
    | true =>
      refine iteT ?_
      refine re s5 σ4 ρ4 _ _ rp5 t5 fun s6 k6 v6 x6 g6 r6 t6 => ?_
      obtain ⟨hk, t6⟩ := t6
      obtain ⟨s7, g7, e7, w7, f7, p7⟩ := r6.freeze g6 hk
      have g37 := g35.trans g7
      obtain ⟨h7, n7⟩ := hw' g37
      refine ⟨ys, by rw [← w7]; exact g7.hw _ _ h7, by rw [r'.length, sizeLine_eq]; omega, ?_⟩
      rw [← w7]
      have up : ∀ {s9 : Hs}, Grow s9 s7 → s9.h D = none → Grow s9 ⟨s7.f, s7.g, upd s7.h D (.lst (ys ++ [v6])), upd s7.w D (.lst (ys ++ [v6])), s7.i, s7.m⟩ := fun gg hn => by
        refine ⟨gg.f, gg.g, fun a o q => ?_, gg.fg, fun a o q => ?_, Same.upd gg.hw, gg.nf, gg.ng, fun a h => upd_some (gg.w a h), gg.w0, gg.iv.upd (gg.iv.known (ne_none h7)), gg.i⟩
        · show upd s7.h D _ a = some o
          rw [upd_ne (ne_of_none q hn)]
          exact gg.h a o q
        · show upd s7.h D _ a = some o
          rw [upd_ne (ne_of_none q n7)]
          exact gg.gh a o q
      exact ⟨_, acc ++ [x6], ys ++ [v6], rfl, up (g'.trans g37) hD0, up (x'.trans g37) hDh, n7, upd_same, (r'.mono g37.f).app (.cons p7 .nil), by rw [List.length_append, List.length_singleton]; omega, t6⟩
  · rintro H ⟨s', acc, ys, rfl, g', x', n', h', r', l', w'⟩
    exact k s' .fr _ _ g' ⟨D, rfl, hDs, n', .inl ⟨ys, acc, rfl, h', r'⟩⟩ (hd acc w')
/-- the block's rules, at every context of the block -/
theorem ve_lc {elt iter : Expr} {ifs : List Expr} {scope : Scope} {own : List (Str × Nat)} {w : TI} {it : TId} {T : TG} {g : TGd} {C : TT} {tt : TTd} {E : TE} {te : TEd} (hc : X.calm = true) (hN : X.N.Nodup) (hi : VJ X e0 tg iter w it) (ok : BlkOk X.N X.env.scope scope own) (ho : OwnTg T (own.map (·.2)))
    (hg : ∀ (s : Shared) (H : Hp) (Ca : Addr) (cl : List (Str × Addr)) (fp : List Addr), VG (X.blk s H scope (compEnvC scope cl Ca X.env) fp) e0 tg T g)
    (ht : ∀ (s : Shared) (H : Hp) (Ca : Addr) (cl : List (Str × Addr)) (fp : List Addr), PTs (X.blk s H scope (compEnvC scope cl Ca X.env) fp) ifs C)
    (rc : ∀ (s : Hs) (σ : St) (ρ : DEnv) (P : Bool → Prop) (Q : Bool → Hp → Prop), Rep X.K e0 s σ ρ → tt ρ P → (∀ s' b, Grow s s' → P b → Q b s'.w) → C σ s.w Q)
    (he : ∀ (s : Shared) (H : Hp) (Ca : Addr) (cl : List (Str × Addr)) (fp : List Addr), VE (X.blk s H scope (compEnvC scope cl Ca X.env) fp) e0 elt E te)
    (hs : ∀ x, foldedSetIterable iter X.env x = pure x := by intro _; rfl) :
    VE X e0 (.ListComp elt [⟨tg, iter, ifs, 0⟩] scope pos) (tLc w T C E (own.map (·.2))) (eLc it g tt te (own.map (·.2))) := by
  refine ⟨pe_lc hc hN hi.pe ok (fun s H Ca cl fp => (hg s H Ca cl fp).pe) ht (fun s H Ca cl fp => (he s H Ca cl fp).pe) hs, fun s σ ρ P Q rp t k => ?_⟩
  refine hi.run s σ ρ _ _ rp t fun s1 J xs g1 itd t1 => ?_
  obtain ⟨hl, W, h0, turn, done⟩ := t1
  intro D hD
  exact lc_core' rp g1 itd ho (hg X.s_0 X.H_0 0 [] []).run rc (he X.s_0 X.H_0 0 [] []).run hl W h0 turn done k hD
end
end Tq
set_option Elab.async false
set_option linter.all false
set_option autoImplicit false
set_option maxRecDepth 100000
set_option maxHeartbeats 4000000
namespace Tq
open PySem PySem.Spec L2
open PyProof.Rows hiding St
section
variable {X : Cx} {e0 : Hs} {W : WX} {pos : Pos} {st : Stmt}
/-! ### sugar for printed terms -/
theorem vs_set' {i : Nat} {e : Expr} {T : TE} {te : TEd} (h : VE X e0 e T te) (hp : PE X e T → PS X st (tAsg T (gName i))) : VS X e0 W st (sSet i te) := vs_set h (hp h.pe)
theorem vs_setF' {i : Nat} {e : Expr} {T : TE} {te : TEd} (h : VE X e0 e T te) (hp : PE X e T → PS X st (tAsg T (gName i))) : VS X e0 W st (sSetF i te) := vs_setF h (hp h.pe)
theorem vs_app' {i : Nat} {e : Expr} {T : TE} {te : TEd} (h : VE X e0 e T te) (hp : PE X e T → PS X st (tDrop (tBM X.K "list" rAppend (tVar i) (tCons T tNil)))) : VS X e0 W st (sApp i te) := vs_app h (hp h.pe)
theorem vs_asg' {tg e : Expr} {T : TE} {G : TG} {te : TEd} {g : TGd} (h : VE X e0 e T te) (hg : VG X e0 tg G g) (hp : PE X e T → PG X tg G → PS X st (tAsg T G)) : VS X e0 W st (sAsg te g) := vs_asg h hg (hp h.pe hg.pe)
theorem vs_setIx' {i : Nat} {e ie : Expr} {T Ti : TE} {te tix : TEd} (h : VE X e0 e T te) (h' : VE X e0 ie Ti tix) (hp : PE X e T → PE X ie Ti → PS X st (tAsg T (gSub (tVar i) Ti rSetL))) : VS X e0 W st (sSetIx i tix te) := vs_setIx h h' (hp h.pe h'.pe)
theorem vs_aug' {i : Nat} {e : Expr} {op : Operator} {T : TE} {te : TEd} {R : R2} {d : R2d} (ho : VOp X (inplaceOp op) R d) (h : VE X e0 e T te) (hp : PE X e T → PIp X op R → PS X st (tAug i T R)) : VS X e0 W st (sAug i d te) := vs_aug ho h (hp h.pe)
theorem vi_enum' {a e : Expr} {T : TE} {t : TEd} {tpos : Pos} {elts : List Expr} {kk : Nat} (h : VE X e0 a T t) (hp : PE X a T → PI X (.Tuple elts kk tpos) e (iEnum X.K (tCons T tNil))) : VI X e0 (.Tuple elts kk tpos) e (iEnum X.K (tCons T tNil)) (iEn t) := vi_enum h (hp h.pe)
theorem vi_zip' {a b e : Expr} {T U : TE} {t u : TEd} {tpos : Pos} {elts : List Expr} {kk : Nat} (h : VE X e0 a T t) (h' : VE X e0 b U u) (hp : PE X a T → PE X b U → PI X (.Tuple elts kk tpos) e (iZip X.K (tCons T (tCons U tNil)))) : VI X e0 (.Tuple elts kk tpos) e (iZip X.K (tCons T (tCons U tNil))) (iZp t u) := vi_zip h h' (hp h.pe h'.pe)
/-! ### chains -/
theorem chain_core {a b c : Expr} {f f' : Value → Value → Sem Value} {R R' : R2} {d d' : R2d} {Ta Tb Tc : TE} {ta tb tc : TEd} (ho : VOp X f R d) (ho' : VOp X f' R' d') (ha : VE X e0 a Ta ta) (hb : VE X e0 b Tb tb) (hc : VE X e0 c Tc tc) :
    ∀ (s : Hs) (σ : St) (ρ : DEnv) (P : DK) (Q : VK), Rep X.K e0 s σ ρ → eChain d d' ta tb tc ρ P →
      (∀ s' k v x, Grow s s' → RK X.K s.w s' k v x → P k x → Q v s'.w) → tChain R R' Ta Tb Tc σ s.w Q := by
  intro s σ ρ P Q rp t k
  refine ha.run s σ ρ _ _ rp t fun s1 k1 v1 x1 g1 r1 t1 => ?_
  have rp1 := rp.grow g1
  refine hb.run s1 σ ρ _ _ rp1 t1 fun s2 k2 v2 x2 g2 r2 t2 => ?_
  have rp2 := rp1.grow g2
  obtain ⟨hk1, hk2, t2⟩ := t2
  have q2 := r2.rq rp2.rh hk2
  refine ho.run s2 v1 v2 x1 x2 _ _ rp2.self ((r1.rq rp1.rh hk1).mono g2.f g2.h) q2 t2 fun s3 k3 v3 x3 g3 r3 t3 => ?_
  have rp3 := rp2.grow g3
  cases x3 <;> first | exact t3.elim | skip
  rename_i bb
  refine ⟨bb, r3.isbl, ?_⟩
  have g13 := g1.trans (g2.trans g3)
  cases bb with
  | true =>
    refine iteT ?_
    refine hc.run s3 σ ρ _ (fun w H => R' v2 w H Q) rp3 t3 fun s4 k4 v4 x4 g4 r4 t4 => ?_
    have rp4 := rp3.grow g4
    obtain ⟨hk4, t4⟩ := t4
    refine ho'.run s4 v2 v4 x2 x4 P Q rp4.self ((q2.mono g3.f g3.h).mono g4.f g4.h) (r4.rq rp4.rh hk4) t4 fun s5 k5 v5 x5 g5 r5 t5 => ?_
    have g := g13.trans g4
    exact k s5 k5 v5 x5 (g.trans g5) (r5.base fun a h => g.nw h) t5
  | false =>
    refine iteF ?_
    exact k s3 .fz _ _ g13 (.bl _) t3
theorem ve_chain {a b c : Expr} {op op' : CmpOp} {R R' : R2} {d d' : R2d} {Ta Tb Tc : TE} {ta tb tc : TEd} (ho : VOp X (compareOp op) R d) (ho' : VOp X (compareOp op') R' d') (ha : VE X e0 a Ta ta) (hb : VE X e0 b Tb tb) (hc : VE X e0 c Tc tc)
    (hm : lastMarks [op, op'] [b, c] = false := by with_unfolding_all rfl) : VE X e0 (.Compare a [op, op'] [b, c] pos) (tChain R R' Ta Tb Tc) (eChain d d' ta tb tc) :=
  ⟨pe_chain ho.pe ho'.pe ha.pe hb.pe hc.pe hm, chain_core ho ho' ha hb hc⟩
theorem vt_chain {a b c : Expr} {op op' : CmpOp} {R R' : R2} {d d' : R2d} {Ta Tb Tc : TE} {ta tb tc : TEd} (ho : VOp X (compareOp op) R d) (ho' : VOp X (compareOp op') R' d') (ha : VE X e0 a Ta ta) (hb : VE X e0 b Tb tb) (hc : VE X e0 c Tc tc)
    (hm : lastMarks [op, op'] [b, c] = false := by with_unfolding_all rfl) : VT X e0 (.Compare a [op, op'] [b, c] pos) (tTest (tChain R R' Ta Tb Tc)) (tB' (eChain d d' ta tb tc)) :=
  ⟨pt_chain ho.pe ho'.pe ha.pe hb.pe hc.pe hm, tst_core (chain_core ho ho' ha hb hc)⟩
/-! ### in -/
def Dt.toV : Dt → V
  | .non => .non
  | .bl b => .bl b
  | .int i => .int i
  | .str x => .str x
  | _ => .ref 0
def Dt.flat : Dt → Bool
  | .non => true
  | .bl _ => true
  | .int _ => true
  | .str _ => true
  | _ => false
theorem flat_toV : ∀ {x : Dt}, x.flat = true → flatV x.toV = true
  | .non, _ => rfl
  | .bl _, _ => rfl
  | .int _, _ => rfl
  | .str _, _ => rfl
theorem Rp.flat {K : PySem.W.Frag} {F : Hp} {v : V} {x : Dt} (r : Rp K F v x) (h : x.flat = true) : v = x.toV := by
  cases r <;> first | rfl | cases h
theorem Rq.flat {K : PySem.W.Frag} {F H : Hp} {v : V} {x : Dt} (r : Rq K F H v x) (h : x.flat = true) : v = x.toV := by
  rcases r with r | ⟨a, xs, ds, e1, e2, h', r⟩ | ⟨a, kvs, ds, e1, e2, h', r⟩
  · exact r.flat h
  · subst e2; cases h
  · subst e2; cases h
theorem RpL.flat {K : PySem.W.Frag} {F : Hp} : ∀ {vs : List V} {ds : List Dt}, RpL K F vs ds → ds.all Dt.flat = true → vs = ds.map Dt.toV ∧ vs.all flatV = true
  | _, _, .nil, _ => ⟨rfl, rfl⟩
  | _, _, .cons r t, h => by
    rw [List.all_cons, Bool.and_eq_true] at h
    obtain ⟨h1, h2⟩ := RpL.flat t h.2
    rw [List.map_cons, List.all_cons, h2, h1, r.flat h.1, flat_toV h.1]
    exact ⟨rfl, rfl⟩
def inD (x : Dt) (ds : List Dt) : Bool := inV x.toV (ds.map Dt.toV)
def dIn (n : Bool) : R2d := fun x y P => match y with
  | .lst ds => x.flat = true ∧ ds.all Dt.flat = true ∧ P .fz (.bl (if n then !inD x ds else inD x ds))
  | .tup ds => x.flat = true ∧ ds.all Dt.flat = true ∧ P .fz (.bl (if n then !inD x ds else inD x ds))
  | _ => False
theorem in_core {n : Bool} {f : Value → Value → Sem Value} (h : OpR X f (rIn X.K n)) : VOp X f (rIn X.K n) (dIn n) := by
  refine ⟨h, fun s v u x y P Q gr q1 q2 d k => ?_⟩
  cases y <;> first | exact d.elim | skip
  · rename_i ds
    obtain ⟨h1, h2, d⟩ := d
    obtain ⟨a, xs, rfl, hx, r⟩ := Rq.tup gr.fw q2
    obtain ⟨e1, e2⟩ := r.flat h2
    have e3 := q1.flat h1
    subst e3
    refine ⟨a, xs, rfl, .inr (.inl (.inl hx)), flat_toV h1, e2, ?_⟩
    rw [e1]
    exact k s .fz _ _ gr (.bl _) d
  · rename_i ds
    obtain ⟨h1, h2, d⟩ := d
    obtain ⟨a, xs, rfl, hx, r⟩ := Rq.lst gr.fw gr.hw q2
    obtain ⟨e1, e2⟩ := r.flat h2
    have e3 := q1.flat h1
    subst e3
    refine ⟨a, xs, rfl, .inl hx, flat_toV h1, e2, ?_⟩
    rw [e1]
    exact k s .fz _ _ gr (.bl _) d
theorem vo_in : VOp X (compareOp .In) (rIn X.K false) (dIn false) := in_core op_in_seq
theorem vo_notin : VOp X (compareOp .NotIn) (rIn X.K true) (dIn true) := in_core op_notIn_seq
/-! ### isinstance of a built-in class -/
def Dt.isT (x : Dt) (n : String) : Option Bool := match x with
  | .non => kitB "NoneType" n
  | .bl _ => kitB "bool" n
  | .int _ => kitB "int" n
  | .str _ => kitB "str" n
  | .tup _ => kitB "tuple" n
  | .lst _ => kitB "list" n
  | .dct _ => kitB "dict" n
  | .obj _ _ => none
  | .exc _ _ => none
def optB (o : Option Bool) (P : DK) : Prop := match o with
  | some b => P .fz (.bl b)
  | none => False
def eIsi (n : String) (t : TEd) : TEd := fun ρ P => t ρ fun k x => k.lf = true ∧ optB (x.isT n) P
theorem ve_isi {n : String} {a e : Expr} {T : TE} {t : TEd} (h : VE X e0 a T t) (hp : PE X a T → PE X e (tCB (rIsi X.K) (tCons T (tCons (tC (.ty n)) tNil)))) : VE X e0 e (tCB (rIsi X.K) (tCons T (tCons (tC (.ty n)) tNil))) (eIsi n t) := by
  refine ⟨hp h.pe, fun s σ ρ P Q rp t k => ?_⟩
  refine h.run s σ ρ _ (fun x H1 => rIsi X.K [x, .ty n] H1 Q) rp t fun s1 k1 v1 x1 g1 r1 t1 => ?_
  obtain ⟨hk1, t1⟩ := t1
  have q := r1.rq (rp.grow g1).rh hk1
  have fin : ∀ (ty : String), x1.isT n = kitB ty n → TyX X.K s1.w v1 (.type ty) → rIsi X.K [v1, .ty n] s1.w Q := fun ty e hty => by
    revert t1
    show (match x1.isT n with
      | some b => P .fz (.bl b)
      | none => False) → _
    rw [e]
    cases eb : kitB ty n with
    | none => exact fun t1 => t1.elim
    | some b => exact fun t1 => ⟨v1, .ty n, .type ty, .type n, b, rfl, .ty n, hty, kit_ty eb, k s1 .fz _ _ g1 (.bl b) t1⟩
  cases x1 with
  | non => cases q.non; exact fin _ rfl (.base .non)
  | bl b => cases q.bl; exact fin _ rfl (.base (.bl _))
  | int b => cases q.int; exact fin _ rfl (.base (.int _))
  | str b => cases q.str; exact fin _ rfl (.base (.str _))
  | tup ds =>
    obtain ⟨a, xs, rfl, hx, r⟩ := Rq.tup g1.fw q
    exact fin _ rfl (.base (.tup hx))
  | lst ds =>
    obtain ⟨a, xs, rfl, hx, r⟩ := Rq.lst g1.fw g1.hw q
    rcases hx with (hx | ⟨o, hx⟩) | ⟨o, its, n, hk, hc, _⟩
    · exact fin _ rfl (.base (.lst hx))
    · exact fin _ rfl (.base (.frz hx))
    · exact fin _ rfl (.kList hk hc)
  | dct ds =>
    rcases q with q | ⟨a, xs, ds', e1, e2, h', r⟩ | ⟨a, kvs, ds', e1, e2, h', r⟩
    · cases q with
      | dct h' r => exact fin _ rfl (.base (.dK (g1.fw _ _ h')))
    · cases e2
    · subst e1; exact fin _ rfl (.base (.dK (g1.hw _ _ h')))
  | obj C fs => exact t1.elim
  | exc C fs => exact t1.elim
/-! ### more built-in functions -/
def bAbs : List (Kd × Dt) → DK → Prop := fun as P => match as with
  | [(_, .int i)] => P .fz (.int (if i < 0 then -i else i))
  | _ => False
def rAbsD : List V → Hp → VK → Prop := fun xs H Q => ∃ i, xs = [.int i] ∧ Q (.int (if i < 0 then -i else i)) H
theorem vc_abs : VCall X (.builtin "abs") rAbsD bAbs := by
  refine ⟨call_abs, fun s0 s vs as P Q g ar hlf d k => ?_⟩
  match as, ar, hlf, d with
  | [(_, .int i)], ar, hlf, d => exact ⟨i, ar.int1, k s .fz _ _ g (.int _) d⟩
def bMax2 : List (Kd × Dt) → DK → Prop := fun as P => match as with
  | [(_, .int i), (_, .int j)] => P .fz (.int (if j > i then j else i))
  | _ => False
def rMax2D : List V → Hp → VK → Prop := fun xs H Q => ∃ i j, xs = [.int i, .int j] ∧ Q (.int (if j > i then j else i)) H
theorem vc_max2 (hc : X.calm = true) : VCall X (.builtin "max") rMax2D bMax2 := by
  refine ⟨call_max2 hc, fun s0 s vs as P Q g ar hlf d k => ?_⟩
  match as, ar, hlf, d with
  | [(_, .int i), (_, .int j)], ar, hlf, d =>
    obtain ⟨v, u, rfl, q1, q2⟩ := ar.two hlf
    rw [q1.int, q2.int]
    exact ⟨i, j, rfl, k s .fz _ _ g (.int _) d⟩
def bMin2 : List (Kd × Dt) → DK → Prop := fun as P => match as with
  | [(_, .int i), (_, .int j)] => P .fz (.int (if j < i then j else i))
  | _ => False
def rMin2D : List V → Hp → VK → Prop := fun xs H Q => ∃ i j, xs = [.int i, .int j] ∧ Q (.int (if j < i then j else i)) H
theorem vc_min2 (hc : X.calm = true) : VCall X (.builtin "min") rMin2D bMin2 := by
  refine ⟨call_min2 hc, fun s0 s vs as P Q g ar hlf d k => ?_⟩
  match as, ar, hlf, d with
  | [(_, .int i), (_, .int j)], ar, hlf, d =>
    obtain ⟨v, u, rfl, q1, q2⟩ := ar.two hlf
    rw [q1.int, q2.int]
    exact ⟨i, j, rfl, k s .fz _ _ g (.int _) d⟩
/-- lists of ints -/
theorem RpL.to_ints {K : PySem.W.Frag} {F : Hp} {vs : List V} {ds : List Dt} {ns : List Int} (r : RpL K F vs ds) (e : ds = ns.map Dt.int) : vs = ns.map V.int := by
  subst e; exact r.ints_inv
def bSorted : List (Kd × Dt) → DK → Prop := fun as P => match as with
  | [(_, .lst ds)] => ∃ ns : List Int, ds = ns.map Dt.int ∧ ∀ ms : List Int, ms.Perm ns → ms.Pairwise (· ≤ ·) → P .fr (.lst (ms.map Dt.int))
  | _ => False
theorem vc_sorted : VCall X (.builtin "sorted") (rSortedI X.K) bSorted := by
  refine ⟨cr_sortedI, fun s0 s vs as P Q g ar hlf d k => ?_⟩
  match as, ar, hlf, d with
  | [(_, .lst ds)], ar, hlf, d =>
    obtain ⟨ns, e, d⟩ := d
    obtain ⟨v, rfl, q⟩ := ar.one hlf
    obtain ⟨a, xs, rfl, h, r⟩ := Rq.lst g.fw g.hw q
    have e2 := r.to_ints e
    subst e2
    refine ⟨a, ns, rfl, h, fun ms p hp ho hn => ?_⟩
    obtain ⟨gg, rr⟩ := fresh_new (ds := ms.map Dt.int) g hn (RpL.of_ints ms) rfl
    exact k _ .fr _ _ gg rr (d ms hp ho)
def bSum : List (Kd × Dt) → DK → Prop := fun as P => match as with
  | [(_, .lst ds)] => ∃ ns : List Int, ds = ns.map Dt.int ∧ P .fz (.int ns.sum)
  | _ => False
theorem vc_sum (hc : X.calm = true) : VCall X (.builtin "sum") (rSum X.K) bSum := by
  refine ⟨cr_sum hc, fun s0 s vs as P Q g ar hlf d k => ?_⟩
  match as, ar, hlf, d with
  | [(_, .lst ds)], ar, hlf, d =>
    obtain ⟨ns, e, d⟩ := d
    obtain ⟨v, rfl, q⟩ := ar.one hlf
    obtain ⟨a, xs, rfl, h, r⟩ := Rq.lst g.fw g.hw q
    have e2 := r.to_ints e
    subst e2
    exact ⟨a, ns, rfl, h, k s .fz _ _ g (.int _) d⟩
/-! ### assignment of a comprehension -/
theorem vs_setLcF {i : Nat} {y : Str} {py spos : Pos} {tg elt iter : Expr} {ifs : List Expr} {scope : Scope} {own : List (Str × Nat)} {w : TI} {it : TId} {T : TG} {g : TGd} {C : TT} {tt : TTd} {E : TE} {te : TEd} (fr : Bool) (hc : X.calm = true) (hN : X.N.Nodup) (hy : X.N[i]? = some y) (hyl : X.env.scope.names.lookup y = some .local)
    (hsw : swapsWith (.ListComp elt [⟨tg, iter, ifs, 0⟩] scope pos) (some (.Name y py)) spos.line X.env = pure true) (hi : VJ X e0 tg iter w it) (ok : BlkOk X.N X.env.scope scope own) (ho : OwnTg T (own.map (·.2)))
    (hg : ∀ (s : Shared) (H : Hp) (Ca : Addr) (cl : List (Str × Addr)) (fp : List Addr), VG (X.blk s H scope (compEnvC scope cl Ca X.env) fp) e0 tg T g)
    (ht : ∀ (s : Shared) (H : Hp) (Ca : Addr) (cl : List (Str × Addr)) (fp : List Addr), PTs (X.blk s H scope (compEnvC scope cl Ca X.env) fp) ifs C)
    (rc : ∀ (s : Hs) (σ : St) (ρ : DEnv) (P : Bool → Prop) (Q : Bool → Hp → Prop), Rep X.K e0 s σ ρ → tt ρ P → (∀ s' b, Grow s s' → P b → Q b s'.w) → C σ s.w Q)
    (he : ∀ (s : Shared) (H : Hp) (Ca : Addr) (cl : List (Str × Addr)) (fp : List Addr), VE (X.blk s H scope (compEnvC scope cl Ca X.env) fp) e0 elt E te)
    (hs : ∀ x, foldedSetIterable iter X.env x = pure x := by intro _; rfl) :
    VS X e0 W (.Assign [.Name y py] (.ListComp elt [⟨tg, iter, ifs, 0⟩] scope pos) spos) (if fr then sSetF i (eLc it g tt te (own.map (·.2))) else sSet i (eLc it g tt te (own.map (·.2)))) := by
  have ps := ps_setLc (spos := spos) hc hN hy hyl hsw hi.pe ok (fun s H Ca cl fp => (hg s H Ca cl fp).pe) ht (fun s H Ca cl fp => (he s H Ca cl fp).pe) hs
  have ve : VE X e0 (.ListComp elt [⟨tg, iter, ifs, 0⟩] scope pos) (tLc w T C E (own.map (·.2))) (eLc it g tt te (own.map (·.2))) := ve_lc hc hN hi ok ho hg ht rc he hs
  cases fr with
  | true => exact vs_setF ve ps
  | false => exact vs_set ve ps
/-- no test; one test -/
theorem no_tst : ∀ (K : PySem.W.Frag) (s : Hs) (σ : St) (ρ : DEnv) (P : Bool → Prop) (Q : Bool → Hp → Prop), Rep K e0 s σ ρ → (fun (_ : DEnv) (P : Bool → Prop) => P true) ρ P → (∀ s' b, Grow s s' → P b → Q b s'.w) → tYes σ s.w Q :=
  fun K s σ ρ P Q rp t k => k s true (Grow.refl rp.rh) t
def bYes : TTd := fun _ P => P true
/-! ### defs known by what they promise -/
def Has (P : Program) (w : World) (K : PySem.W.Frag) (mg : Str → Option Value) (base : Heap) (k : Nat) (x : Str) (ps : List Str) (S : DSp) : Prop :=
  ∃ (f : Addr) (fd : FuncData), FnOk P w K mg base CX0 k f fd ps (spL K S) ∧ mg x = some (.ref f) ∧ PySem.W.keepIn K (.ref f) = true ∧ Binds K fd ps []
theorem ve_callH {k : Nat} {ps : List Str} {S : DSp} {x : Str} {p : Pos} {e : Expr} {es : List Expr} {Ta : TA} {t : TAd} (h : Has X.prog X.w X.K X.mg X.base k x ps S) (hr : Room k X.A) (hg : Gl X x)
    (ha : VA X e0 (e :: es) Ta t) (hdb : (x == ("__debug__" : Str)) = false := by decide) (he : starEach (e :: es) X.env = (false, eval e X.env) :: starEach es X.env := by rfl) (hpl : (backTo pos (starEach es X.env)).any (·.1) = false := by rfl) :
    VE X e0 (.Call (.Name x p) (e :: es) [] pos) (tCall (spL X.K S) [] E0 Ta) (eCallD S t) := by
  obtain ⟨f, fd, F, hm, hk, hb⟩ := h
  exact ve_call F hr hg hm hk hb ha hdb he hpl
end
section
variable {P : Program} {w : World} {K : PySem.W.Frag} {mg : Str → Option Value} {base : Heap}
theorem Has.mono {j k : Nat} {x : Str} {ps : List Str} {S : DSp} (h : Has P w K mg base j x ps S) (hj : j ≤ k) : Has P w K mg base k x ps S := by
  obtain ⟨f, fd, F, r⟩ := h
  exact ⟨f, fd, F.mono hj, r⟩
/-- a weaker promise -/
theorem Has.imp {k : Nat} {x : Str} {ps : List Str} {S S' : DSp} (h : Has P w K mg base k x ps S) (hS : ∀ as P, S' as P → S as P) : Has P w K mg base k x ps S' := by
  obtain ⟨f, fd, F, r⟩ := h
  exact ⟨f, fd, F.imp fun vs H Q E ⟨F, H, i, as, P, h1, h2, h3, h4, h5, h6⟩ => ⟨F, H, i, as, P, h1, h2, h3, h4, hS as P h5, h6⟩, r⟩
/-- a def of the text as it stands -/
structure Df (K : PySem.W.Frag) (mg : Str → Option Value) (x : Str) (st : Stmt) (ps : List Str) : Prop where
  ex : ∃ (f : Addr) (fd : FuncData), Fun K x x st f fd ∧ mg x = some (.ref f) ∧ Binds K fd ps []
theorem has_ok {x : Str} {st : Stmt} {N ps : List Str} {k : Nat} {S : DSp} {t : TSd} (d : Df K mg x st ps) (Sc : FnScope N ps (defScope st)) (hp : ps.length ≤ N.length)
    (hb : ∀ (f : Addr) (cdv : Value) (A : Around) (outer : List Env) (s : Shared) (H : Hp) (E : XK) (e0 : Hs), Room k (A.deeper (envOfC x (defScope st) s.heap.objs.size f cdv)) →
      VSs (cxOf CX0 P w K mg base N x (defScope st) f cdv A outer s H E).nox e0 WX0 (defBody st) t)
    (len : ∀ as P, S as P → as.length = ps.length) (h : ∀ as P, S as P → t { nx := fun _ => P .fz .non, rt := fun k x => k.st = true ∧ P k x } (startD N.length as)) : Has P w K mg base (k + 1) x ps S := by
  obtain ⟨f, fd, F, hm, bi⟩ := d.ex
  exact ⟨f, fd, fn_ok F Sc len (fun cdv A outer s H E e0 hr => hb f cdv A outer s H E e0 hr) hp h, hm, F.kp, bi⟩
end
end Tq
set_option Elab.async false
set_option linter.all false
set_option autoImplicit false
set_option maxRecDepth 100000
set_option maxHeartbeats 4000000
namespace Tq
open PySem PySem.Spec L2
open PyProof.Rows hiding St
section
variable {X : Cx} {e0 : Hs} {W : WX} {pos : Pos} {st : Stmt}
abbrev dFdivW : R2d := dI CDivW fun i j => .int (i / j)
theorem vo_fdivW : VOp X (binaryOp .FloorDiv) (rI CDivW fun i j => .int (i / j)) dFdivW := vop_i op_fdivW fun _ _ _ => .int _
abbrev dMulW : R2d := dI CMulW fun i j => .int (i * j)
theorem vo_mulW : VOp X (binaryOp .Mult) (rI CMulW fun i j => .int (i * j)) dMulW := vop_i op_mulW fun _ _ _ => .int _
theorem RpL.rep {K : PySem.W.Frag} {F : Hp} {vs : List V} {xs : List Dt} (r : RpL K F vs xs) : ∀ k : Nat, RpL K F (List.replicate k vs).flatten (List.replicate k xs).flatten
  | 0 => .nil
  | k + 1 => by
    rw [List.replicate_succ, List.replicate_succ, List.flatten_cons, List.flatten_cons]
    exact r.app (RpL.rep r k)
/-- a list that was just made, times an int -/
theorem ve_rep {a b : Expr} {T U : TE} {t u : TEd} (ha : VE X e0 a T t) (hb : VE X e0 b U u) : VE X e0 (.BinOp a .Mult b pos) (tOp rRep T U) (fun ρ P => t ρ fun k x => u ρ fun _ y => k = .fr ∧ dRep x y P) := by
  refine ⟨pe_op op_rep ha.pe hb.pe, fun s σ ρ P Q rp t k => ?_⟩
  refine ha.run s σ ρ _ _ rp t fun s1 k1 v1 x1 g1 r1 t1 => ?_
  have rp1 := rp.grow g1
  refine hb.run s1 σ ρ _ _ rp1 t1 fun s2 k2 v2 x2 g2 r2 t2 => ?_
  have rp2 := rp1.grow g2
  obtain ⟨e1, t2⟩ := t2
  subst e1
  have r1' := r1.grow g2
  cases x1 <;> first | exact t2.elim | skip
  rename_i ds
  cases x2 <;> first | exact t2.elim | skip
  rename_i n
  obtain ⟨l, rfl, b, gn, c⟩ := r1'
  obtain ⟨xs, h, r⟩ := c.lst
  obtain ⟨h1, h2, h3, t2⟩ := t2
  refine ⟨l, n, xs, rfl, r2.isint, rp2.rh.hw _ _ h, h1, h2, by rw [r.length, sizeLine_eq]; exact h3, fun p hp => ?_⟩
  obtain ⟨gg, rr⟩ := fresh_new (g1.trans g2) hp (r.rep n.toNat) rfl
  exact k _ .fr _ _ gg rr t2
def eRep (t u : TEd) : TEd := fun ρ P => t ρ fun k x => u ρ fun _ y => k = .fr ∧ dRep x y P
/-! ### comprehensions, without and with one test -/
section
variable {tg elt iter c y' : Expr} {scope : Scope} {own : List (Str × Nat)} {vs : List Nat} {w : TI} {it : TId} {T : TG} {g : TGd} {C : TT} {tt : TTd} {E : TE} {te : TEd}
theorem ve_lc0 (hc : X.calm = true) (hN : X.N.Nodup) (hi : VJ X e0 tg iter w it) (ok : BlkOk X.N X.env.scope scope own) (ho : OwnTg T (own.map (·.2)))
    (hg : ∀ (s : Shared) (H : Hp) (Ca : Addr) (cl : List (Str × Addr)) (fp : List Addr), VG (X.blk s H scope (compEnvC scope cl Ca X.env) fp) e0 tg T g)
    (he : ∀ (s : Shared) (H : Hp) (Ca : Addr) (cl : List (Str × Addr)) (fp : List Addr), VE (X.blk s H scope (compEnvC scope cl Ca X.env) fp) e0 elt E te)
    (hs : ∀ x, foldedSetIterable iter X.env x = pure x := by intro _; rfl) (hvs : own.map (·.2) = vs := by rfl) :
    VE X e0 (.ListComp elt [⟨tg, iter, [], 0⟩] scope pos) (tLc w T tYes E (own.map (·.2))) (eLc it g bYes te vs) := by
  subst hvs
  exact ve_lc hc hN hi ok ho hg (fun _ _ _ _ _ => pts_nil) (fun s σ ρ P Q rp t k => k s true (Grow.refl rp.rh) t) he hs
theorem ve_lc1 (hc : X.calm = true) (hN : X.N.Nodup) (hi : VJ X e0 tg iter w it) (ok : BlkOk X.N X.env.scope scope own) (ho : OwnTg T (own.map (·.2)))
    (hg : ∀ (s : Shared) (H : Hp) (Ca : Addr) (cl : List (Str × Addr)) (fp : List Addr), VG (X.blk s H scope (compEnvC scope cl Ca X.env) fp) e0 tg T g)
    (ht : ∀ (s : Shared) (H : Hp) (Ca : Addr) (cl : List (Str × Addr)) (fp : List Addr), VT (X.blk s H scope (compEnvC scope cl Ca X.env) fp) e0 c C tt)
    (he : ∀ (s : Shared) (H : Hp) (Ca : Addr) (cl : List (Str × Addr)) (fp : List Addr), VE (X.blk s H scope (compEnvC scope cl Ca X.env) fp) e0 elt E te)
    (hs : ∀ x, foldedSetIterable iter X.env x = pure x := by intro _; rfl) (hvs : own.map (·.2) = vs := by rfl) :
    VE X e0 (.ListComp elt [⟨tg, iter, [c], 0⟩] scope pos) (tLc w T C E (own.map (·.2))) (eLc it g tt te vs) := by
  subst hvs
  exact ve_lc hc hN hi ok ho hg (fun s H Ca cl fp => pts_one (ht s H Ca cl fp).pe) (ht X.s_0 X.H_0 0 [] []).run he hs
variable {i : Nat} {y : Str} {py spos : Pos}
theorem vs_setLc0F (hy : X.N[i]? = some y) (hN : X.N.Nodup) (hyl : X.env.scope.names.lookup y = some .local) (hc : X.calm = true)
    (hsw : swapsWith (.ListComp elt [⟨tg, iter, [], 0⟩] scope pos) (some (.Name y py)) spos.line X.env = pure true) (hi : VJ X e0 tg iter w it) (ok : BlkOk X.N X.env.scope scope own) (ho : OwnTg T (own.map (·.2)))
    (hg : ∀ (s : Shared) (H : Hp) (Ca : Addr) (cl : List (Str × Addr)) (fp : List Addr), VG (X.blk s H scope (compEnvC scope cl Ca X.env) fp) e0 tg T g)
    (he : ∀ (s : Shared) (H : Hp) (Ca : Addr) (cl : List (Str × Addr)) (fp : List Addr), VE (X.blk s H scope (compEnvC scope cl Ca X.env) fp) e0 elt E te)
    (hs : ∀ x, foldedSetIterable iter X.env x = pure x := by intro _; rfl) (hvs : own.map (·.2) = vs := by rfl) :
    VS X e0 W (.Assign [.Name y py] (.ListComp elt [⟨tg, iter, [], 0⟩] scope pos) spos) (sSetF i (eLc it g bYes te vs)) := by
  subst hvs
  exact vs_setLcF true hc hN hy hyl hsw hi ok ho hg (fun _ _ _ _ _ => pts_nil) (fun s σ ρ P Q rp t k => k s true (Grow.refl rp.rh) t) he hs
theorem vs_setLc0 (hy : X.N[i]? = some y) (hN : X.N.Nodup) (hyl : X.env.scope.names.lookup y = some .local) (hc : X.calm = true)
    (hsw : swapsWith (.ListComp elt [⟨tg, iter, [], 0⟩] scope pos) (some (.Name y py)) spos.line X.env = pure true) (hi : VJ X e0 tg iter w it) (ok : BlkOk X.N X.env.scope scope own) (ho : OwnTg T (own.map (·.2)))
    (hg : ∀ (s : Shared) (H : Hp) (Ca : Addr) (cl : List (Str × Addr)) (fp : List Addr), VG (X.blk s H scope (compEnvC scope cl Ca X.env) fp) e0 tg T g)
    (he : ∀ (s : Shared) (H : Hp) (Ca : Addr) (cl : List (Str × Addr)) (fp : List Addr), VE (X.blk s H scope (compEnvC scope cl Ca X.env) fp) e0 elt E te)
    (hs : ∀ x, foldedSetIterable iter X.env x = pure x := by intro _; rfl) (hvs : own.map (·.2) = vs := by rfl) :
    VS X e0 W (.Assign [.Name y py] (.ListComp elt [⟨tg, iter, [], 0⟩] scope pos) spos) (sSet i (eLc it g bYes te vs)) := by
  subst hvs
  exact vs_setLcF false hc hN hy hyl hsw hi ok ho hg (fun _ _ _ _ _ => pts_nil) (fun s σ ρ P Q rp t k => k s true (Grow.refl rp.rh) t) he hs
theorem vs_setLc1F (hy : X.N[i]? = some y) (hN : X.N.Nodup) (hyl : X.env.scope.names.lookup y = some .local) (hc : X.calm = true)
    (hsw : swapsWith (.ListComp elt [⟨tg, iter, [c], 0⟩] scope pos) (some (.Name y py)) spos.line X.env = pure true) (hi : VJ X e0 tg iter w it) (ok : BlkOk X.N X.env.scope scope own) (ho : OwnTg T (own.map (·.2)))
    (hg : ∀ (s : Shared) (H : Hp) (Ca : Addr) (cl : List (Str × Addr)) (fp : List Addr), VG (X.blk s H scope (compEnvC scope cl Ca X.env) fp) e0 tg T g)
    (ht : ∀ (s : Shared) (H : Hp) (Ca : Addr) (cl : List (Str × Addr)) (fp : List Addr), VT (X.blk s H scope (compEnvC scope cl Ca X.env) fp) e0 c C tt)
    (he : ∀ (s : Shared) (H : Hp) (Ca : Addr) (cl : List (Str × Addr)) (fp : List Addr), VE (X.blk s H scope (compEnvC scope cl Ca X.env) fp) e0 elt E te)
    (hs : ∀ x, foldedSetIterable iter X.env x = pure x := by intro _; rfl) (hvs : own.map (·.2) = vs := by rfl) :
    VS X e0 W (.Assign [.Name y py] (.ListComp elt [⟨tg, iter, [c], 0⟩] scope pos) spos) (sSetF i (eLc it g tt te vs)) := by
  subst hvs
  exact vs_setLcF true hc hN hy hyl hsw hi ok ho hg (fun s H Ca cl fp => pts_one (ht s H Ca cl fp).pe) (ht X.s_0 X.H_0 0 [] []).run he hs
theorem vs_setLc1 (hy : X.N[i]? = some y) (hN : X.N.Nodup) (hyl : X.env.scope.names.lookup y = some .local) (hc : X.calm = true)
    (hsw : swapsWith (.ListComp elt [⟨tg, iter, [c], 0⟩] scope pos) (some (.Name y py)) spos.line X.env = pure true) (hi : VJ X e0 tg iter w it) (ok : BlkOk X.N X.env.scope scope own) (ho : OwnTg T (own.map (·.2)))
    (hg : ∀ (s : Shared) (H : Hp) (Ca : Addr) (cl : List (Str × Addr)) (fp : List Addr), VG (X.blk s H scope (compEnvC scope cl Ca X.env) fp) e0 tg T g)
    (ht : ∀ (s : Shared) (H : Hp) (Ca : Addr) (cl : List (Str × Addr)) (fp : List Addr), VT (X.blk s H scope (compEnvC scope cl Ca X.env) fp) e0 c C tt)
    (he : ∀ (s : Shared) (H : Hp) (Ca : Addr) (cl : List (Str × Addr)) (fp : List Addr), VE (X.blk s H scope (compEnvC scope cl Ca X.env) fp) e0 elt E te)
    (hs : ∀ x, foldedSetIterable iter X.env x = pure x := by intro _; rfl) (hvs : own.map (·.2) = vs := by rfl) :
    VS X e0 W (.Assign [.Name y py] (.ListComp elt [⟨tg, iter, [c], 0⟩] scope pos) spos) (sSet i (eLc it g tt te vs)) := by
  subst hvs
  exact vs_setLcF false hc hN hy hyl hsw hi ok ho hg (fun s H Ca cl fp => pts_one (ht s H Ca cl fp).pe) (ht X.s_0 X.H_0 0 [] []).run he hs
end
end
/-! ### the end: a law's own def -/
theorem df_mk {K : PySem.W.Frag} {mg : Str → Option Value} {h : Heap} {x : Str} {st : Stmt} {ps : List Str} {f : Addr} {oc : Value} {od an : Option Addr} {osl : Array (Option Value)} {kV doc pm cdv ct : Value} (X : K.In h) (G : h.Ns mainGlobals mg)
    (a : PySem.W.nsIn K mainGlobals x = some (some (.ref f))) (l : K.lookup f = some ⟨oc, od, .func (PySem.W.fnOf x x (defArgs st) (defBody st) (defScope st) .none kV doc pm an cdv ct), osl⟩)
    (c : PySem.W.codeIn K cdv x = true) (k : PySem.W.keepIn K (.ref f) = true)
    (hb : ∀ (kV doc pm : Value) (an : Option Addr) (cdv ct : Value) (us : List Value), us.length = ps.length → bindArgs (PySem.W.fnOf x x (defArgs st) (defBody st) (defScope st) .none kV doc pm an cdv ct) ⟨us, []⟩ = pure (ps.zip us)) : Df K mg x st ps :=
  ⟨f, _, fun_mk l c k, PySem.W.mg_of X G a, (fun_mk (st := st) l c k).binds hb⟩
/-- what a law promises: True of every list of at most 63 ints -/
def spLaw : DSp := fun as P => ∃ ns : List Int, as = [(.rd, .lst (ns.map .int))] ∧ ns.length ≤ 63 ∧ P .fz (.bl true)
/-- .. as the library asks it -/
def spL2 (K : PySem.W.Frag) : Sp := fun vs H Q _ => ∃ (a : Addr) (ns : List Int), vs = [.ref a] ∧ SqL K H a (ns.map V.int) ∧ ns.length ≤ 63 ∧ ∀ H', Q (.bl true) H'
theorem law_imp {K : PySem.W.Frag} {vs : List V} {H : Hp} {Q : VK} {E : XK} (h : spL2 K vs H Q E) : spL K spLaw vs H Q E := by
  obtain ⟨a, ns, rfl, hr, hl, q⟩ := h
  refine ⟨fun _ => none, H, fun _ => none, [(.rd, .lst (ns.map .int))], fun k x => k = .fz ∧ x = .bl true, (fun _ _ z => by cases z), Same.refl _, (fun _ _ z => by cases z), .rd (.inr (.inl ⟨a, ns.map V.int, _, rfl, rfl, hr, RpL.of_ints ns⟩)) .nil, ⟨ns, rfl, hl, rfl, rfl⟩, fun s k v x b r e => ?_⟩
  obtain ⟨rfl, rfl⟩ := e
  cases r
  exact q _
end Tq
set_option Elab.async false
set_option linter.all false
set_option autoImplicit false
set_option maxRecDepth 100000
set_option maxHeartbeats 4000000
namespace Tq
open PySem PySem.Spec L2
open PyProof.Rows hiding St
/-! ### the same rules with the written part K named (so that a comprehension's block has its reading told outside) -/
section
variable {X : Cx} {e0 : Hs} {pos : Pos} {K : PySem.W.Frag} (hK : X.K = K)
include hK
theorem vo_addK : VOp X (binaryOp .Add) (rAddD K) dAdd := by subst hK; exact vo_add
theorem vo_eqK (hu : X.A.units + 64 < cLine) : VOp X (compareOp .Eq) (fun x y H Q => rEq x y H Q ∨ rEqD K x y H Q) dEq := by subst hK; exact vo_eq hu
theorem vo_neK (hu : X.A.units + 64 < cLine) : VOp X (compareOp .NotEq) (fun x y H Q => rNe x y H Q ∨ rNeD K x y H Q) dNe := by subst hK; exact vo_ne hu
theorem vo_inK : VOp X (compareOp .In) (rIn K false) (dIn false) := by subst hK; exact vo_in
theorem vo_notinK : VOp X (compareOp .NotIn) (rIn K true) (dIn true) := by subst hK; exact vo_notin
theorem vc_lenK : VCall X (.builtin "len") (rLenD K) bLen := by subst hK; exact vc_len
theorem vc_listK : VCall X (.type "list") (rListD K) bList := by subst hK; exact vc_list
theorem vc_sortedK : VCall X (.builtin "sorted") (rSortedI K) bSorted := by subst hK; exact vc_sorted
theorem vc_sumK (hc : X.calm = true) : VCall X (.builtin "sum") (rSum K) bSum := by subst hK; exact vc_sum hc
theorem ve_ixK {a b : Expr} {Ta Tb : TE} {ta tb : TEd} (ha : VE X e0 a Ta ta) (hb : VE X e0 b Tb tb) (hs : PlainIx b) : VE X e0 (.Subscript a b pos) (tOp (rIx K) Ta Tb) (eOp dIx ta tb) := by subst hK; exact ve_ix ha hb hs
theorem ve_sliceK {e : Expr} {lo hi : Option Expr} {p2 : Pos} {Ta : TE} {Tl Th : TO} {ta : TEd} {tl th : TOd} (ha : VE X e0 e Ta ta) (hl : VO X e0 lo Tl tl) (hh : VO X e0 hi Th th) : VE X e0 (.Subscript e (.Slice lo hi none p2) pos) (tSl (fun x lo hi H Q => rSlL K x lo hi H Q ∨ rSlS x lo hi H Q) Ta Tl Th) (eSl ta tl th) := by subst hK; exact ve_slice ha hl hh
theorem ve_isiK {n : String} {a e : Expr} {T : TE} {t : TEd} (h : VE X e0 a T t) (hp : PE X a T → PE X e (tCB (rIsi X.K) (tCons T (tCons (tC (.ty n)) tNil)))) : VE X e0 e (tCB (rIsi K) (tCons T (tCons (tC (.ty n)) tNil))) (eIsi n t) := by subst hK; exact ve_isi h hp
theorem ve_callHK {k : Nat} {ps : List Str} {S : DSp} {x : Str} {p : Pos} {e : Expr} {es : List Expr} {Ta : TA} {t : TAd} (h : Has X.prog X.w X.K X.mg X.base k x ps S) (hr : Room k X.A) (hg : Gl X x)
    (ha : VA X e0 (e :: es) Ta t) (hdb : (x == ("__debug__" : Str)) = false := by decide) (he : starEach (e :: es) X.env = (false, eval e X.env) :: starEach es X.env := by rfl) (hpl : (backTo pos (starEach es X.env)).any (·.1) = false := by rfl) :
    VE X e0 (.Call (.Name x p) (e :: es) [] pos) (tCall (spL K S) [] E0 Ta) (eCallD S t) := by subst hK; exact ve_callH h hr hg ha hdb he hpl
theorem vi_listK {tg e : Expr} {T : TE} {t : TEd} (h : VE X e0 e T t) : VI X e0 tg e (iList K T) (iLst t) := by subst hK; exact vi_list h
theorem vj_listK {tg e : Expr} {T : TE} {t : TEd} (h : VE X e0 e T t) : VJ X e0 tg e (iList K T) (iLstG t) := by subst hK; exact vj_list h
theorem vj_enumK {a e : Expr} {T : TE} {t : TEd} {tpos : Pos} {elts : List Expr} {kk : Nat} (h : VE X e0 a T t) (hp : PE X a T → PI X (.Tuple elts kk tpos) e (iEnum X.K (tCons T tNil))) : VJ X e0 (.Tuple elts kk tpos) e (iEnum K (tCons T tNil)) (iEnG t) := by subst hK; exact vj_enum h (hp h.pe)
theorem vj_zipK {a b e : Expr} {T U : TE} {t u : TEd} {tpos : Pos} {elts : List Expr} {kk : Nat} (h : VE X e0 a T t) (h' : VE X e0 b U u) (hp : PE X a T → PE X b U → PI X (.Tuple elts kk tpos) e (iZip X.K (tCons T (tCons U tNil)))) : VJ X e0 (.Tuple elts kk tpos) e (iZip K (tCons T (tCons U tNil))) (iZpG t u) := by subst hK; exact vj_zip h h' (hp h.pe h'.pe)
theorem vi_tupK {tg e : Expr} {T : TE} {t : TEd} (h : VE X e0 e T t) : VI X e0 tg e (iTup K T) (iTp t) := by subst hK; exact vi_tup h
theorem vi_enumK {a e : Expr} {T : TE} {t : TEd} {tpos : Pos} {elts : List Expr} {kk : Nat} (h : VE X e0 a T t) (hp : PE X a T → PI X (.Tuple elts kk tpos) e (iEnum X.K (tCons T tNil))) : VI X e0 (.Tuple elts kk tpos) e (iEnum K (tCons T tNil)) (iEn t) := by subst hK; exact vi_enum' h hp
theorem vi_zipK {a b e : Expr} {T U : TE} {t u : TEd} {tpos : Pos} {elts : List Expr} {kk : Nat} (h : VE X e0 a T t) (h' : VE X e0 b U u) (hp : PE X a T → PE X b U → PI X (.Tuple elts kk tpos) e (iZip X.K (tCons T (tCons U tNil)))) : VI X e0 (.Tuple elts kk tpos) e (iZip K (tCons T (tCons U tNil))) (iZp t u) := by subst hK; exact vi_zip' h h' hp
theorem vg_tupK {es : List Expr} {k : Nat} {T : TGs} {t : TGsd} {n : Nat} (hc : X.calm = true) (h : VGs X e0 es T t) (hn : (assignEach es X.env).length = n := by rfl) (hst : (assignEach es X.env).findIdx? (·.1) = none := by rfl) : VG X e0 (.Tuple es k pos) (gTup K n T) (hTup n t) := by subst hK; exact vg_tup hc h hn hst
end
end Tq
namespace Tq
open PySem PySem.Spec L2
open PyProof.Rows hiding St
theorem atI_0 {α : Type} {a : α} {l : List α} : L2.atI (a :: l) 0 = some a := atI_nat (j := 0) rfl
theorem atI_1 {α : Type} {a b : α} {l : List α} : L2.atI (a :: b :: l) 1 = some b := atI_nat (j := 1) rfl
theorem atI_2 {α : Type} {a b c : α} {l : List α} : L2.atI (a :: b :: c :: l) 2 = some c := atI_nat (j := 2) rfl
def Dt.ty : Dt → String
  | .non => "NoneType"
  | .bl _ => "bool"
  | .int _ => "int"
  | .str _ => "str"
  | .tup _ => "tuple"
  | .lst _ => "list"
  | .dct _ => "dict"
  | .obj _ _ => "object"
  | .exc _ _ => "exception"
def Dt.isObj : Dt → Bool
  | .obj _ _ => true
  | .exc _ _ => true
  | _ => false
theorem kitB_all : ∀ (a : String), a ∈ ["NoneType", "bool", "int", "str", "tuple", "list", "dict"] → ∀ b, b ∈ ["int", "list", "tuple", "str", "bool", "dict"] → kitB a b = some (a == b || (a == "bool" && b == "int")) := by decide +kernel
theorem isT_eq (x : Dt) (h : x.isObj = false) (b : String) (hb : b ∈ ["int", "list", "tuple", "str", "bool", "dict"]) : x.isT b = some (x.ty == b || (x.ty == "bool" && b == "int")) := by
  cases x <;> first | exact kitB_all _ (by decide) b hb | cases h
theorem isT_int_int {i : Int} : (Dt.int i).isT "int" = some true := isT_eq _ rfl _ (by decide)
theorem isT_int_bool {i : Int} : (Dt.int i).isT "bool" = some false := isT_eq _ rfl _ (by decide)
theorem isT_bl_int {i : Bool} : (Dt.bl i).isT "int" = some true := isT_eq _ rfl _ (by decide)
theorem isT_bl_bool {i : Bool} : (Dt.bl i).isT "bool" = some true := isT_eq _ rfl _ (by decide)
theorem isT_lst_list {ds : List Dt} : (Dt.lst ds).isT "list" = some true := isT_eq _ rfl _ (by decide)
theorem isT_tup_tuple {ds : List Dt} : (Dt.tup ds).isT "tuple" = some true := isT_eq _ rfl _ (by decide)
theorem isT_str_str {x : Str} : (Dt.str x).isT "str" = some true := isT_eq _ rfl _ (by decide)
theorem isT_non_int : Dt.non.isT "int" = some false := isT_eq _ rfl _ (by decide)
end Tq
namespace Tq
theorem klf_fz : Kd.fz.lf = true := rfl
theorem klf_vw : Kd.vw.lf = true := rfl
theorem klf_rd : Kd.rd.lf = true := rfl
theorem klf_fr : Kd.fr.lf = true := rfl
theorem kst_ft {t : Ot} : (Kd.ft t).st = true := rfl
theorem kit_ft {t : Ot} : (Kd.ft t).it = true := rfl
theorem karg_ft {t : Ot} : (Kd.ft t).arg = .fz := rfl
theorem karg_rt {t : Ot} : (Kd.rt t).arg = .rt t := rfl
theorem karg_vt {t : Ot} : (Kd.vt t).arg = .rt t := rfl
theorem karg_iv {I : List Int → Prop} : (Kd.iv I).arg = .iv I := rfl
theorem lfs_nil : lfs [] = true := rfl
theorem lfs_fz {x : Dt} {r : List (Kd × Dt)} : lfs ((.fz, x) :: r) = lfs r := rfl
theorem lfs_rd {x : Dt} {r : List (Kd × Dt)} : lfs ((.rd, x) :: r) = lfs r := rfl
theorem kst_fz : Kd.fz.st = true := rfl
theorem kst_fr : Kd.fr.st = true := rfl
theorem kit_fz : Kd.fz.it = true := rfl
theorem kit_fr : Kd.fr.it = true := rfl
theorem kit_vw : Kd.vw.it = true := rfl
theorem karg_fz : Kd.fz.arg = .fz := rfl
theorem karg_fr : Kd.fr.arg = .fz := rfl
theorem karg_vw : Kd.vw.arg = .rd := rfl
theorem karg_rd : Kd.rd.arg = .rd := rfl
end Tq
set_option Elab.async false
set_option linter.all false
set_option autoImplicit false
set_option maxRecDepth 100000
set_option maxHeartbeats 4000000
namespace Tq
open PySem PySem.Spec L2
open PyProof.Rows hiding St
/-! ### arguments as a def takes them: containers to be read, the rest frozen -/
def normA : Kd × Dt → Kd × Dt
  | (.rt t, x) => (.rt t, x)
  | (.iv I, x) => (.iv I, x)
  | (_, .lst ds) => (.rd, .lst ds)
  | (_, .dct ds) => (.rd, .dct ds)
  | (_, x) => (.fz, x)
def norm : List (Kd × Dt) → List (Kd × Dt)
  | [] => []
  | a :: r => normA a :: norm r
theorem norm_length : ∀ as, (norm as).length = as.length
  | [] => rfl
  | a :: r => congrArg (· + 1) (norm_length r)
theorem ArgsR.norm {K : PySem.W.Frag} {F H : Hp} {i : Addr → Option (List Int → Prop)} : ∀ {vs : List V} {as : List (Kd × Dt)}, ArgsR K F H i vs as → ArgsR K F H i vs (Tq.norm as)
  | _, _, .nil => .nil
  | _, _, .fz (x := x) r t => by
    cases x with
    | lst ds => exact .rd (.inl r) (ArgsR.norm t)
    | dct ds => exact .rd (.inl r) (ArgsR.norm t)
    | _ => exact .fz r (ArgsR.norm t)
  | _, _, .rd (x := x) r t => by
    cases x with
    | lst ds => exact .rd r (ArgsR.norm t)
    | dct ds => exact .rd r (ArgsR.norm t)
    | _ =>
      refine .fz ?_ (ArgsR.norm t)
      rcases r with r | ⟨_, _, _, _, e, _⟩ | ⟨_, _, _, _, e, _⟩
      · exact r
      · cases e
      · cases e
  | _, _, .rt r t => .rt r (ArgsR.norm t)
  | _, _, .iv r t => .iv r (ArgsR.norm t)
def eCallN (S : DSp) (t : TAd) : TEd := fun ρ P => t ρ fun as => S (norm as) P
theorem spL_norm {K : PySem.W.Frag} {S : DSp} {vs : List V} {H : Hp} {Q : VK} {E : XK} (h : spL K (fun as P => S (norm as) P) vs H Q E) : spL K S vs H Q E := by
  obtain ⟨F, H', i, as, P, h1, h2, h3, h4, h5, h6⟩ := h
  exact ⟨F, H', i, norm as, P, h1, h2, h3, h4.norm, h5, h6⟩
section
variable {X : Cx} {e0 : Hs} {pos : Pos} {K : PySem.W.Frag}
theorem ve_callN (hK : X.K = K) {k : Nat} {ps : List Str} {S : DSp} {x : Str} {p : Pos} {e : Expr} {es : List Expr} {Ta : TA} {t : TAd} (h : Has X.prog X.w X.K X.mg X.base k x ps S) (hr : Room k X.A) (hg : Gl X x)
    (ha : VA X e0 (e :: es) Ta t) (hdb : (x == ("__debug__" : Str)) = false := by decide) (he : starEach (e :: es) X.env = (false, eval e X.env) :: starEach es X.env := by rfl) (hpl : (backTo pos (starEach es X.env)).any (·.1) = false := by rfl) :
    VE X e0 (.Call (.Name x p) (e :: es) [] pos) (tCall (spL K fun as P => S (norm as) P) [] E0 Ta) (eCallN S t) := by
  subst hK
  obtain ⟨f, fd, F, hm, hk, hb⟩ := h
  have F' : FnOk X.prog X.w X.K X.mg X.base CX0 k f fd ps (spL X.K fun as P => S (norm as) P) := F.imp fun vs H Q E h => spL_norm h
  exact ve_callH ⟨f, fd, F', hm, hk, hb⟩ hr hg ha hdb he hpl
end
/-! ### sets of small whole numbers as Nat -/
theorem band_nat (a b : Nat) : Builtin.bitAnd (a : Int) (b : Int) = ((a &&& b : Nat) : Int) := by
  rw [bitAnd_pp (Int.natCast_nonneg a) (Int.natCast_nonneg b), Int.toNat_natCast, Int.toNat_natCast]
theorem bor_nat (a b : Nat) : Builtin.bitOr (a : Int) (b : Int) = ((a ||| b : Nat) : Int) := by
  rw [Bits.bitOr_pp (Int.natCast_nonneg a) (Int.natCast_nonneg b), Int.toNat_natCast, Int.toNat_natCast]
theorem bxor_nat (a b : Nat) : Builtin.bitXor (a : Int) (b : Int) = ((a ^^^ b : Nat) : Int) := by
  rw [Bits.bitXor_pp (Int.natCast_nonneg a) (Int.natCast_nonneg b), Int.toNat_natCast, Int.toNat_natCast]
theorem shl_nat (a k : Nat) : (a : Int) * 2 ^ ((k : Int).toNat) = ((a * 2 ^ k : Nat) : Int) := by
  rw [Int.toNat_natCast, Int.natCast_mul, Int.natCast_pow]; rfl
theorem shl1_nat (k : Nat) : (1 : Int) * 2 ^ ((k : Int).toNat) = ((2 ^ k : Nat) : Int) := by
  rw [Int.toNat_natCast, Int.one_mul, Int.natCast_pow]; rfl
theorem shr_nat (a k : Nat) : (a : Int) / 2 ^ ((k : Int).toNat) = ((a / 2 ^ k : Nat) : Int) := by
  rw [Int.toNat_natCast, Int.natCast_ediv, Int.natCast_pow]; rfl
theorem cpow1 {k : Nat} (h : k ≤ 1000000) : CPow 1 (k : Int) := ⟨by omega, by omega, by decide⟩
theorem cpow_nat {a k : Nat} (ha : a < 2 ^ 64) (h : k ≤ 1000000) : CPow (a : Int) (k : Int) := ⟨by omega, by omega, by rw [Int.natAbs_natCast]; exact ha⟩
abbrev nat (n : Nat) : Dt := .int (n : Int)
abbrev intsD (ns : List Int) : Dt := .lst (ns.map Dt.int)
abbrev nats (ks : List Nat) : Dt := .lst (ks.map fun (k : Nat) => .int (k : Int))
theorem dec_nat {a b : Nat} : decide ((a : Int) = (b : Int)) = decide (a = b) := by
  by_cases h : a = b
  · simp [h]
  · have : ¬ (a : Int) = (b : Int) := by omega
    simp [h, this]
theorem cdivW_pow {i : Int} {k : Nat} (h : k < 9000) : CDivW i ((2 ^ k : Nat) : Int) := by
  refine ⟨by have := Nat.two_pow_pos k; omega, ?_⟩
  rw [Int.natAbs_natCast, Nat.log2_two_pow]
  exact h
end Tq
set_option Elab.async false
set_option linter.all false
set_option autoImplicit false
set_option maxRecDepth 100000
set_option maxHeartbeats 4000000
namespace Tq
open PySem PySem.Spec L2
open PyProof.Rows hiding St
/-! ### loops over lists of a known form -/
theorem for_map {α : Type} (xs : List α) (f : α → Dt) (I : Nat → DEnv → Prop) {ρ : DEnv} {B : (Nat → DEnv → Prop) → Nat → Dt → DEnv → Prop} {Z : DEnv → Prop} (h0 : ∃ ρ', Wk ρ ρ' ∧ I 0 ρ')
    (hs : ∀ (i : Nat) (h : i < xs.length) (ρ' : DEnv), I i ρ' → B I i (f xs[i]) ρ') (hd : ∀ ρ', I xs.length ρ' → Z ρ') :
    ∃ W : Nat → DEnv → Prop, (∃ ρ', Wk ρ ρ' ∧ W 0 ρ') ∧ (∀ i x ρ', (xs.map f)[i]? = some x → W i ρ' → B W i x ρ') ∧ ∀ ρ', W (xs.map f).length ρ' → Z ρ' := by
  refine ⟨I, h0, fun i x ρ' hx hw => ?_, fun ρ' h => hd ρ' (by rw [List.length_map] at h; exact h)⟩
  rw [List.getElem?_map] at hx
  cases e : xs[i]? with
  | none => rw [e] at hx; cases hx
  | some y =>
    rw [e] at hx
    cases hx
    obtain ⟨hi, rfl⟩ := List.getElem?_eq_some_iff.mp e
    exact hs i hi ρ' hw
theorem for_list' (xs : List Dt) (I : Nat → DEnv → Prop) {ρ : DEnv} {B : (Nat → DEnv → Prop) → Nat → Dt → DEnv → Prop} {Z : DEnv → Prop} (h0 : ∃ ρ', Wk ρ ρ' ∧ I 0 ρ')
    (hs : ∀ (i : Nat) (h : i < xs.length) (ρ' : DEnv), I i ρ' → B I i xs[i] ρ') (hd : ∀ ρ', I xs.length ρ' → Z ρ') :
    ∃ W : Nat → DEnv → Prop, (∃ ρ', Wk ρ ρ' ∧ W 0 ρ') ∧ (∀ i x ρ', xs[i]? = some x → W i ρ' → B W i x ρ') ∧ ∀ ρ', W xs.length ρ' → Z ρ' := by
  refine ⟨I, h0, fun i x ρ' hx hw => ?_, hd⟩
  obtain ⟨hi, rfl⟩ := List.getElem?_eq_some_iff.mp hx
  exact hs i hi ρ' hw
theorem for_rng (lo : Int) (n : Nat) (I : Nat → DEnv → Prop) {ρ : DEnv} {B : (Nat → DEnv → Prop) → Nat → Dt → DEnv → Prop} {Z : DEnv → Prop} (h0 : ∃ ρ', Wk ρ ρ' ∧ I 0 ρ')
    (hs : ∀ (i : Nat) (h : i < n) (ρ' : DEnv), I i ρ' → B I i (.int (lo + (i : Int))) ρ') (hd : ∀ ρ', I n ρ' → Z ρ') :
    ∃ W : Nat → DEnv → Prop, (∃ ρ', Wk ρ ρ' ∧ W 0 ρ') ∧ (∀ i x ρ', (rngD lo n)[i]? = some x → W i ρ' → B W i x ρ') ∧ ∀ ρ', W (rngD lo n).length ρ' → Z ρ' := by
  refine ⟨I, h0, fun i x ρ' hx hw => ?_, fun ρ' h => hd ρ' (by rw [rngD_length] at h; exact h)⟩
  obtain ⟨hi, rfl⟩ := rngD_at hx
  exact hs i hi ρ' hw
/-- range(n): the turn's number as it is -/
theorem for_rng0 (n : Nat) (I : Nat → DEnv → Prop) {ρ : DEnv} {B : (Nat → DEnv → Prop) → Nat → Dt → DEnv → Prop} {Z : DEnv → Prop} (h0 : ∃ ρ', Wk ρ ρ' ∧ I 0 ρ')
    (hs : ∀ (i : Nat) (h : i < n) (ρ' : DEnv), I i ρ' → B I i (.int (i : Int)) ρ') (hd : ∀ ρ', I n ρ' → Z ρ') :
    ∃ W : Nat → DEnv → Prop, (∃ ρ', Wk ρ ρ' ∧ W 0 ρ') ∧ (∀ i x ρ', (rngD 0 n)[i]? = some x → W i ρ' → B W i x ρ') ∧ ∀ ρ', W (rngD 0 n).length ρ' → Z ρ' :=
  for_rng 0 n I h0 (fun i h ρ' w => by rw [Int.zero_add]; exact hs i h ρ' w) hd
theorem for_enum {α : Type} (xs : List α) (f : α → Dt) (I : Nat → DEnv → Prop) {ρ : DEnv} {B : (Nat → DEnv → Prop) → Nat → Dt → DEnv → Prop} {Z : DEnv → Prop} (h0 : ∃ ρ', Wk ρ ρ' ∧ I 0 ρ')
    (hs : ∀ (i : Nat) (h : i < xs.length) (ρ' : DEnv), I i ρ' → B I i (.tup [.int (i : Int), f xs[i]]) ρ') (hd : ∀ ρ', I xs.length ρ' → Z ρ') :
    ∃ W : Nat → DEnv → Prop, (∃ ρ', Wk ρ ρ' ∧ W 0 ρ') ∧ (∀ i x ρ', (enumD (xs.map f))[i]? = some x → W i ρ' → B W i x ρ') ∧ ∀ ρ', W (enumD (xs.map f)).length ρ' → Z ρ' := by
  refine ⟨I, h0, fun i x ρ' hx hw => ?_, fun ρ' h => hd ρ' (by rw [enumD_length, List.length_map] at h; exact h)⟩
  obtain ⟨d, h1, rfl⟩ := enumD_at hx
  rw [List.getElem?_map] at h1
  cases e : xs[i]? with
  | none => rw [e] at h1; cases h1
  | some y =>
    rw [e] at h1
    cases h1
    obtain ⟨hi, rfl⟩ := List.getElem?_eq_some_iff.mp e
    exact hs i hi ρ' hw
/-! ### comprehensions over lists of a known form -/
/-- no test: the map -/
theorem lc_map {α : Type} (xs : List α) (f g : α → Dt) {B : (Nat → List Dt → Prop) → Nat → Dt → List Dt → Prop} {Z : List Dt → Prop}
    (hs : ∀ (W : Nat → List Dt → Prop) (i : Nat) (h : i < xs.length) (acc : List Dt), W (i + 1) (acc ++ [g xs[i]]) → B W i (f xs[i]) acc) (hd : Z (xs.map g)) :
    ∃ W : Nat → List Dt → Prop, W 0 [] ∧ (∀ i x acc, (xs.map f)[i]? = some x → W i acc → B W i x acc) ∧ ∀ acc, W (xs.map f).length acc → Z acc := by
  refine ⟨fun i acc => acc = (xs.take i).map g, by simp, fun i x acc hx hw => ?_, fun acc h => ?_⟩
  · rw [List.getElem?_map] at hx
    cases e : xs[i]? with
    | none => rw [e] at hx; cases hx
    | some y =>
      rw [e] at hx
      cases hx
      obtain ⟨hi, rfl⟩ := List.getElem?_eq_some_iff.mp e
      refine hs _ i hi acc ?_
      show acc ++ [g xs[i]] = (xs.take (i + 1)).map g
      rw [hw, List.take_add_one, e, Option.toList_some, List.map_append, List.map_singleton]
  · rw [List.length_map, List.take_length] at h
    rw [h]
    exact hd
/-- one test: the map of what passes -/
theorem lc_filter {α : Type} (xs : List α) (f g : α → Dt) (p : α → Bool) {B : (Nat → List Dt → Prop) → Nat → Dt → List Dt → Prop} {Z : List Dt → Prop}
    (hs : ∀ (W : Nat → List Dt → Prop) (i : Nat) (h : i < xs.length) (acc : List Dt), (p xs[i] = true → W (i + 1) (acc ++ [g xs[i]])) → (p xs[i] = false → W (i + 1) acc) → B W i (f xs[i]) acc) (hd : Z ((xs.filter p).map g)) :
    ∃ W : Nat → List Dt → Prop, W 0 [] ∧ (∀ i x acc, (xs.map f)[i]? = some x → W i acc → B W i x acc) ∧ ∀ acc, W (xs.map f).length acc → Z acc := by
  refine ⟨fun i acc => acc = ((xs.take i).filter p).map g, by simp, fun i x acc hx hw => ?_, fun acc h => ?_⟩
  · rw [List.getElem?_map] at hx
    cases e : xs[i]? with
    | none => rw [e] at hx; cases hx
    | some y =>
      rw [e] at hx
      cases hx
      obtain ⟨hi, rfl⟩ := List.getElem?_eq_some_iff.mp e
      refine hs _ i hi acc (fun hp => ?_) fun hp => ?_
      · show acc ++ [g xs[i]] = ((xs.take (i + 1)).filter p).map g
        rw [hw, List.take_add_one, e, Option.toList_some, List.filter_append, List.map_append, List.filter_cons_of_pos hp, List.filter_nil, List.map_singleton]
      · show acc = ((xs.take (i + 1)).filter p).map g
        rw [hw, List.take_add_one, e, Option.toList_some, List.filter_append, List.map_append, List.filter_cons_of_neg (by rw [hp]; exact Bool.false_ne_true), List.filter_nil, List.map_nil, List.append_nil]
  · rw [List.length_map, List.take_length] at h
    rw [h]
    exact hd
theorem rngD0 (n : Nat) : rngD 0 n = (List.range n).map nat := by
  unfold rngD
  exact List.map_congr_left fun i _ => by rw [Int.zero_add]
theorem toNat_len {α : Type} (xs : List α) : ((xs.length : Int)).toNat = xs.length := Int.toNat_natCast _
theorem atI_map {α : Type} (xs : List α) (f : α → Dt) (k : Nat) (h : k < xs.length) : L2.atI (xs.map f) (k : Int) = some (f xs[k]) :=
  atI_nat (by rw [List.getElem?_map, List.getElem?_eq_getElem h]; rfl)
end Tq
set_option Elab.async false
set_option linter.all false
set_option autoImplicit false
set_option maxRecDepth 100000
set_option maxHeartbeats 4000000
namespace Tq
open PySem PySem.Spec L2
open PyProof.Rows hiding St
section
variable {X : Cx} {e0 : Hs} {pos : Pos} {tg : Expr}
/-! ### int(..) of a whole number or a truth value -/
def bInt : List (Kd × Dt) → DK → Prop := fun as P => match as with
  | [(_, .int i)] => P .fz (.int i)
  | [(_, .bl b)] => P .fz (.int (if b then 1 else 0))
  | _ => False
def rIntD : List V → Hp → VK → Prop := fun xs H Q => (∃ i, xs = [.int i] ∧ Q (.int i) H) ∨ ∃ k, xs = [.bl k] ∧ Q (.int (if k then 1 else 0)) H
theorem vc_int : VCall X (.type "int") rIntD bInt := by
  refine ⟨call_int1, fun s0 s vs as P Q g ar hlf d k => ?_⟩
  match as, ar, hlf, d with
  | [(_, .int i)], ar, hlf, d => exact .inl ⟨i, ar.int1, k s .fz _ _ g (.int _) d⟩
  | [(_, .bl b)], ar, hlf, d =>
    obtain ⟨v, rfl, q⟩ := ar.one hlf
    rw [q.bl]
    exact .inr ⟨b, rfl, k s .fz _ _ g (.int _) d⟩
/-! ### is True -/
def dIsB : R2d := fun x y P => match x, y with
  | .bl a, .bl b => P .fz (.bl (decide (a = b)))
  | _, _ => False
def dIsNotB : R2d := fun x y P => match x, y with
  | .bl a, .bl b => P .fz (.bl (!decide (a = b)))
  | _, _ => False
def rIsBl : R2 := fun x y H Q => ∃ a b, x = .bl a ∧ y = .bl b ∧ Q (.bl (decide (a = b))) H
def rIsNotBl : R2 := fun x y H Q => ∃ a b, x = .bl a ∧ y = .bl b ∧ Q (.bl (!decide (a = b))) H
theorem vo_isB : VOp X (compareOp .Is) rIsBl dIsB := by
  refine ⟨op_is_bl, fun s v u x y P Q gr q1 q2 d k => ?_⟩
  cases x <;> cases y <;> first | exact d.elim | skip
  exact ⟨_, _, q1.bl, q2.bl, k s .fz _ _ gr (.bl _) d⟩
theorem vo_isnotB : VOp X (compareOp .IsNot) rIsNotBl dIsNotB := by
  refine ⟨op_isnot_bl, fun s v u x y P Q gr q1 q2 d k => ?_⟩
  cases x <;> cases y <;> first | exact d.elim | skip
  exact ⟨_, _, q1.bl, q2.bl, k s .fz _ _ gr (.bl _) d⟩
theorem dIsB_bl {a b : Bool} {P : DK} : dIsB (.bl a) (.bl b) P = P .fz (.bl (decide (a = b))) := rfl
theorem dIsNotB_bl {a b : Bool} {P : DK} : dIsNotB (.bl a) (.bl b) P = P .fz (.bl (!decide (a = b))) := rfl
/-! ### ranges with a step -/
def rngC (lo c : Int) (n : Nat) : List Dt := (List.range n).map fun (i : Nat) => .int (lo + (i : Int) * c)
theorem rngC_at {lo c : Int} {n i : Nat} {x : Dt} (h : (rngC lo c n)[i]? = some x) : i < n ∧ x = .int (lo + (i : Int) * c) := by
  unfold rngC at h
  rw [List.getElem?_map] at h
  rcases Nat.lt_or_ge i n with z | z
  · rw [List.getElem?_eq_getElem (by simpa using z)] at h
    simp at h
    exact ⟨z, h.symm⟩
  · rw [List.getElem?_eq_none_iff.mpr (by simpa using z)] at h
    cases h
theorem rngC_length {lo c : Int} {n : Nat} : (rngC lo c n).length = n := by simp [rngC]
theorem itd_rangeC {K : PySem.W.Frag} {s : Hs} {lo c : Int} {n : Nat} : ItD K e0 s (Itc lo c n) (rngC lo c n) := by
  refine ⟨_, _, by rw [rngC_length]; exact walk_rangeC, fun s' _ => trivial, fun s' i y H' x ⟨rh, ex⟩ hx hy => ?_⟩
  obtain ⟨e1, e2⟩ := hy
  obtain ⟨h1, rfl⟩ := rngC_at hx
  subst e2
  exact ⟨s', Grow.refl rh, e1.symm, .int _⟩
def r3P (as : List (Kd × Dt)) (P : List Dt → Prop) : Prop := match as with
  | [(_, .int i), (_, .int j), (_, .int c)] => ∃ n, RgC i j c n ∧ P (rngC i c n)
  | _ => False
def iR3 (t : TAd) : TId := fun ρ P => t ρ fun as => r3P as P
theorem r3P_int {k k' k'' : Kd} {i j c : Int} {P : List Dt → Prop} : r3P [(k, .int i), (k', .int j), (k'', .int c)] P = ∃ n, RgC i j c n ∧ P (rngC i c n) := rfl
theorem bInt_int {k : Kd} {i : Int} {P : DK} : bInt [(k, .int i)] P = P .fz (.int i) := rfl
theorem bInt_bl {k : Kd} {b : Bool} {P : DK} : bInt [(k, .bl b)] P = P .fz (.int (if b then 1 else 0)) := rfl
theorem vi_range3 {a b c : Expr} {Ta : TA} {t : TAd} {p : Pos} (hg : Gl X "range") (hm : X.mg "range" = none) (ha : VA X e0 [a, b, c] Ta t)
    (hs : starEach [a, b, c] X.env = (false, eval a X.env) :: starEach [b, c] X.env := by rfl) (hpl : (backTo pos (starEach [b, c] X.env)).any (·.1) = false := by rfl) : VI X e0 tg (.Call (.Name "range" p) [a, b, c] [] pos) (iRng3 Ta) (iR3 t) := by
  refine ⟨pi_range3 hg hm ha.pe hs hpl, fun s σ ρ P R rp t k => ?_⟩
  refine ha.run s σ ρ _ (fun vs H1 => ∃ (i j c : Int) (n : Nat), vs = [.int i, .int j, .int c] ∧ RgC i j c n ∧ R (Itc i c n) H1) rp t fun s1 vs as g1 ar hl t1 => ?_
  match as, ar, t1 with
  | [(_, .int i), (_, .int j), (_, .int c)], ar, t1 =>
    obtain ⟨n, h1, h2⟩ := t1
    obtain ⟨us, rfl, ar2⟩ := ar.int0
    obtain ⟨us2, rfl, ar3⟩ := ar2.int0
    obtain ⟨us3, rfl, ar4⟩ := ar3.int0
    rw [ar4.nil0]
    exact ⟨i, j, c, n, rfl, h1, k s1 _ _ g1 itd_rangeC h2⟩
end
/-- the turns of a rising range -/
theorem RgC.up1 {i j : Int} (ha : -(2 ^ 60) ≤ i) (ha' : i < 2 ^ 60) (hb : -(2 ^ 60) ≤ j) (hb' : j < 2 ^ 60) : ∃ n, RgC i j 1 n ∧ ∀ k : Nat, k < n → i + (k : Int) * 1 < j := by
  refine ⟨(j - i).toNat, ⟨by decide, by decide, small_one (by omega) (by omega) (by omega) (by omega), ?_⟩, fun k hk => by omega⟩
  rw [rangeSize_one]
  split <;> omega
theorem RgC.up3 {i j : Int} (ha : -(2 ^ 60) ≤ i) (ha' : i < 2 ^ 60) (hb : -(2 ^ 60) ≤ j) (hb' : j < 2 ^ 60) : ∃ n, RgC i j 3 n ∧ ∀ k : Nat, k < n → i + (k : Int) * 3 < j := by
  have e : Builtin.Range.rangeSize i j 3 = if i < j then (j - i - 1) / 3 + 1 else 0 := by
    unfold Builtin.Range.rangeSize
    rw [if_pos (by decide)]
  refine ⟨(if i < j then (j - i - 1) / 3 + 1 else 0).toNat, ⟨by decide, by decide, ?_, ?_⟩, fun k hk => ?_⟩
  · unfold Builtin.Range.small
    rw [e]
    simp only [Builtin.Range.rangeFitsLong, Bool.and_eq_true, Bool.or_eq_true, decide_eq_true_eq, beq_iff_eq, show (3 : Int) > 0 by decide, if_true]
    split <;> omega
  · rw [e]
    split <;> omega
  · split at hk <;> omega
theorem RgC.down {i j : Int} (ha : -(2 ^ 60) ≤ i) (ha' : i < 2 ^ 60) (hb : -(2 ^ 60) ≤ j) (hb' : j < 2 ^ 60) : RgC i j (-1) (i - j).toNat := RgC.neg (by omega) (by omega) (by omega) (by omega)
end Tq
set_option Elab.async false
set_option linter.all false
set_option autoImplicit false
set_option maxRecDepth 100000
set_option maxHeartbeats 4000000
namespace L2
open PySem PySem.Spec PyProof.Rows
section
variable {X : Cx}
/-- sorted(d) of a dict whose keys are ints, any number of them -/
def rSortedDI : List V → Hp → VK → Prop := fun xs H Q => ∃ (a : Addr) (kvs : List (Key × V)) (ks : List Int), xs = [.ref a] ∧ Rd H a (.dK kvs) ∧ kvs.map (·.1) = ks.map Sum.inl ∧
    ∀ (ys : List Int) (p : Addr), ys.Perm ks → ys.Pairwise (· ≤ ·) → H p = none → Q (.ref p) (upd H p (.lst (ys.map V.int)))
theorem call_sortedDIb (hcalm : X.calm = true) : CallR X (.builtin "sorted") rSortedDI := by
  intro pins s σ H xs us Q I r q
  obtain ⟨a, kvs, ks, ex, hd, hks, q⟩ := q
  subst ex
  obtain ⟨u, eu, rx⟩ := vals1 r
  subst eu
  cases rx
  obtain ⟨z, lo, vs, rel, dd⟩ := dk_rd I.hok hd
  obtain ⟨ep, hat⟩ := dd.dictAt
  have hkeys : vs.map (·.1) = ks.map Sum.inl := rel.keys.symm.trans hks
  have hl : vs.length = ks.length := by
    have e := congrArg List.length hkeys
    rw [List.length_map, List.length_map] at e
    exact e
  have h16 : vs.length ≤ sizeLine := by rw [← rel.length]; exact z
  refine Calls.call_function_entry PyProof.Rows.kind_sorted PyProof.Rows.plain_sorted PyProof.Rows.entry_sorted (PyProof.Rows.args_sorted1 _) ?_
  unfold Builtin.«sorted»
  refine wpAny_bind (m := checkCount "sorted" 1 1 _) (wpAny_pure ?_)
  refine wpAny_bind (PySem.W.kdu_collect (A := X.A.in1) (PySem.W.kdl_dict (knd := mixKind X.prog X.w) (kvs := vs) (ep := ep) lo) (I.ok.hd hcalm) hat h16 fun h' tk acc hk hacc => ?_)
  have hal : acc.toList.length = ks.length := by rw [Array.length_toList, hacc.1, hl]
  have hS : IntsAre acc.toList ks := ints_each hal fun j v e => by
    obtain ⟨k, x, e1, e2⟩ := hacc.2 j v (by rw [← Array.getElem?_toList]; exact e)
    have e3 : (vs.map (·.1))[j]? = some k := by rw [List.getElem?_map, e1]; rfl
    rw [hkeys, List.getElem?_map] at e3
    cases e4 : ks[j]? with
    | none => rw [e4] at e3; cases e3
    | some y =>
      rw [e4] at e3
      have e5 : Sum.inl y = k := Option.some.inj e3
      subst e5
      rcases keyIs_shape (show keyIs (Sum.inl y) v = true from e2) with ⟨i, t, ek, ev⟩ | ⟨z, t, ek, ev⟩
      · cases ek
        exact ⟨y, t, rfl, ev⟩
      · cases ek
  have I1 : Inv X pins σ H { s with heap := h', toks := tk } := I.kept hk
  have hz : acc.toList.length ≤ sizeLine := by rw [hal, ← hl]; exact h16
  refine wpAny_bind (wpAny_newList ?_ hz)
  have hoL : (h'.push (seqObj "list" acc.toList.toArray 0)).get? h'.objs.size = some (seqObj "list" acc.toList.toArray 0) := Heap.get?_push_size _ rfl
  show wpAny _ _ _ _ _ { s with heap := h'.push (seqObj "list" acc.toList.toArray 0), toks := tk }
  refine wpAny_bind (wpAny_holding (wpAny_call_entry PyProof.Rows.slot_list_sort ⟨_, hoL, rfl⟩ PyProof.Rows.entry_list_sort
    (SrtO.list_sort_ord (s := { s with heap := h'.push (seqObj "list" acc.toList.toArray 0), toks := tk }) SrtO.swo_int hoL hz (fun h2 => SrtO.ints_sortable hS h2) fun out h1 h2 => ⟨_, rfl, ?_⟩) (PyProof.Rows.args_list_sort _)))
  obtain ⟨k1, k2, k3⟩ := SrtO.ints_out hS h1 h2
  obtain ⟨e', he'⟩ := PyProof.Rows.sortedHeap_at (vs := acc.toList) (out := out.toArray) hoL
  have hlen : ((out.map SrtO.iv).map V.int).length ≤ sizeLine := by
    rw [List.length_map, k2.length_eq, ← hal]
    exact hz
  refine wpAny_pure ⟨_, rfl, .ref h'.objs.size, upd H h'.objs.size (.lst ((out.map SrtO.iv).map V.int)), I1.laid (t' := tk) (fun b u e => ?_) (Nat.le_refl _)
    (show ObjOk X.prog X.w _ _ _ (.lst ((out.map SrtO.iv).map V.int)) from ⟨hlen, out, e', vals_of_ints k1, he'⟩), rfl, q _ _ k2 k3 (I1.hok.fresh (Nat.le_refl _))⟩
  have hb : b < h'.objs.size := Heap.lt_size e
  rw [PyProof.Rows.sortedHeap_old (Nat.ne_of_lt hb) (by rw [size_push']; exact Nat.lt_succ_of_lt hb)]
  exact Heap.get?_push_of_some _ e
end
end L2
namespace Tq
open PySem PySem.Spec L2
open PyProof.Rows hiding St
/-! ### dicts -/
def keyD : Dt → Option Key
  | .int i => some (.inl i)
  | .str x => some (.inr x)
  | _ => none
def valD (ds : List (Key × Dt)) (k : Key) : Option Dt := (ds.find? fun kv => decide (kv.1 = k)).map (·.2)
def putD (ds : List (Key × Dt)) (k : Key) (x : Dt) : List (Key × Dt) :=
  if (ds.any fun kv => decide (kv.1 = k)) = true then ds.map (fun kv => if kv.1 = k then (kv.1, x) else kv) else ds ++ [(k, x)]
section
variable {K : PySem.W.Frag} {F H : Hp}
theorem RpK.length : ∀ {vs : List (Key × V)} {ds : List (Key × Dt)}, RpK K F vs ds → vs.length = ds.length
  | _, _, .nil => rfl
  | _, _, .cons _ t => congrArg (· + 1) (RpK.length t)
theorem RpK.keys : ∀ {vs : List (Key × V)} {ds : List (Key × Dt)}, RpK K F vs ds → vs.map (·.1) = ds.map (·.1)
  | _, _, .nil => rfl
  | _, _, .cons _ t => by rw [List.map_cons, List.map_cons, RpK.keys t]
theorem RpK.any (k : Key) : ∀ {vs : List (Key × V)} {ds : List (Key × Dt)}, RpK K F vs ds → (vs.any fun kv => decide (kv.1 = k)) = ds.any fun kv => decide (kv.1 = k)
  | _, _, .nil => rfl
  | _, _, .cons _ t => by rw [List.any_cons, List.any_cons, RpK.any k t]
theorem RpK.val (k : Key) : ∀ {vs : List (Key × V)} {ds : List (Key × Dt)}, RpK K F vs ds → (valV vs k = none ∧ valD ds k = none) ∨ ∃ v x, valV vs k = some v ∧ valD ds k = some x ∧ Rp K F v x
  | _, _, .nil => .inl ⟨rfl, rfl⟩
  | _, _, .cons (k := k') r t => by
    by_cases e : k' = k
    · exact .inr ⟨_, _, by rw [valV_pos (by exact e)], by simp [valD, List.find?_cons, e], r⟩
    · rcases RpK.val k t with ⟨h1, h2⟩ | ⟨v, x, h1, h2, h3⟩
      · exact .inl ⟨by rw [valV_neg (by exact e), h1], by simpa [valD, List.find?_cons, e] using h2⟩
      · exact .inr ⟨v, x, by rw [valV_neg (by exact e), h1], by simpa [valD, List.find?_cons, e] using h2, h3⟩
theorem RpK.repl (k : Key) {y : V} {x : Dt} (q : Rp K F y x) : ∀ {vs : List (Key × V)} {ds : List (Key × Dt)}, RpK K F vs ds → RpK K F (vs.map fun kv => if kv.1 = k then (kv.1, y) else kv) (ds.map fun kv => if kv.1 = k then (kv.1, x) else kv)
  | _, _, .nil => .nil
  | _, _, .cons (k := k') r t => by
    rw [List.map_cons, List.map_cons]
    by_cases e : k' = k
    · rw [if_pos (by exact e), if_pos (by exact e)]
      exact .cons q (RpK.repl k q t)
    · rw [if_neg (by exact e), if_neg (by exact e)]
      exact .cons r (RpK.repl k q t)
theorem RpK.snoc (k : Key) {y : V} {x : Dt} (q : Rp K F y x) : ∀ {vs : List (Key × V)} {ds : List (Key × Dt)}, RpK K F vs ds → RpK K F (vs ++ [(k, y)]) (ds ++ [(k, x)])
  | _, _, .nil => .cons q .nil
  | _, _, .cons r t => .cons r (RpK.snoc k q t)
theorem RpK.put (k : Key) {y : V} {x : Dt} (q : Rp K F y x) {vs : List (Key × V)} {ds : List (Key × Dt)} (r : RpK K F vs ds) : RpK K F (putK vs k y) (putD ds k x) := by
  unfold putK putD
  rw [r.any k]
  split
  · exact r.repl k q
  · exact r.snoc k q
theorem Rq.dct {W : Hp} {v : V} {ds : List (Key × Dt)} (hf : Same F W) (hh : Same H W) (q : Rq K F H v (.dct ds)) : ∃ a kvs, v = .ref a ∧ W a = some (.dK kvs) ∧ RpK K F kvs ds := by
  rcases q with q | ⟨a, xs, ds', e1, e2, h, r⟩ | ⟨a, kvs, ds', e1, e2, h, r⟩
  · cases q with
    | dct h r => exact ⟨_, _, rfl, hf _ _ h, r⟩
  · cases e2
  · cases e2; exact ⟨a, kvs, e1, hh _ _ h, r⟩
theorem Rq.key {v : V} {x : Dt} {k : Key} (q : Rq K F H v x) (e : keyD x = some k) : v = kV k := by
  cases x with
  | int i => cases e; exact q.int
  | str z => cases e; exact q.str
  | _ => cases e
end
section
variable {X : Cx} {e0 : Hs} {W : WX} {pos pos' : Pos} {st : Stmt}
/-! {} -/
def eDct : TEd := fun _ P => P .fr (.dct [])
theorem ve_dct : VE X e0 (.Dict [] [] pos) tDNewK eDct := by
  refine ⟨pe_dnewK, fun s σ ρ P Q rp t k => ?_⟩
  intro p hp
  have g := Grow.refl rp.rh
  exact k (s.new p (.dK [])) .fr _ (.dct []) (g.new hp) ⟨p, rfl, hp, Same.free rp.rh.gw hp, .inr ⟨[], [], rfl, upd_same, .nil⟩⟩ t
/-! d[k] -/
def getD' (o : Option Dt) (P : DK) : Prop := match o with
  | some x => P .fz x
  | none => False
def dGetK (ds : List (Key × Dt)) (o : Option Key) (P : DK) : Prop := match o with
  | some k => getD' (valD ds k) P
  | none => False
def dGet (x y : Dt) (P : DK) : Prop := match x with
  | .dct ds => dGetK ds (keyD y) P
  | _ => False
def eDGet (ta tb : TEd) : TEd := fun ρ P => ta ρ fun k x => tb ρ fun k' y => k.lf = true ∧ k'.lf = true ∧ dGet x y P
theorem ve_dget {a b : Expr} {Ta Tb : TE} {ta tb : TEd} (hu : X.A.units + 64 < cLine) (ha : VE X e0 a Ta ta) (hb : VE X e0 b Tb tb) (hs : NoSl b) : VE X e0 (.Subscript a b pos) (tDGet Ta Tb) (eDGet ta tb) := by
  obtain ⟨hTa, ra⟩ := ha
  obtain ⟨hTb, rb⟩ := hb
  refine ⟨pe_dget (by omega) hTa hTb hs, fun s σ ρ P Q rp t k => ?_⟩
  refine ra s σ ρ _ _ rp t fun s1 k1 v1 x1 g1 r1 t1 => ?_
  have rp1 := rp.grow g1
  refine rb s1 σ ρ _ _ rp1 t1 fun s2 k2 v2 x2 g2 r2 t2 => ?_
  have rp2 := rp1.grow g2
  obtain ⟨hk1, hk2, t2⟩ := t2
  have q1 := (r1.rq rp1.rh hk1).mono g2.f g2.h
  have q2 := r2.rq rp2.rh hk2
  unfold dGet at t2
  cases x1 <;> first | exact t2.elim | skip
  rename_i ds
  obtain ⟨p, kvs, rfl, h1, r⟩ := Rq.dct rp2.rh.fw rp2.rh.hw q1
  revert t2
  show dGetK ds (keyD x2) P → _
  cases e : keyD x2 with
  | none => exact fun z => z.elim
  | some key =>
    show getD' (valD ds key) P → _
    rcases r.val key with ⟨h2, h3⟩ | ⟨v, x, h2, h3, h4⟩
    · rw [h3]; exact fun z => z.elim
    · rw [h3]
      intro t2
      have ek := q2.key e
      subst ek
      exact ⟨p, v, rfl, .inl ⟨kvs, key, .inl h1, rfl, h2.symm⟩, k s2 .fz v x (g1.trans g2) h4 t2⟩
/-! k in d -/
def dInK (n : Bool) (ds : List (Key × Dt)) (o : Option Key) (P : DK) : Prop := match o with
  | some k => P .fz (.bl ((valD ds k).isSome != n))
  | none => False
def dInD (n : Bool) (y x : Dt) (P : DK) : Prop := match x with
  | .dct ds => dInK n ds (keyD y) P
  | _ => False
def eDIn (n : Bool) (tb ta : TEd) : TEd := fun ρ P => tb ρ fun k y => ta ρ fun k' x => k.lf = true ∧ k'.lf = true ∧ dInD n y x P
/-! d[k] = v of an own dict -/
def setKyK (o : Option Key) (i : Nat) (l : Addr) (ds : List (Key × Dt)) (y : Dt) (D : EndsD) (ρ : DEnv) : Prop := match o with
  | some k => D.nx (ρ.set i (.v (.ow l) (.dct (putD ds k y))))
  | none => False
def setKyS (o : Option Sl) (i : Nat) (tix te : TEd) (D : EndsD) (ρ : DEnv) : Prop := match o with
  | some (.v (.ow l) (.dct ds)) => te ρ fun k y => k.st = true ∧ ds.length < 16777216 ∧ tix ρ fun k' z => k'.lf = true ∧ setKyK (keyD z) i l ds y D ρ
  | _ => False
def sSetKy (i : Nat) (tix te : TEd) : TSd := fun D ρ => setKyS ρ[i]? i tix te D ρ
theorem vs_setKy {i : Nat} {e ie : Expr} {T Ti : TE} {te tix : TEd} (h : VE X e0 e T te) (h' : VE X e0 ie Ti tix) (hp : PS X st (sDPut (tVar i) Ti T)) : VS X e0 W st (sSetKy i tix te) := by
  refine ⟨_, hp, fun s σ ρ D D' rp t l => ?_⟩
  unfold sSetKy setKyS at t
  split at t
  · rename_i a ds q
    obtain ⟨h1, c⟩ := TE.var_own rp q
    refine h.run s σ ρ _ (fun v H1 => tVar i σ H1 fun x H2 => Ti σ H2 fun y H3 => ∃ a H4, x = .ref a ∧ DPut H3 a y v H4 ∧ D.nx σ H4) rp t fun s1 k1 v1 x1 g1 r1 t1 => ?_
    obtain ⟨hk, hl, t1⟩ := t1
    obtain ⟨s2, g2, e2, w2, f2, p2⟩ := r1.freeze g1 hk
    have rp2 := rp.grow g2
    rw [← w2]
    refine ⟨_, h1, ?_⟩
    refine h'.run s2 σ ρ _ (fun y H3 => ∃ a' H4, V.ref a = .ref a' ∧ DPut H3 a' y v1 H4 ∧ D.nx σ H4) rp2 t1 fun s3 k3 v3 x3 g3 r3 t3 => ?_
    have rp3 := rp2.grow g3
    obtain ⟨hk3, t3⟩ := t3
    revert t3
    show setKyK (keyD x3) i a ds x1 D' ρ → _
    cases en : keyD x3 with
    | none => exact fun z => z.elim
    | some key =>
      intro t3
      have ek := (r3.rq rp3.rh hk3).key en
      subst ek
      rcases c with ⟨xs, ds', e3, h2, r2⟩ | ⟨kvs, ds', e3, h2, r2⟩
      · cases e3
      · cases e3
        have h3 : s3.h a = some (.dK kvs) := (g2.trans g3).h _ _ h2
        obtain ⟨rp4, x4⟩ := rp3.mut q (.dK (putK kvs key v1)) (x' := .dct (putD ds key x1)) (.inr ⟨_, _, rfl, upd_same, RpK.put key (p2.mono g3.f) (r2.mono (g2.trans g3).f)⟩)
        exact ⟨a, _, rfl, DPut.k (g3.hw _ _ h3) (by rw [r2.length, sizeLine_eq]; omega), l.nx _ σ _ rp4 ((g2.trans g3).ext.trans x4) t3⟩
  · exact t.elim
/-! sorted(d) -/
def bSortedD : List (Kd × Dt) → DK → Prop := fun as P => match as with
  | [(_, .dct ds)] => ∃ ks : List Int, ds.map (·.1) = ks.map Sum.inl ∧ ∀ ys : List Int, ys.Perm ks → ys.Pairwise (· ≤ ·) → P .fr (.lst (ys.map Dt.int))
  | _ => False
theorem vc_sortedD (hc : X.calm = true) : VCall X (.builtin "sorted") rSortedDI bSortedD := by
  refine ⟨call_sortedDIb hc, fun s0 s vs as P Q g ar hlf d k => ?_⟩
  match as, ar, hlf, d with
  | [(_, .dct ds)], ar, hlf, d =>
    obtain ⟨ks, e, d⟩ := d
    obtain ⟨v, rfl, q⟩ := ar.one hlf
    obtain ⟨a, kvs, rfl, h, r⟩ := Rq.dct g.fw g.hw q
    refine ⟨a, kvs, ks, rfl, .inl h, by rw [r.keys, e], fun ms p hp ho hn => ?_⟩
    obtain ⟨gg, rr⟩ := fresh_new (ds := ms.map Dt.int) g hn (RpL.of_ints ms) rfl
    exact k _ .fr _ _ gg rr (d ms hp ho)
end
end Tq
namespace Tq
open PySem PySem.Spec L2
open PyProof.Rows hiding St
section
variable {X : Cx} {e0 : Hs} {pos : Pos}
theorem din_core {n : Bool} {a b : Expr} {Ta Tb : TE} {ta tb : TEd} (T : TE) (hT : ∀ σ H Q, (Tb σ H fun y H1 => Ta σ H1 fun x H2 => ∃ p o, x = .ref p ∧ DGet H2 p y o ∧ Q (.bl (o.isSome != n)) H2) → T σ H Q)
    (ha : VE X e0 a Ta ta) (hb : VE X e0 b Tb tb) : ∀ (s : Hs) (σ : St) (ρ : DEnv) (P : DK) (Q : VK), Rep X.K e0 s σ ρ → eDIn n tb ta ρ P → (∀ s' k v x, Grow s s' → RK X.K s.w s' k v x → P k x → Q v s'.w) → T σ s.w Q := by
  intro s σ ρ P Q rp t k
  obtain ⟨hTa, ra⟩ := ha
  obtain ⟨hTb, rb⟩ := hb
  refine hT σ s.w Q ?_
  refine rb s σ ρ _ _ rp t fun s1 k1 v1 x1 g1 r1 t1 => ?_
  have rp1 := rp.grow g1
  refine ra s1 σ ρ _ _ rp1 t1 fun s2 k2 v2 x2 g2 r2 t2 => ?_
  have rp2 := rp1.grow g2
  obtain ⟨hk1, hk2, t2⟩ := t2
  have q1 := (r1.rq rp1.rh hk1).mono g2.f g2.h
  have q2 := r2.rq rp2.rh hk2
  unfold dInD at t2
  cases x2 <;> first | exact t2.elim | skip
  rename_i ds
  obtain ⟨p, kvs, rfl, h1, r⟩ := Rq.dct rp2.rh.fw rp2.rh.hw q2
  revert t2
  show dInK n ds (keyD x1) P → _
  cases e : keyD x1 with
  | none => exact fun z => z.elim
  | some key =>
    intro t2
    have ek := q1.key e
    subst ek
    refine ⟨p, valV kvs key, rfl, .inl ⟨kvs, key, .inl h1, rfl, rfl⟩, ?_⟩
    have : (valV kvs key).isSome = (valD ds key).isSome := by
      rcases r.val key with ⟨h2, h3⟩ | ⟨v, x, h2, h3, h4⟩ <;> rw [h2, h3] <;> rfl
    rw [this]
    exact k s2 .fz _ _ (g1.trans g2) (.bl _) t2
theorem ve_din {a b : Expr} {Ta Tb : TE} {ta tb : TEd} (hu : X.A.units + 64 < cLine) (hb : VE X e0 b Tb tb) (ha : VE X e0 a Ta ta) (hm : behindInMarks .In a = false) : VE X e0 (.Compare b [.In] [a] pos) (tDIn Tb Ta) (eDIn false tb ta) :=
  ⟨pe_cmp (pc_din (by omega) hb.pe ha.pe) hm, din_core _ (fun σ H Q h => by simpa [tDIn] using h) ha hb⟩
theorem ve_dnotin {a b : Expr} {Ta Tb : TE} {ta tb : TEd} (hu : X.A.units + 64 < cLine) (hb : VE X e0 b Tb tb) (ha : VE X e0 a Ta ta) (hm : behindInMarks .NotIn a = false) : VE X e0 (.Compare b [.NotIn] [a] pos) (tDNotIn Tb Ta) (eDIn true tb ta) :=
  ⟨pe_cmp (pc_dnotin (by omega) hb.pe ha.pe) hm, din_core _ (fun σ H Q h => by simpa [tDNotIn] using h) ha hb⟩
theorem vt_din {a b : Expr} {Ta Tb : TE} {ta tb : TEd} (hu : X.A.units + 64 < cLine) (hb : VE X e0 b Tb tb) (ha : VE X e0 a Ta ta) (hm : behindInMarks .In a = false) : VT X e0 (.Compare b [.In] [a] pos) (tB (tDIn Tb Ta)) (tB' (eDIn false tb ta)) :=
  ⟨pt_cmp (pc_din (by omega) hb.pe ha.pe) hm, tst_core (ve_din (pos := pos) hu hb ha hm).run⟩
theorem vt_dnotin {a b : Expr} {Ta Tb : TE} {ta tb : TEd} (hu : X.A.units + 64 < cLine) (hb : VE X e0 b Tb tb) (ha : VE X e0 a Ta ta) (hm : behindInMarks .NotIn a = false) : VT X e0 (.Compare b [.NotIn] [a] pos) (tB (tDNotIn Tb Ta)) (tB' (eDIn true tb ta)) :=
  ⟨pt_cmp (pc_dnotin (by omega) hb.pe ha.pe) hm, tst_core (ve_dnotin (pos := pos) hu hb ha hm).run⟩
theorem dGet_int {ds : List (Key × Dt)} {i : Int} {P : DK} : dGet (.dct ds) (.int i) P = getD' (valD ds (.inl i)) P := rfl
theorem dGet_str {ds : List (Key × Dt)} {z : Str} {P : DK} : dGet (.dct ds) (.str z) P = getD' (valD ds (.inr z)) P := rfl
theorem getD'_some {x : Dt} {P : DK} : getD' (some x) P = P .fz x := rfl
theorem dInD_int {n : Bool} {ds : List (Key × Dt)} {i : Int} {P : DK} : dInD n (.int i) (.dct ds) P = P .fz (.bl ((valD ds (.inl i)).isSome != n)) := rfl
theorem dInD_str {n : Bool} {ds : List (Key × Dt)} {z : Str} {P : DK} : dInD n (.str z) (.dct ds) P = P .fz (.bl ((valD ds (.inr z)).isSome != n)) := rfl
theorem setKyS_ow {l : Addr} {ds : List (Key × Dt)} {i : Nat} {tix te : TEd} {D : EndsD} {ρ : DEnv} : setKyS (some (.v (.ow l) (.dct ds))) i tix te D ρ = te ρ fun k y => k.st = true ∧ ds.length < 16777216 ∧ tix ρ fun k' z => k'.lf = true ∧ setKyK (keyD z) i l ds y D ρ := rfl
theorem setKyK_int {i : Int} {n : Nat} {l : Addr} {ds : List (Key × Dt)} {y : Dt} {D : EndsD} {ρ : DEnv} : setKyK (keyD (.int i)) n l ds y D ρ = D.nx (ρ.set n (.v (.ow l) (.dct (putD ds (.inl i) y)))) := rfl
theorem setKyK_str {z : Str} {n : Nat} {l : Addr} {ds : List (Key × Dt)} {y : Dt} {D : EndsD} {ρ : DEnv} : setKyK (keyD (.str z)) n l ds y D ρ = D.nx (ρ.set n (.v (.ow l) (.dct (putD ds (.inr z) y)))) := rfl
theorem bSortedD_dct {k : Kd} {ds : List (Key × Dt)} {P : DK} : bSortedD [(k, .dct ds)] P = ∃ ks : List Int, ds.map (·.1) = ks.map Sum.inl ∧ ∀ ys : List Int, ys.Perm ks → ys.Pairwise (· ≤ ·) → P .fr (.lst (ys.map Dt.int)) := rfl
end
end Tq
namespace Tq
open PySem PySem.Spec L2
open PyProof.Rows hiding St
section
variable {X : Cx} {e0 : Hs} {W : WX} {pos : Pos} {st : Stmt}
theorem vs_setKy' {i : Nat} {e ie : Expr} {T Ti : TE} {te tix : TEd} (h : VE X e0 e T te) (h' : VE X e0 ie Ti tix) (hp : PE X e T → PE X ie Ti → PS X st (sDPut (tVar i) Ti T)) : VS X e0 W st (sSetKy i tix te) := vs_setKy h h' (hp h.pe h'.pe)
theorem units1 (hu : X.A.units + 64 < cLine) : X.A.units + 1 < cLine := by omega
end
end Tq
set_option Elab.async false
set_option linter.all false
set_option autoImplicit false
set_option maxRecDepth 100000
set_option maxHeartbeats 4000000
namespace Tq
open PySem PySem.Spec L2
open PyProof.Rows hiding St
/-! ### promises of defs that change what is handed in -/
/-- of the arguments; of the answer and the changed trees; of what is raised and the trees then -/
abbrev DMu := List (Kd × Dt) → (Kd → Dt → List Ot → Prop) → (Dt → List Ot → Prop) → Prop
/-- the places of the trees that are handed in to be changed -/
def mfp : List (Kd × Dt) → List Addr
  | [] => []
  | (.mt t, _) :: r => t.fp ++ mfp r
  | _ :: r => mfp r
inductive ArgsM (K : PySem.W.Frag) (F G H : Hp) (i : Addr → Option (List Int → Prop)) : List V → List (Kd × Dt) → Prop
  | nil : ArgsM K F G H i [] []
  | fz {v : V} {x : Dt} {vs : List V} {xs : List (Kd × Dt)} : Rp K F v x → ArgsM K F G H i vs xs → ArgsM K F G H i (v :: vs) ((.fz, x) :: xs)
  | rd {v : V} {x : Dt} {vs : List V} {xs : List (Kd × Dt)} : Rq K F G v x → ArgsM K F G H i vs xs → ArgsM K F G H i (v :: vs) ((.rd, x) :: xs)
  | rt {v : V} {t : Ot} {vs : List V} {xs : List (Kd × Dt)} : OwT K F G v t → ArgsM K F G H i vs xs → ArgsM K F G H i (v :: vs) ((.rt t, t.dt) :: xs)
  | iv {a : Addr} {I : List Int → Prop} {vs : List V} {xs : List (Kd × Dt)} : i a = some I → ArgsM K F G H i vs xs → ArgsM K F G H i (.ref a :: vs) ((.iv I, .lst []) :: xs)
  | mt {v : V} {t : Ot} {vs : List V} {xs : List (Kd × Dt)} : OwT K F H v t → (∀ a ∈ t.fp, G a = none) → t.fp.Nodup → (∀ a ∈ t.fp, a ∉ mfp xs) → ArgsM K F G H i vs xs → ArgsM K F G H i (v :: vs) ((.mt t, t.dt) :: xs)
/-- the changed trees behind the call -/
def MuR (K : PySem.W.Frag) (W0 : Hp) (s : Hs) : List V → List (Kd × Dt) → List Ot → Prop
  | v :: vs, (.mt t, _) :: as, u :: ts => OwT K s.f s.h v u ∧ (∀ a ∈ u.fp, s.g a = none) ∧ (∀ a ∈ u.fp, a ∈ t.fp ∨ W0 a = none) ∧ u.fp.Nodup ∧ (∀ a ∈ u.fp, a ∉ Ot.fps ts) ∧ MuR K W0 s vs as ts
  | _ :: _, (.mt _, _) :: _, [] => False
  | _ :: vs, _ :: as, ts => MuR K W0 s vs as ts
  | _, _, ts => ts = []
/-- the values and places that are handed in to be changed -/
def mOf (vs : List V) (as : List (Kd × Dt)) : Nat → Option (V × List Addr) := fun j => match vs[j]?, as[j]? with
  | some v, some (.mt t, _) => some (v, t.fp)
  | _, _ => none
abbrev entM (F G H W : Hp) (i : Addr → Option (List Int → Prop)) (m : Nat → Option (V × List Addr) := fun _ => none) : Hs := ⟨F, G, H, W, i, m⟩
theorem RH.m {F G H W : Hp} {i : Addr → Option (List Int → Prop)} {m m' : Nat → Option (V × List Addr)} {s : Hs} (r : RH ⟨F, G, H, W, i, m⟩ s) : RH ⟨F, G, H, W, i, m'⟩ s := ⟨r.fg, r.gh, r.hw, r.ef, r.eg, r.nf, r.ew, r.iv, r.ei⟩
def spM (K : PySem.W.Frag) (S : DMu) : Sp := fun vs W Q E => ∃ (F G H : Hp) (i : Addr → Option (List Int → Prop)) (as : List (Kd × Dt)) (P : Kd → Dt → List Ot → Prop) (PE : Dt → List Ot → Prop),
  Same F G ∧ Same G H ∧ Same H W ∧ IvOk (entM F G H W i) ∧ ArgsM K F G H i vs as ∧ S as P PE ∧
  (∀ (s : Hs) (k : Kd) (v : V) (x : Dt) (ts : List Ot), RH (entM F G H W i) s → RR K W s k v x → MuR K W s vs as ts → (∀ a ∈ rfp k v, a ∉ Ot.fps ts) → P k x ts → Q v s.w) ∧
  ∀ (s : Hs) (c : Value) (d : Option Addr) (x : Dt) (ts : List Ot), RH (entM F G H W i) s → RX K s c d x → MuR K W s vs as ts → PE x ts → E c d s.w
theorem ArgsM.length {K : PySem.W.Frag} {F G H : Hp} {i : Addr → Option (List Int → Prop)} : ∀ {vs : List V} {as : List (Kd × Dt)}, ArgsM K F G H i vs as → vs.length = as.length
  | _, _, .nil => rfl
  | _, _, .fz _ t => congrArg (· + 1) (ArgsM.length t)
  | _, _, .rd _ t => congrArg (· + 1) (ArgsM.length t)
  | _, _, .rt _ t => congrArg (· + 1) (ArgsM.length t)
  | _, _, .iv _ t => congrArg (· + 1) (ArgsM.length t)
  | _, _, .mt _ _ _ _ t => congrArg (· + 1) (ArgsM.length t)
theorem ArgsR.toM {K : PySem.W.Frag} {F G H : Hp} {i : Addr → Option (List Int → Prop)} : ∀ {vs : List V} {as : List (Kd × Dt)}, ArgsR K F G i vs as → ArgsM K F G H i vs as
  | _, _, .nil => .nil
  | _, _, .fz r t => .fz r (ArgsR.toM t)
  | _, _, .rd r t => .rd r (ArgsR.toM t)
  | _, _, .rt r t => .rt r (ArgsR.toM t)
  | _, _, .iv r t => .iv r (ArgsR.toM t)
theorem ArgsR.mfp0 {K : PySem.W.Frag} {F G : Hp} {i : Addr → Option (List Int → Prop)} : ∀ {vs : List V} {as : List (Kd × Dt)}, ArgsR K F G i vs as → mfp as = []
  | _, _, .nil => rfl
  | _, _, .fz (xs := xs) r t => show mfp xs = [] from ArgsR.mfp0 t
  | _, _, .rd (xs := xs) r t => show mfp xs = [] from ArgsR.mfp0 t
  | _, _, .rt (xs := xs) r t => show mfp xs = [] from ArgsR.mfp0 t
  | _, _, .iv (xs := xs) r t => show mfp xs = [] from ArgsR.mfp0 t
theorem ArgsR.mur0 {K : PySem.W.Frag} {F G : Hp} {i : Addr → Option (List Int → Prop)} {W0 : Hp} {s : Hs} {ts : List Ot} : ∀ {vs : List V} {as : List (Kd × Dt)}, ArgsR K F G i vs as → MuR K W0 s vs as ts → ts = []
  | _, _, .nil, h => h
  | _, _, .fz (vs := vs) (xs := xs) r t, h => ArgsR.mur0 t (show MuR K W0 s vs xs ts from h)
  | _, _, .rd (vs := vs) (xs := xs) r t, h => ArgsR.mur0 t (show MuR K W0 s vs xs ts from h)
  | _, _, .rt (vs := vs) (xs := xs) r t, h => ArgsR.mur0 t (show MuR K W0 s vs xs ts from h)
  | _, _, .iv (vs := vs) (xs := xs) r t, h => ArgsR.mur0 t (show MuR K W0 s vs xs ts from h)
/-! ### the def's side -/
theorem slots_m {K : PySem.W.Frag} {F G H B W : Hp} {iv : Addr → Option (List Int → Prop)} : ∀ {vs : List V} {as : List (Kd × Dt)}, ArgsM K F G H iv vs as → ∀ (i : Nat) (k : Kd) (x : Dt), (startS as)[i]? = some (Sl.v k x) →
    ∃ v, vs[i]? = some v ∧ RK K B (entM F G H W iv) k v x ∧ k.sl = true ∧ (∀ a ∈ k.fp, a ∈ mfp as)
  | _, _, .nil, i, k, x, h => by simp [startS] at h
  | _, _, .fz r t, 0, k, x, h => by
    simp [startS] at h
    obtain ⟨rfl, rfl⟩ := h
    exact ⟨_, rfl, r, rfl, fun a ha => by cases ha⟩
  | _, _, .rd r t, 0, k, x, h => by
    simp [startS] at h
    obtain ⟨rfl, rfl⟩ := h
    exact ⟨_, rfl, r, rfl, fun a ha => by cases ha⟩
  | _, _, .rt r t, 0, k, x, h => by
    simp [startS] at h
    obtain ⟨rfl, rfl⟩ := h
    exact ⟨_, rfl, ⟨rfl, r⟩, rfl, fun a ha => by cases ha⟩
  | _, _, .iv r t, 0, k, x, h => by
    simp [startS] at h
    obtain ⟨rfl, rfl⟩ := h
    exact ⟨_, rfl, ⟨_, rfl, r, rfl⟩, rfl, fun a ha => by cases ha⟩
  | _, _, .mt r g n _ t, 0, k, x, h => by
    simp [startS] at h
    obtain ⟨rfl, rfl⟩ := h
    exact ⟨_, rfl, ⟨rfl, g, n, r⟩, rfl, fun a ha => List.mem_append_left _ ha⟩
  | _, _, .fz r t, i + 1, k, x, h => slots_m t i k x (by simpa [startS] using h)
  | _, _, .rd r t, i + 1, k, x, h => slots_m t i k x (by simpa [startS] using h)
  | _, _, .rt r t, i + 1, k, x, h => slots_m t i k x (by simpa [startS] using h)
  | _, _, .iv r t, i + 1, k, x, h => slots_m t i k x (by simpa [startS] using h)
  | _, _, .mt _ _ _ _ t, i + 1, k, x, h => by
    obtain ⟨v, h1, h2, h3, h4⟩ := slots_m (B := B) (W := W) t i k x (by simpa [startS] using h)
    exact ⟨v, h1, h2, h3, fun a ha => List.mem_append_right _ (h4 a ha)⟩
theorem dj_m {K : PySem.W.Frag} {F G H : Hp} {iv : Addr → Option (List Int → Prop)} : ∀ {vs : List V} {as : List (Kd × Dt)}, ArgsM K F G H iv vs as → ∀ (i j : Nat) (k k' : Kd) (x y : Dt), (startS as)[i]? = some (Sl.v k x) → (startS as)[j]? = some (Sl.v k' y) → i ≠ j → ∀ a ∈ k.fp, a ∉ k'.fp
  | _, _, .nil, i, j, k, k', x, y, h, _, _ => by simp [startS] at h
  | _, _, .fz r t, i, j, k, k', x, y, h, h', hne => dj_step (sl := .fz) t (fun a ha => by cases ha) (fun i j k k' x y => dj_m t i j k k' x y) i j k k' x y (by simpa [startS] using h) (by simpa [startS] using h') hne
  | _, _, .rd r t, i, j, k, k', x, y, h, h', hne => dj_step (sl := .vw) t (fun a ha => by cases ha) (fun i j k k' x y => dj_m t i j k k' x y) i j k k' x y (by simpa [startS] using h) (by simpa [startS] using h') hne
  | _, _, .rt (t := u) r t, i, j, k, k', x, y, h, h', hne => dj_step (sl := .vt u) t (fun a ha => by cases ha) (fun i j k k' x y => dj_m t i j k k' x y) i j k k' x y (by simpa [startS] using h) (by simpa [startS] using h') hne
  | _, _, .iv (I := I) r t, i, j, k, k', x, y, h, h', hne => dj_step (sl := .iv I) t (fun a ha => by cases ha) (fun i j k k' x y => dj_m t i j k k' x y) i j k k' x y (by simpa [startS] using h) (by simpa [startS] using h') hne
  | _, _, .mt (t := u) r g n d t, i, j, k, k', x, y, h, h', hne => dj_step (sl := .mt u) t d (fun i j k k' x y => dj_m t i j k k' x y) i j k k' x y (by simpa [startS] using h) (by simpa [startS] using h') hne
where dj_step {K : PySem.W.Frag} {F G H : Hp} {iv : Addr → Option (List Int → Prop)} {vs : List V} {as : List (Kd × Dt)} {sl : Kd} {z : Dt} (t : ArgsM K F G H iv vs as) (d : ∀ a ∈ sl.fp, a ∉ mfp as)
      (ih : ∀ (i j : Nat) (k k' : Kd) (x y : Dt), (startS as)[i]? = some (Sl.v k x) → (startS as)[j]? = some (Sl.v k' y) → i ≠ j → ∀ a ∈ k.fp, a ∉ k'.fp) :
      ∀ (i j : Nat) (k k' : Kd) (x y : Dt), (Sl.v sl z :: startS as)[i]? = some (Sl.v k x) → (Sl.v sl z :: startS as)[j]? = some (Sl.v k' y) → i ≠ j → ∀ a ∈ k.fp, a ∉ k'.fp
  | 0, 0, _, _, _, _, _, _, hne => absurd rfl hne
  | 0, j + 1, k, k', x, y, h, h', hne => by
    intro a ha hb
    simp at h h'
    obtain ⟨rfl, rfl⟩ := h
    obtain ⟨v, _, _, _, h4⟩ := slots_m (B := G) (W := G) t j k' y h'
    exact d a ha (h4 a hb)
  | i + 1, 0, k, k', x, y, h, h', hne => by
    intro a ha hb
    simp at h h'
    obtain ⟨rfl, rfl⟩ := h'
    obtain ⟨v, _, _, _, h4⟩ := slots_m (B := G) (W := G) t i k x h
    exact d a hb (h4 a ha)
  | i + 1, j + 1, k, k', x, y, h, h', hne => ih i j k k' x y (by simpa using h) (by simpa using h') (fun z => hne (by rw [z]))
theorem mOf_cons {v : V} {vs : List V} {a : Kd × Dt} {as : List (Kd × Dt)} {j : Nat} : mOf (v :: vs) (a :: as) (j + 1) = mOf vs as j := by
  unfold mOf
  rw [List.getElem?_cons_succ, List.getElem?_cons_succ]
theorem startS_mt : ∀ {as : List (Kd × Dt)} {i : Nat} {t : Ot} {x : Dt}, (startS as)[i]? = some (Sl.v (.mt t) x) → as[i]? = some (.mt t, x)
  | [], i, t, x, h => by simp [startS] at h
  | (k, z) :: r, 0, t, x, h => by cases k <;> simp [startS] at h; obtain ⟨rfl, rfl⟩ := h; rfl
  | (k, z) :: r, i + 1, t, x, h => by
    have h2 : (startS r)[i]? = some (Sl.v (.mt t) x) := by cases k <;> simpa [startS] using h
    rw [List.getElem?_cons_succ]
    exact startS_mt h2
theorem rep_startM {K : PySem.W.Frag} {F G H W : Hp} {iv : Addr → Option (List Int → Prop)} {N : List Str} {vs : List V} {as : List (Kd × Dt)} (hf : Same F G) (hg : Same G H) (hw : Same H W) (hiv : IvOk (entM F G H W iv)) (ar : ArgsM K F G H iv vs as) (hl : as.length ≤ N.length) :
    Rep K (entM F G H W iv (mOf vs as)) (entM F G H W iv (mOf vs as)) (L2.start N vs) (startD N.length as) := by
  have low : ∀ (i : Nat) (k : Kd) (x : Dt), (startD N.length as)[i]? = some (Sl.v k x) → (startS as)[i]? = some (Sl.v k x) ∧ i < as.length := fun i k x h => by
    unfold startD at h
    by_cases hi : i < as.length
    · rw [List.getElem?_append_left (by rw [startS_length]; exact hi)] at h
      exact ⟨h, hi⟩
    · rw [List.getElem?_append_right (by rw [startS_length]; omega)] at h
      rw [List.getElem?_replicate] at h
      split at h <;> cases h
  have val : ∀ (i : Nat) (v : V), i < as.length → vs[i]? = some v → (L2.start N vs)[i]? = some (some v) := fun i v hi h2 => by
    unfold L2.start
    rw [List.getElem?_append_left (by rw [List.length_map, ar.length]; exact hi), List.getElem?_map, h2]
    rfl
  refine ⟨⟨hf, hg, hw, Same.refl _, Same.refl _, fun _ _ => rfl, fun _ h => h, hiv, fun _ _ h => h⟩, ?_, fun i k x h => ?_, fun i j k k' x y h1 h2 hne => dj_m ar i j k k' x y (low i k x h1).1 (low j k' y h2).1 hne, fun i t x h => ?_⟩
  · unfold L2.start startD
    rw [List.length_append, List.length_append, List.length_map, List.length_replicate, List.length_replicate, startS_length, ar.length]
  · obtain ⟨h1, hi⟩ := low i k x h
    obtain ⟨v, h2, h3, h4, _⟩ := slots_m (B := W) (W := W) ar i k x h1
    exact ⟨v, val i v hi h2, h3, h4⟩
  · obtain ⟨h1, hi⟩ := low i _ x h
    have h2 := startS_mt h1
    obtain ⟨v, h3, _, _, _⟩ := slots_m (B := W) (W := W) ar i _ x h1
    exact ⟨v, t.fp, by show mOf vs as i = _; unfold mOf; rw [h3, h2], val i v hi h3, fun a ha => .inl ha⟩
/-- the changed trees in their slots -/
def mtE (o : Option Sl) (k : Ot → Prop) : Prop := match o with
  | some (.v (.mt t) _) => k t
  | _ => False
def muP : List Nat → DEnv → (List Ot → Prop) → Prop
  | [], _, k => k []
  | i :: r, ρ, k => mtE ρ[i]? fun t => muP r ρ fun ts => k (t :: ts)
def mupos : Nat → List (Kd × Dt) → List Nat
  | _, [] => []
  | n, (.mt _, _) :: r => n :: mupos (n + 1) r
  | n, _ :: r => mupos (n + 1) r
theorem muP_get : ∀ {is : List Nat} {ρ : DEnv} {k : List Ot → Prop}, muP is ρ k → ∃ ts, k ts ∧ ts.length = is.length ∧ ∀ (j : Nat) (i : Nat) (t : Ot), is[j]? = some i → ts[j]? = some t → ∃ x, ρ[i]? = some (Sl.v (.mt t) x)
  | [], ρ, k, h => ⟨[], h, rfl, fun j i t h1 => by simp at h1⟩
  | i :: r, ρ, k, h => by
    unfold muP mtE at h
    split at h
    · rename_i t x q
      obtain ⟨ts, h1, h2, h3⟩ := muP_get h
      refine ⟨t :: ts, h1, by rw [List.length_cons, List.length_cons, h2], fun j i' t' e1 e2 => ?_⟩
      cases j with
      | zero =>
        simp at e1 e2
        subst e1; subst e2
        exact ⟨x, q⟩
      | succ j => exact h3 j i' t' (by simpa using e1) (by simpa using e2)
    · exact h.elim
theorem mupos_ge : ∀ (as : List (Kd × Dt)) (n : Nat) (i : Nat), i ∈ mupos n as → n ≤ i
  | [], n, i, h => by cases h
  | (.mt _, _) :: r, n, i, h => by
    rcases List.mem_cons.mp h with z | z
    · omega
    · have := mupos_ge r (n + 1) i z; omega
  | (.fz, _) :: r, n, i, h => by have := mupos_ge r (n + 1) i h; omega
  | (.vw, _) :: r, n, i, h => by have := mupos_ge r (n + 1) i h; omega
  | (.rd, _) :: r, n, i, h => by have := mupos_ge r (n + 1) i h; omega
  | (.fr, _) :: r, n, i, h => by have := mupos_ge r (n + 1) i h; omega
  | (.ow _, _) :: r, n, i, h => by have := mupos_ge r (n + 1) i h; omega
  | (.tr _, _) :: r, n, i, h => by have := mupos_ge r (n + 1) i h; omega
  | (.ft _, _) :: r, n, i, h => by have := mupos_ge r (n + 1) i h; omega
  | (.vt _, _) :: r, n, i, h => by have := mupos_ge r (n + 1) i h; omega
  | (.rt _, _) :: r, n, i, h => by have := mupos_ge r (n + 1) i h; omega
  | (.iv _, _) :: r, n, i, h => by have := mupos_ge r (n + 1) i h; omega
/-- what the slots hold at the end is what was changed -/
theorem mur_of {K : PySem.W.Frag} {F G H W : Hp} {iv : Addr → Option (List Int → Prop)} {m : Nat → Option (V × List Addr)} {s : Hs} {σ : St} {ρ : DEnv} (rp : Rep K (entM F G H W iv m) s σ ρ) : ∀ {vs : List V} {as : List (Kd × Dt)}, ArgsM K F G H iv vs as → ∀ (n : Nat) (ts : List Ot),
    (∀ (j : Nat) (i : Nat) (t : Ot), (mupos n as)[j]? = some i → ts[j]? = some t → ∃ x, ρ[i]? = some (Sl.v (.mt t) x)) → ts.length = (mupos n as).length →
    (∀ j, m (n + j) = mOf vs as j) → MuR K W s vs as ts := by
  intro vs as ar
  induction ar with
  | nil =>
    intro n ts h hl hm
    have : ts = [] := by simpa [mupos] using hl
    subst this; rfl
  | fz r t ih => exact fun n ts h hl hm => ih (n + 1) ts h hl fun j => by rw [show n + 1 + j = n + (j + 1) by omega, hm (j + 1), mOf_cons]
  | rd r t ih => exact fun n ts h hl hm => ih (n + 1) ts h hl fun j => by rw [show n + 1 + j = n + (j + 1) by omega, hm (j + 1), mOf_cons]
  | rt r t ih => exact fun n ts h hl hm => ih (n + 1) ts h hl fun j => by rw [show n + 1 + j = n + (j + 1) by omega, hm (j + 1), mOf_cons]
  | iv r t ih => exact fun n ts h hl hm => ih (n + 1) ts h hl fun j => by rw [show n + 1 + j = n + (j + 1) by omega, hm (j + 1), mOf_cons]
  | mt r g nd d t ih =>
    rename_i v t0 vs xs
    intro n ts h hl hm
    cases ts with
    | nil => simp [mupos] at hl
    | cons u ts =>
      obtain ⟨x, q⟩ := h 0 n u (by simp [mupos]) (by simp)
      obtain ⟨v', f1, ⟨f2, f3, f4, f5⟩, f6⟩ := rp.sl n _ x q
      obtain ⟨v2, L, e1, e2, e3⟩ := rp.mt n u x q
      have e1' : m n = some (v2, L) := e1
      have hm0 := hm 0
      rw [Nat.add_zero, e1'] at hm0
      have hv : v2 = v ∧ L = t0.fp := by
        have : some (v2, L) = some (v, t0.fp) := hm0
        have := Option.some.inj this
        exact ⟨congrArg Prod.fst this, congrArg Prod.snd this⟩
      obtain ⟨rfl, rfl⟩ := hv
      have ev : v' = v2 := by
        rw [e2] at f1
        exact (Option.some.inj (Option.some.inj f1)).symm
      subst ev
      have rest := ih (n + 1) ts (fun j i t' h1 h2 => h (j + 1) i t' (by simpa [mupos] using h1) (by simpa using h2)) (by simpa [mupos] using hl) fun j => by rw [show n + 1 + j = n + (j + 1) by omega, hm (j + 1), mOf_cons]
      refine ⟨f5, f3, e3, f4, fun a ha hb => ?_, rest⟩
      have key : ∀ (us : List Ot) (m : Nat), (∀ (j : Nat) (t' : Ot), us[j]? = some t' → ∃ i y, m ≤ i ∧ ρ[i]? = some (Sl.v (.mt t') y)) → n < m → a ∉ Ot.fps us := by
        intro us
        induction us with
        | nil => intro m _ _ hb; cases hb
        | cons w us ih =>
          intro m hm hlt hb
          rcases List.mem_append.mp hb with z | z
          · obtain ⟨i, y, h1, h2⟩ := hm 0 w (by simp)
            exact rp.dj n i _ _ x y q h2 (by omega) a ha z
          · exact ih m (fun j t' e => hm (j + 1) t' (by simpa using e)) hlt z
      refine key ts (n + 1) (fun j t' e => ?_) (Nat.lt_succ_self n) hb
      have hj : j < (mupos (n + 1) xs).length := by
        have h1 : ts.length = (mupos (n + 1) xs).length := by simpa [mupos] using hl
        have h2 := (List.getElem?_eq_some_iff.mp e).1
        omega
      obtain ⟨y, hy⟩ := h (j + 1) (mupos (n + 1) xs)[j] t' (by simp [mupos]) (by simpa using e)
      exact ⟨_, y, mupos_ge xs (n + 1) _ (List.getElem_mem hj), hy⟩
section
variable {P : Program} {w : World} {K : PySem.W.Frag} {mg : Str → Option Value} {base : Heap}
/-- what a def that changes things must do -/
abbrev endM (is : List Nat) (P : Kd → Dt → List Ot → Prop) (PE : Dt → List Ot → Prop) : EndsD :=
  { nx := fun ρ => muP is ρ (P .fz .non), rt := fun _ _ => False, rtm := fun ρ k x => k.st = true ∧ muP is ρ (P k x), ex := fun ρ x => muP is ρ (PE x) }
theorem end_core {F G H W : Hp} {iv : Addr → Option (List Int → Prop)} {vs : List V} {as : List (Kd × Dt)} {Pd : Kd → Dt → List Ot → Prop} {PE : Dt → List Ot → Prop} {Q : VK} {E : XK} {is : List Nat} (hw : Same H W) (ar : ArgsM K F G H iv vs as) (his : mupos 0 as = is)
    (q : ∀ (s : Hs) (k : Kd) (v : V) (x : Dt) (ts : List Ot), RH (entM F G H W iv) s → RR K W s k v x → MuR K W s vs as ts → (∀ a ∈ rfp k v, a ∉ Ot.fps ts) → Pd k x ts → Q v s.w)
    (q2 : ∀ (s : Hs) (c : Value) (d : Option Addr) (x : Dt) (ts : List Ot), RH (entM F G H W iv) s → RX K s c d x → MuR K W s vs as ts → PE x ts → E c d s.w) {s0 : Hs} :
    Lk K (entM F G H W iv (mOf vs as)) s0 (fun c d σ H => E c d H) { nx := fun _ H' => Q .non H', rt := Q } (endM is Pd PE) := by
  have get : ∀ {s : Hs} {σ : St} {ρ : DEnv} {k : List Ot → Prop}, Rep K (entM F G H W iv (mOf vs as)) s σ ρ → muP is ρ k → ∃ ts, k ts ∧ MuR K W s vs as ts ∧ (∀ (j : Nat) (t : Ot), ts[j]? = some t → ∃ (i : Nat) (x : Dt), ρ[i]? = some (Sl.v (.mt t) x)) := fun {s σ ρ k} rp h => by
    subst his
    obtain ⟨ts, h1, h2, h3⟩ := muP_get h
    refine ⟨ts, h1, mur_of rp ar 0 ts h3 h2 (fun j => by rw [Nat.zero_add]), fun j t e => ?_⟩
    have hj : j < (mupos 0 as).length := by have := (List.getElem?_eq_some_iff.mp e).1; omega
    obtain ⟨x, hx⟩ := h3 j (mupos 0 as)[j] t (by simp) e
    exact ⟨_, x, hx⟩
  refine ⟨fun s' σ ρ rp x hp => ?_, fun s' σ ρ k v x rp ex rk hd hp => ?_, fun s' σ ρ rp x hp => hp, fun s' σ ρ rp x hp => hp, fun s' σ ρ c d x rp ex rx hp => ?_⟩
  · obtain ⟨ts, h1, h2, _⟩ := get rp hp
    exact q s' .fz .non .non ts rp.rh.m .non h2 (fun a ha => by cases ha) h1
  · obtain ⟨hk, hp⟩ := hp
    obtain ⟨ts, h1, h2, h3⟩ := get rp hp
    refine q s' k v x ts rp.rh.m (rk_rr rp.rh rk hk) h2 (fun a ha hb => ?_) h1
    have key : ∀ us : List Ot, (∀ (j : Nat) (t : Ot), us[j]? = some t → ∃ (i : Nat) (x : Dt), ρ[i]? = some (Sl.v (.mt t) x)) → a ∉ Ot.fps us := by
      intro us
      induction us with
      | nil => intro _ hb; cases hb
      | cons w us ih =>
        intro hm hb
        rcases List.mem_append.mp hb with z | z
        · obtain ⟨i, y, h2⟩ := hm 0 w (by simp)
          exact hd a ha i w y h2 z
        · exact ih (fun j t e => hm (j + 1) t (by simpa using e)) z
    exact key ts h3 hb
  · obtain ⟨ts, h1, h2, _⟩ := get rp hp
    exact q2 s' c d x ts rp.rh.m rx h2 h1
/-- THE RULE for a def that changes what is handed in and raises nothing -/
theorem fn_okM {x qual : Str} {st : Stmt} {f : Addr} {fd : FuncData} {N ps : List Str} {k : Nat} {S : DMu} {t : TSd} {is : List Nat} (F : Fun K x qual st f fd) (Sc : FnScope N ps (defScope st)) (len : ∀ as P PE, S as P PE → as.length = ps.length ∧ mupos 0 as = is)
    (hb : ∀ (cdv : Value) (A : Around) (outer : List Env) (s : Shared) (H : Hp) (E : XK) (e0 : Hs), Room k (A.deeper (envOfC qual (defScope st) s.heap.objs.size f cdv)) →
      VSs (cxOf CX0 P w K mg base N qual (defScope st) f cdv A outer s H E).nox e0 (fun c d σ H => E c d H) (defBody st) t)
    (hp : ps.length ≤ N.length) (h : ∀ as P PE, S as P PE → t (endM is P PE) (startD N.length as)) : FnOk P w K mg base CX0 (k + 1) f fd ps (spM K S) := by
  refine F.ok Sc (fun vs H Q E hs => ?_) (fun cdv A outer s H vs Q E hr hs => ?_)
  · obtain ⟨F, G, H, i, as, P, PE, _, _, _, _, ar, sp, _⟩ := hs
    rw [ar.length]
    exact (len as P PE sp).1
  · obtain ⟨F, G, H', i, as, P', PE, hf, hg, hw, hiv, ar, sp, q, q2⟩ := hs
    obtain ⟨T, hT, r⟩ := (hb cdv A outer s H E (entM F G H' H i (mOf vs as)) hr).run
    refine ⟨T, hT, ?_⟩
    exact r (entM F G H' H i (mOf vs as)) (L2.start N vs) (startD N.length as) _ _ (rep_startM hf hg hw hiv ar (by rw [(len as P' PE sp).1]; exact hp)) (h as P' PE sp) (end_core hw ar (len as P' PE sp).2 q q2)
end
end Tq
set_option Elab.async false
set_option linter.all false
set_option autoImplicit false
set_option maxRecDepth 100000
set_option maxHeartbeats 4000000
namespace Tq
open PySem PySem.Spec L2
open PyProof.Rows hiding St
/-! ### defs that change what is handed in, called -/
def HasM (CX : CXT) (P : Program) (w : World) (K : PySem.W.Frag) (mg : Str → Option Value) (base : Heap) (k : Nat) (x : Str) (ps : List Str) (S : DMu) : Prop :=
  ∃ (f : Addr) (fd : FuncData), FnOk P w K mg base CX k f fd ps (spM K S) ∧ mg x = some (.ref f) ∧ PySem.W.keepIn K (.ref f) = true ∧ Binds K fd ps []
theorem hasM_ok {P : Program} {w : World} {K : PySem.W.Frag} {mg : Str → Option Value} {base : Heap} {x : Str} {st : Stmt} {N ps : List Str} {k : Nat} {S : DMu} {t : TSd} {is : List Nat} (d : Df K mg x st ps) (Sc : FnScope N ps (defScope st)) (hp : ps.length ≤ N.length)
    (hb : ∀ (f : Addr) (cdv : Value) (A : Around) (outer : List Env) (s : Shared) (H : Hp) (E : XK) (e0 : Hs), Room k (A.deeper (envOfC x (defScope st) s.heap.objs.size f cdv)) →
      VSs (cxOf CX0 P w K mg base N x (defScope st) f cdv A outer s H E).nox e0 (fun c d σ H => E c d H) (defBody st) t)
    (len : ∀ as P PE, S as P PE → as.length = ps.length ∧ mupos 0 as = is) (h : ∀ as P PE, S as P PE → t (endM is P PE) (startD N.length as)) : HasM CX0 P w K mg base (k + 1) x ps S := by
  obtain ⟨f, fd, F, hm, bi⟩ := d.ex
  exact ⟨f, fd, fn_okM F Sc len (fun cdv A outer s H E e0 hr => hb f cdv A outer s H E e0 hr) hp h, hm, F.kp, bi⟩
/-- a list of ints, changed by the def: its places -/
abbrev leafI (l : Addr) (ns : List Int) : Ot := Ot.leaf l (ns.map Dt.int)
def ivS (o : Option Sl) (k : (List Int → Prop) → Prop) : Prop := match o with
  | some (.v (.iv I) _) => k I
  | _ => False
def eCallIv (i : Nat) (S : DMu) (t : TAd) : TEd := fun ρ P => ivS ρ[i]? fun I => t ρ fun as => lfs as = true ∧
  ∀ (l : Addr) (ns : List Int), I ns → S ((.mt (leafI l ns), .lst (ns.map Dt.int)) :: norm as) (fun k x ts => ∃ ns' : List Int, ts = [leafI l ns'] ∧ I ns' ∧ P k x) (fun _ _ => False)
theorem leafI_inv {K : PySem.W.Frag} {F H : Hp} {v : V} {l : Addr} {ns : List Int} (r : OwT K F H v (leafI l ns)) : v = .ref l ∧ H l = some (.lst (ns.map V.int)) := by
  unfold leafI Ot.leaf at r
  cases r with
  | lst h r =>
    have r2 := owtl_leaf.mp r
    rw [r2.to_ints rfl] at h
    exact ⟨rfl, h⟩
theorem lfs_norm : ∀ {as : List (Kd × Dt)}, lfs as = true → mfp (norm as) = []
  | [], _ => rfl
  | (k, x) :: r, h => by
    obtain ⟨h1, h2⟩ := lfs_cons h
    have ih := lfs_norm h2
    cases k <;> first | (cases h1; done) | skip
    all_goals cases x <;> exact ih
theorem lfs_iv {K : PySem.W.Frag} {F G : Hp} {i i' : Addr → Option (List Int → Prop)} : ∀ {vs : List V} {as : List (Kd × Dt)}, ArgsR K F G i vs as → lfs as = true → ArgsR K F G i' vs as
  | _, _, .nil, _ => .nil
  | _, _, .fz r t, h => .fz r (lfs_iv t (lfs_cons h).2)
  | _, _, .rd r t, h => .rd r (lfs_iv t (lfs_cons h).2)
  | _, _, .rt r t, h => absurd (lfs_cons h).1 (fun z => nomatch z)
  | _, _, .iv r t, h => absurd (lfs_cons h).1 (fun z => nomatch z)
section
variable {X : Cx} {e0 : Hs} {pos : Pos}
theorem iv_core {K : PySem.W.Frag} {s0 s1 : Hs} {σ : St} {ρ : DEnv} {I : List Int → Prop} {S : DMu} {P : DK} {Q : VK} {E : XK} {a : Addr} {vs : List V} {as : List (Kd × Dt)} (rp1 : Rep K e0 s1 σ ρ) (g1 : Grow s0 s1) (ha : s1.i a = some I) (ar : ArgsR K s1.f s1.h s1.i vs as) (hl : lfs as = true)
    (t1 : ∀ (l : Addr) (ns : List Int), I ns → S ((.mt (leafI l ns), .lst (ns.map Dt.int)) :: norm as) (fun k x ts => ∃ ns' : List Int, ts = [leafI l ns'] ∧ I ns' ∧ P k x) (fun _ _ => False))
    (k : ∀ s' k v x, Grow s0 s' → RK K s0.w s' k v x → P k x → Q v s'.w) : spM K S (.ref a :: vs) s1.w Q E := by
  obtain ⟨hn, ns, hI, hw⟩ := rp1.rh.iv a I ha
  let i' : Addr → Option (List Int → Prop) := fun b => if b = a then none else s1.i b
  have hH : Same (upd s1.h a (.lst (ns.map V.int))) s1.w := fun b o q => by
    by_cases z : b = a
    · subst z; rw [upd_same] at q; rw [hw]; exact q
    · rw [upd_ne z] at q; exact rp1.rh.hw b o q
  have hsame : Same s1.h (upd s1.h a (.lst (ns.map V.int))) := same_upd hn
  have arN : ArgsR K s1.f s1.h i' vs (norm as) := (lfs_iv ar hl).norm
  have hmf : mfp (norm as) = [] := lfs_norm hl
  refine ⟨s1.f, s1.h, upd s1.h a (.lst (ns.map V.int)), i', (.mt (leafI a ns), (leafI a ns).dt) :: norm as, fun k x ts => ∃ ns' : List Int, ts = [leafI a ns'] ∧ I ns' ∧ P k x, fun _ _ => False, rp1.rh.fh, hsame, hH, ?_, ?_, ?_, ?_, ?_⟩
  · intro b J q
    have q' : (if b = a then none else s1.i b) = some J := q
    by_cases z : b = a
    · rw [if_pos z] at q'; cases q'
    · rw [if_neg z] at q'
      obtain ⟨h1, h2⟩ := rp1.rh.iv b J q'
      exact ⟨by show upd s1.h a _ b = none; rw [upd_ne z]; exact h1, h2⟩
  · refine .mt ?_ ?_ ?_ ?_ arN.toM
    · exact .lst upd_same (owtl_leaf.mpr (RpL.of_ints ns))
    · intro b hb
      rw [Ot.fp_leaf, List.mem_singleton] at hb
      rw [hb]; exact hn
    · rw [Ot.fp_leaf]; simp
    · intro b _; rw [hmf]; exact fun z => nomatch z
  · rw [Ot.dt_leaf]; exact t1 a ns hI
  · intro s' kk v x ts b r mu hd q
    obtain ⟨ns', rfl, hI', q⟩ := q
    obtain ⟨mu1, mu2, mu3, mu4, mu5, mu6⟩ := mu
    obtain ⟨_, hc⟩ := leafI_inv mu1
    have hga : s'.g a = none := mu2 a (by rw [Ot.fp_leaf]; exact List.mem_singleton.mpr rfl)
    have hfa : s'.f a = none := Same.free b.fg hga
    -- the caller's heaps
    let s2 : Hs := ⟨s'.f, fun c => match s'.f c with
      | some o => some o
      | none => s1.g c, fun c => if c = a then none else s'.h c, s'.w, s1.i, s1.m⟩
    have eg : ∀ c o, s1.h c = some o → s'.g c = some o := fun c o q => b.eg c o q
    have hne : ∀ c o, s1.h c = some o → c ≠ a := fun c o q z => by rw [z, hn] at q; cases q
    have g2 : Grow s1 s2 := by
      refine ⟨b.ef, fun c o q => ?_, fun c o q => ?_, fun c o q => ?_, fun c o q => ?_, fun c o q => ?_, b.nf, fun c h => ?_, b.ew, rp1.rh.hw, fun c J q => ?_, fun c J q => q⟩
      · show (match s'.f c with
          | some o => some o
          | none => s1.g c) = some o
        have h : s'.f c = s1.f c := b.nf c (ne_none (rp1.rh.gw c o q))
        rw [h]
        cases e : s1.f c with
        | none => exact q
        | some o' => exact (rp1.rh.fg c o' e).symm.trans q
      · show (if c = a then none else s'.h c) = some o
        rw [if_neg (hne c o q)]
        exact b.gh c o (eg c o q)
      · show (match s'.f c with
          | some o => some o
          | none => s1.g c) = some o
        have q' : s'.f c = some o := q
        rw [q']
      · have q' : (match s'.f c with
          | some o => some o
          | none => s1.g c) = some o := q
        show (if c = a then none else s'.h c) = some o
        cases e : s'.f c with
        | none =>
          rw [e] at q'
          have := rp1.rh.gh c o q'
          rw [if_neg (hne c o this)]
          exact b.gh c o (eg c o this)
        | some o' =>
          rw [e] at q'
          cases q'
          rw [if_neg (fun z => by rw [z, hfa] at e; cases e)]
          exact b.fh c o e
      · have q' : (if c = a then none else s'.h c) = some o := q
        by_cases z : c = a
        · rw [if_pos z] at q'; cases q'
        · rw [if_neg z] at q'; exact b.hw c o q'
      · show (match s'.f c with
          | some o => some o
          | none => s1.g c) = s1.g c
        have h' : s'.f c = s1.f c := b.nf c h
        rw [h']
        cases e : s1.f c with
        | none => rfl
        | some o' => exact (rp1.rh.fg c o' e).symm
      · by_cases z : c = a
        · have q' : s1.i c = some J := q
          rw [z] at q' ⊢
          rw [ha] at q'
          cases q'
          exact ⟨by show (if a = a then none else s'.h a) = none; rw [if_pos rfl], ns', hI', b.hw _ _ hc⟩
        · have h1 : i' c = some J := by show (if c = a then none else s1.i c) = some J; rw [if_neg z]; exact q
          obtain ⟨h2, h3⟩ := b.iv c J (b.ei c J h1)
          exact ⟨by show (if c = a then none else s'.h c) = none; rw [if_neg z]; exact h2, h3⟩
    have hwa : s1.w a ≠ none := ne_none hw
    refine k s2 kk v x (g1.trans g2) ?_ q
    have hl2 : ∀ l, s1.w l = none → s'.f l = none → s2.g l = none := fun l h1 h2 => by
      show (match s'.f l with
        | some o => some o
        | none => s1.g l) = none
      rw [h2]
      exact Same.free rp1.rh.gw h1
    have hlh : ∀ l, s1.w l = none → ∀ o, s'.h l = some o → s2.h l = some o := fun l h1 o q => by
      show (if l = a then none else s'.h l) = some o
      rw [if_neg (fun (z : l = a) => hwa (by rw [← z]; exact h1))]
      exact q
    cases kk with
    | fz => exact r
    | fr =>
      obtain ⟨l, e1, h1, h2, o⟩ := r
      exact ⟨l, e1, g1.nw h1, hl2 l h1 h2, o.keep (Same.refl _) (hlh l h1)⟩
    | ft t =>
      obtain ⟨e1, h, d, o⟩ := r
      exact ⟨e1, fun c hc => g1.nw (h c hc).1, fun c hc => hl2 c (h c hc).1 (h c hc).2, d, o.keep (Same.refl _) fun c hc => hlh c (h c hc).1⟩
    | _ => exact r.elim
  · intro s' c d x ts b rx mu q
    exact q.elim
theorem ve_callIv {K : PySem.W.Frag} (hK : X.K = K) {k : Nat} {ps : List Str} {S : DMu} {x y : Str} {p p2 : Pos} {es : List Expr} {i : Nat} {Ta : TA} {t : TAd} (h : HasM CX0 X.prog X.w X.K X.mg X.base k x ps S) (hr : Room k X.A) (hg : Gl X x)
    (hv : PE X (.Name y p2) (tVar i)) (ha : VA X e0 es Ta t) (hdb : (x == ("__debug__" : Str)) = false := by decide) (he : starEach (.Name y p2 :: es) X.env = (false, eval (.Name y p2) X.env) :: starEach es X.env := by rfl) (hpl : (backTo pos (starEach es X.env)).any (·.1) = false := by rfl) :
    VE X e0 (.Call (.Name x p) (.Name y p2 :: es) [] pos) (tCall (spM K S) [] E0 (tCons (tVar i) Ta)) (eCallIv i S t) := by
  subst hK
  obtain ⟨f, fd, F, hm, hk, hb⟩ := h
  obtain ⟨hTa, ra⟩ := ha
  refine ⟨pe_call F hr hg hm hk hb .nil pass0 (pa_cons hv hTa he) hdb he hpl, fun s σ ρ P Q rp t k => ?_⟩
  unfold eCallIv ivS at t
  split at t
  · rename_i I z q
    obtain ⟨v, h1, ⟨a, rfl, h2, h3⟩, _⟩ := rp.sl i _ z q
    refine ⟨_, h1, ?_⟩
    refine ra s σ ρ _ (fun vs H => spM X.K S ((V.ref a :: vs) ++ []) H Q E0) rp t fun s1 vs xs g1 ar hxl t1 => ?_
    rw [List.append_nil]
    exact iv_core (rp.grow g1) g1 (g1.i a I h2) ar t1.1 t1.2 k
  · exact t.elim
/-- a list with a law, read by place -/
def ivIx (I : List Int → Prop) (y : Dt) (P : DK) : Prop := ∀ ns, I ns → dIx (.lst (ns.map Dt.int)) y P
def eIvIx (i : Nat) (tb : TEd) : TEd := fun ρ P => ivS ρ[i]? fun I => tb ρ fun k y => k.lf = true ∧ ivIx I y P
theorem ve_ivIx {i : Nat} {y : Str} {p2 : Pos} {b : Expr} {Tb : TE} {tb : TEd} (hv : PE X (.Name y p2) (tVar i)) (hb : VE X e0 b Tb tb) (hs : PlainIx b) : VE X e0 (.Subscript (.Name y p2) b pos) (tOp (rIx X.K) (tVar i) Tb) (eIvIx i tb) := by
  obtain ⟨hTb, rb⟩ := hb
  refine ⟨pe_ix ix_seq hv hTb hs, fun s σ ρ P Q rp t k => ?_⟩
  unfold eIvIx ivS at t
  split at t
  · rename_i I z q
    obtain ⟨v, h1, ⟨a, rfl, h2, h3⟩, _⟩ := rp.sl i _ z q
    refine ⟨_, h1, ?_⟩
    refine rb s σ ρ _ (fun v H => rIx X.K (.ref a) v H Q) rp t fun s1 k1 v1 x1 g1 r1 t1 => ?_
    obtain ⟨hk1, t1⟩ := t1
    obtain ⟨hn, ns, hI, hw⟩ := (g1.iv) a I (g1.i a I h2)
    have t2 := t1 ns hI
    cases x1 <;> first | exact t2.elim | skip
    rename_i j
    cases r1.isint
    revert t2
    show (match L2.atI (ns.map Dt.int) j with
      | some d => P .fz d
      | none => False) → _
    cases e : L2.atI (ns.map Dt.int) j with
    | none => exact fun t2 => t2.elim
    | some d =>
      intro t2
      obtain ⟨v, hv, rv⟩ := (RpL.of_ints (K := X.K) (F := s1.f) ns).atI e
      exact .inl ⟨a, _, j, v, rfl, rfl, .inl (.inl hw), hv, k s1 .fz v d g1 rv t2⟩
  · exact t.elim
/-- x = [..] : a list with a law from now on -/
def ivSet (I : List Int → Prop) (i : Nat) (D : DEnv → Prop) (ρ : DEnv) (k : Kd) (x : Dt) : Prop := match k, x with
  | .fr, .lst ds => ∃ ns : List Int, ds = ns.map Dt.int ∧ I ns ∧ D (ρ.set i (.v (.iv I) (.lst [])))
  | _, _ => False
/-- .. whichever law -/
def sSetIv (i : Nat) (te : TEd) : TSd := fun D ρ => ∃ I, te ρ fun k x => ivSet I i D.nx ρ k x
theorem vs_setIv {W : WX} {st : Stmt} {i : Nat} {e : Expr} {T : TE} {te : TEd} (h : VE X e0 e T te) (hp : PE X e T → PS X st (tAsg T (gName i))) : VS X e0 W st (sSetIv i te) := by
  refine ⟨_, hp h.pe, fun s σ ρ D D' rp t l => ?_⟩
  obtain ⟨I, t⟩ := t
  refine h.run s σ ρ _ (fun v H => gName i v σ H D.nx) rp t fun s1 k1 v1 x1 g1 r1 t1 => ?_
  unfold ivSet at t1
  split at t1
  · rename_i ds
    obtain ⟨ns, rfl, hI, t1⟩ := t1
    obtain ⟨a, rfl, b, n, c⟩ := r1
    obtain ⟨xs, hx, rx⟩ := c.lst
    rw [rx.to_ints rfl] at hx
    have rp1 := rp.grow g1
    have hia : s1.i a = none := g1.iv.known (ne_none hx)
    let s2 : Hs := ⟨s1.f, s1.g, fun c => if c = a then none else s1.h c, s1.w, fun c => if c = a then some I else s1.i c, s1.m⟩
    have hg : ∀ c o, s1.g c = some o → c ≠ a := fun c o q z => by rw [z, n] at q; cases q
    have hi : ∀ c J, s1.i c = some J → s2.i c = some J := fun c J q => by
      show (if c = a then some I else s1.i c) = some J
      rw [if_neg (fun (z : c = a) => by rw [z, hia] at q; cases q)]
      exact q
    have rh2 : RH e0 s2 := by
      refine ⟨g1.fg, fun c o q => ?_, fun c o q => ?_, rp1.rh.ef, rp1.rh.eg, rp1.rh.nf, rp1.rh.ew, fun c J q => ?_, fun c J q => hi c J (rp1.rh.ei c J q)⟩
      · show (if c = a then none else s1.h c) = some o
        rw [if_neg (hg c o q)]
        exact g1.gh c o q
      · have q' : (if c = a then none else s1.h c) = some o := q
        by_cases z : c = a
        · rw [if_pos z] at q'; cases q'
        · rw [if_neg z] at q'; exact g1.hw c o q'
      · have q' : (if c = a then some I else s1.i c) = some J := q
        by_cases z : c = a
        · rw [if_pos z] at q'
          cases q'
          rw [z]
          exact ⟨by show (if a = a then none else s1.h a) = none; rw [if_pos rfl], ns, hI, g1.hw _ _ hx⟩
        · rw [if_neg z] at q'
          obtain ⟨h1, h2⟩ := g1.iv c J q'
          exact ⟨by show (if c = a then none else s1.h c) = none; rw [if_neg z]; exact h1, h2⟩
    have keep : ∀ c, c ≠ a → ∀ o, s1.h c = some o → s2.h c = some o := fun c z o q => by
      show (if c = a then none else s1.h c) = some o
      rw [if_neg z]; exact q
    have rp2 : Rep X.K e0 s2 σ ρ := by
      refine ⟨rh2, rp1.len, fun j k x q => ?_, rp1.dj, rp1.mt⟩
      obtain ⟨v, h1, h2, h3⟩ := rp1.sl j k x q
      have hn := rp.apart b q
      refine ⟨v, h1, ?_, h3⟩
      cases k with
      | fz => exact h2
      | vw => exact h2
      | vt t => exact h2
      | iv J =>
        obtain ⟨c, e1, e2, e3⟩ := h2
        exact ⟨c, e1, hi c J e2, e3⟩
      | ow l' =>
        obtain ⟨f1, f2, f3, f4⟩ := h2
        exact ⟨f1, f2, f3, f4.keep (Same.refl _) (keep l' fun z => hn (z ▸ List.mem_singleton.mpr rfl))⟩
      | tr t =>
        obtain ⟨f1, f2, f3, f4, f5⟩ := h2
        exact ⟨f1, f2, f3, f4, f5.keep (Same.refl _) fun c hc => keep c fun (z : c = a) => hn (by rw [← z]; exact hc)⟩
      | mt t =>
        obtain ⟨f1, f3, f4, f5⟩ := h2
        exact ⟨f1, f3, f4, f5.keep (Same.refl _) fun c hc => keep c fun (z : c = a) => hn (by rw [← z]; exact hc)⟩
      | _ => cases h3
    have rp3 : Rep X.K e0 s2 (σ.set i (some (.ref a))) (ρ.set i (.v (.iv I) (.lst []))) :=
      rp2.low (k := .iv I) ⟨a, rfl, by show (if a = a then some I else s1.i a) = some I; rw [if_pos rfl], rfl⟩ rfl rfl
    exact l.nx s2 _ _ rp3 ⟨g1.f, g1.g, fun c J q => hi c J (g1.i c J q)⟩ t1
  · exact t1.elim
end
end Tq
set_option Elab.async false
set_option linter.all false
set_option autoImplicit false
set_option maxRecDepth 100000
set_option maxHeartbeats 4000000
namespace Tq
open PySem PySem.Spec L2
open PyProof.Rows hiding St
/-! ### trees by place -/
inductive Pst where
  | ix (j : Nat)
  | fl (f : Str)
def fldO : List (Str × Ot) → Str → Option Ot
  | [], _ => none
  | (g, t) :: r, f => if f = g then some t else fldO r f
def repO : List (Str × Ot) → Str → Ot → List (Str × Ot)
  | [], _, _ => []
  | (g, t) :: r, f, u => if f = g then (g, u) :: r else (g, t) :: repO r f u
def Ot.step : Ot → Pst → Option Ot
  | .lst _ ts, .ix j => ts[j]?
  | .obj _ _ fs, .fl f => fldO fs f
  | _, _ => none
def subB (o : Option Ot) (k : Ot → Option Ot) : Option Ot := match o with
  | some t => k t
  | none => none
def Ot.sub : Ot → List Pst → Option Ot
  | t, [] => some t
  | t, s :: p => subB (t.step s) fun v => v.sub p
def Ot.put : Ot → List Pst → Ot → Ot
  | _, [], u => u
  | .lst l ts, .ix j :: p, u => match ts[j]? with
    | some v => .lst l (ts.set j (v.put p u))
    | none => .lst l ts
  | .obj l C fs, .fl f :: p, u => match fldO fs f with
    | some v => .obj l C (repO fs f (v.put p u))
    | none => .obj l C fs
  | t, _ :: _, _ => t
def Ot.root : Ot → Option Addr
  | .pt _ => none
  | .lst l _ => some l
  | .dct l _ => some l
  | .obj l _ _ => some l
theorem OwT.ref {K : PySem.W.Frag} {F H : Hp} {v : V} {t : Ot} {l : Addr} (r : OwT K F H v t) (h : t.root = some l) : v = .ref l := by
  cases r with
  | pt r => cases h
  | lst q r => cases h; rfl
  | dct q r => cases h; rfl
  | obj q r => cases h; rfl
theorem root_fp {t : Ot} {l : Addr} (h : t.root = some l) : l ∈ t.fp := by
  cases t <;> cases h <;> exact List.mem_cons_self
section
variable {K : PySem.W.Frag} {F H H' : Hp}
theorem OwTL.at : ∀ {vs : List V} {ts : List Ot} {j : Nat} {t : Ot}, OwTL K F H vs ts → ts[j]? = some t → ∃ v, vs[j]? = some v ∧ OwT K F H v t
  | _, _, j, t, .nil, h => by simp at h
  | _, _, 0, t, .cons r q, h => by simp at h; subst h; exact ⟨_, rfl, r⟩
  | _, _, j + 1, t, .cons r q, h => by
    obtain ⟨v, h1, h2⟩ := OwTL.at (j := j) q (by simpa using h)
    exact ⟨v, by simpa using h1, h2⟩
theorem OwTF.at : ∀ {vs : List (Str × V)} {ts : List (Str × Ot)} {f : Str} {t : Ot}, OwTF K F H vs ts → fldO ts f = some t → ∃ v, vs.lookup f = some v ∧ OwT K F H v t
  | _, _, f, t, .nil, h => by cases h
  | _, _, f, t, .cons (f := g) r q, h => by
    unfold fldO at h
    by_cases e : f = g
    · rw [if_pos e] at h
      cases h
      exact ⟨_, by simp [List.lookup, e], r⟩
    · rw [if_neg e] at h
      obtain ⟨v, h1, h2⟩ := OwTF.at q h
      have hb : (f == g) = false := beq_eq_false_iff_ne.mpr e
      exact ⟨v, by simp only [List.lookup, hb]; exact h1, h2⟩
theorem fps_at : ∀ {ts : List Ot} {j : Nat} {t : Ot}, ts[j]? = some t → ∀ a ∈ t.fp, a ∈ Ot.fps ts
  | [], j, t, h => by simp at h
  | w :: ts, 0, t, h => by simp at h; subst h; exact fun a ha => List.mem_append_left _ ha
  | w :: ts, j + 1, t, h => fun a ha => List.mem_append_right _ (fps_at (j := j) (by simpa using h) a ha)
theorem fpf_at : ∀ {ts : List (Str × Ot)} {f : Str} {t : Ot}, fldO ts f = some t → ∀ a ∈ t.fp, a ∈ Ot.fpf ts
  | [], f, t, h => by cases h
  | (g, w) :: ts, f, t, h => by
    unfold fldO at h
    by_cases e : f = g
    · rw [if_pos e] at h; cases h; exact fun a ha => List.mem_append_left _ ha
    · rw [if_neg e] at h; exact fun a ha => List.mem_append_right _ (fpf_at h a ha)
theorem sub_some {t : Ot} {s : Pst} {p : List Pst} {u : Ot} (h : t.sub (s :: p) = some u) : ∃ v, t.step s = some v ∧ v.sub p = some u := by
  have h' : subB (t.step s) (fun v => v.sub p) = some u := h
  cases e : t.step s with
  | none => rw [e] at h'; cases h'
  | some v => rw [e] at h'; exact ⟨v, rfl, h'⟩
theorem step_fp {t v : Ot} {s : Pst} (h : t.step s = some v) : ∀ a ∈ v.fp, a ∈ t.fp := by
  cases t <;> cases s <;> first | (cases h; done) | skip
  · exact fun a ha => List.mem_cons_of_mem _ (fps_at h a ha)
  · exact fun a ha => List.mem_cons_of_mem _ (fpf_at h a ha)
theorem sub_fp : ∀ {p : List Pst} {t u : Ot}, t.sub p = some u → ∀ a ∈ u.fp, a ∈ t.fp
  | [], t, u, h => by cases h; exact fun a ha => ha
  | s :: p, t, u, h => by
    obtain ⟨v, h1, h2⟩ := sub_some h
    exact fun a ha => step_fp h1 a (sub_fp h2 a ha)
theorem OwT.stepT {v : V} {t w : Ot} {s : Pst} (r : OwT K F H v t) (h : t.step s = some w) : ∃ v', OwT K F H v' w := by
  cases r <;> cases s <;> first | (cases h; done) | skip
  · rename_i q r _; obtain ⟨v', _, h2⟩ := r.at h; exact ⟨v', h2⟩
  · rename_i q r _; obtain ⟨v', _, h2⟩ := r.at h; exact ⟨v', h2⟩
theorem OwT.subT : ∀ {p : List Pst} {v : V} {t u : Ot}, OwT K F H v t → t.sub p = some u → ∃ v', OwT K F H v' u
  | [], v, t, u, r, h => by cases h; exact ⟨v, r⟩
  | s :: p, v, t, u, r, h => by
    obtain ⟨w, h1, h2⟩ := sub_some h
    obtain ⟨v', r'⟩ := r.stepT h1
    exact r'.subT h2
theorem nodup_fps : ∀ {ts : List Ot}, (Ot.fps ts).Nodup → (∀ {j : Nat} {t : Ot}, ts[j]? = some t → t.fp.Nodup) ∧ ∀ {i j : Nat} {t u : Ot}, ts[i]? = some t → ts[j]? = some u → i ≠ j → ∀ a ∈ t.fp, a ∉ u.fp
  | [], _ => ⟨fun {j t} h => by simp at h, fun {i j t u} h => by simp at h⟩
  | w :: ts, h => by
    have h' : (w.fp ++ Ot.fps ts).Nodup := h
    rw [List.nodup_append] at h'
    obtain ⟨h1, h2, h3⟩ := h'
    obtain ⟨i1, i2⟩ := nodup_fps h2
    refine ⟨fun {j t} e => ?_, fun {i j t u} e1 e2 hne a ha hb => ?_⟩
    · cases j with
      | zero => simp at e; subst e; exact h1
      | succ j => exact i1 (by simpa using e)
    · cases i with
      | zero =>
        cases j with
        | zero => exact hne rfl
        | succ j => simp at e1; subst e1; exact h3 a ha a (fps_at (by simpa using e2) a hb) rfl
      | succ i =>
        cases j with
        | zero => simp at e2; subst e2; exact h3 a hb a (fps_at (by simpa using e1) a ha) rfl
        | succ j => exact i2 (by simpa using e1) (by simpa using e2) (fun z => hne (by rw [z])) a ha hb
theorem fps_set : ∀ {ts : List Ot} {j : Nat} {u : Ot} {a : Addr}, a ∈ Ot.fps (ts.set j u) → a ∈ Ot.fps ts ∨ a ∈ u.fp
  | [], j, u, a, h => by cases h
  | w :: ts, 0, u, a, h => (List.mem_append.mp h).elim .inr fun z => .inl (List.mem_append_right _ z)
  | w :: ts, j + 1, u, a, h => (List.mem_append.mp h).elim (fun z => .inl (List.mem_append_left _ z)) fun z => (fps_set z).elim (fun q => .inl (List.mem_append_right _ q)) .inr
theorem fpf_rep : ∀ {ts : List (Str × Ot)} {f : Str} {u : Ot} {a : Addr}, a ∈ Ot.fpf (repO ts f u) → a ∈ Ot.fpf ts ∨ a ∈ u.fp
  | [], f, u, a, h => by cases h
  | (g, w) :: ts, f, u, a, h => by
    unfold repO at h
    by_cases e : f = g
    · rw [if_pos e] at h
      exact (List.mem_append.mp h).elim .inr fun z => .inl (List.mem_append_right _ z)
    · rw [if_neg e] at h
      exact (List.mem_append.mp h).elim (fun z => .inl (List.mem_append_left _ z)) fun z => (fpf_rep z).elim (fun q => .inl (List.mem_append_right _ q)) .inr
theorem put_fp : ∀ {p : List Pst} {t u : Ot} {a : Addr}, a ∈ (t.put p u).fp → a ∈ t.fp ∨ a ∈ u.fp
  | [], t, u, a, h => .inr h
  | .ix j :: p, .lst l ts, u, a, h => by
    unfold Ot.put at h
    cases e : ts[j]? with
    | none => rw [e] at h; exact .inl h
    | some w =>
      rw [e] at h
      rcases List.mem_cons.mp h with z | z
      · exact .inl (z ▸ List.mem_cons_self)
      · rcases fps_set z with q | q
        · exact .inl (List.mem_cons_of_mem _ q)
        · exact (put_fp q).elim (fun q => .inl (List.mem_cons_of_mem _ (fps_at e a q))) .inr
  | .fl f :: p, .obj l C fs, u, a, h => by
    unfold Ot.put at h
    cases e : fldO fs f with
    | none => rw [e] at h; exact .inl h
    | some w =>
      rw [e] at h
      rcases List.mem_cons.mp h with z | z
      · exact .inl (z ▸ List.mem_cons_self)
      · rcases fpf_rep z with q | q
        · exact .inl (List.mem_cons_of_mem _ q)
        · exact (put_fp q).elim (fun q => .inl (List.mem_cons_of_mem _ (fpf_at e a q))) .inr
  | .ix j :: p, .pt x, u, a, h => .inl h
  | .ix j :: p, .dct l ds, u, a, h => .inl h
  | .ix j :: p, .obj l C fs, u, a, h => .inl h
  | .fl f :: p, .pt x, u, a, h => .inl h
  | .fl f :: p, .dct l ds, u, a, h => .inl h
  | .fl f :: p, .lst l ts, u, a, h => .inl h
/-- one part of a row of trees exchanged -/
theorem nodup_set : ∀ {ts : List Ot} {j : Nat} {w u : Ot}, (Ot.fps ts).Nodup → ts[j]? = some w → u.fp.Nodup → (∀ a ∈ u.fp, a ∈ w.fp ∨ a ∉ Ot.fps ts) → (Ot.fps (ts.set j u)).Nodup
  | [], j, w, u, _, h, _, _ => by simp at h
  | x :: ts, 0, w, u, hn, h, hu, hd => by
    simp at h; subst h
    have hn' : (x.fp ++ Ot.fps ts).Nodup := hn
    rw [List.nodup_append] at hn'
    show (u.fp ++ Ot.fps ts).Nodup
    rw [List.nodup_append]
    refine ⟨hu, hn'.2.1, fun a ha b hb e => ?_⟩
    subst e
    rcases hd a ha with z | z
    · exact hn'.2.2 a z a hb rfl
    · exact z (List.mem_append_right _ hb)
  | x :: ts, j + 1, w, u, hn, h, hu, hd => by
    have hn' : (x.fp ++ Ot.fps ts).Nodup := hn
    rw [List.nodup_append] at hn'
    have hj : ts[j]? = some w := by simpa using h
    show (x.fp ++ Ot.fps (ts.set j u)).Nodup
    rw [List.nodup_append]
    refine ⟨hn'.1, nodup_set hn'.2.1 hj hu fun a ha => (hd a ha).elim .inl fun z => .inr fun q => z (List.mem_append_right _ q), fun a ha b hb e => ?_⟩
    subst e
    rcases fps_set hb with z | z
    · exact hn'.2.2 a ha a z rfl
    · rcases hd a z with q | q
      · exact hn'.2.2 a ha a (fps_at hj a q) rfl
      · exact q (List.mem_append_left _ ha)
theorem nodup_rep : ∀ {ts : List (Str × Ot)} {f : Str} {w u : Ot}, (Ot.fpf ts).Nodup → fldO ts f = some w → u.fp.Nodup → (∀ a ∈ u.fp, a ∈ w.fp ∨ a ∉ Ot.fpf ts) → (Ot.fpf (repO ts f u)).Nodup
  | [], f, w, u, _, h, _, _ => by cases h
  | (g, x) :: ts, f, w, u, hn, h, hu, hd => by
    have hn' : (x.fp ++ Ot.fpf ts).Nodup := hn
    rw [List.nodup_append] at hn'
    unfold fldO at h
    unfold repO
    by_cases e : f = g
    · rw [if_pos e] at h ⊢
      cases h
      show (u.fp ++ Ot.fpf ts).Nodup
      rw [List.nodup_append]
      refine ⟨hu, hn'.2.1, fun a ha b hb e => ?_⟩
      subst e
      rcases hd a ha with z | z
      · exact hn'.2.2 a z a hb rfl
      · exact z (List.mem_append_right _ hb)
    · rw [if_neg e] at h ⊢
      show (x.fp ++ Ot.fpf (repO ts f u)).Nodup
      rw [List.nodup_append]
      refine ⟨hn'.1, nodup_rep hn'.2.1 h hu fun a ha => (hd a ha).elim .inl fun z => .inr fun q => z (List.mem_append_right _ q), fun a ha b hb e => ?_⟩
      subst e
      rcases fpf_rep hb with z | z
      · exact hn'.2.2 a ha a z rfl
      · rcases hd a z with q | q
        · exact hn'.2.2 a ha a (fpf_at h a q) rfl
        · exact q (List.mem_append_left _ ha)
theorem fpf_one : ∀ {ts : List (Str × Ot)} {f : Str} {w : Ot}, (Ot.fpf ts).Nodup → fldO ts f = some w → w.fp.Nodup
  | [], f, w, _, h => by cases h
  | (g, x) :: ts, f, w, hn, h => by
    have hn' : (x.fp ++ Ot.fpf ts).Nodup := hn
    rw [List.nodup_append] at hn'
    unfold fldO at h
    by_cases e : f = g
    · rw [if_pos e] at h; cases h; exact hn'.1
    · rw [if_neg e] at h; exact fpf_one hn'.2.1 h
theorem step_nodup {t v : Ot} {s : Pst} (hn : t.fp.Nodup) (h : t.step s = some v) : v.fp.Nodup := by
  cases t <;> cases s <;> first | (cases h; done) | skip
  · have hn' : (_ :: _).Nodup := hn
    exact (nodup_fps (List.nodup_cons.mp hn').2).1 h
  · have hn' : (_ :: _).Nodup := hn
    exact fpf_one (List.nodup_cons.mp hn').2 h
theorem put_nodup : ∀ {p : List Pst} {t u u' : Ot}, t.fp.Nodup → t.sub p = some u → u'.fp.Nodup → (∀ a ∈ u'.fp, a ∈ u.fp ∨ a ∉ t.fp) → (t.put p u').fp.Nodup
  | [], t, u, u', hn, h, hu, hd => hu
  | .ix j :: p, .lst l ts, u, u', hn, h, hu, hd => by
    obtain ⟨w, h1, h2⟩ := sub_some h
    have h1' : ts[j]? = some w := h1
    have hn' := List.nodup_cons.mp (show (l :: Ot.fps ts).Nodup from hn)
    have ih := put_nodup (step_nodup hn h1) h2 hu fun a ha => (hd a ha).elim .inl fun z => .inr fun q => z (step_fp h1 a q)
    unfold Ot.put
    rw [h1']
    show (l :: Ot.fps (ts.set j (w.put p u'))).Nodup
    have hq : ∀ a ∈ (w.put p u').fp, a ∈ w.fp ∨ a ∉ (Ot.lst l ts).fp := fun a ha => (put_fp ha).elim .inl fun z => (hd a z).elim (fun q => .inl (sub_fp h2 a q)) .inr
    refine List.nodup_cons.mpr ⟨fun hm => ?_, nodup_set hn'.2 h1' ih fun a ha => (hq a ha).elim .inl fun z => .inr fun q => z (List.mem_cons_of_mem _ q)⟩
    rcases fps_set hm with z | z
    · exact hn'.1 z
    · rcases hq l z with q | q
      · exact hn'.1 (fps_at h1' l q)
      · exact q List.mem_cons_self
  | .fl f :: p, .obj l C fs, u, u', hn, h, hu, hd => by
    obtain ⟨w, h1, h2⟩ := sub_some h
    have h1' : fldO fs f = some w := h1
    have hn' := List.nodup_cons.mp (show (l :: Ot.fpf fs).Nodup from hn)
    have ih := put_nodup (step_nodup hn h1) h2 hu fun a ha => (hd a ha).elim .inl fun z => .inr fun q => z (step_fp h1 a q)
    unfold Ot.put
    rw [h1']
    show (l :: Ot.fpf (repO fs f (w.put p u'))).Nodup
    have hq : ∀ a ∈ (w.put p u').fp, a ∈ w.fp ∨ a ∉ (Ot.obj l C fs).fp := fun a ha => (put_fp ha).elim .inl fun z => (hd a z).elim (fun q => .inl (sub_fp h2 a q)) .inr
    refine List.nodup_cons.mpr ⟨fun hm => ?_, nodup_rep hn'.2 h1' ih fun a ha => (hq a ha).elim .inl fun z => .inr fun q => z (List.mem_cons_of_mem _ q)⟩
    rcases fpf_rep hm with z | z
    · exact hn'.1 z
    · rcases hq l z with q | q
      · exact hn'.1 (fpf_at h1' l q)
      · exact q List.mem_cons_self
  | .ix j :: p, .pt x, u, u', hn, h, hu, hd => hn
  | .ix j :: p, .dct l ds, u, u', hn, h, hu, hd => hn
  | .ix j :: p, .obj l C fs, u, u', hn, h, hu, hd => hn
  | .fl f :: p, .pt x, u, u', hn, h, hu, hd => hn
  | .fl f :: p, .dct l ds, u, u', hn, h, hu, hd => hn
  | .fl f :: p, .lst l ts, u, u', hn, h, hu, hd => hn
theorem OwTL.setT : ∀ {vs : List V} {ts : List Ot} {j : Nat} {w u : Ot}, OwTL K F H vs ts → ts[j]? = some w → (∀ v, OwT K F H v w → OwT K F H' v u) → (Ot.fps ts).Nodup → (∀ a ∈ Ot.fps ts, a ∉ w.fp → ∀ q, H a = some q → H' a = some q) → OwTL K F H' vs (ts.set j u)
  | _, _, j, w, u, .nil, h, _, _, _ => by simp at h
  | _, _, 0, w, u, .cons (ts := ts) r q, h, hu, hn, hk => by
    simp at h; subst h
    have hn' : (_ ++ Ot.fps ts).Nodup := hn
    rw [List.nodup_append] at hn'
    exact .cons (hu _ r) (q.keep (Same.refl _) fun a ha => hk a (List.mem_append_right _ ha) fun z => hn'.2.2 a z a ha rfl)
  | _, _, j + 1, w, u, .cons (t := x) (ts := ts) r q, h, hu, hn, hk => by
    have hn' : (x.fp ++ Ot.fps ts).Nodup := hn
    rw [List.nodup_append] at hn'
    have hj : ts[j]? = some w := by simpa using h
    refine .cons (r.keep (Same.refl _) fun a ha => hk a (List.mem_append_left _ ha) fun z => hn'.2.2 a ha a (fps_at hj a z) rfl) ?_
    exact OwTL.setT q hj hu hn'.2.1 fun a ha => hk a (List.mem_append_right _ ha)
theorem OwTF.repT : ∀ {vs : List (Str × V)} {ts : List (Str × Ot)} {f : Str} {w u : Ot}, OwTF K F H vs ts → fldO ts f = some w → (∀ v, OwT K F H v w → OwT K F H' v u) → (Ot.fpf ts).Nodup → (∀ a ∈ Ot.fpf ts, a ∉ w.fp → ∀ q, H a = some q → H' a = some q) → OwTF K F H' vs (repO ts f u)
  | _, _, f, w, u, .nil, h, _, _, _ => by cases h
  | _, _, f, w, u, .cons (f := g) (t := x) (ts := ts) r q, h, hu, hn, hk => by
    have hn' : (x.fp ++ Ot.fpf ts).Nodup := hn
    rw [List.nodup_append] at hn'
    unfold fldO at h
    unfold repO
    by_cases e : f = g
    · rw [if_pos e] at h ⊢
      cases h
      exact .cons (hu _ r) (q.keep (Same.refl _) fun a ha => hk a (List.mem_append_right _ ha) fun z => hn'.2.2 a z a ha rfl)
    · rw [if_neg e] at h ⊢
      refine .cons (r.keep (Same.refl _) fun a ha => hk a (List.mem_append_left _ ha) fun z => hn'.2.2 a ha a (fpf_at h a z) rfl) ?_
      exact OwTF.repT q h hu hn'.2.1 fun a ha => hk a (List.mem_append_right _ ha)
theorem put_ow : ∀ {p : List Pst} {v : V} {t u u' : Ot} {l : Addr}, OwT K F H v t → t.fp.Nodup → t.sub p = some u → u.root = some l → OwT K F H' (.ref l) u' → (∀ a ∈ t.fp, a ∉ u.fp → ∀ q, H a = some q → H' a = some q) → OwT K F H' v (t.put p u')
  | [], v, t, u, u', l, r, hn, h, hl, hu, hk => by
    cases h
    rw [r.ref hl]
    exact hu
  | .ix j :: p, _, .lst l0 ts, u, u', l, .lst hq r, hn, h, hl, hu, hk => by
    obtain ⟨w, h1, h2⟩ := sub_some h
    have h1' : ts[j]? = some w := h1
    have hn' := List.nodup_cons.mp (show (l0 :: Ot.fps ts).Nodup from hn)
    unfold Ot.put
    rw [h1']
    refine .lst (hk l0 List.mem_cons_self (fun z => hn'.1 (fps_at h1' l0 (sub_fp h2 l0 z))) _ hq) ?_
    refine OwTL.setT r h1' (fun v' rw => put_ow rw (step_nodup hn h1) h2 hl hu fun a ha => hk a (step_fp h1 a ha)) hn'.2 fun a ha hna => hk a (List.mem_cons_of_mem _ ha) fun z => hna (sub_fp h2 a z)
  | .fl f :: p, _, .obj l0 C fs, u, u', l, .obj hq r, hn, h, hl, hu, hk => by
    obtain ⟨w, h1, h2⟩ := sub_some h
    have h1' : fldO fs f = some w := h1
    have hn' := List.nodup_cons.mp (show (l0 :: Ot.fpf fs).Nodup from hn)
    unfold Ot.put
    rw [h1']
    refine .obj (hk l0 List.mem_cons_self (fun z => hn'.1 (fpf_at h1' l0 (sub_fp h2 l0 z))) _ hq) ?_
    refine OwTF.repT r h1' (fun v' rw => put_ow rw (step_nodup hn h1) h2 hl hu fun a ha => hk a (step_fp h1 a ha)) hn'.2 fun a ha hna => hk a (List.mem_cons_of_mem _ ha) fun z => hna (sub_fp h2 a z)
  | .ix j :: p, v, .pt x, u, u', l, r, hn, h, hl, hu, hk => by obtain ⟨w, h1, _⟩ := sub_some h; cases h1
  | .ix j :: p, v, .dct l0 ds, u, u', l, r, hn, h, hl, hu, hk => by obtain ⟨w, h1, _⟩ := sub_some h; cases h1
  | .ix j :: p, v, .obj l0 C fs, u, u', l, r, hn, h, hl, hu, hk => by obtain ⟨w, h1, _⟩ := sub_some h; cases h1
  | .fl f :: p, v, .pt x, u, u', l, r, hn, h, hl, hu, hk => by obtain ⟨w, h1, _⟩ := sub_some h; cases h1
  | .fl f :: p, v, .dct l0 ds, u, u', l, r, hn, h, hl, hu, hk => by obtain ⟨w, h1, _⟩ := sub_some h; cases h1
  | .fl f :: p, v, .lst l0 ts, u, u', l, r, hn, h, hl, hu, hk => by obtain ⟨w, h1, _⟩ := sub_some h; cases h1
end
/-- a slot's tree -/
def Kd.tree : Kd → Option Ot
  | .tr t => some t
  | .mt t => some t
  | _ => none
def Kd.withT : Kd → Ot → Kd
  | .tr _, t => .tr t
  | .mt _, t => .mt t
  | k, _ => k
section
variable {e0 : Hs} {K : PySem.W.Frag} {s : Hs} {σ : St} {ρ : DEnv}
theorem tree_fp {k : Kd} {t : Ot} (h : k.tree = some t) : k.fp = t.fp := by
  cases k <;> cases h <;> rfl
theorem Rep.tree {i : Nat} {k : Kd} {x : Dt} {t : Ot} (rp : Rep K e0 s σ ρ) (hi : ρ[i]? = some (Sl.v k x)) (ht : k.tree = some t) : ∃ v, σ[i]? = some (some v) ∧ OwT K s.f s.h v t ∧ t.fp.Nodup ∧ (∀ a ∈ t.fp, s.g a = none) := by
  obtain ⟨v, h1, h2, h3⟩ := rp.sl i k x hi
  cases k <;> cases ht
  · exact ⟨v, h1, h2.2.2.2.2, h2.2.2.2.1, h2.2.2.1⟩
  · exact ⟨v, h1, h2.2.2.2, h2.2.2.1, h2.2.1⟩
/-- one place of a slot's tree changed -/
theorem place_core {i : Nat} {k : Kd} {x : Dt} {t u u' : Ot} {p : List Pst} {l : Addr} (rp : Rep K e0 s σ ρ) (hi : ρ[i]? = some (Sl.v k x)) (ht : k.tree = some t) (hp : t.sub p = some u) (hl : u.root = some l) (o : HO)
    (hown : OwT K s.f (upd s.h l o) (.ref l) u') (hnd : u'.fp.Nodup) (hfp : ∀ a ∈ u'.fp, a ∈ u.fp ∨ (s.g a = none ∧ e0.w a = none ∧ ∀ (j : Nat) (k2 : Kd) (y : Dt), ρ[j]? = some (Sl.v k2 y) → a ∉ k2.fp)) :
    Rep K e0 ⟨s.f, s.g, upd s.h l o, upd s.w l o, s.i, s.m⟩ σ (ρ.set i (.v (k.withT (t.put p u')) (t.put p u').dt)) ∧ Ext s ⟨s.f, s.g, upd s.h l o, upd s.w l o, s.i, s.m⟩ := by
  have hkf := tree_fp ht
  obtain ⟨v0, hv0, hT0, hn0, hg0⟩ := rp.tree hi ht
  have hnp : (t.put p u').fp.Nodup := put_nodup hn0 hp hnd fun a ha => (hfp a ha).elim .inl fun z => .inr fun q => z.2.2 i k x hi (hkf ▸ q)
  have hfp' : ∀ a ∈ (t.put p u').fp, a ∈ t.fp ∨ (s.g a = none ∧ e0.w a = none ∧ ∀ (j : Nat) (k2 : Kd) (y : Dt), ρ[j]? = some (Sl.v k2 y) → a ∉ k2.fp) := fun a ha => (put_fp ha).elim .inl fun z => (hfp a z).elim (fun q => .inl (sub_fp hp a q)) .inr
  have hwf : (k.withT (t.put p u')).fp = (t.put p u').fp := by cases k <;> cases ht <;> rfl
  have hnew : ∀ v, OwT K s.f s.h v t → OwT K s.f (upd s.h l o) v (t.put p u') := fun v r => put_ow r hn0 hp hl hown fun a ha hna q h => by
    rw [upd_ne (fun (z : a = l) => hna (by rw [z]; exact root_fp hl))]; exact h
  refine rp.mutK hi (hkf ▸ sub_fp hp l (root_fp hl)) o ?_ (fun a ha => ?_) (fun t2 e => ?_) fun v r => ?_
  · cases k <;> cases ht <;> rfl
  · rw [hwf] at ha
    rcases hfp' a ha with z | z
    · exact .inl (hkf ▸ z)
    · exact .inr z.2.2
  · cases k <;> cases ht
    · cases e
    · cases e
      refine ⟨⟨_, rfl⟩, fun a ha => ?_⟩
      rcases hfp' a ha with z | z
      · exact .inl z
      · exact .inr z.2.1
  · cases k <;> cases ht
    · obtain ⟨r1, r2, r3, r4, r5⟩ := r
      refine ⟨rfl, fun a ha => (hfp' a ha).elim (r2 a) fun z => z.2.1, fun a ha => (hfp' a ha).elim (r3 a) fun z => z.1, hnp, hnew v r5⟩
    · obtain ⟨r1, r3, r4, r5⟩ := r
      exact ⟨rfl, fun a ha => (hfp' a ha).elim (r3 a) fun z => z.1, hnp, hnew v r5⟩
end
end Tq
set_option Elab.async false
set_option linter.all false
set_option autoImplicit false
set_option maxRecDepth 100000
set_option maxHeartbeats 4000000
namespace Tq
open PySem PySem.Spec L2
open PyProof.Rows hiding St
/-! ### places: expressions that name a part of a slot's tree -/
abbrev TPd := DEnv → (Nat → List Pst → Ot → Prop) → Prop
structure VP (X : Cx) (e0 : Hs) (e : Expr) (T : TE) (t : TPd) : Prop where
  pe : PE X e T
  run : ∀ (s : Hs) (σ : St) (ρ : DEnv) (P : Nat → List Pst → Ot → Prop) (Q : VK), Rep X.K e0 s σ ρ → t ρ P →
    (∀ s' i k x t0 p u v, Grow s s' → ρ[i]? = some (Sl.v k x) → k.tree = some t0 → t0.sub p = some u → OwT X.K s'.f s'.h v u → P i p u → Q v s'.w) → T σ s.w Q
def unpt : List Ot → Option (List Dt)
  | [] => some []
  | .pt x :: r => (unpt r).map (x :: ·)
  | _ :: _ => none
theorem unpt_map : ∀ ds : List Dt, unpt (ds.map .pt) = some ds
  | [] => rfl
  | d :: ds => by
    show (unpt (ds.map .pt)).map (d :: ·) = _
    rw [unpt_map ds]; rfl
theorem unpt_eq : ∀ {ts : List Ot} {ds : List Dt}, unpt ts = some ds → ts = ds.map .pt
  | [], ds, h => by cases h; rfl
  | .pt x :: r, ds, h => by
    have h' : (unpt r).map (x :: ·) = some ds := h
    cases e : unpt r with
    | none => rw [e] at h'; cases h'
    | some es =>
      rw [e] at h'
      cases h'
      rw [unpt_eq e]; rfl
  | .lst _ _ :: r, ds, h => by cases h
  | .dct _ _ :: r, ds, h => by cases h
  | .obj _ _ _ :: r, ds, h => by cases h
def leafS (o : Option (List Dt)) (k : List Dt → Prop) : Prop := match o with
  | some ds => k ds
  | none => False
/-- a list of frozen things -/
def leafOf (u : Ot) (k : Addr → List Dt → Prop) : Prop := match u with
  | .lst l ts => leafS (unpt ts) (k l)
  | _ => False
theorem leafOf_leaf {l : Addr} {ds : List Dt} {k : Addr → List Dt → Prop} : leafOf (Ot.leaf l ds) k = k l ds := by
  show leafS (unpt (ds.map .pt)) (k l) = _
  rw [unpt_map]; rfl
theorem leafOf_inv {u : Ot} {k : Addr → List Dt → Prop} (h : leafOf u k) : ∃ l ds, u = Ot.leaf l ds ∧ k l ds := by
  cases u with
  | lst l ts =>
    have h' : leafS (unpt ts) (k l) := h
    cases e : unpt ts with
    | none => rw [e] at h'; exact h'.elim
    | some ds => rw [e] at h'; exact ⟨l, ds, by rw [unpt_eq e]; rfl, h'⟩
  | _ => exact h.elim
def nstOf (u : Ot) (k : Addr → List Ot → Prop) : Prop := match u with
  | .lst l ts => k l ts
  | _ => False
theorem leaf_ow {K : PySem.W.Frag} {F H : Hp} {v : V} {l : Addr} {ds : List Dt} (r : OwT K F H v (Ot.leaf l ds)) : ∃ xs, v = .ref l ∧ H l = some (.lst xs) ∧ RpL K F xs ds := by
  unfold Ot.leaf at r
  cases r with
  | lst h r => exact ⟨_, rfl, h, owtl_leaf.mp r⟩
theorem leaf_root {l : Addr} {ds : List Dt} : (Ot.leaf l ds).root = some l := rfl
theorem sub_snoc : ∀ {p : List Pst} {t u w : Ot} {s : Pst}, t.sub p = some u → u.step s = some w → t.sub (p ++ [s]) = some w
  | [], t, u, w, s, h, h2 => by
    cases h
    show subB (t.step s) (fun v => v.sub []) = some w
    rw [h2]; rfl
  | q :: p, t, u, w, s, h, h2 => by
    obtain ⟨v, h3, h4⟩ := sub_some h
    show subB (t.step q) (fun v => v.sub (p ++ [s])) = some w
    rw [h3]
    exact sub_snoc h4 h2
section
variable {X : Cx} {e0 : Hs} {W : WX} {pos : Pos} {st : Stmt}
def plS (o : Option Sl) (k : Ot → Prop) : Prop := match o with
  | some (.v (.tr t) _) => k t
  | some (.v (.mt t) _) => k t
  | _ => False
theorem plS_inv {o : Option Sl} {k : Ot → Prop} (h : plS o k) : ∃ kd x t, o = some (Sl.v kd x) ∧ kd.tree = some t ∧ k t := by
  unfold plS at h
  split at h
  · exact ⟨_, _, _, rfl, rfl, h⟩
  · exact ⟨_, _, _, rfl, rfl, h⟩
  · exact h.elim
def pName (i : Nat) : TPd := fun ρ P => plS ρ[i]? fun t => P i [] t
theorem vp_name (i : Nat) {x : Str} (h : PE X (.Name x pos) (tVar i)) : VP X e0 (.Name x pos) (tVar i) (pName i) := by
  refine ⟨h, fun s σ ρ P Q rp t k => ?_⟩
  obtain ⟨kd, x, t0, q, ht, hp⟩ := plS_inv t
  obtain ⟨v, h1, h2, h3, h4⟩ := rp.tree q ht
  exact ⟨v, h1, k s i kd x t0 [] t0 v rp.self q ht rfl h2 hp⟩
/-- place.f -/
def fldK (o : Option Ot) (k : Ot → Prop) : Prop := match o with
  | some w => k w
  | none => False
def fldP (C : Addr) (u : Ot) (f : Str) (k : Ot → Prop) : Prop := match u with
  | .obj _ C' fs => C' = C ∧ fldK (fldO fs f) k
  | _ => False
def pFld (C : Addr) (t : TPd) (f : Str) : TPd := fun ρ P => t ρ fun i p u => fldP C u f fun w => P i (p ++ [.fl f]) w
theorem vp_fld {e : Expr} {f : Str} {C : Addr} {T : TE} {t : TPd} (h : VP X e0 e T t) (c : Cls X.K C) (n : NoAttr X.K C f) (hb : attributeBase e f X.env (eval e X.env) = eval e X.env := by rfl) : VP X e0 (.Attribute e f pos) (tFld X.K T f) (pFld C t f) := by
  obtain ⟨pe, r⟩ := h
  refine ⟨pe_fld pe hb, fun s σ ρ P Q rp t k => ?_⟩
  refine r s σ ρ _ _ rp t fun s1 i kd x t0 p u v g1 q ht hp ow t1 => ?_
  cases u <;> first | exact t1.elim | skip
  rename_i l C' fs
  obtain ⟨rfl, t1⟩ := t1
  revert t1
  show fldK (fldO fs f) _ → _
  cases e : fldO fs f with
  | none => exact fun z => z.elim
  | some w =>
    intro t1
    cases ow with
    | obj hq rf =>
      obtain ⟨v', h1, h2⟩ := rf.at e
      exact ⟨l, C', _, _, v', rfl, g1.hw _ _ hq, c, n, h1, k s1 i kd x t0 _ w v' g1 q ht (sub_snoc (s := .fl f) hp e) h2 t1⟩
/-- place[e] -/
def ixP (u : Ot) (y : Dt) (k : Nat → Ot → Prop) : Prop := match u, y with
  | .lst _ ts, .int n => ∃ j w, ixN ts.length n = some j ∧ ts[j]? = some w ∧ k j w
  | _, _ => False
def pIx (t : TPd) (te : TEd) : TPd := fun ρ P => t ρ fun i p u => te ρ fun _ y => ixP u y fun j w => P i (p ++ [.ix j]) w
theorem OwTL.length {K : PySem.W.Frag} {F H : Hp} : ∀ {vs : List V} {ts : List Ot}, OwTL K F H vs ts → vs.length = ts.length
  | _, _, .nil => rfl
  | _, _, .cons _ t => congrArg (· + 1) (OwTL.length t)
theorem vp_ix {e b : Expr} {T Tb : TE} {t : TPd} {tb : TEd} (h : VP X e0 e T t) (hb : VE X e0 b Tb tb) (hs : PlainIx b) : VP X e0 (.Subscript e b pos) (tOp (rIx X.K) T Tb) (pIx t tb) := by
  obtain ⟨pe, r⟩ := h
  obtain ⟨peb, rb⟩ := hb
  refine ⟨pe_ix ix_seq pe peb hs, fun s σ ρ P Q rp t k => ?_⟩
  refine r s σ ρ _ _ rp t fun s1 i kd x t0 p u v g1 q ht hp ow t1 => ?_
  refine rb s1 σ ρ _ (fun y H => rIx X.K v y H Q) (rp.grow g1) t1 fun s2 k2 v2 x2 g2 r2 t2 => ?_
  have ow2 := ow.mono g2.f g2.h
  cases u <;> first | exact t2.elim | skip
  cases x2 <;> first | exact t2.elim | skip
  rename_i l ts n
  obtain ⟨j, w, e1, e2, t2⟩ := t2
  cases r2.isint
  cases ow2 with
  | lst hq rl =>
    obtain ⟨v', h1, h2⟩ := rl.at e2
    refine .inl ⟨l, _, n, v', rfl, rfl, .inl (.inl (g2.hw _ _ hq)), ?_, k s2 i kd x t0 _ w v' (g1.trans g2) q ht (sub_snoc (s := .ix j) hp e2) h2 t2⟩
    unfold L2.atI
    rw [rl.length, e1]
    exact h1
/-! a place read -/
def rdL (o : Option (List Dt)) (u : Ot) (P : DK) : Prop := match o with
  | some ds => P .rd (.lst ds)
  | none => P (.rt u) u.dt
def rdT (u : Ot) (P : DK) : Prop := match u with
  | .pt x => P .fz x
  | .dct l ds => P .rd (.dct ds)
  | .lst l ts => rdL (unpt ts) (.lst l ts) P
  | u => P (.rt u) u.dt
theorem rdT_leaf {l : Addr} {ds : List Dt} {P : DK} : rdT (Ot.leaf l ds) P = P .rd (.lst ds) := by
  show rdL (unpt (ds.map .pt)) _ P = _
  rw [unpt_map]; rfl
theorem rdT_pt {x : Dt} {P : DK} : rdT (.pt x) P = P .fz x := rfl
theorem rdT_dct {l : Addr} {ds : List (Key × Dt)} {P : DK} : rdT (.dct l ds) P = P .rd (.dct ds) := rfl
theorem rdT_obj {l C : Addr} {fs : List (Str × Ot)} {P : DK} : rdT (.obj l C fs) P = P (.rt (.obj l C fs)) (Ot.obj l C fs).dt := rfl
theorem rd_core {K : PySem.W.Frag} {s0 s : Hs} {u : Ot} {v : V} {P : DK} {Q : VK} (g : Grow s0 s) (ow : OwT K s.f s.h v u) (t : rdT u P) (k : ∀ s' k v x, Grow s0 s' → RK K s0.w s' k v x → P k x → Q v s'.w) : Q v s.w := by
  cases u with
  | pt x =>
    cases ow with
    | pt r => exact k s .fz v x g r t
  | dct l ds =>
    cases ow with
    | dct h r => exact k s .rd _ _ g (.inr (.inr ⟨l, _, _, rfl, rfl, h, r⟩)) t
  | lst l ts =>
    have t' : rdL (unpt ts) (.lst l ts) P := t
    cases e : unpt ts with
    | none => rw [e] at t'; exact k s (.rt _) v _ g ⟨rfl, ow⟩ t'
    | some ds =>
      rw [e] at t'
      rw [unpt_eq e] at ow
      obtain ⟨xs, rfl, h, r⟩ := leaf_ow (l := l) ow
      exact k s .rd _ _ g (.inr (.inl ⟨l, xs, ds, rfl, rfl, .inl (.inl h), r⟩)) t'
  | obj l C fs => exact k s (.rt _) v _ g ⟨rfl, ow⟩ t
def eRdP (t : TPd) : TEd := fun ρ P => t ρ fun _ _ u => rdT u P
theorem ve_pl {e : Expr} {T : TE} {t : TPd} (h : VP X e0 e T t) : VE X e0 e T (eRdP t) := by
  obtain ⟨pe, r⟩ := h
  refine ⟨pe, fun s σ ρ P Q rp t k => ?_⟩
  exact r s σ ρ _ _ rp t fun s1 i kd x t0 p u v g1 q ht hp ow t1 => rd_core g1 ow t1 k
/-- .. a list of trees as it is -/
def eRdN (t : TPd) : TEd := fun ρ P => t ρ fun _ _ u => P (.rt u) u.dt
theorem ve_plN {e : Expr} {T : TE} {t : TPd} (h : VP X e0 e T t) : VE X e0 e T (eRdN t) := by
  obtain ⟨pe, r⟩ := h
  refine ⟨pe, fun s σ ρ P Q rp t k => ?_⟩
  exact r s σ ρ _ _ rp t fun s1 i kd x t0 p u v g1 q ht hp ow t1 => k s1 (.rt u) v _ g1 ⟨rfl, ow⟩ t1
/-! what is read as a tree, its part -/
def pRt (u : Ot) (P : DK) : Prop := rdT u P
/-! ### a slot's tree changed at a place -/
def plSet (o : Option Sl) (i : Nat) (p : List Pst) (u : Ot) (ρ : DEnv) : DEnv := match o with
  | some (.v (.tr t) _) => ρ.set i (.v (.tr (t.put p u)) (t.put p u).dt)
  | some (.v (.mt t) _) => ρ.set i (.v (.mt (t.put p u)) (t.put p u).dt)
  | _ => ρ
theorem plSet_eq {ρ : DEnv} {i : Nat} {k : Kd} {x : Dt} {t u : Ot} {p : List Pst} (q : ρ[i]? = some (Sl.v k x)) (ht : k.tree = some t) : plSet ρ[i]? i p u ρ = ρ.set i (.v (k.withT (t.put p u)) (t.put p u).dt) := by
  rw [q]
  cases k <;> cases ht <;> rfl
theorem leaf_upd {K : PySem.W.Frag} {s : Hs} {l : Addr} {xs : List V} {ds : List Dt} (r : RpL K s.f xs ds) : OwT K s.f (upd s.h l (.lst xs)) (.ref l) (Ot.leaf l ds) := .lst upd_same (owtl_leaf.mpr r)
theorem nodup_leaf {l : Addr} {ds : List Dt} : (Ot.leaf l ds).fp.Nodup := by rw [Ot.fp_leaf]; simp
/-- a leaf's list exchanged -/
theorem leaf_core {K : PySem.W.Frag} {s : Hs} {σ : St} {ρ : DEnv} {i : Nat} {k : Kd} {x : Dt} {t : Ot} {p : List Pst} {l : Addr} {ds ds' : List Dt} {xs' : List V} (rp : Rep K e0 s σ ρ) (hi : ρ[i]? = some (Sl.v k x)) (ht : k.tree = some t) (hp : t.sub p = some (Ot.leaf l ds)) (r : RpL K s.f xs' ds') :
    Rep K e0 ⟨s.f, s.g, upd s.h l (.lst xs'), upd s.w l (.lst xs'), s.i, s.m⟩ σ (plSet ρ[i]? i p (Ot.leaf l ds') ρ) ∧ Ext s ⟨s.f, s.g, upd s.h l (.lst xs'), upd s.w l (.lst xs'), s.i, s.m⟩ := by
  rw [plSet_eq hi ht]
  exact place_core rp hi ht hp rfl (.lst xs') (leaf_upd r) nodup_leaf fun a ha => .inl (by rw [Ot.fp_leaf] at ha ⊢; exact ha)
/-- place.append(e): frozen -/
def sAppP (t : TPd) (te : TEd) : TSd := fun D ρ => t ρ fun i p u => leafOf u fun l ds => te ρ fun k x => k.st = true ∧ ds.length < 16777216 ∧ D.nx (plSet ρ[i]? i p (Ot.leaf l (ds ++ [x])) ρ)
theorem vs_appP {o e : Expr} {To Te : TE} {t : TPd} {te : TEd} (ho : VP X e0 o To t) (h : VE X e0 e Te te) (hp : PE X o To → PE X e Te → PS X st (tDrop (tBM X.K "list" rAppend To (tCons Te tNil)))) : VS X e0 W st (sAppP t te) := by
  refine ⟨_, hp ho.pe h.pe, fun s σ ρ D D' rp t l => ?_⟩
  refine ho.run s σ ρ _ _ rp t fun s1 i kd x t0 p u v g1 q ht hpp ow t1 => ?_
  obtain ⟨a, ds, eu, t1'⟩ := leafOf_inv t1
  clear t1
  subst eu
  have t1 := t1'
  obtain ⟨xs, rfl, hx, rx⟩ := leaf_ow ow
  have rp1 := rp.grow g1
  refine ⟨.inl ⟨rfl, _, .inl (.inl (g1.hw _ _ hx))⟩, ?_⟩
  refine h.run s1 σ ρ _ (fun y H => rAppend (.ref a) [y] H fun _ H2 => D.nx σ H2) rp1 t1 fun s2 k2 v2 x2 g2 r2 t2 => ?_
  obtain ⟨hk, hl, t2⟩ := t2
  obtain ⟨s3, g3, e3, w3, f3, p3⟩ := r2.freeze g2 hk
  have rp3 := rp1.grow g3
  have hx3 : s3.h a = some (.lst xs) := g3.h _ _ hx
  rw [← w3]
  refine ⟨a, xs, v2, rfl, rfl, g3.hw _ _ hx3, by rw [rx.length, sizeLine_eq]; exact hl, ?_⟩
  obtain ⟨rp4, x4⟩ := leaf_core rp3 q ht hpp ((rx.mono g3.f).app (.cons p3 .nil))
  exact l.nx _ σ _ rp4 ((g1.trans g3).ext.trans x4) t2
/-- place.append(e): a fresh list, owned -/
def nstK (k : Kd) (x : Dt) (K : Ot → Prop) : Prop := match k, x with
  | .fr, .lst ds => ∀ l, K (Ot.leaf l ds)
  | .ft t, _ => K t
  | _, _ => False
def sAppN (t : TPd) (te : TEd) : TSd := fun D ρ => t ρ fun i p u => nstOf u fun l ts => te ρ fun k x => ts.length < 16777216 ∧ nstK k x fun w => D.nx (plSet ρ[i]? i p (.lst l (ts ++ [w])) ρ)
theorem nst_ft {K : PySem.W.Frag} {B : Hp} {s : Hs} {k : Kd} {v : V} {x : Dt} {Kt : Ot → Prop} (r : RK K B s k v x) (t : nstK k x Kt) : ∃ w, RK K B s (.ft w) v w.dt ∧ Kt w := by
  cases k with
  | fr =>
    cases x with
    | lst ds =>
      obtain ⟨l, rfl, b, n, c⟩ := r
      obtain ⟨xs, h, rx⟩ := c.lst
      refine ⟨Ot.leaf l ds, ⟨rfl, fun a ha => ?_, fun a ha => ?_, nodup_leaf, .lst h (owtl_leaf.mpr rx)⟩, t l⟩
      · rw [Ot.fp_leaf, List.mem_singleton] at ha; rw [ha]; exact b
      · rw [Ot.fp_leaf, List.mem_singleton] at ha; rw [ha]; exact n
    | _ => exact t.elim
  | ft w =>
    obtain ⟨e1, b⟩ := r
    exact ⟨w, ⟨rfl, b⟩, t⟩
  | _ => exact t.elim
theorem OwTL.snoc {K : PySem.W.Frag} {F H : Hp} : ∀ {vs : List V} {ts : List Ot} {v : V} {t : Ot}, OwTL K F H vs ts → OwT K F H v t → OwTL K F H (vs ++ [v]) (ts ++ [t])
  | _, _, _, _, .nil, q => .cons q .nil
  | _, _, _, _, .cons r s, q => .cons r (OwTL.snoc s q)
theorem fps_snoc : ∀ {ts : List Ot} {t : Ot}, Ot.fps (ts ++ [t]) = Ot.fps ts ++ t.fp
  | [], t => by show t.fp ++ [] = [] ++ t.fp; simp
  | w :: ts, t => by show w.fp ++ Ot.fps (ts ++ [t]) = (w.fp ++ Ot.fps ts) ++ t.fp; rw [fps_snoc, List.append_assoc]
theorem vs_appN {o e : Expr} {To Te : TE} {t : TPd} {te : TEd} (ho : VP X e0 o To t) (h : VE X e0 e Te te) (hp : PE X o To → PE X e Te → PS X st (tDrop (tBM X.K "list" rAppend To (tCons Te tNil)))) : VS X e0 W st (sAppN t te) := by
  refine ⟨_, hp ho.pe h.pe, fun s σ ρ D D' rp t l => ?_⟩
  refine ho.run s σ ρ _ _ rp t fun s1 i kd x t0 p u v g1 q ht hpp ow t1 => ?_
  cases u <;> first | exact t1.elim | skip
  rename_i a ts
  cases ow with
  | lst hx rx =>
    rename_i xs
    have rp1 := rp.grow g1
    refine ⟨.inl ⟨rfl, _, .inl (.inl (g1.hw _ _ hx))⟩, ?_⟩
    refine h.run s1 σ ρ _ (fun y H => rAppend (.ref a) [y] H fun _ H2 => D.nx σ H2) rp1 t1 fun s2 k2 v2 x2 g2 r2 t2 => ?_
    obtain ⟨hl, t2⟩ := t2
    obtain ⟨w, ⟨_, b, n, nd, owt⟩, t2⟩ := nst_ft r2 t2
    have rp2 := rp1.grow g2
    have hx2 : s2.h a = some (.lst xs) := g2.h _ _ hx
    have rx2 := rx.keep (H' := s2.h) g2.f fun c _ o q => g2.h c o q
    refine ⟨a, xs, v2, rfl, rfl, g2.hw _ _ hx2, by rw [rx.length, sizeLine_eq]; exact hl, ?_⟩
    obtain ⟨v0, hv0, hT0, hn0, hg0⟩ := rp2.tree q ht
    have hsub := sub_fp hpp
    have hap : ∀ c ∈ w.fp, ∀ (j : Nat) (k2 : Kd) (y : Dt), ρ[j]? = some (Sl.v k2 y) → c ∉ k2.fp := fun c hc j k2 y qq => rp1.apart (b c hc) qq
    have hna : ∀ c ∈ w.fp, c ∉ t0.fp := fun c hc hq => hap c hc i kd x q (tree_fp ht ▸ hq)
    have hul : ∀ c ∈ (a :: Ot.fps ts), c ∈ t0.fp := hsub
    have hnu : (a :: Ot.fps ts).Nodup := by
      have := put_nodup (u' := .lst a ts) hn0 hpp
      obtain ⟨v', ow'⟩ := hT0.subT hpp
      -- the part's own places are once each
      exact sub_nodup hn0 hpp
    obtain ⟨rp3, x3⟩ := place_core (u' := .lst a (ts ++ [w])) rp2 q ht hpp rfl (.lst (xs ++ [v2]))
      (.lst upd_same (OwTL.snoc (rx2.keep (Same.refl _) fun c hc o qq => by
        rw [upd_ne (fun (z : c = a) => (List.nodup_cons.mp hnu).1 (by rw [← z]; exact hc))]; exact qq)
        (owt.keep (Same.refl _) fun c hc o qq => by rw [upd_ne (fun (z : c = a) => hna c hc (by rw [z]; exact hul a List.mem_cons_self))]; exact qq)))
      (by
        show (a :: Ot.fps (ts ++ [w])).Nodup
        rw [fps_snoc]
        have h1 := List.nodup_cons.mp hnu
        refine List.nodup_cons.mpr ⟨fun z => ?_, List.nodup_append.mpr ⟨h1.2, nd, fun c hc d hd e => ?_⟩⟩
        · rcases List.mem_append.mp z with z | z
          · exact h1.1 z
          · exact hna a z (hul a List.mem_cons_self)
        · subst e; exact hna c hd (hul c (List.mem_cons_of_mem _ hc)))
      (fun c hc => by
        have hc' : c ∈ a :: Ot.fps (ts ++ [w]) := hc
        rw [fps_snoc] at hc'
        rcases List.mem_cons.mp hc' with z | z
        · exact .inl (by rw [z]; exact List.mem_cons_self)
        · rcases List.mem_append.mp z with z | z
          · exact .inl (List.mem_cons_of_mem _ z)
          · exact .inr ⟨n c z, rp.rh.ewn (g1.nw (b c z)), hap c z⟩)
    have := l.nx _ σ _ rp3 ((g1.trans g2).ext.trans x3)
    rw [← plSet_eq q ht] at this
    exact this t2
where sub_nodup : ∀ {p : List Pst} {t u : Ot}, t.fp.Nodup → t.sub p = some u → u.fp.Nodup
  | [], t, u, hn, h => by cases h; exact hn
  | s :: p, t, u, hn, h => by
    obtain ⟨w, h1, h2⟩ := sub_some h
    exact sub_nodup (step_nodup hn h1) h2
/-- place[e] = v of a leaf -/
def ixS (o : Option Nat) (k : Nat → Prop) : Prop := match o with
  | some j => k j
  | none => False
def ixZ (y : Dt) (n : Nat) (k : Nat → Prop) : Prop := match y with
  | .int z => ixS (ixN n z) k
  | _ => False
theorem ixZ_inv {y : Dt} {n : Nat} {k : Nat → Prop} (h : ixZ y n k) : ∃ z j, y = .int z ∧ ixN n z = some j ∧ k j := by
  cases y <;> first | exact h.elim | skip
  rename_i z
  have h' : ixS (ixN n z) k := h
  cases e : ixN n z with
  | none => rw [e] at h'; exact h'.elim
  | some j => rw [e] at h'; exact ⟨z, j, rfl, e, h'⟩
def sSetIxP (t : TPd) (tix te : TEd) : TSd := fun D ρ => te ρ fun k x => k.st = true ∧ t ρ fun i p u => leafOf u fun l ds => tix ρ fun _ y => ixZ y ds.length fun j => D.nx (plSet ρ[i]? i p (Ot.leaf l (ds.set j x)) ρ)
theorem vs_setIxP {o e ie : Expr} {To Te Ti : TE} {t : TPd} {te tix : TEd} (ho : VP X e0 o To t) (h : VE X e0 e Te te) (h' : VE X e0 ie Ti tix) (hp : PE X o To → PE X e Te → PE X ie Ti → PS X st (tAsg Te (gSub To Ti rSetL))) : VS X e0 W st (sSetIxP t tix te) := by
  refine ⟨_, hp ho.pe h.pe h'.pe, fun s σ ρ D D' rp t l => ?_⟩
  refine h.run s σ ρ _ (fun v H => gSub To Ti rSetL v σ H D.nx) rp t fun s1 k1 v1 x1 g1 r1 t1 => ?_
  obtain ⟨hk, t1⟩ := t1
  obtain ⟨s2, g2, e2, w2, f2, p2⟩ := r1.freeze g1 hk
  have rp2 := rp.grow g2
  rw [← w2]
  refine ho.run s2 σ ρ _ _ rp2 t1 fun s3 i kd x t0 p u v g3 q ht hpp ow t3 => ?_
  obtain ⟨a, ds, eu, t3'⟩ := leafOf_inv t3
  clear t3
  subst eu
  have t3 := t3'
  obtain ⟨xs, rfl, hx, rx⟩ := leaf_ow ow
  have rp3 := rp2.grow g3
  refine h'.run s3 σ ρ _ (fun iv H => rSetL (.ref a) iv v1 H fun H3 => D.nx σ H3) rp3 t3 fun s4 k4 v4 x4 g4 r4 t4 => ?_
  obtain ⟨z, j, rfl, hj, t4⟩ := ixZ_inv t4
  cases r4.isint
  have rp4 := rp3.grow g4
  have hx4 : s4.h a = some (.lst xs) := g4.h _ _ hx
  refine ⟨a, xs, z, j, rfl, rfl, g4.hw _ _ hx4, by rw [rx.length]; exact hj, ?_⟩
  obtain ⟨rp5, x5⟩ := leaf_core rp4 q ht hpp (RpL.set (p2.mono (g3.trans g4).f) j (rx.mono g4.f))
  exact l.nx _ σ _ rp5 ((g2.trans (g3.trans g4)).ext.trans x5) t4
/-- x = e, owned as a tree -/
def storT (i : Nat) (D : DEnv → Prop) (ρ : DEnv) (k : Kd) (x : Dt) : Prop := match k, x with
  | .fr, .lst ds => ∀ l, D (ρ.set i (.v (.tr (Ot.leaf l ds)) (.lst ds)))
  | .ft t, _ => D (ρ.set i (.v (.tr t) t.dt))
  | _, _ => False
def sSetT (i : Nat) (te : TEd) : TSd := fun D ρ => te ρ fun k x => storT i D.nx ρ k x
theorem vs_setT {i : Nat} {e : Expr} {T : TE} {te : TEd} (h : VE X e0 e T te) (hp : PE X e T → PS X st (tAsg T (gName i))) : VS X e0 W st (sSetT i te) := by
  refine ⟨_, hp h.pe, fun s σ ρ D D' rp t l => ?_⟩
  refine h.run s σ ρ _ (fun v H => gName i v σ H D.nx) rp t fun s1 k1 v1 x1 g1 r1 t1 => ?_
  have key : ∃ w, RK X.K s.w s1 (.ft w) v1 w.dt ∧ D'.nx (ρ.set i (.v (.tr w) w.dt)) := by
    cases k1 with
    | fr =>
      cases x1 with
      | lst ds =>
        obtain ⟨a, rfl, b, n, c⟩ := r1
        obtain ⟨xs, hx, rx⟩ := c.lst
        refine ⟨Ot.leaf a ds, ⟨rfl, fun c hc => ?_, fun c hc => ?_, nodup_leaf, .lst hx (owtl_leaf.mpr rx)⟩, by rw [Ot.dt_leaf]; exact t1 a⟩
        · rw [Ot.fp_leaf, List.mem_singleton] at hc; rw [hc]; exact b
        · rw [Ot.fp_leaf, List.mem_singleton] at hc; rw [hc]; exact n
      | _ => exact t1.elim
    | ft w =>
      obtain ⟨e1, b⟩ := r1
      exact ⟨w, ⟨rfl, b⟩, t1⟩
    | _ => exact t1.elim
  obtain ⟨w, rw_, t2⟩ := key
  exact stor_ok (Q := fun σ H => D.nx σ H) (i := i) (D := D'.nx) (k := .ft w) rp g1 rw_ t2 fun ρ' rp' q => l.nx s1 _ ρ' rp' g1.ext q
/-- return x, a leaf -/
def retL (o : Option Sl) (P : DK) : Prop := match o with
  | some (.v (.tr t) _) => leafOf t fun _ ds => P .fr (.lst ds)
  | _ => False
def sRetL (i : Nat) : TSd := fun D ρ => retL ρ[i]? (D.rtm ρ)
theorem vs_retL (i : Nat) {x : Str} {p : Pos} (h : PE X (.Name x p) (tVar i)) : VS X e0 W (.Return (some (.Name x p)) pos) (sRetL i) := by
  refine ⟨_, ps_ret h, fun s σ ρ D D' rp t l => ?_⟩
  unfold sRetL retL at t
  split at t
  · rename_i w y q
    obtain ⟨a, ds, eu, t'⟩ := leafOf_inv t
    clear t
    subst eu
    have t := t'
    obtain ⟨v, h1, ⟨e1, b, n, nd, ow⟩, h3⟩ := rp.sl i _ y q
    obtain ⟨xs, rfl, hx, rx⟩ := leaf_ow ow
    refine ⟨_, h1, ?_⟩
    refine l.rt s σ ρ .fr _ _ rp (Ext.refl s) ⟨a, rfl, b a (by rw [Ot.fp_leaf]; simp), n a (by rw [Ot.fp_leaf]; simp), .inl ⟨xs, ds, rfl, hx, rx⟩⟩ (fun c hc j t' y' q' => ?_) t
    have hc' : c = a := by simpa [rfp] using hc
    rw [hc']
    exact rp.dj i j _ _ y y' q q' (fun z => by subst z; rw [q] at q'; cases q') a (by show a ∈ (Ot.leaf a ds).fp; rw [Ot.fp_leaf]; simp)
  · exact t.elim
end
end Tq
set_option Elab.async false
set_option linter.all false
set_option autoImplicit false
set_option maxRecDepth 100000
set_option maxHeartbeats 4000000
namespace Tq
open PySem PySem.Spec L2
open PyProof.Rows hiding St
section
variable {X : Cx} {e0 : Hs} {W : WX} {pos : Pos} {st : Stmt}
/-! ### {k: v} -/
def disp1K (o : Option Key) (y : Dt) (P : DK) : Prop := match o with
  | some k => P .fr (.dct [(k, y)])
  | none => False
def eDisp1 (tk tv : TEd) : TEd := fun ρ P => tk ρ fun k x => tv ρ fun k' y => k.lf = true ∧ k'.st = true ∧ disp1K (keyD x) y P
theorem ve_disp1 {k v : Expr} {Tk Tv : TE} {tk tv : TEd} (hk : VE X e0 k Tk tk) (hv : VE X e0 v Tv tv) : VE X e0 (.Dict [some k] [v] pos) (tDisp [(Tk, Tv)]) (eDisp1 tk tv) := by
  obtain ⟨pek, rk⟩ := hk
  obtain ⟨pev, rv⟩ := hv
  refine ⟨pe_disp (pps_cons pek pev pps_nil) (by rfl) (by rfl) (fun z => by cases z) (by show 1 ≤ 15; decide), fun s σ ρ P Q rp t k => ?_⟩
  intro p hp
  -- the dict at p stands, empty, while key and value are asked
  have g0 := (Grow.refl rp.rh).new (p := p) (o := .dK []) hp
  have rp0 := rp.grow g0
  refine rk _ σ ρ _ _ rp0 t fun s1 k1 v1 x1 g1 r1 t1 => ?_
  have rp1 := rp0.grow g1
  refine rv s1 σ ρ _ _ rp1 t1 fun s2 k2 v2 x2 g2 r2 t2 => ?_
  obtain ⟨hk1, hk2, t2⟩ := t2
  obtain ⟨s3, g3, e3, w3, f3, p3⟩ := r2.freeze g2 hk2
  have g03 := g0.trans (g1.trans g3)
  have hp3 : s3.h p = some (.dK []) := (g1.trans g3).h p _ upd_same
  have hg0 : ((s.new p (.dK [])).g p) = none := Same.free rp.rh.gw hp
  have hg3 : s3.g p = none := ((g1.trans g3).ng p (by show upd s.w p _ p ≠ none; rw [upd_same]; exact fun z => nomatch z)).trans hg0
  rw [← w3]
  refine ⟨g3.hw _ _ hp3, ?_⟩
  revert t2
  show disp1K (keyD x1) x2 P → _
  cases e : keyD x1 with
  | none => exact fun z => z.elim
  | some key =>
    intro t2
    have ek := (r1.rq rp1.rh hk1).key e
    refine ⟨[(key, v2)], by rw [ek]; rfl, by show 1 ≤ 15; decide, ?_⟩
    have em : mergeK [] [(key, v2)] = [(key, v2)] := rfl
    rw [em]
    have hn : s.h p = none := Same.free rp.rh.hw hp
    have g4 : Grow s ⟨s3.f, s3.g, upd s3.h p (.dK [(key, v2)]), upd s3.w p (.dK [(key, v2)]), s3.i, s3.m⟩ := by
      refine ⟨g03.f, g03.g, fun a o q => ?_, g03.fg, fun a o q => ?_, Same.upd g03.hw, g03.nf, g03.ng, fun a h => upd_some (g03.w a h), g03.w0, g03.iv.upd (g03.iv.known (ne_none hp3)), g03.i⟩
      · show upd s3.h p _ a = some o
        rw [upd_ne (ne_of_none q hn)]
        exact g03.h a o q
      · show upd s3.h p _ a = some o
        rw [upd_ne (ne_of_none q hg3)]
        exact g03.gh a o q
    exact k _ .fr _ _ g4 ⟨p, rfl, hp, hg3, .inr ⟨[(key, v2)], [(key, x2)], rfl, upd_same, .cons p3 .nil⟩⟩ t2
/-! ### list(..), len(..) of dicts too -/
def keyDt : Key → Dt
  | .inl i => .int i
  | .inr z => .str z
theorem RpK.klist {K : PySem.W.Frag} {F : Hp} : ∀ {vs : List (Key × V)} {ds : List (Key × Dt)}, RpK K F vs ds → RpL K F (vs.map fun kv => kV kv.1) (ds.map fun kv => keyDt kv.1)
  | _, _, .nil => .nil
  | _, _, .cons (k := k) r t => by
    rw [List.map_cons, List.map_cons]
    refine .cons ?_ (RpK.klist t)
    cases k with
    | inl i => exact .int i
    | inr z => exact .str z
def bList2 : List (Kd × Dt) → DK → Prop := fun as P => match as with
  | [(_, .lst ds)] => P .fr (.lst ds)
  | [(_, .tup ds)] => P .fr (.lst ds)
  | [(_, .dct ds)] => P .fr (.lst (ds.map fun kv => keyDt kv.1))
  | _ => False
def rList2 (K : PySem.W.Frag) : List V → Hp → VK → Prop := fun xs H Q => Tq.rListD K xs H Q ∨ L2.rListD xs H Q
theorem vc_list2 (hc : X.calm = true) : VCall X (.type "list") (rList2 X.K) bList2 := by
  refine ⟨(vc_list (X := X)).pe.or (call_list_dK hc), fun s0 s vs as P Q g ar hlf d k => ?_⟩
  match as, ar, hlf, d with
  | [(_, .lst ds)], ar, hlf, d => exact .inl ((vc_list (X := X)).run s0 s vs [(_, .lst ds)] P Q g ar hlf d k)
  | [(_, .tup ds)], ar, hlf, d => exact .inl ((vc_list (X := X)).run s0 s vs [(_, .tup ds)] P Q g ar hlf d k)
  | [(_, .dct ds)], ar, hlf, d =>
    obtain ⟨v, rfl, q⟩ := ar.one hlf
    obtain ⟨a, kvs, rfl, h, r⟩ := Rq.dct g.fw g.hw q
    refine .inr ⟨a, kvs, rfl, h, fun l hl => ?_⟩
    obtain ⟨gg, rr⟩ := fresh_new g hl r.klist rfl
    exact k _ .fr _ _ gg rr d
theorem vc_list2K {K : PySem.W.Frag} (hK : X.K = K) (hc : X.calm = true) : VCall X (.type "list") (rList2 K) bList2 := by subst hK; exact vc_list2 hc
theorem bList2_lst {k : Kd} {ds : List Dt} {P : DK} : bList2 [(k, .lst ds)] P = P .fr (.lst ds) := rfl
theorem bList2_tup {k : Kd} {ds : List Dt} {P : DK} : bList2 [(k, .tup ds)] P = P .fr (.lst ds) := rfl
theorem bList2_dct {k : Kd} {ds : List (Key × Dt)} {P : DK} : bList2 [(k, .dct ds)] P = P .fr (.lst (ds.map fun kv => keyDt kv.1)) := rfl
/-! ### max, min, all, any of a list -/
def bMaxL : List (Kd × Dt) → DK → Prop := fun as P => match as with
  | [(_, .lst ds)] => ∃ ns : List Int, ds = ns.map Dt.int ∧ 0 < ns.length ∧ ∀ m, m ∈ ns → (∀ y, y ∈ ns → y ≤ m) → P .fz (.int m)
  | _ => False
theorem vc_maxL (hc : X.calm = true) : VCall X (.builtin "max") (rMax X.K) bMaxL := by
  refine ⟨cr_max hc, fun s0 s vs as P Q g ar hlf d k => ?_⟩
  match as, ar, hlf, d with
  | [(_, .lst ds)], ar, hlf, d =>
    obtain ⟨ns, e, h0, d⟩ := d
    obtain ⟨v, rfl, q⟩ := ar.one hlf
    obtain ⟨a, xs, rfl, h, r⟩ := Rq.lst g.fw g.hw q
    have e2 := r.to_ints e
    subst e2
    exact ⟨a, ns, rfl, h, h0, fun m h1 h2 => k s .fz _ _ g (.int _) (d m h1 h2)⟩
def bMinL : List (Kd × Dt) → DK → Prop := fun as P => match as with
  | [(_, .lst ds)] => ∃ ns : List Int, ds = ns.map Dt.int ∧ 0 < ns.length ∧ ∀ m, m ∈ ns → (∀ y, y ∈ ns → m ≤ y) → P .fz (.int m)
  | _ => False
theorem vc_minL (hc : X.calm = true) : VCall X (.builtin "min") (rMin X.K) bMinL := by
  refine ⟨cr_min hc, fun s0 s vs as P Q g ar hlf d k => ?_⟩
  match as, ar, hlf, d with
  | [(_, .lst ds)], ar, hlf, d =>
    obtain ⟨ns, e, h0, d⟩ := d
    obtain ⟨v, rfl, q⟩ := ar.one hlf
    obtain ⟨a, xs, rfl, h, r⟩ := Rq.lst g.fw g.hw q
    have e2 := r.to_ints e
    subst e2
    exact ⟨a, ns, rfl, h, h0, fun m h1 h2 => k s .fz _ _ g (.int _) (d m h1 h2)⟩
theorem RpL.to_bls {K : PySem.W.Frag} {F : Hp} : ∀ {vs : List V} {bs : List Bool}, RpL K F vs (bs.map Dt.bl) → vs = bs.map V.bl
  | _, [], .nil => rfl
  | _, b :: bs, .cons (.bl _) t => by rw [RpL.to_bls t]; rfl
def bAll : List (Kd × Dt) → DK → Prop := fun as P => match as with
  | [(_, .lst ds)] => ∃ bs : List Bool, ds = bs.map Dt.bl ∧ P .fz (.bl (bs.all id))
  | _ => False
theorem vc_all (hc : X.calm = true) : VCall X (.builtin "all") (rAll X.K) bAll := by
  refine ⟨cr_all hc, fun s0 s vs as P Q g ar hlf d k => ?_⟩
  match as, ar, hlf, d with
  | [(_, .lst ds)], ar, hlf, d =>
    obtain ⟨ns, e, d⟩ := d
    obtain ⟨v, rfl, q⟩ := ar.one hlf
    obtain ⟨a, xs, rfl, h, r⟩ := Rq.lst g.fw g.hw q
    subst e
    rw [r.to_bls] at h
    exact ⟨a, ns, rfl, h, k s .fz _ _ g (.bl _) d⟩
def bAny : List (Kd × Dt) → DK → Prop := fun as P => match as with
  | [(_, .lst ds)] => ∃ bs : List Bool, ds = bs.map Dt.bl ∧ P .fz (.bl (bs.any id))
  | _ => False
theorem vc_any (hc : X.calm = true) : VCall X (.builtin "any") (rAny X.K) bAny := by
  refine ⟨cr_any hc, fun s0 s vs as P Q g ar hlf d k => ?_⟩
  match as, ar, hlf, d with
  | [(_, .lst ds)], ar, hlf, d =>
    obtain ⟨ns, e, d⟩ := d
    obtain ⟨v, rfl, q⟩ := ar.one hlf
    obtain ⟨a, xs, rfl, h, r⟩ := Rq.lst g.fw g.hw q
    subst e
    rw [r.to_bls] at h
    exact ⟨a, ns, rfl, h, k s .fz _ _ g (.bl _) d⟩
theorem vc_maxLK {K : PySem.W.Frag} (hK : X.K = K) (hc : X.calm = true) : VCall X (.builtin "max") (rMax K) bMaxL := by subst hK; exact vc_maxL hc
theorem vc_minLK {K : PySem.W.Frag} (hK : X.K = K) (hc : X.calm = true) : VCall X (.builtin "min") (rMin K) bMinL := by subst hK; exact vc_minL hc
theorem vc_allK {K : PySem.W.Frag} (hK : X.K = K) (hc : X.calm = true) : VCall X (.builtin "all") (rAll K) bAll := by subst hK; exact vc_all hc
theorem vc_anyK {K : PySem.W.Frag} (hK : X.K = K) (hc : X.calm = true) : VCall X (.builtin "any") (rAny K) bAny := by subst hK; exact vc_any hc
theorem bMaxL_lst {k : Kd} {ds : List Dt} {P : DK} : bMaxL [(k, .lst ds)] P = ∃ ns : List Int, ds = ns.map Dt.int ∧ 0 < ns.length ∧ ∀ m, m ∈ ns → (∀ y, y ∈ ns → y ≤ m) → P .fz (.int m) := rfl
theorem bMinL_lst {k : Kd} {ds : List Dt} {P : DK} : bMinL [(k, .lst ds)] P = ∃ ns : List Int, ds = ns.map Dt.int ∧ 0 < ns.length ∧ ∀ m, m ∈ ns → (∀ y, y ∈ ns → m ≤ y) → P .fz (.int m) := rfl
theorem bAll_lst {k : Kd} {ds : List Dt} {P : DK} : bAll [(k, .lst ds)] P = ∃ bs : List Bool, ds = bs.map Dt.bl ∧ P .fz (.bl (bs.all id)) := rfl
theorem bAny_lst {k : Kd} {ds : List Dt} {P : DK} : bAny [(k, .lst ds)] P = ∃ bs : List Bool, ds = bs.map Dt.bl ∧ P .fz (.bl (bs.any id)) := rfl
/-! ### len of a place -/
def lenT (u : Ot) (P : DK) : Prop := match u with
  | .lst _ ts => P .fz (.int (ts.length : Nat))
  | _ => False
theorem lenT_lst {l : Addr} {ts : List Ot} {P : DK} : lenT (.lst l ts) P = P .fz (.int (ts.length : Nat)) := rfl
theorem lenT_leaf {l : Addr} {ds : List Dt} {P : DK} : lenT (Ot.leaf l ds) P = P .fz (.int (ds.length : Nat)) := by
  show P .fz (.int ((ds.map Ot.pt).length : Nat)) = _
  rw [List.length_map]
def eLenP (t : TPd) : TEd := fun ρ P => t ρ fun _ _ u => lenT u P
theorem ve_lenP {o : Expr} {p : Pos} {T : TE} {t : TPd} {K : PySem.W.Frag} (hK : X.K = K) (h : VP X e0 o T t) (hg : Gl X "len") (hm : X.mg "len" = none) (he : starEach [o] X.env = (false, eval o X.env) :: starEach [] X.env := by rfl) :
    VE X e0 (.Call (.Name "len" p) [o] [] pos) (tCB (rLenD K) (tCons T tNil)) (eLenP t) := by
  subst hK
  obtain ⟨pe, r⟩ := h
  refine ⟨pe_callB (call_len_seq.or call_len_str) hg hm PySem.boot_len (pa_cons pe pa_nil he) (by decide) (by decide) he (by rfl), fun s σ ρ P Q rp t k => ?_⟩
  refine r s σ ρ _ (fun v H => rLenD X.K [v] H Q) rp t fun s1 i kd x t0 p u v g1 q ht hp ow t1 => ?_
  cases u <;> first | exact t1.elim | skip
  cases ow with
  | lst hq rl =>
    refine .inl ⟨_, _, rfl, .inl (.inl (.inl (g1.hw _ _ hq))), ?_⟩
    rw [rl.length]
    exact k s1 .fz _ _ g1 (.int _) t1
end
end Tq
set_option Elab.async false
set_option linter.all false
set_option autoImplicit false
set_option maxRecDepth 100000
set_option maxHeartbeats 4000000
namespace Tq
open PySem PySem.Spec L2
open PyProof.Rows hiding St
section
variable {X : Cx} {e0 : Hs} {W : WX} {pos : Pos} {st : Stmt}
/-! ### comprehensions whose items stay owned -/
def eLcN (it : TId) (g : TGd) (te : TEd) (vs : List Nat) : TEd := fun ρ P => it ρ fun xs => xs.length ≤ 16777216 ∧ ∃ W : Nat → List Ot → Prop, W 0 [] ∧
  (∀ i x acc, xs[i]? = some x → W i acc → g x (wipeD ρ vs) fun ρ1 => te ρ1 fun k y => nstK k y fun w => W (i + 1) (acc ++ [w])) ∧
  ∀ acc, W xs.length acc → ∀ l, P (.ft (.lst l acc)) (Ot.lst l acc).dt
theorem tyT {σ : St} {H : Hp} {f g : Hp → Prop} (h : f H) : tYes σ H (fun b H3 => if b = true then f H3 else g H3) := by
  show (if true = true then f H else g H)
  rw [if_pos rfl]
  exact h
theorem lcN_core {s s1 : Hs} {σ : St} {ρ : DEnv} {vs : List Nat} {J : It} {xs : List Dt} {T : TG} {g : TGd} {E : TE} {te : TEd} {P : DK} {Q : VK} (rp : Rep X.K e0 s σ ρ) (g1 : Grow s s1) (it : ItG X.K s1 J xs)
    (ho : OwnTg T vs) (rg : ∀ (s : Hs) (σ : St) (ρ : DEnv) (v : V) (x : Dt) (P : DEnv → Prop) (Q : St → Hp → Prop), Rep X.K e0 s σ ρ → Rp X.K s.f v x → g x ρ P → (∀ σ' ρ', Rep X.K e0 s σ' ρ' → P ρ' → Q σ' s.w) → T v σ s.w Q)
    (re : ∀ (s : Hs) (σ : St) (ρ : DEnv) (P : DK) (Q : VK), Rep X.K e0 s σ ρ → te ρ P → (∀ s' k v x, Grow s s' → RK X.K s.w s' k v x → P k x → Q v s'.w) → E σ s.w Q)
    (hl : xs.length ≤ 16777216) (W : Nat → List Ot → Prop) (h0 : W 0 [])
    (hs : ∀ i x acc, xs[i]? = some x → W i acc → g x (wipeD ρ vs) fun ρ1 => te ρ1 fun k y => nstK k y fun w => W (i + 1) (acc ++ [w]))
    (hd : ∀ acc, W xs.length acc → ∀ l, P (.ft (.lst l acc)) (Ot.lst l acc).dt) (k : ∀ s' k v x, Grow s s' → RK X.K s.w s' k v x → P k x → Q v s'.w) {D : Addr} (hD : s1.w D = none) :
    ∃ W : Nat → Nat → Hp → Prop, (∃ m, W 0 m (upd s1.w D (.lst []))) ∧ ∀ i m H, W i m H →
      (J.stop i H ∧ Q (.ref D) H) ∨ (J.go i H ∧ ∃ Nx : Hp → Prop, (∀ H', Nx H' → ∃ m', m' < m ∧ W (i + 1) m' H') ∧ ∀ x H', J.yld i H x H' → T x (wipe σ vs) H' fun σ2 H2 => wipe σ2 vs = wipe σ vs ∧ tYes σ2 H2 fun b H3 =>
        if b = true then E σ2 H3 fun y H4 => ∃ acc, H4 D = some (.lst acc) ∧ acc.length < sizeLine ∧ Nx (upd H4 D (.lst (acc ++ [y]))) else Nx H3) := by
  obtain ⟨G, Y, wk, hG, hY⟩ := it
  have hDs : s.w D = none := g1.nw hD
  have hDh : s1.h D = none := Same.free g1.hw hD
  have hD0 : s.h D = none := Same.free g1.w0 hDs
  refine lc_it (Qd := fun H => Q (.ref D) H) wk (fun i H => ∃ (s' : Hs) (acc : List Ot) (ys : List V), s'.w = H ∧ Grow s s' ∧ Grow s1 s' ∧ s'.g D = none ∧ s'.h D = some (.lst ys) ∧ OwTL X.K s'.f s'.h ys acc ∧ acc.length ≤ i ∧ W i acc ∧
      (Ot.fps acc).Nodup ∧ ∀ a ∈ Ot.fps acc, s.w a = none ∧ s'.g a = none ∧ a ≠ D)
    ⟨s1.new D (.lst []), [], [], rfl, g1.new hD, (Grow.refl (rp.rh.grow g1)).new hD, Same.free g1.gh hDh, upd_same, .nil, Nat.le_refl _, h0, List.nodup_nil, fun a ha => by cases ha⟩
    (fun i H hi ⟨s', acc, ys, e, g, x, _⟩ => by rw [← e]; exact hG s' x) ?_ ?_
  · rintro i y H H' hi ⟨s', acc, ys, rfl, g', x', n', h', r', l', w', nd', fp'⟩ hy
    have rp' := rp.grow g'
    obtain ⟨x, hx⟩ : ∃ x, xs[i]? = some x := ⟨xs[i], List.getElem?_eq_getElem hi⟩
    obtain ⟨s3, g3, e3, r3⟩ := hY s' i y H' x x' hx hy
    subst e3
    refine ho _ _ _ _ ?_
    refine rg s3 _ (wipeD ρ vs) y x _ _ ((rp'.grow g3).wipe vs) r3 (hs i x acc hx w') fun σ4 ρ4 rp4 t4 => ?_
    refine tyT ?_
    refine re s3 σ4 ρ4 _ _ rp4 t4 fun s6 k6 v6 x6 g6 r6 t6 => ?_
    obtain ⟨w, ⟨_, b6, n6, nd6, ow6⟩, t6⟩ := nst_ft r6 t6
    have g36 := g3.trans g6
    have h6 : s6.h D = some (.lst ys) := g36.h _ _ h'
    have hwD : s'.w D ≠ none := Same.some_ne rp'.rh.hw (ne_none h')
    have n6D : s6.g D = none := (g36.ng D hwD).trans n'
    have hwDn : ∀ a ∈ w.fp, a ≠ D := fun a ha z => by
      have := g3.nw (b6 a ha)
      rw [z] at this
      exact hwD this
    have old : ∀ a ∈ Ot.fps acc, s3.w a ≠ none := fun a ha => g3.w a (Same.some_ne rp'.rh.hw (r'.there a ha))
    have r6' : OwTL X.K s6.f s6.h ys acc := r'.keep g36.f fun a _ o q => g36.h a o q
    refine ⟨ys, g6.hw _ _ h6, by rw [r'.length, sizeLine_eq]; omega, ?_⟩
    have up : ∀ {s9 : Hs}, Grow s9 s6 → s9.h D = none → Grow s9 ⟨s6.f, s6.g, upd s6.h D (.lst (ys ++ [v6])), upd s6.w D (.lst (ys ++ [v6])), s6.i, s6.m⟩ := fun gg hn => by
      refine ⟨gg.f, gg.g, fun a o q => ?_, gg.fg, fun a o q => ?_, Same.upd gg.hw, gg.nf, gg.ng, fun a h => upd_some (gg.w a h), gg.w0, gg.iv.upd (gg.iv.known (ne_none h6)), gg.i⟩
      · show upd s6.h D _ a = some o
        rw [upd_ne (ne_of_none q hn)]
        exact gg.h a o q
      · show upd s6.h D _ a = some o
        rw [upd_ne (ne_of_none q n6D)]
        exact gg.gh a o q
    refine ⟨_, acc ++ [w], ys ++ [v6], rfl, up (g'.trans g36) hD0, up (x'.trans g36) hDh, n6D, upd_same, ?_, by rw [List.length_append, List.length_singleton]; omega, t6, ?_, fun a ha => ?_⟩
    · exact OwTL.snoc (r6'.keep (Same.refl _) fun a ha o q => by show upd s6.h D _ a = some o; rw [upd_ne (fp' a ha).2.2]; exact q) (ow6.keep (Same.refl _) fun a ha o q => by show upd s6.h D _ a = some o; rw [upd_ne (hwDn a ha)]; exact q)
    · rw [fps_snoc, List.nodup_append]
      refine ⟨nd', nd6, fun a ha b hb e => ?_⟩
      subst e
      exact old a ha (b6 a hb)
    · rw [fps_snoc] at ha
      rcases List.mem_append.mp ha with z | z
      · obtain ⟨f1, f2, f3⟩ := fp' a z
        exact ⟨f1, (g36.ng a (Same.some_ne rp'.rh.hw (r'.there a z))).trans f2, f3⟩
      · exact ⟨g'.nw (g3.nw (b6 a z)), n6 a z, hwDn a z⟩
  · rintro H ⟨s', acc, ys, rfl, g', x', n', h', r', l', w', nd', fp'⟩
    refine k s' (.ft (.lst D acc)) _ _ g' ⟨rfl, fun a ha => ?_, fun a ha => ?_, ?_, .lst h' r'⟩ (hd acc w' D)
    · rcases List.mem_cons.mp ha with z | z
      · rw [z]; exact hDs
      · exact (fp' a z).1
    · rcases List.mem_cons.mp ha with z | z
      · rw [z]; exact n'
      · exact (fp' a z).2.1
    · exact List.nodup_cons.mpr ⟨fun z => (fp' D z).2.2 rfl, nd'⟩
theorem ve_lcN {tg elt iter : Expr} {scope : Scope} {own : List (Str × Nat)} {vs : List Nat} {w : TI} {it : TId} {T : TG} {g : TGd} {E : TE} {te : TEd} (hc : X.calm = true) (hN : X.N.Nodup) (hi : VJ X e0 tg iter w it) (ok : BlkOk X.N X.env.scope scope own) (ho : OwnTg T (own.map (·.2)))
    (hg : ∀ (s : Shared) (H : Hp) (Ca : Addr) (cl : List (Str × Addr)) (fp : List Addr), VG (X.blk s H scope (compEnvC scope cl Ca X.env) fp) e0 tg T g)
    (he : ∀ (s : Shared) (H : Hp) (Ca : Addr) (cl : List (Str × Addr)) (fp : List Addr), VE (X.blk s H scope (compEnvC scope cl Ca X.env) fp) e0 elt E te)
    (hs : ∀ x, foldedSetIterable iter X.env x = pure x := by intro _; rfl) (hvs : own.map (·.2) = vs := by rfl) :
    VE X e0 (.ListComp elt [⟨tg, iter, [], 0⟩] scope pos) (tLc w T tYes E (own.map (·.2))) (eLcN it g te vs) := by
  subst hvs
  refine ⟨pe_lc hc hN hi.pe ok (fun s H Ca cl fp => (hg s H Ca cl fp).pe) (fun _ _ _ _ _ => pts_nil) (fun s H Ca cl fp => (he s H Ca cl fp).pe) hs, fun s σ ρ P Q rp t k => ?_⟩
  refine hi.run s σ ρ _ _ rp t fun s1 J xs g1 itd t1 => ?_
  obtain ⟨hl, W, h0, turn, done⟩ := t1
  intro D hD
  exact lcN_core rp g1 itd ho (hg X.s_0 X.H_0 0 [] []).run (he X.s_0 X.H_0 0 [] []).run hl W h0 turn done k hD
theorem vs_setLcN {i : Nat} {y : Str} {py spos : Pos} {tg elt iter : Expr} {scope : Scope} {own : List (Str × Nat)} {vs : List Nat} {w : TI} {it : TId} {T : TG} {g : TGd} {E : TE} {te : TEd} (hy : X.N[i]? = some y) (hN : X.N.Nodup) (hyl : X.env.scope.names.lookup y = some .local) (hc : X.calm = true)
    (hsw : swapsWith (.ListComp elt [⟨tg, iter, [], 0⟩] scope pos) (some (.Name y py)) spos.line X.env = pure true) (hi : VJ X e0 tg iter w it) (ok : BlkOk X.N X.env.scope scope own) (ho : OwnTg T (own.map (·.2)))
    (hg : ∀ (s : Shared) (H : Hp) (Ca : Addr) (cl : List (Str × Addr)) (fp : List Addr), VG (X.blk s H scope (compEnvC scope cl Ca X.env) fp) e0 tg T g)
    (he : ∀ (s : Shared) (H : Hp) (Ca : Addr) (cl : List (Str × Addr)) (fp : List Addr), VE (X.blk s H scope (compEnvC scope cl Ca X.env) fp) e0 elt E te)
    (hs : ∀ x, foldedSetIterable iter X.env x = pure x := by intro _; rfl) (hvs : own.map (·.2) = vs := by rfl) :
    VS X e0 W (.Assign [.Name y py] (.ListComp elt [⟨tg, iter, [], 0⟩] scope pos) spos) (sSetT i (eLcN it g te vs)) :=
  vs_setT (T := tLc w T tYes E (own.map (·.2))) (e := .ListComp elt [⟨tg, iter, [], 0⟩] scope pos) (ve_lcN (pos := pos) hc hN hi ok ho hg he hs hvs) fun _ => by subst hvs; exact ps_setLc (spos := spos) hc hN hy hyl hsw hi.pe ok (fun s H Ca cl fp => (hg s H Ca cl fp).pe) (fun _ _ _ _ _ => pts_nil) (fun s H Ca cl fp => (he s H Ca cl fp).pe) hs
end
end Tq
set_option Elab.async false
set_option linter.all false
set_option autoImplicit false
set_option maxRecDepth 100000
set_option maxHeartbeats 4000000
namespace Tq
open PySem PySem.Spec L2
open PyProof.Rows hiding St
/-- a comprehension inside a comprehension -/
theorem blkOk_in {N : List Str} {scope sc2 pa : Scope} {own : List (Str × Nat)} {cl : List (Str × Addr)} {Ca : Addr} {env : Env} (hp : env.scope = pa) (h : blkC N (relS scope pa) sc2 own = true) : BlkOk N (compEnvC scope cl Ca env).scope sc2 own := by
  subst hp
  exact blkOk_by h
/-! ### a, b = e1, e2 -/
abbrev StM := Nat → (DEnv → Prop) → DEnv → Kd → Dt → Prop
def StG (M : StM) : Prop := ∀ {K : PySem.W.Frag} {e0 s : Hs} {σ : St} {ρ : DEnv} {i : Nat} {D : DEnv → Prop} {k : Kd} {v : V} {x : Dt} {B : Hp}, Rep K e0 s σ ρ → RK K B s k v x → (∀ a, B a = none → e0.w a = none) →
  (∀ a ∈ rfp k v, ∀ (j : Nat) (k2 : Kd) (y : Dt), ρ[j]? = some (Sl.v k2 y) → a ∉ k2.fp) → M i D ρ k x →
  ∃ ρ', Rep K e0 s (σ.set i (some v)) ρ' ∧ D ρ' ∧ ∀ (j : Nat) (k2 : Kd) (y : Dt), ρ'[j]? = some (Sl.v k2 y) → ρ[j]? = some (Sl.v k2 y) ∨ ∀ a ∈ k2.fp, a ∈ rfp k v
theorem set_slot {ρ : DEnv} {i j : Nat} {sl : Sl} {k2 : Kd} {y : Dt} (h : (ρ.set i sl)[j]? = some (Sl.v k2 y)) : ρ[j]? = some (Sl.v k2 y) ∨ sl = .v k2 y := by
  by_cases e : i = j
  · subst e
    have hj : i < ρ.length := by
      rcases Nat.lt_or_ge i ρ.length with z | z
      · exact z
      · rw [List.getElem?_eq_none_iff.mpr (by rw [List.length_set]; exact z)] at h; cases h
    rw [List.getElem?_set_self hj] at h
    exact .inr (Option.some.inj h)
  · rw [List.getElem?_set_ne e] at h
    exact .inl h
theorem stg_one {K : PySem.W.Frag} {e0 s : Hs} {σ : St} {ρ : DEnv} {i : Nat} {v : V} {k k' : Kd} {x' : Dt} {D : DEnv → Prop} (rp : Rep K e0 s σ ρ) (r : RK K e0.w s k' v x') (hs : k'.sl = true) (hf : ∀ a ∈ k'.fp, a ∈ rfp k v) (hm : ∀ t, k' ≠ .mt t)
    (ap : ∀ a ∈ rfp k v, ∀ (j : Nat) (k2 : Kd) (y : Dt), ρ[j]? = some (Sl.v k2 y) → a ∉ k2.fp) (t : D (ρ.set i (.v k' x'))) :
    ∃ ρ', Rep K e0 s (σ.set i (some v)) ρ' ∧ D ρ' ∧ ∀ (j : Nat) (k2 : Kd) (y : Dt), ρ'[j]? = some (Sl.v k2 y) → ρ[j]? = some (Sl.v k2 y) ∨ ∀ a ∈ k2.fp, a ∈ rfp k v :=
  ⟨_, rp.store (fun k2 x2 e => by cases e; exact ⟨r, hs⟩) (fun k2 x2 e j k3 y q hne c hc => by cases e; exact ap c (hf c hc) j k3 y q) (fun t x e => by cases e; exact hm _ rfl), t,
    fun j k2 y h => (set_slot h).elim .inl fun e => .inr fun c hc => by cases e; exact hf c hc⟩
theorem stg_stor : StG stor := fun {K e0 s σ ρ i D k v x B} rp r hB ap t => by
  have r' := r.base hB
  cases k with
  | fz => exact stg_one (k' := .fz) rp r' rfl (fun a ha => by cases ha) (fun _ z => nomatch z) ap t
  | vw => exact stg_one (k' := .vw) rp r' rfl (fun a ha => by cases ha) (fun _ z => nomatch z) ap t
  | vt w => exact stg_one (k' := .vt w) rp r' rfl (fun a ha => by cases ha) (fun _ z => nomatch z) ap t
  | iv I => exact stg_one (k' := .iv I) rp r' rfl (fun a ha => by cases ha) (fun _ z => nomatch z) ap t
  | fr =>
    obtain ⟨l, rfl, b, n, c⟩ := r'
    exact stg_one (k' := .ow l) rp ⟨rfl, b, n, c⟩ rfl (fun a ha => ha) (fun _ z => nomatch z) ap (t l)
  | ft w => exact stg_one (k' := .tr w) rp r' rfl (fun a ha => ha) (fun _ z => nomatch z) ap t
  | _ => exact t.elim
theorem stg_storT : StG storT := fun {K e0 s σ ρ i D k v x B} rp r hB ap t => by
  have r' := r.base hB
  cases k with
  | fr =>
    cases x with
    | lst ds =>
      obtain ⟨l, rfl, b, n, c⟩ := r'
      obtain ⟨xs, hx, rx⟩ := c.lst
      refine stg_one (k' := .tr (Ot.leaf l ds)) (x' := .lst ds) rp ⟨(Ot.dt_leaf l ds).symm, fun c hc => ?_, fun c hc => ?_, nodup_leaf, .lst hx (owtl_leaf.mpr rx)⟩ rfl (fun a ha => ?_) (fun _ z => nomatch z) ap (t l)
      · rw [Ot.fp_leaf, List.mem_singleton] at hc; rw [hc]; exact b
      · rw [Ot.fp_leaf, List.mem_singleton] at hc; rw [hc]; exact n
      · have : a ∈ (Ot.leaf l ds).fp := ha
        rw [Ot.fp_leaf] at this; exact this
    | _ => exact t.elim
  | ft w =>
    obtain ⟨rfl, b⟩ := r'
    exact stg_one (k' := .tr w) rp ⟨rfl, b⟩ rfl (fun a ha => ha) (fun _ z => nomatch z) ap t
  | _ => exact t.elim
theorem rfp_there {K : PySem.W.Frag} {B : Hp} {s : Hs} {k : Kd} {v : V} {x : Dt} (r : RK K B s k v x) : ∀ a ∈ rfp k v, s.h a ≠ none := fun a ha => by
  cases k with
  | ft t => exact r.2.2.2.2.there a ha
  | fr =>
    obtain ⟨l, rfl, b, n, c⟩ := r
    rw [List.mem_singleton.mp ha]; exact c.there
  | _ => cases ha
section
variable {X : Cx} {e0 : Hs} {W : WX} {pos : Pos} {st : Stmt}
def sPar (i j : Nat) (M N : StM) (ta tb : TEd) : TSd := fun D ρ => ta ρ fun k x => tb ρ fun k' y => M i (fun ρ => N j D.nx ρ k' y) ρ k x
theorem vs_par {i j : Nat} {M N : StM} {a b : Expr} {Ta Tb : TE} {ta tb : TEd} (hM : StG M) (hN : StG N) (ha : VE X e0 a Ta ta) (hb : VE X e0 b Tb tb) (hp : PE X a Ta → PE X b Tb → PS X st (tPar i j (tCons Ta (tCons Tb tNil)))) : VS X e0 W st (sPar i j M N ta tb) := by
  refine ⟨_, hp ha.pe hb.pe, fun s σ ρ D D' rp t l => ?_⟩
  refine ha.run s σ ρ _ (fun v H => Tb σ H fun w H1 => ∃ v' w', [v, w] = [v', w'] ∧ D.nx ((σ.set i (some v')).set j (some w')) H1) rp t fun s1 k1 v1 x1 g1 r1 t1 => ?_
  have rp1 := rp.grow g1
  refine hb.run s1 σ ρ _ (fun w H1 => ∃ v' w', [v1, w] = [v', w'] ∧ D.nx ((σ.set i (some v')).set j (some w')) H1) rp1 t1 fun s2 k2 v2 x2 g2 r2 t2 => ?_
  have rp2 := rp1.grow g2
  refine ⟨v1, v2, rfl, ?_⟩
  obtain ⟨ρ1, q1, d1, sl1⟩ := hM rp2 (r1.grow g2) (fun a h => rp.rh.ewn h) (fun a ha j k y q => rp.apart (r1.rfp a ha) q) t2
  obtain ⟨ρ2, q2, d2, _⟩ := hN q1 r2 (fun a h => rp1.rh.ewn h) (fun a ha j k y q => by
    rcases sl1 j k y q with z | z
    · exact rp1.apart (r2.rfp a ha) z
    · exact fun hc => Same.some_ne g1.hw (rfp_there r1 a (z a hc)) (r2.rfp a ha)) d1
  exact l.nx s2 _ ρ2 q2 (g1.trans g2).ext d2
def sPar3 (i j m : Nat) (M N O : StM) (ta tb tc : TEd) : TSd := fun D ρ => ta ρ fun k x => tb ρ fun k' y => tc ρ fun k'' z => M i (fun ρ => N j (fun ρ => O m D.nx ρ k'' z) ρ k' y) ρ k x
theorem vs_par3 {i j m : Nat} {M N O : StM} {a b c : Expr} {Ta Tb Tc : TE} {ta tb tc : TEd} (hM : StG M) (hN : StG N) (hO : StG O) (ha : VE X e0 a Ta ta) (hb : VE X e0 b Tb tb) (hc : VE X e0 c Tc tc) (hp : PE X a Ta → PE X b Tb → PE X c Tc → PS X st (tPar3 i j m (tCons Ta (tCons Tb (tCons Tc tNil))))) : VS X e0 W st (sPar3 i j m M N O ta tb tc) := by
  refine ⟨_, hp ha.pe hb.pe hc.pe, fun s σ ρ D D' rp t l => ?_⟩
  refine ha.run s σ ρ _ (fun v H => Tb σ H fun w H1 => Tc σ H1 fun u H2 => ∃ v' w' u', [v, w, u] = [v', w', u'] ∧ D.nx (((σ.set i (some v')).set j (some w')).set m (some u')) H2) rp t fun s1 k1 v1 x1 g1 r1 t1 => ?_
  have rp1 := rp.grow g1
  refine hb.run s1 σ ρ _ (fun w H1 => Tc σ H1 fun u H2 => ∃ v' w' u', [v1, w, u] = [v', w', u'] ∧ D.nx (((σ.set i (some v')).set j (some w')).set m (some u')) H2) rp1 t1 fun s2 k2 v2 x2 g2 r2 t2 => ?_
  have rp2 := rp1.grow g2
  refine hc.run s2 σ ρ _ (fun u H2 => ∃ v' w' u', [v1, v2, u] = [v', w', u'] ∧ D.nx (((σ.set i (some v')).set j (some w')).set m (some u')) H2) rp2 t2 fun s3 k3 v3 x3 g3 r3 t3 => ?_
  have rp3 := rp2.grow g3
  refine ⟨v1, v2, v3, rfl, ?_⟩
  obtain ⟨ρ1, q1, d1, sl1⟩ := hM rp3 (r1.grow (g2.trans g3)) (fun a h => rp.rh.ewn h) (fun a ha j k y q => rp.apart (r1.rfp a ha) q) t3
  obtain ⟨ρ2, q2, d2, sl2⟩ := hN q1 (r2.grow g3) (fun a h => rp1.rh.ewn h) (fun a ha j k y q => by
    rcases sl1 j k y q with z | z
    · exact rp1.apart (r2.rfp a ha) z
    · exact fun hc => Same.some_ne g1.hw (rfp_there r1 a (z a hc)) (r2.rfp a ha)) d1
  obtain ⟨ρ3, q3, d3, _⟩ := hO q2 r3 (fun a h => rp2.rh.ewn h) (fun a ha j k y q => by
    rcases sl2 j k y q with z | z
    · rcases sl1 j k y z with z | z
      · exact rp2.apart (r3.rfp a ha) z
      · exact fun hc => g2.w a (Same.some_ne g1.hw (rfp_there r1 a (z a hc))) (r3.rfp a ha)
    · exact fun hc => Same.some_ne g2.hw (rfp_there r2 a (z a hc)) (r3.rfp a ha)) d2
  exact l.nx s3 _ ρ3 q3 (g1.trans (g2.trans g3)).ext d3
/-! ### lists changed by their methods -/
/-- place.pop(e), the value dropped -/
def popZ (y : Dt) (n : Nat) (k : Nat → Prop) : Prop := match y with
  | .int z => -(2 ^ 63) ≤ z ∧ z < 2 ^ 63 ∧ ixS (seqIndex? z n) k
  | _ => False
theorem popZ_inv {y : Dt} {n : Nat} {k : Nat → Prop} (h : popZ y n k) : ∃ z j, y = .int z ∧ -(2 ^ 63) ≤ z ∧ z < 2 ^ 63 ∧ seqIndex? z n = some j ∧ k j := by
  cases y <;> first | exact h.elim | skip
  rename_i z
  obtain ⟨h1, h2, h'⟩ := h
  cases e : seqIndex? z n with
  | none => rw [e] at h'; exact h'.elim
  | some j => rw [e] at h'; exact ⟨z, j, rfl, h1, h2, e, h'⟩
theorem popZ_int {z : Int} {n : Nat} {k : Nat → Prop} : popZ (.int z) n k = (-(2 ^ 63) ≤ z ∧ z < 2 ^ 63 ∧ ixS (seqIndex? z n) k) := rfl
theorem ixS_some {j : Nat} {k : Nat → Prop} : ixS (some j) k = k j := rfl
theorem ixZ_int {z : Int} {n : Nat} {k : Nat → Prop} : ixZ (.int z) n k = ixS (ixN n z) k := rfl
theorem seqIx {n j : Nat} (h : j < n) : seqIndex? (j : Int) n = some j := by
  unfold seqIndex?
  have h1 : ¬ (j : Int) < 0 := by omega
  simp [h1]
  try omega
def sPopAt (t : TPd) (ti : TEd) : TSd := fun D ρ => t ρ fun i p u => leafOf u fun l ds => ti ρ fun _ y => popZ y ds.length fun j => j < ds.length ∧ D.nx (plSet ρ[i]? i p (Ot.leaf l (ds.eraseIdx j)) ρ)
theorem vs_popAt {o ie : Expr} {To Ti : TE} {t : TPd} {ti : TEd} (ho : VP X e0 o To t) (h : VE X e0 ie Ti ti) (hp : PE X o To → PE X ie Ti → PS X st (tDrop (tBM X.K "list" rPopAt To (tCons Ti tNil)))) : VS X e0 W st (sPopAt t ti) := by
  refine ⟨_, hp ho.pe h.pe, fun s σ ρ D D' rp t l => ?_⟩
  refine ho.run s σ ρ _ _ rp t fun s1 i kd x t0 p u v g1 q ht hpp ow t1 => ?_
  obtain ⟨a, ds, eu, t1'⟩ := leafOf_inv t1
  clear t1
  subst eu
  obtain ⟨xs, rfl, hx, rx⟩ := leaf_ow ow
  have rp1 := rp.grow g1
  refine ⟨.inl ⟨rfl, _, .inl (.inl (g1.hw _ _ hx))⟩, ?_⟩
  refine h.run s1 σ ρ _ (fun y H => rPopAt (.ref a) [y] H fun _ H2 => D.nx σ H2) rp1 t1' fun s2 k2 v2 x2 g2 r2 t2 => ?_
  obtain ⟨z, j, rfl, hz1, hz2, hj, t2⟩ := popZ_inv t2
  cases r2.isint
  have rp2 := rp1.grow g2
  have hx2 : s2.h a = some (.lst xs) := g2.h _ _ hx
  obtain ⟨hjl, t2⟩ := t2
  refine ⟨a, xs, z, j, _, rfl, rfl, g2.hw _ _ hx2, hz1, hz2, by rw [rx.length]; exact hj, List.getElem?_eq_getElem (by rw [rx.length]; exact hjl), ?_⟩
  obtain ⟨rp3, x3⟩ := leaf_core rp2 q ht hpp (RpL.eraseIdx j (rx.mono g2.f))
  exact l.nx _ σ _ rp3 ((g1.trans g2).ext.trans x3) t2
/-- a.append(b.pop(e)) -/
def sAppPop (ta tb : TPd) (ti : TEd) : TSd := fun D ρ => ta ρ fun i p u => leafOf u fun l ds => tb ρ fun i' p' u' => leafOf u' fun l' es => ti ρ fun _ y => popZ y es.length fun j => i ≠ i' ∧ ds.length < 16777216 ∧
  optD es[j]? fun _ x => D.nx (plSet (plSet ρ[i']? i' p' (Ot.leaf l' (es.eraseIdx j)) ρ)[i]? i p (Ot.leaf l (ds ++ [x])) (plSet ρ[i']? i' p' (Ot.leaf l' (es.eraseIdx j)) ρ))
theorem vs_appPop {o o' ie : Expr} {To To' Ti : TE} {ta tb : TPd} {ti : TEd} (ho : VP X e0 o To ta) (ho' : VP X e0 o' To' tb) (h : VE X e0 ie Ti ti) (hp : PE X o To → PE X o' To' → PE X ie Ti → PS X st (tDrop (tBM X.K "list" rAppend To (tCons (tBM X.K "list" rPopAt To' (tCons Ti tNil)) tNil)))) : VS X e0 W st (sAppPop ta tb ti) := by
  refine ⟨_, hp ho.pe ho'.pe h.pe, fun s σ ρ D D' rp t l => ?_⟩
  refine ho.run s σ ρ _ _ rp t fun s1 i kd x t0 p u v g1 q ht hpp ow t1 => ?_
  obtain ⟨a, ds, eu, t1'⟩ := leafOf_inv t1
  clear t1
  subst eu
  obtain ⟨xs, rfl, hx, rx⟩ := leaf_ow ow
  have rp1 := rp.grow g1
  refine ⟨.inl ⟨rfl, _, .inl (.inl (g1.hw _ _ hx))⟩, ?_⟩
  refine ho'.run s1 σ ρ _ (fun v H => tyV X.K "list" v H ∧ Ti σ H fun y H2 => rPopAt v [y] H2 fun w H3 => rAppend (.ref a) [w] H3 fun _ H4 => D.nx σ H4) rp1 t1' fun s2 i' kd' x' t0' p' u' v' g2 q' ht' hpp' ow' t2 => ?_
  obtain ⟨a', es, eu, t2'⟩ := leafOf_inv t2
  clear t2
  subst eu
  obtain ⟨zs, rfl, hz, rz⟩ := leaf_ow ow'
  have rp2 := rp1.grow g2
  refine ⟨.inl ⟨rfl, _, .inl (.inl (g2.hw _ _ hz))⟩, ?_⟩
  refine h.run s2 σ ρ _ (fun y H2 => rPopAt (.ref a') [y] H2 fun w H3 => rAppend (.ref a) [w] H3 fun _ H4 => D.nx σ H4) rp2 t2' fun s3 k3 v3 x3 g3 r3 t3 => ?_
  obtain ⟨z, j, rfl, hz1, hz2, hj, hne, hl, t3⟩ := popZ_inv t3
  cases r3.isint
  have rp3 := rp2.grow g3
  have hz3 : s3.h a' = some (.lst zs) := g3.h _ _ hz
  have hx3 : s3.h a = some (.lst xs) := (g2.trans g3).h _ _ hx
  revert t3
  cases e : es[j]? with
  | none => exact fun z => z.elim
  | some w =>
    intro t3
    obtain ⟨wv, hwv, rw_⟩ := (rz.mono g3.f).at e
    refine ⟨a', zs, z, j, wv, rfl, rfl, g3.hw _ _ hz3, hz1, hz2, by rw [rz.length]; exact hj, hwv, ?_⟩
    obtain ⟨rp4, x4⟩ := leaf_core rp3 q' ht' hpp' (RpL.eraseIdx j (rz.mono g3.f))
    -- the other list stands apart
    have haa : a ≠ a' := fun z => by
      have h1 : a ∈ kd.fp := tree_fp ht ▸ sub_fp hpp a (root_fp leaf_root)
      have h2 : a' ∈ kd'.fp := tree_fp ht' ▸ sub_fp hpp' a' (root_fp leaf_root)
      exact rp.dj i i' kd kd' x x' q q' hne a h1 (z ▸ h2)
    have q4 : (plSet ρ[i']? i' p' (Ot.leaf a' (es.eraseIdx j)) ρ)[i]? = some (Sl.v kd x) := by
      rw [plSet_eq q' ht', List.getElem?_set_ne (fun z => hne z.symm)]
      exact q
    obtain ⟨rp5, x5⟩ := leaf_core (xs' := xs ++ [wv]) rp4 q4 ht hpp ((rx.mono (g2.trans g3).f).app (.cons rw_ .nil))
    refine ⟨a, xs, wv, rfl, rfl, ?_, by rw [rx.length, sizeLine_eq]; exact hl, ?_⟩
    · rw [upd_ne haa]; exact g3.hw _ _ hx3
    · exact l.nx _ σ _ rp5 ((g1.trans (g2.trans g3)).ext.trans (x4.trans x5)) t3
end
end Tq
set_option Elab.async false
set_option linter.all false
set_option autoImplicit false
set_option maxRecDepth 100000
set_option maxHeartbeats 4000000
namespace Tq
open PySem PySem.Spec L2
open PyProof.Rows hiding St
/-! ### objects: their fields -/
def fldD : List (Str × Dt) → Str → Option Dt
  | [], _ => none
  | (g, x) :: r, f => if f = g then some x else fldD r f
def putO : List (Str × Ot) → Str → Ot → List (Str × Ot)
  | [], f, u => [(f, u)]
  | (g, t) :: r, f, u => if g = f then (g, u) :: r else (g, t) :: putO r f u
section
variable {K : PySem.W.Frag} {F H H' : Hp}
theorem OwTF.none : ∀ {vs : List (Str × V)} {ts : List (Str × Ot)} {f : Str}, OwTF K F H vs ts → fldO ts f = none → vs.lookup f = none
  | _, _, f, .nil, h => rfl
  | _, _, f, .cons (f := g) r q, h => by
    unfold fldO at h
    by_cases e : f = g
    · rw [if_pos e] at h; cases h
    · rw [if_neg e] at h
      have hb : (f == g) = false := beq_eq_false_iff_ne.mpr e
      simp only [List.lookup, hb]
      exact OwTF.none q h
theorem OwTF.length : ∀ {vs : List (Str × V)} {ts : List (Str × Ot)}, OwTF K F H vs ts → vs.length = ts.length
  | _, _, .nil => rfl
  | _, _, .cons _ t => congrArg (· + 1) (OwTF.length t)
theorem RpF.at : ∀ {vs : List (Str × V)} {ds : List (Str × Dt)} {f : Str} {x : Dt}, RpF K F vs ds → fldD ds f = some x → ∃ v, vs.lookup f = some v ∧ Rp K F v x
  | _, _, f, x, .nil, h => by cases h
  | _, _, f, x, .cons (k := g) r q, h => by
    unfold fldD at h
    by_cases e : f = g
    · rw [if_pos e] at h
      cases h
      exact ⟨_, by simp [List.lookup, e], r⟩
    · rw [if_neg e] at h
      obtain ⟨v, h1, h2⟩ := RpF.at q h
      have hb : (f == g) = false := beq_eq_false_iff_ne.mpr e
      exact ⟨v, by simp only [List.lookup, hb]; exact h1, h2⟩
theorem RpF.none : ∀ {vs : List (Str × V)} {ds : List (Str × Dt)} {f : Str}, RpF K F vs ds → fldD ds f = none → vs.lookup f = none
  | _, _, f, .nil, h => rfl
  | _, _, f, .cons (k := g) r q, h => by
    unfold fldD at h
    by_cases e : f = g
    · rw [if_pos e] at h; cases h
    · rw [if_neg e] at h
      have hb : (f == g) = false := beq_eq_false_iff_ne.mpr e
      simp only [List.lookup, hb]
      exact RpF.none q h
theorem OwTF.putT {f : Str} {v : V} {u : Ot} (r : OwT K F H v u) : ∀ {vs : List (Str × V)} {ts : List (Str × Ot)}, OwTF K F H vs ts → OwTF K F H (putF f v vs) (putO ts f u)
  | _, _, .nil => .cons r .nil
  | _, _, .cons (f := g) q s => by
    unfold putF putO
    by_cases e : g = f
    · rw [if_pos e, if_pos e]; exact .cons r s
    · rw [if_neg e, if_neg e]; exact .cons q (OwTF.putT r s)
theorem fpf_putO : ∀ {ts : List (Str × Ot)} {f : Str} {u : Ot} {a : Addr}, a ∈ Ot.fpf (putO ts f u) → a ∈ Ot.fpf ts ∨ a ∈ u.fp
  | [], f, u, a, h => (List.mem_append.mp h).elim .inr fun z => by cases z
  | (g, w) :: ts, f, u, a, h => by
    unfold putO at h
    by_cases e : g = f
    · rw [if_pos e] at h
      exact (List.mem_append.mp h).elim .inr fun z => .inl (List.mem_append_right _ z)
    · rw [if_neg e] at h
      exact (List.mem_append.mp h).elim (fun z => .inl (List.mem_append_left _ z)) fun z => (fpf_putO z).elim (fun q => .inl (List.mem_append_right _ q)) .inr
theorem nodup_putO : ∀ {ts : List (Str × Ot)} {f : Str} {u : Ot}, (Ot.fpf ts).Nodup → u.fp.Nodup → (∀ a ∈ u.fp, a ∉ Ot.fpf ts) → (Ot.fpf (putO ts f u)).Nodup
  | [], f, u, hn, hu, hd => by show (u.fp ++ []).Nodup; rw [List.append_nil]; exact hu
  | (g, x) :: ts, f, u, hn, hu, hd => by
    have hn' : (x.fp ++ Ot.fpf ts).Nodup := hn
    rw [List.nodup_append] at hn'
    have hd' : ∀ a ∈ u.fp, a ∉ x.fp ∧ a ∉ Ot.fpf ts := fun a ha => ⟨fun z => hd a ha (List.mem_append_left _ z), fun z => hd a ha (List.mem_append_right _ z)⟩
    unfold putO
    by_cases e : g = f
    · rw [if_pos e]
      show (u.fp ++ Ot.fpf ts).Nodup
      rw [List.nodup_append]
      exact ⟨hu, hn'.2.1, fun a ha b hb q => (hd' a ha).2 (q ▸ hb)⟩
    · rw [if_neg e]
      show (x.fp ++ Ot.fpf (putO ts f u)).Nodup
      rw [List.nodup_append]
      refine ⟨hn'.1, nodup_putO hn'.2.1 hu fun a ha => (hd' a ha).2, fun a ha b hb q => ?_⟩
      subst q
      rcases fpf_putO hb with z | z
      · exact hn'.2.2 a ha a z rfl
      · exact (hd' a z).1 ha
end
/-- what becomes a part of a tree -/
def ntK (k : Kd) (x : Dt) (Kt : Ot → Prop) : Prop := match k, x with
  | .fz, x => Kt (.pt x)
  | .fr, .lst ds => ∀ l, Kt (Ot.leaf l ds)
  | .fr, .dct ds => ∀ l, Kt (.dct l ds)
  | .ft t, _ => Kt t
  | _, _ => False
theorem nt_ft {K : PySem.W.Frag} {B : Hp} {s : Hs} {k : Kd} {v : V} {x : Dt} {Kt : Ot → Prop} (r : RK K B s k v x) (t : ntK k x Kt) : ∃ w, RK K B s (.ft w) v w.dt ∧ Kt w := by
  cases k with
  | fz =>
    refine ⟨.pt x, ⟨rfl, (fun a ha => nomatch ha), (fun a ha => nomatch ha), List.nodup_nil, .pt r⟩, ?_⟩
    unfold ntK at t
    exact t
  | fr =>
    cases x with
    | lst ds =>
      obtain ⟨l, rfl, b, n, c⟩ := r
      obtain ⟨xs, h, rx⟩ := c.lst
      refine ⟨Ot.leaf l ds, ⟨rfl, fun a ha => ?_, fun a ha => ?_, nodup_leaf, .lst h (owtl_leaf.mpr rx)⟩, t l⟩
      · rw [Ot.fp_leaf, List.mem_singleton] at ha; rw [ha]; exact b
      · rw [Ot.fp_leaf, List.mem_singleton] at ha; rw [ha]; exact n
    | dct ds =>
      obtain ⟨l, rfl, b, n, c⟩ := r
      rcases c with ⟨xs, ds', e2, h, r2⟩ | ⟨kvs, ds', e2, h, r2⟩
      · cases e2
      · cases e2
        refine ⟨.dct l ds, ⟨rfl, fun a ha => ?_, fun a ha => ?_, (by simp [Ot.fp]), .dct h r2⟩, t l⟩
        · rw [List.mem_singleton.mp ha]; exact b
        · rw [List.mem_singleton.mp ha]; exact n
    | _ => exact t.elim
  | ft w =>
    obtain ⟨e1, b⟩ := r
    exact ⟨w, ⟨rfl, b⟩, t⟩
  | _ => exact t.elim
def objP (u : Ot) (C : Addr) (k : Addr → List (Str × Ot) → Prop) : Prop := match u with
  | .obj l C' fs => C' = C ∧ k l fs
  | _ => False
theorem objP_obj {l C C' : Addr} {fs : List (Str × Ot)} {k : Addr → List (Str × Ot) → Prop} : objP (.obj l C' fs) C k = (C' = C ∧ k l fs) := rfl
def ptK (u : Ot) (k : Dt → Prop) : Prop := match u with
  | .pt x => k x
  | _ => False
theorem ptK_pt {x : Dt} {k : Dt → Prop} : ptK (.pt x) k = k x := rfl
section
variable {X : Cx} {e0 : Hs} {W : WX} {pos : Pos} {st : Stmt}
theorem sub_nodup : ∀ {p : List Pst} {t u : Ot}, t.fp.Nodup → t.sub p = some u → u.fp.Nodup
  | [], t, u, hn, h => by cases h; exact hn
  | s :: p, t, u, hn, h => by
    obtain ⟨w, h1, h2⟩ := sub_some h
    exact sub_nodup (step_nodup hn h1) h2
/-- a field of a place exchanged -/
theorem fld_core {K : PySem.W.Frag} {s0 s : Hs} {σ : St} {ρ : DEnv} {i : Nat} {k : Kd} {x : Dt} {t w : Ot} {p : List Pst} {l C dx : Addr} {f : Str} {fs : List (Str × Ot)} {vs : List (Str × V)} {v : V} (rp0 : Rep K e0 s0 σ ρ) (g : Grow s0 s) (hi : ρ[i]? = some (Sl.v k x)) (ht : k.tree = some t) (hp : t.sub p = some (.obj l C fs))
    (hl : s.h l = some (.ins C dx vs)) (rf : OwTF K s.f s.h vs fs) (r : RK K s0.w s (.ft w) v w.dt) :
    Rep K e0 ⟨s.f, s.g, upd s.h l (.ins C dx (putF f v vs)), upd s.w l (.ins C dx (putF f v vs)), s.i, s.m⟩ σ (plSet ρ[i]? i p (.obj l C (putO fs f w)) ρ) ∧ Ext s ⟨s.f, s.g, upd s.h l (.ins C dx (putF f v vs)), upd s.w l (.ins C dx (putF f v vs)), s.i, s.m⟩ := by
  have rp := rp0.grow g
  obtain ⟨_, b, n, nd, ow⟩ := r
  obtain ⟨v0, hv0, hT0, hn0, hg0⟩ := rp.tree hi ht
  have hnu : (l :: Ot.fpf fs).Nodup := sub_nodup hn0 hp
  have hul : ∀ c ∈ (l :: Ot.fpf fs), c ∈ t.fp := sub_fp hp
  have hap : ∀ c ∈ w.fp, ∀ (j : Nat) (k2 : Kd) (y : Dt), ρ[j]? = some (Sl.v k2 y) → c ∉ k2.fp := fun c hc j k2 y qq => rp0.apart (b c hc) qq
  have hna : ∀ c ∈ w.fp, c ∉ t.fp := fun c hc hq => hap c hc i k x hi (tree_fp ht ▸ hq)
  have h1 := List.nodup_cons.mp hnu
  rw [plSet_eq hi ht]
  refine place_core rp hi ht hp rfl (.ins C dx (putF f v vs)) ?_ ?_ ?_
  · refine .obj upd_same (OwTF.putT (ow.keep (Same.refl _) fun c hc o qq => ?_) (rf.keep (Same.refl _) fun c hc o qq => ?_))
    · rw [upd_ne (fun (z : c = l) => hna c hc (by rw [z]; exact hul l List.mem_cons_self))]; exact qq
    · rw [upd_ne (fun (z : c = l) => h1.1 (by rw [← z]; exact hc))]; exact qq
  · refine List.nodup_cons.mpr ⟨fun z => ?_, nodup_putO h1.2 nd fun a ha z => hna a ha (hul a (List.mem_cons_of_mem _ z))⟩
    rcases fpf_putO z with z | z
    · exact h1.1 z
    · exact hna l z (hul l List.mem_cons_self)
  · intro c hc
    have hc' : c ∈ l :: Ot.fpf (putO fs f w) := hc
    rcases List.mem_cons.mp hc' with z | z
    · exact .inl (by rw [z]; exact List.mem_cons_self)
    · rcases fpf_putO z with z | z
      · exact .inl (List.mem_cons_of_mem _ z)
      · exact .inr ⟨n c z, rp0.rh.ewn (b c z), hap c z⟩
/-! ### place.f = e -/
def sSetFld (C : Addr) (t : TPd) (f : Str) (te : TEd) : TSd := fun D ρ => te ρ fun k x => t ρ fun i p u => objP u C fun l fs => fs.length < 1000 ∧ ntK k x fun w => D.nx (plSet ρ[i]? i p (.obj l C (putO fs f w)) ρ)
theorem vs_setFld {o e : Expr} {f : Str} {C : Addr} {To Te : TE} {t : TPd} {te : TEd} (ho : VP X e0 o To t) (h : VE X e0 e Te te) (c : Cls X.K C) (n : NoAttr X.K C f) (hp : PE X o To → PE X e Te → PS X st (sFld X.K To Te f)) : VS X e0 W st (sSetFld C t f te) := by
  refine ⟨_, hp ho.pe h.pe, fun s σ ρ D D' rp t l => ?_⟩
  refine h.run s σ ρ _ _ rp t fun s1 k1 v1 x1 g1 r1 t1 => ?_
  have rp1 := rp.grow g1
  refine ho.run s1 σ ρ _ _ rp1 t1 fun s2 i kd x t0 p u v g2 q ht hpp ow t2 => ?_
  cases u <;> first | exact t2.elim | skip
  rename_i a C' fs
  obtain ⟨rfl, hl, t2⟩ := t2
  cases ow with
  | obj hx rf =>
    rename_i dx vs
    obtain ⟨w, rw_, t2⟩ := nt_ft (r1.grow g2) t2
    refine ⟨a, C', dx, vs, rfl, g2.hw _ _ hx, c, n, by rw [rf.length]; exact hl, ?_⟩
    obtain ⟨rp3, x3⟩ := fld_core (f := f) rp (g1.trans g2) q ht hpp hx rf rw_
    exact l.nx _ σ _ rp3 ((g1.trans g2).ext.trans x3) t2
/-- place.f op= e -/
def sAugFld (C : Addr) (t : TPd) (f : Str) (d : R2d) (te : TEd) : TSd := fun D ρ => t ρ fun i p u => objP u C fun l fs => fldK (fldO fs f) fun w0 => ptK w0 fun x => fs.length < 1000 ∧
  te ρ fun k y => k.lf = true ∧ d x y fun k' z => ntK k' z fun w => D.nx (plSet ρ[i]? i p (.obj l C (putO fs f w)) ρ)
theorem vs_augFld {o e : Expr} {f : Str} {C : Addr} {op : Operator} {To Te : TE} {t : TPd} {te : TEd} {R : R2} {d : R2d} (hop : VOp X (inplaceOp op) R d) (ho : VP X e0 o To t) (h : VE X e0 e Te te) (c : Cls X.K C) (n : NoAttr X.K C f) (hp : PE X o To → PE X e Te → InOp X op R → PS X st (sFldAug X.K To Te R f)) : VS X e0 W st (sAugFld C t f d te) := by
  refine ⟨_, hp ho.pe h.pe fun pins s σ H x y u v Q I r1 r2 q => hop.pe pins s σ H x y u v Q I r1 r2 q, fun s σ ρ D D' rp t l => ?_⟩
  refine ho.run s σ ρ _ _ rp t fun s1 i kd x t0 p u v g1 q ht hpp ow t1 => ?_
  have rp1 := rp.grow g1
  cases u <;> first | exact t1.elim | skip
  rename_i a C' fs
  obtain ⟨rfl, t1⟩ := t1
  revert t1
  show fldK (fldO fs f) _ → _
  cases e : fldO fs f with
  | none => exact fun z => z.elim
  | some w0 =>
    intro t1
    cases w0 <;> first | exact t1.elim | skip
    rename_i z0
    obtain ⟨hl, t1⟩ := t1
    cases ow with
    | obj hx rf =>
      rename_i dx vs
      obtain ⟨v0, h1, h2⟩ := rf.at e
      cases h2 with
      | pt r0 =>
        refine ⟨a, C', dx, vs, v0, rfl, g1.hw _ _ hx, c, n, h1, ?_⟩
        refine h.run s1 σ ρ _ (fun y H2 => R v0 y H2 fun z H3 => ∃ dx' fs', H3 a = some (.ins C' dx' fs') ∧ fs'.length < 1000 ∧ D.nx σ (upd H3 a (.ins C' dx' (putF f z fs')))) rp1 t1 fun s2 k2 v2 x2 g2 r2 t2 => ?_
        obtain ⟨hk2, t2⟩ := t2
        have rp2 := rp1.grow g2
        refine hop.run s2 v0 v2 z0 x2 _ _ rp2.self (.inl (r0.mono g2.f)) (r2.rq rp2.rh hk2) t2 fun s3 k3 w3 z3 g3 r3 t3 => ?_
        have g13 := g1.trans (g2.trans g3)
        have hx3 := (g2.trans g3).h _ _ hx
        have rf3 := rf.keep (F' := s3.f) (H' := s3.h) (g2.trans g3).f fun b _ o qq => (g2.trans g3).h b o qq
        obtain ⟨w, rw_, t3⟩ := nt_ft r3 t3
        refine ⟨dx, vs, g3.hw _ _ hx3, by rw [rf.length]; exact hl, ?_⟩
        obtain ⟨rp4, x4⟩ := fld_core (f := f) rp g13 q ht hpp hx3 rf3 (rw_.base fun a h => (g1.trans g2).nw h)
        exact l.nx _ σ _ rp4 (g13.ext.trans x4) t3
/-! ### e.f -/
def getF (o : Option Dt) (P : DK) : Prop := match o with
  | some y => P .fz y
  | none => False
def attT (C : Addr) (u : Ot) (f : Str) (P : DK) : Prop := fldP C u f fun w => rdT w P
def attK (C : Addr) (f : Str) (k : Kd) (x : Dt) (P : DK) : Prop := match k, x with
  | .fz, .obj C' ds => C' = C ∧ getF (fldD ds f) P
  | .rt t, _ => attT C t f P
  | .vt t, _ => attT C t f P
  | .ft t, _ => attT C t f P
  | _, _ => False
def eAttr (C : Addr) (f : Str) (te : TEd) : TEd := fun ρ P => te ρ fun k x => attK C f k x P
theorem att_core {K : PySem.W.Frag} {s0 s : Hs} {C : Addr} {f : Str} {u : Ot} {v : V} {P : DK} {Q : VK} (c : Cls K C) (n : NoAttr K C f) (g : Grow s0 s) (ow : OwT K s.f s.h v u) (t : attT C u f P) (k : ∀ s' k v x, Grow s0 s' → RK K s0.w s' k v x → P k x → Q v s'.w) :
    ∃ a C dx fs w, v = .ref a ∧ s.w a = some (.ins C dx fs) ∧ Cls K C ∧ NoAttr K C f ∧ fs.lookup f = some w ∧ Q w s.w := by
  cases u <;> first | exact t.elim | skip
  rename_i l C' fs
  obtain ⟨rfl, t⟩ := t
  revert t
  show fldK (fldO fs f) _ → _
  cases e : fldO fs f with
  | none => exact fun z => z.elim
  | some w =>
    intro t
    cases ow with
    | obj hq rf =>
      obtain ⟨v', h1, h2⟩ := rf.at e
      exact ⟨l, C', _, _, v', rfl, g.hw _ _ hq, c, n, h1, rd_core g h2 t k⟩
theorem ve_attr {e : Expr} {f : Str} {C : Addr} {T : TE} {te : TEd} (h : VE X e0 e T te) (c : Cls X.K C) (n : NoAttr X.K C f) (hb : attributeBase e f X.env (eval e X.env) = eval e X.env := by rfl) : VE X e0 (.Attribute e f pos) (tFld X.K T f) (eAttr C f te) := by
  obtain ⟨pe, r⟩ := h
  refine ⟨pe_fld pe hb, fun s σ ρ P Q rp t k => ?_⟩
  refine r s σ ρ _ _ rp t fun s1 k1 v1 x1 g1 r1 t1 => ?_
  unfold attK at t1
  split at t1
  · rename_i C' ds
    obtain ⟨rfl, t1⟩ := t1
    revert t1
    cases e : fldD ds f with
    | none => exact fun z => z.elim
    | some y =>
      intro t1
      have r2 : Rp X.K s1.f v1 (.obj C' ds) := r1
      cases r2 with
      | obj hq rf =>
        obtain ⟨v', h1, h2⟩ := rf.at e
        exact ⟨_, C', _, _, v', rfl, g1.fw _ _ hq, c, n, h1, k s1 .fz v' y g1 h2 t1⟩
  · obtain ⟨_, ow⟩ := r1
    exact att_core c n g1 ow t1 k
  · obtain ⟨_, ow⟩ := r1
    exact att_core c n g1 (ow.mono (Same.refl _) g1.gh) t1 k
  · obtain ⟨_, _, _, _, ow⟩ := r1
    exact att_core c n g1 ow t1 k
  · exact t1.elim
/-! ### o.m(..), the object only read -/
def HasMt (P : Program) (w : World) (K : PySem.W.Frag) (mg : Str → Option Value) (base : Heap) (k : Nat) (C : Addr) (m : Str) (ps : List Str) (S : DSp) : Prop :=
  ∃ (f : Addr) (fd : FuncData), FnOk P w K mg base CX0 k f fd ps (spL K S) ∧ Meth K C m f ∧ Binds K fd ps []
def rootC (C : Addr) (m : Str) (u : Ot) (P : Prop) : Prop := match u with
  | .obj _ C' fs => C' = C ∧ fldO fs m = none ∧ P
  | _ => False
def mtK (C : Addr) (m : Str) (k : Kd) (x : Dt) (P : Kd → Prop) : Prop := match k, x with
  | .fz, .obj C' ds => C' = C ∧ fldD ds m = none ∧ P .fz
  | .rt t, _ => rootC C m t (P (.rt t))
  | .vt t, _ => rootC C m t (P (.rt t))
  | .ft t, _ => rootC C m t (P (.rt t))
  | _, _ => False
def eMeth (C : Addr) (m : Str) (S : DSp) (te : TEd) (ta : TAd) : TEd := fun ρ P => te ρ fun k x => mtK C m k x fun k' => ta ρ fun as => S ((k', x) :: norm as) P
theorem rootC_inv {C : Addr} {m : Str} {u : Ot} {P : Prop} (h : rootC C m u P) : ∃ l fs, u = .obj l C fs ∧ fldO fs m = none ∧ P := by
  cases u <;> first | exact h.elim | skip
  obtain ⟨rfl, h1, h2⟩ := h
  exact ⟨_, _, rfl, h1, h2⟩
/-- what a method is handed as its object -/
theorem self_of {K : PySem.W.Frag} {s0 s : Hs} {C : Addr} {m : Str} {k : Kd} {v : V} {x : Dt} {P : Kd → Prop} (g : Grow s0 s) (r : RK K s0.w s k v x) (t : mtK C m k x P) :
    ∃ a dx fs k', v = .ref a ∧ s.w a = some (.ins C dx fs) ∧ fs.lookup m = none ∧ P k' ∧ ∀ s' vs as, Grow s s' → ArgsR K s'.f s'.h s'.i vs as → ArgsR K s'.f s'.h s'.i (v :: vs) ((k', x) :: as) := by
  unfold mtK at t
  split at t
  · rename_i C' ds
    obtain ⟨rfl, h1, t⟩ := t
    have r2 : Rp K s.f v (.obj C' ds) := r
    cases r2 with
    | obj hq rf => exact ⟨_, _, _, .fz, rfl, g.fw _ _ hq, rf.none h1, t, fun s' vs as g2 ar => .fz (Rp.mono g2.f (.obj hq rf)) ar⟩
  · obtain ⟨l, fs, rfl, h1, t⟩ := rootC_inv t
    obtain ⟨e, ow⟩ := r
    subst e
    obtain ⟨dx, vs, rfl, h2, h3⟩ : ∃ dx vs, v = .ref l ∧ s.h l = some (.ins C dx vs) ∧ OwTF K s.f s.h vs fs := by cases ow with | obj hq rf => exact ⟨_, _, rfl, hq, rf⟩
    exact ⟨l, _, _, _, rfl, g.hw _ _ h2, h3.none h1, t, fun s' vs as g2 ar => .rt (ow.mono g2.f g2.h) ar⟩
  · obtain ⟨l, fs, rfl, h1, t⟩ := rootC_inv t
    obtain ⟨e, ow⟩ := r
    subst e
    obtain ⟨dx, vs, rfl, h2, h3⟩ : ∃ dx vs, v = .ref l ∧ s.g l = some (.ins C dx vs) ∧ OwTF K s.f s.g vs fs := by cases ow with | obj hq rf => exact ⟨_, _, rfl, hq, rf⟩
    exact ⟨l, _, _, _, rfl, g.gw _ _ h2, h3.none h1, t, fun s' vs as g2 ar => .rt (ow.mono g2.f (g.gh.trans g2.h)) ar⟩
  · obtain ⟨l, fs, rfl, h1, t⟩ := rootC_inv t
    obtain ⟨e, b, n, nd, ow⟩ := r
    subst e
    obtain ⟨dx, vs, rfl, h2, h3⟩ : ∃ dx vs, v = .ref l ∧ s.h l = some (.ins C dx vs) ∧ OwTF K s.f s.h vs fs := by cases ow with | obj hq rf => exact ⟨_, _, rfl, hq, rf⟩
    exact ⟨l, _, _, _, rfl, g.hw _ _ h2, h3.none h1, t, fun s' vs as g2 ar => .rt (ow.mono g2.f g2.h) ar⟩
  · exact t.elim
theorem meth_core {C : Addr} {m : Str} {S : DSp} {o : Expr} {es : List Expr} {To : TE} {te : TEd} {Ta : TA} {ta : TAd} (ho : VE X e0 o To te) (ha : VA X e0 es Ta ta) :
    ∀ (s : Hs) (σ : St) (ρ : DEnv) (P : DK) (Q : VK), Rep X.K e0 s σ ρ → eMeth C m S te ta ρ P → (∀ s' k v x, Grow s s' → RK X.K s.w s' k v x → P k x → Q v s'.w) → tMeth C m (spL X.K S) [] E0 To Ta σ s.w Q := by
  intro s σ ρ P Q rp t k
  refine ho.run s σ ρ _ _ rp t fun s1 k1 v1 x1 g1 r1 t1 => ?_
  have rp1 := rp.grow g1
  obtain ⟨a, dx, fs, k', e1, h1, h2, t1, hself⟩ := self_of g1 r1 t1
  refine ⟨a, dx, fs, e1, h1, h2, ?_⟩
  refine ha.run s1 σ ρ _ _ rp1 t1 fun s2 vs xs g2 ar hxl t2 => ?_
  rw [List.append_nil]
  have rp2 := rp1.grow g2
  refine ⟨s2.f, s2.h, s2.i, (k', x1) :: norm xs, P, rp2.rh.fh, rp2.rh.hw, rp2.rh.iv, hself s2 vs (norm xs) g2 ar.norm, t2, fun s' k3 v x b r q => ?_⟩
  obtain ⟨s3, g3, ef, eh, ew, hl⟩ := back_grow rp2.rh b
  have q' := k s3 k3 v x ((g1.trans g2).trans g3) (rr_rk (g1.trans g2) ef eh hl r) q
  rw [ew] at q'
  exact q'
theorem ve_meth {K : PySem.W.Frag} (hK : X.K = K) {k : Nat} {C : Addr} {m : Str} {ps : List Str} {S : DSp} {o e : Expr} {es : List Expr} {apos : Pos} {pl : Sem Bool} {To : TE} {te : TEd} {Ta : TA} {ta : TAd} (c : Cls X.K C) (h : HasMt X.prog X.w X.K X.mg X.base k C m ps S) (hr : Room k X.A) (ho : VE X e0 o To te) (ha : VA X e0 (e :: es) Ta ta)
    (hst : starEach (e :: es) X.env = (false, eval e X.env) :: starEach es X.env := by rfl) (hpl : (backTo pos (starEach es X.env)).any (·.1) = false := by rfl)
    (ht : eval (.Call (.Attribute o m apos) (e :: es) [] pos) X.env = (do
      let ov ← eval o X.env
      standAt apos.atName
      let (f, first) ← holding [ov] (getMethod ov m pl)
      callWith pos f first (backTo pos (starEach (e :: es) X.env)) (backToKw pos (keywordEach [] X.env))) := by rfl) : VE X e0 (.Call (.Attribute o m apos) (e :: es) [] pos) (tMeth C m (spL K S) [] E0 To Ta) (eMeth C m S te ta) := by
  subst hK
  obtain ⟨f, fd, F, hm, hb⟩ := h
  exact ⟨pe_meth (pl := pl) ho.pe c hm F hr hb .nil pass0 ha.pe hst hpl ht, meth_core ho ha⟩
theorem ve_meth0 {K : PySem.W.Frag} (hK : X.K = K) {k : Nat} {C : Addr} {m : Str} {ps : List Str} {S : DSp} {o : Expr} {apos : Pos} {pl : Sem Bool} {To : TE} {te : TEd} (c : Cls X.K C) (h : HasMt X.prog X.w X.K X.mg X.base k C m ps S) (hr : Room k X.A) (ho : VE X e0 o To te)
    (ht : eval (.Call (.Attribute o m apos) [] [] pos) X.env = (do
      let ov ← eval o X.env
      standAt apos.atName
      let (f, first) ← holding [ov] (getMethod ov m pl)
      callWith pos f first (backTo pos (starEach [] X.env)) (backToKw pos (keywordEach [] X.env))) := by rfl) : VE X e0 (.Call (.Attribute o m apos) [] [] pos) (tMeth C m (spL K S) [] E0 To tNil) (eMeth C m S te aNil) := by
  subst hK
  obtain ⟨f, fd, F, hm, hb⟩ := h
  exact ⟨pe_meth0 (pl := pl) ho.pe c hm F hr hb .nil pass0 ht, meth_core ho va_nil⟩
end
end Tq
set_option Elab.async false
set_option linter.all false
set_option autoImplicit false
set_option maxRecDepth 100000
set_option maxHeartbeats 4000000
namespace Tq
open PySem PySem.Spec L2
open PyProof.Rows hiding St
/-! ### a new object -/
def HasNew (P : Program) (w : World) (K : PySem.W.Frag) (mg : Str → Option Value) (base : Heap) (k : Nat) (x : Str) (C : Addr) (ps : List Str) (dvs : List V) (S : DMu) : Prop :=
  ∃ (f : Addr) (fd : FuncData) (ds : List Value), FnOk P w K mg base CX0 k f fd ps (spM K S) ∧ Mk K C f ∧ mg x = some (.ref C) ∧ Binds K fd ps ds ∧ Vals dvs ds
/-- defaults as data -/
def dvD : List V → List (Kd × Dt)
  | [] => []
  | .int i :: r => (.fz, .int i) :: dvD r
  | .bl b :: r => (.fz, .bl b) :: dvD r
  | .str z :: r => (.fz, .str z) :: dvD r
  | _ :: r => (.fz, .non) :: dvD r
def dvOk : List V → Bool
  | [] => true
  | .int _ :: r => dvOk r
  | .bl _ :: r => dvOk r
  | .str _ :: r => dvOk r
  | .non :: r => dvOk r
  | _ => false
theorem ArgsR.dv {K : PySem.W.Frag} {F H : Hp} {i : Addr → Option (List Int → Prop)} : ∀ {dvs : List V}, dvOk dvs = true → ArgsR K F H i dvs (dvD dvs)
  | [], _ => .nil
  | .int n :: r, h => .fz (.int n) (ArgsR.dv (dvs := r) h)
  | .bl b :: r, h => .fz (.bl b) (ArgsR.dv (dvs := r) h)
  | .str z :: r, h => .fz (.str z) (ArgsR.dv (dvs := r) h)
  | .non :: r, h => .fz .non (ArgsR.dv (dvs := r) h)
  | .ref a :: r, h => nomatch h
  | .ty n :: r, h => nomatch h
theorem ArgsR.app {K : PySem.W.Frag} {F H : Hp} {i : Addr → Option (List Int → Prop)} : ∀ {vs us : List V} {as bs : List (Kd × Dt)}, ArgsR K F H i vs as → ArgsR K F H i us bs → ArgsR K F H i (vs ++ us) (as ++ bs)
  | _, _, _, _, .nil, s => s
  | _, _, _, _, .fz r t, s => .fz r (t.app s)
  | _, _, _, _, .rd r t, s => .rd r (t.app s)
  | _, _, _, _, .rt r t, s => .rt r (t.app s)
  | _, _, _, _, .iv r t, s => .iv r (t.app s)
def eNew (C : Addr) (dvs : List V) (S : DMu) (t : TAd) : TEd := fun ρ P => t ρ fun as => ∀ l, S ((.mt (.obj l C []), .obj C []) :: (norm as ++ dvD dvs)) (fun k x ts => k = .fz ∧ x = .non ∧ ∃ u, ts = [u] ∧ P (.ft u) u.dt) (fun _ _ => False)
/-- what stands behind a call that is handed the known heap G -/
theorem back_growM {e0 s s' : Hs} {H W : Hp} {i : Addr → Option (List Int → Prop)} (rh : RH e0 s) (hi : ∀ a I, s.i a = some I → i a = some I) (hW : ∀ a, s.w a ≠ none → W a ≠ none) (b : RH (entM s.f s.h H W i) s') : ∃ s2 : Hs, Grow s s2 ∧ s2.f = s'.f ∧ s2.h = s'.h ∧ s2.w = s'.w ∧ ∀ l, s.w l = none → s'.f l = none → s2.g l = none := by
  have hh : Same s.h s'.h := b.eg.trans b.gh
  have nf : ∀ a, s.w a ≠ none → s'.f a = s.f a := fun a h => b.nf a (hW a h)
  refine ⟨⟨s'.f, fun a => match s'.f a with
    | some o => some o
    | none => s.g a, s'.h, s'.w, s.i, s.m⟩, ⟨b.ef, fun a o q => ?_, hh, fun a o q => ?_, fun a o q => ?_, b.hw, nf, fun a h => ?_, fun a h => b.ew a (hW a h), rh.hw, fun a I q => ?_, fun a I q => q⟩, rfl, rfl, rfl, fun l h1 h2 => ?_⟩
  · show (match s'.f a with
      | some o => some o
      | none => s.g a) = some o
    have h : s'.f a = s.f a := nf a (ne_none (rh.hw _ _ (rh.gh a o q)))
    rw [h]
    cases e : s.f a with
    | none => exact q
    | some o' => exact (rh.fg a o' e).symm.trans q
  · show (match s'.f a with
      | some o => some o
      | none => s.g a) = some o
    rw [q]
  · have q' : (match s'.f a with
      | some o => some o
      | none => s.g a) = some o := q
    show s'.h a = some o
    cases e : s'.f a with
    | none =>
      rw [e] at q'
      exact hh a o (rh.gh a o q')
    | some o' =>
      rw [e] at q'
      cases q'
      exact b.fh a o e
  · show (match s'.f a with
      | some o => some o
      | none => s.g a) = s.g a
    rw [nf a h]
    cases e : s.f a with
    | none => rfl
    | some o' => exact (rh.fg a o' e).symm
  · exact b.iv a I (b.ei a I (hi a I q))
  · show (match s'.f l with
      | some o => some o
      | none => s.g l) = none
    rw [h2]
    exact Same.free rh.gh (Same.free rh.hw h1)
section
variable {X : Cx} {e0 : Hs} {W : WX} {pos : Pos} {st : Stmt}
theorem new_core {C : Addr} {dvs : List V} {S : DMu} {es : List Expr} {Ta : TA} {ta : TAd} (hdv : dvOk dvs = true) (ha : VA X e0 es Ta ta) :
    ∀ (s : Hs) (σ : St) (ρ : DEnv) (P : DK) (Q : VK), Rep X.K e0 s σ ρ → eNew C dvs S ta ρ P → (∀ s' k v x, Grow s s' → RK X.K s.w s' k v x → P k x → Q v s'.w) → tMake C (spM X.K S) dvs E0 Ta σ s.w Q := by
  intro s σ ρ P Q rp t k
  refine ha.run s σ ρ _ _ rp t fun s1 vs as g1 ar hxl t1 => ?_
  intro x dx hx hdx hne
  have rp1 := rp.grow g1
  have hxh : s1.h x = none := Same.free rp1.rh.hw hx
  have hdh : s1.h dx = none := Same.free rp1.rh.hw hdx
  have hhw : Same s1.h (upd (upd s1.w dx (.own x)) x (.ins C dx [])) := fun b o q => by
    rw [upd_ne (ne_of_none q hxh), upd_ne (ne_of_none q hdh)]; exact rp1.rh.hw b o q
  have hHW : Same (upd s1.h x (.ins C dx [])) (upd (upd s1.w dx (.own x)) x (.ins C dx [])) := fun b o q => by
    by_cases z : b = x
    · subst z; rw [upd_same] at q ⊢; exact q
    · rw [upd_ne z] at q ⊢
      rw [upd_ne (ne_of_none q hdh)]; exact rp1.rh.hw b o q
  have arN : ArgsR X.K s1.f s1.h s1.i (vs ++ dvs) (norm as ++ dvD dvs) := ar.norm.app (ArgsR.dv hdv)
  have hiv : IvOk (entM s1.f s1.h (upd s1.h x (.ins C dx [])) (upd (upd s1.w dx (.own x)) x (.ins C dx [])) s1.i) := fun a I q => by
    obtain ⟨h1, ns, h2, h3⟩ := rp1.rh.iv a I q
    have n1 : a ≠ x := fun z => by rw [z] at h3; rw [hx] at h3; cases h3
    have n2 : a ≠ dx := fun z => by rw [z] at h3; rw [hdx] at h3; cases h3
    exact ⟨by show upd s1.h x _ a = none; rw [upd_ne n1]; exact h1, ns, h2, by show upd (upd s1.w dx _) x _ a = _; rw [upd_ne n1, upd_ne n2]; exact h3⟩
  refine ⟨s1.f, s1.h, upd s1.h x (.ins C dx []), s1.i, (.mt (.obj x C []), (Ot.obj x C []).dt) :: (norm as ++ dvD dvs), fun k x ts => k = .fz ∧ x = .non ∧ ∃ u, ts = [u] ∧ P (.ft u) u.dt, fun _ _ => False, rp1.rh.fh, same_upd hxh, hHW, hiv, ?_, t1 x, ?_, fun s' c d x ts b rx mu q => q.elim⟩
  · refine .mt (.obj upd_same .nil) (fun a h => ?_) (by simp [Ot.fp, Ot.fpf]) (fun a h => by rw [arN.mfp0]; exact fun z => nomatch z) arN.toM
    rw [List.mem_singleton.mp h]; exact hxh
  · intro s' kk v y ts b r mu hd q
    obtain ⟨rfl, rfl, u, rfl, q⟩ := q
    obtain ⟨m1, m2, m3, m4, m5, m6⟩ := mu
    have ev : v = .non := by cases r; rfl
    have hW : ∀ a, s1.w a ≠ none → upd (upd s1.w dx (.own x)) x (.ins C dx []) a ≠ none := fun a h => upd_some (upd_some h)
    obtain ⟨s2, g2, ef, eh, ew, hl⟩ := back_growM rp1.rh (fun _ _ h => h) hW b
    have fresh : ∀ a ∈ u.fp, s1.w a = none := fun a h => by
      rcases m3 a h with z | z
      · rw [List.mem_singleton.mp z]; exact hx
      · by_cases e1 : a = x
        · rw [e1]; exact hx
        · rw [upd_ne e1] at z
          by_cases e2 : a = dx
          · rw [e2]; exact hdx
          · rw [upd_ne e2] at z; exact z
    refine ⟨ev, ?_⟩
    have q' := k s2 (.ft u) (.ref x) u.dt (g1.trans g2) ⟨rfl, fun a h => g1.nw (fresh a h), fun a h => hl a (fresh a h) (Same.free b.fg (m2 a h)), m4, by rw [ef, eh]; exact m1⟩ q
    rw [ew] at q'
    exact q'
theorem ve_new {K : PySem.W.Frag} (hK : X.K = K) {k : Nat} {x : Str} {C : Addr} {ps : List Str} {dvs : List V} {S : DMu} {p : Pos} {e : Expr} {es : List Expr} {Ta : TA} {ta : TAd} (h : HasNew X.prog X.w X.K X.mg X.base k x C ps dvs S) (hr : Room (k + 1) X.A) (hg : Gl X x) (ha : VA X e0 (e :: es) Ta ta) (hdv : dvOk dvs = true := by rfl)
    (hdb : (x == ("__debug__" : Str)) = false := by decide) (he : starEach (e :: es) X.env = (false, eval e X.env) :: starEach es X.env := by rfl) (hpl : (backTo pos (starEach es X.env)).any (·.1) = false := by rfl) :
    VE X e0 (.Call (.Name x p) (e :: es) [] pos) (tMake C (spM K S) dvs E0 Ta) (eNew C dvs S ta) := by
  subst hK
  obtain ⟨f, fd, ds, F, M, hm, hb, hv⟩ := h
  exact ⟨pe_make M F hr hg hm hb hv pass0 ha.pe hdb he hpl, new_core hdv ha⟩
end
/-! ### calls that change slots' trees -/
/-- a kind that stays readable whatever is changed -/
def msK : Kd → Bool
  | .fz => true
  | .fr => true
  | .ft _ => true
  | .vw => true
  | .vt _ => true
  | .iv _ => true
  | _ => false
inductive ArgsS (K : PySem.W.Frag) (s : Hs) (σ : St) (ρ : DEnv) : List V → List (Kd × Dt) → List Nat → Prop
  | nil : ArgsS K s σ ρ [] [] []
  | fz {v : V} {x : Dt} {vs : List V} {as : List (Kd × Dt)} {js : List Nat} : Rp K s.f v x → ArgsS K s σ ρ vs as js → ArgsS K s σ ρ (v :: vs) ((.fz, x) :: as) js
  | rd {v : V} {x : Dt} {vs : List V} {as : List (Kd × Dt)} {js : List Nat} : Rq K s.f s.g v x → ArgsS K s σ ρ vs as js → ArgsS K s σ ρ (v :: vs) ((.rd, x) :: as) js
  | rt {v : V} {t : Ot} {vs : List V} {as : List (Kd × Dt)} {js : List Nat} : OwT K s.f s.g v t → ArgsS K s σ ρ vs as js → ArgsS K s σ ρ (v :: vs) ((.rt t, t.dt) :: as) js
  | iv {a : Addr} {I : List Int → Prop} {vs : List V} {as : List (Kd × Dt)} {js : List Nat} : s.i a = some I → ArgsS K s σ ρ vs as js → ArgsS K s σ ρ (.ref a :: vs) ((.iv I, .lst []) :: as) js
  | mt {v : V} {i : Nat} {kd : Kd} {x : Dt} {t : Ot} {vs : List V} {as : List (Kd × Dt)} {js : List Nat} : ρ[i]? = some (Sl.v kd x) → kd.tree = some t → σ[i]? = some (some v) → i ∉ js → ArgsS K s σ ρ vs as js → ArgsS K s σ ρ (v :: vs) ((.mt t, t.dt) :: as) (i :: js)
theorem ArgsS.length {K : PySem.W.Frag} {s : Hs} {σ : St} {ρ : DEnv} : ∀ {vs : List V} {as : List (Kd × Dt)} {js : List Nat}, ArgsS K s σ ρ vs as js → vs.length = as.length
  | _, _, _, .nil => rfl
  | _, _, _, .fz _ t => congrArg (· + 1) t.length
  | _, _, _, .rd _ t => congrArg (· + 1) t.length
  | _, _, _, .rt _ t => congrArg (· + 1) t.length
  | _, _, _, .iv _ t => congrArg (· + 1) t.length
  | _, _, _, .mt _ _ _ _ t => congrArg (· + 1) t.length
theorem ArgsS.mfp {K : PySem.W.Frag} {s : Hs} {σ : St} {ρ : DEnv} : ∀ {vs : List V} {as : List (Kd × Dt)} {js : List Nat}, ArgsS K s σ ρ vs as js → ∀ a ∈ Tq.mfp as, ∃ (j : Nat) (kd : Kd) (x : Dt) (t : Ot), j ∈ js ∧ ρ[j]? = some (Sl.v kd x) ∧ kd.tree = some t ∧ a ∈ t.fp
  | _, _, _, .nil, a, h => by cases h
  | _, _, _, .fz (as := as) _ t, a, h => t.mfp a (show a ∈ Tq.mfp as from h)
  | _, _, _, .rd (as := as) _ t, a, h => t.mfp a (show a ∈ Tq.mfp as from h)
  | _, _, _, .rt (as := as) _ t, a, h => t.mfp a (show a ∈ Tq.mfp as from h)
  | _, _, _, .iv (as := as) _ t, a, h => t.mfp a (show a ∈ Tq.mfp as from h)
  | _, _, _, .mt (i := i) (t := t0) (as := as) h1 h2 h3 h4 t, a, h => by
    rcases List.mem_append.mp (show a ∈ t0.fp ++ Tq.mfp as from h) with z | z
    · exact ⟨i, _, _, t0, List.mem_cons_self, h1, h2, z⟩
    · obtain ⟨j, kd, x, t1, q1, q2⟩ := t.mfp a z
      exact ⟨j, kd, x, t1, List.mem_cons_of_mem _ q1, q2⟩
theorem ArgsS.nodup {K : PySem.W.Frag} {s : Hs} {σ : St} {ρ : DEnv} : ∀ {vs : List V} {as : List (Kd × Dt)} {js : List Nat}, ArgsS K s σ ρ vs as js → js.Nodup
  | _, _, _, .nil => .nil
  | _, _, _, .fz _ t => t.nodup
  | _, _, _, .rd _ t => t.nodup
  | _, _, _, .rt _ t => t.nodup
  | _, _, _, .iv _ t => t.nodup
  | _, _, _, .mt _ _ _ h t => List.nodup_cons.mpr ⟨h, t.nodup⟩
theorem ArgsS.js {K : PySem.W.Frag} {s : Hs} {σ : St} {ρ : DEnv} : ∀ {vs : List V} {as : List (Kd × Dt)} {js : List Nat}, ArgsS K s σ ρ vs as js → ∀ i ∈ js, ∃ (kd : Kd) (x : Dt) (t : Ot), ρ[i]? = some (Sl.v kd x) ∧ kd.tree = some t
  | _, _, _, .nil, i, h => by cases h
  | _, _, _, .fz _ t, i, h => t.js i h
  | _, _, _, .rd _ t, i, h => t.js i h
  | _, _, _, .rt _ t, i, h => t.js i h
  | _, _, _, .iv _ t, i, h => t.js i h
  | _, _, _, .mt h1 h2 _ _ t, i, h => by
    rcases List.mem_cons.mp h with z | z
    · subst z; exact ⟨_, _, _, h1, h2⟩
    · exact t.js i z
theorem ArgsS.grow {K : PySem.W.Frag} {s s' : Hs} {σ : St} {ρ : DEnv} (g : Grow s s') : ∀ {vs : List V} {as : List (Kd × Dt)} {js : List Nat}, ArgsS K s σ ρ vs as js → ArgsS K s' σ ρ vs as js
  | _, _, _, .nil => .nil
  | _, _, _, .fz r t => .fz (r.mono g.f) (t.grow g)
  | _, _, _, .rd r t => .rd (r.mono g.f g.g) (t.grow g)
  | _, _, _, .rt r t => .rt (r.mono g.f g.g) (t.grow g)
  | _, _, _, .iv r t => .iv (g.i _ _ r) (t.grow g)
  | _, _, _, .mt h1 h2 h3 h4 t => .mt h1 h2 h3 h4 (t.grow g)
/-- the slots' new trees -/
def setMs : List Nat → List Ot → DEnv → DEnv
  | i :: is, u :: us, ρ => setMs is us (plSet ρ[i]? i [] u ρ)
  | _, _, ρ => ρ
theorem put_nil {t u : Ot} : t.put [] u = u := by unfold Ot.put; rfl
theorem setMs_len : ∀ {js : List Nat} {ts : List Ot} {ρ : DEnv}, (setMs js ts ρ).length = ρ.length
  | [], ts, ρ => by cases ts <;> rfl
  | i :: is, [], ρ => rfl
  | i :: is, u :: us, ρ => by
    show (setMs is us (plSet ρ[i]? i [] u ρ)).length = _
    rw [setMs_len]
    unfold plSet
    split <;> simp
theorem setMs_at : ∀ {js : List Nat} {ts : List Ot} {ρ : DEnv}, js.Nodup → ts.length = js.length → (∀ i ∈ js, ∃ (kd : Kd) (x : Dt) (t : Ot), ρ[i]? = some (Sl.v kd x) ∧ kd.tree = some t) → ∀ (j : Nat) (k : Kd) (x : Dt), (setMs js ts ρ)[j]? = some (Sl.v k x) →
    (j ∉ js ∧ ρ[j]? = some (Sl.v k x)) ∨ ∃ (n : Nat) (kd : Kd) (y : Dt) (t u : Ot), js[n]? = some j ∧ ts[n]? = some u ∧ ρ[j]? = some (Sl.v kd y) ∧ kd.tree = some t ∧ k = kd.withT u ∧ x = u.dt
  | [], ts, ρ, _, _, _, j, k, x, h => .inl ⟨(fun z => nomatch z), by cases ts <;> exact h⟩
  | i :: is, [], ρ, _, hl, _, j, k, x, h => by cases hl
  | i :: is, u :: us, ρ, hn, hl, hs, j, k, x, h => by
    have hn' := List.nodup_cons.mp hn
    obtain ⟨kd, y, t, q, ht⟩ := hs i List.mem_cons_self
    have e : setMs (i :: is) (u :: us) ρ = setMs is us (ρ.set i (.v (kd.withT u) u.dt)) := by
      show setMs is us (plSet ρ[i]? i [] u ρ) = _
      rw [plSet_eq q ht, put_nil]
    rw [e] at h
    have hlt : i < ρ.length := (List.getElem?_eq_some_iff.mp q).1
    have hs' : ∀ m ∈ is, ∃ (kd' : Kd) (x' : Dt) (t' : Ot), (ρ.set i (.v (kd.withT u) u.dt))[m]? = some (Sl.v kd' x') ∧ kd'.tree = some t' := fun m hm => by
      obtain ⟨kd', x', t', q', ht'⟩ := hs m (List.mem_cons_of_mem _ hm)
      have hne : i ≠ m := fun z => hn'.1 (z ▸ hm)
      exact ⟨kd', x', t', by rw [List.getElem?_set_ne hne]; exact q', ht'⟩
    rcases setMs_at hn'.2 (by simpa using hl) hs' j k x h with ⟨h1, h2⟩ | ⟨n, kd', y', t', u', h1, h2, h3, h4, h5, h6⟩
    · by_cases e2 : i = j
      · subst e2
        rw [List.getElem?_set_self hlt] at h2
        cases h2
        exact .inr ⟨0, kd, y, t, u, rfl, rfl, q, ht, rfl, rfl⟩
      · rw [List.getElem?_set_ne e2] at h2
        exact .inl ⟨fun z => (List.mem_cons.mp z).elim (fun z => e2 z.symm) h1, h2⟩
    · have hne : i ≠ j := fun z => hn'.1 (z ▸ List.mem_of_getElem? h1)
      rw [List.getElem?_set_ne hne] at h3
      exact .inr ⟨n + 1, kd', y', t', u', by simpa using h1, by simpa using h2, h3, h4, h5, h6⟩
theorem mur_facts {K : PySem.W.Frag} {s s' : Hs} {σ : St} {ρ : DEnv} {W0 : Hp} : ∀ {vs : List V} {as : List (Kd × Dt)} {js : List Nat}, ArgsS K s σ ρ vs as js → ∀ {ts : List Ot}, MuR K W0 s' vs as ts →
    ts.length = js.length ∧ (∀ (n i : Nat) (u : Ot), js[n]? = some i → ts[n]? = some u → ∃ (v : V) (t : Ot) (kd : Kd) (x : Dt), σ[i]? = some (some v) ∧ ρ[i]? = some (Sl.v kd x) ∧ kd.tree = some t ∧ OwT K s'.f s'.h v u ∧ (∀ a ∈ u.fp, s'.g a = none) ∧ (∀ a ∈ u.fp, a ∈ t.fp ∨ W0 a = none) ∧ u.fp.Nodup) ∧
    (∀ (n m : Nat) (u w : Ot), n ≠ m → ts[n]? = some u → ts[m]? = some w → ∀ a ∈ u.fp, a ∉ w.fp)
  | _, _, _, .nil, ts, h => by
    have : ts = [] := h
    subst this
    exact ⟨rfl, (fun n i u h1 => by simp at h1), (fun n m u w _ h1 => by simp at h1)⟩
  | _, _, _, .fz (vs := vs) (as := as) _ t, ts, h => mur_facts t (show MuR K W0 s' vs as ts from h)
  | _, _, _, .rd (vs := vs) (as := as) _ t, ts, h => mur_facts t (show MuR K W0 s' vs as ts from h)
  | _, _, _, .rt (vs := vs) (as := as) _ t, ts, h => mur_facts t (show MuR K W0 s' vs as ts from h)
  | _, _, _, .iv (vs := vs) (as := as) _ t, ts, h => mur_facts t (show MuR K W0 s' vs as ts from h)
  | _, _, _, .mt h1 h2 h3 h4 t, [], h => h.elim
  | _, _, _, .mt (v := v) (i := i) (vs := vs) (as := as) (js := js) h1 h2 h3 h4 t, u :: ts, h => by
    obtain ⟨m1, m2, m3, m4, m5, m6⟩ := h
    obtain ⟨l1, l2, l3⟩ := mur_facts t m6
    have far : ∀ (m : Nat) (w : Ot), ts[m]? = some w → ∀ a ∈ u.fp, a ∉ w.fp := fun m w e a ha hb => m5 a ha (fps_at e a hb)
    refine ⟨by rw [List.length_cons, List.length_cons, l1], fun n j w e1 e2 => ?_, fun n m w z hne e1 e2 => ?_⟩
    · cases n with
      | zero =>
        simp at e1 e2
        subst e1; subst e2
        exact ⟨v, _, _, _, h3, h1, h2, m1, m2, m3, m4⟩
      | succ n => exact l2 n j w (by simpa using e1) (by simpa using e2)
    · cases n with
      | zero =>
        cases m with
        | zero => exact absurd rfl hne
        | succ m => simp at e1; subst e1; exact far m z (by simpa using e2)
      | succ n =>
        cases m with
        | zero => simp at e2; subst e2; exact fun a ha hb => far n w (by simpa using e1) a hb ha
        | succ m => exact l3 n m w z (fun q => hne (by rw [q])) (by simpa using e1) (by simpa using e2)
/-- the answer and the slots behind such a call -/
def MuPost (K : PySem.W.Frag) (e0 s : Hs) (σ : St) (P : DEnv → DK) (Q : VK) : Prop := ∀ s' ρ' k v x, Rep K e0 s' σ ρ' → Ext s s' → RK K e0.w s' k v x → (∀ a ∈ rfp k v, ∀ (j : Nat) (k2 : Kd) (y : Dt), ρ'[j]? = some (Sl.v k2 y) → a ∉ k2.fp) → P ρ' k x → Q v s'.w
theorem kd_fp {K : PySem.W.Frag} {B : Hp} {s : Hs} {k : Kd} {v : V} {x : Dt} (r : RK K B s k v x) : (∀ a ∈ k.fp, s.h a ≠ none) ∧ ∀ a ∈ k.fp, s.g a = none := by
  cases k with
  | ow l => exact ⟨fun a h => by rw [List.mem_singleton.mp h]; exact r.2.2.2.there, fun a h => by rw [List.mem_singleton.mp h]; exact r.2.2.1⟩
  | tr t => exact ⟨fun a h => r.2.2.2.2.there a h, r.2.2.1⟩
  | mt t => exact ⟨fun a h => r.2.2.2.there a h, r.2.1⟩
  | _ => exact ⟨(fun a h => nomatch h), (fun a h => nomatch h)⟩
theorem mu_core {K : PySem.W.Frag} {e0 s : Hs} {σ : St} {ρ : DEnv} {vs : List V} {as : List (Kd × Dt)} {js : List Nat} {S : DMu} {P : DEnv → DK} {Q : VK} {E : XK} (rp : Rep K e0 s σ ρ) (ar : ArgsS K s σ ρ vs as js)
    (t : S as (fun k x ts => P (setMs js ts ρ) k x) (fun _ _ => False)) (k : MuPost K e0 s σ P Q) : spM K S vs s.w Q E := by
  -- the places that are handed over
  have hL : ∀ a ∈ mfp as, s.g a = none ∧ s.h a ≠ none := fun a h => by
    obtain ⟨j, kd, x, t0, _, q, ht, hf⟩ := ar.mfp a h
    obtain ⟨v, _, r, _⟩ := rp.sl j kd x q
    obtain ⟨f1, f2⟩ := kd_fp r
    have := tree_fp ht
    exact ⟨f2 a (this ▸ hf), f1 a (this ▸ hf)⟩
  let G : Hp := fun a => if a ∈ mfp as then none else s.h a
  have hGh : Same G s.h := fun a o q => by
    have q' : (if a ∈ mfp as then none else s.h a) = some o := q
    by_cases z : a ∈ mfp as
    · rw [if_pos z] at q'; cases q'
    · rw [if_neg z] at q'; exact q'
  have hgG : Same s.g G := fun a o q => by
    show (if a ∈ mfp as then none else s.h a) = some o
    rw [if_neg (fun z => by rw [(hL a z).1] at q; cases q)]
    exact rp.rh.gh a o q
  have key : ∀ {vs : List V} {bs : List (Kd × Dt)} {js : List Nat}, ArgsS K s σ ρ vs bs js → (∀ a ∈ mfp bs, a ∈ mfp as) → ArgsM K s.f G s.h s.i vs bs := by
    intro vs bs js ar
    induction ar with
    | nil => exact fun _ => .nil
    | fz r t ih => exact fun h => .fz r (ih h)
    | rd r t ih => exact fun h => .rd (r.mono (Same.refl _) hgG) (ih h)
    | rt r t ih => exact fun h => .rt (r.mono (Same.refl _) hgG) (ih h)
    | iv r t ih => exact fun h => .iv r (ih h)
    | mt h1 h2 h3 h4 t ih =>
      rename_i v i kd x t0 vs bs js
      intro h
      obtain ⟨v', g1, g2, g3, g4⟩ := rp.tree h1 h2
      rw [h3] at g1
      obtain rfl : v = v' := Option.some.inj (Option.some.inj g1)
      refine .mt g2 (fun a ha => ?_) g3 (fun a ha hb => ?_) (ih fun a ha => h a (List.mem_append_right _ ha))
      · show (if a ∈ mfp as then none else s.h a) = none
        rw [if_pos (h a (List.mem_append_left _ ha))]
      · obtain ⟨j, kd', x', t', q1, q2, q3, q4⟩ := t.mfp a hb
        exact rp.dj i j kd kd' x x' h1 q2 (fun z => h4 (z ▸ q1)) a (tree_fp h2 ▸ ha) (tree_fp q3 ▸ q4)
  refine ⟨s.f, G, s.h, s.i, as, fun k x ts => P (setMs js ts ρ) k x, fun _ _ => False, rp.rh.fg.trans hgG, hGh, rp.rh.hw, rp.rh.iv, key ar fun _ h => h, t, fun s' kk v x ts b r mu hd q => ?_, fun s' c d x ts b rx mu q => q.elim⟩
  obtain ⟨l1, l2, l3⟩ := mur_facts ar mu
  have nf : ∀ a, s.w a ≠ none → s'.f a = s.f a := fun a h => b.nf a h
  let s2 : Hs := ⟨s'.f, fun a => match s'.f a with
    | some o => some o
    | none => s.g a, s'.h, s'.w, s.i, s.m⟩
  have g2f : ∀ a, s'.f a = none → s2.g a = s.g a := fun a h => by
    show (match s'.f a with
      | some o => some o
      | none => s.g a) = s.g a
    rw [h]
  have gg : Same s.g s2.g := fun a o q => by
    show (match s'.f a with
      | some o => some o
      | none => s.g a) = some o
    have h : s'.f a = s.f a := nf a (ne_none (rp.rh.gw _ _ q))
    rw [h]
    cases e : s.f a with
    | none => exact q
    | some o' => exact (rp.rh.fg a o' e).symm.trans q
  have fg2 : Same s'.f s2.g := fun a o q => by
    show (match s'.f a with
      | some o => some o
      | none => s.g a) = some o
    rw [q]
  have gh2 : Same s2.g s'.h := fun a o q => by
    cases e : s'.f a with
    | none =>
      rw [g2f a e] at q
      exact b.gh _ _ (b.eg _ _ (hgG a o q))
    | some o' =>
      rw [fg2 a o' e] at q
      cases q
      exact b.fh a o e
  have rest : ∀ a, s.h a ≠ none → a ∉ mfp as → ∀ o, s.h a = some o → s'.h a = some o := fun a _ h o q => b.gh _ _ (b.eg a o (by
    show (if a ∈ mfp as then none else s.h a) = some o
    rw [if_neg h]; exact q))
  have rh2 : RH e0 s2 := ⟨fg2, gh2, b.hw, rp.rh.ef.trans b.ef, rp.rh.eg.trans gg, fun a h => (nf a (rp.rh.ew a h)).trans (rp.rh.nf a h), fun a h => b.ew a (rp.rh.ew a h), fun a I q => b.iv a I (b.ei a I q), rp.rh.ei⟩
  have x2 : Ext s s2 := ⟨b.ef, gg, fun _ _ h => h⟩
  have at_ := setMs_at (ρ := ρ) ar.nodup l1 ar.js
  -- a changed tree
  have new_ : ∀ (n i : Nat) (u : Ot) (kd : Kd) (y : Dt), js[n]? = some i → ts[n]? = some u → ρ[i]? = some (Sl.v kd y) → (∀ a ∈ u.fp, a ∈ kd.fp ∨ s.w a = none) ∧ (∀ a ∈ u.fp, s2.g a = none) ∧ ∃ v, σ[i]? = some (some v) ∧ OwT K s'.f s'.h v u ∧ u.fp.Nodup := fun n i u kd y e1 e2 q => by
    obtain ⟨v, t0, kd', y', h1, h2, h3, h4, h5, h6, h7⟩ := l2 n i u e1 e2
    rw [q] at h2
    cases h2
    have hf := tree_fp h3
    have hor : ∀ a ∈ u.fp, a ∈ kd.fp ∨ s.w a = none := fun a ha => (h6 a ha).elim (fun z => .inl (hf ▸ z)) .inr
    refine ⟨hor, fun a ha => ?_, v, h1, h4, h7⟩
    rw [g2f a (Same.free b.fg (h5 a ha))]
    rcases hor a ha with z | z
    · obtain ⟨_, _, r0, _⟩ := rp.sl i kd y q
      exact (kd_fp r0).2 a z
    · exact Same.free rp.rh.gw z
  have old_ : ∀ (j : Nat) (kd : Kd) (y : Dt), j ∉ js → ρ[j]? = some (Sl.v kd y) → ∀ a ∈ kd.fp, a ∉ mfp as := fun j kd y hj q a ha hm => by
    obtain ⟨i, kd', x', t', q1, q2, q3, q4⟩ := ar.mfp a hm
    exact rp.dj j i kd kd' y x' q q2 (fun z => hj (z ▸ q1)) a ha (tree_fp q3 ▸ q4)
  have wfp : ∀ {kd : Kd} {t u : Ot}, kd.tree = some t → (kd.withT u).fp = u.fp := fun {kd t u} h => by cases kd <;> cases h <;> rfl
  refine k s2 (setMs js ts ρ) kk v x ⟨rh2, by rw [setMs_len]; exact rp.len, fun j kj y h => ?_, fun j j' k1 k2 y z h1 h2 hne => ?_, fun j t0 y h => ?_⟩ x2 ?_ ?_ q
  · rcases at_ j kj y h with ⟨h1, h2⟩ | ⟨n, kd, y0, t0, u, h1, h2, h3, h4, h5, h6⟩
    · obtain ⟨v0, g1, g2, g3⟩ := rp.sl j kj y h2
      have hn := old_ j kj y h1 h2
      obtain ⟨f1, f2⟩ := kd_fp g2
      have ng : ∀ a ∈ kj.fp, s2.g a = none := fun a ha => by
        have e : s'.f a = none := by
          rw [nf a (Same.some_ne rp.rh.hw (f1 a ha))]
          exact Same.free rp.rh.fg (f2 a ha)
        rw [g2f a e]; exact f2 a ha
      have kp : ∀ a ∈ kj.fp, ∀ o, s.h a = some o → s'.h a = some o := fun a ha => rest a (f1 a ha) (hn a ha)
      refine ⟨v0, g1, ?_, g3⟩
      cases kj with
      | fz => exact Rp.mono b.ef g2
      | vw => exact Rq.mono b.ef gg g2
      | vt t => exact ⟨g2.1, g2.2.mono b.ef gg⟩
      | iv I => exact g2
      | ow l =>
        obtain ⟨w1, w2, w3, w4⟩ := g2
        exact ⟨w1, w2, ng l (List.mem_singleton.mpr rfl), w4.keep b.ef (kp l (List.mem_singleton.mpr rfl))⟩
      | tr t =>
        obtain ⟨w1, w2, w3, w4, w5⟩ := g2
        exact ⟨w1, w2, ng, w4, w5.keep b.ef kp⟩
      | mt t =>
        obtain ⟨w1, w3, w4, w5⟩ := g2
        exact ⟨w1, ng, w4, w5.keep b.ef kp⟩
      | _ => cases g3
    · obtain ⟨n1, n2, v0, n3, n4, n5⟩ := new_ n j u kd y0 h1 h2 h3
      subst h5; subst h6
      refine ⟨v0, n3, ?_, by cases kd <;> cases h4 <;> rfl⟩
      obtain ⟨_, _, r0, _⟩ := rp.sl j kd y0 h3
      cases kd <;> cases h4
      · exact ⟨rfl, fun a ha => (n1 a ha).elim (fun z => r0.2.1 a z) (fun z => rp.rh.ewn z), n2, n5, n4⟩
      · exact ⟨rfl, n2, n5, n4⟩
  · intro a ha hb
    rcases at_ j k1 y h1 with ⟨a1, a2⟩ | ⟨n, kd, y0, t0, u, a1, a2, a3, a4, a5, a6⟩ <;> rcases at_ j' k2 z h2 with ⟨b1, b2⟩ | ⟨m, kd', y1, t1, u', b1, b2, b3, b4, b5, b6⟩
    · exact rp.dj j j' k1 k2 y z a2 b2 hne a ha hb
    · obtain ⟨n1, _⟩ := new_ m j' u' kd' y1 b1 b2 b3
      rw [b5, wfp b4] at hb
      rcases n1 a hb with q | q
      · exact rp.dj j j' k1 kd' y y1 a2 b3 hne a ha q
      · exact rp.apart q a2 ha
    · obtain ⟨n1, _⟩ := new_ n j u kd y0 a1 a2 a3
      rw [a5, wfp a4] at ha
      rcases n1 a ha with q | q
      · exact rp.dj j j' kd k2 y0 z a3 b2 hne a q hb
      · exact rp.apart q b2 hb
    · rw [a5, wfp a4] at ha
      rw [b5, wfp b4] at hb
      refine l3 n m u u' (fun q => hne ?_) a2 b2 a ha hb
      subst q
      rw [a1] at b1
      exact Option.some.inj b1
  · rcases at_ j (.mt t0) y h with ⟨h1, h2⟩ | ⟨n, kd, y0, t1, u, h1, h2, h3, h4, h5, h6⟩
    · exact rp.mt j t0 y h2
    · obtain ⟨n1, _⟩ := new_ n j u kd y0 h1 h2 h3
      cases kd <;> cases h4 <;> cases h5
      obtain ⟨v0, L, m1, m2, m3⟩ := rp.mt j _ y0 h3
      exact ⟨v0, L, m1, m2, fun a ha => (n1 a ha).elim (fun z => m3 a z) fun z => .inr (rp.rh.ewn z)⟩
  · cases kk with
    | fz => exact r
    | fr =>
      obtain ⟨l, e1, h1, h2, o⟩ := r
      exact ⟨l, e1, rp.rh.ewn h1, by rw [g2f l h2]; exact Same.free rp.rh.gw h1, o⟩
    | ft t =>
      obtain ⟨e1, h, d, o⟩ := r
      exact ⟨e1, fun c hc => rp.rh.ewn (h c hc).1, fun c hc => by rw [g2f c (h c hc).2]; exact Same.free rp.rh.gw (h c hc).1, d, o⟩
    | _ => exact r.elim
  · intro a ha j k2 y h hb
    have fr : s.w a = none := by
      cases kk with
      | fr =>
        obtain ⟨l, e1, h1, h2, o⟩ := r
        subst e1
        rw [List.mem_singleton.mp ha]; exact h1
      | ft t => exact (r.2.1 a ha).1
      | _ => cases ha
    rcases at_ j k2 y h with ⟨h1, h2⟩ | ⟨n, kd, y0, t1, u, h1, h2, h3, h4, h5, h6⟩
    · exact rp.apart fr h2 hb
    · rw [h5, wfp h4] at hb
      exact hd a ha (fps_at h2 a hb)
end Tq
set_option Elab.async false
set_option linter.all false
set_option autoImplicit false
set_option maxRecDepth 100000
set_option maxHeartbeats 4000000
namespace Tq
open PySem PySem.Spec L2
open PyProof.Rows hiding St
/-! ### expressions that change slots -/
abbrev TMd := DEnv → (DEnv → DK) → Prop
structure VM (X : Cx) (e0 : Hs) (e : Expr) (T : TE) (t : TMd) : Prop where
  pe : PE X e T
  run : ∀ (s : Hs) (σ : St) (ρ : DEnv) (P : DEnv → DK) (Q : VK), Rep X.K e0 s σ ρ → t ρ P → MuPost X.K e0 s σ P Q → T σ s.w Q
theorem MuPost.ext {K : PySem.W.Frag} {e0 s s1 : Hs} {σ : St} {P : DEnv → DK} {Q : VK} (k : MuPost K e0 s σ P Q) (x : Ext s s1) : MuPost K e0 s1 σ P Q := fun s' ρ' kk v y rp x' r d q => k s' ρ' kk v y rp (x.trans x') r d q
abbrev TAMd := DEnv → (List (Kd × Dt) → List Nat → Prop) → Prop
structure VAm (X : Cx) (e0 : Hs) (es : List Expr) (T : TA) (t : TAMd) : Prop where
  pe : PA X es T
  run : ∀ (s : Hs) (σ : St) (ρ : DEnv) (P : List (Kd × Dt) → List Nat → Prop) (Q : List V → Hp → Prop), Rep X.K e0 s σ ρ → t ρ P →
    (∀ s' vs as js, Grow s s' → ArgsS X.K s' σ ρ vs as js → P as js → Q vs s'.w) → T σ s.w Q
section
variable {X : Cx} {e0 : Hs} {W : WX} {pos : Pos} {st : Stmt}
def amNil : TAMd := fun _ P => P [] []
theorem vam_nil : VAm X e0 [] tNil amNil := ⟨pa_nil, fun s σ ρ P Q rp t k => k s [] [] [] rp.self .nil t⟩
def Kd.arg2 : Kd → Kd
  | .vw => .rd
  | .vt t => .rt t
  | .iv I => .iv I
  | _ => .fz
def amCons (t : TEd) (u : TAMd) : TAMd := fun ρ P => t ρ fun k x => msK k = true ∧ u ρ fun as js => P (normA (k.arg2, x) :: as) js
theorem ArgsS.norm1 {K : PySem.W.Frag} {s : Hs} {σ : St} {ρ : DEnv} {v : V} {x : Dt} {vs : List V} {as : List (Kd × Dt)} {js : List Nat} (r : Rq K s.f s.g v x) (t : ArgsS K s σ ρ vs as js) : ArgsS K s σ ρ (v :: vs) (normA (.rd, x) :: as) js := by
  cases x with
  | lst ds => exact .rd r t
  | dct ds => exact .rd r t
  | _ =>
    refine .fz ?_ t
    rcases r with r | ⟨_, _, _, _, e, _⟩ | ⟨_, _, _, _, e, _⟩
    · exact r
    · cases e
    · cases e
theorem normA_fz {x : Dt} : normA (.fz, x) = normA (.rd, x) := by cases x <;> rfl
theorem vam_cons {e : Expr} {es : List Expr} {T : TE} {Ta : TA} {t : TEd} {u : TAMd} (h : VE X e0 e T t) (h' : VAm X e0 es Ta u) (hs : starEach (e :: es) X.env = (false, eval e X.env) :: starEach es X.env := by rfl) : VAm X e0 (e :: es) (tCons T Ta) (amCons t u) := by
  obtain ⟨pe, r⟩ := h
  obtain ⟨pe', r'⟩ := h'
  refine ⟨pa_cons pe pe' hs, fun s σ ρ P Q rp t k => ?_⟩
  refine r s σ ρ _ (fun v H => Ta σ H fun vs H2 => Q (v :: vs) H2) rp t fun s1 k1 v1 x1 g1 r1 t1 => ?_
  obtain ⟨hk, t1⟩ := t1
  by_cases hst : k1.st = true
  · obtain ⟨s2, g2, e2, w2, f2, p2⟩ := r1.freeze g1 hst
    have h : Ta σ s2.w fun vs H2 => Q (v1 :: vs) H2 := by
      refine r' s2 σ ρ _ _ (rp.grow g2) t1 fun s3 vs as js g3 ar t3 => ?_
      refine k s3 (v1 :: vs) _ js (g2.trans g3) ?_ t3
      have ek : k1.arg2 = .fz := by cases k1 <;> first | rfl | cases hst
      rw [ek, normA_fz]
      exact ArgsS.norm1 (.inl (p2.mono g3.f)) ar
    rw [w2] at h
    exact h
  · refine r' s1 σ ρ _ _ (rp.grow g1) t1 fun s3 vs as js g3 ar t3 => ?_
    have r3 := r1.grow g3
    refine k s3 (v1 :: vs) _ js (g1.trans g3) ?_ t3
    cases k1 with
    | vw => exact ArgsS.norm1 r3 ar
    | vt t0 => obtain ⟨rfl, ow⟩ := r3; exact .rt ow ar
    | iv I => obtain ⟨a, rfl, e, rfl⟩ := r3; exact .iv e ar
    | fz => exact absurd rfl hst
    | fr => exact absurd rfl hst
    | ft t0 => exact absurd rfl hst
    | _ => cases hk
/-- a slot's tree handed over -/
def amMt (i : Nat) (u : TAMd) : TAMd := fun ρ P => plS ρ[i]? fun t => u ρ fun as js => i ∉ js ∧ P ((.mt t, t.dt) :: as) (i :: js)
theorem vam_mt (i : Nat) {x : Str} {p : Pos} {es : List Expr} {Ta : TA} {u : TAMd} (h : PE X (.Name x p) (tVar i)) (h' : VAm X e0 es Ta u) (hs : starEach (.Name x p :: es) X.env = (false, eval (.Name x p) X.env) :: starEach es X.env := by rfl) : VAm X e0 (.Name x p :: es) (tCons (tVar i) Ta) (amMt i u) := by
  obtain ⟨pe', r'⟩ := h'
  refine ⟨pa_cons h pe' hs, fun s σ ρ P Q rp t k => ?_⟩
  obtain ⟨kd, x, t0, q, ht, hp⟩ := plS_inv t
  obtain ⟨v, h1, h2, h3, h4⟩ := rp.tree q ht
  refine ⟨v, h1, ?_⟩
  refine r' s σ ρ _ _ rp hp fun s3 vs as js g3 ar t3 => ?_
  exact k s3 (v :: vs) _ (i :: js) g3 (.mt q ht h1 t3.1 ar) t3.2
/-! f(..) -/
def eCallMu (S : DMu) (t : TAMd) : TMd := fun ρ P => t ρ fun as js => S as (fun k x ts => P (setMs js ts ρ) k x) (fun _ _ => False)
theorem vm_call {K : PySem.W.Frag} (hK : X.K = K) {k : Nat} {ps : List Str} {S : DMu} {x : Str} {p : Pos} {e : Expr} {es : List Expr} {Ta : TA} {t : TAMd} (h : HasM CX0 X.prog X.w X.K X.mg X.base k x ps S) (hr : Room k X.A) (hg : Gl X x)
    (ha : VAm X e0 (e :: es) Ta t) (hdb : (x == ("__debug__" : Str)) = false := by decide) (he : starEach (e :: es) X.env = (false, eval e X.env) :: starEach es X.env := by rfl) (hpl : (backTo pos (starEach es X.env)).any (·.1) = false := by rfl) :
    VM X e0 (.Call (.Name x p) (e :: es) [] pos) (tCall (spM K S) [] E0 Ta) (eCallMu S t) := by
  subst hK
  obtain ⟨f, fd, F, hm, hk, hb⟩ := h
  obtain ⟨hTa, ra⟩ := ha
  refine ⟨pe_call F hr hg hm hk hb .nil pass0 hTa hdb he hpl, fun s σ ρ P Q rp t k => ?_⟩
  refine ra s σ ρ _ _ rp t fun s1 vs as js g1 ar t1 => ?_
  rw [List.append_nil]
  exact mu_core (rp.grow g1) ar t1 (k.ext g1.ext)
/-! o.m(..), o changed -/
def HasMtM (P : Program) (w : World) (K : PySem.W.Frag) (mg : Str → Option Value) (base : Heap) (k : Nat) (C : Addr) (m : Str) (ps : List Str) (S : DMu) : Prop :=
  ∃ (f : Addr) (fd : FuncData), FnOk P w K mg base CX0 k f fd ps (spM K S) ∧ Meth K C m f ∧ Binds K fd ps []
def eMethMu (i : Nat) (C : Addr) (m : Str) (S : DMu) (t : TAMd) : TMd := fun ρ P => plS ρ[i]? fun t0 => rootC C m t0 (t ρ fun as js => i ∉ js ∧ S ((.mt t0, t0.dt) :: as) (fun k x ts => P (setMs (i :: js) ts ρ) k x) (fun _ _ => False))
theorem methM_core {i : Nat} {C : Addr} {m : Str} {S : DMu} {es : List Expr} {Ta : TA} {t : TAMd} (ha : VAm X e0 es Ta t) : ∀ (s : Hs) (σ : St) (ρ : DEnv) (P : DEnv → DK) (Q : VK), Rep X.K e0 s σ ρ → eMethMu i C m S t ρ P → MuPost X.K e0 s σ P Q → tMeth C m (spM X.K S) [] E0 (tVar i) Ta σ s.w Q := by
  intro s σ ρ P Q rp t k
  obtain ⟨kd, x, t0, q, ht, hp⟩ := plS_inv t
  obtain ⟨v, h1, h2, h3, h4⟩ := rp.tree q ht
  obtain ⟨l, fs, rfl, hn, hp⟩ := rootC_inv hp
  obtain ⟨dx, vs0, rfl, h5, h6⟩ : ∃ dx vs, v = .ref l ∧ s.h l = some (.ins C dx vs) ∧ OwTF X.K s.f s.h vs fs := by cases h2 with | obj hq rf => exact ⟨_, _, rfl, hq, rf⟩
  refine ⟨_, h1, l, dx, vs0, rfl, rp.rh.hw _ _ h5, h6.none hn, ?_⟩
  refine ha.run s σ ρ _ _ rp hp fun s1 vs as js g1 ar t1 => ?_
  rw [List.append_nil]
  exact mu_core (vs := .ref l :: vs) (rp.grow g1) (.mt q ht h1 t1.1 ar) t1.2 (k.ext g1.ext)
theorem vm_meth {K : PySem.W.Frag} (hK : X.K = K) {k i : Nat} {C : Addr} {m y : Str} {ps : List Str} {S : DMu} {e : Expr} {es : List Expr} {p2 apos : Pos} {pl : Sem Bool} {Ta : TA} {t : TAMd} (c : Cls X.K C) (h : HasMtM X.prog X.w X.K X.mg X.base k C m ps S) (hr : Room k X.A) (hv : PE X (.Name y p2) (tVar i)) (ha : VAm X e0 (e :: es) Ta t)
    (hst : starEach (e :: es) X.env = (false, eval e X.env) :: starEach es X.env := by rfl) (hpl : (backTo pos (starEach es X.env)).any (·.1) = false := by rfl)
    (ht : eval (.Call (.Attribute (.Name y p2) m apos) (e :: es) [] pos) X.env = (do
      let ov ← eval (.Name y p2) X.env
      standAt apos.atName
      let (f, first) ← holding [ov] (getMethod ov m pl)
      callWith pos f first (backTo pos (starEach (e :: es) X.env)) (backToKw pos (keywordEach [] X.env))) := by rfl) : VM X e0 (.Call (.Attribute (.Name y p2) m apos) (e :: es) [] pos) (tMeth C m (spM K S) [] E0 (tVar i) Ta) (eMethMu i C m S t) := by
  subst hK
  obtain ⟨f, fd, F, hm, hb⟩ := h
  exact ⟨pe_meth (pl := pl) hv c hm F hr hb .nil pass0 ha.pe hst hpl ht, methM_core ha⟩
theorem vm_meth0 {K : PySem.W.Frag} (hK : X.K = K) {k i : Nat} {C : Addr} {m y : Str} {ps : List Str} {S : DMu} {p2 apos : Pos} {pl : Sem Bool} (c : Cls X.K C) (h : HasMtM X.prog X.w X.K X.mg X.base k C m ps S) (hr : Room k X.A) (hv : PE X (.Name y p2) (tVar i))
    (ht : eval (.Call (.Attribute (.Name y p2) m apos) [] [] pos) X.env = (do
      let ov ← eval (.Name y p2) X.env
      standAt apos.atName
      let (f, first) ← holding [ov] (getMethod ov m pl)
      callWith pos f first (backTo pos (starEach [] X.env)) (backToKw pos (keywordEach [] X.env))) := by rfl) : VM X e0 (.Call (.Attribute (.Name y p2) m apos) [] [] pos) (tMeth C m (spM K S) [] E0 (tVar i) tNil) (eMethMu i C m S amNil) := by
  subst hK
  obtain ⟨f, fd, F, hm, hb⟩ := h
  exact ⟨pe_meth0 (pl := pl) hv c hm F hr hb .nil pass0 ht, methM_core vam_nil⟩
/-! ### statements of them -/
def sExprM (t : TMd) : TSd := fun D ρ => t ρ fun ρ' _ _ => D.nx ρ'
theorem vs_exprM {e : Expr} {T : TE} {t : TMd} (h : VM X e0 e T t) (hs : swapsWith e none pos.line X.env = pure false := by rfl) : VS X e0 W (.Expr e pos) (sExprM t) :=
  ⟨_, ps_expr h.pe hs, fun s σ ρ D D' rp t l => h.run s σ ρ _ _ rp t fun s' ρ' k v x rp' x' r d q => l.nx s' σ ρ' rp' x' q⟩
def sSetM (i : Nat) (M : StM) (t : TMd) : TSd := fun D ρ => t ρ fun ρ' k x => M i D.nx ρ' k x
theorem vs_setM {i : Nat} {M : StM} {e : Expr} {T : TE} {t : TMd} (hM : StG M) (h : VM X e0 e T t) (hp : PE X e T → PS X st (tAsg T (gName i))) : VS X e0 W st (sSetM i M t) := by
  refine ⟨_, hp h.pe, fun s σ ρ D D' rp t l => h.run s σ ρ _ _ rp t fun s' ρ' k v x rp' x' r d q => ?_⟩
  obtain ⟨ρ2, q1, d1, _⟩ := hM rp' r (fun a h => h) d q
  exact l.nx s' _ ρ2 q1 x' d1
/-- .. frozen -/
def sSetMF (i : Nat) (t : TMd) : TSd := fun D ρ => t ρ fun ρ' k x => stor i (fun ρ2 => D.nx (frzE i ρ2)) ρ' k x
theorem vs_setMF {i : Nat} {e : Expr} {T : TE} {t : TMd} (h : VM X e0 e T t) (hp : PE X e T → PS X st (tAsg T (gName i))) : VS X e0 W st (sSetMF i t) := by
  refine ⟨_, hp h.pe, fun s σ ρ D D' rp t l => h.run s σ ρ _ _ rp t fun s' ρ' k v x rp' x' r d q => ?_⟩
  obtain ⟨ρ2, q1, d1, _⟩ := stg_stor rp' r (fun a h => h) d q
  obtain ⟨s1, h1, w1, x1, r1⟩ := q1.freeze i
  have z := l.nx s1 _ _ r1 (x'.trans x1) d1
  rw [w1] at z
  exact z
def sRetM (t : TMd) : TSd := fun D ρ => t ρ fun ρ' k x => D.rtm ρ' k x
theorem vs_retM {e : Expr} {T : TE} {t : TMd} (h : VM X e0 e T t) : VS X e0 W (.Return (some e) pos) (sRetM t) :=
  ⟨_, ps_ret h.pe, fun s σ ρ D D' rp t l => h.run s σ ρ _ _ rp t fun s' ρ' k v x rp' x' r d q => l.rt s' σ ρ' k v x rp' x' r (fun a ha j t y qq => d a ha j _ y qq) q⟩
/-! ### place.f = e, frozen -/
def sSetFldF (C : Addr) (t : TPd) (f : Str) (te : TEd) : TSd := fun D ρ => te ρ fun k x => k.st = true ∧ t ρ fun i p u => objP u C fun l fs => fs.length < 1000 ∧ D.nx (plSet ρ[i]? i p (.obj l C (putO fs f (.pt x))) ρ)
theorem vs_setFldF {o e : Expr} {f : Str} {C : Addr} {To Te : TE} {t : TPd} {te : TEd} (ho : VP X e0 o To t) (h : VE X e0 e Te te) (c : Cls X.K C) (n : NoAttr X.K C f) (hp : PE X o To → PE X e Te → PS X st (sFld X.K To Te f)) : VS X e0 W st (sSetFldF C t f te) := by
  refine ⟨_, hp ho.pe h.pe, fun s σ ρ D D' rp t l => ?_⟩
  refine h.run s σ ρ _ (fun y H1 => To σ H1 fun x H2 => ∃ a C dx fs, x = .ref a ∧ H2 a = some (.ins C dx fs) ∧ Cls X.K C ∧ NoAttr X.K C f ∧ fs.length < 1000 ∧ D.nx σ (upd H2 a (.ins C dx (putF f y fs)))) rp t fun s1 k1 v1 x1 g1 r1 t1 => ?_
  obtain ⟨hk, t1⟩ := t1
  obtain ⟨sf, gf, ef, wf, ff, pf⟩ := r1.freeze g1 hk
  rw [← wf]
  have rp1 := rp.grow gf
  refine ho.run sf σ ρ _ _ rp1 t1 fun s2 i kd x t0 p u v g2 q ht hpp ow t2 => ?_
  cases u <;> first | exact t2.elim | skip
  rename_i a C' fs
  obtain ⟨rfl, hl, t2⟩ := t2
  cases ow with
  | obj hx rf =>
    rename_i dx vs
    refine ⟨a, C', dx, vs, rfl, g2.hw _ _ hx, c, n, by rw [rf.length]; exact hl, ?_⟩
    obtain ⟨rp3, x3⟩ := fld_core (f := f) rp (gf.trans g2) q ht hpp hx rf (w := .pt x1) ⟨rfl, (fun a ha => nomatch ha), (fun a ha => nomatch ha), List.nodup_nil, .pt (pf.mono g2.f)⟩
    exact l.nx _ σ _ rp3 ((gf.trans g2).ext.trans x3) t2
/-! ### a statement that is never reached -/
def sFalse : TSd := fun _ _ => False
theorem vs_never : VS X e0 W st sFalse := ⟨fun _ _ _ => False, ⟨fun _ _ _ _ _ _ h => h.elim⟩, fun s σ ρ D D' rp t l => t⟩
end
/-! ### methods as they stand -/
structure DfM (K : PySem.W.Frag) (C : Addr) (m qual : Str) (st : Stmt) (ps : List Str) : Prop where
  ex : ∃ (f : Addr) (fd : FuncData), Fun K m qual st f fd ∧ Meth K C m f ∧ Binds K fd ps []
structure DfI (K : PySem.W.Frag) (mg : Str → Option Value) (x : Str) (C : Addr) (qual : Str) (st : Stmt) (ps : List Str) : Prop where
  ex : ∃ (f : Addr) (fd : FuncData), Fun K "__init__" qual st f fd ∧ Mk K C f ∧ mg x = some (.ref C) ∧ Binds K fd ps []
structure DfID (K : PySem.W.Frag) (mg : Str → Option Value) (x : Str) (C : Addr) (qual : Str) (st : Stmt) (ps : List Str) (dvs : List V) : Prop where
  ex : ∃ (f : Addr) (fd : FuncData) (dall : List V) (kws : List (Str × V)) (ds : List Value), FunD K "__init__" qual (defArgs st) (defBody st) (defScope st) dall kws f fd ∧ Mk K C f ∧ mg x = some (.ref C) ∧ Binds K fd ps ds ∧ Vals dvs ds
section
variable {P : Program} {w : World} {K : PySem.W.Frag} {mg : Str → Option Value} {base : Heap}
theorem hasMt_ok {C : Addr} {m qual : Str} {st : Stmt} {N ps : List Str} {k : Nat} {S : DSp} {t : TSd} (d : DfM K C m qual st ps) (Sc : FnScope N ps (defScope st)) (hp : ps.length ≤ N.length)
    (hb : ∀ (f : Addr) (cdv : Value) (A : Around) (outer : List Env) (s : Shared) (H : Hp) (E : XK) (e0 : Hs), Room k (A.deeper (envOfC qual (defScope st) s.heap.objs.size f cdv)) →
      VSs (cxOf CX0 P w K mg base N qual (defScope st) f cdv A outer s H E).nox e0 WX0 (defBody st) t)
    (len : ∀ as P, S as P → as.length = ps.length) (h : ∀ as P, S as P → t { nx := fun _ => P .fz .non, rt := fun k x => k.st = true ∧ P k x } (startD N.length as)) : HasMt P w K mg base (k + 1) C m ps S := by
  obtain ⟨f, fd, F, hm, bi⟩ := d.ex
  exact ⟨f, fd, fn_ok F Sc len (fun cdv A outer s H E e0 hr => hb f cdv A outer s H E e0 hr) hp h, hm, bi⟩
theorem hasMtM_ok {C : Addr} {m qual : Str} {st : Stmt} {N ps : List Str} {k : Nat} {S : DMu} {t : TSd} {is : List Nat} (d : DfM K C m qual st ps) (Sc : FnScope N ps (defScope st)) (hp : ps.length ≤ N.length)
    (hb : ∀ (f : Addr) (cdv : Value) (A : Around) (outer : List Env) (s : Shared) (H : Hp) (E : XK) (e0 : Hs), Room k (A.deeper (envOfC qual (defScope st) s.heap.objs.size f cdv)) →
      VSs (cxOf CX0 P w K mg base N qual (defScope st) f cdv A outer s H E).nox e0 (fun c d σ H => E c d H) (defBody st) t)
    (len : ∀ as P PE, S as P PE → as.length = ps.length ∧ mupos 0 as = is) (h : ∀ as P PE, S as P PE → t (endM is P PE) (startD N.length as)) : HasMtM P w K mg base (k + 1) C m ps S := by
  obtain ⟨f, fd, F, hm, bi⟩ := d.ex
  exact ⟨f, fd, fn_okM F Sc len (fun cdv A outer s H E e0 hr => hb f cdv A outer s H E e0 hr) hp h, hm, bi⟩
theorem hasNew_ok {x : Str} {C : Addr} {qual : Str} {st : Stmt} {N ps : List Str} {k : Nat} {S : DMu} {t : TSd} {is : List Nat} (d : DfI K mg x C qual st ps) (Sc : FnScope N ps (defScope st)) (hp : ps.length ≤ N.length)
    (hb : ∀ (f : Addr) (cdv : Value) (A : Around) (outer : List Env) (s : Shared) (H : Hp) (E : XK) (e0 : Hs), Room k (A.deeper (envOfC qual (defScope st) s.heap.objs.size f cdv)) →
      VSs (cxOf CX0 P w K mg base N qual (defScope st) f cdv A outer s H E).nox e0 (fun c d σ H => E c d H) (defBody st) t)
    (len : ∀ as P PE, S as P PE → as.length = ps.length ∧ mupos 0 as = is) (h : ∀ as P PE, S as P PE → t (endM is P PE) (startD N.length as)) : HasNew P w K mg base (k + 1) x C ps [] S := by
  obtain ⟨f, fd, F, hm, hg, bi⟩ := d.ex
  exact ⟨f, fd, [], fn_okM F Sc len (fun cdv A outer s H E e0 hr => hb f cdv A outer s H E e0 hr) hp h, hm, hg, bi, .nil⟩
theorem fn_okMD {qual : Str} {st : Stmt} {dall : List V} {kws : List (Str × V)} {f : Addr} {fd : FuncData} {N ps : List Str} {k : Nat} {S : DMu} {t : TSd} {is : List Nat} (F : FunD K "__init__" qual (defArgs st) (defBody st) (defScope st) dall kws f fd) (Sc : FnScope N ps (defScope st)) (len : ∀ as P PE, S as P PE → as.length = ps.length ∧ mupos 0 as = is)
    (hb : ∀ (cdv : Value) (A : Around) (outer : List Env) (s : Shared) (H : Hp) (E : XK) (e0 : Hs), Room k (A.deeper (envOfC qual (defScope st) s.heap.objs.size f cdv)) →
      VSs (cxOf CX0 P w K mg base N qual (defScope st) f cdv A outer s H E).nox e0 (fun c d σ H => E c d H) (defBody st) t)
    (hp : ps.length ≤ N.length) (h : ∀ as P PE, S as P PE → t (endM is P PE) (startD N.length as)) : FnOk P w K mg base CX0 (k + 1) f fd ps (spM K S) := by
  refine F.ok Sc (fun vs H Q E hs => ?_) (fun cdv A outer s H vs Q E hr hs => ?_)
  · obtain ⟨F, G, H, i, as, P, PE, _, _, _, _, ar, sp, _⟩ := hs
    rw [ar.length]
    exact (len as P PE sp).1
  · obtain ⟨F, G, H', i, as, P', PE, hf, hg, hw, hiv, ar, sp, q, q2⟩ := hs
    obtain ⟨T, hT, r⟩ := (hb cdv A outer s H E (entM F G H' H i (mOf vs as)) hr).run
    refine ⟨T, hT.nox, ?_⟩
    exact r (entM F G H' H i (mOf vs as)) (L2.start N vs) (startD N.length as) _ _ (rep_startM hf hg hw hiv ar (by rw [(len as P' PE sp).1]; exact hp)) (h as P' PE sp) (end_core hw ar (len as P' PE sp).2 q q2)
theorem hasNewD_ok {x : Str} {C : Addr} {qual : Str} {st : Stmt} {N ps : List Str} {dvs : List V} {k : Nat} {S : DMu} {t : TSd} {is : List Nat} (d : DfID K mg x C qual st ps dvs) (Sc : FnScope N ps (defScope st)) (hp : ps.length ≤ N.length)
    (hb : ∀ (f : Addr) (cdv : Value) (A : Around) (outer : List Env) (s : Shared) (H : Hp) (E : XK) (e0 : Hs), Room k (A.deeper (envOfC qual (defScope st) s.heap.objs.size f cdv)) →
      VSs (cxOf CX0 P w K mg base N qual (defScope st) f cdv A outer s H E).nox e0 (fun c d σ H => E c d H) (defBody st) t)
    (len : ∀ as P PE, S as P PE → as.length = ps.length ∧ mupos 0 as = is) (h : ∀ as P PE, S as P PE → t (endM is P PE) (startD N.length as)) : HasNew P w K mg base (k + 1) x C ps dvs S := by
  obtain ⟨f, fd, dall, kws, ds, F, hm, hg, bi, hv⟩ := d.ex
  exact ⟨f, fd, ds, fn_okMD F Sc len (fun cdv A outer s H E e0 hr => hb f cdv A outer s H E e0 hr) hp h, hm, hg, bi, hv⟩
end
theorem vp_fldK {X : Cx} {e0 : Hs} {K : PySem.W.Frag} {pos : Pos} (hK : X.K = K) {e : Expr} {f : Str} {C : Addr} {T : TE} {t : TPd} (h : VP X e0 e T t) (c : Cls K C) (n : NoAttr K C f) (hb : attributeBase e f X.env (eval e X.env) = eval e X.env := by rfl) : VP X e0 (.Attribute e f pos) (tFld K T f) (pFld C t f) := by subst hK; exact vp_fld h c n hb
theorem ve_attrK {X : Cx} {e0 : Hs} {K : PySem.W.Frag} {pos : Pos} (hK : X.K = K) {e : Expr} {f : Str} {C : Addr} {T : TE} {te : TEd} (h : VE X e0 e T te) (c : Cls K C) (n : NoAttr K C f) (hb : attributeBase e f X.env (eval e X.env) = eval e X.env := by rfl) : VE X e0 (.Attribute e f pos) (tFld K T f) (eAttr C f te) := by subst hK; exact ve_attr h c n hb
theorem ve_methK {X : Cx} {e0 : Hs} {pos : Pos} {K : PySem.W.Frag} (hK : X.K = K) {k : Nat} {C : Addr} {m : Str} {ps : List Str} {S : DSp} {o e : Expr} {es : List Expr} {apos : Pos} {pl : Sem Bool} {To : TE} {te : TEd} {Ta : TA} {ta : TAd} (c : Cls K C) (h : HasMt X.prog X.w K X.mg X.base k C m ps S) (hr : Room k X.A) (ho : VE X e0 o To te) (ha : VA X e0 (e :: es) Ta ta)
    (hst : starEach (e :: es) X.env = (false, eval e X.env) :: starEach es X.env := by rfl) (hpl : (backTo pos (starEach es X.env)).any (·.1) = false := by rfl)
    (ht : eval (.Call (.Attribute o m apos) (e :: es) [] pos) X.env = (do
      let ov ← eval o X.env
      standAt apos.atName
      let (f, first) ← holding [ov] (getMethod ov m pl)
      callWith pos f first (backTo pos (starEach (e :: es) X.env)) (backToKw pos (keywordEach [] X.env))) := by rfl) : VE X e0 (.Call (.Attribute o m apos) (e :: es) [] pos) (tMeth C m (spL K S) [] E0 To Ta) (eMeth C m S te ta) := by
  subst hK; exact ve_meth rfl c h hr ho ha hst hpl ht
theorem ve_meth0K {X : Cx} {e0 : Hs} {pos : Pos} {K : PySem.W.Frag} (hK : X.K = K) {k : Nat} {C : Addr} {m : Str} {ps : List Str} {S : DSp} {o : Expr} {apos : Pos} {pl : Sem Bool} {To : TE} {te : TEd} (c : Cls K C) (h : HasMt X.prog X.w K X.mg X.base k C m ps S) (hr : Room k X.A) (ho : VE X e0 o To te)
    (ht : eval (.Call (.Attribute o m apos) [] [] pos) X.env = (do
      let ov ← eval o X.env
      standAt apos.atName
      let (f, first) ← holding [ov] (getMethod ov m pl)
      callWith pos f first (backTo pos (starEach [] X.env)) (backToKw pos (keywordEach [] X.env))) := by rfl) : VE X e0 (.Call (.Attribute o m apos) [] [] pos) (tMeth C m (spL K S) [] E0 To tNil) (eMeth C m S te aNil) := by
  subst hK; exact ve_meth0 rfl c h hr ho ht
theorem ve_newK {X : Cx} {e0 : Hs} {pos : Pos} {K : PySem.W.Frag} (hK : X.K = K) {k : Nat} {x : Str} {C : Addr} {ps : List Str} {dvs : List V} {S : DMu} {p : Pos} {e : Expr} {es : List Expr} {Ta : TA} {ta : TAd} (h : HasNew X.prog X.w K X.mg X.base k x C ps dvs S) (hr : Room (k + 1) X.A) (hg : Gl X x) (ha : VA X e0 (e :: es) Ta ta) (hdv : dvOk dvs = true := by rfl)
    (hdb : (x == ("__debug__" : Str)) = false := by decide) (he : starEach (e :: es) X.env = (false, eval e X.env) :: starEach es X.env := by rfl) (hpl : (backTo pos (starEach es X.env)).any (·.1) = false := by rfl) :
    VE X e0 (.Call (.Name x p) (e :: es) [] pos) (tMake C (spM K S) dvs E0 Ta) (eNew C dvs S ta) := by subst hK; exact ve_new rfl h hr hg ha hdv hdb he hpl
/-- a module's constant -/
theorem ve_glob {X : Cx} {e0 : Hs} {x : Str} {v : V} {y : Dt} {pos : Pos} (hg : Gl X x) (h : ∃ u, X.mg x = some u ∧ RelV v u) (r : ∀ F, Rp X.K F v y) (hd : (x == ("__debug__" : Str)) = false := by decide) : VE X e0 (.Name x pos) (tC v) (eC y) := by
  obtain ⟨u, h1, h2⟩ := h
  exact ve_const (pe_glob hg h1 h2 hd) r
/-- if .. : name = constant -/
theorem sel_setC {b : Bool} {i : Nat} {x y : Dt} {D : EndsD} {ρ : DEnv} (h : ρ[i]? = some (.v .fz y)) (q : D.nx (ρ.set i (.v .fz (if b = true then x else y)))) : selS b (sSetF i (eC x) D) (sNil D) ρ := by
  cases b with
  | true => exact q
  | false =>
    have e : ρ.set i (.v .fz y) = ρ := by
      obtain ⟨h1, h2⟩ := List.getElem?_eq_some_iff.mp h
      rw [← h2, List.set_getElem_self]
    have q' : D.nx (ρ.set i (.v .fz y)) := q
    rw [e] at q'
    exact q'
/-! for simp -/
theorem setKyK_some {k : Key} {n : Nat} {l : Addr} {ds : List (Key × Dt)} {y : Dt} {D : EndsD} {ρ : DEnv} : setKyK (some k) n l ds y D ρ = D.nx (ρ.set n (.v (.ow l) (.dct (putD ds k y)))) := rfl
theorem dInK_some {n : Bool} {ds : List (Key × Dt)} {k : Key} {P : DK} : dInK n ds (some k) P = P .fz (.bl ((valD ds k).isSome != n)) := rfl
theorem dInD_dct {n : Bool} {y : Dt} {ds : List (Key × Dt)} {P : DK} : dInD n y (.dct ds) P = dInK n ds (keyD y) P := rfl
theorem startS_mtc {t : Ot} {x : Dt} {r : List (Kd × Dt)} : startS ((.mt t, x) :: r) = .v (.mt t) x :: startS r := rfl
theorem setMs_cons {i : Nat} {is : List Nat} {u : Ot} {us : List Ot} {ρ : DEnv} : setMs (i :: is) (u :: us) ρ = setMs is us (plSet ρ[i]? i [] u ρ) := rfl
theorem setMs_nil {ts : List Ot} {ρ : DEnv} : setMs [] ts ρ = ρ := by cases ts <;> rfl
theorem rootC_obj {C C' l : Addr} {m : Str} {fs : List (Str × Ot)} {P : Prop} : rootC C m (.obj l C' fs) P = (C' = C ∧ fldO fs m = none ∧ P) := rfl
theorem mtK_rt {C : Addr} {m : Str} {t : Ot} {x : Dt} {P : Kd → Prop} : mtK C m (.rt t) x P = rootC C m t (P (.rt t)) := by cases x <;> rfl
theorem mtK_vt {C : Addr} {m : Str} {t : Ot} {x : Dt} {P : Kd → Prop} : mtK C m (.vt t) x P = rootC C m t (P (.rt t)) := by cases x <;> rfl
theorem mtK_ft {C : Addr} {m : Str} {t : Ot} {x : Dt} {P : Kd → Prop} : mtK C m (.ft t) x P = rootC C m t (P (.rt t)) := by cases x <;> rfl
theorem mtK_fz {C C' : Addr} {m : Str} {ds : List (Str × Dt)} {P : Kd → Prop} : mtK C m .fz (.obj C' ds) P = (C' = C ∧ fldD ds m = none ∧ P .fz) := rfl
theorem attK_rt {C : Addr} {f : Str} {t : Ot} {x : Dt} {P : DK} : attK C f (.rt t) x P = attT C t f P := by cases x <;> rfl
theorem attK_vt {C : Addr} {f : Str} {t : Ot} {x : Dt} {P : DK} : attK C f (.vt t) x P = attT C t f P := by cases x <;> rfl
theorem attK_fz {C C' : Addr} {f : Str} {ds : List (Str × Dt)} {P : DK} : attK C f .fz (.obj C' ds) P = (C' = C ∧ getF (fldD ds f) P) := rfl
theorem attT_obj {C C' l : Addr} {f : Str} {fs : List (Str × Ot)} {P : DK} : attT C (.obj l C' fs) f P = (C' = C ∧ fldK (fldO fs f) fun w => rdT w P) := rfl
theorem fldP_obj {C C' l : Addr} {f : Str} {fs : List (Str × Ot)} {k : Ot → Prop} : fldP C (.obj l C' fs) f k = (C' = C ∧ fldK (fldO fs f) k) := rfl
theorem fldK_some {w : Ot} {k : Ot → Prop} : fldK (some w) k = k w := rfl
theorem getF_some {y : Dt} {P : DK} : getF (some y) P = P .fz y := rfl
theorem ntK_fz {x : Dt} {k : Ot → Prop} : ntK .fz x k = k (.pt x) := by cases x <;> rfl
theorem ntK_lst {ds : List Dt} {k : Ot → Prop} : ntK .fr (.lst ds) k = ∀ l, k (Ot.leaf l ds) := rfl
theorem ntK_dct {ds : List (Key × Dt)} {k : Ot → Prop} : ntK .fr (.dct ds) k = ∀ l, k (.dct l ds) := rfl
theorem ntK_ft {t : Ot} {x : Dt} {k : Ot → Prop} : ntK (.ft t) x k = k t := by cases x <;> rfl
theorem msK_fz : msK .fz = true := rfl
theorem msK_fr : msK .fr = true := rfl
theorem msK_ft {t : Ot} : msK (.ft t) = true := rfl
theorem msK_vw : msK .vw = true := rfl
theorem msK_vt {t : Ot} : msK (.vt t) = true := rfl
theorem msK_iv {I : List Int → Prop} : msK (.iv I) = true := rfl
theorem arg2_fz : Kd.fz.arg2 = .fz := rfl
theorem arg2_fr : Kd.fr.arg2 = .fz := rfl
theorem arg2_ft {t : Ot} : (Kd.ft t).arg2 = .fz := rfl
theorem arg2_vw : Kd.vw.arg2 = .rd := rfl
theorem arg2_vt {t : Ot} : (Kd.vt t).arg2 = .rt t := rfl
theorem arg2_iv {I : List Int → Prop} : (Kd.iv I).arg2 = .iv I := rfl
theorem obj_dt {l C : Addr} {fs : List (Str × Ot)} : (Ot.obj l C fs).dt = .obj C (Ot.dfs fs) := rfl
theorem pt_dt {x : Dt} : (Ot.pt x).dt = x := rfl
def putFl (o : Option Ot) (l C : Addr) (fs : List (Str × Ot)) (f : Str) (p : List Pst) (u : Ot) : Ot := match o with
  | some v => .obj l C (repO fs f (v.put p u))
  | none => .obj l C fs
theorem put_fl {l C : Addr} {fs : List (Str × Ot)} {f : Str} {p : List Pst} {u : Ot} : (Ot.obj l C fs).put (.fl f :: p) u = putFl (fldO fs f) l C fs f p u := by
  rw [Ot.put]
  rfl
theorem putFl_some {l C : Addr} {fs : List (Str × Ot)} {f : Str} {p : List Pst} {u v : Ot} : putFl (some v) l C fs f p u = .obj l C (repO fs f (v.put p u)) := rfl
end Tq
set_option Elab.async false
set_option linter.all false
set_option autoImplicit false
set_option maxRecDepth 100000
set_option maxHeartbeats 4000000
namespace Tq
open PySem PySem.Spec L2
open PyProof.Rows hiding St
section
variable {X : Cx} {e0 : Hs} {Wx : WX} {pos : Pos} {tg : Expr}
/-! ### for over a leaf of a slot's tree that stays as it is -/
def sForP (t : TPd) (g : TGd) (tb : TSd) : TSd := fun D ρ => t ρ fun i p u => leafOf u fun l xs => ∃ W : Nat → DEnv → Prop, (∀ j ρ', W j ρ' → ρ'[i]? = ρ[i]?) ∧ (∃ ρ', Wk ρ ρ' ∧ W 0 ρ') ∧
    (∀ j x ρ', xs[j]? = some x → W j ρ' → g x ρ' fun ρ1 => tb { D with nx := fun ρ2 => ∃ ρ3, Wk ρ2 ρ3 ∧ W (j + 1) ρ3, ct := fun ρ2 => ∃ ρ3, Wk ρ2 ρ3 ∧ W (j + 1) ρ3, bk := D.nx } ρ1) ∧
    ∀ ρ', W xs.length ρ' → D.nx ρ'
theorem at_place {K : PySem.W.Frag} {s : Hs} {σ : St} {ρ : DEnv} {i : Nat} {kd : Kd} {x : Dt} {t0 : Ot} {p : List Pst} {l : Addr} {ds : List Dt} (rp : Rep K e0 s σ ρ) (q : ρ[i]? = some (Sl.v kd x)) (ht : kd.tree = some t0) (hp : t0.sub p = some (Ot.leaf l ds)) : ∃ us, s.h l = some (.lst us) ∧ RpL K s.f us ds := by
  obtain ⟨v, _, ow, _, _⟩ := rp.tree q ht
  obtain ⟨v', ow'⟩ := ow.subT hp
  obtain ⟨xs, _, h1, h2⟩ := leaf_ow ow'
  exact ⟨xs, h1, h2⟩
theorem vs_forP {o : Expr} {body : List Stmt} {To : TE} {t : TPd} {T : TG} {g : TGd} {tb : TSd} (hp : PassesOwn (model X.prog X.w) X.A X.env X.xe) (hc : X.calm = true) (ho : VP X e0 o To t) (hg : VG X e0 tg T g) (hb : VSs X e0 Wx body tb)
    (hs : ∀ x, foldedSetIterable o X.env x = pure x := by intro _; rfl) : VS X e0 Wx (.For tg o body [] pos) (sForP t g tb) := by
  obtain ⟨B, hB, rb⟩ := hb.run
  refine ⟨_, ps_for hp hc (pi_list ho.pe) hg.pe hB hs, fun s0 σ ρ D D' rp0 t l => ?_⟩
  refine ho.run s0 σ ρ _ _ rp0 t fun s i kd x t0 p u v g0 q ht hpp ow t1 => ?_
  obtain ⟨a, xs, eu, t1'⟩ := leafOf_inv t1
  clear t1
  subst eu
  obtain ⟨vs, rfl, h2, r2⟩ := leaf_ow ow
  have rp := rp0.grow g0
  replace l := l.ext g0.ext
  obtain ⟨W, hW, ⟨ρ0, w0, i0⟩, turn, done⟩ := t1'
  obtain ⟨s2, _, e2, x2, rp2⟩ := w0.rep rp
  refine ⟨a, rfl, ⟨vs, .inl (.inl (rp.rh.hw _ _ h2))⟩, ?_⟩
  refine ⟨fun j m σ H => m = xs.length - j ∧ j ≤ xs.length ∧ ∃ s' ρ', s'.w = H ∧ Rep X.K e0 s' σ ρ' ∧ Ext s s' ∧ W j ρ', ⟨xs.length, by simp, Nat.zero_le _, s2, ρ0, e2, rp2, x2, i0⟩, ?_⟩
  rintro j m σ' H ⟨rfl, hj, s', ρ', rfl, rp', x', w'⟩
  obtain ⟨us, h3, r3⟩ := at_place rp' ((hW j ρ' w').trans q) ht hpp
  by_cases hlt : j < xs.length
  · obtain ⟨u, hu, ru⟩ := r3.at (List.getElem?_eq_getElem hlt)
    have again : ∀ s4 σ4 ρ4, Rep X.K e0 s4 σ4 ρ4 → Ext s' s4 → (∃ ρ3, Wk ρ4 ρ3 ∧ W (j + 1) ρ3) → ∃ s' ρ', s'.w = s4.w ∧ Rep X.K e0 s' σ4 ρ' ∧ Ext s s' ∧ W (j + 1) ρ' := fun s4 σ4 ρ4 rp4 x4 ⟨ρ3, w3, i3⟩ => by
      obtain ⟨s5, _, h5, x5, r5⟩ := w3.rep rp4
      exact ⟨s5, ρ3, h5, r5, (x'.trans x4).trans x5, i3⟩
    refine .inr ⟨⟨us, u, .inl (.inl (rp'.rh.hw _ _ h3)), hu⟩, fun σ2 H2 => ∃ s' ρ', s'.w = H2 ∧ Rep X.K e0 s' σ2 ρ' ∧ Ext s s' ∧ W (j + 1) ρ', fun σ2 H2 q => ⟨xs.length - (j + 1), by omega, rfl, hlt, q⟩, fun y H' hy => ?_⟩
    obtain ⟨e1, hy⟩ := hy
    subst e1
    have ey := hy us (.inl (.inl (rp'.rh.hw _ _ h3)))
    rw [hu] at ey
    cases ey
    refine hg.run s' σ' ρ' _ _ _ _ rp' ru (turn j _ ρ' (List.getElem?_eq_getElem hlt) w') fun σ4 ρ4 rp4 t4 => ?_
    exact rb s' σ4 ρ4 _ _ rp4 t4 ⟨again, (l.ext x').rt, fun s5 σ5 ρ5 rp5 x5 q => l.nx s5 σ5 ρ5 rp5 (x'.trans x5) q, again, (l.ext x').ex⟩
  · have ej : j = xs.length := by omega
    subst ej
    exact .inl ⟨⟨us, .inl (.inl (rp'.rh.hw _ _ h3)), by rw [r3.length]; exact Nat.le_refl _⟩, l.nx s' σ' ρ' rp' x' (done ρ' w')⟩
end
theorem leafOf_leafR {l : Addr} {ds : List Dt} {k : Addr → List Dt → Prop} : leafOf (Ot.leaf l ds) k = k l ds := leafOf_leaf
/-- over a list of a known form -/
theorem forP_map {α : Type} (xs : List α) (f : α → Dt) (I : Nat → DEnv → Prop) {i : Nat} {ρ : DEnv} {B : (Nat → DEnv → Prop) → Nat → Dt → DEnv → Prop} {Z : DEnv → Prop} (h0 : ∃ ρ', Wk ρ ρ' ∧ I 0 ρ') (hi : ∀ j ρ', I j ρ' → ρ'[i]? = ρ[i]?)
    (hs : ∀ j (h : j < xs.length) ρ', I j ρ' → B I j (f xs[j]) ρ') (hd : ∀ ρ', I xs.length ρ' → Z ρ') :
    ∃ W : Nat → DEnv → Prop, (∀ j ρ', W j ρ' → ρ'[i]? = ρ[i]?) ∧ (∃ ρ', Wk ρ ρ' ∧ W 0 ρ') ∧ (∀ j x ρ', (xs.map f)[j]? = some x → W j ρ' → B W j x ρ') ∧ ∀ ρ', W (xs.map f).length ρ' → Z ρ' := by
  refine ⟨I, hi, h0, fun j x ρ' hx hw => ?_, fun ρ' hw => hd ρ' (by rw [List.length_map] at hw; exact hw)⟩
  rw [List.getElem?_map] at hx
  cases e : xs[j]? with
  | none => rw [e] at hx; cases hx
  | some y =>
    rw [e] at hx
    cases hx
    obtain ⟨hj, rfl⟩ := List.getElem?_eq_some_iff.mp e
    exact hs j hj ρ' hw
theorem selS_ndec {p : Prop} [Decidable p] {f g : DEnv → Prop} {ρ : DEnv} (h1 : ¬ p → f ρ) (h2 : p → g ρ) : selS (!decide p) f g ρ := by
  by_cases h : p
  · rw [decide_eq_true h]; exact h2 h
  · rw [decide_eq_false h]; exact h1 h
/-- if .. : one slot set to a number, else left; the rest is the same -/
theorem sel_nx {b : Bool} {f : TSd} {D : EndsD} {ρ : DEnv} (i : Nat) (p : Nat → Prop) (H : ∀ n : Nat, p n → D.nx (ρ.set i (.v .fz (nat n)))) (h1 : b = true → ∀ D : EndsD, (∀ n : Nat, p n → D.nx (ρ.set i (.v .fz (nat n)))) → f D ρ) (h2 : b = false → ∃ n : Nat, p n ∧ ρ[i]? = some (.v .fz (nat n))) : selS b (f D) (sNil D) ρ := by
  cases b with
  | true => exact h1 rfl D H
  | false =>
    obtain ⟨n, hn, hq⟩ := h2 rfl
    have e : ρ.set i (.v .fz (nat n)) = ρ := by
      obtain ⟨g1, g2⟩ := List.getElem?_eq_some_iff.mp hq
      rw [← g2, List.set_getElem_self]
    have q' := H n hn
    rw [e] at q'
    exact q'
/-! ### an __init__ with one default, None -/
theorem dfID_mk {K : PySem.W.Frag} {mg : Str → Option Value} {x : Str} {C : Addr} {qual : Str} {st : Stmt} {ps : List Str} {f dT : Addr} {oc : Value} {od an : Option Addr} {osl : Array (Option Value)} {kV doc pm cdv ct ocT : Value} {odT : Option Addr} {nT : Nat} {slT : Array (Option Value)}
    (l : K.lookup f = some ⟨oc, od, .func (PySem.W.fnOf "__init__" qual (defArgs st) (defBody st) (defScope st) (.ref dT) kV doc pm an cdv ct), osl⟩) (c : PySem.W.codeIn K cdv qual = true) (k : PySem.W.keepIn K (.ref f) = true)
    (t : K.lookup dT = some ⟨ocT, odT, .seq #[Value.none] nT, slT⟩) (m : Mk K C f) (g : mg x = some (.ref C)) (n j : Nat) (hn : n + (1 - j) = ps.length)
    (h : ∀ (T : Addr) (kV doc pm : Value) (an : Option Addr) (cdv ct : Value) (us its : List Value), us.length = n → its.length = 1 →
      ∃ k, bindArgs (PySem.W.fnOf "__init__" qual (defArgs st) (defBody st) (defScope st) (.ref T) kV doc pm an cdv ct) ⟨us, []⟩ = seqItems? (.ref T) >>= k ∧ k (some its.toArray) = pure (ps.zip (us ++ its.drop j))) : DfID K mg x C qual st ps ([V.non].drop j) := by
  have F : FunD K "__init__" qual (defArgs st) (defBody st) (defScope st) [.non] [] f (PySem.W.fnOf "__init__" qual (defArgs st) (defBody st) (defScope st) (.ref dT) kV doc pm an cdv ct) :=
    ⟨⟨oc, od, .ref dT, kV, doc, pm, an, cdv, ct, osl, rfl, l, c, .inr ⟨(by simp), dT, _, [Value.none], nT, rfl, t, rfl, .cons rfl .nil⟩, .inl rfl⟩, k⟩
  obtain ⟨ds, h1, h2⟩ := F.binds1 (ps := ps) n j (by simp) hn h
  exact ⟨f, _, _, _, ds, F, m, g, h2, h1⟩
end Tq
set_option Elab.async false
set_option linter.all false
set_option autoImplicit false
set_option maxRecDepth 100000
set_option maxHeartbeats 4000000
/-! list(d.values()). -/
namespace Tq
open PySem PySem.Spec PyProof.Rows L2
theorem vals_paired {kvs : List (Key × V)} {vs : List (Key × Value)} (h : KV kvs vs) : Vals (kvs.map (·.2)) (vs.map (·.2)) := by
  induction h with
  | nil => exact .nil
  | cons r t ih => exact .cons r.2 ih
def tListVals (te : TE) : TE := fun σ H Q => te σ H fun x H1 => ∃ d kvs, x = .ref d ∧ H1 d = some (.dK kvs) ∧ ∀ q, H1 q = none → Q (.ref q) (upd H1 q (.lst (kvs.map (·.2))))
section
variable {X : Cx} {e : Expr} {te : TE} {p apos cpos pos : Pos}
theorem pe_listVals (hc : X.calm = true) (he : PE X e te) (hg : Gl X "list") (hm : X.mg "list" = none) (hv : bootBuiltins "list" = some (.type "list")) (hbase : attributeBase e "values" X.env (eval e X.env) = eval e X.env := by rfl) (hline : (apos.endLine == cpos.line) = true := by rfl)
    (hs : starEach [.Call (.Attribute e "values" apos) [] [] cpos] X.env = (false, eval (.Call (.Attribute e "values" apos) [] [] cpos) X.env) :: starEach [] X.env := by rfl) :
    PE X (.Call (.Name "list" p) [.Call (.Attribute e "values" apos) [] [] cpos] [] pos) (tListVals te) := by
  refine ⟨fun pins s σ H Q I hq => ?_⟩
  refine wpAny_Call_Name_kw (ld_blt I hg hm hv ?_)
  refine PyProof.Rows.callWith_type1 ?_ hs rfl
  rw [hs]
  show wpAny _ _ (spliced ((false, eval (.Call (.Attribute e "values" apos) [] [] cpos) X.env) :: backTo pos (starEach [] X.env))) _ _ s
  refine Calls.spliced_cons ?_
  refine wpAny_Call_method (T := "dict") (id := "dict.values") hbase rfl hline F.plainAttrs_dict F.slot_dict_values F.type_dict_values (thn (he.run pins s σ H _ I hq) fun u s1 ⟨x, H1, I1, rx, d, kvs, ex, hd, q⟩ => ?_)
  subst ex
  obtain rfl : u = Value.ref d := rx
  obtain ⟨hz, hs0, vs, kv, hdo⟩ := I1.hok d _ hd
  obtain ⟨ep, hat⟩ := hdo.dictAt
  have lk : kvs.length = vs.length := Paired.length kv
  have I2 : Inv X pins σ H1 { s1 with heap := s1.heap.push { cls := .type "dict_values", data := .fields #[.ref d] } } := I1.kept (t' := s1.toks) fun b ob q => Heap.get?_push_of_some _ q
  refine ⟨hdo.typeIs, hdo.mapOf.noDict, ?_⟩
  show wpAny _ _ (callWith cpos (.builtin "dict.values") [.ref d] [] []) _ X.xe s1
  refine method_meetsIn F.slot_dict_values F.entry_dict_values rfl (PySem.evalArgs_none ⟨rfl, hdo.typeIs, F.args_dict_values_1 _, _, meets_dict_values (mixKind X.prog X.w) d hs0, ⟨vs, hdo⟩, ?_⟩)
  refine Calls.spliced_nil ?_
  refine PySem.W.kdl_call (PySem.W.kdl_values (r := s1.heap.objs.size) (knd := mixKind X.prog X.w) (kvs := vs) (ep := ep)) (I1.ok.hd hc) ⟨⟨_, Heap.get?_push_size _ rfl, rfl, rfl⟩, hat.push _⟩ (by rw [← lk]; exact hz) fun h' tk acc' c' hkeep hS hacc => ?_
  refine ⟨.ref _, _, I2.laid hkeep (Nat.le_refl _) (show ObjOk X.prog X.w _ _ _ (.lst (kvs.map (·.2))) from ⟨?_, acc'.toList, c', ?_, ?_⟩), rfl, q _ (I2.hok.fresh (Nat.le_refl _))⟩
  · rw [List.length_map]; exact hz
  · have e1 : acc'.toList = vs.map (·.2) := PySem.W.kdl_vals_eq _ (by rw [Array.length_toList]; exact hacc.1) fun j v hj => hacc.2 j v (by rw [← Array.getElem?_toList]; exact hj)
    rw [e1]
    exact vals_paired kv
  · rw [Array.toArray_toList]; exact hS
end
theorem RpK.vlist {K : PySem.W.Frag} {F : Hp} : ∀ {vs : List (Key × V)} {ds : List (Key × Dt)}, RpK K F vs ds → RpL K F (vs.map (·.2)) (ds.map (·.2))
  | _, _, .nil => .nil
  | _, _, .cons r t => .cons r (RpK.vlist t)
def valsD (x : Dt) (P : DK) : Prop := match x with
  | .dct ds => P .fr (.lst (ds.map fun kv => kv.2))
  | _ => False
def eListVals (te : TEd) : TEd := fun ρ P => te ρ fun k x => k.lf = true ∧ valsD x P
section
variable {X : Cx} {e0 : Hs} {e : Expr} {Te : TE} {te : TEd} {p apos cpos pos : Pos}
theorem ve_listVals (hc : X.calm = true) (h : VE X e0 e Te te) (hg : Gl X "list") (hm : X.mg "list" = none) (hv : bootBuiltins "list" = some (.type "list") := by rfl) (hbase : attributeBase e "values" X.env (eval e X.env) = eval e X.env := by rfl) (hline : (apos.endLine == cpos.line) = true := by rfl)
    (hs : starEach [.Call (.Attribute e "values" apos) [] [] cpos] X.env = (false, eval (.Call (.Attribute e "values" apos) [] [] cpos) X.env) :: starEach [] X.env := by rfl) :
    VE X e0 (.Call (.Name "list" p) [.Call (.Attribute e "values" apos) [] [] cpos] [] pos) (tListVals Te) (eListVals te) := by
  refine ⟨pe_listVals hc h.pe hg hm hv hbase hline hs, fun s σ ρ P Q rp t k => ?_⟩
  refine h.run s σ ρ _ _ rp t fun s1 k1 v x g1 r1 t1 => ?_
  obtain ⟨hk, t1⟩ := t1
  cases x with
  | dct ds =>
    obtain ⟨a, kvs, rfl, hh, r⟩ := Rq.dct g1.fw g1.hw (RK.rq (rp.grow g1).rh r1 hk)
    refine ⟨a, kvs, rfl, hh, fun l hl => ?_⟩
    obtain ⟨gg, rr⟩ := fresh_new g1 hl r.vlist rfl
    exact k _ .fr _ _ gg rr t1
  | _ => exact t1.elim
end
theorem valsD_dct {ds : List (Key × Dt)} {P : DK} : valsD (.dct ds) P = P .fr (.lst (ds.map fun kv => kv.2)) := rfl
/-! len of a dict -/
def bLenD : List (Kd × Dt) → DK → Prop := fun as P => match as with
  | [(_, .dct ds)] => P .fz (.int ds.length)
  | _ => False
def rLenDc : List V → Hp → VK → Prop := fun xs H Q => ∃ a kvs, xs = [V.ref a] ∧ H a = some (.dK kvs) ∧ Q (.int kvs.length) H
theorem vc_lenD {X : Cx} : VCall X (.builtin "len") rLenDc bLenD := by
  refine ⟨call_lenD, fun s0 s vs as P Q g ar hlf d k => ?_⟩
  match as, ar, hlf, d with
  | [(_, .dct ds)], ar, hlf, d =>
    obtain ⟨v, rfl, q⟩ := ar.one hlf
    obtain ⟨a, kvs, rfl, h, r⟩ := Rq.dct g.fw g.hw q
    refine ⟨a, kvs, rfl, h, ?_⟩
    rw [r.length]
    exact k s .fz _ _ g (.int _) d
theorem bLenD_dct {k : Kd} {ds : List (Key × Dt)} {P : DK} : bLenD [(k, .dct ds)] P = P .fz (.int (ds.length : Nat)) := by cases k <;> rfl
end Tq
set_option Elab.async false
set_option linter.all false
set_option autoImplicit false
set_option maxRecDepth 100000
set_option maxHeartbeats 4000000
/-! sorted(xs, key=f), f a def of the text that tells an int. -/
namespace Tq
open PySem PySem.Spec L2
open PyProof.Rows hiding St
theorem room_in2 {k : Nat} {A : Around} (r : Room (k + 1) A) : Room k A.in1.in1 :=
  ⟨r.hd, by have := r.dp; show A.depth + 3 * k + 5 < _; omega, by have := r.un; show A.units + 1 + 1 + 16 * k + 200 < _; omega⟩
/-- in order by keys -/
def KOrd (ks : List Int) (xs ys : List V) : Prop := ∃ ps : List (Int × V), ps.Perm (ks.zip xs) ∧ ys = ps.map Prod.snd ∧ ps.Pairwise fun p q => p.1 ≤ q.1
section
variable {X : Cx} {pins : List (Addr × Obj)} {σ : St} {H : Hp} {s : Shared}
/-- two objects of ours, untracked, as they stand -/
structure Two (X : Cx) (pins : List (Addr × Obj)) (σ : St) (H : Hp) (s : Shared) (a b : Addr) (oa ob : Obj) : Prop where
  inv : Inv X pins σ H s
  fa : FpOk X pins H a
  fb : FpOk X pins H b
  ga : s.heap.get? a = some oa
  gb : s.heap.get? b = some ob
  ne : a ≠ b
theorem fp_of {H' : Hp} {b : Addr} (f : FpOk X pins H b) (n : H' b = none) : FpOk X pins H' b := ⟨n, f.2⟩
/-- a def called over it -/
theorem Two.call {A : Around} {k : Nat} {f : Addr} {fd : FuncData} {ps : List Str} {sp : Sp} {a b : Addr} {oa ob : Obj} {us : List Value} {vs : List V} {Q : VK} {E : Value → Shared → Prop}
    (F : FnOk X.prog X.w X.K X.mg X.base CX0 k f fd ps sp) (hr : Room k A) (env : ∀ {s : Shared} {H : Hp}, Env0 X.prog X.w X.K X.mg X.base X.A X.stack s H → Env0 X.prog X.w X.K X.mg X.base A X.stack s H) (hb : Binds X.K fd ps [])
    (T : Two X pins σ H s a b oa ob) (da : ∀ v, oa.data ≠ .cell v) (db : ∀ v, ob.data ≠ .cell v) (r : Vals vs us) (h : sp vs H Q E0) :
    wpAny (model X.prog X.w) A (call (.ref f) us) (fun u s' => ∃ v H', Two X pins σ H' s' a b oa ob ∧ RelV v u ∧ Q v H') E s := by
  have I2 : Inv X (pins ++ [(a, oa), (b, ob)]) σ H s := T.inv.pins_of fun p hp => by
    rcases List.mem_append.mp hp with z | z
    · exact T.inv.pin p (List.mem_append_right _ z)
    · rcases List.mem_cons.mp z with rfl | z
      · exact ⟨T.ga, T.fa.1, T.fa.2.1, T.fa.2.2.1, da⟩
      · rw [List.mem_singleton.mp z]
        exact ⟨T.gb, T.fb.1, T.fb.2.1, T.fb.2.2.1, db⟩
  have hl : (us ++ []).length = ps.length := by
    rw [List.append_nil, ← r.length]
    exact F.len _ _ _ _ h
  have hz := hb s us I2.kIn hl
  rw [List.append_nil] at hz
  refine wpAny_call (codeAny_mono (F.run A X.stack s H ⟨us, []⟩ us vs Q E0 hr (env I2.env0) hz r h) fun q s' hq => ?_)
  cases q with
  | error e => exact (False.elim hq)
  | ok fl =>
    cases fl with
    | ret u =>
      obtain ⟨v, H', J, rv, qv⟩ := I2.after hq
      have pa := J.pin (a, oa) (List.mem_append_right _ (List.mem_append_right _ List.mem_cons_self))
      have pb := J.pin (b, ob) (List.mem_append_right _ (List.mem_append_right _ (List.mem_cons_of_mem _ List.mem_cons_self)))
      exact ⟨v, H', ⟨J.unpinned, fp_of T.fa pa.2.1, fp_of T.fb pb.2.1, pa.1, pb.1, T.ne⟩, rv, qv⟩
    | next => exact False.elim hq
    | brk => exact False.elim hq
    | cont => exact False.elim hq
theorem Two.swap {a b : Addr} {oa ob : Obj} (T : Two X pins σ H s a b oa ob) : Two X pins σ H s b a ob oa := ⟨T.inv, T.fb, T.fa, T.gb, T.ga, T.ne.symm⟩
/-- the first one changed -/
theorem Two.put {a b : Addr} {oa ob oc : Obj} {h' : Heap} {t' : Nat} (T : Two X pins σ H s a b oa ob) (k : ∀ c o, c ≠ a → s.heap.get? c = some o → h'.get? c = some o) (hc : h'.get? a = some oc) : Two X pins σ H { s with heap := h', toks := t' } a b oc ob :=
  ⟨T.inv.turned k T.fa.1 T.fa.2.1 T.fa.2.2.2.1 T.fa.2.2.2.2.1 T.fa.2.2.2.2.2, T.fa, T.fb, hc, k b ob T.ne.symm T.gb, T.ne⟩
/-- an object of ours comes to be tracked -/
theorem inv_track {a : Addr} {o : HO} (I : Inv X pins σ H s) (f : FpOk X pins H a) (ok : ObjOk X.prog X.w (upd H a o) s.heap a o) : Inv X pins σ (upd H a o) s := by
  have hn := f.1
  refine I.step (h' := s.heap) (g' := s.gens) (d' := s.drawn) (t' := s.toks) (ch := [a]) (fun b hb => ?_) (fun b o _ _ _ e _ => e) (fun b o _ _ _ e _ => ⟨o.slots, e⟩) (fun b o hc e n => ?_) (fun b o _ e => ⟨o, e⟩) (fun b xs e => ?_) (fun b o' u e => ?_) (fun b ps e => ⟨#[], ?_⟩) (fun m hm => hm) (fun b u e => ?_) I.bare
  · rw [List.mem_singleton.mp hb]
    exact ⟨f.2.2.2.1, f.2.1, f.2.2.2.2.1, f.2.2.2.2.2⟩
  · rw [upd_ne (fun z => hc (by rw [z]; exact List.mem_singleton.mpr rfl))]; exact n
  · rw [upd_ne (ne_of_none e hn)]; exact e
  · rw [upd_ne (ne_of_none e hn)]; exact e
  · rw [upd_ne (ne_of_none e hn), e]; simp
  · by_cases hb : b = a
    · subst hb
      rw [upd_same] at e
      cases e
      exact ok
    · rw [upd_ne hb] at e
      exact (I.hok b u e).stay (fun c v _ q => q) (fun c q => by rw [upd_ne (ne_of_none q hn)]; exact q) fun c xs q => by rw [upd_ne (ne_of_none q hn)]; exact q
end
section
variable {X : Cx} {pins : List (Addr × Obj)} {σ : St} {H : Hp} {s : Shared} {a kS : Addr} {vs : List Value} {kz : List Int} {keys : Array Value} {e e1 : Nat} {P : PySem.Fin → Shared → Prop} {A : Around} {E : Value → Shared → Prop}
theorem srt_tail {st : SortSt} (T : Two X pins σ H s kS a (seqObj "list" keys e) (seqObj "list" #[] e1)) (hk : IntsAre keys.toList kz) (hlen : kz.length = vs.length) (hZ : vs.length ≤ sizeLine) (hp : (arrOf st).Perm (keys.zip vs.toArray))
    (hs : SortedTo (arrOf st) (arrOf st).size) (hfl : failedOf st = none)
    (h : ∀ h' tk out c ka, Two X pins σ H { s with heap := h', toks := tk } a kS (seqObj "list" out c) ka → KskOut false kz vs out.toList → P (.done (.ret .none)) { s with heap := h', toks := tk }) :
    wpAny (model X.prog X.w) A (ksk_tail a false e1 (.ref kS) st) P E s := by
  have hsz : keys.size = vs.length := by
    have q := hk.length
    rw [Array.length_toList] at q
    omega
  have hsz2 : (arrOf st).size = vs.length := by rw [hp.size_eq, Array.size_zip, hsz, List.size_toArray, Nat.min_self]
  have s1 := Heap.SameBut.update s.heap kS (Obj.mapSeq fun _ => (#[] : Array Value))
  obtain ⟨c1, hc1⟩ : ∃ c, (s.heap.update kS (Obj.mapSeq fun _ => (#[] : Array Value))).get? kS = some (seqObj "list" #[] c) := ⟨_, get?_update_seq T.ga fun _ => #[]⟩
  have T1 := T.put (t' := s.toks) (fun c o hc q => (s1.2 c hc).trans q) hc1
  have s2 := Heap.SameBut.update (s.heap.update kS (Obj.mapSeq fun _ => (#[] : Array Value))) a (Obj.mapSeq fun _ => (arrOf st).map (·.2))
  obtain ⟨c2, hc2⟩ : ∃ c, ((s.heap.update kS (Obj.mapSeq fun _ => (#[] : Array Value))).update a (Obj.mapSeq fun _ => (arrOf st).map (·.2))).get? a = some (seqObj "list" ((arrOf st).map (·.2)) c) := ⟨_, get?_update_seq T1.gb fun _ => (arrOf st).map (·.2)⟩
  have T2 := T1.swap.put (t' := s.toks) (fun c o hc q => (s2.2 c hc).trans q) hc2
  unfold ksk_tail
  try dsimp only
  refine wpAny_bind (listUpdate_at T.ga rfl ?_ (hsz.symm ▸ hZ) (Nat.zero_le _))
  refine wpAny_bind (wpAny_letGo ?_)
  refine wpAny_bind (seqEpoch_at T1.gb rfl ?_)
  have hle : ((arrOf st).map (·.2)).size ≤ sizeLine := by rw [Array.size_map, hsz2]; exact hZ
  refine wpAny_bind (listUpdate_at T1.gb rfl ?_ (Nat.zero_le _) (Nat.le_succ_of_le hle))
  rw [hfl]
  simp only [bne_self_eq_false, Bool.false_eq_true, if_false]
  exact wpAny_pure (h _ _ _ c2 _ T2 (ksk_out (b := false) hk hp hs))
theorem srt_end (T : Two X pins σ H s kS a (seqObj "list" keys e) (seqObj "list" #[] e1)) (hk : IntsAre keys.toList kz) (hlen : kz.length = vs.length) (hZ : vs.length ≤ sizeLine)
    (h : ∀ h' tk out c ka, Two X pins σ H { s with heap := h', toks := tk } a kS (seqObj "list" out c) ka → KskOut false kz vs out.toList → P (.done (.ret .none)) { s with heap := h', toks := tk }) :
    wpAny (model X.prog X.w) A (ksk_end a false vs.toArray e1 (.ref kS) keys) P E s := by
  have hsz : keys.size = vs.length := by
    have q := hk.length
    rw [Array.length_toList] at q
    omega
  have hzs : (keys.zip vs.toArray).size = vs.length := by rw [Array.size_zip, hsz, List.size_toArray, Nat.min_self]
  unfold ksk_end
  simp only [Bool.false_eq_true, if_false]
  by_cases h2 : vs.toArray.size < 2
  · rw [if_pos h2, if_pos h2]
    refine wpAny_bind (wpAny_pure ?_)
    rw [StateT.run_pure]
    refine wpAny_bind (wpAny_pure ?_)
    try dsimp only
    refine srt_tail (st := SortSt.mk' general' (keys.zip vs.toArray) #[] 7 none) T hk hlen hZ (Array.Perm.refl _) ?_ rfl h
    intro i j hij hj
    have hj2 : j < (keys.zip vs.toArray).size := hj
    rw [hzs] at hj2
    rw [List.size_toArray] at h2
    obtain rfl : i = j := by omega
    exact Int.le_refl _
  · rw [if_neg h2, if_neg h2]
    rw [List.size_toArray] at h2
    rw [ksk_kind hk (by omega)]
    refine wpAny_bind (wpAny_pure ?_)
    refine wpAny_bind (wpAny_mono (wpS_sortRunsAny (κ := intKind) (a₀ := keys.zip vs.toArray) (st := SortSt.mk' oneType' (keys.zip vs.toArray) #[] 7 none)
      (Q := fun _ st' => (arrOf st').Perm (keys.zip vs.toArray) ∧ failedOf st' = none ∧ SortedTo (arrOf st') (keys.zip vs.toArray).size) intKind_oneLt (ksk_keysOfInt (ksk_intKeys hk)) ⟨Array.Perm.refl _, rfl, rfl⟩ rfl (by omega) fun st' a1 a2 a3 => ⟨a1, a2, sortedTo_of_int a3⟩) ?_ fun _ _ q => q)
    rintro ⟨⟨⟩, st'⟩ s' ⟨rfl, hp, hf, hs⟩
    try dsimp only
    exact srt_tail T hk hlen hZ hp (by rw [hp.size_eq]; exact hs) hf h
end
section
variable {X : Cx} {pins : List (Addr × Obj)} {σ : St} {H : Hp} {s : Shared} {a kS : Addr} {vs : List Value} {xs : List V} {kz : List Int} {e1 : Nat} {P : PySem.Fin → Shared → Prop} {A : Around} {E : Value → Shared → Prop} {k : Nat} {f : Addr} {fd : FuncData} {ps : List Str} {sp : Sp}
theorem srt_rest (J : Hp → Prop) (F : FnOk X.prog X.w X.K X.mg X.base CX0 k f fd ps sp) (hr : Room k A) (env : ∀ {s : Shared} {H : Hp}, Env0 X.prog X.w X.K X.mg X.base X.A X.stack s H → Env0 X.prog X.w X.K X.mg X.base A X.stack s H) (hb : Binds X.K fd ps [])
    (rv : Vals xs vs) (T : Two X pins σ H s kS a (seqObj "list" #[] 0) (seqObj "list" #[] e1)) (jH : J H) (hlen : kz.length = vs.length) (hZ : vs.length ≤ sizeLine)
    (turn : ∀ (i : Nat) (v : V) (n : Int) (H2 : Hp), xs[i]? = some v → kz[i]? = some n → J H2 → sp [v] H2 (fun r H3 => r = .int n ∧ J H3) E0)
    (h : ∀ H' s' out c ka, J H' → Two X pins σ H' s' a kS (seqObj "list" out c) ka → KskOut false kz vs out.toList → P (.done (.ret .none)) s') :
    wpAny (model X.prog X.w) A (ksk_rest a (.ref f) false vs.toArray e1 (.ref kS)) P E s := by
  unfold ksk_rest
  refine wpAny_bind (wpAny_rule ?_)
  first
    | rw [List.forIn_toArray]
    | (rw [← Array.forIn_toList]; simp only [List.toList_toArray])
    | rw [← Array.forIn_toList]
  refine wpAny_bind (ksk_fold (fun i s' => ∃ H' kA c, J H' ∧ Two X pins σ H' s' kS a (seqObj "list" kA c) (seqObj "list" #[] e1) ∧ IntsAre kA.toList (kz.take i)) vs 0 s
    ⟨H, #[], 0, jH, T, by simpa using IntsAre.nil⟩ ?step ?done)
  case step =>
    rintro j x s' hx ⟨H', kA, c, jH', T', hk⟩
    simp only [Nat.zero_add] at hk ⊢
    have hj : j < vs.length := (List.getElem?_eq_some_iff.mp hx).1
    obtain ⟨n, hn⟩ : ∃ n, kz[j]? = some n := ⟨_, List.getElem?_eq_getElem (by omega)⟩
    obtain ⟨v, hv, rxv⟩ : ∃ v, xs[j]? = some v ∧ RelV v x := by
      have hl : j < xs.length := by rw [Paired.length rv]; exact hj
      obtain ⟨u, hu, r⟩ := Vals.get rv (List.getElem?_eq_getElem hl)
      rw [hx] at hu
      cases hu
      exact ⟨xs[j], List.getElem?_eq_getElem hl, r⟩
    have hz : kA.size ≤ vs.length := by
      have q := hk.length
      rw [Array.length_toList, List.length_take] at q
      omega
    refine wpAny_bind (wpAny_attempt (wpAny_mono (T'.call F hr env hb (fun v z => by cases z) (fun v z => by cases z) (.cons rxv .nil) (turn j v n H' hv hn jH')) (fun u s'' he => ?_) fun _ _ hF => hF))
    obtain ⟨r, H2, T2, ru, rfl, j2⟩ := he
    obtain ⟨t2, rfl⟩ := ru
    try dsimp only
    have s1 := Heap.SameBut.update s''.heap kS (Obj.mapSeq (·.push (.int n t2)))
    obtain ⟨c2, hc2⟩ : ∃ c2, (s''.heap.update kS (Obj.mapSeq (·.push (.int n t2)))).get? kS = some (seqObj "list" (kA.push (.int n t2)) c2) := ⟨_, get?_update_seq T2.ga (·.push (.int n t2))⟩
    have ek : kz.take (j + 1) = kz.take j ++ [n] := by rw [List.take_add_one, hn]; simp
    have ea : (kA.push (Value.int n t2)).toList = kA.toList ++ [Value.int n t2] := by simp
    refine wpAny_bind (listUpdate_at T2.ga rfl ?_ (Nat.le_trans hz hZ) (by rw [Array.size_push]; omega))
    refine wpAny_pure ⟨rfl, H2, kA.push (.int n t2), c2, j2, T2.put (t' := s''.toks) (fun c o hc q => (s1.2 c hc).trans q) hc2, ?_⟩
    rw [ea, ek]
    exact ksk_snoc hk
  case done =>
    rintro s' ⟨H', kA, c, jH', T', hk⟩
    have hk' : IntsAre kA.toList kz := by
      have e3 : kz.take (0 + vs.length) = kz := List.take_of_length_le (by omega)
      rw [e3] at hk
      exact hk
    try dsimp only
    refine wpAny_bind (listItems_at T'.ga rfl ?_)
    exact srt_end T' hk' hlen hZ fun h' tk out c ka T3 ko => h H' _ out c ka jH' T3 ko
theorem srt_sort {n : Nat} (J : Hp → Prop) (F : FnOk X.prog X.w X.K X.mg X.base CX0 k f fd ps sp) (hr : Room k A) (env : ∀ {s : Shared} {H : Hp}, Env0 X.prog X.w X.K X.mg X.base X.A X.stack s H → Env0 X.prog X.w X.K X.mg X.base A X.stack s H) (hb : Binds X.K fd ps [])
    (rv : Vals xs vs) (I : Inv X pins σ H s) (fa : FpOk X pins H a) (ho : s.heap.get? a = some (seqObj "list" vs.toArray n)) (jH : J H) (hlen : kz.length = vs.length) (hZ : vs.length ≤ sizeLine)
    (turn : ∀ (i : Nat) (v : V) (n : Int) (H2 : Hp), xs[i]? = some v → kz[i]? = some n → J H2 → sp [v] H2 (fun r H3 => r = .int n ∧ J H3) E0)
    (h : ∀ H' s' out c ka kS, J H' → Two X pins σ H' s' a kS (seqObj "list" out c) ka → KskOut false kz vs out.toList → P (.done (.ret .none)) s') :
    wpAny (model X.prog X.w) A (ksk_tree a (.ref f) false) P E s := by
  have ha : a < s.heap.objs.size := Heap.lt_size ho
  have s1 := Heap.SameBut.update s.heap a (Obj.mapSeq fun _ => (#[] : Array Value))
  obtain ⟨e1, ho1⟩ : ∃ e1, (s.heap.update a (Obj.mapSeq fun _ => (#[] : Array Value))).get? a = some (seqObj "list" #[] e1) := ⟨_, get?_update_seq ho fun _ => #[]⟩
  have I1 : Inv X pins σ H { s with heap := s.heap.update a (Obj.mapSeq fun _ => (#[] : Array Value)), toks := s.toks } := I.turned (fun c o hc q => (s1.2 c hc).trans q) fa.1 fa.2.1 fa.2.2.2.1 fa.2.2.2.2.1 fa.2.2.2.2.2
  have hkS : ((s.heap.update a (Obj.mapSeq fun _ => (#[] : Array Value))).push (seqObj "tuple" vs.toArray 0)).objs.size = s.heap.objs.size + 1 := by rw [size_push', Heap.size_update]
  have I2 : Inv X pins σ H { s with heap := (s.heap.update a (Obj.mapSeq fun _ => (#[] : Array Value))).push (seqObj "tuple" vs.toArray 0), toks := s.toks } := I1.kept fun c o q => Heap.get?_push_of_some _ q
  have I3 : Inv X pins σ H { s with heap := ((s.heap.update a (Obj.mapSeq fun _ => (#[] : Array Value))).push (seqObj "tuple" vs.toArray 0)).push (seqObj "list" #[] 0), toks := s.toks } := I2.kept fun c o q => Heap.get?_push_of_some _ q
  have hne : a ≠ ((s.heap.update a (Obj.mapSeq fun _ => (#[] : Array Value))).push (seqObj "tuple" vs.toArray 0)).objs.size := by rw [hkS]; exact Nat.ne_of_lt (Nat.lt_succ_of_lt ha)
  unfold ksk_tree
  refine wpAny_bind (listItems_at ho rfl ?_)
  refine wpAny_bind (listUpdate_at ho rfl ?_ (by rw [List.size_toArray]; exact hZ) (Nat.zero_le _))
  refine wpAny_bind (seqEpoch_at ho1 rfl ?_)
  refine wpAny_bind (wpAny_newTuple ?_ (by show vs.length ≤ _; exact hZ))
  refine wpAny_bind (wpAny_newList ?_ (Nat.zero_le _))
  refine wpAny_holding ?_
  refine srt_rest (s := { s with heap := ((s.heap.update a (Obj.mapSeq fun _ => (#[] : Array Value))).push (seqObj "tuple" vs.toArray 0)).push (seqObj "list" #[] 0) }) (kS := ((s.heap.update a (Obj.mapSeq fun _ => (#[] : Array Value))).push (seqObj "tuple" vs.toArray 0)).objs.size) J F hr env hb rv
    ⟨I3, I2.fpOk (Nat.le_refl _) (I2.hok.fresh (Nat.le_refl _)), fa, Heap.get?_push_size _ rfl, Heap.get?_push_of_some _ (Heap.get?_push_of_some _ ho1), hne.symm⟩ jH hlen hZ turn fun H' s' out c ka => h H' s' out c ka _
end
section
variable {X : Cx} {pins : List (Addr × Obj)} {σ : St} {H : Hp} {s : Shared} {l : Addr} {vs : List Value} {xs : List V} {kz : List Int} {E : Value → Shared → Prop} {k : Nat} {f : Addr} {fd : FuncData} {ps : List Str} {sp : Sp} {Q : Value → Shared → Prop}
theorem srt_sorted (J : Hp → Prop) (F : FnOk X.prog X.w X.K X.mg X.base CX0 k f fd ps sp) (hr : Room (k + 1) X.A) (hb : Binds X.K fd ps []) (rv : Vals xs vs) (I : Inv X pins σ H s) (hl : s.heap.IsList l vs.toArray) (jH : J H) (hlen : kz.length = vs.length) (hZ : vs.length ≤ sizeLine)
    (turn : ∀ (i : Nat) (v : V) (n : Int) (H2 : Hp), xs[i]? = some v → kz[i]? = some n → J H2 → sp [v] H2 (fun r H3 => r = .int n ∧ J H3) E0)
    (h : ∀ D H' s' out c ka kS, J H' → Two X pins σ H' s' D kS (seqObj "list" out c) ka → KskOut false kz vs out.toList → Q (.ref D) s') :
    wpAny (model X.prog X.w) X.A (PySem.call (.builtin "sorted") [.ref l] [(Str.ofString "key", .ref f)]) Q E s := by
  refine call_function_entry_kw kind_sorted plain_sorted entry_sorted (ksk_s1 _ _) ?_
  unfold Builtin.«sorted»
  refine wpAny_bind (m := checkCount "sorted" 1 1 _) (wpAny_pure ?_)
  refine wpAny_bind (collect_list hl ?_ hZ)
  refine wpAny_bind (wpAny_newList ?_ hZ)
  have sb := Heap.SameBut.update (s.heap.push (seqObj "list" #[] 0)) s.heap.objs.size (Obj.mapSeq (· ++ vs.toArray))
  have hsz : ((s.heap.push (seqObj "list" #[] 0)).update s.heap.objs.size (Obj.mapSeq (· ++ vs.toArray))).objs.size = s.heap.objs.size + 1 := by
    rw [Heap.size_update, size_push']
  have I1 : Inv X pins σ H { s with heap := (s.heap.push (seqObj "list" #[] 0)).update s.heap.objs.size (Obj.mapSeq (· ++ vs.toArray)), toks := s.toks } := I.kept fun c o q => (sb.2 c (Nat.ne_of_lt (Heap.lt_size q))).trans (Heap.get?_push_of_some _ q)
  have I2 : Inv X pins σ H { s with heap := ((s.heap.push (seqObj "list" #[] 0)).update s.heap.objs.size (Obj.mapSeq (· ++ vs.toArray))).push (seqObj "list" vs.toArray 0), toks := s.toks } := I1.kept fun c o q => Heap.get?_push_of_some _ q
  have hoL : (((s.heap.push (seqObj "list" #[] 0)).update s.heap.objs.size (Obj.mapSeq (· ++ vs.toArray))).push (seqObj "list" vs.toArray 0)).get? (s.heap.objs.size + 1) = some (seqObj "list" vs.toArray 0) := by
    rw [← hsz]; exact Heap.get?_push_size _ rfl
  have fa : FpOk X pins H (s.heap.objs.size + 1) := I1.fpOk (by show ((s.heap.push (seqObj "list" #[] 0)).update s.heap.objs.size (Obj.mapSeq (· ++ vs.toArray))).objs.size ≤ _; rw [hsz]; exact Nat.le_refl _) (I.hok.fresh (Nat.le_succ _))
  show wpAny _ _ _ _ _ { s with heap := ((s.heap.push (seqObj "list" #[] 0)).update s.heap.objs.size (Obj.mapSeq (· ++ vs.toArray))).push (seqObj "list" vs.toArray 0) }
  rw [hsz]
  refine wpAny_bind (wpAny_holding (wpAny_call_entry_kw slot_list_sort ⟨_, hoL, rfl⟩ entry_list_sort ?_ (ksk_l1 _ _)))
  rw [ksk_t1]
  refine srt_sort J F (room_in2 hr) (fun q => q.in1.in1) hb rv I2 fa hoL jH hlen hZ turn fun H' s' out c ka kS jH' T' ko => ⟨_, rfl, ?_⟩
  exact wpAny_pure ⟨_, rfl, h _ H' s' out c ka kS jH' T' ko⟩
end
theorem perm_lift {α β : Type} {g : α → β} : ∀ {l m : List β}, l.Perm m → ∀ L : List α, L.map g = m → ∃ L' : List α, L'.Perm L ∧ L'.map g = l := by
  intro l m h
  induction h with
  | nil => intro L e; exact ⟨L, .refl _, e⟩
  | cons x h ih =>
    intro L e
    cases L with
    | nil => cases e
    | cons a L =>
      obtain ⟨rfl, e2⟩ := List.cons.inj e
      obtain ⟨L', p, q⟩ := ih L e2
      exact ⟨a :: L', p.cons a, by rw [List.map_cons, q]⟩
  | swap x y l =>
    intro L e
    match L, e with
    | a :: b :: L, e =>
      obtain ⟨rfl, e2⟩ := List.cons.inj e
      obtain ⟨rfl, e3⟩ := List.cons.inj e2
      exact ⟨b :: a :: L, .swap _ _ _, by rw [List.map_cons, List.map_cons, e3]⟩
  | trans _ _ ih1 ih2 =>
    intro L e
    obtain ⟨L1, p1, q1⟩ := ih2 L e
    obtain ⟨L2, p2, q2⟩ := ih1 L1 q1
    exact ⟨L2, p2.trans p1, q2⟩
theorem vals_zip : ∀ {xs : List V} {us : List Value}, Vals xs us → ∀ p ∈ xs.zip us, RelV p.1 p.2
  | _, _, .nil, p, h => by simp at h
  | _, _, .cons r t, p, h => by
    rw [List.zip_cons_cons] at h
    rcases List.mem_cons.mp h with rfl | h
    · exact r
    · exact vals_zip t p h
theorem kord_of {kz : List Int} {xs : List V} {vs out : List Value} (rv : Vals xs vs) (hl : kz.length = vs.length) (h : KskOut false kz vs out) : ∃ ys, Vals ys out ∧ KOrd kz xs ys := by
  obtain ⟨ps, hp, rfl, hs⟩ := h
  have hx : xs.length = vs.length := Paired.length rv
  obtain ⟨L, p, q⟩ := perm_lift (g := fun z : Int × (V × Value) => (z.1, z.2.2)) hp (kz.zip (xs.zip vs)) (by
    apply List.ext_getElem
    · simp [hx]
    · intro i h1 h2
      simp)
  refine ⟨L.map fun z => z.2.1, ?_, L.map fun z => (z.1, z.2.1), ?_, by rw [List.map_map]; rfl, ?_⟩
  · rw [← q, List.map_map]
    have hm : ∀ z ∈ L, RelV z.2.1 z.2.2 := fun z hz => by
      have h1 := p.mem_iff.mp hz
      exact vals_zip rv z.2 (List.of_mem_zip (a := z.1) (b := z.2) h1).2
    clear p q hp
    induction L with
    | nil => exact .nil
    | cons z L ih => exact .cons (hm z List.mem_cons_self) (ih fun y hy => hm y (List.mem_cons_of_mem _ hy))
  · have h1 := p.map fun z : Int × (V × Value) => (z.1, z.2.1)
    refine h1.trans (List.Perm.of_eq ?_)
    apply List.ext_getElem
    · simp [hx]
    · intro i h1 h2
      simp
  · rw [← q, List.pairwise_map] at hs
    rw [List.pairwise_map]
    exact hs
def rSortK (K : PySem.W.Frag) (f : Addr) (sp : Sp) : List V → List V → Hp → VK → Prop := fun vs zs H Q => ∃ (l : Addr) (xs : List V) (ks : List Int) (J : Hp → Prop), vs = [.ref l] ∧ zs = [.ref f] ∧ SqL K H l xs ∧ ks.length = xs.length ∧ J H ∧
  (∀ (i : Nat) (v : V) (n : Int) (H2 : Hp), xs[i]? = some v → ks[i]? = some n → J H2 → sp [v] H2 (fun r H3 => r = .int n ∧ J H3) E0) ∧
  ∀ (ys : List V) (H' : Hp) (p : Addr), J H' → KOrd ks xs ys → H' p = none → Q (.ref p) (upd H' p (.lst ys))
section
variable {X : Cx}
theorem cr_sortK {k : Nat} {f : Addr} {fd : FuncData} {ps : List Str} {sp : Sp} (F : FnOk X.prog X.w X.K X.mg X.base CX0 k f fd ps sp) (hr : Room (k + 1) X.A) (hb : Binds X.K fd ps []) : CallRK X (.builtin "sorted") [Str.ofString "key"] (rSortK X.K f sp) := by
  intro pins s σ H us zs uv wv Q I r rz h
  obtain ⟨l, xs, ks, J, rfl, rfl, hs, hl, jH, turn, q⟩ := h
  obtain rfl := Vals.ref1 r
  obtain rfl := Vals.ref1 rz
  obtain ⟨its, rv, hl2, hz⟩ := I.list hs
  have hx : xs.length = its.length := Paired.length rv
  refine srt_sorted J F hr hb rv I hl2.isList jH (hl.trans hx) (by omega) turn fun D H' s' out c ka kS jH' T ko => ?_
  obtain ⟨ys, ry, ko2⟩ := kord_of rv (hl.trans hx) ko
  have hyl : ys.length ≤ sizeLine := by
    obtain ⟨ps, hp, rfl, _⟩ := ko2
    rw [List.length_map, hp.length_eq, List.length_zip]
    omega
  exact ⟨.ref D, _, inv_track (o := .lst ys) T.inv T.fa ⟨hyl, out.toList, c, ry, by rw [Array.toArray_toList]; exact T.ga⟩, rfl, q ys H' D jH' ko2 T.fa.1⟩
end
/-! by data -/
def sortK (S : DSp) (x : Dt) (P : DK) : Prop := match x with
  | .lst ds => ∃ g : Dt → Int, (∀ d ∈ ds, S [normA (.fz, d)] fun _ y => y = .int (g d)) ∧ ∀ es : List Dt, es.Perm ds → es.Pairwise (fun a b => g a ≤ g b) → P .fr (.lst es)
  | _ => False
def eSortK (S : DSp) (te : TEd) : TEd := fun ρ P => te ρ fun k x => k.lf = true ∧ sortK S x P
theorem sortK_lst {S : DSp} {ds : List Dt} {P : DK} : sortK S (.lst ds) P = ∃ g : Dt → Int, (∀ d ∈ ds, S [normA (.fz, d)] fun _ y => y = .int (g d)) ∧ ∀ es : List Dt, es.Perm ds → es.Pairwise (fun a b => g a ≤ g b) → P .fr (.lst es) := rfl
theorem argsR_norm1 {K : PySem.W.Frag} {F H : Hp} {i : Addr → Option (List Int → Prop)} {v : V} {d : Dt} (r : Rp K F v d) : ArgsR K F H i [v] [normA (.fz, d)] := ArgsR.norm (as := [(.fz, d)]) (.fz r .nil)
section
variable {X : Cx} {e0 : Hs} {pos : Pos} {K : PySem.W.Frag}
theorem ve_sortK {k : Nat} {ps : List Str} {S : DSp} {y : Str} {p p2 kp : Pos} {e : Expr} {T : TE} {t : TEd} (h : Has X.prog X.w X.K X.mg X.base k y ps S) (hr : Room (k + 1) X.A) (hg : Gl X "sorted") (hm : X.mg "sorted" = none) (hg2 : Gl X y)
    (ha : VE X e0 e T t) (hdb : (y == ("__debug__" : Str)) = false := by decide)
    (he : backTo pos (starEach [e] X.env) = (false, eval e X.env) :: backTo pos (starEach [] X.env) := by rfl) (hpl : (backTo pos (starEach [e] X.env)).any (·.1) = false := by rfl)
    (hall : (backToKw pos (keywordEach [⟨some "key", .Name y p2, kp⟩] X.env)).all (·.1.isSome) = true := by rfl) (hnone : (backToKw pos (keywordEach [⟨some "key", .Name y p2, kp⟩] X.env)).any (·.1.isNone) = false := by rfl) (hks : (backToKw pos (keywordEach [⟨some "key", .Name y p2, kp⟩] X.env)).filterMap (·.1) = [Str.ofString "key"] := by rfl)
    (hse : starEach [e] X.env = (false, eval e X.env) :: starEach [] X.env := by rfl) :
    VE X e0 (.Call (.Name "sorted" p) [e] [⟨some "key", .Name y p2, kp⟩] pos) (tCKw (rSortK X.K h.choose (spL X.K S)) (tCons T tNil) (tCons (tC (.ref h.choose)) tNil)) (eSortK S t) := by
  obtain ⟨fd, F, hmf, hkf, hb⟩ := h.choose_spec
  refine ⟨pe_callBK (cr_sortK F hr hb) hg hm PyProof.Rows.boot_sorted (pa_cons ha.pe pa_nil hse) (pk_cons (pe_glob hg2 hmf (v := .ref h.choose) rfl hdb) pk_nil) (by decide) (by decide) he hpl hall hnone hks, fun s σ ρ P Q rp t k => ?_⟩
  refine ha.run s σ ρ _ _ rp t fun s1 k1 v1 x1 g1 r1 t1 => ?_
  obtain ⟨hk, t1⟩ := t1
  cases x1 with
  | lst ds =>
    obtain ⟨g, tg, tn⟩ := t1
    have rp1 := rp.grow g1
    obtain ⟨a, xs, rfl, hs, r⟩ := Rq.lst g1.fw g1.hw (RK.rq rp1.rh r1 hk)
    refine ⟨a, xs, ds.map g, fun H2 => ∃ s2, Grow s1 s2 ∧ s2.w = H2, rfl, rfl, hs, by rw [List.length_map, r.length], ⟨s1, rp1.self, rfl⟩, fun i v n H2 hv hn j2 => ?_, fun ys H' l j2 ko hl => ?_⟩
    · obtain ⟨s2, g2, rfl⟩ := j2
      obtain ⟨d, hd, rd⟩ := r.get hv
      rw [List.getElem?_map, hd] at hn
      obtain rfl : g d = n := Option.some.inj hn
      have rp2 := rp1.grow g2
      refine ⟨s2.f, s2.h, s2.i, _, _, rp2.rh.fh, rp2.rh.hw, rp2.rh.iv, argsR_norm1 (rd.mono g2.f), tg d (List.mem_of_getElem? hd), fun s' k' v' x' b rr q => ?_⟩
      obtain ⟨s3, g3, ef, eh, ew, hl3⟩ := back_grow rp2.rh b
      subst q
      refine ⟨RK.isint (rr_rk g2 ef eh hl3 rr), s3, g2.trans g3, ew⟩
    · obtain ⟨s2, g2, rfl⟩ := j2
      obtain ⟨ps, hp, rfl, hsrt⟩ := ko
      -- the data's order
      obtain ⟨L, pL, qL⟩ := perm_lift (g := fun z : V × Dt => (g z.2, z.1)) hp (xs.zip ds) (by
        apply List.ext_getElem
        · simp [r.length]
        · intro i h1 h2
          simp)
      have hzip : ∀ {xs : List V} {ds : List Dt}, RpL X.K s1.f xs ds → ∀ z ∈ xs.zip ds, Rp X.K s1.f z.1 z.2 := by
        intro xs ds r
        induction xs generalizing ds with
        | nil => intro z hz; simp at hz
        | cons x xs ih =>
          cases r with
          | cons rx rt =>
            intro z hz
            rw [List.zip_cons_cons] at hz
            rcases List.mem_cons.mp hz with rfl | hz
            · exact rx
            · exact ih rt z hz
      have hm : ∀ z ∈ L, Rp X.K s1.f z.1 z.2 := fun z hz => hzip r z (pL.mem_iff.mp hz)
      have rl : RpL X.K s2.f (ps.map Prod.snd) (L.map Prod.snd) := by
        rw [← qL, List.map_map]
        clear pL qL hp hsrt
        induction L with
        | nil => exact .nil
        | cons z L ih => exact .cons ((hm z List.mem_cons_self).mono g2.f) (ih fun y hy => hm y (List.mem_cons_of_mem _ hy))
      have hgs : (L.map Prod.snd).Pairwise fun a b => g a ≤ g b := by
        rw [← qL, List.pairwise_map] at hsrt
        rw [List.pairwise_map]
        exact hsrt
      have hpm : (L.map Prod.snd).Perm ds := by
        refine (pL.map Prod.snd).trans (List.Perm.of_eq ?_)
        apply List.ext_getElem
        · simp [r.length]
        · intro i h1 h2
          simp
      obtain ⟨gg, rr⟩ := fresh_new (g1.trans g2) hl rl rfl
      exact k _ .fr _ _ gg rr (tn _ hpm hgs)
  | _ => exact t1.elim
end
end Tq
set_option Elab.async false
set_option linter.all false
set_option autoImplicit false
set_option maxHeartbeats 4000000
namespace Tq
/-! ### sets kept as numbers -/
/-- the places below n that are in the set m, the least first -/
def bits (n m : Nat) : List Nat := (List.range n).filter fun k => m.testBit k
def setOf (ks : List Nat) : Nat := ks.foldl (fun m k => m ||| 2 ^ k) 0
theorem setOf_snoc (ks : List Nat) (k : Nat) : setOf (ks ++ [k]) = setOf ks ||| 2 ^ k := by simp [setOf]
theorem bits_succ (n m : Nat) : bits (n + 1) m = bits n m ++ (if m.testBit n then [n] else []) := by
  unfold bits
  rw [List.range_succ, List.filter_append]
  congr 1
  by_cases h : m.testBit n <;> simp [h]
theorem bits_length (n m : Nat) : (bits n m).length ≤ n := by
  unfold bits
  exact Nat.le_trans (List.length_filter_le _ _) (by simp)
theorem mem_bits {n m k : Nat} : k ∈ bits n m ↔ k < n ∧ m.testBit k = true := by
  unfold bits
  rw [List.mem_filter, List.mem_range]
theorem bits_nodup (n m : Nat) : (bits n m).Nodup := List.Pairwise.filter _ List.nodup_range
theorem bits_more {n j m : Nat} (h : m < 2 ^ j) (hj : j ≤ n) : bits n m = bits j m := by
  obtain ⟨d, rfl⟩ : ∃ d, n = j + d := ⟨n - j, by omega⟩
  clear hj
  induction d with
  | zero => rfl
  | succ d ih =>
    rw [← Nat.add_assoc, bits_succ, ih]
    have : m.testBit (j + d) = false := Nat.testBit_lt_two_pow (Nat.lt_of_lt_of_le h (Nat.pow_le_pow_right (by decide) (by omega)))
    simp [this]
theorem testBit_pow (k j : Nat) : (2 ^ k).testBit j = decide (k = j) := Nat.testBit_two_pow
theorem testBit_setOf (ks : List Nat) (j : Nat) : (setOf ks).testBit j = decide (j ∈ ks) := by
  have key : ∀ (ks : List Nat) (m : Nat), (ks.foldl (fun m k => m ||| 2 ^ k) m).testBit j = (m.testBit j || decide (j ∈ ks)) := by
    intro ks
    induction ks with
    | nil => intro m; simp
    | cons k ks ih =>
      intro m
      rw [List.foldl_cons, ih, Nat.testBit_or, testBit_pow]
      by_cases h : k = j
      · subst h; simp
      · have h' : ¬ j = k := fun z => h z.symm
        simp [h, h']
  unfold setOf
  rw [key]
  simp
theorem lt_pow_of {n m : Nat} (h : ∀ k, n ≤ k → m.testBit k = false) : m < 2 ^ n := Nat.lt_pow_two_of_testBit m h
theorem testBit_ge {n m k : Nat} (h : m < 2 ^ n) (hk : n ≤ k) : m.testBit k = false := Nat.testBit_lt_two_pow (Nat.lt_of_lt_of_le h (Nat.pow_le_pow_right (by decide) hk))
theorem setOf_lt {ks : List Nat} {n : Nat} (h : ∀ k ∈ ks, k < n) : setOf ks < 2 ^ n := by
  refine lt_pow_of fun k hk => ?_
  rw [testBit_setOf, decide_eq_false_iff_not]
  intro hm
  have := h k hm
  omega
theorem nat_or_and_add (m : Nat) : ∀ n : Nat, (m ||| n) + (m &&& n) = m + n := by
  induction m using Nat.strongRecOn with
  | _ m ih =>
    intro n
    by_cases h0 : m = 0
    · subst h0
      simp
    · have ih' := ih (m / 2) (by omega) (n / 2)
      rw [← Nat.or_div_two, ← Nat.and_div_two] at ih'
      have o1 := @Nat.or_mod_two_eq_one m n
      have a1 := @Nat.and_mod_two_eq_one m n
      omega
theorem and_pow_of_not {m k : Nat} (h : m.testBit k = false) : m &&& 2 ^ k = 0 := by
  refine Nat.eq_of_testBit_eq fun j => ?_
  rw [Nat.testBit_and, testBit_pow, Nat.zero_testBit]
  by_cases e : k = j
  · subst e; rw [h]; rfl
  · simp [e]
theorem sum_pows : ∀ {ks : List Nat}, ks.Nodup → (ks.map fun k => 2 ^ k).sum = setOf ks := by
  have key : ∀ (ks : List Nat) (pre : List Nat), (pre ++ ks).Nodup → setOf pre + (ks.map fun k => 2 ^ k).sum = setOf (pre ++ ks) := by
    intro ks
    induction ks with
    | nil => intro pre _; simp
    | cons k ks ih =>
      intro pre h
      have e : pre ++ k :: ks = (pre ++ [k]) ++ ks := by simp
      rw [e] at h ⊢
      rw [← ih _ h, setOf_snoc, List.map_cons, List.sum_cons]
      have hk : k ∉ pre := by
        intro hm
        rw [List.append_assoc, List.nodup_append] at h
        exact h.2.2 k hm k (by simp) rfl
      have hb : (setOf pre).testBit k = false := by rw [testBit_setOf, decide_eq_false_iff_not]; exact hk
      have h1 := nat_or_and_add (setOf pre) (2 ^ k)
      rw [and_pow_of_not hb] at h1
      omega
  intro ks h
  have := key ks [] (by simpa using h)
  simpa [setOf] using this
/-- small lies within large -/
theorem sub_iff {a b : Nat} : a &&& b = a ↔ ∀ k, a.testBit k = true → b.testBit k = true := by
  constructor
  · intro h k hk
    have h2 : (a &&& b).testBit k = true := by rw [h]; exact hk
    rw [Nat.testBit_and, hk, Bool.true_and] at h2
    exact h2
  · intro h
    refine Nat.eq_of_testBit_eq fun k => ?_
    rw [Nat.testBit_and]
    cases e : a.testBit k with
    | false => rfl
    | true => rw [h k e]; rfl
end Tq
set_option Elab.async false
set_option linter.all false
set_option autoImplicit false
set_option maxRecDepth 100000
set_option maxHeartbeats 4000000
namespace Tq
open PySem PySem.Spec L2
open PyProof.Rows hiding St
/-! ### the readings' equations, by constructors -/
section
variable {P : DK} {Q : Bool → Prop} {R : List Dt → Prop} {k k' : Kd} {x y : Dt} {l : Addr} {i j : Int} {b : Bool} {z w : Str} {ds es : List Dt} {n m : Nat} {D : EndsD} {ρ : DEnv} {N : DEnv → Prop} {te u : TEd} {tt : TTd} {f g : DEnv → Prop}
theorem storT_fr {N : DEnv → Prop} {l0 : List Dt} : storT n N ρ .fr (.lst l0) = ∀ l, N (ρ.set n (.v (.tr (Ot.leaf l l0)) (.lst l0))) := rfl
theorem storT_ft {N : DEnv → Prop} {t : Ot} : storT n N ρ (.ft t) x = N (ρ.set n (.v (.tr t) t.dt)) := rfl
theorem rdV_fz : rdV (some (.v .fz x)) P = P .fz x := rfl
theorem rdV_vw : rdV (some (.v .vw x)) P = P .vw x := rfl
theorem rdV_ow : rdV (some (.v (.ow l) x)) P = P .rd x := rfl
theorem rdV_tr {t : Ot} : rdV (some (.v (.tr t) x)) P = P (.rt t) x := rfl
theorem rdV_mt {t : Ot} : rdV (some (.v (.mt t) x)) P = P (.rt t) x := rfl
theorem rdV_vt {t : Ot} : rdV (some (.v (.vt t) x)) P = P (.vt t) x := rfl
theorem rdV_iv {I : List Int → Prop} : rdV (some (.v (.iv I) x)) P = P (.iv I) x := rfl
theorem retV_tr {t : Ot} : retV (some (.v (.tr t) x)) P = P (.ft t) x := rfl
theorem retV_fz : retV (some (.v .fz x)) P = P .fz x := rfl
theorem retV_vw : retV (some (.v .vw x)) P = P .vw x := rfl
theorem retV_ow : retV (some (.v (.ow l) x)) P = P .fr x := rfl
theorem dB_bl : dB (.bl b) Q = Q b := rfl
theorem selS_t : selS true f g ρ = f ρ := if_pos rfl
theorem selS_f : selS false f g ρ = g ρ := if_neg Bool.false_ne_true
theorem selE_t : selE true te u ρ P = te ρ P := if_pos rfl
theorem selE_f : selE false te u ρ P = u ρ P := if_neg Bool.false_ne_true
theorem selAnd_t : selAnd true tt ρ Q = tt ρ Q := if_pos rfl
theorem selAnd_f : selAnd false tt ρ Q = Q false := if_neg Bool.false_ne_true
theorem selOr_t : selOr true tt ρ Q = Q true := if_pos rfl
theorem selOr_f : selOr false tt ρ Q = tt ρ Q := if_neg Bool.false_ne_true
theorem stor_fz : stor n N ρ .fz x = N (ρ.set n (.v .fz x)) := rfl
theorem stor_vw : stor n N ρ .vw x = N (ρ.set n (.v .vw x)) := rfl
theorem stor_fr : stor n N ρ .fr x = ∀ l, N (ρ.set n (.v (.ow l) x)) := rfl
theorem stor_ft {t : Ot} : stor n N ρ (.ft t) x = N (ρ.set n (.v (.tr t) x)) := rfl
theorem stor_vt {t : Ot} : stor n N ρ (.vt t) x = N (ρ.set n (.v (.vt t) x)) := rfl
theorem stor_iv {I : List Int → Prop} : stor n N ρ (.iv I) x = N (ρ.set n (.v (.iv I) x)) := rfl
theorem storF_ft {t : Ot} : storF n N ρ (.ft t) x = N (ρ.set n (.v .fz x)) := rfl
theorem storF_vt {t : Ot} : storF n N ρ (.vt t) x = N (ρ.set n (.v (.vt t) x)) := rfl
theorem storF_iv {I : List Int → Prop} : storF n N ρ (.iv I) x = N (ρ.set n (.v (.iv I) x)) := rfl
theorem storF_fz : storF n N ρ .fz x = N (ρ.set n (.v .fz x)) := rfl
theorem storF_vw : storF n N ρ .vw x = N (ρ.set n (.v .vw x)) := rfl
theorem storF_fr : storF n N ρ .fr x = N (ρ.set n (.v .fz x)) := rfl
theorem dI0_int {h : Int → Int → Dt} : dI0 h (.int i) (.int j) P = P .fz (h i j) := rfl
theorem dI_int {C : Int → Int → Prop} {h : Int → Int → Dt} : dI C h (.int i) (.int j) P = (C i j ∧ P .fz (h i j)) := rfl
theorem dI1_int {h : Int → Dt} : dI1 h (.int i) P = P .fz (h i) := rfl
theorem dAdd_int : dAdd (.int i) (.int j) P = P .fz (.int (i + j)) := rfl
theorem dAdd_str : dAdd (.str z) (.str w) P = (z.length + w.length ≤ 16777216 ∧ P .fz (.str (z ++ w))) := rfl
theorem dAdd_lst : dAdd (.lst ds) (.lst es) P = (ds.length + es.length ≤ 16777216 ∧ P .fr (.lst (ds ++ es))) := rfl
theorem dIAdd_int : dIAdd (.int i) (.int j) P = P .fz (.int (i + j)) := rfl
theorem dIAdd_str : dIAdd (.str z) (.str w) P = (z.length + w.length ≤ 16777216 ∧ P .fz (.str (z ++ w))) := rfl
theorem dMul_int : dMul (.int i) (.int j) P = (CMul i j ∧ P .fz (.int (i * j))) := rfl
theorem dEq_int : dEq (.int i) (.int j) P = P .fz (.bl (decide (i = j))) := rfl
theorem dEq_bl {c : Bool} : dEq (.bl b) (.bl c) P = P .fz (.bl (decide (b = c))) := rfl
theorem dEq_str : dEq (.str z) (.str w) P = P .fz (.bl (decide (z = w))) := rfl
theorem dEq_lst : dEq (.lst ds) (.lst es) P = dEqG false (.lst ds) (.lst es) P := rfl
theorem dEq_tup : dEq (.tup ds) (.tup es) P = dEqG false (.tup ds) (.tup es) P := rfl
theorem dNe_int : dNe (.int i) (.int j) P = P .fz (.bl (!decide (i = j))) := rfl
theorem dNe_bl {c : Bool} : dNe (.bl b) (.bl c) P = P .fz (.bl (!decide (b = c))) := rfl
theorem dNe_str : dNe (.str z) (.str w) P = P .fz (.bl (!decide (z = w))) := rfl
theorem dNe_lst : dNe (.lst ds) (.lst es) P = dEqG true (.lst ds) (.lst es) P := rfl
theorem dNe_tup : dNe (.tup ds) (.tup es) P = dEqG true (.tup ds) (.tup es) P := rfl
theorem dIs_non : dIs x .non P = P .fz (.bl x.isNon) := rfl
theorem dIsNot_non : dIsNot x .non P = P .fz (.bl (!x.isNon)) := rfl
theorem isNon_non : Dt.non.isNon = true := rfl
theorem isNon_int : (Dt.int i).isNon = false := rfl
theorem isNon_bl : (Dt.bl b).isNon = false := rfl
theorem isNon_str : (Dt.str z).isNon = false := rfl
theorem isNon_lst : (Dt.lst ds).isNon = false := rfl
theorem isNon_tup : (Dt.tup ds).isNon = false := rfl
theorem dIn_lst {c : Bool} : dIn c x (.lst ds) P = (x.flat = true ∧ ds.all Dt.flat = true ∧ P .fz (.bl (if c then !inD x ds else inD x ds))) := rfl
theorem dIn_tup {c : Bool} : dIn c x (.tup ds) P = (x.flat = true ∧ ds.all Dt.flat = true ∧ P .fz (.bl (if c then !inD x ds else inD x ds))) := rfl
theorem dIx_lst : dIx (.lst ds) (.int i) P = optD (L2.atI ds i) P := rfl
theorem dIx_tup : dIx (.tup ds) (.int i) P = optD (L2.atI ds i) P := rfl
theorem dIx_str : dIx (.str z) (.int i) P = optC z (L2.atI z.cps.toList i) P := rfl
theorem optD_some : optD (some x) P = P .fz x := rfl
theorem optB_some : optB (some b) P = P .fz (.bl b) := rfl
theorem optC_some : optC z (some n) P = (z.length ≤ 16777216 ∧ P .fz (.str ⟨#[n]⟩)) := rfl
theorem oPartK_int {O : Option Int → Prop} : oPartK (.int i) O = O (some i) := rfl
theorem dSl_lst {a c : Option Int} : dSl (.lst ds) a c P = P .fr (.lst (cutL ds a c)) := rfl
theorem dSl_str {a c : Option Int} : dSl (.str z) a c P = (z.length ≤ 16777216 ∧ P .fz (.str (cutS z a c))) := rfl
theorem lstP_lst : lstP (.lst ds) R = R ds := rfl
theorem tupP_tup : tupP (.tup ds) R = R ds := rfl
theorem r1P_int : r1P [(k, .int j)] R = (j < 2 ^ 62 ∧ -(2 ^ 62) ≤ j ∧ R (rngD 0 j.toNat)) := rfl
theorem r2P_int : r2P [(k, .int i), (k', .int j)] R = ((-(2 ^ 62) ≤ i ∧ i < 2 ^ 62 ∧ -(2 ^ 62) ≤ j ∧ j < 2 ^ 62) ∧ R (rngD i (j - i).toNat)) := rfl
theorem hTup_tup {t : TGsd} : hTup n t (.tup ds) ρ N = (ds.length = n ∧ t ds ρ N) := rfl
theorem hsCons_cons {t : TGd} {v : TGsd} : hsCons t v (x :: ds) ρ N = t x ρ fun ρ' => v ds ρ' N := rfl
theorem hsNil_nil : hsNil [] ρ N = N ρ := propext ⟨fun h => h.2, fun h => ⟨rfl, h⟩⟩
theorem bLen_lst : bLen [(k, .lst ds)] P = P .fz (.int (ds.length : Nat)) := by cases k <;> rfl
theorem bLen_tup : bLen [(k, .tup ds)] P = P .fz (.int (ds.length : Nat)) := by cases k <;> rfl
theorem bLen_str : bLen [(k, .str z)] P = (z.length ≤ 16777216 ∧ P .fz (.int (z.length : Nat))) := by cases k <;> rfl
theorem bList_lst : bList [(k, .lst ds)] P = P .fr (.lst ds) := rfl
theorem bList_tup : bList [(k, .tup ds)] P = P .fr (.lst ds) := rfl
theorem bDivmod_int : bDivmod [(k, .int i), (k', .int j)] P = (CDiv i j ∧ P .fz (.tup [.int (i / j), .int (i % j)])) := rfl
theorem bAbs_int : bAbs [(k, .int i)] P = P .fz (.int (if i < 0 then -i else i)) := rfl
theorem bMax2_int : bMax2 [(k, .int i), (k', .int j)] P = P .fz (.int (if j > i then j else i)) := rfl
theorem bMin2_int : bMin2 [(k, .int i), (k', .int j)] P = P .fz (.int (if j < i then j else i)) := rfl
theorem bSorted_lst : bSorted [(k, .lst ds)] P = ∃ ns : List Int, ds = ns.map Dt.int ∧ ∀ ms : List Int, ms.Perm ns → ms.Pairwise (· ≤ ·) → P .fr (.lst (ms.map Dt.int)) := rfl
theorem bSum_lst : bSum [(k, .lst ds)] P = ∃ ns : List Int, ds = ns.map Dt.int ∧ P .fz (.int ns.sum) := rfl
theorem normA_lst : normA (.fz, .lst ds) = (.rd, .lst ds) := rfl
theorem normA_lstr : normA (.rd, .lst ds) = (.rd, .lst ds) := rfl
theorem normA_rt {t : Ot} : normA (.rt t, x) = (.rt t, x) := rfl
theorem normA_iv {I : List Int → Prop} : normA (.iv I, x) = (.iv I, x) := rfl
theorem normA_obj {C : Addr} {fs : List (Str × Dt)} : normA (.fz, .obj C fs) = (.fz, .obj C fs) := rfl
theorem normA_exc {C : Addr} {fs : List (Str × Dt)} : normA (.fz, .exc C fs) = (.fz, .exc C fs) := rfl
theorem normA_tup : normA (.fz, .tup ds) = (.fz, .tup ds) := rfl
theorem normA_tupr : normA (.rd, .tup ds) = (.fz, .tup ds) := rfl
theorem normA_int : normA (.fz, .int i) = (.fz, .int i) := rfl
theorem normA_intr : normA (.rd, .int i) = (.fz, .int i) := rfl
theorem normA_bl : normA (.fz, .bl b) = (.fz, .bl b) := rfl
theorem normA_blr : normA (.rd, .bl b) = (.fz, .bl b) := rfl
theorem normA_str : normA (.fz, .str z) = (.fz, .str z) := rfl
theorem normA_strr : normA (.rd, .str z) = (.fz, .str z) := rfl
theorem normA_non : normA (.fz, .non) = (.fz, .non) := rfl
theorem normA_nonr : normA (.rd, .non) = (.fz, .non) := rfl
theorem normA_dct {q : List (Key × Dt)} : normA (.fz, .dct q) = (.rd, .dct q) := rfl
theorem normA_dctr {q : List (Key × Dt)} : normA (.rd, .dct q) = (.rd, .dct q) := rfl
theorem norm_nil : norm [] = [] := rfl
theorem norm_cons {a : Kd × Dt} {r : List (Kd × Dt)} : norm (a :: r) = normA a :: norm r := rfl
theorem appS_ow : appS (some (.v (.ow l) (.lst ds))) n te D ρ = te ρ fun k x => k.st = true ∧ ds.length < 16777216 ∧ D.nx (ρ.set n (.v (.ow l) (.lst (ds ++ [x])))) := rfl
theorem setIxS_ow : setIxS (some (.v (.ow l) (.lst ds))) n u te D ρ = te ρ fun k y => k.st = true ∧ u ρ fun _ z => setIxZ z n l ds y D ρ := rfl
theorem setIxZ_int : setIxZ (.int i) n l ds y D ρ = setIxN (ixN ds.length i) n l ds y D ρ := rfl
theorem setIxN_some : setIxN (some m) n l ds y D ρ = D.nx (ρ.set n (.v (.ow l) (.lst (ds.set m y)))) := rfl
theorem augS_fz {d : R2d} : augS (some (.v .fz x)) n d te D ρ = te ρ fun k' y => k'.lf = true ∧ d x y fun k z => storF n D.nx ρ k z := rfl
theorem startS_nil : startS [] = [] := rfl
theorem startS_fz {r : List (Kd × Dt)} : startS ((.fz, x) :: r) = .v .fz x :: startS r := rfl
theorem startS_rt {t : Ot} {r : List (Kd × Dt)} : startS ((.rt t, x) :: r) = .v (.vt t) x :: startS r := rfl
theorem startS_iv {I : List Int → Prop} {r : List (Kd × Dt)} : startS ((.iv I, x) :: r) = .v (.iv I) x :: startS r := rfl
theorem startS_rd {r : List (Kd × Dt)} : startS ((.rd, x) :: r) = .v .vw x :: startS r := rfl
theorem frzE_ow (h : ρ[n]? = some (.v (.ow l) x)) : frzE n ρ = ρ.set n (.v .fz x) := by unfold frzE; rw [h]
end
/-! ### splitting at a test -/
theorem selS_dec {p : Prop} [Decidable p] {f g : DEnv → Prop} {ρ : DEnv} (h1 : p → f ρ) (h2 : ¬ p → g ρ) : selS (decide p) f g ρ := by
  by_cases h : p
  · rw [decide_eq_true h, selS_t]; exact h1 h
  · rw [decide_eq_false h, selS_f]; exact h2 h
theorem selS_b {b : Bool} {f g : DEnv → Prop} {ρ : DEnv} (h1 : b = true → f ρ) (h2 : b = false → g ρ) : selS b f g ρ := by
  cases b with
  | true => rw [selS_t]; exact h1 rfl
  | false => rw [selS_f]; exact h2 rfl
theorem selE_b {b : Bool} {f g : TEd} {ρ : DEnv} {P : DK} (h1 : b = true → f ρ P) (h2 : b = false → g ρ P) : selE b f g ρ P := by
  cases b with
  | true => rw [selE_t]; exact h1 rfl
  | false => rw [selE_f]; exact h2 rfl
theorem selAnd_b {b : Bool} {t : TTd} {ρ : DEnv} {P : Bool → Prop} (h1 : b = true → t ρ P) (h2 : b = false → P false) : selAnd b t ρ P := by
  cases b with
  | true => rw [selAnd_t]; exact h1 rfl
  | false => rw [selAnd_f]; exact h2 rfl
theorem selOr_b {b : Bool} {t : TTd} {ρ : DEnv} {P : Bool → Prop} (h1 : b = true → P true) (h2 : b = false → t ρ P) : selOr b t ρ P := by
  cases b with
  | true => rw [selOr_t]; exact h1 rfl
  | false => rw [selOr_f]; exact h2 rfl
end Tq
namespace Tq
theorem selAnd_dec {p : Prop} [Decidable p] {t : TTd} {ρ : DEnv} {P : Bool → Prop} (h1 : p → t ρ P) (h2 : ¬ p → P false) : selAnd (decide p) t ρ P :=
  selAnd_b (fun h => h1 (of_decide_eq_true h)) fun h => h2 (of_decide_eq_false h)
theorem selOr_dec {p : Prop} [Decidable p] {t : TTd} {ρ : DEnv} {P : Bool → Prop} (h1 : p → P true) (h2 : ¬ p → t ρ P) : selOr (decide p) t ρ P :=
  selOr_b (fun h => h1 (of_decide_eq_true h)) fun h => h2 (of_decide_eq_false h)
theorem selE_dec {p : Prop} [Decidable p] {f g : TEd} {ρ : DEnv} {P : DK} (h1 : p → f ρ P) (h2 : ¬ p → g ρ P) : selE (decide p) f g ρ P :=
  selE_b (fun h => h1 (of_decide_eq_true h)) fun h => h2 (of_decide_eq_false h)
end Tq
namespace Tq
open PySem PySem.Spec L2
theorem iT_non_int  : (Dt.non).isT "int" = some false := isT_eq _ rfl _ (by decide)
theorem iT_non_list  : (Dt.non).isT "list" = some false := isT_eq _ rfl _ (by decide)
theorem iT_non_tuple  : (Dt.non).isT "tuple" = some false := isT_eq _ rfl _ (by decide)
theorem iT_non_str  : (Dt.non).isT "str" = some false := isT_eq _ rfl _ (by decide)
theorem iT_non_bool  : (Dt.non).isT "bool" = some false := isT_eq _ rfl _ (by decide)
theorem iT_non_dict  : (Dt.non).isT "dict" = some false := isT_eq _ rfl _ (by decide)
theorem iT_bl_int {b : Bool} : (Dt.bl b).isT "int" = some true := isT_eq _ rfl _ (by decide)
theorem iT_bl_list {b : Bool} : (Dt.bl b).isT "list" = some false := isT_eq _ rfl _ (by decide)
theorem iT_bl_tuple {b : Bool} : (Dt.bl b).isT "tuple" = some false := isT_eq _ rfl _ (by decide)
theorem iT_bl_str {b : Bool} : (Dt.bl b).isT "str" = some false := isT_eq _ rfl _ (by decide)
theorem iT_bl_bool {b : Bool} : (Dt.bl b).isT "bool" = some true := isT_eq _ rfl _ (by decide)
theorem iT_bl_dict {b : Bool} : (Dt.bl b).isT "dict" = some false := isT_eq _ rfl _ (by decide)
theorem iT_int_int {i : Int} : (Dt.int i).isT "int" = some true := isT_eq _ rfl _ (by decide)
theorem iT_int_list {i : Int} : (Dt.int i).isT "list" = some false := isT_eq _ rfl _ (by decide)
theorem iT_int_tuple {i : Int} : (Dt.int i).isT "tuple" = some false := isT_eq _ rfl _ (by decide)
theorem iT_int_str {i : Int} : (Dt.int i).isT "str" = some false := isT_eq _ rfl _ (by decide)
theorem iT_int_bool {i : Int} : (Dt.int i).isT "bool" = some false := isT_eq _ rfl _ (by decide)
theorem iT_int_dict {i : Int} : (Dt.int i).isT "dict" = some false := isT_eq _ rfl _ (by decide)
theorem iT_str_int {z : Str} : (Dt.str z).isT "int" = some false := isT_eq _ rfl _ (by decide)
theorem iT_str_list {z : Str} : (Dt.str z).isT "list" = some false := isT_eq _ rfl _ (by decide)
theorem iT_str_tuple {z : Str} : (Dt.str z).isT "tuple" = some false := isT_eq _ rfl _ (by decide)
theorem iT_str_str {z : Str} : (Dt.str z).isT "str" = some true := isT_eq _ rfl _ (by decide)
theorem iT_str_bool {z : Str} : (Dt.str z).isT "bool" = some false := isT_eq _ rfl _ (by decide)
theorem iT_str_dict {z : Str} : (Dt.str z).isT "dict" = some false := isT_eq _ rfl _ (by decide)
theorem iT_tup_int {ds : List Dt} : (Dt.tup ds).isT "int" = some false := isT_eq _ rfl _ (by decide)
theorem iT_tup_list {ds : List Dt} : (Dt.tup ds).isT "list" = some false := isT_eq _ rfl _ (by decide)
theorem iT_tup_tuple {ds : List Dt} : (Dt.tup ds).isT "tuple" = some true := isT_eq _ rfl _ (by decide)
theorem iT_tup_str {ds : List Dt} : (Dt.tup ds).isT "str" = some false := isT_eq _ rfl _ (by decide)
theorem iT_tup_bool {ds : List Dt} : (Dt.tup ds).isT "bool" = some false := isT_eq _ rfl _ (by decide)
theorem iT_tup_dict {ds : List Dt} : (Dt.tup ds).isT "dict" = some false := isT_eq _ rfl _ (by decide)
theorem iT_lst_int {ds : List Dt} : (Dt.lst ds).isT "int" = some false := isT_eq _ rfl _ (by decide)
theorem iT_lst_list {ds : List Dt} : (Dt.lst ds).isT "list" = some true := isT_eq _ rfl _ (by decide)
theorem iT_lst_tuple {ds : List Dt} : (Dt.lst ds).isT "tuple" = some false := isT_eq _ rfl _ (by decide)
theorem iT_lst_str {ds : List Dt} : (Dt.lst ds).isT "str" = some false := isT_eq _ rfl _ (by decide)
theorem iT_lst_bool {ds : List Dt} : (Dt.lst ds).isT "bool" = some false := isT_eq _ rfl _ (by decide)
theorem iT_lst_dict {ds : List Dt} : (Dt.lst ds).isT "dict" = some false := isT_eq _ rfl _ (by decide)
theorem iT_dct_int {ks : List (Key × Dt)} : (Dt.dct ks).isT "int" = some false := isT_eq _ rfl _ (by decide)
theorem iT_dct_list {ks : List (Key × Dt)} : (Dt.dct ks).isT "list" = some false := isT_eq _ rfl _ (by decide)
theorem iT_dct_tuple {ks : List (Key × Dt)} : (Dt.dct ks).isT "tuple" = some false := isT_eq _ rfl _ (by decide)
theorem iT_dct_str {ks : List (Key × Dt)} : (Dt.dct ks).isT "str" = some false := isT_eq _ rfl _ (by decide)
theorem iT_dct_bool {ks : List (Key × Dt)} : (Dt.dct ks).isT "bool" = some false := isT_eq _ rfl _ (by decide)
theorem iT_dct_dict {ks : List (Key × Dt)} : (Dt.dct ks).isT "dict" = some true := isT_eq _ rfl _ (by decide)
end Tq
namespace Tq
open PySem PySem.Spec L2
theorem flat_int {i : Int} : (Dt.int i).flat = true := rfl
theorem flat_str {z : Str} : (Dt.str z).flat = true := rfl
theorem flat_bl {b : Bool} : (Dt.bl b).flat = true := rfl
theorem flat_non : Dt.non.flat = true := rfl
theorem flat_nats {ks : List Nat} : (ks.map fun (k : Nat) => Dt.int (k : Int)).all Dt.flat = true := by simp [Dt.flat]
theorem flat_ints {ks : List Int} : (ks.map Dt.int).all Dt.flat = true := by simp [Dt.flat]
theorem flat_strs {ks : List Str} : (ks.map Dt.str).all Dt.flat = true := by simp [Dt.flat]
theorem inD_ints {k : Int} {ks : List Int} : inD (.int k) (ks.map Dt.int) = decide (k ∈ ks) := by
  unfold inD inV
  induction ks with
  | nil => rfl
  | cons a r ih =>
    rw [List.map_cons, List.map_cons, List.any_cons, ih]
    show ((a == k) || decide (k ∈ r)) = decide (k ∈ a :: r)
    by_cases h : a = k
    · subst h; simp
    · have h' : ¬ k = a := fun z => h z.symm
      simp [h, h']
theorem inD_nats {k : Nat} {ks : List Nat} : inD (.int (k : Int)) (ks.map fun (k : Nat) => Dt.int (k : Int)) = decide (k ∈ ks) := by
  have e : (ks.map fun (k : Nat) => Dt.int (k : Int)) = (ks.map fun (k : Nat) => (k : Int)).map Dt.int := by rw [List.map_map]; rfl
  rw [e, inD_ints]
  congr 1
  rw [List.mem_map]
  refine propext ⟨fun ⟨a, h1, h2⟩ => ?_, fun h => ⟨k, h, rfl⟩⟩
  have : a = k := by omega
  exact this ▸ h1
theorem inD_strs {k : Str} {ks : List Str} : inD (.str k) (ks.map Dt.str) = decide (k ∈ ks) := by
  unfold inD inV
  induction ks with
  | nil => rfl
  | cons a r ih =>
    rw [List.map_cons, List.map_cons, List.any_cons, ih]
    show ((a == k) || decide (k ∈ r)) = decide (k ∈ a :: r)
    by_cases h : a = k
    · subst h; simp
    · have h' : ¬ k = a := fun z => h z.symm
      simp [h, h']
theorem mod_nat (c : Int) {n : Nat} (h : 0 < n) : ∃ p : Nat, c % (n : Int) = (p : Int) ∧ p < n := by
  have h1 := Int.emod_nonneg c (show (n : Int) ≠ 0 by omega)
  have h2 := Int.emod_lt_of_pos c (show (0 : Int) < n by omega)
  exact ⟨(c % n).toNat, by omega, by omega⟩
/-- ints that are not below nought, as numbers -/
theorem ints_nats (ns : List Int) (f : Int → Int) (h : ∀ x, 0 ≤ f x) : (ns.map fun x => Dt.int (f x)) = (ns.map fun x => (f x).toNat).map fun (k : Nat) => Dt.int (k : Int) := by
  rw [List.map_map]
  refine List.map_congr_left fun x _ => ?_
  show Dt.int (f x) = Dt.int (((f x).toNat : Nat) : Int)
  rw [Int.toNat_of_nonneg (h x)]
/-! ### == of data of a known form -/
theorem pys_ints (ns : List Int) : Dt.pys (ns.map Dt.int) = ns.map PyData.int := by
  induction ns with
  | nil => rfl
  | cons a r ih => show _ :: Dt.pys _ = _; rw [ih]; rfl
theorem pys_nats (ns : List Nat) : Dt.pys (ns.map fun (k : Nat) => Dt.int (k : Int)) = (ns.map fun (k : Nat) => (k : Int)).map PyData.int := by
  induction ns with
  | nil => rfl
  | cons a r ih => show _ :: Dt.pys _ = _; rw [ih]; rfl
theorem eqvAll_ints : ∀ xs ys : List Int, PyData.eqvAll (xs.map PyData.int) (ys.map PyData.int) = decide (xs = ys)
  | [], [] => rfl
  | [], _ :: _ => rfl
  | _ :: _, [] => rfl
  | x :: xs, y :: ys => by
    show (PyData.eqv (.int x) (.int y) && PyData.eqvAll (xs.map PyData.int) (ys.map PyData.int)) = _
    rw [eqvAll_ints xs ys, eqS]
    by_cases h : x = y <;> by_cases h' : xs = ys <;> simp [h, h']
theorem lay_ints : ∀ xs : List Int, PyData.canLayAll0 (xs.map PyData.int) = true ∧ PyData.depthAll (xs.map PyData.int) = 0
  | [] => ⟨rfl, rfl⟩
  | x :: xs => by
    obtain ⟨h1, h2⟩ := lay_ints xs
    refine ⟨?_, ?_⟩
    · show (true && PyData.canLayAll0 (xs.map PyData.int)) = true
      rw [h1]; rfl
    · show max 0 (PyData.depthAll (xs.map PyData.int)) = 0
      rw [h2]; rfl
theorem shaped_ints (xs : List Int) : SeqAt.shaped (.list (xs.map PyData.int)) = true := by
  obtain ⟨h1, h2⟩ := lay_ints xs
  show (PyData.canLayAll0 (xs.map PyData.int) && decide (PyData.depthAll (xs.map PyData.int) + 1 ≤ 64)) = true
  rw [h1, h2]; rfl
theorem eqG_ints {n : Bool} {xs ys : List Int} {P : DK} : dEqG n (.lst (xs.map Dt.int)) (.lst (ys.map Dt.int)) P = P .fz (.bl (decide (xs = ys) != n)) := by
  have e1 : (Dt.lst (xs.map Dt.int)).py = .list (xs.map PyData.int) := by show PyData.list _ = _; rw [pys_ints]
  have e2 : (Dt.lst (ys.map Dt.int)).py = .list (ys.map PyData.int) := by show PyData.list _ = _; rw [pys_ints]
  unfold dEqG
  rw [e1, e2, shaped_ints, shaped_ints]
  show (true = true ∧ true = true ∧ P .fz (.bl (PyData.eqvAll _ _ != n))) = _
  rw [eqvAll_ints]
  simp
theorem map_cast_inj {xs ys : List Nat} : (xs.map fun (k : Nat) => (k : Int)) = (ys.map fun (k : Nat) => (k : Int)) ↔ xs = ys := by
  constructor
  · intro h
    have := congrArg (List.map Int.toNat) h
    simpa [List.map_map, Function.comp_def] using this
  · intro h; rw [h]
theorem eqG_nats {n : Bool} {xs ys : List Nat} {P : DK} : dEqG n (.lst (xs.map fun (k : Nat) => Dt.int (k : Int))) (.lst (ys.map fun (k : Nat) => Dt.int (k : Int))) P = P .fz (.bl (decide (xs = ys) != n)) := by
  have e : ∀ ks : List Nat, (ks.map fun (k : Nat) => Dt.int (k : Int)) = (ks.map fun (k : Nat) => (k : Int)).map Dt.int := fun ks => by rw [List.map_map]; rfl
  rw [e, e, eqG_ints]
  simp only [map_cast_inj]
end Tq
set_option Elab.async false
set_option linter.all false
set_option autoImplicit false
set_option maxHeartbeats 4000000
namespace Tq
/-! ### tables: having, shared, closed -/
def sub (a b : Nat) : Bool := decide (a &&& b = a)
theorem sub_true {a b : Nat} : sub a b = true ↔ ∀ k, a.testBit k = true → b.testBit k = true := by
  unfold sub
  rw [decide_eq_true_eq, sub_iff]
def hav (rows : List Nat) (m : Nat) : Nat := setOf ((List.range rows.length).filter fun i => sub m (rows.getD i 0))
def sha (rows : List Nat) (w g : Nat) : Nat := (bits rows.length g).foldl (fun m t => m &&& rows.getD t 0) (2 ^ w - 1)
def clo (rows : List Nat) (w m : Nat) : Nat := sha rows w (hav rows m)
theorem testBit_hav {rows : List Nat} {m i : Nat} : (hav rows m).testBit i = decide (i < rows.length ∧ sub m (rows.getD i 0) = true) := by
  unfold hav
  rw [testBit_setOf]
  congr 1
  simp
theorem hav_lt (rows : List Nat) (m : Nat) : hav rows m < 2 ^ rows.length := setOf_lt fun k hk => by
  have := (List.mem_filter.mp hk).1
  exact List.mem_range.mp this
theorem foldl_and (rows : List Nat) : ∀ (ts : List Nat) (m k : Nat), (ts.foldl (fun m t => m &&& rows.getD t 0) m).testBit k = (m.testBit k && ts.all fun t => (rows.getD t 0).testBit k)
  | [], m, k => by simp
  | t :: ts, m, k => by
    rw [List.foldl_cons, foldl_and rows ts, Nat.testBit_and, List.all_cons, Bool.and_assoc]
theorem testBit_full (w k : Nat) : (2 ^ w - 1).testBit k = decide (k < w) := Nat.testBit_two_pow_sub_one ..
theorem testBit_sha {rows : List Nat} {w g k : Nat} : (sha rows w g).testBit k = decide (k < w ∧ ∀ t, t < rows.length → g.testBit t = true → (rows.getD t 0).testBit k = true) := by
  unfold sha
  rw [foldl_and, testBit_full, Bool.eq_iff_iff, Bool.and_eq_true, decide_eq_true_eq, decide_eq_true_eq, List.all_eq_true]
  constructor
  · rintro ⟨h1, h2⟩
    exact ⟨h1, fun t ht hg => h2 t (mem_bits.mpr ⟨ht, hg⟩)⟩
  · rintro ⟨h1, h2⟩
    exact ⟨h1, fun t ht => h2 t (mem_bits.mp ht).1 (mem_bits.mp ht).2⟩
theorem sha_lt (rows : List Nat) (w g : Nat) : sha rows w g < 2 ^ w := lt_pow_of fun k hk => by
  rw [testBit_sha, decide_eq_false_iff_not]
  intro h
  omega
theorem clo_lt (rows : List Nat) (w m : Nat) : clo rows w m < 2 ^ w := sha_lt _ _ _
/-- a column is in the closed set just where each row that has the set has it -/
theorem testBit_clo {rows : List Nat} {w m k : Nat} : (clo rows w m).testBit k = decide (k < w ∧ ∀ t, t < rows.length → sub m (rows.getD t 0) = true → (rows.getD t 0).testBit k = true) := by
  unfold clo
  rw [testBit_sha]
  congr 1
  refine propext ⟨fun h => ⟨h.1, fun t ht hs => h.2 t ht ?_⟩, fun h => ⟨h.1, fun t ht hs => h.2 t ht ?_⟩⟩
  · rw [testBit_hav, decide_eq_true_eq]
    exact ⟨ht, hs⟩
  · rw [testBit_hav, decide_eq_true_eq] at hs
    exact hs.2
theorem pow_sub_one (w : Nat) : ((2 ^ w : Nat) : Int) - 1 = ((2 ^ w - 1 : Nat) : Int) := by
  have := Nat.two_pow_pos w
  omega
theorem pow_back (w : Nat) : ((2 ^ w - 1 : Nat) : Int) + 1 = ((2 ^ w : Nat) : Int) := by
  have := Nat.two_pow_pos w
  omega
theorem sub_refl (a : Nat) : sub a a = true := sub_true.mpr fun _ h => h
theorem sub_trans {a b c : Nat} (h1 : sub a b = true) (h2 : sub b c = true) : sub a c = true := sub_true.mpr fun k h => sub_true.mp h2 k (sub_true.mp h1 k h)
theorem sub_antisymm {a b : Nat} (h1 : sub a b = true) (h2 : sub b a = true) : a = b := Nat.eq_of_testBit_eq fun k => by
  rw [Bool.eq_iff_iff]
  exact ⟨sub_true.mp h1 k, sub_true.mp h2 k⟩
theorem sub_or_left (a b : Nat) : sub a (a ||| b) = true := sub_true.mpr fun k h => by rw [Nat.testBit_or, h]; rfl
theorem sub_or_right (a b : Nat) : sub b (a ||| b) = true := sub_true.mpr fun k h => by rw [Nat.testBit_or, h, Bool.or_true]
theorem sub_full {a w : Nat} (h : a < 2 ^ w) : sub a (2 ^ w - 1) = true := sub_true.mpr fun k hk => by
  rw [testBit_full, decide_eq_true_eq]
  rcases Nat.lt_or_ge k w with z | z
  · exact z
  · rw [testBit_ge h z] at hk; cases hk
theorem sub_lt {a b w : Nat} (h : sub a b = true) (hb : b < 2 ^ w) : a < 2 ^ w := lt_pow_of fun k hk => by
  cases e : a.testBit k with
  | false => rfl
  | true =>
    have := sub_true.mp h k e
    rw [testBit_ge hb hk] at this
    cases this
/-! closure laws -/
theorem clo_ext {rows : List Nat} {w m : Nat} (h : m < 2 ^ w) : sub m (clo rows w m) = true := sub_true.mpr fun k hk => by
  rw [testBit_clo, decide_eq_true_eq]
  refine ⟨?_, fun t ht hs => sub_true.mp hs k hk⟩
  rcases Nat.lt_or_ge k w with z | z
  · exact z
  · rw [testBit_ge h z] at hk; cases hk
theorem clo_mono {rows : List Nat} {w a b : Nat} (h : sub a b = true) : sub (clo rows w a) (clo rows w b) = true := sub_true.mpr fun k hk => by
  rw [testBit_clo, decide_eq_true_eq] at hk ⊢
  exact ⟨hk.1, fun t ht hs => hk.2 t ht (sub_trans h hs)⟩
theorem clo_row {rows : List Nat} {w m t : Nat} (ht : t < rows.length) (h : sub m (rows.getD t 0) = true) : sub (clo rows w m) (rows.getD t 0) = true := sub_true.mpr fun k hk => by
  rw [testBit_clo, decide_eq_true_eq] at hk
  exact hk.2 t ht h
theorem clo_idem (rows : List Nat) (w m : Nat) : clo rows w (clo rows w m) = clo rows w m := by
  refine sub_antisymm (sub_true.mpr fun k hk => ?_) (clo_ext (clo_lt _ _ _))
  rw [testBit_clo, decide_eq_true_eq] at hk ⊢
  exact ⟨hk.1, fun t ht hs => hk.2 t ht (clo_row ht hs)⟩
end Tq
namespace Tq
open PySem PySem.Spec L2
theorem cdivW_nat {i : Int} {n : Nat} (h0 : 0 < n) (h : n < 2 ^ 60) : CDivW i (n : Int) :=
  wide_div (b := 60) (by omega) (by rw [Int.natAbs_natCast]; exact h) (by decide) (by decide)
end Tq
namespace Tq
open PySem PySem.Spec L2
/-- a comprehension whose element is told by what holds of it -/
theorem lc_rel {α β : Type} (xs : List α) (f : α → Dt) (g : β → Dt) (p : β → Prop) {B : (Nat → List Dt → Prop) → Nat → Dt → List Dt → Prop} {Z : List Dt → Prop}
    (hs : ∀ (W : Nat → List Dt → Prop) (i : Nat) (h : i < xs.length) (acc : List Dt), (∀ b, p b → W (i + 1) (acc ++ [g b])) → B W i (f xs[i]) acc)
    (hd : ∀ ys : List β, ys.length = xs.length → (∀ y ∈ ys, p y) → Z (ys.map g)) :
    ∃ W : Nat → List Dt → Prop, W 0 [] ∧ (∀ i x acc, (xs.map f)[i]? = some x → W i acc → B W i x acc) ∧ ∀ acc, W (xs.map f).length acc → Z acc := by
  refine ⟨fun i acc => ∃ ys : List β, ys.length = i ∧ (∀ y ∈ ys, p y) ∧ acc = ys.map g, ⟨[], rfl, by simp, rfl⟩, fun i x acc hx hw => ?_, fun acc h => ?_⟩
  · rw [List.getElem?_map] at hx
    cases e : xs[i]? with
    | none => rw [e] at hx; cases hx
    | some y =>
      rw [e] at hx
      cases hx
      obtain ⟨hi, rfl⟩ := List.getElem?_eq_some_iff.mp e
      obtain ⟨ys, h1, h2, rfl⟩ := hw
      refine hs _ i hi _ fun b hb => ⟨ys ++ [b], by simp [h1], fun y hy => ?_, by simp⟩
      rcases List.mem_append.mp hy with z | z
      · exact h2 y z
      · simp at z; exact z ▸ hb
  · rw [List.length_map] at h
    obtain ⟨ys, h1, h2, rfl⟩ := h
    exact hd ys h1 h2
theorem cutL_map {α β : Type} (f : α → β) (xs : List α) (lo hi : Option Int) : cutL (xs.map f) lo hi = (cutL xs lo hi).map f := by
  unfold cutL
  rw [List.length_map, List.map_take, List.map_drop]
theorem cutL_nat {α : Type} (xs : List α) (a b : Nat) : cutL xs (some (a : Int)) (some (b : Int)) = (xs.take b).drop a := by
  unfold cutL
  rw [HT.sIx_nat, HT.sIx_nat, List.drop_take]
  rcases Nat.lt_or_ge a xs.length with h | h
  · rw [Nat.min_eq_left (Nat.le_of_lt h)]
    rcases Nat.lt_or_ge b xs.length with h' | h'
    · rw [Nat.min_eq_left (Nat.le_of_lt h')]
    · rw [Nat.min_eq_right h', List.take_of_length_le (by rw [List.length_drop]; omega), List.take_of_length_le (by rw [List.length_drop]; omega)]
  · rw [Nat.min_eq_right h, List.drop_length, List.drop_of_length_le h]
    simp
theorem cutL_from {α : Type} (xs : List α) (a : Nat) : cutL xs (some (a : Int)) none = xs.drop a := by
  unfold cutL
  rw [HT.sIx_nat, HT.sIx_none]
  rcases Nat.lt_or_ge a xs.length with h | h
  · rw [Nat.min_eq_left (Nat.le_of_lt h), List.take_of_length_le (by rw [List.length_drop]; omega)]
  · rw [Nat.min_eq_right h, List.drop_length, List.drop_of_length_le h]
    simp
theorem cutL_to {α : Type} (xs : List α) (b : Nat) : cutL xs none (some (b : Int)) = xs.take b := by
  unfold cutL
  rw [HT.sIx_nat, HT.sIx_none, List.drop_zero, Nat.sub_zero]
  rcases Nat.lt_or_ge b xs.length with h | h
  · rw [Nat.min_eq_left (Nat.le_of_lt h)]
  · rw [Nat.min_eq_right h, List.take_length, List.take_of_length_le h]
theorem cutL_len {α : Type} (xs : List α) (a b : Nat) : (cutL xs (some (a : Int)) (some (b : Int))).length ≤ b - a := by
  rw [cutL_nat, List.length_drop, List.length_take]
  omega
end Tq
set_option Elab.async false
set_option linter.all false
set_option autoImplicit false
set_option maxHeartbeats 4000000
namespace Tq
/-! ### rules: pairs of sets -/
def rul (r : Nat × Nat) : Dt := .tup [nat r.1, nat r.2]
def brk (row : Nat) (r : Nat × Nat) : Bool := sub r.1 row && !sub r.2 row
def optN : Option Nat → Dt
  | none => .non
  | some k => nat k
theorem dec_sub {a b : Nat} : decide (((a &&& b : Nat) : Int) = (a : Int)) = sub a b := by
  rw [dec_nat]; rfl
theorem dec_sub' {a b : Nat} : decide (((b &&& a : Nat) : Int) = (a : Int)) = sub a b := by
  rw [dec_nat, Nat.and_comm]; rfl
theorem dec_subn {a b : Nat} : decide ((a &&& b) = a) = sub a b := rfl
theorem find_none {α : Type} {p : α → Bool} {xs : List α} (h : ∀ (i : Nat) (hi : i < xs.length), p xs[i] = false) : xs.findIdx? p = none := by
  rw [List.findIdx?_eq_none_iff]
  intro x hx
  obtain ⟨i, hi, rfl⟩ := List.getElem_of_mem hx
  exact h i hi
theorem find_some {α : Type} {p : α → Bool} {xs : List α} {k : Nat} (hk : k < xs.length) (h : ∀ (i : Nat) (hi : i < k), p (xs[i]'(by omega)) = false) (hp : p xs[k] = true) : xs.findIdx? p = some k := by
  rw [List.findIdx?_eq_some_iff_getElem]
  exact ⟨hk, hp, fun j hj => by rw [h j hj]; exact Bool.false_ne_true⟩
open PySem PySem.Spec L2 in
theorem ixn {n j : Nat} (hj : j < n) : ixN n (j : Int) = some j := by
  unfold ixN
  rw [if_pos (by omega), if_pos (by omega)]
  simp
end Tq
namespace Tq
open PySem PySem.Spec L2
abbrev rulesD (rs : List (Nat × Nat)) : Dt := .lst (rs.map rul)
theorem normA_rul {r : Nat × Nat} : normA (.fz, rul r) = (.fz, rul r) := rfl
theorem normA_rulr {r : Nat × Nat} : normA (.rd, rul r) = (.fz, rul r) := rfl
theorem atI_3 {a b c d : Dt} {r : List Dt} : L2.atI (a :: b :: c :: d :: r) 3 = some d := by
  have := @atI_nat Dt (a :: b :: c :: d :: r) 3 d rfl
  exact this
theorem or_lt {a b n : Nat} (ha : a < 2 ^ n) (hb : b < 2 ^ n) : a ||| b < 2 ^ n := Nat.or_lt_two_pow ha hb
theorem shl_lt {q a w : Nat} (h : q < 2 ^ w) : q * 2 ^ a < 2 ^ (a + w) := by
  rw [Nat.add_comm, Nat.pow_add]
  exact Nat.mul_lt_mul_of_pos_right h (Nat.two_pow_pos a)
theorem or_ge (a b : Nat) : a ≤ a ||| b := Nat.left_le_or
theorem or_gt {a b : Nat} (h : sub b a = false) : a < a ||| b := by
  rcases Nat.lt_or_ge a (a ||| b) with z | z
  · exact z
  · have e : a ||| b = a := Nat.le_antisymm z (or_ge a b)
    have : sub b a = true := by
      have h2 := sub_or_right a b
      rw [e] at h2
      exact h2
    rw [this] at h; cases h
theorem or_sub {a b c : Nat} (h1 : sub a c = true) (h2 : sub b c = true) : sub (a ||| b) c = true := sub_true.mpr fun k hk => by
  rw [Nat.testBit_or, Bool.or_eq_true] at hk
  rcases hk with h | h
  · exact sub_true.mp h1 k h
  · exact sub_true.mp h2 k h
theorem brk_iff {m : Nat} {r : Nat × Nat} : brk m r = true ↔ sub r.1 m = true ∧ sub r.2 m = false := by
  unfold brk
  rw [Bool.and_eq_true, Bool.not_eq_true']
theorem nobrk {m : Nat} {r : Nat × Nat} (h : brk m r = false) (h1 : sub r.1 m = true) : sub r.2 m = true := by
  unfold brk at h
  rw [h1] at h
  simpa using h
/-- the set that a walk through the rules has gathered -/
def mkW (rs : List (Nat × Nat)) (m : Nat) (ps : List Nat) : Nat := ps.foldl (fun h k => h ||| (rs.getD k (0, 0)).2) m
theorem mkW_snoc (rs : List (Nat × Nat)) (m : Nat) (ps : List Nat) (k : Nat) : mkW rs m (ps ++ [k]) = mkW rs m ps ||| (rs.getD k (0, 0)).2 := by simp [mkW]
/-- each step's rule is one that is due there, and the aim is not yet reached ahead of it -/
def Wlk (rs : List (Nat × Nat)) (m b : Nat) (ps : List Nat) : Prop := ∀ (i : Nat) (hi : i < ps.length), ps[i] < rs.length ∧ brk (mkW rs m (ps.take i)) (rs.getD ps[i] (0, 0)) = true ∧ sub b (mkW rs m (ps.take i)) = false
theorem Wlk.nil (rs : List (Nat × Nat)) (m b : Nat) : Wlk rs m b [] := fun i hi => by simp at hi
theorem Wlk.snoc {rs : List (Nat × Nat)} {m b : Nat} {ps : List Nat} {k : Nat} (h : Wlk rs m b ps) (hk : k < rs.length) (h1 : brk (mkW rs m ps) (rs.getD k (0, 0)) = true) (h2 : sub b (mkW rs m ps) = false) : Wlk rs m b (ps ++ [k]) := fun i hi => by
  rw [List.length_append, List.length_singleton] at hi
  rcases Nat.lt_or_ge i ps.length with z | z
  · have e : (ps ++ [k])[i] = ps[i] := List.getElem_append_left z
    rw [e, List.take_append_of_le_length (Nat.le_of_lt z)]
    exact h i z
  · have : i = ps.length := by omega
    subst this
    rw [List.getElem_concat_length rfl, List.take_left]
    exact ⟨hk, h1, h2⟩
theorem getD_at {α : Type} (xs : List α) (d : α) (i : Nat) (h : i < xs.length) : xs.getD i d = xs[i] := by simp [List.getD_eq_getElem?_getD, h]
theorem take_succ_at {α : Type} (xs : List α) (i : Nat) (h : i < xs.length) : xs.take (i + 1) = xs.take i ++ [xs[i]] := by
  rw [List.take_add_one, List.getElem?_eq_getElem h, Option.toList_some]
theorem find_some_at {α : Type} {p : α → Bool} {xs : List α} {k : Nat} (h : xs.findIdx? p = some k) : ∃ hk : k < xs.length, p xs[k] = true := by
  obtain ⟨h1, h2, _⟩ := List.findIdx?_eq_some_iff_getElem.mp h
  exact ⟨h1, h2⟩
theorem find_none_all {α : Type} {p : α → Bool} {xs : List α} (h : xs.findIdx? p = none) : ∀ x ∈ xs, p x = false := by
  rw [List.findIdx?_eq_none_iff] at h
  exact fun x hx => h x hx
end Tq
namespace Tq
theorem mod_i (c n : Int) (h : 0 < n) : ∃ p : Nat, c % n = (p : Int) ∧ (p : Int) < n := by
  have h1 := Int.emod_nonneg c (show n ≠ 0 by omega)
  have h2 := Int.emod_lt_of_pos c h
  exact ⟨(c % n).toNat, by omega, by omega⟩
end Tq
namespace Tq
open PySem PySem.Spec L2
theorem cutL_le {α : Type} (xs : List α) (lo hi : Option Int) : (cutL xs lo hi).length ≤ xs.length := by
  unfold cutL
  rw [List.length_take, List.length_drop]
  omega
end Tq
set_option Elab.async false
set_option linter.all false
set_option autoImplicit false
set_option maxHeartbeats 4000000
namespace Tq
open PySem PySem.Spec L2
/-! ### == of data told by a map into the data -/
class Enc {α : Type} [DecidableEq α] (f : α → Dt) (d : outParam Nat) : Prop where
  lay : ∀ a, (f a).py.canLay0 = true
  dep : ∀ a, (f a).py.depth ≤ d
  eqv : ∀ a b, PyData.eqv (f a).py (f b).py = decide (a = b)
section
variable {α β : Type} [DecidableEq α] [DecidableEq β] {f : α → Dt} {g : β → Dt} {d e : Nat}
theorem enc_lays [i : Enc f d] : ∀ xs : List α, PyData.canLayAll0 (Dt.pys (xs.map f)) = true ∧ PyData.depthAll (Dt.pys (xs.map f)) ≤ d
  | [] => ⟨rfl, Nat.zero_le _⟩
  | x :: xs => by
    obtain ⟨h1, h2⟩ := enc_lays (i := i) xs
    refine ⟨?_, ?_⟩
    · show ((f x).py.canLay0 && PyData.canLayAll0 (Dt.pys (xs.map f))) = true
      rw [h1, i.lay]; rfl
    · show max (f x).py.depth (PyData.depthAll (Dt.pys (xs.map f))) ≤ d
      exact Nat.max_le.mpr ⟨i.dep x, h2⟩
theorem enc_all [i : Enc f d] : ∀ xs ys : List α, PyData.eqvAll (Dt.pys (xs.map f)) (Dt.pys (ys.map f)) = decide (xs = ys)
  | [], [] => rfl
  | [], _ :: _ => rfl
  | _ :: _, [] => rfl
  | x :: xs, y :: ys => by
    show (PyData.eqv (f x).py (f y).py && PyData.eqvAll (Dt.pys (xs.map f)) (Dt.pys (ys.map f))) = _
    rw [enc_all (i := i) xs ys, i.eqv]
    by_cases h : x = y <;> by_cases h' : xs = ys <;> simp [h, h']
instance enc_int : Enc Dt.int 0 := ⟨fun _ => rfl, fun _ => Nat.le_refl _, fun a b => eqS⟩
instance enc_nat : Enc (fun (k : Nat) => Dt.int (k : Int)) 0 := ⟨fun _ => rfl, fun _ => Nat.le_refl _, fun a b => by
  show PyData.eqv (.int (a : Int)) (.int (b : Int)) = _
  rw [eqS]
  by_cases h : a = b
  · simp [h]
  · have : ¬ (a : Int) = (b : Int) := by omega
    simp [h, this]⟩
instance enc_lst [i : Enc f d] : Enc (fun xs : List α => Dt.lst (xs.map f)) (d + 1) := ⟨fun xs => (enc_lays (i := i) xs).1, fun xs => Nat.succ_le_succ (enc_lays (i := i) xs).2, fun xs ys => enc_all (i := i) xs ys⟩
instance enc_pair [i : Enc f d] [j : Enc g e] : Enc (fun p : α × β => Dt.tup [f p.1, g p.2]) (max d e + 1) := ⟨fun p => by
    show ((f p.1).py.canLay0 && ((g p.2).py.canLay0 && true)) = true
    rw [i.lay, j.lay]; rfl, fun p => by
    show max (f p.1).py.depth (max (g p.2).py.depth 0) + 1 ≤ _
    have := i.dep p.1
    have := j.dep p.2
    omega, fun p q => by
    show (PyData.eqv (f p.1).py (f q.1).py && (PyData.eqv (g p.2).py (g q.2).py && true)) = _
    rw [i.eqv, j.eqv]
    obtain ⟨p1, p2⟩ := p
    obtain ⟨q1, q2⟩ := q
    by_cases h : p1 = q1 <;> by_cases h' : p2 = q2 <;> simp [h, h']⟩
instance enc_rul : Enc rul 1 := enc_pair (f := fun (k : Nat) => Dt.int (k : Int)) (g := fun (k : Nat) => Dt.int (k : Int))
theorem eqG_enc [i : Enc f d] {n : Bool} {xs ys : List α} {P : DK} (hd : d + 1 ≤ 64 := by decide) : dEqG n (.lst (xs.map f)) (.lst (ys.map f)) P = P .fz (.bl (decide (xs = ys) != n)) := by
  have s : ∀ xs : List α, SeqAt.shaped (Dt.lst (xs.map f)).py = true := fun xs => by
    show (PyData.canLayAll0 (Dt.pys (xs.map f)) && decide (PyData.depthAll (Dt.pys (xs.map f)) + 1 ≤ 64)) = true
    have := (enc_lays (i := i) xs).2
    rw [(enc_lays (i := i) xs).1, Bool.true_and, decide_eq_true_eq]
    omega
  unfold dEqG
  rw [s, s]
  show (true = true ∧ true = true ∧ P .fz (.bl (PyData.eqvAll _ _ != n))) = _
  rw [enc_all]
  simp
theorem eqG_enc1 [i : Enc f d] {n : Bool} {x y : α} {P : DK} (hd : d ≤ 64 := by decide) : dEqG n (f x) (f y) P = P .fz (.bl (decide (x = y) != n)) := by
  have s : ∀ x : α, SeqAt.shaped (f x).py = true := fun x => by
    show ((f x).py.canLay0 && decide ((f x).py.depth ≤ 64)) = true
    have := i.dep x
    rw [i.lay, Bool.true_and, decide_eq_true_eq]
    omega
  unfold dEqG
  rw [s, s, i.eqv]
  simp
theorem rulesD_snoc (rs : List (Nat × Nat)) (r : Nat × Nat) : rulesD (rs ++ [r]) = .lst (rs.map rul ++ [rul r]) := by
  show Dt.lst ((rs ++ [r]).map rul) = _
  rw [List.map_append]; rfl
theorem nats_snoc (ks : List Nat) (k : Nat) : nats (ks ++ [k]) = .lst ((ks.map fun (k : Nat) => Dt.int (k : Int)) ++ [Dt.int (k : Int)]) := by
  show Dt.lst ((ks ++ [k]).map _) = _
  rw [List.map_append]; rfl
theorem eqG_ruls {n : Bool} {xs ys : List (Nat × Nat)} {P : DK} : dEqG n (.lst (xs.map rul)) (.lst (ys.map rul)) P = P .fz (.bl (decide (xs = ys) != n)) := eqG_enc
end
end Tq
set_option Elab.async false
set_option linter.all false
set_option autoImplicit false
set_option maxHeartbeats 4000000
namespace Tq
open PySem PySem.Spec L2
/-! ### the closed sets in their order -/
theorem band_one (a : Nat) : Builtin.bitAnd (a : Int) 1 = ((a &&& 1 : Nat) : Int) := band_nat a 1
theorem bor_one (a : Nat) : Builtin.bitOr (a : Int) 1 = ((a ||| 1 : Nat) : Int) := bor_nat a 1
theorem n0 : ((0 : Nat) : Int) = 0 := rfl
theorem n1 : ((1 : Nat) : Int) = 1 := rfl
theorem n2 : ((2 : Nat) : Int) = 2 := rfl
theorem n3 : ((3 : Nat) : Int) = 3 := rfl
theorem sub_le {a b : Nat} (h : sub a b = true) : a ≤ b := by
  have e : a &&& b = a := by simpa [sub] using h
  rw [← e]
  exact Nat.and_le_right
theorem add_pow {a k : Nat} (h : a < 2 ^ k) : a + 2 ^ k = a ||| 2 ^ k := by
  have h1 := nat_or_and_add a (2 ^ k)
  rw [and_pow_of_not (testBit_ge h (Nat.le_refl k))] at h1
  omega
/-- the highest place at which two numbers differ -/
theorem high_bit : ∀ {c a : Nat}, a < c → ∃ j, c.testBit j = true ∧ a.testBit j = false ∧ ∀ k, j < k → c.testBit k = a.testBit k := by
  intro c
  induction c using Nat.strongRecOn with
  | _ c ih =>
    intro a h
    rcases Nat.lt_or_ge (a / 2) (c / 2) with z | z
    · obtain ⟨j, h1, h2, h3⟩ := ih (c / 2) (by omega) z
      refine ⟨j + 1, by rw [Nat.testBit_succ]; exact h1, by rw [Nat.testBit_succ]; exact h2, fun k hk => ?_⟩
      obtain ⟨m, rfl⟩ : ∃ m, k = m + 1 := ⟨k - 1, by omega⟩
      rw [Nat.testBit_succ, Nat.testBit_succ]
      exact h3 m (by omega)
    · have e : c / 2 = a / 2 := by omega
      refine ⟨0, ?_, ?_, fun k hk => ?_⟩
      · rw [Nat.testBit_zero, decide_eq_true_eq]; omega
      · rw [Nat.testBit_zero, decide_eq_false_iff_not]; omega
      · obtain ⟨m, rfl⟩ : ∃ m, k = m + 1 := ⟨k - 1, by omega⟩
        rw [Nat.testBit_succ, Nat.testBit_succ, e]
theorem lt_of_bit {x y : Nat} (i : Nat) (hx : x.testBit i = false) (hy : y.testBit i = true) (h : ∀ j, i < j → x.testBit j = y.testBit j) : x < y := by
  rcases Nat.lt_trichotomy x y with z | z | z
  · exact z
  · subst z; rw [hx] at hy; cases hy
  · obtain ⟨j, h1, h2, h3⟩ := high_bit z
    rcases Nat.lt_trichotomy j i with q | q | q
    · rw [h3 i q, hy] at hx; cases hx
    · subst q; rw [hx] at h1; cases h1
    · rw [h j q, h2] at h1; cases h1
def isCl (rows : List Nat) (w m : Nat) : Bool := decide (clo rows w m = m)
theorem isCl_iff {rows : List Nat} {w m : Nat} : isCl rows w m = true ↔ clo rows w m = m := by unfold isCl; rw [decide_eq_true_eq]
theorem isCl_clo (rows : List Nat) (w m : Nat) : isCl rows w (clo rows w m) = true := isCl_iff.mpr (clo_idem rows w m)
def seed (m i : Nat) : Nat := (m / 2 ^ i ||| 1) * 2 ^ i
theorem one_bit (k : Nat) : (1 : Nat).testBit k = decide (k = 0) := by
  have := testBit_pow 0 k
  rw [Nat.pow_zero] at this
  rw [this]
  by_cases h : k = 0
  · subst h; rfl
  · have h' : ¬ 0 = k := fun z => h z.symm
    simp [h, h']
theorem testBit_seed {m i k : Nat} : (seed m i).testBit k = (decide (i ≤ k) && (m.testBit k || decide (k = i))) := by
  unfold seed
  rw [Nat.testBit_mul_two_pow]
  by_cases h : i ≤ k
  · rw [Nat.testBit_or, Nat.testBit_div_two_pow, one_bit, show k - i + i = k by omega]
    have : decide (k - i = 0) = decide (k = i) := by
      by_cases h2 : k = i
      · subst h2; simp
      · have : ¬ k - i = 0 := by omega
        simp [h2, this]
    rw [this]
  · have h' : decide (i ≤ k) = false := by simp [h]
    rw [h']; simp
/-- the test of next_mask: above the column as before, and the column -/
theorem fits_iff {m i d : Nat} : d / 2 ^ i = (m / 2 ^ i ||| 1) ↔ d.testBit i = true ∧ ∀ k, i < k → d.testBit k = m.testBit k := by
  constructor
  · intro h
    refine ⟨?_, fun k hk => ?_⟩
    · have := congrArg (fun z => z.testBit 0) h
      simp only [Nat.testBit_or, Nat.testBit_div_two_pow, one_bit, Nat.zero_add] at this
      simpa using this
    · have := congrArg (fun z => z.testBit (k - i)) h
      simp only [Nat.testBit_or, Nat.testBit_div_two_pow, one_bit, show k - i + i = k by omega] at this
      have h0 : ¬ k - i = 0 := by omega
      simpa [h0] using this
  · rintro ⟨h1, h2⟩
    refine Nat.eq_of_testBit_eq fun k => ?_
    rw [Nat.testBit_or, Nat.testBit_div_two_pow, Nat.testBit_div_two_pow, one_bit]
    by_cases h : k = 0
    · subst h; simp [h1]
    · rw [h2 (k + i) (by omega)]; simp [h]
section
variable {rows : List Nat} {w m i : Nat}
theorem clo_le_of {a c : Nat} (hc : clo rows w c = c) (h : sub a c = true) : sub (clo rows w a) c = true := by
  have := clo_mono (rows := rows) (w := w) h
  rw [hc] at this
  exact this
theorem seed_lt (hm : m < 2 ^ w) (hi : i < w) : seed m i < 2 ^ w := lt_pow_of fun k hk => by
  rw [testBit_seed, testBit_ge hm hk]
  have : ¬ k = i := by omega
  simp [this]
/-- a closed set above m fits at the place where it first differs -/
theorem fits_of (hm : m < 2 ^ w) {c : Nat} (hc : c < 2 ^ w) (hcl : clo rows w c = c) {j : Nat} (h1 : c.testBit j = true) (h2 : m.testBit j = false) (h3 : ∀ k, j < k → c.testBit k = m.testBit k) :
    j < w ∧ sub (clo rows w (seed m j)) c = true ∧ clo rows w (seed m j) / 2 ^ j = (m / 2 ^ j ||| 1) := by
  have hj : j < w := by
    rcases Nat.lt_or_ge j w with z | z
    · exact z
    · rw [testBit_ge hc z] at h1; cases h1
  have hs : sub (seed m j) c = true := sub_true.mpr fun k hk => by
    rw [testBit_seed, Bool.and_eq_true, decide_eq_true_eq, Bool.or_eq_true, decide_eq_true_eq] at hk
    obtain ⟨h4, h5⟩ := hk
    rcases Nat.lt_or_ge j k with z | z
    · rw [h3 k z]
      rcases h5 with h5 | h5
      · exact h5
      · omega
    · have : k = j := by omega
      subst this; exact h1
  have hs2 := clo_le_of hcl hs
  have he : sub (seed m j) (clo rows w (seed m j)) = true := clo_ext (seed_lt hm hj)
  refine ⟨hj, hs2, fits_iff.mpr ⟨?_, fun k hk => ?_⟩⟩
  · refine sub_true.mp he j ?_
    rw [testBit_seed]; simp
  · have hb := sub_true.mp hs2 k
    have hb2 := sub_true.mp he k
    rw [testBit_seed] at hb2
    have : decide (j ≤ k) = true := by rw [decide_eq_true_eq]; omega
    rw [this] at hb2
    rw [h3 k hk] at hb
    cases e : m.testBit k with
    | true => exact hb2 (by rw [e]; rfl)
    | false =>
      cases e2 : (clo rows w (seed m j)).testBit k with
      | false => rfl
      | true => rw [← e]; exact (hb e2).symm ▸ rfl
theorem next_some (hm : m < 2 ^ w) (hi : i < w) (hbit : m.testBit i = false) (hfit : clo rows w (seed m i) / 2 ^ i = (m / 2 ^ i ||| 1))
    (hno : ∀ j, j < i → m.testBit j = false → ¬ clo rows w (seed m j) / 2 ^ j = (m / 2 ^ j ||| 1)) :
    m < clo rows w (seed m i) ∧ clo rows w (seed m i) < 2 ^ w ∧ ∀ c, m < c → c < clo rows w (seed m i) → ¬ clo rows w c = c := by
  obtain ⟨f1, f2⟩ := fits_iff.mp hfit
  refine ⟨lt_of_bit i hbit f1 fun k hk => (f2 k hk).symm, clo_lt _ _ _, fun c h1 h2 hcl => ?_⟩
  obtain ⟨j, g1, g2, g3⟩ := high_bit h1
  obtain ⟨hj, g4, g5⟩ := fits_of hm (Nat.lt_trans h2 (clo_lt _ _ _)) hcl g1 g2 g3
  rcases Nat.lt_trichotomy j i with z | z | z
  · exact hno j z g2 g5
  · subst z
    have := sub_le g4
    omega
  · have : clo rows w (seed m i) < c := lt_of_bit j (by rw [f2 j z]; exact g2) g1 fun k hk => by rw [f2 k (by omega), g3 k hk]
    omega
theorem next_none (hm : m < 2 ^ w) (hno : ∀ j, j < w → m.testBit j = false → ¬ clo rows w (seed m j) / 2 ^ j = (m / 2 ^ j ||| 1)) : ∀ c, m < c → c < 2 ^ w → ¬ clo rows w c = c := fun c h1 h2 hcl => by
  obtain ⟨j, g1, g2, g3⟩ := high_bit h1
  obtain ⟨hj, g4, g5⟩ := fits_of hm h2 hcl g1 g2 g3
  exact hno j hj g2 g5
end
/-- the closed sets, rising -/
def cls (rows : List Nat) (w n : Nat) : List Nat := (List.range n).filter fun m => isCl rows w m
def ids (rows : List Nat) (w n : Nat) : List (Nat × Nat) := (cls rows w n).map fun m => (hav rows m, m)
theorem mem_cls {rows : List Nat} {w n m : Nat} : m ∈ cls rows w n ↔ m < n ∧ clo rows w m = m := by
  unfold cls
  rw [List.mem_filter, List.mem_range, isCl_iff]
theorem cls_next {rows : List Nat} {w c : Nat} : ∀ {n : Nat}, c < n → clo rows w c = c → (∀ k, c < k → k < n → ¬ clo rows w k = k) → cls rows w n = cls rows w c ++ [c] := by
  intro n
  induction n with
  | zero => intro h; omega
  | succ n ih =>
    intro h hc hno
    have e : cls rows w (n + 1) = cls rows w n ++ (if isCl rows w n = true then [n] else []) := by
      unfold cls
      rw [List.range_succ, List.filter_append]
      congr 1
      by_cases h : isCl rows w n = true <;> simp [h]
    rw [e]
    rcases Nat.lt_or_ge c n with z | z
    · rw [ih z hc fun k h1 h2 => hno k h1 (by omega), if_neg]
      · simp
      · rw [isCl_iff]; exact hno n z (by omega)
    · have : c = n := by omega
      subst this
      rw [if_pos (isCl_iff.mpr hc)]
theorem cls_first (rows : List Nat) (w : Nat) : cls rows w (clo rows w 0) = [] := by
  unfold cls
  rw [List.filter_eq_nil_iff]
  intro m hm
  rw [List.mem_range] at hm
  rw [isCl_iff]
  intro h
  have := sub_le (clo_le_of (rows := rows) (w := w) h (show sub 0 m = true from sub_true.mpr fun k hk => by simp at hk))
  omega
theorem ids_next {rows : List Nat} {w c n : Nat} (h : c < n) (hc : clo rows w c = c) (hno : ∀ k, c < k → k < n → ¬ clo rows w k = k) : ids rows w n = ids rows w c ++ [(hav rows c, c)] := by
  unfold ids
  rw [cls_next h hc hno, List.map_append]
  rfl
theorem cls_length (rows : List Nat) (w n : Nat) : (cls rows w n).length ≤ n := by
  unfold cls
  exact Nat.le_trans (List.length_filter_le _ _) (by simp)
theorem ids_length (rows : List Nat) (w n : Nat) : (ids rows w n).length ≤ n := by
  unfold ids
  rw [List.length_map]
  exact cls_length _ _ _
theorem cls_sorted (rows : List Nat) (w n : Nat) : (cls rows w n).Pairwise (· < ·) := List.Pairwise.filter _ List.pairwise_lt_range
end Tq
set_option Elab.async false
set_option linter.all false
set_option autoImplicit false
set_option maxHeartbeats 4000000
namespace Tq
open PySem PySem.Spec L2
/-! ### the least row -/
def lst (rows : List Nat) (w : Nat) : Nat → List (Nat × Nat)
  | 0 => []
  | n + 1 => lst rows w n ++ if ((lst rows w n).findIdx? fun r => brk n r) = none ∧ clo rows w n ≠ n then [(n, clo rows w n ^^^ n)] else []
theorem lst_length (rows : List Nat) (w : Nat) : ∀ n, (lst rows w n).length ≤ n
  | 0 => Nat.le_refl _
  | n + 1 => by
    have := lst_length rows w n
    unfold lst
    rw [List.length_append]
    split
    · rw [List.length_singleton]; omega
    · rw [List.length_nil]; omega
theorem lst_mem_lt {rows : List Nat} {w : Nat} : ∀ {n : Nat} {r : Nat × Nat}, r ∈ lst rows w n → r.1 < n ∧ r.2 = clo rows w r.1 ^^^ r.1 ∧ clo rows w r.1 ≠ r.1
  | n + 1, r, h => by
    unfold lst at h
    rcases List.mem_append.mp h with z | z
    · obtain ⟨h1, h2⟩ := lst_mem_lt z
      exact ⟨by omega, h2⟩
    · split at z
      · rename_i c
        rw [List.mem_singleton] at z
        subst z
        exact ⟨by omega, rfl, c.2⟩
      · cases z
theorem lst_sub {rows : List Nat} {w m : Nat} {r : Nat × Nat} (h : r ∈ lst rows w m) : ∀ {n : Nat}, m ≤ n → r ∈ lst rows w n
  | 0, hn => by
    have : m = 0 := by omega
    subst this; exact h
  | n + 1, hn => by
    rcases Nat.lt_or_ge m (n + 1) with z | z
    · unfold lst
      exact List.mem_append_left _ (lst_sub h (by omega))
    · have : m = n + 1 := by omega
      subst this; exact h
/-- a set in which no rule of the least row is broken is closed -/
theorem lst_whole {rows : List Nat} {w m n : Nat} (hm : m < n) (hn : n ≤ 2 ^ w) (h : ∀ r ∈ lst rows w n, brk m r = false) : clo rows w m = m := by
  by_cases hc : clo rows w m = m
  · exact hc
  · exfalso
    have h1 : ((lst rows w m).findIdx? fun r => brk m r) = none := by
      rw [List.findIdx?_eq_none_iff]
      exact fun r hr => h r (lst_sub hr (by omega))
    have h2 : (m, clo rows w m ^^^ m) ∈ lst rows w (m + 1) := by
      unfold lst
      rw [if_pos ⟨h1, hc⟩]
      exact List.mem_append_right _ (List.mem_singleton.mpr rfl)
    have h3 := nobrk (h _ (lst_sub h2 hm)) (sub_refl m)
    refine hc (Nat.eq_of_testBit_eq fun k => ?_)
    have h4 := sub_true.mp h3 k
    rw [Nat.testBit_xor] at h4
    cases e : m.testBit k with
    | true =>
      rw [e] at h4
      cases e2 : (clo rows w m).testBit k with
      | true => rfl
      | false =>
        rcases Nat.lt_or_ge m (2 ^ w) with z | z
        · rw [sub_true.mp (clo_ext z) k e] at e2; cases e2
        · exact absurd z (by omega)
    | false =>
      rw [e] at h4
      cases e2 : (clo rows w m).testBit k with
      | false => rfl
      | true => rw [e2] at h4; simp at h4
/-- each rule of the least row holds -/
theorem lst_holds {rows : List Nat} {w n : Nat} (hn : n ≤ 2 ^ w) {r : Nat × Nat} (hr : r ∈ lst rows w n) : r.2 < 2 ^ w ∧ ∀ t, t < rows.length → brk (rows.getD t 0) r = false := by
  obtain ⟨h1, h2, _⟩ := lst_mem_lt hr
  refine ⟨by rw [h2]; exact Nat.xor_lt_two_pow (clo_lt _ _ _) (by omega), fun t ht => ?_⟩
  cases e : brk (rows.getD t 0) r with
  | false => rfl
  | true =>
    obtain ⟨b1, b2⟩ := brk_iff.mp e
    have h3 := clo_row (w := w) ht b1
    have h4 : sub r.2 (rows.getD t 0) = true := sub_true.mpr fun k hk => by
      rw [h2, Nat.testBit_xor] at hk
      cases e2 : (clo rows w r.1).testBit k with
      | true => exact sub_true.mp h3 k e2
      | false =>
        rw [e2] at hk
        exact sub_true.mp b1 k (by simpa using hk)
    rw [h4] at b2
    cases b2
/-- what holds in all rows is in the closed set -/
theorem clo_rule {rows : List Nat} {w : Nat} {r : Nat × Nat} (h2 : r.2 < 2 ^ w) (h : ∀ t, t < rows.length → brk (rows.getD t 0) r = false) : sub r.2 (clo rows w r.1) = true := sub_true.mpr fun k hk => by
  rw [testBit_clo, decide_eq_true_eq]
  refine ⟨?_, fun t ht hs => sub_true.mp (nobrk (h t ht) hs) k hk⟩
  rcases Nat.lt_or_ge k w with z | z
  · exact z
  · rw [testBit_ge h2 z] at hk; cases hk
theorem clo_take {rows : List Nat} {w m i : Nat} (hi : i < rows.length) : clo (rows.take (i + 1)) w m = if sub m rows[i] = true then clo (rows.take i) w m &&& rows[i] else clo (rows.take i) w m := by
  have key : ∀ j k, j ≤ rows.length → ((clo (rows.take j) w m).testBit k = true ↔ (k < w ∧ ∀ t, t < j → sub m (rows.getD t 0) = true → (rows.getD t 0).testBit k = true)) := fun j k hj => by
    rw [testBit_clo, decide_eq_true_eq, List.length_take, Nat.min_eq_left hj]
    refine and_congr Iff.rfl ⟨fun h t ht => ?_, fun h t ht => ?_⟩
    · have := h t ht
      rw [List.getD_eq_getElem?_getD, List.getElem?_take_of_lt ht, ← List.getD_eq_getElem?_getD] at this
      exact this
    · rw [List.getD_eq_getElem?_getD, List.getElem?_take_of_lt ht, ← List.getD_eq_getElem?_getD]
      exact h t ht
  have e : rows.getD i 0 = rows[i] := getD_at _ _ _ hi
  refine Nat.eq_of_testBit_eq fun k => ?_
  rw [Bool.eq_iff_iff, key _ _ (by omega)]
  split
  · rename_i hs
    rw [Nat.testBit_and, Bool.and_eq_true, key _ _ (by omega)]
    constructor
    · rintro ⟨h1, h2⟩
      exact ⟨⟨h1, fun t ht => h2 t (by omega)⟩, e ▸ h2 i (by omega) (e ▸ hs)⟩
    · rintro ⟨⟨h1, h2⟩, h3⟩
      refine ⟨h1, fun t ht hs2 => ?_⟩
      rcases Nat.lt_or_ge t i with z | z
      · exact h2 t z hs2
      · have : t = i := by omega
        subst this; rw [e]; exact h3
  · rename_i hs
    rw [key _ _ (by omega)]
    refine and_congr Iff.rfl ⟨fun h t ht => h t (by omega), fun h t ht hs2 => ?_⟩
    rcases Nat.lt_or_ge t i with z | z
    · exact h t z hs2
    · have : t = i := by omega
      subst this
      rw [e] at hs2
      exact absurd hs2 hs
end Tq
namespace Tq
open PySem PySem.Spec L2
theorem cutL_mem {α : Type} {xs : List α} {lo hi : Option Int} {x : α} (h : x ∈ cutL xs lo hi) : x ∈ xs := by
  unfold cutL at h
  exact List.mem_of_mem_drop (List.mem_of_mem_take h)
end Tq
namespace Tq
open PySem PySem.Spec L2
/-- a closed set keeps each rule of the least row -/
theorem lst_keeps {rows : List Nat} {w n : Nat} (hn : n ≤ 2 ^ w) {r : Nat × Nat} (hr : r ∈ lst rows w n) {c : Nat} (hc : clo rows w c = c) : brk c r = false := by
  obtain ⟨h1, h2, _⟩ := lst_mem_lt hr
  cases e : brk c r with
  | false => rfl
  | true =>
    obtain ⟨b1, b2⟩ := brk_iff.mp e
    have h3 := clo_le_of hc b1
    have h4 : sub r.2 c = true := sub_true.mpr fun k hk => by
      rw [h2, Nat.testBit_xor] at hk
      cases e2 : (clo rows w r.1).testBit k with
      | true => exact sub_true.mp h3 k e2
      | false =>
        rw [e2] at hk
        exact sub_true.mp b1 k (by simpa using hk)
    rw [h4] at b2
    cases b2
/-- grown by the least row is the closed set -/
theorem lst_grown {rows : List Nat} {w m t : Nat} (hm : m < 2 ^ w) (ht : t < 2 ^ w) (h1 : sub m t = true) (h2 : ∀ r ∈ lst rows w (2 ^ w), brk t r = false) (h3 : ∀ u, sub m u = true → (∀ r ∈ lst rows w (2 ^ w), brk u r = false) → sub t u = true) : t = clo rows w m :=
  sub_antisymm (h3 _ (clo_ext hm) fun r hr => lst_keeps (Nat.le_refl _) hr (clo_idem _ _ _)) (clo_le_of (lst_whole ht (Nat.le_refl _) h2) h1)
end Tq
namespace Tq
open PySem PySem.Spec L2
theorem for_rngC (lo c : Int) (n : Nat) (I : Nat → DEnv → Prop) {ρ : DEnv} {B : (Nat → DEnv → Prop) → Nat → Dt → DEnv → Prop} {Z : DEnv → Prop} (h0 : ∃ ρ', Wk ρ ρ' ∧ I 0 ρ')
    (hs : ∀ (i : Nat) (h : i < n) (ρ' : DEnv), I i ρ' → B I i (.int (lo + (i : Int) * c)) ρ') (hd : ∀ ρ', I n ρ' → Z ρ') :
    ∃ W : Nat → DEnv → Prop, (∃ ρ', Wk ρ ρ' ∧ W 0 ρ') ∧ (∀ i x ρ', (rngC lo c n)[i]? = some x → W i ρ' → B W i x ρ') ∧ ∀ ρ', W (rngC lo c n).length ρ' → Z ρ' := by
  refine ⟨I, h0, fun i x ρ' hx hw => ?_, fun ρ' h => hd ρ' (by rw [rngC_length] at h; exact h)⟩
  obtain ⟨hi, rfl⟩ := rngC_at hx
  exact hs i hi ρ' hw
end Tq
set_option Elab.async false
set_option linter.all false
set_option autoImplicit false
set_option maxHeartbeats 4000000
namespace Tq
open PySem PySem.Spec L2
/-! ### dicts with whole numbers as keys -/
instance decKey (k : Key) (l : List Key) : Decidable (k ∈ l) := decidable_of_iff ((l.any fun x => decide (x = k)) = true) (by
  rw [List.any_eq_true]
  constructor
  · rintro ⟨x, hx, h⟩; have e : x = k := by simpa using h
    exact e ▸ hx
  · exact fun h => ⟨k, h, by simp⟩)
theorem putD_keys (ds : List (Key × Dt)) (k : Key) (x : Dt) : (putD ds k x).map (·.1) = if k ∈ ds.map (·.1) then ds.map (·.1) else ds.map (·.1) ++ [k] := by
  unfold putD
  have e : (ds.any fun kv => decide (kv.1 = k)) = decide (k ∈ ds.map (·.1)) := by
    rw [Bool.eq_iff_iff, List.any_eq_true, decide_eq_true_eq, List.mem_map]
    constructor
    · rintro ⟨p, hp, h⟩; exact ⟨p, hp, by simpa using h⟩
    · rintro ⟨p, hp, h⟩; exact ⟨p, hp, by simpa using h⟩
  rw [e]
  by_cases h : k ∈ ds.map (·.1)
  · rw [if_pos h, if_pos (by simpa using h), List.map_map]
    refine List.map_congr_left fun p _ => ?_
    show (if p.1 = k then (p.1, x) else p).1 = p.1
    split <;> rfl
  · rw [if_neg h, if_neg (by simpa using h), List.map_append]
    rfl
theorem valD_put (ds : List (Key × Dt)) (k j : Key) (x : Dt) : valD (putD ds k x) j = if j = k then some x else valD ds j := by
  unfold putD
  split
  · rename_i h
    induction ds with
    | nil => simp at h
    | cons p r ih =>
      unfold valD at ih ⊢
      by_cases hp : p.1 = k
      · by_cases hj : j = k
        · subst hj; simp [hp]
        · have hpj : ¬ p.1 = j := fun z => hj (z.symm.trans hp)
          have hk : ¬ k = j := fun z => hj z.symm
          simp only [List.map_cons, hp, if_true, List.find?_cons, hk, decide_false, hj, if_false]
          by_cases hr : (r.any fun kv => decide (kv.1 = k)) = true
          · have := ih hr
            rw [if_neg hj] at this
            exact this
          · have e : (r.map fun kv => if kv.1 = k then (kv.1, x) else kv) = r := by
              rw [List.map_congr_left (g := id) fun q hq => ?_, List.map_id]
              rw [if_neg]; · rfl
              intro z
              exact hr (List.any_eq_true.mpr ⟨q, hq, by simpa using z⟩)
            rw [e]
      · have hr : (r.any fun kv => decide (kv.1 = k)) = true := by simpa [List.any_cons, hp] using h
        by_cases hj : p.1 = j
        · have hjk : ¬ j = k := fun z => hp (hj.trans z)
          simp [hp, hj, hjk]
        · have := ih hr
          simp only [List.map_cons, hp, if_false, List.find?_cons, hj, decide_false]
          exact this
  · rename_i h
    have hn : ∀ p ∈ ds, ¬ p.1 = k := fun p hp z => h (List.any_eq_true.mpr ⟨p, hp, by simpa using z⟩)
    unfold valD
    rw [List.find?_append]
    by_cases hj : j = k
    · subst hj
      have : (ds.find? fun kv => decide (kv.1 = j)) = none := by
        rw [List.find?_eq_none]
        exact fun p hp => by simpa using hn p hp
      rw [this]; simp
    · have hk : ¬ k = j := fun z => hj z.symm
      cases e : (ds.find? fun kv => decide (kv.1 = j)) <;> simp [hj, hk]
theorem valD_some {ds : List (Key × Dt)} {k : Key} : (valD ds k).isSome = decide (k ∈ ds.map (·.1)) := by
  unfold valD
  rw [Bool.eq_iff_iff, Option.isSome_map, List.find?_isSome, decide_eq_true_eq, List.mem_map]
  constructor
  · rintro ⟨p, hp, h⟩; exact ⟨p, hp, by simpa using h⟩
  · rintro ⟨p, hp, h⟩; exact ⟨p, hp, by simpa using h⟩
/-- sorted lists of the same numbers, each once, are the same -/
theorem sorted_same : ∀ {xs ys : List Nat}, xs.Pairwise (· < ·) → ys.Pairwise (· < ·) → (∀ k, k ∈ xs ↔ k ∈ ys) → xs = ys
  | [], [], _, _, _ => rfl
  | [], y :: ys, _, _, h => absurd ((h y).mpr (by simp)) (by simp)
  | x :: xs, [], _, _, h => absurd ((h x).mp (by simp)) (by simp)
  | x :: xs, y :: ys, h1, h2, h => by
    rw [List.pairwise_cons] at h1 h2
    have e : x = y := by
      have a := (h x).mp (by simp)
      have b := (h y).mpr (by simp)
      rcases List.mem_cons.mp a with z | z
      · exact z
      · rcases List.mem_cons.mp b with q | q
        · exact q.symm
        · have := h1.1 y q
          have := h2.1 x z
          omega
    subst e
    rw [sorted_same h1.2 h2.2 fun k => ?_]
    constructor
    · intro hk
      rcases List.mem_cons.mp ((h k).mp (List.mem_cons_of_mem _ hk)) with z | z
      · subst z; exact absurd (h1.1 k hk) (by omega)
      · exact z
    · intro hk
      rcases List.mem_cons.mp ((h k).mpr (List.mem_cons_of_mem _ hk)) with z | z
      · subst z; exact absurd (h2.1 k hk) (by omega)
      · exact z
/-- the keys of a dict are just the numbers of ks -/
def KeysN (ds : List (Key × Dt)) (ks : List Nat) : Prop := ds.map (·.1) = ks.map (fun (k : Nat) => Sum.inl (k : Int)) ∧ ks.Nodup
theorem KeysN.mem {ds : List (Key × Dt)} {ks : List Nat} (h : KeysN ds ks) {k : Nat} : ((Sum.inl (k : Int) : Key) ∈ ds.map (·.1)) ↔ k ∈ ks := by
  rw [h.1, List.mem_map]
  constructor
  · rintro ⟨j, hj, e⟩
    have : (j : Int) = (k : Int) := Sum.inl.inj e
    have : j = k := by omega
    exact this ▸ hj
  · exact fun hk => ⟨k, hk, rfl⟩
theorem KeysN.put {ds : List (Key × Dt)} {ks : List Nat} (h : KeysN ds ks) (k : Nat) (x : Dt) : KeysN (putD ds (.inl (k : Int)) x) (if k ∈ ks then ks else ks ++ [k]) := by
  unfold KeysN
  rw [putD_keys]
  by_cases hk : k ∈ ks
  · rw [if_pos (h.mem.mpr hk), if_pos hk]; exact h
  · rw [if_neg (fun z => hk (h.mem.mp z)), if_neg hk, h.1, List.map_append]
    refine ⟨rfl, ?_⟩
    rw [List.nodup_append]
    refine ⟨h.2, by simp, ?_⟩
    rintro a ha b hb rfl
    simp at hb
    exact hk (hb ▸ ha)
theorem KeysN.sorted {ds : List (Key × Dt)} {ks : List Nat} (h : KeysN ds ks) {cs : List Nat} (hc : cs.Pairwise (· < ·)) (hm : ∀ k, k ∈ ks ↔ k ∈ cs) :
    ∃ zs : List Int, ds.map (·.1) = zs.map Sum.inl ∧ ∀ ys : List Int, ys.Perm zs → ys.Pairwise (· ≤ ·) → Dt.lst (ys.map Dt.int) = nats cs := by
  refine ⟨ks.map fun (k : Nat) => (k : Int), by rw [h.1, List.map_map]; rfl, fun ys hp ho => ?_⟩
  have hpos : ∀ y ∈ ys, 0 ≤ y := fun y hy => by
    obtain ⟨k, _, rfl⟩ := List.mem_map.mp (hp.mem_iff.mp hy)
    exact Int.natCast_nonneg k
  have hback : ys = (ys.map Int.toNat).map fun (k : Nat) => (k : Int) := by
    rw [List.map_map, List.map_congr_left (g := id) fun y hy => ?_, List.map_id]
    show ((y.toNat : Nat) : Int) = y
    exact Int.toNat_of_nonneg (hpos y hy)
  have hp2 : (ys.map Int.toNat).Perm ks := by
    have := hp.map Int.toNat
    rw [List.map_map] at this
    have e : (ks.map (Int.toNat ∘ fun (k : Nat) => (k : Int))) = ks := by
      rw [List.map_congr_left (g := id) fun y hy => ?_, List.map_id]
      rfl
    rw [e] at this
    exact this
  have hn : (ys.map Int.toNat).Nodup := hp2.nodup_iff.mpr h.2
  have hs : (ys.map Int.toNat).Pairwise (· ≤ ·) := by
    rw [List.pairwise_map]
    exact ho.imp fun {a b} hab => Int.toNat_le_toNat hab
  have hlt : (ys.map Int.toNat).Pairwise (· < ·) := by
    have := List.Pairwise.and hs hn
    exact this.imp fun {a b} ⟨h1, h2⟩ => Nat.lt_of_le_of_ne h1 h2
  have e := sorted_same hlt hc fun k => (hp2.mem_iff).trans (hm k)
  rw [hback, e, List.map_map]
  rfl
end Tq
set_option Elab.async false
set_option linter.all false
set_option autoImplicit false
set_option maxHeartbeats 4000000
namespace Tq
open PySem PySem.Spec L2
/-! ### the starts of the least row -/
theorem lst_mem_at {rows : List Nat} {w : Nat} : ∀ {n : Nat} {r : Nat × Nat}, r ∈ lst rows w n → r ∈ lst rows w (r.1 + 1) ∧ ∀ q ∈ lst rows w r.1, brk r.1 q = false
  | n + 1, r, h => by
    have h0 := h
    unfold lst at h
    rcases List.mem_append.mp h with z | z
    · exact lst_mem_at z
    · split at z
      · rename_i c
        rw [List.mem_singleton] at z
        subst z
        exact ⟨h0, find_none_all c.1⟩
      · cases z
/-- a start keeps each rule of the least row but its own -/
theorem lst_start_keeps {rows : List Nat} {w n : Nat} {r q : Nat × Nat} (hr : r ∈ lst rows w n) (hq : q ∈ lst rows w n) (hne : q.1 ≠ r.1) : brk r.1 q = false := by
  cases e : brk r.1 q with
  | false => rfl
  | true =>
    obtain ⟨b1, b2⟩ := brk_iff.mp e
    have h1 := sub_le b1
    have h2 := lst_sub (lst_mem_at hq).1 (show q.1 + 1 ≤ r.1 by omega)
    rw [(lst_mem_at hr).2 q h2] at e
    cases e
theorem lst_rising (rows : List Nat) (w : Nat) : ∀ n, (lst rows w n).Pairwise fun a b => a.1 < b.1
  | 0 => List.Pairwise.nil
  | n + 1 => by
    unfold lst
    rw [List.pairwise_append]
    refine ⟨lst_rising rows w n, ?_, fun a ha b hb => ?_⟩
    · split
      · exact List.pairwise_singleton _ _
      · exact List.Pairwise.nil
    · split at hb
      · rw [List.mem_singleton] at hb
        subst hb
        exact (lst_mem_lt ha).1
      · cases hb
theorem lst_start {rows : List Nat} {w n m : Nat} (hm : m < n) (hc : clo rows w m ≠ m) (h : ∀ q ∈ lst rows w n, q.1 ≠ m → brk m q = false) : (m, clo rows w m ^^^ m) ∈ lst rows w n := by
  refine lst_sub (m := m + 1) ?_ hm
  unfold lst
  have h1 : ((lst rows w m).findIdx? fun r => brk m r) = none := by
    rw [List.findIdx?_eq_none_iff]
    intro q hq
    refine h q (lst_sub hq (by omega)) ?_
    have := (lst_mem_lt hq).1
    omega
  rw [if_pos ⟨h1, hc⟩]
  exact List.mem_append_right _ (List.mem_singleton.mpr rfl)
theorem nodup_le : ∀ {n : Nat} {l : List Nat}, l.Nodup → (∀ x ∈ l, x < n) → l.length ≤ n
  | 0, [], _, _ => Nat.le_refl _
  | 0, x :: l, _, h => absurd (h x (by simp)) (by omega)
  | n + 1, l, hn, h => by
    by_cases hm : n ∈ l
    · have h1 := nodup_le (n := n) (hn.erase n) fun x hx => by
        have := (hn.mem_erase_iff).mp hx
        have := h x this.2
        omega
      rw [List.length_erase_of_mem hm] at h1
      omega
    · have := nodup_le (n := n) hn fun x hx => by
        have h1 := h x hx
        have : x ≠ n := fun z => hm (z ▸ hx)
        omega
      omega
theorem xor_sub {a c b : Nat} (h1 : sub a b = true) (h2 : sub (c ^^^ a) b = true) : sub c b = true := sub_true.mpr fun k hk => by
  cases e : a.testBit k with
  | true => exact sub_true.mp h1 k e
  | false => exact sub_true.mp h2 k (by rw [Nat.testBit_xor, hk, e]; rfl)
theorem sub_and {a b c : Nat} (h1 : sub a b = true) (h2 : sub a c = true) : sub a (b &&& c) = true := sub_true.mpr fun k hk => by
  rw [Nat.testBit_and, sub_true.mp h1 k hk, sub_true.mp h2 k hk]; rfl
theorem and_sub_left (a b : Nat) : sub (a &&& b) a = true := sub_true.mpr fun k hk => by
  rw [Nat.testBit_and, Bool.and_eq_true] at hk; exact hk.1
theorem and_sub_right (a b : Nat) : sub (a &&& b) b = true := sub_true.mpr fun k hk => by
  rw [Nat.testBit_and, Bool.and_eq_true] at hk; exact hk.2
/-- a rule that holds is not due at two starts -/
theorem lst_apart {rows : List Nat} {w : Nat} {r q f : Nat × Nat} (hr : r ∈ lst rows w (2 ^ w)) (hq : q ∈ lst rows w (2 ^ w)) (hne : r.1 ≠ q.1) (hf : sub f.2 (clo rows w f.1) = true) (b1 : brk r.1 f = true) (b2 : brk q.1 f = true) : False := by
  have key : ∀ {r q : Nat × Nat}, r ∈ lst rows w (2 ^ w) → q ∈ lst rows w (2 ^ w) → r.1 ≠ q.1 → brk r.1 f = true → brk q.1 f = true → sub r.1 q.1 = true → False := fun {r q} hr hq hne b1 b2 h => by
    have h1 := nobrk (lst_start_keeps hq hr hne) h
    rw [(lst_mem_lt hr).2.1] at h1
    have h2 := xor_sub h h1
    have h3 := sub_trans hf (sub_trans (clo_mono (brk_iff.mp b1).1) h2)
    rw [(brk_iff.mp b2).2] at h3
    cases h3
  by_cases h1 : sub r.1 q.1 = true
  · exact key hr hq hne b1 b2 h1
  by_cases h2 : sub q.1 r.1 = true
  · exact key hq hr hne.symm b2 b1 h2
  have hlt : r.1 &&& q.1 < 2 ^ w := sub_lt (and_sub_left _ _) (lst_mem_lt hr).1
  have hc : clo rows w (r.1 &&& q.1) = r.1 &&& q.1 := lst_whole hlt (Nat.le_refl _) fun R hR => by
    cases e : brk (r.1 &&& q.1) R with
    | false => rfl
    | true =>
      obtain ⟨e1, e2⟩ := brk_iff.mp e
      have g1 := sub_trans e1 (and_sub_left _ _)
      have g2 := sub_trans e1 (and_sub_right _ _)
      have n1 : R.1 ≠ r.1 := fun z => h1 (z ▸ g2)
      have n2 : R.1 ≠ q.1 := fun z => h2 (z ▸ g1)
      rw [sub_and (nobrk (lst_start_keeps hr hR n1) g1) (nobrk (lst_start_keeps hq hR n2) g2)] at e2
      cases e2
  have h3 := sub_trans hf (clo_le_of hc (sub_and (brk_iff.mp b1).1 (brk_iff.mp b2).1))
  have h4 := sub_trans h3 (and_sub_left _ _)
  rw [(brk_iff.mp b1).2] at h4
  cases h4
/-- no smaller list of rules that hold is due at each start -/
theorem lst_fewest {rows : List Nat} {w : Nat} {fs : List (Nat × Nat)} (hf : ∀ f ∈ fs, sub f.2 (clo rows w f.1) = true) (h : ∀ r ∈ lst rows w (2 ^ w), ∃ j, ∃ hj : j < fs.length, brk r.1 fs[j] = true) : (lst rows w (2 ^ w)).length ≤ fs.length := by
  let g : Nat × Nat → Nat := fun r => (fs.findIdx? fun f => brk r.1 f).getD 0
  have hg : ∀ r ∈ lst rows w (2 ^ w), ∃ hj : g r < fs.length, brk r.1 fs[g r] = true := fun r hr => by
    cases e : fs.findIdx? fun f => brk r.1 f with
    | none =>
      obtain ⟨j, hj, hb⟩ := h r hr
      rw [find_none_all e _ (List.getElem_mem hj)] at hb
      cases hb
    | some k =>
      have e2 : g r = k := by show (fs.findIdx? fun f => brk r.1 f).getD 0 = k; rw [e]; rfl
      obtain ⟨hk, hb⟩ := find_some_at e
      exact ⟨e2 ▸ hk, by simp only [e2]; exact hb⟩
  have hn : ((lst rows w (2 ^ w)).map g).Nodup := by
    rw [List.Nodup, List.pairwise_map]
    refine (lst_rising rows w (2 ^ w)).imp_of_mem fun {a b} ha hb hab => ?_
    intro e
    obtain ⟨h1, h2⟩ := hg a ha
    obtain ⟨h3, h4⟩ := hg b hb
    refine lst_apart ha hb (by omega) (hf _ (List.getElem_mem h1)) h2 ?_
    simp only [e]
    exact h4
  have := nodup_le hn (n := fs.length) fun x hx => by
    obtain ⟨r, hr, rfl⟩ := List.mem_map.mp hx
    exact (hg r hr).1
  rw [List.length_map] at this
  exact this
theorem putD_len (ds : List (Key × Dt)) (k : Key) (x : Dt) : (putD ds k x).length ≤ ds.length + 1 := by
  unfold putD
  split
  · rw [List.length_map]; omega
  · rw [List.length_append, List.length_singleton]; exact Nat.le_refl _
end Tq
set_option Elab.async false
set_option linter.all false
set_option autoImplicit false
set_option maxHeartbeats 4000000
namespace Tq
open PySem PySem.Spec L2
/-! ### steps, worths and gaps -/
abbrev stepsD (ss : List (List Int)) : Dt := .lst (ss.map intsD)
def cellD (c : Int × Int) : Dt := .tup [.int c.1, .int c.2]
abbrev rowD (r : List (Int × Int)) : Dt := .lst (r.map cellD)
abbrev cellsD (cs : List (List (Int × Int))) : Dt := .lst (cs.map rowD)
abbrev fillsD (fs : List (List (List Int))) : Dt := .lst (fs.map stepsD)
theorem ints_snoc (ks : List Int) (k : Int) : intsD (ks ++ [k]) = .lst (ks.map Dt.int ++ [Dt.int k]) := by
  show Dt.lst ((ks ++ [k]).map _) = _
  rw [List.map_append]; rfl
theorem steps_snoc (ss : List (List Int)) (r : List Int) : stepsD (ss ++ [r]) = .lst (ss.map intsD ++ [intsD r]) := by
  show Dt.lst ((ss ++ [r]).map _) = _
  rw [List.map_append]; rfl
theorem row_snoc (r : List (Int × Int)) (c : Int × Int) : rowD (r ++ [c]) = .lst (r.map cellD ++ [cellD c]) := by
  show Dt.lst ((r ++ [c]).map _) = _
  rw [List.map_append]; rfl
theorem cells_snoc (cs : List (List (Int × Int))) (r : List (Int × Int)) : cellsD (cs ++ [r]) = .lst (cs.map rowD ++ [rowD r]) := by
  show Dt.lst ((cs ++ [r]).map _) = _
  rw [List.map_append]; rfl
instance enc_ints : Enc intsD 1 := enc_lst (i := enc_int)
instance enc_cell : Enc cellD 1 := enc_pair (f := Dt.int) (g := Dt.int)
instance enc_row : Enc rowD 2 := enc_lst (i := enc_cell)
theorem eqG_steps {n : Bool} {xs ys : List (List Int)} {P : DK} : dEqG n (.lst (xs.map intsD)) (.lst (ys.map intsD)) P = P .fz (.bl (decide (xs = ys) != n)) := eqG_enc
theorem eqG_cells {n : Bool} {xs ys : List (List (Int × Int))} {P : DK} : dEqG n (.lst (xs.map rowD)) (.lst (ys.map rowD)) P = P .fz (.bl (decide (xs = ys) != n)) := eqG_enc
theorem atI_last (xs : List Dt) (x : Dt) : L2.atI (xs ++ [x]) (-1) = some x := by
  have e : ixN (xs ++ [x]).length (-1) = some xs.length := by
    unfold ixN
    rw [if_neg (by omega), if_pos (by rw [List.length_append]; simp; omega)]
    simp
    omega
  unfold L2.atI
  rw [e]
  simp
theorem dts_snoc : ∀ (T : List Ot) (u : Ot), Ot.dts (T ++ [u]) = Ot.dts T ++ [u.dt]
  | [], _ => rfl
  | t :: T, u => congrArg (t.dt :: ·) (dts_snoc T u)
theorem dt_snoc {l l1 : Addr} {T : List Ot} {fs : List (List Int)} {ds : List Dt} (h : Ot.dts T = fs.map intsD) : (Ot.lst l (T ++ [Ot.leaf l1 ds])).dt = .lst (fs.map intsD ++ [.lst ds]) := by
  show Dt.lst (Ot.dts _) = _
  rw [dts_snoc, h, Ot.dt_leaf]
theorem ix_snoc {n : Nat} : ixN (n + 1) (-1) = some n := by
  unfold ixN
  rw [if_neg (by omega), if_pos (by omega)]
  congr 1
  omega
theorem last_at {T : List Ot} {u : Ot} : (T ++ [u])[T.length]? = some u := by simp
theorem set_last {T : List Ot} {u v : Ot} : (T ++ [u]).set T.length v = T ++ [v] := by simp
theorem ixP_last {l : Addr} {T : List Ot} {u : Ot} {k : Nat → Ot → Prop} : ixP (.lst l (T ++ [u])) (.int (-1)) k = k T.length u := by
  refine propext ⟨fun ⟨j, w, h1, h2, h3⟩ => ?_, fun h => ⟨T.length, u, by rw [List.length_append]; exact ix_snoc, last_at, h⟩⟩
  rw [List.length_append, List.length_singleton, ix_snoc] at h1
  cases h1
  rw [last_at] at h2
  cases h2
  exact h3
def wid (ss : List (List Int)) : Nat := (ss.map List.length).sum
def ofB (bs : List Bool) : Nat := setOf ((List.range bs.length).filter fun i => bs.getD i false)
theorem sum_len (ss : List (List Int)) : (ss.map fun r => (r.length : Int)).sum = (wid ss : Int) := by
  unfold wid
  induction ss with
  | nil => rfl
  | cons r ss ih => simp [ih]
theorem testBit_ofB (bs : List Bool) (i : Nat) : (ofB bs).testBit i = bs.getD i false := by
  unfold ofB
  rw [testBit_setOf]
  cases e : bs.getD i false with
  | true =>
    have hi : i < bs.length := by
      rcases Nat.lt_or_ge i bs.length with z | z
      · exact z
      · rw [List.getD_eq_getElem?_getD, List.getElem?_eq_none_iff.mpr z] at e; cases e
    rw [decide_eq_true (List.mem_filter.mpr ⟨List.mem_range.mpr hi, e⟩)]
  | false =>
    refine decide_eq_false fun z => ?_
    have := (List.mem_filter.mp z).2
    rw [e] at this; cases this
theorem ofB_lt (bs : List Bool) : ofB bs < 2 ^ bs.length := setOf_lt fun k hk => by
  have := (List.mem_filter.mp hk).1
  simpa using this
theorem getD_snoc {bs : List Bool} {b : Bool} {i : Nat} : (bs ++ [b]).getD i false = (bs.getD i false || (decide (bs.length = i) && b)) := by
  rw [List.getD_eq_getElem?_getD, List.getD_eq_getElem?_getD]
  rcases Nat.lt_trichotomy i bs.length with h | h | h
  · rw [List.getElem?_append_left h]
    have : ¬ bs.length = i := by omega
    simp [this]
  · subst h; simp
  · rw [List.getElem?_eq_none_iff.mpr (by simp; omega), List.getElem?_eq_none_iff.mpr (show bs.length ≤ i by omega)]
    have : ¬ bs.length = i := by omega
    simp [this]
theorem ofB_t {bs : List Bool} : ofB (bs ++ [true]) = ofB bs ||| 2 ^ bs.length := Nat.eq_of_testBit_eq fun i => by
  rw [testBit_ofB, getD_snoc, Nat.testBit_or, testBit_ofB, testBit_pow, Bool.and_true]
theorem ofB_f {bs : List Bool} : ofB (bs ++ [false]) = ofB bs := Nat.eq_of_testBit_eq fun i => by
  rw [testBit_ofB, getD_snoc, testBit_ofB, Bool.and_false, Bool.or_false]
theorem bit_and {A k : Nat} : decide (((A / 2 ^ k &&& 1 : Nat) : Int) = 1) = A.testBit k := by
  rw [Nat.and_one_is_mod, Nat.testBit_eq_decide_div_mod_eq]
  exact dec_nat (b := 1)
/-- the columns that a row of worths has -/
def flt : List (List Int) → List Int → List Bool
  | r :: ss, w :: ws => (r.map fun x => decide (x ≤ w)) ++ flt ss ws
  | _, _ => []
theorem flt_len : ∀ {ss : List (List Int)} {ws : List Int}, ss.length ≤ ws.length → (flt ss ws).length = wid ss
  | [], _, _ => rfl
  | r :: ss, [], h => absurd h (by simp)
  | r :: ss, w :: ws, h => by
    have := flt_len (ss := ss) (ws := ws) (by simpa using h)
    simp [flt, wid, this]
theorem flt_take : ∀ {ss : List (List Int)} {ws : List Int} {i : Nat} (hi : i < ss.length) (hj : i < ws.length), flt (ss.take (i + 1)) (ws.take (i + 1)) = flt (ss.take i) (ws.take i) ++ (ss[i].map fun x => decide (x ≤ ws[i]))
  | [], _, _, h, _ => absurd h (by simp)
  | _ :: _, [], _, _, h => absurd h (by simp)
  | r :: ss, w :: ws, 0, _, _ => by simp [flt]
  | r :: ss, w :: ws, i + 1, h, h' => by
    have := flt_take (ss := ss) (ws := ws) (i := i) (by simpa using h) (by simpa using h')
    simp only [List.take_succ_cons, flt, List.getElem_cons_succ, this, List.append_assoc]
theorem flt_of_le {ss : List (List Int)} {ws : List Int} (h : ss.length ≤ ws.length) : flt (ss.take ss.length) (ws.take ss.length) = flt ss ws := by
  rw [List.take_length]
  induction ss generalizing ws with
  | nil => cases ws <;> rfl
  | cons r ss ih =>
    cases ws with
    | nil => simp at h
    | cons w ws => simp only [List.length_cons, List.take_succ_cons, flt]; rw [ih (by simpa using h)]
/-- the last step of a row that a mask holds -/
def lastS (A : Nat) : Nat → List Int → Int → Int
  | _, [], m => m
  | c, x :: r, m => lastS A (c + 1) r (if A.testBit c then x else m)
theorem lastS_snoc (A : Nat) : ∀ (c : Nat) (r : List Int) (x m : Int), lastS A c (r ++ [x]) m = if A.testBit (c + r.length) then x else lastS A c r m
  | c, [], x, m => by simp [lastS]
  | c, y :: r, x, m => by
    show lastS A (c + 1) (r ++ [x]) _ = _
    rw [lastS_snoc A (c + 1) r x]
    rw [show c + 1 + r.length = c + (y :: r).length by simp; omega]
    rfl
def gst (A : Nat) : Nat → List (List Int) → List Int
  | _, [] => []
  | c, r :: ss => lastS A c r 0 :: gst A (c + r.length) ss
theorem gst_len (A : Nat) : ∀ (c : Nat) (ss : List (List Int)), (gst A c ss).length = ss.length
  | _, [] => rfl
  | c, r :: ss => by simp [gst, gst_len A]
theorem wid_snoc (ss : List (List Int)) (r : List Int) : wid (ss ++ [r]) = wid ss + r.length := by simp [wid]
theorem wid_take {ss : List (List Int)} {i : Nat} (h : i < ss.length) : wid (ss.take (i + 1)) = wid (ss.take i) + ss[i].length := by
  rw [take_succ_at _ _ h, wid_snoc]
theorem wid_mem {ss : List (List Int)} {r : List Int} (h : r ∈ ss) : r.length ≤ wid ss := by
  induction ss with
  | nil => cases h
  | cons q ss ih =>
    have e : wid (q :: ss) = q.length + wid ss := by simp [wid]
    rcases List.mem_cons.mp h with rfl | z
    · omega
    · have := ih z
      omega
theorem wid_take_le (ss : List (List Int)) (i : Nat) : wid (ss.take i) ≤ wid ss := by
  have e : wid ss = wid (ss.take i) + wid (ss.drop i) := by
    conv => lhs; rw [← List.take_append_drop i ss]
    unfold wid
    rw [List.map_append, List.sum_append]
  omega
theorem gst_snoc (A : Nat) : ∀ (c : Nat) (ss : List (List Int)) (r : List Int), gst A c (ss ++ [r]) = gst A c ss ++ [lastS A (c + wid ss) r 0]
  | c, [], r => by simp [gst, wid]
  | c, q :: ss, r => by
    show _ :: gst A (c + q.length) (ss ++ [r]) = _
    rw [gst_snoc A (c + q.length) ss r]
    simp [gst, wid, Nat.add_assoc]
def leL : List Int → List Int → Prop
  | g :: gs, w :: ws => g ≤ w ∧ leL gs ws
  | _, _ => True
theorem leL_iff : ∀ {gs ws : List Int}, gs.length = ws.length → (leL gs ws ↔ ∀ t, t < gs.length → gs.getD t 0 ≤ ws.getD t 0)
  | [], [], _ => by simp [leL]
  | [], _ :: _, h => by simp at h
  | _ :: _, [], h => by simp at h
  | g :: gs, w :: ws, h => by
    have ih := leL_iff (gs := gs) (ws := ws) (by simpa using h)
    unfold leL
    rw [ih]
    constructor
    · rintro ⟨h1, h2⟩ t ht
      cases t with
      | zero => simpa using h1
      | succ t => simpa using h2 t (by simpa using ht)
    · intro h'
      exact ⟨by simpa using h' 0 (by simp), fun t ht => by simpa using h' (t + 1) (by simpa using ht)⟩
theorem leL_trans : ∀ {a b c : List Int}, b.length = c.length → leL a b → leL b c → leL a c
  | [], _, _, _, _, _ => by simp [leL]
  | _ :: _, [], c, h, _, _ => by
    cases c with
    | nil => simp [leL]
    | cons _ _ => simp at h
  | x :: a, y :: b, [], h, _, _ => by simp at h
  | x :: a, y :: b, z :: c, h, h1, h2 => ⟨Int.le_trans h1.1 h2.1, leL_trans (by simpa using h) h1.2 h2.2⟩
/-- rows of steps: rising, from 1 on -/
def Steps (ss : List (List Int)) : Prop := ∀ r ∈ ss, r.Pairwise (· < ·) ∧ ∀ x ∈ r, 1 ≤ x ∧ x < 1000000000000000000
theorem lastS_le (A : Nat) {w : Int} : ∀ (c : Nat) (r : List Int) (m : Int), r.Pairwise (· < ·) → (∀ x ∈ r, m ≤ x) → (lastS A c r m ≤ w ↔ m ≤ w ∧ ∀ (j : Nat) (h : j < r.length), A.testBit (c + j) = true → r[j] ≤ w)
  | c, [], m, _, _ => by simp [lastS]
  | c, x :: r, m, hp, hm => by
    obtain ⟨h1, h2⟩ := List.pairwise_cons.mp hp
    have ih := lastS_le A (w := w) (c + 1) r (if A.testBit c then x else m) h2 (fun y hy => by
      split
      · exact Int.le_of_lt (h1 y hy)
      · exact hm y (List.mem_cons_of_mem _ hy))
    show lastS A (c + 1) r _ ≤ w ↔ _
    rw [ih]
    have hmx := hm x (by simp)
    constructor
    · rintro ⟨q1, q2⟩
      refine ⟨?_, fun j hj hb => ?_⟩
      · split at q1 <;> omega
      · cases j with
        | zero => rw [Nat.add_zero] at hb; rw [if_pos hb] at q1; exact q1
        | succ j => exact q2 j (by simpa using hj) (by rw [← hb]; congr 1; omega)
    · rintro ⟨q1, q2⟩
      refine ⟨?_, fun j hj hb => ?_⟩
      · split
        · rename_i hb; exact q2 0 (by simp) hb
        · exact q1
      · exact q2 (j + 1) (by simpa using hj) (by rw [← hb]; congr 1; omega)
theorem flt_gst (A : Nat) : ∀ (c : Nat) (ss : List (List Int)) (ws : List Int), Steps ss → (∀ w ∈ ws, 0 ≤ w) → ss.length = ws.length →
    ((∀ i, i < wid ss → A.testBit (c + i) = true → (flt ss ws).getD i false = true) ↔ leL (gst A c ss) ws)
  | c, [], ws, _, _, _ => by simp [wid, gst, leL]
  | c, r :: ss, [], _, _, h => by simp at h
  | c, r :: ss, w :: ws, hs, hw, h => by
    have ih := flt_gst A (c + r.length) ss ws (fun q hq => hs q (List.mem_cons_of_mem _ hq)) (fun x hx => hw x (List.mem_cons_of_mem _ hx)) (by simpa using h)
    obtain ⟨hr1, hr2⟩ := hs r (by simp)
    have hl := lastS_le A (w := w) c r 0 hr1 (fun x hx => by have := (hr2 x hx).1; omega)
    show _ ↔ lastS A c r 0 ≤ w ∧ leL (gst A (c + r.length) ss) ws
    rw [hl, ← ih]
    have hw0 := hw w (by simp)
    have g1 : ∀ j, (hj : j < r.length) → (flt (r :: ss) (w :: ws)).getD j false = decide (r[j] ≤ w) := fun j hj => by
      rw [List.getD_eq_getElem?_getD]
      show (((r.map fun x => decide (x ≤ w)) ++ flt ss ws)[j]?).getD false = _
      rw [List.getElem?_append_left (by simpa using hj)]
      simp [hj]
    have g2 : ∀ j, (flt (r :: ss) (w :: ws)).getD (r.length + j) false = (flt ss ws).getD j false := fun j => by
      rw [List.getD_eq_getElem?_getD, List.getD_eq_getElem?_getD]
      show (((r.map fun x => decide (x ≤ w)) ++ flt ss ws)[r.length + j]?).getD false = _
      rw [List.getElem?_append_right (by simp)]
      simp
    have ew : wid (r :: ss) = r.length + wid ss := by simp [wid]
    constructor
    · intro q
      refine ⟨⟨hw0, fun j hj hb => ?_⟩, fun i hi hb => ?_⟩
      · have := q j (by omega) hb
        rw [g1 j hj] at this
        exact of_decide_eq_true this
      · rw [← g2]
        exact q (r.length + i) (by omega) (by rw [← hb]; congr 1; omega)
    · rintro ⟨⟨_, q1⟩, q2⟩ i hi hb
      rcases Nat.lt_or_ge i r.length with z | z
      · rw [g1 i z]
        exact decide_eq_true (q1 i z hb)
      · obtain ⟨j, rfl⟩ : ∃ j, i = r.length + j := ⟨i - r.length, by omega⟩
        rw [g2]
        exact q2 j (by omega) (by rw [← hb]; congr 1; omega)
theorem sub_flt {A : Nat} {ss : List (List Int)} {ws : List Int} (hA : A < 2 ^ wid ss) (hs : Steps ss) (hw : ∀ w ∈ ws, 0 ≤ w) (h : ss.length = ws.length) : sub A (ofB (flt ss ws)) = true ↔ leL (gst A 0 ss) ws := by
  rw [← flt_gst A 0 ss ws hs hw h, sub_true]
  constructor
  · intro q i _ hb
    rw [← testBit_ofB]
    exact q i (by rw [← hb]; congr 1; omega)
  · intro q i hb
    have hi : i < wid ss := by
      rcases Nat.lt_or_ge i (wid ss) with z | z
      · exact z
      · rw [testBit_ge hA z] at hb; cases hb
    rw [testBit_ofB]
    exact q i hi (by rw [← hb]; congr 1; omega)
/-- a row of gaps -/
def Gaps (n : Nat) (r : List (Int × Int)) : Prop := r.length = n ∧ ∀ c ∈ r, 0 ≤ c.1 ∧ c.1 ≤ c.2 ∧ c.2 < 1000000000000000000
def Within (ws : List Int) (r : List (Int × Int)) : Prop := ws.length = r.length ∧ ∀ t, t < r.length → (r.getD t (0, 0)).1 ≤ ws.getD t 0 ∧ ws.getD t 0 ≤ (r.getD t (0, 0)).2
def los (r : List (Int × Int)) : List Int := r.map (·.1)
def his (r : List (Int × Int)) : List Int := r.map (·.2)
theorem los_at (r : List (Int × Int)) (t : Nat) : (los r).getD t 0 = (r.getD t (0, 0)).1 := by
  unfold los; rw [List.getD_eq_getElem?_getD, List.getD_eq_getElem?_getD, List.getElem?_map]; cases r[t]? <;> rfl
theorem his_at (r : List (Int × Int)) (t : Nat) : (his r).getD t 0 = (r.getD t (0, 0)).2 := by
  unfold his; rw [List.getD_eq_getElem?_getD, List.getD_eq_getElem?_getD, List.getElem?_map]; cases r[t]? <;> rfl
theorem getD_mem {α : Type} {r : List α} {d : α} {t : Nat} (h : t < r.length) : r.getD t d ∈ r := by rw [getD_at _ _ _ h]; exact List.getElem_mem h
theorem within_los {n : Nat} {r : List (Int × Int)} (h : Gaps n r) : Within (los r) r := ⟨by simp [los], fun t ht => by
  rw [los_at]; exact ⟨Int.le_refl _, (h.2 _ (getD_mem ht)).2.1⟩⟩
theorem within_his {n : Nat} {r : List (Int × Int)} (h : Gaps n r) : Within (his r) r := ⟨by simp [his], fun t ht => by
  rw [his_at]; exact ⟨(h.2 _ (getD_mem ht)).2.1, Int.le_refl _⟩⟩
theorem within_nn {n : Nat} {r : List (Int × Int)} {ws : List Int} (h : Gaps n r) (hw : Within ws r) : ∀ w ∈ ws, 0 ≤ w := fun w hm => by
  obtain ⟨t, ht, rfl⟩ := List.mem_iff_getElem.mp hm
  have h1 := hw.2 t (by rw [← hw.1]; exact ht)
  have h2 := (h.2 _ (getD_mem (d := (0, 0)) (show t < r.length by rw [← hw.1]; exact ht))).1
  rw [getD_at _ _ _ ht] at h1
  omega
theorem within_le {r : List (Int × Int)} {ws : List Int} (hw : Within ws r) : leL (los r) ws ∧ leL ws (his r) := by
  rw [leL_iff (by simp [los, hw.1]), leL_iff (by simp [his, hw.1])]
  refine ⟨fun t ht => ?_, fun t ht => ?_⟩
  · rw [los_at]; exact (hw.2 t (by simpa [los] using ht)).1
  · rw [his_at]; exact (hw.2 t (by rw [← hw.1]; exact ht)).2
theorem within_snoc {q : List Int} {r : List (Int × Int)} {j : Nat} {v : Int} (h : Within q (r.take j)) (hj : j < r.length) (h1 : (r[j]).1 ≤ v) (h2 : v ≤ (r[j]).2) : Within (q ++ [v]) (r.take (j + 1)) := by
  have hq : q.length = j := by rw [h.1, List.length_take]; omega
  refine ⟨by simp; omega, fun t ht => ?_⟩
  rw [List.length_take] at ht
  have e1 : (r.take (j + 1)).getD t (0, 0) = r.getD t (0, 0) := by
    rw [List.getD_eq_getElem?_getD, List.getD_eq_getElem?_getD, List.getElem?_take, if_pos (by omega)]
  rw [e1]
  rcases Nat.lt_or_ge t j with w | w
  · have h3 := h.2 t (by rw [List.length_take]; omega)
    have e2 : (r.take j).getD t (0, 0) = r.getD t (0, 0) := by
      rw [List.getD_eq_getElem?_getD, List.getD_eq_getElem?_getD, List.getElem?_take, if_pos (by omega)]
    rw [e2] at h3
    rw [show (q ++ [v]).getD t 0 = q.getD t 0 by rw [List.getD_eq_getElem?_getD, List.getD_eq_getElem?_getD, List.getElem?_append_left (by omega)]]
    exact h3
  · have ht2 : t = j := by omega
    subst ht2
    rw [show (q ++ [v]).getD t 0 = v by rw [List.getD_eq_getElem?_getD, List.getElem?_append_right (by omega), hq]; simp, getD_at _ _ _ hj]
    exact ⟨h1, h2⟩
/-- the least worths in the gaps that reach the steps ahead -/
def wor (r : List (Int × Int)) (ah : List Int) : List Int := List.zipWith (fun c a => max c.1 a) r ah
theorem wor_len {r : List (Int × Int)} {ah : List Int} (h : r.length = ah.length) : (wor r ah).length = r.length := by simp [wor, h]
theorem wor_at {r : List (Int × Int)} {ah : List Int} {t : Nat} (h : r.length = ah.length) (ht : t < r.length) : (wor r ah).getD t 0 = max (r.getD t (0, 0)).1 (ah.getD t 0) := by
  unfold wor
  rw [getD_at _ _ _ (by simp; omega), getD_at _ _ _ ht, getD_at _ _ _ (by omega)]
  simp
def Fil (f : List (List Int)) (cs : List (List (Int × Int))) : Prop := f.length = cs.length ∧ ∀ k, (h : k < f.length) → (h' : k < cs.length) → Within f[k] cs[k]
theorem fil_snoc {fs : List (List Int)} {cs : List (List (Int × Int))} {i : Nat} {q : List Int} (h : Fil fs (cs.take i)) (hi : i < cs.length) (hq : Within q cs[i]) : Fil (fs ++ [q]) (cs.take (i + 1)) := by
  have hl : fs.length = i := by rw [h.1, List.length_take]; omega
  refine ⟨by simp; omega, fun k h1 h2 => ?_⟩
  rw [List.getElem_take]
  rcases Nat.lt_or_ge k i with w | w
  · have := h.2 k (by omega) (by rw [List.length_take]; omega)
    rw [List.getElem_take] at this
    rw [List.getElem_append_left (by omega)]
    exact this
  · have : k = i := by simp at h1; omega
    subst this
    rw [List.getElem_append_right (by omega)]
    simp only [hl, Nat.sub_self, List.getElem_singleton]
    exact hq
def Bad (r : List (Int × Int)) (ah be : List Int) : Prop := leL (wor r ah) (his r) ∧ ¬ leL be (wor r ah)
section
variable {n A B : Nat} {ss : List (List Int)} {r : List (Int × Int)} (hs : Steps ss) (hA : A < 2 ^ wid ss) (hB : B < 2 ^ wid ss) (hr : Gaps ss.length r)
include hs hA hB hr
theorem bad_within (h : Bad r (gst A 0 ss) (gst B 0 ss)) : Within (wor r (gst A 0 ss)) r := by
  have e : r.length = (gst A 0 ss).length := by rw [gst_len, hr.1]
  refine ⟨wor_len e, fun t ht => ⟨by rw [wor_at e ht]; omega, ?_⟩⟩
  rw [← his_at]
  exact (leL_iff (by rw [wor_len e]; simp [his])).mp h.1 t (by rw [wor_len e]; exact ht)
theorem bad_brk (h : Bad r (gst A 0 ss) (gst B 0 ss)) : brk (ofB (flt ss (wor r (gst A 0 ss)))) (A, B) = true := by
  have e : r.length = (gst A 0 ss).length := by rw [gst_len, hr.1]
  have hw := within_nn hr (bad_within hs hA hB hr h)
  have hl : ss.length = (wor r (gst A 0 ss)).length := by rw [wor_len e, hr.1]
  rw [brk_iff]
  refine ⟨(sub_flt hA hs hw hl).mpr ?_, ?_⟩
  · rw [leL_iff (by rw [gst_len, hl])]
    intro t ht
    rw [wor_at e (by omega)]
    omega
  · cases z : sub B (ofB (flt ss (wor r (gst A 0 ss)))) with
    | false => rfl
    | true => exact absurd ((sub_flt hB hs hw hl).mp z) h.2
theorem not_bad {ws : List Int} (hw : Within ws r) (h : ¬ Bad r (gst A 0 ss) (gst B 0 ss)) : brk (ofB (flt ss ws)) (A, B) = false := by
  have e : r.length = (gst A 0 ss).length := by rw [gst_len, hr.1]
  have hn := within_nn hr hw
  have hl : ss.length = ws.length := by rw [hw.1, hr.1]
  cases z : brk (ofB (flt ss ws)) (A, B) with
  | false => rfl
  | true =>
    obtain ⟨b1, b2⟩ := brk_iff.mp z
    have a1 := (sub_flt hA hs hn hl).mp b1
    have le : leL (wor r (gst A 0 ss)) ws := by
      rw [leL_iff (by rw [wor_len e, hw.1])]
      intro t ht
      rw [wor_len e] at ht
      rw [wor_at e ht]
      have x1 := (hw.2 t ht).1
      have x2 := (leL_iff (by rw [gst_len, hl])).mp a1 t (by omega)
      omega
    refine absurd ⟨leL_trans (by rw [hw.1]; simp [his]) le (within_le hw).2, fun hb => ?_⟩ h
    have := (sub_flt hB hs hn hl).mpr (leL_trans (by rw [wor_len e, hw.1]) hb le)
    rw [this] at b2; cases b2
/-- no row in the gaps keeps the rule -/
def Lost (r : List (Int × Int)) (ah be : List Int) : Prop := leL ah (los r) ∧ ¬ leL be (his r)
theorem lost_brk {ws : List Int} (hw : Within ws r) (h : Lost r (gst A 0 ss) (gst B 0 ss)) : brk (ofB (flt ss ws)) (A, B) = true := by
  have hn := within_nn hr hw
  have hl : ss.length = ws.length := by rw [hw.1, hr.1]
  rw [brk_iff]
  refine ⟨(sub_flt hA hs hn hl).mpr (leL_trans (by simp [los, hw.1]) h.1 (within_le hw).1), ?_⟩
  cases z : sub B (ofB (flt ss ws)) with
  | false => rfl
  | true => exact absurd (leL_trans (by rw [hw.1]; simp [his]) ((sub_flt hB hs hn hl).mp z) (within_le hw).2) h.2
theorem kept_lo (h : ¬ leL (gst A 0 ss) (los r)) : brk (ofB (flt ss (los r))) (A, B) = false := by
  cases z : brk (ofB (flt ss (los r))) (A, B) with
  | false => rfl
  | true => exact absurd ((sub_flt hA hs (within_nn hr (within_los hr)) (by simp [los, hr.1])).mp (brk_iff.mp z).1) h
theorem kept_hi (h : leL (gst B 0 ss) (his r)) : brk (ofB (flt ss (his r))) (A, B) = false := by
  cases z : brk (ofB (flt ss (his r))) (A, B) with
  | false => rfl
  | true =>
    have := (sub_flt hB hs (within_nn hr (within_his hr)) (by simp [his, hr.1])).mpr h
    rw [(brk_iff.mp z).2] at this
    cases this
end
end Tq
set_option Elab.async false
set_option linter.all false
set_option autoImplicit false
set_option maxHeartbeats 4000000
namespace Tq
open PySem PySem.Spec L2
/-! ### the sets of columns that a row of gaps may have -/
def pk (at_ k : Nat) : Nat := ofB (List.replicate at_ false ++ List.replicate k true)
theorem pk_zero (at_ : Nat) : pk at_ 0 = 0 := Nat.eq_of_testBit_eq fun i => by
  unfold pk
  rw [testBit_ofB, List.replicate_zero, List.append_nil, Nat.zero_testBit, List.getD_eq_getElem?_getD, List.getElem?_replicate]
  split <;> rfl
theorem pk_succ (at_ k : Nat) : pk at_ (k + 1) = pk at_ k ||| 2 ^ (at_ + k) := by
  unfold pk
  rw [List.replicate_succ', ← List.append_assoc, ofB_t]
  simp
theorem testBit_pk (at_ k i : Nat) : (pk at_ k).testBit i = decide (at_ ≤ i ∧ i < at_ + k) := by
  induction k with
  | zero => rw [pk_zero, Nat.zero_testBit]; symm; rw [decide_eq_false_iff_not]; omega
  | succ k ih =>
    rw [pk_succ, Nat.testBit_or, ih, testBit_pow, Bool.eq_iff_iff]
    simp only [Bool.or_eq_true, decide_eq_true_eq]
    omega
theorem ofB_parts (bs : List Bool) (j n : Nat) : ofB (bs ++ (List.replicate j true ++ List.replicate n false)) = ofB bs ||| pk bs.length j := Nat.eq_of_testBit_eq fun i => by
  rw [Nat.testBit_or, testBit_ofB, testBit_ofB, testBit_pk]
  rw [List.getD_eq_getElem?_getD, List.getD_eq_getElem?_getD]
  rcases Nat.lt_or_ge i bs.length with h | h
  · rw [List.getElem?_append_left h]
    have : ¬ (bs.length ≤ i ∧ i < bs.length + j) := by omega
    rw [decide_eq_false this, Bool.or_false]
  · rw [List.getElem?_append_right h, List.getElem?_eq_none_iff.mpr h, Option.getD_none, Bool.false_or]
    rcases Nat.lt_or_ge (i - bs.length) j with g | g
    · rw [List.getElem?_append_left (by simpa using g), List.getElem?_replicate, if_pos g]
      rw [decide_eq_true (by omega)]; rfl
    · rw [List.getElem?_append_right (by simpa using g), List.getElem?_replicate]
      rw [decide_eq_false (by omega)]
      split <;> rfl
/-- k steps at a worth or below -/
def Rung (r : List Int) (w : Int) (k : Nat) : Prop := k ≤ r.length ∧ (∀ t, (h : t < r.length) → t < k → r[t] ≤ w) ∧ ∀ t, (h : t < r.length) → k ≤ t → w < r[t]
theorem rung_map {r : List Int} {w : Int} {k : Nat} (h : Rung r w k) : (r.map fun x => decide (x ≤ w)) = List.replicate k true ++ List.replicate (r.length - k) false := by
  obtain ⟨h1, h2, h3⟩ := h
  refine List.ext_getElem (by simp; omega) fun t ht _ => ?_
  rw [List.length_map] at ht
  rw [List.getElem_map]
  rcases Nat.lt_or_ge t k with g | g
  · rw [List.getElem_append_left (by simpa using g), List.getElem_replicate]
    exact decide_eq_true (h2 t ht g)
  · rw [List.getElem_append_right (by simpa using g), List.getElem_replicate]
    exact decide_eq_false (by have := h3 t ht g; omega)
theorem rung_ex {r : List Int} (hp : r.Pairwise (· < ·)) (w : Int) : ∃ k, Rung r w k := by
  induction r with
  | nil => exact ⟨0, Nat.le_refl _, fun t h => by simp at h, fun t h => by simp at h⟩
  | cons x r ih =>
    obtain ⟨p1, p2⟩ := List.pairwise_cons.mp hp
    by_cases hx : x ≤ w
    · obtain ⟨k, k1, k2, k3⟩ := ih p2
      refine ⟨k + 1, by simpa using k1, fun t h ht => ?_, fun t h ht => ?_⟩
      · cases t with
        | zero => exact hx
        | succ t => exact k2 t (by simpa using h) (by omega)
      · cases t with
        | zero => omega
        | succ t => exact k3 t (by simpa using h) (by omega)
    · refine ⟨0, by simp, fun t h ht => by omega, fun t h _ => ?_⟩
      cases t with
      | zero => exact Int.not_le.mp hx
      | succ t =>
        have ht : t < r.length := by simpa using h
        have := p1 r[t] (List.getElem_mem _)
        show w < r[t]
        omega
theorem rising_at {r : List Int} (hp : r.Pairwise (· < ·)) {a b : Nat} (hab : a ≤ b) (hb : b < r.length) : r[a]'(by omega) ≤ r[b] := by
  rcases Nat.lt_or_ge a b with h | h
  · exact Int.le_of_lt (List.pairwise_iff_getElem.mp hp a b (by omega) hb h)
  · have : a = b := by omega
    subst this; exact Int.le_refl _
/-- the rungs that a gap may reach -/
def okR (r : List Int) (c : Int × Int) (k : Nat) : Bool := (decide (k = r.length) || decide (c.1 < r.getD k 0)) && (decide (k = 0) || decide (r.getD (k - 1) 0 ≤ c.2))
theorem okR_of {r : List Int} {c : Int × Int} {w : Int} {k : Nat} (h : Rung r w k) (h1 : c.1 ≤ w) (h2 : w ≤ c.2) : okR r c k = true := by
  obtain ⟨g1, g2, g3⟩ := h
  unfold okR
  simp only [Bool.and_eq_true, Bool.or_eq_true, decide_eq_true_eq]
  refine ⟨?_, ?_⟩
  · rcases Nat.lt_or_ge k r.length with z | z
    · rw [getD_at _ _ _ z]
      have := g3 k z (Nat.le_refl _)
      right; omega
    · left; omega
  · rcases Nat.eq_zero_or_pos k with z | z
    · exact .inl z
    · rw [getD_at _ _ _ (show k - 1 < r.length by omega)]
      have := g2 (k - 1) (by omega) (by omega)
      right; omega
theorem okR_ex {r : List Int} {c : Int × Int} {k : Nat} (hp : r.Pairwise (· < ·)) (hc : c.1 ≤ c.2) (hk : k ≤ r.length) (h : okR r c k = true) : ∃ w, c.1 ≤ w ∧ w ≤ c.2 ∧ Rung r w k := by
  unfold okR at h
  simp only [Bool.and_eq_true, Bool.or_eq_true, decide_eq_true_eq] at h
  obtain ⟨h1, h2⟩ := h
  rcases Nat.eq_zero_or_pos k with z | z
  · subst z
    refine ⟨c.1, Int.le_refl _, hc, Nat.zero_le _, fun t _ h => by omega, fun t ht _ => ?_⟩
    have h3 : c.1 < r.getD 0 0 := h1.resolve_left (by omega)
    rw [getD_at _ _ _ (by omega)] at h3
    have := rising_at hp (Nat.zero_le t) ht
    omega
  · have h4 : r.getD (k - 1) 0 ≤ c.2 := h2.resolve_left (by omega)
    rw [getD_at _ _ _ (show k - 1 < r.length by omega)] at h4
    refine ⟨max c.1 (r[k - 1]'(by omega)), by omega, by omega, hk, fun t ht htk => ?_, fun t ht hkt => ?_⟩
    · have := rising_at hp (show t ≤ k - 1 by omega) (by omega)
      omega
    · have h3 : c.1 < r.getD k 0 := h1.resolve_left (by omega)
      rw [getD_at _ _ _ (show k < r.length by omega)] at h3
      have a1 := rising_at hp hkt ht
      have a2 := List.pairwise_iff_getElem.mp hp (k - 1) k (by omega) (by omega) (by omega)
      omega
/-- the masks that rows within the gaps have -/
def Sets (ss : List (List Int)) (r : List (Int × Int)) (ms : List Nat) : Prop := (∀ m ∈ ms, ∃ ws, Within ws r ∧ m = ofB (flt ss ws)) ∧ ∀ ws, Within ws r → ofB (flt ss ws) ∈ ms
theorem flt_snoc {ss : List (List Int)} {ws : List Int} {s : List Int} {w : Int} (h : ss.length = ws.length) : flt (ss ++ [s]) (ws ++ [w]) = flt ss ws ++ s.map fun x => decide (x ≤ w) := by
  induction ss generalizing ws with
  | nil =>
    cases ws with
    | nil => simp [flt]
    | cons _ _ => simp at h
  | cons a ss ih =>
    cases ws with
    | nil => simp at h
    | cons b ws =>
      simp only [List.cons_append, flt]
      rw [ih (by simpa using h), List.append_assoc]
theorem within_cut {q : List Int} {r : List (Int × Int)} {j : Nat} (h : Within q (r.take (j + 1))) (hj : j < r.length) : ∃ q' v, q = q' ++ [v] ∧ Within q' (r.take j) ∧ (r[j]).1 ≤ v ∧ v ≤ (r[j]).2 := by
  have hq : q.length = j + 1 := by rw [h.1, List.length_take]; omega
  refine ⟨q.take j, q[j]'(by omega), ?_, ⟨by simp; omega, fun t ht => ?_⟩, ?_⟩
  · rw [← take_succ_at q j (by omega)]
    exact (List.take_of_length_le (by omega)).symm
  · rw [List.length_take] at ht
    have h3 := h.2 t (by rw [List.length_take]; omega)
    have e1 : (r.take (j + 1)).getD t (0, 0) = r.getD t (0, 0) := by
      rw [List.getD_eq_getElem?_getD, List.getD_eq_getElem?_getD, List.getElem?_take, if_pos (by omega)]
    have e2 : (r.take j).getD t (0, 0) = r.getD t (0, 0) := by
      rw [List.getD_eq_getElem?_getD, List.getD_eq_getElem?_getD, List.getElem?_take, if_pos (by omega)]
    have e3 : (q.take j).getD t 0 = q.getD t 0 := by
      rw [List.getD_eq_getElem?_getD, List.getD_eq_getElem?_getD, List.getElem?_take, if_pos (by omega)]
    rw [e2, e3]
    rw [e1] at h3
    exact h3
  · have h3 := h.2 j (by rw [List.length_take]; omega)
    have e1 : (r.take (j + 1)).getD j (0, 0) = r.getD j (0, 0) := by
      rw [List.getD_eq_getElem?_getD, List.getD_eq_getElem?_getD, List.getElem?_take, if_pos (by omega)]
    rw [e1, getD_at _ _ _ hj, getD_at _ _ _ (by omega)] at h3
    exact h3
theorem flat_bls {bs : List Bool} : (bs.map Dt.bl).all Dt.flat = true := by simp [Dt.flat]
theorem inD_bls {b : Bool} {bs : List Bool} : inD (.bl b) (bs.map Dt.bl) = decide (b ∈ bs) := by
  unfold inD inV
  induction bs with
  | nil => rfl
  | cons a r ih =>
    have e : eqV (Dt.bl a).toV (Dt.bl b).toV = (a == b) := by cases a <;> cases b <;> rfl
    rw [List.map_cons, List.map_cons, List.any_cons, ih, e]
    cases a <;> cases b <;> simp
section
variable {A B : Nat} {ss : List (List Int)} {r : List (Int × Int)} {ms : List Nat} (hs : Steps ss) (hA : A < 2 ^ wid ss) (hB : B < 2 ^ wid ss) (hr : Gaps ss.length r) (hm : Sets ss r ms)
include hs hA hB hr hm
theorem sets_bad : true ∈ ms.map (fun m => brk m (A, B)) ↔ Bad r (gst A 0 ss) (gst B 0 ss) := by
  rw [List.mem_map]
  constructor
  · rintro ⟨m, h1, h2⟩
    obtain ⟨ws, hw, rfl⟩ := hm.1 m h1
    exact Classical.byContradiction fun z => by rw [not_bad hs hA hB hr hw z] at h2; cases h2
  · exact fun h => ⟨_, hm.2 _ (bad_within hs hA hB hr h), bad_brk hs hA hB hr h⟩
theorem sets_lost : false ∈ ms.map (fun m => brk m (A, B)) ↔ ¬ Lost r (gst A 0 ss) (gst B 0 ss) := by
  rw [List.mem_map]
  constructor
  · rintro ⟨m, h1, h2⟩ h3
    obtain ⟨ws, hw, rfl⟩ := hm.1 m h1
    rw [lost_brk hs hA hB hr hw h3] at h2; cases h2
  · intro h
    by_cases h1 : leL (gst A 0 ss) (los r)
    · by_cases h2 : leL (gst B 0 ss) (his r)
      · exact ⟨_, hm.2 _ (within_his hr), kept_hi hs hA hB hr h2⟩
      · exact absurd ⟨h1, h2⟩ h
    · exact ⟨_, hm.2 _ (within_los hr), kept_lo hs hA hB hr h1⟩
end
def rungs (s : List Int) (c : Int × Int) (n : Nat) : List Nat := (List.range n).filter (okR s c)
def growM (ms : List Nat) (ps : List Nat) : List Nat := ms.flatMap fun m => ps.map fun p => m ||| p
theorem sets_snoc {ss : List (List Int)} {r : List (Int × Int)} {ms : List Nat} {i : Nat} (hs : Steps ss) (hi : i < ss.length) (hir : i < r.length) (hr : ∀ c ∈ r, c.1 ≤ c.2) (h : Sets (ss.take i) (r.take i) ms) :
    Sets (ss.take (i + 1)) (r.take (i + 1)) (growM ms ((rungs ss[i] r[i] (ss[i].length + 1)).map (pk (wid (ss.take i))))) := by
  have hp := (hs _ (List.getElem_mem hi)).1
  have hc := hr _ (List.getElem_mem hir)
  have key : ∀ ws : List Int, Within ws (r.take i) → ∀ (w : Int) (k : Nat), Rung ss[i] w k → ofB (flt (ss.take (i + 1)) (ws ++ [w])) = ofB (flt (ss.take i) ws) ||| pk (wid (ss.take i)) k := fun ws hw w k hk => by
    have hl : (ss.take i).length = ws.length := by rw [hw.1, List.length_take, List.length_take]; omega
    rw [take_succ_at _ _ hi, flt_snoc hl, rung_map hk, ofB_parts, flt_len (by omega)]
  refine ⟨fun m hm => ?_, fun ws hw => ?_⟩
  · obtain ⟨m0, hm0, hm1⟩ := List.mem_flatMap.mp hm
    obtain ⟨p, hp2, rfl⟩ := List.mem_map.mp hm1
    obtain ⟨k, hk, rfl⟩ := List.mem_map.mp hp2
    obtain ⟨hk1, hk2⟩ := List.mem_filter.mp hk
    obtain ⟨w, hw1, hw2, hrg⟩ := okR_ex hp hc (by rw [List.mem_range] at hk1; omega) hk2
    obtain ⟨ws, hws, rfl⟩ := h.1 m0 hm0
    exact ⟨ws ++ [w], within_snoc hws hir hw1 hw2, (key ws hws w k hrg).symm⟩
  · obtain ⟨q, v, rfl, hq, hv1, hv2⟩ := within_cut hw hir
    obtain ⟨k, hk⟩ := rung_ex hp v
    rw [key q hq v k hk]
    refine List.mem_flatMap.mpr ⟨_, h.2 q hq, List.mem_map.mpr ⟨_, List.mem_map.mpr ⟨k, List.mem_filter.mpr ⟨?_, okR_of hk hv1 hv2⟩, rfl⟩, rfl⟩⟩
    rw [List.mem_range]
    have := hk.1
    omega
theorem rungs_succ (s : List Int) (c : Int × Int) (n : Nat) : rungs s c (n + 1) = rungs s c n ++ if okR s c n = true then [n] else [] := by
  unfold rungs
  rw [List.range_succ, List.filter_append]
  congr 1
  cases h : okR s c n <;> simp [h]
theorem rungs_len (s : List Int) (c : Int × Int) (n : Nat) : (rungs s c n).length ≤ n := by
  have := List.length_filter_le (okR s c) (List.range n)
  rw [List.length_range] at this
  exact this
theorem growM_len : ∀ (ms ps : List Nat), (growM ms ps).length = ms.length * ps.length
  | [], ps => by simp [growM]
  | m :: ms, ps => by
    have := growM_len ms ps
    unfold growM at this ⊢
    rw [List.flatMap_cons, List.length_append, this, List.length_map, List.length_cons, Nat.succ_mul]
    omega
theorem growM_snoc (ms ps : List Nat) (m : Nat) : growM (ms ++ [m]) ps = growM ms ps ++ ps.map fun p => m ||| p := by
  unfold growM
  rw [List.flatMap_append]
  simp
end Tq
set_option Elab.async false
set_option linter.all false
set_option autoImplicit false
set_option maxHeartbeats 4000000
namespace Tq
open PySem PySem.Spec L2
/-! ### the closed sets, grown row by row -/
theorem hav_take (rows : List Nat) (m i : Nat) (hi : i < rows.length) : hav (rows.take (i + 1)) m = if sub m rows[i] = true then hav (rows.take i) m ||| 2 ^ i else hav (rows.take i) m := by
  refine Nat.eq_of_testBit_eq fun k => ?_
  have key : ∀ j, j ≤ rows.length → (hav (rows.take j) m).testBit k = decide (k < j ∧ sub m (rows.getD k 0) = true) := by
    intro j hj
    rw [testBit_hav, List.length_take, Nat.min_eq_left hj]
    congr 1
    refine propext ⟨fun h => ⟨h.1, ?_⟩, fun h => ⟨h.1, ?_⟩⟩
    · have h2 := h.2
      rw [List.getD_eq_getElem?_getD, List.getElem?_take_of_lt h.1, ← List.getD_eq_getElem?_getD] at h2
      exact h2
    · rw [List.getD_eq_getElem?_getD, List.getElem?_take_of_lt h.1, ← List.getD_eq_getElem?_getD]
      exact h.2
  have e : rows.getD i 0 = rows[i] := by simp [List.getD_eq_getElem?_getD, hi]
  rw [key (i + 1) (by omega)]
  by_cases hs : sub m rows[i] = true
  · rw [if_pos hs, Nat.testBit_or, key i (by omega), testBit_pow, Bool.eq_iff_iff, Bool.or_eq_true, decide_eq_true_eq, decide_eq_true_eq, decide_eq_true_eq]
    constructor
    · rintro ⟨h1, h2⟩
      rcases Nat.lt_or_ge k i with z | z
      · exact .inl ⟨z, h2⟩
      · exact .inr (by omega)
    · rintro (⟨h1, h2⟩ | rfl)
      · exact ⟨by omega, h2⟩
      · exact ⟨by omega, by rw [e]; exact hs⟩
  · rw [if_neg hs, key i (by omega), Bool.eq_iff_iff, decide_eq_true_eq, decide_eq_true_eq]
    constructor
    · rintro ⟨h1, h2⟩
      rcases Nat.lt_or_ge k i with z | z
      · exact ⟨z, h2⟩
      · have : k = i := by omega
        subst this
        rw [e] at h2
        exact absurd h2 hs
    · rintro ⟨h1, h2⟩
      exact ⟨by omega, h2⟩
theorem clo_nil (w k : Nat) : clo [] w k = 2 ^ w - 1 := Nat.eq_of_testBit_eq fun i => by
  rw [testBit_clo, testBit_full]
  congr 1
  simp
theorem ideas_step {rows : List Nat} {w i k : Nat} (hi : i < rows.length) (hk : k < 2 ^ w) :
    clo (rows.take (i + 1)) w k = k ↔ clo (rows.take i) w k = k ∨ ∃ m, m < 2 ^ w ∧ clo (rows.take i) w m = m ∧ k = m &&& rows[i] := by
  rw [clo_take hi]
  constructor
  · intro h
    split at h
    · exact .inr ⟨clo (rows.take i) w k, clo_lt _ _ _, clo_idem _ _ _, h.symm⟩
    · exact .inl h
  · rintro (h | ⟨m, hm, hc, rfl⟩)
    · rw [h]
      split
      · rename_i hs
        have : sub k rows[i] = true := hs
        unfold sub at this
        exact of_decide_eq_true this
      · rfl
    · have hs : sub (m &&& rows[i]) rows[i] = true := and_sub_right _ _
      rw [if_pos hs]
      refine sub_antisymm (sub_true.mpr fun b hb => ?_) (sub_true.mpr fun b hb => ?_)
      · rw [Nat.testBit_and, Bool.and_eq_true] at hb ⊢
        have h1 := clo_mono (rows := rows.take i) (w := w) (and_sub_left m rows[i])
        rw [hc] at h1
        exact ⟨sub_true.mp h1 b hb.1, hb.2⟩
      · have h1 := sub_true.mp (clo_ext (rows := rows.take i) (w := w) hk) b hb
        rw [Nat.testBit_and, Bool.and_eq_true] at hb ⊢
        exact ⟨h1, hb.2⟩
end Tq
set_option Elab.async false
set_option linter.all false
set_option autoImplicit false
set_option maxHeartbeats 4000000
namespace Tq
open PySem PySem.Spec L2
/-! ### the order of the closed sets -/
def bel (p q : Nat × Nat) : Bool := !decide (p.2 = q.2) && sub p.1 q.1
theorem hav_anti {rows : List Nat} {a b : Nat} (h : sub a b = true) : sub (hav rows b) (hav rows a) = true := sub_true.mpr fun k hk => by
  rw [testBit_hav, decide_eq_true_eq] at hk ⊢
  exact ⟨hk.1, sub_trans h hk.2⟩
theorem hav_back {rows : List Nat} {w a b : Nat} (ha : clo rows w a = a) (hb : clo rows w b = b) (h : sub (hav rows b) (hav rows a) = true) : sub a b = true := by
  rw [← ha, ← hb]
  refine sub_true.mpr fun k hk => ?_
  rw [testBit_clo, decide_eq_true_eq] at hk ⊢
  refine ⟨hk.1, fun t ht hs => hk.2 t ht ?_⟩
  have h1 := sub_true.mp h t (by rw [testBit_hav, decide_eq_true_eq]; exact ⟨ht, hs⟩)
  rw [testBit_hav, decide_eq_true_eq] at h1
  exact h1.2
theorem bel_iff {rows : List Nat} {w a b : Nat} (ha : clo rows w a = a) (hb : clo rows w b = b) : bel (hav rows a, a) (hav rows b, b) = true ↔ b ≠ a ∧ sub b a = true := by
  unfold bel
  simp only [Bool.and_eq_true, Bool.not_eq_true', decide_eq_false_iff_not]
  constructor
  · rintro ⟨h1, h2⟩
    exact ⟨fun z => h1 z.symm, hav_back hb ha h2⟩
  · rintro ⟨h1, h2⟩
    exact ⟨fun z => h1 z.symm, hav_anti h2⟩
/-- found: the ideas, rising in their masks -/
def Found (fs : List (Nat × Nat)) : Prop := fs.Pairwise (fun p q => p.2 < q.2) ∧ ∀ p ∈ fs, ∀ q ∈ fs, (bel p q = true ↔ q.2 ≠ p.2 ∧ sub q.2 p.2 = true)
theorem found_ids (rows : List Nat) (w : Nat) : Found (ids rows w (2 ^ w)) := by
  refine ⟨?_, fun p hp q hq => ?_⟩
  · unfold ids
    rw [List.pairwise_map]
    exact cls_sorted rows w (2 ^ w)
  · unfold ids at hp hq
    obtain ⟨a, ha, rfl⟩ := List.mem_map.mp hp
    obtain ⟨b, hb, rfl⟩ := List.mem_map.mp hq
    exact bel_iff (mem_cls.mp ha).2 (mem_cls.mp hb).2
theorem ids_pos (rows : List Nat) (w : Nat) : 0 < (ids rows w (2 ^ w)).length := by
  unfold ids
  rw [List.length_map]
  exact List.length_pos_of_mem (mem_cls.mpr ⟨clo_lt rows w 0, clo_idem rows w 0⟩)
section
variable {fs : List (Nat × Nat)} (hf : Found fs)
include hf
theorem found_lt {a b : Nat} (ha : a < fs.length) (hb : b < fs.length) (h : sub (fs[b]).2 (fs[a]).2 = true) : b ≤ a := by
  rcases Nat.lt_or_ge a b with z | z
  · have h1 := List.pairwise_iff_getElem.mp hf.1 a b ha hb z
    have h2 := sub_le h
    omega
  · exact z
theorem found_ne {a b : Nat} (ha : a < fs.length) (hb : b < fs.length) (h : b < a) : (fs[b]).2 ≠ (fs[a]).2 := by
  have h1 := List.pairwise_iff_getElem.mp hf.1 b a hb ha h
  omega
/-- below, by places -/
theorem found_bel {a b : Nat} (ha : a < fs.length) (hb : b < fs.length) : bel fs[a] fs[b] = true ↔ b < a ∧ sub (fs[b]).2 (fs[a]).2 = true := by
  rw [hf.2 _ (List.getElem_mem ha) _ (List.getElem_mem hb)]
  constructor
  · rintro ⟨h1, h2⟩
    refine ⟨?_, h2⟩
    have h3 := found_lt hf ha hb h2
    rcases Nat.eq_or_lt_of_le h3 with z | z
    · subst z; exact absurd rfl h1
    · exact z
  · rintro ⟨h1, h2⟩
    exact ⟨found_ne hf ha hb h1, h2⟩
end
/-! ### lists of lists with their places -/
def nodeT (ks : List Addr) (R : List (List Nat)) : List Ot := List.zipWith (fun a r => Ot.leaf a (r.map nat)) ks R
theorem nodeT_len {ks : List Addr} {R : List (List Nat)} (h : ks.length = R.length) : (nodeT ks R).length = R.length := by simp [nodeT, h]
theorem nodeT_dts : ∀ {ks : List Addr} {R : List (List Nat)}, ks.length = R.length → Ot.dts (nodeT ks R) = R.map nats
  | [], [], _ => rfl
  | [], _ :: _, h => by simp at h
  | _ :: _, [], h => by simp at h
  | a :: ks, r :: R, h => by
    show (Ot.leaf a (r.map nat)).dt :: Ot.dts (nodeT ks R) = nats r :: R.map nats
    rw [Ot.dt_leaf, nodeT_dts (by simpa using h)]
theorem nodeT_at {ks : List Addr} {R : List (List Nat)} (h : ks.length = R.length) {j : Nat} (hj : j < R.length) : (nodeT ks R)[j]? = some (Ot.leaf (ks[j]'(by omega)) (R[j].map nat)) := by
  unfold nodeT
  rw [List.getElem?_zipWith, List.getElem?_eq_getElem (show j < ks.length by omega), List.getElem?_eq_getElem hj]
theorem nodeT_set {ks : List Addr} {R : List (List Nat)} (h : ks.length = R.length) {j : Nat} (hj : j < R.length) (r : List Nat) : (nodeT ks R).set j (Ot.leaf (ks[j]'(by omega)) (r.map nat)) = nodeT ks (R.set j r) := by
  refine List.ext_getElem? fun i => ?_
  rw [List.getElem?_set]
  unfold nodeT
  by_cases e : j = i
  · subst e
    rw [if_pos rfl, if_pos (by simp; omega), List.getElem?_zipWith, List.getElem?_set, if_pos rfl, if_pos hj, List.getElem?_eq_getElem (show j < ks.length by omega)]
  · rw [if_neg e, List.getElem?_zipWith, List.getElem?_zipWith, List.getElem?_set, if_neg e]
theorem nodeT_snoc {ks : List Addr} {R : List (List Nat)} (h : ks.length = R.length) (a : Addr) (r : List Nat) : nodeT ks R ++ [Ot.leaf a (r.map nat)] = nodeT (ks ++ [a]) (R ++ [r]) := by
  unfold nodeT
  rw [List.zipWith_append h]
  rfl
/-! ### levels -/
def nb (ms ns : List Nat) (m : Nat) : Nat → Nat
  | 0 => 0
  | h + 1 => if sub (ms.getD h 0) m = true then max (nb ms ns m h) (ns.getD h 0 + 1) else nb ms ns m h
def lv (ms : List Nat) : Nat → List Nat
  | 0 => []
  | i + 1 => lv ms i ++ [nb ms (lv ms i) (ms.getD i 0) i]
theorem lv_len (ms : List Nat) : ∀ i, (lv ms i).length = i
  | 0 => rfl
  | i + 1 => by simp [lv, lv_len ms i]
theorem lv_at (ms : List Nat) {t i n : Nat} (h1 : t < i) (h2 : i ≤ n) : (lv ms n).getD t 0 = (lv ms i).getD t 0 := by
  induction n with
  | zero => omega
  | succ n ih =>
    rcases Nat.lt_or_ge n i with z | z
    · have : i = n + 1 := by omega
      subst this; rfl
    · rw [← ih z]
      show (lv ms n ++ _).getD t 0 = _
      rw [List.getD_eq_getElem?_getD, List.getElem?_append_left (by rw [lv_len]; omega), ← List.getD_eq_getElem?_getD]
theorem nb_congr {ms ns ns' : List Nat} {m : Nat} : ∀ {h : Nat}, (∀ t, t < h → ns.getD t 0 = ns'.getD t 0) → nb ms ns m h = nb ms ns' m h
  | 0, _ => rfl
  | h + 1, q => by
    unfold nb
    rw [nb_congr fun t ht => q t (by omega), q h (by omega)]
theorem lv_is (ms : List Nat) {i n : Nat} (h : i < n) : (lv ms n).getD i 0 = nb ms (lv ms n) (ms.getD i 0) i := by
  rw [lv_at ms (Nat.lt_succ_self i) h]
  show (lv ms i ++ _).getD i 0 = _
  rw [List.getD_eq_getElem?_getD, List.getElem?_append_right (by rw [lv_len]; exact Nat.le_refl _), lv_len, Nat.sub_self]
  show nb ms (lv ms i) _ i = _
  exact nb_congr fun t ht => (lv_at ms ht (by omega)).symm
/-- the levels' rows -/
def rowN (ns : List Nat) (i t : Nat) : List Nat := (List.range i).filter fun k => decide (ns.getD k 0 = t)
def top (ns : List Nat) : Nat → Nat
  | 0 => 0
  | i + 1 => max (top ns i) (ns.getD i 0 + 1)
theorem rowN_succ (ns : List Nat) (i t : Nat) : rowN ns (i + 1) t = rowN ns i t ++ if ns.getD i 0 = t then [i] else [] := by
  unfold rowN
  rw [List.range_succ, List.filter_append]
  congr 1
  by_cases h : ns.getD i 0 = t
  · rw [if_pos h]
    exact List.filter_cons_of_pos (p := fun k => decide (ns.getD k 0 = t)) (decide_eq_true h)
  · rw [if_neg h]
    exact List.filter_cons_of_neg (p := fun k => decide (ns.getD k 0 = t)) (by show ¬ decide (ns.getD i 0 = t) = true; rw [decide_eq_false h]; decide)
theorem rowN_none {ns : List Nat} : ∀ {i t : Nat}, top ns i ≤ t → rowN ns i t = []
  | 0, _, _ => rfl
  | i + 1, t, h => by
    have h' : max (top ns i) (ns.getD i 0 + 1) ≤ t := h
    rw [rowN_succ, rowN_none (by omega), if_neg (by omega)]
    rfl
theorem rows_set {ns : List Nat} {i j c : Nat} (h : ns.getD i 0 = j) (hj : j < c) : ((List.range c).map (rowN ns i)).set j (rowN ns i j ++ [i]) = (List.range c).map (rowN ns (i + 1)) := by
  refine List.ext_getElem (by simp) fun t h1 h2 => ?_
  rw [List.getElem_set, List.getElem_map, List.getElem_map, List.getElem_range, rowN_succ]
  by_cases e : j = t
  · subst e; rw [if_pos rfl, if_pos h]
  · rw [if_neg e, if_neg (by omega), List.append_nil]
theorem rows_more {ns : List Nat} {i c : Nat} (h : top ns i ≤ c) : (List.range c).map (rowN ns i) ++ [[]] = (List.range (c + 1)).map (rowN ns i) := by
  rw [List.range_succ, List.map_append, List.map_singleton, rowN_none h]
theorem rowN_len (ns : List Nat) (i t : Nat) : (rowN ns i t).length ≤ i := by
  have := List.length_filter_le (fun k => decide (ns.getD k 0 = t)) (List.range i)
  rw [List.length_range] at this
  exact this
theorem top_le {ns : List Nat} : ∀ {i b : Nat}, (∀ t, t < i → ns.getD t 0 < b) → top ns i ≤ b
  | 0, _, _ => Nat.zero_le _
  | i + 1, b, h => by
    have h1 := top_le (ns := ns) (i := i) fun t ht => h t (by omega)
    have h2 := h i (by omega)
    show max (top ns i) (ns.getD i 0 + 1) ≤ b
    omega
theorem lt_top {ns : List Nat} : ∀ {i t : Nat}, t < i → ns.getD t 0 < top ns i
  | 0, _, h => by omega
  | i + 1, t, h => by
    show ns.getD t 0 < max (top ns i) (ns.getD i 0 + 1)
    rcases Nat.lt_or_ge t i with z | z
    · have := lt_top (ns := ns) z
      omega
    · rw [show t = i by omega]; omega
theorem top_is {ns : List Nat} {m : Nat} (hm : m ∈ ns) (h : ∀ y ∈ ns, y ≤ m) : top ns ns.length = m + 1 := by
  obtain ⟨k, hk, rfl⟩ := List.getElem_of_mem hm
  have h1 := top_le (ns := ns) (i := ns.length) (b := ns[k] + 1) fun t ht => by
    rw [getD_at _ _ _ ht]
    exact Nat.lt_succ_of_le (h _ (List.getElem_mem ht))
  have h2 := lt_top (ns := ns) hk
  rw [getD_at _ _ _ hk] at h2
  omega
theorem nb_le {ms ns : List Nat} {m : Nat} : ∀ {h : Nat}, (∀ t, t < h → ns.getD t 0 ≤ t) → nb ms ns m h ≤ h
  | 0, _ => Nat.le_refl _
  | h + 1, q => by
    have h1 := nb_le (ms := ms) (ns := ns) (m := m) (h := h) fun t ht => q t (by omega)
    have h2 := q h (by omega)
    unfold nb
    split <;> omega
theorem lv_le (ms : List Nat) (n : Nat) : ∀ i, i < n → (lv ms n).getD i 0 ≤ i := fun i => by
  induction i using Nat.strongRecOn with
  | _ i ih =>
    intro h
    rw [lv_is ms h]
    exact nb_le fun t ht => ih t ht (by omega)
end Tq
set_option Elab.async false
set_option linter.all false
set_option autoImplicit false
set_option maxHeartbeats 4000000
namespace Tq
open PySem PySem.Spec L2
theorem forO_map {α : Type} (xs : List α) (f : α → Dt) (I : Nat → DEnv → Prop) {ρ : DEnv} {i : Nat} {l : Addr} {g : TGd} {tb : TSd} {D : EndsD} (hk : ∀ j ρ', I j ρ' → ρ'[i]? = some (Sl.v (.ow l) (.lst (xs.map f)))) (h0 : ∃ ρ', Wk ρ ρ' ∧ I 0 ρ')
    (hs : ∀ (j : Nat) (h : j < xs.length) (ρ' : DEnv), I j ρ' → g (f xs[j]) ρ' fun ρ1 => tb { D with nx := fun ρ2 => ∃ ρ3, Wk ρ2 ρ3 ∧ I (j + 1) ρ3, ct := fun ρ2 => ∃ ρ3, Wk ρ2 ρ3 ∧ I (j + 1) ρ3, bk := D.nx } ρ1) (hd : ∀ ρ', I xs.length ρ' → D.nx ρ') :
    forOS (some (Sl.v (.ow l) (.lst (xs.map f)))) i g tb D ρ := by
  refine ⟨I, hk, h0, fun j x ρ' hx hw => ?_, fun ρ' h => hd ρ' (by rw [List.length_map] at h; exact h)⟩
  rw [List.getElem?_map] at hx
  cases e : xs[j]? with
  | none => rw [e] at hx; cases hx
  | some y =>
    rw [e] at hx
    cases hx
    obtain ⟨hj, rfl⟩ := List.getElem?_eq_some_iff.mp e
    exact hs j hj ρ' hw
/-! ### straight above -/
def kp (ms : List Nat) (low h : Nat) : Bool := sub (ms.getD h 0) (ms.getD low 0) && (List.range low).all fun y => !(decide (h < y) && sub (ms.getD y 0) (ms.getD low 0) && sub (ms.getD h 0) (ms.getD y 0))
theorem kp_iff {ms : List Nat} {low h : Nat} : kp ms low h = true ↔ sub (ms.getD h 0) (ms.getD low 0) = true ∧ ∀ y, y < low → h < y → sub (ms.getD y 0) (ms.getD low 0) = true → sub (ms.getD h 0) (ms.getD y 0) = false := by
  unfold kp
  simp only [Bool.and_eq_true, List.all_eq_true, List.mem_range, Bool.not_eq_true', Bool.and_eq_false_iff, decide_eq_false_iff_not]
  refine and_congr Iff.rfl ⟨fun q y h1 h2 h3 => ?_, fun q y h1 => ?_⟩
  · rcases q y h1 with (z | z) | z
    · exact absurd h2 z
    · rw [h3] at z; cases z
    · exact z
  · by_cases z : h < y
    · cases e : sub (ms.getD y 0) (ms.getD low 0) with
      | false => exact .inl (.inr rfl)
      | true => exact .inr (q y h1 z e)
    · exact .inl (.inl z)
def strt (ms : List Nat) (low : Nat) : List Nat := (List.range low).filter (kp ms low)
theorem mem_strs {ms : List Nat} {low h : Nat} : h ∈ strt ms low ↔ h < low ∧ kp ms low h = true := by
  unfold strt
  rw [List.mem_filter, List.mem_range]
theorem strt_sorted (ms : List Nat) (low : Nat) : (strt ms low).Pairwise (· < ·) := List.Pairwise.filter _ List.pairwise_lt_range
theorem strt_len (ms : List Nat) (low : Nat) : (strt ms low).length ≤ low := by
  have := List.length_filter_le (kp ms low) (List.range low)
  rw [List.length_range] at this
  exact this
/-- what lies below low lies below something straight below it -/
theorem strt_cover {ms : List Nat} {low : Nat} : ∀ (d h : Nat), low - h = d → h < low → sub (ms.getD h 0) (ms.getD low 0) = true → ∃ p ∈ strt ms low, h ≤ p ∧ sub (ms.getD h 0) (ms.getD p 0) = true := fun d => by
  induction d using Nat.strongRecOn with
  | _ d ih =>
    intro h hd hl hs
    by_cases hk : kp ms low h = true
    · exact ⟨h, mem_strs.mpr ⟨hl, hk⟩, Nat.le_refl _, sub_refl _⟩
    · have : ∃ y, y < low ∧ h < y ∧ sub (ms.getD y 0) (ms.getD low 0) = true ∧ sub (ms.getD h 0) (ms.getD y 0) = true := Classical.byContradiction fun z => hk (kp_iff.mpr ⟨hs, fun y h1 h2 h3 => by
        cases e : sub (ms.getD h 0) (ms.getD y 0) with
        | false => rfl
        | true => exact absurd ⟨y, h1, h2, h3, e⟩ z⟩)
      obtain ⟨y, h1, h2, h3, h4⟩ := this
      obtain ⟨p, hp, hp1, hp2⟩ := ih (low - y) (by omega) y rfl h1 h3
      exact ⟨p, hp, by omega, sub_trans h4 hp2⟩
/-- those kept on the way down -/
def dn (ms : List Nat) (low : Nat) : Nat → List Nat
  | 0 => []
  | j + 1 => dn ms low j ++ if kp ms low (low - 1 - j) = true then [low - 1 - j] else []
theorem mem_dn {ms : List Nat} {low : Nat} : ∀ {j h : Nat}, j ≤ low → (h ∈ dn ms low j ↔ low - j ≤ h ∧ h < low ∧ kp ms low h = true)
  | 0, h, _ => by simp [dn]; omega
  | j + 1, h, hj => by
    unfold dn
    rw [List.mem_append, mem_dn (j := j) (h := h) (by omega)]
    constructor
    · rintro (⟨h1, h2, h3⟩ | h1)
      · exact ⟨by omega, h2, h3⟩
      · split at h1
        · rename_i hk
          rw [List.mem_singleton] at h1
          subst h1
          exact ⟨by omega, by omega, hk⟩
        · cases h1
    · rintro ⟨h1, h2, h3⟩
      rcases Nat.lt_or_ge h (low - j) with z | z
      · right
        have : h = low - 1 - j := by omega
        subst this
        rw [if_pos h3]
        exact List.mem_singleton.mpr rfl
      · exact .inl ⟨z, h2, h3⟩
theorem dn_nodup {ms : List Nat} {low : Nat} : ∀ {j : Nat}, j ≤ low → (dn ms low j).Nodup
  | 0, _ => List.nodup_nil
  | j + 1, hj => by
    unfold dn
    rw [List.nodup_append]
    refine ⟨dn_nodup (by omega), by split <;> simp, fun a ha b hb => ?_⟩
    rw [mem_dn (by omega)] at ha
    split at hb
    · rw [List.mem_singleton] at hb
      omega
    · cases hb
theorem dn_len {ms : List Nat} {low : Nat} : ∀ j : Nat, (dn ms low j).length ≤ j
  | 0 => Nat.le_refl _
  | j + 1 => by
    have := dn_len (ms := ms) (low := low) j
    unfold dn
    rw [List.length_append]
    split
    · simp; omega
    · simp; omega
theorem dn_test {ms : List Nat} {low j : Nat} (hj : j < low) (hs : sub (ms.getD (low - 1 - j) 0) (ms.getD low 0) = true) : (∃ p ∈ dn ms low j, sub (ms.getD (low - 1 - j) 0) (ms.getD p 0) = true) ↔ kp ms low (low - 1 - j) = false := by
  constructor
  · rintro ⟨p, hp, h⟩
    rw [mem_dn (by omega)] at hp
    cases e : kp ms low (low - 1 - j) with
    | false => rfl
    | true =>
      have := (kp_iff.mp e).2 p hp.2.1 (by omega) (kp_iff.mp hp.2.2).1
      rw [h] at this; cases this
  · intro h
    obtain ⟨p, hp, hp1, hp2⟩ := strt_cover _ _ rfl (show low - 1 - j < low by omega) hs
    refine ⟨p, (mem_dn (by omega)).mpr ⟨?_, (mem_strs.mp hp)⟩, hp2⟩
    rcases Nat.lt_or_ge p (low - j) with z | z
    · have : p = low - 1 - j := by omega
      subst this
      rw [(mem_strs.mp hp).2] at h; cases h
    · exact z
/-- the pairs of places, each straight below the other -/
def covP (ms : List Nat) (n : Nat) : List (Nat × Nat) := (List.range n).flatMap fun low => (strt ms low).map fun h => (low, h)
theorem mem_covP {ms : List Nat} {n : Nat} {p : Nat × Nat} : p ∈ covP ms n ↔ p.1 < n ∧ p.2 ∈ strt ms p.1 := by
  unfold covP
  rw [List.mem_flatMap]
  constructor
  · rintro ⟨low, h1, h2⟩
    obtain ⟨h, h3, rfl⟩ := List.mem_map.mp h2
    exact ⟨List.mem_range.mp h1, h3⟩
  · rintro ⟨h1, h2⟩
    exact ⟨p.1, List.mem_range.mpr h1, List.mem_map.mpr ⟨p.2, h2, rfl⟩⟩
theorem covP_succ (ms : List Nat) (n : Nat) : covP ms (n + 1) = covP ms n ++ (strt ms n).map fun h => (n, h) := by
  unfold covP
  rw [List.range_succ, List.flatMap_append]
  simp
theorem covP_sorted (ms : List Nat) : ∀ n, (covP ms n).Pairwise fun a b => a.1 < b.1 ∨ (a.1 = b.1 ∧ a.2 < b.2)
  | 0 => List.Pairwise.nil
  | n + 1 => by
    rw [covP_succ, List.pairwise_append]
    refine ⟨covP_sorted ms n, ?_, fun a ha b hb => ?_⟩
    · rw [List.pairwise_map]
      exact (strt_sorted ms n).imp fun h => .inr ⟨rfl, h⟩
    · obtain ⟨h, _, rfl⟩ := List.mem_map.mp hb
      exact .inl (mem_covP.mp ha).1
def ofL (ps : List (Nat × Nat)) (low : Nat) : List Nat := (ps.filter fun p => decide (p.1 = low)).map (·.2)
theorem ofL_snoc (ps : List (Nat × Nat)) (p : Nat × Nat) (low : Nat) : ofL (ps ++ [p]) low = ofL ps low ++ if p.1 = low then [p.2] else [] := by
  unfold ofL
  rw [List.filter_append, List.map_append]
  congr 1
  by_cases h : p.1 = low
  · rw [if_pos h, List.filter_cons_of_pos (p := fun p : Nat × Nat => decide (p.1 = low)) (decide_eq_true h)]; rfl
  · rw [if_neg h, List.filter_cons_of_neg (p := fun p : Nat × Nat => decide (p.1 = low)) (by rw [decide_eq_false h]; decide)]; rfl
theorem ofL_len (ps : List (Nat × Nat)) (low : Nat) : (ofL ps low).length ≤ ps.length := by
  unfold ofL
  rw [List.length_map]
  exact List.length_filter_le _ _
theorem ofL_covP (ms : List Nat) : ∀ n low, low < n → ofL (covP ms n) low = strt ms low
  | 0, _, h => by omega
  | n + 1, low, h => by
    rw [covP_succ]
    unfold ofL
    rw [List.filter_append, List.map_append]
    have e1 : ((strt ms n).map fun h => (n, h)).filter (fun p => decide (p.1 = low)) = if n = low then (strt ms n).map fun h => (n, h) else [] := by
      by_cases e : n = low
      · rw [if_pos e, List.filter_eq_self.mpr]
        intro a ha
        obtain ⟨b, _, rfl⟩ := List.mem_map.mp ha
        exact decide_eq_true e
      · rw [if_neg e, List.filter_eq_nil_iff.mpr]
        intro a ha
        obtain ⟨b, _, rfl⟩ := List.mem_map.mp ha
        simpa using e
    rw [e1]
    by_cases e : n = low
    · subst e
      have e2 : (covP ms n).filter (fun p => decide (p.1 = n)) = [] := List.filter_eq_nil_iff.mpr fun a ha => by
        have := (mem_covP.mp ha).1
        simp
        omega
      rw [e2, if_pos rfl, List.map_map]
      show [] ++ (strt ms n).map id = _
      rw [List.map_id, List.nil_append]
    · rw [if_neg e, List.map_nil, List.append_nil]
      exact ofL_covP ms n low (by omega)
theorem covP_len (ms : List Nat) : ∀ n, (covP ms n).length ≤ n * n
  | 0 => Nat.le_refl _
  | n + 1 => by
    rw [covP_succ, List.length_append, List.length_map]
    have h1 := covP_len ms n
    have h2 := strt_len ms n
    have h3 : (n + 1) * (n + 1) = n * n + n + (n + 1) := by rw [Nat.succ_mul, Nat.mul_succ]
    omega
theorem ofL_set {ps : List (Nat × Nat)} {p : Nat × Nat} {n : Nat} (hp : p.1 < n) : ((List.range n).map (ofL ps)).set p.1 (ofL ps p.1 ++ [p.2]) = (List.range n).map (ofL (ps ++ [p])) := by
  refine List.ext_getElem (by simp) fun t h1 h2 => ?_
  rw [List.getElem_set, List.getElem_map, List.getElem_map, List.getElem_range, ofL_snoc]
  by_cases e : p.1 = t
  · rw [if_pos e, if_pos e, e]
  · rw [if_neg e, if_neg e, List.append_nil]
/-- sorted numbers -/
theorem sorted_nats {ks cs : List Nat} (hn : ks.Nodup) (hc : cs.Pairwise (· < ·)) (hm : ∀ k, k ∈ ks ↔ k ∈ cs) (ys : List Int) (hp : ys.Perm (ks.map fun (k : Nat) => (k : Int))) (ho : ys.Pairwise (· ≤ ·)) : Dt.lst (ys.map Dt.int) = nats cs := by
  obtain ⟨zs, e1, e2⟩ := KeysN.sorted (ds := ks.map fun (k : Nat) => ((Sum.inl (k : Int) : Key), Dt.non)) (ks := ks) ⟨by rw [List.map_map]; rfl, hn⟩ hc hm
  have : zs = ks.map fun (k : Nat) => (k : Int) := by
    rw [List.map_map] at e1
    have h := congrArg (List.map fun k : Key => match k with | .inl i => i | .inr _ => 0) e1
    rw [List.map_map, List.map_map] at h
    have e : (zs.map ((fun k : Key => match k with | .inl i => i | .inr _ => 0) ∘ Sum.inl)) = zs := (List.map_congr_left (g := id) fun _ _ => rfl).trans (List.map_id zs)
    rw [e] at h
    exact h.symm
  exact e2 ys (this ▸ hp) ho
end Tq
set_option Elab.async false
set_option linter.all false
set_option autoImplicit false
set_option maxHeartbeats 4000000
namespace Tq
open PySem PySem.Spec L2
/-! ### a row more -/
theorem clo_snoc {rows : List Nat} {r w m : Nat} : clo (rows ++ [r]) w m = if sub m r = true then clo rows w m &&& r else clo rows w m := by
  have h := clo_take (rows := rows ++ [r]) (w := w) (m := m) (i := rows.length) (by simp)
  have e1 : (rows ++ [r]).take (rows.length + 1) = rows ++ [r] := by rw [List.take_of_length_le (by simp)]
  have e2 : (rows ++ [r]).take rows.length = rows := by simp
  have e3 : (rows ++ [r])[rows.length]'(by simp) = r := by simp
  rw [e1, e2, e3] at h
  exact h
theorem sub_and_left (a b : Nat) : sub (a &&& b) a = true := sub_true.mpr fun k h => by rw [Nat.testBit_and, Bool.and_eq_true] at h; exact h.1
theorem sub_and_right (a b : Nat) : sub (a &&& b) b = true := sub_true.mpr fun k h => by rw [Nat.testBit_and, Bool.and_eq_true] at h; exact h.2
theorem and_of_sub {a b : Nat} (h : sub a b = true) : a &&& b = a := by simpa [sub] using h
theorem cl_snoc {rows : List Nat} {r w c : Nat} : clo (rows ++ [r]) w c = c ↔ clo rows w c = c ∨ ∃ d, d < 2 ^ w ∧ clo rows w d = d ∧ c = d &&& r := by
  constructor
  · intro h
    rw [clo_snoc] at h
    split at h
    · exact .inr ⟨clo rows w c, clo_lt _ _ _, clo_idem _ _ _, h.symm⟩
    · exact .inl h
  · rintro (h | ⟨d, hd, hcl, rfl⟩)
    · rw [clo_snoc]
      split
      · rename_i hs; rw [h]; exact and_of_sub hs
      · exact h
    · rw [clo_snoc, if_pos (sub_and_right d r)]
      have hlt : d &&& r < 2 ^ w := Nat.lt_of_le_of_lt Nat.and_le_left hd
      refine sub_antisymm (sub_and (sub_trans (sub_and_left _ _) ?_) (sub_and_right _ _)) (sub_and (clo_ext hlt) (sub_and_right _ _))
      exact clo_le_of hcl (sub_and_left _ _)
theorem ids_nil (w : Nat) : ids [] w (2 ^ w) = [(0, 2 ^ w - 1)] := by
  have hp := Nat.two_pow_pos w
  unfold ids
  rw [cls_next (c := 2 ^ w - 1) (by omega) (clo_nil _ _) (fun k h1 h2 => by omega)]
  have := cls_first [] w
  rw [clo_nil] at this
  rw [this]
  rfl
/-- what two closed sets, a closed set and a row have in common is closed -/
theorem cl_and_row {rows : List Nat} {w c r : Nat} (hc : clo rows w c = c) (hr : r ∈ rows) (hlt : c < 2 ^ w) : clo rows w (c &&& r) = c &&& r := by
  obtain ⟨t, ht, rfl⟩ := List.getElem_of_mem hr
  have hlt2 : c &&& rows[t] < 2 ^ w := Nat.lt_of_le_of_lt Nat.and_le_left hlt
  refine sub_antisymm (sub_and (clo_le_of hc (sub_and_left _ _)) ?_) (clo_ext hlt2)
  have := clo_row (rows := rows) (w := w) (m := c &&& rows[t]) ht (by rw [getD_at rows 0 t ht]; exact sub_and_right _ _)
  rw [getD_at rows 0 t ht] at this
  exact this
theorem full_cl (rows : List Nat) (w : Nat) : clo rows w (2 ^ w - 1) = 2 ^ w - 1 := by
  have hp := Nat.two_pow_pos w
  exact sub_antisymm (sub_full (clo_lt _ _ _)) (clo_ext (by omega))
theorem mem_ids {rows : List Nat} {w n : Nat} {p : Nat × Nat} : p ∈ ids rows w n ↔ p.2 < n ∧ clo rows w p.2 = p.2 ∧ p.1 = hav rows p.2 := by
  unfold ids
  rw [List.mem_map]
  constructor
  · rintro ⟨m, hm, rfl⟩
    obtain ⟨h1, h2⟩ := mem_cls.mp hm
    exact ⟨h1, h2, rfl⟩
  · rintro ⟨h1, h2, h3⟩
    exact ⟨p.2, mem_cls.mpr ⟨h1, h2⟩, by rw [← h3]⟩
/-- one key more -/
def insN (ks : List Nat) (k : Nat) : List Nat := if k ∈ ks then ks else ks ++ [k]
theorem mem_insN {ks : List Nat} {k j : Nat} : j ∈ insN ks k ↔ j ∈ ks ∨ j = k := by
  unfold insN
  split
  · constructor
    · exact .inl
    · rintro (h | rfl)
      · exact h
      · assumption
  · simp
theorem KeysN.len {ds : List (Key × Dt)} {ks : List Nat} (h : KeysN ds ks) : ds.length = ks.length := by
  have := congrArg List.length h.1
  simpa using this
theorem KeysN.nil : KeysN [] [] := ⟨rfl, .nil⟩
theorem KeysN.ins {ds : List (Key × Dt)} {ks : List Nat} (h : KeysN ds ks) (k : Nat) (x : Dt) : KeysN (putD ds (.inl (k : Int)) x) (insN ks k) := h.put k x
theorem KeysN.some {ds : List (Key × Dt)} {ks : List Nat} (h : KeysN ds ks) (k : Nat) : (valD ds (.inl (k : Int))).isSome = decide (k ∈ ks) := by
  rw [valD_some]
  congr 1
  exact propext h.mem
/-! ### a book -/
def bookO (C l lt : Addr) (w : Nat) (rows : List Nat) (ps : List (Nat × Nat)) : Ot := .obj l C [("wide", .pt (nat w)), ("told", Ot.leaf lt (rows.map nat)), ("pairs", .pt (rulesD ps))]
def bookT (C l lt : Addr) (w : Nat) (rows : List Nat) : Ot := bookO C l lt w rows (ids rows w (2 ^ w))
theorem bookT_rd {C l lt : Addr} {w : Nat} {rows : List Nat} {P : DK} : rdT (bookT C l lt w rows) P = P (.rt (bookT C l lt w rows)) (bookT C l lt w rows).dt := rfl
theorem bookT_root {C l lt : Addr} {w : Nat} {rows : List Nat} {m : Str} {P : Prop} : rootC C m (bookT C l lt w rows) P = (fldO [("wide", .pt (nat w)), ("told", Ot.leaf lt (rows.map nat)), ("pairs", .pt (rulesD (ids rows w (2 ^ w))))] m = none ∧ P) := by
  unfold bookT bookO
  rw [rootC_obj]
  simp
end Tq
namespace Tq
open PySem PySem.Spec L2
/-- what the things of a group ahead of place i share -/
def shaN (rows : List Nat) (w g i : Nat) : Nat := sha (rows.take i) w g
theorem shaN_succ {rows : List Nat} {w g i : Nat} (hi : i < rows.length) : shaN rows w g (i + 1) = if g.testBit i = true then shaN rows w g i &&& rows[i] else shaN rows w g i := by
  have hd : ∀ (j t : Nat), t < j → j ≤ rows.length → (rows.take j).getD t 0 = rows.getD t 0 := fun j t h1 h2 => by
    rw [List.getD_eq_getElem?_getD, List.getD_eq_getElem?_getD, List.getElem?_take, if_pos h1]
  have key : ∀ k, (shaN rows w g (i + 1)).testBit k = ((shaN rows w g i).testBit k && (!(g.testBit i) || (rows[i]).testBit k)) := fun k => by
    unfold shaN
    rw [testBit_sha, testBit_sha, Bool.eq_iff_iff]
    simp only [decide_eq_true_eq, Bool.and_eq_true, Bool.or_eq_true, Bool.not_eq_true', List.length_take]
    constructor
    · rintro ⟨h1, h2⟩
      refine ⟨⟨h1, fun t ht hg => ?_⟩, ?_⟩
      · have := h2 t (by omega) hg
        rw [hd (i + 1) t (by omega) (by omega)] at this
        rw [hd i t (by omega) (by omega)]; exact this
      · cases e : g.testBit i with
        | false => exact .inl rfl
        | true =>
          have := h2 i (by omega) e
          rw [hd (i + 1) i (by omega) (by omega), getD_at rows 0 i hi] at this
          exact .inr this
    · rintro ⟨⟨h1, h2⟩, h3⟩
      refine ⟨h1, fun t ht hg => ?_⟩
      rw [hd (i + 1) t (by omega) (by omega)]
      rcases Nat.lt_or_ge t i with z | z
      · have := h2 t (by omega) hg
        rw [hd i t z (by omega)] at this; exact this
      · have : t = i := by omega
        subst this
        rw [getD_at rows 0 t hi]
        rcases h3 with h3 | h3
        · rw [h3] at hg; cases hg
        · exact h3
  refine Nat.eq_of_testBit_eq fun k => ?_
  rw [key]
  split
  · rename_i h; rw [h, Nat.testBit_and]; simp
  · rename_i h
    have : g.testBit i = false := by simpa using h
    rw [this]; simp
theorem shaN_len {rows : List Nat} {w g : Nat} : shaN rows w g rows.length = sha rows w g := by unfold shaN; rw [List.take_length]
theorem ids_rise {rows : List Nat} {w n : Nat} {i k : Nat} (hk : k < (ids rows w n).length) (h : i < k) : ((ids rows w n)[i]'(by omega)).2 < ((ids rows w n)[k]).2 := by
  have hl : (ids rows w n).length = (cls rows w n).length := by unfold ids; simp
  have e : ∀ (j : Nat) (hj : j < (ids rows w n).length), ((ids rows w n)[j]).2 = (cls rows w n)[j]'(hl ▸ hj) := fun j hj => by simp [ids]
  rw [e, e]
  exact List.pairwise_iff_getElem.mp (cls_sorted rows w n) i k (by omega) (by omega) h
end Tq
set_option Elab.async false
set_option linter.all false
set_option autoImplicit false
set_option maxHeartbeats 4000000
namespace Tq
open PySem PySem.Spec L2
/-! ### the next set that keeps rules -/
def kpr (rs : List (Nat × Nat)) (m : Nat) : Bool := rs.all fun r => !brk m r
theorem kpr_iff {rs : List (Nat × Nat)} {m : Nat} : kpr rs m = true ↔ ∀ r ∈ rs, brk m r = false := by
  unfold kpr
  rw [List.all_eq_true]
  constructor
  · intro h r hr; simpa using h r hr
  · intro h r hr; simpa using h r hr
theorem kpr_snoc {rs : List (Nat × Nat)} {r : Nat × Nat} {m : Nat} : kpr (rs ++ [r]) m = (kpr rs m && !brk m r) := by unfold kpr; simp
/-- the least set of a kind above a -/
structure Lst (Cl : Nat → Prop) (w a t : Nat) : Prop where
  lt : t < 2 ^ w
  sb : sub a t = true
  cl : Cl t
  mn : ∀ u, u < 2 ^ w → sub a u = true → Cl u → sub t u = true
section
variable {Cl : Nat → Prop} {w m i : Nat}
theorem fits_ofG (hm : m < 2 ^ w) {c : Nat} (hc : c < 2 ^ w) (hcl : Cl c) {j : Nat} (h1 : c.testBit j = true) (h2 : m.testBit j = false) (h3 : ∀ k, j < k → c.testBit k = m.testBit k) {t : Nat} (ht : Lst Cl w (seed m j) t) :
    sub t c = true ∧ t / 2 ^ j = (m / 2 ^ j ||| 1) := by
  have hs : sub (seed m j) c = true := sub_true.mpr fun k hk => by
    rw [testBit_seed, Bool.and_eq_true, decide_eq_true_eq, Bool.or_eq_true, decide_eq_true_eq] at hk
    obtain ⟨h4, h5⟩ := hk
    rcases Nat.lt_or_ge j k with z | z
    · rw [h3 k z]
      rcases h5 with h5 | h5
      · exact h5
      · omega
    · have : k = j := by omega
      subst this; exact h1
  have hs2 := ht.mn c hc hs hcl
  have he := ht.sb
  refine ⟨hs2, fits_iff.mpr ⟨?_, fun k hk => ?_⟩⟩
  · refine sub_true.mp he j ?_
    rw [testBit_seed]; simp
  · have hb := sub_true.mp hs2 k
    have hb2 := sub_true.mp he k
    rw [testBit_seed] at hb2
    have : decide (j ≤ k) = true := by rw [decide_eq_true_eq]; omega
    rw [this] at hb2
    rw [h3 k hk] at hb
    cases e : m.testBit k with
    | true => exact hb2 (by rw [e]; rfl)
    | false =>
      cases e2 : t.testBit k with
      | false => rfl
      | true => rw [← e]; exact (hb e2).symm ▸ rfl
theorem bit_w {c : Nat} (hc : c < 2 ^ w) {j : Nat} (h1 : c.testBit j = true) : j < w := by
  rcases Nat.lt_or_ge j w with z | z
  · exact z
  · rw [testBit_ge hc z] at h1; cases h1
theorem nextG_some (hm : m < 2 ^ w) (hi : i < w) (hbit : m.testBit i = false) {t : Nat} (ht : Lst Cl w (seed m i) t) (hfit : t / 2 ^ i = (m / 2 ^ i ||| 1))
    (hno : ∀ j, j < i → m.testBit j = false → ∃ t, Lst Cl w (seed m j) t ∧ ¬ t / 2 ^ j = (m / 2 ^ j ||| 1)) : m < t ∧ ∀ c, m < c → c < t → ¬ Cl c := by
  obtain ⟨f1, f2⟩ := fits_iff.mp hfit
  refine ⟨lt_of_bit i hbit f1 fun k hk => (f2 k hk).symm, fun c h1 h2 hcl => ?_⟩
  obtain ⟨j, g1, g2, g3⟩ := high_bit h1
  have hc := Nat.lt_trans h2 ht.lt
  rcases Nat.lt_trichotomy j i with z | z | z
  · obtain ⟨t', ht', hn⟩ := hno j z g2
    exact hn (fits_ofG hm hc hcl g1 g2 g3 ht').2
  · subst z
    have := sub_le (fits_ofG hm hc hcl g1 g2 g3 ht).1
    omega
  · have : t < c := lt_of_bit j (by rw [f2 j z]; exact g2) g1 fun k hk => by rw [f2 k (by omega), g3 k hk]
    omega
theorem nextG_none (hm : m < 2 ^ w) (hno : ∀ j, j < w → m.testBit j = false → ∃ t, Lst Cl w (seed m j) t ∧ ¬ t / 2 ^ j = (m / 2 ^ j ||| 1)) : ∀ c, m < c → c < 2 ^ w → ¬ Cl c := fun c h1 h2 hcl => by
  obtain ⟨j, g1, g2, g3⟩ := high_bit h1
  obtain ⟨t', ht', hn⟩ := hno j (bit_w h2 g1) g2
  exact hn (fits_ofG hm h2 hcl g1 g2 g3 ht').2
end
theorem dNe_rul {a b : Nat × Nat} {P : DK} : dNe (rul a) (rul b) P = P .fz (.bl (!decide (a = b))) := by
  show dEqG true (rul a) (rul b) P = _
  rw [eqG_enc1]; simp
theorem dEq_rul {a b : Nat × Nat} {P : DK} : dEq (rul a) (rul b) P = P .fz (.bl (decide (a = b))) := by
  show dEqG false (rul a) (rul b) P = _
  rw [eqG_enc1]; simp
theorem isNon_rul {r : Nat × Nat} : (rul r).isNon = false := rfl
/-! ### a talk -/
/-- the least set that keeps the rules and is not closed in the known things -/
def ask (w : Nat) (known : List Nat) (kept : List (Nat × Nat)) : Option Nat := (List.range (2 ^ w)).find? fun m => kpr kept m && !isCl known w m
theorem find_range_some {p : Nat → Bool} {n m : Nat} (hm : m < n) (hp : p m = true) (hno : ∀ k, k < m → p k = false) : (List.range n).find? p = some m := by
  rw [List.find?_eq_some_iff_append]
  refine ⟨hp, List.range m, (List.range (n - m - 1)).map (· + (m + 1)), ?_, fun k hk => ?_⟩
  · have e : n = m + (1 + (n - m - 1)) := by omega
    conv => lhs; rw [e, List.range_add, List.range_add]
    simp [Function.comp_def, Nat.add_assoc, Nat.add_comm, Nat.add_left_comm]
  · rw [hno k (List.mem_range.mp hk)]; rfl
theorem find_range_none {p : Nat → Bool} {n : Nat} (hno : ∀ k, k < n → p k = false) : (List.range n).find? p = none := by
  rw [List.find?_eq_none]
  intro k hk
  rw [hno k (List.mem_range.mp hk)]
  exact Bool.false_ne_true
theorem find_range_inv {p : Nat → Bool} {n m : Nat} (h : (List.range n).find? p = some m) : m < n ∧ p m = true ∧ ∀ k, k < m → p k = false := by
  have h1 := List.find?_some h
  have h2 := List.mem_of_find?_eq_some h
  refine ⟨List.mem_range.mp h2, h1, fun k hk => ?_⟩
  cases e : p k with
  | false => rfl
  | true =>
    exfalso
    obtain ⟨_, as, bs, e1, e2⟩ := List.find?_eq_some_iff_append.mp h
    have hp : (List.range n).Pairwise (· < ·) := List.pairwise_lt_range
    rw [e1, List.pairwise_append] at hp
    have hkn : k ∈ List.range n := List.mem_range.mpr (Nat.lt_trans hk (List.mem_range.mp h2))
    rw [e1] at hkn
    rcases List.mem_append.mp hkn with z | z
    · have := e2 k z
      rw [e] at this; cases this
    · rcases List.mem_cons.mp z with z | z
      · omega
      · have := (List.pairwise_cons.mp hp.2.1).1 k z
        omega
structure TkOk (w : Nat) (known : List Nat) (kept : List (Nat × Nat)) (tn : Option Nat) : Prop where
  kn : ∀ r ∈ known, r < 2 ^ w
  kr : ∀ r ∈ kept, r.1 < 2 ^ w ∧ r.2 < 2 ^ w
  tk : ∀ m, tn = some m → m < 2 ^ w ∧ kpr kept m = true
  bl : ∀ m, m < tn.getD (2 ^ w) → kpr kept m = true → clo known w m = m
  rs : kept.Pairwise fun a b => a.1 < b.1
  ab : ∀ r ∈ kept, r.1 < tn.getD (2 ^ w)
section
variable {w : Nat} {known : List Nat} {kept : List (Nat × Nat)} {tn : Option Nat}
theorem TkOk.ask_some (T : TkOk w known kept tn) {m : Nat} (h : ask w known kept = some m) : m < 2 ^ w ∧ kpr kept m = true ∧ clo known w m ≠ m ∧ tn.getD (2 ^ w) ≤ m ∧ ∀ k, k < m → kpr kept k = true → clo known w k = k := by
  obtain ⟨h1, h2, h3⟩ := find_range_inv h
  rw [Bool.and_eq_true, Bool.not_eq_true'] at h2
  have h4 : clo known w m ≠ m := fun z => by rw [isCl_iff.mpr z] at h2; cases h2.2
  refine ⟨h1, h2.1, h4, ?_, fun k hk hkp => ?_⟩
  · rcases Nat.lt_or_ge m (tn.getD (2 ^ w)) with z | z
    · exact absurd (T.bl m z h2.1) h4
    · exact z
  · have := h3 k hk
    rw [hkp, Bool.true_and, Bool.not_eq_false'] at this
    exact isCl_iff.mp this
theorem ask_none (h : ask w known kept = none) : ∀ k, k < 2 ^ w → kpr kept k = true → clo known w k = k := fun k hk hkp => by
  have := List.find?_eq_none.mp h k (List.mem_range.mpr hk)
  rw [hkp, Bool.true_and] at this
  have h2 : isCl known w k = true := by simpa using this
  exact isCl_iff.mp h2
theorem ask_is {m : Nat} (h1 : m < 2 ^ w) (h2 : kpr kept m = true) (h3 : clo known w m ≠ m) (h4 : ∀ k, k < m → kpr kept k = true → clo known w k = k) : ask w known kept = some m := by
  refine find_range_some h1 ?_ fun k hk => ?_
  · rw [h2, Bool.true_and, Bool.not_eq_true']
    cases e : isCl known w m with
    | false => rfl
    | true => exact absurd (isCl_iff.mp e) h3
  · cases e : kpr kept k with
    | false => rfl
    | true => rw [isCl_iff.mpr (h4 k hk e)]; rfl
theorem ask_no (h4 : ∀ k, k < 2 ^ w → kpr kept k = true → clo known w k = k) : ask w known kept = none := by
  refine find_range_none fun k hk => ?_
  cases e : kpr kept k with
  | false => rfl
  | true => rw [isCl_iff.mpr (h4 k hk e)]; rfl
/-- what is asked of the mask m -/
def askR (w : Nat) (known : List Nat) (m : Nat) : Nat × Nat := (m, clo known w m ^^^ m)
def askD (w : Nat) (known : List Nat) : Option Nat → Dt
  | none => .non
  | some m => rul (askR w known m)
theorem xor_sub2 {a b : Nat} (h : sub b a = true) : b ||| (a ^^^ b) = a ∧ b &&& (a ^^^ b) = 0 := by
  refine ⟨Nat.eq_of_testBit_eq fun k => ?_, Nat.eq_of_testBit_eq fun k => ?_⟩
  · have := sub_true.mp h k
    rw [Nat.testBit_or, Nat.testBit_xor]
    cases e : b.testBit k <;> cases e2 : a.testBit k <;> simp_all
  · have := sub_true.mp h k
    rw [Nat.testBit_and, Nat.testBit_xor, Nat.zero_testBit]
    cases e : b.testBit k <;> cases e2 : a.testBit k <;> simp_all
theorem brk_self {m c : Nat} (h : sub m c = true) (hn : c ≠ m) : brk m (m, c ^^^ m) = true := by
  refine brk_iff.mpr ⟨sub_refl m, ?_⟩
  cases e : sub (c ^^^ m) m with
  | false => rfl
  | true =>
    exfalso
    apply hn
    have h1 := (xor_sub2 h).1
    have h2 := or_sub (sub_refl m) e
    rw [h1] at h2
    exact sub_antisymm h2 h
/-- a row that has the mask breaks the rule asked just where it lacks something of the closed set -/
theorem keeps_ask {m c u : Nat} (h : sub m c = true) (hb : brk u (m, c ^^^ m) = false) (hu : sub m u = true) : sub c u = true := by
  have := nobrk hb hu
  have h2 := or_sub hu this
  rw [(xor_sub2 h).1] at h2
  exact h2
theorem brk_ask {m c u : Nat} (h : sub m c = true) (hu : sub m u = true → sub c u = true) : brk u (m, c ^^^ m) = false := by
  cases e : brk u (m, c ^^^ m) with
  | false => rfl
  | true =>
    obtain ⟨h1, h2⟩ := brk_iff.mp e
    have h3 := hu h1
    have : sub (c ^^^ m) u = true := by
      refine sub_trans ?_ h3
      have := sub_or_right m (c ^^^ m)
      rw [(xor_sub2 h).1] at this
      exact this
    rw [this] at h2; cases h2
theorem ask_row {m t : Nat} (hm : m < 2 ^ w) (ht : t ∈ known) : brk t (askR w known m) = false := by
  refine brk_ask (clo_ext hm) fun h => ?_
  obtain ⟨i, hi, rfl⟩ := List.getElem_of_mem ht
  have := clo_row (rows := known) (w := w) (m := m) hi (by rw [getD_at known 0 i hi]; exact h)
  rw [getD_at known 0 i hi] at this
  exact this
theorem askR_lt {m : Nat} (hm : m < 2 ^ w) : (askR w known m).1 < 2 ^ w ∧ (askR w known m).2 < 2 ^ w := ⟨hm, Nat.xor_lt_two_pow (clo_lt _ _ _) hm⟩
/-- behind a yes -/
theorem TkOk.yes (T : TkOk w known kept tn) {m : Nat} (h : ask w known kept = some m) {tn' : Option Nat}
    (h1 : ∀ d, tn' = some d → m < d ∧ d < 2 ^ w ∧ kpr (kept ++ [askR w known m]) d = true) (h2 : ∀ c, m < c → c < tn'.getD (2 ^ w) → ¬ kpr (kept ++ [askR w known m]) c = true) : TkOk w known (kept ++ [askR w known m]) tn' := by
  obtain ⟨a1, a2, a3, a4, a5⟩ := T.ask_some h
  have hd : m < tn'.getD (2 ^ w) := by
    cases tn' with
    | none => exact a1
    | some d => exact (h1 d rfl).1
  refine ⟨T.kn, fun r hr => ?_, fun d e => ⟨(h1 d e).2.1, (h1 d e).2.2⟩, fun c hc hk => ?_, ?_, fun r hr => ?_⟩
  · rcases List.mem_append.mp hr with z | z
    · exact T.kr r z
    · rw [List.mem_singleton.mp z]; exact askR_lt a1
  · rw [kpr_snoc, Bool.and_eq_true] at hk
    rcases Nat.lt_trichotomy c m with z | z | z
    · exact a5 c z hk.1
    · subst z
      have := brk_self (clo_ext (rows := known) a1) a3
      have h3 := hk.2
      rw [show brk c (askR w known c) = true from this] at h3
      cases h3
    · exact absurd (by rw [kpr_snoc, Bool.and_eq_true]; exact hk) (h2 c z hc)
  · rw [List.pairwise_append]
    refine ⟨T.rs, List.pairwise_singleton _ _, fun a ha b hb => ?_⟩
    rw [List.mem_singleton.mp hb]
    exact Nat.lt_of_lt_of_le (T.ab a ha) a4
  · rcases List.mem_append.mp hr with z | z
    · exact Nat.lt_trans (Nat.lt_of_lt_of_le (T.ab r z) a4) hd
    · rw [List.mem_singleton.mp z]; exact hd
theorem TkOk.no (T : TkOk w known kept tn) {m r : Nat} (h : ask w known kept = some m) (hr : r < 2 ^ w) : TkOk w (known ++ [r]) kept (some m) := by
  obtain ⟨a1, a2, a3, a4, a5⟩ := T.ask_some h
  refine ⟨fun k hk => ?_, T.kr, fun d e => by cases e; exact ⟨a1, a2⟩, fun c hc hk => cl_snoc.mpr (.inl (a5 c hc hk)), T.rs, fun q hq => Nat.lt_of_lt_of_le (T.ab q hq) a4⟩
  rcases List.mem_append.mp hk with z | z
  · exact T.kn k z
  · rw [List.mem_singleton.mp z]; exact hr
theorem TkOk.start (h : ∀ r ∈ known, r < 2 ^ w) : TkOk w known [] (some 0) :=
  ⟨h, by simp, fun m e => by cases e; exact ⟨Nat.two_pow_pos w, rfl⟩, fun m hm => by simp at hm, List.Pairwise.nil, by simp⟩
end
/-! ### a knower's world -/
structure TkW (w : Nat) (world known : List Nat) (kept : List (Nat × Nat)) : Prop where
  sb : ∀ t ∈ known, t ∈ world
  hl : ∀ r ∈ kept, ∀ t ∈ world, brk t r = false
  cx : ∀ r ∈ kept, clo world w r.1 ≠ r.1 ∧ r.2 = clo world w r.1 ^^^ r.1
  ap : ∀ r ∈ kept, ∀ q ∈ kept, q ≠ r → brk r.1 q = false
  fu : ∀ r ∈ kept, r.1 < 2 ^ w - 1
theorem sub_clo {rows : List Nat} {w m c : Nat} (hc : c < 2 ^ w) (h : ∀ t ∈ rows, sub m t = true → sub c t = true) : sub c (clo rows w m) = true := sub_true.mpr fun k hk => by
  rw [testBit_clo, decide_eq_true_eq]
  refine ⟨bit_w hc hk, fun t ht hs => ?_⟩
  rw [getD_at rows 0 t ht] at hs ⊢
  exact sub_true.mp (h _ (List.getElem_mem ht) hs) k hk
theorem clo_row' {rows : List Nat} {w m t : Nat} (ht : t ∈ rows) (h : sub m t = true) : sub (clo rows w m) t = true := by
  obtain ⟨i, hi, rfl⟩ := List.getElem_of_mem ht
  have := clo_row (rows := rows) (w := w) (m := m) hi (by rw [getD_at rows 0 i hi]; exact h)
  rw [getD_at rows 0 i hi] at this
  exact this
theorem clo_less {rows more : List Nat} {w m : Nat} (h : ∀ t ∈ rows, t ∈ more) : sub (clo more w m) (clo rows w m) = true := sub_clo (clo_lt _ _ _) fun t ht hs => clo_row' (h t ht) hs
section
variable {w : Nat} {world known : List Nat} {kept : List (Nat × Nat)} {tn : Option Nat}
theorem ask_full {m : Nat} (h : m < 2 ^ w) (hn : clo known w m ≠ m) : m < 2 ^ w - 1 := by
  rcases Nat.lt_or_ge m (2 ^ w - 1) with z | z
  · exact z
  · have : m = 2 ^ w - 1 := by omega
    rw [this] at hn
    exact absurd (full_cl known w) hn
theorem TkW.cw (W : TkW w world known kept) (r : Nat × Nat) (hr : r ∈ kept) : clo world w r.1 = r.1 ||| r.2 := by
  have h1 := W.fu r hr
  rw [(W.cx r hr).2, (xor_sub2 (clo_ext (by omega))).1]
theorem TkW.yes (W : TkW w world known kept) (T : TkOk w known kept tn) {m : Nat} (h : ask w known kept = some m) (hw : ∀ t ∈ world, brk t (askR w known m) = false) : TkW w world known (kept ++ [askR w known m]) := by
  obtain ⟨a1, a2, a3, a4, a5⟩ := T.ask_some h
  have hs := clo_ext (rows := known) a1
  have key : ∀ {r : Nat × Nat}, r ∈ kept ++ [askR w known m] → r ∈ kept ∨ r = askR w known m := fun hr => (List.mem_append.mp hr).elim .inl fun z => .inr (List.mem_singleton.mp z)
  refine ⟨W.sb, fun r hr => (key hr).elim (W.hl r) fun e => by subst e; exact hw, fun r hr => (key hr).elim (W.cx r) fun e => ?_, fun r hr q hq hne => ?_, fun r hr => (key hr).elim (W.fu r) fun e => by subst e; exact ask_full a1 a3⟩
  · subst e
    have e2 : clo world w m = clo known w m := ?_
    · show clo world w m ≠ m ∧ clo known w m ^^^ m = clo world w m ^^^ m
      rw [e2]
      exact ⟨a3, rfl⟩
    exact sub_antisymm (clo_less W.sb) (sub_clo (clo_lt _ _ _) fun t ht hmt => keeps_ask hs (hw t ht) hmt)
  · rcases key hr with z | z <;> rcases key hq with y | y
    · exact W.ap r z q y hne
    · subst y
      cases e : brk r.1 (askR w known m) with
      | false => rfl
      | true =>
        have h1 := sub_le (brk_iff.mp e).1
        have h2 := T.ab r z
        have h3 : (askR w known m).1 = m := rfl
        omega
    · subst z
      exact kpr_iff.mp a2 q y
    · exact absurd (y.trans z.symm) hne
theorem TkW.no (W : TkW w world known kept) {r : Nat} (hr : r ∈ world) : TkW w world (known ++ [r]) kept :=
  ⟨fun t ht => (List.mem_append.mp ht).elim (W.sb t) fun z => by rw [List.mem_singleton.mp z]; exact hr, W.hl, W.cx, W.ap, W.fu⟩
theorem TkW.end_ (W : TkW w world known kept) (T : TkOk w known kept tn) (h : ask w known kept = none) : ∀ m, m < 2 ^ w → clo world w m = clo known w m ∧ (clo world w m = m ↔ kpr kept m = true) := by
  -- what is closed in the world keeps the rules
  have hkeep : ∀ c, c < 2 ^ w → clo world w c = c → kpr kept c = true := fun c hc hcl => kpr_iff.mpr fun r hr => by
    cases e : brk c r with
    | false => rfl
    | true =>
      exfalso
      obtain ⟨h1, h2⟩ := brk_iff.mp e
      have : sub r.2 (clo world w c) = true := sub_clo (T.kr r hr).2 fun t ht hct => nobrk (W.hl r hr t ht) (sub_trans h1 hct)
      rw [hcl, h2] at this; cases this
  have same : ∀ m, m < 2 ^ w → clo world w m = clo known w m := fun m hm => by
    refine sub_antisymm (clo_less W.sb) ?_
    have hc := clo_lt world w m
    have h1 := ask_none h _ hc (hkeep _ hc (clo_idem _ _ _))
    have := clo_mono (rows := known) (w := w) (clo_ext (rows := world) hm)
    rw [h1] at this
    exact this
  intro m hm
  refine ⟨same m hm, hkeep m hm, fun hk => ?_⟩
  rw [same m hm]
  exact ask_none h m hm hk
theorem TkW.count (W : TkW w world known kept) (T : TkOk w known kept tn) : kept.length ≤ 2 ^ w - 1 := by
  have hn : (kept.map (·.1)).Nodup := by
    have := T.rs
    rw [← List.pairwise_map (f := fun r : Nat × Nat => r.1) (R := (· < ·))] at this
    exact this.imp fun h => Nat.ne_of_lt h
  have := nodup_le hn (n := 2 ^ w - 1) fun x hx => by
    obtain ⟨r, hr, rfl⟩ := List.mem_map.mp hx
    exact W.fu r hr
  rw [List.length_map] at this
  exact this
/-- in the end the rules are the least row of the world -/
theorem TkW.least (W : TkW w world known kept) (T : TkOk w known kept tn) (h : ask w known kept = none) : kept = lst world w (2 ^ w) := by
  have hend := W.end_ T h
  have hlt : ∀ q ∈ lst world w (2 ^ w), q.1 < 2 ^ w ∧ q.2 = clo world w q.1 ^^^ q.1 ∧ clo world w q.1 ≠ q.1 := fun q hq => lst_mem_lt hq
  have key : ∀ m, (∃ r ∈ kept, r.1 = m) ↔ ∃ q ∈ lst world w (2 ^ w), q.1 = m := by
    intro m
    induction m using Nat.strongRecOn with
    | _ m ih =>
      have same : ∀ {r q : Nat × Nat}, r ∈ kept → q ∈ lst world w (2 ^ w) → r.1 = q.1 → r = q := fun {r q} hr hq e => by
        have h1 := (W.cx r hr).2
        have h2 := (hlt q hq).2.1
        rw [← e, ← h1] at h2
        exact Prod.ext e h2.symm
      constructor
      · rintro ⟨r, hr, rfl⟩
        refine ⟨(r.1, clo world w r.1 ^^^ r.1), lst_start (T.kr r hr).1 (W.cx r hr).1 fun q hq hne => ?_, rfl⟩
        cases e : brk r.1 q with
        | false => rfl
        | true =>
          have h1 := sub_le (brk_iff.mp e).1
          obtain ⟨r', hr', e'⟩ := (ih q.1 (by omega)).mpr ⟨q, hq, rfl⟩
          have := same hr' hq e'
          subst this
          have := W.ap r hr r' hr' (fun z => hne (by rw [z]))
          rw [e] at this; cases this
      · rintro ⟨q, hq, rfl⟩
        obtain ⟨h1, h2, h3⟩ := hlt q hq
        have hk : ¬ kpr kept q.1 = true := fun z => h3 ((hend q.1 h1).2.mpr z)
        have : ∃ r ∈ kept, brk q.1 r = true := by
          refine Classical.byContradiction fun hno => hk (kpr_iff.mpr fun r hr => ?_)
          cases e : brk q.1 r with
          | false => rfl
          | true => exact absurd ⟨r, hr, e⟩ hno
        obtain ⟨r, hr, hb⟩ := this
        have hle := sub_le (brk_iff.mp hb).1
        rcases Nat.lt_or_ge r.1 q.1 with z | z
        · obtain ⟨q', hq', e'⟩ := (ih r.1 z).mp ⟨r, hr, rfl⟩
          have := same hr hq' e'.symm
          subst this
          have := lst_start_keeps hq hq' (by omega)
          rw [hb] at this; cases this
        · exact ⟨r, hr, by omega⟩
  have e1 : kept.map (·.1) = (lst world w (2 ^ w)).map (·.1) := by
    refine sorted_same ?_ ?_ fun k => ?_
    · exact List.pairwise_map.mpr T.rs
    · exact List.pairwise_map.mpr (lst_rising world w (2 ^ w))
    · rw [List.mem_map, List.mem_map]; exact key k
  have back : ∀ (l : List (Nat × Nat)), (∀ r ∈ l, r.2 = clo world w r.1 ^^^ r.1) → l = (l.map (·.1)).map fun m => (m, clo world w m ^^^ m) := fun l hl => by
    rw [List.map_map]
    conv => lhs; rw [← List.map_id l]
    refine List.map_congr_left fun r hr => ?_
    exact Prod.ext rfl (hl r hr)
  rw [back kept fun r hr => (W.cx r hr).2, e1, ← back _ fun q hq => (hlt q hq).2.1]
theorem TkW.start (h : ∀ t ∈ known, t ∈ world) : TkW w world known [] := ⟨h, by simp, by simp, by simp, by simp⟩
end
theorem nodup_sub : ∀ {xs ys : List Nat}, xs.Nodup → (∀ x ∈ xs, x ∈ ys) → xs.length ≤ ys.length
  | [], ys, _, _ => Nat.zero_le _
  | x :: xs, ys, hn, h => by
    obtain ⟨h1, h2⟩ := List.nodup_cons.mp hn
    have hx := h x List.mem_cons_self
    have := nodup_sub (ys := ys.erase x) h2 fun y hy => (List.mem_erase_of_ne (fun (z : y = x) => h1 (z ▸ hy))).mpr (h y (List.mem_cons_of_mem _ hy))
    rw [List.length_erase_of_mem hx] at this
    have : 0 < ys.length := List.length_pos_of_mem hx
    rw [List.length_cons]
    omega
def talkT (C l lk lp : Addr) (w : Nat) (known : List Nat) (kept : List (Nat × Nat)) (tn : Option Nat) : Ot := .obj l C [("wide", .pt (nat w)), ("known", Ot.leaf lk (known.map nat)), ("kept", Ot.leaf lp (kept.map rul)), ("turn", .pt (optN tn))]
theorem talkT_rd {C l lk lp : Addr} {w : Nat} {known : List Nat} {kept : List (Nat × Nat)} {tn : Option Nat} {P : DK} : rdT (talkT C l lk lp w known kept tn) P = P (.rt (talkT C l lk lp w known kept tn)) (talkT C l lk lp w known kept tn).dt := rfl
theorem talkT_root {C l lk lp : Addr} {w : Nat} {known : List Nat} {kept : List (Nat × Nat)} {tn : Option Nat} {m : Str} {P : Prop} : rootC C m (talkT C l lk lp w known kept tn) P = (fldO [("wide", .pt (nat w)), ("known", Ot.leaf lk (known.map nat)), ("kept", Ot.leaf lp (kept.map rul)), ("turn", .pt (optN tn))] m = none ∧ P) := by
  unfold talkT
  rw [rootC_obj]
  simp
/-- a comprehension that takes some of a list's items -/
theorem lc_sub {α : Type} (xs : List α) (f : α → Dt) {items : List Dt} {B : (Nat → List Dt → Prop) → Nat → Dt → List Dt → Prop} {Z : List Dt → Prop} (hl : items.length = xs.length)
    (hs : ∀ (W : Nat → List Dt → Prop) (i : Nat) (h : i < xs.length) (x : Dt) (acc : List Dt), items[i]? = some x → W (i + 1) acc → W (i + 1) (acc ++ [f xs[i]]) → B W i x acc)
    (hd : ∀ ks : List α, ks.length ≤ xs.length → (∀ k ∈ ks, k ∈ xs) → Z (ks.map f)) :
    ∃ W : Nat → List Dt → Prop, W 0 [] ∧ (∀ i x acc, items[i]? = some x → W i acc → B W i x acc) ∧ ∀ acc, W items.length acc → Z acc := by
  refine ⟨fun i acc => ∃ ks : List α, acc = ks.map f ∧ ks.length ≤ i ∧ ∀ k ∈ ks, k ∈ xs, ⟨[], rfl, Nat.le_refl _, by simp⟩, fun i x acc hx hw => ?_, fun acc hw => ?_⟩
  · have hi : i < xs.length := hl ▸ (List.getElem?_eq_some_iff.mp hx).1
    obtain ⟨ks, rfl, h1, h2⟩ := hw
    refine hs _ i hi x _ hx ⟨ks, rfl, by omega, h2⟩ ⟨ks ++ [xs[i]], by rw [List.map_append]; rfl, by rw [List.length_append, List.length_singleton]; omega, fun k hk => ?_⟩
    rcases List.mem_append.mp hk with z | z
    · exact h2 k z
    · rw [List.mem_singleton.mp z]; exact List.getElem_mem hi
  · obtain ⟨ks, rfl, h1, h2⟩ := hw
    rw [hl] at h1
    exact hd ks h1 h2
end Tq
set_option Elab.async false
set_option linter.all false
set_option autoImplicit false
set_option maxRecDepth 100000
set_option maxHeartbeats 4000000
namespace Tq
open PySem PySem.Spec L2
open PyProof.Rows hiding St
/-! ### rows one on another -/
theorem clo_app {A B : List Nat} {w m : Nat} : clo (A ++ B) w m = clo A w m &&& clo B w m := by
  refine sub_antisymm (sub_and (clo_less fun t h => List.mem_append_left _ h) (clo_less fun t h => List.mem_append_right _ h)) ?_
  refine sub_clo (Nat.lt_of_le_of_lt Nat.and_le_left (clo_lt _ _ _)) fun t ht hs => ?_
  rcases List.mem_append.mp ht with z | z
  · exact sub_trans (sub_and_left _ _) (clo_row' z hs)
  · exact sub_trans (sub_and_right _ _) (clo_row' z hs)
theorem mem_cls_app {A B : List Nat} {w c : Nat} : c ∈ cls (A ++ B) w (2 ^ w) ↔ ∃ a ∈ cls A w (2 ^ w), ∃ b ∈ cls B w (2 ^ w), a &&& b = c := by
  rw [mem_cls]
  constructor
  · rintro ⟨h1, h2⟩
    rw [clo_app] at h2
    exact ⟨clo A w c, mem_cls.mpr ⟨clo_lt _ _ _, clo_idem _ _ _⟩, clo B w c, mem_cls.mpr ⟨clo_lt _ _ _, clo_idem _ _ _⟩, h2⟩
  · rintro ⟨a, ha, b, hb, rfl⟩
    obtain ⟨a1, a2⟩ := mem_cls.mp ha
    obtain ⟨b1, b2⟩ := mem_cls.mp hb
    have hlt : a &&& b < 2 ^ w := Nat.lt_of_le_of_lt Nat.and_le_left a1
    refine ⟨hlt, sub_antisymm ?_ (clo_ext hlt)⟩
    rw [clo_app]
    refine sub_and ?_ ?_
    · have := clo_mono (rows := A) (w := w) (sub_and_left a b)
      rw [a2] at this
      exact sub_trans (sub_and_left _ _) this
    · have := clo_mono (rows := B) (w := w) (sub_and_right a b)
      rw [b2] at this
      exact sub_trans (sub_and_right _ _) this
/-! ### dicts from numbers to bools -/
def bD (ks : List Nat) (f : Nat → Bool) : List (Key × Dt) := ks.map fun (k : Nat) => ((Sum.inl (k : Int) : Key), Dt.bl (f k))
theorem bD_keys {ks : List Nat} {f : Nat → Bool} (h : ks.Nodup) : KeysN (bD ks f) ks := ⟨by unfold bD; rw [List.map_map]; rfl, h⟩
theorem inl_inj {a b : Nat} : ((Sum.inl (a : Int) : Key) = Sum.inl (b : Int)) ↔ a = b := ⟨fun h => by have := Sum.inl.inj h; omega, fun h => by rw [h]⟩
theorem bD_put {ks : List Nat} {f : Nat → Bool} {k : Nat} {b : Bool} : putD (bD ks f) (.inl (k : Int)) (.bl b) = bD (insN ks k) (fun j => if j = k then b else f j) := by
  have e1 : ((bD ks f).any fun kv => decide (kv.1 = (Sum.inl (k : Int) : Key))) = decide (k ∈ ks) := by
    unfold bD
    rw [List.any_map, Bool.eq_iff_iff, List.any_eq_true, decide_eq_true_eq]
    constructor
    · rintro ⟨x, hx, hq⟩
      have := inl_inj.mp (of_decide_eq_true hq)
      rw [← this]; exact hx
    · intro h
      exact ⟨k, h, decide_eq_true rfl⟩
  unfold putD insN
  rw [e1]
  by_cases h : k ∈ ks
  · rw [if_pos (by simpa using h), if_pos h]
    unfold bD
    rw [List.map_map]
    refine List.map_congr_left fun x hx => ?_
    show (if (Sum.inl (x : Int) : Key) = Sum.inl (k : Int) then ((Sum.inl (x : Int) : Key), Dt.bl b) else (Sum.inl (x : Int), Dt.bl (f x))) = _
    by_cases e : x = k
    · rw [if_pos (by rw [e])]; show _ = (_, Dt.bl (if x = k then b else f x)); rw [if_pos e]
    · rw [if_neg (fun z => e (inl_inj.mp z))]; show _ = (_, Dt.bl (if x = k then b else f x)); rw [if_neg e]
  · rw [if_neg (by simpa using h), if_neg h]
    unfold bD
    rw [List.map_append]
    congr 1
    · refine List.map_congr_left fun x hx => ?_
      show _ = (_, Dt.bl (if x = k then b else f x))
      rw [if_neg (fun e : x = k => h (by rw [← e]; exact hx))]
    · show _ = [((Sum.inl (k : Int) : Key), Dt.bl (if k = k then b else f k))]
      rw [if_pos rfl]
theorem insN_nodup {ks : List Nat} {k : Nat} (h : ks.Nodup) : (insN ks k).Nodup := by
  unfold insN
  split
  · exact h
  · rename_i hk
    rw [List.nodup_append]
    refine ⟨h, by simp, fun a ha b hb e => ?_⟩
    rw [List.mem_singleton] at hb
    subst e; subst hb
    exact hk ha
theorem insN_mem {ks : List Nat} {k : Nat} (h : k ∈ ks) : insN ks k = ks := if_pos h
theorem insN_len (ks : List Nat) (k : Nat) : (insN ks k).length ≤ ks.length + 1 := by
  unfold insN
  split
  · omega
  · rw [List.length_append]; exact Nat.le_refl _
theorem bD_len {ks : List Nat} {f : Nat → Bool} : (bD ks f).length = ks.length := by unfold bD; rw [List.length_map]
theorem bD_vals {ks : List Nat} {f : Nat → Bool} : ((bD ks f).map fun kv => kv.2) = (ks.map f).map Dt.bl := by
  unfold bD
  rw [List.map_map, List.map_map]
  rfl
theorem len_eq_of {xs ys : List Nat} (h1 : xs.Nodup) (h2 : ys.Nodup) (h : ∀ c, c ∈ xs ↔ c ∈ ys) : xs.length = ys.length :=
  Nat.le_antisymm (nodup_sub h1 fun x hx => (h x).mp hx) (nodup_sub h2 fun x hx => (h x).mpr hx)
/-! ### strings -/
abbrev snsD (xs : List Str) : Dt := .lst (xs.map Dt.str)
instance enc_str : Enc (fun x : {x : Str // PyData.strOk x = true} => Dt.str x.1) 0 := ⟨fun x => by
  exact x.2, fun _ => Nat.le_refl _, fun a b => by
  show (a.1 == b.1) = decide (a = b)
  by_cases e : a = b
  · subst e; simp
  · have : a.1 ≠ b.1 := fun z => e (Subtype.ext z)
    simp [e, this]⟩
theorem eqG_snsD {n : Bool} {xs : List Str} {P : DK} (h : ∀ x ∈ xs, PyData.strOk x = true) : dEqG n (.lst (xs.map Dt.str)) (.lst (xs.map Dt.str)) P = P .fz (.bl (true != n)) := by
  obtain ⟨ys, e⟩ : ∃ ys : List {x : Str // PyData.strOk x = true}, xs.map Dt.str = ys.map fun x => Dt.str x.1 := by
    induction xs with
    | nil => exact ⟨[], rfl⟩
    | cons x r ih =>
      obtain ⟨ys, e⟩ := ih fun y hy => h y (List.mem_cons_of_mem _ hy)
      exact ⟨⟨x, h x List.mem_cons_self⟩ :: ys, by rw [List.map_cons, List.map_cons, e]⟩
  rw [e, eqG_enc, decide_eq_true rfl]
def chS (j : Nat) : Str := ⟨#[("abcdefgh" : Str).cps.toList.getD j 0]⟩
def nmS (k : Nat) : Str := (("t" : Str) ++ chS (k / 8)) ++ chS (k % 8)
theorem ch_at {j : Nat} (h : j < 8) : L2.atI ("abcdefgh" : Str).cps.toList (j : Int) = some (("abcdefgh" : Str).cps.toList.getD j 0) := by
  have : j = 0 ∨ j = 1 ∨ j = 2 ∨ j = 3 ∨ j = 4 ∨ j = 5 ∨ j = 6 ∨ j = 7 := by omega
  rcases this with rfl | rfl | rfl | rfl | rfl | rfl | rfl | rfl <;> rfl
theorem nmS_nodup : ((List.range 60).map nmS).Nodup := by decide +kernel
theorem nmS_ok : ∀ k, k < 60 → PyData.strOk (nmS k) = true := by decide +kernel
theorem nmS_len : ∀ k, k < 60 → ((("t" : Str) ++ chS (k / 8)).length = 2 ∧ (chS (k % 8)).length = 1 ∧ (chS (k / 8)).length = 1) := by
  intro k _; exact ⟨by simp only [chS]; rfl, rfl, rfl⟩
def tabT (C l : Addr) (cs hs : List Str) (rows : List Nat) : Ot := .obj l C [("called", .pt (snsD cs)), ("headed", .pt (snsD hs)), ("sets", .pt (nats rows))]
def tabD (C : Addr) (cs hs : List Str) (rows : List Nat) : Dt := .obj C [("called", snsD cs), ("headed", snsD hs), ("sets", nats rows)]
theorem tabT_dt {C l : Addr} {cs hs : List Str} {rows : List Nat} : (tabT C l cs hs rows).dt = tabD C cs hs rows := rfl
theorem tabT_rd {C l : Addr} {cs hs : List Str} {rows : List Nat} {P : DK} : rdT (tabT C l cs hs rows) P = P (.rt (tabT C l cs hs rows)) (tabT C l cs hs rows).dt := rfl
theorem tabT_root {C l : Addr} {cs hs : List Str} {rows : List Nat} {m : Str} {P : Prop} : rootC C m (tabT C l cs hs rows) P = (fldO [("called", .pt (snsD cs)), ("headed", .pt (snsD hs)), ("sets", .pt (nats rows))] m = none ∧ P) := by
  unfold tabT
  exact propext ⟨fun h => h.2, fun h => ⟨rfl, h⟩⟩
/-- a table as a method is handed it: frozen, or fresh -/
def tabA (C : Addr) (o : Option Addr) (cs hs : List Str) (rows : List Nat) : Kd × Dt := match o with
  | none => (.fz, tabD C cs hs rows)
  | some l => (.rt (tabT C l cs hs rows), tabD C cs hs rows)
end Tq
set_option Elab.async false
set_option linter.all false
set_option autoImplicit false
set_option maxRecDepth 100000
set_option maxHeartbeats 4000000
namespace Tq
open PySem PySem.Spec L2
open PyProof.Rows hiding St
/-! ### the groups of the ideas; rows side by side -/
theorem hav_clo {rows : List Nat} {w m : Nat} (hm : m < 2 ^ w) : hav rows (clo rows w m) = hav rows m := Nat.eq_of_testBit_eq fun i => by
  rw [testBit_hav, testBit_hav]
  congr 1
  refine propext ⟨fun h => ⟨h.1, sub_trans (clo_ext hm) h.2⟩, fun h => ⟨h.1, ?_⟩⟩
  exact clo_row h.1 h.2
def grps (rows : List Nat) (w : Nat) : List Nat := (cls rows w (2 ^ w)).map (hav rows)
theorem mem_grps {rows : List Nat} {w g : Nat} : g ∈ grps rows w ↔ ∃ m, m < 2 ^ w ∧ hav rows m = g := by
  unfold grps
  rw [List.mem_map]
  constructor
  · rintro ⟨c, hc, h⟩
    exact ⟨c, (mem_cls.mp hc).1, h⟩
  · rintro ⟨m, hm, h⟩
    exact ⟨clo rows w m, mem_cls.mpr ⟨clo_lt _ _ _, clo_idem _ _ _⟩, by rw [hav_clo hm, h]⟩
theorem grps_nodup (rows : List Nat) (w : Nat) : (grps rows w).Nodup := by
  unfold grps
  refine List.Pairwise.map _ (R := fun a b => a ∈ cls rows w (2 ^ w) ∧ b ∈ cls rows w (2 ^ w) ∧ a ≠ b) (fun a b h e => ?_) ?_
  · obtain ⟨ha, hb, hne⟩ := h
    have a2 := (mem_cls.mp ha).2
    have b2 := (mem_cls.mp hb).2
    refine hne (sub_antisymm (hav_back a2 b2 ?_) (hav_back b2 a2 ?_))
    · rw [e]; exact sub_true.mpr fun k h => h
    · rw [e]; exact sub_true.mpr fun k h => h
  · refine List.Pairwise.imp_of_mem (fun ha hb h => ⟨ha, hb, Nat.ne_of_lt h⟩) (cls_sorted rows w (2 ^ w))
def sideR (ls rs : List Nat) (w : Nat) : List Nat := (ls.zip rs).map fun p => p.1 ||| p.2 * 2 ^ w
theorem sub_side {m1 m2 a b w : Nat} (h1 : m1 < 2 ^ w) (ha : a < 2 ^ w) : sub (m1 ||| m2 * 2 ^ w) (a ||| b * 2 ^ w) = (sub m1 a && sub m2 b) := by
  have tb : ∀ x y k : Nat, x < 2 ^ w → (x ||| y * 2 ^ w).testBit k = if k < w then x.testBit k else y.testBit (k - w) := fun x y k hx => by
    rw [Nat.testBit_or, Nat.testBit_mul_two_pow]
    by_cases hk : k < w
    · rw [if_pos hk]
      have : decide (w ≤ k) = false := decide_eq_false (by omega)
      simp [this]
    · rw [if_neg hk]
      have h2 : x.testBit k = false := Nat.testBit_lt_two_pow (Nat.lt_of_lt_of_le hx (Nat.pow_le_pow_right (by decide) (by omega)))
      have : decide (w ≤ k) = true := decide_eq_true (by omega)
      simp [this, h2]
  rw [Bool.eq_iff_iff, Bool.and_eq_true, sub_true, sub_true, sub_true]
  constructor
  · intro h
    refine ⟨fun k hk => ?_, fun k hk => ?_⟩
    · have hkw := bit_w h1 hk
      have := h k (by rw [tb _ _ _ h1, if_pos hkw]; exact hk)
      rw [tb _ _ _ ha, if_pos hkw] at this
      exact this
    · have := h (k + w) (by rw [tb _ _ _ h1, if_neg (by omega), Nat.add_sub_cancel]; exact hk)
      rw [tb _ _ _ ha, if_neg (by omega), Nat.add_sub_cancel] at this
      exact this
  · rintro ⟨g1, g2⟩ k hk
    rw [tb _ _ _ h1] at hk
    rw [tb _ _ _ ha]
    split at hk
    · rename_i h; rw [if_pos h]; exact g1 k hk
    · rename_i h; rw [if_neg h]; exact g2 _ hk
theorem side_len {ls rs : List Nat} {w : Nat} (h : ls.length = rs.length) : (sideR ls rs w).length = ls.length := by unfold sideR; rw [List.length_map, List.length_zip, h, Nat.min_self]
theorem hav_side {ls rs : List Nat} {w m1 m2 : Nat} (hl : ls.length = rs.length) (h : ∀ a ∈ ls, a < 2 ^ w) (h1 : m1 < 2 ^ w) : hav (sideR ls rs w) (m1 ||| m2 * 2 ^ w) = hav ls m1 &&& hav rs m2 := Nat.eq_of_testBit_eq fun i => by
  rw [Nat.testBit_and, testBit_hav, testBit_hav, testBit_hav, side_len hl, ← hl]
  by_cases hi : i < ls.length
  · have e : (sideR ls rs w).getD i 0 = ls[i] ||| rs[i] * 2 ^ w := by
      rw [getD_at _ 0 i (by rw [side_len hl]; exact hi)]
      unfold sideR
      rw [List.getElem_map, List.getElem_zip]
    rw [e, sub_side h1 (h _ (List.getElem_mem hi)), getD_at ls 0 i hi, getD_at rs 0 i (by omega)]
    simp [hi]
  · simp [hi]
theorem mem_grps_side {ls rs : List Nat} {w v g : Nat} (hl : ls.length = rs.length) (h : ∀ a ∈ ls, a < 2 ^ w) : g ∈ grps (sideR ls rs w) (w + v) ↔ ∃ a, a ∈ grps ls w ∧ ∃ b, b ∈ grps rs v ∧ a &&& b = g := by
  have hp := Nat.two_pow_pos w
  rw [mem_grps]
  constructor
  · rintro ⟨m, hm, rfl⟩
    have e : m = (m % 2 ^ w) ||| (m / 2 ^ w) * 2 ^ w := by
      refine Nat.eq_of_testBit_eq fun k => ?_
      rw [Nat.testBit_or, Nat.testBit_mul_two_pow, Nat.testBit_mod_two_pow, Nat.testBit_div_two_pow]
      by_cases hk : k < w
      · have : decide (w ≤ k) = false := decide_eq_false (by omega)
        simp [this, hk]
      · have : decide (w ≤ k) = true := decide_eq_true (by omega)
        rw [this, decide_eq_false hk, show k - w + w = k from by omega]
        simp
    refine ⟨hav ls (m % 2 ^ w), mem_grps.mpr ⟨_, Nat.mod_lt _ hp, rfl⟩, hav rs (m / 2 ^ w), mem_grps.mpr ⟨_, ?_, rfl⟩, ?_⟩
    · rw [Nat.pow_add, Nat.mul_comm] at hm
      exact Nat.div_lt_of_lt_mul (by rw [Nat.mul_comm]; exact hm)
    · rw [← hav_side hl h (Nat.mod_lt _ hp), ← e]
  · rintro ⟨a, ha, b, hb, rfl⟩
    obtain ⟨m1, h1, rfl⟩ := mem_grps.mp ha
    obtain ⟨m2, h2, rfl⟩ := mem_grps.mp hb
    refine ⟨m1 ||| m2 * 2 ^ w, ?_, hav_side hl h h1⟩
    refine Nat.or_lt_two_pow (Nat.lt_of_lt_of_le h1 (Nat.pow_le_pow_right (by decide) (by omega))) ?_
    rw [Nat.pow_add, Nat.mul_comm]
    exact (Nat.mul_lt_mul_left hp).mpr h2
end Tq
set_option Elab.async false
set_option linter.all false
set_option autoImplicit false
set_option maxHeartbeats 4000000
namespace Tq
open PySem PySem.Spec L2
/-! ### a place taken out of a set -/
def lessN (m p : Nat) : Nat := (m &&& (2 ^ p - 1)) ||| m / 2 ^ (p + 1) * 2 ^ p
theorem testBit_lessN {m p k : Nat} : (lessN m p).testBit k = if k < p then m.testBit k else m.testBit (k + 1) := by
  unfold lessN
  rw [Nat.testBit_or, Nat.testBit_and, testBit_full, Nat.testBit_mul_two_pow, Nat.testBit_div_two_pow]
  by_cases h : k < p
  · have h2 : ¬ p ≤ k := by omega
    simp [h, h2]
  · have h2 : p ≤ k := by omega
    have e : k - p + (p + 1) = k + 1 := by omega
    simp [h, h2, e]
theorem lessN_add (m p : Nat) : (m &&& (2 ^ p - 1)) + m / 2 ^ (p + 1) * 2 ^ p = lessN m p := by
  have h := nat_or_and_add (m &&& (2 ^ p - 1)) (m / 2 ^ (p + 1) * 2 ^ p)
  have e : (m &&& (2 ^ p - 1)) &&& (m / 2 ^ (p + 1) * 2 ^ p) = 0 := Nat.eq_of_testBit_eq fun k => by
    rw [Nat.testBit_and, Nat.testBit_and, testBit_full, Nat.testBit_mul_two_pow, Nat.zero_testBit]
    by_cases h : k < p
    · have h2 : ¬ p ≤ k := by omega
      simp [h2]
    · simp [h]
  unfold lessN
  omega
theorem lessN_lt {m p w : Nat} (h : m < 2 ^ (w + 1)) (hp : p ≤ w) : lessN m p < 2 ^ w := lt_pow_of fun k hk => by
  rw [testBit_lessN, if_neg (by omega)]
  exact testBit_ge h (by omega)
/-- a place more, empty -/
def moreN (m p : Nat) : Nat := (m &&& (2 ^ p - 1)) ||| m / 2 ^ p * 2 ^ (p + 1)
theorem testBit_moreN {m p k : Nat} : (moreN m p).testBit k = if k < p then m.testBit k else if k = p then false else m.testBit (k - 1) := by
  unfold moreN
  rw [Nat.testBit_or, Nat.testBit_and, testBit_full, Nat.testBit_mul_two_pow, Nat.testBit_div_two_pow]
  by_cases h : k < p
  · have h2 : ¬ p + 1 ≤ k := by omega
    simp [h, h2]
  · by_cases h2 : k = p
    · have h3 : ¬ p + 1 ≤ p := by omega
      subst h2
      simp [h3]
    · have h3 : p + 1 ≤ k := by omega
      have e : k - (p + 1) + p = k - 1 := by omega
      simp [h, h2, h3, e]
/-! ### a thing taken out -/
theorem getD_erase {rows : List Nat} {p t : Nat} : (rows.eraseIdx p).getD t 0 = rows.getD (if t < p then t else t + 1) 0 := by
  rw [List.getD_eq_getElem?_getD, List.getD_eq_getElem?_getD, List.getElem?_eraseIdx]
  split <;> rfl
theorem erase_map {α β : Type} (f : α → β) : ∀ (xs : List α) (p : Nat), (xs.map f).eraseIdx p = (xs.eraseIdx p).map f
  | [], _ => rfl
  | _ :: _, 0 => rfl
  | x :: xs, p + 1 => congrArg (f x :: ·) (erase_map f xs p)
theorem erase_len {rows : List Nat} {p : Nat} (hp : p < rows.length) : (rows.eraseIdx p).length + 1 = rows.length := by
  rw [List.length_eraseIdx, if_pos hp]; omega
theorem hav_erase {rows : List Nat} {p m : Nat} (hp : p < rows.length) : lessN (hav rows m) p = hav (rows.eraseIdx p) m := Nat.eq_of_testBit_eq fun k => by
  have hl := erase_len hp
  rw [testBit_lessN, testBit_hav, testBit_hav, testBit_hav, getD_erase]
  split
  · rename_i h
    have : k < rows.length ↔ k < (rows.eraseIdx p).length := by omega
    simp [this]
  · rename_i h
    have : k + 1 < rows.length ↔ k < (rows.eraseIdx p).length := by omega
    simp [this]
/-- fewer rows: closed in few is closed in many -/
theorem cl_erase {rows : List Nat} {p w m : Nat} (hp : p < rows.length) (hm : m < 2 ^ w) (h : clo (rows.eraseIdx p) w m = m) : clo rows w m = m := by
  have hl := erase_len hp
  refine sub_antisymm (sub_true.mpr fun k hk => ?_) (clo_ext hm)
  rw [← h, testBit_clo, decide_eq_true_eq]
  rw [testBit_clo, decide_eq_true_eq] at hk
  refine ⟨hk.1, fun t ht hs => ?_⟩
  rw [getD_erase] at hs ⊢
  split at hs
  · rename_i z; rw [if_pos z]; exact hk.2 t (by omega) hs
  · rename_i z; rw [if_neg z]; exact hk.2 (t + 1) (by omega) hs
theorem ids_erase {rows : List Nat} {p w : Nat} (hp : p < rows.length) :
    ((ids rows w (2 ^ w)).filter fun q => decide (sha (rows.eraseIdx p) w (lessN q.1 p) = q.2)).map (fun q => (lessN q.1 p, q.2)) = ids (rows.eraseIdx p) w (2 ^ w) := by
  unfold ids
  rw [List.filter_map, List.map_map]
  have e1 : ((fun q : Nat × Nat => decide (sha (rows.eraseIdx p) w (lessN q.1 p) = q.2)) ∘ fun m => (hav rows m, m)) = fun m => isCl (rows.eraseIdx p) w m := by
    funext m
    show decide (sha (rows.eraseIdx p) w (lessN (hav rows m) p) = m) = _
    rw [hav_erase hp]
    rfl
  have e2 : ((fun q : Nat × Nat => (lessN q.1 p, q.2)) ∘ fun m => (hav rows m, m)) = fun m => (hav (rows.eraseIdx p) m, m) := by
    funext m
    show (lessN (hav rows m) p, m) = _
    rw [hav_erase hp]
  rw [e1, e2]
  congr 1
  refine sorted_same (List.Pairwise.filter _ (cls_sorted rows w _)) (cls_sorted _ w _) fun k => ?_
  rw [List.mem_filter, mem_cls, mem_cls, isCl_iff]
  exact ⟨fun h => ⟨h.1.1, h.2⟩, fun h => ⟨⟨h.1, cl_erase hp h.1 h.2⟩, h.2⟩⟩
/-! ### ideas from a list in another order -/
theorem ids_sorted_of {rows : List Nat} {w : Nat} {L : List (Nat × Nat)} (hn : L.Nodup) (hm : ∀ q, q ∈ L ↔ q ∈ ids rows w (2 ^ w)) {g : Dt → Int} (hg : ∀ q : Nat × Nat, g (rul q) = (q.2 : Int)) {es : List Dt} (hp : es.Perm (L.map rul)) (ho : es.Pairwise fun a b => g a ≤ g b) :
    es = (ids rows w (2 ^ w)).map rul := by
  obtain ⟨L', p, rfl⟩ := perm_lift hp L rfl
  have hn' : L'.Nodup := (p.nodup_iff).mpr hn
  have hm' : ∀ q, q ∈ L' ↔ q ∈ ids rows w (2 ^ w) := fun q => (p.mem_iff).trans (hm q)
  rw [List.pairwise_map] at ho
  simp only [hg] at ho
  congr 1
  -- by masks
  have hstr : (L'.map (·.2)).Pairwise (· < ·) := by
    rw [List.pairwise_map]
    refine List.Pairwise.imp_of_mem (R := fun a b : Nat × Nat => a ≠ b ∧ (a.2 : Int) ≤ (b.2 : Int)) (fun {a b} ha hb h => ?_) (hn'.and ho)
    obtain ⟨h1, h2⟩ := h
    have qa := mem_ids.mp ((hm' a).mp ha)
    have qb := mem_ids.mp ((hm' b).mp hb)
    rcases Nat.lt_or_ge a.2 b.2 with z | z
    · exact z
    · exfalso
      have e : a.2 = b.2 := by omega
      exact h1 (Prod.ext (by rw [qa.2.2, qb.2.2, e]) e)
  have hcs : L'.map (·.2) = cls rows w (2 ^ w) := sorted_same hstr (cls_sorted rows w _) fun k => by
    rw [List.mem_map, mem_cls]
    constructor
    · rintro ⟨q, hq, rfl⟩
      have := mem_ids.mp ((hm' q).mp hq)
      exact ⟨this.1, this.2.1⟩
    · rintro ⟨h1, h2⟩
      exact ⟨(hav rows k, k), (hm' _).mpr (mem_ids.mpr ⟨h1, h2, rfl⟩), rfl⟩
  unfold ids
  rw [← hcs, List.map_map]
  refine (List.map_id L').symm.trans (List.map_congr_left fun q hq => ?_)
  have := mem_ids.mp ((hm' q).mp hq)
  show q = (hav rows q.2, q.2)
  rw [← this.2.2]
/-! ### a column put -/
def putC (rows : List Nat) (w g : Nat) : List Nat := (List.range rows.length).map fun k => rows.getD k 0 ||| (g / 2 ^ k &&& 1) * 2 ^ w
theorem putC_len (rows : List Nat) (w g : Nat) : (putC rows w g).length = rows.length := by simp [putC]
theorem putC_at {rows : List Nat} {w g t : Nat} (h : t < rows.length) : (putC rows w g).getD t 0 = rows.getD t 0 ||| (g / 2 ^ t &&& 1) * 2 ^ w := by
  rw [List.getD_eq_getElem?_getD]
  unfold putC
  simp [h]
theorem bit_one {g t : Nat} : (g / 2 ^ t &&& 1) = if g.testBit t then 1 else 0 := by
  rw [Nat.and_one_is_mod, Nat.testBit_eq_decide_div_mod_eq]
  have := Nat.mod_two_eq_zero_or_one (g / 2 ^ t)
  rcases this with h | h <;> simp [h]
theorem putC_bit {rows : List Nat} {w g t k : Nat} (h : t < rows.length) (hr : rows.getD t 0 < 2 ^ w) : ((putC rows w g).getD t 0).testBit k = if k = w then g.testBit t else (rows.getD t 0).testBit k := by
  rw [putC_at h, Nat.testBit_or, bit_one]
  by_cases hk : k = w
  · subst hk
    rw [testBit_ge hr (Nat.le_refl _), if_pos rfl, Bool.false_or]
    cases g.testBit t
    · simp
    · simp [testBit_pow]
  · rw [if_neg hk]
    have e : ((if g.testBit t = true then 1 else 0) * 2 ^ w).testBit k = false := by
      split
      · rw [Nat.one_mul, testBit_pow]; simp; omega
      · simp
    rw [e, Bool.or_false]
theorem hav_putC {rows : List Nat} {w g m : Nat} (hr : ∀ t, t < rows.length → rows.getD t 0 < 2 ^ w) (hg : g < 2 ^ rows.length) : hav (putC rows w g) m = if m.testBit w then hav rows (m ^^^ 2 ^ w) &&& g else hav rows m := Nat.eq_of_testBit_eq fun t => by
  have hx : ∀ k, (m ^^^ 2 ^ w).testBit k = if k = w then !(m.testBit w) else m.testBit k := fun k => by
    rw [Nat.testBit_xor, testBit_pow]
    by_cases hk : k = w
    · subst hk; simp
    · have : ¬ w = k := fun z => hk z.symm
      simp [hk, this]
  rw [testBit_hav, putC_len]
  by_cases ht : t < rows.length
  · have key : sub m ((putC rows w g).getD t 0) = true ↔ ∀ k, m.testBit k = true → (if k = w then g.testBit t else (rows.getD t 0).testBit k) = true := by
      rw [sub_true]
      constructor
      · intro h k hk
        rw [← putC_bit ht (hr t ht)]; exact h k hk
      · intro h k hk
        rw [putC_bit ht (hr t ht)]; exact h k hk
    split
    · rename_i hw
      rw [Nat.testBit_and, testBit_hav, Bool.eq_iff_iff, decide_eq_true_eq, Bool.and_eq_true, decide_eq_true_eq, key]
      constructor
      · rintro ⟨_, h⟩
        refine ⟨⟨ht, sub_true.mpr fun k hk => ?_⟩, ?_⟩
        · rw [hx] at hk
          split at hk
          · rw [hw] at hk; cases hk
          · rename_i hkw
            have := h k hk
            rw [if_neg hkw] at this; exact this
        · have := h w hw
          rw [if_pos rfl] at this; exact this
      · rintro ⟨⟨_, h⟩, h2⟩
        refine ⟨ht, fun k hk => ?_⟩
        by_cases hkw : k = w
        · rw [if_pos hkw]; exact h2
        · rw [if_neg hkw]
          exact sub_true.mp h k (by rw [hx, if_neg hkw]; exact hk)
    · rename_i hw
      rw [testBit_hav, Bool.eq_iff_iff, decide_eq_true_eq, decide_eq_true_eq, key]
      constructor
      · rintro ⟨_, h⟩
        refine ⟨ht, sub_true.mpr fun k hk => ?_⟩
        have := h k hk
        by_cases hkw : k = w
        · subst hkw; exact absurd hk hw
        · rw [if_neg hkw] at this; exact this
      · rintro ⟨_, h⟩
        refine ⟨ht, fun k hk => ?_⟩
        by_cases hkw : k = w
        · subst hkw; exact absurd hk hw
        · rw [if_neg hkw]; exact sub_true.mp h k hk
  · have e1 : decide (t < rows.length ∧ sub m ((putC rows w g).getD t 0) = true) = false := by simp [ht]
    rw [e1]
    split
    · rw [Nat.testBit_and, testBit_hav]; simp [ht]
    · rw [testBit_hav]; simp [ht]
/-- a group that is just the things of some mask comes back -/
theorem hav_sha {rows : List Nat} {w m : Nat} (hm : m < 2 ^ w) : hav rows (sha rows w (hav rows m)) = hav rows m := hav_clo hm
def putG (ps : List (Nat × Nat)) (g : Nat) (x : Nat) : Prop := ∃ p ∈ ps, x = p.1 ∨ x = p.1 &&& g
theorem ids_putC {rows : List Nat} {w g : Nat} (hr : ∀ t, t < rows.length → rows.getD t 0 < 2 ^ w) (hg : g < 2 ^ rows.length) {q : Nat × Nat} :
    (putG (ids rows w (2 ^ w)) g q.1 ∧ q.2 = sha (putC rows w g) (w + 1) q.1) ↔ q ∈ ids (putC rows w g) (w + 1) (2 ^ (w + 1)) := by
  have hp : 2 ^ w < 2 ^ (w + 1) := Nat.pow_lt_pow_right (by decide) (by omega)
  have hpu : 2 ^ (w + 1) = 2 ^ w + 2 ^ w := by rw [Nat.pow_succ]; omega
  have key : putG (ids rows w (2 ^ w)) g q.1 ↔ ∃ m, m < 2 ^ (w + 1) ∧ hav (putC rows w g) m = q.1 := by
    constructor
    · rintro ⟨p, hp', e⟩
      obtain ⟨h1, h2, h3⟩ := mem_ids.mp hp'
      rcases e with e | e
      · refine ⟨p.2, by omega, ?_⟩
        rw [hav_putC hr hg, if_neg (by rw [testBit_ge h1 (Nat.le_refl _)]; exact Bool.false_ne_true), ← h3, e]
      · refine ⟨p.2 ^^^ 2 ^ w, Nat.xor_lt_two_pow (by omega) hp, ?_⟩
        have hb : (p.2 ^^^ 2 ^ w).testBit w = true := by rw [Nat.testBit_xor, testBit_ge h1 (Nat.le_refl _), testBit_pow]; simp
        rw [hav_putC hr hg, if_pos hb, Nat.xor_assoc, Nat.xor_self, Nat.xor_zero, ← h3, e]
    · rintro ⟨m, hm, e⟩
      rw [hav_putC hr hg] at e
      split at e
      · rename_i hw
        have hlt : m ^^^ 2 ^ w < 2 ^ w := lt_pow_of fun k hk => by
          rw [Nat.testBit_xor, testBit_pow]
          by_cases hkw : w = k
          · subst hkw; rw [hw]; simp
          · rw [testBit_ge hm (by omega)]; simp [hkw]
        refine ⟨(hav rows (clo rows w (m ^^^ 2 ^ w)), clo rows w (m ^^^ 2 ^ w)), mem_ids.mpr ⟨clo_lt _ _ _, clo_idem _ _ _, rfl⟩, .inr ?_⟩
        rw [hav_clo hlt, ← e]
      · rename_i hw
        have hlt : m < 2 ^ w := lt_pow_of fun k hk => by
          by_cases hkw : w = k
          · subst hkw; simpa using hw
          · exact testBit_ge hm (by omega)
        refine ⟨(hav rows (clo rows w m), clo rows w m), mem_ids.mpr ⟨clo_lt _ _ _, clo_idem _ _ _, rfl⟩, .inl ?_⟩
        rw [hav_clo hlt, ← e]
  rw [key, mem_ids]
  constructor
  · rintro ⟨⟨m, hm, e1⟩, e2⟩
    rw [e2, ← e1]
    exact ⟨sha_lt _ _ _, clo_idem _ _ _, (hav_sha hm).symm⟩
  · rintro ⟨h1, h2, h3⟩
    refine ⟨⟨q.2, h1, h3.symm⟩, ?_⟩
    rw [h3]; exact h2.symm
/-! ### a column taken out -/
def cutC (rows : List Nat) (p : Nat) : List Nat := rows.map fun r => lessN r p
theorem cutC_len (rows : List Nat) (p : Nat) : (cutC rows p).length = rows.length := by simp [cutC]
theorem cutC_at {rows : List Nat} {p t : Nat} : (cutC rows p).getD t 0 = lessN (rows.getD t 0) p := by
  unfold cutC
  rw [List.getD_eq_getElem?_getD, List.getD_eq_getElem?_getD, List.getElem?_map]
  cases rows[t]? with
  | some x => rfl
  | none => simp [lessN]
theorem sub_cutC {m r p : Nat} : sub m (lessN r p) = true ↔ sub (moreN m p) r = true := by
  rw [sub_true, sub_true]
  constructor
  · intro h k hk
    rw [testBit_moreN] at hk
    split at hk
    · rename_i z
      have := h k hk
      rw [testBit_lessN, if_pos z] at this; exact this
    · split at hk
      · cases hk
      · rename_i z1 z2
        have := h (k - 1) hk
        rw [testBit_lessN, if_neg (by omega)] at this
        have e : k - 1 + 1 = k := by omega
        rw [e] at this; exact this
  · intro h k hk
    rw [testBit_lessN]
    split
    · rename_i z
      exact h k (by rw [testBit_moreN, if_pos z]; exact hk)
    · rename_i z
      refine h (k + 1) ?_
      rw [testBit_moreN, if_neg (by omega), if_neg (by omega)]
      exact hk
theorem hav_cutC {rows : List Nat} {p m : Nat} : hav (cutC rows p) m = hav rows (moreN m p) := Nat.eq_of_testBit_eq fun t => by
  rw [testBit_hav, testBit_hav, cutC_len, cutC_at]
  congr 1
  rw [sub_cutC]
theorem sha_cutC {rows : List Nat} {p w g : Nat} (hp : p ≤ w) : sha (cutC rows p) w g = lessN (sha rows (w + 1) g) p := Nat.eq_of_testBit_eq fun k => by
  rw [testBit_sha, testBit_lessN, cutC_len]
  split
  · rename_i z
    rw [testBit_sha]
    congr 1
    have e1 : (k < w) = (k < w + 1) := propext ⟨fun _ => by omega, fun _ => by omega⟩
    rw [e1]
    congr 1
    refine propext (forall_congr' fun t => forall_congr' fun _ => forall_congr' fun _ => ?_)
    rw [cutC_at, testBit_lessN, if_pos z]
  · rename_i z
    rw [testBit_sha]
    congr 1
    have e1 : (k < w) = (k + 1 < w + 1) := propext ⟨fun _ => by omega, fun _ => by omega⟩
    rw [e1]
    congr 1
    refine propext (forall_congr' fun t => forall_congr' fun _ => forall_congr' fun _ => ?_)
    rw [cutC_at, testBit_lessN, if_neg z]
theorem more_lt {m p w : Nat} (h : m < 2 ^ w) (hp : p ≤ w) : moreN m p < 2 ^ (w + 1) := lt_pow_of fun k hk => by
  rw [testBit_moreN, if_neg (by omega), if_neg (by omega)]
  exact testBit_ge h (by omega)
/-- the pairs that stay -/
def cutI (rows : List Nat) (w p : Nat) : List (Nat × Nat) := ((ids rows (w + 1) (2 ^ (w + 1))).filter fun q => decide (hav (cutC rows p) (lessN q.2 p) = q.1)).map fun q => (q.1, lessN q.2 p)
theorem mem_cutI {rows : List Nat} {w p : Nat} (hp : p ≤ w) {q : Nat × Nat} : q ∈ cutI rows w p ↔ q ∈ ids (cutC rows p) w (2 ^ w) := by
  unfold cutI
  rw [List.mem_map, mem_ids]
  constructor
  · rintro ⟨a, ha, rfl⟩
    obtain ⟨h1, h2⟩ := List.mem_filter.mp ha
    obtain ⟨h3, h4, h5⟩ := mem_ids.mp h1
    have h2 := of_decide_eq_true h2
    refine ⟨lessN_lt h3 hp, ?_, h2.symm⟩
    show sha (cutC rows p) w (hav (cutC rows p) (lessN a.2 p)) = lessN a.2 p
    rw [h2, sha_cutC hp, h5]
    show lessN (clo rows (w + 1) a.2) p = _
    rw [h4]
  · rintro ⟨h1, h2, h3⟩
    have hm := more_lt h1 hp
    have e1 : q.1 = hav rows (moreN q.2 p) := by rw [h3, hav_cutC]
    refine ⟨(q.1, sha rows (w + 1) q.1), List.mem_filter.mpr ⟨mem_ids.mpr ⟨sha_lt _ _ _, ?_, ?_⟩, ?_⟩, ?_⟩
    · show clo rows (w + 1) (sha rows (w + 1) q.1) = _
      rw [e1]; exact clo_idem _ _ _
    · show q.1 = hav rows (sha rows (w + 1) q.1)
      rw [e1]; exact (hav_sha hm).symm
    · refine decide_eq_true ?_
      show hav (cutC rows p) (lessN (sha rows (w + 1) q.1) p) = q.1
      rw [← sha_cutC hp]
      have : sha (cutC rows p) w q.1 = q.2 := by rw [h3]; exact h2
      rw [this, ← h3]
    · show (q.1, lessN (sha rows (w + 1) q.1) p) = q
      rw [← sha_cutC hp]
      have : sha (cutC rows p) w q.1 = q.2 := by rw [h3]; exact h2
      rw [this]
theorem cutI_nodup {rows : List Nat} {w p : Nat} : (cutI rows w p).Nodup := by
  unfold cutI
  have h0 : (ids rows (w + 1) (2 ^ (w + 1))).Pairwise fun a b => a.2 < b.2 := (found_ids rows (w + 1)).1
  rw [List.nodup_iff_pairwise_ne, List.pairwise_map]
  refine List.Pairwise.imp_of_mem (R := fun a b => a.2 < b.2) (fun {a b} ha hb h e => ?_) (List.Pairwise.filter _ h0)
  have ha := mem_ids.mp (List.mem_filter.mp ha).1
  have hb := mem_ids.mp (List.mem_filter.mp hb).1
  have e1 : a.1 = b.1 := (Prod.mk.inj e).1
  have : a.2 = b.2 := by
    rw [← ha.2.1, ← hb.2.1]
    show sha rows (w + 1) (hav rows a.2) = sha rows (w + 1) (hav rows b.2)
    rw [← ha.2.2, ← hb.2.2, e1]
  omega
/-- enumerate in a comprehension, no test -/
theorem lc_enum {α : Type} (xs : List α) (f : α → Dt) (h : Nat → Dt) {B : (Nat → List Dt → Prop) → Nat → Dt → List Dt → Prop} {Z : List Dt → Prop}
    (hs : ∀ (W : Nat → List Dt → Prop) (i : Nat) (hi : i < xs.length) (acc : List Dt), W (i + 1) (acc ++ [h i]) → B W i (.tup [.int (i : Int), f xs[i]]) acc) (hd : Z ((List.range xs.length).map h)) :
    ∃ W : Nat → List Dt → Prop, W 0 [] ∧ (∀ i x acc, (enumD (xs.map f))[i]? = some x → W i acc → B W i x acc) ∧ ∀ acc, W (enumD (xs.map f)).length acc → Z acc := by
  refine ⟨fun i acc => acc = (List.range i).map h, by simp, fun i x acc hx hw => ?_, fun acc hw => ?_⟩
  · obtain ⟨d, h1, rfl⟩ := enumD_at hx
    rw [List.getElem?_map] at h1
    cases e : xs[i]? with
    | none => rw [e] at h1; cases h1
    | some y =>
      rw [e] at h1
      cases h1
      obtain ⟨hi, rfl⟩ := List.getElem?_eq_some_iff.mp e
      refine hs _ i hi acc ?_
      show acc ++ [h i] = (List.range (i + 1)).map h
      rw [hw, List.range_succ, List.map_append, List.map_singleton]
  · rw [enumD_length, List.length_map] at hw
    rw [hw]
    exact hd
theorem KeysN.srt {ds : List (Key × Dt)} {ks : List Nat} (h : KeysN ds ks) : ∃ cs : List Nat, cs.Pairwise (· < ·) ∧ (∀ k, k ∈ cs ↔ k ∈ ks) ∧ cs.length = ks.length := by
  obtain ⟨N, hN⟩ : ∃ N, ∀ k ∈ ks, k < N := by
    clear h
    induction ks with
    | nil => exact ⟨0, by simp⟩
    | cons a ks ih =>
      obtain ⟨N, hN⟩ := ih
      refine ⟨max (a + 1) N, fun k hk => ?_⟩
      rcases List.mem_cons.mp hk with rfl | hk
      · omega
      · have := hN k hk; omega
  have hm : ∀ k, k ∈ (List.range N).filter (fun k => decide (k ∈ ks)) ↔ k ∈ ks := fun k => by
    rw [List.mem_filter, List.mem_range, decide_eq_true_eq]
    exact ⟨fun h => h.2, fun h => ⟨hN k h, h⟩⟩
  have hs : ((List.range N).filter (fun k => decide (k ∈ ks))).Pairwise (· < ·) := List.Pairwise.filter _ List.pairwise_lt_range
  exact ⟨_, hs, hm, len_eq_of (hs.imp fun h => Nat.ne_of_lt h) h.2 hm⟩
/-- the second number of a pair -/
def key2 : Dt → Int
  | .tup [_, .int j] => j
  | _ => 0
theorem key2_rul (q : Nat × Nat) : key2 (rul q) = (q.2 : Int) := rfl
theorem ids_len (rows : List Nat) (w n : Nat) : (ids rows w n).length ≤ n := by unfold ids; rw [List.length_map]; exact cls_length rows w n
end Tq

set_option Elab.async false
set_option linter.all false
set_option autoImplicit false
set_option maxRecDepth 100000
set_option maxHeartbeats 4000000

namespace Tq
open PySem PySem.Spec L2
open PyProof.Rows hiding St

theorem ne_wide_told : (("wide" : Str) = ("told" : Str)) = False := eq_false (by decide +kernel)
theorem ne_wide_pairs : (("wide" : Str) = ("pairs" : Str)) = False := eq_false (by decide +kernel)
theorem ne_wide_put_thing : (("wide" : Str) = ("put_thing" : Str)) = False := eq_false (by decide +kernel)
theorem ne_wide_take_thing : (("wide" : Str) = ("take_thing" : Str)) = False := eq_false (by decide +kernel)
theorem ne_wide_put_column : (("wide" : Str) = ("put_column" : Str)) = False := eq_false (by decide +kernel)
theorem ne_wide_take_column : (("wide" : Str) = ("take_column" : Str)) = False := eq_false (by decide +kernel)
theorem ne_wide_rows : (("wide" : Str) = ("rows" : Str)) = False := eq_false (by decide +kernel)
theorem ne_wide_width : (("wide" : Str) = ("width" : Str)) = False := eq_false (by decide +kernel)
theorem ne_wide_ideas : (("wide" : Str) = ("ideas" : Str)) = False := eq_false (by decide +kernel)
theorem ne_told_wide : (("told" : Str) = ("wide" : Str)) = False := eq_false (by decide +kernel)
theorem ne_told_pairs : (("told" : Str) = ("pairs" : Str)) = False := eq_false (by decide +kernel)
theorem ne_told_put_thing : (("told" : Str) = ("put_thing" : Str)) = False := eq_false (by decide +kernel)
theorem ne_told_take_thing : (("told" : Str) = ("take_thing" : Str)) = False := eq_false (by decide +kernel)
theorem ne_told_put_column : (("told" : Str) = ("put_column" : Str)) = False := eq_false (by decide +kernel)
theorem ne_told_take_column : (("told" : Str) = ("take_column" : Str)) = False := eq_false (by decide +kernel)
theorem ne_told_rows : (("told" : Str) = ("rows" : Str)) = False := eq_false (by decide +kernel)
theorem ne_told_width : (("told" : Str) = ("width" : Str)) = False := eq_false (by decide +kernel)
theorem ne_told_ideas : (("told" : Str) = ("ideas" : Str)) = False := eq_false (by decide +kernel)
theorem ne_pairs_wide : (("pairs" : Str) = ("wide" : Str)) = False := eq_false (by decide +kernel)
theorem ne_pairs_told : (("pairs" : Str) = ("told" : Str)) = False := eq_false (by decide +kernel)
theorem ne_pairs_put_thing : (("pairs" : Str) = ("put_thing" : Str)) = False := eq_false (by decide +kernel)
theorem ne_pairs_take_thing : (("pairs" : Str) = ("take_thing" : Str)) = False := eq_false (by decide +kernel)
theorem ne_pairs_put_column : (("pairs" : Str) = ("put_column" : Str)) = False := eq_false (by decide +kernel)
theorem ne_pairs_take_column : (("pairs" : Str) = ("take_column" : Str)) = False := eq_false (by decide +kernel)
theorem ne_pairs_rows : (("pairs" : Str) = ("rows" : Str)) = False := eq_false (by decide +kernel)
theorem ne_pairs_width : (("pairs" : Str) = ("width" : Str)) = False := eq_false (by decide +kernel)
theorem ne_pairs_ideas : (("pairs" : Str) = ("ideas" : Str)) = False := eq_false (by decide +kernel)
theorem ne_put_thing_wide : (("put_thing" : Str) = ("wide" : Str)) = False := eq_false (by decide +kernel)
theorem ne_put_thing_told : (("put_thing" : Str) = ("told" : Str)) = False := eq_false (by decide +kernel)
theorem ne_put_thing_pairs : (("put_thing" : Str) = ("pairs" : Str)) = False := eq_false (by decide +kernel)
theorem ne_take_thing_wide : (("take_thing" : Str) = ("wide" : Str)) = False := eq_false (by decide +kernel)
theorem ne_take_thing_told : (("take_thing" : Str) = ("told" : Str)) = False := eq_false (by decide +kernel)
theorem ne_take_thing_pairs : (("take_thing" : Str) = ("pairs" : Str)) = False := eq_false (by decide +kernel)
theorem ne_put_column_wide : (("put_column" : Str) = ("wide" : Str)) = False := eq_false (by decide +kernel)
theorem ne_put_column_told : (("put_column" : Str) = ("told" : Str)) = False := eq_false (by decide +kernel)
theorem ne_put_column_pairs : (("put_column" : Str) = ("pairs" : Str)) = False := eq_false (by decide +kernel)
theorem ne_take_column_wide : (("take_column" : Str) = ("wide" : Str)) = False := eq_false (by decide +kernel)
theorem ne_take_column_told : (("take_column" : Str) = ("told" : Str)) = False := eq_false (by decide +kernel)
theorem ne_take_column_pairs : (("take_column" : Str) = ("pairs" : Str)) = False := eq_false (by decide +kernel)
theorem ne_rows_wide : (("rows" : Str) = ("wide" : Str)) = False := eq_false (by decide +kernel)
theorem ne_rows_told : (("rows" : Str) = ("told" : Str)) = False := eq_false (by decide +kernel)
theorem ne_rows_pairs : (("rows" : Str) = ("pairs" : Str)) = False := eq_false (by decide +kernel)
theorem ne_width_wide : (("width" : Str) = ("wide" : Str)) = False := eq_false (by decide +kernel)
theorem ne_width_told : (("width" : Str) = ("told" : Str)) = False := eq_false (by decide +kernel)
theorem ne_width_pairs : (("width" : Str) = ("pairs" : Str)) = False := eq_false (by decide +kernel)
theorem ne_ideas_wide : (("ideas" : Str) = ("wide" : Str)) = False := eq_false (by decide +kernel)
theorem ne_ideas_told : (("ideas" : Str) = ("told" : Str)) = False := eq_false (by decide +kernel)
theorem ne_ideas_pairs : (("ideas" : Str) = ("pairs" : Str)) = False := eq_false (by decide +kernel)
local macro_rules
  | `(tactic| push_cast [$as,*]) => `(tactic| simp only [$as,*, sExprM, sSetM, sSetMF, sRetM, sSetFld, sSetFldF, sAugFld, sFalse, objP_obj, ptK_pt, ntK_fz, ntK_lst, ntK_dct, ntK_ft, setMs_cons, setMs_nil, put_nil, put_fl, putFl_some, repO, putO, sSetT, storT_fr, storT_ft, sAppP, sAppN, sSetIxP, sPopAt, sAppPop, sRetL, retL, sPar, sPar3, sSetIv, ivSet, plSet, Ot.put, Ot.dt_leaf, leafOf_leaf, nstOf, nstK, popZ_int, ixS_some, ixZ_int, endM, muP, mtE, stor_ft, stor_vt, stor_iv, storF_ft, storF_vt, storF_iv, retV_tr, sSetKy, setKyS_ow, setKyK_int, setKyK_str, setKyK_some, sSeq, sNil, sSet, sSetF, sRet, sRetN, sRetV, sIf, sApp, sSetIx, sAug, sAsg, sExpr, sPass, sBreak, sCont, sFz, frzE, hName, stor_fz, stor_vw, stor_fr, storF_fz, storF_vw, storF_fr, retV_fz, retV_vw, retV_ow, appS_ow, setIxS_ow, setIxZ_int, setIxN_some, augS_fz, hTup_tup, hsCons_cons, hsNil_nil, selS_t, selS_f, eSortK, sortK_lst, eListVals, valsD_dct, bLenD_dct, eAttr, eMeth, eNew, eCallMu, eMethMu, amNil, amCons, amMt, attK_rt, attK_vt, attK_fz, attT_obj, fldP_obj, fldK_some, getF_some, pFld, rootC_obj, mtK_rt, mtK_vt, mtK_ft, mtK_fz, msK_fz, msK_fr, msK_ft, msK_vw, msK_vt, msK_iv, arg2_fz, arg2_fr, arg2_ft, arg2_vw, arg2_vt, arg2_iv, dvD, fldO, fldD, pt_dt, pName, pIx, plS, eRdP, eRdN, eLenP, lenT_lst, lenT_leaf, rdT_leaf, rdT_pt, rdT_dct, rdT_obj, ivS, eIvIx, ivIx, eDisp1, disp1K, keyD, bList2_lst, bList2_tup, bList2_dct, bMaxL_lst, bMinL_lst, bAll_lst, bAny_lst, keyDt, klf_fz, klf_vw, klf_rd, klf_fr, lfs_nil, lfs_fz, lfs_rd, rdV_tr, rdV_mt, rdV_vt, rdV_iv, kst_ft, kit_ft, karg_ft, karg_rt, karg_vt, karg_iv, normA_lstr, normA_rt, normA_iv, normA_obj, normA_exc, normA_tupr, normA_intr, normA_blr, normA_strr, normA_nonr, normA_dctr, normA_rulr, startS_rt, startS_iv, iLstG, iEnG, iZpG, eCallD, eDct, eDGet, eDIn, dGet_int, dGet_str, getD'_some, dInD_int, dInD_str, dInD_dct, dInK_some, bSortedD_dct, dIsB_bl, dIsNotB_bl, iR3, r3P_int, bInt_int, bInt_bl, atI_3, band_one, bor_one, normA_rul, eVar, eC, eOp, eUn, eNot, eAnd, eOr, eIf, eChain, eSl, oNo, oPart, eTup, eLst, eCall, eCallN, eIsi, aNil, aCons, tB', bAnd, bOr, bNot, bYes, iLst, iTp, iR1, iR2, iEn, iZp, wipeD, allfz, dts, rdV_fz, rdV_vw, rdV_ow, dB_bl, selE_t, selE_f, selAnd_t, selAnd_f, selOr_t, selOr_f, dI0_int, dI_int, dI1_int, dAdd_int, dAdd_str, dAdd_lst, dIAdd_int, dIAdd_str, dMul_int, dEq_int, dEq_bl, dEq_str, dEq_lst, dEq_tup, dNe_int, dNe_bl, dNe_str, dNe_lst, dNe_tup, dIs_non, dIsNot_non, isNon_non, isNon_int, isNon_bl, isNon_str, isNon_lst, isNon_tup, dIn_lst, dIn_tup, dIx_lst, dIx_tup, dIx_str, optD_some, optB_some, optC_some, oPartK_int, dSl_lst, dSl_str, lstP_lst, tupP_tup, r1P_int, r2P_int, bLen_lst, bLen_tup, bLen_str, bList_lst, bList_tup, bDivmod_int, bAbs_int, bMax2_int, bMin2_int, bSorted_lst, bSum_lst, normA_lst, normA_tup, normA_int, normA_bl, normA_str, normA_non, normA_dct, norm_nil, norm_cons, kst_fz, kst_fr, kit_fz, kit_fr, kit_vw, karg_fz, karg_fr, karg_vw, karg_rd, iT_non_int, iT_non_list, iT_non_tuple, iT_non_str, iT_non_bool, iT_non_dict, iT_bl_int, iT_bl_list, iT_bl_tuple, iT_bl_str, iT_bl_bool, iT_bl_dict, iT_int_int, iT_int_list, iT_int_tuple, iT_int_str, iT_int_bool, iT_int_dict, iT_str_int, iT_str_list, iT_str_tuple, iT_str_str, iT_str_bool, iT_str_dict, iT_tup_int, iT_tup_list, iT_tup_tuple, iT_tup_str, iT_tup_bool, iT_tup_dict, iT_lst_int, iT_lst_list, iT_lst_tuple, iT_lst_str, iT_lst_bool, iT_lst_dict, iT_dct_int, iT_dct_list, iT_dct_tuple, iT_dct_str, iT_dct_bool, iT_dct_dict, startD, startS_nil, startS_mtc, startS_fz, startS_rd, List.length_cons, List.length_nil, List.reduceReplicate, List.cons_append, List.nil_append, List.append_nil, List.set_cons_zero, List.set_cons_succ, List.getElem?_cons_zero, List.getElem?_cons_succ, Nat.reduceAdd, Nat.reduceSub, true_and, and_true, ↓reduceIte, Bool.false_eq_true, if_true, if_false, reduceCtorEq, atI_0, atI_1, atI_2, Bool.not_true, Bool.not_false, forall_const, band_nat, bor_nat, bxor_nat, shl_nat, shl1_nat, shr_nat, flat_int, flat_str, flat_bl, flat_non, flat_nats, flat_ints, flat_strs, inD_ints, inD_nats, inD_strs, eqG_ints, eqG_nats, eqG_ruls, Bool.bne_false, Bool.bne_true, ne_wide_told, ne_wide_pairs, ne_wide_put_thing, ne_wide_take_thing, ne_wide_put_column, ne_wide_take_column, ne_wide_rows, ne_wide_width, ne_wide_ideas, ne_told_wide, ne_told_pairs, ne_told_put_thing, ne_told_take_thing, ne_told_put_column, ne_told_take_column, ne_told_rows, ne_told_width, ne_told_ideas, ne_pairs_wide, ne_pairs_told, ne_pairs_put_thing, ne_pairs_take_thing, ne_pairs_put_column, ne_pairs_take_column, ne_pairs_rows, ne_pairs_width, ne_pairs_ideas, ne_put_thing_wide, ne_put_thing_told, ne_put_thing_pairs, ne_take_thing_wide, ne_take_thing_told, ne_take_thing_pairs, ne_put_column_wide, ne_put_column_told, ne_put_column_pairs, ne_take_column_wide, ne_take_column_told, ne_take_column_pairs, ne_rows_wide, ne_rows_told, ne_rows_pairs, ne_width_wide, ne_width_told, ne_width_pairs, ne_ideas_wide, ne_ideas_told, ne_ideas_pairs])
  | `(tactic| push_cast only [$as,*]) => `(tactic| simp only [$as,*, sFor, sForO, sForP, leafOf_leaf, eLc, eLcN, eSortK, sortK_lst, eListVals, valsD_dct, bLenD_dct, eAttr, eMeth, eNew, eCallMu, eMethMu, amNil, amCons, amMt, attK_rt, attK_vt, attK_fz, attT_obj, fldP_obj, fldK_some, getF_some, pFld, rootC_obj, mtK_rt, mtK_vt, mtK_ft, mtK_fz, msK_fz, msK_fr, msK_ft, msK_vw, msK_vt, msK_iv, arg2_fz, arg2_fr, arg2_ft, arg2_vw, arg2_vt, arg2_iv, dvD, fldO, fldD, pt_dt, pName, pIx, plS, eRdP, eRdN, eLenP, lenT_lst, lenT_leaf, rdT_leaf, rdT_pt, rdT_dct, rdT_obj, ivS, eIvIx, ivIx, eDisp1, disp1K, keyD, bList2_lst, bList2_tup, bList2_dct, bMaxL_lst, bMinL_lst, bAll_lst, bAny_lst, keyDt, klf_fz, klf_vw, klf_rd, klf_fr, lfs_nil, lfs_fz, lfs_rd, rdV_tr, rdV_mt, rdV_vt, rdV_iv, kst_ft, kit_ft, karg_ft, karg_rt, karg_vt, karg_iv, normA_lstr, normA_rt, normA_iv, normA_obj, normA_exc, normA_tupr, normA_intr, normA_blr, normA_strr, normA_nonr, normA_dctr, normA_rulr, startS_rt, startS_iv, iLstG, iEnG, iZpG, eCallD, eDct, eDGet, eDIn, dGet_int, dGet_str, getD'_some, dInD_int, dInD_str, dInD_dct, dInK_some, bSortedD_dct, dIsB_bl, dIsNotB_bl, iR3, r3P_int, bInt_int, bInt_bl, atI_3, band_one, bor_one, normA_rul, eVar, eC, eOp, eUn, eNot, eAnd, eOr, eIf, eChain, eSl, oNo, oPart, eTup, eLst, eCall, eCallN, eIsi, aNil, aCons, tB', bAnd, bOr, bNot, bYes, iLst, iTp, iR1, iR2, iEn, iZp, wipeD, allfz, dts, rdV_fz, rdV_vw, rdV_ow, dB_bl, selE_t, selE_f, selAnd_t, selAnd_f, selOr_t, selOr_f, dI0_int, dI_int, dI1_int, dAdd_int, dAdd_str, dAdd_lst, dIAdd_int, dIAdd_str, dMul_int, dEq_int, dEq_bl, dEq_str, dEq_lst, dEq_tup, dNe_int, dNe_bl, dNe_str, dNe_lst, dNe_tup, dIs_non, dIsNot_non, isNon_non, isNon_int, isNon_bl, isNon_str, isNon_lst, isNon_tup, dIn_lst, dIn_tup, dIx_lst, dIx_tup, dIx_str, optD_some, optB_some, optC_some, oPartK_int, dSl_lst, dSl_str, lstP_lst, tupP_tup, r1P_int, r2P_int, bLen_lst, bLen_tup, bLen_str, bList_lst, bList_tup, bDivmod_int, bAbs_int, bMax2_int, bMin2_int, bSorted_lst, bSum_lst, normA_lst, normA_tup, normA_int, normA_bl, normA_str, normA_non, normA_dct, norm_nil, norm_cons, kst_fz, kst_fr, kit_fz, kit_fr, kit_vw, karg_fz, karg_fr, karg_vw, karg_rd, iT_non_int, iT_non_list, iT_non_tuple, iT_non_str, iT_non_bool, iT_non_dict, iT_bl_int, iT_bl_list, iT_bl_tuple, iT_bl_str, iT_bl_bool, iT_bl_dict, iT_int_int, iT_int_list, iT_int_tuple, iT_int_str, iT_int_bool, iT_int_dict, iT_str_int, iT_str_list, iT_str_tuple, iT_str_str, iT_str_bool, iT_str_dict, iT_tup_int, iT_tup_list, iT_tup_tuple, iT_tup_str, iT_tup_bool, iT_tup_dict, iT_lst_int, iT_lst_list, iT_lst_tuple, iT_lst_str, iT_lst_bool, iT_lst_dict, iT_dct_int, iT_dct_list, iT_dct_tuple, iT_dct_str, iT_dct_bool, iT_dct_dict, startD, startS_nil, startS_mtc, startS_fz, startS_rd, List.length_cons, List.length_nil, List.reduceReplicate, List.cons_append, List.nil_append, List.append_nil, List.set_cons_zero, List.set_cons_succ, List.getElem?_cons_zero, List.getElem?_cons_succ, Nat.reduceAdd, Nat.reduceSub, true_and, and_true, ↓reduceIte, Bool.false_eq_true, if_true, if_false, reduceCtorEq, atI_0, atI_1, atI_2, Bool.not_true, Bool.not_false, forall_const, band_nat, bor_nat, bxor_nat, shl_nat, shl1_nat, shr_nat, flat_int, flat_str, flat_bl, flat_non, flat_nats, flat_ints, flat_strs, inD_ints, inD_nats, inD_strs, eqG_ints, eqG_nats, eqG_ruls, Bool.bne_false, Bool.bne_true, ne_wide_told, ne_wide_pairs, ne_wide_put_thing, ne_wide_take_thing, ne_wide_put_column, ne_wide_take_column, ne_wide_rows, ne_wide_width, ne_wide_ideas, ne_told_wide, ne_told_pairs, ne_told_put_thing, ne_told_take_thing, ne_told_put_column, ne_told_take_column, ne_told_rows, ne_told_width, ne_told_ideas, ne_pairs_wide, ne_pairs_told, ne_pairs_put_thing, ne_pairs_take_thing, ne_pairs_put_column, ne_pairs_take_column, ne_pairs_rows, ne_pairs_width, ne_pairs_ideas, ne_put_thing_wide, ne_put_thing_told, ne_put_thing_pairs, ne_take_thing_wide, ne_take_thing_told, ne_take_thing_pairs, ne_put_column_wide, ne_put_column_told, ne_put_column_pairs, ne_take_column_wide, ne_take_column_told, ne_take_column_pairs, ne_rows_wide, ne_rows_told, ne_rows_pairs, ne_width_wide, ne_width_told, ne_width_pairs, ne_ideas_wide, ne_ideas_told, ne_ideas_pairs])
local macro_rules
  | `(tactic| walk_at "vx") => `(tactic| simp only [sExprM, sSetM, sSetMF, sRetM, sSetFld, sSetFldF, sAugFld, sFalse, objP_obj, ptK_pt, ntK_fz, ntK_lst, ntK_dct, ntK_ft, setMs_cons, setMs_nil, put_nil, put_fl, putFl_some, repO, putO, sSetT, storT_fr, storT_ft, sAppP, sAppN, sSetIxP, sPopAt, sAppPop, sRetL, retL, sPar, sPar3, sSetIv, ivSet, plSet, Ot.put, Ot.dt_leaf, leafOf_leaf, nstOf, nstK, popZ_int, ixS_some, ixZ_int, endM, muP, mtE, stor_ft, stor_vt, stor_iv, storF_ft, storF_vt, storF_iv, retV_tr, sSetKy, setKyS_ow, setKyK_int, setKyK_str, setKyK_some, sSeq, sNil, sSet, sSetF, sRet, sRetN, sRetV, sIf, sApp, sSetIx, sAug, sAsg, sExpr, sPass, sBreak, sCont, sFz, frzE, hName, stor_fz, stor_vw, stor_fr, storF_fz, storF_vw, storF_fr, retV_fz, retV_vw, retV_ow, appS_ow, setIxS_ow, setIxZ_int, setIxN_some, augS_fz, hTup_tup, hsCons_cons, hsNil_nil, selS_t, selS_f, eSortK, sortK_lst, eListVals, valsD_dct, bLenD_dct, eAttr, eMeth, eNew, eCallMu, eMethMu, amNil, amCons, amMt, attK_rt, attK_vt, attK_fz, attT_obj, fldP_obj, fldK_some, getF_some, pFld, rootC_obj, mtK_rt, mtK_vt, mtK_ft, mtK_fz, msK_fz, msK_fr, msK_ft, msK_vw, msK_vt, msK_iv, arg2_fz, arg2_fr, arg2_ft, arg2_vw, arg2_vt, arg2_iv, dvD, fldO, fldD, pt_dt, pName, pIx, plS, eRdP, eRdN, eLenP, lenT_lst, lenT_leaf, rdT_leaf, rdT_pt, rdT_dct, rdT_obj, ivS, eIvIx, ivIx, eDisp1, disp1K, keyD, bList2_lst, bList2_tup, bList2_dct, bMaxL_lst, bMinL_lst, bAll_lst, bAny_lst, keyDt, klf_fz, klf_vw, klf_rd, klf_fr, lfs_nil, lfs_fz, lfs_rd, rdV_tr, rdV_mt, rdV_vt, rdV_iv, kst_ft, kit_ft, karg_ft, karg_rt, karg_vt, karg_iv, normA_lstr, normA_rt, normA_iv, normA_obj, normA_exc, normA_tupr, normA_intr, normA_blr, normA_strr, normA_nonr, normA_dctr, normA_rulr, startS_rt, startS_iv, iLstG, iEnG, iZpG, eCallD, eDct, eDGet, eDIn, dGet_int, dGet_str, getD'_some, dInD_int, dInD_str, dInD_dct, dInK_some, bSortedD_dct, dIsB_bl, dIsNotB_bl, iR3, r3P_int, bInt_int, bInt_bl, atI_3, band_one, bor_one, normA_rul, eVar, eC, eOp, eUn, eNot, eAnd, eOr, eIf, eChain, eSl, oNo, oPart, eTup, eLst, eCall, eCallN, eIsi, aNil, aCons, tB', bAnd, bOr, bNot, bYes, iLst, iTp, iR1, iR2, iEn, iZp, wipeD, allfz, dts, rdV_fz, rdV_vw, rdV_ow, dB_bl, selE_t, selE_f, selAnd_t, selAnd_f, selOr_t, selOr_f, dI0_int, dI_int, dI1_int, dAdd_int, dAdd_str, dAdd_lst, dIAdd_int, dIAdd_str, dMul_int, dEq_int, dEq_bl, dEq_str, dEq_lst, dEq_tup, dNe_int, dNe_bl, dNe_str, dNe_lst, dNe_tup, dIs_non, dIsNot_non, isNon_non, isNon_int, isNon_bl, isNon_str, isNon_lst, isNon_tup, dIn_lst, dIn_tup, dIx_lst, dIx_tup, dIx_str, optD_some, optB_some, optC_some, oPartK_int, dSl_lst, dSl_str, lstP_lst, tupP_tup, r1P_int, r2P_int, bLen_lst, bLen_tup, bLen_str, bList_lst, bList_tup, bDivmod_int, bAbs_int, bMax2_int, bMin2_int, bSorted_lst, bSum_lst, normA_lst, normA_tup, normA_int, normA_bl, normA_str, normA_non, normA_dct, norm_nil, norm_cons, kst_fz, kst_fr, kit_fz, kit_fr, kit_vw, karg_fz, karg_fr, karg_vw, karg_rd, iT_non_int, iT_non_list, iT_non_tuple, iT_non_str, iT_non_bool, iT_non_dict, iT_bl_int, iT_bl_list, iT_bl_tuple, iT_bl_str, iT_bl_bool, iT_bl_dict, iT_int_int, iT_int_list, iT_int_tuple, iT_int_str, iT_int_bool, iT_int_dict, iT_str_int, iT_str_list, iT_str_tuple, iT_str_str, iT_str_bool, iT_str_dict, iT_tup_int, iT_tup_list, iT_tup_tuple, iT_tup_str, iT_tup_bool, iT_tup_dict, iT_lst_int, iT_lst_list, iT_lst_tuple, iT_lst_str, iT_lst_bool, iT_lst_dict, iT_dct_int, iT_dct_list, iT_dct_tuple, iT_dct_str, iT_dct_bool, iT_dct_dict, startD, startS_nil, startS_mtc, startS_fz, startS_rd, List.length_cons, List.length_nil, List.reduceReplicate, List.cons_append, List.nil_append, List.append_nil, List.set_cons_zero, List.set_cons_succ, List.getElem?_cons_zero, List.getElem?_cons_succ, Nat.reduceAdd, Nat.reduceSub, true_and, and_true, ↓reduceIte, Bool.false_eq_true, if_true, if_false, reduceCtorEq, atI_0, atI_1, atI_2, Bool.not_true, Bool.not_false, forall_const, band_nat, bor_nat, bxor_nat, shl_nat, shl1_nat, shr_nat, flat_int, flat_str, flat_bl, flat_non, flat_nats, flat_ints, flat_strs, inD_ints, inD_nats, inD_strs, eqG_ints, eqG_nats, eqG_ruls, Bool.bne_false, Bool.bne_true, ne_wide_told, ne_wide_pairs, ne_wide_put_thing, ne_wide_take_thing, ne_wide_put_column, ne_wide_take_column, ne_wide_rows, ne_wide_width, ne_wide_ideas, ne_told_wide, ne_told_pairs, ne_told_put_thing, ne_told_take_thing, ne_told_put_column, ne_told_take_column, ne_told_rows, ne_told_width, ne_told_ideas, ne_pairs_wide, ne_pairs_told, ne_pairs_put_thing, ne_pairs_take_thing, ne_pairs_put_column, ne_pairs_take_column, ne_pairs_rows, ne_pairs_width, ne_pairs_ideas, ne_put_thing_wide, ne_put_thing_told, ne_put_thing_pairs, ne_take_thing_wide, ne_take_thing_told, ne_take_thing_pairs, ne_put_column_wide, ne_put_column_told, ne_put_column_pairs, ne_take_column_wide, ne_take_column_told, ne_take_column_pairs, ne_rows_wide, ne_rows_told, ne_rows_pairs, ne_width_wide, ne_width_told, ne_width_pairs, ne_ideas_wide, ne_ideas_told, ne_ideas_pairs])
local macro_rules
  | `(tactic| walk_at "vi") => `(tactic| simp only [sFor, sForO, sForP, leafOf_leaf, eLc, eLcN, eSortK, sortK_lst, eListVals, valsD_dct, bLenD_dct, eAttr, eMeth, eNew, eCallMu, eMethMu, amNil, amCons, amMt, attK_rt, attK_vt, attK_fz, attT_obj, fldP_obj, fldK_some, getF_some, pFld, rootC_obj, mtK_rt, mtK_vt, mtK_ft, mtK_fz, msK_fz, msK_fr, msK_ft, msK_vw, msK_vt, msK_iv, arg2_fz, arg2_fr, arg2_ft, arg2_vw, arg2_vt, arg2_iv, dvD, fldO, fldD, pt_dt, pName, pIx, plS, eRdP, eRdN, eLenP, lenT_lst, lenT_leaf, rdT_leaf, rdT_pt, rdT_dct, rdT_obj, ivS, eIvIx, ivIx, eDisp1, disp1K, keyD, bList2_lst, bList2_tup, bList2_dct, bMaxL_lst, bMinL_lst, bAll_lst, bAny_lst, keyDt, klf_fz, klf_vw, klf_rd, klf_fr, lfs_nil, lfs_fz, lfs_rd, rdV_tr, rdV_mt, rdV_vt, rdV_iv, kst_ft, kit_ft, karg_ft, karg_rt, karg_vt, karg_iv, normA_lstr, normA_rt, normA_iv, normA_obj, normA_exc, normA_tupr, normA_intr, normA_blr, normA_strr, normA_nonr, normA_dctr, normA_rulr, startS_rt, startS_iv, iLstG, iEnG, iZpG, eCallD, eDct, eDGet, eDIn, dGet_int, dGet_str, getD'_some, dInD_int, dInD_str, dInD_dct, dInK_some, bSortedD_dct, dIsB_bl, dIsNotB_bl, iR3, r3P_int, bInt_int, bInt_bl, atI_3, band_one, bor_one, normA_rul, eVar, eC, eOp, eUn, eNot, eAnd, eOr, eIf, eChain, eSl, oNo, oPart, eTup, eLst, eCall, eCallN, eIsi, aNil, aCons, tB', bAnd, bOr, bNot, bYes, iLst, iTp, iR1, iR2, iEn, iZp, wipeD, allfz, dts, rdV_fz, rdV_vw, rdV_ow, dB_bl, selE_t, selE_f, selAnd_t, selAnd_f, selOr_t, selOr_f, dI0_int, dI_int, dI1_int, dAdd_int, dAdd_str, dAdd_lst, dIAdd_int, dIAdd_str, dMul_int, dEq_int, dEq_bl, dEq_str, dEq_lst, dEq_tup, dNe_int, dNe_bl, dNe_str, dNe_lst, dNe_tup, dIs_non, dIsNot_non, isNon_non, isNon_int, isNon_bl, isNon_str, isNon_lst, isNon_tup, dIn_lst, dIn_tup, dIx_lst, dIx_tup, dIx_str, optD_some, optB_some, optC_some, oPartK_int, dSl_lst, dSl_str, lstP_lst, tupP_tup, r1P_int, r2P_int, bLen_lst, bLen_tup, bLen_str, bList_lst, bList_tup, bDivmod_int, bAbs_int, bMax2_int, bMin2_int, bSorted_lst, bSum_lst, normA_lst, normA_tup, normA_int, normA_bl, normA_str, normA_non, normA_dct, norm_nil, norm_cons, kst_fz, kst_fr, kit_fz, kit_fr, kit_vw, karg_fz, karg_fr, karg_vw, karg_rd, iT_non_int, iT_non_list, iT_non_tuple, iT_non_str, iT_non_bool, iT_non_dict, iT_bl_int, iT_bl_list, iT_bl_tuple, iT_bl_str, iT_bl_bool, iT_bl_dict, iT_int_int, iT_int_list, iT_int_tuple, iT_int_str, iT_int_bool, iT_int_dict, iT_str_int, iT_str_list, iT_str_tuple, iT_str_str, iT_str_bool, iT_str_dict, iT_tup_int, iT_tup_list, iT_tup_tuple, iT_tup_str, iT_tup_bool, iT_tup_dict, iT_lst_int, iT_lst_list, iT_lst_tuple, iT_lst_str, iT_lst_bool, iT_lst_dict, iT_dct_int, iT_dct_list, iT_dct_tuple, iT_dct_str, iT_dct_bool, iT_dct_dict, startD, startS_nil, startS_mtc, startS_fz, startS_rd, List.length_cons, List.length_nil, List.reduceReplicate, List.cons_append, List.nil_append, List.append_nil, List.set_cons_zero, List.set_cons_succ, List.getElem?_cons_zero, List.getElem?_cons_succ, Nat.reduceAdd, Nat.reduceSub, true_and, and_true, ↓reduceIte, Bool.false_eq_true, if_true, if_false, reduceCtorEq, atI_0, atI_1, atI_2, Bool.not_true, Bool.not_false, forall_const, band_nat, bor_nat, bxor_nat, shl_nat, shl1_nat, shr_nat, flat_int, flat_str, flat_bl, flat_non, flat_nats, flat_ints, flat_strs, inD_ints, inD_nats, inD_strs, eqG_ints, eqG_nats, eqG_ruls, Bool.bne_false, Bool.bne_true, ne_wide_told, ne_wide_pairs, ne_wide_put_thing, ne_wide_take_thing, ne_wide_put_column, ne_wide_take_column, ne_wide_rows, ne_wide_width, ne_wide_ideas, ne_told_wide, ne_told_pairs, ne_told_put_thing, ne_told_take_thing, ne_told_put_column, ne_told_take_column, ne_told_rows, ne_told_width, ne_told_ideas, ne_pairs_wide, ne_pairs_told, ne_pairs_put_thing, ne_pairs_take_thing, ne_pairs_put_column, ne_pairs_take_column, ne_pairs_rows, ne_pairs_width, ne_pairs_ideas, ne_put_thing_wide, ne_put_thing_told, ne_put_thing_pairs, ne_take_thing_wide, ne_take_thing_told, ne_take_thing_pairs, ne_put_column_wide, ne_put_column_told, ne_put_column_pairs, ne_take_column_wide, ne_take_column_told, ne_take_column_pairs, ne_rows_wide, ne_rows_told, ne_rows_pairs, ne_width_wide, ne_width_told, ne_width_pairs, ne_ideas_wide, ne_ideas_told, ne_ideas_pairs])

structure Cz_Book (K : PySem.W.Frag) (mg : Str → Option Value) (C : Addr) : Prop where
  cl : Cls K C
  mg : mg "Book" = some (.ref C)
  n_wide : NoAttr K C "wide"
  n_told : NoAttr K C "told"
  n_pairs : NoAttr K C "pairs"
def topS (i : Nat) : Stmt := PySem.Challenge.pw_traitlattice_k28_whole_book_kept.main.body.getD i (.Pass ⟨0, 0, 0, 0⟩)
structure Bt (mg : Str → Option Value) : Prop where
  z_bool : mg "bool" = none
  z_divmod : mg "divmod" = none
  z_enumerate : mg "enumerate" = none
  z_int : mg "int" = none
  z_isinstance : mg "isinstance" = none
  z_len : mg "len" = none
  z_list : mg "list" = none
  z_range : mg "range" = none
  z_sorted : mg "sorted" = none
  z_tuple : mg "tuple" = none
  c_MOST_COLUMNS : ∃ u, mg "MOST_COLUMNS" = some u ∧ RelV (V.int 10) u
  c_MOST_THINGS : ∃ u, mg "MOST_THINGS" = some u ∧ RelV (V.int 60) u
section
variable {P : Program} {w : World} {K : PySem.W.Frag} {mg : Str → Option Value} {base : Heap} {C_Book : Addr}
abbrev s_law_cell_at : Stmt := topS 22
abbrev s_Book_init : Stmt := inClass (topS 17) 0
abbrev s_within : Stmt := topS 2
abbrev s_having : Stmt := topS 5
abbrev s_Book_put_thing : Stmt := inClass (topS 17) 1
abbrev s_less_member : Stmt := topS 15
abbrev s_ones : Stmt := topS 1
abbrev s_shared : Stmt := topS 4
abbrev s_Book_take_thing : Stmt := inClass (topS 17) 2
abbrev s_law_thing : Stmt := topS 33
abbrev s_mask_first : Stmt := topS 16
abbrev s_Book_put_column : Stmt := inClass (topS 17) 3
abbrev s_Book_take_column : Stmt := inClass (topS 17) 4
abbrev s_law_less : Stmt := topS 32
abbrev s_law_column : Stmt := topS 34
abbrev s_Book_ideas : Stmt := inClass (topS 17) 7
abbrev s_law_whole : Stmt := topS 23
abbrev s_law_pair : Stmt := topS 24
abbrev s_law_having : Stmt := topS 25
abbrev s_law_shared : Stmt := topS 26
abbrev s_law_pairs : Stmt := topS 27
abbrev s_law_all : Stmt := topS 28
abbrev s_law_ideas : Stmt := topS 29
abbrev s_Book_rows : Stmt := inClass (topS 17) 5
abbrev s_Book_width : Stmt := inClass (topS 17) 6
abbrev s_law_table : Stmt := topS 30
abbrev s_law_right : Stmt := topS 31
abbrev s_closed : Stmt := topS 6
abbrev s_next_mask : Stmt := topS 19
abbrev s_ideas : Stmt := topS 20
abbrev s_law : Stmt := topS 35
/-! ### _law_cell_at -/

def sp_law_cell_at : DSp := fun as P => ∃ (ns : List Int) (k : Nat), as = [(.rd, intsD ns), (.fz, nat k)] ∧ P .fz (.int (ns.getD k 0))

theorem sc_law_cell_at : FnScope ["script", "k"] ["script", "k"] (defScope s_law_cell_at) := ⟨rfl, rfl, rfl, by decide +kernel, rfl, by decide +kernel, by decide +kernel⟩
def t_law_cell_at : TSd := (sSeq (sIf (tB' (eOp dLt (eVar 1) (eCall bLen (aCons (eVar 0) aNil))))
 (sRet (eOp dIx (eVar 0) (eVar 1)))
 sNil)
 (sRet (eC (.int 0))))
theorem vs_law_cell_at (B : Bt mg) (f : Addr) (cdv : Value) (A : Around) (outer : List Env) (s : Shared) (H : Hp) (E : XK) (e0 : Hs) (hr : Room 0 (A.deeper (envOfC "_law_cell_at" (defScope s_law_cell_at) s.heap.objs.size f cdv))) :
    VSs (cxOf CX0 P w K mg base ["script", "k"] "_law_cell_at" (defScope s_law_cell_at) f cdv A outer s H E).nox e0 WX0 (defBody s_law_cell_at) (t_law_cell_at) := by
  have Sc := sc_law_cell_at
  exact (vss_cons (vs_if (vt_cmp vo_lt (ve_var 1 (pv 1)) (ve_callB (vc_lenK (K := K) rfl) (by rfl) B.z_len PySem.boot_len (va_cons (ve_var 0 (pv 0)) va_nil)) (nomark _))
 (vss_one (vs_ret (ve_ixK (K := K) rfl (ve_var 0 (pv 0)) (ve_var 1 (pv 1)) (fun _ _ => rfl))))
 vss_nil)
 (vss_one (vs_ret ve_int)))
theorem len_law_cell_at : ∀ as P, sp_law_cell_at as P → as.length = 2 := by
  rintro as P ⟨ks, k, rfl, _⟩; rfl
theorem rd_law_cell_at : ∀ as P, sp_law_cell_at as P → t_law_cell_at { nx := fun _ => P .fz .non, rt := fun k x => k.st = true ∧ P k x } (startD 2 as) := by
  rintro as P ⟨ns, k, rfl, hP⟩
  push_cast [t_law_cell_at, List.length_map]
  refine selS_dec (fun h => ?_) (fun h => ?_)
  · have h' : k < ns.length := by omega
    push_cast [atI_map ns _ k h']
    rw [List.getD_eq_getElem?_getD, List.getElem?_eq_getElem h'] at hP
    exact hP
  · walk_at "vx"
    rw [List.getD_eq_getElem?_getD, List.getElem?_eq_none_iff.mpr (by omega)] at hP
    exact hP

theorem ok_law_cell_at (B : Bt mg) (d : Df K mg "_law_cell_at" s_law_cell_at ["script", "k"]) : Has P w K mg base 1 "_law_cell_at" ["script", "k"] sp_law_cell_at :=
  has_ok d sc_law_cell_at (by decide) (vs_law_cell_at B) len_law_cell_at rd_law_cell_at
/-! ### Book.__init__ -/
def sp_Book_init (C_Book : Addr) : DMu := fun as P PE => ∃ (l : Addr) (x : Dt) (w : Nat), as = [(.mt (.obj l C_Book []), x), (.fz, nat w)] ∧ w ≤ 20 ∧ ∀ lt, P .fz .non [bookT C_Book l lt w []]

theorem sc_Book_init : FnScope ["self", "width"] ["self", "width"] (defScope s_Book_init) := ⟨rfl, rfl, rfl, by decide +kernel, rfl, by decide +kernel, by decide +kernel⟩
def t_Book_init (C_Book : Addr) : TSd := (sSeq (sSetFldF C_Book (pName 0) "wide" (eVar 1))
 (sSeq (sSetFld C_Book (pName 0) "told" (eLst aNil))
 (sSetFldF C_Book (pName 0) "pairs" (eLst (aCons (eTup (aCons (eC (.int 0)) (aCons (eOp dSub (eOp dShl (eC (.int 1)) (eVar 1)) (eC (.int 1))) aNil))) aNil)))))
theorem vs_Book_init (B : Bt mg) (c_Book : Cz_Book K mg C_Book) (f : Addr) (cdv : Value) (A : Around) (outer : List Env) (s : Shared) (H : Hp) (E : XK) (e0 : Hs) (hr : Room 0 (A.deeper (envOfC "Book.__init__" (defScope s_Book_init) s.heap.objs.size f cdv))) :
    VSs (cxOf CX0 P w K mg base ["self", "width"] "Book.__init__" (defScope s_Book_init) f cdv A outer s H E).nox e0 (fun c d σ H => E c d H) (defBody s_Book_init) (t_Book_init C_Book) := by
  have Sc := sc_Book_init
  exact (vss_cons (vs_setFldF (vp_name 0 (pv 0)) (ve_var 1 (pv 1)) c_Book.cl c_Book.n_wide (fun h h' => ps_fld h h' (by rfl)))
 (vss_cons (vs_setFld (vp_name 0 (pv 0)) (ve_lst va_nil) c_Book.cl c_Book.n_told (fun h h' => ps_fld h h' (by rfl)))
 (vss_one (vs_setFldF (vp_name 0 (pv 0)) (ve_lst (va_cons (ve_tup (va_cons ve_int (va_cons (ve_op vo_sub (ve_op vo_shl ve_int (ve_var 1 (pv 1))) ve_int) va_nil))) va_nil)) c_Book.cl c_Book.n_pairs (fun h h' => ps_fld h h' (by rfl))))))
theorem len_Book_init : ∀ as P PE, sp_Book_init C_Book as P PE → as.length = 2 ∧ mupos 0 as = [0] := by
  rintro as P PE ⟨_, _, _, rfl, _⟩; exact ⟨rfl, rfl⟩
theorem rd_Book_init : ∀ as P PE, sp_Book_init C_Book as P PE → t_Book_init C_Book (endM [0] P PE) (startD 2 as) := by
  rintro as P PE ⟨l, x, w, rfl, hw, hP⟩
  push_cast [t_Book_init, pow_sub_one]
  refine ⟨by decide, by decide, fun lt => ?_⟩
  refine ⟨cpow1 (by omega), by decide, ?_⟩
  have h := hP lt
  unfold bookT bookO at h
  rw [ids_nil] at h
  exact h

theorem ok_Book_init (B : Bt mg) (d : DfI K mg "Book" C_Book "Book.__init__" s_Book_init ["self", "width"]) (c_Book : Cz_Book K mg C_Book) : HasNew P w K mg base 1 "Book" C_Book ["self", "width"] [] (sp_Book_init C_Book) :=
  hasNew_ok d sc_Book_init (by decide) (vs_Book_init B c_Book) len_Book_init rd_Book_init
/-! ### within -/
def sp_within : DSp := fun as P => ∃ a b : Nat, as = [(.fz, nat a), (.fz, nat b)] ∧ P .fz (.bl (decide (a &&& b = a)))

theorem sc_within : FnScope ["small", "large"] ["small", "large"] (defScope s_within) := ⟨rfl, rfl, rfl, by decide +kernel, rfl, by decide +kernel, by decide +kernel⟩
def t_within : TSd := (sRet (eOp dEq (eOp dAnd (eVar 0) (eVar 1)) (eVar 0)))
theorem vs_within (B : Bt mg) (f : Addr) (cdv : Value) (A : Around) (outer : List Env) (s : Shared) (H : Hp) (E : XK) (e0 : Hs) (hr : Room 0 (A.deeper (envOfC "within" (defScope s_within) s.heap.objs.size f cdv))) :
    VSs (cxOf CX0 P w K mg base ["small", "large"] "within" (defScope s_within) f cdv A outer s H E).nox e0 WX0 (defBody s_within) (t_within) := by
  have Sc := sc_within
  exact (vss_one (vs_ret (ve_cmp (vo_eqK (K := K) rfl hr.units) (ve_op vo_and (ve_var 0 (pv 0)) (ve_var 1 (pv 1))) (ve_var 0 (pv 0)) (nomark _))))
theorem len_within : ∀ as P, sp_within as P → as.length = 2 := by
  rintro as P ⟨a, b, rfl, _⟩; rfl
theorem rd_within : ∀ as P, sp_within as P → t_within { nx := fun _ => P .fz .non, rt := fun k x => k.st = true ∧ P k x } (startD 2 as) := by
  rintro as P ⟨a, b, rfl, hP⟩
  push_cast [t_within, dec_nat]
  exact hP

theorem ok_within (B : Bt mg) (d : Df K mg "within" s_within ["small", "large"]) : Has P w K mg base 1 "within" ["small", "large"] sp_within :=
  has_ok d sc_within (by decide) (vs_within B) len_within rd_within
/-! ### having -/
def sp_having : DSp := fun as P => ∃ (rows : List Nat) (m : Nat), as = [(.rd, nats rows), (.fz, nat m)] ∧ rows.length ≤ 1000 ∧ P .fz (nat (hav rows m))

theorem sc_having : FnScope ["rows", "mask", "group", "thing", "row"] ["rows", "mask"] (defScope s_having) := ⟨rfl, rfl, rfl, by decide +kernel, rfl, by decide +kernel, by decide +kernel⟩
def t_having : TSd := (sSeq (sSetF 2 (eC (.int 0)))
 (sSeq (sFor (iEn (eVar 0)) (hTup 2 (hsCons (hName 3) (hsCons (hName 4) hsNil)))
 (sIf (tB' (eCallN sp_within (aCons (eVar 1) (aCons (eVar 4) aNil))))
 (sSetF 2 (eOp dOr (eVar 2) (eOp dShl (eC (.int 1)) (eVar 3))))
 sNil))
 (sRet (eVar 2))))
theorem vs_having (B : Bt mg) (h_within : Has P w K mg base 1 "within" ["small", "large"] sp_within) (f : Addr) (cdv : Value) (A : Around) (outer : List Env) (s : Shared) (H : Hp) (E : XK) (e0 : Hs) (hr : Room 1 (A.deeper (envOfC "having" (defScope s_having) s.heap.objs.size f cdv))) :
    VSs (cxOf CX0 P w K mg base ["rows", "mask", "group", "thing", "row"] "having" (defScope s_having) f cdv A outer s H E).nox e0 WX0 (defBody s_having) (t_having) := by
  have Sc := sc_having
  exact (vss_cons (vs_setF' (i := 2) ve_int (fun h => ps_set Sc.nd rfl (.inl rfl) h))
 (vss_cons (vs_for PassesOwn.never rfl (vi_enumK (K := K) rfl (ve_var 0 (pv 0)) (fun h => pi_enum (by rfl) B.z_enumerate (pa_cons h pa_nil))) (vg_tupK (K := K) rfl rfl (vgs_cons (vg_name (pg_name (i := 3) Sc.nd rfl (.inl rfl))) (vgs_cons (vg_name (pg_name (i := 4) Sc.nd rfl (.inl rfl))) vgs_nil)))
 (vss_one (vs_if (vt_val (ve_callN (K := K) rfl h_within (hr.mono (by decide)) (by rfl) (va_cons (ve_var 1 (pv 1)) (va_cons (ve_var 4 (pv 4)) va_nil))))
 (vss_one (vs_setF' (i := 2) (ve_op vo_or (ve_var 2 (pv 2)) (ve_op vo_shl ve_int (ve_var 3 (pv 3)))) (fun h => ps_set Sc.nd rfl (.inl rfl) h)))
 vss_nil)))
 (vss_one (vs_ret (ve_var 2 (pv 2))))))
theorem len_having : ∀ as P, sp_having as P → as.length = 2 := by
  rintro as P ⟨ks, _, rfl, _⟩; rfl
theorem rd_having : ∀ as P, sp_having as P → t_having { nx := fun _ => P .fz .non, rt := fun k x => k.st = true ∧ P k x } (startD 5 as) := by
  rintro as P ⟨rows, m, rfl, hl, hP⟩
  push_cast [t_having]
  walk_at "vi"
  refine for_enum rows nat (fun i ρ => ρ = [.v .vw (nats rows), .v .fz (nat m), .v .fz (nat (hav (rows.take i) m)), .no, .no]) ⟨_, .refl _, by simp [hav, setOf]⟩ ?_ ?_
  · rintro i hi ρ rfl
    walk_at "vx"
    refine ⟨m, rows[i], rfl, ?_⟩
    walk_at "vx"
    rw [hav_take rows m i hi]
    refine selS_b (fun h => ?_) (fun h => ?_)
    · walk_at "vx"
      refine ⟨cpow1 (by omega), _, .no 3 (.no 4 (.refl _)), ?_⟩
      rw [if_pos (show sub m rows[i] = true from h)]
      rfl
    · walk_at "vx"
      refine ⟨_, .no 3 (.no 4 (.refl _)), ?_⟩
      rw [if_neg (show ¬ sub m rows[i] = true from by unfold sub; rw [h]; exact Bool.false_ne_true)]
      rfl
  · rintro ρ rfl
    push_cast [List.take_length]
    exact hP

theorem ok_having (B : Bt mg) (d : Df K mg "having" s_having ["rows", "mask"]) (h_within : Has P w K mg base 1 "within" ["small", "large"] sp_within) : Has P w K mg base 2 "having" ["rows", "mask"] sp_having :=
  has_ok d sc_having (by decide) (vs_having B h_within) len_having rd_having
/-! ### Book.put_thing -/
def sp_Book_put_thing (C_Book : Addr) : DMu := fun as P PE => ∃ (l lt : Addr) (x : Dt) (w r : Nat) (rows : List Nat), as = [(.mt (bookT C_Book l lt w rows), x), (.fz, nat r)] ∧ rows.length < 60 ∧ w ≤ 20 ∧ r < 2 ^ w ∧ P .fz .non [bookT C_Book l lt w (rows ++ [r])]

theorem sc_Book_put_thing : FnScope ["self", "row", "masks", "pair", "mask"] ["self", "row"] (defScope s_Book_put_thing) := ⟨rfl, rfl, rfl, by decide +kernel, rfl, by decide +kernel, by decide +kernel⟩
def t_Book_put_thing (C_Book : Addr) : TSd := (sSeq (sIf (tB' (eOp dGe (eCall bLen (aCons (eRdP (pFld C_Book (pName 0) "told")) aNil)) (eC (.int 60))))
 sFalse
 sNil)
 (sSeq (sIf (bOr (tB' (eOp dLt (eVar 1) (eC (.int 0)))) (tB' (eOp dGt (eOp dShr (eVar 1) (eRdP (pFld C_Book (pName 0) "wide"))) (eC (.int 0)))))
 sFalse
 sNil)
 (sSeq (sAppP (pFld C_Book (pName 0) "told") (eVar 1))
 (sSeq (sSet 2 eDct)
 (sSeq (sFor (iLst (eRdP (pFld C_Book (pName 0) "pairs"))) (hName 3)
 (sSeq (sSetKy 2 (eOp dIx (eVar 3) (eC (.int 1))) (eC (.bl true)))
 (sSetKy 2 (eOp dAnd (eOp dIx (eVar 3) (eC (.int 1))) (eVar 1)) (eC (.bl true)))))
 (sSetFldF C_Book (pName 0) "pairs" (eLc (iLstG (eCall bSortedD (aCons (eVar 2) aNil))) (hName 4) bYes (eTup (aCons (eCallN sp_having (aCons (eRdP (pFld C_Book (pName 0) "told")) (aCons (eVar 4) aNil))) (aCons (eVar 4) aNil))) [4])))))))
theorem vs_Book_put_thing (B : Bt mg) (c_Book : Cz_Book K mg C_Book) (h_having : Has P w K mg base 2 "having" ["rows", "mask"] sp_having) (f : Addr) (cdv : Value) (A : Around) (outer : List Env) (s : Shared) (H : Hp) (E : XK) (e0 : Hs) (hr : Room 2 (A.deeper (envOfC "Book.put_thing" (defScope s_Book_put_thing) s.heap.objs.size f cdv))) :
    VSs (cxOf CX0 P w K mg base ["self", "row", "masks", "pair", "mask"] "Book.put_thing" (defScope s_Book_put_thing) f cdv A outer s H E).nox e0 (fun c d σ H => E c d H) (defBody s_Book_put_thing) (t_Book_put_thing C_Book) := by
  have Sc := sc_Book_put_thing
  exact (vss_cons (vs_if (vt_cmp vo_ge (ve_callB (vc_lenK (K := K) rfl) (by rfl) B.z_len PySem.boot_len (va_cons (ve_pl (vp_fldK (K := K) rfl (vp_name 0 (pv 0)) c_Book.cl c_Book.n_told)) va_nil)) (ve_glob (by rfl) B.c_MOST_THINGS (fun _ => .int _)) (nomark _))
 (vss_one vs_never)
 vss_nil)
 (vss_cons (vs_if (VW.vt (vw_or (vt_cmp vo_lt (ve_var 1 (pv 1)) ve_int (nomark _)) (vw_or1 (vt_cmp vo_gt (ve_op vo_shr (ve_var 1 (pv 1)) (ve_pl (vp_fldK (K := K) rfl (vp_name 0 (pv 0)) c_Book.cl c_Book.n_wide))) ve_int (nomark _)))))
 (vss_one vs_never)
 vss_nil)
 (vss_cons (vs_appP (vp_fldK (K := K) rfl (vp_name 0 (pv 0)) c_Book.cl c_Book.n_told) (ve_var 1 (pv 1)) (fun h h' => ps_expr (pe_bm PySem.F.plainAttrs_list PySem.F.slot_list_append PySem.F.type_list_append mt_append h (pa_cons h' pa_nil))))
 (vss_cons (vs_set' (i := 2) ve_dct (fun h => ps_set Sc.nd rfl (.inl rfl) h))
 (vss_cons (vs_for PassesOwn.never rfl (vi_listK (K := K) rfl (ve_pl (vp_fldK (K := K) rfl (vp_name 0 (pv 0)) c_Book.cl c_Book.n_pairs))) (vg_name (pg_name (i := 3) Sc.nd rfl (.inl rfl)))
 (vss_cons (vs_setKy' (i := 2) ve_bl (ve_ixK (K := K) rfl (ve_var 3 (pv 3)) ve_int (fun _ _ => rfl)) (fun h h' => ps_dput (units1 hr.units) (pv 2) h' h rfl))
 (vss_one (vs_setKy' (i := 2) ve_bl (ve_op vo_and (ve_ixK (K := K) rfl (ve_var 3 (pv 3)) ve_int (fun _ _ => rfl)) (ve_var 1 (pv 1))) (fun h h' => ps_dput (units1 hr.units) (pv 2) h' h rfl)))))
 (vss_one (vs_setFldF (vp_name 0 (pv 0)) (ve_lc0 rfl Sc.nd (vj_listK (K := K) rfl (ve_callB (vc_sortedD rfl) (by rfl) B.z_sorted PyProof.Rows.boot_sorted (va_cons (ve_var 2 (pv 2)) va_nil))) (blkOk_by (own := [("mask", 4)]) (N := ["self", "row", "masks", "pair", "mask"]) (sc := defScope s_Book_put_thing) (by decide +kernel)) (own_name 4) (fun _ _ _ _ _ => (vg_name (pg_name (i := 4) Sc.nd rfl (by first | exact .inl rfl | exact .inr rfl)))) (fun _ _ _ _ _ => (ve_tup (va_cons (ve_callN (K := K) rfl h_having (hr.mono (by decide)) (by rfl) (va_cons (ve_pl (vp_fldK (K := K) rfl (vp_name 0 (pv 0)) c_Book.cl c_Book.n_told)) (va_cons (ve_var 4 (pv 4)) va_nil))) (va_cons (ve_var 4 (pv 4)) va_nil))))) c_Book.cl c_Book.n_pairs (fun h h' => ps_fld h h' (by rfl)))))))))
theorem len_Book_put_thing : ∀ as P PE, sp_Book_put_thing C_Book as P PE → as.length = 2 ∧ mupos 0 as = [0] := by
  rintro as P PE ⟨_, _, _, _, _, _, rfl, _⟩; exact ⟨rfl, rfl⟩
theorem rd_Book_put_thing : ∀ as P PE, sp_Book_put_thing C_Book as P PE → t_Book_put_thing C_Book (endM [0] P PE) (startD 5 as) := by
  rintro as P PE ⟨l, lt, x, w, r, rows, rfl, hl, hw, hr, hP⟩
  have hA : decide ((r : Int) < 0) = false := by rw [decide_eq_false_iff_not]; omega
  have hB : r / 2 ^ w = 0 := Nat.div_eq_of_lt hr
  push_cast [t_Book_put_thing, bookT, bookO, List.length_map]
  refine selS_dec (fun h => absurd h (by omega)) (fun _ => ?_)
  push_cast [hA, hB, decide_false]
  refine ⟨by omega, ?_⟩
  push_cast [n0, Int.lt_irrefl, decide_false, List.length_map]
  refine ⟨by omega, ?_⟩
  intro ld
  have hm : rows.map nat ++ [nat r] = (rows ++ [r]).map nat := by rw [List.map_append]; rfl
  rw [hm]
  have h20 : 2 ^ w ≤ 2 ^ 20 := Nat.pow_le_pow_right (by decide) hw
  walk_at "vi"
  refine for_map (ids rows w (2 ^ w)) rul (fun i ρ => ∃ (y : Dt) (z : Sl) (ds : List (Key × Dt)) (ks : List Nat), ρ = [.v (.mt (bookO C_Book l lt w (rows ++ [r]) (ids rows w (2 ^ w)))) y, .v .fz (nat r), .v (.ow ld) (.dct ds), z, .no] ∧ KeysN ds ks ∧
      ∀ k, k ∈ ks ↔ ∃ p ∈ (ids rows w (2 ^ w)).take i, k = p.2 ∨ k = p.2 &&& r)
    ⟨_, .refl _, _, _, [], [], rfl, KeysN.nil, fun k => by simp⟩ ?_ ?_
  · rintro i hi ρ ⟨y, z, ds, ks, rfl, hk, hmem⟩
    have hlt : ∀ (j : Nat), (∃ p ∈ (ids rows w (2 ^ w)).take j, True) → True := fun _ _ => trivial
    have hks : ∀ k ∈ ks, k < 2 ^ w := fun k h => by
      obtain ⟨p, hp, e⟩ := (hmem k).mp h
      have h2 := (mem_ids.mp (List.mem_of_mem_take hp)).1
      rcases e with rfl | rfl
      · exact h2
      · exact Nat.lt_of_le_of_lt Nat.and_le_left h2
    have hp := mem_ids.mp (List.getElem_mem hi)
    have h1 := nodup_le hk.2 hks
    have hk1 := hk.ins ((ids rows w (2 ^ w))[i]).2 (.bl true)
    have hks1 : ∀ k ∈ insN ks ((ids rows w (2 ^ w))[i]).2, k < 2 ^ w := fun k h => (mem_insN.mp h).elim (hks k) fun e => e ▸ hp.1
    have h2 := nodup_le hk1.2 hks1
    push_cast [rul, hk.len, hk1.len]
    refine ⟨by omega, by omega, _, .refl _, _, _, _, _, rfl, hk1.ins _ (.bl true), fun k => ?_⟩
    rw [mem_insN, mem_insN, hmem, take_succ_at _ _ hi]
    simp only [List.mem_append, List.mem_singleton]
    constructor
    · rintro ((⟨p, hp, e⟩ | e) | e)
      · exact ⟨p, .inl hp, e⟩
      · exact ⟨_, .inr rfl, .inl e⟩
      · exact ⟨_, .inr rfl, .inr e⟩
    · rintro ⟨p, hp | rfl, e⟩
      · exact .inl (.inl ⟨p, hp, e⟩)
      · exact e.elim (fun e => .inl (.inr e)) .inr
  · rintro ρ ⟨y, z, ds, ks, rfl, hk, hmem⟩
    rw [List.take_length] at hmem
    have hcs : ∀ k, k ∈ ks ↔ k ∈ cls (rows ++ [r]) w (2 ^ w) := fun k => by
      rw [hmem, mem_cls, cl_snoc]
      constructor
      · rintro ⟨p, hp, e⟩
        obtain ⟨h1, h2, _⟩ := mem_ids.mp hp
        rcases e with rfl | rfl
        · exact ⟨h1, .inl h2⟩
        · exact ⟨Nat.lt_of_le_of_lt Nat.and_le_left h1, .inr ⟨_, h1, h2, rfl⟩⟩
      · rintro ⟨h1, h2 | ⟨d, hd, hcl, rfl⟩⟩
        · exact ⟨(hav rows k, k), mem_ids.mpr ⟨h1, h2, rfl⟩, .inl rfl⟩
        · exact ⟨(hav rows d, d), mem_ids.mpr ⟨hd, hcl, rfl⟩, .inr rfl⟩
    obtain ⟨zs, e1, e2⟩ := hk.sorted (cls_sorted (rows ++ [r]) w (2 ^ w)) hcs
    push_cast [bookO]
    walk_at "vi"
    refine ⟨zs, e1, fun ys hp ho => ?_⟩
    have e3 := Dt.lst.inj (e2 ys hp ho)
    rw [e3]
    have hlen := cls_length (rows ++ [r]) w (2 ^ w)
    refine ⟨by rw [List.length_map]; omega, ?_⟩
    refine lc_map (cls (rows ++ [r]) w (2 ^ w)) nat (fun m => rul (hav (rows ++ [r]) m, m)) ?_ ?_
    · intro W i hi acc hW
      walk_at "vx"
      refine ⟨rows ++ [r], _, rfl, by rw [List.length_append, List.length_singleton]; omega, ?_⟩
      walk_at "vx"
      exact hW
    · refine ⟨by decide, ?_⟩
      unfold bookT bookO ids at hP
      unfold rulesD at hP
      rw [List.map_map] at hP
      exact hP

theorem ok_Book_put_thing (B : Bt mg) (d : DfM K C_Book "put_thing" "Book.put_thing" s_Book_put_thing ["self", "row"]) (c_Book : Cz_Book K mg C_Book) (h_having : Has P w K mg base 2 "having" ["rows", "mask"] sp_having) : HasMtM P w K mg base 3 C_Book "put_thing" ["self", "row"] (sp_Book_put_thing C_Book) :=
  hasMtM_ok d sc_Book_put_thing (by decide) (vs_Book_put_thing B c_Book h_having) len_Book_put_thing rd_Book_put_thing
/-! ### less_member -/
def sp_less_member : DSp := fun as P => ∃ (m p : Nat), as = [(.fz, nat m), (.fz, nat p)] ∧ m < 2 ^ 62 ∧ p ≤ 1000 ∧ P .fz (nat (lessN m p))

theorem sc_less_member : FnScope ["members", "place", "low"] ["members", "place"] (defScope s_less_member) := ⟨rfl, rfl, rfl, by decide +kernel, rfl, by decide +kernel, by decide +kernel⟩
def t_less_member : TSd := (sSeq (sSetF 2 (eOp dAnd (eVar 0) (eOp dSub (eOp dShl (eC (.int 1)) (eVar 1)) (eC (.int 1)))))
 (sRet (eOp dOr (eVar 2) (eOp dShl (eOp dShr (eVar 0) (eOp dAdd (eVar 1) (eC (.int 1)))) (eVar 1)))))
theorem vs_less_member (B : Bt mg) (f : Addr) (cdv : Value) (A : Around) (outer : List Env) (s : Shared) (H : Hp) (E : XK) (e0 : Hs) (hr : Room 0 (A.deeper (envOfC "less_member" (defScope s_less_member) s.heap.objs.size f cdv))) :
    VSs (cxOf CX0 P w K mg base ["members", "place", "low"] "less_member" (defScope s_less_member) f cdv A outer s H E).nox e0 WX0 (defBody s_less_member) (t_less_member) := by
  have Sc := sc_less_member
  exact (vss_cons (vs_setF' (i := 2) (ve_op vo_and (ve_var 0 (pv 0)) (ve_op vo_sub (ve_op vo_shl ve_int (ve_var 1 (pv 1))) ve_int)) (fun h => ps_set Sc.nd rfl (.inl rfl) h))
 (vss_one (vs_ret (ve_op vo_or (ve_var 2 (pv 2)) (ve_op vo_shl (ve_op vo_shr (ve_var 0 (pv 0)) (ve_op (vo_addK (K := K) rfl) (ve_var 1 (pv 1)) ve_int)) (ve_var 1 (pv 1)))))))
theorem len_less_member : ∀ as P, sp_less_member as P → as.length = 2 := by
  rintro as P ⟨_, _, rfl, _⟩; rfl
theorem rd_less_member : ∀ as P, sp_less_member as P → t_less_member { nx := fun _ => P .fz .non, rt := fun k x => k.st = true ∧ P k x } (startD 3 as) := by
  rintro as P ⟨m, p, rfl, hm, hp, hP⟩
  have e : ((p : Nat) : Int) + 1 = ((p + 1 : Nat) : Int) := by omega
  have hd : m / 2 ^ (p + 1) < 2 ^ 64 := Nat.lt_of_le_of_lt (Nat.div_le_self _ _) (Nat.lt_trans hm (by decide))
  push_cast [t_less_member, pow_sub_one, e]
  refine ⟨cpow1 (by omega), by omega, cpow_nat hd (by omega), ?_⟩
  exact hP

theorem ok_less_member (B : Bt mg) (d : Df K mg "less_member" s_less_member ["members", "place"]) : Has P w K mg base 1 "less_member" ["members", "place"] sp_less_member :=
  has_ok d sc_less_member (by decide) (vs_less_member B) len_less_member rd_less_member
/-! ### ones -/
def sp_ones : DSp := fun as P => ∃ (m n : Nat), as = [(.fz, .int m)] ∧ m < 2 ^ n ∧ n ≤ 1000 ∧ P .fr (nats (bits n m))

theorem sc_ones : FnScope ["mask", "members", "at", "last"] ["mask"] (defScope s_ones) := ⟨rfl, rfl, rfl, by decide +kernel, rfl, by decide +kernel, by decide +kernel⟩
def t_ones : TSd := (sSeq (sSet 1 (eLst aNil))
 (sSeq (sSetF 2 (eC (.int 0)))
 (sSeq (sWhile (tB' (eOp dGt (eVar 0) (eC (.int 0))))
 (sSeq (sAsg (eCall bDivmod (aCons (eVar 0) (aCons (eC (.int 2)) aNil))) (hTup 2 (hsCons (hName 0) (hsCons (hName 3) hsNil))))
 (sSeq (sIf (tB' (eOp dEq (eVar 3) (eC (.int 1))))
 (sApp 1 (eVar 2))
 sNil)
 (sAug 2 dIAdd (eC (.int 1))))))
 (sRetV 1))))
theorem vs_ones (B : Bt mg) (f : Addr) (cdv : Value) (A : Around) (outer : List Env) (s : Shared) (H : Hp) (E : XK) (e0 : Hs) (hr : Room 0 (A.deeper (envOfC "ones" (defScope s_ones) s.heap.objs.size f cdv))) :
    VSs (cxOf CX0 P w K mg base ["mask", "members", "at", "last"] "ones" (defScope s_ones) f cdv A outer s H E).nox e0 WX0 (defBody s_ones) (t_ones) := by
  have Sc := sc_ones
  exact (vss_cons (vs_set' (i := 1) (ve_lst va_nil) (fun h => ps_set Sc.nd rfl (.inl rfl) h))
 (vss_cons (vs_setF' (i := 2) ve_int (fun h => ps_set Sc.nd rfl (.inl rfl) h))
 (vss_cons (vs_while PassesOwn.never (vt_cmp vo_gt (ve_var 0 (pv 0)) ve_int (nomark _))
 (vss_cons (vs_asg' (ve_callB vc_divmod (by rfl) B.z_divmod PyProof.Rows.boot_divmod (va_cons (ve_var 0 (pv 0)) (va_cons ve_int va_nil))) (vg_tupK (K := K) rfl rfl (vgs_cons (vg_name (pg_name (i := 0) Sc.nd rfl (.inl rfl))) (vgs_cons (vg_name (pg_name (i := 3) Sc.nd rfl (.inl rfl))) vgs_nil))) (fun h h' => ps_asg h h'))
 (vss_cons (vs_if (vt_cmp (vo_eqK (K := K) rfl hr.units) (ve_var 3 (pv 3)) ve_int (nomark _))
 (vss_one (vs_app' (i := 1) (ve_var 2 (pv 2)) (fun h => ps_expr (pe_bm PySem.F.plainAttrs_list PySem.F.slot_list_append PySem.F.type_list_append mt_append (pv 1) (pa_cons h pa_nil)))))
 vss_nil)
 (vss_one (vs_aug' (i := 2) vio_add ve_int (fun h h' => ps_aug Sc.nd rfl (.inl rfl) h h'))))))
 (vss_one (vs_retV 1 (pv 1))))))
theorem len_ones : ∀ as P, sp_ones as P → as.length = 1 := by
  rintro as P ⟨m, n, rfl, _⟩
  rfl
theorem rd_ones : ∀ as P, sp_ones as P → t_ones { nx := fun _ => P .fz .non, rt := fun k x => k.st = true ∧ P k x } (startD 4 as) := by
  rintro as P ⟨m, n, rfl, hm, hn, hP⟩
  push_cast [t_ones]
  intro l
  refine ⟨fun c ρ => ∃ (j : Nat), c + j = n ∧ ρ = [.v .fz (.int ((m / 2 ^ j : Nat) : Int)), .v (.ow l) (nats (bits j m)), .v .fz (.int j), .no], ⟨n, _, .refl _, 0, rfl, by simp [bits]⟩, ?_⟩
  rintro c ρ ⟨j, hc, rfl⟩
  walk_at "vx"
  refine selS_dec (fun h => ?_) (fun h => ?_)
  · have hj : j < n := by
      rcases Nat.lt_or_ge j n with z | z
      · exact z
      · have : m / 2 ^ j = 0 := Nat.div_eq_of_lt (Nat.lt_of_lt_of_le hm (Nat.pow_le_pow_right (by decide) z))
        omega
    have e2 : ((m / 2 ^ j : Nat) : Int) / 2 = ((m / 2 ^ (j + 1) : Nat) : Int) := by
      rw [Nat.pow_succ, ← Nat.div_div_eq_div_mul]; omega
    have e3 : m.testBit j = decide (m / 2 ^ j % 2 = 1) := by rw [Nat.testBit_eq_decide_div_mod_eq]
    push_cast [e2]
    refine ⟨⟨by decide, by decide⟩, ?_⟩
    refine selS_dec (fun h1 => ?_) (fun h1 => ?_)
    · have h3 : m.testBit j = true := by rw [e3, decide_eq_true_eq]; omega
      walk_at "vx"
      refine ⟨by have := bits_length j m; rw [List.length_map]; omega, _, c - 1, by omega, .no 3 (.refl _), j + 1, by omega, ?_⟩
      rw [bits_succ, h3]
      simp
    · have h3 : m.testBit j = false := by rw [e3, decide_eq_false_iff_not]; omega
      walk_at "vx"
      refine ⟨_, c - 1, by omega, .no 3 (.refl _), j + 1, by omega, ?_⟩
      rw [bits_succ, h3]
      simp
  · have h0 : m / 2 ^ j = 0 := by generalize m / 2 ^ j = q at h; omega
    have h1 : m < 2 ^ j := by
      rcases Nat.lt_or_ge m (2 ^ j) with z | z
      · exact z
      · have := Nat.div_pos z (Nat.two_pow_pos j)
        omega
    walk_at "vx"
    rw [← bits_more h1 (show j ≤ n by omega)]
    exact hP

theorem ok_ones (B : Bt mg) (d : Df K mg "ones" s_ones ["mask"]) : Has P w K mg base 1 "ones" ["mask"] sp_ones :=
  has_ok d sc_ones (by decide) (vs_ones B) len_ones rd_ones
/-! ### shared -/
def sp_shared : DSp := fun as P => ∃ (rows : List Nat) (w g : Nat), as = [(.rd, nats rows), (.fz, nat w), (.fz, nat g)] ∧ rows.length ≤ 1000 ∧ w ≤ 1000 ∧ g < 2 ^ rows.length ∧ P .fz (nat (sha rows w g))

theorem sc_shared : FnScope ["rows", "width", "group", "mask", "thing"] ["rows", "width", "group"] (defScope s_shared) := ⟨rfl, rfl, rfl, by decide +kernel, rfl, by decide +kernel, by decide +kernel⟩
def t_shared : TSd := (sSeq (sSetF 3 (eOp dSub (eOp dShl (eC (.int 1)) (eVar 1)) (eC (.int 1))))
 (sSeq (sFor (iLst (eCallN sp_ones (aCons (eVar 2) aNil))) (hName 4)
 (sSetF 3 (eOp dAnd (eVar 3) (eOp dIx (eVar 0) (eVar 4)))))
 (sRet (eVar 3))))
theorem vs_shared (B : Bt mg) (h_ones : Has P w K mg base 1 "ones" ["mask"] sp_ones) (f : Addr) (cdv : Value) (A : Around) (outer : List Env) (s : Shared) (H : Hp) (E : XK) (e0 : Hs) (hr : Room 1 (A.deeper (envOfC "shared" (defScope s_shared) s.heap.objs.size f cdv))) :
    VSs (cxOf CX0 P w K mg base ["rows", "width", "group", "mask", "thing"] "shared" (defScope s_shared) f cdv A outer s H E).nox e0 WX0 (defBody s_shared) (t_shared) := by
  have Sc := sc_shared
  exact (vss_cons (vs_setF' (i := 3) (ve_op vo_sub (ve_op vo_shl ve_int (ve_var 1 (pv 1))) ve_int) (fun h => ps_set Sc.nd rfl (.inl rfl) h))
 (vss_cons (vs_for PassesOwn.never rfl (vi_listK (K := K) rfl (ve_callN (K := K) rfl h_ones (hr.mono (by decide)) (by rfl) (va_cons (ve_var 2 (pv 2)) va_nil))) (vg_name (pg_name (i := 4) Sc.nd rfl (.inl rfl)))
 (vss_one (vs_setF' (i := 3) (ve_op vo_and (ve_var 3 (pv 3)) (ve_ixK (K := K) rfl (ve_var 0 (pv 0)) (ve_var 4 (pv 4)) (fun _ _ => rfl))) (fun h => ps_set Sc.nd rfl (.inl rfl) h))))
 (vss_one (vs_ret (ve_var 3 (pv 3))))))
theorem len_shared : ∀ as P, sp_shared as P → as.length = 3 := by
  rintro as P ⟨ks, _, _, rfl, _⟩; rfl
theorem rd_shared : ∀ as P, sp_shared as P → t_shared { nx := fun _ => P .fz .non, rt := fun k x => k.st = true ∧ P k x } (startD 5 as) := by
  rintro as P ⟨rows, w, g, rfl, hl, hw, hg, hP⟩
  push_cast [t_shared, pow_sub_one]
  refine ⟨cpow1 (by omega), ?_⟩
  walk_at "vi"
  refine ⟨g, rows.length, rfl, hg, by omega, ?_⟩
  walk_at "vi"
  refine for_map (bits rows.length g) nat (fun i ρ => ρ = [.v .vw (nats rows), .v .fz (nat w), .v .fz (nat g), .v .fz (nat (((bits rows.length g).take i).foldl (fun m t => m &&& rows.getD t 0) (2 ^ w - 1))), .no]) ⟨_, .refl _, by simp⟩ ?_ ?_
  · rintro i hi ρ rfl
    have hm : (bits rows.length g)[i] < rows.length := (mem_bits.mp (List.getElem_mem hi)).1
    have hx := atI_map rows nat _ hm
    push_cast [hx]
    refine ⟨_, .no 4 (.refl _), ?_⟩
    rw [List.take_add_one, List.getElem?_eq_getElem hi, Option.toList_some, List.foldl_append]
    simp [List.getD_eq_getElem?_getD, hm]
  · rintro ρ rfl
    push_cast [List.take_length]
    exact hP

theorem ok_shared (B : Bt mg) (d : Df K mg "shared" s_shared ["rows", "width", "group"]) (h_ones : Has P w K mg base 1 "ones" ["mask"] sp_ones) : Has P w K mg base 2 "shared" ["rows", "width", "group"] sp_shared :=
  has_ok d sc_shared (by decide) (vs_shared B h_ones) len_shared rd_shared
/-! ### Book.take_thing -/
def sp_Book_take_thing (C_Book : Addr) : DMu := fun as P PE => ∃ (l lt : Addr) (x : Dt) (w p : Nat) (rows : List Nat), as = [(.mt (bookT C_Book l lt w rows), x), (.fz, nat p)] ∧ rows.length ≤ 60 ∧ w ≤ 20 ∧ p < rows.length ∧ P .fz .non [bookT C_Book l lt w (rows.eraseIdx p)]

theorem sc_Book_take_thing : FnScope ["self", "place", "left", "pair", "group"] ["self", "place"] (defScope s_Book_take_thing) := ⟨rfl, rfl, rfl, by decide +kernel, rfl, by decide +kernel, by decide +kernel⟩
def t_Book_take_thing (C_Book : Addr) : TSd := (sSeq (sIf (bOr (tB' (eOp dLt (eVar 1) (eC (.int 0)))) (tB' (eOp dGe (eVar 1) (eCall bLen (aCons (eRdP (pFld C_Book (pName 0) "told")) aNil)))))
 sFalse
 sNil)
 (sSeq (sPopAt (pFld C_Book (pName 0) "told") (eVar 1))
 (sSeq (sSet 2 (eLst aNil))
 (sSeq (sFor (iLst (eRdP (pFld C_Book (pName 0) "pairs"))) (hName 3)
 (sSeq (sSetF 4 (eCallN sp_less_member (aCons (eOp dIx (eVar 3) (eC (.int 0))) (aCons (eVar 1) aNil))))
 (sIf (tB' (eOp dEq (eCallN sp_shared (aCons (eRdP (pFld C_Book (pName 0) "told")) (aCons (eRdP (pFld C_Book (pName 0) "wide")) (aCons (eVar 4) aNil)))) (eOp dIx (eVar 3) (eC (.int 1)))))
 (sApp 2 (eTup (aCons (eVar 4) (aCons (eOp dIx (eVar 3) (eC (.int 1))) aNil))))
 sNil)))
 (sFz 2 (sSetFldF C_Book (pName 0) "pairs" (eVar 2)))))))
theorem vs_Book_take_thing (B : Bt mg) (c_Book : Cz_Book K mg C_Book) (h_less_member : Has P w K mg base 1 "less_member" ["members", "place"] sp_less_member) (h_shared : Has P w K mg base 2 "shared" ["rows", "width", "group"] sp_shared) (f : Addr) (cdv : Value) (A : Around) (outer : List Env) (s : Shared) (H : Hp) (E : XK) (e0 : Hs) (hr : Room 2 (A.deeper (envOfC "Book.take_thing" (defScope s_Book_take_thing) s.heap.objs.size f cdv))) :
    VSs (cxOf CX0 P w K mg base ["self", "place", "left", "pair", "group"] "Book.take_thing" (defScope s_Book_take_thing) f cdv A outer s H E).nox e0 (fun c d σ H => E c d H) (defBody s_Book_take_thing) (t_Book_take_thing C_Book) := by
  have Sc := sc_Book_take_thing
  exact (vss_cons (vs_if (VW.vt (vw_or (vt_cmp vo_lt (ve_var 1 (pv 1)) ve_int (nomark _)) (vw_or1 (vt_cmp vo_ge (ve_var 1 (pv 1)) (ve_callB (vc_lenK (K := K) rfl) (by rfl) B.z_len PySem.boot_len (va_cons (ve_pl (vp_fldK (K := K) rfl (vp_name 0 (pv 0)) c_Book.cl c_Book.n_told)) va_nil)) (nomark _)))))
 (vss_one vs_never)
 vss_nil)
 (vss_cons (vs_popAt (vp_fldK (K := K) rfl (vp_name 0 (pv 0)) c_Book.cl c_Book.n_told) (ve_var 1 (pv 1)) (fun h h' => ps_expr (pe_bm PySem.F.plainAttrs_list PySem.F.slot_list_pop PySem.F.type_list_pop mt_popAt h (pa_cons h' pa_nil))))
 (vss_cons (vs_set' (i := 2) (ve_lst va_nil) (fun h => ps_set Sc.nd rfl (.inl rfl) h))
 (vss_cons (vs_for PassesOwn.never rfl (vi_listK (K := K) rfl (ve_pl (vp_fldK (K := K) rfl (vp_name 0 (pv 0)) c_Book.cl c_Book.n_pairs))) (vg_name (pg_name (i := 3) Sc.nd rfl (.inl rfl)))
 (vss_cons (vs_setF' (i := 4) (ve_callN (K := K) rfl h_less_member (hr.mono (by decide)) (by rfl) (va_cons (ve_ixK (K := K) rfl (ve_var 3 (pv 3)) ve_int (fun _ _ => rfl)) (va_cons (ve_var 1 (pv 1)) va_nil))) (fun h => ps_set Sc.nd rfl (.inl rfl) h))
 (vss_one (vs_if (vt_cmp (vo_eqK (K := K) rfl hr.units) (ve_callN (K := K) rfl h_shared (hr.mono (by decide)) (by rfl) (va_cons (ve_pl (vp_fldK (K := K) rfl (vp_name 0 (pv 0)) c_Book.cl c_Book.n_told)) (va_cons (ve_pl (vp_fldK (K := K) rfl (vp_name 0 (pv 0)) c_Book.cl c_Book.n_wide)) (va_cons (ve_var 4 (pv 4)) va_nil)))) (ve_ixK (K := K) rfl (ve_var 3 (pv 3)) ve_int (fun _ _ => rfl)) (nomark _))
 (vss_one (vs_app' (i := 2) (ve_tup (va_cons (ve_var 4 (pv 4)) (va_cons (ve_ixK (K := K) rfl (ve_var 3 (pv 3)) ve_int (fun _ _ => rfl)) va_nil))) (fun h => ps_expr (pe_bm PySem.F.plainAttrs_list PySem.F.slot_list_append PySem.F.type_list_append mt_append (pv 2) (pa_cons h pa_nil)))))
 vss_nil))))
 (vss_one (vs_fz 2 (vs_setFldF (vp_name 0 (pv 0)) (ve_var 2 (pv 2)) c_Book.cl c_Book.n_pairs (fun h h' => ps_fld h h' (by rfl)))))))))
theorem len_Book_take_thing : ∀ as P PE, sp_Book_take_thing C_Book as P PE → as.length = 2 ∧ mupos 0 as = [0] := by
  rintro as P PE ⟨_, _, _, _, _, _, rfl, _⟩; exact ⟨rfl, rfl⟩
theorem rd_Book_take_thing : ∀ as P PE, sp_Book_take_thing C_Book as P PE → t_Book_take_thing C_Book (endM [0] P PE) (startD 5 as) := by
  rintro as P PE ⟨l, lt, x, w, p, rows, rfl, hl, hw, hp, hP⟩
  have hA : decide ((p : Int) < 0) = false := by rw [decide_eq_false_iff_not]; omega
  have hB : decide ((p : Int) ≥ (rows.length : Int)) = false := by rw [decide_eq_false_iff_not]; omega
  have hle := erase_len hp
  push_cast [t_Book_take_thing, bookT, bookO, List.length_map, hA, hB]
  refine ⟨by omega, by omega, ?_⟩
  rw [seqIx hp]
  walk_at "vx"
  refine ⟨hp, ?_⟩
  have hm : (rows.map nat).eraseIdx p = (rows.eraseIdx p).map nat := erase_map _ _ _
  rw [hm]
  intro ll
  walk_at "vi"
  refine for_map (ids rows w (2 ^ w)) rul (fun i ρ => ∃ (y : Dt) (z u : Sl), ρ = [.v (.mt (bookO C_Book l lt w (rows.eraseIdx p) (ids rows w (2 ^ w)))) y, .v .fz (nat p), .v (.ow ll) (.lst (((((ids rows w (2 ^ w)).take i).filter fun q => decide (sha (rows.eraseIdx p) w (lessN q.1 p) = q.2)).map fun q => (lessN q.1 p, q.2)).map rul)), z, u])
    ⟨_, .refl _, _, _, _, rfl⟩ ?_ ?_
  · rintro i hi ρ ⟨y, z, u, rfl⟩
    obtain ⟨h1, h2, h3⟩ := mem_ids.mp (List.getElem_mem hi)
    have hg : ((ids rows w (2 ^ w))[i]).1 < 2 ^ 60 := by rw [h3]; exact Nat.lt_of_lt_of_le (hav_lt _ _) (Nat.pow_le_pow_right (by decide) hl)
    have hlg : lessN ((ids rows w (2 ^ w))[i]).1 p < 2 ^ (rows.eraseIdx p).length := by rw [h3, hav_erase hp]; exact hav_lt _ _
    push_cast [rul, bookO]
    refine ⟨_, p, rfl, Nat.lt_trans hg (by decide), by omega, ?_⟩
    walk_at "vx"
    refine ⟨rows.eraseIdx p, w, _, rfl, by omega, by omega, hlg, ?_⟩
    walk_at "vx"
    rw [take_succ_at _ _ hi, List.filter_append, List.map_append, List.map_append]
    refine selS_dec (fun h => ?_) (fun h => ?_)
    · have h' : sha (rows.eraseIdx p) w (lessN ((ids rows w (2 ^ w))[i]).1 p) = ((ids rows w (2 ^ w))[i]).2 := by omega
      have e5 : ([(ids rows w (2 ^ w))[i]].filter fun q => decide (sha (rows.eraseIdx p) w (lessN q.1 p) = q.2)) = [(ids rows w (2 ^ w))[i]] := by simp [h']
      rw [e5]
      push_cast [rul]
      refine ⟨?_, _, .refl _, _, _, _, rfl⟩
      rw [List.length_map, List.length_map]
      refine Nat.lt_of_le_of_lt (List.length_filter_le _ _) ?_
      rw [List.length_take]
      have := ids_len rows w (2 ^ w)
      have h20 : 2 ^ w ≤ 2 ^ 20 := Nat.pow_le_pow_right (by decide) hw
      omega
    · have h' : ¬ sha (rows.eraseIdx p) w (lessN ((ids rows w (2 ^ w))[i]).1 p) = ((ids rows w (2 ^ w))[i]).2 := by omega
      have e5 : ([(ids rows w (2 ^ w))[i]].filter fun q => decide (sha (rows.eraseIdx p) w (lessN q.1 p) = q.2)) = [] := by simp [h']
      rw [e5]
      push_cast [List.map_nil]
      exact ⟨_, .refl _, _, _, _, rfl⟩
  · rintro ρ ⟨y, z, u, rfl⟩
    rw [List.take_length, ids_erase hp]
    push_cast [bookO]
    unfold bookT bookO at hP
    exact ⟨by decide, hP⟩

theorem ok_Book_take_thing (B : Bt mg) (d : DfM K C_Book "take_thing" "Book.take_thing" s_Book_take_thing ["self", "place"]) (c_Book : Cz_Book K mg C_Book) (h_less_member : Has P w K mg base 1 "less_member" ["members", "place"] sp_less_member) (h_shared : Has P w K mg base 2 "shared" ["rows", "width", "group"] sp_shared) : HasMtM P w K mg base 3 C_Book "take_thing" ["self", "place"] (sp_Book_take_thing C_Book) :=
  hasMtM_ok d sc_Book_take_thing (by decide) (vs_Book_take_thing B c_Book h_less_member h_shared) len_Book_take_thing rd_Book_take_thing
/-! ### _law_thing -/
def thingR (rows : List Nat) (w : Nat) (rs : List Nat) : Prop := rs.length ≤ 12 ∧ ∀ r ∈ rs, r < 2 ^ w
def sp_law_thing (C_Book : Addr) : DMu := fun as P PE => ∃ (l lt : Addr) (x : Dt) (w : Nat) (rows : List Nat) (z : Int) (b : Bool), as = [(.mt (bookT C_Book l lt w rows), x), (.rd, nats rows), (.fz, nat w), (.fz, .int z), (.fz, .bl b)] ∧ rows.length ≤ 12 ∧ (∀ r ∈ rows, r < 2 ^ w) ∧ w ≤ 10 ∧ ∀ rs, thingR rows w rs → P .fr (nats rs) [bookT C_Book l lt w rs]

theorem sc_law_thing : FnScope ["book", "rows", "wide", "number", "put", "row", "place"] ["book", "rows", "wide", "number", "put"] (defScope s_law_thing) := ⟨rfl, rfl, rfl, by decide +kernel, rfl, by decide +kernel, by decide +kernel⟩
def t_law_thing (C_Book : Addr) : TSd := (sSeq (sIf (bOr (tB' (eOp dEq (eCall bLen (aCons (eVar 1) aNil)) (eC (.int 0)))) (bAnd (tB' (eOp dLt (eCall bLen (aCons (eVar 1) aNil)) (eC (.int 12)))) (tB' (eVar 4))))
 (sSeq (sSetF 5 (eOp dMod (eVar 3) (eOp dShl (eC (.int 1)) (eVar 2))))
 (sSeq (sExprM (eMethMu 0 C_Book "put_thing" (sp_Book_put_thing C_Book) (amCons (eVar 5) amNil)))
 (sRet (eOp dAdd (eVar 1) (eLst (aCons (eVar 5) aNil))))))
 sNil)
 (sSeq (sSetF 6 (eOp dMod (eVar 3) (eCall bLen (aCons (eVar 1) aNil))))
 (sSeq (sExprM (eMethMu 0 C_Book "take_thing" (sp_Book_take_thing C_Book) (amCons (eVar 6) amNil)))
 (sRet (eOp dAdd (eSl (eVar 1) oNo (oPart (eVar 6))) (eSl (eVar 1) (oPart (eOp dAdd (eVar 6) (eC (.int 1)))) oNo))))))
theorem vs_law_thing (B : Bt mg) (c_Book : Cz_Book K mg C_Book) (h_Book_put_thing : HasMtM P w K mg base 3 C_Book "put_thing" ["self", "row"] (sp_Book_put_thing C_Book)) (h_Book_take_thing : HasMtM P w K mg base 3 C_Book "take_thing" ["self", "place"] (sp_Book_take_thing C_Book)) (f : Addr) (cdv : Value) (A : Around) (outer : List Env) (s : Shared) (H : Hp) (E : XK) (e0 : Hs) (hr : Room 3 (A.deeper (envOfC "_law_thing" (defScope s_law_thing) s.heap.objs.size f cdv))) :
    VSs (cxOf CX0 P w K mg base ["book", "rows", "wide", "number", "put", "row", "place"] "_law_thing" (defScope s_law_thing) f cdv A outer s H E).nox e0 (fun c d σ H => E c d H) (defBody s_law_thing) (t_law_thing C_Book) := by
  have Sc := sc_law_thing
  exact (vss_cons (vs_if (VW.vt (vw_or (vt_cmp (vo_eqK (K := K) rfl hr.units) (ve_callB (vc_lenK (K := K) rfl) (by rfl) B.z_len PySem.boot_len (va_cons (ve_var 1 (pv 1)) va_nil)) ve_int (nomark _)) (vw_or1 (VW.vt (vw_and (vt_cmp vo_lt (ve_callB (vc_lenK (K := K) rfl) (by rfl) B.z_len PySem.boot_len (va_cons (ve_var 1 (pv 1)) va_nil)) ve_int (nomark _)) (vw_and1 (vt_val (ve_var 4 (pv 4)))))))))
 (vss_cons (vs_setF' (i := 5) (ve_op vo_mod (ve_var 3 (pv 3)) (ve_op vo_shl ve_int (ve_var 2 (pv 2)))) (fun h => ps_set Sc.nd rfl (.inl rfl) h))
 (vss_cons (vs_exprM (vm_meth (K := K) rfl c_Book.cl h_Book_put_thing (hr.mono (by decide)) (pv 0) (vam_cons (ve_var 5 (pv 5)) vam_nil)))
 (vss_one (vs_ret (ve_op (vo_addK (K := K) rfl) (ve_var 1 (pv 1)) (ve_lst (va_cons (ve_var 5 (pv 5)) va_nil)))))))
 vss_nil)
 (vss_cons (vs_setF' (i := 6) (ve_op vo_mod (ve_var 3 (pv 3)) (ve_callB (vc_lenK (K := K) rfl) (by rfl) B.z_len PySem.boot_len (va_cons (ve_var 1 (pv 1)) va_nil))) (fun h => ps_set Sc.nd rfl (.inl rfl) h))
 (vss_cons (vs_exprM (vm_meth (K := K) rfl c_Book.cl h_Book_take_thing (hr.mono (by decide)) (pv 0) (vam_cons (ve_var 6 (pv 6)) vam_nil)))
 (vss_one (vs_ret (ve_op (vo_addK (K := K) rfl) (ve_sliceK (K := K) rfl (ve_var 1 (pv 1)) vo_no (vo_part (ve_var 6 (pv 6)))) (ve_sliceK (K := K) rfl (ve_var 1 (pv 1)) (vo_part (ve_op (vo_addK (K := K) rfl) (ve_var 6 (pv 6)) ve_int)) vo_no)))))))
theorem len_law_thing : ∀ as P PE, sp_law_thing C_Book as P PE → as.length = 5 ∧ mupos 0 as = [0] := by
  rintro as P PE ⟨_, _, _, _, _, _, _, rfl, _⟩; exact ⟨rfl, rfl⟩
theorem rd_law_thing : ∀ as P PE, sp_law_thing C_Book as P PE → t_law_thing C_Book (endM [0] P PE) (startD 7 as) := by
  rintro as P PE ⟨l, lt, x, w, rows, z, b, rfl, hl, hr, hw, hP⟩
  have hpw := Nat.two_pow_pos w
  obtain ⟨m, hm, hm2⟩ := mod_nat z hpw
  push_cast [t_law_thing, List.length_map]
  have key : ∀ (c : Bool), (c = true → rows.length < 12) → (c = false → 0 < rows.length) → selS c (sSeq (sSetF 5 (eOp dMod (eVar 3) (eOp dShl (eC (.int 1)) (eVar 2)))) (sSeq (sExprM (eMethMu 0 C_Book "put_thing" (sp_Book_put_thing C_Book) (amCons (eVar 5) amNil))) (sRet (eOp dAdd (eVar 1) (eLst (aCons (eVar 5) aNil)))))
    { endM [0] P PE with nx := sSeq (sSetF 6 (eOp dMod (eVar 3) (eCall bLen (aCons (eVar 1) aNil)))) (sSeq (sExprM (eMethMu 0 C_Book "take_thing" (sp_Book_take_thing C_Book) (amCons (eVar 6) amNil))) (sRet (eOp dAdd (eSl (eVar 1) oNo (oPart (eVar 6))) (eSl (eVar 1) (oPart (eOp dAdd (eVar 6) (eC (.int 1)))) oNo)))) (endM [0] P PE) }) (sNil
    { endM [0] P PE with nx := sSeq (sSetF 6 (eOp dMod (eVar 3) (eCall bLen (aCons (eVar 1) aNil)))) (sSeq (sExprM (eMethMu 0 C_Book "take_thing" (sp_Book_take_thing C_Book) (amCons (eVar 6) amNil))) (sRet (eOp dAdd (eSl (eVar 1) oNo (oPart (eVar 6))) (eSl (eVar 1) (oPart (eOp dAdd (eVar 6) (eC (.int 1)))) oNo)))) (endM [0] P PE) })
    [.v (.mt (bookT C_Book l lt w rows)) x, .v .vw (nats rows), .v .fz (nat w), .v .fz (.int z), .v .fz (.bl b), .no, .no] := by
    intro c hc1 hc2
    refine selS_b (fun h => ?_) (fun h => ?_)
    · have hlt := hc1 h
      push_cast [hm, bookT_root]
      refine ⟨cpow1 (by omega), by omega, fun z => (nomatch z), l, lt, _, w, m, rows, rfl, by omega, by omega, hm2, ?_⟩
      have e : rows.map nat ++ [nat m] = (rows ++ [m]).map nat := by rw [List.map_append]; rfl
      push_cast [e, List.length_map]
      refine ⟨by omega, hP _ ⟨by rw [List.length_append, List.length_singleton]; omega, fun r hr' => ?_⟩⟩
      rcases List.mem_append.mp hr' with h1 | h1
      · exact hr r h1
      · rw [List.mem_singleton.mp h1]; exact hm2
    · have hlt := hc2 h
      obtain ⟨p, hp, hp2⟩ := mod_nat z hlt
      have e1 : (p : Int) + 1 = ((p + 1 : Nat) : Int) := by omega
      push_cast [hp, bookT_root, List.length_map]
      refine ⟨by omega, fun z => (nomatch z), l, lt, _, w, p, rows, rfl, by omega, by omega, hp2, ?_⟩
      push_cast [e1, cutL_map, cutL_to, cutL_from, List.length_map]
      have e2 : (rows.map nat).take p ++ (rows.map nat).drop (p + 1) = (rows.eraseIdx p).map nat := by rw [← erase_map, List.eraseIdx_eq_take_drop_succ]
      rw [e2]
      have hle := erase_len hp2
      refine ⟨by rw [List.length_take, List.length_drop, List.length_map]; omega, hP _ ⟨by omega, fun r hr' => hr r (List.mem_of_mem_eraseIdx hr')⟩⟩
  by_cases h0 : rows.length = 0
  · have e : decide ((rows.length : Int) = 0) = true := by rw [decide_eq_true_eq]; omega
    rw [e, selOr_t]
    exact key true (fun _ => by omega) (fun h => by cases h)
  · have e : decide ((rows.length : Int) = 0) = false := by rw [decide_eq_false_iff_not]; omega
    rw [e]
    push_cast [List.length_map]
    refine selAnd_b (fun h => ?_) (fun h => ?_)
    · have h' : rows.length < 12 := by have := of_decide_eq_true h; omega
      walk_at "vx"
      exact key b (fun _ => h') (fun _ => by omega)
    · exact key false (fun h => by cases h) (fun _ => by omega)

theorem ok_law_thing (B : Bt mg) (d : Df K mg "_law_thing" s_law_thing ["book", "rows", "wide", "number", "put"]) (c_Book : Cz_Book K mg C_Book) (h_Book_put_thing : HasMtM P w K mg base 3 C_Book "put_thing" ["self", "row"] (sp_Book_put_thing C_Book)) (h_Book_take_thing : HasMtM P w K mg base 3 C_Book "take_thing" ["self", "place"] (sp_Book_take_thing C_Book)) : HasM CX0 P w K mg base 4 "_law_thing" ["book", "rows", "wide", "number", "put"] (sp_law_thing C_Book) :=
  hasM_ok d sc_law_thing (by decide) (vs_law_thing B c_Book h_Book_put_thing h_Book_take_thing) len_law_thing rd_law_thing
/-! ### mask_first -/
def sp_mask_first : DSp := fun as P => ∃ (q : Nat × Nat), as = [(.fz, rul q)] ∧ P .fz (nat q.2)

theorem sc_mask_first : FnScope ["pair"] ["pair"] (defScope s_mask_first) := ⟨rfl, rfl, rfl, by decide +kernel, rfl, by decide +kernel, by decide +kernel⟩
def t_mask_first : TSd := (sRet (eOp dIx (eVar 0) (eC (.int 1))))
theorem vs_mask_first (B : Bt mg) (f : Addr) (cdv : Value) (A : Around) (outer : List Env) (s : Shared) (H : Hp) (E : XK) (e0 : Hs) (hr : Room 0 (A.deeper (envOfC "mask_first" (defScope s_mask_first) s.heap.objs.size f cdv))) :
    VSs (cxOf CX0 P w K mg base ["pair"] "mask_first" (defScope s_mask_first) f cdv A outer s H E).nox e0 WX0 (defBody s_mask_first) (t_mask_first) := by
  have Sc := sc_mask_first
  exact (vss_one (vs_ret (ve_ixK (K := K) rfl (ve_var 0 (pv 0)) ve_int (fun _ _ => rfl))))
theorem len_mask_first : ∀ as P, sp_mask_first as P → as.length = 1 := by
  rintro as P ⟨_, rfl, _⟩; rfl
theorem rd_mask_first : ∀ as P, sp_mask_first as P → t_mask_first { nx := fun _ => P .fz .non, rt := fun k x => k.st = true ∧ P k x } (startD 1 as) := by
  rintro as P ⟨q, rfl, hP⟩
  push_cast [t_mask_first, rul]
  exact hP

theorem ok_mask_first (B : Bt mg) (d : Df K mg "mask_first" s_mask_first ["pair"]) : Has P w K mg base 1 "mask_first" ["pair"] sp_mask_first :=
  has_ok d sc_mask_first (by decide) (vs_mask_first B) len_mask_first rd_mask_first
/-! ### Book.put_column -/
def sp_Book_put_column (C_Book : Addr) : DMu := fun as P PE => ∃ (l lt : Addr) (x : Dt) (w g : Nat) (rows : List Nat), as = [(.mt (bookT C_Book l lt w rows), x), (.fz, nat g)] ∧ rows.length ≤ 60 ∧ w < 10 ∧ g < 2 ^ rows.length ∧ (∀ t, t < rows.length → rows.getD t 0 < 2 ^ w) ∧ ∀ lt', P .fz .non [bookT C_Book l lt' (w + 1) (putC rows w g)]

theorem sc_Book_put_column : FnScope ["self", "group", "groups", "pair", "made", "k", "row", "some"] ["self", "group"] (defScope s_Book_put_column) := ⟨rfl, rfl, rfl, by decide +kernel, rfl, by decide +kernel, by decide +kernel⟩
def t_Book_put_column (C_Book : Addr) : TSd := (sSeq (sIf (tB' (eOp dGe (eRdP (pFld C_Book (pName 0) "wide")) (eC (.int 10))))
 sFalse
 sNil)
 (sSeq (sIf (bOr (tB' (eOp dLt (eVar 1) (eC (.int 0)))) (tB' (eOp dGt (eOp dShr (eVar 1) (eCall bLen (aCons (eRdP (pFld C_Book (pName 0) "told")) aNil))) (eC (.int 0)))))
 sFalse
 sNil)
 (sSeq (sSet 2 eDct)
 (sSeq (sFor (iLst (eRdP (pFld C_Book (pName 0) "pairs"))) (hName 3)
 (sSeq (sSetKy 2 (eOp dIx (eVar 3) (eC (.int 0))) (eC (.bl true)))
 (sSetKy 2 (eOp dAnd (eOp dIx (eVar 3) (eC (.int 0))) (eVar 1)) (eC (.bl true)))))
 (sSeq (sSetFld C_Book (pName 0) "told" (eLc (iEnG (eRdP (pFld C_Book (pName 0) "told"))) (hTup 2 (hsCons (hName 5) (hsCons (hName 6) hsNil))) bYes (eOp dOr (eVar 6) (eOp dShl (eOp dAnd (eOp dShr (eVar 1) (eVar 5)) (eC (.int 1))) (eRdP (pFld C_Book (pName 0) "wide")))) [5, 6]))
 (sSeq (sAugFld C_Book (pName 0) "wide" dIAdd (eC (.int 1)))
 (sSeq (sSetF 4 (eLc (iLstG (eCall bSortedD (aCons (eVar 2) aNil))) (hName 7) bYes (eTup (aCons (eVar 7) (aCons (eCallN sp_shared (aCons (eRdP (pFld C_Book (pName 0) "told")) (aCons (eRdP (pFld C_Book (pName 0) "wide")) (aCons (eVar 7) aNil)))) aNil))) [7]))
 (sSetFldF C_Book (pName 0) "pairs" (eSortK sp_mask_first (eVar 4))))))))))
theorem vs_Book_put_column (B : Bt mg) (c_Book : Cz_Book K mg C_Book) (h_shared : Has P w K mg base 2 "shared" ["rows", "width", "group"] sp_shared) (h_mask_first : Has P w K mg base 1 "mask_first" ["pair"] sp_mask_first) (f : Addr) (cdv : Value) (A : Around) (outer : List Env) (s : Shared) (H : Hp) (E : XK) (e0 : Hs) (hr : Room 2 (A.deeper (envOfC "Book.put_column" (defScope s_Book_put_column) s.heap.objs.size f cdv))) :
    VSs (cxOf CX0 P w K mg base ["self", "group", "groups", "pair", "made", "k", "row", "some"] "Book.put_column" (defScope s_Book_put_column) f cdv A outer s H E).nox e0 (fun c d σ H => E c d H) (defBody s_Book_put_column) (t_Book_put_column C_Book) := by
  have Sc := sc_Book_put_column
  exact (vss_cons (vs_if (vt_cmp vo_ge (ve_pl (vp_fldK (K := K) rfl (vp_name 0 (pv 0)) c_Book.cl c_Book.n_wide)) (ve_glob (by rfl) B.c_MOST_COLUMNS (fun _ => .int _)) (nomark _))
 (vss_one vs_never)
 vss_nil)
 (vss_cons (vs_if (VW.vt (vw_or (vt_cmp vo_lt (ve_var 1 (pv 1)) ve_int (nomark _)) (vw_or1 (vt_cmp vo_gt (ve_op vo_shr (ve_var 1 (pv 1)) (ve_callB (vc_lenK (K := K) rfl) (by rfl) B.z_len PySem.boot_len (va_cons (ve_pl (vp_fldK (K := K) rfl (vp_name 0 (pv 0)) c_Book.cl c_Book.n_told)) va_nil))) ve_int (nomark _)))))
 (vss_one vs_never)
 vss_nil)
 (vss_cons (vs_set' (i := 2) ve_dct (fun h => ps_set Sc.nd rfl (.inl rfl) h))
 (vss_cons (vs_for PassesOwn.never rfl (vi_listK (K := K) rfl (ve_pl (vp_fldK (K := K) rfl (vp_name 0 (pv 0)) c_Book.cl c_Book.n_pairs))) (vg_name (pg_name (i := 3) Sc.nd rfl (.inl rfl)))
 (vss_cons (vs_setKy' (i := 2) ve_bl (ve_ixK (K := K) rfl (ve_var 3 (pv 3)) ve_int (fun _ _ => rfl)) (fun h h' => ps_dput (units1 hr.units) (pv 2) h' h rfl))
 (vss_one (vs_setKy' (i := 2) ve_bl (ve_op vo_and (ve_ixK (K := K) rfl (ve_var 3 (pv 3)) ve_int (fun _ _ => rfl)) (ve_var 1 (pv 1))) (fun h h' => ps_dput (units1 hr.units) (pv 2) h' h rfl)))))
 (vss_cons (vs_setFld (vp_name 0 (pv 0)) (ve_lc0 rfl Sc.nd (vj_enumK (K := K) rfl (ve_pl (vp_fldK (K := K) rfl (vp_name 0 (pv 0)) c_Book.cl c_Book.n_told)) (fun h => pi_enum (by rfl) B.z_enumerate (pa_cons h pa_nil))) (blkOk_by (own := [("k", 5), ("row", 6)]) (N := ["self", "group", "groups", "pair", "made", "k", "row", "some"]) (sc := defScope s_Book_put_column) (by decide +kernel)) (own_two 5 6 _) (fun _ _ _ _ _ => (vg_tupK (K := K) rfl rfl (vgs_cons (vg_name (pg_name (i := 5) Sc.nd rfl (by first | exact .inl rfl | exact .inr rfl))) (vgs_cons (vg_name (pg_name (i := 6) Sc.nd rfl (by first | exact .inl rfl | exact .inr rfl))) vgs_nil)))) (fun _ _ _ _ _ => (ve_op vo_or (ve_var 6 (pv 6)) (ve_op vo_shl (ve_op vo_and (ve_op vo_shr (ve_var 1 (pv 1)) (ve_var 5 (pv 5))) ve_int) (ve_pl (vp_fldK (K := K) rfl (vp_name 0 (pv 0)) c_Book.cl c_Book.n_wide)))))) c_Book.cl c_Book.n_told (fun h h' => ps_fld h h' (by rfl)))
 (vss_cons (vs_augFld vio_add (vp_name 0 (pv 0)) ve_int c_Book.cl c_Book.n_wide (fun h h' q => ps_fldaug h h' q))
 (vss_cons (vs_setLc0F (i := 4) rfl Sc.nd rfl rfl (sw_true rfl rfl rfl (by decide +kernel)) (vj_listK (K := K) rfl (ve_callB (vc_sortedD rfl) (by rfl) B.z_sorted PyProof.Rows.boot_sorted (va_cons (ve_var 2 (pv 2)) va_nil))) (blkOk_by (own := [("some", 7)]) (N := ["self", "group", "groups", "pair", "made", "k", "row", "some"]) (sc := defScope s_Book_put_column) (by decide +kernel)) (own_name 7) (fun _ _ _ _ _ => (vg_name (pg_name (i := 7) Sc.nd rfl (by first | exact .inl rfl | exact .inr rfl)))) (fun _ _ _ _ _ => (ve_tup (va_cons (ve_var 7 (pv 7)) (va_cons (ve_callN (K := K) rfl h_shared (hr.mono (by decide)) (by rfl) (va_cons (ve_pl (vp_fldK (K := K) rfl (vp_name 0 (pv 0)) c_Book.cl c_Book.n_told)) (va_cons (ve_pl (vp_fldK (K := K) rfl (vp_name 0 (pv 0)) c_Book.cl c_Book.n_wide)) (va_cons (ve_var 7 (pv 7)) va_nil)))) va_nil)))))
 (vss_one (vs_setFldF (vp_name 0 (pv 0)) (ve_sortK h_mask_first hr (by rfl) B.z_sorted (by rfl) (ve_var 4 (pv 4))) c_Book.cl c_Book.n_pairs (fun h h' => ps_fld h h' (by rfl)))))))))))
theorem len_Book_put_column : ∀ as P PE, sp_Book_put_column C_Book as P PE → as.length = 2 ∧ mupos 0 as = [0] := by
  rintro as P PE ⟨_, _, _, _, _, _, rfl, _⟩; exact ⟨rfl, rfl⟩
theorem rd_Book_put_column : ∀ as P PE, sp_Book_put_column C_Book as P PE → t_Book_put_column C_Book (endM [0] P PE) (startD 8 as) := by
  rintro as P PE ⟨l, lt, x, w, g, rows, rfl, hl, hw, hg, hr, hP⟩
  have hA : decide ((w : Int) ≥ 10) = false := by rw [decide_eq_false_iff_not]; omega
  have hB : decide ((g : Int) < 0) = false := by rw [decide_eq_false_iff_not]; omega
  have hC : g / 2 ^ rows.length = 0 := Nat.div_eq_of_lt hg
  have hwl : 2 ^ w ≤ 2 ^ 10 := Nat.pow_le_pow_right (by decide) (by omega)
  push_cast [t_Book_put_column, bookT, bookO, List.length_map, hA, hB, hC, n0, Int.lt_irrefl, decide_false]
  refine ⟨by omega, ?_⟩
  intro ld
  walk_at "vi"
  have hcl := cls_length rows w (2 ^ w)
  have hil : (ids rows w (2 ^ w)).length ≤ 2 ^ w := by unfold ids; rw [List.length_map]; exact hcl
  refine for_map (ids rows w (2 ^ w)) rul (fun i ρ => ∃ (y : Dt) (z : Sl) (ds : List (Key × Dt)) (ks : List Nat), ρ = [.v (.mt (bookO C_Book l lt w rows (ids rows w (2 ^ w)))) y, .v .fz (nat g), .v (.ow ld) (.dct ds), z, .no, .no, .no, .no] ∧ KeysN ds ks ∧ ks.length ≤ 2 * i ∧
      ∀ k, k ∈ ks ↔ putG ((ids rows w (2 ^ w)).take i) g k)
    ⟨_, .refl _, _, _, [], [], rfl, KeysN.nil, by simp, fun k => by simp [putG]⟩ ?_ ?_
  · rintro i hi ρ ⟨y, z, ds, ks, rfl, hk, hkl, hmem⟩
    have hk1 := hk.ins ((ids rows w (2 ^ w))[i]).1 (.bl true)
    have hins : ∀ (js : List Nat) (j : Nat), (insN js j).length ≤ js.length + 1 := insN_len
    have q1 := hins ks ((ids rows w (2 ^ w))[i]).1
    have q2 := hins (insN ks ((ids rows w (2 ^ w))[i]).1) (((ids rows w (2 ^ w))[i]).1 &&& g)
    push_cast [rul, hk.len, hk1.len]
    refine ⟨by omega, by omega, _, .refl _, _, _, _, _, rfl, hk1.ins _ (.bl true), by omega, fun k => ?_⟩
    rw [mem_insN, mem_insN, hmem, take_succ_at _ _ hi]
    unfold putG
    simp only [List.mem_append, List.mem_singleton]
    constructor
    · rintro ((⟨p, hp, e⟩ | e) | e)
      · exact ⟨p, .inl hp, e⟩
      · exact ⟨_, .inr rfl, .inl e⟩
      · exact ⟨_, .inr rfl, .inr e⟩
    · rintro ⟨p, hp | rfl, e⟩
      · exact .inl (.inl ⟨p, hp, e⟩)
      · exact e.elim (fun e => .inl (.inr e)) .inr
  · rintro ρ ⟨y, z, ds, ks, rfl, hk, hkl, hmem⟩
    rw [List.take_length] at hmem
    push_cast [bookO]
    walk_at "vi"
    refine ⟨by rw [enumD_length, List.length_map]; omega, lc_enum rows nat (fun i => nat (rows.getD i 0 ||| (g / 2 ^ i &&& 1) * 2 ^ w)) (fun W i hi acc h => ?_) ?_⟩
    · have h1 : (g / 2 ^ i &&& 1) < 2 ^ 64 := Nat.lt_of_le_of_lt Nat.and_le_right (by decide)
      rw [getD_at rows 0 i hi] at h
      walk_at "vx"
      exact ⟨by omega, cpow_nat h1 (by omega), h⟩
    · have hput : ((List.range rows.length).map fun i => nat (rows.getD i 0 ||| (g / 2 ^ i &&& 1) * 2 ^ w)) = (putC rows w g).map nat := by unfold putC; rw [List.map_map]; rfl
      rw [hput]
      have hpl := putC_len rows w g
      have e1 : (w : Int) + 1 = ((w + 1 : Nat) : Int) := by omega
      push_cast [e1]
      refine ⟨by decide, fun lt' => ?_⟩
      obtain ⟨cs, hcs, hcm, hcl2⟩ := hk.srt
      obtain ⟨zs, z1, z2⟩ := hk.sorted hcs (fun k => (hcm k).symm)
      refine ⟨by decide, zs, z1, fun ys hp ho => ?_⟩
      have e3 := Dt.lst.inj (z2 ys hp ho)
      rw [e3]
      have hgl : ∀ k, k ∈ cs → k < 2 ^ rows.length := fun k hk' => by
        obtain ⟨p, hp', e⟩ := (hmem k).mp ((hcm k).mp hk')
        have h3 := (mem_ids.mp hp').2.2
        have h4 : p.1 < 2 ^ rows.length := by rw [h3]; exact hav_lt _ _
        rcases e with rfl | rfl
        · exact h4
        · exact Nat.lt_of_le_of_lt Nat.and_le_left h4
      refine ⟨by rw [List.length_map]; omega, ?_⟩
      refine lc_map cs nat (fun k => rul (k, sha (putC rows w g) (w + 1) k)) (fun W i hi acc h => ?_) ?_
      · walk_at "vx"
        refine ⟨putC rows w g, w + 1, cs[i], rfl, by omega, by omega, by rw [hpl]; exact hgl _ (List.getElem_mem hi), ?_⟩
        walk_at "vx"
        exact h
      · have hmap : (cs.map fun k => rul (k, sha (putC rows w g) (w + 1) k)) = (cs.map fun k => (k, sha (putC rows w g) (w + 1) k)).map rul := by rw [List.map_map]; rfl
        rw [hmap]
        refine ⟨key2, fun d hd => ?_, fun es hpe hoe => ?_⟩
        · obtain ⟨q, _, rfl⟩ := List.mem_map.mp hd
          exact ⟨q, rfl, rfl⟩
        · have hes := ids_sorted_of (rows := putC rows w g) (w := w + 1) (L := cs.map fun k => (k, sha (putC rows w g) (w + 1) k)) ?_ (fun q => ?_) key2_rul hpe hoe
          · rw [hes]
            have := hP lt'
            unfold bookT bookO at this
            exact ⟨by decide, this⟩
          · rw [List.nodup_iff_pairwise_ne, List.pairwise_map]
            exact hcs.imp fun h e => by have := (Prod.mk.inj e).1; omega
          · rw [← ids_putC hr hg, List.mem_map]
            constructor
            · rintro ⟨k, hk', rfl⟩
              exact ⟨(hmem k).mp ((hcm k).mp hk'), rfl⟩
            · rintro ⟨h1, h2⟩
              exact ⟨q.1, (hcm _).mpr ((hmem _).mpr h1), by rw [← h2]⟩

theorem ok_Book_put_column (B : Bt mg) (d : DfM K C_Book "put_column" "Book.put_column" s_Book_put_column ["self", "group"]) (c_Book : Cz_Book K mg C_Book) (h_shared : Has P w K mg base 2 "shared" ["rows", "width", "group"] sp_shared) (h_mask_first : Has P w K mg base 1 "mask_first" ["pair"] sp_mask_first) : HasMtM P w K mg base 3 C_Book "put_column" ["self", "group"] (sp_Book_put_column C_Book) :=
  hasMtM_ok d sc_Book_put_column (by decide) (vs_Book_put_column B c_Book h_shared h_mask_first) len_Book_put_column rd_Book_put_column
/-! ### Book.take_column -/
def sp_Book_take_column (C_Book : Addr) : DMu := fun as P PE => ∃ (l lt : Addr) (x : Dt) (w p : Nat) (rows : List Nat), as = [(.mt (bookT C_Book l lt (w + 1) rows), x), (.fz, nat p)] ∧ rows.length ≤ 60 ∧ w ≤ 20 ∧ p ≤ w ∧ (∀ t, t < rows.length → rows.getD t 0 < 2 ^ (w + 1)) ∧ ∀ lt', P .fz .non [bookT C_Book l lt' w (cutC rows p)]

theorem sc_Book_take_column : FnScope ["self", "place", "left", "pair", "mask", "row"] ["self", "place"] (defScope s_Book_take_column) := ⟨rfl, rfl, rfl, by decide +kernel, rfl, by decide +kernel, by decide +kernel⟩
def t_Book_take_column (C_Book : Addr) : TSd := (sSeq (sIf (bOr (tB' (eOp dLt (eVar 1) (eC (.int 0)))) (tB' (eOp dGe (eVar 1) (eRdP (pFld C_Book (pName 0) "wide")))))
 sFalse
 sNil)
 (sSeq (sSetFld C_Book (pName 0) "told" (eLc (iLstG (eRdP (pFld C_Book (pName 0) "told"))) (hName 5) bYes (eCallN sp_less_member (aCons (eVar 5) (aCons (eVar 1) aNil))) [5]))
 (sSeq (sAugFld C_Book (pName 0) "wide" dSub (eC (.int 1)))
 (sSeq (sSet 2 (eLst aNil))
 (sSeq (sFor (iLst (eRdP (pFld C_Book (pName 0) "pairs"))) (hName 3)
 (sSeq (sSetF 4 (eCallN sp_less_member (aCons (eOp dIx (eVar 3) (eC (.int 1))) (aCons (eVar 1) aNil))))
 (sIf (tB' (eOp dEq (eCallN sp_having (aCons (eRdP (pFld C_Book (pName 0) "told")) (aCons (eVar 4) aNil))) (eOp dIx (eVar 3) (eC (.int 0)))))
 (sApp 2 (eTup (aCons (eOp dIx (eVar 3) (eC (.int 0))) (aCons (eVar 4) aNil))))
 sNil)))
 (sSetFldF C_Book (pName 0) "pairs" (eSortK sp_mask_first (eVar 2))))))))
theorem vs_Book_take_column (B : Bt mg) (c_Book : Cz_Book K mg C_Book) (h_less_member : Has P w K mg base 1 "less_member" ["members", "place"] sp_less_member) (h_having : Has P w K mg base 2 "having" ["rows", "mask"] sp_having) (h_mask_first : Has P w K mg base 1 "mask_first" ["pair"] sp_mask_first) (f : Addr) (cdv : Value) (A : Around) (outer : List Env) (s : Shared) (H : Hp) (E : XK) (e0 : Hs) (hr : Room 2 (A.deeper (envOfC "Book.take_column" (defScope s_Book_take_column) s.heap.objs.size f cdv))) :
    VSs (cxOf CX0 P w K mg base ["self", "place", "left", "pair", "mask", "row"] "Book.take_column" (defScope s_Book_take_column) f cdv A outer s H E).nox e0 (fun c d σ H => E c d H) (defBody s_Book_take_column) (t_Book_take_column C_Book) := by
  have Sc := sc_Book_take_column
  exact (vss_cons (vs_if (VW.vt (vw_or (vt_cmp vo_lt (ve_var 1 (pv 1)) ve_int (nomark _)) (vw_or1 (vt_cmp vo_ge (ve_var 1 (pv 1)) (ve_pl (vp_fldK (K := K) rfl (vp_name 0 (pv 0)) c_Book.cl c_Book.n_wide)) (nomark _)))))
 (vss_one vs_never)
 vss_nil)
 (vss_cons (vs_setFld (vp_name 0 (pv 0)) (ve_lc0 rfl Sc.nd (vj_listK (K := K) rfl (ve_pl (vp_fldK (K := K) rfl (vp_name 0 (pv 0)) c_Book.cl c_Book.n_told))) (blkOk_by (own := [("row", 5)]) (N := ["self", "place", "left", "pair", "mask", "row"]) (sc := defScope s_Book_take_column) (by decide +kernel)) (own_name 5) (fun _ _ _ _ _ => (vg_name (pg_name (i := 5) Sc.nd rfl (by first | exact .inl rfl | exact .inr rfl)))) (fun _ _ _ _ _ => (ve_callN (K := K) rfl h_less_member (hr.mono (by decide)) (by rfl) (va_cons (ve_var 5 (pv 5)) (va_cons (ve_var 1 (pv 1)) va_nil))))) c_Book.cl c_Book.n_told (fun h h' => ps_fld h h' (by rfl)))
 (vss_cons (vs_augFld vio_sub (vp_name 0 (pv 0)) ve_int c_Book.cl c_Book.n_wide (fun h h' q => ps_fldaug h h' q))
 (vss_cons (vs_set' (i := 2) (ve_lst va_nil) (fun h => ps_set Sc.nd rfl (.inl rfl) h))
 (vss_cons (vs_for PassesOwn.never rfl (vi_listK (K := K) rfl (ve_pl (vp_fldK (K := K) rfl (vp_name 0 (pv 0)) c_Book.cl c_Book.n_pairs))) (vg_name (pg_name (i := 3) Sc.nd rfl (.inl rfl)))
 (vss_cons (vs_setF' (i := 4) (ve_callN (K := K) rfl h_less_member (hr.mono (by decide)) (by rfl) (va_cons (ve_ixK (K := K) rfl (ve_var 3 (pv 3)) ve_int (fun _ _ => rfl)) (va_cons (ve_var 1 (pv 1)) va_nil))) (fun h => ps_set Sc.nd rfl (.inl rfl) h))
 (vss_one (vs_if (vt_cmp (vo_eqK (K := K) rfl hr.units) (ve_callN (K := K) rfl h_having (hr.mono (by decide)) (by rfl) (va_cons (ve_pl (vp_fldK (K := K) rfl (vp_name 0 (pv 0)) c_Book.cl c_Book.n_told)) (va_cons (ve_var 4 (pv 4)) va_nil))) (ve_ixK (K := K) rfl (ve_var 3 (pv 3)) ve_int (fun _ _ => rfl)) (nomark _))
 (vss_one (vs_app' (i := 2) (ve_tup (va_cons (ve_ixK (K := K) rfl (ve_var 3 (pv 3)) ve_int (fun _ _ => rfl)) (va_cons (ve_var 4 (pv 4)) va_nil))) (fun h => ps_expr (pe_bm PySem.F.plainAttrs_list PySem.F.slot_list_append PySem.F.type_list_append mt_append (pv 2) (pa_cons h pa_nil)))))
 vss_nil))))
 (vss_one (vs_setFldF (vp_name 0 (pv 0)) (ve_sortK h_mask_first hr (by rfl) B.z_sorted (by rfl) (ve_var 2 (pv 2))) c_Book.cl c_Book.n_pairs (fun h h' => ps_fld h h' (by rfl)))))))))
theorem len_Book_take_column : ∀ as P PE, sp_Book_take_column C_Book as P PE → as.length = 2 ∧ mupos 0 as = [0] := by
  rintro as P PE ⟨_, _, _, _, _, _, rfl, _⟩; exact ⟨rfl, rfl⟩
theorem rd_Book_take_column : ∀ as P PE, sp_Book_take_column C_Book as P PE → t_Book_take_column C_Book (endM [0] P PE) (startD 6 as) := by
  rintro as P PE ⟨l, lt, x, w, p, rows, rfl, hl, hw, hpw, hr, hP⟩
  have hA : decide ((p : Int) < 0) = false := by rw [decide_eq_false_iff_not]; omega
  have hB : decide ((p : Int) ≥ ((w + 1 : Nat) : Int)) = false := by rw [decide_eq_false_iff_not]; omega
  have e1 : ((w + 1 : Nat) : Int) - 1 = (w : Int) := by omega
  have h22 : 2 ^ (w + 1) ≤ 2 ^ 21 := Nat.pow_le_pow_right (by decide) (by omega)
  have hcl := cls_length rows (w + 1) (2 ^ (w + 1))
  push_cast [t_Book_take_column, bookT, bookO, List.length_map, hA, hB]
  push_cast only [hA]
  refine ⟨by rw [List.length_map]; omega, lc_map rows nat (fun r => nat (lessN r p)) (fun W i hi acc h => ?_) ?_⟩
  · have hri := hr i hi
    rw [getD_at rows 0 i hi] at hri
    walk_at "vx"
    refine ⟨_, p, rfl, Nat.lt_trans hri (Nat.lt_of_le_of_lt h22 (by decide)), by omega, ?_⟩
    walk_at "vx"
    exact h
  · have hcut : (rows.map fun r => nat (lessN r p)) = (cutC rows p).map nat := by unfold cutC; rw [List.map_map]; rfl
    rw [hcut]
    push_cast [e1]
    refine ⟨by decide, fun lt' => ⟨by decide, ?_⟩⟩
    intro ll
    refine for_map (ids rows (w + 1) (2 ^ (w + 1))) rul (fun i ρ => ∃ (y : Dt) (z u : Sl), ρ = [.v (.mt (bookO C_Book l lt' w (cutC rows p) (ids rows (w + 1) (2 ^ (w + 1))))) y, .v .fz (nat p), .v (.ow ll) (.lst (((((ids rows (w + 1) (2 ^ (w + 1))).take i).filter fun q => decide (hav (cutC rows p) (lessN q.2 p) = q.1)).map fun q => (q.1, lessN q.2 p)).map rul)), z, u, .no])
      ⟨_, .refl _, _, _, _, rfl⟩ ?_ ?_
    · rintro i hi ρ ⟨y, z, u, rfl⟩
      obtain ⟨h1, h2, h3⟩ := mem_ids.mp (List.getElem_mem hi)
      push_cast [rul, bookO]
      refine ⟨_, p, rfl, Nat.lt_trans h1 (Nat.lt_of_le_of_lt h22 (by decide)), by omega, ?_⟩
      walk_at "vx"
      refine ⟨cutC rows p, _, rfl, by rw [cutC_len]; omega, ?_⟩
      walk_at "vx"
      rw [take_succ_at _ _ hi, List.filter_append, List.map_append, List.map_append]
      refine selS_dec (fun h => ?_) (fun h => ?_)
      · have h' : hav (cutC rows p) (lessN ((ids rows (w + 1) (2 ^ (w + 1)))[i]).2 p) = ((ids rows (w + 1) (2 ^ (w + 1)))[i]).1 := by omega
        have e5 : ([(ids rows (w + 1) (2 ^ (w + 1)))[i]].filter fun q => decide (hav (cutC rows p) (lessN q.2 p) = q.1)) = [(ids rows (w + 1) (2 ^ (w + 1)))[i]] := by simp [h']
        rw [e5]
        push_cast [rul]
        refine ⟨?_, _, .refl _, _, _, _, rfl⟩
        rw [List.length_map, List.length_map]
        refine Nat.lt_of_le_of_lt (List.length_filter_le _ _) ?_
        rw [List.length_take]
        have := ids_len rows (w + 1) (2 ^ (w + 1))
        omega
      · have h' : ¬ hav (cutC rows p) (lessN ((ids rows (w + 1) (2 ^ (w + 1)))[i]).2 p) = ((ids rows (w + 1) (2 ^ (w + 1)))[i]).1 := by omega
        have e5 : ([(ids rows (w + 1) (2 ^ (w + 1)))[i]].filter fun q => decide (hav (cutC rows p) (lessN q.2 p) = q.1)) = [] := by simp [h']
        rw [e5]
        push_cast [List.map_nil]
        exact ⟨_, .refl _, _, _, _, rfl⟩
    · rintro ρ ⟨y, z, u, rfl⟩
      rw [List.take_length]
      show _
      push_cast [bookO]
      refine ⟨key2, fun d hd => ?_, fun es hpe hoe => ?_⟩
      · obtain ⟨q, _, rfl⟩ := List.mem_map.mp hd
        exact ⟨q, rfl, rfl⟩
      · have hes := ids_sorted_of (rows := cutC rows p) (w := w) (L := cutI rows w p) cutI_nodup (fun q => mem_cutI hpw) key2_rul hpe hoe
        rw [hes]
        have := hP lt'
        unfold bookT bookO at this
        exact ⟨by decide, this⟩

theorem ok_Book_take_column (B : Bt mg) (d : DfM K C_Book "take_column" "Book.take_column" s_Book_take_column ["self", "place"]) (c_Book : Cz_Book K mg C_Book) (h_less_member : Has P w K mg base 1 "less_member" ["members", "place"] sp_less_member) (h_having : Has P w K mg base 2 "having" ["rows", "mask"] sp_having) (h_mask_first : Has P w K mg base 1 "mask_first" ["pair"] sp_mask_first) : HasMtM P w K mg base 3 C_Book "take_column" ["self", "place"] (sp_Book_take_column C_Book) :=
  hasMtM_ok d sc_Book_take_column (by decide) (vs_Book_take_column B c_Book h_less_member h_having h_mask_first) len_Book_take_column rd_Book_take_column
/-! ### _law_less -/
def sp_law_less : DSp := fun as P => ∃ (m p : Nat), as = [(.fz, nat m), (.fz, nat p)] ∧ m < 2 ^ 62 ∧ p ≤ 1000 ∧ P .fz (nat (lessN m p))

theorem sc_law_less : FnScope ["members", "place", "low"] ["members", "place"] (defScope s_law_less) := ⟨rfl, rfl, rfl, by decide +kernel, rfl, by decide +kernel, by decide +kernel⟩
def t_law_less : TSd := (sSeq (sSetF 2 (eOp dAnd (eVar 0) (eOp dSub (eOp dShl (eC (.int 1)) (eVar 1)) (eC (.int 1)))))
 (sRet (eOp dAdd (eVar 2) (eOp dShl (eOp dShr (eVar 0) (eOp dAdd (eVar 1) (eC (.int 1)))) (eVar 1)))))
theorem vs_law_less (B : Bt mg) (f : Addr) (cdv : Value) (A : Around) (outer : List Env) (s : Shared) (H : Hp) (E : XK) (e0 : Hs) (hr : Room 0 (A.deeper (envOfC "_law_less" (defScope s_law_less) s.heap.objs.size f cdv))) :
    VSs (cxOf CX0 P w K mg base ["members", "place", "low"] "_law_less" (defScope s_law_less) f cdv A outer s H E).nox e0 WX0 (defBody s_law_less) (t_law_less) := by
  have Sc := sc_law_less
  exact (vss_cons (vs_setF' (i := 2) (ve_op vo_and (ve_var 0 (pv 0)) (ve_op vo_sub (ve_op vo_shl ve_int (ve_var 1 (pv 1))) ve_int)) (fun h => ps_set Sc.nd rfl (.inl rfl) h))
 (vss_one (vs_ret (ve_op (vo_addK (K := K) rfl) (ve_var 2 (pv 2)) (ve_op vo_shl (ve_op vo_shr (ve_var 0 (pv 0)) (ve_op (vo_addK (K := K) rfl) (ve_var 1 (pv 1)) ve_int)) (ve_var 1 (pv 1)))))))
theorem len_law_less : ∀ as P, sp_law_less as P → as.length = 2 := by
  rintro as P ⟨_, _, rfl, _⟩; rfl
theorem rd_law_less : ∀ as P, sp_law_less as P → t_law_less { nx := fun _ => P .fz .non, rt := fun k x => k.st = true ∧ P k x } (startD 3 as) := by
  rintro as P ⟨m, p, rfl, hm, hp, hP⟩
  have e : ((p : Nat) : Int) + 1 = ((p + 1 : Nat) : Int) := by omega
  have hd : m / 2 ^ (p + 1) < 2 ^ 64 := Nat.lt_of_le_of_lt (Nat.div_le_self _ _) (Nat.lt_trans hm (by decide))
  have ha : ((m &&& (2 ^ p - 1) : Nat) : Int) + ((m / 2 ^ (p + 1) * 2 ^ p : Nat) : Int) = ((lessN m p : Nat) : Int) := by rw [← lessN_add]; omega
  push_cast [t_law_less, pow_sub_one, e, ha]
  exact ⟨cpow1 (by omega), by omega, cpow_nat hd (by omega), hP⟩

theorem ok_law_less (B : Bt mg) (d : Df K mg "_law_less" s_law_less ["members", "place"]) : Has P w K mg base 1 "_law_less" ["members", "place"] sp_law_less :=
  has_ok d sc_law_less (by decide) (vs_law_less B) len_law_less rd_law_less
/-! ### _law_column -/
def sp_law_column (C_Book : Addr) : DMu := fun as P PE => ∃ (l lt : Addr) (x : Dt) (w : Nat) (rows : List Nat) (z : Int) (b : Bool), as = [(.mt (bookT C_Book l lt w rows), x), (.rd, nats rows), (.fz, nat w), (.fz, .int z), (.fz, .bl b)] ∧ rows.length ≤ 12 ∧ (∀ r ∈ rows, r < 2 ^ w) ∧ w ≤ 6 ∧
  (w = 0 ∨ (w < 6 ∧ b = true) → ∀ rs lt', rs.length ≤ 12 → (∀ r ∈ rs, r < 2 ^ (w + 1)) → P .fr (nats rs) [bookT C_Book l lt' (w + 1) rs]) ∧ (∀ v, w = v + 1 → ¬ (w < 6 ∧ b = true) → ∀ rs lt', rs.length ≤ 12 → (∀ r ∈ rs, r < 2 ^ v) → P .fr (nats rs) [bookT C_Book l lt' v rs])

theorem sc_law_column : FnScope ["book", "rows", "wide", "number", "put", "group", "place", "k", "row"] ["book", "rows", "wide", "number", "put"] (defScope s_law_column) := ⟨rfl, rfl, rfl, by decide +kernel, rfl, by decide +kernel, by decide +kernel⟩
def t_law_column (C_Book : Addr) : TSd := (sSeq (sIf (bOr (tB' (eOp dEq (eVar 2) (eC (.int 0)))) (bAnd (tB' (eOp dLt (eVar 2) (eC (.int 6)))) (tB' (eVar 4))))
 (sSeq (sSetF 5 (eOp dMod (eVar 3) (eOp dShl (eC (.int 1)) (eCall bLen (aCons (eVar 1) aNil)))))
 (sSeq (sExprM (eMethMu 0 C_Book "put_column" (sp_Book_put_column C_Book) (amCons (eVar 5) amNil)))
 (sRet (eLc (iEnG (eVar 1)) (hTup 2 (hsCons (hName 7) (hsCons (hName 8) hsNil))) bYes (eOp dAdd (eVar 8) (eOp dShl (eOp dAnd (eOp dShr (eVar 5) (eVar 7)) (eC (.int 1))) (eVar 2))) [7, 8]))))
 sNil)
 (sSeq (sSetF 6 (eOp dMod (eVar 3) (eVar 2)))
 (sSeq (sExprM (eMethMu 0 C_Book "take_column" (sp_Book_take_column C_Book) (amCons (eVar 6) amNil)))
 (sRet (eLc (iLstG (eVar 1)) (hName 8) bYes (eCallN sp_law_less (aCons (eVar 8) (aCons (eVar 6) aNil))) [8])))))
theorem vs_law_column (B : Bt mg) (c_Book : Cz_Book K mg C_Book) (h_Book_put_column : HasMtM P w K mg base 3 C_Book "put_column" ["self", "group"] (sp_Book_put_column C_Book)) (h_Book_take_column : HasMtM P w K mg base 3 C_Book "take_column" ["self", "place"] (sp_Book_take_column C_Book)) (h_law_less : Has P w K mg base 1 "_law_less" ["members", "place"] sp_law_less) (f : Addr) (cdv : Value) (A : Around) (outer : List Env) (s : Shared) (H : Hp) (E : XK) (e0 : Hs) (hr : Room 3 (A.deeper (envOfC "_law_column" (defScope s_law_column) s.heap.objs.size f cdv))) :
    VSs (cxOf CX0 P w K mg base ["book", "rows", "wide", "number", "put", "group", "place", "k", "row"] "_law_column" (defScope s_law_column) f cdv A outer s H E).nox e0 (fun c d σ H => E c d H) (defBody s_law_column) (t_law_column C_Book) := by
  have Sc := sc_law_column
  exact (vss_cons (vs_if (VW.vt (vw_or (vt_cmp (vo_eqK (K := K) rfl hr.units) (ve_var 2 (pv 2)) ve_int (nomark _)) (vw_or1 (VW.vt (vw_and (vt_cmp vo_lt (ve_var 2 (pv 2)) ve_int (nomark _)) (vw_and1 (vt_val (ve_var 4 (pv 4)))))))))
 (vss_cons (vs_setF' (i := 5) (ve_op vo_mod (ve_var 3 (pv 3)) (ve_op vo_shl ve_int (ve_callB (vc_lenK (K := K) rfl) (by rfl) B.z_len PySem.boot_len (va_cons (ve_var 1 (pv 1)) va_nil)))) (fun h => ps_set Sc.nd rfl (.inr rfl) h))
 (vss_cons (vs_exprM (vm_meth (K := K) rfl c_Book.cl h_Book_put_column (hr.mono (by decide)) (pv 0) (vam_cons (ve_var 5 (pv 5)) vam_nil)))
 (vss_one (vs_ret (ve_lc0 rfl Sc.nd (vj_enumK (K := K) rfl (ve_var 1 (pv 1)) (fun h => pi_enum (by rfl) B.z_enumerate (pa_cons h pa_nil))) (blkOk_by (own := [("k", 7), ("row", 8)]) (N := ["book", "rows", "wide", "number", "put", "group", "place", "k", "row"]) (sc := defScope s_law_column) (by decide +kernel)) (own_two 7 8 _) (fun _ _ _ _ _ => (vg_tupK (K := K) rfl rfl (vgs_cons (vg_name (pg_name (i := 7) Sc.nd rfl (by first | exact .inl rfl | exact .inr rfl))) (vgs_cons (vg_name (pg_name (i := 8) Sc.nd rfl (by first | exact .inl rfl | exact .inr rfl))) vgs_nil)))) (fun _ _ _ _ _ => (ve_op (vo_addK (K := K) rfl) (ve_var 8 (pv 8)) (ve_op vo_shl (ve_op vo_and (ve_op vo_shr (ve_var 5 (pv 5)) (ve_var 7 (pv 7))) ve_int) (ve_var 2 (pv 2))))))))))
 vss_nil)
 (vss_cons (vs_setF' (i := 6) (ve_op vo_mod (ve_var 3 (pv 3)) (ve_var 2 (pv 2))) (fun h => ps_set Sc.nd rfl (.inr rfl) h))
 (vss_cons (vs_exprM (vm_meth (K := K) rfl c_Book.cl h_Book_take_column (hr.mono (by decide)) (pv 0) (vam_cons (ve_var 6 (pv 6)) vam_nil)))
 (vss_one (vs_ret (ve_lc0 rfl Sc.nd (vj_listK (K := K) rfl (ve_var 1 (pv 1))) (blkOk_by (own := [("row", 8)]) (N := ["book", "rows", "wide", "number", "put", "group", "place", "k", "row"]) (sc := defScope s_law_column) (by decide +kernel)) (own_name 8) (fun _ _ _ _ _ => (vg_name (pg_name (i := 8) Sc.nd rfl (by first | exact .inl rfl | exact .inr rfl)))) (fun _ _ _ _ _ => (ve_callN (K := K) rfl h_law_less (hr.mono (by decide)) (by rfl) (va_cons (ve_var 8 (pv 8)) (va_cons (ve_var 6 (pv 6)) va_nil))))))))))
theorem len_law_column : ∀ as P PE, sp_law_column C_Book as P PE → as.length = 5 ∧ mupos 0 as = [0] := by
  rintro as P PE ⟨_, _, _, _, _, _, _, rfl, _⟩; exact ⟨rfl, rfl⟩
theorem rd_law_column : ∀ as P PE, sp_law_column C_Book as P PE → t_law_column C_Book (endM [0] P PE) (startD 9 as) := by
  rintro as P PE ⟨l, lt, x, w, rows, z, b, rfl, hl, hr, hw, hP, hQ⟩
  have hrd : ∀ t, t < rows.length → rows.getD t 0 < 2 ^ w := fun t ht => by rw [getD_at rows 0 t ht]; exact hr _ (List.getElem_mem ht)
  have hpl := Nat.two_pow_pos rows.length
  obtain ⟨g, hg, hg2⟩ := mod_nat z hpl
  have hput : ∀ P : Prop, (w = 0 ∨ ¬ w = 0 ∧ w < 6 ∧ b = true → P) → (¬ w = 0 ∧ (¬ w < 6 ∨ w < 6 ∧ b = false) → P) → P := fun P h1 h2 => by
    by_cases h0 : w = 0
    · exact h1 (.inl h0)
    · by_cases h6 : w < 6
      · cases b
        · exact h2 ⟨h0, .inr ⟨h6, rfl⟩⟩
        · exact h1 (.inr ⟨h0, h6, rfl⟩)
      · exact h2 ⟨h0, .inl h6⟩
  refine hput _ (fun hc => ?_) (fun hc => ?_)
  · have hlt : w = 0 ∨ (w < 6 ∧ b = true) := hc.imp id fun h => h.2
    have hput2 : ((List.range rows.length).map fun i => nat (rows.getD i 0 + (g / 2 ^ i &&& 1) * 2 ^ w)) = (putC rows w g).map nat := by
      unfold putC
      rw [List.map_map]
      refine List.map_congr_left fun i hi => ?_
      have hi := List.mem_range.mp hi
      have h1 := hrd i hi
      have h2 : rows.getD i 0 &&& (g / 2 ^ i &&& 1) * 2 ^ w = 0 := Nat.eq_of_testBit_eq fun k => by
        rw [Nat.testBit_and, Nat.testBit_mul_two_pow, Nat.zero_testBit]
        by_cases hk : w ≤ k
        · rw [testBit_ge h1 hk]; rfl
        · simp [hk]
      have h3 := nat_or_and_add (rows.getD i 0) ((g / 2 ^ i &&& 1) * 2 ^ w)
      have h4 : rows.getD i 0 + (g / 2 ^ i &&& 1) * 2 ^ w = rows.getD i 0 ||| (g / 2 ^ i &&& 1) * 2 ^ w := by omega
      show nat (rows.getD i 0 + (g / 2 ^ i &&& 1) * 2 ^ w) = nat (rows.getD i 0 ||| (g / 2 ^ i &&& 1) * 2 ^ w)
      rw [h4]
    rcases hc with h0 | ⟨h0, h6, rfl⟩
    case' inl =>
      have e : decide ((w : Int) = 0) = true := by rw [decide_eq_true_eq]; omega
      push_cast [t_law_column, e, hg, bookT_root, List.length_map]
    case' inr =>
      have e : decide ((w : Int) = 0) = false := by rw [decide_eq_false_iff_not]; omega
      have e6 : decide ((w : Int) < 6) = true := by rw [decide_eq_true_eq]; omega
      push_cast [t_law_column, e, e6, hg, bookT_root, List.length_map]
    all_goals
      refine ⟨cpow1 (by omega), by omega, fun z => (nomatch z), l, lt, _, w, g, rows, rfl, by omega, by omega, hg2, hrd, fun lt' => ?_⟩
      walk_at "vx"
      walk_at "vi"
      refine ⟨by rw [enumD_length, List.length_map]; omega, lc_enum rows nat (fun i => nat (rows.getD i 0 + (g / 2 ^ i &&& 1) * 2 ^ w)) (fun W i hi acc h => ?_) ?_⟩
      · have h1 : (g / 2 ^ i &&& 1) < 2 ^ 64 := Nat.lt_of_le_of_lt Nat.and_le_right (by decide)
        rw [getD_at rows 0 i hi] at h
        push_cast [← Int.natCast_add]
        exact ⟨by omega, cpow_nat h1 (by omega), h⟩
      · rw [hput2]
        refine hP hlt _ _ (by rw [putC_len]; exact hl) fun r hr' => ?_
        obtain ⟨t, ht, rfl⟩ := List.getElem_of_mem hr'
        rw [putC_len] at ht
        refine lt_pow_of fun k hk => ?_
        have := putC_bit (g := g) (k := k) ht (hrd t ht)
        rw [getD_at (putC rows w g) 0 t (by rw [putC_len]; exact ht), if_neg (by omega)] at this
        rw [this]
        exact testBit_ge (hrd t ht) (by omega)
  · have hlt : ¬ (w < 6 ∧ b = true) := fun h => by
      rcases hc.2 with z | z
      · exact z h.1
      · rw [h.2] at z; exact absurd z.2 (by decide)
    obtain ⟨h0, hc⟩ := hc
    obtain ⟨v, rfl⟩ : ∃ v, w = v + 1 := ⟨w - 1, by omega⟩
    obtain ⟨p, hp, hp2⟩ := mod_nat z (n := v + 1) (by omega)
    have e : decide (((v + 1 : Nat) : Int) = 0) = false := by rw [decide_eq_false_iff_not]; omega
    have hcut : (rows.map fun r => nat (lessN r p)) = (cutC rows p).map nat := by unfold cutC; rw [List.map_map]; rfl
    rcases hc with h6 | ⟨h6, rfl⟩
    case' inl =>
      have e6 : decide (((v + 1 : Nat) : Int) < 6) = false := by rw [decide_eq_false_iff_not]; omega
      push_cast [t_law_column, e, e6, hp, bookT_root, List.length_map]
    case' inr =>
      have e6 : decide (((v + 1 : Nat) : Int) < 6) = true := by rw [decide_eq_true_eq]; omega
      push_cast [t_law_column, e, e6, hp, bookT_root, List.length_map]
    all_goals
      refine ⟨by omega, fun z => (nomatch z), l, lt, _, v, p, rows, rfl, by omega, by omega, by omega, hrd, fun lt' => ?_⟩
      walk_at "vx"
      walk_at "vi"
      refine ⟨by rw [List.length_map]; omega, lc_map rows nat (fun r => nat (lessN r p)) (fun W i hi acc h => ?_) ?_⟩
      · have hri := hr _ (List.getElem_mem hi)
        have h26 : 2 ^ (v + 1) ≤ 2 ^ 6 := Nat.pow_le_pow_right (by decide) hw
        walk_at "vx"
        refine ⟨_, p, rfl, Nat.lt_trans hri (Nat.lt_of_le_of_lt h26 (by decide)), by omega, ?_⟩
        walk_at "vx"
        exact h
      · rw [hcut]
        refine hQ v rfl hlt _ _ (by rw [cutC_len]; exact hl) fun r hr' => ?_
        unfold cutC at hr'
        obtain ⟨a, ha, rfl⟩ := List.mem_map.mp hr'
        exact lessN_lt (hr a ha) (by omega)

theorem ok_law_column (B : Bt mg) (d : Df K mg "_law_column" s_law_column ["book", "rows", "wide", "number", "put"]) (c_Book : Cz_Book K mg C_Book) (h_Book_put_column : HasMtM P w K mg base 3 C_Book "put_column" ["self", "group"] (sp_Book_put_column C_Book)) (h_Book_take_column : HasMtM P w K mg base 3 C_Book "take_column" ["self", "place"] (sp_Book_take_column C_Book)) (h_law_less : Has P w K mg base 1 "_law_less" ["members", "place"] sp_law_less) : HasM CX0 P w K mg base 4 "_law_column" ["book", "rows", "wide", "number", "put"] (sp_law_column C_Book) :=
  hasM_ok d sc_law_column (by decide) (vs_law_column B c_Book h_Book_put_column h_Book_take_column h_law_less) len_law_column rd_law_column
/-! ### Book.ideas -/
def sp_Book_ideas (C_Book : Addr) : DSp := fun as P => ∃ (l lt : Addr) (x : Dt) (w : Nat) (rows : List Nat), as = [(.rt (bookT C_Book l lt w rows), x)] ∧ P .fr (rulesD (ids rows w (2 ^ w)))

theorem sc_Book_ideas : FnScope ["self"] ["self"] (defScope s_Book_ideas) := ⟨rfl, rfl, rfl, by decide +kernel, rfl, by decide +kernel, by decide +kernel⟩
def t_Book_ideas (C_Book : Addr) : TSd := (sRet (eCall bList2 (aCons (eAttr C_Book "pairs" (eVar 0)) aNil)))
theorem vs_Book_ideas (B : Bt mg) (c_Book : Cz_Book K mg C_Book) (f : Addr) (cdv : Value) (A : Around) (outer : List Env) (s : Shared) (H : Hp) (E : XK) (e0 : Hs) (hr : Room 0 (A.deeper (envOfC "Book.ideas" (defScope s_Book_ideas) s.heap.objs.size f cdv))) :
    VSs (cxOf CX0 P w K mg base ["self"] "Book.ideas" (defScope s_Book_ideas) f cdv A outer s H E).nox e0 WX0 (defBody s_Book_ideas) (t_Book_ideas C_Book) := by
  have Sc := sc_Book_ideas
  exact (vss_one (vs_ret (ve_callTy (vc_list2K (K := K) rfl rfl) (by rfl) B.z_list PyProof.Rows.boot_list (va_cons (ve_attrK (K := K) rfl (ve_var 0 (pv 0)) c_Book.cl c_Book.n_pairs) va_nil))))
theorem len_Book_ideas : ∀ as P, sp_Book_ideas C_Book as P → as.length = 1 := by
  rintro as P ⟨_, _, _, _, _, rfl, _⟩; rfl
theorem rd_Book_ideas : ∀ as P, sp_Book_ideas C_Book as P → t_Book_ideas C_Book { nx := fun _ => P .fz .non, rt := fun k x => k.st = true ∧ P k x } (startD 1 as) := by
  rintro as P ⟨l, lt, x, w, rows, rfl, hP⟩
  push_cast [t_Book_ideas, bookT, bookO]
  exact hP

theorem ok_Book_ideas (B : Bt mg) (d : DfM K C_Book "ideas" "Book.ideas" s_Book_ideas ["self"]) (c_Book : Cz_Book K mg C_Book) : HasMt P w K mg base 1 C_Book "ideas" ["self"] (sp_Book_ideas C_Book) :=
  hasMt_ok d sc_Book_ideas (by decide) (vs_Book_ideas B c_Book) len_Book_ideas rd_Book_ideas
/-! ### _law_whole -/
def Dt.whole : Dt → Bool
  | .int _ => true
  | _ => false
def sp_law_whole : DSp := fun as P => ∃ x, as = [normA (.fz, x)] ∧ x.isObj = false ∧ P .fz (.bl x.whole)

theorem sc_law_whole : FnScope ["found"] ["found"] (defScope s_law_whole) := ⟨rfl, rfl, rfl, by decide +kernel, rfl, by decide +kernel, by decide +kernel⟩
def t_law_whole : TSd := (sRet (eAnd (eIsi "int" (eVar 0)) (eNot (eIsi "bool" (eVar 0)))))
theorem vs_law_whole (B : Bt mg) (f : Addr) (cdv : Value) (A : Around) (outer : List Env) (s : Shared) (H : Hp) (E : XK) (e0 : Hs) (hr : Room 0 (A.deeper (envOfC "_law_whole" (defScope s_law_whole) s.heap.objs.size f cdv))) :
    VSs (cxOf CX0 P w K mg base ["found"] "_law_whole" (defScope s_law_whole) f cdv A outer s H E).nox e0 WX0 (defBody s_law_whole) (t_law_whole) := by
  have Sc := sc_law_whole
  exact (vss_one (vs_ret (ve_and (ve_isiK (K := K) rfl (ve_var 0 (pv 0)) (fun h => pe_callB call_isi (by rfl) B.z_isinstance PyProof.Rows.boot_isinstance (pa_cons h (pa_cons (pe_bltn (by rfl) B.z_int PyProof.Rows.boot_int rfl) pa_nil)))) (ve_one (ve_not (ve_isiK (K := K) rfl (ve_var 0 (pv 0)) (fun h => pe_callB call_isi (by rfl) B.z_isinstance PyProof.Rows.boot_isinstance (pa_cons h (pa_cons (pe_bltn (by rfl) B.z_bool PyProof.Rows.boot_bool rfl) pa_nil)))))))))
theorem len_law_whole : ∀ as P, sp_law_whole as P → as.length = 1 := by
  rintro as P ⟨k, rfl, _⟩; rfl
theorem rd_law_whole : ∀ as P, sp_law_whole as P → t_law_whole { nx := fun _ => P .fz .non, rt := fun k x => k.st = true ∧ P k x } (startD 1 as) := by
  rintro as P ⟨x, rfl, hx, hP⟩
  cases x
  case obj => cases hx
  case exc => cases hx
  all_goals push_cast [t_law_whole]
  all_goals exact hP

theorem ok_law_whole (B : Bt mg) (d : Df K mg "_law_whole" s_law_whole ["found"]) : Has P w K mg base 1 "_law_whole" ["found"] sp_law_whole :=
  has_ok d sc_law_whole (by decide) (vs_law_whole B) len_law_whole rd_law_whole
/-! ### _law_pair -/
def sp_law_pair : DSp := fun as P => ∃ r : Nat × Nat, as = [(.fz, rul r)] ∧ P .fz (.bl true)

theorem sc_law_pair : FnScope ["found"] ["found"] (defScope s_law_pair) := ⟨rfl, rfl, rfl, by decide +kernel, rfl, by decide +kernel, by decide +kernel⟩
def t_law_pair : TSd := (sSeq (sIf (bOr (bNot (tB' (eIsi "tuple" (eVar 0)))) (tB' (eOp dNe (eCall bLen (aCons (eVar 0) aNil)) (eC (.int 2)))))
 (sRet (eC (.bl false)))
 sNil)
 (sRet (eAnd (eCallN sp_law_whole (aCons (eOp dIx (eVar 0) (eC (.int 0))) aNil)) (eCallN sp_law_whole (aCons (eOp dIx (eVar 0) (eC (.int 1))) aNil)))))
theorem vs_law_pair (B : Bt mg) (h_law_whole : Has P w K mg base 1 "_law_whole" ["found"] sp_law_whole) (f : Addr) (cdv : Value) (A : Around) (outer : List Env) (s : Shared) (H : Hp) (E : XK) (e0 : Hs) (hr : Room 1 (A.deeper (envOfC "_law_pair" (defScope s_law_pair) s.heap.objs.size f cdv))) :
    VSs (cxOf CX0 P w K mg base ["found"] "_law_pair" (defScope s_law_pair) f cdv A outer s H E).nox e0 WX0 (defBody s_law_pair) (t_law_pair) := by
  have Sc := sc_law_pair
  exact (vss_cons (vs_if (VW.vt (vw_or (vt_not (vt_val (ve_isiK (K := K) rfl (ve_var 0 (pv 0)) (fun h => pe_callB call_isi (by rfl) B.z_isinstance PyProof.Rows.boot_isinstance (pa_cons h (pa_cons (pe_bltn (by rfl) B.z_tuple PyProof.Rows.boot_tuple rfl) pa_nil)))))) (vw_or1 (vt_cmp (vo_neK (K := K) rfl hr.units) (ve_callB (vc_lenK (K := K) rfl) (by rfl) B.z_len PySem.boot_len (va_cons (ve_var 0 (pv 0)) va_nil)) ve_int (nomark _)))))
 (vss_one (vs_ret ve_bl))
 vss_nil)
 (vss_one (vs_ret (ve_and (ve_callN (K := K) rfl h_law_whole (hr.mono (by decide)) (by rfl) (va_cons (ve_ixK (K := K) rfl (ve_var 0 (pv 0)) ve_int (fun _ _ => rfl)) va_nil)) (ve_one (ve_callN (K := K) rfl h_law_whole (hr.mono (by decide)) (by rfl) (va_cons (ve_ixK (K := K) rfl (ve_var 0 (pv 0)) ve_int (fun _ _ => rfl)) va_nil)))))))
theorem len_law_pair : ∀ as P, sp_law_pair as P → as.length = 1 := by
  rintro as P ⟨_, rfl, _⟩; rfl
theorem rd_law_pair : ∀ as P, sp_law_pair as P → t_law_pair { nx := fun _ => P .fz .non, rt := fun k x => k.st = true ∧ P k x } (startD 1 as) := by
  rintro as P ⟨r, rfl, hP⟩
  push_cast [t_law_pair, rul, n2, decide_true]
  refine ⟨nat r.1, rfl, rfl, ?_⟩
  push_cast [Dt.whole]
  refine ⟨nat r.2, rfl, rfl, ?_⟩
  push_cast [Dt.whole]
  exact hP

theorem ok_law_pair (B : Bt mg) (d : Df K mg "_law_pair" s_law_pair ["found"]) (h_law_whole : Has P w K mg base 1 "_law_whole" ["found"] sp_law_whole) : Has P w K mg base 2 "_law_pair" ["found"] sp_law_pair :=
  has_ok d sc_law_pair (by decide) (vs_law_pair B h_law_whole) len_law_pair rd_law_pair
/-! ### _law_having -/
def sp_law_having : DSp := fun as P => ∃ (rows : List Nat) (m : Nat), as = [(.rd, nats rows), (.fz, nat m)] ∧ rows.length ≤ 1000 ∧ P .fz (nat (hav rows m))

theorem sc_law_having : FnScope ["rows", "mask", "group", "k", "row"] ["rows", "mask"] (defScope s_law_having) := ⟨rfl, rfl, rfl, by decide +kernel, rfl, by decide +kernel, by decide +kernel⟩
def t_law_having : TSd := (sSeq (sSetF 2 (eC (.int 0)))
 (sSeq (sFor (iEn (eVar 0)) (hTup 2 (hsCons (hName 3) (hsCons (hName 4) hsNil)))
 (sIf (tB' (eOp dEq (eOp dAnd (eVar 4) (eVar 1)) (eVar 1)))
 (sSetF 2 (eOp dAdd (eVar 2) (eOp dShl (eC (.int 1)) (eVar 3))))
 sNil))
 (sRet (eVar 2))))
theorem vs_law_having (B : Bt mg) (f : Addr) (cdv : Value) (A : Around) (outer : List Env) (s : Shared) (H : Hp) (E : XK) (e0 : Hs) (hr : Room 0 (A.deeper (envOfC "_law_having" (defScope s_law_having) s.heap.objs.size f cdv))) :
    VSs (cxOf CX0 P w K mg base ["rows", "mask", "group", "k", "row"] "_law_having" (defScope s_law_having) f cdv A outer s H E).nox e0 WX0 (defBody s_law_having) (t_law_having) := by
  have Sc := sc_law_having
  exact (vss_cons (vs_setF' (i := 2) ve_int (fun h => ps_set Sc.nd rfl (.inl rfl) h))
 (vss_cons (vs_for PassesOwn.never rfl (vi_enumK (K := K) rfl (ve_var 0 (pv 0)) (fun h => pi_enum (by rfl) B.z_enumerate (pa_cons h pa_nil))) (vg_tupK (K := K) rfl rfl (vgs_cons (vg_name (pg_name (i := 3) Sc.nd rfl (.inl rfl))) (vgs_cons (vg_name (pg_name (i := 4) Sc.nd rfl (.inl rfl))) vgs_nil)))
 (vss_one (vs_if (vt_cmp (vo_eqK (K := K) rfl hr.units) (ve_op vo_and (ve_var 4 (pv 4)) (ve_var 1 (pv 1))) (ve_var 1 (pv 1)) (nomark _))
 (vss_one (vs_setF' (i := 2) (ve_op (vo_addK (K := K) rfl) (ve_var 2 (pv 2)) (ve_op vo_shl ve_int (ve_var 3 (pv 3)))) (fun h => ps_set Sc.nd rfl (.inl rfl) h)))
 vss_nil)))
 (vss_one (vs_ret (ve_var 2 (pv 2))))))
theorem len_law_having : ∀ as P, sp_law_having as P → as.length = 2 := by
  rintro as P ⟨_, _, rfl, _⟩; rfl
theorem rd_law_having : ∀ as P, sp_law_having as P → t_law_having { nx := fun _ => P .fz .non, rt := fun k x => k.st = true ∧ P k x } (startD 5 as) := by
  rintro as P ⟨rows, m, rfl, hl, hP⟩
  push_cast [t_law_having]
  walk_at "vi"
  refine for_enum rows nat (fun i ρ => ∃ x y, ρ = [.v .vw (nats rows), .v .fz (nat m), .v .fz (nat (hav (rows.take i) m)), x, y]) ⟨_, .refl _, _, _, by simp [hav, setOf]; exact ⟨rfl, rfl⟩⟩ ?_ ?_
  · rintro i hi ρ ⟨x, y, rfl⟩
    have hlt := hav_lt (rows.take i) m
    rw [List.length_take, Nat.min_eq_left (by omega)] at hlt
    have ha : ((hav (rows.take i) m : Nat) : Int) + ((2 ^ i : Nat) : Int) = ((hav (rows.take i) m ||| 2 ^ i : Nat) : Int) := by rw [← Int.natCast_add, add_pow hlt]
    push_cast [dec_sub']
    rw [hav_take rows m i hi]
    refine selS_b (fun h => ?_) (fun h => ?_)
    · push_cast [ha, h]
      exact ⟨cpow1 (by omega), _, .refl _, _, _, rfl⟩
    · push_cast [h]
      exact ⟨_, .refl _, _, _, rfl⟩
  · rintro ρ ⟨x, y, rfl⟩
    push_cast [List.take_length]
    exact hP

theorem ok_law_having (B : Bt mg) (d : Df K mg "_law_having" s_law_having ["rows", "mask"]) : Has P w K mg base 1 "_law_having" ["rows", "mask"] sp_law_having :=
  has_ok d sc_law_having (by decide) (vs_law_having B) len_law_having rd_law_having
/-! ### _law_shared -/
def sp_law_shared : DSp := fun as P => ∃ (rows : List Nat) (w g : Nat), as = [(.rd, nats rows), (.fz, nat w), (.fz, nat g)] ∧ w ≤ 1000 ∧ P .fz (nat (sha rows w g))

theorem sc_law_shared : FnScope ["rows", "wide", "group", "have", "k", "row"] ["rows", "wide", "group"] (defScope s_law_shared) := ⟨rfl, rfl, rfl, by decide +kernel, rfl, by decide +kernel, by decide +kernel⟩
def t_law_shared : TSd := (sSeq (sSetF 3 (eOp dSub (eOp dShl (eC (.int 1)) (eVar 1)) (eC (.int 1))))
 (sSeq (sFor (iEn (eVar 0)) (hTup 2 (hsCons (hName 4) (hsCons (hName 5) hsNil)))
 (sIf (tB' (eOp dEq (eOp dAnd (eOp dShr (eVar 2) (eVar 4)) (eC (.int 1))) (eC (.int 1))))
 (sSetF 3 (eOp dAnd (eVar 3) (eVar 5)))
 sNil))
 (sRet (eVar 3))))
theorem vs_law_shared (B : Bt mg) (f : Addr) (cdv : Value) (A : Around) (outer : List Env) (s : Shared) (H : Hp) (E : XK) (e0 : Hs) (hr : Room 0 (A.deeper (envOfC "_law_shared" (defScope s_law_shared) s.heap.objs.size f cdv))) :
    VSs (cxOf CX0 P w K mg base ["rows", "wide", "group", "have", "k", "row"] "_law_shared" (defScope s_law_shared) f cdv A outer s H E).nox e0 WX0 (defBody s_law_shared) (t_law_shared) := by
  have Sc := sc_law_shared
  exact (vss_cons (vs_setF' (i := 3) (ve_op vo_sub (ve_op vo_shl ve_int (ve_var 1 (pv 1))) ve_int) (fun h => ps_set Sc.nd rfl (.inl rfl) h))
 (vss_cons (vs_for PassesOwn.never rfl (vi_enumK (K := K) rfl (ve_var 0 (pv 0)) (fun h => pi_enum (by rfl) B.z_enumerate (pa_cons h pa_nil))) (vg_tupK (K := K) rfl rfl (vgs_cons (vg_name (pg_name (i := 4) Sc.nd rfl (.inl rfl))) (vgs_cons (vg_name (pg_name (i := 5) Sc.nd rfl (.inl rfl))) vgs_nil)))
 (vss_one (vs_if (vt_cmp (vo_eqK (K := K) rfl hr.units) (ve_op vo_and (ve_op vo_shr (ve_var 2 (pv 2)) (ve_var 4 (pv 4))) ve_int) ve_int (nomark _))
 (vss_one (vs_setF' (i := 3) (ve_op vo_and (ve_var 3 (pv 3)) (ve_var 5 (pv 5))) (fun h => ps_set Sc.nd rfl (.inl rfl) h)))
 vss_nil)))
 (vss_one (vs_ret (ve_var 3 (pv 3))))))
theorem len_law_shared : ∀ as P, sp_law_shared as P → as.length = 3 := by
  rintro as P ⟨_, _, _, rfl, _⟩; rfl
theorem rd_law_shared : ∀ as P, sp_law_shared as P → t_law_shared { nx := fun _ => P .fz .non, rt := fun k x => k.st = true ∧ P k x } (startD 6 as) := by
  rintro as P ⟨rows, w, g, rfl, hw, hP⟩
  push_cast [t_law_shared, pow_sub_one]
  refine ⟨cpow1 (by omega), ?_⟩
  walk_at "vi"
  refine for_enum rows nat (fun i ρ => ∃ x y, ρ = [.v .vw (nats rows), .v .fz (nat w), .v .fz (nat g), .v .fz (nat (shaN rows w g i)), x, y]) ⟨_, .refl _, _, _, rfl⟩ ?_ ?_
  · rintro i hi ρ ⟨x, y, rfl⟩
    push_cast [bit_and]
    refine ⟨by omega, ?_⟩
    refine selS_b (fun h => ?_) (fun h => ?_)
    · have e := shaN_succ (w := w) (g := g) hi
      rw [if_pos h] at e
      push_cast [← e]
      exact ⟨_, .refl _, _, _, rfl⟩
    · have e := shaN_succ (w := w) (g := g) hi
      rw [if_neg (by rw [h]; exact Bool.false_ne_true)] at e
      push_cast [← e]
      exact ⟨_, .refl _, _, _, rfl⟩
  · rintro ρ ⟨x, y, rfl⟩
    walk_at "vx"
    rw [shaN_len] 
    exact hP

theorem ok_law_shared (B : Bt mg) (d : Df K mg "_law_shared" s_law_shared ["rows", "wide", "group"]) : Has P w K mg base 1 "_law_shared" ["rows", "wide", "group"] sp_law_shared :=
  has_ok d sc_law_shared (by decide) (vs_law_shared B) len_law_shared rd_law_shared
/-! ### _law_pairs -/
def sp_law_pairs : DSp := fun as P => ∃ (rows : List Nat) (w : Nat), as = [(.rd, rulesD (ids rows w (2 ^ w))), (.rd, nats rows), (.fz, nat w)] ∧ rows.length ≤ 1000 ∧ w ≤ 1000 ∧ P .fz (.bl true)

theorem sc_law_pairs : FnScope ["found", "rows", "wide", "last", "pair"] ["found", "rows", "wide"] (defScope s_law_pairs) := ⟨rfl, rfl, rfl, by decide +kernel, rfl, by decide +kernel, by decide +kernel⟩
def t_law_pairs : TSd := (sSeq (sIf (bNot (tB' (eIsi "list" (eVar 0))))
 (sRet (eC (.bl false)))
 sNil)
 (sSeq (sSetF 3 (eUn (dI1 fun i => .int (-i)) (eC (.int 1))))
 (sSeq (sFor (iLst (eVar 0)) (hName 4)
 (sSeq (sIf (bOr (bNot (tB' (eCallN sp_law_pair (aCons (eVar 4) aNil)))) (tB' (eOp dLe (eOp dIx (eVar 4) (eC (.int 1))) (eVar 3))))
 (sRet (eC (.bl false)))
 sNil)
 (sSeq (sSetF 3 (eOp dIx (eVar 4) (eC (.int 1))))
 (sIf (bOr (tB' (eOp dNe (eOp dIx (eVar 4) (eC (.int 0))) (eCallN sp_law_having (aCons (eVar 1) (aCons (eOp dIx (eVar 4) (eC (.int 1))) aNil))))) (tB' (eOp dNe (eOp dIx (eVar 4) (eC (.int 1))) (eCallN sp_law_shared (aCons (eVar 1) (aCons (eVar 2) (aCons (eOp dIx (eVar 4) (eC (.int 0))) aNil)))))))
 (sRet (eC (.bl false)))
 sNil))))
 (sRet (eC (.bl true))))))
theorem vs_law_pairs (B : Bt mg) (h_law_pair : Has P w K mg base 2 "_law_pair" ["found"] sp_law_pair) (h_law_having : Has P w K mg base 1 "_law_having" ["rows", "mask"] sp_law_having) (h_law_shared : Has P w K mg base 1 "_law_shared" ["rows", "wide", "group"] sp_law_shared) (f : Addr) (cdv : Value) (A : Around) (outer : List Env) (s : Shared) (H : Hp) (E : XK) (e0 : Hs) (hr : Room 2 (A.deeper (envOfC "_law_pairs" (defScope s_law_pairs) s.heap.objs.size f cdv))) :
    VSs (cxOf CX0 P w K mg base ["found", "rows", "wide", "last", "pair"] "_law_pairs" (defScope s_law_pairs) f cdv A outer s H E).nox e0 WX0 (defBody s_law_pairs) (t_law_pairs) := by
  have Sc := sc_law_pairs
  exact (vss_cons (vs_if (vt_not (vt_val (ve_isiK (K := K) rfl (ve_var 0 (pv 0)) (fun h => pe_callB call_isi (by rfl) B.z_isinstance PyProof.Rows.boot_isinstance (pa_cons h (pa_cons (pe_bltn (by rfl) B.z_list PyProof.Rows.boot_list rfl) pa_nil))))))
 (vss_one (vs_ret ve_bl))
 vss_nil)
 (vss_cons (vs_setF' (i := 3) (ve_neg ve_int) (fun h => ps_set Sc.nd rfl (.inl rfl) h))
 (vss_cons (vs_for PassesOwn.never rfl (vi_listK (K := K) rfl (ve_var 0 (pv 0))) (vg_name (pg_name (i := 4) Sc.nd rfl (.inl rfl)))
 (vss_cons (vs_if (VW.vt (vw_or (vt_not (vt_val (ve_callN (K := K) rfl h_law_pair (hr.mono (by decide)) (by rfl) (va_cons (ve_var 4 (pv 4)) va_nil)))) (vw_or1 (vt_cmp vo_le (ve_ixK (K := K) rfl (ve_var 4 (pv 4)) ve_int (fun _ _ => rfl)) (ve_var 3 (pv 3)) (nomark _)))))
 (vss_one (vs_ret ve_bl))
 vss_nil)
 (vss_cons (vs_setF' (i := 3) (ve_ixK (K := K) rfl (ve_var 4 (pv 4)) ve_int (fun _ _ => rfl)) (fun h => ps_set Sc.nd rfl (.inl rfl) h))
 (vss_one (vs_if (VW.vt (vw_or (vt_cmp (vo_neK (K := K) rfl hr.units) (ve_ixK (K := K) rfl (ve_var 4 (pv 4)) ve_int (fun _ _ => rfl)) (ve_callN (K := K) rfl h_law_having (hr.mono (by decide)) (by rfl) (va_cons (ve_var 1 (pv 1)) (va_cons (ve_ixK (K := K) rfl (ve_var 4 (pv 4)) ve_int (fun _ _ => rfl)) va_nil))) (nomark _)) (vw_or1 (vt_cmp (vo_neK (K := K) rfl hr.units) (ve_ixK (K := K) rfl (ve_var 4 (pv 4)) ve_int (fun _ _ => rfl)) (ve_callN (K := K) rfl h_law_shared (hr.mono (by decide)) (by rfl) (va_cons (ve_var 1 (pv 1)) (va_cons (ve_var 2 (pv 2)) (va_cons (ve_ixK (K := K) rfl (ve_var 4 (pv 4)) ve_int (fun _ _ => rfl)) va_nil)))) (nomark _)))))
 (vss_one (vs_ret ve_bl))
 vss_nil)))))
 (vss_one (vs_ret ve_bl)))))
theorem len_law_pairs : ∀ as P, sp_law_pairs as P → as.length = 3 := by
  rintro as P ⟨_, _, rfl, _⟩; rfl
theorem rd_law_pairs : ∀ as P, sp_law_pairs as P → t_law_pairs { nx := fun _ => P .fz .non, rt := fun k x => k.st = true ∧ P k x } (startD 5 as) := by
  rintro as P ⟨rows, w, rfl, hl, hw, hP⟩
  push_cast [t_law_pairs]
  walk_at "vi"
  refine for_map (ids rows w (2 ^ w)) rul (fun i ρ => ∃ (last : Int) (x : Sl), ρ = [.v .vw (rulesD (ids rows w (2 ^ w))), .v .vw (nats rows), .v .fz (nat w), .v .fz (.int last), x] ∧ ∀ k (hk : k < (ids rows w (2 ^ w)).length), i ≤ k → last < (((ids rows w (2 ^ w))[k]).2 : Int)) ⟨_, .refl _, -1, _, rfl, fun k hk _ => by omega⟩ ?_ ?_
  · rintro i hi ρ ⟨last, x, rfl, hlast⟩
    obtain ⟨h1, h2, h3⟩ := mem_ids.mp (List.getElem_mem hi)
    have hb := hlast i hi (Nat.le_refl _)
    have hA : decide (((((ids rows w (2 ^ w))[i]).2 : Nat) : Int) ≤ last) = false := by rw [decide_eq_false_iff_not]; omega
    walk_at "vx"
    refine ⟨_, rfl, ?_⟩
    push_cast [rul, hA]
    refine ⟨rows, _, rfl, hl, ?_⟩
    push_cast [← h3, decide_true]
    refine ⟨rows, w, _, rfl, hw, ?_⟩
    have e : sha rows w ((ids rows w (2 ^ w))[i]).1 = ((ids rows w (2 ^ w))[i]).2 := by rw [h3]; exact h2
    push_cast [e, decide_true]
    refine ⟨_, .refl _, _, _, rfl, fun k hk hik => ?_⟩
    have := ids_rise (rows := rows) (w := w) (n := 2 ^ w) hk (show i < k by omega)
    omega
  · rintro ρ ⟨last, x, rfl, _⟩
    walk_at "vx"
    exact hP

theorem ok_law_pairs (B : Bt mg) (d : Df K mg "_law_pairs" s_law_pairs ["found", "rows", "wide"]) (h_law_pair : Has P w K mg base 2 "_law_pair" ["found"] sp_law_pair) (h_law_having : Has P w K mg base 1 "_law_having" ["rows", "mask"] sp_law_having) (h_law_shared : Has P w K mg base 1 "_law_shared" ["rows", "wide", "group"] sp_law_shared) : Has P w K mg base 3 "_law_pairs" ["found", "rows", "wide"] sp_law_pairs :=
  has_ok d sc_law_pairs (by decide) (vs_law_pairs B h_law_pair h_law_having h_law_shared) len_law_pairs rd_law_pairs
/-! ### _law_all -/
def sp_law_all : DSp := fun as P => ∃ (rows : List Nat) (w : Nat), as = [(.rd, rulesD (ids rows w (2 ^ w))), (.rd, nats rows), (.fz, nat w)] ∧ rows.length ≤ 1000 ∧ w ≤ 20 ∧ P .fz (.bl true)

theorem sc_law_all : FnScope ["found", "rows", "wide", "masks", "pair", "mask"] ["found", "rows", "wide"] (defScope s_law_all) := ⟨rfl, rfl, rfl, by decide +kernel, rfl, by decide +kernel, by decide +kernel⟩
def t_law_all : TSd := (sSeq (sSet 3 eDct)
 (sSeq (sFor (iLst (eVar 0)) (hName 4)
 (sSetKy 3 (eOp dIx (eVar 4) (eC (.int 1))) (eC (.bl true))))
 (sSeq (sFor (iR1 (aCons (eOp dShl (eC (.int 1)) (eVar 2)) aNil)) (hName 5)
 (sIf (tB' (eDIn true (eCallN sp_law_shared (aCons (eVar 1) (aCons (eVar 2) (aCons (eCallN sp_law_having (aCons (eVar 1) (aCons (eVar 5) aNil))) aNil)))) (eVar 3)))
 (sRet (eC (.bl false)))
 sNil))
 (sRet (eC (.bl true))))))
theorem vs_law_all (B : Bt mg) (h_law_having : Has P w K mg base 1 "_law_having" ["rows", "mask"] sp_law_having) (h_law_shared : Has P w K mg base 1 "_law_shared" ["rows", "wide", "group"] sp_law_shared) (f : Addr) (cdv : Value) (A : Around) (outer : List Env) (s : Shared) (H : Hp) (E : XK) (e0 : Hs) (hr : Room 1 (A.deeper (envOfC "_law_all" (defScope s_law_all) s.heap.objs.size f cdv))) :
    VSs (cxOf CX0 P w K mg base ["found", "rows", "wide", "masks", "pair", "mask"] "_law_all" (defScope s_law_all) f cdv A outer s H E).nox e0 WX0 (defBody s_law_all) (t_law_all) := by
  have Sc := sc_law_all
  exact (vss_cons (vs_set' (i := 3) ve_dct (fun h => ps_set Sc.nd rfl (.inl rfl) h))
 (vss_cons (vs_for PassesOwn.never rfl (vi_listK (K := K) rfl (ve_var 0 (pv 0))) (vg_name (pg_name (i := 4) Sc.nd rfl (.inl rfl)))
 (vss_one (vs_setKy' (i := 3) ve_bl (ve_ixK (K := K) rfl (ve_var 4 (pv 4)) ve_int (fun _ _ => rfl)) (fun h h' => ps_dput (units1 hr.units) (pv 3) h' h rfl))))
 (vss_cons (vs_for PassesOwn.never rfl (vi_range1 (by rfl) B.z_range (va_cons (ve_op vo_shl ve_int (ve_var 2 (pv 2))) va_nil)) (vg_name (pg_name (i := 5) Sc.nd rfl (.inl rfl)))
 (vss_one (vs_if (vt_dnotin hr.units (ve_callN (K := K) rfl h_law_shared (hr.mono (by decide)) (by rfl) (va_cons (ve_var 1 (pv 1)) (va_cons (ve_var 2 (pv 2)) (va_cons (ve_callN (K := K) rfl h_law_having (hr.mono (by decide)) (by rfl) (va_cons (ve_var 1 (pv 1)) (va_cons (ve_var 5 (pv 5)) va_nil))) va_nil)))) (ve_var 3 (pv 3)) (by rfl))
 (vss_one (vs_ret ve_bl))
 vss_nil)))
 (vss_one (vs_ret ve_bl)))))
theorem len_law_all : ∀ as P, sp_law_all as P → as.length = 3 := by
  rintro as P ⟨_, _, rfl, _⟩; rfl
theorem rd_law_all : ∀ as P, sp_law_all as P → t_law_all { nx := fun _ => P .fz .non, rt := fun k x => k.st = true ∧ P k x } (startD 6 as) := by
  rintro as P ⟨rows, w, rfl, hl, hw, hP⟩
  have h20 : 2 ^ w ≤ 2 ^ 20 := Nat.pow_le_pow_right (by decide) hw
  have hpw := Nat.two_pow_pos w
  push_cast [t_law_all]
  intro ld
  walk_at "vi"
  refine for_map (ids rows w (2 ^ w)) rul (fun i ρ => ∃ (ds : List (Key × Dt)) (ks : List Nat) (x : Sl), ρ = [.v .vw (rulesD (ids rows w (2 ^ w))), .v .vw (nats rows), .v .fz (nat w), .v (.ow ld) (.dct ds), x, .no] ∧ KeysN ds ks ∧ ks.length ≤ i ∧ ∀ p ∈ (ids rows w (2 ^ w)).take i, p.2 ∈ ks) ⟨_, .refl _, [], [], _, rfl, KeysN.nil, by simp, by simp⟩ ?_ ?_
  · rintro i hi ρ ⟨ds, ks, x, rfl, hk, hlt, hm⟩
    have h1 := ids_len rows w (2 ^ w)
    have h2 := insN_len ks ((ids rows w (2 ^ w))[i]).2
    push_cast [rul, hk.len]
    refine ⟨by omega, _, .refl _, _, _, _, rfl, hk.ins _ (.bl true), by omega, fun p h => ?_⟩
    rw [take_succ_at _ _ hi] at h
    rcases List.mem_append.mp h with z | z
    · exact mem_insN.mpr (.inl (hm p z))
    · rw [List.mem_singleton] at z
      exact mem_insN.mpr (.inr (by rw [z]))
  · rintro ρ ⟨ds, ks, x, rfl, hk, hlt, hm⟩
    rw [List.take_length] at hm
    have hin : ∀ c, c < 2 ^ w → clo rows w c = c → (valD ds (.inl (c : Int))).isSome = true := fun c h1 h2 => by
      rw [hk.some, decide_eq_true_eq]
      exact hm (hav rows c, c) (mem_ids.mpr ⟨h1, h2, rfl⟩)
    walk_at "vx"
    walk_at "vi"
    rw [Int.toNat_natCast]
    refine ⟨cpow1 (by omega), by omega, by omega, ?_⟩
    refine for_rng0 (2 ^ w) (fun i ρ => ∃ (y : Sl), ρ = [.v .vw (rulesD (ids rows w (2 ^ w))), .v .vw (nats rows), .v .fz (nat w), .v (.ow ld) (.dct ds), x, y]) ⟨_, .refl _, _, rfl⟩ ?_ ?_
    · rintro i hi ρ ⟨y, rfl⟩
      walk_at "vx"
      refine ⟨rows, i, rfl, hl, ?_⟩
      walk_at "vx"
      refine ⟨rows, w, hav rows i, rfl, by omega, ?_⟩
      have := hin (clo rows w i) (clo_lt _ _ _) (clo_idem _ _ _)
      unfold clo at this
      push_cast [this]
      exact ⟨_, .refl _, _, rfl⟩
    · rintro ρ ⟨y, rfl⟩
      walk_at "vx"
      exact hP

theorem ok_law_all (B : Bt mg) (d : Df K mg "_law_all" s_law_all ["found", "rows", "wide"]) (h_law_having : Has P w K mg base 1 "_law_having" ["rows", "mask"] sp_law_having) (h_law_shared : Has P w K mg base 1 "_law_shared" ["rows", "wide", "group"] sp_law_shared) : Has P w K mg base 2 "_law_all" ["found", "rows", "wide"] sp_law_all :=
  has_ok d sc_law_all (by decide) (vs_law_all B h_law_having h_law_shared) len_law_all rd_law_all
/-! ### _law_ideas -/
def sp_law_ideas (C_Book : Addr) : DSp := fun as P => ∃ (l lt : Addr) (x : Dt) (w : Nat) (rows : List Nat), as = [(.rt (bookT C_Book l lt w rows), x), (.rd, nats rows), (.fz, nat w)] ∧ rows.length ≤ 1000 ∧ w ≤ 20 ∧ P .fz (.bl true)

theorem sc_law_ideas : FnScope ["book", "rows", "wide", "found"] ["book", "rows", "wide"] (defScope s_law_ideas) := ⟨rfl, rfl, rfl, by decide +kernel, rfl, by decide +kernel, by decide +kernel⟩
def t_law_ideas (C_Book : Addr) : TSd := (sSeq (sSetF 3 (eMeth C_Book "ideas" (sp_Book_ideas C_Book) (eVar 0) aNil))
 (sRet (eAnd (eCallN sp_law_pairs (aCons (eVar 3) (aCons (eVar 1) (aCons (eVar 2) aNil)))) (eCallN sp_law_all (aCons (eVar 3) (aCons (eVar 1) (aCons (eVar 2) aNil)))))))
theorem vs_law_ideas (B : Bt mg) (c_Book : Cz_Book K mg C_Book) (h_Book_ideas : HasMt P w K mg base 1 C_Book "ideas" ["self"] (sp_Book_ideas C_Book)) (h_law_pairs : Has P w K mg base 3 "_law_pairs" ["found", "rows", "wide"] sp_law_pairs) (h_law_all : Has P w K mg base 2 "_law_all" ["found", "rows", "wide"] sp_law_all) (f : Addr) (cdv : Value) (A : Around) (outer : List Env) (s : Shared) (H : Hp) (E : XK) (e0 : Hs) (hr : Room 3 (A.deeper (envOfC "_law_ideas" (defScope s_law_ideas) s.heap.objs.size f cdv))) :
    VSs (cxOf CX0 P w K mg base ["book", "rows", "wide", "found"] "_law_ideas" (defScope s_law_ideas) f cdv A outer s H E).nox e0 WX0 (defBody s_law_ideas) (t_law_ideas C_Book) := by
  have Sc := sc_law_ideas
  exact (vss_cons (vs_setF' (i := 3) (ve_meth0K (K := K) rfl c_Book.cl h_Book_ideas (hr.mono (by decide)) (ve_var 0 (pv 0))) (fun h => ps_set Sc.nd rfl (.inl rfl) h))
 (vss_one (vs_ret (ve_and (ve_callN (K := K) rfl h_law_pairs (hr.mono (by decide)) (by rfl) (va_cons (ve_var 3 (pv 3)) (va_cons (ve_var 1 (pv 1)) (va_cons (ve_var 2 (pv 2)) va_nil)))) (ve_one (ve_callN (K := K) rfl h_law_all (hr.mono (by decide)) (by rfl) (va_cons (ve_var 3 (pv 3)) (va_cons (ve_var 1 (pv 1)) (va_cons (ve_var 2 (pv 2)) va_nil)))))))))
theorem len_law_ideas : ∀ as P, sp_law_ideas C_Book as P → as.length = 3 := by
  rintro as P ⟨_, _, _, _, _, rfl, _⟩; rfl
theorem rd_law_ideas : ∀ as P, sp_law_ideas C_Book as P → t_law_ideas C_Book { nx := fun _ => P .fz .non, rt := fun k x => k.st = true ∧ P k x } (startD 4 as) := by
  rintro as P ⟨l, lt, x, w, rows, rfl, hl, hw, hP⟩
  push_cast [t_law_ideas, bookT_rd, bookT_root]
  refine ⟨l, lt, _, w, rows, rfl, ?_⟩
  walk_at "vx"
  refine ⟨rows, w, rfl, hl, by omega, ?_⟩
  walk_at "vx"
  refine ⟨rows, w, rfl, hl, hw, ?_⟩
  walk_at "vx"
  exact hP

theorem ok_law_ideas (B : Bt mg) (d : Df K mg "_law_ideas" s_law_ideas ["book", "rows", "wide"]) (c_Book : Cz_Book K mg C_Book) (h_Book_ideas : HasMt P w K mg base 1 C_Book "ideas" ["self"] (sp_Book_ideas C_Book)) (h_law_pairs : Has P w K mg base 3 "_law_pairs" ["found", "rows", "wide"] sp_law_pairs) (h_law_all : Has P w K mg base 2 "_law_all" ["found", "rows", "wide"] sp_law_all) : Has P w K mg base 4 "_law_ideas" ["book", "rows", "wide"] (sp_law_ideas C_Book) :=
  has_ok d sc_law_ideas (by decide) (vs_law_ideas B c_Book h_Book_ideas h_law_pairs h_law_all) len_law_ideas rd_law_ideas
/-! ### Book.rows -/
def sp_Book_rows (C_Book : Addr) : DSp := fun as P => ∃ (l lt : Addr) (x : Dt) (w : Nat) (rows : List Nat), as = [(.rt (bookT C_Book l lt w rows), x)] ∧ P .fr (nats rows)

theorem sc_Book_rows : FnScope ["self"] ["self"] (defScope s_Book_rows) := ⟨rfl, rfl, rfl, by decide +kernel, rfl, by decide +kernel, by decide +kernel⟩
def t_Book_rows (C_Book : Addr) : TSd := (sRet (eCall bList2 (aCons (eAttr C_Book "told" (eVar 0)) aNil)))
theorem vs_Book_rows (B : Bt mg) (c_Book : Cz_Book K mg C_Book) (f : Addr) (cdv : Value) (A : Around) (outer : List Env) (s : Shared) (H : Hp) (E : XK) (e0 : Hs) (hr : Room 0 (A.deeper (envOfC "Book.rows" (defScope s_Book_rows) s.heap.objs.size f cdv))) :
    VSs (cxOf CX0 P w K mg base ["self"] "Book.rows" (defScope s_Book_rows) f cdv A outer s H E).nox e0 WX0 (defBody s_Book_rows) (t_Book_rows C_Book) := by
  have Sc := sc_Book_rows
  exact (vss_one (vs_ret (ve_callTy (vc_list2K (K := K) rfl rfl) (by rfl) B.z_list PyProof.Rows.boot_list (va_cons (ve_attrK (K := K) rfl (ve_var 0 (pv 0)) c_Book.cl c_Book.n_told) va_nil))))
theorem len_Book_rows : ∀ as P, sp_Book_rows C_Book as P → as.length = 1 := by
  rintro as P ⟨_, _, _, _, _, rfl, _⟩; rfl
theorem rd_Book_rows : ∀ as P, sp_Book_rows C_Book as P → t_Book_rows C_Book { nx := fun _ => P .fz .non, rt := fun k x => k.st = true ∧ P k x } (startD 1 as) := by
  rintro as P ⟨l, lt, x, w, rows, rfl, hP⟩
  push_cast [t_Book_rows, bookT, bookO]
  exact hP

theorem ok_Book_rows (B : Bt mg) (d : DfM K C_Book "rows" "Book.rows" s_Book_rows ["self"]) (c_Book : Cz_Book K mg C_Book) : HasMt P w K mg base 1 C_Book "rows" ["self"] (sp_Book_rows C_Book) :=
  hasMt_ok d sc_Book_rows (by decide) (vs_Book_rows B c_Book) len_Book_rows rd_Book_rows
/-! ### Book.width -/
def sp_Book_width (C_Book : Addr) : DSp := fun as P => ∃ (l lt : Addr) (x : Dt) (w : Nat) (rows : List Nat), as = [(.rt (bookT C_Book l lt w rows), x)] ∧ P .fz (nat w)

theorem sc_Book_width : FnScope ["self"] ["self"] (defScope s_Book_width) := ⟨rfl, rfl, rfl, by decide +kernel, rfl, by decide +kernel, by decide +kernel⟩
def t_Book_width (C_Book : Addr) : TSd := (sRet (eAttr C_Book "wide" (eVar 0)))
theorem vs_Book_width (B : Bt mg) (c_Book : Cz_Book K mg C_Book) (f : Addr) (cdv : Value) (A : Around) (outer : List Env) (s : Shared) (H : Hp) (E : XK) (e0 : Hs) (hr : Room 0 (A.deeper (envOfC "Book.width" (defScope s_Book_width) s.heap.objs.size f cdv))) :
    VSs (cxOf CX0 P w K mg base ["self"] "Book.width" (defScope s_Book_width) f cdv A outer s H E).nox e0 WX0 (defBody s_Book_width) (t_Book_width C_Book) := by
  have Sc := sc_Book_width
  exact (vss_one (vs_ret (ve_attrK (K := K) rfl (ve_var 0 (pv 0)) c_Book.cl c_Book.n_wide)))
theorem len_Book_width : ∀ as P, sp_Book_width C_Book as P → as.length = 1 := by
  rintro as P ⟨_, _, _, _, _, rfl, _⟩; rfl
theorem rd_Book_width : ∀ as P, sp_Book_width C_Book as P → t_Book_width C_Book { nx := fun _ => P .fz .non, rt := fun k x => k.st = true ∧ P k x } (startD 1 as) := by
  rintro as P ⟨l, lt, x, w, rows, rfl, hP⟩
  push_cast [t_Book_width, bookT, bookO]
  exact hP

theorem ok_Book_width (B : Bt mg) (d : DfM K C_Book "width" "Book.width" s_Book_width ["self"]) (c_Book : Cz_Book K mg C_Book) : HasMt P w K mg base 1 C_Book "width" ["self"] (sp_Book_width C_Book) :=
  hasMt_ok d sc_Book_width (by decide) (vs_Book_width B c_Book) len_Book_width rd_Book_width
/-! ### _law_table -/
def sp_law_table (C_Book : Addr) : DSp := fun as P => ∃ (l lt : Addr) (x : Dt) (w : Nat) (rows : List Nat), as = [(.rt (bookT C_Book l lt w rows), x), (.rd, nats rows), (.fz, nat w)] ∧ rows.length ≤ 1000 ∧ w ≤ 20 ∧ P .fz (.bl true)

theorem sc_law_table : FnScope ["book", "rows", "wide", "told", "count"] ["book", "rows", "wide"] (defScope s_law_table) := ⟨rfl, rfl, rfl, by decide +kernel, rfl, by decide +kernel, by decide +kernel⟩
def t_law_table (C_Book : Addr) : TSd := (sSeq (sSetF 3 (eMeth C_Book "rows" (sp_Book_rows C_Book) (eVar 0) aNil))
 (sSeq (sSetF 4 (eMeth C_Book "width" (sp_Book_width C_Book) (eVar 0) aNil))
 (sRet (eAnd (eIsi "list" (eVar 3)) (eAnd (eOp dEq (eVar 3) (eVar 1)) (eAnd (eCallN sp_law_whole (aCons (eVar 4) aNil)) (eOp dEq (eVar 4) (eVar 2))))))))
theorem vs_law_table (B : Bt mg) (c_Book : Cz_Book K mg C_Book) (h_Book_rows : HasMt P w K mg base 1 C_Book "rows" ["self"] (sp_Book_rows C_Book)) (h_Book_width : HasMt P w K mg base 1 C_Book "width" ["self"] (sp_Book_width C_Book)) (h_law_whole : Has P w K mg base 1 "_law_whole" ["found"] sp_law_whole) (f : Addr) (cdv : Value) (A : Around) (outer : List Env) (s : Shared) (H : Hp) (E : XK) (e0 : Hs) (hr : Room 1 (A.deeper (envOfC "_law_table" (defScope s_law_table) s.heap.objs.size f cdv))) :
    VSs (cxOf CX0 P w K mg base ["book", "rows", "wide", "told", "count"] "_law_table" (defScope s_law_table) f cdv A outer s H E).nox e0 WX0 (defBody s_law_table) (t_law_table C_Book) := by
  have Sc := sc_law_table
  exact (vss_cons (vs_setF' (i := 3) (ve_meth0K (K := K) rfl c_Book.cl h_Book_rows (hr.mono (by decide)) (ve_var 0 (pv 0))) (fun h => ps_set Sc.nd rfl (.inl rfl) h))
 (vss_cons (vs_setF' (i := 4) (ve_meth0K (K := K) rfl c_Book.cl h_Book_width (hr.mono (by decide)) (ve_var 0 (pv 0))) (fun h => ps_set Sc.nd rfl (.inl rfl) h))
 (vss_one (vs_ret (ve_and (ve_isiK (K := K) rfl (ve_var 3 (pv 3)) (fun h => pe_callB call_isi (by rfl) B.z_isinstance PyProof.Rows.boot_isinstance (pa_cons h (pa_cons (pe_bltn (by rfl) B.z_list PyProof.Rows.boot_list rfl) pa_nil)))) (ve_and (ve_cmp (vo_eqK (K := K) rfl hr.units) (ve_var 3 (pv 3)) (ve_var 1 (pv 1)) (nomark _)) (ve_and (ve_callN (K := K) rfl h_law_whole (hr.mono (by decide)) (by rfl) (va_cons (ve_var 4 (pv 4)) va_nil)) (ve_one (ve_cmp (vo_eqK (K := K) rfl hr.units) (ve_var 4 (pv 4)) (ve_var 2 (pv 2)) (nomark _))))))))))
theorem len_law_table : ∀ as P, sp_law_table C_Book as P → as.length = 3 := by
  rintro as P ⟨_, _, _, _, _, rfl, _⟩; rfl
theorem rd_law_table : ∀ as P, sp_law_table C_Book as P → t_law_table C_Book { nx := fun _ => P .fz .non, rt := fun k x => k.st = true ∧ P k x } (startD 5 as) := by
  rintro as P ⟨l, lt, x, w, rows, rfl, hl, hw, hP⟩
  push_cast [t_law_table, bookT_rd, bookT_root]
  refine ⟨l, lt, _, w, rows, rfl, ?_⟩
  push_cast [bookT_rd, bookT_root]
  refine ⟨l, lt, _, w, rows, rfl, ?_⟩
  push_cast [decide_true]
  refine ⟨nat w, rfl, rfl, ?_⟩
  push_cast [Dt.whole, decide_true]
  exact hP

theorem ok_law_table (B : Bt mg) (d : Df K mg "_law_table" s_law_table ["book", "rows", "wide"]) (c_Book : Cz_Book K mg C_Book) (h_Book_rows : HasMt P w K mg base 1 C_Book "rows" ["self"] (sp_Book_rows C_Book)) (h_Book_width : HasMt P w K mg base 1 C_Book "width" ["self"] (sp_Book_width C_Book)) (h_law_whole : Has P w K mg base 1 "_law_whole" ["found"] sp_law_whole) : Has P w K mg base 2 "_law_table" ["book", "rows", "wide"] (sp_law_table C_Book) :=
  has_ok d sc_law_table (by decide) (vs_law_table B c_Book h_Book_rows h_Book_width h_law_whole) len_law_table rd_law_table
/-! ### _law_right -/
def sp_law_right (C_Book : Addr) : DSp := fun as P => ∃ (l lt : Addr) (x : Dt) (w : Nat) (rows : List Nat) (b : Bool), as = [(.rt (bookT C_Book l lt w rows), x), (.rd, nats rows), (.fz, nat w), (.fz, .bl b)] ∧ rows.length ≤ 1000 ∧ w ≤ 20 ∧ P .fz (.bl true)

theorem sc_law_right : FnScope ["book", "rows", "wide", "ahead"] ["book", "rows", "wide", "ahead"] (defScope s_law_right) := ⟨rfl, rfl, rfl, by decide +kernel, rfl, by decide +kernel, by decide +kernel⟩
def t_law_right (C_Book : Addr) : TSd := (sSeq (sIf (tB' (eVar 3))
 (sRet (eAnd (eCallN (sp_law_ideas C_Book) (aCons (eVar 0) (aCons (eVar 1) (aCons (eVar 2) aNil)))) (eCallN (sp_law_table C_Book) (aCons (eVar 0) (aCons (eVar 1) (aCons (eVar 2) aNil))))))
 sNil)
 (sRet (eAnd (eCallN (sp_law_table C_Book) (aCons (eVar 0) (aCons (eVar 1) (aCons (eVar 2) aNil)))) (eCallN (sp_law_ideas C_Book) (aCons (eVar 0) (aCons (eVar 1) (aCons (eVar 2) aNil)))))))
theorem vs_law_right (B : Bt mg) (h_law_ideas : Has P w K mg base 4 "_law_ideas" ["book", "rows", "wide"] (sp_law_ideas C_Book)) (h_law_table : Has P w K mg base 2 "_law_table" ["book", "rows", "wide"] (sp_law_table C_Book)) (f : Addr) (cdv : Value) (A : Around) (outer : List Env) (s : Shared) (H : Hp) (E : XK) (e0 : Hs) (hr : Room 4 (A.deeper (envOfC "_law_right" (defScope s_law_right) s.heap.objs.size f cdv))) :
    VSs (cxOf CX0 P w K mg base ["book", "rows", "wide", "ahead"] "_law_right" (defScope s_law_right) f cdv A outer s H E).nox e0 WX0 (defBody s_law_right) (t_law_right C_Book) := by
  have Sc := sc_law_right
  exact (vss_cons (vs_if (vt_val (ve_var 3 (pv 3)))
 (vss_one (vs_ret (ve_and (ve_callN (K := K) rfl h_law_ideas (hr.mono (by decide)) (by rfl) (va_cons (ve_var 0 (pv 0)) (va_cons (ve_var 1 (pv 1)) (va_cons (ve_var 2 (pv 2)) va_nil)))) (ve_one (ve_callN (K := K) rfl h_law_table (hr.mono (by decide)) (by rfl) (va_cons (ve_var 0 (pv 0)) (va_cons (ve_var 1 (pv 1)) (va_cons (ve_var 2 (pv 2)) va_nil))))))))
 vss_nil)
 (vss_one (vs_ret (ve_and (ve_callN (K := K) rfl h_law_table (hr.mono (by decide)) (by rfl) (va_cons (ve_var 0 (pv 0)) (va_cons (ve_var 1 (pv 1)) (va_cons (ve_var 2 (pv 2)) va_nil)))) (ve_one (ve_callN (K := K) rfl h_law_ideas (hr.mono (by decide)) (by rfl) (va_cons (ve_var 0 (pv 0)) (va_cons (ve_var 1 (pv 1)) (va_cons (ve_var 2 (pv 2)) va_nil)))))))))
theorem len_law_right : ∀ as P, sp_law_right C_Book as P → as.length = 4 := by
  rintro as P ⟨_, _, _, _, _, _, rfl, _⟩; rfl
theorem rd_law_right : ∀ as P, sp_law_right C_Book as P → t_law_right C_Book { nx := fun _ => P .fz .non, rt := fun k x => k.st = true ∧ P k x } (startD 4 as) := by
  rintro as P ⟨l, lt, x, w, rows, b, rfl, hl, hw, hP⟩
  push_cast [t_law_right]
  refine selS_b (fun h => ?_) (fun h => ?_)
  · walk_at "vx"
    refine ⟨l, lt, _, w, rows, rfl, hl, hw, ?_⟩
    walk_at "vx"
    refine ⟨l, lt, _, w, rows, rfl, hl, hw, ?_⟩
    walk_at "vx"
    exact hP
  · walk_at "vx"
    refine ⟨l, lt, _, w, rows, rfl, hl, hw, ?_⟩
    walk_at "vx"
    refine ⟨l, lt, _, w, rows, rfl, hl, hw, ?_⟩
    walk_at "vx"
    exact hP

theorem ok_law_right (B : Bt mg) (d : Df K mg "_law_right" s_law_right ["book", "rows", "wide", "ahead"]) (h_law_ideas : Has P w K mg base 4 "_law_ideas" ["book", "rows", "wide"] (sp_law_ideas C_Book)) (h_law_table : Has P w K mg base 2 "_law_table" ["book", "rows", "wide"] (sp_law_table C_Book)) : Has P w K mg base 5 "_law_right" ["book", "rows", "wide", "ahead"] (sp_law_right C_Book) :=
  has_ok d sc_law_right (by decide) (vs_law_right B h_law_ideas h_law_table) len_law_right rd_law_right
/-! ### closed -/
def sp_closed : DSp := fun as P => ∃ (rows : List Nat) (w m : Nat), as = [(.rd, nats rows), (.fz, nat w), (.fz, nat m)] ∧ rows.length ≤ 1000 ∧ w ≤ 1000 ∧ P .fz (nat (clo rows w m))

theorem sc_closed : FnScope ["rows", "width", "mask"] ["rows", "width", "mask"] (defScope s_closed) := ⟨rfl, rfl, rfl, by decide +kernel, rfl, by decide +kernel, by decide +kernel⟩
def t_closed : TSd := (sRet (eCallN sp_shared (aCons (eVar 0) (aCons (eVar 1) (aCons (eCallN sp_having (aCons (eVar 0) (aCons (eVar 2) aNil))) aNil)))))
theorem vs_closed (B : Bt mg) (h_having : Has P w K mg base 2 "having" ["rows", "mask"] sp_having) (h_shared : Has P w K mg base 2 "shared" ["rows", "width", "group"] sp_shared) (f : Addr) (cdv : Value) (A : Around) (outer : List Env) (s : Shared) (H : Hp) (E : XK) (e0 : Hs) (hr : Room 2 (A.deeper (envOfC "closed" (defScope s_closed) s.heap.objs.size f cdv))) :
    VSs (cxOf CX0 P w K mg base ["rows", "width", "mask"] "closed" (defScope s_closed) f cdv A outer s H E).nox e0 WX0 (defBody s_closed) (t_closed) := by
  have Sc := sc_closed
  exact (vss_one (vs_ret (ve_callN (K := K) rfl h_shared (hr.mono (by decide)) (by rfl) (va_cons (ve_var 0 (pv 0)) (va_cons (ve_var 1 (pv 1)) (va_cons (ve_callN (K := K) rfl h_having (hr.mono (by decide)) (by rfl) (va_cons (ve_var 0 (pv 0)) (va_cons (ve_var 2 (pv 2)) va_nil))) va_nil))))))
theorem len_closed : ∀ as P, sp_closed as P → as.length = 3 := by
  rintro as P ⟨ks, _, _, rfl, _⟩; rfl
theorem rd_closed : ∀ as P, sp_closed as P → t_closed { nx := fun _ => P .fz .non, rt := fun k x => k.st = true ∧ P k x } (startD 3 as) := by
  rintro as P ⟨rows, w, m, rfl, hl, hw, hP⟩
  push_cast [t_closed]
  refine ⟨rows, m, rfl, hl, ?_⟩
  walk_at "vx"
  exact ⟨rows, w, hav rows m, rfl, hl, hw, hav_lt _ _, rfl, hP⟩

theorem ok_closed (B : Bt mg) (d : Df K mg "closed" s_closed ["rows", "width", "mask"]) (h_having : Has P w K mg base 2 "having" ["rows", "mask"] sp_having) (h_shared : Has P w K mg base 2 "shared" ["rows", "width", "group"] sp_shared) : Has P w K mg base 3 "closed" ["rows", "width", "mask"] sp_closed :=
  has_ok d sc_closed (by decide) (vs_closed B h_having h_shared) len_closed rd_closed
/-! ### next_mask -/
def sp_next_mask : DSp := fun as P => ∃ (rows : List Nat) (w m : Nat), as = [(.rd, nats rows), (.fz, nat w), (.fz, nat m)] ∧ rows.length ≤ 1000 ∧ w ≤ 60 ∧ m < 2 ^ w ∧
  (∀ c, m < c → c < 2 ^ w → clo rows w c = c → (∀ k, m < k → k < c → ¬ clo rows w k = k) → P .fz (nat c)) ∧ ((∀ c, m < c → c < 2 ^ w → ¬ clo rows w c = c) → P .fz .non)

theorem sc_next_mask : FnScope ["rows", "width", "mask", "column", "kept", "made"] ["rows", "width", "mask"] (defScope s_next_mask) := ⟨rfl, rfl, rfl, by decide +kernel, rfl, by decide +kernel, by decide +kernel⟩
def t_next_mask : TSd := (sSeq (sFor (iR1 (aCons (eVar 1) aNil)) (hName 3)
 (sSeq (sSetF 4 (eOp dShr (eVar 2) (eVar 3)))
 (sSeq (sIf (tB' (eOp dEq (eOp dAnd (eVar 4) (eC (.int 1))) (eC (.int 1))))
 sCont
 sNil)
 (sSeq (sSetF 5 (eCallN sp_closed (aCons (eVar 0) (aCons (eVar 1) (aCons (eOp dShl (eOp dOr (eVar 4) (eC (.int 1))) (eVar 3)) aNil)))))
 (sIf (tB' (eOp dEq (eOp dShr (eVar 5) (eVar 3)) (eOp dOr (eVar 4) (eC (.int 1)))))
 (sRet (eVar 5))
 sNil)))))
 (sRet (eC .non)))
theorem vs_next_mask (B : Bt mg) (h_closed : Has P w K mg base 3 "closed" ["rows", "width", "mask"] sp_closed) (f : Addr) (cdv : Value) (A : Around) (outer : List Env) (s : Shared) (H : Hp) (E : XK) (e0 : Hs) (hr : Room 3 (A.deeper (envOfC "next_mask" (defScope s_next_mask) s.heap.objs.size f cdv))) :
    VSs (cxOf CX0 P w K mg base ["rows", "width", "mask", "column", "kept", "made"] "next_mask" (defScope s_next_mask) f cdv A outer s H E).nox e0 WX0 (defBody s_next_mask) (t_next_mask) := by
  have Sc := sc_next_mask
  exact (vss_cons (vs_for PassesOwn.never rfl (vi_range1 (by rfl) B.z_range (va_cons (ve_var 1 (pv 1)) va_nil)) (vg_name (pg_name (i := 3) Sc.nd rfl (.inl rfl)))
 (vss_cons (vs_setF' (i := 4) (ve_op vo_shr (ve_var 2 (pv 2)) (ve_var 3 (pv 3))) (fun h => ps_set Sc.nd rfl (.inl rfl) h))
 (vss_cons (vs_if (vt_cmp (vo_eqK (K := K) rfl hr.units) (ve_op vo_and (ve_var 4 (pv 4)) ve_int) ve_int (nomark _))
 (vss_one vs_cont)
 vss_nil)
 (vss_cons (vs_setF' (i := 5) (ve_callN (K := K) rfl h_closed (hr.mono (by decide)) (by rfl) (va_cons (ve_var 0 (pv 0)) (va_cons (ve_var 1 (pv 1)) (va_cons (ve_op vo_shl (ve_op vo_or (ve_var 4 (pv 4)) ve_int) (ve_var 3 (pv 3))) va_nil)))) (fun h => ps_set Sc.nd rfl (.inl rfl) h))
 (vss_one (vs_if (vt_cmp (vo_eqK (K := K) rfl hr.units) (ve_op vo_shr (ve_var 5 (pv 5)) (ve_var 3 (pv 3))) (ve_op vo_or (ve_var 4 (pv 4)) ve_int) (nomark _))
 (vss_one (vs_ret (ve_var 5 (pv 5))))
 vss_nil))))))
 (vss_one (vs_ret ve_non)))
theorem len_next_mask : ∀ as P, sp_next_mask as P → as.length = 3 := by
  rintro as P ⟨_, _, _, rfl, _⟩; rfl
theorem rd_next_mask : ∀ as P, sp_next_mask as P → t_next_mask { nx := fun _ => P .fz .non, rt := fun k x => k.st = true ∧ P k x } (startD 6 as) := by
  rintro as P ⟨rows, w, m, rfl, hl, hw, hm, hS, hN⟩
  push_cast [t_next_mask]
  walk_at "vi"
  rw [Int.toNat_natCast]
  refine ⟨by omega, by omega, ?_⟩
  have h60 : 2 ^ w ≤ 2 ^ 60 := Nat.pow_le_pow_right (by decide) hw
  refine for_rng0 w (fun i ρ => ∃ x y z, ρ = [.v .vw (nats rows), .v .fz (nat w), .v .fz (nat m), x, y, z] ∧ ∀ j, j < i → m.testBit j = false → ¬ clo rows w (seed m j) / 2 ^ j = (m / 2 ^ j ||| 1)) ⟨_, .refl _, _, _, _, rfl, by omega⟩ ?_ ?_
  · rintro i hi ρ ⟨x, y, z, rfl, hno⟩
    have hd : m / 2 ^ i < 2 ^ 60 := Nat.lt_of_le_of_lt (Nat.div_le_self _ _) (by omega)
    walk_at "vx"
    refine ⟨by omega, ?_⟩
    have e1 : decide (((m / 2 ^ i &&& 1 : Nat) : Int) = 1) = m.testBit i := by
      rw [Nat.and_one_is_mod, Bool.eq_iff_iff, decide_eq_true_eq]
      have : m.testBit i = decide (m / 2 ^ i % 2 = 1) := by rw [Nat.testBit_eq_decide_div_mod_eq]
      rw [this, decide_eq_true_eq]
      omega
    push_cast [e1]
    cases hb : m.testBit i with
    | true =>
      walk_at "vx"
      refine ⟨_, .refl _, _, _, _, rfl, fun j hj hjb => ?_⟩
      rcases Nat.lt_or_ge j i with q | q
      · exact hno j q hjb
      · have : j = i := by omega
        subst this; rw [hb] at hjb; cases hjb
    | false =>
      walk_at "vx"
      have h1 : (m / 2 ^ i ||| 1) < 2 ^ 60 := or_lt hd (by decide)
      refine ⟨cpow_nat (by omega) (by omega), rows, w, seed m i, rfl, hl, by omega, ?_⟩
      have hc := clo_lt rows w (seed m i)
      walk_at "vx"
      refine ⟨by omega, selS_dec (fun h => ?_) (fun h => ?_)⟩
      · obtain ⟨g1, g2, g3⟩ := next_some hm hi hb (Int.ofNat_inj.mp h) hno
        walk_at "vx"
        exact hS _ g1 g2 (clo_idem _ _ _) g3
      · walk_at "vx"
        refine ⟨_, .refl _, _, _, _, rfl, fun j hj hjb => ?_⟩
        rcases Nat.lt_or_ge j i with q | q
        · exact hno j q hjb
        · have : j = i := by omega
          subst this
          exact fun z => h (by rw [z])
  · rintro ρ ⟨x, y, z, rfl, hno⟩
    walk_at "vx"
    exact hN (next_none hm hno)

theorem ok_next_mask (B : Bt mg) (d : Df K mg "next_mask" s_next_mask ["rows", "width", "mask"]) (h_closed : Has P w K mg base 3 "closed" ["rows", "width", "mask"] sp_closed) : Has P w K mg base 4 "next_mask" ["rows", "width", "mask"] sp_next_mask :=
  has_ok d sc_next_mask (by decide) (vs_next_mask B h_closed) len_next_mask rd_next_mask
/-! ### ideas -/
def sp_ideas : DSp := fun as P => ∃ (rows : List Nat) (w : Nat), as = [(.rd, nats rows), (.fz, nat w)] ∧ rows.length ≤ 1000 ∧ w ≤ 20 ∧ P .fr (rulesD (ids rows w (2 ^ w)))

theorem sc_ideas : FnScope ["rows", "width", "found", "mask"] ["rows", "width"] (defScope s_ideas) := ⟨rfl, rfl, rfl, by decide +kernel, rfl, by decide +kernel, by decide +kernel⟩
def t_ideas : TSd := (sSeq (sSet 2 (eLst aNil))
 (sSeq (sSetF 3 (eCallN sp_closed (aCons (eVar 0) (aCons (eVar 1) (aCons (eC (.int 0)) aNil)))))
 (sSeq (sWhile (tB' (eOp dIsNot (eVar 3) (eC .non)))
 (sSeq (sApp 2 (eTup (aCons (eCallN sp_having (aCons (eVar 0) (aCons (eVar 3) aNil))) (aCons (eVar 3) aNil))))
 (sSetF 3 (eCallN sp_next_mask (aCons (eVar 0) (aCons (eVar 1) (aCons (eVar 3) aNil)))))))
 (sRetV 2))))
theorem vs_ideas (B : Bt mg) (h_closed : Has P w K mg base 3 "closed" ["rows", "width", "mask"] sp_closed) (h_having : Has P w K mg base 2 "having" ["rows", "mask"] sp_having) (h_next_mask : Has P w K mg base 4 "next_mask" ["rows", "width", "mask"] sp_next_mask) (f : Addr) (cdv : Value) (A : Around) (outer : List Env) (s : Shared) (H : Hp) (E : XK) (e0 : Hs) (hr : Room 4 (A.deeper (envOfC "ideas" (defScope s_ideas) s.heap.objs.size f cdv))) :
    VSs (cxOf CX0 P w K mg base ["rows", "width", "found", "mask"] "ideas" (defScope s_ideas) f cdv A outer s H E).nox e0 WX0 (defBody s_ideas) (t_ideas) := by
  have Sc := sc_ideas
  exact (vss_cons (vs_set' (i := 2) (ve_lst va_nil) (fun h => ps_set Sc.nd rfl (.inl rfl) h))
 (vss_cons (vs_setF' (i := 3) (ve_callN (K := K) rfl h_closed (hr.mono (by decide)) (by rfl) (va_cons (ve_var 0 (pv 0)) (va_cons (ve_var 1 (pv 1)) (va_cons ve_int va_nil)))) (fun h => ps_set Sc.nd rfl (.inl rfl) h))
 (vss_cons (vs_while PassesOwn.never (vt_cmp vo_isnot (ve_var 3 (pv 3)) ve_non (nomark _))
 (vss_cons (vs_app' (i := 2) (ve_tup (va_cons (ve_callN (K := K) rfl h_having (hr.mono (by decide)) (by rfl) (va_cons (ve_var 0 (pv 0)) (va_cons (ve_var 3 (pv 3)) va_nil))) (va_cons (ve_var 3 (pv 3)) va_nil))) (fun h => ps_expr (pe_bm PySem.F.plainAttrs_list PySem.F.slot_list_append PySem.F.type_list_append mt_append (pv 2) (pa_cons h pa_nil))))
 (vss_one (vs_setF' (i := 3) (ve_callN (K := K) rfl h_next_mask (hr.mono (by decide)) (by rfl) (va_cons (ve_var 0 (pv 0)) (va_cons (ve_var 1 (pv 1)) (va_cons (ve_var 3 (pv 3)) va_nil)))) (fun h => ps_set Sc.nd rfl (.inl rfl) h)))))
 (vss_one (vs_retV 2 (pv 2))))))
theorem len_ideas : ∀ as P, sp_ideas as P → as.length = 2 := by
  rintro as P ⟨_, _, rfl, _⟩; rfl
theorem rd_ideas : ∀ as P, sp_ideas as P → t_ideas { nx := fun _ => P .fz .non, rt := fun k x => k.st = true ∧ P k x } (startD 4 as) := by
  rintro as P ⟨rows, w, rfl, hl, hw, hP⟩
  have h20 : 2 ^ w ≤ 2 ^ 20 := Nat.pow_le_pow_right (by decide) hw
  push_cast [t_ideas]
  intro l
  refine ⟨rows, w, 0, rfl, hl, by omega, ?_⟩
  walk_at "vx"
  refine ⟨fun n ρ => ∃ (o : Option Nat), ρ = [.v .vw (nats rows), .v .fz (nat w), .v (.ow l) (rulesD (ids rows w (o.getD (2 ^ w)))), .v .fz (optN o)] ∧ n = 2 ^ w - o.getD (2 ^ w) ∧ ∀ c, o = some c → c < 2 ^ w ∧ clo rows w c = c,
    ⟨_, _, .refl _, some (clo rows w 0), ?_, rfl, fun c h => by cases h; exact ⟨clo_lt _ _ _, clo_idem _ _ _⟩⟩, ?_⟩
  · show _ = [_, _, Sl.v (.ow l) (rulesD (ids rows w (clo rows w 0))), _]
    unfold ids
    rw [cls_first]
    rfl
  rintro n ρ ⟨o, rfl, rfl, ho⟩
  cases o with
  | none =>
    push_cast [optN, Option.getD]
    exact hP
  | some c =>
    obtain ⟨hc, hcl⟩ := ho c rfl
    push_cast [optN, Option.getD]
    refine ⟨rows, c, rfl, hl, ?_⟩
    push_cast [List.length_map]
    have := ids_length rows w c
    refine ⟨by omega, rows, w, c, rfl, hl, by omega, hc, fun d h1 h2 h3 h4 => ?_, fun hn => ?_⟩
    · walk_at "vx"
      refine ⟨_, _, ?_, .refl _, some d, ?_, rfl, fun c' h => by cases h; exact ⟨h2, h3⟩⟩
      · show 2 ^ w - d < 2 ^ w - c
        omega
      · show _ = [_, _, Sl.v (.ow l) (rulesD (ids rows w d)), _]
        rw [ids_next h1 hcl h4, rulesD_snoc]
        rfl
    · walk_at "vx"
      refine ⟨_, _, ?_, .refl _, none, ?_, rfl, fun c' h => by cases h⟩
      · show 2 ^ w - 2 ^ w < 2 ^ w - c
        omega
      · show _ = [_, _, Sl.v (.ow l) (rulesD (ids rows w (2 ^ w))), _]
        rw [ids_next hc hcl fun k h1 h2 => hn k h1 h2, rulesD_snoc]
        rfl

theorem ok_ideas (B : Bt mg) (d : Df K mg "ideas" s_ideas ["rows", "width"]) (h_closed : Has P w K mg base 3 "closed" ["rows", "width", "mask"] sp_closed) (h_having : Has P w K mg base 2 "having" ["rows", "mask"] sp_having) (h_next_mask : Has P w K mg base 4 "next_mask" ["rows", "width", "mask"] sp_next_mask) : Has P w K mg base 5 "ideas" ["rows", "width"] sp_ideas :=
  has_ok d sc_ideas (by decide) (vs_ideas B h_closed h_having h_next_mask) len_ideas rd_ideas
/-! ### law -/
abbrev sp_law : DSp := spLaw
def heldD (p : List (Nat × Nat) × List Nat) : Dt := .tup [rulesD p.1, rulesD p.1, nats p.2, nats p.2]

theorem sc_law : FnScope ["script", "wide", "book", "rows", "held", "cell", "mixed", "number", "put", "grows", "told", "one"] ["script"] (defScope s_law) := ⟨rfl, rfl, rfl, by decide +kernel, rfl, by decide +kernel, by decide +kernel⟩
def t_law (C_Book : Addr) : TSd := (sSeq (sSetF 1 (eOp dMod (eCallN sp_law_cell_at (aCons (eVar 0) (aCons (eC (.int 0)) aNil))) (eC (.int 5))))
 (sSeq (sSetT 2 (eNew C_Book [] (sp_Book_init C_Book) (aCons (eVar 1) aNil)))
 (sSeq (sSetF 3 (eLst aNil))
 (sSeq (sSet 4 (eLst aNil))
 (sSeq (sFor (iLst (eSl (eVar 0) (oPart (eC (.int 1))) oNo)) (hName 5)
 (sSeq (sSetF 6 (eOp dMod (eOp dMul (eOp dMod (eVar 5) (eC (.int 1000003))) (eC (.int 48271))) (eC (.int 999983))))
 (sSeq (sSetF 7 (eOp dMod (eOp dMul (eOp dMod (eVar 5) (eC (.int 1000003))) (eC (.int 16807))) (eC (.int 999979))))
 (sSeq (sSetF 8 (eOp dLt (eOp dMod (eVar 6) (eC (.int 3))) (eC (.int 2))))
 (sSeq (sIf (tB' (eOp dLt (eOp dMod (eOp dFdiv (eVar 6) (eC (.int 3))) (eC (.int 8))) (eC (.int 5))))
 (sSetMF 3 (eCallMu (sp_law_thing C_Book) (amMt 2 (amCons (eVar 3) (amCons (eVar 1) (amCons (eVar 7) (amCons (eVar 8) amNil)))))))
 (sSeq (sSetF 9 (eOr (eOp dEq (eVar 1) (eC (.int 0))) (eAnd (eOp dLt (eVar 1) (eC (.int 6))) (eVar 8))))
 (sSeq (sSetMF 3 (eCallMu (sp_law_column C_Book) (amMt 2 (amCons (eVar 3) (amCons (eVar 1) (amCons (eVar 7) (amCons (eVar 8) amNil)))))))
 (sSetF 1 (eOp dSub (eOp dAdd (eVar 1) (eOp dMul (eC (.int 2)) (eCall bInt (aCons (eVar 9) aNil)))) (eC (.int 1)))))))
 (sIf (tB' (eOp dEq (eOp dMod (eOp dFdiv (eVar 6) (eC (.int 24))) (eC (.int 3))) (eC (.int 1))))
 (sSeq (sIf (bNot (tB' (eCallN (sp_law_right C_Book) (aCons (eRdP (pName 2)) (aCons (eVar 3) (aCons (eVar 1) (aCons (eOp dEq (eOp dMod (eVar 7) (eC (.int 2))) (eC (.int 1))) aNil)))))))
 (sRet (eC (.bl false)))
 sNil)
 (sSeq (sSetF 10 (eMeth C_Book "ideas" (sp_Book_ideas C_Book) (eRdP (pName 2)) aNil))
 (sApp 4 (eTup (aCons (eVar 10) (aCons (eCall bList2 (aCons (eVar 10) aNil)) (aCons (eMeth C_Book "rows" (sp_Book_rows C_Book) (eRdP (pName 2)) aNil) (aCons (eCall bList2 (aCons (eVar 3) aNil)) aNil))))))))
 sNil))))))
 (sSeq (sFz 4 (sFor (iLst (eVar 4)) (hName 11)
 (sIf (bOr (tB' (eOp dNe (eOp dIx (eVar 11) (eC (.int 0))) (eOp dIx (eVar 11) (eC (.int 1))))) (tB' (eOp dNe (eOp dIx (eVar 11) (eC (.int 2))) (eOp dIx (eVar 11) (eC (.int 3))))))
 (sRet (eC (.bl false)))
 sNil)))
 (sRet (eAnd (eCallN (sp_law_right C_Book) (aCons (eRdP (pName 2)) (aCons (eVar 3) (aCons (eVar 1) (aCons (eC (.bl true)) aNil))))) (eOp dEq (eMeth C_Book "ideas" (sp_Book_ideas C_Book) (eRdP (pName 2)) aNil) (eCallN sp_ideas (aCons (eCall bList2 (aCons (eVar 3) aNil)) (aCons (eVar 1) aNil))))))))))))
theorem vs_law (B : Bt mg) (c_Book : Cz_Book K mg C_Book) (h_law_cell_at : Has P w K mg base 1 "_law_cell_at" ["script", "k"] sp_law_cell_at) (h_Book_init : HasNew P w K mg base 1 "Book" C_Book ["self", "width"] [] (sp_Book_init C_Book)) (h_law_thing : HasM CX0 P w K mg base 4 "_law_thing" ["book", "rows", "wide", "number", "put"] (sp_law_thing C_Book)) (h_law_column : HasM CX0 P w K mg base 4 "_law_column" ["book", "rows", "wide", "number", "put"] (sp_law_column C_Book)) (h_law_right : Has P w K mg base 5 "_law_right" ["book", "rows", "wide", "ahead"] (sp_law_right C_Book)) (h_Book_ideas : HasMt P w K mg base 1 C_Book "ideas" ["self"] (sp_Book_ideas C_Book)) (h_Book_rows : HasMt P w K mg base 1 C_Book "rows" ["self"] (sp_Book_rows C_Book)) (h_ideas : Has P w K mg base 5 "ideas" ["rows", "width"] sp_ideas) (f : Addr) (cdv : Value) (A : Around) (outer : List Env) (s : Shared) (H : Hp) (E : XK) (e0 : Hs) (hr : Room 5 (A.deeper (envOfC "law" (defScope s_law) s.heap.objs.size f cdv))) :
    VSs (cxOf CX0 P w K mg base ["script", "wide", "book", "rows", "held", "cell", "mixed", "number", "put", "grows", "told", "one"] "law" (defScope s_law) f cdv A outer s H E).nox e0 WX0 (defBody s_law) (t_law C_Book) := by
  have Sc := sc_law
  exact (vss_cons (vs_setF' (i := 1) (ve_op vo_mod (ve_callN (K := K) rfl h_law_cell_at (hr.mono (by decide)) (by rfl) (va_cons (ve_var 0 (pv 0)) (va_cons ve_int va_nil))) ve_int) (fun h => ps_set Sc.nd rfl (.inl rfl) h))
 (vss_cons (vs_setT (i := 2) (ve_newK (K := K) rfl h_Book_init (hr.mono (by decide)) (by rfl) (va_cons (ve_var 1 (pv 1)) va_nil)) (fun h => ps_set Sc.nd rfl (.inl rfl) h))
 (vss_cons (vs_setF' (i := 3) (ve_lst va_nil) (fun h => ps_set Sc.nd rfl (.inl rfl) h))
 (vss_cons (vs_set' (i := 4) (ve_lst va_nil) (fun h => ps_set Sc.nd rfl (.inl rfl) h))
 (vss_cons (vs_for PassesOwn.never rfl (vi_listK (K := K) rfl (ve_sliceK (K := K) rfl (ve_var 0 (pv 0)) (vo_part ve_int) vo_no)) (vg_name (pg_name (i := 5) Sc.nd rfl (.inl rfl)))
 (vss_cons (vs_setF' (i := 6) (ve_op vo_mod (ve_op vo_mul (ve_op vo_mod (ve_var 5 (pv 5)) ve_int) ve_int) ve_int) (fun h => ps_set Sc.nd rfl (.inl rfl) h))
 (vss_cons (vs_setF' (i := 7) (ve_op vo_mod (ve_op vo_mul (ve_op vo_mod (ve_var 5 (pv 5)) ve_int) ve_int) ve_int) (fun h => ps_set Sc.nd rfl (.inl rfl) h))
 (vss_cons (vs_setF' (i := 8) (ve_cmp vo_lt (ve_op vo_mod (ve_var 6 (pv 6)) ve_int) ve_int (nomark _)) (fun h => ps_set Sc.nd rfl (.inl rfl) h))
 (vss_cons (vs_if (vt_cmp vo_lt (ve_op vo_mod (ve_op vo_fdiv (ve_var 6 (pv 6)) ve_int) ve_int) ve_int (nomark _))
 (vss_one (vs_setMF (i := 3) (vm_call (K := K) rfl h_law_thing (hr.mono (by decide)) (by rfl) (vam_mt 2 (pv 2) (vam_cons (ve_var 3 (pv 3)) (vam_cons (ve_var 1 (pv 1)) (vam_cons (ve_var 7 (pv 7)) (vam_cons (ve_var 8 (pv 8)) vam_nil)))))) (fun h => ps_set Sc.nd rfl (.inl rfl) h)))
 (vss_cons (vs_setF' (i := 9) (ve_or (ve_cmp (vo_eqK (K := K) rfl hr.units) (ve_var 1 (pv 1)) ve_int (nomark _)) (ve_one (ve_and (ve_cmp vo_lt (ve_var 1 (pv 1)) ve_int (nomark _)) (ve_one (ve_var 8 (pv 8)))))) (fun h => ps_set Sc.nd rfl (.inl rfl) h))
 (vss_cons (vs_setMF (i := 3) (vm_call (K := K) rfl h_law_column (hr.mono (by decide)) (by rfl) (vam_mt 2 (pv 2) (vam_cons (ve_var 3 (pv 3)) (vam_cons (ve_var 1 (pv 1)) (vam_cons (ve_var 7 (pv 7)) (vam_cons (ve_var 8 (pv 8)) vam_nil)))))) (fun h => ps_set Sc.nd rfl (.inl rfl) h))
 (vss_one (vs_setF' (i := 1) (ve_op vo_sub (ve_op (vo_addK (K := K) rfl) (ve_var 1 (pv 1)) (ve_op vo_mul ve_int (ve_callTy vc_int (by rfl) B.z_int PyProof.Rows.boot_int (va_cons (ve_var 9 (pv 9)) va_nil)))) ve_int) (fun h => ps_set Sc.nd rfl (.inl rfl) h))))))
 (vss_one (vs_if (vt_cmp (vo_eqK (K := K) rfl hr.units) (ve_op vo_mod (ve_op vo_fdiv (ve_var 6 (pv 6)) ve_int) ve_int) ve_int (nomark _))
 (vss_cons (vs_if (vt_not (vt_val (ve_callN (K := K) rfl h_law_right (hr.mono (by decide)) (by rfl) (va_cons (ve_pl (vp_name 2 (pv 2))) (va_cons (ve_var 3 (pv 3)) (va_cons (ve_var 1 (pv 1)) (va_cons (ve_cmp (vo_eqK (K := K) rfl hr.units) (ve_op vo_mod (ve_var 7 (pv 7)) ve_int) ve_int (nomark _)) va_nil)))))))
 (vss_one (vs_ret ve_bl))
 vss_nil)
 (vss_cons (vs_setF' (i := 10) (ve_meth0K (K := K) rfl c_Book.cl h_Book_ideas (hr.mono (by decide)) (ve_pl (vp_name 2 (pv 2)))) (fun h => ps_set Sc.nd rfl (.inl rfl) h))
 (vss_one (vs_app' (i := 4) (ve_tup (va_cons (ve_var 10 (pv 10)) (va_cons (ve_callTy (vc_list2K (K := K) rfl rfl) (by rfl) B.z_list PyProof.Rows.boot_list (va_cons (ve_var 10 (pv 10)) va_nil)) (va_cons (ve_meth0K (K := K) rfl c_Book.cl h_Book_rows (hr.mono (by decide)) (ve_pl (vp_name 2 (pv 2)))) (va_cons (ve_callTy (vc_list2K (K := K) rfl rfl) (by rfl) B.z_list PyProof.Rows.boot_list (va_cons (ve_var 3 (pv 3)) va_nil)) va_nil))))) (fun h => ps_expr (pe_bm PySem.F.plainAttrs_list PySem.F.slot_list_append PySem.F.type_list_append mt_append (pv 4) (pa_cons h pa_nil)))))))
 vss_nil)))))))
 (vss_cons (vs_fz 4 (vs_for PassesOwn.never rfl (vi_listK (K := K) rfl (ve_var 4 (pv 4))) (vg_name (pg_name (i := 11) Sc.nd rfl (.inl rfl)))
 (vss_one (vs_if (VW.vt (vw_or (vt_cmp (vo_neK (K := K) rfl hr.units) (ve_ixK (K := K) rfl (ve_var 11 (pv 11)) ve_int (fun _ _ => rfl)) (ve_ixK (K := K) rfl (ve_var 11 (pv 11)) ve_int (fun _ _ => rfl)) (nomark _)) (vw_or1 (vt_cmp (vo_neK (K := K) rfl hr.units) (ve_ixK (K := K) rfl (ve_var 11 (pv 11)) ve_int (fun _ _ => rfl)) (ve_ixK (K := K) rfl (ve_var 11 (pv 11)) ve_int (fun _ _ => rfl)) (nomark _)))))
 (vss_one (vs_ret ve_bl))
 vss_nil))))
 (vss_one (vs_ret (ve_and (ve_callN (K := K) rfl h_law_right (hr.mono (by decide)) (by rfl) (va_cons (ve_pl (vp_name 2 (pv 2))) (va_cons (ve_var 3 (pv 3)) (va_cons (ve_var 1 (pv 1)) (va_cons ve_bl va_nil))))) (ve_one (ve_cmp (vo_eqK (K := K) rfl hr.units) (ve_meth0K (K := K) rfl c_Book.cl h_Book_ideas (hr.mono (by decide)) (ve_pl (vp_name 2 (pv 2)))) (ve_callN (K := K) rfl h_ideas (hr.mono (by decide)) (by rfl) (va_cons (ve_callTy (vc_list2K (K := K) rfl rfl) (by rfl) B.z_list PyProof.Rows.boot_list (va_cons (ve_var 3 (pv 3)) va_nil)) (va_cons (ve_var 1 (pv 1)) va_nil))) (nomark _))))))))))))
theorem len_law : ∀ as P, sp_law as P → as.length = 1 := by
  rintro as P ⟨_, rfl, _⟩; rfl
theorem rd_law : ∀ as P, sp_law as P → t_law C_Book { nx := fun _ => P .fz .non, rt := fun k x => k.st = true ∧ P k x } (startD 12 as) := by
  rintro as P ⟨ns, rfl, hl, hP⟩
  obtain ⟨m, hm, hm2⟩ := mod_i (ns.getD 0 0) 5 (by decide)
  push_cast [t_law]
  refine ⟨ns, 0, rfl, ?_⟩
  push_cast [hm]
  refine ⟨by decide, ?_⟩
  intro l
  refine ⟨l, _, m, rfl, by omega, fun lt => ⟨rfl, rfl, _, rfl, ?_⟩⟩
  intro lh
  push_cast only [cutL_map]
  have hcl := cutL_le ns (some 1) none
  refine for_map (cutL ns (some 1) none) Dt.int (fun i ρ => ∃ (w : Nat) (rows : List Nat) (lt : Addr) (y : Dt) (hs : List (List (Nat × Nat) × List Nat)) (x5 x6 x7 x8 x9 x10 : Sl), ρ = [.v .vw (intsD ns), .v .fz (nat w), .v (.tr (bookT C_Book l lt w rows)) y, .v .fz (nats rows), .v (.ow lh) (.lst (hs.map heldD)), x5, x6, x7, x8, x9, x10, .no] ∧ hs.length ≤ i ∧ w ≤ 6 ∧ rows.length ≤ 12 ∧ ∀ r ∈ rows, r < 2 ^ w)
    ⟨_, .refl _, m, [], lt, _, [], _, _, _, _, _, _, rfl, by simp, by omega, by simp, by simp⟩ ?_ ?_
  · rintro i hi ρ ⟨w, rows, lt, y, hs, x5, x6, x7, x8, x9, x10, rfl, hhs, hw, hrl, hrw⟩
    generalize (cutL ns (some 1) none)[i] = cell
    obtain ⟨q, hq, hq2⟩ := mod_i cell 1000003 (by decide)
    obtain ⟨mx, hmx, hmx2⟩ := mod_i ((q : Int) * 48271) 999983 (by decide)
    obtain ⟨nu, hnu, hnu2⟩ := mod_i ((q : Int) * 16807) 999979 (by decide)
    obtain ⟨b, hbv⟩ : ∃ b : Bool, decide ((mx : Int) % 3 < 2) = b := ⟨_, rfl⟩
    have hgo : ∀ P : Prop, (((mx : Int) / 3 % 8 < 5) → P) → (¬ ((mx : Int) / 3 % 8 < 5) → w = 0 → P) → (¬ ((mx : Int) / 3 % 8 < 5) → ¬ w = 0 → w < 6 → b = true → P) → (¬ ((mx : Int) / 3 % 8 < 5) → ¬ w = 0 → ¬ w < 6 → P) → (¬ ((mx : Int) / 3 % 8 < 5) → ¬ w = 0 → w < 6 → b = false → P) → P := fun P h1 h2 h3 h4 h5 => by
      by_cases hA : (mx : Int) / 3 % 8 < 5
      · exact h1 hA
      · by_cases h0 : w = 0
        · exact h2 hA h0
        · by_cases h6 : w < 6
          · cases b
            · exact h5 hA h0 h6 rfl
            · exact h3 hA h0 h6 rfl
          · exact h4 hA h0 h6
    have eP : (w : Int) + 2 * 1 - 1 = ((w + 1 : Nat) : Int) := by omega
    refine hgo _ (fun hA => ?_) (fun hA h0 => ?_) (fun hA h0 h6 hB => ?_) (fun hA h0 h6 => ?_) (fun hA h0 h6 hB => ?_)
    case' refine_1 =>
      have eA : decide ((mx : Int) / 3 % 8 < 5) = true := decide_eq_true hA
      push_cast [hq, hmx, hnu, hbv, eA]
      refine ⟨by decide, .inl ⟨by omega, by omega⟩, by decide, by decide, .inl ⟨by omega, by omega⟩, by decide, by decide, ⟨by decide, by decide⟩, by decide, ?_⟩
      refine ⟨fun z => (nomatch z), l, lt, _, w, rows, _, _, rfl, hrl, hrw, by omega, fun rs hrs => ?_⟩
      obtain ⟨hr1, hr2⟩ := hrs
      have hv6 := hw
      walk_at "vx"
      generalize w = v at hv6 hr2 ⊢
      generalize lt = lu
    case' refine_2 =>
      have eA : decide ((mx : Int) / 3 % 8 < 5) = false := decide_eq_false hA
      have e0 : decide ((w : Int) = 0) = true := by rw [decide_eq_true_eq]; omega
      push_cast [hq, hmx, hnu, hbv, eA, e0]
      refine ⟨by decide, .inl ⟨by omega, by omega⟩, by decide, by decide, .inl ⟨by omega, by omega⟩, by decide, by decide, ⟨by decide, by decide⟩, by decide, ?_⟩
      refine ⟨fun z => (nomatch z), l, lt, _, w, rows, _, _, rfl, hrl, hrw, hw, fun _ rs lu hr1 hr2 => ?_, fun v hv _ => by omega⟩
      have hv6 : w + 1 ≤ 6 := by omega
      push_cast [eP]
      refine ⟨.inl ⟨by decide, by decide⟩, ?_⟩
      generalize w + 1 = v at hv6 hr2 ⊢
    case' refine_3 =>
      have eA : decide ((mx : Int) / 3 % 8 < 5) = false := decide_eq_false hA
      have e0 : decide ((w : Int) = 0) = false := by rw [decide_eq_false_iff_not]; omega
      have e6 : decide ((w : Int) < 6) = true := by rw [decide_eq_true_eq]; omega
      push_cast [hq, hmx, hnu, hbv, eA, e0, e6, hB]
      refine ⟨by decide, .inl ⟨by omega, by omega⟩, by decide, by decide, .inl ⟨by omega, by omega⟩, by decide, by decide, ⟨by decide, by decide⟩, by decide, ?_⟩
      refine ⟨fun z => (nomatch z), l, lt, _, w, rows, _, _, rfl, hrl, hrw, hw, fun _ rs lu hr1 hr2 => ?_, fun v hv hn => absurd ⟨h6, rfl⟩ hn⟩
      have hv6 : w + 1 ≤ 6 := by omega
      push_cast [eP]
      refine ⟨.inl ⟨by decide, by decide⟩, ?_⟩
      generalize w + 1 = v at hv6 hr2 ⊢
    case' refine_4 =>
      have eA : decide ((mx : Int) / 3 % 8 < 5) = false := decide_eq_false hA
      have e0 : decide ((w : Int) = 0) = false := by rw [decide_eq_false_iff_not]; omega
      have e6 : decide ((w : Int) < 6) = false := by rw [decide_eq_false_iff_not]; omega
      push_cast [hq, hmx, hnu, hbv, eA, e0, e6]
      refine ⟨by decide, .inl ⟨by omega, by omega⟩, by decide, by decide, .inl ⟨by omega, by omega⟩, by decide, by decide, ⟨by decide, by decide⟩, by decide, ?_⟩
      refine ⟨fun z => (nomatch z), l, lt, _, w, rows, _, _, rfl, hrl, hrw, hw, fun hn => absurd hn (by omega), fun v hv _ rs lu hr1 hr2 => ?_⟩
      have hv6 : v ≤ 6 := by omega
      have eM : (w : Int) + 2 * 0 - 1 = (v : Int) := by omega
      push_cast [eM]
      refine ⟨.inl ⟨by decide, by decide⟩, ?_⟩
    case' refine_5 =>
      have eA : decide ((mx : Int) / 3 % 8 < 5) = false := decide_eq_false hA
      have e0 : decide ((w : Int) = 0) = false := by rw [decide_eq_false_iff_not]; omega
      have e6 : decide ((w : Int) < 6) = true := by rw [decide_eq_true_eq]; omega
      push_cast [hq, hmx, hnu, hbv, eA, e0, e6, hB]
      refine ⟨by decide, .inl ⟨by omega, by omega⟩, by decide, by decide, .inl ⟨by omega, by omega⟩, by decide, by decide, ⟨by decide, by decide⟩, by decide, ?_⟩
      refine ⟨fun z => (nomatch z), l, lt, _, w, rows, _, _, rfl, hrl, hrw, hw, fun hn => hn.elim (fun h => absurd h h0) (fun h => by cases h.2), fun v hv _ rs lu hr1 hr2 => ?_⟩
      have hv6 : v ≤ 6 := by omega
      have eM : (w : Int) + 2 * 0 - 1 = (v : Int) := by omega
      push_cast [eM]
      refine ⟨.inl ⟨by decide, by decide⟩, ?_⟩
    all_goals
      refine ⟨⟨by decide, by decide⟩, by decide, selS_dec (fun h => ?_) (fun h => ?_)⟩
      · push_cast [bookT_rd, bookT_root]
        refine ⟨by decide, l, lu, _, v, rs, _, rfl, by omega, by omega, ?_⟩
        push_cast [bookT_rd, bookT_root]
        refine ⟨l, lu, _, v, rs, rfl, ?_⟩
        push_cast [bookT_rd, bookT_root]
        refine ⟨l, lu, _, v, rs, rfl, ?_⟩
        push_cast [List.length_map]
        exact ⟨by omega, _, .refl _, v, rs, lu, _, hs ++ [(ids rs v (2 ^ v), rs)], _, _, _, _, _, _, by rw [List.map_append]; rfl, by rw [List.length_append, List.length_singleton]; omega, hv6, hr1, hr2⟩
      · walk_at "vx"
        exact ⟨_, .refl _, v, rs, lu, _, hs, _, _, _, _, _, _, rfl, by omega, hv6, hr1, hr2⟩
  · rintro ρ ⟨w, rows, lt, y, hs, x5, x6, x7, x8, x9, x10, rfl, hhs, hw, hrl, hrw⟩
    walk_at "vx"
    walk_at "vi"
    refine for_map hs heldD (fun i ρ => ∃ (x : Sl), ρ = [.v .vw (intsD ns), .v .fz (nat w), .v (.tr (bookT C_Book l lt w rows)) y, .v .fz (nats rows), .v .fz (.lst (hs.map heldD)), x5, x6, x7, x8, x9, x10, x]) ⟨_, .refl _, _, rfl⟩ ?_ ?_
    · rintro i hi ρ ⟨x, rfl⟩
      push_cast [heldD, decide_true]
      exact ⟨_, .refl _, _, rfl⟩
    · rintro ρ ⟨x, rfl⟩
      push_cast [bookT_rd]
      refine ⟨l, lt, _, w, rows, _, rfl, by omega, by omega, ?_⟩
      push_cast [bookT_rd, bookT_root]
      refine ⟨l, lt, _, w, rows, rfl, ?_⟩
      walk_at "vx"
      refine ⟨rows, w, rfl, by omega, by omega, ?_⟩
      push_cast [decide_true]
      exact hP

theorem ok_law (B : Bt mg) (d : Df K mg "law" s_law ["script"]) (c_Book : Cz_Book K mg C_Book) (h_law_cell_at : Has P w K mg base 1 "_law_cell_at" ["script", "k"] sp_law_cell_at) (h_Book_init : HasNew P w K mg base 1 "Book" C_Book ["self", "width"] [] (sp_Book_init C_Book)) (h_law_thing : HasM CX0 P w K mg base 4 "_law_thing" ["book", "rows", "wide", "number", "put"] (sp_law_thing C_Book)) (h_law_column : HasM CX0 P w K mg base 4 "_law_column" ["book", "rows", "wide", "number", "put"] (sp_law_column C_Book)) (h_law_right : Has P w K mg base 5 "_law_right" ["book", "rows", "wide", "ahead"] (sp_law_right C_Book)) (h_Book_ideas : HasMt P w K mg base 1 C_Book "ideas" ["self"] (sp_Book_ideas C_Book)) (h_Book_rows : HasMt P w K mg base 1 C_Book "rows" ["self"] (sp_Book_rows C_Book)) (h_ideas : Has P w K mg base 5 "ideas" ["rows", "width"] sp_ideas) : Has P w K mg base 6 "law" ["script"] sp_law :=
  has_ok d sc_law (by decide) (vs_law B c_Book h_law_cell_at h_Book_init h_law_thing h_law_column h_law_right h_Book_ideas h_Book_rows h_ideas) len_law rd_law
theorem okf_law (B : Bt mg) {f : Addr} {fd : FuncData} (F : Fun K "law" "law" s_law f fd) (c_Book : Cz_Book K mg C_Book) (h_law_cell_at : Has P w K mg base 1 "_law_cell_at" ["script", "k"] sp_law_cell_at) (h_Book_init : HasNew P w K mg base 1 "Book" C_Book ["self", "width"] [] (sp_Book_init C_Book)) (h_law_thing : HasM CX0 P w K mg base 4 "_law_thing" ["book", "rows", "wide", "number", "put"] (sp_law_thing C_Book)) (h_law_column : HasM CX0 P w K mg base 4 "_law_column" ["book", "rows", "wide", "number", "put"] (sp_law_column C_Book)) (h_law_right : Has P w K mg base 5 "_law_right" ["book", "rows", "wide", "ahead"] (sp_law_right C_Book)) (h_Book_ideas : HasMt P w K mg base 1 C_Book "ideas" ["self"] (sp_Book_ideas C_Book)) (h_Book_rows : HasMt P w K mg base 1 C_Book "rows" ["self"] (sp_Book_rows C_Book)) (h_ideas : Has P w K mg base 5 "ideas" ["rows", "width"] sp_ideas) : FnOk P w K mg base CX0 6 f fd ["script"] (spL K sp_law) :=
  fn_ok F sc_law len_law (fun cdv A outer s H E e0 hr => vs_law B c_Book h_law_cell_at h_Book_init h_law_thing h_law_column h_law_right h_Book_ideas h_Book_rows h_ideas f cdv A outer s H E e0 hr) (by decide) rd_law
end
theorem all_mk {l : PySem.W.OpenLaw} {w : World} {K : PySem.W.Frag} {h : Heap} {mg : Str → Option Value} {fa : Addr} (X : K.In h) (G : h.Ns mainGlobals mg) (hfa : mg "law" = some (.ref fa))
    {C_Book : Addr} (aC_Book : PySem.W.nsIn K mainGlobals "Book" = some (some (.ref C_Book))) (pg_Book : PySem.W.plainGet K C_Book Str.empty = true) (hd_Book : PySem.W.hasDictIn K C_Book = true) (po_Book : PySem.W.plainOver K C_Book = true) (sa_Book : PySem.W.findIn K (.ref C_Book) "__setattr__" = some (some (.builtin "object.__setattr__"))) (mk_Book : PySem.W.makesIn K C_Book = true) (kc_Book : PySem.W.keepIn K (.ref C_Book) = true) (nf_Book_wide : PySem.W.findIn K (.ref C_Book) "wide" = some none) (nf_Book_told : PySem.W.findIn K (.ref C_Book) "told" = some none) (nf_Book_pairs : PySem.W.findIn K (.ref C_Book) "pairs" = some none)
    {f0 : Addr} {oc0 kV0 dc0 pm0 cd0 ct0 : Value} {od0 an0 : Option Addr} {sl0 : Array (Option Value)}
    (a0 : PySem.W.nsIn K mainGlobals "_law_cell_at" = some (some (.ref f0))) (l0 : K.lookup f0 = some ⟨oc0, od0, .func (PySem.W.fnOf "_law_cell_at" "_law_cell_at" (defArgs s_law_cell_at) (defBody s_law_cell_at) (defScope s_law_cell_at) .none kV0 dc0 pm0 an0 cd0 ct0), sl0⟩) (c0 : PySem.W.codeIn K cd0 "_law_cell_at" = true) (k0 : PySem.W.keepIn K (.ref f0) = true)
    {f1 : Addr} {oc1 kV1 dc1 pm1 cd1 ct1 : Value} {od1 an1 : Option Addr} {sl1 : Array (Option Value)}
    (a1 : PySem.W.findIn K (.ref C_Book) "__init__" = some (some (.ref f1))) (i1 : PySem.W.isFn K (.ref f1) = true) (l1 : K.lookup f1 = some ⟨oc1, od1, .func (PySem.W.fnOf "__init__" "Book.__init__" (defArgs s_Book_init) (defBody s_Book_init) (defScope s_Book_init) .none kV1 dc1 pm1 an1 cd1 ct1), sl1⟩) (c1 : PySem.W.codeIn K cd1 "Book.__init__" = true) (k1 : PySem.W.keepIn K (.ref f1) = true)
    {f2 : Addr} {oc2 kV2 dc2 pm2 cd2 ct2 : Value} {od2 an2 : Option Addr} {sl2 : Array (Option Value)}
    (a2 : PySem.W.nsIn K mainGlobals "within" = some (some (.ref f2))) (l2 : K.lookup f2 = some ⟨oc2, od2, .func (PySem.W.fnOf "within" "within" (defArgs s_within) (defBody s_within) (defScope s_within) .none kV2 dc2 pm2 an2 cd2 ct2), sl2⟩) (c2 : PySem.W.codeIn K cd2 "within" = true) (k2 : PySem.W.keepIn K (.ref f2) = true)
    {f3 : Addr} {oc3 kV3 dc3 pm3 cd3 ct3 : Value} {od3 an3 : Option Addr} {sl3 : Array (Option Value)}
    (a3 : PySem.W.nsIn K mainGlobals "having" = some (some (.ref f3))) (l3 : K.lookup f3 = some ⟨oc3, od3, .func (PySem.W.fnOf "having" "having" (defArgs s_having) (defBody s_having) (defScope s_having) .none kV3 dc3 pm3 an3 cd3 ct3), sl3⟩) (c3 : PySem.W.codeIn K cd3 "having" = true) (k3 : PySem.W.keepIn K (.ref f3) = true)
    {f4 : Addr} {oc4 kV4 dc4 pm4 cd4 ct4 : Value} {od4 an4 : Option Addr} {sl4 : Array (Option Value)}
    (a4 : PySem.W.findIn K (.ref C_Book) "put_thing" = some (some (.ref f4))) (i4 : PySem.W.isFn K (.ref f4) = true) (l4 : K.lookup f4 = some ⟨oc4, od4, .func (PySem.W.fnOf "put_thing" "Book.put_thing" (defArgs s_Book_put_thing) (defBody s_Book_put_thing) (defScope s_Book_put_thing) .none kV4 dc4 pm4 an4 cd4 ct4), sl4⟩) (c4 : PySem.W.codeIn K cd4 "Book.put_thing" = true) (k4 : PySem.W.keepIn K (.ref f4) = true)
    {f5 : Addr} {oc5 kV5 dc5 pm5 cd5 ct5 : Value} {od5 an5 : Option Addr} {sl5 : Array (Option Value)}
    (a5 : PySem.W.nsIn K mainGlobals "less_member" = some (some (.ref f5))) (l5 : K.lookup f5 = some ⟨oc5, od5, .func (PySem.W.fnOf "less_member" "less_member" (defArgs s_less_member) (defBody s_less_member) (defScope s_less_member) .none kV5 dc5 pm5 an5 cd5 ct5), sl5⟩) (c5 : PySem.W.codeIn K cd5 "less_member" = true) (k5 : PySem.W.keepIn K (.ref f5) = true)
    {f6 : Addr} {oc6 kV6 dc6 pm6 cd6 ct6 : Value} {od6 an6 : Option Addr} {sl6 : Array (Option Value)}
    (a6 : PySem.W.nsIn K mainGlobals "ones" = some (some (.ref f6))) (l6 : K.lookup f6 = some ⟨oc6, od6, .func (PySem.W.fnOf "ones" "ones" (defArgs s_ones) (defBody s_ones) (defScope s_ones) .none kV6 dc6 pm6 an6 cd6 ct6), sl6⟩) (c6 : PySem.W.codeIn K cd6 "ones" = true) (k6 : PySem.W.keepIn K (.ref f6) = true)
    {f7 : Addr} {oc7 kV7 dc7 pm7 cd7 ct7 : Value} {od7 an7 : Option Addr} {sl7 : Array (Option Value)}
    (a7 : PySem.W.nsIn K mainGlobals "shared" = some (some (.ref f7))) (l7 : K.lookup f7 = some ⟨oc7, od7, .func (PySem.W.fnOf "shared" "shared" (defArgs s_shared) (defBody s_shared) (defScope s_shared) .none kV7 dc7 pm7 an7 cd7 ct7), sl7⟩) (c7 : PySem.W.codeIn K cd7 "shared" = true) (k7 : PySem.W.keepIn K (.ref f7) = true)
    {f8 : Addr} {oc8 kV8 dc8 pm8 cd8 ct8 : Value} {od8 an8 : Option Addr} {sl8 : Array (Option Value)}
    (a8 : PySem.W.findIn K (.ref C_Book) "take_thing" = some (some (.ref f8))) (i8 : PySem.W.isFn K (.ref f8) = true) (l8 : K.lookup f8 = some ⟨oc8, od8, .func (PySem.W.fnOf "take_thing" "Book.take_thing" (defArgs s_Book_take_thing) (defBody s_Book_take_thing) (defScope s_Book_take_thing) .none kV8 dc8 pm8 an8 cd8 ct8), sl8⟩) (c8 : PySem.W.codeIn K cd8 "Book.take_thing" = true) (k8 : PySem.W.keepIn K (.ref f8) = true)
    {f9 : Addr} {oc9 kV9 dc9 pm9 cd9 ct9 : Value} {od9 an9 : Option Addr} {sl9 : Array (Option Value)}
    (a9 : PySem.W.nsIn K mainGlobals "_law_thing" = some (some (.ref f9))) (l9 : K.lookup f9 = some ⟨oc9, od9, .func (PySem.W.fnOf "_law_thing" "_law_thing" (defArgs s_law_thing) (defBody s_law_thing) (defScope s_law_thing) .none kV9 dc9 pm9 an9 cd9 ct9), sl9⟩) (c9 : PySem.W.codeIn K cd9 "_law_thing" = true) (k9 : PySem.W.keepIn K (.ref f9) = true)
    {f10 : Addr} {oc10 kV10 dc10 pm10 cd10 ct10 : Value} {od10 an10 : Option Addr} {sl10 : Array (Option Value)}
    (a10 : PySem.W.nsIn K mainGlobals "mask_first" = some (some (.ref f10))) (l10 : K.lookup f10 = some ⟨oc10, od10, .func (PySem.W.fnOf "mask_first" "mask_first" (defArgs s_mask_first) (defBody s_mask_first) (defScope s_mask_first) .none kV10 dc10 pm10 an10 cd10 ct10), sl10⟩) (c10 : PySem.W.codeIn K cd10 "mask_first" = true) (k10 : PySem.W.keepIn K (.ref f10) = true)
    {f11 : Addr} {oc11 kV11 dc11 pm11 cd11 ct11 : Value} {od11 an11 : Option Addr} {sl11 : Array (Option Value)}
    (a11 : PySem.W.findIn K (.ref C_Book) "put_column" = some (some (.ref f11))) (i11 : PySem.W.isFn K (.ref f11) = true) (l11 : K.lookup f11 = some ⟨oc11, od11, .func (PySem.W.fnOf "put_column" "Book.put_column" (defArgs s_Book_put_column) (defBody s_Book_put_column) (defScope s_Book_put_column) .none kV11 dc11 pm11 an11 cd11 ct11), sl11⟩) (c11 : PySem.W.codeIn K cd11 "Book.put_column" = true) (k11 : PySem.W.keepIn K (.ref f11) = true)
    {f12 : Addr} {oc12 kV12 dc12 pm12 cd12 ct12 : Value} {od12 an12 : Option Addr} {sl12 : Array (Option Value)}
    (a12 : PySem.W.findIn K (.ref C_Book) "take_column" = some (some (.ref f12))) (i12 : PySem.W.isFn K (.ref f12) = true) (l12 : K.lookup f12 = some ⟨oc12, od12, .func (PySem.W.fnOf "take_column" "Book.take_column" (defArgs s_Book_take_column) (defBody s_Book_take_column) (defScope s_Book_take_column) .none kV12 dc12 pm12 an12 cd12 ct12), sl12⟩) (c12 : PySem.W.codeIn K cd12 "Book.take_column" = true) (k12 : PySem.W.keepIn K (.ref f12) = true)
    {f13 : Addr} {oc13 kV13 dc13 pm13 cd13 ct13 : Value} {od13 an13 : Option Addr} {sl13 : Array (Option Value)}
    (a13 : PySem.W.nsIn K mainGlobals "_law_less" = some (some (.ref f13))) (l13 : K.lookup f13 = some ⟨oc13, od13, .func (PySem.W.fnOf "_law_less" "_law_less" (defArgs s_law_less) (defBody s_law_less) (defScope s_law_less) .none kV13 dc13 pm13 an13 cd13 ct13), sl13⟩) (c13 : PySem.W.codeIn K cd13 "_law_less" = true) (k13 : PySem.W.keepIn K (.ref f13) = true)
    {f14 : Addr} {oc14 kV14 dc14 pm14 cd14 ct14 : Value} {od14 an14 : Option Addr} {sl14 : Array (Option Value)}
    (a14 : PySem.W.nsIn K mainGlobals "_law_column" = some (some (.ref f14))) (l14 : K.lookup f14 = some ⟨oc14, od14, .func (PySem.W.fnOf "_law_column" "_law_column" (defArgs s_law_column) (defBody s_law_column) (defScope s_law_column) .none kV14 dc14 pm14 an14 cd14 ct14), sl14⟩) (c14 : PySem.W.codeIn K cd14 "_law_column" = true) (k14 : PySem.W.keepIn K (.ref f14) = true)
    {f15 : Addr} {oc15 kV15 dc15 pm15 cd15 ct15 : Value} {od15 an15 : Option Addr} {sl15 : Array (Option Value)}
    (a15 : PySem.W.findIn K (.ref C_Book) "ideas" = some (some (.ref f15))) (i15 : PySem.W.isFn K (.ref f15) = true) (l15 : K.lookup f15 = some ⟨oc15, od15, .func (PySem.W.fnOf "ideas" "Book.ideas" (defArgs s_Book_ideas) (defBody s_Book_ideas) (defScope s_Book_ideas) .none kV15 dc15 pm15 an15 cd15 ct15), sl15⟩) (c15 : PySem.W.codeIn K cd15 "Book.ideas" = true) (k15 : PySem.W.keepIn K (.ref f15) = true)
    {f16 : Addr} {oc16 kV16 dc16 pm16 cd16 ct16 : Value} {od16 an16 : Option Addr} {sl16 : Array (Option Value)}
    (a16 : PySem.W.nsIn K mainGlobals "_law_whole" = some (some (.ref f16))) (l16 : K.lookup f16 = some ⟨oc16, od16, .func (PySem.W.fnOf "_law_whole" "_law_whole" (defArgs s_law_whole) (defBody s_law_whole) (defScope s_law_whole) .none kV16 dc16 pm16 an16 cd16 ct16), sl16⟩) (c16 : PySem.W.codeIn K cd16 "_law_whole" = true) (k16 : PySem.W.keepIn K (.ref f16) = true)
    {f17 : Addr} {oc17 kV17 dc17 pm17 cd17 ct17 : Value} {od17 an17 : Option Addr} {sl17 : Array (Option Value)}
    (a17 : PySem.W.nsIn K mainGlobals "_law_pair" = some (some (.ref f17))) (l17 : K.lookup f17 = some ⟨oc17, od17, .func (PySem.W.fnOf "_law_pair" "_law_pair" (defArgs s_law_pair) (defBody s_law_pair) (defScope s_law_pair) .none kV17 dc17 pm17 an17 cd17 ct17), sl17⟩) (c17 : PySem.W.codeIn K cd17 "_law_pair" = true) (k17 : PySem.W.keepIn K (.ref f17) = true)
    {f18 : Addr} {oc18 kV18 dc18 pm18 cd18 ct18 : Value} {od18 an18 : Option Addr} {sl18 : Array (Option Value)}
    (a18 : PySem.W.nsIn K mainGlobals "_law_having" = some (some (.ref f18))) (l18 : K.lookup f18 = some ⟨oc18, od18, .func (PySem.W.fnOf "_law_having" "_law_having" (defArgs s_law_having) (defBody s_law_having) (defScope s_law_having) .none kV18 dc18 pm18 an18 cd18 ct18), sl18⟩) (c18 : PySem.W.codeIn K cd18 "_law_having" = true) (k18 : PySem.W.keepIn K (.ref f18) = true)
    {f19 : Addr} {oc19 kV19 dc19 pm19 cd19 ct19 : Value} {od19 an19 : Option Addr} {sl19 : Array (Option Value)}
    (a19 : PySem.W.nsIn K mainGlobals "_law_shared" = some (some (.ref f19))) (l19 : K.lookup f19 = some ⟨oc19, od19, .func (PySem.W.fnOf "_law_shared" "_law_shared" (defArgs s_law_shared) (defBody s_law_shared) (defScope s_law_shared) .none kV19 dc19 pm19 an19 cd19 ct19), sl19⟩) (c19 : PySem.W.codeIn K cd19 "_law_shared" = true) (k19 : PySem.W.keepIn K (.ref f19) = true)
    {f20 : Addr} {oc20 kV20 dc20 pm20 cd20 ct20 : Value} {od20 an20 : Option Addr} {sl20 : Array (Option Value)}
    (a20 : PySem.W.nsIn K mainGlobals "_law_pairs" = some (some (.ref f20))) (l20 : K.lookup f20 = some ⟨oc20, od20, .func (PySem.W.fnOf "_law_pairs" "_law_pairs" (defArgs s_law_pairs) (defBody s_law_pairs) (defScope s_law_pairs) .none kV20 dc20 pm20 an20 cd20 ct20), sl20⟩) (c20 : PySem.W.codeIn K cd20 "_law_pairs" = true) (k20 : PySem.W.keepIn K (.ref f20) = true)
    {f21 : Addr} {oc21 kV21 dc21 pm21 cd21 ct21 : Value} {od21 an21 : Option Addr} {sl21 : Array (Option Value)}
    (a21 : PySem.W.nsIn K mainGlobals "_law_all" = some (some (.ref f21))) (l21 : K.lookup f21 = some ⟨oc21, od21, .func (PySem.W.fnOf "_law_all" "_law_all" (defArgs s_law_all) (defBody s_law_all) (defScope s_law_all) .none kV21 dc21 pm21 an21 cd21 ct21), sl21⟩) (c21 : PySem.W.codeIn K cd21 "_law_all" = true) (k21 : PySem.W.keepIn K (.ref f21) = true)
    {f22 : Addr} {oc22 kV22 dc22 pm22 cd22 ct22 : Value} {od22 an22 : Option Addr} {sl22 : Array (Option Value)}
    (a22 : PySem.W.nsIn K mainGlobals "_law_ideas" = some (some (.ref f22))) (l22 : K.lookup f22 = some ⟨oc22, od22, .func (PySem.W.fnOf "_law_ideas" "_law_ideas" (defArgs s_law_ideas) (defBody s_law_ideas) (defScope s_law_ideas) .none kV22 dc22 pm22 an22 cd22 ct22), sl22⟩) (c22 : PySem.W.codeIn K cd22 "_law_ideas" = true) (k22 : PySem.W.keepIn K (.ref f22) = true)
    {f23 : Addr} {oc23 kV23 dc23 pm23 cd23 ct23 : Value} {od23 an23 : Option Addr} {sl23 : Array (Option Value)}
    (a23 : PySem.W.findIn K (.ref C_Book) "rows" = some (some (.ref f23))) (i23 : PySem.W.isFn K (.ref f23) = true) (l23 : K.lookup f23 = some ⟨oc23, od23, .func (PySem.W.fnOf "rows" "Book.rows" (defArgs s_Book_rows) (defBody s_Book_rows) (defScope s_Book_rows) .none kV23 dc23 pm23 an23 cd23 ct23), sl23⟩) (c23 : PySem.W.codeIn K cd23 "Book.rows" = true) (k23 : PySem.W.keepIn K (.ref f23) = true)
    {f24 : Addr} {oc24 kV24 dc24 pm24 cd24 ct24 : Value} {od24 an24 : Option Addr} {sl24 : Array (Option Value)}
    (a24 : PySem.W.findIn K (.ref C_Book) "width" = some (some (.ref f24))) (i24 : PySem.W.isFn K (.ref f24) = true) (l24 : K.lookup f24 = some ⟨oc24, od24, .func (PySem.W.fnOf "width" "Book.width" (defArgs s_Book_width) (defBody s_Book_width) (defScope s_Book_width) .none kV24 dc24 pm24 an24 cd24 ct24), sl24⟩) (c24 : PySem.W.codeIn K cd24 "Book.width" = true) (k24 : PySem.W.keepIn K (.ref f24) = true)
    {f25 : Addr} {oc25 kV25 dc25 pm25 cd25 ct25 : Value} {od25 an25 : Option Addr} {sl25 : Array (Option Value)}
    (a25 : PySem.W.nsIn K mainGlobals "_law_table" = some (some (.ref f25))) (l25 : K.lookup f25 = some ⟨oc25, od25, .func (PySem.W.fnOf "_law_table" "_law_table" (defArgs s_law_table) (defBody s_law_table) (defScope s_law_table) .none kV25 dc25 pm25 an25 cd25 ct25), sl25⟩) (c25 : PySem.W.codeIn K cd25 "_law_table" = true) (k25 : PySem.W.keepIn K (.ref f25) = true)
    {f26 : Addr} {oc26 kV26 dc26 pm26 cd26 ct26 : Value} {od26 an26 : Option Addr} {sl26 : Array (Option Value)}
    (a26 : PySem.W.nsIn K mainGlobals "_law_right" = some (some (.ref f26))) (l26 : K.lookup f26 = some ⟨oc26, od26, .func (PySem.W.fnOf "_law_right" "_law_right" (defArgs s_law_right) (defBody s_law_right) (defScope s_law_right) .none kV26 dc26 pm26 an26 cd26 ct26), sl26⟩) (c26 : PySem.W.codeIn K cd26 "_law_right" = true) (k26 : PySem.W.keepIn K (.ref f26) = true)
    {f27 : Addr} {oc27 kV27 dc27 pm27 cd27 ct27 : Value} {od27 an27 : Option Addr} {sl27 : Array (Option Value)}
    (a27 : PySem.W.nsIn K mainGlobals "closed" = some (some (.ref f27))) (l27 : K.lookup f27 = some ⟨oc27, od27, .func (PySem.W.fnOf "closed" "closed" (defArgs s_closed) (defBody s_closed) (defScope s_closed) .none kV27 dc27 pm27 an27 cd27 ct27), sl27⟩) (c27 : PySem.W.codeIn K cd27 "closed" = true) (k27 : PySem.W.keepIn K (.ref f27) = true)
    {f28 : Addr} {oc28 kV28 dc28 pm28 cd28 ct28 : Value} {od28 an28 : Option Addr} {sl28 : Array (Option Value)}
    (a28 : PySem.W.nsIn K mainGlobals "next_mask" = some (some (.ref f28))) (l28 : K.lookup f28 = some ⟨oc28, od28, .func (PySem.W.fnOf "next_mask" "next_mask" (defArgs s_next_mask) (defBody s_next_mask) (defScope s_next_mask) .none kV28 dc28 pm28 an28 cd28 ct28), sl28⟩) (c28 : PySem.W.codeIn K cd28 "next_mask" = true) (k28 : PySem.W.keepIn K (.ref f28) = true)
    {f29 : Addr} {oc29 kV29 dc29 pm29 cd29 ct29 : Value} {od29 an29 : Option Addr} {sl29 : Array (Option Value)}
    (a29 : PySem.W.nsIn K mainGlobals "ideas" = some (some (.ref f29))) (l29 : K.lookup f29 = some ⟨oc29, od29, .func (PySem.W.fnOf "ideas" "ideas" (defArgs s_ideas) (defBody s_ideas) (defScope s_ideas) .none kV29 dc29 pm29 an29 cd29 ct29), sl29⟩) (c29 : PySem.W.codeIn K cd29 "ideas" = true) (k29 : PySem.W.keepIn K (.ref f29) = true)
    {f30 : Addr} {oc30 kV30 dc30 pm30 cd30 ct30 : Value} {od30 an30 : Option Addr} {sl30 : Array (Option Value)}
    (a30 : PySem.W.nsIn K mainGlobals "law" = some (some (.ref f30))) (l30 : K.lookup f30 = some ⟨oc30, od30, .func (PySem.W.fnOf "law" "law" (defArgs s_law) (defBody s_law) (defScope s_law) .none kV30 dc30 pm30 an30 cd30 ct30), sl30⟩) (c30 : PySem.W.codeIn K cd30 "law" = true) (k30 : PySem.W.keepIn K (.ref f30) = true)
    (z_bool : PySem.W.nsIn K mainGlobals "bool" = some none)
    (z_divmod : PySem.W.nsIn K mainGlobals "divmod" = some none)
    (z_enumerate : PySem.W.nsIn K mainGlobals "enumerate" = some none)
    (z_int : PySem.W.nsIn K mainGlobals "int" = some none)
    (z_isinstance : PySem.W.nsIn K mainGlobals "isinstance" = some none)
    (z_len : PySem.W.nsIn K mainGlobals "len" = some none)
    (z_list : PySem.W.nsIn K mainGlobals "list" = some none)
    (z_range : PySem.W.nsIn K mainGlobals "range" = some none)
    (z_sorted : PySem.W.nsIn K mainGlobals "sorted" = some none)
    (z_tuple : PySem.W.nsIn K mainGlobals "tuple" = some none)
    {tk_MOST_COLUMNS : Tok} (g_MOST_COLUMNS : PySem.W.nsIn K mainGlobals "MOST_COLUMNS" = some (some (.int 10 tk_MOST_COLUMNS)))
    {tk_MOST_THINGS : Tok} (g_MOST_THINGS : PySem.W.nsIn K mainGlobals "MOST_THINGS" = some (some (.int 60 tk_MOST_THINGS)))
    : ∃ fd : FuncData, (∀ (s : Shared) (v : Value), BindsTo s fd ⟨[v], []⟩ [("script", v)]) ∧ ∀ base : Heap, K.In base → base.Ns mainGlobals mg → FnOk l.prog w K mg base CX0 6 fa fd ["script"] (spL2 K) := by
  have e := hfa.symm.trans (PySem.W.mg_of X G a30)
  cases e
  have B : Bt mg := ⟨PySem.W.mg_none_of X G z_bool, PySem.W.mg_none_of X G z_divmod, PySem.W.mg_none_of X G z_enumerate, PySem.W.mg_none_of X G z_int, PySem.W.mg_none_of X G z_isinstance, PySem.W.mg_none_of X G z_len, PySem.W.mg_none_of X G z_list, PySem.W.mg_none_of X G z_range, PySem.W.mg_none_of X G z_sorted, PySem.W.mg_none_of X G z_tuple, ⟨_, PySem.W.mg_of X G g_MOST_COLUMNS, _, rfl⟩, ⟨_, PySem.W.mg_of X G g_MOST_THINGS, _, rfl⟩⟩
  have c_Book : Cz_Book K mg C_Book := ⟨⟨pg_Book, hd_Book, po_Book, sa_Book⟩, PySem.W.mg_of X G aC_Book, nf_Book_wide, nf_Book_told, nf_Book_pairs⟩
  have d_law_cell_at : Df K mg "_law_cell_at" s_law_cell_at ["script", "k"] := df_mk X G a0 l0 c0 k0 (fun _ _ _ _ _ _ us hl => match us, hl with | [_, _], _ => rfl)
  have d_Book_init : DfI K mg "Book" C_Book "Book.__init__" s_Book_init ["self", "width"] := ⟨f1, _, fun_mk l1 c1 k1, ⟨mk_Book, a1, i1, kc_Book⟩, PySem.W.mg_of X G aC_Book, (fun_mk (st := s_Book_init) l1 c1 k1).binds (fun _ _ _ _ _ _ us hl => match us, hl with | [_, _], _ => rfl)⟩
  have d_within : Df K mg "within" s_within ["small", "large"] := df_mk X G a2 l2 c2 k2 (fun _ _ _ _ _ _ us hl => match us, hl with | [_, _], _ => rfl)
  have d_having : Df K mg "having" s_having ["rows", "mask"] := df_mk X G a3 l3 c3 k3 (fun _ _ _ _ _ _ us hl => match us, hl with | [_, _], _ => rfl)
  have d_Book_put_thing : DfM K C_Book "put_thing" "Book.put_thing" s_Book_put_thing ["self", "row"] := ⟨f4, _, fun_mk l4 c4 k4, ⟨a4, i4, k4⟩, (fun_mk (st := s_Book_put_thing) l4 c4 k4).binds (fun _ _ _ _ _ _ us hl => match us, hl with | [_, _], _ => rfl)⟩
  have d_less_member : Df K mg "less_member" s_less_member ["members", "place"] := df_mk X G a5 l5 c5 k5 (fun _ _ _ _ _ _ us hl => match us, hl with | [_, _], _ => rfl)
  have d_ones : Df K mg "ones" s_ones ["mask"] := df_mk X G a6 l6 c6 k6 (fun _ _ _ _ _ _ us hl => match us, hl with | [_], _ => rfl)
  have d_shared : Df K mg "shared" s_shared ["rows", "width", "group"] := df_mk X G a7 l7 c7 k7 (fun _ _ _ _ _ _ us hl => match us, hl with | [_, _, _], _ => rfl)
  have d_Book_take_thing : DfM K C_Book "take_thing" "Book.take_thing" s_Book_take_thing ["self", "place"] := ⟨f8, _, fun_mk l8 c8 k8, ⟨a8, i8, k8⟩, (fun_mk (st := s_Book_take_thing) l8 c8 k8).binds (fun _ _ _ _ _ _ us hl => match us, hl with | [_, _], _ => rfl)⟩
  have d_law_thing : Df K mg "_law_thing" s_law_thing ["book", "rows", "wide", "number", "put"] := df_mk X G a9 l9 c9 k9 (fun _ _ _ _ _ _ us hl => match us, hl with | [_, _, _, _, _], _ => rfl)
  have d_mask_first : Df K mg "mask_first" s_mask_first ["pair"] := df_mk X G a10 l10 c10 k10 (fun _ _ _ _ _ _ us hl => match us, hl with | [_], _ => rfl)
  have d_Book_put_column : DfM K C_Book "put_column" "Book.put_column" s_Book_put_column ["self", "group"] := ⟨f11, _, fun_mk l11 c11 k11, ⟨a11, i11, k11⟩, (fun_mk (st := s_Book_put_column) l11 c11 k11).binds (fun _ _ _ _ _ _ us hl => match us, hl with | [_, _], _ => rfl)⟩
  have d_Book_take_column : DfM K C_Book "take_column" "Book.take_column" s_Book_take_column ["self", "place"] := ⟨f12, _, fun_mk l12 c12 k12, ⟨a12, i12, k12⟩, (fun_mk (st := s_Book_take_column) l12 c12 k12).binds (fun _ _ _ _ _ _ us hl => match us, hl with | [_, _], _ => rfl)⟩
  have d_law_less : Df K mg "_law_less" s_law_less ["members", "place"] := df_mk X G a13 l13 c13 k13 (fun _ _ _ _ _ _ us hl => match us, hl with | [_, _], _ => rfl)
  have d_law_column : Df K mg "_law_column" s_law_column ["book", "rows", "wide", "number", "put"] := df_mk X G a14 l14 c14 k14 (fun _ _ _ _ _ _ us hl => match us, hl with | [_, _, _, _, _], _ => rfl)
  have d_Book_ideas : DfM K C_Book "ideas" "Book.ideas" s_Book_ideas ["self"] := ⟨f15, _, fun_mk l15 c15 k15, ⟨a15, i15, k15⟩, (fun_mk (st := s_Book_ideas) l15 c15 k15).binds (fun _ _ _ _ _ _ us hl => match us, hl with | [_], _ => rfl)⟩
  have d_law_whole : Df K mg "_law_whole" s_law_whole ["found"] := df_mk X G a16 l16 c16 k16 (fun _ _ _ _ _ _ us hl => match us, hl with | [_], _ => rfl)
  have d_law_pair : Df K mg "_law_pair" s_law_pair ["found"] := df_mk X G a17 l17 c17 k17 (fun _ _ _ _ _ _ us hl => match us, hl with | [_], _ => rfl)
  have d_law_having : Df K mg "_law_having" s_law_having ["rows", "mask"] := df_mk X G a18 l18 c18 k18 (fun _ _ _ _ _ _ us hl => match us, hl with | [_, _], _ => rfl)
  have d_law_shared : Df K mg "_law_shared" s_law_shared ["rows", "wide", "group"] := df_mk X G a19 l19 c19 k19 (fun _ _ _ _ _ _ us hl => match us, hl with | [_, _, _], _ => rfl)
  have d_law_pairs : Df K mg "_law_pairs" s_law_pairs ["found", "rows", "wide"] := df_mk X G a20 l20 c20 k20 (fun _ _ _ _ _ _ us hl => match us, hl with | [_, _, _], _ => rfl)
  have d_law_all : Df K mg "_law_all" s_law_all ["found", "rows", "wide"] := df_mk X G a21 l21 c21 k21 (fun _ _ _ _ _ _ us hl => match us, hl with | [_, _, _], _ => rfl)
  have d_law_ideas : Df K mg "_law_ideas" s_law_ideas ["book", "rows", "wide"] := df_mk X G a22 l22 c22 k22 (fun _ _ _ _ _ _ us hl => match us, hl with | [_, _, _], _ => rfl)
  have d_Book_rows : DfM K C_Book "rows" "Book.rows" s_Book_rows ["self"] := ⟨f23, _, fun_mk l23 c23 k23, ⟨a23, i23, k23⟩, (fun_mk (st := s_Book_rows) l23 c23 k23).binds (fun _ _ _ _ _ _ us hl => match us, hl with | [_], _ => rfl)⟩
  have d_Book_width : DfM K C_Book "width" "Book.width" s_Book_width ["self"] := ⟨f24, _, fun_mk l24 c24 k24, ⟨a24, i24, k24⟩, (fun_mk (st := s_Book_width) l24 c24 k24).binds (fun _ _ _ _ _ _ us hl => match us, hl with | [_], _ => rfl)⟩
  have d_law_table : Df K mg "_law_table" s_law_table ["book", "rows", "wide"] := df_mk X G a25 l25 c25 k25 (fun _ _ _ _ _ _ us hl => match us, hl with | [_, _, _], _ => rfl)
  have d_law_right : Df K mg "_law_right" s_law_right ["book", "rows", "wide", "ahead"] := df_mk X G a26 l26 c26 k26 (fun _ _ _ _ _ _ us hl => match us, hl with | [_, _, _, _], _ => rfl)
  have d_closed : Df K mg "closed" s_closed ["rows", "width", "mask"] := df_mk X G a27 l27 c27 k27 (fun _ _ _ _ _ _ us hl => match us, hl with | [_, _, _], _ => rfl)
  have d_next_mask : Df K mg "next_mask" s_next_mask ["rows", "width", "mask"] := df_mk X G a28 l28 c28 k28 (fun _ _ _ _ _ _ us hl => match us, hl with | [_, _, _], _ => rfl)
  have d_ideas : Df K mg "ideas" s_ideas ["rows", "width"] := df_mk X G a29 l29 c29 k29 (fun _ _ _ _ _ _ us hl => match us, hl with | [_, _], _ => rfl)
  have d_law : Df K mg "law" s_law ["script"] := df_mk X G a30 l30 c30 k30 (fun _ _ _ _ _ _ us hl => match us, hl with | [_], _ => rfl)
  refine ⟨PySem.W.fnOf "law" "law" (defArgs s_law) (defBody s_law) (defScope s_law) .none kV30 dc30 pm30 an30 cd30 ct30, fun s v => .of_eq rfl, fun base _ _ => ?_⟩
  have h_law_cell_at : Has l.prog w K mg base 1 "_law_cell_at" ["script", "k"] sp_law_cell_at := ok_law_cell_at B d_law_cell_at
  have h_Book_init : HasNew l.prog w K mg base 1 "Book" C_Book ["self", "width"] [] (sp_Book_init C_Book) := ok_Book_init B d_Book_init c_Book
  have h_within : Has l.prog w K mg base 1 "within" ["small", "large"] sp_within := ok_within B d_within
  have h_having : Has l.prog w K mg base 2 "having" ["rows", "mask"] sp_having := ok_having B d_having h_within
  have h_Book_put_thing : HasMtM l.prog w K mg base 3 C_Book "put_thing" ["self", "row"] (sp_Book_put_thing C_Book) := ok_Book_put_thing B d_Book_put_thing c_Book h_having
  have h_less_member : Has l.prog w K mg base 1 "less_member" ["members", "place"] sp_less_member := ok_less_member B d_less_member
  have h_ones : Has l.prog w K mg base 1 "ones" ["mask"] sp_ones := ok_ones B d_ones
  have h_shared : Has l.prog w K mg base 2 "shared" ["rows", "width", "group"] sp_shared := ok_shared B d_shared h_ones
  have h_Book_take_thing : HasMtM l.prog w K mg base 3 C_Book "take_thing" ["self", "place"] (sp_Book_take_thing C_Book) := ok_Book_take_thing B d_Book_take_thing c_Book h_less_member h_shared
  have h_law_thing : HasM CX0 l.prog w K mg base 4 "_law_thing" ["book", "rows", "wide", "number", "put"] (sp_law_thing C_Book) := ok_law_thing B d_law_thing c_Book h_Book_put_thing h_Book_take_thing
  have h_mask_first : Has l.prog w K mg base 1 "mask_first" ["pair"] sp_mask_first := ok_mask_first B d_mask_first
  have h_Book_put_column : HasMtM l.prog w K mg base 3 C_Book "put_column" ["self", "group"] (sp_Book_put_column C_Book) := ok_Book_put_column B d_Book_put_column c_Book h_shared h_mask_first
  have h_Book_take_column : HasMtM l.prog w K mg base 3 C_Book "take_column" ["self", "place"] (sp_Book_take_column C_Book) := ok_Book_take_column B d_Book_take_column c_Book h_less_member h_having h_mask_first
  have h_law_less : Has l.prog w K mg base 1 "_law_less" ["members", "place"] sp_law_less := ok_law_less B d_law_less
  have h_law_column : HasM CX0 l.prog w K mg base 4 "_law_column" ["book", "rows", "wide", "number", "put"] (sp_law_column C_Book) := ok_law_column B d_law_column c_Book h_Book_put_column h_Book_take_column h_law_less
  have h_Book_ideas : HasMt l.prog w K mg base 1 C_Book "ideas" ["self"] (sp_Book_ideas C_Book) := ok_Book_ideas B d_Book_ideas c_Book
  have h_law_whole : Has l.prog w K mg base 1 "_law_whole" ["found"] sp_law_whole := ok_law_whole B d_law_whole
  have h_law_pair : Has l.prog w K mg base 2 "_law_pair" ["found"] sp_law_pair := ok_law_pair B d_law_pair h_law_whole
  have h_law_having : Has l.prog w K mg base 1 "_law_having" ["rows", "mask"] sp_law_having := ok_law_having B d_law_having
  have h_law_shared : Has l.prog w K mg base 1 "_law_shared" ["rows", "wide", "group"] sp_law_shared := ok_law_shared B d_law_shared
  have h_law_pairs : Has l.prog w K mg base 3 "_law_pairs" ["found", "rows", "wide"] sp_law_pairs := ok_law_pairs B d_law_pairs h_law_pair h_law_having h_law_shared
  have h_law_all : Has l.prog w K mg base 2 "_law_all" ["found", "rows", "wide"] sp_law_all := ok_law_all B d_law_all h_law_having h_law_shared
  have h_law_ideas : Has l.prog w K mg base 4 "_law_ideas" ["book", "rows", "wide"] (sp_law_ideas C_Book) := ok_law_ideas B d_law_ideas c_Book h_Book_ideas h_law_pairs h_law_all
  have h_Book_rows : HasMt l.prog w K mg base 1 C_Book "rows" ["self"] (sp_Book_rows C_Book) := ok_Book_rows B d_Book_rows c_Book
  have h_Book_width : HasMt l.prog w K mg base 1 C_Book "width" ["self"] (sp_Book_width C_Book) := ok_Book_width B d_Book_width c_Book
  have h_law_table : Has l.prog w K mg base 2 "_law_table" ["book", "rows", "wide"] (sp_law_table C_Book) := ok_law_table B d_law_table c_Book h_Book_rows h_Book_width h_law_whole
  have h_law_right : Has l.prog w K mg base 5 "_law_right" ["book", "rows", "wide", "ahead"] (sp_law_right C_Book) := ok_law_right B d_law_right h_law_ideas h_law_table
  have h_closed : Has l.prog w K mg base 3 "closed" ["rows", "width", "mask"] sp_closed := ok_closed B d_closed h_having h_shared
  have h_next_mask : Has l.prog w K mg base 4 "next_mask" ["rows", "width", "mask"] sp_next_mask := ok_next_mask B d_next_mask h_closed
  have h_ideas : Has l.prog w K mg base 5 "ideas" ["rows", "width"] sp_ideas := ok_ideas B d_ideas h_closed h_having h_next_mask
  exact (okf_law B (fun_mk (st := s_law) l30 c30 k30) c_Book h_law_cell_at h_Book_init h_law_thing h_law_column h_law_right h_Book_ideas h_Book_rows h_ideas).imp fun vs H Q E h => law_imp h
end Tq
open PySem PySem.W PyProof.Rows
set_option maxHeartbeats 0 in
theorem PySem.Challenge.cw_traitlattice_k28_whole_book_kept_holds : PySem.Challenge.rw_traitlattice_k28_whole_book_kept.Holds := by
  w_on; o_law; k_head; (case hw => w_witness2)
  k_fill
  refine L2.walk_of (l := PySem.Challenge.rw_traitlattice_k28_whole_book_kept) (n := 63) (k := 6) (x := "script") (CX := fun _ => L2.CX0) (sp := fun w => Tq.spL2 _) rfl (by decide) rfl ⟨rfl, by decide, by decide⟩ (fun w h Y => PySem.W.kIn_of Y) ?F (fun _ _ a ns hl _ hS => ⟨a, ns, rfl, hS, hl, fun _ => rfl⟩) (fun _ _ _ _ _ h => h)
  case F =>
    intro w mg fa h KX G hmg
    refine' Tq.all_mk KX G hmg ?aC_Book ?pg_Book ?hd_Book ?po_Book ?sa_Book ?mk_Book ?kc_Book ?nf_Book_wide ?nf_Book_told ?nf_Book_pairs ?a0 ?l0 ?c0 ?k0 ?a1 ?i1 ?l1 ?c1 ?k1 ?a2 ?l2 ?c2 ?k2 ?a3 ?l3 ?c3 ?k3 ?a4 ?i4 ?l4 ?c4 ?k4 ?a5 ?l5 ?c5 ?k5 ?a6 ?l6 ?c6 ?k6 ?a7 ?l7 ?c7 ?k7 ?a8 ?i8 ?l8 ?c8 ?k8 ?a9 ?l9 ?c9 ?k9 ?a10 ?l10 ?c10 ?k10 ?a11 ?i11 ?l11 ?c11 ?k11 ?a12 ?i12 ?l12 ?c12 ?k12 ?a13 ?l13 ?c13 ?k13 ?a14 ?l14 ?c14 ?k14 ?a15 ?i15 ?l15 ?c15 ?k15 ?a16 ?l16 ?c16 ?k16 ?a17 ?l17 ?c17 ?k17 ?a18 ?l18 ?c18 ?k18 ?a19 ?l19 ?c19 ?k19 ?a20 ?l20 ?c20 ?k20 ?a21 ?l21 ?c21 ?k21 ?a22 ?l22 ?c22 ?k22 ?a23 ?i23 ?l23 ?c23 ?k23 ?a24 ?i24 ?l24 ?c24 ?k24 ?a25 ?l25 ?c25 ?k25 ?a26 ?l26 ?c26 ?k26 ?a27 ?l27 ?c27 ?k27 ?a28 ?l28 ?c28 ?k28 ?a29 ?l29 ?c29 ?k29 ?a30 ?l30 ?c30 ?k30 ?z_bool ?z_divmod ?z_enumerate ?z_int ?z_isinstance ?z_len ?z_list ?z_range ?z_sorted ?z_tuple ?g_MOST_COLUMNS ?g_MOST_THINGS
    (case aC_Book => k_is); (case pg_Book => k_is); (case hd_Book => k_is); (case po_Book => k_is); (case sa_Book => k_is); (case mk_Book => k_is); (case kc_Book => k_is); (case nf_Book_wide => k_is); (case nf_Book_told => k_is); (case nf_Book_pairs => k_is); (case a0 => k_is); (case l0 => k_is); (case c0 => k_is); (case k0 => k_is); (case a1 => k_is); (case i1 => k_is); (case l1 => k_is); (case c1 => k_is); (case k1 => k_is); (case a2 => k_is); (case l2 => k_is); (case c2 => k_is); (case k2 => k_is); (case a3 => k_is); (case l3 => k_is); (case c3 => k_is); (case k3 => k_is); (case a4 => k_is); (case i4 => k_is); (case l4 => k_is); (case c4 => k_is); (case k4 => k_is); (case a5 => k_is); (case l5 => k_is); (case c5 => k_is); (case k5 => k_is); (case a6 => k_is); (case l6 => k_is); (case c6 => k_is); (case k6 => k_is); (case a7 => k_is); (case l7 => k_is); (case c7 => k_is); (case k7 => k_is); (case a8 => k_is); (case i8 => k_is); (case l8 => k_is); (case c8 => k_is); (case k8 => k_is); (case a9 => k_is); (case l9 => k_is); (case c9 => k_is); (case k9 => k_is); (case a10 => k_is); (case l10 => k_is); (case c10 => k_is); (case k10 => k_is); (case a11 => k_is); (case i11 => k_is); (case l11 => k_is); (case c11 => k_is); (case k11 => k_is); (case a12 => k_is); (case i12 => k_is); (case l12 => k_is); (case c12 => k_is); (case k12 => k_is); (case a13 => k_is); (case l13 => k_is); (case c13 => k_is); (case k13 => k_is); (case a14 => k_is); (case l14 => k_is); (case c14 => k_is); (case k14 => k_is); (case a15 => k_is); (case i15 => k_is); (case l15 => k_is); (case c15 => k_is); (case k15 => k_is); (case a16 => k_is); (case l16 => k_is); (case c16 => k_is); (case k16 => k_is); (case a17 => k_is); (case l17 => k_is); (case c17 => k_is); (case k17 => k_is); (case a18 => k_is); (case l18 => k_is); (case c18 => k_is); (case k18 => k_is); (case a19 => k_is); (case l19 => k_is); (case c19 => k_is); (case k19 => k_is); (case a20 => k_is); (case l20 => k_is); (case c20 => k_is); (case k20 => k_is); (case a21 => k_is); (case l21 => k_is); (case c21 => k_is); (case k21 => k_is); (case a22 => k_is); (case l22 => k_is); (case c22 => k_is); (case k22 => k_is); (case a23 => k_is); (case i23 => k_is); (case l23 => k_is); (case c23 => k_is); (case k23 => k_is); (case a24 => k_is); (case i24 => k_is); (case l24 => k_is); (case c24 => k_is); (case k24 => k_is); (case a25 => k_is); (case l25 => k_is); (case c25 => k_is); (case k25 => k_is); (case a26 => k_is); (case l26 => k_is); (case c26 => k_is); (case k26 => k_is); (case a27 => k_is); (case l27 => k_is); (case c27 => k_is); (case k27 => k_is); (case a28 => k_is); (case l28 => k_is); (case c28 => k_is); (case k28 => k_is); (case a29 => k_is); (case l29 => k_is); (case c29 => k_is); (case k29 => k_is); (case a30 => k_is); (case l30 => k_is); (case c30 => k_is); (case k30 => k_is); (case z_bool => k_is); (case z_divmod => k_is); (case z_enumerate => k_is); (case z_int => k_is); (case z_isinstance => k_is); (case z_len => k_is); (case z_list => k_is); (case z_range => k_is); (case z_sorted => k_is); (case z_tuple => k_is); (case g_MOST_COLUMNS => k_is); (case g_MOST_THINGS => k_is)
#print axioms PySem.Challenge.cw_traitlattice_k28_whole_book_kept_holds
