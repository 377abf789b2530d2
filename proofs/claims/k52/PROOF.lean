import PyProof.Rows.All
import HandS.ForMost
import HandS.ForExc
import HandS.Walk
import HandS.DictComp
import HandS.DeepEq
import HandS.Deep
import KE.KeyNested
import HandS.HeadHook1
import HandS.Defaults
import HandS.IsInst
import HandS.Wide
import HandS.Steps
import HandS.TupLen
import HandS.DictTup
import KE.SortData
import KE.DataCmp
import KE.KDictCopyH
import PyProof.ReprRoads
import HandS.Style
import HandS.Codes
import HandS.HeadEnd
import HandS.HeadHook2
import HandS.Head2
import PySem.Challenge.RW_waitlists_k52_closed_messages_and_opens
set_option linter.all false
/- text WlA -/
set_option Elab.async false
set_option maxRecDepth 100000
namespace Wl
open PySem PySem.Spec L2
open PyProof.Rows hiding St

abbrev D := PyData
abbrev Fp := Addr → Prop

/-! ### keys -/
def kD : Key → D
  | .inl i => .int i
  | .inr s => .str s
mutual
def nkey : D → Option NestedKey
  | .none => some .none
  | .int i => some (.num i)
  | .str x => some (.text x)
  | .tuple ds => (nkeys ds).map .tup
  | _ => none
def nkeys : List D → Option (List NestedKey)
  | [] => some []
  | d :: ds => (nkey d).bind fun k => (nkeys ds).map fun ks => k :: ks
end

/-- a dict whose keys are tuples: its own object -/
def nPhi (P : Program) (w : World) (a : Addr) (xs : List (NestedKey × Addr × Value)) : Heap → Prop := fun h =>
  (a == sysModules) = false ∧ xs.length ≤ sizeLine ∧ ∃ o es ep, h.get? a = some o ∧ o.ExactDict ∧ o.data = .dict es ep ∧
    es.toList = xs.map (entryOfKey (nestedKind P w)) ∧ (xs.map (·.1)).Nodup

/-! ### what a value is, as data -/
mutual
inductive Rp (P : Program) (w : World) (K : PySem.W.Frag) (H : Hp) : V → D → Prop
  | non : Rp P w K H .non .none
  | bl (b : Bool) : Rp P w K H (.bl b) (.bool b)
  | int (i : Int) : Rp P w K H (.int i) (.int i)
  | str (x : Str) : Rp P w K H (.str x) (.str x)
  | lst {a : Addr} {xs : List V} {ds : List D} : SqL K H a xs → RpL P w K H xs ds → Rp P w K H (.ref a) (.list ds)
  | tup {a : Addr} {xs : List V} {ds : List D} : SqT K H a xs → RpL P w K H xs ds → Rp P w K H (.ref a) (.tuple ds)
  | dk {a : Addr} {ks : List (Key × V)} {kvs : List (D × D)} : Rd H a (.dK ks) → RpK P w K H ks kvs → Rp P w K H (.ref a) (.dict kvs)
  | dn {a : Addr} {xs : List (NestedKey × Addr × Value)} {kvs : List (D × D)} : Rd H a (.ext (nPhi P w a xs)) → RpN P w K H xs kvs → Rp P w K H (.ref a) (.dict kvs)
inductive RpL (P : Program) (w : World) (K : PySem.W.Frag) (H : Hp) : List V → List D → Prop
  | nil : RpL P w K H [] []
  | cons {v : V} {vs : List V} {d : D} {ds : List D} : Rp P w K H v d → RpL P w K H vs ds → RpL P w K H (v :: vs) (d :: ds)
inductive RpK (P : Program) (w : World) (K : PySem.W.Frag) (H : Hp) : List (Key × V) → List (D × D) → Prop
  | nil : RpK P w K H [] []
  | cons {k : Key} {v : V} {r : List (Key × V)} {d : D} {ds : List (D × D)} : Rp P w K H v d → RpK P w K H r ds → RpK P w K H ((k, v) :: r) ((kD k, d) :: ds)
inductive RpN (P : Program) (w : World) (K : PySem.W.Frag) (H : Hp) : List (NestedKey × Addr × Value) → List (D × D) → Prop
  | nil : RpN P w K H [] []
  | cons {k : NestedKey} {q : Addr} {v : V} {u : Value} {r : List (NestedKey × Addr × Value)} {kd d : D} {ds : List (D × D)} :
      nkey kd = some k → k.depth ≤ 8 → Rp P w K H (.ref q) kd → RelV v u → Rp P w K H v d → RpN P w K H r ds → RpN P w K H ((k, q, u) :: r) ((kd, d) :: ds)
end

section
variable {P : Program} {w : World} {K : PySem.W.Frag} {H H' : Hp}

/-- more may be read -/
def Rdd (H H' : Hp) : Prop := ∀ a u, Rd H a u → Rd H' a u
theorem Rdd.of (e : Same H H') : Rdd H H' := fun a u r => by
  rcases r with r | ⟨o, r⟩
  · exact .inl (e _ _ r)
  · exact .inr ⟨o, e _ _ r⟩
theorem Rdd.refl (H : Hp) : Rdd H H := fun _ _ r => r
theorem Rdd.trans {H1 H2 H3 : Hp} (a : Rdd H1 H2) (b : Rdd H2 H3) : Rdd H1 H3 := fun x u r => b x u (a x u r)
theorem sqL_mono {a : Addr} {xs : List V} (e : Rdd H H') (h : SqL K H a xs) : SqL K H' a xs := h.imp (e _ _) id
theorem sqT_mono {a : Addr} {xs : List V} (e : Rdd H H') (h : SqT K H a xs) : SqT K H' a xs := h.imp (e _ _) id
mutual
theorem Rp.mono (e : Rdd H H') : ∀ {v : V} {d : D}, Rp P w K H v d → Rp P w K H' v d
  | _, _, .non => .non
  | _, _, .bl b => .bl b
  | _, _, .int i => .int i
  | _, _, .str x => .str x
  | _, _, .lst h r => .lst (sqL_mono e h) (RpL.mono e r)
  | _, _, .tup h r => .tup (sqT_mono e h) (RpL.mono e r)
  | _, _, .dk h r => .dk (e _ _ h) (RpK.mono e r)
  | _, _, .dn h r => .dn (e _ _ h) (RpN.mono e r)
theorem RpL.mono (e : Rdd H H') : ∀ {vs : List V} {ds : List D}, RpL P w K H vs ds → RpL P w K H' vs ds
  | _, _, .nil => .nil
  | _, _, .cons h r => .cons (Rp.mono e h) (RpL.mono e r)
theorem RpK.mono (e : Rdd H H') : ∀ {vs : List (Key × V)} {ds : List (D × D)}, RpK P w K H vs ds → RpK P w K H' vs ds
  | _, _, .nil => .nil
  | _, _, .cons h r => .cons (Rp.mono e h) (RpK.mono e r)
theorem RpN.mono (e : Rdd H H') : ∀ {vs : List (NestedKey × Addr × Value)} {ds : List (D × D)}, RpN P w K H vs ds → RpN P w K H' vs ds
  | _, _, .nil => .nil
  | _, _, .cons k kd a b h r => .cons k kd (Rp.mono e a) b (Rp.mono e h) (RpN.mono e r)
end
theorem Rp.same {v : V} {d : D} (e : Same H H') (h : Rp P w K H v d) : Rp P w K H' v d := h.mono (.of e)
theorem RpL.same {v : List V} {d : List D} (e : Same H H') (h : RpL P w K H v d) : RpL P w K H' v d := h.mono (.of e)
theorem RpK.same {v : List (Key × V)} {d : List (D × D)} (e : Same H H') (h : RpK P w K H v d) : RpK P w K H' v d := h.mono (.of e)
theorem RpN.same {v : List (NestedKey × Addr × Value)} {d : List (D × D)} (e : Same H H') (h : RpN P w K H v d) : RpN P w K H' v d := h.mono (.of e)

theorem RpL.length : ∀ {vs : List V} {ds : List D}, RpL P w K H vs ds → vs.length = ds.length
  | _, _, .nil => rfl
  | _, _, .cons _ r => by simp [RpL.length r]
theorem RpL.append : ∀ {vs us : List V} {ds es : List D}, RpL P w K H vs ds → RpL P w K H us es → RpL P w K H (vs ++ us) (ds ++ es)
  | _, _, _, _, .nil, s => s
  | _, _, _, _, .cons h r, s => .cons h (RpL.append r s)
theorem RpL.snoc {vs : List V} {v : V} {ds : List D} {d : D} (h : RpL P w K H vs ds) (h' : Rp P w K H v d) : RpL P w K H (vs ++ [v]) (ds ++ [d]) := h.append (.cons h' .nil)
theorem RpL.get : ∀ {vs : List V} {ds : List D} {i : Nat} {d : D}, RpL P w K H vs ds → ds[i]? = some d → ∃ v, vs[i]? = some v ∧ Rp P w K H v d
  | _, _, _, _, .nil, e => by simp at e
  | _, _, 0, _, .cons h _, e => by simp at e; subst e; exact ⟨_, rfl, h⟩
  | _, _, i + 1, d, .cons _ r, e => by
    obtain ⟨u, h1, h2⟩ := RpL.get (i := i) (d := d) r (by simpa using e)
    exact ⟨u, by simpa using h1, h2⟩
theorem RpL.getV : ∀ {vs : List V} {ds : List D} {i : Nat} {v : V}, RpL P w K H vs ds → vs[i]? = some v → ∃ d, ds[i]? = some d ∧ Rp P w K H v d
  | _, _, _, _, .nil, e => by simp at e
  | _, _, 0, _, .cons h _, e => by simp at e; subst e; exact ⟨_, rfl, h⟩
  | _, _, i + 1, d, .cons _ r, e => by
    obtain ⟨u, h1, h2⟩ := RpL.getV (i := i) (v := d) r (by simpa using e)
    exact ⟨u, by simpa using h1, h2⟩
theorem RpL.take : ∀ {vs : List V} {ds : List D} (n : Nat), RpL P w K H vs ds → RpL P w K H (vs.take n) (ds.take n)
  | _, _, 0, _ => .nil
  | _, _, _ + 1, .nil => .nil
  | _, _, n + 1, .cons h r => .cons h (RpL.take n r)
theorem RpL.drop : ∀ {vs : List V} {ds : List D} (n : Nat), RpL P w K H vs ds → RpL P w K H (vs.drop n) (ds.drop n)
  | _, _, 0, r => r
  | _, _, _ + 1, .nil => .nil
  | _, _, n + 1, .cons _ r => RpL.drop n r
theorem RpL.set {v : V} {d : D} (h : Rp P w K H v d) : ∀ {vs : List V} {ds : List D} (n : Nat), RpL P w K H vs ds → RpL P w K H (vs.set n v) (ds.set n d)
  | _, _, _, .nil => .nil
  | _, _, 0, .cons _ r => .cons h r
  | _, _, n + 1, .cons q r => .cons q (RpL.set h n r)
end

/-- what is shared stays, or is locked for good -/
def Up (H H' : Hp) : Prop := ∀ a o, H a = some o → H' a = some o ∨ (Mut (some o) ∧ ∃ ob, H' a = some (.frz ob o))
theorem Up.of {H H' : Hp} (e : Same H H') : Up H H' := fun a o h => .inl (e a o h)
theorem Up.refl (H : Hp) : Up H H := .of (Same.refl H)
theorem Up.trans {H1 H2 H3 : Hp} (a : Up H1 H2) (b : Up H2 H3) : Up H1 H3 := fun x o h => by
  rcases a x o h with h | ⟨m, ob, h⟩
  · exact b x o h
  · rcases b x _ h with h' | ⟨m', _, _⟩
    · exact .inr ⟨m, ob, h'⟩
    · exact m'.elim
theorem Up.rdd {H H' : Hp} (e : Up H H') : Rdd H H' := fun a u r => by
  rcases r with r | ⟨o, r⟩
  · rcases e a u r with h | ⟨_, ob, h⟩
    · exact .inl h
    · exact .inr ⟨ob, h⟩
  · rcases e a _ r with h | ⟨m, _, _⟩
    · exact .inr ⟨o, h⟩
    · exact m.elim
theorem Up.some {H H' : Hp} (e : Up H H') {a : Addr} {o : HO} (h : H a = some o) : ∃ u, H' a = some u := by
  rcases e a o h with h | ⟨_, ob, h⟩ <;> exact ⟨_, h⟩
theorem Rp.up {P : Program} {w : World} {K : PySem.W.Frag} {H H' : Hp} {v : V} {d : D} (e : Up H H') (h : Rp P w K H v d) : Rp P w K H' v d := h.mono e.rdd
theorem RpL.up {P : Program} {w : World} {K : PySem.W.Frag} {H H' : Hp} {v : List V} {d : List D} (e : Up H H') (h : RpL P w K H v d) : RpL P w K H' v d := h.mono e.rdd
theorem RpK.up {P : Program} {w : World} {K : PySem.W.Frag} {H H' : Hp} {v : List (Key × V)} {d : List (D × D)} (e : Up H H') (h : RpK P w K H v d) : RpK P w K H' v d := h.mono e.rdd
theorem RpN.up {P : Program} {w : World} {K : PySem.W.Frag} {H H' : Hp} {v : List (NestedKey × Addr × Value)} {d : List (D × D)} (e : Up H H') (h : RpN P w K H v d) : RpN P w K H' v d := h.mono e.rdd

/-! ### owned things -/
structure ObSem where
  holds : PySem.W.Frag → Hp → Hp → V → D → Fp → Prop
  grow : ∀ {K : PySem.W.Frag} {H Hm H' Hm' : Hp} {v : V} {d : D} {F : Fp}, holds K H Hm v d F → Up Hm Hm' → (∀ p o, F p → H p = some o → H' p = some o) → (∀ p, F p → Hm' p = none) → holds K H' Hm' v d F
  own : ∀ {K : PySem.W.Frag} {H Hm : Hp} {v : V} {d : D} {F : Fp}, holds K H Hm v d F → ∀ p, F p → (∃ o, H p = some o) ∧ Hm p = none

/-- what a slot or a result holds: shared data; an owned list; an owned dict (nk: its keys are tuples); an owned thing of kind τ -/
inductive O where
  | sh (d : D)
  | ol (ds : List D)
  | od (nk : Bool) (kvs : List (D × D))
  | ob (τ : Nat) (d : D)

structure Gl0 where
  P : Program
  w : World
  K : PySem.W.Frag
  Θ : Nat → ObSem

def one (a : Addr) : Fp := fun p => p = a
def noF : Fp := fun _ => False
def orF (F G : Fp) : Fp := fun p => F p ∨ G p

def DcAt (P : Program) (w : World) (K : PySem.W.Frag) (H Hm : Hp) (p : Addr) : Bool → List (D × D) → Prop
  | false, kvs => ∃ ks, H p = some (.dK ks) ∧ RpK P w K Hm ks kvs
  | true, kvs => ∃ xs, H p = some (.ext (nPhi P w p xs)) ∧ RpN P w K Hm xs kvs

def OOk (P : Program) (w : World) (K : PySem.W.Frag) (Θ : Nat → ObSem) (H Hm : Hp) (v : V) : O → Fp → Prop
  | .sh d, F => Rp P w K Hm v d ∧ F = noF
  | .ol ds, F => ∃ p xs, v = .ref p ∧ H p = some (.lst xs) ∧ Hm p = none ∧ RpL P w K Hm xs ds ∧ F = one p
  | .od nk kvs, F => ∃ p, v = .ref p ∧ DcAt P w K H Hm p nk kvs ∧ Hm p = none ∧ F = one p
  | .ob τ d, F => (Θ τ).holds K H Hm v d F

section
variable {P : Program} {w : World} {K : PySem.W.Frag} {Θ : Nat → ObSem} {H Hm H' Hm' : Hp} {v : V} {o : O} {F F' G : Fp}
theorem OOk.own (h : OOk P w K Θ H Hm v o F) : ∀ p, F p → (∃ u, H p = some u) ∧ Hm p = none := by
  intro p hp
  cases o with
  | sh d => obtain ⟨_, e⟩ := h; subst e; exact hp.elim
  | ol ds => obtain ⟨q, xs, _, h1, h2, _, e⟩ := h; subst e; cases (show p = q from hp); exact ⟨⟨_, h1⟩, h2⟩
  | od nk kvs =>
    obtain ⟨q, _, h1, h2, e⟩ := h; subst e; cases (show p = q from hp)
    refine ⟨?_, h2⟩
    cases nk with
    | false => obtain ⟨ks, h3, _⟩ := h1; exact ⟨_, h3⟩
    | true => obtain ⟨ks, h3, _⟩ := h1; exact ⟨_, h3⟩
  | ob τ d => exact (Θ τ).own h p hp
theorem OOk.move (h : OOk P w K Θ H Hm v o F) (e : Up Hm Hm') (k : ∀ p u, F p → H p = some u → H' p = some u) (n : ∀ p, F p → Hm' p = none) : OOk P w K Θ H' Hm' v o F := by
  cases o with
  | sh d => exact ⟨h.1.up e, h.2⟩
  | ol ds =>
    obtain ⟨q, xs, e0, h1, h2, h3, e1⟩ := h; subst e1
    exact ⟨q, xs, e0, k _ _ rfl h1, n _ rfl, h3.up e, rfl⟩
  | od nk kvs =>
    obtain ⟨q, e0, h1, h2, e1⟩ := h; subst e1
    refine ⟨q, e0, ?_, n _ rfl, rfl⟩
    cases nk with
    | false => obtain ⟨ks, h3, h4⟩ := h1; exact ⟨_, k _ _ rfl h3, h4.up e⟩
    | true => obtain ⟨ks, h3, h4⟩ := h1; exact ⟨_, k _ _ rfl h3, h4.up e⟩
  | ob τ d => exact (Θ τ).grow h e k n
end

/-! ### the state -/
abbrev Env := List (Option O)
def Slot (P : Program) (w : World) (K : PySem.W.Frag) (Θ : Nat → ObSem) (H Hm : Hp) (v : Option V) : Option O → Fp → Prop
  | none, F => F = noF
  | some o, F => ∃ u, v = some u ∧ OOk P w K Θ H Hm u o F

structure Ok (P : Program) (w : World) (K : PySem.W.Frag) (Θ : Nat → ObSem) (σ : L2.St) (H Hm : Hp) (ρ : Env) (fp : Nat → Fp) : Prop where
  len : σ.length = ρ.length
  sub : Same Hm H
  slot : ∀ i v o, σ[i]? = some v → ρ[i]? = some o → Slot P w K Θ H Hm v o (fp i)
  out : ∀ i, ρ.length ≤ i → fp i = noF
  apart : ∀ i j p, fp i p → fp j p → i = j

def all (fp : Nat → Fp) : Fp := fun p => ∃ i, fp i p

/-- what was foreign is so, and as it was; what was shared is -/
structure Grow (H Hm : Hp) (F : Fp) (H' Hm' : Hp) (F' : Fp) : Prop where
  sh : Up Hm Hm'
  far : ∀ p u, H p = some u → Hm p = none → ¬ F p → H' p = some u ∧ Hm' p = none ∧ ¬ F' p

section
variable {P : Program} {w : World} {K : PySem.W.Frag} {Θ : Nat → ObSem} {H Hm H' Hm' H1 Hm1 H2 Hm2 : Hp} {v : V} {o : O} {F F' F1 F2 G : Fp} {σ : L2.St} {ρ : Env} {fp : Nat → Fp}
theorem Grow.refl : Grow H Hm F H Hm F := ⟨Up.refl _, fun _ _ h1 h2 h3 => ⟨h1, h2, h3⟩⟩
theorem Grow.trans (a : Grow H Hm F H1 Hm1 F1) (b : Grow H1 Hm1 F1 H2 Hm2 F2) : Grow H Hm F H2 Hm2 F2 :=
  ⟨a.sh.trans b.sh, fun p u h1 h2 h3 => let ⟨k1, k2, k3⟩ := a.far p u h1 h2 h3; b.far p u k1 k2 k3⟩
/-- an owned temporary outlives what runs beside it -/
theorem OOk.beside (h : OOk P w K Θ H Hm v o G) (d : ∀ p, G p → ¬ F p) (g : Grow H Hm F H' Hm' F') : OOk P w K Θ H' Hm' v o G ∧ ∀ p, G p → ¬ F' p := by
  have q := fun p (hp : G p) => let ⟨⟨u, hu⟩, hn⟩ := h.own p hp; (⟨u, hu, g.far p u hu hn (d p hp)⟩ : ∃ u, H p = some u ∧ H' p = some u ∧ Hm' p = none ∧ ¬ F' p)
  refine ⟨h.move g.sh (fun p u hp hu => ?_) (fun p hp => ?_), fun p hp => ?_⟩
  · obtain ⟨u', e, k, _⟩ := q p hp
    rw [hu] at e; cases e; exact k
  · obtain ⟨_, _, _, k, _⟩ := q p hp; exact k
  · obtain ⟨_, _, _, _, k⟩ := q p hp; exact k
theorem Ok.at (h : Ok P w K Θ σ H Hm ρ fp) {i : Nat} (e : ρ[i]? = some (some o)) : ∃ u, σ[i]? = some (some u) ∧ OOk P w K Θ H Hm u o (fp i) := by
  have hi : i < ρ.length := (List.getElem?_eq_some_iff.mp e).1
  have hs : i < σ.length := by rw [h.len]; exact hi
  obtain ⟨u, e1, q⟩ := h.slot i σ[i] (some o) (List.getElem?_eq_getElem hs) e
  exact ⟨u, by rw [List.getElem?_eq_getElem hs, e1], q⟩
theorem Ok.fpNone (h : Ok P w K Θ σ H Hm ρ fp) : ∀ p, all fp p → Hm p = none ∧ ∃ u, H p = some u := by
  rintro p ⟨i, hp⟩
  by_cases hi : i < ρ.length
  · have hs : i < σ.length := by rw [h.len]; exact hi
    have q := h.slot i σ[i] ρ[i] (List.getElem?_eq_getElem hs) (List.getElem?_eq_getElem hi)
    cases e : ρ[i] with
    | none => rw [e] at q; rw [show fp i = noF from q] at hp; exact hp.elim
    | some o =>
      rw [e] at q
      obtain ⟨u, _, q⟩ := q
      exact ⟨(q.own p hp).2, (q.own p hp).1⟩
  · rw [h.out i (by omega)] at hp; exact hp.elim
/-- the state over grown heaps: the slots' own things are as they were -/
theorem Ok.move (h : Ok P w K Θ σ H Hm ρ fp) (e : Up Hm Hm') (s : Same Hm' H') (k : ∀ p u, all fp p → H p = some u → H' p = some u) (n : ∀ p, all fp p → Hm' p = none) : Ok P w K Θ σ H' Hm' ρ fp := by
  refine ⟨h.len, s, fun i v o h1 h2 => ?_, h.out, h.apart⟩
  have q := h.slot i v o h1 h2
  cases o with
  | none => exact q
  | some o =>
    obtain ⟨u, e1, q⟩ := q
    exact ⟨u, e1, q.move e (fun p u hp => k p u ⟨i, hp⟩) fun p hp => n p ⟨i, hp⟩⟩
end
end Wl

/- text WlB -/
set_option Elab.async false
set_option maxRecDepth 100000
namespace Wl
open PySem PySem.Spec L2
open PyProof.Rows hiding St

/-! ### results -/
inductive R where
  | v (o : O)
  | pl (i : Nat)
structure Ex where
  name : Str
  fs : List (Str × D)
abbrev Res (α : Type) := Except (Ex × Env) (α × Env)
abbrev M (α : Type) := Env → Option (Res α)

@[reducible] def mpure {α : Type} (a : α) : M α := fun ρ => some (.ok (a, ρ))
def mbind {α β : Type} (f : M α) (g : α → M β) : M β := fun ρ => match f ρ with
  | some (.ok (a, ρ1)) => g a ρ1
  | some (.error e) => some (.error e)
  | none => none
/-- a step that changes nothing but may be stuck -/
def mopt {α : Type} (o : Option α) : M α := fun ρ => match o with
  | some a => some (.ok (a, ρ))
  | none => none
theorem mbind_ok {α β : Type} {f : M α} {g : α → M β} {ρ ρ1 : Env} {a : α} (h : f ρ = some (.ok (a, ρ1))) : mbind f g ρ = g a ρ1 := by simp only [mbind, h]
theorem mbind_er {α β : Type} {f : M α} {g : α → M β} {ρ : Env} {e : Ex × Env} (h : f ρ = some (.error e)) : mbind f g ρ = some (.error e) := by simp only [mbind, h]

section
variable (P : Program) (w : World) (K : PySem.W.Frag) (Θ : Nat → ObSem)
def ROk (σ : L2.St) (ρ : Env) (H Hm : Hp) (v : V) : R → Fp → Prop
  | .v o, F => OOk P w K Θ H Hm v o F
  | .pl i, F => σ[i]? = some (some v) ∧ (∃ o, ρ[i]? = some (some o)) ∧ F = noF
def RLOk (σ : L2.St) (ρ : Env) (H Hm : Hp) : List V → List R → Fp → Prop
  | [], [], F => F = noF
  | v :: vs, r :: rs, F => ∃ F1 F2, ROk P w K Θ σ ρ H Hm v r F1 ∧ RLOk σ ρ H Hm vs rs F2 ∧ (∀ p, F1 p → ¬ F2 p) ∧ F = orF F1 F2
  | _, _, _ => False
def XFs (H Hm : Hp) (d : Option Addr) : List (Str × D) → Prop
  | [] => d = none
  | [(f, x)] => ∃ a v, d = some a ∧ H a = some (.xd [(f, v)]) ∧ Rp P w K Hm v x
  | _ => False
def XOk (H Hm : Hp) (cls : Value) (d : Option Addr) (e : Ex) : Prop := cls = .ref (He.ga K e.name) ∧ XFs P w K H Hm d e.fs

/-- what must be shown of a result -/
def Post {α β : Type} (rel : L2.St → Env → Hp → Hp → β → α → Fp → Prop) (W : WX) (σ : L2.St) (H Hm : Hp) (F : Fp) (Q : β → Hp → Prop) : Res α → Prop
  | .ok (a, ρ') => ∀ b H' Hm' fp' Fo, Ok P w K Θ σ H' Hm' ρ' fp' → rel σ ρ' H' Hm' b a Fo → (∀ p, Fo p → ¬ all fp' p) → Grow H Hm F H' Hm' (orF (all fp') Fo) → Q b H'
  | .error (e, ρ') => ∀ cls d H' Hm' fp', Ok P w K Θ σ H' Hm' ρ' fp' → XOk P w K H' Hm' cls d e → Grow H Hm F H' Hm' (all fp') → W cls d σ H'
def Snd {α β : Type} (rel : L2.St → Env → Hp → Hp → β → α → Fp → Prop) (W : WX) (t : L2.St → Hp → (β → Hp → Prop) → Prop) (f : M α) : Prop :=
  ∀ σ H Hm ρ fp, Ok P w K Θ σ H Hm ρ fp → ∀ res, f ρ = some res → ∀ Q, Post P w K Θ rel W σ H Hm (all fp) Q res → t σ H Q
def relE : L2.St → Env → Hp → Hp → V → R → Fp → Prop := fun σ ρ H Hm v r F => ROk P w K Θ σ ρ H Hm v r F
def relT : L2.St → Env → Hp → Hp → Bool → Bool → Fp → Prop := fun _ _ _ _ b c F => b = c ∧ F = noF
def relA : L2.St → Env → Hp → Hp → List V → List R → Fp → Prop := fun σ ρ H Hm v r F => RLOk P w K Θ σ ρ H Hm v r F
abbrev SndE (W : WX) (t : TE) (f : M R) : Prop := Snd P w K Θ (relE P w K Θ) W t f
abbrev SndT (W : WX) (t : TT) (f : M Bool) : Prop := Snd P w K Θ relT W t f
abbrev SndA (W : WX) (t : TA) (f : M (List R)) : Prop := Snd P w K Θ (relA P w K Θ) W t f
end

section
variable {P : Program} {w : World} {K : PySem.W.Frag} {Θ : Nat → ObSem} {H Hm H' Hm' H1 Hm1 H2 Hm2 : Hp} {v : V} {o : O} {F F' F1 F2 A B G : Fp} {σ : L2.St} {ρ ρ' : Env} {fp fp1 fp2 : Nat → Fp}
theorem Grow.to (g : Grow H Hm F H1 Hm1 F1) (h : ∀ p, F2 p → F1 p) : Grow H Hm F H1 Hm1 F2 := ⟨g.sh, fun p u a b c => let ⟨x, y, z⟩ := g.far p u a b c; ⟨x, y, fun q => z (h p q)⟩⟩
theorem Grow.seq (a : Grow H Hm F H1 Hm1 (orF A G)) (b : Grow H1 Hm1 A H2 Hm2 B) : Grow H Hm F H2 Hm2 (orF B G) :=
  ⟨a.sh.trans b.sh, fun p u h1 h2 h3 => by
    obtain ⟨k1, k2, k3⟩ := a.far p u h1 h2 h3
    obtain ⟨l1, l2, l3⟩ := b.far p u k1 k2 fun q => k3 (.inl q)
    exact ⟨l1, l2, fun q => q.elim l3 fun q => k3 (.inr q)⟩⟩
theorem Grow.seq0 (a : Grow H Hm F H1 Hm1 (orF A G)) (b : Grow H1 Hm1 A H2 Hm2 B) : Grow H Hm F H2 Hm2 B := (a.seq b).to fun _ q => .inl q
theorem orF_noF : orF A noF = A := by funext p; simp [orF, noF]
/-- does a place still hold something -/
def still (r : R) (ρ : Env) : Bool := match r with
  | .v _ => true
  | .pl i => match ρ[i]? with
    | some (some _) => true
    | _ => false
def stills (rs : List R) (ρ : Env) : Bool := rs.all fun r => still r ρ
theorem ROk.beside {r : R} (h : ROk P w K Θ σ ρ H Hm v r G) (d : ∀ p, G p → ¬ F p) (g : Grow H Hm F H' Hm' F') (s : still r ρ' = true) : ROk P w K Θ σ ρ' H' Hm' v r G ∧ ∀ p, G p → ¬ F' p := by
  cases r with
  | v o => exact OOk.beside h d g
  | pl i =>
    obtain ⟨h1, _, h3⟩ := h
    refine ⟨⟨h1, ?_, h3⟩, fun p hp => by subst h3; exact hp.elim⟩
    have s' : (match ρ'[i]? with | some (some _) => true | _ => false) = true := s
    split at s'
    · rename_i o e; exact ⟨o, e⟩
    · cases s'
theorem RLOk.beside : ∀ {vs : List V} {rs : List R} {G : Fp}, RLOk P w K Θ σ ρ H Hm vs rs G → (∀ p, G p → ¬ F p) → Grow H Hm F H' Hm' F' → stills rs ρ' = true → RLOk P w K Θ σ ρ' H' Hm' vs rs G ∧ ∀ p, G p → ¬ F' p
  | [], [], _, h, _, _, _ => ⟨h, fun p hp => by rw [show _ = noF from h] at hp; exact hp.elim⟩
  | v :: vs, r :: rs, G, ⟨F1, F2, h1, h2, h3, e⟩, d, g, s => by
    subst e
    have s' : (still r ρ' && stills rs ρ') = true := s
    rw [Bool.and_eq_true] at s'
    obtain ⟨a, b⟩ := h1.beside (fun p hp => d p (.inl hp)) g s'.1
    obtain ⟨a', b'⟩ := RLOk.beside h2 (fun p hp => d p (.inr hp)) g s'.2
    exact ⟨⟨F1, F2, a, a', h3, rfl⟩, fun p hp => hp.elim (b p) (b' p)⟩
  | [], _ :: _, _, h, _, _, _ => h.elim
  | _ :: _, [], _, h, _, _, _ => h.elim

/-! ### a result's thing -/
def der (r : R) (ρ : Env) : Option O := match r with
  | .v o => some o
  | .pl i => match ρ[i]? with
    | some (some o) => some o
    | _ => none
def OOks (P : Program) (w : World) (K : PySem.W.Frag) (Θ : Nat → ObSem) (H Hm : Hp) : List V → List O → Prop
  | [], [] => True
  | v :: vs, o :: os => (∃ F, OOk P w K Θ H Hm v o F) ∧ OOks P w K Θ H Hm vs os
  | _, _ => False
theorem ROk.der {r : R} (ok : Ok P w K Θ σ H Hm ρ fp) (h : ROk P w K Θ σ ρ H Hm v r F) (e : der r ρ = some o) : ∃ F', OOk P w K Θ H Hm v o F' := by
  cases r with
  | v o' => cases e; exact ⟨F, h⟩
  | pl i =>
    unfold Wl.der at e
    simp only at e
    split at e
    · rename_i o' eo
      cases e
      obtain ⟨u, e1, q⟩ := ok.at eo
      rw [h.1] at e1
      cases e1
      exact ⟨_, q⟩
    · cases e
def ders (rs : List R) (ρ : Env) : Option (List O) := match rs with
  | [] => some []
  | r :: rs => match der r ρ, ders rs ρ with
    | some o, some os => some (o :: os)
    | _, _ => none
theorem RLOk.ders (ok : Ok P w K Θ σ H Hm ρ fp) : ∀ {vs : List V} {rs : List R} {F : Fp} {os : List O}, RLOk P w K Θ σ ρ H Hm vs rs F → ders rs ρ = some os → OOks P w K Θ H Hm vs os
  | [], [], _, os, _, e => by cases e; trivial
  | v :: vs, r :: rs, _, os, ⟨F1, F2, h1, h2, _, _⟩, e => by
    unfold Wl.ders at e
    split at e
    · rename_i o' os' e1 e2
      cases e
      exact ⟨h1.der ok e1, RLOk.ders ok h2 e2⟩
    · cases e
  | [], _ :: _, _, _, h, _ => h.elim
  | _ :: _, [], _, _, h, _ => h.elim

/-! ### sharing what is owned -/
def asD : O → Option D
  | .sh d => some d
  | .ol ds => some (.list ds)
  | .od _ kvs => some (.dict kvs)
  | .ob _ _ => none
theorem same_upd {H : Hp} {p : Addr} {o : HO} (h : H p = none) : Same H (upd H p o) := fun a u e => by
  rw [upd_ne (ne_of_none e h)]; exact e
/-- a thing's own part is handed to what is shared -/
theorem OOk.share {d : D} (h : OOk P w K Θ H Hm v o F) (s : Same Hm H) (e : asD o = some d) :
    ∃ Hm', Rp P w K Hm' v d ∧ Same Hm Hm' ∧ Same Hm' H ∧ ∀ p, ¬ F p → Hm' p = Hm p := by
  cases o with
  | sh d' => cases e; exact ⟨Hm, h.1, Same.refl _, s, fun _ _ => rfl⟩
  | ol ds =>
    cases e
    obtain ⟨p, xs, rfl, h1, h2, h3, e1⟩ := h
    have hs := same_upd (o := .lst xs) h2
    refine ⟨upd Hm p (.lst xs), .lst (SqL.of upd_same) (h3.same hs), hs, fun a u q => ?_, fun q hq => ?_⟩
    · by_cases ha : a = p
      · subst ha; rw [upd_same] at q; cases q; exact h1
      · rw [upd_ne ha] at q; exact s _ _ q
    · subst e1; exact upd_ne hq
  | od nk kvs =>
    cases e
    obtain ⟨p, rfl, h1, h2, e1⟩ := h
    have fin : ∀ u : HO, H p = some u → Same (upd Hm p u) H := fun u hu a u' q => by
      by_cases ha : a = p
      · subst ha; rw [upd_same] at q; cases q; exact hu
      · rw [upd_ne ha] at q; exact s _ _ q
    cases nk with
    | false =>
      obtain ⟨ks, h3, h4⟩ := h1
      have hs := same_upd (o := .dK ks) h2
      exact ⟨upd Hm p (.dK ks), .dk (.inl upd_same) (h4.same hs), hs, fin _ h3, fun q hq => by subst e1; exact upd_ne hq⟩
    | true =>
      obtain ⟨xs, h3, h4⟩ := h1
      have hs := same_upd (o := .ext (nPhi P w p xs)) h2
      exact ⟨upd Hm p (.ext (nPhi P w p xs)), .dn (.inl upd_same) (h4.same hs), hs, fin _ h3, fun q hq => by subst e1; exact upd_ne hq⟩
  | ob τ d' => cases e
def toSh (r : R) : M D := fun ρ => match r with
  | .v o => match asD o with
    | some d => some (.ok (d, ρ))
    | none => none
  | .pl i => match ρ[i]? with
    | some (some o) => match asD o with
      | some d => some (.ok (d, ρ.set i (some (.sh d))))
      | none => none
    | _ => none
theorem getElem?_set_self' {α : Type} {l : List α} {i : Nat} {x y : α} (h : l[i]? = some y) : (l.set i x)[i]? = some x := by
  have := (List.getElem?_eq_some_iff.mp h).1
  simp [this]
/-- a slot's thing gives way to another one, the rest is apart from it -/
theorem Ok.put {i : Nat} {v : V} {o : O} {Fn : Fp} (ok : Ok P w K Θ σ H Hm ρ fp) (e : Up Hm Hm') (s : Same Hm' H') (k : ∀ j p u, j ≠ i → fp j p → H p = some u → H' p = some u) (n : ∀ j p, j ≠ i → fp j p → Hm' p = none)
    (hi : i < ρ.length) (h : OOk P w K Θ H' Hm' v o Fn) (dj : ∀ j p, j ≠ i → fp j p → ¬ Fn p) : Ok P w K Θ (σ.set i (some v)) H' Hm' (ρ.set i (some o)) (fun j => if j = i then Fn else fp j) := by
  refine ⟨by simp [ok.len], s, fun j v' o' h1 h2 => ?_, fun j hj => ?_, fun a b p h1 h2 => ?_⟩
  · by_cases hj : j = i
    · subst hj
      rw [if_pos rfl]
      rw [List.getElem?_set_self (by omega)] at h2
      rw [List.getElem?_set_self (by rw [ok.len]; omega)] at h1
      cases h1; cases h2
      exact ⟨v, rfl, h⟩
    · rw [if_neg hj]
      rw [List.getElem?_set_ne (fun z => hj z.symm)] at h1 h2
      have q := ok.slot j v' o' h1 h2
      cases o' with
      | none => exact q
      | some o' =>
        obtain ⟨u, e1, q⟩ := q
        exact ⟨u, e1, q.move e (fun p u hp => k j p u hj hp) fun p hp => n j p hj hp⟩
  · rw [List.length_set] at hj
    show (if j = i then Fn else fp j) = noF
    rw [if_neg (by omega)]
    exact ok.out j hj
  · by_cases ha : a = i
    · by_cases hb : b = i
      · rw [ha, hb]
      · rw [if_pos ha] at h1; rw [if_neg hb] at h2
        exact (dj b p hb h2 h1).elim
    · by_cases hb : b = i
      · rw [if_pos hb] at h2; rw [if_neg ha] at h1
        exact (dj a p ha h1 h2).elim
      · rw [if_neg ha] at h1; rw [if_neg hb] at h2
        exact ok.apart a b p h1 h2
theorem set_same {α : Type} {l : List α} {i : Nat} {x : α} (h : l[i]? = some x) : l.set i x = l := by
  apply List.ext_getElem?
  intro j
  by_cases hj : i = j
  · subst hj; rw [getElem?_set_self' h, h]
  · rw [List.getElem?_set_ne hj]
theorem toSh_ok {r : R} {d : D} (ok : Ok P w K Θ σ H Hm ρ fp) (h : ROk P w K Θ σ ρ H Hm v r F) (dj : ∀ p, F p → ¬ all fp p) (e : toSh r ρ = some (.ok (d, ρ'))) :
    ∃ Hm' fp', Ok P w K Θ σ H Hm' ρ' fp' ∧ Rp P w K Hm' v d ∧ Grow H Hm (orF (all fp) F) H Hm' (all fp') := by
  cases r with
  | v o =>
    have ha : asD o = some d ∧ ρ = ρ' := by
      have e' : (match asD o with | some d => some (Except.ok (d, ρ)) | none => none : Option (Res D)) = some (.ok (d, ρ')) := e
      cases q : asD o with
      | none => rw [q] at e'; cases e'
      | some d' => rw [q] at e'; cases e'; exact ⟨rfl, rfl⟩
    obtain ⟨ha, rfl⟩ := ha
    obtain ⟨Hm', r1, s1, s2, k⟩ := OOk.share h ok.sub ha
    refine ⟨Hm', fp, ok.move (.of s1) s2 (fun _ _ _ q => q) (fun p hp => ?_), r1, ⟨.of s1, fun p u h1 h2 h3 => ⟨h1, ?_, fun q => h3 (.inl q)⟩⟩⟩
    · rw [k p fun z => dj p z hp]; exact (ok.fpNone p hp).1
    · rw [k p fun z => h3 (.inr z)]; exact h2
  | pl i =>
    obtain ⟨h1, ⟨o, ho⟩, h3⟩ := h
    have ha : asD o = some d ∧ ρ' = ρ.set i (some (.sh d)) := by
      have e' : (match ρ[i]? with | some (some o) => (match asD o with | some d => some (Except.ok (d, ρ.set i (some (.sh d)))) | none => none) | _ => none : Option (Res D)) = some (.ok (d, ρ')) := e
      rw [ho] at e'
      cases q : asD o with
      | none => simp only [q] at e'; cases e'
      | some d' => simp only [q] at e'; cases e'; exact ⟨rfl, rfl⟩
    obtain ⟨ha, rfl⟩ := ha
    obtain ⟨u, e1, q⟩ := ok.at ho
    rw [h1] at e1; cases e1
    obtain ⟨Hm', r1, s1, s2, k⟩ := OOk.share q ok.sub ha
    have hi := (List.getElem?_eq_some_iff.mp ho).1
    have ok' := ok.put (i := i) (v := v) (o := .sh d) (Fn := noF) (.of s1) s2 (fun _ _ _ _ _ z => z) (fun j p hj hp => by rw [k p fun z => hj (ok.apart j i p hp z)]; exact (ok.fpNone p ⟨j, hp⟩).1) hi ⟨r1, rfl⟩ (fun _ _ _ _ z => z)
    rw [set_same h1] at ok'
    refine ⟨Hm', _, ok', r1, ⟨.of s1, fun p u a1 a2 a3 => ⟨a1, ?_, fun ⟨j, hj⟩ => a3 (.inl ?_)⟩⟩⟩
    · rw [k p fun z => a3 (.inl ⟨i, z⟩)]; exact a2
    · have hj' : (if j = i then noF else fp j) p := hj
      by_cases hji : j = i
      · rw [if_pos hji] at hj'; exact hj'.elim
      · rw [if_neg hji] at hj'; exact ⟨j, hj'⟩
end

/-! ### expressions -/
section
variable {P : Program} {w : World} {K : PySem.W.Frag} {Θ : Nat → ObSem} {W : WX}
/-- a result that is at hand as it stands -/
theorem Snd.now {α β : Type} {rel : L2.St → Env → Hp → Hp → β → α → Fp → Prop} {σ : L2.St} {H Hm : Hp} {ρ : Env} {fp : Nat → Fp} {Q : β → Hp → Prop} {a : α} {b : β} (ok : Ok P w K Θ σ H Hm ρ fp) (hr : rel σ ρ H Hm b a noF) (q : Post P w K Θ rel W σ H Hm (all fp) Q (.ok (a, ρ))) : Q b H :=
  q b H Hm fp noF ok hr (fun _ z => z.elim) (by rw [orF_noF]; exact Grow.refl)
def eVar (i : Nat) : M R := fun ρ => match ρ[i]? with
  | some (some (.sh d)) => some (.ok (.v (.sh d), ρ))
  | some (some _) => some (.ok (.pl i, ρ))
  | _ => none
theorem snd_var {i : Nat} : SndE P w K Θ W (tVar i) (eVar i) := fun σ H Hm ρ fp ok res e Q q => by
  unfold eVar at e
  split at e
  · rename_i d eo
    cases e
    obtain ⟨u, e1, h⟩ := ok.at eo
    exact ⟨u, e1, Snd.now ok (show ROk P w K Θ σ ρ H Hm u (.v (.sh d)) noF from ⟨h.1, rfl⟩) q⟩
  · rename_i o hn eo
    cases e
    obtain ⟨u, e1, h⟩ := ok.at eo
    exact ⟨u, e1, Snd.now ok (show ROk P w K Θ σ ρ H Hm u (.pl i) noF from ⟨e1, ⟨_, eo⟩, rfl⟩) q⟩
  · cases e
def eC (d : D) : M R := mpure (.v (.sh d))
theorem snd_c {v : V} {d : D} (h : ∀ H, Rp P w K H v d) : SndE P w K Θ W (tC v) (eC d) := fun σ H Hm ρ fp ok res e Q q => by
  cases e
  exact Snd.now ok (show ROk P w K Θ σ ρ H Hm v (.v (.sh d)) noF from ⟨h Hm, rfl⟩) q
/-! arguments -/
def aNil : M (List R) := mpure []
def aCons (f : M R) (g : M (List R)) : M (List R) := mbind f fun r => mbind g fun rs => fun ρ => if still r ρ then some (.ok (r :: rs, ρ)) else none
theorem snd_nil : SndA P w K Θ W tNil aNil := fun σ H Hm ρ fp ok res e Q q => by
  cases e
  exact Snd.now ok (show RLOk P w K Θ σ ρ H Hm [] [] noF from rfl) q
theorem snd_cons {te : TE} {tr : TA} {f : M R} {g : M (List R)} (h1 : SndE P w K Θ W te f) (h2 : SndA P w K Θ W tr g) : SndA P w K Θ W (tCons te tr) (aCons f g) := fun σ H Hm ρ fp ok res e Q q => by
  unfold aCons at e
  cases e1 : f ρ with
  | none => simp only [mbind, e1] at e; cases e
  | some r1 =>
    refine h1 σ H Hm ρ fp ok r1 e1 _ ?_
    cases r1 with
    | error er =>
      rw [mbind_er e1] at e; cases e
      exact q
    | ok p1 =>
      obtain ⟨r, ρ1⟩ := p1
      rw [mbind_ok e1] at e
      intro v H1 Hm1 fp1 Fo1 ok1 k1 d1 g1
      cases e2 : g ρ1 with
      | none => simp only [mbind, e2] at e; cases e
      | some r2 =>
        refine h2 σ H1 Hm1 ρ1 fp1 ok1 r2 e2 _ ?_
        cases r2 with
        | error er =>
          rw [mbind_er e2] at e; cases e
          exact fun cls d H2 Hm2 fp2 ok2 x2 g2 => q cls d H2 Hm2 fp2 ok2 x2 (g1.seq0 g2)
        | ok p2 =>
          obtain ⟨rs, ρ2⟩ := p2
          rw [mbind_ok e2] at e
          by_cases hs : still r ρ2 = true
          · rw [if_pos hs] at e; cases e
            intro vs H2 Hm2 fp2 Fo2 ok2 k2 d2 g2
            obtain ⟨k1', d1'⟩ := ROk.beside k1 d1 g2 hs
            refine q (v :: vs) H2 Hm2 fp2 (orF Fo1 Fo2) ok2 ⟨Fo1, Fo2, k1', k2, fun p hp z => d1' p hp (.inr z), rfl⟩ (fun p hp => hp.elim (fun z y => d1' p z (.inl y)) (d2 p)) ((g1.seq g2).to fun p hp => ?_)
            rcases hp with hp | hp | hp
            · exact .inl (.inl hp)
            · exact .inr hp
            · exact .inl (.inr hp)
          · rw [if_neg hs] at e; cases e

/-! what an operation gives: it writes nothing that stands -/
structure Fresh (H Hm H' Hm' : Hp) (Fo : Fp) : Prop where
  hs : Same H H'
  ms : Same Hm Hm'
  sub : Same Hm' H'
  old : ∀ p u, H p = some u → Hm' p = Hm p
  new : ∀ p, Fo p → H p = none
theorem Fresh.refl {H Hm : Hp} (s : Same Hm H) : Fresh H Hm H Hm noF := ⟨Same.refl _, Same.refl _, s, fun _ _ _ => rfl, fun _ z => z.elim⟩
theorem Fresh.ok {H Hm H' Hm' : Hp} {Fo : Fp} {σ : L2.St} {ρ : Env} {fp : Nat → Fp} (f : Fresh H Hm H' Hm' Fo) (ok : Ok P w K Θ σ H Hm ρ fp) : Ok P w K Θ σ H' Hm' ρ fp ∧ (∀ p, Fo p → ¬ all fp p) ∧ Grow H Hm (all fp) H' Hm' (orF (all fp) Fo) := by
  refine ⟨ok.move (.of f.ms) f.sub (fun p u _ q => f.hs p u q) (fun p hp => ?_), fun p hp z => ?_, ⟨.of f.ms, fun p u h1 h2 h3 => ⟨f.hs p u h1, (f.old p u h1).trans h2, fun z => z.elim h3 fun z => ?_⟩⟩⟩
  · obtain ⟨h1, u, h2⟩ := ok.fpNone p hp
    exact (f.old p u h2).trans h1
  · obtain ⟨_, u, h2⟩ := ok.fpNone p z
    rw [f.new p hp] at h2; cases h2
  · rw [f.new p z] at h1; cases h1
/-- an operation on values: op tells it of the things -/
def OpOk (P : Program) (w : World) (K : PySem.W.Frag) (Θ : Nat → ObSem) (r : List V → Hp → VK → Prop) (op : List O → Option O) : Prop :=
  ∀ H Hm vs os o, Same Hm H → OOks P w K Θ H Hm vs os → op os = some o → ∀ Q : VK, (∀ v H' Hm' Fo, Fresh H Hm H' Hm' Fo → OOk P w K Θ H' Hm' v o Fo → Q v H') → r vs H Q
def eOp (op : List O → Option O) (f : M (List R)) : M R := mbind f fun rs ρ => match ders rs ρ with
  | some os => match op os with
    | some o => some (.ok (.v o, ρ))
    | none => none
  | none => none
theorem snd_op {r : List V → Hp → VK → Prop} {op : List O → Option O} {ta : TA} {f : M (List R)} (hr : OpOk P w K Θ r op) (h : SndA P w K Θ W ta f) : SndE P w K Θ W (fun σ H Q => ta σ H fun vs H1 => r vs H1 Q) (eOp op f) := fun σ H Hm ρ fp ok res e Q q => by
  unfold eOp at e
  cases e1 : f ρ with
  | none => simp only [mbind, e1] at e; cases e
  | some r1 =>
    refine h σ H Hm ρ fp ok r1 e1 _ ?_
    cases r1 with
    | error er => rw [mbind_er e1] at e; cases e; exact q
    | ok p1 =>
      obtain ⟨rs, ρ1⟩ := p1
      rw [mbind_ok e1] at e
      intro vs H1 Hm1 fp1 Fo1 ok1 k1 d1 g1
      cases e2 : ders rs ρ1 with
      | none => simp only [e2] at e; cases e
      | some os =>
        simp only [e2] at e
        cases e3 : op os with
        | none => simp only [e3] at e; cases e
        | some o =>
          simp only [e3] at e; cases e
          refine hr H1 Hm1 vs os o ok1.sub (RLOk.ders ok1 k1 e2) e3 Q fun v H2 Hm2 Fo f ho => ?_
          obtain ⟨ok2, d2, g2⟩ := f.ok ok1
          exact q v H2 Hm2 fp1 Fo ok2 ho d2 (g1.seq0 g2)
/-- a test of a truth value -/
def tBool (f : M R) : M Bool := mbind f fun r ρ => match der r ρ with
  | some (.sh (.bool b)) => some (.ok (b, ρ))
  | _ => none
theorem snd_tB {t : TE} {f : M R} (h : SndE P w K Θ W t f) : SndT P w K Θ W (fun σ H Q => t σ H fun x H1 => ∃ c, x = .bl c ∧ Q c H1) (tBool f) := fun σ H Hm ρ fp ok res e Q q => by
  unfold tBool at e
  cases e1 : f ρ with
  | none => simp only [mbind, e1] at e; cases e
  | some r1 =>
    refine h σ H Hm ρ fp ok r1 e1 _ ?_
    cases r1 with
    | error er => rw [mbind_er e1] at e; cases e; exact q
    | ok p1 =>
      obtain ⟨r, ρ1⟩ := p1
      rw [mbind_ok e1] at e
      intro v H1 Hm1 fp1 Fo1 ok1 k1 d1 g1
      split at e
      · rename_i b eo
        cases e
        obtain ⟨F', hb⟩ := ROk.der ok1 k1 eo
        obtain ⟨hb, _⟩ := hb
        cases hb
        exact ⟨b, rfl, q b H1 Hm1 fp1 noF ok1 ⟨rfl, rfl⟩ (fun _ z => z.elim) (g1.to fun p z => z.elim .inl fun y => y.elim)⟩
      · cases e
/-- tests in a row -/
def tAndM (f g : M Bool) : M Bool := mbind f fun b => if b then g else mpure false
def tOrM (f g : M Bool) : M Bool := mbind f fun b => if b then mpure true else g
def tNotM (f : M Bool) : M Bool := mbind f fun b => mpure (!b)
theorem Post.grow {α β : Type} {rel : L2.St → Env → Hp → Hp → β → α → Fp → Prop} {σ : L2.St} {H Hm H1 Hm1 : Hp} {F A G : Fp} {Q : β → Hp → Prop} {res : Res α} (q : Post P w K Θ rel W σ H Hm F Q res) (g : Grow H Hm F H1 Hm1 (orF A G)) : Post P w K Θ rel W σ H1 Hm1 A Q res := by
  cases res with
  | error er => exact fun cls d H2 Hm2 fp2 ok2 x2 g2 => q cls d H2 Hm2 fp2 ok2 x2 (g.seq0 g2)
  | ok p => exact fun b H2 Hm2 fp2 Fo ok2 k2 d2 g2 => q b H2 Hm2 fp2 Fo ok2 k2 d2 (g.seq0 g2)
/-- one after the other -/
theorem Snd.then {α β γ δ : Type} {rel : L2.St → Env → Hp → Hp → β → α → Fp → Prop} {rel' : L2.St → Env → Hp → Hp → δ → γ → Fp → Prop} {t : L2.St → Hp → (β → Hp → Prop) → Prop} {f : M α} {g : α → M γ} {u : β → L2.St → Hp → (δ → Hp → Prop) → Prop} (h : Snd P w K Θ rel W t f)
    (k : ∀ a b σ H Hm ρ fp Fo, Ok P w K Θ σ H Hm ρ fp → rel σ ρ H Hm b a Fo → (∀ p, Fo p → ¬ all fp p) → ∀ res, g a ρ = some res → ∀ Q, Post P w K Θ rel' W σ H Hm (orF (all fp) Fo) Q res → u b σ H Q) : Snd P w K Θ rel' W (fun σ H Q => t σ H fun x H1 => u x σ H1 Q) (mbind f g) := fun σ H Hm ρ fp ok res e Q q => by
  cases e1 : f ρ with
  | none => simp only [mbind, e1] at e; cases e
  | some r1 =>
    refine h σ H Hm ρ fp ok r1 e1 _ ?_
    cases r1 with
    | error er => rw [mbind_er e1] at e; cases e; exact q
    | ok p1 =>
      obtain ⟨a, ρ1⟩ := p1
      rw [mbind_ok e1] at e
      intro b H1 Hm1 fp1 Fo1 ok1 k1 d1 g1
      refine k a b σ H1 Hm1 ρ1 fp1 Fo1 ok1 k1 d1 res e Q ?_
      cases res with
      | error er => exact fun cls d H2 Hm2 fp2 ok2 x2 g2 => q cls d H2 Hm2 fp2 ok2 x2 (g1.trans g2)
      | ok p => exact fun c H2 Hm2 fp2 Fo2 ok2 k2 d2 g2 => q c H2 Hm2 fp2 Fo2 ok2 k2 d2 (g1.trans g2)
theorem Post.sub {α β : Type} {rel : L2.St → Env → Hp → Hp → β → α → Fp → Prop} {σ : L2.St} {H Hm : Hp} {A G : Fp} {Q : β → Hp → Prop} {res : Res α} (q : Post P w K Θ rel W σ H Hm (orF A G) Q res) : Post P w K Θ rel W σ H Hm A Q res :=
  q.grow (G := noF) ⟨Up.refl _, fun p u a b c => ⟨a, b, fun z => z.elim (fun z => c (.inl z)) fun z => z⟩⟩
theorem snd_and {t u : TT} {f g : M Bool} (h1 : SndT P w K Θ W t f) (h2 : SndT P w K Θ W u g) : SndT P w K Θ W (tAnd t u) (tAndM f g) := by
  refine Snd.then h1 (u := fun c σ H1 Q => if c = true then u σ H1 Q else Q false H1) fun a b σ H Hm ρ fp Fo ok hr d res e Q q => ?_
  obtain ⟨rfl, rfl⟩ := hr
  cases b with
  | true => rw [if_pos rfl] at e ⊢; exact h2 σ H Hm ρ fp ok res e Q q.sub
  | false =>
    rw [if_neg (by decide)] at e ⊢; cases e
    exact Snd.now ok (rel := relT) ⟨rfl, rfl⟩ q.sub
theorem snd_or {t u : TT} {f g : M Bool} (h1 : SndT P w K Θ W t f) (h2 : SndT P w K Θ W u g) : SndT P w K Θ W (tOr t u) (tOrM f g) := by
  refine Snd.then h1 (u := fun c σ H1 Q => if c = true then Q true H1 else u σ H1 Q) fun a b σ H Hm ρ fp Fo ok hr d res e Q q => ?_
  obtain ⟨rfl, rfl⟩ := hr
  cases b with
  | false => rw [if_neg (by decide)] at e ⊢; exact h2 σ H Hm ρ fp ok res e Q q.sub
  | true =>
    rw [if_pos rfl] at e ⊢; cases e
    exact Snd.now ok (rel := relT) ⟨rfl, rfl⟩ q.sub
theorem snd_not {t : TT} {f : M Bool} (h1 : SndT P w K Θ W t f) : SndT P w K Θ W (tNot t) (tNotM f) := by
  refine Snd.then h1 (u := fun c σ H1 Q => Q (!c) H1) fun a b σ H Hm ρ fp Fo ok hr d res e Q q => ?_
  obtain ⟨rfl, rfl⟩ := hr
  cases e
  exact Snd.now ok (rel := relT) ⟨rfl, rfl⟩ q.sub
/-- a if t else b -/
def eIf (t : M Bool) (f g : M R) : M R := mbind t fun b => if b then f else g
theorem snd_if {t : TT} {ta tb : TE} {m : M Bool} {f g : M R} (h : SndT P w K Θ W t m) (h1 : SndE P w K Θ W ta f) (h2 : SndE P w K Θ W tb g) : SndE P w K Θ W (tIf t ta tb) (eIf m f g) := by
  refine Snd.then h (u := fun c σ H1 Q => if c = true then ta σ H1 Q else tb σ H1 Q) fun a b σ H Hm ρ fp Fo ok hr d res e Q q => ?_
  obtain ⟨rfl, rfl⟩ := hr
  cases b with
  | true => rw [if_pos rfl] at e ⊢; exact h1 σ H Hm ρ fp ok res e Q q.sub
  | false => rw [if_neg (by decide)] at e ⊢; exact h2 σ H Hm ρ fp ok res e Q q.sub
/-- and, or, not as values: all are truth values -/
def eBl (b : Bool) : M R := mpure (.v (.sh (.bool b)))
def eAndM (f g : M R) : M R := mbind (tBool f) fun b => if b then g else eBl false
def eOrM (f g : M R) : M R := mbind (tBool f) fun b => if b then eBl true else g
def eNotM (f : M R) : M R := mbind (tBool f) fun b => eBl (!b)
theorem now_bl {σ : L2.St} {H Hm : Hp} {ρ : Env} {fp : Nat → Fp} {Q : VK} {b : Bool} (ok : Ok P w K Θ σ H Hm ρ fp) (q : Post P w K Θ (relE P w K Θ) W σ H Hm (all fp) Q (.ok (.v (.sh (.bool b)), ρ))) : Q (.bl b) H :=
  Snd.now ok (show ROk P w K Θ σ ρ H Hm (.bl b) (.v (.sh (.bool b))) noF from ⟨.bl b, rfl⟩) q
theorem snd_andV {ta tb : TE} {f g : M R} (h1 : SndE P w K Θ W ta f) (h2 : SndE P w K Θ W tb g) : SndE P w K Θ W (tAndV ta tb) (eAndM f g) := by
  have h := Snd.then (snd_tB h1) (rel' := relE P w K Θ) (g := fun b => if b then g else eBl false) (u := fun c σ H1 Q => if c = true then tb σ H1 Q else Q (.bl false) H1) fun a b σ H Hm ρ fp Fo ok hr d res e Q q => by
    obtain ⟨rfl, rfl⟩ := hr
    cases b with
    | true => rw [if_pos rfl] at e ⊢; exact h2 σ H Hm ρ fp ok res e Q q.sub
    | false =>
      rw [if_neg (by decide)] at e ⊢; cases e
      exact now_bl ok q.sub
  exact h
theorem snd_orV {ta tb : TE} {f g : M R} (h1 : SndE P w K Θ W ta f) (h2 : SndE P w K Θ W tb g) : SndE P w K Θ W (tOrV ta tb) (eOrM f g) := by
  have h := Snd.then (snd_tB h1) (rel' := relE P w K Θ) (g := fun b => if b then eBl true else g) (u := fun c σ H1 Q => if c = true then Q (.bl true) H1 else tb σ H1 Q) fun a b σ H Hm ρ fp Fo ok hr d res e Q q => by
    obtain ⟨rfl, rfl⟩ := hr
    cases b with
    | false => rw [if_neg (by decide)] at e ⊢; exact h2 σ H Hm ρ fp ok res e Q q.sub
    | true =>
      rw [if_pos rfl] at e ⊢; cases e
      exact now_bl ok q.sub
  exact h
theorem snd_notV {ta : TE} {f : M R} (h1 : SndE P w K Θ W ta f) : SndE P w K Θ W (tNotV ta) (eNotM f) := by
  have h := Snd.then (snd_tB h1) (rel' := relE P w K Θ) (g := fun b => eBl (!b)) (u := fun c σ H1 Q => Q (.bl (!c)) H1) fun a b σ H Hm ρ fp Fo ok hr d res e Q q => by
    obtain ⟨rfl, rfl⟩ := hr
    cases e
    exact now_bl ok q.sub
  exact h
end
end Wl

/- text WlC -/
set_option Elab.async false
set_option maxRecDepth 100000
namespace Wl
open PySem PySem.Spec L2
open PyProof.Rows hiding St

/-! ### statements -/
inductive Out where
  | nx (ρ : Env)
  | rt (r : R) (ρ : Env)
  | bk (ρ : Env)
  | ct (ρ : Env)
  | ex (e : Ex) (ρ : Env)
abbrev SM := Env → Option Out
def Keep (io : List Nat) (σ σ' : L2.St) : Prop := ∀ i ∈ io, σ'[i]? = σ[i]?
theorem Keep.refl (io : List Nat) (σ : L2.St) : Keep io σ σ := fun _ _ => rfl
theorem Keep.trans {io : List Nat} {σ σ1 σ2 : L2.St} (a : Keep io σ σ1) (b : Keep io σ1 σ2) : Keep io σ σ2 := fun i h => (b i h).trans (a i h)
section
variable (P : Program) (w : World) (K : PySem.W.Frag) (Θ : Nat → ObSem)
def PostS (W : WX) (io : List Nat) (σ : L2.St) (H Hm : Hp) (F : Fp) (D : Ends) : Out → Prop
  | .nx ρ' => ∀ σ' H' Hm' fp', Ok P w K Θ σ' H' Hm' ρ' fp' → Keep io σ σ' → Grow H Hm F H' Hm' (all fp') → D.nx σ' H'
  | .bk ρ' => ∀ σ' H' Hm' fp', Ok P w K Θ σ' H' Hm' ρ' fp' → Keep io σ σ' → Grow H Hm F H' Hm' (all fp') → D.bk σ' H'
  | .ct ρ' => ∀ σ' H' Hm' fp', Ok P w K Θ σ' H' Hm' ρ' fp' → Keep io σ σ' → Grow H Hm F H' Hm' (all fp') → D.ct σ' H'
  | .rt r ρ' => ∀ v σ' H' Hm' fp' Fo, Ok P w K Θ σ' H' Hm' ρ' fp' → Keep io σ σ' → ROk P w K Θ σ' ρ' H' Hm' v r Fo → (∀ p, Fo p → ¬ all fp' p) → Grow H Hm F H' Hm' (orF (all fp') Fo) → D.rt v H'
  | .ex e ρ' => ∀ cls d σ' H' Hm' fp', Ok P w K Θ σ' H' Hm' ρ' fp' → Keep io σ σ' → XOk P w K H' Hm' cls d e → Grow H Hm F H' Hm' (all fp') → W cls d σ' H'
def SndS (W : WX) (io : List Nat) (t : TS) (f : SM) : Prop :=
  ∀ σ H Hm ρ fp, Ok P w K Θ σ H Hm ρ fp → ∀ out, f ρ = some out → ∀ D, PostS P w K Θ W io σ H Hm (all fp) D out → t D σ H
/-- a target, of shared data -/
def SndG (io : List Nat) (g : TG) (f : D → Env → Option Env) : Prop :=
  ∀ σ H Hm ρ fp, Ok P w K Θ σ H Hm ρ fp → ∀ v d, Rp P w K Hm v d → ∀ ρ', f d ρ = some ρ' → ∀ Q : L2.St → Hp → Prop,
    (∀ σ' fp', Ok P w K Θ σ' H Hm ρ' fp' → Keep io σ σ' → (∀ p, all fp' p → all fp p) → Q σ' H) → g v σ H Q
def SndGs (io : List Nat) (g : TGs) (f : List D → Env → Option Env) : Prop :=
  ∀ σ H Hm ρ fp, Ok P w K Θ σ H Hm ρ fp → ∀ vs ds, RpL P w K Hm vs ds → ∀ ρ', f ds ρ = some ρ' → ∀ Q : L2.St → Hp → Prop,
    (∀ σ' fp', Ok P w K Θ σ' H Hm ρ' fp' → Keep io σ σ' → (∀ p, all fp' p → all fp p) → Q σ' H) → g vs σ H Q
end

section
variable {P : Program} {w : World} {K : PySem.W.Frag} {Θ : Nat → ObSem} {W : WX} {io : List Nat}
theorem PostS.grow {σ σ1 : L2.St} {H Hm H1 Hm1 : Hp} {F A : Fp} {D : Ends} {out : Out} (q : PostS P w K Θ W io σ H Hm F D out) (k : Keep io σ σ1) (g : Grow H Hm F H1 Hm1 A) : PostS P w K Θ W io σ1 H1 Hm1 A D out := by
  cases out with
  | nx ρ' => exact fun σ' H' Hm' fp' ok k' g' => q σ' H' Hm' fp' ok (k.trans k') (g.trans g')
  | bk ρ' => exact fun σ' H' Hm' fp' ok k' g' => q σ' H' Hm' fp' ok (k.trans k') (g.trans g')
  | ct ρ' => exact fun σ' H' Hm' fp' ok k' g' => q σ' H' Hm' fp' ok (k.trans k') (g.trans g')
  | rt r ρ' => exact fun v σ' H' Hm' fp' Fo ok k' r d g' => q v σ' H' Hm' fp' Fo ok (k.trans k') r d (g.trans g')
  | ex e ρ' => exact fun cls d σ' H' Hm' fp' ok k' x g' => q cls d σ' H' Hm' fp' ok (k.trans k') x (g.trans g')
theorem PostS.sub {σ : L2.St} {H Hm : Hp} {A B : Fp} {D : Ends} {out : Out} (q : PostS P w K Θ W io σ H Hm A D out) (h : ∀ p, B p → A p) : PostS P w K Θ W io σ H Hm B D out :=
  q.grow (Keep.refl _ _) ⟨Up.refl _, fun p u a b c => ⟨a, b, fun z => c (h p z)⟩⟩
/-- an expression, then a statement's rest -/
theorem Snd.stmt {α β : Type} {rel : L2.St → Env → Hp → Hp → β → α → Fp → Prop} {t : L2.St → Hp → (β → Hp → Prop) → Prop} {f : M α} {g : α → Env → Option Out} {u : β → TS} (h : Snd P w K Θ rel W t f)
    (k : ∀ a b σ H Hm ρ fp Fo, Ok P w K Θ σ H Hm ρ fp → rel σ ρ H Hm b a Fo → (∀ p, Fo p → ¬ all fp p) → ∀ out, g a ρ = some out → ∀ D, PostS P w K Θ W io σ H Hm (orF (all fp) Fo) D out → u b D σ H) :
    SndS P w K Θ W io (fun D σ H => t σ H fun x H1 => u x D σ H1) (fun ρ => match f ρ with
      | some (.ok (a, ρ1)) => g a ρ1
      | some (.error (e, ρ1)) => some (.ex e ρ1)
      | none => none) := fun σ H Hm ρ fp ok out e D q => by
  cases e1 : f ρ with
  | none => simp only [e1] at e; cases e
  | some r1 =>
    refine h σ H Hm ρ fp ok r1 e1 _ ?_
    cases r1 with
    | error er =>
      obtain ⟨er, ρ1⟩ := er
      simp only [e1] at e; cases e
      exact fun cls d H' Hm' fp' ok' x g' => q cls d σ H' Hm' fp' ok' (Keep.refl _ _) x g'
    | ok p1 =>
      obtain ⟨a, ρ1⟩ := p1
      simp only [e1] at e
      intro b H1 Hm1 fp1 Fo1 ok1 k1 d1 g1
      exact k a b σ H1 Hm1 ρ1 fp1 Fo1 ok1 k1 d1 out e D (q.grow (Keep.refl _ _) g1)
def sE {α : Type} (f : M α) (g : α → Env → Option Out) : SM := fun ρ => match f ρ with
  | some (.ok (a, ρ1)) => g a ρ1
  | some (.error (e, ρ1)) => some (.ex e ρ1)
  | none => none

def sNext : SM := fun ρ => some (.nx ρ)
def sBreak : SM := fun ρ => some (.bk ρ)
def sCont : SM := fun ρ => some (.ct ρ)
def sNever : SM := fun _ => none
def sSeq (f g : SM) : SM := fun ρ => match f ρ with
  | some (.nx ρ1) => g ρ1
  | o => o
theorem PostS.next {σ : L2.St} {H Hm : Hp} {ρ : Env} {fp : Nat → Fp} {D : Ends} (ok : Ok P w K Θ σ H Hm ρ fp) (q : PostS P w K Θ W io σ H Hm (all fp) D (.nx ρ)) : D.nx σ H := q σ H Hm fp ok (Keep.refl _ _) Grow.refl
theorem snds_next : SndS P w K Θ W io tNext sNext := fun σ H Hm ρ fp ok out e D q => by
  cases e; exact q.next ok
theorem snds_break : SndS P w K Θ W io tBreak sBreak := fun σ H Hm ρ fp ok out e D q => by
  cases e; exact q σ H Hm fp ok (Keep.refl _ _) Grow.refl
theorem snds_cont : SndS P w K Θ W io tCont sCont := fun σ H Hm ρ fp ok out e D q => by
  cases e; exact q σ H Hm fp ok (Keep.refl _ _) Grow.refl
theorem snds_never {t : TS} : SndS P w K Θ W io t sNever := fun σ H Hm ρ fp ok out e D q => by cases e
theorem snds_seq {t u : TS} {f g : SM} (h1 : SndS P w K Θ W io t f) (h2 : SndS P w K Θ W io u g) : SndS P w K Θ W io (tSeq t u) (sSeq f g) := fun σ H Hm ρ fp ok out e D q => by
  unfold sSeq at e
  cases e1 : f ρ with
  | none => simp only [e1] at e; cases e
  | some o1 =>
    refine h1 σ H Hm ρ fp ok o1 e1 _ ?_
    cases o1 with
    | nx ρ1 =>
      simp only [e1] at e
      exact fun σ' H' Hm' fp' ok' k' g' => h2 σ' H' Hm' ρ1 fp' ok' out e D (q.grow k' g')
    | bk ρ1 => simp only [e1] at e; cases e; exact q
    | ct ρ1 => simp only [e1] at e; cases e; exact q
    | rt r ρ1 => simp only [e1] at e; cases e; exact q
    | ex x ρ1 => simp only [e1] at e; cases e; exact q
/-- if -/
def sIf (t : M Bool) (f g : SM) : SM := sE t fun b => if b then f else g
theorem snds_if {c : TT} {t u : TS} {m : M Bool} {f g : SM} (h : SndT P w K Θ W c m) (h1 : SndS P w K Θ W io t f) (h2 : SndS P w K Θ W io u g) : SndS P w K Θ W io (tIfS c t u) (sIf m f g) := by
  refine Snd.stmt h (u := fun b D σ H1 => if b = true then t D σ H1 else u D σ H1) fun a b σ H Hm ρ fp Fo ok hr d out e D q => ?_
  obtain ⟨rfl, rfl⟩ := hr
  cases b with
  | true => rw [if_pos rfl] at e ⊢; exact h1 σ H Hm ρ fp ok out e D (q.sub fun _ => .inl)
  | false => rw [if_neg (by decide)] at e ⊢; exact h2 σ H Hm ρ fp ok out e D (q.sub fun _ => .inl)
/-- x = e -/
def putR (i : Nat) (r : R) : Env → Option Env := fun ρ => if i < ρ.length then match r with
  | .v o => some (ρ.set i (some o))
  | .pl _ => match toSh r ρ with
    | some (.ok (d, ρ1)) => some (ρ1.set i (some (.sh d)))
    | _ => none
  else none
theorem toSh_len {r : R} {ρ ρ' : Env} {d : D} (e : toSh r ρ = some (.ok (d, ρ'))) : ρ'.length = ρ.length := by
  cases r with
  | v o =>
    have e' : (match asD o with | some d => some (Except.ok (d, ρ)) | none => none : Option (Res D)) = some (.ok (d, ρ')) := e
    cases q : asD o with
    | none => rw [q] at e'; cases e'
    | some d' => rw [q] at e'; cases e'; rfl
  | pl i =>
    have e' : (match ρ[i]? with | some (some o) => (match asD o with | some d => some (Except.ok (d, ρ.set i (some (.sh d)))) | none => none) | _ => none : Option (Res D)) = some (.ok (d, ρ')) := e
    split at e'
    · split at e'
      · cases e'; simp
      · cases e'
    · cases e'
theorem keep_set {σ : L2.St} {i : Nat} {x : Option V} (h : i ∉ io) : Keep io σ (σ.set i x) := fun j hj => by
  rw [List.getElem?_set_ne (fun z => h (by rw [z]; exact hj))]
theorem put_ok {σ : L2.St} {H Hm : Hp} {ρ ρ' : Env} {fp : Nat → Fp} {Fo : Fp} {i : Nat} {r : R} {v : V} (ok : Ok P w K Θ σ H Hm ρ fp) (h : ROk P w K Θ σ ρ H Hm v r Fo) (d : ∀ p, Fo p → ¬ all fp p) (e : putR i r ρ = some ρ') (hio : i ∉ io) :
    ∃ Hm' fp', Ok P w K Θ (σ.set i (some v)) H Hm' ρ' fp' ∧ Grow H Hm (orF (all fp) Fo) H Hm' (all fp') := by
  unfold putR at e
  by_cases hi : i < ρ.length
  · rw [if_pos hi] at e
    cases r with
    | v o =>
      cases e
      refine ⟨Hm, _, ok.put (i := i) (v := v) (o := o) (Fn := Fo) (Up.refl _) ok.sub (fun _ _ _ _ _ z => z) (fun j p _ hp => (ok.fpNone p ⟨j, hp⟩).1) hi h (fun j p _ hp z => d p z ⟨j, hp⟩), ⟨Up.refl _, fun p u a b c => ⟨a, b, fun ⟨j, hj⟩ => c ?_⟩⟩⟩
      have hj' : (if j = i then Fo else fp j) p := hj
      by_cases hji : j = i
      · rw [if_pos hji] at hj'; exact .inr hj'
      · rw [if_neg hji] at hj'; exact .inl ⟨j, hj'⟩
    | pl j0 =>
      simp only at e
      split at e
      · rename_i d' ρ1 e1
        cases e
        obtain ⟨Hm1, fp1, ok1, r1, g1⟩ := toSh_ok ok h d e1
        refine ⟨Hm1, _, ok1.put (i := i) (v := v) (o := .sh d') (Fn := noF) (Up.refl _) ok1.sub (fun _ _ _ _ _ z => z) (fun j p _ hp => (ok1.fpNone p ⟨j, hp⟩).1) (by rw [toSh_len e1]; exact hi) ⟨r1, rfl⟩ (fun _ _ _ _ z => z), g1.trans ⟨Up.refl _, fun p u a b c => ⟨a, b, fun ⟨j, hj⟩ => c ?_⟩⟩⟩
        have hj' : (if j = i then noF else fp1 j) p := hj
        by_cases hji : j = i
        · rw [if_pos hji] at hj'; exact hj'.elim
        · rw [if_neg hji] at hj'; exact ⟨j, hj'⟩
      · cases e
  · rw [if_neg hi] at e; cases e
def sSet (i : Nat) (f : M R) : SM := sE f fun r ρ => match putR i r ρ with
  | some ρ' => some (.nx ρ')
  | none => none
theorem snds_set {i : Nat} {te : TE} {f : M R} (hio : i ∉ io) (h : SndE P w K Θ W te f) : SndS P w K Θ W io (tAsg te (gName i)) (sSet i f) := by
  refine Snd.stmt h (u := fun x D σ H1 => D.nx (σ.set i (some x)) H1) fun a b σ H Hm ρ fp Fo ok hr d out e D q => ?_
  split at e
  · rename_i ρ' e1
    cases e
    obtain ⟨Hm', fp', ok', g'⟩ := put_ok (io := io) ok hr d e1 hio
    exact q _ H Hm' fp' ok' (keep_set hio) g'
  · cases e
/-- return -/
def sRet (f : M R) : SM := sE f fun r ρ => some (.rt r ρ)
theorem snds_ret {te : TE} {f : M R} (h : SndE P w K Θ W te f) : SndS P w K Θ W io (tRet te) (sRet f) := by
  refine Snd.stmt h (u := fun x D σ H1 => D.rt x H1) fun a b σ H Hm ρ fp Fo ok hr d out e D q => ?_
  cases e
  exact q b σ H Hm fp Fo ok (Keep.refl _ _) hr d Grow.refl
def sRetN : SM := fun ρ => some (.rt (.v (.sh .none)) ρ)
theorem snds_retN : SndS P w K Θ W io tRetN sRetN := fun σ H Hm ρ fp ok out e D q => by
  cases e
  exact q .non σ H Hm fp noF ok (Keep.refl _ _) ⟨.non, rfl⟩ (fun _ z => z.elim) (by rw [orF_noF]; exact Grow.refl)
/-- return shared -/
def eSh (f : M R) : M R := mbind f fun r => mbind (toSh r) fun d => mpure (.v (.sh d))
theorem snd_sh {te : TE} {f : M R} (h : SndE P w K Θ W te f) : SndE P w K Θ W te (eSh f) := fun σ H Hm ρ fp ok res e Q q => by
  refine Snd.then h (u := fun x _ H1 Q => Q x H1) (rel' := relE P w K Θ) (g := fun r => mbind (toSh r) fun d => mpure (.v (.sh d))) (fun r b σ H Hm ρ fp Fo ok hr d res e Q q => ?_) σ H Hm ρ fp ok res e Q q
  cases e1 : toSh r ρ with
  | none => simp only [mbind, e1] at e; cases e
  | some r1 =>
    cases r1 with
    | error er =>
      exfalso
      cases r with
      | v o =>
        have e' : (match asD o with | some d => some (Except.ok (d, ρ)) | none => none : Option (Res D)) = some (.error er) := e1
        cases q : asD o with
        | none => rw [q] at e'; cases e'
        | some d' => rw [q] at e'; cases e'
      | pl i =>
        have e' : (match ρ[i]? with | some (some o) => (match asD o with | some d => some (Except.ok (d, ρ.set i (some (.sh d)))) | none => none) | _ => none : Option (Res D)) = some (.error er) := e1
        split at e'
        · split at e' <;> cases e'
        · cases e'
    | ok p =>
      obtain ⟨d', ρ1⟩ := p
      rw [mbind_ok e1] at e; cases e
      obtain ⟨Hm1, fp1, ok1, r1, g1⟩ := toSh_ok ok hr d e1
      exact q b H Hm1 fp1 noF ok1 ⟨r1, rfl⟩ (fun _ z => z.elim) (g1.to fun p z => z.elim id fun y => y.elim)
/-- an expression for its effect -/
def sDrop (f : M R) : SM := sE f fun _ ρ => some (.nx ρ)
theorem snds_drop {te : TE} {f : M R} (h : SndE P w K Θ W te f) : SndS P w K Θ W io (tDrop te) (sDrop f) := by
  refine Snd.stmt h (u := fun _ D σ H1 => D.nx σ H1) fun a b σ H Hm ρ fp Fo ok hr d out e D q => ?_
  cases e
  exact q σ H Hm fp ok (Keep.refl _ _) ⟨Up.refl _, fun p u a b c => ⟨a, b, fun z => c (.inl z)⟩⟩
/-- raise C('..'), no field -/
def sRaise (x : Str) : SM := fun ρ => some (.ex ⟨x, []⟩ ρ)
theorem snds_raise {x : Str} : SndS P w K Θ W io (fun _ σ H => W (.ref (He.ga K x)) none σ H) (sRaise x) := fun σ H Hm ρ fp ok out e D q => by
  cases e
  exact q _ _ σ H Hm fp ok (Keep.refl _ _) ⟨rfl, rfl⟩ Grow.refl

/-! ### targets -/
def gSet (i : Nat) : D → Env → Option Env := fun d ρ => if i < ρ.length then some (ρ.set i (some (.sh d))) else none
theorem sndg_name {i : Nat} (hio : i ∉ io) : SndG P w K Θ io (gName i) (gSet i) := fun σ H Hm ρ fp ok v d r ρ' e Q q => by
  unfold gSet at e
  by_cases hi : i < ρ.length
  · rw [if_pos hi] at e; cases e
    refine q _ _ (ok.put (i := i) (v := v) (o := .sh d) (Fn := noF) (Up.refl _) ok.sub (fun _ _ _ _ _ z => z) (fun j p _ hp => (ok.fpNone p ⟨j, hp⟩).1) hi ⟨r, rfl⟩ (fun _ _ _ _ z => z)) (keep_set hio) fun p ⟨j, hj⟩ => ?_
    have hj' : (if j = i then noF else fp j) p := hj
    by_cases hji : j = i
    · rw [if_pos hji] at hj'; exact hj'.elim
    · rw [if_neg hji] at hj'; exact ⟨j, hj'⟩
  · rw [if_neg hi] at e; cases e
def gsNil : List D → Env → Option Env := fun ds ρ => match ds with
  | [] => some ρ
  | _ => none
def gsCons (f : D → Env → Option Env) (g : List D → Env → Option Env) : List D → Env → Option Env := fun ds ρ => match ds with
  | d :: r => match f d ρ with
    | some ρ1 => g r ρ1
    | none => none
  | [] => none
def gTupM (g : List D → Env → Option Env) : D → Env → Option Env := fun d ρ => match d with
  | .tuple ds => g ds ρ
  | _ => none
theorem sndgs_nil : SndGs P w K Θ io gNil gsNil := fun σ H Hm ρ fp ok vs ds r ρ' e Q q => by
  cases r with
  | nil => cases e; exact ⟨rfl, q σ fp ok (Keep.refl _ _) fun _ z => z⟩
  | cons _ _ => cases e
theorem sndgs_cons {t : TG} {u : TGs} {f : D → Env → Option Env} {g : List D → Env → Option Env} (h1 : SndG P w K Θ io t f) (h2 : SndGs P w K Θ io u g) : SndGs P w K Θ io (gCons t u) (gsCons f g) := fun σ H Hm ρ fp ok vs ds r ρ' e Q q => by
  cases r with
  | nil => cases e
  | cons a b =>
    rename_i v vs d ds
    have e' : (match f d ρ with | some ρ1 => g ds ρ1 | none => none) = some ρ' := e
    cases e1 : f d ρ with
    | none => rw [e1] at e'; cases e'
    | some ρ1 =>
      rw [e1] at e'
      exact ⟨v, vs, rfl, h1 σ H Hm ρ fp ok v d a ρ1 e1 _ fun σ1 fp1 ok1 k1 s1 => h2 σ1 H Hm ρ1 fp1 ok1 vs ds b ρ' e' Q fun σ2 fp2 ok2 k2 s2 => q σ2 fp2 ok2 (k1.trans k2) fun p z => s1 p (s2 p z)⟩
theorem sndg_tup {n : Nat} {t : TGs} {g : List D → Env → Option Env} (h : SndGs P w K Θ io t g) : SndG P w K Θ io (gTup K n t) (gTupM fun ds ρ => if ds.length = n then g ds ρ else none) := fun σ H Hm ρ fp ok v d r ρ' e Q q => by
  cases r with
  | tup hs ha =>
    rename_i a xs ds
    have e' : (if ds.length = n then g ds ρ else none) = some ρ' := e
    by_cases hl : ds.length = n
    · rw [if_pos hl] at e'
      exact ⟨a, xs, rfl, sqT_mono (.of ok.sub) hs, by rw [ha.length]; exact hl, h σ H Hm ρ fp ok xs ds ha ρ' e' Q q⟩
    · rw [if_neg hl] at e'; cases e'
  | _ => cases e
/-- target = e, the value shared -/
def sAsg (g : D → Env → Option Env) (f : M R) : SM := sE (mbind f toSh) fun d ρ => match g d ρ with
  | some ρ' => some (.nx ρ')
  | none => none
theorem toSh_noerr {r : R} {ρ : Env} {er : Ex × Env} (e1 : toSh r ρ = some (.error er)) : False := by
  cases r with
  | v o =>
    have e' : (match asD o with | some d => some (Except.ok (d, ρ)) | none => none : Option (Res D)) = some (.error er) := e1
    cases q : asD o with
    | none => rw [q] at e'; cases e'
    | some d' => rw [q] at e'; cases e'
  | pl i =>
    have e' : (match ρ[i]? with | some (some o) => (match asD o with | some d => some (Except.ok (d, ρ.set i (some (.sh d)))) | none => none) | _ => none : Option (Res D)) = some (.error er) := e1
    split at e'
    · split at e' <;> cases e'
    · cases e'
def relD (P : Program) (w : World) (K : PySem.W.Frag) : L2.St → Env → Hp → Hp → V → D → Fp → Prop := fun _ _ _ Hm v d F => Rp P w K Hm v d ∧ F = noF
abbrev SndD (P : Program) (w : World) (K : PySem.W.Frag) (Θ : Nat → ObSem) (W : WX) (t : TE) (f : M D) : Prop := Snd P w K Θ (relD P w K) W t f
theorem snd_d {te : TE} {f : M R} (h : SndE P w K Θ W te f) : SndD P w K Θ W te (mbind f toSh) := fun σ H Hm ρ fp ok res e Q q => by
  refine Snd.then h (u := fun x _ H1 Q => Q x H1) (rel' := relD P w K) (g := toSh) (fun r b σ H Hm ρ fp Fo ok hr d res e Q q => ?_) σ H Hm ρ fp ok res e Q q
  cases res with
  | error er => exact (toSh_noerr e).elim
  | ok p =>
    obtain ⟨d', ρ1⟩ := p
    obtain ⟨Hm1, fp1, ok1, r1, g1⟩ := toSh_ok ok hr d e
    exact q b H Hm1 fp1 noF ok1 ⟨r1, rfl⟩ (fun _ z => z.elim) (g1.to fun p z => z.elim id fun y => y.elim)
theorem snds_asg {te : TE} {g : TG} {f : M R} {m : D → Env → Option Env} (h : SndE P w K Θ W te f) (hg : SndG P w K Θ io g m) : SndS P w K Θ W io (tAsg te g) (sAsg m f) := by
  refine Snd.stmt (snd_d h) (u := fun x D σ H1 => g x σ H1 D.nx) fun a b σ H Hm ρ fp Fo ok hr d out e D q => ?_
  obtain ⟨hr, rfl⟩ := hr
  split at e
  · rename_i ρ' e1
    cases e
    exact hg σ H Hm ρ fp ok b a hr ρ' e1 _ fun σ' fp' ok' k' s' => q σ' H Hm fp' ok' k' ⟨Up.refl _, fun p u a b c => ⟨a, b, fun z => c (.inl (s' p z))⟩⟩
  · cases e

/-! ### loops -/
/-- what a for walks: the items, as shared data -/
def SndI (P : Program) (w : World) (K : PySem.W.Frag) (Θ : Nat → ObSem) (W : WX) (wi : TI) (f : M (List D)) : Prop :=
  ∀ σ H Hm ρ fp, Ok P w K Θ σ H Hm ρ fp → ∀ res, f ρ = some res → ∀ Rr : It → Hp → Prop,
    (match res with
     | .ok (ds, ρ1) => ∀ J H1 Hm1 fp1, Ok P w K Θ σ H1 Hm1 ρ1 fp1 → Grow H Hm (all fp) H1 Hm1 (all fp1) →
        (∃ G Y, Walk J ds.length G Y ∧ (∀ H' Hm', Up Hm1 Hm' → Same Hm' H' → G H') ∧
          ∀ i H' Hm' x H'', i < ds.length → Up Hm1 Hm' → Same Hm' H' → Y i H' x H'' → ∃ Hm'' d, Fresh H' Hm' H'' Hm'' noF ∧ ds[i]? = some d ∧ Rp P w K Hm'' x d) → Rr J H1
     | .error (e, ρ1) => ∀ cls d H1 Hm1 fp1, Ok P w K Θ σ H1 Hm1 ρ1 fp1 → XOk P w K H1 Hm1 cls d e → Grow H Hm (all fp) H1 Hm1 (all fp1) → W cls d σ H1) → wi σ H Rr
def loop (g : D → Env → Option Env) (body : SM) : List D → Env → Option Out
  | [], ρ => some (.nx ρ)
  | d :: ds, ρ => match g d ρ with
    | none => none
    | some ρ1 => match body ρ1 with
      | some (.nx ρ2) => loop g body ds ρ2
      | some (.ct ρ2) => loop g body ds ρ2
      | some (.bk ρ2) => some (.nx ρ2)
      | o => o
def sFor (src : M (List D)) (g : D → Env → Option Env) (body : SM) : SM := sE src (loop g body)
theorem snds_for {wi : TI} {g : TG} {tb : TS} {f : M (List D)} {m : D → Env → Option Env} {b : SM} (hi : SndI P w K Θ W wi f) (hg : SndG P w K Θ io g m) (hb : SndS P w K Θ W io tb b) : SndS P w K Θ W io (tFor wi g tb) (sFor f m b) := fun σ H Hm ρ fp ok out e D q => by
  unfold sFor sE at e
  cases e1 : f ρ with
  | none => simp only [e1] at e; cases e
  | some r1 =>
    refine hi σ H Hm ρ fp ok r1 e1 _ ?_
    cases r1 with
    | error er =>
      obtain ⟨er, ρ1⟩ := er
      simp only [e1] at e; cases e
      exact fun cls d H' Hm' fp' ok' x g' => q cls d σ H' Hm' fp' ok' (Keep.refl _ _) x g'
    | ok p1 =>
      obtain ⟨ds, ρ1⟩ := p1
      simp only [e1] at e
      intro J H1 Hm1 fp1 ok1 g1 ⟨G, Y, wk, hG, hY⟩
      refine for_it wk (fun i σ' H' => ∃ Hm' ρ' fp', Ok P w K Θ σ' H' Hm' ρ' fp' ∧ Keep io σ σ' ∧ Grow H1 Hm1 (all fp1) H' Hm' (all fp') ∧ loop m b (ds.drop i) ρ' = some out)
        ⟨Hm1, ρ1, fp1, ok1, Keep.refl _ _, Grow.refl, e⟩ (fun i σ' H' _ ⟨Hm', ρ', fp', ok', _, g', _⟩ => hG H' Hm' g'.sh ok'.sub) (fun i x σ' H' H'' hi ⟨Hm', ρ', fp', ok', k', g', el⟩ y => ?_) (fun σ' H' ⟨Hm', ρ', fp', ok', k', g', el⟩ => ?_)
      · obtain ⟨Hm2, d, fr, hd, rd⟩ := hY i H' Hm' x H'' hi g'.sh ok'.sub y
        obtain ⟨ok2, _, g2⟩ := fr.ok ok'
        rw [orF_noF] at g2
        have hdr : ds.drop i = d :: ds.drop (i + 1) := by
          rw [List.drop_eq_getElem_cons hi]
          rw [List.getElem?_eq_getElem hi] at hd
          rw [Option.some.inj hd]
        rw [hdr] at el
        have el' : (match m d ρ' with | none => none | some ρ1 => match b ρ1 with | some (.nx ρ2) => loop m b (ds.drop (i + 1)) ρ2 | some (.ct ρ2) => loop m b (ds.drop (i + 1)) ρ2 | some (.bk ρ2) => some (.nx ρ2) | o => o : Option Out) = some out := el
        cases e3 : m d ρ' with
        | none => rw [e3] at el'; cases el'
        | some ρ3 =>
          rw [e3] at el'
          refine hg σ' H'' Hm2 ρ' fp' ok2 x d rd ρ3 e3 _ fun σ3 fp3 ok3 k3 s3 => ?_
          have g3 : Grow H1 Hm1 (all fp1) H'' Hm2 (all fp3) := (g'.trans g2).to s3
          simp only at el'
          cases e4 : b ρ3 with
          | none => rw [e4] at el'; cases el'
          | some o4 =>
            rw [e4] at el'
            refine hb σ3 H'' Hm2 ρ3 fp3 ok3 o4 e4 _ ?_
            cases o4 with
            | nx ρ4 => exact fun σ4 H4 Hm4 fp4 ok4 k4 g4 => ⟨Hm4, ρ4, fp4, ok4, (k'.trans k3).trans k4, g3.trans g4, el'⟩
            | ct ρ4 => exact fun σ4 H4 Hm4 fp4 ok4 k4 g4 => ⟨Hm4, ρ4, fp4, ok4, (k'.trans k3).trans k4, g3.trans g4, el'⟩
            | bk ρ4 =>
              cases el'
              exact fun σ4 H4 Hm4 fp4 ok4 k4 g4 => q σ4 H4 Hm4 fp4 ok4 ((k'.trans k3).trans k4) (g1.trans (g3.trans g4))
            | rt r ρ4 =>
              cases el'
              exact fun v σ4 H4 Hm4 fp4 Fo4 ok4 k4 r4 d4 g4 => q v σ4 H4 Hm4 fp4 Fo4 ok4 ((k'.trans k3).trans k4) r4 d4 (g1.trans (g3.trans g4))
            | ex x ρ4 =>
              cases el'
              exact fun cls d σ4 H4 Hm4 fp4 ok4 k4 x4 g4 => q cls d σ4 H4 Hm4 fp4 ok4 ((k'.trans k3).trans k4) x4 (g1.trans (g3.trans g4))
      · rw [List.drop_of_length_le (Nat.le_refl _)] at el
        cases el
        exact q σ' H' Hm' fp' ok' k' (g1.trans g')
/-- while, with fuel -/
def wloop (c : M Bool) (body : SM) : Nat → Env → Option Out
  | 0, _ => none
  | n + 1, ρ => match c ρ with
    | none => none
    | some (.error (e, ρ1)) => some (.ex e ρ1)
    | some (.ok (false, ρ1)) => some (.nx ρ1)
    | some (.ok (true, ρ1)) => match body ρ1 with
      | some (.nx ρ2) => wloop c body n ρ2
      | some (.ct ρ2) => wloop c body n ρ2
      | some (.bk ρ2) => some (.nx ρ2)
      | o => o
def sWhile (n : Nat) (c : M Bool) (body : SM) : SM := wloop c body n
theorem snds_while {c : TT} {tb : TS} {n : Nat} {m : M Bool} {b : SM} (hc : SndT P w K Θ W c m) (hb : SndS P w K Θ W io tb b) : SndS P w K Θ W io (tWhile c tb) (sWhile n m b) := fun σ H Hm ρ fp ok out e D q => by
  refine ⟨fun k σ' H' => ∃ Hm' ρ' fp', Ok P w K Θ σ' H' Hm' ρ' fp' ∧ Keep io σ σ' ∧ Grow H Hm (all fp) H' Hm' (all fp') ∧ wloop m b k ρ' = some out, ⟨n, Hm, ρ, fp, ok, Keep.refl _ _, Grow.refl, e⟩, ?_⟩
  rintro k σ' H' ⟨Hm', ρ', fp', ok', k', g', el⟩
  cases k with
  | zero => cases el
  | succ k =>
    unfold wloop at el
    cases e1 : m ρ' with
    | none => simp only [e1] at el; cases el
    | some r1 =>
      refine hc σ' H' Hm' ρ' fp' ok' r1 e1 _ ?_
      cases r1 with
      | error er =>
        obtain ⟨er, ρ1⟩ := er
        simp only [e1] at el; cases el
        exact fun cls d H2 Hm2 fp2 ok2 x2 g2 => q cls d σ' H2 Hm2 fp2 ok2 k' x2 (g'.trans g2)
      | ok p1 =>
        obtain ⟨c1, ρ1⟩ := p1
        intro b1 H1 Hm1 fp1 Fo1 ok1 hr d1 g1
        obtain ⟨rfl, rfl⟩ := hr
        rw [orF_noF] at g1
        cases b1 with
        | false =>
          simp only [e1] at el; cases el
          rw [if_neg (by decide)]
          exact q σ' H1 Hm1 fp1 ok1 k' (g'.trans g1)
        | true =>
          simp only [e1] at el
          rw [if_pos rfl]
          refine ⟨fun σ2 H2 => ∃ Hm2 ρ2 fp2, Ok P w K Θ σ2 H2 Hm2 ρ2 fp2 ∧ Keep io σ σ2 ∧ Grow H Hm (all fp) H2 Hm2 (all fp2) ∧ wloop m b k ρ2 = some out, fun σ2 H2 z => ⟨k, Nat.lt_succ_self _, z⟩, ?_⟩
          cases e4 : b ρ1 with
          | none => rw [e4] at el; cases el
          | some o4 =>
            rw [e4] at el
            refine hb σ' H1 Hm1 ρ1 fp1 ok1 o4 e4 _ ?_
            cases o4 with
            | nx ρ4 => exact fun σ4 H4 Hm4 fp4 ok4 k4 g4 => ⟨Hm4, ρ4, fp4, ok4, k'.trans k4, (g'.trans g1).trans g4, el⟩
            | ct ρ4 => exact fun σ4 H4 Hm4 fp4 ok4 k4 g4 => ⟨Hm4, ρ4, fp4, ok4, k'.trans k4, (g'.trans g1).trans g4, el⟩
            | bk ρ4 =>
              cases el
              exact fun σ4 H4 Hm4 fp4 ok4 k4 g4 => q σ4 H4 Hm4 fp4 ok4 (k'.trans k4) ((g'.trans g1).trans g4)
            | rt r ρ4 =>
              cases el
              exact fun v σ4 H4 Hm4 fp4 Fo4 ok4 k4 r4 d4 g4 => q v σ4 H4 Hm4 fp4 Fo4 ok4 (k'.trans k4) r4 d4 ((g'.trans g1).trans g4)
            | ex x ρ4 =>
              cases el
              exact fun cls d σ4 H4 Hm4 fp4 ok4 k4 x4 g4 => q cls d σ4 H4 Hm4 fp4 ok4 (k'.trans k4) x4 ((g'.trans g1).trans g4)
end
end Wl

/- text WlD -/
set_option Elab.async false
set_option maxRecDepth 100000
namespace Wl
open PySem PySem.Spec L2
open PyProof.Rows hiding St

/-! ### what a def does: its arguments' things to its result and the arguments' things behind it -/
abbrev Fn := List O → Option (Except (Ex × List O) (O × List O))
def SpF (P : Program) (w : World) (K : PySem.W.Frag) (Θ : Nat → ObSem) (np : Nat) (φ : Fn) : Sp := fun vs H Q E =>
  vs.length = np ∧ ∃ os Hm fp, Ok P w K Θ (vs.map some) H Hm (os.map some) fp ∧ ∃ res, φ os = some res ∧ match res with
    | .ok (o, outs) => ∀ v H' Hm' fp' Fo, Ok P w K Θ (vs.map some) H' Hm' (outs.map some) fp' → OOk P w K Θ H' Hm' v o Fo → (∀ p, Fo p → ¬ all fp' p) → Grow H Hm (all fp) H' Hm' (orF (all fp') Fo) → Q v H'
    | .error (e, outs) => ∀ cls d H' Hm' fp', Ok P w K Θ (vs.map some) H' Hm' (outs.map some) fp' → XOk P w K H' Hm' cls d e → Grow H Hm (all fp) H' Hm' (all fp') → E cls d H'

/-- the outs: an argument that is owned may have changed -/
def outsOf (io : List Nat) (os : List O) (ρ : Env) : Option (List O) :=
  (List.range os.length).mapM fun k => if k ∈ io then (ρ[k]?).join else os[k]?
def okArgs (io : List Nat) (os : List O) : Bool := (List.range os.length).all fun k => k ∈ io || match os[k]? with
  | some (.sh _) => true
  | _ => false
/-- the def of a body -/
def fnOf (n np : Nat) (io : List Nat) (body : SM) : Fn := fun os =>
  if os.length = np ∧ okArgs io os = true then match body (os.map some ++ List.replicate (n - np) none) with
    | some (.nx ρ) => match outsOf io os ρ with
      | some outs => some (.ok (.sh .none, outs))
      | none => none
    | some (.rt (.v o) ρ) => match outsOf io os ρ with
      | some outs => some (.ok (o, outs))
      | none => none
    | some (.rt (.pl i) ρ) => if i ∈ io then none else match ρ[i]?, outsOf io os ρ with
      | some (some o), some outs => some (.ok (o, outs))
      | _, _ => none
    | some (.ex e ρ) => match outsOf io os ρ with
      | some outs => some (.error (e, outs))
      | none => none
    | _ => none
  else none

section
variable {P : Program} {w : World} {K : PySem.W.Frag} {Θ : Nat → ObSem} {W : WX} {io : List Nat}
theorem mapM_get {α β : Type} {f : α → Option β} : ∀ {l : List α} {r : List β}, l.mapM f = some r → r.length = l.length ∧ ∀ (i : Nat) (a : α), l[i]? = some a → ∃ b, f a = some b ∧ r[i]? = some b
  | [], r, e => by
    simp at e; subst e; exact ⟨rfl, fun i a h => by simp at h⟩
  | a :: l, r, e => by
    rw [List.mapM_cons] at e
    cases h1 : f a with
    | none => rw [h1] at e; cases e
    | some b =>
      rw [h1] at e
      cases h2 : l.mapM f with
      | none => simp [h2] at e
      | some r' =>
        simp [h2] at e
        subst e
        obtain ⟨l1, g⟩ := mapM_get h2
        refine ⟨by simp [l1], fun i x hx => ?_⟩
        cases i with
        | zero => simp at hx; subst hx; exact ⟨b, h1, rfl⟩
        | succ i => simp at hx; simpa using g i x hx
theorem outsOf_get {os outs : List O} {ρ : Env} (e : outsOf io os ρ = some outs) : outs.length = os.length ∧ ∀ k o, outs[k]? = some o → (k ∈ io ∧ ρ[k]? = some (some o)) ∨ (k ∉ io ∧ os[k]? = some o) := by
  obtain ⟨h1, h2⟩ := mapM_get e
  rw [List.length_range] at h1
  refine ⟨h1, fun k o hk => ?_⟩
  have hlt : k < os.length := by rw [← h1]; exact (List.getElem?_eq_some_iff.mp hk).1
  obtain ⟨b, h3, h4⟩ := h2 k k (by simp [List.getElem?_range, hlt])
  rw [hk] at h4; cases h4
  by_cases hm : k ∈ io
  · rw [if_pos hm] at h3
    refine .inl ⟨hm, ?_⟩
    cases q : ρ[k]? with
    | none => rw [q] at h3; cases h3
    | some z => rw [q] at h3; rw [show z = some o from h3]
  · rw [if_neg hm] at h3; exact .inr ⟨hm, h3⟩
theorem okArgs_get {os : List O} (e : okArgs io os = true) {k : Nat} {o : O} (h : os[k]? = some o) (hk : k ∉ io) : ∃ d, o = .sh d := by
  have hlt := (List.getElem?_eq_some_iff.mp h).1
  have := List.all_eq_true.mp e k (List.mem_range.mpr hlt)
  rw [Bool.or_eq_true, h] at this
  rcases this with h | h
  · exact absurd (of_decide_eq_true h) hk
  · cases o with
    | sh d => exact ⟨d, rfl⟩
    | _ => cases h
theorem start_ok {n : Nat} {N : List Str} {vs : List V} {os : List O} {H Hm : Hp} {fp : Nat → Fp} (hN : N.length = n) (ok : Ok P w K Θ (vs.map some) H Hm (os.map some) fp) : Ok P w K Θ (L2.start N vs) H Hm (os.map some ++ List.replicate (n - os.length) none) fp := by
  have hl : vs.length = os.length := by simpa using ok.len
  refine ⟨by unfold L2.start; simp [hl, hN], ok.sub, fun i v o h1 h2 => ?_, fun i hi => ok.out i (by simp at hi ⊢; omega), ok.apart⟩
  unfold L2.start at h1
  by_cases hi : i < os.length
  · rw [List.getElem?_append_left (by simpa [hl] using hi)] at h1
    rw [List.getElem?_append_left (by simpa using hi)] at h2
    exact ok.slot i v o h1 h2
  · rw [List.getElem?_append_right (by simpa using Nat.le_of_not_lt hi), List.getElem?_replicate] at h2
    split at h2
    · cases h2
      exact ok.out i (by simpa using Nat.le_of_not_lt hi)
    · cases h2
/-- the arguments' things behind a body -/
theorem outs_ok {n : Nat} {N : List Str} {vs : List V} {os outs : List O} {σ' : L2.St} {H Hm H' Hm' : Hp} {ρ' : Env} {fp fp' : Nat → Fp} (ok : Ok P w K Θ (vs.map some) H Hm (os.map some) fp) (ha : okArgs io os = true) (ok' : Ok P w K Θ σ' H' Hm' ρ' fp') (k : Keep io (L2.start N vs) σ') (u : Up Hm Hm')
    (e : outsOf io os ρ' = some outs) : ∃ fo : Nat → Fp, Ok P w K Θ (vs.map some) H' Hm' (outs.map some) fo ∧ (∀ i p, fo i p → i ∈ io ∧ fp' i p) := by
  have hl : vs.length = os.length := by simpa using ok.len
  obtain ⟨l1, g⟩ := outsOf_get e
  refine ⟨fun i => if i ∈ io ∧ i < os.length then fp' i else noF, ⟨by simp [hl, l1], ok'.sub, fun i v o h1 h2 => ?_, fun i hi => ?_, fun i j p h1 h2 => ?_⟩, fun i p h => ?_⟩
  · rw [List.getElem?_map] at h1 h2
    cases h3 : outs[i]? with
    | none => rw [h3] at h2; cases h2
    | some o1 =>
      rw [h3] at h2; cases h2
      have hlt : i < os.length := by rw [← l1]; exact (List.getElem?_eq_some_iff.mp h3).1
      cases h4 : vs[i]? with
      | none => rw [h4] at h1; cases h1
      | some v1 =>
        rw [h4] at h1; cases h1
        rcases g i o1 h3 with ⟨hm, hr⟩ | ⟨hm, hr⟩
        · rw [if_pos ⟨hm, hlt⟩]
          obtain ⟨u', e1, q⟩ := ok'.at hr
          have ks := k i hm
          have hs : (L2.start N vs)[i]? = some (some v1) := by
            unfold L2.start
            rw [List.getElem?_append_left (by simpa [hl] using hlt), List.getElem?_map, h4]; rfl
          rw [hs] at ks
          rw [ks] at e1; cases e1
          exact ⟨v1, rfl, q⟩
        · rw [if_neg (fun z => hm z.1)]
          obtain ⟨d, rfl⟩ := okArgs_get ha hr hm
          obtain ⟨u', e1, q⟩ := ok.at (i := i) (o := .sh d) (by rw [List.getElem?_map, hr]; rfl)
          rw [List.getElem?_map, h4] at e1; cases e1
          exact ⟨v1, rfl, q.1.up u, rfl⟩
  · simp [l1] at hi
    show (if i ∈ io ∧ i < os.length then fp' i else noF) = noF
    rw [if_neg (fun z => by omega)]
  · have h1' : (if i ∈ io ∧ i < os.length then fp' i else noF) p := h1
    have h2' : (if j ∈ io ∧ j < os.length then fp' j else noF) p := h2
    split at h1'
    · split at h2'
      · exact ok'.apart i j p h1' h2'
      · exact h2'.elim
    · exact h1'.elim
  · have h' : (if i ∈ io ∧ i < os.length then fp' i else noF) p := h
    split at h'
    · rename_i z; exact ⟨z.1, h'⟩
    · exact h'.elim

/-- a body's walk, for any wish -/
def CSs (Θ : Nat → ObSem) (X : Cx) (W : WX) (io : List Nat) (st : List Stmt) (f : SM) : Prop := ∃ t, PSs X st t ∧ SndS X.prog X.w X.K Θ W io t f
def CS (Θ : Nat → ObSem) (X : Cx) (W : WX) (io : List Nat) (st : Stmt) (f : SM) : Prop := ∃ t, PS X st t ∧ SndS X.prog X.w X.K Θ W io t f
def CE (Θ : Nat → ObSem) (X : Cx) (W : WX) (e : Expr) (f : M R) : Prop := ∃ t, PE X e t ∧ SndE X.prog X.w X.K Θ W t f
def CT (Θ : Nat → ObSem) (X : Cx) (W : WX) (e : Expr) (f : M Bool) : Prop := ∃ t, PT X e t ∧ SndT X.prog X.w X.K Θ W t f
def CA (Θ : Nat → ObSem) (X : Cx) (W : WX) (es : List Expr) (f : M (List R)) : Prop := ∃ t, PA X es t ∧ SndA X.prog X.w X.K Θ W t f
def CI (Θ : Nat → ObSem) (X : Cx) (W : WX) (tg e : Expr) (f : M (List D)) : Prop := ∃ t, PI X tg e t ∧ SndI X.prog X.w X.K Θ W t f
def CG (Θ : Nat → ObSem) (X : Cx) (io : List Nat) (e : Expr) (f : D → Env → Option Env) : Prop := ∃ t, PG X e t ∧ SndG X.prog X.w X.K Θ io t f
def CGs (Θ : Nat → ObSem) (X : Cx) (io : List Nat) (es : List Expr) (f : List D → Env → Option Env) : Prop := ∃ t, PGs X es t ∧ SndGs X.prog X.w X.K Θ io t f

variable {mg : Str → Option Value} {base : Heap}
/-- a def's promise where no repr is under way -/
structure FnG (P : Program) (w : World) (K : PySem.W.Frag) (mg : Str → Option Value) (base : Heap) (CX : CXT) (k : Nat) (f : Addr) (fd : FuncData) (ps : List Str) (sp : Sp) : Prop where
  many : ∀ vs H Q E, sp vs H Q E → vs.length = ps.length
  goes : ∀ (A : Around) (outer : List PySem.Env) (s : Shared) (H : Hp) (args : Args) (us : List Value) (vs : List V) (Q : VK) (E : XK), A.guards = some [] → Room k A → Env0 P w K mg base A outer s H →
    BindsTo s fd args (ps.zip us) → Vals vs us → sp vs H Q E → codeAny (model P w) A (.call (.ref f) args) (CR CX outer P w H s Q E) s
theorem FnG.mono {CX : CXT} {j k : Nat} {f : Addr} {fd : FuncData} {ps : List Str} {sp : Sp} (F : FnG P w K mg base CX j f fd ps sp) (h : j ≤ k) : FnG P w K mg base CX k f fd ps sp :=
  ⟨F.many, fun A o s H ar us vs Q E g r => F.goes A o s H ar us vs Q E g (r.mono h)⟩
theorem okG {CX : CXT} {x qual : Str} {pa : Arguments} {bd : List Stmt} {sc : Scope} {f : Addr} {fd : FuncData} {N ps : List Str} {k : Nat} {sp : Sp} (F : FunD K x qual pa bd sc [] [] f fd) (S : FnScope N ps sc) (len : ∀ vs H Q E, sp vs H Q E → vs.length = ps.length)
    (hb : ∀ (cdv : Value) (A : Around) (outer : List PySem.Env) (s : Shared) (H : Hp) (vs : List V) (Q : VK) (E : XK), A.guards = some [] → Room k (A.deeper (envOfC qual sc s.heap.objs.size f cdv)) → sp vs H Q E →
      ∃ t, PSs (cxOf CX P w K mg base N qual sc f cdv A outer s H E) bd t ∧ t { nx := fun _ H' => Q .non H', rt := Q } (L2.start N vs) H) : FnG P w K mg base CX (k + 1) f fd ps sp := by
  obtain ⟨oc, od, dV, kV, doc, pm, an, cdv, ct, osl, hfd, lk, hcd, _⟩ := F.ex
  subst hfd
  refine ⟨len, fun A outer s H args us vs Q E hga hr e0 hbi rv hsp => ?_⟩
  have KX : K.In s.heap := e0.mod.kin.keeps fun c o z => (e0.bs c o z).1
  have kinds : ∀ y ∈ ps.zip us, sc.names.lookup y.1 = some .local ∨ (sc.names.lookup y.1 = some .cell ∧ ((cellsFrom (s.heap.objs.size + 1) sc.names []).lookup y.1).isSome = true) := by
    rintro ⟨n, v⟩ hy
    exact (S.par n (List.of_mem_zip hy).1).imp id fun q => ⟨q, PySem.W.cellsFrom_some _ _ _ (.inl q)⟩
  refine codeAny_call_function hr.depth (KX _ _ lk) rfl S.co S.gen rfl (PySem.W.codeRec_of KX hcd) (hbi _ _ _ _ (wpAny_newFunctionEnv_cells S.kind kinds fun env he s1 x => ?_))
  subst he
  refine ⟨(e0.mod.nolimit.keeps fun c o z => (e0.bs c o z).1).keeps x.toInCall.keep, codeAny_func ?_⟩
  obtain ⟨t, ht, hq⟩ := hb cdv A outer s H vs Q E hga (hr.deeper _) hsp
  refine wpAny_mono (ht.run [] s1 (L2.start N vs) H _ (inv_start S hr.hd e0 (len _ _ _ _ hsp) rv x) hq) (fun fl s' hs => ?_) fun e s' hs => hs
  cases fl with
  | ret u => obtain ⟨v, σ', H', J, ru, q⟩ := hs; exact ⟨v, H', J.os, J.bare, J.base, J.hok, ru, q⟩
  | next => obtain ⟨σ', H', J, q⟩ := hs; exact ⟨.non, H', J.os, J.bare, J.base, J.hok, rfl, q⟩
  | brk => obtain ⟨_, _, _, q⟩ := hs; exact q.elim
  | cont => obtain ⟨_, _, _, q⟩ := hs; exact q.elim
/-- THE DEF'S RULE -/
theorem def_ok {x qual : Str} {pa : Arguments} {bd : List Stmt} {sc : Scope} {f : Addr} {fd : FuncData} {N ps : List Str} {k n np : Nat} {body : SM} (F : FunD K x qual pa bd sc [] [] f fd) (S : FnScope N ps sc) (hn : N.length = n) (hp : ps.length = np)
    (hb : ∀ (cdv : Value) (A : Around) (outer : List PySem.Env) (s : Shared) (H : Hp) (E : XK), A.guards = some [] → Room k (A.deeper (envOfC qual sc s.heap.objs.size f cdv)) →
      CSs Θ (cxOf (L2.CX P w) P w K mg base N qual sc f cdv A outer s H E) (fun cls d _ H => E cls d H) io bd body) :
    FnG P w K mg base (L2.CX P w) (k + 1) f fd ps (SpF P w K Θ np (fnOf n np io body)) := by
  refine okG F S (fun vs H Q E h => h.1.trans hp.symm) (fun cdv A outer s H vs Q E hga hr h => ?_)
  obtain ⟨t, ht, hs⟩ := hb cdv A outer s H E hga hr
  refine ⟨t, ht, ?_⟩
  obtain ⟨hl, os, Hm, fp, ok, res, e, q⟩ := h
  have hlo : vs.length = os.length := by simpa using ok.len
  unfold fnOf at e
  by_cases hc : os.length = np ∧ okArgs io os = true
  · rw [if_pos hc] at e
    have ok0 := start_ok (N := N) hn ok
    rw [hc.1] at ok0
    cases e1 : body (os.map some ++ List.replicate (n - np) none) with
    | none => rw [e1] at e; cases e
    | some out =>
      rw [e1] at e
      refine hs (L2.start N vs) H Hm _ fp ok0 out e1 _ ?_
      cases out with
      | nx ρ1 =>
        simp only at e
        split at e
        · rename_i outs eo
          cases e
          intro σ' H' Hm' fp' ok' k' g'
          obtain ⟨fo, okO, hfo⟩ := outs_ok (n := n) (N := N) ok hc.2 ok' k' g'.sh eo
          exact q .non H' Hm' fo noF okO ⟨.non, rfl⟩ (fun _ z => z.elim) (g'.to fun p z => z.elim (fun ⟨i, hi⟩ => ⟨i, (hfo i p hi).2⟩) fun z => z.elim)
        · cases e
      | bk ρ1 => cases e
      | ct ρ1 => cases e
      | rt r ρ1 =>
        cases r with
        | v o =>
          simp only at e
          split at e
          · rename_i outs eo
            cases e
            intro v σ' H' Hm' fp' Fo ok' k' hr' d' g'
            obtain ⟨fo, okO, hfo⟩ := outs_ok (n := n) (N := N) ok hc.2 ok' k' g'.sh eo
            exact q v H' Hm' fo Fo okO hr' (fun p hp ⟨i, hi⟩ => d' p hp ⟨i, (hfo i p hi).2⟩) (g'.to fun p z => z.imp (fun ⟨i, hi⟩ => ⟨i, (hfo i p hi).2⟩) id)
          · cases e
        | pl i =>
          simp only at e
          by_cases hi : i ∈ io
          · rw [if_pos hi] at e; cases e
          · rw [if_neg hi] at e
            split at e
            · rename_i o outs er eo
              cases e
              intro v σ' H' Hm' fp' Fo ok' k' hr' d' g'
              obtain ⟨fo, okO, hfo⟩ := outs_ok (n := n) (N := N) ok hc.2 ok' k' g'.sh eo
              obtain ⟨u, eu, ou⟩ := ok'.at er
              rw [hr'.1] at eu; cases eu
              refine q v H' Hm' fo (fp' i) okO ou (fun p hp ⟨j, hj⟩ => ?_) (g'.to fun p z => .inl (z.elim (fun ⟨j, hj⟩ => ⟨j, (hfo j p hj).2⟩) fun z => ⟨i, z⟩))
              have := ok'.apart i j p hp (hfo j p hj).2
              exact hi (this ▸ (hfo j p hj).1)
            · cases e
      | ex x ρ1 =>
        simp only at e
        split at e
        · rename_i outs eo
          cases e
          intro cls d σ' H' Hm' fp' ok' k' x' g'
          obtain ⟨fo, okO, hfo⟩ := outs_ok (n := n) (N := N) ok hc.2 ok' k' g'.sh eo
          exact q cls d H' Hm' fo okO x' (g'.to fun p ⟨i, hi⟩ => ⟨i, (hfo i p hi).2⟩)
        · cases e
  · rw [if_neg hc] at e; cases e
end
end Wl

/- text WlE -/
set_option Elab.async false
set_option maxRecDepth 100000
namespace Wl
open PySem PySem.Spec L2
open PyProof.Rows hiding St

/-! ### the call of a def: modes tell for each argument whether it is shared (none) or the thing of slot i, which the def may change (some i) -/
def shArgs : List (Option Nat) → List R → Env → Option (List (Option D) × Env)
  | [], [], ρ => some ([], ρ)
  | none :: ms, r :: rs, ρ => match toSh r ρ with
    | some (.ok (d, ρ1)) => match shArgs ms rs ρ1 with
      | some (ds, ρ2) => some (some d :: ds, ρ2)
      | none => none
    | _ => none
  | some i :: ms, .pl j :: rs, ρ => if i = j then match shArgs ms rs ρ with
      | some (ds, ρ2) => some (none :: ds, ρ2)
      | none => none
    else none
  | _, _, _ => none
def osOf : List (Option Nat) → List (Option D) → Env → Option (List O)
  | [], [], _ => some []
  | none :: ms, some d :: ds, ρ => match osOf ms ds ρ with
    | some os => some (.sh d :: os)
    | none => none
  | some i :: ms, none :: ds, ρ => match ρ[i]?, osOf ms ds ρ with
    | some (some o), some os => some (o :: os)
    | _, _ => none
  | _, _, _ => none
def putOuts : List (Option Nat) → List O → Env → Env
  | some i :: ms, o :: os, ρ => putOuts ms os (ρ.set i (some o))
  | none :: ms, _ :: os, ρ => putOuts ms os ρ
  | _, _, ρ => ρ
def ndModes (ms : List (Option Nat)) : Bool := decide (ms.filterMap id).Nodup
def eCall (φ : Fn) (ms : List (Option Nat)) (f : M (List R)) : M R := mbind f fun rs ρ => match shArgs ms rs ρ with
  | none => none
  | some (ds, ρ1) => match osOf ms ds ρ1 with
    | none => none
    | some os => if ndModes ms then match φ os with
      | none => none
      | some (.ok (o, outs)) => some (.ok (.v o, putOuts ms outs ρ1))
      | some (.error (e, outs)) => some (.error (e, putOuts ms outs ρ1))
      else none

section
variable {P : Program} {w : World} {K : PySem.W.Frag} {Θ : Nat → ObSem} {W : WX} {io : List Nat}
def AR (P : Program) (w : World) (K : PySem.W.Frag) (σ : L2.St) (Hm : Hp) : List (Option Nat) → List V → List (Option D) → Prop
  | [], [], [] => True
  | none :: ms, v :: vs, some d :: ds => Rp P w K Hm v d ∧ AR P w K σ Hm ms vs ds
  | some i :: ms, v :: vs, none :: ds => σ[i]? = some (some v) ∧ AR P w K σ Hm ms vs ds
  | _, _, _ => False
theorem AR.up {σ : L2.St} {Hm Hm' : Hp} (u : Up Hm Hm') : ∀ {ms : List (Option Nat)} {vs : List V} {ds : List (Option D)}, AR P w K σ Hm ms vs ds → AR P w K σ Hm' ms vs ds
  | [], [], [], _ => trivial
  | none :: ms, v :: vs, some d :: ds, h => ⟨h.1.up u, AR.up u h.2⟩
  | some i :: ms, v :: vs, none :: ds, h => ⟨h.1, AR.up u h.2⟩
  | [], _ :: _, _, h => h.elim
  | [], [], _ :: _, h => h.elim
  | none :: _, [], _, h => h.elim
  | some _ :: _, [], _, h => h.elim
  | none :: _, _ :: _, [], h => h.elim
  | none :: _, _ :: _, none :: _, h => h.elim
  | some _ :: _, _ :: _, [], h => h.elim
  | some _ :: _, _ :: _, some _ :: _, h => h.elim
theorem toSh_still {r : R} {ρ ρ' : Env} {d : D} (e : toSh r ρ = some (.ok (d, ρ'))) {i : Nat} (h : ∃ o, ρ[i]? = some (some o)) : ∃ o, ρ'[i]? = some (some o) := by
  cases r with
  | v o =>
    have e' : (match asD o with | some d => some (Except.ok (d, ρ)) | none => none : Option (Res D)) = some (.ok (d, ρ')) := e
    cases q : asD o with
    | none => rw [q] at e'; cases e'
    | some d' => rw [q] at e'; cases e'; exact h
  | pl j =>
    have e' : (match ρ[j]? with | some (some o) => (match asD o with | some d => some (Except.ok (d, ρ.set j (some (.sh d)))) | none => none) | _ => none : Option (Res D)) = some (.ok (d, ρ')) := e
    split at e'
    · rename_i o eo
      split at e'
      · rename_i d' _
        cases e'
        by_cases hj : j = i
        · subst hj; exact ⟨_, getElem?_set_self' eo⟩
        · rw [List.getElem?_set_ne hj]; exact h
      · cases e'
    · cases e'
theorem RLOk.stills' {σ : L2.St} {ρ ρ' : Env} {H Hm : Hp} (t : ∀ i : Nat, (∃ o, ρ[i]? = some (some o)) → ∃ o, ρ'[i]? = some (some o)) : ∀ {vs : List V} {rs : List R} {F : Fp}, RLOk P w K Θ σ ρ H Hm vs rs F → stills rs ρ' = true
  | [], [], _, _ => rfl
  | v :: vs, r :: rs, _, ⟨F1, F2, h1, h2, _, _⟩ => by
    show (still r ρ' && stills rs ρ') = true
    rw [RLOk.stills' t h2, Bool.and_true]
    cases r with
    | v o => rfl
    | pl i =>
      obtain ⟨o, ho⟩ := t i h1.2.1
      show (match ρ'[i]? with | some (some _) => true | _ => false) = true
      rw [ho]
  | [], _ :: _, _, h => h.elim
  | _ :: _, [], _, h => h.elim
theorem shArgs_ok {σ : L2.St} {H : Hp} : ∀ {ms : List (Option Nat)} {vs : List V} {rs : List R} {ρ ρ1 : Env} {Hm : Hp} {fp : Nat → Fp} {F : Fp} {ds : List (Option D)}, Ok P w K Θ σ H Hm ρ fp → RLOk P w K Θ σ ρ H Hm vs rs F → (∀ p, F p → ¬ all fp p) → shArgs ms rs ρ = some (ds, ρ1) →
    ∃ Hm1 fp1, Ok P w K Θ σ H Hm1 ρ1 fp1 ∧ Grow H Hm (orF (all fp) F) H Hm1 (all fp1) ∧ AR P w K σ Hm1 ms vs ds := by
  intro ms
  induction ms with
  | nil =>
    intro vs rs ρ ρ1 Hm fp F ds ok h dj e
    cases rs with
    | nil =>
      cases vs with
      | nil =>
        cases e
        rw [show F = noF from h, orF_noF]
        exact ⟨Hm, fp, ok, Grow.refl, trivial⟩
      | cons _ _ => exact h.elim
    | cons _ _ => cases e
  | cons m ms ih =>
    intro vs rs ρ ρ1 Hm fp F ds ok h dj e
    cases rs with
    | nil => cases m <;> cases e
    | cons r rs =>
      cases vs with
      | nil => exact h.elim
      | cons v vs =>
        obtain ⟨F1, F2, h1, h2, h3, rfl⟩ := h
        cases m with
        | none =>
          unfold shArgs at e
          split at e
          · rename_i d ρ2 e1
            split at e
            · rename_i ds' ρ3 e2
              cases e
              obtain ⟨Hm2, fp2, ok2, r2, g2⟩ := toSh_ok ok h1 (fun p hp => dj p (.inl hp)) e1
              obtain ⟨h2', d2⟩ := RLOk.beside h2 (fun p hp z => z.elim (dj p (.inr hp)) fun y => h3 p y hp) g2 (RLOk.stills' (fun i => toSh_still e1) h2)
              obtain ⟨Hm3, fp3, ok3, g3, a3⟩ := ih ok2 h2' d2 e2
              refine ⟨Hm3, fp3, ok3, ⟨g2.sh.trans g3.sh, fun p u a b c => ?_⟩, r2.up g3.sh, a3⟩
              obtain ⟨k1, k2, k3⟩ := g2.far p u a b fun z => c (z.imp id .inl)
              exact g3.far p u k1 k2 fun z => z.elim k3 fun z => c (.inr (.inr z))
            · cases e
          · cases e
        | some i =>
          cases r with
          | v o => cases e
          | pl j =>
            unfold shArgs at e
            by_cases hij : i = j
            · rw [if_pos hij] at e
              split at e
              · rename_i ds' ρ3 e2
                cases e
                obtain ⟨z1, _, z3⟩ := h1
                subst z3
                obtain ⟨Hm3, fp3, ok3, g3, a3⟩ := ih ok h2 (fun p hp => dj p (.inr hp)) e2
                exact ⟨Hm3, fp3, ok3, ⟨g3.sh, fun p u a b c => g3.far p u a b fun z => c (z.imp id .inr)⟩, by rw [hij]; exact z1, a3⟩
              · cases e
            · rw [if_neg hij] at e; cases e
theorem osOf_ok {σ : L2.St} {Hm : Hp} {ρ : Env} : ∀ {ms : List (Option Nat)} {vs : List V} {ds : List (Option D)} {os : List O}, AR P w K σ Hm ms vs ds → osOf ms ds ρ = some os →
    vs.length = os.length ∧ ms.length = os.length ∧ ∀ (k : Nat) (v : V) (o : O), vs[k]? = some v → os[k]? = some o → (∃ d, ms[k]? = some none ∧ o = .sh d ∧ Rp P w K Hm v d) ∨ ∃ i, ms[k]? = some (some i) ∧ σ[i]? = some (some v) ∧ ρ[i]? = some (some o)
  | [], [], [], os, _, e => by cases e; exact ⟨rfl, rfl, fun k v o h1 h2 => by simp at h1⟩
  | none :: ms, v :: vs, some d :: ds, os, h, e => by
    unfold osOf at e
    split at e
    · rename_i os' e1
      cases e
      obtain ⟨l1, l2, g⟩ := osOf_ok h.2 e1
      refine ⟨by simp [l1], by simp [l2], fun k v' o' h1 h2 => ?_⟩
      cases k with
      | zero => simp at h1 h2; subst h1 h2; exact .inl ⟨d, rfl, rfl, h.1⟩
      | succ k => simp at h1 h2; simpa using g k v' o' h1 h2
    · cases e
  | some i :: ms, v :: vs, none :: ds, os, h, e => by
    unfold osOf at e
    split at e
    · rename_i o os' e0 e1
      cases e
      obtain ⟨l1, l2, g⟩ := osOf_ok h.2 e1
      refine ⟨by simp [l1], by simp [l2], fun k v' o' h1 h2 => ?_⟩
      cases k with
      | zero => simp at h1 h2; subst h1 h2; exact .inr ⟨i, rfl, h.1, e0⟩
      | succ k => simp at h1 h2; simpa using g k v' o' h1 h2
    · cases e
  | [], _ :: _, _, _, h, _ => h.elim
  | [], [], _ :: _, _, h, _ => h.elim
  | none :: _, [], _, _, h, _ => h.elim
  | some _ :: _, [], _, _, h, _ => h.elim
  | none :: _, _ :: _, [], _, h, _ => h.elim
  | none :: _, _ :: _, none :: _, _, h, _ => h.elim
  | some _ :: _, _ :: _, [], _, h, _ => h.elim
  | some _ :: _, _ :: _, some _ :: _, _, h, _ => h.elim
theorem putOuts_get : ∀ {ms : List (Option Nat)} {outs : List O} {ρ : Env}, (ms.filterMap id).Nodup → ms.length = outs.length → (putOuts ms outs ρ).length = ρ.length ∧
    (∀ (k i : Nat) (o : O), ms[k]? = some (some i) → outs[k]? = some o → i < ρ.length → (putOuts ms outs ρ)[i]? = some (some o)) ∧ (∀ i : Nat, (∀ k : Nat, ms[k]? ≠ some (some i)) → (putOuts ms outs ρ)[i]? = ρ[i]?)
  | [], [], ρ, _, _ => ⟨rfl, fun k i o h => by simp at h, fun i _ => rfl⟩
  | none :: ms, o :: outs, ρ, nd, hl => by
    obtain ⟨g0, g1, g2⟩ := putOuts_get (ms := ms) (outs := outs) (ρ := ρ) (by simpa using nd) (by simpa using hl)
    refine ⟨g0, fun k i o' h1 h2 h3 => ?_, fun i h => g2 i fun k => by simpa using h (k + 1)⟩
    cases k with
    | zero => simp at h1
    | succ k => simp at h1 h2; exact g1 k i o' h1 h2 h3
  | some j :: ms, o :: outs, ρ, nd, hl => by
    have nd' : j ∉ ms.filterMap id ∧ (ms.filterMap id).Nodup := by simpa using nd
    obtain ⟨g0, g1, g2⟩ := putOuts_get (ms := ms) (outs := outs) (ρ := ρ.set j (some o)) nd'.2 (by simpa using hl)
    refine ⟨by show (putOuts ms outs (ρ.set j (some o))).length = _; rw [g0, List.length_set], fun k i o' h1 h2 h3 => ?_, fun i h => ?_⟩
    · cases k with
      | zero =>
        simp at h1 h2; subst h1 h2
        show (putOuts ms outs (ρ.set j (some o)))[j]? = _
        rw [g2 j fun k hk => nd'.1 (List.mem_filterMap.mpr ⟨some j, List.mem_of_getElem? hk, rfl⟩), List.getElem?_set_self h3]
      | succ k => simp at h1 h2; exact g1 k i o' h1 h2 (by rw [List.length_set]; exact h3)
    · show (putOuts ms outs (ρ.set j (some o)))[i]? = _
      rw [g2 i fun k => by simpa using h (k + 1), List.getElem?_set_ne]
      intro z; subst z
      exact h 0 rfl
  | [], _ :: _, _, _, h => by simp at h
  | _ :: _, [], _, _, h => by simp at h
theorem nd_idx {ms : List (Option Nat)} (nd : (ms.filterMap id).Nodup) : ∀ {k l i : Nat}, ms[k]? = some (some i) → ms[l]? = some (some i) → k = l := by
  induction ms with
  | nil => intro k l i h; simp at h
  | cons m ms ih =>
    intro k l i h1 h2
    have hin : ∀ {k : Nat}, ms[k]? = some (some i) → i ∈ ms.filterMap id := fun hk => List.mem_filterMap.mpr ⟨some i, List.mem_of_getElem? hk, rfl⟩
    cases m with
    | none =>
      cases k with
      | zero => simp at h1
      | succ k =>
        cases l with
        | zero => simp at h2
        | succ l => simp at h1 h2; rw [ih (by simpa using nd) h1 h2]
    | some j =>
      have nd' : j ∉ ms.filterMap id ∧ (ms.filterMap id).Nodup := by simpa using nd
      cases k with
      | zero =>
        cases l with
        | zero => rfl
        | succ l => simp at h1 h2; subst h1; exact absurd (hin h2) nd'.1
      | succ k =>
        cases l with
        | zero => simp at h1 h2; subst h2; exact absurd (hin h1) nd'.1
        | succ l => simp at h1 h2; rw [ih nd'.2 h1 h2]
/-- the parts of the things that are handed over -/
def fpC (ms : List (Option Nat)) (fp : Nat → Fp) : Nat → Fp := fun k => match ms[k]? with
  | some (some i) => fp i
  | _ => noF
theorem fpC_of {ms : List (Option Nat)} {fp : Nat → Fp} {k : Nat} {p : Addr} (h : fpC ms fp k p) : ∃ i, ms[k]? = some (some i) ∧ fp i p := by
  have h' : (match ms[k]? with | some (some i) => fp i | _ => noF) p := h
  cases q : ms[k]? with
  | none => rw [q] at h'; exact h'.elim
  | some z =>
    cases z with
    | none => rw [q] at h'; exact h'.elim
    | some i => rw [q] at h'; exact ⟨i, rfl, h'⟩
theorem callee_ok {σ : L2.St} {H Hm : Hp} {ρ : Env} {fp : Nat → Fp} {ms : List (Option Nat)} {vs : List V} {ds : List (Option D)} {os : List O} (ok : Ok P w K Θ σ H Hm ρ fp) (a : AR P w K σ Hm ms vs ds) (e : osOf ms ds ρ = some os) (nd : (ms.filterMap id).Nodup) :
    Ok P w K Θ (vs.map some) H Hm (os.map some) (fpC ms fp) ∧ ms.length = os.length := by
  obtain ⟨l1, l2, g⟩ := osOf_ok a e
  refine ⟨⟨by simp [l1], ok.sub, fun k v o h1 h2 => ?_, fun k hk => ?_, fun k l p h1 h2 => ?_⟩, l2⟩
  · rw [List.getElem?_map] at h1 h2
    cases h3 : vs[k]? with
    | none => rw [h3] at h1; cases h1
    | some v1 =>
      cases h4 : os[k]? with
      | none => rw [h4] at h2; cases h2
      | some o1 =>
        rw [h3] at h1; rw [h4] at h2; cases h1; cases h2
        rcases g k v1 o1 h3 h4 with ⟨d, hm, rfl, r⟩ | ⟨i, hm, hs, hr⟩
        · exact ⟨v1, rfl, r, by unfold fpC; rw [hm]⟩
        · obtain ⟨u, e1, q⟩ := ok.at hr
          rw [hs] at e1; cases e1
          exact ⟨v1, rfl, by unfold fpC; rw [hm]; exact q⟩
  · simp [← l2] at hk
    unfold fpC
    rw [List.getElem?_eq_none hk]
  · obtain ⟨i, hi, h1⟩ := fpC_of h1
    obtain ⟨j, hj, h2⟩ := fpC_of h2
    have := ok.apart i j p h1 h2
    subst this
    exact nd_idx nd hi hj
/-- which argument is slot i's thing -/
def argAt (ms : List (Option Nat)) (i : Nat) : Option Nat := (List.range ms.length).find? fun k => ms[k]? == some (some i)
theorem argAt_some {ms : List (Option Nat)} {i k : Nat} (h : argAt ms i = some k) : ms[k]? = some (some i) := by
  have := List.find?_some h
  simpa using this
theorem argAt_none {ms : List (Option Nat)} {i : Nat} (h : argAt ms i = none) (k : Nat) : ms[k]? ≠ some (some i) := fun e => by
  have := List.find?_eq_none.mp h k (List.mem_range.mpr (List.getElem?_eq_some_iff.mp e).1)
  simp [e] at this
def fpR (ms : List (Option Nat)) (fp fp' : Nat → Fp) : Nat → Fp := fun i => match argAt ms i with
  | some k => fp' k
  | none => fp i
theorem caller_ok {σ : L2.St} {H Hm H' Hm' : Hp} {ρ : Env} {fp fp' : Nat → Fp} {Fo : Fp} {ms : List (Option Nat)} {vs : List V} {ds : List (Option D)} {os outs : List O} (ok : Ok P w K Θ σ H Hm ρ fp) (a : AR P w K σ Hm ms vs ds) (e : osOf ms ds ρ = some os) (nd : (ms.filterMap id).Nodup)
    (ok' : Ok P w K Θ (vs.map some) H' Hm' (outs.map some) fp') (hl : vs.length = outs.length) (g : Grow H Hm (all (fpC ms fp)) H' Hm' (orF (all fp') Fo)) (dj : ∀ p, Fo p → ¬ all fp' p) :
    Ok P w K Θ σ H' Hm' (putOuts ms outs ρ) (fpR ms fp fp') ∧ (∀ p, Fo p → ¬ all (fpR ms fp fp') p) ∧ Grow H Hm (all fp) H' Hm' (orF (all (fpR ms fp fp')) Fo) := by
  obtain ⟨l1, l2, gg⟩ := osOf_ok a e
  have hlm : ms.length = outs.length := by omega
  obtain ⟨p0, p1, p2⟩ := putOuts_get (ρ := ρ) nd hlm
  -- what is not handed over is foreign to the callee
  have far : ∀ i p, argAt ms i = none → fp i p → ∃ u, H p = some u ∧ H' p = some u ∧ Hm' p = none ∧ ¬ orF (all fp') Fo p := fun i p hi hp => by
    obtain ⟨h1, u, h2⟩ := ok.fpNone p ⟨i, hp⟩
    obtain ⟨k1, k2, k3⟩ := g.far p u h2 h1 fun ⟨k, hk⟩ => by
      obtain ⟨j, hj, hk⟩ := fpC_of hk
      have := ok.apart i j p hp hk
      subst this
      exact argAt_none hi k hj
    exact ⟨u, h2, k1, k2, k3⟩
  refine ⟨⟨by rw [p0]; exact ok.len, ok'.sub, fun i v o h1 h2 => ?_, fun i hi => ?_, fun i j p h1 h2 => ?_⟩, fun p hp ⟨i, hi⟩ => ?_, ⟨g.sh, fun p u h1 h2 h3 => ?_⟩⟩
  · unfold fpR
    cases q : argAt ms i with
    | none =>
      rw [p2 i (argAt_none q)] at h2
      have s := ok.slot i v o h1 h2
      cases o with
      | none => exact s
      | some o =>
        obtain ⟨u, e1, s⟩ := s
        refine ⟨u, e1, s.move g.sh (fun p u' hp hu => ?_) fun p hp => ?_⟩
        · obtain ⟨u2, a1, a2, _⟩ := far i p q hp
          rw [hu] at a1; cases a1; exact a2
        · obtain ⟨u2, _, _, a2, _⟩ := far i p q hp; exact a2
    | some k =>
      have hk := argAt_some q
      have hkl : k < ms.length := (List.getElem?_eq_some_iff.mp hk).1
      obtain ⟨o1, ho1⟩ : ∃ o1, outs[k]? = some o1 := ⟨outs[k], by rw [List.getElem?_eq_getElem]⟩
      obtain ⟨v1, hv1⟩ : ∃ v1, vs[k]? = some v1 := ⟨vs[k], by rw [List.getElem?_eq_getElem]⟩
      obtain ⟨os1, hos1⟩ : ∃ v1, os[k]? = some v1 := ⟨os[k], by rw [List.getElem?_eq_getElem]⟩
      rcases gg k v1 os1 hv1 hos1 with ⟨d, hm, _, _⟩ | ⟨i', hm, hs, hr⟩
      · rw [hk] at hm; cases hm
      · rw [hk] at hm; cases hm
        rw [p1 k i o1 hk ho1 (List.getElem?_eq_some_iff.mp hr).1] at h2
        cases h2
        obtain ⟨u, e1, s⟩ := ok'.at (i := k) (o := o1) (by rw [List.getElem?_map, ho1]; rfl)
        rw [List.getElem?_map, hv1] at e1; cases e1
        rw [hs] at h1; cases h1
        exact ⟨v1, rfl, s⟩
  · rw [p0] at hi
    unfold fpR
    cases q : argAt ms i with
    | none => exact ok.out i hi
    | some k =>
      exfalso
      have hk := argAt_some q
      have hkl : k < ms.length := (List.getElem?_eq_some_iff.mp hk).1
      obtain ⟨v1, hv1⟩ : ∃ v1, vs[k]? = some v1 := ⟨vs[k], by rw [List.getElem?_eq_getElem]⟩
      obtain ⟨os1, hos1⟩ : ∃ v1, os[k]? = some v1 := ⟨os[k], by rw [List.getElem?_eq_getElem]⟩
      rcases gg k v1 os1 hv1 hos1 with ⟨d, hm, _, _⟩ | ⟨i', hm, hs, hr⟩
      · rw [hk] at hm; cases hm
      · rw [hk] at hm; cases hm
        have := (List.getElem?_eq_some_iff.mp hr).1
        omega
  · unfold fpR at h1 h2
    cases q : argAt ms i with
    | none =>
      rw [q] at h1
      cases q' : argAt ms j with
      | none => rw [q'] at h2; exact ok.apart i j p h1 h2
      | some l =>
        rw [q'] at h2
        obtain ⟨_, _, _, _, n⟩ := far i p q h1
        exact (n (.inl ⟨l, h2⟩)).elim
    | some k =>
      rw [q] at h1
      cases q' : argAt ms j with
      | none =>
        rw [q'] at h2
        obtain ⟨_, _, _, _, n⟩ := far j p q' h2
        exact (n (.inl ⟨k, h1⟩)).elim
      | some l =>
        rw [q'] at h2
        have := ok'.apart k l p h1 h2
        subst this
        have h3 := argAt_some q
        rw [argAt_some q'] at h3
        cases h3; rfl
  · unfold fpR at hi
    cases q : argAt ms i with
    | none =>
      rw [q] at hi
      obtain ⟨_, _, _, _, n⟩ := far i p q hi
      exact n (.inr hp)
    | some k => rw [q] at hi; exact dj p hp ⟨k, hi⟩
  · obtain ⟨k1, k2, k3⟩ := g.far p u h1 h2 fun ⟨k, hk⟩ => by
      obtain ⟨j, hj, hk⟩ := fpC_of hk
      exact h3 ⟨j, hk⟩
    refine ⟨k1, k2, fun z => k3 (z.imp (fun ⟨i, hi⟩ => ?_) id)⟩
    unfold fpR at hi
    cases q : argAt ms i with
    | none => rw [q] at hi; exact (h3 ⟨i, hi⟩).elim
    | some k => rw [q] at hi; exact ⟨k, hi⟩
theorem orF_no (A : Fp) : orF A noF = A := orF_noF
/-- the call -/
theorem snd_call {φ : Fn} {np : Nat} {ms : List (Option Nat)} {ta : TA} {f : M (List R)} (hnp : ms.length = np) (h : SndA P w K Θ W ta f) : SndE P w K Θ W (tCallS (SpF P w K Θ np φ) (WE W) ta) (eCall φ ms f) := by
  refine Snd.then h (u := fun vs σ H1 Q => SpF P w K Θ np φ vs H1 Q (WE W σ)) (rel' := relE P w K Θ) fun rs vs σ H Hm ρ fp Fo ok hr d res e Q q => ?_
  split at e
  · cases e
  · rename_i ds ρ1 e1
    split at e
    · cases e
    · rename_i os e2
      by_cases hnd : ndModes ms = true
      · rw [if_pos hnd] at e
        have nd : (ms.filterMap id).Nodup := of_decide_eq_true hnd
        obtain ⟨Hm1, fp1, ok1, g1, a1⟩ := shArgs_ok ok hr d e1
        obtain ⟨okc, hl⟩ := callee_ok ok1 a1 e2 nd
        obtain ⟨lv, _, _⟩ := osOf_ok a1 e2
        cases e3 : φ os with
        | none => rw [e3] at e; cases e
        | some r3 =>
          rw [e3] at e
          refine ⟨by omega, os, Hm1, _, okc, r3, e3, ?_⟩
          cases r3 with
          | ok p =>
            obtain ⟨o, outs⟩ := p
            cases e
            intro v H' Hm' fp' Fo' ok' oo' d' g'
            have hlo : vs.length = outs.length := by simpa using ok'.len
            obtain ⟨ok2, d2, g2⟩ := caller_ok ok1 a1 e2 nd ok' hlo g' d'
            exact q v H' Hm' _ Fo' ok2 oo' d2 (g1.trans g2)
          | error p =>
            obtain ⟨x, outs⟩ := p
            cases e
            intro cls dd H' Hm' fp' ok' x' g'
            have hlo : vs.length = outs.length := by simpa using ok'.len
            obtain ⟨ok2, _, g2⟩ := caller_ok (Fo := noF) ok1 a1 e2 nd ok' hlo (by rw [orF_noF]; exact g') (fun _ z => z.elim)
            rw [orF_noF] at g2
            exact q cls dd H' Hm' _ ok2 x' (g1.trans g2)
      · rw [if_neg hnd] at e; cases e
/-- a def of the text, ready to be called -/
structure FnAt (P : Program) (w : World) (K : PySem.W.Frag) (mg : Str → Option Value) (base : Heap) (Θ : Nat → ObSem) (x : Str) (k np : Nat) (φ : Fn) : Prop where
  at_ : ∃ f fd ps, mg x = some (.ref f) ∧ PySem.W.keepIn K (.ref f) = true ∧ L2.Binds K fd ps [] ∧ FnG P w K mg base (L2.CX P w) k f fd ps (SpF P w K Θ np φ)
theorem goG {X : Cx} {k : Nat} {f : Addr} {fd : FuncData} {ps : List Str} {sp : Sp} {E : L2.St → XK} {pins : List (Addr × Obj)} {σ : L2.St} {H : Hp} {s : Shared} {Q : VK} {us : List Value} {vs : List V} (F : FnG X.prog X.w X.K X.mg X.base (L2.CX X.prog X.w) k f fd ps sp) (hga : X.A.guards = some []) (hr : Room k X.A) (hb : L2.Binds X.K fd ps []) (hx : PassesAt (L2.CX X.prog X.w) X σ (E σ))
    (I : Inv X pins σ H s) (r : Vals vs us) (h : sp vs H Q (E σ)) : wpAny (model X.prog X.w) X.A (call (.ref f) us) (EP X pins σ Q) X.xe s := by
  have b := hb s us I.kIn (by rw [List.append_nil, ← r.length]; exact F.many _ _ _ _ h)
  simp only [List.append_nil] at b
  refine wpAny_call (codeAny_mono (F.goes X.A X.stack s H ⟨us, []⟩ us vs Q (E σ) hga hr I.env0 b r h) fun res s' hq => ?_)
  match res, hq with
  | .error e, hq => exact hx pins H s e s' I hq
  | .ok (.ret u), hq => exact I.after hq
  | .ok .next, hq => exact hq.elim
  | .ok .brk, hq => exact hq.elim
  | .ok .cont, hq => exact hq.elim
theorem ce_call {X : Cx} {x : Str} {k np : Nat} {φ : Fn} {ms : List (Option Nat)} {e : Expr} {es : List Expr} {f : M (List R)} {p pos : Pos} (F : FnAt X.prog X.w X.K X.mg X.base Θ x k np φ) (hga : X.A.guards = some []) (hr : Room k X.A) (tk : Takes X W) (hnp : ms.length = np) (hg : Gl X x) (ha : CA Θ X W (e :: es) f)
    (hdb : (x == ("__debug__" : Str)) = false := by decide) (he : starEach (e :: es) X.env = (false, eval e X.env) :: starEach es X.env := by rfl) (hpl : (backTo pos (starEach es X.env)).any (·.1) = false := by rfl) :
    CE Θ X W (.Call (.Name x p) (e :: es) [] pos) (eCall φ ms f) := by
  obtain ⟨ta, h1, h2⟩ := ha
  obtain ⟨fa, fd, ps, hm, hk, hb, hf⟩ := F.at_
  refine ⟨tCallS (SpF X.prog X.w X.K Θ np φ) (WE W) ta, ⟨fun pins s σ H Q I h => ?_⟩, snd_call hnp h2⟩
  refine wpAny_Call_Name_kw (ld_glob I hg hm (PySem.W.callWith_K (h₀ := X.base) I.ok.mod.kin hk (thn (h1.run pos pins s σ H _ I h) fun us s1 ⟨vs, H1, I1, r, q⟩ => ⟨I1.kIn, goG hf hga hr hb (passAt tk σ) I1 r q⟩) he hpl) hdb)
end
end Wl

/- text WlF -/
set_option Elab.async false
set_option maxRecDepth 100000
namespace Wl
open PySem PySem.Spec L2
open PyProof.Rows hiding St

/-! ### list comprehensions -/
def wipeE (ρ : Env) : List Nat → Env
  | [] => ρ
  | v :: vs => (wipeE ρ vs).set v none
/-- the slots vs as in ρ0, all else as in ρ -/
def unwipe (ρ0 ρ : Env) : List Nat → Env
  | [] => ρ
  | v :: vs => (unwipe ρ0 ρ vs).set v (ρ0[v]?).join
theorem wipeE_length (ρ : Env) : ∀ vs : List Nat, (wipeE ρ vs).length = ρ.length
  | [] => rfl
  | v :: vs => by show ((wipeE ρ vs).set v none).length = _; rw [List.length_set, wipeE_length ρ vs]
theorem unwipe_length (ρ0 ρ : Env) : ∀ vs : List Nat, (unwipe ρ0 ρ vs).length = ρ.length
  | [] => rfl
  | v :: vs => by show ((unwipe ρ0 ρ vs).set v _).length = _; rw [List.length_set, unwipe_length ρ0 ρ vs]
theorem wipeE_in {ρ : Env} {i : Nat} {x : Option O} : ∀ {vs : List Nat}, (wipeE ρ vs)[i]? = some x → (i ∈ vs ∧ x = none) ∨ (i ∉ vs ∧ ρ[i]? = some x)
  | [], h => .inr ⟨by simp, h⟩
  | v :: vs, h => by
    have h' : ((wipeE ρ vs).set v none)[i]? = some x := h
    by_cases hi : v = i
    · subst hi
      by_cases hv : v < (wipeE ρ vs).length
      · rw [List.getElem?_set_self hv] at h'; cases h'; exact .inl ⟨by simp, rfl⟩
      · rw [List.getElem?_eq_none (by simpa using hv)] at h'; cases h'
    · rw [List.getElem?_set_ne hi] at h'
      rcases wipeE_in h' with ⟨a, b⟩ | ⟨a, b⟩
      · exact .inl ⟨List.mem_cons_of_mem _ a, b⟩
      · exact .inr ⟨by simp only [List.mem_cons, not_or]; exact ⟨fun e => hi e.symm, a⟩, b⟩
theorem unwipe_in {ρ0 ρ : Env} {i : Nat} {x : Option O} : ∀ {vs : List Nat}, (unwipe ρ0 ρ vs)[i]? = some x → (i ∈ vs ∧ x = (ρ0[i]?).join) ∨ (i ∉ vs ∧ ρ[i]? = some x)
  | [], h => .inr ⟨by simp, h⟩
  | v :: vs, h => by
    have h' : ((unwipe ρ0 ρ vs).set v (ρ0[v]?).join)[i]? = some x := h
    by_cases hi : v = i
    · subst hi
      by_cases hv : v < (unwipe ρ0 ρ vs).length
      · rw [List.getElem?_set_self hv] at h'; cases h'; exact .inl ⟨by simp, rfl⟩
      · rw [List.getElem?_eq_none (by simpa using hv)] at h'; cases h'
    · rw [List.getElem?_set_ne hi] at h'
      rcases unwipe_in h' with ⟨a, b⟩ | ⟨a, b⟩
      · exact .inl ⟨List.mem_cons_of_mem _ a, b⟩
      · exact .inr ⟨by simp only [List.mem_cons, not_or]; exact ⟨fun e => hi e.symm, a⟩, b⟩
theorem wipe_at {σ : L2.St} {i : Nat} : ∀ {vs : List Nat}, i ∉ vs → (wipe σ vs)[i]? = σ[i]?
  | [], _ => rfl
  | v :: vs, h => by
    simp only [List.mem_cons, not_or] at h
    show ((wipe σ vs).set v none)[i]? = _
    rw [List.getElem?_set_ne (fun e => h.1 e.symm), wipe_at h.2]
theorem wipe_in {σ : L2.St} {i : Nat} : ∀ {vs : List Nat}, i ∈ vs → i < σ.length → (wipe σ vs)[i]? = some none
  | [], h, _ => by simp at h
  | v :: vs, h, hl => by
    show ((wipe σ vs).set v none)[i]? = _
    by_cases hi : v = i
    · subst hi; rw [List.getElem?_set_self (by rw [wipe_length]; exact hl)]
    · rw [List.getElem?_set_ne hi]
      exact wipe_in ((List.mem_cons.mp h).resolve_left fun e => hi e.symm) hl
theorem wipe_eq {σ σ' : L2.St} {vs : List Nat} (hl : σ'.length = σ.length) (h : ∀ i, i ∉ vs → i < σ.length → σ'[i]? = σ[i]?) : wipe σ' vs = wipe σ vs := by
  apply List.ext_getElem?
  intro i
  by_cases hi : i < σ.length
  · by_cases hv : i ∈ vs
    · rw [wipe_in hv hi, wipe_in hv (by rw [hl]; exact hi)]
    · rw [wipe_at hv, wipe_at hv, h i hv hi]
  · rw [List.getElem?_eq_none (by rw [wipe_length]; omega), List.getElem?_eq_none (by rw [wipe_length]; omega)]
/-- the slots that a block of a comprehension leaves -/
def ioB (n : Nat) (vs : List Nat) : List Nat := (List.range n).filter fun i => !decide (i ∈ vs)
theorem mem_ioB {n i : Nat} {vs : List Nat} : i ∈ ioB n vs ↔ i < n ∧ i ∉ vs := by
  unfold ioB
  rw [List.mem_filter, List.mem_range, Bool.not_eq_true', decide_eq_false_iff_not]

def lcLoop (vs : List Nat) (tgt : D → Env → Option Env) (tst : M Bool) (elt : M R) : List D → Env → List D → Option (List D × Env)
  | [], ρ, acc => some (acc, ρ)
  | d :: ds, ρ, acc => match tgt d ρ with
    | none => none
    | some ρ1 => if ρ1.length = ρ.length then match tst ρ1 with
      | some (.ok (false, ρ2)) => lcLoop vs tgt tst elt ds (wipeE ρ2 vs) acc
      | some (.ok (true, ρ2)) => match mbind elt toSh ρ2 with
        | some (.ok (y, ρ3)) => if acc.length < sizeLine then lcLoop vs tgt tst elt ds (wipeE ρ3 vs) (acc ++ [y]) else none
        | _ => none
      | _ => none
      else none
def eLc (n : Nat) (vs : List Nat) (src : M (List D)) (tgt : D → Env → Option Env) (tst : M Bool) (elt : M R) : M R := fun ρ => match src ρ with
  | some (.ok (ds, ρ1)) => if ρ1.length = n then match lcLoop vs tgt tst elt ds (wipeE ρ1 vs) [] with
    | some (r, ρ2) => if ρ2.length = n then some (.ok (.v (.ol r), unwipe ρ1 ρ2 vs)) else none
    | none => none
    else none
  | some (.error e) => some (.error e)
  | none => none

section
variable {P : Program} {w : World} {K : PySem.W.Frag} {Θ : Nat → ObSem} {W : WX}
theorem Ok.wipe {σ : L2.St} {H Hm : Hp} {ρ : Env} {fp : Nat → Fp} (ok : Ok P w K Θ σ H Hm ρ fp) (vs : List Nat) : Ok P w K Θ (L2.wipe σ vs) H Hm (wipeE ρ vs) (fun i => if i ∈ vs then noF else fp i) := by
  refine ⟨by rw [wipe_length, wipeE_length]; exact ok.len, ok.sub, fun i v o h1 h2 => ?_, fun i hi => ?_, fun i j p h1 h2 => ?_⟩
  · rcases wipeE_in h2 with ⟨a, rfl⟩ | ⟨a, b⟩
    · rw [if_pos a]; rfl
    · rw [if_neg a]
      rw [wipe_at a] at h1
      exact ok.slot i v o h1 b
  · rw [wipeE_length] at hi
    show (if i ∈ vs then noF else fp i) = noF
    rw [ok.out i hi]; exact ite_self _
  · have h1' : (if i ∈ vs then noF else fp i) p := h1
    have h2' : (if j ∈ vs then noF else fp j) p := h2
    split at h1'
    · exact h1'.elim
    · split at h2'
      · exact h2'.elim
      · exact ok.apart i j p h1' h2'
theorem wipe_all {fp : Nat → Fp} {vs : List Nat} {p : Addr} (h : all (fun i => if i ∈ vs then noF else fp i) p) : all fp p := by
  obtain ⟨i, hi⟩ := h
  have hi' : (if i ∈ vs then noF else fp i) p := hi
  split at hi'
  · exact hi'.elim
  · exact ⟨i, hi'⟩
abbrev W0 : WX := fun _ _ _ _ => False
theorem Grow.beside {H Hm H' Hm' : Hp} {A B : Fp} (g : Grow H Hm A H' Hm' B) (G : Fp) : Grow H Hm (orF A G) H' Hm' (orF B G) :=
  ⟨g.sh, fun p u a b c => let ⟨x, y, z⟩ := g.far p u a b fun q => c (.inl q); ⟨x, y, fun q => q.elim z fun q => c (.inr q)⟩⟩
theorem snd_lc {vs : List Nat} {wi : TI} {g : TG} {tt : TT} {te : TE} {src : M (List D)} {tgt : D → Env → Option Env} {tst : M Bool} {elt : M R} {n : Nat} (hi : SndI P w K Θ W wi src) (hg : SndG P w K Θ (ioB n vs) g tgt) (ht : SndT P w K Θ W0 tt tst) (he : SndE P w K Θ W0 te elt) :
    SndE P w K Θ W (tLc wi g tt te vs) (eLc n vs src tgt tst elt) := fun σ H Hm ρ fp ok res e Q q => by
  · unfold eLc at e
    cases e1 : src ρ with
    | none => simp only [e1] at e; cases e
    | some r1 =>
      refine hi σ H Hm ρ fp ok r1 e1 _ ?_
      cases r1 with
      | error er =>
        simp only [e1] at e; cases e
        exact q
      | ok p1 =>
        obtain ⟨ds, ρ1⟩ := p1
        intro J H1 Hm1 fp1 ok1 g1 ⟨G, Y, wk, hG, hY⟩ Dl hD
        simp only [e1] at e
        by_cases hn1 : ρ1.length = n
        · rw [if_pos hn1] at e
          cases e2 : lcLoop vs tgt tst elt ds (wipeE ρ1 vs) [] with
          | none => simp only [e2] at e; cases e
          | some r2 =>
            obtain ⟨r, ρ2⟩ := r2
            simp only [e2] at e
            by_cases hl : ρ2.length = n
            · rw [if_pos hl] at e; cases e
              have okw := ok1.wipe vs
              have hDm : Hm1 Dl = none := by
                cases z : Hm1 Dl with
                | none => rfl
                | some u => rw [ok1.sub _ _ z] at hD; cases hD
              have hDf : ¬ all fp1 Dl := fun z => by
                obtain ⟨_, u, h2⟩ := ok1.fpNone _ z
                rw [h2] at hD; cases hD
              have okw0 : Ok P w K Θ (L2.wipe σ vs) (upd H1 Dl (.lst [])) Hm1 (wipeE ρ1 vs) (fun i => if i ∈ vs then noF else fp1 i) :=
                okw.move (Up.refl _) (fun a u z => by rw [upd_ne (ne_of_none (ok1.sub _ _ z) hD)]; exact ok1.sub _ _ z) (fun p u hp z => by rw [upd_ne (fun y => hDf (by rw [← y]; exact wipe_all hp))]; exact z) (fun p hp => (okw.fpNone p hp).1)
              refine lc_it wk (fun i H' => ∃ Hm' ρ' fp' xs acc, Ok P w K Θ (L2.wipe σ vs) H' Hm' ρ' fp' ∧ H' Dl = some (.lst xs) ∧ Hm' Dl = none ∧ ¬ all fp' Dl ∧ RpL P w K Hm' xs acc ∧ Grow (upd H1 Dl (.lst [])) Hm1 (orF (all (fun i => if i ∈ vs then noF else fp1 i)) (one Dl)) H' Hm' (orF (all fp') (one Dl)) ∧ lcLoop vs tgt tst elt (ds.drop i) ρ' acc = some (r, ρ2) ∧ ρ'.length = n)
                ⟨Hm1, _, _, [], [], okw0, upd_same, hDm, fun z => hDf (wipe_all z), .nil, Grow.refl, e2, by rw [wipeE_length]; exact hn1⟩ (fun i H' _ ⟨Hm', ρ', fp', xs, acc, ok', _, _, _, _, g', _⟩ => hG H' Hm' g'.sh ok'.sub) (fun i x H' H'' hi ⟨Hm', ρ', fp', xs, acc, ok', hd', hm', hf', ra, g', el, hlen⟩ y => ?_) (fun H' ⟨Hm', ρ', fp', xs, acc, ok', hd', hm', hf', ra, g', el, hlen⟩ => ?_)
              · obtain ⟨Hm2, d, fr, hdd, rd⟩ := hY i H' Hm' x H'' hi g'.sh ok'.sub y
                obtain ⟨ok2, _, g2⟩ := fr.ok ok'
                rw [orF_noF] at g2
                have hdr : ds.drop i = d :: ds.drop (i + 1) := by
                  rw [List.drop_eq_getElem_cons hi]
                  rw [List.getElem?_eq_getElem hi] at hdd
                  rw [Option.some.inj hdd]
                rw [hdr] at el
                have el' : (match tgt d ρ' with
                  | none => none
                  | some ρ1 => if ρ1.length = ρ'.length then match tst ρ1 with
                    | some (.ok (false, ρ2)) => lcLoop vs tgt tst elt (ds.drop (i + 1)) (wipeE ρ2 vs) acc
                    | some (.ok (true, ρ2)) => match mbind elt toSh ρ2 with
                      | some (.ok (y, ρ3)) => if acc.length < sizeLine then lcLoop vs tgt tst elt (ds.drop (i + 1)) (wipeE ρ3 vs) (acc ++ [y]) else none
                      | _ => none
                    | _ => none
                    else none : Option (List D × Env)) = some (r, ρ2) := el
                cases e3 : tgt d ρ' with
                | none => rw [e3] at el'; cases el'
                | some ρ3 =>
                  rw [e3] at el'
                  simp only at el'
                  by_cases hl3 : ρ3.length = ρ'.length
                  · rw [if_pos hl3] at el'
                    refine hg (L2.wipe σ vs) H'' Hm2 ρ' fp' ok2 x d rd ρ3 e3 _ fun σ3 fp3 ok3 k3 s3 => ?_
                    have hs3 : σ3.length = (L2.wipe σ vs).length := by rw [ok3.len, ok'.len, hl3]
                    have hw : L2.wipe σ3 vs = L2.wipe σ vs := by
                      refine (wipe_eq hs3 fun i hi hlt => k3 i (mem_ioB.mpr ⟨by rw [ok'.len, hlen] at hlt; exact hlt, hi⟩)).trans ?_
                      exact wipe_eq (wipe_length _ _) fun i hi _ => wipe_at hi
                    refine ⟨hw, ?_⟩
                    have g3 := (g'.trans (g2.beside (one Dl))).to (F2 := orF (all fp3) (one Dl)) fun p z => z.imp (s3 p) id
                    -- the list that grows is foreign to the block
                    have hD2 : H'' Dl = some (.lst xs) ∧ Hm2 Dl = none ∧ ¬ all fp' Dl := g2.far _ _ hd' hm' hf'
                    have hf3 : ¬ all fp3 Dl := fun z => hf' (s3 _ z)
                    have back : ∀ {ρ4 : Env} {H4 Hm4 : Hp} {fp4 : Nat → Fp}, Ok P w K Θ σ3 H4 Hm4 ρ4 fp4 → Ok P w K Θ (L2.wipe σ vs) H4 Hm4 (wipeE ρ4 vs) (fun i => if i ∈ vs then noF else fp4 i) := fun {ρ4 H4 Hm4 fp4} ok4 => by
                      rw [← hw]; exact ok4.wipe vs
                    cases e4 : tst ρ3 with
                    | none => rw [e4] at el'; cases el'
                    | some r4 =>
                      rw [e4] at el'
                      refine ht σ3 H'' Hm2 ρ3 fp3 ok3 r4 e4 _ ?_
                      cases r4 with
                      | error er => cases el'
                      | ok p4 =>
                        obtain ⟨b4, ρ4⟩ := p4
                        intro b H4 Hm4 fp4 Fo4 ok4 hr4 d4 g4
                        obtain ⟨rfl, rfl⟩ := hr4
                        rw [orF_noF] at g4
                        obtain ⟨k1, k2, k3'⟩ := g4.far _ _ hD2.1 hD2.2.1 hf3
                        cases b with
                        | false =>
                          rw [if_neg (by decide)]
                          refine ⟨Hm4, _, _, xs, acc, back ok4, k1, k2, fun z => k3' (wipe_all z), (ra.up g2.sh).up g4.sh, (g3.trans (g4.beside (one Dl))).to fun p z => z.imp wipe_all id, el', ?_⟩
                          rw [wipeE_length, ← ok4.len, hs3, ok'.len, hlen]
                        | true =>
                          rw [if_pos rfl]
                          simp only at el'
                          cases e5 : mbind elt toSh ρ4 with
                          | none => rw [e5] at el'; cases el'
                          | some r5 =>
                            rw [e5] at el'
                            refine snd_d he σ3 H4 Hm4 ρ4 fp4 ok4 r5 e5 _ ?_
                            cases r5 with
                            | error er => cases el'
                            | ok p5 =>
                              obtain ⟨y5, ρ5⟩ := p5
                              intro v5 H5 Hm5 fp5 Fo5 ok5 hr5 d5 g5
                              obtain ⟨hr5, rfl⟩ := hr5
                              rw [orF_noF] at g5
                              obtain ⟨m1, m2, m3⟩ := g5.far _ _ k1 k2 k3'
                              simp only at el'
                              by_cases hz : acc.length < sizeLine
                              · rw [if_pos hz] at el'
                                have ra5 := ((ra.up g2.sh).up g4.sh).up g5.sh
                                refine ⟨xs, m1, by rw [ra.length]; exact hz, Hm5, _, _, _, _, (back ok5).move (Up.refl _) (fun a u z => ?_) (fun p u hp z => ?_) (fun p hp => ((back ok5).fpNone p hp).1), upd_same, m2, fun z => m3 (wipe_all z), ra5.snoc hr5, ?_, el', ?_⟩
                                · rw [upd_ne (fun y => by rw [y, m2] at z; cases z)]; exact ok5.sub _ _ z
                                · rw [upd_ne (fun y => m3 (by rw [← y]; exact wipe_all hp))]; exact z
                                · have gg := ((g3.trans (g4.beside (one Dl))).trans (g5.beside (one Dl))).to (F2 := orF (all (fun i => if i ∈ vs then noF else fp5 i)) (one Dl)) fun p z => z.imp wipe_all id
                                  refine ⟨gg.sh, fun p u a b c => ?_⟩
                                  obtain ⟨n1, n2, n3⟩ := gg.far p u a b c
                                  exact ⟨by rw [upd_ne fun y => n3 (.inr y)]; exact n1, n2, n3⟩
                                · rw [wipeE_length, ← ok5.len, hs3, ok'.len, hlen]
                              · rw [if_neg hz] at el'; cases el'
                  · rw [if_neg hl3] at el'; cases el'
              · rw [List.drop_of_length_le (Nat.le_refl _)] at el
                cases el
                have gg : Grow H1 Hm1 (all fp1) H' Hm' (orF (all fp') (one Dl)) := ⟨g'.sh, fun p u a b c => g'.far p u (by rw [upd_ne (ne_of_none a hD)]; exact a) b fun z => z.elim (fun z => c (wipe_all z)) fun z => by rw [show p = Dl from z, hD] at a; cases a⟩
                have out : ∀ i p, i ∈ vs → fp1 i p → ∃ u, H1 p = some u ∧ H' p = some u ∧ Hm' p = none ∧ ¬ orF (all fp') (one Dl) p := fun i p hi hp => by
                  obtain ⟨a1, u, a2⟩ := ok1.fpNone p ⟨i, hp⟩
                  refine ⟨u, a2, g'.far p u (by rw [upd_ne (ne_of_none a2 hD)]; exact a2) a1 fun z => z.elim (fun ⟨j, hj⟩ => ?_) fun z => by rw [show p = Dl from z, hD] at a2; cases a2⟩
                  have hj' : (if j ∈ vs then noF else fp1 j) p := hj
                  split at hj'
                  · exact hj'.elim
                  · rename_i hjv
                    exact hjv (ok1.apart i j p hp hj' ▸ hi)
                refine q (.ref Dl) H' Hm' (fun i => if i ∈ vs then fp1 i else fp' i) (one Dl) ⟨by rw [unwipe_length, hl]; rw [ok1.len, hn1], ok'.sub, fun i v o a1 a2 => ?_, fun i hi => ?_, fun i j p a1 a2 => ?_⟩ ⟨Dl, xs, rfl, hd', hm', ra, rfl⟩ (fun p hp ⟨i, hi⟩ => ?_) (g1.trans ⟨gg.sh, fun p u a b c => ?_⟩)
                · rcases unwipe_in a2 with ⟨b1, rfl⟩ | ⟨b1, b2⟩
                  · rw [if_pos b1]
                    cases z : ρ1[i]? with
                    | none =>
                      show fp1 i = noF
                      exact ok1.out i (List.getElem?_eq_none_iff.mp z)
                    | some o1 =>
                      have s := ok1.slot i v o1 a1 z
                      cases o1 with
                      | none => exact s
                      | some o1 =>
                        obtain ⟨u, c1, s⟩ := s
                        refine ⟨u, c1, s.move g'.sh (fun p u' hp hu => ?_) fun p hp => ?_⟩
                        · obtain ⟨u2, d1, d2, _⟩ := out i p b1 hp
                          rw [hu] at d1; cases d1; exact d2
                        · obtain ⟨u2, _, _, d2, _⟩ := out i p b1 hp; exact d2
                  · rw [if_neg b1]
                    exact ok'.slot i v o (by rw [wipe_at b1]; exact a1) b2
                · rw [unwipe_length, hl] at hi
                  show (if i ∈ vs then fp1 i else fp' i) = noF
                  rw [ok1.out i (by rw [hn1]; exact hi), ok'.out i (by rw [hlen]; exact hi)]; exact ite_self _
                · have a1' : (if i ∈ vs then fp1 i else fp' i) p := a1
                  have a2' : (if j ∈ vs then fp1 j else fp' j) p := a2
                  split at a1'
                  · rename_i hiv
                    split at a2'
                    · exact ok1.apart i j p a1' a2'
                    · obtain ⟨_, _, _, _, z⟩ := out i p hiv a1'
                      exact (z (.inl ⟨j, a2'⟩)).elim
                  · split at a2'
                    · rename_i hjv
                      obtain ⟨_, _, _, _, z⟩ := out j p hjv a2'
                      exact (z (.inl ⟨i, a1'⟩)).elim
                    · exact ok'.apart i j p a1' a2'
                · have hi' : (if i ∈ vs then fp1 i else fp' i) p := hi
                  split at hi'
                  · rename_i hiv
                    obtain ⟨_, _, _, _, z⟩ := out i p hiv hi'
                    exact z (.inr hp)
                  · exact hf' (by rw [← show p = Dl from hp]; exact ⟨i, hi'⟩)
                · obtain ⟨n1, n2, n3⟩ := gg.far p u a b c
                  refine ⟨n1, n2, fun z => z.elim (fun ⟨i, hi⟩ => ?_) fun z => n3 (.inr z)⟩
                  have hi' : (if i ∈ vs then fp1 i else fp' i) p := hi
                  split at hi'
                  · exact c ⟨i, hi'⟩
                  · exact n3 (.inl ⟨i, hi'⟩)
            · rw [if_neg hl] at e; cases e
        · rw [if_neg hn1] at e; cases e
end
end Wl

/- text WlG -/
set_option Elab.async false
set_option maxRecDepth 100000
namespace Wl
open PySem PySem.Spec L2
open PyProof.Rows hiding St

section
variable {P : Program} {w : World} {K : PySem.W.Frag} {Θ : Nat → ObSem} {W : WX} {X : Cx} {io : List Nat}
/-! ### words of the text -/
theorem ce_var {x : Str} {pos : Pos} (i : Nat) (hN : X.N[i]? = some x := by rfl) (hv : Vis X.env.scope x := by first | exact Or.inl rfl | exact Or.inr (Or.inl rfl) | exact Or.inr (Or.inr rfl)) (hd : (x == ("__debug__" : Str)) = false := by decide)
    (hcd : (x == ("__classdict__" : Str)) = false := by decide) : CE Θ X W (.Name x pos) (eVar i) := ⟨_, pe_var hN hv hd hcd, snd_var⟩
theorem ce_int {i : Int} {j : Nat} {pos : Pos} : CE Θ X W (.Constant (.int i) j pos) (eC (.int i)) := ⟨_, pe_int, snd_c fun _ => .int i⟩
theorem ce_str {x : Str} {j : Nat} {pos : Pos} : CE Θ X W (.Constant (.str x) j pos) (eC (.str x)) := ⟨_, pe_str, snd_c fun _ => .str x⟩
theorem ce_bl {b : Bool} {j : Nat} {pos : Pos} : CE Θ X W (.Constant (.bool b) j pos) (eC (.bool b)) := ⟨_, pe_bl, snd_c fun _ => .bl b⟩
theorem ce_non {j : Nat} {pos : Pos} : CE Θ X W (.Constant .none j pos) (eC .none) := ⟨_, pe_non, snd_c fun _ => .non⟩
theorem ce_gint {x : Str} {i : Int} {pos : Pos} (hg : Gl X x) (hm : ∃ t, X.mg x = some (.int i t)) (hd : (x == ("__debug__" : Str)) = false := by decide) : CE Θ X W (.Name x pos) (eC (.int i)) :=
  let ⟨t, h⟩ := hm; ⟨_, pe_glob hg h (v := .int i) ⟨t, rfl⟩ hd, snd_c fun _ => .int i⟩
theorem ce_gstr {x z : Str} {pos : Pos} (hg : Gl X x) (hm : ∃ t, X.mg x = some (.str z t)) (hd : (x == ("__debug__" : Str)) = false := by decide) : CE Θ X W (.Name x pos) (eC (.str z)) :=
  let ⟨t, h⟩ := hm; ⟨_, pe_glob hg h (v := .str z) ⟨t, rfl⟩ hd, snd_c fun _ => .str z⟩
theorem ce_sh {e : Expr} {f : M R} (h : CE Θ X W e f) : CE Θ X W e (eSh f) := let ⟨t, a, b⟩ := h; ⟨t, a, snd_sh b⟩
theorem ca_nil : CA Θ X W [] aNil := ⟨_, pa_nil, snd_nil⟩
theorem ca_cons {e : Expr} {es : List Expr} {f : M R} {g : M (List R)} (h1 : CE Θ X W e f) (h2 : CA Θ X W es g) (hs : starEach (e :: es) X.env = (false, eval e X.env) :: starEach es X.env := by rfl) : CA Θ X W (e :: es) (aCons f g) :=
  let ⟨t, a, b⟩ := h1; let ⟨u, c, d⟩ := h2; ⟨_, pa_cons a c hs, snd_cons b d⟩
theorem ce_if {c a b : Expr} {m : M Bool} {f g : M R} {pos : Pos} (hc : CT Θ X W c m) (ha : CE Θ X W a f) (hb : CE Θ X W b g) : CE Θ X W (.IfExp c a b pos) (eIf m f g) :=
  let ⟨_, a1, a2⟩ := hc; let ⟨_, b1, b2⟩ := ha; let ⟨_, c1, c2⟩ := hb; ⟨_, pe_ifExp a1 b1 c1, snd_if a2 b2 c2⟩
/-! tests -/
def CW (Θ : Nat → ObSem) (X : Cx) (W : WX) (e : Expr) (f : M Bool) : Prop := ∃ t, PW X e t ∧ SndT X.prog X.w X.K Θ W t f
theorem ct_val {e : Expr} {f : M R} (h : CE Θ X W e f) (he : ∀ whole, isTrue e X.env whole = (do let v ← whole; standAt e.pos; holding [v] (truthy v)) := by intro _; rfl) : CT Θ X W e (tBool f) :=
  let ⟨_, a, b⟩ := h; ⟨_, pt_val a he, snd_tB b⟩
theorem ct_w {e : Expr} {m : M Bool} (h : CW Θ X W e m) : CT Θ X W e m := let ⟨_, a, b⟩ := h; ⟨_, a.pt, b⟩
theorem cw_and1 {a : Expr} {m : M Bool} {pos : Pos} (h : CT Θ X W a m) : CW Θ X W (.BoolOp .And [a] pos) m := let ⟨_, a, b⟩ := h; ⟨_, pw_and1 a, b⟩
theorem cw_or1 {a : Expr} {m : M Bool} {pos : Pos} (h : CT Θ X W a m) : CW Θ X W (.BoolOp .Or [a] pos) m := let ⟨_, a, b⟩ := h; ⟨_, pw_or1 a, b⟩
theorem cw_and {a b : Expr} {rest : List Expr} {m n : M Bool} {pos : Pos} (h : CT Θ X W a m) (h2 : CW Θ X W (.BoolOp .And (b :: rest) pos) n) : CW Θ X W (.BoolOp .And (a :: b :: rest) pos) (tAndM m n) :=
  let ⟨_, a1, a2⟩ := h; let ⟨_, b1, b2⟩ := h2; ⟨_, pw_and a1 b1, snd_and a2 b2⟩
theorem cw_or {a b : Expr} {rest : List Expr} {m n : M Bool} {pos : Pos} (h : CT Θ X W a m) (h2 : CW Θ X W (.BoolOp .Or (b :: rest) pos) n) : CW Θ X W (.BoolOp .Or (a :: b :: rest) pos) (tOrM m n) :=
  let ⟨_, a1, a2⟩ := h; let ⟨_, b1, b2⟩ := h2; ⟨_, pw_or a1 b1, snd_or a2 b2⟩
theorem ct_not {a : Expr} {m : M Bool} {pos : Pos} (h : CT Θ X W a m) : CT Θ X W (.UnaryOp .Not a pos) (tNotM m) := let ⟨_, a1, a2⟩ := h; ⟨_, pt_not a1, snd_not a2⟩
/-! and, or, not as values -/
theorem ce_one {op : BoolOp} {a : Expr} {f : M R} {pos : Pos} (h : CE Θ X W a f) : CE Θ X W (.BoolOp op [a] pos) f := let ⟨_, a1, a2⟩ := h; ⟨_, pe_one a1, a2⟩
theorem ce_and {a b : Expr} {rest : List Expr} {f g : M R} {pos : Pos} (h : CE Θ X W a f) (h2 : CE Θ X W (.BoolOp .And (b :: rest) pos) g) : CE Θ X W (.BoolOp .And (a :: b :: rest) pos) (eAndM f g) :=
  let ⟨_, a1, a2⟩ := h; let ⟨_, b1, b2⟩ := h2; ⟨_, pe_and a1 b1, snd_andV a2 b2⟩
theorem ce_or {a b : Expr} {rest : List Expr} {f g : M R} {pos : Pos} (h : CE Θ X W a f) (h2 : CE Θ X W (.BoolOp .Or (b :: rest) pos) g) : CE Θ X W (.BoolOp .Or (a :: b :: rest) pos) (eOrM f g) :=
  let ⟨_, a1, a2⟩ := h; let ⟨_, b1, b2⟩ := h2; ⟨_, pe_or a1 b1, snd_orV a2 b2⟩
theorem ce_not {a : Expr} {f : M R} {pos : Pos} (h : CE Θ X W a f) : CE Θ X W (.UnaryOp .Not a pos) (eNotM f) := let ⟨_, a1, a2⟩ := h; ⟨_, pe_not a1, snd_notV a2⟩

/-! ### statements of the text -/
theorem css_nil : CSs Θ X W io [] sNext := ⟨_, pss_nil, snds_next⟩
theorem css_one {s : Stmt} {f : SM} (h : CS Θ X W io s f) : CSs Θ X W io [s] f := let ⟨_, a, b⟩ := h; ⟨_, pss_one a, b⟩
theorem css_cons {s : Stmt} {rest : List Stmt} {f g : SM} (h : CS Θ X W io s f) (h2 : CSs Θ X W io rest g) : CSs Θ X W io (s :: rest) (sSeq f g) := let ⟨_, a, b⟩ := h; let ⟨_, c, d⟩ := h2; ⟨_, pss_cons a c, snds_seq b d⟩
theorem cs_pass {pos : Pos} : CS Θ X W io (.Pass pos) sNext := ⟨_, ps_pass, snds_next⟩
theorem cs_break {pos : Pos} : CS Θ X W io (.Break pos) sBreak := ⟨_, ps_break, snds_break⟩
theorem cs_cont {pos : Pos} : CS Θ X W io (.Continue pos) sCont := ⟨_, ps_continue, snds_cont⟩
theorem cs_never {s : Stmt} : CS Θ X W io s sNever := ⟨_, ps_never, snds_never⟩
theorem css_never {s : List Stmt} : CSs Θ X W io s sNever := ⟨_, pss_never, snds_never⟩
theorem cs_if {c : Expr} {a b : List Stmt} {m : M Bool} {f g : SM} {pos : Pos} (hc : CT Θ X W c m) (ha : CSs Θ X W io a f) (hb : CSs Θ X W io b g) : CS Θ X W io (.If c a b pos) (sIf m f g) :=
  let ⟨_, a1, a2⟩ := hc; let ⟨_, b1, b2⟩ := ha; let ⟨_, c1, c2⟩ := hb; ⟨_, ps_if a1 b1 c1, snds_if a2 b2 c2⟩
theorem cs_set {i : Nat} {x : Str} {e : Expr} {f : M R} {pos pos' : Pos} (hN : X.N.Nodup) (hio : i ∉ io) (h : CE Θ X W e f) (hi : X.N[i]? = some x := by rfl) (hx : Loc X.env.scope x := by first | exact Or.inl rfl | exact Or.inr rfl)
    (hs : swapsWith e (some (.Name x pos')) pos.line X.env = pure false := by rfl) (hf : X.fn x = true ∨ X.env.scope.names.lookup x = some .local := by first | exact .inl rfl | exact .inr rfl) : CS Θ X W io (.Assign [.Name x pos'] e pos) (sSet i f) :=
  let ⟨_, a, b⟩ := h; ⟨_, ps_set hN hi hx a hs (hf := hf), snds_set hio b⟩
theorem cs_ret {e : Expr} {f : M R} {pos : Pos} (h : CE Θ X W e f) : CS Θ X W io (.Return (some e) pos) (sRet f) := let ⟨_, a, b⟩ := h; ⟨_, ps_ret a, snds_ret b⟩
theorem cs_retN {pos : Pos} : CS Θ X W io (.Return none pos) sRetN := ⟨_, ps_retN, snds_retN⟩
theorem cs_expr {e : Expr} {f : M R} {pos : Pos} (h : CE Θ X W e f) (hs : swapsWith e none pos.line X.env = pure false := by rfl) : CS Θ X W io (.Expr e pos) (sDrop f) := let ⟨_, a, b⟩ := h; ⟨_, ps_expr a hs, snds_drop b⟩
theorem cs_asg {tg e : Expr} {g : D → Env → Option Env} {f : M R} {pos : Pos} (h : CE Θ X W e f) (hg : CG Θ X io tg g) (hs : swapsWithSole [tg] e pos.line X.env = pure false := by rfl) (hw : swappedStores [tg] e X.env = pure none := by rfl) (h1 : (assignEach [tg] X.env).map (·.2) = [assign tg X.env] := by rfl) : CS Θ X W io (.Assign [tg] e pos) (sAsg g f) :=
  let ⟨_, a, b⟩ := h; let ⟨_, c, d⟩ := hg; ⟨_, ps_asg a c hs hw h1, snds_asg b d⟩
theorem cg_name {i : Nat} {x : Str} {pos : Pos} (hN : X.N.Nodup) (hio : i ∉ io) (hi : X.N[i]? = some x := by rfl) (hx : Loc X.env.scope x := by first | exact Or.inl rfl | exact Or.inr rfl) (hf : X.fn x = true ∨ X.env.scope.names.lookup x = some .local := by first | exact .inl rfl | exact .inr rfl) :
    CG Θ X io (.Name x pos) (gSet i) := ⟨_, pg_name hN hi hx hf, sndg_name hio⟩
theorem cgs_nil : CGs Θ X io [] gsNil := ⟨_, pgs_nil, sndgs_nil⟩
theorem cgs_cons {e : Expr} {es : List Expr} {f : D → Env → Option Env} {g : List D → Env → Option Env} (h : CG Θ X io e f) (h2 : CGs Θ X io es g) (hs : (assignEach (e :: es) X.env).map (fun z => z.2) = assign e X.env :: (assignEach es X.env).map (fun z => z.2) := by rfl) : CGs Θ X io (e :: es) (gsCons f g) := by
  obtain ⟨t, a, b⟩ := h
  obtain ⟨u, c, d⟩ := h2
  exact ⟨_, pgs_cons a c hs, sndgs_cons b d⟩
theorem cg_tup {es : List Expr} {n k : Nat} {g : List D → Env → Option Env} {pos : Pos} (hc : X.calm = true) (h : CGs Θ X io es g) (hn : (assignEach es X.env).length = n := by rfl) (hst : (assignEach es X.env).findIdx? (fun z => z.1) = none := by rfl) : CG Θ X io (.Tuple es k pos) (gTupM fun ds ρ => if ds.length = n then g ds ρ else none) := by
  obtain ⟨t, a, b⟩ := h
  exact ⟨_, pg_tup (n := n) hc a hn hst, sndg_tup b⟩
theorem cs_for {tg iter : Expr} {body : List Stmt} {f : M (List D)} {g : D → Env → Option Env} {b : SM} {pos : Pos} (hp : PassesOwn (model X.prog X.w) X.A X.env X.xe) (hc : X.calm = true) (hi : CI Θ X W tg iter f) (hg : CG Θ X io tg g) (hb : CSs Θ X W io body b)
    (hs : ∀ x, foldedSetIterable iter X.env x = pure x := by intro _; rfl) : CS Θ X W io (.For tg iter body [] pos) (sFor f g b) :=
  let ⟨_, a1, a2⟩ := hi; let ⟨_, b1, b2⟩ := hg; let ⟨_, c1, c2⟩ := hb; ⟨_, ps_for hp hc a1 b1 c1 hs, snds_for a2 b2 c2⟩
theorem cs_while {c : Expr} {body : List Stmt} {m : M Bool} {b : SM} {pos : Pos} (n : Nat) (hp : PassesOwn (model X.prog X.w) X.A X.env X.xe) (hc : CT Θ X W c m) (hb : CSs Θ X W io body b) : CS Θ X W io (.While c body [] pos) (sWhile n m b) :=
  let ⟨_, a1, a2⟩ := hc; let ⟨_, c1, c2⟩ := hb; ⟨_, ps_while hp a1 c1, snds_while a2 c2⟩

/-! ### operations -/
def r2 (r : R2) : List V → Hp → VK → Prop := fun vs H Q => match vs with
  | [x, y] => r x y H Q
  | _ => False
def r1 (r : V → Hp → VK → Prop) : List V → Hp → VK → Prop := fun vs H Q => match vs with
  | [x] => r x H Q
  | _ => False
def e2 (op : List O → Option O) (f g : M R) : M R := eOp op (aCons f (aCons g aNil))
def e1 (op : List O → Option O) (f : M R) : M R := eOp op (aCons f aNil)
theorem snd_op2 {r : R2} {op : List O → Option O} {ta tb : TE} {f g : M R} (hr : OpOk P w K Θ (r2 r) op) (h1 : SndE P w K Θ W ta f) (h2 : SndE P w K Θ W tb g) : SndE P w K Θ W (tOp r ta tb) (e2 op f g) :=
  snd_op hr (snd_cons h1 (snd_cons h2 snd_nil))
theorem snd_op1 {r : V → Hp → VK → Prop} {op : List O → Option O} {ta : TE} {f : M R} (hr : OpOk P w K Θ (r1 r) op) (h1 : SndE P w K Θ W ta f) : SndE P w K Θ W (tUn r ta) (e1 op f) :=
  snd_op hr (snd_cons h1 snd_nil)
theorem ce_bin {op : Operator} {r : R2} {o : List O → Option O} {a b : Expr} {f g : M R} {pos : Pos} (hr : OpOk X.prog X.w X.K Θ (r2 r) o) (ho : OpR X (binaryOp op) r) (ha : CE Θ X W a f) (hb : CE Θ X W b g) : CE Θ X W (.BinOp a op b pos) (e2 o f g) :=
  let ⟨_, a1, a2⟩ := ha; let ⟨_, b1, b2⟩ := hb; ⟨_, pe_op ho a1 b1, snd_op2 hr a2 b2⟩
theorem ce_un {op : UnaryOp} {r : V → Hp → VK → Prop} {o : List O → Option O} {a : Expr} {f : M R} {pos : Pos} (hr : OpOk X.prog X.w X.K Θ (r1 r) o) (ho : UnR X (unaryOp op) r) (ha : CE Θ X W a f) : CE Θ X W (.UnaryOp op a pos) (e1 o f) :=
  let ⟨_, a1, a2⟩ := ha; ⟨_, pe_un ho a1, snd_op1 hr a2⟩
theorem ce_cmp {op : CmpOp} {r : R2} {o : List O → Option O} {a b : Expr} {f g : M R} {pos : Pos} (hr : OpOk X.prog X.w X.K Θ (r2 r) o) (ho : OpR X (compareOp op) r) (ha : CE Θ X W a f) (hb : CE Θ X W b g) (hm : behindInMarks op b = false := by first | exact nomark _ | rfl) : CE Θ X W (.Compare a [op] [b] pos) (e2 o f g) :=
  let ⟨_, a1, a2⟩ := ha; let ⟨_, b1, b2⟩ := hb; ⟨_, pe_cmpR ho a1 b1 hm, snd_op2 hr a2 b2⟩
theorem ct_cmp {op : CmpOp} {r : R2} {o : List O → Option O} {a b : Expr} {f g : M R} {pos : Pos} (hr : OpOk X.prog X.w X.K Θ (r2 r) o) (ho : OpR X (compareOp op) r) (ha : CE Θ X W a f) (hb : CE Θ X W b g) (hm : behindInMarks op b = false := by first | exact nomark _ | rfl) : CT Θ X W (.Compare a [op] [b] pos) (tBool (e2 o f g)) :=
  let ⟨_, a1, a2⟩ := ha; let ⟨_, b1, b2⟩ := hb; ⟨_, pt_cmpR ho a1 b1 hm, snd_tB (snd_op2 hr a2 b2)⟩
theorem ce_ix {r : R2} {o : List O → Option O} {a b : Expr} {f g : M R} {pos : Pos} (hr : OpOk X.prog X.w X.K Θ (r2 r) o) (ho : IxR X r) (ha : CE Θ X W a f) (hb : CE Θ X W b g) (hs : PlainIx b := by exact fun _ _ => rfl) : CE Θ X W (.Subscript a b pos) (e2 o f g) :=
  let ⟨_, a1, a2⟩ := ha; let ⟨_, b1, b2⟩ := hb; ⟨_, pe_ix ho a1 b1 hs, snd_op2 hr a2 b2⟩
theorem ce_b {r : List V → Hp → VK → Prop} {o : List O → Option O} {x : Str} {id : String} {e : Expr} {es : List Expr} {f : M (List R)} {p pos : Pos} (hr : OpOk X.prog X.w X.K Θ r o) (hc : CallR X (.builtin id) r) (hg : Gl X x) (hm : X.mg x = none) (ha : CA Θ X W (e :: es) f) (hv : bootBuiltins x = some (.builtin id) := by decide +kernel) (hn : x ≠ "__name__" := by decide) (hdb : (x == ("__debug__" : Str)) = false := by decide)
    (he : starEach (e :: es) X.env = (false, eval e X.env) :: starEach es X.env := by rfl) (hpl : (backTo pos (starEach es X.env)).any (·.1) = false := by rfl) : CE Θ X W (.Call (.Name x p) (e :: es) [] pos) (eOp o f) :=
  let ⟨_, a1, a2⟩ := ha; ⟨_, pe_callB hc hg hm hv a1 hn hdb he hpl, snd_op hr a2⟩
theorem ce_ty {r : List V → Hp → VK → Prop} {o : List O → Option O} {x : Str} {T : String} {e : Expr} {es : List Expr} {f : M (List R)} {p pos : Pos} (hr : OpOk X.prog X.w X.K Θ r o) (hc : CallR X (.type T) r) (hg : Gl X x) (hm : X.mg x = none) (ha : CA Θ X W (e :: es) f) (hv : bootBuiltins x = some (.type T) := by decide +kernel) (hn : x ≠ "__name__" := by decide) (hdb : (x == ("__debug__" : Str)) = false := by decide)
    (he : starEach (e :: es) X.env = (false, eval e X.env) :: starEach es X.env := by rfl) (hpl : (backTo pos (starEach es X.env)).any (·.1) = false := by rfl) : CE Θ X W (.Call (.Name x p) (e :: es) [] pos) (eOp o f) :=
  let ⟨_, a1, a2⟩ := ha; ⟨_, pe_callTy hc hg hm hv a1 hn hdb he hpl, snd_op hr a2⟩
end
end Wl

/- text WlH -/
set_option Elab.async false
set_option maxRecDepth 100000
namespace Wl
open PySem PySem.Spec L2
open PyProof.Rows hiding St

section
variable {P : Program} {w : World} {K : PySem.W.Frag} {Θ : Nat → ObSem} {W : WX} {X : Cx}
/-! ### scalar results -/
theorem OOk.full {H Hm : Hp} {v : V} {o : O} {F : Fp} {d : D} (h : OOk P w K Θ H Hm v o F) (s : Same Hm H) (e : asD o = some d) : Rp P w K H v d :=
  let ⟨_, r, _, s2, _⟩ := h.share s e; r.same s2
def asDs : List O → Option (List D)
  | [] => some []
  | o :: os => match asD o, asDs os with
    | some d, some ds => some (d :: ds)
    | _, _ => none
theorem OOks.full {H Hm : Hp} (s : Same Hm H) : ∀ {vs : List V} {os : List O} {ds : List D}, OOks P w K Θ H Hm vs os → asDs os = some ds → RpL P w K H vs ds
  | [], [], _, _, e => by cases e; exact .nil
  | v :: vs, o :: os, ds, h, e => by
    unfold asDs at e
    split at e
    · rename_i d ds' e1 e2
      cases e
      obtain ⟨⟨F, h1⟩, h2⟩ := h
      exact .cons (h1.full s e1) (OOks.full s h2 e2)
    · cases e
  | [], _ :: _, _, h, _ => h.elim
  | _ :: _, [], _, h, _ => h.elim
def ScOk (P : Program) (w : World) (K : PySem.W.Frag) (r : List V → Hp → VK → Prop) (op : List D → Option D) : Prop :=
  ∀ H vs ds d, RpL P w K H vs ds → op ds = some d → ∀ Q : VK, (∀ v, (∀ H', Rp P w K H' v d) → Q v H) → r vs H Q
def oSc (op : List D → Option D) : List O → Option O := fun os => match asDs os with
  | some ds => match op ds with
    | some d => some (.sh d)
    | none => none
  | none => none
theorem opOk_sc {r : List V → Hp → VK → Prop} {op : List D → Option D} (h : ScOk P w K r op) : OpOk P w K Θ r (oSc op) := fun H Hm vs os o s hs e Q q => by
  unfold oSc at e
  cases e1 : asDs os with
  | none => rw [e1] at e; cases e
  | some ds =>
    rw [e1] at e
    simp only at e
    cases e2 : op ds with
    | none => rw [e2] at e; cases e
    | some d =>
      rw [e2] at e; cases e
      exact h H vs ds d (hs.full s e1) e2 Q fun v hv => q v H Hm noF (Fresh.refl s) ⟨hv Hm, rfl⟩
theorem rp1 {H : Hp} {vs : List V} {d : D} (h : RpL P w K H vs [d]) : ∃ v, vs = [v] ∧ Rp P w K H v d := by
  cases h with
  | cons a b => cases b; exact ⟨_, rfl, a⟩
theorem rp2 {H : Hp} {vs : List V} {d e : D} (h : RpL P w K H vs [d, e]) : ∃ v u, vs = [v, u] ∧ Rp P w K H v d ∧ Rp P w K H u e := by
  cases h with
  | cons a b => obtain ⟨u, rfl, c⟩ := rp1 b; exact ⟨_, u, rfl, a, c⟩
/-- two ints -/
def dI2 (C : Int → Int → Bool) (g : Int → Int → D) : List D → Option D := fun ds => match ds with
  | [.int i, .int j] => if C i j then some (g i j) else none
  | _ => none
theorem sc_I2 {C : Int → Int → Bool} {Cp : Int → Int → Prop} {g : Int → Int → V} {d : Int → Int → D} (hc : ∀ i j, C i j = true → Cp i j) (h : ∀ i j H, Rp P w K H (g i j) (d i j)) : ScOk P w K (r2 (rI Cp g)) (dI2 C d) := fun H vs ds r hs e Q q => by
  unfold dI2 at e
  split at e
  · rename_i i j
    split at e
    · rename_i c
      cases e
      obtain ⟨v, u, rfl, a, b⟩ := rp2 hs
      cases a; cases b
      exact ⟨i, j, rfl, rfl, hc i j c, q _ (h i j)⟩
    · cases e
  · cases e
def dI0 (g : Int → Int → D) : List D → Option D := fun ds => match ds with
  | [.int i, .int j] => some (g i j)
  | _ => none
theorem sc_I0 {g : Int → Int → V} {d : Int → Int → D} (h : ∀ i j H, Rp P w K H (g i j) (d i j)) : ScOk P w K (r2 (rI0 g)) (dI0 d) := fun H vs ds r hs e Q q => by
  unfold dI0 at e
  split at e
  · rename_i i j
    cases e
    obtain ⟨v, u, rfl, a, b⟩ := rp2 hs
    cases a; cases b
    exact ⟨i, j, rfl, rfl, q _ (h i j)⟩
  · cases e
abbrev dAdd := dI0 fun i j => .int (i + j)
abbrev dSub := dI0 fun i j => .int (i - j)
abbrev dMul := dI2 (fun i j => decide (i.natAbs < 2 ^ 4000) && decide (j.natAbs < 2 ^ 4000)) fun i j => .int (i * j)
abbrev dMod := dI2 (fun _ j => decide (0 < j)) fun i j => .int (i % j)
abbrev dDiv := dI2 (fun _ j => decide (0 < j) && decide (j < 1073741824)) fun i j => .int (i / j)
abbrev dPow := dI2 (fun i j => decide (0 ≤ j) && decide (j ≤ 64) && decide (i.natAbs < 2 ^ 4000)) fun i j => .int (i ^ j.toNat)
abbrev dLt := dI0 fun i j => .bool (decide (i < j))
abbrev dLe := dI0 fun i j => .bool (decide (i ≤ j))
abbrev dGt := dI0 fun i j => .bool (decide (j < i))
abbrev dGe := dI0 fun i j => .bool (decide (j ≤ i))
theorem ce_add {a b : Expr} {f g : M R} {pos : Pos} (ha : CE Θ X W a f) (hb : CE Θ X W b g) : CE Θ X W (.BinOp a .Add b pos) (e2 (oSc dAdd) f g) := ce_bin (opOk_sc (sc_I0 fun _ _ _ => .int _)) op_add ha hb
theorem ce_sub {a b : Expr} {f g : M R} {pos : Pos} (ha : CE Θ X W a f) (hb : CE Θ X W b g) : CE Θ X W (.BinOp a .Sub b pos) (e2 (oSc dSub) f g) := ce_bin (opOk_sc (sc_I0 fun _ _ _ => .int _)) op_sub ha hb
theorem log4000 {i : Int} (h : i.natAbs < 2 ^ 4000) : i.natAbs.log2 < 4000 := PySem.Flt.log2_lt_of (by decide) h
theorem ce_mul {a b : Expr} {f g : M R} {pos : Pos} (ha : CE Θ X W a f) (hb : CE Θ X W b g) : CE Θ X W (.BinOp a .Mult b pos) (e2 (oSc dMul) f g) :=
  ce_bin (opOk_sc (sc_I2 (fun i j c => by
    rw [Bool.and_eq_true] at c
    have h1 := log4000 (of_decide_eq_true c.1)
    have h2 := log4000 (of_decide_eq_true c.2)
    show i.natAbs.log2 + j.natAbs.log2 < 1000000
    omega) fun _ _ _ => .int _)) op_mulW ha hb
theorem ce_mod {a b : Expr} {f g : M R} {pos : Pos} (ha : CE Θ X W a f) (hb : CE Θ X W b g) : CE Θ X W (.BinOp a .Mod b pos) (e2 (oSc dMod) f g) := ce_bin (opOk_sc (sc_I2 (fun _ _ c => of_decide_eq_true c) fun _ _ _ => .int _)) op_mod ha hb
theorem ce_fdiv {a b : Expr} {f g : M R} {pos : Pos} (ha : CE Θ X W a f) (hb : CE Θ X W b g) : CE Θ X W (.BinOp a .FloorDiv b pos) (e2 (oSc dDiv) f g) :=
  ce_bin (opOk_sc (sc_I2 (fun _ _ c => by rw [Bool.and_eq_true] at c; exact ⟨of_decide_eq_true c.1, of_decide_eq_true c.2⟩) fun _ _ _ => .int _)) op_fdiv ha hb
theorem op_powW : OpR X (binaryOp .Pow) (rI (fun i j => 0 ≤ j ∧ j ≤ 64 ∧ i.natAbs < 2 ^ 4000) fun i j => .int (i ^ j.toNat)) := opI fun i j _ _ _ _ _ hc q => by
  refine pow_int hc.1 ?_ q
  have h := log4000 hc.2.2
  have hb : Builtin.Int.intBits i ≤ 4000 := by
    unfold Builtin.Int.intBits
    split <;> omega
  have h2 : (Builtin.Int.intBits i : Int) * j ≤ 4000 * 64 := Int.mul_le_mul (by omega) hc.2.1 hc.1 (by decide)
  exact Int.le_trans h2 (by decide)
theorem ce_pow {a b : Expr} {f g : M R} {pos : Pos} (ha : CE Θ X W a f) (hb : CE Θ X W b g) : CE Θ X W (.BinOp a .Pow b pos) (e2 (oSc dPow) f g) :=
  ce_bin (opOk_sc (sc_I2 (fun _ _ c => by
    rw [Bool.and_eq_true, Bool.and_eq_true] at c
    exact ⟨of_decide_eq_true c.1.1, of_decide_eq_true c.1.2, of_decide_eq_true c.2⟩) fun _ _ _ => .int _)) op_powW ha hb
/-! comparisons of ints -/
theorem ce_lt {a b : Expr} {f g : M R} {pos : Pos} (ha : CE Θ X W a f) (hb : CE Θ X W b g) : CE Θ X W (.Compare a [.Lt] [b] pos) (e2 (oSc dLt) f g) := ce_cmp (opOk_sc (sc_I0 fun _ _ _ => .bl _)) op_lt ha hb
theorem ce_le {a b : Expr} {f g : M R} {pos : Pos} (ha : CE Θ X W a f) (hb : CE Θ X W b g) : CE Θ X W (.Compare a [.LtE] [b] pos) (e2 (oSc dLe) f g) := ce_cmp (opOk_sc (sc_I0 fun _ _ _ => .bl _)) op_le ha hb
theorem ce_gt {a b : Expr} {f g : M R} {pos : Pos} (ha : CE Θ X W a f) (hb : CE Θ X W b g) : CE Θ X W (.Compare a [.Gt] [b] pos) (e2 (oSc dGt) f g) := ce_cmp (opOk_sc (sc_I0 fun _ _ _ => .bl _)) op_gt ha hb
theorem ce_ge {a b : Expr} {f g : M R} {pos : Pos} (ha : CE Θ X W a f) (hb : CE Θ X W b g) : CE Θ X W (.Compare a [.GtE] [b] pos) (e2 (oSc dGe) f g) := ce_cmp (opOk_sc (sc_I0 fun _ _ _ => .bl _)) op_ge ha hb
theorem ct_lt {a b : Expr} {f g : M R} {pos : Pos} (ha : CE Θ X W a f) (hb : CE Θ X W b g) : CT Θ X W (.Compare a [.Lt] [b] pos) (tBool (e2 (oSc dLt) f g)) := ct_cmp (opOk_sc (sc_I0 fun _ _ _ => .bl _)) op_lt ha hb
theorem ct_le {a b : Expr} {f g : M R} {pos : Pos} (ha : CE Θ X W a f) (hb : CE Θ X W b g) : CT Θ X W (.Compare a [.LtE] [b] pos) (tBool (e2 (oSc dLe) f g)) := ct_cmp (opOk_sc (sc_I0 fun _ _ _ => .bl _)) op_le ha hb
theorem ct_gt {a b : Expr} {f g : M R} {pos : Pos} (ha : CE Θ X W a f) (hb : CE Θ X W b g) : CT Θ X W (.Compare a [.Gt] [b] pos) (tBool (e2 (oSc dGt) f g)) := ct_cmp (opOk_sc (sc_I0 fun _ _ _ => .bl _)) op_gt ha hb
theorem ct_ge {a b : Expr} {f g : M R} {pos : Pos} (ha : CE Θ X W a f) (hb : CE Θ X W b g) : CT Θ X W (.Compare a [.GtE] [b] pos) (tBool (e2 (oSc dGe) f g)) := ct_cmp (opOk_sc (sc_I0 fun _ _ _ => .bl _)) op_ge ha hb

/-! == of data without dicts -/
mutual
theorem Rp.dp {H : Hp} : ∀ (d : D) {v : V}, Rp P w K H v d → d.canLay0 = true → Dp K H v d
  | .none, _, .non, _ => .non
  | .bool b, _, .bl _, _ => .bl b
  | .int i, _, .int _, _ => .int i
  | .str x, _, .str _, _ => .str x
  | .list ds, _, .lst h r, e => .lst h (RpL.dp ds r (by simpa [PyData.canLay0] using e))
  | .tuple ds, _, .tup h r, e => .tup h (RpL.dp ds r (by simpa [PyData.canLay0] using e))
  | .dict _, _, _, e => by simp [PyData.canLay0] at e
theorem RpL.dp {H : Hp} : ∀ (ds : List D) {vs : List V}, RpL P w K H vs ds → PyData.canLayAll0 ds = true → DpAll K H vs ds
  | [], _, .nil, _ => .nil
  | d :: ds, _, .cons a b, e => by
    have e' : d.canLay0 = true ∧ PyData.canLayAll0 ds = true := by simpa [PyData.canLayAll0] using e
    exact .cons (Rp.dp d a e'.1) (RpL.dp ds b e'.2)
end
def dEq : List D → Option D := fun ds => match ds with
  | [d, e] => if SeqAt.shaped d && SeqAt.shaped e then some (.bool (PyData.eqv d e)) else none
  | _ => none
def dNe : List D → Option D := fun ds => match ds with
  | [d, e] => if SeqAt.shaped d && SeqAt.shaped e then some (.bool (!PyData.eqv d e)) else none
  | _ => none
theorem sc_eq : ScOk P w K (r2 (rEqD K)) dEq := fun H vs ds r hs e Q q => by
  unfold dEq at e
  split at e
  · rename_i d d'
    split at e
    · rename_i c
      cases e
      rw [Bool.and_eq_true] at c
      obtain ⟨v, u, rfl, a, b⟩ := rp2 hs
      exact ⟨d, d', a.dp d (SeqAt.canLay_of_shaped c.1), b.dp d' (SeqAt.canLay_of_shaped c.2), c.1, c.2, q _ fun _ => .bl _⟩
    · cases e
  · cases e
theorem sc_ne : ScOk P w K (r2 (rNeD K)) dNe := fun H vs ds r hs e Q q => by
  unfold dNe at e
  split at e
  · rename_i d d'
    split at e
    · rename_i c
      cases e
      rw [Bool.and_eq_true] at c
      obtain ⟨v, u, rfl, a, b⟩ := rp2 hs
      exact ⟨d, d', a.dp d (SeqAt.canLay_of_shaped c.1), b.dp d' (SeqAt.canLay_of_shaped c.2), c.1, c.2, q _ fun _ => .bl _⟩
    · cases e
  · cases e
theorem u64 {k : Nat} (hr : Room k X.A) : X.A.units + 64 < cLine := hr.units
theorem u65 {k : Nat} (hr : Room k X.A) : X.A.units + 65 < cLine := by have := hr.un; omega
theorem ce_eq {k : Nat} {a b : Expr} {f g : M R} {pos : Pos} (hr : Room k X.A) (ha : CE Θ X W a f) (hb : CE Θ X W b g) : CE Θ X W (.Compare a [.Eq] [b] pos) (e2 (oSc dEq) f g) := ce_cmp (opOk_sc sc_eq) (op_eqD (u64 hr)) ha hb
theorem ce_ne {k : Nat} {a b : Expr} {f g : M R} {pos : Pos} (hr : Room k X.A) (ha : CE Θ X W a f) (hb : CE Θ X W b g) : CE Θ X W (.Compare a [.NotEq] [b] pos) (e2 (oSc dNe) f g) := ce_cmp (opOk_sc sc_ne) (op_neD (u64 hr)) ha hb
theorem ct_eq {k : Nat} {a b : Expr} {f g : M R} {pos : Pos} (hr : Room k X.A) (ha : CE Θ X W a f) (hb : CE Θ X W b g) : CT Θ X W (.Compare a [.Eq] [b] pos) (tBool (e2 (oSc dEq) f g)) := ct_cmp (opOk_sc sc_eq) (op_eqD (u64 hr)) ha hb
theorem ct_ne {k : Nat} {a b : Expr} {f g : M R} {pos : Pos} (hr : Room k X.A) (ha : CE Θ X W a f) (hb : CE Θ X W b g) : CT Θ X W (.Compare a [.NotEq] [b] pos) (tBool (e2 (oSc dNe) f g)) := ct_cmp (opOk_sc sc_ne) (op_neD (u64 hr)) ha hb
/-! in, not in: a list -/
def dIn : List D → Option D := fun ds => match ds with
  | [d, .list es] => if SeqAt.shaped d && SeqAt.shaped (.list es) then some (.bool (es.any fun z => PyData.eqv z d)) else none
  | _ => none
def dNotIn : List D → Option D := fun ds => match ds with
  | [d, .list es] => if SeqAt.shaped d && SeqAt.shaped (.list es) then some (.bool (!es.any fun z => PyData.eqv z d)) else none
  | _ => none
theorem sc_in : ScOk P w K (r2 (rInD K)) dIn := fun H vs ds r hs e Q q => by
  unfold dIn at e
  split at e
  · rename_i d es
    split at e
    · rename_i c
      cases e
      rw [Bool.and_eq_true] at c
      obtain ⟨v, u, rfl, a, b⟩ := rp2 hs
      exact ⟨d, es, a.dp d (SeqAt.canLay_of_shaped c.1), b.dp _ (SeqAt.canLay_of_shaped c.2), c.1, c.2, q _ fun _ => .bl _⟩
    · cases e
  · cases e
theorem sc_notIn : ScOk P w K (r2 (rNotInD K)) dNotIn := fun H vs ds r hs e Q q => by
  unfold dNotIn at e
  split at e
  · rename_i d es
    split at e
    · rename_i c
      cases e
      rw [Bool.and_eq_true] at c
      obtain ⟨v, u, rfl, a, b⟩ := rp2 hs
      exact ⟨d, es, a.dp d (SeqAt.canLay_of_shaped c.1), b.dp _ (SeqAt.canLay_of_shaped c.2), c.1, c.2, q _ fun _ => .bl _⟩
    · cases e
  · cases e
theorem ce_in {k : Nat} {a b : Expr} {f g : M R} {pos : Pos} (hr : Room k X.A) (ha : CE Θ X W a f) (hb : CE Θ X W b g) (hm : behindInMarks .In b = false := by rfl) : CE Θ X W (.Compare a [.In] [b] pos) (e2 (oSc dIn) f g) := ce_cmp (opOk_sc sc_in) (op_inD (u65 hr)) ha hb hm
theorem ce_notIn {k : Nat} {a b : Expr} {f g : M R} {pos : Pos} (hr : Room k X.A) (ha : CE Θ X W a f) (hb : CE Θ X W b g) (hm : behindInMarks .NotIn b = false := by rfl) : CE Θ X W (.Compare a [.NotIn] [b] pos) (e2 (oSc dNotIn) f g) := ce_cmp (opOk_sc sc_notIn) (op_notInD (u65 hr)) ha hb hm
theorem ct_in {k : Nat} {a b : Expr} {f g : M R} {pos : Pos} (hr : Room k X.A) (ha : CE Θ X W a f) (hb : CE Θ X W b g) (hm : behindInMarks .In b = false := by rfl) : CT Θ X W (.Compare a [.In] [b] pos) (tBool (e2 (oSc dIn) f g)) := ct_cmp (opOk_sc sc_in) (op_inD (u65 hr)) ha hb hm
theorem ct_notIn {k : Nat} {a b : Expr} {f g : M R} {pos : Pos} (hr : Room k X.A) (ha : CE Θ X W a f) (hb : CE Θ X W b g) (hm : behindInMarks .NotIn b = false := by rfl) : CT Θ X W (.Compare a [.NotIn] [b] pos) (tBool (e2 (oSc dNotIn) f g)) := ct_cmp (opOk_sc sc_notIn) (op_notInD (u65 hr)) ha hb hm
/-! one sign in a text; text + text -/
def dInS : List D → Option D := fun ds => match ds with
  | [.str a, .str z] => match a.cps.toList with
    | [c] => some (.bool (decide (c ∈ z.cps.toList)))
    | _ => none
  | _ => none
theorem str_one {a : Str} {c : Nat} (h : a.cps.toList = [c]) : a = ⟨#[c]⟩ := by
  cases a with
  | mk l => simp only at h; congr 1; exact Array.ext' h
theorem sc_inS : ScOk P w K (r2 rInS) dInS := fun H vs ds r hs e Q q => by
  unfold dInS at e
  split at e
  · rename_i a z
    split at e
    · rename_i c hc
      cases e
      obtain ⟨v, u, rfl, h1, h2⟩ := rp2 hs
      cases h1; cases h2
      exact ⟨c, z, by rw [str_one hc], rfl, q _ fun _ => .bl _⟩
    · cases e
  · cases e
theorem ce_inS {a b : Expr} {f g : M R} {pos : Pos} (ha : CE Θ X W a f) (hb : CE Θ X W b g) (hm : behindInMarks .In b = false := by rfl) : CE Θ X W (.Compare a [.In] [b] pos) (e2 (oSc dInS) f g) := ce_cmp (opOk_sc sc_inS) op_inS ha hb hm
def dCat : List D → Option D := fun ds => match ds with
  | [.str a, .str b] => if a.length + b.length ≤ sizeLine then some (.str (a ++ b)) else none
  | _ => none
theorem ce_cat {a b : Expr} {f g : M R} {pos : Pos} (ha : CE Θ X W a f) (hb : CE Θ X W b g) : CE Θ X W (.BinOp a .Add b pos) (e2 (oSc dCat) f g) := ce_bin (opOk_sc fun H vs ds r hs e Q q => by
  unfold dCat at e
  split at e
  · rename_i a z
    split at e
    · rename_i hl
      cases e
      obtain ⟨v, u, rfl, h1, h2⟩ := rp2 hs
      cases h1; cases h2
      exact ⟨a, z, rfl, rfl, hl, q _ fun _ => .str _⟩
    · cases e
  · cases e) op_add_str ha hb
/-! is None, is not None -/
theorem rp_non {H : Hp} {v : V} {d : D} (h : Rp P w K H v d) : decide (v = .non) = (match d with | .none => true | _ => false) := by
  cases h <;> rfl
def isNone : D → Bool
  | .none => true
  | _ => false
def dIsN (neg : Bool) : List D → Option D := fun ds => match ds with
  | [d] => some (.bool (if neg then !isNone d else isNone d))
  | _ => none
theorem ce_isN {a : Expr} {f : M R} {j : Nat} {pos pos' : Pos} (ha : CE Θ X W a f) : CE Θ X W (.Compare a [.Is] [.Constant .none j pos'] pos) (e1 (oSc (dIsN false)) f) := by
  obtain ⟨t, h1, h2⟩ := ha
  refine ⟨_, pe_cmp (pc_isN h1) rfl, ?_⟩
  exact snd_op1 (r := fun x H Q => Q (.bl (decide (x = .non))) H) (opOk_sc fun H vs ds r hs e Q q => by
    unfold dIsN at e
    split at e
    · rename_i d
      cases e
      obtain ⟨v, rfl, h⟩ := rp1 hs
      show Q (.bl (decide (v = .non))) H
      rw [rp_non h]
      exact q _ fun _ => by cases d <;> exact .bl _
    · cases e) h2
theorem ce_notN {a : Expr} {f : M R} {j : Nat} {pos pos' : Pos} (ha : CE Θ X W a f) : CE Θ X W (.Compare a [.IsNot] [.Constant .none j pos'] pos) (e1 (oSc (dIsN true)) f) := by
  obtain ⟨t, h1, h2⟩ := ha
  refine ⟨_, pe_cmp (pc_notN h1) rfl, ?_⟩
  exact snd_op1 (r := fun x H Q => Q (.bl (!decide (x = .non))) H) (opOk_sc fun H vs ds r hs e Q q => by
    unfold dIsN at e
    split at e
    · rename_i d
      cases e
      obtain ⟨v, rfl, h⟩ := rp1 hs
      show Q (.bl (!decide (v = .non))) H
      rw [rp_non h]
      exact q _ fun _ => by cases d <;> exact .bl _
    · cases e) h2
theorem ct_cmpv {a b : Expr} {op : CmpOp} {f : M R} {pos : Pos} (h : CE Θ X W (.Compare a [op] [b] pos) f) (he : ∀ whole, isTrue (.Compare a [op] [b] pos) X.env whole = (do let v ← whole; standAt pos; holding [v] (truthy v)) := by intro _; rfl) : CT Θ X W (.Compare a [op] [b] pos) (tBool f) := ct_val h he
/-! len -/
def dLen : List D → Option D := fun ds => match ds with
  | [.list l] => some (.int l.length)
  | [.tuple l] => some (.int l.length)
  | _ => none
theorem ce_len {e : Expr} {f : M R} {p pos : Pos} (hg : Gl X "len") (hm : X.mg "len" = none) (ha : CE Θ X W e f) (hs1 : starEach [e] X.env = [(false, eval e X.env)] := by rfl) : CE Θ X W (.Call (.Name "len" p) [e] [] pos) (eOp (oSc dLen) (aCons f aNil)) :=
  ce_b (opOk_sc fun H vs ds r hs e Q q => by
    unfold dLen at e
    split at e
    · rename_i l
      cases e
      obtain ⟨v, rfl, h⟩ := rp1 hs
      cases h with
      | lst h1 h2 => exact ⟨_, _, rfl, .inl h1, by rw [h2.length]; exact q _ fun _ => .int _⟩
    · rename_i l
      cases e
      obtain ⟨v, rfl, h⟩ := rp1 hs
      cases h with
      | tup h1 h2 => exact ⟨_, _, rfl, .inr h1, by rw [h2.length]; exact q _ fun _ => .int _⟩
    · cases e) call_len_seq hg hm (ca_cons ha ca_nil hs1) (he := hs1) (hpl := rfl)
def dLenS : List D → Option D := fun ds => match ds with
  | [.str z] => if z.length ≤ sizeLine then some (.int z.length) else none
  | _ => none
theorem ce_lenS {e : Expr} {f : M R} {p pos : Pos} (hg : Gl X "len") (hm : X.mg "len" = none) (ha : CE Θ X W e f) (hs1 : starEach [e] X.env = [(false, eval e X.env)] := by rfl) : CE Θ X W (.Call (.Name "len" p) [e] [] pos) (eOp (oSc dLenS) (aCons f aNil)) :=
  ce_b (opOk_sc fun H vs ds r hs e Q q => by
    unfold dLenS at e
    split at e
    · rename_i z
      split at e
      · rename_i hz
        cases e
        obtain ⟨v, rfl, h⟩ := rp1 hs
        cases h
        exact ⟨_, rfl, hz, q _ fun _ => .int _⟩
      · cases e
    · cases e) call_len_str hg hm (ca_cons ha ca_nil hs1) (he := hs1) (hpl := rfl)
/-! all, any of a list of truth values -/
def boolsOf : List D → Option (List Bool)
  | [] => some []
  | .bool b :: ds => match boolsOf ds with
    | some bs => some (b :: bs)
    | none => none
  | _ => none
theorem bools_ok {H : Hp} : ∀ {ds : List D} {vs : List V} {bs : List Bool}, RpL P w K H vs ds → boolsOf ds = some bs → vs = bs.map V.bl
  | [], _, _, .nil, e => by cases e; rfl
  | .bool b :: ds, _, bs, .cons h r, e => by
    cases h
    unfold boolsOf at e
    split at e
    · rename_i bs' e1
      cases e
      rw [bools_ok r e1]; rfl
    · cases e
  | .none :: _, _, _, _, e => by cases e
  | .int _ :: _, _, _, _, e => by cases e
  | .str _ :: _, _, _, _, e => by cases e
  | .list _ :: _, _, _, _, e => by cases e
  | .tuple _ :: _, _, _, _, e => by cases e
  | .dict _ :: _, _, _, _, e => by cases e
def dAll (all : Bool) : List D → Option D := fun ds => match ds with
  | [.list l] => match boolsOf l with
    | some bs => some (.bool (if all then bs.all id else bs.any id))
    | none => none
  | _ => none
theorem ce_all {e : Expr} {f : M R} {p pos : Pos} (hc : X.calm = true) (hg : Gl X "all") (hm : X.mg "all" = none) (ha : CE Θ X W e f) (hs1 : starEach [e] X.env = [(false, eval e X.env)] := by rfl) : CE Θ X W (.Call (.Name "all" p) [e] [] pos) (eOp (oSc (dAll true)) (aCons f aNil)) :=
  ce_b (opOk_sc fun H vs ds r hs e Q q => by
    unfold dAll at e
    split at e
    · rename_i l
      split at e
      · rename_i bs hb
        cases e
        obtain ⟨v, rfl, h⟩ := rp1 hs
        cases h with
        | lst h1 h2 => exact ⟨_, bs, rfl, by rw [← bools_ok h2 hb]; exact h1, q _ fun _ => .bl _⟩
      · cases e
    · cases e) (cr_all hc) hg hm (ca_cons ha ca_nil hs1) (he := hs1) (hpl := rfl)
theorem ce_any {e : Expr} {f : M R} {p pos : Pos} (hc : X.calm = true) (hg : Gl X "any") (hm : X.mg "any" = none) (ha : CE Θ X W e f) (hs1 : starEach [e] X.env = [(false, eval e X.env)] := by rfl) : CE Θ X W (.Call (.Name "any" p) [e] [] pos) (eOp (oSc (dAll false)) (aCons f aNil)) :=
  ce_b (opOk_sc fun H vs ds r hs e Q q => by
    unfold dAll at e
    split at e
    · rename_i l
      split at e
      · rename_i bs hb
        cases e
        obtain ⟨v, rfl, h⟩ := rp1 hs
        cases h with
        | lst h1 h2 => exact ⟨_, bs, rfl, by rw [← bools_ok h2 hb]; exact h1, q _ fun _ => .bl _⟩
      · cases e
    · cases e) (cr_any hc) hg hm (ca_cons ha ca_nil hs1) (he := hs1) (hpl := rfl)
/-! isinstance of a built-in class -/
def tyD : D → Option String
  | .none => some "NoneType"
  | .bool _ => some "bool"
  | .int _ => some "int"
  | .str _ => some "str"
  | .list _ => some "list"
  | .tuple _ => some "tuple"
  | .dict _ => none
theorem tyx {H : Hp} {v : V} {d : D} {t : String} (h : Rp P w K H v d) (e : tyD d = some t) : TyX K H v (.type t) := by
  cases h with
  | non => cases e; exact .base .non
  | bl b => cases e; exact .base (.bl b)
  | int i => cases e; exact .base (.int i)
  | str x => cases e; exact .base (.str x)
  | lst h1 _ =>
    cases e
    rcases h1 with (h1 | ⟨o, h1⟩) | ⟨o, _, _, h1, h2, _⟩
    · exact .base (.lst h1)
    · exact .base (.frz h1)
    · exact .kList h1 h2
  | tup h1 _ =>
    cases e
    rcases h1 with (h1 | ⟨o, h1⟩) | ⟨o, _, _, h1, h2, _⟩
    · exact .base (.tup h1)
    · exact .fTuple h1
    · exact .kTuple h1 h2
  | dk _ _ => cases e
  | dn _ _ => cases e
/-- is the class named t one of c's -/
def subTy (t c : String) : Bool := t == c || (t == "bool" && c == "int")
def dIsi (c : String) : List D → Option D := fun ds => match ds with
  | [d] => match tyD d with
    | some t => some (.bool (subTy t c))
    | none => none
  | _ => none
theorem ce_isi {x : Str} {c : String} {e : Expr} {f : M R} {p p2 pos : Pos} (hk : ∀ t ∈ ["NoneType", "bool", "int", "str", "list", "tuple"], PySem.W.kitOne X.K (.type t) (.type c) = some (subTy t c)) (hg : Gl X "isinstance") (hm : X.mg "isinstance" = none) (hg2 : Gl X x) (hm2 : X.mg x = none) (hv : bootBuiltins x = some (.type c)) (hn : x ≠ "__name__" := by decide) (hd : (x == ("__debug__" : Str)) = false := by decide)
    (ha : CE Θ X W e f) (hs1 : starEach [e, .Name x p2] X.env = [(false, eval e X.env), (false, eval (.Name x p2) X.env)] := by rfl) : CE Θ X W (.Call (.Name "isinstance" p) [e, .Name x p2] [] pos) (e1 (oSc (dIsi c)) f) := by
  obtain ⟨t, h1, h2⟩ := ha
  refine ⟨_, pe_callB call_isi hg hm (by decide +kernel) (pa_cons h1 (pa_cons (pe_bltn (v := .ty c) hg2 hm2 hv rfl hn hd) pa_nil) hs1) (he := hs1) (hpl := rfl), ?_⟩
  refine snd_op1 (r := fun x H Q => rIsi X.K [x, .ty c] H Q) (opOk_sc fun H vs ds r hs e Q q => ?_) h2
  unfold dIsi at e
  split at e
  · rename_i d
    split at e
    · rename_i t ht
      cases e
      obtain ⟨v, rfl, h⟩ := rp1 hs
      refine ⟨v, .ty c, .type t, .type c, subTy t c, rfl, .ty c, tyx h ht, hk t ?_, q _ fun _ => .bl _⟩
      cases d <;> cases ht <;> decide
    · cases e
  · cases e
end
end Wl

/- text WlI -/
set_option Elab.async false
set_option maxRecDepth 100000
namespace Wl
open PySem PySem.Spec L2
open PyProof.Rows hiding St

section
variable {P : Program} {w : World} {K : PySem.W.Frag} {Θ : Nat → ObSem} {W : WX} {X : Cx} {io : List Nat}
/-! ### many results shared -/
def shAll : List R → M (List D)
  | [] => mpure []
  | r :: rs => mbind (toSh r) fun d => mbind (shAll rs) fun ds => mpure (d :: ds)
theorem mbind_inv {α β : Type} {f : M α} {g : α → M β} {ρ : Env} {res : Res β} (e : mbind f g ρ = some res) : (∃ a ρ1, f ρ = some (.ok (a, ρ1)) ∧ g a ρ1 = some res) ∨ ∃ er, f ρ = some (.error er) ∧ res = .error er := by
  cases e1 : f ρ with
  | none => simp only [mbind, e1] at e; cases e
  | some r1 =>
    cases r1 with
    | error er => rw [mbind_er e1] at e; cases e; exact .inr ⟨er, rfl, rfl⟩
    | ok p => obtain ⟨a, ρ1⟩ := p; rw [mbind_ok e1] at e; exact .inl ⟨a, ρ1, rfl, e⟩
theorem shAll_ok {σ : L2.St} {H : Hp} : ∀ {vs : List V} {rs : List R} {ρ : Env} {Hm : Hp} {fp : Nat → Fp} {F : Fp} {res : Res (List D)}, Ok P w K Θ σ H Hm ρ fp → RLOk P w K Θ σ ρ H Hm vs rs F → (∀ p, F p → ¬ all fp p) → shAll rs ρ = some res →
    ∃ ds ρ1 Hm1 fp1, res = .ok (ds, ρ1) ∧ Ok P w K Θ σ H Hm1 ρ1 fp1 ∧ Grow H Hm (orF (all fp) F) H Hm1 (all fp1) ∧ RpL P w K Hm1 vs ds := by
  intro vs
  induction vs with
  | nil =>
    intro rs ρ Hm fp F res ok h dj e
    cases rs with
    | nil =>
      cases e
      exact ⟨[], ρ, Hm, fp, rfl, ok, by rw [show F = noF from h, orF_noF]; exact Grow.refl, .nil⟩
    | cons _ _ => exact h.elim
  | cons v vs ih =>
    intro rs ρ Hm fp F res ok h dj e
    cases rs with
    | nil => exact h.elim
    | cons r rs =>
      obtain ⟨F1, F2, h1, h2, h3, rfl⟩ := h
      rcases mbind_inv e with ⟨d, ρ1, e1, e⟩ | ⟨er, e1, _⟩
      · obtain ⟨Hm2, fp2, ok2, r2, g2⟩ := toSh_ok ok h1 (fun p hp => dj p (.inl hp)) e1
        obtain ⟨h2', d2⟩ := RLOk.beside h2 (fun p hp z => z.elim (dj p (.inr hp)) fun y => h3 p y hp) g2 (RLOk.stills' (fun i => toSh_still e1) h2)
        rcases mbind_inv e with ⟨ds, ρ3, e3, e⟩ | ⟨er, e3, _⟩
        · obtain ⟨ds', ρ3', Hm3, fp3, e4, ok3, g3, r3⟩ := ih ok2 h2' d2 e3
          cases e4
          cases e
          refine ⟨d :: ds, ρ3, Hm3, fp3, rfl, ok3, ⟨g2.sh.trans g3.sh, fun p u a b c => ?_⟩, .cons (r2.up g3.sh) r3⟩
          obtain ⟨k1, k2, k3⟩ := g2.far p u a b fun z => c (z.imp id .inl)
          exact g3.far p u k1 k2 fun z => z.elim k3 fun z => c (.inr (.inr z))
        · obtain ⟨_, _, _, _, e4, _⟩ := ih ok2 h2' d2 e3
          cases e4
      · exact (toSh_noerr e1).elim
def relDs (P : Program) (w : World) (K : PySem.W.Frag) : L2.St → Env → Hp → Hp → List V → List D → Fp → Prop := fun _ _ _ Hm vs ds F => RpL P w K Hm vs ds ∧ F = noF
theorem snd_ds {ta : TA} {f : M (List R)} (h : SndA P w K Θ W ta f) : Snd P w K Θ (relDs P w K) W ta (mbind f shAll) := fun σ H Hm ρ fp ok res e Q q => by
  refine Snd.then h (u := fun x _ H1 Q => Q x H1) (rel' := relDs P w K) (g := shAll) (fun r b σ H Hm ρ fp Fo ok hr d res e Q q => ?_) σ H Hm ρ fp ok res e Q q
  obtain ⟨ds, ρ1, Hm1, fp1, rfl, ok1, g1, r1⟩ := shAll_ok ok hr d e
  exact q b H Hm1 fp1 noF ok1 ⟨r1, rfl⟩ (fun _ z => z.elim) (g1.to fun p z => z.elim id fun y => y.elim)
/-! ### displays -/
theorem fresh_sh {H Hm : Hp} {p : Addr} {u : HO} (s : Same Hm H) (hp : H p = none) : Fresh H Hm (upd H p u) (upd Hm p u) noF := by
  have hm : Hm p = none := by
    cases z : Hm p with
    | none => rfl
    | some o => rw [s _ _ z] at hp; cases hp
  refine ⟨same_upd hp, same_upd hm, fun a o z => ?_, fun q o z => upd_ne (ne_of_none z hp), fun _ z => z.elim⟩
  by_cases ha : a = p
  · subst ha; rw [upd_same] at z ⊢; exact z
  · rw [upd_ne ha] at z ⊢; exact s _ _ z
theorem fresh_own {H Hm : Hp} {p : Addr} {u : HO} (s : Same Hm H) (hp : H p = none) : Fresh H Hm (upd H p u) Hm (one p) ∧ Hm p = none := by
  have hm : Hm p = none := by
    cases z : Hm p with
    | none => rfl
    | some o => rw [s _ _ z] at hp; cases hp
  exact ⟨⟨same_upd hp, Same.refl _, fun a o z => by rw [upd_ne (ne_of_none z hm)]; exact s _ _ z, fun _ _ _ => rfl, fun q z => by rw [show q = p from z]; exact hp⟩, hm⟩
/-- a result at a new address -/
theorem Fresh.post {σ : L2.St} {H Hm H' Hm' : Hp} {ρ : Env} {fp : Nat → Fp} {Fo : Fp} {Q : VK} {v : V} {o : O} (f : Fresh H Hm H' Hm' Fo) (ok : Ok P w K Θ σ H Hm ρ fp) (ho : OOk P w K Θ H' Hm' v o Fo) (q : Post P w K Θ (relE P w K Θ) W σ H Hm (all fp) Q (.ok (.v o, ρ))) : Q v H' :=
  let ⟨ok2, d2, g2⟩ := f.ok ok
  q v H' Hm' fp Fo ok2 ho d2 g2
def eTup (f : M (List R)) : M R := mbind (mbind f shAll) fun ds ρ => if ds.length ≤ sizeLine then some (.ok (.v (.sh (.tuple ds)), ρ)) else none
def eLst (f : M (List R)) : M R := mbind (mbind f shAll) fun ds ρ => if ds.length ≤ sizeLine then some (.ok (.v (.ol ds), ρ)) else none
theorem snd_tup {ta : TA} {f : M (List R)} (h : SndA P w K Θ W ta f) : SndE P w K Θ W (tTup ta) (eTup f) := by
  refine Snd.then (snd_ds h) (u := fun xs _ H1 Q => xs.length ≤ sizeLine ∧ ∀ p, H1 p = none → Q (V.ref p) (upd H1 p (.tup xs))) fun ds vs σ H Hm ρ fp Fo ok hr d res e Q q => ?_
  obtain ⟨hr, rfl⟩ := hr
  by_cases hl : ds.length ≤ sizeLine
  · rw [if_pos hl] at e; cases e
    refine ⟨by rw [hr.length]; exact hl, fun p hp => ?_⟩
    have f := fresh_sh (u := .tup vs) ok.sub hp
    exact f.post ok (o := .sh (.tuple ds)) ⟨.tup (SqT.of upd_same) (hr.same f.ms), rfl⟩ q.sub
  · rw [if_neg hl] at e; cases e
theorem snd_lst {ta : TA} {f : M (List R)} (h : SndA P w K Θ W ta f) : SndE P w K Θ W (tLst ta) (eLst f) := by
  refine Snd.then (snd_ds h) (u := fun xs _ H1 Q => xs.length ≤ sizeLine ∧ ∀ p, H1 p = none → Q (V.ref p) (upd H1 p (.lst xs))) fun ds vs σ H Hm ρ fp Fo ok hr d res e Q q => ?_
  obtain ⟨hr, rfl⟩ := hr
  by_cases hl : ds.length ≤ sizeLine
  · rw [if_pos hl] at e; cases e
    refine ⟨by rw [hr.length]; exact hl, fun p hp => ?_⟩
    obtain ⟨f, hm⟩ := fresh_own (u := .lst vs) ok.sub hp
    exact f.post ok (o := .ol ds) ⟨p, vs, rfl, upd_same, hm, hr, rfl⟩ q.sub
  · rw [if_neg hl] at e; cases e
theorem ce_tup {es : List Expr} {k : Nat} {f : M (List R)} {pos : Pos} (h : CA Θ X W es f) : CE Θ X W (.Tuple es k pos) (eTup f) := let ⟨_, a, b⟩ := h; ⟨_, pe_tup a, snd_tup b⟩
theorem ce_lst {es : List Expr} {f : M (List R)} {pos : Pos} (h : CA Θ X W es f) : CE Θ X W (.List es pos) (eLst f) := let ⟨_, a, b⟩ := h; ⟨_, pe_lst a, snd_lst b⟩
/-! ### subscripts -/
def asL : O → Option (List D)
  | .sh (.list ds) => some ds
  | .ol ds => some ds
  | _ => none
theorem asL_ok {H Hm : Hp} {v : V} {o : O} {F : Fp} {ds : List D} (h : OOk P w K Θ H Hm v o F) (s : Same Hm H) (e : asL o = some ds) : ∃ a xs, v = .ref a ∧ SqL K H a xs ∧ RpL P w K Hm xs ds := by
  cases o with
  | sh d =>
    cases d with
    | list l =>
      cases e
      obtain ⟨h, _⟩ := h
      cases h with
      | lst h1 h2 => exact ⟨_, _, rfl, sqL_mono (.of s) h1, h2⟩
    | _ => cases e
  | ol l =>
    cases e
    obtain ⟨p, xs, rfl, h1, _, h2, _⟩ := h
    exact ⟨p, xs, rfl, SqL.of h1, h2⟩
  | od nk kvs => cases e
  | ob τ d => cases e
theorem rp_atI {Hm : Hp} {xs : List V} {ds : List D} {i : Int} {d : D} (r : RpL P w K Hm xs ds) (e : atI ds i = some d) : ∃ v, atI xs i = some v ∧ Rp P w K Hm v d := by
  unfold atI at e ⊢
  rw [r.length]
  cases z : ixN ds.length i with
  | none => rw [z] at e; cases e
  | some j => rw [z] at e; exact r.get e
def oIx : List O → Option O := fun os => match os with
  | [.sh (.tuple ds), .sh (.int i)] => (atI ds i).map .sh
  | [.sh (.str z), .sh (.int i)] => if z.length ≤ sizeLine then (atI z.cps.toList i).map fun c => .sh (.str ⟨#[c]⟩) else none
  | [o, .sh (.int i)] => match asL o with
    | some ds => (atI ds i).map .sh
    | none => none
  | _ => none
theorem oo2 {H Hm : Hp} {vs : List V} {a b : O} (h : OOks P w K Θ H Hm vs [a, b]) : ∃ v u, vs = [v, u] ∧ (∃ F, OOk P w K Θ H Hm v a F) ∧ ∃ F, OOk P w K Θ H Hm u b F := by
  cases vs with
  | nil => exact h.elim
  | cons v vs =>
    cases vs with
    | nil => exact h.2.elim
    | cons u vs =>
      cases vs with
      | nil => exact ⟨v, u, rfl, h.1, h.2.1⟩
      | cons _ _ => exact h.2.2.elim
theorem oo1 {H Hm : Hp} {vs : List V} {a : O} (h : OOks P w K Θ H Hm vs [a]) : ∃ v, vs = [v] ∧ ∃ F, OOk P w K Θ H Hm v a F := by
  cases vs with
  | nil => exact h.elim
  | cons v vs =>
    cases vs with
    | nil => exact ⟨v, rfl, h.1⟩
    | cons _ _ => exact h.2.elim
theorem sh_int {H Hm : Hp} {v : V} {i : Int} (h : ∃ F, OOk P w K Θ H Hm v (.sh (.int i)) F) : v = .int i := by
  obtain ⟨F, h, _⟩ := h
  cases h; rfl
theorem opOk_ix : OpOk P w K Θ (r2 (rIx K)) oIx := fun H Hm vs os o s hs e Q q => by
  unfold oIx at e
  split at e
  · rename_i ds i
    obtain ⟨v, u, rfl, ⟨F, h1, _⟩, h2⟩ := oo2 hs
    cases sh_int h2
    cases h1 with
    | tup t1 t2 =>
      cases z : atI ds i with
      | none => rw [z] at e; cases e
      | some d =>
        rw [z] at e; cases e
        obtain ⟨x, e1, r1⟩ := rp_atI t2 z
        exact .inr (.inl ⟨_, _, i, x, rfl, rfl, sqT_mono (.of s) t1, e1, q x H Hm noF (Fresh.refl s) ⟨r1, rfl⟩⟩)
  · rename_i z i
    split at e
    · rename_i hz
      obtain ⟨v, u, rfl, ⟨F, h1, _⟩, h2⟩ := oo2 hs
      cases sh_int h2
      cases h1
      cases y : atI z.cps.toList i with
      | none => rw [y] at e; cases e
      | some c =>
        rw [y] at e; cases e
        exact .inr (.inr ⟨z, i, c, rfl, rfl, hz, y, q _ H Hm noF (Fresh.refl s) ⟨.str _, rfl⟩⟩)
    · cases e
  · rename_i o' i _ _
    split at e
    · rename_i ds hd
      obtain ⟨v, u, rfl, ⟨F, h1⟩, h2⟩ := oo2 hs
      cases sh_int h2
      obtain ⟨a, xs, rfl, t1, t2⟩ := asL_ok h1 s hd
      cases z : atI ds i with
      | none => rw [z] at e; cases e
      | some d =>
        rw [z] at e; cases e
        obtain ⟨x, e1, r1⟩ := rp_atI t2 z
        exact .inl ⟨_, _, i, x, rfl, rfl, t1, e1, q x H Hm noF (Fresh.refl s) ⟨r1, rfl⟩⟩
    · cases e
  · cases e
theorem ce_sub_ix {a b : Expr} {f g : M R} {pos : Pos} (ha : CE Θ X W a f) (hb : CE Θ X W b g) (hs : PlainIx b := by exact fun _ _ => rfl) : CE Θ X W (.Subscript a b pos) (e2 oIx f g) := ce_ix opOk_ix ix_seq ha hb hs
/-! ### slices of lists -/
def cutD (xs : List D) (lo hi : Option Int) : List D := (xs.drop (HT.sIx xs.length 0 lo)).take (HT.sIx xs.length xs.length hi - HT.sIx xs.length 0 lo)
theorem rp_cut {Hm : Hp} {xs : List V} {ds : List D} (r : RpL P w K Hm xs ds) (lo hi : Option Int) : RpL P w K Hm (cutV xs lo hi) (cutD ds lo hi) := by
  unfold cutV cutD
  rw [r.length]
  exact RpL.take _ (RpL.drop _ r)
def pInt (f : M R) : M Int := mbind f fun r ρ => match der r ρ with
  | some (.sh (.int i)) => some (.ok (i, ρ))
  | _ => none
def relI : L2.St → Env → Hp → Hp → Option Int → Option Int → Fp → Prop := fun _ _ _ _ b c F => b = c ∧ F = noF
abbrev SndO (P : Program) (w : World) (K : PySem.W.Frag) (Θ : Nat → ObSem) (W : WX) (t : TO) (f : M (Option Int)) : Prop := Snd P w K Θ relI W t f
def pNone : M (Option Int) := mpure none
def pSome (f : M R) : M (Option Int) := mbind f fun r ρ => match der r ρ with
  | some (.sh (.int i)) => some (.ok (some i, ρ))
  | _ => none
theorem sndo_none : SndO P w K Θ W tNoPart pNone := fun σ H Hm ρ fp ok res e Q q => by
  cases e
  exact Snd.now ok (rel := relI) ⟨rfl, rfl⟩ q
theorem sndo_some {t : TE} {f : M R} (h : SndE P w K Θ W t f) : SndO P w K Θ W (tPart t) (pSome f) := by
  refine Snd.then h (u := fun x _ H1 Q => ∃ i, x = .int i ∧ Q (some i) H1) fun r b σ H Hm ρ fp Fo ok hr d res e Q q => ?_
  split at e
  · rename_i i eo
    cases e
    obtain ⟨F', hb, _⟩ := ROk.der ok hr eo
    cases hb
    exact ⟨i, rfl, Snd.now ok (rel := relI) ⟨rfl, rfl⟩ q.sub⟩
  · cases e
def CO (Θ : Nat → ObSem) (X : Cx) (W : WX) (e : Option Expr) (f : M (Option Int)) : Prop := ∃ t, PO X e t ∧ SndO X.prog X.w X.K Θ W t f
theorem co_none : CO Θ X W none pNone := ⟨_, po_none, sndo_none⟩
theorem co_some {e : Expr} {f : M R} (h : CE Θ X W e f) : CO Θ X W (some e) (pSome f) := let ⟨_, a, b⟩ := h; ⟨_, po_some a, sndo_some b⟩
/-- a slice: the thing, its ends -/
def eSl (op : O → Option Int → Option Int → Option O) (f : M R) (lo hi : M (Option Int)) : M R := mbind f fun r => mbind lo fun l => mbind hi fun u => fun ρ => match der r ρ with
  | some o => match op o l u with
    | some o' => some (.ok (.v o', ρ))
    | none => none
  | none => none
def SlOk (P : Program) (w : World) (K : PySem.W.Frag) (Θ : Nat → ObSem) (r : V → Option Int → Option Int → Hp → VK → Prop) (op : O → Option Int → Option Int → Option O) : Prop :=
  ∀ H Hm v o F l u o', Same Hm H → OOk P w K Θ H Hm v o F → op o l u = some o' → ∀ Q : VK, (∀ v' H' Hm' Fo, Fresh H Hm H' Hm' Fo → OOk P w K Θ H' Hm' v' o' Fo → Q v' H') → r v l u H Q
theorem snd_sl {r : V → Option Int → Option Int → Hp → VK → Prop} {op : O → Option Int → Option Int → Option O} {te : TE} {tl th : TO} {f : M R} {lo hi : M (Option Int)} (hr : SlOk P w K Θ r op) (h : SndE P w K Θ W te f) (h1 : SndO P w K Θ W tl lo) (h2 : SndO P w K Θ W th hi) :
    SndE P w K Θ W (tSl r te tl th) (eSl op f lo hi) := by
  refine Snd.then h (u := fun x σ H1 Q => tl σ H1 fun l H2 => th σ H2 fun u H3 => r x l u H3 Q) fun rr v σ H Hm ρ fp Fo ok hv d res e Q q => ?_
  rcases mbind_inv e with ⟨l, ρ1, e1, e⟩ | ⟨er, e1, rfl⟩
  · refine h1 σ H Hm ρ fp ok _ e1 _ ?_
    intro l' H1 Hm1 fp1 F1 ok1 r1 d1 g1
    obtain ⟨rfl, rfl⟩ := r1
    rw [orF_noF] at g1
    rcases mbind_inv e with ⟨u, ρ2, e2, e⟩ | ⟨er, e2, rfl⟩
    · refine h2 σ H1 Hm1 ρ1 fp1 ok1 _ e2 _ ?_
      intro u' H2 Hm2 fp2 F2 ok2 r2 d2 g2
      obtain ⟨rfl, rfl⟩ := r2
      rw [orF_noF] at g2
      split at e
      · rename_i o eo
        split at e
        · rename_i o' eo'
          cases e
          have st : still rr ρ2 = true := by
            cases rr with
            | v _ => rfl
            | pl i =>
              have eo2 : (match ρ2[i]? with | some (some o) => some o | _ => none) = some o := eo
              show (match ρ2[i]? with | some (some _) => true | _ => false) = true
              split at eo2
              · rename_i z; simp only [z]
              · cases eo2
          obtain ⟨hv2, dj2⟩ := ROk.beside hv d (g1.trans g2) st
          obtain ⟨F', ho⟩ := ROk.der ok2 hv2 eo
          refine hr H2 Hm2 v o F' _ _ o' ok2.sub ho eo' Q fun v' H' Hm' Fo' f' ho' => ?_
          have q2 : Post P w K Θ (relE P w K Θ) W σ H2 Hm2 (all fp2) Q (.ok (.v o', ρ2)) := (q.sub.grow (A := all fp2) (G := noF) (by rw [orF_noF]; exact g1.trans g2))
          exact f'.post ok2 ho' q2
        · cases e
      · cases e
    · refine h2 σ H1 Hm1 ρ1 fp1 ok1 _ e2 _ ?_
      exact fun cls dd H2 Hm2 fp2 ok2 x2 g2 => q.sub cls dd H2 Hm2 fp2 ok2 x2 (g1.trans g2)
  · refine h1 σ H Hm ρ fp ok _ e1 _ ?_
    exact q.sub
def oSlL : O → Option Int → Option Int → Option O := fun o l u => (asL o).map fun ds => .ol (cutD ds l u)
theorem slOk_list : SlOk P w K Θ (rSlL K) oSlL := fun H Hm v o F l u o' s h e Q q => by
  unfold oSlL at e
  cases z : asL o with
  | none => rw [z] at e; cases e
  | some ds =>
    rw [z] at e; cases e
    obtain ⟨a, xs, rfl, t1, t2⟩ := asL_ok h s z
    refine ⟨a, xs, rfl, t1, fun p hp => ?_⟩
    obtain ⟨f, hm⟩ := fresh_own (u := .lst (cutV xs l u)) s hp
    exact q _ _ Hm (one p) f ⟨p, _, rfl, upd_same, hm, rp_cut t2 l u, rfl⟩
theorem ce_slL {e : Expr} {lo hi : Option Expr} {f : M R} {l u : M (Option Int)} {p2 pos : Pos} (h : CE Θ X W e f) (h1 : CO Θ X W lo l) (h2 : CO Θ X W hi u) : CE Θ X W (.Subscript e (.Slice lo hi none p2) pos) (eSl oSlL f l u) :=
  let ⟨_, a, b⟩ := h; let ⟨_, a1, b1⟩ := h1; let ⟨_, a2, b2⟩ := h2; ⟨_, pe_slice sl_list a a1 a2, snd_sl slOk_list b b1 b2⟩
/-! ### list(x), tuple(x), list + list -/
def asLT : O → Option (List D)
  | .sh (.tuple ds) => some ds
  | o => asL o
theorem asLT_ok {H Hm : Hp} {v : V} {o : O} {F : Fp} {ds : List D} (h : OOk P w K Θ H Hm v o F) (s : Same Hm H) (e : asLT o = some ds) : ∃ a xs, v = .ref a ∧ (SqL K H a xs ∨ SqT K H a xs) ∧ RpL P w K Hm xs ds := by
  unfold asLT at e
  split at e
  · cases e
    obtain ⟨h, _⟩ := h
    cases h with
    | tup h1 h2 => exact ⟨_, _, rfl, .inr (sqT_mono (.of s) h1), h2⟩
  · obtain ⟨a, xs, e1, h1, h2⟩ := asL_ok h s e
    exact ⟨a, xs, e1, .inl h1, h2⟩
def oList : List O → Option O := fun os => match os with
  | [o] => (asLT o).map .ol
  | _ => none
theorem ce_list {e : Expr} {f : M R} {p pos : Pos} (hg : Gl X "list") (hm : X.mg "list" = none) (ha : CE Θ X W e f) (hs1 : starEach [e] X.env = [(false, eval e X.env)] := by rfl) : CE Θ X W (.Call (.Name "list" p) [e] [] pos) (eOp oList (aCons f aNil)) :=
  ce_ty (fun H Hm vs os o s hs e Q q => by
    unfold oList at e
    split at e
    · rename_i o'
      cases z : asLT o' with
      | none => rw [z] at e; cases e
      | some ds =>
        rw [z] at e; cases e
        obtain ⟨v, rfl, F, h⟩ := oo1 hs
        obtain ⟨a, xs, rfl, t1, t2⟩ := asLT_ok h s z
        refine ⟨a, xs, rfl, t1, fun p hp => ?_⟩
        obtain ⟨f, hm⟩ := fresh_own (u := .lst xs) s hp
        exact q _ _ Hm (one p) f ⟨p, _, rfl, upd_same, hm, t2, rfl⟩
    · cases e) call_list_of hg hm (ca_cons ha ca_nil hs1) (he := hs1) (hpl := rfl)
def oTuple : List O → Option O := fun os => match os with
  | [o] => (asL o).map fun ds => .sh (.tuple ds)
  | _ => none
theorem ce_tuple {e : Expr} {f : M R} {p pos : Pos} (hg : Gl X "tuple") (hm : X.mg "tuple" = none) (ha : CE Θ X W e f) (hs1 : starEach [e] X.env = [(false, eval e X.env)] := by rfl) : CE Θ X W (.Call (.Name "tuple" p) [e] [] pos) (eOp oTuple (aCons f aNil)) :=
  ce_ty (fun H Hm vs os o s hs e Q q => by
    unfold oTuple at e
    split at e
    · rename_i o'
      cases z : asL o' with
      | none => rw [z] at e; cases e
      | some ds =>
        rw [z] at e; cases e
        obtain ⟨v, rfl, F, h⟩ := oo1 hs
        obtain ⟨a, xs, rfl, t1, t2⟩ := asL_ok h s z
        refine ⟨a, xs, rfl, .inl ⟨t1, fun p hp => ?_⟩⟩
        have f := fresh_sh (u := .tup xs) s hp
        exact q _ _ _ noF f ⟨.tup (SqT.of upd_same) (t2.same f.ms), rfl⟩
    · cases e) call_tuple_of hg hm (ca_cons ha ca_nil hs1) (he := hs1) (hpl := rfl)
/-- two owned lists -/
def oCat : List O → Option O := fun os => match os with
  | [.ol a, .ol b] => if a.length + b.length ≤ sizeLine then some (.ol (a ++ b)) else none
  | _ => none
theorem ce_catL {a b : Expr} {f g : M R} {pos : Pos} (ha : CE Θ X W a f) (hb : CE Θ X W b g) : CE Θ X W (.BinOp a .Add b pos) (e2 oCat f g) :=
  ce_bin (fun H Hm vs os o s hs e Q q => by
    unfold oCat at e
    split at e
    · rename_i x y
      split at e
      · rename_i hl
        cases e
        obtain ⟨v, u, rfl, ⟨F1, p1, xs, rfl, h1, _, r1, _⟩, ⟨F2, p2, ys, rfl, h2, _, r2, _⟩⟩ := oo2 hs
        refine ⟨p1, p2, xs, ys, rfl, rfl, h1, h2, by rw [r1.length, r2.length]; exact hl, fun p hp => ?_⟩
        obtain ⟨f, hm⟩ := fresh_own (u := .lst (xs ++ ys)) s hp
        exact q _ _ Hm (one p) f ⟨p, _, rfl, upd_same, hm, r1.append r2, rfl⟩
      · cases e
    · cases e) op_cat ha hb

/-! ### what a for walks -/
def srcL (f : M R) : M (List D) := mbind (mbind f toSh) fun d ρ => match d with
  | .list ds => some (.ok (ds, ρ))
  | _ => none
def srcT (f : M R) : M (List D) := mbind (mbind f toSh) fun d ρ => match d with
  | .tuple ds => some (.ok (ds, ρ))
  | _ => none
/-- the items as they lie -/
theorem walk_at {Hm1 : Hp} {xs : List V} {ds : List D} {Y : Nat → Hp → V → Hp → Prop} (hr : RpL P w K Hm1 xs ds) (hy : ∀ i H x H', Y i H x H' → H' = H ∧ xs[i]? = some x) :
    ∀ i H' Hm' x H'', i < ds.length → Up Hm1 Hm' → Same Hm' H' → Y i H' x H'' → ∃ Hm'' d, Fresh H' Hm' H'' Hm'' noF ∧ ds[i]? = some d ∧ Rp P w K Hm'' x d := fun i H' Hm' x H'' _ u s y => by
  obtain ⟨rfl, hx⟩ := hy i H' x H'' y
  obtain ⟨d, hd, r⟩ := hr.getV hx
  exact ⟨Hm', d, Fresh.refl s, hd, r.up u⟩
theorem sndi_d {te : TE} {f : M D} {wi : TI} {g : D → Env → Option (Res (List D))} (h : SndD P w K Θ W te f) {k : V → Hp → (It → Hp → Prop) → Prop}
    (hk : ∀ d v σ H Hm ρ fp, Ok P w K Θ σ H Hm ρ fp → Rp P w K Hm v d → ∀ res, g d ρ = some res → ∃ ds, res = .ok (ds, ρ) ∧ ∀ Rr : It → Hp → Prop, (∀ J, (∃ G Y, Walk J ds.length G Y ∧ (∀ H' Hm', Up Hm Hm' → Same Hm' H' → G H') ∧
      ∀ i H' Hm' x H'', i < ds.length → Up Hm Hm' → Same Hm' H' → Y i H' x H'' → ∃ Hm'' d, Fresh H' Hm' H'' Hm'' noF ∧ ds[i]? = some d ∧ Rp P w K Hm'' x d) → Rr J H) → k v H Rr)
    (hw : ∀ σ H Rr, te σ H (fun v H1 => k v H1 Rr) → wi σ H Rr) : SndI P w K Θ W wi (mbind f fun d ρ => g d ρ) := fun σ H Hm ρ fp ok res e Rr q => by
  refine hw σ H Rr ?_
  rcases mbind_inv e with ⟨d, ρ1, e1, e⟩ | ⟨er, e1, rfl⟩
  · refine h σ H Hm ρ fp ok _ e1 _ ?_
    intro v H1 Hm1 fp1 Fo ok1 hr d1 g1
    obtain ⟨hr, rfl⟩ := hr
    rw [orF_noF] at g1
    obtain ⟨ds, rfl, hq⟩ := hk d v σ H1 Hm1 ρ1 fp1 ok1 hr res e
    exact hq Rr fun J hJ => q J H1 Hm1 fp1 ok1 g1 hJ
  · refine h σ H Hm ρ fp ok _ e1 _ ?_
    obtain ⟨er, ρ1⟩ := er
    exact q
theorem sndi_list {te : TE} {f : M R} (h : SndE P w K Θ W te f) : SndI P w K Θ W (iList K te) (srcL f) :=
  sndi_d (snd_d h) (k := fun x H1 R => ∃ a, x = .ref a ∧ (∃ xs, SqL K H1 a xs) ∧ R (Itl K a) H1) (fun d v σ H Hm ρ fp ok hr res e => by
    split at e
    · rename_i ds
      cases e
      cases hr with
      | lst h1 h2 =>
        rename_i a xs
        refine ⟨ds, rfl, fun Rr q => ⟨a, rfl, ⟨xs, sqL_mono (.of ok.sub) h1⟩, q _ ⟨_, _, by rw [← h2.length]; exact walk_list, fun H' Hm' u s => sqL_mono (.of s) (sqL_mono u.rdd h1), walk_at h2 fun _ _ _ _ y => y⟩⟩⟩
    · cases e) (fun _ _ _ z => z)
theorem sndi_tup {te : TE} {f : M R} (h : SndE P w K Θ W te f) : SndI P w K Θ W (iTup K te) (srcT f) :=
  sndi_d (snd_d h) (k := fun x H1 R => ∃ a, x = .ref a ∧ (∃ xs, SqT K H1 a xs) ∧ R (Itt K a) H1) (fun d v σ H Hm ρ fp ok hr res e => by
    split at e
    · rename_i ds
      cases e
      cases hr with
      | tup h1 h2 =>
        rename_i a xs
        refine ⟨ds, rfl, fun Rr q => ⟨a, rfl, ⟨xs, sqT_mono (.of ok.sub) h1⟩, q _ ⟨_, _, by rw [← h2.length]; exact walk_tup, fun H' Hm' u s => sqT_mono (.of s) (sqT_mono u.rdd h1), walk_at h2 fun _ _ _ _ y => y⟩⟩⟩
    · cases e) (fun _ _ _ z => z)
def signs (z : Str) : List D := z.cps.toList.map fun c => .str ⟨#[c]⟩
def srcS (f : M R) : M (List D) := mbind (mbind f toSh) fun d ρ => match d with
  | .str z => some (.ok (signs z, ρ))
  | _ => none
theorem sndi_str {te : TE} {f : M R} (h : SndE P w K Θ W te f) : SndI P w K Θ W (iStr te) (srcS f) :=
  sndi_d (snd_d h) (k := fun v H1 R => ∃ x, v = .str x ∧ R (Its x) H1) (fun d v σ H Hm ρ fp ok hr res e => by
    split at e
    · rename_i z
      cases e
      cases hr
      refine ⟨signs z, rfl, fun Rr q => ⟨z, rfl, q _ ⟨_, _, by rw [show (signs z).length = z.cps.size by simp [signs]]; exact walk_str, fun _ _ _ _ => trivial, fun i H' Hm' x H'' hi u s y => ?_⟩⟩⟩
      obtain ⟨rfl, c, hc, rfl⟩ := y
      refine ⟨Hm', .str ⟨#[c]⟩, Fresh.refl s, ?_, .str _⟩
      unfold signs
      rw [List.getElem?_map, Array.getElem?_toList, hc]; rfl
    · cases e) (fun _ _ _ z => z)
/-- range(n) -/
def srcR (f : M R) : M (List D) := mbind (mbind f toSh) fun d ρ => match d with
  | .int j => if -(2 ^ 62) ≤ j ∧ j < 2 ^ 62 then some (.ok ((List.range j.toNat).map fun (i : Nat) => .int (i : Int), ρ)) else none
  | _ => none
theorem sndi_range1 {te : TE} {f : M R} (h : SndE P w K Θ W te f) : SndI P w K Θ W (iRng1 (tCons te tNil)) (srcR f) :=
  sndi_d (snd_d h) (k := fun v H1 R => ∃ j : Int, [v] = [.int j] ∧ -(2 ^ 62) ≤ j ∧ j < 2 ^ 62 ∧ R (Itr 0 j.toNat) H1) (fun d v σ H Hm ρ fp ok hr res e => by
    split at e
    · rename_i j
      split at e
      · rename_i hb
        cases e
        cases hr
        refine ⟨_, rfl, fun Rr q => ⟨j, rfl, hb.1, hb.2, q _ ⟨_, _, by rw [List.length_map, List.length_range]; exact walk_range, fun _ _ _ _ => trivial, fun i H' Hm' x H'' hi u s y => ?_⟩⟩⟩
        obtain ⟨rfl, rfl⟩ := y
        rw [List.length_map, List.length_range] at hi
        refine ⟨Hm', .int (i : Int), Fresh.refl s, by rw [List.getElem?_map, List.getElem?_range hi]; rfl, ?_⟩
        show Rp P w K Hm' (.int (0 + (i : Int))) _
        rw [Int.zero_add]; exact .int _
      · cases e
    · cases e) (fun _ _ _ z => z)
/-- enumerate(list) -/
theorem walk_pair {H1 Hm1 : Hp} {X1 X2 : Nat → Option V} {es : List D} {f1 f2 : Nat → Option D} (he : ∀ i, i < es.length → ∃ a b, f1 i = some a ∧ f2 i = some b ∧ es[i]? = some (.tuple [a, b]))
    (h1 : ∀ i x d, X1 i = some x → f1 i = some d → Rp P w K Hm1 x d) (h2 : ∀ i x d, X2 i = some x → f2 i = some d → Rp P w K Hm1 x d) :
    ∀ i H' Hm' x H'', i < es.length → Up Hm1 Hm' → Same Hm' H' → YPair X1 X2 i H' x H'' → ∃ Hm'' d, Fresh H' Hm' H'' Hm'' noF ∧ es[i]? = some d ∧ Rp P w K Hm'' x d := fun i H' Hm' x H'' hi u s y => by
  obtain ⟨T, a, b, rfl, hT, rfl, ha, hb⟩ := y
  obtain ⟨da, db, ea, eb, e⟩ := he i hi
  have f := fresh_sh (u := .tup [a, b]) s hT
  exact ⟨_, _, f, e, .tup (SqT.of upd_same) (.cons (((h1 i a da ha ea).up u).same f.ms) (.cons (((h2 i b db hb eb).up u).same f.ms) .nil))⟩
def enumD (ds : List D) : List D := ds.zipIdx.map fun p => .tuple [.int p.2, p.1]
def srcE (f : M R) : M (List D) := mbind (mbind f toSh) fun d ρ => match d with
  | .list ds => some (.ok (enumD ds, ρ))
  | _ => none
theorem sndi_enum {te : TE} {f : M R} (h : SndE P w K Θ W te f) : SndI P w K Θ W (iEnum K (tCons te tNil)) (srcE f) :=
  sndi_d (snd_d h) (k := fun v H1 R => ∃ a xs, [v] = [.ref a] ∧ SqL K H1 a xs ∧ R (Ite K a) H1) (fun d v σ H Hm ρ fp ok hr res e => by
    split at e
    · rename_i ds
      cases e
      cases hr with
      | lst h1 h2 =>
        rename_i a xs
        have hl : (enumD ds).length = xs.length := by simp [enumD, h2.length]
        refine ⟨_, rfl, fun Rr q => ⟨a, xs, rfl, sqL_mono (.of ok.sub) h1, q _ ⟨_, _, by rw [hl]; exact walk_enum, fun H' Hm' u s => sqL_mono (.of s) (sqL_mono u.rdd h1), ?_⟩⟩⟩
        refine walk_pair (H1 := H) (f1 := fun i => some (.int (i : Nat))) (f2 := fun i => ds[i]?) (fun i hi => ?_) (fun i x d e1 e2 => ?_) (fun i x d e1 e2 => ?_)
        · have hi' : i < ds.length := by simpa [enumD] using hi
          exact ⟨_, ds[i], rfl, List.getElem?_eq_getElem hi', by simp [enumD, hi']⟩
        · cases e1; cases e2; exact .int _
        · obtain ⟨x', e3, r⟩ := h2.get e2
          rw [e1] at e3; cases e3; exact r
    · cases e) (fun _ _ _ z => z)
/-- zip(list, list) -/
def zipD (ds es : List D) : List D := (ds.zip es).map fun p => .tuple [p.1, p.2]
def srcZ (f : M (List R)) : M (List D) := mbind (mbind f shAll) fun l ρ => match l with
  | [.list ds, .list es] => some (.ok (zipD ds es, ρ))
  | _ => none
theorem sndi_zip {ta : TA} {f : M (List R)} (h : SndA P w K Θ W ta f) : SndI P w K Θ W (iZip K ta) (srcZ f) := fun σ H Hm ρ fp ok res e Rr q => by
  rcases mbind_inv e with ⟨l, ρ1, e1, e⟩ | ⟨er, e1, rfl⟩
  · refine snd_ds h σ H Hm ρ fp ok _ e1 _ ?_
    intro vs H1 Hm1 fp1 Fo ok1 hr d1 g1
    obtain ⟨hr, rfl⟩ := hr
    rw [orF_noF] at g1
    split at e
    · rename_i ds es
      cases e
      obtain ⟨v, u, rfl, a1, a2⟩ := rp2 hr
      cases a1 with
      | lst h1 h2 =>
        cases a2 with
        | lst h3 h4 =>
          rename_i a xs b ys
          have hl : (zipD ds es).length = min xs.length ys.length := by simp [zipD, h2.length, h4.length]
          refine ⟨a, b, xs, ys, rfl, sqL_mono (.of ok1.sub) h1, sqL_mono (.of ok1.sub) h3, q _ H1 Hm1 fp1 ok1 g1 ⟨_, _, walk_zip hl, fun H' Hm' u s => ⟨sqL_mono (.of s) (sqL_mono u.rdd h1), sqL_mono (.of s) (sqL_mono u.rdd h3)⟩, ?_⟩⟩
          refine walk_pair (H1 := H1) (f1 := fun i => ds[i]?) (f2 := fun i => es[i]?) (fun i hi => ?_) (fun i x d e1 e2 => ?_) (fun i x d e1 e2 => ?_)
          · have hi' : i < ds.length ∧ i < es.length := by
              have : i < min ds.length es.length := by simpa [zipD] using hi
              omega
            exact ⟨ds[i], es[i], List.getElem?_eq_getElem hi'.1, List.getElem?_eq_getElem hi'.2, by simp [zipD, List.getElem?_zip_eq_some, hi'.1, hi'.2]⟩
          · obtain ⟨x', e3, r⟩ := h2.get e2
            rw [e1] at e3; cases e3; exact r
          · obtain ⟨x', e3, r⟩ := h4.get e2
            rw [e1] at e3; cases e3; exact r
    · cases e
  · refine snd_ds h σ H Hm ρ fp ok _ e1 _ ?_
    obtain ⟨er, ρ1⟩ := er
    exact q
theorem ci_list {tg e : Expr} {f : M R} (h : CE Θ X W e f) : CI Θ X W tg e (srcL f) := let ⟨_, a, b⟩ := h; ⟨_, pi_list a, sndi_list b⟩
theorem ci_tup {tg e : Expr} {f : M R} (h : CE Θ X W e f) : CI Θ X W tg e (srcT f) := let ⟨_, a, b⟩ := h; ⟨_, pi_tup a, sndi_tup b⟩
theorem ci_str {tg e : Expr} {f : M R} (h : CE Θ X W e f) : CI Θ X W tg e (srcS f) := let ⟨_, a, b⟩ := h; ⟨_, pi_str a, sndi_str b⟩
theorem ci_range {tg e : Expr} {f : M R} {p pos : Pos} (hg : Gl X "range") (hm : X.mg "range" = none) (h : CE Θ X W e f) (hs : starEach [e] X.env = [(false, eval e X.env)] := by rfl) : CI Θ X W tg (.Call (.Name "range" p) [e] [] pos) (srcR f) :=
  let ⟨_, a, b⟩ := h; ⟨_, pi_range1 hg hm (pa_cons a pa_nil hs) hs, sndi_range1 b⟩
theorem ci_enum {elts : List Expr} {kk : Nat} {e : Expr} {f : M R} {p pos tpos : Pos} (hg : Gl X "enumerate") (hm : X.mg "enumerate" = none) (h : CE Θ X W e f) (hs : starEach [e] X.env = [(false, eval e X.env)] := by rfl) : CI Θ X W (.Tuple elts kk tpos) (.Call (.Name "enumerate" p) [e] [] pos) (srcE f) :=
  let ⟨_, a, b⟩ := h; ⟨_, pi_enum hg hm (pa_cons a pa_nil hs) hs, sndi_enum b⟩
theorem ci_zip {elts : List Expr} {kk : Nat} {e e' : Expr} {f : M (List R)} {p pos tpos : Pos} (hg : Gl X "zip") (hm : X.mg "zip" = none) (h : CA Θ X W [e, e'] f) (hs : starEach [e, e'] X.env = (false, eval e X.env) :: starEach [e'] X.env := by rfl) (hpl : (backTo pos (starEach [e'] X.env)).any (fun z => z.1) = false := by rfl) : CI Θ X W (.Tuple elts kk tpos) (.Call (.Name "zip" p) [e, e'] [] pos) (srcZ f) :=
  let ⟨_, a, b⟩ := h; ⟨_, pi_zip hg hm a hs hpl, sndi_zip b⟩
end
end Wl

/- text WlJ -/
set_option Elab.async false
set_option maxRecDepth 100000
namespace Wl
open PySem PySem.Spec L2
open PyProof.Rows hiding St

/-! ### the reading of a step by what it does -/
section
variable (P : Program) (w : World) (K : PySem.W.Frag) (Θ : Nat → ObSem)
def tX {α β : Type} (rel : L2.St → Env → Hp → Hp → β → α → Fp → Prop) (W : WX) (f : M α) : L2.St → Hp → (β → Hp → Prop) → Prop := fun σ H Q => ∃ Hm ρ fp res, Ok P w K Θ σ H Hm ρ fp ∧ f ρ = some res ∧ Post P w K Θ rel W σ H Hm (all fp) Q res
def tGx (io : List Nat) (f : D → Env → Option Env) : TG := fun v σ H Q => ∃ Hm ρ fp d ρ', Ok P w K Θ σ H Hm ρ fp ∧ Rp P w K Hm v d ∧ f d ρ = some ρ' ∧ ∀ σ' fp', Ok P w K Θ σ' H Hm ρ' fp' → Keep io σ σ' → (∀ p, all fp' p → all fp p) → Q σ' H
end
section
variable {P : Program} {w : World} {K : PySem.W.Frag} {Θ : Nat → ObSem} {W : WX} {X : Cx} {io : List Nat}
theorem snd_tX {α β : Type} {rel : L2.St → Env → Hp → Hp → β → α → Fp → Prop} {f : M α} : Snd P w K Θ rel W (tX P w K Θ rel W f) f := fun σ H Hm ρ fp ok res e Q q => ⟨Hm, ρ, fp, res, ok, e, q⟩
theorem sndg_tGx {f : D → Env → Option Env} : SndG P w K Θ io (tGx P w K Θ io f) f := fun σ H Hm ρ fp ok v d r ρ' e Q q => ⟨Hm, ρ, fp, d, ρ', ok, r, e, q⟩
theorem CE.canon {e : Expr} {f : M R} (h : CE Θ X W e f) : PE X e (tX X.prog X.w X.K Θ (relE X.prog X.w X.K Θ) W f) :=
  let ⟨_, a, b⟩ := h; ⟨fun pins s σ H Q I ⟨Hm, ρ, fp, res, ok, e, q⟩ => a.run pins s σ H Q I (b σ H Hm ρ fp ok res e Q q)⟩
theorem CG.canon {e : Expr} {f : D → Env → Option Env} (h : CG Θ X io e f) : PG X e (tGx X.prog X.w X.K Θ io f) :=
  let ⟨_, a, b⟩ := h; ⟨fun pins s σ H v u Q I r ⟨Hm, ρ, fp, d, ρ', ok, rp, e, q⟩ => a.run pins s σ H v u Q I r (b σ H Hm ρ fp ok v d rp ρ' e Q q)⟩
/-- tests of a comprehension -/
def CTs (Θ : Nat → ObSem) (X : Cx) (W : WX) (es : List Expr) (f : M Bool) : Prop := ∃ t, PTs X es t ∧ SndT X.prog X.w X.K Θ W t f
def tTrue : M Bool := mpure true
theorem cts_nil : CTs Θ X W [] tTrue := ⟨_, pts_nil, fun σ H Hm ρ fp ok res e Q q => by
  cases e
  exact Snd.now ok (rel := relT) ⟨rfl, rfl⟩ q⟩
theorem cts_one {e : Expr} {m : M Bool} (h : CT Θ X W e m) : CTs Θ X W [e] m := let ⟨_, a, b⟩ := h; ⟨_, pts_one a, b⟩
theorem CTs.canon {es : List Expr} {f : M Bool} (h : CTs Θ X W es f) : PTs X es (tX X.prog X.w X.K Θ relT W f) :=
  let ⟨_, a, b⟩ := h; ⟨fun pins s σ H Q I ⟨Hm, ρ, fp, res, ok, e, q⟩ => a.run pins s σ H Q I (b σ H Hm ρ fp ok res e Q q)⟩

/-- [elt for tg in iter if ..] -/
theorem ce_lc {elt tg iter : Expr} {ifs : List Expr} {scope : Scope} {own : List (Str × Nat)} {pos : Pos} {n : Nat} {src : M (List D)} {tgt : D → Env → Option Env} {tst : M Bool} {ef : M R} (hc : X.calm = true) (hN : X.N.Nodup) (hi : CI Θ X W tg iter src) (ok : BlkOk X.N X.env.scope scope own)
    (hg : ∀ (s : Shared) (H : Hp) (C : Addr) (cl : List (Str × Addr)) (fp : List Addr), CG Θ (X.blk s H scope (compEnvC scope cl C X.env) fp) (ioB n (own.map (·.2))) tg tgt)
    (ht : ∀ (s : Shared) (H : Hp) (C : Addr) (cl : List (Str × Addr)) (fp : List Addr), CTs Θ (X.blk s H scope (compEnvC scope cl C X.env) fp) W0 ifs tst)
    (he : ∀ (s : Shared) (H : Hp) (C : Addr) (cl : List (Str × Addr)) (fp : List Addr), CE Θ (X.blk s H scope (compEnvC scope cl C X.env) fp) W0 elt ef) (hs : ∀ x, foldedSetIterable iter X.env x = pure x := by intro _; rfl) :
    CE Θ X W (.ListComp elt [⟨tg, iter, ifs, 0⟩] scope pos) (eLc n (own.map (·.2)) src tgt tst ef) :=
  let ⟨_, a, b⟩ := hi
  ⟨_, pe_lc hc hN a ok (fun s H C cl fp => (hg s H C cl fp).canon) (fun s H C cl fp => (ht s H C cl fp).canon) (fun s H C cl fp => (he s H C cl fp).canon) hs, snd_lc b sndg_tGx snd_tX snd_tX⟩
/-- y = [..], y a plain local -/
theorem cs_setLc {i : Nat} {y : Str} {py : Pos} {elt tg iter : Expr} {ifs : List Expr} {scope : Scope} {own : List (Str × Nat)} {pos spos : Pos} {n : Nat} {src : M (List D)} {tgt : D → Env → Option Env} {tst : M Bool} {ef : M R} (hc : X.calm = true) (hN : X.N.Nodup) (hio : i ∉ io) (hi : CI Θ X W tg iter src) (ok : BlkOk X.N X.env.scope scope own)
    (hg : ∀ (s : Shared) (H : Hp) (C : Addr) (cl : List (Str × Addr)) (fp : List Addr), CG Θ (X.blk s H scope (compEnvC scope cl C X.env) fp) (ioB n (own.map (·.2))) tg tgt)
    (ht : ∀ (s : Shared) (H : Hp) (C : Addr) (cl : List (Str × Addr)) (fp : List Addr), CTs Θ (X.blk s H scope (compEnvC scope cl C X.env) fp) W0 ifs tst)
    (he : ∀ (s : Shared) (H : Hp) (C : Addr) (cl : List (Str × Addr)) (fp : List Addr), CE Θ (X.blk s H scope (compEnvC scope cl C X.env) fp) W0 elt ef)
    (hsw : swapsWith (.ListComp elt [⟨tg, iter, ifs, 0⟩] scope pos) (some (.Name y py)) spos.line X.env = pure true) (hy : X.N[i]? = some y := by rfl) (hyl : X.env.scope.names.lookup y = some .local := by rfl) (hs : ∀ x, foldedSetIterable iter X.env x = pure x := by intro _; rfl) :
    CS Θ X W io (.Assign [.Name y py] (.ListComp elt [⟨tg, iter, ifs, 0⟩] scope pos) spos) (sSet i (eLc n (own.map (·.2)) src tgt tst ef)) :=
  let ⟨_, a, b⟩ := hi
  ⟨_, ps_setLc hc hN hy hyl hsw a ok (fun s H C cl fp => (hg s H C cl fp).canon) (fun s H C cl fp => (ht s H C cl fp).canon) (fun s H C cl fp => (he s H C cl fp).canon) hs, snds_set hio (snd_lc b sndg_tGx snd_tX snd_tX)⟩
end
end Wl

/- text WlK -/
set_option Elab.async false
set_option maxRecDepth 100000
namespace Wl
open PySem PySem.Spec L2
open PyProof.Rows hiding St

/-! ### dicts as data -/
def keq (a b : D) : Bool := decide (nkey a = nkey b)
def dget (kvs : List (D × D)) (k : D) : Option D := (kvs.find? fun p => keq p.1 k).map (·.2)
def dput (kvs : List (D × D)) (k v : D) : List (D × D) := if (dget kvs k).isSome then kvs.map fun p => if keq p.1 k then (p.1, v) else p else kvs ++ [(k, v)]
def isT : D → Bool
  | .tuple _ => true
  | _ => false
def isK : D → Bool
  | .int _ => true
  | .str _ => true
  | _ => false
def kindOk (kvs : List (D × D)) (k : D) : Bool := match kvs with
  | [] => true
  | p :: _ => isT p.1 == isT k
/-- a key: an int, a text, or a tuple of such, nested (to depth 8) -/
def okKey (k : D) : Bool := isK k || (isT k && match nkey k with
  | some n => decide (n.depth ≤ 8)
  | none => false)

section
variable {P : Program} {w : World} {K : PySem.W.Frag} {Θ : Nat → ObSem} {W : WX} {X : Cx} {io : List Nat}
/-! ### keys in the heap -/
mutual
theorem key_is {pins : List (Addr × Obj)} {σ : L2.St} {H : Hp} {s : Shared} (I : Inv X pins σ H s) : ∀ (d : D) {v : V} {u : Value} {k : NestedKey}, Rp X.prog X.w X.K H v d → RelV v u → nkey d = some k → NestedIs s.heap k u
  | .none, _, _, _, .non, r, e => by cases e; cases r; exact .none
  | .int i, _, _, _, .int _, r, e => by cases e; obtain ⟨t, rfl⟩ := r; exact .int _ _
  | .str x, _, _, _, .str _, r, e => by cases e; obtain ⟨t, rfl⟩ := r; exact .text _ _
  | .tuple ds, _, _, k, .tup h ra, r, e => by
    cases r
    cases z : nkeys ds with
    | none => simp [nkey, z] at e
    | some ks =>
      simp [nkey, z] at e
      subst e
      obtain ⟨its, rv, ⟨o, ho, hc, n, hd⟩, _⟩ := I.tuple h
      exact .tup ho hc hd (keys_are I ds ra (by simpa using rv) z)
  | .bool _, _, _, _, _, _, e => by simp [nkey] at e
  | .list _, _, _, _, _, _, e => by simp [nkey] at e
  | .dict _, _, _, _, _, _, e => by simp [nkey] at e
theorem keys_are {pins : List (Addr × Obj)} {σ : L2.St} {H : Hp} {s : Shared} (I : Inv X pins σ H s) : ∀ (ds : List D) {vs : List V} {us : List Value} {ks : List NestedKey}, RpL X.prog X.w X.K H vs ds → Vals vs us → nkeys ds = some ks → NestedAll s.heap ks us
  | [], _, _, _, .nil, .nil, e => by cases e; exact .nil
  | d :: ds, _, _, ks, .cons h r, .cons q t, e => by
    cases z : nkey d with
    | none => simp [nkeys, z] at e
    | some k =>
      cases z2 : nkeys ds with
      | none => simp [nkeys, z, z2] at e
      | some ks' =>
        simp [nkeys, z, z2] at e
        subst e
        exact .cons (key_is I d h q z) (keys_are I ds r t z2)
end
def KeyAt (P : Program) (w : World) (K : PySem.W.Frag) (H : Hp) (x : NestedKey × Addr × Value) : Prop := ∃ kd, nkey kd = some x.1 ∧ x.1.depth ≤ 8 ∧ Rp P w K H (.ref x.2.1) kd
theorem rpN_keys {H : Hp} : ∀ {xs : List (NestedKey × Addr × Value)} {kvs : List (D × D)}, RpN P w K H xs kvs → ∀ x ∈ xs, KeyAt P w K H x
  | _, _, .nil, x, h => by simp at h
  | _, _, .cons a b c d e r, x, h => by
    rcases List.mem_cons.mp h with rfl | h
    · exact ⟨_, a, b, c⟩
    · exact rpN_keys r x h
theorem rpN_length {H : Hp} : ∀ {xs : List (NestedKey × Addr × Value)} {kvs : List (D × D)}, RpN P w K H xs kvs → xs.length = kvs.length
  | _, _, .nil => rfl
  | _, _, .cons _ _ _ _ _ r => by simp [rpN_length r]
theorem rpK_length {H : Hp} : ∀ {xs : List (Key × V)} {kvs : List (D × D)}, RpK P w K H xs kvs → xs.length = kvs.length
  | _, _, .nil => rfl
  | _, _, .cons _ r => by simp [rpK_length r]
/-- at a stands the dict xs, its keys tuples -/
def NDict (P : Program) (w : World) (H : Hp) (a : Addr) (xs : List (NestedKey × Addr × Value)) : Prop := Rd H a (.ext (nPhi P w a xs)) ∨ (xs = [] ∧ Rd H a (.dK []))
theorem nd_of {pins : List (Addr × Obj)} {σ : L2.St} {H : Hp} {s : Shared} {a : Addr} {xs : List (NestedKey × Addr × Value)} (I : Inv X pins σ H s) (e : NDict X.prog X.w H a xs) (hk : ∀ x ∈ xs, KeyAt X.prog X.w X.K H x) :
    (a == sysModules) = false ∧ xs.length ≤ sizeLine ∧ s.heap.DictOfH (nestedKind X.prog X.w) a xs := by
  rcases e with e | ⟨rfl, e⟩
  · obtain ⟨⟨hd, hl, o, es, ep, h1, h2, h3, h4, h5⟩, _, _⟩ := (show ObjOk X.prog X.w H s.heap a (.ext (nPhi X.prog X.w a xs)) from e.ok I.hok)
    refine ⟨hd, hl, o, es, ep, h1, h2, h3, h4, fun x hx => ?_, h5⟩
    obtain ⟨kd, k1, k2, k3⟩ := hk x hx
    exact ⟨key_is I kd k3 rfl k1, k2⟩
  · obtain ⟨_, hd, vs, rel, o, es, ep, h1, h2, h3, _, h4, _⟩ := (show ObjOk X.prog X.w H s.heap a (.dK []) from e.ok I.hok)
    cases rel
    refine ⟨hd, Nat.zero_le _, o, es, ep, h1, h2, h3, ?_, fun x hx => by simp at hx, List.nodup_nil⟩
    cases z : es.toList with
    | nil => rfl
    | cons _ _ => rw [z] at h4; cases h4

/-! ### looking up -/
def NGet (P : Program) (w : World) (K : PySem.W.Frag) (H : Hp) (a : Addr) (y : V) (o : Option V) : Prop :=
  ∃ xs k q kd, NDict P w H a xs ∧ (∀ x ∈ xs, KeyAt P w K H x) ∧ y = .ref q ∧ Rp P w K H (.ref q) kd ∧ nkey kd = some k ∧ k.depth ≤ 8 ∧ RelO o ((atKey xs k).map (·.2))
/-- a key that is no tuple, a dict that is empty -/
def EGet (P : Program) (w : World) (H : Hp) (a : Addr) (y : V) (o : Option V) : Prop := Rd H a (.ext (nPhi P w a [])) ∧ o = none ∧ ∃ k, y = kV k
def AGet (P : Program) (w : World) (K : PySem.W.Frag) (H : Hp) (a : Addr) (y : V) (o : Option V) : Prop := DGet H a y o ∨ NGet P w K H a y o ∨ EGet P w H a y o
section
variable {pins : List (Addr × Obj)} {σ : L2.St} {H : Hp} {s : Shared} {a : Addr} {y v d : V} {o : Option V} {u r : Value} {A : Around} {E : Value → Shared → Prop}
theorem e_of (I : Inv X pins σ H s) (e : Rd H a (.ext (nPhi X.prog X.w a []))) : (a == sysModules) = false ∧ s.heap.DictOf (mixKind X.prog X.w) a [] := by
  obtain ⟨⟨hd, hl, o, es, ep, h1, h2, h3, h4, h5⟩, _, _⟩ := (show ObjOk X.prog X.w H s.heap a (.ext (nPhi X.prog X.w a [])) from e.ok I.hok)
  have z : es = #[] := Array.toList_eq_nil_iff.mp h4
  subst z
  exact ⟨hd, o, #[], ep, h1, h2, h3, fun e he => by simp at he, .nil, List.nodup_nil⟩
abbrev RoomN (A : Around) : Prop := A.units + 9 < cLine
theorem roomN {A : Around} (h : RoomN A) : (nestedKind X.prog X.w).room A.in1 := by
  show A.units + 1 + 8 < cLine
  have : A.units + 9 < cLine := h
  omega
theorem n_key (I : Inv X pins σ H s) {q : Addr} {kd : D} {k : NestedKey} (h : Rp X.prog X.w X.K H (.ref q) kd) (e : nkey kd = some k) (hk : k.depth ≤ 8) : (nestedKind X.prog X.w).is s.heap k q := ⟨key_is I kd h rfl e, hk⟩
theorem a_getItem {Q : Value → Shared → Prop} (hu : RoomN A) (I : Inv X pins σ H s) (g : AGet X.prog X.w X.K H a y (some v)) (ry : RelV y u) (h : ∀ w' s', Inv X pins σ H s' → RelV v w' → Q w' s') : wpAny (model X.prog X.w) A (getItem (.ref a) u) Q E s := by
  rcases g with g | ⟨xs, k, q, kd, nd, ks, rfl, hq, hk, hd, ro⟩ | ⟨_, z, _⟩
  · exact d_getItem (by have : A.units + 9 < cLine := hu; omega) I g ry h
  · cases ry
    obtain ⟨_, _, dd⟩ := nd_of I nd ks
    obtain ⟨w', hw, rw'⟩ := ro.some_of
    obtain ⟨p, hp, rfl⟩ := Option.map_eq_some_iff.mp hw
    exact wpAny_getItem_heap (roomN hu) (n_key I hq hk hd) dd hp (h _ _ (I.tok _) rw')
  · cases z
theorem a_in {Q : Value → Shared → Prop} (hu : RoomN A) (I : Inv X pins σ H s) (g : AGet X.prog X.w X.K H a y o) (ry : RelV y u) (h : ∀ s', Inv X pins σ H s' → Q (.bool o.isSome) s') : wpAny (model X.prog X.w) A (compareOp .In u (.ref a)) Q E s := by
  rcases g with g | ⟨xs, k, q, kd, nd, ks, rfl, hq, hk, hd, ro⟩ | ⟨e, rfl, k, rfl⟩
  · exact d_in (by have : A.units + 9 < cLine := hu; omega) I g ry h
  · cases ry
    obtain ⟨h0, _, dd⟩ := nd_of I nd ks
    have z := ro.isSome_eq
    rw [Option.isSome_map] at z
    exact wpAny_in_heap (roomN hu) (n_key I hq hk hd) h0 dd (by rw [← z]; exact h _ (I.tok _))
  · obtain ⟨h0, dd⟩ := e_of I e
    exact wpAny_in_of (kV_is ry) h0 dd.mapOf (h _ (I.tok _))
theorem a_notIn {Q : Value → Shared → Prop} (hu : RoomN A) (I : Inv X pins σ H s) (g : AGet X.prog X.w X.K H a y o) (ry : RelV y u) (h : ∀ s', Inv X pins σ H s' → Q (.bool (!o.isSome)) s') : wpAny (model X.prog X.w) A (compareOp .NotIn u (.ref a)) Q E s := by
  rcases g with g | ⟨xs, k, q, kd, nd, ks, rfl, hq, hk, hd, ro⟩ | ⟨e, rfl, k, rfl⟩
  · exact d_notIn (by have : A.units + 9 < cLine := hu; omega) I g ry h
  · cases ry
    obtain ⟨h0, _, dd⟩ := nd_of I nd ks
    have z := ro.isSome_eq
    rw [Option.isSome_map] at z
    exact wpAny_notIn_heap (roomN hu) (n_key I hq hk hd) h0 dd (by rw [← z]; exact h _ (I.tok _))
  · obtain ⟨h0, dd⟩ := e_of I e
    exact wpAny_notIn_of (kV_is ry) h0 dd.mapOf (h _ (I.tok _))
theorem a_get2 {Q : Value → Shared → Prop} (hu : RoomN A) (I : Inv X pins σ H s) (g : AGet X.prog X.w X.K H a y o) (ry : RelV y u) (rd : RelV d r) (h : ∀ w' s', Inv X pins σ H s' → RelV (o.getD d) w' → Q w' s') : wpAny (model X.prog X.w) A (call (.builtin "dict.get") [.ref a, u, r]) Q E s := by
  rcases g with g | ⟨xs, k, q, kd, nd, ks, rfl, hq, hk, hd, ro⟩ | ⟨e, rfl, k, rfl⟩
  · exact d_get2 (by have : A.units + 9 < cLine := hu; omega) I g ry rd h
  · cases ry
    obtain ⟨h0, _, dd⟩ := nd_of I nd ks
    exact call_meetsIn PySem.F.slot_dict_get dd.typeIs PySem.F.entry_dict_get (PySem.F.args_dict_get_3 _ _ _) (meetsH_dict_get_default _ a q h0 r) ⟨roomN hu, k, xs, n_key I hq hk hd, dd, h _ _ (I.tok _) (ro.getD rd)⟩
  · obtain ⟨h0, dd⟩ := e_of I e
    exact call_meetsIn PySem.F.slot_dict_get dd.typeIs PySem.F.entry_dict_get (PySem.F.args_dict_get_3 _ _ _) (meets_dict_get_default _ a (kV_is ry) h0 r) ⟨_, dd.mapOf, h _ _ (I.tok _) rd⟩
/-- storing in a dict whose keys are tuples -/
theorem n_setItem {xs : List (NestedKey × Addr × Value)} {q : Addr} {kd : D} {k : NestedKey} {Q : Unit → Shared → Prop} (hu : RoomN A) (I : Inv X pins σ H s) (e : H a = some (.ext (nPhi X.prog X.w a xs))) (ks : ∀ x ∈ xs, KeyAt X.prog X.w X.K H x) (hz : xs.length < sizeLine) (hq : Rp X.prog X.w X.K H (.ref q) kd) (hk : nkey kd = some k) (hd : k.depth ≤ 8)
    (h : ∀ s', Inv X pins σ (upd H a (.ext (nPhi X.prog X.w a (storedH xs k q r)))) s' → Q () s') : wpAny (model X.prog X.w) A (setItem (.ref a) (.ref q) r) Q E s := by
  obtain ⟨h0, hl, dd⟩ := nd_of I (.inl (.inl e)) ks
  refine wpAny_setItem_heap (hsz := hl) (roomN hu) (n_key I hq hk hd) dd fun h' dd' hs => h _ ?_
  obtain ⟨ob, es, ep, h1, h2, h3, h4, _, h5⟩ := dd'
  have hl' : (storedH xs k q r).length ≤ sizeLine := by
    unfold storedH
    split
    · rw [List.length_map]; exact hl
    · rw [List.length_append]; exact hz
  refine d_write I (by rw [e]; exact True.intro) hs ⟨ob, h1⟩ ⟨⟨h0, hl', ob, es, ep, h1, h2, h3, h4, h5⟩, ⟨ob, h1⟩, fun g1 g2 ⟨a1, a2, o', b1, b2, c1, c2, c3, c4, c5⟩ k => ⟨a1, a2, o', b1, b2, k _ c1, c2, c3, c4, c5⟩⟩
end
end
end Wl

/- text WlL -/
set_option Elab.async false
set_option maxRecDepth 100000
namespace Wl
open PySem PySem.Spec L2
open PyProof.Rows hiding St

section
variable {P : Program} {w : World} {K : PySem.W.Frag} {Θ : Nat → ObSem} {W : WX} {X : Cx} {io : List Nat}
theorem nkey_kD (k : Key) : nkey (kD k) = some (match k with | .inl i => .num i | .inr x => .text x) := by cases k <;> rfl
theorem keq_kD (a b : Key) : keq (kD a) (kD b) = decide (a = b) := by
  unfold keq
  rw [nkey_kD, nkey_kD]
  cases a <;> cases b <;> simp
theorem keq_of {a b : D} {k : NestedKey} (e : nkey b = some k) : keq a b = decide (nkey a = some k) := by unfold keq; rw [e]
/-! what is found -/
theorem rpK_get {Hm : Hp} (k : Key) : ∀ {ks : List (Key × V)} {kvs : List (D × D)}, RpK P w K Hm ks kvs → (dget kvs (kD k) = none ∧ valV ks k = none) ∨ ∃ d v, dget kvs (kD k) = some d ∧ valV ks k = some v ∧ Rp P w K Hm v d
  | _, _, .nil => .inl ⟨rfl, rfl⟩
  | _, _, .cons (k := j) (v := v) (d := d) (r := r) (ds := ds) h rr => by
    by_cases e : j = k
    · subst e
      refine .inr ⟨d, v, ?_, valV_pos rfl, h⟩
      unfold dget
      rw [List.find?_cons, keq_kD, decide_eq_true rfl]; rfl
    · have e1 : dget ((kD j, d) :: ds) (kD k) = dget ds (kD k) := by
        unfold dget
        rw [List.find?_cons, keq_kD, decide_eq_false e]
      rw [e1, valV_neg e]
      exact rpK_get k rr
theorem atKey_pos {k : NestedKey} {q : Addr} {u : Value} {r : List (NestedKey × Addr × Value)} : atKey ((k, q, u) :: r) k = some (q, u) := by simp [atKey]
theorem atKey_neg {j k : NestedKey} {q : Addr} {u : Value} {r : List (NestedKey × Addr × Value)} (h : ¬ j = k) : atKey ((j, q, u) :: r) k = atKey r k := by simp [atKey, List.find?_cons, h]
theorem rpN_get {Hm : Hp} {kd : D} {k : NestedKey} (e : nkey kd = some k) : ∀ {xs : List (NestedKey × Addr × Value)} {kvs : List (D × D)}, RpN P w K Hm xs kvs → (dget kvs kd = none ∧ atKey xs k = none) ∨ ∃ d v q u, dget kvs kd = some d ∧ atKey xs k = some (q, u) ∧ RelV v u ∧ Rp P w K Hm v d
  | _, _, .nil => .inl ⟨rfl, rfl⟩
  | _, _, .cons (k := j) (q := q) (v := v) (u := u) (kd := jd) (d := d) (r := r) (ds := ds) h1 h2 h3 h4 h5 rr => by
    by_cases z : j = k
    · subst z
      refine .inr ⟨d, v, q, u, ?_, atKey_pos, h4, h5⟩
      unfold dget
      rw [List.find?_cons, keq_of e, h1, decide_eq_true rfl]; rfl
    · have e1 : dget ((jd, d) :: ds) kd = dget ds kd := by
        unfold dget
        rw [List.find?_cons, keq_of e, h1, decide_eq_false fun y => z (Option.some.inj y)]
      rw [e1, atKey_neg z]
      exact rpN_get e rr
/-! what is put -/
theorem rpK_map {Hm : Hp} (k : Key) {y : V} {d : D} (hy : Rp P w K Hm y d) : ∀ {ks : List (Key × V)} {kvs : List (D × D)}, RpK P w K Hm ks kvs → RpK P w K Hm (ks.map fun kv => if kv.1 = k then (kv.1, y) else kv) (kvs.map fun p => if keq p.1 (kD k) then (p.1, d) else p)
  | _, _, .nil => .nil
  | _, _, .cons (k := j) h rr => by
    rw [List.map_cons, List.map_cons]
    by_cases e : j = k
    · subst e
      rw [if_pos rfl, if_pos (by rw [keq_kD]; exact decide_eq_true rfl)]
      exact .cons hy (rpK_map _ hy rr)
    · rw [if_neg e, if_neg (by rw [keq_kD, decide_eq_false e]; decide)]
      exact .cons h (rpK_map k hy rr)
theorem rpK_snoc {Hm : Hp} {k : Key} {y : V} {d : D} (hy : Rp P w K Hm y d) : ∀ {ks : List (Key × V)} {kvs : List (D × D)}, RpK P w K Hm ks kvs → RpK P w K Hm (ks ++ [(k, y)]) (kvs ++ [(kD k, d)])
  | _, _, .nil => .cons hy .nil
  | _, _, .cons h rr => .cons h (rpK_snoc hy rr)
theorem rpK_put {Hm : Hp} (k : Key) {y : V} {d : D} {ks : List (Key × V)} {kvs : List (D × D)} (r : RpK P w K Hm ks kvs) (hy : Rp P w K Hm y d) : RpK P w K Hm (putK ks k y) (dput kvs (kD k) d) := by
  unfold putK dput
  rcases rpK_get k r with ⟨h1, h2⟩ | ⟨d', v, h1, h2, _⟩
  · rw [valV_any, h2, h1]
    exact rpK_snoc hy r
  · rw [valV_any, h2, h1]
    exact rpK_map k hy r
theorem rpN_map {Hm : Hp} {kd : D} {k : NestedKey} (e : nkey kd = some k) {y : V} {u : Value} {d : D} (hu : RelV y u) (hy : Rp P w K Hm y d) : ∀ {xs : List (NestedKey × Addr × Value)} {kvs : List (D × D)}, RpN P w K Hm xs kvs → RpN P w K Hm (xs.map (putAt k u)) (kvs.map fun p => if keq p.1 kd then (p.1, d) else p)
  | _, _, .nil => .nil
  | _, _, .cons (k := j) h1 h2 h3 h4 h5 rr => by
    rw [List.map_cons, List.map_cons]
    by_cases z : j = k
    · subst z
      rw [if_pos (by rw [keq_of e]; exact decide_eq_true h1)]
      unfold putAt
      rw [if_pos rfl]
      exact .cons h1 h2 h3 hu hy (rpN_map e hu hy rr)
    · rw [if_neg (by rw [keq_of e, h1, decide_eq_false fun y => z (Option.some.inj y)]; decide)]
      unfold putAt
      rw [if_neg z]
      exact .cons h1 h2 h3 h4 h5 (rpN_map e hu hy rr)
theorem rpN_snoc {Hm : Hp} {kd : D} {k : NestedKey} {q : Addr} (e : nkey kd = some k) (hk : k.depth ≤ 8) (hq : Rp P w K Hm (.ref q) kd) {y : V} {u : Value} {d : D} (hu : RelV y u) (hy : Rp P w K Hm y d) : ∀ {xs : List (NestedKey × Addr × Value)} {kvs : List (D × D)}, RpN P w K Hm xs kvs → RpN P w K Hm (xs ++ [(k, q, u)]) (kvs ++ [(kd, d)])
  | _, _, .nil => .cons e hk hq hu hy .nil
  | _, _, .cons h1 h2 h3 h4 h5 rr => .cons h1 h2 h3 h4 h5 (rpN_snoc e hk hq hu hy rr)
theorem rpN_put {Hm : Hp} {kd : D} {k : NestedKey} {q : Addr} (e : nkey kd = some k) (hk : k.depth ≤ 8) (hq : Rp P w K Hm (.ref q) kd) {y : V} {u : Value} {d : D} (hu : RelV y u) (hy : Rp P w K Hm y d) {xs : List (NestedKey × Addr × Value)} {kvs : List (D × D)} (r : RpN P w K Hm xs kvs) : RpN P w K Hm (storedH xs k q u) (dput kvs kd d) := by
  unfold storedH dput
  rcases rpN_get e r with ⟨h1, h2⟩ | ⟨d', v, q', u', h1, h2, _⟩
  · rw [h1, h2]
    exact rpN_snoc e hk hq hu hy r
  · rw [h1, h2]
    exact rpN_map e hu hy r

/-! ### a key as a value -/
theorem isK_of {Hm : Hp} {v : V} {d : D} (h : Rp P w K Hm v d) (e : isK d = true) : ∃ k, v = kV k ∧ d = kD k := by
  cases h with
  | int i => exact ⟨.inl i, rfl, rfl⟩
  | str x => exact ⟨.inr x, rfl, rfl⟩
  | _ => cases e
theorem isT_of {Hm : Hp} {v : V} {d : D} (h : Rp P w K Hm v d) (e : isT d = true) : ∃ q, v = .ref q := by
  cases h with
  | tup _ _ => exact ⟨_, rfl⟩
  | _ => cases e
theorem okKey_of {d : D} (e : okKey d = true) : isK d = true ∨ (isT d = true ∧ ∃ k, nkey d = some k ∧ k.depth ≤ 8) := by
  unfold okKey at e
  rw [Bool.or_eq_true, Bool.and_eq_true] at e
  refine e.imp id fun ⟨a, b⟩ => ⟨a, ?_⟩
  split at b
  · rename_i n hn; exact ⟨n, hn, of_decide_eq_true b⟩
  · cases b
/-- a dict: shared or owned -/
def asDc : O → Option (List (D × D))
  | .sh (.dict kvs) => some kvs
  | .od _ kvs => some kvs
  | _ => none
theorem rpN_isT {Hm : Hp} {x : NestedKey × Addr × Value} {xs : List (NestedKey × Addr × Value)} {p : D × D} {kvs : List (D × D)} (r : RpN P w K Hm (x :: xs) (p :: kvs)) : isT p.1 = true := by
  cases r with
  | cons h1 h2 h3 _ _ _ =>
    cases h3 with
    | tup _ _ => rfl
    | lst _ _ => simp [nkey] at h1
    | dk _ _ => simp [nkey] at h1
    | dn _ _ => simp [nkey] at h1
/-- a dict at its address -/
def DAt (P : Program) (w : World) (K : PySem.W.Frag) (H Hm : Hp) (a : Addr) (kvs : List (D × D)) : Prop := (∃ ks, Rd H a (.dK ks) ∧ RpK P w K Hm ks kvs) ∨ ∃ xs, Rd H a (.ext (nPhi P w a xs)) ∧ RpN P w K Hm xs kvs
theorem asDc_ok {H Hm : Hp} {v : V} {o : O} {F : Fp} {kvs : List (D × D)} (h : OOk P w K Θ H Hm v o F) (s : Same Hm H) (e : asDc o = some kvs) : ∃ a, v = .ref a ∧ DAt P w K H Hm a kvs := by
  cases o with
  | sh d =>
    cases d with
    | dict l =>
      cases e
      obtain ⟨h, _⟩ := h
      cases h with
      | dk h1 h2 => exact ⟨_, rfl, .inl ⟨_, Rdd.of s _ _ h1, h2⟩⟩
      | dn h1 h2 => exact ⟨_, rfl, .inr ⟨_, Rdd.of s _ _ h1, h2⟩⟩
    | _ => cases e
  | od nk l =>
    cases e
    obtain ⟨p, rfl, h1, _, _⟩ := h
    cases nk with
    | false => obtain ⟨ks, h2, h3⟩ := h1; exact ⟨p, rfl, .inl ⟨ks, .inl h2, h3⟩⟩
    | true => obtain ⟨xs, h2, h3⟩ := h1; exact ⟨p, rfl, .inr ⟨xs, .inl h2, h3⟩⟩
  | ol ds => cases e
  | ob τ d => cases e
theorem DAt.get {H Hm : Hp} {a : Addr} {kvs : List (D × D)} {y : V} {kd : D} (h : DAt P w K H Hm a kvs) (s : Same Hm H) (hy : Rp P w K H y kd) (ok : okKey kd = true) (ko : kindOk kvs kd = true) :
    ∃ o, AGet P w K H a y o ∧ ((dget kvs kd = none ∧ o = none) ∨ ∃ d v, dget kvs kd = some d ∧ o = some v ∧ Rp P w K Hm v d) := by
  rcases okKey_of ok with hk | ⟨ht, k, hk, hd⟩
  · obtain ⟨k, rfl, rfl⟩ := isK_of hy hk
    rcases h with ⟨ks, h1, h2⟩ | ⟨xs, h1, h2⟩
    · refine ⟨valV ks k, .inl (.inl ⟨ks, k, h1, rfl, rfl⟩), ?_⟩
      rcases rpK_get k h2 with ⟨e1, e2⟩ | ⟨d, v, e1, e2, r⟩
      · exact .inl ⟨e1, e2⟩
      · exact .inr ⟨d, v, e1, e2, r⟩
    · cases kvs with
      | nil =>
        cases h2
        exact ⟨none, .inr (.inr ⟨h1, rfl, k, rfl⟩), .inl ⟨rfl, rfl⟩⟩
      | cons p kvs =>
        exfalso
        cases xs with
        | nil => cases h2
        | cons x xs =>
          have e1 := rpN_isT h2
          have e2 : (isT p.1 == isT (kD k)) = true := ko
          rw [e1] at e2
          cases k <;> cases e2
  · obtain ⟨q, rfl⟩ := isT_of hy ht
    have fin : ∀ xs, NDict P w H a xs → RpN P w K Hm xs kvs → ∃ o, AGet P w K H a (.ref q) o ∧ ((dget kvs kd = none ∧ o = none) ∨ ∃ d v, dget kvs kd = some d ∧ o = some v ∧ Rp P w K Hm v d) := fun xs nd r => by
      rcases rpN_get hk r with ⟨e1, e2⟩ | ⟨d, v, q', u, e1, e2, e3, r'⟩
      · exact ⟨none, .inr (.inl ⟨xs, k, q, kd, nd, rpN_keys (r.same s), rfl, hy, hk, hd, by rw [e2]; trivial⟩), .inl ⟨e1, rfl⟩⟩
      · exact ⟨some v, .inr (.inl ⟨xs, k, q, kd, nd, rpN_keys (r.same s), rfl, hy, hk, hd, by rw [e2]; exact e3⟩), .inr ⟨d, v, e1, rfl, r'⟩⟩
    rcases h with ⟨ks, h1, h2⟩ | ⟨xs, h1, h2⟩
    · cases h2 with
      | nil => exact fin [] (.inr ⟨rfl, h1⟩) .nil
      | cons h3 h4 =>
        rename_i j _ _ _ _
        exfalso
        have e2 : (isT (kD j) == isT kd) = true := ko
        rw [ht] at e2
        cases j <;> cases e2
    · exact fin xs (.inl h1) h2
/-! ### d[k] -/
def oDGet : List O → Option O := fun os => match os with
  | [o, k] => match asDc o, asD k with
    | some kvs, some kd => if okKey kd && kindOk kvs kd then (dget kvs kd).map .sh else none
    | _, _ => none
  | _ => none
def rDGet (P : Program) (w : World) (K : PySem.W.Frag) : R2 := fun x y H Q => ∃ a v, x = .ref a ∧ AGet P w K H a y (some v) ∧ Q v H
theorem opOk_dget : OpOk P w K Θ (r2 (rDGet P w K)) oDGet := fun H Hm vs os o s hs e Q q => by
  unfold oDGet at e
  split at e
  · rename_i o1 o2
    split at e
    · rename_i kvs kd e1 e2
      split at e
      · rename_i c
        rw [Bool.and_eq_true] at c
        obtain ⟨v, u, rfl, ⟨F1, h1⟩, ⟨F2, h2⟩⟩ := oo2 hs
        obtain ⟨a, rfl, hd⟩ := asDc_ok h1 s e1
        obtain ⟨ov, g, z⟩ := hd.get s (h2.full s e2) c.1 c.2
        rcases z with ⟨z1, rfl⟩ | ⟨d, v, z1, rfl, r⟩
        · rw [z1] at e; cases e
        · rw [z1] at e; cases e
          exact ⟨a, v, rfl, g, q v H Hm noF (Fresh.refl s) ⟨r, rfl⟩⟩
      · cases e
    · cases e
  · cases e
theorem rN {k : Nat} (hr : Room k X.A) : RoomN X.A := by have := hr.un; show X.A.units + 9 < cLine; omega
theorem a_dict {pins : List (Addr × Obj)} {σ : L2.St} {H : Hp} {s : Shared} {a : Addr} {y : V} {o : Option V} (I : Inv X pins σ H s) (g : AGet X.prog X.w X.K H a y o) : ∃ ob, s.heap.get? a = some ob ∧ ob.cls = .type "dict" ∧ ob.dict = none := by
  rcases g with g | ⟨xs, k, q, kd, nd, ks, _⟩ | ⟨e, _⟩
  · obtain ⟨ob, h1, h2⟩ := dict_noDict I g a rfl
    obtain ⟨ob', h3, h4⟩ := dict_typeIs I g
    rw [h1] at h3; cases h3
    exact ⟨ob, h1, h4, h2⟩
  · obtain ⟨_, _, ob, _, _, h1, h2, _⟩ := nd_of I nd ks
    exact ⟨ob, h1, h2.1, h2.2.1⟩
  · obtain ⟨_, ob, _, _, h1, h2, _⟩ := e_of I e
    exact ⟨ob, h1, h2.1, h2.2.1⟩
theorem pe_adget {o i : Expr} {td ty : TE} {pos : Pos} (hu : RoomN X.A) (ho : PE X o td) (hi : PE X i ty) (hs : NoSl i) : PE X (.Subscript o i pos) (tOp (rDGet X.prog X.w X.K) td ty) := by
  refine ⟨fun pins s σ H Q I h => ?_⟩
  refine subD_of PySem.F.slot_dict_getitem.lookup hs (thn (ho.run pins s σ H _ I h) fun u s1 ⟨x, H1, I1, rx, q1⟩ => thn (hi.run pins s1 σ H1 _ I1 q1) fun iv s2 ⟨y, H2, I2, ry, q2⟩ => ?_)
  obtain ⟨a, v, rfl, g, q3⟩ := q2
  cases rx
  obtain ⟨ob, b1, b2, _⟩ := a_dict I2 g
  exact ⟨⟨ob, b1, b2⟩, a_getItem hu I2 g ry fun w' s3 I3 rw' => ⟨v, H2, I3, rw', q3⟩⟩
theorem ce_dget {k : Nat} {o i : Expr} {f g : M R} {pos : Pos} (hr : Room k X.A) (ho : CE Θ X W o f) (hi : CE Θ X W i g) (hs : NoSl i := by exact fun _ _ => rfl) : CE Θ X W (.Subscript o i pos) (e2 oDGet f g) :=
  let ⟨_, a1, a2⟩ := ho; let ⟨_, b1, b2⟩ := hi; ⟨_, pe_adget (rN hr) a1 b1 hs, snd_op2 opOk_dget a2 b2⟩
/-! ### k in d -/
def oDIn (neg : Bool) : List O → Option O := fun os => match os with
  | [k, o] => match asD k, asDc o with
    | some kd, some kvs => if okKey kd && kindOk kvs kd then some (.sh (.bool (if neg then !(dget kvs kd).isSome else (dget kvs kd).isSome))) else none
    | _, _ => none
  | _ => none
def rDIn (P : Program) (w : World) (K : PySem.W.Frag) (neg : Bool) : R2 := fun x y H Q => ∃ a o, y = .ref a ∧ AGet P w K H a x o ∧ Q (.bl (if neg then !o.isSome else o.isSome)) H
theorem or_in (hu : RoomN X.A) : OpR X (compareOp .In) (rDIn X.prog X.w X.K false) := by
  intro pins s σ H x y v u Q I rx ry h
  obtain ⟨a, o, rfl, g, q⟩ := h
  cases ry
  exact a_in hu I g rx fun s' I' => ⟨.bl o.isSome, H, I', rfl, q⟩
theorem or_notIn (hu : RoomN X.A) : OpR X (compareOp .NotIn) (rDIn X.prog X.w X.K true) := by
  intro pins s σ H x y v u Q I rx ry h
  obtain ⟨a, o, rfl, g, q⟩ := h
  cases ry
  exact a_notIn hu I g rx fun s' I' => ⟨.bl (!o.isSome), H, I', rfl, q⟩
theorem opOk_din {neg : Bool} : OpOk P w K Θ (r2 (rDIn P w K neg)) (oDIn neg) := fun H Hm vs os o s hs e Q q => by
  unfold oDIn at e
  split at e
  · rename_i o1 o2
    split at e
    · rename_i kd kvs e1 e2
      split at e
      · rename_i c
        cases e
        rw [Bool.and_eq_true] at c
        obtain ⟨v, u, rfl, ⟨F1, h1⟩, ⟨F2, h2⟩⟩ := oo2 hs
        obtain ⟨a, rfl, hd⟩ := asDc_ok h2 s e2
        obtain ⟨ov, g, z⟩ := hd.get s (h1.full s e1) c.1 c.2
        have e3 : ov.isSome = (dget kvs kd).isSome := by
          rcases z with ⟨z1, rfl⟩ | ⟨d, v, z1, rfl, r⟩ <;> rw [z1] <;> rfl
        refine ⟨a, ov, rfl, g, ?_⟩
        rw [e3]
        exact q _ H Hm noF (Fresh.refl s) ⟨.bl _, rfl⟩
      · cases e
    · cases e
  · cases e
/-! ### either of two rules -/
def orM {α : Type} (f g : M α) : M α := fun ρ => match f ρ with
  | some r => some r
  | none => g ρ
def orO (p q : List O → Option O) : List O → Option O := fun os => match p os with
  | some o => some o
  | none => q os
theorem snd_or2 {α β : Type} {rel : L2.St → Env → Hp → Hp → β → α → Fp → Prop} {t u : L2.St → Hp → (β → Hp → Prop) → Prop} {f g m : M α} (hm : ∀ ρ r, m ρ = some r → f ρ = some r ∨ g ρ = some r) (h1 : Snd P w K Θ rel W t f) (h2 : Snd P w K Θ rel W u g) : Snd P w K Θ rel W (fun σ H Q => t σ H Q ∨ u σ H Q) m :=
  fun σ H Hm ρ fp ok res e Q q => (hm ρ res e).imp (fun z => h1 σ H Hm ρ fp ok res z Q q) fun z => h2 σ H Hm ρ fp ok res z Q q
theorem pe_or2 {e : Expr} {t u : TE} (h1 : PE X e t) (h2 : PE X e u) : PE X e (fun σ H Q => t σ H Q ∨ u σ H Q) := ⟨fun pins s σ H Q I h => h.elim (h1.run pins s σ H Q I) (h2.run pins s σ H Q I)⟩
theorem eOp_or {p q : List O → Option O} {f : M (List R)} {ρ : Env} {r : Res R} (e : eOp (orO p q) f ρ = some r) : eOp p f ρ = some r ∨ eOp q f ρ = some r := by
  rcases mbind_inv e with ⟨rs, ρ1, e1, e2⟩ | ⟨er, e1, rfl⟩
  · unfold eOp
    rw [mbind_ok e1, mbind_ok e1]
    cases z : ders rs ρ1 with
    | none => rw [z] at e2; cases e2
    | some os =>
      rw [z] at e2
      have e3 : (match orO p q os with | some o => some (Except.ok (R.v o, ρ1)) | none => none : Option (Res R)) = some r := e2
      unfold orO at e3
      cases y : p os with
      | some o => rw [y] at e3; refine .inl ?_; simp only [z, y]; exact e3
      | none => rw [y] at e3; refine .inr ?_; simp only [z]; exact e3
  · unfold eOp
    rw [mbind_er e1]
    exact .inl rfl
theorem ce_alt {e : Expr} {p q : List O → Option O} {f : M (List R)} (h1 : CE Θ X W e (eOp p f)) (h2 : CE Θ X W e (eOp q f)) : CE Θ X W e (eOp (orO p q) f) :=
  let ⟨_, a1, a2⟩ := h1; let ⟨_, b1, b2⟩ := h2; ⟨_, pe_or2 a1 b1, snd_or2 (fun _ _ => eOp_or) a2 b2⟩
theorem ce_orM {e : Expr} {f g : M R} (h1 : CE Θ X W e f) (h2 : CE Θ X W e g) : CE Θ X W e (orM f g) :=
  let ⟨_, a1, a2⟩ := h1; let ⟨_, b1, b2⟩ := h2; ⟨_, pe_or2 a1 b1, snd_or2 (fun ρ r e => by
    unfold orM at e
    split at e
    · rename_i r' z; cases e; exact .inl z
    · exact .inr e) a2 b2⟩
theorem ci_or {tg e : Expr} {f g : M (List D)} (h1 : CI Θ X W tg e f) (h2 : CI Θ X W tg e g) : CI Θ X W tg e (orM f g) := by
  obtain ⟨t, a1, a2⟩ := h1
  obtain ⟨u, b1, b2⟩ := h2
  refine ⟨fun σ H R => t σ H R ∨ u σ H R, ⟨fun pins s σ H R I h => h.elim (a1.run pins s σ H R I) (b1.run pins s σ H R I)⟩, fun σ H Hm ρ fp ok res e Rr q => ?_⟩
  unfold orM at e
  split at e
  · rename_i r' z; cases e; exact .inl (a2 σ H Hm ρ fp ok _ z Rr q)
  · exact .inr (b2 σ H Hm ρ fp ok _ e Rr q)
/-! ### operations of any kind -/
def oAdd : List O → Option O := orO (oSc dAdd) (orO (oSc dCat) oCat)
theorem ce_plus {a b : Expr} {f g : M R} {pos : Pos} (ha : CE Θ X W a f) (hb : CE Θ X W b g) : CE Θ X W (.BinOp a .Add b pos) (e2 oAdd f g) := ce_alt (ce_add ha hb) (ce_alt (ce_cat ha hb) (ce_catL ha hb))
def oIxA : List O → Option O := orO oIx oDGet
theorem ce_item {k : Nat} {a b : Expr} {f g : M R} {pos : Pos} (hr : Room k X.A) (ha : CE Θ X W a f) (hb : CE Θ X W b g) (hs : NoSl b := by exact fun _ _ => rfl) : CE Θ X W (.Subscript a b pos) (e2 oIxA f g) := ce_alt (ce_sub_ix ha hb hs) (ce_dget hr ha hb hs)
def oIn : List O → Option O := orO (oDIn false) (orO (oSc dIn) (oSc dInS))
theorem ce_isin {k : Nat} {a b : Expr} {f g : M R} {pos : Pos} (hr : Room k X.A) (ha : CE Θ X W a f) (hb : CE Θ X W b g) (hm : behindInMarks .In b = false := by rfl) : CE Θ X W (.Compare a [.In] [b] pos) (e2 oIn f g) :=
  ce_alt (ce_cmp opOk_din (or_in (rN hr)) ha hb hm) (ce_alt (ce_in hr ha hb hm) (ce_inS ha hb hm))
def oNotIn : List O → Option O := orO (oDIn true) (oSc dNotIn)
theorem ce_notin {k : Nat} {a b : Expr} {f g : M R} {pos : Pos} (hr : Room k X.A) (ha : CE Θ X W a f) (hb : CE Θ X W b g) (hm : behindInMarks .NotIn b = false := by rfl) : CE Θ X W (.Compare a [.NotIn] [b] pos) (e2 oNotIn f g) :=
  ce_alt (ce_cmp opOk_din (or_notIn (rN hr)) ha hb hm) (ce_notIn hr ha hb hm)
/-- a comparison's value as a test -/
theorem ct_c {a b : Expr} {op : CmpOp} {f : M R} {pos : Pos} (h : CE Θ X W (.Compare a [op] [b] pos) f) (he : ∀ whole, isTrue (.Compare a [op] [b] pos) X.env whole = (do let v ← whole; standAt pos; holding [v] (truthy v)) := by intro _; rfl) : CT Θ X W (.Compare a [op] [b] pos) (tBool f) := ct_val h he
/-! ### len -/
def oLenD : List O → Option O := fun os => match os with
  | [o] => (asDc o).map fun kvs => .sh (.int kvs.length)
  | _ => none
theorem call_lenD2 : CallR X (.builtin "len") (fun xs H Q => ∃ (a : Addr) (n : Nat), xs = [.ref a] ∧ ((∃ ks : List (Key × V), Rd H a (.dK ks) ∧ n = ks.length) ∨ ∃ zs, Rd H a (.ext (nPhi X.prog X.w a zs)) ∧ (∀ z ∈ zs, KeyAt X.prog X.w X.K H z) ∧ n = zs.length) ∧ Q (.int n) H) := by
  intro pins s σ H vs us Q I r h
  obtain ⟨a, n, rfl, h, q⟩ := h
  obtain ⟨u, rfl, ru⟩ := Vals.one r
  cases ru
  rcases h with ⟨ks, e, rfl⟩ | ⟨zs, e, hk, rfl⟩
  · exact d_len I e fun t s' I' => ⟨.int ((ks.length : Nat) : Int), H, I', ⟨t, rfl⟩, q⟩
  · obtain ⟨h0, hl, dd⟩ := nd_of I (.inl e) hk
    refine PySem.call_len_dictH h0 dd (by rw [sizeLine_eq] at hl; omega) ?_
    exact ⟨.int ((zs.length : Nat) : Int), H, I.tok _, ⟨_, rfl⟩, q⟩
theorem rpK_len {Hm : Hp} : ∀ {ks : List (Key × V)} {kvs : List (D × D)}, RpK P w K Hm ks kvs → ks.length = kvs.length
  | _, _, .nil => rfl
  | _, _, .cons _ r => by simp [rpK_len r]
theorem rpN_len {Hm : Hp} : ∀ {ks : List (NestedKey × Addr × Value)} {kvs : List (D × D)}, RpN P w K Hm ks kvs → ks.length = kvs.length
  | _, _, .nil => rfl
  | _, _, .cons _ _ _ _ _ r => by simp [rpN_len r]
theorem ce_lenD {e : Expr} {f : M R} {p pos : Pos} (hg : Gl X "len") (hm : X.mg "len" = none) (ha : CE Θ X W e f) (hs1 : starEach [e] X.env = [(false, eval e X.env)] := by rfl) : CE Θ X W (.Call (.Name "len" p) [e] [] pos) (eOp oLenD (aCons f aNil)) :=
  ce_b (fun H Hm vs os o s hs e Q q => by
    unfold oLenD at e
    split at e
    · rename_i o1
      cases e1 : asDc o1 with
      | none => rw [e1] at e; cases e
      | some kvs =>
        rw [e1] at e
        cases e
        obtain ⟨v, rfl, F1, h1⟩ := oo1 hs
        obtain ⟨a, rfl, hd⟩ := asDc_ok h1 s e1
        rcases hd with ⟨ks, h2, h3⟩ | ⟨xs, h2, h3⟩
        · exact ⟨a, ks.length, rfl, .inl ⟨ks, h2, rfl⟩, by rw [rpK_len h3]; exact q _ H Hm noF (Fresh.refl s) ⟨.int _, rfl⟩⟩
        · exact ⟨a, xs.length, rfl, .inr ⟨xs, h2, rpN_keys (h3.same s), rfl⟩, by rw [rpN_len h3]; exact q _ H Hm noF (Fresh.refl s) ⟨.int _, rfl⟩⟩
    · cases e) call_lenD2 hg hm (ca_cons ha ca_nil hs1) (he := hs1) (hpl := rfl)
def oLen : List O → Option O := orO (oSc dLen) (orO (oSc dLenS) oLenD)
theorem ce_len_ {e : Expr} {f : M R} {p pos : Pos} (hg : Gl X "len") (hm : X.mg "len" = none) (ha : CE Θ X W e f) (hs1 : starEach [e] X.env = [(false, eval e X.env)] := by rfl) : CE Θ X W (.Call (.Name "len" p) [e] [] pos) (e1 oLen f) :=
  ce_alt (ce_len hg hm ha hs1) (ce_alt (ce_lenS hg hm ha hs1) (ce_lenD hg hm ha hs1))
end
end Wl

/- text WlM -/
set_option Elab.async false
set_option maxRecDepth 100000
namespace Wl
open PySem PySem.Spec L2
open PyProof.Rows hiding St

/-! ### a thing of one address that is owned -/
def isOwn : O → Bool
  | .ol _ => true
  | .od _ _ => true
  | _ => false
def ofTy (T : String) : O → Bool
  | .ol _ => T == "list"
  | .od _ _ => T == "dict"
  | _ => false
/-- r changes the thing at p as op says -/
def MutOk (P : Program) (w : World) (K : PySem.W.Frag) (Θ : Nat → ObSem) (r : V → List V → Hp → VK → Prop) (op : O → List D → Option (O × D)) : Prop :=
  ∀ H Hm p o vs ds o' d', Same Hm H → OOk P w K Θ H Hm (.ref p) o (one p) → isOwn o = true → RpL P w K Hm vs ds → op o ds = some (o', d') → ∀ Q : VK,
    (∀ v HO, OOk P w K Θ (upd H p HO) Hm (.ref p) o' (one p) → Rp P w K Hm v d' → Q v (upd H p HO)) → r (.ref p) vs H Q
section
variable {P : Program} {w : World} {K : PySem.W.Frag} {Θ : Nat → ObSem} {W : WX} {X : Cx} {io : List Nat}
theorem own_at {H Hm : Hp} {v : V} {o : O} {F : Fp} (h : OOk P w K Θ H Hm v o F) (e : isOwn o = true) : ∃ p, v = .ref p ∧ F = one p ∧ Hm p = none ∧ ∃ u, H p = some u ∧ Mut (some u) := by
  cases o with
  | sh d => cases e
  | ob τ d => cases e
  | ol ds => obtain ⟨p, xs, rfl, h1, h2, _, rfl⟩ := h; exact ⟨p, rfl, rfl, h2, _, h1, trivial⟩
  | od nk kvs =>
    obtain ⟨p, rfl, h1, h2, rfl⟩ := h
    refine ⟨p, rfl, rfl, h2, ?_⟩
    cases nk with
    | false => obtain ⟨ks, h3, _⟩ := h1; exact ⟨_, h3, trivial⟩
    | true => obtain ⟨ks, h3, _⟩ := h1; exact ⟨_, h3, trivial⟩
theorem mut_ok {σ : L2.St} {H Hm : Hp} {ρ : Env} {fp : Nat → Fp} {i : Nat} {p : Addr} {o o' : O} {HO : L2.HO} (ok : Ok P w K Θ σ H Hm ρ fp) (e : ρ[i]? = some (some o)) (hf : fp i = one p) (hs : σ[i]? = some (some (.ref p))) (hn : Hm p = none)
    (h : OOk P w K Θ (upd H p HO) Hm (.ref p) o' (one p)) : Ok P w K Θ σ (upd H p HO) Hm (ρ.set i (some o')) fp := by
  have hi : i < ρ.length := (List.getElem?_eq_some_iff.mp e).1
  refine ⟨by simp [ok.len], fun a u z => ?_, fun j v x h1 h2 => ?_, fun j hj => ok.out j (by simpa using hj), ok.apart⟩
  · rw [upd_ne (fun q => by rw [q, hn] at z; cases z)]; exact ok.sub a u z
  · by_cases hj : j = i
    · subst hj
      rw [List.getElem?_set_self hi] at h2
      cases h2
      rw [hs] at h1; cases h1
      rw [hf]
      exact ⟨_, rfl, h⟩
    · rw [List.getElem?_set_ne (Ne.symm hj)] at h2
      have q := ok.slot j v x h1 h2
      cases x with
      | none => exact q
      | some x =>
        obtain ⟨u, e1, q⟩ := q
        refine ⟨u, e1, q.move (Up.refl _) (fun y z hy hz => ?_) fun y hy => (q.own y hy).2⟩
        rw [upd_ne (fun zz => hj (ok.apart j i y hy (by rw [hf]; exact zz)))]
        exact hz
theorem mut_grow {H Hm : Hp} {F : Fp} {p : Addr} {HO : L2.HO} (h : F p) : Grow H Hm F (upd H p HO) Hm F :=
  ⟨Up.refl _, fun q u h1 h2 h3 => ⟨by rw [upd_ne (fun z => h3 (by rw [z]; exact h))]; exact h1, h2, h3⟩⟩
/-! ### a method of a thing in a slot -/
def tyN (P : Program) (w : World) (K : PySem.W.Frag) (T : String) (x : V) (H : Hp) : Prop := tyV K T x H ∨ (T = "dict" ∧ ∃ a xs, x = .ref a ∧ Rd H a (.ext (nPhi P w a xs))) ∨ (T = "dict" ∧ ∃ a ks, x = .ref a ∧ Rd H a (.dK ks))
theorem tyN_is {pins : List (Addr × Obj)} {σ : L2.St} {H : Hp} {s : Shared} {T : String} {x : V} {v : Value} (I : Inv X pins σ H s) (r : RelV x v) (ty : tyN X.prog X.w X.K T x H) :
    s.TypeIs v T ∧ ∀ a, v = .ref a → ∃ ob, s.heap.get? a = some ob ∧ ob.dict = none := by
  rcases ty with ty | ⟨rfl, a, xs, rfl, h⟩ | ⟨rfl, a, ks, rfl, h⟩
  · exact tyV_is I r ty
  · cases r
    obtain ⟨⟨hd, hl, o, es, ep, h1, h2, h3, h4, h5⟩, _, _⟩ := (show ObjOk X.prog X.w H s.heap a (.ext (nPhi X.prog X.w a xs)) from h.ok I.hok)
    exact ⟨⟨o, h1, h2.1⟩, fun b e => by cases e; exact ⟨o, h1, h2.2.1⟩⟩
  · cases r
    obtain ⟨_, _, vs, _, ob, _, _, h1, h2, _⟩ := dk_rd I.hok h
    exact ⟨⟨ob, h1, h2.1⟩, fun b e => by cases e; exact ⟨ob, h1, h2.2.1⟩⟩
def tM (P : Program) (w : World) (K : PySem.W.Frag) (T : String) (r : V → List V → Hp → VK → Prop) (to : TE) (t : TA) : TE := fun σ H Q => to σ H fun x H1 => tyN P w K T x H1 ∧ t σ H1 fun xs H2 => r x xs H2 Q
theorem pe_m {o e : Expr} {es : List Expr} {to : TE} {t : TA} {name : Str} {apos cpos : Pos} {T id : String} {r : V → List V → Hp → VK → Prop} (pa : PlainAttrs T) (slot : PySem.Slot T name id) (hty : typeOf (.builtin id) = pure (.type "method_descriptor")) (hm : MtR X id r) (ho : PE X o to) (ha : PA X (e :: es) t)
    (hbase : attributeBase o name X.env (eval o X.env) = eval o X.env := by rfl)
    (hfew : ((backTo cpos (starEach (e :: es) X.env)).all (fun x => !x.1) && (backToKw cpos (keywordEach [] X.env)).all (fun x => x.1.isSome)
      && decide ((e :: es).length + ([] : List Keyword).length + (if ([] : List Keyword).isEmpty then 0 else 1) < 30)) = true := by rfl)
    (hline : (apos.endLine == cpos.line) = true := by rfl) (hs : starEach (e :: es) X.env = (false, eval e X.env) :: starEach es X.env := by rfl) (hplain : (backTo cpos (starEach es X.env)).any (·.1) = false := by rfl) :
    PE X (.Call (.Attribute o name apos) (e :: es) [] cpos) (tM X.prog X.w X.K T r to t) := by
  refine ⟨fun pins s σ H Q I h => ?_⟩
  refine wpAny_Call_method_late hbase hfew hline rfl (thn (ho.run pins s σ H _ I h) fun v s1 ⟨x, H1, I1, r1, ty, q1⟩ => ?_)
  obtain ⟨h1, h2⟩ := tyN_is I1 r1 ty
  refine ⟨T, id, pa, slot, hty, h1, h2, ?_⟩
  have hA := ha.run cpos pins s1 σ H1 _ I1 q1
  rw [hs] at hA ⊢
  refine Calls.callWith_builtin (by show (false || (backTo cpos (starEach es X.env)).any (·.1)) = false; rw [hplain] <;> rfl) (Calls.evalArgs_plain ?_)
  exact thn hA fun us s2 ⟨vs, H2, I2, r2, q2⟩ => hm pins s2 σ H2 x vs v us Q I2 r1 r2 q2
theorem pe_m0 {o : Expr} {to : TE} {name : Str} {apos cpos : Pos} {T id : String} {r : V → List V → Hp → VK → Prop} (pa : PlainAttrs T) (slot : PySem.Slot T name id) (hty : typeOf (.builtin id) = pure (.type "method_descriptor")) (hm : MtR X id r) (ho : PE X o to)
    (hbase : attributeBase o name X.env (eval o X.env) = eval o X.env := by rfl) (hline : (apos.endLine == cpos.line) = true := by rfl) : PE X (.Call (.Attribute o name apos) [] [] cpos) (tM X.prog X.w X.K T r to tNil) := by
  refine ⟨fun pins s σ H Q I h => ?_⟩
  refine wpAny_Call_method0_late hbase hline (thn (ho.run pins s σ H _ I h) fun v s1 ⟨x, H1, I1, r1, ty, q1⟩ => ?_)
  obtain ⟨h1, h2⟩ := tyN_is I1 r1 ty
  exact ⟨T, id, pa, slot, hty, h1, h2, Calls.callWith_builtin rfl (PySem.evalArgs_none (hm pins s1 σ H1 x [] v [] Q I1 r1 .nil q1))⟩
theorem own_ty {H Hm : Hp} {v : V} {o : O} {F : Fp} {T : String} (h : OOk P w K Θ H Hm v o F) (e : ofTy T o = true) : tyN P w K T v H ∧ isOwn o = true := by
  cases o with
  | sh d => cases e
  | ob τ d => cases e
  | ol ds =>
    obtain ⟨p, xs, rfl, h1, _⟩ := h
    exact ⟨.inl (.inl ⟨eq_of_beq e, xs, .inl (.inl h1)⟩), rfl⟩
  | od nk kvs =>
    obtain ⟨p, rfl, h1, _⟩ := h
    refine ⟨?_, rfl⟩
    cases nk with
    | false => obtain ⟨ks, h3, _⟩ := h1; exact .inr (.inr ⟨eq_of_beq e, p, ks, rfl, .inl h3⟩)
    | true => obtain ⟨ks, h3, _⟩ := h1; exact .inr (.inl ⟨eq_of_beq e, p, ks, rfl, .inl h3⟩)
def slotIs (T : String) (i : Nat) (ρ : Env) : Bool := match ρ[i]? with
  | some (some o) => ofTy T o
  | _ => false
def mutAt (op : O → List D → Option (O × D)) (i : Nat) (ds : List D) : M R := fun ρ => match ρ[i]? with
  | some (some o) => if isOwn o then match op o ds with
    | some (o', d') => some (.ok (.v (.sh d'), ρ.set i (some o')))
    | none => none else none
  | _ => none
def eMeth (T : String) (op : O → List D → Option (O × D)) (i : Nat) (f : M (List R)) : M R := fun ρ => if slotIs T i ρ then mbind (mbind f shAll) (mutAt op i) ρ else none
theorem mutAt_snd {r : V → List V → Hp → VK → Prop} {op : O → List D → Option (O × D)} (hr : MutOk P w K Θ r op) {i : Nat} {ds : List D} {σ : L2.St} {H Hm : Hp} {ρ : Env} {fp : Nat → Fp} {p : V} {vs : List V} (ok : Ok P w K Θ σ H Hm ρ fp) (hp : σ[i]? = some (some p)) (hv : RpL P w K Hm vs ds)
    {res : Res R} (e : mutAt op i ds ρ = some res) {Q : V → Hp → Prop} (q : Post P w K Θ (relE P w K Θ) W σ H Hm (all fp) Q res) : r p vs H Q := by
  unfold mutAt at e
  split at e
  · rename_i o e1
    split at e
    · rename_i c
      split at e
      · rename_i o' d' e2
        cases e
        obtain ⟨u, e3, h⟩ := ok.at e1
        rw [hp] at e3; cases e3
        obtain ⟨a, rfl, hF, hn, hu⟩ := own_at h c
        rw [hF] at h
        refine hr H Hm a o vs ds o' d' ok.sub h c hv e2 Q fun v HO h' hd => ?_
        refine q v _ Hm fp noF (mut_ok ok e1 hF hp hn h') ⟨hd, rfl⟩ (fun _ z => z.elim) ?_
        rw [orF_noF]
        exact mut_grow ⟨i, by rw [hF]; rfl⟩
      · cases e
    · cases e
  · cases e
theorem var_own {i : Nat} {ρ : Env} {o : O} {T : String} (e1 : ρ[i]? = some (some o)) (c : ofTy T o = true) : eVar i ρ = some (.ok (.pl i, ρ)) := by
  unfold eVar
  rw [e1]
  cases o with
  | sh d => cases c
  | ob τ d => cases c
  | ol ds => rfl
  | od nk kvs => rfl
theorem snd_meth {T : String} {r : V → List V → Hp → VK → Prop} {op : O → List D → Option (O × D)} (hr : MutOk P w K Θ r op) {i : Nat} {to : TE} {ta : TA} {f : M (List R)} (ho : SndE P w K Θ W to (eVar i)) (ha : SndA P w K Θ W ta f) : SndE P w K Θ W (tM P w K T r to ta) (eMeth T op i f) := fun σ H Hm ρ fp ok res e Q q => by
  unfold eMeth at e
  split at e
  · rename_i c
    unfold slotIs at c
    split at c
    · rename_i o e1
      refine ho σ H Hm ρ fp ok _ (var_own e1 c) _ ?_
      intro x H1 Hm1 fp1 Fo ok1 hx d1 g1
      obtain ⟨hx, _, rfl⟩ := hx
      obtain ⟨u, e2, h⟩ := ok1.at e1
      rw [hx] at e2; cases e2
      refine ⟨(own_ty h c).1, ?_⟩
      rcases mbind_inv e with ⟨ds, ρ2, e3, e4⟩ | ⟨er, e3, rfl⟩
      · refine snd_ds ha σ H1 Hm1 ρ fp1 ok1 _ e3 _ ?_
        intro vs H2 Hm2 fp2 Fo2 ok2 hv d2 g2
        obtain ⟨hv, rfl⟩ := hv
        exact mutAt_snd hr ok2 hx hv e4 ((q.grow g1).grow g2)
      · refine snd_ds ha σ H1 Hm1 ρ fp1 ok1 _ e3 _ ?_
        exact q.grow g1
    · cases c
  · cases e
/-! ### the methods that change a thing -/
def opAppend : O → List D → Option (O × D) := fun o ds => match o, ds with
  | .ol l, [d] => if l.length < sizeLine then some (.ol (l ++ [d]), .none) else none
  | _, _ => none
theorem mut_append : MutOk P w K Θ rAppend opAppend := fun H Hm p o vs ds o' d' s h c hv e Q q => by
  unfold opAppend at e
  split at e
  · rename_i l d
    split at e
    · rename_i hl
      cases e
      obtain ⟨p', xs, e1, h1, h2, h3, h4⟩ := h
      cases e1
      cases hv with
      | cons r rr =>
        cases rr
        refine ⟨p, xs, _, rfl, rfl, h1, by rw [h3.length]; exact hl, q .non _ ⟨p, _, rfl, upd_same, h2, h3.snoc r, rfl⟩ .non⟩
    · cases e
  · cases e
def opClear : O → List D → Option (O × D) := fun o ds => match o, ds with
  | .ol l, [] => some (.ol [], .none)
  | _, _ => none
theorem mut_clear : MutOk P w K Θ rClear opClear := fun H Hm p o vs ds o' d' s h c hv e Q q => by
  unfold opClear at e
  split at e
  · cases e
    obtain ⟨p', xs, e1, h1, h2, h3, h4⟩ := h
    cases e1
    cases hv
    exact ⟨p, xs, rfl, rfl, h1, q .non _ ⟨p, _, rfl, upd_same, h2, .nil, rfl⟩ .non⟩
  · cases e
/-- x.extend(e), e a new list -/
def eExt (i : Nat) (f : M R) : M R := fun ρ => if slotIs "list" i ρ then mbind f (fun r ρ1 => match r, ρ1[i]? with
  | .v (.ol ds), some (some (.ol l)) => if l.length + ds.length ≤ sizeLine then some (.ok (.v (.sh .none), ρ1.set i (some (.ol (l ++ ds))))) else none
  | _, _ => none) ρ else none
theorem snd_ext {i : Nat} {to te : TE} {f : M R} (ho : SndE P w K Θ W to (eVar i)) (ha : SndE P w K Θ W te f) : SndE P w K Θ W (tM P w K "list" rExtend to (tCons te tNil)) (eExt i f) := fun σ H Hm ρ fp ok res e Q q => by
  unfold eExt at e
  split at e
  · rename_i c
    unfold slotIs at c
    split at c
    · rename_i o e1
      refine ho σ H Hm ρ fp ok _ (var_own e1 c) _ ?_
      intro x H1 Hm1 fp1 Fo ok1 hx d1 g1
      obtain ⟨hx, _, rfl⟩ := hx
      obtain ⟨u, e2, h⟩ := ok1.at e1
      rw [hx] at e2; cases e2
      refine ⟨(own_ty h c).1, ?_⟩
      rcases mbind_inv e with ⟨r, ρ2, e3, e4⟩ | ⟨er, e3, rfl⟩
      · refine ha σ H1 Hm1 ρ fp1 ok1 _ e3 _ ?_
        intro y H2 Hm2 fp2 Fo2 ok2 hr d2 g2
        split at e4
        · rename_i ds l eo
          split at e4
          · rename_i hl
            cases e4
            obtain ⟨b, zs, rfl, hb, hbn, hbr, rfl⟩ := hr
            obtain ⟨u, eu, hu⟩ := ok2.at eo
            rw [hx] at eu; cases eu
            obtain ⟨p, xs, rfl, hp, hpn, hpr, hF⟩ := id hu
            refine ⟨p, b, xs, zs, rfl, rfl, hp, hb, by rw [hpr.length, hbr.length]; exact hl, ?_⟩
            rw [hF] at hu
            refine ((q.grow g1).grow g2) .non _ Hm2 fp2 noF (mut_ok ok2 eo hF hx hpn ⟨p, _, rfl, upd_same, hpn, hpr.append hbr, rfl⟩) ⟨.non, rfl⟩ (fun _ z => z.elim) ?_
            rw [orF_noF]
            refine ⟨Up.refl _, fun a v h1 h2 h3 => ⟨by rw [upd_ne (fun z => h3 ⟨i, by rw [hF]; exact z⟩)]; exact h1, h2, h3⟩⟩
          · cases e4
        · cases e4
      · refine ha σ H1 Hm1 ρ fp1 ok1 _ e3 _ ?_
        exact q.grow g1
    · cases c
  · cases e
def opPopAt : O → List D → Option (O × D) := fun o ds => match o, ds with
  | .ol l, [.int i] => if -(2 ^ 63) ≤ i ∧ i < 2 ^ 63 then match seqIndex? i l.length with
    | some k => match l[k]? with
      | some d => some (.ol (l.eraseIdx k), d)
      | none => none
    | none => none else none
  | _, _ => none
theorem RpL.erase {Hm : Hp} : ∀ {vs : List V} {ds : List D} (k : Nat), RpL P w K Hm vs ds → RpL P w K Hm (vs.eraseIdx k) (ds.eraseIdx k)
  | _, _, _, .nil => .nil
  | _, _, 0, .cons _ r => r
  | _, _, k + 1, .cons h r => .cons h (RpL.erase k r)
theorem mut_popAt : MutOk P w K Θ rPopAt opPopAt := fun H Hm p o vs ds o' d' s h c hv e Q q => by
  unfold opPopAt at e
  split at e
  · rename_i l i
    split at e
    · rename_i hb
      split at e
      · rename_i k hk
        split at e
        · rename_i d hd
          cases e
          obtain ⟨p', xs, e1, h1, h2, h3, h4⟩ := h
          cases e1
          obtain ⟨y, hy, ry⟩ := h3.get hd
          cases hv with
          | cons r rr =>
            cases rr
            cases r
            exact ⟨p, xs, i, k, y, rfl, rfl, h1, hb.1, hb.2, by rw [h3.length]; exact hk, hy, q y _ ⟨p, _, rfl, upd_same, h2, h3.erase k, rfl⟩ ry⟩
        · cases e
      · cases e
    · cases e
  · cases e
/-! ### setting an item -/
def rPut (P : Program) (w : World) (K : PySem.W.Frag) : V → List V → Hp → VK → Prop := fun x vs H Q => ∃ i v, vs = [i, v] ∧ (rSetL x i v H (Q .non) ∨ (∃ a ks k, x = .ref a ∧ i = kV k ∧ H a = some (.dK ks) ∧ ks.length < sizeLine ∧ Q .non (upd H a (.dK (putK ks k v)))) ∨
  ∃ a xs k q kd, x = .ref a ∧ i = .ref q ∧ (H a = some (.ext (nPhi P w a xs)) ∨ (xs = [] ∧ H a = some (.dK []))) ∧ (∀ y ∈ xs, KeyAt P w K H y) ∧ xs.length < sizeLine ∧ Rp P w K H (.ref q) kd ∧ nkey kd = some k ∧ k.depth ≤ 8 ∧ ∀ u, RelV v u → Q .non (upd H a (.ext (nPhi P w a (storedH xs k q u)))))
def sPutR (r : V → List V → Hp → VK → Prop) : TSet := fun o i v H Q => r o [i, v] H fun _ H' => Q H'
theorem n_setItem' {pins : List (Addr × Obj)} {σ : L2.St} {H : Hp} {s : Shared} {a : Addr} {A : Around} {E : Value → Shared → Prop} {r : Value} {xs : List (NestedKey × Addr × Value)} {q : Addr} {kd : D} {k : NestedKey} {Q : Unit → Shared → Prop} (hu : RoomN A) (I : Inv X pins σ H s) (e : H a = some (.ext (nPhi X.prog X.w a xs)) ∨ (xs = [] ∧ H a = some (.dK []))) (ks : ∀ x ∈ xs, KeyAt X.prog X.w X.K H x) (hz : xs.length < sizeLine) (hq : Rp X.prog X.w X.K H (.ref q) kd) (hk : nkey kd = some k) (hd : k.depth ≤ 8)
    (h : ∀ s', Inv X pins σ (upd H a (.ext (nPhi X.prog X.w a (storedH xs k q r)))) s' → Q () s') : wpAny (model X.prog X.w) A (setItem (.ref a) (.ref q) r) Q E s := by
  have e' : NDict X.prog X.w H a xs := e.imp (fun z => .inl z) fun z => ⟨z.1, .inl z.2⟩
  obtain ⟨h0, hl, dd⟩ := nd_of I e' ks
  refine wpAny_setItem_heap (hsz := hl) (roomN hu) (n_key I hq hk hd) dd fun h' dd' hs => h _ ?_
  obtain ⟨ob, es, ep, h1, h2, h3, h4, _, h5⟩ := dd'
  have hl' : (storedH xs k q r).length ≤ sizeLine := by
    unfold storedH
    split
    · rw [List.length_map]; exact hl
    · rw [List.length_append]; exact hz
  refine d_write I (by rcases e with e | ⟨_, e⟩ <;> rw [e] <;> exact True.intro) hs ⟨ob, h1⟩ ⟨⟨h0, hl', ob, es, ep, h1, h2, h3, h4, h5⟩, ⟨ob, h1⟩, fun g1 g2 ⟨a1, a2, o', b1, b2, c1, c2, c3, c4, c5⟩ k => ⟨a1, a2, o', b1, b2, k _ c1, c2, c3, c4, c5⟩⟩
theorem pset_put (hu : RoomN X.A) : PSet X (sPutR (rPut X.prog X.w X.K)) := by
  intro pins s σ H o i v ov iv u Q I ro ri rv h
  obtain ⟨_, _, e, h⟩ := h
  cases e
  rcases h with h | ⟨a, ks, k, rfl, rfl, h1, h2, q⟩ | ⟨a, xs, k, q', kd, rfl, rfl, h1, h2, h3, h4, h5, h6, q⟩
  · exact set_list pins s σ H o i v ov iv u Q I ro ri rv h
  · cases ro
    exact d_setItem (by have : X.A.units + 9 < cLine := hu; omega) I (DPut.k h1 h2) ri rv fun s' I' => ⟨_, I', q⟩
  · cases ro
    cases ri
    exact n_setItem' hu I h1 h2 h3 h4 h5 h6 fun s' I' => ⟨_, I', q u rv⟩
def opPut : O → List D → Option (O × D) := fun o ds => match o, ds with
  | .ol l, [.int i, d] => match ixN l.length i with
    | some j => some (.ol (l.set j d), .none)
    | none => none
  | .od nk kvs, [k, d] => if (okKey k && kindOk kvs k && (nk == isT k || (kvs.isEmpty && !nk))) = true ∧ kvs.length < sizeLine then some (.od (isT k) (dput kvs k d), .none) else none
  | _, _ => none
theorem mut_put : MutOk P w K Θ (rPut P w K) opPut := fun H Hm p o vs ds o' d' s h c hv e Q q => by
  unfold opPut at e
  split at e
  · rename_i l i d
    split at e
    · rename_i j hj
      cases e
      obtain ⟨p', xs, e1, h1, h2, h3, h4⟩ := h
      cases e1
      cases hv with
      | cons r rr =>
        cases r
        cases rr with
        | cons r2 rr =>
          cases rr
          exact ⟨_, _, rfl, .inl ⟨p, xs, i, j, rfl, rfl, h1, by rw [h3.length]; exact hj, q .non _ ⟨p, _, rfl, upd_same, h2, h3.set r2 j, rfl⟩ .non⟩⟩
    · cases e
  · rename_i nk kvs k d
    split at e
    · rename_i hc
      cases e
      obtain ⟨hc, hl⟩ := hc
      rw [Bool.and_eq_true, Bool.and_eq_true, Bool.or_eq_true] at hc
      obtain ⟨⟨ok, ko⟩, hnk⟩ := hc
      obtain ⟨p', e1, h1, h2, h4⟩ := h
      cases e1
      cases hv with
      | cons r rr =>
        cases rr with
        | cons r2 rr =>
          cases rr
          refine ⟨_, _, rfl, .inr ?_⟩
          rcases okKey_of ok with hk | ⟨ht, k', hk, hd⟩
          · obtain ⟨k', rfl, rfl⟩ := isK_of r hk
            have z : isT (kD k') = false := by cases k' <;> rfl
            have flat : ∃ ks, H p = some (.dK ks) ∧ RpK P w K Hm ks kvs := by
              cases nk with
              | false => exact h1
              | true =>
                obtain ⟨xs, h5, h6⟩ := h1
                rw [z] at hnk
                rcases hnk with hnk | hnk
                · cases hnk
                · rw [Bool.and_eq_true] at hnk; cases hnk.2
            obtain ⟨ks, h5, h6⟩ := flat
            refine .inl ⟨p, ks, k', rfl, rfl, h5, by rw [rpK_len h6]; exact hl, q .non _ ⟨p, rfl, ?_, h2, rfl⟩ .non⟩
            rw [z]
            exact ⟨_, upd_same, rpK_put k' h6 r2⟩
          · obtain ⟨q', rfl⟩ := isT_of r ht
            refine .inr ?_
            have nested : ∃ xs, (H p = some (.ext (nPhi P w p xs)) ∨ (xs = [] ∧ H p = some (.dK []))) ∧ RpN P w K Hm xs kvs := by
              cases nk with
              | true => obtain ⟨xs, h5, h6⟩ := h1; exact ⟨xs, .inl h5, h6⟩
              | false =>
                cases kvs with
                | cons p kvs => rw [ht] at hnk; rcases hnk with hnk | hnk <;> cases hnk
                | nil =>
                  obtain ⟨ks, h5, h6⟩ := h1
                  cases h6
                  exact ⟨[], .inr ⟨rfl, h5⟩, .nil⟩
            obtain ⟨xs, h5, h6⟩ := nested
            refine ⟨p, xs, k', q', k, rfl, rfl, h5, rpN_keys (h6.same s), by rw [rpN_len h6]; exact hl, r.same s, hk, hd, fun u hu => q .non _ ⟨p, rfl, ?_, h2, rfl⟩ .non⟩
            rw [ht]
            exact ⟨_, upd_same, rpN_put hk hd r hu r2 h6⟩
    · cases e
  · cases e
end
end Wl

/- text WlN -/
set_option Elab.async false
set_option maxRecDepth 100000
namespace Wl
open PySem PySem.Spec L2
open PyProof.Rows hiding St

section
variable {P : Program} {w : World} {K : PySem.W.Frag} {Θ : Nat → ObSem} {W : WX} {X : Cx} {io : List Nat}
theorem ce_meth {o e : Expr} {es : List Expr} {i : Nat} {f : M (List R)} {name : Str} {apos cpos : Pos} {T id : String} {r : V → List V → Hp → VK → Prop} {op : O → List D → Option (O × D)} (hr : MutOk X.prog X.w X.K Θ r op) (pa : PlainAttrs T) (slot : PySem.Slot T name id) (hty : typeOf (.builtin id) = pure (.type "method_descriptor")) (hm : MtR X id r) (ho : CE Θ X W o (eVar i)) (ha : CA Θ X W (e :: es) f)
    (hbase : attributeBase o name X.env (eval o X.env) = eval o X.env := by rfl)
    (hfew : ((backTo cpos (starEach (e :: es) X.env)).all (fun x => !x.1) && (backToKw cpos (keywordEach [] X.env)).all (fun x => x.1.isSome)
      && decide ((e :: es).length + ([] : List Keyword).length + (if ([] : List Keyword).isEmpty then 0 else 1) < 30)) = true := by rfl)
    (hline : (apos.endLine == cpos.line) = true := by rfl) (hs : starEach (e :: es) X.env = (false, eval e X.env) :: starEach es X.env := by rfl) (hplain : (backTo cpos (starEach es X.env)).any (·.1) = false := by rfl) :
    CE Θ X W (.Call (.Attribute o name apos) (e :: es) [] cpos) (eMeth T op i f) :=
  let ⟨_, a1, a2⟩ := ho; let ⟨_, b1, b2⟩ := ha; ⟨_, pe_m pa slot hty hm a1 b1 hbase hfew hline hs hplain, snd_meth hr a2 b2⟩
theorem ce_meth0 {o : Expr} {i : Nat} {name : Str} {apos cpos : Pos} {T id : String} {r : V → List V → Hp → VK → Prop} {op : O → List D → Option (O × D)} (hr : MutOk X.prog X.w X.K Θ r op) (pa : PlainAttrs T) (slot : PySem.Slot T name id) (hty : typeOf (.builtin id) = pure (.type "method_descriptor")) (hm : MtR X id r) (ho : CE Θ X W o (eVar i))
    (hbase : attributeBase o name X.env (eval o X.env) = eval o X.env := by rfl) (hline : (apos.endLine == cpos.line) = true := by rfl) : CE Θ X W (.Call (.Attribute o name apos) [] [] cpos) (eMeth T op i aNil) :=
  let ⟨_, a1, a2⟩ := ho; ⟨_, pe_m0 pa slot hty hm a1 hbase hline, snd_meth hr a2 snd_nil⟩
section
variable {o e : Expr} {i : Nat} {f : M R} {apos cpos : Pos}
theorem ce_append (ho : CE Θ X W o (eVar i)) (ha : CE Θ X W e f)
    (hbase : attributeBase o "append" X.env (eval o X.env) = eval o X.env := by rfl) (hline : (apos.endLine == cpos.line) = true := by rfl) (hs : starEach [e] X.env = [(false, eval e X.env)] := by rfl)
    (hfew : ((backTo cpos (starEach [e] X.env)).all (fun x => !x.1) && (backToKw cpos (keywordEach [] X.env)).all (fun x => x.1.isSome)
      && decide ([e].length + ([] : List Keyword).length + (if ([] : List Keyword).isEmpty then 0 else 1) < 30)) = true := by rfl) : CE Θ X W (.Call (.Attribute o "append" apos) [e] [] cpos) (eMeth "list" opAppend i (aCons f aNil)) :=
  ce_meth mut_append F.plainAttrs_list F.slot_list_append F.type_list_append mt_append ho (ca_cons ha ca_nil hs) hbase hfew hline hs rfl
theorem ce_extend (ho : CE Θ X W o (eVar i)) (ha : CE Θ X W e f)
    (hbase : attributeBase o "extend" X.env (eval o X.env) = eval o X.env := by rfl) (hline : (apos.endLine == cpos.line) = true := by rfl) (hs : starEach [e] X.env = [(false, eval e X.env)] := by rfl)
    (hfew : ((backTo cpos (starEach [e] X.env)).all (fun x => !x.1) && (backToKw cpos (keywordEach [] X.env)).all (fun x => x.1.isSome)
      && decide ([e].length + ([] : List Keyword).length + (if ([] : List Keyword).isEmpty then 0 else 1) < 30)) = true := by rfl) : CE Θ X W (.Call (.Attribute o "extend" apos) [e] [] cpos) (eExt i f) :=
  let ⟨_, a1, a2⟩ := ho; let ⟨_, b1, b2⟩ := ha; ⟨_, pe_m F.plainAttrs_list F.slot_list_extend F.type_list_extend mt_extend a1 (pa_cons b1 pa_nil hs) hbase hfew hline hs rfl, snd_ext a2 b2⟩
theorem ce_popAt (ho : CE Θ X W o (eVar i)) (ha : CE Θ X W e f)
    (hbase : attributeBase o "pop" X.env (eval o X.env) = eval o X.env := by rfl) (hline : (apos.endLine == cpos.line) = true := by rfl) (hs : starEach [e] X.env = [(false, eval e X.env)] := by rfl)
    (hfew : ((backTo cpos (starEach [e] X.env)).all (fun x => !x.1) && (backToKw cpos (keywordEach [] X.env)).all (fun x => x.1.isSome)
      && decide ([e].length + ([] : List Keyword).length + (if ([] : List Keyword).isEmpty then 0 else 1) < 30)) = true := by rfl) : CE Θ X W (.Call (.Attribute o "pop" apos) [e] [] cpos) (eMeth "list" opPopAt i (aCons f aNil)) :=
  ce_meth mut_popAt F.plainAttrs_list F.slot_list_pop F.type_list_pop mt_popAt ho (ca_cons ha ca_nil hs) hbase hfew hline hs rfl
theorem ce_clear (ho : CE Θ X W o (eVar i)) (hbase : attributeBase o "clear" X.env (eval o X.env) = eval o X.env := by rfl) (hline : (apos.endLine == cpos.line) = true := by rfl) : CE Θ X W (.Call (.Attribute o "clear" apos) [] [] cpos) (eMeth "list" opClear i aNil) :=
  ce_meth0 mut_clear F.plainAttrs_list F.slot_list_clear F.type_list_clear mt_clear ho hbase hline
end
/-! ### d.update(e), keys ints and texts -/
def rUpd (P : Program) (w : World) : V → List V → Hp → VK → Prop := fun x vs H Q => ∃ a b ks ms, x = .ref a ∧ vs = [.ref b] ∧ a ≠ b ∧ H a = some (.dK ks) ∧ (Rd H b (.dK ms) ∨ (ms = [] ∧ Rd H b (.ext (nPhi P w b [])))) ∧ ks.length + ms.length ≤ sizeLine ∧ Q .non (upd H a (.dK (ms.foldl (fun acc kv => putK acc kv.1 kv.2) ks)))
theorem kv_merged : ∀ {ms : List (Key × V)} {vs2 : List (Key × Value)} {ks : List (Key × V)} {vs : List (Key × Value)}, KV ms vs2 → KV ks vs → KV (ms.foldl (fun acc kv => putK acc kv.1 kv.2) ks) (merged vs vs2) := by
  intro ms
  induction ms with
  | nil => intro vs2 ks vs h2 h1; cases h2; exact h1
  | cons m ms ih =>
    intro vs2 ks vs h2 h1
    cases h2 with
    | cons e r =>
      rename_i b bs
      obtain ⟨e1, e2⟩ := e
      show KV _ (List.foldl _ (stored vs b.1 b.2) bs)
      refine ih r ?_
      rw [← e1]
      exact h1.put m.1 e2
theorem mt_upd : MtR X "dict.update" (rUpd X.prog X.w) := by
  intro pins s σ H x xs v us Q I rx rxs h
  obtain ⟨a, b, ks, ms, rfl, rfl, hab, h1, h2, hl, q⟩ := h
  cases rx
  obtain ⟨u, rfl, ru⟩ := rxs.one
  cases ru
  obtain ⟨z, hd, vs, rel, dd⟩ := dk_of I.hok h1
  have arg : ∃ vs2, (b == sysModules) = false ∧ KV ms vs2 ∧ s.heap.DictOf (mixKind X.prog X.w) b vs2 := by
    rcases h2 with h2 | ⟨rfl, h2⟩
    · obtain ⟨z2, hd2, vs2, rel2, dd2⟩ := dk_rd I.hok h2
      exact ⟨vs2, hd2, rel2, dd2⟩
    · obtain ⟨h0, dd⟩ := e_of I h2
      exact ⟨[], h0, .nil, dd⟩
  obtain ⟨vs2, hd2, rel2, dd2⟩ := arg
  refine call_meetsIn PySem.F.slot_dict_update dd.typeIs PySem.F.entry_dict_update (PySem.F.args_dict_update_2 _ _) (meets_dict_update (mixKind X.prog X.w) a b hab hd2) ⟨vs, vs2, dd, dd2, by rw [← rel.length, ← rel2.length]; exact hl, fun h' dd' _ hs => ?_⟩
  have he : ∃ q, h'.get? a = some q := let ⟨q, _, _, hq, _⟩ := dd'; ⟨q, hq⟩
  have km := kv_merged rel2 rel
  have hl' : (ms.foldl (fun acc kv => putK acc kv.1 kv.2) ks).length ≤ sizeLine := by
    rw [km.length]
    have := merged_length_le vs vs2
    rw [← rel.length, ← rel2.length] at this
    omega
  exact ⟨.non, _, d_write (t' := s.toks) I (by rw [h1]; exact True.intro) hs he (dk_new hl' hd km dd'), rfl, q⟩
def flatKeys (kvs : List (D × D)) : Bool := kvs.all fun p => isK p.1
def dputs (kvs ms : List (D × D)) : List (D × D) := ms.foldl (fun acc p => dput acc p.1 p.2) kvs
def opUpd : O → List D → Option (O × D) := fun o ds => match o, ds with
  | .od false kvs, [.dict ms] => if flatKeys ms = true ∧ kvs.length + ms.length ≤ sizeLine then some (.od false (dputs kvs ms), .none) else none
  | _, _ => none
theorem rpK_puts {Hm : Hp} : ∀ {ms : List (Key × V)} {ds : List (D × D)} {ks : List (Key × V)} {kvs : List (D × D)}, RpK P w K Hm ms ds → RpK P w K Hm ks kvs → RpK P w K Hm (ms.foldl (fun acc kv => putK acc kv.1 kv.2) ks) (dputs kvs ds)
  | _, _, _, _, .nil, h => h
  | _, _, _, _, .cons (k := k) r rr, h => by
    have z := rpK_puts rr (rpK_put k h r)
    exact z
theorem mut_upd : MutOk P w K Θ (rUpd P w) opUpd := fun H Hm p o vs ds o' d' s h c hv e Q q => by
  unfold opUpd at e
  split at e
  · rename_i kvs ms
    split at e
    · rename_i hc
      cases e
      obtain ⟨p', e1, ⟨ks, h1, h3⟩, h2, _⟩ := h
      cases e1
      cases hv with
      | cons r rr =>
        cases rr
        have fin : ∀ b ls, (Rd Hm b (.dK ls) ∨ (ls = [] ∧ Rd Hm b (.ext (nPhi P w b [])))) → RpK P w K Hm ls ms → rUpd P w (.ref p) [.ref b] H Q := fun b ls g1 g2 => by
          refine ⟨p, b, ks, ls, rfl, rfl, fun z => ?_, h1, g1.imp (Rdd.of s _ _) (fun z => ⟨z.1, Rdd.of s _ _ z.2⟩), by rw [rpK_len h3, rpK_len g2]; exact hc.2, q .non _ ⟨p, rfl, ⟨_, upd_same, rpK_puts g2 h3⟩, h2, rfl⟩ .non⟩
          subst z
          rcases g1 with (g1 | ⟨o, g1⟩) | ⟨_, g1 | ⟨o, g1⟩⟩ <;> rw [h2] at g1 <;> cases g1
        cases r with
        | dk g1 g2 => exact fin _ _ (.inl g1) g2
        | dn g1 g2 =>
          cases g2 with
          | nil => exact fin _ [] (.inr ⟨rfl, g1⟩) .nil
          | cons k1 k2 k3 k4 k5 k6 =>
            have := hc.1
            unfold flatKeys at this
            rw [List.all_cons, Bool.and_eq_true] at this
            have z := rpN_isT (.cons k1 k2 k3 k4 k5 k6)
            rename_i kd _ _
            exact absurd this.1 (by cases kd <;> first | (cases z; done) | exact fun z => nomatch z)
    · cases e
  · cases e
section
variable {o e : Expr} {i : Nat} {f : M R} {apos cpos : Pos}
theorem ce_update (ho : CE Θ X W o (eVar i)) (ha : CE Θ X W e f)
    (hbase : attributeBase o "update" X.env (eval o X.env) = eval o X.env := by rfl) (hline : (apos.endLine == cpos.line) = true := by rfl) (hs : starEach [e] X.env = [(false, eval e X.env)] := by rfl)
    (hfew : ((backTo cpos (starEach [e] X.env)).all (fun x => !x.1) && (backToKw cpos (keywordEach [] X.env)).all (fun x => x.1.isSome)
      && decide ([e].length + ([] : List Keyword).length + (if ([] : List Keyword).isEmpty then 0 else 1) < 30)) = true := by rfl) : CE Θ X W (.Call (.Attribute o "update" apos) [e] [] cpos) (eMeth "dict" opUpd i (aCons f aNil)) :=
  ce_meth mut_upd F.plainAttrs_dict F.slot_dict_update F.type_dict_update mt_upd ho (ca_cons ha ca_nil hs) hbase hfew hline hs rfl
end
/-! ### x[i] = e -/
def sPut (i : Nat) (fk f : M R) : SM := sE (mbind f toSh) fun d ρ => if slotIs "list" i ρ || slotIs "dict" i ρ then sE (mbind fk toSh) (fun k => sE (mutAt opPut i [k, d]) fun _ ρ => some (.nx ρ)) ρ else none
theorem slotIs_own {i : Nat} {ρ : Env} (c : (slotIs "list" i ρ || slotIs "dict" i ρ) = true) : eVar i ρ = some (.ok (.pl i, ρ)) := by
  rw [Bool.or_eq_true] at c
  rcases c with c | c
  · unfold slotIs at c
    split at c
    · rename_i o e1; exact var_own e1 c
    · cases c
  · unfold slotIs at c
    split at c
    · rename_i o e1; exact var_own e1 c
    · cases c
theorem relE_v {x : V} {d : D} {H Hm : Hp} {F : Fp} {σ : L2.St} {ρ : Env} (h : relD P w K σ ρ H Hm x d F) : Rp P w K Hm x d := h.1
theorem sE_inv {α : Type} {f : M α} {g : α → Env → Option Out} {ρ : Env} {out : Out} (e : sE f g ρ = some out) : (∃ a ρ1, f ρ = some (.ok (a, ρ1)) ∧ g a ρ1 = some out) ∨ ∃ er ρ1, f ρ = some (.error (er, ρ1)) ∧ out = .ex er ρ1 := by
  unfold sE at e
  split at e
  · rename_i a ρ1 h; exact .inl ⟨a, ρ1, h, e⟩
  · rename_i er ρ1 h; cases e; exact .inr ⟨er, ρ1, h, rfl⟩
  · cases e
theorem mutAt_noerr {op : O → List D → Option (O × D)} {i : Nat} {ds : List D} {ρ : Env} {er : Ex × Env} (e : mutAt op i ds ρ = some (.error er)) : False := by
  unfold mutAt at e
  split at e
  · split at e
    · split at e <;> cases e
    · cases e
  · cases e
theorem snds_put {te to ti : TE} {i : Nat} {fk f : M R} {t : TSet} (ht : ∀ o i v H Q, rPut P w K o [i, v] H (fun _ H' => Q H') → t o i v H Q) (h : SndE P w K Θ W te f) (ho : SndE P w K Θ W to (eVar i)) (hk : SndE P w K Θ W ti fk) : SndS P w K Θ W io (tAsg te (gSub to ti t)) (sPut i fk f) := by
  refine Snd.stmt (snd_d h) (u := fun x D σ H1 => gSub to ti t x σ H1 D.nx) fun d b σ H Hm ρ fp Fo ok r dd out e D q => ?_
  obtain ⟨r, rfl⟩ := r
  split at e
  · rename_i c
    refine ho σ H Hm ρ fp ok _ (slotIs_own c) _ ?_
    intro x H1 Hm1 fp1 Fo1 ok1 hx d1 g1
    obtain ⟨hx, _, rfl⟩ := hx
    have q1 : PostS P w K Θ W io σ H1 Hm1 (all fp1) D out := (q.sub fun p z => .inl z).grow (Keep.refl _ _) (g1.to fun p z => .inl z)
    rcases sE_inv e with ⟨k, ρ2, e2, e3⟩ | ⟨er, ρ2, e2, rfl⟩
    · refine snd_d hk σ H1 Hm1 ρ fp1 ok1 _ e2 _ ?_
      intro y H2 Hm2 fp2 Fo2 ok2 hy d2 g2
      obtain ⟨hy, rfl⟩ := hy
      rcases sE_inv e3 with ⟨r3, ρ3, e4, e5⟩ | ⟨er, ρ3, e4, rfl⟩
      · cases e5
        refine ht _ _ _ _ _ (mutAt_snd (W := W) mut_put ok2 hx (.cons hy (.cons (r.up (g1.sh.trans g2.sh)) .nil)) e4 (Q := fun _ H' => D.nx σ H') ?_)
        intro z H3 Hm3 fp3 Fo3 ok3 hz d3 g3
        have q2 := (q1.grow (Keep.refl _ _) (g2.to fun p z => .inl z))
        exact q2 σ H3 Hm3 fp3 ok3 (Keep.refl _ _) (g3.to fun p z => .inl z)
      · exact (mutAt_noerr e4).elim
    · refine snd_d hk σ H1 Hm1 ρ fp1 ok1 _ e2 _ ?_
      exact fun cls dd H2 Hm2 fp2 ok2 x2 g2 => q1 cls dd σ H2 Hm2 fp2 ok2 (Keep.refl _ _) x2 g2
  · cases e
theorem cs_put {k : Nat} {i : Nat} {o ix e : Expr} {fk f : M R} {pos pos' : Pos} (hr : Room k X.A) (ho : CE Θ X W o (eVar i)) (hi : CE Θ X W ix fk) (h : CE Θ X W e f)
    (hs : swapsWithSole [.Subscript o ix pos'] e pos.line X.env = pure false := by rfl) (hw : swappedStores [.Subscript o ix pos'] e X.env = pure none := by rfl) (h1 : (assignEach [.Subscript o ix pos'] X.env).map (·.2) = [assign (.Subscript o ix pos') X.env] := by rfl)
    (ha : ∀ v, assign (.Subscript o ix pos') X.env v = (do
      let ov ← holding [v] (eval o X.env)
      let iv ← holding [v, ov] (eval ix X.env)
      standAt pos'
      holding [v, ov, iv] (setItem ov iv v)
      release [v, ov, iv] []) := by intro _; rfl) : CS Θ X W io (.Assign [.Subscript o ix pos'] e pos) (sPut i fk f) :=
  let ⟨_, a1, a2⟩ := ho; let ⟨_, b1, b2⟩ := hi; let ⟨_, c1, c2⟩ := h
  ⟨_, ps_asg c1 (pg_sub a1 b1 (pset_put (rN hr)) ha) hs hw h1, snds_put (fun _ _ _ _ _ z => z) c2 a2 b2⟩
end
end Wl

/- text WlO -/
set_option Elab.async false
set_option maxRecDepth 100000
namespace Wl
open PySem PySem.Spec L2
open PyProof.Rows hiding St

/-! ### a dict's entries, whatever its keys -/
/-- the dict u at d has the keys kl and the values vl -/
def Ent (P : Program) (w : World) (d : Addr) (u : HO) (kl vl : List V) : Prop := (∃ ks : List (Key × V), u = .dK ks ∧ kl = ks.map (fun p => kV p.1) ∧ vl = ks.map (·.2)) ∨
  ∃ xs : List (NestedKey × Addr × Value), u = .ext (nPhi P w d xs) ∧ kl = xs.map (fun x => .ref x.2.1) ∧ Vals vl (xs.map (·.2.2))
section
variable {P : Program} {w : World} {K : PySem.W.Frag} {Θ : Nat → ObSem} {W : WX} {X : Cx} {io : List Nat}
theorem pairs_keys {es : List DictEntry} {ks : List (Key × V)} {vs : List (Key × Value)} (hp : Pairs (mixKind P w) es vs) (kv : KV ks vs) : Vals (ks.map fun p => kV p.1) (es.map (·.key)) ∧ Vals (ks.map (·.2)) (es.map (·.val)) := by
  induction hp generalizing ks with
  | nil => cases kv; exact ⟨.nil, .nil⟩
  | cons h1 h2 _ ih =>
    cases kv with
    | cons e r =>
      obtain ⟨e1, e2⟩ := e
      obtain ⟨i1, i2⟩ := ih r
      refine ⟨.cons ?_ i1, .cons ?_ i2⟩
      · dsimp only; rw [e1]; exact relV_key h1
      · dsimp only; rw [h2]; exact e2
theorem vals_ents {f : NestedKey × Addr × Value → DictEntry} (hf : ∀ x, (f x).key = .ref x.2.1) : ∀ xs : List (NestedKey × Addr × Value), Vals (xs.map fun x => .ref x.2.1) ((xs.map f).map (·.key))
  | [] => .nil
  | x :: xs => .cons (show RelV (.ref x.2.1) (f x).key by rw [hf]; rfl) (vals_ents hf xs)
theorem rd_ent {d : Addr} {u : HO} {kl vl : List V} {pins : List (Addr × Obj)} {σ : L2.St} {H : Hp} {s : Shared} (I : Inv X pins σ H s) (h : Rd H d u) (e : Ent X.prog X.w d u kl vl) :
    (d == sysModules) = false ∧ ∃ (o : Obj) (es : Array DictEntry) (ep : Nat), s.heap.get? d = some o ∧ o.ExactDict ∧ o.data = .dict es ep ∧ es.size ≤ sizeLine ∧ Vals kl (es.toList.map (·.key)) ∧ Vals vl (es.toList.map (·.val)) := by
  rcases e with ⟨ks, rfl, rfl, rfl⟩ | ⟨xs, rfl, rfl, hv⟩
  · obtain ⟨z, hd, vs, rel, o, es, ep, h1, h2, h3, _, h5, _⟩ := dk_rd I.hok h
    obtain ⟨a, b⟩ := pairs_keys h5 rel
    have hl := a.length
    simp only [List.length_map, Array.length_toList] at hl
    exact ⟨hd, o, es, ep, h1, h2, h3, by omega, a, b⟩
  · obtain ⟨⟨hd, hl, o, es, ep, h1, h2, h3, h4, h5⟩, _, _⟩ := (show ObjOk X.prog X.w H s.heap d (.ext (nPhi X.prog X.w d xs)) from h.ok I.hok)
    refine ⟨hd, o, es, ep, h1, h2, h3, ?_, ?_, ?_⟩
    · rw [← Array.length_toList, h4, List.length_map]; exact hl
    · rw [h4]; exact vals_ents (fun _ => rfl) xs
    · rw [h4, List.map_map]
      exact hv
theorem frz_at {d : Addr} {o : Obj} {u : HO} {pins : List (Addr × Obj)} {σ : L2.St} {H : Hp} {s : Shared} (I : Inv X pins σ H s) (h : H d = some (.frz o u)) : s.heap.get? d = some o :=
  (show ObjOk X.prog X.w H s.heap d (.frz o u) from I.hok d _ h).1
/-- the keys of the locked dict at d -/
def Iku (d : Addr) (o : Obj) (u : HO) (kl : List V) : It :=
  ⟨fun i H => H d = some (.frz o u) ∧ i < kl.length, fun i H x H' => H' = H ∧ kl[i]? = some x, fun i H => H d = some (.frz o u) ∧ kl.length ≤ i⟩
/-- its pairs, each a new tuple -/
def Iiu (d : Addr) (o : Obj) (u : HO) (kl vl : List V) : It :=
  ⟨fun i H => H d = some (.frz o u) ∧ i < kl.length, fun i H x H' => ∃ T k v, kl[i]? = some k ∧ vl[i]? = some v ∧ x = .ref T ∧ H T = none ∧ H' = upd H T (.tup [k, v]), fun i H => H d = some (.frz o u) ∧ kl.length ≤ i⟩
theorem keys_get {kl : List V} {es : Array DictEntry} {f : DictEntry → Value} (h : Vals kl (es.toList.map f)) {i : Nat} (hi : i < kl.length) : ∃ x, kl[i]? = some x ∧ ∃ hi' : i < es.size, RelV x (f es[i]) := by
  obtain ⟨x, hx⟩ : ∃ x, kl[i]? = some x := ⟨kl[i], List.getElem?_eq_getElem hi⟩
  obtain ⟨u, hu, ru⟩ := h.get hx
  rw [List.getElem?_map] at hu
  have hl := h.length
  simp only [List.length_map, Array.length_toList] at hl
  have hi' : i < es.size := by omega
  rw [Array.getElem?_toList, Array.getElem?_eq_getElem hi'] at hu
  cases hu
  exact ⟨x, hx, hi', ru⟩
theorem turn_ku {tg : Expr} {d : Addr} {o : Obj} {u : HO} {kl vl : List V} {es : Array DictEntry} {ep : Nat} (it : Addr) (hod : o.data = .dict es ep) (he : Ent P w d u kl vl) : Turn P w K tg (Iku d o u kl) [it] it (fun i h => h.IsKeyIter it d i kl.length ep) where
  mem := by simp
  obj := fun i h st b hb => by
    have e : b = it := by simpa using hb
    subst e
    obtain ⟨oi, e, c, dd⟩ := st
    exact ⟨oi, e, fun v z => by rw [dd] at z; cases z⟩
  keep := fun i h h' st k => st.at fun oi e => k it (by simp) oi e
  item := by
    intro X hP hw hK hc i pins s σ H E I hf st hg
    subst hP hw hK
    obtain ⟨hd, hi⟩ := hg
    obtain ⟨f0, f1, f2, f3, f4, f5⟩ := hf it (by simp)
    obtain ⟨hs, o', es', ep', ho', hx, hdt, hsz, hk, hv⟩ := rd_ent I (.inr ⟨_, hd⟩) he
    have hgd := frz_at I hd
    rw [hgd] at ho'; cases ho'
    obtain ⟨rfl, rfl⟩ := dict_ep hod hdt
    obtain ⟨x, hx', hi', rx⟩ := keys_get hk hi
    have hl := hk.length
    simp only [List.length_map, Array.length_toList] at hl
    refine next_key_item st hgd hdt hl.symm (Array.getElem?_eq_getElem hi') fun h' st' sb => ?_
    have I1 : Inv X pins σ H { s with heap := h' } := I.turned (t' := s.toks) (fun b ob hb e => (sb.2 b hb).trans e) f0 f1 f3 f4 f5
    obtain ⟨oi, e, c, dd⟩ := id st'
    exact ⟨_, rfl, go_of (s := { s with heap := h' }) e c dd (by decide) ⟨x, H, I1, rx, ⟨rfl, hx'⟩, st', fun b hb => (hf b hb).1⟩⟩
  done := by
    intro X hP hw hK hc i pins s σ H E I hf st hg
    subst hP hw hK
    obtain ⟨hd, hi⟩ := hg
    obtain ⟨f0, f1, f2, f3, f4, f5⟩ := hf it (by simp)
    obtain ⟨hs, o', es', ep', ho', hx, hdt, hsz, hk, hv⟩ := rd_ent I (.inr ⟨_, hd⟩) he
    have hgd := frz_at I hd
    rw [hgd] at ho'; cases ho'
    obtain ⟨rfl, rfl⟩ := dict_ep hod hdt
    have hl := hk.length
    simp only [List.length_map, Array.length_toList] at hl
    exact next_key_end (I.ok.hd hc) st hgd hdt hl.symm hi fun h' eb => ⟨rfl, I.turned (t' := s.toks) (fun b ob hb e => eb b ob hb e) f0 f1 f3 f4 f5⟩
  self := fun A i s Q E st h => by
    refine wpAny_pyIter_slot st.typeIs F.slot_dict_keyiterator_iter (wpAny_call_entry F.slot_dict_keyiterator_iter st.typeIs F.entry_dict_keyiterator_iter ?_ (F.args_dict_keyiterator_iter_1 _))
    show wpAny _ _ (ret (.ref it)) _ _ s
    exact wpAny_pure ⟨_, rfl, "dict_keyiterator", _, st.typeIs, F.slot_dict_keyiterator_next.lookup, h⟩
theorem turn_iu {elts : List Expr} {kk : Nat} {tpos : Pos} {d : Addr} {o : Obj} {u : HO} {kl vl : List V} {es : Array DictEntry} {ep : Nat} (it : Addr) (hod : o.data = .dict es ep) (he : Ent P w d u kl vl) : Turn P w K (.Tuple elts kk tpos) (Iiu d o u kl vl) [it] it (fun i h => ∃ ok ov, IsItemIter h it d i es.size ep ok ov) where
  mem := by simp
  obj := fun i h st b hb => by
    have e : b = it := by simpa using hb
    subst e
    obtain ⟨ok, ov, e⟩ := st
    exact ⟨_, e, fun v z => nomatch z⟩
  keep := fun i h h' st k => let ⟨ok, ov, e⟩ := st; ⟨ok, ov, k it (by simp) _ e⟩
  item := by
    intro X hP hw hK hc i pins s σ H E I hf st hg
    subst hP hw hK
    obtain ⟨hd, hi⟩ := hg
    obtain ⟨hs, o', es', ep', ho', hx, hdt, hsz, hk, hv⟩ := rd_ent I (.inr ⟨_, hd⟩) he
    have hgd := frz_at I hd
    rw [hgd] at ho'; cases ho'
    obtain ⟨rfl, rfl⟩ := dict_ep hod hdt
    obtain ⟨x, hx', hi', rx⟩ := keys_get hk hi
    have hl := hk.length
    simp only [List.length_map, Array.length_toList] at hl
    have hl2 := hv.length
    simp only [List.length_map, Array.length_toList] at hl2
    obtain ⟨y, hy', _, ry⟩ := keys_get hv (i := i) (by omega)
    obtain ⟨ok, ov, hit⟩ := st
    have hlt : it < s.heap.objs.size := Heap.lt_size hit
    refine DT.nextI hit ⟨o, hgd, hx, hdt⟩ hi' fun h' ho hT hz hk' => ?_
    refine ⟨_, rfl, wpAny_letOwnedTupleGo_items (s := { s with heap := h' }) ho fun h'' he' sb => ?_⟩
    have hT2 : h''.get? s.heap.objs.size = some { cls := .type "tuple", data := .seq #[es'[i].key, es'[i].val] } := (sb.2 _ (Nat.ne_of_gt hlt)).trans hT
    have new : ObjOk X.prog X.w (upd H s.heap.objs.size (.tup [x, y])) h'' s.heap.objs.size (.tup [x, y]) :=
      ⟨by show 2 ≤ sizeLine; decide, [es'[i].key, es'[i].val], .cons rx (.cons ry .nil), ⟨_, hT2, rfl, _, rfl⟩⟩
    have I1 : Inv X pins σ (upd H s.heap.objs.size (.tup [x, y])) { s with heap := h'' } :=
      I.turnedNew (t' := s.toks) (ch := [it]) (fun b ob hb e => (sb.2 b (by simpa using hb)).trans (hk' b ob (by simpa using hb) e)) hf (Nat.le_refl _) new
    refine ⟨.ref s.heap.objs.size, _, I1, rfl, ⟨_, x, y, hx', hy', rfl, I.hok.fresh (Nat.le_refl _), rfl⟩, ⟨_, _, he'⟩, fun b hb => ?_⟩
    have e : b = it := by simpa using hb
    rw [e, upd_ne (Nat.ne_of_lt hlt)]
    exact (hf it (by simp)).1
  done := by
    intro X hP hw hK hc i pins s σ H E I hf st hg
    subst hP hw hK
    obtain ⟨hd, hi⟩ := hg
    obtain ⟨f0, f1, f2, f3, f4, f5⟩ := hf it (by simp)
    obtain ⟨hs, o', es', ep', ho', hx, hdt, hsz, hk, hv⟩ := rd_ent I (.inr ⟨_, hd⟩) he
    have hgd := frz_at I hd
    rw [hgd] at ho'; cases ho'
    obtain ⟨rfl, rfl⟩ := dict_ep hod hdt
    have hl := hk.length
    simp only [List.length_map, Array.length_toList] at hl
    obtain ⟨ok, ov, hit⟩ := st
    exact DT.endI (I.ok.hd hc) hit ⟨o, hgd, hx, hdt⟩ (by omega) fun h' eb => ⟨rfl, I.turned (t' := s.toks) (fun b ob hb e => eb b ob hb e) f0 f1 f3 f4 f5⟩
  self := fun A i s Q E st h => let ⟨_, _, e⟩ := st; PySem.W.kcp_self e h
/-! ### for k in d, for (k, v) in d.items(): the dict is locked from here on -/
def iKu (P : Program) (w : World) (td : TE) : TI := fun σ H R => td σ H fun x H1 => ∃ d u kl vl, x = .ref d ∧ Ent P w d u kl vl ∧ ((H1 d = some u ∧ Mut (some u) ∧ ∀ o, R (Iku d o u kl) (upd H1 d (.frz o u))) ∨ ∃ o, H1 d = some (.frz o u) ∧ R (Iku d o u kl) H1)
def iIu (P : Program) (w : World) (td : TE) : TI := fun σ H R => td σ H fun x H1 => ∃ d u kl vl, x = .ref d ∧ Ent P w d u kl vl ∧ ((H1 d = some u ∧ Mut (some u) ∧ ∀ o, R (Iiu d o u kl vl) (upd H1 d (.frz o u))) ∨ ∃ o, H1 d = some (.frz o u) ∧ R (Iiu d o u kl vl) H1)
theorem lockd {d : Addr} {u : HO} {pins : List (Addr × Obj)} {σ : L2.St} {H : Hp} {s : Shared} (I : Inv X pins σ H s) {Rr : Obj → Hp → Prop} (h : (H d = some u ∧ Mut (some u) ∧ ∀ o, Rr o (upd H d (.frz o u))) ∨ ∃ o, H d = some (.frz o u) ∧ Rr o H) : ∃ o H', Inv X pins σ H' s ∧ H' d = some (.frz o u) ∧ Rr o H' := by
  rcases h with ⟨h1, h2, h3⟩ | ⟨o, h1, h2⟩
  · obtain ⟨o, I'⟩ := I.lock h1 h2
    exact ⟨o, _, I', upd_same, h3 o⟩
  · exact ⟨o, H, I, h1, h2⟩
theorem pi_ku {tg e : Expr} {td : TE} (he : PE X e td) : PI X tg e (iKu X.prog X.w td) := by
  refine ⟨fun pins s σ H R I h => ?_⟩
  refine thn (he.run pins s σ H _ I h) fun v s1 ⟨x, H1, I1, rx, d, u, kl, vl, ex, en, q⟩ => ?_
  subst ex
  obtain rfl : v = Value.ref d := rx
  obtain ⟨o, H2, I2, hd, q2⟩ := lockd (Rr := fun o H => R (Iku d o u kl) H) I1 q
  obtain ⟨hs, o', es, ep, ho', hx, hdt, hsz, hk, hv⟩ := rd_ent I2 (.inr ⟨_, hd⟩) en
  have hgd := frz_at I2 hd
  rw [hgd] at ho'; cases ho'
  have hl := hk.length
  simp only [List.length_map, Array.length_toList] at hl
  refine iter_keys hs hgd hx hdt (pi_one (tk := s1.toks) I2 _ (turn_ku _ hdt en) ⟨_, Heap.get?_push_size _ rfl, rfl, ?_⟩ q2)
  rw [← hl]; rfl
theorem pi_iu {elts : List Expr} {kk : Nat} {tpos : Pos} {e : Expr} {td : TE} {apos cpos : Pos} (he : PE X e td) (hbase : attributeBase e "items" X.env (eval e X.env) = eval e X.env := by rfl) (hline : (apos.endLine == cpos.line) = true := by rfl) :
    PI X (.Tuple elts kk tpos) (.Call (.Attribute e "items" apos) [] [] cpos) (iIu X.prog X.w td) := by
  refine ⟨fun pins s σ H R I h => ?_⟩
  refine wpAny_Call_method (T := "dict") (id := "dict.items") hbase rfl hline F.plainAttrs_dict F.slot_dict_items F.type_dict_items (thn (he.run pins s σ H _ I h) fun v s1 ⟨x, H1, I1, rx, d, u, kl, vl, ex, en, q⟩ => ?_)
  subst ex
  obtain rfl : v = Value.ref d := rx
  obtain ⟨o, H2, I2, hd, q2⟩ := lockd (Rr := fun o H => R (Iiu d o u kl vl) H) I1 q
  obtain ⟨hs, o', es, ep, ho', hx, hdt, hsz, hk, hv⟩ := rd_ent I2 (.inr ⟨_, hd⟩) en
  have hgd := frz_at I2 hd
  rw [hgd] at ho'; cases ho'
  have raw : DT.Raw s1.heap d es ep := ⟨o, hgd, hx, hdt⟩
  refine ⟨raw.typeIs, fun a e => by cases e; exact ⟨o, hgd, hx.2.1⟩, ?_⟩
  have I3 : Inv X pins σ H2 { s1 with heap := s1.heap.push { cls := .type "dict_items", data := .fields #[.ref d] } } := I2.kept (t' := s1.toks) fun b ob q => Heap.get?_push_of_some _ q
  show wpAny _ _ (callWith cpos (.builtin "dict.items") [.ref d] [] []) _ X.xe s1
  refine Calls.callWith_builtin rfl (PySem.evalArgs_none (DT.callItems hs raw ?_))
  refine DT.iterI ⟨_, Heap.get?_push_size _ rfl, rfl, rfl⟩ (raw.push _) ?_
  exact pi_one (tk := s1.toks) I3 _ (turn_iu _ hdt en) ⟨.none, .none, Heap.get?_push_size _ rfl⟩ q2
/-! ### what they say -/
theorem lock_ok {σ : L2.St} {H Hm : Hp} {ρ : Env} {fp : Nat → Fp} {a : Addr} {u : HO} {o : Obj} (ok : Ok P w K Θ σ H Hm ρ fp) (e : Hm a = some u) (mu : Mut (some u)) :
    Ok P w K Θ σ (upd H a (.frz o u)) (upd Hm a (.frz o u)) ρ fp ∧ Grow H Hm (all fp) (upd H a (.frz o u)) (upd Hm a (.frz o u)) (all fp) := by
  have up : Up Hm (upd Hm a (.frz o u)) := fun b v h => by
    by_cases hb : b = a
    · subst hb; rw [e] at h; cases h
      exact .inr ⟨mu, o, upd_same⟩
    · rw [upd_ne hb]; exact .inl h
  have na : ∀ p, Hm p = none → p ≠ a := fun p h z => by rw [z, e] at h; cases h
  refine ⟨ok.move up (fun b v h => ?_) (fun p v hp h => ?_) (fun p hp => ?_), up, fun p v h1 h2 h3 => ⟨?_, ?_, h3⟩⟩
  · by_cases hb : b = a
    · subst hb; rw [upd_same] at h ⊢; exact h
    · rw [upd_ne hb] at h ⊢; exact ok.sub b v h
  · rw [upd_ne (na p (ok.fpNone p hp).1)]; exact h
  · rw [upd_ne (na p (ok.fpNone p hp).1)]; exact (ok.fpNone p hp).1
  · rw [upd_ne (na p h2)]; exact h1
  · rw [upd_ne (na p h2)]; exact h2
theorem rpK_lists {Hm : Hp} : ∀ {ks : List (Key × V)} {kvs : List (D × D)}, RpK P w K Hm ks kvs → RpL P w K Hm (ks.map fun p => kV p.1) (kvs.map (·.1)) ∧ RpL P w K Hm (ks.map (·.2)) (kvs.map (·.2))
  | _, _, .nil => ⟨.nil, .nil⟩
  | _, _, .cons (k := k) h r => let ⟨a, b⟩ := rpK_lists r; ⟨.cons (by cases k <;> constructor) a, .cons h b⟩
theorem rpN_lists {Hm : Hp} : ∀ {xs : List (NestedKey × Addr × Value)} {kvs : List (D × D)}, RpN P w K Hm xs kvs → ∃ vl, Vals vl (xs.map (·.2.2)) ∧ RpL P w K Hm (xs.map fun x => .ref x.2.1) (kvs.map (·.1)) ∧ RpL P w K Hm vl (kvs.map (·.2))
  | _, _, .nil => ⟨[], .nil, .nil, .nil⟩
  | _, _, .cons h1 h2 h3 h4 h5 r => let ⟨vl, a, b, c⟩ := rpN_lists r; ⟨_ :: vl, .cons h4 a, .cons h3 b, .cons h5 c⟩
/-- a dict of shared data: where it is, its keys and values -/
theorem rp_ent {Hm : Hp} {v : V} {kvs : List (D × D)} (h : Rp P w K Hm v (.dict kvs)) : ∃ d u kl vl, v = .ref d ∧ Ent P w d u kl vl ∧ Mut (some u) ∧ Rd Hm d u ∧ RpL P w K Hm kl (kvs.map (·.1)) ∧ RpL P w K Hm vl (kvs.map (·.2)) := by
  cases h with
  | dk h1 h2 =>
    obtain ⟨a, b⟩ := rpK_lists h2
    exact ⟨_, _, _, _, rfl, .inl ⟨_, rfl, rfl, rfl⟩, trivial, h1, a, b⟩
  | dn h1 h2 =>
    obtain ⟨vl, a, b, c⟩ := rpN_lists h2
    exact ⟨_, _, _, _, rfl, .inr ⟨_, rfl, rfl, a⟩, trivial, h1, b, c⟩
/-- it is locked, or is now -/
theorem locked {σ : L2.St} {H Hm : Hp} {ρ : Env} {fp : Nat → Fp} {d : Addr} {u : HO} (ok : Ok P w K Θ σ H Hm ρ fp) (h : Rd Hm d u) (mu : Mut (some u)) {Rr : Obj → Hp → Prop}
    (q : ∀ o H1 Hm1, Ok P w K Θ σ H1 Hm1 ρ fp → Grow H Hm (all fp) H1 Hm1 (all fp) → Hm1 d = some (.frz o u) → Rr o H1) : (H d = some u ∧ Mut (some u) ∧ ∀ o, Rr o (upd H d (.frz o u))) ∨ ∃ o, H d = some (.frz o u) ∧ Rr o H := by
  rcases h with h | ⟨o, h⟩
  · refine .inl ⟨ok.sub _ _ h, mu, fun o => ?_⟩
    obtain ⟨a, b⟩ := lock_ok (o := o) ok h mu
    exact q o _ _ a b upd_same
  · exact .inr ⟨o, ok.sub _ _ h, q o H Hm ok Grow.refl h⟩
theorem up_frz {Hm Hm' : Hp} (u : Up Hm Hm') {d : Addr} {o : Obj} {x : HO} (h : Hm d = some (.frz o x)) : Hm' d = some (.frz o x) := by
  rcases u d _ h with h | ⟨m, _⟩
  · exact h
  · exact m.elim
def srcK (f : M R) : M (List D) := mbind (mbind f toSh) fun d ρ => match d with
  | .dict kvs => some (.ok (kvs.map (·.1), ρ))
  | _ => none
def srcIt (f : M R) : M (List D) := mbind (mbind f toSh) fun d ρ => match d with
  | .dict kvs => some (.ok (kvs.map (fun p => .tuple [p.1, p.2]), ρ))
  | _ => none
theorem sndi_keys {te : TE} {f : M R} (h : SndE P w K Θ W te f) : SndI P w K Θ W (iKu P w te) (srcK f) := fun σ H Hm ρ fp ok res e Rr q => by
  rcases mbind_inv e with ⟨d, ρ1, e1, e⟩ | ⟨er, e1, rfl⟩
  · refine snd_d h σ H Hm ρ fp ok _ e1 _ ?_
    intro v H1 Hm1 fp1 Fo ok1 hr d1 g1
    obtain ⟨hr, rfl⟩ := hr
    rw [orF_noF] at g1
    split at e
    · rename_i kvs
      cases e
      obtain ⟨d, u, kl, vl, rfl, en, mu, rd, rk, rv⟩ := rp_ent hr
      refine ⟨d, u, kl, vl, rfl, en, locked (Rr := fun o H => Rr (Iku d o u kl) H) ok1 rd mu fun o H2 Hm2 ok2 g2 hf => ?_⟩
      have hl := rk.length
      refine q _ H2 Hm2 fp1 ok2 (g1.trans g2) ⟨fun H => H d = some (.frz o u), YAt kl, ⟨fun i H hi hg => ⟨hg, by rw [hl]; exact hi⟩, fun H hg => ⟨hg, Nat.le_of_eq hl⟩, fun _ _ _ _ _ _ y => y⟩, fun H' Hm' u' s' => s' _ _ (up_frz u' hf), ?_⟩
      exact walk_at ((rk.up g2.sh)) fun _ _ _ _ y => y
    · cases e
  · refine snd_d h σ H Hm ρ fp ok _ e1 _ ?_
    obtain ⟨er, ρ1⟩ := er
    exact q
theorem sndi_items {te : TE} {f : M R} (h : SndE P w K Θ W te f) : SndI P w K Θ W (iIu P w te) (srcIt f) := fun σ H Hm ρ fp ok res e Rr q => by
  rcases mbind_inv e with ⟨d, ρ1, e1, e⟩ | ⟨er, e1, rfl⟩
  · refine snd_d h σ H Hm ρ fp ok _ e1 _ ?_
    intro v H1 Hm1 fp1 Fo ok1 hr d1 g1
    obtain ⟨hr, rfl⟩ := hr
    rw [orF_noF] at g1
    split at e
    · rename_i kvs
      cases e
      obtain ⟨d, u, kl, vl, rfl, en, mu, rd, rk, rv⟩ := rp_ent hr
      refine ⟨d, u, kl, vl, rfl, en, locked (Rr := fun o H => Rr (Iiu d o u kl vl) H) ok1 rd mu fun o H2 Hm2 ok2 g2 hf => ?_⟩
      have hl : kl.length = kvs.length := by have := rk.length; simpa using this
      refine q _ H2 Hm2 fp1 ok2 (g1.trans g2) ⟨fun H => H d = some (.frz o u), YPair (fun i => kl[i]?) (fun i => vl[i]?), ⟨fun i H hi hg => ⟨hg, by rw [hl]; simpa using hi⟩, fun H hg => ⟨hg, by simp [hl]⟩, fun i H x H' _ _ y => ?_⟩, fun H' Hm' u' s' => s' _ _ (up_frz u' hf), ?_⟩
      · obtain ⟨T, a, b, h1, h2, h3, h4, h5⟩ := y
        exact ⟨T, a, b, h3, h4, h5, h1, h2⟩
      · refine walk_pair (H1 := H2) (f1 := fun i => (kvs.map (·.1))[i]?) (f2 := fun i => (kvs.map (·.2))[i]?) (fun i hi => ?_) (fun i x d e1 e2 => ?_) (fun i x d e1 e2 => ?_)
        · have hi' : i < kvs.length := by simpa using hi
          exact ⟨kvs[i].1, kvs[i].2, by simp [hi'], by simp [hi'], by simp [hi']⟩
        · obtain ⟨x', e3, r⟩ := rk.get e2
          rw [e1] at e3; cases e3; exact r.up g2.sh
        · obtain ⟨x', e3, r⟩ := rv.get e2
          rw [e1] at e3; cases e3; exact r.up g2.sh
    · cases e
  · refine snd_d h σ H Hm ρ fp ok _ e1 _ ?_
    obtain ⟨er, ρ1⟩ := er
    exact q
theorem ci_keys {tg e : Expr} {f : M R} (h : CE Θ X W e f) : CI Θ X W tg e (srcK f) := let ⟨_, a, b⟩ := h; ⟨_, pi_ku a, sndi_keys b⟩
theorem ci_items {elts : List Expr} {kk : Nat} {tpos : Pos} {e : Expr} {f : M R} {apos cpos : Pos} (h : CE Θ X W e f) (hbase : attributeBase e "items" X.env (eval e X.env) = eval e X.env := by rfl) (hline : (apos.endLine == cpos.line) = true := by rfl) : CI Θ X W (.Tuple elts kk tpos) (.Call (.Attribute e "items" apos) [] [] cpos) (srcIt f) :=
  let ⟨_, a, b⟩ := h; ⟨_, pi_iu a hbase hline, sndi_items b⟩
/-- a name's items: of a list, of a dict, of a tuple, of a text -/
def srcAny (f : M R) : M (List D) := orM (srcL f) (orM (srcK f) (orM (srcT f) (srcS f)))
theorem ci_any {tg e : Expr} {f : M R} (h : CE Θ X W e f) : CI Θ X W tg e (srcAny f) := ci_or (ci_list h) (ci_or (ci_keys h) (ci_or (ci_tup h) (ci_str h)))
end
end Wl

/- text WlP -/
set_option Elab.async false
set_option maxRecDepth 100000
namespace Wl
open PySem PySem.Spec L2
open PyProof.Rows hiding St

section
variable {P : Program} {w : World} {K : PySem.W.Frag} {Θ : Nat → ObSem} {W : WX} {X : Cx} {io : List Nat}
/-! ### order of data that are alike -/
def ordOk (d d' : D) : Bool := d.canLay0 && d'.canLay0 && PySem.W.alike d d' && !(match d with | .none => true | _ => false) && decide (d.depth ≤ 60)
theorem ordOk_of {d d' : D} (h : ordOk d d' = true) : d.canLay0 = true ∧ d'.canLay0 = true ∧ PySem.W.alike d d' = true ∧ d ≠ .none ∧ d.depth ≤ 60 := by
  unfold ordOk at h
  simp only [Bool.and_eq_true, decide_eq_true_eq] at h
  obtain ⟨⟨⟨⟨h1, h2⟩, h3⟩, h4⟩, h5⟩ := h
  exact ⟨h1, h2, h3, (fun z => by subst z; cases h4), h5⟩
/-- c: what is told of the order -/
def rOrd (K : PySem.W.Frag) (c : D → D → Bool) : R2 := fun x y H Q => ∃ d d', Dp K H x d ∧ Dp K H y d' ∧ ordOk d d' = true ∧ Q (.bl (c d d')) H
def cLt : D → D → Bool := fun d d' => PySem.W.dataLt d d'
def cGt : D → D → Bool := fun d d' => PySem.W.dataLt d' d
def cLe : D → D → Bool := fun d d' => !PySem.W.dataLt d' d
def cGe : D → D → Bool := fun d d' => !PySem.W.dataLt d d'
def roomO (hu : X.A.units + 64 < cLine) {d d' : D} (h : d.depth ≤ 60) : X.A.units + min d.depth d'.depth < cLine := by omega
theorem or_ordLt (hu : X.A.units + 64 < cLine) : OpR X (compareOp .Lt) (rOrd X.K cLt) := fun pins s σ H x y v u Q I rx ry ⟨d, d', h1, h2, c, q⟩ => by
  obtain ⟨c1, c2, c3, c4, c5⟩ := ordOk_of c
  obtain ⟨as, r1⟩ := Dp.reads I d x v h1 rx
  obtain ⟨bs, r2⟩ := Dp.reads I d' y u h2 ry
  exact PySem.W.lt_data r1 r2 c3 c4 (roomO hu c5) ⟨.bl _, H, I, rfl, q⟩
theorem or_ordGt (hu : X.A.units + 64 < cLine) : OpR X (compareOp .Gt) (rOrd X.K cGt) := fun pins s σ H x y v u Q I rx ry ⟨d, d', h1, h2, c, q⟩ => by
  obtain ⟨c1, c2, c3, c4, c5⟩ := ordOk_of c
  obtain ⟨as, r1⟩ := Dp.reads I d x v h1 rx
  obtain ⟨bs, r2⟩ := Dp.reads I d' y u h2 ry
  exact PySem.W.gt_data r1 r2 c3 c4 (roomO hu c5) ⟨.bl _, H, I, rfl, q⟩
theorem or_ordLe (hu : X.A.units + 64 < cLine) : OpR X (compareOp .LtE) (rOrd X.K cLe) := fun pins s σ H x y v u Q I rx ry ⟨d, d', h1, h2, c, q⟩ => by
  obtain ⟨c1, c2, c3, c4, c5⟩ := ordOk_of c
  obtain ⟨as, r1⟩ := Dp.reads I d x v h1 rx
  obtain ⟨bs, r2⟩ := Dp.reads I d' y u h2 ry
  exact PySem.W.le_data r1 r2 c3 c4 (roomO hu c5) ⟨.bl _, H, I, rfl, q⟩
theorem or_ordGe (hu : X.A.units + 64 < cLine) : OpR X (compareOp .GtE) (rOrd X.K cGe) := fun pins s σ H x y v u Q I rx ry ⟨d, d', h1, h2, c, q⟩ => by
  obtain ⟨c1, c2, c3, c4, c5⟩ := ordOk_of c
  obtain ⟨as, r1⟩ := Dp.reads I d x v h1 rx
  obtain ⟨bs, r2⟩ := Dp.reads I d' y u h2 ry
  exact PySem.W.ge_data r1 r2 c3 c4 (roomO hu c5) ⟨.bl _, H, I, rfl, q⟩
def dOrd (c : D → D → Bool) : List D → Option D := fun ds => match ds with
  | [d, d'] => if ordOk d d' = true then some (.bool (c d d')) else none
  | _ => none
theorem sc_ord {c : D → D → Bool} : ScOk P w K (r2 (rOrd K c)) (dOrd c) := fun H vs ds r hs e Q q => by
  unfold dOrd at e
  split at e
  · rename_i d d'
    split at e
    · rename_i h
      cases e
      obtain ⟨v, u, rfl, a1, a2⟩ := rp2 hs
      obtain ⟨c1, c2, _⟩ := ordOk_of h
      exact ⟨d, d', a1.dp d c1, a2.dp d' c2, h, q _ fun _ => .bl _⟩
    · cases e
  · cases e
theorem uO {k : Nat} (hr : Room k X.A) : X.A.units + 64 < cLine := hr.units
/-- <, <=, >, >= of any data -/
theorem ce_ltA {k : Nat} {a b : Expr} {f g : M R} {pos : Pos} (hr : Room k X.A) (ha : CE Θ X W a f) (hb : CE Θ X W b g) (hm : behindInMarks .Lt b = false := by exact nomark _) : CE Θ X W (.Compare a [.Lt] [b] pos) (e2 (oSc (dOrd cLt)) f g) := ce_cmp (opOk_sc sc_ord) (or_ordLt (uO hr)) ha hb hm
theorem ce_gtA {k : Nat} {a b : Expr} {f g : M R} {pos : Pos} (hr : Room k X.A) (ha : CE Θ X W a f) (hb : CE Θ X W b g) (hm : behindInMarks .Gt b = false := by exact nomark _) : CE Θ X W (.Compare a [.Gt] [b] pos) (e2 (oSc (dOrd cGt)) f g) := ce_cmp (opOk_sc sc_ord) (or_ordGt (uO hr)) ha hb hm
theorem ce_leA {k : Nat} {a b : Expr} {f g : M R} {pos : Pos} (hr : Room k X.A) (ha : CE Θ X W a f) (hb : CE Θ X W b g) (hm : behindInMarks .LtE b = false := by exact nomark _) : CE Θ X W (.Compare a [.LtE] [b] pos) (e2 (oSc (dOrd cLe)) f g) := ce_cmp (opOk_sc sc_ord) (or_ordLe (uO hr)) ha hb hm
theorem ce_geA {k : Nat} {a b : Expr} {f g : M R} {pos : Pos} (hr : Room k X.A) (ha : CE Θ X W a f) (hb : CE Θ X W b g) (hm : behindInMarks .GtE b = false := by exact nomark _) : CE Θ X W (.Compare a [.GtE] [b] pos) (e2 (oSc (dOrd cGe)) f g) := ce_cmp (opOk_sc sc_ord) (or_ordGe (uO hr)) ha hb hm

/-! ### a <= b <= c -/
def dC2 (c c' : D → D → Bool) (fa fb fc : M R) : M R := mbind (mbind fa toSh) fun d => mbind (mbind fb toSh) fun d' => if ordOk d d' = true then (if c d d' = true then mbind (mbind fc toSh) fun d'' ρ => if ordOk d' d'' = true then some (.ok (.v (.sh (.bool (c' d' d''))), ρ)) else none else mpure (.v (.sh (.bool false)))) else fun _ => none
theorem snd_chain {c c' : D → D → Bool} {ta tb tc : TE} {fa fb fc : M R} (ha : SndE P w K Θ W ta fa) (hb : SndE P w K Θ W tb fb) (hc : SndE P w K Θ W tc fc) : SndE P w K Θ W (tChain (rOrd K c) (rOrd K c') ta tb tc) (dC2 c c' fa fb fc) := fun σ H Hm ρ fp ok res e Q q => by
  have er : ∀ {H1 Hm1 : Hp} {fp1 : Nat → Fp} {er : Ex × Env} {F : Fp}, res = .error er → Grow H Hm (all fp) H1 Hm1 (orF (all fp1) F) → Post P w K Θ (relE P w K Θ) W σ H1 Hm1 (all fp1) Q res := fun _ g => q.grow g
  rcases mbind_inv e with ⟨d, ρ1, e1, e⟩ | ⟨er0, e1, rfl⟩
  · refine snd_d ha σ H Hm ρ fp ok _ e1 _ ?_
    intro x H1 Hm1 fp1 F1 ok1 hx d1 g1
    obtain ⟨hx, rfl⟩ := hx
    rcases mbind_inv e with ⟨d', ρ2, e2, e⟩ | ⟨er0, e2, rfl⟩
    · refine snd_d hb σ H1 Hm1 ρ1 fp1 ok1 _ e2 _ ?_
      intro y H2 Hm2 fp2 F2 ok2 hy d2 g2
      obtain ⟨hy, rfl⟩ := hy
      have q2 := (q.grow g1).grow g2
      split at e
      · rename_i o1
        obtain ⟨c1, c2, _⟩ := ordOk_of o1
        refine ⟨d, d', ((hx.up g2.sh).same ok2.sub).dp d c1, (hy.same ok2.sub).dp d' c2, o1, c d d', rfl, ?_⟩
        split at e
        · rename_i b1
          rw [if_pos b1]
          rcases mbind_inv e with ⟨d'', ρ3, e3, e⟩ | ⟨er0, e3, rfl⟩
          · refine snd_d hc σ H2 Hm2 ρ2 fp2 ok2 _ e3 _ ?_
            intro z H3 Hm3 fp3 F3 ok3 hz d3 g3
            obtain ⟨hz, rfl⟩ := hz
            have q3 := q2.grow g3
            split at e
            · rename_i o2
              cases e
              obtain ⟨c3, c4, _⟩ := ordOk_of o2
              refine ⟨d', d'', ((hy.up g3.sh).same ok3.sub).dp d' c3, (hz.same ok3.sub).dp d'' c4, o2, ?_⟩
              exact q3 _ H3 Hm3 fp3 noF ok3 ⟨.bl _, rfl⟩ (fun _ z => z.elim) (by rw [orF_noF]; exact Grow.refl)
            · cases e
          · refine snd_d hc σ H2 Hm2 ρ2 fp2 ok2 _ e3 _ ?_
            exact q2
        · rename_i b1
          cases e
          rw [if_neg b1]
          exact q2 _ H2 Hm2 fp2 noF ok2 ⟨.bl _, rfl⟩ (fun _ z => z.elim) (by rw [orF_noF]; exact Grow.refl)
      · cases e
    · refine snd_d hb σ H1 Hm1 ρ1 fp1 ok1 _ e2 _ ?_
      exact q.grow g1
  · refine snd_d ha σ H Hm ρ fp ok _ e1 _ ?_
    exact q
theorem ce_chainLe {k : Nat} {a b c : Expr} {fa fb fc : M R} {pos : Pos} (hr : Room k X.A) (ha : CE Θ X W a fa) (hb : CE Θ X W b fb) (hc : CE Θ X W c fc) (hm : lastMarks [.LtE, .LtE] [b, c] = false := by with_unfolding_all rfl) : CE Θ X W (.Compare a [.LtE, .LtE] [b, c] pos) (dC2 cLe cLe fa fb fc) :=
  let ⟨_, a1, a2⟩ := ha; let ⟨_, b1, b2⟩ := hb; let ⟨_, c1, c2⟩ := hc
  ⟨_, pe_chain (or_ordLe (uO hr)) (or_ordLe (uO hr)) a1 b1 c1 hm, snd_chain a2 b2 c2⟩
theorem ct_chainLe {k : Nat} {a b c : Expr} {fa fb fc : M R} {pos : Pos} (hr : Room k X.A) (ha : CE Θ X W a fa) (hb : CE Θ X W b fb) (hc : CE Θ X W c fc) (hm : lastMarks [.LtE, .LtE] [b, c] = false := by with_unfolding_all rfl) : CT Θ X W (.Compare a [.LtE, .LtE] [b, c] pos) (tBool (dC2 cLe cLe fa fb fc)) :=
  let ⟨_, a1, a2⟩ := ha; let ⟨_, b1, b2⟩ := hb; let ⟨_, c1, c2⟩ := hc
  ⟨_, pt_chain (or_ordLe (uO hr)) (or_ordLe (uO hr)) a1 b1 c1 hm, snd_tB (snd_chain a2 b2 c2)⟩
/-! ### sorted -/
def alikeB (ds : List D) : Bool := ds.all fun d => ds.all fun d' => PySem.W.alike d d'
def isTup1 : D → Bool
  | .tuple (_ :: _) => true
  | _ => false
def noTup : D → Bool
  | .none => false
  | .tuple _ => false
  | _ => true
def sortOk (ds : List D) : Bool := PyData.canLayAll0 ds && alikeB ds && (ds.all isTup1 || ds.all noTup) && ds.all (fun d => decide (d.depth ≤ 60)) && decide (ds.length ≤ sizeLine)
def leD : D → D → Bool := PySem.W.dataLe false id
theorem sortOk_of {ds : List D} (h : sortOk ds = true) : PyData.canLayAll0 ds = true ∧ PySem.W.AllAlike ds ∧ PySem.W.Sortable ds ∧ (∀ d ∈ ds, d.depth ≤ 60) ∧ ds.length ≤ sizeLine := by
  unfold sortOk alikeB at h
  simp only [Bool.and_eq_true, decide_eq_true_eq, List.all_eq_true, Bool.or_eq_true] at h
  obtain ⟨⟨⟨⟨h1, h2⟩, h3⟩, h4⟩, h5⟩ := h
  refine ⟨h1, fun d hd d' hd' => h2 d hd d' hd', ?_, h4, h5⟩
  rcases h3 with h3 | h3
  · refine .inl fun d hd => ?_
    have := h3 d hd
    cases d with
    | tuple l => cases l with
      | nil => cases this
      | cons x r => exact ⟨x, r, rfl⟩
    | _ => cases this
  · refine .inr fun d hd => ?_
    have := h3 d hd
    cases d <;> first | (cases this; done) | exact ⟨(by intro z; cases z), (by intro xs z; cases z)⟩
/-- from its items: a list, or a dict's keys -/
def rSrt (P : Program) (w : World) (K : PySem.W.Frag) : List V → Hp → VK → Prop := fun vs H Q => ∃ (a : Addr) (bs : List (V × D)), vs = [.ref a] ∧
  (SqL K H a (bs.map (·.1)) ∨ ∃ u vl, Rd H a u ∧ Ent P w a u (bs.map (·.1)) vl) ∧ DpAll K H (bs.map (·.1)) (bs.map (·.2)) ∧ sortOk (bs.map (·.2)) = true ∧
  ∀ p, H p = none → Q (.ref p) (upd H p (.lst ((bs.mergeSort (PySem.W.dataLe false Prod.snd)).map (·.1))))
theorem dpAll_reads {pins : List (Addr × Obj)} {σ : L2.St} {H : Hp} {s : Shared} (I : Inv X pins σ H s) : ∀ {bs : List (V × D)} {us : List Value}, DpAll X.K H (bs.map (·.1)) (bs.map (·.2)) → Vals (bs.map (·.1)) us → PySem.W.EachIs (fun (u : Value) (b : V × D) => RelV b.1 u ∧ ∃ as, Reads s.heap u b.2 as) us bs
  | [], _, _, .nil => .nil
  | b :: bs, _, .cons h1 h2, .cons r1 r2 => .cons ⟨r1, Dp.reads I _ _ _ h1 r1⟩ (dpAll_reads I h2 r2)
theorem each_vals {us : List Value} {bs : List (V × D)} (h : PySem.W.EachIs (fun (u : Value) (b : V × D) => RelV b.1 u) us bs) : Vals (bs.map (·.1)) us := by
  induction h with
  | nil => exact .nil
  | cons a _ ih => exact .cons a ih
theorem cr_srt (hu : X.A.units + 70 < cLine) (hh : X.calm = true) : CallR X (.builtin "sorted") (rSrt X.prog X.w X.K) := by
  intro pins s σ H vs us Q I r ⟨a, bs, e, src, hd, ok, q⟩
  subst e
  rw [Vals.ref1 r]
  obtain ⟨_, hal, hso, hdep, hlen⟩ := sortOk_of ok
  rw [List.length_map] at hlen
  have bound : ∀ b ∈ bs, X.A.units + 2 + (b.2).depth < cLine := fun b hb => by
    have := hdep b.2 (List.mem_map.mpr ⟨b, hb, rfl⟩)
    omega
  rcases src with src | ⟨u, vl, rd, en⟩
  · obtain ⟨its, rv, hl, _⟩ := I.list src
    have ea := dpAll_reads I hd rv
    refine PySem.W.sorted_data (R := fun (u : Value) (b : V × D) => RelV b.1 u) (enc := Prod.snd) (bs := bs) (vs := its) hl.isList (ea.mono fun _ _ z => z.1) (ea.mono fun _ _ z => z.2) hal hso hlen bound fun out hol ho => ?_
    obtain ⟨ep, he'⟩ := PyProof.Rows.sortedAll_at s.heap its out.toArray
    have hv := each_vals ho
    have hn : ((bs.mergeSort (PySem.W.dataLe false Prod.snd)).map (·.1)).length ≤ sizeLine := by rw [List.length_map, List.length_mergeSort]; exact hlen
    exact ⟨.ref _, upd H (s.heap.objs.size + 1) (.lst ((bs.mergeSort (PySem.W.dataLe false Prod.snd)).map (·.1))), I.laid (t' := s.toks) (fun _ _ => PyProof.Rows.sortedAll_old) (Nat.le_succ _) ⟨hn, out, ep, hv, by simpa using he'⟩, rfl, q _ (I.hok.fresh (Nat.le_succ _))⟩
  · obtain ⟨lo, o, es, ep, h1, h2, h3, h4, hk, hv⟩ := rd_ent I rd en
    have hln : bs.length = es.size := by have := hk.length; simpa using this
    have hraw : s.heap.DictRaw a es ep := ⟨o, h1, h2, h3⟩
    refine Calls.call_function_entry PyProof.Rows.kind_sorted PyProof.Rows.plain_sorted PyProof.Rows.entry_sorted (PyProof.Rows.args_sorted1 _) ?_
    unfold Builtin.«sorted»
    refine wpAny_bind (m := checkCount "sorted" 1 1 _) (wpAny_pure (wpAny_bind (PySem.W.kdu_collect (A := X.A.in1) (PySem.KdlSrc.rawDict lo) (I.ok.hd hh) hraw h4 fun h' tk acc hkp hacc => ?_)))
    have hits : acc.toList = es.toList.map (·.key) := by
      refine List.ext_getElem? fun i => ?_
      by_cases hi : i < es.size
      · have hi' : i < acc.toList.length := by rw [Array.length_toList, hacc.1]; exact hi
        obtain ⟨hj, ej⟩ := hacc.2 i (acc.toList[i]) (by rw [← Array.getElem?_toList]; exact List.getElem?_eq_getElem hi')
        rw [List.getElem?_eq_getElem hi', ej]
        simp [hi]
      · rw [List.getElem?_eq_none (by rw [Array.length_toList, hacc.1]; omega), List.getElem?_eq_none (by simp; omega)]
    have rv : Vals (bs.map (·.1)) acc.toList := by rw [hits]; exact hk
    have hal2 : acc.toList.length ≤ sizeLine := by rw [Array.length_toList, hacc.1]; exact h4
    have I1 : Inv X pins σ H { s with heap := h', toks := tk } := I.kept hkp
    refine wpAny_bind (wpAny_newList ?_ hal2)
    have hoL : (h'.push (seqObj "list" acc.toList.toArray 0)).get? h'.objs.size = some (seqObj "list" acc.toList.toArray 0) := Heap.get?_push_size _ rfl
    show wpAny _ _ _ _ _ { s with heap := h'.push (seqObj "list" acc.toList.toArray 0), toks := tk }
    have old : ∀ b ob, h'.get? b = some ob → (PySem.W.sortingHeap (h'.push (seqObj "list" acc.toList.toArray 0)) h'.objs.size acc.toList).get? b = some ob := fun b ob z => PySem.W.sortingHeap_old (Nat.ne_of_lt (Heap.lt_size z)) (Heap.get?_push_of_some _ z)
    have ea := dpAll_reads I1 hd rv
    have er : PySem.W.EachIs (fun v (b : V × D) => ∃ as, Reads (PySem.W.sortingHeap (h'.push (seqObj "list" acc.toList.toArray 0)) h'.objs.size acc.toList) v b.2 as) acc.toList bs := ea.mono fun _ _ z => let ⟨as, r⟩ := z.2; ⟨as, PyProof.Rows.Reads.keeps old r⟩
    have S := PySem.W.SortsAt.data (prog := X.prog) (w := X.w) (A := X.A.in1.in1) (s := { s with heap := PySem.W.sortingHeap (h'.push (seqObj "list" acc.toList.toArray 0)) h'.objs.size acc.toList, toks := tk }) (PySem.W.each_map (R := fun v d => ∃ as, Reads (PySem.W.sortingHeap (h'.push (seqObj "list" acc.toList.toArray 0)) h'.objs.size acc.toList) v d as) Prod.snd er) hal hso (PySem.W.bound_map bound)
    refine wpAny_bind (wpAny_holding (wpAny_call_entry PyProof.Rows.slot_list_sort ⟨_, hoL, rfl⟩ PyProof.Rows.entry_list_sort (PySem.W.list_sort_vals (s := { s with heap := h'.push (seqObj "list" acc.toList.toArray 0), toks := tk }) hoL S hal2 ⟨_, rfl, wpAny_pure ⟨_, rfl, ?_⟩⟩) (PyProof.Rows.args_list_sort _)))
    have ho := PySem.W.sortVals_data (R := fun (u : Value) (b : V × D) => RelV b.1 u) false (ea.mono fun _ _ z => z.1) er hal
    have hv := each_vals ho
    obtain ⟨ep', he'⟩ := PyProof.Rows.sortedHeap_at (vs := acc.toList) (out := (PySem.W.sortVals (PySem.W.dataKind (PySem.W.sortingHeap (h'.push (seqObj "list" acc.toList.toArray 0)) h'.objs.size acc.toList) (bs.map Prod.snd)) false acc.toList acc.toList).toArray) hoL
    have hn : ((bs.mergeSort (PySem.W.dataLe false Prod.snd)).map (·.1)).length ≤ sizeLine := by rw [List.length_map, List.length_mergeSort]; exact hlen
    refine ⟨.ref _, upd H h'.objs.size (.lst ((bs.mergeSort (PySem.W.dataLe false Prod.snd)).map (·.1))), I1.laid (t' := tk) (fun b ob z => ?_) (Nat.le_refl _) ⟨hn, _, ep', hv, he'⟩, rfl, q _ (I1.hok.fresh (Nat.le_refl _))⟩
    rw [PyProof.Rows.sortedHeap_old (Nat.ne_of_lt (Heap.lt_size z)) (Heap.lt_size (Heap.get?_push_of_some _ z))]
    exact Heap.get?_push_of_some _ z
def sortD (ds : List D) : List D := ds.mergeSort leD
def itemsOf : O → Option (List D)
  | .sh (.list ds) => some ds
  | .ol ds => some ds
  | .sh (.dict kvs) => some (kvs.map (·.1))
  | .od _ kvs => some (kvs.map (·.1))
  | _ => none
def oSorted : List O → Option O := fun os => match os with
  | [o] => match itemsOf o with
    | some ds => if sortOk ds = true then some (.ol (sortD ds)) else none
    | none => none
  | _ => none
theorem dAt_ent {H Hm : Hp} {a : Addr} {kvs : List (D × D)} (h : DAt P w K H Hm a kvs) : ∃ u kl vl, Ent P w a u kl vl ∧ Mut (some u) ∧ Rd H a u ∧ RpL P w K Hm kl (kvs.map (·.1)) ∧ RpL P w K Hm vl (kvs.map (·.2)) := by
  rcases h with ⟨ks, h1, h2⟩ | ⟨xs, h1, h2⟩
  · obtain ⟨a, b⟩ := rpK_lists h2
    exact ⟨_, _, _, .inl ⟨_, rfl, rfl, rfl⟩, trivial, h1, a, b⟩
  · obtain ⟨vl, a, b, c⟩ := rpN_lists h2
    exact ⟨_, _, _, .inr ⟨_, rfl, rfl, a⟩, trivial, h1, b, c⟩
theorem zipVD {Hm : Hp} : ∀ {vs : List V} {ds : List D}, RpL P w K Hm vs ds → ∃ bs : List (V × D), vs = bs.map (·.1) ∧ ds = bs.map (·.2) ∧ ∀ b ∈ bs, Rp P w K Hm b.1 b.2
  | _, _, .nil => ⟨[], rfl, rfl, fun _ h => by simp at h⟩
  | _, _, .cons (v := v) (d := d) h r => by
    obtain ⟨bs, rfl, rfl, hb⟩ := zipVD r
    refine ⟨(v, d) :: bs, rfl, rfl, fun b hb' => ?_⟩
    rcases List.mem_cons.mp hb' with z | z
    · rw [z]; exact h
    · exact hb b z
theorem rpL_zip {Hm : Hp} : ∀ {bs : List (V × D)}, (∀ b ∈ bs, Rp P w K Hm b.1 b.2) → RpL P w K Hm (bs.map (·.1)) (bs.map (·.2))
  | [], _ => .nil
  | b :: bs, h => .cons (h b (List.mem_cons_self ..)) (rpL_zip fun x hx => h x (List.mem_cons_of_mem _ hx))
theorem opOk_sorted : OpOk P w K Θ (rSrt P w K) oSorted := fun H Hm vs os o s hs e Q q => by
  unfold oSorted at e
  split at e
  · rename_i o1
    cases e1 : itemsOf o1 with
    | none => rw [e1] at e; cases e
    | some ds =>
      rw [e1] at e
      simp only at e
      split at e
      · rename_i hok
        cases e
        obtain ⟨v, rfl, F1, h1⟩ := oo1 hs
        have main : ∃ a vl, v = .ref a ∧ RpL P w K Hm vl ds ∧ (SqL K H a vl ∨ ∃ u vl', Rd H a u ∧ Ent P w a u vl vl') := by
          cases hl : asL o1 with
          | some l =>
            obtain ⟨a, xs, rfl, h2, h3⟩ := asL_ok h1 s hl
            have : l = ds := by
              cases o1 with
              | sh d => cases d <;> first | (cases hl; done) | (cases hl; cases e1; rfl)
              | ol l' => cases hl; cases e1; rfl
              | od _ _ => cases hl
              | ob _ _ => cases hl
            subst this
            exact ⟨a, xs, rfl, h3, .inl h2⟩
          | none =>
            cases hd : asDc o1 with
            | some kvs =>
              obtain ⟨a, rfl, h2⟩ := asDc_ok h1 s hd
              obtain ⟨u, kl, vl, h3, _, h4, h5, _⟩ := dAt_ent h2
              have : ds = kvs.map (·.1) := by
                cases o1 with
                | sh d => cases d <;> first | (cases hd; done) | (cases hd; cases e1; rfl)
                | ol l' => cases hd
                | od _ _ => cases hd; cases e1; rfl
                | ob _ _ => cases hd
              subst this
              exact ⟨a, kl, rfl, h5, .inr ⟨u, vl, h4, h3⟩⟩
            | none =>
              exfalso
              cases o1 with
              | sh d => cases d <;> first | (cases hl; done) | (cases hd; done) | (cases e1; done)
              | ol l' => cases hl
              | od _ _ => cases hd
              | ob _ _ => cases e1
        obtain ⟨a, vl, rfl, hr, src⟩ := main
        obtain ⟨bs, rfl, rfl, hb⟩ := zipVD hr
        have dp := RpL.dp (P := P) (w := w) (bs.map (·.2)) (hr.same s) (sortOk_of hok).1
        refine ⟨a, bs, rfl, src, dp, hok, fun p hp => ?_⟩
        obtain ⟨f, hm⟩ := fresh_own (u := .lst ((bs.mergeSort (PySem.W.dataLe false Prod.snd)).map (·.1))) s hp
        refine q _ _ Hm (one p) f ⟨p, _, rfl, upd_same, hm, ?_, rfl⟩
        have e2 : sortD (bs.map (·.2)) = (bs.mergeSort (PySem.W.dataLe false Prod.snd)).map (·.2) := by
          unfold sortD
          exact (List.map_mergeSort (f := Prod.snd) (r := PySem.W.dataLe false Prod.snd) (s := leD) (fun a _ b _ => rfl)).symm
        rw [e2]
        exact rpL_zip fun b hb' => hb b (List.mem_mergeSort.mp hb')
      · cases e
  · cases e
theorem ce_sorted {k : Nat} {e : Expr} {f : M R} {p pos : Pos} (hr : Room k X.A) (hc : X.calm = true) (hg : Gl X "sorted") (hm : X.mg "sorted" = none) (ha : CE Θ X W e f) (hs1 : starEach [e] X.env = [(false, eval e X.env)] := by rfl) : CE Θ X W (.Call (.Name "sorted" p) [e] [] pos) (e1 oSorted f) :=
  ce_b opOk_sorted (cr_srt (by have := hr.un; omega) hc) hg hm (ca_cons ha ca_nil hs1) (he := hs1) (hpl := rfl)
/-! ### repr -/
def rRepr (K : PySem.W.Frag) : List V → Hp → VK → Prop := fun vs H Q => ∃ (a : Addr) (d : D), vs = [.ref a] ∧ Dp K H (.ref a) d ∧ d.canLay0 = true ∧ d.showable = true ∧ d.depth ≤ 60 ∧ d.shown.length ≤ sizeLine ∧ Q (.str d.shown) H
theorem cr_repr (hga : X.A.guards = some []) (hu : X.A.units + 70 < cLine) : CallR X (.builtin "repr") (rRepr X.K) := by
  intro pins s σ H vs us Q I r ⟨a, d, e, hd, c1, c2, c3, c4, q⟩
  subst e
  rw [Vals.ref1 r]
  obtain ⟨as, rd⟩ := Dp.reads I d _ _ hd (rfl : RelV (.ref a) (.ref a))
  exact repr_of_reads' rd c2 (PyData.noDict_hsm (PyData.hasDict_of_canLay d c1)) hga (by omega) (fun _ _ z => z) (fun h' u tk hk => ⟨.str d.shown, H, I.kept hk, ⟨_, rfl⟩, q⟩) c4
def dRepr : List D → Option D := fun ds => match ds with
  | [.list l] => if (PyData.list l).canLay0 && (PyData.list l).showable && decide ((PyData.list l).depth ≤ 60) && decide ((PyData.list l).shown.length ≤ sizeLine) then some (.str (PyData.list l).shown) else none
  | [.tuple l] => if (PyData.tuple l).canLay0 && (PyData.tuple l).showable && decide ((PyData.tuple l).depth ≤ 60) && decide ((PyData.tuple l).shown.length ≤ sizeLine) then some (.str (PyData.tuple l).shown) else none
  | _ => none
theorem sc_repr : ScOk P w K (rRepr K) dRepr := fun H vs ds r hs e Q q => by
  have fin : ∀ d, RpL P w K H vs [d] → (∃ a, ∀ v, vs = [v] → v = .ref a) → (d.canLay0 && d.showable && decide (d.depth ≤ 60) && decide (d.shown.length ≤ sizeLine)) = true → r = .str d.shown → rRepr K vs H Q := fun d hs ⟨a, ha⟩ c er => by
    subst er
    simp only [Bool.and_eq_true, decide_eq_true_eq] at c
    obtain ⟨⟨⟨c1, c2⟩, c3⟩, c4⟩ := c
    obtain ⟨v, rfl, h⟩ := rp1 hs
    obtain rfl := ha v rfl
    exact ⟨a, d, rfl, h.dp d c1, c1, c2, c3, c4, q _ fun _ => .str _⟩
  unfold dRepr at e
  split at e
  · rename_i l
    split at e
    · rename_i c
      cases e
      refine fin _ hs ?_ c rfl
      obtain ⟨v, rfl, h⟩ := rp1 hs
      cases h with
      | lst h1 h2 => exact ⟨_, fun v z => by cases z; rfl⟩
    · cases e
  · rename_i l
    split at e
    · rename_i c
      cases e
      refine fin _ hs ?_ c rfl
      obtain ⟨v, rfl, h⟩ := rp1 hs
      cases h with
      | tup h1 h2 => exact ⟨_, fun v z => by cases z; rfl⟩
    · cases e
  · cases e
theorem ce_repr {k : Nat} {e : Expr} {f : M R} {p pos : Pos} (hga : X.A.guards = some []) (hr : Room k X.A) (hg : Gl X "repr") (hm : X.mg "repr" = none) (ha : CE Θ X W e f) (hs1 : starEach [e] X.env = [(false, eval e X.env)] := by rfl) : CE Θ X W (.Call (.Name "repr" p) [e] [] pos) (e1 (oSc dRepr) f) :=
  ce_b (opOk_sc sc_repr) (cr_repr hga (by have := hr.un; omega)) hg hm (ca_cons ha ca_nil hs1) (he := hs1) (hpl := rfl)
/-! ### max of two ints, abs, int -/
def dMax2 : List D → Option D := fun ds => match ds with
  | [.int i, .int j] => some (.int (if j > i then j else i))
  | _ => none
def dAbs : List D → Option D := fun ds => match ds with
  | [.int i] => some (.int (if i < 0 then -i else i))
  | _ => none
def dMin2 : List D → Option D := fun ds => match ds with
  | [.int i, .int j] => some (.int (if j < i then j else i))
  | _ => none
def dInt : List D → Option D := fun ds => match ds with
  | [.int i] => some (.int i)
  | [.bool k] => some (.int (if k then 1 else 0))
  | _ => none
theorem ce_max2 {a b : Expr} {f g : M R} {p pos : Pos} (hc : X.calm = true) (hg : Gl X "max") (hm : X.mg "max" = none) (ha : CA Θ X W [a, b] (aCons f (aCons g aNil))) (he : starEach [a, b] X.env = (false, eval a X.env) :: starEach [b] X.env := by rfl) (hpl : (backTo pos (starEach [b] X.env)).any (·.1) = false := by rfl) : CE Θ X W (.Call (.Name "max" p) [a, b] [] pos) (e2 (oSc dMax2) f g) :=
  ce_b (opOk_sc fun H vs ds r hs e Q q => by
    unfold dMax2 at e
    split at e
    · cases e
      obtain ⟨v, u, rfl, a1, a2⟩ := rp2 hs
      cases a1; cases a2
      exact ⟨_, _, rfl, q _ fun _ => .int _⟩
    · cases e) (call_max2 hc) hg hm ha (he := he) (hpl := hpl)
theorem ce_min2 {a b : Expr} {f g : M R} {p pos : Pos} (hc : X.calm = true) (hg : Gl X "min") (hm : X.mg "min" = none) (ha : CA Θ X W [a, b] (aCons f (aCons g aNil))) (he : starEach [a, b] X.env = (false, eval a X.env) :: starEach [b] X.env := by rfl) (hpl : (backTo pos (starEach [b] X.env)).any (·.1) = false := by rfl) : CE Θ X W (.Call (.Name "min" p) [a, b] [] pos) (e2 (oSc dMin2) f g) :=
  ce_b (opOk_sc fun H vs ds r hs e Q q => by
    unfold dMin2 at e
    split at e
    · cases e
      obtain ⟨v, u, rfl, a1, a2⟩ := rp2 hs
      cases a1; cases a2
      exact ⟨_, _, rfl, q _ fun _ => .int _⟩
    · cases e) (call_min2 hc) hg hm ha (he := he) (hpl := hpl)
theorem ce_abs {a : Expr} {f : M R} {p pos : Pos} (hg : Gl X "abs") (hm : X.mg "abs" = none) (ha : CE Θ X W a f) (hs1 : starEach [a] X.env = [(false, eval a X.env)] := by rfl) : CE Θ X W (.Call (.Name "abs" p) [a] [] pos) (e1 (oSc dAbs) f) :=
  ce_b (opOk_sc fun H vs ds r hs e Q q => by
    unfold dAbs at e
    split at e
    · cases e
      obtain ⟨v, rfl, a1⟩ := rp1 hs
      cases a1
      exact ⟨_, rfl, q _ fun _ => .int _⟩
    · cases e) call_abs hg hm (ca_cons ha ca_nil hs1) (he := hs1) (hpl := rfl)
theorem ce_intOf {a : Expr} {f : M R} {p pos : Pos} (hg : Gl X "int") (hm : X.mg "int" = none) (ha : CE Θ X W a f) (hs1 : starEach [a] X.env = [(false, eval a X.env)] := by rfl) : CE Θ X W (.Call (.Name "int" p) [a] [] pos) (e1 (oSc dInt) f) :=
  ce_ty (opOk_sc fun H vs ds r hs e Q q => by
    unfold dInt at e
    split at e
    · cases e
      obtain ⟨v, rfl, a1⟩ := rp1 hs
      cases a1
      exact .inl ⟨_, rfl, q _ fun _ => .int _⟩
    · cases e
      obtain ⟨v, rfl, a1⟩ := rp1 hs
      cases a1
      exact .inr ⟨_, rfl, q _ fun _ => .int _⟩
    · cases e) call_int1 hg hm (ca_cons ha ca_nil hs1) (he := hs1) (hpl := rfl)
def dNeg : List D → Option D := fun ds => match ds with
  | [.int i] => some (.int (-i))
  | _ => none
theorem ce_neg {a : Expr} {f : M R} {pos : Pos} (ha : CE Θ X W a f) : CE Θ X W (.UnaryOp .USub a pos) (e1 (oSc dNeg) f) :=
  ce_un (opOk_sc fun H vs ds r hs e Q q => by
    unfold dNeg at e
    split at e
    · cases e
      obtain ⟨v, rfl, a1⟩ := rp1 hs
      cases a1
      exact ⟨_, rfl, q _ fun _ => .int _⟩
    · cases e) un_neg ha
end
end Wl

/- text WlQ -/
set_option Elab.async false
set_option maxRecDepth 100000
namespace Wl
open PySem PySem.Spec L2
open PyProof.Rows hiding St

section
variable {X : Cx}
/-! ### {k: v for .. in ..}, keys of any kind -/
def rDp (P : Program) (w : World) (K : PySem.W.Frag) (D : Addr) (i v : V) (H : Hp) (Q : Hp → Prop) : Prop := (∃ ks k, i = kV k ∧ H D = some (.dK ks) ∧ ks.length < sizeLine ∧ Q (upd H D (.dK (putK ks k v)))) ∨
  ∃ xs k q kd, i = .ref q ∧ (H D = some (.ext (nPhi P w D xs)) ∨ (xs = [] ∧ H D = some (.dK []))) ∧ (∀ y ∈ xs, KeyAt P w K H y) ∧ xs.length < sizeLine ∧ Rp P w K H (.ref q) kd ∧ nkey kd = some k ∧ k.depth ≤ 8 ∧ ∀ u, RelV v u → Q (upd H D (.ext (nPhi P w D (storedH xs k q u))))
theorem dp_set {pins : List (Addr × Obj)} {σ : L2.St} {H : Hp} {s : Shared} {E : Value → Shared → Prop} {D : Addr} {i v : V} {u r : Value} {Q : Hp → Prop} (hu : X.A.units + 20 < cLine) (I : Inv X pins σ H s) (ri : RelV i u) (rv : RelV v r) (h : rDp X.prog X.w X.K D i v H Q) :
    wpAny (model X.prog X.w) X.A (dictSet D u r) (fun _ s' => ∃ H', Inv X pins σ H' s' ∧ Q H') E s := by
  rcases h with ⟨ks, k, rfl, hD, hz, q⟩ | ⟨xs, k, qa, kd, rfl, hD, hks, hz, hq, hk, hd, q⟩
  · exact d_dictSet I hD hz ri rv fun s' I' => ⟨_, I', q⟩
  · cases ri
    have e' : NDict X.prog X.w H D xs := hD.imp (fun z => .inl z) fun z => ⟨z.1, .inl z.2⟩
    obtain ⟨h0, hl, dd⟩ := nd_of I e' hks
    refine wpAny_dictSet_heap (hsz := hl) (show X.A.units + 8 < cLine by omega) (n_key I hq hk hd) dd fun h' dd' hs => ?_
    obtain ⟨ob, es, ep, h1, h2, h3, h4, _, h5⟩ := dd'
    have hl' : (storedH xs k qa r).length ≤ sizeLine := by
      unfold storedH
      split
      · rw [List.length_map]; exact hl
      · rw [List.length_append]; exact hz
    exact ⟨upd H D (.ext (nPhi X.prog X.w D (storedH xs k qa r))), d_write I (by rcases hD with e | ⟨_, e⟩ <;> rw [e] <;> exact True.intro) hs ⟨ob, h1⟩ ⟨⟨h0, hl', ob, es, ep, h1, h2, h3, h4, h5⟩, ⟨ob, h1⟩, fun g1 g2 ⟨a1, a2, o', b1, b2, c1, c2, c3, c4, c5⟩ k => ⟨a1, a2, o', b1, b2, k _ c1, c2, c3, c4, c5⟩⟩, q r rv⟩
def tDq (P : Program) (w : World) (K : PySem.W.Frag) (wi : TI) (g : TG) (tt : TT) (tk tv : TE) (vs : List Nat) : TE := fun σ H Q => wi σ H fun J H1 => ∀ D, H1 D = none → ∃ W : Nat → Nat → Hp → Prop, (∃ m, W 0 m (upd H1 D (.dK []))) ∧ ∀ i m H, W i m H →
  (J.stop i H ∧ Q (.ref D) H) ∨ (J.go i H ∧ ∃ N : Hp → Prop, (∀ H', N H' → ∃ m', m' < m ∧ W (i + 1) m' H') ∧ ∀ x H', J.yld i H x H' → g x (wipe σ vs) H' fun σ2 H2 => wipe σ2 vs = wipe σ vs ∧ tt σ2 H2 fun b H3 =>
    if b = true then tk σ2 H3 fun y H4 => tv σ2 H4 fun z H5 => rDp P w K D y z H5 N else N H3)
variable {kx vx tg iter : Expr} {ifs : List Expr} {scope : Scope} {own : List (Str × Nat)} {pos : Pos} {wi : TI} {g : TG} {tt : TT} {tk tv : TE}
theorem dq_core {pins : List (Addr × Obj)} {s : Shared} {σ : L2.St} {H : Hp} {Q : VK} {pos' : Pos} {use : Option (Value → Sem Unit)} {Qf : Value → Shared → Prop} (hu : X.A.units + 20 < cLine) (hc : X.calm = true) (hN : X.N.Nodup) (I : Inv X pins σ H s) (hi : PI X tg iter wi) (ok : BlkOk X.N X.env.scope scope own)
    (hg : ∀ (s : Shared) (H : Hp) (C : Addr) (cl : List (Str × Addr)) (fp : List Addr), PG (X.blk s H scope (compEnvC scope cl C X.env) fp) tg g)
    (ht : ∀ (s : Shared) (H : Hp) (C : Addr) (cl : List (Str × Addr)) (fp : List Addr), PTs (X.blk s H scope (compEnvC scope cl C X.env) fp) ifs tt)
    (hk : ∀ (s : Shared) (H : Hp) (C : Addr) (cl : List (Str × Addr)) (fp : List Addr), PE (X.blk s H scope (compEnvC scope cl C X.env) fp) kx tk)
    (he : ∀ (s : Shared) (H : Hp) (C : Addr) (cl : List (Str × Addr)) (fp : List Addr), PE (X.blk s H scope (compEnvC scope cl C X.env) fp) vx tv) (hs : ∀ x, foldedSetIterable iter X.env x = pure x)
    (h : tDq X.prog X.w X.K wi g tt tk tv (own.map (·.2)) σ H Q)
    (hu2 : ∀ D C s' m H', Inv X pins σ H' s' → Q (.ref D) H' → s'.heap.Ns C m → FpOk X pins H' C → compPost (model X.prog X.w) X.A X.xe use Qf (.ref D) C (.ok .next) s') :
    wpAny (model X.prog X.w) X.A (comprehension (.DictComp kx vx [⟨tg, iter, ifs, 0⟩] scope pos) scope X.env pos' newDict false (eval iter X.env) use) Qf X.xe s := by
  have free : ∀ y ∈ scope.names, y.2 = .free → ∃ c, X.env.cells.lookup y.1 = some c := fun y hy z => (ok.free y hy z).elim (fun k => I.ok.has _ (.inl k)) fun k => I.ok.has _ (.inr k)
  refine wpAny_comprehension_free (use := use) rfl hs (closure_ok free) ok.kind (fun y hy z => by rw [ok.uniq y hy, z]) (thn (hi.run pins s σ H _ I h) fun xv s1 hx => thn hx fun itv s2 ⟨it, fp, tn, J, H2, e, I2, T, st2, f2, q⟩ => ?_)
  subst e
  refine wpAny_newObj_type (newEnv_comp ?_)
  -- the new dict
  generalize hD : s2.heap.objs.size = D
  have nD : H2 D = none := I2.hok.fresh (by rw [hD]; exact Nat.le_refl _)
  obtain ⟨W, ⟨m0, w0⟩, turn⟩ := q D nD
  generalize hs3 : ({ s2 with heap := s2.heap.push { cls := .type "dict", data := .dict #[] } } : Shared) = s3
  have hp3 : s3.heap = s2.heap.push { cls := .type "dict", data := .dict #[] } := by rw [← hs3]
  have I3 : Inv X pins σ (upd H2 D (.dK [])) s3 := by
    rw [← hs3]
    exact I2.laid (t' := s2.toks) (fun c o z => Heap.get?_push_of_some _ z) (by rw [hD]; exact Nat.le_refl _) (by rw [← hD]; exact dk_empty s2.heap I2.big)
  have low : ∀ c ∈ fp, c < s2.heap.objs.size := fun c hc' => let ⟨_, z, _⟩ := T.obj _ _ st2 c hc'; Heap.lt_size z
  have f3 : ∀ c ∈ fp, FpOk X pins (upd H2 D (.dK [])) c ∧ c < s3.heap.objs.size := fun c hc' => by
    refine ⟨⟨?_, (f2 c hc').2⟩, by rw [hp3, Heap.size_push]; exact Nat.lt_succ_of_lt (low c hc')⟩
    rw [upd_ne (by rw [← hD]; exact Nat.ne_of_lt (low c hc'))]
    exact (f2 c hc').1
  have st3 : tn 0 s3.heap := T.keep _ _ _ st2 fun c _ o z => by rw [hp3]; exact Heap.get?_push_of_some _ z
  have I4 := block_start I3 ok hN f3
  have pg := hg s3 (upd H2 D (.dK [])) s3.heap.objs.size (cellsFrom (s3.heap.objs.size + 1) scope.names (cloFrom X.env.cells scope.names [])) fp
  have pt := ht s3 (upd H2 D (.dK [])) s3.heap.objs.size (cellsFrom (s3.heap.objs.size + 1) scope.names (cloFrom X.env.cells scope.names [])) fp
  have pk := hk s3 (upd H2 D (.dK [])) s3.heap.objs.size (cellsFrom (s3.heap.objs.size + 1) scope.names (cloFrom X.env.cells scope.names [])) fp
  have pv := he s3 (upd H2 D (.dK [])) s3.heap.objs.size (cellsFrom (s3.heap.objs.size + 1) scope.names (cloFrom X.env.cells scope.names [])) fp
  have nfp : ∀ c ∈ fp, (upd H2 D (.dK [])) c = none := fun c hc' => (f3 c hc').1.1
  show codeAny _ _ (.compStart (.DictComp kx vx [⟨tg, iter, ifs, 0⟩] scope pos) 0 (.ref it) (.ref D) (compEnvC scope (cellsFrom (s3.heap.objs.size + 1) scope.names (cloFrom X.env.cells scope.names [])) s3.heap.objs.size X.env)) (compPost (model X.prog X.w) X.A X.xe use Qf (.ref D) s3.heap.objs.size) { s3 with heap := pushCells (s3.heap.push { cls := .type "dict", data := .dict #[] }) scope.names }
  generalize hce : compEnvC scope (cellsFrom (s3.heap.objs.size + 1) scope.names (cloFrom X.env.cells scope.names [])) s3.heap.objs.size X.env = ce at I4 pg pt pk pv ⊢
  have cl : ce.locals = s3.heap.objs.size := by subst hce; rfl
  generalize hH3 : upd H2 D (.dK []) = H3 at I3 I4 pg pt pk pv w0 nfp f3
  generalize hs4 : ({ s3 with heap := pushCells (s3.heap.push { cls := .type "dict", data := .dict #[] }) scope.names } : Shared) = s4 at I4 ⊢
  have st4 : tn 0 s4.heap := T.keep _ _ _ st3 fun c _ o z => by rw [← hs4]; exact pushCells_keeps _ _ _ _ (Heap.get?_push_of_some _ z)
  have fpo : ∀ {σ' : L2.St} {H' : Hp} {s' : Shared}, Inv (X.blk s3 H3 scope ce fp) [] σ' H' s' → (∀ c ∈ fp, H' c = none) → ∀ c ∈ fp, FpOk (X.blk s3 H3 scope ce fp) [] H' c := fun {σ' H' s'} I' hn c hc' =>
    ⟨hn c hc', (I'.ok.exf c hc').1, I'.ok.exfs c hc', .inl hc', fun x d z => (I'.ok.exf c hc').2 x d z, fun p hp => absurd (show p ∈ ([] : List (Addr × Obj)) ++ [] from hp) (by simp)⟩
  have loop : codeAny (model X.prog X.w) X.A (.compLoop (.DictComp kx vx [⟨tg, iter, ifs, 0⟩] scope pos) 0 (.ref it) (.ref D) ce) (compPost (model X.prog X.w) X.A X.xe use Qf (.ref D) s3.heap.objs.size) s4 := by
    refine compLoop_anyD (fun n s' => ∃ i H', Inv (X.blk s3 H3 scope ce fp) [] (wipe σ (own.map (·.2))) H' s' ∧ tn i s'.heap ∧ (∀ c ∈ fp, H' c = none) ∧ W i n H') ?_ m0 ⟨0, H3, I4, st4, nfp, w0⟩
    rintro n s5 ⟨i, H5, I5, st5, n5, w5⟩
    rcases turn i n H5 w5 with ⟨stop, qq⟩ | ⟨go, N, hN', step⟩
    · refine thnF (T.done (X.blk s3 H3 scope ce fp) rfl rfl rfl hc i [] s5 _ H5 (fun _ _ => False) I5 (fpo I5 n5) st5 stop) fun r s6 ⟨hr, I6⟩ => ?_
      subst hr
      have I7 : Inv X pins σ H5 s6 := I3.call' (ch := fp) I6.os I6.base I6.hok I6.bare fun c hc' => ⟨(f3 c hc').1.2.2.2.1, (f3 c hc').1.2.1, (f3 c hc').1.2.2.2.2.1, (f3 c hc').1.2.2.2.2.2⟩
      have nC : H5 s3.heap.objs.size = none := cl ▸ (I6.free : H5 ce.locals = none)
      obtain ⟨m, hn, _⟩ := I6.loc
      have hn : s6.heap.Ns ce.locals m := hn
      rw [cl] at hn
      exact hu2 D s3.heap.objs.size s6 m H5 I7 qq hn (I3.fpOk (Nat.le_refl _) nC)
    · refine thnF (T.item (X.blk s3 H3 scope ce fp) rfl rfl rfl hc i [] s5 _ H5 (fun _ _ => False) I5 (fpo I5 n5) st5 go) fun r s6 ⟨u, hr, h6⟩ => ?_
      subst hr
      refine thnF h6 fun _ s7 ⟨x, H7, I7, r7, y7, st7, n7⟩ => ?_
      refine thnF (pg.run _ s7 _ H7 x u _ (I7.pinned (fpo I7 n7) (T.obj _ _ st7)) r7 (step x H7 y7)) fun _ s8 ⟨σ8, H8, I8, hw8, q8⟩ => ?_
      refine thnF (pt.run _ s8 σ8 H8 _ I8 q8) fun b s9 ⟨H9, I9, q9⟩ => ?_
      have over : ∀ {s' : Shared} {H' : Hp}, Inv (X.blk s3 H3 scope ce fp) ([] ++ pinsAt fp s7.heap) σ8 H' s' → N H' → ∃ m, m < n ∧ ∃ i H', Inv (X.blk s3 H3 scope ce fp) [] (wipe σ (own.map (·.2))) H' s' ∧ tn i s'.heap ∧ (∀ c ∈ fp, H' c = none) ∧ W i m H' := fun {s' H'} I' nx => by
        obtain ⟨m', hm, w'⟩ := hN' H' nx
        have pin : ∀ c ∈ fp, ∀ o, s7.heap.get? c = some o → s'.heap.get? c = some o ∧ H' c = none := fun c hc' o z => let y := I'.pin (c, o) (List.mem_append_right _ (List.mem_append_right _ (mem_pinsAt hc' z))); ⟨y.1, y.2.1⟩
        refine ⟨m', hm, i + 1, H', (I'.unpinned (pins := [])).weak (by rw [← hw8, wipe_length]) (fun j v z => (wipe_some (by rw [hw8]; exact z)).1), T.keep _ _ _ st7 fun c hc' o z => (pin c hc' o z).1, fun c hc' => let ⟨o, z, _⟩ := T.obj _ _ st7 c hc'; (pin c hc' o z).2, w'⟩
      cases b with
      | false => exact over I9 q9
      | true =>
        refine thnF (pk.run _ s9 σ8 H9 _ I9 q9) fun z s10 ⟨yk, H10, I10, r10, q10⟩ => ?_
        refine thnF (pv.run _ s10 σ8 H10 _ I10 q10) fun z2 s11 ⟨yv, H11, I11, r11, q11⟩ => ?_
        refine wpAny_mono (dp_set (X := X.blk s3 H3 scope ce fp) (Q := N) hu I11 r10 r11 q11) (fun _ s12 ⟨H12, I12, nx⟩ => over I12 nx) fun _ _ z => z
  exact codeAny_compStart_dict loop (T.self X.A 0 _ _ _ st4 loop)
theorem pe_dq (hu : X.A.units + 20 < cLine) (hc : X.calm = true) (hN : X.N.Nodup) (hi : PI X tg iter wi) (ok : BlkOk X.N X.env.scope scope own)
    (hg : ∀ (s : Shared) (H : Hp) (C : Addr) (cl : List (Str × Addr)) (fp : List Addr), PG (X.blk s H scope (compEnvC scope cl C X.env) fp) tg g)
    (ht : ∀ (s : Shared) (H : Hp) (C : Addr) (cl : List (Str × Addr)) (fp : List Addr), PTs (X.blk s H scope (compEnvC scope cl C X.env) fp) ifs tt)
    (hk : ∀ (s : Shared) (H : Hp) (C : Addr) (cl : List (Str × Addr)) (fp : List Addr), PE (X.blk s H scope (compEnvC scope cl C X.env) fp) kx tk)
    (he : ∀ (s : Shared) (H : Hp) (C : Addr) (cl : List (Str × Addr)) (fp : List Addr), PE (X.blk s H scope (compEnvC scope cl C X.env) fp) vx tv) (hs : ∀ x, foldedSetIterable iter X.env x = pure x := by intro _; rfl) :
    PE X (.DictComp kx vx [⟨tg, iter, ifs, 0⟩] scope pos) (tDq X.prog X.w X.K wi g tt tk tv (own.map (·.2))) := by
  refine ⟨fun pins s σ H Q I h => ?_⟩
  rw [arm_eval_DictComp]
  refine dq_core hu hc hN I hi ok hg ht hk he hs h fun D C s' m H' I' q hn ⟨f0, f1, f2, f3, f4, f5⟩ => ⟨m, hn, fun h'' sb => ?_⟩
  exact ⟨.ref D, H', I'.turned (t' := s'.toks) (fun c o hb z => (sb.2 c hb).trans z) f0 f1 f3 f4 f5, rfl, q⟩
/-- y = {..} on one line, y a plain local -/
theorem ps_setDq {i : Nat} {y : Str} {py spos : Pos} (hu : X.A.units + 20 < cLine) (hc : X.calm = true) (hN : X.N.Nodup) (hy : X.N[i]? = some y) (hyl : X.env.scope.names.lookup y = some .local) (hsw : swapsWith (.DictComp kx vx [⟨tg, iter, ifs, 0⟩] scope pos) (some (.Name y py)) spos.line X.env = pure true) (hi : PI X tg iter wi) (ok : BlkOk X.N X.env.scope scope own)
    (hg : ∀ (s : Shared) (H : Hp) (C : Addr) (cl : List (Str × Addr)) (fp : List Addr), PG (X.blk s H scope (compEnvC scope cl C X.env) fp) tg g)
    (ht : ∀ (s : Shared) (H : Hp) (C : Addr) (cl : List (Str × Addr)) (fp : List Addr), PTs (X.blk s H scope (compEnvC scope cl C X.env) fp) ifs tt)
    (hk : ∀ (s : Shared) (H : Hp) (C : Addr) (cl : List (Str × Addr)) (fp : List Addr), PE (X.blk s H scope (compEnvC scope cl C X.env) fp) kx tk)
    (he : ∀ (s : Shared) (H : Hp) (C : Addr) (cl : List (Str × Addr)) (fp : List Addr), PE (X.blk s H scope (compEnvC scope cl C X.env) fp) vx tv) (hs : ∀ x, foldedSetIterable iter X.env x = pure x := by intro _; rfl) :
    PS X (.Assign [.Name y py] (.DictComp kx vx [⟨tg, iter, ifs, 0⟩] scope pos) spos) (tAsg (tDq X.prog X.w X.K wi g tt tk tv (own.map (·.2))) (gName i)) := by
  refine ⟨fun pins s σ H D I h => ?_⟩
  rw [exec_Assign_Name_used _ _ _ _ hsw]
  refine wpAny_bind (wpAny_standAt (wpAny_bind ?_))
  show wpAny _ X.A (do let _ ← comprehension (.DictComp kx vx [⟨tg, iter, ifs, 0⟩] scope pos) scope X.env (firstIterPos [⟨tg, iter, ifs, 0⟩] pos) newDict false (eval iter X.env) (some (assign (.Name y py) X.env))) _ _ s
  have h : tDq X.prog X.w X.K wi g tt tk tv (own.map (·.2)) σ H (fun x H1 => gName i x σ H1 D.nx) := h
  refine wpAny_bind (thn (dq_core (Qf := fun _ s' => SP X pins D .next s') hu hc hN I hi ok hg ht hk he hs h fun L C s' m H' I' q hn ⟨f0, f1, f2, f3, f4, f5⟩ => ?_) fun _ s' hq => wpAny_pure (wpAny_pure hq))
  refine wpAny_assign_Name (store_ok2 (v := V.ref L) I' hN hy (.inl hyl) rfl (fun s2 I2 ⟨a, sb, ha⟩ => ?_) (.inr hyl))
  have ne : C ≠ a := ha.elim (fun z => by rw [z]; exact f1) fun z c => f4 y a z c.symm
  exact ⟨m, hn.sameBut sb ne, fun h3 sb3 => ⟨_, H', I2.turned (t' := s2.toks) (fun c o hb z => (sb3.2 c hb).trans z) f0 f1 f3 f4 f5, q⟩⟩
theorem sw_trueD {gs : List Comprehension} {py : Pos} {y : Str} {l : Nat} {env : PySem.Env} (hk : env.scope.kind = .function) (hy : env.scope.names.lookup y = some .local) (hl : (py.line == pos.line) = true)
    (ha : (scope.names.any fun (n, k) => n == y && (k == .local || k == .cell)) = false) : swapsWith (.DictComp kx vx gs scope pos) (some (.Name y py)) l env = pure true := by
  have a1 : env.kindOf y = some .local := hy
  have a2 : env.blockKind = .function := by unfold Env.blockKind; rw [hk]; rfl
  unfold swapsWith
  simp only [a1, a2, ha, Expr.pos, hl]
  rfl
end
end Wl

/- text WlR -/
set_option Elab.async false
set_option maxRecDepth 100000
namespace Wl
open PySem PySem.Spec L2
open PyProof.Rows hiding St

section
variable {P : Program} {w : World} {K : PySem.W.Frag} {Θ : Nat → ObSem} {W : WX} {X : Cx} {io : List Nat}
def putOk (nk : Bool) (kvs : List (D × D)) (k : D) : Bool := okKey k && kindOk kvs k && (nk == isT k || (kvs.isEmpty && !nk)) && decide (kvs.length < sizeLine)
theorem DcAt.to {H Hm H' Hm' : Hp} {p : Addr} {nk : Bool} {kvs : List (D × D)} (h : DcAt P w K H Hm p nk kvs) (k : ∀ u, H p = some u → H' p = some u) (e : Up Hm Hm') : DcAt P w K H' Hm' p nk kvs := by
  cases nk with
  | false => obtain ⟨ks, h3, h4⟩ := h; exact ⟨_, k _ h3, h4.up e⟩
  | true => obtain ⟨ks, h3, h4⟩ := h; exact ⟨_, k _ h3, h4.up e⟩
theorem DcAt.there {H Hm : Hp} {p : Addr} {nk : Bool} {kvs : List (D × D)} (h : DcAt P w K H Hm p nk kvs) : ∃ u, H p = some u := by
  cases nk with
  | false => obtain ⟨ks, h3, h4⟩ := h; exact ⟨_, h3⟩
  | true => obtain ⟨ks, h3, h4⟩ := h; exact ⟨_, h3⟩
theorem dp_ok {H Hm : Hp} {p : Addr} {nk : Bool} {kvs : List (D × D)} {y z : V} {k d : D} {N : Hp → Prop} (h1 : DcAt P w K H Hm p nk kvs) (s : Same Hm H) (r : Rp P w K Hm y k) (r2 : Rp P w K Hm z d) (hc : putOk nk kvs k = true)
    (q : ∀ HO, DcAt P w K (upd H p HO) Hm p (isT k) (dput kvs k d) → N (upd H p HO)) : rDp P w K p y z H N := by
  unfold putOk at hc
  simp only [Bool.and_eq_true, Bool.or_eq_true, decide_eq_true_eq] at hc
  obtain ⟨⟨⟨ok, ko⟩, hnk⟩, hl⟩ := hc
  rcases okKey_of ok with hk | ⟨ht, k', hk, hd⟩
  · obtain ⟨k', rfl, rfl⟩ := isK_of r hk
    have e : isT (kD k') = false := by cases k' <;> rfl
    rw [e] at hnk q
    have flat : ∃ ks, H p = some (.dK ks) ∧ RpK P w K Hm ks kvs := by
      cases nk with
      | false => exact h1
      | true => rcases hnk with hnk | hnk <;> first | (cases hnk; done) | cases hnk.2
    obtain ⟨ks, h5, h6⟩ := flat
    exact .inl ⟨ks, k', rfl, h5, by rw [rpK_len h6]; exact hl, q _ ⟨_, upd_same, rpK_put k' h6 r2⟩⟩
  · obtain ⟨q', rfl⟩ := isT_of r ht
    rw [ht] at hnk q
    have nested : ∃ xs, (H p = some (.ext (nPhi P w p xs)) ∨ (xs = [] ∧ H p = some (.dK []))) ∧ RpN P w K Hm xs kvs := by
      cases nk with
      | true => obtain ⟨xs, h5, h6⟩ := h1; exact ⟨xs, .inl h5, h6⟩
      | false =>
        cases kvs with
        | cons p kvs => rcases hnk with hnk | hnk <;> first | (cases hnk; done) | cases hnk.1
        | nil => obtain ⟨ks, h5, h6⟩ := h1; cases h6; exact ⟨[], .inr ⟨rfl, h5⟩, .nil⟩
    obtain ⟨xs, h5, h6⟩ := nested
    exact .inr ⟨xs, k', q', k, rfl, h5, rpN_keys (h6.same s), by rw [rpN_len h6]; exact hl, r.same s, hk, hd, fun u hu => q _ ⟨_, upd_same, rpN_put hk hd r hu r2 h6⟩⟩
def dcLoop (vs : List Nat) (tgt : D → Env → Option Env) (tst : M Bool) (kf vf : M R) : List D → Env → Bool → List (D × D) → Option (Bool × List (D × D) × Env)
  | [], ρ, nk, acc => some (nk, acc, ρ)
  | d :: ds, ρ, nk, acc => match tgt d ρ with
    | none => none
    | some ρ1 => if ρ1.length = ρ.length then match tst ρ1 with
      | some (.ok (false, ρ2)) => dcLoop vs tgt tst kf vf ds (wipeE ρ2 vs) nk acc
      | some (.ok (true, ρ2)) => match mbind kf toSh ρ2 with
        | some (.ok (k, ρ3)) => match mbind vf toSh ρ3 with
          | some (.ok (y, ρ4)) => if putOk nk acc k = true then dcLoop vs tgt tst kf vf ds (wipeE ρ4 vs) (isT k) (dput acc k y) else none
          | _ => none
        | _ => none
      | _ => none
      else none
def eDc (n : Nat) (vs : List Nat) (src : M (List D)) (tgt : D → Env → Option Env) (tst : M Bool) (kf vf : M R) : M R := fun ρ => match src ρ with
  | some (.ok (ds, ρ1)) => if ρ1.length = n then match dcLoop vs tgt tst kf vf ds (wipeE ρ1 vs) false [] with
    | some (nk, r, ρ2) => if ρ2.length = n then some (.ok (.v (.od nk r), unwipe ρ1 ρ2 vs)) else none
    | none => none
    else none
  | some (.error e) => some (.error e)
  | none => none
/-- a dict comprehension over a walk -/
theorem dq_it {J : It} {n : Nat} {G : Hp → Prop} {Y : Nat → Hp → V → Hp → Prop} (wk : Walk J n G Y) {g : TG} {tt : TT} {tk tv : TE} {vs : List Nat} {σ : L2.St} {H1 : Hp} {Dl : Addr} {Qd : Hp → Prop} (Pv : Nat → Hp → Prop) (h0 : Pv 0 (upd H1 Dl (.dK []))) (hG : ∀ i H, i ≤ n → Pv i H → G H)
    (hs : ∀ i x H H', i < n → Pv i H → Y i H x H' → g x (L2.wipe σ vs) H' fun σ2 H2 => L2.wipe σ2 vs = L2.wipe σ vs ∧ tt σ2 H2 fun b H3 => if b = true then tk σ2 H3 fun y H4 => tv σ2 H4 fun z H5 => rDp P w K Dl y z H5 (Pv (i + 1)) else Pv (i + 1) H3) (hd : ∀ H, Pv n H → Qd H) :
    ∃ W : Nat → Nat → Hp → Prop, (∃ m, W 0 m (upd H1 Dl (.dK []))) ∧ ∀ i m H, W i m H → (J.stop i H ∧ Qd H) ∨ (J.go i H ∧ ∃ N : Hp → Prop, (∀ H', N H' → ∃ m', m' < m ∧ W (i + 1) m' H') ∧ ∀ x H', J.yld i H x H' → g x (L2.wipe σ vs) H' fun σ2 H2 => L2.wipe σ2 vs = L2.wipe σ vs ∧ tt σ2 H2 fun b H3 =>
      if b = true then tk σ2 H3 fun y H4 => tv σ2 H4 fun z H5 => rDp P w K Dl y z H5 N else N H3) := by
  refine ⟨fun i m H => m = n - i ∧ i ≤ n ∧ Pv i H, ⟨n, Nat.sub_zero n ▸ rfl, Nat.zero_le n, h0⟩, fun i m H ⟨hm, hi, p⟩ => ?_⟩
  subst hm
  rcases Nat.lt_or_ge i n with hlt | hge
  · exact .inr ⟨wk.goes i H hlt (hG i H hi p), Pv (i + 1), fun H' p' => ⟨n - (i + 1), by omega, rfl, hlt, p'⟩, fun x H' y => hs i x H H' hlt p (wk.yields i H x H' hlt (hG i H hi p) y)⟩
  · obtain rfl : i = n := Nat.le_antisymm hi hge
    exact .inl ⟨wk.stops H (hG i H hi p), hd H p⟩
theorem snd_dq {vs : List Nat} {wi : TI} {g : TG} {tt : TT} {tk tv : TE} {src : M (List D)} {tgt : D → Env → Option Env} {tst : M Bool} {kf vf : M R} {n : Nat} (hi : SndI P w K Θ W wi src) (hg : SndG P w K Θ (ioB n vs) g tgt) (ht : SndT P w K Θ W0 tt tst) (hk : SndE P w K Θ W0 tk kf) (he : SndE P w K Θ W0 tv vf) :
    SndE P w K Θ W (tDq P w K wi g tt tk tv vs) (eDc n vs src tgt tst kf vf) := fun σ H Hm ρ fp ok res e Q q => by
  · unfold eDc at e
    cases e1 : src ρ with
    | none => simp only [e1] at e; cases e
    | some r1 =>
      refine hi σ H Hm ρ fp ok r1 e1 _ ?_
      cases r1 with
      | error er =>
        simp only [e1] at e; cases e
        exact q
      | ok p1 =>
        obtain ⟨ds, ρ1⟩ := p1
        intro J H1 Hm1 fp1 ok1 g1 ⟨G, Y, wk, hG, hY⟩ Dl hD
        simp only [e1] at e
        by_cases hn1 : ρ1.length = n
        · rw [if_pos hn1] at e
          cases e2 : dcLoop vs tgt tst kf vf ds (wipeE ρ1 vs) false [] with
          | none => simp only [e2] at e; cases e
          | some r2 =>
            obtain ⟨nk0, r, ρ2⟩ := r2
            simp only [e2] at e
            by_cases hl : ρ2.length = n
            · rw [if_pos hl] at e; cases e
              have okw := ok1.wipe vs
              have hDm : Hm1 Dl = none := by
                cases z : Hm1 Dl with
                | none => rfl
                | some u => rw [ok1.sub _ _ z] at hD; cases hD
              have hDf : ¬ all fp1 Dl := fun z => by
                obtain ⟨_, u, h2⟩ := ok1.fpNone _ z
                rw [h2] at hD; cases hD
              have okw0 : Ok P w K Θ (L2.wipe σ vs) (upd H1 Dl (.dK [])) Hm1 (wipeE ρ1 vs) (fun i => if i ∈ vs then noF else fp1 i) :=
                okw.move (Up.refl _) (fun a u z => by rw [upd_ne (ne_of_none (ok1.sub _ _ z) hD)]; exact ok1.sub _ _ z) (fun p u hp z => by rw [upd_ne (fun y => hDf (by rw [← y]; exact wipe_all hp))]; exact z) (fun p hp => (okw.fpNone p hp).1)
              refine dq_it wk (fun i H' => ∃ Hm' ρ' fp' nk acc, Ok P w K Θ (L2.wipe σ vs) H' Hm' ρ' fp' ∧ DcAt P w K H' Hm' Dl nk acc ∧ Hm' Dl = none ∧ ¬ all fp' Dl ∧ Grow (upd H1 Dl (.dK [])) Hm1 (orF (all (fun i => if i ∈ vs then noF else fp1 i)) (one Dl)) H' Hm' (orF (all fp') (one Dl)) ∧ dcLoop vs tgt tst kf vf (ds.drop i) ρ' nk acc = some (nk0, r, ρ2) ∧ ρ'.length = n)
                ⟨Hm1, _, _, false, [], okw0, ⟨[], upd_same, .nil⟩, hDm, fun z => hDf (wipe_all z), Grow.refl, e2, by rw [wipeE_length]; exact hn1⟩ (fun i H' _ ⟨Hm', ρ', fp', nk, acc, ok', _, _, _, g', _⟩ => hG H' Hm' g'.sh ok'.sub) (fun i x H' H'' hi ⟨Hm', ρ', fp', nk, acc, ok', hd', hm', hf', g', el, hlen⟩ y => ?_) (fun H' ⟨Hm', ρ', fp', nk, acc, ok', hd', hm', hf', g', el, hlen⟩ => ?_)
              · obtain ⟨Hm2, d, fr, hdd, rd⟩ := hY i H' Hm' x H'' hi g'.sh ok'.sub y
                obtain ⟨ok2, _, g2⟩ := fr.ok ok'
                rw [orF_noF] at g2
                have hdr : ds.drop i = d :: ds.drop (i + 1) := by
                  rw [List.drop_eq_getElem_cons hi]
                  rw [List.getElem?_eq_getElem hi] at hdd
                  rw [Option.some.inj hdd]
                rw [hdr] at el
                have el' : (match tgt d ρ' with
                  | none => none
                  | some ρ1 => if ρ1.length = ρ'.length then match tst ρ1 with
                    | some (.ok (false, ρ2)) => dcLoop vs tgt tst kf vf (ds.drop (i + 1)) (wipeE ρ2 vs) nk acc
                    | some (.ok (true, ρ2)) => match mbind kf toSh ρ2 with
                      | some (.ok (k, ρ3)) => match mbind vf toSh ρ3 with
                        | some (.ok (y, ρ4)) => if putOk nk acc k = true then dcLoop vs tgt tst kf vf (ds.drop (i + 1)) (wipeE ρ4 vs) (isT k) (dput acc k y) else none
                        | _ => none
                      | _ => none
                    | _ => none
                    else none : Option (Bool × List (D × D) × Env)) = some (nk0, r, ρ2) := el
                cases e3 : tgt d ρ' with
                | none => rw [e3] at el'; cases el'
                | some ρ3 =>
                  rw [e3] at el'
                  simp only at el'
                  by_cases hl3 : ρ3.length = ρ'.length
                  · rw [if_pos hl3] at el'
                    refine hg (L2.wipe σ vs) H'' Hm2 ρ' fp' ok2 x d rd ρ3 e3 _ fun σ3 fp3 ok3 k3 s3 => ?_
                    have hs3 : σ3.length = (L2.wipe σ vs).length := by rw [ok3.len, ok'.len, hl3]
                    have hw : L2.wipe σ3 vs = L2.wipe σ vs := by
                      refine (wipe_eq hs3 fun i hi hlt => k3 i (mem_ioB.mpr ⟨by rw [ok'.len, hlen] at hlt; exact hlt, hi⟩)).trans ?_
                      exact wipe_eq (wipe_length _ _) fun i hi _ => wipe_at hi
                    refine ⟨hw, ?_⟩
                    have g3 := (g'.trans (g2.beside (one Dl))).to (F2 := orF (all fp3) (one Dl)) fun p z => z.imp (s3 p) id
                    -- the list that grows is foreign to the block
                    obtain ⟨uD, huD⟩ := hd'.there
                    have hD2 : H'' Dl = some uD ∧ Hm2 Dl = none ∧ ¬ all fp' Dl := g2.far _ _ huD hm' hf'
                    have hd2 : DcAt P w K H'' Hm2 Dl nk acc := hd'.to (fun u z => by rw [huD] at z; cases z; exact hD2.1) g2.sh
                    have hf3 : ¬ all fp3 Dl := fun z => hf' (s3 _ z)
                    have back : ∀ {ρ4 : Env} {H4 Hm4 : Hp} {fp4 : Nat → Fp}, Ok P w K Θ σ3 H4 Hm4 ρ4 fp4 → Ok P w K Θ (L2.wipe σ vs) H4 Hm4 (wipeE ρ4 vs) (fun i => if i ∈ vs then noF else fp4 i) := fun {ρ4 H4 Hm4 fp4} ok4 => by
                      rw [← hw]; exact ok4.wipe vs
                    cases e4 : tst ρ3 with
                    | none => rw [e4] at el'; cases el'
                    | some r4 =>
                      rw [e4] at el'
                      refine ht σ3 H'' Hm2 ρ3 fp3 ok3 r4 e4 _ ?_
                      cases r4 with
                      | error er => cases el'
                      | ok p4 =>
                        obtain ⟨b4, ρ4⟩ := p4
                        intro b H4 Hm4 fp4 Fo4 ok4 hr4 d4 g4
                        obtain ⟨rfl, rfl⟩ := hr4
                        rw [orF_noF] at g4
                        obtain ⟨k1, k2, k3'⟩ := g4.far _ _ hD2.1 hD2.2.1 hf3
                        cases b with
                        | false =>
                          rw [if_neg (by decide)]
                          refine ⟨Hm4, _, _, nk, acc, back ok4, hd2.to (fun u z => by rw [hD2.1] at z; cases z; exact k1) g4.sh, k2, fun z => k3' (wipe_all z), (g3.trans (g4.beside (one Dl))).to fun p z => z.imp wipe_all id, el', ?_⟩
                          rw [wipeE_length, ← ok4.len, hs3, ok'.len, hlen]
                        | true =>
                          rw [if_pos rfl]
                          simp only at el'
                          have hd4 := hd2.to (fun u z => by rw [hD2.1] at z; cases z; exact k1) g4.sh
                          cases e5 : mbind kf toSh ρ4 with
                          | none => rw [e5] at el'; cases el'
                          | some r5 =>
                            rw [e5] at el'
                            refine snd_d hk σ3 H4 Hm4 ρ4 fp4 ok4 r5 e5 _ ?_
                            cases r5 with
                            | error er => cases el'
                            | ok p5 =>
                              obtain ⟨y5, ρ5⟩ := p5
                              intro v5 H5 Hm5 fp5 Fo5 ok5 hr5 d5 g5
                              obtain ⟨hr5, rfl⟩ := hr5
                              rw [orF_noF] at g5
                              obtain ⟨m1, m2, m3⟩ := g5.far _ _ k1 k2 k3'
                              have hd5 := hd4.to (fun u z => by rw [k1] at z; cases z; exact m1) g5.sh
                              simp only at el'
                              cases e6 : mbind vf toSh ρ5 with
                              | none => rw [e6] at el'; cases el'
                              | some r6 =>
                                rw [e6] at el'
                                refine snd_d he σ3 H5 Hm5 ρ5 fp5 ok5 r6 e6 _ ?_
                                cases r6 with
                                | error er => cases el'
                                | ok p6 =>
                                  obtain ⟨y6, ρ6⟩ := p6
                                  intro v6 H6 Hm6 fp6 Fo6 ok6 hr6 d6 g6
                                  obtain ⟨hr6, rfl⟩ := hr6
                                  rw [orF_noF] at g6
                                  obtain ⟨o1, o2, o3⟩ := g6.far _ _ m1 m2 m3
                                  have hd6 := hd5.to (fun u z => by rw [m1] at z; cases z; exact o1) g6.sh
                                  simp only at el'
                                  by_cases hz : putOk nk acc y5 = true
                                  · rw [if_pos hz] at el'
                                    refine dp_ok hd6 ok6.sub (hr5.up g6.sh) hr6 hz fun HO hnew => ⟨Hm6, _, _, _, _, (back ok6).move (Up.refl _) (fun a u z => ?_) (fun p u hp z => ?_) (fun p hp => ((back ok6).fpNone p hp).1), hnew, o2, fun z => o3 (wipe_all z), ?_, el', ?_⟩
                                    · rw [upd_ne (fun y => by rw [y, o2] at z; cases z)]; exact ok6.sub _ _ z
                                    · rw [upd_ne (fun y => o3 (by rw [← y]; exact wipe_all hp))]; exact z
                                    · have gg := (((g3.trans (g4.beside (one Dl))).trans (g5.beside (one Dl))).trans (g6.beside (one Dl))).to (F2 := orF (all (fun i => if i ∈ vs then noF else fp6 i)) (one Dl)) fun p z => z.imp wipe_all id
                                      refine ⟨gg.sh, fun p u a b c => ?_⟩
                                      obtain ⟨n1, n2, n3⟩ := gg.far p u a b c
                                      exact ⟨by rw [upd_ne fun y => n3 (.inr y)]; exact n1, n2, n3⟩
                                    · rw [wipeE_length, ← ok6.len, hs3, ok'.len, hlen]
                                  · rw [if_neg hz] at el'; cases el'
                  · rw [if_neg hl3] at el'; cases el'
              · rw [List.drop_of_length_le (Nat.le_refl _)] at el
                cases el
                have gg : Grow H1 Hm1 (all fp1) H' Hm' (orF (all fp') (one Dl)) := ⟨g'.sh, fun p u a b c => g'.far p u (by rw [upd_ne (ne_of_none a hD)]; exact a) b fun z => z.elim (fun z => c (wipe_all z)) fun z => by rw [show p = Dl from z, hD] at a; cases a⟩
                have out : ∀ i p, i ∈ vs → fp1 i p → ∃ u, H1 p = some u ∧ H' p = some u ∧ Hm' p = none ∧ ¬ orF (all fp') (one Dl) p := fun i p hi hp => by
                  obtain ⟨a1, u, a2⟩ := ok1.fpNone p ⟨i, hp⟩
                  refine ⟨u, a2, g'.far p u (by rw [upd_ne (ne_of_none a2 hD)]; exact a2) a1 fun z => z.elim (fun ⟨j, hj⟩ => ?_) fun z => by rw [show p = Dl from z, hD] at a2; cases a2⟩
                  have hj' : (if j ∈ vs then noF else fp1 j) p := hj
                  split at hj'
                  · exact hj'.elim
                  · rename_i hjv
                    exact hjv (ok1.apart i j p hp hj' ▸ hi)
                refine q (.ref Dl) H' Hm' (fun i => if i ∈ vs then fp1 i else fp' i) (one Dl) ⟨by rw [unwipe_length, hl]; rw [ok1.len, hn1], ok'.sub, fun i v o a1 a2 => ?_, fun i hi => ?_, fun i j p a1 a2 => ?_⟩ ⟨Dl, rfl, hd', hm', rfl⟩ (fun p hp ⟨i, hi⟩ => ?_) (g1.trans ⟨gg.sh, fun p u a b c => ?_⟩)
                · rcases unwipe_in a2 with ⟨b1, rfl⟩ | ⟨b1, b2⟩
                  · rw [if_pos b1]
                    cases z : ρ1[i]? with
                    | none =>
                      show fp1 i = noF
                      exact ok1.out i (List.getElem?_eq_none_iff.mp z)
                    | some o1 =>
                      have s := ok1.slot i v o1 a1 z
                      cases o1 with
                      | none => exact s
                      | some o1 =>
                        obtain ⟨u, c1, s⟩ := s
                        refine ⟨u, c1, s.move g'.sh (fun p u' hp hu => ?_) fun p hp => ?_⟩
                        · obtain ⟨u2, d1, d2, _⟩ := out i p b1 hp
                          rw [hu] at d1; cases d1; exact d2
                        · obtain ⟨u2, _, _, d2, _⟩ := out i p b1 hp; exact d2
                  · rw [if_neg b1]
                    exact ok'.slot i v o (by rw [wipe_at b1]; exact a1) b2
                · rw [unwipe_length, hl] at hi
                  show (if i ∈ vs then fp1 i else fp' i) = noF
                  rw [ok1.out i (by rw [hn1]; exact hi), ok'.out i (by rw [hlen]; exact hi)]; exact ite_self _
                · have a1' : (if i ∈ vs then fp1 i else fp' i) p := a1
                  have a2' : (if j ∈ vs then fp1 j else fp' j) p := a2
                  split at a1'
                  · rename_i hiv
                    split at a2'
                    · exact ok1.apart i j p a1' a2'
                    · obtain ⟨_, _, _, _, z⟩ := out i p hiv a1'
                      exact (z (.inl ⟨j, a2'⟩)).elim
                  · split at a2'
                    · rename_i hjv
                      obtain ⟨_, _, _, _, z⟩ := out j p hjv a2'
                      exact (z (.inl ⟨i, a1'⟩)).elim
                    · exact ok'.apart i j p a1' a2'
                · have hi' : (if i ∈ vs then fp1 i else fp' i) p := hi
                  split at hi'
                  · rename_i hiv
                    obtain ⟨_, _, _, _, z⟩ := out i p hiv hi'
                    exact z (.inr hp)
                  · exact hf' (by rw [← show p = Dl from hp]; exact ⟨i, hi'⟩)
                · obtain ⟨n1, n2, n3⟩ := gg.far p u a b c
                  refine ⟨n1, n2, fun z => z.elim (fun ⟨i, hi⟩ => ?_) fun z => n3 (.inr z)⟩
                  have hi' : (if i ∈ vs then fp1 i else fp' i) p := hi
                  split at hi'
                  · exact c ⟨i, hi'⟩
                  · exact n3 (.inl ⟨i, hi'⟩)
            · rw [if_neg hl] at e; cases e
        · rw [if_neg hn1] at e; cases e
theorem ce_dc {k : Nat} {kx vx tg iter : Expr} {ifs : List Expr} {scope : Scope} {own : List (Str × Nat)} {pos : Pos} {n : Nat} {src : M (List D)} {tgt : D → Env → Option Env} {tst : M Bool} {kf vf : M R} (hr : Room k X.A) (hc : X.calm = true) (hN : X.N.Nodup) (hi : CI Θ X W tg iter src) (ok : BlkOk X.N X.env.scope scope own)
    (hg : ∀ (s : Shared) (H : Hp) (C : Addr) (cl : List (Str × Addr)) (fp : List Addr), CG Θ (X.blk s H scope (compEnvC scope cl C X.env) fp) (ioB n (own.map (·.2))) tg tgt)
    (ht : ∀ (s : Shared) (H : Hp) (C : Addr) (cl : List (Str × Addr)) (fp : List Addr), CTs Θ (X.blk s H scope (compEnvC scope cl C X.env) fp) W0 ifs tst)
    (hk : ∀ (s : Shared) (H : Hp) (C : Addr) (cl : List (Str × Addr)) (fp : List Addr), CE Θ (X.blk s H scope (compEnvC scope cl C X.env) fp) W0 kx kf)
    (he : ∀ (s : Shared) (H : Hp) (C : Addr) (cl : List (Str × Addr)) (fp : List Addr), CE Θ (X.blk s H scope (compEnvC scope cl C X.env) fp) W0 vx vf) (hs : ∀ x, foldedSetIterable iter X.env x = pure x := by intro _; rfl) :
    CE Θ X W (.DictComp kx vx [⟨tg, iter, ifs, 0⟩] scope pos) (eDc n (own.map (·.2)) src tgt tst kf vf) :=
  let ⟨_, a, b⟩ := hi
  ⟨_, pe_dq (by have := hr.un; omega) hc hN a ok (fun s H C cl fp => (hg s H C cl fp).canon) (fun s H C cl fp => (ht s H C cl fp).canon) (fun s H C cl fp => (hk s H C cl fp).canon) (fun s H C cl fp => (he s H C cl fp).canon) hs, snd_dq b sndg_tGx snd_tX snd_tX snd_tX⟩
theorem cs_setDc {k : Nat} {kx vx tg iter : Expr} {ifs : List Expr} {scope : Scope} {own : List (Str × Nat)} {pos spos py : Pos} {i n : Nat} {y : Str} {src : M (List D)} {tgt : D → Env → Option Env} {tst : M Bool} {kf vf : M R} (hr : Room k X.A) (hc : X.calm = true) (hN : X.N.Nodup) (hio : i ∉ io) (hi : CI Θ X W tg iter src) (ok : BlkOk X.N X.env.scope scope own)
    (hg : ∀ (s : Shared) (H : Hp) (C : Addr) (cl : List (Str × Addr)) (fp : List Addr), CG Θ (X.blk s H scope (compEnvC scope cl C X.env) fp) (ioB n (own.map (·.2))) tg tgt)
    (ht : ∀ (s : Shared) (H : Hp) (C : Addr) (cl : List (Str × Addr)) (fp : List Addr), CTs Θ (X.blk s H scope (compEnvC scope cl C X.env) fp) W0 ifs tst)
    (hk : ∀ (s : Shared) (H : Hp) (C : Addr) (cl : List (Str × Addr)) (fp : List Addr), CE Θ (X.blk s H scope (compEnvC scope cl C X.env) fp) W0 kx kf)
    (he : ∀ (s : Shared) (H : Hp) (C : Addr) (cl : List (Str × Addr)) (fp : List Addr), CE Θ (X.blk s H scope (compEnvC scope cl C X.env) fp) W0 vx vf)
    (hsw : swapsWith (.DictComp kx vx [⟨tg, iter, ifs, 0⟩] scope pos) (some (.Name y py)) spos.line X.env = pure true) (hy : X.N[i]? = some y := by rfl) (hyl : X.env.scope.names.lookup y = some .local := by rfl) (hs : ∀ x, foldedSetIterable iter X.env x = pure x := by intro _; rfl) :
    CS Θ X W io (.Assign [.Name y py] (.DictComp kx vx [⟨tg, iter, ifs, 0⟩] scope pos) spos) (sSet i (eDc n (own.map (·.2)) src tgt tst kf vf)) :=
  let ⟨_, a, b⟩ := hi
  ⟨_, ps_setDq (by have := hr.un; omega) hc hN hy hyl hsw a ok (fun s H C cl fp => (hg s H C cl fp).canon) (fun s H C cl fp => (ht s H C cl fp).canon) (fun s H C cl fp => (hk s H C cl fp).canon) (fun s H C cl fp => (he s H C cl fp).canon) hs, snds_set hio (snd_dq b sndg_tGx snd_tX snd_tX snd_tX)⟩
end
end Wl

/- text WlS -/
set_option Elab.async false
set_option maxRecDepth 100000
namespace Wl
open PySem PySem.Spec L2
open PyProof.Rows hiding St

section
variable {P : Program} {w : World} {K : PySem.W.Frag} {Θ : Nat → ObSem} {W : WX} {X : Cx} {io : List Nat}
/-! ### {} -/
def eNewD : M R := fun ρ => some (.ok (.v (.od false []), ρ))
theorem snd_newD : SndE P w K Θ W tDNewK eNewD := fun σ H Hm ρ fp ok res e Q q => by
  cases e
  intro p hp
  obtain ⟨f, hm⟩ := fresh_own (u := .dK []) ok.sub hp
  obtain ⟨a, b, c⟩ := f.ok ok
  exact q (.ref p) _ _ fp (one p) a ⟨p, rfl, ⟨[], upd_same, .nil⟩, hm, rfl⟩ b c
theorem ce_newD {pos : Pos} : CE Θ X W (.Dict [] [] pos) eNewD := ⟨_, pe_dnewK, snd_newD⟩
/-! ### dict(d) -/
def oCopyD : List O → Option O := fun os => match os with
  | [o] => match asDc o with
    | some kvs => if flatKeys kvs = true ∧ kvs ≠ [] then some (.od false kvs) else none
    | none => none
  | _ => none
theorem flat_at {H Hm : Hp} {a : Addr} {kvs : List (D × D)} (h : DAt P w K H Hm a kvs) (c : flatKeys kvs = true) : (∃ ks, Rd H a (.dK ks) ∧ RpK P w K Hm ks kvs) ∨ kvs = [] := by
  rcases h with h | ⟨xs, h1, h2⟩
  · exact .inl h
  · cases h2 with
    | nil => exact .inr rfl
    | cons k1 k2 k3 k4 k5 k6 =>
      unfold flatKeys at c
      rw [List.all_cons, Bool.and_eq_true] at c
      have z := rpN_isT (.cons k1 k2 k3 k4 k5 k6)
      rename_i kd _ _
      exact absurd c.1 (by cases kd <;> first | (cases z; done) | exact fun z => nomatch z)
def rCopyD : List V → Hp → VK → Prop := fun xs H Q => ∃ (a : Addr) (kvs : List (Key × V)), xs = [.ref a] ∧ Rd H a (.dK kvs) ∧ ∀ p, H p = none → Q (.ref p) (upd H p (.dK kvs))
theorem opOk_copyD : OpOk P w K Θ rCopyD oCopyD := fun H Hm vs os o s hs e Q q => by
  unfold oCopyD at e
  split at e
  · rename_i o1
    split at e
    · rename_i kvs e1
      split at e
      · rename_i c
        cases e
        obtain ⟨v, rfl, F1, h1⟩ := oo1 hs
        obtain ⟨a, rfl, hd⟩ := asDc_ok h1 s e1
        rcases flat_at hd c.1 with ⟨ks, h2, h3⟩ | z
        · refine ⟨a, ks, rfl, h2, fun p hp => ?_⟩
          obtain ⟨f, hm⟩ := fresh_own (u := .dK ks) s hp
          exact q _ _ Hm (one p) f ⟨p, rfl, ⟨ks, upd_same, h3⟩, hm, rfl⟩
        · exact absurd z c.2
      · cases e
    · cases e
  · cases e
theorem ce_copyD {e : Expr} {f : M R} {p pos : Pos} (hg : Gl X "dict") (hm : X.mg "dict" = none) (ha : CE Θ X W e f) (hs1 : starEach [e] X.env = [(false, eval e X.env)] := by rfl) : CE Θ X W (.Call (.Name "dict" p) [e] [] pos) (e1 oCopyD f) :=
  ce_ty opOk_copyD call_dictD hg hm (ca_cons ha ca_nil hs1) (he := hs1) (hpl := rfl)
/-! ### a method that changes nothing -/
def tyO (T : String) : O → Bool
  | .sh (.str _) => T == "str"
  | .sh (.list _) => T == "list"
  | .sh (.dict _) => T == "dict"
  | .ol _ => T == "list"
  | .od _ _ => T == "dict"
  | _ => false
theorem tyO_ok {T : String} {o : O} {H Hm : Hp} {v : V} {F : Fp} (h : OOk P w K Θ H Hm v o F) (s : Same Hm H) (e : tyO T o = true) : tyN P w K T v H := by
  cases o with
  | ol ds => exact (own_ty h e).1
  | od nk kvs => exact (own_ty h e).1
  | ob τ d => cases e
  | sh d =>
    obtain ⟨h, _⟩ := h
    cases h with
    | str x => exact .inl (eq_of_beq e)
    | lst h1 h2 => exact .inl (.inl ⟨eq_of_beq e, _, sqL_mono (.of s) h1⟩)
    | dk h1 h2 => exact .inr (.inr ⟨eq_of_beq e, _, _, rfl, Rdd.of s _ _ h1⟩)
    | dn h1 h2 => exact .inr (.inl ⟨eq_of_beq e, _, _, rfl, Rdd.of s _ _ h1⟩)
    | _ => cases e
def eTy (T : String) (f : M R) : M R := mbind f fun r ρ => match der r ρ with
  | some o => if tyO T o = true then some (.ok (r, ρ)) else none
  | none => none
theorem snd_ty {T : String} {te : TE} {f : M R} (h : SndE P w K Θ W te f) : SndE P w K Θ W (fun σ H Q => te σ H fun x H1 => tyN P w K T x H1 ∧ Q x H1) (eTy T f) := fun σ H Hm ρ fp ok res e Q q => by
  rcases mbind_inv e with ⟨r, ρ1, e1, e2⟩ | ⟨er, e1, rfl⟩
  · refine h σ H Hm ρ fp ok _ e1 _ ?_
    intro v H1 Hm1 fp1 Fo ok1 hr d1 g1
    split at e2
    · rename_i o e3
      split at e2
      · rename_i c
        cases e2
        obtain ⟨F', ho⟩ := ROk.der ok1 hr e3
        exact ⟨tyO_ok ho ok1.sub c, q v H1 Hm1 fp1 Fo ok1 hr d1 g1⟩
      · cases e2
    · cases e2
  · exact h σ H Hm ρ fp ok _ e1 _ q
/-- r told of the thing and the arguments together -/
def rM (r : List V → Hp → VK → Prop) : V → List V → Hp → VK → Prop := fun x vs H Q => r (x :: vs) H Q
theorem snd_pm {T : String} {r : List V → Hp → VK → Prop} {op : List O → Option O} {to : TE} {ta : TA} {f : M R} {g : M (List R)} (hr : OpOk P w K Θ r op) (ho : SndE P w K Θ W to f) (ha : SndA P w K Θ W ta g) : SndE P w K Θ W (tM P w K T (rM r) to ta) (eOp op (aCons (eTy T f) g)) :=
  snd_op hr (snd_cons (snd_ty ho) ha)
theorem ce_pm {o e : Expr} {es : List Expr} {f : M R} {g : M (List R)} {name : Str} {apos cpos : Pos} {T id : String} {r : List V → Hp → VK → Prop} {op : List O → Option O} (hr : OpOk X.prog X.w X.K Θ r op) (pa : PlainAttrs T) (slot : PySem.Slot T name id) (hty : typeOf (.builtin id) = pure (.type "method_descriptor")) (hm : MtR X id (rM r)) (ho : CE Θ X W o f) (ha : CA Θ X W (e :: es) g)
    (hbase : attributeBase o name X.env (eval o X.env) = eval o X.env := by rfl)
    (hfew : ((backTo cpos (starEach (e :: es) X.env)).all (fun x => !x.1) && (backToKw cpos (keywordEach [] X.env)).all (fun x => x.1.isSome)
      && decide ((e :: es).length + ([] : List Keyword).length + (if ([] : List Keyword).isEmpty then 0 else 1) < 30)) = true := by rfl)
    (hline : (apos.endLine == cpos.line) = true := by rfl) (hs : starEach (e :: es) X.env = (false, eval e X.env) :: starEach es X.env := by rfl) (hplain : (backTo cpos (starEach es X.env)).any (·.1) = false := by rfl) :
    CE Θ X W (.Call (.Attribute o name apos) (e :: es) [] cpos) (eOp op (aCons (eTy T f) g)) :=
  let ⟨_, a1, a2⟩ := ho; let ⟨_, b1, b2⟩ := ha; ⟨_, pe_m pa slot hty hm a1 b1 hbase hfew hline hs hplain, snd_pm hr a2 b2⟩
/-! d.get(k, x) -/
def rGet2 (P : Program) (w : World) (K : PySem.W.Frag) : List V → Hp → VK → Prop := fun vs H Q => ∃ a y d o, vs = [.ref a, y, d] ∧ AGet P w K H a y o ∧ Q (o.getD d) H
theorem mt_get2 (hu : RoomN X.A) : MtR X "dict.get" (rM (rGet2 X.prog X.w X.K)) := by
  intro pins s σ H x xs v us Q I rx rxs h
  obtain ⟨a, y, d, o, e, g, q⟩ := h
  cases e
  cases rx
  obtain ⟨u1, u2, e, ry, rd⟩ := rxs.two
  subst e
  exact a_get2 hu I g ry rd fun w' s' I' rw' => ⟨_, H, I', rw', q⟩
def oGet2 : List O → Option O := fun os => match os with
  | [o, k, d] => match asDc o, asD k, d with
    | some kvs, some kd, .sh dd => if okKey kd && kindOk kvs kd then some (.sh ((dget kvs kd).getD dd)) else none
    | _, _, _ => none
  | _ => none
theorem oo3 {H Hm : Hp} {vs : List V} {a b c : O} (h : OOks P w K Θ H Hm vs [a, b, c]) : ∃ v u x, vs = [v, u, x] ∧ (∃ F, OOk P w K Θ H Hm v a F) ∧ (∃ F, OOk P w K Θ H Hm u b F) ∧ ∃ F, OOk P w K Θ H Hm x c F := by
  cases vs with
  | nil => exact h.elim
  | cons v vs =>
    obtain ⟨u, x, rfl, h2, h3⟩ := oo2 h.2
    exact ⟨v, u, x, rfl, h.1, h2, h3⟩
theorem opOk_get2 : OpOk P w K Θ (rGet2 P w K) oGet2 := fun H Hm vs os o s hs e Q q => by
  unfold oGet2 at e
  split at e
  · rename_i o1 o2 o3
    split at e
    · rename_i kvs kd dd e1 e2
      split at e
      · rename_i c
        cases e
        rw [Bool.and_eq_true] at c
        obtain ⟨v, u, x, rfl, ⟨F1, h1⟩, ⟨F2, h2⟩, ⟨F3, h3⟩⟩ := oo3 hs
        obtain ⟨a, rfl, hd⟩ := asDc_ok h1 s e1
        obtain ⟨ov, g, z⟩ := hd.get s (h2.full s e2) c.1 c.2
        refine ⟨a, u, x, ov, rfl, g, q _ H Hm noF (Fresh.refl s) ?_⟩
        rcases z with ⟨z1, rfl⟩ | ⟨d, v, z1, rfl, r⟩
        · rw [z1]; exact ⟨h3.1, rfl⟩
        · rw [z1]; exact ⟨r, rfl⟩
      · cases e
    · cases e
  · cases e
theorem ce_get2 {k : Nat} {o e1 e2 : Expr} {f g h : M R} {apos cpos : Pos} (hr : Room k X.A) (ho : CE Θ X W o f) (ha : CE Θ X W e1 g) (hb : CE Θ X W e2 h)
    (hbase : attributeBase o "get" X.env (eval o X.env) = eval o X.env := by rfl)
    (hfew : ((backTo cpos (starEach [e1, e2] X.env)).all (fun x => !x.1) && (backToKw cpos (keywordEach [] X.env)).all (fun x => x.1.isSome)
      && decide ([e1, e2].length + ([] : List Keyword).length + (if ([] : List Keyword).isEmpty then 0 else 1) < 30)) = true := by rfl)
    (hline : (apos.endLine == cpos.line) = true := by rfl) (hs : starEach [e1, e2] X.env = (false, eval e1 X.env) :: starEach [e2] X.env := by rfl) (hs2 : starEach [e2] X.env = (false, eval e2 X.env) :: starEach [] X.env := by rfl) (hplain : (backTo cpos (starEach [e2] X.env)).any (·.1) = false := by rfl) :
    CE Θ X W (.Call (.Attribute o "get" apos) [e1, e2] [] cpos) (eOp oGet2 (aCons (eTy "dict" f) (aCons g (aCons (eSh h) aNil)))) :=
  ce_pm opOk_get2 F.plainAttrs_dict F.slot_dict_get F.type_dict_get (mt_get2 (rN hr)) ho (ca_cons ha (ca_cons (ce_sh hb) ca_nil hs2) hs) hbase hfew hline hs hplain
/-! ### d[k] += e -/
def sAugD (i : Nat) (fk f : M R) (op : D → D → Option D) : SM := fun ρ => if slotIs "dict" i ρ then sE (mbind fk toSh) (fun k ρ1 => match ρ1[i]? with
  | some (some o) => if ofTy "dict" o then match oDGet [o, .sh k] with
    | some (.sh x) => sE (mbind f toSh) (fun y => match op x y with
      | some z => sE (mutAt opPut i [k, z]) fun _ ρ => some (.nx ρ)
      | none => fun _ => none) ρ1
    | _ => none else none
  | _ => none) ρ else none
def addI : D → D → Option D := fun x y => match x, y with
  | .int i, .int j => some (.int (i + j))
  | _, _ => none
def rGetA (P : Program) (w : World) (K : PySem.W.Frag) : V → V → Hp → VK → Prop := fun x y H Q => rDGet P w K x y H Q
theorem pget_d (hu : RoomN X.A) : PGet X (rDGet X.prog X.w X.K) := by
  intro pins s σ H o i ov iv Q I ro ri ⟨a, v, e, g, q⟩
  subst e
  cases ro
  exact a_getItem hu I g ri fun w' s' I' rw' => ⟨v, H, I', rw', q⟩
theorem oDGet_rel {H Hm : Hp} {o : O} {p : V} {F : Fp} {k x : D} {y : V} (h : OOk P w K Θ H Hm p o F) (hy : Rp P w K Hm y k) (s : Same Hm H) (e : oDGet [o, .sh k] = some (.sh x)) {Q : VK} (q : ∀ v, Rp P w K Hm v x → Q v H) : rDGet P w K p y H Q := by
  have e' : (match asDc o, asD (.sh k) with
    | some kvs, some kd => if okKey kd && kindOk kvs kd then (dget kvs kd).map O.sh else none
    | _, _ => none : Option O) = some (.sh x) := e
  cases e1 : asDc o with
  | none => rw [e1] at e'; cases e'
  | some kvs =>
    rw [e1] at e'
    change (if okKey k && kindOk kvs k then (dget kvs k).map O.sh else none) = some (.sh x) at e'
    split at e'
    · rename_i c
      rw [Bool.and_eq_true] at c
      obtain ⟨a, rfl, hd⟩ := asDc_ok h s e1
      obtain ⟨ov, g, z⟩ := hd.get s (hy.same s) c.1 c.2
      rcases z with ⟨z1, rfl⟩ | ⟨d, v, z1, rfl, r⟩
      · rw [z1] at e'; cases e'
      · rw [z1] at e'; cases e'
        exact ⟨a, v, rfl, g, q v r⟩
    · cases e'
theorem snds_augD {te to ti : TE} {i : Nat} {fk f : M R} {op : D → D → Option D} {tip : TIp} {tset : TSet} (hop : ∀ x y z vx vy H Hm Q, Rp P w K Hm vx x → Rp P w K Hm vy y → op x y = some z → (∀ v, Rp P w K Hm v z → Q v H) → tip vx vy H Q)
    (ht : ∀ o i v H Q, rPut P w K o [i, v] H (fun _ H' => Q H') → tset o i v H Q) (h : SndE P w K Θ W te f) (ho : SndE P w K Θ W to (eVar i)) (hk : SndE P w K Θ W ti fk) : SndS P w K Θ W io (tAugS to ti te (rDGet P w K) tip tset) (sAugD i fk f op) := fun σ H Hm ρ fp ok out e D q => by
  unfold sAugD at e
  split at e
  · rename_i c
    refine ho σ H Hm ρ fp ok _ (slotIs_own (by rw [c]; exact Bool.or_true _)) _ ?_
    intro x H1 Hm1 fp1 Fo1 ok1 hx d1 g1
    obtain ⟨hx, _, rfl⟩ := hx
    have q1 := q.grow (Keep.refl _ _) (g1.to (F2 := all fp1) fun p z => .inl z)
    rcases sE_inv e with ⟨k, ρ2, e2, e3⟩ | ⟨er, ρ2, e2, rfl⟩
    · refine snd_d hk σ H1 Hm1 ρ fp1 ok1 _ e2 _ ?_
      intro y H2 Hm2 fp2 Fo2 ok2 hy d2 g2
      obtain ⟨hy, rfl⟩ := hy
      have q2 := q1.grow (Keep.refl _ _) (g2.to (F2 := all fp2) fun p z => .inl z)
      split at e3
      · rename_i o eo
        split at e3
        · rename_i c2
          split at e3
          · rename_i d0 ed
            obtain ⟨u, eu, hu⟩ := ok2.at eo
            rw [hx] at eu; cases eu
            refine oDGet_rel hu hy ok2.sub ed fun v0 r0 => ?_
            rcases sE_inv e3 with ⟨y3, ρ3, e4, e5⟩ | ⟨er, ρ3, e4, rfl⟩
            · refine snd_d h σ H2 Hm2 ρ2 fp2 ok2 _ e4 _ ?_
              intro vy H3 Hm3 fp3 Fo3 ok3 hvy d3 g3
              obtain ⟨hvy, rfl⟩ := hvy
              have q3 := q2.grow (Keep.refl _ _) (g3.to (F2 := all fp3) fun p z => .inl z)
              cases ez : op d0 y3 with
              | none => simp only [ez] at e5; cases e5
              | some z =>
                simp only [ez] at e5
                refine hop d0 y3 z v0 vy H3 Hm3 _ (r0.up g3.sh) hvy ez fun vz rz => ?_
                rcases sE_inv e5 with ⟨r4, ρ4, e6, e7⟩ | ⟨er, ρ4, e6, rfl⟩
                · cases e7
                  refine ht _ _ _ _ _ (mutAt_snd (W := W) mut_put ok3 hx (.cons (hy.up g3.sh) (.cons rz .nil)) e6 (Q := fun _ H' => D.nx σ H') ?_)
                  intro z' H4 Hm4 fp4 Fo4 ok4 hz d4 g4
                  exact q3 σ H4 Hm4 fp4 ok4 (Keep.refl _ _) (g4.to fun p z => .inl z)
                · exact (mutAt_noerr e6).elim
            · refine snd_d h σ H2 Hm2 ρ2 fp2 ok2 _ e4 _ ?_
              exact fun cls dd H3 Hm3 fp3 ok3 x3 g3 => q2 cls dd σ H3 Hm3 fp3 ok3 (Keep.refl _ _) x3 g3
          · cases e3
        · cases e3
      · cases e3
    · refine snd_d hk σ H1 Hm1 ρ fp1 ok1 _ e2 _ ?_
      exact fun cls dd H2 Hm2 fp2 ok2 x2 g2 => q1 cls dd σ H2 Hm2 fp2 ok2 (Keep.refl _ _) x2 g2
  · cases e
theorem hop_add {x y z : D} {vx vy : V} {H Hm : Hp} {Q : VK} (h1 : Rp P w K Hm vx x) (h2 : Rp P w K Hm vy y) (e : addI x y = some z) (q : ∀ v, Rp P w K Hm v z → Q v H) : ipI (fun i j => i + j) vx vy H Q := by
  unfold addI at e
  split at e
  · cases e
    cases h1; cases h2
    exact ⟨_, _, rfl, rfl, q _ (.int _)⟩
  · cases e
theorem cs_augD {k : Nat} {i : Nat} {o ix e : Expr} {fk f : M R} {pos tpos : Pos} (hr : Room k X.A) (ho : CE Θ X W o (eVar i)) (hi : CE Θ X W ix fk) (h : CE Θ X W e f)
    (ha : ∀ ov iv new, augStore ix ov iv new = (do holding [new, ov, iv] (setItem ov iv new); release [new, ov, iv] []; pure .next) := by intros; rfl) : CS Θ X W io (.AugAssign (.Subscript o ix tpos) .Add e pos) (sAugD i fk f addI) :=
  let ⟨_, a1, a2⟩ := ho; let ⟨_, b1, b2⟩ := hi; let ⟨_, c1, c2⟩ := h
  ⟨_, ps_augS a1 b1 (pget_d (rN hr)) c1 ip_add (pset_put (rN hr)) ha, snds_augD (fun _ _ _ _ _ _ _ _ h1 h2 e q => hop_add h1 h2 e q) (fun _ _ _ _ _ z => z) c2 a2 b2⟩
/-! ### a, b = x, y: what is owned stays so -/
def pars : List Nat → List R → Env → Option Env
  | [], [], ρ => some ρ
  | i :: is, .v o :: rs, ρ => if i < ρ.length then pars is rs (ρ.set i (some o)) else none
  | _, _, _ => none
def tNames : List Nat → TGs
  | [] => gNil
  | i :: is => gCons (gName i) (tNames is)
theorem rlok_env {H Hm : Hp} {σ σ' : L2.St} {ρ ρ' ρ2 ρ3 : Env} : ∀ {is : List Nat} {rs : List R} {vs : List V} {F : Fp}, RLOk P w K Θ σ ρ H Hm vs rs F → pars is rs ρ2 = some ρ3 → RLOk P w K Θ σ' ρ' H Hm vs rs F
  | _, [], [], F, h, _ => h
  | _, [], _ :: _, F, h, _ => h.elim
  | _, _ :: _, [], F, h, _ => h.elim
  | [], _ :: _, _ :: _, F, h, e => by cases e
  | _ :: _, .pl _ :: _, _ :: _, F, h, e => by cases e
  | i :: is, .v o :: rs, v :: vs, F, ⟨F1, F2, h1, h2, d, e0⟩, e => by
    have e' : (if i < ρ2.length then pars is rs (ρ2.set i (some o)) else none) = some ρ3 := e
    by_cases hi : i < ρ2.length
    · rw [if_pos hi] at e'
      exact ⟨F1, F2, h1, rlok_env h2 e', d, e0⟩
    · rw [if_neg hi] at e'; cases e'
theorem pars_ok {H Hm : Hp} : ∀ {is : List Nat} {rs : List R} {vs : List V} {σ : L2.St} {ρ ρ' : Env} {fp : Nat → Fp} {F : Fp}, (∀ i ∈ is, i ∉ io) → Ok P w K Θ σ H Hm ρ fp → RLOk P w K Θ σ ρ H Hm vs rs F → (∀ p, F p → ¬ all fp p) → pars is rs ρ = some ρ' →
    ∀ {Q : L2.St → Hp → Prop}, (∀ σ' fp', Ok P w K Θ σ' H Hm ρ' fp' → Keep io σ σ' → (∀ p, all fp' p → orF (all fp) F p) → Q σ' H) → tNames is vs σ H Q
  | [], [], vs, σ, ρ, ρ', fp, F, _, ok, hr, _, e, Q, q => by
    cases e
    cases vs with
    | nil => exact ⟨rfl, q σ fp ok (Keep.refl _ _) fun p z => .inl z⟩
    | cons v vs => exact hr.elim
  | i :: is, .v o :: rs, vs, σ, ρ, ρ', fp, F, hio, ok, hr, dj, e, Q, q => by
    cases vs with
    | nil => exact hr.elim
    | cons v vs =>
      obtain ⟨F1, F2, h1, h2, d12, rfl⟩ := hr
      have e' : (if i < ρ.length then pars is rs (ρ.set i (some o)) else none) = some ρ' := e
      by_cases hi : i < ρ.length
      · rw [if_pos hi] at e'
        have ok1 := ok.put (i := i) (v := v) (o := o) (Fn := F1) (Up.refl _) ok.sub (fun _ _ _ _ _ z => z) (fun j p _ hp => (ok.fpNone p ⟨j, hp⟩).1) hi h1 (fun j p _ hp z => dj p (.inl z) ⟨j, hp⟩)
        have al : ∀ p, all (fun j => if j = i then F1 else fp j) p → orF (all fp) F1 p := fun p ⟨j, hj⟩ => by
          have hj' : (if j = i then F1 else fp j) p := hj
          by_cases hji : j = i
          · rw [if_pos hji] at hj'; exact .inr hj'
          · rw [if_neg hji] at hj'; exact .inl ⟨j, hj'⟩
        refine ⟨v, vs, rfl, pars_ok (fun j hj => hio j (List.mem_cons_of_mem _ hj)) ok1 (rlok_env h2 e') (fun p hp z => (al p z).elim (fun z => dj p (.inr hp) z) fun z => d12 p z hp) e' fun σ' fp' ok' k' s' => q σ' fp' ok' ((keep_set (hio i (List.mem_cons_self ..))).trans k') fun p z => (s' p z).elim (fun y => (al p y).imp id .inl) fun y => .inr (.inr y)⟩
      · rw [if_neg hi] at e'; cases e'
  | [], _ :: _, _, _, _, _, _, _, _, _, _, _, e, _, _ => by cases e
  | _ :: _, [], _, _, _, _, _, _, _, _, _, _, e, _, _ => by cases e
  | _ :: _, .pl _ :: _, _, _, _, _, _, _, _, _, _, _, e, _, _ => by cases e
def sPars (is : List Nat) (f : M (List R)) : SM := sE f fun rs ρ => if rs.length = is.length ∧ rs.length ≤ sizeLine then match pars is rs ρ with
  | some ρ1 => some (.nx ρ1)
  | none => none else none
theorem rlok_len {H Hm : Hp} {σ : L2.St} {ρ : Env} : ∀ {rs : List R} {vs : List V} {F : Fp}, RLOk P w K Θ σ ρ H Hm vs rs F → vs.length = rs.length
  | [], [], _, _ => rfl
  | _ :: _, _ :: _, _, ⟨_, _, _, h, _⟩ => by simp [rlok_len h]
  | [], _ :: _, _, h => h.elim
  | _ :: _, [], _, h => h.elim
theorem rlok_same {H Hm H' : Hp} {σ : L2.St} {ρ : Env} (k : ∀ p u, H p = some u → H' p = some u) (n : ∀ p u, H p = some u → Hm p = none → Hm p = none) : ∀ {rs : List R} {vs : List V} {F : Fp}, RLOk P w K Θ σ ρ H Hm vs rs F → RLOk P w K Θ σ ρ H' Hm vs rs F
  | [], [], _, h => h
  | r :: _, _ :: _, _, ⟨F1, F2, h1, h2, d, e⟩ => by
    refine ⟨F1, F2, ?_, rlok_same k n h2, d, e⟩
    cases r with
    | pl i => exact h1
    | v o => exact OOk.move h1 (Up.refl _) (fun p u _ z => k p u z) fun p hp => (OOk.own h1 p hp).2
  | [], _ :: _, _, h => h.elim
  | _ :: _, [], _, h => h.elim
theorem snds_pars {is : List Nat} {ta : TA} {f : M (List R)} {n : Nat} (hn : is.length = n) (hio : ∀ i ∈ is, i ∉ io) (h : SndA P w K Θ W ta f) : SndS P w K Θ W io (tAsg (tTup ta) (gTup K n (tNames is))) (sPars is f) := by
  refine Snd.stmt h (u := fun xs D σ H1 => xs.length ≤ sizeLine ∧ ∀ p, H1 p = none → gTup K n (tNames is) (.ref p) σ (upd H1 p (.tup xs)) D.nx) fun rs vs σ H Hm ρ fp Fo ok hr dd out e D q => ?_
  split at e
  · rename_i hl
    split at e
    · rename_i ρ1 e1
      cases e
      have lv := rlok_len hr
      refine ⟨by omega, fun p hp => ⟨p, vs, rfl, SqT.of upd_same, by omega, ?_⟩⟩
      have k : ∀ a u, H a = some u → upd H p (.tup vs) a = some u := fun a u z => by rw [upd_ne (ne_of_none z hp)]; exact z
      have ok1 : Ok P w K Θ σ (upd H p (.tup vs)) Hm ρ fp := ok.move (Up.refl _) (fun a u z => k a u (ok.sub _ _ z)) (fun a u _ z => k a u z) fun a ha => (ok.fpNone a ha).1
      exact pars_ok hio ok1 (rlok_same k (fun _ _ _ z => z) hr) dd e1 fun σ' fp' ok' k' s' => q σ' _ Hm fp' ok' k' ⟨Up.refl _, fun a u h1 h2 h3 => ⟨k a u h1, h2, fun z => h3 (s' a z)⟩⟩
    · cases e
  · cases e
theorem tNames2 {i j : Nat} {vs : List V} {σ : L2.St} {H : Hp} {Q : L2.St → Hp → Prop} (h : tNames [i, j] vs σ H Q) : ∃ v u, vs = [v, u] ∧ Q ((σ.set i (some v)).set j (some u)) H := by
  obtain ⟨v, r, e, h⟩ := h
  obtain ⟨u, r2, e2, h⟩ := h
  obtain ⟨e3, h⟩ := h
  subst e3 e2 e
  exact ⟨v, u, rfl, h⟩
theorem tNames3 {i j l : Nat} {vs : List V} {σ : L2.St} {H : Hp} {Q : L2.St → Hp → Prop} (h : tNames [i, j, l] vs σ H Q) : ∃ v u x, vs = [v, u, x] ∧ Q (((σ.set i (some v)).set j (some u)).set l (some x)) H := by
  obtain ⟨v, r, e, h⟩ := h
  obtain ⟨u, x, e2, h2⟩ := tNames2 (i := j) (j := l) (σ := σ.set i (some v)) (H := H) h
  subst e2 e
  exact ⟨v, u, x, rfl, h2⟩
theorem snds_par0 {is : List Nat} {ta : TA} {f : M (List R)} {u : List V → TS} (hio : ∀ i ∈ is, i ∉ io) (hu : ∀ vs σ H D, tNames is vs σ H D.nx → u vs D σ H) (h : SndA P w K Θ W ta f) : SndS P w K Θ W io (fun D σ H => ta σ H fun vs H1 => u vs D σ H1) (sPars is f) := by
  refine Snd.stmt h (u := u) fun rs vs σ H Hm ρ fp Fo ok hr dd out e D q => ?_
  split at e
  · rename_i hl
    split at e
    · rename_i ρ1 e1
      cases e
      exact hu _ _ _ _ (pars_ok hio ok hr dd e1 fun σ' fp' ok' k' s' => q σ' _ Hm fp' ok' k' ⟨Up.refl _, fun a u h1 h2 h3 => ⟨h1, h2, fun z => h3 (s' a z)⟩⟩)
    · cases e
  · cases e
theorem cs_par2 {i j : Nat} {x y : Str} {a b : Expr} {f : M (List R)} {px py pt pos : Pos} {kt k2 pt2} (hc : X.calm = true) (hN : X.N.Nodup) (hio : ∀ l ∈ [i, j], l ∉ io) (ha : CA Θ X W [a, b] f) (hij : i ≠ j := by decide) (hi : X.N[i]? = some x := by rfl) (hj : X.N[j]? = some y := by rfl)
    (hx : X.env.scope.names.lookup x = some .local := by rfl) (hy : X.env.scope.names.lookup y = some .local := by rfl)
    (hw : swappedStores [.Tuple [.Name x px, .Name y py] kt pt] (.Tuple [a, b] k2 pt2) X.env = pure (some [x, y]) := by rfl) (hs : swapsWithSole [.Tuple [.Name x px, .Name y py] kt pt] (.Tuple [a, b] k2 pt2) pos.line X.env = pure false := by rfl) :
    CS Θ X W io (.Assign [.Tuple [.Name x px, .Name y py] kt pt] (.Tuple [a, b] k2 pt2) pos) (sPars [i, j] f) :=
  let ⟨_, a1, a2⟩ := ha; ⟨_, ps_par hc hN hi hj hij hx hy a1 hw hs, snds_par0 hio (fun _ _ _ _ z => tNames2 z) a2⟩
theorem cs_par3 {i j l : Nat} {x y z : Str} {a b c : Expr} {f : M (List R)} {px py pz pt pos : Pos} {kt k2 pt2} (hc : X.calm = true) (hN : X.N.Nodup) (hio : ∀ m ∈ [i, j, l], m ∉ io) (ha : CA Θ X W [a, b, c] f) (hij : i ≠ j := by decide) (hil : i ≠ l := by decide) (hjl : j ≠ l := by decide) (hi : X.N[i]? = some x := by rfl) (hj : X.N[j]? = some y := by rfl) (hl : X.N[l]? = some z := by rfl)
    (hx : X.env.scope.names.lookup x = some .local := by rfl) (hy : X.env.scope.names.lookup y = some .local := by rfl) (hz : X.env.scope.names.lookup z = some .local := by rfl)
    (hw : swappedStores [.Tuple [.Name x px, .Name y py, .Name z pz] kt pt] (.Tuple [a, b, c] k2 pt2) X.env = pure (some [x, y, z]) := by rfl) (hs : swapsWithSole [.Tuple [.Name x px, .Name y py, .Name z pz] kt pt] (.Tuple [a, b, c] k2 pt2) pos.line X.env = pure false := by rfl) :
    CS Θ X W io (.Assign [.Tuple [.Name x px, .Name y py, .Name z pz] kt pt] (.Tuple [a, b, c] k2 pt2) pos) (sPars [i, j, l] f) :=
  let ⟨_, a1, a2⟩ := ha; ⟨_, ps_par3 hc hN hi hj hl hij hil hjl hx hy hz a1 hw hs, snds_par0 hio (fun _ _ _ _ z => tNames3 z) a2⟩
/-- names, in a row -/
def CNs (X : Cx) (ts : List Expr) (is : List Nat) : Prop := PGs X ts (tNames is)
theorem cns_nil : CNs X [] [] := pgs_nil
theorem cns_cons {i : Nat} {is : List Nat} {x : Str} {p : Pos} {es : List Expr} (hN : X.N.Nodup) (h : CNs X es is) (hi : X.N[i]? = some x := by rfl) (hx : Loc X.env.scope x := by first | exact Or.inl rfl | exact Or.inr rfl) (hf : X.fn x = true ∨ X.env.scope.names.lookup x = some .local := by first | exact .inl rfl | exact .inr rfl)
    (hs : (assignEach (.Name x p :: es) X.env).map (fun z => z.2) = assign (.Name x p) X.env :: (assignEach es X.env).map (fun z => z.2) := by rfl) : CNs X (.Name x p :: es) (i :: is) := pgs_cons (pg_name hN hi hx hf) h hs
theorem cs_parN {n : Nat} {is : List Nat} {ts es : List Expr} {f : M (List R)} {kt k2 : Nat} {pt pt2 pos : Pos} (hc : X.calm = true) (hn : is.length = n) (hio : ∀ i ∈ is, i ∉ io) (ht : CNs X ts is) (ha : CA Θ X W es f) (hl : (assignEach ts X.env).length = n := by rfl) (hst : (assignEach ts X.env).findIdx? (fun z => z.1) = none := by rfl)
    (hs : swapsWithSole [.Tuple ts kt pt] (.Tuple es k2 pt2) pos.line X.env = pure false := by rfl) (hw : swappedStores [.Tuple ts kt pt] (.Tuple es k2 pt2) X.env = pure none := by rfl) (h1 : (assignEach [.Tuple ts kt pt] X.env).map (·.2) = [assign (.Tuple ts kt pt) X.env] := by rfl) :
    CS Θ X W io (.Assign [.Tuple ts kt pt] (.Tuple es k2 pt2) pos) (sPars is f) :=
  let ⟨_, a1, a2⟩ := ha; ⟨_, ps_asg (pe_tup a1) (pg_tup hc ht hl hst) hs hw h1, snds_pars hn hio a2⟩
end
end Wl

/- text WlT -/
set_option Elab.async false
set_option maxRecDepth 100000
namespace Wl
open PySem PySem.Spec L2
open PyProof.Rows hiding St
section
variable {P : Program} {w : World} {K : PySem.W.Frag} {mg : Str → Option Value} {base : Heap} {N : List Str} {qual : Str} {sc : Scope} {f : Addr} {cdv : Value} {A : Around} {outer : List PySem.Env} {s : Shared} {H : Hp} {E : XK}
theorem tkd : Takes (cxOf (L2.CX P w) P w K mg base N qual sc f cdv A outer s H E) (fun cls d _ H => E cls d H) := takes_of rfl rfl rfl rfl
theorem hp0 : PassesOwn (model (cxOf (L2.CX P w) P w K mg base N qual sc f cdv A outer s H E).prog (cxOf (L2.CX P w) P w K mg base N qual sc f cdv A outer s H E).w) (cxOf (L2.CX P w) P w K mg base N qual sc f cdv A outer s H E).A (cxOf (L2.CX P w) P w K mg base N qual sc f cdv A outer s H E).env (cxOf (L2.CX P w) P w K mg base N qual sc f cdv A outer s H E).xe := passes_of rfl
theorem tk0 {X : Cx} : Takes X W0 := fun u s' ⟨a, B, sI, pins, σ, H, cls, d, e, I, nb, up, sky, na, os, ag, w⟩ => w.elim
theorem FnAt.mono {Θ : Nat → ObSem} {x : Str} {j k np : Nat} {φ : Fn} (h : FnAt P w K mg base Θ x j np φ) (l : j ≤ k) : FnAt P w K mg base Θ x k np φ :=
  let ⟨f, fd, ps, a, b, c, d⟩ := h.at_; ⟨f, fd, ps, a, b, c, d.mono l⟩
theorem kt_str (K : PySem.W.Frag) : ∀ t ∈ ["NoneType", "bool", "int", "str", "list", "tuple"], PySem.W.kitOne K (.type t) (.type "str") = some (subTy t "str") := by
  intro t ht
  simp only [List.mem_cons, List.not_mem_nil, or_false] at ht
  rcases ht with rfl | rfl | rfl | rfl | rfl | rfl <;> rfl
theorem kt_list (K : PySem.W.Frag) : ∀ t ∈ ["NoneType", "bool", "int", "str", "list", "tuple"], PySem.W.kitOne K (.type t) (.type "list") = some (subTy t "list") := by
  intro t ht
  simp only [List.mem_cons, List.not_mem_nil, or_false] at ht
  rcases ht with rfl | rfl | rfl | rfl | rfl | rfl <;> rfl
theorem kt_tuple (K : PySem.W.Frag) : ∀ t ∈ ["NoneType", "bool", "int", "str", "list", "tuple"], PySem.W.kitOne K (.type t) (.type "tuple") = some (subTy t "tuple") := by
  intro t ht
  simp only [List.mem_cons, List.not_mem_nil, or_false] at ht
  rcases ht with rfl | rfl | rfl | rfl | rfl | rfl <;> rfl
theorem kt_int (K : PySem.W.Frag) : ∀ t ∈ ["NoneType", "bool", "int", "str", "list", "tuple"], PySem.W.kitOne K (.type t) (.type "int") = some (subTy t "int") := by
  intro t ht
  simp only [List.mem_cons, List.not_mem_nil, or_false] at ht
  rcases ht with rfl | rfl | rfl | rfl | rfl | rfl <;> rfl
theorem kt_bool (K : PySem.W.Frag) : ∀ t ∈ ["NoneType", "bool", "int", "str", "list", "tuple"], PySem.W.kitOne K (.type t) (.type "bool") = some (subTy t "bool") := by
  intro t ht
  simp only [List.mem_cons, List.not_mem_nil, or_false] at ht
  rcases ht with rfl | rfl | rfl | rfl | rfl | rfl <;> rfl
end
section
variable {P : Program} {w : World} {K : PySem.W.Frag} {Θ : Nat → ObSem} {W : WX} {X : Cx} {io : List Nat}
/-! ### comparisons as tests -/
theorem ct_ltA {k : Nat} {a b : Expr} {f g : M R} {pos : Pos} (hr : Room k X.A) (ha : CE Θ X W a f) (hb : CE Θ X W b g) (hm : behindInMarks .Lt b = false := by exact nomark _) : CT Θ X W (.Compare a [.Lt] [b] pos) (tBool (e2 (oSc (dOrd cLt)) f g)) := ct_cmp (opOk_sc sc_ord) (or_ordLt (uO hr)) ha hb hm
theorem ct_gtA {k : Nat} {a b : Expr} {f g : M R} {pos : Pos} (hr : Room k X.A) (ha : CE Θ X W a f) (hb : CE Θ X W b g) (hm : behindInMarks .Gt b = false := by exact nomark _) : CT Θ X W (.Compare a [.Gt] [b] pos) (tBool (e2 (oSc (dOrd cGt)) f g)) := ct_cmp (opOk_sc sc_ord) (or_ordGt (uO hr)) ha hb hm
theorem ct_leA {k : Nat} {a b : Expr} {f g : M R} {pos : Pos} (hr : Room k X.A) (ha : CE Θ X W a f) (hb : CE Θ X W b g) (hm : behindInMarks .LtE b = false := by exact nomark _) : CT Θ X W (.Compare a [.LtE] [b] pos) (tBool (e2 (oSc (dOrd cLe)) f g)) := ct_cmp (opOk_sc sc_ord) (or_ordLe (uO hr)) ha hb hm
theorem ct_geA {k : Nat} {a b : Expr} {f g : M R} {pos : Pos} (hr : Room k X.A) (ha : CE Θ X W a f) (hb : CE Θ X W b g) (hm : behindInMarks .GtE b = false := by exact nomark _) : CT Θ X W (.Compare a [.GtE] [b] pos) (tBool (e2 (oSc (dOrd cGe)) f g)) := ct_cmp (opOk_sc sc_ord) (or_ordGe (uO hr)) ha hb hm
theorem tB_or {p q : List O → Option O} {f : M (List R)} {ρ : Env} {r : Res Bool} (e : tBool (eOp (orO p q) f) ρ = some r) : tBool (eOp p f) ρ = some r ∨ tBool (eOp q f) ρ = some r := by
  rcases mbind_inv e with ⟨x, ρ1, e1, e2⟩ | ⟨er, e1, rfl⟩
  · rcases eOp_or e1 with h | h
    · exact .inl (by unfold tBool; rw [mbind_ok h]; exact e2)
    · exact .inr (by unfold tBool; rw [mbind_ok h]; exact e2)
  · rcases eOp_or e1 with h | h
    · exact .inl (by unfold tBool; rw [mbind_er h])
    · exact .inr (by unfold tBool; rw [mbind_er h])
theorem pt_or2 {e : Expr} {t u : TT} (h1 : PT X e t) (h2 : PT X e u) : PT X e (fun σ H Q => t σ H Q ∨ u σ H Q) := ⟨fun pins s σ H Q I h => h.elim (h1.run pins s σ H Q I) (h2.run pins s σ H Q I)⟩
theorem ct_alt {e : Expr} {p q : List O → Option O} {f : M (List R)} (h1 : CT Θ X W e (tBool (eOp p f))) (h2 : CT Θ X W e (tBool (eOp q f))) : CT Θ X W e (tBool (eOp (orO p q) f)) :=
  let ⟨_, a1, a2⟩ := h1; let ⟨_, b1, b2⟩ := h2; ⟨_, pt_or2 a1 b1, snd_or2 (fun _ _ => tB_or) a2 b2⟩
theorem ct_isin {k : Nat} {a b : Expr} {f g : M R} {pos : Pos} (hr : Room k X.A) (ha : CE Θ X W a f) (hb : CE Θ X W b g) (hm : behindInMarks .In b = false := by rfl) : CT Θ X W (.Compare a [.In] [b] pos) (tBool (e2 oIn f g)) :=
  ct_alt (ct_cmp opOk_din (or_in (rN hr)) ha hb hm) (ct_alt (ct_in hr ha hb hm) (ct_cmp (opOk_sc sc_inS) op_inS ha hb hm))
theorem ct_notin {k : Nat} {a b : Expr} {f g : M R} {pos : Pos} (hr : Room k X.A) (ha : CE Θ X W a f) (hb : CE Θ X W b g) (hm : behindInMarks .NotIn b = false := by rfl) : CT Θ X W (.Compare a [.NotIn] [b] pos) (tBool (e2 oNotIn f g)) :=
  ct_alt (ct_cmp opOk_din (or_notIn (rN hr)) ha hb hm) (ct_notIn hr ha hb hm)
theorem ct_isN {a : Expr} {f : M R} {j : Nat} {pos pos' : Pos} (ha : CE Θ X W a f) : CT Θ X W (.Compare a [.Is] [.Constant .none j pos'] pos) (tBool (e1 (oSc (dIsN false)) f)) := by
  obtain ⟨t, h1, h2⟩ := ha
  refine ⟨_, pt_cmp (pc_isN h1) rfl, ?_⟩
  refine snd_tB (snd_op1 (r := fun x H Q => Q (.bl (decide (x = .non))) H) (opOk_sc fun H vs ds r hs e Q q => by
    unfold dIsN at e
    split at e
    · rename_i d
      cases e
      obtain ⟨v, rfl, h⟩ := rp1 hs
      show Q (.bl (decide (v = .non))) H
      rw [rp_non h]
      exact q _ fun _ => by cases d <;> exact .bl _
    · cases e) h2)
theorem ct_notN {a : Expr} {f : M R} {j : Nat} {pos pos' : Pos} (ha : CE Θ X W a f) : CT Θ X W (.Compare a [.IsNot] [.Constant .none j pos'] pos) (tBool (e1 (oSc (dIsN true)) f)) := by
  obtain ⟨t, h1, h2⟩ := ha
  refine ⟨_, pt_cmp (pc_notN h1) rfl, ?_⟩
  refine snd_tB (snd_op1 (r := fun x H Q => Q (.bl (!decide (x = .non))) H) (opOk_sc fun H vs ds r hs e Q q => by
    unfold dIsN at e
    split at e
    · rename_i d
      cases e
      obtain ⟨v, rfl, h⟩ := rp1 hs
      show Q (.bl (!decide (v = .non))) H
      rw [rp_non h]
      exact q _ fun _ => by cases d <;> exact .bl _
    · cases e) h2)
end
end Wl

/- text WlU -/
set_option Elab.async false
set_option maxRecDepth 100000
namespace Wl
open PySem PySem.Spec L2
open PyProof.Rows hiding St

/-! ### owned things with owned parts -/
/-- s: shared; l: an owned list; d: an owned dict; r: an owned dict, its keys ints and texts, its values by c -/
inductive Shp where
  | s
  | l
  | d
  | r (c : Key → Shp)
def nkOf : List (D × D) → Bool
  | [] => false
  | (k, _) :: _ => isT k
mutual
inductive TR (P : Program) (w : World) (K : PySem.W.Frag) (H Hm : Hp) : Shp → V → D → Fp → Prop
  | s {v : V} {d : D} : Rp P w K Hm v d → TR P w K H Hm .s v d noF
  | l {p : Addr} {xs : List V} {ds : List D} : H p = some (.lst xs) → Hm p = none → RpL P w K Hm xs ds → TR P w K H Hm .l (.ref p) (.list ds) (one p)
  | d {p : Addr} {kvs : List (D × D)} : DcAt P w K H Hm p (nkOf kvs) kvs → Hm p = none → TR P w K H Hm .d (.ref p) (.dict kvs) (one p)
  | r {p : Addr} {ks : List (Key × V)} {kvs : List (D × D)} {c : Key → Shp} {F : Fp} : H p = some (.dK ks) → Hm p = none → TRs P w K H Hm c ks kvs F → ¬ F p → (ks.map (·.1)).Nodup → TR P w K H Hm (.r c) (.ref p) (.dict kvs) (orF (one p) F)
inductive TRs (P : Program) (w : World) (K : PySem.W.Frag) (H Hm : Hp) : (Key → Shp) → List (Key × V) → List (D × D) → Fp → Prop
  | nil {c : Key → Shp} : TRs P w K H Hm c [] [] noF
  | cons {c : Key → Shp} {k : Key} {v : V} {d : D} {ks : List (Key × V)} {kvs : List (D × D)} {F G : Fp} : TR P w K H Hm (c k) v d F → TRs P w K H Hm c ks kvs G → (∀ p, F p → ¬ G p) → TRs P w K H Hm c ((k, v) :: ks) ((kD k, d) :: kvs) (orF F G)
end
section
variable {P : Program} {w : World} {K : PySem.W.Frag} {Θ : Nat → ObSem} {W : WX} {X : Cx} {io : List Nat} {H Hm H' Hm' : Hp}
mutual
theorem TR.own : ∀ {sh : Shp} {v : V} {d : D} {F : Fp}, TR P w K H Hm sh v d F → ∀ p, F p → (∃ o, H p = some o ∧ Mut (some o)) ∧ Hm p = none
  | _, _, _, _, .s _, _, h => h.elim
  | _, _, _, _, .l h1 h2 _, p, h => by cases (show p = _ from h); exact ⟨⟨_, h1, trivial⟩, h2⟩
  | _, _, _, _, .d (kvs := kvs) h1 h2, p, h => by
    cases (show p = _ from h)
    refine ⟨?_, h2⟩
    cases e : nkOf kvs with
    | false => rw [e] at h1; obtain ⟨ks, h3, _⟩ := h1; exact ⟨_, h3, trivial⟩
    | true => rw [e] at h1; obtain ⟨ks, h3, _⟩ := h1; exact ⟨_, h3, trivial⟩
  | _, _, _, _, .r h1 h2 h3 _ _, p, h => by
    rcases h with h | h
    · cases (show p = _ from h); exact ⟨⟨_, h1, trivial⟩, h2⟩
    · exact TRs.own h3 p h
theorem TRs.own : ∀ {c : Key → Shp} {ks : List (Key × V)} {kvs : List (D × D)} {F : Fp}, TRs P w K H Hm c ks kvs F → ∀ p, F p → (∃ o, H p = some o ∧ Mut (some o)) ∧ Hm p = none
  | _, _, _, _, .nil, _, h => h.elim
  | _, _, _, _, .cons h1 h2 _, p, h => h.elim (TR.own h1 p) (TRs.own h2 p)
end
mutual
theorem TR.move (e : Up Hm Hm') : ∀ {sh : Shp} {v : V} {d : D} {F : Fp}, TR P w K H Hm sh v d F → (∀ p o, F p → H p = some o → H' p = some o) → (∀ p, F p → Hm' p = none) → TR P w K H' Hm' sh v d F
  | _, _, _, _, .s h, _, _ => .s (h.up e)
  | _, _, _, _, .l h1 h2 h3, k, n => .l (k _ _ rfl h1) (n _ rfl) (h3.up e)
  | _, _, _, _, .d h1 h2, k, n => .d (h1.to (fun u z => k _ _ rfl z) e) (n _ rfl)
  | _, _, _, _, .r h1 h2 h3 h4 h5, k, n => .r (k _ _ (.inl rfl) h1) (n _ (.inl rfl)) (TRs.move e h3 (fun p o h => k p o (.inr h)) fun p h => n p (.inr h)) h4 h5
theorem TRs.move (e : Up Hm Hm') : ∀ {c : Key → Shp} {ks : List (Key × V)} {kvs : List (D × D)} {F : Fp}, TRs P w K H Hm c ks kvs F → (∀ p o, F p → H p = some o → H' p = some o) → (∀ p, F p → Hm' p = none) → TRs P w K H' Hm' c ks kvs F
  | _, _, _, _, .nil, _, _ => .nil
  | _, _, _, _, .cons h1 h2 h3, k, n => .cons (TR.move e h1 (fun p o h => k p o (.inl h)) fun p h => n p (.inl h)) (TRs.move e h2 (fun p o h => k p o (.inr h)) fun p h => n p (.inr h)) h3
end
/-- lent, it is shared data -/
theorem dcAt_rp {B : Hp} {p : Addr} {nk : Bool} {kvs : List (D × D)} (h : DcAt P w K H Hm p nk kvs) (e : Rdd Hm B) (k : ∀ o, H p = some o → B p = some o) : Rp P w K B (.ref p) (.dict kvs) := by
  cases nk with
  | false => obtain ⟨ks, h1, h2⟩ := h; exact .dk (.inl (k _ h1)) (h2.mono e)
  | true => obtain ⟨xs, h1, h2⟩ := h; exact .dn (.inl (k _ h1)) (h2.mono e)
mutual
theorem TR.rp {B : Hp} (e : Rdd Hm B) : ∀ {sh : Shp} {v : V} {d : D} {F : Fp}, TR P w K H Hm sh v d F → (∀ p o, F p → H p = some o → B p = some o) → Rp P w K B v d
  | _, _, _, _, .s h, _ => h.mono e
  | _, _, _, _, .l h1 h2 h3, k => .lst (SqL.of (k _ _ rfl h1)) (h3.mono e)
  | _, _, _, _, .d h1 h2, k => dcAt_rp h1 e fun o z => k _ _ rfl z
  | _, _, _, _, .r h1 h2 h3 h4 _, k => .dk (.inl (k _ _ (.inl rfl) h1)) (TRs.rp e h3 fun p o h => k p o (.inr h))
theorem TRs.rp {B : Hp} (e : Rdd Hm B) : ∀ {c : Key → Shp} {ks : List (Key × V)} {kvs : List (D × D)} {F : Fp}, TRs P w K H Hm c ks kvs F → (∀ p o, F p → H p = some o → B p = some o) → RpK P w K B ks kvs
  | _, _, _, _, .nil, _ => .nil
  | _, _, _, _, .cons h1 h2 _, k => .cons (TR.rp e h1 fun p o h => k p o (.inl h)) (TRs.rp e h2 fun p o h => k p o (.inr h))
end
def tSem (P : Program) (w : World) (sh : Shp) : ObSem where
  holds K H Hm v d F := TR P w K H Hm sh v d F
  grow := fun h e k n => TR.move e h k n
  own := fun h p hp => let ⟨⟨o, a, _⟩, b⟩ := TR.own h p hp; ⟨⟨o, a⟩, b⟩

/-! ### data without lists and dicts -/
mutual
def noMut : D → Bool
  | .list _ => false
  | .dict _ => false
  | .tuple ds => noMuts ds
  | _ => true
def noMuts : List D → Bool
  | [] => true
  | d :: ds => noMut d && noMuts ds
end
def Rdt (A B : Hp) : Prop := ∀ a xs, Rd A a (.tup xs) → Rd B a (.tup xs)
mutual
theorem Rp.thin {A B : Hp} (e : Rdt A B) : ∀ {v : V} {d : D}, Rp P w K A v d → noMut d = true → Rp P w K B v d
  | _, _, .non, _ => .non
  | _, _, .bl b, _ => .bl b
  | _, _, .int i, _ => .int i
  | _, _, .str x, _ => .str x
  | _, _, .lst _ _, h => by simp [noMut] at h
  | _, _, .tup h r, c => .tup (h.imp (e _ _) id) (RpL.thin e r (by simpa [noMut] using c))
  | _, _, .dk _ _, h => by simp [noMut] at h
  | _, _, .dn _ _, h => by simp [noMut] at h
theorem RpL.thin {A B : Hp} (e : Rdt A B) : ∀ {v : List V} {d : List D}, RpL P w K A v d → noMuts d = true → RpL P w K B v d
  | _, _, .nil, _ => .nil
  | _, _, .cons h r, c => by
    simp only [noMuts, Bool.and_eq_true] at c
    exact .cons (Rp.thin e h c.1) (RpL.thin e r c.2)
end
theorem RpK.thin {A B : Hp} (e : Rdt A B) : ∀ {ks : List (Key × V)} {kvs : List (D × D)}, RpK P w K A ks kvs → noMuts (kvs.map (·.2)) = true → RpK P w K B ks kvs
  | _, _, .nil, _ => .nil
  | _, _, .cons h r, c => by
    simp only [List.map_cons, noMuts, Bool.and_eq_true] at c
    exact .cons (Rp.thin e h c.1) (RpK.thin e r c.2)
theorem RpN.thin {A B : Hp} (e : Rdt A B) : ∀ {ks : List (NestedKey × Addr × Value)} {kvs : List (D × D)}, RpN P w K A ks kvs → noMuts (kvs.map (·.1)) = true → noMuts (kvs.map (·.2)) = true → RpN P w K B ks kvs
  | _, _, .nil, _, _ => .nil
  | _, _, .cons k1 k2 k3 k4 k5 r, b, c => by
    simp only [List.map_cons, noMuts, Bool.and_eq_true] at b c
    exact .cons k1 k2 (Rp.thin e k3 b.1) k4 (Rp.thin e k5 c.1) (RpN.thin e r b.2 c.2)
/-- what an owned thing or a result holds is such -/
def thinO : O → Bool
  | .sh d => noMut d
  | .ol ds => noMuts ds
  | .od _ kvs => noMuts (kvs.map (·.1)) && noMuts (kvs.map (·.2))
  | .ob _ _ => false
/-! ### unlocking -/
open Classical in
noncomputable def unl (F : Fp) (H : Hp) : Hp := fun a => if F a then (match H a with
  | some (.frz _ u) => some u
  | x => x) else H a
theorem unl_out {F : Fp} {a : Addr} (h : ¬ F a) : unl F H a = H a := if_neg h
theorem unl_none {F : Fp} {a : Addr} (h : H a = none) : unl F H a = none := by
  unfold unl
  split
  · rw [h]
  · exact h
theorem unl_pl {F : Fp} {a : Addr} {u : HO} (h : H a = some u) (n : ∀ o x, u ≠ .frz o x) : unl F H a = some u := by
  unfold unl
  split
  · rw [h]
    cases u <;> first | rfl | exact absurd rfl (n _ _)
  · exact h
theorem unl_frz {F : Fp} {a : Addr} {u : HO} {o : Obj} (hF : F a) (h : H a = some (.frz o u)) : unl F H a = some u := by
  unfold unl
  rw [if_pos hF, h]
theorem Inv.unl {pins : List (Addr × Obj)} {σ : L2.St} {s : Shared} {F : Fp} (I : Inv X pins σ H s) (hn : ∀ a, F a → ∀ o' u', X.H_0 a ≠ some (.frz o' u')) : Inv X pins σ (Wl.unl F H) s := by
  have up : ∀ {b : Addr} {u : HO}, ObjOk X.prog X.w H s.heap b u → ObjOk X.prog X.w (Wl.unl F H) s.heap b u := fun x => x.stay (fun _ _ _ q => q) (fun c q => unl_pl q fun _ _ z => nomatch z) fun c xs q => unl_pl q fun _ _ z => nomatch z
  refine ⟨I.ok, I.os, I.bare, ⟨I.base.keep, I.base.slot, fun b o e n hx => unl_none (I.base.free b o e n hx), I.base.there, fun b xs e => unl_pl (I.base.tups b xs e) (fun _ _ z => nomatch z), fun b o x e => ?_, fun b ps e => ?_⟩, I.loc, I.cell, unl_none I.free, fun x c e => unl_none (I.freeC x c e), fun p hp => ?_, fun b o e => ?_, I.len⟩
  · rw [unl_out fun hb => hn b hb _ _ e]; exact I.base.frzs b o x e
  · obtain ⟨m, q⟩ := I.base.tbls b ps e
    exact ⟨m, unl_pl q (fun _ _ z => nomatch z)⟩
  · obtain ⟨e, n, r⟩ := I.pin p hp
    exact ⟨e, unl_none n, r⟩
  · cases e1 : H b with
    | none => rw [unl_none e1] at e; cases e
    | some u =>
      by_cases hb : F b
      · by_cases hf : ∃ ob x, u = .frz ob x
        · obtain ⟨ob, x, rfl⟩ := hf
          rw [unl_frz hb e1] at e; cases e
          exact up (I.hok b _ e1).2
        · rw [unl_pl e1 fun o x z => hf ⟨o, x, z⟩] at e; cases e
          exact up (I.hok b _ e1)
      · rw [unl_out hb, e1] at e; cases e
        exact up (I.hok b _ e1)
def tUnl {β : Type} (t : L2.St → Hp → (β → Hp → Prop) → Prop) : L2.St → Hp → (β → Hp → Prop) → Prop := fun σ H Q => ∃ F : Fp, (∀ a, F a → ∃ u, H a = some u ∧ Mut (some u)) ∧ t σ H fun v H1 => Q v (unl F H1)
theorem nofrz0 {pins : List (Addr × Obj)} {σ : L2.St} {s : Shared} {F : Fp} (I : Inv X pins σ H s) (h : ∀ a, F a → ∃ u, H a = some u ∧ Mut (some u)) : ∀ a, F a → ∀ o' u', X.H_0 a ≠ some (.frz o' u') := fun a ha => by
  obtain ⟨u, e, mu⟩ := h a ha
  exact I.nofrz e mu
theorem pe_unl {e : Expr} {t : TE} (h : PE X e t) : PE X e (tUnl t) := ⟨fun pins s σ H Q I ⟨F, hF, q⟩ => thn (h.run pins s σ H _ I q) fun v s1 ⟨x, H1, I1, r, q1⟩ => ⟨x, _, Inv.unl I1 (nofrz0 I hF), r, q1⟩⟩
theorem pt_unl {e : Expr} {t : TT} (h : PT X e t) : PT X e (tUnl t) := ⟨fun pins s σ H Q I ⟨F, hF, q⟩ => wpAny_mono (h.run pins s σ H _ I q) (fun v s1 ⟨H1, I1, q1⟩ => ⟨_, Inv.unl I1 (nofrz0 I hF), q1⟩) fun _ _ z => z⟩
end
end Wl

/- text WlV -/
set_option Elab.async false
set_option maxRecDepth 100000
namespace Wl
open PySem PySem.Spec L2
open PyProof.Rows hiding St

section
variable {P : Program} {w : World} {K : PySem.W.Frag} {Θ : Nat → ObSem} {W : WX} {X : Cx} {io : List Nat} {H Hm H1 Hm1 : Hp} {F Fo : Fp}
/-! ### lending an owned thing to an expression -/
open Classical in
noncomputable def lend (F : Fp) (H Hm : Hp) : Hp := fun a => if F a then H a else Hm a
open Classical in
noncomputable def less (F : Fp) (Hm : Hp) : Hp := fun a => if F a then none else Hm a
theorem lend_in {a : Addr} (h : F a) : lend F H Hm a = H a := if_pos h
theorem lend_out {a : Addr} (h : ¬ F a) : lend F H Hm a = Hm a := if_neg h
theorem less_in {a : Addr} (h : F a) : less F Hm a = none := if_pos h
theorem less_out {a : Addr} (h : ¬ F a) : less F Hm a = Hm a := if_neg h
def lentOk (i : Nat) (ρ : Env) : Bool := (List.range ρ.length).all fun j => j == i || (match ρ[j]? with
  | some (some (.sh _)) => true
  | some (some o) => thinO o
  | _ => true)
theorem lentOk_at {i j : Nat} {ρ : Env} {o : O} (h : lentOk i ρ = true) (hj : j ≠ i) (e : ρ[j]? = some (some o)) : (∃ d, o = .sh d) ∨ thinO o = true := by
  have hlt := (List.getElem?_eq_some_iff.mp e).1
  have := List.all_eq_true.mp h j (List.mem_range.mpr hlt)
  rw [Bool.or_eq_true, e] at this
  rcases this with z | z
  · exact absurd (eq_of_beq z) hj
  · cases o with
    | sh d => exact .inl ⟨d, rfl⟩
    | _ => exact .inr z
/-- what holds of a lent thing's parts -/
structure Lent (P : Program) (w : World) (K : PySem.W.Frag) (H Hm : Hp) (F : Fp) : Prop where
  here : ∀ a, F a → (∃ u, H a = some u ∧ Mut (some u)) ∧ Hm a = none
theorem Lent.up (L : Lent P w K H Hm F) : Up Hm (lend F H Hm) := fun a o h => .inl (by rw [lend_out fun z => by rw [(L.here a z).2] at h; cases h]; exact h)
/-- behind the lending: its parts are as they were, once unlocked -/
theorem Lent.back (L : Lent P w K H Hm F) (u : Up (lend F H Hm) Hm1) (s : Same Hm1 H1) {a : Addr} (h : F a) : unl F H1 a = H a := by
  obtain ⟨⟨o, e, mu⟩, _⟩ := L.here a h
  rcases u a o (by rw [lend_in h]; exact e) with z | ⟨_, ob, z⟩
  · rw [e, unl_pl (s _ _ z) fun o' x y => by subst y; exact mu]
  · rw [e, unl_frz h (s _ _ z)]
theorem Lent.notup (L : Lent P w K H Hm F) (u : Up (lend F H Hm) Hm1) : Rdt Hm1 (less F Hm1) := fun a xs r => by
  have nF : ¬ F a := fun h => by
    obtain ⟨⟨o, e, mu⟩, _⟩ := L.here a h
    rcases u a o (by rw [lend_in h]; exact e) with z | ⟨_, ob, z⟩
    · rcases r with r | ⟨o', r⟩
      · rw [z] at r; cases r; exact mu
      · rw [z] at r; cases r; exact mu
    · rcases r with r | ⟨o', r⟩
      · rw [z] at r; cases r
      · rw [z] at r; cases r; exact mu
  rcases r with r | ⟨o', r⟩
  · exact .inl (by rw [less_out nF]; exact r)
  · exact .inr ⟨o', by rw [less_out nF]; exact r⟩
theorem Lent.thin (L : Lent P w K H Hm F) (u : Up (lend F H Hm) Hm1) {v : V} {o : O} {G : Fp} (h : OOk P w K Θ H1 Hm1 v o G) (c : thinO o = true) : OOk P w K Θ (unl F H1) (less F Hm1) v o G := by
  have e := L.notup u
  have nF : ∀ p, Hm1 p = none → ¬ F p := fun p hn hF => by
    obtain ⟨⟨x, ex, mu⟩, _⟩ := L.here p hF
    rcases u p x (by rw [lend_in hF]; exact ex) with z | ⟨_, ob, z⟩ <;> rw [hn] at z <;> cases z
  cases o with
  | sh d => exact ⟨h.1.thin e c, h.2⟩
  | ol ds =>
    obtain ⟨p, xs, rfl, h1, h2, h3, rfl⟩ := h
    exact ⟨p, xs, rfl, by rw [unl_out (nF p h2)]; exact h1, by rw [less_out (nF p h2)]; exact h2, h3.thin e c, rfl⟩
  | od nk kvs =>
    obtain ⟨p, rfl, h1, h2, rfl⟩ := h
    refine ⟨p, rfl, ?_, by rw [less_out (nF p h2)]; exact h2, rfl⟩
    have c' : noMuts (kvs.map (·.1)) = true ∧ noMuts (kvs.map (·.2)) = true := by simpa [thinO] using c
    cases nk with
    | false => obtain ⟨ks, g1, g2⟩ := h1; exact ⟨ks, by rw [unl_out (nF p h2)]; exact g1, g2.thin e c'.2⟩
    | true => obtain ⟨ks, g1, g2⟩ := h1; exact ⟨ks, by rw [unl_out (nF p h2)]; exact g1, g2.thin e c'.1 c'.2⟩
  | ob τ d => cases c
theorem lend_ok {σ : L2.St} {ρ : Env} {fp : Nat → Fp} {i τ : Nat} {d : D} {sh : Shp} (ok : Ok P w K Θ σ H Hm ρ fp) (e : ρ[i]? = some (some (.ob τ d))) (hΘ : Θ τ = tSem P w sh) :
    Lent P w K H Hm (fp i) ∧ (∃ u, σ[i]? = some (some u) ∧ TR P w K H Hm sh u d (fp i)) ∧ Ok P w K Θ σ H (lend (fp i) H Hm) (ρ.set i (some (.sh d))) (fun j => if j = i then noF else fp j) := by
  obtain ⟨u, e1, h⟩ := ok.at e
  have tr : TR P w K H Hm sh u d (fp i) := by have h' : (Θ τ).holds K H Hm u d (fp i) := h; rw [hΘ] at h'; exact h'
  have L : Lent P w K H Hm (fp i) := ⟨fun a ha => TR.own tr a ha⟩
  refine ⟨L, ⟨u, e1, tr⟩, ⟨by simp [ok.len], fun a o h => ?_, fun j v o a1 a2 => ?_, fun j hj => ?_, fun j l p a1 a2 => ?_⟩⟩
  · by_cases hF : fp i a
    · rw [lend_in hF] at h; exact h
    · rw [lend_out hF] at h; exact ok.sub _ _ h
  · have hi : i < ρ.length := (List.getElem?_eq_some_iff.mp e).1
    by_cases hj : j = i
    · subst hj
      rw [List.getElem?_set_self hi] at a2; cases a2
      rw [e1] at a1; cases a1
      rw [if_pos rfl]
      exact ⟨u, rfl, TR.rp (L.up.rdd) tr (fun p o hp z => by rw [lend_in hp]; exact z), rfl⟩
    · rw [if_neg hj]
      rw [List.getElem?_set_ne (Ne.symm hj)] at a2
      have q := ok.slot j v o a1 a2
      cases o with
      | none => exact q
      | some o =>
        obtain ⟨x, b1, b2⟩ := q
        exact ⟨x, b1, b2.move L.up (fun p z _ y => y) fun p hp => by rw [lend_out fun z => hj (ok.apart j i p hp z)]; exact (b2.own p hp).2⟩
  · show (if j = i then noF else fp j) = noF
    rw [ok.out j (by simpa using hj)]; exact ite_self _
  · have b1 : (if j = i then noF else fp j) p := a1
    have b2 : (if l = i then noF else fp l) p := a2
    split at b1
    · exact b1.elim
    · split at b2
      · exact b2.elim
      · exact ok.apart j l p b1 b2
theorem back_ok {σ : L2.St} {ρ : Env} {fp fp1 : Nat → Fp} {i τ : Nat} {d : D} {sh : Shp} {u : V} (ok : Ok P w K Θ σ H Hm ρ fp) (e : ρ[i]? = some (some (.ob τ d))) (hΘ : Θ τ = tSem P w sh) (L : Lent P w K H Hm (fp i)) (hu : σ[i]? = some (some u)) (tr : TR P w K H Hm sh u d (fp i)) (lo : lentOk i ρ = true)
    (ok1 : Ok P w K Θ σ H1 Hm1 (ρ.set i (some (.sh d))) fp1) (dj : ∀ p, Fo p → ¬ all fp1 p) (nO : ∀ p, Fo p → Hm1 p = none) (g : Grow H (lend (fp i) H Hm) (all fun j => if j = i then noF else fp j) H1 Hm1 (orF (all fp1) Fo)) :
    Ok P w K Θ σ (unl (fp i) H1) (less (fp i) Hm1) ρ (fun j => if j = i then fp i else fp1 j) ∧ (∀ p, Fo p → ¬ all (fun j => if j = i then fp i else fp1 j) p) ∧ Grow H Hm (all fp) (unl (fp i) H1) (less (fp i) Hm1) (orF (all fun j => if j = i then fp i else fp1 j) Fo) := by
  have hi : i < ρ.length := (List.getElem?_eq_some_iff.mp e).1
  have nF : ∀ p, Hm1 p = none → ¬ fp i p := fun p hn hF => by
    obtain ⟨⟨x, ex, mu⟩, _⟩ := L.here p hF
    rcases g.sh p x (by rw [lend_in hF]; exact ex) with z | ⟨_, ob, z⟩ <;> rw [hn] at z <;> cases z
  have up : Up Hm (less (fp i) Hm1) := fun a o h => by
    have na : ¬ fp i a := fun z => by rw [(L.here a z).2] at h; cases h
    rw [less_out na]
    exact g.sh a o (by rw [lend_out na]; exact h)
  have n1 : ∀ j p, fp1 j p → Hm1 p = none := fun j p hp => (ok1.fpNone p ⟨j, hp⟩).1
  refine ⟨⟨ok.len, fun a o h => ?_, fun j v o a1 a2 => ?_, fun j hj => ?_, fun j l p a1 a2 => ?_⟩, fun p hp ⟨j, hj⟩ => ?_, up, fun p x h1 h2 h3 => ?_⟩
  · by_cases hF : fp i a
    · rw [less_in hF] at h; cases h
    · rw [less_out hF] at h; rw [unl_out hF]; exact ok1.sub _ _ h
  · by_cases hj : j = i
    · subst hj
      rw [e] at a2; cases a2
      rw [hu] at a1; cases a1
      rw [if_pos rfl]
      refine ⟨u, rfl, ?_⟩
      show (Θ τ).holds K _ _ u d (fp j)
      rw [hΘ]
      exact TR.move up tr (fun p o hp z => by rw [L.back g.sh ok1.sub hp]; exact z) fun p hp => less_in hp
    · rw [if_neg hj]
      have a3 : (ρ.set i (some (.sh d)))[j]? = some o := by rw [List.getElem?_set_ne (Ne.symm hj)]; exact a2
      have q := ok1.slot j v o a1 a3
      cases o with
      | none => exact q
      | some o =>
        obtain ⟨x, b1, b2⟩ := q
        rcases lentOk_at lo hj a2 with ⟨d', rfl⟩ | c
        · obtain ⟨x', c1, c2⟩ := ok.slot j v _ a1 a2
          rw [b1] at c1; cases c1
          exact ⟨x, b1, c2.1.up up, b2.2⟩
        · exact ⟨x, b1, L.thin g.sh b2 c⟩
  · show (if j = i then fp i else fp1 j) = noF
    rw [if_neg (by omega)]
    exact ok1.out j (by simpa using hj)
  · have b1 : (if j = i then fp i else fp1 j) p := a1
    have b2 : (if l = i then fp i else fp1 l) p := a2
    split at b1
    · rename_i hj
      split at b2
      · rename_i hl; rw [hj, hl]
      · exact (nF p (n1 l p b2) b1).elim
    · split at b2
      · exact (nF p (n1 j p b1) b2).elim
      · exact ok1.apart j l p b1 b2
  · have b1 : (if j = i then fp i else fp1 j) p := hj
    split at b1
    · exact nF p (nO p hp) b1
    · exact dj p hp ⟨j, b1⟩
  · have na : ¬ fp i p := fun z => h3 ⟨i, z⟩
    obtain ⟨k1, k2, k3⟩ := g.far p x h1 (by rw [lend_out na]; exact h2) fun ⟨j, hj⟩ => by
      have b1 : (if j = i then noF else fp j) p := hj
      split at b1
      · exact b1
      · exact h3 ⟨j, b1⟩
    refine ⟨by rw [unl_out na]; exact k1, by rw [less_out na]; exact k2, fun z => z.elim (fun ⟨j, hj⟩ => ?_) fun z => k3 (.inr z)⟩
    have b1 : (if j = i then fp i else fp1 j) p := hj
    split at b1
    · exact na b1
    · exact k3 (.inl ⟨j, b1⟩)
open Classical in
/-- the thing in slot i lent to an expression -/
noncomputable def eBor (i : Nat) (f : M R) : M R := fun ρ => match ρ[i]? with
  | some (some (.ob _ d)) => if lentOk i ρ = true then match f (ρ.set i (some (.sh d))) with
    | some (.ok (.v o, ρ1)) => if thinO o = true ∧ ρ1 = ρ.set i (some (.sh d)) then some (.ok (.v o, ρ)) else none
    | _ => none else none
  | _ => none
open Classical in
noncomputable def tBor (i : Nat) (f : M Bool) : M Bool := fun ρ => match ρ[i]? with
  | some (some (.ob _ d)) => if lentOk i ρ = true then match f (ρ.set i (some (.sh d))) with
    | some (.ok (b, ρ1)) => if ρ1 = ρ.set i (some (.sh d)) then some (.ok (b, ρ)) else none
    | _ => none else none
  | _ => none
def AllT (P : Program) (w : World) (Θ : Nat → ObSem) : Prop := ∀ τ, ∃ sh, Θ τ = tSem P w sh
theorem thin_own {H Hm : Hp} {v : V} {o : O} {G : Fp} (h : OOk P w K Θ H Hm v o G) : ∀ p, G p → Hm p = none := fun p hp => (h.own p hp).2
theorem snd_bor {i : Nat} {t : TE} {f : M R} (hT : AllT P w Θ) (h : SndE P w K Θ W t f) : SndE P w K Θ W (tUnl t) (eBor i f) := fun σ H Hm ρ fp ok res e Q q => by
  unfold eBor at e
  split at e
  · rename_i τ d eo
    split at e
    · rename_i lo
      split at e
      · rename_i o ρ1 e1
        split at e
        · rename_i c
          cases e
          obtain ⟨c1, rfl⟩ := c
          obtain ⟨sh, hΘ⟩ := hT τ
          obtain ⟨L, ⟨u, hu, tr⟩, okB⟩ := lend_ok ok eo hΘ
          refine ⟨fp i, fun a ha => (L.here a ha).1, h σ H _ _ _ okB _ e1 _ ?_⟩
          intro v H1 Hm1 fp1 Fo ok1 hr d1 g1
          obtain ⟨a, b, c⟩ := back_ok ok eo hΘ L hu tr lo ok1 d1 (thin_own hr) g1
          exact q v _ _ _ Fo a (L.thin g1.sh hr c1) b c
        · cases e
      · cases e
    · cases e
  · cases e
theorem snd_borT {i : Nat} {t : TT} {f : M Bool} (hT : AllT P w Θ) (h : SndT P w K Θ W t f) : SndT P w K Θ W (tUnl t) (tBor i f) := fun σ H Hm ρ fp ok res e Q q => by
  unfold tBor at e
  split at e
  · rename_i τ d eo
    split at e
    · rename_i lo
      split at e
      · rename_i o ρ1 e1
        split at e
        · rename_i c
          cases e
          subst c
          obtain ⟨sh, hΘ⟩ := hT τ
          obtain ⟨L, ⟨u, hu, tr⟩, okB⟩ := lend_ok ok eo hΘ
          refine ⟨fp i, fun a ha => (L.here a ha).1, h σ H _ _ _ okB _ e1 _ ?_⟩
          intro v H1 Hm1 fp1 Fo ok1 hr d1 g1
          obtain ⟨rfl, rfl⟩ := hr
          obtain ⟨a, b, c⟩ := back_ok ok eo hΘ L hu tr lo ok1 d1 (fun _ z => z.elim) g1
          exact q _ _ _ _ noF a ⟨rfl, rfl⟩ b c
        · cases e
      · cases e
    · cases e
  · cases e
theorem ce_bor {i : Nat} {e : Expr} {f : M R} (hT : AllT X.prog X.w Θ) (h : CE Θ X W e f) : CE Θ X W e (eBor i f) := let ⟨_, a, b⟩ := h; ⟨_, pe_unl a, snd_bor hT b⟩
theorem ct_bor {i : Nat} {e : Expr} {f : M Bool} (hT : AllT X.prog X.w Θ) (h : CT Θ X W e f) : CT Θ X W e (tBor i f) := let ⟨_, a, b⟩ := h; ⟨_, pt_unl a, snd_borT hT b⟩
end
end Wl

/- text WlW -/
set_option Elab.async false
set_option maxRecDepth 100000
namespace Wl
open PySem PySem.Spec L2
open PyProof.Rows hiding St

section
variable {P : Program} {w : World} {K : PySem.W.Frag} {Θ : Nat → ObSem} {W : WX} {X : Cx} {io : List Nat} {H Hm : Hp}
/-! ### the way to a part -/
def dKey : D → Option Key
  | .int i => some (.inl i)
  | .str x => some (.inr x)
  | _ => none
theorem dKey_eq {d : D} {k : Key} (h : dKey d = some k) : d = kD k := by
  cases d <;> cases h <;> rfl
theorem dKey_kD (k : Key) : dKey (kD k) = some k := by cases k <;> rfl
def tget : Shp → D → List D → Option O
  | .l, .list ds, [] => some (.ol ds)
  | .d, .dict kvs, [] => some (.od (nkOf kvs) kvs)
  | .r c, .dict kvs, k :: ks => match dKey k, dget kvs k with
    | some key, some d => tget (c key) d ks
    | _, _ => none
  | _, _, _ => none
def tput : Shp → D → List D → O → Option D
  | .l, .list _, [], .ol ds => some (.list ds)
  | .d, .dict _, [], .od nk kvs => if nk = nkOf kvs then some (.dict kvs) else none
  | .r c, .dict kvs, k :: ks, lf => match dKey k, dget kvs k with
    | some key, some d => match tput (c key) d ks lf with
      | some d' => some (.dict (dput kvs k d'))
      | none => none
    | _, _ => none
  | _, _, _, _ => none
def PathV (H : Hp) (F : Fp) : V → List D → V → Prop
  | v, [], v' => v' = v
  | v, k :: ks, v' => ∃ a fs key u, v = .ref a ∧ k = kD key ∧ F a ∧ H a = some (.dK fs) ∧ valV fs key = some u ∧ PathV H F u ks v'
theorem PathV.snoc {F : Fp} : ∀ {ks : List D} {v v' : V} {k : D}, PathV H F v (ks ++ [k]) v' → ∃ u a fs key, PathV H F v ks u ∧ u = .ref a ∧ k = kD key ∧ H a = some (.dK fs) ∧ valV fs key = some v'
  | [], v, v', k, ⟨a, fs, key, u, h1, h2, _, h3, h4, h5⟩ => ⟨v, a, fs, key, rfl, h1, h2, h3, by rw [h4]; exact congrArg some h5.symm⟩
  | k0 :: ks, v, v', k, ⟨a, fs, key, u, h1, h2, hF, h3, h4, h5⟩ => by
    obtain ⟨u', a', fs', key', g1, g2⟩ := PathV.snoc (ks := ks) h5
    exact ⟨u', a', fs', key', ⟨a, fs, key, u, h1, h2, hF, h3, h4, g1⟩, g2⟩
theorem PathV.to {F G : Fp} {H2 : Hp} (s : ∀ a, F a → G a) (k : ∀ a o, F a → H a = some o → H2 a = some o) : ∀ {ks : List D} {v v' : V}, PathV H F v ks v' → PathV H2 G v ks v'
  | [], _, _, h => h
  | _ :: _, _, _, ⟨a, fs, key, u, h1, h2, hF, h3, h4, h5⟩ => ⟨a, fs, key, u, h1, h2, s a hF, k a _ hF h3, h4, PathV.to s k h5⟩
theorem PathV.inj {F G : Fp} : ∀ {ks : List D} {v x y : V}, PathV H F v ks x → PathV H G v ks y → x = y
  | [], _, _, _, h, g => h.trans g.symm
  | _ :: _, _, _, _, ⟨a, fs, key, u, h1, h2, _, h3, h4, h5⟩, ⟨a', fs', key', u', g1, g2, _, g3, g4, g5⟩ => by
    subst h1 h2
    cases g1
    have e : key' = key := by
      have := congrArg dKey g2
      rw [dKey_kD, dKey_kD] at this
      exact (Option.some.inj this).symm
    subst e
    rw [h3] at g3; cases g3
    rw [h4] at g4; cases g4
    exact PathV.inj h5 g5
theorem trs_keys {c : Key → Shp} : ∀ {ks : List (Key × V)} {kvs : List (D × D)} {F : Fp}, TRs P w K H Hm c ks kvs F → ∀ p ∈ kvs, ∃ q ∈ ks, p.1 = kD q.1
  | _, _, _, .nil, _, h => by simp at h
  | _, _, _, .cons (k := k) (v := v) h1 h2 _, p, h => by
    rcases List.mem_cons.mp h with z | z
    · exact ⟨(k, v), List.mem_cons_self .., by rw [z]⟩
    · obtain ⟨q, hq, e⟩ := trs_keys h2 p z
      exact ⟨q, List.mem_cons_of_mem _ hq, e⟩
/-- the part at a key, and the whole with another part there -/
theorem TRs.at_ {c : Key → Shp} {key : Key} : ∀ {ks : List (Key × V)} {kvs : List (D × D)} {F : Fp}, TRs P w K H Hm c ks kvs F → (ks.map (·.1)).Nodup → ∀ (d : D), dget kvs (kD key) = some d →
    ∃ u F', valV ks key = some u ∧ TR P w K H Hm (c key) u d F' ∧ (∀ p, F' p → F p) ∧ ∀ (H1 : Hp) (d' : D), (∀ a, ¬ F' a → H1 a = H a) → TR P w K H1 Hm (c key) u d' F' → TRs P w K H1 Hm c ks (kvs.map fun p => if keq p.1 (kD key) then (p.1, d') else p) F
  | _, _, _, .nil, _, _, h => by cases h
  | _, _, _, .cons (k := k) (v := v) (d := d0) (ks := ks) (kvs := kvs) (F := F1) (G := G) h1 h2 h3, nd, d1, h => by
    rw [List.map_cons] at nd
    obtain ⟨nd1, nd2⟩ := List.nodup_cons.mp nd
    have e1 : keq (kD k) (kD key) = decide (k = key) := keq_kD k key
    unfold dget at h
    rw [List.find?_cons, e1] at h
    by_cases hk : k = key
    · subst hk
      rw [decide_eq_true rfl] at h
      cases h
      refine ⟨v, F1, valV_pos rfl, h1, fun p hp => .inl hp, fun H1 d' hs ht => ?_⟩
      have tail : (kvs.map fun p => if keq p.1 (kD k) then (p.1, d') else p) = kvs := by
        conv => rhs; rw [← List.map_id kvs]
        refine List.map_congr_left fun p hp => ?_
        obtain ⟨q, hq, e⟩ := trs_keys h2 p hp
        have ne : q.1 ≠ k := fun z => nd1 (List.mem_map.mpr ⟨q, hq, z⟩)
        rw [e, keq_kD, decide_eq_false ne]; rfl
      rw [List.map_cons, tail]
      have e2 : ∀ z : D × D, (if keq (kD k) (kD k) then (kD k, d') else z) = (kD k, d') := fun z => by rw [e1, decide_eq_true rfl]; rfl
      rw [e2]
      exact .cons ht (TRs.move (Up.refl _) h2 (fun p o hp z => by rw [hs p fun y => h3 p y hp]; exact z) fun p hp => (TRs.own h2 p hp).2) h3
    · rw [decide_eq_false hk] at h
      obtain ⟨u, F', g1, g2, g3, g4⟩ := TRs.at_ h2 nd2 d1 h
      refine ⟨u, F', by rw [valV_neg hk]; exact g1, g2, fun p hp => .inr (g3 p hp), fun H1 d' hs ht => ?_⟩
      rw [List.map_cons]
      have e2 : (if keq (kD k) (kD key) then (kD k, d') else (kD k, d0)) = (kD k, d0) := by rw [e1, decide_eq_false hk]; rfl
      rw [e2]
      exact .cons (TR.move (Up.refl _) h1 (fun p o hp z => by rw [hs p fun y => h3 p hp (g3 p y)]; exact z) fun p hp => (TR.own h1 p hp).2) (g4 H1 d' hs ht) h3
theorem TR.path : ∀ {ks : List D} {sh : Shp} {v : V} {d : D} {F : Fp}, TR P w K H Hm sh v d F → ∀ {lf : O}, tget sh d ks = some lf → ∃ p, PathV H F v ks (.ref p) ∧ OOk P w K Θ H Hm (.ref p) lf (one p) ∧ isOwn lf = true ∧ F p ∧
    ∀ (HO : L2.HO) (lf' : O) (d' : D), tput sh d ks lf' = some d' → OOk P w K Θ (upd H p HO) Hm (.ref p) lf' (one p) → TR P w K (upd H p HO) Hm sh v d' F
  | [], _, _, _, _, .s h, lf, e => by simp [tget] at e
  | [], _, _, _, _, .l (p := p) h1 h2 h3, lf, e => by
    cases (show some (O.ol _) = some lf from e)
    refine ⟨p, rfl, ⟨p, _, rfl, h1, h2, h3, rfl⟩, rfl, rfl, fun HO lf' d' e2 h => ?_⟩
    cases lf' with
    | ol ds' =>
      cases (show some (PyData.list ds') = some d' from e2)
      obtain ⟨q, xs, z, g1, g2, g3, _⟩ := h
      cases z
      exact .l g1 g2 g3
    | _ => simp [tput] at e2
  | [], _, _, _, _, .d (p := p) (kvs := kvs) h1 h2, lf, e => by
    cases (show some (O.od (nkOf kvs) kvs) = some lf from e)
    refine ⟨p, rfl, ⟨p, rfl, h1, h2, rfl⟩, rfl, rfl, fun HO lf' d' e2 h => ?_⟩
    cases lf' with
    | od nk kvs' =>
      have e3 : (if nk = nkOf kvs' then some (PyData.dict kvs') else none) = some d' := e2
      by_cases hn : nk = nkOf kvs'
      · rw [if_pos hn] at e3; cases e3
        obtain ⟨q, z, g1, g2, _⟩ := h
        cases z
        rw [hn] at g1
        exact .d g1 g2
      · rw [if_neg hn] at e3; cases e3
    | _ => simp [tput] at e2
  | [], _, _, _, _, .r .., lf, e => by simp [tget] at e
  | _ :: _, _, _, _, _, .s h, lf, e => by simp [tget] at e
  | _ :: _, _, _, _, _, .l .., lf, e => by simp [tget] at e
  | _ :: _, _, _, _, _, .d .., lf, e => by simp [tget] at e
  | k :: ks, _, _, _, _, .r (p := p0) (ks := fs) (kvs := kvs) (c := c) (F := F0) h1 h2 h3 h4 h5, lf, e => by
    have e' : (match dKey k, dget kvs k with
      | some key, some d1 => tget (c key) d1 ks
      | _, _ => none) = some lf := by simpa [tget] using e
    cases ek : dKey k with
    | none => rw [ek] at e'; cases e'
    | some key =>
      rw [ek] at e'
      have hk := dKey_eq ek
      subst hk
      cases ed : dget kvs (kD key) with
      | none => rw [ed] at e'; cases e'
      | some d1 =>
        rw [ed] at e'
        obtain ⟨u, F', g1, g2, g3, g4⟩ := TRs.at_ h3 h5 d1 ed
        obtain ⟨p, i1, i2, i3, i4, i5⟩ := TR.path g2 (ks := ks) e'
        refine ⟨p, ⟨p0, fs, key, u, rfl, rfl, .inl rfl, h1, g1, i1.to (fun a ha => .inr (g3 a ha)) (fun _ _ _ z => z)⟩, i2, i3, .inr (g3 p i4), fun HO lf' d' e2 h => ?_⟩
        have e3 := e2
        simp only [tput] at e3
        rw [dKey_kD, ed] at e3
        simp only at e3
        cases e4 : tput (c key) d1 ks lf' with
        | none => rw [e4] at e3; cases e3
        | some d2 =>
          rw [e4] at e3; cases e3
          have np : p0 ≠ p := fun z => h4 (by rw [z]; exact g3 p i4)
          have e5 : dput kvs (kD key) d2 = kvs.map fun q => if keq q.1 (kD key) then (q.1, d2) else q := by unfold dput; rw [ed]; rfl
          rw [e5]
          exact .r (by rw [upd_ne np]; exact h1) h2 (g4 _ d2 (fun a ha => upd_ne fun z => ha (by rw [z]; exact i4)) (i5 HO lf' d2 e4 h)) h4 h5
end
end Wl

/- text WlX -/
set_option Elab.async false
set_option maxRecDepth 100000
namespace Wl
open PySem PySem.Spec L2
open PyProof.Rows hiding St

section
variable {P : Program} {w : World} {K : PySem.W.Frag} {Θ : Nat → ObSem} {W : WX} {X : Cx} {io : List Nat}
/-! ### what is read and changes nothing -/
def SndQ (P : Program) (w : World) (K : PySem.W.Frag) (Θ : Nat → ObSem) (t : TE) (g : Env → Option D) : Prop := ∀ σ H Hm ρ fp, Ok P w K Θ σ H Hm ρ fp → ∀ d, g ρ = some d → ∀ Q : VK, (∀ v, Rp P w K Hm v d → Q v H) → t σ H Q
def CQ (Θ : Nat → ObSem) (X : Cx) (e : Expr) (g : Env → Option D) : Prop := ∃ t, PE X e t ∧ SndQ X.prog X.w X.K Θ t g
def qC (d : D) : Env → Option D := fun _ => some d
def qV (j : Nat) : Env → Option D := fun ρ => match ρ[j]? with
  | some (some (.sh d)) => some d
  | _ => none
theorem cq_str {x : Str} {j : Nat} {pos : Pos} : CQ Θ X (.Constant (.str x) j pos) (qC (.str x)) := ⟨_, pe_str, fun σ H Hm ρ fp ok d e Q q => by cases e; exact q _ (.str x)⟩
theorem cq_int {i : Int} {j : Nat} {pos : Pos} : CQ Θ X (.Constant (.int i) j pos) (qC (.int i)) := ⟨_, pe_int, fun σ H Hm ρ fp ok d e Q q => by cases e; exact q _ (.int i)⟩
theorem cq_var {x : Str} {pos : Pos} (j : Nat) (hN : X.N[j]? = some x := by rfl) (hv : Vis X.env.scope x := by first | exact Or.inl rfl | exact Or.inr (Or.inl rfl) | exact Or.inr (Or.inr rfl)) (hd : (x == ("__debug__" : Str)) = false := by decide)
    (hcd : (x == ("__classdict__" : Str)) = false := by decide) : CQ Θ X (.Name x pos) (qV j) := ⟨_, pe_var hN hv hd hcd, fun σ H Hm ρ fp ok d e Q q => by
  unfold qV at e
  split at e
  · rename_i d' eo
    cases e
    obtain ⟨u, e1, h⟩ := ok.at eo
    exact ⟨u, e1, q u h.1⟩
  · cases e⟩
def qIx (f g : Env → Option D) : Env → Option D := fun ρ => match f ρ, g ρ with
  | some (.tuple ds), some (.int i) => atI ds i
  | _, _ => none
theorem cq_ix {a b : Expr} {f g : Env → Option D} {pos : Pos} (ha : CQ Θ X a f) (hb : CQ Θ X b g) (hs : PlainIx b := by exact fun _ _ => rfl) : CQ Θ X (.Subscript a b pos) (qIx f g) := by
  obtain ⟨t, a1, a2⟩ := ha
  obtain ⟨u, b1, b2⟩ := hb
  refine ⟨_, pe_ix ix_seq a1 b1 hs, fun σ H Hm ρ fp ok d e Q q => ?_⟩
  unfold qIx at e
  split at e
  · rename_i ds i ef eg
    refine a2 σ H Hm ρ fp ok _ ef _ fun x hx => b2 σ H Hm ρ fp ok _ eg _ fun y hy => ?_
    cases hy
    cases hx with
    | tup t1 t2 =>
      obtain ⟨z, e1, r1⟩ := rp_atI t2 e
      exact .inr (.inl ⟨_, _, i, z, rfl, rfl, sqT_mono (.of ok.sub) t1, e1, q z r1⟩)
  · cases e
/-! ### a place by its way -/
def SndP (P : Program) (w : World) (K : PySem.W.Frag) (Θ : Nat → ObSem) (i : Nat) (t : TE) (π : Env → Option (List D)) : Prop := ∀ σ H Hm ρ fp, Ok P w K Θ σ H Hm ρ fp → ∀ ks, π ρ = some ks → ∀ v, σ[i]? = some (some v) → ∀ F v', PathV H F v ks v' → ∀ Q : VK, Q v' H → t σ H Q
def CP (Θ : Nat → ObSem) (X : Cx) (i : Nat) (e : Expr) (π : Env → Option (List D)) : Prop := ∃ t, PE X e t ∧ SndP X.prog X.w X.K Θ i t π
def pBase : Env → Option (List D) := fun _ => some []
def pStep (π : Env → Option (List D)) (g : Env → Option D) : Env → Option (List D) := fun ρ => match π ρ, g ρ with
  | some ks, some k => if isK k = true then some (ks ++ [k]) else none
  | _, _ => none
theorem cp_base {x : Str} {pos : Pos} (i : Nat) (hN : X.N[i]? = some x := by rfl) (hv : Vis X.env.scope x := by first | exact Or.inl rfl | exact Or.inr (Or.inl rfl) | exact Or.inr (Or.inr rfl)) (hd : (x == ("__debug__" : Str)) = false := by decide)
    (hcd : (x == ("__classdict__" : Str)) = false := by decide) : CP Θ X i (.Name x pos) pBase := ⟨_, pe_var hN hv hd hcd, fun σ H Hm ρ fp ok ks e v hv F v' pv Q q => by
  cases e
  cases (show v' = v from pv)
  exact ⟨_, hv, q⟩⟩
theorem cp_step {k : Nat} {i : Nat} {o ix : Expr} {π : Env → Option (List D)} {g : Env → Option D} {pos : Pos} (hr : Room k X.A) (ho : CP Θ X i o π) (hi : CQ Θ X ix g) (hs : NoSl ix := by exact fun _ _ => rfl) : CP Θ X i (.Subscript o ix pos) (pStep π g) := by
  obtain ⟨t, a1, a2⟩ := ho
  obtain ⟨u, b1, b2⟩ := hi
  refine ⟨_, pe_adget (rN hr) a1 b1 hs, fun σ H Hm ρ fp ok ks e v hv F v' pv Q q => ?_⟩
  unfold pStep at e
  split at e
  · rename_i ks0 kd e1 e2
    split at e
    · rename_i hk
      cases e
      obtain ⟨x, a, fs, key, p1, rfl, rfl, h1, h2⟩ := pv.snoc
      refine a2 σ H Hm ρ fp ok _ e1 v hv F _ p1 _ (b2 σ H Hm ρ fp ok _ e2 _ fun y hy => ?_)
      have ey : y = kV key := by cases key <;> cases hy <;> rfl
      subst ey
      exact ⟨a, v', rfl, .inl (by rw [← h2]; exact DGet.k h1), q⟩
    · cases e
  · cases e
/-- all owned things are trees -/
def AllS (P : Program) (w : World) (Θ : Nat → ObSem) (S : Nat → Shp) : Prop := ∀ τ, Θ τ = tSem P w (S τ)
theorem AllS.t {S : Nat → Shp} (h : AllS P w Θ S) : AllT P w Θ := fun τ => ⟨S τ, h τ⟩
/-- PATH[k], the part a dict of shared data -/
def qGet (S : Nat → Shp) (i : Nat) (π : Env → Option (List D)) (g : Env → Option D) : Env → Option D := fun ρ => match ρ[i]? with
  | some (some (.ob τ d)) => match π ρ, g ρ with
    | some ks, some k => match tget (S τ) d ks with
      | some lf => match oDGet [lf, .sh k] with
        | some (.sh x) => some x
        | _ => none
      | none => none
    | _, _ => none
  | _ => none
theorem tree_at {S : Nat → Shp} (hS : AllS P w Θ S) {σ : L2.St} {H Hm : Hp} {ρ : Env} {fp : Nat → Fp} {i τ : Nat} {d : D} (ok : Ok P w K Θ σ H Hm ρ fp) (e : ρ[i]? = some (some (.ob τ d))) : ∃ v, σ[i]? = some (some v) ∧ TR P w K H Hm (S τ) v d (fp i) := by
  obtain ⟨u, e1, h⟩ := ok.at e
  refine ⟨u, e1, ?_⟩
  have h' : (Θ τ).holds K H Hm u d (fp i) := h
  rw [hS τ] at h'
  exact h'
theorem cq_get {k : Nat} {S : Nat → Shp} {i : Nat} {o ix : Expr} {π : Env → Option (List D)} {g : Env → Option D} {pos : Pos} (hS : AllS X.prog X.w Θ S) (hr : Room k X.A) (ho : CP Θ X i o π) (hi : CQ Θ X ix g) (hs : NoSl ix := by exact fun _ _ => rfl) : CQ Θ X (.Subscript o ix pos) (qGet S i π g) := by
  obtain ⟨t, a1, a2⟩ := ho
  obtain ⟨u, b1, b2⟩ := hi
  refine ⟨_, pe_adget (rN hr) a1 b1 hs, fun σ H Hm ρ fp ok d e Q q => ?_⟩
  unfold qGet at e
  split at e
  · rename_i τ d0 eo
    split at e
    · rename_i ks kd e1 e2
      split at e
      · rename_i lf e3
        split at e
        · rename_i x e4
          cases e
          obtain ⟨v, hv, tr⟩ := tree_at hS ok eo
          obtain ⟨p, p1, p2, p3, p4, p5⟩ := TR.path (Θ := Θ) tr e3
          refine a2 σ H Hm ρ fp ok _ e1 v hv _ _ p1 _ (b2 σ H Hm ρ fp ok _ e2 _ fun y hy => ?_)
          exact oDGet_rel p2 hy ok.sub e4 q
        · cases e
      · cases e
    · cases e
  · cases e
def eQ (g : Env → Option D) : M R := fun ρ => match g ρ with
  | some d => some (.ok (.v (.sh d), ρ))
  | none => none
theorem ce_q {e : Expr} {g : Env → Option D} (h : CQ Θ X e g) : CE Θ X W e (eQ g) := by
  obtain ⟨t, a, b⟩ := h
  refine ⟨t, a, fun σ H Hm ρ fp ok res e Q q => ?_⟩
  unfold eQ at e
  split at e
  · rename_i d e1
    cases e
    exact b σ H Hm ρ fp ok d e1 Q fun v hv => q v H Hm fp noF ok ⟨hv, rfl⟩ (fun _ z => z.elim) (by rw [orF_noF]; exact Grow.refl)
  · cases e
/-! ### changing a part -/
def mutT (S : Nat → Shp) (op : O → List D → Option (O × D)) (τ : Nat) (d : D) (ks ds : List D) : Option (D × D) := match tget (S τ) d ks with
  | some lf => match op lf ds with
    | some (lf', r) => match tput (S τ) d ks lf' with
      | some d' => some (d', r)
      | none => none
    | none => none
  | none => none
theorem tmut {S : Nat → Shp} (hS : AllS P w Θ S) {r : V → List V → Hp → VK → Prop} {op : O → List D → Option (O × D)} (hr : MutOk P w K Θ r op) {σ : L2.St} {H Hm H2 Hm2 : Hp} {ρ ρ2 : Env} {fp fp2 : Nat → Fp} {i τ : Nat} {d d' x : D} {ks ds : List D} {v : V} {p : Addr} {vs : List V}
    (hv : σ[i]? = some (some v)) (tr : TR P w K H Hm (S τ) v d (fp i)) (pv : PathV H (fp i) v ks (.ref p)) (ok : Ok P w K Θ σ H Hm ρ fp) (ok2 : Ok P w K Θ σ H2 Hm2 ρ2 fp2) (g : Grow H Hm (all fun j => if j = i then noF else fp j) H2 Hm2 (all fp2)) (e2 : ρ2[i]? = some none) (hds : RpL P w K Hm2 vs ds) (em : mutT S op τ d ks ds = some (d', x))
    {Q : VK} (q : ∀ y H3 fp3, Ok P w K Θ σ H3 Hm2 (ρ2.set i (some (.ob τ d'))) fp3 → Rp P w K Hm2 y x → Grow H Hm (all fp) H3 Hm2 (all fp3) → Q y H3) : r (.ref p) vs H2 Q := by
  have far : ∀ a, fp i a → ∃ u, H a = some u ∧ H2 a = some u ∧ Hm2 a = none ∧ ¬ all fp2 a := fun a ha => by
    obtain ⟨⟨u, hu, _⟩, hn⟩ := TR.own tr a ha
    obtain ⟨k1, k2, k3⟩ := g.far a u hu hn fun ⟨j, hj⟩ => by
      have hj' : (if j = i then noF else fp j) a := hj
      split at hj'
      · exact hj'
      · rename_i hji; exact hji (ok.apart j i a hj' ha)
    exact ⟨u, hu, k1, k2, k3⟩
  have tr2 : TR P w K H2 Hm2 (S τ) v d (fp i) := TR.move g.sh tr (fun a o ha z => by obtain ⟨u, hu, k, _⟩ := far a ha; rw [hu] at z; cases z; exact k) fun a ha => by obtain ⟨_, _, _, k, _⟩ := far a ha; exact k
  have pv2 : PathV H2 (fp i) v ks (.ref p) := pv.to (fun _ z => z) fun a o ha z => by obtain ⟨u, hu, k, _⟩ := far a ha; rw [hu] at z; cases z; exact k
  unfold mutT at em
  split at em
  · rename_i lf el
    split at em
    · rename_i lf' rr eo
      split at em
      · rename_i dd et
        cases em
        obtain ⟨p', p1, p2, p3, p4, p5⟩ := TR.path (Θ := Θ) tr2 el
        have ep : V.ref p' = V.ref p := p1.inj pv2
        cases ep
        refine hr H2 Hm2 p lf vs ds lf' x ok2.sub p2 p3 hds eo Q fun y HO h hy => ?_
        have hi : i < ρ2.length := (List.getElem?_eq_some_iff.mp e2).1
        have tr3 := p5 HO lf' d' et h
        have pn : Hm2 p = none := by obtain ⟨_, _, _, k, _⟩ := far p p4; exact k
        have npf : ¬ all fp2 p := by obtain ⟨_, _, _, _, k⟩ := far p p4; exact k
        refine q y _ (fun j => if j = i then fp i else fp2 j) ⟨by simp [ok2.len], fun a u z => ?_, fun j v' o' h1 h2 => ?_, fun j hj => ?_, fun j l a h1 h2 => ?_⟩ hy ⟨g.sh, fun a u h1 h2 h3 => ?_⟩
        · rw [upd_ne (fun y => by rw [y, pn] at z; cases z)]; exact ok2.sub a u z
        · by_cases hj : j = i
          · subst hj
            rw [List.getElem?_set_self hi] at h2; cases h2
            rw [hv] at h1; cases h1
            rw [if_pos rfl]
            refine ⟨v, rfl, ?_⟩
            show (Θ τ).holds K _ _ v d' (fp j)
            rw [hS τ]
            exact tr3
          · rw [if_neg hj]
            rw [List.getElem?_set_ne (Ne.symm hj)] at h2
            have s := ok2.slot j v' o' h1 h2
            cases o' with
            | none => exact s
            | some o' =>
              obtain ⟨z, s1, s2⟩ := s
              exact ⟨z, s1, s2.move (Up.refl _) (fun a u ha y => by rw [upd_ne (fun t => npf ⟨j, by rw [← t]; exact ha⟩)]; exact y) fun a ha => (s2.own a ha).2⟩
        · show (if j = i then fp i else fp2 j) = noF
          have hj' : ρ2.length ≤ j := by simpa using hj
          rw [if_neg (by omega)]
          exact ok2.out j hj'
        · have h1' : (if j = i then fp i else fp2 j) a := h1
          have h2' : (if l = i then fp i else fp2 l) a := h2
          split at h1'
          · rename_i hj
            split at h2'
            · rename_i hl; rw [hj, hl]
            · obtain ⟨_, _, _, _, k⟩ := far a h1'; exact (k ⟨l, h2'⟩).elim
          · split at h2'
            · obtain ⟨_, _, _, _, k⟩ := far a h2'; exact (k ⟨j, h1'⟩).elim
            · exact ok2.apart j l a h1' h2'
        · obtain ⟨k1, k2, k3⟩ := g.far a u h1 h2 fun ⟨j, hj⟩ => by
            have hj' : (if j = i then noF else fp j) a := hj
            split at hj'
            · exact hj'
            · exact h3 ⟨j, hj'⟩
          refine ⟨by rw [upd_ne (fun t => h3 ⟨i, by rw [t]; exact p4⟩)]; exact k1, k2, fun ⟨j, hj⟩ => ?_⟩
          have hj' : (if j = i then fp i else fp2 j) a := hj
          split at hj'
          · exact h3 ⟨i, hj'⟩
          · exact k3 ⟨j, hj'⟩
      · cases em
    · cases em
  · cases em
end
end Wl

/- text WlY -/
set_option Elab.async false
set_option maxRecDepth 100000
namespace Wl
open PySem PySem.Spec L2
open PyProof.Rows hiding St

section
variable {P : Program} {w : World} {K : PySem.W.Frag} {Θ : Nat → ObSem} {W : WX} {X : Cx} {io : List Nat}
theorem hide_ok {σ : L2.St} {H Hm : Hp} {ρ : Env} {fp : Nat → Fp} (i : Nat) (ok : Ok P w K Θ σ H Hm ρ fp) : Ok P w K Θ σ H Hm (ρ.set i none) (fun j => if j = i then noF else fp j) := by
  refine ⟨by simp [ok.len], ok.sub, fun j v o h1 h2 => ?_, fun j hj => ?_, fun j l p h1 h2 => ?_⟩
  · by_cases hj : j = i
    · subst hj
      have hl : j < ρ.length := by have := (List.getElem?_eq_some_iff.mp h2).1; simpa using this
      rw [List.getElem?_set_self hl] at h2; cases h2
      rw [if_pos rfl]; rfl
    · rw [List.getElem?_set_ne (Ne.symm hj)] at h2
      rw [if_neg hj]
      exact ok.slot j v o h1 h2
  · show (if j = i then noF else fp j) = noF
    rw [ok.out j (by simpa using hj)]; exact ite_self _
  · have b1 : (if j = i then noF else fp j) p := h1
    have b2 : (if l = i then noF else fp l) p := h2
    split at b1
    · exact b1.elim
    · split at b2
      · exact b2.elim
      · exact ok.apart j l p b1 b2
theorem hide_grow {H Hm : Hp} {fp : Nat → Fp} {i : Nat} : Grow H Hm (all fun j => if j = i then noF else fp j) H Hm (all fun j => if j = i then noF else fp j) := Grow.refl
/-- PATH.m(args) as a statement; the arguments don't look at the thing in slot i -/
def sPM (S : Nat → Shp) (T : String) (op : O → List D → Option (O × D)) (i : Nat) (π : Env → Option (List D)) (f : M (List R)) : SM := fun ρ => match ρ[i]? with
  | some (some (.ob τ d)) => match π ρ with
    | some ks => match tget (S τ) d ks with
      | some lf => if ofTy T lf then match mbind f shAll (ρ.set i none) with
        | some (.ok (ds, ρ1)) => match ρ1[i]?, mutT S op τ d ks ds with
          | some none, some (d', _) => some (.nx (ρ1.set i (some (.ob τ d'))))
          | _, _ => none
        | _ => none else none
      | none => none
    | none => none
  | _ => none
theorem snds_pm {S : Nat → Shp} (hS : AllS P w Θ S) {T : String} {r : V → List V → Hp → VK → Prop} {op : O → List D → Option (O × D)} (hr : MutOk P w K Θ r op) {i : Nat} {π : Env → Option (List D)} {tp : TE} {ta : TA} {f : M (List R)} (hp : SndP P w K Θ i tp π) (ha : SndA P w K Θ W ta f) : SndS P w K Θ W io (tDrop (tM P w K T r tp ta)) (sPM S T op i π f) := fun σ H Hm ρ fp ok out e D q => by
  unfold sPM at e
  split at e
  · rename_i τ d eo
    split at e
    · rename_i ks ek
      split at e
      · rename_i lf el
        split at e
        · rename_i ct
          split at e
          · rename_i ds ρ1 ef
            split at e
            · rename_i d' x e1 em
              cases e
              obtain ⟨v, hv, tr⟩ := tree_at hS ok eo
              obtain ⟨p, p1, p2, p3, p4, _⟩ := TR.path (Θ := Θ) tr el
              refine hp σ H Hm ρ fp ok ks ek v hv _ _ p1 _ ⟨(own_ty p2 ct).1, ?_⟩
              refine snd_ds ha σ H Hm _ _ (hide_ok i ok) _ ef _ ?_
              intro vs H2 Hm2 fp2 Fo ok2 hds d2 g2
              obtain ⟨hds, rfl⟩ := hds
              rw [orF_noF] at g2
              exact tmut hS hr hv tr p1 ok ok2 g2 e1 hds em fun y H3 fp3 ok3 _ g3 => q σ H3 Hm2 fp3 ok3 (Keep.refl _ _) g3
            · cases e
          · cases e
        · cases e
      · cases e
    · cases e
  · cases e
theorem cs_pm {S : Nat → Shp} {o e : Expr} {es : List Expr} {i : Nat} {π : Env → Option (List D)} {f : M (List R)} {name : Str} {apos cpos pos : Pos} {T id : String} {r : V → List V → Hp → VK → Prop} {op : O → List D → Option (O × D)} (hS : AllS X.prog X.w Θ S) (hr : MutOk X.prog X.w X.K Θ r op) (pa : PlainAttrs T) (slot : PySem.Slot T name id) (hty : typeOf (.builtin id) = pure (.type "method_descriptor")) (hm : MtR X id r) (ho : CP Θ X i o π) (ha : CA Θ X W (e :: es) f)
    (hbase : attributeBase o name X.env (eval o X.env) = eval o X.env := by rfl)
    (hfew : ((backTo cpos (starEach (e :: es) X.env)).all (fun x => !x.1) && (backToKw cpos (keywordEach [] X.env)).all (fun x => x.1.isSome)
      && decide ((e :: es).length + ([] : List Keyword).length + (if ([] : List Keyword).isEmpty then 0 else 1) < 30)) = true := by rfl)
    (hline : (apos.endLine == cpos.line) = true := by rfl) (hs : starEach (e :: es) X.env = (false, eval e X.env) :: starEach es X.env := by rfl) (hplain : (backTo cpos (starEach es X.env)).any (·.1) = false := by rfl) (hsw : swapsWith (.Call (.Attribute o name apos) (e :: es) [] cpos) none pos.line X.env = pure false := by rfl) :
    CS Θ X W io (.Expr (.Call (.Attribute o name apos) (e :: es) [] cpos) pos) (sPM S T op i π f) :=
  let ⟨_, a1, a2⟩ := ho; let ⟨_, b1, b2⟩ := ha; ⟨_, ps_expr (pe_m pa slot hty hm a1 b1 hbase hfew hline hs hplain) hsw, snds_pm hS hr a2 b2⟩
theorem cs_pappend {S : Nat → Shp} {o e : Expr} {i : Nat} {π : Env → Option (List D)} {f : M R} {apos cpos pos : Pos} (hS : AllS X.prog X.w Θ S) (ho : CP Θ X i o π) (ha : CE Θ X W e f)
    (hbase : attributeBase o "append" X.env (eval o X.env) = eval o X.env := by rfl) (hline : (apos.endLine == cpos.line) = true := by rfl) (hs : starEach [e] X.env = [(false, eval e X.env)] := by rfl)
    (hfew : ((backTo cpos (starEach [e] X.env)).all (fun x => !x.1) && (backToKw cpos (keywordEach [] X.env)).all (fun x => x.1.isSome)
      && decide ([e].length + ([] : List Keyword).length + (if ([] : List Keyword).isEmpty then 0 else 1) < 30)) = true := by rfl) (hsw : swapsWith (.Call (.Attribute o "append" apos) [e] [] cpos) none pos.line X.env = pure false := by rfl) : CS Θ X W io (.Expr (.Call (.Attribute o "append" apos) [e] [] cpos) pos) (sPM S "list" opAppend i π (aCons f aNil)) :=
  cs_pm hS mut_append F.plainAttrs_list F.slot_list_append F.type_list_append mt_append ho (ca_cons ha ca_nil hs) hbase hfew hline hs rfl hsw
/-- PATH[k] = e -/
def sPP (S : Nat → Shp) (i : Nat) (π : Env → Option (List D)) (fk f : M R) : SM := sE (mbind f toSh) fun v ρ => match ρ[i]? with
  | some (some (.ob τ d)) => match π ρ with
    | some ks => match tget (S τ) d ks with
      | some _ => match mbind fk toSh (ρ.set i none) with
        | some (.ok (k, ρ1)) => match ρ1[i]?, mutT S opPut τ d ks [k, v] with
          | some none, some (d', _) => some (.nx (ρ1.set i (some (.ob τ d'))))
          | _, _ => none
        | _ => none
      | none => none
    | none => none
  | _ => none
theorem snds_pp {S : Nat → Shp} (hS : AllS P w Θ S) {i : Nat} {π : Env → Option (List D)} {te tp tk : TE} {fk f : M R} {t : TSet} (ht : ∀ o i v H Q, rPut P w K o [i, v] H (fun _ H' => Q H') → t o i v H Q) (h : SndE P w K Θ W te f) (hp : SndP P w K Θ i tp π) (hk : SndE P w K Θ W tk fk) : SndS P w K Θ W io (tAsg te (gSub tp tk t)) (sPP S i π fk f) := by
  refine Snd.stmt (snd_d h) (u := fun x D σ H1 => gSub tp tk t x σ H1 D.nx) fun y b σ H Hm ρ fp Fo ok r dd out e D q => ?_
  obtain ⟨r, rfl⟩ := r
  split at e
  · rename_i τ d eo
    split at e
    · rename_i ks ek
      split at e
      · rename_i lf el
        split at e
        · rename_i k ρ1 ef
          split at e
          · rename_i d' x e1 em
            cases e
            obtain ⟨v, hv, tr⟩ := tree_at hS ok eo
            obtain ⟨p, p1, p2, p3, p4, _⟩ := TR.path (Θ := Θ) tr el
            refine hp σ H Hm ρ fp ok ks ek v hv _ _ p1 _ ?_
            refine snd_d hk σ H Hm _ _ (hide_ok i ok) _ ef _ ?_
            intro z H2 Hm2 fp2 Fo2 ok2 hz d2 g2
            obtain ⟨hz, rfl⟩ := hz
            rw [orF_noF] at g2
            refine ht _ _ _ _ _ (tmut hS mut_put hv tr p1 ok ok2 g2 e1 (.cons hz (.cons (r.up g2.sh) .nil)) em fun y H3 fp3 ok3 _ g3 => ?_)
            exact q σ H3 Hm2 fp3 ok3 (Keep.refl _ _) ⟨g3.sh, fun a u h1 h2 h3 => g3.far a u h1 h2 fun z => h3 (.inl z)⟩
          · cases e
        · cases e
      · cases e
    · cases e
  · cases e
theorem cs_pp {k : Nat} {S : Nat → Shp} {i : Nat} {o ix e : Expr} {π : Env → Option (List D)} {fk f : M R} {pos pos' : Pos} (hS : AllS X.prog X.w Θ S) (hr : Room k X.A) (ho : CP Θ X i o π) (hi : CE Θ X W ix fk) (h : CE Θ X W e f)
    (hs : swapsWithSole [.Subscript o ix pos'] e pos.line X.env = pure false := by rfl) (hw : swappedStores [.Subscript o ix pos'] e X.env = pure none := by rfl) (h1 : (assignEach [.Subscript o ix pos'] X.env).map (·.2) = [assign (.Subscript o ix pos') X.env] := by rfl)
    (ha : ∀ v, assign (.Subscript o ix pos') X.env v = (do
      let ov ← holding [v] (eval o X.env)
      let iv ← holding [v, ov] (eval ix X.env)
      standAt pos'
      holding [v, ov, iv] (setItem ov iv v)
      release [v, ov, iv] []) := by intro _; rfl) : CS Θ X W io (.Assign [.Subscript o ix pos'] e pos) (sPP S i π fk f) :=
  let ⟨_, a1, a2⟩ := ho; let ⟨_, b1, b2⟩ := hi; let ⟨_, c1, c2⟩ := h
  ⟨_, ps_asg c1 (pg_sub a1 b1 (pset_put (rN hr)) ha) hs hw h1, snds_pp hS (fun _ _ _ _ _ z => z) c2 a2 b2⟩
/-- PATH.update(e), e read only -/
def sPU (S : Nat → Shp) (i : Nat) (π : Env → Option (List D)) (g : Env → Option D) : SM := fun ρ => match ρ[i]? with
  | some (some (.ob τ d)) => match π ρ, g ρ with
    | some ks, some m => match tget (S τ) d ks with
      | some lf => if ofTy "dict" lf then match mutT S opUpd τ d ks [m] with
        | some (d', _) => if i < ρ.length then some (.nx ((ρ.set i none).set i (some (.ob τ d')))) else none
        | none => none else none
      | none => none
    | _, _ => none
  | _ => none
theorem snds_pu {S : Nat → Shp} (hS : AllS P w Θ S) {i : Nat} {π : Env → Option (List D)} {g : Env → Option D} {tp tq : TE} (hp : SndP P w K Θ i tp π) (hq : SndQ P w K Θ tq g) : SndS P w K Θ W io (tDrop (tM P w K "dict" (rUpd P w) tp (tCons tq tNil))) (sPU S i π g) := fun σ H Hm ρ fp ok out e D q => by
  unfold sPU at e
  split at e
  · rename_i τ d eo
    split at e
    · rename_i ks m ek eg
      split at e
      · rename_i lf el
        split at e
        · rename_i ct
          split at e
          · rename_i d' x em
            split at e
            · rename_i hi
              cases e
              obtain ⟨v, hv, tr⟩ := tree_at hS ok eo
              obtain ⟨p, p1, p2, p3, p4, _⟩ := TR.path (Θ := Θ) tr el
              refine hp σ H Hm ρ fp ok ks ek v hv _ _ p1 _ ⟨(own_ty p2 ct).1, ?_⟩
              refine hq σ H Hm ρ fp ok m eg _ fun y hy => ?_
              exact tmut hS mut_upd hv tr p1 ok (hide_ok i ok) hide_grow (List.getElem?_set_self hi) (.cons hy .nil) em fun y H3 fp3 ok3 _ g3 => q σ H3 Hm fp3 ok3 (Keep.refl _ _) g3
            · cases e
          · cases e
        · cases e
      · cases e
    · cases e
  · cases e
theorem cs_pu {S : Nat → Shp} {o e : Expr} {i : Nat} {π : Env → Option (List D)} {g : Env → Option D} {apos cpos pos : Pos} (hS : AllS X.prog X.w Θ S) (ho : CP Θ X i o π) (ha : CQ Θ X e g)
    (hbase : attributeBase o "update" X.env (eval o X.env) = eval o X.env := by rfl) (hline : (apos.endLine == cpos.line) = true := by rfl) (hs : starEach [e] X.env = [(false, eval e X.env)] := by rfl)
    (hfew : ((backTo cpos (starEach [e] X.env)).all (fun x => !x.1) && (backToKw cpos (keywordEach [] X.env)).all (fun x => x.1.isSome)
      && decide ([e].length + ([] : List Keyword).length + (if ([] : List Keyword).isEmpty then 0 else 1) < 30)) = true := by rfl) (hsw : swapsWith (.Call (.Attribute o "update" apos) [e] [] cpos) none pos.line X.env = pure false := by rfl) : CS Θ X W io (.Expr (.Call (.Attribute o "update" apos) [e] [] cpos) pos) (sPU S i π g) :=
  let ⟨_, a1, a2⟩ := ho; let ⟨_, b1, b2⟩ := ha
  ⟨_, ps_expr (pe_m F.plainAttrs_dict F.slot_dict_update F.type_dict_update mt_upd a1 (pa_cons b1 pa_nil hs) hbase hfew hline hs rfl) hsw, snds_pu hS a2 b2⟩
end
end Wl

/- text WlZ -/
set_option Elab.async false
set_option maxRecDepth 100000
namespace Wl
open PySem PySem.Spec L2
open PyProof.Rows hiding St

section
variable {P : Program} {w : World} {K : PySem.W.Frag} {Θ : Nat → ObSem} {W : WX} {X : Cx} {io : List Nat}
/-! ### dict([(k, {}) for ..]): an owned dict of owned empty dicts -/
abbrev Lx := List (Key × Addr × Addr)
def GL (Dl : Addr) (L : Lx) : Fp := fun a => a = Dl ∨ ∃ x ∈ L, a = x.2.1 ∨ a = x.2.2
structure DE (H Hm : Hp) (fp : Nat → Fp) (Dl : Addr) (L : Lx) : Prop where
  lst : H Dl = some (.lst (L.map fun x => .ref x.2.1))
  tup : ∀ x ∈ L, H x.2.1 = some (.tup [kV x.1, .ref x.2.2])
  dic : ∀ x ∈ L, H x.2.2 = some (.dK [])
  priv : ∀ a, GL Dl L a → Hm a = none ∧ ¬ all fp a
  nd : (L.map (·.2.2)).Nodup
theorem DE.has {H Hm : Hp} {fp : Nat → Fp} {Dl : Addr} {L : Lx} (h : DE H Hm fp Dl L) : ∀ a, GL Dl L a → ∃ u, H a = some u := by
  rintro a (rfl | ⟨x, hx, rfl | rfl⟩)
  · exact ⟨_, h.lst⟩
  · exact ⟨_, h.tup x hx⟩
  · exact ⟨_, h.dic x hx⟩
theorem DE.move {H Hm H' Hm' : Hp} {fp fp' : Nat → Fp} {Dl : Addr} {L : Lx} (h : DE H Hm fp Dl L) (g : ∀ a u, H a = some u → Hm a = none → ¬ all fp a → H' a = some u ∧ Hm' a = none ∧ ¬ all fp' a) : DE H' Hm' fp' Dl L := by
  have q := fun a u (ha : GL Dl L a) (e : H a = some u) => g a u e (h.priv a ha).1 (h.priv a ha).2
  exact ⟨(q _ _ (.inl rfl) h.lst).1, fun x hx => (q _ _ (.inr ⟨x, hx, .inl rfl⟩) (h.tup x hx)).1, fun x hx => (q _ _ (.inr ⟨x, hx, .inr rfl⟩) (h.dic x hx)).1, fun a ha => let ⟨u, e⟩ := h.has a ha; (q a u ha e).2, h.nd⟩
theorem DE.snoc {H Hm : Hp} {fp : Nat → Fp} {Dl t q : Addr} {L : Lx} {k : Key} (s : Same Hm H) (fo : ∀ p, all fp p → ∃ u, H p = some u) (h : DE H Hm fp Dl L) (hq : H q = none) (ht : upd H q (.dK []) t = none) :
    DE (upd (upd (upd H q (.dK [])) t (.tup [kV k, .ref q])) Dl (.lst ((L.map fun x => .ref x.2.1) ++ [.ref t]))) Hm fp Dl (L ++ [(k, t, q)]) := by
  have htq : t ≠ q := fun z => by rw [z, upd_same] at ht; cases ht
  have ht0 : H t = none := by rw [upd_ne htq] at ht; exact ht
  have ne : ∀ a u, H a = some u → a ≠ q ∧ a ≠ t := fun a u e => ⟨(fun z => by rw [z, hq] at e; cases e), (fun z => by rw [z, ht0] at e; cases e)⟩
  have nD := ne _ _ h.lst
  have keep : ∀ a u, a ≠ Dl → H a = some u → upd (upd (upd H q (.dK [])) t (.tup [kV k, .ref q])) Dl (.lst ((L.map fun x => .ref x.2.1) ++ [.ref t])) a = some u := fun a u hd e => by
    rw [upd_ne hd, upd_ne (ne a u e).2, upd_ne (ne a u e).1]; exact e
  have mN : ∀ a, H a = none → Hm a = none := fun a e => by
    cases z : Hm a with
    | none => rfl
    | some u => rw [s _ _ z] at e; cases e
  have fN : ∀ a, H a = none → ¬ all fp a := fun a e z => by obtain ⟨u, hu⟩ := fo a z; rw [hu] at e; cases e
  refine ⟨by rw [upd_same, List.map_append]; rfl, fun x hx => ?_, fun x hx => ?_, fun a ha => ?_, ?_⟩
  · rcases List.mem_append.mp hx with hx | hx
    · exact keep _ _ (fun z => by have := h.tup x hx; rw [z, h.lst] at this; cases this) (h.tup x hx)
    · rw [List.mem_singleton] at hx; subst hx
      rw [upd_ne (Ne.symm nD.2), upd_same]
  · rcases List.mem_append.mp hx with hx | hx
    · exact keep _ _ (fun z => by have := h.dic x hx; rw [z, h.lst] at this; cases this) (h.dic x hx)
    · rw [List.mem_singleton] at hx; subst hx
      rw [upd_ne (Ne.symm nD.1), upd_ne (Ne.symm htq), upd_same]
  · rcases ha with ha | ⟨x, hx, ha⟩
    · exact h.priv a (.inl ha)
    · rcases List.mem_append.mp hx with hx | hx
      · exact h.priv a (.inr ⟨x, hx, ha⟩)
      · rw [List.mem_singleton] at hx; subst hx
        rcases ha with ha | ha
        · rw [ha]; exact ⟨mN _ ht0, fN _ ht0⟩
        · rw [ha]; exact ⟨mN _ hq, fN _ hq⟩
  · rw [List.map_append, List.map_singleton]
    refine List.nodup_append.mpr ⟨h.nd, by simp, fun a ha b hb z => ?_⟩
    rw [List.mem_singleton] at hb
    obtain ⟨x, hx, e⟩ := List.mem_map.mp ha
    have := h.dic x hx
    rw [e, z, hb, hq] at this; cases this
def deLoop (vs : List Nat) (tgt : D → Env → Option Env) (kf : M R) : List D → Env → List D → Option (List D × Env)
  | [], ρ, acc => some (acc, ρ)
  | d :: ds, ρ, acc => match tgt d ρ with
    | none => none
    | some ρ1 => if ρ1.length = ρ.length then match mbind kf toSh ρ1 with
      | some (.ok (k, ρ2)) => if acc.length < sizeLine ∧ isK k = true then deLoop vs tgt kf ds (wipeE ρ2 vs) (acc ++ [k]) else none
      | _ => none
      else none
def eDE (τ n : Nat) (vs : List Nat) (src : M (List D)) (tgt : D → Env → Option Env) (kf : M R) : M R := fun ρ => match src ρ with
  | some (.ok (ds, ρ1)) => if ρ1.length = n then match deLoop vs tgt kf ds (wipeE ρ1 vs) [] with
    | some (ks, ρ2) => if ρ2.length = n ∧ (ks.filterMap dKey).Nodup then some (.ok (.v (.ob τ (.dict (ks.map fun k => (k, .dict [])))), unwipe ρ1 ρ2 vs)) else none
    | none => none
    else none
  | some (.error e) => some (.error e)
  | none => none
/-- what is made of it -/
theorem trs_empty {H Hm : Hp} : ∀ {L : Lx}, (∀ x ∈ L, H x.2.2 = some (.dK []) ∧ Hm x.2.2 = none) → (L.map (·.2.2)).Nodup → TRs P w K H Hm (fun _ => .d) (L.map fun x => (x.1, .ref x.2.2)) (L.map fun x => (kD x.1, .dict [])) (fun a => ∃ x ∈ L, a = x.2.2)
  | [], _, _ => by
    have e : (fun a : Addr => ∃ x ∈ ([] : Lx), a = x.2.2) = noF := by funext a; simp [noF]
    rw [e]; exact .nil
  | x :: L, h, nd => by
    rw [List.map_cons] at nd
    obtain ⟨nd1, nd2⟩ := List.nodup_cons.mp nd
    have e : (fun a : Addr => ∃ y ∈ x :: L, a = y.2.2) = orF (one x.2.2) (fun a => ∃ y ∈ L, a = y.2.2) := by funext a; simp [orF, one]
    rw [e]
    obtain ⟨h1, h2⟩ := h x (List.mem_cons_self ..)
    refine .cons (.d ⟨[], h1, .nil⟩ h2) (trs_empty (fun y hy => h y (List.mem_cons_of_mem _ hy)) nd2) fun p hp ⟨y, hy, z⟩ => nd1 (List.mem_map.mpr ⟨y, hy, ?_⟩)
    rw [← z]; exact hp
theorem mergeK_nd : ∀ {kvs acc : List (Key × V)}, ((acc ++ kvs).map (·.1)).Nodup → mergeK acc kvs = acc ++ kvs
  | [], acc, _ => by simp [mergeK]
  | p :: kvs, acc, h => by
    have e : putK acc p.1 p.2 = acc ++ [p] := by
      unfold putK
      have nf : (acc.any fun kv => decide (kv.1 = p.1)) = false := by
        rw [List.any_eq_false]
        intro x hx z
        have z' := of_decide_eq_true z
        rw [List.map_append, List.nodup_append] at h
        exact h.2.2 x.1 (List.mem_map.mpr ⟨x, hx, rfl⟩) p.1 (List.mem_map.mpr ⟨p, List.mem_cons_self .., rfl⟩) z'
      rw [if_neg (by rw [nf]; decide)]
    show mergeK (putK acc p.1 p.2) kvs = _
    rw [e, mergeK_nd (by rw [List.append_assoc]; exact h), List.append_assoc]; rfl
def rDictP (K : PySem.W.Frag) : List V → Hp → VK → Prop := fun xs H Q => ∃ (a : Addr) (ps : List Addr) (kvs : List (Key × V)), xs = [.ref a] ∧ SqL K H a (ps.map V.ref) ∧ Paired (fun p kv => SqT K H p [kV kv.1, kv.2]) ps kvs ∧
    ∀ p, H p = none → Q (.ref p) (upd H p (.dK (mergeK [] kvs)))
theorem pairedL {H : Hp} : ∀ {L : Lx}, (∀ x ∈ L, H x.2.1 = some (.tup [kV x.1, .ref x.2.2])) → Paired (fun (p : Addr) (kv : Key × V) => SqT K H p [kV kv.1, kv.2]) (L.map (·.2.1)) (L.map fun x => ((x.1, V.ref x.2.2) : Key × V))
  | [], _ => .nil
  | x :: L, h => .cons (SqT.of (h x (List.mem_cons_self ..))) (pairedL fun y hy => h y (List.mem_cons_of_mem _ hy))
theorem snd_de {vs : List Nat} {wi : TI} {g : TG} {tk : TE} {src : M (List D)} {tgt : D → Env → Option Env} {kf : M R} {n τ : Nat} (hτ : Θ τ = tSem P w (.r fun _ => .d)) (hi : SndI P w K Θ W wi src) (hg : SndG P w K Θ (ioB n vs) g tgt) (he : SndE P w K Θ W0 tk kf) :
    SndE P w K Θ W (fun σ H Q => tLc wi g (fun σ H Q => Q true H) (tTup (tCons tk (tCons tDNewK tNil))) vs σ H fun x H1 => rDictP K [x] H1 Q) (eDE τ n vs src tgt kf) := fun σ H Hm ρ fp ok res e Q q => by
  · unfold eDE at e
    cases e1 : src ρ with
    | none => simp only [e1] at e; cases e
    | some r1 =>
      refine hi σ H Hm ρ fp ok r1 e1 _ ?_
      cases r1 with
      | error er =>
        simp only [e1] at e; cases e
        exact q
      | ok p1 =>
        obtain ⟨ds, ρ1⟩ := p1
        intro J H1 Hm1 fp1 ok1 g1 ⟨G, Y, wk, hG, hY⟩ Dl hD
        simp only [e1] at e
        by_cases hn1 : ρ1.length = n
        · rw [if_pos hn1] at e
          cases e2 : deLoop vs tgt kf ds (wipeE ρ1 vs) [] with
          | none => simp only [e2] at e; cases e
          | some r2 =>
            obtain ⟨ksL, ρ2⟩ := r2
            simp only [e2] at e
            by_cases hl' : ρ2.length = n ∧ (ksL.filterMap dKey).Nodup
            · rw [if_pos hl'] at e; cases e
              obtain ⟨hl, hnd⟩ := hl'
              have okw := ok1.wipe vs
              have hDm : Hm1 Dl = none := by
                cases z : Hm1 Dl with
                | none => rfl
                | some u => rw [ok1.sub _ _ z] at hD; cases hD
              have hDf : ¬ all fp1 Dl := fun z => by
                obtain ⟨_, u, h2⟩ := ok1.fpNone _ z
                rw [h2] at hD; cases hD
              have okw0 : Ok P w K Θ (L2.wipe σ vs) (upd H1 Dl (.lst [])) Hm1 (wipeE ρ1 vs) (fun i => if i ∈ vs then noF else fp1 i) :=
                okw.move (Up.refl _) (fun a u z => by rw [upd_ne (ne_of_none (ok1.sub _ _ z) hD)]; exact ok1.sub _ _ z) (fun p u hp z => by rw [upd_ne (fun y => hDf (by rw [← y]; exact wipe_all hp))]; exact z) (fun p hp => (okw.fpNone p hp).1)
              refine lc_it (g := g) (tt := fun σ H Q => Q true H) (te := tTup (tCons tk (tCons tDNewK tNil))) (vs := vs) (σ := σ) (Qd := fun H => rDictP K [.ref Dl] H Q) wk (fun i H' => ∃ Hm' ρ' fp' Ls, Ok P w K Θ (L2.wipe σ vs) H' Hm' ρ' fp' ∧ DE H' Hm' fp' Dl Ls ∧ Grow (upd H1 Dl (.lst [])) Hm1 (orF (all (fun i => if i ∈ vs then noF else fp1 i)) (one Dl)) H' Hm' (orF (all fp') (GL Dl Ls)) ∧ deLoop vs tgt kf (ds.drop i) ρ' (Ls.map fun x => kD x.1) = some (ksL, ρ2) ∧ ρ'.length = n)
                ⟨Hm1, _, _, [], okw0, ⟨upd_same, fun _ h => by simp at h, fun _ h => by simp at h, fun a ha => by
                  have : a = Dl := ha.elim id (fun ⟨x, hx, _⟩ => by simp at hx)
                  subst this; exact ⟨hDm, fun z => hDf (wipe_all z)⟩, List.nodup_nil⟩, Grow.refl.to fun p z => z.imp id (fun z => z.elim id fun ⟨x, hx, _⟩ => by simp at hx), e2, by rw [wipeE_length]; exact hn1⟩ (fun i H' _ ⟨Hm', ρ', fp', Ls, ok', _, g', _⟩ => hG H' Hm' g'.sh ok'.sub) (fun i x H' H'' hi ⟨Hm', ρ', fp', Ls, ok', de', g', el, hlen⟩ y => ?_) (fun H' ⟨Hm', ρ', fp', Ls, ok', de', g', el, hlen⟩ => ?_)
              · obtain ⟨Hm2, d, fr, hdd, rd⟩ := hY i H' Hm' x H'' hi g'.sh ok'.sub y
                obtain ⟨ok2, _, g2⟩ := fr.ok ok'
                rw [orF_noF] at g2
                have hdr : ds.drop i = d :: ds.drop (i + 1) := by
                  rw [List.drop_eq_getElem_cons hi]
                  rw [List.getElem?_eq_getElem hi] at hdd
                  rw [Option.some.inj hdd]
                rw [hdr] at el
                have el' : (match tgt d ρ' with
                  | none => none
                  | some ρ1 => if ρ1.length = ρ'.length then match mbind kf toSh ρ1 with
                    | some (.ok (k, ρ2)) => if (Ls.map fun x => kD x.1).length < sizeLine ∧ isK k = true then deLoop vs tgt kf (ds.drop (i + 1)) (wipeE ρ2 vs) ((Ls.map fun x => kD x.1) ++ [k]) else none
                    | _ => none
                    else none : Option (List D × Env)) = some (ksL, ρ2) := el
                cases e3 : tgt d ρ' with
                | none => rw [e3] at el'; cases el'
                | some ρ3 =>
                  rw [e3] at el'
                  simp only at el'
                  by_cases hl3 : ρ3.length = ρ'.length
                  · rw [if_pos hl3] at el'
                    refine hg (L2.wipe σ vs) H'' Hm2 ρ' fp' ok2 x d rd ρ3 e3 _ fun σ3 fp3 ok3 k3 s3 => ?_
                    have hs3 : σ3.length = (L2.wipe σ vs).length := by rw [ok3.len, ok'.len, hl3]
                    have hw : L2.wipe σ3 vs = L2.wipe σ vs := by
                      refine (wipe_eq hs3 fun i hi hlt => k3 i (mem_ioB.mpr ⟨by rw [ok'.len, hlen] at hlt; exact hlt, hi⟩)).trans ?_
                      exact wipe_eq (wipe_length _ _) fun i hi _ => wipe_at hi
                    refine ⟨hw, ?_⟩
                    show if true = true then _ else _
                    rw [if_pos rfl]
                    have g3 := (g'.trans (g2.beside (GL Dl Ls))).to (F2 := orF (all fp3) (GL Dl Ls)) fun p z => z.imp (s3 p) id
                    have de3 : DE H'' Hm2 fp3 Dl Ls := de'.move fun a u b1 b2 b3 => let ⟨c1, c2, c3⟩ := g2.far a u b1 b2 b3; ⟨c1, c2, fun z => c3 (s3 a z)⟩
                    cases e5 : mbind kf toSh ρ3 with
                    | none => rw [e5] at el'; cases el'
                    | some r5 =>
                      rw [e5] at el'
                      refine snd_d he σ3 H'' Hm2 ρ3 fp3 ok3 r5 e5 _ ?_
                      cases r5 with
                      | error er => cases el'
                      | ok p5 =>
                        obtain ⟨y5, ρ5⟩ := p5
                        intro v5 H5 Hm5 fp5 Fo5 ok5 hr5 d5 g5
                        obtain ⟨hr5, rfl⟩ := hr5
                        rw [orF_noF] at g5
                        simp only at el'
                        by_cases hz : (Ls.map fun x => kD x.1).length < sizeLine ∧ isK y5 = true
                        · rw [if_pos hz] at el'
                          obtain ⟨key, rfl, rfl⟩ := isK_of hr5 hz.2
                          have de5 : DE H5 Hm5 fp5 Dl Ls := de3.move fun a u b1 b2 b3 => g5.far a u b1 b2 b3
                          have gg := g3.trans (g5.beside (GL Dl Ls))
                          intro qa hqa
                          refine ⟨by show 2 ≤ sizeLine; decide, fun ta hta => ?_⟩
                          have htq : ta ≠ qa := fun z => by rw [z, upd_same] at hta; cases hta
                          have ht0 : H5 ta = none := by rw [upd_ne htq] at hta; exact hta
                          have nD : Dl ≠ qa ∧ Dl ≠ ta := ⟨(fun z => by have := de5.lst; rw [z, hqa] at this; cases this), (fun z => by have := de5.lst; rw [z, ht0] at this; cases this)⟩
                          have keep : ∀ a u, a ≠ Dl → H5 a = some u → upd (upd (upd H5 qa (.dK [])) ta (.tup [kV key, .ref qa])) Dl (.lst ((Ls.map fun x => .ref x.2.1) ++ [.ref ta])) a = some u := fun a u hd e => by
                            rw [upd_ne hd, upd_ne (fun z => by rw [z, ht0] at e; cases e), upd_ne (fun z => by rw [z, hqa] at e; cases e)]; exact e
                          have deN := de5.snoc (k := key) ok5.sub (fun p hp => (ok5.fpNone p hp).2) hqa hta
                          have okw5 : Ok P w K Θ (L2.wipe σ vs) H5 Hm5 (wipeE ρ5 vs) (fun i => if i ∈ vs then noF else fp5 i) := by rw [← hw]; exact ok5.wipe vs
                          have pD := de5.priv Dl (.inl rfl)
                          refine ⟨_, by rw [upd_ne nD.2, upd_ne nD.1]; exact de5.lst, by rw [List.length_map] at hz ⊢; exact hz.1, Hm5, _, _, Ls ++ [(key, ta, qa)], okw5.move (Up.refl _) (fun a u z => keep a u (fun y => by rw [y, pD.1] at z; cases z) (ok5.sub _ _ z)) (fun p u hp z => keep p u (fun y => pD.2 (by rw [← y]; exact wipe_all hp)) z) (fun p hp => (okw5.fpNone p hp).1), ?_, ⟨gg.sh, fun a u b1 b2 b3 => ?_⟩, by rw [List.map_append]; exact el', ?_⟩
                          · exact ⟨deN.lst, deN.tup, deN.dic, fun a ha => ⟨(deN.priv a ha).1, fun z => (deN.priv a ha).2 (wipe_all z)⟩, deN.nd⟩
                          · obtain ⟨c1, c2, c3⟩ := gg.far a u b1 b2 b3
                            refine ⟨keep a u (fun y => c3 (.inr (.inl y))) c1, c2, fun z => ?_⟩
                            rcases z with z | z | ⟨y, hy, z⟩
                            · exact c3 (.inl (wipe_all z))
                            · exact c3 (.inr (.inl z))
                            · rcases List.mem_append.mp hy with hy | hy
                              · exact c3 (.inr (.inr ⟨y, hy, z⟩))
                              · rw [List.mem_singleton] at hy; subst hy
                                rcases z with z | z
                                · have z' : a = ta := z
                                  rw [z', ht0] at c1; cases c1
                                · have z' : a = qa := z
                                  rw [z', hqa] at c1; cases c1
                          · rw [wipeE_length, ← ok5.len, hs3, ok'.len, hlen]
                        · rw [if_neg hz] at el'; cases el'
                  · rw [if_neg hl3] at el'; cases el'
              · rw [List.drop_of_length_le (Nat.le_refl _)] at el
                cases el
                have gg : Grow H1 Hm1 (all fp1) H' Hm' (orF (all fp') (GL Dl Ls)) := ⟨g'.sh, fun p u a b c => g'.far p u (by rw [upd_ne (ne_of_none a hD)]; exact a) b fun z => z.elim (fun z => c (wipe_all z)) fun z => by rw [show p = Dl from z, hD] at a; cases a⟩
                have out : ∀ i p, i ∈ vs → fp1 i p → ∃ u, H1 p = some u ∧ H' p = some u ∧ Hm' p = none ∧ ¬ orF (all fp') (GL Dl Ls) p := fun i p hi hp => by
                  obtain ⟨a1, u, a2⟩ := ok1.fpNone p ⟨i, hp⟩
                  refine ⟨u, a2, g'.far p u (by rw [upd_ne (ne_of_none a2 hD)]; exact a2) a1 fun z => z.elim (fun ⟨j, hj⟩ => ?_) fun z => by rw [show p = Dl from z, hD] at a2; cases a2⟩
                  have hj' : (if j ∈ vs then noF else fp1 j) p := hj
                  split at hj'
                  · exact hj'.elim
                  · rename_i hjv
                    exact hjv (ok1.apart i j p hp hj' ▸ hi)
                have kn : ∀ M : Lx, (M.map fun x => kD x.1).filterMap dKey = M.map (·.1) := fun M => by
                  induction M with
                  | nil => rfl
                  | cons x M ih => rw [List.map_cons, List.filterMap_cons, dKey_kD, ih]; rfl
                have nd1 : (Ls.map (·.1)).Nodup := by rw [← kn]; exact hnd
                have nd2 : ((Ls.map fun x => ((x.1, V.ref x.2.2) : Key × V)).map (·.1)).Nodup := by rw [List.map_map]; exact nd1
                refine ⟨Dl, Ls.map (·.2.1), Ls.map fun x => (x.1, .ref x.2.2), rfl, .inl (.inl (by rw [List.map_map]; exact de'.lst)), pairedL de'.tup, fun pa hpa => ?_⟩
                rw [mergeK_nd (acc := []) (by rw [List.nil_append]; exact nd2), List.nil_append]
                have kp : ∀ a u, H' a = some u → upd H' pa (.dK (Ls.map fun x => (x.1, .ref x.2.2))) a = some u := fun a u z => by rw [upd_ne (ne_of_none z hpa)]; exact z
                have nG : ∀ p, (p = pa ∨ ∃ x ∈ Ls, p = x.2.2) → Hm' p = none ∧ ¬ all fp' p := fun p hp => by
                  rcases hp with rfl | ⟨x, hx, rfl⟩
                  · refine ⟨?_, fun z => by obtain ⟨_, u, hu⟩ := ok'.fpNone _ z; rw [hpa] at hu; cases hu⟩
                    cases z : Hm' p with
                    | none => rfl
                    | some u => rw [ok'.sub _ _ z] at hpa; cases hpa
                  · exact de'.priv _ (.inr ⟨x, hx, .inr rfl⟩)
                refine q (.ref pa) _ Hm' (fun i => if i ∈ vs then fp1 i else fp' i) (orF (one pa) (fun a => ∃ x ∈ Ls, a = x.2.2)) ⟨by rw [unwipe_length, hl]; rw [ok1.len, hn1], fun a u z => kp a u (ok'.sub _ _ z), fun i v o a1 a2 => ?_, fun i hi => ?_, fun i j p a1 a2 => ?_⟩ ?_ (fun p hp ⟨i, hi⟩ => ?_) (g1.trans ⟨gg.sh, fun p u a b c => ?_⟩)
                · rcases unwipe_in a2 with ⟨b1, rfl⟩ | ⟨b1, b2⟩
                  · rw [if_pos b1]
                    cases z : ρ1[i]? with
                    | none =>
                      show fp1 i = noF
                      exact ok1.out i (List.getElem?_eq_none_iff.mp z)
                    | some o1 =>
                      have s := ok1.slot i v o1 a1 z
                      cases o1 with
                      | none => exact s
                      | some o1 =>
                        obtain ⟨u, c1, s⟩ := s
                        refine ⟨u, c1, s.move g'.sh (fun p u' hp hu => ?_) fun p hp => ?_⟩
                        · obtain ⟨u2, d1, d2, _⟩ := out i p b1 hp
                          rw [hu] at d1; cases d1; exact kp _ _ d2
                        · obtain ⟨u2, _, _, d2, _⟩ := out i p b1 hp; exact d2
                  · rw [if_neg b1]
                    have s := ok'.slot i v o (by rw [wipe_at b1]; exact a1) b2
                    cases o with
                    | none => exact s
                    | some o =>
                      obtain ⟨u, c1, s⟩ := s
                      exact ⟨u, c1, s.move (Up.refl _) (fun p u' _ hu => kp p u' hu) fun p hp => (s.own p hp).2⟩
                · rw [unwipe_length, hl] at hi
                  show (if i ∈ vs then fp1 i else fp' i) = noF
                  rw [ok1.out i (by rw [hn1]; exact hi), ok'.out i (by rw [hlen]; exact hi)]; exact ite_self _
                · have a1' : (if i ∈ vs then fp1 i else fp' i) p := a1
                  have a2' : (if j ∈ vs then fp1 j else fp' j) p := a2
                  split at a1'
                  · rename_i hiv
                    split at a2'
                    · exact ok1.apart i j p a1' a2'
                    · obtain ⟨_, _, _, _, z⟩ := out i p hiv a1'
                      exact (z (.inl ⟨j, a2'⟩)).elim
                  · split at a2'
                    · rename_i hjv
                      obtain ⟨_, _, _, _, z⟩ := out j p hjv a2'
                      exact (z (.inl ⟨i, a1'⟩)).elim
                    · exact ok'.apart i j p a1' a2'
                · show (Θ τ).holds K _ _ _ _ _
                  rw [hτ, List.map_map]
                  refine .r upd_same (nG pa (.inl rfl)).1 (trs_empty (fun x hx => ⟨kp _ _ (de'.dic x hx), (nG _ (.inr ⟨x, hx, rfl⟩)).1⟩) de'.nd) (fun ⟨x, hx, z⟩ => by have := de'.dic x hx; rw [← z, hpa] at this; cases this) nd2
                · have hp' := nG p hp
                  have hi' : (if i ∈ vs then fp1 i else fp' i) p := hi
                  split at hi'
                  · rename_i hiv
                    obtain ⟨u, b1, b2, b3, b4⟩ := out i p hiv hi'
                    rcases hp with z | ⟨x, hx, z⟩
                    · have z' : p = pa := z
                      rw [z', hpa] at b2; cases b2
                    · exact b4 (.inr (.inr ⟨x, hx, .inr z⟩))
                  · exact hp'.2 ⟨i, hi'⟩
                · obtain ⟨n1, n2, n3⟩ := gg.far p u a b c
                  refine ⟨kp _ _ n1, n2, fun z => ?_⟩
                  rcases z with ⟨i, hi⟩ | z | ⟨x, hx, z⟩
                  · have hi' : (if i ∈ vs then fp1 i else fp' i) p := hi
                    split at hi'
                    · exact c ⟨i, hi'⟩
                    · exact n3 (.inl ⟨i, hi'⟩)
                  · have z' : p = pa := z
                    rw [z', hpa] at n1; cases n1
                  · exact n3 (.inr (.inr ⟨x, hx, .inr z⟩))
            · rw [if_neg hl'] at e; cases e
        · rw [if_neg hn1] at e; cases e
theorem ce_de {kx tg iter : Expr} {scope : Scope} {own : List (Str × Nat)} {k1 n τ : Nat} {p pos pos2 post posd : Pos} {src : M (List D)} {tgt : D → Env → Option Env} {kf : M R} (hτ : Θ τ = tSem X.prog X.w (.r fun _ => .d)) (hc : X.calm = true) (hN : X.N.Nodup) (hgl : Gl X "dict") (hm : X.mg "dict" = none) (hi : CI Θ X W tg iter src) (ok : BlkOk X.N X.env.scope scope own)
    (hg : ∀ (s : Shared) (H : Hp) (C : Addr) (cl : List (Str × Addr)) (fp : List Addr), CG Θ (X.blk s H scope (compEnvC scope cl C X.env) fp) (ioB n (own.map (·.2))) tg tgt)
    (hk : ∀ (s : Shared) (H : Hp) (C : Addr) (cl : List (Str × Addr)) (fp : List Addr), CE Θ (X.blk s H scope (compEnvC scope cl C X.env) fp) W0 kx kf) (hs : ∀ x, foldedSetIterable iter X.env x = pure x := by intro _; rfl)
    (hs1 : starEach [.ListComp (.Tuple [kx, .Dict [] [] posd] k1 post) [⟨tg, iter, [], 0⟩] scope pos2] X.env = [(false, eval (.ListComp (.Tuple [kx, .Dict [] [] posd] k1 post) [⟨tg, iter, [], 0⟩] scope pos2) X.env)] := by rfl)
    (hs2 : ∀ (s : Shared) (H : Hp) (C : Addr) (cl : List (Str × Addr)) (fp : List Addr), starEach [kx, .Dict [] [] posd] (X.blk s H scope (compEnvC scope cl C X.env) fp).env = (false, eval kx (X.blk s H scope (compEnvC scope cl C X.env) fp).env) :: starEach [.Dict [] [] posd] (X.blk s H scope (compEnvC scope cl C X.env) fp).env := by intros; rfl) :
    CE Θ X W (.Call (.Name "dict" p) [.ListComp (.Tuple [kx, .Dict [] [] posd] k1 post) [⟨tg, iter, [], 0⟩] scope pos2] [] pos) (eDE τ n (own.map (·.2)) src tgt kf) := by
  obtain ⟨wi, a, b⟩ := hi
  refine ⟨_, pe_callTy (call_dictP hc) hgl hm (by decide +kernel) (pa_cons (pe_lc (g := tGx X.prog X.w X.K Θ (ioB n (own.map (·.2))) tgt) (tt := tYes) (te := tTup (tCons (tX X.prog X.w X.K Θ (relE X.prog X.w X.K Θ) W0 kf) (tCons tDNewK tNil))) hc hN a ok (fun s H C cl fp => (hg s H C cl fp).canon) (fun s H C cl fp => pts_nil) (fun s H C cl fp => pe_tup (pa_cons (hk s H C cl fp).canon (pa_cons pe_dnewK pa_nil) (hs2 s H C cl fp))) hs) pa_nil hs1) (he := hs1) (hpl := rfl), ?_⟩
  exact snd_de hτ b sndg_tGx snd_tX
/-! ### a display of owned parts -/
def oShp (S : Nat → Shp) : O → Option (Shp × D)
  | .sh d => some (.s, d)
  | .ol ds => some (.l, .list ds)
  | .od nk kvs => if nk = nkOf kvs then some (.d, .dict kvs) else none
  | .ob τ d => some (S τ, d)
end
end Wl

/- text WlZa -/
set_option Elab.async false
set_option maxRecDepth 100000
namespace Wl
open PySem PySem.Spec L2
open PyProof.Rows hiding St

section
variable {P : Program} {w : World} {K : PySem.W.Frag} {Θ : Nat → ObSem} {W : WX} {X : Cx} {io : List Nat}
inductive Sel where
  | s
  | l
  | d
  | o (τ : Nat)
def selShp (S : Nat → Shp) : Sel → Shp
  | .s => .s
  | .l => .l
  | .d => .d
  | .o τ => S τ
def fit : Sel → O → Option D
  | .s, .sh d => some d
  | .l, .ol ds => some (.list ds)
  | .d, .od nk kvs => if nk = nkOf kvs then some (.dict kvs) else none
  | .o τ, .ob τ' d => if τ = τ' then some d else none
  | _, _ => none
def mkD : List Str → List Sel → List R → Option (List (D × D))
  | [], [], [] => some []
  | k :: ks, s :: ss, .v o :: rs => match fit s o, mkD ks ss rs with
    | some d, some kvs => some ((.str k, d) :: kvs)
    | _, _ => none
  | _, _, _ => none
def eDisp (τ : Nat) (ks : List Str) (ss : List Sel) (f : M (List R)) : M R := mbind f fun rs ρ => match mkD ks ss rs with
  | some kvs => some (.ok (.v (.ob τ (.dict kvs)), ρ))
  | none => none
theorem fit_tr {S : Nat → Shp} (hS : AllS P w Θ S) {H Hm : Hp} {v : V} {o : O} {F : Fp} {s : Sel} {d : D} (h : OOk P w K Θ H Hm v o F) (e : fit s o = some d) : TR P w K H Hm (selShp S s) v d F := by
  cases s with
  | s => cases o <;> first | (cases e; done) | (cases e; obtain ⟨h1, rfl⟩ := h; exact .s h1)
  | l => cases o <;> first | (cases e; done) | (cases e; obtain ⟨p, xs, rfl, h1, h2, h3, rfl⟩ := h; exact .l h1 h2 h3)
  | d =>
    cases o with
    | od nk kvs =>
      have e' : (if nk = nkOf kvs then some (PyData.dict kvs) else none) = some d := e
      by_cases hn : nk = nkOf kvs
      · rw [if_pos hn] at e'; cases e'
        obtain ⟨p, rfl, h1, h2, rfl⟩ := h
        rw [hn] at h1
        exact .d h1 h2
      · rw [if_neg hn] at e'; cases e'
    | _ => cases e
  | o τ =>
    cases o with
    | ob τ' d' =>
      have e' : (if τ = τ' then some d' else none) = some d := e
      by_cases hn : τ = τ'
      · subst hn
        rw [if_pos rfl] at e'; cases e'
        have h' : (Θ τ).holds K H Hm v d F := h
        rw [hS τ] at h'
        exact h'
      · rw [if_neg hn] at e'; cases e'
    | _ => cases e
theorem mk_trs {S : Nat → Shp} (hS : AllS P w Θ S) {c : Key → Shp} {H Hm : Hp} {σ : L2.St} {ρ : Env} : ∀ {ks : List Str} {ss : List Sel} {rs : List R} {vs : List V} {F : Fp} {kvs : List (D × D)}, (∀ x ∈ ks.zip ss, c (.inr x.1) = selShp S x.2) → RLOk P w K Θ σ ρ H Hm vs rs F → mkD ks ss rs = some kvs →
    TRs P w K H Hm c ((ks.zip vs).map fun x => (.inr x.1, x.2)) kvs F ∧ vs.length = ks.length
  | [], [], [], [], F, kvs, _, h, e => by cases e; rw [show F = noF from h]; exact ⟨.nil, rfl⟩
  | k :: ks, s :: ss, .v o :: rs, v :: vs, F, kvs, hc, ⟨F1, F2, h1, h2, dj, e0⟩, e => by
    subst e0
    have e' : (match fit s o, mkD ks ss rs with
      | some d, some kvs => some ((PyData.str k, d) :: kvs)
      | _, _ => none) = some kvs := e
    cases e1 : fit s o with
    | none => rw [e1] at e'; cases e'
    | some d =>
      cases e2 : mkD ks ss rs with
      | none => rw [e1, e2] at e'; cases e'
      | some kvs' =>
        rw [e1, e2] at e'; cases e'
        obtain ⟨a, b⟩ := mk_trs hS (c := c) (fun x hx => hc x (List.mem_cons_of_mem _ hx)) h2 e2
        refine ⟨.cons (k := .inr k) ?_ a dj, by simp [b]⟩
        rw [hc (k, s) (List.mem_cons_self ..)]
        exact fit_tr hS h1 e1
  | [], _ :: _, _, _, _, _, _, _, e => by cases e
  | [], [], _ :: _, _, _, _, _, _, e => by cases e
  | _ :: _, [], _, _, _, _, _, _, e => by cases e
  | _ :: _, _ :: _, [], _, _, _, _, _, e => by cases e
  | _ :: _, _ :: _, .pl _ :: _, _, _, _, _, _, e => by cases e
  | _ :: _, _ :: _, .v _ :: _, [], _, _, _, h, _ => h.elim
  | [], [], [], _ :: _, _, _, _, h, _ => h.elim
/-- the pairs of a display with these keys -/
def relPs (P : Program) (w : World) (K : PySem.W.Frag) (Θ : Nat → ObSem) (ks : List Str) : L2.St → Env → Hp → Hp → List (V × V) → List R → Fp → Prop := fun σ ρ H Hm ps rs F => ∃ vs, ps = (ks.zip vs).map (fun x => (V.str x.1, x.2)) ∧ RLOk P w K Θ σ ρ H Hm vs rs F ∧ vs.length = ks.length
theorem snd_ps0 : Snd P w K Θ (relPs P w K Θ []) W (tPairs []) aNil := fun σ H Hm ρ fp ok res e Q q => by
  cases e
  exact Snd.now ok (show relPs P w K Θ [] σ ρ H Hm [] [] noF from ⟨[], rfl, rfl, rfl⟩) q
theorem snd_ps1 {k : Str} {ks : List Str} {te : TE} {trs : List (TE × TE)} {f : M R} {g : M (List R)} (h1 : SndE P w K Θ W te f) (h2 : Snd P w K Θ (relPs P w K Θ ks) W (tPairs trs) g) : Snd P w K Θ (relPs P w K Θ (k :: ks)) W (tPairs ((tC (.str k), te) :: trs)) (aCons f g) := fun σ H Hm ρ fp ok res e Q q => by
  rcases mbind_inv e with ⟨r, ρ1, e1, e⟩ | ⟨er, e1, rfl⟩
  · refine h1 σ H Hm ρ fp ok _ e1 _ ?_
    intro v H1 Hm1 fp1 Fo1 ok1 k1 d1 g1
    rcases mbind_inv e with ⟨rs, ρ2, e2, e⟩ | ⟨er, e2, rfl⟩
    · refine h2 σ H1 Hm1 ρ1 fp1 ok1 _ e2 _ ?_
      intro ps H2 Hm2 fp2 Fo2 ok2 ⟨vs, hps, k2, hl⟩ d2 g2
      split at e
      · rename_i hs
        cases e
        obtain ⟨k1', d1'⟩ := ROk.beside k1 d1 g2 hs
        refine q _ H2 Hm2 fp2 (orF Fo1 Fo2) ok2 ⟨v :: vs, by rw [hps]; rfl, ⟨Fo1, Fo2, k1', k2, fun p hp z => d1' p hp (.inr z), rfl⟩, by simp [hl]⟩ (fun p hp => hp.elim (fun z y => d1' p z (.inl y)) (d2 p)) ((g1.seq g2).to fun p hp => ?_)
        rcases hp with hp | hp | hp
        · exact .inl (.inl hp)
        · exact .inr hp
        · exact .inl (.inr hp)
      · cases e
    · refine h2 σ H1 Hm1 ρ1 fp1 ok1 _ e2 _ ?_
      exact fun cls d H2 Hm2 fp2 ok2 x2 g2 => q cls d H2 Hm2 fp2 ok2 x2 (g1.seq0 g2)
  · exact h1 σ H Hm ρ fp ok _ e1 _ q
def CPs (Θ : Nat → ObSem) (X : Cx) (W : WX) (pos : Pos) (ks : List Str) (keys : List (Option Expr)) (vals : List Expr) (f : M (List R)) : Prop := ∃ trs, PPs X pos keys vals trs ∧ Snd X.prog X.w X.K Θ (relPs X.prog X.w X.K Θ ks) W (tPairs trs) f
theorem cps_nil {pos : Pos} : CPs Θ X W pos [] [] [] aNil := ⟨_, pps_nil, snd_ps0⟩
theorem cps_cons {pos p : Pos} {j : Nat} {k : Str} {ks : List Str} {keys : List (Option Expr)} {e : Expr} {vals : List Expr} {f : M R} {g : M (List R)} (h : CE Θ X W e f) (r : CPs Θ X W pos ks keys vals g) : CPs Θ X W pos (k :: ks) (some (.Constant (.str k) j p) :: keys) (e :: vals) (aCons f g) :=
  let ⟨_, a, b⟩ := h; let ⟨_, c, d⟩ := r; ⟨_, pps_cons pe_str a c, snd_ps1 b d⟩
theorem Grow.far0 {H Hm H' Hm' : Hp} {A B : Fp} {p : Addr} {u : HO} (g : Grow H Hm A H' Hm' B) (h1 : H p = some u) (h2 : Hm p = none) (h3 : ¬ A p) : H' p = some u ∧ Hm' p = none ∧ ¬ B p := g.far p u h1 h2 h3
theorem snd_disp {S : Nat → Shp} (hS : AllS P w Θ S) {τ : Nat} {c : Key → Shp} {ks : List Str} {ss : List Sel} {trs : List (TE × TE)} {f : M (List R)} (hτ : S τ = .r c) (hc : ∀ x ∈ ks.zip ss, c (.inr x.1) = selShp S x.2) (nd : ks.Nodup) (h15 : ks.length ≤ 15) (h : Snd P w K Θ (relPs P w K Θ ks) W (tPairs trs) f) : SndE P w K Θ W (tDisp trs) (eDisp τ ks ss f) := fun σ H Hm ρ fp ok res e Q q => by
  intro p hp
  obtain ⟨fr, hpm⟩ := fresh_own (u := .dK []) ok.sub hp
  have npf : ¬ all fp p := fun z => by obtain ⟨_, u, hu⟩ := ok.fpNone p z; rw [hp] at hu; cases hu
  have ok0 : Ok P w K Θ σ (upd H p (.dK [])) Hm ρ fp := (fr.ok ok).1
  rcases mbind_inv e with ⟨rs, ρ1, e1, e⟩ | ⟨er, e1, rfl⟩
  · refine h σ _ Hm ρ fp ok0 _ e1 _ ?_
    intro ps H2 Hm2 fp2 Fo2 ok2 ⟨vs, hps, hr, hl⟩ d2 g2
    obtain ⟨k1, k2, k3⟩ := g2.far0 (p := p) upd_same hpm npf
    split at e
    · rename_i kvs em
      cases e
      obtain ⟨tr, _⟩ := mk_trs hS (c := c) hc hr em
      have ndk : (((ks.zip vs).map fun x => ((Sum.inr x.1, x.2) : Key × V)).map (·.1)).Nodup := by
        rw [List.map_map]
        have : (ks.zip vs).map ((fun x : Key × V => x.1) ∘ fun x => (Sum.inr x.1, x.2)) = ks.map Sum.inr := by
          rw [show ((fun x : Key × V => x.1) ∘ fun x : Str × V => (Sum.inr x.1, x.2)) = Sum.inr ∘ Prod.fst from rfl, ← List.map_map, List.map_fst_zip (by omega)]
        rw [this]
        exact (List.pairwise_map.mpr (nd.imp fun h z => h (Sum.inr.inj z)))
      refine ⟨k1, (ks.zip vs).map fun x => (.inr x.1, x.2), ?_, by simp; omega, ?_⟩
      · rw [hps, List.map_map]; rfl
      · rw [mergeK_nd (acc := []) (by rw [List.nil_append]; exact ndk), List.nil_append]
        have nF : ∀ a, (all fp2 a ∨ Fo2 a) → a ≠ p := fun a ha z => k3 (by rw [← z]; exact ha)
        have kp : ∀ a u, a ≠ p → H2 a = some u → upd H2 p (.dK ((ks.zip vs).map fun x => (.inr x.1, x.2))) a = some u := fun a u ha z => by rw [upd_ne ha]; exact z
        refine q (.ref p) _ Hm2 fp2 (orF (one p) Fo2) (ok2.move (Up.refl _) (fun a u z => kp a u (fun y => by rw [y, k2] at z; cases z) (ok2.sub _ _ z)) (fun a u ha z => kp a u (nF a (.inl ha)) z) fun a ha => (ok2.fpNone a ha).1) ?_ (fun a ha => ha.elim (fun z y => nF a (.inl y) z) (d2 a)) ⟨g2.sh, fun a u b1 b2 b3 => ?_⟩
        · show (Θ τ).holds K _ _ _ _ _
          rw [hS τ, hτ]
          exact .r upd_same k2 (TRs.move (Up.refl _) tr (fun a o ha z => kp a o (nF a (.inr ha)) z) fun a ha => (TRs.own tr a ha).2) (fun z => nF p (.inr z) rfl) ndk
        · have ap : a ≠ p := fun z => by rw [z, hp] at b1; cases b1
          obtain ⟨c1, c2, c3⟩ := g2.far a u (by rw [upd_ne ap]; exact b1) b2 b3
          exact ⟨kp a u ap c1, c2, fun z => z.elim (fun z => c3 (.inl z)) fun z => z.elim ap fun z => c3 (.inr z)⟩
    · cases e
  · refine h σ _ Hm ρ fp ok0 _ e1 _ ?_
    obtain ⟨er, ρ1⟩ := er
    intro cls d H2 Hm2 fp2 ok2 x2 g2
    refine q cls d H2 Hm2 fp2 ok2 x2 ⟨g2.sh, fun a u b1 b2 b3 => ?_⟩
    have ap : a ≠ p := fun z => by rw [z, hp] at b1; cases b1
    exact g2.far a u (by rw [upd_ne ap]; exact b1) b2 b3
theorem ce_disp {S : Nat → Shp} {τ : Nat} {c : Key → Shp} {ks : List Str} {ss : List Sel} {keys : List (Option Expr)} {vals : List Expr} {f : M (List R)} {pos : Pos} (hS : AllS X.prog X.w Θ S) (hτ : S τ = .r c) (hc : ∀ x ∈ ks.zip ss, c (.inr x.1) = selShp S x.2) (nd : ks.Nodup) (h15 : ks.length ≤ 15) (h : CPs Θ X W pos ks keys vals f)
    (hall : keys.all (·.isSome) = true := by rfl) (hl : keys.length = vals.length := by rfl) (h0 : keys ≠ [] := by exact List.cons_ne_nil _ _) (hk : keys.length ≤ 15 := by decide) : CE Θ X W (.Dict keys vals pos) (eDisp τ ks ss f) :=
  let ⟨_, a, b⟩ := h; ⟨_, pe_disp a hall hl h0 hk, snd_disp hS hτ hc nd h15 b⟩
end
end Wl

/- text WlEnd -/
set_option Elab.async false
set_option maxRecDepth 100000
set_option maxHeartbeats 2000000
namespace Wl
open PySem PySem.Spec L2
open PyProof.Rows hiding St

/-! ### the end: the call of law -/
/-- the script's heap: known to be this list, or an object of the module -/
def HsK (K : PySem.W.Frag) (a : Addr) (vs : List Value) (ns : List Int) : Hp := fun b => match K.lookup a with
  | some _ => none
  | none => if b = a then some (.frz { cls := .type "list", data := .seq vs.toArray } (.lst (ns.map V.int))) else none
theorem lawG {P : Program} {w : World} {K : PySem.W.Frag} {mg mb : Str → Option Value} {CX : CXT} {k : Nat} {fa a : Addr} {fd : FuncData} {x : Str} {sp : Sp} {s1 : Shared} {vs : List Value} {ns : List Int}
    (KX : K.In s1.heap) (hns : s1.heap.Ns mainGlobals mg) (hb : s1.heap.Ns builtinsNs mb) (hbb : ∀ x : Str, x ≠ "__name__" → mb x = bootBuiltins x) (hlim : s1.heap.NoLimit) (hg : s1.gens = #[])
    (ha : s1.heap.get? a = some { cls := .type "list", data := .seq vs.toArray }) (hi : IntsAre vs ns) (hl : ns.length ≤ sizeLine) (hr : Room k callerA)
    (F : ∀ base : Heap, K.In base → base.Ns mainGlobals mg → FnG P w K mg base CX k fa fd [x] sp) (hbind : ∀ (s : Shared) (u : Value), BindsTo s fd ⟨[u], []⟩ [(x, u)])
    (hsp : ∀ H : Hp, SqL K H a (ns.map V.int) → sp [.ref a] H (fun v _ => v = .bl true) fun _ _ _ => False)
    (hCX : ∀ H e s', CX [] H s1 (fun _ _ _ => False) e s' → False) :
    codeAny (model P w) callerA (.call (.ref fa) ⟨[.ref a], []⟩) (fun r s' => r = .ok (.ret (.bool true)) ∧ OldK s1.heap s'.heap ∧ s'.os = s1.os ∧ AllBare s'.gens) s1 := by
  have rv := vals_ints hi
  generalize hH : HsK K a vs ns = H
  have Hb : ∀ b u, H b = some u → b = a ∧ K.lookup a = none ∧ u = .frz { cls := .type "list", data := .seq vs.toArray } (.lst (ns.map V.int)) := fun b u e => by
    rw [← hH] at e
    unfold HsK at e
    cases hk : K.lookup a with
    | some o => rw [hk] at e; cases e
    | none =>
      rw [hk] at e
      simp only at e
      split at e
      · rename_i hba; cases e; exact ⟨hba, rfl, rfl⟩
      · cases e
  have hS : SqL K H a (ns.map V.int) := by
    cases hk : K.lookup a with
    | none => exact .inl (.inr ⟨_, by rw [← hH]; unfold HsK; rw [hk]; exact if_pos rfl⟩)
    | some o =>
      have e := KX a o hk
      rw [ha] at e; cases e
      exact .inr ⟨_, vs.toArray, _, hk, rfl, rfl, rfl, by rw [List.size_toArray, hi.length]; exact hl, by simpa using rv⟩
  have hok : HOk P w H s1.heap := fun b u e => by
    obtain ⟨rfl, _, rfl⟩ := Hb b u e
    exact ⟨ha, by rw [List.length_map]; exact hl, vs, _, rv, ha⟩
  have hid : ∀ {b : Addr} {o : Obj}, s1.heap.get? b = some o → H b = none → (hidT s1.heap H).get? b = some o := fun e n => hidT_get e n
  have dictN : ∀ {b : Addr} {o : Obj} {es : Array DictEntry} {ep : Nat}, s1.heap.get? b = some o → o.data = .dict es ep → H b = none := fun {b o es ep} e d => by
    cases q : H b with
    | none => rfl
    | some u =>
      obtain ⟨rfl, _⟩ := Hb b u q
      rw [ha] at e; cases e
      cases (show Data.seq vs.toArray _ = Data.dict es ep from d)
  have nsK : ∀ {b : Addr} {m : Str → Option Value}, s1.heap.Ns b m → (hidT s1.heap H).Ns b m := fun ⟨o, es, ep, e, d, r⟩ => ⟨o, es, ep, hid e (dictN e d), d, r⟩
  have hKb : K.In (hidT s1.heap H) := fun b o e => hid (KX b o e) (by
    cases q : H b with
    | none => rfl
    | some u => obtain ⟨rfl, hk, _⟩ := Hb b u q; rw [hk] at e; cases e)
  have hM : Mod K mg (hidT s1.heap H) := ⟨hKb, nsK hns, ⟨mb, nsK hb, hbb⟩, let ⟨mc, h1, h2⟩ := hlim; ⟨mc, nsK h1, h2⟩⟩
  have e0 : Env0 P w K mg (hidT s1.heap H) callerA [] s1 H := ⟨rfl, hM, fun b o e => of_hidT e, Nat.le_of_eq (hidT_size _ _), trivial, fun b hb => absurd (show b ∈ ([] : List Addr) from hb) (by simp), hok, .of_eq hg⟩
  refine codeAny_mono ((F _ hKb (nsK hns)).goes callerA [] s1 H ⟨[.ref a], []⟩ [.ref a] [.ref a] _ _ rfl hr e0 (hbind s1 (.ref a)) (.cons rfl .nil) (hsp H hS)) fun r s' h => ?_
  match r, h with
  | .error e, h => exact (hCX H e s' h).elim
  | .ok .next, h => exact h.elim
  | .ok .brk, h => exact h.elim
  | .ok .cont, h => exact h.elim
  | .ok (.ret u), h =>
    obtain ⟨v, H', os, bare, un, hok', r', q⟩ := h
    have q' : v = .bl true := q
    subst q'
    obtain rfl : u = Value.bool true := r'
    refine ⟨rfl, OldK.of_keep fun b o e => ?_, os, bare⟩
    cases q : H b with
    | none => exact un.keep b o e q (fun z => absurd (show b ∈ ([] : List Addr) from z) (by simp)) (by simp)
    | some u =>
      obtain ⟨_, _, rfl⟩ := Hb b u q
      obtain ⟨e1, _⟩ := hok b _ q
      obtain ⟨e2, _⟩ := hok' b _ (un.frzs b _ _ q)
      rw [e] at e1; cases e1
      exact e2
theorem cx_end {P : Program} {w : World} {H : Hp} {s : Shared} {e : Value} {s' : Shared} (h : L2.CX P w [] H s (fun _ _ _ => False) e s') : False := by
  obtain ⟨a, B, H', cls, d, _, _, _, _, _, _, _, z⟩ := h
  exact z
theorem endG {l : PySem.W.OpenLaw} {n k : Nat} {q : Program} {loose : List Str} {XP : (Str → Option Value) → Heap → Prop} {YP : World → Heap → Prop} {d : DefRec} {x : Str}
    (hn : l.most = some n) (hn2 : n ≤ sizeLine) (hdf : d.params.defaults = []) (hr : Room k callerA)
    (F : ∀ (w : World) (mg : Str → Option Value) (fa : Addr) (h : Heap), YP w h → h.Ns mainGlobals mg → mg d.name = some (.ref fa) →
      ∃ (K : PySem.W.Frag) (fd : FuncData) (sp : Sp), K.In h ∧ (∀ (s : Shared) (u : Value), BindsTo s fd ⟨[u], []⟩ [(x, u)]) ∧
        (∀ (H : Hp) (a : Addr) (ns : List Int), ns.length ≤ n → SqL K H a (ns.map V.int) → sp [.ref a] H (fun v _ => v = .bl true) fun _ _ _ => False) ∧
        ∀ base : Heap, K.In base → base.Ns mainGlobals mg → FnG l.prog w K mg base (L2.CX l.prog w) k fa fd [x] sp) :
    PySem.W.WalkO q loose XP YP l.row.toRowW d [] (fun f vs => PySem.call f vs) := by
  refine Att.attach_call hn hdf fun w s₀ s₁ mg mb fa o pm cd doc a vs ns G Y ho hd hcd hmg hobj hints hlen hg => ?_
  obtain ⟨K, fd, sp, KX, hb, hsp, hF⟩ := F w mg fa _ Y G.T.g hmg
  exact lawG KX G.T.g G.T.b G.T.builtins G.T.nolimit hg hobj hints (Nat.le_trans hlen hn2) hr hF hb (fun H hS => hsp H a ns hlen hS) fun H e s' => cx_end
theorem ints_rp {P : Program} {w : World} {K : PySem.W.Frag} {Hm : Hp} : ∀ ns : List Int, RpL P w K Hm (ns.map V.int) (ns.map PyData.int)
  | [] => .nil
  | n :: ns => .cons (.int n) (ints_rp ns)
/-- the law's def, told by its function -/
theorem law_sp {P : Program} {w : World} {K : PySem.W.Frag} {Θ : Nat → ObSem} {φ : Fn} {n : Nat} (h : ∀ ns : List Int, ns.length ≤ n → ∃ outs, φ [.sh (.list (ns.map .int))] = some (.ok (.sh (.bool true), outs))) (H : Hp) (a : Addr) (ns : List Int) (hl : ns.length ≤ n) (hS : SqL K H a (ns.map V.int)) :
    SpF P w K Θ 1 φ [.ref a] H (fun v _ => v = .bl true) fun _ _ _ => False := by
  obtain ⟨outs, e⟩ := h ns hl
  refine ⟨rfl, [.sh (.list (ns.map .int))], H, fun _ => noF, ⟨rfl, Same.refl H, fun i v o h1 h2 => ?_, fun _ _ => rfl, fun _ _ _ z => z.elim⟩, _, e, fun v H' Hm' fp' Fo ok' oo _ _ => ?_⟩
  · cases i with
    | zero => cases h1; cases h2; exact ⟨_, rfl, .lst hS (ints_rp ns), rfl⟩
    | succ i => simp at h2
  · obtain ⟨h1, _⟩ := oo
    cases h1
    rfl
end Wl

/- text WpA -/
set_option Elab.async false
set_option maxRecDepth 100000
set_option maxHeartbeats 0
namespace Wl
open PySem PySem.Spec L2
open PyProof.Rows hiding St

/-! ### loops -/
theorem lc_inv {α : Type} {vs : List Nat} {tgt : D → Env → Option Env} {tst : M Bool} {elt : M R} (F : α → D) (I : List α → List D → Env → Prop) {xs : List α}
    (st : ∀ pre x post acc ρ, pre ++ x :: post = xs → I pre acc ρ → ∃ ρ1, tgt (F x) ρ = some ρ1 ∧ ρ1.length = ρ.length ∧
        ((∃ ρ2, tst ρ1 = some (.ok (false, ρ2)) ∧ I (pre ++ [x]) acc (wipeE ρ2 vs)) ∨
          ∃ ρ2 y ρ3, tst ρ1 = some (.ok (true, ρ2)) ∧ mbind elt toSh ρ2 = some (.ok (y, ρ3)) ∧ acc.length < sizeLine ∧ I (pre ++ [x]) (acc ++ [y]) (wipeE ρ3 vs))) :
    ∀ (post pre : List α) (acc : List D) (ρ : Env), pre ++ post = xs → I pre acc ρ →
      ∃ acc' ρ', lcLoop vs tgt tst elt (post.map F) ρ acc = some (acc', ρ') ∧ I (pre ++ post) acc' ρ'
  | [], pre, acc, ρ, _, h => ⟨acc, ρ, rfl, by rw [List.append_nil]; exact h⟩
  | x :: post, pre, acc, ρ, hx, h => by
    obtain ⟨ρ1, e1, hl, z⟩ := st pre x post acc ρ hx h
    rcases z with ⟨ρ2, e2, h2⟩ | ⟨ρ2, y, ρ3, e2, e3, hc, h2⟩
    · obtain ⟨acc', ρ', e, q⟩ := lc_inv F I st post (pre ++ [x]) acc _ (by simpa using hx) h2
      refine ⟨acc', ρ', ?_, by simpa using q⟩
      rw [List.map_cons, lcLoop, e1]
      simp only [hl, if_true, e2]
      exact e
    · obtain ⟨acc', ρ', e, q⟩ := lc_inv F I st post (pre ++ [x]) _ _ (by simpa using hx) h2
      refine ⟨acc', ρ', ?_, by simpa using q⟩
      rw [List.map_cons, lcLoop, e1]
      simp only [hl, if_true, e2, e3, hc]
      exact e
theorem lc_pure {α : Type} {vs : List Nat} {tgt : D → Env → Option Env} {tst : M Bool} {elt : M R} (F : α → D) (G : α → Env) (p : α → Bool) (f : α → D) {ρ : Env} :
    ∀ (xs : List α) (acc : List D), acc.length + xs.length ≤ sizeLine →
      (∀ x ∈ xs, tgt (F x) ρ = some (G x) ∧ (G x).length = ρ.length ∧ tst (G x) = some (.ok (p x, G x)) ∧ (p x = true → mbind elt toSh (G x) = some (.ok (f x, G x))) ∧ wipeE (G x) vs = ρ) →
      lcLoop vs tgt tst elt (xs.map F) ρ acc = some (acc ++ (xs.filter p).map f, ρ)
  | [], acc, _, _ => by simp [lcLoop]
  | x :: xs, acc, hl, h => by
    obtain ⟨e1, e2, e3, e4, e5⟩ := h x List.mem_cons_self
    rw [List.map_cons, lcLoop, e1]
    simp only [e2, if_true, e3]
    have hl' : acc.length + (xs.length + 1) ≤ sizeLine := hl
    cases hp : p x with
    | false =>
      simp only [e5]
      rw [lc_pure F G p f xs acc (by omega) fun x m => h x (List.mem_cons_of_mem _ m), List.filter_cons_of_neg (by rw [hp]; decide)]
    | true =>
      simp only [e4 hp, show acc.length < sizeLine by omega, if_true, e5]
      rw [lc_pure F G p f xs (acc ++ [f x]) (by rw [List.length_append, List.length_singleton]; omega) fun x m => h x (List.mem_cons_of_mem _ m), List.filter_cons_of_pos hp, List.map_cons, List.append_assoc, List.singleton_append]
theorem loop_inv {α : Type} {g : D → Env → Option Env} {body : SM} (F : α → D) (I : List α → Env → Prop) {xs : List α}
    (st : ∀ pre x post ρ, pre ++ x :: post = xs → I pre ρ → ∃ ρ1 ρ2, g (F x) ρ = some ρ1 ∧ (body ρ1 = some (.nx ρ2) ∨ body ρ1 = some (.ct ρ2)) ∧ I (pre ++ [x]) ρ2) :
    ∀ (post pre : List α) (ρ : Env), pre ++ post = xs → I pre ρ →
      ∃ ρ', loop g body (post.map F) ρ = some (.nx ρ') ∧ I (pre ++ post) ρ'
  | [], pre, ρ, _, h => ⟨ρ, rfl, by rw [List.append_nil]; exact h⟩
  | x :: post, pre, ρ, hx, h => by
    obtain ⟨ρ1, ρ2, e1, e2, h2⟩ := st pre x post ρ hx h
    obtain ⟨ρ', e, q⟩ := loop_inv F I st post (pre ++ [x]) ρ2 (by simpa using hx) h2
    refine ⟨ρ', ?_, by simpa using q⟩
    rw [List.map_cons, loop, e1]
    rcases e2 with e2 | e2
    · simp only [e2]; exact e
    · simp only [e2]; exact e
end Wl

/- text WpB -/
set_option Elab.async false
set_option maxRecDepth 100000
set_option maxHeartbeats 0
namespace Wl
open PySem PySem.Spec L2
open PyProof.Rows hiding St

/-! ### what holds of a result -/
/-- a mark that binds what stands behind to what it is about: simp leaves both alone -/
structure Tg {α β : Type} (a : α) (b : β) : Type where
def OptP {α : Type} (o : Option α) (P : α → Prop) (_u : Tg () P := ⟨⟩) : Prop := ∃ a, o = some a ∧ P a
theorem optP_some {α : Type} {a : α} {P : α → Prop} : OptP (some a) P ↔ P a := ⟨fun ⟨_, e, h⟩ => by cases e; exact h, fun h => ⟨a, rfl, h⟩⟩
def WE {α : Type} (f : M α) (ρ : Env) (Q : α → Env → Prop) (_u : Tg f Q := ⟨⟩) : Prop := ∃ a ρ', f ρ = some (.ok (a, ρ')) ∧ Q a ρ'
def WF (φ : Fn) (os : List O) (Q : O → List O → Prop) (_u : Tg φ Q := ⟨⟩) : Prop := ∃ o outs, φ os = some (.ok (o, outs)) ∧ Q o outs
def WS (s : SM) (ρ : Env) (N : Env → Prop) (T : R → Env → Prop) (_u : Tg s (N, T) := ⟨⟩) : Prop := (∃ ρ', s ρ = some (.nx ρ') ∧ N ρ') ∨ ∃ r ρ', s ρ = some (.rt r ρ') ∧ T r ρ'
theorem WE.mono {α : Type} {f : M α} {ρ : Env} {Q Q' : α → Env → Prop} (h : WE f ρ Q) (q : ∀ a ρ', Q a ρ' → Q' a ρ') : WE f ρ Q' := let ⟨a, r, e, z⟩ := h; ⟨a, r, e, q _ _ z⟩
theorem WF.mono {φ : Fn} {os : List O} {Q Q' : O → List O → Prop} (h : WF φ os Q) (q : ∀ a r, Q a r → Q' a r) : WF φ os Q' := let ⟨a, r, e, z⟩ := h; ⟨a, r, e, q _ _ z⟩
theorem WS.mono {s : SM} {ρ : Env} {N N' : Env → Prop} {T T' : R → Env → Prop} (h : WS s ρ N T) (n : ∀ ρ', N ρ' → N' ρ') (t : ∀ r ρ', T r ρ' → T' r ρ') : WS s ρ N' T' := by
  rcases h with ⟨r, e, z⟩ | ⟨a, r, e, z⟩
  · exact .inl ⟨r, e, n _ z⟩
  · exact .inr ⟨a, r, e, t _ _ z⟩
theorem ex2 {α β : Type} {x : α} {y : β} {Q : α → β → Prop} : (∃ a r, (x = a ∧ y = r) ∧ Q a r) ↔ Q x y := ⟨fun ⟨_, _, ⟨a, b⟩, q⟩ => by subst a; subst b; exact q, fun q => ⟨_, _, ⟨rfl, rfl⟩, q⟩⟩
section
variable {α β : Type} {ρ : Env} {QR : R → Env → Prop} {QL : List R → Env → Prop} {QD : D → Env → Prop} {QB : Bool → Env → Prop} {N : Env → Prop} {T : R → Env → Prop}
theorem we_bind {f : M α} {g : α → M β} {Q : β → Env → Prop} : WE (mbind f g) ρ Q ↔ WE f ρ fun a ρ1 => WE (g a) ρ1 Q := by
  constructor
  · rintro ⟨b, r, e, q⟩
    rcases mbind_inv e with ⟨a, ρ1, e1, e2⟩ | ⟨er, _, z⟩
    · exact ⟨a, ρ1, e1, b, r, e2, q⟩
    · cases z
  · rintro ⟨a, ρ1, e1, b, r, e2, q⟩
    exact ⟨b, r, by rw [mbind_ok e1]; exact e2, q⟩
theorem we_pure {a : α} {Q : α → Env → Prop} : WE (mpure a) ρ Q ↔ Q a ρ := ⟨fun ⟨_, _, e, q⟩ => by cases e; exact q, fun q => ⟨a, ρ, rfl, q⟩⟩
theorem we_var {i : Nat} : WE (eVar i) ρ QR ↔ OptP (ρ[i]?).join fun o => QR (match o with | .sh d => .v (.sh d) | _ => .pl i) ρ := by
  unfold WE OptP eVar
  cases h : ρ[i]? with
  | none => simp
  | some x => cases x with
    | none => simp
    | some o => cases o <;> simp [ex2]
theorem we_c {d : D} : WE (eC d) ρ QR ↔ QR (.v (.sh d)) ρ := we_pure
theorem we_nil : WE aNil ρ QL ↔ QL [] ρ := we_pure
theorem we_if0 {c : Prop} [Decidable c] {x : α} {Q : α → Env → Prop} : WE (fun ρ => if c then some (.ok (x, ρ)) else none) ρ Q ↔ c ∧ Q x ρ := by
  by_cases h : c <;> simp [WE, h, ex2]
theorem we_cons {f : M R} {g : M (List R)} : WE (aCons f g) ρ QL ↔ WE f ρ fun r ρ1 => WE g ρ1 fun rs ρ2 => still r ρ2 = true ∧ QL (r :: rs) ρ2 := by
  unfold aCons
  rw [we_bind]
  refine ⟨fun h => h.mono fun r ρ1 h => ?_, fun h => h.mono fun r ρ1 h => ?_⟩
  · rw [we_bind] at h
    refine h.mono fun rs ρ2 h => ?_
    obtain ⟨a, r', e, q⟩ := h
    simp only at e
    split at e
    · rename_i c; cases e; exact ⟨c, q⟩
    · cases e
  · rw [we_bind]
    refine h.mono fun rs ρ2 h => ⟨_, _, ?_, h.2⟩
    simp only [h.1, if_true]
theorem we_op {op : List O → Option O} {f : M (List R)} : WE (eOp op f) ρ QR ↔ WE f ρ fun rs ρ1 => OptP (ders rs ρ1) fun os => OptP (op os) fun o => QR (.v o) ρ1 := by
  unfold eOp
  rw [we_bind]
  refine ⟨fun h => h.mono fun r ρ1 h => ?_, fun h => h.mono fun r ρ1 h => ?_⟩
  · obtain ⟨a, r', e, q⟩ := h
    simp only at e
    split at e
    · rename_i os e1
      split at e
      · rename_i o e2; cases e; exact ⟨os, e1, o, e2, q⟩
      · cases e
    · cases e
  · obtain ⟨os, e1, o, e2, q⟩ := h
    exact ⟨_, _, by simp only [e1, e2], q⟩
theorem we_e1 {op : List O → Option O} {f : M R} : WE (e1 op f) ρ QR ↔ WE f ρ fun r ρ1 => still r ρ1 = true ∧ OptP (der r ρ1) fun o => OptP (op [o]) fun o => QR (.v o) ρ1 := by
  unfold e1
  rw [we_op, we_cons]
  refine ⟨fun h => h.mono fun r ρ1 h => ?_, fun h => h.mono fun r ρ1 h => ?_⟩
  · rw [we_nil] at h
    obtain ⟨h1, os, e1, q⟩ := h
    unfold ders at e1
    cases e : der r ρ1 with
    | none => rw [e] at e1; cases e1
    | some o => rw [e] at e1; cases e1; exact ⟨h1, o, rfl, q⟩
  · rw [we_nil]
    obtain ⟨h1, o, e1, q⟩ := h
    exact ⟨h1, [o], by unfold ders; rw [e1]; rfl, q⟩
theorem we_tB {f : M R} : WE (tBool f) ρ QB ↔ WE f ρ fun r ρ1 => ∃ b, der r ρ1 = some (.sh (.bool b)) ∧ QB b ρ1 := by
  unfold tBool
  rw [we_bind]
  refine ⟨fun h => h.mono fun r ρ1 h => ?_, fun h => h.mono fun r ρ1 h => ?_⟩
  · obtain ⟨a, r', e, q⟩ := h
    simp only at e
    split at e
    · rename_i b e1; cases e; exact ⟨_, e1, q⟩
    · cases e
  · obtain ⟨b, e1, q⟩ := h
    exact ⟨_, _, by simp only [e1], q⟩
theorem we_and {f g : M Bool} : WE (tAndM f g) ρ QB ↔ WE f ρ fun b ρ1 => if b = true then WE g ρ1 QB else QB false ρ1 := by
  unfold tAndM
  rw [we_bind]
  refine ⟨fun h => h.mono fun r ρ1 h => ?_, fun h => h.mono fun r ρ1 h => ?_⟩
  · cases r with
    | false => exact we_pure.mp h
    | true => exact h
  · cases r with
    | false => exact we_pure.mpr h
    | true => exact h
theorem we_or {f g : M Bool} : WE (tOrM f g) ρ QB ↔ WE f ρ fun b ρ1 => if b = true then QB true ρ1 else WE g ρ1 QB := by
  unfold tOrM
  rw [we_bind]
  refine ⟨fun h => h.mono fun r ρ1 h => ?_, fun h => h.mono fun r ρ1 h => ?_⟩
  · cases r with
    | true => exact we_pure.mp h
    | false => exact h
  · cases r with
    | true => exact we_pure.mpr h
    | false => exact h
theorem we_not {f : M Bool} : WE (tNotM f) ρ QB ↔ WE f ρ fun b ρ1 => QB (!b) ρ1 := by
  unfold tNotM; rw [we_bind]; exact ⟨fun h => h.mono fun r ρ1 h => we_pure.mp h, fun h => h.mono fun r ρ1 h => we_pure.mpr h⟩
theorem we_if {t : M Bool} {f g : M R} : WE (eIf t f g) ρ QR ↔ WE t ρ fun b ρ1 => if b = true then WE f ρ1 QR else WE g ρ1 QR := by
  unfold eIf
  rw [we_bind]
  refine ⟨fun h => h.mono fun r ρ1 h => ?_, fun h => h.mono fun r ρ1 h => ?_⟩ <;> cases r <;> exact h
theorem we_eand {f g : M R} : WE (eAndM f g) ρ QR ↔ WE (tBool f) ρ fun b ρ1 => if b = true then WE g ρ1 QR else QR (.v (.sh (.bool false))) ρ1 := by
  unfold eAndM
  rw [we_bind]
  refine ⟨fun h => h.mono fun r ρ1 h => ?_, fun h => h.mono fun r ρ1 h => ?_⟩
  · cases r with
    | false => exact we_pure.mp h
    | true => exact h
  · cases r with
    | false => exact we_pure.mpr h
    | true => exact h
theorem we_toSh {r : R} : WE (toSh r) ρ QD ↔ OptP (der r ρ) fun o => OptP (asD o) fun d => QD d (match r with | .v _ => ρ | .pl i => ρ.set i (some (.sh d))) := by
  unfold WE OptP toSh der
  cases r with
  | v o => cases h : asD o <;> simp [h, ex2]
  | pl i =>
    cases h : ρ[i]? with
    | none => simp [h]
    | some x => cases x with
      | none => simp [h]
      | some o => cases h2 : asD o <;> simp [h, h2, ex2]
theorem we_call {φ : Fn} {ms : List (Option Nat)} {f : M (List R)} : WE (eCall φ ms f) ρ QR ↔ WE f ρ fun rs ρ1 => OptP (shArgs ms rs ρ1) fun x => OptP (osOf ms x.1 x.2) fun os => ndModes ms = true ∧ WF φ os fun o outs => QR (.v o) (putOuts ms outs x.2) := by
  unfold eCall
  rw [we_bind]
  refine ⟨fun h => h.mono fun r ρ1 h => ?_, fun h => h.mono fun r ρ1 h => ?_⟩
  · obtain ⟨a, r', e, q⟩ := h
    simp only at e
    split at e
    · cases e
    · rename_i ds ρ2 e1
      split at e
      · cases e
      · rename_i os e2
        split at e
        · rename_i c
          split at e
          · cases e
          · rename_i o outs e3; cases e; exact ⟨_, e1, _, e2, c, _, _, e3, q⟩
          · cases e
        · cases e
  · obtain ⟨⟨ds, ρ2⟩, e1, os, e2, c, o, outs, e3, q⟩ := h
    exact ⟨_, _, by simp only [e1, e2, c, e3, if_true], q⟩
/-! statements -/
theorem ws_next : WS sNext ρ N T ↔ N ρ := by unfold WS sNext; simp
theorem ws_seq {a b : SM} : WS (sSeq a b) ρ N T ↔ WS a ρ (fun ρ1 => WS b ρ1 N T) T := by
  unfold WS sSeq
  cases a ρ with
  | none => simp
  | some o => cases o <;> simp
theorem ws_E {f : M α} {g : α → Env → Option Out} : WS (sE f g) ρ N T ↔ WE f ρ fun a ρ1 => WS (g a) ρ1 N T := by
  unfold WS WE sE
  cases f ρ with
  | none => simp
  | some o => match o with
    | .ok (a, r) => exact ⟨fun h => ⟨a, r, rfl, h⟩, fun ⟨_, _, e, h⟩ => by cases e; exact h⟩
    | .error (a, r) => simp
theorem ws_if {t : M Bool} {f g : SM} : WS (sIf t f g) ρ N T ↔ WE t ρ fun b ρ1 => if b = true then WS f ρ1 N T else WS g ρ1 N T := by
  unfold sIf
  rw [ws_E]
  refine ⟨fun h => h.mono fun r ρ1 h => ?_, fun h => h.mono fun r ρ1 h => ?_⟩ <;> cases r <;> exact h
theorem ws_set {i : Nat} {f : M R} : WS (sSet i f) ρ N T ↔ WE f ρ fun r ρ1 => OptP (putR i r ρ1) N := by
  unfold sSet
  rw [ws_E]
  refine ⟨fun h => h.mono fun r ρ1 h => ?_, fun h => h.mono fun r ρ1 h => ?_⟩
  · rcases h with ⟨a, e, q⟩ | ⟨a, b, e, q⟩
    · simp only at e
      split at e
      · rename_i c; cases e; exact ⟨_, c, q⟩
      · cases e
    · simp only at e
      split at e <;> cases e
  · obtain ⟨a, e, q⟩ := h
    exact .inl ⟨_, by simp only [e], q⟩
theorem ws_ret {f : M R} : WS (sRet f) ρ N T ↔ WE f ρ T := by
  unfold sRet
  rw [ws_E]
  refine ⟨fun h => h.mono fun r ρ1 h => ?_, fun h => h.mono fun r ρ1 h => ?_⟩
  · rcases h with ⟨a, e, q⟩ | ⟨a, b, e, q⟩
    · cases e
    · cases e; exact q
  · exact .inr ⟨_, _, rfl, h⟩
theorem ws_drop {f : M R} : WS (sDrop f) ρ N T ↔ WE f ρ fun _ ρ1 => N ρ1 := by
  unfold sDrop
  rw [ws_E]
  refine ⟨fun h => h.mono fun r ρ1 h => ?_, fun h => h.mono fun r ρ1 h => ?_⟩
  · rcases h with ⟨a, e, q⟩ | ⟨a, b, e, q⟩
    · cases e; exact q
    · cases e
  · exact .inl ⟨_, rfl, h⟩
theorem we_mutAt {op : O → List D → Option (O × D)} {i : Nat} {ds : List D} : WE (mutAt op i ds) ρ QR ↔ OptP (ρ[i]?).join fun o => isOwn o = true ∧ OptP (op o ds) fun x => QR (.v (.sh x.2)) (ρ.set i (some x.1)) := by
  unfold WE OptP mutAt
  cases h : ρ[i]? with
  | none => simp
  | some x => cases x with
    | none => simp
    | some o => cases h1 : isOwn o with
      | false => simp [h1]
      | true => cases h2 : op o ds with
        | none => simp [h1, h2]
        | some x => obtain ⟨a, b⟩ := x; simp [h1, h2, ex2]
theorem we_meth {Ty : String} {op : O → List D → Option (O × D)} {i : Nat} {f : M (List R)} : WE (eMeth Ty op i f) ρ QR ↔ slotIs Ty i ρ = true ∧ WE f ρ fun rs ρ1 => WE (shAll rs) ρ1 fun ds ρ2 => WE (mutAt op i ds) ρ2 QR := by
  have e : WE (mbind (mbind f shAll) (mutAt op i)) ρ QR ↔ WE f ρ fun rs ρ1 => WE (shAll rs) ρ1 fun ds ρ2 => WE (mutAt op i ds) ρ2 QR := by rw [we_bind, we_bind]
  rw [← e]
  unfold WE eMeth
  cases h : slotIs Ty i ρ <;> simp
theorem ws_put {i : Nat} {fk f : M R} : WS (sPut i fk f) ρ N T ↔ WE f ρ fun r ρ1 => WE (toSh r) ρ1 fun d ρ2 => (slotIs "list" i ρ2 || slotIs "dict" i ρ2) = true ∧ WE fk ρ2 fun r ρ3 => WE (toSh r) ρ3 fun k ρ4 => WE (mutAt opPut i [k, d]) ρ4 fun _ ρ5 => N ρ5 := by
  unfold sPut
  rw [ws_E, we_bind]
  refine ⟨fun h => h.mono fun r ρ1 h => h.mono fun d ρ2 h => ?_, fun h => h.mono fun r ρ1 h => h.mono fun d ρ2 h => ?_⟩
  · have key : ∀ ρ0, WS (sE (mbind fk toSh) fun k => sE (mutAt opPut i [k, d]) fun _ ρ => some (.nx ρ)) ρ0 N T ↔ WE fk ρ0 fun r ρ3 => WE (toSh r) ρ3 fun k ρ4 => WE (mutAt opPut i [k, d]) ρ4 fun _ ρ5 => N ρ5 := fun ρ0 => by
      rw [ws_E, we_bind]
      refine ⟨fun h => h.mono fun r ρ1 h => h.mono fun d ρ2 h => ?_, fun h => h.mono fun r ρ1 h => h.mono fun d ρ2 h => ?_⟩
      · rw [ws_E] at h
        refine h.mono fun r ρ1 h => ?_
        rcases h with ⟨a, e, q⟩ | ⟨a, b, e, q⟩
        · cases e; exact q
        · cases e
      · rw [ws_E]
        exact h.mono fun r ρ1 h => .inl ⟨_, rfl, h⟩
    unfold WS at h
    cases c : (slotIs "list" i ρ2 || slotIs "dict" i ρ2) with
    | false => simp [c] at h
    | true =>
      refine ⟨rfl, (key ρ2).mp ?_⟩
      simp only [c, if_true] at h
      exact h
  · have key : ∀ ρ0, WS (sE (mbind fk toSh) fun k => sE (mutAt opPut i [k, d]) fun _ ρ => some (.nx ρ)) ρ0 N T ↔ WE fk ρ0 fun r ρ3 => WE (toSh r) ρ3 fun k ρ4 => WE (mutAt opPut i [k, d]) ρ4 fun _ ρ5 => N ρ5 := fun ρ0 => by
      rw [ws_E, we_bind]
      refine ⟨fun h => h.mono fun r ρ1 h => h.mono fun d ρ2 h => ?_, fun h => h.mono fun r ρ1 h => h.mono fun d ρ2 h => ?_⟩
      · rw [ws_E] at h
        refine h.mono fun r ρ1 h => ?_
        rcases h with ⟨a, e, q⟩ | ⟨a, b, e, q⟩
        · cases e; exact q
        · cases e
      · rw [ws_E]
        exact h.mono fun r ρ1 h => .inl ⟨_, rfl, h⟩
    unfold WS
    simp only [h.1, if_true]
    exact (key ρ2).mpr h.2
theorem wf_fn {n np : Nat} {io : List Nat} {body : SM} {os : List O} {Q : O → List O → Prop} : WF (fnOf n np io body) os Q ↔ os.length = np ∧ okArgs io os = true ∧ WS body (os.map some ++ List.replicate (n - np) none) (fun ρ => OptP (outsOf io os ρ) (Q (.sh .none)))
    (fun r ρ => match r with | .v o => OptP (outsOf io os ρ) (Q o) | .pl i => i ∉ io ∧ OptP (ρ[i]?).join fun o => OptP (outsOf io os ρ) (Q o)) := by
  unfold WF fnOf
  by_cases h1 : os.length = np
  · cases h2 : okArgs io os with
    | false => simp [h2]
    | true =>
      simp only [h1, true_and, if_true]
      unfold WS OptP
      cases body (os.map some ++ List.replicate (n - np) none) with
      | none => simp
      | some o => cases o with
        | nx r => cases h3 : outsOf io os r <;> simp [h3, ex2]
        | bk r => simp
        | ct r => simp
        | ex a r => cases h3 : outsOf io os r <;> simp [h3, ex2]
        | rt a r => cases a with
          | v o => cases h3 : outsOf io os r <;> simp [h3, ex2]
          | pl i =>
            by_cases h4 : i ∈ io
            · simp [h4]
            · cases h5 : r[i]? with
              | none => simp [h4, h5]
              | some x => cases x with
                | none => simp [h4, h5]
                | some o => cases h3 : outsOf io os r <;> simp [h4, h5, h3, ex2]
  · simp [h1]
end
end Wl

/- text WpC -/
set_option Elab.async false
set_option maxRecDepth 100000
set_option maxHeartbeats 0
namespace Wl
open PySem PySem.Spec L2
open PyProof.Rows hiding St

/-! ### operators on whole numbers -/
def Big (i : Int) : Prop := i.natAbs < 2 ^ 4000
theorem big_of {i : Int} (h : 0 ≤ i) (h2 : i < 10 ^ 200) : Big i := by
  have a : i.natAbs < 10 ^ 200 := by omega
  have b : (10 : Nat) ^ 200 ≤ 2 ^ 4000 := by decide +kernel
  exact Nat.lt_of_lt_of_le a b
section
variable {P : O → Prop} {a b : Int} {ρ : Env} {QR : R → Env → Prop} {ds : List D}
theorem oz_none {o : Option O} (h : o = none) : OptP o P ↔ False := by subst h; simp [OptP]
theorem oz_add : OptP (oAdd [.sh (.int a), .sh (.int b)]) P ↔ P (.sh (.int (a + b))) := optP_some
theorem oz_sub : OptP (oSc dSub [.sh (.int a), .sh (.int b)]) P ↔ P (.sh (.int (a - b))) := optP_some
theorem oz_abs : OptP (oSc dAbs [.sh (.int a)]) P ↔ P (.sh (.int (if a < 0 then -a else a))) := optP_some
theorem oz_max2 : OptP (oSc dMax2 [.sh (.int a), .sh (.int b)]) P ↔ P (.sh (.int (if b > a then b else a))) := optP_some
theorem oz_min2 : OptP (oSc dMin2 [.sh (.int a), .sh (.int b)]) P ↔ P (.sh (.int (if b < a then b else a))) := optP_some
theorem oz_I2 {C : Int → Int → Bool} {g : Int → Int → D} : OptP (oSc (dI2 C g) [.sh (.int a), .sh (.int b)]) P ↔ C a b = true ∧ P (.sh (g a b)) := by
  unfold oSc dI2
  show OptP (match (if C a b = true then some (g a b) else none) with | some d => some (O.sh d) | none => none) P ↔ _
  by_cases h : C a b = true
  · rw [if_pos h]; exact ⟨fun q => ⟨h, optP_some.mp q⟩, fun q => optP_some.mpr q.2⟩
  · rw [if_neg h]; exact ⟨fun ⟨_, e, _⟩ => (nomatch e), fun q => absurd q.1 h⟩
theorem oz_mul : OptP (oSc dMul [.sh (.int a), .sh (.int b)]) P ↔ (Big a ∧ Big b) ∧ P (.sh (.int (a * b))) := by
  rw [oz_I2, Bool.and_eq_true, decide_eq_true_iff, decide_eq_true_iff]; rfl
theorem oz_mod : OptP (oSc dMod [.sh (.int a), .sh (.int b)]) P ↔ 0 < b ∧ P (.sh (.int (a % b))) := by
  rw [oz_I2, decide_eq_true_iff]
theorem oz_div : OptP (oSc dDiv [.sh (.int a), .sh (.int b)]) P ↔ (0 < b ∧ b < 1073741824) ∧ P (.sh (.int (a / b))) := by
  rw [oz_I2, Bool.and_eq_true, decide_eq_true_iff, decide_eq_true_iff]
theorem oz_pow : OptP (oSc dPow [.sh (.int a), .sh (.int b)]) P ↔ ((0 ≤ b ∧ b ≤ 64) ∧ Big a) ∧ P (.sh (.int (a ^ b.toNat))) := by
  rw [oz_I2, Bool.and_eq_true, Bool.and_eq_true, decide_eq_true_iff, decide_eq_true_iff, decide_eq_true_iff]; rfl
theorem ordI {c : D → D → Bool} : OptP (oSc (dOrd c) [.sh (.int a), .sh (.int b)]) P ↔ P (.sh (.bool (c (.int a) (.int b)))) := by
  have h : ordOk (.int a) (.int b) = true := rfl
  have e : oSc (dOrd c) [.sh (.int a), .sh (.int b)] = some (.sh (.bool (c (.int a) (.int b)))) := by
    show (match (if ordOk (.int a) (.int b) = true then some (PyData.bool (c (.int a) (.int b))) else none) with | some d => some (O.sh d) | none => none) = _
    rw [if_pos h]
  rw [e, optP_some]
theorem cLtI : cLt (.int a) (.int b) = decide (a < b) := PySem.W.dataLt_int a b
theorem cGtI : cGt (.int a) (.int b) = decide (b < a) := PySem.W.dataLt_int b a
theorem cLeI : cLe (.int a) (.int b) = decide (a ≤ b) := by
  show (!PySem.W.dataLt (.int b) (.int a)) = _
  rw [PySem.W.dataLt_int, ← decide_not]; exact decide_eq_decide.mpr Int.not_lt
theorem cGeI : cGe (.int a) (.int b) = decide (b ≤ a) := by
  show (!PySem.W.dataLt (.int a) (.int b)) = _
  rw [PySem.W.dataLt_int, ← decide_not]; exact decide_eq_decide.mpr Int.not_lt
theorem oz_eqI : OptP (oSc dEq [.sh (.int a), .sh (.int b)]) P ↔ P (.sh (.bool (decide (a = b)))) := optP_some
theorem oz_neI : OptP (oSc dNe [.sh (.int a), .sh (.int b)]) P ↔ P (.sh (.bool (!decide (a = b)))) := optP_some
theorem oz_ixL {i : Int} : OptP (oIxA [.ol ds, .sh (.int i)]) P ↔ OptP (atI ds i) fun d => P (.sh d) := by
  unfold oIxA orO oIx
  show OptP (match (atI ds i).map O.sh with | some o => some o | none => oDGet [.ol ds, .sh (.int i)]) P ↔ _
  cases atI ds i with
  | none => exact ⟨fun ⟨_, e, _⟩ => (nomatch (show (none : Option O) = some _ from e)), fun ⟨_, e, _⟩ => nomatch e⟩
  | some d => exact ⟨fun ⟨_, e, q⟩ => by cases e; exact ⟨_, rfl, q⟩, fun ⟨_, e, q⟩ => by cases e; exact ⟨_, rfl, q⟩⟩
theorem oz_ixSL {i : Int} : OptP (oIxA [.sh (.list ds), .sh (.int i)]) P ↔ OptP (atI ds i) fun d => P (.sh d) := by
  unfold oIxA orO oIx
  show OptP (match (atI ds i).map O.sh with | some o => some o | none => oDGet [.sh (.list ds), .sh (.int i)]) P ↔ _
  cases atI ds i with
  | none => exact ⟨fun ⟨_, e, _⟩ => (nomatch (show (none : Option O) = some _ from e)), fun ⟨_, e, _⟩ => nomatch e⟩
  | some d => exact ⟨fun ⟨_, e, q⟩ => by cases e; exact ⟨_, rfl, q⟩, fun ⟨_, e, q⟩ => by cases e; exact ⟨_, rfl, q⟩⟩
theorem oz_ixT {i : Int} : OptP (oIxA [.sh (.tuple ds), .sh (.int i)]) P ↔ OptP (atI ds i) fun d => P (.sh d) := by
  unfold oIxA orO oIx
  show OptP (match (atI ds i).map O.sh with | some o => some o | none => oDGet [.sh (.tuple ds), .sh (.int i)]) P ↔ _
  cases atI ds i with
  | none => exact ⟨fun ⟨_, e, _⟩ => (nomatch (show (none : Option O) = some _ from e)), fun ⟨_, e, _⟩ => nomatch e⟩
  | some d => exact ⟨fun ⟨_, e, q⟩ => by cases e; exact ⟨_, rfl, q⟩, fun ⟨_, e, q⟩ => by cases e; exact ⟨_, rfl, q⟩⟩
theorem atZ_nat {α : Type} {xs : List α} (k : Nat) : atI xs (k : Int) = xs[k]? := by
  unfold atI ixN
  rw [if_pos (Int.natCast_nonneg k)]
  by_cases h : k < xs.length
  · rw [if_pos (by omega)]; rfl
  · rw [if_neg (by omega), List.getElem?_eq_none (by omega)]; rfl
theorem atZ_0 {α : Type} {xs : List α} : atI xs 0 = xs[0]? := atZ_nat 0
theorem atZ_1 {α : Type} {xs : List α} : atI xs 1 = xs[1]? := atZ_nat 1
theorem atZ_2 {α : Type} {xs : List α} : atI xs 2 = xs[2]? := atZ_nat 2
theorem atZ_in {α : Type} {xs : List α} {i : Int} (h0 : 0 ≤ i) (h1 : i < xs.length) : ∃ x, atI xs i = some x ∧ x ∈ xs ∧ xs[i.toNat]? = some x := by
  have e := atZ_nat (xs := xs) i.toNat
  rw [Int.toNat_of_nonneg h0] at e
  have hl : i.toNat < xs.length := by omega
  exact ⟨xs[i.toNat], by rw [e, List.getElem?_eq_getElem hl], List.getElem_mem hl, List.getElem?_eq_getElem hl⟩
theorem oz_lenL : OptP (oLen [.sh (.list ds)]) P ↔ P (.sh (.int ds.length)) := optP_some
theorem oz_lenO : OptP (oLen [.ol ds]) P ↔ P (.sh (.int ds.length)) := optP_some
theorem oz_lenT : OptP (oLen [.sh (.tuple ds)]) P ↔ P (.sh (.int ds.length)) := optP_some
theorem we_lst {f : M (List R)} : WE (eLst f) ρ QR ↔ WE f ρ fun rs ρ1 => WE (shAll rs) ρ1 fun ds ρ2 => ds.length ≤ sizeLine ∧ QR (.v (.ol ds)) ρ2 := by
  unfold eLst
  rw [we_bind, we_bind]
  refine ⟨fun h => h.mono fun r ρ1 h => h.mono fun d ρ2 h => ?_, fun h => h.mono fun r ρ1 h => h.mono fun d ρ2 h => ?_⟩
  · obtain ⟨a, r', e, q⟩ := h
    simp only at e
    split at e
    · rename_i c; cases e; exact ⟨c, q⟩
    · cases e
  · exact ⟨_, _, by simp only [h.1, if_true], h.2⟩
theorem we_tup {f : M (List R)} : WE (eTup f) ρ QR ↔ WE f ρ fun rs ρ1 => WE (shAll rs) ρ1 fun ds ρ2 => ds.length ≤ sizeLine ∧ QR (.v (.sh (.tuple ds))) ρ2 := by
  unfold eTup
  rw [we_bind, we_bind]
  refine ⟨fun h => h.mono fun r ρ1 h => h.mono fun d ρ2 h => ?_, fun h => h.mono fun r ρ1 h => h.mono fun d ρ2 h => ?_⟩
  · obtain ⟨a, r', e, q⟩ := h
    simp only at e
    split at e
    · rename_i c; cases e; exact ⟨c, q⟩
    · cases e
  · exact ⟨_, _, by simp only [h.1, if_true], h.2⟩
theorem sz_le {n : Nat} (h : n ≤ 16777216) : n ≤ sizeLine := h
end
end Wl

/- text WpD -/
set_option Elab.async false
set_option maxRecDepth 100000
set_option maxHeartbeats 0
namespace Wl
open PySem PySem.Spec L2
open PyProof.Rows hiding St

/-! ### comprehensions, sources -/
def rngOf (d : D) : Option (List D) := match d with
  | .int j => if -(2 ^ 62) ≤ j ∧ j < 2 ^ 62 then some ((List.range j.toNat).map fun (i : Nat) => .int (i : Int)) else none
  | _ => none
def anyOf (d : D) : Option (List D) := match d with
  | .list ds => some ds
  | .dict kvs => some (kvs.map (·.1))
  | .tuple ds => some ds
  | .str z => some (signs z)
  | _ => none
section
variable {P : O → Prop} {ρ : Env} {QR : R → Env → Prop} {QS : List D → Env → Prop} {N : Env → Prop} {T : R → Env → Prop}
theorem we_lc {n : Nat} {vs : List Nat} {src : M (List D)} {tgt : D → Env → Option Env} {tst : M Bool} {elt : M R} : WE (eLc n vs src tgt tst elt) ρ QR ↔ WE src ρ fun ds ρ1 => ρ1.length = n ∧ OptP (lcLoop vs tgt tst elt ds (wipeE ρ1 vs) []) fun x => x.2.length = n ∧ QR (.v (.ol x.1)) (unwipe ρ1 x.2 vs) := by
  unfold WE OptP eLc
  cases h : src ρ with
  | none => simp
  | some o => match o with
    | .error e => simp
    | .ok (ds, ρ1) =>
      by_cases h1 : ρ1.length = n
      · cases h2 : lcLoop vs tgt tst elt ds (wipeE ρ1 vs) [] with
        | none => simp [h1, h2]
        | some x =>
          obtain ⟨r, ρ2⟩ := x
          by_cases h3 : ρ2.length = n
          · simp [h1, h2, h3, ex2]
          · simp [h1, h2, h3]
      · simp [h1]
theorem we_srcR {f : M R} : WE (srcR f) ρ QS ↔ WE f ρ fun r ρ1 => WE (toSh r) ρ1 fun d ρ2 => OptP (rngOf d) fun ds => QS ds ρ2 := by
  unfold srcR
  rw [we_bind, we_bind]
  have key : ∀ d ρ, WE (match d with | PyData.int j => fun ρ => if -(2 ^ 62) ≤ j ∧ j < 2 ^ 62 then some (.ok ((List.range j.toNat).map fun (i : Nat) => .int (i : Int), ρ)) else none | _ => fun _ => none) ρ QS ↔ OptP (rngOf d) fun ds => QS ds ρ := fun d ρ => by
    unfold WE OptP rngOf
    cases d <;> simp
    rename_i j
    by_cases h : -4611686018427387904 ≤ j ∧ j < 4611686018427387904
    · simp [h, ex2]
    · simp [h]
  refine ⟨fun h => h.mono fun r ρ1 h => h.mono fun d ρ2 h => (key d ρ2).mp ?_, fun h => h.mono fun r ρ1 h => h.mono fun d ρ2 h => ?_⟩
  · cases d <;> exact h
  · have := (key d ρ2).mpr h
    cases d <;> exact this
theorem we_srcAny {f : M R} : WE (srcAny f) ρ QS ↔ WE f ρ fun r ρ1 => WE (toSh r) ρ1 fun d ρ2 => OptP (anyOf d) fun ds => QS ds ρ2 := by
  have h : WE (srcAny f) ρ QS ↔ WE (mbind f toSh) ρ fun d ρ2 => OptP (anyOf d) fun ds => QS ds ρ2 := by
    unfold WE OptP srcAny orM srcL srcK srcT srcS
    simp only [mbind]
    cases h : f ρ with
    | none => simp
    | some o => match o with
      | .error e => simp
      | .ok (r, ρ1) =>
        cases h2 : toSh r ρ1 with
        | none => simp [h2]
        | some o2 => match o2 with
          | .error e => simp [h2]
          | .ok (d, ρ2) => cases d <;> simp [h2, anyOf, ex2]
  rw [h, we_bind]
theorem we_srcE {f : M R} : WE (srcE f) ρ QS ↔ WE f ρ fun r ρ1 => WE (toSh r) ρ1 fun d ρ2 => OptP (match d with | .list ds => some (enumD ds) | _ => none) fun ds => QS ds ρ2 := by
  have h : WE (srcE f) ρ QS ↔ WE (mbind f toSh) ρ fun d ρ2 => OptP (match d with | .list ds => some (enumD ds) | _ => none) fun ds => QS ds ρ2 := by
    unfold WE OptP srcE
    simp only [mbind]
    cases h : f ρ with
    | none => simp
    | some o => match o with
      | .error e => simp
      | .ok (r, ρ1) =>
        cases h2 : toSh r ρ1 with
        | none => simp [h2]
        | some o2 => match o2 with
          | .error e => simp [h2]
          | .ok (d, ρ2) => cases d <;> simp [h2, ex2]
  rw [h, we_bind]
theorem we_srcIt {f : M R} : WE (srcIt f) ρ QS ↔ WE f ρ fun r ρ1 => WE (toSh r) ρ1 fun d ρ2 => OptP (match d with | .dict kvs => some (kvs.map fun p => .tuple [p.1, p.2]) | _ => none) fun ds => QS ds ρ2 := by
  have h : WE (srcIt f) ρ QS ↔ WE (mbind f toSh) ρ fun d ρ2 => OptP (match d with | .dict kvs => some (kvs.map fun p => .tuple [p.1, p.2]) | _ => none) fun ds => QS ds ρ2 := by
    unfold WE OptP srcIt
    simp only [mbind]
    cases h : f ρ with
    | none => simp
    | some o => match o with
      | .error e => simp
      | .ok (r, ρ1) =>
        cases h2 : toSh r ρ1 with
        | none => simp [h2]
        | some o2 => match o2 with
          | .error e => simp [h2]
          | .ok (d, ρ2) => cases d <;> simp [h2, ex2]
  rw [h, we_bind]
theorem ws_for {src : M (List D)} {g : D → Env → Option Env} {body : SM} : WS (sFor src g body) ρ N T ↔ WE src ρ fun ds ρ1 => WS (loop g body ds) ρ1 N T := by
  unfold sFor; exact ws_E
theorem ws_loop {α : Type} {g : D → Env → Option Env} {body : SM} (F : α → D) (I : List α → Env → Prop) {xs : List α} {ρ : Env} (h0 : I [] ρ)
    (st : ∀ pre x post ρ, pre ++ x :: post = xs → I pre ρ → OptP (g (F x) ρ) fun ρ1 => WS body ρ1 (fun ρ2 => I (pre ++ [x]) ρ2) fun _ _ => False) (hN : ∀ ρ', I xs ρ' → N ρ') : WS (loop g body (xs.map F)) ρ N T := by
  obtain ⟨ρ', e, q⟩ := loop_inv (g := g) (body := body) F I (xs := xs) (fun pre x post ρ m h => by
    obtain ⟨ρ1, e1, z⟩ := st pre x post ρ m h
    rcases z with ⟨ρ2, e2, q⟩ | ⟨_, _, _, q⟩
    · exact ⟨ρ1, ρ2, e1, .inl e2, q⟩
    · exact q.elim) xs [] ρ rfl h0
  exact .inl ⟨ρ', e, hN ρ' q⟩
theorem lc_wp {α : Type} {vs : List Nat} {tgt : D → Env → Option Env} {tst : M Bool} {elt : M R} (F : α → D) (I : List α → List D → Env → Prop) {xs : List α} {ρ : Env} {Q : List D × Env → Prop} (h0 : I [] [] ρ)
    (st : ∀ pre x post acc ρ, pre ++ x :: post = xs → I pre acc ρ → OptP (tgt (F x) ρ) fun ρ1 => ρ1.length = ρ.length ∧ WE tst ρ1 fun b ρ2 => if b = true then WE elt ρ2 fun r ρ3 => WE (toSh r) ρ3 fun y ρ4 => acc.length < sizeLine ∧ I (pre ++ [x]) (acc ++ [y]) (wipeE ρ4 vs) else I (pre ++ [x]) acc (wipeE ρ2 vs))
    (hQ : ∀ acc ρ', I xs acc ρ' → Q (acc, ρ')) : OptP (lcLoop vs tgt tst elt (xs.map F) ρ []) Q := by
  obtain ⟨acc, ρ', e, q⟩ := lc_inv (vs := vs) (tgt := tgt) (tst := tst) (elt := elt) F I (xs := xs) (fun pre x post acc ρ m h => by
    obtain ⟨ρ1, e1, hl, b, ρ2, e2, z⟩ := st pre x post acc ρ m h
    refine ⟨ρ1, e1, hl, ?_⟩
    cases b with
    | false => exact .inl ⟨ρ2, e2, z⟩
    | true =>
      have z' : WE (mbind elt toSh) ρ2 fun y ρ4 => acc.length < sizeLine ∧ I (pre ++ [x]) (acc ++ [y]) (wipeE ρ4 vs) := we_bind.mpr z
      obtain ⟨y, ρ4, e3, h1, h2⟩ := z'
      exact .inr ⟨ρ2, y, ρ4, e2, e3, h1, h2⟩) xs [] [] ρ rfl h0
  exact ⟨_, e, hQ _ _ q⟩
end
end Wl

/- text WpE -/
set_option Elab.async false
set_option maxRecDepth 100000
set_option maxHeartbeats 0
namespace Wl
open PySem PySem.Spec L2
open PyProof.Rows hiding St

/-! ### slices, zip, all -/
section
variable {P : O → Prop} {ρ : Env} {QR : R → Env → Prop} {QS : List D → Env → Prop} {QO : Option Int → Env → Prop}
theorem we_pNone : WE pNone ρ QO ↔ QO none ρ := we_pure
theorem we_pSome {f : M R} : WE (pSome f) ρ QO ↔ WE f ρ fun r ρ1 => OptP (match der r ρ1 with | some (.sh (.int i)) => some i | _ => none) fun i => QO (some i) ρ1 := by
  unfold pSome
  rw [we_bind]
  refine ⟨fun h => h.mono fun r ρ1 h => ?_, fun h => h.mono fun r ρ1 h => ?_⟩
  · obtain ⟨a, r', e, q⟩ := h
    simp only at e
    split at e
    · rename_i i e1; cases e; exact ⟨i, by first | rw [e1] | rfl, q⟩
    · cases e
  · obtain ⟨i, e, q⟩ := h
    split at e
    · rename_i j e1; cases e; exact ⟨_, _, by simp only [e1], q⟩
    · cases e
theorem we_sl {op : O → Option Int → Option Int → Option O} {f : M R} {lo hi : M (Option Int)} : WE (eSl op f lo hi) ρ QR ↔ WE f ρ fun r ρ1 => WE lo ρ1 fun l ρ2 => WE hi ρ2 fun u ρ3 => OptP (der r ρ3) fun o => OptP (op o l u) fun o' => QR (.v o') ρ3 := by
  unfold eSl
  rw [we_bind]
  refine ⟨fun h => h.mono fun r ρ1 h => ?_, fun h => h.mono fun r ρ1 h => ?_⟩
  · rw [we_bind] at h
    refine h.mono fun l ρ2 h => ?_
    rw [we_bind] at h
    refine h.mono fun u ρ3 h => ?_
    obtain ⟨a, r', e, q⟩ := h
    simp only at e
    split at e
    · rename_i o e1
      split at e
      · rename_i o' e2; cases e; exact ⟨o, e1, o', e2, q⟩
      · cases e
    · cases e
  · rw [we_bind]
    refine h.mono fun l ρ2 h => ?_
    rw [we_bind]
    refine h.mono fun u ρ3 h => ?_
    obtain ⟨o, e1, o', e2, q⟩ := h
    exact ⟨_, _, by simp only [e1, e2], q⟩
theorem we_srcZ {f : M (List R)} : WE (srcZ f) ρ QS ↔ WE f ρ fun rs ρ1 => WE (shAll rs) ρ1 fun l ρ2 => OptP (match l with | [.list ds, .list es] => some (zipD ds es) | _ => none) fun ds => QS ds ρ2 := by
  unfold srcZ
  rw [we_bind, we_bind]
  refine ⟨fun h => h.mono fun r ρ1 h => h.mono fun l ρ2 h => ?_, fun h => h.mono fun r ρ1 h => h.mono fun l ρ2 h => ?_⟩
  · obtain ⟨a, r', e, q⟩ := h
    simp only at e
    split at e
    · cases e; exact ⟨_, rfl, q⟩
    · cases e
  · obtain ⟨ds, e, q⟩ := h
    split at e
    · cases e; exact ⟨_, _, rfl, q⟩
    · cases e
theorem boolsOf_map : ∀ bs : List Bool, boolsOf (bs.map .bool) = some bs
  | [] => rfl
  | b :: bs => by show (match boolsOf (bs.map .bool) with | some bs => some (b :: bs) | none => none) = _; rw [boolsOf_map bs]
theorem oz_all {bs : List Bool} : OptP (oSc (dAll true) [.ol (bs.map .bool)]) P ↔ P (.sh (.bool (bs.all id))) := by
  have e : oSc (dAll true) [.ol (bs.map .bool)] = some (.sh (.bool (bs.all id))) := by
    show (match (match boolsOf (bs.map .bool) with | some bs => some (PyData.bool (if true then bs.all id else bs.any id)) | none => none) with | some d => some (O.sh d) | none => none) = _
    rw [boolsOf_map]; rfl
  rw [e, optP_some]
end
end Wl

/- text WpF -/
set_option Elab.async false
set_option maxRecDepth 100000
set_option maxHeartbeats 0
namespace Wl
open PySem PySem.Spec L2
open PyProof.Rows hiding St

/-! ### owned trees, dict comprehensions, other statements -/
def asSh : O → Option D
  | .sh d => some d
  | _ => none
def obOf : Option (Option O) → Option (Nat × D)
  | some (some (.ob τ d)) => some (τ, d)
  | _ => none
section
variable {P : O → Prop} {ρ : Env} {QR : R → Env → Prop} {QB : Bool → Env → Prop} {QL : List R → Env → Prop} {QS : List D → Env → Prop} {N : Env → Prop} {T : R → Env → Prop}
theorem we_bor {i : Nat} {f : M R} : WE (eBor i f) ρ QR ↔ OptP (obOf ρ[i]?) fun x => lentOk i ρ = true ∧ WE f (ρ.set i (some (.sh x.2))) fun r ρ1 => ∃ o, r = .v o ∧ thinO o = true ∧ ρ1 = ρ.set i (some (.sh x.2)) ∧ QR (.v o) ρ := by
  unfold WE OptP eBor
  constructor
  · rintro ⟨a, ρ', e, q⟩
    split at e
    · rename_i τ d e1
      split at e
      · rename_i c
        split at e
        · rename_i o ρ1 e2
          split at e
          · rename_i c2
            cases e
            exact ⟨(τ, d), by first | rfl | (rw [e1]; rfl), c, _, _, e2, o, rfl, c2.1, c2.2, q⟩
          · cases e
        · cases e
      · cases e
    · cases e
  · rintro ⟨⟨τ, d⟩, e, c, a, ρ1, e2, o, rfl, c1, c2, q⟩
    unfold obOf at e
    split at e
    · rename_i e1
      cases e
      refine ⟨.v o, ρ, ?_, q⟩
      try rw [e1]
      simp only [c, if_true, e2]
      rw [if_pos ⟨c1, c2⟩]
    · cases e
theorem we_tbor {i : Nat} {f : M Bool} : WE (tBor i f) ρ QB ↔ OptP (obOf ρ[i]?) fun x => lentOk i ρ = true ∧ WE f (ρ.set i (some (.sh x.2))) fun b ρ1 => ρ1 = ρ.set i (some (.sh x.2)) ∧ QB b ρ := by
  unfold WE OptP tBor
  constructor
  · rintro ⟨a, ρ', e, q⟩
    split at e
    · rename_i τ d e1
      split at e
      · rename_i c
        split at e
        · rename_i o ρ1 e2
          split at e
          · rename_i c2
            cases e
            exact ⟨(τ, d), by first | rfl | (rw [e1]; rfl), c, _, _, e2, c2, q⟩
          · cases e
        · cases e
      · cases e
    · cases e
  · rintro ⟨⟨τ, d⟩, e, c, a, ρ1, e2, c2, q⟩
    unfold obOf at e
    split at e
    · rename_i e1
      cases e
      refine ⟨a, ρ, ?_, q⟩
      try rw [e1]
      simp only [c, if_true, e2]
      rw [if_pos c2]
    · cases e
theorem we_e2 {op : List O → Option O} {f g : M R} : WE (e2 op f g) ρ QR ↔ WE (eOp op (aCons f (aCons g aNil))) ρ QR := Iff.rfl
theorem we_tTrue : WE tTrue ρ QB ↔ QB true ρ := we_pure
theorem we_sh0 {QD : List D → Env → Prop} : WE (shAll []) ρ QD ↔ QD [] ρ := we_pure
theorem we_sh1 {QD : List D → Env → Prop} {r : R} {rs : List R} : WE (shAll (r :: rs)) ρ QD ↔ WE (toSh r) ρ fun d ρ1 => WE (shAll rs) ρ1 fun ds ρ2 => QD (d :: ds) ρ2 := by
  rw [show shAll (r :: rs) = mbind (toSh r) fun d => mbind (shAll rs) fun ds => mpure (d :: ds) from rfl, we_bind]
  refine ⟨fun h => h.mono fun r ρ1 h => ?_, fun h => h.mono fun r ρ1 h => ?_⟩
  · rw [we_bind] at h; exact h.mono fun ds ρ2 h => we_pure.mp h
  · rw [we_bind]; exact h.mono fun ds ρ2 h => we_pure.mpr h
theorem we_q {g : Env → Option D} : WE (eQ g) ρ QR ↔ OptP (g ρ) fun d => QR (.v (.sh d)) ρ := by
  unfold WE OptP eQ
  cases h : g ρ with
  | none => simp
  | some d => simp [ex2]
theorem ws_pm {S : Nat → Shp} {Ty : String} {op : O → List D → Option (O × D)} {i : Nat} {π : Env → Option (List D)} {f : M (List R)} : WS (sPM S Ty op i π f) ρ N T ↔ OptP (obOf ρ[i]?) fun x => OptP (π ρ) fun ks => OptP (tget (S x.1) x.2 ks) fun lf => ofTy Ty lf = true ∧ WE (mbind f shAll) (ρ.set i none) fun ds ρ1 => ρ1[i]? = some none ∧ OptP (mutT S op x.1 x.2 ks ds) fun y => N (ρ1.set i (some (.ob x.1 y.1))) := by
  unfold WS OptP sPM
  constructor
  · intro h
    have h' : ∃ ρ', (sPM S Ty op i π f) ρ = some (.nx ρ') ∧ N ρ' := by
      rcases h with ⟨r, e, z⟩ | ⟨a, r, e, z⟩
      · exact ⟨r, e, z⟩
      · exfalso
        split at e <;> try cases e
        split at e <;> try cases e
        split at e <;> try cases e
        split at e <;> try cases e
        split at e <;> try cases e
        split at e <;> cases e
    obtain ⟨ρ', e, q⟩ := h'
    unfold sPM at e
    split at e
    · rename_i τ d e1
      split at e
      · rename_i ks e2
        split at e
        · rename_i lf e3
          split at e
          · rename_i c
            split at e
            · rename_i ds ρ1 e4
              split at e
              · rename_i d' r' e5 e6
                cases e
                exact ⟨(τ, d), by first | rfl | (rw [e1]; rfl), ks, e2, lf, e3, c, ds, ρ1, e4, e5, _, e6, q⟩
              · cases e
            · cases e
          · cases e
        · cases e
      · cases e
    · cases e
  · rintro ⟨⟨τ, d⟩, e, ks, e2, lf, e3, c, ds, ρ1, e4, e5, ⟨d', r'⟩, e6, q⟩
    unfold obOf at e
    split at e
    · rename_i e1
      cases e
      refine .inl ⟨_, ?_, q⟩
      try rw [e1]
      simp only [e2, e3, c, if_true, e4, e5, e6]
    · cases e
theorem ws_pp {S : Nat → Shp} {i : Nat} {π : Env → Option (List D)} {fk f : M R} : WS (sPP S i π fk f) ρ N T ↔ WE (mbind f toSh) ρ fun v ρ => OptP (obOf ρ[i]?) fun x => OptP (π ρ) fun ks => (tget (S x.1) x.2 ks).isSome = true ∧ WE (mbind fk toSh) (ρ.set i none) fun k ρ1 => ρ1[i]? = some none ∧ OptP (mutT S opPut x.1 x.2 ks [k, v]) fun y => N (ρ1.set i (some (.ob x.1 y.1))) := by
  unfold sPP
  rw [ws_E]
  have key : ∀ v ρ, WS (fun ρ : Env => match ρ[i]? with
      | some (some (.ob τ d)) => match π ρ with
        | some ks => match tget (S τ) d ks with
          | some _ => match mbind fk toSh (ρ.set i none) with
            | some (.ok (k, ρ1)) => match ρ1[i]?, mutT S opPut τ d ks [k, v] with
              | some none, some (d', _) => some (.nx (ρ1.set i (some (.ob τ d'))))
              | _, _ => none
            | _ => none
          | none => none
        | none => none
      | _ => none) ρ N T ↔ OptP (obOf ρ[i]?) fun x => OptP (π ρ) fun ks => (tget (S x.1) x.2 ks).isSome = true ∧ WE (mbind fk toSh) (ρ.set i none) fun k ρ1 => ρ1[i]? = some none ∧ OptP (mutT S opPut x.1 x.2 ks [k, v]) fun y => N (ρ1.set i (some (.ob x.1 y.1))) := fun v ρ => by
    unfold WS OptP
    constructor
    · intro h
      rcases h with ⟨ρ', e, q⟩ | ⟨a, ρ', e, q⟩ <;> simp only at e
      · split at e
        · rename_i τ d e1
          split at e
          · rename_i ks e2
            split at e
            · rename_i lf e3
              split at e
              · rename_i k ρ1 e4
                split at e
                · rename_i d' r' e5 e6
                  cases e
                  exact ⟨(τ, d), by first | rfl | (rw [e1]; rfl), ks, e2, by first | rfl | (rw [e3]; rfl), k, ρ1, e4, e5, _, e6, q⟩
                · cases e
              · cases e
            · cases e
          · cases e
        · cases e
      · exfalso
        split at e <;> try cases e
        split at e <;> try cases e
        split at e <;> try cases e
        split at e <;> try cases e
        split at e <;> cases e
    · rintro ⟨⟨τ, d⟩, e, ks, e2, e3, k, ρ1, e4, e5, ⟨d', r'⟩, e6, q⟩
      unfold obOf at e
      split at e
      · rename_i e1
        cases e
        obtain ⟨lf, e3⟩ := Option.isSome_iff_exists.mp e3
        refine .inl ⟨_, ?_, q⟩
        simp only
        try rw [e1]
        simp only [e2, e3, e4, e5, e6]
      · cases e
  exact ⟨fun h => h.mono fun v ρ1 h => (key v ρ1).mp h, fun h => h.mono fun v ρ1 h => (key v ρ1).mpr h⟩
theorem ws_pu {S : Nat → Shp} {i : Nat} {π : Env → Option (List D)} {g : Env → Option D} : WS (sPU S i π g) ρ N T ↔ OptP (obOf ρ[i]?) fun x => OptP (π ρ) fun ks => OptP (g ρ) fun m => OptP (tget (S x.1) x.2 ks) fun lf => ofTy "dict" lf = true ∧ OptP (mutT S opUpd x.1 x.2 ks [m]) fun y => i < ρ.length ∧ N (ρ.set i (some (.ob x.1 y.1))) := by
  unfold WS OptP sPU
  constructor
  · intro h
    rcases h with ⟨ρ', e, q⟩ | ⟨a, ρ', e, q⟩
    · split at e
      · rename_i τ d e1
        split at e
        · rename_i ks m e2 e2'
          split at e
          · rename_i lf e3
            split at e
            · rename_i c
              split at e
              · rename_i d' r' e6
                split at e
                · rename_i c2
                  cases e
                  rw [List.set_set] at q
                  exact ⟨(τ, d), by first | rfl | (rw [e1]; rfl), ks, e2, m, e2', lf, e3, c, _, e6, c2, q⟩
                · cases e
              · cases e
            · cases e
          · cases e
        · cases e
      · cases e
    · exfalso
      split at e <;> try cases e
      split at e <;> try cases e
      split at e <;> try cases e
      split at e <;> try cases e
      split at e <;> try cases e
      split at e <;> cases e
  · rintro ⟨⟨τ, d⟩, e, ks, e2, m, e2', lf, e3, c, ⟨d', r'⟩, e6, c2, q⟩
    unfold obOf at e
    split at e
    · rename_i e1
      cases e
      refine .inl ⟨(ρ.set i none).set i (some (.ob τ d')), ?_, by rw [List.set_set]; exact q⟩
      try rw [e1]
      simp only [e2, e2', e3, c, if_true, e6, c2]
    · cases e
theorem we_disp {τ : Nat} {ks : List Str} {ss : List Sel} {f : M (List R)} : WE (eDisp τ ks ss f) ρ QR ↔ WE f ρ fun rs ρ1 => OptP (mkD ks ss rs) fun kvs => QR (.v (.ob τ (.dict kvs))) ρ1 := by
  unfold eDisp
  rw [we_bind]
  refine ⟨fun h => h.mono fun r ρ1 h => ?_, fun h => h.mono fun r ρ1 h => ?_⟩
  · obtain ⟨a, r', e, q⟩ := h
    simp only at e
    split at e
    · rename_i kvs e1; cases e; exact ⟨_, e1, q⟩
    · cases e
  · obtain ⟨kvs, e1, q⟩ := h
    exact ⟨_, _, by simp only [e1], q⟩
theorem we_de {τ n : Nat} {vs : List Nat} {src : M (List D)} {tgt : D → Env → Option Env} {kf : M R} : WE (eDE τ n vs src tgt kf) ρ QR ↔ WE src ρ fun ds ρ1 => ρ1.length = n ∧ OptP (deLoop vs tgt kf ds (wipeE ρ1 vs) []) fun x => (x.2.length = n ∧ (x.1.filterMap dKey).Nodup) ∧ QR (.v (.ob τ (.dict (x.1.map fun k => (k, .dict []))))) (unwipe ρ1 x.2 vs) := by
  unfold WE OptP eDE
  cases h : src ρ with
  | none => simp
  | some o => match o with
    | .error e => simp
    | .ok (ds, ρ1) =>
      by_cases h1 : ρ1.length = n
      · cases h2 : deLoop vs tgt kf ds (wipeE ρ1 vs) [] with
        | none => simp [h1, h2]
        | some x =>
          obtain ⟨r, ρ2⟩ := x
          by_cases h3 : ρ2.length = n ∧ (r.filterMap dKey).Nodup
          · simp [h1, h2, h3, ex2]
          · simp [h1, h2, h3]
            exact fun a b => absurd ⟨a, b⟩ h3
      · simp [h1]
theorem de_wp {α : Type} {vs : List Nat} {tgt : D → Env → Option Env} {kf : M R} (F : α → D) (f : α → D) {ρ : Env} {Q : List D × Env → Prop} : ∀ (xs : List α) (acc : List D), acc.length + xs.length ≤ sizeLine →
    (∀ x ∈ xs, OptP (tgt (F x) ρ) fun ρ1 => ρ1.length = ρ.length ∧ WE kf ρ1 fun r ρ2 => WE (toSh r) ρ2 fun k ρ3 => isK k = true ∧ k = f x ∧ wipeE ρ3 vs = ρ) → Q (acc ++ xs.map f, ρ) → OptP (deLoop vs tgt kf (xs.map F) ρ acc) Q
  | [], acc, _, _, q => ⟨_, rfl, by simpa using q⟩
  | x :: xs, acc, hl, h, q => by
    obtain ⟨ρ1, e1, l1, z⟩ := h x List.mem_cons_self
    have z' : WE (mbind kf toSh) ρ1 fun k ρ3 => isK k = true ∧ k = f x ∧ wipeE ρ3 vs = ρ := we_bind.mpr z
    obtain ⟨k, ρ3, e2, c1, rfl, c3⟩ := z'
    have hl' : acc.length + (xs.length + 1) ≤ sizeLine := hl
    obtain ⟨y, e3, q3⟩ := de_wp F f xs (acc ++ [f x]) (Q := Q) (by rw [List.length_append, List.length_singleton]; omega) (fun x m => h x (List.mem_cons_of_mem _ m)) (by rw [List.append_assoc]; exact q)
    refine ⟨y, ?_, q3⟩
    rw [List.map_cons, deLoop, e1]
    simp only [l1, if_true, e2, c1, show acc.length < sizeLine by omega, true_and, c3]
    exact e3
theorem we_ext {i : Nat} {f : M R} : WE (eExt i f) ρ QR ↔ slotIs "list" i ρ = true ∧ WE f ρ fun r ρ1 => ∃ ds l, r = .v (.ol ds) ∧ ρ1[i]? = some (some (.ol l)) ∧ l.length + ds.length ≤ sizeLine ∧ QR (.v (.sh .none)) (ρ1.set i (some (.ol (l ++ ds)))) := by
  unfold eExt
  cases c : slotIs "list" i ρ with
  | false =>
    refine ⟨fun ⟨a, r, e, _⟩ => ?_, fun h => by cases h.1⟩
    simp only [c] at e; cases e
  | true =>
    have e0 : ∀ g : M R, WE (fun ρ => if slotIs "list" i ρ = true then g ρ else none) ρ QR ↔ WE g ρ QR := fun g => by
      unfold WE; simp only [c, if_true]
    rw [e0, we_bind]
    refine ⟨fun h => ⟨rfl, h.mono fun r ρ1 h => ?_⟩, fun h => h.2.mono fun r ρ1 h => ?_⟩
    · obtain ⟨a, r', e, q⟩ := h
      simp only at e
      split at e
      · rename_i ds l e1
        split at e
        · rename_i c1; cases e; exact ⟨_, _, rfl, e1, c1, q⟩
        · cases e
      · cases e
    · obtain ⟨ds, l, rfl, e1, c1, q⟩ := h
      exact ⟨_, _, by simp only [e1, c1, if_true], q⟩
theorem we_newD : WE eNewD ρ QR ↔ QR (.v (.od false [])) ρ := we_pure
theorem we_eor {f g : M R} : WE (eOrM f g) ρ QR ↔ WE (tBool f) ρ fun b ρ1 => if b = true then QR (.v (.sh (.bool true))) ρ1 else WE g ρ1 QR := by
  unfold eOrM
  rw [we_bind]
  refine ⟨fun h => h.mono fun r ρ1 h => ?_, fun h => h.mono fun r ρ1 h => ?_⟩
  · cases r with
    | true => exact we_pure.mp h
    | false => exact h
  · cases r with
    | true => exact we_pure.mpr h
    | false => exact h
theorem we_enot {f : M R} : WE (eNotM f) ρ QR ↔ WE (tBool f) ρ fun b ρ1 => QR (.v (.sh (.bool (!b)))) ρ1 := by
  unfold eNotM; rw [we_bind]; exact ⟨fun h => h.mono fun r ρ1 h => we_pure.mp h, fun h => h.mono fun r ρ1 h => we_pure.mpr h⟩
theorem we_dc {n : Nat} {vs : List Nat} {src : M (List D)} {tgt : D → Env → Option Env} {tst : M Bool} {kf vf : M R} : WE (eDc n vs src tgt tst kf vf) ρ QR ↔ WE src ρ fun ds ρ1 => ρ1.length = n ∧ OptP (dcLoop vs tgt tst kf vf ds (wipeE ρ1 vs) false []) fun x => x.2.2.length = n ∧ QR (.v (.od x.1 x.2.1)) (unwipe ρ1 x.2.2 vs) := by
  unfold WE OptP eDc
  cases h : src ρ with
  | none => simp
  | some o => match o with
    | .error e => simp
    | .ok (ds, ρ1) =>
      by_cases h1 : ρ1.length = n
      · cases h2 : dcLoop vs tgt tst kf vf ds (wipeE ρ1 vs) false [] with
        | none => simp [h1, h2]
        | some x =>
          obtain ⟨nk, r, ρ2⟩ := x
          by_cases h3 : ρ2.length = n
          · simp only [h1, h2, h3, if_true]
            exact ⟨fun ⟨a, b, e, q⟩ => by cases e; exact ⟨_, _, rfl, h1, _, h2, h3, q⟩, fun ⟨a, b, e, _, y, e2, _, q⟩ => by cases e; rw [h2] at e2; cases e2; exact ⟨_, _, rfl, q⟩⟩
          · simp [h1, h2, h3]
      · simp [h1]
/-- a dict comprehension without a test, its keys apart -/
theorem dc_wp {α : Type} {vs : List Nat} {tgt : D → Env → Option Env} {tst : M Bool} {kf vf : M R} (F : α → D) (kx vx : α → D) (t : Bool) {ρ : Env} {Q : Bool × List (D × D) × Env → Prop} : ∀ (xs : List α) (nk : Bool) (acc : List (D × D)), acc.length + xs.length ≤ sizeLine →
    (nk = (t && !acc.isEmpty)) → (∀ p ∈ acc, isT p.1 = t) → (∀ x ∈ xs, ∀ p ∈ acc, keq p.1 (kx x) = false) → (xs.Pairwise fun x y => keq (kx x) (kx y) = false) →
    (∀ x ∈ xs, (okKey (kx x) = true ∧ isT (kx x) = t) ∧ OptP (tgt (F x) ρ) fun ρ1 => ρ1.length = ρ.length ∧ WE tst ρ1 fun b ρ2 => b = true ∧ WE kf ρ2 fun r ρ3 => WE (toSh r) ρ3 fun k ρ4 => k = kx x ∧ WE vf ρ4 fun r ρ5 => WE (toSh r) ρ5 fun v ρ6 => v = vx x ∧ wipeE ρ6 vs = ρ) →
    Q ((t && !(acc ++ xs.map (fun x => (kx x, vx x))).isEmpty), acc ++ xs.map (fun x => (kx x, vx x)), ρ) → OptP (dcLoop vs tgt tst kf vf (xs.map F) ρ nk acc) Q
  | [], nk, acc, _, hn, _, _, _, _, q => ⟨_, rfl, by subst hn; simpa using q⟩
  | x :: xs, nk, acc, hl, hn, ht, hd, hp, h, q => by
    obtain ⟨⟨k1, k2⟩, ρ1, e1, l1, b, ρ2, e2, rfl, z⟩ := h x List.mem_cons_self
    obtain ⟨k, ρ4, e3, rfl, z⟩ : WE (mbind kf toSh) ρ2 fun k ρ4 => k = kx x ∧ WE vf ρ4 fun r ρ5 => WE (toSh r) ρ5 fun v ρ6 => v = vx x ∧ wipeE ρ6 vs = ρ := we_bind.mpr z
    obtain ⟨v, ρ6, e4, rfl, c3⟩ : WE (mbind vf toSh) ρ4 fun v ρ6 => v = vx x ∧ wipeE ρ6 vs = ρ := we_bind.mpr z
    have hl' : acc.length + (xs.length + 1) ≤ sizeLine := hl
    have hfind : acc.find? (fun p => keq p.1 (kx x)) = none := List.find?_eq_none.mpr fun p m => by rw [hd x List.mem_cons_self p m]; decide
    have hput : dput acc (kx x) (vx x) = acc ++ [(kx x, vx x)] := by unfold dput dget; rw [hfind]; rfl
    have hko : kindOk acc (kx x) = true := by
      unfold kindOk
      split
      · rfl
      · rename_i p _
        rw [ht p List.mem_cons_self, k2]; simp
    have hpo : putOk nk acc (kx x) = true := by
      unfold putOk
      rw [k1, hko, k2, decide_eq_true (show acc.length < sizeLine by omega)]
      subst hn
      cases acc <;> cases t <;> simp
    obtain ⟨y, e5, q5⟩ := dc_wp F kx vx t xs t (acc ++ [(kx x, vx x)]) (Q := Q) (by rw [List.length_append, List.length_singleton]; omega) (by simp)
      (fun p m => (List.mem_append.mp m).elim (ht p) fun m => by rw [List.mem_singleton.mp m]; exact k2)
      (fun y m p mp => (List.mem_append.mp mp).elim (hd y (List.mem_cons_of_mem _ m) p) fun mp => by rw [List.mem_singleton.mp mp]; exact (List.pairwise_cons.mp hp).1 y m)
      (List.pairwise_cons.mp hp).2 (fun y m => h y (List.mem_cons_of_mem _ m)) (by rw [List.append_assoc]; exact q)
    refine ⟨y, ?_, q5⟩
    rw [List.map_cons, dcLoop, e1]
    simp only [l1, if_true, e2, e3, e4, hpo, k2, hput, c3]
    exact e5
/-- a comprehension that changes nothing -/
theorem lc_wpp {α : Type} {vs : List Nat} {tgt : D → Env → Option Env} {tst : M Bool} {elt : M R} (F : α → D) (p : α → Bool) (f : α → D) {ρ : Env} {Q : List D × Env → Prop} (xs : List α) (hl : xs.length ≤ sizeLine)
    (h : ∀ x ∈ xs, OptP (tgt (F x) ρ) fun ρ1 => ρ1.length = ρ.length ∧ WE tst ρ1 fun b ρ2 => b = p x ∧ (if p x = true then WE elt ρ2 fun r ρ3 => WE (toSh r) ρ3 fun y ρ4 => y = f x ∧ wipeE ρ4 vs = ρ else wipeE ρ2 vs = ρ))
    (q : Q ((xs.filter p).map f, ρ)) : OptP (lcLoop vs tgt tst elt (xs.map F) ρ []) Q := by
  refine lc_wp F (fun pre acc ρ' => acc = (pre.filter p).map f ∧ ρ' = ρ) (xs := xs) ⟨rfl, rfl⟩ ?_ fun acc ρ' hh => by obtain ⟨rfl, rfl⟩ := hh; exact q
  rintro pre x post acc ρ' hx ⟨rfl, rfl⟩
  obtain ⟨ρ1, e1, l1, b, ρ2, e2, rfl, z⟩ := h x (by rw [← hx]; simp)
  refine ⟨ρ1, e1, l1, _, ρ2, e2, ?_⟩
  have hle : (pre.filter p).length < sizeLine := by
    have h1 := List.length_filter_le p pre
    have h2 : pre.length < xs.length := by rw [← hx]; simp
    omega
  cases c : p x with
  | true =>
    rw [c] at z
    simp only [if_true] at z ⊢
    refine z.mono fun r ρ3 z => z.mono fun y ρ4 z => ?_
    obtain ⟨rfl, z⟩ := z
    exact ⟨by rw [List.length_map]; exact hle, by rw [List.filter_append, List.map_append]; simp [c], z⟩
  | false =>
    rw [c] at z
    simp only [if_false, Bool.false_eq_true] at z ⊢
    exact ⟨by rw [List.filter_append]; simp [c], z⟩
theorem ws_asg {g : D → Env → Option Env} {f : M R} : WS (sAsg g f) ρ N T ↔ WE f ρ fun r ρ1 => WE (toSh r) ρ1 fun d ρ2 => OptP (g d ρ2) N := by
  unfold sAsg
  rw [ws_E, we_bind]
  refine ⟨fun h => h.mono fun r ρ1 h => h.mono fun d ρ2 h => ?_, fun h => h.mono fun r ρ1 h => h.mono fun d ρ2 h => ?_⟩
  · rcases h with ⟨a, e, q⟩ | ⟨a, b, e, q⟩
    · simp only at e
      split at e
      · rename_i c; cases e; exact ⟨_, c, q⟩
      · cases e
    · simp only at e
      split at e <;> cases e
  · obtain ⟨a, e, q⟩ := h
    exact .inl ⟨_, by simp only [e], q⟩
theorem ws_pars {is : List Nat} {f : M (List R)} : WS (sPars is f) ρ N T ↔ WE f ρ fun rs ρ1 => rs.length = is.length ∧ rs.length ≤ sizeLine ∧ OptP (pars is rs ρ1) N := by
  unfold sPars
  rw [ws_E]
  refine ⟨fun h => h.mono fun r ρ1 h => ?_, fun h => h.mono fun r ρ1 h => ?_⟩
  · rcases h with ⟨a, e, q⟩ | ⟨a, b, e, q⟩
    · simp only at e
      split at e
      · rename_i c1
        split at e
        · rename_i c; cases e; exact ⟨c1.1, c1.2, _, c, q⟩
        · cases e
      · cases e
    · simp only at e
      split at e
      · split at e <;> cases e
      · cases e
  · obtain ⟨c1, c2, a, e, q⟩ := h
    exact .inl ⟨_, by simp only [c1, e]; rw [if_pos ⟨trivial, by rw [← c1]; exact c2⟩], q⟩
theorem ws_retN : WS sRetN ρ N T ↔ T (.v (.sh .none)) ρ := by unfold WS sRetN; simp [ex2]
theorem ws_augD {i : Nat} {fk f : M R} {op : D → D → Option D} : WS (sAugD i fk f op) ρ N T ↔ slotIs "dict" i ρ = true ∧ WE fk ρ fun r ρ1 => WE (toSh r) ρ1 fun k ρ1 => OptP (ρ1[i]?).join fun o => ofTy "dict" o = true ∧ OptP (oDGet [o, .sh k]) fun w => OptP (asSh w) fun x => WE f ρ1 fun r ρ2 => WE (toSh r) ρ2 fun y ρ3 => OptP (op x y) fun z => WE (mutAt opPut i [k, z]) ρ3 fun _ ρ4 => N ρ4 := by
  unfold sAugD
  cases c : slotIs "dict" i ρ with
  | false =>
    unfold WS
    simp [c]
  | true =>
    have e0 : ∀ g : SM, WS (fun ρ => if slotIs "dict" i ρ = true then g ρ else none) ρ N T ↔ WS g ρ N T := fun g => by
      unfold WS; simp only [c, if_true]
    rw [e0, ws_E, we_bind]
    simp only [true_and]
    refine ⟨fun h => h.mono fun r ρ1 h => h.mono fun k ρ2 h => ?_, fun h => h.mono fun r ρ1 h => h.mono fun k ρ2 h => ?_⟩
    · unfold WS at h
      simp only at h
      split at h
      · rename_i o e1
        split at h
        · rename_i c1
          split at h
          · rename_i x e2
            refine ⟨o, by first | rfl | (rw [e1]; rfl), c1, _, e2, x, rfl, ?_⟩
            have h' : WS (sE (mbind f toSh) (fun y => match op x y with | some z => sE (mutAt opPut i [k, z]) fun _ ρ => some (.nx ρ) | none => fun _ => none)) ρ2 N T := h
            rw [ws_E, we_bind] at h'
            refine h'.mono fun r ρ3 h => h.mono fun y ρ4 h => ?_
            cases e3 : op x y with
            | none => rw [e3] at h; rcases h with ⟨_, e, _⟩ | ⟨_, _, e, _⟩ <;> cases e
            | some z =>
              rw [e3] at h
              change WS (sE (mutAt opPut i [k, z]) fun _ ρ => some (.nx ρ)) ρ4 N T at h
              rw [ws_E] at h
              refine ⟨z, rfl, h.mono fun _ ρ5 h => ?_⟩
              rcases h with ⟨_, e, q⟩ | ⟨_, _, e, _⟩
              · cases e; exact q
              · cases e
          · rcases h with ⟨_, e, _⟩ | ⟨_, _, e, _⟩ <;> cases e
        · rcases h with ⟨_, e, _⟩ | ⟨_, _, e, _⟩ <;> cases e
      · rcases h with ⟨_, e, _⟩ | ⟨_, _, e, _⟩ <;> cases e
    · obtain ⟨o, e1, c1, w, e2, x, ew, h⟩ := h
      have ew : w = .sh x := by cases w <;> cases ew; rfl
      subst ew
      have e1' : ρ2[i]? = some (some o) := by
        cases h : ρ2[i]? with
        | none => rw [h] at e1; cases e1
        | some y => rw [h] at e1; simp at e1; rw [e1]
      unfold WS
      simp only [e1', c1, if_true, e2]
      have h' : WS (sE (mbind f toSh) (fun y => match op x y with | some z => sE (mutAt opPut i [k, z]) fun _ ρ => some (.nx ρ) | none => fun _ => none)) ρ2 N T := by
        rw [ws_E, we_bind]
        refine h.mono fun r ρ3 h => h.mono fun y ρ4 h => ?_
        obtain ⟨z, e3, h⟩ := h
        rw [e3]
        change WS (sE (mutAt opPut i [k, z]) fun _ ρ => some (.nx ρ)) ρ4 N T
        rw [ws_E]
        exact h.mono fun _ ρ5 q => .inl ⟨_, rfl, q⟩
      exact h'
end
end Wl

/- text K52 -/
set_option Elab.async false
set_option maxRecDepth 100000
set_option maxHeartbeats 0
namespace Lw
open PySem PySem.Spec L2 Wl
open PyProof.Rows hiding St

def top (i : Nat) : Stmt := PySem.Challenge.pw_waitlists_k52_closed_messages_and_opens.main.body.getD i (.Pass ⟨0, 0, 0, 0⟩)
def shp : Nat → Shp := fun τ => match τ with
  | 0 => .r fun k => match k with
    | .inr x => if x = "events" then .l else if x = "past" then .r (fun _ => .d) else if x = "sends" then .d else if x = "opens" then .d else .s
    | .inl _ => .s
  | _ => .r fun _ => .d
noncomputable def b_is_name : SM := (sSeq (sIf (tOrM (tNotM (tBool (e1 (oSc (dIsi "str")) (eVar 0)))) (tNotM (tBool (dC2 cLe cLe (eC (.int 1)) (e1 oLen (eVar 0)) (eC (.int 8)))))) (sRet (eC (.bool false))) sNext) (sRet (eOp (oSc (dAll true)) (aCons (eLc 2 [1] (srcAny (eVar 0)) (gSet 1) tTrue (e2 oIn (eVar 1) (eC (.str "abcdefghijklmnopqrstuvwxyz")))) aNil))))
noncomputable def f_is_name : Fn := fnOf 2 1 [] b_is_name
noncomputable def b_is_ascending : SM := (sRet (eOp (oSc (dAll true)) (aCons (eLc 3 [1, 2] (srcZ (aCons (eVar 0) (aCons (eSl oSlL (eVar 0) (pSome (eC (.int 1))) pNone) aNil))) (gTupM fun ds ρ => if ds.length = 2 then (gsCons (gSet 1) (gsCons (gSet 2) gsNil)) ds ρ else none) tTrue (e2 (oSc (dOrd cLt)) (eVar 1) (eVar 2))) aNil)))
noncomputable def f_is_ascending : Fn := fnOf 3 1 [] b_is_ascending
noncomputable def b_is_number : SM := (sRet (eAndM (e1 (oSc (dIsi "int")) (eVar 0)) (eAndM (eNotM (e1 (oSc (dIsi "bool")) (eVar 0))) (e2 (oSc (dOrd cGe)) (eVar 0) (eVar 1)))))
noncomputable def f_is_number : Fn := fnOf 2 2 [] b_is_number
noncomputable def b_is_nodes : SM := (sSeq (sIf (tOrM (tNotM (tBool (e1 (oSc (dIsi "list")) (eVar 0)))) (tNotM (tBool (dC2 cLe cLe (eC (.int 2)) (e1 oLen (eVar 0)) (eC (.int 12)))))) (sRet (eC (.bool false))) sNext) (sRet (eAndM (eOp (oSc (dAll true)) (aCons (eLc 2 [1] (srcAny (eVar 0)) (gSet 1) tTrue (eCall f_is_name [none] (aCons (eVar 1) aNil))) aNil)) (eCall f_is_ascending [none] (aCons (eVar 0) aNil)))))
noncomputable def f_is_nodes : Fn := fnOf 2 1 [] b_is_nodes
noncomputable def b_need_nodes : SM := (sIf (tNotM (tBool (eCall f_is_nodes [none] (aCons (eVar 0) aNil)))) sNever sNext)
noncomputable def f_need_nodes : Fn := fnOf 1 1 [] b_need_nodes
noncomputable def b_is_node : SM := (sRet (eAndM (e1 (oSc (dIsi "str")) (eVar 1)) (e2 oIn (eVar 1) (eVar 0))))
noncomputable def f_is_node : Fn := fnOf 2 2 [] b_is_node
noncomputable def b_need_node : SM := (sIf (tNotM (tBool (eCall f_is_node [none, none] (aCons (eVar 0) (aCons (eVar 1) aNil))))) sNever sNext)
noncomputable def f_need_node : Fn := fnOf 2 2 [] b_need_node
noncomputable def b_is_receivers : SM := (sSeq (sIf (tOrM (tNotM (tBool (e1 (oSc (dIsi "list")) (eVar 2)))) (tBool (e2 (oSc dEq) (eVar 2) (eLst aNil)))) (sRet (eC (.bool false))) sNext) (sRet (eAndM (eOp (oSc (dAll true)) (aCons (eLc 4 [3] (srcAny (eVar 2)) (gSet 3) tTrue (eAndM (eCall f_is_node [none, none] (aCons (eVar 0) (aCons (eVar 3) aNil))) (e2 (oSc dNe) (eVar 3) (eVar 1)))) aNil)) (eCall f_is_ascending [none] (aCons (eVar 2) aNil)))))
noncomputable def f_is_receivers : Fn := fnOf 4 3 [] b_is_receivers
noncomputable def b_is_message : SM := (sRet (eAndM (e1 (oSc (dIsi "tuple")) (eVar 1)) (eAndM (e2 (oSc dEq) (e1 oLen (eVar 1)) (eC (.int 2))) (eAndM (eCall f_is_node [none, none] (aCons (eVar 0) (aCons (e2 oIxA (eVar 1) (eC (.int 0))) aNil))) (eCall f_is_number [none, none] (aCons (e2 oIxA (eVar 1) (eC (.int 1))) (aCons (eC (.int 1)) aNil)))))))
noncomputable def f_is_message : Fn := fnOf 2 2 [] b_is_message
noncomputable def b_is_event : SM := (sSeq (sIf (tOrM (tNotM (tBool (e1 (oSc (dIsi "tuple")) (eVar 1)))) (tOrM (tBool (e2 (oSc dNe) (e1 oLen (eVar 1)) (eC (.int 3)))) (tNotM (tBool (e1 (oSc (dIsi "str")) (e2 oIxA (eVar 1) (eC (.int 0)))))))) (sRet (eC (.bool false))) sNext) (sRet (eAndM (e2 (oSc dEq) (e2 oIxA (eVar 1) (eC (.int 0))) (eVar 2)) (eCall f_is_node [none, none] (aCons (eVar 0) (aCons (e2 oIxA (eVar 1) (eC (.int 1))) aNil))))))
noncomputable def f_is_event : Fn := fnOf 3 3 [] b_is_event
noncomputable def b_is_run : SM := (sSeq (sDrop (eCall f_need_nodes [none] (aCons (eVar 0) aNil))) (sSeq (sIf (tNotM (tBool (e1 (oSc (dIsi "list")) (eVar 1)))) (sRet (eC (.bool false))) sNext) (sSeq (sSet 2 (eDc 8 [7] (srcAny (eVar 0)) (gSet 7) tTrue (eVar 7) (eC (.int 0)))) (sSeq (sSet 3 eNewD) (sSeq (sSet 4 eNewD) (sSeq (sFor (srcAny (eVar 1)) (gSet 5) (sIf (tAndM (tBool (eCall f_is_event [none, none, none] (aCons (eVar 0) (aCons (eVar 5) (aCons (eC (.str "send")) aNil))))) (tBool (eCall f_is_receivers [none, none, none] (aCons (eVar 0) (aCons (e2 oIxA (eVar 5) (eC (.int 1))) (aCons (e2 oIxA (eVar 5) (eC (.int 2))) aNil)))))) (sSeq (sAugD 2 (e2 oIxA (eVar 5) (eC (.int 1))) (eC (.int 1)) addI) (sPut 3 (eTup (aCons (e2 oIxA (eVar 5) (eC (.int 1))) (aCons (e2 oIxA (eVar 2) (e2 oIxA (eVar 5) (eC (.int 1)))) aNil))) (e2 oIxA (eVar 5) (eC (.int 2))))) (sIf (tAndM (tBool (eCall f_is_event [none, none, none] (aCons (eVar 0) (aCons (eVar 5) (aCons (eC (.str "open")) aNil))))) (tBool (eCall f_is_message [none, none] (aCons (eVar 0) (aCons (e2 oIxA (eVar 5) (eC (.int 2))) aNil))))) (sSeq (sSet 6 (eTup (aCons (e2 oIxA (eVar 5) (eC (.int 2))) (aCons (e2 oIxA (eVar 5) (eC (.int 1))) aNil)))) (sSeq (sIf (tOrM (tBool (e2 oNotIn (e2 oIxA (eVar 5) (eC (.int 1))) (eOp oGet2 (aCons (eTy "dict" (eVar 3)) (aCons (e2 oIxA (eVar 5) (eC (.int 2))) (aCons (eSh (eLst aNil)) aNil)))))) (tBool (e2 oIn (eVar 6) (eVar 4)))) (sRet (eC (.bool false))) sNext) (sPut 4 (eVar 6) (eC (.bool true))))) (sRet (eC (.bool false)))))) (sRet (eC (.bool true)))))))))
noncomputable def f_is_run : Fn := fnOf 8 2 [] b_is_run
noncomputable def b_need_run : SM := (sIf (tNotM (tBool (eCall f_is_run [none, none] (aCons (eVar 0) (aCons (eVar 1) aNil))))) sNever sNext)
noncomputable def f_need_run : Fn := fnOf 2 2 [] b_need_run
noncomputable def b_send_spots : SM := (sSeq (sSet 1 eNewD) (sSeq (sSet 2 eNewD) (sSeq (sFor (srcE (eVar 0)) (gTupM fun ds ρ => if ds.length = 2 then (gsCons (gSet 3) (gsCons (gTupM fun ds ρ => if ds.length = 3 then (gsCons (gSet 4) (gsCons (gSet 5) (gsCons (gSet 6) gsNil))) ds ρ else none) gsNil)) ds ρ else none) (sIf (tBool (e2 (oSc dEq) (eVar 4) (eC (.str "send")))) (sSeq (sPut 1 (eVar 5) (e2 oAdd (eOp oGet2 (aCons (eTy "dict" (eVar 1)) (aCons (eVar 5) (aCons (eSh (eC (.int 0))) aNil)))) (eC (.int 1)))) (sPut 2 (eTup (aCons (eVar 5) (aCons (e2 oIxA (eVar 1) (eVar 5)) aNil))) (eVar 3))) sNext)) (sRet (eVar 2)))))
noncomputable def f_send_spots : Fn := fnOf 7 1 [] b_send_spots
noncomputable def b_all_messages : SM := (sSeq (sSet 1 (eCall f_send_spots [none] (aCons (eVar 0) aNil))) (sRet (eDc 3 [2] (srcAny (e1 oSorted (eVar 1))) (gSet 2) tTrue (eVar 2) (eOp oList (aCons (e2 oIxA (e2 oIxA (eVar 0) (e2 oIxA (eVar 1) (eVar 2))) (eC (.int 2))) aNil)))))
noncomputable def f_all_messages : Fn := fnOf 3 1 [] b_all_messages
noncomputable def b_predecessors : SM := (sSeq (sSet 1 eNewD) (sSeq (sSet 2 (eCall f_send_spots [none] (aCons (eVar 0) aNil))) (sSeq (sSet 3 (eLst aNil)) (sSeq (sFor (srcE (eVar 0)) (gTupM fun ds ρ => if ds.length = 2 then (gsCons (gSet 4) (gsCons (gSet 5) gsNil)) ds ρ else none) (sSeq (sSet 6 (e2 oIxA (eVar 5) (eC (.int 1)))) (sSeq (sSet 7 (eIf (tBool (e2 oIn (eVar 6) (eVar 1))) (eLst (aCons (e2 oIxA (eVar 1) (eVar 6)) aNil)) (eLst aNil))) (sSeq (sIf (tAndM (tBool (e2 (oSc dEq) (e2 oIxA (eVar 5) (eC (.int 0))) (eC (.str "open")))) (tBool (e2 oNotIn (e2 oIxA (eVar 2) (e2 oIxA (eVar 5) (eC (.int 2)))) (eVar 7)))) (sDrop (eMeth "list" opAppend 7 (aCons (e2 oIxA (eVar 2) (e2 oIxA (eVar 5) (eC (.int 2)))) aNil))) sNext) (sSeq (sDrop (eMeth "list" opAppend 3 (aCons (eVar 7) aNil))) (sPut 1 (eVar 6) (eVar 4))))))) (sRet (eVar 3))))))
noncomputable def f_predecessors : Fn := fnOf 8 1 [] b_predecessors
noncomputable def b_closure : SM := (sSeq (sSet 1 (eLst aNil)) (sSeq (sFor (srcAny (eCall f_predecessors [none] (aCons (eVar 0) aNil))) (gSet 2) (sSeq (sSet 3 eNewD) (sSeq (sFor (srcAny (eVar 2)) (gSet 4) (sSeq (sDrop (eMeth "dict" opUpd 3 (aCons (e2 oIxA (eVar 1) (eVar 4)) aNil))) (sPut 3 (eVar 4) (eC (.bool true))))) (sDrop (eMeth "list" opAppend 1 (aCons (eVar 3) aNil)))))) (sRet (eVar 1))))
noncomputable def f_closure : Fn := fnOf 5 1 [] b_closure
noncomputable def b_early_open : SM := (sSeq (sPars [1, 2, 3] (aCons (eCall f_all_messages [none] (aCons (eVar 0) aNil)) (aCons (eCall f_send_spots [none] (aCons (eVar 0) aNil)) (aCons (eCall f_closure [none] (aCons (eVar 0) aNil)) aNil)))) (sSeq (sSet 4 eNewD) (sSeq (sFor (srcE (eVar 0)) (gTupM fun ds ρ => if ds.length = 2 then (gsCons (gSet 5) (gsCons (gSet 6) gsNil)) ds ρ else none) (sIf (tBool (e2 (oSc dEq) (e2 oIxA (eVar 6) (eC (.int 0))) (eC (.str "open")))) (sSeq (sPars [7, 8] (aCons (e2 oIxA (eVar 6) (eC (.int 1))) (aCons (e2 oIxA (eVar 6) (eC (.int 2))) aNil))) (sSeq (sFor (srcIt (eVar 1)) (gTupM fun ds ρ => if ds.length = 2 then (gsCons (gSet 9) (gsCons (gSet 10) gsNil)) ds ρ else none) (sIf (tAndM (tBool (e2 oIn (eVar 7) (eVar 10))) (tAndM (tBool (e2 oIn (e2 oIxA (eVar 2) (eVar 9)) (e2 oIxA (eVar 3) (e2 oIxA (eVar 2) (eVar 8))))) (tBool (e2 oNotIn (eTup (aCons (eVar 7) (aCons (eVar 9) aNil))) (eVar 4))))) (sRet (eVar 5)) sNext)) (sPut 4 (eTup (aCons (eVar 7) (aCons (eVar 8) aNil))) (eC (.bool true))))) sNext)) (sRet (eC .none)))))
noncomputable def f_early_open : Fn := fnOf 11 1 [] b_early_open
noncomputable def b_need_causal : SM := (sSeq (sDrop (eCall f_need_run [none, none] (aCons (eVar 0) (aCons (eVar 1) aNil)))) (sSeq (sSet 2 (eCall f_early_open [none] (aCons (eVar 1) aNil))) (sIf (tBool (e1 (oSc (dIsN true)) (eVar 2))) sNever sNext)))
noncomputable def f_need_causal : Fn := fnOf 3 2 [] b_need_causal
noncomputable def b_closed_of : SM := (sSeq (sSet 2 (eLc 7 [4] (srcAny (eVar 0)) (gSet 4) (tAndM (tBool (e2 (oSc dEq) (e2 oIxA (eVar 4) (eC (.int 0))) (eC (.str "open")))) (tBool (e2 (oSc dEq) (e2 oIxA (eVar 4) (eC (.int 1))) (eVar 1)))) (e2 oIxA (eVar 4) (eC (.int 2))))) (sSeq (sSet 3 (eLc 7 [5, 6] (srcIt (eCall f_all_messages [none] (aCons (eVar 0) aNil))) (gTupM fun ds ρ => if ds.length = 2 then (gsCons (gSet 5) (gsCons (gSet 6) gsNil)) ds ρ else none) (tBool (e2 oIn (eVar 1) (eVar 6))) (eVar 5))) (sRet (e1 oSorted (eLc 7 [5] (srcAny (eVar 3)) (gSet 5) (tBool (e2 oNotIn (eVar 5) (eVar 2))) (eVar 5))))))
noncomputable def f_closed_of : Fn := fnOf 7 2 [] b_closed_of
noncomputable def b_sent_before : SM := (sSeq (sPars [2, 3] (aCons (eCall f_closure [none] (aCons (eVar 0) aNil)) (aCons (eCall f_send_spots [none] (aCons (eVar 0) aNil)) aNil))) (sRet (eDc 6 [4] (srcAny (eVar 1)) (gSet 4) tTrue (eVar 4) (eLc 6 [5] (srcAny (eVar 1)) (gSet 5) (tBool (e2 oIn (e2 oIxA (eVar 3) (eVar 5)) (e2 oIxA (eVar 2) (e2 oIxA (eVar 3) (eVar 4))))) (eVar 5)))))
noncomputable def f_sent_before : Fn := fnOf 6 2 [] b_sent_before
noncomputable def b_next_opens : SM := (sSeq (sDrop (eCall f_need_causal [none, none] (aCons (eVar 0) (aCons (eVar 1) aNil)))) (sSeq (sSet 2 (eLst aNil)) (sSeq (sFor (srcAny (eVar 0)) (gSet 3) (sSeq (sSet 4 (eCall f_sent_before [none, none] (aCons (eVar 1) (aCons (eCall f_closed_of [none, none] (aCons (eVar 1) (aCons (eVar 3) aNil))) aNil)))) (sDrop (eExt 2 (eLc 6 [5] (srcAny (e1 oSorted (eVar 4))) (gSet 5) (tBool (e2 (oSc dEq) (e2 oIxA (eVar 4) (eVar 5)) (eLst aNil))) (eTup (aCons (eVar 3) (aCons (eVar 5) aNil)))))))) (sRet (eVar 2)))))
noncomputable def f_next_opens : Fn := fnOf 6 2 [] b_next_opens
noncomputable def b_closed_messages : SM := (sSeq (sDrop (eCall f_need_causal [none, none] (aCons (eVar 0) (aCons (eVar 1) aNil)))) (sSeq (sDrop (eCall f_need_node [none, none] (aCons (eVar 0) (aCons (eVar 2) aNil)))) (sRet (eCall f_closed_of [none, none] (aCons (eVar 1) (aCons (eVar 2) aNil))))))
noncomputable def f_closed_messages : Fn := fnOf 3 3 [] b_closed_messages
noncomputable def b__law_jar : SM := (sSeq (sSet 2 (eIf (tBool (e2 (oSc (dOrd cLt)) (eVar 1) (e1 oLen (eVar 0)))) (e2 oIxA (eVar 0) (eVar 1)) (eC (.int 0)))) (sRet (eLst (aCons (e2 (oSc dMax2) (eC (.int 0)) (e2 (oSc dSub) (e1 (oSc dAbs) (eVar 2)) (e2 (oSc dPow) (eC (.int 10)) (eC (.int 18))))) (aCons (e2 oAdd (e2 oAdd (e2 (oSc dMul) (e2 (oSc dMod) (eVar 2) (e2 oAdd (e2 (oSc dPow) (eC (.int 10)) (eC (.int 39))) (eC (.int 3)))) (eC (.int 29))) (e2 (oSc dMul) (eC (.int 7919)) (eVar 1))) (eC (.int 6))) (aCons (eC (.int 0)) aNil))))))
noncomputable def f__law_jar : Fn := fnOf 3 2 [] b__law_jar
noncomputable def b__law_pick : SM := (sSeq (sIf (tBool (e2 (oSc (dOrd cGt)) (e2 oIxA (eVar 0) (eC (.int 0))) (eC (.int 0)))) (sSeq (sSet 2 (e2 (oSc dMod) (e2 oIxA (eVar 0) (eC (.int 0))) (eVar 1))) (sSeq (sPut 0 (eC (.int 0)) (e2 (oSc dDiv) (e2 oIxA (eVar 0) (eC (.int 0))) (eVar 1))) (sRet (eVar 2)))) sNext) (sSeq (sPut 0 (eC (.int 2)) (e2 oAdd (e2 oIxA (eVar 0) (eC (.int 2))) (eC (.int 1)))) (sSeq (sSet 3 (e2 (oSc dMod) (e2 (oSc dPow) (e2 oAdd (e2 oIxA (eVar 0) (eC (.int 1))) (e2 (oSc dMul) (eC (.int 2147483629)) (e2 oIxA (eVar 0) (eC (.int 2))))) (eC (.int 3))) (e2 oAdd (e2 (oSc dPow) (eC (.int 10)) (eC (.int 43))) (eC (.int 103))))) (sSeq (sSet 3 (e2 (oSc dMod) (e2 (oSc dPow) (e2 oAdd (eVar 3) (e2 (oSc dMul) (eC (.int 433494437)) (e2 oIxA (eVar 0) (eC (.int 2))))) (eC (.int 3))) (e2 oAdd (e2 (oSc dPow) (eC (.int 10)) (eC (.int 42))) (eC (.int 63))))) (sRet (e2 (oSc dMod) (e2 (oSc dDiv) (eVar 3) (eC (.int 1000033))) (eVar 1)))))))
noncomputable def f__law_pick : Fn := fnOf 4 2 [0] b__law_pick
noncomputable def b__law_folk : SM := (sSeq (sSet 2 (eLst (aCons (eC (.str "a")) (aCons (eC (.str "ab")) (aCons (eC (.str "b")) (aCons (eC (.str "c")) (aCons (eC (.str "d")) (aCons (eC (.str "n")) (aCons (eC (.str "send")) (aCons (eC (.str "open")) (aCons (eC (.str "needed")) (aCons (eC (.str "zzzzzzzz")) (aCons (eC (.str "aaaaaaaa")) (aCons (eC (.str "x")) (aCons (eC (.str "y")) (aCons (eC (.str "z")) aNil)))))))))))))))) (sSeq (sSet 3 (eLc 5 [4] (srcR (e2 oAdd (eC (.int 2)) (eCall f__law_pick [some 0, none] (aCons (eVar 0) (aCons (e2 (oSc dSub) (eVar 1) (eC (.int 1))) aNil))))) (gSet 4) tTrue (eMeth "list" opPopAt 2 (aCons (eCall f__law_pick [some 0, none] (aCons (eVar 0) (aCons (e1 oLen (eVar 2)) aNil))) aNil)))) (sRet (e1 oSorted (eVar 3)))))
noncomputable def f__law_folk : Fn := fnOf 5 2 [0] b__law_folk
noncomputable def b__law_some : SM := (sSeq (sSet 3 (eLc 7 [6] (srcAny (eVar 1)) (gSet 6) (tBool (e2 (oSc dNe) (eVar 6) (eVar 2))) (eVar 6))) (sSeq (sSet 4 (eCall f__law_pick [some 0, none] (aCons (eVar 0) (aCons (eC (.int 4)) aNil)))) (sSeq (sIf (tBool (e2 (oSc dEq) (eVar 4) (eC (.int 0)))) (sRet (eVar 3)) sNext) (sSeq (sIf (tBool (e2 (oSc dEq) (eVar 4) (eC (.int 1)))) (sSeq (sSet 5 (eLc 7 [6] (srcAny (eVar 3)) (gSet 6) (tBool (e2 (oSc dEq) (eCall f__law_pick [some 0, none] (aCons (eVar 0) (aCons (eC (.int 2)) aNil))) (eC (.int 0)))) (eVar 6))) (sIf (tBool (e2 (oSc dNe) (eVar 5) (eLst aNil))) (sRet (eVar 5)) sNext)) sNext) (sRet (eLst (aCons (e2 oIxA (eVar 3) (eCall f__law_pick [some 0, none] (aCons (eVar 0) (aCons (e1 oLen (eVar 3)) aNil)))) aNil)))))))
noncomputable def f__law_some : Fn := fnOf 7 3 [0] b__law_some
noncomputable def b__law_told : SM := (sRet (eDisp 0 ["events", "past", "sends", "opens", "nodes"] [.l, .o 1, .d, .d, .s] (aCons (eLst aNil) (aCons (eDE 1 2 [1] (srcAny (eVar 0)) (gSet 1) (eVar 1)) (aCons eNewD (aCons eNewD (aCons (eVar 0) aNil)))))))
noncomputable def f__law_told : Fn := fnOf 2 1 [] b__law_told
noncomputable def b__law_sent : SM := (sSeq (sSet 3 (eBor 0 (e2 oAdd (eC (.int 1)) (e1 oLen (eLc 7 [5, 6] (srcAny (e2 oIxA (eVar 0) (eC (.str "sends")))) (gTupM fun ds ρ => if ds.length = 2 then (gsCons (gSet 5) (gsCons (gSet 6) gsNil)) ds ρ else none) (tBool (e2 (oSc dEq) (eVar 5) (eVar 1))) (eC (.int 1))))))) (sSeq (sSet 4 (eBor 0 (e1 oLen (e2 oIxA (eVar 0) (eC (.str "events")))))) (sSeq (sPM shp "list" opAppend 0 (pStep pBase (qC (.str "events"))) (aCons (eTup (aCons (eC (.str "send")) (aCons (eVar 1) (aCons (eOp oList (aCons (eVar 2) aNil)) aNil)))) aNil)) (sSeq (sPP shp 0 (pStep (pStep pBase (qC (.str "past"))) (qV 1)) (eVar 4) (eC (.bool true))) (sSeq (sPP shp 0 (pStep pBase (qC (.str "sends"))) (eTup (aCons (eVar 1) (aCons (eVar 3) aNil))) (eTup (aCons (eOp oList (aCons (eVar 2) aNil)) (aCons (eVar 4) (aCons (eBor 0 (e1 oCopyD (e2 oIxA (e2 oIxA (eVar 0) (eC (.str "past"))) (eVar 1)))) aNil))))) (sRet (eTup (aCons (eVar 1) (aCons (eVar 3) aNil)))))))))
noncomputable def f__law_sent : Fn := fnOf 7 3 [0] b__law_sent
noncomputable def b__law_opened : SM := (sSeq (sSet 3 (eBor 0 (e1 oLen (e2 oIxA (eVar 0) (eC (.str "events")))))) (sSeq (sPM shp "list" opAppend 0 (pStep pBase (qC (.str "events"))) (aCons (eTup (aCons (eC (.str "open")) (aCons (eVar 1) (aCons (eVar 2) aNil)))) aNil)) (sSeq (sPU shp 0 (pStep (pStep pBase (qC (.str "past"))) (qV 1)) (qIx (qGet shp 0 (pStep pBase (qC (.str "sends"))) (qV 2)) (qC (.int 2)))) (sSeq (sPP shp 0 (pStep (pStep pBase (qC (.str "past"))) (qV 1)) (eVar 3) (eC (.bool true))) (sPP shp 0 (pStep pBase (qC (.str "opens"))) (eTup (aCons (eVar 2) (aCons (eVar 1) aNil))) (eVar 3))))))
noncomputable def f__law_opened : Fn := fnOf 4 3 [0] b__law_opened
noncomputable def b__law_first : SM := (sSeq (sPars [3, 4] (aCons (e2 oIxA (e2 oIxA (e2 oIxA (eVar 0) (eC (.str "sends"))) (eVar 2)) (eC (.int 2))) (aCons (eLst aNil) aNil))) (sSeq (sFor (srcAny (e1 oSorted (e2 oIxA (eVar 0) (eC (.str "sends"))))) (gSet 5) (sSeq (sAsg (gTupM fun ds ρ => if ds.length = 3 then (gsCons (gSet 6) (gsCons (gSet 7) (gsCons (gSet 8) gsNil))) ds ρ else none) (e2 oIxA (e2 oIxA (eVar 0) (eC (.str "sends"))) (eVar 5))) (sIf (tAndM (tBool (e2 (oSc dNe) (eVar 5) (eVar 2))) (tAndM (tBool (e2 oIn (eVar 1) (eVar 6))) (tAndM (tBool (e2 oIn (eVar 7) (eVar 3))) (tBool (e2 oNotIn (eTup (aCons (eVar 5) (aCons (eVar 1) aNil))) (e2 oIxA (eVar 0) (eC (.str "opens")))))))) (sDrop (eMeth "list" opAppend 4 (aCons (eVar 5) aNil))) sNext))) (sRet (eVar 4))))
noncomputable def f__law_first : Fn := fnOf 9 3 [] b__law_first
noncomputable def b__law_closed : SM := (sSeq (sSet 2 (eLc 4 [3] (srcAny (e1 oSorted (e2 oIxA (eVar 0) (eC (.str "sends"))))) (gSet 3) (tBool (e2 oIn (eVar 1) (e2 oIxA (e2 oIxA (e2 oIxA (eVar 0) (eC (.str "sends"))) (eVar 3)) (eC (.int 0))))) (eVar 3))) (sRet (eLc 4 [3] (srcAny (eVar 2)) (gSet 3) (tBool (e2 oNotIn (eTup (aCons (eVar 3) (aCons (eVar 1) aNil))) (e2 oIxA (eVar 0) (eC (.str "opens"))))) (eVar 3))))
noncomputable def f__law_closed : Fn := fnOf 4 2 [] b__law_closed
noncomputable def b__law_lived : SM := (sSeq (sSet 3 (eCall f__law_told [none] (aCons (eVar 1) aNil))) (sSeq (sSet 4 (e2 oIxA (eLst (aCons (eVar 1) (aCons (eSl oSlL (eVar 1) pNone (pSome (eC (.int 2)))) (aCons (eSl oSlL (eVar 1) (pSome (e1 (oSc dNeg) (eC (.int 1)))) pNone) aNil)))) (eCall f__law_pick [some 0, none] (aCons (eVar 0) (aCons (eC (.int 3)) aNil))))) (sSeq (sSet 5 (e2 oAdd (eC (.int 1)) (eCall f__law_pick [some 0, none] (aCons (eVar 0) (aCons (eC (.int 7)) aNil))))) (sSeq (sFor (srcR (eCall f__law_pick [some 0, none] (aCons (eVar 0) (aCons (e2 oAdd (eVar 2) (eC (.int 1))) aNil)))) (gSet 6) (sSeq (sSet 7 (e2 oIxA (eVar 1) (eCall f__law_pick [some 0, none] (aCons (eVar 0) (aCons (e1 oLen (eVar 1)) aNil))))) (sSeq (sSet 8 (eLc 10 [9] (srcAny (eBor 3 (eCall f__law_closed [none, none] (aCons (eVar 3) (aCons (eVar 7) aNil))))) (gSet 9) (tBor 3 (tBool (e2 (oSc dEq) (eCall f__law_first [none, none, none] (aCons (eVar 3) (aCons (eVar 7) (aCons (eVar 9) aNil)))) (eLst aNil)))) (eVar 9))) (sIf (tAndM (tBool (e2 (oSc dNe) (eVar 8) (eLst aNil))) (tBool (e2 (oSc (dOrd cLt)) (eCall f__law_pick [some 0, none] (aCons (eVar 0) (aCons (eC (.int 8)) aNil))) (eVar 5)))) (sDrop (eCall f__law_opened [some 3, none, none] (aCons (eVar 3) (aCons (eVar 7) (aCons (e2 oIxA (eVar 8) (e2 oIxA (eLst (aCons (eC (.int 0)) (aCons (e2 (oSc dSub) (e1 oLen (eVar 8)) (eC (.int 1))) (aCons (eCall f__law_pick [some 0, none] (aCons (eVar 0) (aCons (e1 oLen (eVar 8)) aNil))) aNil)))) (eCall f__law_pick [some 0, none] (aCons (eVar 0) (aCons (eC (.int 3)) aNil))))) aNil))))) (sSeq (sSet 7 (e2 oIxA (eVar 4) (eCall f__law_pick [some 0, none] (aCons (eVar 0) (aCons (e1 oLen (eVar 4)) aNil))))) (sDrop (eCall f__law_sent [some 3, none, none] (aCons (eVar 3) (aCons (eVar 7) (aCons (eCall f__law_some [some 0, none, none] (aCons (eVar 0) (aCons (eVar 1) (aCons (eVar 7) aNil)))) aNil)))))))))) (sRet (eVar 3))))))
noncomputable def f__law_lived : Fn := fnOf 10 3 [0] b__law_lived
noncomputable def b__law_right : SM := (sSeq (sPars [2, 3] (aCons (e2 oIxA (eVar 1) (eC (.str "events"))) (aCons (e1 (oSc dRepr) (eLst (aCons (eVar 0) (aCons (e2 oIxA (eVar 1) (eC (.str "events"))) aNil)))) aNil))) (sSeq (sSet 4 (eLst aNil)) (sSeq (sFor (srcAny (eVar 0)) (gSet 5) (sSeq (sSet 6 (eCall f__law_closed [none, none] (aCons (eVar 1) (aCons (eVar 5) aNil)))) (sSeq (sDrop (eExt 4 (eLc 10 [9] (srcAny (eVar 6)) (gSet 9) (tBool (e2 (oSc dEq) (eCall f__law_first [none, none, none] (aCons (eVar 1) (aCons (eVar 5) (aCons (eVar 9) aNil)))) (eLst aNil))) (eTup (aCons (eVar 5) (aCons (eVar 9) aNil)))))) (sFor (srcR (eC (.int 2))) (gSet 7) (sSeq (sSet 8 (eCall f_closed_messages [none, none, none] (aCons (eVar 0) (aCons (eVar 2) (aCons (eVar 5) aNil))))) (sSeq (sIf (tBool (e2 (oSc dNe) (e1 (oSc dRepr) (eVar 8)) (e1 (oSc dRepr) (eVar 6)))) (sRet (eC (.bool false))) sNext) (sDrop (eMeth "list" opAppend 8 (aCons (eC (.str "more")) aNil))))))))) (sSeq (sFor (srcR (eC (.int 2))) (gSet 7) (sSeq (sSet 8 (eCall f_next_opens [none, none] (aCons (eVar 0) (aCons (eVar 2) aNil)))) (sSeq (sIf (tOrM (tBool (e2 (oSc dNe) (e1 (oSc dRepr) (eVar 8)) (e1 (oSc dRepr) (eVar 4)))) (tBool (e2 (oSc dNe) (e1 (oSc dRepr) (eLst (aCons (eVar 0) (aCons (eVar 2) aNil)))) (eVar 3)))) (sRet (eC (.bool false))) sNext) (sDrop (eMeth "list" opAppend 8 (aCons (eC (.str "more")) aNil)))))) (sRet (eC (.bool true)))))))
noncomputable def f__law_right : Fn := fnOf 10 2 [] b__law_right
noncomputable def b_law : SM := (sSeq (sFor (srcR (e2 (oSc dMax2) (eC (.int 1)) (e2 (oSc dMin2) (eC (.int 6)) (e1 oLen (eVar 0))))) (gSet 1) (sSeq (sSet 2 (eCall f__law_jar [none, none] (aCons (eVar 0) (aCons (eVar 1) aNil)))) (sFor (srcR (eC (.int 2))) (gSet 3) (sSeq (sSet 4 (eCall f__law_folk [some 2, none] (aCons (eVar 2) (aCons (eIf (tAndM (tBool (e2 (oSc dEq) (e2 oAdd (eVar 1) (eVar 3)) (eC (.int 0)))) (tBool (e2 (oSc dEq) (eCall f__law_pick [some 2, none] (aCons (eVar 2) (aCons (eC (.int 4)) aNil))) (eC (.int 0))))) (eC (.int 12)) (eC (.int 6))) aNil)))) (sSeq (sSet 5 (eCall f__law_lived [some 2, none, none] (aCons (eVar 2) (aCons (eVar 4) (aCons (eC (.int 30)) aNil))))) (sSeq (sIf (tNotM (tBor 5 (tBool (eCall f__law_right [none, none] (aCons (eVar 4) (aCons (eVar 5) aNil)))))) (sRet (eC (.bool false))) sNext) (sSeq (sSet 6 (e2 oIxA (eVar 4) (eCall f__law_pick [some 2, none] (aCons (eVar 2) (aCons (e1 oLen (eVar 4)) aNil))))) (sSeq (sDrop (eCall f__law_sent [some 5, none, none] (aCons (eVar 5) (aCons (eVar 6) (aCons (eCall f__law_some [some 2, none, none] (aCons (eVar 2) (aCons (eVar 4) (aCons (eVar 6) aNil)))) aNil))))) (sIf (tNotM (tBor 5 (tBool (eCall f__law_right [none, none] (aCons (eVar 4) (aCons (eVar 5) aNil)))))) (sRet (eC (.bool false))) sNext))))))))) (sRet (eAndM (e2 (oSc dEq) (eCall f_next_opens [none, none] (aCons (eLst (aCons (eC (.str "a")) (aCons (eC (.str "b")) aNil))) (aCons (eLst aNil) aNil))) (eLst aNil)) (e2 (oSc dEq) (eCall f_closed_messages [none, none, none] (aCons (eLst (aCons (eC (.str "a")) (aCons (eC (.str "b")) aNil))) (aCons (eLst aNil) (aCons (eC (.str "a")) aNil)))) (eLst aNil)))))
noncomputable def f_law : Fn := fnOf 7 1 [] b_law
structure Fx (mg : Str → Option Value) : Prop where
  c_LETTERS : ∃ t, mg "LETTERS" = some (.str "abcdefghijklmnopqrstuvwxyz" t)
  c_MAX_LETTERS : ∃ t, mg "MAX_LETTERS" = some (.int 8 t)
  c_MAX_NODES : ∃ t, mg "MAX_NODES" = some (.int 12 t)
  c_MIN_NODES : ∃ t, mg "MIN_NODES" = some (.int 2 t)
  c_OPEN : ∃ t, mg "OPEN" = some (.str "open" t)
  c_SEND : ∃ t, mg "SEND" = some (.str "send" t)
  n_abs : mg "abs" = none
  n_all : mg "all" = none
  n_bool : mg "bool" = none
  n_dict : mg "dict" = none
  n_enumerate : mg "enumerate" = none
  n_int : mg "int" = none
  n_isinstance : mg "isinstance" = none
  n_len : mg "len" = none
  n_list : mg "list" = none
  n_max : mg "max" = none
  n_min : mg "min" = none
  n_range : mg "range" = none
  n_repr : mg "repr" = none
  n_sorted : mg "sorted" = none
  n_str : mg "str" = none
  n_tuple : mg "tuple" = none
  n_zip : mg "zip" = none
theorem hdisp : ∀ x ∈ List.zip (["events", "past", "sends", "opens", "nodes"] : List Str) [Sel.l, .o 1, .d, .d, .s], (fun k : Key => match k with | .inr x => if x = "events" then Shp.l else if x = "past" then .r (fun _ => .d) else if x = "sends" then .d else if x = "opens" then .d else .s | .inl _ => .s) (.inr x.1) = selShp shp x.2 := by
  intro x hx
  simp only [List.zip_cons_cons, List.zip_nil_right, List.mem_cons, List.not_mem_nil, or_false] at hx
  rcases hx with rfl | rfl | rfl | rfl | rfl <;> rfl
section
variable {P : Program} {w : World} {K : PySem.W.Frag} {mg : Str → Option Value} {base : Heap} {Θ : Nat → ObSem} {f : Addr} {fd : FuncData}
abbrev s_is_name : Stmt := top 13
abbrev N_is_name : List Str := ["value", "letter"]
theorem sc_is_name : FnScope ["value", "letter"] ["value"] (defScope s_is_name) := C8.fnScope_by (by decide +kernel)
theorem k_is_name (D : FunD K "is_name" "is_name" (defArgs s_is_name) (defBody s_is_name) (defScope s_is_name) [] [] f fd) (F : Fx mg) (hS : AllS P w Θ shp) : FnG P w K mg base (L2.CX P w) 2 f fd ["value"] (SpF P w K Θ 1 f_is_name) := by
  refine def_ok (io := []) (body := b_is_name) D sc_is_name rfl rfl fun cdv A outer s H E hga hr => ?_
  have hN := sc_is_name.nd; have hp := @hp0 P w K mg base ["value", "letter"] "is_name" (defScope s_is_name) f cdv A outer s H E; have tk := @tkd P w K mg base ["value", "letter"] "is_name" (defScope s_is_name) f cdv A outer s H E
  exact (css_cons (cs_if (ct_w (cw_or (ct_not (ct_val (ce_isi (kt_str _) rfl F.n_isinstance rfl F.n_str (by decide +kernel) (ha := (ce_var 0))))) (cw_or1 (ct_not (ct_chainLe hr ce_int (ce_len_ rfl F.n_len (ce_var 0)) (ce_gint rfl F.c_MAX_LETTERS)))))) (css_one (cs_ret ce_bl)) css_nil) (css_one (cs_ret (ce_all rfl rfl F.n_all (ce_lc (own := [("letter", 1)]) rfl hN (ci_any (ce_var 0)) (blkOk_by (N := N_is_name) (sc := defScope s_is_name) (own := [("letter", 1)]) (by decide +kernel)) (fun _ _ _ _ _ => (cg_name hN (by decide))) (fun _ _ _ _ _ => cts_nil) (fun _ _ _ _ _ => (ce_isin hr (ce_var 1) (ce_gstr rfl F.c_LETTERS))))))))
abbrev s_is_ascending : Stmt := top 14
abbrev N_is_ascending : List Str := ["values", "one", "other"]
theorem sc_is_ascending : FnScope ["values", "one", "other"] ["values"] (defScope s_is_ascending) := C8.fnScope_by (by decide +kernel)
theorem k_is_ascending (D : FunD K "is_ascending" "is_ascending" (defArgs s_is_ascending) (defBody s_is_ascending) (defScope s_is_ascending) [] [] f fd) (F : Fx mg) (hS : AllS P w Θ shp) : FnG P w K mg base (L2.CX P w) 2 f fd ["values"] (SpF P w K Θ 1 f_is_ascending) := by
  refine def_ok (io := []) (body := b_is_ascending) D sc_is_ascending rfl rfl fun cdv A outer s H E hga hr => ?_
  have hN := sc_is_ascending.nd; have hp := @hp0 P w K mg base ["values", "one", "other"] "is_ascending" (defScope s_is_ascending) f cdv A outer s H E; have tk := @tkd P w K mg base ["values", "one", "other"] "is_ascending" (defScope s_is_ascending) f cdv A outer s H E
  exact (css_one (cs_ret (ce_all rfl rfl F.n_all (ce_lc (own := [("one", 1), ("other", 2)]) rfl hN (ci_zip rfl F.n_zip (ca_cons (ce_var 0) (ca_cons (ce_slL (ce_var 0) (co_some ce_int) co_none) ca_nil))) (blkOk_by (N := N_is_ascending) (sc := defScope s_is_ascending) (own := [("one", 1), ("other", 2)]) (by decide +kernel)) (fun _ _ _ _ _ => (cg_tup rfl (cgs_cons (cg_name hN (by decide)) (cgs_cons (cg_name hN (by decide)) cgs_nil)))) (fun _ _ _ _ _ => cts_nil) (fun _ _ _ _ _ => (ce_ltA hr (ce_var 1) (ce_var 2)))))))
abbrev s_is_number : Stmt := top 15
abbrev N_is_number : List Str := ["value", "least"]
theorem sc_is_number : FnScope ["value", "least"] ["value", "least"] (defScope s_is_number) := C8.fnScope_by (by decide +kernel)
theorem k_is_number (D : FunD K "is_number" "is_number" (defArgs s_is_number) (defBody s_is_number) (defScope s_is_number) [] [] f fd) (F : Fx mg) (hS : AllS P w Θ shp) : FnG P w K mg base (L2.CX P w) 2 f fd ["value", "least"] (SpF P w K Θ 2 f_is_number) := by
  refine def_ok (io := []) (body := b_is_number) D sc_is_number rfl rfl fun cdv A outer s H E hga hr => ?_
  have hN := sc_is_number.nd; have hp := @hp0 P w K mg base ["value", "least"] "is_number" (defScope s_is_number) f cdv A outer s H E; have tk := @tkd P w K mg base ["value", "least"] "is_number" (defScope s_is_number) f cdv A outer s H E
  exact (css_one (cs_ret (ce_and (ce_isi (kt_int _) rfl F.n_isinstance rfl F.n_int (by decide +kernel) (ha := (ce_var 0))) (ce_and (ce_not (ce_isi (kt_bool _) rfl F.n_isinstance rfl F.n_bool (by decide +kernel) (ha := (ce_var 0)))) (ce_one (ce_geA hr (ce_var 0) (ce_var 1)))))))
abbrev s_is_nodes : Stmt := top 16
abbrev N_is_nodes : List Str := ["value", "node"]
theorem sc_is_nodes : FnScope ["value", "node"] ["value"] (defScope s_is_nodes) := C8.fnScope_by (by decide +kernel)
structure Cl_is_nodes (P : Program) (w : World) (K : PySem.W.Frag) (mg : Str → Option Value) (base : Heap) (Θ : Nat → ObSem) : Prop where
  h_is_name : FnAt P w K mg base Θ "is_name" 2 1 f_is_name
  h_is_ascending : FnAt P w K mg base Θ "is_ascending" 2 1 f_is_ascending
theorem k_is_nodes (D : FunD K "is_nodes" "is_nodes" (defArgs s_is_nodes) (defBody s_is_nodes) (defScope s_is_nodes) [] [] f fd) (F : Fx mg) (Cl : Cl_is_nodes P w K mg base Θ) (hS : AllS P w Θ shp) : FnG P w K mg base (L2.CX P w) 3 f fd ["value"] (SpF P w K Θ 1 f_is_nodes) := by
  refine def_ok (io := []) (body := b_is_nodes) D sc_is_nodes rfl rfl fun cdv A outer s H E hga hr => ?_
  have hN := sc_is_nodes.nd; have hp := @hp0 P w K mg base ["value", "node"] "is_nodes" (defScope s_is_nodes) f cdv A outer s H E; have tk := @tkd P w K mg base ["value", "node"] "is_nodes" (defScope s_is_nodes) f cdv A outer s H E
  exact (css_cons (cs_if (ct_w (cw_or (ct_not (ct_val (ce_isi (kt_list _) rfl F.n_isinstance rfl F.n_list (by decide +kernel) (ha := (ce_var 0))))) (cw_or1 (ct_not (ct_chainLe hr (ce_gint rfl F.c_MIN_NODES) (ce_len_ rfl F.n_len (ce_var 0)) (ce_gint rfl F.c_MAX_NODES)))))) (css_one (cs_ret ce_bl)) css_nil) (css_one (cs_ret (ce_and (ce_all rfl rfl F.n_all (ce_lc (own := [("node", 1)]) rfl hN (ci_any (ce_var 0)) (blkOk_by (N := N_is_nodes) (sc := defScope s_is_nodes) (own := [("node", 1)]) (by decide +kernel)) (fun _ _ _ _ _ => (cg_name hN (by decide))) (fun _ _ _ _ _ => cts_nil) (fun _ _ _ _ _ => (ce_call (Cl.h_is_name.mono (by decide)) hga hr tk0 rfl rfl (ca_cons (ce_var 1) ca_nil))))) (ce_one (ce_call (Cl.h_is_ascending.mono (by decide)) hga hr tk rfl rfl (ca_cons (ce_var 0) ca_nil)))))))
abbrev s_need_nodes : Stmt := top 17
abbrev N_need_nodes : List Str := ["nodes"]
theorem sc_need_nodes : FnScope ["nodes"] ["nodes"] (defScope s_need_nodes) := C8.fnScope_by (by decide +kernel)
structure Cl_need_nodes (P : Program) (w : World) (K : PySem.W.Frag) (mg : Str → Option Value) (base : Heap) (Θ : Nat → ObSem) : Prop where
  h_is_nodes : FnAt P w K mg base Θ "is_nodes" 3 1 f_is_nodes
theorem k_need_nodes (D : FunD K "need_nodes" "need_nodes" (defArgs s_need_nodes) (defBody s_need_nodes) (defScope s_need_nodes) [] [] f fd) (F : Fx mg) (Cl : Cl_need_nodes P w K mg base Θ) (hS : AllS P w Θ shp) : FnG P w K mg base (L2.CX P w) 4 f fd ["nodes"] (SpF P w K Θ 1 f_need_nodes) := by
  refine def_ok (io := []) (body := b_need_nodes) D sc_need_nodes rfl rfl fun cdv A outer s H E hga hr => ?_
  have hN := sc_need_nodes.nd; have hp := @hp0 P w K mg base ["nodes"] "need_nodes" (defScope s_need_nodes) f cdv A outer s H E; have tk := @tkd P w K mg base ["nodes"] "need_nodes" (defScope s_need_nodes) f cdv A outer s H E
  exact (css_one (cs_if (ct_not (ct_val (ce_call (Cl.h_is_nodes.mono (by decide)) hga hr tk rfl rfl (ca_cons (ce_var 0) ca_nil)))) (css_one cs_never) css_nil))
abbrev s_is_node : Stmt := top 18
abbrev N_is_node : List Str := ["nodes", "value"]
theorem sc_is_node : FnScope ["nodes", "value"] ["nodes", "value"] (defScope s_is_node) := C8.fnScope_by (by decide +kernel)
theorem k_is_node (D : FunD K "is_node" "is_node" (defArgs s_is_node) (defBody s_is_node) (defScope s_is_node) [] [] f fd) (F : Fx mg) (hS : AllS P w Θ shp) : FnG P w K mg base (L2.CX P w) 2 f fd ["nodes", "value"] (SpF P w K Θ 2 f_is_node) := by
  refine def_ok (io := []) (body := b_is_node) D sc_is_node rfl rfl fun cdv A outer s H E hga hr => ?_
  have hN := sc_is_node.nd; have hp := @hp0 P w K mg base ["nodes", "value"] "is_node" (defScope s_is_node) f cdv A outer s H E; have tk := @tkd P w K mg base ["nodes", "value"] "is_node" (defScope s_is_node) f cdv A outer s H E
  exact (css_one (cs_ret (ce_and (ce_isi (kt_str _) rfl F.n_isinstance rfl F.n_str (by decide +kernel) (ha := (ce_var 1))) (ce_one (ce_isin hr (ce_var 1) (ce_var 0))))))
abbrev s_need_node : Stmt := top 19
abbrev N_need_node : List Str := ["nodes", "node"]
theorem sc_need_node : FnScope ["nodes", "node"] ["nodes", "node"] (defScope s_need_node) := C8.fnScope_by (by decide +kernel)
structure Cl_need_node (P : Program) (w : World) (K : PySem.W.Frag) (mg : Str → Option Value) (base : Heap) (Θ : Nat → ObSem) : Prop where
  h_is_node : FnAt P w K mg base Θ "is_node" 2 2 f_is_node
theorem k_need_node (D : FunD K "need_node" "need_node" (defArgs s_need_node) (defBody s_need_node) (defScope s_need_node) [] [] f fd) (F : Fx mg) (Cl : Cl_need_node P w K mg base Θ) (hS : AllS P w Θ shp) : FnG P w K mg base (L2.CX P w) 3 f fd ["nodes", "node"] (SpF P w K Θ 2 f_need_node) := by
  refine def_ok (io := []) (body := b_need_node) D sc_need_node rfl rfl fun cdv A outer s H E hga hr => ?_
  have hN := sc_need_node.nd; have hp := @hp0 P w K mg base ["nodes", "node"] "need_node" (defScope s_need_node) f cdv A outer s H E; have tk := @tkd P w K mg base ["nodes", "node"] "need_node" (defScope s_need_node) f cdv A outer s H E
  exact (css_one (cs_if (ct_not (ct_val (ce_call (Cl.h_is_node.mono (by decide)) hga hr tk rfl rfl (ca_cons (ce_var 0) (ca_cons (ce_var 1) ca_nil))))) (css_one cs_never) css_nil))
abbrev s_is_receivers : Stmt := top 20
abbrev N_is_receivers : List Str := ["nodes", "node", "value", "one"]
theorem sc_is_receivers : FnScope ["nodes", "node", "value", "one"] ["nodes", "node", "value"] (defScope s_is_receivers) := C8.fnScope_by (by decide +kernel)
structure Cl_is_receivers (P : Program) (w : World) (K : PySem.W.Frag) (mg : Str → Option Value) (base : Heap) (Θ : Nat → ObSem) : Prop where
  h_is_ascending : FnAt P w K mg base Θ "is_ascending" 2 1 f_is_ascending
  h_is_node : FnAt P w K mg base Θ "is_node" 2 2 f_is_node
theorem k_is_receivers (D : FunD K "is_receivers" "is_receivers" (defArgs s_is_receivers) (defBody s_is_receivers) (defScope s_is_receivers) [] [] f fd) (F : Fx mg) (Cl : Cl_is_receivers P w K mg base Θ) (hS : AllS P w Θ shp) : FnG P w K mg base (L2.CX P w) 3 f fd ["nodes", "node", "value"] (SpF P w K Θ 3 f_is_receivers) := by
  refine def_ok (io := []) (body := b_is_receivers) D sc_is_receivers rfl rfl fun cdv A outer s H E hga hr => ?_
  have hN := sc_is_receivers.nd; have hp := @hp0 P w K mg base ["nodes", "node", "value", "one"] "is_receivers" (defScope s_is_receivers) f cdv A outer s H E; have tk := @tkd P w K mg base ["nodes", "node", "value", "one"] "is_receivers" (defScope s_is_receivers) f cdv A outer s H E
  exact (css_cons (cs_if (ct_w (cw_or (ct_not (ct_val (ce_isi (kt_list _) rfl F.n_isinstance rfl F.n_list (by decide +kernel) (ha := (ce_var 2))))) (cw_or1 (ct_eq hr (ce_var 2) (ce_lst ca_nil))))) (css_one (cs_ret ce_bl)) css_nil) (css_one (cs_ret (ce_and (ce_all rfl rfl F.n_all (ce_lc (own := [("one", 3)]) rfl hN (ci_any (ce_var 2)) (blkOk_by (N := N_is_receivers) (sc := defScope s_is_receivers) (own := [("one", 3)]) (by decide +kernel)) (fun _ _ _ _ _ => (cg_name hN (by decide))) (fun _ _ _ _ _ => cts_nil) (fun _ _ _ _ _ => (ce_and (ce_call (Cl.h_is_node.mono (by decide)) hga hr tk0 rfl rfl (ca_cons (ce_var 0) (ca_cons (ce_var 3) ca_nil))) (ce_one (ce_ne hr (ce_var 3) (ce_var 1))))))) (ce_one (ce_call (Cl.h_is_ascending.mono (by decide)) hga hr tk rfl rfl (ca_cons (ce_var 2) ca_nil)))))))
abbrev s_is_message : Stmt := top 21
abbrev N_is_message : List Str := ["nodes", "value"]
theorem sc_is_message : FnScope ["nodes", "value"] ["nodes", "value"] (defScope s_is_message) := C8.fnScope_by (by decide +kernel)
structure Cl_is_message (P : Program) (w : World) (K : PySem.W.Frag) (mg : Str → Option Value) (base : Heap) (Θ : Nat → ObSem) : Prop where
  h_is_number : FnAt P w K mg base Θ "is_number" 2 2 f_is_number
  h_is_node : FnAt P w K mg base Θ "is_node" 2 2 f_is_node
theorem k_is_message (D : FunD K "is_message" "is_message" (defArgs s_is_message) (defBody s_is_message) (defScope s_is_message) [] [] f fd) (F : Fx mg) (Cl : Cl_is_message P w K mg base Θ) (hS : AllS P w Θ shp) : FnG P w K mg base (L2.CX P w) 3 f fd ["nodes", "value"] (SpF P w K Θ 2 f_is_message) := by
  refine def_ok (io := []) (body := b_is_message) D sc_is_message rfl rfl fun cdv A outer s H E hga hr => ?_
  have hN := sc_is_message.nd; have hp := @hp0 P w K mg base ["nodes", "value"] "is_message" (defScope s_is_message) f cdv A outer s H E; have tk := @tkd P w K mg base ["nodes", "value"] "is_message" (defScope s_is_message) f cdv A outer s H E
  exact (css_one (cs_ret (ce_and (ce_isi (kt_tuple _) rfl F.n_isinstance rfl F.n_tuple (by decide +kernel) (ha := (ce_var 1))) (ce_and (ce_eq hr (ce_len_ rfl F.n_len (ce_var 1)) ce_int) (ce_and (ce_call (Cl.h_is_node.mono (by decide)) hga hr tk rfl rfl (ca_cons (ce_var 0) (ca_cons (ce_item hr (ce_var 1) ce_int) ca_nil))) (ce_one (ce_call (Cl.h_is_number.mono (by decide)) hga hr tk rfl rfl (ca_cons (ce_item hr (ce_var 1) ce_int) (ca_cons ce_int ca_nil)))))))))
abbrev s_is_event : Stmt := top 22
abbrev N_is_event : List Str := ["nodes", "value", "kind"]
theorem sc_is_event : FnScope ["nodes", "value", "kind"] ["nodes", "value", "kind"] (defScope s_is_event) := C8.fnScope_by (by decide +kernel)
structure Cl_is_event (P : Program) (w : World) (K : PySem.W.Frag) (mg : Str → Option Value) (base : Heap) (Θ : Nat → ObSem) : Prop where
  h_is_node : FnAt P w K mg base Θ "is_node" 2 2 f_is_node
theorem k_is_event (D : FunD K "is_event" "is_event" (defArgs s_is_event) (defBody s_is_event) (defScope s_is_event) [] [] f fd) (F : Fx mg) (Cl : Cl_is_event P w K mg base Θ) (hS : AllS P w Θ shp) : FnG P w K mg base (L2.CX P w) 3 f fd ["nodes", "value", "kind"] (SpF P w K Θ 3 f_is_event) := by
  refine def_ok (io := []) (body := b_is_event) D sc_is_event rfl rfl fun cdv A outer s H E hga hr => ?_
  have hN := sc_is_event.nd; have hp := @hp0 P w K mg base ["nodes", "value", "kind"] "is_event" (defScope s_is_event) f cdv A outer s H E; have tk := @tkd P w K mg base ["nodes", "value", "kind"] "is_event" (defScope s_is_event) f cdv A outer s H E
  exact (css_cons (cs_if (ct_w (cw_or (ct_not (ct_val (ce_isi (kt_tuple _) rfl F.n_isinstance rfl F.n_tuple (by decide +kernel) (ha := (ce_var 1))))) (cw_or (ct_ne hr (ce_len_ rfl F.n_len (ce_var 1)) ce_int) (cw_or1 (ct_not (ct_val (ce_isi (kt_str _) rfl F.n_isinstance rfl F.n_str (by decide +kernel) (ha := (ce_item hr (ce_var 1) ce_int))))))))) (css_one (cs_ret ce_bl)) css_nil) (css_one (cs_ret (ce_and (ce_eq hr (ce_item hr (ce_var 1) ce_int) (ce_var 2)) (ce_one (ce_call (Cl.h_is_node.mono (by decide)) hga hr tk rfl rfl (ca_cons (ce_var 0) (ca_cons (ce_item hr (ce_var 1) ce_int) ca_nil))))))))
abbrev s_is_run : Stmt := top 23
abbrev N_is_run : List Str := ["nodes", "value", "counts", "receivers_of", "opened", "event", "pair", "node"]
theorem sc_is_run : FnScope ["nodes", "value", "counts", "receivers_of", "opened", "event", "pair", "node"] ["nodes", "value"] (defScope s_is_run) := C8.fnScope_by (by decide +kernel)
structure Cl_is_run (P : Program) (w : World) (K : PySem.W.Frag) (mg : Str → Option Value) (base : Heap) (Θ : Nat → ObSem) : Prop where
  h_need_nodes : FnAt P w K mg base Θ "need_nodes" 4 1 f_need_nodes
  h_is_receivers : FnAt P w K mg base Θ "is_receivers" 3 3 f_is_receivers
  h_is_message : FnAt P w K mg base Θ "is_message" 3 2 f_is_message
  h_is_event : FnAt P w K mg base Θ "is_event" 3 3 f_is_event
theorem k_is_run (D : FunD K "is_run" "is_run" (defArgs s_is_run) (defBody s_is_run) (defScope s_is_run) [] [] f fd) (F : Fx mg) (Cl : Cl_is_run P w K mg base Θ) (hS : AllS P w Θ shp) : FnG P w K mg base (L2.CX P w) 5 f fd ["nodes", "value"] (SpF P w K Θ 2 f_is_run) := by
  refine def_ok (io := []) (body := b_is_run) D sc_is_run rfl rfl fun cdv A outer s H E hga hr => ?_
  have hN := sc_is_run.nd; have hp := @hp0 P w K mg base ["nodes", "value", "counts", "receivers_of", "opened", "event", "pair", "node"] "is_run" (defScope s_is_run) f cdv A outer s H E; have tk := @tkd P w K mg base ["nodes", "value", "counts", "receivers_of", "opened", "event", "pair", "node"] "is_run" (defScope s_is_run) f cdv A outer s H E
  exact (css_cons (cs_expr (ce_call (Cl.h_need_nodes.mono (by decide)) hga hr tk rfl rfl (ca_cons (ce_var 0) ca_nil))) (css_cons (cs_if (ct_not (ct_val (ce_isi (kt_list _) rfl F.n_isinstance rfl F.n_list (by decide +kernel) (ha := (ce_var 1))))) (css_one (cs_ret ce_bl)) css_nil) (css_cons (cs_setDc (own := [("node", 7)]) hr rfl hN (by decide) (ci_any (ce_var 0)) (blkOk_by (N := N_is_run) (sc := defScope s_is_run) (own := [("node", 7)]) (by decide +kernel)) (fun _ _ _ _ _ => (cg_name hN (by decide))) (fun _ _ _ _ _ => cts_nil) (fun _ _ _ _ _ => (ce_var 7)) (fun _ _ _ _ _ => ce_int) (sw_trueD rfl rfl rfl rfl)) (css_cons (cs_set hN (by decide) ce_newD) (css_cons (cs_set hN (by decide) ce_newD) (css_cons (cs_for hp rfl (ci_any (ce_var 1)) (cg_name hN (by decide)) (css_one (cs_if (ct_w (cw_and (ct_val (ce_call (Cl.h_is_event.mono (by decide)) hga hr tk rfl rfl (ca_cons (ce_var 0) (ca_cons (ce_var 5) (ca_cons (ce_gstr rfl F.c_SEND) ca_nil))))) (cw_and1 (ct_val (ce_call (Cl.h_is_receivers.mono (by decide)) hga hr tk rfl rfl (ca_cons (ce_var 0) (ca_cons (ce_item hr (ce_var 5) ce_int) (ca_cons (ce_item hr (ce_var 5) ce_int) ca_nil)))))))) (css_cons (cs_augD hr (ce_var 2) (ce_item hr (ce_var 5) ce_int) ce_int) (css_one (cs_put hr (ce_var 3) (ce_tup (ca_cons (ce_item hr (ce_var 5) ce_int) (ca_cons (ce_item hr (ce_var 2) (ce_item hr (ce_var 5) ce_int)) ca_nil))) (ce_item hr (ce_var 5) ce_int)))) (css_one (cs_if (ct_w (cw_and (ct_val (ce_call (Cl.h_is_event.mono (by decide)) hga hr tk rfl rfl (ca_cons (ce_var 0) (ca_cons (ce_var 5) (ca_cons (ce_gstr rfl F.c_OPEN) ca_nil))))) (cw_and1 (ct_val (ce_call (Cl.h_is_message.mono (by decide)) hga hr tk rfl rfl (ca_cons (ce_var 0) (ca_cons (ce_item hr (ce_var 5) ce_int) ca_nil))))))) (css_cons (cs_set hN (by decide) (ce_tup (ca_cons (ce_item hr (ce_var 5) ce_int) (ca_cons (ce_item hr (ce_var 5) ce_int) ca_nil)))) (css_cons (cs_if (ct_w (cw_or (ct_notin hr (ce_item hr (ce_var 5) ce_int) (ce_get2 hr (ce_var 3) (ce_item hr (ce_var 5) ce_int) (ce_lst ca_nil))) (cw_or1 (ct_isin hr (ce_var 6) (ce_var 4))))) (css_one (cs_ret ce_bl)) css_nil) (css_one (cs_put hr (ce_var 4) (ce_var 6) ce_bl)))) (css_one (cs_ret ce_bl))))))) (css_one (cs_ret ce_bl))))))))
abbrev s_need_run : Stmt := top 24
abbrev N_need_run : List Str := ["nodes", "run"]
theorem sc_need_run : FnScope ["nodes", "run"] ["nodes", "run"] (defScope s_need_run) := C8.fnScope_by (by decide +kernel)
structure Cl_need_run (P : Program) (w : World) (K : PySem.W.Frag) (mg : Str → Option Value) (base : Heap) (Θ : Nat → ObSem) : Prop where
  h_is_run : FnAt P w K mg base Θ "is_run" 5 2 f_is_run
theorem k_need_run (D : FunD K "need_run" "need_run" (defArgs s_need_run) (defBody s_need_run) (defScope s_need_run) [] [] f fd) (F : Fx mg) (Cl : Cl_need_run P w K mg base Θ) (hS : AllS P w Θ shp) : FnG P w K mg base (L2.CX P w) 6 f fd ["nodes", "run"] (SpF P w K Θ 2 f_need_run) := by
  refine def_ok (io := []) (body := b_need_run) D sc_need_run rfl rfl fun cdv A outer s H E hga hr => ?_
  have hN := sc_need_run.nd; have hp := @hp0 P w K mg base ["nodes", "run"] "need_run" (defScope s_need_run) f cdv A outer s H E; have tk := @tkd P w K mg base ["nodes", "run"] "need_run" (defScope s_need_run) f cdv A outer s H E
  exact (css_one (cs_if (ct_not (ct_val (ce_call (Cl.h_is_run.mono (by decide)) hga hr tk rfl rfl (ca_cons (ce_var 0) (ca_cons (ce_var 1) ca_nil))))) (css_one cs_never) css_nil))
abbrev s_send_spots : Stmt := top 25
abbrev N_send_spots : List Str := ["run", "counts", "found", "index", "kind", "node", "third"]
theorem sc_send_spots : FnScope ["run", "counts", "found", "index", "kind", "node", "third"] ["run"] (defScope s_send_spots) := C8.fnScope_by (by decide +kernel)
theorem k_send_spots (D : FunD K "send_spots" "send_spots" (defArgs s_send_spots) (defBody s_send_spots) (defScope s_send_spots) [] [] f fd) (F : Fx mg) (hS : AllS P w Θ shp) : FnG P w K mg base (L2.CX P w) 2 f fd ["run"] (SpF P w K Θ 1 f_send_spots) := by
  refine def_ok (io := []) (body := b_send_spots) D sc_send_spots rfl rfl fun cdv A outer s H E hga hr => ?_
  have hN := sc_send_spots.nd; have hp := @hp0 P w K mg base ["run", "counts", "found", "index", "kind", "node", "third"] "send_spots" (defScope s_send_spots) f cdv A outer s H E; have tk := @tkd P w K mg base ["run", "counts", "found", "index", "kind", "node", "third"] "send_spots" (defScope s_send_spots) f cdv A outer s H E
  exact (css_cons (cs_set hN (by decide) ce_newD) (css_cons (cs_set hN (by decide) ce_newD) (css_cons (cs_for hp rfl (ci_enum rfl F.n_enumerate (ce_var 0)) (cg_tup rfl (cgs_cons (cg_name hN (by decide)) (cgs_cons (cg_tup rfl (cgs_cons (cg_name hN (by decide)) (cgs_cons (cg_name hN (by decide)) (cgs_cons (cg_name hN (by decide)) cgs_nil)))) cgs_nil))) (css_one (cs_if (ct_eq hr (ce_var 4) (ce_gstr rfl F.c_SEND)) (css_cons (cs_put hr (ce_var 1) (ce_var 5) (ce_plus (ce_get2 hr (ce_var 1) (ce_var 5) ce_int) ce_int)) (css_one (cs_put hr (ce_var 2) (ce_tup (ca_cons (ce_var 5) (ca_cons (ce_item hr (ce_var 1) (ce_var 5)) ca_nil))) (ce_var 3)))) css_nil))) (css_one (cs_ret (ce_var 2))))))
abbrev s_all_messages : Stmt := top 26
abbrev N_all_messages : List Str := ["run", "spots", "message"]
theorem sc_all_messages : FnScope ["run", "spots", "message"] ["run"] (defScope s_all_messages) := C8.fnScope_by (by decide +kernel)
structure Cl_all_messages (P : Program) (w : World) (K : PySem.W.Frag) (mg : Str → Option Value) (base : Heap) (Θ : Nat → ObSem) : Prop where
  h_send_spots : FnAt P w K mg base Θ "send_spots" 2 1 f_send_spots
theorem k_all_messages (D : FunD K "all_messages" "all_messages" (defArgs s_all_messages) (defBody s_all_messages) (defScope s_all_messages) [] [] f fd) (F : Fx mg) (Cl : Cl_all_messages P w K mg base Θ) (hS : AllS P w Θ shp) : FnG P w K mg base (L2.CX P w) 3 f fd ["run"] (SpF P w K Θ 1 f_all_messages) := by
  refine def_ok (io := []) (body := b_all_messages) D sc_all_messages rfl rfl fun cdv A outer s H E hga hr => ?_
  have hN := sc_all_messages.nd; have hp := @hp0 P w K mg base ["run", "spots", "message"] "all_messages" (defScope s_all_messages) f cdv A outer s H E; have tk := @tkd P w K mg base ["run", "spots", "message"] "all_messages" (defScope s_all_messages) f cdv A outer s H E
  exact (css_cons (cs_set hN (by decide) (ce_call (Cl.h_send_spots.mono (by decide)) hga hr tk rfl rfl (ca_cons (ce_var 0) ca_nil))) (css_one (cs_ret (ce_dc (own := [("message", 2)]) hr rfl hN (ci_any (ce_sorted hr rfl rfl F.n_sorted (ce_var 1))) (blkOk_by (N := N_all_messages) (sc := defScope s_all_messages) (own := [("message", 2)]) (by decide +kernel)) (fun _ _ _ _ _ => (cg_name hN (by decide))) (fun _ _ _ _ _ => cts_nil) (fun _ _ _ _ _ => (ce_var 2)) (fun _ _ _ _ _ => (ce_list rfl F.n_list (ce_item hr (ce_item hr (ce_var 0) (ce_item hr (ce_var 1) (ce_var 2))) ce_int)))))))
abbrev s_predecessors : Stmt := top 28
abbrev N_predecessors : List Str := ["run", "latest", "sends", "found", "index", "event", "node", "steps"]
theorem sc_predecessors : FnScope ["run", "latest", "sends", "found", "index", "event", "node", "steps"] ["run"] (defScope s_predecessors) := C8.fnScope_by (by decide +kernel)
structure Cl_predecessors (P : Program) (w : World) (K : PySem.W.Frag) (mg : Str → Option Value) (base : Heap) (Θ : Nat → ObSem) : Prop where
  h_send_spots : FnAt P w K mg base Θ "send_spots" 2 1 f_send_spots
theorem k_predecessors (D : FunD K "predecessors" "predecessors" (defArgs s_predecessors) (defBody s_predecessors) (defScope s_predecessors) [] [] f fd) (F : Fx mg) (Cl : Cl_predecessors P w K mg base Θ) (hS : AllS P w Θ shp) : FnG P w K mg base (L2.CX P w) 3 f fd ["run"] (SpF P w K Θ 1 f_predecessors) := by
  refine def_ok (io := []) (body := b_predecessors) D sc_predecessors rfl rfl fun cdv A outer s H E hga hr => ?_
  have hN := sc_predecessors.nd; have hp := @hp0 P w K mg base ["run", "latest", "sends", "found", "index", "event", "node", "steps"] "predecessors" (defScope s_predecessors) f cdv A outer s H E; have tk := @tkd P w K mg base ["run", "latest", "sends", "found", "index", "event", "node", "steps"] "predecessors" (defScope s_predecessors) f cdv A outer s H E
  exact (css_cons (cs_set hN (by decide) ce_newD) (css_cons (cs_set hN (by decide) (ce_call (Cl.h_send_spots.mono (by decide)) hga hr tk rfl rfl (ca_cons (ce_var 0) ca_nil))) (css_cons (cs_set hN (by decide) (ce_lst ca_nil)) (css_cons (cs_for hp rfl (ci_enum rfl F.n_enumerate (ce_var 0)) (cg_tup rfl (cgs_cons (cg_name hN (by decide)) (cgs_cons (cg_name hN (by decide)) cgs_nil))) (css_cons (cs_set hN (by decide) (ce_item hr (ce_var 5) ce_int)) (css_cons (cs_set hN (by decide) (ce_if (ct_isin hr (ce_var 6) (ce_var 1)) (ce_lst (ca_cons (ce_item hr (ce_var 1) (ce_var 6)) ca_nil)) (ce_lst ca_nil))) (css_cons (cs_if (ct_w (cw_and (ct_eq hr (ce_item hr (ce_var 5) ce_int) ce_str) (cw_and1 (ct_notin hr (ce_item hr (ce_var 2) (ce_item hr (ce_var 5) ce_int)) (ce_var 7))))) (css_one (cs_expr (ce_append (ce_var 7) (ce_item hr (ce_var 2) (ce_item hr (ce_var 5) ce_int))))) css_nil) (css_cons (cs_expr (ce_append (ce_var 3) (ce_var 7))) (css_one (cs_put hr (ce_var 1) (ce_var 6) (ce_var 4)))))))) (css_one (cs_ret (ce_var 3)))))))
abbrev s_closure : Stmt := top 29
abbrev N_closure : List Str := ["run", "found", "steps", "before", "step"]
theorem sc_closure : FnScope ["run", "found", "steps", "before", "step"] ["run"] (defScope s_closure) := C8.fnScope_by (by decide +kernel)
structure Cl_closure (P : Program) (w : World) (K : PySem.W.Frag) (mg : Str → Option Value) (base : Heap) (Θ : Nat → ObSem) : Prop where
  h_predecessors : FnAt P w K mg base Θ "predecessors" 3 1 f_predecessors
theorem k_closure (D : FunD K "closure" "closure" (defArgs s_closure) (defBody s_closure) (defScope s_closure) [] [] f fd) (F : Fx mg) (Cl : Cl_closure P w K mg base Θ) (hS : AllS P w Θ shp) : FnG P w K mg base (L2.CX P w) 4 f fd ["run"] (SpF P w K Θ 1 f_closure) := by
  refine def_ok (io := []) (body := b_closure) D sc_closure rfl rfl fun cdv A outer s H E hga hr => ?_
  have hN := sc_closure.nd; have hp := @hp0 P w K mg base ["run", "found", "steps", "before", "step"] "closure" (defScope s_closure) f cdv A outer s H E; have tk := @tkd P w K mg base ["run", "found", "steps", "before", "step"] "closure" (defScope s_closure) f cdv A outer s H E
  exact (css_cons (cs_set hN (by decide) (ce_lst ca_nil)) (css_cons (cs_for hp rfl (ci_any (ce_call (Cl.h_predecessors.mono (by decide)) hga hr tk rfl rfl (ca_cons (ce_var 0) ca_nil))) (cg_name hN (by decide)) (css_cons (cs_set hN (by decide) ce_newD) (css_cons (cs_for hp rfl (ci_any (ce_var 2)) (cg_name hN (by decide)) (css_cons (cs_expr (ce_update (ce_var 3) (ce_item hr (ce_var 1) (ce_var 4)))) (css_one (cs_put hr (ce_var 3) (ce_var 4) ce_bl)))) (css_one (cs_expr (ce_append (ce_var 1) (ce_var 3))))))) (css_one (cs_ret (ce_var 1)))))
abbrev s_early_open : Stmt := top 30
abbrev N_early_open : List Str := ["run", "messages", "sends", "before", "opened", "index", "event", "node", "message", "other", "receivers"]
theorem sc_early_open : FnScope ["run", "messages", "sends", "before", "opened", "index", "event", "node", "message", "other", "receivers"] ["run"] (defScope s_early_open) := C8.fnScope_by (by decide +kernel)
structure Cl_early_open (P : Program) (w : World) (K : PySem.W.Frag) (mg : Str → Option Value) (base : Heap) (Θ : Nat → ObSem) : Prop where
  h_send_spots : FnAt P w K mg base Θ "send_spots" 2 1 f_send_spots
  h_all_messages : FnAt P w K mg base Θ "all_messages" 3 1 f_all_messages
  h_closure : FnAt P w K mg base Θ "closure" 4 1 f_closure
theorem k_early_open (D : FunD K "early_open" "early_open" (defArgs s_early_open) (defBody s_early_open) (defScope s_early_open) [] [] f fd) (F : Fx mg) (Cl : Cl_early_open P w K mg base Θ) (hS : AllS P w Θ shp) : FnG P w K mg base (L2.CX P w) 5 f fd ["run"] (SpF P w K Θ 1 f_early_open) := by
  refine def_ok (io := []) (body := b_early_open) D sc_early_open rfl rfl fun cdv A outer s H E hga hr => ?_
  have hN := sc_early_open.nd; have hp := @hp0 P w K mg base ["run", "messages", "sends", "before", "opened", "index", "event", "node", "message", "other", "receivers"] "early_open" (defScope s_early_open) f cdv A outer s H E; have tk := @tkd P w K mg base ["run", "messages", "sends", "before", "opened", "index", "event", "node", "message", "other", "receivers"] "early_open" (defScope s_early_open) f cdv A outer s H E
  exact (css_cons (cs_par3 rfl hN (by decide) (ca_cons (ce_call (Cl.h_all_messages.mono (by decide)) hga hr tk rfl rfl (ca_cons (ce_var 0) ca_nil)) (ca_cons (ce_call (Cl.h_send_spots.mono (by decide)) hga hr tk rfl rfl (ca_cons (ce_var 0) ca_nil)) (ca_cons (ce_call (Cl.h_closure.mono (by decide)) hga hr tk rfl rfl (ca_cons (ce_var 0) ca_nil)) ca_nil)))) (css_cons (cs_set hN (by decide) ce_newD) (css_cons (cs_for hp rfl (ci_enum rfl F.n_enumerate (ce_var 0)) (cg_tup rfl (cgs_cons (cg_name hN (by decide)) (cgs_cons (cg_name hN (by decide)) cgs_nil))) (css_one (cs_if (ct_eq hr (ce_item hr (ce_var 6) ce_int) ce_str) (css_cons (cs_par2 rfl hN (by decide) (ca_cons (ce_item hr (ce_var 6) ce_int) (ca_cons (ce_item hr (ce_var 6) ce_int) ca_nil))) (css_cons (cs_for hp rfl (ci_items (ce_var 1)) (cg_tup rfl (cgs_cons (cg_name hN (by decide)) (cgs_cons (cg_name hN (by decide)) cgs_nil))) (css_one (cs_if (ct_w (cw_and (ct_isin hr (ce_var 7) (ce_var 10)) (cw_and (ct_isin hr (ce_item hr (ce_var 2) (ce_var 9)) (ce_item hr (ce_var 3) (ce_item hr (ce_var 2) (ce_var 8)))) (cw_and1 (ct_notin hr (ce_tup (ca_cons (ce_var 7) (ca_cons (ce_var 9) ca_nil))) (ce_var 4)))))) (css_one (cs_ret (ce_var 5))) css_nil))) (css_one (cs_put hr (ce_var 4) (ce_tup (ca_cons (ce_var 7) (ca_cons (ce_var 8) ca_nil))) ce_bl)))) css_nil))) (css_one (cs_ret ce_non)))))
abbrev s_need_causal : Stmt := top 32
abbrev N_need_causal : List Str := ["nodes", "run", "index"]
theorem sc_need_causal : FnScope ["nodes", "run", "index"] ["nodes", "run"] (defScope s_need_causal) := C8.fnScope_by (by decide +kernel)
structure Cl_need_causal (P : Program) (w : World) (K : PySem.W.Frag) (mg : Str → Option Value) (base : Heap) (Θ : Nat → ObSem) : Prop where
  h_need_run : FnAt P w K mg base Θ "need_run" 6 2 f_need_run
  h_early_open : FnAt P w K mg base Θ "early_open" 5 1 f_early_open
theorem k_need_causal (D : FunD K "need_causal" "need_causal" (defArgs s_need_causal) (defBody s_need_causal) (defScope s_need_causal) [] [] f fd) (F : Fx mg) (Cl : Cl_need_causal P w K mg base Θ) (hS : AllS P w Θ shp) : FnG P w K mg base (L2.CX P w) 7 f fd ["nodes", "run"] (SpF P w K Θ 2 f_need_causal) := by
  refine def_ok (io := []) (body := b_need_causal) D sc_need_causal rfl rfl fun cdv A outer s H E hga hr => ?_
  have hN := sc_need_causal.nd; have hp := @hp0 P w K mg base ["nodes", "run", "index"] "need_causal" (defScope s_need_causal) f cdv A outer s H E; have tk := @tkd P w K mg base ["nodes", "run", "index"] "need_causal" (defScope s_need_causal) f cdv A outer s H E
  exact (css_cons (cs_expr (ce_call (Cl.h_need_run.mono (by decide)) hga hr tk rfl rfl (ca_cons (ce_var 0) (ca_cons (ce_var 1) ca_nil)))) (css_cons (cs_set hN (by decide) (ce_call (Cl.h_early_open.mono (by decide)) hga hr tk rfl rfl (ca_cons (ce_var 1) ca_nil))) (css_one (cs_if (ct_notN (ce_var 2)) (css_one cs_never) css_nil))))
abbrev s_closed_of : Stmt := top 33
abbrev N_closed_of : List Str := ["run", "node", "opened", "sent", "event", "message", "receivers"]
theorem sc_closed_of : FnScope ["run", "node", "opened", "sent", "event", "message", "receivers"] ["run", "node"] (defScope s_closed_of) := C8.fnScope_by (by decide +kernel)
structure Cl_closed_of (P : Program) (w : World) (K : PySem.W.Frag) (mg : Str → Option Value) (base : Heap) (Θ : Nat → ObSem) : Prop where
  h_all_messages : FnAt P w K mg base Θ "all_messages" 3 1 f_all_messages
theorem k_closed_of (D : FunD K "closed_of" "closed_of" (defArgs s_closed_of) (defBody s_closed_of) (defScope s_closed_of) [] [] f fd) (F : Fx mg) (Cl : Cl_closed_of P w K mg base Θ) (hS : AllS P w Θ shp) : FnG P w K mg base (L2.CX P w) 4 f fd ["run", "node"] (SpF P w K Θ 2 f_closed_of) := by
  refine def_ok (io := []) (body := b_closed_of) D sc_closed_of rfl rfl fun cdv A outer s H E hga hr => ?_
  have hN := sc_closed_of.nd; have hp := @hp0 P w K mg base ["run", "node", "opened", "sent", "event", "message", "receivers"] "closed_of" (defScope s_closed_of) f cdv A outer s H E; have tk := @tkd P w K mg base ["run", "node", "opened", "sent", "event", "message", "receivers"] "closed_of" (defScope s_closed_of) f cdv A outer s H E
  exact (css_cons (cs_set hN (by decide) (ce_lc (own := [("event", 4)]) rfl hN (ci_any (ce_var 0)) (blkOk_by (N := N_closed_of) (sc := defScope s_closed_of) (own := [("event", 4)]) (by decide +kernel)) (fun _ _ _ _ _ => (cg_name hN (by decide))) (fun _ _ _ _ _ => (cts_one (ct_w (cw_and (ct_eq hr (ce_item hr (ce_var 4) ce_int) ce_str) (cw_and1 (ct_eq hr (ce_item hr (ce_var 4) ce_int) (ce_var 1))))))) (fun _ _ _ _ _ => (ce_item hr (ce_var 4) ce_int)))) (css_cons (cs_setLc (own := [("message", 5), ("receivers", 6)]) rfl hN (by decide) (ci_items (ce_call (Cl.h_all_messages.mono (by decide)) hga hr tk rfl rfl (ca_cons (ce_var 0) ca_nil))) (blkOk_by (N := N_closed_of) (sc := defScope s_closed_of) (own := [("message", 5), ("receivers", 6)]) (by decide +kernel)) (fun _ _ _ _ _ => (cg_tup rfl (cgs_cons (cg_name hN (by decide)) (cgs_cons (cg_name hN (by decide)) cgs_nil)))) (fun _ _ _ _ _ => (cts_one (ct_isin hr (ce_var 1) (ce_var 6)))) (fun _ _ _ _ _ => (ce_var 5)) (sw_true rfl rfl rfl rfl)) (css_one (cs_ret (ce_sorted hr rfl rfl F.n_sorted (ce_lc (own := [("message", 5)]) rfl hN (ci_any (ce_var 3)) (blkOk_by (N := N_closed_of) (sc := defScope s_closed_of) (own := [("message", 5)]) (by decide +kernel)) (fun _ _ _ _ _ => (cg_name hN (by decide))) (fun _ _ _ _ _ => (cts_one (ct_notin hr (ce_var 5) (ce_var 2)))) (fun _ _ _ _ _ => (ce_var 5))))))))
abbrev s_sent_before : Stmt := top 34
abbrev N_sent_before : List Str := ["run", "messages", "before", "sends", "one", "other"]
theorem sc_sent_before : FnScope ["run", "messages", "before", "sends", "one", "other"] ["run", "messages"] (defScope s_sent_before) := C8.fnScope_by (by decide +kernel)
structure Cl_sent_before (P : Program) (w : World) (K : PySem.W.Frag) (mg : Str → Option Value) (base : Heap) (Θ : Nat → ObSem) : Prop where
  h_send_spots : FnAt P w K mg base Θ "send_spots" 2 1 f_send_spots
  h_closure : FnAt P w K mg base Θ "closure" 4 1 f_closure
theorem k_sent_before (D : FunD K "sent_before" "sent_before" (defArgs s_sent_before) (defBody s_sent_before) (defScope s_sent_before) [] [] f fd) (F : Fx mg) (Cl : Cl_sent_before P w K mg base Θ) (hS : AllS P w Θ shp) : FnG P w K mg base (L2.CX P w) 5 f fd ["run", "messages"] (SpF P w K Θ 2 f_sent_before) := by
  refine def_ok (io := []) (body := b_sent_before) D sc_sent_before rfl rfl fun cdv A outer s H E hga hr => ?_
  have hN := sc_sent_before.nd; have hp := @hp0 P w K mg base ["run", "messages", "before", "sends", "one", "other"] "sent_before" (defScope s_sent_before) f cdv A outer s H E; have tk := @tkd P w K mg base ["run", "messages", "before", "sends", "one", "other"] "sent_before" (defScope s_sent_before) f cdv A outer s H E
  exact (css_cons (cs_parN rfl rfl (by decide) (cns_cons hN (cns_cons hN cns_nil)) (ca_cons (ce_call (Cl.h_closure.mono (by decide)) hga hr tk rfl rfl (ca_cons (ce_var 0) ca_nil)) (ca_cons (ce_call (Cl.h_send_spots.mono (by decide)) hga hr tk rfl rfl (ca_cons (ce_var 0) ca_nil)) ca_nil))) (css_one (cs_ret (ce_dc (own := [("one", 4)]) hr rfl hN (ci_any (ce_var 1)) (blkOk_by (N := N_sent_before) (sc := defScope s_sent_before) (own := [("one", 4)]) (by decide +kernel)) (fun _ _ _ _ _ => (cg_name hN (by decide))) (fun _ _ _ _ _ => cts_nil) (fun _ _ _ _ _ => (ce_var 4)) (fun _ _ _ _ _ => (ce_lc (own := [("other", 5)]) rfl hN (ci_any (ce_var 1)) (blkOk_by (own := [("other", 5)]) (by kernel_rfl)) (fun _ _ _ _ _ => (cg_name hN (by decide))) (fun _ _ _ _ _ => (cts_one (ct_isin hr (ce_item hr (ce_var 3) (ce_var 5)) (ce_item hr (ce_var 2) (ce_item hr (ce_var 3) (ce_var 4)))))) (fun _ _ _ _ _ => (ce_var 5))))))))
abbrev s_next_opens : Stmt := top 35
abbrev N_next_opens : List Str := ["nodes", "run", "found", "node", "earlier", "message"]
theorem sc_next_opens : FnScope ["nodes", "run", "found", "node", "earlier", "message"] ["nodes", "run"] (defScope s_next_opens) := C8.fnScope_by (by decide +kernel)
structure Cl_next_opens (P : Program) (w : World) (K : PySem.W.Frag) (mg : Str → Option Value) (base : Heap) (Θ : Nat → ObSem) : Prop where
  h_need_causal : FnAt P w K mg base Θ "need_causal" 7 2 f_need_causal
  h_closed_of : FnAt P w K mg base Θ "closed_of" 4 2 f_closed_of
  h_sent_before : FnAt P w K mg base Θ "sent_before" 5 2 f_sent_before
theorem k_next_opens (D : FunD K "next_opens" "next_opens" (defArgs s_next_opens) (defBody s_next_opens) (defScope s_next_opens) [] [] f fd) (F : Fx mg) (Cl : Cl_next_opens P w K mg base Θ) (hS : AllS P w Θ shp) : FnG P w K mg base (L2.CX P w) 8 f fd ["nodes", "run"] (SpF P w K Θ 2 f_next_opens) := by
  refine def_ok (io := []) (body := b_next_opens) D sc_next_opens rfl rfl fun cdv A outer s H E hga hr => ?_
  have hN := sc_next_opens.nd; have hp := @hp0 P w K mg base ["nodes", "run", "found", "node", "earlier", "message"] "next_opens" (defScope s_next_opens) f cdv A outer s H E; have tk := @tkd P w K mg base ["nodes", "run", "found", "node", "earlier", "message"] "next_opens" (defScope s_next_opens) f cdv A outer s H E
  exact (css_cons (cs_expr (ce_call (Cl.h_need_causal.mono (by decide)) hga hr tk rfl rfl (ca_cons (ce_var 0) (ca_cons (ce_var 1) ca_nil)))) (css_cons (cs_set hN (by decide) (ce_lst ca_nil)) (css_cons (cs_for hp rfl (ci_any (ce_var 0)) (cg_name hN (by decide)) (css_cons (cs_set hN (by decide) (ce_call (Cl.h_sent_before.mono (by decide)) hga hr tk rfl rfl (ca_cons (ce_var 1) (ca_cons (ce_call (Cl.h_closed_of.mono (by decide)) hga hr tk rfl rfl (ca_cons (ce_var 1) (ca_cons (ce_var 3) ca_nil))) ca_nil)))) (css_one (cs_expr (ce_extend (ce_var 2) (ce_lc (own := [("message", 5)]) rfl hN (ci_any (ce_sorted hr rfl rfl F.n_sorted (ce_var 4))) (blkOk_by (N := N_next_opens) (sc := defScope s_next_opens) (own := [("message", 5)]) (by decide +kernel)) (fun _ _ _ _ _ => (cg_name hN (by decide))) (fun _ _ _ _ _ => (cts_one (ct_eq hr (ce_item hr (ce_var 4) (ce_var 5)) (ce_lst ca_nil)))) (fun _ _ _ _ _ => (ce_tup (ca_cons (ce_var 3) (ca_cons (ce_var 5) ca_nil)))))))))) (css_one (cs_ret (ce_var 2))))))
abbrev s_closed_messages : Stmt := top 36
abbrev N_closed_messages : List Str := ["nodes", "run", "node"]
theorem sc_closed_messages : FnScope ["nodes", "run", "node"] ["nodes", "run", "node"] (defScope s_closed_messages) := C8.fnScope_by (by decide +kernel)
structure Cl_closed_messages (P : Program) (w : World) (K : PySem.W.Frag) (mg : Str → Option Value) (base : Heap) (Θ : Nat → ObSem) : Prop where
  h_need_node : FnAt P w K mg base Θ "need_node" 3 2 f_need_node
  h_need_causal : FnAt P w K mg base Θ "need_causal" 7 2 f_need_causal
  h_closed_of : FnAt P w K mg base Θ "closed_of" 4 2 f_closed_of
theorem k_closed_messages (D : FunD K "closed_messages" "closed_messages" (defArgs s_closed_messages) (defBody s_closed_messages) (defScope s_closed_messages) [] [] f fd) (F : Fx mg) (Cl : Cl_closed_messages P w K mg base Θ) (hS : AllS P w Θ shp) : FnG P w K mg base (L2.CX P w) 8 f fd ["nodes", "run", "node"] (SpF P w K Θ 3 f_closed_messages) := by
  refine def_ok (io := []) (body := b_closed_messages) D sc_closed_messages rfl rfl fun cdv A outer s H E hga hr => ?_
  have hN := sc_closed_messages.nd; have hp := @hp0 P w K mg base ["nodes", "run", "node"] "closed_messages" (defScope s_closed_messages) f cdv A outer s H E; have tk := @tkd P w K mg base ["nodes", "run", "node"] "closed_messages" (defScope s_closed_messages) f cdv A outer s H E
  exact (css_cons (cs_expr (ce_call (Cl.h_need_causal.mono (by decide)) hga hr tk rfl rfl (ca_cons (ce_var 0) (ca_cons (ce_var 1) ca_nil)))) (css_cons (cs_expr (ce_call (Cl.h_need_node.mono (by decide)) hga hr tk rfl rfl (ca_cons (ce_var 0) (ca_cons (ce_var 2) ca_nil)))) (css_one (cs_ret (ce_call (Cl.h_closed_of.mono (by decide)) hga hr tk rfl rfl (ca_cons (ce_var 1) (ca_cons (ce_var 2) ca_nil)))))))
abbrev s__law_jar : Stmt := top 38
abbrev N__law_jar : List Str := ["script", "k", "cell"]
theorem sc__law_jar : FnScope ["script", "k", "cell"] ["script", "k"] (defScope s__law_jar) := C8.fnScope_by (by decide +kernel)
theorem k__law_jar (D : FunD K "_law_jar" "_law_jar" (defArgs s__law_jar) (defBody s__law_jar) (defScope s__law_jar) [] [] f fd) (F : Fx mg) (hS : AllS P w Θ shp) : FnG P w K mg base (L2.CX P w) 2 f fd ["script", "k"] (SpF P w K Θ 2 f__law_jar) := by
  refine def_ok (io := []) (body := b__law_jar) D sc__law_jar rfl rfl fun cdv A outer s H E hga hr => ?_
  have hN := sc__law_jar.nd; have hp := @hp0 P w K mg base ["script", "k", "cell"] "_law_jar" (defScope s__law_jar) f cdv A outer s H E; have tk := @tkd P w K mg base ["script", "k", "cell"] "_law_jar" (defScope s__law_jar) f cdv A outer s H E
  exact (css_cons (cs_set hN (by decide) (ce_if (ct_ltA hr (ce_var 1) (ce_len_ rfl F.n_len (ce_var 0))) (ce_item hr (ce_var 0) (ce_var 1)) ce_int)) (css_one (cs_ret (ce_lst (ca_cons (ce_max2 rfl rfl F.n_max (ca_cons ce_int (ca_cons (ce_sub (ce_abs rfl F.n_abs (ce_var 2)) (ce_pow ce_int ce_int)) ca_nil))) (ca_cons (ce_plus (ce_plus (ce_mul (ce_mod (ce_var 2) (ce_plus (ce_pow ce_int ce_int) ce_int)) ce_int) (ce_mul ce_int (ce_var 1))) ce_int) (ca_cons ce_int ca_nil)))))))
abbrev s__law_pick : Stmt := top 39
abbrev N__law_pick : List Str := ["jar", "many", "found", "stream"]
theorem sc__law_pick : FnScope ["jar", "many", "found", "stream"] ["jar", "many"] (defScope s__law_pick) := C8.fnScope_by (by decide +kernel)
theorem k__law_pick (D : FunD K "_law_pick" "_law_pick" (defArgs s__law_pick) (defBody s__law_pick) (defScope s__law_pick) [] [] f fd) (F : Fx mg) (hS : AllS P w Θ shp) : FnG P w K mg base (L2.CX P w) 2 f fd ["jar", "many"] (SpF P w K Θ 2 f__law_pick) := by
  refine def_ok (io := [0]) (body := b__law_pick) D sc__law_pick rfl rfl fun cdv A outer s H E hga hr => ?_
  have hN := sc__law_pick.nd; have hp := @hp0 P w K mg base ["jar", "many", "found", "stream"] "_law_pick" (defScope s__law_pick) f cdv A outer s H E; have tk := @tkd P w K mg base ["jar", "many", "found", "stream"] "_law_pick" (defScope s__law_pick) f cdv A outer s H E
  exact (css_cons (cs_if (ct_gtA hr (ce_item hr (ce_var 0) ce_int) ce_int) (css_cons (cs_set hN (by decide) (ce_mod (ce_item hr (ce_var 0) ce_int) (ce_var 1))) (css_cons (cs_put hr (ce_var 0) ce_int (ce_fdiv (ce_item hr (ce_var 0) ce_int) (ce_var 1))) (css_one (cs_ret (ce_var 2))))) css_nil) (css_cons (cs_put hr (ce_var 0) ce_int (ce_plus (ce_item hr (ce_var 0) ce_int) ce_int)) (css_cons (cs_set hN (by decide) (ce_mod (ce_pow (ce_plus (ce_item hr (ce_var 0) ce_int) (ce_mul ce_int (ce_item hr (ce_var 0) ce_int))) ce_int) (ce_plus (ce_pow ce_int ce_int) ce_int))) (css_cons (cs_set hN (by decide) (ce_mod (ce_pow (ce_plus (ce_var 3) (ce_mul ce_int (ce_item hr (ce_var 0) ce_int))) ce_int) (ce_plus (ce_pow ce_int ce_int) ce_int))) (css_one (cs_ret (ce_mod (ce_fdiv (ce_var 3) ce_int) (ce_var 1))))))))
abbrev s__law_folk : Stmt := top 40
abbrev N__law_folk : List Str := ["jar", "most", "names", "found", "k"]
theorem sc__law_folk : FnScope ["jar", "most", "names", "found", "k"] ["jar", "most"] (defScope s__law_folk) := C8.fnScope_by (by decide +kernel)
structure Cl__law_folk (P : Program) (w : World) (K : PySem.W.Frag) (mg : Str → Option Value) (base : Heap) (Θ : Nat → ObSem) : Prop where
  h__law_pick : FnAt P w K mg base Θ "_law_pick" 2 2 f__law_pick
theorem k__law_folk (D : FunD K "_law_folk" "_law_folk" (defArgs s__law_folk) (defBody s__law_folk) (defScope s__law_folk) [] [] f fd) (F : Fx mg) (Cl : Cl__law_folk P w K mg base Θ) (hS : AllS P w Θ shp) : FnG P w K mg base (L2.CX P w) 3 f fd ["jar", "most"] (SpF P w K Θ 2 f__law_folk) := by
  refine def_ok (io := [0]) (body := b__law_folk) D sc__law_folk rfl rfl fun cdv A outer s H E hga hr => ?_
  have hN := sc__law_folk.nd; have hp := @hp0 P w K mg base ["jar", "most", "names", "found", "k"] "_law_folk" (defScope s__law_folk) f cdv A outer s H E; have tk := @tkd P w K mg base ["jar", "most", "names", "found", "k"] "_law_folk" (defScope s__law_folk) f cdv A outer s H E
  exact (css_cons (cs_set hN (by decide) (ce_lst (ca_cons ce_str (ca_cons ce_str (ca_cons ce_str (ca_cons ce_str (ca_cons ce_str (ca_cons ce_str (ca_cons ce_str (ca_cons ce_str (ca_cons ce_str (ca_cons ce_str (ca_cons ce_str (ca_cons ce_str (ca_cons ce_str (ca_cons ce_str ca_nil)))))))))))))))) (css_cons (cs_setLc (own := [("k", 4)]) rfl hN (by decide) (ci_range rfl F.n_range (ce_plus ce_int (ce_call (Cl.h__law_pick.mono (by decide)) hga hr tk rfl rfl (ca_cons (ce_var 0) (ca_cons (ce_sub (ce_var 1) ce_int) ca_nil))))) (blkOk_by (N := N__law_folk) (sc := defScope s__law_folk) (own := [("k", 4)]) (by decide +kernel)) (fun _ _ _ _ _ => (cg_name hN (by decide))) (fun _ _ _ _ _ => cts_nil) (fun _ _ _ _ _ => (ce_popAt (ce_var 2) (ce_call (Cl.h__law_pick.mono (by decide)) hga hr tk0 rfl rfl (ca_cons (ce_var 0) (ca_cons (ce_len_ rfl F.n_len (ce_var 2)) ca_nil))))) (sw_true rfl rfl rfl rfl)) (css_one (cs_ret (ce_sorted hr rfl rfl F.n_sorted (ce_var 3))))))
abbrev s__law_some : Stmt := top 41
abbrev N__law_some : List Str := ["jar", "nodes", "node", "others", "way", "found", "other"]
theorem sc__law_some : FnScope ["jar", "nodes", "node", "others", "way", "found", "other"] ["jar", "nodes", "node"] (defScope s__law_some) := C8.fnScope_by (by decide +kernel)
structure Cl__law_some (P : Program) (w : World) (K : PySem.W.Frag) (mg : Str → Option Value) (base : Heap) (Θ : Nat → ObSem) : Prop where
  h__law_pick : FnAt P w K mg base Θ "_law_pick" 2 2 f__law_pick
theorem k__law_some (D : FunD K "_law_some" "_law_some" (defArgs s__law_some) (defBody s__law_some) (defScope s__law_some) [] [] f fd) (F : Fx mg) (Cl : Cl__law_some P w K mg base Θ) (hS : AllS P w Θ shp) : FnG P w K mg base (L2.CX P w) 3 f fd ["jar", "nodes", "node"] (SpF P w K Θ 3 f__law_some) := by
  refine def_ok (io := [0]) (body := b__law_some) D sc__law_some rfl rfl fun cdv A outer s H E hga hr => ?_
  have hN := sc__law_some.nd; have hp := @hp0 P w K mg base ["jar", "nodes", "node", "others", "way", "found", "other"] "_law_some" (defScope s__law_some) f cdv A outer s H E; have tk := @tkd P w K mg base ["jar", "nodes", "node", "others", "way", "found", "other"] "_law_some" (defScope s__law_some) f cdv A outer s H E
  exact (css_cons (cs_setLc (own := [("other", 6)]) rfl hN (by decide) (ci_any (ce_var 1)) (blkOk_by (N := N__law_some) (sc := defScope s__law_some) (own := [("other", 6)]) (by decide +kernel)) (fun _ _ _ _ _ => (cg_name hN (by decide))) (fun _ _ _ _ _ => (cts_one (ct_ne hr (ce_var 6) (ce_var 2)))) (fun _ _ _ _ _ => (ce_var 6)) (sw_true rfl rfl rfl rfl)) (css_cons (cs_set hN (by decide) (ce_call (Cl.h__law_pick.mono (by decide)) hga hr tk rfl rfl (ca_cons (ce_var 0) (ca_cons ce_int ca_nil)))) (css_cons (cs_if (ct_eq hr (ce_var 4) ce_int) (css_one (cs_ret (ce_var 3))) css_nil) (css_cons (cs_if (ct_eq hr (ce_var 4) ce_int) (css_cons (cs_setLc (own := [("other", 6)]) rfl hN (by decide) (ci_any (ce_var 3)) (blkOk_by (N := N__law_some) (sc := defScope s__law_some) (own := [("other", 6)]) (by decide +kernel)) (fun _ _ _ _ _ => (cg_name hN (by decide))) (fun _ _ _ _ _ => (cts_one (ct_eq hr (ce_call (Cl.h__law_pick.mono (by decide)) hga hr tk0 rfl rfl (ca_cons (ce_var 0) (ca_cons ce_int ca_nil))) ce_int))) (fun _ _ _ _ _ => (ce_var 6)) (sw_true rfl rfl rfl rfl)) (css_one (cs_if (ct_ne hr (ce_var 5) (ce_lst ca_nil)) (css_one (cs_ret (ce_var 5))) css_nil))) css_nil) (css_one (cs_ret (ce_lst (ca_cons (ce_item hr (ce_var 3) (ce_call (Cl.h__law_pick.mono (by decide)) hga hr tk rfl rfl (ca_cons (ce_var 0) (ca_cons (ce_len_ rfl F.n_len (ce_var 3)) ca_nil)))) ca_nil))))))))
abbrev s__law_told : Stmt := top 42
abbrev N__law_told : List Str := ["nodes", "node"]
theorem sc__law_told : FnScope ["nodes", "node"] ["nodes"] (defScope s__law_told) := C8.fnScope_by (by decide +kernel)
theorem k__law_told (D : FunD K "_law_told" "_law_told" (defArgs s__law_told) (defBody s__law_told) (defScope s__law_told) [] [] f fd) (F : Fx mg) (hS : AllS P w Θ shp) : FnG P w K mg base (L2.CX P w) 2 f fd ["nodes"] (SpF P w K Θ 1 f__law_told) := by
  refine def_ok (io := []) (body := b__law_told) D sc__law_told rfl rfl fun cdv A outer s H E hga hr => ?_
  have hN := sc__law_told.nd; have hp := @hp0 P w K mg base ["nodes", "node"] "_law_told" (defScope s__law_told) f cdv A outer s H E; have tk := @tkd P w K mg base ["nodes", "node"] "_law_told" (defScope s__law_told) f cdv A outer s H E
  exact (css_one (cs_ret (ce_disp (ks := ["events", "past", "sends", "opens", "nodes"]) (ss := [.l, .o 1, .d, .d, .s]) hS rfl hdisp (by decide) (by decide) (cps_cons (ce_lst ca_nil) (cps_cons (ce_de (own := [("node", 1)]) (hS 1) rfl hN rfl F.n_dict (ci_any (ce_var 0)) (blkOk_by (N := N__law_told) (sc := defScope s__law_told) (own := [("node", 1)]) (by decide +kernel)) (fun _ _ _ _ _ => (cg_name hN (by decide))) (fun _ _ _ _ _ => (ce_var 1))) (cps_cons ce_newD (cps_cons ce_newD (cps_cons (ce_var 0) cps_nil))))))))
abbrev s__law_sent : Stmt := top 43
abbrev N__law_sent : List Str := ["state", "node", "receivers", "number", "index", "sender", "count"]
theorem sc__law_sent : FnScope ["state", "node", "receivers", "number", "index", "sender", "count"] ["state", "node", "receivers"] (defScope s__law_sent) := C8.fnScope_by (by decide +kernel)
theorem k__law_sent (D : FunD K "_law_sent" "_law_sent" (defArgs s__law_sent) (defBody s__law_sent) (defScope s__law_sent) [] [] f fd) (F : Fx mg) (hS : AllS P w Θ shp) : FnG P w K mg base (L2.CX P w) 2 f fd ["state", "node", "receivers"] (SpF P w K Θ 3 f__law_sent) := by
  refine def_ok (io := [0]) (body := b__law_sent) D sc__law_sent rfl rfl fun cdv A outer s H E hga hr => ?_
  have hN := sc__law_sent.nd; have hp := @hp0 P w K mg base ["state", "node", "receivers", "number", "index", "sender", "count"] "_law_sent" (defScope s__law_sent) f cdv A outer s H E; have tk := @tkd P w K mg base ["state", "node", "receivers", "number", "index", "sender", "count"] "_law_sent" (defScope s__law_sent) f cdv A outer s H E
  exact (css_cons (cs_set hN (by decide) (ce_bor hS.t (ce_plus ce_int (ce_len_ rfl F.n_len (ce_lc (own := [("sender", 5), ("count", 6)]) rfl hN (ci_any (ce_item hr (ce_var 0) ce_str)) (blkOk_by (N := N__law_sent) (sc := defScope s__law_sent) (own := [("sender", 5), ("count", 6)]) (by decide +kernel)) (fun _ _ _ _ _ => (cg_tup rfl (cgs_cons (cg_name hN (by decide)) (cgs_cons (cg_name hN (by decide)) cgs_nil)))) (fun _ _ _ _ _ => (cts_one (ct_eq hr (ce_var 5) (ce_var 1)))) (fun _ _ _ _ _ => ce_int)))))) (css_cons (cs_set hN (by decide) (ce_bor hS.t (ce_len_ rfl F.n_len (ce_item hr (ce_var 0) ce_str)))) (css_cons (cs_pappend hS (cp_step hr (cp_base 0) cq_str) (ce_tup (ca_cons ce_str (ca_cons (ce_var 1) (ca_cons (ce_list rfl F.n_list (ce_var 2)) ca_nil))))) (css_cons (cs_pp hS hr (cp_step hr (cp_step hr (cp_base 0) cq_str) (cq_var 1)) (ce_var 4) ce_bl) (css_cons (cs_pp hS hr (cp_step hr (cp_base 0) cq_str) (ce_tup (ca_cons (ce_var 1) (ca_cons (ce_var 3) ca_nil))) (ce_tup (ca_cons (ce_list rfl F.n_list (ce_var 2)) (ca_cons (ce_var 4) (ca_cons (ce_bor hS.t (ce_copyD rfl F.n_dict (ce_item hr (ce_item hr (ce_var 0) ce_str) (ce_var 1)))) ca_nil))))) (css_one (cs_ret (ce_tup (ca_cons (ce_var 1) (ca_cons (ce_var 3) ca_nil))))))))))
abbrev s__law_opened : Stmt := top 44
abbrev N__law_opened : List Str := ["state", "node", "message", "index"]
theorem sc__law_opened : FnScope ["state", "node", "message", "index"] ["state", "node", "message"] (defScope s__law_opened) := C8.fnScope_by (by decide +kernel)
theorem k__law_opened (D : FunD K "_law_opened" "_law_opened" (defArgs s__law_opened) (defBody s__law_opened) (defScope s__law_opened) [] [] f fd) (F : Fx mg) (hS : AllS P w Θ shp) : FnG P w K mg base (L2.CX P w) 2 f fd ["state", "node", "message"] (SpF P w K Θ 3 f__law_opened) := by
  refine def_ok (io := [0]) (body := b__law_opened) D sc__law_opened rfl rfl fun cdv A outer s H E hga hr => ?_
  have hN := sc__law_opened.nd; have hp := @hp0 P w K mg base ["state", "node", "message", "index"] "_law_opened" (defScope s__law_opened) f cdv A outer s H E; have tk := @tkd P w K mg base ["state", "node", "message", "index"] "_law_opened" (defScope s__law_opened) f cdv A outer s H E
  exact (css_cons (cs_set hN (by decide) (ce_bor hS.t (ce_len_ rfl F.n_len (ce_item hr (ce_var 0) ce_str)))) (css_cons (cs_pappend hS (cp_step hr (cp_base 0) cq_str) (ce_tup (ca_cons ce_str (ca_cons (ce_var 1) (ca_cons (ce_var 2) ca_nil))))) (css_cons (cs_pu hS (cp_step hr (cp_step hr (cp_base 0) cq_str) (cq_var 1)) (cq_ix (cq_get hS hr (cp_step hr (cp_base 0) cq_str) (cq_var 2)) cq_int)) (css_cons (cs_pp hS hr (cp_step hr (cp_step hr (cp_base 0) cq_str) (cq_var 1)) (ce_var 3) ce_bl) (css_one (cs_pp hS hr (cp_step hr (cp_base 0) cq_str) (ce_tup (ca_cons (ce_var 2) (ca_cons (ce_var 1) ca_nil))) (ce_var 3)))))))
abbrev s__law_first : Stmt := top 45
abbrev N__law_first : List Str := ["state", "node", "message", "before", "found", "other", "receivers", "index", "past"]
theorem sc__law_first : FnScope ["state", "node", "message", "before", "found", "other", "receivers", "index", "past"] ["state", "node", "message"] (defScope s__law_first) := C8.fnScope_by (by decide +kernel)
theorem k__law_first (D : FunD K "_law_first" "_law_first" (defArgs s__law_first) (defBody s__law_first) (defScope s__law_first) [] [] f fd) (F : Fx mg) (hS : AllS P w Θ shp) : FnG P w K mg base (L2.CX P w) 2 f fd ["state", "node", "message"] (SpF P w K Θ 3 f__law_first) := by
  refine def_ok (io := []) (body := b__law_first) D sc__law_first rfl rfl fun cdv A outer s H E hga hr => ?_
  have hN := sc__law_first.nd; have hp := @hp0 P w K mg base ["state", "node", "message", "before", "found", "other", "receivers", "index", "past"] "_law_first" (defScope s__law_first) f cdv A outer s H E; have tk := @tkd P w K mg base ["state", "node", "message", "before", "found", "other", "receivers", "index", "past"] "_law_first" (defScope s__law_first) f cdv A outer s H E
  exact (css_cons (cs_par2 rfl hN (by decide) (ca_cons (ce_item hr (ce_item hr (ce_item hr (ce_var 0) ce_str) (ce_var 2)) ce_int) (ca_cons (ce_lst ca_nil) ca_nil))) (css_cons (cs_for hp rfl (ci_any (ce_sorted hr rfl rfl F.n_sorted (ce_item hr (ce_var 0) ce_str))) (cg_name hN (by decide)) (css_cons (cs_asg (ce_item hr (ce_item hr (ce_var 0) ce_str) (ce_var 5)) (cg_tup rfl (cgs_cons (cg_name hN (by decide)) (cgs_cons (cg_name hN (by decide)) (cgs_cons (cg_name hN (by decide)) cgs_nil))))) (css_one (cs_if (ct_w (cw_and (ct_ne hr (ce_var 5) (ce_var 2)) (cw_and (ct_isin hr (ce_var 1) (ce_var 6)) (cw_and (ct_isin hr (ce_var 7) (ce_var 3)) (cw_and1 (ct_notin hr (ce_tup (ca_cons (ce_var 5) (ca_cons (ce_var 1) ca_nil))) (ce_item hr (ce_var 0) ce_str))))))) (css_one (cs_expr (ce_append (ce_var 4) (ce_var 5)))) css_nil)))) (css_one (cs_ret (ce_var 4)))))
abbrev s__law_closed : Stmt := top 46
abbrev N__law_closed : List Str := ["state", "node", "found", "message"]
theorem sc__law_closed : FnScope ["state", "node", "found", "message"] ["state", "node"] (defScope s__law_closed) := C8.fnScope_by (by decide +kernel)
theorem k__law_closed (D : FunD K "_law_closed" "_law_closed" (defArgs s__law_closed) (defBody s__law_closed) (defScope s__law_closed) [] [] f fd) (F : Fx mg) (hS : AllS P w Θ shp) : FnG P w K mg base (L2.CX P w) 2 f fd ["state", "node"] (SpF P w K Θ 2 f__law_closed) := by
  refine def_ok (io := []) (body := b__law_closed) D sc__law_closed rfl rfl fun cdv A outer s H E hga hr => ?_
  have hN := sc__law_closed.nd; have hp := @hp0 P w K mg base ["state", "node", "found", "message"] "_law_closed" (defScope s__law_closed) f cdv A outer s H E; have tk := @tkd P w K mg base ["state", "node", "found", "message"] "_law_closed" (defScope s__law_closed) f cdv A outer s H E
  exact (css_cons (cs_setLc (own := [("message", 3)]) rfl hN (by decide) (ci_any (ce_sorted hr rfl rfl F.n_sorted (ce_item hr (ce_var 0) ce_str))) (blkOk_by (N := N__law_closed) (sc := defScope s__law_closed) (own := [("message", 3)]) (by decide +kernel)) (fun _ _ _ _ _ => (cg_name hN (by decide))) (fun _ _ _ _ _ => (cts_one (ct_isin hr (ce_var 1) (ce_item hr (ce_item hr (ce_item hr (ce_var 0) ce_str) (ce_var 3)) ce_int)))) (fun _ _ _ _ _ => (ce_var 3)) (sw_true rfl rfl rfl rfl)) (css_one (cs_ret (ce_lc (own := [("message", 3)]) rfl hN (ci_any (ce_var 2)) (blkOk_by (N := N__law_closed) (sc := defScope s__law_closed) (own := [("message", 3)]) (by decide +kernel)) (fun _ _ _ _ _ => (cg_name hN (by decide))) (fun _ _ _ _ _ => (cts_one (ct_notin hr (ce_tup (ca_cons (ce_var 3) (ca_cons (ce_var 1) ca_nil))) (ce_item hr (ce_var 0) ce_str)))) (fun _ _ _ _ _ => (ce_var 3))))))
abbrev s__law_lived : Stmt := top 47
abbrev N__law_lived : List Str := ["jar", "nodes", "many", "state", "busy", "often", "turn", "node", "free", "message"]
theorem sc__law_lived : FnScope ["jar", "nodes", "many", "state", "busy", "often", "turn", "node", "free", "message"] ["jar", "nodes", "many"] (defScope s__law_lived) := C8.fnScope_by (by decide +kernel)
structure Cl__law_lived (P : Program) (w : World) (K : PySem.W.Frag) (mg : Str → Option Value) (base : Heap) (Θ : Nat → ObSem) : Prop where
  h__law_pick : FnAt P w K mg base Θ "_law_pick" 2 2 f__law_pick
  h__law_some : FnAt P w K mg base Θ "_law_some" 3 3 f__law_some
  h__law_told : FnAt P w K mg base Θ "_law_told" 2 1 f__law_told
  h__law_sent : FnAt P w K mg base Θ "_law_sent" 2 3 f__law_sent
  h__law_opened : FnAt P w K mg base Θ "_law_opened" 2 3 f__law_opened
  h__law_first : FnAt P w K mg base Θ "_law_first" 2 3 f__law_first
  h__law_closed : FnAt P w K mg base Θ "_law_closed" 2 2 f__law_closed
theorem k__law_lived (D : FunD K "_law_lived" "_law_lived" (defArgs s__law_lived) (defBody s__law_lived) (defScope s__law_lived) [] [] f fd) (F : Fx mg) (Cl : Cl__law_lived P w K mg base Θ) (hS : AllS P w Θ shp) : FnG P w K mg base (L2.CX P w) 4 f fd ["jar", "nodes", "many"] (SpF P w K Θ 3 f__law_lived) := by
  refine def_ok (io := [0]) (body := b__law_lived) D sc__law_lived rfl rfl fun cdv A outer s H E hga hr => ?_
  have hN := sc__law_lived.nd; have hp := @hp0 P w K mg base ["jar", "nodes", "many", "state", "busy", "often", "turn", "node", "free", "message"] "_law_lived" (defScope s__law_lived) f cdv A outer s H E; have tk := @tkd P w K mg base ["jar", "nodes", "many", "state", "busy", "often", "turn", "node", "free", "message"] "_law_lived" (defScope s__law_lived) f cdv A outer s H E
  exact (css_cons (cs_set hN (by decide) (ce_call (Cl.h__law_told.mono (by decide)) hga hr tk rfl rfl (ca_cons (ce_var 1) ca_nil))) (css_cons (cs_set hN (by decide) (ce_item hr (ce_lst (ca_cons (ce_var 1) (ca_cons (ce_slL (ce_var 1) co_none (co_some ce_int)) (ca_cons (ce_slL (ce_var 1) (co_some (ce_neg ce_int)) co_none) ca_nil)))) (ce_call (Cl.h__law_pick.mono (by decide)) hga hr tk rfl rfl (ca_cons (ce_var 0) (ca_cons ce_int ca_nil))))) (css_cons (cs_set hN (by decide) (ce_plus ce_int (ce_call (Cl.h__law_pick.mono (by decide)) hga hr tk rfl rfl (ca_cons (ce_var 0) (ca_cons ce_int ca_nil))))) (css_cons (cs_for hp rfl (ci_range rfl F.n_range (ce_call (Cl.h__law_pick.mono (by decide)) hga hr tk rfl rfl (ca_cons (ce_var 0) (ca_cons (ce_plus (ce_var 2) ce_int) ca_nil)))) (cg_name hN (by decide)) (css_cons (cs_set hN (by decide) (ce_item hr (ce_var 1) (ce_call (Cl.h__law_pick.mono (by decide)) hga hr tk rfl rfl (ca_cons (ce_var 0) (ca_cons (ce_len_ rfl F.n_len (ce_var 1)) ca_nil))))) (css_cons (cs_setLc (own := [("message", 9)]) rfl hN (by decide) (ci_any (ce_bor hS.t (ce_call (Cl.h__law_closed.mono (by decide)) hga hr tk rfl rfl (ca_cons (ce_var 3) (ca_cons (ce_var 7) ca_nil))))) (blkOk_by (N := N__law_lived) (sc := defScope s__law_lived) (own := [("message", 9)]) (by decide +kernel)) (fun _ _ _ _ _ => (cg_name hN (by decide))) (fun _ _ _ _ _ => (cts_one (ct_bor hS.t (ct_eq hr (ce_call (Cl.h__law_first.mono (by decide)) hga hr tk0 rfl rfl (ca_cons (ce_var 3) (ca_cons (ce_var 7) (ca_cons (ce_var 9) ca_nil)))) (ce_lst ca_nil))))) (fun _ _ _ _ _ => (ce_var 9)) (sw_true rfl rfl rfl rfl)) (css_one (cs_if (ct_w (cw_and (ct_ne hr (ce_var 8) (ce_lst ca_nil)) (cw_and1 (ct_ltA hr (ce_call (Cl.h__law_pick.mono (by decide)) hga hr tk rfl rfl (ca_cons (ce_var 0) (ca_cons ce_int ca_nil))) (ce_var 5))))) (css_one (cs_expr (ce_call (Cl.h__law_opened.mono (by decide)) hga hr tk rfl rfl (ca_cons (ce_var 3) (ca_cons (ce_var 7) (ca_cons (ce_item hr (ce_var 8) (ce_item hr (ce_lst (ca_cons ce_int (ca_cons (ce_sub (ce_len_ rfl F.n_len (ce_var 8)) ce_int) (ca_cons (ce_call (Cl.h__law_pick.mono (by decide)) hga hr tk rfl rfl (ca_cons (ce_var 0) (ca_cons (ce_len_ rfl F.n_len (ce_var 8)) ca_nil))) ca_nil)))) (ce_call (Cl.h__law_pick.mono (by decide)) hga hr tk rfl rfl (ca_cons (ce_var 0) (ca_cons ce_int ca_nil))))) ca_nil)))))) (css_cons (cs_set hN (by decide) (ce_item hr (ce_var 4) (ce_call (Cl.h__law_pick.mono (by decide)) hga hr tk rfl rfl (ca_cons (ce_var 0) (ca_cons (ce_len_ rfl F.n_len (ce_var 4)) ca_nil))))) (css_one (cs_expr (ce_call (Cl.h__law_sent.mono (by decide)) hga hr tk rfl rfl (ca_cons (ce_var 3) (ca_cons (ce_var 7) (ca_cons (ce_call (Cl.h__law_some.mono (by decide)) hga hr tk rfl rfl (ca_cons (ce_var 0) (ca_cons (ce_var 1) (ca_cons (ce_var 7) ca_nil)))) ca_nil)))))))))))) (css_one (cs_ret (ce_var 3)))))))
abbrev s__law_right : Stmt := top 48
abbrev N__law_right : List Str := ["nodes", "state", "run", "kept", "due", "node", "closed", "again", "told", "message"]
theorem sc__law_right : FnScope ["nodes", "state", "run", "kept", "due", "node", "closed", "again", "told", "message"] ["nodes", "state"] (defScope s__law_right) := C8.fnScope_by (by decide +kernel)
structure Cl__law_right (P : Program) (w : World) (K : PySem.W.Frag) (mg : Str → Option Value) (base : Heap) (Θ : Nat → ObSem) : Prop where
  h_next_opens : FnAt P w K mg base Θ "next_opens" 8 2 f_next_opens
  h_closed_messages : FnAt P w K mg base Θ "closed_messages" 8 3 f_closed_messages
  h__law_first : FnAt P w K mg base Θ "_law_first" 2 3 f__law_first
  h__law_closed : FnAt P w K mg base Θ "_law_closed" 2 2 f__law_closed
theorem k__law_right (D : FunD K "_law_right" "_law_right" (defArgs s__law_right) (defBody s__law_right) (defScope s__law_right) [] [] f fd) (F : Fx mg) (Cl : Cl__law_right P w K mg base Θ) (hS : AllS P w Θ shp) : FnG P w K mg base (L2.CX P w) 9 f fd ["nodes", "state"] (SpF P w K Θ 2 f__law_right) := by
  refine def_ok (io := []) (body := b__law_right) D sc__law_right rfl rfl fun cdv A outer s H E hga hr => ?_
  have hN := sc__law_right.nd; have hp := @hp0 P w K mg base ["nodes", "state", "run", "kept", "due", "node", "closed", "again", "told", "message"] "_law_right" (defScope s__law_right) f cdv A outer s H E; have tk := @tkd P w K mg base ["nodes", "state", "run", "kept", "due", "node", "closed", "again", "told", "message"] "_law_right" (defScope s__law_right) f cdv A outer s H E
  exact (css_cons (cs_par2 rfl hN (by decide) (ca_cons (ce_item hr (ce_var 1) ce_str) (ca_cons (ce_repr hga hr rfl F.n_repr (ce_lst (ca_cons (ce_var 0) (ca_cons (ce_item hr (ce_var 1) ce_str) ca_nil)))) ca_nil))) (css_cons (cs_set hN (by decide) (ce_lst ca_nil)) (css_cons (cs_for hp rfl (ci_any (ce_var 0)) (cg_name hN (by decide)) (css_cons (cs_set hN (by decide) (ce_call (Cl.h__law_closed.mono (by decide)) hga hr tk rfl rfl (ca_cons (ce_var 1) (ca_cons (ce_var 5) ca_nil)))) (css_cons (cs_expr (ce_extend (ce_var 4) (ce_lc (own := [("message", 9)]) rfl hN (ci_any (ce_var 6)) (blkOk_by (N := N__law_right) (sc := defScope s__law_right) (own := [("message", 9)]) (by decide +kernel)) (fun _ _ _ _ _ => (cg_name hN (by decide))) (fun _ _ _ _ _ => (cts_one (ct_eq hr (ce_call (Cl.h__law_first.mono (by decide)) hga hr tk0 rfl rfl (ca_cons (ce_var 1) (ca_cons (ce_var 5) (ca_cons (ce_var 9) ca_nil)))) (ce_lst ca_nil)))) (fun _ _ _ _ _ => (ce_tup (ca_cons (ce_var 5) (ca_cons (ce_var 9) ca_nil))))))) (css_one (cs_for hp rfl (ci_range rfl F.n_range ce_int) (cg_name hN (by decide)) (css_cons (cs_set hN (by decide) (ce_call (Cl.h_closed_messages.mono (by decide)) hga hr tk rfl rfl (ca_cons (ce_var 0) (ca_cons (ce_var 2) (ca_cons (ce_var 5) ca_nil))))) (css_cons (cs_if (ct_ne hr (ce_repr hga hr rfl F.n_repr (ce_var 8)) (ce_repr hga hr rfl F.n_repr (ce_var 6))) (css_one (cs_ret ce_bl)) css_nil) (css_one (cs_expr (ce_append (ce_var 8) ce_str)))))))))) (css_cons (cs_for hp rfl (ci_range rfl F.n_range ce_int) (cg_name hN (by decide)) (css_cons (cs_set hN (by decide) (ce_call (Cl.h_next_opens.mono (by decide)) hga hr tk rfl rfl (ca_cons (ce_var 0) (ca_cons (ce_var 2) ca_nil)))) (css_cons (cs_if (ct_w (cw_or (ct_ne hr (ce_repr hga hr rfl F.n_repr (ce_var 8)) (ce_repr hga hr rfl F.n_repr (ce_var 4))) (cw_or1 (ct_ne hr (ce_repr hga hr rfl F.n_repr (ce_lst (ca_cons (ce_var 0) (ca_cons (ce_var 2) ca_nil)))) (ce_var 3))))) (css_one (cs_ret ce_bl)) css_nil) (css_one (cs_expr (ce_append (ce_var 8) ce_str)))))) (css_one (cs_ret ce_bl))))))
abbrev s_law : Stmt := top 49
abbrev N_law : List Str := ["script", "k", "jar", "turn", "nodes", "state", "node"]
theorem sc_law : FnScope ["script", "k", "jar", "turn", "nodes", "state", "node"] ["script"] (defScope s_law) := C8.fnScope_by (by decide +kernel)
structure Cl_law (P : Program) (w : World) (K : PySem.W.Frag) (mg : Str → Option Value) (base : Heap) (Θ : Nat → ObSem) : Prop where
  h_next_opens : FnAt P w K mg base Θ "next_opens" 8 2 f_next_opens
  h_closed_messages : FnAt P w K mg base Θ "closed_messages" 8 3 f_closed_messages
  h__law_jar : FnAt P w K mg base Θ "_law_jar" 2 2 f__law_jar
  h__law_pick : FnAt P w K mg base Θ "_law_pick" 2 2 f__law_pick
  h__law_folk : FnAt P w K mg base Θ "_law_folk" 3 2 f__law_folk
  h__law_some : FnAt P w K mg base Θ "_law_some" 3 3 f__law_some
  h__law_sent : FnAt P w K mg base Θ "_law_sent" 2 3 f__law_sent
  h__law_lived : FnAt P w K mg base Θ "_law_lived" 4 3 f__law_lived
  h__law_right : FnAt P w K mg base Θ "_law_right" 9 2 f__law_right
theorem k_law (D : FunD K "law" "law" (defArgs s_law) (defBody s_law) (defScope s_law) [] [] f fd) (F : Fx mg) (Cl : Cl_law P w K mg base Θ) (hS : AllS P w Θ shp) : FnG P w K mg base (L2.CX P w) 10 f fd ["script"] (SpF P w K Θ 1 f_law) := by
  refine def_ok (io := []) (body := b_law) D sc_law rfl rfl fun cdv A outer s H E hga hr => ?_
  have hN := sc_law.nd; have hp := @hp0 P w K mg base ["script", "k", "jar", "turn", "nodes", "state", "node"] "law" (defScope s_law) f cdv A outer s H E; have tk := @tkd P w K mg base ["script", "k", "jar", "turn", "nodes", "state", "node"] "law" (defScope s_law) f cdv A outer s H E
  exact (css_cons (cs_for hp rfl (ci_range rfl F.n_range (ce_max2 rfl rfl F.n_max (ca_cons ce_int (ca_cons (ce_min2 rfl rfl F.n_min (ca_cons ce_int (ca_cons (ce_len_ rfl F.n_len (ce_var 0)) ca_nil))) ca_nil)))) (cg_name hN (by decide)) (css_cons (cs_set hN (by decide) (ce_call (Cl.h__law_jar.mono (by decide)) hga hr tk rfl rfl (ca_cons (ce_var 0) (ca_cons (ce_var 1) ca_nil)))) (css_one (cs_for hp rfl (ci_range rfl F.n_range ce_int) (cg_name hN (by decide)) (css_cons (cs_set hN (by decide) (ce_call (Cl.h__law_folk.mono (by decide)) hga hr tk rfl rfl (ca_cons (ce_var 2) (ca_cons (ce_if (ct_w (cw_and (ct_eq hr (ce_plus (ce_var 1) (ce_var 3)) ce_int) (cw_and1 (ct_eq hr (ce_call (Cl.h__law_pick.mono (by decide)) hga hr tk rfl rfl (ca_cons (ce_var 2) (ca_cons ce_int ca_nil))) ce_int)))) ce_int ce_int) ca_nil)))) (css_cons (cs_set hN (by decide) (ce_call (Cl.h__law_lived.mono (by decide)) hga hr tk rfl rfl (ca_cons (ce_var 2) (ca_cons (ce_var 4) (ca_cons ce_int ca_nil))))) (css_cons (cs_if (ct_not (ct_bor hS.t (ct_val (ce_call (Cl.h__law_right.mono (by decide)) hga hr tk rfl rfl (ca_cons (ce_var 4) (ca_cons (ce_var 5) ca_nil)))))) (css_one (cs_ret ce_bl)) css_nil) (css_cons (cs_set hN (by decide) (ce_item hr (ce_var 4) (ce_call (Cl.h__law_pick.mono (by decide)) hga hr tk rfl rfl (ca_cons (ce_var 2) (ca_cons (ce_len_ rfl F.n_len (ce_var 4)) ca_nil))))) (css_cons (cs_expr (ce_call (Cl.h__law_sent.mono (by decide)) hga hr tk rfl rfl (ca_cons (ce_var 5) (ca_cons (ce_var 6) (ca_cons (ce_call (Cl.h__law_some.mono (by decide)) hga hr tk rfl rfl (ca_cons (ce_var 2) (ca_cons (ce_var 4) (ca_cons (ce_var 6) ca_nil)))) ca_nil))))) (css_one (cs_if (ct_not (ct_bor hS.t (ct_val (ce_call (Cl.h__law_right.mono (by decide)) hga hr tk rfl rfl (ca_cons (ce_var 4) (ca_cons (ce_var 5) ca_nil)))))) (css_one (cs_ret ce_bl)) css_nil))))))))))) (css_one (cs_ret (ce_and (ce_eq hr (ce_call (Cl.h_next_opens.mono (by decide)) hga hr tk rfl rfl (ca_cons (ce_lst (ca_cons ce_str (ca_cons ce_str ca_nil))) (ca_cons (ce_lst ca_nil) ca_nil))) (ce_lst ca_nil)) (ce_one (ce_eq hr (ce_call (Cl.h_closed_messages.mono (by decide)) hga hr tk rfl rfl (ca_cons (ce_lst (ca_cons ce_str (ca_cons ce_str ca_nil))) (ca_cons (ce_lst ca_nil) (ca_cons ce_str ca_nil)))) (ce_lst ca_nil)))))))
end
end Lw

/- text Mo -/
namespace Mo
abbrev Nd := Fin 26
abbrev Msg := Nd × Nat
inductive Ev where
  | snd (n : Nd) (rs : List Nd)
  | opn (n : Nd) (m : Msg)
  deriving DecidableEq
def Ev.node : Ev → Nd
  | .snd n _ => n
  | .opn n _ => n
/-! ### lists of keys and values -/
section
variable {κ ν : Type} [DecidableEq κ]
def lk (kvs : List (κ × ν)) (k : κ) : Option ν := (kvs.find? fun p => decide (p.1 = k)).map (·.2)
theorem lk_nil {k : κ} : lk ([] : List (κ × ν)) k = none := rfl
theorem lk_cons {p : κ × ν} {l : List (κ × ν)} {k : κ} : lk (p :: l) k = if p.1 = k then some p.2 else lk l k := by
  unfold lk; by_cases h : p.1 = k <;> simp [List.find?_cons, h]
theorem lk_append {a b : List (κ × ν)} {k : κ} : lk (a ++ b) k = (lk a k).or (lk b k) := by
  induction a with
  | nil => simp [lk_nil]
  | cons p a ih => rw [List.cons_append, lk_cons, lk_cons, ih]; split <;> simp
theorem lk_mem {l : List (κ × ν)} {k : κ} {v : ν} (h : lk l k = some v) : (k, v) ∈ l := by
  induction l with
  | nil => cases h
  | cons p l ih =>
    rw [lk_cons] at h
    split at h
    · rename_i e; cases h; rw [← e]; exact List.mem_cons_self
    · exact List.mem_cons_of_mem _ (ih h)
theorem lk_of_mem {l : List (κ × ν)} {k : κ} {v : ν} (nd : (l.map (·.1)).Nodup) (h : (k, v) ∈ l) : lk l k = some v := by
  induction l with
  | nil => cases h
  | cons p l ih =>
    rw [List.map_cons, List.nodup_cons] at nd
    rw [lk_cons]
    rcases List.mem_cons.mp h with e | h
    · rw [← e, if_pos rfl]
    · rw [if_neg fun e => nd.1 (by rw [e]; exact List.mem_map.mpr ⟨_, h, rfl⟩)]; exact ih nd.2 h
theorem lk_isSome {l : List (κ × ν)} {k : κ} : (lk l k).isSome = decide (k ∈ l.map (·.1)) := by
  induction l with
  | nil => rfl
  | cons p l ih =>
    rw [lk_cons]
    by_cases e : p.1 = k
    · rw [if_pos e]; subst e; simp
    · rw [if_neg e, ih]; simp [show ¬ k = p.1 from fun h => e h.symm]
theorem lk_none {l : List (κ × ν)} {k : κ} : lk l k = none ↔ k ∉ l.map (·.1) := by
  have := lk_isSome (l := l) (k := k)
  cases h : lk l k with
  | none => rw [h] at this; simpa using this
  | some v => rw [h] at this; simpa using this
theorem lk_map {μ : Type} {l : List (κ × ν)} {k : κ} (f : ν → μ) : lk (l.map fun p => (p.1, f p.2)) k = (lk l k).map f := by
  induction l with
  | nil => rfl
  | cons p l ih => rw [List.map_cons, lk_cons, lk_cons, ih]; split <;> rfl
end
/-! ### sends -/
def isSnd (n : Nd) : Ev → Bool
  | .snd m _ => decide (m = n)
  | .opn _ _ => false
def cnt (es : List Ev) (n : Nd) : Nat := es.countP (isSnd n)
theorem cnt_nil (n : Nd) : cnt [] n = 0 := rfl
theorem cnt_snd (es : List Ev) (a : Nd) (rs : List Nd) (n : Nd) : cnt (es ++ [.snd a rs]) n = cnt es n + if a = n then 1 else 0 := by
  unfold cnt; rw [List.countP_append, List.countP_singleton]; by_cases h : a = n <;> simp [isSnd, h]
theorem cnt_opn (es : List Ev) (a : Nd) (m : Msg) (n : Nd) : cnt (es ++ [.opn a m]) n = cnt es n := by
  unfold cnt; rw [List.countP_append, List.countP_singleton]; simp [isSnd]
def sendsR : List Ev → List (Msg × Nat × List Nd)
  | [] => []
  | .snd n rs :: r => sendsR r ++ [((n, cnt r n + 1), r.length, rs)]
  | .opn _ _ :: r => sendsR r
def sends (es : List Ev) : List (Msg × Nat × List Nd) := sendsR es.reverse
theorem sends_nil : sends [] = [] := rfl
theorem cnt_rev (es : List Ev) (n : Nd) : cnt es.reverse n = cnt es n := by unfold cnt; exact List.countP_reverse
theorem sends_snd (es : List Ev) (n : Nd) (rs : List Nd) : sends (es ++ [.snd n rs]) = sends es ++ [((n, cnt es n + 1), es.length, rs)] := by
  unfold sends; simp [sendsR, cnt_rev]
theorem sends_opn (es : List Ev) (n : Nd) (m : Msg) : sends (es ++ [.opn n m]) = sends es := by
  unfold sends; simp [sendsR]
theorem snocInd {P : List Ev → Prop} (h0 : P []) (h1 : ∀ es e, P es → P (es ++ [e])) : ∀ es, P es := fun es => by
  have : ∀ l : List Ev, P l.reverse := fun l => by
    induction l with
    | nil => exact h0
    | cons e l ih => rw [List.reverse_cons]; exact h1 _ _ ih
  simpa using this es.reverse
theorem sends_mem : ∀ (es : List Ev) {m : Msg} {i : Nat} {rs : List Nd}, (m, i, rs) ∈ sends es → 1 ≤ m.2 ∧ m.2 ≤ cnt es m.1 ∧ i < es.length := by
  refine snocInd (fun h => nomatch h) fun es e ih m i rs h => ?_
  cases e with
  | snd n rs' =>
    rw [sends_snd, List.mem_append, List.mem_singleton] at h
    rw [cnt_snd, List.length_append]
    rcases h with h | h
    · obtain ⟨a, b, c⟩ := ih h
      exact ⟨a, by omega, by simp; omega⟩
    · cases h; exact ⟨by simp, by simp, by simp⟩
  | opn n m' =>
    rw [sends_opn] at h
    rw [cnt_opn, List.length_append]
    obtain ⟨a, b, c⟩ := ih h
    exact ⟨a, b, by simp; omega⟩
theorem sends_nodup : ∀ es : List Ev, ((sends es).map (·.1)).Nodup := by
  refine snocInd List.nodup_nil fun es e ih => ?_
  cases e with
  | snd n rs' =>
    rw [sends_snd, List.map_append, List.nodup_append]
    refine ⟨ih, by simp, fun a ha b hb hab => ?_⟩
    obtain ⟨⟨m, i, rs⟩, h1, rfl⟩ := List.mem_map.mp ha
    have := (sends_mem es h1).2.1
    simp at hb
    subst hb
    simp only at hab
    rw [hab] at this
    simp at this
    omega
  | opn n m' => rw [sends_opn]; exact ih
theorem sends_all (es : List Ev) {m : Msg} (h1 : 1 ≤ m.2) (h2 : m.2 ≤ cnt es m.1) : m ∈ (sends es).map (·.1) := by
  revert h1 h2
  refine snocInd (P := fun es => 1 ≤ m.2 → m.2 ≤ cnt es m.1 → m ∈ (sends es).map (·.1)) (fun h1 h2 => by rw [cnt_nil] at h2; omega) (fun es e ih h1 h2 => ?_) es
  cases e with
  | snd n rs' =>
    rw [sends_snd, List.map_append, List.mem_append]
    rw [cnt_snd] at h2
    by_cases h : n = m.1
    · subst h
      rw [if_pos rfl] at h2
      by_cases h3 : m.2 ≤ cnt es m.1
      · exact .inl (ih h1 h3)
      · refine .inr ?_
        have : m.2 = cnt es m.1 + 1 := by omega
        simp [← this]
    · rw [if_neg h] at h2; exact .inl (ih h1 h2)
  | opn n m' => rw [sends_opn]; rw [cnt_opn] at h2; exact ih h1 h2
theorem sends_pre (pre post : List Ev) : ∃ l, sends (pre ++ post) = sends pre ++ l := by
  revert pre
  have : ∀ (post pre : List Ev), ∃ l, sends (pre ++ post) = sends pre ++ l := fun post => by
    induction post with
    | nil => intro pre; exact ⟨[], by simp⟩
    | cons e post ih =>
      intro pre
      obtain ⟨l, h⟩ := ih (pre ++ [e])
      rw [List.append_assoc, List.singleton_append] at h
      cases e with
      | snd n rs => rw [sends_snd] at h; exact ⟨_, by rw [h, List.append_assoc]⟩
      | opn n m => rw [sends_opn] at h; exact ⟨l, h⟩
  exact this post
theorem sends_lk {pre post : List Ev} {m : Msg} {x : Nat × List Nd} (h : lk (sends pre) m = some x) : lk (sends (pre ++ post)) m = some x := by
  obtain ⟨l, e⟩ := sends_pre pre post
  rw [e, lk_append, h]; rfl
theorem sends_at : ∀ (es : List Ev) {m : Msg} {i : Nat} {rs : List Nd}, (m, i, rs) ∈ sends es → es[i]? = some (.snd m.1 rs) := by
  refine snocInd (fun h => nomatch h) fun es e ih m i rs h => ?_
  cases e with
  | snd n rs' =>
    rw [sends_snd, List.mem_append, List.mem_singleton] at h
    rcases h with h | h
    · have := (sends_mem es h).2.2
      rw [List.getElem?_append_left this]; exact ih h
    · cases h; simp
  | opn n m' =>
    rw [sends_opn] at h
    have := (sends_mem es h).2.2
    rw [List.getElem?_append_left this]; exact ih h
theorem sends_idx_inj : ∀ (es : List Ev) {m m' : Msg} {i : Nat} {rs rs' : List Nd}, (m, i, rs) ∈ sends es → (m', i, rs') ∈ sends es → m = m' := by
  refine snocInd (fun h => nomatch h) fun es e ih m m' i rs rs' h h' => ?_
  cases e with
  | snd n rs'' =>
    rw [sends_snd, List.mem_append, List.mem_singleton] at h h'
    rcases h with h | h <;> rcases h' with h' | h'
    · exact ih h h'
    · have := (sends_mem es h).2.2; cases h'; omega
    · have := (sends_mem es h').2.2; cases h; omega
    · cases h; cases h'; rfl
  | opn n m'' => rw [sends_opn] at h h'; exact ih h h'
/-! ### steps, what is before -/
def latestR (n : Nd) : List Ev → Option Nat
  | [] => none
  | e :: r => if e.node = n then some r.length else latestR n r
def latest (es : List Ev) (n : Nd) : Option Nat := latestR n es.reverse
theorem latest_snoc (es : List Ev) (e : Ev) (n : Nd) : latest (es ++ [e]) n = if e.node = n then some es.length else latest es n := by
  unfold latest; simp [latestR]
def steps (es : List Ev) (e : Ev) : List Nat := match e with
  | .snd n _ => (latest es n).toList
  | .opn n m => match lk (sends es) m with
    | some (s, _) => if s ∈ (latest es n).toList then (latest es n).toList else (latest es n).toList ++ [s]
    | none => (latest es n).toList
def predsR : List Ev → List (List Nat)
  | [] => []
  | e :: r => predsR r ++ [steps r.reverse e]
def preds (es : List Ev) : List (List Nat) := predsR es.reverse
theorem preds_snoc (es : List Ev) (e : Ev) : preds (es ++ [e]) = preds es ++ [steps es e] := by unfold preds; simp [predsR]
theorem preds_length : ∀ es : List Ev, (preds es).length = es.length := snocInd rfl fun es e ih => by rw [preds_snoc]; simp [ih]
def insK (ks : List Nat) (k : Nat) : List Nat := if k ∈ ks then ks else ks ++ [k]
def updK (ks ms : List Nat) : List Nat := ms.foldl insK ks
theorem mem_insK {ks : List Nat} {k j : Nat} : j ∈ insK ks k ↔ j ∈ ks ∨ j = k := by
  unfold insK; split
  · rename_i h; exact ⟨.inl, fun z => z.elim id fun e => by rw [e]; exact h⟩
  · simp
theorem mem_updK {ms : List Nat} : ∀ {ks : List Nat} {j : Nat}, j ∈ updK ks ms ↔ j ∈ ks ∨ j ∈ ms := by
  induction ms with
  | nil => simp [updK]
  | cons m ms ih =>
    intro ks j
    show j ∈ updK (insK ks m) ms ↔ _
    rw [ih, mem_insK, List.mem_cons, or_assoc]
theorem insK_nodup {ks : List Nat} {k : Nat} (h : ks.Nodup) : (insK ks k).Nodup := by
  unfold insK; split
  · exact h
  · rename_i hk; rw [List.nodup_append]; exact ⟨h, by simp, fun a ha b hb e => hk (by simp at hb; rw [← hb, ← e]; exact ha)⟩
theorem updK_nodup {ms : List Nat} : ∀ {ks : List Nat}, ks.Nodup → (updK ks ms).Nodup := by
  induction ms with
  | nil => exact id
  | cons m ms ih => intro ks h; exact ih (insK_nodup h)
/-- what is before, by the steps -/
def bef1 (c : List (List Nat)) (b : List Nat) (s : Nat) : List Nat := insK (updK b (c.getD s [])) s
def bef (c : List (List Nat)) (ss : List Nat) : List Nat := ss.foldl (bef1 c) []
def closP (ps : List (List Nat)) : List (List Nat) := ps.foldl (fun c p => c ++ [bef c p]) []
theorem closP_snoc (ps : List (List Nat)) (p : List Nat) : closP (ps ++ [p]) = closP ps ++ [bef (closP ps) p] := by unfold closP; simp
theorem closP_length (ps : List (List Nat)) : (closP ps).length = ps.length := by
  have : ∀ (ps c : List (List Nat)), (ps.foldl (fun c p => c ++ [bef c p]) c).length = c.length + ps.length := fun ps => by
    induction ps with
    | nil => simp
    | cons p ps ih => intro c; rw [List.foldl_cons, ih]; simp; omega
  unfold closP; rw [this]; simp
theorem mem_bef {c : List (List Nat)} {ss : List Nat} {j : Nat} : j ∈ bef c ss ↔ ∃ s ∈ ss, j = s ∨ j ∈ c.getD s [] := by
  have : ∀ (ss b : List Nat), j ∈ ss.foldl (bef1 c) b ↔ j ∈ b ∨ ∃ s ∈ ss, j = s ∨ j ∈ c.getD s [] := fun ss => by
    induction ss with
    | nil => simp
    | cons s ss ih =>
      intro b
      rw [List.foldl_cons, ih, bef1, mem_insK, mem_updK]
      simp only [List.mem_cons, exists_eq_or_imp]
      constructor
      · rintro (((h | h) | h) | h)
        · exact .inl h
        · exact .inr (.inl (.inr h))
        · exact .inr (.inl (.inl h))
        · exact .inr (.inr h)
      · rintro (h | (h | h) | h)
        · exact .inl (.inl (.inl h))
        · exact .inl (.inr h)
        · exact .inl (.inl (.inr h))
        · exact .inr h
  unfold bef; rw [this]; simp
theorem bef_nodup {c : List (List Nat)} {ss : List Nat} : (bef c ss).Nodup := by
  have : ∀ (ss b : List Nat), b.Nodup → (ss.foldl (bef1 c) b).Nodup := fun ss => by
    induction ss with
    | nil => exact fun _ => id
    | cons s ss ih => intro b h; exact ih _ (insK_nodup (updK_nodup h))
  exact this ss [] List.nodup_nil
def clos (es : List Ev) : List (List Nat) := closP (preds es)
theorem clos_snoc (es : List Ev) (e : Ev) : clos (es ++ [e]) = clos es ++ [bef (clos es) (steps es e)] := by unfold clos; rw [preds_snoc, closP_snoc]
theorem clos_length (es : List Ev) : (clos es).length = es.length := by unfold clos; rw [closP_length, preds_length]
def be (es : List Ev) (i : Nat) : List Nat := (clos es).getD i []
theorem clos_pre (pre post : List Ev) : ∃ l, clos (pre ++ post) = clos pre ++ l := by
  revert pre
  have : ∀ (post pre : List Ev), ∃ l, clos (pre ++ post) = clos pre ++ l := fun post => by
    induction post with
    | nil => intro pre; exact ⟨[], by simp⟩
    | cons e post ih =>
      intro pre
      obtain ⟨l, h⟩ := ih (pre ++ [e])
      rw [List.append_assoc, List.singleton_append] at h
      rw [clos_snoc] at h; exact ⟨_, by rw [h, List.append_assoc]⟩
  exact this post
theorem be_pre {pre : List Ev} (post : List Ev) {i : Nat} (h : i < pre.length) : be (pre ++ post) i = be pre i := by
  obtain ⟨l, e⟩ := clos_pre pre post
  unfold be
  rw [e, List.getD_eq_getElem?_getD, List.getD_eq_getElem?_getD, List.getElem?_append_left (by rw [clos_length]; exact h)]
theorem be_last (es : List Ev) (e : Ev) : be (es ++ [e]) es.length = bef (clos es) (steps es e) := by
  unfold be; rw [clos_snoc, List.getD_eq_getElem?_getD, List.getElem?_append_right (by rw [clos_length]; exact Nat.le_refl _), clos_length]; simp
theorem be_out {es : List Ev} {i : Nat} (h : es.length ≤ i) : be es i = [] := by
  unfold be; rw [List.getD_eq_getElem?_getD, List.getElem?_eq_none (by rw [clos_length]; exact h)]; rfl
theorem latest_lt : ∀ (es : List Ev) {n : Nd} {i : Nat}, latest es n = some i → i < es.length := by
  refine snocInd (fun h => nomatch h) fun es e ih n i h => ?_
  rw [latest_snoc] at h
  split at h
  · cases h; simp
  · have := ih h; simp; omega
theorem steps_lt (es : List Ev) (e : Ev) {s : Nat} (h : s ∈ steps es e) : s < es.length := by
  have hl : ∀ n, s ∈ (latest es n).toList → s < es.length := fun n z => latest_lt es (Option.mem_toList.mp z)
  unfold steps at h
  split at h
  · exact hl _ h
  · split at h
    · rename_i e1
      split at h
      · exact hl _ h
      · rcases List.mem_append.mp h with h | h
        · exact hl _ h
        · rw [List.mem_singleton.mp h]
          exact (sends_mem es (lk_mem e1)).2.2
    · exact hl _ h
theorem be_lt : ∀ (es : List Ev) {i j : Nat}, j ∈ be es i → j < i := by
  refine snocInd (fun {i j} h => by rw [be_out (Nat.zero_le _)] at h; cases h) fun es e ih i j h => ?_
  rcases Nat.lt_or_ge i es.length with hi | hi
  · rw [be_pre _ hi] at h; exact ih h
  · rcases Nat.lt_or_ge es.length i with h2 | h2
    · rw [be_out (by simp; omega)] at h; cases h
    · have : i = es.length := by omega
      subst this
      rw [be_last, mem_bef] at h
      obtain ⟨s, hs, h⟩ := h
      have := steps_lt es e hs
      rcases h with h | h
      · omega
      · have := ih (i := s) h; omega
end Mo

/- text Mo2 -/
namespace Mo
theorem sends_lt {pre post : List Ev} {m : Msg} {i : Nat} {rs : List Nd} (h : (m, i, rs) ∈ sends (pre ++ post)) (hi : i < pre.length) : (m, i, rs) ∈ sends pre := by
  revert h
  refine snocInd (P := fun post => (m, i, rs) ∈ sends (pre ++ post) → (m, i, rs) ∈ sends pre) (fun h => by simpa using h) (fun post e ih h => ?_) post
  rw [← List.append_assoc] at h
  cases e with
  | snd n rs' =>
    rw [sends_snd, List.mem_append, List.mem_singleton] at h
    rcases h with h | h
    · exact ih h
    · cases h; simp at hi; omega
  | opn n m' => rw [sends_opn] at h; exact ih h
theorem sends_sub {pre post : List Ev} {x : Msg × Nat × List Nd} (h : x ∈ sends pre) : x ∈ sends (pre ++ post) := by
  obtain ⟨l, e⟩ := sends_pre pre post; rw [e]; exact List.mem_append_left _ h
/-! ### runs -/
def RV (nodes : List Nd) (n : Nd) (rs : List Nd) : Prop := rs ≠ [] ∧ rs.Pairwise (· < ·) ∧ ∀ r ∈ rs, r ∈ nodes ∧ r ≠ n
def VE (nodes : List Nd) (pre : List Ev) : Ev → Prop
  | .snd n rs => n ∈ nodes ∧ RV nodes n rs
  | .opn n m => n ∈ nodes ∧ (∃ i rs, lk (sends pre) m = some (i, rs) ∧ n ∈ rs) ∧ Ev.opn n m ∉ pre
def VR (nodes : List Nd) (es : List Ev) : Prop := ∀ pre e post, es = pre ++ e :: post → VE nodes pre e
theorem snoc_split {es pre post : List Ev} {e x : Ev} (h : es ++ [e] = pre ++ x :: post) : (es = pre ∧ e = x ∧ post = []) ∨ ∃ p, post = p ++ [e] ∧ es = pre ++ x :: p := by
  rcases List.eq_nil_or_concat post with rfl | ⟨p, y, rfl⟩
  · have := List.append_inj' h rfl
    exact .inl ⟨this.1, by simpa using this.2, rfl⟩
  · rw [List.concat_eq_append, ← List.cons_append, ← List.append_assoc] at h
    have := List.append_inj' h rfl
    have h2 : e = y := by simpa using this.2
    subst h2
    exact .inr ⟨p, List.concat_eq_append, this.1⟩
theorem VR_nil (nodes : List Nd) : VR nodes [] := fun pre e post h => by simp at h
theorem VR_snoc {nodes : List Nd} {es : List Ev} {e : Ev} (h : VR nodes es) (he : VE nodes es e) : VR nodes (es ++ [e]) := fun pre x post h' => by
  rcases snoc_split h' with ⟨rfl, rfl, rfl⟩ | ⟨p, rfl, rfl⟩
  · exact he
  · exact h pre x p rfl
def NE (pre : List Ev) (n : Nd) (m : Msg) : Prop := ∀ o i rs s rs', (o, i, rs) ∈ sends pre → n ∈ rs → lk (sends pre) m = some (s, rs') → i ∈ be pre s → Ev.opn n o ∈ pre
def CA (es : List Ev) : Prop := ∀ pre n m post, es = pre ++ .opn n m :: post → NE pre n m
theorem CA_nil : CA [] := fun pre n m post h => by simp at h
theorem CA_snd {es : List Ev} {n : Nd} {rs : List Nd} (h : CA es) : CA (es ++ [.snd n rs]) := fun pre x m post h' => by
  rcases snoc_split h' with ⟨_, e, _⟩ | ⟨p, rfl, rfl⟩
  · cases e
  · exact h pre x m p rfl
theorem CA_opn {es : List Ev} {n : Nd} {m : Msg} (h : CA es) (hn : NE es n m) : CA (es ++ [.opn n m]) := fun pre x m' post h' => by
  rcases snoc_split h' with ⟨rfl, e, _⟩ | ⟨p, rfl, rfl⟩
  · cases e; exact hn
  · exact h pre x m' p rfl
/-! ### order of messages -/
def leM (a b : Msg) : Bool := decide (a.1 < b.1 ∨ (a.1 = b.1 ∧ a.2 ≤ b.2))
theorem leM_trans (a b c : Msg) (h1 : leM a b = true) (h2 : leM b c = true) : leM a c = true := by
  unfold leM at *; simp only [decide_eq_true_eq] at *
  rcases h1 with h1 | ⟨h1, h1'⟩ <;> rcases h2 with h2 | ⟨h2, h2'⟩
  · exact .inl (Fin.lt_trans h1 h2)
  · exact .inl (by rw [← h2]; exact h1)
  · exact .inl (by rw [h1]; exact h2)
  · exact .inr ⟨h1.trans h2, by omega⟩
theorem leM_total (a b : Msg) : (leM a b || leM b a) = true := by
  unfold leM
  rw [Bool.or_eq_true]
  simp only [decide_eq_true_eq]
  by_cases h : a.1 = b.1
  · rcases Nat.le_total a.2 b.2 with h2 | h2
    · exact .inl (.inr ⟨h, h2⟩)
    · exact .inr (.inr ⟨h.symm, h2⟩)
  · have : a.1 < b.1 ∨ b.1 < a.1 := by
      have : a.1.val ≠ b.1.val := fun e => h (Fin.ext e)
      rcases Nat.lt_or_gt_of_ne this with h | h
      · exact .inl h
      · exact .inr h
    rcases this with h | h
    · exact .inl (.inl h)
    · exact .inr (.inl h)
def sortM (ms : List Msg) : List Msg := ms.mergeSort leM
theorem sortM_mem {ms : List Msg} {m : Msg} : m ∈ sortM ms ↔ m ∈ ms := (List.mergeSort_perm ms leM).mem_iff
theorem sortM_pw (ms : List Msg) : (sortM ms).Pairwise fun a b => leM a b = true := List.pairwise_mergeSort leM_trans leM_total ms
theorem sortM_filter (ms : List Msg) (p : Msg → Bool) : sortM ((sortM ms).filter p) = (sortM ms).filter p := List.mergeSort_of_pairwise ((sortM_pw ms).sublist List.filter_sublist)
theorem sortM_len (ms : List Msg) : (sortM ms).length = ms.length := (List.mergeSort_perm ms leM).length_eq
theorem sortM_nodup {ms : List Msg} (h : ms.Nodup) : (sortM ms).Nodup := (List.mergeSort_perm ms leM).nodup_iff.mpr h
theorem sortM_id {ms : List Msg} (h : ms.Pairwise fun a b => leM a b = true) : sortM ms = ms := List.mergeSort_of_pairwise h
/-! ### closed messages, opens that are possible next -/
def msgs (es : List Ev) : List Msg := sortM ((sends es).map (·.1))
def toN (es : List Ev) (n : Nd) (m : Msg) : Bool := match lk (sends es) m with
  | some (_, rs) => decide (n ∈ rs)
  | none => false
def clo (es : List Ev) (n : Nd) : List Msg := (msgs es).filter fun m => toN es n m && !decide (Ev.opn n m ∈ es)
def idx (es : List Ev) (m : Msg) : Nat := match lk (sends es) m with
  | some (i, _) => i
  | none => 0
/-- of some messages those sent before one -/
def sb (es : List Ev) (ms : List Msg) (m : Msg) : List Msg := ms.filter fun o => decide (idx es o ∈ be es (idx es m))
def nxt (es : List Ev) (n : Nd) : List Msg := (clo es n).filter fun m => decide (sb es (clo es n) m = [])
theorem msgs_mem {es : List Ev} {m : Msg} : m ∈ msgs es ↔ m ∈ (sends es).map (·.1) := sortM_mem
theorem clo_pw (es : List Ev) (n : Nd) : (clo es n).Pairwise fun a b => leM a b = true := (sortM_pw _).sublist List.filter_sublist
theorem msgs_nodup (es : List Ev) : (msgs es).Nodup := sortM_nodup (sends_nodup es)
theorem clo_nodup (es : List Ev) (n : Nd) : (clo es n).Nodup := (msgs_nodup es).sublist List.filter_sublist
theorem clo_mem {es : List Ev} {n : Nd} {m : Msg} : m ∈ clo es n ↔ (∃ i rs, lk (sends es) m = some (i, rs) ∧ n ∈ rs) ∧ Ev.opn n m ∉ es := by
  unfold clo
  rw [List.mem_filter, msgs_mem, Bool.and_eq_true]
  unfold toN
  constructor
  · rintro ⟨h1, h2, h3⟩
    refine ⟨?_, by simpa using h3⟩
    cases h : lk (sends es) m with
    | none => rw [h] at h2; cases h2
    | some x => obtain ⟨i, rs⟩ := x; rw [h] at h2; exact ⟨i, rs, rfl, by simpa using h2⟩
  · rintro ⟨⟨i, rs, h1, h2⟩, h3⟩
    refine ⟨List.mem_map.mpr ⟨_, lk_mem h1, rfl⟩, ?_, by simpa using h3⟩
    rw [h1]; simpa using h2
/-! ### the law's history -/
structure LS where
  es : List Ev
  past : Nd → List Nat
  sn : List (Msg × List Nd × Nat × List Nat)
  op : List ((Msg × Nd) × Nat)
def upd {α : Type} (f : Nd → α) (n : Nd) (x : α) : Nd → α := fun k => if k = n then x else f k
def LS.new : LS := ⟨[], fun _ => [], [], []⟩
def LS.sent (S : LS) (n : Nd) (rs : List Nd) : LS := ⟨S.es ++ [.snd n rs], upd S.past n (insK (S.past n) S.es.length), S.sn ++ [((n, cnt S.es n + 1), rs, S.es.length, insK (S.past n) S.es.length)], S.op⟩
def LS.opened (S : LS) (n : Nd) (m : Msg) (ks : List Nat) : LS := ⟨S.es ++ [.opn n m], upd S.past n (insK (updK (S.past n) ks) S.es.length), S.sn, S.op ++ [((m, n), S.es.length)]⟩
structure Inv (nodes : List Nd) (S : LS) : Prop where
  vr : VR nodes S.es
  ca : CA S.es
  sn1 : S.sn.map (fun p => (p.1, p.2.2.1, p.2.1)) = sends S.es
  sn2 : ∀ m rs i ks, (m, rs, i, ks) ∈ S.sn → ks.Nodup ∧ ∀ j, j ∈ ks ↔ j = i ∨ j ∈ be S.es i
  pa : ∀ n, (S.past n).Nodup ∧ ∀ j, j ∈ S.past n ↔ ∃ l, latest S.es n = some l ∧ (j = l ∨ j ∈ be S.es l)
  op1 : ∀ m n, (m, n) ∈ S.op.map (·.1) ↔ Ev.opn n m ∈ S.es
  op2 : (S.op.map (·.1)).Nodup
theorem Inv.new (nodes : List Nd) : Inv nodes LS.new where
  vr := VR_nil _
  ca := CA_nil
  sn1 := rfl
  sn2 := fun _ _ _ _ h => nomatch h
  pa := fun n => ⟨List.nodup_nil, fun j => ⟨fun h => (nomatch h), fun ⟨l, h, _⟩ => nomatch h⟩⟩
  op1 := fun m n => ⟨fun h => (nomatch h), fun h => nomatch h⟩
  op2 := List.nodup_nil
theorem Inv.snk {nodes : List Nd} {S : LS} (I : Inv nodes S) : S.sn.map (·.1) = (sends S.es).map (·.1) := by rw [← I.sn1, List.map_map]; rfl
theorem Inv.sn_mem {nodes : List Nd} {S : LS} (I : Inv nodes S) {m : Msg} {rs : List Nd} {i : Nat} {ks : List Nat} (h : (m, rs, i, ks) ∈ S.sn) : (m, i, rs) ∈ sends S.es := by
  rw [← I.sn1]; exact List.mem_map.mpr ⟨_, h, rfl⟩
theorem Inv.sn_nd {nodes : List Nd} {S : LS} (I : Inv nodes S) : (S.sn.map (·.1)).Nodup := by rw [I.snk]; exact sends_nodup _
theorem Inv.sn_lk {nodes : List Nd} {S : LS} (I : Inv nodes S) {m : Msg} {rs : List Nd} {i : Nat} {ks : List Nat} (h : lk S.sn m = some (rs, i, ks)) : lk (sends S.es) m = some (i, rs) := lk_of_mem (sends_nodup _) (I.sn_mem (lk_mem h))
theorem Inv.sn_lk' {nodes : List Nd} {S : LS} (I : Inv nodes S) {m : Msg} {rs : List Nd} {i : Nat} (h : lk (sends S.es) m = some (i, rs)) : ∃ ks, lk S.sn m = some (rs, i, ks) := by
  have h1 := lk_mem h
  rw [← I.sn1] at h1
  obtain ⟨⟨m', rs', i', ks⟩, h2, e⟩ := List.mem_map.mp h1
  cases e
  exact ⟨ks, lk_of_mem I.sn_nd h2⟩
theorem Inv.lenS {nodes : List Nd} {S : LS} (I : Inv nodes S) : S.sn.length = (sends S.es).length := by rw [← I.sn1, List.length_map]
theorem be_snoc {es : List Ev} {e : Ev} {i : Nat} (h : i < es.length) : be (es ++ [e]) i = be es i := be_pre [e] h
theorem Inv.sent {nodes : List Nd} {S : LS} (I : Inv nodes S) {n : Nd} {rs : List Nd} (hn : n ∈ nodes) (hr : RV nodes n rs) : Inv nodes (S.sent n rs) where
  vr := VR_snoc I.vr ⟨hn, hr⟩
  ca := CA_snd I.ca
  sn1 := by unfold LS.sent; rw [sends_snd, List.map_append, I.sn1]; rfl
  sn2 := by
    have hb : ∀ j, j ∈ be (S.es ++ [.snd n rs]) S.es.length ↔ j ∈ S.past n := fun j => by
      rw [be_last, mem_bef, (I.pa n).2]
      unfold steps
      simp only [Option.mem_toList]; rfl
    intro m rs' i ks h
    rcases List.mem_append.mp h with h | h
    · obtain ⟨a, b⟩ := I.sn2 m rs' i ks h
      refine ⟨a, fun j => ?_⟩
      rw [b j]
      show _ ↔ _ ∨ j ∈ be (S.es ++ [_]) i
      rw [be_snoc (sends_mem _ (I.sn_mem h)).2.2]
    · cases List.mem_singleton.mp h
      refine ⟨insK_nodup (I.pa n).1, fun j => ?_⟩
      show _ ↔ j = S.es.length ∨ j ∈ be (S.es ++ [_]) S.es.length
      rw [mem_insK, hb, Or.comm]
  pa := by
    have hb : ∀ j, j ∈ be (S.es ++ [.snd n rs]) S.es.length ↔ j ∈ S.past n := fun j => by
      rw [be_last, mem_bef, (I.pa n).2]
      unfold steps
      simp only [Option.mem_toList]; rfl
    intro k
    show (upd S.past n _ k).Nodup ∧ ∀ j, j ∈ upd S.past n _ k ↔ ∃ l, latest (S.es ++ [_]) k = some l ∧ (j = l ∨ j ∈ be (S.es ++ [_]) l)
    unfold upd
    rw [latest_snoc]
    by_cases h : k = n
    · subst h
      rw [if_pos rfl, if_pos (show Ev.node (.snd k rs) = k from rfl)]
      refine ⟨insK_nodup (I.pa k).1, fun j => ?_⟩
      rw [mem_insK]
      constructor
      · rintro (h | h)
        · exact ⟨_, rfl, .inr ((hb j).mpr h)⟩
        · exact ⟨_, rfl, .inl h⟩
      · rintro ⟨l, e, h⟩
        cases e
        rcases h with h | h
        · exact .inr h
        · exact .inl ((hb j).mp h)
    · rw [if_neg h, if_neg (show ¬ Ev.node (.snd n rs) = k from fun e => h e.symm)]
      refine ⟨(I.pa k).1, fun j => ?_⟩
      rw [(I.pa k).2]
      constructor <;> rintro ⟨l, e, h⟩ <;> refine ⟨l, e, ?_⟩
      · rw [be_snoc (latest_lt _ e)]; exact h
      · rw [be_snoc (latest_lt _ e)] at h; exact h
  op1 := fun m k => by
    rw [show (S.sent n rs).op = S.op from rfl, I.op1]
    show _ ↔ _ ∈ S.es ++ [_]
    rw [List.mem_append]
    simp
  op2 := I.op2
theorem Inv.opened {nodes : List Nd} {S : LS} (I : Inv nodes S) {n : Nd} {m : Msg} {rs : List Nd} {i : Nat} {ks : List Nat} (hn : n ∈ nodes) (hm : lk S.sn m = some (rs, i, ks)) (hr : n ∈ rs) (ho : Ev.opn n m ∉ S.es) (hc : NE S.es n m) : Inv nodes (S.opened n m ks) where
  vr := VR_snoc I.vr ⟨hn, ⟨i, rs, I.sn_lk hm, hr⟩, ho⟩
  ca := CA_opn I.ca hc
  sn1 := by unfold LS.opened; rw [sends_opn]; exact I.sn1
  sn2 := by
    intro m' rs' i' ks' h
    obtain ⟨a, b⟩ := I.sn2 m' rs' i' ks' h
    refine ⟨a, fun j => ?_⟩
    rw [b j]
    show _ ↔ _ ∨ j ∈ be (S.es ++ [_]) i'
    rw [be_snoc (sends_mem _ (I.sn_mem h)).2.2]
  pa := by
    have hl := I.sn_lk hm
    have hk := (I.sn2 m rs i ks (lk_mem hm)).2
    have hb : ∀ j, j ∈ be (S.es ++ [.opn n m]) S.es.length ↔ j ∈ S.past n ∨ j ∈ ks := fun j => by
      rw [be_last, mem_bef, (I.pa n).2, hk]
      unfold steps
      simp only [hl]
      constructor
      · rintro ⟨s, hs, h⟩
        split at hs
        · exact .inl ⟨s, Option.mem_toList.mp hs, h⟩
        · rcases List.mem_append.mp hs with hs | hs
          · exact .inl ⟨s, Option.mem_toList.mp hs, h⟩
          · cases List.mem_singleton.mp hs; exact .inr h
      · rintro (⟨l, e, h⟩ | h)
        · refine ⟨l, ?_, h⟩
          split
          · exact Option.mem_toList.mpr e
          · exact List.mem_append_left _ (Option.mem_toList.mpr e)
        · refine ⟨i, ?_, h⟩
          split
          · assumption
          · exact List.mem_append_right _ List.mem_cons_self
    intro k
    show (upd S.past n _ k).Nodup ∧ ∀ j, j ∈ upd S.past n _ k ↔ ∃ l, latest (S.es ++ [_]) k = some l ∧ (j = l ∨ j ∈ be (S.es ++ [_]) l)
    unfold upd
    rw [latest_snoc]
    by_cases h : k = n
    · subst h
      rw [if_pos rfl, if_pos (show Ev.node (.opn k m) = k from rfl)]
      refine ⟨insK_nodup (updK_nodup (I.pa k).1), fun j => ?_⟩
      rw [mem_insK, mem_updK]
      constructor
      · rintro (h | h)
        · exact ⟨_, rfl, .inr ((hb j).mpr h)⟩
        · exact ⟨_, rfl, .inl h⟩
      · rintro ⟨l, e, h⟩
        cases e
        rcases h with h | h
        · exact .inr h
        · exact .inl ((hb j).mp h)
    · rw [if_neg h, if_neg (show ¬ Ev.node (.opn n m) = k from fun e => h e.symm)]
      refine ⟨(I.pa k).1, fun j => ?_⟩
      rw [(I.pa k).2]
      constructor <;> rintro ⟨l, e, h⟩ <;> refine ⟨l, e, ?_⟩
      · rw [be_snoc (latest_lt _ e)]; exact h
      · rw [be_snoc (latest_lt _ e)] at h; exact h
  op1 := fun m' k => by
    show (m', k) ∈ (S.op ++ [((m, n), S.es.length)]).map (·.1) ↔ _ ∈ S.es ++ [_]
    rw [List.map_append, List.mem_append, I.op1, List.mem_append]
    simp
    rw [And.comm (a := m' = m)]
  op2 := by
    show ((S.op ++ [((m, n), S.es.length)]).map (·.1)).Nodup
    rw [List.map_append, List.nodup_append]
    refine ⟨I.op2, by simp, fun a ha b hb e => ?_⟩
    simp at hb
    subst hb; subst e
    exact ho ((I.op1 m n).mp ha)
/-- what the law finds -/
def LS.cp (S : LS) (n : Nd) (m : Msg) : Bool := match lk S.sn m with
  | some (rs, _) => decide (n ∈ rs)
  | none => false
def LS.closed (S : LS) (n : Nd) : List Msg := ((sortM (S.sn.map (·.1))).filter (S.cp n)).filter fun m => !(lk S.op (m, n)).isSome
def LS.fp (S : LS) (n : Nd) (m o : Msg) : Bool := match lk S.sn o, lk S.sn m with
  | some (rs, i, _), some (_, _, ks) => decide (o ≠ m) && decide (n ∈ rs) && decide (i ∈ ks) && !(lk S.op (o, n)).isSome
  | _, _ => false
def LS.first (S : LS) (n : Nd) (m : Msg) : List Msg := (sortM (S.sn.map (·.1))).filter (S.fp n m)
theorem Inv.op_is {nodes : List Nd} {S : LS} (I : Inv nodes S) (m : Msg) (n : Nd) : (lk S.op (m, n)).isSome = decide (Ev.opn n m ∈ S.es) := by
  rw [lk_isSome]; exact decide_eq_decide.mpr (I.op1 m n)
theorem Inv.closed_eq {nodes : List Nd} {S : LS} (I : Inv nodes S) (n : Nd) : S.closed n = clo S.es n := by
  unfold LS.closed clo msgs
  rw [List.filter_filter, I.snk]
  refine List.filter_congr fun m hm => ?_
  rw [I.op_is, Bool.and_comm]
  congr 1
  unfold toN LS.cp
  have h1 : m ∈ (sends S.es).map (·.1) := sortM_mem.mp hm
  cases h : lk (sends S.es) m with
  | none => exact absurd h1 (lk_none.mp h)
  | some x => obtain ⟨i, rs⟩ := x; obtain ⟨ks, e⟩ := I.sn_lk' h; rw [e]
theorem Inv.first_nil {nodes : List Nd} {S : LS} (I : Inv nodes S) {n : Nd} {m : Msg} (hm : m ∈ clo S.es n) : S.first n m = [] ↔ sb S.es (clo S.es n) m = [] := by
  obtain ⟨⟨i, rs, h1, h2⟩, h3⟩ := clo_mem.mp hm
  obtain ⟨ks, h4⟩ := I.sn_lk' h1
  obtain ⟨_, hk⟩ := I.sn2 m rs i ks (lk_mem h4)
  have ei : idx S.es m = i := by unfold idx; rw [h1]
  unfold LS.first sb
  rw [List.filter_eq_nil_iff, List.filter_eq_nil_iff]
  constructor
  · intro h o ho hb
    obtain ⟨⟨j, qs, g1, g2⟩, g3⟩ := clo_mem.mp ho
    obtain ⟨ls, g4⟩ := I.sn_lk' g1
    have ej : idx S.es o = j := by unfold idx; rw [g1]
    refine h o (sortM_mem.mpr (by rw [I.snk]; exact List.mem_map.mpr ⟨_, lk_mem g1, rfl⟩)) ?_
    unfold LS.fp
    rw [g4, h4]
    simp only [Bool.and_eq_true, decide_eq_true_eq]
    rw [ei, ej] at hb
    have hb' : j ∈ be S.es i := by simpa using hb
    refine ⟨⟨⟨fun e => ?_, g2⟩, (hk j).mpr (.inr hb')⟩, by rw [I.op_is]; simpa using g3⟩
    subst e
    rw [g1] at h1; cases h1
    have := be_lt _ hb'; omega
  · intro h o ho hb
    unfold LS.fp at hb
    cases g4 : lk S.sn o with
    | none => rw [g4] at hb; cases hb
    | some x =>
      obtain ⟨qs, j, ls⟩ := x
      rw [g4, h4] at hb
      simp only [Bool.and_eq_true, decide_eq_true_eq] at hb
      obtain ⟨⟨⟨b1, b2⟩, b3⟩, b4⟩ := hb
      have g1 := I.sn_lk g4
      have ej : idx S.es o = j := by unfold idx; rw [g1]
      refine h o (clo_mem.mpr ⟨⟨j, qs, g1, b2⟩, by rw [I.op_is] at b4; simpa using b4⟩) ?_
      rw [ei, ej]
      rcases (hk j).mp b3 with e | e
      · subst e
        exact absurd (sends_idx_inj _ (lk_mem g1) (lk_mem h1)) b1
      · simpa using e
theorem Inv.NE_of {nodes : List Nd} {S : LS} (I : Inv nodes S) {n : Nd} {m : Msg} (h : S.first n m = []) : NE S.es n m := fun o i rs s rs' h1 h2 h3 h4 => by
  refine Classical.byContradiction fun h5 => ?_
  obtain ⟨ks, h6⟩ := I.sn_lk' h3
  obtain ⟨_, hk⟩ := I.sn2 m rs' s ks (lk_mem h6)
  have h1' := lk_of_mem (sends_nodup _) h1
  obtain ⟨ls, h7⟩ := I.sn_lk' h1'
  unfold LS.first at h
  rw [List.filter_eq_nil_iff] at h
  refine h o (sortM_mem.mpr (by rw [I.snk]; exact List.mem_map.mpr ⟨_, h1, rfl⟩)) ?_
  unfold LS.fp
  rw [h7, h6]
  simp only [Bool.and_eq_true, decide_eq_true_eq]
  refine ⟨⟨⟨fun e => ?_, h2⟩, (hk i).mpr (.inr h4)⟩, by rw [I.op_is]; simpa using h5⟩
  subst e
  rw [h1'] at h3; cases h3
  have := be_lt _ h4; omega
end Mo

/- text Nm -/
set_option Elab.async false
set_option maxRecDepth 100000
set_option maxHeartbeats 400000
namespace Lw
open PySem PySem.Spec L2 Wl Mo
open PyProof.Rows hiding St
/-- the names, in order -/
def NM : List Str := ["a", "aaaaaaaa", "ab", "b", "c", "d", "n", "na", "nb", "nc", "nd", "ne", "needed", "nf", "ng", "nh", "ni", "nj", "nk", "nl", "open", "send", "x", "y", "z", "zzzzzzzz"]
def nmS (i : Nd) : Str := NM.getD i.val ""
def nmD (i : Nd) : D := .str (nmS i)
def mD (m : Msg) : D := .tuple [nmD m.1, .int m.2]
def lD (ns : List Nd) : D := .list (ns.map nmD)
def mnD (p : Msg × Nd) : D := .tuple [mD p.1, nmD p.2]
def nmmD (p : Nd × Msg) : D := .tuple [nmD p.1, mD p.2]
abbrev iD (i : Nat) : D := .int (i : Int)
def eD : Ev → D
  | .snd n rs => .tuple [.str "send", nmD n, lD rs]
  | .opn n m => .tuple [.str "open", nmD n, mD m]
theorem nmS_inj : ∀ i j : Nd, nmS i = nmS j → i = j := by decide +kernel
theorem nm_ok (i : Nd) : PyData.strOk (nmS i) = true := by revert i; decide +kernel
theorem nm_lt (i j : Nd) : PySem.W.dataLt (nmD i) (nmD j) = decide (i < j) := by revert i j; decide +kernel
theorem nm_len (i : Nd) : 1 ≤ (nmS i).length ∧ (nmS i).length ≤ 8 := by revert i; decide +kernel
/-! ### equality -/
theorem eqv_nm (i j : Nd) : PyData.eqv (nmD i) (nmD j) = decide (i = j) := by
  unfold nmD
  rw [PyData.eqv]
  by_cases h : i = j
  · subst h; simp
  · rw [decide_eq_false h]
    exact beq_eq_false_iff_ne.mpr fun e => h (nmS_inj _ _ e)
theorem eqv_i (i j : Nat) : PyData.eqv (iD i) (iD j) = decide (i = j) := by
  unfold iD; rw [PyData.eqv]
  by_cases h : i = j
  · subst h; simp
  · rw [decide_eq_false h]; exact beq_eq_false_iff_ne.mpr fun e => h (by omega)
theorem eqv_ii (i j : Int) : PyData.eqv (.int i) (.int j) = decide (i = j) := by
  rw [PyData.eqv]
  by_cases h : i = j
  · subst h; simp
  · rw [decide_eq_false h]; exact beq_eq_false_iff_ne.mpr h
theorem eqv_t2 {a b c d : D} : PyData.eqv (.tuple [a, b]) (.tuple [c, d]) = (PyData.eqv a c && PyData.eqv b d) := by
  rw [PyData.eqv, PyData.eqvAll, PyData.eqvAll, PyData.eqvAll, Bool.and_true]
theorem eqv_m (a b : Msg) : PyData.eqv (mD a) (mD b) = decide (a = b) := by
  unfold mD
  rw [eqv_t2, eqv_nm, eqv_ii, ← Bool.decide_and]
  exact decide_eq_decide.mpr ⟨fun ⟨x, y⟩ => Prod.ext x (by omega), fun e => by subst e; exact ⟨rfl, rfl⟩⟩
theorem eqv_mn (a b : Msg × Nd) : PyData.eqv (mnD a) (mnD b) = decide (a = b) := by
  unfold mnD
  rw [eqv_t2, eqv_nm, eqv_m, ← Bool.decide_and]
  exact decide_eq_decide.mpr ⟨fun ⟨x, y⟩ => Prod.ext x y, fun e => by subst e; exact ⟨rfl, rfl⟩⟩
theorem eqv_nmm (a b : Nd × Msg) : PyData.eqv (nmmD a) (nmmD b) = decide (a = b) := by
  unfold nmmD
  rw [eqv_t2, eqv_nm, eqv_m, ← Bool.decide_and]
  exact decide_eq_decide.mpr ⟨fun ⟨x, y⟩ => Prod.ext x y, fun e => by subst e; exact ⟨rfl, rfl⟩⟩
theorem eqv_map {α : Type} [DecidableEq α] {e : α → D} (h : ∀ a b, PyData.eqv (e a) (e b) = decide (a = b)) : ∀ xs ys : List α, PyData.eqvAll (xs.map e) (ys.map e) = decide (xs = ys)
  | [], [] => by simp [PyData.eqvAll]
  | [], y :: ys => by simp [PyData.eqvAll]
  | x :: xs, [] => by simp [PyData.eqvAll]
  | x :: xs, y :: ys => by
    rw [List.map_cons, List.map_cons, PyData.eqvAll, h, eqv_map h xs ys, ← Bool.decide_and]
    exact decide_eq_decide.mpr (by simp)
theorem eqv_list {α : Type} [DecidableEq α] {e : α → D} (h : ∀ a b, PyData.eqv (e a) (e b) = decide (a = b)) (xs ys : List α) : PyData.eqv (.list (xs.map e)) (.list (ys.map e)) = decide (xs = ys) := by rw [PyData.eqv, eqv_map h]
theorem eqv_e (a b : Ev) : PyData.eqv (eD a) (eD b) = decide (a = b) := by
  cases a <;> cases b
  · rename_i n rs n' rs'
    unfold eD
    rw [PyData.eqv, PyData.eqvAll, PyData.eqvAll, PyData.eqvAll, PyData.eqvAll, PyData.eqv, eqv_nm, lD, lD, eqv_list eqv_nm]
    simp [Bool.decide_and]
  · unfold eD; rw [PyData.eqv, PyData.eqvAll, PyData.eqv]; simp; exact fun h => absurd h (by decide +kernel)
  · unfold eD; rw [PyData.eqv, PyData.eqvAll, PyData.eqv]; simp; exact fun h => absurd h (by decide +kernel)
  · unfold eD
    rw [PyData.eqv, PyData.eqvAll, PyData.eqvAll, PyData.eqvAll, PyData.eqvAll, PyData.eqv, eqv_nm, eqv_m]
    simp [Bool.decide_and]
/-! ### size and form -/
structure Fm (d : D) : Prop where
  lay : d.canLay0 = true
  show_ : d.showable = true
theorem fm_nm (i : Nd) : Fm (nmD i) := ⟨nm_ok i, rfl⟩
def depthOf (d : D) (k : Nat) : Prop := d.depth ≤ k
theorem dep_nm (i : Nd) : (nmD i).depth = 0 := rfl
theorem dep_m (m : Msg) : (mD m).depth = 1 := rfl
theorem dep_mn (m : Msg × Nd) : (mnD m).depth = 2 := rfl
theorem dep_nmm (m : Nd × Msg) : (nmmD m).depth = 2 := rfl
theorem dep_map {α : Type} {e : α → D} {k : Nat} (h : ∀ a, (e a).depth ≤ k) : ∀ xs : List α, PyData.depthAll (xs.map e) ≤ k
  | [] => Nat.zero_le _
  | x :: xs => by rw [List.map_cons, PyData.depthAll]; exact Nat.max_le.mpr ⟨h x, dep_map h xs⟩
theorem dep_list {α : Type} {e : α → D} {k : Nat} (h : ∀ a, (e a).depth ≤ k) (xs : List α) : (PyData.list (xs.map e)).depth ≤ k + 1 := by rw [PyData.depth]; exact Nat.succ_le_succ (dep_map h xs)
theorem lay_map {α : Type} {e : α → D} (h : ∀ a, (e a).canLay0 = true) : ∀ xs : List α, PyData.canLayAll0 (xs.map e) = true
  | [] => by simp [PyData.canLayAll0]
  | x :: xs => by rw [List.map_cons, PyData.canLayAll0, h, lay_map h xs]; rfl
theorem lay_nm (i : Nd) : (nmD i).canLay0 = true := nm_ok i
theorem lay_m (m : Msg) : (mD m).canLay0 = true := by unfold mD; simp [PyData.canLay0, PyData.canLayAll0, lay_nm]
theorem lay_mn (p : Msg × Nd) : (mnD p).canLay0 = true := by unfold mnD; simp [PyData.canLay0, PyData.canLayAll0, lay_nm, lay_m]
theorem lay_nmm (p : Nd × Msg) : (nmmD p).canLay0 = true := by unfold nmmD; simp [PyData.canLay0, PyData.canLayAll0, lay_nm, lay_m]
theorem lay_l (ns : List Nd) : (lD ns).canLay0 = true := by unfold lD; rw [PyData.canLay0]; exact lay_map lay_nm ns
theorem lay_e (e : Ev) : (eD e).canLay0 = true := by
  cases e <;> simp [eD, PyData.canLay0, PyData.canLayAll0, lay_nm, lay_m, lay_l] <;> decide +kernel
theorem dep_l (ns : List Nd) : (lD ns).depth ≤ 1 := dep_list (k := 0) (fun a => Nat.le_refl _) ns
theorem dep_e (e : Ev) : (eD e).depth ≤ 2 := by
  cases e
  · rename_i n rs
    have := dep_l rs
    simp only [eD, PyData.depth, PyData.depthAll, dep_nm]; omega
  · simp only [eD, PyData.depth, PyData.depthAll, dep_nm, dep_m]; decide
theorem shp_of {d : D} (h : d.canLay0 = true) {k : Nat} (h2 : d.depth ≤ k) (hk : k ≤ 64 := by decide) : SeqAt.shaped d = true := by
  unfold SeqAt.shaped; rw [h, decide_eq_true (Nat.le_trans h2 hk)]; rfl
theorem sh_nm (i : Nd) : SeqAt.shaped (nmD i) = true := shp_of (lay_nm i) (Nat.le_of_eq (dep_nm i))
theorem sh_m (m : Msg) : SeqAt.shaped (mD m) = true := shp_of (lay_m m) (Nat.le_of_eq (dep_m m))
theorem sh_mn (m : Msg × Nd) : SeqAt.shaped (mnD m) = true := shp_of (lay_mn m) (Nat.le_of_eq (dep_mn m))
theorem sh_nmm (m : Nd × Msg) : SeqAt.shaped (nmmD m) = true := shp_of (lay_nmm m) (Nat.le_of_eq (dep_nmm m))
theorem sh_e (e : Ev) : SeqAt.shaped (eD e) = true := shp_of (lay_e e) (dep_e e)
theorem sh_i (i : Int) : SeqAt.shaped (.int i) = true := rfl
theorem sh_iD (i : Nat) : SeqAt.shaped (iD i) = true := rfl
theorem sh_list {α : Type} {e : α → D} (h : ∀ a, (e a).canLay0 = true) (h2 : ∀ a, (e a).depth ≤ 60) (xs : List α) : SeqAt.shaped (.list (xs.map e)) = true :=
  shp_of (by rw [PyData.canLay0]; exact lay_map h xs) (dep_list h2 xs)
theorem sh_l (ns : List Nd) : SeqAt.shaped (lD ns) = true := shp_of (lay_l ns) (dep_l ns)
theorem lay_of {d : D} (h : SeqAt.shaped d = true) : d.canLay0 = true := SeqAt.canLay_of_shaped h
/-! ### kinds of values: what they are as data -/
structure VE' (α : Type) [DecidableEq α] (e : α → D) : Prop where
  eqv : ∀ a b, PyData.eqv (e a) (e b) = decide (a = b)
  lay : ∀ a, (e a).canLay0 = true
  dep : ∀ a, (e a).depth ≤ 60
theorem VE'.sh {α : Type} [DecidableEq α] {e : α → D} (h : VE' α e) (a : α) : SeqAt.shaped (e a) = true := shp_of (h.lay a) (h.dep a)
theorem VE'.shL {α : Type} [DecidableEq α] {e : α → D} (h : VE' α e) (xs : List α) : SeqAt.shaped (.list (xs.map e)) = true := sh_list h.lay h.dep xs
theorem v_nm : VE' Nd nmD := ⟨eqv_nm, lay_nm, fun a => by rw [dep_nm]; decide⟩
theorem v_m : VE' Msg mD := ⟨eqv_m, lay_m, fun a => by rw [dep_m]; decide⟩
theorem v_mn : VE' (Msg × Nd) mnD := ⟨eqv_mn, lay_mn, fun a => by rw [dep_mn]; decide⟩
theorem v_nmm : VE' (Nd × Msg) nmmD := ⟨eqv_nmm, lay_nmm, fun a => by rw [dep_nmm]; decide⟩
theorem v_e : VE' Ev eD := ⟨eqv_e, lay_e, fun a => Nat.le_trans (dep_e a) (by decide)⟩
theorem v_i : VE' Nat iD := ⟨eqv_i, fun _ => rfl, fun _ => Nat.zero_le _⟩
section
variable {P : O → Prop} {α : Type} [DecidableEq α] {e : α → D}
theorem oz_eqV (h : VE' α e) {a b : α} : OptP (oSc dEq [.sh (e a), .sh (e b)]) P ↔ P (.sh (.bool (decide (a = b)))) := by
  have : oSc dEq [.sh (e a), .sh (e b)] = some (.sh (.bool (decide (a = b)))) := by
    show (match (if (SeqAt.shaped (e a) && SeqAt.shaped (e b)) = true then some (PyData.bool (PyData.eqv (e a) (e b))) else none) with | some d => some (O.sh d) | none => none) = _
    rw [h.sh, h.sh, h.eqv]; rfl
  rw [this, optP_some]
theorem oz_neV (h : VE' α e) {a b : α} : OptP (oSc dNe [.sh (e a), .sh (e b)]) P ↔ P (.sh (.bool (!decide (a = b)))) := by
  have : oSc dNe [.sh (e a), .sh (e b)] = some (.sh (.bool (!decide (a = b)))) := by
    show (match (if (SeqAt.shaped (e a) && SeqAt.shaped (e b)) = true then some (PyData.bool (!PyData.eqv (e a) (e b))) else none) with | some d => some (O.sh d) | none => none) = _
    rw [h.sh, h.sh, h.eqv]; rfl
  rw [this, optP_some]
theorem any_eqv (h : VE' α e) {a : α} (xs : List α) : ((xs.map e).any fun z => PyData.eqv z (e a)) = decide (a ∈ xs) := by
  induction xs with
  | nil => rfl
  | cons x xs ih => rw [List.map_cons, List.any_cons, ih, h.eqv, ← Bool.decide_or]; exact decide_eq_decide.mpr (by rw [List.mem_cons, eq_comm])
theorem oz_inV (h : VE' α e) {a : α} {xs : List α} : OptP (oIn [.sh (e a), .sh (.list (xs.map e))]) P ↔ P (.sh (.bool (decide (a ∈ xs)))) := by
  have : oIn [.sh (e a), .sh (.list (xs.map e))] = some (.sh (.bool (decide (a ∈ xs)))) := by
    unfold oIn orO oDIn asD asDc
    show (match (match (if (SeqAt.shaped (e a) && SeqAt.shaped (.list (xs.map e))) = true then some (PyData.bool ((xs.map e).any fun z => PyData.eqv z (e a))) else none) with | some d => some (O.sh d) | none => none) with | some o => some o | none => _) = _
    rw [h.sh, h.shL, any_eqv h]; rfl
  rw [this, optP_some]
theorem oz_inO (h : VE' α e) {a : α} {xs : List α} : OptP (oIn [.sh (e a), .ol (xs.map e)]) P ↔ P (.sh (.bool (decide (a ∈ xs)))) := by
  have : oIn [.sh (e a), .ol (xs.map e)] = some (.sh (.bool (decide (a ∈ xs)))) := by
    unfold oIn orO oDIn asD asDc
    show (match (match (if (SeqAt.shaped (e a) && SeqAt.shaped (.list (xs.map e))) = true then some (PyData.bool ((xs.map e).any fun z => PyData.eqv z (e a))) else none) with | some d => some (O.sh d) | none => none) with | some o => some o | none => _) = _
    rw [h.sh, h.shL, any_eqv h]; rfl
  rw [this, optP_some]
theorem oz_niV (h : VE' α e) {a : α} {xs : List α} : OptP (oNotIn [.sh (e a), .sh (.list (xs.map e))]) P ↔ P (.sh (.bool (!decide (a ∈ xs)))) := by
  have : oNotIn [.sh (e a), .sh (.list (xs.map e))] = some (.sh (.bool (!decide (a ∈ xs)))) := by
    unfold oNotIn orO oDIn asD asDc
    show (match (if (SeqAt.shaped (e a) && SeqAt.shaped (.list (xs.map e))) = true then some (PyData.bool (!(xs.map e).any fun z => PyData.eqv z (e a))) else none) with | some d => some (O.sh d) | none => none) = _
    rw [h.sh, h.shL, any_eqv h]; rfl
  rw [this, optP_some]
theorem oz_niO (h : VE' α e) {a : α} {xs : List α} : OptP (oNotIn [.sh (e a), .ol (xs.map e)]) P ↔ P (.sh (.bool (!decide (a ∈ xs)))) := by
  have : oNotIn [.sh (e a), .ol (xs.map e)] = some (.sh (.bool (!decide (a ∈ xs)))) := by
    unfold oNotIn orO oDIn asD asDc
    show (match (if (SeqAt.shaped (e a) && SeqAt.shaped (.list (xs.map e))) = true then some (PyData.bool (!(xs.map e).any fun z => PyData.eqv z (e a))) else none) with | some d => some (O.sh d) | none => none) = _
    rw [h.sh, h.shL, any_eqv h]; rfl
  rw [this, optP_some]
end
/-! ### order -/
theorem alike_nm (i j : Nd) : PySem.W.alike (nmD i) (nmD j) = true := rfl
theorem alike_m (a b : Msg) : PySem.W.alike (mD a) (mD b) = true := rfl
theorem lt_m (a b : Msg) : PySem.W.dataLt (mD a) (mD b) = decide (a.1 < b.1 ∨ (a.1 = b.1 ∧ a.2 < b.2)) := by
  unfold mD
  rw [PySem.W.dataLt_tuple]
  by_cases h : a.1 = b.1
  · rw [PySem.W.dataLt_all_yes (alike_nm _ _) (by rw [eqv_nm, decide_eq_true h])]
    by_cases h2 : a.2 = b.2
    · rw [h2, PySem.W.dataLt_all_yes rfl (by rw [eqv_ii]; simp)]
      rw [decide_eq_false (by rintro (z | ⟨_, z⟩) <;> simp_all)]
      kernel_rfl
    · rw [PySem.W.dataLt_all_no rfl (by rw [eqv_ii, decide_eq_false]; omega), PySem.W.dataLt_int]
      exact decide_eq_decide.mpr ⟨fun z => .inr ⟨h, by omega⟩, fun z => by rcases z with z | ⟨_, z⟩ <;> simp_all⟩
  · rw [PySem.W.dataLt_all_no (alike_nm _ _) (by rw [eqv_nm, decide_eq_false h]), nm_lt]
    exact decide_eq_decide.mpr ⟨.inl, fun z => z.elim id fun z => absurd z.1 h⟩
theorem le_m (a b : Msg) : leD (mD a) (mD b) = leM a b := by
  show (!PySem.W.dataLt (mD b) (mD a)) = _
  rw [lt_m]; unfold leM
  rw [← decide_not]
  refine decide_eq_decide.mpr ⟨fun h => ?_, fun h z => ?_⟩
  · by_cases h1 : a.1 < b.1
    · exact .inl h1
    · have h2 : a.1.val = b.1.val := by
        have h3 : ¬ b.1 < a.1 := fun z => h (.inl z)
        have := Fin.not_lt.mp h1; have := Fin.not_lt.mp h3; omega
      have h2 := Fin.ext h2
      exact .inr ⟨h2, Nat.not_lt.mp fun z => h (.inr ⟨h2.symm, z⟩)⟩
  · rcases h with h | ⟨h, h'⟩ <;> rcases z with z | ⟨z, z'⟩
    · exact absurd (Fin.lt_trans h z) (Fin.lt_irrefl _)
    · rw [z] at h; exact Fin.lt_irrefl _ h
    · rw [h] at z; exact Fin.lt_irrefl _ z
    · omega
theorem le_nm (a b : Nd) : leD (nmD a) (nmD b) = decide (a ≤ b) := by
  show (!PySem.W.dataLt (nmD b) (nmD a)) = _
  rw [nm_lt, ← decide_not]; exact decide_eq_decide.mpr Fin.not_lt
theorem le_i (a b : Nat) : leD (iD a) (iD b) = decide (a ≤ b) := by
  show (!PySem.W.dataLt (iD b) (iD a)) = _
  unfold iD
  rw [PySem.W.dataLt_int, ← decide_not]; exact decide_eq_decide.mpr (by omega)
theorem sort_m (ms : List Msg) : sortD (ms.map mD) = (sortM ms).map mD := (List.map_mergeSort fun a _ b _ => (le_m a b).symm).symm
theorem sortOk_of {α : Type} {e : α → D} (t : Bool) (hl : ∀ a, (e a).canLay0 = true) (ha : ∀ a b, PySem.W.alike (e a) (e b) = true) (hd : ∀ a, (e a).depth ≤ 60) (h1 : ∀ a, isTup1 (e a) = true ∨ noTup (e a) = true) (h2 : (∀ a, isTup1 (e a) = true) ∨ (∀ a, noTup (e a) = true)) (xs : List α) (h : xs.length ≤ sizeLine) : sortOk (xs.map e) = true := by
  unfold sortOk alikeB
  simp only [lay_map hl, Bool.true_and, Bool.and_eq_true, Bool.or_eq_true, List.all_eq_true, List.mem_map, decide_eq_true_iff, List.length_map]
  refine ⟨⟨⟨?_, ?_⟩, ?_⟩, h⟩
  · rintro _ ⟨a, _, rfl⟩ _ ⟨b, _, rfl⟩; exact ha a b
  · rcases h2 with h2 | h2
    · exact .inl (by rintro _ ⟨a, _, rfl⟩; exact h2 a)
    · exact .inr (by rintro _ ⟨a, _, rfl⟩; exact h2 a)
  · rintro _ ⟨a, _, rfl⟩; exact hd a
theorem sortOk_m (ms : List Msg) (h : ms.length ≤ sizeLine) : sortOk (ms.map mD) = true := sortOk_of true lay_m alike_m (fun a => by rw [dep_m]; decide) (fun _ => .inl rfl) (.inl fun _ => rfl) ms h
theorem sortOk_nm (ms : List Nd) (h : ms.length ≤ sizeLine) : sortOk (ms.map nmD) = true := sortOk_of true lay_nm alike_nm (fun a => by rw [dep_nm]; decide) (fun _ => .inr rfl) (.inr fun _ => rfl) ms h
theorem oz_sortO {P : O → Prop} {ms : List Msg} : OptP (oSorted [.ol (ms.map mD)]) P ↔ sortOk (ms.map mD) = true ∧ P (.ol ((sortM ms).map mD)) := by
  have e : oSorted [.ol (ms.map mD)] = if sortOk (ms.map mD) = true then some (.ol ((sortM ms).map mD)) else none := by rw [← sort_m]; rfl
  rw [e]
  by_cases h : sortOk (ms.map mD) = true
  · rw [if_pos h, optP_some]; exact ⟨fun z => ⟨h, z⟩, fun z => z.2⟩
  · rw [if_neg h]; exact ⟨fun ⟨_, z, _⟩ => (nomatch z), fun z => absurd z.1 h⟩
/-! ### dicts -/
structure KE' (κ : Type) [DecidableEq κ] (ek : κ → D) (t : Bool) : Prop where
  keq : ∀ a b, Wl.keq (ek a) (ek b) = decide (a = b)
  ok : ∀ a, okKey (ek a) = true
  t : ∀ a, isT (ek a) = t
theorem nkey_nm (i : Nd) : nkey (nmD i) = some (.text (nmS i)) := by unfold nmD; rw [nkey]
theorem nkey_i (i : Int) : nkey (.int i) = some (.num i) := by rw [nkey]
theorem nkey_m (m : Msg) : nkey (mD m) = some (.tup [.text (nmS m.1), .num m.2]) := by unfold mD; simp [nkey, nkeys, nkey_nm]
theorem nkey_mn (m : Msg × Nd) : nkey (mnD m) = some (.tup [.tup [.text (nmS m.1.1), .num m.1.2], .text (nmS m.2)]) := by unfold mnD; simp [nkey, nkeys, nkey_nm, nkey_m]
theorem nkey_nmm (m : Nd × Msg) : nkey (nmmD m) = some (.tup [.text (nmS m.1), .tup [.text (nmS m.2.1), .num m.2.2]]) := by unfold nmmD; simp [nkey, nkeys, nkey_nm, nkey_m]
theorem k_nm : KE' Nd nmD false := ⟨fun a b => decide_eq_decide.mpr (by rw [nkey_nm, nkey_nm]; exact ⟨fun e => nmS_inj _ _ (by simpa using e), fun e => by rw [e]⟩), fun _ => rfl, fun _ => rfl⟩
theorem k_i : KE' Nat iD false := ⟨fun a b => decide_eq_decide.mpr (by unfold iD; rw [nkey_i, nkey_i]; exact ⟨fun e => by cases e; rfl, fun e => by rw [e]⟩), fun _ => rfl, fun _ => rfl⟩
theorem k_m : KE' Msg mD true := ⟨fun a b => decide_eq_decide.mpr (by
  rw [nkey_m, nkey_m]
  refine ⟨fun e => ?_, fun e => by rw [e]⟩
  simp at e
  exact Prod.ext (nmS_inj _ _ e.1) (by omega)), fun a => by unfold okKey; rw [nkey_m]; rfl, fun _ => rfl⟩
theorem k_mn : KE' (Msg × Nd) mnD true := ⟨fun a b => decide_eq_decide.mpr (by
  rw [nkey_mn, nkey_mn]
  refine ⟨fun e => ?_, fun e => by rw [e]⟩
  simp at e
  exact Prod.ext (Prod.ext (nmS_inj _ _ e.1.1) (by omega)) (nmS_inj _ _ e.2)), fun a => by unfold okKey; rw [nkey_mn]; rfl, fun _ => rfl⟩
theorem k_nmm : KE' (Nd × Msg) nmmD true := ⟨fun a b => decide_eq_decide.mpr (by
  rw [nkey_nmm, nkey_nmm]
  refine ⟨fun e => ?_, fun e => by rw [e]⟩
  simp at e
  exact Prod.ext (nmS_inj _ _ e.1) (Prod.ext (nmS_inj _ _ e.2.1) (by omega))), fun a => by unfold okKey; rw [nkey_nmm]; rfl, fun _ => rfl⟩
/-- a dict as data -/
def dK {κ ν : Type} (ek : κ → D) (ev : ν → D) (kvs : List (κ × ν)) : List (D × D) := kvs.map fun p => (ek p.1, ev p.2)
def put {κ ν : Type} [DecidableEq κ] (kvs : List (κ × ν)) (k : κ) (v : ν) : List (κ × ν) := if (lk kvs k).isSome then kvs.map fun p => if p.1 = k then (p.1, v) else p else kvs ++ [(k, v)]
section
variable {P : O → Prop} {κ ν : Type} [DecidableEq κ] {ek : κ → D} {ev : ν → D} {t : Bool}
theorem dget_K (h : KE' κ ek t) (kvs : List (κ × ν)) (k : κ) : dget (dK ek ev kvs) (ek k) = (lk kvs k).map ev := by
  unfold dget dK
  induction kvs with
  | nil => rfl
  | cons p l ih =>
    rw [lk_cons, List.map_cons, List.find?_cons]
    by_cases e : p.1 = k
    · rw [if_pos e, h.keq, decide_eq_true e]; rfl
    · rw [if_neg e, h.keq, decide_eq_false e]; exact ih
theorem kind_K (h : KE' κ ek t) (kvs : List (κ × ν)) (k : κ) : kindOk (dK ek ev kvs) (ek k) = true := by
  cases kvs with
  | nil => rfl
  | cons p l => show (isT (ek p.1) == isT (ek k)) = true; rw [h.t, h.t]; simp
theorem dput_K (h : KE' κ ek t) (kvs : List (κ × ν)) (k : κ) (v : ν) : dput (dK ek ev kvs) (ek k) (ev v) = dK ek ev (put kvs k v) := by
  unfold dput put
  rw [dget_K h, Option.isSome_map]
  split
  · unfold dK
    rw [List.map_map, List.map_map]
    refine List.map_congr_left fun p _ => ?_
    show (if Wl.keq (ek p.1) (ek k) = true then (ek p.1, ev v) else (ek p.1, ev p.2)) = _
    rw [h.keq]
    by_cases e : p.1 = k <;> simp [e]
  · simp [dK]
theorem dget_Ko (h : KE' κ ek t) {kvs : List (κ × ν)} {k : κ} {o : O} (ho : asDc o = some (dK ek ev kvs)) : OptP (oDGet [o, .sh (ek k)]) P ↔ OptP (lk kvs k) fun v => P (.sh (ev v)) := by
  have e : oDGet [o, .sh (ek k)] = (lk kvs k).map fun v => .sh (ev v) := by
    unfold oDGet
    simp only [ho, asD]
    rw [h.ok, kind_K h, dget_K h]
    cases lk kvs k <;> rfl
  rw [e]
  cases lk kvs k with
  | none => exact ⟨fun ⟨_, e, _⟩ => (nomatch e), fun ⟨_, e, _⟩ => nomatch e⟩
  | some v => exact ⟨fun ⟨_, e, q⟩ => by cases e; exact ⟨_, rfl, q⟩, fun ⟨_, e, q⟩ => by cases e; exact ⟨_, rfl, q⟩⟩
theorem asL_dc {o : O} {kvs : List (D × D)} (ho : asDc o = some kvs) : asL o = none := by
  cases o with
  | sh d => cases d <;> first | rfl | cases ho
  | od => rfl
  | _ => cases ho
theorem oIx_dc {o : O} {kvs : List (D × D)} (ho : asDc o = some kvs) (k : D) : oIx [o, .sh k] = none := by
  unfold oIx
  split
  · rename_i h; cases h; cases ho
  · rename_i h; cases h; cases ho
  · rename_i h; cases h; rw [asL_dc ho]
  · rfl
theorem oz_getK (h : KE' κ ek t) {kvs : List (κ × ν)} {k : κ} {o : O} (ho : asDc o = some (dK ek ev kvs)) : OptP (oIxA [o, .sh (ek k)]) P ↔ OptP (lk kvs k) fun v => P (.sh (ev v)) := by
  unfold oIxA orO
  rw [oIx_dc ho]
  exact dget_Ko h ho
theorem oz_inK (h : KE' κ ek t) {kvs : List (κ × ν)} {k : κ} {o : O} (ho : asDc o = some (dK ek ev kvs)) : OptP (oIn [.sh (ek k), o]) P ↔ P (.sh (.bool (lk kvs k).isSome)) := by
  have e : oIn [.sh (ek k), o] = some (.sh (.bool (lk kvs k).isSome)) := by
    unfold oIn orO oDIn
    simp only [ho, asD]
    rw [h.ok, kind_K h, dget_K h, Option.isSome_map]; rfl
  rw [e, optP_some]
theorem oz_niK (h : KE' κ ek t) {kvs : List (κ × ν)} {k : κ} {o : O} (ho : asDc o = some (dK ek ev kvs)) : OptP (oNotIn [.sh (ek k), o]) P ↔ P (.sh (.bool (!(lk kvs k).isSome))) := by
  have e : oNotIn [.sh (ek k), o] = some (.sh (.bool (!(lk kvs k).isSome))) := by
    unfold oNotIn orO oDIn
    simp only [ho, asD]
    rw [h.ok, kind_K h, dget_K h, Option.isSome_map]; rfl
  rw [e, optP_some]
theorem put_K (h : KE' κ ek t) {kvs : List (κ × ν)} {k : κ} {v : ν} {nk : Bool} (hn : nk = t ∨ (kvs = [] ∧ nk = false)) (hl : kvs.length < sizeLine) : opPut (.od nk (dK ek ev kvs)) [ek k, ev v] = some (.od t (dK ek ev (put kvs k v)), .none) := by
  unfold opPut
  have c : (okKey (ek k) && kindOk (dK ek ev kvs) (ek k) && (nk == isT (ek k) || ((dK ek ev kvs).isEmpty && !nk))) = true ∧ (dK ek ev kvs).length < sizeLine := by
    rw [h.ok, kind_K h, h.t]
    refine ⟨?_, by unfold dK; rw [List.length_map]; exact hl⟩
    rcases hn with rfl | ⟨rfl, rfl⟩
    · simp
    · simp [dK]
  simp only
  rw [if_pos c, h.t, dput_K h]
end
section
variable {P : O → Prop} {κ ν : Type} [DecidableEq κ] {ek : κ → D} {ev : ν → D} {t nk : Bool} {kvs : List (κ × ν)} {k : κ}
theorem oz_getS (h : KE' κ ek t) : OptP (oIxA [.sh (.dict (dK ek ev kvs)), .sh (ek k)]) P ↔ OptP (lk kvs k) fun v => P (.sh (ev v)) := oz_getK h rfl
theorem oz_getO (h : KE' κ ek t) : OptP (oIxA [.od nk (dK ek ev kvs), .sh (ek k)]) P ↔ OptP (lk kvs k) fun v => P (.sh (ev v)) := oz_getK h rfl
theorem oz_inS (h : KE' κ ek t) : OptP (oIn [.sh (ek k), .sh (.dict (dK ek ev kvs))]) P ↔ P (.sh (.bool (lk kvs k).isSome)) := oz_inK h rfl
theorem oz_inD (h : KE' κ ek t) : OptP (oIn [.sh (ek k), .od nk (dK ek ev kvs)]) P ↔ P (.sh (.bool (lk kvs k).isSome)) := oz_inK h rfl
theorem oz_niS (h : KE' κ ek t) : OptP (oNotIn [.sh (ek k), .sh (.dict (dK ek ev kvs))]) P ↔ P (.sh (.bool (!(lk kvs k).isSome))) := oz_niK h rfl
theorem oz_niD (h : KE' κ ek t) : OptP (oNotIn [.sh (ek k), .od nk (dK ek ev kvs)]) P ↔ P (.sh (.bool (!(lk kvs k).isSome))) := oz_niK h rfl
end
theorem mD_mk {n : Nd} {k : Nat} : PyData.tuple [nmD n, .int (k : Int)] = mD (n, k) := rfl
theorem mD_mk1 {n : Nd} {k : Nat} : PyData.tuple [nmD n, .int ((k : Int) + 1)] = mD (n, k + 1) := rfl
theorem mnD_mk {n : Nd} {m : Msg} : PyData.tuple [mD m, nmD n] = mnD (m, n) := rfl
theorem nmmD_mk {n : Nd} {m : Msg} : PyData.tuple [nmD n, mD m] = nmmD (n, m) := rfl
theorem enum_map {α : Type} (F : α → D) (xs : List α) : enumD (xs.map F) = xs.zipIdx.map fun p => .tuple [.int (p.2 : Int), F p.1] := by
  unfold enumD; rw [List.zipIdx_map, List.map_map]; rfl
theorem items_K {κ ν : Type} {ek : κ → D} {ev : ν → D} (kvs : List (κ × ν)) : (dK ek ev kvs).map (fun p => PyData.tuple [p.1, p.2]) = kvs.map fun p => .tuple [ek p.1, ev p.2] := by unfold dK; rw [List.map_map]; rfl
theorem keys_K {κ ν : Type} {ek : κ → D} {ev : ν → D} (kvs : List (κ × ν)) : (dK ek ev kvs).map (·.1) = (kvs.map (·.1)).map ek := by unfold dK; rw [List.map_map, List.map_map]; rfl
/-- a row of indices as a dict -/
def idxK (ks : List Nat) : List (D × D) := dK iD (fun _ : Unit => .bool true) (ks.map fun k => (k, ()))
theorem lk_unit (ks : List Nat) (k : Nat) : lk (ks.map fun k => (k, ())) k = if k ∈ ks then some () else none := by
  induction ks with
  | nil => rfl
  | cons a ks ih => 
    rw [List.map_cons, lk_cons, ih]
    by_cases h : a = k
    · subst h; simp
    · simp [h, show ¬ k = a from fun e => h e.symm]
theorem put_unit (ks : List Nat) (k : Nat) : put (ks.map fun k => (k, ())) k () = (insK ks k).map fun k => (k, ()) := by
  unfold put insK
  rw [lk_unit]
  by_cases h : k ∈ ks
  · simp only [h, if_true, Option.isSome_some]
    rw [List.map_map]
    exact List.map_congr_left fun a _ => by simp
  · simp [h]
theorem idx_put (ks : List Nat) (k : Nat) : dput (idxK ks) (.int (k : Int)) (.bool true) = idxK (insK ks k) := by
  unfold idxK; rw [← put_unit]; exact dput_K (ev := fun _ : Unit => .bool true) k_i _ k ()
theorem idx_puts (ms : List Nat) : ∀ ks : List Nat, dputs (idxK ks) (idxK ms) = idxK (updK ks ms) := by
  induction ms with
  | nil => intro ks; rfl
  | cons m ms ih =>
    intro ks
    show dputs (dput (idxK ks) (.int (m : Int)) (.bool true)) (idxK ms) = _
    rw [idx_put, ih]; rfl
theorem idx_len (ks : List Nat) : (idxK ks).length = ks.length := by unfold idxK dK; simp
theorem idx_flat (ks : List Nat) : flatKeys (idxK ks) = true := by
  unfold flatKeys idxK dK
  rw [List.all_eq_true]
  intro p h
  simp at h
  obtain ⟨a, _, rfl⟩ := h
  rfl
theorem idx_keys (ks : List Nat) : (idxK ks).map (·.1) = ks.map iD := by unfold idxK; rw [keys_K, List.map_map, List.map_map]; rfl
theorem idx_nk (ks : List Nat) : nkOf (idxK ks) = false := by cases ks <;> rfl
section
variable {P : O → Prop} {nk : Bool} {ks : List Nat} {k : Nat}
theorem oz_inIo {o : O} (h : asDc o = some (idxK ks)) : OptP (oIn [.sh (.int (k : Int)), o]) P ↔ P (.sh (.bool (decide (k ∈ ks)))) := by
  refine (oz_inK k_i (o := o) (k := k) h).trans ?_
  rw [lk_unit]
  by_cases h : k ∈ ks <;> simp [h]
theorem oz_inIs : OptP (oIn [.sh (.int (k : Int)), .sh (.dict (idxK ks))]) P ↔ P (.sh (.bool (decide (k ∈ ks)))) := oz_inIo rfl
theorem oz_inId : OptP (oIn [.sh (.int (k : Int)), .od nk (idxK ks)]) P ↔ P (.sh (.bool (decide (k ∈ ks)))) := oz_inIo rfl
end
theorem upd_I {ks ms : List Nat} (h : ks.length + ms.length ≤ sizeLine) : opUpd (.od false (idxK ks)) [.dict (idxK ms)] = some (.od false (idxK (updK ks ms)), .none) := by
  unfold opUpd
  simp only
  rw [if_pos ⟨idx_flat ms, by rw [idx_len, idx_len]; exact h⟩, idx_puts]
theorem put_I {ks : List Nat} {k : Nat} (h : ks.length < sizeLine) : opPut (.od false (idxK ks)) [.int (k : Int), .bool true] = some (.od false (idxK (insK ks k)), .none) := by
  have := put_K (ev := fun _ : Unit => .bool true) k_i (kvs := ks.map fun k => (k, ())) (k := k) (v := ()) (nk := false) (.inl rfl) (by rw [List.length_map]; exact h)
  rw [put_unit] at this
  exact this
theorem noMuts_map {α : Type} {e : α → D} (h : ∀ a, noMut (e a) = true) : ∀ xs : List α, noMuts (xs.map e) = true
  | [] => rfl
  | x :: xs => by rw [List.map_cons]; show (noMut (e x) && noMuts (xs.map e)) = true; rw [h, noMuts_map h xs]; rfl
theorem nomut_nm (i : Nd) : noMut (nmD i) = true := rfl
theorem nomut_m (m : Msg) : noMut (mD m) = true := rfl
theorem nomuts_nm (xs : List Nd) : noMuts (xs.map nmD) = true := noMuts_map nomut_nm xs
theorem nomuts_m (xs : List Msg) : noMuts (xs.map mD) = true := noMuts_map nomut_m xs
theorem isK_str (x : Str) : isK (.str x) = true := rfl
theorem isK_nm (i : Nd) : isK (nmD i) = true := rfl
theorem isK_int (i : Int) : isK (.int i) = true := rfl
end Lw

/- text Pa -/
set_option Elab.async false
set_option maxRecDepth 100000
set_option maxHeartbeats 400000
namespace Lw
open PySem PySem.Spec L2 Wl Mo
open PyProof.Rows hiding St
local macro_rules
  | `(tactic| push_cast [$ls,*]) => `(tactic| simp (dsimp := false) [↓we_bind, ↓we_pure, ↓we_var, ↓we_c, ↓we_nil, ↓we_cons, ↓we_op, ↓we_e1, ↓we_e2, ↓we_tTrue, ↓we_sh0, ↓we_sh1, ↓we_tB, ↓we_and, ↓we_or, ↓we_not, ↓we_if, ↓we_eand, ↓we_eor, ↓we_enot, ↓we_toSh, ↓we_call, ↓we_lst, ↓we_tup, ↓we_lc, ↓we_dc, ↓we_de, ↓we_disp, ↓we_newD, ↓we_ext, ↓we_bor, ↓we_tbor, ↓we_q, ↓we_srcR, ↓we_srcAny, ↓we_srcE, ↓we_srcIt, ↓we_srcZ, ↓we_sl, ↓we_pSome, ↓we_pNone, ↓ws_for, ↓ws_next, ↓ws_seq, ↓ws_if, ↓ws_set, ↓ws_ret, ↓ws_retN, ↓ws_drop, ↓ws_put, ↓ws_asg, ↓ws_pars, ↓ws_augD, ↓ws_pm, ↓ws_pp, ↓ws_pu, ↓we_mutAt, ↓we_meth, ↓wf_fn, optP_some, shAll, still, der, ders, asD, putR, gSet, gTupM, gsCons, gsNil, pars, obOf, asSh, addI, qC, qV, qIx, pBase, pStep, oz_add, oz_sub, oz_abs, oz_max2, oz_min2, oz_mul, oz_mod, oz_div, oz_pow, ordI, cLtI, cGtI, cLeI, cGeI, oz_eqI, oz_neI, oz_ixL, oz_ixSL, oz_ixT, oz_lenL, oz_lenO, oz_lenT, atZ_nat, atZ_0, atZ_1, atZ_2, slotIs, ofTy, isOwn, ixN, okArgs, outsOf, List.range_succ, shArgs, osOf, putOuts, ndModes, toSh, wipeE, unwipe, tTrue, anyOf, oSlL, asL, tyO, iD, isK_str, isK_nm, isK_int, $ls,*])
theorem jar_ok (ns : List Int) (k : Nat) (hk : k < 10 ^ 20) {Q : O → List O → Prop} (q : ∀ a b : Int, 0 ≤ a → 0 ≤ b → b < 10 ^ 41 + 7919 * k → Q (.ol [.int a, .int b, .int 0]) [.sh (.list (ns.map .int)), .sh (.int k)]) : WF f__law_jar [.sh (.list (ns.map .int)), .sh (.int k)] Q := by
  unfold f__law_jar b__law_jar
  have b0 : Big 0 := big_of (by decide) (by decide)
  have b10 : Big 10 := big_of (by decide) (by decide)
  have b29 : Big 29 := big_of (by decide) (by decide)
  have b79 : Big 7919 := big_of (by decide) (by decide)
  have bk : Big k := big_of (by omega) (by omega)
  have hs : 3 ≤ sizeLine := by decide +kernel
  rcases Nat.lt_or_ge k ns.length with h | h
  · push_cast [h, List.getElem?_eq_getElem h]
    have bm : Big (ns[k] % 1000000000000000000000000000000000000003) := big_of (by omega) (by omega)
    exact ⟨b10, ⟨bm, b29⟩, ⟨b79, bk⟩, hs, q _ _ (by split <;> omega) (by omega) (by omega)⟩
  · push_cast [show ¬ k < ns.length by omega]
    exact ⟨b10, ⟨b0, b29⟩, ⟨b79, bk⟩, hs, q _ _ (Int.le_refl 0) (by omega) (by omega)⟩
def Jar (n : Int) (l : List D) : Prop := ∃ a b c : Int, l = [.int a, .int b, .int c] ∧ 0 ≤ a ∧ 0 ≤ b ∧ b < 10 ^ 42 ∧ 0 ≤ c ∧ c ≤ n
theorem Jar.le {n n' : Int} {l : List D} (h : Jar n l) (hn : n ≤ n') : Jar n' l := by
  obtain ⟨a, b, c, h1, h2, h3, h4, h5, h6⟩ := h
  exact ⟨a, b, c, h1, h2, h3, h4, h5, by omega⟩
theorem pick_ok {n m : Int} {l : List D} (hj : Jar n l) (hn : n < 10 ^ 20) (hm : 0 < m) (hm2 : m < 1000000) {Q : O → List O → Prop} (q : ∀ (r : Nat) (l' : List D), (r : Int) < m → Jar (n + 1) l' → Q (.sh (.int r)) [.ol l', .sh (.int m)]) : WF f__law_pick [.ol l, .sh (.int m)] Q := by
  obtain ⟨a, b, c, rfl, ha, hb, hb2, hc, hc2⟩ := hj
  unfold f__law_pick b__law_pick
  push_cast [opPut]
  have hr : ∀ x : Int, 0 ≤ x % m ∧ x % m < m := fun x => ⟨Int.emod_nonneg _ (by omega), Int.emod_lt_of_pos _ hm⟩
  have q' : ∀ (x : Int) l', Jar (n + 1) l' → Q (.sh (.int (x % m))) [.ol l', .sh (.int m)] := fun x l' j => by
    have ht : ((x % m).toNat : Int) = x % m := Int.toNat_of_nonneg (hr x).1
    have := q (x % m).toNat l' (by rw [ht]; exact (hr x).2) j
    rw [ht] at this; exact this
  rcases Int.lt_or_le 0 a with h | h
  · rw [if_pos h]
    exact ⟨hm, ⟨hm, by omega⟩, q' _ _ ⟨a / m, b, c, rfl, Int.ediv_nonneg ha (by omega), hb, hb2, hc, by omega⟩⟩
  · have h1 : ∀ x : Int, 0 ≤ x % 10000000000000000000000000000000000000000103 ∧ x % 10000000000000000000000000000000000000000103 < 10000000000000000000000000000000000000000103 := fun x => ⟨Int.emod_nonneg _ (by omega), Int.emod_lt_of_pos _ (by omega)⟩
    have h2 := h1 ((b + 2147483629 * (c + 1)) ^ 3)
    generalize (b + 2147483629 * (c + 1)) ^ 3 % 10000000000000000000000000000000000000000103 = z at h2 ⊢
    rw [if_neg (by omega)]
    exact ⟨⟨big_of (by decide) (by decide), big_of (by omega) (by omega)⟩, big_of (by omega) (by omega), big_of (by decide) (by decide), ⟨big_of (by decide) (by decide), big_of (by omega) (by omega)⟩, big_of (by omega) (by omega), big_of (by decide) (by decide), hm, q' _ _ ⟨a, b, c + 1, rfl, ha, hb, hb2, by omega, by omega⟩⟩
end Lw

/- text Pb -/
set_option Elab.async false
set_option maxRecDepth 100000
set_option maxHeartbeats 400000
namespace Lw
open PySem PySem.Spec L2 Wl Mo
open PyProof.Rows hiding St
local macro_rules
  | `(tactic| push_cast [$ls,*]) => `(tactic| simp (dsimp := false) [↓we_bind, ↓we_pure, ↓we_var, ↓we_c, ↓we_nil, ↓we_cons, ↓we_op, ↓we_e1, ↓we_e2, ↓we_tTrue, ↓we_sh0, ↓we_sh1, ↓we_tB, ↓we_and, ↓we_or, ↓we_not, ↓we_if, ↓we_eand, ↓we_eor, ↓we_enot, ↓we_toSh, ↓we_call, ↓we_lst, ↓we_tup, ↓we_lc, ↓we_dc, ↓we_de, ↓we_disp, ↓we_newD, ↓we_ext, ↓we_bor, ↓we_tbor, ↓we_q, ↓we_srcR, ↓we_srcAny, ↓we_srcE, ↓we_srcIt, ↓we_srcZ, ↓we_sl, ↓we_pSome, ↓we_pNone, ↓ws_for, ↓ws_next, ↓ws_seq, ↓ws_if, ↓ws_set, ↓ws_ret, ↓ws_retN, ↓ws_drop, ↓ws_put, ↓ws_asg, ↓ws_pars, ↓ws_augD, ↓ws_pm, ↓ws_pp, ↓ws_pu, ↓we_mutAt, ↓we_meth, ↓wf_fn, optP_some, shAll, still, der, ders, asD, putR, gSet, gTupM, gsCons, gsNil, pars, obOf, asSh, addI, qC, qV, qIx, pBase, pStep, oz_add, oz_sub, oz_abs, oz_max2, oz_min2, oz_mul, oz_mod, oz_div, oz_pow, ordI, cLtI, cGtI, cLeI, cGeI, oz_eqI, oz_neI, oz_ixL, oz_ixSL, oz_ixT, oz_lenL, oz_lenO, oz_lenT, atZ_nat, atZ_0, atZ_1, atZ_2, slotIs, ofTy, isOwn, ixN, okArgs, outsOf, List.range_succ, shArgs, osOf, putOuts, ndModes, toSh, wipeE, unwipe, tTrue, anyOf, oSlL, asL, tyO, iD, isK_str, isK_nm, isK_int, $ls,*])
theorem wf_of {φ : Fn} {os : List O} {o : O} {outs : List O} (h : ∀ Q : O → List O → Prop, Q o outs → WF φ os Q) (Q : O → List O → Prop) : WF φ os Q ↔ Q o outs := by
  obtain ⟨o', outs', e, rfl, rfl⟩ := h (fun a b => a = o ∧ b = outs) ⟨rfl, rfl⟩
  refine ⟨fun ⟨a, b, e', q⟩ => ?_, fun q => ⟨_, _, e, q⟩⟩
  rw [e] at e'; cases e'; exact q
theorem is_name_eq : ∀ i : Nd, f_is_name [.sh (nmD i)] = some (.ok (.sh (.bool true), [.sh (nmD i)]))
  | ⟨0, _⟩ => by kernel_rfl
  | ⟨1, _⟩ => by kernel_rfl
  | ⟨2, _⟩ => by kernel_rfl
  | ⟨3, _⟩ => by kernel_rfl
  | ⟨4, _⟩ => by kernel_rfl
  | ⟨5, _⟩ => by kernel_rfl
  | ⟨6, _⟩ => by kernel_rfl
  | ⟨7, _⟩ => by kernel_rfl
  | ⟨8, _⟩ => by kernel_rfl
  | ⟨9, _⟩ => by kernel_rfl
  | ⟨10, _⟩ => by kernel_rfl
  | ⟨11, _⟩ => by kernel_rfl
  | ⟨12, _⟩ => by kernel_rfl
  | ⟨13, _⟩ => by kernel_rfl
  | ⟨14, _⟩ => by kernel_rfl
  | ⟨15, _⟩ => by kernel_rfl
  | ⟨16, _⟩ => by kernel_rfl
  | ⟨17, _⟩ => by kernel_rfl
  | ⟨18, _⟩ => by kernel_rfl
  | ⟨19, _⟩ => by kernel_rfl
  | ⟨20, _⟩ => by kernel_rfl
  | ⟨21, _⟩ => by kernel_rfl
  | ⟨22, _⟩ => by kernel_rfl
  | ⟨23, _⟩ => by kernel_rfl
  | ⟨24, _⟩ => by kernel_rfl
  | ⟨25, _⟩ => by kernel_rfl
  | ⟨n + 26, h⟩ => absurd h (by omega)
theorem sp_is_name {i : Nd} (Q : O → List O → Prop) : WF f_is_name [.sh (nmD i)] Q ↔ Q (.sh (.bool true)) [.sh (nmD i)] := wf_of (fun Q q => ⟨_, _, is_name_eq i, q⟩) Q
theorem cut1 (l : List D) : Wl.cutD l (some 1) none = l.drop 1 := by
  unfold Wl.cutD
  cases l with
  | nil => simp
  | cons a l => simp [HT.sIx]
theorem zip1 {α : Type} (F : α → D) (ns : List α) : zipD (ns.map F) ((ns.map F).drop 1) = (ns.zip (ns.drop 1)).map fun p => .tuple [F p.1, F p.2] := by
  unfold zipD
  rw [← List.map_drop, List.zip_map, List.map_map]
  rfl
theorem oz_ltV {P : O → Prop} {d d' : D} (h : ordOk d d' = true) : OptP (oSc (dOrd cLt) [.sh d, .sh d']) P ↔ P (.sh (.bool (PySem.W.dataLt d d'))) := by
  have e : oSc (dOrd cLt) [.sh d, .sh d'] = some (.sh (.bool (PySem.W.dataLt d d'))) := by
    show (match (if ordOk d d' = true then some (PyData.bool (cLt d d')) else none) with | some d => some (O.sh d) | none => none) = _
    rw [if_pos h]; rfl
  rw [e, optP_some]
theorem ord_nm (i j : Nd) : ordOk (nmD i) (nmD j) = true := by unfold ordOk; rw [lay_nm, lay_nm, alike_nm]; rfl
theorem oz_ltN {P : O → Prop} {i j : Nd} : OptP (oSc (dOrd cLt) [.sh (nmD i), .sh (nmD j)]) P ↔ P (.sh (.bool (decide (i < j)))) := by rw [oz_ltV (ord_nm i j), nm_lt]
theorem zip_lt {α : Type} (r : α → α → Prop) : ∀ ns : List α, ns.Pairwise r → ∀ p ∈ ns.zip (ns.drop 1), r p.1 p.2
  | [], _, p, h => by simp at h
  | [a], _, p, h => by simp at h
  | a :: b :: l, hp, p, h => by
    have h' : p ∈ (a, b) :: (b :: l).zip ((b :: l).drop 1) := h
    rcases List.mem_cons.mp h' with rfl | h'
    · exact (List.pairwise_cons.mp hp).1 b List.mem_cons_self
    · exact zip_lt r (b :: l) (List.pairwise_cons.mp hp).2 p h'
theorem all_true {α : Type} (xs : List α) : (xs.map fun _ => PyData.bool true) = (xs.map fun _ => true).map PyData.bool := by rw [List.map_map]; rfl
theorem oz_allT {α : Type} {P : O → Prop} {xs : List α} : OptP (oSc (dAll true) [.ol (xs.map fun _ => PyData.bool true)]) P ↔ P (.sh (.bool true)) := by
  rw [all_true, oz_all, show (xs.map fun _ => true).all id = true by simp]
theorem oz_isi {P : O → Prop} {c : String} {d : D} : OptP (oSc (dIsi c) [.sh d]) P ↔ OptP (tyD d) fun t => P (.sh (.bool (subTy t c))) := by
  unfold OptP
  show (∃ a, (match (match tyD d with | some t => some (PyData.bool (subTy t c)) | none => none) with | some d => some (O.sh d) | none => none) = some a ∧ P a) ↔ _
  cases tyD d <;> simp
theorem oz_isiO {P : O → Prop} {c : String} {l : List D} : OptP (oSc (dIsi c) [.ol l]) P ↔ OptP (tyD (.list l)) fun t => P (.sh (.bool (subTy t c))) := by
  unfold OptP
  show (∃ a, (match (match tyD (.list l) with | some t => some (PyData.bool (subTy t c)) | none => none) with | some d => some (O.sh d) | none => none) = some a ∧ P a) ↔ _
  cases tyD (.list l) <;> simp
theorem we_chain {c c' : D → D → Bool} {fa fb fc : M R} {ρ : Wl.Env} {QR : R → Wl.Env → Prop} : WE (dC2 c c' fa fb fc) ρ QR ↔ WE fa ρ fun r ρ1 => WE (toSh r) ρ1 fun d ρ2 => WE fb ρ2 fun r ρ3 => WE (toSh r) ρ3 fun d' ρ4 => ordOk d d' = true ∧ if c d d' = true then WE fc ρ4 fun r ρ5 => WE (toSh r) ρ5 fun d'' ρ6 => ordOk d' d'' = true ∧ QR (.v (.sh (.bool (c' d' d'')))) ρ6 else QR (.v (.sh (.bool false))) ρ4 := by
  unfold dC2
  rw [we_bind, we_bind]
  refine ⟨fun h => h.mono fun r ρ1 h => h.mono fun d ρ2 h => ?_, fun h => h.mono fun r ρ1 h => h.mono fun d ρ2 h => ?_⟩
  · rw [we_bind, we_bind] at h
    refine h.mono fun r ρ3 h => h.mono fun d' ρ4 h => ?_
    by_cases h1 : ordOk d d' = true
    · refine ⟨h1, ?_⟩
      rw [if_pos h1] at h
      by_cases h2 : c d d' = true
      · rw [if_pos h2] at h ⊢
        rw [we_bind, we_bind] at h
        refine h.mono fun r ρ5 h => h.mono fun d'' ρ6 h => ?_
        obtain ⟨a, r', e, q⟩ := h
        simp only at e
        split at e
        · rename_i h3; cases e; exact ⟨h3, q⟩
        · cases e
      · rw [if_neg h2] at h ⊢
        exact we_pure.mp h
    · rw [if_neg h1] at h
      obtain ⟨_, _, e, _⟩ := h; cases e
  · rw [we_bind, we_bind]
    refine h.mono fun r ρ3 h => h.mono fun d' ρ4 h => ?_
    obtain ⟨h1, h⟩ := h
    rw [if_pos h1]
    by_cases h2 : c d d' = true
    · rw [if_pos h2] at h ⊢
      rw [we_bind, we_bind]
      refine h.mono fun r ρ5 h => h.mono fun d'' ρ6 h => ?_
      exact ⟨_, _, by simp only [h.1, if_true], h.2⟩
    · rw [if_neg h2] at h ⊢
      exact we_pure.mpr h
structure VN (nodes : List Nd) : Prop where
  pw : nodes.Pairwise (· < ·)
  ge : 2 ≤ nodes.length
  le : nodes.length ≤ 12
theorem sz (n : Nat) (h : n ≤ 10000000 := by omega) : n ≤ sizeLine := Nat.le_trans h (by decide +kernel)
theorem sp_asc {ns : List Nd} (h : ns.Pairwise (· < ·)) (hl : ns.length ≤ 1000) (Q : O → List O → Prop) : WF f_is_ascending [.sh (.list (ns.map nmD))] Q ↔ Q (.sh (.bool true)) [.sh (.list (ns.map nmD))] := wf_of (fun Q q => by
  unfold f_is_ascending b_is_ascending
  push_cast []
  rw [cut1, zip1]
  refine lc_wpp (fun p : Nd × Nd => .tuple [nmD p.1, nmD p.2]) (fun _ => true) (fun _ => .bool true) _ (sz _ (by rw [List.length_zip]; omega)) (fun p hp => ?_) ?_
  · have := zip_lt _ ns h p hp
    push_cast [oz_ltN, this]
  · push_cast [oz_allT, q]) Q
theorem sp_is_nodes {ns : List Nd} (h : VN ns) (Q : O → List O → Prop) : WF f_is_nodes [.sh (.list (ns.map nmD))] Q ↔ Q (.sh (.bool true)) [.sh (.list (ns.map nmD))] := wf_of (fun Q q => by
  unfold f_is_nodes b_is_nodes
  have h1 := h.ge
  have h2 := h.le
  have h3 : (2 : Int) ≤ (ns.length : Int) := by omega
  have h4 : (ns.length : Int) ≤ 12 := by omega
  push_cast [oz_isi, tyD, subTy, ↓we_chain, ordOk, PyData.canLay0, PySem.W.alike, PyData.depth, h3, h4]
  refine lc_wpp nmD (fun _ => true) (fun _ => .bool true) _ (sz ns.length) (fun p hp => ?_) ?_
  · push_cast [sp_is_name]
  · push_cast [oz_allT, q, sp_asc h.pw (by omega)]) Q
theorem sp_need_nodes {ns : List Nd} (h : VN ns) (Q : O → List O → Prop) : WF f_need_nodes [.sh (.list (ns.map nmD))] Q ↔ Q (.sh .none) [.sh (.list (ns.map nmD))] := wf_of (fun Q q => by
  unfold f_need_nodes b_need_nodes
  push_cast [sp_is_nodes h, q]) Q
theorem sp_is_node {ns : List Nd} {i : Nd} (Q : O → List O → Prop) : WF f_is_node [.sh (.list (ns.map nmD)), .sh (nmD i)] Q ↔ Q (.sh (.bool (decide (i ∈ ns)))) [.sh (.list (ns.map nmD)), .sh (nmD i)] := wf_of (fun Q q => by
  unfold f_is_node b_is_node
  push_cast [oz_isi, show tyD (nmD i) = some "str" from rfl, subTy, oz_inV v_nm, q]) Q
theorem sp_need_node {ns : List Nd} {i : Nd} (h : i ∈ ns) (Q : O → List O → Prop) : WF f_need_node [.sh (.list (ns.map nmD)), .sh (nmD i)] Q ↔ Q (.sh .none) [.sh (.list (ns.map nmD)), .sh (nmD i)] := wf_of (fun Q q => by
  unfold f_need_node b_need_node
  push_cast [sp_is_node, h, q]) Q
theorem oz_eqNil {P : O → Prop} {ds : List D} (h : SeqAt.shaped (.list ds) = true) : OptP (oSc dEq [.sh (.list ds), .ol []]) P ↔ P (.sh (.bool (decide (ds = [])))) := by
  have e : oSc dEq [.sh (.list ds), .ol []] = some (.sh (.bool (decide (ds = [])))) := by
    show (match (if (SeqAt.shaped (.list ds) && SeqAt.shaped (.list [])) = true then some (PyData.bool (PyData.eqv (.list ds) (.list []))) else none) with | some d => some (O.sh d) | none => none) = _
    rw [h, show SeqAt.shaped (.list []) = true by decide +kernel, PyData.eqv]
    cases ds <;> simp [PyData.eqvAll]
  rw [e, optP_some]
theorem oz_eqNilO {P : O → Prop} {ds : List D} (h : SeqAt.shaped (.list ds) = true) : OptP (oSc dEq [.ol ds, .ol []]) P ↔ P (.sh (.bool (decide (ds = [])))) := oz_eqNil (P := P) h
theorem sp_is_receivers {ns rs : List Nd} {n : Nd} (h : RV ns n rs) (hl : rs.length ≤ 1000) (Q : O → List O → Prop) : WF f_is_receivers [.sh (.list (ns.map nmD)), .sh (nmD n), .sh (.list (rs.map nmD))] Q ↔ Q (.sh (.bool true)) [.sh (.list (ns.map nmD)), .sh (nmD n), .sh (.list (rs.map nmD))] := wf_of (fun Q q => by
  unfold f_is_receivers b_is_receivers
  obtain ⟨h1, h2, h3⟩ := h
  push_cast [oz_isi, tyD, subTy, oz_eqNil (v_nm.shL rs), h1]
  refine lc_wpp nmD (fun _ => true) (fun _ => .bool true) _ (sz rs.length) (fun p hp => ?_) ?_
  · obtain ⟨a, b⟩ := h3 p hp
    push_cast [sp_is_node, oz_neV v_nm, a, b]
  · push_cast [oz_allT, q, sp_asc h2 hl]) Q
theorem sp_is_number {k : Nat} (h : 1 ≤ k) (Q : O → List O → Prop) : WF f_is_number [.sh (.int (k : Int)), .sh (.int 1)] Q ↔ Q (.sh (.bool true)) [.sh (.int (k : Int)), .sh (.int 1)] := wf_of (fun Q q => by
  unfold f_is_number b_is_number
  push_cast [oz_isi, tyD, subTy, show (1 : Int) ≤ (k : Int) by omega, q]) Q
theorem oz_m0 {P : O → Prop} {m : Msg} : OptP (oIxA [.sh (mD m), .sh (.int 0)]) P ↔ P (.sh (nmD m.1)) := by unfold mD; rw [oz_ixT, atZ_0]; exact optP_some
theorem oz_m1 {P : O → Prop} {m : Msg} : OptP (oIxA [.sh (mD m), .sh (.int 1)]) P ↔ P (.sh (.int (m.2 : Int))) := by unfold mD; rw [oz_ixT, atZ_1]; exact optP_some
theorem oz_mlen {P : O → Prop} {m : Msg} : OptP (oLen [.sh (mD m)]) P ↔ P (.sh (.int 2)) := optP_some
theorem sp_is_message {ns : List Nd} {m : Msg} (h : m.1 ∈ ns) (h2 : 1 ≤ m.2) (Q : O → List O → Prop) : WF f_is_message [.sh (.list (ns.map nmD)), .sh (mD m)] Q ↔ Q (.sh (.bool true)) [.sh (.list (ns.map nmD)), .sh (mD m)] := wf_of (fun Q q => by
  unfold f_is_message b_is_message
  push_cast [oz_isi, show tyD (mD m) = some "tuple" from rfl, subTy, oz_m0, oz_m1, oz_mlen, sp_is_node, h, sp_is_number h2, q]) Q
theorem eD_snd {n : Nd} {rs : List Nd} : eD (.snd n rs) = .tuple [.str "send", nmD n, .list (rs.map nmD)] := rfl
theorem eD_opn {n : Nd} {m : Msg} : eD (.opn n m) = .tuple [.str "open", nmD n, mD m] := rfl
def kdS : Ev → Str
  | .snd _ _ => "send"
  | .opn _ _ => "open"
theorem oz_e0 {P : O → Prop} {e : Ev} : OptP (oIxA [.sh (eD e), .sh (.int 0)]) P ↔ P (.sh (.str (kdS e))) := by cases e <;> (simp only [eD_snd, eD_opn]; rw [oz_ixT, atZ_0]; exact optP_some)
theorem oz_e1 {P : O → Prop} {e : Ev} : OptP (oIxA [.sh (eD e), .sh (.int 1)]) P ↔ P (.sh (nmD e.node)) := by cases e <;> (simp only [eD_snd, eD_opn]; rw [oz_ixT, atZ_1]; exact optP_some)
theorem oz_e2s {P : O → Prop} {n : Nd} {rs : List Nd} : OptP (oIxA [.sh (eD (.snd n rs)), .sh (.int 2)]) P ↔ P (.sh (.list (rs.map nmD))) := by simp only [eD_snd]; rw [oz_ixT, atZ_2]; exact optP_some
theorem oz_e2o {P : O → Prop} {n : Nd} {m : Msg} : OptP (oIxA [.sh (eD (.opn n m)), .sh (.int 2)]) P ↔ P (.sh (mD m)) := by simp only [eD_opn]; rw [oz_ixT, atZ_2]; exact optP_some
theorem oz_elen {P : O → Prop} {e : Ev} : OptP (oLen [.sh (eD e)]) P ↔ P (.sh (.int 3)) := by cases e <;> exact optP_some
theorem str_eqv (a b : Str) : PyData.eqv (.str a) (.str b) = decide (a = b) := by
  rw [PyData.eqv]
  by_cases h : a = b
  · subst h; simp
  · rw [decide_eq_false h]; exact beq_eq_false_iff_ne.mpr h
theorem kd_ne : ("open" : Str) ≠ "send" := by decide +kernel
theorem kd_ne' : ("send" : Str) ≠ "open" := by decide +kernel
theorem sh_kd (e : Ev) : SeqAt.shaped (.str (kdS e)) = true := by cases e <;> (simp only [kdS]; decide +kernel)
theorem oz_eqSS {P : O → Prop} {a b : Str} (h1 : SeqAt.shaped (.str a) = true) (h2 : SeqAt.shaped (.str b) = true) : OptP (oSc dEq [.sh (.str a), .sh (.str b)]) P ↔ P (.sh (.bool (decide (a = b)))) := by
  have e : oSc dEq [.sh (.str a), .sh (.str b)] = some (.sh (.bool (decide (a = b)))) := by
    show (match (if (SeqAt.shaped (.str a) && SeqAt.shaped (.str b)) = true then some (PyData.bool (PyData.eqv (.str a) (.str b))) else none) with | some d => some (O.sh d) | none => none) = _
    rw [h1, h2, str_eqv]; rfl
  rw [e, optP_some]
theorem kd_ss : SeqAt.shaped (.str "send") = true := by decide +kernel
theorem kd_so : SeqAt.shaped (.str "open") = true := by decide +kernel
def isS : Ev → Bool
  | .snd _ _ => true
  | .opn _ _ => false
theorem oz_kdS {P : O → Prop} {e : Ev} : OptP (oSc dEq [.sh (.str (kdS e)), .sh (.str "send")]) P ↔ P (.sh (.bool (isS e))) := by
  rw [oz_eqSS (sh_kd e) kd_ss, show decide (kdS e = "send") = isS e by cases e <;> simp [kdS, isS, kd_ne, kd_ne']]
theorem oz_kdO {P : O → Prop} {e : Ev} : OptP (oSc dEq [.sh (.str (kdS e)), .sh (.str "open")]) P ↔ P (.sh (.bool (!isS e))) := by
  rw [oz_eqSS (sh_kd e) kd_so, show decide (kdS e = "open") = !isS e by cases e <;> simp [kdS, isS, kd_ne, kd_ne']]
theorem ty_str (x : Str) : tyD (.str x) = some "str" := rfl
theorem ty_list (x : List D) : tyD (.list x) = some "list" := rfl
theorem ty_tup (x : List D) : tyD (.tuple x) = some "tuple" := rfl
theorem ty_int (x : Int) : tyD (.int x) = some "int" := rfl
theorem ty_bool (x : Bool) : tyD (.bool x) = some "bool" := rfl
theorem ty_e (e : Ev) : tyD (eD e) = some "tuple" := by cases e <;> rfl
theorem sp_is_eventS {ns : List Nd} {e : Ev} (h : e.node ∈ ns) (Q : O → List O → Prop) : WF f_is_event [.sh (.list (ns.map nmD)), .sh (eD e), .sh (.str "send")] Q ↔ Q (.sh (.bool (isS e))) [.sh (.list (ns.map nmD)), .sh (eD e), .sh (.str "send")] := wf_of (fun Q q => by
  unfold f_is_event b_is_event
  push_cast [oz_isi, ty_e, subTy, oz_e0, oz_e1, oz_elen, sp_is_node, h, oz_kdS, ty_str]
  cases c : isS e <;> simp [c] at q ⊢ <;> push_cast [q]) Q
theorem sp_is_eventO {ns : List Nd} {e : Ev} (h : e.node ∈ ns) (Q : O → List O → Prop) : WF f_is_event [.sh (.list (ns.map nmD)), .sh (eD e), .sh (.str "open")] Q ↔ Q (.sh (.bool (!isS e))) [.sh (.list (ns.map nmD)), .sh (eD e), .sh (.str "open")] := wf_of (fun Q q => by
  unfold f_is_event b_is_event
  push_cast [oz_isi, ty_e, subTy, oz_e0, oz_e1, oz_elen, sp_is_node, h, oz_kdO, ty_str]
  cases c : isS e <;> simp [c] at q ⊢ <;> push_cast [q]) Q
end Lw

/- text Pc -/
set_option Elab.async false
set_option maxRecDepth 100000
set_option maxHeartbeats 400000
namespace Lw
open PySem PySem.Spec L2 Wl Mo
open PyProof.Rows hiding St
local macro_rules
  | `(tactic| push_cast [$ls,*]) => `(tactic| simp (dsimp := false) [↓we_bind, ↓we_pure, ↓we_var, ↓we_c, ↓we_nil, ↓we_cons, ↓we_op, ↓we_e1, ↓we_e2, ↓we_tTrue, ↓we_sh0, ↓we_sh1, ↓we_tB, ↓we_and, ↓we_or, ↓we_not, ↓we_if, ↓we_eand, ↓we_eor, ↓we_enot, ↓we_toSh, ↓we_call, ↓we_lst, ↓we_tup, ↓we_lc, ↓we_dc, ↓we_de, ↓we_disp, ↓we_newD, ↓we_ext, ↓we_bor, ↓we_tbor, ↓we_q, ↓we_srcR, ↓we_srcAny, ↓we_srcE, ↓we_srcIt, ↓we_srcZ, ↓we_sl, ↓we_pSome, ↓we_pNone, ↓ws_for, ↓ws_next, ↓ws_seq, ↓ws_if, ↓ws_set, ↓ws_ret, ↓ws_retN, ↓ws_drop, ↓ws_put, ↓ws_asg, ↓ws_pars, ↓ws_augD, ↓ws_pm, ↓ws_pp, ↓ws_pu, ↓we_mutAt, ↓we_meth, ↓wf_fn, optP_some, shAll, still, der, ders, asD, putR, gSet, gTupM, gsCons, gsNil, pars, obOf, asSh, addI, qC, qV, qIx, pBase, pStep, oz_add, oz_sub, oz_abs, oz_max2, oz_min2, oz_mul, oz_mod, oz_div, oz_pow, ordI, cLtI, cGtI, cLeI, cGeI, oz_eqI, oz_neI, oz_ixL, oz_ixSL, oz_ixT, oz_lenL, oz_lenO, oz_lenT, atZ_nat, atZ_0, atZ_1, atZ_2, slotIs, ofTy, isOwn, ixN, okArgs, outsOf, List.range_succ, shArgs, osOf, putOuts, ndModes, toSh, wipeE, unwipe, tTrue, anyOf, oSlL, asL, tyO, iD, isK_str, isK_nm, isK_int, $ls,*])
theorem pw_len : ∀ (ns : List Nd) (k : Nat), ns.Pairwise (· < ·) → (∀ i ∈ ns, k ≤ i.val) → ns.length + k ≤ 26 ∨ ns = []
  | [], _, _, _ => .inr rfl
  | a :: l, k, h, hk => by
    have h1 := hk a List.mem_cons_self
    have h2 : ∀ i ∈ l, a.val + 1 ≤ i.val := fun i m => (List.pairwise_cons.mp h).1 i m
    have := a.isLt
    rcases pw_len l (a.val + 1) (List.pairwise_cons.mp h).2 h2 with h3 | rfl
    · exact .inl (by rw [List.length_cons]; omega)
    · exact .inl (by simp; omega)
theorem pw_len' {ns : List Nd} (h : ns.Pairwise (· < ·)) : ns.length ≤ 26 := by
  rcases pw_len ns 0 h (fun _ _ => Nat.zero_le _) with h | rfl
  · omega
  · simp
theorem nd_len : ∀ (n : Nat) (l : List Nat), l.Nodup → (∀ i ∈ l, i < n) → l.length ≤ n
  | 0, l, _, h => by cases l with
    | nil => simp
    | cons a l => exact absurd (h a List.mem_cons_self) (by omega)
  | n + 1, l, hd, h => by
    have h1 : (l.erase n).length ≤ n := nd_len n (l.erase n) (hd.erase n) fun i m => by
      have m' := List.mem_of_mem_erase m
      have : i ≠ n := fun e => by subst e; exact hd.not_mem_erase m
      have := h i m'; omega
    have : l.length ≤ (l.erase n).length + 1 := by rw [List.length_erase]; split <;> omega
    omega
section
variable {κ ν : Type} [DecidableEq κ]
theorem put_new {kvs : List (κ × ν)} {k : κ} {v : ν} (h : lk kvs k = none) : put kvs k v = kvs ++ [(k, v)] := by unfold put; rw [h]; rfl
theorem put_map {α : Type} [DecidableEq α] {ns : List α} (f : α → ν) {k : α} {v : ν} (h : k ∈ ns) : put (ns.map fun n => (n, f n)) k v = ns.map fun n => (n, if n = k then v else f n) := by
  have : (lk (ns.map fun n => (n, f n)) k).isSome = true := by rw [lk_isSome, List.map_map]; simpa using h
  unfold put
  rw [this]
  simp only [if_true]
  rw [List.map_map]
  refine List.map_congr_left fun n _ => ?_
  by_cases e : n = k <;> simp [e]
theorem lk_fun {α : Type} [DecidableEq α] {ns : List α} (f : α → ν) {k : α} (h : k ∈ ns) : lk (ns.map fun n => (n, f n)) k = some (f k) := by
  induction ns with
  | nil => cases h
  | cons a ns ih =>
    rw [List.map_cons, lk_cons]
    by_cases e : a = k
    · subst e; simp
    · rw [if_neg e]; exact ih ((List.mem_cons.mp h).resolve_left fun z => e z.symm)
theorem lk_put {kvs : List (κ × ν)} {k k' : κ} {v : ν} : lk (put kvs k v) k' = if k = k' then some v else lk kvs k' := by
  unfold put
  split
  · rename_i h
    induction kvs with
    | nil => cases h
    | cons p l ih =>
      rw [lk_cons] at h
      rw [List.map_cons, lk_cons, lk_cons]
      by_cases e : p.1 = k
      · simp only [e, if_true]
        by_cases e2 : k = k'
        · simp [e2]
        · simp only [e2, if_false]
          by_cases h' : (lk l k).isSome = true
          · have := ih h'; rw [if_neg e2] at this; exact this
          · have h2 : ∀ q ∈ l, ¬ q.1 = k := fun q m z => h' (by rw [lk_isSome]; simp; exact ⟨_, by rw [← z]; exact m⟩)
            have : l.map (fun p => if p.1 = k then (p.1, v) else p) = l := by
              conv => rhs; rw [← List.map_id l]
              exact List.map_congr_left fun q m => by simp [h2 q m]
            rw [this]
      · simp only [e, if_false] at h ⊢
        rw [ih h]
        by_cases e2 : k = k'
        · subst e2; simp [e]
        · simp [e2]
  · rename_i h
    rw [lk_append, lk_cons, lk_nil]
    have h' : lk kvs k = none := by simpa using h
    by_cases e : k = k'
    · subst e; simp [h']
    · simp [e]
theorem put_len {kvs : List (κ × ν)} {k : κ} {v : ν} : (put kvs k v).length ≤ kvs.length + 1 := by unfold put; split <;> simp
def nkE {α : Type} (l : List α) : Bool := !l.isEmpty
theorem nkE_or {l : List (κ × ν)} : nkE l = true ∨ (l = [] ∧ nkE l = false) := by cases l <;> simp [nkE]
theorem nkE_put {kvs : List (κ × ν)} {k : κ} {v : ν} : nkE (put kvs k v) = true := by
  unfold put nkE
  split
  · rename_i h; cases kvs with
    | nil => cases h
    | cons => rfl
  · simp
theorem put_KE {ek : κ → D} {ev : ν → D} (h : KE' κ ek true) {kvs : List (κ × ν)} {k : κ} {v : ν} (hl : kvs.length < sizeLine) : opPut (.od (nkE kvs) (dK ek ev kvs)) [ek k, ev v] = some (.od (nkE (put kvs k v)) (dK ek ev (put kvs k v)), .none) := by
  rw [nkE_put]; exact put_K h nkE_or hl
theorem put_KF {ek : κ → D} {ev : ν → D} (h : KE' κ ek false) {kvs : List (κ × ν)} {k : κ} {v : ν} (hl : kvs.length < sizeLine) : opPut (.od false (dK ek ev kvs)) [ek k, ev v] = some (.od false (dK ek ev (put kvs k v)), .none) := put_K h (.inl rfl) hl
end
/-- keys alone -/
def setK {κ : Type} (e : κ → D) (xs : List κ) : List (D × D) := dK e (fun _ : Unit => .bool true) (xs.map fun x => (x, ()))
section
variable {κ : Type} [DecidableEq κ] {P : O → Prop} {e : κ → D} {t nk : Bool} {xs : List κ} {x : κ}
theorem lk_set : (lk (xs.map fun x => (x, ())) x).isSome = decide (x ∈ xs) := by
  rw [lk_isSome, List.map_map]; exact decide_eq_decide.mpr (by simp)
theorem oz_inSo (h : KE' κ e t) {o : O} (ho : asDc o = some (setK e xs)) : OptP (oIn [.sh (e x), o]) P ↔ P (.sh (.bool (decide (x ∈ xs)))) := by rw [oz_inK h ho, lk_set]
theorem oz_niSo (h : KE' κ e t) {o : O} (ho : asDc o = some (setK e xs)) : OptP (oNotIn [.sh (e x), o]) P ↔ P (.sh (.bool (!decide (x ∈ xs)))) := by rw [oz_niK h ho, lk_set]
theorem oz_inSd (h : KE' κ e t) : OptP (oIn [.sh (e x), .od nk (setK e xs)]) P ↔ P (.sh (.bool (decide (x ∈ xs)))) := oz_inSo h rfl
theorem oz_niSd (h : KE' κ e t) : OptP (oNotIn [.sh (e x), .od nk (setK e xs)]) P ↔ P (.sh (.bool (!decide (x ∈ xs)))) := oz_niSo h rfl
theorem put_set (h : KE' κ e true) (hx : x ∉ xs) (hl : xs.length < sizeLine) : opPut (.od (nkE xs) (setK e xs)) [e x, .bool true] = some (.od (nkE (xs ++ [x])) (setK e (xs ++ [x])), .none) := by
  have hn : lk (xs.map fun x => (x, ())) x = none := by
    have := lk_set (xs := xs) (x := x)
    cases c : lk (xs.map fun x => (x, ())) x with
    | none => rfl
    | some v => rw [c] at this; simp at this; exact absurd this hx
  have := put_KE (ev := fun _ : Unit => .bool true) h (kvs := xs.map fun x => (x, ())) (k := x) (v := ()) (by rw [List.length_map]; exact hl)
  rw [put_new hn] at this
  have e1 : nkE (xs.map fun x => (x, ())) = nkE xs := by cases xs <;> rfl
  have e2 : nkE ((xs.map fun x => (x, ())) ++ [(x, ())]) = nkE (xs ++ [x]) := by cases xs <;> rfl
  rw [e1, e2] at this
  unfold setK
  rw [List.map_append]
  exact this
theorem oz_get2 {ν : Type} {ev : ν → D} (h : KE' κ e t) {kvs : List (κ × ν)} {o : O} {d : D} (ho : asDc o = some (dK e ev kvs)) : OptP (oGet2 [o, .sh (e x), .sh d]) P ↔ P (.sh (((lk kvs x).map ev).getD d)) := by
  have : oGet2 [o, .sh (e x), .sh d] = some (.sh (((lk kvs x).map ev).getD d)) := by
    unfold oGet2
    simp only [ho, asD]
    rw [h.ok, kind_K h, dget_K h]; rfl
  rw [this, optP_some]
theorem oz_get2D {ν : Type} {ev : ν → D} (h : KE' κ e t) {kvs : List (κ × ν)} {d : D} : OptP (oGet2 [.od nk (dK e ev kvs), .sh (e x), .sh d]) P ↔ P (.sh (((lk kvs x).map ev).getD d)) := oz_get2 h rfl
end
section
variable {ρ : Wl.Env} {QR : R → Wl.Env → Prop}
theorem we_ty {Ty : String} {f : M R} : WE (eTy Ty f) ρ QR ↔ WE f ρ fun r ρ1 => OptP (der r ρ1) fun o => tyO Ty o = true ∧ QR r ρ1 := by
  unfold eTy
  rw [we_bind]
  refine ⟨fun h => h.mono fun r ρ1 h => ?_, fun h => h.mono fun r ρ1 h => ?_⟩
  · obtain ⟨a, r', e, q⟩ := h
    simp only at e
    split at e
    · rename_i o e1
      split at e
      · rename_i c; cases e; exact ⟨o, e1, c, q⟩
      · cases e
    · cases e
  · obtain ⟨o, e1, c, q⟩ := h
    exact ⟨_, _, by simp only [e1, c, if_true], q⟩
theorem we_sh {f : M R} : WE (eSh f) ρ QR ↔ WE f ρ fun r ρ1 => WE (toSh r) ρ1 fun d ρ2 => QR (.v (.sh d)) ρ2 := by
  unfold eSh; rw [we_bind]
  refine ⟨fun h => h.mono fun r ρ1 h => ?_, fun h => h.mono fun r ρ1 h => ?_⟩
  · rw [we_bind] at h; exact h.mono fun d ρ2 h => we_pure.mp h
  · rw [we_bind]; exact h.mono fun d ρ2 h => we_pure.mpr h
end
/-! ### models -/
def opl : List Ev → List (Msg × Nd) := List.filterMap fun e => match e with
  | .snd _ _ => none
  | .opn n m => some (m, n)
theorem opl_snd (pre : List Ev) (n : Nd) (rs : List Nd) : opl (pre ++ [.snd n rs]) = opl pre := by simp [opl]
theorem opl_opn (pre : List Ev) (n : Nd) (m : Msg) : opl (pre ++ [.opn n m]) = opl pre ++ [(m, n)] := by simp [opl]
theorem opl_mem {pre : List Ev} {m : Msg} {n : Nd} : (m, n) ∈ opl pre ↔ Ev.opn n m ∈ pre := by
  unfold opl
  rw [List.mem_filterMap]
  constructor
  · rintro ⟨e, h1, h2⟩
    cases e with
    | snd => cases h2
    | opn a b => simp at h2; obtain ⟨rfl, rfl⟩ := h2; exact h1
  · intro h; exact ⟨_, h, rfl⟩
theorem opl_len (pre : List Ev) : (opl pre).length ≤ pre.length := List.length_filterMap_le _ _
theorem sends_len (pre : List Ev) : (sends pre).length ≤ pre.length := by
  refine Mo.snocInd (P := fun pre => (sends pre).length ≤ pre.length) (by simp [sends_nil]) (fun es e ih => ?_) pre
  cases e with
  | snd n rs => rw [sends_snd]; simp; exact ih
  | opn n m => rw [sends_opn]; simp; omega
def rcK (es : List Ev) : List (Msg × List Nd) := (sends es).map fun p => (p.1, p.2.2)
def spK (es : List Ev) : List (Msg × Nat) := (sends es).map fun p => (p.1, p.2.1)
theorem rcK_snd (pre : List Ev) (n : Nd) (rs : List Nd) : rcK (pre ++ [.snd n rs]) = rcK pre ++ [((n, cnt pre n + 1), rs)] := by unfold rcK; rw [sends_snd, List.map_append]; rfl
theorem spK_snd (pre : List Ev) (n : Nd) (rs : List Nd) : spK (pre ++ [.snd n rs]) = spK pre ++ [((n, cnt pre n + 1), pre.length)] := by unfold spK; rw [sends_snd, List.map_append]; rfl
theorem rcK_opn (pre : List Ev) (n : Nd) (m : Msg) : rcK (pre ++ [.opn n m]) = rcK pre := by unfold rcK; rw [sends_opn]
theorem spK_opn (pre : List Ev) (n : Nd) (m : Msg) : spK (pre ++ [.opn n m]) = spK pre := by unfold spK; rw [sends_opn]
theorem lk_rcK (es : List Ev) (m : Msg) : lk (rcK es) m = (lk (sends es) m).map (·.2) := lk_map _
theorem lk_spK (es : List Ev) (m : Msg) : lk (spK es) m = (lk (sends es) m).map (·.1) := lk_map _
theorem lk_new (es : List Ev) (n : Nd) : lk (sends es) (n, cnt es n + 1) = none := by
  rw [lk_none]
  intro h
  obtain ⟨⟨m, i, rs⟩, h1, h2⟩ := List.mem_map.mp h
  have := (sends_mem es h1).2.1
  simp only at h2
  subst h2
  simp at this
  omega
theorem VR_snd {ns : List Nd} {pre post : List Ev} (h : VR ns (pre ++ post)) {m : Msg} {i : Nat} {rs : List Nd} (hm : (m, i, rs) ∈ sends pre) : m.1 ∈ ns ∧ RV ns m.1 rs := by
  have e := sends_at pre hm
  obtain ⟨a, b, e2⟩ := List.append_of_mem (List.mem_of_getElem? e)
  exact h a (.snd m.1 rs) (b ++ post) (by rw [e2]; simp)
abbrev lsD (rs : List Nd) : D := .list (rs.map nmD)
theorem sp_is_run {ns : List Nd} {es : List Ev} (hn : VN ns) (h : VR ns es) (hl : es.length ≤ 1000) (Q : O → List O → Prop) : WF f_is_run [.sh (.list (ns.map nmD)), .sh (.list (es.map eD))] Q ↔ Q (.sh (.bool true)) [.sh (.list (ns.map nmD)), .sh (.list (es.map eD))] := wf_of (fun Q q => by
  unfold f_is_run b_is_run
  push_cast [sp_need_nodes hn, oz_isi, ty_list, subTy]
  refine dc_wp nmD nmD (fun _ => .int 0) false ns false [] (sz _ (by have := hn.le; simp; omega)) rfl (fun _ h => nomatch h) (fun _ _ _ h => nomatch h) (hn.pw.imp fun {a b} z => by rw [k_nm.keq, decide_eq_false fun e => by subst e; exact Fin.lt_irrefl _ z]) (fun x hx => ?_) ?_
  · push_cast [k_nm.ok, k_nm.t]
  · have e0 : ([] ++ ns.map fun x => (nmD x, PyData.int 0)) = dK nmD iD (ns.map fun n => (n, cnt [] n)) := by
      unfold dK; rw [List.map_map]; rfl
    rw [e0, Bool.false_and]
    push_cast []
    refine ws_loop eD (fun pre ρ => ∃ x y, ρ = [some (.sh (.list (ns.map nmD))), some (.sh (.list (es.map eD))), some (.od false (dK nmD iD (ns.map fun n => (n, cnt pre n)))), some (.od (nkE (rcK pre)) (dK mD lsD (rcK pre))), some (.od (nkE (opl pre)) (setK mnD (opl pre))), x, y, none]) ⟨none, none, rfl⟩ ?_ ?_
    · rintro pre e post ρ hx ⟨x, y, rfl⟩
      have hv := h pre e post hx.symm
      have hlen : pre.length < 1000 := by have := congrArg List.length hx; simp at this; omega
      cases e with
      | snd n rs =>
        obtain ⟨v1, v2⟩ := hv
        have hr := pw_len' v2.2.1
        have hc : cnt (pre ++ [.snd n rs]) n = cnt pre n + 1 := by rw [cnt_snd, if_pos rfl]
        have hp1 : opPut (.od false (dK nmD iD (ns.map fun n => (n, cnt pre n)))) [nmD n, .int ((cnt pre n : Int) + 1)] = some (.od false (dK nmD iD (ns.map fun k => (k, Mo.cnt (pre ++ [.snd n rs]) k))), .none) := by
          have := put_KF (ev := iD) k_nm (kvs := ns.map fun n => (n, cnt pre n)) (k := n) (v := cnt pre n + 1) (by have := sz 12; have := hn.le; rw [List.length_map]; exact Nat.lt_of_le_of_lt this (by decide +kernel))
          rw [put_map _ v1] at this
          have e : (ns.map fun k => (k, if k = n then cnt pre n + 1 else cnt pre k)) = ns.map fun k => (k, Mo.cnt (pre ++ [.snd n rs]) k) := List.map_congr_left fun k _ => by
            rw [cnt_snd]
            by_cases e : k = n
            · subst e; simp
            · simp [e, show ¬ n = k from fun z => e z.symm]
          rw [e] at this; exact this
        have hp2 : opPut (.od (nkE (rcK pre)) (dK mD lsD (rcK pre))) [mD (n, cnt pre n + 1), .list (rs.map nmD)] = some (.od (nkE (rcK (pre ++ [.snd n rs]))) (dK mD lsD (rcK (pre ++ [.snd n rs]))), .none) := by
          have := put_KE (ev := lsD) k_m (kvs := rcK pre) (k := (n, cnt pre n + 1)) (v := rs) (by unfold rcK; rw [List.length_map]; exact Nat.lt_of_le_of_lt (sends_len pre) (Nat.lt_of_lt_of_le hlen (sz 1000)))
          rw [put_new (by rw [lk_rcK, lk_new]; rfl)] at this
          rw [rcK_snd]; exact this
        push_cast [sp_is_eventS (e := .snd n rs) (show Ev.node (.snd n rs) ∈ ns from v1), isS, oz_e1, oz_e2s, Ev.node, sp_is_receivers v2 (by omega), dget_Ko k_nm (o := .od false (dK nmD iD (ns.map fun n => (n, cnt pre n)))) rfl, lk_fun (fun n => cnt pre n) v1, hp1, hp2, oz_getO k_nm, lk_fun (fun k => Mo.cnt (pre ++ [.snd n rs]) k) v1, hc, iD, mD_mk1, opl_snd]
        exact sz 2
      | opn n m =>
        obtain ⟨v1, ⟨i, rs, v2, v3⟩, v4⟩ := hv
        have hm := (sends_mem pre (lk_mem v2)).1
        have hmn := (VR_snd (post := .opn n m :: post) (by rw [hx]; exact h) (lk_mem v2)).1
        have hp : opPut (.od (nkE (opl pre)) (setK mnD (opl pre))) [mnD (m, n), .bool true] = some (.od (nkE (opl (pre ++ [.opn n m]))) (setK mnD (opl (pre ++ [.opn n m]))), .none) := by
          rw [opl_opn]
          exact put_set k_mn (fun z => v4 (opl_mem.mp z)) (Nat.lt_of_le_of_lt (opl_len pre) (Nat.lt_of_lt_of_le hlen (sz 1000)))
        push_cast [sp_is_eventS (e := .opn n m) (show Ev.node (.opn n m) ∈ ns from v1), sp_is_eventO (e := .opn n m) (show Ev.node (.opn n m) ∈ ns from v1), isS, oz_e1, oz_e2o, Ev.node, sp_is_message hmn hm, mnD_mk, ↓we_ty, ↓we_sh, oz_get2D k_m, lk_rcK, v2, oz_niV v_nm, v3, oz_inSd k_mn, opl_mem, v4, hp]
        refine ⟨sz 2, ?_, ?_, ?_⟩
        · simp only [cnt_opn]
        · rw [rcK_opn]
        · rw [rcK_opn]
    · rintro ρ ⟨x, y, rfl⟩
      push_cast [q]) Q
end Lw

/- text Pd -/
set_option Elab.async false
set_option maxRecDepth 100000
set_option maxHeartbeats 400000
namespace Lw
open PySem PySem.Spec L2 Wl Mo
open PyProof.Rows hiding St
local macro_rules
  | `(tactic| push_cast [$ls,*]) => `(tactic| simp (dsimp := false) [↓we_bind, ↓we_pure, ↓we_var, ↓we_c, ↓we_nil, ↓we_cons, ↓we_op, ↓we_e1, ↓we_e2, ↓we_tTrue, ↓we_sh0, ↓we_sh1, ↓we_tB, ↓we_and, ↓we_or, ↓we_not, ↓we_if, ↓we_eand, ↓we_eor, ↓we_enot, ↓we_toSh, ↓we_call, ↓we_lst, ↓we_tup, ↓we_lc, ↓we_dc, ↓we_de, ↓we_disp, ↓we_newD, ↓we_ext, ↓we_bor, ↓we_tbor, ↓we_q, ↓we_srcR, ↓we_srcAny, ↓we_srcE, ↓we_srcIt, ↓we_srcZ, ↓we_sl, ↓we_pSome, ↓we_pNone, ↓ws_for, ↓ws_next, ↓ws_seq, ↓ws_if, ↓ws_set, ↓ws_ret, ↓ws_retN, ↓ws_drop, ↓ws_put, ↓ws_asg, ↓ws_pars, ↓ws_augD, ↓ws_pm, ↓ws_pp, ↓ws_pu, ↓we_mutAt, ↓we_meth, ↓wf_fn, optP_some, shAll, still, der, ders, asD, putR, gSet, gTupM, gsCons, gsNil, pars, obOf, asSh, addI, qC, qV, qIx, pBase, pStep, oz_add, oz_sub, oz_abs, oz_max2, oz_min2, oz_mul, oz_mod, oz_div, oz_pow, ordI, cLtI, cGtI, cLeI, cGeI, oz_eqI, oz_neI, oz_ixL, oz_ixSL, oz_ixT, oz_lenL, oz_lenO, oz_lenT, atZ_nat, atZ_0, atZ_1, atZ_2, slotIs, ofTy, isOwn, ixN, okArgs, outsOf, List.range_succ, shArgs, osOf, putOuts, ndModes, toSh, wipeE, unwipe, tTrue, anyOf, oSlL, asL, tyO, iD, isK_str, isK_nm, isK_int, $ls,*])
theorem lt_sz {n : Nat} (h : n ≤ 100000) : n < sizeLine := Nat.lt_of_le_of_lt h (by decide +kernel)
theorem sp_need_run {ns : List Nd} {es : List Ev} (hn : VN ns) (h : VR ns es) (hl : es.length ≤ 1000) (Q : O → List O → Prop) : WF f_need_run [.sh (.list (ns.map nmD)), .sh (.list (es.map eD))] Q ↔ Q (.sh .none) [.sh (.list (ns.map nmD)), .sh (.list (es.map eD))] := wf_of (fun Q q => by
  unfold f_need_run b_need_run
  push_cast [sp_is_run hn h hl, q]) Q
theorem zip_split {α : Type} {xs : List α} {x : α} {k : Nat} {pp qq : List (α × Nat)} (h : pp ++ (x, k) :: qq = xs.zipIdx) : ∃ pre post, xs = pre ++ x :: post ∧ pp = pre.zipIdx ∧ k = pre.length := by
  have hl : pp.length < xs.length := by have := congrArg List.length h; simp at this; omega
  have e1 : xs.zipIdx = (xs.take pp.length).zipIdx ++ (xs.drop pp.length).zipIdx pp.length := by
    conv => lhs; rw [← List.take_append_drop pp.length xs]
    rw [List.zipIdx_append, List.length_take, Nat.min_eq_left (by omega), Nat.zero_add]
  rw [e1] at h
  obtain ⟨h1, h2⟩ := List.append_inj h (by simp; omega)
  cases c : xs.drop pp.length with
  | nil => rw [c] at h2; cases h2
  | cons y ys =>
    rw [c, List.zipIdx_cons] at h2
    injection h2 with h3 h4
    injection h3 with h5 h6
    subst h5
    refine ⟨xs.take pp.length, ys, ?_, h1, ?_⟩
    · rw [← c, List.take_append_drop]
    · rw [h6, List.length_take]; omega
/-- a walk with the indices -/
theorem ws_loopE {α : Type} {g : D → Wl.Env → Option Wl.Env} {body : SM} (F : α → D) (I : List α → Wl.Env → Prop) {xs : List α} {ρ : Wl.Env} {N : Wl.Env → Prop} {T : R → Wl.Env → Prop} (h0 : I [] ρ)
    (st : ∀ pre x post ρ, pre ++ x :: post = xs → I pre ρ → OptP (g (.tuple [.int (pre.length : Int), F x]) ρ) fun ρ1 => WS body ρ1 (fun ρ2 => I (pre ++ [x]) ρ2) fun _ _ => False) (hN : ∀ ρ', I xs ρ' → N ρ') : WS (loop g body (enumD (xs.map F))) ρ N T := by
  rw [enum_map]
  refine ws_loop (fun p : α × Nat => .tuple [.int (p.2 : Int), F p.1]) (fun pp ρ => I (pp.map (·.1)) ρ) h0 ?_ (fun ρ' h => hN ρ' (by simpa using h))
  rintro pp ⟨x, k⟩ qq ρ hx hI
  obtain ⟨pre, post, e1, e2, e3⟩ := zip_split hx
  subst e2 e3
  have hI' : I pre ρ := by simpa using hI
  have e : List.map (fun p : α × Nat => p.1) (pre.zipIdx ++ [(x, pre.length)]) = pre ++ [x] := by simp
  rw [e]
  exact st pre x post ρ e1.symm hI'
theorem sp_send_spots {es : List Ev} (hl : es.length ≤ 1000) (Q : O → List O → Prop) : WF f_send_spots [.sh (.list (es.map eD))] Q ↔ Q (.od (nkE (spK es)) (dK mD iD (spK es))) [.sh (.list (es.map eD))] := wf_of (fun Q q => by
  unfold f_send_spots b_send_spots
  push_cast []
  refine ws_loopE eD (fun pre ρ => ∃ ck x y z u, (∀ n, (lk ck n).getD 0 = Mo.cnt pre n) ∧ ck.length ≤ pre.length ∧ ρ = [some (.sh (.list (es.map eD))), some (.od false (dK nmD iD ck)), some (.od (nkE (spK pre)) (dK mD iD (spK pre))), x, y, z, u]) ⟨[], none, none, none, none, fun _ => rfl, Nat.le_refl _, rfl⟩ ?_ ?_
  · rintro pre e post ρ hx ⟨ck, x, y, z, u, h1, h2, rfl⟩
    have hlen : pre.length < 1000 := by have := congrArg List.length hx; simp at this; omega
    cases e with
    | opn n m =>
      push_cast [eD_opn, oz_eqSS kd_so kd_ss, kd_ne]
      refine ⟨ck, ?_, ?_, rfl, ?_, ?_⟩
      · intro k; rw [cnt_opn]; exact h1 k
      · omega
      · rw [spK_opn]
      · rw [spK_opn]
    | snd n rs =>
      have hp1 : opPut (.od false (dK nmD iD ck)) [nmD n, .int ((Mo.cnt pre n : Int) + 1)] = some (.od false (dK nmD iD (put ck n (Mo.cnt pre n + 1))), .none) := put_KF (ev := iD) k_nm (v := Mo.cnt pre n + 1) (lt_sz (by omega))
      have hp2 : opPut (.od (nkE (spK pre)) (dK mD iD (spK pre))) [mD (n, Mo.cnt pre n + 1), .int (pre.length : Int)] = some (.od (nkE (spK (pre ++ [.snd n rs]))) (dK mD iD (spK (pre ++ [.snd n rs]))), .none) := by
        have := put_KE (ev := iD) k_m (kvs := spK pre) (k := (n, Mo.cnt pre n + 1)) (v := pre.length) (lt_sz (by unfold spK; rw [List.length_map]; have := sends_len pre; omega))
        rw [put_new (by rw [lk_spK, lk_new]; rfl)] at this
        rw [spK_snd]; exact this
      have hg : ((lk ck n).map iD).getD (.int 0) = .int (Mo.cnt pre n : Int) := by
        rw [← h1 n]; cases lk ck n <;> rfl
      push_cast [eD_snd, oz_eqSS kd_ss kd_ss, ↓we_ty, ↓we_sh, oz_get2D k_nm, hg, hp1, oz_getO k_nm, lk_put, mD_mk1, hp2]
      refine ⟨sz 2, put ck n (Mo.cnt pre n + 1), ?_, ?_, rfl⟩
      · intro k
        rw [lk_put, cnt_snd]
        by_cases e : n = k
        · subst e; simp
        · simp only [e, if_false]; exact h1 k
      · have := put_len (kvs := ck) (k := n) (v := Mo.cnt pre n + 1); omega
  · rintro ρ ⟨ck, x, y, z, u, h1, h2, rfl⟩
    push_cast [q]) Q
def rcv (es : List Ev) (m : Msg) : List Nd := match lk (sends es) m with
  | some (_, rs) => rs
  | none => []
def am (es : List Ev) : List (Msg × List Nd) := (msgs es).map fun m => (m, rcv es m)
theorem rcv_eq {es : List Ev} {m : Msg} {i : Nat} {rs : List Nd} (h : lk (sends es) m = some (i, rs)) : rcv es m = rs := by unfold rcv; rw [h]
theorem idx_at (es : List Ev) {m : Msg} {i : Nat} {rs : List Nd} (h : lk (sends es) m = some (i, rs)) : (es.map eD)[i]? = some (eD (.snd m.1 rs)) := by
  rw [List.getElem?_map, sends_at es (lk_mem h)]; rfl
theorem msgs_lk {es : List Ev} {m : Msg} (h : m ∈ msgs es) : ∃ i rs, lk (sends es) m = some (i, rs) := by
  have := msgs_mem.mp h
  cases e : lk (sends es) m with
  | none => exact absurd this (lk_none.mp e)
  | some x => exact ⟨x.1, x.2, rfl⟩
theorem msgs_len (es : List Ev) : (msgs es).length ≤ es.length := by
  unfold msgs; rw [sortM_len, List.length_map]; exact sends_len es
theorem sortO_K {P : O → Prop} {ν : Type} {ev : ν → D} {nk : Bool} {kvs : List (Msg × ν)} (h : kvs.length ≤ 100000) : OptP (oSorted [.od nk (dK mD ev kvs)]) P ↔ P (.ol ((sortM (kvs.map (·.1))).map mD)) := by
  have e : oSorted [.od nk (dK mD ev kvs)] = oSorted [.ol ((kvs.map (·.1)).map mD)] := by
    have : itemsOf (.od nk (dK mD ev kvs)) = itemsOf (.ol ((kvs.map (·.1)).map mD)) := congrArg some (keys_K kvs)
    unfold oSorted; simp only [this]
  rw [e, oz_sortO]
  exact and_iff_right (sortOk_m _ (by rw [List.length_map]; exact sz _))
theorem oz_sortM {P : O → Prop} {ms : List Msg} (h : ms.length ≤ 100000) : OptP (oSorted [.ol (ms.map mD)]) P ↔ P (.ol ((sortM ms).map mD)) := by
  rw [oz_sortO]
  exact and_iff_right (sortOk_m _ (sz _))
theorem spK_len (es : List Ev) : (spK es).length ≤ es.length := by unfold spK; rw [List.length_map]; exact sends_len es
theorem spK_keys (es : List Ev) : (spK es).map (·.1) = (sends es).map (·.1) := by unfold spK; rw [List.map_map]; rfl
theorem oz_listL {P : O → Prop} {ds : List D} : OptP (oList [.sh (.list ds)]) P ↔ P (.ol ds) := optP_some
theorem sp_all_messages {es : List Ev} (hl : es.length ≤ 1000) (Q : O → List O → Prop) : WF f_all_messages [.sh (.list (es.map eD))] Q ↔ Q (.od (nkE (am es)) (dK mD lsD (am es))) [.sh (.list (es.map eD))] := wf_of (fun Q q => by
  unfold f_all_messages b_all_messages
  push_cast [sp_send_spots hl, sortO_K (kvs := spK es) (Nat.le_trans (spK_len es) (by omega)), spK_keys]
  rw [show sortM ((sends es).map fun x => x.1) = msgs es from rfl]
  refine dc_wp mD mD (fun m => match lk (sends es) m with | some (_, rs) => lsD rs | none => lsD []) true (msgs es) false [] (sz _ (by have := msgs_len es; simp; omega)) rfl (fun _ h => nomatch h) (fun _ _ _ h => nomatch h) ((msgs_nodup es).imp fun {a b} z => by rw [k_m.keq, decide_eq_false z]) (fun m hm => ?_) ?_
  · obtain ⟨i, rs, h⟩ := msgs_lk hm
    push_cast [k_m.ok, k_m.t, oz_getO k_m, lk_spK, h, List.getElem?_map, sends_at es (lk_mem h), oz_e2s, oz_listL]
  · have e : (msgs es).map (fun x => (mD x, match lk (sends es) x with | some (_, rs) => lsD rs | none => lsD [])) = dK mD lsD (am es) := by
      unfold dK am
      rw [List.map_map]
      refine List.map_congr_left fun m hm => ?_
      obtain ⟨i, rs, h⟩ := msgs_lk hm
      simp [h, rcv_eq h]
    have e2 : (true && !(dK mD lsD (am es)).isEmpty) = nkE (am es) := by cases am es <;> rfl
    rw [List.nil_append, e, e2]
    push_cast [q]) Q
end Lw

/- text Pe -/
set_option Elab.async false
set_option maxRecDepth 100000
set_option maxHeartbeats 400000
namespace Lw
open PySem PySem.Spec L2 Wl Mo
open PyProof.Rows hiding St
local macro_rules
  | `(tactic| push_cast [$ls,*]) => `(tactic| simp (dsimp := false) [↓we_bind, ↓we_pure, ↓we_var, ↓we_c, ↓we_nil, ↓we_cons, ↓we_op, ↓we_e1, ↓we_e2, ↓we_tTrue, ↓we_sh0, ↓we_sh1, ↓we_tB, ↓we_and, ↓we_or, ↓we_not, ↓we_if, ↓we_eand, ↓we_eor, ↓we_enot, ↓we_toSh, ↓we_call, ↓we_lst, ↓we_tup, ↓we_lc, ↓we_dc, ↓we_de, ↓we_disp, ↓we_newD, ↓we_ext, ↓we_bor, ↓we_tbor, ↓we_q, ↓we_srcR, ↓we_srcAny, ↓we_srcE, ↓we_srcIt, ↓we_srcZ, ↓we_sl, ↓we_pSome, ↓we_pNone, ↓ws_for, ↓ws_next, ↓ws_seq, ↓ws_if, ↓ws_set, ↓ws_ret, ↓ws_retN, ↓ws_drop, ↓ws_put, ↓ws_asg, ↓ws_pars, ↓ws_augD, ↓ws_pm, ↓ws_pp, ↓ws_pu, ↓we_mutAt, ↓we_meth, ↓wf_fn, optP_some, shAll, still, der, ders, asD, putR, gSet, gTupM, gsCons, gsNil, pars, obOf, asSh, addI, qC, qV, qIx, pBase, pStep, oz_add, oz_sub, oz_abs, oz_max2, oz_min2, oz_mul, oz_mod, oz_div, oz_pow, ordI, cLtI, cGtI, cLeI, cGeI, oz_eqI, oz_neI, oz_ixL, oz_ixSL, oz_ixT, oz_lenL, oz_lenO, oz_lenT, atZ_nat, atZ_0, atZ_1, atZ_2, slotIs, ofTy, isOwn, ixN, okArgs, outsOf, List.range_succ, shArgs, osOf, putOuts, ndModes, toSh, wipeE, unwipe, tTrue, anyOf, oSlL, asL, tyO, iD, isK_str, isK_nm, isK_int, $ls,*])
abbrev ixD (ss : List Nat) : D := .list (ss.map iD)
abbrev beD (ks : List Nat) : D := .dict (idxK ks)
theorem oz_niI {P : O → Prop} {xs : List Nat} {a : Nat} : OptP (oNotIn [.sh (.int (a : Int)), .ol (xs.map iD)]) P ↔ P (.sh (.bool (!decide (a ∈ xs)))) := oz_niO v_i
theorem nd_pred {ns : List Nd} {pre post : List Ev} (h : VR ns (pre ++ post)) {m : Msg} {i : Nat} {rs : List Nd} (hm : (m, i, rs) ∈ sends pre) : m.1 ∈ ns := (VR_snd h hm).1
theorem oz_lkd {P : O → Prop} {ck : List (Nd × Nat)} {n : Nd} {nk : Bool} : OptP (oIn [.sh (nmD n), .od nk (dK nmD iD ck)]) P ↔ P (.sh (.bool (lk ck n).isSome)) := oz_inD k_nm
theorem sp_predecessors {ns : List Nd} {es : List Ev} (h : VR ns es) (hl : es.length ≤ 1000) (Q : O → List O → Prop) : WF f_predecessors [.sh (.list (es.map eD))] Q ↔ Q (.ol ((preds es).map ixD)) [.sh (.list (es.map eD))] := wf_of (fun Q q => by
  unfold f_predecessors b_predecessors
  push_cast [sp_send_spots hl]
  refine ws_loopE eD (fun pre ρ => ∃ ck x y z u, (∀ n, lk ck n = latest pre n) ∧ ck.length ≤ pre.length ∧ ρ = [some (.sh (.list (es.map eD))), some (.od false (dK nmD iD ck)), some (.od (nkE (spK es)) (dK mD iD (spK es))), some (.ol ((preds pre).map ixD)), x, y, z, u]) ⟨[], none, none, none, none, fun _ => rfl, Nat.le_refl _, rfl⟩ ?_ ?_
  · rintro pre e post ρ hx ⟨ck, x, y, z, u, h1, h2, rfl⟩
    have hlen : pre.length < 1000 := by have := congrArg List.length hx; simp at this; omega
    have hv := h pre e post hx.symm
    have hp1 : opPut (.od false (dK nmD iD ck)) [nmD e.node, .int (pre.length : Int)] = some (.od false (dK nmD iD (put ck e.node pre.length)), .none) := put_KF (ev := iD) k_nm (lt_sz (by omega))
    have hap : ∀ ss : List Nat, opAppend (.ol ((preds pre).map ixD)) [.list (ss.map iD)] = some (.ol ((preds pre ++ [ss]).map ixD), .none) := fun ss => by
      unfold opAppend
      simp only
      rw [if_pos (lt_sz (by rw [List.length_map, preds_length]; omega)), List.map_append]; rfl
    have hapS : ∀ (ss : List Nat) (s : Nat), ss.length ≤ 10 → opAppend (.ol (ss.map iD)) [.int (s : Int)] = some (.ol ((ss ++ [s]).map iD), .none) := fun ss s hs => by
      unfold opAppend
      simp only
      rw [if_pos (lt_sz (by rw [List.length_map]; omega)), List.map_append]; rfl
    have fin : ∀ n, lk (put ck e.node pre.length) n = latest (pre ++ [e]) n := fun n => by rw [lk_put, latest_snoc, h1]
    have finl := put_len (kvs := ck) (k := e.node) (v := pre.length)
    have hla := h1 e.node
    cases e with
    | snd n rs =>
      simp only [Ev.node] at hp1 fin finl hla
      cases hn : latest pre n with
      | none =>
        rw [hn] at hla
        push_cast [oz_e1, oz_e0, Ev.node, oz_lkd, hla, oz_eqSS kd_ss kd_so, kdS, kd_ne', hap []]
        have hap0 := hap []
        simp only [List.map_nil] at hap0
        push_cast [hap0, hp1]
        exact ⟨put ck n pre.length, fin, by omega, rfl, by rw [preds_snoc, List.map_append]; simp [steps, hn]⟩
      | some l =>
        rw [hn] at hla
        have hap1 := hap [l]
        simp only [List.map_cons, List.map_nil] at hap1
        push_cast [oz_e1, oz_e0, Ev.node, oz_lkd, hla, oz_getO k_nm, oz_eqSS kd_ss kd_so, kdS, kd_ne', hap1, hp1]
        exact ⟨sz 1, put ck n pre.length, fin, by omega, rfl, by rw [preds_snoc, List.map_append]; simp [steps, hn]⟩
    | opn n m =>
      obtain ⟨v1, ⟨i, rs, v2, v3⟩, v4⟩ := hv
      have v5 : lk (sends es) m = some (i, rs) := by rw [← hx]; exact sends_lk v2
      simp only [Ev.node] at hp1 fin finl hla
      cases hn : latest pre n with
      | none =>
        rw [hn] at hla
        have hapS1 := hapS [] i (by simp)
        have hap1 := hap [i]
        simp only [List.map_cons, List.map_nil, List.nil_append] at hap1 hapS1
        have hni : ∀ (a : Nat) (P : O → Prop), OptP (oNotIn [.sh (.int (a : Int)), .ol []]) P ↔ P (.sh (.bool true)) := fun a P => oz_niI (xs := [])
        push_cast [oz_e1, oz_e0, Ev.node, oz_lkd, hla, oz_eqSS kd_so kd_so, kdS, oz_e2o, oz_getO k_m, lk_spK, v5, hni, hapS1, hap1, hp1]
        exact ⟨put ck n pre.length, fin, by omega, rfl, by rw [preds_snoc, List.map_append]; simp [steps, hn, v2]⟩
      | some l =>
        rw [hn] at hla
        have hni : ∀ (a : Nat) (P : O → Prop), OptP (oNotIn [.sh (.int (a : Int)), .ol [.int (l : Int)]]) P ↔ P (.sh (.bool (!decide (a = l)))) := fun a P => (oz_niI (xs := [l])).trans (by simp)
        by_cases hs : i = l
        · subst hs
          have hap1 := hap [i]
          simp only [List.map_cons, List.map_nil] at hap1
          push_cast [oz_e1, oz_e0, Ev.node, oz_lkd, hla, oz_getO k_nm, oz_eqSS kd_so kd_so, kdS, oz_e2o, oz_getO k_m, lk_spK, v5, hni, hap1, hp1]
          exact ⟨sz 1, put ck n pre.length, fin, by omega, rfl, by rw [preds_snoc, List.map_append]; simp [steps, hn, v2]⟩
        · have hapS1 := hapS [l] i (by simp)
          have hap1 := hap [l, i]
          simp only [List.map_cons, List.map_nil, List.cons_append, List.nil_append] at hap1 hapS1
          push_cast [oz_e1, oz_e0, Ev.node, oz_lkd, hla, oz_getO k_nm, oz_eqSS kd_so kd_so, kdS, oz_e2o, oz_getO k_m, lk_spK, v5, hni, hs, hapS1, hap1, hp1]
          exact ⟨sz 1, put ck n pre.length, fin, by omega, rfl, by rw [preds_snoc, List.map_append]; simp [steps, hn, v2, hs]⟩
  · rintro ρ ⟨ck, x, y, z, u, h1, h2, rfl⟩
    push_cast [q]) Q
theorem clos_at (es : List Ev) (i : Nat) (h : i < es.length) : (clos es)[i]? = some (be es i) := by
  unfold be; rw [List.getD_eq_getElem?_getD, List.getElem?_eq_getElem (by rw [clos_length]; exact h)]; rfl
theorem closP_nd (ps : List (List Nat)) : ∀ b ∈ closP ps, b.Nodup := by
  have : ∀ (ps c : List (List Nat)), (∀ b ∈ c, b.Nodup) → ∀ b ∈ ps.foldl (fun c p => c ++ [bef c p]) c, b.Nodup := fun ps => by
    induction ps with
    | nil => exact fun c h => h
    | cons p ps ih => exact fun c h => ih _ fun b m => (List.mem_append.mp m).elim (h b) fun m => by rw [List.mem_singleton.mp m]; exact bef_nodup
  exact this ps [] fun _ h => nomatch h
theorem be_nd (es : List Ev) (i : Nat) : (be es i).Nodup := by
  unfold be
  rw [List.getD_eq_getElem?_getD]
  cases h : (clos es)[i]? with
  | none => exact List.nodup_nil
  | some b => exact closP_nd _ b (List.mem_of_getElem? h)
theorem be_len (es : List Ev) (i : Nat) : (be es i).length ≤ i := nd_len i _ (be_nd es i) fun j h => be_lt es h
theorem preds_pre (pre post : List Ev) : ∃ l, preds (pre ++ post) = preds pre ++ l := by
  revert pre
  induction post with
  | nil => intro pre; exact ⟨[], by simp⟩
  | cons e post ih =>
    intro pre
    obtain ⟨l, h⟩ := ih (pre ++ [e])
    rw [List.append_assoc, List.singleton_append] at h
    rw [preds_snoc] at h; exact ⟨_, by rw [h, List.append_assoc]⟩
theorem preds_split {es : List Ev} {pp qq : List (List Nat)} {ss : List Nat} (h : pp ++ ss :: qq = preds es) : ∃ pre e post, es = pre ++ e :: post ∧ pp = preds pre ∧ ss = steps pre e := by
  have hl : pp.length < es.length := by have := congrArg List.length h; simp [preds_length] at this; omega
  have e1 : es = es.take pp.length ++ es[pp.length] :: es.drop (pp.length + 1) := by simp
  obtain ⟨l, h2⟩ := preds_pre (es.take pp.length ++ [es[pp.length]]) (es.drop (pp.length + 1))
  rw [List.append_assoc, List.singleton_append, ← e1, preds_snoc, ← h, List.append_assoc, List.singleton_append] at h2
  obtain ⟨h3, h4⟩ := List.append_inj h2 (by rw [preds_length, List.length_take]; omega)
  injection h4 with h5 h6
  exact ⟨_, _, _, e1, h3, h5⟩
theorem bef_lt {pre : List Ev} {e : Ev} {s1 s2 : List Nat} (h : s1 ++ s2 = steps pre e) : (bef (clos pre) s1).length ≤ pre.length := by
  refine nd_len _ _ bef_nodup fun j hj => ?_
  obtain ⟨s, hs, hj⟩ := mem_bef.mp hj
  have := steps_lt pre e (s := s) (by rw [← h]; exact List.mem_append_left _ hs)
  rcases hj with rfl | hj
  · exact this
  · have := be_lt pre (i := s) hj; omega
theorem sp_closure {ns : List Nd} {es : List Ev} (h : VR ns es) (hl : es.length ≤ 1000) (Q : O → List O → Prop) : WF f_closure [.sh (.list (es.map eD))] Q ↔ Q (.ol ((clos es).map beD)) [.sh (.list (es.map eD))] := wf_of (fun Q q => by
  unfold f_closure b_closure
  push_cast [sp_predecessors h hl]
  refine ws_loop ixD (fun pp ρ => ∃ x y z, ρ = [some (.sh (.list (es.map eD))), some (.ol ((closP pp).map beD)), x, y, z]) ⟨none, none, none, rfl⟩ ?_ ?_
  · rintro pp ss qq ρ hx ⟨x, y, z, rfl⟩
    obtain ⟨pre, e, post, e1, rfl, rfl⟩ := preds_split hx
    have hlen : pre.length < 1000 := by have := congrArg List.length e1; simp at this; omega
    push_cast []
    refine ws_loop iD (fun s1 ρ => ∃ z, ρ = [some (.sh (.list (es.map eD))), some (.ol ((clos pre).map beD)), some (.sh (ixD (steps pre e))), some (.od false (idxK (bef (clos pre) s1))), z]) ⟨z, rfl⟩ ?_ ?_
    · rintro s1 s s2 ρ hx ⟨z, rfl⟩
      have hs : s < pre.length := steps_lt pre e (by rw [← hx]; simp)
      have l1 := bef_lt (pre := pre) (e := e) (s1 := s1) (s2 := s :: s2) hx
      have l2 := be_len pre s
      have l3 := bef_lt (pre := pre) (e := e) (s1 := s1 ++ [s]) (s2 := s2) (by rw [← hx]; simp)
      have hu : opUpd (.od false (idxK (bef (clos pre) s1))) [.dict (idxK (be pre s))] = some (.od false (idxK (updK (bef (clos pre) s1) (be pre s))), .none) := upd_I (sz _ (by omega))
      have hb : bef (clos pre) (s1 ++ [s]) = insK (updK (bef (clos pre) s1) (be pre s)) s := by unfold bef; rw [List.foldl_append]; rfl
      have hle : (updK (bef (clos pre) s1) (be pre s)).length ≤ (bef (clos pre) (s1 ++ [s])).length := by rw [hb]; unfold insK; split <;> simp
      have hp : opPut (.od false (idxK (updK (bef (clos pre) s1) (be pre s)))) [.int (s : Int), .bool true] = some (.od false (idxK (bef (clos pre) (s1 ++ [s]))), .none) := by rw [hb]; exact put_I (lt_sz (by omega))
      push_cast [List.getElem?_map, clos_at pre s hs, hu, hp]
    · rintro ρ ⟨z, rfl⟩
      have hap : opAppend (.ol ((clos pre).map beD)) [.dict (idxK (bef (clos pre) (steps pre e)))] = some (.ol ((closP (preds pre ++ [steps pre e])).map beD), .none) := by
        rw [closP_snoc]
        unfold opAppend
        simp only
        rw [if_pos (lt_sz (by rw [List.length_map, clos_length]; omega)), List.map_append]; rfl
      push_cast [hap]
  · rintro ρ ⟨x, y, z, rfl⟩
    push_cast [q]
    exact q) Q
end Lw

/- text Pf -/
set_option Elab.async false
set_option maxRecDepth 100000
set_option maxHeartbeats 400000
namespace Lw
open PySem PySem.Spec L2 Wl Mo
open PyProof.Rows hiding St
local macro_rules
  | `(tactic| push_cast [$ls,*]) => `(tactic| simp (dsimp := false) [↓we_bind, ↓we_pure, ↓we_var, ↓we_c, ↓we_nil, ↓we_cons, ↓we_op, ↓we_e1, ↓we_e2, ↓we_tTrue, ↓we_sh0, ↓we_sh1, ↓we_tB, ↓we_and, ↓we_or, ↓we_not, ↓we_if, ↓we_eand, ↓we_eor, ↓we_enot, ↓we_toSh, ↓we_call, ↓we_lst, ↓we_tup, ↓we_lc, ↓we_dc, ↓we_de, ↓we_disp, ↓we_newD, ↓we_ext, ↓we_bor, ↓we_tbor, ↓we_q, ↓we_srcR, ↓we_srcAny, ↓we_srcE, ↓we_srcIt, ↓we_srcZ, ↓we_sl, ↓we_pSome, ↓we_pNone, ↓ws_for, ↓ws_next, ↓ws_seq, ↓ws_if, ↓ws_set, ↓ws_ret, ↓ws_retN, ↓ws_drop, ↓ws_put, ↓ws_asg, ↓ws_pars, ↓ws_augD, ↓ws_pm, ↓ws_pp, ↓ws_pu, ↓we_mutAt, ↓we_meth, ↓wf_fn, optP_some, shAll, still, der, ders, asD, putR, gSet, gTupM, gsCons, gsNil, pars, obOf, asSh, addI, qC, qV, qIx, pBase, pStep, oz_add, oz_sub, oz_abs, oz_max2, oz_min2, oz_mul, oz_mod, oz_div, oz_pow, ordI, cLtI, cGtI, cLeI, cGeI, oz_eqI, oz_neI, oz_ixL, oz_ixSL, oz_ixT, oz_lenL, oz_lenO, oz_lenT, atZ_nat, atZ_0, atZ_1, atZ_2, slotIs, ofTy, isOwn, ixN, okArgs, outsOf, List.range_succ, shArgs, osOf, putOuts, ndModes, toSh, wipeE, unwipe, tTrue, anyOf, oSlL, asL, tyO, iD, isK_str, isK_nm, isK_int, $ls,*])
def oplS (es : List Ev) : List (Nd × Msg) := (opl es).map fun p => (p.2, p.1)
theorem oplS_snd (pre : List Ev) (n : Nd) (rs : List Nd) : oplS (pre ++ [.snd n rs]) = oplS pre := by unfold oplS; rw [opl_snd]
theorem oplS_opn (pre : List Ev) (n : Nd) (m : Msg) : oplS (pre ++ [.opn n m]) = oplS pre ++ [(n, m)] := by unfold oplS; rw [opl_opn, List.map_append]; rfl
theorem oplS_mem {pre : List Ev} {m : Msg} {n : Nd} : (n, m) ∈ oplS pre ↔ Ev.opn n m ∈ pre := by
  unfold oplS
  rw [List.mem_map, ← opl_mem]
  exact ⟨fun ⟨⟨a, b⟩, h, e⟩ => by cases e; exact h, fun h => ⟨_, h, rfl⟩⟩
theorem am_mem {es : List Ev} {m : Msg} {rs : List Nd} (h : (m, rs) ∈ am es) : ∃ i, lk (sends es) m = some (i, rs) := by
  unfold am at h
  obtain ⟨m', h1, h2⟩ := List.mem_map.mp h
  obtain ⟨i, qs, h3⟩ := msgs_lk h1
  rw [rcv_eq h3] at h2
  cases h2
  exact ⟨i, h3⟩
theorem sp_early_open {ns : List Nd} {es : List Ev} (h : VR ns es) (hc : CA es) (hl : es.length ≤ 1000) (Q : O → List O → Prop) : WF f_early_open [.sh (.list (es.map eD))] Q ↔ Q (.sh .none) [.sh (.list (es.map eD))] := wf_of (fun Q q => by
  unfold f_early_open b_early_open
  push_cast [sp_send_spots hl, sp_all_messages hl, sp_closure h hl]
  refine ⟨sz 3, ?_⟩
  refine ws_loopE eD (fun pre ρ => ∃ o1 x5 x6 x7 x8 x9 x10, (o1 = .od (nkE (am es)) (dK mD lsD (am es)) ∨ o1 = .sh (.dict (dK mD lsD (am es)))) ∧ ρ = [some (.sh (.list (es.map eD))), some o1, some (.od (nkE (spK es)) (dK mD iD (spK es))), some (.ol ((clos es).map beD)), some (.od (nkE (oplS pre)) (setK nmmD (oplS pre))), x5, x6, x7, x8, x9, x10]) ⟨_, none, none, none, none, none, none, .inl rfl, rfl⟩ ?_ ?_
  · rintro pre e post ρ hx ⟨o1, x5, x6, x7, x8, x9, x10, ho, rfl⟩
    have hlen : pre.length < 1000 := by have := congrArg List.length hx; simp at this; omega
    have hv := h pre e post hx.symm
    cases e with
    | snd n rs =>
      push_cast [oz_e0, oz_eqSS kd_ss kd_so, kdS, kd_ne']
      rw [oplS_snd]
      exact ho.imp (fun h => ⟨h, rfl, rfl⟩) (fun h => ⟨h, rfl, rfl⟩)
    | opn n m =>
      obtain ⟨v1, ⟨s, rs, v2, v3⟩, v4⟩ := hv
      have v5 : lk (sends es) m = some (s, rs) := by rw [← hx]; exact sends_lk v2
      have hs : s < pre.length := (sends_mem pre (lk_mem v2)).2.2
      have hse : s < es.length := by rw [← hx]; simp; omega
      have hbe : be es s = be pre s := by rw [← hx]; exact be_pre _ hs
      have hp : opPut (.od (nkE (oplS pre)) (setK nmmD (oplS pre))) [nmmD (n, m), .bool true] = some (.od (nkE (oplS (pre ++ [.opn n m]))) (setK nmmD (oplS (pre ++ [.opn n m]))), .none) := by
        rw [oplS_opn]
        exact put_set k_nmm (fun z => v4 (oplS_mem.mp z)) (lt_sz (by unfold oplS; rw [List.length_map]; have := opl_len pre; omega))
      have st : ∀ y9 y10 N T, (∀ y9 y10, N [some (.sh (.list (es.map eD))), some (.sh (.dict (dK mD lsD (am es)))), some (.od (nkE (spK es)) (dK mD iD (spK es))), some (.ol ((clos es).map beD)), some (.od (nkE (oplS pre)) (setK nmmD (oplS pre))), some (.sh (.int (pre.length : Int))), some (.sh (eD (.opn n m))), some (.sh (nmD n)), some (.sh (mD m)), y9, y10]) →
          WS (loop (gTupM fun ds ρ => if ds.length = 2 then (gsCons (gSet 9) (gsCons (gSet 10) gsNil)) ds ρ else none) (sIf (tAndM (tBool (e2 oIn (eVar 7) (eVar 10))) (tAndM (tBool (e2 oIn (e2 oIxA (eVar 2) (eVar 9)) (e2 oIxA (eVar 3) (e2 oIxA (eVar 2) (eVar 8))))) (tBool (e2 oNotIn (eTup (aCons (eVar 7) (aCons (eVar 9) aNil))) (eVar 4))))) (sRet (eVar 5)) sNext) ((am es).map fun p => .tuple [mD p.1, lsD p.2]))
            [some (.sh (.list (es.map eD))), some (.sh (.dict (dK mD lsD (am es)))), some (.od (nkE (spK es)) (dK mD iD (spK es))), some (.ol ((clos es).map beD)), some (.od (nkE (oplS pre)) (setK nmmD (oplS pre))), some (.sh (.int (pre.length : Int))), some (.sh (eD (.opn n m))), some (.sh (nmD n)), some (.sh (mD m)), y9, y10] N T := by
        intro y9 y10 N T hN
        refine ws_loop (fun p : Msg × List Nd => .tuple [mD p.1, lsD p.2]) (fun _ ρ => ∃ y9 y10, ρ = [some (.sh (.list (es.map eD))), some (.sh (.dict (dK mD lsD (am es)))), some (.od (nkE (spK es)) (dK mD iD (spK es))), some (.ol ((clos es).map beD)), some (.od (nkE (oplS pre)) (setK nmmD (oplS pre))), some (.sh (.int (pre.length : Int))), some (.sh (eD (.opn n m))), some (.sh (nmD n)), some (.sh (mD m)), y9, y10]) ⟨_, _, rfl⟩ ?_ (by rintro ρ ⟨y9, y10, rfl⟩; exact hN _ _)
        rintro pp ⟨o, qs⟩ qq ρ hx2 ⟨y9, y10, rfl⟩
        obtain ⟨j, hj⟩ := am_mem (es := es) (m := o) (rs := qs) (by rw [← hx2]; simp)
        by_cases c1 : n ∈ qs
        · by_cases c2 : j ∈ be es s
          · have c3 : (n, o) ∈ oplS pre := by
              refine oplS_mem.mpr (hc pre n m post hx.symm o j qs s rs ?_ c1 v2 (by rw [← hbe]; exact c2))
              have := be_lt es c2
              exact sends_lt (post := .opn n m :: post) (by rw [hx]; exact lk_mem hj) (by omega)
            push_cast [oz_inV v_nm, c1, oz_getO k_m, lk_spK, hj, v5, List.getElem?_map, clos_at es s hse, oz_inIs, c2, nmmD_mk, oz_niSd k_nmm, c3]
            exact sz 2
          · push_cast [oz_inV v_nm, c1, oz_getO k_m, lk_spK, hj, v5, List.getElem?_map, clos_at es s hse, oz_inIs, c2]
        · push_cast [oz_inV v_nm, c1]
      rcases ho with rfl | rfl
      · push_cast [oz_e0, oz_e1, oz_e2o, oz_eqSS kd_so kd_so, kdS, Ev.node, items_K]
        refine ⟨sz 2, st _ _ _ _ fun y9 y10 => ?_⟩
        push_cast [nmmD_mk, hp]
        exact sz 2
      · push_cast [oz_e0, oz_e1, oz_e2o, oz_eqSS kd_so kd_so, kdS, Ev.node, items_K]
        refine ⟨sz 2, st _ _ _ _ fun y9 y10 => ?_⟩
        push_cast [nmmD_mk, hp]
        exact sz 2
  · rintro ρ ⟨o1, x5, x6, x7, x8, x9, x10, ho, rfl⟩
    push_cast [q]) Q
theorem oz_isN {P : O → Prop} {b : Bool} {d : D} : OptP (oSc (dIsN b) [.sh d]) P ↔ P (.sh (.bool (if b then !isNone d else isNone d))) := optP_some
theorem sp_need_causal {ns : List Nd} {es : List Ev} (hn : VN ns) (h : VR ns es) (hc : CA es) (hl : es.length ≤ 1000) (Q : O → List O → Prop) : WF f_need_causal [.sh (.list (ns.map nmD)), .sh (.list (es.map eD))] Q ↔ Q (.sh .none) [.sh (.list (ns.map nmD)), .sh (.list (es.map eD))] := wf_of (fun Q q => by
  unfold f_need_causal b_need_causal
  push_cast [sp_need_run hn h hl, sp_early_open h hc hl, oz_isN, isNone, q]) Q
def oms (es : List Ev) (n : Nd) : List Msg := es.filterMap fun e => match e with
  | .snd _ _ => none
  | .opn a m => if a = n then some m else none
theorem oms_mem {es : List Ev} {n : Nd} {m : Msg} : m ∈ oms es n ↔ Ev.opn n m ∈ es := by
  unfold oms
  rw [List.mem_filterMap]
  constructor
  · rintro ⟨e, h1, h2⟩
    cases e with
    | snd => cases h2
    | opn a b =>
      simp only at h2
      split at h2
      · rename_i e; cases h2; subst e; exact h1
      · cases h2
  · intro h; exact ⟨_, h, by simp⟩
def thD : Ev → D
  | .snd _ rs => lsD rs
  | .opn _ m => mD m
theorem oz_eT {P : O → Prop} {e : Ev} : OptP (oIxA [.sh (eD e), .sh (.int 2)]) P ↔ P (.sh (thD e)) := by
  cases e
  · exact oz_e2s
  · exact oz_e2o
theorem oms_eq (n : Nd) : ∀ es : List Ev, (es.filter fun e => !isS e && decide (e.node = n)).map thD = (oms es n).map mD
  | [] => rfl
  | e :: es => by
    have ih := oms_eq n es
    cases e with
    | snd a rs => simpa [isS, oms] using ih
    | opn a m => by_cases h : a = n <;> simpa [isS, oms, Ev.node, h, thD] using ih
theorem am_filter (es : List Ev) (n : Nd) : ((am es).filter fun p => decide (n ∈ p.2)).map (fun p => mD p.1) = ((msgs es).filter (toN es n)).map mD := by
  unfold am
  rw [List.filter_map, List.map_map]
  have : (msgs es).filter ((fun p : Msg × List Nd => decide (n ∈ p.2)) ∘ fun m => (m, rcv es m)) = (msgs es).filter (toN es n) := by
    refine List.filter_congr fun m _ => ?_
    show decide (n ∈ rcv es m) = _
    unfold toN rcv
    split <;> simp_all
  rw [this]; rfl
theorem clo_eq (es : List Ev) (n : Nd) : sortM ((msgs es).filter fun m => !decide (m ∈ oms es n) && toN es n m) = clo es n := by
  unfold clo
  unfold msgs
  rw [sortM_filter]
  refine List.filter_congr fun m _ => ?_
  rw [Bool.and_comm, decide_eq_decide.mpr oms_mem]
theorem sp_closed_of {es : List Ev} {n : Nd} (hl : es.length ≤ 1000) (Q : O → List O → Prop) : WF f_closed_of [.sh (.list (es.map eD)), .sh (nmD n)] Q ↔ Q (.ol ((clo es n).map mD)) [.sh (.list (es.map eD)), .sh (nmD n)] := wf_of (fun Q q => by
  unfold f_closed_of b_closed_of
  push_cast []
  have l1 := msgs_len es
  refine lc_wpp eD (fun e => !isS e && decide (e.node = n)) thD es (sz _) (fun e he => ?_) ?_
  · cases e with
    | snd a rs => push_cast [oz_e0, kdS, oz_eqSS kd_ss kd_so, kd_ne', isS]
    | opn a m => by_cases c : a = n <;> push_cast [oz_e0, oz_e1, Ev.node, kdS, oz_eqSS kd_so kd_so, isS, oz_eqV v_nm, c, oz_eT]
  · rw [oms_eq]
    push_cast [sp_all_messages hl, items_K]
    refine lc_wpp (fun p : Msg × List Nd => .tuple [mD p.1, lsD p.2]) (fun p => decide (n ∈ p.2)) (fun p => mD p.1) (am es) (sz _ (by unfold am; rw [List.length_map]; omega)) (fun p hp => ?_) ?_
    · by_cases c : n ∈ p.2 <;> push_cast [oz_inV v_nm, c]
    · rw [am_filter]
      have l2 := List.length_filter_le (toN es n) (msgs es)
      push_cast []
      refine lc_wpp mD (fun m => !decide (m ∈ oms es n)) mD _ (sz _ (by omega)) (fun m hm => ?_) ?_
      · by_cases c : m ∈ oms es n <;> push_cast [oz_niO v_m, c]
      · have l3 := List.length_filter_le (fun m => !decide (m ∈ oms es n)) ((msgs es).filter (toN es n))
        rw [List.filter_filter] at l3 ⊢
        push_cast []
        rw [oz_sortM (by omega), clo_eq]
        push_cast [q]) Q
theorem sp_closed_messages {ns : List Nd} {es : List Ev} {n : Nd} (hn : VN ns) (h : VR ns es) (hc : CA es) (hl : es.length ≤ 1000) (hm : n ∈ ns) (Q : O → List O → Prop) : WF f_closed_messages [.sh (.list (ns.map nmD)), .sh (.list (es.map eD)), .sh (nmD n)] Q ↔ Q (.ol ((clo es n).map mD)) [.sh (.list (ns.map nmD)), .sh (.list (es.map eD)), .sh (nmD n)] := wf_of (fun Q q => by
  unfold f_closed_messages b_closed_messages
  push_cast [sp_need_causal hn h hc hl, sp_need_node hm, sp_closed_of hl, q]) Q
abbrev msD (ms : List Msg) : D := .list (ms.map mD)
theorem idx_eq {es : List Ev} {m : Msg} {i : Nat} {rs : List Nd} (h : lk (sends es) m = some (i, rs)) : idx es m = i := by unfold idx; rw [h]
theorem sp_sent_before {ns : List Nd} {es : List Ev} {ms : List Msg} (h : VR ns es) (hl : es.length ≤ 1000) (hd : ms.Nodup) (hm : ∀ m ∈ ms, ∃ i rs, lk (sends es) m = some (i, rs)) (hml : ms.length ≤ 1000) (Q : O → List O → Prop) : WF f_sent_before [.sh (.list (es.map eD)), .sh (.list (ms.map mD))] Q ↔ Q (.od (nkE ms) (dK mD msD (ms.map fun m => (m, sb es ms m)))) [.sh (.list (es.map eD)), .sh (.list (ms.map mD))] := wf_of (fun Q q => by
  unfold f_sent_before b_sent_before
  push_cast [sp_send_spots hl, sp_closure h hl]
  refine ⟨sz 2, ?_⟩
  refine dc_wp mD mD (fun m => msD (sb es ms m)) true ms false [] (sz _ (by simp; omega)) rfl (fun _ h => nomatch h) (fun _ _ _ h => nomatch h) (hd.imp fun {a b} z => by rw [k_m.keq, decide_eq_false z]) (fun m hm1 => ?_) ?_
  · obtain ⟨s, rs, e1⟩ := hm m hm1
    have hs : s < es.length := (sends_mem es (lk_mem e1)).2.2
    push_cast [k_m.ok, k_m.t]
    refine lc_wpp mD (fun o => decide (idx es o ∈ be es (idx es m))) mD ms (sz _) (fun o ho => ?_) ?_
    · obtain ⟨j, qs, e2⟩ := hm o ho
      by_cases c : j ∈ be es s <;> push_cast [oz_getO k_m, lk_spK, e1, e2, List.getElem?_map, clos_at es s hs, oz_inIs, c, idx_eq e1, idx_eq e2]
    · push_cast [sb]
  · have e : ms.map (fun x => (mD x, msD (sb es ms x))) = dK mD msD (ms.map fun m => (m, sb es ms m)) := by unfold dK; rw [List.map_map]; rfl
    have e2 : (true && !(dK mD msD (ms.map fun m => (m, sb es ms m))).isEmpty) = nkE ms := by cases ms <;> rfl
    rw [List.nil_append, e, e2]
    push_cast [q]) Q
def nxts (es : List Ev) (ns : List Nd) : List (Nd × Msg) := ns.flatMap fun n => (nxt es n).map fun m => (n, m)
theorem clo_len (es : List Ev) (n : Nd) : (clo es n).length ≤ es.length := Nat.le_trans (List.length_filter_le _ _) (msgs_len es)
theorem nxts_len (es : List Ev) : ∀ ns : List Nd, (nxts es ns).length ≤ ns.length * es.length
  | [] => by simp [nxts]
  | n :: ns => by
    have := nxts_len es ns
    have h2 : (nxt es n).length ≤ es.length := Nat.le_trans (List.length_filter_le _ _) (clo_len es n)
    show ((nxt es n).map (fun m => (n, m)) ++ nxts es ns).length ≤ _
    rw [List.length_append, List.length_map, List.length_cons, Nat.succ_mul]; omega
theorem nil_dec {α : Type} (e : α → D) (xs : List α) [Decidable (xs = [])] : decide (xs.map e = []) = decide (xs = []) := decide_eq_decide.mpr (by simp)
theorem oz_eqNilV {α : Type} [DecidableEq α] {e : α → D} {P : O → Prop} (h : VE' α e) {xs : List α} : OptP (oSc dEq [.sh (.list (xs.map e)), .ol []]) P ↔ P (.sh (.bool (decide (xs = [])))) := by rw [oz_eqNil (h.shL xs), nil_dec]
theorem sp_next_opens {ns : List Nd} {es : List Ev} (hn : VN ns) (h : VR ns es) (hc : CA es) (hl : es.length ≤ 1000) (Q : O → List O → Prop) : WF f_next_opens [.sh (.list (ns.map nmD)), .sh (.list (es.map eD))] Q ↔ Q (.ol ((nxts es ns).map nmmD)) [.sh (.list (ns.map nmD)), .sh (.list (es.map eD))] := wf_of (fun Q q => by
  unfold f_next_opens b_next_opens
  push_cast [sp_need_causal hn h hc hl]
  refine ws_loop nmD (fun pre ρ => ∃ x y, ρ = [some (.sh (.list (ns.map nmD))), some (.sh (.list (es.map eD))), some (.ol ((nxts es pre).map nmmD)), x, y, none]) ⟨none, none, rfl⟩ ?_ ?_
  · rintro pre n post ρ hx ⟨x, y, rfl⟩
    have hlen : pre.length < 12 := by have := congrArg List.length hx; have := hn.le; simp at *; omega
    have hm : ∀ m ∈ clo es n, ∃ i rs, lk (sends es) m = some (i, rs) := fun m hm => by
      obtain ⟨⟨i, rs, h1, _⟩, _⟩ := clo_mem.mp hm; exact ⟨i, rs, h1⟩
    have hcl := clo_len es n
    push_cast [sp_closed_of hl, sp_sent_before h hl (clo_nodup es n) hm (by omega), sortO_K (kvs := (clo es n).map fun m => (m, sb es (clo es n) m)) (by rw [List.length_map]; omega)]
    rw [show (List.map (Prod.fst ∘ fun m => (m, sb es (clo es n) m)) (clo es n)) = clo es n from List.map_id _, sortM_id (clo_pw es n)]
    refine lc_wpp mD (fun m => decide (sb es (clo es n) m = [])) (fun m => nmmD (n, m)) (clo es n) (sz _) (fun m hm1 => ?_) ?_
    · by_cases c : sb es (clo es n) m = [] <;> push_cast [oz_getO k_m, lk_fun (fun m => sb es (clo es n) m) hm1, oz_eqNilV v_m, c, nmmD_mk]
      exact sz 2
    · have l1 := nxts_len es pre
      have l2 := List.length_filter_le (fun m => decide (sb es (clo es n) m = [])) (clo es n)
      have l3 : pre.length * es.length ≤ 12 * 1000 := Nat.mul_le_mul (by omega) hl
      have e : (nxts es (pre ++ [n])).map nmmD = (nxts es pre).map nmmD ++ ((clo es n).filter fun m => decide (sb es (clo es n) m = [])).map fun m => nmmD (n, m) := by
        unfold nxts nxt; rw [List.flatMap_append, List.map_append]; simp
      rw [e]
      push_cast []
      exact sz _ (by omega)
  · rintro ρ ⟨x, y, rfl⟩
    push_cast [q]) Q
end Lw

/- text Pg -/
set_option Elab.async false
set_option maxRecDepth 100000
set_option maxHeartbeats 400000
namespace Lw
open PySem PySem.Spec L2 Wl Mo
open PyProof.Rows hiding St
local macro_rules
  | `(tactic| push_cast [$ls,*]) => `(tactic| simp (dsimp := false) [↓we_bind, ↓we_pure, ↓we_var, ↓we_c, ↓we_nil, ↓we_cons, ↓we_op, ↓we_e1, ↓we_e2, ↓we_tTrue, ↓we_sh0, ↓we_sh1, ↓we_tB, ↓we_and, ↓we_or, ↓we_not, ↓we_if, ↓we_eand, ↓we_eor, ↓we_enot, ↓we_toSh, ↓we_call, ↓we_lst, ↓we_tup, ↓we_lc, ↓we_dc, ↓we_de, ↓we_disp, ↓we_newD, ↓we_ext, ↓we_bor, ↓we_tbor, ↓we_q, ↓we_srcR, ↓we_srcAny, ↓we_srcE, ↓we_srcIt, ↓we_srcZ, ↓we_sl, ↓we_pSome, ↓we_pNone, ↓ws_for, ↓ws_next, ↓ws_seq, ↓ws_if, ↓ws_set, ↓ws_ret, ↓ws_retN, ↓ws_drop, ↓ws_put, ↓ws_asg, ↓ws_pars, ↓ws_augD, ↓ws_pm, ↓ws_pp, ↓ws_pu, ↓we_mutAt, ↓we_meth, ↓wf_fn, optP_some, shAll, still, der, ders, asD, putR, gSet, gTupM, gsCons, gsNil, pars, obOf, asSh, addI, qC, qV, qIx, pBase, pStep, oz_add, oz_sub, oz_abs, oz_max2, oz_min2, oz_mul, oz_mod, oz_div, oz_pow, ordI, cLtI, cGtI, cLeI, cGeI, oz_eqI, oz_neI, oz_ixL, oz_ixSL, oz_ixT, oz_lenL, oz_lenO, oz_lenT, atZ_nat, atZ_0, atZ_1, atZ_2, slotIs, ofTy, isOwn, ixN, okArgs, outsOf, List.range_succ, shArgs, osOf, putOuts, ndModes, toSh, wipeE, unwipe, tTrue, anyOf, oSlL, asL, tyO, iD, isK_str, isK_nm, isK_int, $ls,*])
def names0 : List Nd := [0, 2, 3, 4, 5, 6, 21, 20, 12, 25, 1, 22, 23, 24]
theorem erase_map {α β : Type} (g : α → β) : ∀ (l : List α) (k : Nat), (l.map g).eraseIdx k = (l.eraseIdx k).map g
  | [], k => by simp
  | a :: l, 0 => rfl
  | a :: l, k + 1 => by simp [erase_map g l k]
theorem erase_perm {α : Type} : ∀ (l : List α) (k : Nat) (h : k < l.length), (l[k] :: l.eraseIdx k).Perm l
  | a :: l, 0, h => List.Perm.refl _
  | a :: l, k + 1, h => by
    have hk : k < l.length := by simpa using h
    have := erase_perm l k hk
    show (l[k] :: a :: l.eraseIdx k).Perm (a :: l)
    exact (List.Perm.swap _ _ _).trans (this.cons a)
def sortN (l : List Nd) : List Nd := l.mergeSort fun i j => decide (i ≤ j)
theorem sort_nm (l : List Nd) : sortD (l.map nmD) = (sortN l).map nmD := (List.map_mergeSort fun a ha b hb => (le_nm a b).symm).symm
theorem sortN_lt (l : List Nd) (h : l.Nodup) : (sortN l).Pairwise (· < ·) := by
  have h1 := List.pairwise_mergeSort (le := fun i j : Nd => decide (i ≤ j)) (fun a b c x y => by simp at *; exact Fin.le_trans x y) (fun a b => by simp; exact Fin.le_total a b) l
  have h2 : (sortN l).Nodup := (List.mergeSort_perm l _).nodup_iff.mpr h
  exact (h1.and h2).imp fun {a b} ⟨x, y⟩ => by simp at x; exact Nat.lt_of_le_of_ne x fun e => y (Fin.ext e)
theorem oz_sortN {P : O → Prop} {ms : List Nd} (h : ms.length ≤ 100000) : OptP (oSorted [.ol (ms.map nmD)]) P ↔ P (.ol ((sortN ms).map nmD)) := by
  have e : oSorted [.ol (ms.map nmD)] = some (.ol ((sortN ms).map nmD)) := by
    show (if sortOk (ms.map nmD) = true then some (O.ol (sortD (ms.map nmD))) else none) = _
    rw [if_pos (sortOk_nm ms (sz _)), sort_nm]
  rw [e, optP_some]
theorem rng_k (k : Nat) (h : k < 1000000) : rngOf (.int (k : Int)) = some ((List.range k).map iD) := by
  unfold rngOf; simp; omega
theorem pop_atI {α : Type} {e : α → D} {xs : List α} {q : Int} (h0 : 0 ≤ q) (h : q.toNat < xs.length) (h2 : xs.length < 1000000) : opPopAt (.ol (xs.map e)) [.int q] = some (.ol ((xs.eraseIdx q.toNat).map e), e xs[q.toNat]) := by
  have es : seqIndex? q (xs.map e).length = some q.toNat := by
    unfold seqIndex?
    rw [List.length_map]
    simp [show ¬ q < 0 by omega, h0, show q < (xs.length : Int) by omega]
  show (if -(2 ^ 63) ≤ q ∧ q < 2 ^ 63 then match seqIndex? q (xs.map e).length with | some k => (match (xs.map e)[k]? with | some d => some (O.ol ((xs.map e).eraseIdx k), d) | none => none) | none => none else none) = _
  rw [if_pos (by omega), es]
  simp [List.getElem?_eq_getElem h, erase_map]
theorem pop_at {α : Type} {e : α → D} {xs : List α} {r : Nat} (h : r < xs.length) (h2 : xs.length < 1000000) : opPopAt (.ol (xs.map e)) [.int (r : Int)] = some (.ol ((xs.eraseIdx r).map e), e xs[r]) := pop_atI (q := (r : Int)) (by omega) h h2
theorem folk_ok {n : Int} {most : Nat} {l : List D} (hj : Jar n l) (hn : n < 10 ^ 10) (hm : 3 ≤ most) (hm2 : most ≤ 12) {Q : O → List O → Prop} (q : ∀ (ns : List Nd) (l' : List D), VN ns → ns.length ≤ most → Jar (n + 20) l' → Q (.ol (ns.map nmD)) [.ol l', .sh (.int (most : Int))]) : WF f__law_folk [.ol l, .sh (.int (most : Int))] Q := by
  unfold f__law_folk b__law_folk
  push_cast []
  refine ⟨sz 14, ?_⟩
  refine pick_ok hj (by omega) (m := (most : Int) - 1) (by omega) (by omega) fun r l' h1 hj' => ?_
  have e : (2 + (r : Int)) = ((2 + r : Nat) : Int) := by omega
  push_cast []
  rw [e, rng_k _ (by omega), optP_some]
  have hkb : 2 + r ≤ most := by omega
  have hk2 : 2 ≤ 2 + r := by omega
  generalize 2 + r = k at hkb hk2 ⊢
  push_cast []
  refine lc_wp iD (fun pre acc ρ => ∃ (f rem : List Nd) (js : List D), ρ = [some (.ol js), some (.sh (.int (most : Int))), some (.ol (rem.map nmD)), none, none] ∧ acc = f.map nmD ∧ Jar (n + 1 + pre.length) js ∧ (f ++ rem).Perm names0 ∧ f.length = pre.length) ⟨[], names0, l', rfl, rfl, by simpa using hj', List.Perm.refl _, rfl⟩ ?_ ?_
  · rintro pre x post acc ρ hx ⟨f, rem, js, rfl, rfl, hj2, hp, hf⟩
    have hl : pre.length < k := by have := congrArg List.length hx; simp at this; omega
    have hlen : f.length + rem.length = 14 := by have := hp.length_eq; rw [List.length_append] at this; exact this
    push_cast []
    refine pick_ok hj2 (by omega) (m := rem.length) (by omega) (by omega) fun r l2 q1 hj3 => ?_
    have hq : r < rem.length := by omega
    push_cast [pop_at hq (by omega)]
    refine ⟨lt_sz (by omega), f ++ [rem[r]], rem.eraseIdx r, l2, ⟨rfl, rfl⟩, by simp, ?_, ?_, by simp [hf]⟩
    · have : n + 1 + ((pre.length : Int) + 1) = n + 1 + pre.length + 1 := by omega
      rw [this]; exact hj3
    · refine List.Perm.trans ?_ hp
      rw [List.append_assoc, List.singleton_append]
      exact List.Perm.append_left f (erase_perm rem r hq)
  · rintro acc ρ' ⟨f, rem, js, rfl, rfl, hj2, hp, hf⟩
    rw [List.length_range] at hj2 hf
    have hnd : names0.Nodup := by decide
    have hf1 : f.Nodup := (List.nodup_append.mp (hp.nodup_iff.mpr hnd)).1
    have pm : (sortN f).length = f.length := (List.mergeSort_perm f _).length_eq
    push_cast [oz_sortN (ms := f) (by omega)]
    exact q _ _ ⟨sortN_lt f hf1, by omega, by omega⟩ (by omega) (hj2.le (by omega))
theorem some_ok {n : Int} {ns : List Nd} {a : Nd} {l : List D} (hj : Jar n l) (hn : n < 10 ^ 10) (hv : VN ns) (ha : a ∈ ns) {Q : O → List O → Prop} (q : ∀ (rs : List Nd) (l' : List D), RV ns a rs → Jar (n + 20) l' → Q (.ol (rs.map nmD)) [.ol l', .sh (.list (ns.map nmD)), .sh (nmD a)]) : WF f__law_some [.ol l, .sh (.list (ns.map nmD)), .sh (nmD a)] Q := by
  unfold f__law_some b__law_some
  have h12 := hv.le
  have h2 := hv.ge
  push_cast []
  refine lc_wpp nmD (fun x => !decide (x = a)) nmD ns (sz _) (fun x hx => ?_) ?_
  · by_cases c : x = a <;> push_cast [oz_neV v_nm, c]
  have hol := List.length_filter_le (fun x => !decide (x = a)) ns
  have hop : (ns.filter fun x => !decide (x = a)).Pairwise (· < ·) := hv.pw.sublist List.filter_sublist
  have hom : ∀ x ∈ ns.filter fun x => !decide (x = a), x ∈ ns ∧ x ≠ a := fun x hx => by simpa using hx
  have hone : 1 ≤ (ns.filter fun x => !decide (x = a)).length := by
    have e : ns.filter (fun x => !decide (x = a)) ≠ [] := by
      intro e
      rw [List.filter_eq_nil_iff] at e
      have hall : ∀ x ∈ ns, x = a := fun x hx => by have := e x hx; simpa using this
      have hpw := hv.pw
      match ns, h2, hpw, hall with
      | x :: y :: _, _, hpw, hall =>
        have e1 := hall x List.mem_cons_self
        have e2 := hall y (List.mem_cons_of_mem _ List.mem_cons_self)
        have := (List.pairwise_cons.mp hpw).1 y List.mem_cons_self
        rw [e1, e2] at this
        exact Fin.lt_irrefl _ this
    exact List.length_pos_iff.mpr e
  generalize ns.filter (fun x => !decide (x = a)) = os at hol hop hom hone ⊢
  push_cast []
  refine pick_ok hj (by omega) (m := 4) (by omega) (by omega) fun r l' h1 hj' => ?_
  by_cases c0 : r = 0
  · subst c0
    push_cast []
    exact q os l' ⟨List.length_pos_iff.mp hone, hop, hom⟩ (hj'.le (by omega))
  by_cases c1 : r = 1
  · subst c1
    push_cast []
    refine lc_wp nmD (fun pre acc ρ => ∃ (f : List Nd) (js : List D), ρ = [some (.ol js), some (.sh (.list (ns.map nmD))), some (.sh (nmD a)), some (.sh (.list (os.map nmD))), some (.sh (.int 1)), none, none] ∧ acc = f.map nmD ∧ Jar (n + 1 + pre.length) js ∧ f.Sublist pre) ⟨[], l', rfl, rfl, by simpa using hj', List.Sublist.refl _⟩ ?_ ?_
    · rintro pre x post acc ρ hx ⟨f, js, rfl, rfl, hj2, hs⟩
      have hl : pre.length < 12 := by have := congrArg List.length hx; simp at this; omega
      have hfl := hs.length_le
      push_cast []
      refine pick_ok hj2 (by omega) (m := 2) (by omega) (by omega) fun r l2 q1 hj3 => ?_
      have e3 : n + 1 + ((pre.length : Int) + 1) = n + 1 + pre.length + 1 := by omega
      by_cases c : r = 0
      · subst c
        push_cast []
        exact ⟨lt_sz (by omega), f ++ [x], by simp, by rw [e3]; exact hj3, hs.append (List.Sublist.refl _)⟩
      · have c' : ¬ (r : Int) = 0 := by omega
        push_cast [c, c']
        exact ⟨f, rfl, by rw [e3]; exact hj3, hs.trans (List.sublist_append_left _ _)⟩
    · rintro acc ρ' ⟨f, js, rfl, rfl, hj2, hs⟩
      have hfs : SeqAt.shaped (.list (f.map nmD)) = true := v_nm.shL f
      have hj3 : Jar (n + 19) js := hj2.le (by omega)
      by_cases c : f = []
      · subst c
        have e0 : ∀ P : O → Prop, OptP (oSc dNe [.ol [], .ol []]) P ↔ P (.sh (.bool false)) := fun P => optP_some
        push_cast [e0]
        refine pick_ok hj3 (by omega) (m := os.length) (by omega) (by omega) fun r l2 q1 hj4 => ?_
        have hr : r < os.length := by omega
        push_cast [List.getElem?_map, List.getElem?_eq_getElem hr]
        exact ⟨sz 1, q [os[r]] l2 ⟨by simp, by simp, fun x hx => by rw [List.mem_singleton.mp hx]; exact hom _ (List.getElem_mem hr)⟩ (hj4.le (by omega))⟩
      · have e0 : ∀ P : O → Prop, OptP (oSc dNe [.ol (f.map nmD), .ol []]) P ↔ P (.sh (.bool true)) := fun P => by
          have e : oSc dNe [.ol (f.map nmD), .ol []] = some (.sh (.bool true)) := by
            show (match (if (SeqAt.shaped (.list (f.map nmD)) && SeqAt.shaped (.list [])) = true then some (PyData.bool (!PyData.eqv (.list (f.map nmD)) (.list []))) else none) with | some d => some (O.sh d) | none => none) = _
            rw [hfs, show SeqAt.shaped (.list []) = true by decide +kernel, PyData.eqv]
            cases f with
            | nil => exact absurd rfl c
            | cons x f => simp [PyData.eqvAll]
          rw [e, optP_some]
        push_cast [e0]
        exact q f js ⟨c, hop.sublist hs, fun x hx => hom x (hs.subset hx)⟩ (hj3.le (by omega))
  · have c0' : ¬ (r : Int) = 0 := by omega
    have c1' : ¬ (r : Int) = 1 := by omega
    push_cast [c0, c1, c0', c1']
    refine pick_ok hj' (by omega) (m := os.length) (by omega) (by omega) fun r l2 q1 hj4 => ?_
    have hr : r < os.length := by omega
    push_cast [List.getElem?_map, List.getElem?_eq_getElem hr]
    exact ⟨sz 1, q [os[r]] l2 ⟨by simp, by simp, fun x hx => by rw [List.mem_singleton.mp hx]; exact hom _ (List.getElem_mem hr)⟩ (hj4.le (by omega))⟩
end Lw

/- text Ph -/
set_option Elab.async false
set_option maxRecDepth 100000
set_option maxHeartbeats 400000
namespace Lw
open PySem PySem.Spec L2 Wl Mo
open PyProof.Rows hiding St
local macro_rules
  | `(tactic| push_cast [$ls,*]) => `(tactic| simp (dsimp := false) [↓we_bind, ↓we_pure, ↓we_var, ↓we_c, ↓we_nil, ↓we_cons, ↓we_op, ↓we_e1, ↓we_e2, ↓we_tTrue, ↓we_sh0, ↓we_sh1, ↓we_tB, ↓we_and, ↓we_or, ↓we_not, ↓we_if, ↓we_eand, ↓we_eor, ↓we_enot, ↓we_toSh, ↓we_call, ↓we_lst, ↓we_tup, ↓we_lc, ↓we_dc, ↓we_de, ↓we_disp, ↓we_newD, ↓we_ext, ↓we_bor, ↓we_tbor, ↓we_q, ↓we_srcR, ↓we_srcAny, ↓we_srcE, ↓we_srcIt, ↓we_srcZ, ↓we_sl, ↓we_pSome, ↓we_pNone, ↓ws_for, ↓ws_next, ↓ws_seq, ↓ws_if, ↓ws_set, ↓ws_ret, ↓ws_retN, ↓ws_drop, ↓ws_put, ↓ws_asg, ↓ws_pars, ↓ws_augD, ↓ws_pm, ↓ws_pp, ↓ws_pu, ↓we_mutAt, ↓we_meth, ↓wf_fn, optP_some, shAll, still, der, ders, asD, putR, gSet, gTupM, gsCons, gsNil, pars, obOf, asSh, addI, qC, qV, qIx, pBase, pStep, oz_add, oz_sub, oz_abs, oz_max2, oz_min2, oz_mul, oz_mod, oz_div, oz_pow, ordI, cLtI, cGtI, cLeI, cGeI, oz_eqI, oz_neI, oz_ixL, oz_ixSL, oz_ixT, oz_lenL, oz_lenO, oz_lenT, atZ_nat, atZ_0, atZ_1, atZ_2, slotIs, ofTy, isOwn, ixN, okArgs, outsOf, List.range_succ, shArgs, osOf, putOuts, ndModes, toSh, wipeE, unwipe, tTrue, anyOf, oSlL, asL, tyO, iD, isK_str, isK_nm, isK_int, $ls,*])
/-! ### the law's history as data -/
def paK (ns : List Nd) (past : Nd → List Nat) : List (D × D) := dK nmD beD (ns.map fun n => (n, past n))
def snD (x : List Nd × Nat × List Nat) : D := .tuple [.list (x.1.map nmD), .int (x.2.1 : Int), .dict (idxK x.2.2)]
def stD (ns : List Nd) (S : LS) : D := .dict [(.str "events", .list (S.es.map eD)), (.str "past", .dict (paK ns S.past)), (.str "sends", .dict (dK mD snD S.sn)), (.str "opens", .dict (dK mnD iD S.op)), (.str "nodes", .list (ns.map nmD))]
section
variable {P : O → Prop} {ns : List Nd} {S : LS}
theorem oz_stE : OptP (oIxA [.sh (stD ns S), .sh (.str "events")]) P ↔ P (.sh (.list (S.es.map eD))) := optP_some
theorem oz_stP : OptP (oIxA [.sh (stD ns S), .sh (.str "past")]) P ↔ P (.sh (.dict (paK ns S.past))) := optP_some
theorem oz_stS : OptP (oIxA [.sh (stD ns S), .sh (.str "sends")]) P ↔ P (.sh (.dict (dK mD snD S.sn))) := optP_some
theorem oz_stO : OptP (oIxA [.sh (stD ns S), .sh (.str "opens")]) P ↔ P (.sh (.dict (dK mnD iD S.op))) := optP_some
theorem oz_stN : OptP (oIxA [.sh (stD ns S), .sh (.str "nodes")]) P ↔ P (.sh (.list (ns.map nmD))) := optP_some
theorem oz_pa {n : Nd} (h : n ∈ ns) {f : Nd → List Nat} : OptP (oIxA [.sh (.dict (paK ns f)), .sh (nmD n)]) P ↔ P (.sh (.dict (idxK (f n)))) := by
  unfold paK; rw [oz_getS k_nm, lk_fun f h, optP_some]
theorem oz_sn0 {x : List Nd × Nat × List Nat} : OptP (oIxA [.sh (snD x), .sh (.int 0)]) P ↔ P (.sh (.list (x.1.map nmD))) := by unfold snD; rw [oz_ixT, atZ_0]; exact optP_some
theorem oz_sn2 {x : List Nd × Nat × List Nat} : OptP (oIxA [.sh (snD x), .sh (.int 2)]) P ↔ P (.sh (.dict (idxK x.2.2))) := by unfold snD; rw [oz_ixT, atZ_2]; exact optP_some
theorem tg_E : tget (shp 0) (stD ns S) [.str "events"] = some (.ol (S.es.map eD)) := rfl
theorem nk_m {ν : Type} {ev : ν → D} (kvs : List (Msg × ν)) : nkOf (dK mD ev kvs) = nkE kvs := by cases kvs <;> rfl
theorem nk_mn {ν : Type} {ev : ν → D} (kvs : List ((Msg × Nd) × ν)) : nkOf (dK mnD ev kvs) = nkE kvs := by cases kvs <;> rfl
theorem tg_S : tget (shp 0) (stD ns S) [.str "sends"] = some (.od (nkE S.sn) (dK mD snD S.sn)) := by rw [← nk_m]; rfl
theorem tg_O : tget (shp 0) (stD ns S) [.str "opens"] = some (.od (nkE S.op) (dK mnD iD S.op)) := by rw [← nk_mn]; rfl
theorem tget_r {c : Key → Shp} {kvs : List (D × D)} {k d : D} {key : Key} {ks : List D} (h1 : dKey k = some key) (h2 : dget kvs k = some d) : tget (.r c) (.dict kvs) (k :: ks) = tget (c key) d ks := by
  rw [tget]; simp only [h1, h2]
theorem tput_r {c : Key → Shp} {kvs : List (D × D)} {k d d' : D} {key : Key} {ks : List D} {lf : O} (h1 : dKey k = some key) (h2 : dget kvs k = some d) (h3 : tput (c key) d ks lf = some d') : tput (.r c) (.dict kvs) (k :: ks) lf = some (.dict (dput kvs k d')) := by
  rw [tput]; simp only [h1, h2, h3]
abbrev stK (ns : List Nd) (S : LS) : List (D × D) := [(.str "events", .list (S.es.map eD)), (.str "past", .dict (paK ns S.past)), (.str "sends", .dict (dK mD snD S.sn)), (.str "opens", .dict (dK mnD iD S.op)), (.str "nodes", .list (ns.map nmD))]
theorem tg_P {n : Nd} (h : n ∈ ns) : tget (shp 0) (stD ns S) [.str "past", nmD n] = some (.od false (idxK (S.past n))) := by
  have e2 : dget (paK ns S.past) (nmD n) = some (beD (S.past n)) := by rw [paK, dget_K k_nm, lk_fun S.past h]; rfl
  refine (tget_r (kvs := stK ns S) (k := .str "past") (key := .inr "past") (d := .dict (paK ns S.past)) rfl rfl).trans ?_
  refine (tget_r (c := fun _ => .d) (kvs := paK ns S.past) (k := nmD n) (key := .inr (nmS n)) rfl e2).trans ?_
  show some (O.od (nkOf (idxK (S.past n))) (idxK (S.past n))) = _
  rw [idx_nk]
theorem tp_E {es : List Ev} : tput (shp 0) (stD ns S) [.str "events"] (.ol (es.map eD)) = some (stD ns { S with es := es }) := rfl
theorem tp_d {kvs kvs' : List (D × D)} {nk : Bool} (h : nk = nkOf kvs') : tput .d (.dict kvs) [] (.od nk kvs') = some (.dict kvs') := by
  subst h; exact if_pos rfl
theorem tp_S {sn : List (Msg × List Nd × Nat × List Nat)} : tput (shp 0) (stD ns S) [.str "sends"] (.od (nkE sn) (dK mD snD sn)) = some (stD ns { S with sn := sn }) :=
  (tput_r (kvs := stK ns S) (k := .str "sends") (key := .inr "sends") (d := .dict (dK mD snD S.sn)) (d' := .dict (dK mD snD sn)) rfl rfl (tp_d (nk_m sn).symm)).trans rfl
theorem tp_O {op : List ((Msg × Nd) × Nat)} : tput (shp 0) (stD ns S) [.str "opens"] (.od (nkE op) (dK mnD iD op)) = some (stD ns { S with op := op }) :=
  (tput_r (kvs := stK ns S) (k := .str "opens") (key := .inr "opens") (d := .dict (dK mnD iD S.op)) (d' := .dict (dK mnD iD op)) rfl rfl (tp_d (nk_mn op).symm)).trans rfl
theorem tp_P {n : Nd} (h : n ∈ ns) {ks : List Nat} : tput (shp 0) (stD ns S) [.str "past", nmD n] (.od false (idxK ks)) = some (stD ns { S with past := Mo.upd S.past n ks }) := by
  have e2 : dget (paK ns S.past) (nmD n) = some (beD (S.past n)) := by rw [paK, dget_K k_nm, lk_fun S.past h]; rfl
  have e4 : dput (paK ns S.past) (nmD n) (beD ks) = paK ns (Mo.upd S.past n ks) := by
    unfold paK
    rw [dput_K k_nm, put_map _ h]; rfl
  refine (tput_r (kvs := stK ns S) (k := .str "past") (key := .inr "past") (d := .dict (paK ns S.past)) (d' := .dict (paK ns (Mo.upd S.past n ks))) rfl rfl ?_).trans rfl
  rw [← e4]
  exact tput_r (c := fun _ => .d) (kvs := paK ns S.past) (k := nmD n) (key := .inr (nmS n)) rfl e2 (tp_d (idx_nk ks).symm)
theorem mt_of {op : O → List D → Option (O × D)} {d d' : D} {ks ds : List D} {lf lf' : O} {r : D} (h1 : tget (shp 0) d ks = some lf) (h2 : op lf ds = some (lf', r)) (h3 : tput (shp 0) d ks lf' = some d') : mutT shp op 0 d ks ds = some (d', r) := by
  unfold mutT; simp only [h1, h2, h3]
end
end Lw

/- text Pi -/
set_option Elab.async false
set_option maxRecDepth 100000
set_option maxHeartbeats 400000
namespace Lw
open PySem PySem.Spec L2 Wl Mo
open PyProof.Rows hiding St
local macro_rules
  | `(tactic| push_cast [$ls,*]) => `(tactic| simp (dsimp := false) [↓we_bind, ↓we_pure, ↓we_var, ↓we_c, ↓we_nil, ↓we_cons, ↓we_op, ↓we_e1, ↓we_e2, ↓we_tTrue, ↓we_sh0, ↓we_sh1, ↓we_tB, ↓we_and, ↓we_or, ↓we_not, ↓we_if, ↓we_eand, ↓we_eor, ↓we_enot, ↓we_toSh, ↓we_call, ↓we_lst, ↓we_tup, ↓we_lc, ↓we_dc, ↓we_de, ↓we_disp, ↓we_newD, ↓we_ext, ↓we_bor, ↓we_tbor, ↓we_q, ↓we_srcR, ↓we_srcAny, ↓we_srcE, ↓we_srcIt, ↓we_srcZ, ↓we_sl, ↓we_pSome, ↓we_pNone, ↓ws_for, ↓ws_next, ↓ws_seq, ↓ws_if, ↓ws_set, ↓ws_ret, ↓ws_retN, ↓ws_drop, ↓ws_put, ↓ws_asg, ↓ws_pars, ↓ws_augD, ↓ws_pm, ↓ws_pp, ↓ws_pu, ↓we_mutAt, ↓we_meth, ↓wf_fn, optP_some, shAll, still, der, ders, asD, putR, gSet, gTupM, gsCons, gsNil, pars, obOf, asSh, addI, qC, qV, qIx, pBase, pStep, oz_add, oz_sub, oz_abs, oz_max2, oz_min2, oz_mul, oz_mod, oz_div, oz_pow, ordI, cLtI, cGtI, cLeI, cGeI, oz_eqI, oz_neI, oz_ixL, oz_ixSL, oz_ixT, oz_lenL, oz_lenO, oz_lenT, atZ_nat, atZ_0, atZ_1, atZ_2, slotIs, ofTy, isOwn, ixN, okArgs, outsOf, List.range_succ, shArgs, osOf, putOuts, ndModes, toSh, wipeE, unwipe, tTrue, anyOf, oSlL, asL, tyO, iD, isK_str, isK_nm, isK_int, $ls,*])
theorem mD_mk2 {n : Nd} {k : Nat} : PyData.tuple [nmD n, .int (1 + (k : Int))] = mD (n, k + 1) := by
  rw [Int.add_comm]; rfl
theorem cnt_sends (n : Nd) : ∀ es : List Ev, (((sends es).map (·.1)).filter fun m => decide (m.1 = n)).length = Mo.cnt es n := by
  refine Mo.snocInd rfl fun es e ih => ?_
  cases e with
  | snd a rs =>
    rw [sends_snd, List.map_append, List.filter_append, List.length_append, ih, cnt_snd]
    by_cases h : a = n <;> simp [h]
  | opn a m => rw [sends_opn, cnt_opn, ih]
theorem pa_lt {ns : List Nd} {S : LS} (I : Inv ns S) (n : Nd) {j : Nat} (h : j ∈ S.past n) : j < S.es.length := by
  obtain ⟨l, h1, h2⟩ := ((I.pa n).2 j).mp h
  have := latest_lt _ h1
  rcases h2 with rfl | h2
  · exact this
  · have := be_lt _ h2; omega
theorem pa_len {ns : List Nd} {S : LS} (I : Inv ns S) (n : Nd) : (S.past n).length ≤ S.es.length := nd_len _ _ (I.pa n).1 fun j h => pa_lt I n h
theorem sn_len {ns : List Nd} {S : LS} (I : Inv ns S) : S.sn.length ≤ S.es.length := by rw [I.lenS]; exact sends_len _
theorem op_len {ns : List Nd} {S : LS} (I : Inv ns S) : S.op.length ≤ S.es.length := by
  have h1 : (S.op.map (·.1)).length ≤ (opl S.es).length := by
    have sub : ∀ x ∈ S.op.map (·.1), x ∈ opl S.es := fun ⟨m, n⟩ h => opl_mem.mpr ((I.op1 m n).mp h)
    have : ∀ (a b : List (Msg × Nd)), a.Nodup → (∀ x ∈ a, x ∈ b) → a.length ≤ b.length := fun a => by
      induction a with
      | nil => intro b _ _; simp
      | cons x a ih =>
        intro b hd hs
        have hx := hs x List.mem_cons_self
        have := ih (b.erase x) (List.nodup_cons.mp hd).2 fun y hy => (List.mem_erase_of_ne fun e => (List.nodup_cons.mp hd).1 (by rw [← e]; exact hy)).mpr (hs y (List.mem_cons_of_mem _ hy))
        rw [List.length_erase_of_mem hx] at this
        have := List.length_pos_of_mem hx
        rw [List.length_cons]; omega
    exact this _ _ I.op2 sub
  have := opl_len S.es
  rw [List.length_map] at h1; omega
theorem nomut_idx (ks : List Nat) : thinO (.od false (idxK ks)) = true := by
  show (noMuts ((idxK ks).map (·.1)) && noMuts ((idxK ks).map (·.2))) = true
  rw [idx_keys]
  unfold idxK dK
  rw [List.map_map, List.map_map]
  rw [noMuts_map (e := iD) (fun _ => rfl) ks]
  exact noMuts_map (e := fun _ => PyData.bool true) (fun _ => rfl) ks
theorem oz_copyI {P : O → Prop} {ks : List Nat} (h : ks ≠ []) : OptP (oCopyD [.sh (.dict (idxK ks))]) P ↔ P (.od false (idxK ks)) := by
  have e : oCopyD [.sh (.dict (idxK ks))] = some (.od false (idxK ks)) := by
    unfold oCopyD asDc
    simp only
    rw [if_pos ⟨idx_flat ks, fun e => h (by cases ks with | nil => rfl | cons => cases e)⟩]
  rw [e, optP_some]
theorem sp_sent {ns rs : List Nd} {S : LS} {n : Nd} (I : Inv ns S) (hn : n ∈ ns) (hl : S.es.length ≤ 900) (Q : O → List O → Prop) : WF f__law_sent [.ob 0 (stD ns S), .sh (nmD n), .sh (.list (rs.map nmD))] Q ↔ Q (.sh (mD (n, Mo.cnt S.es n + 1))) [.ob 0 (stD ns (S.sent n rs)), .sh (nmD n), .sh (.list (rs.map nmD))] := wf_of (fun Q q => by
  unfold f__law_sent b__law_sent
  have l1 := sn_len I
  have l2 := pa_len I n
  have hc := cnt_sends n S.es
  have kn : lk S.sn (n, Mo.cnt S.es n + 1) = none := by rw [lk_none, I.snk]; exact lk_none.mp (lk_new S.es n)
  have m1 : mutT shp opAppend 0 (stD ns S) [.str "events"] [.tuple [.str "send", nmD n, .list (rs.map nmD)]] = some (stD ns { S with es := S.es ++ [Ev.snd n rs] }, .none) :=
    mt_of tg_E (lf' := .ol ((S.es ++ [Ev.snd n rs]).map eD)) (by
      unfold opAppend; simp only
      rw [if_pos (lt_sz (by rw [List.length_map]; omega)), List.map_append]; rfl) tp_E
  have m2 : mutT shp opPut 0 (stD ns { S with es := S.es ++ [Ev.snd n rs] }) [.str "past", nmD n] [.int (S.es.length : Int), .bool true] = some (stD ns { S with es := S.es ++ [Ev.snd n rs], past := Mo.upd S.past n (insK (S.past n) S.es.length) }, .none) :=
    mt_of (tg_P hn) (put_I (lt_sz (by show (S.past n).length ≤ _; omega))) (tp_P hn)
  have m3 : mutT shp opPut 0 (stD ns { S with es := S.es ++ [Ev.snd n rs], past := Mo.upd S.past n (insK (S.past n) S.es.length) }) [.str "sends"] [mD (n, Mo.cnt S.es n + 1), .tuple [.list (rs.map nmD), .int (S.es.length : Int), .dict (idxK (insK (S.past n) S.es.length))]] = some (stD ns (S.sent n rs), .none) := by
    refine mt_of tg_S (lf' := .od (nkE (S.sent n rs).sn) (dK mD snD (S.sent n rs).sn)) ?_ tp_S
    have := put_KE (ev := snD) k_m (kvs := S.sn) (k := (n, Mo.cnt S.es n + 1)) (v := (rs, S.es.length, insK (S.past n) S.es.length)) (lt_sz (by omega))
    rw [put_new kn] at this
    exact this
  have hne : insK (S.past n) S.es.length ≠ [] := fun e => by
    have : S.es.length ∈ insK (S.past n) S.es.length := mem_insK.mpr (.inr rfl)
    rw [e] at this; cases this
  have hup : Mo.upd S.past n (insK (S.past n) S.es.length) n = insK (S.past n) S.es.length := if_pos rfl
  push_cast []
  refine ⟨rfl, ?_⟩
  push_cast [oz_stS, keys_K]
  rw [← List.map_map]
  refine lc_wpp mD (fun m => decide (m.1 = n)) (fun _ => .int 1) (S.sn.map (·.1)) (sz _ (by rw [List.length_map]; omega)) (fun m hm => ?_) ?_
  · by_cases c : m.1 = n
    · push_cast [mD, oz_eqV v_nm, c]
    · push_cast [mD, oz_eqV v_nm, c]
  · rw [I.snk]
    push_cast [thinO, noMut, hc]
    refine ⟨rfl, ?_⟩
    push_cast [thinO, noMut, oz_stE, tg_E, oz_listL]
    refine ⟨sz 3, ?_⟩
    push_cast [m1, tg_P hn, m2, tg_S, oz_listL]
    refine ⟨rfl, ?_⟩
    push_cast [oz_stP, oz_pa hn, hup, oz_copyI hne, nomut_idx]
    refine ⟨sz 3, ?_⟩
    push_cast [tg_S, mD_mk2]
    refine ⟨sz 2, ?_⟩
    push_cast [m3, mD_mk2]
    exact ⟨sz 2, q⟩) Q
theorem upd_upd {α : Type} (f : Nd → α) (n : Nd) (x y : α) : Mo.upd (Mo.upd f n x) n y = Mo.upd f n y := by
  funext k; unfold Mo.upd; split <;> rfl
theorem sp_opened {ns rs : List Nd} {S : LS} {n : Nd} {m : Msg} {i : Nat} {ks : List Nat} (I : Inv ns S) (hn : n ∈ ns) (hl : S.es.length ≤ 900) (hm : lk S.sn m = some (rs, i, ks)) (ho : Ev.opn n m ∉ S.es) (Q : O → List O → Prop) : WF f__law_opened [.ob 0 (stD ns S), .sh (nmD n), .sh (mD m)] Q ↔ Q (.sh .none) [.ob 0 (stD ns (S.opened n m ks)), .sh (nmD n), .sh (mD m)] := wf_of (fun Q q => by
  unfold f__law_opened b__law_opened
  have l1 := sn_len I
  have l2 := pa_len I n
  have l3 := op_len I
  have hk := I.sn2 m rs i ks (lk_mem hm)
  have hi := (sends_mem _ (I.sn_mem (lk_mem hm))).2.2
  have hkl : ks.length ≤ S.es.length := nd_len _ _ hk.1 fun j h => by
    rcases (hk.2 j).mp h with rfl | h
    · exact hi
    · have := be_lt _ h; omega
  have hul : (updK (S.past n) ks).length ≤ S.es.length := nd_len _ _ (updK_nodup (I.pa n).1) fun j h => by
    rcases mem_updK.mp h with h | h
    · exact pa_lt I n h
    · rcases (hk.2 j).mp h with rfl | h
      · exact hi
      · have := be_lt _ h; omega
  have hon : lk S.op (m, n) = none := by rw [lk_none, I.op1]; exact ho
  have m1 : mutT shp opAppend 0 (stD ns S) [.str "events"] [.tuple [.str "open", nmD n, mD m]] = some (stD ns { S with es := S.es ++ [Ev.opn n m] }, .none) :=
    mt_of tg_E (lf' := .ol ((S.es ++ [Ev.opn n m]).map eD)) (by
      unfold opAppend; simp only
      rw [if_pos (lt_sz (by rw [List.length_map]; omega)), List.map_append]; rfl) tp_E
  have m2 : mutT shp opUpd 0 (stD ns { S with es := S.es ++ [Ev.opn n m] }) [.str "past", nmD n] [.dict (idxK ks)] = some (stD ns { S with es := S.es ++ [Ev.opn n m], past := Mo.upd S.past n (updK (S.past n) ks) }, .none) :=
    mt_of (tg_P hn) (upd_I (sz _ (by show (S.past n).length + _ ≤ _; omega))) (tp_P hn)
  have m3 : mutT shp opPut 0 (stD ns { S with es := S.es ++ [Ev.opn n m], past := Mo.upd S.past n (updK (S.past n) ks) }) [.str "past", nmD n] [.int (S.es.length : Int), .bool true] = some (stD ns { S with es := S.es ++ [Ev.opn n m], past := Mo.upd S.past n (insK (updK (S.past n) ks) S.es.length) }, .none) := by
    have e := mt_of (op := opPut) (ds := [.int (S.es.length : Int), .bool true]) (r := .none) (tg_P (S := { S with es := S.es ++ [Ev.opn n m], past := Mo.upd S.past n (updK (S.past n) ks) }) hn) (put_I (lt_sz (by show (Mo.upd S.past n (updK (S.past n) ks) n).length ≤ _; unfold Mo.upd; rw [if_pos rfl]; omega))) (tp_P hn)
    rw [e]
    simp only [upd_upd]
    rw [show Mo.upd S.past n (updK (S.past n) ks) n = updK (S.past n) ks from if_pos rfl]
  have m4 : mutT shp opPut 0 (stD ns { S with es := S.es ++ [Ev.opn n m], past := Mo.upd S.past n (insK (updK (S.past n) ks) S.es.length) }) [.str "opens"] [mnD (m, n), .int (S.es.length : Int)] = some (stD ns (S.opened n m ks), .none) := by
    refine mt_of tg_O (lf' := .od (nkE (S.opened n m ks).op) (dK mnD iD (S.opened n m ks).op)) ?_ tp_O
    have := put_KE (ev := iD) k_mn (kvs := S.op) (k := (m, n)) (v := S.es.length) (lt_sz (by omega))
    rw [put_new hon] at this
    exact this
  have g1 : oDGet [.od (nkE S.sn) (dK mD snD S.sn), .sh (mD m)] = some (.sh (snD (rs, i, ks))) := by
    have e : oDGet [.od (nkE S.sn) (dK mD snD S.sn), .sh (mD m)] = (lk S.sn m).map fun v => .sh (snD v) := by
      unfold oDGet
      simp only [asDc, asD]
      rw [k_m.ok, kind_K k_m, dget_K k_m]
      cases lk S.sn m <;> rfl
    rw [e, hm]; rfl
  push_cast []
  refine ⟨rfl, ?_⟩
  push_cast [oz_stE, thinO, noMut, tg_E]
  refine ⟨sz 3, ?_⟩
  push_cast [m1, qGet, tg_S, g1, snD, tg_P hn, m2]
  push_cast [m3, tg_P hn, m4, mnD_mk, tg_O]
  exact ⟨sz 2, q⟩) Q
end Lw

/- text Pj -/
set_option Elab.async false
set_option maxRecDepth 100000
set_option maxHeartbeats 400000
namespace Lw
open PySem PySem.Spec L2 Wl Mo
open PyProof.Rows hiding St
local macro_rules
  | `(tactic| push_cast [$ls,*]) => `(tactic| simp (dsimp := false) [↓we_bind, ↓we_pure, ↓we_var, ↓we_c, ↓we_nil, ↓we_cons, ↓we_op, ↓we_e1, ↓we_e2, ↓we_tTrue, ↓we_sh0, ↓we_sh1, ↓we_tB, ↓we_and, ↓we_or, ↓we_not, ↓we_if, ↓we_eand, ↓we_eor, ↓we_enot, ↓we_toSh, ↓we_call, ↓we_lst, ↓we_tup, ↓we_lc, ↓we_dc, ↓we_de, ↓we_disp, ↓we_newD, ↓we_ext, ↓we_bor, ↓we_tbor, ↓we_q, ↓we_srcR, ↓we_srcAny, ↓we_srcE, ↓we_srcIt, ↓we_srcZ, ↓we_sl, ↓we_pSome, ↓we_pNone, ↓ws_for, ↓ws_next, ↓ws_seq, ↓ws_if, ↓ws_set, ↓ws_ret, ↓ws_retN, ↓ws_drop, ↓ws_put, ↓ws_asg, ↓ws_pars, ↓ws_augD, ↓ws_pm, ↓ws_pp, ↓ws_pu, ↓we_mutAt, ↓we_meth, ↓wf_fn, optP_some, shAll, still, der, ders, asD, putR, gSet, gTupM, gsCons, gsNil, pars, obOf, asSh, addI, qC, qV, qIx, pBase, pStep, oz_add, oz_sub, oz_abs, oz_max2, oz_min2, oz_mul, oz_mod, oz_div, oz_pow, ordI, cLtI, cGtI, cLeI, cGeI, oz_eqI, oz_neI, oz_ixL, oz_ixSL, oz_ixT, oz_lenL, oz_lenO, oz_lenT, atZ_nat, atZ_0, atZ_1, atZ_2, slotIs, ofTy, isOwn, ixN, okArgs, outsOf, List.range_succ, shArgs, osOf, putOuts, ndModes, toSh, wipeE, unwipe, tTrue, anyOf, oSlL, asL, tyO, iD, isK_str, isK_nm, isK_int, $ls,*])
theorem sortS_K {P : O → Prop} {ν : Type} {ev : ν → D} {kvs : List (Msg × ν)} (h : kvs.length ≤ 100000) : OptP (oSorted [.sh (.dict (dK mD ev kvs))]) P ↔ P (.ol ((sortM (kvs.map (·.1))).map mD)) := sortO_K (nk := true) h
theorem key_lk {ns : List Nd} {S : LS} {o : Msg} (h : o ∈ sortM (S.sn.map (·.1))) : ∃ qs j ls, lk S.sn o = some (qs, j, ls) := by
  have := sortM_mem.mp h
  cases e : lk S.sn o with
  | none => exact absurd this (lk_none.mp e)
  | some x => exact ⟨x.1, x.2.1, x.2.2, rfl⟩
theorem opAppend_m {xs : List Msg} {o : Msg} (h : xs.length ≤ 10000) : opAppend (.ol (xs.map mD)) [mD o] = some (.ol ((xs ++ [o]).map mD), .none) := by
  unfold opAppend; simp only
  rw [if_pos (lt_sz (by rw [List.length_map]; omega)), List.map_append]; rfl
theorem sp_first {ns : List Nd} {S : LS} {n : Nd} {m : Msg} {rs : List Nd} {i : Nat} {ks : List Nat} (I : Inv ns S) (hl : S.es.length ≤ 900) (hm : lk S.sn m = some (rs, i, ks)) (Q : O → List O → Prop) : WF f__law_first [.sh (stD ns S), .sh (nmD n), .sh (mD m)] Q ↔ Q (.ol ((S.first n m).map mD)) [.sh (stD ns S), .sh (nmD n), .sh (mD m)] := wf_of (fun Q q => by
  unfold f__law_first b__law_first
  have l1 := sn_len I
  push_cast [oz_stS, oz_getS k_m, hm, oz_sn2]
  refine ⟨sz 2, ?_⟩
  push_cast [oz_stS, sortS_K (kvs := S.sn) (ev := snD) (by omega)]
  refine ws_loop mD (fun pre ρ => ∃ x y z u, ρ = [some (.sh (stD ns S)), some (.sh (nmD n)), some (.sh (mD m)), some (.sh (.dict (idxK ks))), some (.ol ((pre.filter (S.fp n m)).map mD)), x, y, z, u]) ⟨none, none, none, none, rfl⟩ ?_ ?_
  · rintro pre o post ρ hx ⟨x, y, z, u, rfl⟩
    obtain ⟨qs, j, ls, ho⟩ := key_lk (ns := ns) (S := S) (o := o) (by rw [← hx]; simp)
    have hlen : pre.length ≤ 10000 := by have := congrArg List.length hx; simp [sortM_len] at this; omega
    have hf := List.length_filter_le (S.fp n m) pre
    have fe : S.fp n m o = (decide (o ≠ m) && decide (n ∈ qs) && decide (j ∈ ks) && !(lk S.op (o, n)).isSome) := by unfold LS.fp; rw [ho, hm]
    rw [List.filter_append, List.filter_cons, List.filter_nil, fe]
    push_cast [oz_stS, oz_getS k_m, ho, snD, oz_neV v_m]
    by_cases c1 : o = m
    · push_cast [c1]
    · by_cases c2 : n ∈ qs
      · by_cases c3 : j ∈ ks
        · cases c4 : lk S.op (o, n) with
          | none => push_cast [c1, c2, c3, c4, oz_inV v_nm, oz_inIs, oz_stO, mnD_mk, oz_niS k_mn, opAppend_m (Nat.le_trans hf hlen)]; exact sz 2
          | some v => push_cast [c1, c2, c3, c4, oz_inV v_nm, oz_inIs, oz_stO, mnD_mk, oz_niS k_mn]; exact sz 2
        · push_cast [c1, c2, c3, oz_inV v_nm, oz_inIs]
      · push_cast [c1, c2, oz_inV v_nm]
  · rintro ρ ⟨x, y, z, u, rfl⟩
    push_cast []
    exact q) Q
theorem sp_closed {ns : List Nd} {S : LS} {n : Nd} (I : Inv ns S) (hl : S.es.length ≤ 900) (Q : O → List O → Prop) : WF f__law_closed [.sh (stD ns S), .sh (nmD n)] Q ↔ Q (.ol ((S.closed n).map mD)) [.sh (stD ns S), .sh (nmD n)] := wf_of (fun Q q => by
  unfold f__law_closed b__law_closed
  have l1 := sn_len I
  push_cast [oz_stS, sortS_K (kvs := S.sn) (ev := snD) (by omega)]
  refine lc_wpp mD (S.cp n) mD _ (sz _ (by rw [sortM_len, List.length_map]; omega)) (fun o ho => ?_) ?_
  · obtain ⟨qs, j, ls, ho⟩ := key_lk (ns := ns) (S := S) (o := o) ho
    have fe : S.cp n o = decide (n ∈ qs) := by unfold LS.cp; rw [ho]
    by_cases c : n ∈ qs <;> push_cast [fe, oz_stS, oz_getS k_m, ho, oz_sn0, oz_inV v_nm, c]
  · have hX := List.length_filter_le (S.cp n) (sortM (S.sn.map (·.1)))
    rw [sortM_len, List.length_map] at hX
    unfold LS.closed at q
    generalize (sortM (S.sn.map (·.1))).filter (S.cp n) = X at hX q ⊢
    push_cast []
    refine lc_wpp mD (fun m => !(lk S.op (m, n)).isSome) mD _ (sz _ (by omega)) (fun o ho => ?_) ?_
    · cases c : lk S.op (o, n) <;> push_cast [oz_stO, mnD_mk, oz_niS k_mn, c] <;> exact sz 2
    · push_cast []
      simpa using q) Q
end Lw

/- text Pk -/
set_option Elab.async false
set_option maxRecDepth 100000
set_option maxHeartbeats 400000
namespace Lw
open PySem PySem.Spec L2 Wl Mo
open PyProof.Rows hiding St
local macro_rules
  | `(tactic| push_cast [$ls,*]) => `(tactic| simp (dsimp := false) [↓we_bind, ↓we_pure, ↓we_var, ↓we_c, ↓we_nil, ↓we_cons, ↓we_op, ↓we_e1, ↓we_e2, ↓we_tTrue, ↓we_sh0, ↓we_sh1, ↓we_tB, ↓we_and, ↓we_or, ↓we_not, ↓we_if, ↓we_eand, ↓we_eor, ↓we_enot, ↓we_toSh, ↓we_call, ↓we_lst, ↓we_tup, ↓we_lc, ↓we_dc, ↓we_de, ↓we_disp, ↓we_newD, ↓we_ext, ↓we_bor, ↓we_tbor, ↓we_q, ↓we_srcR, ↓we_srcAny, ↓we_srcE, ↓we_srcIt, ↓we_srcZ, ↓we_sl, ↓we_pSome, ↓we_pNone, ↓ws_for, ↓ws_next, ↓ws_seq, ↓ws_if, ↓ws_set, ↓ws_ret, ↓ws_retN, ↓ws_drop, ↓ws_put, ↓ws_asg, ↓ws_pars, ↓ws_augD, ↓ws_pm, ↓ws_pp, ↓ws_pu, ↓we_mutAt, ↓we_meth, ↓wf_fn, optP_some, shAll, still, der, ders, asD, putR, gSet, gTupM, gsCons, gsNil, pars, obOf, asSh, addI, qC, qV, qIx, pBase, pStep, oz_add, oz_sub, oz_abs, oz_max2, oz_min2, oz_mul, oz_mod, oz_div, oz_pow, ordI, cLtI, cGtI, cLeI, cGeI, oz_eqI, oz_neI, oz_ixL, oz_ixSL, oz_ixT, oz_lenL, oz_lenO, oz_lenT, atZ_nat, atZ_0, atZ_1, atZ_2, slotIs, ofTy, isOwn, ixN, okArgs, outsOf, List.range_succ, shArgs, osOf, putOuts, ndModes, toSh, wipeE, unwipe, tTrue, anyOf, oSlL, asL, tyO, iD, isK_str, isK_nm, isK_int, $ls,*])
theorem key_nd (ns : List Nd) (h : ns.Nodup) : ((ns.map nmD).filterMap dKey).Nodup := by
  have e : (ns.map nmD).filterMap dKey = ns.map fun n => Sum.inr (nmS n) := by
    rw [List.filterMap_map]
    induction ns with
    | nil => rfl
    | cons a l ih => rw [List.filterMap_cons, List.map_cons, ← ih (List.nodup_cons.mp h).2]; rfl
  rw [e]
  exact List.Pairwise.map (fun n => Sum.inr (nmS n)) (fun a b hab z => hab (nmS_inj _ _ (Sum.inr.inj z))) h
theorem VN.nd {ns : List Nd} (h : VN ns) : ns.Nodup := h.pw.imp fun z e => by subst e; exact Fin.lt_irrefl _ z
theorem sp_told {ns : List Nd} (h : VN ns) (Q : O → List O → Prop) : WF f__law_told [.sh (.list (ns.map nmD))] Q ↔ Q (.ob 0 (stD ns LS.new)) [.sh (.list (ns.map nmD))] := wf_of (fun Q q => by
  unfold f__law_told b__law_told
  have h2 := h.le
  push_cast []
  refine de_wp nmD nmD ns [] (sz _ (by simp; omega)) (fun x hx => ?_) ?_
  · push_cast []
  · push_cast [key_nd ns h.nd]
    have e : mkD ["events", "past", "sends", "opens", "nodes"] [.l, .o 1, .d, .d, .s] [.v (.ol []), .v (.ob 1 (.dict (ns.map ((fun k => (k, PyData.dict [])) ∘ nmD)))), .v (.od false []), .v (.od false []), .v (.sh (.list (ns.map nmD)))] = some (stK ns LS.new) := by
      have e2 : ns.map ((fun k => (k, PyData.dict [])) ∘ nmD) = paK ns LS.new.past := by unfold paK dK; rw [List.map_map]; rfl
      rw [e2]; rfl
    push_cast [e]
    exact ⟨by have := key_nd ns h.nd; rw [List.filterMap_map] at this; exact this, q⟩) Q
def thn (x : Option O) : Bool := match (some x : Option (Option O)) with
  | some (some (.sh _)) => true
  | some (some o) => thinO o
  | _ => true
theorem lent10 {x0 x1 x2 x3 x4 x5 x6 x7 x8 x9 : Option O} (h0 : thn x0 = true) (h1 : thn x1 = true) (h2 : thn x2 = true) (h4 : thn x4 = true) (h5 : thn x5 = true) (h6 : thn x6 = true) (h7 : thn x7 = true) (h8 : thn x8 = true) (h9 : thn x9 = true) : lentOk 3 [x0, x1, x2, x3, x4, x5, x6, x7, x8, x9] = true := by
  show (([0, 1, 2, 3, 4, 5, 6, 7, 8, 9] : List Nat).all fun j => j == 3 || (match ([x0, x1, x2, x3, x4, x5, x6, x7, x8, x9] : Wl.Env)[j]? with
    | some (some (.sh _)) => true
    | some (some o) => thinO o
    | _ => true)) = true
  simp only [List.all_cons, List.all_nil]
  show (((0 : Nat) == 3 || thn x0) && (((1 : Nat) == 3 || thn x1) && (((2 : Nat) == 3 || thn x2) && (((3 : Nat) == 3 || thn x3) && (((4 : Nat) == 3 || thn x4) && (((5 : Nat) == 3 || thn x5) && (((6 : Nat) == 3 || thn x6) && (((7 : Nat) == 3 || thn x7) && (((8 : Nat) == 3 || thn x8) && (((9 : Nat) == 3 || thn x9) && true)))))))))) = true
  rw [h0, h1, h2, h4, h5, h6, h7, h8, h9]; rfl
theorem thn_jar {n : Int} {l : List D} (h : Jar n l) : thn (some (.ol l)) = true := by
  obtain ⟨a, b, c, rfl, _⟩ := h; rfl
theorem thn_m (ms : List Msg) : thn (some (.ol (ms.map mD))) = true := nomuts_m ms
theorem thn_sh (d : D) : thn (some (.sh d)) = true := rfl
theorem cut_a {l : List D} : Wl.cutD l none (some 2) = l.take 2 := by
  unfold Wl.cutD
  rw [HT.sIx_none]
  have : HT.sIx l.length l.length (some 2) = min 2 l.length := HT.sIx_nat l.length l.length 2
  rw [this, List.drop_zero, Nat.sub_zero]
  rcases Nat.le_total 2 l.length with h | h
  · rw [Nat.min_eq_left h]
  · rw [Nat.min_eq_right h, List.take_of_length_le (Nat.le_refl _), List.take_of_length_le h]
theorem cut_b {l : List D} (h : l ≠ []) : Wl.cutD l (some (-1)) none = l.drop (l.length - 1) := by
  unfold Wl.cutD
  have hp := List.length_pos_iff.mpr h
  have : HT.sIx l.length 0 (some (-1)) = l.length - 1 := by
    show (if (-1 : Int) < 0 then ((-1 : Int) + (l.length : Int)).toNat else min (-1 : Int).toNat l.length) = _
    rw [if_pos (by decide)]; omega
  rw [this, HT.sIx_none]
  exact List.take_of_length_le (by rw [List.length_drop]; omega)
theorem oz_neg {P : O → Prop} {a : Int} : OptP (oSc dNeg [.sh (.int a)]) P ↔ P (.sh (.int (-a))) := optP_some
theorem oz_neNilO {α : Type} [DecidableEq α] {e : α → D} {P : O → Prop} (h : VE' α e) {xs : List α} : OptP (oSc dNe [.ol (xs.map e), .ol []]) P ↔ P (.sh (.bool (!decide (xs = [])))) := by
  have e' : oSc dNe [.ol (xs.map e), .ol []] = some (.sh (.bool (!decide (xs = [])))) := by
    show (match (if (SeqAt.shaped (.list (xs.map e)) && SeqAt.shaped (.list [])) = true then some (PyData.bool (!PyData.eqv (.list (xs.map e)) (.list []))) else none) with | some d => some (O.sh d) | none => none) = _
    rw [h.shL, show SeqAt.shaped (.list []) = true by decide +kernel, PyData.eqv]
    cases xs <;> simp [PyData.eqvAll]
  rw [e', optP_some]
theorem oz_eqNilOV {α : Type} [DecidableEq α] {e : α → D} {P : O → Prop} (h : VE' α e) {xs : List α} : OptP (oSc dEq [.ol (xs.map e), .ol []]) P ↔ P (.sh (.bool (decide (xs = [])))) := oz_eqNilV h
def LvI (ns bs : List Nd) (many often : Nat) (n : Int) (k : Nat) (ρ : Wl.Env) : Prop := ∃ S js x6 x7 x8, Inv ns S ∧ S.es.length ≤ k ∧ Jar (n + 3 + 50 * k) js ∧ thn x6 = true ∧ thn x7 = true ∧ thn x8 = true ∧ ρ = [some (.ol js), some (.sh (.list (ns.map nmD))), some (.sh (.int (many : Int))), some (.ob 0 (stD ns S)), some (.sh (.list (bs.map nmD))), some (.sh (.int (1 + (often : Int)))), x6, x7, x8, none]
theorem oz_eqNN {P : O → Prop} : OptP (oSc dEq [.ol [], .ol []]) P ↔ P (.sh (.bool true)) := optP_some
theorem oz_neNN {P : O → Prop} : OptP (oSc dNe [.ol [], .ol []]) P ↔ P (.sh (.bool false)) := optP_some
theorem sp_lived {n : Int} {ns : List Nd} {l : List D} {many : Nat} (hj : Jar n l) (hn : n < 10 ^ 9) (hv : VN ns) (hm : many ≤ 100) {Q : O → List O → Prop} (q : ∀ (S : LS) (l' : List D), Inv ns S → S.es.length ≤ many → Jar (n + 10000) l' → Q (.ob 0 (stD ns S)) [.ol l', .sh (.list (ns.map nmD)), .sh (.int (many : Int))]) : WF f__law_lived [.ol l, .sh (.list (ns.map nmD)), .sh (.int (many : Int))] Q := by
  unfold f__law_lived b__law_lived
  have h2 := hv.ge
  have h12 := hv.le
  have hne : ns ≠ [] := fun e => by rw [e] at h2; simp at h2
  have hneD : ns.map nmD ≠ [] := by simpa using hne
  push_cast [sp_told hv, oz_neg]
  refine ⟨sz 3, ?_⟩
  refine pick_ok hj (by omega) (m := 3) (by omega) (by omega) fun r l1 h1 hj1 => ?_
  obtain ⟨bs, hb1, hb2, hb3, hb4⟩ : ∃ bs : List Nd, bs ≠ [] ∧ (∀ x ∈ bs, x ∈ ns) ∧ bs.length ≤ 12 ∧ ([PyData.list (ns.map nmD), .list (Wl.cutD (ns.map nmD) none (some 2)), .list (Wl.cutD (ns.map nmD) (some (-1)) none)] : List D)[r]? = some (.list (bs.map nmD)) := by
    have : r = 0 ∨ r = 1 ∨ r = 2 := by omega
    rcases this with rfl | rfl | rfl
    · exact ⟨ns, hne, fun _ h => h, h12, rfl⟩
    · refine ⟨ns.take 2, fun e => ?_, fun x h => List.mem_of_mem_take h, by rw [List.length_take]; omega, by rw [cut_a, List.map_take]; rfl⟩
      have := congrArg List.length e
      rw [List.length_take, List.length_nil] at this; omega
    · refine ⟨ns.drop (ns.length - 1), fun e => ?_, fun x h => List.mem_of_mem_drop h, by rw [List.length_drop]; omega, by rw [cut_b hneD, List.length_map, List.map_drop]; rfl⟩
      have := congrArg List.length e
      rw [List.length_drop, List.length_nil] at this; omega
  push_cast [hb4]
  refine pick_ok hj1 (by omega) (m := 7) (by omega) (by omega) fun often l2 h2' hj2 => ?_
  push_cast []
  refine pick_ok hj2 (by omega) (m := (many : Int) + 1) (by omega) (by omega) fun cnt0 l3 h3 hj3 => ?_
  push_cast [rng_k cnt0 (by omega)]
  refine ws_loop iD (fun pre ρ => LvI ns bs many often n pre.length ρ) ⟨LS.new, l3, none, none, none, Inv.new ns, Nat.le_refl _, hj3.le (by show n + 1 + 1 + 1 ≤ n + 3 + 50 * ((0 : Nat) : Int); omega), rfl, rfl, rfl, rfl⟩ ?_ ?_
  · rintro pre x post ρ hx ⟨S, js, x6, x7, x8, I, hS, hjs, t6, t7, t8, rfl⟩
    have hpl : pre.length < 101 := by have := congrArg List.length hx; simp at this; omega
    rw [show (pre ++ [x]).length = pre.length + 1 by simp]
    push_cast []
    refine pick_ok hjs (by omega) (m := ns.length) (by omega) (by omega) fun r1 k1 q1 j1 => ?_
    have hr1 : r1 < ns.length := by omega
    push_cast [List.getElem?_map, List.getElem?_eq_getElem hr1]
    have hnd : ns[r1] ∈ ns := List.getElem_mem hr1
    generalize ns[r1] = nd at hnd ⊢
    refine ⟨lent10 (thn_jar j1) rfl rfl rfl rfl rfl rfl t8 rfl, ?_⟩
    have hcl : (S.closed nd).length ≤ 1000 := by rw [I.closed_eq]; have := clo_len S.es nd; omega
    have hcm : ∀ m ∈ S.closed nd, ∃ rs i ks, lk S.sn m = some (rs, i, ks) ∧ nd ∈ rs ∧ Ev.opn nd m ∉ S.es := fun m hm => by
      rw [I.closed_eq] at hm
      obtain ⟨⟨i, rs, a1, a2⟩, a3⟩ := clo_mem.mp hm
      obtain ⟨ks, a4⟩ := I.sn_lk' a1
      exact ⟨rs, i, ks, a4, a2, a3⟩
    push_cast [sp_closed I (by omega), thinO, nomuts_m]
    refine lc_wpp mD (fun m => decide (S.first nd m = [])) mD _ (sz _ (by omega)) (fun m hm1 => ?_) ?_
    · obtain ⟨rs, i, ks, a1, a2, a3⟩ := hcm m hm1
      push_cast []
      refine ⟨lent10 (thn_jar j1) rfl rfl rfl rfl rfl rfl t8 rfl, ?_⟩
      by_cases c : S.first nd m = [] <;> push_cast [sp_first I (by omega) a1, oz_eqNilOV v_m, oz_eqNN, c]
    · generalize hF : (S.closed nd).filter (fun m => decide (S.first nd m = [])) = F
      have hFm : ∀ m ∈ F, m ∈ S.closed nd ∧ S.first nd m = [] := fun m hm => by
        rw [← hF] at hm; simpa using hm
      have hFl : F.length ≤ 1000 := by rw [← hF]; exact Nat.le_trans (List.length_filter_le _ _) hcl
      have other : ∀ (k2 : List D), Jar (n + 3 + 50 * pre.length + 5) k2 → WS (sSeq (sSet 7 (e2 oIxA (eVar 4) (eCall f__law_pick [some 0, none] (aCons (eVar 0) (aCons (e1 oLen (eVar 4)) aNil))))) (sDrop (eCall f__law_sent [some 3, none, none] (aCons (eVar 3) (aCons (eVar 7) (aCons (eCall f__law_some [some 0, none, none] (aCons (eVar 0) (aCons (eVar 1) (aCons (eVar 7) aNil)))) aNil))))))
          [some (.ol k2), some (.sh (.list (ns.map nmD))), some (.sh (.int (many : Int))), some (.ob 0 (stD ns S)), some (.sh (.list (bs.map nmD))), some (.sh (.int (1 + (often : Int)))), some (.sh (.int (x : Int))), some (.sh (nmD nd)), some (.ol (F.map mD)), none]
          (fun ρ => LvI ns bs many often n (pre.length + 1) ρ) fun _ _ => False := by
        intro k2 hk2
        push_cast []
        refine pick_ok hk2 (by omega) (m := bs.length) (by have := List.length_pos_iff.mpr hb1; omega) (by omega) fun r2 k3 q2 j2 => ?_
        have hr2 : r2 < bs.length := by omega
        push_cast [List.getElem?_map, List.getElem?_eq_getElem hr2]
        have hnd2 : bs[r2] ∈ ns := hb2 _ (List.getElem_mem hr2)
        generalize bs[r2] = nd2 at hnd2 ⊢
        refine some_ok j2 (by omega) hv hnd2 fun rs k4 hrv j3 => ?_
        push_cast [sp_sent I hnd2 (by omega)]
        exact ⟨_, _, _, _, _, I.sent hnd2 hrv, by simp [LS.sent]; omega, j3.le (by omega), rfl, rfl, thn_m F, rfl⟩
      generalize (sSeq (sSet 7 (e2 oIxA (eVar 4) (eCall f__law_pick [some 0, none] (aCons (eVar 0) (aCons (e1 oLen (eVar 4)) aNil))))) (sDrop (eCall f__law_sent [some 3, none, none] (aCons (eVar 3) (aCons (eVar 7) (aCons (eCall f__law_some [some 0, none, none] (aCons (eVar 0) (aCons (eVar 1) (aCons (eVar 7) aNil)))) aNil)))))) = B at other ⊢
      by_cases cF : F = []
      · have hcF := other k1 (j1.le (by omega))
        subst cF
        push_cast [oz_neNN]
        exact hcF
      · push_cast [oz_neNilO v_m, cF]
        have hF1 : 1 ≤ F.length := List.length_pos_iff.mpr cF
        refine pick_ok j1 (by omega) (m := 8) (by omega) (by omega) fun r3 k2 q3 j2 => ?_
        by_cases c8 : (r3 : Int) < 1 + (often : Int)
        · push_cast [c8]
          refine pick_ok j2 (by omega) (m := F.length) (by omega) (by omega) fun r4 k3 q4 j3 => ?_
          push_cast []
          refine ⟨sz 3, ?_⟩
          refine pick_ok j3 (by omega) (m := 3) (by omega) (by omega) fun r5 k4 q5 j4 => ?_
          obtain ⟨v, hv1, hv2⟩ : ∃ v : Nat, v < F.length ∧ ([PyData.int 0, .int ((F.length : Int) - 1), .int (r4 : Int)] : List D)[r5]? = some (.int (v : Int)) := by
            have : r5 = 0 ∨ r5 = 1 ∨ r5 = 2 := by omega
            rcases this with rfl | rfl | rfl
            · exact ⟨0, by omega, rfl⟩
            · exact ⟨F.length - 1, by omega, by rw [Int.natCast_sub hF1]; rfl⟩
            · exact ⟨r4, by omega, rfl⟩
          push_cast [hv2, List.getElem?_map, List.getElem?_eq_getElem hv1]
          obtain ⟨hm1, hm2⟩ := hFm _ (List.getElem_mem hv1)
          generalize F[v] = m at hm1 hm2 ⊢
          obtain ⟨rs, i, ks, a1, a2, a3⟩ := hcm m hm1
          push_cast [sp_opened I hnd (by omega) a1 a3]
          exact ⟨_, _, _, _, _, I.opened hnd a1 a2 a3 (I.NE_of hm2), by simp [LS.opened]; omega, j4.le (by omega), rfl, rfl, thn_m F, rfl⟩
        · push_cast [c8]
          exact other k2 (j2.le (by omega))
  · rintro ρ ⟨S, js, x6, x7, x8, I, hS, hjs, t6, t7, t8, rfl⟩
    push_cast []
    rw [List.length_range] at hS hjs
    exact q S js I (by omega) (hjs.le (by omega))
end Lw

/- text Pl -/
set_option Elab.async false
set_option maxRecDepth 100000
set_option maxHeartbeats 400000
namespace Lw
open PySem PySem.Spec L2 Wl Mo
open PyProof.Rows hiding St
/-! ### what repr writes -/
structure Sg (x : Str) (b : Nat) : Prop where
  len : x.length ≤ b
  ok : PyData.strOk x = true
theorem sg_append {x y : Str} {m n : Nat} (hx : Sg x m) (hy : Sg y n) : Sg (x ++ y) (m + n) := by
  refine ⟨by have := hx.len; have := hy.len; rw [Str.length_append]; omega, ?_⟩
  have h1 := hx.ok; have h2 := hy.ok
  unfold PyData.strOk at *
  rw [Str.cps_append, Array.all_append, h1, h2]; rfl
theorem Sg.le {x : Str} {m n : Nat} (h : Sg x m) (hn : m ≤ n) : Sg x n := ⟨Nat.le_trans h.len hn, h.ok⟩
theorem sg_comma : Sg (", " : Str) 2 := ⟨by decide +kernel, by decide +kernel⟩
theorem sg_empty : Sg ("" : Str) 0 := ⟨by decide +kernel, by decide +kernel⟩
theorem sg_text {b : Nat} : ∀ (ts : List Str) (k : Nat) (acc : Str) (m : Nat), Sg acc m → (∀ t ∈ ts, Sg t b) → Sg (textFrom k acc ts) (m + ts.length * (b + 2))
  | [], k, acc, m, h, _ => by simpa [textFrom] using h
  | t :: r, k, acc, m, h, ht => by
    have h2 : Sg (if k > 0 then ", " else "" : String) 2 := by
      split
      · exact sg_comma
      · exact sg_empty.le (by omega)
    have h3 := sg_append (sg_append h h2) (ht t List.mem_cons_self)
    have := sg_text r (k + 1) _ _ h3 fun t m => ht t (List.mem_cons_of_mem _ m)
    exact this.le (by rw [List.length_cons, Nat.succ_mul]; omega)
theorem sg_join {b : Nat} : ∀ (ts : List Str), (∀ t ∈ ts, Sg t b) → Sg (Str.join ", " ts) (ts.length * (b + 2))
  | [], _ => sg_empty.le (by simp)
  | [x], h => (h x List.mem_cons_self).le (by simp)
  | x :: y :: r, h => by
    have ih := sg_join (y :: r) fun t m => h t (List.mem_cons_of_mem _ m)
    have := sg_append (sg_append (h x List.mem_cons_self) sg_comma) ih
    exact this.le (by simp only [List.length_cons, Nat.succ_mul]; omega)
theorem shown_all : ∀ ds : List D, PyData.shownAll ds = ds.map PyData.shown
  | [] => by simp [PyData.shownAll]
  | d :: ds => by rw [PyData.shownAll, shown_all ds]; rfl
/-- a datum of depth k, written with b signs at most -/
structure RK (d : D) (k b : Nat) : Prop where
  lay : d.canLay0 = true
  shw : d.showable = true
  dep : d.depth ≤ k
  sg : Sg d.shown b
theorem lay_all : ∀ {ds : List D}, (∀ d ∈ ds, d.canLay0 = true) → PyData.canLayAll0 ds = true
  | [], _ => by simp [PyData.canLayAll0]
  | d :: ds, h => by rw [PyData.canLayAll0, h d List.mem_cons_self, lay_all fun d m => h d (List.mem_cons_of_mem _ m)]; rfl
theorem shw_all : ∀ {ds : List D}, (∀ d ∈ ds, d.showable = true) → PyData.showableAll ds = true
  | [], _ => by simp [PyData.showableAll]
  | d :: ds, h => by rw [PyData.showableAll, h d List.mem_cons_self, shw_all fun d m => h d (List.mem_cons_of_mem _ m)]; rfl
theorem dep_all {k : Nat} : ∀ {ds : List D}, (∀ d ∈ ds, d.depth ≤ k) → PyData.depthAll ds ≤ k
  | [], _ => by simp [PyData.depthAll]
  | d :: ds, h => by rw [PyData.depthAll]; exact Nat.max_le.mpr ⟨h d List.mem_cons_self, dep_all fun d m => h d (List.mem_cons_of_mem _ m)⟩
theorem rk_list {ds : List D} {k b : Nat} (h : ∀ d ∈ ds, RK d k b) : RK (.list ds) (k + 1) (ds.length * (b + 2) + 2) := by
  refine ⟨by rw [PyData.canLay0]; exact lay_all fun d m => (h d m).lay, by rw [PyData.showable]; exact shw_all fun d m => (h d m).shw, by rw [PyData.depth]; exact Nat.succ_le_succ (dep_all fun d m => (h d m).dep), ?_⟩
  rw [PyData.shown, shown_all]
  unfold listText
  have h1 : Sg ("[" : Str) 1 := ⟨by decide +kernel, by decide +kernel⟩
  have h2 : Sg ("]" : Str) 1 := ⟨by decide +kernel, by decide +kernel⟩
  have := sg_append (sg_text (b := b) (ds.map PyData.shown) 0 _ _ h1 fun t m => by obtain ⟨d, hd, rfl⟩ := List.mem_map.mp m; exact (h d hd).sg) h2
  exact this.le (by rw [List.length_map]; omega)
theorem rk_tup {ds : List D} {k b : Nat} (h : ∀ d ∈ ds, RK d k b) : RK (.tuple ds) (k + 1) (ds.length * (b + 2) + 3) := by
  refine ⟨by rw [PyData.canLay0]; exact lay_all fun d m => (h d m).lay, by rw [PyData.showable]; exact shw_all fun d m => (h d m).shw, by rw [PyData.depth]; exact Nat.succ_le_succ (dep_all fun d m => (h d m).dep), ?_⟩
  rw [PyData.shown, shown_all]
  unfold tupleText
  have h1 : Sg ("(" : Str) 1 := ⟨by decide +kernel, by decide +kernel⟩
  have h2 : ∀ c : Bool, Sg ((if c then ",)" else ")" : String) : Str) 2 := by
    intro c; cases c <;> exact ⟨by decide +kernel, by decide +kernel⟩
  have := sg_append (sg_append h1 (sg_join (b := b) (ds.map PyData.shown) fun t m => by obtain ⟨d, hd, rfl⟩ := List.mem_map.mp m; exact (h d hd).sg)) (h2 ((ds.map PyData.shown).length == 1))
  exact this.le (by rw [List.length_map]; omega)
theorem RK.le {d : D} {k k' b b' : Nat} (h : RK d k b) (h1 : k ≤ k') (h2 : b ≤ b') : RK d k' b' := ⟨h.lay, h.shw, Nat.le_trans h.dep h1, h.sg.le h2⟩
theorem rk_nm (i : Nd) : RK (nmD i) 0 10 := by
  refine ⟨lay_nm i, rfl, Nat.le_of_eq (dep_nm i), ?_, ?_⟩
  · revert i; decide +kernel
  · revert i; decide +kernel
theorem rk_int (k : Nat) (h : k < 1100) : RK (.int (k : Int)) 0 10 := by
  have h1 : ∀ k : Fin 1100, (PyData.shown (.int (k.val : Int))).length ≤ 10 ∧ PyData.strOk (PyData.shown (.int (k.val : Int))) = true ∧ (PyData.showable (.int (k.val : Int))) = true := by decide +kernel
  obtain ⟨a, b, c⟩ := h1 ⟨k, h⟩
  exact ⟨rfl, c, Nat.zero_le _, a, b⟩
theorem rk_str (x : Str) (h : (PyData.strOk x && decide ((PyData.shown (.str x)).length ≤ 10) && PyData.strOk (PyData.shown (.str x))) = true) : RK (.str x) 0 10 := by
  simp only [Bool.and_eq_true, decide_eq_true_eq] at h
  exact ⟨h.1.1, rfl, Nat.zero_le _, h.1.2, h.2⟩
theorem rk_m (m : Msg) (h : m.2 < 1100) : RK (mD m) 1 27 := by
  unfold mD
  have := rk_tup (ds := [nmD m.1, .int (m.2 : Int)]) (k := 0) (b := 10) fun d hd => by
    rcases List.mem_cons.mp hd with rfl | hd
    · exact rk_nm _
    · rw [List.mem_singleton.mp hd]; exact rk_int _ h
  exact this
theorem rk_l (ns : List Nd) (h : ns.length ≤ 26) : RK (.list (ns.map nmD)) 1 314 := by
  have := rk_list (ds := ns.map nmD) (k := 0) (b := 10) fun d hd => by obtain ⟨i, _, rfl⟩ := List.mem_map.mp hd; exact rk_nm i
  exact this.le (Nat.le_refl _) (by rw [List.length_map]; omega)
theorem rk_e {ns : List Nd} {pre post : List Ev} {e : Ev} (h : VR ns (pre ++ e :: post)) (hl : (pre ++ e :: post).length ≤ 1000) : RK (eD e) 2 951 := by
  have hv := h pre e post rfl
  cases e with
  | snd n rs =>
    have hr := pw_len' hv.2.2.1
    have := rk_tup (ds := [.str "send", nmD n, .list (rs.map nmD)]) (k := 1) (b := 314) fun d hd => by
      rcases List.mem_cons.mp hd with rfl | hd
      · exact (rk_str _ (by decide +kernel)).le (by omega) (by omega)
      rcases List.mem_cons.mp hd with rfl | hd
      · exact (rk_nm _).le (by omega) (by omega)
      · rw [List.mem_singleton.mp hd]; exact rk_l rs hr
    exact this
  | opn n m =>
    obtain ⟨_, ⟨i, rs, v2, v3⟩, _⟩ := hv
    have hm := sends_mem pre (lk_mem v2)
    have hc : Mo.cnt pre m.1 ≤ pre.length := List.countP_le_length
    have hp : pre.length ≤ 1000 := by simp at hl; omega
    have := rk_tup (ds := [.str "open", nmD n, mD m]) (k := 1) (b := 314) fun d hd => by
      rcases List.mem_cons.mp hd with rfl | hd
      · exact (rk_str _ (by decide +kernel)).le (by omega) (by omega)
      rcases List.mem_cons.mp hd with rfl | hd
      · exact (rk_nm _).le (by omega) (by omega)
      · rw [List.mem_singleton.mp hd]; exact (rk_m m (by omega)).le (by omega) (by omega)
    exact this
theorem rk_run {ns : List Nd} {es : List Ev} (h : VR ns es) (hl : es.length ≤ 1000) : RK (.list (es.map eD)) 3 953002 := by
  have := rk_list (ds := es.map eD) (k := 2) (b := 951) fun d hd => by
    obtain ⟨e, he, rfl⟩ := List.mem_map.mp hd
    obtain ⟨pre, post, rfl⟩ := List.append_of_mem he
    exact rk_e h hl
  exact this.le (Nat.le_refl _) (by rw [List.length_map]; omega)
theorem rk_kept {ns : List Nd} {es : List Ev} (hn : VN ns) (h : VR ns es) (hl : es.length ≤ 1000) : RK (.list [.list (ns.map nmD), .list (es.map eD)]) 4 1906010 := by
  have := rk_list (ds := [.list (ns.map nmD), .list (es.map eD)]) (k := 3) (b := 953002) fun d hd => by
    rcases List.mem_cons.mp hd with rfl | hd
    · exact (rk_l ns (by have := hn.le; omega)).le (by omega) (by omega)
    · rw [List.mem_singleton.mp hd]; exact rk_run h hl
  exact this.le (Nat.le_refl _) (by simp only [List.length_cons, List.length_nil]; omega)
section
variable {P : O → Prop}
theorem oz_repr {l : List D} {k b : Nat} (h : RK (.list l) k b) (hk : k ≤ 60 := by omega) (hb : b ≤ 10000000 := by omega) : OptP (oSc dRepr [.sh (.list l)]) P ↔ P (.sh (.str (PyData.list l).shown)) := by
  have e : oSc dRepr [.sh (.list l)] = some (.sh (.str (PyData.list l).shown)) := by
    show (match (if ((PyData.list l).canLay0 && (PyData.list l).showable && decide ((PyData.list l).depth ≤ 60) && decide ((PyData.list l).shown.length ≤ sizeLine)) = true then some (PyData.str (PyData.list l).shown) else none) with | some d => some (O.sh d) | none => none) = _
    rw [if_pos (by rw [h.lay, h.shw, decide_eq_true (Nat.le_trans h.dep hk), decide_eq_true (Nat.le_trans h.sg.len (sz b hb))]; rfl)]
  rw [e, optP_some]
theorem oz_reprO {l : List D} {k b : Nat} (h : RK (.list l) k b) (hk : k ≤ 60 := by omega) (hb : b ≤ 10000000 := by omega) : OptP (oSc dRepr [.ol l]) P ↔ P (.sh (.str (PyData.list l).shown)) := oz_repr h hk hb
theorem oz_neS {x : Str} (h : PyData.strOk x = true) : OptP (oSc dNe [.sh (.str x), .sh (.str x)]) P ↔ P (.sh (.bool false)) := by
  have hs : SeqAt.shaped (.str x) = true := shp_of (k := 0) h (Nat.le_refl _)
  have e : oSc dNe [.sh (.str x), .sh (.str x)] = some (.sh (.bool false)) := by
    show (match (if (SeqAt.shaped (.str x) && SeqAt.shaped (.str x)) = true then some (PyData.bool (!PyData.eqv (.str x) (.str x))) else none) with | some d => some (O.sh d) | none => none) = _
    rw [hs, str_eqv]; simp
  rw [e, optP_some]
end
end Lw

/- text Pm -/
set_option Elab.async false
set_option maxRecDepth 100000
set_option maxHeartbeats 400000
namespace Lw
open PySem PySem.Spec L2 Wl Mo
open PyProof.Rows hiding St
local macro_rules
  | `(tactic| push_cast [$ls,*]) => `(tactic| simp (dsimp := false) [↓we_bind, ↓we_pure, ↓we_var, ↓we_c, ↓we_nil, ↓we_cons, ↓we_op, ↓we_e1, ↓we_e2, ↓we_tTrue, ↓we_sh0, ↓we_sh1, ↓we_tB, ↓we_and, ↓we_or, ↓we_not, ↓we_if, ↓we_eand, ↓we_eor, ↓we_enot, ↓we_toSh, ↓we_call, ↓we_lst, ↓we_tup, ↓we_lc, ↓we_dc, ↓we_de, ↓we_disp, ↓we_newD, ↓we_ext, ↓we_bor, ↓we_tbor, ↓we_q, ↓we_srcR, ↓we_srcAny, ↓we_srcE, ↓we_srcIt, ↓we_srcZ, ↓we_sl, ↓we_pSome, ↓we_pNone, ↓ws_for, ↓ws_next, ↓ws_seq, ↓ws_if, ↓ws_set, ↓ws_ret, ↓ws_retN, ↓ws_drop, ↓ws_put, ↓ws_asg, ↓ws_pars, ↓ws_augD, ↓ws_pm, ↓ws_pp, ↓ws_pu, ↓we_mutAt, ↓we_meth, ↓wf_fn, optP_some, shAll, still, der, ders, asD, putR, gSet, gTupM, gsCons, gsNil, pars, obOf, asSh, addI, qC, qV, qIx, pBase, pStep, oz_add, oz_sub, oz_abs, oz_max2, oz_min2, oz_mul, oz_mod, oz_div, oz_pow, ordI, cLtI, cGtI, cLeI, cGeI, oz_eqI, oz_neI, oz_ixL, oz_ixSL, oz_ixT, oz_lenL, oz_lenO, oz_lenT, atZ_nat, atZ_0, atZ_1, atZ_2, slotIs, ofTy, isOwn, ixN, okArgs, outsOf, List.range_succ, shArgs, osOf, putOuts, ndModes, toSh, wipeE, unwipe, tTrue, anyOf, oSlL, asL, tyO, iD, isK_str, isK_nm, isK_int, $ls,*])
theorem clo_num {es : List Ev} {n : Nd} {m : Msg} (h : m ∈ clo es n) : m.2 ≤ es.length := by
  obtain ⟨⟨i, rs, h1, _⟩, _⟩ := clo_mem.mp h
  have := sends_mem es (lk_mem h1)
  have hc : Mo.cnt es m.1 ≤ es.length := List.countP_le_length
  omega
theorem rk_clo {es : List Ev} (hl : es.length ≤ 1000) (n : Nd) : RK (.list ((clo es n).map mD)) 2 29002 := by
  have := rk_list (ds := (clo es n).map mD) (k := 1) (b := 27) fun d hd => by
    obtain ⟨m, hm, rfl⟩ := List.mem_map.mp hd
    exact rk_m m (by have := clo_num hm; omega)
  exact this.le (Nat.le_refl _) (by rw [List.length_map]; have := clo_len es n; omega)
theorem nxts_mem {es : List Ev} {ns : List Nd} {p : Nd × Msg} (h : p ∈ nxts es ns) : p.2 ∈ clo es p.1 := by
  unfold nxts at h
  obtain ⟨n, _, h⟩ := List.mem_flatMap.mp h
  obtain ⟨m, h', rfl⟩ := List.mem_map.mp h
  exact (List.mem_filter.mp h').1
theorem rk_nxts {es : List Ev} {ns : List Nd} (hl : es.length ≤ 1000) (hn : ns.length ≤ 12) : RK (.list ((nxts es ns).map nmmD)) 3 800002 := by
  have := rk_list (ds := (nxts es ns).map nmmD) (k := 2) (b := 61) fun d hd => by
    obtain ⟨p, hp, rfl⟩ := List.mem_map.mp hd
    have hm := clo_num (nxts_mem hp)
    have := rk_tup (ds := [nmD p.1, mD p.2]) (k := 1) (b := 27) fun d hd => by
      rcases List.mem_cons.mp hd with rfl | hd
      · exact (rk_nm _).le (by omega) (by omega)
      · rw [List.mem_singleton.mp hd]; exact rk_m _ (by omega)
    exact this
  have h2 := nxts_len es ns
  have h3 : ns.length * es.length ≤ 12 * 1000 := Nat.mul_le_mul hn hl
  exact this.le (Nat.le_refl _) (by rw [List.length_map]; omega)
theorem append_any {l : List D} {d : D} (h : l.length ≤ 100000) : opAppend (.ol l) [d] = some (.ol (l ++ [d]), .none) := by
  unfold opAppend; simp only; rw [if_pos (lt_sz h)]
theorem sp_right {ns : List Nd} {S : LS} (hn : VN ns) (I : Inv ns S) (hl : S.es.length ≤ 900) (Q : O → List O → Prop) : WF f__law_right [.sh (.list (ns.map nmD)), .sh (stD ns S)] Q ↔ Q (.sh (.bool true)) [.sh (.list (ns.map nmD)), .sh (stD ns S)] := wf_of (fun Q q => by
  unfold f__law_right b__law_right
  have h12 := hn.le
  have hk := rk_kept hn I.vr (by omega)
  have r2 : rngOf (.int 2) = some ((List.range 2).map iD) := rng_k 2 (by omega)
  push_cast [oz_stE]
  refine ⟨sz 2, ?_⟩
  push_cast [oz_repr hk, oz_reprO hk]
  refine ⟨sz 2, ?_⟩
  refine ws_loop nmD (fun pre ρ => ∃ x5 x6 x7 x8, ρ = [some (.sh (.list (ns.map nmD))), some (.sh (stD ns S)), some (.sh (.list (S.es.map eD))), some (.sh (.str (PyData.list [.list (ns.map nmD), .list (S.es.map eD)]).shown)), some (.ol ((nxts S.es pre).map nmmD)), x5, x6, x7, x8, none]) ⟨none, none, none, none, rfl⟩ ?_ ?_
  · rintro pre nd post ρ hx ⟨x5, x6, x7, x8, rfl⟩
    have hnd : nd ∈ ns := by rw [← hx]; simp
    have hpl : pre.length < 12 := by have := congrArg List.length hx; simp at this; omega
    have hcl := clo_len S.es nd
    have hcm : ∀ m ∈ clo S.es nd, ∃ rs i ks, lk S.sn m = some (rs, i, ks) := fun m hm => by
      obtain ⟨⟨i, rs, a1, _⟩, _⟩ := clo_mem.mp hm
      obtain ⟨ks, a4⟩ := I.sn_lk' a1
      exact ⟨rs, i, ks, a4⟩
    push_cast [sp_closed I hl, I.closed_eq]
    refine lc_wpp mD (fun m => decide (sb S.es (clo S.es nd) m = [])) (fun m => nmmD (nd, m)) _ (sz _) (fun m hm1 => ?_) ?_
    · obtain ⟨rs, i, ks, a1⟩ := hcm m hm1
      have hiff := I.first_nil hm1
      by_cases c : sb S.es (clo S.es nd) m = []
      · push_cast [sp_first I hl a1, hiff.mpr c, oz_eqNN, c, nmmD_mk]
        exact sz 2
      · have c' : ¬ S.first nd m = [] := fun e => c (hiff.mp e)
        push_cast [sp_first I hl a1, oz_eqNilOV v_m, c, c']
    · have l1 := nxts_len S.es pre
      have l2 := List.length_filter_le (fun m => decide (sb S.es (clo S.es nd) m = [])) (clo S.es nd)
      have l3 : pre.length * S.es.length ≤ 12 * 1000 := Nat.mul_le_mul (by omega) (by omega)
      have e : (nxts S.es (pre ++ [nd])).map nmmD = (nxts S.es pre).map nmmD ++ ((clo S.es nd).filter fun m => decide (sb S.es (clo S.es nd) m = [])).map fun m => nmmD (nd, m) := by
        unfold nxts nxt; rw [List.flatMap_append, List.map_append]; simp
      rw [e]
      have hXl : (((clo S.es nd).filter fun m => decide (sb S.es (clo S.es nd) m = [])).map (fun m => nmmD (nd, m))).length ≤ 1000 := by rw [List.length_map]; omega
      generalize ((clo S.es nd).filter fun m => decide (sb S.es (clo S.es nd) m = [])).map (fun m => nmmD (nd, m)) = X at *
      have hrc := rk_clo (es := S.es) (by omega) nd
      push_cast [r2]
      refine ⟨sz _ (by omega), ?_⟩
      refine ws_loop (xs := [(0 : Int), 1]) PyData.int (fun _ ρ => ∃ x7 x8, ρ = [some (.sh (.list (ns.map nmD))), some (.sh (stD ns S)), some (.sh (.list (S.es.map eD))), some (.sh (.str (PyData.list [.list (ns.map nmD), .list (S.es.map eD)]).shown)), some (.ol ((nxts S.es pre).map nmmD ++ X)), some (.sh (nmD nd)), some (.sh (.list ((clo S.es nd).map mD))), x7, x8, none]) ⟨_, _, rfl⟩ ?_ ?_
      · rintro _ y _ ρ _ ⟨x7, x8, rfl⟩
        push_cast [sp_closed_messages hn I.vr I.ca (by omega) hnd, oz_repr hrc, oz_reprO hrc, oz_neS hrc.sg.ok, append_any (l := (clo S.es nd).map mD) (by rw [List.length_map]; omega)]
      · rintro ρ ⟨x7, x8, rfl⟩
        exact ⟨_, _, _, _, rfl⟩
  · rintro ρ ⟨x5, x6, x7, x8, rfl⟩
    have hrn := rk_nxts (es := S.es) (ns := ns) (by omega) h12
    have h2 := nxts_len S.es ns
    have h3 : ns.length * S.es.length ≤ 12 * 1000 := Nat.mul_le_mul h12 (by omega)
    push_cast [r2]
    refine ws_loop (xs := [(0 : Int), 1]) PyData.int (fun _ ρ => ∃ x7 x8, ρ = [some (.sh (.list (ns.map nmD))), some (.sh (stD ns S)), some (.sh (.list (S.es.map eD))), some (.sh (.str (PyData.list [.list (ns.map nmD), .list (S.es.map eD)]).shown)), some (.ol ((nxts S.es ns).map nmmD)), x5, x6, x7, x8, none]) ⟨_, _, rfl⟩ ?_ ?_
    · rintro _ y _ ρ _ ⟨x7, x8, rfl⟩
      push_cast [sp_next_opens hn I.vr I.ca (by omega), oz_repr hrn, oz_reprO hrn, oz_neS hrn.sg.ok, oz_repr hk, oz_reprO hk, oz_neS hk.sg.ok, append_any (l := (nxts S.es ns).map nmmD) (by rw [List.length_map]; omega)]
      exact sz 2
    · rintro ρ ⟨x7, x8, rfl⟩
      push_cast [q]) Q
theorem lent7 {x0 x1 x2 x3 x4 x5 x6 : Option O} (h0 : thn x0 = true) (h1 : thn x1 = true) (h2 : thn x2 = true) (h3 : thn x3 = true) (h4 : thn x4 = true) (h6 : thn x6 = true) : lentOk 5 [x0, x1, x2, x3, x4, x5, x6] = true := by
  show (([0, 1, 2, 3, 4, 5, 6] : List Nat).all fun j => j == 5 || (match ([x0, x1, x2, x3, x4, x5, x6] : Wl.Env)[j]? with
    | some (some (.sh _)) => true
    | some (some o) => thinO o
    | _ => true)) = true
  simp only [List.all_cons, List.all_nil]
  show (((0 : Nat) == 5 || thn x0) && (((1 : Nat) == 5 || thn x1) && (((2 : Nat) == 5 || thn x2) && (((3 : Nat) == 5 || thn x3) && (((4 : Nat) == 5 || thn x4) && (((5 : Nat) == 5 || thn x5) && (((6 : Nat) == 5 || thn x6) && true))))))) = true
  rw [h0, h1, h2, h3, h4, h6]; rfl
def LwO (ns : List Int) (ρ : Wl.Env) : Prop := ∃ x1 x2 x3 x4 x5 x6, thn x6 = true ∧ ρ = [some (.sh (.list (ns.map .int))), x1, x2, x3, x4, x5, x6]
def LwI (ns : List Int) (k j : Nat) (ρ : Wl.Env) : Prop := ∃ js x3 x4 x5 x6, Jar (20000 * j) js ∧ thn x6 = true ∧ ρ = [some (.sh (.list (ns.map .int))), some (.sh (.int (k : Int))), some (.ol js), x3, x4, x5, x6]
theorem vn_ab : VN [0, 3] := ⟨by decide, by decide, by decide⟩
theorem plain (ns : List Int) (hl : ns.length ≤ 63) : ∃ outs, f_law [.sh (.list (ns.map .int))] = some (.ok (.sh (.bool true), outs)) := by
  have key : WF f_law [.sh (.list (ns.map .int))] fun o outs => o = .sh (.bool true) := by
    unfold f_law b_law
    have r2 : rngOf (.int 2) = some ((List.range 2).map iD) := rng_k 2 (by omega)
    have r1 : ∃ K : Nat, K ≤ 6 ∧ (if 1 < (if (ns.length : Int) < 6 then (ns.length : Int) else 6) then (if (ns.length : Int) < 6 then (ns.length : Int) else 6) else 1) = (K : Int) := by
      refine ⟨(if 1 < (if (ns.length : Int) < 6 then (ns.length : Int) else 6) then (if (ns.length : Int) < 6 then (ns.length : Int) else 6) else 1).toNat, ?_, ?_⟩ <;> split <;> split <;> omega
    obtain ⟨K, hK, eK⟩ := r1
    push_cast []
    rw [eK, rng_k K (by omega), optP_some]
    refine ws_loop iD (fun _ ρ => LwO ns ρ) ⟨_, _, _, _, _, _, rfl, rfl⟩ ?_ ?_
    · rintro pre k post ρ hx ⟨x1, x2, x3, x4, x5, x6, t6, rfl⟩
      have hk : k < K := by
        have : k ∈ List.range K := by rw [← hx]; simp
        simpa using this
      push_cast []
      refine jar_ok ns k (by omega) fun a b ha hb hb2 => ?_
      have hj0 : Jar 0 [.int a, .int b, .int 0] := ⟨a, b, 0, rfl, ha, hb, by omega, Int.le_refl 0, Int.le_refl 0⟩
      push_cast [r2]
      refine ws_loop (xs := [0, 1]) iD (fun pre ρ => LwI ns k pre.length ρ) ⟨_, _, _, _, _, hj0, t6, rfl⟩ ?_ ?_
      · rintro pre2 turn post2 ρ hx2 ⟨js, y3, y4, y5, y6, j0, u6, rfl⟩
        have hp2 : pre2.length < 2 := by have := congrArg List.length hx2; simp at this; omega
        rw [show (pre2 ++ [turn]).length = pre2.length + 1 by simp]
        push_cast []
        have fin : ∀ (most : Nat) (js' : List D), 3 ≤ most → most ≤ 12 → Jar (20000 * pre2.length + 10) js' → ∀ Q : O → List O → Prop, (∀ (nds : List Nd) (l' : List D), VN nds → nds.length ≤ most → Jar (20000 * pre2.length + 30) l' → Q (.ol (nds.map nmD)) [.ol l', .sh (.int (most : Int))]) → WF f__law_folk [.ol js', .sh (.int (most : Int))] Q := fun most js' h1 h2 j Q q => folk_ok j (by omega) h1 h2 fun nds l' v1 v2 v3 => q nds l' v1 v2 (v3.le (by omega))
        have ab : ∀ x : Option O, True := fun _ => trivial
        have go : ∀ (nds : List Nd) (l' : List D) (y4 : Option O), VN nds → Jar (20000 * pre2.length + 30) l' → WS (sSeq (sSet 5 (eCall f__law_lived [some 2, none, none] (aCons (eVar 2) (aCons (eVar 4) (aCons (eC (PyData.int 30)) aNil))))) (sSeq (sIf (tNotM (tBor 5 (tBool (eCall f__law_right [none, none] (aCons (eVar 4) (aCons (eVar 5) aNil)))))) (sRet (eC (PyData.bool false))) sNext) (sSeq (sSet 6 (e2 oIxA (eVar 4) (eCall f__law_pick [some 2, none] (aCons (eVar 2) (aCons (e1 oLen (eVar 4)) aNil))))) (sSeq (sDrop (eCall f__law_sent [some 5, none, none] (aCons (eVar 5) (aCons (eVar 6) (aCons (eCall f__law_some [some 2, none, none] (aCons (eVar 2) (aCons (eVar 4) (aCons (eVar 6) aNil)))) aNil))))) (sIf (tNotM (tBor 5 (tBool (eCall f__law_right [none, none] (aCons (eVar 4) (aCons (eVar 5) aNil)))))) (sRet (eC (PyData.bool false))) sNext)))))
            [some (.sh (.list (ns.map .int))), some (.sh (.int (k : Int))), some (.ol l'), some (.sh (.int (turn : Int))), some (.ol (nds.map nmD)), y5, y6] (fun ρ => LwI ns k (pre2.length + 1) ρ) fun _ _ => False := by
          intro nds l' y4 hv hj
          have h12 := hv.le
          have h2 := hv.ge
          push_cast []
          refine sp_lived (many := 30) hj (by omega) hv (by omega) fun S l2 I hS hj2 => ?_
          push_cast []
          refine ⟨lent7 rfl rfl (thn_jar hj2) rfl rfl u6, ?_⟩
          push_cast [sp_right hv I (by omega)]
          refine pick_ok hj2 (by omega) (m := nds.length) (by omega) (by omega) fun r l3 q1 hj3 => ?_
          have hr : r < nds.length := by omega
          push_cast [List.getElem?_map, List.getElem?_eq_getElem hr]
          have hnd : nds[r] ∈ nds := List.getElem_mem hr
          generalize nds[r] = nd at hnd ⊢
          refine some_ok hj3 (by omega) hv hnd fun rs l4 hrv hj4 => ?_
          have I2 := I.sent hnd hrv
          have hl2 : (S.sent nd rs).es.length ≤ 900 := by simp [LS.sent]; omega
          push_cast [sp_sent I hnd (by omega)]
          refine ⟨lent7 rfl rfl (thn_jar hj4) rfl rfl rfl, ?_⟩
          push_cast [sp_right hv I2 hl2]
          exact ⟨_, _, _, _, _, hj4.le (by omega), rfl, rfl⟩
        generalize (sSeq (sSet 5 (eCall f__law_lived [some 2, none, none] (aCons (eVar 2) (aCons (eVar 4) (aCons (eC (PyData.int 30)) aNil))))) (sSeq (sIf (tNotM (tBor 5 (tBool (eCall f__law_right [none, none] (aCons (eVar 4) (aCons (eVar 5) aNil)))))) (sRet (eC (PyData.bool false))) sNext) (sSeq (sSet 6 (e2 oIxA (eVar 4) (eCall f__law_pick [some 2, none] (aCons (eVar 2) (aCons (e1 oLen (eVar 4)) aNil))))) (sSeq (sDrop (eCall f__law_sent [some 5, none, none] (aCons (eVar 5) (aCons (eVar 6) (aCons (eCall f__law_some [some 2, none, none] (aCons (eVar 2) (aCons (eVar 4) (aCons (eVar 6) aNil)))) aNil))))) (sIf (tNotM (tBor 5 (tBool (eCall f__law_right [none, none] (aCons (eVar 4) (aCons (eVar 5) aNil)))))) (sRet (eC (PyData.bool false))) sNext))))) = B at go ⊢
        by_cases c : (k : Int) + (turn : Int) = 0
        · rw [if_pos c]
          refine pick_ok j0 (by omega) (m := 4) (by omega) (by omega) fun r l1 q1 hj1 => ?_
          by_cases cr : r = 0
          · subst cr
            push_cast []
            refine fin 12 l1 (by omega) (by omega) (hj1.le (by omega)) _ fun nds l' v1 v2 v3 => ?_
            push_cast []
            exact go nds l' y4 v1 v3
          · have cr' : ¬ (r : Int) = 0 := by omega
            push_cast [cr, cr']
            refine fin 6 l1 (by omega) (by omega) (hj1.le (by omega)) _ fun nds l' v1 v2 v3 => ?_
            push_cast []
            exact go nds l' y4 v1 v3
        · rw [if_neg c]
          refine fin 6 js (by omega) (by omega) (j0.le (by omega)) _ fun nds l' v1 v2 v3 => ?_
          push_cast []
          exact go nds l' y4 v1 v3
      · rintro ρ ⟨js, y3, y4, y5, y6, j0, u6, rfl⟩
        exact ⟨_, _, _, _, _, _, u6, rfl⟩
    · rintro ρ ⟨x1, x2, x3, x4, x5, x6, t6, rfl⟩
      have n0 : nmD 0 = .str "a" := by kernel_rfl
      have n3 : nmD 3 = .str "b" := by kernel_rfl
      have c0 : ∀ n, clo [] n = [] := fun n => by simp [clo, msgs, sends_nil, sortM]
      have x0 : nxts [] [0, 3] = [] := by simp [nxts, nxt, c0]
      have e1 := sp_next_opens (ns := [0, 3]) (es := []) vn_ab (VR_nil _) CA_nil (by simp)
      have e2 := sp_closed_messages (ns := [0, 3]) (es := []) (n := 0) vn_ab (VR_nil _) CA_nil (by simp) (by decide)
      simp only [List.map_cons, List.map_nil, n0, n3, c0, x0] at e1 e2
      push_cast [e1, e2, oz_eqNN]
      exact sz 2
  obtain ⟨o, outs, e, rfl⟩ := key
  exact ⟨outs, e⟩
end Lw

/- text K52H -/
set_option Elab.async false
set_option maxRecDepth 100000
set_option maxHeartbeats 0
namespace Lw
open PySem PySem.Spec L2 Wl
open PyProof.Rows hiding St

def dD_is_name : He.DefD := ⟨("is_name", none), "is_name", "is_name", defArgs s_is_name, defBody s_is_name, defScope s_is_name, [], []⟩
def dD_is_ascending : He.DefD := ⟨("is_ascending", none), "is_ascending", "is_ascending", defArgs s_is_ascending, defBody s_is_ascending, defScope s_is_ascending, [], []⟩
def dD_is_number : He.DefD := ⟨("is_number", none), "is_number", "is_number", defArgs s_is_number, defBody s_is_number, defScope s_is_number, [], []⟩
def dD_is_nodes : He.DefD := ⟨("is_nodes", none), "is_nodes", "is_nodes", defArgs s_is_nodes, defBody s_is_nodes, defScope s_is_nodes, [], []⟩
def dD_need_nodes : He.DefD := ⟨("need_nodes", none), "need_nodes", "need_nodes", defArgs s_need_nodes, defBody s_need_nodes, defScope s_need_nodes, [], []⟩
def dD_is_node : He.DefD := ⟨("is_node", none), "is_node", "is_node", defArgs s_is_node, defBody s_is_node, defScope s_is_node, [], []⟩
def dD_need_node : He.DefD := ⟨("need_node", none), "need_node", "need_node", defArgs s_need_node, defBody s_need_node, defScope s_need_node, [], []⟩
def dD_is_receivers : He.DefD := ⟨("is_receivers", none), "is_receivers", "is_receivers", defArgs s_is_receivers, defBody s_is_receivers, defScope s_is_receivers, [], []⟩
def dD_is_message : He.DefD := ⟨("is_message", none), "is_message", "is_message", defArgs s_is_message, defBody s_is_message, defScope s_is_message, [], []⟩
def dD_is_event : He.DefD := ⟨("is_event", none), "is_event", "is_event", defArgs s_is_event, defBody s_is_event, defScope s_is_event, [], []⟩
def dD_is_run : He.DefD := ⟨("is_run", none), "is_run", "is_run", defArgs s_is_run, defBody s_is_run, defScope s_is_run, [], []⟩
def dD_need_run : He.DefD := ⟨("need_run", none), "need_run", "need_run", defArgs s_need_run, defBody s_need_run, defScope s_need_run, [], []⟩
def dD_send_spots : He.DefD := ⟨("send_spots", none), "send_spots", "send_spots", defArgs s_send_spots, defBody s_send_spots, defScope s_send_spots, [], []⟩
def dD_all_messages : He.DefD := ⟨("all_messages", none), "all_messages", "all_messages", defArgs s_all_messages, defBody s_all_messages, defScope s_all_messages, [], []⟩
def dD_predecessors : He.DefD := ⟨("predecessors", none), "predecessors", "predecessors", defArgs s_predecessors, defBody s_predecessors, defScope s_predecessors, [], []⟩
def dD_closure : He.DefD := ⟨("closure", none), "closure", "closure", defArgs s_closure, defBody s_closure, defScope s_closure, [], []⟩
def dD_early_open : He.DefD := ⟨("early_open", none), "early_open", "early_open", defArgs s_early_open, defBody s_early_open, defScope s_early_open, [], []⟩
def dD_need_causal : He.DefD := ⟨("need_causal", none), "need_causal", "need_causal", defArgs s_need_causal, defBody s_need_causal, defScope s_need_causal, [], []⟩
def dD_closed_of : He.DefD := ⟨("closed_of", none), "closed_of", "closed_of", defArgs s_closed_of, defBody s_closed_of, defScope s_closed_of, [], []⟩
def dD_sent_before : He.DefD := ⟨("sent_before", none), "sent_before", "sent_before", defArgs s_sent_before, defBody s_sent_before, defScope s_sent_before, [], []⟩
def dD_next_opens : He.DefD := ⟨("next_opens", none), "next_opens", "next_opens", defArgs s_next_opens, defBody s_next_opens, defScope s_next_opens, [], []⟩
def dD_closed_messages : He.DefD := ⟨("closed_messages", none), "closed_messages", "closed_messages", defArgs s_closed_messages, defBody s_closed_messages, defScope s_closed_messages, [], []⟩
def dD__law_jar : He.DefD := ⟨("_law_jar", none), "_law_jar", "_law_jar", defArgs s__law_jar, defBody s__law_jar, defScope s__law_jar, [], []⟩
def dD__law_pick : He.DefD := ⟨("_law_pick", none), "_law_pick", "_law_pick", defArgs s__law_pick, defBody s__law_pick, defScope s__law_pick, [], []⟩
def dD__law_folk : He.DefD := ⟨("_law_folk", none), "_law_folk", "_law_folk", defArgs s__law_folk, defBody s__law_folk, defScope s__law_folk, [], []⟩
def dD__law_some : He.DefD := ⟨("_law_some", none), "_law_some", "_law_some", defArgs s__law_some, defBody s__law_some, defScope s__law_some, [], []⟩
def dD__law_told : He.DefD := ⟨("_law_told", none), "_law_told", "_law_told", defArgs s__law_told, defBody s__law_told, defScope s__law_told, [], []⟩
def dD__law_sent : He.DefD := ⟨("_law_sent", none), "_law_sent", "_law_sent", defArgs s__law_sent, defBody s__law_sent, defScope s__law_sent, [], []⟩
def dD__law_opened : He.DefD := ⟨("_law_opened", none), "_law_opened", "_law_opened", defArgs s__law_opened, defBody s__law_opened, defScope s__law_opened, [], []⟩
def dD__law_first : He.DefD := ⟨("_law_first", none), "_law_first", "_law_first", defArgs s__law_first, defBody s__law_first, defScope s__law_first, [], []⟩
def dD__law_closed : He.DefD := ⟨("_law_closed", none), "_law_closed", "_law_closed", defArgs s__law_closed, defBody s__law_closed, defScope s__law_closed, [], []⟩
def dD__law_lived : He.DefD := ⟨("_law_lived", none), "_law_lived", "_law_lived", defArgs s__law_lived, defBody s__law_lived, defScope s__law_lived, [], []⟩
def dD__law_right : He.DefD := ⟨("_law_right", none), "_law_right", "_law_right", defArgs s__law_right, defBody s__law_right, defScope s__law_right, [], []⟩
def dD_law : He.DefD := ⟨("law", none), "law", "law", defArgs s_law, defBody s_law, defScope s_law, [], []⟩
def fnL0 : List He.DefD := [dD_is_name, dD_is_ascending, dD_is_number, dD_is_nodes, dD_need_nodes, dD_is_node, dD_need_node, dD_is_receivers, dD_is_message, dD_is_event, dD_is_run, dD_need_run, dD_send_spots, dD_all_messages, dD_predecessors, dD_closure, dD_early_open, dD_need_causal, dD_closed_of, dD_sent_before, dD_next_opens, dD_closed_messages, dD__law_jar, dD__law_pick, dD__law_folk, dD__law_some, dD__law_told, dD__law_sent, dD__law_opened, dD__law_first]
def fnL1 : List He.DefD := [dD__law_closed, dD__law_lived, dD__law_right, dD_law]
def fnL : List He.DefD := fnL0 ++ fnL1
def faL0 : List He.Fa := [.glo "is_name", .glo "is_ascending", .glo "is_number", .glo "is_nodes", .glo "need_nodes", .glo "is_node", .glo "need_node", .glo "is_receivers", .glo "is_message", .glo "is_event", .glo "is_run", .glo "need_run", .glo "send_spots", .glo "all_messages", .glo "predecessors", .glo "closure", .glo "early_open", .glo "need_causal", .glo "closed_of", .glo "sent_before", .glo "next_opens", .glo "closed_messages", .glo "_law_jar", .glo "_law_pick", .glo "_law_folk", .glo "_law_some", .glo "_law_told", .glo "_law_sent", .glo "_law_opened", .glo "_law_first"]
def faL1 : List He.Fa := [.glo "_law_closed", .glo "_law_lived", .glo "_law_right", .glo "law", .str "LETTERS" "abcdefghijklmnopqrstuvwxyz", .int "MAX_LETTERS" 8, .int "MAX_NODES" 12, .int "MIN_NODES" 2, .str "OPEN" "open", .str "SEND" "send", .free "abs", .free "all", .free "bool", .free "dict", .free "enumerate", .free "int", .free "isinstance", .free "len", .free "list", .free "max", .free "min", .free "range", .free "repr", .free "sorted", .free "str", .free "tuple", .free "zip"]
def faL : List He.Fa := faL0 ++ faL1
def loose0 : List Str := ["WaitError", "InvalidNodes", "InvalidRun", "UnknownNode", "NotCausal", "LETTERS", "MAX_LETTERS", "MIN_NODES", "MAX_NODES", "SEND", "OPEN", "is_name", "is_ascending", "is_number", "is_nodes", "need_nodes", "is_node", "need_node", "is_receivers", "is_message", "is_event", "is_run", "need_run", "send_spots", "all_messages", "predecessors", "closure", "early_open", "need_causal", "closed_of"]
def loose1 : List Str := ["sent_before", "next_opens", "closed_messages", "_law_jar", "_law_pick", "_law_folk", "_law_some", "_law_told", "_law_sent", "_law_opened", "_law_first", "_law_closed", "_law_lived", "_law_right"]
def loose : List Str := loose0 ++ loose1
abbrev R : PySem.W.OpenRow := PySem.W.OpenLaw.row PySem.Challenge.rw_waitlists_k52_closed_messages_and_opens
abbrev hk : PySem.W.Hook := He.hookD 4 faL fnL
def obT (s : PySem.W.SharedT) : He.AlD := He.obsDG 4 faL fnL (HandSHeadRun.getT s)
theorem obT_eq (s : PySem.W.SharedT) : obT s = hk.obs s.abs := He.obsDG_eq (HandSHeadRun.getT_eq s)
theorem run (w : World) : HandSHeadRun.RunEq R (PySem.W.view R.prog [49]) hk obT 6000 loose w := by
  intro os
  kernel_rfl
section
variable {P : Program} {w : World} {K : PySem.W.Frag} {h : Heap} {mg : Str → Option Value} {base : Heap} {Θ : Nat → ObSem}
theorem fx (X : K.In h) (G : h.Ns mainGlobals mg) (c : He.SaysD faL fnL K) : Fx mg where
  c_LETTERS := He.str_ok X G (c.fact 34 (f := .str "LETTERS" "abcdefghijklmnopqrstuvwxyz") rfl)
  c_MAX_LETTERS := He.int_ok X G (c.fact 35 (f := .int "MAX_LETTERS" 8) rfl)
  c_MAX_NODES := He.int_ok X G (c.fact 36 (f := .int "MAX_NODES" 12) rfl)
  c_MIN_NODES := He.int_ok X G (c.fact 37 (f := .int "MIN_NODES" 2) rfl)
  c_OPEN := He.str_ok X G (c.fact 38 (f := .str "OPEN" "open") rfl)
  c_SEND := He.str_ok X G (c.fact 39 (f := .str "SEND" "send") rfl)
  n_abs := He.free_ok X G (c.fact 40 (f := .free "abs") rfl)
  n_all := He.free_ok X G (c.fact 41 (f := .free "all") rfl)
  n_bool := He.free_ok X G (c.fact 42 (f := .free "bool") rfl)
  n_dict := He.free_ok X G (c.fact 43 (f := .free "dict") rfl)
  n_enumerate := He.free_ok X G (c.fact 44 (f := .free "enumerate") rfl)
  n_int := He.free_ok X G (c.fact 45 (f := .free "int") rfl)
  n_isinstance := He.free_ok X G (c.fact 46 (f := .free "isinstance") rfl)
  n_len := He.free_ok X G (c.fact 47 (f := .free "len") rfl)
  n_list := He.free_ok X G (c.fact 48 (f := .free "list") rfl)
  n_max := He.free_ok X G (c.fact 49 (f := .free "max") rfl)
  n_min := He.free_ok X G (c.fact 50 (f := .free "min") rfl)
  n_range := He.free_ok X G (c.fact 51 (f := .free "range") rfl)
  n_repr := He.free_ok X G (c.fact 52 (f := .free "repr") rfl)
  n_sorted := He.free_ok X G (c.fact 53 (f := .free "sorted") rfl)
  n_str := He.free_ok X G (c.fact 54 (f := .free "str") rfl)
  n_tuple := He.free_ok X G (c.fact 55 (f := .free "tuple") rfl)
  n_zip := He.free_ok X G (c.fact 56 (f := .free "zip") rfl)
theorem at_is_name (X : K.In h) (G : h.Ns mainGlobals mg) (c : He.SaysD faL fnL K) (hS : AllS P w Θ shp) : FnAt P w K mg base Θ "is_name" 2 1 f_is_name := by
  obtain ⟨fd, D⟩ := c.def_ 0 (d := dD_is_name) rfl
  exact ⟨⟨He.fAd K ("is_name", none), fd, ["value"], He.glo_ok X G (c.fact 0 (f := .glo "is_name") rfl), D.kp, D.bindsN (ps := ["value"]) (fun _ _ _ _ _ _ us hl => match us, hl with | [_], _ => rfl), k_is_name D (fx X G c) hS⟩⟩
theorem at_is_ascending (X : K.In h) (G : h.Ns mainGlobals mg) (c : He.SaysD faL fnL K) (hS : AllS P w Θ shp) : FnAt P w K mg base Θ "is_ascending" 2 1 f_is_ascending := by
  obtain ⟨fd, D⟩ := c.def_ 1 (d := dD_is_ascending) rfl
  exact ⟨⟨He.fAd K ("is_ascending", none), fd, ["values"], He.glo_ok X G (c.fact 1 (f := .glo "is_ascending") rfl), D.kp, D.bindsN (ps := ["values"]) (fun _ _ _ _ _ _ us hl => match us, hl with | [_], _ => rfl), k_is_ascending D (fx X G c) hS⟩⟩
theorem at_is_number (X : K.In h) (G : h.Ns mainGlobals mg) (c : He.SaysD faL fnL K) (hS : AllS P w Θ shp) : FnAt P w K mg base Θ "is_number" 2 2 f_is_number := by
  obtain ⟨fd, D⟩ := c.def_ 2 (d := dD_is_number) rfl
  exact ⟨⟨He.fAd K ("is_number", none), fd, ["value", "least"], He.glo_ok X G (c.fact 2 (f := .glo "is_number") rfl), D.kp, D.bindsN (ps := ["value", "least"]) (fun _ _ _ _ _ _ us hl => match us, hl with | [_, _], _ => rfl), k_is_number D (fx X G c) hS⟩⟩
theorem at_is_nodes (X : K.In h) (G : h.Ns mainGlobals mg) (c : He.SaysD faL fnL K) (hS : AllS P w Θ shp) : FnAt P w K mg base Θ "is_nodes" 3 1 f_is_nodes := by
  obtain ⟨fd, D⟩ := c.def_ 3 (d := dD_is_nodes) rfl
  exact ⟨⟨He.fAd K ("is_nodes", none), fd, ["value"], He.glo_ok X G (c.fact 3 (f := .glo "is_nodes") rfl), D.kp, D.bindsN (ps := ["value"]) (fun _ _ _ _ _ _ us hl => match us, hl with | [_], _ => rfl), k_is_nodes D (fx X G c) ⟨at_is_name X G c hS, at_is_ascending X G c hS⟩ hS⟩⟩
theorem at_need_nodes (X : K.In h) (G : h.Ns mainGlobals mg) (c : He.SaysD faL fnL K) (hS : AllS P w Θ shp) : FnAt P w K mg base Θ "need_nodes" 4 1 f_need_nodes := by
  obtain ⟨fd, D⟩ := c.def_ 4 (d := dD_need_nodes) rfl
  exact ⟨⟨He.fAd K ("need_nodes", none), fd, ["nodes"], He.glo_ok X G (c.fact 4 (f := .glo "need_nodes") rfl), D.kp, D.bindsN (ps := ["nodes"]) (fun _ _ _ _ _ _ us hl => match us, hl with | [_], _ => rfl), k_need_nodes D (fx X G c) ⟨at_is_nodes X G c hS⟩ hS⟩⟩
theorem at_is_node (X : K.In h) (G : h.Ns mainGlobals mg) (c : He.SaysD faL fnL K) (hS : AllS P w Θ shp) : FnAt P w K mg base Θ "is_node" 2 2 f_is_node := by
  obtain ⟨fd, D⟩ := c.def_ 5 (d := dD_is_node) rfl
  exact ⟨⟨He.fAd K ("is_node", none), fd, ["nodes", "value"], He.glo_ok X G (c.fact 5 (f := .glo "is_node") rfl), D.kp, D.bindsN (ps := ["nodes", "value"]) (fun _ _ _ _ _ _ us hl => match us, hl with | [_, _], _ => rfl), k_is_node D (fx X G c) hS⟩⟩
theorem at_need_node (X : K.In h) (G : h.Ns mainGlobals mg) (c : He.SaysD faL fnL K) (hS : AllS P w Θ shp) : FnAt P w K mg base Θ "need_node" 3 2 f_need_node := by
  obtain ⟨fd, D⟩ := c.def_ 6 (d := dD_need_node) rfl
  exact ⟨⟨He.fAd K ("need_node", none), fd, ["nodes", "node"], He.glo_ok X G (c.fact 6 (f := .glo "need_node") rfl), D.kp, D.bindsN (ps := ["nodes", "node"]) (fun _ _ _ _ _ _ us hl => match us, hl with | [_, _], _ => rfl), k_need_node D (fx X G c) ⟨at_is_node X G c hS⟩ hS⟩⟩
theorem at_is_receivers (X : K.In h) (G : h.Ns mainGlobals mg) (c : He.SaysD faL fnL K) (hS : AllS P w Θ shp) : FnAt P w K mg base Θ "is_receivers" 3 3 f_is_receivers := by
  obtain ⟨fd, D⟩ := c.def_ 7 (d := dD_is_receivers) rfl
  exact ⟨⟨He.fAd K ("is_receivers", none), fd, ["nodes", "node", "value"], He.glo_ok X G (c.fact 7 (f := .glo "is_receivers") rfl), D.kp, D.bindsN (ps := ["nodes", "node", "value"]) (fun _ _ _ _ _ _ us hl => match us, hl with | [_, _, _], _ => rfl), k_is_receivers D (fx X G c) ⟨at_is_ascending X G c hS, at_is_node X G c hS⟩ hS⟩⟩
theorem at_is_message (X : K.In h) (G : h.Ns mainGlobals mg) (c : He.SaysD faL fnL K) (hS : AllS P w Θ shp) : FnAt P w K mg base Θ "is_message" 3 2 f_is_message := by
  obtain ⟨fd, D⟩ := c.def_ 8 (d := dD_is_message) rfl
  exact ⟨⟨He.fAd K ("is_message", none), fd, ["nodes", "value"], He.glo_ok X G (c.fact 8 (f := .glo "is_message") rfl), D.kp, D.bindsN (ps := ["nodes", "value"]) (fun _ _ _ _ _ _ us hl => match us, hl with | [_, _], _ => rfl), k_is_message D (fx X G c) ⟨at_is_number X G c hS, at_is_node X G c hS⟩ hS⟩⟩
theorem at_is_event (X : K.In h) (G : h.Ns mainGlobals mg) (c : He.SaysD faL fnL K) (hS : AllS P w Θ shp) : FnAt P w K mg base Θ "is_event" 3 3 f_is_event := by
  obtain ⟨fd, D⟩ := c.def_ 9 (d := dD_is_event) rfl
  exact ⟨⟨He.fAd K ("is_event", none), fd, ["nodes", "value", "kind"], He.glo_ok X G (c.fact 9 (f := .glo "is_event") rfl), D.kp, D.bindsN (ps := ["nodes", "value", "kind"]) (fun _ _ _ _ _ _ us hl => match us, hl with | [_, _, _], _ => rfl), k_is_event D (fx X G c) ⟨at_is_node X G c hS⟩ hS⟩⟩
theorem at_is_run (X : K.In h) (G : h.Ns mainGlobals mg) (c : He.SaysD faL fnL K) (hS : AllS P w Θ shp) : FnAt P w K mg base Θ "is_run" 5 2 f_is_run := by
  obtain ⟨fd, D⟩ := c.def_ 10 (d := dD_is_run) rfl
  exact ⟨⟨He.fAd K ("is_run", none), fd, ["nodes", "value"], He.glo_ok X G (c.fact 10 (f := .glo "is_run") rfl), D.kp, D.bindsN (ps := ["nodes", "value"]) (fun _ _ _ _ _ _ us hl => match us, hl with | [_, _], _ => rfl), k_is_run D (fx X G c) ⟨at_need_nodes X G c hS, at_is_receivers X G c hS, at_is_message X G c hS, at_is_event X G c hS⟩ hS⟩⟩
theorem at_need_run (X : K.In h) (G : h.Ns mainGlobals mg) (c : He.SaysD faL fnL K) (hS : AllS P w Θ shp) : FnAt P w K mg base Θ "need_run" 6 2 f_need_run := by
  obtain ⟨fd, D⟩ := c.def_ 11 (d := dD_need_run) rfl
  exact ⟨⟨He.fAd K ("need_run", none), fd, ["nodes", "run"], He.glo_ok X G (c.fact 11 (f := .glo "need_run") rfl), D.kp, D.bindsN (ps := ["nodes", "run"]) (fun _ _ _ _ _ _ us hl => match us, hl with | [_, _], _ => rfl), k_need_run D (fx X G c) ⟨at_is_run X G c hS⟩ hS⟩⟩
theorem at_send_spots (X : K.In h) (G : h.Ns mainGlobals mg) (c : He.SaysD faL fnL K) (hS : AllS P w Θ shp) : FnAt P w K mg base Θ "send_spots" 2 1 f_send_spots := by
  obtain ⟨fd, D⟩ := c.def_ 12 (d := dD_send_spots) rfl
  exact ⟨⟨He.fAd K ("send_spots", none), fd, ["run"], He.glo_ok X G (c.fact 12 (f := .glo "send_spots") rfl), D.kp, D.bindsN (ps := ["run"]) (fun _ _ _ _ _ _ us hl => match us, hl with | [_], _ => rfl), k_send_spots D (fx X G c) hS⟩⟩
theorem at_all_messages (X : K.In h) (G : h.Ns mainGlobals mg) (c : He.SaysD faL fnL K) (hS : AllS P w Θ shp) : FnAt P w K mg base Θ "all_messages" 3 1 f_all_messages := by
  obtain ⟨fd, D⟩ := c.def_ 13 (d := dD_all_messages) rfl
  exact ⟨⟨He.fAd K ("all_messages", none), fd, ["run"], He.glo_ok X G (c.fact 13 (f := .glo "all_messages") rfl), D.kp, D.bindsN (ps := ["run"]) (fun _ _ _ _ _ _ us hl => match us, hl with | [_], _ => rfl), k_all_messages D (fx X G c) ⟨at_send_spots X G c hS⟩ hS⟩⟩
theorem at_predecessors (X : K.In h) (G : h.Ns mainGlobals mg) (c : He.SaysD faL fnL K) (hS : AllS P w Θ shp) : FnAt P w K mg base Θ "predecessors" 3 1 f_predecessors := by
  obtain ⟨fd, D⟩ := c.def_ 14 (d := dD_predecessors) rfl
  exact ⟨⟨He.fAd K ("predecessors", none), fd, ["run"], He.glo_ok X G (c.fact 14 (f := .glo "predecessors") rfl), D.kp, D.bindsN (ps := ["run"]) (fun _ _ _ _ _ _ us hl => match us, hl with | [_], _ => rfl), k_predecessors D (fx X G c) ⟨at_send_spots X G c hS⟩ hS⟩⟩
theorem at_closure (X : K.In h) (G : h.Ns mainGlobals mg) (c : He.SaysD faL fnL K) (hS : AllS P w Θ shp) : FnAt P w K mg base Θ "closure" 4 1 f_closure := by
  obtain ⟨fd, D⟩ := c.def_ 15 (d := dD_closure) rfl
  exact ⟨⟨He.fAd K ("closure", none), fd, ["run"], He.glo_ok X G (c.fact 15 (f := .glo "closure") rfl), D.kp, D.bindsN (ps := ["run"]) (fun _ _ _ _ _ _ us hl => match us, hl with | [_], _ => rfl), k_closure D (fx X G c) ⟨at_predecessors X G c hS⟩ hS⟩⟩
theorem at_early_open (X : K.In h) (G : h.Ns mainGlobals mg) (c : He.SaysD faL fnL K) (hS : AllS P w Θ shp) : FnAt P w K mg base Θ "early_open" 5 1 f_early_open := by
  obtain ⟨fd, D⟩ := c.def_ 16 (d := dD_early_open) rfl
  exact ⟨⟨He.fAd K ("early_open", none), fd, ["run"], He.glo_ok X G (c.fact 16 (f := .glo "early_open") rfl), D.kp, D.bindsN (ps := ["run"]) (fun _ _ _ _ _ _ us hl => match us, hl with | [_], _ => rfl), k_early_open D (fx X G c) ⟨at_send_spots X G c hS, at_all_messages X G c hS, at_closure X G c hS⟩ hS⟩⟩
theorem at_need_causal (X : K.In h) (G : h.Ns mainGlobals mg) (c : He.SaysD faL fnL K) (hS : AllS P w Θ shp) : FnAt P w K mg base Θ "need_causal" 7 2 f_need_causal := by
  obtain ⟨fd, D⟩ := c.def_ 17 (d := dD_need_causal) rfl
  exact ⟨⟨He.fAd K ("need_causal", none), fd, ["nodes", "run"], He.glo_ok X G (c.fact 17 (f := .glo "need_causal") rfl), D.kp, D.bindsN (ps := ["nodes", "run"]) (fun _ _ _ _ _ _ us hl => match us, hl with | [_, _], _ => rfl), k_need_causal D (fx X G c) ⟨at_need_run X G c hS, at_early_open X G c hS⟩ hS⟩⟩
theorem at_closed_of (X : K.In h) (G : h.Ns mainGlobals mg) (c : He.SaysD faL fnL K) (hS : AllS P w Θ shp) : FnAt P w K mg base Θ "closed_of" 4 2 f_closed_of := by
  obtain ⟨fd, D⟩ := c.def_ 18 (d := dD_closed_of) rfl
  exact ⟨⟨He.fAd K ("closed_of", none), fd, ["run", "node"], He.glo_ok X G (c.fact 18 (f := .glo "closed_of") rfl), D.kp, D.bindsN (ps := ["run", "node"]) (fun _ _ _ _ _ _ us hl => match us, hl with | [_, _], _ => rfl), k_closed_of D (fx X G c) ⟨at_all_messages X G c hS⟩ hS⟩⟩
theorem at_sent_before (X : K.In h) (G : h.Ns mainGlobals mg) (c : He.SaysD faL fnL K) (hS : AllS P w Θ shp) : FnAt P w K mg base Θ "sent_before" 5 2 f_sent_before := by
  obtain ⟨fd, D⟩ := c.def_ 19 (d := dD_sent_before) rfl
  exact ⟨⟨He.fAd K ("sent_before", none), fd, ["run", "messages"], He.glo_ok X G (c.fact 19 (f := .glo "sent_before") rfl), D.kp, D.bindsN (ps := ["run", "messages"]) (fun _ _ _ _ _ _ us hl => match us, hl with | [_, _], _ => rfl), k_sent_before D (fx X G c) ⟨at_send_spots X G c hS, at_closure X G c hS⟩ hS⟩⟩
theorem at_next_opens (X : K.In h) (G : h.Ns mainGlobals mg) (c : He.SaysD faL fnL K) (hS : AllS P w Θ shp) : FnAt P w K mg base Θ "next_opens" 8 2 f_next_opens := by
  obtain ⟨fd, D⟩ := c.def_ 20 (d := dD_next_opens) rfl
  exact ⟨⟨He.fAd K ("next_opens", none), fd, ["nodes", "run"], He.glo_ok X G (c.fact 20 (f := .glo "next_opens") rfl), D.kp, D.bindsN (ps := ["nodes", "run"]) (fun _ _ _ _ _ _ us hl => match us, hl with | [_, _], _ => rfl), k_next_opens D (fx X G c) ⟨at_need_causal X G c hS, at_closed_of X G c hS, at_sent_before X G c hS⟩ hS⟩⟩
theorem at_closed_messages (X : K.In h) (G : h.Ns mainGlobals mg) (c : He.SaysD faL fnL K) (hS : AllS P w Θ shp) : FnAt P w K mg base Θ "closed_messages" 8 3 f_closed_messages := by
  obtain ⟨fd, D⟩ := c.def_ 21 (d := dD_closed_messages) rfl
  exact ⟨⟨He.fAd K ("closed_messages", none), fd, ["nodes", "run", "node"], He.glo_ok X G (c.fact 21 (f := .glo "closed_messages") rfl), D.kp, D.bindsN (ps := ["nodes", "run", "node"]) (fun _ _ _ _ _ _ us hl => match us, hl with | [_, _, _], _ => rfl), k_closed_messages D (fx X G c) ⟨at_need_node X G c hS, at_need_causal X G c hS, at_closed_of X G c hS⟩ hS⟩⟩
theorem at__law_jar (X : K.In h) (G : h.Ns mainGlobals mg) (c : He.SaysD faL fnL K) (hS : AllS P w Θ shp) : FnAt P w K mg base Θ "_law_jar" 2 2 f__law_jar := by
  obtain ⟨fd, D⟩ := c.def_ 22 (d := dD__law_jar) rfl
  exact ⟨⟨He.fAd K ("_law_jar", none), fd, ["script", "k"], He.glo_ok X G (c.fact 22 (f := .glo "_law_jar") rfl), D.kp, D.bindsN (ps := ["script", "k"]) (fun _ _ _ _ _ _ us hl => match us, hl with | [_, _], _ => rfl), k__law_jar D (fx X G c) hS⟩⟩
theorem at__law_pick (X : K.In h) (G : h.Ns mainGlobals mg) (c : He.SaysD faL fnL K) (hS : AllS P w Θ shp) : FnAt P w K mg base Θ "_law_pick" 2 2 f__law_pick := by
  obtain ⟨fd, D⟩ := c.def_ 23 (d := dD__law_pick) rfl
  exact ⟨⟨He.fAd K ("_law_pick", none), fd, ["jar", "many"], He.glo_ok X G (c.fact 23 (f := .glo "_law_pick") rfl), D.kp, D.bindsN (ps := ["jar", "many"]) (fun _ _ _ _ _ _ us hl => match us, hl with | [_, _], _ => rfl), k__law_pick D (fx X G c) hS⟩⟩
theorem at__law_folk (X : K.In h) (G : h.Ns mainGlobals mg) (c : He.SaysD faL fnL K) (hS : AllS P w Θ shp) : FnAt P w K mg base Θ "_law_folk" 3 2 f__law_folk := by
  obtain ⟨fd, D⟩ := c.def_ 24 (d := dD__law_folk) rfl
  exact ⟨⟨He.fAd K ("_law_folk", none), fd, ["jar", "most"], He.glo_ok X G (c.fact 24 (f := .glo "_law_folk") rfl), D.kp, D.bindsN (ps := ["jar", "most"]) (fun _ _ _ _ _ _ us hl => match us, hl with | [_, _], _ => rfl), k__law_folk D (fx X G c) ⟨at__law_pick X G c hS⟩ hS⟩⟩
theorem at__law_some (X : K.In h) (G : h.Ns mainGlobals mg) (c : He.SaysD faL fnL K) (hS : AllS P w Θ shp) : FnAt P w K mg base Θ "_law_some" 3 3 f__law_some := by
  obtain ⟨fd, D⟩ := c.def_ 25 (d := dD__law_some) rfl
  exact ⟨⟨He.fAd K ("_law_some", none), fd, ["jar", "nodes", "node"], He.glo_ok X G (c.fact 25 (f := .glo "_law_some") rfl), D.kp, D.bindsN (ps := ["jar", "nodes", "node"]) (fun _ _ _ _ _ _ us hl => match us, hl with | [_, _, _], _ => rfl), k__law_some D (fx X G c) ⟨at__law_pick X G c hS⟩ hS⟩⟩
theorem at__law_told (X : K.In h) (G : h.Ns mainGlobals mg) (c : He.SaysD faL fnL K) (hS : AllS P w Θ shp) : FnAt P w K mg base Θ "_law_told" 2 1 f__law_told := by
  obtain ⟨fd, D⟩ := c.def_ 26 (d := dD__law_told) rfl
  exact ⟨⟨He.fAd K ("_law_told", none), fd, ["nodes"], He.glo_ok X G (c.fact 26 (f := .glo "_law_told") rfl), D.kp, D.bindsN (ps := ["nodes"]) (fun _ _ _ _ _ _ us hl => match us, hl with | [_], _ => rfl), k__law_told D (fx X G c) hS⟩⟩
theorem at__law_sent (X : K.In h) (G : h.Ns mainGlobals mg) (c : He.SaysD faL fnL K) (hS : AllS P w Θ shp) : FnAt P w K mg base Θ "_law_sent" 2 3 f__law_sent := by
  obtain ⟨fd, D⟩ := c.def_ 27 (d := dD__law_sent) rfl
  exact ⟨⟨He.fAd K ("_law_sent", none), fd, ["state", "node", "receivers"], He.glo_ok X G (c.fact 27 (f := .glo "_law_sent") rfl), D.kp, D.bindsN (ps := ["state", "node", "receivers"]) (fun _ _ _ _ _ _ us hl => match us, hl with | [_, _, _], _ => rfl), k__law_sent D (fx X G c) hS⟩⟩
theorem at__law_opened (X : K.In h) (G : h.Ns mainGlobals mg) (c : He.SaysD faL fnL K) (hS : AllS P w Θ shp) : FnAt P w K mg base Θ "_law_opened" 2 3 f__law_opened := by
  obtain ⟨fd, D⟩ := c.def_ 28 (d := dD__law_opened) rfl
  exact ⟨⟨He.fAd K ("_law_opened", none), fd, ["state", "node", "message"], He.glo_ok X G (c.fact 28 (f := .glo "_law_opened") rfl), D.kp, D.bindsN (ps := ["state", "node", "message"]) (fun _ _ _ _ _ _ us hl => match us, hl with | [_, _, _], _ => rfl), k__law_opened D (fx X G c) hS⟩⟩
theorem at__law_first (X : K.In h) (G : h.Ns mainGlobals mg) (c : He.SaysD faL fnL K) (hS : AllS P w Θ shp) : FnAt P w K mg base Θ "_law_first" 2 3 f__law_first := by
  obtain ⟨fd, D⟩ := c.def_ 29 (d := dD__law_first) rfl
  exact ⟨⟨He.fAd K ("_law_first", none), fd, ["state", "node", "message"], He.glo_ok X G (c.fact 29 (f := .glo "_law_first") rfl), D.kp, D.bindsN (ps := ["state", "node", "message"]) (fun _ _ _ _ _ _ us hl => match us, hl with | [_, _, _], _ => rfl), k__law_first D (fx X G c) hS⟩⟩
theorem at__law_closed (X : K.In h) (G : h.Ns mainGlobals mg) (c : He.SaysD faL fnL K) (hS : AllS P w Θ shp) : FnAt P w K mg base Θ "_law_closed" 2 2 f__law_closed := by
  obtain ⟨fd, D⟩ := c.def_ 30 (d := dD__law_closed) rfl
  exact ⟨⟨He.fAd K ("_law_closed", none), fd, ["state", "node"], He.glo_ok X G (c.fact 30 (f := .glo "_law_closed") rfl), D.kp, D.bindsN (ps := ["state", "node"]) (fun _ _ _ _ _ _ us hl => match us, hl with | [_, _], _ => rfl), k__law_closed D (fx X G c) hS⟩⟩
theorem at__law_lived (X : K.In h) (G : h.Ns mainGlobals mg) (c : He.SaysD faL fnL K) (hS : AllS P w Θ shp) : FnAt P w K mg base Θ "_law_lived" 4 3 f__law_lived := by
  obtain ⟨fd, D⟩ := c.def_ 31 (d := dD__law_lived) rfl
  exact ⟨⟨He.fAd K ("_law_lived", none), fd, ["jar", "nodes", "many"], He.glo_ok X G (c.fact 31 (f := .glo "_law_lived") rfl), D.kp, D.bindsN (ps := ["jar", "nodes", "many"]) (fun _ _ _ _ _ _ us hl => match us, hl with | [_, _, _], _ => rfl), k__law_lived D (fx X G c) ⟨at__law_pick X G c hS, at__law_some X G c hS, at__law_told X G c hS, at__law_sent X G c hS, at__law_opened X G c hS, at__law_first X G c hS, at__law_closed X G c hS⟩ hS⟩⟩
theorem at__law_right (X : K.In h) (G : h.Ns mainGlobals mg) (c : He.SaysD faL fnL K) (hS : AllS P w Θ shp) : FnAt P w K mg base Θ "_law_right" 9 2 f__law_right := by
  obtain ⟨fd, D⟩ := c.def_ 32 (d := dD__law_right) rfl
  exact ⟨⟨He.fAd K ("_law_right", none), fd, ["nodes", "state"], He.glo_ok X G (c.fact 32 (f := .glo "_law_right") rfl), D.kp, D.bindsN (ps := ["nodes", "state"]) (fun _ _ _ _ _ _ us hl => match us, hl with | [_, _], _ => rfl), k__law_right D (fx X G c) ⟨at_next_opens X G c hS, at_closed_messages X G c hS, at__law_first X G c hS, at__law_closed X G c hS⟩ hS⟩⟩
end
theorem facts {P : Program} {w : World} {K : PySem.W.Frag} {h : Heap} {mg : Str → Option Value} {Θ : Nat → ObSem} {f : Addr} (X : K.In h) (G : h.Ns mainGlobals mg) (hfa : mg ("law" : Str) = some (.ref f)) (c : He.SaysD faL fnL K) (hS : AllS P w Θ shp) :
    ∃ fd : FuncData, (∀ (s : Shared) (v : Value), BindsTo s fd ⟨[v], []⟩ [("script", v)]) ∧ ∀ base : Heap, K.In base → base.Ns mainGlobals mg → FnG P w K mg base (L2.CX P w) 10 f fd ["script"] (SpF P w K Θ 1 f_law) := by
  obtain ⟨fd, D⟩ := c.def_ 33 (d := dD_law) rfl
  have e := hfa.symm.trans (He.glo_ok X G (c.fact 33 (f := .glo "law") rfl))
  cases e
  have b := FunD.bindsA (ps := ["script"]) D fun _ _ _ _ _ _ us hl => match us, hl with | [_], _ => rfl
  exact ⟨fd, fun s v => b s [v] rfl, fun base _ _ => k_law D (fx X G c) ⟨at_next_opens X G c hS, at_closed_messages X G c hS, at__law_jar X G c hS, at__law_pick X G c hS, at__law_folk X G c hS, at__law_some X G c hS, at__law_sent X G c hS, at__law_lived X G c hS, at__law_right X G c hS⟩ hS⟩
end Lw
open PySem PySem.W PySem.Calls PyProof.Rows
theorem holds_of (plain : ∀ ns : List Int, ns.length ≤ 63 → ∃ outs, Lw.f_law [.sh (.list (ns.map .int))] = some (.ok (.sh (.bool true), outs))) : PySem.Challenge.rw_waitlists_k52_closed_messages_and_opens.Holds := by
  w_on; o_law
  refine HandSHeadRun.head_any (r := OpenLaw.row PySem.Challenge.rw_waitlists_k52_closed_messages_and_opens) (q := view (OpenLaw.row PySem.Challenge.rw_waitlists_k52_closed_messages_and_opens).prog [49]) (H := Lw.hk) (ob := Lw.obT) (M := 6000) (loose := Lw.loose) (d := HandSHeadRun.topDef (OpenLaw.row PySem.Challenge.rw_waitlists_k52_closed_messages_and_opens).prog 49) (kwd := []) Lw.obT_eq
    (by kernel_rfl) (fun s => by kernel_rfl) Lw.run (by kernel_rfl) (by kernel_rfl) (by kernel_rfl) (by rfl) (by first | assumption | decide +kernel) (by decide +kernel) ⟨rfl, rfl, rfl, rfl, rfl, by decide +kernel⟩ ?hw ?hc
  case hw => w_witness2
  case hc =>
    refine Wl.endG (l := PySem.Challenge.rw_waitlists_k52_closed_messages_and_opens) (n := 63) (k := 10) (x := "script") rfl (by decide) (by kernel_rfl) ⟨rfl, by decide, by decide⟩ ?F
    intro w mg fa h Y G hmg0
    obtain ⟨K, KX, c⟩ := Y
    have hmg : mg ("law" : PySem.Str) = some (.ref fa) := by
      have e : (HandSHeadRun.topDef (OpenLaw.row PySem.Challenge.rw_waitlists_k52_closed_messages_and_opens).prog 49).name = ("law" : PySem.Str) := by kernel_rfl
      rw [← e]
      exact hmg0
    obtain ⟨fd, hb, hF⟩ := Lw.facts (P := (PySem.Challenge.rw_waitlists_k52_closed_messages_and_opens).prog) (w := w) (Θ := fun τ => Wl.tSem (PySem.Challenge.rw_waitlists_k52_closed_messages_and_opens).prog w (Lw.shp τ)) KX G hmg c (fun _ => rfl)
    exact ⟨K, fd, _, KX, hb, fun H a ns hl hS => Wl.law_sp plain H a ns hl hS, hF⟩

open PySem PySem.W PyProof.Rows
theorem PySem.Challenge.cw_waitlists_k52_closed_messages_and_opens_holds : PySem.Challenge.rw_waitlists_k52_closed_messages_and_opens.Holds := by
  exact holds_of Lw.plain
