import PyProof.Rows.All
import Wide.All
import OpenK.AllK
import Wide.FinOn
import KE.KStateDown
import HandS.ForMost
import HandS.Exc
import HandS.TryOnly
import HandS.ExcOwn
import HandS.WordsExc
import HandS.More
import HandS.Defaults
import HandS.IsInst
import HandS.TupAny
import HandS.Wide
import KE.DataEq
import KE.DataCmp
import KE.SortData
import HandS.ExcIs
import HandS.HotCalls
import HandS.HeadHook1
import HandS.HeadHook2
import HandS.Text
import HandS.Style
import KE.IntBitsLaws
import HandS.Conv
import PyProof.LongRange
import HandS.Head0
import HandS.Head1
import HandS.Head2
import HandS.HeadEnd
import HandS.HeadHook3
import HandS.HeadHook4
import PySem.Challenge.RW_keelround_k03_whole_turns_come_round
set_option Elab.async false
set_option linter.all false
set_option maxRecDepth 100000
set_option maxHeartbeats 4100000
/-! J0: data over heaps, the state of a body by data, the judgements. -/
namespace KJ
open PySem PySem.Spec L2 PyProof.Rows
abbrev Pd := PyData
abbrev Fg := PySem.W.Frag
/-- all of H stands in H' -/
def Ex (H H' : Hp) : Prop := ∀ (a : Addr) (u : HO), H a = some u → H' a = some u
theorem Ex.rfl' (H : Hp) : Ex H H := fun _ _ h => h
theorem Ex.tr {A B C : Hp} (h : Ex A B) (k : Ex B C) : Ex A C := fun a o e => k a o (h a o e)
theorem Ex.nw {H : Hp} {p : Addr} {o : HO} (h : H p = none) : Ex H (upd H p o) := fun a u e => (upd_ne (ne_of_none e h)).trans e
theorem Ex.fr {H H' : Hp} (h : Ex H H') {p : Addr} (e : H' p = none) : H p = none := by
  cases q : H p with
  | none => rfl
  | some o => rw [h p o q] at e; cases e
theorem Ex.rd {H H' : Hp} (h : Ex H H') {a : Addr} {u : HO} (r : Rd H a u) : Rd H' a u := by
  rcases r with r | ⟨o, r⟩
  · exact .inl (h a _ r)
  · exact .inr ⟨o, h a _ r⟩
theorem Ex.sl {K : Fg} {H H' : Hp} (h : Ex H H') {a : Addr} {xs : List V} (r : SqL K H a xs) : SqL K H' a xs := r.imp (Ex.rd h) id
theorem Ex.st {K : Fg} {H H' : Hp} (h : Ex H H') {a : Addr} {xs : List V} (r : SqT K H a xs) : SqT K H' a xs := r.imp (Ex.rd h) id
/-- a key as data -/
def keyD : Key → Pd
  | .inl i => .int i
  | .inr s => .str s
mutual
/-- v stands for the data d in H -/
inductive Rp (K : Fg) (H : Hp) : V → Pd → Prop
  | non : Rp K H .non .none
  | bl (b : Bool) : Rp K H (.bl b) (.bool b)
  | int (i : Int) : Rp K H (.int i) (.int i)
  | str (x : Str) : Rp K H (.str x) (.str x)
  | lst {a : Addr} {xs : List V} {ds : List Pd} : H a = some (.lst xs) → RpA K H xs ds → Rp K H (.ref a) (.list ds)
  | tup {a : Addr} {xs : List V} {ds : List Pd} : SqT K H a xs → RpA K H xs ds → Rp K H (.ref a) (.tuple ds)
  | dic {a : Addr} {kvs : List (Key × V)} {ps : List (Pd × Pd)} : H a = some (.dK kvs) → RpK K H kvs ps → Rp K H (.ref a) (.dict ps)
  | dit {a : Addr} {kvs : List (List Key × V)} {ps : List (Pd × Pd)} : H a = some (.dT kvs) → RpT K H kvs ps → Rp K H (.ref a) (.dict ps)
inductive RpA (K : Fg) (H : Hp) : List V → List Pd → Prop
  | nil : RpA K H [] []
  | cons {v : V} {vs : List V} {d : Pd} {ds : List Pd} : Rp K H v d → RpA K H vs ds → RpA K H (v :: vs) (d :: ds)
inductive RpK (K : Fg) (H : Hp) : List (Key × V) → List (Pd × Pd) → Prop
  | nil : RpK K H [] []
  | cons {k : Key} {v : V} {vs : List (Key × V)} {d : Pd} {ds : List (Pd × Pd)} : Rp K H v d → RpK K H vs ds → RpK K H ((k, v) :: vs) ((keyD k, d) :: ds)
inductive RpT (K : Fg) (H : Hp) : List (List Key × V) → List (Pd × Pd) → Prop
  | nil : RpT K H [] []
  | cons {k : List Key} {v : V} {vs : List (List Key × V)} {d : Pd} {ds : List (Pd × Pd)} : Rp K H v d → RpT K H vs ds → RpT K H ((k, v) :: vs) ((.tuple (k.map keyD), d) :: ds)
end
mutual
theorem Rp.mono {K : Fg} {H H' : Hp} (h : Ex H H') : ∀ {v : V} {d : Pd}, Rp K H v d → Rp K H' v d
  | _, _, .non => .non
  | _, _, .bl b => .bl b
  | _, _, .int i => .int i
  | _, _, .str x => .str x
  | _, _, .lst q r => .lst (h _ _ q) (RpA.mono h r)
  | _, _, .tup q r => .tup (h.st q) (RpA.mono h r)
  | _, _, .dic q r => .dic (h _ _ q) (RpK.mono h r)
  | _, _, .dit q r => .dit (h _ _ q) (RpT.mono h r)
theorem RpA.mono {K : Fg} {H H' : Hp} (h : Ex H H') : ∀ {v : List V} {d : List Pd}, RpA K H v d → RpA K H' v d
  | _, _, .nil => .nil
  | _, _, .cons q r => .cons (Rp.mono h q) (RpA.mono h r)
theorem RpK.mono {K : Fg} {H H' : Hp} (h : Ex H H') : ∀ {v : List (Key × V)} {d : List (Pd × Pd)}, RpK K H v d → RpK K H' v d
  | _, _, .nil => .nil
  | _, _, .cons q r => .cons (Rp.mono h q) (RpK.mono h r)
theorem RpT.mono {K : Fg} {H H' : Hp} (h : Ex H H') : ∀ {v : List (List Key × V)} {d : List (Pd × Pd)}, RpT K H v d → RpT K H' v d
  | _, _, .nil => .nil
  | _, _, .cons q r => .cons (Rp.mono h q) (RpT.mono h r)
end
theorem RpA.len {K : Fg} {H : Hp} : ∀ {v : List V} {d : List Pd}, RpA K H v d → v.length = d.length
  | _, _, .nil => rfl
  | _, _, .cons _ r => by rw [List.length_cons, List.length_cons, RpA.len r]
theorem RpA.get {K : Fg} {H : Hp} : ∀ {v : List V} {d : List Pd} {i : Nat} {x : V}, RpA K H v d → v[i]? = some x → ∃ z, d[i]? = some z ∧ Rp K H x z
  | _, _, _, _, .nil, hz => by simp at hz
  | _, _, 0, _, .cons q _, e => by simp at e; subst e; exact ⟨_, rfl, q⟩
  | _, _, i + 1, x, .cons _ r, e => by
    obtain ⟨z, h1, h2⟩ := RpA.get (i := i) (x := x) r (by simpa using e)
    exact ⟨z, by simpa using h1, h2⟩
theorem RpA.getD {K : Fg} {H : Hp} : ∀ {v : List V} {d : List Pd} {i : Nat} {z : Pd}, RpA K H v d → d[i]? = some z → ∃ x, v[i]? = some x ∧ Rp K H x z
  | _, _, _, _, .nil, hz => by simp at hz
  | _, _, 0, _, .cons q _, e => by simp at e; subst e; exact ⟨_, rfl, q⟩
  | _, _, i + 1, x, .cons _ r, e => by
    obtain ⟨z, h1, h2⟩ := RpA.getD (i := i) r (by simpa using e)
    exact ⟨z, by simpa using h1, h2⟩
theorem RpA.app {K : Fg} {H : Hp} : ∀ {v v' : List V} {d d' : List Pd}, RpA K H v d → RpA K H v' d' → RpA K H (v ++ v') (d ++ d')
  | _, _, _, _, .nil, s => s
  | _, _, _, _, .cons q r, s => .cons q (RpA.app r s)
theorem RpA.one {K : Fg} {H : Hp} {v : V} {d : Pd} (h : Rp K H v d) : RpA K H [v] [d] := .cons h .nil
theorem RpA.take {K : Fg} {H : Hp} : ∀ {v : List V} {d : List Pd} (n : Nat), RpA K H v d → RpA K H (v.take n) (d.take n)
  | _, _, 0, _ => .nil
  | _, _, _ + 1, .nil => .nil
  | _, _, n + 1, .cons q r => .cons q (RpA.take n r)
theorem RpA.drop {K : Fg} {H : Hp} : ∀ {v : List V} {d : List Pd} (n : Nat), RpA K H v d → RpA K H (v.drop n) (d.drop n)
  | _, _, 0, h => h
  | _, _, _ + 1, .nil => .nil
  | _, _, n + 1, .cons _ r => RpA.drop n r
theorem RpA.set {K : Fg} {H : Hp} {x : V} {z : Pd} (h : Rp K H x z) : ∀ {v : List V} {d : List Pd} (i : Nat), RpA K H v d → RpA K H (v.set i x) (d.set i z)
  | _, _, _, .nil => .nil
  | _, _, 0, .cons _ r => .cons h r
  | _, _, i + 1, .cons q r => .cons q (RpA.set h i r)
theorem RpA.rev {K : Fg} {H : Hp} : ∀ {v : List V} {d : List Pd}, RpA K H v d → RpA K H v.reverse d.reverse
  | _, _, .nil => .nil
  | _, _, .cons q r => by
    simp only [List.reverse_cons]
    exact (RpA.rev r).app (.one q)
theorem RpA.ints {K : Fg} {H : Hp} : ∀ ns : List Int, RpA K H (ns.map V.int) (ns.map PyData.int)
  | [] => .nil
  | n :: r => .cons (.int n) (RpA.ints r)
/-- the values of ints are these -/
theorem RpA.of_ints {K : Fg} {H : Hp} : ∀ {v : List V} {ns : List Int}, RpA K H v (ns.map PyData.int) → v = ns.map V.int
  | [], [], _ => rfl
  | v :: vs, n :: r, .cons q t => by
    cases q
    rw [RpA.of_ints t]; rfl

/-! ### data without dicts, for the library's == -/
mutual
theorem Rp.dp {K : Fg} {H : Hp} : ∀ {v : V} {d : Pd}, Rp K H v d → d.plain = true → Dp K H v d
  | _, _, .non, _ => .non
  | _, _, .bl b, _ => .bl b
  | _, _, .int i, _ => .int i
  | _, _, .str x, _ => .str x
  | _, _, .lst q r, h => .lst (SqL.of q) (RpA.dp r h)
  | _, _, .tup q r, h => .tup q (RpA.dp r h)
theorem RpA.dp {K : Fg} {H : Hp} : ∀ {v : List V} {d : List Pd}, RpA K H v d → PyData.plainAll d = true → DpAll K H v d
  | _, _, .nil, _ => .nil
  | _, _, .cons q r, h => .cons (Rp.dp q (Bool.and_eq_true_iff.mp h).1) (RpA.dp r (Bool.and_eq_true_iff.mp h).2)
end

/-! ### slots and states -/
/-- something owned: where it lies, what it is of a heap -/
structure Box where
  fp : List Addr
  φ : Hp → Hp → V → Prop
  st : ∀ G H G' H' v, Ex G G' → (∀ a ∈ fp, H' a = H a) → φ G H v → φ G' H' v
/-- what a name holds: nothing told; data; an own list at a; an own dict at a; a thing that is owned; a value as it is -/
inductive Sl where
  | no
  | sh (d : Pd)
  | ow (a : Addr) (ds : List Pd)
  | od (a : Addr) (ps : List (Pd × Pd))
  | ob (B : Box)
  | vl (v : V)
  | sq (a : Addr) (xs : List V)
abbrev Rho := List (Str × Sl)
def RpD (K : Fg) (G : Hp) (o : HO) (ps : List (Pd × Pd)) : Prop := match o with
  | .dK kvs => RpK K G kvs ps
  | .dT kvs => RpT K G kvs ps
  | _ => False
theorem RpD.mono {K : Fg} {G G' : Hp} (h : Ex G G') {o : HO} {ps : List (Pd × Pd)} (r : RpD K G o ps) : RpD K G' o ps := by
  cases o with
  | dK kvs => exact RpK.mono h r
  | dT kvs => exact RpT.mono h r
  | _ => exact r
def fpS : Sl → List Addr
  | .ow a _ => [a]
  | .od a _ => [a]
  | .ob B => B.fp
  | _ => []
def fpR (ρ : Rho) : List Addr := ρ.flatMap fun p => fpS p.2
def SlOk (K : Fg) (G H : Hp) (o : Option V) : Sl → Prop
  | .no => True
  | .sh d => ∃ v, o = some v ∧ Rp K G v d
  | .ow a ds => o = some (.ref a) ∧ ∃ vs, H a = some (.lst vs) ∧ RpA K G vs ds
  | .od a ps => o = some (.ref a) ∧ ∃ u, H a = some u ∧ RpD K G u ps
  | .ob B => ∃ v, o = some v ∧ B.φ G H v
  | .vl v => o = some v
  | .sq a xs => o = some (.ref a) ∧ SqL K G a xs
theorem SlOk.mono {K : Fg} {G H G' H' : Hp} {o : Option V} {s : Sl} (g : Ex G G') (k : ∀ a ∈ fpS s, H' a = H a) (h : SlOk K G H o s) : SlOk K G' H' o s := by
  cases s with
  | no => trivial
  | sh d => obtain ⟨v, e, r⟩ := h; exact ⟨v, e, r.mono g⟩
  | ow a ds => obtain ⟨e, vs, q, r⟩ := h; exact ⟨e, vs, (k a (List.mem_singleton.mpr rfl)).trans q, r.mono g⟩
  | od a ps => obtain ⟨e, u, q, r⟩ := h; exact ⟨e, u, (k a (List.mem_singleton.mpr rfl)).trans q, r.mono g⟩
  | ob B => obtain ⟨v, e, r⟩ := h; exact ⟨v, e, B.st _ _ _ _ _ g k r⟩
  | vl v => exact h
  | sq a xs => exact ⟨h.1, g.sl h.2⟩
/-- G: what is data; H: all; G0, H0: as they were at the entry -/
structure Stt (K : Fg) (N : List Str) (G0 H0 G H : Hp) (σ : L2.St) (ρ : Rho) : Prop where
  gh : Ex G H
  g0 : Ex G0 G
  h0 : Ex H0 H
  sep : ∀ a o, H0 a = some o → G0 a = none → G a = none
  nm : ρ.map (·.1) = N
  len : σ.length = ρ.length
  ok : ∀ (i : Nat) (p : Str × Sl), ρ[i]? = some p → SlOk K G H (σ.getD i none) p.2
  own : ∀ a ∈ fpR ρ, H0 a = none ∧ G a = none ∧ H a ≠ none
  nd : (fpR ρ).Nodup
theorem mem_fpR {ρ : Rho} {i : Nat} {p : Str × Sl} {a : Addr} (h : ρ[i]? = some p) (k : a ∈ fpS p.2) : a ∈ fpR ρ := List.mem_flatMap.mpr ⟨p, List.mem_of_getElem? h, k⟩
/-- from one state to the next, nothing owned touched -/
theorem Stt.go {K : Fg} {N : List Str} {G0 H0 G H G' H' : Hp} {σ : L2.St} {ρ : Rho} (S : Stt K N G0 H0 G H σ ρ) (g : Ex G G') (h : Ex H H') (gh : Ex G' H') (sep : ∀ a o, H a = some o → G a = none → G' a = none) : Stt K N G0 H0 G' H' σ ρ where
  gh := gh
  g0 := S.g0.tr g
  h0 := S.h0.tr h
  sep := fun a o e z => sep a o (S.h0 a o e) (S.sep a o e z)
  nm := S.nm
  len := S.len
  ok := fun i p e => (S.ok i p e).mono g fun a ha => by
    have q := (S.own a (mem_fpR e ha)).2.2
    cases z : H a with
    | none => exact absurd z q
    | some o => exact h a o z
  own := fun a ha => by
    obtain ⟨q1, q2, q3⟩ := S.own a ha
    cases z : H a with
    | none => exact absurd z q3
    | some o => exact ⟨q1, sep a o z q2, by rw [h a o z]; simp⟩
  nd := S.nd
/-- a new thing is laid, as data -/
theorem Stt.lay {K : Fg} {N : List Str} {G0 H0 G H : Hp} {σ : L2.St} {ρ : Rho} {p : Addr} {o : HO} (S : Stt K N G0 H0 G H σ ρ) (hp : H p = none) : Stt K N G0 H0 (upd G p o) (upd H p o) σ ρ :=
  S.go (Ex.nw (S.gh.fr hp)) (Ex.nw hp) (fun a u e => by
    by_cases z : a = p
    · subst z; rw [upd_same] at e ⊢; exact e
    · rw [upd_ne z] at e ⊢; exact S.gh a u e) fun a u e z => by rw [upd_ne (ne_of_none e hp)]; exact z
/-- a new thing is laid, not as data -/
theorem Stt.layH {K : Fg} {N : List Str} {G0 H0 G H : Hp} {σ : L2.St} {ρ : Rho} {p : Addr} {o : HO} (S : Stt K N G0 H0 G H σ ρ) (hp : H p = none) : Stt K N G0 H0 G (upd H p o) σ ρ :=
  S.go (Ex.rfl' G) (Ex.nw hp) (S.gh.tr (Ex.nw hp)) fun _ _ _ z => z
/-- an owned new thing becomes data -/
theorem Stt.frz {K : Fg} {N : List Str} {G0 H0 G H : Hp} {σ : L2.St} {ρ : Rho} {p : Addr} {o : HO} (S : Stt K N G0 H0 G H σ ρ) (hp : H p = some o) (h0 : H0 p = none) (g : G p = none) (hn : p ∉ fpR ρ) : Stt K N G0 H0 (upd G p o) H σ ρ where
  gh := fun a u e => by
    by_cases z : a = p
    · subst z; rw [upd_same] at e; rw [hp, e]
    · rw [upd_ne z] at e; exact S.gh a u e
  g0 := S.g0.tr (Ex.nw g)
  h0 := S.h0
  sep := fun a u e z => by
    rw [upd_ne (ne_of_none e h0)]
    exact S.sep a u e z
  nm := S.nm
  len := S.len
  ok := fun i q e => (S.ok i q e).mono (Ex.nw g) fun _ _ => rfl
  own := fun a ha => by
    obtain ⟨q1, q2, q3⟩ := S.own a ha
    exact ⟨q1, by rw [upd_ne (show a ≠ p from fun z => hn (z ▸ ha))]; exact q2, q3⟩
  nd := S.nd

/-! ### look-ups in a state -/
inductive Lk : Rho → Str → Sl → Prop
  | hd {x : Str} {s : Sl} {ρ : Rho} : Lk ((x, s) :: ρ) x s
  | tl {x : Str} {s : Sl} {p : Str × Sl} {ρ : Rho} : Lk ρ x s → Lk (p :: ρ) x s
theorem Lk.at {ρ : Rho} {x : Str} {s : Sl} (h : Lk ρ x s) : ∃ i : Nat, ρ[i]? = some (x, s) := by
  induction h with
  | hd => exact ⟨0, rfl⟩
  | tl _ ih => obtain ⟨i, e⟩ := ih; exact ⟨i + 1, e⟩
/-- ρ' is ρ with s at x -/
inductive Up : Rho → Str → Sl → Rho → Prop
  | hd {x : Str} {s t : Sl} {ρ : Rho} : Up ((x, t) :: ρ) x s ((x, s) :: ρ)
  | tl {x : Str} {s : Sl} {p : Str × Sl} {ρ ρ' : Rho} : Up ρ x s ρ' → Up (p :: ρ) x s (p :: ρ')
theorem Up.at {ρ ρ' : Rho} {x : Str} {s : Sl} (h : Up ρ x s ρ') : ∃ (i : Nat) (t : Sl), ρ[i]? = some (x, t) ∧ ρ' = ρ.set i (x, s) := by
  induction h with
  | hd => exact ⟨0, _, rfl, rfl⟩
  | tl _ ih => obtain ⟨i, t, e, e2⟩ := ih; exact ⟨i + 1, t, e, by rw [e2]; rfl⟩
theorem Stt.slot {K : Fg} {N : List Str} {G0 H0 G H : Hp} {σ : L2.St} {ρ : Rho} (S : Stt K N G0 H0 G H σ ρ) {i : Nat} {x : Str} {s : Sl} (h : ρ[i]? = some (x, s)) : N[i]? = some x ∧ i < σ.length ∧ SlOk K G H (σ.getD i none) s := by
  have hi := (List.getElem?_eq_some_iff.mp h).1
  refine ⟨?_, by rw [S.len]; exact hi, S.ok i _ h⟩
  rw [← S.nm, List.getElem?_map, h]; rfl
theorem getD_some {σ : L2.St} {i : Nat} {v : V} (h : σ.getD i none = some v) : σ[i]? = some (some v) := by
  rw [List.getD_eq_getElem?_getD] at h
  cases q : σ[i]? with
  | none => rw [q] at h; cases h
  | some o => rw [q] at h; exact congrArg some h
theorem cut_at {α : Type} : ∀ {l : List α} {i : Nat} {t : α}, l[i]? = some t → ∃ a b, l = a ++ t :: b ∧ a.length = i ∧ ∀ p, l.set i p = a ++ p :: b
  | [], _, _, h => by simp at h
  | x :: l, 0, t, h => by
    have e : x = t := by simpa using h
    subst e
    exact ⟨[], l, rfl, rfl, fun _ => rfl⟩
  | x :: l, i + 1, t, h => by
    obtain ⟨a, b, e, el, es⟩ := cut_at (l := l) (i := i) (t := t) (by simpa using h)
    exact ⟨x :: a, b, by rw [e]; rfl, by rw [List.length_cons, el], fun p => by rw [List.set_cons_succ, es]; rfl⟩
theorem fpR_app (a b : Rho) : fpR (a ++ b) = fpR a ++ fpR b := List.flatMap_append
theorem fpR_cons (p : Str × Sl) (b : Rho) : fpR (p :: b) = fpS p.2 ++ fpR b := List.flatMap_cons
/-- a slot is stored: what it held is let go -/
theorem Stt.put {K : Fg} {N : List Str} {G0 H0 G H : Hp} {σ : L2.St} {ρ : Rho} (S : Stt K N G0 H0 G H σ ρ) {i : Nat} {x : Str} {t s : Sl} {o : Option V} (h : ρ[i]? = some (x, t)) (ok : SlOk K G H o s)
    (own : ∀ a ∈ fpS s, H0 a = none ∧ G a = none ∧ H a ≠ none) (nd : (fpS s).Nodup) (dis : ∀ a ∈ fpS s, a ∈ fpR ρ → a ∈ fpS t) : Stt K N G0 H0 G H (σ.set i o) (ρ.set i (x, s)) := by
  obtain ⟨l, r, e, el, es⟩ := cut_at h
  have hi := (List.getElem?_eq_some_iff.mp h).1
  have e1 : fpR ρ = fpR l ++ (fpS t ++ fpR r) := by rw [e, fpR_app, fpR_cons]
  have e2 : fpR (ρ.set i (x, s)) = fpR l ++ (fpS s ++ fpR r) := by rw [es, fpR_app, fpR_cons]
  have nd0 := S.nd
  rw [e1, List.nodup_append] at nd0
  obtain ⟨n1, n2, n3⟩ := nd0
  rw [List.nodup_append] at n2
  obtain ⟨n4, n5, n6⟩ := n2
  refine ⟨S.gh, S.g0, S.h0, S.sep, ?_, by rw [List.length_set, List.length_set, S.len], fun j p hj => ?_, fun a ha => ?_, ?_⟩
  · rw [← S.nm, es, e, List.map_append, List.map_append]; rfl
  · by_cases ij : i = j
    · subst ij
      have q : p = (x, s) := by
        rw [List.getElem?_set_self hi] at hj
        exact (Option.some.inj hj).symm
      subst q
      have q2 : (σ.set i o).getD i none = o := by
        rw [List.getD_eq_getElem?_getD, List.getElem?_set_self (by rw [S.len]; exact hi)]; rfl
      rw [q2]
      exact ok
    · rw [List.getElem?_set_ne ij] at hj
      have q2 : (σ.set i o).getD j none = σ.getD j none := by
        rw [List.getD_eq_getElem?_getD, List.getD_eq_getElem?_getD, List.getElem?_set_ne ij]
      rw [q2]
      exact S.ok j p hj
  · rw [e2, List.mem_append, List.mem_append] at ha
    rcases ha with ha | ha | ha
    · exact S.own a (by rw [e1]; exact List.mem_append_left _ ha)
    · exact own a ha
    · exact S.own a (by rw [e1]; exact List.mem_append_right _ (List.mem_append_right _ ha))
  · rw [e2, List.nodup_append]
    refine ⟨n1, ?_, fun a ha b hb e => ?_⟩
    · rw [List.nodup_append]
      refine ⟨nd, n5, fun a ha b hb e => ?_⟩
      subst e
      have q := dis a ha (by rw [e1]; exact List.mem_append_right _ (List.mem_append_right _ hb))
      exact n6 a q a hb rfl
    · subst e
      have hb := List.mem_append.mp hb
      rcases hb with hb | hb
      · have q := dis a hb (by rw [e1]; exact List.mem_append_left _ ha)
        exact n3 a ha a (List.mem_append_left _ q) rfl
      · exact n3 a ha a (List.mem_append_right _ hb) rfl
/-- an owned thing is changed -/
theorem Stt.mut {K : Fg} {N : List Str} {G0 H0 G H : Hp} {σ : L2.St} {ρ : Rho} (S : Stt K N G0 H0 G H σ ρ) {i : Nat} {x : Str} {t s : Sl} {a : Addr} {u : HO} (h : ρ[i]? = some (x, t)) (ft : fpS t = [a]) (fs : fpS s = [a])
    (ok : SlOk K G (upd H a u) (σ.getD i none) s) : Stt K N G0 H0 G (upd H a u) σ (ρ.set i (x, s)) := by
  have ha : a ∈ fpR ρ := mem_fpR h (by rw [ft]; exact List.mem_singleton.mpr rfl)
  obtain ⟨o1, o2, o3⟩ := S.own a ha
  have hi := (List.getElem?_eq_some_iff.mp h).1
  obtain ⟨l, r, e, el, es⟩ := cut_at h
  have e1 : fpR (ρ.set i (x, s)) = fpR ρ := by rw [es, e, fpR_app, fpR_app, fpR_cons, fpR_cons, ft, fs]
  have nd0 := S.nd
  rw [e, fpR_app, fpR_cons, ft, List.nodup_append] at nd0
  obtain ⟨n1, n2, n3⟩ := nd0
  have ne : ∀ b u', G b = some u' → b ≠ a := fun b u' q z => by rw [z, o2] at q; cases q
  refine ⟨fun b u' q => by rw [upd_ne (ne b u' q)]; exact S.gh b u' q, S.g0, fun b u' q => by rw [upd_ne (fun z => by rw [z, o1] at q; cases q)]; exact S.h0 b u' q, S.sep, ?_, by rw [List.length_set, S.len], fun j p hj => ?_, fun b hb => ?_, by rw [e1]; exact S.nd⟩
  · rw [← S.nm, es, e, List.map_append, List.map_append]; rfl
  · by_cases ij : i = j
    · subst ij
      have q : p = (x, s) := by
        rw [List.getElem?_set_self hi] at hj
        exact (Option.some.inj hj).symm
      subst q
      exact ok
    · rw [List.getElem?_set_ne ij] at hj
      refine (S.ok j p hj).mono (Ex.rfl' G) fun b hb => upd_ne fun z => ?_
      subst z
      rw [e] at hj
      have hm : b ∈ fpR l ∨ b ∈ fpR r := by
        by_cases hl : j < l.length
        · rw [List.getElem?_append_left hl] at hj
          exact .inl (mem_fpR hj hb)
        · rw [List.getElem?_append_right (by omega)] at hj
          obtain ⟨m, hm⟩ : ∃ m, j - l.length = m + 1 := ⟨j - l.length - 1, by omega⟩
          rw [hm, List.getElem?_cons_succ] at hj
          exact .inr (mem_fpR hj hb)
      rcases hm with hm | hm
      · exact n3 b hm b (List.mem_append_left _ (List.mem_singleton.mpr rfl)) rfl
      · exact (List.nodup_append.mp n2).2.2 b (List.mem_singleton.mpr rfl) b hm rfl
  · rw [e1] at hb
    obtain ⟨q1, q2, q3⟩ := S.own b hb
    refine ⟨q1, q2, ?_⟩
    by_cases z : b = a
    · rw [z, upd_same]; simp
    · rw [upd_ne z]; exact q3

/-! ### the judgements -/
/-- an exception: its class, its fields -/
structure Xn where
  cls : Addr
  fs : List (Str × Pd)
inductive RpF (K : Fg) (G : Hp) : List (Str × V) → List (Str × Pd) → Prop
  | nil : RpF K G [] []
  | cons {f : Str} {v : V} {d : Pd} {vs : List (Str × V)} {ds : List (Str × Pd)} : Rp K G v d → RpF K G vs ds → RpF K G ((f, v) :: vs) ((f, d) :: ds)
def XnOk (K : Fg) (G H : Hp) (x : Xn) (dd : Option Addr) : Prop := (x.fs = [] ∧ dd = none) ∨ ∃ d vs, x.fs ≠ [] ∧ dd = some d ∧ G d = some (.xd vs) ∧ RpF K G vs x.fs
/-- where one stands: the context, what is wished of an exception, what data may come with one -/
structure Jc where
  X : Cx
  W : WX
  Ξ : Xn → Rho → Prop
/-- the built-in names that the module leaves alone -/
def bl : List Str := ["abs", "all", "any", "bool", "dict", "divmod", "enumerate", "int", "isinstance", "len", "list", "max", "min", "range", "set", "sorted", "str", "sum", "tuple", "zip", "ValueError"]
def NoB (mg : Str → Option Value) : Prop := ∀ x : Str, bl.contains x = true → mg x = none
structure Jok (C : Jc) (k : Nat) : Prop where
  tk : Takes C.X C.W
  calm : C.X.calm = true
  nd : C.X.N.Nodup
  room : Room k C.X.A
  po : PassesOwn (model C.X.prog C.X.w) C.X.A C.X.env C.X.xe
  nb : NoB C.X.mg
section
variable (C : Jc) (G0 H0 : Hp)
abbrev SttC (G H : Hp) (σ : L2.St) (ρ : Rho) : Prop := Stt C.X.K C.X.N G0 H0 G H σ ρ
/-- an expression's way out by an exception -/
def exE (G : Hp) (σ : L2.St) : Prop := ∀ x ρ' dd G' H', C.Ξ x ρ' → SttC C G0 H0 G' H' σ ρ' → Ex G G' → XnOk C.X.K G' H' x dd → C.W (.ref x.cls) dd σ H'
def okE (G : Hp) (σ : L2.St) (Φ : Pd → Rho → Prop) (Q : VK) : Prop := ∀ d ρ' v G' H', Φ d ρ' → SttC C G0 H0 G' H' σ ρ' → Ex G G' → Rp C.X.K G' v d → Q v H'
def okF (G : Hp) (σ : L2.St) (Φ : List Pd → Rho → Prop) (Q : VK) : Prop := ∀ ds ρ' a vs G' H', Φ ds ρ' → SttC C G0 H0 G' H' σ ρ' → Ex G G' → H0 a = none → G' a = none → a ∉ fpR ρ' → H' a = some (.lst vs) → RpA C.X.K G' vs ds → Q (.ref a) H'
def okA (G : Hp) (σ : L2.St) (Φ : List Pd → Rho → Prop) (Q : List V → Hp → Prop) : Prop := ∀ ds ρ' vs G' H', Φ ds ρ' → SttC C G0 H0 G' H' σ ρ' → Ex G G' → RpA C.X.K G' vs ds → Q vs H'
def okT (G : Hp) (σ : L2.St) (Φ : Bool → Rho → Prop) (Q : Bool → Hp → Prop) : Prop := ∀ b ρ' G' H', Φ b ρ' → SttC C G0 H0 G' H' σ ρ' → Ex G G' → Q b H'
end
/-- the readings that a piece of syntax has by itself -/
def tE (X : Cx) (e : Expr) : TE := fun σ H Q => ∀ pins s, Inv X pins σ H s → wpAny (model X.prog X.w) X.A (eval e X.env) (EP X pins σ Q) X.xe s
def tT (X : Cx) (e : Expr) : TT := fun σ H Q => ∀ pins s, Inv X pins σ H s → wpAny (model X.prog X.w) X.A (isTrue e X.env (eval e X.env)) (TP X pins σ Q) X.xe s
def tW (X : Cx) (e : Expr) : TT := fun σ H Q => ∀ whole pins s, Inv X pins σ H s → wpAny (model X.prog X.w) X.A (isTrue e X.env whole) (TP X pins σ Q) X.xe s
def tA (X : Cx) (es : List Expr) : TA := fun σ H Q => ∀ pos pins s, Inv X pins σ H s → wpAny (model X.prog X.w) X.A (spliced (backTo pos (starEach es X.env))) (AP X pins σ Q) X.xe s
def tS (X : Cx) (st : Stmt) : TS := fun D σ H => ∀ pins s, Inv X pins σ H s → wpAny (model X.prog X.w) X.A (exec st X.env) (SP X pins D) X.xe s
def tSs (X : Cx) (st : List Stmt) : TS := fun D σ H => ∀ pins s, Inv X pins σ H s → wpAny (model X.prog X.w) X.A (execs st X.env) (SP X pins D) X.xe s
def tX (X : Cx) (ifs : List Expr) : TT := fun σ H Q => ∀ pins s, Inv X pins σ H s →
  wpAny (model X.prog X.w) X.A (forIn ifs true fun t r => if r = true then do let y ← isTrue t X.env (eval t X.env); pure (ForInStep.yield y) else pure (ForInStep.yield r)) (TP X pins σ Q) X.xe s
theorem pe_t {X : Cx} {e : Expr} : PE X e (tE X e) := ⟨fun pins s _ _ _ I h => h pins s I⟩
theorem pt_t {X : Cx} {e : Expr} : PT X e (tT X e) := ⟨fun pins s _ _ _ I h => h pins s I⟩
theorem pw_t {X : Cx} {e : Expr} : PW X e (tW X e) := ⟨fun w pins s _ _ _ I h => h w pins s I⟩
theorem pa_t {X : Cx} {e : List Expr} : PA X e (tA X e) := ⟨fun p pins s _ _ _ I h => h p pins s I⟩
theorem ps_t {X : Cx} {e : Stmt} : PS X e (tS X e) := ⟨fun pins s _ _ _ I h => h pins s I⟩
theorem pss_t {X : Cx} {e : List Stmt} : PSs X e (tSs X e) := ⟨fun pins s _ _ _ I h => h pins s I⟩
theorem px_t {X : Cx} {e : List Expr} : PTs X e (tX X e) := ⟨fun pins s _ _ _ I h => h pins s I⟩
theorem t_pe {X : Cx} {e : Expr} {t : TE} (p : PE X e t) {σ : L2.St} {H : Hp} {Q : VK} (h : t σ H Q) : tE X e σ H Q := fun pins s I => p.run pins s σ H Q I h
theorem t_pt {X : Cx} {e : Expr} {t : TT} (p : PT X e t) {σ : L2.St} {H : Hp} {Q : Bool → Hp → Prop} (h : t σ H Q) : tT X e σ H Q := fun pins s I => p.run pins s σ H Q I h
theorem t_pw {X : Cx} {e : Expr} {t : TT} (p : PW X e t) {σ : L2.St} {H : Hp} {Q : Bool → Hp → Prop} (h : t σ H Q) : tW X e σ H Q := fun w pins s I => p.run w pins s σ H Q I h
theorem t_pa {X : Cx} {e : List Expr} {t : TA} (p : PA X e t) {σ : L2.St} {H : Hp} {Q : List V → Hp → Prop} (h : t σ H Q) : tA X e σ H Q := fun w pins s I => p.run w pins s σ H Q I h
theorem t_ps {X : Cx} {e : Stmt} {t : TS} (p : PS X e t) {σ : L2.St} {H : Hp} {D : Ends} (h : t D σ H) : tS X e D σ H := fun pins s I => p.run pins s σ H D I h
theorem t_pss {X : Cx} {e : List Stmt} {t : TS} (p : PSs X e t) {σ : L2.St} {H : Hp} {D : Ends} (h : t D σ H) : tSs X e D σ H := fun pins s I => p.run pins s σ H D I h
theorem t_px {X : Cx} {e : List Expr} {t : TT} (p : PTs X e t) {σ : L2.St} {H : Hp} {Q : Bool → Hp → Prop} (h : t σ H Q) : tX X e σ H Q := fun pins s I => p.run pins s σ H Q I h
/-- e comes to data d, the names then ρ', of which Φ -/
structure JE (C : Jc) (ρ : Rho) (e : Expr) (Φ : Pd → Rho → Prop) : Prop where
  run : ∀ G0 H0 G H σ, SttC C G0 H0 G H σ ρ → ∀ Q, okE C G0 H0 G σ Φ Q → exE C G0 H0 G σ → tE C.X e σ H Q
/-- e comes to a new list, nobody's else -/
structure JF (C : Jc) (ρ : Rho) (e : Expr) (Φ : List Pd → Rho → Prop) : Prop where
  run : ∀ G0 H0 G H σ, SttC C G0 H0 G H σ ρ → ∀ Q, okF C G0 H0 G σ Φ Q → exE C G0 H0 G σ → tE C.X e σ H Q
structure JA (C : Jc) (ρ : Rho) (es : List Expr) (Φ : List Pd → Rho → Prop) : Prop where
  run : ∀ G0 H0 G H σ, SttC C G0 H0 G H σ ρ → ∀ Q, okA C G0 H0 G σ Φ Q → exE C G0 H0 G σ → tA C.X es σ H Q
structure JT (C : Jc) (ρ : Rho) (e : Expr) (Φ : Bool → Rho → Prop) : Prop where
  run : ∀ G0 H0 G H σ, SttC C G0 H0 G H σ ρ → ∀ Q, okT C G0 H0 G σ Φ Q → exE C G0 H0 G σ → tT C.X e σ H Q
structure JW (C : Jc) (ρ : Rho) (e : Expr) (Φ : Bool → Rho → Prop) : Prop where
  run : ∀ G0 H0 G H σ, SttC C G0 H0 G H σ ρ → ∀ Q, okT C G0 H0 G σ Φ Q → exE C G0 H0 G σ → tW C.X e σ H Q
structure JX (C : Jc) (ρ : Rho) (es : List Expr) (Φ : Bool → Rho → Prop) : Prop where
  run : ∀ G0 H0 G H σ, SttC C G0 H0 G H σ ρ → ∀ Q, okT C G0 H0 G σ Φ Q → exE C G0 H0 G σ → tX C.X es σ H Q
/-- what a def hands back: data; a new list -/
inductive Rv where
  | d (x : Pd)
  | fr (ds : List Pd)
structure Po where
  nx : Rho → Prop
  rt : Rv → Rho → Prop
  bk : Rho → Prop
  ct : Rho → Prop
/-- how a value handed back stands -/
def RvOk (K : Fg) (H0 G H : Hp) (ρ : Rho) (v : V) : Rv → Prop
  | .d x => Rp K G v x
  | .fr ds => ∃ a vs, v = .ref a ∧ H0 a = none ∧ G a = none ∧ a ∉ fpR ρ ∧ H a = some (.lst vs) ∧ RpA K G vs ds
structure okS (C : Jc) (G0 H0 : Hp) (G : Hp) (Ψ : Po) (D : Ends) : Prop where
  nx : ∀ ρ' σ' G' H', Ψ.nx ρ' → SttC C G0 H0 G' H' σ' ρ' → Ex G G' → D.nx σ' H'
  rt : ∀ r ρ' σ' v G' H', Ψ.rt r ρ' → SttC C G0 H0 G' H' σ' ρ' → Ex G G' → RvOk C.X.K H0 G' H' ρ' v r → D.rt v H'
  bk : ∀ ρ' σ' G' H', Ψ.bk ρ' → SttC C G0 H0 G' H' σ' ρ' → Ex G G' → D.bk σ' H'
  ct : ∀ ρ' σ' G' H', Ψ.ct ρ' → SttC C G0 H0 G' H' σ' ρ' → Ex G G' → D.ct σ' H'
def exS (C : Jc) (G0 H0 G : Hp) : Prop := ∀ x ρ' σ' dd G' H', C.Ξ x ρ' → SttC C G0 H0 G' H' σ' ρ' → Ex G G' → XnOk C.X.K G' H' x dd → C.W (.ref x.cls) dd σ' H'
structure JS (C : Jc) (ρ : Rho) (st : Stmt) (Ψ : Po) : Prop where
  run : ∀ G0 H0 G H σ, SttC C G0 H0 G H σ ρ → ∀ D, okS C G0 H0 G Ψ D → exS C G0 H0 G → tS C.X st D σ H
structure JB (C : Jc) (ρ : Rho) (sts : List Stmt) (Ψ : Po) : Prop where
  run : ∀ G0 H0 G H σ, SttC C G0 H0 G H σ ρ → ∀ D, okS C G0 H0 G Ψ D → exS C G0 H0 G → tSs C.X sts D σ H
theorem exE.mono {C : Jc} {G0 H0 G G' : Hp} {σ : L2.St} (h : exE C G0 H0 G σ) (e : Ex G G') : exE C G0 H0 G' σ := fun x ρ' dd G2 H2 a b c d => h x ρ' dd G2 H2 a b (e.tr c) d
theorem exS.mono {C : Jc} {G0 H0 G G' : Hp} (h : exS C G0 H0 G) (e : Ex G G') : exS C G0 H0 G' := fun x ρ' σ' dd G2 H2 a b c d => h x ρ' σ' dd G2 H2 a b (e.tr c) d
theorem exS.at {C : Jc} {G0 H0 G : Hp} (h : exS C G0 H0 G) (σ : L2.St) : exE C G0 H0 G σ := fun x ρ' dd G2 H2 a b c d => h x ρ' σ dd G2 H2 a b c d
theorem okS.mono {C : Jc} {G0 H0 G G' : Hp} {Ψ : Po} {D : Ends} (h : okS C G0 H0 G Ψ D) (e : Ex G G') : okS C G0 H0 G' Ψ D :=
  ⟨fun ρ' σ' G2 H2 a b c => h.nx ρ' σ' G2 H2 a b (e.tr c), fun r ρ' σ' v G2 H2 a b c d => h.rt r ρ' σ' v G2 H2 a b (e.tr c) d, fun ρ' σ' G2 H2 a b c => h.bk ρ' σ' G2 H2 a b (e.tr c), fun ρ' σ' G2 H2 a b c => h.ct ρ' σ' G2 H2 a b (e.tr c)⟩
end KJ

set_option Elab.async false
set_option linter.all false
set_option maxRecDepth 100000
set_option maxHeartbeats 4100000
/-! J1: expressions. -/
namespace KJ
open PySem PySem.Spec L2 PyProof.Rows
section
variable {C : Jc} {ρ : Rho} {e : Expr}
theorem JE.imp {Φ Φ' : Pd → Rho → Prop} (h : JE C ρ e Φ) (k : ∀ d ρ', Φ d ρ' → Φ' d ρ') : JE C ρ e Φ' := ⟨fun G0 H0 G H σ S Q ok ex => h.run G0 H0 G H σ S Q (fun d ρ' v G' H' a => ok d ρ' v G' H' (k d ρ' a)) ex⟩
theorem JF.imp {Φ Φ' : List Pd → Rho → Prop} (h : JF C ρ e Φ) (k : ∀ d ρ', Φ d ρ' → Φ' d ρ') : JF C ρ e Φ' := ⟨fun G0 H0 G H σ S Q ok ex => h.run G0 H0 G H σ S Q (fun d ρ' v vs G' H' a => ok d ρ' v vs G' H' (k d ρ' a)) ex⟩
theorem JA.imp {es : List Expr} {Φ Φ' : List Pd → Rho → Prop} (h : JA C ρ es Φ) (k : ∀ d ρ', Φ d ρ' → Φ' d ρ') : JA C ρ es Φ' := ⟨fun G0 H0 G H σ S Q ok ex => h.run G0 H0 G H σ S Q (fun d ρ' v G' H' a => ok d ρ' v G' H' (k d ρ' a)) ex⟩
theorem JT.imp {Φ Φ' : Bool → Rho → Prop} (h : JT C ρ e Φ) (k : ∀ d ρ', Φ d ρ' → Φ' d ρ') : JT C ρ e Φ' := ⟨fun G0 H0 G H σ S Q ok ex => h.run G0 H0 G H σ S Q (fun d ρ' G' H' a => ok d ρ' G' H' (k d ρ' a)) ex⟩
theorem JX.imp {es : List Expr} {Φ Φ' : Bool → Rho → Prop} (h : JX C ρ es Φ) (k : ∀ d ρ', Φ d ρ' → Φ' d ρ') : JX C ρ es Φ' := ⟨fun G0 H0 G H σ S Q ok ex => h.run G0 H0 G H σ S Q (fun d ρ' G' H' a => ok d ρ' G' H' (k d ρ' a)) ex⟩
/-- a new list, as data -/
theorem je_fr {Φ : Pd → Rho → Prop} (h : JF C ρ e fun ds ρ' => Φ (.list ds) ρ') : JE C ρ e Φ := ⟨fun G0 H0 G H σ S Q ok ex =>
  h.run G0 H0 G H σ S Q (fun ds ρ' a vs G' H' p S' g h0 g0 na ha r => ok _ _ _ _ _ p (S'.frz ha h0 g0 na) (g.tr (Ex.nw g0)) (.lst upd_same (r.mono (Ex.nw g0)))) ex⟩

/-! ### names, constants -/
def visB (sc : Scope) (x : Str) : Bool := match sc.names.lookup x with
  | some .local => true
  | some .cell => true
  | some .free => true
  | _ => false
theorem vis_of {sc : Scope} {x : Str} (h : visB sc x = true) : Vis sc x := by
  unfold visB at h
  unfold Vis
  split at h
  · rename_i q; exact .inl q
  · rename_i q; exact .inr (.inl q)
  · rename_i q; exact .inr (.inr q)
  · cases h
theorem name_any {x : Str} {s : Sl} {pos : Pos} (l : Lk ρ x s) (hv : visB C.X.env.scope x = true) {G0 H0 G H : Hp} {σ : L2.St} (S : SttC C G0 H0 G H σ ρ) {Q : VK} {v : V}
    (hq : ∀ o, SlOk C.X.K G H o s → o = some v) (h : Q v H) (hd : (x == ("__debug__" : Str)) = false) (hc : (x == ("__classdict__" : Str)) = false) : tE C.X (.Name x pos) σ H Q := by
  obtain ⟨i, hi⟩ := l.at
  obtain ⟨n1, n2, n3⟩ := S.slot hi
  exact t_pe (pe_var n1 (vis_of hv) hd hc) ⟨v, getD_some (hq _ n3), h⟩
/-- a name that holds data -/
theorem je_name {x : Str} {d : Pd} {pos : Pos} {Φ : Pd → Rho → Prop} (l : Lk ρ x (.sh d)) (h : Φ d ρ) (hv : visB C.X.env.scope x = true := by kernel_rfl) (hd : (x == ("__debug__" : Str)) = false := by kernel_rfl) (hc : (x == ("__classdict__" : Str)) = false := by kernel_rfl) :
    JE C ρ (.Name x pos) Φ := ⟨fun G0 H0 G H σ S Q ok ex => by
  obtain ⟨i, hi⟩ := l.at
  obtain ⟨v, e, r⟩ := S.ok i _ hi
  exact t_pe (pe_var (S.slot hi).1 (vis_of hv) hd hc) ⟨v, getD_some e, ok _ _ _ _ _ h S (Ex.rfl' G) r⟩⟩
/-- a name that holds an own list, which becomes data -/
theorem je_namef {k : Nat} {x : Str} {a : Addr} {ds : List Pd} {ρ' : Rho} {pos : Pos} {Φ : Pd → Rho → Prop} (c : Jok C k) (l : Lk ρ x (.ow a ds)) (u : Up ρ x (.sh (.list ds)) ρ') (h : Φ (.list ds) ρ') 
    (hv : visB C.X.env.scope x = true := by kernel_rfl) (hd : (x == ("__debug__" : Str)) = false := by kernel_rfl) (hc : (x == ("__classdict__" : Str)) = false := by kernel_rfl) :
    JE C ρ (.Name x pos) Φ := ⟨fun G0 H0 G H σ S Q ok ex => by
  have hn : (ρ.map (·.1)).Nodup := by rw [S.nm]; exact c.nd
  obtain ⟨i, hi⟩ := l.at
  obtain ⟨j, t, hj, rfl⟩ := u.at
  have ij : i = j := by
    refine L2.nodup_ix (N := ρ.map (·.1)) hn (x := x) ?_ ?_
    · rw [List.getElem?_map, hi]; rfl
    · rw [List.getElem?_map, hj]; rfl
  subst ij
  obtain ⟨e, vs, q, r⟩ := S.ok i _ hi
  obtain ⟨o1, o2, o3⟩ := S.own a (mem_fpR hi (List.mem_singleton.mpr rfl))
  -- the slot is stored anew as it stands, told nothing of; then the list becomes data; then told
  have S1 : SttC C G0 H0 G H σ (ρ.set i (x, .vl (.ref a))) := by
    have z := S.put (s := .vl (.ref a)) (o := some (.ref a)) hi rfl (fun b hb => by cases hb) List.nodup_nil (fun b hb => by cases hb)
    have e2 : σ.set i (some (.ref a)) = σ := by
      have := getD_some e
      exact List.ext_getElem? fun k => by
        by_cases hk : i = k
        · subst hk
          rw [this, List.getElem?_set_self (List.getElem?_eq_some_iff.mp this).1]
        · rw [List.getElem?_set_ne hk]
    rw [e2] at z
    exact z
  have na : a ∉ fpR (ρ.set i (x, .vl (.ref a))) := by
    obtain ⟨l1, r1, e1, el, es⟩ := cut_at hi
    have nd := S.nd
    rw [e1, fpR_app, fpR_cons, List.nodup_append] at nd
    rw [es, fpR_app, fpR_cons]
    intro hm
    have hm := List.mem_append.mp hm
    rcases hm with hm | hm
    · exact nd.2.2 a hm a (List.mem_append_left _ (List.mem_singleton.mpr rfl)) rfl
    · have nd2 := nd.2.1
      rw [List.nodup_append] at nd2
      exact nd2.2.2 a (List.mem_singleton.mpr rfl) a (by simpa [fpS] using hm) rfl
  have S2 := S1.frz q o1 o2 na
  have hi2 : (ρ.set i (x, Sl.vl (.ref a)))[i]? = some (x, .vl (.ref a)) := List.getElem?_set_self (List.getElem?_eq_some_iff.mp hi).1
  have rr : Rp C.X.K (upd G a (.lst vs)) (.ref a) (.list ds) := .lst upd_same (r.mono (Ex.nw o2))
  have S3 := S2.put (s := .sh (.list ds)) (o := some (.ref a)) hi2 ⟨_, rfl, rr⟩ (fun b hb => by cases hb) List.nodup_nil (fun b hb => by cases hb)
  have e2 : σ.set i (some (.ref a)) = σ := by
    have := getD_some e
    exact List.ext_getElem? fun k => by
      by_cases hk : i = k
      · subst hk
        rw [this, List.getElem?_set_self (List.getElem?_eq_some_iff.mp this).1]
      · rw [List.getElem?_set_ne hk]
  rw [e2, List.set_set] at S3
  exact t_pe (pe_var (S.slot hi).1 (vis_of hv) hd hc) ⟨_, getD_some e, ok _ _ _ _ _ h S3 (Ex.nw o2) rr⟩⟩
theorem je_int {i : Int} {k : Nat} {pos : Pos} {Φ : Pd → Rho → Prop} (h : Φ (.int i) ρ) : JE C ρ (.Constant (.int i) k pos) Φ := ⟨fun G0 H0 G H σ S Q ok ex => t_pe pe_int (ok _ _ _ _ _ h S (Ex.rfl' G) (.int i))⟩
theorem je_str {i : Str} {k : Nat} {pos : Pos} {Φ : Pd → Rho → Prop} (h : Φ (.str i) ρ) : JE C ρ (.Constant (.str i) k pos) Φ := ⟨fun G0 H0 G H σ S Q ok ex => t_pe pe_str (ok _ _ _ _ _ h S (Ex.rfl' G) (.str i))⟩
theorem je_bl {i : Bool} {k : Nat} {pos : Pos} {Φ : Pd → Rho → Prop} (h : Φ (.bool i) ρ) : JE C ρ (.Constant (.bool i) k pos) Φ := ⟨fun G0 H0 G H σ S Q ok ex => t_pe pe_bl (ok _ _ _ _ _ h S (Ex.rfl' G) (.bl i))⟩
theorem je_non {k : Nat} {pos : Pos} {Φ : Pd → Rho → Prop} (h : Φ .none ρ) : JE C ρ (.Constant .none k pos) Φ := ⟨fun G0 H0 G H σ S Q ok ex => t_pe pe_non (ok _ _ _ _ _ h S (Ex.rfl' G) .non)⟩
/-- a constant of the module -/
structure Gk (K : Fg) (mg : Str → Option Value) (x : Str) (d : Pd) : Prop where
  ex : ∃ u v, mg x = some u ∧ RelV v u ∧ ∀ G, Rp K G v d
theorem je_glob {x : Str} {d : Pd} {pos : Pos} {Φ : Pd → Rho → Prop} (g : Gk C.X.K C.X.mg x d) (h : Φ d ρ) (hg : Gl C.X x := by unfold L2.Gl; kernel_rfl) (hd : (x == ("__debug__" : Str)) = false := by kernel_rfl) : JE C ρ (.Name x pos) Φ :=
  ⟨fun G0 H0 G H σ S Q ok ex => by
    obtain ⟨u, v, e, r, q⟩ := g.ex
    exact t_pe (pe_glob hg e r hd) (ok _ _ _ _ _ h S (Ex.rfl' G) (q G))⟩

/-! ### operators on data -/
/-- a op b -/
def OpK (op : Operator) (d e : Pd) (Φ : Pd → Prop) : Prop := match op, d, e with
  | .Add, .int i, .int j => Φ (.int (i + j))
  | .Add, .str x, .str y => x.length + y.length ≤ sizeLine ∧ Φ (.str (x ++ y))
  | .Add, .list xs, .list ys => xs.length + ys.length ≤ sizeLine ∧ Φ (.list (xs ++ ys))
  | .Add, .tuple xs, .tuple ys => xs.length + ys.length ≤ sizeLine ∧ Φ (.tuple (xs ++ ys))
  | .Sub, .int i, .int j => Φ (.int (i - j))
  | .Mult, .int i, .int j => IntMulOk i j ∧ Φ (.int (i * j))
  | .Mult, .list xs, .int j => (-(2 ^ 63) ≤ j ∧ j < 2 ^ 63 ∧ xs.length * j.toNat ≤ 1000000) ∧ Φ (.list (List.replicate j.toNat xs).flatten)
  | .FloorDiv, .int i, .int j => (0 < j ∧ j < 2 ^ 200) ∧ Φ (.int (i / j))
  | .Mod, .int i, .int j => 0 < j ∧ Φ (.int (i % j))
  | .Pow, .int i, .int j => (0 ≤ j ∧ j ≤ 1000000 ∧ i.natAbs < 2 ^ 64) ∧ Φ (.int (i ^ j.toNat))
  | _, _, _ => False
/-- what an operation on values has by itself -/
def rO (X : Cx) (f : Value → Value → Sem Value) : R2 := fun x y H Q => ∀ pins s σ v u, Inv X pins σ H s → RelV x v → RelV y u → wpAny (model X.prog X.w) X.A (f v u) (EP X pins σ Q) X.xe s
theorem op_t {X : Cx} {f : Value → Value → Sem Value} : OpR X f (rO X f) := fun pins s σ _ _ _ v u _ I rx ry h => h pins s σ v u I rx ry
theorem t_op {X : Cx} {f : Value → Value → Sem Value} {r : R2} (o : OpR X f r) {x y : V} {H : Hp} {Q : VK} (h : r x y H Q) : rO X f x y H Q := fun pins s σ v u I rx ry => o pins s σ H x y v u Q I rx ry h
theorem log2_lt_pow {n k : Nat} (hk : 0 < k) (h : n < 2 ^ k) : n.log2 < k := by
  by_cases z : n = 0
  · subst z; simpa using hk
  · exact (Nat.log2_lt z).mpr h
theorem RpA.rep {K : Fg} {H : Hp} {v : List V} {d : List Pd} (h : RpA K H v d) : ∀ n : Nat, RpA K H (List.replicate n v).flatten (List.replicate n d).flatten
  | 0 => .nil
  | n + 1 => by
    rw [List.replicate_succ, List.replicate_succ, List.flatten_cons, List.flatten_cons] --k
    exact h.app (RpA.rep h n)
theorem op_ok {op : Operator} {d e : Pd} {Φ : Pd → Prop} {x y : V} {ρ' : Rho} {G0 H0 G H : Hp} {σ : L2.St} {Q : VK} (h : OpK op d e Φ) (S : SttC C G0 H0 G H σ ρ') (rx : Rp C.X.K G x d) (ry : Rp C.X.K G y e)
    (ok : ∀ z v G' H', Φ z → SttC C G0 H0 G' H' σ ρ' → Ex G G' → Rp C.X.K G' v z → Q v H') : rO C.X (binaryOp op) x y H Q := by
  unfold OpK at h
  split at h
  · cases rx; cases ry
    exact t_op op_add ⟨_, _, rfl, rfl, ok _ _ _ _ h S (Ex.rfl' G) (.int _)⟩
  · cases rx; cases ry
    exact t_op op_add_str ⟨_, _, rfl, rfl, h.1, ok _ _ _ _ h.2 S (Ex.rfl' G) (.str _)⟩
  · cases rx with
    | lst q1 r1 => cases ry with
      | lst q2 r2 =>
        rename_i xs ys a vs b ws
        refine t_op op_cat ⟨_, _, _, _, rfl, rfl, S.gh _ _ q1, S.gh _ _ q2, by rw [r1.len, r2.len]; exact h.1, fun p hp => ?_⟩
        have g : Ex G (upd G p (.lst (vs ++ ws))) := Ex.nw (S.gh.fr hp)
        exact ok _ _ _ _ h.2 (S.lay hp) g (.lst upd_same ((r1.mono g).app (r2.mono g)))
  · cases rx with
    | tup q1 r1 => cases ry with
      | tup q2 r2 =>
        rename_i xs ys a vs b ws
        refine t_op op_catA ⟨_, _, _, _, rfl, rfl, S.gh.st q1, S.gh.st q2, by rw [r1.len, r2.len]; exact h.1, fun z => ?_, fun _ z => ?_, fun z1 z2 p hp => ?_⟩
        · have l := r1.len
          rw [z] at l
          have e2 : xs = [] := List.eq_nil_of_length_eq_zero l.symm
          subst e2
          exact ok _ _ _ _ h.2 S (Ex.rfl' G) (.tup q2 r2)
        · have l := r2.len
          rw [z] at l
          have e2 : ys = [] := List.eq_nil_of_length_eq_zero l.symm
          subst e2
          rw [List.append_nil] at h
          exact ok _ _ _ _ h.2 S (Ex.rfl' G) (.tup q1 r1)
        · have g : Ex G (upd G p (.tup (vs ++ ws))) := Ex.nw (S.gh.fr hp)
          exact ok _ _ _ _ h.2 (S.lay hp) g (.tup (SqT.of upd_same) ((r1.mono g).app (r2.mono g)))
  · cases rx; cases ry
    exact t_op op_sub ⟨_, _, rfl, rfl, ok _ _ _ _ h S (Ex.rfl' G) (.int _)⟩
  · cases rx; cases ry
    exact t_op (opI (C := IntMulOk) (g := fun i j => i * j) fun _ _ _ _ _ _ _ hc q => mul_int q hc) ⟨_, _, rfl, rfl, h.1, ok _ _ _ _ h.2 S (Ex.rfl' G) (.int _)⟩
  · cases rx with
    | lst q1 r1 =>
      cases ry
      rename_i xs j a vs
      refine t_op op_rep ⟨_, _, _, rfl, rfl, S.gh _ _ q1, h.1.1, h.1.2.1, by rw [r1.len]; exact Nat.le_trans h.1.2.2 (by rw [sizeLine_eq]; decide), fun p hp => ?_⟩
      have g : Ex G (upd G p (.lst (List.replicate j.toNat vs).flatten)) := Ex.nw (S.gh.fr hp)
      exact ok _ _ _ _ h.2 (S.lay hp) g (.lst upd_same (RpA.rep (r1.mono g) _))
  · cases rx; cases ry
    rename_i i j
    refine t_op (opI (C := fun _ j => 0 < j ∧ j < 2 ^ 200) (g := fun i j => i / j) fun i j _ _ _ _ _ hc q => ?_) ⟨_, _, rfl, rfl, h.1, ok _ _ _ _ h.2 S (Ex.rfl' G) (.int _)⟩
    have h1 : 0 < j := hc.1
    have h2 : j.natAbs.log2 < 9000 := Nat.lt_trans (log2_lt_pow (k := 200) (by decide) (by
      have := hc.2
      have e : ((j.natAbs : Nat) : Int) = j := Int.natAbs_of_nonneg (by omega)
      have z : ((j.natAbs : Nat) : Int) < ((2 ^ 200 : Nat) : Int) := by rw [e]; exact_mod_cast this
      exact_mod_cast z)) (by decide)
    exact floordiv_int (by omega) (by rw [Int.fdiv_eq_ediv_of_nonneg i (by omega)]; exact q) (.inl (PyProof.noPylong_of_log2 h2))
  · cases rx; cases ry
    exact t_op op_mod ⟨_, _, rfl, rfl, h.1, ok _ _ _ _ h.2 S (Ex.rfl' G) (.int _)⟩
  · cases rx; cases ry
    exact t_op op_pow ⟨_, _, rfl, rfl, h.1, ok _ _ _ _ h.2 S (Ex.rfl' G) (.int _)⟩
  · exact h.elim
theorem je_bin {a b : Expr} {op : Operator} {pos : Pos} {Φ : Pd → Rho → Prop} (h : JE C ρ a fun d1 ρ1 => JE C ρ1 b fun d2 ρ2 => OpK op d1 d2 fun z => Φ z ρ2) : JE C ρ (.BinOp a op b pos) Φ :=
  ⟨fun G0 H0 G H σ S Q ok ex => t_pe (pe_op op_t pe_t pe_t) (h.run G0 H0 G H σ S _ (fun d1 ρ1 v1 G1 H1 h1 S1 g1 r1 => h1.run G0 H0 G1 H1 σ S1 _ (fun d2 ρ2 v2 G2 H2 h2 S2 g2 r2 =>
    op_ok h2 S2 (r1.mono g2) r2 fun z v G3 H3 hz S3 g3 r3 => ok z ρ2 v G3 H3 hz S3 ((g1.tr g2).tr g3) r3) (ex.mono g1)) ex)⟩
theorem je_neg {a : Expr} {pos : Pos} {Φ : Pd → Rho → Prop} (h : JE C ρ a fun d ρ1 => ∃ i, d = .int i ∧ Φ (.int (-i)) ρ1) : JE C ρ (.UnaryOp .USub a pos) Φ :=
  ⟨fun G0 H0 G H σ S Q ok ex => t_pe (pe_un un_neg pe_t) (h.run G0 H0 G H σ S _ (fun d1 ρ1 v1 G1 H1 ⟨i, e, h1⟩ S1 g1 r1 => by
    subst e; cases r1
    exact ⟨_, rfl, ok _ _ _ _ _ h1 S1 g1 (.int _)⟩) ex)⟩
end
end KJ

set_option Elab.async false
set_option linter.all false
set_option maxRecDepth 100000
set_option maxHeartbeats 4100000
/-! J2: comparisons, tests, built-ins. -/
namespace KJ
open PySem PySem.Spec L2 PyProof.Rows
/-- one text within another -/
def subStr (x y : Str) : Bool := !(Builtin.Str.occurrences y x 0 y.length 1).isEmpty
theorem subStr_sign (c : Nat) (y : Str) : subStr ⟨#[c]⟩ y = decide (c ∈ y.cps.toList) := PySem.StrLaws.found_one y c
def isNone : Pd → Bool
  | .none => true
  | _ => false
def smallD (d e : Pd) : Prop := min d.depth e.depth ≤ 60
/-- a op b, a comparison -/
def CmpK (op : CmpOp) (d e : Pd) (Φ : Bool → Prop) : Prop := match op, d, e with
  | .Lt, .int i, .int j => Φ (decide (i < j))
  | .LtE, .int i, .int j => Φ (decide (i ≤ j))
  | .Gt, .int i, .int j => Φ (decide (j < i))
  | .GtE, .int i, .int j => Φ (decide (j ≤ i))
  | .Eq, .int i, .int j => Φ (decide (i = j))
  | .NotEq, .int i, .int j => Φ (!decide (i = j))
  | .Eq, .str i, .str j => Φ (decide (i = j))
  | .NotEq, .str i, .str j => Φ (!decide (i = j))
  | .Eq, .bool i, .bool j => Φ (decide (i = j))
  | .NotEq, .bool i, .bool j => Φ (!decide (i = j))
  | .Eq, d, e => (d.plain = true ∧ e.plain = true ∧ smallD d e) ∧ Φ (PyData.eqv d e)
  | .NotEq, d, e => (d.plain = true ∧ e.plain = true ∧ smallD d e) ∧ Φ (!PyData.eqv d e)
  | .Lt, d, e => (d.plain = true ∧ e.plain = true ∧ smallD d e ∧ PySem.W.alike d e = true ∧ d ≠ .none) ∧ Φ (PySem.W.dataLt d e)
  | .Is, d, .none => Φ (isNone d)
  | .IsNot, d, .none => Φ (!isNone d)
  | .In, .str x, .str y => Φ (subStr x y)
  | .NotIn, .str x, .str y => Φ (!subStr x y)
  | .In, d, .list xs => (d.plain = true ∧ PyData.plainAll xs = true ∧ smallD (.list xs) d) ∧ Φ (xs.any fun z => PyData.eqv z d)
  | .NotIn, d, .list xs => (d.plain = true ∧ PyData.plainAll xs = true ∧ smallD (.list xs) d) ∧ Φ (!xs.any fun z => PyData.eqv z d)
  | .In, d, .tuple xs => (d.plain = true ∧ PyData.plainAll xs = true ∧ smallD (.tuple xs) d) ∧ Φ (xs.any fun z => PyData.eqv z d)
  | .NotIn, d, .tuple xs => (d.plain = true ∧ PyData.plainAll xs = true ∧ smallD (.tuple xs) d) ∧ Φ (!xs.any fun z => PyData.eqv z d)
  | _, _, _ => False
theorem Rp.none_iff {K : Fg} {H : Hp} {v : V} {d : Pd} (r : Rp K H v d) : decide (v = .non) = isNone d := by
  cases r <;> first | rfl | (simp [isNone])
theorem rds {X : Cx} {pins : List (Addr × Obj)} {σ : L2.St} {H G : Hp} {s : Shared} {v : V} {d : Pd} {u : Value} (I : Inv X pins σ H s) (g : Ex G H) (r : Rp X.K G v d) (p : d.plain = true) (ru : RelV v u) : ∃ as, Reads s.heap u d as :=
  Dp.reads I d v u ((r.mono g).dp p) ru
section
variable {C : Jc} {ρ : Rho}
theorem cmp_okG {k : Nat} {op : CmpOp} {d e : Pd} {Φ : Bool → Prop} {x y : V} {G H : Hp} {Q : VK} (hr : Room k C.X.A) (h : CmpK op d e Φ) (g : Ex G H) (rx : Rp C.X.K G x d) (ry : Rp C.X.K G y e)
    (ok : ∀ b, Φ b → Q (.bl b) H) : rO C.X (compareOp op) x y H Q := by
  have hu : C.X.A.units + 200 < cLine := by have := hr.un; omega
  unfold CmpK at h
  split at h
  · cases rx; cases ry; exact t_op op_lt ⟨_, _, rfl, rfl, ok _ h⟩
  · cases rx; cases ry; exact t_op op_le ⟨_, _, rfl, rfl, ok _ h⟩
  · cases rx; cases ry; exact t_op op_gt ⟨_, _, rfl, rfl, ok _ h⟩
  · cases rx; cases ry; exact t_op op_ge ⟨_, _, rfl, rfl, ok _ h⟩
  · cases rx; cases ry
    refine t_op op_eq ⟨rfl, ?_⟩
    rw [dec_int, show ((_ : Int) == _) = decide _ from rfl]
    exact ok _ h
  · cases rx; cases ry
    refine t_op op_ne ⟨rfl, ?_⟩
    rw [dec_int, show ((_ : Int) == _) = decide _ from rfl]
    exact ok _ h
  · cases rx; cases ry
    refine t_op op_eq ⟨rfl, ?_⟩
    rw [dec_str, show ((_ : Str) == _) = decide _ from rfl]
    exact ok _ h
  · cases rx; cases ry
    refine t_op op_ne ⟨rfl, ?_⟩
    rw [dec_str, show ((_ : Str) == _) = decide _ from rfl]
    exact ok _ h
  · cases rx; cases ry
    refine t_op op_eq ⟨rfl, ?_⟩
    rw [dec_bl, Bool.beq_eq_decide_eq]
    exact ok _ h
  · cases rx; cases ry
    refine t_op op_ne ⟨rfl, ?_⟩
    rw [dec_bl, Bool.beq_eq_decide_eq]
    exact ok _ h
  · obtain ⟨⟨h1, h2, h3⟩, h⟩ := h
    intro pins s σ' v u I rv ru
    obtain ⟨as, q1⟩ := rds I g rx h1 rv
    obtain ⟨bs, q2⟩ := rds I g ry h2 ru
    exact SeqAt.eq_plain q1 q2 h1 h2 (by have : _ ≤ 60 := h3; omega) ⟨.bl _, H, I, rfl, ok _ h⟩
  · obtain ⟨⟨h1, h2, h3⟩, h⟩ := h
    intro pins s σ' v u I rv ru
    obtain ⟨as, q1⟩ := rds I g rx h1 rv
    obtain ⟨bs, q2⟩ := rds I g ry h2 ru
    exact SeqAt.ne_plain q1 q2 h1 h2 (by have : _ ≤ 60 := h3; omega) ⟨.bl _, H, I, rfl, ok _ h⟩
  · obtain ⟨⟨h1, h2, h3, h4, h5⟩, h⟩ := h
    intro pins s σ' v u I rv ru
    obtain ⟨as, q1⟩ := rds I g rx h1 rv
    obtain ⟨bs, q2⟩ := rds I g ry h2 ru
    exact PySem.W.lt_data q1 q2 h4 h5 (by have : _ ≤ 60 := h3; omega) ⟨.bl _, H, I, rfl, ok _ h⟩
  · have e := rx.none_iff
    cases ry
    exact t_op op_isN ⟨rfl, by rw [e]; exact ok _ h⟩
  · have e := rx.none_iff
    cases ry
    exact t_op op_notN ⟨rfl, by rw [e]; exact ok _ h⟩
  · cases rx; cases ry; exact t_op op_in_str ⟨_, _, rfl, rfl, ok _ h⟩
  · cases rx; cases ry; exact t_op op_notin_str ⟨_, _, rfl, rfl, ok _ h⟩
  · obtain ⟨⟨h1, h2, h3⟩, h⟩ := h
    intro pins s σ' v u I rv ru
    obtain ⟨as, q1⟩ := rds I g rx h1 rv
    obtain ⟨bs, q2⟩ := rds I g ry h2 ru
    exact SeqAt.in_list_data q2 q1 h2 h1 (by have : min _ _ ≤ 60 := h3; simp only [PyData.depth] at this; omega) ⟨.bl _, H, I, rfl, ok _ h⟩
  · obtain ⟨⟨h1, h2, h3⟩, h⟩ := h
    intro pins s σ' v u I rv ru
    obtain ⟨as, q1⟩ := rds I g rx h1 rv
    obtain ⟨bs, q2⟩ := rds I g ry h2 ru
    exact SeqAt.notIn_list_data q2 q1 h2 h1 (by have : min _ _ ≤ 60 := h3; simp only [PyData.depth] at this; omega) ⟨.bl _, H, I, rfl, ok _ h⟩
  · obtain ⟨⟨h1, h2, h3⟩, h⟩ := h
    intro pins s σ' v u I rv ru
    obtain ⟨as, q1⟩ := rds I g rx h1 rv
    obtain ⟨bs, q2⟩ := rds I g ry h2 ru
    exact SeqAt.in_tuple_data q2 q1 h2 h1 (by have : min _ _ ≤ 60 := h3; simp only [PyData.depth] at this; omega) ⟨.bl _, H, I, rfl, ok _ h⟩
  · obtain ⟨⟨h1, h2, h3⟩, h⟩ := h
    intro pins s σ' v u I rv ru
    obtain ⟨as, q1⟩ := rds I g rx h1 rv
    obtain ⟨bs, q2⟩ := rds I g ry h2 ru
    exact SeqAt.notIn_tuple_data q2 q1 h2 h1 (by have : min _ _ ≤ 60 := h3; simp only [PyData.depth] at this; omega) ⟨.bl _, H, I, rfl, ok _ h⟩
  · exact h.elim
variable {k : Nat}
theorem cmp_ok {k : Nat} {op : CmpOp} {d e : Pd} {Φ : Bool → Prop} {x y : V} {ρ' : Rho} {G0 H0 G H : Hp} {σ : L2.St} {Q : VK} (hr : Room k C.X.A) (h : CmpK op d e Φ) (S : SttC C G0 H0 G H σ ρ') (rx : Rp C.X.K G x d) (ry : Rp C.X.K G y e)
    (ok : ∀ b, Φ b → Q (.bl b) H) : rO C.X (compareOp op) x y H Q := cmp_okG hr h S.gh rx ry ok
theorem je_cmp {a b : Expr} {op : CmpOp} {pos : Pos} {Φ : Pd → Rho → Prop} (c : Jok C k) (h : JE C ρ a fun d1 ρ1 => JE C ρ1 b fun d2 ρ2 => CmpK op d1 d2 fun z => Φ (.bool z) ρ2) (hm : behindInMarks op b = false := by first | rfl | exact nomark _) : JE C ρ (.Compare a [op] [b] pos) Φ :=
  ⟨fun G0 H0 G H σ S Q ok ex => t_pe (pe_cmpR op_t pe_t pe_t hm) (h.run G0 H0 G H σ S _ (fun d1 ρ1 v1 G1 H1 h1 S1 g1 r1 => h1.run G0 H0 G1 H1 σ S1 _ (fun d2 ρ2 v2 G2 H2 h2 S2 g2 r2 =>
    cmp_ok c.room h2 S2 (r1.mono g2) r2 fun z hz => ok _ ρ2 _ G2 H2 hz S2 (g1.tr g2) (.bl _)) (ex.mono g1)) ex)⟩
theorem jt_cmp {a b : Expr} {op : CmpOp} {pos : Pos} {Φ : Bool → Rho → Prop} (c : Jok C k) (h : JE C ρ a fun d1 ρ1 => JE C ρ1 b fun d2 ρ2 => CmpK op d1 d2 fun z => Φ z ρ2) (hm : behindInMarks op b = false := by first | rfl | exact nomark _) : JT C ρ (.Compare a [op] [b] pos) Φ :=
  ⟨fun G0 H0 G H σ S Q ok ex => t_pt (pt_cmpR op_t pe_t pe_t hm) (h.run G0 H0 G H σ S _ (fun d1 ρ1 v1 G1 H1 h1 S1 g1 r1 => h1.run G0 H0 G1 H1 σ S1 _ (fun d2 ρ2 v2 G2 H2 h2 S2 g2 r2 =>
    cmp_ok c.room h2 S2 (r1.mono g2) r2 fun z hz => ⟨z, rfl, ok _ ρ2 G2 H2 hz S2 (g1.tr g2)⟩) (ex.mono g1)) ex)⟩
theorem je_chain {a b c' : Expr} {op op' : CmpOp} {pos : Pos} {Φ : Pd → Rho → Prop} (c : Jok C k) (h : JE C ρ a fun d1 ρ1 => JE C ρ1 b fun d2 ρ2 => CmpK op d1 d2 fun z => (z = true → JE C ρ2 c' fun d3 ρ3 => CmpK op' d2 d3 fun y => Φ (.bool y) ρ3) ∧ (z = false → Φ (.bool false) ρ2))
    (hm : lastMarks [op, op'] [b, c'] = false := by with_unfolding_all rfl) : JE C ρ (.Compare a [op, op'] [b, c'] pos) Φ :=
  ⟨fun G0 H0 G H σ S Q ok ex => t_pe (pe_chain op_t op_t pe_t pe_t pe_t hm) (h.run G0 H0 G H σ S _ (fun d1 ρ1 v1 G1 H1 h1 S1 g1 r1 => h1.run G0 H0 G1 H1 σ S1 _ (fun d2 ρ2 v2 G2 H2 h2 S2 g2 r2 =>
    cmp_ok c.room h2 S2 (r1.mono g2) r2 fun z hz => ⟨z, rfl, by
      cases z with
      | true => exact iteT ((hz.1 rfl).run G0 H0 G2 H2 σ S2 _ (fun d3 ρ3 v3 G3 H3 h3 S3 g3 r3 => cmp_ok c.room h3 S3 (r2.mono g3) r3 fun y hy => ok _ ρ3 _ G3 H3 hy S3 ((g1.tr g2).tr g3) (.bl _)) (ex.mono (g1.tr g2)))
      | false => exact iteF (ok _ ρ2 _ G2 H2 (hz.2 rfl) S2 (g1.tr g2) (.bl _))⟩) (ex.mono g1)) ex)⟩
theorem jt_chain {a b c' : Expr} {op op' : CmpOp} {pos : Pos} {Φ : Bool → Rho → Prop} (c : Jok C k) (h : JE C ρ a fun d1 ρ1 => JE C ρ1 b fun d2 ρ2 => CmpK op d1 d2 fun z => (z = true → JE C ρ2 c' fun d3 ρ3 => CmpK op' d2 d3 fun y => Φ y ρ3) ∧ (z = false → Φ false ρ2))
    (hm : lastMarks [op, op'] [b, c'] = false := by with_unfolding_all rfl) : JT C ρ (.Compare a [op, op'] [b, c'] pos) Φ :=
  ⟨fun G0 H0 G H σ S Q ok ex => t_pt (pt_chain op_t op_t pe_t pe_t pe_t hm) (h.run G0 H0 G H σ S _ (fun d1 ρ1 v1 G1 H1 h1 S1 g1 r1 => h1.run G0 H0 G1 H1 σ S1 _ (fun d2 ρ2 v2 G2 H2 h2 S2 g2 r2 =>
    cmp_ok c.room h2 S2 (r1.mono g2) r2 fun z hz => ⟨z, rfl, by
      cases z with
      | true => exact iteT ((hz.1 rfl).run G0 H0 G2 H2 σ S2 _ (fun d3 ρ3 v3 G3 H3 h3 S3 g3 r3 => cmp_ok c.room h3 S3 (r2.mono g3) r3 fun y hy => ⟨y, rfl, ok _ ρ3 G3 H3 hy S3 ((g1.tr g2).tr g3)⟩) (ex.mono (g1.tr g2)))
      | false => exact iteF ⟨false, rfl, ok _ ρ2 G2 H2 (hz.2 rfl) S2 (g1.tr g2)⟩⟩) (ex.mono g1)) ex)⟩

/-! ### and, or, not -/
theorem jt_w {e : Expr} {Φ : Bool → Rho → Prop} (h : JW C ρ e Φ) : JT C ρ e Φ := ⟨fun G0 H0 G H σ S Q ok ex => t_pt pw_t.pt (h.run G0 H0 G H σ S Q ok ex)⟩
theorem jw_1 {op : BoolOp} {a : Expr} {pos : Pos} {Φ : Bool → Rho → Prop} (h : JT C ρ a Φ) : JW C ρ (.BoolOp op [a] pos) Φ := ⟨fun G0 H0 G H σ S Q ok ex => by
  cases op
  · exact t_pw (pw_and1 pt_t) (h.run G0 H0 G H σ S Q ok ex)
  · exact t_pw (pw_or1 pt_t) (h.run G0 H0 G H σ S Q ok ex)⟩
theorem jw_and {a b : Expr} {rest : List Expr} {pos : Pos} {Φ : Bool → Rho → Prop} (h : JT C ρ a fun z ρ1 => (z = true → JW C ρ1 (.BoolOp .And (b :: rest) pos) Φ) ∧ (z = false → Φ false ρ1)) : JW C ρ (.BoolOp .And (a :: b :: rest) pos) Φ :=
  ⟨fun G0 H0 G H σ S Q ok ex => t_pw (pw_and pt_t pw_t) (h.run G0 H0 G H σ S _ (fun z ρ1 G1 H1 hz S1 g1 => by
    cases z with
    | true => exact iteT ((hz.1 rfl).run G0 H0 G1 H1 σ S1 Q (fun y ρ2 G2 H2 hy S2 g2 => ok _ _ _ _ hy S2 (g1.tr g2)) (ex.mono g1))
    | false => exact iteF (ok _ _ _ _ (hz.2 rfl) S1 g1)) ex)⟩
theorem jw_or {a b : Expr} {rest : List Expr} {pos : Pos} {Φ : Bool → Rho → Prop} (h : JT C ρ a fun z ρ1 => (z = false → JW C ρ1 (.BoolOp .Or (b :: rest) pos) Φ) ∧ (z = true → Φ true ρ1)) : JW C ρ (.BoolOp .Or (a :: b :: rest) pos) Φ :=
  ⟨fun G0 H0 G H σ S Q ok ex => t_pw (pw_or pt_t pw_t) (h.run G0 H0 G H σ S _ (fun z ρ1 G1 H1 hz S1 g1 => by
    cases z with
    | false => exact iteF ((hz.1 rfl).run G0 H0 G1 H1 σ S1 Q (fun y ρ2 G2 H2 hy S2 g2 => ok _ _ _ _ hy S2 (g1.tr g2)) (ex.mono g1))
    | true => exact iteT (ok _ _ _ _ (hz.2 rfl) S1 g1)) ex)⟩
theorem jt_not {a : Expr} {pos : Pos} {Φ : Bool → Rho → Prop} (h : JT C ρ a fun z ρ1 => Φ (!z) ρ1) : JT C ρ (.UnaryOp .Not a pos) Φ := ⟨fun G0 H0 G H σ S Q ok ex => t_pt (pt_not pt_t) (h.run G0 H0 G H σ S _ (fun z ρ1 G1 H1 hz S1 g1 => ok _ _ _ _ hz S1 g1) ex)⟩
theorem je_1 {op : BoolOp} {a : Expr} {pos : Pos} {Φ : Pd → Rho → Prop} (h : JE C ρ a Φ) : JE C ρ (.BoolOp op [a] pos) Φ := ⟨fun G0 H0 G H σ S Q ok ex => t_pe (pe_one pe_t) (h.run G0 H0 G H σ S Q ok ex)⟩
theorem je_and {a b : Expr} {rest : List Expr} {pos : Pos} {Φ : Pd → Rho → Prop} (h : JE C ρ a fun d ρ1 => ∃ z, d = .bool z ∧ (z = true → JE C ρ1 (.BoolOp .And (b :: rest) pos) Φ) ∧ (z = false → Φ (.bool false) ρ1)) : JE C ρ (.BoolOp .And (a :: b :: rest) pos) Φ :=
  ⟨fun G0 H0 G H σ S Q ok ex => t_pe (pe_and pe_t pe_t) (h.run G0 H0 G H σ S _ (fun d ρ1 v G1 H1 hz S1 g1 r1 => by
    obtain ⟨z, rfl, hz⟩ := hz
    cases r1
    refine ⟨z, rfl, ?_⟩
    cases z with
    | true => exact iteT ((hz.1 rfl).run G0 H0 G1 H1 σ S1 Q (fun y ρ2 v2 G2 H2 hy S2 g2 r2 => ok _ _ _ _ _ hy S2 (g1.tr g2) r2) (ex.mono g1))
    | false => exact iteF (ok _ _ _ _ _ (hz.2 rfl) S1 g1 (.bl _))) ex)⟩
theorem je_or {a b : Expr} {rest : List Expr} {pos : Pos} {Φ : Pd → Rho → Prop} (h : JE C ρ a fun d ρ1 => ∃ z, d = .bool z ∧ (z = false → JE C ρ1 (.BoolOp .Or (b :: rest) pos) Φ) ∧ (z = true → Φ (.bool true) ρ1)) : JE C ρ (.BoolOp .Or (a :: b :: rest) pos) Φ :=
  ⟨fun G0 H0 G H σ S Q ok ex => t_pe (pe_or pe_t pe_t) (h.run G0 H0 G H σ S _ (fun d ρ1 v G1 H1 hz S1 g1 r1 => by
    obtain ⟨z, rfl, hz⟩ := hz
    cases r1
    refine ⟨z, rfl, ?_⟩
    cases z with
    | false => exact iteF ((hz.1 rfl).run G0 H0 G1 H1 σ S1 Q (fun y ρ2 v2 G2 H2 hy S2 g2 r2 => ok _ _ _ _ _ hy S2 (g1.tr g2) r2) (ex.mono g1))
    | true => exact iteT (ok _ _ _ _ _ (hz.2 rfl) S1 g1 (.bl _))) ex)⟩
theorem je_not {a : Expr} {pos : Pos} {Φ : Pd → Rho → Prop} (h : JE C ρ a fun d ρ1 => ∃ z, d = .bool z ∧ Φ (.bool !z) ρ1) : JE C ρ (.UnaryOp .Not a pos) Φ := ⟨fun G0 H0 G H σ S Q ok ex => t_pe (pe_not pe_t) (h.run G0 H0 G H σ S _ (fun d ρ1 v G1 H1 hz S1 g1 r1 => by
  obtain ⟨z, rfl, hz⟩ := hz
  cases r1
  exact ⟨z, rfl, ok _ _ _ _ _ hz S1 g1 (.bl _)⟩) ex)⟩
theorem je_if {t a b : Expr} {pos : Pos} {Φ : Pd → Rho → Prop} (h : JT C ρ t fun z ρ1 => (z = true → JE C ρ1 a Φ) ∧ (z = false → JE C ρ1 b Φ)) : JE C ρ (.IfExp t a b pos) Φ :=
  ⟨fun G0 H0 G H σ S Q ok ex => t_pe (pe_ifExp pt_t pe_t pe_t) (h.run G0 H0 G H σ S _ (fun z ρ1 G1 H1 hz S1 g1 => by
    cases z with
    | true => exact iteT ((hz.1 rfl).run G0 H0 G1 H1 σ S1 Q (fun y ρ2 v2 G2 H2 hy S2 g2 r2 => ok _ _ _ _ _ hy S2 (g1.tr g2) r2) (ex.mono g1))
    | false => exact iteF ((hz.2 rfl).run G0 H0 G1 H1 σ S1 Q (fun y ρ2 v2 G2 H2 hy S2 g2 r2 => ok _ _ _ _ _ hy S2 (g1.tr g2) r2) (ex.mono g1))) ex)⟩
/-- data's truth -/
def TruK (d : Pd) (Φ : Bool → Prop) : Prop := match d with
  | .none => Φ false
  | .bool b => Φ b
  | .int i => Φ (i != 0)
  | .str x => x.length ≤ sizeLine ∧ Φ ((x.length : Int) != 0)
  | .list xs => Φ (!xs.isEmpty)
  | .tuple xs => Φ (!xs.isEmpty)
  | _ => False
theorem RpA.empty {K : Fg} {H : Hp} {v : List V} {d : List Pd} (r : RpA K H v d) : v.isEmpty = d.isEmpty := by cases r <;> rfl
/-- a test by an expression's truth -/
theorem jt_val {e : Expr} {Φ : Bool → Rho → Prop} (h : JE C ρ e fun d ρ1 => TruK d fun z => Φ z ρ1) (he : ∀ whole, isTrue e C.X.env whole = (do let v ← whole; standAt e.pos; holding [v] (truthy v)) := by intro _; rfl) : JT C ρ e Φ :=
  ⟨fun G0 H0 G H σ S Q ok ex => t_pt (pt_truth pe_t he) (h.run G0 H0 G H σ S _ (fun d ρ1 v G1 H1 hz S1 g1 r1 => by
    have hz : TruK d fun z => Φ z ρ1 := hz
    unfold TruK at hz
    split at hz
    · cases r1; exact ⟨_, rfl, ok _ _ _ _ hz S1 g1⟩
    · cases r1; exact ⟨_, rfl, ok _ _ _ _ hz S1 g1⟩
    · cases r1; exact ⟨_, rfl, ok _ _ _ _ hz S1 g1⟩
    · cases r1; exact ⟨_, ⟨hz.1, rfl⟩, ok _ _ _ _ hz.2 S1 g1⟩
    · cases r1 with
      | lst q r => exact ⟨_, .inl ⟨_, SqL.of (S1.gh _ _ q), rfl⟩, by rw [r.empty]; exact ok _ _ _ _ hz S1 g1⟩
    · cases r1 with
      | tup q r => exact ⟨_, .inr (.inl ⟨_, S1.gh.st q, rfl⟩), by rw [r.empty]; exact ok _ _ _ _ hz S1 g1⟩
    · exact hz.elim) ex)⟩
end
end KJ

set_option Elab.async false
set_option linter.all false
set_option maxRecDepth 100000
set_option maxHeartbeats 4100000
/-! J3: displays, subscripts, slices, built-ins. -/
namespace KJ
open PySem PySem.Spec L2 PyProof.Rows
theorem ble_line {n : Nat} (h : Nat.ble n 1000 = true) : n ≤ sizeLine := Nat.le_trans (Nat.le_of_ble_eq_true h) (by rw [sizeLine_eq]; decide)
section
variable {C : Jc} {ρ : Rho} {k : Nat}
/-! ### argument lists, displays -/
theorem ja_nil {Φ : List Pd → Rho → Prop} (h : Φ [] ρ) : JA C ρ [] Φ := ⟨fun G0 H0 G H σ S Q ok ex => t_pa pa_nil (ok _ _ _ _ _ h S (Ex.rfl' G) .nil)⟩
theorem ja_cons {e : Expr} {es : List Expr} {Φ : List Pd → Rho → Prop} (h : JE C ρ e fun d ρ1 => JA C ρ1 es fun ds ρ2 => Φ (d :: ds) ρ2) (hs : starEach (e :: es) C.X.env = (false, eval e C.X.env) :: starEach es C.X.env := by rfl) : JA C ρ (e :: es) Φ :=
  ⟨fun G0 H0 G H σ S Q ok ex => t_pa (pa_cons pe_t pa_t hs) (h.run G0 H0 G H σ S _ (fun d ρ1 v G1 H1 h1 S1 g1 r1 => h1.run G0 H0 G1 H1 σ S1 _ (fun ds ρ2 vs G2 H2 h2 S2 g2 r2 => ok _ _ _ _ _ h2 S2 (g1.tr g2) (.cons (r1.mono g2) r2)) (ex.mono g1)) ex)⟩
theorem je_tup {es : List Expr} {n : Nat} {pos : Pos} {Φ : Pd → Rho → Prop} (h : JA C ρ es fun ds ρ1 => Nat.ble ds.length 1000 = true ∧ Φ (.tuple ds) ρ1) : JE C ρ (.Tuple es n pos) Φ :=
  ⟨fun G0 H0 G H σ S Q ok ex => t_pe (pe_tup pa_t) (h.run G0 H0 G H σ S _ (fun ds ρ1 vs G1 H1 h1 S1 g1 r1 => ⟨by rw [r1.len]; exact ble_line h1.1, fun p hp =>
      have g : Ex G1 (upd G1 p (.tup vs)) := Ex.nw (S1.gh.fr hp)
      ok _ _ _ _ _ h1.2 (S1.lay hp) (g1.tr g) (.tup (SqT.of upd_same) (r1.mono g))⟩) ex)⟩
theorem Stt.notIn {K : Fg} {N : List Str} {G0 H0 G H : Hp} {σ : L2.St} {ρ : Rho} {p : Addr} (S : Stt K N G0 H0 G H σ ρ) (hp : H p = none) : p ∉ fpR ρ := fun hm => (S.own p hm).2.2 hp
theorem jf_lst {es : List Expr} {pos : Pos} {Φ : List Pd → Rho → Prop} (h : JA C ρ es fun ds ρ1 => Nat.ble ds.length 1000 = true ∧ Φ ds ρ1) : JF C ρ (.List es pos) Φ :=
  ⟨fun G0 H0 G H σ S Q ok ex => t_pe (pe_lst pa_t) (h.run G0 H0 G H σ S _ (fun ds ρ1 vs G1 H1 h1 S1 g1 r1 => ⟨by rw [r1.len]; exact ble_line h1.1, fun p hp =>
      ok _ _ _ _ _ _ h1.2 (S1.layH hp) g1 (S1.h0.fr hp) (S1.gh.fr hp) (S1.notIn hp) upd_same r1⟩) ex)⟩
theorem je_lst {es : List Expr} {pos : Pos} {Φ : Pd → Rho → Prop} (h : JA C ρ es fun ds ρ1 => Nat.ble ds.length 1000 = true ∧ Φ (.list ds) ρ1) : JE C ρ (.List es pos) Φ := je_fr (jf_lst h)

/-! ### subscripts -/
def rI (X : Cx) : R2 := fun x y H Q => ∀ (value slice : Expr) pins s σ v u, Inv X pins σ H s → RelV x v → RelV y u → subscripted slice false v u = operate [v, u] (getItem v u) → wpAny (model X.prog X.w) X.A (subscriptTail value slice v u) (EP X pins σ Q) X.xe s
theorem ix_t {X : Cx} : IxR X (rI X) := fun value slice pins s σ _ _ _ v u _ I rx ry h hs => h value slice pins s σ v u I rx ry hs
theorem t_ix {X : Cx} {r : R2} (o : IxR X r) {x y : V} {H : Hp} {Q : VK} (h : r x y H Q) : rI X x y H Q := fun value slice pins s σ v u I rx ry hs => o value slice pins s σ H x y v u Q I rx ry h hs
theorem RpA.at {K : Fg} {H : Hp} {vs : List V} {ds : List Pd} {i : Int} {z : Pd} (r : RpA K H vs ds) (h : atI ds i = some z) : ∃ v, atI vs i = some v ∧ Rp K H v z := by
  unfold atI at h ⊢
  rw [r.len]
  cases q : ixN ds.length i with
  | none => rw [q] at h; cases h
  | some j =>
    rw [q] at h
    exact r.getD h
/-- d[e] -/
def SubK (d e : Pd) (Φ : Pd → Prop) : Prop := match d, e with
  | .list xs, .int i => ∃ z, atI xs i = some z ∧ Φ z
  | .tuple xs, .int i => ∃ z, atI xs i = some z ∧ Φ z
  | .str x, .int i => x.length ≤ sizeLine ∧ ∃ c, atI x.cps.toList i = some c ∧ Φ (.str ⟨#[c]⟩)
  | _, _ => False
theorem sub_ok {d e : Pd} {Φ : Pd → Prop} {x y : V} {G0 H0 G H : Hp} {σ : L2.St} {ρ' : Rho} {Q : VK} (h : SubK d e Φ) (S : SttC C G0 H0 G H σ ρ') (rx : Rp C.X.K G x d) (ry : Rp C.X.K G y e) (ok : ∀ z v, Φ z → Rp C.X.K G v z → Q v H) : rI C.X x y H Q := by
  unfold SubK at h
  split at h
  · obtain ⟨z, hz, h⟩ := h
    cases ry
    cases rx with
    | lst q r =>
      obtain ⟨v, hv, rv⟩ := r.at hz
      exact t_ix ix_list ⟨_, _, _, v, rfl, rfl, SqL.of (S.gh _ _ q), hv, ok _ _ h rv⟩
  · obtain ⟨z, hz, h⟩ := h
    cases ry
    cases rx with
    | tup q r =>
      obtain ⟨v, hv, rv⟩ := r.at hz
      exact t_ix ix_tup ⟨_, _, _, v, rfl, rfl, S.gh.st q, hv, ok _ _ h rv⟩
  · obtain ⟨hl, c, hc, h⟩ := h
    cases ry; cases rx
    exact t_ix ix_str ⟨_, _, c, rfl, rfl, hl, hc, ok _ _ h (.str _)⟩
  · exact h.elim
theorem je_sub {a b : Expr} {pos : Pos} {Φ : Pd → Rho → Prop} (h : JE C ρ a fun d ρ1 => JE C ρ1 b fun e ρ2 => SubK d e fun z => Φ z ρ2) (hs : PlainIx b := by intro _ _; rfl) : JE C ρ (.Subscript a b pos) Φ :=
  ⟨fun G0 H0 G H σ S Q ok ex => t_pe (pe_ix ix_t pe_t pe_t hs) (h.run G0 H0 G H σ S _ (fun d1 ρ1 v1 G1 H1 h1 S1 g1 r1 => h1.run G0 H0 G1 H1 σ S1 _ (fun d2 ρ2 v2 G2 H2 h2 S2 g2 r2 =>
    sub_ok h2 S2 (r1.mono g2) r2 fun z v hz rz => ok z ρ2 v G2 H2 hz S2 (g1.tr g2) rz) (ex.mono g1)) ex)⟩
/-- a name's value, as it is -/
theorem name_ow {x : Str} {a : Addr} {ds : List Pd} {pos : Pos} (l : Lk ρ x (.ow a ds)) {G0 H0 G H : Hp} {σ : L2.St} (S : SttC C G0 H0 G H σ ρ) {Q : VK} (h : ∀ vs, H a = some (.lst vs) → RpA C.X.K G vs ds → Q (.ref a) H)
    (hv : visB C.X.env.scope x = true) (hd : (x == ("__debug__" : Str)) = false) (hc : (x == ("__classdict__" : Str)) = false) : tE C.X (.Name x pos) σ H Q := by
  obtain ⟨i, hi⟩ := l.at
  obtain ⟨e, vs, q, r⟩ := S.ok i _ hi
  exact t_pe (pe_var (S.slot hi).1 (vis_of hv) hd hc) ⟨_, getD_some e, h vs q r⟩
theorem Lk.ow_at {K : Fg} {N : List Str} {G0 H0 G H : Hp} {σ : L2.St} {x : Str} {a : Addr} {ds : List Pd} (l : Lk ρ x (.ow a ds)) (S : Stt K N G0 H0 G H σ ρ) : ∃ vs, H a = some (.lst vs) ∧ RpA K G vs ds := by
  obtain ⟨i, hi⟩ := l.at
  obtain ⟨e, vs, q, r⟩ := S.ok i _ hi
  exact ⟨vs, q, r⟩
/-- x[e], x an own list, which stays one's own -/
theorem je_subo {x : Str} {a : Addr} {ds : List Pd} {b : Expr} {p pos : Pos} {Φ : Pd → Rho → Prop} (l : Lk ρ x (.ow a ds)) (h : JE C ρ b fun e ρ2 => ∃ i ds' z, e = .int i ∧ Lk ρ2 x (.ow a ds') ∧ atI ds' i = some z ∧ Φ z ρ2) (hs : PlainIx b := by intro _ _; rfl)
    (hv : visB C.X.env.scope x = true := by kernel_rfl) (hd : (x == ("__debug__" : Str)) = false := by kernel_rfl) (hc : (x == ("__classdict__" : Str)) = false := by kernel_rfl) : JE C ρ (.Subscript (.Name x p) b pos) Φ :=
  ⟨fun G0 H0 G H σ S Q ok ex => t_pe (pe_ix ix_t pe_t pe_t hs) (name_ow l S (fun vs q r => h.run G0 H0 G H σ S _ (fun d2 ρ2 v2 G2 H2 h2 S2 g2 r2 => by
    obtain ⟨i, ds', z, rfl, l2, hz, hΦ⟩ := h2
    obtain ⟨vs', q', r'⟩ := l2.ow_at S2
    obtain ⟨v, hv, rv⟩ := r'.at hz
    cases r2
    exact t_ix ix_list ⟨_, _, _, v, rfl, rfl, SqL.of q', hv, ok _ _ _ _ _ hΦ S2 g2 rv⟩) ex) hv hd hc)⟩

/-! ### slices -/
def cutD {α : Type} (xs : List α) (lo hi : Option Int) : List α := (xs.drop (HT.sIx xs.length 0 lo)).take (HT.sIx xs.length xs.length hi - HT.sIx xs.length 0 lo)
theorem RpA.cut {K : Fg} {H : Hp} {vs : List V} {ds : List Pd} (r : RpA K H vs ds) (lo hi : Option Int) : RpA K H (cutV vs lo hi) (cutD ds lo hi) := by
  unfold cutV cutD
  rw [r.len]
  exact (r.drop _).take _
def tO (X : Cx) (e : Option Expr) : TO := fun σ H Q => match e with
  | none => Q none H
  | some e => tE X e σ H fun x H1 => ∃ i, x = .int i ∧ Q (some i) H1
theorem po_t {X : Cx} {e : Option Expr} : PO X e (tO X e) := by
  cases e with
  | none => exact po_none
  | some e => exact po_some pe_t
structure JO (C : Jc) (ρ : Rho) (e : Option Expr) (Φ : Option Int → Rho → Prop) : Prop where
  run : ∀ G0 H0 G H σ, SttC C G0 H0 G H σ ρ → ∀ Q : Option Int → Hp → Prop, (∀ o ρ' G' H', Φ o ρ' → SttC C G0 H0 G' H' σ ρ' → Ex G G' → Q o H') → exE C G0 H0 G σ → tO C.X e σ H Q
theorem jo_none {Φ : Option Int → Rho → Prop} (h : Φ none ρ) : JO C ρ none Φ := ⟨fun G0 H0 G H σ S Q ok ex => ok _ _ _ _ h S (Ex.rfl' G)⟩
theorem jo_some {e : Expr} {Φ : Option Int → Rho → Prop} (h : JE C ρ e fun d ρ1 => ∃ i, d = .int i ∧ Φ (some i) ρ1) : JO C ρ (some e) Φ := ⟨fun G0 H0 G H σ S Q ok ex => h.run G0 H0 G H σ S _ (fun d ρ1 v G1 H1 h1 S1 g1 r1 => by
  obtain ⟨i, rfl, hΦ⟩ := h1
  cases r1
  exact ⟨i, rfl, ok _ _ _ _ hΦ S1 g1⟩) ex⟩
def rS (X : Cx) : V → Option Int → Option Int → Hp → VK → Prop := fun x lo hi H Q => ∀ pins s σ v vl vu sl, Inv X pins σ H s → RelV x v → s.heap.IsSliceOf sl vl vu .none → IsPart vl lo → IsPart vu hi →
    ∃ T nm, typeLookup (.type T) "__getitem__" = pure (some (.builtin nm)) ∧ s.TypeIs v T ∧ wpAny (model X.prog X.w) X.A (getItem v (.ref sl)) (EP X pins σ Q) X.xe s
theorem sl_t {X : Cx} : SlR X (rS X) := fun pins s σ _ _ v vl vu _ _ sl _ I rx hs pl pu h => h pins s σ v vl vu sl I rx hs pl pu
theorem t_sl {X : Cx} {r : V → Option Int → Option Int → Hp → VK → Prop} (o : SlR X r) {x : V} {lo hi : Option Int} {H : Hp} {Q : VK} (h : r x lo hi H Q) : rS X x lo hi H Q := fun pins s σ v vl vu sl I rx hs pl pu => o pins s σ H x v vl vu lo hi sl Q I rx hs pl pu h
/-- a[lo:hi] of a list -/
theorem jf_sl {a : Expr} {lo hi : Option Expr} {p2 pos : Pos} {Φ : List Pd → Rho → Prop} (h : JE C ρ a fun d ρ1 => ∃ xs, d = .list xs ∧ JO C ρ1 lo fun i ρ2 => JO C ρ2 hi fun j ρ3 => Φ (cutD xs i j) ρ3) : JF C ρ (.Subscript a (.Slice lo hi none p2) pos) Φ :=
  ⟨fun G0 H0 G H σ S Q ok ex => t_pe (pe_slice sl_t pe_t po_t po_t) (h.run G0 H0 G H σ S _ (fun d1 ρ1 v1 G1 H1 h1 S1 g1 r1 => by
    obtain ⟨xs, rfl, h1⟩ := h1
    exact h1.run G0 H0 G1 H1 σ S1 _ (fun i ρ2 G2 H2 h2 S2 g2 => h2.run G0 H0 G2 H2 σ S2 _ (fun j ρ3 G3 H3 h3 S3 g3 => by
      cases r1 with
      | lst q r =>
        exact t_sl sl_list ⟨_, _, rfl, SqL.of (S3.gh _ _ (g3 _ _ (g2 _ _ q))), fun p hp => ok _ _ _ _ _ _ h3 (S3.layH hp) ((g1.tr g2).tr g3) (S3.h0.fr hp) (S3.gh.fr hp) (S3.notIn hp) upd_same ((r.mono (g2.tr g3)).cut i j)⟩) (ex.mono (g1.tr g2))) (ex.mono g1)) ex)⟩
/-- a[lo:hi] of a tuple, a text -/
def SlK (d : Pd) (i j : Option Int) (Φ : Pd → Prop) : Prop := match d with
  | .list xs => Φ (.list (cutD xs i j))
  | .tuple xs => Φ (.tuple (cutD xs i j))
  | .str x => x.length ≤ sizeLine ∧ Φ (.str (cutS x i j))
  | _ => False
theorem je_sl {a : Expr} {lo hi : Option Expr} {p2 pos : Pos} {Φ : Pd → Rho → Prop} (h : JE C ρ a fun d ρ1 => JO C ρ1 lo fun i ρ2 => JO C ρ2 hi fun j ρ3 => SlK d i j fun z => Φ z ρ3) : JE C ρ (.Subscript a (.Slice lo hi none p2) pos) Φ :=
  ⟨fun G0 H0 G H σ S Q ok ex => t_pe (pe_slice sl_t pe_t po_t po_t) (h.run G0 H0 G H σ S _ (fun d1 ρ1 v1 G1 H1 h1 S1 g1 r1 => by
    have h1 : JO C ρ1 lo fun i ρ2 => JO C ρ2 hi fun j ρ3 => SlK d1 i j fun z => Φ z ρ3 := h1
    exact h1.run G0 H0 G1 H1 σ S1 _ (fun i ρ2 G2 H2 h2 S2 g2 => h2.run G0 H0 G2 H2 σ S2 _ (fun j ρ3 G3 H3 h3 S3 g3 => by
      have h3 : SlK d1 i j fun z => Φ z ρ3 := h3
      have r3 := r1.mono (g2.tr g3)
      unfold SlK at h3
      split at h3
      · cases r3 with
        | @lst a0 vs0 ds0 q r =>
          refine t_sl sl_list ⟨_, _, rfl, SqL.of (S3.gh _ _ q), fun p hp => ?_⟩
          have g : Ex G3 (upd G3 p (.lst (cutV vs0 i j))) := Ex.nw (S3.gh.fr hp)
          exact ok _ _ _ _ _ h3 (S3.lay hp) (((g1.tr g2).tr g3).tr g) (.lst upd_same ((r.cut i j).mono g))
      · cases r3 with
        | @tup a0 vs0 _ q r =>
          refine t_sl sl_tupA ⟨_, vs0, rfl, S3.gh.st q, fun z => ?_, fun z p hp => ?_⟩
          · have e : ∀ ds0 : List Pd, RpA C.X.K G3 vs0 ds0 → cutD ds0 i j = ds0 := fun ds0 r => by
              unfold cutD
              rw [← r.len, z.1, z.2, List.drop_zero, Nat.sub_zero, r.len, List.take_length]
            rw [e _ r] at h3
            exact ok _ _ _ _ _ h3 S3 ((g1.tr g2).tr g3) (.tup q r)
          · have g : Ex G3 (upd G3 p (.tup (cutV vs0 i j))) := Ex.nw (S3.gh.fr hp)
            exact ok _ _ _ _ _ h3 (S3.lay hp) (((g1.tr g2).tr g3).tr g) (.tup (SqT.of upd_same) ((r.cut i j).mono g))
      · cases r3
        exact t_sl sl_str ⟨_, rfl, h3.1, ok _ _ _ _ _ h3.2 S3 ((g1.tr g2).tr g3) (.str _)⟩
      · exact h3.elim) (ex.mono (g1.tr g2))) (ex.mono g1)) ex)⟩
end
end KJ

set_option Elab.async false
set_option linter.all false
set_option maxRecDepth 100000
set_option maxHeartbeats 4100000
/-! J4: built-ins by their names. -/
namespace KJ
open PySem PySem.Spec L2 PyProof.Rows
def rC (X : Cx) (f : Value) : List V → Hp → VK → Prop := fun xs H Q => ∀ pins s σ us, Inv X pins σ H s → Vals xs us → wpAny (model X.prog X.w) X.A (call f us) (EP X pins σ Q) X.xe s
theorem ca_t {X : Cx} {f : Value} : CallR X f (rC X f) := fun pins s σ _ _ us _ I r h => h pins s σ us I r
theorem t_ca {X : Cx} {f : Value} {r : List V → Hp → VK → Prop} (o : CallR X f r) {xs : List V} {H : Hp} {Q : VK} (h : r xs H Q) : rC X f xs H Q := fun pins s σ us I rv => o pins s σ H xs us Q I rv h
section
variable {C : Jc} {ρ : Rho} {k : Nat}
/-- a built-in function, a built-in class by their names -/
theorem je_bi {x : Str} {id : String} {p pos : Pos} {e : Expr} {es : List Expr} {B : List Pd → Rho → Prop} {Φ : Pd → Rho → Prop} (c : Jok C k) (hx : bl.contains x = true) (hv : bootBuiltins x = some (.builtin id))
    (rule : ∀ {G0 H0 G H : Hp} {σ : L2.St} {ds : List Pd} {ρ1 : Rho} {vs : List V} {Q : VK}, B ds ρ1 → SttC C G0 H0 G H σ ρ1 → RpA C.X.K G vs ds → okE C G0 H0 G σ Φ Q → rC C.X (.builtin id) vs H Q)
    (h : JA C ρ (e :: es) B) (hg : Gl C.X x) (he : starEach (e :: es) C.X.env = (false, eval e C.X.env) :: starEach es C.X.env) (hpl : (backTo pos (starEach es C.X.env)).any (·.1) = false) (hn : x ≠ "__name__" := by decide +kernel) (hd : (x == ("__debug__" : Str)) = false := by decide +kernel) : JE C ρ (.Call (.Name x p) (e :: es) [] pos) Φ :=
  ⟨fun G0 H0 G H σ S Q ok ex => t_pe (pe_callB ca_t hg (c.nb x hx) hv pa_t hn hd he hpl) (h.run G0 H0 G H σ S _ (fun ds ρ1 vs G1 H1 h1 S1 g1 r1 => rule h1 S1 r1 fun d ρ' v G' H' a b c' d' => ok d ρ' v G' H' a b (g1.tr c') d') ex)⟩
theorem je_bt {x : Str} {id : String} {p pos : Pos} {e : Expr} {es : List Expr} {B : List Pd → Rho → Prop} {Φ : Pd → Rho → Prop} (c : Jok C k) (hx : bl.contains x = true) (hv : bootBuiltins x = some (.type id))
    (rule : ∀ {G0 H0 G H : Hp} {σ : L2.St} {ds : List Pd} {ρ1 : Rho} {vs : List V} {Q : VK}, B ds ρ1 → SttC C G0 H0 G H σ ρ1 → RpA C.X.K G vs ds → okE C G0 H0 G σ Φ Q → rC C.X (.type id) vs H Q)
    (h : JA C ρ (e :: es) B) (hg : Gl C.X x) (he : starEach (e :: es) C.X.env = (false, eval e C.X.env) :: starEach es C.X.env) (hpl : (backTo pos (starEach es C.X.env)).any (·.1) = false) (hn : x ≠ "__name__" := by decide +kernel) (hd : (x == ("__debug__" : Str)) = false := by decide +kernel) : JE C ρ (.Call (.Name x p) (e :: es) [] pos) Φ :=
  ⟨fun G0 H0 G H σ S Q ok ex => t_pe (pe_callTy ca_t hg (c.nb x hx) hv pa_t hn hd he hpl) (h.run G0 H0 G H σ S _ (fun ds ρ1 vs G1 H1 h1 S1 g1 r1 => rule h1 S1 r1 fun d ρ' v G' H' a b c' d' => ok d ρ' v G' H' a b (g1.tr c') d') ex)⟩
theorem RpA.inv1 {K : Fg} {H : Hp} {vs : List V} {d : Pd} (r : RpA K H vs [d]) : ∃ v, vs = [v] ∧ Rp K H v d := by
  cases r with
  | cons q t => cases t; exact ⟨_, rfl, q⟩
theorem RpA.inv2 {K : Fg} {H : Hp} {vs : List V} {d e : Pd} (r : RpA K H vs [d, e]) : ∃ v w, vs = [v, w] ∧ Rp K H v d ∧ Rp K H w e := by
  cases r with
  | cons q t => cases t with
    | cons q2 t2 => cases t2; exact ⟨_, _, rfl, q, q2⟩
theorem ja1 {e : Expr} {Φ : List Pd → Rho → Prop} (h : JE C ρ e fun d ρ1 => Φ [d] ρ1) (hs : starEach [e] C.X.env = (false, eval e C.X.env) :: starEach [] C.X.env := by rfl) : JA C ρ [e] Φ := ja_cons (h.imp fun _ _ q => ja_nil q) hs
theorem ja2 {e f : Expr} {Φ : List Pd → Rho → Prop} (h : JE C ρ e fun d ρ1 => JE C ρ1 f fun d2 ρ2 => Φ [d, d2] ρ2) (hs : starEach [e, f] C.X.env = (false, eval e C.X.env) :: starEach [f] C.X.env := by rfl) (hs2 : starEach [f] C.X.env = (false, eval f C.X.env) :: starEach [] C.X.env := by rfl) :
    JA C ρ [e, f] Φ := ja_cons (h.imp fun _ _ q => ja1 q hs2) hs
/-- len -/
def LenK (d : Pd) (Φ : Pd → Prop) : Prop := match d with
  | .str x => x.length ≤ sizeLine ∧ Φ (.int x.length)
  | .list xs => Φ (.int xs.length)
  | .tuple xs => Φ (.int xs.length)
  | _ => False
theorem je_len {p pos : Pos} {e : Expr} {Φ : Pd → Rho → Prop} (c : Jok C k) (h : JE C ρ e fun d ρ1 => LenK d fun z => Φ z ρ1) (hg : Gl C.X "len" := by unfold L2.Gl; kernel_rfl) (hs : starEach [e] C.X.env = (false, eval e C.X.env) :: starEach [] C.X.env := by rfl) : JE C ρ (.Call (.Name "len" p) [e] [] pos) Φ :=
  je_bi (B := fun ds ρ1 => ∃ d, ds = [d] ∧ LenK d fun z => Φ z ρ1) c (by decide +kernel) PySem.boot_len (fun {G0 H0 G H σ ds ρ1 vs Q} hB S r ok => by
    obtain ⟨d, rfl, hB⟩ := hB
    obtain ⟨v, rfl, rr⟩ := r.inv1
    unfold LenK at hB
    split at hB
    · cases rr; exact t_ca call_len_str ⟨_, rfl, hB.1, ok _ _ _ _ _ hB.2 S (Ex.rfl' G) (.int _)⟩
    · cases rr with
      | lst q r3 => exact t_ca call_len_seq ⟨_, _, rfl, .inl (SqL.of (S.gh _ _ q)), by rw [r3.len]; exact ok _ _ _ _ _ hB S (Ex.rfl' G) (.int _)⟩
    · cases rr with
      | tup q r3 => exact t_ca call_len_seq ⟨_, _, rfl, .inr (S.gh.st q), by rw [r3.len]; exact ok _ _ _ _ _ hB S (Ex.rfl' G) (.int _)⟩
    · exact hB.elim) (ja1 (h.imp fun d ρ1 q => ⟨d, rfl, q⟩) hs) hg hs rfl
/-- len of an own list, which stays one's own -/
theorem je_leno {x : Str} {a : Addr} {ds : List Pd} {p p2 pos : Pos} {Φ : Pd → Rho → Prop} (c : Jok C k) (l : Lk ρ x (.ow a ds)) (h : Φ (.int ds.length) ρ) (hg : Gl C.X "len" := by unfold L2.Gl; kernel_rfl)
    (hv : visB C.X.env.scope x = true := by kernel_rfl) (hd : (x == ("__debug__" : Str)) = false := by kernel_rfl) (hc : (x == ("__classdict__" : Str)) = false := by kernel_rfl) : JE C ρ (.Call (.Name "len" p) [.Name x p2] [] pos) Φ :=
  ⟨fun G0 H0 G H σ S Q ok ex => t_pe (pe_callB call_len_seq hg (c.nb "len" (by decide +kernel)) PySem.boot_len (pa_cons pe_t pa_nil)) (name_ow l S (fun vs q r => ⟨_, _, rfl, .inl (SqL.of q), by rw [r.len]; exact ok _ _ _ _ _ h S (Ex.rfl' G) (.int _)⟩) hv hd hc)⟩
theorem RpA.bools {K : Fg} {H : Hp} : ∀ {vs : List V} {bs : List Bool}, RpA K H vs (bs.map PyData.bool) → vs = bs.map V.bl
  | [], [], _ => rfl
  | v :: vs, b :: r, .cons q t => by
    cases q
    rw [RpA.bools t]; rfl
theorem je_all {p pos : Pos} {e : Expr} {Φ : Pd → Rho → Prop} (c : Jok C k) (h : JE C ρ e fun d ρ1 => ∃ bs : List Bool, d = .list (bs.map .bool) ∧ Φ (.bool (bs.all id)) ρ1) (hg : Gl C.X "all" := by unfold L2.Gl; kernel_rfl) (hs : starEach [e] C.X.env = (false, eval e C.X.env) :: starEach [] C.X.env := by rfl) :
    JE C ρ (.Call (.Name "all" p) [e] [] pos) Φ :=
  je_bi (B := fun ds ρ1 => ∃ bs : List Bool, ds = [.list (bs.map .bool)] ∧ Φ (.bool (bs.all id)) ρ1) c (by decide +kernel) PyProof.Rows.boot_all (fun {G0 H0 G H σ ds ρ1 vs Q} hB S r ok => by
    obtain ⟨bs, rfl, hB⟩ := hB
    obtain ⟨v, rfl, rr⟩ := r.inv1
    cases rr with
    | lst q r3 =>
      have e2 := r3.bools
      subst e2
      exact t_ca (cr_all c.calm) ⟨_, bs, rfl, SqL.of (S.gh _ _ q), ok _ _ _ _ _ hB S (Ex.rfl' G) (.bl _)⟩) (ja1 (h.imp fun d ρ1 ⟨bs, e, q⟩ => ⟨bs, by rw [e], q⟩) hs) hg hs rfl
theorem je_any {p pos : Pos} {e : Expr} {Φ : Pd → Rho → Prop} (c : Jok C k) (h : JE C ρ e fun d ρ1 => ∃ bs : List Bool, d = .list (bs.map .bool) ∧ Φ (.bool (bs.any id)) ρ1) (hg : Gl C.X "any" := by unfold L2.Gl; kernel_rfl) (hs : starEach [e] C.X.env = (false, eval e C.X.env) :: starEach [] C.X.env := by rfl) :
    JE C ρ (.Call (.Name "any" p) [e] [] pos) Φ :=
  je_bi (B := fun ds ρ1 => ∃ bs : List Bool, ds = [.list (bs.map .bool)] ∧ Φ (.bool (bs.any id)) ρ1) c (by decide +kernel) PyProof.Rows.boot_any (fun {G0 H0 G H σ ds ρ1 vs Q} hB S r ok => by
    obtain ⟨bs, rfl, hB⟩ := hB
    obtain ⟨v, rfl, rr⟩ := r.inv1
    cases rr with
    | lst q r3 =>
      have e2 := r3.bools
      subst e2
      exact t_ca (cr_any c.calm) ⟨_, bs, rfl, SqL.of (S.gh _ _ q), ok _ _ _ _ _ hB S (Ex.rfl' G) (.bl _)⟩) (ja1 (h.imp fun d ρ1 ⟨bs, e, q⟩ => ⟨bs, by rw [e], q⟩) hs) hg hs rfl
theorem je_max {p pos : Pos} {e f : Expr} {Φ : Pd → Rho → Prop} (c : Jok C k) (h : JE C ρ e fun d ρ1 => JE C ρ1 f fun d2 ρ2 => ∃ i j, d = .int i ∧ d2 = .int j ∧ Φ (.int (if j > i then j else i)) ρ2) (hg : Gl C.X "max" := by unfold L2.Gl; kernel_rfl)
    (hs : starEach [e, f] C.X.env = (false, eval e C.X.env) :: starEach [f] C.X.env := by rfl) (hs2 : starEach [f] C.X.env = (false, eval f C.X.env) :: starEach [] C.X.env := by rfl) : JE C ρ (.Call (.Name "max" p) [e, f] [] pos) Φ :=
  je_bi (B := fun ds ρ1 => ∃ i j, ds = [.int i, .int j] ∧ Φ (.int (if j > i then j else i)) ρ1) c (by decide +kernel) PyProof.Rows.boot_max (fun {G0 H0 G H σ ds ρ1 vs Q} hB S r ok => by
    obtain ⟨i, j, rfl, hB⟩ := hB
    obtain ⟨v, w, rfl, q1, q2⟩ := r.inv2
    cases q1; cases q2
    exact t_ca (call_max2 c.calm) ⟨_, _, rfl, ok _ _ _ _ _ hB S (Ex.rfl' G) (.int _)⟩) (ja2 (h.imp fun d ρ1 q => q.imp fun d2 ρ2 ⟨i, j, e1, e2, q⟩ => ⟨i, j, by rw [e1, e2], q⟩) hs hs2) hg hs (by rw [hs2]; rfl)
theorem je_min {p pos : Pos} {e f : Expr} {Φ : Pd → Rho → Prop} (c : Jok C k) (h : JE C ρ e fun d ρ1 => JE C ρ1 f fun d2 ρ2 => ∃ i j, d = .int i ∧ d2 = .int j ∧ Φ (.int (if j < i then j else i)) ρ2) (hg : Gl C.X "min" := by unfold L2.Gl; kernel_rfl)
    (hs : starEach [e, f] C.X.env = (false, eval e C.X.env) :: starEach [f] C.X.env := by rfl) (hs2 : starEach [f] C.X.env = (false, eval f C.X.env) :: starEach [] C.X.env := by rfl) : JE C ρ (.Call (.Name "min" p) [e, f] [] pos) Φ :=
  je_bi (B := fun ds ρ1 => ∃ i j, ds = [.int i, .int j] ∧ Φ (.int (if j < i then j else i)) ρ1) c (by decide +kernel) PyProof.Rows.boot_min (fun {G0 H0 G H σ ds ρ1 vs Q} hB S r ok => by
    obtain ⟨i, j, rfl, hB⟩ := hB
    obtain ⟨v, w, rfl, q1, q2⟩ := r.inv2
    cases q1; cases q2
    exact t_ca (call_min2 c.calm) ⟨_, _, rfl, ok _ _ _ _ _ hB S (Ex.rfl' G) (.int _)⟩) (ja2 (h.imp fun d ρ1 q => q.imp fun d2 ρ2 ⟨i, j, e1, e2, q⟩ => ⟨i, j, by rw [e1, e2], q⟩) hs hs2) hg hs (by rw [hs2]; rfl)
theorem je_divmod {p pos : Pos} {e f : Expr} {Φ : Pd → Rho → Prop} (c : Jok C k) (h : JE C ρ e fun d ρ1 => JE C ρ1 f fun d2 ρ2 => ∃ i j, d = .int i ∧ d2 = .int j ∧ (0 < j ∧ j < 1073741824) ∧ Φ (.tuple [.int (i / j), .int (i % j)]) ρ2) (hg : Gl C.X "divmod" := by unfold L2.Gl; kernel_rfl)
    (hs : starEach [e, f] C.X.env = (false, eval e C.X.env) :: starEach [f] C.X.env := by rfl) (hs2 : starEach [f] C.X.env = (false, eval f C.X.env) :: starEach [] C.X.env := by rfl) : JE C ρ (.Call (.Name "divmod" p) [e, f] [] pos) Φ :=
  je_bi (B := fun ds ρ1 => ∃ i j, ds = [.int i, .int j] ∧ (0 < j ∧ j < 1073741824) ∧ Φ (.tuple [.int (i / j), .int (i % j)]) ρ1) c (by decide +kernel) PyProof.Rows.boot_divmod (fun {G0 H0 G H σ ds ρ1 vs Q} hB S r ok => by
    obtain ⟨i, j, rfl, hj, hB⟩ := hB
    obtain ⟨v, w, rfl, q1, q2⟩ := r.inv2
    cases q1; cases q2
    exact t_ca call_divmod ⟨_, _, rfl, hj, fun p hp => ok _ _ _ _ _ hB (S.lay hp) (Ex.nw (S.gh.fr hp)) (.tup (SqT.of upd_same) (.cons (.int _) (.cons (.int _) .nil)))⟩) (ja2 (h.imp fun d ρ1 q => q.imp fun d2 ρ2 ⟨i, j, e1, e2, q⟩ => ⟨i, j, by rw [e1, e2], q⟩) hs hs2) hg hs (by rw [hs2]; rfl)
/-- int(x) of a number, of a truth -/
def IntK (d : Pd) (Φ : Pd → Prop) : Prop := match d with
  | .int i => Φ (.int i)
  | .bool b => Φ (.int (if b then 1 else 0))
  | _ => False
theorem je_toint {p pos : Pos} {e : Expr} {Φ : Pd → Rho → Prop} (c : Jok C k) (h : JE C ρ e fun d ρ1 => IntK d fun z => Φ z ρ1) (hg : Gl C.X "int" := by unfold L2.Gl; kernel_rfl) (hs : starEach [e] C.X.env = (false, eval e C.X.env) :: starEach [] C.X.env := by rfl) : JE C ρ (.Call (.Name "int" p) [e] [] pos) Φ :=
  je_bt (B := fun ds ρ1 => ∃ d, ds = [d] ∧ IntK d fun z => Φ z ρ1) c (by decide +kernel) PyProof.Rows.boot_int (fun {G0 H0 G H σ ds ρ1 vs Q} hB S r ok => by
    obtain ⟨d, rfl, hB⟩ := hB
    obtain ⟨v, rfl, rr⟩ := r.inv1
    unfold IntK at hB
    split at hB
    · cases rr; exact t_ca call_int1 (.inl ⟨_, rfl, ok _ _ _ _ _ hB S (Ex.rfl' G) (.int _)⟩)
    · cases rr; exact t_ca call_int1 (.inr ⟨_, rfl, ok _ _ _ _ _ hB S (Ex.rfl' G) (.int _)⟩)
    · exact hB.elim) (ja1 (h.imp fun d ρ1 q => ⟨d, rfl, q⟩) hs) hg hs rfl
theorem je_strI {p pos : Pos} {e : Expr} {Φ : Pd → Rho → Prop} (c : Jok C k) (h : JE C ρ e fun d ρ1 => ∃ i : Int, d = .int i ∧ i.natAbs.log2 < 1920 ∧ Φ (.str (toString i)) ρ1) (hg : Gl C.X "str" := by unfold L2.Gl; kernel_rfl) (hs : starEach [e] C.X.env = (false, eval e C.X.env) :: starEach [] C.X.env := by rfl) :
    JE C ρ (.Call (.Name "str" p) [e] [] pos) Φ :=
  je_bt (B := fun ds ρ1 => ∃ i : Int, ds = [.int i] ∧ i.natAbs.log2 < 1920 ∧ Φ (.str (toString i)) ρ1) c (by decide +kernel) PyProof.Rows.boot_str (fun {G0 H0 G H σ ds ρ1 vs Q} hB S r ok => by
    obtain ⟨d, rfl, hl, hB⟩ := hB
    obtain ⟨v, rfl, rr⟩ := r.inv1
    cases rr; exact t_ca call_str_int ⟨_, rfl, hl, ok _ _ _ _ _ hB S (Ex.rfl' G) (.str _)⟩) (ja1 (h.imp fun d ρ1 ⟨i, e, l, q⟩ => ⟨i, by rw [e], l, q⟩) hs) hg hs rfl
/-- tuple(x) of a list, a tuple -/
def SeqK (d : Pd) (Φ : List Pd → Prop) : Prop := match d with
  | .list xs => Φ xs
  | .tuple xs => Φ xs
  | _ => False
theorem je_totup {p pos : Pos} {e : Expr} {Φ : Pd → Rho → Prop} (c : Jok C k) (h : JE C ρ e fun d ρ1 => SeqK d fun z => Φ (.tuple z) ρ1) (hg : Gl C.X "tuple" := by unfold L2.Gl; kernel_rfl) (hs : starEach [e] C.X.env = (false, eval e C.X.env) :: starEach [] C.X.env := by rfl) :
    JE C ρ (.Call (.Name "tuple" p) [e] [] pos) Φ :=
  je_bt (B := fun ds ρ1 => ∃ d, ds = [d] ∧ SeqK d fun z => Φ (.tuple z) ρ1) c (by decide +kernel) PyProof.Rows.boot_tuple (fun {G0 H0 G H σ ds ρ1 vs Q} hB S r ok => by
    obtain ⟨d, rfl, hB⟩ := hB
    obtain ⟨v, rfl, rr⟩ := r.inv1
    unfold SeqK at hB
    split at hB
    · cases rr with
      | @lst a0 vs0 _ q r3 =>
        refine t_ca call_tuple_of ⟨_, vs0, rfl, .inl ⟨SqL.of (S.gh _ _ q), fun l hl => ?_⟩⟩
        have g : Ex G (upd G l (.tup vs0)) := Ex.nw (S.gh.fr hl)
        exact ok _ _ _ _ _ hB (S.lay hl) g (.tup (SqT.of upd_same) (r3.mono g))
    · cases rr with
      | tup q r3 => exact t_ca call_tuple_of ⟨_, _, rfl, .inr ⟨S.gh.st q, ok _ _ _ _ _ hB S (Ex.rfl' G) (.tup q r3)⟩⟩
    · exact hB.elim) (ja1 (h.imp fun d ρ1 q => ⟨d, rfl, q⟩) hs) hg hs rfl
/-- list(x) of a list, a tuple -/
theorem jf_tolist {p pos : Pos} {e : Expr} {Φ : List Pd → Rho → Prop} (c : Jok C k) (h : JE C ρ e fun d ρ1 => SeqK d fun z => Φ z ρ1) (hg : Gl C.X "list" := by unfold L2.Gl; kernel_rfl) (hs : starEach [e] C.X.env = (false, eval e C.X.env) :: starEach [] C.X.env := by rfl) :
    JF C ρ (.Call (.Name "list" p) [e] [] pos) Φ :=
  ⟨fun G0 H0 G H σ S Q ok ex => t_pe (pe_callTy call_list_of hg (c.nb "list" (by decide +kernel)) PyProof.Rows.boot_list (pa_cons pe_t pa_nil hs) (he := hs)) (h.run G0 H0 G H σ S _ (fun d ρ1 v G1 H1 h1 S1 g1 r1 => by
    have h1 : SeqK d fun z => Φ z ρ1 := h1
    unfold SeqK at h1
    split at h1
    · cases r1 with
      | lst q r => exact ⟨_, _, rfl, .inl (SqL.of (S1.gh _ _ q)), fun p hp => ok _ _ _ _ _ _ h1 (S1.layH hp) g1 (S1.h0.fr hp) (S1.gh.fr hp) (S1.notIn hp) upd_same r⟩
    · cases r1 with
      | tup q r => exact ⟨_, _, rfl, .inr (S1.gh.st q), fun p hp => ok _ _ _ _ _ _ h1 (S1.layH hp) g1 (S1.h0.fr hp) (S1.gh.fr hp) (S1.notIn hp) upd_same r⟩
    · exact h1.elim) ex)⟩
/-! ### isinstance(e, T) -/
def tyN : Pd → String
  | .none => "NoneType"
  | .bool _ => "bool"
  | .int _ => "int"
  | .str _ => "str"
  | .list _ => "list"
  | .tuple _ => "tuple"
  | .dict _ => "dict"
theorem Rp.ty {K : Fg} {H : Hp} {v : V} {d : Pd} (r : Rp K H v d) : TyX K H v (.type (tyN d)) := by
  cases r with
  | non => exact .base .non
  | bl b => exact .base (.bl b)
  | int i => exact .base (.int i)
  | str x => exact .base (.str x)
  | lst q r => exact .base (.lst q)
  | tup q r =>
    rcases q with (q | ⟨o, q⟩) | ⟨o, its, n, hk, hc, _⟩
    · exact .base (.tup q)
    · exact .fTuple q
    · exact .kTuple hk hc
  | dic q r => exact .base (.dK q)
  | dit q r => exact .base (.dT q)
def isStrD : Pd → Bool
  | .str _ => true
  | _ => false
def isIntD : Pd → Bool
  | .int _ => true
  | .bool _ => true
  | _ => false
def isBoolD : Pd → Bool
  | .bool _ => true
  | _ => false
def isTupD : Pd → Bool
  | .tuple _ => true
  | _ => false
def isListD : Pd → Bool
  | .list _ => true
  | _ => false
def kitAll (T : String) (a b c d e f g : Bool) : Prop := kitB "NoneType" T = some a ∧ kitB "bool" T = some b ∧ kitB "int" T = some c ∧ kitB "str" T = some d ∧ kitB "list" T = some e ∧ kitB "tuple" T = some f ∧ kitB "dict" T = some g
instance {T : String} {a b c d e f g : Bool} : Decidable (kitAll T a b c d e f g) := by unfold kitAll; infer_instance
theorem isi_any {T : String} {p pos p2 : Pos} {x : Str} {e : Expr} {Φ : Pd → Rho → Prop} (c : Jok C k) (hx : bl.contains x = true) (hv : bootBuiltins x = some (.type T)) {B : Pd → Bool} (hk : ∀ d : Pd, kitB (tyN d) T = some (B d)) (h : JE C ρ e fun d ρ1 => Φ (.bool (B d)) ρ1)
    (hg : Gl C.X "isinstance") (hg2 : Gl C.X x) (hs : starEach [e, .Name x p2] C.X.env = (false, eval e C.X.env) :: starEach [.Name x p2] C.X.env) (hn : x ≠ "__name__") (hd : (x == ("__debug__" : Str)) = false) :
    JE C ρ (.Call (.Name "isinstance" p) [e, .Name x p2] [] pos) Φ :=
  ⟨fun G0 H0 G H σ S Q ok ex => t_pe (pe_callB call_isi hg (c.nb "isinstance" (by decide +kernel)) PyProof.Rows.boot_isinstance (pa_cons pe_t (pa_cons (pe_bltn (v := .ty T) hg2 (c.nb x hx) hv rfl hn hd) pa_nil) hs) (he := hs)) (h.run G0 H0 G H σ S _ (fun d ρ1 v G1 H1 h1 S1 g1 r1 =>
    ⟨v, .ty T, _, _, _, rfl, .ty T, (r1.mono S1.gh).ty, kit_ty (hk d), ok _ _ _ _ _ h1 S1 g1 (.bl _)⟩) ex)⟩
theorem je_isStr {p pos p2 : Pos} {e : Expr} {Φ : Pd → Rho → Prop} (c : Jok C k) (h : JE C ρ e fun d ρ1 => Φ (.bool (isStrD d)) ρ1) (hg : Gl C.X "isinstance" := by unfold L2.Gl; kernel_rfl) (hg2 : Gl C.X "str" := by unfold L2.Gl; kernel_rfl)
    (hs : starEach [e, .Name "str" p2] C.X.env = (false, eval e C.X.env) :: starEach [.Name "str" p2] C.X.env := by rfl) : JE C ρ (.Call (.Name "isinstance" p) [e, .Name "str" p2] [] pos) Φ :=
  isi_any c (by decide +kernel) PyProof.Rows.boot_str (fun d => by
    obtain ⟨h0, h1, h2, h3, h4, h5, h6⟩ := (by decide +kernel : kitAll "str" false false false true false false false)
    cases d <;> assumption) h hg hg2 hs (by decide +kernel) (by decide +kernel)
theorem je_isInt {p pos p2 : Pos} {e : Expr} {Φ : Pd → Rho → Prop} (c : Jok C k) (h : JE C ρ e fun d ρ1 => Φ (.bool (isIntD d)) ρ1) (hg : Gl C.X "isinstance" := by unfold L2.Gl; kernel_rfl) (hg2 : Gl C.X "int" := by unfold L2.Gl; kernel_rfl)
    (hs : starEach [e, .Name "int" p2] C.X.env = (false, eval e C.X.env) :: starEach [.Name "int" p2] C.X.env := by rfl) : JE C ρ (.Call (.Name "isinstance" p) [e, .Name "int" p2] [] pos) Φ :=
  isi_any c (by decide +kernel) PyProof.Rows.boot_int (fun d => by
    obtain ⟨h0, h1, h2, h3, h4, h5, h6⟩ := (by decide +kernel : kitAll "int" false true true false false false false)
    cases d <;> assumption) h hg hg2 hs (by decide +kernel) (by decide +kernel)
theorem je_isBool {p pos p2 : Pos} {e : Expr} {Φ : Pd → Rho → Prop} (c : Jok C k) (h : JE C ρ e fun d ρ1 => Φ (.bool (isBoolD d)) ρ1) (hg : Gl C.X "isinstance" := by unfold L2.Gl; kernel_rfl) (hg2 : Gl C.X "bool" := by unfold L2.Gl; kernel_rfl)
    (hs : starEach [e, .Name "bool" p2] C.X.env = (false, eval e C.X.env) :: starEach [.Name "bool" p2] C.X.env := by rfl) : JE C ρ (.Call (.Name "isinstance" p) [e, .Name "bool" p2] [] pos) Φ :=
  isi_any c (by decide +kernel) PyProof.Rows.boot_bool (fun d => by
    obtain ⟨h0, h1, h2, h3, h4, h5, h6⟩ := (by decide +kernel : kitAll "bool" false true false false false false false)
    cases d <;> assumption) h hg hg2 hs (by decide +kernel) (by decide +kernel)
theorem je_isTup {p pos p2 : Pos} {e : Expr} {Φ : Pd → Rho → Prop} (c : Jok C k) (h : JE C ρ e fun d ρ1 => Φ (.bool (isTupD d)) ρ1) (hg : Gl C.X "isinstance" := by unfold L2.Gl; kernel_rfl) (hg2 : Gl C.X "tuple" := by unfold L2.Gl; kernel_rfl)
    (hs : starEach [e, .Name "tuple" p2] C.X.env = (false, eval e C.X.env) :: starEach [.Name "tuple" p2] C.X.env := by rfl) : JE C ρ (.Call (.Name "isinstance" p) [e, .Name "tuple" p2] [] pos) Φ :=
  isi_any c (by decide +kernel) PyProof.Rows.boot_tuple (fun d => by
    obtain ⟨h0, h1, h2, h3, h4, h5, h6⟩ := (by decide +kernel : kitAll "tuple" false false false false false true false)
    cases d <;> assumption) h hg hg2 hs (by decide +kernel) (by decide +kernel)
theorem je_isList {p pos p2 : Pos} {e : Expr} {Φ : Pd → Rho → Prop} (c : Jok C k) (h : JE C ρ e fun d ρ1 => Φ (.bool (isListD d)) ρ1) (hg : Gl C.X "isinstance" := by unfold L2.Gl; kernel_rfl) (hg2 : Gl C.X "list" := by unfold L2.Gl; kernel_rfl)
    (hs : starEach [e, .Name "list" p2] C.X.env = (false, eval e C.X.env) :: starEach [.Name "list" p2] C.X.env := by rfl) : JE C ρ (.Call (.Name "isinstance" p) [e, .Name "list" p2] [] pos) Φ :=
  isi_any c (by decide +kernel) PyProof.Rows.boot_list (fun d => by
    obtain ⟨h0, h1, h2, h3, h4, h5, h6⟩ := (by decide +kernel : kitAll "list" false false false false true false false)
    cases d <;> assumption) h hg hg2 hs (by decide +kernel) (by decide +kernel)
end
end KJ

set_option Elab.async false
set_option linter.all false
set_option maxRecDepth 100000
set_option maxHeartbeats 4100000
/-! J5: targets, statements, loops. -/
namespace KJ
open PySem PySem.Spec L2 PyProof.Rows
def tG (X : Cx) (tg : Expr) : TG := fun v σ H Q => ∀ pins s u, Inv X pins σ H s → RelV v u → wpAny (model X.prog X.w) X.A (assign tg X.env u) (fun _ s' => ∃ σ' H', Inv X pins σ' H' s' ∧ Q σ' H') X.xe s
def tGs (X : Cx) (ts : List Expr) : TGs := fun vs σ H Q => ∀ pins s us, Inv X pins σ H s → Vals vs us → wpAny (model X.prog X.w) X.A (assignInOrder ((assignEach ts X.env).map (·.2)) us) (fun _ s' => ∃ σ' H', Inv X pins σ' H' s' ∧ Q σ' H') X.xe s
theorem pg_t {X : Cx} {tg : Expr} : PG X tg (tG X tg) := ⟨fun pins s _ _ _ u _ I r h => h pins s u I r⟩
theorem pgs_t {X : Cx} {ts : List Expr} : PGs X ts (tGs X ts) := ⟨fun pins s _ _ _ u _ I r h => h pins s u I r⟩
theorem t_pg {X : Cx} {tg : Expr} {t : TG} (p : PG X tg t) {v : V} {σ : L2.St} {H : Hp} {Q : L2.St → Hp → Prop} (h : t v σ H Q) : tG X tg v σ H Q := fun pins s u I r => p.run pins s σ H v u Q I r h
theorem t_pgs {X : Cx} {ts : List Expr} {t : TGs} (p : PGs X ts t) {v : List V} {σ : L2.St} {H : Hp} {Q : L2.St → Hp → Prop} (h : t v σ H Q) : tGs X ts v σ H Q := fun pins s u I r => p.run pins s σ H v u Q I r h
def locB (sc : Scope) (x : Str) : Bool := match sc.names.lookup x with
  | some .local => true
  | some .cell => true
  | _ => false
theorem loc_of {sc : Scope} {x : Str} (h : locB sc x = true) : L2.Loc sc x := by
  unfold locB at h
  unfold L2.Loc
  split at h
  · rename_i q; exact .inl q
  · rename_i q; exact .inr q
  · cases h
/-- the target is bound to z -/
structure JG (C : Jc) (ρ : Rho) (tg : Expr) (z : Pd) (Φ : Rho → Prop) : Prop where
  run : ∀ G0 H0 G H σ v, SttC C G0 H0 G H σ ρ → Rp C.X.K G v z → ∀ Q : L2.St → Hp → Prop, (∀ ρ' σ' G' H', Φ ρ' → SttC C G0 H0 G' H' σ' ρ' → Ex G G' → Q σ' H') → tG C.X tg v σ H Q
structure JGs (C : Jc) (ρ : Rho) (tg : List Expr) (z : List Pd) (Φ : Rho → Prop) : Prop where
  run : ∀ G0 H0 G H σ v, SttC C G0 H0 G H σ ρ → RpA C.X.K G v z → ∀ Q : L2.St → Hp → Prop, (∀ ρ' σ' G' H', Φ ρ' → SttC C G0 H0 G' H' σ' ρ' → Ex G G' → Q σ' H') → tGs C.X tg v σ H Q
/-- a slot takes data -/
theorem Stt.sh {K : Fg} {N : List Str} {G0 H0 G H : Hp} {σ : L2.St} {ρ : Rho} (S : Stt K N G0 H0 G H σ ρ) {i : Nat} {x : Str} {t : Sl} {d : Pd} {v : V} (h : ρ[i]? = some (x, t)) (r : Rp K G v d) : Stt K N G0 H0 G H (σ.set i (some v)) (ρ.set i (x, .sh d)) :=
  S.put h ⟨v, rfl, r⟩ (fun _ ha => by cases ha) List.nodup_nil (fun _ ha => by cases ha)
/-- a slot takes an own list -/
theorem Stt.ow {K : Fg} {N : List Str} {G0 H0 G H : Hp} {σ : L2.St} {ρ : Rho} (S : Stt K N G0 H0 G H σ ρ) {i : Nat} {x : Str} {t : Sl} {ds : List Pd} {a : Addr} {vs : List V} (h : ρ[i]? = some (x, t)) (h0 : H0 a = none) (g : G a = none) (hn : a ∉ fpR ρ) (q : H a = some (.lst vs)) (r : RpA K G vs ds) :
    Stt K N G0 H0 G H (σ.set i (some (.ref a))) (ρ.set i (x, .ow a ds)) :=
  S.put h ⟨rfl, vs, q, r⟩ (fun b hb => by
    have e : b = a := List.mem_singleton.mp hb
    subst e
    exact ⟨h0, g, by rw [q]; simp⟩) (List.nodup_cons.mpr ⟨by simp, List.nodup_nil⟩) (fun b hb hm => by
    have e : b = a := List.mem_singleton.mp hb
    subst e
    exact absurd hm hn)
section
variable {C : Jc} {ρ : Rho} {k : Nat}
theorem jg_name {x : Str} {pos : Pos} {z : Pd} {ρ' : Rho} {Φ : Rho → Prop} (c : Jok C k) (u : Up ρ x (.sh z) ρ') (h : Φ ρ') (hl : locB C.X.env.scope x = true := by kernel_rfl) (hf : C.X.fn x = true ∨ C.X.env.scope.names.lookup x = some .local := by first | exact .inl rfl | exact .inr (by kernel_rfl)) : JG C ρ (.Name x pos) z Φ :=
  ⟨fun G0 H0 G H σ v S r Q q => by
    obtain ⟨i, t, hi, rfl⟩ := u.at
    exact t_pg (pg_name c.nd (S.slot hi).1 (loc_of hl) hf) (q _ _ _ _ h (S.sh hi r) (Ex.rfl' G))⟩
theorem jgs_nil {Φ : Rho → Prop} (h : Φ ρ) : JGs C ρ [] [] Φ := ⟨fun G0 H0 G H σ v S r Q q => by
  cases r
  exact t_pgs pgs_nil ⟨rfl, q _ _ _ _ h S (Ex.rfl' G)⟩⟩
theorem jgs_cons {e : Expr} {es : List Expr} {z : Pd} {zs : List Pd} {Φ : Rho → Prop} (h : JG C ρ e z fun ρ1 => JGs C ρ1 es zs Φ) (hs : (assignEach (e :: es) C.X.env).map (·.2) = assign e C.X.env :: (assignEach es C.X.env).map (·.2) := by rfl) : JGs C ρ (e :: es) (z :: zs) Φ :=
  ⟨fun G0 H0 G H σ v S r Q q => by
    cases r with
    | cons r1 r2 =>
      refine t_pgs (pgs_cons pg_t pgs_t hs) ⟨_, _, rfl, h.run G0 H0 G H σ _ S r1 _ fun ρ1 σ1 G1 H1 h1 S1 g1 => ?_⟩
      exact h1.run G0 H0 G1 H1 σ1 _ S1 (r2.mono g1) _ fun ρ2 σ2 G2 H2 h2 S2 g2 => q _ _ _ _ h2 S2 (g1.tr g2)⟩
theorem jg_tup {es : List Expr} {n : Nat} {pos : Pos} {zs : List Pd} {Φ : Rho → Prop} (c : Jok C k) (h : JGs C ρ es zs Φ) (hn : (assignEach es C.X.env).length = zs.length := by rfl) (hst : (assignEach es C.X.env).findIdx? (·.1) = none := by rfl) : JG C ρ (.Tuple es n pos) (.tuple zs) Φ :=
  ⟨fun G0 H0 G H σ v S r Q q => by
    cases r with
    | tup q1 r1 => exact t_pg (pg_tup c.calm pgs_t hn hst) ⟨_, _, rfl, S.gh.st q1, r1.len, h.run G0 H0 G H σ _ S r1 _ q⟩⟩
theorem jg_lst {es : List Expr} {n : Nat} {pos : Pos} {zs : List Pd} {Φ : Rho → Prop} (c : Jok C k) (h : JGs C ρ es zs Φ) (hn : (assignEach es C.X.env).length = zs.length := by rfl) (hst : (assignEach es C.X.env).findIdx? (·.1) = none := by rfl) : JG C ρ (.Tuple es n pos) (.list zs) Φ :=
  ⟨fun G0 H0 G H σ v S r Q q => by
    cases r with
    | lst q1 r1 => exact t_pg (pg_lst (k := n) c.calm pgs_t hn hst) ⟨_, _, rfl, SqL.of (S.gh _ _ q1), r1.len, h.run G0 H0 G H σ _ S r1 _ q⟩⟩

/-! ### blocks -/
/-- a name's slot is told nothing of any more -/
theorem Stt.letGo {K : Fg} {N : List Str} {G0 H0 G H : Hp} {σ : L2.St} {ρ : Rho} (S : Stt K N G0 H0 G H σ ρ) {i : Nat} {x : Str} {t : Sl} (h : ρ[i]? = some (x, t)) {v : V} (e : σ.getD i none = some v) : Stt K N G0 H0 G H σ (ρ.set i (x, .no)) := by
  have z := S.put (s := .no) (o := some v) h trivial (fun b hb => by cases hb) List.nodup_nil (fun b hb => by cases hb)
  have e2 : σ.set i (some v) = σ := by
    have := getD_some e
    exact List.ext_getElem? fun k => by
      by_cases hk : i = k
      · subst hk
        rw [this, List.getElem?_set_self (List.getElem?_eq_some_iff.mp this).1]
      · rw [List.getElem?_set_ne hk]
  rw [e2] at z
  exact z
theorem Stt.notSet {K : Fg} {N : List Str} {G0 H0 G H : Hp} {σ : L2.St} {ρ : Rho} (S : Stt K N G0 H0 G H σ ρ) {i : Nat} {x : Str} {a : Addr} {ds : List Pd} {s : Sl} (h : ρ[i]? = some (x, .ow a ds)) (hs : fpS s = []) : a ∉ fpR (ρ.set i (x, s)) := by
  obtain ⟨l1, r1, e1, el, es⟩ := cut_at h
  have nd := S.nd
  rw [e1, fpR_app, fpR_cons, List.nodup_append] at nd
  rw [es, fpR_app, fpR_cons]
  intro hm
  have hm := List.mem_append.mp hm
  rcases hm with hm | hm
  · exact nd.2.2 a hm a (List.mem_append_left _ (List.mem_singleton.mpr rfl)) rfl
  · have nd2 := nd.2.1
    rw [List.nodup_append] at nd2
    exact nd2.2.2 a (List.mem_singleton.mpr rfl) a (by simpa [hs] using hm) rfl
theorem jb_nil {Ψ : Po} (h : Ψ.nx ρ) : JB C ρ [] Ψ := ⟨fun G0 H0 G H σ S D ok ex => t_pss pss_nil (ok.nx _ _ _ _ h S (Ex.rfl' G))⟩
theorem jb_cons {st : Stmt} {rest : List Stmt} {Ψ : Po} (h : JS C ρ st { Ψ with nx := fun ρ' => JB C ρ' rest Ψ }) : JB C ρ (st :: rest) Ψ := ⟨fun G0 H0 G H σ S D ok ex => t_pss (pss_cons ps_t pss_t) (h.run G0 H0 G H σ S _
  ⟨fun ρ' σ' G' H' hb S' g => hb.run G0 H0 G' H' σ' S' D (ok.mono g) (ex.mono g), ok.rt, ok.bk, ok.ct⟩ ex)⟩
theorem js_pass {pos : Pos} {Ψ : Po} (h : Ψ.nx ρ) : JS C ρ (.Pass pos) Ψ := ⟨fun G0 H0 G H σ S D ok ex => t_ps ps_pass (ok.nx _ _ _ _ h S (Ex.rfl' G))⟩
theorem js_break {pos : Pos} {Ψ : Po} (h : Ψ.bk ρ) : JS C ρ (.Break pos) Ψ := ⟨fun G0 H0 G H σ S D ok ex => t_ps ps_break (ok.bk _ _ _ _ h S (Ex.rfl' G))⟩
theorem js_continue {pos : Pos} {Ψ : Po} (h : Ψ.ct ρ) : JS C ρ (.Continue pos) Ψ := ⟨fun G0 H0 G H σ S D ok ex => t_ps ps_continue (ok.ct _ _ _ _ h S (Ex.rfl' G))⟩
theorem js_expr {e : Expr} {pos : Pos} {Ψ : Po} (h : JE C ρ e fun _ ρ1 => Ψ.nx ρ1) (hs : swapsWith e none pos.line C.X.env = pure false := by rfl) : JS C ρ (.Expr e pos) Ψ :=
  ⟨fun G0 H0 G H σ S D ok ex => t_ps (ps_expr pe_t hs) (h.run G0 H0 G H σ S _ (fun d ρ' v G' H' a b c' d' => ok.nx _ _ _ _ a b c') (ex.at σ))⟩
theorem js_ret {e : Expr} {pos : Pos} {Ψ : Po} (h : JE C ρ e fun d ρ1 => Ψ.rt (.d d) ρ1) : JS C ρ (.Return (some e) pos) Ψ :=
  ⟨fun G0 H0 G H σ S D ok ex => t_ps (ps_ret pe_t) (h.run G0 H0 G H σ S _ (fun d ρ' v G' H' a b c' d' => ok.rt (.d d) ρ' σ v G' H' a b c' d') (ex.at σ))⟩
theorem js_retF {e : Expr} {pos : Pos} {Ψ : Po} (h : JF C ρ e fun ds ρ1 => Ψ.rt (.fr ds) ρ1) : JS C ρ (.Return (some e) pos) Ψ :=
  ⟨fun G0 H0 G H σ S D ok ex => t_ps (ps_ret pe_t) (h.run G0 H0 G H σ S _ (fun ds ρ' a vs G' H' p b c' h0 g0 na q r => ok.rt (.fr ds) ρ' σ _ G' H' p b c' ⟨a, vs, rfl, h0, g0, na, q, r⟩) (ex.at σ))⟩
theorem js_retO {x : Str} {a : Addr} {ds : List Pd} {ρ' : Rho} {p pos : Pos} {Ψ : Po} (c : Jok C k) (l : Lk ρ x (.ow a ds)) (u : Up ρ x .no ρ') (h : Ψ.rt (.fr ds) ρ') (hv : visB C.X.env.scope x = true := by kernel_rfl) (hd : (x == ("__debug__" : Str)) = false := by kernel_rfl) (hc : (x == ("__classdict__" : Str)) = false := by kernel_rfl) :
    JS C ρ (.Return (some (.Name x p)) pos) Ψ :=
  ⟨fun G0 H0 G H σ S D ok ex => t_ps (ps_ret pe_t) (name_ow l S (fun vs q r => by
    have hn : (ρ.map (·.1)).Nodup := by rw [S.nm]; exact c.nd
    obtain ⟨i, hi⟩ := l.at
    obtain ⟨j, t, hj, rfl⟩ := u.at
    have ij : i = j := by
      refine L2.nodup_ix (N := ρ.map (·.1)) hn (x := x) ?_ ?_
      · rw [List.getElem?_map, hi]; rfl
      · rw [List.getElem?_map, hj]; rfl
    subst ij
    obtain ⟨e, _⟩ := S.ok i _ hi
    obtain ⟨o1, o2, o3⟩ := S.own a (mem_fpR hi (List.mem_singleton.mpr rfl))
    refine ok.rt (.fr ds) _ σ _ G H h (S.letGo hi e) (Ex.rfl' G) ⟨a, vs, rfl, o1, o2, S.notSet hi (by rfl), q, r⟩) hv hd hc)⟩
theorem js_retN {pos : Pos} {Ψ : Po} (h : Ψ.rt (.d .none) ρ) : JS C ρ (.Return none pos) Ψ := ⟨fun G0 H0 G H σ S D ok ex => t_ps ps_retN (ok.rt (.d .none) ρ σ _ G H h S (Ex.rfl' G) .non)⟩
/-- target = e -/
theorem js_asg {tg e : Expr} {pos : Pos} {Ψ : Po} (h : JE C ρ e fun d ρ1 => JG C ρ1 tg d Ψ.nx) (hs : swapsWithSole [tg] e pos.line C.X.env = pure false := by rfl) (hw : swappedStores [tg] e C.X.env = pure none := by rfl) (h1 : (assignEach [tg] C.X.env).map (·.2) = [assign tg C.X.env] := by rfl) : JS C ρ (.Assign [tg] e pos) Ψ :=
  ⟨fun G0 H0 G H σ S D ok ex => t_ps (ps_asg pe_t pg_t hs hw h1) (h.run G0 H0 G H σ S _ (fun d ρ' v G' H' a b c' d' => a.run G0 H0 G' H' σ v b d' _ fun ρ2 σ2 G2 H2 h2 S2 g2 => ok.nx _ _ _ _ h2 S2 (c'.tr g2)) (ex.at σ))⟩
/-- x = a new list, one's own -/
theorem js_own {x : Str} {e : Expr} {p pos : Pos} {Ψ : Po} (c : Jok C k) (h : JF C ρ e fun ds ρ1 => ∀ a, ∃ ρ2, Up ρ1 x (.ow a ds) ρ2 ∧ Ψ.nx ρ2) (hl : locB C.X.env.scope x = true := by kernel_rfl) (hs : swapsWithSole [.Name x p] e pos.line C.X.env = pure false := by rfl)
    (hw : swappedStores [.Name x p] e C.X.env = pure none := by rfl) (hf : C.X.fn x = true ∨ C.X.env.scope.names.lookup x = some .local := by first | exact .inl rfl | exact .inr (by kernel_rfl)) : JS C ρ (.Assign [.Name x p] e pos) Ψ :=
  ⟨fun G0 H0 G H σ S D ok ex => t_ps (ps_asg pe_t pg_t hs hw) (h.run G0 H0 G H σ S _ (fun ds ρ' a vs G' H' q b c' h0 g0 na ha r => by
    obtain ⟨ρ2, u, h2⟩ := q a
    obtain ⟨i, t, hi, rfl⟩ := u.at
    exact t_pg (pg_name c.nd (b.slot hi).1 (loc_of hl) hf) (ok.nx _ _ _ _ h2 (b.ow hi h0 g0 na ha r) c')) (ex.at σ))⟩
/-- a, b = e1, e2, two local names -/
theorem js_par {x y : Str} {a b : Expr} {px py pt : Pos} {kt k2 : Nat} {pt2 pos : Pos} {Ψ : Po} (c : Jok C k) (i j : Nat) (hi : C.X.N[i]? = some x) (hj : C.X.N[j]? = some y) (hij : i ≠ j)
    (h : JA C ρ [a, b] fun ds ρ1 => ∃ d1 d2 ρ2 ρ3, ds = [d1, d2] ∧ Up ρ1 x (.sh d1) ρ2 ∧ Up ρ2 y (.sh d2) ρ3 ∧ Ψ.nx ρ3) (hs : PS C.X (.Assign [.Tuple [.Name x px, .Name y py] kt pt] (.Tuple [a, b] k2 pt2) pos) (tPar i j (tA C.X [a, b]))) :
    JS C ρ (.Assign [.Tuple [.Name x px, .Name y py] kt pt] (.Tuple [a, b] k2 pt2) pos) Ψ :=
  ⟨fun G0 H0 G H σ S D ok ex => t_ps hs (h.run G0 H0 G H σ S _ (fun ds ρ' vs G' H' q b c' r => by
    obtain ⟨d1, d2, ρ2, ρ3, rfl, u1, u2, h2⟩ := q
    obtain ⟨v, w, rfl, r1, r2⟩ := r.inv2
    obtain ⟨i', t1, hi', rfl⟩ := u1.at
    have S2 := b.sh hi' r1
    obtain ⟨j', t2, hj', rfl⟩ := u2.at
    have S3 := S2.sh hj' r2
    have e1 : i' = i := nodup_ix c.nd (b.slot hi').1 hi
    have e2 : j' = j := nodup_ix c.nd (S2.slot hj').1 hj
    subst e1 e2
    exact ⟨v, w, rfl, ok.nx _ _ _ _ h2 S3 c'⟩) (ex.at σ))⟩
def tP (X : Cx) (op : Operator) : TIp := fun x y H Q => ∀ pins s σ v u, Inv X pins σ H s → RelV x v → RelV y u → wpAny (model X.prog X.w) X.A (inplaceOp op v u) (EP X pins σ Q) X.xe s
/-- x += e, x -= e, numbers -/
theorem js_augI {x : Str} {e : Expr} {op : Operator} {f : Int → Int → Int} {a : Int} {pos' pos : Pos} {Ψ : Po} (c : Jok C k) (i : Nat) (hop : PIp C.X op (ipI f)) (l : Lk ρ x (.sh (.int a))) (hi : C.X.N[i]? = some x)
    (h : JE C ρ e fun d ρ1 => ∃ j ρ2, d = .int j ∧ Up ρ1 x (.sh (.int (f a j))) ρ2 ∧ Ψ.nx ρ2) (hl : locB C.X.env.scope x = true := by kernel_rfl) (hf : C.X.fn x = true ∨ C.X.env.scope.names.lookup x = some .local := by first | exact .inl rfl | exact .inr (by kernel_rfl)) :
    JS C ρ (.AugAssign (.Name x pos') op e pos) Ψ :=
  ⟨fun G0 H0 G H σ S D ok ex => t_ps (ps_aug c.nd hi (loc_of hl) pe_t hop hf) (by
    obtain ⟨i', hi'⟩ := l.at
    obtain ⟨v, ev, r⟩ := S.ok i' _ hi'
    have e1 : i' = i := nodup_ix c.nd (S.slot hi').1 hi
    subst e1
    cases r
    refine ⟨_, getD_some ev, h.run G0 H0 G H σ S _ (fun d ρ' v G' H' q b c' r => ?_) (ex.at σ)⟩
    obtain ⟨j, ρ2, rfl, u, h2⟩ := q
    obtain ⟨j', t, hj', rfl⟩ := u.at
    have e2 : j' = i' := nodup_ix c.nd (b.slot hj').1 hi
    subst e2
    cases r
    exact ⟨_, _, rfl, rfl, ok.nx _ _ _ _ h2 (b.sh hj' (.int _)) c'⟩)⟩
theorem js_if {t : Expr} {a b : List Stmt} {pos : Pos} {Ψ : Po} (h : JT C ρ t fun z ρ1 => (z = true → JB C ρ1 a Ψ) ∧ (z = false → JB C ρ1 b Ψ)) : JS C ρ (.If t a b pos) Ψ :=
  ⟨fun G0 H0 G H σ S D ok ex => t_ps (ps_if pt_t pss_t pss_t) (h.run G0 H0 G H σ S _ (fun z ρ1 G1 H1 hz S1 g1 => by
    cases z with
    | true => exact iteT ((hz.1 rfl).run G0 H0 G1 H1 σ S1 D (ok.mono g1) (ex.mono g1))
    | false => exact iteF ((hz.2 rfl).run G0 H0 G1 H1 σ S1 D (ok.mono g1) (ex.mono g1))) (ex.at σ))⟩

/-! ### what is walked -/
structure Its' (K : Fg) (J : It) (G : Hp) (ds : List Pd) : Prop where
  go : ∀ (i : Nat) (G' H' : Hp), Ex G G' → Ex G' H' → i < ds.length → J.go i H'
  stop : ∀ (i : Nat) (G' H' : Hp), Ex G G' → Ex G' H' → ds.length ≤ i → J.stop i H'
  yld : ∀ (i : Nat) (G' H' H'' : Hp) (x : V), Ex G G' → Ex G' H' → i < ds.length → J.yld i H' x H'' → ∃ z, ds[i]? = some z ∧ ((H'' = H' ∧ Rp K G' x z) ∨ ∃ T o, H' T = none ∧ H'' = upd H' T o ∧ Rp K (upd G' T o) x z)
def tI (X : Cx) (tg iter : Expr) : TI := fun σ H R => ∀ pins s, Inv X pins σ H s → wpAny (model X.prog X.w) X.A (eval iter X.env) (fun v s1 => wpAny (model X.prog X.w) X.A (pyIter v) (PIE X pins σ tg R) X.xe s1) X.xe s
theorem pi_t {X : Cx} {tg iter : Expr} : PI X tg iter (tI X tg iter) := ⟨fun pins s _ _ _ I h => h pins s I⟩
theorem t_pi {X : Cx} {tg iter : Expr} {wi : TI} (p : PI X tg iter wi) {σ : L2.St} {H : Hp} {R : It → Hp → Prop} (h : wi σ H R) : tI X tg iter σ H R := fun pins s I => p.run pins s σ H R I h
structure JI (C : Jc) (ρ : Rho) (tg iter : Expr) (Φ : List Pd → Rho → Prop) : Prop where
  run : ∀ G0 H0 G H σ, SttC C G0 H0 G H σ ρ → ∀ R : It → Hp → Prop, (∀ ds ρ' J G' H', Φ ds ρ' → SttC C G0 H0 G' H' σ ρ' → Ex G G' → Its' C.X.K J G' ds → R J H') → exE C G0 H0 G σ → tI C.X tg iter σ H R
theorem its_list {K : Fg} {G : Hp} {a : Addr} {vs : List V} {ds : List Pd} (q : G a = some (.lst vs)) (r : RpA K G vs ds) : Its' K (Itl K a) G ds where
  go := fun i G' H' g h hi => by
    have hi2 : i < vs.length := by rw [r.len]; exact hi
    exact ⟨vs, vs[i], SqL.of (h _ _ (g _ _ q)), List.getElem?_eq_getElem hi2⟩
  stop := fun i G' H' g h hi => ⟨vs, SqL.of (h _ _ (g _ _ q)), by rw [r.len]; exact hi⟩
  yld := fun i G' H' H'' x g h hi y => by
    obtain ⟨rfl, y⟩ := y
    obtain ⟨z, hz, rz⟩ := r.get (y vs (SqL.of (h _ _ (g _ _ q))))
    exact ⟨z, hz, .inl ⟨rfl, rz.mono g⟩⟩
theorem its_tup {K : Fg} {G : Hp} {a : Addr} {vs : List V} {ds : List Pd} (q : SqT K G a vs) (r : RpA K G vs ds) : Its' K (Itt K a) G ds where
  go := fun i G' H' g h hi => by
    have hi2 : i < vs.length := by rw [r.len]; exact hi
    exact ⟨vs, vs[i], h.st (g.st q), List.getElem?_eq_getElem hi2⟩
  stop := fun i G' H' g h hi => ⟨vs, h.st (g.st q), by rw [r.len]; exact hi⟩
  yld := fun i G' H' H'' x g h hi y => by
    obtain ⟨rfl, y⟩ := y
    obtain ⟨z, hz, rz⟩ := r.get (y vs (h.st (g.st q)))
    exact ⟨z, hz, .inl ⟨rfl, rz.mono g⟩⟩
/-- the signs of a text, one by one -/
def signs (x : Str) : List Pd := x.cps.toList.map fun c => .str ⟨#[c]⟩
theorem its_str {K : Fg} {G : Hp} {x : Str} : Its' K (Its x) G (signs x) where
  go := fun i G' H' g h hi => by
    have hi : i < x.cps.size := by simpa [signs] using hi
    exact hi
  stop := fun i G' H' g h hi => by
    have hi : x.cps.size ≤ i := by simpa [signs] using hi
    exact hi
  yld := fun i G' H' H'' v g h hi y => by
    obtain ⟨rfl, cc, hc, rfl⟩ := y
    refine ⟨.str ⟨#[cc]⟩, ?_, .inl ⟨rfl, .str _⟩⟩
    unfold signs
    rw [List.getElem?_map, Array.getElem?_toList, hc]; rfl
/-- lo, lo + 1, .. -/
def rng (lo : Int) (n : Nat) : List Pd := (List.range n).map fun (i : Nat) => .int (lo + (i : Int))
theorem its_rng {K : Fg} {G : Hp} {lo : Int} {n : Nat} : Its' K (Itr lo n) G (rng lo n) where
  go := fun i G' H' g h hi => by
    have hi : i < n := by simpa [rng] using hi
    exact hi
  stop := fun i G' H' g h hi => by
    have hi : n ≤ i := by simpa [rng] using hi
    exact hi
  yld := fun i G' H' H'' v g h hi y => by
    obtain ⟨rfl, rfl⟩ := y
    have hi2 : i < n := by simpa [rng] using hi
    refine ⟨.int (lo + i), ?_, .inl ⟨rfl, .int _⟩⟩
    unfold rng
    rw [List.getElem?_map, List.getElem?_range hi2]; rfl
theorem rng_zero (n : Nat) : rng 0 n = (List.range n).map fun (i : Nat) => PyData.int (i : Int) := by
  unfold rng
  refine List.map_congr_left fun (i : Nat) _ => ?_
  rw [Int.zero_add]
/-- a list, a tuple, a text walked -/
theorem ji_list {tg e : Expr} {Φ : List Pd → Rho → Prop} (h : JE C ρ e fun d ρ1 => ∃ ds, d = .list ds ∧ Φ ds ρ1) : JI C ρ tg e Φ := ⟨fun G0 H0 G H σ S R ok ex => t_pi (pi_list pe_t) (h.run G0 H0 G H σ S _ (fun d ρ1 v G1 H1 h1 S1 g1 r1 => by
  obtain ⟨ds, rfl, h1⟩ := h1
  cases r1 with
  | lst q r => exact ⟨_, rfl, ⟨_, SqL.of (S1.gh _ _ q)⟩, ok _ _ _ _ _ h1 S1 g1 (its_list q r)⟩) ex)⟩
theorem ji_tup {tg e : Expr} {Φ : List Pd → Rho → Prop} (h : JE C ρ e fun d ρ1 => ∃ ds, d = .tuple ds ∧ Φ ds ρ1) : JI C ρ tg e Φ := ⟨fun G0 H0 G H σ S R ok ex => t_pi (pi_tup pe_t) (h.run G0 H0 G H σ S _ (fun d ρ1 v G1 H1 h1 S1 g1 r1 => by
  obtain ⟨ds, rfl, h1⟩ := h1
  cases r1 with
  | tup q r => exact ⟨_, rfl, ⟨_, S1.gh.st q⟩, ok _ _ _ _ _ h1 S1 g1 (its_tup q r)⟩) ex)⟩
theorem ji_str {tg e : Expr} {Φ : List Pd → Rho → Prop} (h : JE C ρ e fun d ρ1 => ∃ x, d = .str x ∧ Φ (signs x) ρ1) : JI C ρ tg e Φ := ⟨fun G0 H0 G H σ S R ok ex => t_pi (pi_str pe_t) (h.run G0 H0 G H σ S _ (fun d ρ1 v G1 H1 h1 S1 g1 r1 => by
  obtain ⟨x, rfl, h1⟩ := h1
  cases r1
  exact ⟨x, rfl, ok _ _ _ _ _ h1 S1 g1 its_str⟩) ex)⟩
theorem ji_rng1 {tg a : Expr} {p pos : Pos} {Φ : List Pd → Rho → Prop} (c : Jok C k) (h : JE C ρ a fun d ρ1 => ∃ n : Int, d = .int n ∧ (-(2 ^ 62) ≤ n ∧ n < 2 ^ 62) ∧ Φ ((List.range n.toNat).map fun (i : Nat) => .int (i : Int)) ρ1) (hg : Gl C.X "range" := by unfold L2.Gl; kernel_rfl)
    (hs : starEach [a] C.X.env = [(false, eval a C.X.env)] := by rfl) : JI C ρ tg (.Call (.Name "range" p) [a] [] pos) Φ :=
  ⟨fun G0 H0 G H σ S R ok ex => t_pi (pi_range1 hg (c.nb "range" (by decide +kernel)) (pa_cons pe_t pa_nil hs) hs) (h.run G0 H0 G H σ S _ (fun d ρ1 v G1 H1 h1 S1 g1 r1 => by
  obtain ⟨n, rfl, hn, h1⟩ := h1
  cases r1
  exact ⟨n, rfl, hn.1, hn.2, ok _ _ _ _ _ h1 S1 g1 (by rw [← rng_zero]; exact its_rng)⟩) ex)⟩
theorem ji_rng2 {tg a b : Expr} {p pos : Pos} {Φ : List Pd → Rho → Prop} (c : Jok C k) (h : JE C ρ a fun d ρ1 => JE C ρ1 b fun d2 ρ2 => ∃ m n : Int, d = .int m ∧ d2 = .int n ∧ (-(2 ^ 62) ≤ m ∧ m < 2 ^ 62 ∧ -(2 ^ 62) ≤ n ∧ n < 2 ^ 62) ∧ Φ (rng m (n - m).toNat) ρ2) (hg : Gl C.X "range" := by unfold L2.Gl; kernel_rfl)
    (hs : starEach [a, b] C.X.env = [(false, eval a C.X.env), (false, eval b C.X.env)] := by rfl) (hs2 : starEach [b] C.X.env = [(false, eval b C.X.env)] := by rfl) : JI C ρ tg (.Call (.Name "range" p) [a, b] [] pos) Φ :=
  ⟨fun G0 H0 G H σ S R ok ex => t_pi (pi_range2 hg (c.nb "range" (by decide +kernel)) (pa_cons pe_t (pa_cons pe_t pa_nil hs2) (by rw [hs, hs2])) hs hs2) (h.run G0 H0 G H σ S _ (fun d ρ1 v G1 H1 h1 S1 g1 r1 => h1.run G0 H0 G1 H1 σ S1 _ (fun d2 ρ2 v2 G2 H2 h2 S2 g2 r2 => by
  obtain ⟨m, n, rfl, rfl, hn, h2⟩ := h2
  cases r1; cases r2
  exact ⟨m, n, rfl, hn, ok _ _ _ _ _ h2 S2 (g1.tr g2) its_rng⟩) (ex.mono g1)) ex)⟩
/-- for target in iter: body, by an invariant over the turn's number and the state -/
theorem js_for {tg iter : Expr} {body : List Stmt} {pos : Pos} {Ψ : Po} (c : Jok C k) (h : JI C ρ tg iter fun ds ρ1 => ∃ I : Nat → Rho → Prop, I 0 ρ1 ∧ (∀ (i : Nat) z ρ2, ds[i]? = some z → I i ρ2 → JG C ρ2 tg z fun ρ3 => JB C ρ3 body ⟨I (i + 1), Ψ.rt, Ψ.nx, I (i + 1)⟩) ∧ ∀ ρ2, I ds.length ρ2 → Ψ.nx ρ2)
    (hs : ∀ x, foldedSetIterable iter C.X.env x = pure x := by intro _; rfl) : JS C ρ (.For tg iter body [] pos) Ψ :=
  ⟨fun G0 H0 G H σ S D ok ex => t_ps (ps_for c.po c.calm pi_t pg_t pss_t hs) (h.run G0 H0 G H σ S _ (fun ds ρ1 J G1 H1 h1 S1 g1 it => by
    obtain ⟨I, i0, step, fin⟩ := h1
    let Pv : Nat → L2.St → Hp → Prop := fun i σ' H' => ∃ ρ' G', I i ρ' ∧ SttC C G0 H0 G' H' σ' ρ' ∧ Ex G1 G'
    refine ⟨fun i m σ' H' => m = ds.length - i ∧ i ≤ ds.length ∧ Pv i σ' H', ⟨ds.length, by simp, Nat.zero_le _, ρ1, G1, i0, S1, Ex.rfl' _⟩, ?_⟩
    rintro i m σ' H' ⟨rfl, hi, ρ2, G2, hI, S2, g2⟩
    by_cases hlt : i < ds.length
    · refine .inr ⟨it.go i G2 H' g2 S2.gh hlt, Pv (i + 1), fun σ3 H3 p => ⟨ds.length - (i + 1), by omega, rfl, hlt, p⟩, fun x H3 y => ?_⟩
      obtain ⟨z, hz, y⟩ := it.yld i G2 H' H3 x g2 S2.gh hlt y
      have nxt : ∀ G4, Ex G2 G4 → SttC C G0 H0 G4 H3 σ' ρ2 → Rp C.X.K G4 x z → tG C.X tg x σ' H3 fun σ2 H2 => tSs C.X body { D with nx := Pv (i + 1), ct := Pv (i + 1), bk := D.nx } σ2 H2 := fun G4 g4 S4 r4 =>
        (step i z ρ2 hz hI).run G0 H0 G4 H3 σ' x S4 r4 _ fun ρ5 σ5 G5 H5 h5 S5 g5 => h5.run G0 H0 G5 H5 σ5 S5 _ ⟨fun ρ6 σ6 G6 H6 a b c' => ⟨ρ6, G6, a, b, ((g2.tr g4).tr g5).tr c'⟩,
          fun r ρ6 σ6 v G6 H6 a b c' d' => ok.rt r ρ6 σ6 v G6 H6 a b ((((g1.tr g2).tr g4).tr g5).tr c') d', fun ρ6 σ6 G6 H6 a b c' => ok.nx ρ6 σ6 G6 H6 a b ((((g1.tr g2).tr g4).tr g5).tr c'), fun ρ6 σ6 G6 H6 a b c' => ⟨ρ6, G6, a, b, ((g2.tr g4).tr g5).tr c'⟩⟩ (ex.mono (((g1.tr g2).tr g4).tr g5))
      rcases y with ⟨rfl, r⟩ | ⟨T, o, hT, rfl, r⟩
      · exact nxt G2 (Ex.rfl' _) S2 r
      · exact nxt _ (Ex.nw (S2.gh.fr hT)) (S2.lay hT) r
    · have e : i = ds.length := by omega
      subst e
      exact .inl ⟨it.stop _ G2 H' g2 S2.gh (Nat.le_refl _), ok.nx ρ2 σ' G2 H' (fin ρ2 hI) S2 (g1.tr g2)⟩) (ex.at σ))⟩
/-- while test: body, by an invariant with a measure -/
theorem js_while {t : Expr} {body : List Stmt} {pos : Pos} {Ψ : Po} (c : Jok C k) (I : Nat → Rho → Prop) (m0 : Nat) (h0 : I m0 ρ)
    (h : ∀ m ρ1, I m ρ1 → JT C ρ1 t fun z ρ2 => (z = true → JB C ρ2 body ⟨fun ρ3 => ∃ m', m' < m ∧ I m' ρ3, Ψ.rt, Ψ.nx, fun ρ3 => ∃ m', m' < m ∧ I m' ρ3⟩) ∧ (z = false → Ψ.nx ρ2)) : JS C ρ (.While t body [] pos) Ψ :=
  ⟨fun G0 H0 G H σ S D ok ex => t_ps (ps_while c.po pt_t pss_t) (by
    refine ⟨fun m σ' H' => ∃ ρ' G', I m ρ' ∧ SttC C G0 H0 G' H' σ' ρ' ∧ Ex G G', ⟨m0, ρ, G, h0, S, Ex.rfl' _⟩, ?_⟩
    rintro m σ' H' ⟨ρ1, G1, hI, S1, g1⟩
    refine (h m ρ1 hI).run G0 H0 G1 H' σ' S1 _ (fun z ρ2 G2 H2 hz S2 g2 => ?_) ((ex.mono g1).at σ')
    cases z with
    | true =>
      refine iteT ⟨fun σ3 H3 => ∃ m', m' < m ∧ ∃ ρ' G', I m' ρ' ∧ SttC C G0 H0 G' H3 σ3 ρ' ∧ Ex G G', fun σ3 H3 p => p, (hz.1 rfl).run G0 H0 G2 H2 σ' S2 _ ⟨fun ρ6 σ6 G6 H6 a b c' => ?_, fun r ρ6 σ6 v G6 H6 a b c' d' => ok.rt r ρ6 σ6 v G6 H6 a b ((g1.tr g2).tr c') d',
        fun ρ6 σ6 G6 H6 a b c' => ok.nx ρ6 σ6 G6 H6 a b ((g1.tr g2).tr c'), fun ρ6 σ6 G6 H6 a b c' => ?_⟩ (ex.mono (g1.tr g2))⟩
      · obtain ⟨m', hm, hI'⟩ := a
        exact ⟨m', hm, ρ6, G6, hI', b, (g1.tr g2).tr c'⟩
      · obtain ⟨m', hm, hI'⟩ := a
        exact ⟨m', hm, ρ6, G6, hI', b, (g1.tr g2).tr c'⟩
    | false => exact iteF (ok.nx ρ2 σ' G2 H2 (hz.2 rfl) S2 (g1.tr g2)))⟩
end
end KJ

set_option Elab.async false
set_option linter.all false
set_option maxRecDepth 100000
set_option maxHeartbeats 4100000
/-! J6: list comprehensions. -/
namespace KJ
open PySem PySem.Spec L2 PyProof.Rows
/-- seen from an entry that knew less -/
theorem Stt.less {K : Fg} {N : List Str} {G0 H0 H0' G H : Hp} {σ : L2.St} {ρ : Rho} (S : Stt K N G0 H0' G H σ ρ) (e : Ex H0 H0') : Stt K N G0 H0 G H σ ρ :=
  ⟨S.gh, S.g0, e.tr S.h0, fun a o h => S.sep a o (e a o h), S.nm, S.len, S.ok, fun a ha => ⟨e.fr (S.own a ha).1, (S.own a ha).2⟩, S.nd⟩
/-- one thing beside is held still -/
theorem Stt.hold {K : Fg} {N : List Str} {G0 H0 G H : Hp} {σ : L2.St} {ρ : Rho} {D : Addr} {o : HO} (S : Stt K N G0 H0 G H σ ρ) (h : H D = some o) (g : G D = none) (hn : D ∉ fpR ρ) : Stt K N G0 (upd H0 D o) G H σ ρ :=
  ⟨S.gh, S.g0, fun a u e => by
    by_cases z : a = D
    · subst z; rw [upd_same] at e; rw [h, ← e]
    · rw [upd_ne z] at e; exact S.h0 a u e, fun a u e q => by
    by_cases z : a = D
    · subst z; exact g
    · rw [upd_ne z] at e; exact S.sep a u e q, S.nm, S.len, S.ok, fun a ha => ⟨by rw [upd_ne (fun z => hn (by rw [← z]; exact ha))]; exact (S.own a ha).1, (S.own a ha).2⟩, S.nd⟩
/-- a thing beside is changed -/
theorem Stt.out {K : Fg} {N : List Str} {G0 H0 G H : Hp} {σ : L2.St} {ρ : Rho} {D : Addr} {o : HO} (S : Stt K N G0 H0 G H σ ρ) (h0 : H0 D = none) (g : G D = none) (hn : D ∉ fpR ρ) : Stt K N G0 H0 G (upd H D o) σ ρ :=
  ⟨fun a u e => by rw [upd_ne (ne_of_none e g)]; exact S.gh a u e, S.g0, fun a u e => by rw [upd_ne (ne_of_none e h0)]; exact S.h0 a u e, S.sep, S.nm, S.len, fun i p e => (S.ok i p e).mono (Ex.rfl' G) fun a ha => upd_ne fun z => hn (by rw [← z]; exact mem_fpR e ha),
    fun a ha => ⟨(S.own a ha).1, (S.own a ha).2.1, by rw [upd_ne (fun z => hn (by rw [← z]; exact ha))]; exact (S.own a ha).2.2⟩, S.nd⟩
/-- the context of a comprehension's block -/
abbrev blkJ (C : Jc) (scope : Scope) (s : Shared) (H : Hp) (Cc : Addr) (cl : List (Str × Addr)) (fp : List Addr) : Jc := ⟨C.X.blk s H scope (compEnvC scope cl Cc C.X.env) fp, fun _ _ _ _ => False, fun _ _ => False⟩
theorem Jok.blk {C : Jc} {k : Nat} (c : Jok C k) (scope : Scope) (s : Shared) (H : Hp) (Cc : Addr) (cl : List (Str × Addr)) (fp : List Addr) : Jok (blkJ C scope s H Cc cl fp) k :=
  ⟨takes0, c.calm, c.nd, c.room, PassesOwn.never, c.nb⟩
theorem Stt.no {K : Fg} {N : List Str} {G0 H0 G H : Hp} {σ : L2.St} {ρ : Rho} (S : Stt K N G0 H0 G H σ ρ) {i : Nat} {x : Str} {t : Sl} {o : Option V} (h : ρ[i]? = some (x, t)) : Stt K N G0 H0 G H (σ.set i o) (ρ.set i (x, .no)) :=
  S.put h trivial (fun _ ha => by cases ha) List.nodup_nil (fun _ ha => by cases ha)
theorem set_own {σ : L2.St} {i : Nat} (h : i < σ.length) : σ.set i (σ.getD i none) = σ := by
  refine List.ext_getElem? fun (k : Nat) => ?_
  by_cases hk : i = k
  · subst hk
    rw [List.getElem?_set_self h, List.getD_eq_getElem?_getD, List.getElem?_eq_getElem h]; rfl
  · rw [List.getElem?_set_ne hk]
section
variable {C : Jc} {ρ : Rho} {k : Nat}
/-- [elt for y in iter if ..], the names' state told turn by turn -/
theorem lc_read {y : Str} {p : Pos} {elt iter : Expr} {ifs : List Expr} {scope : Scope} {Φ : List Pd → Rho → Prop} (c : Jok C k) (j : Nat) (hj : C.X.N[j]? = some y)
    (h : JI C ρ (.Name y p) iter fun ds ρ1 => ∃ (ρw : Rho) (s0 : Sl) (I : Nat → List Pd → Rho → Prop), Lk ρ1 y s0 ∧ fpS s0 = [] ∧ Up ρ1 y .no ρw ∧ ds.length ≤ 1000000 ∧ I 0 [] ρw ∧
      (∀ (i : Nat) z acc ρ2, ds[i]? = some z → I i acc ρ2 → acc.length ≤ i → ∃ ρ3, Up ρ2 y (.sh z) ρ3 ∧ ∀ s H Cc cl fp, JX (blkJ C scope s H Cc cl fp) ρ3 ifs fun b ρ4 =>
        (b = true → ∀ s H Cc cl fp, JE (blkJ C scope s H Cc cl fp) ρ4 elt fun w ρ5 => ∃ ρ6, Up ρ5 y .no ρ6 ∧ I (i + 1) (acc ++ [w]) ρ6) ∧ (b = false → ∃ ρ6, Up ρ4 y .no ρ6 ∧ I (i + 1) acc ρ6)) ∧
      (∀ acc ρ2, I ds.length acc ρ2 → ∃ ρ3, Up ρ2 y s0 ρ3 ∧ Φ acc ρ3))
    {G0 H0 G H : Hp} {σ : L2.St} (S : SttC C G0 H0 G H σ ρ) {Q : VK} (ok : okF C G0 H0 G σ Φ Q) (ex : exE C G0 H0 G σ) :
    tLc (tI C.X (.Name y p) iter) (gName j) (fun σ H Q => ∀ s H1 Cc cl fp, tX (C.X.blk s H1 scope (compEnvC scope cl Cc C.X.env) fp) ifs σ H Q) (fun σ H Q => ∀ s H1 Cc cl fp, tE (C.X.blk s H1 scope (compEnvC scope cl Cc C.X.env) fp) elt σ H Q) [j] σ H Q := by
  refine h.run G0 H0 G H σ S _ (fun ds ρ1 J G1 H1 h1 S1 g1 it => ?_) ex
  obtain ⟨ρw, s0, I, l0, f0, uw, hlen, i0, step, fin⟩ := h1
  intro D hD
  have hG1 : G1 D = none := S1.gh.fr hD
  have h0D : H0 D = none := S1.h0.fr hD
  obtain ⟨jl, hjl⟩ := l0.at
  have ejl : jl = j := nodup_ix c.nd (S1.slot hjl).1 hj
  subst ejl
  obtain ⟨jw, tw, hjw, rfl⟩ := uw.at
  have ejw : jw = jl := nodup_ix c.nd (S1.slot hjw).1 hj
  subst ejw
  have hjs : jw < σ.length := (S1.slot hjw).2.1
  have wip : ∀ τ : L2.St, wipe τ [jw] = τ.set jw none := fun τ => rfl
  let Pv : Nat → Hp → Prop := fun i H' => ∃ acc vs ρ' G', I i acc ρ' ∧ acc.length ≤ i ∧ SttC C G0 H0 G' H' (σ.set jw none) ρ' ∧ Ex G1 G' ∧ G' D = none ∧ D ∉ fpR ρ' ∧ H' D = some (.lst vs) ∧ RpA C.X.K G' vs acc
  have SW : SttC C G0 H0 G1 H1 (σ.set jw none) (ρ1.set jw (y, .no)) := S1.no hjw
  have nW : D ∉ fpR (ρ1.set jw (y, Sl.no)) := SW.notIn hD
  refine ⟨fun i m H' => m = ds.length - i ∧ i ≤ ds.length ∧ Pv i H', ⟨ds.length, by simp, Nat.zero_le _, [], [], _, G1, i0, Nat.le_refl _, SW.out h0D hG1 nW, Ex.rfl' _, hG1, nW, upd_same, .nil⟩, ?_⟩
  rintro i m H' ⟨rfl, hi, acc, vs, ρ2, G2, hI, hal, S2, g2, hG2, n2, hD2, r2⟩
  by_cases hlt : i < ds.length
  · refine .inr ⟨it.go i G2 H' g2 S2.gh hlt, Pv (i + 1), fun H3 q => ⟨ds.length - (i + 1), by omega, rfl, hlt, q⟩, fun x H3 yy => ?_⟩
    obtain ⟨z, hz, yy⟩ := it.yld i G2 H' H3 x g2 S2.gh hlt yy
    obtain ⟨ρ3, u3, body⟩ := step i z acc ρ2 hz hI hal
    obtain ⟨j3, t3, hj3, rfl⟩ := u3.at
    have ej3 : j3 = jw := nodup_ix c.nd (S2.slot hj3).1 hj
    subst ej3
    -- from the state in which the item is in hand
    have turn : ∀ G4, Ex G2 G4 → G4 D = none → H3 D = some (.lst vs) → SttC C G0 H0 G4 H3 (σ.set j3 none) ρ2 → Rp C.X.K G4 x z → gName j3 x (wipe σ [j3]) H3 fun σ2 H2 => wipe σ2 [j3] = wipe σ [j3] ∧ (∀ s H1 Cc cl fp, tX (C.X.blk s H1 scope (compEnvC scope cl Cc C.X.env) fp) ifs σ2 H2 fun b H3 =>
        if b = true then (∀ s H1 Cc cl fp, tE (C.X.blk s H1 scope (compEnvC scope cl Cc C.X.env) fp) elt σ2 H3 fun y H4 => ∃ acc, H4 D = some (.lst acc) ∧ acc.length < sizeLine ∧ Pv (i + 1) (upd H4 D (.lst (acc ++ [y])))) else Pv (i + 1) H3) := by
      intro G4 g4 hG4 hD4 S4 r4
      show wipe ((σ.set j3 none).set j3 (some x)) [j3] = σ.set j3 none ∧ _
      refine ⟨by rw [wip, List.set_set, List.set_set], fun s H1 Cc cl fp => ?_⟩
      have S5 : SttC C G0 H0 G4 H3 ((σ.set j3 none).set j3 (some x)) (ρ2.set j3 (y, .sh z)) := S4.sh hj3 r4
      have n5 : D ∉ fpR (ρ2.set j3 (y, Sl.sh z)) := fun hm => (S5.own D hm).2.2 |> fun _ => by
        obtain ⟨l, r, e1, _, es⟩ := cut_at hj3
        rw [es, fpR_app, fpR_cons] at hm
        refine n2 ?_
        rw [e1, fpR_app, fpR_cons]
        have hm := List.mem_append.mp hm
        rcases hm with hm | hm
        · exact List.mem_append_left _ hm
        · exact List.mem_append_right _ (List.mem_append_right _ (by simpa [fpS] using hm))
      have S5' := S5.hold hD4 hG4 n5
      have h0' : Ex H0 (upd H0 D (.lst vs)) := Ex.nw h0D
      have g0D : G0 D = none := S.g0.fr ((g1.tr g2).fr hG2)
      have back : ∀ {σ5 : L2.St} {ρ5 : Rho} {G5 H5 : Hp}, Stt C.X.K C.X.N G0 (upd H0 D (.lst vs)) G5 H5 σ5 ρ5 → SttC C G0 H0 G5 H5 σ5 ρ5 ∧ G5 D = none ∧ D ∉ fpR ρ5 ∧ H5 D = some (.lst vs) := fun {σ5 ρ5 G5 H5} S5 =>
        ⟨S5.less h0', S5.sep D _ upd_same g0D, (fun hm => by
          have q := (S5.own D hm).1
          rw [upd_same] at q
          cases q), S5.h0 D _ upd_same⟩
      -- the slot is wiped again
      have wp : ∀ {ρ5 ρ6 : Rho} {G5 H5 : Hp}, SttC C G0 H0 G5 H5 ((σ.set j3 none).set j3 (some x)) ρ5 → D ∉ fpR ρ5 → Up ρ5 y .no ρ6 → SttC C G0 H0 G5 H5 (σ.set j3 none) ρ6 ∧ D ∉ fpR ρ6 := fun {ρ5 ρ6 G5 H5} S6 n6 u6 => by
        obtain ⟨j6, t6, hj6, rfl⟩ := u6.at
        have ej6 : j6 = j3 := nodup_ix c.nd (S6.slot hj6).1 hj
        subst ej6
        have S7 := S6.no (o := none) hj6
        rw [List.set_set, List.set_set] at S7
        refine ⟨S7, fun hm => n6 ?_⟩
        obtain ⟨l, r, e1, _, es⟩ := cut_at hj6
        rw [es, fpR_app, fpR_cons] at hm
        rw [e1, fpR_app, fpR_cons]
        have hm := List.mem_append.mp hm
        rcases hm with hm | hm
        · exact List.mem_append_left _ hm
        · exact List.mem_append_right _ (List.mem_append_right _ (by simpa [fpS] using hm))
      refine (body s H1 Cc cl fp).run G0 (upd H0 D (.lst vs)) G4 H3 _ S5' _ (fun b ρ5 G5 H5 hb S6 g5 => ?_) (fun x' ρ' dd G' H' hx => hx.elim)
      cases b with
      | true =>
        refine iteT fun s H1 Cc cl fp => (hb.1 rfl s H1 Cc cl fp).run G0 (upd H0 D (.lst vs)) G5 H5 _ S6 _ (fun w ρ6 v G6 H6 hw S7 g6 r7 => ?_) (fun x' ρ' dd G' H' hx => hx.elim)
        obtain ⟨ρ7, u7, hI7⟩ := hw
        obtain ⟨S8, hG6, n6, hD6⟩ := back S7
        obtain ⟨S9, n9⟩ := wp S8 n6 u7
        have rr : RpA C.X.K G6 (vs ++ [v]) (acc ++ [w]) := (r2.mono ((g4.tr g5).tr g6)).app (.one r7)
        refine ⟨vs, hD6, by rw [r2.len, sizeLine_eq]; omega, acc ++ [w], vs ++ [v], ρ7, G6, hI7, by rw [List.length_append, List.length_singleton]; omega, S9.out h0D hG6 n9, ((g2.tr g4).tr g5).tr g6, hG6, n9, upd_same, rr⟩
      | false =>
        obtain ⟨ρ7, u7, hI7⟩ := hb.2 rfl
        obtain ⟨S8, hG6, n6, hD6⟩ := back S6
        obtain ⟨S9, n9⟩ := wp S8 n6 u7
        exact iteF ⟨acc, vs, ρ7, G5, hI7, by omega, S9, (g2.tr g4).tr g5, hG6, n9, hD6, r2.mono (g4.tr g5)⟩
    rcases yy with ⟨rfl, r⟩ | ⟨T, o, hT, rfl, r⟩
    · exact turn G2 (Ex.rfl' _) hG2 hD2 S2 r
    · have nT : D ≠ T := ne_of_none hD2 hT
      exact turn _ (Ex.nw (S2.gh.fr hT)) (by rw [upd_ne nT]; exact hG2) (by rw [upd_ne nT]; exact hD2) (S2.lay hT) r
  · have e : i = ds.length := by omega
    subst e
    refine .inl ⟨it.stop _ G2 H' g2 S2.gh (Nat.le_refl _), ?_⟩
    obtain ⟨ρ3, u3, hΦ⟩ := fin acc ρ2 hI
    obtain ⟨j3, t3, hj3, rfl⟩ := u3.at
    have ej3 : j3 = jw := nodup_ix c.nd (S2.slot hj3).1 hj
    subst ej3
    have S3 : SttC C G0 H0 G2 H' ((σ.set j3 none).set j3 (σ.getD j3 none)) (ρ2.set j3 (y, s0)) := S2.put hj3 ((S1.ok j3 _ hjl).mono g2 fun a ha => by rw [f0] at ha; cases ha) (fun a ha => by rw [f0] at ha; cases ha) (by rw [f0]; exact List.nodup_nil) (fun a ha => by rw [f0] at ha; cases ha)
    rw [List.set_set, set_own hjs] at S3
    have n3 : D ∉ fpR (ρ2.set j3 (y, s0)) := fun hm => n2 (by
      obtain ⟨l, r, e1, _, es⟩ := cut_at hj3
      rw [es, fpR_app, fpR_cons] at hm
      rw [e1, fpR_app, fpR_cons]
      have hm := List.mem_append.mp hm
      rcases hm with hm | hm
      · exact List.mem_append_left _ hm
      · refine List.mem_append_right _ (List.mem_append_right _ ?_)
        rw [show fpS (y, s0).2 = [] from f0] at hm
        exact hm)
    exact ok acc _ D vs G2 H' hΦ S3 (g1.tr g2) h0D hG2 n3 hD2 r2
/-- what the rule asks of a turn, told by plain functions: xs the items, enc how they stand, f what is made, p which stay -/
def LcP (C : Jc) (scope : Scope) (y : Str) (elt : Expr) (ifs : List Expr) (Φ : List Pd → Rho → Prop) (ds : List Pd) (ρ1 : Rho) : Prop :=
  ∃ (α : Type) (xs : List α) (enc f : α → Pd) (q : α → Bool) (s0 : Sl), ds = xs.map enc ∧ Lk ρ1 y s0 ∧ fpS s0 = [] ∧ xs.length ≤ 1000000 ∧
    (∀ x ∈ xs, ∃ ρ3, Up ρ1 y (.sh (enc x)) ρ3 ∧ (∀ s H Cc cl fp, JX (blkJ C scope s H Cc cl fp) ρ3 ifs fun b ρ4 => b = q x ∧ ρ4 = ρ3) ∧ (q x = true → ∀ s H Cc cl fp, JE (blkJ C scope s H Cc cl fp) ρ3 elt fun w ρ5 => w = f x ∧ ρ5 = ρ3)) ∧
    Φ ((xs.filter q).map f) ρ1
theorem Up.get {ρ ρ' : Rho} {x : Str} {s : Sl} (h : Up ρ x s ρ') : Lk ρ' x s := by
  induction h with
  | hd => exact .hd
  | tl _ ih => exact .tl ih
theorem Up.up {ρ ρ' : Rho} {x : Str} {s : Sl} (h : Up ρ x s ρ') (t : Sl) : ∃ ρ'', Up ρ x t ρ'' ∧ Up ρ' x t ρ'' := by
  induction h with
  | hd => exact ⟨_, .hd, .hd⟩
  | tl _ ih => obtain ⟨r, a, b⟩ := ih; exact ⟨_, .tl a, .tl b⟩
theorem Lk.up {ρ : Rho} {x : Str} {s : Sl} (h : Lk ρ x s) (t : Sl) : ∃ ρ', Up ρ x t ρ' ∧ Up ρ' x s ρ := by
  induction h with
  | hd => exact ⟨_, .hd, .hd⟩
  | tl _ ih => obtain ⟨r, a, b⟩ := ih; exact ⟨_, .tl a, .tl b⟩
theorem Up.fn {ρ ρ1 ρ2 : Rho} {x : Str} {s : Sl} (hn : (ρ.map (·.1)).Nodup) (h1 : Up ρ x s ρ1) (h2 : Up ρ x s ρ2) : ρ1 = ρ2 := by
  obtain ⟨i, t, hi, rfl⟩ := h1.at
  obtain ⟨j, u, hj, rfl⟩ := h2.at
  have : i = j := nodup_ix hn (x := x) (by rw [List.getElem?_map, hi]; rfl) (by rw [List.getElem?_map, hj]; rfl)
  rw [this]
theorem Up.nm {ρ ρ' : Rho} {x : Str} {s : Sl} (h : Up ρ x s ρ') : ρ'.map (·.1) = ρ.map (·.1) := by
  induction h with
  | hd => rfl
  | tl _ ih => rw [List.map_cons, List.map_cons, ih]
theorem lc_pure {y : Str} {p : Pos} {elt iter : Expr} {ifs : List Expr} {scope : Scope} {Φ : List Pd → Rho → Prop} (c : Jok C k) (j : Nat) (hj : C.X.N[j]? = some y) (h : JI C ρ (.Name y p) iter (LcP C scope y elt ifs Φ))
    {G0 H0 G H : Hp} {σ : L2.St} (S : SttC C G0 H0 G H σ ρ) {Q : VK} (ok : okF C G0 H0 G σ Φ Q) (ex : exE C G0 H0 G σ) :
    tLc (tI C.X (.Name y p) iter) (gName j) (fun σ H Q => ∀ s H1 Cc cl fp, tX (C.X.blk s H1 scope (compEnvC scope cl Cc C.X.env) fp) ifs σ H Q) (fun σ H Q => ∀ s H1 Cc cl fp, tE (C.X.blk s H1 scope (compEnvC scope cl Cc C.X.env) fp) elt σ H Q) [j] σ H Q := by
  refine lc_read (Φ := fun ds ρ' => Φ ds ρ') c j hj ⟨fun G0 H0 G H σ S R ok' ex' => h.run G0 H0 G H σ S R (fun ds ρ1 J G1 H1 h1 S1 g1 it => ok' ds ρ1 J G1 H1 ?_ S1 g1 it) ex'⟩ S ok ex
  obtain ⟨α, xs, enc, f, q, s0, rfl, l0, f0, hl, step, fin⟩ := h1
  have nd : (ρ1.map (·.1)).Nodup := by rw [S1.nm]; exact c.nd
  obtain ⟨ρw, uw, ub⟩ := l0.up .no
  refine ⟨ρw, s0, fun i acc ρ' => ρ' = ρw ∧ acc = ((xs.take i).filter q).map f, l0, f0, uw, by rw [List.length_map]; exact hl, ⟨rfl, rfl⟩, ?_, ?_⟩
  · rintro i z acc ρ2 hz ⟨rfl, rfl⟩ hal
    rw [List.getElem?_map] at hz
    cases hx : xs[i]? with
    | none => rw [hx] at hz; cases hz
    | some x =>
      rw [hx] at hz
      have ez : z = enc x := (Option.some.inj hz).symm
      subst ez
      obtain ⟨ρ3, u3, hX, hE⟩ := step x (List.mem_of_getElem? hx)
      have tk : xs.take (i + 1) = xs.take i ++ [x] := by rw [List.take_add_one, hx]; rfl
      obtain ⟨ρ3', u3', u3''⟩ := uw.up (.sh (enc x))
      have e3 : ρ3' = ρ3 := u3'.fn nd u3
      subst e3
      obtain ⟨ρ7, u7, u7'⟩ := u3.up .no
      have e7 : ρ7 = ρ2 := u7.fn nd uw
      subst e7
      refine ⟨ρ3', u3'', fun s H Cc cl fp => (hX s H Cc cl fp).imp ?_⟩
      rintro b ρ4 ⟨rfl, rfl⟩
      refine ⟨fun hb s H Cc cl fp => (hE hb s H Cc cl fp).imp ?_, fun hb => ⟨ρ7, u7', rfl, ?_⟩⟩
      · rintro w ρ5 ⟨rfl, rfl⟩
        exact ⟨ρ7, u7', rfl, by rw [tk, List.filter_append, List.map_append, List.filter_cons, if_pos hb]; rfl⟩
      · rw [tk, List.filter_append, List.map_append, List.filter_cons, if_neg (by rw [hb]; decide)]
        simp
  · rintro acc ρ2 ⟨rfl, rfl⟩
    refine ⟨ρ1, ub, ?_⟩
    rw [List.length_map, List.take_length]
    exact fin
/-- Names' places -/
inductive Ixr : Rho → Str → Nat → Prop
  | hd {x : Str} {s : Sl} {ρ : Rho} : Ixr ((x, s) :: ρ) x 0
  | tl {x : Str} {p : Str × Sl} {ρ : Rho} {j : Nat} : Ixr ρ x j → Ixr (p :: ρ) x (j + 1)
theorem Ixr.at {ρ : Rho} {x : Str} {j : Nat} (h : Ixr ρ x j) : (ρ.map (·.1))[j]? = some x := by
  induction h with
  | hd => rfl
  | tl _ ih => rw [List.map_cons, List.getElem?_cons_succ]; exact ih
theorem blk_env {C : Jc} {scope : Scope} {cl : List (Str × Addr)} {Cc : Addr} : (compEnvC scope cl Cc C.X.env).scope = relS scope C.X.env.scope := rfl
theorem lc_pe {y : Str} {p pos : Pos} {elt iter : Expr} {ifs : List Expr} {scope : Scope} (c : Jok C k) (j : Nat) (hj : C.X.N[j]? = some y) (hb : BlkOk C.X.N C.X.env.scope scope [(y, j)]) (hl : L2.Loc (relS scope C.X.env.scope) y)
    (hf : (scope.names.lookup y == some .cell) = true ∨ (relS scope C.X.env.scope).names.lookup y = some .local) (hs : ∀ x, foldedSetIterable iter C.X.env x = pure x) :
    PE C.X (.ListComp elt [⟨.Name y p, iter, ifs, 0⟩] scope pos) (tLc (tI C.X (.Name y p) iter) (gName j) (fun σ H Q => ∀ s H1 Cc cl fp, tX (C.X.blk s H1 scope (compEnvC scope cl Cc C.X.env) fp) ifs σ H Q) (fun σ H Q => ∀ s H1 Cc cl fp, tE (C.X.blk s H1 scope (compEnvC scope cl Cc C.X.env) fp) elt σ H Q) [j]) :=
  pe_lc (own := [(y, j)]) c.calm c.nd pi_t hb (fun s H Cc cl fp => pg_name (X := C.X.blk s H scope (compEnvC scope cl Cc C.X.env) fp) c.nd hj hl hf) (fun s H Cc cl fp => ⟨fun pins s' σ H' Q I h => (h s H Cc cl fp) pins s' I⟩) (fun s H Cc cl fp => ⟨fun pins s' σ H' Q I h => (h s H Cc cl fp) pins s' I⟩) hs
theorem jf_lc {y : Str} {p pos : Pos} {elt iter : Expr} {ifs : List Expr} {scope : Scope} {Φ : List Pd → Rho → Prop} (c : Jok C k) (j : Nat) (hj : C.X.N[j]? = some y) (h : JI C ρ (.Name y p) iter (LcP C scope y elt ifs Φ)) (hb : blkC C.X.N C.X.env.scope scope [(y, j)] = true := by kernel_rfl)
    (hl : locB (relS scope C.X.env.scope) y = true := by kernel_rfl) (hf : (scope.names.lookup y == some .cell) = true ∨ (relS scope C.X.env.scope).names.lookup y = some .local := by exact .inr (by kernel_rfl)) (hs : ∀ x, foldedSetIterable iter C.X.env x = pure x := by intro _; rfl) :
    JF C ρ (.ListComp elt [⟨.Name y p, iter, ifs, 0⟩] scope pos) Φ := ⟨fun G0 H0 G H σ S Q ok ex => t_pe (lc_pe c j hj (blkOk_by hb) (loc_of hl) hf hs) (lc_pure c j hj h S ok ex)⟩
/-- with a state that the turns change -/
def LcS (C : Jc) (scope : Scope) (y : Str) (elt : Expr) (ifs : List Expr) (Φ : List Pd → Rho → Prop) (ds : List Pd) (ρ1 : Rho) : Prop := ∃ (ρw : Rho) (s0 : Sl) (I : Nat → List Pd → Rho → Prop), Lk ρ1 y s0 ∧ fpS s0 = [] ∧ Up ρ1 y .no ρw ∧ ds.length ≤ 1000000 ∧ I 0 [] ρw ∧
      (∀ (i : Nat) z acc ρ2, ds[i]? = some z → I i acc ρ2 → acc.length ≤ i → ∃ ρ3, Up ρ2 y (.sh z) ρ3 ∧ ∀ s H Cc cl fp, JX (blkJ C scope s H Cc cl fp) ρ3 ifs fun b ρ4 =>
        (b = true → ∀ s H Cc cl fp, JE (blkJ C scope s H Cc cl fp) ρ4 elt fun w ρ5 => ∃ ρ6, Up ρ5 y .no ρ6 ∧ I (i + 1) (acc ++ [w]) ρ6) ∧ (b = false → ∃ ρ6, Up ρ4 y .no ρ6 ∧ I (i + 1) acc ρ6)) ∧
      (∀ acc ρ2, I ds.length acc ρ2 → ∃ ρ3, Up ρ2 y s0 ρ3 ∧ Φ acc ρ3)
theorem jf_lcs {y : Str} {p pos : Pos} {elt iter : Expr} {ifs : List Expr} {scope : Scope} {Φ : List Pd → Rho → Prop} (c : Jok C k) (j : Nat) (hj : C.X.N[j]? = some y) (h : JI C ρ (.Name y p) iter (LcS C scope y elt ifs Φ)) (hb : blkC C.X.N C.X.env.scope scope [(y, j)] = true := by kernel_rfl)
    (hl : locB (relS scope C.X.env.scope) y = true := by kernel_rfl) (hf : (scope.names.lookup y == some .cell) = true ∨ (relS scope C.X.env.scope).names.lookup y = some .local := by exact .inr (by kernel_rfl)) (hs : ∀ x, foldedSetIterable iter C.X.env x = pure x := by intro _; rfl) :
    JF C ρ (.ListComp elt [⟨.Name y p, iter, ifs, 0⟩] scope pos) Φ := ⟨fun G0 H0 G H σ S Q ok ex => t_pe (lc_pe c j hj (blkOk_by hb) (loc_of hl) hf hs) (lc_read c j hj h S ok ex)⟩
/-- x = [..], x a local that no block captures -/
theorem lc_ps {x y : Str} {px p pos spos : Pos} {elt iter : Expr} {ifs : List Expr} {scope : Scope} (c : Jok C k) (i j : Nat) (hi : C.X.N[i]? = some x) (hj : C.X.N[j]? = some y) (hx : C.X.env.scope.names.lookup x = some .local) (hk : C.X.env.scope.kind = .function) (hline : (px.line == pos.line) = true)
    (ha : (scope.names.any fun (n, k) => n == x && (k == .local || k == .cell)) = false) (hb : BlkOk C.X.N C.X.env.scope scope [(y, j)]) (hl : L2.Loc (relS scope C.X.env.scope) y) (hf : (scope.names.lookup y == some .cell) = true ∨ (relS scope C.X.env.scope).names.lookup y = some .local)
    (hs : ∀ x, foldedSetIterable iter C.X.env x = pure x) :
    PS C.X (.Assign [.Name x px] (.ListComp elt [⟨.Name y p, iter, ifs, 0⟩] scope pos) spos) (tAsg (tLc (tI C.X (.Name y p) iter) (gName j) (fun σ H Q => ∀ s H1 Cc cl fp, tX (C.X.blk s H1 scope (compEnvC scope cl Cc C.X.env) fp) ifs σ H Q) (fun σ H Q => ∀ s H1 Cc cl fp, tE (C.X.blk s H1 scope (compEnvC scope cl Cc C.X.env) fp) elt σ H Q) [j]) (gName i)) :=
  ps_setLc (own := [(y, j)]) c.calm c.nd hi hx (sw_true hk hx hline ha) pi_t hb (fun s H Cc cl fp => pg_name (X := C.X.blk s H scope (compEnvC scope cl Cc C.X.env) fp) c.nd hj hl hf) (fun s H Cc cl fp => ⟨fun pins s' σ H' Q I h => (h s H Cc cl fp) pins s' I⟩) (fun s H Cc cl fp => ⟨fun pins s' σ H' Q I h => (h s H Cc cl fp) pins s' I⟩) hs
/-- own = true: the new list stays one's own; false: it is data from here on -/
theorem js_lcs {x y : Str} {px p pos spos : Pos} {elt iter : Expr} {ifs : List Expr} {scope : Scope} {Ψ : Po} (c : Jok C k) (i j : Nat) (hi : C.X.N[i]? = some x) (hj : C.X.N[j]? = some y) (h : JI C ρ (.Name y p) iter (LcS C scope y elt ifs fun ds ρ1 => ∀ a, ∃ ρ2, Up ρ1 x (.ow a ds) ρ2 ∧ Ψ.nx ρ2))
    (hx : C.X.env.scope.names.lookup x = some .local := by kernel_rfl) (hk : C.X.env.scope.kind = .function := by kernel_rfl) (hline : (px.line == pos.line) = true := by kernel_rfl) (ha : (scope.names.any fun (n, k) => n == x && (k == .local || k == .cell)) = false := by kernel_rfl)
    (hb : blkC C.X.N C.X.env.scope scope [(y, j)] = true := by kernel_rfl) (hl : locB (relS scope C.X.env.scope) y = true := by kernel_rfl) (hf : (scope.names.lookup y == some .cell) = true ∨ (relS scope C.X.env.scope).names.lookup y = some .local := by exact .inr (by kernel_rfl))
    (hs : ∀ x, foldedSetIterable iter C.X.env x = pure x := by intro _; rfl) : JS C ρ (.Assign [.Name x px] (.ListComp elt [⟨.Name y p, iter, ifs, 0⟩] scope pos) spos) Ψ :=
  ⟨fun G0 H0 G H σ S D ok ex => t_ps (lc_ps c i j hi hj hx hk hline ha (blkOk_by hb) (loc_of hl) hf hs) (lc_read c j hj h S (fun ds ρ' a vs G' H' q b c' h0 g0 na hv r => by
    obtain ⟨ρ2, u, h2⟩ := q a
    obtain ⟨i', t, hi', rfl⟩ := u.at
    have e1 : i' = i := nodup_ix c.nd (b.slot hi').1 hi
    subst e1
    exact ok.nx _ _ _ _ h2 (b.ow hi' h0 g0 na hv r) c') (ex.at σ))⟩
theorem js_lc {x y : Str} {px p pos spos : Pos} {elt iter : Expr} {ifs : List Expr} {scope : Scope} {Ψ : Po} (c : Jok C k) (i j : Nat) (hi : C.X.N[i]? = some x) (hj : C.X.N[j]? = some y) (h : JI C ρ (.Name y p) iter (LcP C scope y elt ifs fun ds ρ1 => ∃ ρ2, Up ρ1 x (.sh (.list ds)) ρ2 ∧ Ψ.nx ρ2))
    (hx : C.X.env.scope.names.lookup x = some .local := by kernel_rfl) (hk : C.X.env.scope.kind = .function := by kernel_rfl) (hline : (px.line == pos.line) = true := by kernel_rfl) (ha : (scope.names.any fun (n, k) => n == x && (k == .local || k == .cell)) = false := by kernel_rfl)
    (hb : blkC C.X.N C.X.env.scope scope [(y, j)] = true := by kernel_rfl) (hl : locB (relS scope C.X.env.scope) y = true := by kernel_rfl) (hf : (scope.names.lookup y == some .cell) = true ∨ (relS scope C.X.env.scope).names.lookup y = some .local := by exact .inr (by kernel_rfl))
    (hs : ∀ x, foldedSetIterable iter C.X.env x = pure x := by intro _; rfl) : JS C ρ (.Assign [.Name x px] (.ListComp elt [⟨.Name y p, iter, ifs, 0⟩] scope pos) spos) Ψ :=
  ⟨fun G0 H0 G H σ S D ok ex => t_ps (lc_ps c i j hi hj hx hk hline ha (blkOk_by hb) (loc_of hl) hf hs) (lc_pure c j hj h S (fun ds ρ' a vs G' H' q b c' h0 g0 na hv r => by
    obtain ⟨ρ2, u, h2⟩ := q
    obtain ⟨i', t, hi', rfl⟩ := u.at
    have e1 : i' = i := nodup_ix c.nd (b.slot hi').1 hi
    subst e1
    have S2 := b.frz hv h0 g0 na
    have rr : Rp C.X.K (upd G' a (.lst vs)) (.ref a) (.list ds) := .lst upd_same (r.mono (Ex.nw g0))
    exact ok.nx _ _ _ _ h2 (S2.sh hi' rr) (c'.tr (Ex.nw g0))) (ex.at σ))⟩
/-- tests of a block -/
theorem jx_nil {Φ : Bool → Rho → Prop} (h : Φ true ρ) : JX C ρ [] Φ := ⟨fun G0 H0 G H σ S Q ok ex => t_px pts_nil (ok _ _ _ _ h S (Ex.rfl' G))⟩
theorem jx_one {e : Expr} {Φ : Bool → Rho → Prop} (h : JT C ρ e Φ) : JX C ρ [e] Φ := ⟨fun G0 H0 G H σ S Q ok ex => t_px (pts_one pt_t) (h.run G0 H0 G H σ S Q ok ex)⟩
end
end KJ

set_option Elab.async false
set_option linter.all false
set_option maxRecDepth 100000
set_option maxHeartbeats 4100000
/-! J7: defs, calls. -/
namespace KJ
open PySem PySem.Spec L2 PyProof.Rows
/-- what a call comes to: data, a new list, an exception -/
inductive Rs where
  | d (x : Pd)
  | fr (ds : List Pd)
  | xn (x : Xn)
def Rv.rs : Rv → Rs
  | .d x => .d x
  | .fr ds => .fr ds
/-- what runs: the program, the world, what is known of the module -/
structure Md where
  P : Program
  w : World
  K : Fg
  mg : Str → Option Value
  base : Heap
def mdX (X : Cx) : Md := ⟨X.prog, X.w, X.K, X.mg, X.base⟩
/-- a heap without a -/
def les (H : Hp) (a : Addr) : Hp := fun c => if c = a then none else H c
theorem les_at {H : Hp} {a : Addr} : les H a a = none := if_pos rfl
theorem les_ne {H : Hp} {a c : Addr} (n : c ≠ a) : les H a c = H c := if_neg n
/-- how the end of a call stands: behind H, with data G' -/
def RsOk (K : Fg) (H G' H' : Hp) (Q : VK) (E : XK) : Rs → Prop
  | .d x => ∀ v, Rp K G' v x → Q v H'
  | .fr ds => ∀ a vs, H a = none → G' a = none → H' a = some (.lst vs) → RpA K G' vs ds → Q (.ref a) H'
  | .xn x => ∀ dd, XnOk K G' H' x dd → E (.ref x.cls) dd H'
/-- a promise at the level of data: from the arguments, what all ends have -/
abbrev Sd := List Pd → (Rs → Prop) → Prop
def spD (K : Fg) (n : Nat) (S : Sd) : Sp := fun vs H Q E => ∃ G ds Φ, Ex G H ∧ RpA K G vs ds ∧ ds.length = n ∧ S ds Φ ∧
  ∀ r, Φ r → ∀ G' H', Ex G G' → Ex G' H' → Ex H H' → (∀ a o, H a = some o → G a = none → G' a = none) → RsOk K H G' H' Q E r
/-- the same of a def whose first argument is a list that it changes: what it holds ahead, the other arguments; how it ends, what the list holds then -/
abbrev Si := List Pd → List Pd → (Rs → List Pd → Prop) → Prop
def spI (K : Fg) (n : Nat) (S : Si) : Sp := fun vs H Q E => ∃ G a ws wds vs' ds Φ, vs = .ref a :: vs' ∧ Ex G H ∧ G a = none ∧ H a = some (.lst ws) ∧ RpA K G ws wds ∧ RpA K G vs' ds ∧ ds.length + 1 = n ∧ S wds ds Φ ∧
  ∀ r wds', Φ r wds' → ∀ G' H' ws', Ex G G' → Ex G' H' → Ex (les H a) H' → (∀ b o, les H a b = some o → G b = none → G' b = none) → G' a = none → H' a = some (.lst ws') → RpA K G' ws' wds' → RsOk K H G' H' Q E r
/-- a def, as its callers see it; dl: the defaults that fill up -/
structure Fo (M : Md) (x : Str) (k n : Nat) (sp : Fg → Nat → Sp) (dl : List Pd) : Prop where
  ex : ∃ f fd ps ds dvs, M.mg x = some (.ref f) ∧ PySem.W.keepIn M.K (.ref f) = true ∧ FnOk M.P M.w M.K M.mg M.base (L2.CX M.P M.w) k f fd ps (sp M.K n) ∧ Binds M.K fd ps ds ∧ Vals dvs ds ∧ ∀ G, RpA M.K G dvs dl
theorem Fo.mono {M : Md} {x : Str} {j k n : Nat} {sp : Fg → Nat → Sp} {dl : List Pd} (F : Fo M x j n sp dl) (h : j ≤ k) : Fo M x k n sp dl := by
  obtain ⟨f, fd, ps, ds, dvs, a, b, c, d⟩ := F.ex
  exact ⟨f, fd, ps, ds, dvs, a, b, c.mono h, d⟩

/-! ### a body -/
/-- what differs from entry to entry -/
structure En where
  f : Addr
  cdv : Value
  A : Around
  outer : List Env
  s : Shared
  H : Hp
  E : XK
def jc (M : Md) (N : List Str) (qual : Str) (sc : Scope) (e : En) (Ξ : Xn → Rho → Prop) : Jc := ⟨cxOf (L2.CX M.P M.w) M.P M.w M.K M.mg M.base N qual sc e.f e.cdv e.A e.outer e.s e.H e.E, fun cls d _ H => e.E cls d H, Ξ⟩
theorem jok {M : Md} {N ps : List Str} {qual : Str} {sc : Scope} {e : En} {Ξ : Xn → Rho → Prop} {k : Nat} (S : FnScope N ps sc) (nb : NoB M.mg) (hr : Room k (e.A.deeper (envOfC qual sc e.s.heap.objs.size e.f e.cdv))) : Jok (jc M N qual sc e Ξ) k where
  tk := L2.takes_of rfl rfl rfl rfl
  calm := rfl
  nd := S.nd
  room := hr
  po := L2.passes_of rfl
  nb := nb
/-- the names at the entry -/
def st0 : List Str → List Pd → Rho
  | [], _ => []
  | x :: N, [] => (x, .no) :: st0 N []
  | x :: N, d :: ds => (x, .sh d) :: st0 N ds
theorem st0_nm : ∀ (N : List Str) (ds : List Pd), (st0 N ds).map (·.1) = N
  | [], _ => rfl
  | _ :: N, [] => congrArg _ (st0_nm N [])
  | _ :: N, _ :: ds => congrArg _ (st0_nm N ds)
theorem st0_fp : ∀ (N : List Str) (ds : List Pd), fpR (st0 N ds) = []
  | [], _ => rfl
  | _ :: N, [] => by show fpR ((_, Sl.no) :: st0 N []) = []; rw [fpR_cons, st0_fp N []]; rfl
  | _ :: N, d :: ds => by show fpR ((_, Sl.sh d) :: st0 N ds) = []; rw [fpR_cons, st0_fp N ds]; rfl
theorem st0_len (N : List Str) (ds : List Pd) : (st0 N ds).length = N.length := by
  have z := congrArg List.length (st0_nm N ds)
  rwa [List.length_map] at z
theorem start_len {N : List Str} {vs : List V} (h : vs.length ≤ N.length) : (L2.start N vs).length = N.length := by
  unfold L2.start
  simp only [List.length_append, List.length_map, List.length_replicate]
  omega
theorem start_cons {x : Str} {N : List Str} {v : V} {vs : List V} : L2.start (x :: N) (v :: vs) = some v :: L2.start N vs := by
  unfold L2.start
  rw [List.map_cons, List.cons_append, List.length_cons, List.length_cons, Nat.add_sub_add_right]
theorem st0_ok {K : Fg} {G H : Hp} : ∀ (N : List Str) (vs : List V) (ds : List Pd), RpA K G vs ds → vs.length ≤ N.length → ∀ (i : Nat) (p : Str × Sl), (st0 N ds)[i]? = some p → SlOk K G H ((L2.start N vs).getD i none) p.2
  | [], _, _, _, _, i, p, e => by simp [st0] at e
  | x :: N, [], _, .nil, _, i, p, e => by
    have : ∀ (N : List Str) (i : Nat), (st0 N [])[i]? = some p → p.2 = .no := fun N => by
      induction N with
      | nil => intro i e; simp [st0] at e
      | cons y N ih =>
        intro i e
        cases i with
        | zero => simp [st0] at e; rw [← e]
        | succ i => exact ih i (by simpa [st0] using e)
    rw [this _ i e]
    trivial
  | x :: N, v :: vs, d :: ds, .cons r rr, h, i, p, e => by
    rw [start_cons]
    cases i with
    | zero =>
      simp [st0] at e
      subst e
      exact ⟨v, rfl, r⟩
    | succ i => exact st0_ok N vs ds rr (Nat.le_of_succ_le_succ h) i p (by simpa [st0] using e)
/-- the promise of a body, at the level of data -/
def poD (Φ : Rs → Prop) : Po := ⟨fun _ => Φ (.d .none), fun r _ => Φ r.rs, fun _ => False, fun _ => False⟩
theorem fo_ok {M : Md} {x y qual : Str} {params : Arguments} {body : List Stmt} {sc : Scope} {dvs : List V} {f : Addr} {fd : FuncData} {N ps : List Str} {k n : Nat} {S : Sd} (F : FunD M.K y qual params body sc dvs [] f fd) (hx : M.mg x = some (.ref f)) (Sc : FnScope N ps sc) (nb : NoB M.mg) (hn : ps.length = n)
    (hb : ∀ (e : En) (ds : List Pd) (Φ : Rs → Prop), Jok (jc M N qual sc e fun x _ => Φ (.xn x)) k → ds.length = n → S ds Φ → JB (jc M N qual sc e fun x _ => Φ (.xn x)) (st0 N ds) body (poD Φ))
    {ds : List Value} {dv : List V} {dl : List Pd} (B : Binds M.K fd ps ds) (Vd : Vals dv ds) (D : ∀ G, RpA M.K G dv dl) : Fo M x (k + 1) n (fun K n => spD K n S) dl := by
  refine ⟨f, fd, ps, ds, dv, hx, F.kp, F.ok Sc (fun vs H Q E h => ?_) (fun cdv A outer s H vs Q E hr h => ?_), B, Vd, D⟩
  · obtain ⟨G, zs, Φ, _, r, l, _⟩ := h
    rw [r.len, l, hn]
  · obtain ⟨G, zs, Φ, g, r, l, hs, q⟩ := h
    have hpl : ps.length ≤ N.length := by have := congrArg List.length Sc.pre; rw [List.length_take] at this; omega
    have hvl : vs.length ≤ N.length := by rw [r.len, l, ← hn]; exact hpl
    refine ⟨_, pss_t, (hb ⟨f, cdv, A, outer, s, H, E⟩ zs Φ (jok Sc nb hr) l hs).run G H G H (L2.start N vs) ?_ _ ⟨fun ρ' σ' G' H' h1 S1 g1 => ?_, fun r ρ' σ' v G' H' h1 S1 g1 rv => ?_, fun _ _ _ _ z => z.elim, fun _ _ _ _ z => z.elim⟩ fun x ρ' σ' dd G' H' h1 S1 g1 hx => ?_⟩
    · exact ⟨g, Ex.rfl' G, Ex.rfl' H, fun _ _ _ z => z, st0_nm N zs, by rw [start_len hvl, st0_len], st0_ok N vs zs r hvl, fun a ha => (by rw [st0_fp] at ha; cases ha), (by rw [st0_fp]; exact List.nodup_nil)⟩
    · exact q _ h1 G' H' g1 S1.gh S1.h0 S1.sep .non .non
    · have z := q _ h1 G' H' g1 S1.gh S1.h0 S1.sep
      cases r with
      | d x => exact z v rv
      | fr ds =>
        obtain ⟨a, vs, rfl, h0, g0, na, ha, r⟩ := rv
        exact z a vs h0 g0 ha r
    · exact q _ h1 G' H' g1 S1.gh S1.h0 S1.sep dd hx
/-- the promise of a body whose first argument (named y) is a list that it changes -/
def poI (y : Str) (a : Addr) (Φ : Rs → List Pd → Prop) : Po := ⟨fun ρ => ∃ w, Lk ρ y (.ow a w) ∧ Φ (.d .none) w, fun r ρ => ∃ w, Lk ρ y (.ow a w) ∧ Φ r.rs w, fun _ => False, fun _ => False⟩
def stI (y : Str) (a : Addr) (w : List Pd) (N : List Str) (ds : List Pd) : Rho := (y, .ow a w) :: st0 N ds
theorem foI_ok {M : Md} {x y z qual : Str} {params : Arguments} {body : List Stmt} {sc : Scope} {dvs : List V} {f : Addr} {fd : FuncData} {N ps : List Str} {k n : Nat} {S : Si} (F : FunD M.K z qual params body sc dvs [] f fd) (hx : M.mg x = some (.ref f)) (Sc : FnScope (y :: N) ps sc) (nb : NoB M.mg) (hn : ps.length = n)
    (hb : ∀ (e : En) (a : Addr) (w ds : List Pd) (Φ : Rs → List Pd → Prop), Jok (jc M (y :: N) qual sc e fun x ρ => ∃ w', Lk ρ y (.ow a w') ∧ Φ (.xn x) w') k → ds.length + 1 = n → S w ds Φ → JB (jc M (y :: N) qual sc e fun x ρ => ∃ w', Lk ρ y (.ow a w') ∧ Φ (.xn x) w') (stI y a w N ds) body (poI y a Φ))
    {ds : List Value} {dv : List V} {dl : List Pd} (B : Binds M.K fd ps ds) (Vd : Vals dv ds) (D : ∀ G, RpA M.K G dv dl) : Fo M x (k + 1) n (fun K n => spI K n S) dl := by
  refine ⟨f, fd, ps, ds, dv, hx, F.kp, F.ok Sc (fun vs H Q E h => ?_) (fun cdv A outer s H vs Q E hr h => ?_), B, Vd, D⟩
  · obtain ⟨G, a, ws, wds, vs', zs, Φ, rfl, _, _, _, _, r, l, _⟩ := h
    rw [List.length_cons, r.len, l, hn]
  · obtain ⟨G, a, ws, wds, vs', zs, Φ, rfl, g, ga, ha, rw', r, l, hs, q⟩ := h
    have hpl : ps.length ≤ (y :: N).length := by have := congrArg List.length Sc.pre; rw [List.length_take] at this; omega
    have hvl : vs'.length ≤ N.length := by rw [List.length_cons] at hpl; rw [r.len]; omega
    have own : ∀ {G' H' : Hp} {σ' : L2.St} {ρ' : Rho} {w : List Pd}, Stt M.K (y :: N) G (les H a) G' H' σ' ρ' → Lk ρ' y (.ow a w) → G' a = none ∧ ∃ ws', H' a = some (.lst ws') ∧ RpA M.K G' ws' w := fun {G' H' σ' ρ' w} S1 lk => by
      obtain ⟨i, hi⟩ := lk.at
      obtain ⟨e, ws', q, r⟩ := S1.ok i _ hi
      exact ⟨(S1.own a (mem_fpR hi (List.mem_singleton.mpr rfl))).2.1, ws', q, r⟩
    have isf : ∀ {b : Addr} {H' : Hp} {u : List V} {ρ' : Rho} {w : List Pd}, Lk ρ' y (.ow a w) → les H a b = none → b ∉ fpR ρ' → H b = none := fun {b H' u ρ' w} lk hb hn => by
      obtain ⟨i, hi⟩ := lk.at
      have : b ≠ a := fun z => hn (mem_fpR hi (by rw [z]; exact List.mem_singleton.mpr rfl))
      rw [les_ne this] at hb
      exact hb
    refine ⟨_, pss_t, (hb ⟨f, cdv, A, outer, s, H, E⟩ a wds zs Φ (jok Sc nb hr) l hs).run G (les H a) G H (L2.start (y :: N) (.ref a :: vs')) ?_ _ ⟨fun ρ' σ' G' H' h1 S1 g1 => ?_, fun r ρ' σ' v G' H' h1 S1 g1 rv => ?_, fun _ _ _ _ z => z.elim, fun _ _ _ _ z => z.elim⟩ fun x ρ' σ' dd G' H' h1 S1 g1 hx => ?_⟩
    · refine ⟨g, Ex.rfl' G, fun b o e => ?_, fun _ _ _ z => z, congrArg _ (st0_nm N zs), ?_, fun i p e => ?_, fun b hb => ?_, ?_⟩
      · by_cases hb : b = a
        · rw [hb, les_at] at e; cases e
        · rw [les_ne hb] at e; exact e
      · rw [start_cons]
        show Nat.succ _ = Nat.succ _
        rw [start_len hvl, st0_len]
      · rw [start_cons]
        cases i with
        | zero =>
          have e : (y, Sl.ow a wds) = p := by simpa [stI] using e
          subst e
          exact ⟨rfl, ws, ha, rw'⟩
        | succ i => exact st0_ok N vs' zs r hvl i p (by simpa [stI] using e)
      · have hb : b ∈ fpS (.ow a wds) ++ fpR (st0 N zs) := by rw [← fpR_cons (y, Sl.ow a wds)]; exact hb
        rw [st0_fp, List.append_nil] at hb
        have e : b = a := List.mem_singleton.mp hb
        subst e
        exact ⟨les_at, ga, by rw [ha]; simp⟩
      · show (fpR ((y, Sl.ow a wds) :: st0 N zs)).Nodup
        rw [fpR_cons, st0_fp, List.append_nil]
        simp [fpS]
    · obtain ⟨w, lk, h1⟩ := h1
      obtain ⟨o1, ws', o2, o3⟩ := own S1 lk
      exact q _ w h1 G' H' ws' g1 S1.gh S1.h0 S1.sep o1 o2 o3 .non .non
    · obtain ⟨w, lk, h1⟩ := h1
      obtain ⟨o1, ws', o2, o3⟩ := own S1 lk
      have z := q _ w h1 G' H' ws' g1 S1.gh S1.h0 S1.sep o1 o2 o3
      cases r with
      | d x => exact z v rv
      | fr ds =>
        obtain ⟨b, vs, rfl, h0, g0, na, hb, r⟩ := rv
        exact z b vs (isf (H' := H') (u := vs) lk h0 na) g0 hb r
    · obtain ⟨w, lk, h1⟩ := h1
      obtain ⟨o1, ws', o2, o3⟩ := own S1 lk
      exact q _ w h1 G' H' ws' g1 S1.gh S1.h0 S1.sep o1 o2 o3 dd hx

/-! ### a call -/
section
variable {C : Jc} {ρ : Rho} {k : Nat}
def tCallW (sp : Sp) (dvs : List V) (W : WX) (t : TA) : TE := fun σ H Q => t σ H fun vs H1 => sp (vs ++ dvs) H1 Q (WE W σ)
/-- the call's reading: the arguments, the defaults, the promise -/
theorem pe_cw {X : Cx} {W : WX} {k : Nat} {f : Addr} {fd : FuncData} {ps : List Str} {sp : Sp} {ds : List Value} {dvs : List V} {x : Str} {p pos : Pos} {e : Expr} {es : List Expr} {t : TA} (tk : Takes X W) (F : FnOk X.prog X.w X.K X.mg X.base (L2.CX X.prog X.w) k f fd ps sp) (hr : Room k X.A) (hg : Gl X x) (hm : X.mg x = some (.ref f)) (hk : PySem.W.keepIn X.K (.ref f) = true)
    (hb : Binds X.K fd ps ds) (hd : Vals dvs ds) (ha : PA X (e :: es) t) (hdb : (x == ("__debug__" : Str)) = false) (he : starEach (e :: es) X.env = (false, eval e X.env) :: starEach es X.env) (hpl : (backTo pos (starEach es X.env)).any (·.1) = false) : PE X (.Call (.Name x p) (e :: es) [] pos) (tCallW sp dvs W t) := by
  refine ⟨fun pins s σ H Q I h => wpAny_Call_Name_kw (ld_glob I hg hm ?_ hdb)⟩
  refine PySem.W.callWith_K (h₀ := X.base) I.ok.mod.kin hk (thn (ha.run pos pins s σ H _ I h) fun us s1 ⟨vs, H1, I1, r, q⟩ => And.intro I1.kIn ?_) he hpl
  have rr : Vals (vs ++ dvs) (us ++ ds) := r.append hd
  have hl : (us ++ ds).length = ps.length := by rw [← rr.length]; exact F.len _ _ _ _ q
  refine wpAny_call (codeAny_mono (F.run X.A X.stack s1 H1 ⟨us, []⟩ (us ++ ds) (vs ++ dvs) Q (WE W σ) hr I1.env0 (hb s1 us I1.kIn hl) rr q) fun z s' hq => ?_)
  cases z with
  | error u => exact passAt tk σ pins H1 s1 u s' I1 hq
  | ok fl =>
    cases fl with
    | ret u => exact I1.after hq
    | next => exact hq.elim
    | brk => exact hq.elim
    | cont => exact hq.elim
/-- what a caller has of a callee's end -/
def rE (C : Jc) (ρ : Rho) (Φ : Pd → Rho → Prop) : Rs → Prop
  | .d x => Φ x ρ
  | .fr ds => Φ (.list ds) ρ
  | .xn x => C.Ξ x ρ
def rF (C : Jc) (ρ : Rho) (Φ : List Pd → Rho → Prop) : Rs → Prop
  | .d _ => False
  | .fr ds => Φ ds ρ
  | .xn x => C.Ξ x ρ
theorem RpA.apnd {K : Fg} {G : Hp} {vs ws : List V} {ds es : List Pd} (h : RpA K G vs ds) (k : RpA K G ws es) : RpA K G (vs ++ ws) (ds ++ es) := h.app k
theorem call_run {x : Str} {j n : Nat} {S : Sd} {dl : List Pd} {e : Expr} {es : List Expr} {p pos : Pos} (c : Jok C k) (F : Fo (mdX C.X) x j n (fun K n => spD K n S) dl) (hj : j ≤ k) {G0 H0 G H : Hp} {σ : L2.St} {Q : VK} {Ψ : Rho → Rs → Prop} (h : JA C ρ (e :: es) fun ds ρ1 => (ds ++ dl).length = n ∧ S (ds ++ dl) (Ψ ρ1))
    (St : SttC C G0 H0 G H σ ρ) (ex : exE C G0 H0 G σ) (k1 : ∀ ρ1 G1 H1 r, Ψ ρ1 r → SttC C G0 H0 G1 H1 σ ρ1 → Ex G G1 → ∀ G' H', Ex G1 G' → SttC C G0 H0 G' H' σ ρ1 → Ex H1 H' → RsOk C.X.K H1 G' H' Q (WE C.W σ) r)
    (hg : Gl C.X x) (hdb : (x == ("__debug__" : Str)) = false) (he : starEach (e :: es) C.X.env = (false, eval e C.X.env) :: starEach es C.X.env) (hpl : (backTo pos (starEach es C.X.env)).any (·.1) = false) : tE C.X (.Call (.Name x p) (e :: es) [] pos) σ H Q := by
  obtain ⟨f, fd, ps, ds, dvs, h1, h2, h3, h4, h5, h6⟩ := F.ex
  refine t_pe (pe_cw c.tk (h3.mono hj) c.room hg h1 h2 h4 h5 pa_t hdb he hpl) (h.run G0 H0 G H σ St _ (fun zs ρ1 vs G1 H1 ⟨hl, hS⟩ S1 g1 r1 => ?_) ex)
  exact ⟨G1, zs ++ dl, _, S1.gh, r1.app (h6 G1), hl, hS, fun r hr G' H' g2 gh hh sep => k1 ρ1 G1 H1 r hr S1 g1 G' H' g2 (S1.go g2 hh gh sep) hh⟩
/-- f(e, ..), f a def -/
theorem je_call {x : Str} {j n : Nat} {S : Sd} {dl : List Pd} {e : Expr} {es : List Expr} {p pos : Pos} {Φ : Pd → Rho → Prop} (c : Jok C k) (F : Fo (mdX C.X) x j n (fun K n => spD K n S) dl) (hj : j ≤ k) (h : JA C ρ (e :: es) fun ds ρ1 => (ds ++ dl).length = n ∧ S (ds ++ dl) (rE C ρ1 Φ))
    (hg : Gl C.X x := by unfold L2.Gl; kernel_rfl) (hdb : (x == ("__debug__" : Str)) = false := by kernel_rfl) (he : starEach (e :: es) C.X.env = (false, eval e C.X.env) :: starEach es C.X.env := by rfl) (hpl : (backTo pos (starEach es C.X.env)).any (·.1) = false := by rfl) : JE C ρ (.Call (.Name x p) (e :: es) [] pos) Φ :=
  ⟨fun G0 H0 G H σ St Q ok ex => call_run c F hj h St ex (fun ρ1 G1 H1 r hr S1 g1 G' H' g2 S2 hh => by
    cases r with
    | d z => exact fun v rv => ok z ρ1 v G' H' hr S2 (g1.tr g2) rv
    | fr ds => exact fun a vs h0 g0 ha r => ok _ ρ1 _ _ _ hr (S2.frz ha (by
        cases q : H0 a with
        | none => rfl
        | some o => rw [S1.h0 a o q] at h0; cases h0) g0 (S1.notIn h0)) ((g1.tr g2).tr (Ex.nw g0)) (.lst upd_same (r.mono (Ex.nw g0)))
    | xn z => exact fun dd hx => ex z ρ1 dd G' H' hr S2 (g1.tr g2) hx) hg hdb he hpl⟩
end
end KJ

set_option Elab.async false
set_option linter.all false
set_option maxRecDepth 100000
set_option maxHeartbeats 4100000
/-! J8: calls that change a list, that hand back a new one; raise, try. -/
namespace KJ
open PySem PySem.Spec L2 PyProof.Rows
/-- an own list is changed in a call -/
theorem Stt.chg {K : Fg} {N : List Str} {G0 H0 G H G' H' : Hp} {σ : L2.St} {ρ : Rho} (S : Stt K N G0 H0 G H σ ρ) {i : Nat} {x : Str} {a : Addr} {w w' : List Pd} {ws' : List V} (hi : ρ[i]? = some (x, .ow a w)) (g : Ex G G') (gh : Ex G' H') (h : Ex (les H a) H')
    (sep : ∀ b o, les H a b = some o → G b = none → G' b = none) (ga : G' a = none) (ha : H' a = some (.lst ws')) (r : RpA K G' ws' w') : Stt K N G0 H0 G' H' σ (ρ.set i (x, .ow a w')) := by
  have mem : a ∈ fpR ρ := mem_fpR hi (List.mem_singleton.mpr rfl)
  obtain ⟨o1, o2, o3⟩ := S.own a mem
  have hl := (List.getElem?_eq_some_iff.mp hi).1
  obtain ⟨l, rr, e, el, es⟩ := cut_at hi
  have e1 : fpR (ρ.set i (x, .ow a w')) = fpR ρ := by rw [es, e, fpR_app, fpR_app, fpR_cons, fpR_cons]; rfl
  have nd0 := S.nd
  rw [e, fpR_app, fpR_cons, List.nodup_append] at nd0
  obtain ⟨n1, n2, n3⟩ := nd0
  rw [List.nodup_append] at n2
  have H0ne : ∀ {b : Addr} {u : HO}, H0 b = some u → b ≠ a := fun q z => by rw [z, o1] at q; cases q
  have up : ∀ {b : Addr} {u : HO}, H b = some u → b ≠ a → les H a b = some u := fun q z => (les_ne z).trans q
  refine ⟨gh, S.g0.tr g, fun b u q => h b u (up (S.h0 b u q) (H0ne q)), fun b u q z => sep b u (up (S.h0 b u q) (H0ne q)) (S.sep b u q z), ?_, by rw [List.length_set, S.len], fun j p hj => ?_, fun b hb => ?_, by rw [e1]; exact S.nd⟩
  · rw [← S.nm, es, e, List.map_append, List.map_append]; rfl
  · by_cases ij : i = j
    · subst ij
      rw [List.getElem?_set_self hl] at hj
      have q := Option.some.inj hj
      subst q
      exact ⟨(S.ok i _ hi).1, ws', ha, r⟩
    · rw [List.getElem?_set_ne ij] at hj
      refine (S.ok j p hj).mono g fun b hb => ?_
      have q3 := (S.own b (mem_fpR hj hb)).2.2
      have ne : b ≠ a := fun z => by
        subst z
        rw [e] at hj
        by_cases hlt : j < l.length
        · rw [List.getElem?_append_left hlt] at hj
          exact n3 b (mem_fpR hj hb) b (List.mem_append_left _ (List.mem_singleton.mpr rfl)) rfl
        · rw [List.getElem?_append_right (by omega)] at hj
          obtain ⟨m, hm⟩ : ∃ m, j - l.length = m + 1 := ⟨j - l.length - 1, by omega⟩
          rw [hm, List.getElem?_cons_succ] at hj
          exact n2.2.2 b (List.mem_singleton.mpr rfl) b (mem_fpR hj hb) rfl
      cases q : H b with
      | none => exact absurd q q3
      | some u => exact h b u (up q ne)
  · rw [e1] at hb
    obtain ⟨q1, q2, q3⟩ := S.own b hb
    by_cases z : b = a
    · subst z
      exact ⟨q1, ga, by rw [ha]; simp⟩
    · cases q : H b with
      | none => exact absurd q q3
      | some u => exact ⟨q1, sep b u (up q z) q2, by rw [h b u (up q z)]; simp⟩
section
variable {C : Jc} {ρ : Rho} {k : Nat}
/-- f(e, ..), a def that hands back a new list, one's own then -/
theorem jf_call {x : Str} {j n : Nat} {S : Sd} {dl : List Pd} {e : Expr} {es : List Expr} {p pos : Pos} {Φ : List Pd → Rho → Prop} (c : Jok C k) (F : Fo (mdX C.X) x j n (fun K n => spD K n S) dl) (hj : j ≤ k) (h : JA C ρ (e :: es) fun ds ρ1 => (ds ++ dl).length = n ∧ S (ds ++ dl) (rF C ρ1 Φ))
    (hg : Gl C.X x := by unfold L2.Gl; kernel_rfl) (hdb : (x == ("__debug__" : Str)) = false := by kernel_rfl) (he : starEach (e :: es) C.X.env = (false, eval e C.X.env) :: starEach es C.X.env := by rfl) (hpl : (backTo pos (starEach es C.X.env)).any (·.1) = false := by rfl) : JF C ρ (.Call (.Name x p) (e :: es) [] pos) Φ :=
  ⟨fun G0 H0 G H σ St Q ok ex => call_run c F hj h St ex (fun ρ1 G1 H1 r hr S1 g1 G' H' g2 S2 hh => by
    cases r with
    | d z => exact hr.elim
    | fr ds => exact fun a vs h0 g0 ha r => ok ds ρ1 a vs G' H' hr S2 (g1.tr g2) (by
        cases q : H0 a with
        | none => rfl
        | some o => rw [S1.h0 a o q] at h0; cases h0) g0 (S1.notIn h0) ha r
    | xn z => exact fun dd hx => ex z ρ1 dd G' H' hr S2 (g1.tr g2) hx) hg hdb he hpl⟩
theorem callI_run {x y : Str} {a : Addr} {w0 : List Pd} {j n : Nat} {S : Si} {dl : List Pd} {es : List Expr} {p p2 pos : Pos} (c : Jok C k) (F : Fo (mdX C.X) x j n (fun K n => spI K n S) dl) (hj : j ≤ k) {G0 H0 G H : Hp} {σ : L2.St} {Q : VK} {Ψ : Rho → Rs → Prop} (l : Lk ρ y (.ow a w0))
    (h : JA C ρ es fun ds ρ1 => ∃ w, Lk ρ1 y (.ow a w) ∧ (ds ++ dl).length + 1 = n ∧ S w (ds ++ dl) fun r w' => ∃ ρ2, Up ρ1 y (.ow a w') ρ2 ∧ Ψ ρ2 r)
    (St : SttC C G0 H0 G H σ ρ) (ex : exE C G0 H0 G σ) (hnd : ∀ ρ1 : Rho, ρ1.map (·.1) = C.X.N → (ρ1.map (·.1)).Nodup) (k1 : ∀ ρ2 G1 H1 r, Ψ ρ2 r → Ex G G1 → ∀ G' H', Ex G1 G' → SttC C G0 H0 G' H' σ ρ2 → (∀ b, H1 b = none → b ∉ fpR ρ2 ∧ H0 b = none) → RsOk C.X.K H1 G' H' Q (WE C.W σ) r)
    (hg : Gl C.X x) (hdb : (x == ("__debug__" : Str)) = false) (he : starEach (.Name y p2 :: es) C.X.env = (false, eval (.Name y p2) C.X.env) :: starEach es C.X.env) (hpl : (backTo pos (starEach es C.X.env)).any (·.1) = false)
    (hv : visB C.X.env.scope y = true) (hd : (y == ("__debug__" : Str)) = false) (hc : (y == ("__classdict__" : Str)) = false) : tE C.X (.Call (.Name x p) (.Name y p2 :: es) [] pos) σ H Q := by
  obtain ⟨f, fd, ps, ds, dvs, h1, h2, h3, h4, h5, h6⟩ := F.ex
  refine t_pe (pe_cw c.tk (h3.mono hj) c.room hg h1 h2 h4 h5 (pa_cons pe_t pa_t he) hdb he hpl) (name_ow l St (fun vs0 q0 r0 => ?_) hv hd hc)
  refine h.run G0 H0 G H σ St _ (fun zs ρ1 vs G1 H1 ⟨w, lk, hl, hS⟩ S1 g1 r1 => ?_) ex
  obtain ⟨i, hi⟩ := lk.at
  obtain ⟨_, ws, qa, ra⟩ := S1.ok i _ hi
  have own := S1.own a (mem_fpR hi (List.mem_singleton.mpr rfl))
  refine ⟨G1, a, ws, w, vs ++ dvs, zs ++ dl, _, rfl, S1.gh, own.2.1, qa, ra, r1.app (h6 G1), hl, hS, fun r w' hr G' H' ws' g2 gh hh sep ga ha rw' => ?_⟩
  obtain ⟨ρ2, u, hr⟩ := hr
  obtain ⟨i2, t, hi2, rfl⟩ := u.at
  have ij : i = i2 := by
    refine L2.nodup_ix (N := ρ1.map (·.1)) (hnd ρ1 S1.nm) (x := y) ?_ ?_
    · rw [List.getElem?_map, hi]; rfl
    · rw [List.getElem?_map, hi2]; rfl
  subst ij
  have S2 := S1.chg hi g2 gh hh sep ga ha rw'
  refine k1 _ G1 H1 r hr g1 G' H' g2 S2 fun b hb => ⟨fun hm => ?_, ?_⟩
  · have e1 : fpR (ρ1.set i (y, .ow a w')) = fpR ρ1 := by
      obtain ⟨l, rr, e, el, es⟩ := cut_at hi
      rw [es, e, fpR_app, fpR_app, fpR_cons, fpR_cons]; rfl
    rw [e1] at hm
    exact S1.notIn hb hm
  · cases q : H0 b with
    | none => rfl
    | some o => rw [S1.h0 b o q] at hb; cases hb
/-- f(y, e, ..), y an own list that the def changes -/
theorem je_callI {x y : Str} {a : Addr} {w0 : List Pd} {j n : Nat} {S : Si} {dl : List Pd} {es : List Expr} {p p2 pos : Pos} {Φ : Pd → Rho → Prop} (c : Jok C k) (F : Fo (mdX C.X) x j n (fun K n => spI K n S) dl) (hj : j ≤ k) (l : Lk ρ y (.ow a w0))
    (h : JA C ρ es fun ds ρ1 => ∃ w, Lk ρ1 y (.ow a w) ∧ (ds ++ dl).length + 1 = n ∧ S w (ds ++ dl) fun r w' => ∃ ρ2, Up ρ1 y (.ow a w') ρ2 ∧ rE C ρ2 Φ r)
    (hg : Gl C.X x := by unfold L2.Gl; kernel_rfl) (hdb : (x == ("__debug__" : Str)) = false := by kernel_rfl) (he : starEach (.Name y p2 :: es) C.X.env = (false, eval (.Name y p2) C.X.env) :: starEach es C.X.env := by rfl) (hpl : (backTo pos (starEach es C.X.env)).any (·.1) = false := by rfl)
    (hv : visB C.X.env.scope y = true := by kernel_rfl) (hd : (y == ("__debug__" : Str)) = false := by kernel_rfl) (hc : (y == ("__classdict__" : Str)) = false := by kernel_rfl) : JE C ρ (.Call (.Name x p) (.Name y p2 :: es) [] pos) Φ :=
  ⟨fun G0 H0 G H σ St Q ok ex => callI_run c F hj l h St ex (fun ρ1 e => by rw [e]; exact c.nd) (fun ρ2 G1 H1 r hr g1 G' H' g2 S2 fr => by
    cases r with
    | d z => exact fun v rv => ok z ρ2 v G' H' hr S2 (g1.tr g2) rv
    | fr ds => exact fun b vs h0 g0 ha r => ok _ ρ2 _ _ _ hr (S2.frz ha (fr b h0).2 g0 (fr b h0).1) ((g1.tr g2).tr (Ex.nw g0)) (.lst upd_same (r.mono (Ex.nw g0)))
    | xn z => exact fun dd hx => ex z ρ2 dd G' H' hr S2 (g1.tr g2) hx) hg hdb he hpl hv hd hc⟩
theorem jf_callI {x y : Str} {a : Addr} {w0 : List Pd} {j n : Nat} {S : Si} {dl : List Pd} {es : List Expr} {p p2 pos : Pos} {Φ : List Pd → Rho → Prop} (c : Jok C k) (F : Fo (mdX C.X) x j n (fun K n => spI K n S) dl) (hj : j ≤ k) (l : Lk ρ y (.ow a w0))
    (h : JA C ρ es fun ds ρ1 => ∃ w, Lk ρ1 y (.ow a w) ∧ (ds ++ dl).length + 1 = n ∧ S w (ds ++ dl) fun r w' => ∃ ρ2, Up ρ1 y (.ow a w') ρ2 ∧ rF C ρ2 Φ r)
    (hg : Gl C.X x := by unfold L2.Gl; kernel_rfl) (hdb : (x == ("__debug__" : Str)) = false := by kernel_rfl) (he : starEach (.Name y p2 :: es) C.X.env = (false, eval (.Name y p2) C.X.env) :: starEach es C.X.env := by rfl) (hpl : (backTo pos (starEach es C.X.env)).any (·.1) = false := by rfl)
    (hv : visB C.X.env.scope y = true := by kernel_rfl) (hd : (y == ("__debug__" : Str)) = false := by kernel_rfl) (hc : (y == ("__classdict__" : Str)) = false := by kernel_rfl) : JF C ρ (.Call (.Name x p) (.Name y p2 :: es) [] pos) Φ :=
  ⟨fun G0 H0 G H σ St Q ok ex => callI_run c F hj l h St ex (fun ρ1 e => by rw [e]; exact c.nd) (fun ρ2 G1 H1 r hr g1 G' H' g2 S2 fr => by
    cases r with
    | d z => exact hr.elim
    | fr ds => exact fun b vs h0 g0 ha r => ok ds ρ2 b vs G' H' hr S2 (g1.tr g2) (fr b h0).2 g0 (fr b h0).1 ha r
    | xn z => exact fun dd hx => ex z ρ2 dd G' H' hr S2 (g1.tr g2) hx) hg hdb he hpl hv hd hc⟩

/-! ### raise -/
/-- what the module's name x stands for is an exception class without own __init__ -/
structure XcK (K : Fg) (mg : Str → Option Value) (x : Str) (A : Addr) : Prop where
  gl : mg x = some (.ref A)
  kp : PySem.W.keepIn K (.ref A) = true
  ex : PySem.W.excIn K A He.veBase "ValueError.__new__" = true
  sb : PySem.W.subIn K (.ref A) (.type "BaseException") = some true
  ty : PySem.W.typeIn K (.ref A) = some (.type "type")
/-- raise X('m') -/
theorem js_raise {x m : Str} {A : Addr} {j : Nat} {p p2 p3 pos : Pos} {Ψ : Po} (c : Jok C k) (X : XcK C.X.K C.X.mg x A) (h : C.Ξ ⟨A, []⟩ ρ) (hg : Gl C.X x := by unfold L2.Gl; kernel_rfl) (hd : (x == ("__debug__" : Str)) = false := by kernel_rfl) : JS C ρ (.Raise (some (.Call (.Name x p) [.Constant (.str m) j p2] [] p3)) none pos) Ψ :=
  ⟨fun G0 H0 G H σ S D ok ex => t_ps (ps_raise c.calm c.tk (pmk_own PySem.F.excBase_ValueError X.ex X.gl X.kp (raises_own X.sb X.ty) hg hd)) (ex ⟨A, []⟩ ρ σ none G H h S (Ex.rfl' G) (.inl ⟨rfl, rfl⟩))⟩
end
end KJ

set_option Elab.async false
set_option linter.all false
set_option maxRecDepth 100000
set_option maxHeartbeats 4100000
/-! J9: try .. except X as e; what happens in its suite. -/
namespace KJ
open PySem PySem.Spec L2 PyProof.Rows
/-- the name e of an except suite: the exception at a -/
def XnG (K : Fg) (G : Hp) (x : Xn) (dd : Option Addr) : Prop := (x.fs = [] ∧ dd = none) ∨ ∃ d vs, x.fs ≠ [] ∧ dd = some d ∧ G d = some (.xd vs) ∧ RpF K G vs x.fs
theorem RpF.mono {K : Fg} {G G' : Hp} (h : Ex G G') : ∀ {vs : List (Str × V)} {ds : List (Str × Pd)}, RpF K G vs ds → RpF K G' vs ds
  | _, _, .nil => .nil
  | _, _, .cons r q => .cons (r.mono h) (RpF.mono h q)
theorem XnG.mono {K : Fg} {G G' : Hp} {x : Xn} {dd : Option Addr} (h : Ex G G') : XnG K G x dd → XnG K G' x dd
  | .inl q => .inl q
  | .inr ⟨d, vs, n, e, g, r⟩ => .inr ⟨d, vs, n, e, h _ _ g, r.mono h⟩
def xbox (K : Fg) (a : Addr) (x : Xn) (dd : Option Addr) : Box where
  fp := []
  φ := fun G _ v => v = .ref a ∧ XnG K G x dd
  st := fun _ _ _ _ _ g _ h => ⟨h.1, h.2.mono g⟩
/-- the context of a suite -/
abbrev sui (C : Jc) (a : Addr) (oe : Obj) (pn : List (Addr × Obj)) : Jc := ⟨C.X.suite a ((a, oe) :: pn), fun _ _ _ _ => False, fun _ _ => False⟩
/-- the posts of a suite -/
def poS (n : Str) (Ψ : Po) : Po := ⟨fun ρ => ∃ ρ', Up ρ n .no ρ' ∧ Ψ.nx ρ', Ψ.rt, fun ρ => ∃ ρ', Up ρ n .no ρ' ∧ Ψ.bk ρ', fun ρ => ∃ ρ', Up ρ n .no ρ' ∧ Ψ.ct ρ'⟩
/-- what the except clause makes of an exception -/
def xCl (C : Jc) (n : Str) (cv : Value) (st : List Stmt) (Ψ : Po) (x : Xn) (ρ : Rho) : Prop := ∃ b, PySem.W.exmOne C.X.K (.ref x.cls) cv = some b ∧
  (b = true → ∀ a oe pn dd, Zc (.ref x.cls) dd oe → (∃ vs, oe.data = .fields vs) → (x.fs = [] → dd = none) → ∃ ρ', Up ρ n (.ob (xbox C.X.K a x dd)) ρ' ∧ JB (sui C a oe pn) ρ' st (poS n Ψ)) ∧ (b = false → C.Ξ x ρ)
section
variable {C : Jc} {ρ : Rho} {k : Nat}
theorem js_try {x n : Str} {cv : Value} {body suite : List Stmt} {b₀ : Stmt} {np pos pos' : Pos} {Ψ : Po} (c : Jok C k) (i : Nat) (hc : Names C.X x cv)
    (hb : ∀ (W : WX) (pn : List (Addr × Obj)) (xe : Value → Shared → Prop), Jok ⟨C.X.tr pn xe, W, xCl C n cv (b₀ :: suite) Ψ⟩ k → JB ⟨C.X.tr pn xe, W, xCl C n cv (b₀ :: suite) Ψ⟩ ρ body Ψ)
    (hi : C.X.N[i]? = some n := by rfl) (hln : C.X.env.kindOf n = some .local := by kernel_rfl) (hs : C.X.stack = C.X.env :: C.X.outer := by rfl) (hf : C.X.env.frame = some C.X.env.locals := by rfl) :
    JS C ρ (.Try body [.ExceptHandler (some (.Name x np)) (some n) (b₀ :: suite) pos'] [] [] pos) Ψ :=
  ⟨fun G0 H0 G H σ S D ok ex => t_ps (ps_try_as (i := i) (tb := fun W => fun D σ H => ∀ (pn : List (Addr × Obj)) (xe : Value → Shared → Prop), Takes (C.X.tr pn xe) W → PassesOwn (model C.X.prog C.X.w) C.X.A C.X.env xe → tSs (C.X.tr pn xe) body D σ H)
      (ts := fun a cls d => fun D σ H => ∀ (oe : Obj) (pn : List (Addr × Obj)), Zc cls d oe → (∃ vs, oe.data = .fields vs) → tSs (C.X.suite a ((a, oe) :: pn)) (b₀ :: suite) D σ H) hs hf c.nd hi hln hc c.tk
      (fun W pn xe tk po => ⟨fun pins s σ H D I h => h pn xe tk po pins s I⟩) (fun a oe cls d pn hz hd => ⟨fun pins s σ H D I h => h oe pn hz hd pins s I⟩)) (fun pn xe tk po => by
    refine (hb _ pn xe ⟨tk, c.calm, c.nd, c.room, po, c.nb⟩).run G0 H0 G H σ S D ⟨ok.nx, ok.rt, ok.bk, ok.ct⟩ fun x ρ' σ' dd G' H' hx S' g' xo => ?_
    obtain ⟨b, hb1, hyes, hno⟩ := hx
    refine ⟨b, hb1, fun e a na oe pn2 hz hd => ?_, fun e => ex x ρ' σ' dd G' H' (hno e) S' g' xo⟩
    have hdd : x.fs = [] → dd = none := fun z => by
      rcases xo with ⟨_, q⟩ | ⟨d, vs, q, _⟩
      · exact q
      · exact absurd z q
    obtain ⟨ρ2, u, hJ⟩ := hyes e a oe pn2 dd hz hd hdd
    obtain ⟨j, t, hj, rfl⟩ := u.at
    have nmj : C.X.N[j]? = some n := (S'.slot hj).1
    have ij : j = i := L2.nodup_ix c.nd nmj hi
    subst ij
    have S2 : SttC (sui C a oe pn2) G0 H0 G' H' (σ'.set j (some (.ref a))) (ρ'.set j (n, .ob (xbox C.X.K a x dd))) := S'.put hj ⟨_, rfl, rfl, xo⟩ (fun b hb => by cases hb) List.nodup_nil (fun b hb => by cases hb)
    have away : ∀ {ρ3 ρ4 : Rho} {σ3 : L2.St} {G3 H3 : Hp}, SttC (sui C a oe pn2) G0 H0 G3 H3 σ3 ρ3 → Up ρ3 n .no ρ4 → SttC C G0 H0 G3 H3 (σ3.set j none) ρ4 := fun {ρ3 ρ4 σ3 G3 H3} S3 u => by
      obtain ⟨m, t, hm, rfl⟩ := u.at
      have mj : m = j := L2.nodup_ix c.nd (S3.slot hm).1 hi
      subst mj
      exact S3.put hm trivial (fun b hb => by cases hb) List.nodup_nil (fun b hb => by cases hb)
    exact hJ.run G0 H0 G' H' _ S2 _ ⟨fun ρ3 σ3 G3 H3 ⟨ρ4, u4, h4⟩ S3 g3 => ok.nx _ _ _ _ h4 (away S3 u4) (g'.tr g3), fun r ρ3 σ3 v G3 H3 h4 S3 g3 rv => ok.rt r ρ3 _ v _ _ h4 S3 (g'.tr g3) rv,
      fun ρ3 σ3 G3 H3 ⟨ρ4, u4, h4⟩ S3 g3 => ok.bk _ _ _ _ h4 (away S3 u4) (g'.tr g3), fun ρ3 σ3 G3 H3 ⟨ρ4, u4, h4⟩ S3 g3 => ok.ct _ _ _ _ h4 (away S3 u4) (g'.tr g3)⟩ (fun _ _ _ _ _ _ z => z.elim))⟩
/-- a name stored, in any context -/
theorem jg_nameN {x : Str} {pos : Pos} {z : Pd} {ρ' : Rho} {Φ : Rho → Prop} (nd : C.X.N.Nodup) (u : Up ρ x (.sh z) ρ') (h : Φ ρ') (hl : locB C.X.env.scope x = true := by kernel_rfl) (hf : C.X.fn x = true ∨ C.X.env.scope.names.lookup x = some .local := by first | exact .inl rfl | exact .inr (by kernel_rfl)) : JG C ρ (.Name x pos) z Φ :=
  ⟨fun G0 H0 G H σ v S r Q q => by
    obtain ⟨i, t, hi, rfl⟩ := u.at
    exact t_pg (pg_name nd (S.slot hi).1 (loc_of hl) hf) (q _ _ _ _ h (S.sh hi r) (Ex.rfl' G))⟩
end

/-! ### isinstance(e, X), e the exception that is handled -/
section
variable {Y : Cx} {a D : Addr} {oe : Obj} {pn : List (Addr × Obj)} {W : WX} {Ξ : Xn → Rho → Prop} {ρ : Rho}
theorem isE_any {n : Str} {B : Box} {cv : Value} {v : V} {b : Bool} {p p2 p3 pos : Pos} {y : Str} {Φ : Pd → Rho → Prop} (E : ExcC Y.K D) (hz : Zc (.ref D) none oe) (hf : ∃ vs, oe.data = .fields vs) (l : Lk ρ n (.ob B)) (hB : ∀ G H v, B.φ G H v → v = .ref a) (hm : Y.mg "isinstance" = none) (hk : PySem.W.kitOne Y.K (.ref D) cv = some b) (hv : ∀ u, RelV v u → u = cv)
    (ty : PE (Y.suite a ((a, oe) :: pn)) (.Name y p3) (tC v)) (h : Φ (.bool b) ρ) (hvis : visB Y.env.scope n = true) (hg : Gl Y "isinstance") (hd : (n == ("__debug__" : Str)) = false) (hcd : (n == ("__classdict__" : Str)) = false) :
    JE ⟨Y.suite a ((a, oe) :: pn), W, Ξ⟩ ρ (.Call (.Name "isinstance" p) [.Name n p2, .Name y p3] [] pos) Φ :=
  ⟨fun G0 H0 G H σ S Q ok ex => t_pe (pe_callB (X := Y.suite a ((a, oe) :: pn)) (call_isE E hz hf) hg hm PyProof.Rows.boot_isinstance (pa_cons pe_t (pa_cons ty pa_nil))) (name_any (C := ⟨Y.suite a ((a, oe) :: pn), W, Ξ⟩) l hvis S (v := .ref a) (fun o ho => by
      obtain ⟨v, e, q⟩ := ho
      rw [e, hB _ _ _ q]) ⟨v, cv, b, rfl, hv, hk, ok _ _ _ _ _ h S (Ex.rfl' G) (.bl b)⟩ hd hcd)⟩
/-- .. X an own class -/
theorem je_isX {K' : Fg} {n y : Str} {A : Addr} {x : Xn} {dd : Option Addr} {b : Bool} {p p2 p3 pos : Pos} {Φ : Pd → Rho → Prop} (E : ExcC Y.K D) (hz : Zc (.ref D) none oe) (hf : ∃ vs, oe.data = .fields vs) (hm : Y.mg "isinstance" = none) (hA : Y.mg y = some (.ref A)) (hk : PySem.W.kitOne Y.K (.ref D) (.ref A) = some b) (l : Lk ρ n (.ob (xbox K' a x dd))) (h : Φ (.bool b) ρ)
    (hvis : visB Y.env.scope n = true := by kernel_rfl) (hg : Gl Y "isinstance" := by unfold L2.Gl; kernel_rfl) (hy : Gl Y y := by unfold L2.Gl; kernel_rfl) (hd : (n == ("__debug__" : Str)) = false := by kernel_rfl) (hcd : (n == ("__classdict__" : Str)) = false := by kernel_rfl) (hyd : (y == ("__debug__" : Str)) = false := by kernel_rfl) :
    JE ⟨Y.suite a ((a, oe) :: pn), W, Ξ⟩ ρ (.Call (.Name "isinstance" p) [.Name n p2, .Name y p3] [] pos) Φ :=
  isE_any (v := .ref A) E hz hf l (fun _ _ _ q => q.1) hm hk (fun u r => r) (pe_glob hy hA rfl hyd) h hvis hg hd hcd
/-- .. X a built-in class -/
theorem je_isXB {K' : Fg} {n y : Str} {T : String} {x : Xn} {dd : Option Addr} {b : Bool} {p p2 p3 pos : Pos} {Φ : Pd → Rho → Prop} (E : ExcC Y.K D) (hz : Zc (.ref D) none oe) (hf : ∃ vs, oe.data = .fields vs) (hm : Y.mg "isinstance" = none) (hA : Y.mg y = none) (hb : bootBuiltins y = some (.type T)) (hk : PySem.W.kitOne Y.K (.ref D) (.type T) = some b) (l : Lk ρ n (.ob (xbox K' a x dd))) (h : Φ (.bool b) ρ)
    (hvis : visB Y.env.scope n = true := by kernel_rfl) (hg : Gl Y "isinstance" := by unfold L2.Gl; kernel_rfl) (hy : Gl Y y := by unfold L2.Gl; kernel_rfl) (hd : (n == ("__debug__" : Str)) = false := by kernel_rfl) (hcd : (n == ("__classdict__" : Str)) = false := by kernel_rfl) (hyd : (y == ("__debug__" : Str)) = false := by kernel_rfl) (hyn : y ≠ "__name__" := by decide +kernel) :
    JE ⟨Y.suite a ((a, oe) :: pn), W, Ξ⟩ ρ (.Call (.Name "isinstance" p) [.Name n p2, .Name y p3] [] pos) Φ :=
  isE_any (v := .ty T) E hz hf l (fun _ _ _ q => q.1) hm hk (fun u r => r) (pe_bltn (v := .ty T) hy hA hb rfl hyn hyd) h hvis hg hd hcd
end

/-! ### a def called within a suite with the exception alone, which hands back a list of Bools -/
/-- f(e) for the handled e of a class D -/
structure FoH (M : Md) (x : Str) (k : Nat) (D : Addr) (bs : List Bool) : Prop where
  ex : ∃ f fd p, M.mg x = some (.ref f) ∧ PySem.W.keepIn M.K (.ref f) = true ∧ Binds M.K fd [p] [] ∧ ∀ (A : Around) (outer : List Env) (s : Shared) (H : Hp) (a : Addr) (oe : Obj) (Q : VK) (E : XK), L2H.RoomH k A → A.handled = some (.ref a) → Zc (.ref D) none oe → (∃ vs, oe.data = .fields vs) → s.heap.get? a = some oe → H a = none → a ∉ frs outer →
    Env0 M.P M.w M.K M.mg M.base A outer s H → BindsTo s fd ⟨[.ref a], []⟩ [(p, .ref a)] → (∀ H' b, Ex H H' → H b = none → H' b = some (.lst (bs.map V.bl)) → Q (.ref b) H') → codeAny (model M.P M.w) A (.call (.ref f) ⟨[.ref a], []⟩) (CR (L2.CX M.P M.w) outer M.P M.w H s Q E) s
theorem foH_ok {M : Md} {x y qual p : Str} {params : Arguments} {body : List Stmt} {sc : Scope} {dvs : List V} {f : Addr} {fd : FuncData} {N : List Str} {k : Nat} {D : Addr} {bs : List Bool} (F : FunD M.K y qual params body sc dvs [] f fd) (hx : M.mg x = some (.ref f)) (Sc : FnScope (p :: N) [p] sc) (B : Binds M.K fd [p] [])
    (hb : ∀ (e : En) (a : Addr) (oe : Obj), Zc (.ref D) none oe → (∃ vs, oe.data = .fields vs) → JB ⟨(jc M (p :: N) qual sc e fun _ _ => False).X.suite a [(a, oe)], fun _ _ _ _ => False, fun _ _ => False⟩ ((p, .ob (xbox M.K a ⟨D, []⟩ none)) :: st0 N []) body ⟨fun _ => False, fun r _ => r = .d (.list (bs.map .bool)), fun _ => False, fun _ => False⟩) : FoH M x (k + 1) D bs := by
  obtain ⟨oc, od, dV, kV, doc, pm, an, cdv, ct, osl, rfl, lk, hcd, _, _⟩ := F.ex --k
  refine ⟨f, _, p, hx, F.kp, B, fun A outer s H a oe Q E hr hA hz hf hg na nf e0 hbt q => ?_⟩
  have KX : M.K.In s.heap := e0.mod.kin.keeps fun b o e => (e0.bs b o e).1
  have lim : s.heap.NoLimit := e0.mod.nolimit.keeps fun b o e => (e0.bs b o e).1 --k
  have e1 : Env0 M.P M.w M.K M.mg M.base { A with handled := none } outer s H := ⟨e0.frames, e0.mod, e0.bs, e0.bsz, e0.funs, e0.frf, e0.hok, e0.bare⟩
  have hkind : ∀ z ∈ [p].zip [Value.ref a], sc.names.lookup z.1 = some .local ∨ (sc.names.lookup z.1 = some .cell ∧ ((cellsFrom (s.heap.objs.size + 1) sc.names []).lookup z.1).isSome = true) := fun ⟨n, v⟩ hz => (Sc.par n (List.of_mem_zip hz).1).imp id fun q => ⟨q, PySem.W.cellsFrom_some _ _ _ (.inl q)⟩
  refine codeAny_call_function hr.depth (KX _ _ lk) rfl Sc.co Sc.gen rfl (PySem.W.codeRec_of KX hcd) (hbt _ _ _ _ ?_)
  refine wpAny_newFunctionEnv_cells (binds := [p].zip [Value.ref a]) Sc.kind hkind fun env he s1 z => ?_
  subst he
  refine ⟨lim.keeps z.toInCall.keep, codeAny_func ?_⟩
  have I0 : Inv (cxOf (L2.CX M.P M.w) M.P M.w M.K M.mg M.base (p :: N) qual sc f cdv { A with handled := none } outer s H E) [] (L2.start (p :: N) [.ref a]) H s1 := inv_start Sc rfl e1 rfl (.cons rfl .nil) z
  have keep : ∀ b o, s.heap.get? b = some o → s1.heap.get? b = some o := z.toInCall.keep
  obtain ⟨vs, hv⟩ := hf
  have I := I0.suite (keep a oe hg) hv na (Nat.ne_of_lt (Heap.lt_size hg)) nf
  have hAA : A.deeper (envOfC qual sc s.heap.objs.size f cdv) = (({ A with handled := none } : Around).deeper (envOfC qual sc s.heap.objs.size f cdv)).mark (some (.ref a)) := by
    obtain ⟨h1, h2, h3, h4, h5⟩ := A
    have h1 : h1 = some (.ref a) := hA
    subst h1
    rfl
  show wpAny _ (A.deeper (envOfC qual sc s.heap.objs.size f cdv)) _ _ _ _
  rw [hAA]
  have S0 : SttC ⟨(jc M (p :: N) qual sc ⟨f, cdv, { A with handled := none }, outer, s, H, E⟩ fun _ _ => False).X.suite a [(a, oe)], fun _ _ _ _ => False, fun _ _ => False⟩ (fun _ => none) H (fun _ => none) H (L2.start (p :: N) [.ref a]) ((p, .ob (xbox M.K a ⟨D, []⟩ none)) :: st0 N []) := by
    refine ⟨(fun _ _ z => nomatch z), Ex.rfl' _, Ex.rfl' H, fun _ _ _ z => z, congrArg _ (st0_nm N []), ?_, fun i q e => ?_, fun b hb => ?_, ?_⟩
    · rw [start_len (by simp), List.length_cons, List.length_cons, st0_len]
    · rw [start_cons]
      cases i with
      | zero =>
        have e : (p, Sl.ob (xbox M.K a ⟨D, []⟩ none)) = q := by simpa using e
        subst e
        exact ⟨_, rfl, rfl, .inl ⟨rfl, rfl⟩⟩
      | succ i => exact st0_ok N [] [] .nil (Nat.zero_le _) i q (by simpa using e)
    · rw [fpR_cons, st0_fp] at hb
      cases hb
    · rw [fpR_cons, st0_fp]
      exact List.nodup_nil
  have run := (hb ⟨f, cdv, { A with handled := none }, outer, s, H, E⟩ a oe hz ⟨vs, hv⟩).run (fun _ => none) H (fun _ => none) H _ S0 { nx := fun _ _ => False, rt := fun v H' => Q v H', bk := fun _ _ => False, ct := fun _ _ => False } ⟨fun _ _ _ _ z => False.elim z, fun r ρ' σ' v G' H' hr' S' g' rv => by
      subst hr'
      cases rv with
      | @lst b us _ q1 q2 =>
        have eb := q2.bools
        subst eb
        have hb0 : H b = none := by
          cases hb0 : H b with
          | none => rfl
          | some o =>
            have z := S'.sep b o hb0 rfl
            rw [z] at q1
            cases q1
        exact q H' b S'.h0 hb0 (S'.gh _ _ q1), fun _ _ _ _ z => False.elim z, fun _ _ _ _ z => False.elim z⟩ (fun _ _ _ _ _ _ z => False.elim z)
  refine wpAny_mono (run [] s1 I) (fun fl s' hs => ?_) fun e s' hs => False.elim hs
  cases fl with
  | ret u =>
    obtain ⟨v, σ', H', I', rv, q'⟩ := hs
    exact ⟨v, H', I'.os, I'.bare, I'.base, I'.hok, rv, q'⟩
  | next => exact (by obtain ⟨_, _, _, z⟩ := hs; exact False.elim z)
  | brk => exact (by obtain ⟨_, _, _, z⟩ := hs; exact False.elim z)
  | cont => exact (by obtain ⟨_, _, _, z⟩ := hs; exact False.elim z)
section
variable {C : Jc} {ρ : Rho} {k : Nat} {a : Addr} {oe : Obj} {pn : List (Addr × Obj)}
/-- f(e) in a suite -/
theorem je_hot {K' : Fg} {x n : Str} {j : Nat} {D : Addr} {bs : List Bool} {fs : List (Str × Pd)} {dd : Option Addr} {p p2 pos : Pos} {Φ : Pd → Rho → Prop} (c : Jok C k) (F : FoH (mdX C.X) x j D bs) (hj : j ≤ k) (hz : Zc (.ref D) none oe) (hf : ∃ vs, oe.data = .fields vs) (l : Lk ρ n (.ob (xbox K' a ⟨D, fs⟩ dd))) (h : Φ (.list (bs.map .bool)) ρ)
    (hg : Gl C.X x := by unfold L2.Gl; kernel_rfl) (hdb : (x == ("__debug__" : Str)) = false := by kernel_rfl) (hvis : visB C.X.env.scope n = true := by kernel_rfl) (hd : (n == ("__debug__" : Str)) = false := by kernel_rfl) (hcd : (n == ("__classdict__" : Str)) = false := by kernel_rfl) : JE (sui C a oe pn) ρ (.Call (.Name x p) [.Name n p2] [] pos) Φ :=
  ⟨fun G0 H0 G H σ S Q ok ex pins s I => by
    obtain ⟨f, fd, y, h1, h2, h3, h4⟩ := F.ex
    refine wpAny_Call_Name_kw (ld_glob (X := C.X.suite a ((a, oe) :: pn)) I hg h1 ?_ hdb)
    have ha : PA (C.X.suite a ((a, oe) :: pn)) [.Name n p2] (tA (C.X.suite a ((a, oe) :: pn)) [.Name n p2]) := pa_t
    have q0 : tA (C.X.suite a ((a, oe) :: pn)) [.Name n p2] σ H (fun vs H1 => vs = [.ref a] ∧ H1 = H) := t_pa (pa_cons pe_t pa_nil) (name_any (C := sui C a oe pn) l hvis S (v := .ref a) (fun o ho => by
      obtain ⟨v, e, q, _⟩ := ho
      rw [e, q]) ⟨rfl, rfl⟩ hd hcd)
    refine PySem.W.callWith_K (h₀ := C.X.base) I.ok.mod.kin h2 (thn (ha.run pos pins s σ H _ I q0) fun us s1 ⟨vs, H1, I1, r, ev, eH⟩ => And.intro I1.kIn ?_) rfl rfl
    subst ev eH
    cases r with
    | cons r rr =>
      cases rr
      cases r
      have P1 := I1.pin (a, oe) (List.mem_append_left _ List.mem_cons_self)
      have nf : a ∉ frs (C.X.suite a ((a, oe) :: pn)).stack := fun hm => (List.mem_cons.mp (I1.stkSub a hm)).elim P1.2.2.1 P1.2.2.2.1
      refine wpAny_call (codeAny_mono (h4 _ _ s1 H1 a oe Q (fun _ _ _ => False) ⟨by have := c.room.dp; have e : (sui C a oe pn).X.A.depth = C.X.A.depth := rfl; rw [e]; omega, by have := c.room.un; have e : (sui C a oe pn).X.A.units = C.X.A.units := rfl; rw [e]; omega⟩ rfl hz hf P1.1 P1.2.1 nf I1.env0 (h3 s1 [.ref a] I1.kIn rfl) fun H' b hH hb hb2 => ?_) fun r s' hq => ?_)
      · have gb : G b = none := S.gh.fr hb
        have S' := S.go (G' := upd G b (.lst (bs.map V.bl))) (H' := H') (Ex.nw gb) hH (fun c u e => by
          by_cases z : c = b
          · subst z; rw [upd_same] at e; rw [hb2, e]
          · rw [upd_ne z] at e; exact hH c u (S.gh c u e)) (fun c u e z => by rw [upd_ne (fun w => by rw [w, hb] at e; cases e)]; exact z)
        refine ok _ ρ _ _ H' h S' (Ex.nw gb) (.lst upd_same ?_)
        have : ∀ {K : Fg} {G : Hp} (l : List Bool), RpA K G (l.map V.bl) (l.map PyData.bool) := fun {K G} l => by
          induction l with
          | nil => exact .nil
          | cons b l ih => exact .cons (.bl b) ih
        exact this bs
      · cases r with
        | error u =>
          obtain ⟨_, _, _, _, _, _, _, _, _, _, _, _, z⟩ := hq
          exact z.elim
        | ok fl =>
          cases fl with
          | ret u => exact I1.after hq
          | next => exact hq.elim
          | brk => exact hq.elim
          | cont => exact hq.elim⟩
end
end KJ

set_option Elab.async false
set_option linter.all false
set_option maxRecDepth 100000
set_option maxHeartbeats 4100000
/-! J10: own lists changed: append, insert, pop, xs[i] = v, xs[a:b] = ys; xs[::-1]; join. -/
namespace KJ
open PySem PySem.Spec L2 PyProof.Rows
/-- names' places in a list -/
inductive Ixn : List Str → Str → Nat → Prop
  | hd {x : Str} {N : List Str} : Ixn (x :: N) x 0
  | tl {x y : Str} {N : List Str} {j : Nat} : Ixn N x j → Ixn (y :: N) x (j + 1)
theorem Ixn.at {N : List Str} {x : Str} {j : Nat} (h : Ixn N x j) : N[j]? = some x := by
  induction h with
  | hd => rfl
  | tl _ ih => rw [List.getElem?_cons_succ]; exact ih
section
variable {C : Jc} {ρ : Rho} {k : Nat}
/-- an own list in a state: what it holds, how it is changed -/
theorem own_at {G0 H0 G H : Hp} {σ : L2.St} {x : Str} {a : Addr} {ds : List Pd} (nd : C.X.N.Nodup) (l : Lk ρ x (.ow a ds)) (S : SttC C G0 H0 G H σ ρ) :
    ∃ vs, H a = some (.lst vs) ∧ RpA C.X.K G vs ds ∧ ∀ (vs' : List V) (ds' : List Pd) (ρ' : Rho), RpA C.X.K G vs' ds' → Up ρ x (.ow a ds') ρ' → SttC C G0 H0 G (upd H a (.lst vs')) σ ρ' := by
  obtain ⟨i, hi⟩ := l.at
  obtain ⟨e, vs, q, r⟩ := S.ok i _ hi
  refine ⟨vs, q, r, fun vs' ds' ρ' r' u => ?_⟩
  obtain ⟨j, t, hj, rfl⟩ := u.at
  have ij : i = j := L2.nodup_ix nd (S.slot hi).1 (S.slot hj).1
  subst ij
  exact S.mut hi rfl rfl ⟨e, vs', upd_same, r'⟩
theorem RpA.eraseIdx {K : Fg} {H : Hp} : ∀ {v : List V} {d : List Pd} (n : Nat), RpA K H v d → RpA K H (v.eraseIdx n) (d.eraseIdx n)
  | _, _, _, .nil => .nil
  | _, _, 0, .cons _ r => r
  | _, _, n + 1, .cons q r => .cons q (RpA.eraseIdx n r)
/-- x.append(e) -/
theorem js_append {x : Str} {a : Addr} {w0 : List Pd} {e : Expr} {p ap pos pos2 : Pos} {Ψ : Po} (c : Jok C k) (l : Lk ρ x (.ow a w0)) (h : JE C ρ e fun d ρ1 => ∃ ds, Lk ρ1 x (.ow a ds) ∧ ds.length < sizeLine ∧ ∃ ρ2, Up ρ1 x (.ow a (ds ++ [d])) ρ2 ∧ Ψ.nx ρ2)
    (hs : swapsWith (.Call (.Attribute (.Name x p) "append" ap) [e] [] pos) none pos2.line C.X.env = pure false := by rfl) (hb : attributeBase (.Name x p) "append" C.X.env (eval (.Name x p) C.X.env) = eval (.Name x p) C.X.env := by rfl)
    (hw : ((backTo pos (starEach [e] C.X.env)).all (fun x => !x.1) && (backToKw pos (keywordEach [] C.X.env)).all (fun x => x.1.isSome) && decide ([e].length + ([] : List Keyword).length + (if ([] : List Keyword).isEmpty then 0 else 1) < 30)) = true := by rfl)
    (hl : (ap.endLine == pos.line) = true := by rfl) (hst : starEach [e] C.X.env = (false, eval e C.X.env) :: starEach [] C.X.env := by rfl) (hp : (backTo pos (starEach [] C.X.env)).any (·.1) = false := by rfl)
    (hv : visB C.X.env.scope x = true := by kernel_rfl) (hd : (x == ("__debug__" : Str)) = false := by kernel_rfl) (hc : (x == ("__classdict__" : Str)) = false := by kernel_rfl) : JS C ρ (.Expr (.Call (.Attribute (.Name x p) "append" ap) [e] [] pos) pos2) Ψ :=
  ⟨fun G0 H0 G H σ S D ok ex => t_ps (ps_expr (pe_bm PySem.F.plainAttrs_list PySem.F.slot_list_append PySem.F.type_list_append mt_append pe_t (pa_cons pe_t pa_nil hst) hb hw hl hst hp) hs) (name_ow l S (fun vs q r => ⟨.inl ⟨rfl, _, SqL.of q⟩, h.run G0 H0 G H σ S _ (fun d ρ1 v G1 H1 ⟨ds, lk, hz, ρ2, u, hn⟩ S1 g1 r1 => by
    obtain ⟨vs1, q1, rr, up⟩ := own_at c.nd lk S1
    exact ⟨a, vs1, v, rfl, rfl, q1, by rw [rr.len]; exact hz, ok.nx _ _ _ _ hn (up _ _ _ (rr.app (.one r1)) u) g1⟩) (ex.at σ)⟩) hv hd hc)⟩
/-- x.insert(i, e) -/
theorem js_insert {x : Str} {a : Addr} {w0 : List Pd} {e f : Expr} {p ap pos pos2 : Pos} {Ψ : Po} (c : Jok C k) (l : Lk ρ x (.ow a w0)) (h : JE C ρ e fun d0 ρ0 => JE C ρ0 f fun d ρ1 => ∃ ds i, d0 = .int i ∧ (0 ≤ i ∧ i < 2 ^ 63) ∧ Lk ρ1 x (.ow a ds) ∧ ds.length < sizeLine ∧ ∃ ρ2, Up ρ1 x (.ow a (ds.take i.toNat ++ [d] ++ ds.drop i.toNat)) ρ2 ∧ Ψ.nx ρ2)
    (hs : swapsWith (.Call (.Attribute (.Name x p) "insert" ap) [e, f] [] pos) none pos2.line C.X.env = pure false := by rfl) (hb : attributeBase (.Name x p) "insert" C.X.env (eval (.Name x p) C.X.env) = eval (.Name x p) C.X.env := by rfl)
    (hw : ((backTo pos (starEach [e, f] C.X.env)).all (fun x => !x.1) && (backToKw pos (keywordEach [] C.X.env)).all (fun x => x.1.isSome) && decide ([e, f].length + ([] : List Keyword).length + (if ([] : List Keyword).isEmpty then 0 else 1) < 30)) = true := by rfl)
    (hl : (ap.endLine == pos.line) = true := by rfl) (hst : starEach [e, f] C.X.env = (false, eval e C.X.env) :: starEach [f] C.X.env := by rfl) (hst2 : starEach [f] C.X.env = (false, eval f C.X.env) :: starEach [] C.X.env := by rfl) (hp : (backTo pos (starEach [f] C.X.env)).any (·.1) = false := by rfl)
    (hv : visB C.X.env.scope x = true := by kernel_rfl) (hd : (x == ("__debug__" : Str)) = false := by kernel_rfl) (hc : (x == ("__classdict__" : Str)) = false := by kernel_rfl) : JS C ρ (.Expr (.Call (.Attribute (.Name x p) "insert" ap) [e, f] [] pos) pos2) Ψ :=
  ⟨fun G0 H0 G H σ S D ok ex => t_ps (ps_expr (pe_bm PySem.F.plainAttrs_list PySem.F.slot_list_insert PySem.F.type_list_insert mt_insert pe_t (pa_cons pe_t (pa_cons pe_t pa_nil hst2) hst) hb hw hl hst hp) hs) (name_ow l S (fun vs q r => ⟨.inl ⟨rfl, _, SqL.of q⟩, h.run G0 H0 G H σ S _ (fun d0 ρ0 v0 G1 H1 h1 S1 g1 r1 =>
    h1.run G0 H0 G1 H1 σ S1 _ (fun d ρ1 v G2 H2 ⟨ds, i, e0, hi, lk, hz, ρ2, u, hn⟩ S2 g2 r2 => by
    subst e0
    have r1' := r1.mono g2
    cases r1'
    obtain ⟨vs1, q1, rr, up⟩ := own_at c.nd lk S2
    exact ⟨a, vs1, i, v, rfl, rfl, q1, by rw [rr.len]; exact hz, hi.1, hi.2, ok.nx _ _ _ _ hn (up _ _ _ (((rr.take _).app (.one r2)).app (rr.drop _)) u) (g1.tr g2)⟩) ((ex.at σ).mono g1)) (ex.at σ)⟩) hv hd hc)⟩
/-- x.pop(e) -/
theorem je_popAt {x : Str} {a : Addr} {w0 : List Pd} {e : Expr} {p ap pos : Pos} {Φ : Pd → Rho → Prop} (c : Jok C k) (l : Lk ρ x (.ow a w0)) (h : JE C ρ e fun d ρ1 => ∃ ds i j z, d = .int i ∧ (-(2 ^ 63) ≤ i ∧ i < 2 ^ 63) ∧ Lk ρ1 x (.ow a ds) ∧ seqIndex? i ds.length = some j ∧ ds[j]? = some z ∧ ∃ ρ2, Up ρ1 x (.ow a (ds.eraseIdx j)) ρ2 ∧ Φ z ρ2)
    (hb : attributeBase (.Name x p) "pop" C.X.env (eval (.Name x p) C.X.env) = eval (.Name x p) C.X.env := by rfl)
    (hw : ((backTo pos (starEach [e] C.X.env)).all (fun x => !x.1) && (backToKw pos (keywordEach [] C.X.env)).all (fun x => x.1.isSome) && decide ([e].length + ([] : List Keyword).length + (if ([] : List Keyword).isEmpty then 0 else 1) < 30)) = true := by rfl)
    (hl : (ap.endLine == pos.line) = true := by rfl) (hst : starEach [e] C.X.env = (false, eval e C.X.env) :: starEach [] C.X.env := by rfl) (hp : (backTo pos (starEach [] C.X.env)).any (·.1) = false := by rfl)
    (hv : visB C.X.env.scope x = true := by kernel_rfl) (hd : (x == ("__debug__" : Str)) = false := by kernel_rfl) (hc : (x == ("__classdict__" : Str)) = false := by kernel_rfl) : JE C ρ (.Call (.Attribute (.Name x p) "pop" ap) [e] [] pos) Φ :=
  ⟨fun G0 H0 G H σ S Q ok ex => t_pe (pe_bm PySem.F.plainAttrs_list PySem.F.slot_list_pop PySem.F.type_list_pop mt_popAt pe_t (pa_cons pe_t pa_nil hst) hb hw hl hst hp) (name_ow l S (fun vs q r => ⟨.inl ⟨rfl, _, SqL.of q⟩, h.run G0 H0 G H σ S _ (fun d ρ1 v G1 H1 ⟨ds, i, j, z, e0, hi, lk, hj, hz, ρ2, u, hn⟩ S1 g1 r1 => by
    subst e0
    cases r1
    obtain ⟨vs1, q1, rr, up⟩ := own_at c.nd lk S1
    obtain ⟨y, hy, ry⟩ := rr.getD hz
    exact ⟨a, vs1, i, j, y, rfl, rfl, q1, hi.1, hi.2, by rw [rr.len]; exact hj, hy, ok _ _ _ _ _ hn (up _ _ _ (rr.eraseIdx j) u) g1 ry⟩) ex⟩) hv hd hc)⟩
/-- x.pop() -/
theorem je_pop {x : Str} {a : Addr} {ds : List Pd} {z : Pd} {ρ2 : Rho} {p ap pos : Pos} {Φ : Pd → Rho → Prop} (c : Jok C k) (l : Lk ρ x (.ow a ds)) (hz : ds[ds.length - 1]? = some z) (u : Up ρ x (.ow a ds.dropLast) ρ2) (h : Φ z ρ2)
    (hb : attributeBase (.Name x p) "pop" C.X.env (eval (.Name x p) C.X.env) = eval (.Name x p) C.X.env := by rfl) (hl : (ap.endLine == pos.line) = true := by rfl)
    (hv : visB C.X.env.scope x = true := by kernel_rfl) (hd : (x == ("__debug__" : Str)) = false := by kernel_rfl) (hc : (x == ("__classdict__" : Str)) = false := by kernel_rfl) : JE C ρ (.Call (.Attribute (.Name x p) "pop" ap) [] [] pos) Φ :=
  ⟨fun G0 H0 G H σ S Q ok ex => t_pe (pe_bm0 PySem.F.plainAttrs_list PySem.F.slot_list_pop PySem.F.type_list_pop mt_pop pe_t hb hl) (name_ow l S (fun vs q r => ⟨.inl ⟨rfl, _, SqL.of q⟩, by
    obtain ⟨vs1, q1, rr, up⟩ := own_at c.nd l S
    obtain ⟨y, hy, ry⟩ := rr.getD hz
    refine ⟨a, vs1, y, rfl, rfl, q1, by rw [rr.len]; exact hy, ok _ _ _ _ _ h (up _ _ _ ?_ u) (Ex.rfl' G) ry⟩
    rw [List.dropLast_eq_take, List.dropLast_eq_take, rr.len]
    exact rr.take _⟩) hv hd hc)⟩
/-- x[i] = e -/
theorem js_setO {x : Str} {a : Addr} {w1 : List Pd} {i e : Expr} {p p2 pos : Pos} {Ψ : Po} (c : Jok C k) (l0 : Lk ρ x (.ow a w1)) (h : JE C ρ e fun d ρ1 => ∃ w0, Lk ρ1 x (.ow a w0) ∧ JE C ρ1 i fun d2 ρ2 => ∃ ds n j, d2 = .int n ∧ Lk ρ2 x (.ow a ds) ∧ ixN ds.length n = some j ∧ ∃ ρ3, Up ρ2 x (.ow a (ds.set j d)) ρ3 ∧ Ψ.nx ρ3)
    (ha : ∀ v, assign (.Subscript (.Name x p) i p2) C.X.env v = (do
      let ov ← holding [v] (eval (.Name x p) C.X.env)
      let iv ← holding [v, ov] (eval i C.X.env)
      standAt p2
      holding [v, ov, iv] (setItem ov iv v) --k
      release [v, ov, iv] []) := by intro _; rfl) (hs : swapsWithSole [.Subscript (.Name x p) i p2] e pos.line C.X.env = pure false := by rfl) (hw : swappedStores [.Subscript (.Name x p) i p2] e C.X.env = pure none := by rfl) (h1 : (assignEach [.Subscript (.Name x p) i p2] C.X.env).map (·.2) = [assign (.Subscript (.Name x p) i p2) C.X.env] := by rfl)
    (hv : visB C.X.env.scope x = true := by kernel_rfl) (hd : (x == ("__debug__" : Str)) = false := by kernel_rfl) (hc : (x == ("__classdict__" : Str)) = false := by kernel_rfl) : JS C ρ (.Assign [.Subscript (.Name x p) i p2] e pos) Ψ :=
  ⟨fun G0 H0 G H σ S D ok ex => t_ps (ps_asg pe_t (pg_sub pe_t pe_t set_list ha) hs hw h1) (h.run G0 H0 G H σ S _ (fun d ρ1 v G1 H1 ⟨w0, l, hi⟩ S1 g1 r1 => name_ow l S1 (fun vs q r => hi.run G0 H0 G1 H1 σ S1 _ (fun d2 ρ2 y G2 H2 ⟨ds, n, j, e2, lk, hj, ρ3, u, hn⟩ S2 g2 r2 => by
    subst e2
    cases r2
    obtain ⟨vs1, q1, rr, up⟩ := own_at c.nd lk S2
    exact ⟨a, vs1, n, j, rfl, rfl, q1, by rw [rr.len]; exact hj, ok.nx _ _ _ _ hn (up _ _ _ (rr.set (r1.mono g2) j) u) (g1.tr g2)⟩) ((ex.at σ).mono g1)) hv hd hc) (ex.at σ))⟩
/-- e[::-1], of a list -/
theorem jf_rev {e : Expr} {k0 : Nat} {p1 p2 p3 pos : Pos} {Φ : List Pd → Rho → Prop} (h : JE C ρ e fun d ρ1 => ∃ ds, d = .list ds ∧ Φ ds.reverse ρ1) : JF C ρ (.Subscript e (.Slice none none (some (.UnaryOp .USub (.Constant (.int 1) k0 p1) p2)) p3) pos) Φ :=
  ⟨fun G0 H0 G H σ S Q ok ex => t_pe (pe_revL pe_t) (h.run G0 H0 G H σ S _ (fun d ρ1 v G1 H1 ⟨ds, e1, h1⟩ S1 g1 r1 => by
    subst e1
    cases r1 with
    | lst q r => exact ⟨_, _, rfl, SqL.of (S1.gh _ _ q), fun p hp => ok _ ρ1 p _ G1 _ h1 (S1.layH hp) g1 (by
        cases z : H0 p with
        | none => rfl
        | some o => rw [S1.h0 p o z] at hp; cases hp) (S1.gh.fr hp) (S1.notIn hp) upd_same r.rev⟩) ex)⟩
theorem RpA.strs {K : Fg} {H : Hp} : ∀ {vs : List V} {ys : List Str}, RpA K H vs (ys.map PyData.str) → vs = ys.map V.str
  | [], [], _ => rfl
  | v :: vs, y :: r, .cons q t => by
    cases q
    rw [RpA.strs t]; rfl
/-- 'sep'.join(a list of texts) -/
theorem je_join {y : Str} {k0 : Nat} {e : Expr} {p ap pos : Pos} {Φ : Pd → Rho → Prop} (h : JE C ρ e fun d ρ1 => ∃ ys : List Str, (d = .list (ys.map .str) ∨ d = .tuple (ys.map .str)) ∧ (ys.map (·.length)).sum + ys.length * y.length ≤ 16777216 ∧ Φ (.str (Txt.join y ys)) ρ1)
    (hs : starEach [e] C.X.env = [(false, eval e C.X.env)] := by rfl) (hb : attributeBase (.Constant (.str y) k0 p) "join" C.X.env (eval (.Constant (.str y) k0 p) C.X.env) = eval (.Constant (.str y) k0 p) C.X.env := by rfl) (hl : (ap.endLine == pos.line) = true := by rfl) : JE C ρ (.Call (.Attribute (.Constant (.str y) k0 p) "join" ap) [e] [] pos) Φ :=
  ⟨fun G0 H0 G H σ S Q ok ex => t_pe (pe_join pe_str pe_t hs hb hl) ⟨⟨y, rfl⟩, h.run G0 H0 G H σ S _ (fun d ρ1 v G1 H1 ⟨ys, e1, hz, h1⟩ S1 g1 r1 => by
    rcases e1 with rfl | rfl
    · cases r1 with
      | lst q r => exact ⟨y, _, ys, rfl, rfl, .inl (by rw [← r.strs]; exact SqL.of (S1.gh _ _ q)), hz, ok _ _ _ _ _ h1 S1 g1 (.str _)⟩
    · cases r1 with
      | tup q r => exact ⟨y, _, ys, rfl, rfl, .inr (by rw [← r.strs]; exact S1.gh.st q), hz, ok _ _ _ _ _ h1 S1 g1 (.str _)⟩) ex⟩⟩
end
theorem jt_b {C : Jc} {ρ : Rho} {op : BoolOp} {es : List Expr} {pos : Pos} {Φ : Bool → Rho → Prop} (h : JW C ρ (.BoolOp op es pos) Φ) : JT C ρ (.BoolOp op es pos) Φ := jt_w h
section
variable {C : Jc} {ρ1 : Rho} {k : Nat} {scope : Scope} {y : Str} {elt : Expr} {Φ : List Pd → Rho → Prop} {ds : List Pd}
/-- [elt for y in ..], told by a plain function -/
theorem lcp_map {α : Type} (c : Jok C k) (xs : List α) (enc f : α → Pd) {s0 : Sl} (hds : ds = xs.map enc) (l : Lk ρ1 y s0) (f0 : fpS s0 = []) (hl : xs.length ≤ 1000000)
    (step : ∀ x ∈ xs, ∃ ρ3, Up ρ1 y (.sh (enc x)) ρ3 ∧ ∀ s H Cc cl fp, Jok (blkJ C scope s H Cc cl fp) k → JE (blkJ C scope s H Cc cl fp) ρ3 elt fun w ρ5 => w = f x ∧ ρ5 = ρ3) (fin : Φ (xs.map f) ρ1) : LcP C scope y elt [] Φ ds ρ1 := by
  refine ⟨α, xs, enc, f, fun _ => true, s0, hds, l, f0, hl, fun x hx => ?_, by rw [List.filter_eq_self.mpr fun _ _ => rfl]; exact fin⟩
  obtain ⟨ρ3, u, h⟩ := step x hx
  exact ⟨ρ3, u, fun s H Cc cl fp => jx_nil ⟨rfl, rfl⟩, fun _ s H Cc cl fp => h s H Cc cl fp (c.blk scope s H Cc cl fp)⟩
/-- [elt for y in .. if t] -/
theorem lcp_if {α : Type} {t : Expr} (c : Jok C k) (xs : List α) (enc f : α → Pd) (q : α → Bool) {s0 : Sl} (hds : ds = xs.map enc) (l : Lk ρ1 y s0) (f0 : fpS s0 = []) (hl : xs.length ≤ 1000000)
    (step : ∀ x ∈ xs, ∃ ρ3, Up ρ1 y (.sh (enc x)) ρ3 ∧ (∀ s H Cc cl fp, Jok (blkJ C scope s H Cc cl fp) k → JT (blkJ C scope s H Cc cl fp) ρ3 t fun b ρ4 => b = q x ∧ ρ4 = ρ3) ∧ (q x = true → ∀ s H Cc cl fp, Jok (blkJ C scope s H Cc cl fp) k → JE (blkJ C scope s H Cc cl fp) ρ3 elt fun w ρ5 => w = f x ∧ ρ5 = ρ3)) (fin : Φ ((xs.filter q).map f) ρ1) : LcP C scope y elt [t] Φ ds ρ1 := by
  refine ⟨α, xs, enc, f, q, s0, hds, l, f0, hl, fun x hx => ?_, fin⟩
  obtain ⟨ρ3, u, h, g⟩ := step x hx
  exact ⟨ρ3, u, fun s H Cc cl fp => jx_one (h s H Cc cl fp (c.blk scope s H Cc cl fp)), fun e s H Cc cl fp => g e s H Cc cl fp (c.blk scope s H Cc cl fp)⟩
end
end KJ

set_option Elab.async false
set_option linter.all false
set_option maxRecDepth 100000
set_option maxHeartbeats 4100000
/-! J11: the script: len(script), script[i], a def that is given it. -/
namespace KJ
open PySem PySem.Spec L2 PyProof.Rows
section
variable {C : Jc} {ρ : Rho} {k : Nat}
theorem name_sq {x : Str} {a : Addr} {xs : List V} {pos : Pos} (l : Lk ρ x (.sq a xs)) {G0 H0 G H : Hp} {σ : L2.St} (S : SttC C G0 H0 G H σ ρ) {Q : VK} (h : SqL C.X.K G a xs → Q (.ref a) H)
    (hv : visB C.X.env.scope x = true) (hd : (x == ("__debug__" : Str)) = false) (hc : (x == ("__classdict__" : Str)) = false) : tE C.X (.Name x pos) σ H Q := by
  obtain ⟨i, hi⟩ := l.at
  exact name_any l hv S (v := .ref a) (fun o ho => ho.1) (h (S.ok i _ hi).2) hd hc
/-- len(script) -/
theorem je_lens {x : Str} {a : Addr} {xs : List V} {p p2 pos : Pos} {Φ : Pd → Rho → Prop} (c : Jok C k) (l : Lk ρ x (.sq a xs)) (h : Φ (.int xs.length) ρ) (hg : Gl C.X "len" := by unfold L2.Gl; kernel_rfl)
    (hv : visB C.X.env.scope x = true := by kernel_rfl) (hd : (x == ("__debug__" : Str)) = false := by kernel_rfl) (hc : (x == ("__classdict__" : Str)) = false := by kernel_rfl) : JE C ρ (.Call (.Name "len" p) [.Name x p2] [] pos) Φ :=
  ⟨fun G0 H0 G H σ S Q ok ex => t_pe (pe_callB call_len_seq hg (c.nb "len" (by decide +kernel)) PySem.boot_len (pa_cons pe_t pa_nil)) (name_sq l S (fun q => ⟨_, _, rfl, .inl (S.gh.sl q), ok _ _ _ _ _ h S (Ex.rfl' G) (.int _)⟩) hv hd hc)⟩
/-- script[e] -/
theorem je_subs {x : Str} {a : Addr} {ns : List Int} {b : Expr} {p pos : Pos} {Φ : Pd → Rho → Prop} (l : Lk ρ x (.sq a (ns.map V.int))) (h : JE C ρ b fun e ρ2 => ∃ i z, e = .int i ∧ L2.atI ns i = some z ∧ Φ (.int z) ρ2) (hs : PlainIx b := by intro _ _; rfl)
    (hv : visB C.X.env.scope x = true := by kernel_rfl) (hd : (x == ("__debug__" : Str)) = false := by kernel_rfl) (hc : (x == ("__classdict__" : Str)) = false := by kernel_rfl) : JE C ρ (.Subscript (.Name x p) b pos) Φ :=
  ⟨fun G0 H0 G H σ S Q ok ex => t_pe (pe_ix ix_t pe_t pe_t hs) (name_sq l S (fun q => h.run G0 H0 G H σ S _ (fun d ρ1 v G1 H1 ⟨i, z, e, hz, h1⟩ S1 g1 r1 => by
    subst e
    cases r1
    obtain ⟨j, h2, h3, _⟩ := L2.atI_get hz
    have e2 : L2.atI (ns.map V.int) i = some (.int z) := by
      unfold L2.atI at hz ⊢
      rw [List.length_map]
      cases q : ixN ns.length i with
      | none => rw [q] at hz; cases hz
      | some m =>
        rw [q] at hz
        show (ns.map V.int)[m]? = _
        rw [List.getElem?_map, show ns[m]? = some z from hz]
        rfl
    exact t_ix ix_list ⟨a, _, i, .int z, rfl, rfl, S1.gh.sl (g1.sl q), e2, ok _ _ _ _ _ h1 S1 g1 (.int z)⟩) ex) hv hd hc)⟩
end
/-- a def whose first argument is the script -/
abbrev Sq := List Int → List Pd → (Rs → Prop) → Prop
def spQ (K : Fg) (n : Nat) (S : Sq) : Sp := fun vs H Q E => ∃ G a ns ds vs' Φ, vs = .ref a :: vs' ∧ Ex G H ∧ SqL K G a (ns.map V.int) ∧ RpA K G vs' ds ∧ ds.length + 1 = n ∧ S ns ds Φ ∧
  ∀ r, Φ r → ∀ G' H', Ex G G' → Ex G' H' → Ex H H' → (∀ a o, H a = some o → G a = none → G' a = none) → RsOk K H G' H' Q E r
theorem fnQ_ok {M : Md} {y z qual : Str} {params : Arguments} {body : List Stmt} {sc : Scope} {dvs : List V} {f : Addr} {fd : FuncData} {N ps : List Str} {k n : Nat} {S : Sq} (F : FunD M.K z qual params body sc dvs [] f fd) (Sc : FnScope (y :: N) ps sc) (nb : NoB M.mg) (hn : ps.length = n)
    (hb : ∀ (e : En) (a : Addr) (ns : List Int) (ds : List Pd) (Φ : Rs → Prop), Jok (jc M (y :: N) qual sc e fun x _ => Φ (.xn x)) k → ds.length + 1 = n → S ns ds Φ → JB (jc M (y :: N) qual sc e fun x _ => Φ (.xn x)) ((y, .sq a (ns.map V.int)) :: st0 N ds) body (poD Φ)) : FnOk M.P M.w M.K M.mg M.base (L2.CX M.P M.w) (k + 1) f fd ps (spQ M.K n S) := by
  refine F.ok Sc (fun vs H Q E h => ?_) (fun cdv A outer s H vs Q E hr h => ?_)
  · obtain ⟨G, a, ns, zs, vs', Φ, rfl, _, _, r, l, _⟩ := h
    rw [List.length_cons, r.len, l, hn]
  · obtain ⟨G, a, ns, zs, vs', Φ, rfl, g, sq, r, l, hs, q⟩ := h
    have hpl : ps.length ≤ (y :: N).length := by have := congrArg List.length Sc.pre; rw [List.length_take] at this; omega
    have hvl : vs'.length ≤ N.length := by rw [List.length_cons] at hpl; rw [r.len]; omega
    refine ⟨_, pss_t, (hb ⟨f, cdv, A, outer, s, H, E⟩ a ns zs Φ (jok Sc nb hr) l hs).run G H G H (L2.start (y :: N) (.ref a :: vs')) ?_ _ ⟨fun ρ' σ' G' H' h1 S1 g1 => ?_, fun r ρ' σ' v G' H' h1 S1 g1 rv => ?_, fun _ _ _ _ z => z.elim, fun _ _ _ _ z => z.elim⟩ fun x ρ' σ' dd G' H' h1 S1 g1 hx => ?_⟩
    · refine ⟨g, Ex.rfl' G, Ex.rfl' H, fun _ _ _ z => z, congrArg _ (st0_nm N zs), ?_, fun i p e => ?_, fun b hb => ?_, ?_⟩
      · rw [start_cons]
        show Nat.succ _ = Nat.succ _
        rw [start_len hvl, st0_len]
      · rw [start_cons]
        cases i with
        | zero =>
          have e : (y, Sl.sq a (ns.map V.int)) = p := by simpa using e
          subst e
          exact ⟨rfl, sq⟩
        | succ i => exact st0_ok N vs' zs r hvl i p (by simpa using e)
      · rw [fpR_cons, st0_fp] at hb
        cases hb
      · rw [fpR_cons, st0_fp]
        exact List.nodup_nil
    · exact q _ h1 G' H' g1 S1.gh S1.h0 S1.sep .non .non
    · have z := q _ h1 G' H' g1 S1.gh S1.h0 S1.sep
      cases r with
      | d x => exact z v rv
      | fr ds =>
        obtain ⟨b, vs, rfl, h0, g0, na, hb, r⟩ := rv
        exact z b vs h0 g0 hb r
    · exact q _ h1 G' H' g1 S1.gh S1.h0 S1.sep dd hx
theorem foQ_ok {M : Md} {x y z qual : Str} {params : Arguments} {body : List Stmt} {sc : Scope} {dvs : List V} {f : Addr} {fd : FuncData} {N ps : List Str} {k n : Nat} {S : Sq} (F : FunD M.K z qual params body sc dvs [] f fd) (hx : M.mg x = some (.ref f)) (Sc : FnScope (y :: N) ps sc) (nb : NoB M.mg) (hn : ps.length = n)
    (hb : ∀ (e : En) (a : Addr) (ns : List Int) (ds : List Pd) (Φ : Rs → Prop), Jok (jc M (y :: N) qual sc e fun x _ => Φ (.xn x)) k → ds.length + 1 = n → S ns ds Φ → JB (jc M (y :: N) qual sc e fun x _ => Φ (.xn x)) ((y, .sq a (ns.map V.int)) :: st0 N ds) body (poD Φ))
    {ds : List Value} {dv : List V} {dl : List Pd} (B : Binds M.K fd ps ds) (Vd : Vals dv ds) (D : ∀ G, RpA M.K G dv dl) : Fo M x (k + 1) n (fun K n => spQ K n S) dl := ⟨f, fd, ps, ds, dv, hx, F.kp, fnQ_ok F Sc nb hn hb, B, Vd, D⟩
section
variable {C : Jc} {ρ : Rho} {k : Nat}
/-- f(script, e, ..), which hands back a new list -/
theorem jf_callQ {x y : Str} {a : Addr} {ns : List Int} {j n : Nat} {S : Sq} {dl : List Pd} {es : List Expr} {p p2 pos : Pos} {Φ : List Pd → Rho → Prop} (c : Jok C k) (F : Fo (mdX C.X) x j n (fun K n => spQ K n S) dl) (hj : j ≤ k) (l : Lk ρ y (.sq a (ns.map V.int))) (h : JA C ρ es fun ds ρ1 => (ds ++ dl).length + 1 = n ∧ S ns (ds ++ dl) (rF C ρ1 Φ))
    (hg : Gl C.X x := by unfold L2.Gl; kernel_rfl) (hdb : (x == ("__debug__" : Str)) = false := by kernel_rfl) (he : starEach (.Name y p2 :: es) C.X.env = (false, eval (.Name y p2) C.X.env) :: starEach es C.X.env := by rfl) (hpl : (backTo pos (starEach es C.X.env)).any (·.1) = false := by rfl)
    (hv : visB C.X.env.scope y = true := by kernel_rfl) (hd : (y == ("__debug__" : Str)) = false := by kernel_rfl) (hc : (y == ("__classdict__" : Str)) = false := by kernel_rfl) : JF C ρ (.Call (.Name x p) (.Name y p2 :: es) [] pos) Φ :=
  ⟨fun G0 H0 G H σ St Q ok ex => by
    obtain ⟨f, fd, ps, ds, dvs, h1, h2, h3, h4, h5, h6⟩ := F.ex
    refine t_pe (pe_cw c.tk (h3.mono hj) c.room hg h1 h2 h4 h5 (pa_cons pe_t pa_t he) hdb he hpl) (name_sq l St (fun sq => ?_) hv hd hc)
    refine h.run G0 H0 G H σ St _ (fun zs ρ1 vs G1 H1 ⟨hl, hS⟩ S1 g1 r1 => ?_) ex
    refine ⟨G1, a, ns, zs ++ dl, vs ++ dvs, _, rfl, S1.gh, g1.sl sq, r1.app (h6 G1), hl, hS, fun r hr G' H' g2 gh hh sep => ?_⟩
    have S2 := S1.go g2 hh gh sep
    cases r with
    | d z => exact hr.elim
    | fr ds => exact fun a vs h0 g0 ha r => ok ds ρ1 a vs G' H' hr S2 (g1.tr g2) (by
        cases q : H0 a with
        | none => rfl
        | some o => rw [S1.h0 a o q] at h0; cases h0) g0 (S1.notIn h0) ha r
    | xn z => exact fun dd hx => ex z ρ1 dd G' H' hr S2 (g1.tr g2) hx⟩
end
/-! ### side conditions -/
theorem mulR {a b : Int} (h : -(2 ^ 62) ≤ b) (h2 : b ≤ 2 ^ 62) : IntMulOk a b := .of_right (PySem.intBits_le_iff.mpr (by omega))
theorem mulL {a b : Int} (h : -(2 ^ 62) ≤ a) (h2 : a ≤ 2 ^ 62) : IntMulOk a b := .of_left (PySem.intBits_le_iff.mpr (by omega))
theorem ltl {n : Nat} (h : n ≤ 1000000) : n < sizeLine := Nat.lt_of_le_of_lt h (by rw [sizeLine_eq]; decide)
theorem lel {n : Nat} (h : n ≤ 1000000) : n ≤ sizeLine := Nat.le_of_lt (ltl h)
theorem atI_lt {α : Type} {xs : List α} {i : Int} (h0 : 0 ≤ i) (h1 : i < xs.length) : ∃ z, L2.atI xs i = some z ∧ xs[i.toNat]? = some z ∧ z ∈ xs := by
  have hi : i.toNat < xs.length := by omega
  refine ⟨xs[i.toNat], ?_, List.getElem?_eq_getElem hi, List.getElem_mem hi⟩
  unfold L2.atI ixN
  rw [if_pos h0, if_pos h1]
  exact List.getElem?_eq_getElem hi
section
variable {C : Jc} {ρ1 ρw : Rho} {k : Nat} {scope : Scope} {y : Str} {elt : Expr} {Φ : List Pd → Rho → Prop} {ds : List Pd}
/-- [elt for y in ..], a state that the turns change -/
theorem lcs_map (c : Jok C k) (I : Nat → List Pd → Rho → Prop) {s0 : Sl} (l : Lk ρ1 y s0) (f0 : fpS s0 = []) (u : Up ρ1 y .no ρw) (hl : ds.length ≤ 1000000) (h0 : I 0 [] ρw)
    (step : ∀ (i : Nat) z acc ρ2, ds[i]? = some z → I i acc ρ2 → ∃ ρ3, Up ρ2 y (.sh z) ρ3 ∧ ∀ s H Cc cl fp, Jok (blkJ C scope s H Cc cl fp) k → JE (blkJ C scope s H Cc cl fp) ρ3 elt fun w ρ5 => ∃ ρ6, Up ρ5 y .no ρ6 ∧ I (i + 1) (acc ++ [w]) ρ6)
    (fin : ∀ acc ρ2, I ds.length acc ρ2 → ∃ ρ3, Up ρ2 y s0 ρ3 ∧ Φ acc ρ3) : LcS C scope y elt [] Φ ds ρ1 := by
  refine ⟨ρw, s0, I, l, f0, u, hl, h0, fun i z acc ρ2 hz hI _ => ?_, fin⟩
  obtain ⟨ρ3, u3, h⟩ := step i z acc ρ2 hz hI
  exact ⟨ρ3, u3, fun s H Cc cl fp => jx_nil ⟨fun _ s H Cc cl fp => h s H Cc cl fp (c.blk scope s H Cc cl fp), fun e => by cases e⟩⟩
theorem lcs_if {t : Expr} (c : Jok C k) (I : Nat → List Pd → Rho → Prop) {s0 : Sl} (l : Lk ρ1 y s0) (f0 : fpS s0 = []) (u : Up ρ1 y .no ρw) (hl : ds.length ≤ 1000000) (h0 : I 0 [] ρw)
    (step : ∀ (i : Nat) z acc ρ2, ds[i]? = some z → I i acc ρ2 → ∃ ρ3, Up ρ2 y (.sh z) ρ3 ∧ ∀ s H Cc cl fp, Jok (blkJ C scope s H Cc cl fp) k → JT (blkJ C scope s H Cc cl fp) ρ3 t fun b ρ4 =>
      (b = true → ∀ s H Cc cl fp, Jok (blkJ C scope s H Cc cl fp) k → JE (blkJ C scope s H Cc cl fp) ρ4 elt fun w ρ5 => ∃ ρ6, Up ρ5 y .no ρ6 ∧ I (i + 1) (acc ++ [w]) ρ6) ∧ (b = false → ∃ ρ6, Up ρ4 y .no ρ6 ∧ I (i + 1) acc ρ6))
    (fin : ∀ acc ρ2, I ds.length acc ρ2 → ∃ ρ3, Up ρ2 y s0 ρ3 ∧ Φ acc ρ3) : LcS C scope y elt [t] Φ ds ρ1 := by
  refine ⟨ρw, s0, I, l, f0, u, hl, h0, fun i z acc ρ2 hz hI _ => ?_, fin⟩
  obtain ⟨ρ3, u3, h⟩ := step i z acc ρ2 hz hI
  exact ⟨ρ3, u3, fun s H Cc cl fp => jx_one ((h s H Cc cl fp (c.blk scope s H Cc cl fp)).imp fun b ρ4 q => ⟨fun e s H Cc cl fp => q.1 e s H Cc cl fp (c.blk scope s H Cc cl fp), q.2⟩)⟩
end
/-- a def that lets no exception out, by the end's wish -/
theorem FnOk.quiet {P : Program} {w : World} {K : Fg} {mg : Str → Option Value} {base : Heap} {k : Nat} {f : Addr} {fd : FuncData} {ps : List Str} {sp : Sp} (F : FnOk P w K mg base (L2.CX P w) k f fd ps sp) : FnOk P w K mg base L2.CX0 k f fd ps (fun vs H Q _ => sp vs H Q fun _ _ _ => False) :=
  ⟨fun vs H Q E h => F.len vs H Q _ h, fun A outer s H args us vs Q E hr e0 hb hv h => codeAny_mono (F.run A outer s H args us vs Q _ hr e0 hb hv h) fun r s' q => by
    cases r with
    | error e =>
      obtain ⟨_, _, _, _, _, _, _, _, _, _, _, _, z⟩ := q
      exact z.elim
    | ok fl => cases fl <;> exact q⟩
end KJ

set_option Elab.async false
set_option linter.all false
set_option maxRecDepth 100000
set_option maxHeartbeats 4100000
/-! J12: xs[a:c] = ys, c beyond the end too; slices of tuples. -/
namespace KJ
open PySem PySem.Spec L2 PyProof.Rows
/-- the ends of xs[a:c], cut to the length -/
theorem cut_ends {a c n : Nat} (ha : a ≤ n) (hac : a ≤ c) : sliceBounds (some (a : Int)) (some (c : Int)) none n = ((a : Int), ((min c n : Nat) : Int), 1) := by
  have z1 : ¬ ((a : Int) < 0) := by omega
  have z2 : ¬ ((c : Int) < 0) := by omega
  simp only [sliceBounds, Option.getD_none, z1, z2, if_false, show (1 : Int) > 0 by decide, if_true]
  congr 1
  · omega
  · congr 1; omega
section
variable {prog : Program} {w : World} {A : Around} {E : Value → Shared → Prop} {s : Shared} --k
set_option maxRecDepth 100000 in --k
theorem store_cut {p r z : Addr} {us ys : Array Value} {n n2 : Nat} {vl vu : Value} {a c d : Nat} {Q : Unit → Shared → Prop}
    (e : s.heap.get? p = some { cls := .type "list", data := .seq us n }) (f : s.heap.get? r = some { cls := .type "list", data := .seq ys n2 }) (ne : p ≠ r) (hz : s.heap.IsSliceOf z vl vu .none) (pl : IsPart vl (some (a : Int))) (pu : IsPart vu (some (c : Int)))
    (hbd : sliceBounds (some (a : Int)) (some (c : Int)) none us.size = ((a : Int), (d : Int), 1)) (had : a ≤ d) (hd : d ≤ us.size) (room : us.size + ys.size ≤ sizeLine) (h : Q () { s with heap := s.heap.update p (Obj.mapSeq fun xs => xs.extract 0 a ++ ys ++ xs.extract d xs.size) }) :
    wpAny (model prog w) A (setItem (.ref p) (.ref z) (.ref r)) Q E s := by
  have tp : s.heap.IsList p us := PySem.IsL.isList e
  have tr : s.heap.IsList r ys := PySem.IsL.isList f
  obtain ⟨so, hso, hcs, hds⟩ := id hz
  have tz : s.TypeIs (.ref z) "slice" := ⟨so, hso, hcs⟩
  have same : Builtin.List.listSameRef (.ref p) (.ref r) = false := by unfold Builtin.List.listSameRef; exact beq_eq_false_iff_ne.mpr ne
  have mx : (max (a : Int) (d : Int)).toNat = d := by omega
  have fit : ((fun xs : Array Value => xs.extract 0 a ++ ys ++ xs.extract d xs.size) us).size ≤ sizeLine + 1 := by simp only [Array.size_append, Array.size_extract]; omega
  unfold setItem
  try with_reducible (refine wpAny_holding ?_)
  first | refine wpAny_bind (wpAny_pure ?_) | skip --k
  refine wpAny_bind (wpAny_sequenceKey tp.typeIs (by decide) ?_)
  refine wpAny_bind (wpAny_callSpecial?_slot (name := Str.ofString "__setitem__") tp.typeIs slot_list_setitem (wpAny_call_entry slot_list_setitem tp.typeIs entry_list_setitem ?_ (args_list_setitem _ _ _)))
  show wpAny _ _ (Builtin.List.listSubscript? (.ref z) >>= _) _ _ s
  refine wpAny_bind ?_
  unfold Builtin.List.listSubscript? --k
  refine wpAny_bind (wpAny_specialOf tz slice_no_index ?_)
  simp only [Option.isNone_none, if_true] --k
  refine wpAny_pure ?_
  show wpAny _ _ (typeOf (.ref z) >>= _) _ _ s
  refine wpAny_bind (wpAny_typeOf tz ?_)
  first | rw [if_neg (by decide)] | refine PySem.W.KFB.if_not (by decide) ?_
  rw [listSliceParts_eq]
  refine wpAny_bind (wpAny_bind (wpAny_field hso hds (x := .none) rfl (wpAny_bind (wpAny_listPart .none ?_))))
  rw [if_neg (show ¬ ((rawPart none == rawInt 0) = true) from Bool.false_ne_true)]
  refine wpAny_bind (wpAny_field hso hds (x := vl) rfl (wpAny_bind (wpAny_listPart pl ?_)))
  refine wpAny_bind (wpAny_field hso hds (x := vu) rfl (wpAny_bind (wpAny_listPart pu (wpAny_pure ?_))))
  first | simp only [same, Bool.false_eq_true, if_false] | refine PySem.W.KFB.if_not same ?_ | (dsimp only; rw [if_neg (by rw [same]; exact Bool.false_ne_true)])
  refine wpAny_bind (m := Builtin.List.listAllItems (.ref r) "must assign iterable to extended slice") ?_
  unfold Builtin.List.listAllItems --k
  refine wpAny_bind (wpAny_typeOf tr.typeIs ?_)
  first | refine PySem.W.KFB.if_so (by decide) ?_ | rw [if_pos (by decide)] | simp only [beq_self_eq_true, Bool.true_or, if_true]
  unfold Builtin.List.listItems
  refine wpAny_bind (wpAny_seqItems f rfl (wpAny_pure ?_))
  refine wpAny_bind (wpAny_bind (wpAny_seqItems e rfl (wpAny_pure (?_ : wpAny _ _ _ _ _ _))))
  refine wpAny_bind (wpAny_of_eq ((sliceIndices_raw (some (a : Int)) (some (c : Int)) none us.size (by simp)).trans (congrArg (pure : Int × Int × Int → Sem (Int × Int × Int)) hbd)) ?_)
  show wpAny _ _ (if ((1 : Int) == 1) = true then _ else _) _ E s
  rw [if_pos (by decide)]
  refine wpAny_bind (wpAny_rule ?_) --k
  first | simp only [notLongL room, Bool.false_eq_true, if_false] | refine PySem.W.KFB.if_not (notLongL room) ?_
  first | refine wpAny_bind (wpAny_pure ?_) | skip --k
  show wpAny _ _ (updateSeq p (fun xs => xs.extract 0 ((a : Int)).toNat ++ ys ++ xs.extract (max (a : Int) (d : Int)).toNat xs.size) >>= _) _ _ s
  rw [mx, Int.toNat_natCast]
  refine wpAny_bind (wpAny_updateSeq (hz := Nat.le_trans (Nat.le_add_right _ _) room) (_hz' := fit) e rfl ?_)
  refine wpAny_bind (wpAny_letGo ?_) --k
  first | exact wpAny_bind (wpAny_pure (wpAny_pure ⟨.none, rfl, wpAny_pure h⟩)) | exact wpAny_pure ⟨.none, rfl, wpAny_pure h⟩
end
section
variable {C : Jc} {ρ : Rho} {k : Nat}
/-- x[lo:hi] = e, of an own list; the ends change nothing -/
theorem js_setCut {x : Str} {a : Addr} {w1 : List Pd} {lo hi e : Expr} {p p2 p3 pos : Pos} {Ψ : Po} (c : Jok C k) (l0 : Lk ρ x (.ow a w1)) (h : JE C ρ e fun d0 ρ1 => ∃ new ds, ∃ i j : Nat, d0 = .list new ∧ Lk ρ1 x (.ow a ds) ∧ JE C ρ1 lo (fun d ρ' => d = .int i ∧ ρ' = ρ1) ∧ JE C ρ1 hi (fun d ρ' => d = .int j ∧ ρ' = ρ1) ∧ (i ≤ ds.length ∧ i ≤ j ∧ ds.length + new.length ≤ sizeLine) ∧
      ∃ ρ4, Up ρ1 x (.ow a (ds.take i ++ new ++ ds.drop (min j ds.length))) ρ4 ∧ Ψ.nx ρ4)
    (ha : ∀ v, assign (.Subscript (.Name x p) (.Slice (some lo) (some hi) none p2) p3) C.X.env v = (do
      let ov ← holding [v] (eval (.Name x p) C.X.env)
      let iv ← holding [v, ov] (eval (.Slice (some lo) (some hi) none p2) C.X.env)
      standAt p3
      holding [v, ov, iv] (setItem ov iv v) --k
      release [iv, v, ov] []) := by intro _; rfl) (hs : swapsWithSole [.Subscript (.Name x p) (.Slice (some lo) (some hi) none p2) p3] e pos.line C.X.env = pure false := by rfl) (hw : swappedStores [.Subscript (.Name x p) (.Slice (some lo) (some hi) none p2) p3] e C.X.env = pure none := by rfl) (h1 : (assignEach [.Subscript (.Name x p) (.Slice (some lo) (some hi) none p2) p3] C.X.env).map (·.2) = [assign (.Subscript (.Name x p) (.Slice (some lo) (some hi) none p2) p3) C.X.env] := by rfl)
    (hv : visB C.X.env.scope x = true := by kernel_rfl) (hd : (x == ("__debug__" : Str)) = false := by kernel_rfl) (hc : (x == ("__classdict__" : Str)) = false := by kernel_rfl) : JS C ρ (.Assign [.Subscript (.Name x p) (.Slice (some lo) (some hi) none p2) p3] e pos) Ψ :=
  ⟨fun G0 H0 G H σ S D ok ex => t_ps (ps_asg pe_t pg_t hs hw h1) (h.run G0 H0 G H σ S _ (fun d0 ρ1 v G1 H1 hq S1 g1 r1 pins s u I rv => by
    obtain ⟨new, ds, i, j, e0, l, jlo, jhi, ⟨b1, b2, b3⟩, ρ4, u4, hn⟩ := hq
    subst e0
    cases r1 with
    | @lst b vn _ qb rb =>
      cases rv
      rw [ha]
      have pv : tE C.X (.Name x p) σ H1 fun y H2 => y = .ref a ∧ H2 = H1 := name_ow l S1 (fun vs q r => ⟨rfl, rfl⟩) hv hd hc
      have po1 : ∀ (o : Expr) (m : Nat), JE C ρ1 o (fun d ρ' => d = .int m ∧ ρ' = ρ1) → ∀ G2 H2, SttC C G0 H0 G2 H2 σ ρ1 → Ex G1 G2 → tO C.X (some o) σ H2 fun z H3 => z = some (m : Int) ∧ ∃ G3, SttC C G0 H0 G3 H3 σ ρ1 ∧ Ex G1 G3 := fun o m jo G2 H2 S2 g2 =>
        (jo_some (Φ := fun z ρ' => z = some (m : Int) ∧ ρ' = ρ1) (jo.imp fun d ρ' ⟨q1, q2⟩ => ⟨m, q1, rfl, q2⟩)).run G0 H0 G2 H2 σ S2 _ (fun z ρ' G3 H3 ⟨q1, q2⟩ S3 g3 => by subst q2; exact ⟨q1, G3, S3, g2.tr g3⟩) (((ex.at σ).mono g1).mono g2)
      refine wpAny_bind (wpAny_holding (thn (pe_t.run pins s σ H1 _ I pv) fun ov s1 ⟨y, H2, I1, ry, ey, eH⟩ => ?_))
      subst ey eH
      cases ry
      refine wpAny_bind (wpAny_holding (wpAny_Slice (thn (po_t.run pins s1 σ H2 _ I1 (po1 lo i jlo G1 H2 S1 (Ex.rfl' G1))) fun vl s2 ⟨z1, H3, I2, pl, e1, G3, S3, g3⟩ => ?_)))
      subst e1
      refine thn (po_t.run pins s2 σ H3 _ I2 (po1 hi j jhi G3 H3 S3 g3)) fun vu s3 ⟨z2, H4, I3, pu, e2, G4, S4, g4⟩ => ?_
      subst e2
      refine thn (po_none.run pins s3 σ H4 (fun o H5 => o = none ∧ H5 = H4) I3 ⟨rfl, rfl⟩) fun vt s4 ⟨z3, H5, I4, pt, e3, eH⟩ => ?_
      subst e3 eH
      cases pt
      have I5 : Inv C.X pins σ H5 { s4 with heap := s4.heap.push { cls := .type "slice", data := .fields #[vl, vu, .none] } } := I4.kept (t' := s4.toks) fun b' o' q' => Heap.get?_push_of_some _ q'
      obtain ⟨vs1, q1, rr, up⟩ := own_at c.nd l S4
      have qb4 : H5 b = some (.lst vn) := S4.gh _ _ (g4 _ _ qb)
      have ne : a ≠ b := fun z => by
        subst z
        obtain ⟨m, hm⟩ := l.at
        have := (S1.own a (mem_fpR hm (List.mem_singleton.mpr rfl))).2.1
        rw [this] at qb
        cases qb
      obtain ⟨z1, it1, n1, v1, l1, h1'⟩ := I5.lstM q1
      obtain ⟨z2, it2, n2, v2, l2, h2'⟩ := I5.lstM qb4
      have sz : it1.toArray.size = ds.length := by rw [List.size_toArray, ← l1, rr.len]
      have sz2 : it2.toArray.size = new.length := by rw [List.size_toArray, ← l2, rb.len]
      refine wpAny_bind (wpAny_standAt (wpAny_bind (wpAny_holding (store_cut (a := i) (c := j) (d := min j ds.length) h1' h2' ne (Heap.IsSliceOf.new _ vl vu .none) pl pu (by rw [sz]; exact cut_ends b1 b2) (by omega) (by rw [sz]; omega) (by rw [sz, sz2]; exact b3) ?_))))
      have I6 := I5.lset (t' := s4.toks) (ys := vs1.take i ++ vn ++ vs1.drop (min j ds.length)) (its' := it1.take i ++ it2 ++ it1.drop (min j ds.length)) (f := fun xs => xs.extract 0 i ++ it2.toArray ++ xs.extract (min j ds.length) xs.size) q1 h1' (splice_eq it1 it2 i (min j ds.length)) (Vals.append (Vals.append (v1.take _) v2) (v1.drop _)) (by
        have e1 := rr.len
        have e2 := rb.len
        rw [List.length_append, List.length_append, List.length_take, List.length_drop]
        omega)
      exact wpAny_release ⟨σ, _, I6, ok.nx _ _ _ _ hn (up _ _ _ (((rr.take i).app (rb.mono g4)).app (rr.drop _)) u4) (g1.tr g4)⟩) (ex.at σ))⟩
/-- an own list == [], which stays one's own -/
theorem jt_nilO {x : Str} {a : Addr} {ds : List Pd} {p p2 pos : Pos} {Φ : Bool → Rho → Prop} (c : Jok C k) (l : Lk ρ x (.ow a ds)) (hp : PyData.plainAll ds = true) (h : Φ ds.isEmpty ρ)
    (hv : visB C.X.env.scope x = true := by kernel_rfl) (hd : (x == ("__debug__" : Str)) = false := by kernel_rfl) (hc : (x == ("__classdict__" : Str)) = false := by kernel_rfl) : JT C ρ (.Compare (.Name x p) [.Eq] [.List [] p2] pos) Φ :=
  ⟨fun G0 H0 G H σ S Q ok ex => t_pt (pt_cmpR op_t pe_t (pe_t (e := .List [] p2)) (nomark _)) (name_ow l S (fun vs q r => (jf_lst (ja_nil (Φ := fun ds' ρ1 => Nat.ble ds'.length 1000 = true ∧ (ds' = [] ∧ ρ1 = ρ)) ⟨rfl, rfl, rfl⟩)).run G0 H0 G H σ S _ (fun ds' ρ1 b vs' G1 H1 hq S1 g1 h0 g0 na hb rb => by
    obtain ⟨rfl, rfl⟩ := hq
    obtain ⟨vs2, q2, r2⟩ := l.ow_at S1
    cases rb
    have rx : Rp C.X.K H1 (.ref a) (.list ds) := .lst q2 (r2.mono S1.gh)
    have ry : Rp C.X.K H1 (.ref b) (.list []) := .lst hb .nil
    have hu : C.X.A.units + 200 < cLine := by have := c.room.un; omega
    have e0 : PyData.eqv (.list ds) (.list []) = ds.isEmpty := by cases ds <;> rfl
    intro pins s σ' v u I rv ru
    obtain ⟨as, q3⟩ := rds I (Ex.rfl' H1) rx hp rv
    obtain ⟨bs, q4⟩ := rds I (Ex.rfl' H1) ry rfl ru
    refine SeqAt.eq_plain q3 q4 hp rfl (by have : (PyData.list []).depth ≤ 60 := by decide
                                           omega) ⟨.bl _, H1, I, rfl, _, rfl, ?_⟩
    rw [e0]
    exact ok _ _ G1 H1 h S1 g1) ex) hv hd hc)⟩
/-- x[lo:hi] of an own list, which stays one's own -/
theorem jf_slo {x : Str} {a : Addr} {ds : List Pd} {lo hi : Option Expr} {p p2 pos : Pos} {Φ : List Pd → Rho → Prop} (l : Lk ρ x (.ow a ds)) (h : JO C ρ lo fun i ρ2 => JO C ρ2 hi fun j ρ3 => ∃ ds', Lk ρ3 x (.ow a ds') ∧ Φ (cutD ds' i j) ρ3)
    (hv : visB C.X.env.scope x = true := by kernel_rfl) (hd : (x == ("__debug__" : Str)) = false := by kernel_rfl) (hc : (x == ("__classdict__" : Str)) = false := by kernel_rfl) : JF C ρ (.Subscript (.Name x p) (.Slice lo hi none p2) pos) Φ :=
  ⟨fun G0 H0 G H σ S Q ok ex => t_pe (pe_slice sl_t pe_t po_t po_t) (name_ow l S (fun vs q r => h.run G0 H0 G H σ S _ (fun i ρ2 G2 H2 h2 S2 g2 => h2.run G0 H0 G2 H2 σ S2 _ (fun j ρ3 G3 H3 h3 S3 g3 => by
    obtain ⟨ds', lk, h3⟩ := h3
    obtain ⟨vs', q', r'⟩ := lk.ow_at S3
    exact t_sl sl_list ⟨_, _, rfl, SqL.of q', fun p hp => ok _ _ _ _ _ _ h3 (S3.layH hp) (g2.tr g3) (S3.h0.fr hp) (S3.gh.fr hp) (S3.notIn hp) upd_same (r'.cut i j)⟩) (ex.mono g2)) ex) hv hd hc)⟩
end
end KJ

set_option Elab.async false
set_option linter.all false
set_option maxRecDepth 100000
set_option maxHeartbeats 4100000
/-! J13: ranges of any size, list(range), list.index, own lists that are looked at. -/
namespace PySem
open Sem (wp)
section
variable {prog : Program} {w : World} {A : Around} {E : Value → Shared → Prop} {s : Shared} --k
/-- a list takes all of a long range -/
theorem kj_extend_long {R : Result → Shared → Prop} {r : Addr} {a b c : Int} {t u v : Tok} {n : Nat} (hh : A.handled = none) (hr : IsRange s.heap r a b c t u v) (hbig : Builtin.Range.small a b c = false) (hn : Builtin.Range.rangeSize a b c = n) (hlen : n ≤ 2 ^ 24) (S : Addr) (res : Value) (c₀ : Nat)
    (hS : s.heap.get? S = some { cls := .type "list", data := .seq #[] c₀ }) (hR : ∀ h' tk acc' c', (∀ b o, b ≠ S → s.heap.get? b = some o → h'.get? b = some o) → h'.get? S = some { cls := .type "list", dict := none, data := .seq acc' c', slots := #[] } → ItemsOf (fun i v => ∃ t, v = .int (a + i * c) t) acc' n → R (.ok (.ret res)) { s with heap := h', toks := tk }) :
    wpAny (model prog w) A.in1 (Builtin.List.listExtendWith (.ref S) (.ref r) res) (fun fin s' => match fin with | .done f => R (.ok f) s' | .again c' => c'.quiet = true ∧ codeAny (model prog w) A c' R s') (fun e s' => R (.error e) s') s := by
  have ne1 : S ≠ r := fun e => by rw [e, hr] at hS; simp at hS
  have lt1 : S < s.heap.objs.size := Heap.lt_size hS
  have ne2 : S ≠ s.heap.objs.size := Nat.ne_of_lt lt1
  have W := (Walks.longrange (prog := prog) (w := w) (A := A.in1) hh s.heap.objs.size a c n).toS
  have go : ∀ (h : Heap) (c₁ tk : Nat), IsLongIter h s.heap.objs.size (a + ((0 : Nat) : Int) * c) ((n : Int) - ((0 : Nat) : Int)) c → (∀ b o, b ≠ S → s.heap.get? b = some o → h.get? b = some o) → h.get? S = some { cls := .type "list", data := .seq #[] c₁ } →
      codeAny (model prog w) A (.builtin "list.extend.loop" ⟨[.ref S, .ref s.heap.objs.size, res], []⟩) R { s with heap := h, toks := tk } := fun h c₁ tk hit hk h1 => by
    refine codeAny_extend_loopS W (by rw [sizeLine_eq]; omega) S (fun hm => ne2 (List.mem_singleton.mp hm)) res n 0 _ #[] c₁ rfl (Nat.zero_le _) hit h1 (ItemsOf.nil _) fun s' acc' c' hm h2 hacc => ?_
    rw [Moved.eq_with hm]
    exact hR s'.heap s'.toks acc' c' (fun b o hb e => hm.heap b o (fun hmem => (List.mem_cons.mp hmem).elim hb fun q => absurd (Heap.lt_size e) (by rw [List.mem_singleton.mp q]; exact Nat.lt_irrefl _)) (hk b o hb e)) h2 hacc
  unfold Builtin.List.listExtendWith --k
  refine wpAny_bind (wpAny_typeOf (T := "range") ⟨_, hr, rfl⟩ ?_) --k
  simp only [show Builtin.List.listSameRef (.ref S) (.ref r) = false by simp [Builtin.List.listSameRef, ne1], show (Value.type "range" == Value.type "list") = false by decide, show (Value.type "range" == Value.type "tuple") = false by decide, Bool.or_false, Bool.false_eq_true, if_false]
  refine wpAny_bind (wpAny_pyIter_longrange hr hbig (wpAny_bind (wpAny_holding (wpAny_hint_range (n := n) (Heap.get?_push_of_some _ hr) hn hlen ?_))))
  have it1 : IsLongIter (s.heap.push { cls := .type "longrange_iterator", data := .fields #[rawInt a, rawInt (Builtin.Range.rangeSize a b c), rawInt c] }) s.heap.objs.size (a + ((0 : Nat) : Int) * c) ((n : Int) - ((0 : Nat) : Int)) c := by
    show IsLongIter _ _ _ _ _; rw [hn]; simpa using Heap.get?_push_size _ rfl
  have s1 := Heap.get?_push_of_some { cls := .type "longrange_iterator", data := .fields #[rawInt a, rawInt (Builtin.Range.rangeSize a b c), rawInt c] } hS
  refine wpAny_ite_split (fun _ => ?_) (fun _ => wpAny_pure ⟨plainId_quiet F.plain_extend_loop _, go _ c₀ _ it1 (fun b o _ e => Heap.get?_push_of_some _ e) s1⟩)
  refine wpAny_bind (wpAny_rule (wpAny_bind ?_)) --k
  show wpAny _ _ (updateSeq S (·.push .none) >>= fun _ => updateSeq S (·.pop)) _ _ _ --k
  refine wpAny_bind (wpAny_updateSeq s1 rfl ?_)
  have s2 := Heap.get?_update_self (Obj.mapSeq (·.push Value.none)) s1 rfl
  refine wpAny_updateSeq (hz := by seq_fits) s2 rfl ?_
  have s3 := Heap.get?_update_self (Obj.mapSeq (·.pop)) s2 rfl
  exact wpAny_pure ⟨plainId_quiet F.plain_extend_loop _, go _ _ _ ((Heap.get?_update_other _ _ ne2).trans ((Heap.get?_update_other _ _ ne2).trans it1)) (fun b o hb e => (Heap.get?_update_other _ _ (Ne.symm hb)).trans ((Heap.get?_update_other _ _ (Ne.symm hb)).trans (Heap.get?_push_of_some _ e))) s3⟩
theorem kj_init_long {R : Result → Shared → Prop} {r : Addr} {a b c : Int} {t u v : Tok} {n : Nat} (hh : A.handled = none) (hr : IsRange s.heap r a b c t u v) (hbig : Builtin.Range.small a b c = false) (hn : Builtin.Range.rangeSize a b c = n) (hlen : n ≤ 2 ^ 24) (S : Addr) (hS : s.heap.get? S = some { cls := .type "list", data := .seq #[] })
    (hR : ∀ h' tk acc' c', (∀ b o, b ≠ S → s.heap.get? b = some o → h'.get? b = some o) → h'.get? S = some { cls := .type "list", dict := none, data := .seq acc' c', slots := #[] } → ItemsOf (fun i v => ∃ t, v = .int (a + i * c) t) acc' n → R (.ok (.ret .none)) { s with heap := h', toks := tk }) :
    wpAny (model prog w) A.in1 (Builtin.«list.__init__» ⟨[.ref S, .ref r], []⟩) (fun fin s' => match fin with | .done f => R (.ok f) s' | .again c' => c'.quiet = true ∧ codeAny (model prog w) A c' R s') (fun e s' => R (.error e) s') s := by
  have ne1 : S ≠ r := fun e => by rw [e, hr] at hS; simp at hS
  show wpAny _ _ (do let old ← Builtin.List.listItems (.ref S); Builtin.List.listUpdate (.ref S) (fun _ => #[]); letGo old.toList.reverse; Builtin.List.listExtendWith (.ref S) (.ref r) .none) _ _ s --k
  refine wpAny_bind ?_
  unfold Builtin.List.listItems
  refine wpAny_bind (wpAny_seqItems hS rfl (wpAny_pure ?_)) --k
  show wpAny _ _ (updateSeq S (fun _ => #[]) >>= fun _ => letGo (#[] : Array Value).toList.reverse >>= fun _ => Builtin.List.listExtendWith (.ref S) (.ref r) .none) _ _ s --k
  refine wpAny_bind (wpAny_updateSeq hS rfl (wpAny_bind (wpAny_letGo ?_)))
  have oth : ∀ b o, b ≠ S → s.heap.get? b = some o → (s.heap.update S (Obj.mapSeq (fun _ => (#[] : Array Value)))).get? b = some o := fun b o hb e => (Heap.get?_update_other _ _ (Ne.symm hb)).trans e
  exact kj_extend_long hh (oth r _ (Ne.symm ne1) hr) hbig hn hlen S .none _ (Heap.get?_update_self (Obj.mapSeq (fun _ => (#[] : Array Value))) hS rfl) fun h' tk acc' c' hk h2 hacc => hR h' tk acc' c' (fun b o hb e => hk b o hb (oth b o hb e)) h2 hacc
/-- list(range), of any size -/
theorem kj_list_range {Q : Value → Shared → Prop} {r : Addr} {a b c : Int} {t u v : Tok} {n : Nat} (hh : A.handled = none) (hr : IsRange s.heap r a b c t u v) (hn : Builtin.Range.rangeSize a b c = n) (hlen : n ≤ 2 ^ 24)
    (hQ : ∀ h' tk acc' c', (∀ b o, s.heap.get? b = some o → h'.get? b = some o) → h'.get? s.heap.objs.size = some { cls := .type "list", dict := none, data := .seq acc' c', slots := #[] } → ItemsOf (fun i v => ∃ t, v = .int (a + i * c) t) acc' n → Q (.ref s.heap.objs.size) { s with heap := h', toks := tk }) :
    wpAny (model prog w) A (call (.type "list") [.ref r]) Q E s := by --k
  cases hs : Builtin.Range.small a b c with
  | true => exact call_list_range hh hr hs hn hlen hQ
  | false =>
    refine callType_codes (Q₁ := fun obj s₁ => obj = .ref s.heap.objs.size ∧ s₁ = { s with heap := s.heap.push { cls := .type "list", data := .seq #[] } }) F.called_list (F.typeCall_list_1 _) F.entry_list_init (code_list_new _ ⟨rfl, rfl⟩) fun obj s₁ h₁ => ?_
    obtain ⟨rfl, rfl⟩ := h₁
    have h1 : (s.heap.push { cls := .type "list", data := .seq #[] }).get? s.heap.objs.size = some { cls := .type "list", data := .seq #[] } := Heap.get?_push_size _ rfl
    exact ⟨⟨_, h1, rfl⟩, F.args_list_init_2 _ _, kj_init_long (A := A.in1) hh (Heap.get?_push_of_some _ hr) hs hn hlen _ h1 fun h' tk acc' c' hk h2 hacc => ⟨rfl, hQ h' tk acc' c' (fun b o e => hk b o (Nat.ne_of_lt (Heap.lt_size e)) (Heap.get?_push_of_some _ e)) h2 hacc⟩⟩
end
end PySem
namespace KJ
open PySem PySem.Spec L2 PyProof.Rows
theorem turn_long {P : Program} {w : World} {K : PySem.W.Frag} {tg : Expr} (it : Addr) (lo : Int) (n : Nat) : Turn P w K tg (Itr lo n) [it] it (fun i h => IsLongIter h it (lo + (i : Nat) * 1) ((n : Int) - (i : Nat)) 1) where
  mem := List.mem_singleton.mpr rfl
  obj := fun i h st b hb => by
    obtain rfl := List.mem_singleton.mp hb
    exact ⟨_, st, fun v z => by cases (show Data.fields _ = Data.cell v from z)⟩
  keep := fun i h h' st k => k it (List.mem_singleton.mpr rfl) _ st
  item := by
    rintro X rfl rfl rfl hc i pins s σ H E I hf st hg
    obtain ⟨f0, f1, f2, f3, f4, f5⟩ := hf it (List.mem_singleton.mpr rfl)
    refine (Walks.longrange (prog := X.prog) (w := X.w) (I.ok.hd hc) it lo 1 n).item i s _ _ hg st fun v h' tk hv st' kk => ?_
    obtain ⟨t, rfl⟩ := hv
    have I1 : Inv X pins σ H { s with heap := h', toks := tk } := I.turned (fun b o hb e => kk b o (by simpa using hb) e) f0 f1 f3 f4 f5 --k
    exact ⟨_, rfl, go_of (s := { s with heap := h', toks := tk }) (n := "longrange_iterator") st' rfl rfl (by decide) ⟨.int (lo + i), H, I1, ⟨t, by rw [Int.mul_one]⟩, ⟨rfl, rfl⟩, st', fun b hb => (hf b hb).1⟩⟩
  done := by
    rintro X rfl rfl rfl hc i pins s σ H E I hf st hg
    obtain ⟨f0, f1, f2, f3, f4, f5⟩ := hf it (List.mem_singleton.mpr rfl)
    exact wpAny_pyNext_long_end (I.ok.hd hc) st (by have : n ≤ i := hg; omega) fun h' eb => ⟨rfl, I.turned (t' := s.toks) (fun b o hb e => eb b o hb e) f0 f1 f3 f4 f5⟩
  self := fun _ _ _ _ _ st h => wpAny_pyIter_longiter st h
theorem rsize (lo hi : Int) : Builtin.Range.rangeSize lo hi 1 = (((hi - lo).toNat : Nat) : Int) := by rw [rangeSize_one]; split <;> omega
/-- a range, walked -/
theorem range_any {X : Cx} {tg : Expr} {pins : List (Addr × Obj)} {σ : L2.St} {H : Hp} {s : Shared} {R : It → Hp → Prop} {E : Value → Shared → Prop} {r : Addr} {lo hi : Int} {t u v : Tok} (I : Inv X pins σ H s) (hr : IsRange s.heap r lo hi 1 t u v) (q : R (Itr lo (hi - lo).toNat) H) :
    wpAny (model X.prog X.w) X.A (pyIter (.ref r)) (PIE X pins σ tg R) E s := by
  have fp : ∀ {o : Obj}, ∀ b ∈ [s.heap.objs.size], FpOk X pins H b := fun b hb => by
    obtain rfl := List.mem_singleton.mp hb
    exact I.fpOk (Nat.le_refl _) (I.hok.fresh (Nat.le_refl _)) --k
  cases hs : Builtin.Range.small lo hi 1 with
  | true =>
    refine wpAny_pyIter_range hr hs ⟨s.heap.objs.size, [s.heap.objs.size], _, _, H, rfl, I.kept (t' := s.toks) (fun b o e => Heap.get?_push_of_some _ e), turn_range _ lo (hi - lo).toNat, ?_, fp (o := default), q⟩
    show IsRangeIter _ _ (lo + ((0 : Nat) : Int) * 1) ((((hi - lo).toNat : Nat) : Int) - ((0 : Nat) : Int)) 1 --k
    rw [rsize, show lo + ((0 : Nat) : Int) * 1 = lo by simp, show ((((hi - lo).toNat : Nat) : Int) - ((0 : Nat) : Int)) = ((hi - lo).toNat : Nat) by simp]
    exact Heap.get?_push_size _ rfl --k
  | false =>
    refine wpAny_pyIter_longrange hr hs ⟨s.heap.objs.size, [s.heap.objs.size], _, _, H, rfl, I.kept (t' := s.toks) (fun b o e => Heap.get?_push_of_some _ e), turn_long _ lo (hi - lo).toNat, ?_, fp (o := default), q⟩
    show IsLongIter _ _ (lo + ((0 : Nat) : Int) * 1) ((((hi - lo).toNat : Nat) : Int) - ((0 : Nat) : Int)) 1
    rw [rsize, show lo + ((0 : Nat) : Int) * 1 = lo by simp, show ((((hi - lo).toNat : Nat) : Int) - ((0 : Nat) : Int)) = ((hi - lo).toNat : Nat) by simp]
    exact Heap.get?_push_size _ rfl --k
section
variable {C : Jc} {ρ : Rho} {k : Nat}
theorem ji_rng2L {tg a b : Expr} {p pos : Pos} {Φ : List Pd → Rho → Prop} (c : Jok C k) (h : JE C ρ a fun d ρ1 => JE C ρ1 b fun d2 ρ2 => ∃ m n : Int, d = .int m ∧ d2 = .int n ∧ Φ (rng m (n - m).toNat) ρ2) (hg : Gl C.X "range")
    (hs : starEach [a, b] C.X.env = (false, eval a C.X.env) :: starEach [b] C.X.env) (hs2 : starEach [b] C.X.env = (false, eval b C.X.env) :: starEach [] C.X.env) (hp : (backTo pos (starEach [b] C.X.env)).any (·.1) = false) : JI C ρ tg (.Call (.Name "range" p) [a, b] [] pos) Φ :=
  ⟨fun G0 H0 G H σ S R ok ex pins s I => thn (prg_2 hg (c.nb "range" (by decide +kernel)) pe_t pe_t hs hs2 hp pins s σ H (fun i j H2 => R (Itr i (j - i).toNat) H2) I (h.run G0 H0 G H σ S _ (fun d ρ1 v G1 H1 h1 S1 g1 r1 => h1.run G0 H0 G1 H1 σ S1 _ (fun d2 ρ2 v2 G2 H2 h2 S2 g2 r2 => by
    obtain ⟨m, n, rfl, rfl, h2⟩ := h2
    cases r1; cases r2
    exact ⟨m, n, rfl, rfl, ok _ _ _ _ _ h2 S2 (g1.tr g2) its_rng⟩) (ex.mono g1)) ex)) fun x s1 ⟨r, i, j, t, u, v, H2, e1, hr, I1, q⟩ => by
      subst e1
      exact range_any I1 hr q⟩
/-- list(range(a, b)) -/
theorem jf_lrng2 {a b : Expr} {p p2 pos pos2 : Pos} {Φ : List Pd → Rho → Prop} (c : Jok C k) (h : JE C ρ a fun d ρ1 => JE C ρ1 b fun d2 ρ2 => ∃ m n : Int, d = .int m ∧ d2 = .int n ∧ (n - m).toNat ≤ 1000000 ∧ Φ (rng m (n - m).toNat) ρ2) (hg : Gl C.X "range") (hgl : Gl C.X "list")
    (hs : starEach [a, b] C.X.env = (false, eval a C.X.env) :: starEach [b] C.X.env) (hs2 : starEach [b] C.X.env = (false, eval b C.X.env) :: starEach [] C.X.env) (hp : (backTo pos (starEach [b] C.X.env)).any (·.1) = false) : JF C ρ (.Call (.Name "list" p2) [.Call (.Name "range" p) [a, b] [] pos] [] pos2) Φ :=
  ⟨fun G0 H0 G H σ S Q ok ex pins s I => by
    have na : starEach [.Call (.Name "range" p) [a, b] [] pos] C.X.env = (false, eval (.Call (.Name "range" p) [a, b] [] pos) C.X.env) :: starEach [] C.X.env := rfl
    refine Call_ (ld_blt I hgl (c.nb "list" (by decide +kernel)) boot_list (PyProof.Rows.callWith_type1 (args_cons (thn (prg_2 hg (c.nb "range" (by decide +kernel)) pe_t pe_t hs hs2 hp pins s σ H (fun i j H2 => (j - i).toNat ≤ 1000000 ∧ ∀ q, H2 q = none → Q (.ref q) (upd H2 q (.lst ((List.range (j - i).toNat).map fun (m : Nat) => V.int (i + (m : Int)))))) I
      (h.run G0 H0 G H σ S _ (fun d ρ1 v G1 H1 h1 S1 g1 r1 => h1.run G0 H0 G1 H1 σ S1 _ (fun d2 ρ2 v2 G2 H2 h2 S2 g2 r2 => ?_) (ex.mono g1)) ex)) fun x s1 ⟨r, i, j, t, u, v, H2, e1, hr, I1, ⟨hz, q⟩⟩ => args_nil ?_) na) na))
    · obtain ⟨m, n, rfl, rfl, hz, h2⟩ := h2
      cases r1; cases r2
      refine ⟨m, n, rfl, rfl, hz, fun D hD => ?_⟩
      have hG : G2 D = none := S2.gh.fr hD
      refine ok _ ρ2 D _ G2 _ h2 (S2.layH hD) (g1.tr g2) (S2.h0.fr hD) hG (S2.notIn hD) upd_same ?_
      have := RpA.ints (K := C.X.K) (H := G2) ((List.range (n - m).toNat).map fun (i : Nat) => m + (i : Int))
      rw [List.map_map, List.map_map] at this
      exact this
    · subst e1
      refine kj_list_range (n := (j - i).toNat) (I1.ok.hd c.calm) hr (rsize i j) (by omega) fun h' tk acc c' hk e' hi => ?_
      refine ⟨.ref s1.heap.objs.size, upd H2 s1.heap.objs.size (.lst ((List.range (j - i).toNat).map fun (m : Nat) => V.int (i + (m : Int)))), I1.laid hk (Nat.le_refl _) (show ObjOk C.X.prog C.X.w _ _ _ (.lst _) from ⟨?_, acc.toList, c', vals_rg hi, ?_⟩), rfl, q _ (I1.hok.fresh (Nat.le_refl _))⟩
      · rw [List.length_map, List.length_range, sizeLine_eq]; omega
      · rw [Array.toArray_toList]; exact e'⟩
/-- e.index(n), of a list of ints -/
theorem je_index {e f : Expr} {ap pos : Pos} {Φ : Pd → Rho → Prop} (h : JE C ρ e fun d ρ1 => (∃ ns : List Int, d = .list (ns.map .int)) ∧ JE C ρ1 f fun d2 ρ2 => ∃ (ns : List Int) (n : Int) (j : Nat), d = .list (ns.map .int) ∧ d2 = .int n ∧ ns[j]? = some n ∧ (∀ m, m < j → ns[m]? ≠ some n) ∧ Φ (.int j) ρ2)
    (hb : attributeBase e "index" C.X.env (eval e C.X.env) = eval e C.X.env) (hw : ((backTo pos (starEach [f] C.X.env)).all (fun x => !x.1) && (backToKw pos (keywordEach [] C.X.env)).all (fun x => x.1.isSome) && decide ([f].length + ([] : List Keyword).length + (if ([] : List Keyword).isEmpty then 0 else 1) < 30)) = true)
    (hl : (ap.endLine == pos.line) = true) (hst : starEach [f] C.X.env = (false, eval f C.X.env) :: starEach [] C.X.env) (hp : (backTo pos (starEach [] C.X.env)).any (·.1) = false) : JE C ρ (.Call (.Attribute e "index" ap) [f] [] pos) Φ :=
  ⟨fun G0 H0 G H σ S Q ok ex => t_pe (pe_bm PySem.F.plainAttrs_list PySem.F.slot_list_index PySem.F.type_list_index mt_index pe_t (pa_cons pe_t pa_nil hst) hb hw hl hst hp) (h.run G0 H0 G H σ S _ (fun d ρ1 v G1 H1 h1 S1 g1 r1 => by
    obtain ⟨⟨ns, rfl⟩, h1⟩ := h1
    cases r1 with
    | lst q r =>
      have ev := RpA.of_ints r
      subst ev
      refine ⟨.inl ⟨rfl, _, SqL.of (S1.gh _ _ q)⟩, h1.run G0 H0 G1 H1 σ S1 _ (fun d2 ρ2 v2 G2 H2 h2 S2 g2 r2 => ?_) (ex.mono g1)⟩
      obtain ⟨ms, n, j, e1, rfl, hj, hno, h3⟩ := h2
      have e1 : ns = ms := by
        have := PyData.list.inj e1
        exact (List.map_inj_right fun a b e => by injection e).mp this
      subst e1
      cases r2
      refine ⟨_, ns.map V.int, V.int n, j, V.int n, rfl, rfl, SqL.of (S2.gh _ _ (g2 _ _ q)), rfl, ?_, by rw [List.getElem?_map, hj]; rfl, ?_, fun m z' hm hz => ?_, ok _ _ _ _ _ h3 S2 (g1.tr g2) (.int _)⟩
      · exact List.all_eq_true.mpr fun y hy => by obtain ⟨i, _, rfl⟩ := List.mem_map.mp hy; rfl
      · show (n == n) = true
        exact beq_self_eq_true n
      · rw [List.getElem?_map] at hz
        cases hq : ns[m]? with
        | none => rw [hq] at hz; cases hz
        | some i =>
          rw [hq] at hz
          have ez : z' = V.int i := (Option.some.inj hz).symm
          subst ez
          show (i == n) = false
          exact beq_false_of_ne fun e => hno m hm (by rw [hq, e])) ex)⟩
/-- x op e, x an own list, which stays one's own -/
theorem own_cmp {x : Str} {a : Addr} {w0 : List Pd} {b : Expr} {op : CmpOp} {p : Pos} {Ψ : Bool → Rho → Prop} (c : Jok C k) (l : Lk ρ x (.ow a w0)) (h : JE C ρ b fun d2 ρ2 => ∃ ds, Lk ρ2 x (.ow a ds) ∧ CmpK op (.list ds) d2 fun z => Ψ z ρ2)
    {G0 H0 G H : Hp} {σ : L2.St} (S : SttC C G0 H0 G H σ ρ) {Q : VK} (ok : ∀ z ρ2 G2 H2, Ψ z ρ2 → SttC C G0 H0 G2 H2 σ ρ2 → Ex G G2 → Q (.bl z) H2) (ex : exE C G0 H0 G σ) (hv : visB C.X.env.scope x = true) (hd : (x == ("__debug__" : Str)) = false) (hc : (x == ("__classdict__" : Str)) = false) :
    tE C.X (.Name x p) σ H (fun v H1 => tE C.X b σ H1 fun u H2 => rO C.X (compareOp op) v u H2 Q) :=
  name_ow l S (fun vs q r => h.run G0 H0 G H σ S _ (fun d2 ρ2 v2 G2 H2 ⟨ds, lk, h2⟩ S2 g2 r2 => by
    obtain ⟨i, hi⟩ := lk.at
    obtain ⟨_, ws, qa, ra⟩ := S2.ok i _ hi
    exact cmp_okG c.room h2 (Ex.rfl' H2) (.lst qa (ra.mono S2.gh)) (r2.mono S2.gh) fun z hz => ok z ρ2 G2 H2 hz S2 g2) ex) hv hd hc
theorem je_cmpo {x : Str} {a : Addr} {w0 : List Pd} {b : Expr} {op : CmpOp} {p pos : Pos} {Φ : Pd → Rho → Prop} (c : Jok C k) (l : Lk ρ x (.ow a w0)) (h : JE C ρ b fun d2 ρ2 => ∃ ds, Lk ρ2 x (.ow a ds) ∧ CmpK op (.list ds) d2 fun z => Φ (.bool z) ρ2) (hm : behindInMarks op b = false)
    (hv : visB C.X.env.scope x = true) (hd : (x == ("__debug__" : Str)) = false) (hc : (x == ("__classdict__" : Str)) = false) : JE C ρ (.Compare (.Name x p) [op] [b] pos) Φ :=
  ⟨fun G0 H0 G H σ S Q ok ex => t_pe (pe_cmpR op_t pe_t pe_t hm) (own_cmp c l h S (fun z ρ2 G2 H2 hz S2 g2 => ok _ ρ2 _ G2 H2 hz S2 g2 (.bl _)) ex hv hd hc)⟩
theorem jt_cmpo {x : Str} {a : Addr} {w0 : List Pd} {b : Expr} {op : CmpOp} {p pos : Pos} {Φ : Bool → Rho → Prop} (c : Jok C k) (l : Lk ρ x (.ow a w0)) (h : JE C ρ b fun d2 ρ2 => ∃ ds, Lk ρ2 x (.ow a ds) ∧ CmpK op (.list ds) d2 fun z => Φ z ρ2) (hm : behindInMarks op b = false)
    (hv : visB C.X.env.scope x = true) (hd : (x == ("__debug__" : Str)) = false) (hc : (x == ("__classdict__" : Str)) = false) : JT C ρ (.Compare (.Name x p) [op] [b] pos) Φ :=
  ⟨fun G0 H0 G H σ S Q ok ex => t_pt (pt_cmpR op_t pe_t pe_t hm) (own_cmp c l h S (fun z ρ2 G2 H2 hz S2 g2 => ⟨z, rfl, ok _ ρ2 G2 H2 hz S2 g2⟩) ex hv hd hc)⟩
/-- isinstance(x, T), x an own list -/
theorem je_isO {T : String} {x y : Str} {a : Addr} {ds : List Pd} {b : Bool} {p p1 p2 pos : Pos} {Φ : Pd → Rho → Prop} (c : Jok C k) (l : Lk ρ x (.ow a ds)) (hx : bl.contains y = true) (hv : bootBuiltins y = some (.type T)) (hk : kitB "list" T = some b) (h : Φ (.bool b) ρ)
    (hg : Gl C.X "isinstance") (hg2 : Gl C.X y) (hn : y ≠ "__name__") (hd : (y == ("__debug__" : Str)) = false) (hvis : visB C.X.env.scope x = true) (hdx : (x == ("__debug__" : Str)) = false) (hcx : (x == ("__classdict__" : Str)) = false) :
    JE C ρ (.Call (.Name "isinstance" p) [.Name x p1, .Name y p2] [] pos) Φ :=
  ⟨fun G0 H0 G H σ S Q ok ex => t_pe (pe_callB call_isi hg (c.nb "isinstance" (by decide +kernel)) PyProof.Rows.boot_isinstance (pa_cons pe_t (pa_cons (pe_bltn (v := .ty T) hg2 (c.nb y hx) hv rfl hn hd) pa_nil))) (name_ow l S (fun vs q r =>
    ⟨.ref a, .ty T, _, _, _, rfl, .ty T, (Rp.lst q (r.mono S.gh)).ty, kit_ty hk, ok _ _ _ _ _ h S (Ex.rfl' G) (.bl _)⟩) hvis hdx hcx)⟩
end
end KJ

set_option Elab.async false
set_option linter.all false
set_option maxRecDepth 100000
set_option maxHeartbeats 4100000
/-! J14: sums, the greatest, the least, sorted lists of any data, tuples of ints and texts of unlike kinds too. -/
namespace KJ
open PySem PySem.Spec L2 PyProof.Rows
/-! ### rows: tuples of ints and texts that can be compared -/
def atomD : Pd → Bool
  | .int _ => true
  | .str _ => true
  | _ => false
/-- of one kind, place by place, as far as they are the same and one on -/
def alikeW : List Pd → List Pd → Bool
  | x :: xs, y :: ys => PySem.W.alike x y && (!PyData.eqv x y || alikeW xs ys)
  | _, _ => true
structure RowsD (ds : List Pd) : Prop where
  tup : ∀ d ∈ ds, ∃ (x : Str) (r : List Pd), d = .tuple (.str x :: r) ∧ r.all atomD = true
  cmp : ∀ xs ys, PyData.tuple xs ∈ ds → PyData.tuple ys ∈ ds → alikeW xs ys = true
theorem atom_one {h : Heap} {v : Value} {d d' : Pd} {as bs : List Addr} (hd : atomD d = true) (hd' : atomD d' = true) (r : Reads h v d as) (r' : Reads h v d' bs) : d = d' := by
  cases d <;> first | cases hd; done | skip
  all_goals
    cases d' <;> first | cases hd'; done | skip
    all_goals (cases r; cases r'; first | rfl | done)
theorem atoms_one {h : Heap} : ∀ {xs ys : List Pd} {vs : List Value} {as bs : List Addr}, xs.all atomD = true → ys.all atomD = true → ReadsAll h vs xs as → ReadsAll h vs ys bs → xs = ys
  | [], ys, vs, as, bs, _, _, r, r' => by cases r; cases r'; rfl
  | x :: xs, [], vs, as, bs, _, _, r, r' => by cases r'; cases r
  | x :: xs, y :: ys, vs, as, bs, hx, hy, r, r' => by
    rw [List.all_cons, Bool.and_eq_true] at hx hy
    cases r with
    | cons r1 r2 =>
      cases r' with
      | cons k1 k2 => rw [atom_one hx.1 hy.1 r1 k1, atoms_one hx.2 hy.2 r2 k2]
theorem RowsD.one {ds : List Pd} (R : RowsD ds) {h : Heap} {v : Value} {d d' : Pd} {as bs : List Addr} (hd : d ∈ ds) (hd' : d' ∈ ds) (r : Reads h v d as) (r' : Reads h v d' bs) : d = d' := by
  obtain ⟨x, xs, rfl, hx⟩ := R.tup d hd
  obtain ⟨y, ys, rfl, hy⟩ := R.tup d' hd'
  cases r with
  | tuple h1 h2 h3 h4 =>
    cases r' with
    | tuple k1 k2 k3 k4 =>
      rw [h1] at k1; cases k1
      rw [h3] at k3; cases k3
      exact congrArg PyData.tuple (atoms_one (by rw [List.all_cons, hx]; rfl) (by rw [List.all_cons, hy]; rfl) h4 k4)
theorem RowsD.key {ds : List Pd} (R : RowsD ds) {h : Heap} {v : Value} {d : Pd} {as : List Addr} (hd : d ∈ ds) (r : Reads h v d as) : (PySem.W.dataKind h ds).keyOf v = some (PySem.W.keyToks d) := by
  cases e : (PySem.W.dataKind h ds).keyOf v with
  | none =>
    exfalso
    have q : ∃ d, d ∈ ds ∧ ∃ as, Reads h v d as := ⟨d, hd, as, r⟩ --k
    unfold PySem.W.dataKind at e
    simp only [dif_pos q] at e
    cases e
  | some k =>
    obtain ⟨d', as', hd', r', rfl⟩ := PySem.W.dataKind_inv e
    have e3 := R.one hd' hd r' r
    subst e3
    rfl
section
variable {prog : Program} {w : World} {A : Around} {E : Value → Shared → Prop} {s : Shared} --k
theorem katLex_w {b fin : Bool} {Q : Bool → Shared → Prop} : ∀ (xs ys : List Pd) (i : Nat) (vs ws : List Value) (as bs : List Addr), ReadsAll s.heap vs xs as → ReadsAll s.heap ws ys bs → alikeW xs ys = true →
    A.units + min (PyData.depthAll xs) (PyData.depthAll ys) < cLine → (b = true → i = 0 → ∀ x r t, xs = x :: r → x ≠ .tuple t) → fin = decide (xs.length < ys.length) → Q (PyProof.Rows.lexLt itemOrd (PySem.W.keyToksAll xs) (PySem.W.keyToksAll ys)) s → PySem.W.KatLex prog w A b fin Q (vs.zip ws) i s
  | [], [], i, vs, ws, as, bs, ra, rb, _, hu, hb, hf, hq => PySem.W.katLex_alike [] [] i vs ws as bs ra rb rfl hu hb hf hq
  | [], y :: ys, i, vs, ws, as, bs, ra, rb, _, hu, hb, hf, hq => PySem.W.katLex_alike [] (y :: ys) i vs ws as bs ra rb rfl hu hb hf hq
  | x :: xs, [], i, vs, ws, as, bs, ra, rb, _, hu, hb, hf, hq => PySem.W.katLex_alike (x :: xs) [] i vs ws as bs ra rb rfl hu hb hf hq
  | x :: xs, y :: ys, i, vs, ws, as, bs, ra, rb, h, hu, hb, hf, hq => by
    have h : (PySem.W.alike x y && (!PyData.eqv x y || alikeW xs ys)) = true := h
    rw [Bool.and_eq_true] at h
    obtain ⟨h1, h2⟩ := h
    cases ra with
    | cons r rs =>
      cases rb with
      | cons r' rs' =>
        rw [List.zip_cons_cons]
        refine PySem.W.kat_cons (PySem.W.eqAt_alike x y A s _ _ _ _ r r' h1 (PySem.SeqAt.room_head hu) prog w _ _ ?_)
        cases hx : PyData.eqv x y with --k
        | true =>
          rw [PySem.W.dataLt_all_yes h1 hx] at hq
          rw [hx] at h2
          exact PySem.W.kat_yes (katLex_w xs ys (i + 1) _ _ _ _ rs rs' h2 (PySem.SeqAt.room_tail hu) (fun _ hi => absurd hi (Nat.succ_ne_zero i)) (by rw [hf]; simp only [List.length_cons, Nat.add_lt_add_iff_right]) hq)
        | false =>
          rw [PySem.W.dataLt_all_no h1 hx] at hq
          refine PySem.W.kat_no (PySem.W.oneLt_alike (fun hbi t => ?_) r r' h1 (PySem.W.ne_none_of h1 hx) (PySem.SeqAt.room_head hu) hq)
          rw [Bool.and_eq_true] at hbi
          exact hb hbi.1 (by simpa using hbi.2) x xs t rfl --k
/-- values that read as rows can be sorted -/
theorem sortsAt_rows {vs : List Value} {ds : List Pd} (e : PySem.W.EachIs (fun v d => ∃ as, Reads s.heap v d as) vs ds) (R : RowsD ds) (hu : ∀ d, d ∈ ds → A.units + d.depth < cLine) : PySem.W.SortsAt prog w A s (PySem.W.dataKind s.heap ds) vs := by
  refine ⟨fun v hv => ?_, ?_⟩
  · obtain ⟨d, hd, as, r⟩ := e.left v hv --k
    exact ⟨_, R.key hd r⟩
  · refine ⟨tuples' true, ?_, fun h2 E Q hq => ?_⟩
    · intro E x y a b Q ha hb hq
      obtain ⟨d, as, hd, ra, rfl⟩ := PySem.W.dataKind_inv ha
      obtain ⟨d', as', hd', rb, rfl⟩ := PySem.W.dataKind_inv hb
      have hroom : A.units + min d.depth d'.depth < cLine := Nat.lt_of_le_of_lt (Nat.add_le_add_left (Nat.min_le_left _ _) _) (hu d hd)
      obtain ⟨x1, r1, rfl, a1⟩ := R.tup d hd
      obtain ⟨x2, r2, rfl, a2⟩ := R.tup d' hd'
      have hq' : Q (PySem.W.dataLt (.tuple (.str x1 :: r1)) (.tuple (.str x2 :: r2))) s := hq
      rw [PySem.W.dataLt_tuple] at hq'
      cases ra with
      | @tuple l o xs n _ _ h1 h2 h3 h4 => --k
        cases rb with
        | @tuple l' o' xs' n' _ _ k1 k2 k3 k4 => --k
          have n1 : xs.size = ((.str x1 :: r1 : List Pd)).length := by simpa using PySem.SeqAt.ReadsAll.length _ _ _ h4
          have n2 : xs'.size = ((.str x2 :: r2 : List Pd)).length := by simpa using PySem.SeqAt.ReadsAll.length _ _ _ k4
          refine PySem.W.kat_lt h1 h3 k1 k3 (katLex_w (.str x1 :: r1) (.str x2 :: r2) 0 _ _ _ _ h4 k4 (R.cmp _ _ hd hd') (by have q := PySem.SeqAt.room_in hroom; omega) (fun _ _ x r t ex => ?_) (by rw [n1, n2]) hq')
          obtain ⟨rfl, rfl⟩ := List.cons.inj ex --k
          exact fun z => by cases z
    · obtain ⟨fs, t1, t2, t3⟩ := PySem.W.each_katTups e fun d hd => by
        obtain ⟨x, r, rfl, _⟩ := R.tup d hd
        exact ⟨_, _, rfl⟩
      refine PySem.W.kat_kind (T := .type "str") t1 (by omega) (fun f hf => ?_) (by decide) hq
      obtain ⟨x, r, as, m1, m2⟩ := t3 f hf --k
      obtain ⟨y, r', e1, _⟩ := R.tup _ m1
      injection e1 with e1
      obtain ⟨rfl, rfl⟩ := List.cons.inj e1
      exact PySem.W.looks_reads m2
/-- sorted(rows) -/
theorem sorted_rows {l : Addr} {R : Value → Pd → Prop} {vs : List Value} {ds : List Pd} {Q : Value → Shared → Prop} (hl : s.heap.IsList l vs.toArray) (e : PySem.W.EachIs R vs ds) (er : PySem.W.EachIs (fun v d => ∃ as, Reads s.heap v d as) vs ds) (hk : RowsD ds) (hL : ds.length ≤ sizeLine)
    (hu : ∀ d, d ∈ ds → A.units + 2 + d.depth < cLine) (h : ∀ out, out.length = ds.length → PySem.W.EachIs R out (ds.mergeSort (PySem.W.dataLe false id)) → Q (.ref (s.heap.objs.size + 1)) { s with heap := sortedAll s.heap vs (List.toArray out) }) :
    wpAny (model prog w) A (call (.builtin "sorted") [.ref l]) Q E s := by --k
  have er' : PySem.W.EachIs (fun v d => ∃ as, Reads (PySem.W.sortingHeap (PySem.W.copyHeap s.heap vs) (s.heap.objs.size + 1) vs) v d as) vs ds := er.mono fun _ _ ⟨as, r⟩ => ⟨as, PyProof.Rows.Reads.keeps (fun _ _ => PySem.W.sorting_copy_old) r⟩
  refine PySem.W.sorted_vals hl (sortsAt_rows (s := { s with heap := PySem.W.sortingHeap (PySem.W.copyHeap s.heap vs) (s.heap.objs.size + 1) vs }) er' hk (fun d hd => hu d hd)) (by rw [e.length]; exact hL) (h _ (by rw [PySem.W.sortVals_length false rfl]; exact e.length) ?_)
  exact PySem.W.sortVals_each (κ := PySem.W.dataKind _ ds) (fun d => PySem.W.keyToks d) e ((PySem.W.each_mem er').mono fun v d ⟨⟨as, r⟩, hd⟩ => hk.key hd r)
end
/-! ### data sorted -/
def sortD (xs : List Pd) : List Pd := xs.mergeSort (PySem.W.dataLe false id)
structure SrtOk (xs : List Pd) : Prop where
  k : (PySem.W.AllAlike xs ∧ PySem.W.Sortable xs) ∨ RowsD xs
  pl : PyData.plainAll xs = true
  len : xs.length ≤ 1000000
  dep : ∀ d ∈ xs, d.depth ≤ 60
theorem RpA.each {K : Fg} {H : Hp} : ∀ {us : List V} {ds : List Pd} {vs : List Value}, RpA K H us ds → Vals us vs → PySem.W.EachIs (fun v d => ∃ u, RelV u v ∧ Rp K H u d) vs ds
  | _, _, _, .nil, .nil => .nil
  | _, _, _, .cons r rs, .cons q qs => .cons ⟨_, q, r⟩ (RpA.each rs qs)
theorem each_back {K : Fg} {H : Hp} : ∀ {vs : List Value} {ds : List Pd}, PySem.W.EachIs (fun v d => ∃ u, RelV u v ∧ Rp K H u d) vs ds → ∃ us, Vals us vs ∧ RpA K H us ds
  | _, _, .nil => ⟨[], .nil, .nil⟩
  | _, _, .cons ⟨u, r, q⟩ t => by
    obtain ⟨us, h1, h2⟩ := each_back t
    exact ⟨u :: us, .cons r h1, .cons q h2⟩
def rSortD (K : Fg) (G : Hp) : List V → Hp → VK → Prop := fun vs H Q => ∃ (a : Addr) (us : List V) (ds : List Pd), vs = [V.ref a] ∧ SqL K H a us ∧ Ex G H ∧ RpA K G us ds ∧ SrtOk ds ∧ ∀ (us' : List V) (p : Addr), RpA K G us' (sortD ds) → H p = none → Q (.ref p) (upd H p (.lst us'))
theorem cr_sortD {X : Cx} {G : Hp} {k : Nat} (hr : Room k X.A) : CallR X (.builtin "sorted") (rSortD X.K G) := by
  intro pins s σ H vs us Q I r h --k
  obtain ⟨a, ws, ds, rfl, hs, g, ra, hk, q⟩ := h
  obtain ⟨its, rv, hl, _⟩ := I.list hs --k
  rw [Vals.ref1 r]
  have e1 := ra.each rv
  have er : PySem.W.EachIs (fun v d => ∃ as, Reads s.heap v d as) its ds := by
    have key : ∀ {vs : List Value} {ds : List Pd}, PyData.plainAll ds = true → PySem.W.EachIs (fun v d => ∃ u, RelV u v ∧ Rp X.K G u d) vs ds → PySem.W.EachIs (fun v d => ∃ as, Reads s.heap v d as) vs ds := by
      intro vs ds hp h
      induction h with
      | nil => exact .nil
      | cons h _ ih =>
        obtain ⟨u, h1, h2⟩ := h
        obtain ⟨p1, p2⟩ := Bool.and_eq_true_iff.mp hp
        exact .cons (rds I g h2 p1 h1) (ih p2)
    exact key hk.pl e1
  have hline : ds.length ≤ sizeLine := Nat.le_trans hk.len (by rw [sizeLine_eq]; decide)
  have hu : ∀ d ∈ ds, X.A.units + 2 + d.depth < cLine := fun d hd => by
    have := hk.dep d hd
    have := hr.units
    omega
  have fin : ∀ out : List Value, out.length = ds.length → PySem.W.EachIs (fun v d => ∃ u, RelV u v ∧ Rp X.K G u d) out (sortD ds) → EP X pins σ Q (.ref (s.heap.objs.size + 1)) { s with heap := sortedAll s.heap its (List.toArray out) } := fun out hl2 h => by
    obtain ⟨us', h1, h2⟩ := each_back h
    obtain ⟨ep, he'⟩ := PyProof.Rows.sortedAll_at s.heap its (List.toArray out)
    have hlen : us'.length ≤ sizeLine := by
      rw [h2.len]
      unfold sortD
      rw [List.length_mergeSort]; exact hline
    exact ⟨.ref _, upd H (s.heap.objs.size + 1) (.lst us'), I.laid (t' := s.toks) (fun _ _ => PyProof.Rows.sortedAll_old) (Nat.le_succ _) ⟨hlen, out, ep, h1, he'⟩, rfl, q us' _ h2 (I.hok.fresh (Nat.le_succ _))⟩
  rcases hk.k with ⟨h1, h2⟩ | h1
  · exact PySem.W.sorted_data (enc := id) hl.isList e1 er (by rw [List.map_id]; exact h1) (by rw [List.map_id]; exact h2) hline hu fin
  · exact sorted_rows hl.isList e1 er h1 hline hu fin
section
variable {C : Jc} {ρ : Rho} {k : Nat}
theorem jf_sorted {p pos : Pos} {e : Expr} {Φ : List Pd → Rho → Prop} (c : Jok C k) (h : JE C ρ e fun d ρ1 => ∃ ds, d = .list ds ∧ SrtOk ds ∧ Φ (sortD ds) ρ1) (hg : Gl C.X "sorted") (hs : starEach [e] C.X.env = (false, eval e C.X.env) :: starEach [] C.X.env) :
    JF C ρ (.Call (.Name "sorted" p) [e] [] pos) Φ :=
  ⟨fun G0 H0 G H σ S Q ok ex => t_pe (pe_callB ca_t hg (c.nb "sorted" (by decide +kernel)) boot_sorted (pa_cons pe_t pa_nil hs) (he := hs)) (h.run G0 H0 G H σ S _ (fun d ρ1 v G1 H1 h1 S1 g1 r1 => by
    obtain ⟨ds, rfl, hk, h1⟩ := h1
    cases r1 with
    | lst q r => exact t_ca (cr_sortD c.room) ⟨_, _, _, rfl, SqL.of (S1.gh _ _ q), S1.gh, r, hk, fun us' p hr hp => ok _ _ _ _ _ _ h1 (S1.layH hp) g1 (S1.h0.fr hp) (S1.gh.fr hp) (S1.notIn hp) upd_same hr⟩) ex)⟩
theorem je_bi1 {x : Str} {id : String} {p pos : Pos} {e : Expr} {Φ : Pd → Rho → Prop} {B : Pd → (Pd → Prop) → Prop} (c : Jok C k) (hx : bl.contains x = true) (hv : bootBuiltins x = some (.builtin id))
    (rule : ∀ {G0 H0 G H : Hp} {σ : L2.St} {d : Pd} {ρ1 : Rho} {v : V} {Q : VK}, B d (fun z => Φ z ρ1) → SttC C G0 H0 G H σ ρ1 → Rp C.X.K G v d → okE C G0 H0 G σ Φ Q → rC C.X (.builtin id) [v] H Q)
    (h : JE C ρ e fun d ρ1 => B d fun z => Φ z ρ1) (hg : Gl C.X x) (hs : starEach [e] C.X.env = (false, eval e C.X.env) :: starEach [] C.X.env) (hn : x ≠ "__name__" := by decide +kernel) (hd : (x == ("__debug__" : Str)) = false := by decide +kernel) : JE C ρ (.Call (.Name x p) [e] [] pos) Φ :=
  je_bi (B := fun ds ρ1 => ∃ d, ds = [d] ∧ B d fun z => Φ z ρ1) c hx hv (fun {G0 H0 G H σ ds ρ1 vs Q} hB S r ok => by
    obtain ⟨d, rfl, hB⟩ := hB
    obtain ⟨v, rfl, rr⟩ := r.inv1
    exact rule hB S rr ok) (ja1 (h.imp fun d ρ1 q => ⟨d, rfl, q⟩) hs) hg hs rfl hn hd
def IntsK (d : Pd) (Φ : List Int → Prop) : Prop := ∃ ns : List Int, d = .list (ns.map .int) ∧ Φ ns
theorem je_sum {p pos : Pos} {e : Expr} {Φ : Pd → Rho → Prop} (c : Jok C k) (h : JE C ρ e fun d ρ1 => IntsK d fun ns => Φ (.int ns.sum) ρ1) (hg : Gl C.X "sum") (hs : starEach [e] C.X.env = (false, eval e C.X.env) :: starEach [] C.X.env) : JE C ρ (.Call (.Name "sum" p) [e] [] pos) Φ :=
  je_bi1 (B := fun d Ψ => IntsK d fun ns => Ψ (.int ns.sum)) c (by decide +kernel) PyProof.Rows.boot_sum (fun {G0 H0 G H σ d ρ1 v Q} hB S r ok => by
    obtain ⟨ns, rfl, hB⟩ := hB
    cases r with
    | lst q r3 =>
      have e2 := r3.of_ints
      subst e2
      exact t_ca (cr_sum c.calm) ⟨_, ns, rfl, SqL.of (S.gh _ _ q), ok _ _ _ _ _ hB S (Ex.rfl' G) (.int _)⟩) h hg hs
theorem je_max1 {p pos : Pos} {e : Expr} {Φ : Pd → Rho → Prop} (c : Jok C k) (h : JE C ρ e fun d ρ1 => IntsK d fun ns => ns ≠ [] ∧ ∀ m, m ∈ ns → (∀ y ∈ ns, y ≤ m) → Φ (.int m) ρ1) (hg : Gl C.X "max") (hs : starEach [e] C.X.env = (false, eval e C.X.env) :: starEach [] C.X.env) : JE C ρ (.Call (.Name "max" p) [e] [] pos) Φ :=
  je_bi1 (B := fun d Ψ => IntsK d fun ns => ns ≠ [] ∧ ∀ m, m ∈ ns → (∀ y ∈ ns, y ≤ m) → Ψ (.int m)) c (by decide +kernel) PyProof.Rows.boot_max (fun {G0 H0 G H σ d ρ1 v Q} hB S r ok => by
    obtain ⟨ns, rfl, hne, hB⟩ := hB
    cases r with
    | lst q r3 =>
      have e2 := r3.of_ints
      subst e2
      exact t_ca (cr_max c.calm) ⟨_, ns, rfl, SqL.of (S.gh _ _ q), List.length_pos_iff.mpr hne, fun m h1 h2 => ok _ _ _ _ _ (hB m h1 h2) S (Ex.rfl' G) (.int _)⟩) h hg hs
theorem je_min1 {p pos : Pos} {e : Expr} {Φ : Pd → Rho → Prop} (c : Jok C k) (h : JE C ρ e fun d ρ1 => IntsK d fun ns => ns ≠ [] ∧ ∀ m, m ∈ ns → (∀ y ∈ ns, m ≤ y) → Φ (.int m) ρ1) (hg : Gl C.X "min") (hs : starEach [e] C.X.env = (false, eval e C.X.env) :: starEach [] C.X.env) : JE C ρ (.Call (.Name "min" p) [e] [] pos) Φ :=
  je_bi1 (B := fun d Ψ => IntsK d fun ns => ns ≠ [] ∧ ∀ m, m ∈ ns → (∀ y ∈ ns, m ≤ y) → Ψ (.int m)) c (by decide +kernel) PyProof.Rows.boot_min (fun {G0 H0 G H σ d ρ1 v Q} hB S r ok => by
    obtain ⟨ns, rfl, hne, hB⟩ := hB
    cases r with
    | lst q r3 =>
      have e2 := r3.of_ints
      subst e2
      exact t_ca (cr_min c.calm) ⟨_, ns, rfl, SqL.of (S.gh _ _ q), List.length_pos_iff.mpr hne, fun m h1 h2 => ok _ _ _ _ _ (hB m h1 h2) S (Ex.rfl' G) (.int _)⟩) h hg hs
theorem je_abs {p pos : Pos} {e : Expr} {Φ : Pd → Rho → Prop} (c : Jok C k) (h : JE C ρ e fun d ρ1 => ∃ i : Int, d = .int i ∧ Φ (.int (if i < 0 then -i else i)) ρ1) (hg : Gl C.X "abs") (hs : starEach [e] C.X.env = (false, eval e C.X.env) :: starEach [] C.X.env) : JE C ρ (.Call (.Name "abs" p) [e] [] pos) Φ :=
  je_bi1 (B := fun d Ψ => ∃ i : Int, d = .int i ∧ Ψ (.int (if i < 0 then -i else i))) c (by decide +kernel) PyProof.Rows.boot_abs (fun {G0 H0 G H σ d ρ1 v Q} hB S r ok => by
    obtain ⟨i, rfl, hB⟩ := hB
    cases r
    exact t_ca call_abs ⟨i, rfl, ok _ _ _ _ _ hB S (Ex.rfl' G) (.int _)⟩) h hg hs
/-- list(range(n)) -/
theorem jf_lrng1 {b : Expr} {p p2 pos pos2 : Pos} {Φ : List Pd → Rho → Prop} (c : Jok C k) (h : JE C ρ b fun d2 ρ2 => ∃ n : Int, d2 = .int n ∧ n.toNat ≤ 1000000 ∧ Φ (rng 0 n.toNat) ρ2) (hg : Gl C.X "range") (hgl : Gl C.X "list")
    (hs2 : starEach [b] C.X.env = (false, eval b C.X.env) :: starEach [] C.X.env) : JF C ρ (.Call (.Name "list" p2) [.Call (.Name "range" p) [b] [] pos] [] pos2) Φ :=
  ⟨fun G0 H0 G H σ S Q ok ex pins s I => by
    have na : starEach [.Call (.Name "range" p) [b] [] pos] C.X.env = (false, eval (.Call (.Name "range" p) [b] [] pos) C.X.env) :: starEach [] C.X.env := rfl
    refine Call_ (ld_blt I hgl (c.nb "list" (by decide +kernel)) boot_list (PyProof.Rows.callWith_type1 (args_cons (thn (prg_1 hg (c.nb "range" (by decide +kernel)) pe_t hs2 pins s σ H (fun i j H2 => (j - i).toNat ≤ 1000000 ∧ ∀ q, H2 q = none → Q (.ref q) (upd H2 q (.lst ((List.range (j - i).toNat).map fun (m : Nat) => V.int (i + (m : Int)))))) I
      (h.run G0 H0 G H σ S _ (fun d2 ρ2 v2 G2 H2 h2 S2 g2 r2 => ?_) ex)) fun x s1 ⟨r, i, j, t, u, v, H2, e1, hr, I1, ⟨hz, q⟩⟩ => args_nil ?_) na) na))
    · obtain ⟨n, rfl, hz, h2⟩ := h2
      cases r2
      refine ⟨n, rfl, by rw [Int.sub_zero]; exact hz, fun D hD => ?_⟩
      have hG : G2 D = none := S2.gh.fr hD
      refine ok _ ρ2 D _ G2 _ h2 (S2.layH hD) g2 (S2.h0.fr hD) hG (S2.notIn hD) upd_same ?_
      have := RpA.ints (K := C.X.K) (H := G2) ((List.range n.toNat).map fun (i : Nat) => (0 : Int) + (i : Int))
      rw [List.map_map, List.map_map] at this
      rw [Int.sub_zero]
      exact this
    · subst e1
      refine kj_list_range (n := (j - i).toNat) (I1.ok.hd c.calm) hr (rsize i j) (by omega) fun h' tk acc c' hk e' hi => ?_
      refine ⟨.ref s1.heap.objs.size, upd H2 s1.heap.objs.size (.lst ((List.range (j - i).toNat).map fun (m : Nat) => V.int (i + (m : Int)))), I1.laid hk (Nat.le_refl _) (show ObjOk C.X.prog C.X.w _ _ _ (.lst _) from ⟨?_, acc.toList, c', vals_rg hi, ?_⟩), rfl, q _ (I1.hok.fresh (Nat.le_refl _))⟩
      · rw [List.length_map, List.length_range, sizeLine_eq]; omega
      · rw [Array.toArray_toList]; exact e'⟩
end
end KJ

set_option Elab.async false
set_option linter.all false
set_option maxRecDepth 100000
set_option maxHeartbeats 4100000
/-! K1: a small language of one's own for what stands in a def, and what must hold ahead of it. -/
namespace KJ
open PySem PySem.Spec L2 PyProof.Rows
/-! ### names' slots by place -/
def getS : Rho → Nat → Sl
  | [], _ => .no
  | p :: _, 0 => p.2
  | _ :: r, n + 1 => getS r n
def putS : Rho → Nat → Sl → Rho
  | [], _, _ => []
  | p :: r, 0, s => (p.1, s) :: r
  | p :: r, n + 1, s => p :: putS r n s
def nt {α : Type} : List α → Nat → Option α
  | [], _ => none
  | x :: _, 0 => some x
  | _ :: r, n + 1 => nt r n
/-! ### what a def promises -/ --k
inductive Fsp where
  | d (n : Nat) (S : Sd) (dl : List Pd)
  | i (n : Nat) (S : Si) (dl : List Pd)
  | q (n : Nat) (S : Sq) (dl : List Pd)
  | no
structure Tb where
  fs : List (Str × Fsp)
  gs : List (Str × Pd)
  xs : List (Str × Addr)
inductive B1 where
  | all | any | toint | str | tup | len | sum | max | min | abs
inductive B2 where
  | max | min | divmod
inductive Ty where
  | str | int | bool | tup | lst
mutual
inductive IE where
  | v (i : Nat)
  | g (i : Nat)
  | int (i : Int)
  | str (x : Str)
  | bl (b : Bool)
  | non
  | cmp (op : CmpOp) (a b : IE)
  | chn (op op' : CmpOp) (a b c : IE)
  | bin (op : Operator) (a b : IE)
  | neg (a : IE)
  | and (a b : IE)
  | or (a b : IE)
  | one (a : IE)
  | not (a : IE)
  | ife (t a b : IE)
  | tup (a : IA)
  | lst (a : IA)
  | sub (a b : IE)
  | subv (i : Nat) (b : IE)
  | sl (a : IE) (lo hi : IO)
  | slv (i : Nat) (lo hi : IO)
  | rev (a : IE)
  | lenv (i : Nat)
  | b1 (f : B1) (a : IE)
  | lsto (a : IE)
  | b2 (f : B2) (a b : IE)
  | isi (T : Ty) (a : IE)
  | nilv (i : Nat)
  | join (y : Str) (a : IE)
  | popa (i : Nat) (a : IE)
  | call (i : Nat) (a : IA)
  | calli (i j : Nat) (a : IA)
  | callq (i j : Nat) (a : IA)
  | lc (j : Nat) (it elt : IE)
  | lcif (j : Nat) (it t elt : IE)
  | lcs (j : Nat) (it elt : IE)
  | lcsif (j : Nat) (it t elt : IE)
  | rng (a : IE)
  | rng2 (a b : IE)
  | lrng (a b : IE)
  | idx (a b : IE)
  | cmpo (op : CmpOp) (i : Nat) (b : IE)
  | isio (T : Ty) (i : Nat)
  | srt (a : IE)
  | lrng1 (a : IE)
inductive IA where
  | nil
  | cons (e : IE) (r : IA)
inductive IO where
  | non
  | som (e : IE)
end
abbrev Xi := Xn → Rho → Prop
abbrev WE := Xi → Rho → (Pd → Rho → Prop) → Prop
abbrev WF := Xi → Rho → (List Pd → Rho → Prop) → Prop
abbrev WT := Xi → Rho → (Bool → Rho → Prop) → Prop
abbrev WO := Xi → Rho → (Option Int → Rho → Prop) → Prop
structure SE where
  e : WE
  f : WF
  t : WT
  it : WF
def noX : Xi := fun _ _ => False
/-! ### data as one of a kind -/
def IntE (d : Pd) (Φ : Int → Prop) : Prop := match d with
  | .int i => Φ i
  | _ => False
def BoolE (d : Pd) (Φ : Bool → Prop) : Prop := match d with
  | .bool i => Φ i
  | _ => False
def ListE (d : Pd) (Φ : List Pd → Prop) : Prop := match d with
  | .list i => Φ i
  | _ => False
def IterK (d : Pd) (Φ : List Pd → Prop) : Prop := match d with
  | .list ds => Φ ds
  | .tuple ds => Φ ds
  | .str x => Φ (signs x)
  | _ => False
def AtK (xs : List Pd) (n : Int) (Φ : Pd → Prop) : Prop := match L2.atI xs n with
  | some z => Φ z
  | none => False
def SubE (d e : Pd) (Φ : Pd → Prop) : Prop := match d, e with
  | .list xs, .int i => AtK xs i Φ
  | .tuple xs, .int i => AtK xs i Φ
  | .str x, .int i => x.length ≤ sizeLine ∧ ∃ c, L2.atI x.cps.toList i = some c ∧ Φ (.str ⟨#[c]⟩)
  | _, _ => False
/-- d == e, of any data -/
@[irreducible] def EqK (d e : Pd) (Φ : Bool → Prop) : Prop := (d.plain = true ∧ e.plain = true ∧ smallD d e) ∧ Φ (PyData.eqv d e)
/-- d in c, whose things are xs -/
@[irreducible] def InK (c : Pd) (xs : List Pd) (d : Pd) (Φ : Bool → Prop) : Prop := (d.plain = true ∧ PyData.plainAll xs = true ∧ smallD c d) ∧ Φ (xs.any fun z => PyData.eqv z d)
@[irreducible] def LtK (d e : Pd) (Φ : Bool → Prop) : Prop := (d.plain = true ∧ e.plain = true ∧ smallD d e ∧ PySem.W.alike d e = true ∧ d ≠ .none) ∧ Φ (PySem.W.dataLt d e)
def CmpE (op : CmpOp) (d e : Pd) (Φ : Bool → Prop) : Prop := match op, d, e with
  | .Lt, .int i, .int j => Φ (decide (i < j))
  | .LtE, .int i, .int j => Φ (decide (i ≤ j))
  | .Gt, .int i, .int j => Φ (decide (j < i))
  | .GtE, .int i, .int j => Φ (decide (j ≤ i))
  | .Eq, .int i, .int j => Φ (decide (i = j))
  | .NotEq, .int i, .int j => Φ (!decide (i = j))
  | .Eq, .str i, .str j => Φ (decide (i = j))
  | .NotEq, .str i, .str j => Φ (!decide (i = j))
  | .Eq, .bool i, .bool j => Φ (decide (i = j))
  | .NotEq, .bool i, .bool j => Φ (!decide (i = j))
  | .Eq, d, e => EqK d e Φ
  | .NotEq, d, e => EqK d e fun z => Φ (!z)
  | .Lt, d, e => LtK d e Φ
  | .Is, d, .none => Φ (isNone d)
  | .IsNot, d, .none => Φ (!isNone d)
  | .In, .str x, .str y => Φ (subStr x y)
  | .NotIn, .str x, .str y => Φ (!subStr x y)
  | .In, d, .list xs => InK (.list xs) xs d Φ
  | .NotIn, d, .list xs => InK (.list xs) xs d fun z => Φ (!z)
  | .In, d, .tuple xs => InK (.tuple xs) xs d Φ
  | .NotIn, d, .tuple xs => InK (.tuple xs) xs d fun z => Φ (!z)
  | _, _, _ => False
theorem CmpE.k {op : CmpOp} {d e : Pd} {Φ : Bool → Prop} (h : CmpE op d e Φ) : CmpK op d e Φ := by
  cases op <;> cases d <;> cases e <;> first
    | exact h
    | (have h : EqK _ _ _ := h
       unfold EqK at h
       exact h)
    | (have h : InK _ _ _ _ := h
       unfold InK at h
       exact h)
    | (have h : LtK _ _ _ := h
       unfold LtK at h
       exact h)
    | exact h.elim
def truD : Pd → Bool
  | .bool b => b
  | _ => false
@[irreducible] def allB (xs : List Pd) : Prop := ∀ x ∈ xs, isBoolD x = true
/-- a list of ints -/
@[irreducible] def IntsQ (d : Pd) (Φ : List Int → Prop) : Prop := IntsK d Φ
/-- a list sorted -/
@[irreducible] def SrtK (d : Pd) (Φ : List Pd → Prop) : Prop := ∃ ds, d = .list ds ∧ SrtOk ds ∧ Φ (sortD ds)
def B1K (f : B1) (d : Pd) (Φ : Pd → Prop) : Prop := match f, d with
  | .all, .list xs => allB xs ∧ Φ (.bool (xs.all truD))
  | .any, .list xs => allB xs ∧ Φ (.bool (xs.any truD))
  | .toint, .int i => Φ (.int i)
  | .toint, .bool b => Φ (.int (if b then 1 else 0))
  | .str, .int i => i.natAbs.log2 < 1920 ∧ Φ (.str (toString i))
  | .tup, .list xs => Φ (.tuple xs)
  | .tup, .tuple xs => Φ (.tuple xs)
  | .len, .str x => x.length ≤ sizeLine ∧ Φ (.int x.length)
  | .len, .list xs => Φ (.int xs.length)
  | .len, .tuple xs => Φ (.int xs.length)
  | .sum, d => IntsQ d fun ns => Φ (.int ns.sum)
  | .max, d => IntsQ d fun ns => ns ≠ [] ∧ ∀ m, m ∈ ns → (∀ y ∈ ns, y ≤ m) → Φ (.int m)
  | .min, d => IntsQ d fun ns => ns ≠ [] ∧ ∀ m, m ∈ ns → (∀ y ∈ ns, m ≤ y) → Φ (.int m)
  | .abs, .int i => Φ (.int (if i < 0 then -i else i))
  | _, _ => False
def B2K (f : B2) (d e : Pd) (Φ : Pd → Prop) : Prop := match f, d, e with
  | .max, .int i, .int j => Φ (.int (if j > i then j else i))
  | .min, .int i, .int j => Φ (.int (if j < i then j else i))
  | .divmod, .int i, .int j => (0 < j ∧ j < 1073741824) ∧ Φ (.tuple [.int (i / j), .int (i % j)])
  | _, _, _ => False
def isT (T : Ty) (d : Pd) : Bool := match T with
  | .str => isStrD d
  | .int => isIntD d
  | .bool => isBoolD d
  | .tup => isTupD d
  | .lst => isListD d
/-- what a caller has of a callee's end -/
def rsE (Ξ : Xi) (ρ : Rho) (Φ : Pd → Rho → Prop) : Rs → Prop
  | .d x => Φ x ρ
  | .fr ds => Φ (.list ds) ρ
  | .xn x => Ξ x ρ
def rsF (Ξ : Xi) (ρ : Rho) (Φ : List Pd → Rho → Prop) : Rs → Prop
  | .d _ => False
  | .fr ds => Φ ds ρ
  | .xn x => Ξ x ρ
/-! ### what must hold ahead -/
def SE.ofE (e : WE) : SE where
  e := e
  f := fun _ _ _ => False
  t := fun Ξ ρ Φ => e Ξ ρ fun d ρ1 => TruK d fun z => Φ z ρ1
  it := fun Ξ ρ Φ => e Ξ ρ fun d ρ1 => IterK d fun ds => Φ ds ρ1
def SE.ofF (f : WF) : SE where
  e := fun Ξ ρ Φ => f Ξ ρ fun ds ρ1 => Φ (.list ds) ρ1
  f := f
  t := fun Ξ ρ Φ => f Ξ ρ fun ds ρ1 => Φ (!ds.isEmpty) ρ1
  it := f
def SE.ofT (e : WE) (t : WT) : SE where
  e := e
  f := fun _ _ _ => False
  t := t
  it := fun _ _ _ => False
def SE.ofI (i : WF) : SE where
  e := fun _ _ _ => False
  f := fun _ _ _ => False
  t := fun _ _ _ => False
  it := i
def wV (i : Nat) : WE := fun _ ρ Φ => match getS ρ i with
  | .sh d => Φ d ρ
  | .ow _ ds => Φ (.list ds) (putS ρ i (.sh (.list ds)))
  | _ => False
/-- pure turns: xs the items, enc how they stand, q which stay, f what is made -/
@[irreducible] def LcK (j : Nat) (t : Rho → (Bool → Rho → Prop) → Prop) (elt : Rho → (Pd → Rho → Prop) → Prop) (Φ : List Pd → Rho → Prop) (ds : List Pd) (ρ : Rho) : Prop :=
  fpS (getS ρ j) = [] ∧ ∃ (α : Type) (xs : List α) (enc f : α → Pd) (q : α → Bool), ds = xs.map enc ∧ xs.length ≤ 1000000 ∧
    (∀ x ∈ xs, t (putS ρ j (.sh (enc x))) (fun b ρ' => b = q x ∧ ρ' = putS ρ j (.sh (enc x))) ∧ (q x = true → elt (putS ρ j (.sh (enc x))) fun w ρ' => w = f x ∧ ρ' = putS ρ j (.sh (enc x)))) ∧ Φ ((xs.filter q).map f) ρ
@[irreducible] def LcK0 (j : Nat) (elt : Rho → (Pd → Rho → Prop) → Prop) (Φ : List Pd → Rho → Prop) (ds : List Pd) (ρ : Rho) : Prop :=
  fpS (getS ρ j) = [] ∧ ∃ (α : Type) (xs : List α) (enc f : α → Pd), ds = xs.map enc ∧ xs.length ≤ 1000000 ∧
    (∀ x ∈ xs, elt (putS ρ j (.sh (enc x))) fun w ρ' => w = f x ∧ ρ' = putS ρ j (.sh (enc x))) ∧ Φ (xs.map f) ρ
/-- turns that change the state -/
@[irreducible] def LcSK (j : Nat) (t : Rho → (Bool → Rho → Prop) → Prop) (elt : Rho → (Pd → Rho → Prop) → Prop) (Φ : List Pd → Rho → Prop) (ds : List Pd) (ρ : Rho) : Prop :=
  fpS (getS ρ j) = [] ∧ ds.length ≤ 1000000 ∧ ∃ I : Nat → List Pd → Rho → Prop, I 0 [] (putS ρ j .no) ∧
    (∀ (i : Nat) z acc ρ2, ds[i]? = some z → I i acc ρ2 → acc.length ≤ i → t (putS ρ2 j (.sh z)) fun b ρ4 => (b = true → elt ρ4 fun w ρ5 => I (i + 1) (acc ++ [w]) (putS ρ5 j .no)) ∧ (b = false → I (i + 1) acc (putS ρ4 j .no))) ∧
    ∀ acc ρ2, I ds.length acc ρ2 → Φ acc (putS ρ2 j (getS ρ j))
@[irreducible] def LcSK0 (j : Nat) (elt : Rho → (Pd → Rho → Prop) → Prop) (Φ : List Pd → Rho → Prop) (ds : List Pd) (ρ : Rho) : Prop :=
  fpS (getS ρ j) = [] ∧ ds.length ≤ 1000000 ∧ ∃ I : Nat → List Pd → Rho → Prop, I 0 [] (putS ρ j .no) ∧
    (∀ (i : Nat) z acc ρ2, ds[i]? = some z → I i acc ρ2 → acc.length ≤ i → elt (putS ρ2 j (.sh z)) fun w ρ5 => I (i + 1) (acc ++ [w]) (putS ρ5 j .no)) ∧
    ∀ acc ρ2, I ds.length acc ρ2 → Φ acc (putS ρ2 j (getS ρ j))
mutual
def semE (tb : Tb) : IE → SE
  | .v i => .ofE (wV i)
  | .g i => .ofE fun _ ρ Φ => match nt tb.gs i with
    | some p => Φ p.2 ρ
    | none => False
  | .int i => .ofE fun _ ρ Φ => Φ (.int i) ρ
  | .str i => .ofE fun _ ρ Φ => Φ (.str i) ρ
  | .bl i => .ofE fun _ ρ Φ => Φ (.bool i) ρ
  | .non => .ofE fun _ ρ Φ => Φ .none ρ
  | .cmp op a b => .ofT (fun Ξ ρ Φ => (semE tb a).e Ξ ρ fun d1 ρ1 => (semE tb b).e Ξ ρ1 fun d2 ρ2 => CmpE op d1 d2 fun z => Φ (.bool z) ρ2) (fun Ξ ρ Φ => (semE tb a).e Ξ ρ fun d1 ρ1 => (semE tb b).e Ξ ρ1 fun d2 ρ2 => CmpE op d1 d2 fun z => Φ z ρ2)
  | .chn op op' a b c => .ofT
    (fun Ξ ρ Φ => (semE tb a).e Ξ ρ fun d1 ρ1 => (semE tb b).e Ξ ρ1 fun d2 ρ2 => CmpE op d1 d2 fun z => (z = true → (semE tb c).e Ξ ρ2 fun d3 ρ3 => CmpE op' d2 d3 fun y => Φ (.bool y) ρ3) ∧ (z = false → Φ (.bool false) ρ2))
    (fun Ξ ρ Φ => (semE tb a).e Ξ ρ fun d1 ρ1 => (semE tb b).e Ξ ρ1 fun d2 ρ2 => CmpE op d1 d2 fun z => (z = true → (semE tb c).e Ξ ρ2 fun d3 ρ3 => CmpE op' d2 d3 fun y => Φ y ρ3) ∧ (z = false → Φ false ρ2))
  | .bin op a b => .ofE fun Ξ ρ Φ => (semE tb a).e Ξ ρ fun d1 ρ1 => (semE tb b).e Ξ ρ1 fun d2 ρ2 => OpK op d1 d2 fun z => Φ z ρ2
  | .neg a => .ofE fun Ξ ρ Φ => (semE tb a).e Ξ ρ fun d ρ1 => IntE d fun i => Φ (.int (-i)) ρ1
  | .and a b => .ofT (fun Ξ ρ Φ => (semE tb a).e Ξ ρ fun d ρ1 => BoolE d fun z => (z = true → (semE tb b).e Ξ ρ1 Φ) ∧ (z = false → Φ (.bool false) ρ1)) (fun Ξ ρ Φ => (semE tb a).t Ξ ρ fun z ρ1 => (z = true → (semE tb b).t Ξ ρ1 Φ) ∧ (z = false → Φ false ρ1))
  | .or a b => .ofT (fun Ξ ρ Φ => (semE tb a).e Ξ ρ fun d ρ1 => BoolE d fun z => (z = false → (semE tb b).e Ξ ρ1 Φ) ∧ (z = true → Φ (.bool true) ρ1)) (fun Ξ ρ Φ => (semE tb a).t Ξ ρ fun z ρ1 => (z = false → (semE tb b).t Ξ ρ1 Φ) ∧ (z = true → Φ true ρ1))
  | .one a => .ofT (semE tb a).e (semE tb a).t
  | .not a => .ofT (fun Ξ ρ Φ => (semE tb a).e Ξ ρ fun d ρ1 => BoolE d fun z => Φ (.bool !z) ρ1) (fun Ξ ρ Φ => (semE tb a).t Ξ ρ fun z ρ1 => Φ (!z) ρ1)
  | .ife t a b => .ofT (fun Ξ ρ Φ => (semE tb t).t Ξ ρ fun z ρ1 => (z = true → (semE tb a).e Ξ ρ1 Φ) ∧ (z = false → (semE tb b).e Ξ ρ1 Φ)) fun _ _ _ => False
  | .tup a => .ofE fun Ξ ρ Φ => semA tb a Ξ ρ fun ds ρ1 => Nat.ble ds.length 1000 = true ∧ Φ (.tuple ds) ρ1
  | .lst a => .ofF fun Ξ ρ Φ => semA tb a Ξ ρ fun ds ρ1 => Nat.ble ds.length 1000 = true ∧ Φ ds ρ1
  | .sub a b => .ofE fun Ξ ρ Φ => (semE tb a).e Ξ ρ fun d ρ1 => (semE tb b).e Ξ ρ1 fun e ρ2 => SubE d e fun z => Φ z ρ2
  | .subv i b => .ofE fun Ξ ρ Φ => match getS ρ i with
    | .sh d => (semE tb b).e Ξ ρ fun e ρ2 => SubE d e fun z => Φ z ρ2
    | .ow a _ => (semE tb b).e Ξ ρ fun e ρ2 => IntE e fun n => match getS ρ2 i with
      | .ow a' ds => a' = a ∧ AtK ds n fun z => Φ z ρ2
      | _ => False
    | .sq _ xs => (semE tb b).e Ξ ρ fun e ρ2 => IntE e fun n => ∃ ns : List Int, xs = ns.map V.int ∧ ∃ z, L2.atI ns n = some z ∧ Φ (.int z) ρ2
    | _ => False
  | .sl a lo hi => .ofE fun Ξ ρ Φ => (semE tb a).e Ξ ρ fun d ρ1 => semO tb lo Ξ ρ1 fun i ρ2 => semO tb hi Ξ ρ2 fun j ρ3 => SlK d i j fun z => Φ z ρ3
  | .slv i lo hi => .ofF fun Ξ ρ Φ => match getS ρ i with
    | .sh d => ListE d fun xs => semO tb lo Ξ ρ fun i ρ2 => semO tb hi Ξ ρ2 fun j ρ3 => Φ (cutD xs i j) ρ3
    | .ow a _ => semO tb lo Ξ ρ fun k ρ2 => semO tb hi Ξ ρ2 fun l ρ3 => (match getS ρ3 i with
      | .ow a' ds => a' = a ∧ Φ (cutD ds k l) ρ3
      | _ => False)
    | _ => False
  | .rev a => .ofF fun Ξ ρ Φ => (semE tb a).e Ξ ρ fun d ρ1 => ListE d fun ds => Φ ds.reverse ρ1
  | .lenv i => .ofE fun _ ρ Φ => match getS ρ i with
    | .sh d => LenK d fun z => Φ z ρ
    | .ow _ ds => Φ (.int ds.length) ρ
    | .sq _ xs => Φ (.int xs.length) ρ
    | _ => False
  | .b1 f a => .ofE fun Ξ ρ Φ => (semE tb a).e Ξ ρ fun d ρ1 => B1K f d fun z => Φ z ρ1
  | .lsto a => .ofF fun Ξ ρ Φ => (semE tb a).e Ξ ρ fun d ρ1 => SeqK d fun z => Φ z ρ1
  | .b2 f a b => .ofE fun Ξ ρ Φ => (semE tb a).e Ξ ρ fun d ρ1 => (semE tb b).e Ξ ρ1 fun e ρ2 => B2K f d e fun z => Φ z ρ2
  | .isi T a => .ofE fun Ξ ρ Φ => (semE tb a).e Ξ ρ fun d ρ1 => Φ (.bool (isT T d)) ρ1
  | .nilv i => .ofT (fun _ _ _ => False) fun _ ρ Φ => match getS ρ i with
    | .ow _ ds => PyData.plainAll ds = true ∧ Φ ds.isEmpty ρ
    | _ => False
  | .join y a => .ofE fun Ξ ρ Φ => (semE tb a).e Ξ ρ fun d ρ1 => ∃ ys : List Str, (d = .list (ys.map .str) ∨ d = .tuple (ys.map .str)) ∧ (ys.map (·.length)).sum + ys.length * y.length ≤ 16777216 ∧ Φ (.str (Txt.join y ys)) ρ1
  | .popa i a => .ofE fun Ξ ρ Φ => match getS ρ i with
    | .ow b _ => (semE tb a).e Ξ ρ fun d ρ1 => IntE d fun n => (match getS ρ1 i with
      | .ow b' ds => b' = b ∧ (-(2 ^ 63) ≤ n ∧ n < 2 ^ 63) ∧ ∃ j z, seqIndex? n ds.length = some j ∧ ds[j]? = some z ∧ Φ z (putS ρ1 i (.ow b (ds.eraseIdx j)))
      | _ => False)
    | _ => False
  | .call i a => match nt tb.fs i with
    | some (_, .d n S dl) => ⟨fun Ξ ρ Φ => semA tb a Ξ ρ fun ds ρ1 => Nat.beq (ds ++ dl).length n = true ∧ S (ds ++ dl) (rsE Ξ ρ1 Φ), fun Ξ ρ Φ => semA tb a Ξ ρ fun ds ρ1 => Nat.beq (ds ++ dl).length n = true ∧ S (ds ++ dl) (rsF Ξ ρ1 Φ),
      fun Ξ ρ Φ => semA tb a Ξ ρ fun ds ρ1 => Nat.beq (ds ++ dl).length n = true ∧ S (ds ++ dl) (rsE Ξ ρ1 fun d ρ2 => TruK d fun z => Φ z ρ2), fun Ξ ρ Φ => semA tb a Ξ ρ fun ds ρ1 => Nat.beq (ds ++ dl).length n = true ∧ S (ds ++ dl) (rsE Ξ ρ1 fun d ρ2 => IterK d fun z => Φ z ρ2)⟩
    | _ => .ofE fun _ _ _ => False
  | .calli i j a => match nt tb.fs i with
    | some (_, .i n S dl) =>
      let go : Xi → Rho → (Rho → Rs → Prop) → Prop := fun Ξ ρ Ψ => match getS ρ j with
        | .ow b _ => semA tb a Ξ ρ fun ds ρ1 => (match getS ρ1 j with
          | .ow b' w => b' = b ∧ Nat.beq ((ds ++ dl).length + 1) n = true ∧ S w (ds ++ dl) fun r w' => Ψ (putS ρ1 j (.ow b w')) r
          | _ => False)
        | _ => False
      ⟨fun Ξ ρ Φ => go Ξ ρ fun ρ2 r => rsE Ξ ρ2 Φ r, fun Ξ ρ Φ => go Ξ ρ fun ρ2 r => rsF Ξ ρ2 Φ r, fun Ξ ρ Φ => go Ξ ρ fun ρ2 r => rsE Ξ ρ2 (fun d ρ2 => TruK d fun z => Φ z ρ2) r, fun Ξ ρ Φ => go Ξ ρ fun ρ2 r => rsE Ξ ρ2 (fun d ρ2 => IterK d fun z => Φ z ρ2) r⟩
    | _ => .ofE fun _ _ _ => False
  | .callq i j a => match nt tb.fs i with
    | some (_, .q n S dl) => .ofF fun Ξ ρ Φ => (match getS ρ j with
      | .sq _ xs => ∃ ns : List Int, xs = ns.map V.int ∧ semA tb a Ξ ρ fun ds ρ1 => Nat.beq ((ds ++ dl).length + 1) n = true ∧ S ns (ds ++ dl) (rsF Ξ ρ1 Φ)
      | _ => False)
    | _ => .ofE fun _ _ _ => False
  | .lc j it elt => .ofF fun Ξ ρ Φ => (semE tb it).it Ξ ρ (LcK0 j ((semE tb elt).e noX) Φ)
  | .lcif j it t elt => .ofF fun Ξ ρ Φ => (semE tb it).it Ξ ρ (LcK j ((semE tb t).t noX) ((semE tb elt).e noX) Φ)
  | .lcs j it elt => .ofF fun Ξ ρ Φ => (semE tb it).it Ξ ρ (LcSK0 j ((semE tb elt).e noX) Φ)
  | .lcsif j it t elt => .ofF fun Ξ ρ Φ => (semE tb it).it Ξ ρ (LcSK j ((semE tb t).t noX) ((semE tb elt).e noX) Φ)
  | .rng a => .ofI fun Ξ ρ Φ => (semE tb a).e Ξ ρ fun d ρ1 => IntE d fun n => (-(2 ^ 62) ≤ n ∧ n < 2 ^ 62) ∧ Φ ((List.range n.toNat).map fun (i : Nat) => .int (i : Int)) ρ1
  | .rng2 a b => .ofI fun Ξ ρ Φ => (semE tb a).e Ξ ρ fun d ρ1 => (semE tb b).e Ξ ρ1 fun d2 ρ2 => IntE d fun m => IntE d2 fun n => Φ (rng m (n - m).toNat) ρ2
  | .lrng a b => .ofF fun Ξ ρ Φ => (semE tb a).e Ξ ρ fun d ρ1 => (semE tb b).e Ξ ρ1 fun d2 ρ2 => IntE d fun m => IntE d2 fun n => (n - m).toNat ≤ 1000000 ∧ Φ (rng m (n - m).toNat) ρ2
  | .idx a b => .ofE fun Ξ ρ Φ => (semE tb a).e Ξ ρ fun d ρ1 => ∃ ns : List Int, d = .list (ns.map .int) ∧ (semE tb b).e Ξ ρ1 fun e ρ2 => IntE e fun n => ∃ j : Nat, ns[j]? = some n ∧ (∀ m, m < j → ns[m]? ≠ some n) ∧ Φ (.int j) ρ2
  | .cmpo op i b => .ofT
    (fun Ξ ρ Φ => match getS ρ i with
      | .ow a _ => (semE tb b).e Ξ ρ fun d2 ρ2 => (match getS ρ2 i with
        | .ow a' ds => a' = a ∧ CmpE op (.list ds) d2 fun z => Φ (.bool z) ρ2
        | _ => False)
      | _ => False)
    (fun Ξ ρ Φ => match getS ρ i with
      | .ow a _ => (semE tb b).e Ξ ρ fun d2 ρ2 => (match getS ρ2 i with
        | .ow a' ds => a' = a ∧ CmpE op (.list ds) d2 fun z => Φ z ρ2
        | _ => False)
      | _ => False)
  | .isio T i => .ofE fun _ ρ Φ => match getS ρ i with
    | .ow _ ds => Φ (.bool (isT T (.list ds))) ρ
    | _ => False
  | .srt a => .ofF fun Ξ ρ Φ => (semE tb a).e Ξ ρ fun d ρ1 => SrtK d fun z => Φ z ρ1
  | .lrng1 a => .ofF fun Ξ ρ Φ => (semE tb a).e Ξ ρ fun d ρ1 => IntE d fun n => n.toNat ≤ 1000000 ∧ Φ (rng 0 n.toNat) ρ1
def semA (tb : Tb) : IA → WF
  | .nil => fun _ ρ Φ => Φ [] ρ
  | .cons e r => fun Ξ ρ Φ => (semE tb e).e Ξ ρ fun d ρ1 => semA tb r Ξ ρ1 fun ds ρ2 => Φ (d :: ds) ρ2
def semO (tb : Tb) : IO → WO
  | .non => fun _ ρ Φ => Φ none ρ
  | .som e => fun Ξ ρ Φ => (semE tb e).e Ξ ρ fun d ρ1 => IntE d fun i => Φ (some i) ρ1
end
end KJ

set_option Elab.async false
set_option linter.all false
set_option maxRecDepth 100000
set_option maxHeartbeats 4100000
/-! K2: statements. -/
namespace KJ
open PySem PySem.Spec L2 PyProof.Rows
mutual
inductive IG where
  | v (i : Nat)
  | tup (a : IGs)
inductive IGs where
  | nil
  | cons (e : IG) (r : IGs)
end
mutual
inductive IS where
  | ret (e : IE)
  | retf (e : IE)
  | reto (i : Nat)
  | retn
  | asg (g : IG) (e : IE)
  | own (i : Nat) (e : IE)
  | ownc (i : Nat) (e : IE)
  | aug (i : Nat) (op : Operator) (e : IE)
  | par (i j : Nat) (a b : IE)
  | ex (e : IE)
  | app (i : Nat) (e : IE)
  | ins (i : Nat) (a e : IE)
  | seto (i : Nat) (ix e : IE)
  | setc (i : Nat) (lo hi e : IE)
  | raise (i : Nat)
  | iff (t : IE) (a b : IB)
  | ifc (t : IE) (a b : IB)
  | for_ (g : IG) (it : IE) (b : IB)
  | whl (t : IE) (b : IB)
  | tryk (b : IB) (n k : Nat) (h : Nat)
  | pass
  | brk
  | cnt
inductive IB where
  | nil
  | cons (s : IS) (r : IB)
  | cut (s : IS) (r : IB)
end
abbrev WG := Rho → Pd → (Rho → Prop) → Prop
abbrev WGs := Rho → List Pd → (Rho → Prop) → Prop
abbrev WS := Xi → Rho → (Rho → Prop) → Po → Prop
def lenG : IGs → Nat
  | .nil => 0
  | .cons _ r => lenG r + 1
mutual
def semG : IG → WG
  | .v i => fun ρ d Φ => Φ (putS ρ i (.sh d))
  | .tup a => fun ρ d Φ => (match d with
    | .tuple ds => Nat.beq (lenG a) ds.length = true ∧ semGs a ρ ds Φ
    | .list ds => Nat.beq (lenG a) ds.length = true ∧ semGs a ρ ds Φ
    | _ => False)
def semGs : IGs → WGs
  | .nil => fun ρ ds Φ => (match ds with
    | [] => Φ ρ
    | _ => False)
  | .cons g r => fun ρ ds Φ => (match ds with
    | d :: ds' => semG g ρ d fun ρ1 => semGs r ρ1 ds' Φ
    | _ => False)
end
/-- what the tried suite's exceptions come to: the classes that are told apart, and how -/
structure Hs where
  ks : List (Addr × List Bool)
mutual
def semS (tb : Tb) (hs : List Hs) : IS → WS
  | .ret e => fun Ξ ρ nx Ψ => (semE tb e).e Ξ ρ fun d ρ1 => Ψ.rt (.d d) ρ1
  | .retf e => fun Ξ ρ nx Ψ => (semE tb e).f Ξ ρ fun d ρ1 => Ψ.rt (.fr d) ρ1
  | .reto i => fun _ ρ nx Ψ => (match getS ρ i with
    | .ow _ ds => Ψ.rt (.fr ds) (putS ρ i .no)
    | _ => False)
  | .retn => fun _ ρ nx Ψ => Ψ.rt (.d .none) ρ
  | .asg g e => fun Ξ ρ nx Ψ => (semE tb e).e Ξ ρ fun d ρ1 => semG g ρ1 d nx
  | .own i e => fun Ξ ρ nx Ψ => (semE tb e).f Ξ ρ fun ds ρ1 => ∀ a, nx (putS ρ1 i (.ow a ds))
  | .ownc i e => fun Ξ ρ nx Ψ => (semE tb e).f Ξ ρ fun ds ρ1 => ∀ a, nx (putS ρ1 i (.ow a ds))
  | .aug i op e => fun Ξ ρ nx Ψ => (match getS ρ i with
    | .sh (.int a) => (semE tb e).e Ξ ρ fun z ρ1 => IntE z fun b => (match op with
      | .Add => nx (putS ρ1 i (.sh (.int (a + b))))
      | .Sub => nx (putS ρ1 i (.sh (.int (a - b))))
      | _ => False)
    | _ => False)
  | .par i j a b => fun Ξ ρ nx Ψ => (semE tb a).e Ξ ρ fun d1 ρ1 => (semE tb b).e Ξ ρ1 fun d2 ρ2 => nx (putS (putS ρ2 i (.sh d1)) j (.sh d2))
  | .ex e => fun Ξ ρ nx Ψ => (semE tb e).e Ξ ρ fun _ ρ1 => nx ρ1
  | .app i e => fun Ξ ρ nx Ψ => (match getS ρ i with
    | .ow a _ => (semE tb e).e Ξ ρ fun d ρ1 => (match getS ρ1 i with
      | .ow a' ds => a' = a ∧ ds.length < sizeLine ∧ nx (putS ρ1 i (.ow a (ds ++ [d])))
      | _ => False)
    | _ => False)
  | .ins i k e => fun Ξ ρ nx Ψ => (match getS ρ i with
    | .ow a _ => (semE tb k).e Ξ ρ fun d0 ρ0 => (semE tb e).e Ξ ρ0 fun d ρ1 => IntE d0 fun n => (match getS ρ1 i with
      | .ow a' ds => a' = a ∧ (0 ≤ n ∧ n < 2 ^ 63) ∧ ds.length < sizeLine ∧ nx (putS ρ1 i (.ow a (ds.take n.toNat ++ [d] ++ ds.drop n.toNat)))
      | _ => False)
    | _ => False)
  | .seto i k e => fun Ξ ρ nx Ψ => (match getS ρ i with
    | .ow a _ => (semE tb e).e Ξ ρ fun d ρ1 => (match getS ρ1 i with
      | .ow a1 _ => a1 = a ∧ (semE tb k).e Ξ ρ1 fun d2 ρ2 => IntE d2 fun n => (match getS ρ2 i with
        | .ow a' ds => a' = a ∧ ∃ j, ixN ds.length n = some j ∧ nx (putS ρ2 i (.ow a (ds.set j d)))
        | _ => False)
      | _ => False)
    | _ => False)
  | .setc i lo hi e => fun Ξ ρ nx Ψ => (match getS ρ i with
    | .ow a _ => (semE tb e).e Ξ ρ fun d ρ1 => ListE d fun new => (match getS ρ1 i with
      | .ow a1 ds => a1 = a ∧ ∃ l h : Nat, (semE tb lo).e Ξ ρ1 (fun z ρ' => z = .int l ∧ ρ' = ρ1) ∧ (semE tb hi).e Ξ ρ1 (fun z ρ' => z = .int h ∧ ρ' = ρ1) ∧ (l ≤ ds.length ∧ l ≤ h ∧ ds.length + new.length ≤ sizeLine) ∧
        nx (putS ρ1 i (.ow a (ds.take l ++ new ++ ds.drop (min h ds.length))))
      | _ => False)
    | _ => False)
  | .raise i => fun Ξ ρ _ _ => (match nt tb.xs i with
    | some p => Ξ ⟨p.2, []⟩ ρ
    | none => False)
  | .iff t a b => fun Ξ ρ nx Ψ => (semE tb t).t Ξ ρ fun z ρ1 => (z = true → semB tb hs a Ξ ρ1 nx Ψ) ∧ (z = false → semB tb hs b Ξ ρ1 nx Ψ)
  | .ifc t a b => fun Ξ ρ nx Ψ => ∃ z : Bool, (semE tb t).t Ξ ρ (fun y ρ' => y = z ∧ ρ' = ρ) ∧ (z = true → semB tb hs a Ξ ρ nx Ψ) ∧ (z = false → semB tb hs b Ξ ρ nx Ψ)
  | .for_ g it b => fun Ξ ρ nx Ψ => (semE tb it).it Ξ ρ fun ds ρ1 => ∃ I : Nat → Rho → Prop, I 0 ρ1 ∧ (∀ (i : Nat) z ρ2, ds[i]? = some z → I i ρ2 → semG g ρ2 z fun ρ3 => semB tb hs b Ξ ρ3 (I (i + 1)) ⟨I (i + 1), Ψ.rt, nx, I (i + 1)⟩) ∧ ∀ ρ2, I ds.length ρ2 → nx ρ2
  | .whl t b => fun Ξ ρ nx Ψ => ∃ (I : Nat → Rho → Prop) (m0 : Nat), I m0 ρ ∧ ∀ m ρ1, I m ρ1 → (semE tb t).t Ξ ρ1 fun z ρ2 => (z = true → semB tb hs b Ξ ρ2 (fun ρ3 => ∃ m', m' < m ∧ I m' ρ3) ⟨fun ρ3 => ∃ m', m' < m ∧ I m' ρ3, Ψ.rt, nx, fun ρ3 => ∃ m', m' < m ∧ I m' ρ3⟩) ∧ (z = false → nx ρ2)
  | .tryk b n k h => fun _ ρ nx Ψ => (match nt hs h with
    | some H => semB tb hs b (fun x ρ' => x.fs = [] ∧ ∃ bs, (x.cls, bs) ∈ H.ks ∧ nx (putS (putS ρ' k (.sh (.list (bs.map .bool)))) n .no)) ρ nx Ψ
    | none => False)
  | .pass => fun _ ρ nx Ψ => nx ρ
  | .brk => fun _ ρ nx Ψ => Ψ.bk ρ
  | .cnt => fun _ ρ nx Ψ => Ψ.ct ρ
def semB (tb : Tb) (hs : List Hs) : IB → WS
  | .nil => fun _ ρ nx Ψ => nx ρ
  | .cons s r => fun Ξ ρ nx Ψ => semS tb hs s Ξ ρ (fun ρ' => semB tb hs r Ξ ρ' nx Ψ) Ψ
  | .cut s r => fun Ξ ρ nx Ψ => ∃ I : Rho → Prop, semS tb hs s Ξ ρ I Ψ ∧ ∀ ρ', I ρ' → semB tb hs r Ξ ρ' nx Ψ
end
end KJ

set_option Elab.async false
set_option linter.all false
set_option maxRecDepth 100000
set_option maxHeartbeats 4100000
/-! K3: which text a thing of the small language stands for. -/
namespace KJ
open PySem PySem.Spec L2 PyProof.Rows
/-- names: the slots', the defs', the constants', the classes' -/
structure Nm where
  N : List Str
  fs : List Str
  gs : List Str
  xs : List Str
def isN (l : List Str) (i : Nat) (x : Str) : Bool := decide (nt l i = some x)
def okN (x : Str) : Bool := !(x == ("__debug__" : Str)) && !(x == ("__classdict__" : Str))
def glB (sc : Scope) (x : Str) : Bool := decide (sc.names.lookup x = some .globalImplicit)
def locO (sc : Scope) (x : Str) : Bool := decide (sc.names.lookup x = some .local)
/-- a slot's name, read -/
def rdB (nm : Nm) (sc : Scope) (i : Nat) (x : Str) : Bool := isN nm.N i x && (visB sc x && okN x)
def gfB (sc : Scope) (x y : Str) : Bool := decide (x = y) && glB sc x
def B1.nm : B1 → Str
  | .all => "all"
  | .any => "any"
  | .toint => "int"
  | .str => "str"
  | .tup => "tuple"
  | .len => "len"
  | .sum => "sum"
  | .max => "max"
  | .min => "min"
  | .abs => "abs"
def B2.nm : B2 → Str
  | .max => "max"
  | .min => "min"
  | .divmod => "divmod"
def Ty.nm : Ty → Str
  | .str => "str"
  | .int => "int"
  | .bool => "bool"
  | .tup => "tuple"
  | .lst => "list"
def isBo : IE → Bool
  | .and _ _ => true
  | .or _ _ => true
  | .one _ => true
  | _ => false
/-- the block of a comprehension, y its name -/
def lcB (nm : Nm) (sc scope : Scope) (j : Nat) (y : Str) : Bool := isN nm.N j y && (blkC nm.N sc scope [(y, j)] && (locB (relS scope sc) y && ((scope.names.lookup y == some .cell) || locO (relS scope sc) y)))
mutual
def fitE (nm : Nm) (sc : Scope) : IE → Expr → Bool
  | .v i, e => match e with
    | .Name x _ => rdB nm sc i x
    | _ => false
  | .g i, e => match e with
    | .Name x _ => isN nm.gs i x && (glB sc x && okN x)
    | _ => false
  | .int i, e => match e with
    | .Constant (.int j) _ _ => decide (i = j)
    | _ => false
  | .str i, e => match e with
    | .Constant (.str j) _ _ => decide (i = j)
    | _ => false
  | .bl i, e => match e with
    | .Constant (.bool j) _ _ => decide (i = j)
    | _ => false
  | .non, e => match e with
    | .Constant .none _ _ => true
    | _ => false
  | .cmp op a b, e => match e with
    | .Compare x [o] [y] _ => decide (op = o) && (fitE nm sc a x && fitE nm sc b y)
    | _ => false
  | .chn op op' a b c, e => match e with
    | .Compare x [o, o'] [y, z] _ => decide (op = o) && (decide (op' = o') && (fitE nm sc a x && (fitE nm sc b y && fitE nm sc c z)))
    | _ => false
  | .bin op a b, e => match e with
    | .BinOp x o y _ => decide (op = o) && (fitE nm sc a x && fitE nm sc b y)
    | _ => false
  | .neg a, e => match e with
    | .UnaryOp .USub x _ => fitE nm sc a x
    | _ => false
  | .and a b, e => match e with
    | .BoolOp .And (x :: y :: r) p => isBo b && (fitE nm sc a x && fitE nm sc b (.BoolOp .And (y :: r) p))
    | _ => false
  | .or a b, e => match e with
    | .BoolOp .Or (x :: y :: r) p => isBo b && (fitE nm sc a x && fitE nm sc b (.BoolOp .Or (y :: r) p))
    | _ => false
  | .one a, e => match e with
    | .BoolOp _ [x] _ => fitE nm sc a x
    | _ => false
  | .not a, e => match e with
    | .UnaryOp .Not x _ => fitE nm sc a x
    | _ => false
  | .ife t a b, e => match e with
    | .IfExp x y z _ => fitE nm sc t x && (fitE nm sc a y && fitE nm sc b z)
    | _ => false
  | .tup a, e => match e with
    | .Tuple es _ _ => fitA nm sc a es
    | _ => false
  | .lst a, e => match e with
    | .List es _ => fitA nm sc a es
    | _ => false
  | .sub a b, e => match e with
    | .Subscript x y _ => fitE nm sc a x && fitE nm sc b y
    | _ => false
  | .subv i b, e => match e with
    | .Subscript (.Name x _) y _ => rdB nm sc i x && fitE nm sc b y
    | _ => false
  | .sl a lo hi, e => match e with
    | .Subscript x (.Slice l h none _) _ => fitE nm sc a x && (fitO nm sc lo l && fitO nm sc hi h)
    | _ => false
  | .slv i lo hi, e => match e with
    | .Subscript (.Name x _) (.Slice l h none _) _ => rdB nm sc i x && (fitO nm sc lo l && fitO nm sc hi h)
    | _ => false
  | .rev a, e => match e with
    | .Subscript x (.Slice none none (some (.UnaryOp .USub (.Constant (.int j) _ _) _)) _) _ => decide (j = 1) && fitE nm sc a x
    | _ => false
  | .lenv i, e => match e with
    | .Call (.Name f _) [.Name x _] [] _ => gfB sc f "len" && rdB nm sc i x
    | _ => false
  | .b1 f a, e => match e with
    | .Call (.Name g _) [x] [] _ => gfB sc g f.nm && fitE nm sc a x
    | _ => false
  | .lsto a, e => match e with
    | .Call (.Name g _) [x] [] _ => gfB sc g "list" && fitE nm sc a x
    | _ => false
  | .b2 f a b, e => match e with
    | .Call (.Name g _) [x, y] [] _ => gfB sc g f.nm && (fitE nm sc a x && fitE nm sc b y)
    | _ => false
  | .isi T a, e => match e with
    | .Call (.Name g _) [x, .Name t _] [] _ => gfB sc g "isinstance" && (gfB sc t T.nm && fitE nm sc a x)
    | _ => false
  | .nilv i, e => match e with
    | .Compare (.Name x _) [.Eq] [.List [] _] _ => rdB nm sc i x
    | _ => false
  | .join y a, e => match e with
    | .Call (.Attribute (.Constant (.str z) _ _) m ap) [x] [] pos => decide (z = y) && (decide (m = "join") && ((ap.endLine == pos.line) && fitE nm sc a x))
    | _ => false
  | .popa i a, e => match e with
    | .Call (.Attribute (.Name x _) m ap) [y] [] pos => rdB nm sc i x && (decide (m = "pop") && ((ap.endLine == pos.line) && fitE nm sc a y))
    | _ => false
  | .call i a, e => match e with
    | .Call (.Name f _) (x :: xs) [] _ => isN nm.fs i f && (glB sc f && (okN f && fitA nm sc a (x :: xs)))
    | _ => false
  | .calli i j a, e => match e with
    | .Call (.Name f _) (.Name y _ :: xs) [] _ => isN nm.fs i f && (glB sc f && (okN f && (rdB nm sc j y && fitA nm sc a xs)))
    | _ => false
  | .callq i j a, e => match e with
    | .Call (.Name f _) (.Name y _ :: xs) [] _ => isN nm.fs i f && (glB sc f && (okN f && (rdB nm sc j y && fitA nm sc a xs)))
    | _ => false
  | .lc j it elt, e => match e with
    | .ListComp x [⟨.Name y _, i, [], z⟩] scope _ => decide (z = 0) && (lcB nm sc scope j y && (fitE nm sc it i && fitE nm (relS scope sc) elt x))
    | _ => false
  | .lcif j it t elt, e => match e with
    | .ListComp x [⟨.Name y _, i, [w], z⟩] scope _ => decide (z = 0) && (lcB nm sc scope j y && (fitE nm sc it i && (fitE nm (relS scope sc) t w && fitE nm (relS scope sc) elt x)))
    | _ => false
  | .lcs j it elt, e => match e with
    | .ListComp x [⟨.Name y _, i, [], z⟩] scope _ => decide (z = 0) && (lcB nm sc scope j y && (fitE nm sc it i && fitE nm (relS scope sc) elt x))
    | _ => false
  | .lcsif j it t elt, e => match e with
    | .ListComp x [⟨.Name y _, i, [w], z⟩] scope _ => decide (z = 0) && (lcB nm sc scope j y && (fitE nm sc it i && (fitE nm (relS scope sc) t w && fitE nm (relS scope sc) elt x)))
    | _ => false
  | .rng a, e => match e with
    | .Call (.Name g _) [x] [] _ => gfB sc g "range" && fitE nm sc a x
    | _ => false
  | .rng2 a b, e => match e with
    | .Call (.Name g _) [x, y] [] _ => gfB sc g "range" && (fitE nm sc a x && fitE nm sc b y)
    | _ => false
  | .lrng a b, e => match e with
    | .Call (.Name f _) [.Call (.Name g _) [x, y] [] _] [] _ => gfB sc f "list" && (gfB sc g "range" && (fitE nm sc a x && fitE nm sc b y))
    | _ => false
  | .idx a b, e => match e with
    | .Call (.Attribute x m ap) [y] [] pos => (match x with
      | .Name .. => true
      | _ => false) && (decide (m = "index") && ((ap.endLine == pos.line) && (fitE nm sc a x && fitE nm sc b y)))
    | _ => false
  | .cmpo op i b, e => match e with
    | .Compare (.Name x _) [o] [y] _ => decide (op = o) && (rdB nm sc i x && fitE nm sc b y)
    | _ => false
  | .isio T i, e => match e with
    | .Call (.Name g _) [.Name x _, .Name t _] [] _ => gfB sc g "isinstance" && (gfB sc t T.nm && rdB nm sc i x)
    | _ => false
  | .srt a, e => match e with
    | .Call (.Name g _) [x] [] _ => gfB sc g "sorted" && fitE nm sc a x
    | _ => false
  | .lrng1 a, e => match e with
    | .Call (.Name f _) [.Call (.Name g _) [x] [] _] [] _ => gfB sc f "list" && (gfB sc g "range" && fitE nm sc a x)
    | _ => false
def fitA (nm : Nm) (sc : Scope) : IA → List Expr → Bool
  | .nil, es => match es with
    | [] => true
    | _ => false
  | .cons a r, es => match es with
    | x :: xs => fitE nm sc a x && fitA nm sc r xs
    | _ => false
def fitO (nm : Nm) (sc : Scope) : IO → Option Expr → Bool
  | .non, e => match e with
    | none => true
    | _ => false
  | .som a, e => match e with
    | some x => fitE nm sc a x
    | _ => false
end
/-- a target's name -/
def tgB (nm : Nm) (sc : Scope) (i : Nat) (x : Str) : Bool := isN nm.N i x && locB sc x
mutual
def fitG (nm : Nm) (sc : Scope) : IG → Expr → Bool
  | .v i, e => match e with
    | .Name x _ => tgB nm sc i x
    | _ => false
  | .tup a, e => match e with
    | .Tuple es _ _ => fitGs nm sc a es
    | _ => false
def fitGs (nm : Nm) (sc : Scope) : IGs → List Expr → Bool
  | .nil, es => match es with
    | [] => true
    | _ => false
  | .cons a r, es => match es with
    | x :: xs => fitG nm sc a x && fitGs nm sc r xs
    | _ => false
end
/-- a value is no comprehension, or one that is not stored at once -/
def noComp : Expr → Bool
  | .ListComp .. => false
  | .SetComp .. => false
  | .DictComp .. => false
  | _ => true
/-- .. stored to the local name x -/
def swB (sc : Scope) (x : Str) (p : Pos) : Expr → Bool
  | .ListComp _ _ s q => decide (sc.kind = .function) && (locO sc x && ((p.line == q.line) && !(s.names.any fun (n, k) => n == x && (k == .local || k == .cell))))
  | _ => false
def noTup : Expr → Expr → Bool
  | .Name .., _ => true
  | _, .Tuple .. => false
  | _, _ => true
/-- x, y = u, v, stored from the right -/
def parB (sc : Scope) (x y : Str) (px py : Pos) (u v : Expr) : Bool := decide (sc.kind = .function) && (locO sc x && (locO sc y && ((py.line == px.line) && (decide (x ≠ y) && (!([u, v].all (foldedForSure 8)) && !([u, v].all (constantsAlone 8)))))))
mutual
def fitS (nm : Nm) (sc : Scope) : IS → Stmt → Bool
  | .ret e, s => match s with
    | .Return (some x) _ => fitE nm sc e x
    | _ => false
  | .retf e, s => match s with
    | .Return (some x) _ => fitE nm sc e x
    | _ => false
  | .reto i, s => match s with
    | .Return (some (.Name x _)) _ => rdB nm sc i x
    | _ => false
  | .retn, s => match s with
    | .Return none _ => true
    | _ => false
  | .asg g e, s => match s with
    | .Assign [t] x _ => fitG nm sc g t && (fitE nm sc e x && (noComp x && noTup t x))
    | _ => false
  | .own i e, s => match s with
    | .Assign [.Name x p] y _ => tgB nm sc i x && (fitE nm sc e y && (noComp y || (match y with
      | .ListComp _ _ s q => (sc.kind == .function) && !((locO sc x && (p.line == q.line)) && !(s.names.any fun (n, k) => n == x && (k == .local || k == .cell)))
      | _ => false)))
    | _ => false
  | .ownc i e, s => match s with
    | .Assign [.Name x p] y _ => isN nm.N i x && (fitE nm sc e y && swB sc x p y)
    | _ => false
  | .aug i op e, s => match s with
    | .AugAssign (.Name x _) o y _ => tgB nm sc i x && (decide (op = o) && ((decide (op = .Add) || decide (op = .Sub)) && fitE nm sc e y))
    | _ => false
  | .par i j a b, s => match s with
    | .Assign [.Tuple [.Name x px, .Name y py] _ _] (.Tuple [u, v] _ _) _ => isN nm.N i x && (isN nm.N j y && (decide (i ≠ j) && (parB sc x y px py u v && (fitE nm sc a u && fitE nm sc b v))))
    | _ => false
  | .ex e, s => match s with
    | .Expr x _ => fitE nm sc e x && noComp x
    | _ => false
  | .app i e, s => match s with
    | .Expr (.Call (.Attribute (.Name x _) m ap) [y] [] pos) _ => rdB nm sc i x && (decide (m = "append") && ((ap.endLine == pos.line) && fitE nm sc e y))
    | _ => false
  | .ins i a e, s => match s with
    | .Expr (.Call (.Attribute (.Name x _) m ap) [y, z] [] pos) _ => rdB nm sc i x && (decide (m = "insert") && ((ap.endLine == pos.line) && (fitE nm sc a y && fitE nm sc e z)))
    | _ => false
  | .seto i k e, s => match s with
    | .Assign [.Subscript (.Name x p) y q] z _ => rdB nm sc i x && (fitE nm sc k y && (fitE nm sc e z && (noComp z && noTup (.Subscript (.Name x p) y q) z)))
    | _ => false
  | .setc i lo hi e, s => match s with
    | .Assign [.Subscript (.Name x p) (.Slice (some l) (some h) none q) p2] z _ => rdB nm sc i x && (fitE nm sc lo l && (fitE nm sc hi h && (fitE nm sc e z && (noComp z && noTup (.Subscript (.Name x p) (.Slice (some l) (some h) none q) p2) z))))
    | _ => false
  | .raise i, s => match s with
    | .Raise (some (.Call (.Name x _) [.Constant (.str _) _ _] [] _)) none _ => isN nm.xs i x && (glB sc x && okN x)
    | _ => false
  | .iff t a b, s => match s with
    | .If x y z _ => fitE nm sc t x && (fitB nm sc a y && fitB nm sc b z)
    | _ => false
  | .ifc t a b, s => match s with
    | .If x y z _ => fitE nm sc t x && (fitB nm sc a y && fitB nm sc b z)
    | _ => false
  | .for_ g it b, s => match s with
    | .For t x y [] _ => fitG nm sc g t && (fitE nm sc it x && fitB nm sc b y)
    | _ => false
  | .whl t b, s => match s with
    | .While x y [] _ => fitE nm sc t x && fitB nm sc b y
    | _ => false
  | .tryk b n k h, s => match s with
    | .Try y [.ExceptHandler (some (.Name c _)) (some n0) [.Assign [.Name k0 _] (.Call (.Name f _) [.Name n1 _] [] _) _] _] [] [] _ =>
      isN nm.N n n0 && (isN nm.N k k0 && (decide (n0 = n1) && (locO sc n0 && (visB sc n0 && (okN n0 && (locB sc k0 && (decide (c = "KeelError") && (glB sc c && (okN c && (decide (f = "_law_kinds") && (glB sc f && (okN f && ((sc.kind == .function) && (decide (n ≠ k) && fitB nm sc b y))))))))))))))
    | _ => false
  | .pass, s => match s with
    | .Pass _ => true
    | _ => false
  | .brk, s => match s with
    | .Break _ => true
    | _ => false
  | .cnt, s => match s with
    | .Continue _ => true
    | _ => false
def fitB (nm : Nm) (sc : Scope) : IB → List Stmt → Bool
  | .nil, ss => match ss with
    | [] => true
    | _ => false
  | .cons a r, ss => match ss with
    | x :: xs => fitS nm sc a x && fitB nm sc r xs
    | _ => false
  | .cut a r, ss => match ss with
    | x :: xs => fitS nm sc a x && fitB nm sc r xs
    | _ => false
end
end KJ

set_option Elab.async false
set_option linter.all false
set_option maxRecDepth 100000
set_option maxHeartbeats 4100000
/-! K4: what the small language's readings lean on. -/
namespace KJ
open PySem PySem.Spec L2 PyProof.Rows
/-! ### slots -/
theorem nt_ix {α : Type} : ∀ {l : List α} {i : Nat} {x : α}, nt l i = some x → l[i]? = some x
  | [], _, _, h => by cases h
  | _ :: _, 0, _, h => h
  | _ :: r, n + 1, _, h => nt_ix (l := r) (i := n) h
theorem lk_of : ∀ {ρ : Rho} {N : List Str} {i : Nat} {x : Str}, ρ.map (·.1) = N → nt N i = some x → Lk ρ x (getS ρ i)
  | [], N, i, x, h, e => by subst h; cases e
  | (y, s) :: r, N, 0, x, h, e => by
    subst h
    have e : y = x := Option.some.inj e
    subst e
    exact .hd
  | p :: r, N, n + 1, x, h, e => by
    subst h
    exact .tl (lk_of (ρ := r) rfl e)
theorem up_of {s : Sl} : ∀ {ρ : Rho} {N : List Str} {i : Nat} {x : Str}, ρ.map (·.1) = N → nt N i = some x → Up ρ x s (putS ρ i s)
  | [], N, i, x, h, e => by subst h; cases e
  | (y, t) :: r, N, 0, x, h, e => by
    subst h
    have e : y = x := Option.some.inj e
    subst e
    exact .hd
  | p :: r, N, n + 1, x, h, e => by
    subst h
    exact .tl (up_of (ρ := r) rfl e)
theorem putS_nm : ∀ {ρ : Rho} {i : Nat} {s : Sl}, (putS ρ i s).map (·.1) = ρ.map (·.1)
  | [], _, _ => rfl
  | _ :: _, 0, _ => rfl
  | p :: r, n + 1, s => by show p.1 :: _ = p.1 :: _; rw [putS_nm (ρ := r)]
theorem putS_putS : ∀ {ρ : Rho} {i : Nat} {s t : Sl}, putS (putS ρ i s) i t = putS ρ i t
  | [], _, _, _ => rfl
  | _ :: _, 0, _, _ => rfl
  | p :: r, n + 1, s, t => by show p :: _ = p :: _; rw [putS_putS (ρ := r)]
theorem putS_comm : ∀ {ρ : Rho} {i j : Nat} {s t : Sl}, i ≠ j → putS (putS ρ i s) j t = putS (putS ρ j t) i s
  | [], _, _, _, _, _ => rfl
  | _ :: _, 0, 0, _, _, h => absurd rfl h
  | _ :: _, 0, _ + 1, _, _, _ => rfl
  | _ :: _, _ + 1, 0, _, _, _ => rfl
  | p :: r, n + 1, m + 1, s, t, h => by
    show p :: _ = p :: _
    rw [putS_comm (ρ := r) (fun e => h (by rw [e]))]
theorem up_eq {ρ ρ' : Rho} {x : Str} {s : Sl} {N : List Str} {i : Nat} (hn : N.Nodup) (hm : ρ.map (·.1) = N) (e : nt N i = some x) (u : Up ρ x s ρ') : ρ' = putS ρ i s := u.fn (by rw [hm]; exact hn) (up_of hm e)
/-! ### the names of a state -/
section
variable {C : Jc} {ρ : Rho}
theorem JE.nm {e : Expr} {Φ : Pd → Rho → Prop} (h : ρ.map (·.1) = C.X.N → JE C ρ e Φ) : JE C ρ e Φ := ⟨fun G0 H0 G H σ S => (h S.nm).run G0 H0 G H σ S⟩
theorem JF.nm {e : Expr} {Φ : List Pd → Rho → Prop} (h : ρ.map (·.1) = C.X.N → JF C ρ e Φ) : JF C ρ e Φ := ⟨fun G0 H0 G H σ S => (h S.nm).run G0 H0 G H σ S⟩
theorem JT.nm {e : Expr} {Φ : Bool → Rho → Prop} (h : ρ.map (·.1) = C.X.N → JT C ρ e Φ) : JT C ρ e Φ := ⟨fun G0 H0 G H σ S => (h S.nm).run G0 H0 G H σ S⟩
theorem JI.nm {tg e : Expr} {Φ : List Pd → Rho → Prop} (h : ρ.map (·.1) = C.X.N → JI C ρ tg e Φ) : JI C ρ tg e Φ := ⟨fun G0 H0 G H σ S => (h S.nm).run G0 H0 G H σ S⟩
theorem JS.nm {e : Stmt} {Ψ : Po} (h : ρ.map (·.1) = C.X.N → JS C ρ e Ψ) : JS C ρ e Ψ := ⟨fun G0 H0 G H σ S => (h S.nm).run G0 H0 G H σ S⟩
theorem JG.nm {e : Expr} {z : Pd} {Φ : Rho → Prop} (h : ρ.map (·.1) = C.X.N → JG C ρ e z Φ) : JG C ρ e z Φ := ⟨fun G0 H0 G H σ v S => (h S.nm).run G0 H0 G H σ v S⟩
theorem JE.to {e : Expr} {Φ Φ' : Pd → Rho → Prop} (h : JE C ρ e Φ) (k : ∀ d ρ', ρ'.map (·.1) = C.X.N → Φ d ρ' → Φ' d ρ') : JE C ρ e Φ' :=
  ⟨fun G0 H0 G H σ S Q ok ex => h.run G0 H0 G H σ S Q (fun d ρ' v G' H' a b => ok d ρ' v G' H' (k d ρ' b.nm a) b) ex⟩
theorem JF.to {e : Expr} {Φ Φ' : List Pd → Rho → Prop} (h : JF C ρ e Φ) (k : ∀ d ρ', ρ'.map (·.1) = C.X.N → Φ d ρ' → Φ' d ρ') : JF C ρ e Φ' :=
  ⟨fun G0 H0 G H σ S Q ok ex => h.run G0 H0 G H σ S Q (fun d ρ' a vs G' H' p b => ok d ρ' a vs G' H' (k d ρ' b.nm p) b) ex⟩
theorem JA.to {e : List Expr} {Φ Φ' : List Pd → Rho → Prop} (h : JA C ρ e Φ) (k : ∀ d ρ', ρ'.map (·.1) = C.X.N → Φ d ρ' → Φ' d ρ') : JA C ρ e Φ' :=
  ⟨fun G0 H0 G H σ S Q ok ex => h.run G0 H0 G H σ S Q (fun d ρ' vs G' H' p b => ok d ρ' vs G' H' (k d ρ' b.nm p) b) ex⟩
theorem JT.to {e : Expr} {Φ Φ' : Bool → Rho → Prop} (h : JT C ρ e Φ) (k : ∀ d ρ', ρ'.map (·.1) = C.X.N → Φ d ρ' → Φ' d ρ') : JT C ρ e Φ' :=
  ⟨fun G0 H0 G H σ S Q ok ex => h.run G0 H0 G H σ S Q (fun d ρ' G' H' p b => ok d ρ' G' H' (k d ρ' b.nm p) b) ex⟩
theorem JI.to {tg e : Expr} {Φ Φ' : List Pd → Rho → Prop} (h : JI C ρ tg e Φ) (k : ∀ d ρ', ρ'.map (·.1) = C.X.N → Φ d ρ' → Φ' d ρ') : JI C ρ tg e Φ' :=
  ⟨fun G0 H0 G H σ S Q ok ex => h.run G0 H0 G H σ S Q (fun d ρ' J G' H' p b => ok d ρ' J G' H' (k d ρ' b.nm p) b) ex⟩
theorem JO.to {e : Option Expr} {Φ Φ' : Option Int → Rho → Prop} (h : JO C ρ e Φ) (k : ∀ d ρ', ρ'.map (·.1) = C.X.N → Φ d ρ' → Φ' d ρ') : JO C ρ e Φ' :=
  ⟨fun G0 H0 G H σ S Q ok ex => h.run G0 H0 G H σ S Q (fun d ρ' G' H' p b => ok d ρ' G' H' (k d ρ' b.nm p) b) ex⟩
end
/-! ### data of one kind -/
theorem IntE.ex {d : Pd} {Φ : Int → Prop} (h : IntE d Φ) : ∃ i, d = .int i ∧ Φ i := by
  cases d <;> first | exact ⟨_, rfl, h⟩ | exact h.elim
theorem BoolE.ex {d : Pd} {Φ : Bool → Prop} (h : BoolE d Φ) : ∃ i, d = .bool i ∧ Φ i := by
  cases d <;> first | exact ⟨_, rfl, h⟩ | exact h.elim
theorem ListE.ex {d : Pd} {Φ : List Pd → Prop} (h : ListE d Φ) : ∃ i, d = .list i ∧ Φ i := by
  cases d <;> first | exact ⟨_, rfl, h⟩ | exact h.elim
theorem AtK.ex {xs : List Pd} {n : Int} {Φ : Pd → Prop} (h : AtK xs n Φ) : ∃ z, L2.atI xs n = some z ∧ Φ z := by
  unfold AtK at h
  split at h
  · rename_i z e; exact ⟨z, e, h⟩
  · exact h.elim
theorem SubE.k {d e : Pd} {Φ : Pd → Prop} (h : SubE d e Φ) : SubK d e Φ := by
  unfold SubE at h
  unfold SubK
  split at h
  · exact h.ex
  · exact h.ex
  · exact h
  · exact h.elim
theorem boolsD : ∀ {xs : List Pd}, allB xs → xs = (xs.map truD).map .bool
  | [], _ => rfl
  | x :: r, h => by
    unfold allB at h
    have hx : x = .bool (truD x) := by
      have := h x (List.mem_cons_self ..)
      cases x <;> first | rfl | cases this
    have := boolsD (xs := r) (by unfold allB; exact fun z hz => h z (List.mem_cons_of_mem _ hz))
    rw [List.map_cons, List.map_cons, ← this, ← hx]
/-! ### an iterable by its data -/
section
variable {X : Cx} {pins : List (Addr × Obj)} {σ : L2.St} {H : Hp} {s : Shared} {tg : Expr} {R : It → Hp → Prop}
theorem it_list {a : Addr} {xs : List V} (I : Inv X pins σ H s) (hq : SqL X.K H a xs) (q : R (Itl X.K a) H) : wpAny (model X.prog X.w) X.A (pyIter (.ref a)) (PIE X pins σ tg R) X.xe s := by
  obtain ⟨its, _, p, _⟩ := I.list hq
  exact wpAny_pyIter_list p.isList ⟨_, [s.heap.objs.size], _, _, H, rfl, I.kept (t' := s.toks) (fun b o e => Heap.get?_push_of_some _ e), turn_list a _, ⟨_, Heap.get?_push_size _ rfl, rfl, rfl⟩, fun b hb => (List.mem_singleton.mp hb) ▸ I.fpOk (Nat.le_refl _) (I.hok.fresh (Nat.le_refl _)), q⟩
theorem it_tup {a : Addr} {xs : List V} (I : Inv X pins σ H s) (hq : SqT X.K H a xs) (q : R (Itt X.K a) H) : wpAny (model X.prog X.w) X.A (pyIter (.ref a)) (PIE X pins σ tg R) X.xe s := by
  obtain ⟨its, _, p, _⟩ := I.tuple hq
  exact wpAny_pyIter_tuple (show s.heap.IsTuple a its.toArray from p) ⟨_, [s.heap.objs.size], _, _, H, rfl, I.kept (t' := s.toks) (fun b o e => Heap.get?_push_of_some _ e), turn_tuple a _, ⟨_, Heap.get?_push_size _ rfl, rfl, rfl⟩, fun b hb => (List.mem_singleton.mp hb) ▸ I.fpOk (Nat.le_refl _) (I.hok.fresh (Nat.le_refl _)), q⟩
theorem it_str {x : Str} {t : Tok} (I : Inv X pins σ H s) (q : R (Its x) H) : wpAny (model X.prog X.w) X.A (pyIter (.str x t)) (PIE X pins σ tg R) X.xe s := by
  cases ha : x.cps.all (· < 128) with
  | false => exact wpAny_pyIter_wide ha (pi_one (tk := s.toks) I _ (turn_str _ x t "str_iterator" (.inr rfl)) ⟨_, Heap.get?_push_size _ rfl, rfl, rfl⟩ q)
  | true => exact wpAny_pyIter_ascii ha (pi_one (tk := s.toks) I _ (turn_str _ x t "str_ascii_iterator" (.inl rfl)) ⟨_, Heap.get?_push_size _ rfl, rfl, rfl⟩ q)
end
theorem ji_any {C : Jc} {ρ : Rho} {tg e : Expr} {Φ : List Pd → Rho → Prop} (h : JE C ρ e fun d ρ1 => IterK d fun ds => Φ ds ρ1) : JI C ρ tg e Φ :=
  ⟨fun G0 H0 G H σ S R ok ex pins s I => thn (h.run G0 H0 G H σ S (fun v H1 => ∀ s1 u, Inv C.X pins σ H1 s1 → RelV v u → wpAny (model C.X.prog C.X.w) C.X.A (pyIter u) (PIE C.X pins σ tg R) C.X.xe s1) (fun d ρ1 v G1 H1 h1 S1 g1 r1 s1 u I1 rv => by
    cases r1 with
    | lst q r =>
      cases rv
      exact it_list I1 (SqL.of (S1.gh _ _ q)) (ok _ ρ1 _ G1 H1 h1 S1 g1 (its_list q r))
    | tup q r =>
      cases rv
      exact it_tup I1 (S1.gh.st q) (ok _ ρ1 _ G1 H1 h1 S1 g1 (its_tup q r))
    | str x =>
      obtain ⟨t, rfl⟩ := rv
      exact it_str I1 (ok _ ρ1 _ G1 H1 h1 S1 g1 its_str)
    | _ => exact h1.elim) ex pins s I) fun v s1 ⟨w, H1, I1, rv, q⟩ => q s1 v I1 rv⟩
theorem ji_own {C : Jc} {ρ : Rho} {tg e : Expr} {Φ : List Pd → Rho → Prop} (h : JF C ρ e Φ) : JI C ρ tg e Φ := ji_list (je_fr (h.to fun d ρ' _ q => ⟨d, rfl, q⟩))
theorem jt_fr {C : Jc} {ρ : Rho} {e : Expr} {Φ : Bool → Rho → Prop} (h : JF C ρ e fun ds ρ1 => Φ (!ds.isEmpty) ρ1) (he : ∀ whole, isTrue e C.X.env whole = (do let v ← whole; standAt e.pos; holding [v] (truthy v))) : JT C ρ e Φ := jt_val (je_fr (h.to fun d ρ' _ q => q)) he
/-! ### what a text's form tells -/
def okX : Expr → Bool
  | .Starred .. => false
  | .Slice .. => false
  | .Set .. => false
  | _ => true
def plT : Expr → Bool
  | .UnaryOp .Not _ _ => false
  | .BoolOp .. => false
  | .IfExp .. => false
  | .Compare .. => false
  | _ => true
theorem pl_true {e : Expr} (h : plT e = true) (env : Env) (whole : Sem Value) : isTrue e env whole = (do let v ← whole; standAt e.pos; holding [v] (truthy v)) := by
  cases e with
  | UnaryOp op x p => cases op <;> first | rfl | cases h
  | BoolOp => cases h
  | IfExp => cases h
  | Compare => cases h
  | _ => rfl
theorem ok_star {e : Expr} {es : List Expr} {env : Env} (h : okX e = true) : starEach (e :: es) env = (false, eval e env) :: starEach es env := by
  cases e <;> first | rfl | cases h
theorem ok_pl {e : Expr} (h : okX e = true) : PlainIx e := by
  cases e <;> first | exact fun _ _ => rfl | cases h
theorem ok_marks {e : Expr} {op : CmpOp} (h : okX e = true) : behindInMarks op e = false := by
  cases e <;> first | rfl | cases h
theorem ok_fold {e : Expr} {env : Env} (h : okX e = true) (x : Value) : foldedSetIterable e env x = pure x := by
  cases e <;> first | rfl | cases h
theorem back_none (pos : Pos) : ∀ (l : List (Bool × Sem Value)), (∀ p ∈ l, p.1 = false) → (backTo pos l).any (·.1) = false ∧ (backTo pos l).all (fun x => !x.1) = true
  | [], _ => ⟨rfl, rfl⟩
  | (b, t) :: r, h => by
    have hb : b = false := h (b, t) (List.mem_cons_self ..)
    subst hb
    have z := back_none pos r fun p hp => h p (List.mem_cons_of_mem _ hp)
    exact ⟨z.1, z.2⟩
theorem star_none {env : Env} : ∀ {es : List Expr}, (∀ e ∈ es, okX e = true) → ∀ p ∈ starEach es env, p.1 = false
  | [], _, p, hp => by cases hp
  | e :: r, h, p, hp => by
    rw [ok_star (h e (List.mem_cons_self ..))] at hp
    rcases List.mem_cons.mp hp with hp | hp
    · rw [hp]
    · exact star_none (fun e he => h e (List.mem_cons_of_mem _ he)) p hp
theorem fit_ok {nm : Nm} {sc : Scope} : ∀ {r : IE} {e : Expr}, fitE nm sc r e = true → okX e = true := fun {r e} h => by
  cases e with
  | Starred => cases r <;> cases h
  | Slice => cases r <;> cases h
  | Set => cases r <;> cases h
  | _ => rfl
def isTst : IE → Bool
  | .cmp .. => true
  | .chn .. => true
  | .and .. => true
  | .or .. => true
  | .one .. => true
  | .not .. => true
  | .ife .. => true
  | .nilv .. => true
  | .cmpo .. => true
  | _ => false
theorem fit_pl {nm : Nm} {sc : Scope} {r : IE} {e : Expr} (hr : isTst r = false) (h : fitE nm sc r e = true) : plT e = true := by
  cases e with
  | UnaryOp op x p =>
    cases op with
    | Not => cases r <;> first | cases hr; done | cases h
    | _ => rfl
  | BoolOp => cases r <;> first | cases hr; done | cases h
  | IfExp => cases r <;> first | cases hr; done | cases h
  | Compare => cases r <;> first | cases hr; done | cases h
  | _ => rfl
theorem fitA_ok {nm : Nm} {sc : Scope} : ∀ {a : IA} {es : List Expr}, fitA nm sc a es = true → ∀ e ∈ es, okX e = true
  | .nil, [], _, e, he => by cases he
  | .nil, _ :: _, h, _, _ => by cases h
  | .cons a r, [], h, _, _ => by cases h
  | .cons a r, x :: xs, h, e, he => by
    have h : (fitE nm sc a x && fitA nm sc r xs) = true := h
    rw [Bool.and_eq_true] at h
    rcases List.mem_cons.mp he with he | he
    · rw [he]; exact fit_ok h.1
    · exact fitA_ok h.2 e he
theorem isBo_tst {r : IE} {e : Expr} {nm : Nm} {sc : Scope} (hr : isBo r = true) (h : fitE nm sc r e = true) : ∃ op es p, e = .BoolOp op es p := by
  cases e with
  | BoolOp op es p => exact ⟨op, es, p, rfl⟩
  | _ => cases r <;> first | cases hr; done | cases h
/-! ### where one stands -/
def FspOk (M : Md) (k : Nat) (x : Str) : Fsp → Prop
  | .d n S dl => ∃ j, j ≤ k ∧ Fo M x j n (fun K n => spD K n S) dl
  | .i n S dl => ∃ j, j ≤ k ∧ Fo M x j n (fun K n => spI K n S) dl
  | .q n S dl => ∃ j, j ≤ k ∧ Fo M x j n (fun K n => spQ K n S) dl
  | .no => True
structure TbOk (M : Md) (k : Nat) (nm : Nm) (tb : Tb) : Prop where
  fs : ∀ (i : Nat) x p, nt nm.fs i = some x → nt tb.fs i = some p → FspOk M k x p.2
  gs : ∀ (i : Nat) x p, nt nm.gs i = some x → nt tb.gs i = some p → Gk M.K M.mg x p.2
  xs : ∀ (i : Nat) x p, nt nm.xs i = some x → nt tb.xs i = some p → XcK M.K M.mg x p.2
structure Kx (tb : Tb) (nm : Nm) (sc : Scope) (C : Jc) (k : Nat) : Prop where
  c : Jok C k
  N : C.X.N = nm.N
  sc : C.X.env.scope = sc
  tb : TbOk (mdX C.X) k nm tb
theorem Kx.blk {tb : Tb} {nm : Nm} {sc : Scope} {C : Jc} {k : Nat} (x : Kx tb nm sc C k) (scope : Scope) (s : Shared) (H : Hp) (Cc : Addr) (cl : List (Str × Addr)) (fp : List Addr) : Kx tb nm (relS scope sc) (blkJ C scope s H Cc cl fp) k :=
  ⟨x.c.blk scope s H Cc cl fp, x.N, (by rw [← x.sc]; rfl), x.tb⟩
theorem Kx.gl {tb : Tb} {nm : Nm} {sc : Scope} {C : Jc} {k : Nat} (K : Kx tb nm sc C k) {x : Str} (h : glB sc x = true) : Gl C.X x := by
  have h := of_decide_eq_true h
  show C.X.env.scope.names.lookup x = _
  rw [K.sc]
  exact h
end KJ

set_option Elab.async false
set_option linter.all false
set_option maxRecDepth 100000
set_option maxHeartbeats 4100000
/-! K5: an expression's reading is right. -/
namespace KJ
open PySem PySem.Spec L2 PyProof.Rows
theorem CmpK.imp {op : CmpOp} {d e : Pd} {Φ Φ' : Bool → Prop} (h : CmpK op d e Φ) (k : ∀ z, Φ z → Φ' z) : CmpK op d e Φ' := by
  cases op <;> cases d <;> cases e <;> first
    | exact k _ h
    | exact ⟨h.1, k _ h.2⟩
    | exact h.elim
structure SndE (tb : Tb) (nm : Nm) (r : IE) : Prop where
  e : ∀ {sc : Scope} {C : Jc} {k : Nat} {ex : Expr} {ρ : Rho} {Φ : Pd → Rho → Prop}, Kx tb nm sc C k → fitE nm sc r ex = true → (semE tb r).e C.Ξ ρ Φ → JE C ρ ex Φ
  f : ∀ {sc : Scope} {C : Jc} {k : Nat} {ex : Expr} {ρ : Rho} {Φ : List Pd → Rho → Prop}, Kx tb nm sc C k → fitE nm sc r ex = true → (semE tb r).f C.Ξ ρ Φ → JF C ρ ex Φ
  t : ∀ {sc : Scope} {C : Jc} {k : Nat} {ex : Expr} {ρ : Rho} {Φ : Bool → Rho → Prop}, Kx tb nm sc C k → fitE nm sc r ex = true → (semE tb r).t C.Ξ ρ Φ → JT C ρ ex Φ
  w : isBo r = true → ∀ {sc : Scope} {C : Jc} {k : Nat} {ex : Expr} {ρ : Rho} {Φ : Bool → Rho → Prop}, Kx tb nm sc C k → fitE nm sc r ex = true → (semE tb r).t C.Ξ ρ Φ → JW C ρ ex Φ
  it : ∀ {sc : Scope} {C : Jc} {k : Nat} {tg ex : Expr} {ρ : Rho} {Φ : List Pd → Rho → Prop}, Kx tb nm sc C k → fitE nm sc r ex = true → (semE tb r).it C.Ξ ρ Φ → JI C ρ tg ex Φ
section
variable {tb : Tb} {nm : Nm} {r : IE}
theorem isBo_no (h : isTst r = false) (h2 : isBo r = true) : False := by
  cases r <;> first | cases h; done | cases h2
theorem mkE {w : WE} (hs : semE tb r = .ofE w) (hb : isTst r = false) (h : ∀ {sc : Scope} {C : Jc} {k : Nat} {ex : Expr} {ρ : Rho} {Φ : Pd → Rho → Prop}, Kx tb nm sc C k → fitE nm sc r ex = true → w C.Ξ ρ Φ → JE C ρ ex Φ) : SndE tb nm r where
  e := fun K f q => h K f (by rw [hs] at q; exact q)
  f := fun K f q => by rw [hs] at q; exact q.elim
  t := fun K f q => by rw [hs] at q; exact jt_val (h K f q) (fun whole => pl_true (fit_pl hb f) _ whole)
  w := fun h => (isBo_no hb h).elim
  it := fun K f q => by rw [hs] at q; exact ji_any (h K f q)
theorem mkF {w : WF} (hs : semE tb r = .ofF w) (hb : isTst r = false) (h : ∀ {sc : Scope} {C : Jc} {k : Nat} {ex : Expr} {ρ : Rho} {Φ : List Pd → Rho → Prop}, Kx tb nm sc C k → fitE nm sc r ex = true → w C.Ξ ρ Φ → JF C ρ ex Φ) : SndE tb nm r where
  e := fun K f q => by rw [hs] at q; exact je_fr (h K f q)
  f := fun K f q => by rw [hs] at q; exact h K f q
  t := fun K f q => by rw [hs] at q; exact jt_fr (h K f q) (fun whole => pl_true (fit_pl hb f) _ whole)
  w := fun h => (isBo_no hb h).elim
  it := fun K f q => by rw [hs] at q; exact ji_own (h K f q)
theorem mkT {w : WE} {t : WT} (hs : semE tb r = .ofT w t) (hb : isBo r = false) (h : ∀ {sc : Scope} {C : Jc} {k : Nat} {ex : Expr} {ρ : Rho} {Φ : Pd → Rho → Prop}, Kx tb nm sc C k → fitE nm sc r ex = true → w C.Ξ ρ Φ → JE C ρ ex Φ)
    (h2 : ∀ {sc : Scope} {C : Jc} {k : Nat} {ex : Expr} {ρ : Rho} {Φ : Bool → Rho → Prop}, Kx tb nm sc C k → fitE nm sc r ex = true → t C.Ξ ρ Φ → JT C ρ ex Φ) : SndE tb nm r where
  e := fun K f q => h K f (by rw [hs] at q; exact q)
  f := fun K f q => by rw [hs] at q; exact q.elim
  t := fun K f q => h2 K f (by rw [hs] at q; exact q)
  w := fun h => by rw [hb] at h; cases h
  it := fun K f q => by rw [hs] at q; exact q.elim
theorem mkB {w : WE} {t : WT} (hs : semE tb r = .ofT w t) (h : ∀ {sc : Scope} {C : Jc} {k : Nat} {ex : Expr} {ρ : Rho} {Φ : Pd → Rho → Prop}, Kx tb nm sc C k → fitE nm sc r ex = true → w C.Ξ ρ Φ → JE C ρ ex Φ)
    (h2 : ∀ {sc : Scope} {C : Jc} {k : Nat} {ex : Expr} {ρ : Rho} {Φ : Bool → Rho → Prop}, Kx tb nm sc C k → fitE nm sc r ex = true → t C.Ξ ρ Φ → JW C ρ ex Φ) : SndE tb nm r where
  e := fun K f q => h K f (by rw [hs] at q; exact q)
  f := fun K f q => by rw [hs] at q; exact q.elim
  t := fun K f q => jt_w (h2 K f (by rw [hs] at q; exact q))
  w := by
    intro _ sc C k ex ρ Φ K f q
    exact h2 K f (by rw [hs] at q; exact q)
  it := fun K f q => by rw [hs] at q; exact q.elim
theorem mkI {w : WF} (hs : semE tb r = .ofI w) (hb : isTst r = false) (h : ∀ {sc : Scope} {C : Jc} {k : Nat} {tg ex : Expr} {ρ : Rho} {Φ : List Pd → Rho → Prop}, Kx tb nm sc C k → fitE nm sc r ex = true → w C.Ξ ρ Φ → JI C ρ tg ex Φ) : SndE tb nm r where
  e := fun K f q => by rw [hs] at q; exact q.elim
  f := fun K f q => by rw [hs] at q; exact q.elim
  t := fun K f q => by rw [hs] at q; exact q.elim
  w := fun h => (isBo_no hb h).elim
  it := fun K f q => h K f (by rw [hs] at q; exact q)
end
structure SndA (tb : Tb) (nm : Nm) (r : IA) : Prop where
  a : ∀ {sc : Scope} {C : Jc} {k : Nat} {ex : List Expr} {ρ : Rho} {Φ : List Pd → Rho → Prop}, Kx tb nm sc C k → fitA nm sc r ex = true → semA tb r C.Ξ ρ Φ → JA C ρ ex Φ
structure SndO (tb : Tb) (nm : Nm) (r : IO) : Prop where
  o : ∀ {sc : Scope} {C : Jc} {k : Nat} {ex : Option Expr} {ρ : Rho} {Φ : Option Int → Rho → Prop}, Kx tb nm sc C k → fitO nm sc r ex = true → semO tb r C.Ξ ρ Φ → JO C ρ ex Φ
/-! ### names -/
section
variable {tb : Tb} {nm : Nm} {sc : Scope} {C : Jc} {k : Nat} {i : Nat} {x : Str}
theorem ba3 {a b c : Bool} (h : (a && (b && c)) = true) : a = true ∧ b = true ∧ c = true := by
  rw [Bool.and_eq_true, Bool.and_eq_true] at h; exact h
theorem okN_d (h : okN x = true) : (x == ("__debug__" : Str)) = false ∧ (x == ("__classdict__" : Str)) = false := by
  unfold okN at h
  rw [Bool.and_eq_true] at h
  exact ⟨Bool.not_eq_true' _ ▸ h.1, Bool.not_eq_true' _ ▸ h.2⟩
theorem isN_n {l : List Str} (h : isN l i x = true) : nt l i = some x := of_decide_eq_true h
structure Rd3 (C : Jc) (nm : Nm) (i : Nat) (x : Str) : Prop where
  n : nt nm.N i = some x
  v : visB C.X.env.scope x = true
  d : (x == ("__debug__" : Str)) = false
  c : (x == ("__classdict__" : Str)) = false
theorem rd_of (K : Kx tb nm sc C k) (h : rdB nm sc i x = true) : Rd3 C nm i x := by
  obtain ⟨h1, h2, h3⟩ := ba3 h
  exact ⟨isN_n h1, by rw [K.sc]; exact h2, (okN_d h3).1, (okN_d h3).2⟩
theorem gf_of (K : Kx tb nm sc C k) {y : Str} (h : gfB sc x y = true) : x = y ∧ Gl C.X y := by
  unfold gfB at h
  rw [Bool.and_eq_true] at h
  have e := of_decide_eq_true h.1
  subst e
  exact ⟨rfl, K.gl h.2⟩
end
theorem back1 {e : Expr} {pos : Pos} {env : Env} (h : okX e = true) : ((backTo pos (starEach [e] env)).all (fun x => !x.1) && (backToKw pos (keywordEach [] env)).all (fun x => x.1.isSome) && decide ([e].length + ([] : List Keyword).length + (if ([] : List Keyword).isEmpty then 0 else 1) < 30)) = true := by
  rw [ok_star h]; rfl
theorem back2 {e f : Expr} {pos : Pos} {env : Env} (h : okX e = true) (h2 : okX f = true) : ((backTo pos (starEach [e, f] env)).all (fun x => !x.1) && (backToKw pos (keywordEach [] env)).all (fun x => x.1.isSome) && decide ([e, f].length + ([] : List Keyword).length + (if ([] : List Keyword).isEmpty then 0 else 1) < 30)) = true := by
  rw [ok_star h, ok_star h2]; rfl
theorem lcB_of {tb : Tb} {nm : Nm} {sc scope : Scope} {C : Jc} {k j : Nat} {y : Str} (K : Kx tb nm sc C k) (h : lcB nm sc scope j y = true) : nt nm.N j = some y ∧ C.X.N[j]? = some y ∧ blkC C.X.N C.X.env.scope scope [(y, j)] = true ∧ locB (relS scope C.X.env.scope) y = true ∧ ((scope.names.lookup y == some .cell) = true ∨ (relS scope C.X.env.scope).names.lookup y = some .local) := by
  unfold lcB at h
  simp only [Bool.and_eq_true, Bool.or_eq_true] at h
  obtain ⟨h1, h2, h3, h4⟩ := h
  rw [K.N, K.sc]
  refine ⟨isN_n h1, nt_ix (isN_n h1), h2, h3, h4.imp id of_decide_eq_true⟩
section
variable {C : Jc} {ρ1 : Rho} {k j : Nat} {scope : Scope} {y : Str} {elt t : Expr} {Φ Φ' : List Pd → Rho → Prop} {ds : List Pd}
theorem rE_eq {Φ : Pd → Rho → Prop} : rE C ρ1 Φ = rsE C.Ξ ρ1 Φ := by
  funext r; cases r <;> rfl
theorem rF_eq {Φ : List Pd → Rho → Prop} : rF C ρ1 Φ = rsF C.Ξ ρ1 Φ := by
  funext r; cases r <;> rfl
theorem post_eqE {a : Addr} {Φ : Pd → Rho → Prop} (hn : C.X.N.Nodup) (hm : ρ1.map (·.1) = C.X.N) (hy : nt C.X.N j = some y) : (fun r w' => ∃ ρ2, Up ρ1 y (.ow a w') ρ2 ∧ rE C ρ2 Φ r) = fun r w' => rsE C.Ξ (putS ρ1 j (.ow a w')) Φ r := by
  funext r w'
  refine propext ⟨fun ⟨ρ2, u, h⟩ => ?_, fun h => ⟨_, up_of hm hy, by rw [rE_eq]; exact h⟩⟩
  rw [up_eq hn hm hy u, rE_eq] at h
  exact h
theorem post_eqF {a : Addr} {Φ : List Pd → Rho → Prop} (hn : C.X.N.Nodup) (hm : ρ1.map (·.1) = C.X.N) (hy : nt C.X.N j = some y) : (fun r w' => ∃ ρ2, Up ρ1 y (.ow a w') ρ2 ∧ rF C ρ2 Φ r) = fun r w' => rsF C.Ξ (putS ρ1 j (.ow a w')) Φ r := by
  funext r w'
  refine propext ⟨fun ⟨ρ2, u, h⟩ => ?_, fun h => ⟨_, up_of hm hy, by rw [rF_eq]; exact h⟩⟩
  rw [up_eq hn hm hy u, rF_eq] at h
  exact h
theorem inj : ∀ (a b : List Int), a.map V.int = b.map V.int → a = b
  | [], [], _ => rfl
  | [], _ :: _, h => by cases h
  | _ :: _, [], h => by cases h
  | x :: a, y :: b, h => by
    injection h with h1 h2
    injection h1 with h3
    rw [h3, inj a b h2]
theorem je_subs' {ρ : Rho} {x : Str} {a : Addr} {xs : List V} {b : Expr} {p pos : Pos} {Φ : Pd → Rho → Prop} (l : Lk ρ x (.sq a xs)) (h : JE C ρ b fun e ρ2 => ∃ i, e = .int i ∧ ∃ ns : List Int, xs = ns.map V.int ∧ ∃ z, L2.atI ns i = some z ∧ Φ (.int z) ρ2) (hs : PlainIx b)
    (hv : visB C.X.env.scope x = true) (hd : (x == ("__debug__" : Str)) = false) (hc : (x == ("__classdict__" : Str)) = false) : JE C ρ (.Subscript (.Name x p) b pos) Φ := by
  by_cases hx : ∃ ns : List Int, xs = ns.map V.int
  · obtain ⟨ns, rfl⟩ := hx
    refine je_subs l (h.imp fun e ρ2 ⟨i, e1, ms, e2, z, h1, h2⟩ => ⟨i, z, e1, ?_, h2⟩) hs hv hd hc
    have : ms = ns := (inj ns ms e2).symm
    rw [← this]; exact h1
  · exact ⟨fun G0 H0 G H σ S Q ok ex => t_pe (pe_ix ix_t pe_t pe_t hs) (name_sq l S (fun q => h.run G0 H0 G H σ S _ (fun d ρ1 v G1 H1 ⟨i, _, ms, e2, _⟩ S1 g1 r1 => absurd ⟨ms, e2⟩ hx) ex) hv hd hc)⟩
/-- from the small language's turns to the rule's -/
theorem lck0 (c : Jok C k) (hm : ρ1.map (·.1) = C.X.N) (hy : nt C.X.N j = some y) {E : Rho → (Pd → Rho → Prop) → Prop} (hE : ∀ s H Cc cl fp ρ Φ, E ρ Φ → JE (blkJ C scope s H Cc cl fp) ρ elt Φ) (h : LcK0 j E Φ ds ρ1) (kk : ∀ acc ρ', ρ'.map (·.1) = C.X.N → Φ acc ρ' → Φ' acc ρ') : LcP C scope y elt [] Φ' ds ρ1 := by
  unfold LcK0 at h
  obtain ⟨h0, α, xs, enc, f, rfl, hl, step, fin⟩ := h
  refine ⟨α, xs, enc, f, fun _ => true, getS ρ1 j, rfl, lk_of hm hy, h0, hl, fun x hx => ⟨_, up_of hm hy, fun s H Cc cl fp => jx_nil ⟨rfl, rfl⟩, fun _ s H Cc cl fp => hE s H Cc cl fp _ _ (step x hx)⟩, ?_⟩
  rw [List.filter_eq_self.mpr fun _ _ => rfl]
  exact kk _ _ hm fin
theorem lck (c : Jok C k) (hm : ρ1.map (·.1) = C.X.N) (hy : nt C.X.N j = some y) {E : Rho → (Pd → Rho → Prop) → Prop} {T : Rho → (Bool → Rho → Prop) → Prop} (hE : ∀ s H Cc cl fp ρ Φ, E ρ Φ → JE (blkJ C scope s H Cc cl fp) ρ elt Φ) (hT : ∀ s H Cc cl fp ρ Φ, T ρ Φ → JT (blkJ C scope s H Cc cl fp) ρ t Φ) (h : LcK j T E Φ ds ρ1) (kk : ∀ acc ρ', ρ'.map (·.1) = C.X.N → Φ acc ρ' → Φ' acc ρ') : LcP C scope y elt [t] Φ' ds ρ1 := by
  unfold LcK at h
  obtain ⟨h0, α, xs, enc, f, q, rfl, hl, step, fin⟩ := h
  exact ⟨α, xs, enc, f, q, getS ρ1 j, rfl, lk_of hm hy, h0, hl, fun x hx => ⟨_, up_of hm hy, fun s H Cc cl fp => jx_one (hT s H Cc cl fp _ _ (step x hx).1), fun hq s H Cc cl fp => hE s H Cc cl fp _ _ ((step x hx).2 hq)⟩, kk _ _ hm fin⟩
theorem lcsk0 (c : Jok C k) (hm : ρ1.map (·.1) = C.X.N) (hy : nt C.X.N j = some y) {E : Rho → (Pd → Rho → Prop) → Prop} (hE : ∀ s H Cc cl fp ρ Φ, E ρ Φ → JE (blkJ C scope s H Cc cl fp) ρ elt Φ) (h : LcSK0 j E Φ ds ρ1) (kk : ∀ acc ρ', ρ'.map (·.1) = C.X.N → Φ acc ρ' → Φ' acc ρ') : LcS C scope y elt [] Φ' ds ρ1 := by
  unfold LcSK0 at h
  obtain ⟨h0, hl, I, i0, step, fin⟩ := h
  refine lcs_map c (fun i acc ρ => ρ.map (·.1) = C.X.N ∧ I i acc ρ ∧ acc.length ≤ i) (lk_of hm hy) h0 (up_of hm hy) hl ⟨putS_nm.trans hm, i0, Nat.le_refl 0⟩ (fun i z acc ρ2 hz ⟨hm2, hI, ha⟩ => ⟨_, up_of hm2 hy, fun s H Cc cl fp cb => ?_⟩) fun acc ρ2 ⟨hm2, hI, _⟩ => ⟨_, up_of hm2 hy, kk _ _ (putS_nm.trans hm2) (fin acc ρ2 hI)⟩
  refine (hE s H Cc cl fp _ _ (step i z acc ρ2 hz hI ha)).to fun w ρ5 hm5 q => ⟨_, up_of hm5 hy, putS_nm.trans hm5, q, ?_⟩
  rw [List.length_append, List.length_singleton]; omega --k
theorem lcsk (c : Jok C k) (hm : ρ1.map (·.1) = C.X.N) (hy : nt C.X.N j = some y) {E : Rho → (Pd → Rho → Prop) → Prop} {T : Rho → (Bool → Rho → Prop) → Prop} (hE : ∀ s H Cc cl fp ρ Φ, E ρ Φ → JE (blkJ C scope s H Cc cl fp) ρ elt Φ) (hT : ∀ s H Cc cl fp ρ Φ, T ρ Φ → JT (blkJ C scope s H Cc cl fp) ρ t Φ) (h : LcSK j T E Φ ds ρ1) (kk : ∀ acc ρ', ρ'.map (·.1) = C.X.N → Φ acc ρ' → Φ' acc ρ') : LcS C scope y elt [t] Φ' ds ρ1 := by
  unfold LcSK at h
  obtain ⟨h0, hl, I, i0, step, fin⟩ := h
  refine lcs_if c (fun i acc ρ => ρ.map (·.1) = C.X.N ∧ I i acc ρ ∧ acc.length ≤ i) (lk_of hm hy) h0 (up_of hm hy) hl ⟨putS_nm.trans hm, i0, Nat.le_refl 0⟩ (fun i z acc ρ2 hz ⟨hm2, hI, ha⟩ => ⟨_, up_of hm2 hy, fun s H Cc cl fp cb => ?_⟩) fun acc ρ2 ⟨hm2, hI, _⟩ => ⟨_, up_of hm2 hy, kk _ _ (putS_nm.trans hm2) (fin acc ρ2 hI)⟩
  refine (hT s H Cc cl fp _ _ (step i z acc ρ2 hz hI ha)).to fun b ρ4 hm4 q => ⟨fun hb s H Cc cl fp cb => (hE s H Cc cl fp _ _ (q.1 hb)).to fun w ρ5 hm5 q5 => ⟨_, up_of hm5 hy, putS_nm.trans hm5, q5, ?_⟩, fun hb => ⟨_, up_of hm4 hy, putS_nm.trans hm4, q.2 hb, by omega⟩⟩
  rw [List.length_append, List.length_singleton]; omega --k
end
end KJ

set_option Elab.async false
set_option linter.all false
set_option maxRecDepth 100000
set_option maxHeartbeats 4100000
/-! K6: every expression's reading is right. -/
namespace KJ
open PySem PySem.Spec L2 PyProof.Rows
theorem IntsQ.k {d : Pd} {Φ : List Int → Prop} (h : IntsQ d Φ) : IntsK d Φ := by unfold IntsQ at h; exact h
theorem SrtK.ex {d : Pd} {Φ : List Pd → Prop} (h : SrtK d Φ) : ∃ ds, d = .list ds ∧ SrtOk ds ∧ Φ (sortD ds) := by unfold SrtK at h; exact h
theorem B1K_len {d : Pd} {Φ : Pd → Prop} (h : B1K .len d Φ) : LenK d Φ := by
  cases d <;> first | exact h | exact h.elim
mutual
theorem sndE (tb : Tb) (nm : Nm) : ∀ r : IE, SndE tb nm r
  | .v i => mkE rfl rfl fun {sc C k ex ρ Φ} K h q => by
    simp only [fitE] at h
    split at h
    · rename_i x p
      have R := rd_of K h
      refine JE.nm fun hm => ?_
      rw [K.N] at hm
      have q : wV i C.Ξ ρ Φ := q
      unfold wV at q
      have l := lk_of hm R.n
      split at q
      · rename_i d e
        exact je_name (e ▸ l) q R.v R.d R.c
      · rename_i a ds e
        exact je_namef K.c (e ▸ l) (up_of hm R.n) q R.v R.d R.c
      · exact q.elim
    · cases h
  | .g i => mkE rfl rfl fun {sc C k ex ρ Φ} K h q => by
    simp only [fitE] at h
    split at h
    · rename_i x p
      obtain ⟨h1, h2, h3⟩ := ba3 h
      split at q
      · rename_i z e
        exact je_glob (K.tb.gs i x z (isN_n h1) e) q (K.gl h2) (okN_d h3).1
      · exact q.elim
    · cases h
  | .int i => mkE rfl rfl fun {sc C k ex ρ Φ} K h q => by
    simp only [fitE] at h
    split at h
    · have := of_decide_eq_true h; subst this; exact je_int q
    · cases h
  | .str i => mkE rfl rfl fun {sc C k ex ρ Φ} K h q => by
    simp only [fitE] at h
    split at h
    · have := of_decide_eq_true h; subst this; exact je_str q
    · cases h
  | .bl i => mkE rfl rfl fun {sc C k ex ρ Φ} K h q => by
    simp only [fitE] at h
    split at h
    · have := of_decide_eq_true h; subst this; exact je_bl q
    · cases h
  | .non => mkE rfl rfl fun {sc C k ex ρ Φ} K h q => by
    simp only [fitE] at h
    split at h
    · exact je_non q
    · cases h
  | .cmp op a b => mkT rfl rfl (fun {sc C k ex ρ Φ} K h q => by
    simp only [fitE] at h
    split at h
    · obtain ⟨h0, h1, h2⟩ := ba3 h
      have := of_decide_eq_true h0; subst this
      exact je_cmp K.c (((sndE tb nm a).e K h1 q).to fun d1 ρ1 _ q1 => ((sndE tb nm b).e K h2 q1).to fun d2 ρ2 _ q2 => q2.k) (ok_marks (fit_ok h2))
    · cases h) (fun {sc C k ex ρ Φ} K h q => by
    simp only [fitE] at h
    split at h
    · obtain ⟨h0, h1, h2⟩ := ba3 h
      have := of_decide_eq_true h0; subst this
      exact jt_cmp K.c (((sndE tb nm a).e K h1 q).to fun d1 ρ1 _ q1 => ((sndE tb nm b).e K h2 q1).to fun d2 ρ2 _ q2 => q2.k) (ok_marks (fit_ok h2))
    · cases h)
  | .chn op op' a b c => mkT rfl rfl (fun {sc C k ex ρ Φ} K h q => by
    simp only [fitE] at h
    split at h
    · simp only [Bool.and_eq_true, decide_eq_true_eq] at h --k
      obtain ⟨rfl, rfl, h1, h2, h3⟩ := h
      exact je_chain K.c (((sndE tb nm a).e K h1 q).to fun d1 ρ1 _ q1 => ((sndE tb nm b).e K h2 q1).to fun d2 ρ2 _ q2 => CmpK.imp q2.k fun z q3 => ⟨fun e => ((sndE tb nm c).e K h3 (q3.1 e)).to fun d3 ρ3 _ q4 => q4.k, q3.2⟩) (ok_marks (fit_ok h3))
    · cases h) (fun {sc C k ex ρ Φ} K h q => by
    simp only [fitE] at h
    split at h
    · simp only [Bool.and_eq_true, decide_eq_true_eq] at h --k
      obtain ⟨rfl, rfl, h1, h2, h3⟩ := h
      exact jt_chain K.c (((sndE tb nm a).e K h1 q).to fun d1 ρ1 _ q1 => ((sndE tb nm b).e K h2 q1).to fun d2 ρ2 _ q2 => CmpK.imp q2.k fun z q3 => ⟨fun e => ((sndE tb nm c).e K h3 (q3.1 e)).to fun d3 ρ3 _ q4 => q4.k, q3.2⟩) (ok_marks (fit_ok h3))
    · cases h)
  | .bin op a b => mkE rfl rfl fun {sc C k ex ρ Φ} K h q => by
    simp only [fitE] at h
    split at h
    · obtain ⟨h0, h1, h2⟩ := ba3 h
      have := of_decide_eq_true h0; subst this
      exact je_bin (((sndE tb nm a).e K h1 q).to fun d1 ρ1 _ q1 => ((sndE tb nm b).e K h2 q1).to fun d2 ρ2 _ q2 => q2)
    · cases h
  | .neg a => mkE rfl rfl fun {sc C k ex ρ Φ} K h q => by
    simp only [fitE] at h
    split at h
    · exact je_neg (((sndE tb nm a).e K h q).to fun d1 ρ1 _ q1 => IntE.ex q1)
    · cases h
  | .and a b => mkB rfl (fun {sc C k ex ρ Φ} K h q => by
    simp only [fitE] at h
    split at h
    · obtain ⟨h0, h1, h2⟩ := ba3 h
      exact je_and (((sndE tb nm a).e K h1 q).to fun d1 ρ1 _ q1 => by
        obtain ⟨z, e, q2, q3⟩ := BoolE.ex q1
        exact ⟨z, e, fun e2 => (sndE tb nm b).e K h2 (q2 e2), q3⟩)
    · cases h) (fun {sc C k ex ρ Φ} K h q => by
    simp only [fitE] at h
    split at h
    · obtain ⟨h0, h1, h2⟩ := ba3 h
      exact jw_and (((sndE tb nm a).t K h1 q).to fun d1 ρ1 _ q1 => ⟨fun e2 => (sndE tb nm b).w h0 K h2 (q1.1 e2), q1.2⟩)
    · cases h)
  | .or a b => mkB rfl (fun {sc C k ex ρ Φ} K h q => by
    simp only [fitE] at h
    split at h
    · obtain ⟨h0, h1, h2⟩ := ba3 h
      exact je_or (((sndE tb nm a).e K h1 q).to fun d1 ρ1 _ q1 => by
        obtain ⟨z, e, q2, q3⟩ := BoolE.ex q1
        exact ⟨z, e, fun e2 => (sndE tb nm b).e K h2 (q2 e2), q3⟩)
    · cases h) (fun {sc C k ex ρ Φ} K h q => by
    simp only [fitE] at h
    split at h
    · obtain ⟨h0, h1, h2⟩ := ba3 h
      exact jw_or (((sndE tb nm a).t K h1 q).to fun d1 ρ1 _ q1 => ⟨fun e2 => (sndE tb nm b).w h0 K h2 (q1.1 e2), q1.2⟩)
    · cases h)
  | .one a => mkB rfl (fun {sc C k ex ρ Φ} K h q => by
    simp only [fitE] at h
    split at h
    · exact je_1 ((sndE tb nm a).e K h q)
    · cases h) (fun {sc C k ex ρ Φ} K h q => by
    simp only [fitE] at h
    split at h
    · exact jw_1 ((sndE tb nm a).t K h q)
    · cases h)
  | .not a => mkT rfl rfl (fun {sc C k ex ρ Φ} K h q => by
    simp only [fitE] at h
    split at h
    · exact je_not (((sndE tb nm a).e K h q).to fun d1 ρ1 _ q1 => BoolE.ex q1)
    · cases h) (fun {sc C k ex ρ Φ} K h q => by
    simp only [fitE] at h
    split at h
    · exact jt_not ((sndE tb nm a).t K h q)
    · cases h)
  | .ife t a b => mkT rfl rfl (fun {sc C k ex ρ Φ} K h q => by
    simp only [fitE] at h
    split at h
    · obtain ⟨h0, h1, h2⟩ := ba3 h
      exact je_if (((sndE tb nm t).t K h0 q).to fun z ρ1 _ q1 => ⟨fun e => (sndE tb nm a).e K h1 (q1.1 e), fun e => (sndE tb nm b).e K h2 (q1.2 e)⟩)
    · cases h) (fun {sc C k ex ρ Φ} K h q => q.elim)
  | .tup a => mkE rfl rfl fun {sc C k ex ρ Φ} K h q => by
    simp only [fitE] at h
    split at h
    · exact je_tup ((sndA tb nm a).a K h q)
    · cases h
  | .lst a => mkF rfl rfl fun {sc C k ex ρ Φ} K h q => by
    simp only [fitE] at h
    split at h
    · exact jf_lst ((sndA tb nm a).a K h q)
    · cases h
  | .sub a b => mkE rfl rfl fun {sc C k ex ρ Φ} K h q => by
    simp only [fitE] at h
    split at h
    · rw [Bool.and_eq_true] at h
      exact je_sub (((sndE tb nm a).e K h.1 q).to fun d1 ρ1 _ q1 => ((sndE tb nm b).e K h.2 q1).to fun d2 ρ2 _ q2 => SubE.k q2) (ok_pl (fit_ok h.2))
    · cases h
  | .subv i b => mkE rfl rfl fun {sc C k ex ρ Φ} K h q => by
    simp only [fitE] at h
    split at h
    · rw [Bool.and_eq_true] at h
      have R := rd_of K h.1
      refine JE.nm fun hm => ?_
      rw [K.N] at hm
      have l := lk_of hm R.n
      split at q
      · rename_i d e
        exact je_sub (je_name (e ▸ l) (((sndE tb nm b).e K h.2 q).to fun d2 ρ2 _ q2 => SubE.k q2) R.v R.d R.c) (ok_pl (fit_ok h.2))
      · rename_i a ds e
        refine je_subo (e ▸ l) (((sndE tb nm b).e K h.2 q).to fun d2 ρ2 hm2 q2 => ?_) (ok_pl (fit_ok h.2)) R.v R.d R.c
        rw [K.N] at hm2
        obtain ⟨n, rfl, q3⟩ := IntE.ex q2
        have l2 := lk_of hm2 R.n
        split at q3
        · rename_i a' ds' e2
          obtain ⟨rfl, q3⟩ := q3
          obtain ⟨z, e3, q4⟩ := AtK.ex q3
          exact ⟨n, ds', z, rfl, e2 ▸ l2, e3, q4⟩
        · exact q3.elim
      · rename_i a xs e
        have l : Lk ρ _ (.sq a xs) := e ▸ l
        have q : (semE tb b).e C.Ξ ρ fun e ρ2 => IntE e fun n => ∃ ns : List Int, xs = ns.map V.int ∧ ∃ z, L2.atI ns n = some z ∧ Φ (.int z) ρ2 := q
        exact je_subs' l (((sndE tb nm b).e K h.2 q).to fun d2 ρ2 hm2 q2 => IntE.ex q2) (ok_pl (fit_ok h.2)) R.v R.d R.c
      · exact q.elim
    · cases h
  | .sl a lo hi => mkE rfl rfl fun {sc C k ex ρ Φ} K h q => by
    simp only [fitE] at h
    split at h
    · obtain ⟨h0, h1, h2⟩ := ba3 h
      exact je_sl (((sndE tb nm a).e K h0 q).to fun d1 ρ1 _ q1 => ((sndO tb nm lo).o K h1 q1).to fun i ρ2 _ q2 => (sndO tb nm hi).o K h2 q2)
    · cases h
  | .slv i lo hi => mkF rfl rfl fun {sc C k ex ρ Φ} K h q => by
    simp only [fitE] at h
    split at h
    · obtain ⟨h0, h1, h2⟩ := ba3 h
      have R := rd_of K h0
      refine JF.nm fun hm => ?_
      rw [K.N] at hm
      have l := lk_of hm R.n
      split at q
      · rename_i d e
        obtain ⟨xs, rfl, q⟩ := ListE.ex q
        exact jf_sl (je_name (e ▸ l) ⟨xs, rfl, ((sndO tb nm lo).o K h1 q).to fun i ρ2 _ q2 => (sndO tb nm hi).o K h2 q2⟩ R.v R.d R.c)
      · rename_i a ds e
        refine jf_slo (e ▸ l) (((sndO tb nm lo).o K h1 q).to fun i ρ2 _ q2 => ((sndO tb nm hi).o K h2 q2).to fun j ρ3 hm3 q3 => ?_) R.v R.d R.c
        rw [K.N] at hm3
        have l3 := lk_of hm3 R.n
        split at q3
        · rename_i a' ds' e3
          obtain ⟨rfl, q3⟩ := q3
          exact ⟨ds', e3 ▸ l3, q3⟩
        · exact q3.elim
      · exact q.elim
    · cases h
  | .rev a => mkF rfl rfl fun {sc C k ex ρ Φ} K h q => by
    simp only [fitE] at h
    split at h
    · rw [Bool.and_eq_true] at h
      have := of_decide_eq_true h.1; subst this
      exact jf_rev (((sndE tb nm a).e K h.2 q).to fun d1 ρ1 _ q1 => ListE.ex q1)
    · cases h
  | .lenv i => mkE rfl rfl fun {sc C k ex ρ Φ} K h q => by
    simp only [fitE] at h
    split at h
    · rw [Bool.and_eq_true] at h
      obtain ⟨rfl, hg⟩ := gf_of K h.1
      have R := rd_of K h.2
      refine JE.nm fun hm => ?_
      rw [K.N] at hm
      have l := lk_of hm R.n
      split at q
      · rename_i d e
        exact je_len K.c (je_name (e ▸ l) q R.v R.d R.c) hg (ok_star rfl)
      · rename_i a ds e
        exact je_leno K.c (e ▸ l) q hg R.v R.d R.c
      · rename_i a xs e
        exact je_lens K.c (e ▸ l) q hg R.v R.d R.c
      · exact q.elim
    · cases h
  | .b1 f a => mkE rfl rfl fun {sc C k ex ρ Φ} K h q => by
    simp only [fitE] at h
    split at h
    · rw [Bool.and_eq_true] at h
      obtain ⟨rfl, hg⟩ := gf_of K h.1
      have ha := (sndE tb nm a).e K h.2 q
      have hst := ok_star (es := []) (env := C.X.env) (fit_ok h.2)
      cases f with
      | all => exact je_all K.c (ha.to fun d1 ρ1 _ q1 => by
          cases d1 <;> first | exact ⟨_, congrArg PyData.list (boolsD q1.1), by rw [List.all_map]; exact q1.2⟩ | exact q1.elim) hg hst
      | any => exact je_any K.c (ha.to fun d1 ρ1 _ q1 => by
          cases d1 <;> first | exact ⟨_, congrArg PyData.list (boolsD q1.1), by rw [List.any_map]; exact q1.2⟩ | exact q1.elim) hg hst
      | toint => exact je_toint K.c (ha.to fun d1 ρ1 _ q1 => by
          cases d1 <;> first | exact q1 | exact q1.elim) hg hst
      | str => exact je_strI K.c (ha.to fun d1 ρ1 _ q1 => by
          cases d1 <;> first | exact ⟨_, rfl, q1⟩ | exact q1.elim) hg hst
      | tup => exact je_totup K.c (ha.to fun d1 ρ1 _ q1 => by
          cases d1 <;> first | exact q1 | exact q1.elim) hg hst
      | len => exact je_len K.c (ha.to fun d1 ρ1 _ q1 => B1K_len q1) hg hst
      | sum => exact je_sum K.c (ha.to fun d1 ρ1 _ q1 => IntsQ.k q1) hg hst
      | max => exact je_max1 K.c (ha.to fun d1 ρ1 _ q1 => IntsQ.k q1) hg hst
      | min => exact je_min1 K.c (ha.to fun d1 ρ1 _ q1 => IntsQ.k q1) hg hst
      | abs => exact je_abs K.c (ha.to fun d1 ρ1 _ q1 => by
          cases d1 <;> first | exact ⟨_, rfl, q1⟩ | exact q1.elim) hg hst
    · cases h
  | .lsto a => mkF rfl rfl fun {sc C k ex ρ Φ} K h q => by
    simp only [fitE] at h
    split at h
    · rw [Bool.and_eq_true] at h
      obtain ⟨rfl, hg⟩ := gf_of K h.1
      exact jf_tolist K.c ((sndE tb nm a).e K h.2 q) hg (ok_star (fit_ok h.2))
    · cases h
  | .b2 f a b => mkE rfl rfl fun {sc C k ex ρ Φ} K h q => by
    simp only [fitE] at h
    split at h
    · obtain ⟨h0, h1, h2⟩ := ba3 h
      obtain ⟨rfl, hg⟩ := gf_of K h0
      have ha := ((sndE tb nm a).e K h1 q).to fun d1 ρ1 _ q1 => (sndE tb nm b).e K h2 q1
      cases f with
      | max => exact je_max K.c (ha.to fun d1 ρ1 _ q1 => q1.to fun d2 ρ2 _ q2 => by
          cases d1 <;> cases d2 <;> first | exact ⟨_, _, rfl, rfl, q2⟩ | exact q2.elim) hg (ok_star (fit_ok h1)) (ok_star (fit_ok h2))
      | min => exact je_min K.c (ha.to fun d1 ρ1 _ q1 => q1.to fun d2 ρ2 _ q2 => by
          cases d1 <;> cases d2 <;> first | exact ⟨_, _, rfl, rfl, q2⟩ | exact q2.elim) hg (ok_star (fit_ok h1)) (ok_star (fit_ok h2))
      | divmod => exact je_divmod K.c (ha.to fun d1 ρ1 _ q1 => q1.to fun d2 ρ2 _ q2 => by
          cases d1 <;> cases d2 <;> first | exact ⟨_, _, rfl, rfl, q2⟩ | exact q2.elim) hg (ok_star (fit_ok h1)) (ok_star (fit_ok h2))
    · cases h
  | .isi T a => mkE rfl rfl fun {sc C k ex ρ Φ} K h q => by
    simp only [fitE] at h
    split at h
    · obtain ⟨h0, h1, h2⟩ := ba3 h
      obtain ⟨rfl, hg⟩ := gf_of K h0
      obtain ⟨rfl, hg2⟩ := gf_of K h1
      have ha := (sndE tb nm a).e K h2 q
      cases T with
      | str => exact je_isStr K.c ha hg hg2 (ok_star (fit_ok h2))
      | int => exact je_isInt K.c ha hg hg2 (ok_star (fit_ok h2))
      | bool => exact je_isBool K.c ha hg hg2 (ok_star (fit_ok h2))
      | tup => exact je_isTup K.c ha hg hg2 (ok_star (fit_ok h2))
      | lst => exact je_isList K.c ha hg hg2 (ok_star (fit_ok h2))
    · cases h
  | .nilv i => mkT rfl rfl (fun {sc C k ex ρ Φ} K h q => q.elim) fun {sc C k ex ρ Φ} K h q => by
    simp only [fitE] at h
    split at h
    · have R := rd_of K h
      refine JT.nm fun hm => ?_
      rw [K.N] at hm
      have l := lk_of hm R.n
      split at q
      · rename_i a ds e
        exact jt_nilO K.c (e ▸ l) q.1 q.2 R.v R.d R.c
      · exact q.elim
    · cases h
  | .join y a => mkE rfl rfl fun {sc C k ex ρ Φ} K h q => by
    simp only [fitE] at h
    split at h
    · simp only [Bool.and_eq_true, decide_eq_true_eq] at h --k
      obtain ⟨rfl, rfl, h1, h2⟩ := h
      exact je_join ((sndE tb nm a).e K h2 q) (ok_star (fit_ok h2)) rfl h1
    · cases h
  | .popa i a => mkE rfl rfl fun {sc C k ex ρ Φ} K h q => by
    simp only [fitE] at h
    split at h
    · simp only [Bool.and_eq_true, decide_eq_true_eq] at h --k
      obtain ⟨h0, rfl, h1, h2⟩ := h
      have R := rd_of K h0
      refine JE.nm fun hm => ?_
      rw [K.N] at hm
      have l := lk_of hm R.n
      split at q
      · rename_i b w e
        refine je_popAt K.c (e ▸ l) (((sndE tb nm a).e K h2 q).to fun d ρ1 hm1 q1 => ?_) rfl (back1 (fit_ok h2)) h1 (ok_star (fit_ok h2)) rfl R.v R.d R.c
        rw [K.N] at hm1
        obtain ⟨n, rfl, q2⟩ := IntE.ex q1
        have l1 := lk_of hm1 R.n
        split at q2
        · rename_i b' ds e2
          obtain ⟨rfl, hn, j, z, hj, hz, q3⟩ := q2
          exact ⟨ds, n, j, z, rfl, hn, e2 ▸ l1, hj, hz, _, up_of hm1 R.n, q3⟩
        · exact q2.elim
      · exact q.elim
    · cases h
  | .call i a => by
    cases hn : nt tb.fs i with
    | none => exact mkE (w := fun _ _ _ => False) (by simp only [semE, hn]) rfl fun _ _ q => q.elim
    | some p =>
      obtain ⟨y, s⟩ := p
      cases s with
      | no => exact mkE (w := fun _ _ _ => False) (by simp only [semE, hn]) rfl fun _ _ q => q.elim
      | i n S dl => exact mkE (w := fun _ _ _ => False) (by simp only [semE, hn]) rfl fun _ _ q => q.elim
      | q n S dl => exact mkE (w := fun _ _ _ => False) (by simp only [semE, hn]) rfl fun _ _ q => q.elim
      | d n S dl =>
        have ar : ∀ {sc : Scope} {C : Jc} {k : Nat} {ex : Expr}, Kx tb nm sc C k → fitE nm sc (.call i a) ex = true → ∃ f p0 x xs pos, ex = .Call (.Name f p0) (x :: xs) [] pos ∧ (∃ j, j ≤ k ∧ Fo (mdX C.X) f j n (fun K n => spD K n S) dl) ∧ Gl C.X f ∧ (f == ("__debug__" : Str)) = false ∧ fitA nm sc a (x :: xs) = true := fun {sc C k ex} K h => by
          simp only [fitE] at h
          split at h
          · rename_i f p0 x xs pos
            simp only [Bool.and_eq_true] at h --k
            obtain ⟨h0, h1, h2, h3⟩ := h
            exact ⟨f, p0, x, xs, pos, rfl, K.tb.fs i f _ (isN_n h0) hn, K.gl h1, (okN_d h2).1, h3⟩
          · cases h
        have E : ∀ {sc : Scope} {C : Jc} {k : Nat} {ex : Expr} {ρ : Rho} {Φ : Pd → Rho → Prop}, Kx tb nm sc C k → fitE nm sc (.call i a) ex = true → (semA tb a C.Ξ ρ fun ds ρ1 => Nat.beq (ds ++ dl).length n = true ∧ S (ds ++ dl) (rsE C.Ξ ρ1 Φ)) → JE C ρ ex Φ := fun {sc C k ex ρ Φ} K h q => by
          obtain ⟨f, p0, x, xs, pos, rfl, ⟨j, hj, F⟩, hg, hd, hf⟩ := ar K h
          have ho := fitA_ok hf
          exact je_call K.c F hj (((sndA tb nm a).a K hf q).to fun ds ρ1 _ q1 => ⟨Nat.eq_of_beq_eq_true q1.1, by rw [rE_eq]; exact q1.2⟩) hg hd (ok_star (ho x (List.mem_cons_self ..))) (back_none _ _ (star_none fun e he => ho e (List.mem_cons_of_mem _ he))).1
        exact {
          e := fun K h q => E K h (by simp only [semE, hn] at q; exact q)
          f := fun {sc C k ex ρ Φ} K h q => by
            simp only [semE, hn] at q
            obtain ⟨f, p0, x, xs, pos, rfl, ⟨j, hj, F⟩, hg, hd, hf⟩ := ar K h
            have ho := fitA_ok hf
            exact jf_call K.c F hj (((sndA tb nm a).a K hf q).to fun ds ρ1 _ q1 => ⟨Nat.eq_of_beq_eq_true q1.1, by rw [rF_eq]; exact q1.2⟩) hg hd (ok_star (ho x (List.mem_cons_self ..))) (back_none _ _ (star_none fun e he => ho e (List.mem_cons_of_mem _ he))).1
          t := fun K h q => jt_val (E K h (by simp only [semE, hn] at q; exact q)) (fun whole => pl_true (fit_pl rfl h) _ whole)
          w := fun hb => by cases hb
          it := fun K h q => ji_any (E K h (by simp only [semE, hn] at q; exact q)) }
  | .calli i j a => by
    cases hn : nt tb.fs i with
    | none => exact mkE (w := fun _ _ _ => False) (by simp only [semE, hn]) rfl fun _ _ q => q.elim
    | some p =>
      obtain ⟨y, s⟩ := p
      cases s with
      | no => exact mkE (w := fun _ _ _ => False) (by simp only [semE, hn]) rfl fun _ _ q => q.elim
      | d n S dl => exact mkE (w := fun _ _ _ => False) (by simp only [semE, hn]) rfl fun _ _ q => q.elim
      | q n S dl => exact mkE (w := fun _ _ _ => False) (by simp only [semE, hn]) rfl fun _ _ q => q.elim
      | i n S dl =>
        have ar : ∀ {sc : Scope} {C : Jc} {k : Nat} {ex : Expr}, Kx tb nm sc C k → fitE nm sc (.calli i j a) ex = true → ∃ f p0 x p1 xs pos, ex = .Call (.Name f p0) (.Name x p1 :: xs) [] pos ∧ (∃ j, j ≤ k ∧ Fo (mdX C.X) f j n (fun K n => spI K n S) dl) ∧ Gl C.X f ∧ (f == ("__debug__" : Str)) = false ∧ Rd3 C nm j x ∧ fitA nm sc a xs = true := fun {sc C k ex} K h => by
          simp only [fitE] at h
          split at h
          · rename_i f p0 x p1 xs pos
            simp only [Bool.and_eq_true] at h --k
            obtain ⟨h0, h1, h2, h3, h4⟩ := h
            exact ⟨f, p0, x, p1, xs, pos, rfl, K.tb.fs i f _ (isN_n h0) hn, K.gl h1, (okN_d h2).1, rd_of K h3, h4⟩
          · cases h
        have E : ∀ {sc : Scope} {C : Jc} {k : Nat} {ex : Expr} {ρ : Rho} {Φ : Pd → Rho → Prop}, Kx tb nm sc C k → fitE nm sc (.calli i j a) ex = true → (semE tb (.calli i j a)).e C.Ξ ρ Φ → JE C ρ ex Φ := fun {sc C k ex ρ Φ} K h q => by
          obtain ⟨f, p0, x, p1, xs, pos, rfl, ⟨m, hj, F⟩, hg, hd, R, hf⟩ := ar K h
          simp only [semE, hn] at q
          have ho := fitA_ok hf
          refine JE.nm fun hm => ?_
          have hN := hm
          rw [K.N] at hm
          have l := lk_of hm R.n
          split at q
          · rename_i b w e
            refine je_callI K.c F hj (e ▸ l) (((sndA tb nm a).a K hf q).to fun ds ρ1 hm1 q1 => ?_) hg hd (ok_star rfl) (back_none _ _ (star_none ho)).1 R.v R.d R.c
            have hm2 := hm1
            rw [K.N] at hm2
            have l1 := lk_of hm2 R.n
            split at q1
            · rename_i b' w' e1
              obtain ⟨rfl, q2, q3⟩ := q1
              refine ⟨w', e1 ▸ l1, Nat.eq_of_beq_eq_true q2, ?_⟩
              rw [post_eqE K.c.nd hm1 (by rw [K.N]; exact R.n)]
              exact q3
            · exact q1.elim
          · exact q.elim
        exact {
          e := E
          f := fun {sc C k ex ρ Φ} K h q => by
            obtain ⟨f, p0, x, p1, xs, pos, rfl, ⟨m, hj, F⟩, hg, hd, R, hf⟩ := ar K h
            simp only [semE, hn] at q
            have ho := fitA_ok hf
            refine JF.nm fun hm => ?_
            have hN := hm
            rw [K.N] at hm
            have l := lk_of hm R.n
            split at q
            · rename_i b w e
              refine jf_callI K.c F hj (e ▸ l) (((sndA tb nm a).a K hf q).to fun ds ρ1 hm1 q1 => ?_) hg hd (ok_star rfl) (back_none _ _ (star_none ho)).1 R.v R.d R.c
              have hm2 := hm1
              rw [K.N] at hm2
              have l1 := lk_of hm2 R.n
              split at q1
              · rename_i b' w' e1
                obtain ⟨rfl, q2, q3⟩ := q1
                refine ⟨w', e1 ▸ l1, Nat.eq_of_beq_eq_true q2, ?_⟩
                rw [post_eqF K.c.nd hm1 (by rw [K.N]; exact R.n)]
                exact q3
              · exact q1.elim
            · exact q.elim
          t := fun {sc C k ex ρ Φ} K h q => jt_val (E K h (Φ := fun d ρ2 => TruK d fun z => Φ z ρ2) (by simp only [semE, hn] at q ⊢; exact q)) (fun whole => pl_true (fit_pl rfl h) _ whole)
          w := fun hb => by cases hb
          it := fun {sc C k tg ex ρ Φ} K h q => ji_any (E K h (Φ := fun d ρ2 => IterK d fun z => Φ z ρ2) (by simp only [semE, hn] at q ⊢; exact q)) }
  | .callq i j a => by
    cases hn : nt tb.fs i with
    | none => exact mkE (w := fun _ _ _ => False) (by simp only [semE, hn]) rfl fun _ _ q => q.elim
    | some p =>
      obtain ⟨y, s⟩ := p
      cases s with
      | no => exact mkE (w := fun _ _ _ => False) (by simp only [semE, hn]) rfl fun _ _ q => q.elim
      | d n S dl => exact mkE (w := fun _ _ _ => False) (by simp only [semE, hn]) rfl fun _ _ q => q.elim
      | i n S dl => exact mkE (w := fun _ _ _ => False) (by simp only [semE, hn]) rfl fun _ _ q => q.elim
      | q n S dl =>
        refine mkF (by simp only [semE, hn]; rfl) rfl fun {sc C k ex ρ Φ} K h q => ?_
        simp only [fitE] at h
        split at h
        · rename_i f p0 x p1 xs pos
          simp only [Bool.and_eq_true] at h --k
          obtain ⟨h0, h1, h2, h3, h4⟩ := h
          obtain ⟨m, hj, F⟩ := K.tb.fs i f _ (isN_n h0) hn
          have R := rd_of K h3
          have ho := fitA_ok h4
          refine JF.nm fun hm => ?_
          rw [K.N] at hm
          have l := lk_of hm R.n
          split at q
          · rename_i b w e
            obtain ⟨ns, rfl, q⟩ := q
            exact jf_callQ K.c F hj (e ▸ l) (((sndA tb nm a).a K h4 q).to fun ds ρ1 _ q1 => ⟨Nat.eq_of_beq_eq_true q1.1, by rw [rF_eq]; exact q1.2⟩) (K.gl h1) (okN_d h2).1 (ok_star rfl) (back_none _ _ (star_none ho)).1 R.v R.d R.c
          · exact q.elim
        · cases h
  | .lc j it elt => mkF rfl rfl fun {sc C k ex ρ Φ} K h q => by
    simp only [fitE] at h
    split at h
    · simp only [Bool.and_eq_true, decide_eq_true_eq] at h --k
      obtain ⟨rfl, h0, h1, h2⟩ := h
      obtain ⟨e1, e2, e3, e4, e5⟩ := lcB_of K h0
      exact jf_lc K.c j e2 (((sndE tb nm it).it K h1 q).to fun ds ρ1 hm1 q1 => lck0 K.c hm1 (by rw [K.N]; exact e1) (fun s H Cc cl fp ρ Φ q2 => (sndE tb nm elt).e (K.blk _ s H Cc cl fp) h2 q2) q1 fun _ _ _ h => h) e3 e4 e5 (fun x => ok_fold (fit_ok h1) x)
    · cases h
  | .lcif j it t elt => mkF rfl rfl fun {sc C k ex ρ Φ} K h q => by
    simp only [fitE] at h
    split at h
    · simp only [Bool.and_eq_true, decide_eq_true_eq] at h --k
      obtain ⟨rfl, h0, h1, h2, h3⟩ := h
      obtain ⟨e1, e2, e3, e4, e5⟩ := lcB_of K h0
      exact jf_lc K.c j e2 (((sndE tb nm it).it K h1 q).to fun ds ρ1 hm1 q1 => lck K.c hm1 (by rw [K.N]; exact e1) (fun s H Cc cl fp ρ Φ q2 => (sndE tb nm elt).e (K.blk _ s H Cc cl fp) h3 q2) (fun s H Cc cl fp ρ Φ q2 => (sndE tb nm t).t (K.blk _ s H Cc cl fp) h2 q2) q1 fun _ _ _ h => h) e3 e4 e5 (fun x => ok_fold (fit_ok h1) x)
    · cases h
  | .lcs j it elt => mkF rfl rfl fun {sc C k ex ρ Φ} K h q => by
    simp only [fitE] at h
    split at h
    · simp only [Bool.and_eq_true, decide_eq_true_eq] at h --k
      obtain ⟨rfl, h0, h1, h2⟩ := h
      obtain ⟨e1, e2, e3, e4, e5⟩ := lcB_of K h0
      exact jf_lcs K.c j e2 (((sndE tb nm it).it K h1 q).to fun ds ρ1 hm1 q1 => lcsk0 K.c hm1 (by rw [K.N]; exact e1) (fun s H Cc cl fp ρ Φ q2 => (sndE tb nm elt).e (K.blk _ s H Cc cl fp) h2 q2) q1 fun _ _ _ h => h) e3 e4 e5 (fun x => ok_fold (fit_ok h1) x)
    · cases h
  | .lcsif j it t elt => mkF rfl rfl fun {sc C k ex ρ Φ} K h q => by
    simp only [fitE] at h
    split at h
    · simp only [Bool.and_eq_true, decide_eq_true_eq] at h --k
      obtain ⟨rfl, h0, h1, h2, h3⟩ := h
      obtain ⟨e1, e2, e3, e4, e5⟩ := lcB_of K h0
      exact jf_lcs K.c j e2 (((sndE tb nm it).it K h1 q).to fun ds ρ1 hm1 q1 => lcsk K.c hm1 (by rw [K.N]; exact e1) (fun s H Cc cl fp ρ Φ q2 => (sndE tb nm elt).e (K.blk _ s H Cc cl fp) h3 q2) (fun s H Cc cl fp ρ Φ q2 => (sndE tb nm t).t (K.blk _ s H Cc cl fp) h2 q2) q1 fun _ _ _ h => h) e3 e4 e5 (fun x => ok_fold (fit_ok h1) x)
    · cases h
  | .rng a => mkI rfl rfl fun {sc C k tg ex ρ Φ} K h q => by
    simp only [fitE] at h
    split at h
    · rw [Bool.and_eq_true] at h
      obtain ⟨rfl, hg⟩ := gf_of K h.1
      exact ji_rng1 K.c (((sndE tb nm a).e K h.2 q).to fun d1 ρ1 _ q1 => IntE.ex q1) hg (ok_star (fit_ok h.2))
    · cases h
  | .rng2 a b => mkI rfl rfl fun {sc C k tg ex ρ Φ} K h q => by
    simp only [fitE] at h
    split at h
    · obtain ⟨h0, h1, h2⟩ := ba3 h
      obtain ⟨rfl, hg⟩ := gf_of K h0
      exact ji_rng2L K.c (((sndE tb nm a).e K h1 q).to fun d1 ρ1 _ q1 => ((sndE tb nm b).e K h2 q1).to fun d2 ρ2 _ q2 => by
        obtain ⟨m, rfl, q3⟩ := IntE.ex q2
        obtain ⟨n, rfl, q4⟩ := IntE.ex q3
        exact ⟨m, n, rfl, rfl, q4⟩) hg (ok_star (fit_ok h1)) (ok_star (fit_ok h2)) (by rw [ok_star (fit_ok h2)]; rfl)
    · cases h
  | .lrng a b => mkF rfl rfl fun {sc C k ex ρ Φ} K h q => by
    simp only [fitE] at h
    split at h
    · simp only [Bool.and_eq_true] at h
      obtain ⟨h0, h1, h2, h3⟩ := h
      obtain ⟨rfl, hl⟩ := gf_of K h0
      obtain ⟨rfl, hg⟩ := gf_of K h1
      exact jf_lrng2 K.c (((sndE tb nm a).e K h2 q).to fun d1 ρ1 _ q1 => ((sndE tb nm b).e K h3 q1).to fun d2 ρ2 _ q2 => by
        obtain ⟨m, rfl, q3⟩ := IntE.ex q2
        obtain ⟨n, rfl, q4⟩ := IntE.ex q3
        exact ⟨m, n, rfl, rfl, q4⟩) hg hl (ok_star (fit_ok h2)) (ok_star (fit_ok h3)) (by rw [ok_star (fit_ok h3)]; rfl)
    · cases h
  | .idx a b => mkE rfl rfl fun {sc C k ex ρ Φ} K h q => by
    simp only [fitE] at h
    split at h
    · rename_i x m ap y pos
      simp only [Bool.and_eq_true, decide_eq_true_eq] at h --k
      obtain ⟨h0, rfl, h1, h2, h3⟩ := h
      split at h0
      · exact je_index (((sndE tb nm a).e K h2 q).to fun d1 ρ1 _ q1 => by
          obtain ⟨ns, e, q1⟩ := q1
          refine ⟨⟨ns, e⟩, ((sndE tb nm b).e K h3 q1).to fun d2 ρ2 _ q2 => ?_⟩
          obtain ⟨n, rfl, q3⟩ := IntE.ex q2
          obtain ⟨j, e1, e2, q4⟩ := q3
          exact ⟨ns, n, j, e, rfl, e1, e2, q4⟩) rfl (back1 (fit_ok h3)) h1 (ok_star (fit_ok h3)) rfl
      · cases h0
    · cases h
  | .cmpo op i b => mkT rfl rfl (fun {sc C k ex ρ Φ} K h q => by
    simp only [fitE] at h
    split at h
    · obtain ⟨h0, h1, h2⟩ := ba3 h
      have := of_decide_eq_true h0; subst this
      have R := rd_of K h1
      refine JE.nm fun hm => ?_
      rw [K.N] at hm
      have l := lk_of hm R.n
      split at q
      · rename_i a ds e
        refine je_cmpo K.c (e ▸ l) (((sndE tb nm b).e K h2 q).to fun d2 ρ2 hm2 q2 => ?_) (ok_marks (fit_ok h2)) R.v R.d R.c
        rw [K.N] at hm2
        have l2 := lk_of hm2 R.n
        split at q2
        · rename_i a' ds' e2
          obtain ⟨rfl, q3⟩ := q2
          exact ⟨ds', e2 ▸ l2, q3.k⟩
        · exact q2.elim
      · exact q.elim
    · cases h) fun {sc C k ex ρ Φ} K h q => by
    simp only [fitE] at h
    split at h
    · obtain ⟨h0, h1, h2⟩ := ba3 h
      have := of_decide_eq_true h0; subst this
      have R := rd_of K h1
      refine JT.nm fun hm => ?_
      rw [K.N] at hm
      have l := lk_of hm R.n
      split at q
      · rename_i a ds e
        refine jt_cmpo K.c (e ▸ l) (((sndE tb nm b).e K h2 q).to fun d2 ρ2 hm2 q2 => ?_) (ok_marks (fit_ok h2)) R.v R.d R.c
        rw [K.N] at hm2
        have l2 := lk_of hm2 R.n
        split at q2
        · rename_i a' ds' e2
          obtain ⟨rfl, q3⟩ := q2
          exact ⟨ds', e2 ▸ l2, q3.k⟩
        · exact q2.elim
      · exact q.elim
    · cases h
  | .isio T i => mkE rfl rfl fun {sc C k ex ρ Φ} K h q => by
    simp only [fitE] at h
    split at h
    · obtain ⟨h0, h1, h2⟩ := ba3 h
      obtain ⟨rfl, hg⟩ := gf_of K h0
      obtain ⟨rfl, hg2⟩ := gf_of K h1
      have R := rd_of K h2
      refine JE.nm fun hm => ?_
      rw [K.N] at hm
      have l := lk_of hm R.n
      split at q
      · rename_i a ds e
        cases T with
        | str => exact je_isO K.c (e ▸ l) (by decide +kernel) PyProof.Rows.boot_str (show kitB "list" "str" = some false by decide +kernel) q hg hg2 (by decide +kernel) (by decide +kernel) R.v R.d R.c
        | int => exact je_isO K.c (e ▸ l) (by decide +kernel) PyProof.Rows.boot_int (show kitB "list" "int" = some false by decide +kernel) q hg hg2 (by decide +kernel) (by decide +kernel) R.v R.d R.c
        | bool => exact je_isO K.c (e ▸ l) (by decide +kernel) PyProof.Rows.boot_bool (show kitB "list" "bool" = some false by decide +kernel) q hg hg2 (by decide +kernel) (by decide +kernel) R.v R.d R.c
        | tup => exact je_isO K.c (e ▸ l) (by decide +kernel) PyProof.Rows.boot_tuple (show kitB "list" "tuple" = some false by decide +kernel) q hg hg2 (by decide +kernel) (by decide +kernel) R.v R.d R.c
        | lst => exact je_isO K.c (e ▸ l) (by decide +kernel) PyProof.Rows.boot_list (show kitB "list" "list" = some true by decide +kernel) q hg hg2 (by decide +kernel) (by decide +kernel) R.v R.d R.c
      · exact q.elim
    · cases h
  | .srt a => mkF rfl rfl fun {sc C k ex ρ Φ} K h q => by
    simp only [fitE] at h
    split at h
    · rw [Bool.and_eq_true] at h
      obtain ⟨rfl, hg⟩ := gf_of K h.1
      exact jf_sorted K.c (((sndE tb nm a).e K h.2 q).to fun d1 ρ1 _ q1 => SrtK.ex q1) hg (ok_star (fit_ok h.2))
    · cases h
  | .lrng1 a => mkF rfl rfl fun {sc C k ex ρ Φ} K h q => by
    simp only [fitE] at h
    split at h
    · obtain ⟨h0, h1, h2⟩ := ba3 h
      obtain ⟨rfl, hl⟩ := gf_of K h0
      obtain ⟨rfl, hg⟩ := gf_of K h1
      exact jf_lrng1 K.c (((sndE tb nm a).e K h2 q).to fun d1 ρ1 _ q1 => IntE.ex q1) hg hl (ok_star (fit_ok h2))
    · cases h
theorem sndA (tb : Tb) (nm : Nm) : ∀ r : IA, SndA tb nm r
  | .nil => ⟨fun {sc C k ex ρ Φ} K h q => by
    simp only [fitA] at h
    split at h
    · exact ja_nil q
    · cases h⟩
  | .cons a r => ⟨fun {sc C k ex ρ Φ} K h q => by
    simp only [fitA] at h
    split at h
    · rw [Bool.and_eq_true] at h
      exact ja_cons (((sndE tb nm a).e K h.1 q).to fun d1 ρ1 _ q1 => (sndA tb nm r).a K h.2 q1) (ok_star (fit_ok h.1))
    · cases h⟩
theorem sndO (tb : Tb) (nm : Nm) : ∀ r : IO, SndO tb nm r
  | .non => ⟨fun {sc C k ex ρ Φ} K h q => by
    simp only [fitO] at h
    split at h
    · exact jo_none q
    · cases h⟩
  | .som a => ⟨fun {sc C k ex ρ Φ} K h q => by
    simp only [fitO] at h
    split at h
    · exact jo_some (((sndE tb nm a).e K h q).to fun d1 ρ1 _ q1 => IntE.ex q1)
    · cases h⟩
end
end KJ

set_option Elab.async false
set_option linter.all false
set_option maxRecDepth 100000
set_option maxHeartbeats 4100000
/-! K7: every statement's reading is right. -/
namespace KJ
open PySem PySem.Spec L2 PyProof.Rows
/-- where a statement stands -/
structure Ks (tb : Tb) (hs : List Hs) (nm : Nm) (sc : Scope) (C : Jc) (k : Nat) : Prop where
  x : Kx tb nm sc C k
  fn : ∀ x, C.X.fn x = true
  stk : C.X.stack = C.X.env :: C.X.outer
  fr : C.X.env.frame = some C.X.env.locals
  ke : (∃ h H, nt hs h = some H) → ∃ A, C.X.mg "KeelError" = some (.ref A) ∧ ∀ (h : Nat) H, nt hs h = some H → ∀ p ∈ H.ks, PySem.W.exmOne C.X.K (.ref p.1) (.ref A) = some true ∧ ∃ j, j ≤ k ∧ FoH (mdX C.X) "_law_kinds" j p.1 p.2
section
variable {tb : Tb} {hs : List Hs} {nm : Nm} {sc : Scope} {C : Jc} {k : Nat}
theorem Ks.loc (K : Ks tb hs nm sc C k) {x : Str} (h : locB sc x = true) : locB C.X.env.scope x = true := by rw [K.x.sc]; exact h
theorem Ks.try_ (K : Ks tb hs nm sc C k) {W : WX} {pn : List (Addr × Obj)} {xe : Value → Shared → Prop} {Ξ : Xn → Rho → Prop} (c : Jok ⟨C.X.tr pn xe, W, Ξ⟩ k) : Ks tb hs nm sc ⟨C.X.tr pn xe, W, Ξ⟩ k :=
  ⟨⟨c, K.x.N, K.x.sc, K.x.tb⟩, K.fn, K.stk, K.fr, K.ke⟩
end
structure SndG (nm : Nm) (r : IG) : Prop where
  g : ∀ {tb : Tb} {hs : List Hs} {sc : Scope} {C : Jc} {k : Nat} {ex : Expr} {ρ : Rho} {z : Pd} {Φ : Rho → Prop}, Ks tb hs nm sc C k → fitG nm sc r ex = true → semG r ρ z Φ → JG C ρ ex z Φ
structure SndGs (nm : Nm) (r : IGs) : Prop where
  g : ∀ {tb : Tb} {hs : List Hs} {sc : Scope} {C : Jc} {k : Nat} {ex : List Expr} {ρ : Rho} {z : List Pd} {Φ : Rho → Prop}, Ks tb hs nm sc C k → fitGs nm sc r ex = true → semGs r ρ z Φ → JGs C ρ ex z Φ
theorem tg_of {nm : Nm} {sc : Scope} {i : Nat} {x : Str} (h : tgB nm sc i x = true) : nt nm.N i = some x ∧ locB sc x = true := by
  unfold tgB at h
  rw [Bool.and_eq_true] at h
  exact ⟨isN_n h.1, h.2⟩
theorem fitG_star {nm : Nm} {sc : Scope} {r : IG} {e : Expr} (h : fitG nm sc r e = true) {env : Env} {es : List Expr} : assignEach (e :: es) env = (false, assign e env) :: assignEach es env := by
  cases e with
  | Starred => cases r <;> cases h
  | _ => rfl
theorem fitGs_star {nm : Nm} {sc : Scope} {env : Env} : ∀ {r : IGs} {es : List Expr}, fitGs nm sc r es = true → (assignEach es env).length = lenG r ∧ (assignEach es env).findIdx? (·.1) = none
  | .nil, [], _ => ⟨rfl, rfl⟩
  | .nil, _ :: _, h => by cases h
  | .cons a r, [], h => by cases h
  | .cons a r, x :: xs, h => by
    have h : (fitG nm sc a x && fitGs nm sc r xs) = true := h
    rw [Bool.and_eq_true] at h
    obtain ⟨h1, h2⟩ := fitGs_star (env := env) h.2
    rw [fitG_star h.1]
    refine ⟨by rw [List.length_cons, h1]; rfl, ?_⟩
    rw [List.findIdx?_cons, h2]
    rfl
theorem jg_imp {C : Jc} {ρ : Rho} {e : Expr} {z : Pd} {Φ Φ' : Rho → Prop} (h : JG C ρ e z Φ) (k : ∀ ρ', Φ ρ' → Φ' ρ') : JG C ρ e z Φ' :=
  ⟨fun G0 H0 G H σ v S r Q q => h.run G0 H0 G H σ v S r Q fun ρ' σ' G' H' a => q ρ' σ' G' H' (k ρ' a)⟩
mutual
theorem sndG (nm : Nm) : ∀ r : IG, SndG nm r
  | .v i => ⟨fun {tb hs sc C k ex ρ z Φ} K h q => by
    simp only [fitG] at h
    split at h
    · obtain ⟨h1, h2⟩ := tg_of h
      refine JG.nm fun hm => ?_
      rw [K.x.N] at hm
      exact jg_name K.x.c (up_of hm h1) q (K.loc h2) (.inl (K.fn _))
    · cases h⟩
  | .tup a => ⟨fun {tb hs sc C k ex ρ z Φ} K h q => by
    simp only [fitG] at h
    split at h
    · rename_i es n p
      obtain ⟨s1, s2⟩ := fitGs_star (env := C.X.env) h
      simp only [semG] at q
      split at q
      · exact jg_tup K.x.c ((sndGs nm a).g K h q.2) (s1.trans (Nat.eq_of_beq_eq_true q.1)) s2
      · exact jg_lst K.x.c ((sndGs nm a).g K h q.2) (s1.trans (Nat.eq_of_beq_eq_true q.1)) s2
      · exact q.elim
    · cases h⟩
theorem sndGs (nm : Nm) : ∀ r : IGs, SndGs nm r
  | .nil => ⟨fun {tb hs sc C k ex ρ z Φ} K h q => by
    simp only [fitGs] at h
    simp only [semGs] at q
    split at h
    · split at q
      · exact jgs_nil q
      · exact q.elim
    · cases h⟩
  | .cons a r => ⟨fun {tb hs sc C k ex ρ z Φ} K h q => by
    simp only [fitGs] at h
    simp only [semGs] at q
    split at h
    · rw [Bool.and_eq_true] at h
      split at q
      · exact jgs_cons (jg_imp ((sndG nm a).g K h.1 q) fun ρ1 q1 => (sndGs nm r).g K h.2 q1) (by rw [fitG_star h.1]; rfl)
      · exact q.elim
    · cases h⟩
end

theorem nc_sw {e : Expr} {t : Option Expr} {l : Nat} {env : Env} (h : noComp e = true) : swapsWith e t l env = pure false := by
  cases e <;> first | rfl | cases h
theorem nt_sw {e t : Expr} {env : Env} (h : noTup t e = true) : swappedStores [t] e env = pure none := by
  cases t <;> cases e <;> first | rfl | cases h
theorem sw_no {x : Str} {p : Pos} {y : Expr} {l : Nat} {C : Jc} {sc : Scope} (hs : C.X.env.scope = sc) (h : (noComp y || (match y with
      | .ListComp _ _ s q => (sc.kind == .function) && !((locO sc x && (p.line == q.line)) && !(s.names.any fun (n, k) => n == x && (k == .local || k == .cell)))
      | _ => false)) = true) : swapsWithSole [.Name x p] y l C.X.env = pure false := by
  rw [Bool.or_eq_true] at h
  rcases h with h | h
  · unfold swapsWithSole
    exact nc_sw h
  · split at h
    · rename_i a b s q
      rw [Bool.and_eq_true] at h
      obtain ⟨h1, h2⟩ := h
      have hk : sc.kind = .function := by
        have := of_decide_eq_true h1
        exact this
      have hb : C.X.env.blockKind = .function := by
        unfold Env.blockKind
        rw [hs, hk]; rfl
      have e : (C.X.env.kindOf x == some NameKind.local) = locO sc x := by
        unfold locO Env.kindOf
        rw [hs]
        cases List.lookup x sc.names with
        | none => rfl
        | some k => cases k <;> rfl
      unfold swapsWithSole
      show (pure (C.X.env.blockKind == .function && C.X.env.kindOf x == some .local && p.line == q.line && !(s.names.any fun (n, k) => n == x && (k == .local || k == .cell))) : Sem Bool) = pure false
      rw [hb, e]
      congr 1
      have h2 := (Bool.not_eq_true' _).mp h2
      simpa using h2
    · cases h
theorem sw_yes {x : Str} {p : Pos} {y : Expr} {sc : Scope} (h : swB sc x p y = true) : ∃ a b s q, y = .ListComp a b s q ∧ sc.kind = .function ∧ sc.names.lookup x = some .local ∧ (p.line == q.line) = true ∧ (s.names.any fun (n, k) => n == x && (k == .local || k == .cell)) = false := by
  unfold swB at h
  split at h
  · rename_i a b s q
    simp only [Bool.and_eq_true] at h --k
    obtain ⟨h1, h2, h3, h4⟩ := h
    exact ⟨a, b, s, q, rfl, of_decide_eq_true h1, of_decide_eq_true h2, h3, (Bool.not_eq_true' _).mp h4⟩
  · cases h
end KJ

set_option Elab.async false
set_option linter.all false
set_option maxRecDepth 100000
set_option maxHeartbeats 4100000
/-! K8: every statement's reading is right. -/
namespace KJ
open PySem PySem.Spec L2 PyProof.Rows
section
variable {C : Jc} {ρ : Rho}
theorem JS.to {st : Stmt} {Ψ Ψ' : Po} (h : JS C ρ st Ψ) (k : ∀ ρ', ρ'.map (·.1) = C.X.N → Ψ.nx ρ' → Ψ'.nx ρ') (k2 : ∀ r ρ', Ψ.rt r ρ' → Ψ'.rt r ρ') (k3 : ∀ ρ', Ψ.bk ρ' → Ψ'.bk ρ') (k4 : ∀ ρ', Ψ.ct ρ' → Ψ'.ct ρ') : JS C ρ st Ψ' :=
  ⟨fun G0 H0 G H σ S D ok ex => h.run G0 H0 G H σ S D ⟨fun ρ' σ' G' H' a b => ok.nx ρ' σ' G' H' (k ρ' b.nm a) b, fun r ρ' σ' v G' H' a => ok.rt r ρ' σ' v G' H' (k2 r ρ' a), fun ρ' σ' G' H' a => ok.bk ρ' σ' G' H' (k3 ρ' a), fun ρ' σ' G' H' a => ok.ct ρ' σ' G' H' (k4 ρ' a)⟩ ex⟩
theorem jb_exc {W : WX} {X : Cx} {Ξ Ξ' : Xn → Rho → Prop} {b : List Stmt} {Ψ : Po} (h : JB ⟨X, W, Ξ'⟩ ρ b Ψ) (k : ∀ x ρ', ρ'.map (·.1) = X.N → Ξ' x ρ' → Ξ x ρ') : JB ⟨X, W, Ξ⟩ ρ b Ψ :=
  ⟨fun G0 H0 G H σ S D ok ex => h.run G0 H0 G H σ S D ⟨ok.nx, ok.rt, ok.bk, ok.ct⟩ fun x ρ' σ' dd G' H' a b => ex x ρ' σ' dd G' H' (k x ρ' b.nm a) b⟩
end
theorem lcs_of {C : Jc} {ρ1 : Rho} {k : Nat} {scope : Scope} {y : Str} {elt : Expr} {ifs : List Expr} {Φ : List Pd → Rho → Prop} {ds : List Pd} (c : Jok C k) (hm : ρ1.map (·.1) = C.X.N) (h : LcP C scope y elt ifs Φ ds ρ1) : LcS C scope y elt ifs Φ ds ρ1 := by
  obtain ⟨α, xs, enc, f, q, s0, rfl, l0, f0, hl, step, fin⟩ := h
  have nd : (ρ1.map (·.1)).Nodup := by rw [hm]; exact c.nd
  obtain ⟨ρw, uw, ub⟩ := l0.up .no
  refine ⟨ρw, s0, fun i acc ρ' => ρ' = ρw ∧ acc = ((xs.take i).filter q).map f, l0, f0, uw, by rw [List.length_map]; exact hl, ⟨rfl, rfl⟩, ?_, ?_⟩
  · rintro i z acc ρ2 hz ⟨rfl, rfl⟩ hal
    rw [List.getElem?_map] at hz
    cases hx : xs[i]? with
    | none => rw [hx] at hz; cases hz
    | some x =>
      rw [hx] at hz
      have ez : z = enc x := (Option.some.inj hz).symm
      subst ez
      obtain ⟨ρ3, u3, hX, hE⟩ := step x (List.mem_of_getElem? hx)
      have tk : xs.take (i + 1) = xs.take i ++ [x] := by rw [List.take_add_one, hx]; rfl
      obtain ⟨ρ3', u3', u3''⟩ := uw.up (.sh (enc x))
      have e3 : ρ3' = ρ3 := u3'.fn nd u3
      subst e3
      obtain ⟨ρ7, u7, u7'⟩ := u3.up .no
      have e7 : ρ7 = ρ2 := u7.fn nd uw
      subst e7
      refine ⟨ρ3', u3'', fun s H Cc cl fp => (hX s H Cc cl fp).imp ?_⟩
      rintro b ρ4 ⟨rfl, rfl⟩
      refine ⟨fun hb s H Cc cl fp => (hE hb s H Cc cl fp).imp ?_, fun hb => ⟨ρ7, u7', rfl, ?_⟩⟩
      · rintro w ρ5 ⟨rfl, rfl⟩
        exact ⟨ρ7, u7', rfl, by rw [tk, List.filter_append, List.map_append, List.filter_cons, if_pos hb]; rfl⟩
      · rw [tk, List.filter_append, List.map_append, List.filter_cons, if_neg (by rw [hb]; decide)]
        simp
  · rintro acc ρ2 ⟨rfl, rfl⟩
    refine ⟨ρ1, ub, ?_⟩
    rw [List.length_map, List.take_length]
    exact fin
theorem name_none {x : Str} {p : Pos} {e : Expr} {env : Env} : swappedStores [.Name x p] e env = pure none := by
  cases e <;> rfl
theorem sw_par {x y : Str} {px py pt pt2 : Pos} {kt k2 : Nat} {u v : Expr} {env : Env} {sc : Scope} (hs : env.scope = sc) (h : parB sc x y px py u v = true) (hu : okX u = true) (hv : okX v = true) : swappedStores [.Tuple [.Name x px, .Name y py] kt pt] (.Tuple [u, v] k2 pt2) env = pure (some [x, y]) := by
  unfold parB locO at h
  simp only [Bool.and_eq_true, decide_eq_true_eq, Bool.not_eq_true'] at h
  obtain ⟨h1, h2, h3, h4, h5, h6, h7⟩ := h
  have hb : env.blockKind = .function := by
    unfold Env.blockKind
    rw [hs, h1]; rfl
  have k1 : env.kindOf x = some .local := by unfold Env.kindOf; rw [hs]; exact h2
  have k2 : env.kindOf y = some .local := by unfold Env.kindOf; rw [hs]; exact h3
  have hy : py.line = px.line := beq_iff_eq.mp h4
  have hst : ([u, v].any fun | .Starred .. => true | _ => false) = false := by
    cases u <;> cases v <;> first | rfl | (cases hu; done) | cases hv
  have hxy : (y == x) = false := beq_false_of_ne fun e => h5 e.symm
  have e : ∀ f : Expr → Option Str, f (.Name x px) = some x → f (.Name y py) = some y → List.filterMap f [.Name x px, .Name y py] = [x, y] := fun f f1 f2 => by
    rw [List.filterMap_cons, f1, List.filterMap_cons, f2]; rfl
  unfold swappedStores
  dsimp only
  refine (if_neg ?_).trans ?_
  · rw [hb]; simp
  refine (if_neg ?_).trans ?_
  · intro h
    exact Bool.false_ne_true (hst.symm.trans h)
  rw [e]
  · refine (if_neg ?_).trans ?_
    · simp [List.eraseDups_cons, hxy]
    refine (if_neg ?_).trans ?_
    · rw [h6]; decide
    refine (if_neg ?_).trans ?_
    · rw [h7]; decide
    rfl
  · show (if (env.kindOf x == some NameKind.local && px.line == px.line) = true then some x else none) = some x
    rw [k1]; simp
  · show (if (env.kindOf y == some NameKind.local && py.line == px.line) = true then some y else none) = some y
    rw [k2, hy]; simp
structure SndS (tb : Tb) (hs : List Hs) (nm : Nm) (r : IS) : Prop where
  s : ∀ {sc : Scope} {C : Jc} {k : Nat} {st : Stmt} {ρ : Rho} {nx : Rho → Prop} {Ψ : Po}, Ks tb hs nm sc C k → fitS nm sc r st = true → semS tb hs r C.Ξ ρ nx Ψ → JS C ρ st ⟨nx, Ψ.rt, Ψ.bk, Ψ.ct⟩
structure SndB (tb : Tb) (hs : List Hs) (nm : Nm) (r : IB) : Prop where
  b : ∀ {sc : Scope} {C : Jc} {k : Nat} {st : List Stmt} {ρ : Rho} {nx : Rho → Prop} {Ψ : Po}, Ks tb hs nm sc C k → fitB nm sc r st = true → semB tb hs r C.Ξ ρ nx Ψ → JB C ρ st ⟨nx, Ψ.rt, Ψ.bk, Ψ.ct⟩
theorem ownc_of {tb : Tb} {hs : List Hs} {nm : Nm} {sc : Scope} {C : Jc} {k i : Nat} {x : Str} {p q : Pos} {pos : Pos} {a : Expr} {b : List Comprehension} {s : Scope} {ρ : Rho} {Ψ : Po} {e : IE} (K : Ks tb hs nm sc C k) (hi : nt nm.N i = some x) (hf : fitE nm sc e (.ListComp a b s q) = true) (h1 : sc.kind = .function) (h2 : sc.names.lookup x = some .local) (h3 : (p.line == q.line) = true)
    (h4 : (s.names.any fun (n, k) => n == x && (k == .local || k == .cell)) = false) (hq : (semE tb e).f C.Ξ ρ fun ds ρ1 => ∀ a, Ψ.nx (putS ρ1 i (.ow a ds))) : JS C ρ (.Assign [.Name x p] (.ListComp a b s q) pos) Ψ := by
  have X := K.x
  have hix : C.X.N[i]? = some x := by rw [X.N]; exact nt_ix hi
  have hk : C.X.env.scope.kind = .function := by rw [X.sc]; exact h1
  have hl : C.X.env.scope.names.lookup x = some .local := by rw [X.sc]; exact h2
  have up : ∀ {ds : List Pd} {ρ1 : Rho}, ρ1.map (·.1) = C.X.N → (∀ a, Ψ.nx (putS ρ1 i (.ow a ds))) → ∀ a, ∃ ρ2, Up ρ1 x (.ow a ds) ρ2 ∧ Ψ.nx ρ2 := fun hm hq a => ⟨_, up_of hm (by rw [X.N]; exact hi), hq a⟩
  cases e <;> try (cases hf; done)
  case lc j it elt =>
    simp only [fitE] at hf
    split at hf
    · rename_i e
      cases e
      simp only [Bool.and_eq_true, decide_eq_true_eq] at hf
      obtain ⟨rfl, h0, hf1, hf2⟩ := hf
      obtain ⟨e1, e2, e3, e4, e5⟩ := lcB_of X h0
      exact js_lcs X.c i j hix e2 (((sndE tb nm it).it X hf1 hq).to fun ds ρ1 hm1 q1 => lcs_of X.c hm1 (lck0 X.c hm1 (by rw [X.N]; exact e1) (fun s H Cc cl fp ρ Φ q2 => (sndE tb nm elt).e (X.blk _ s H Cc cl fp) hf2 q2) q1 fun _ _ hm2 q2 => up hm2 q2)) hl hk h3 h4 e3 e4 e5 (fun x => ok_fold (fit_ok hf1) x)
    · cases hf
  case lcif j it t elt =>
    simp only [fitE] at hf
    split at hf
    · rename_i e
      cases e
      simp only [Bool.and_eq_true, decide_eq_true_eq] at hf
      obtain ⟨rfl, h0, hf1, hf2, hf3⟩ := hf
      obtain ⟨e1, e2, e3, e4, e5⟩ := lcB_of X h0
      exact js_lcs X.c i j hix e2 (((sndE tb nm it).it X hf1 hq).to fun ds ρ1 hm1 q1 => lcs_of X.c hm1 (lck X.c hm1 (by rw [X.N]; exact e1) (fun s H Cc cl fp ρ Φ q2 => (sndE tb nm elt).e (X.blk _ s H Cc cl fp) hf3 q2) (fun s H Cc cl fp ρ Φ q2 => (sndE tb nm t).t (X.blk _ s H Cc cl fp) hf2 q2) q1 fun _ _ hm2 q2 => up hm2 q2)) hl hk h3 h4 e3 e4 e5 (fun x => ok_fold (fit_ok hf1) x)
    · cases hf
  case lcs j it elt =>
    simp only [fitE] at hf
    split at hf
    · rename_i e
      cases e
      simp only [Bool.and_eq_true, decide_eq_true_eq] at hf
      obtain ⟨rfl, h0, hf1, hf2⟩ := hf
      obtain ⟨e1, e2, e3, e4, e5⟩ := lcB_of X h0
      refine js_lcs X.c i j hix e2 (((sndE tb nm it).it X hf1 hq).to fun ds ρ1 hm1 q1 => ?_) hl hk h3 h4 e3 e4 e5 (fun x => ok_fold (fit_ok hf1) x)
      exact lcsk0 X.c hm1 (by rw [X.N]; exact e1) (fun s H Cc cl fp ρ Φ q2 => (sndE tb nm elt).e (X.blk _ s H Cc cl fp) hf2 q2) q1 fun _ _ hm2 q2 => up hm2 q2
    · cases hf
  case lcsif j it t elt =>
    simp only [fitE] at hf
    split at hf
    · rename_i e
      cases e
      simp only [Bool.and_eq_true, decide_eq_true_eq] at hf
      obtain ⟨rfl, h0, hf1, hf2, hf3⟩ := hf
      obtain ⟨e1, e2, e3, e4, e5⟩ := lcB_of X h0
      refine js_lcs X.c i j hix e2 (((sndE tb nm it).it X hf1 hq).to fun ds ρ1 hm1 q1 => ?_) hl hk h3 h4 e3 e4 e5 (fun x => ok_fold (fit_ok hf1) x)
      exact lcsk X.c hm1 (by rw [X.N]; exact e1) (fun s H Cc cl fp ρ Φ q2 => (sndE tb nm elt).e (X.blk _ s H Cc cl fp) hf3 q2) (fun s H Cc cl fp ρ Φ q2 => (sndE tb nm t).t (X.blk _ s H Cc cl fp) hf2 q2) q1 fun _ _ hm2 q2 => up hm2 q2
    · cases hf
end KJ

set_option Elab.async false
set_option linter.all false
set_option maxRecDepth 100000
set_option maxHeartbeats 4100000
/-! K9: every statement's reading is right. -/
namespace KJ
open PySem PySem.Spec L2 PyProof.Rows
theorem bcom (a b c : Bool) : (a && (b && c)) = (a && b && c) := by cases a <;> cases b <;> cases c <;> rfl
theorem set_sub {x : Str} {y : Expr} {p p2 : Pos} {env : Env} (h : okX y = true) : ∀ v, assign (.Subscript (.Name x p) y p2) env v = (do let ov ← holding [v] (eval (.Name x p) env); let iv ← holding [v, ov] (eval y env); standAt p2; holding [v, ov, iv] (setItem ov iv v); release [v, ov, iv] []) := by
  cases y <;> first | exact fun _ => rfl | cases h
mutual
theorem sndS (tb : Tb) (hs : List Hs) (nm : Nm) : ∀ r : IS, SndS tb hs nm r
  | .ret e => ⟨fun {sc C k st ρ nx Ψ} K h q => by
    simp only [fitS] at h
    split at h
    · exact js_ret ((sndE tb nm e).e K.x h q)
    · cases h⟩
  | .retf e => ⟨fun {sc C k st ρ nx Ψ} K h q => by
    simp only [fitS] at h
    split at h
    · exact js_retF ((sndE tb nm e).f K.x h q)
    · cases h⟩
  | .reto i => ⟨fun {sc C k st ρ nx Ψ} K h q => by
    simp only [fitS] at h
    simp only [semS] at q
    split at h
    · have R := rd_of K.x h
      refine JS.nm fun hm => ?_
      rw [K.x.N] at hm
      have l := lk_of hm R.n
      split at q
      · rename_i a ds e
        exact js_retO K.x.c (e ▸ l) (up_of hm R.n) q R.v R.d R.c
      · exact q.elim
    · cases h⟩
  | .retn => ⟨fun {sc C k st ρ nx Ψ} K h q => by
    simp only [fitS] at h
    split at h
    · exact js_retN q
    · cases h⟩
  | .asg g e => ⟨fun {sc C k st ρ nx Ψ} K h q => by
    simp only [fitS] at h
    split at h
    · simp only [Bool.and_eq_true] at h
      obtain ⟨h1, h2, h3, h4⟩ := h
      exact js_asg (((sndE tb nm e).e K.x h2 q).to fun d ρ1 _ q1 => (sndG nm g).g K h1 q1) (by unfold swapsWithSole; exact nc_sw h3) (nt_sw h4) (by rw [fitG_star h1]; rfl)
    · cases h⟩
  | .own i e => ⟨fun {sc C k st ρ nx Ψ} K h q => by
    simp only [fitS] at h
    split at h
    · obtain ⟨h1, h2, h3⟩ := ba3 h
      obtain ⟨n, l⟩ := tg_of h1
      exact js_own K.x.c (((sndE tb nm e).f K.x h2 q).to fun ds ρ1 hm q1 a => ⟨_, up_of hm (by rw [K.x.N]; exact n), q1 a⟩) (K.loc l) (sw_no K.x.sc h3) name_none (.inl (K.fn _))
    · cases h⟩
  | .ownc i e => ⟨fun {sc C k st ρ nx Ψ} K h q => by
    simp only [fitS] at h
    split at h
    · obtain ⟨h1, h2, h3⟩ := ba3 h
      obtain ⟨a, b, s, z, rfl, e1, e2, e3, e4⟩ := sw_yes h3
      exact ownc_of K (isN_n h1) h2 e1 e2 e3 e4 q
    · cases h⟩
  | .aug i op e => ⟨fun {sc C k st ρ nx Ψ} K h q => by
    simp only [fitS] at h
    simp only [semS] at q
    split at h
    · simp only [Bool.and_eq_true, Bool.or_eq_true, decide_eq_true_eq] at h
      obtain ⟨h1, rfl, h0, h3⟩ := h
      obtain ⟨n, l⟩ := tg_of h1
      refine JS.nm fun hm => ?_
      rw [K.x.N] at hm
      have lk := lk_of hm n
      split at q
      · rename_i a e0
        have lk : Lk ρ _ (.sh (.int a)) := e0 ▸ lk
        have je := (sndE tb nm e).e K.x h3 q
        cases op with
        | Add => exact js_augI K.x.c i ip_add lk (by rw [K.x.N]; exact nt_ix n) (je.to fun d ρ1 hm1 q1 => by
            obtain ⟨b, rfl, q2⟩ := IntE.ex q1
            exact ⟨b, _, rfl, up_of hm1 (by rw [K.x.N]; exact n), q2⟩) (K.loc l) (.inl (K.fn _))
        | Sub => exact js_augI K.x.c i ip_sub lk (by rw [K.x.N]; exact nt_ix n) (je.to fun d ρ1 hm1 q1 => by
            obtain ⟨b, rfl, q2⟩ := IntE.ex q1
            exact ⟨b, _, rfl, up_of hm1 (by rw [K.x.N]; exact n), q2⟩) (K.loc l) (.inl (K.fn _))
        | _ => rcases h0 with h0 | h0 <;> cases h0
      · exact q.elim
    · cases h⟩
  | .par i j a b => ⟨fun {sc C k st ρ nx Ψ} K h q => by
    simp only [fitS] at h
    split at h
    · rename_i x px y py kt pt u v k2 pt2 pos
      simp only [Bool.and_eq_true, decide_eq_true_eq] at h --k
      obtain ⟨h1, h2, h3, h4, h5, h6⟩ := h
      have i1 : nt nm.N i = some x := isN_n h1
      have i2 : nt nm.N j = some y := isN_n h2
      have hp := h4
      unfold parB locO at hp
      simp only [Bool.and_eq_true, decide_eq_true_eq] at hp
      have e1 : C.X.N[i]? = some x := by rw [K.x.N]; exact nt_ix i1
      have e2 : C.X.N[j]? = some y := by rw [K.x.N]; exact nt_ix i2
      refine js_par K.x.c i j e1 e2 h3 (ja_cons (((sndE tb nm a).e K.x h5 q).to fun d1 ρ1 _ q1 => ja_cons (((sndE tb nm b).e K.x h6 q1).to fun d2 ρ2 hm2 q2 => ja_nil ?_) (ok_star (fit_ok h6))) (ok_star (fit_ok h5))) (ps_par K.x.c.calm K.x.c.nd e1 e2 h3 (by rw [K.x.sc]; exact hp.2.1) (by rw [K.x.sc]; exact hp.2.2.1) pa_t (sw_par K.x.sc h4 (fit_ok h5) (fit_ok h6)))
      rw [K.x.N] at hm2
      exact ⟨d1, d2, _, _, rfl, up_of hm2 i1, up_of (putS_nm.trans hm2) i2, q2⟩
    · cases h⟩
  | .ex e => ⟨fun {sc C k st ρ nx Ψ} K h q => by
    simp only [fitS] at h
    split at h
    · rw [Bool.and_eq_true] at h
      exact js_expr ((sndE tb nm e).e K.x h.1 q) (nc_sw h.2)
    · cases h⟩
  | .app i e => ⟨fun {sc C k st ρ nx Ψ} K h q => by
    simp only [fitS] at h
    simp only [semS] at q
    split at h
    · simp only [Bool.and_eq_true, decide_eq_true_eq] at h --k
      obtain ⟨h1, rfl, h3, h4⟩ := h
      have R := rd_of K.x h1
      refine JS.nm fun hm => ?_
      rw [K.x.N] at hm
      have l := lk_of hm R.n
      split at q
      · rename_i a ds e0
        refine js_append K.x.c (e0 ▸ l) (((sndE tb nm e).e K.x h4 q).to fun d ρ1 hm1 q1 => ?_) (nc_sw rfl) rfl (back1 (fit_ok h4)) h3 (ok_star (fit_ok h4)) rfl R.v R.d R.c
        rw [K.x.N] at hm1
        have l1 := lk_of hm1 R.n
        split at q1
        · rename_i a' ds' e1
          obtain ⟨rfl, q2, q3⟩ := q1
          exact ⟨ds', e1 ▸ l1, q2, _, up_of hm1 R.n, q3⟩
        · exact q1.elim
      · exact q.elim
    · cases h⟩
  | .ins i a e => ⟨fun {sc C k st ρ nx Ψ} K h q => by
    simp only [fitS] at h
    simp only [semS] at q
    split at h
    · simp only [Bool.and_eq_true, decide_eq_true_eq] at h --k
      obtain ⟨h1, rfl, h3, h4, h5⟩ := h
      have R := rd_of K.x h1
      refine JS.nm fun hm => ?_
      rw [K.x.N] at hm
      have l := lk_of hm R.n
      split at q
      · rename_i b ds e0
        refine js_insert K.x.c (e0 ▸ l) (((sndE tb nm a).e K.x h4 q).to fun d0 ρ0 hm0 q0 => ((sndE tb nm e).e K.x h5 q0).to fun d ρ1 hm1 q1 => ?_) (nc_sw rfl) rfl (back2 (fit_ok h4) (fit_ok h5)) h3 (ok_star (fit_ok h4)) (ok_star (fit_ok h5)) (by rw [ok_star (fit_ok h5)]; rfl) R.v R.d R.c
        rw [K.x.N] at hm1
        have l1 := lk_of hm1 R.n
        obtain ⟨n, rfl, q1⟩ := IntE.ex q1
        split at q1
        · rename_i a' ds' e1
          obtain ⟨rfl, q2, q3, q4⟩ := q1
          exact ⟨ds', n, rfl, q2, e1 ▸ l1, q3, _, up_of hm1 R.n, q4⟩
        · exact q1.elim
      · exact q.elim
    · cases h⟩
  | .seto i ix e => ⟨fun {sc C k st ρ nx Ψ} K h q => by
    simp only [fitS] at h
    simp only [semS] at q
    split at h
    · simp only [Bool.and_eq_true] at h
      obtain ⟨h1, h2, h3, h4, h5⟩ := h
      have R := rd_of K.x h1
      refine JS.nm fun hm => ?_
      rw [K.x.N] at hm
      have l := lk_of hm R.n
      split at q
      · rename_i b ds e0
        refine js_setO K.x.c (e0 ▸ l) (((sndE tb nm e).e K.x h3 q).to fun d ρ1 hm1 q1 => ?_) (set_sub (fit_ok h2)) (by unfold swapsWithSole; exact nc_sw h4) (nt_sw h5) rfl R.v R.d R.c
        rw [K.x.N] at hm1
        have l1 := lk_of hm1 R.n
        split at q1
        · rename_i a' ds' e1
          obtain ⟨rfl, q2⟩ := q1
          refine ⟨ds', e1 ▸ l1, ((sndE tb nm ix).e K.x h2 q2).to fun d2 ρ2 hm2 q3 => ?_⟩
          rw [K.x.N] at hm2
          have l2 := lk_of hm2 R.n
          obtain ⟨n, rfl, q4⟩ := IntE.ex q3
          split at q4
          · rename_i a2 ds2 e2
            obtain ⟨rfl, j, hj, q5⟩ := q4
            exact ⟨ds2, n, j, rfl, e2 ▸ l2, hj, _, up_of hm2 R.n, q5⟩
          · exact q4.elim
        · exact q1.elim
      · exact q.elim
    · cases h⟩
  | .setc i lo hi e => ⟨fun {sc C k st ρ nx Ψ} K h q => by
    simp only [fitS] at h
    simp only [semS] at q
    split at h
    · simp only [Bool.and_eq_true] at h
      obtain ⟨h1, h2, h3, h4, h5, h6⟩ := h
      have R := rd_of K.x h1
      refine JS.nm fun hm => ?_
      rw [K.x.N] at hm
      have l := lk_of hm R.n
      split at q
      · rename_i b ds e0
        refine js_setCut K.x.c (e0 ▸ l) (((sndE tb nm e).e K.x h4 q).to fun d ρ1 hm1 q1 => ?_) (fun _ => rfl) (by unfold swapsWithSole; exact nc_sw h5) (nt_sw h6) rfl R.v R.d R.c
        rw [K.x.N] at hm1
        have l1 := lk_of hm1 R.n
        obtain ⟨new, rfl, q1⟩ := ListE.ex q1
        split at q1
        · rename_i a' ds' e1
          obtain ⟨rfl, x, y, q2, q3, q4, q5⟩ := q1
          exact ⟨new, ds', x, y, rfl, e1 ▸ l1, (sndE tb nm lo).e K.x h2 q2, (sndE tb nm hi).e K.x h3 q3, q4, _, up_of hm1 R.n, q5⟩
        · exact q1.elim
      · exact q.elim
    · cases h⟩
  | .raise i => ⟨fun {sc C k st ρ nx Ψ} K h q => by
    simp only [fitS] at h
    simp only [semS] at q
    split at h
    · obtain ⟨h1, h2, h3⟩ := ba3 h
      split at q
      · rename_i p e0
        exact js_raise K.x.c (K.x.tb.xs i _ p (isN_n h1) e0) q (K.x.gl h2) (okN_d h3).1
      · exact q.elim
    · cases h⟩
  | .iff t a b => ⟨fun {sc C k st ρ nx Ψ} K h q => by
    simp only [fitS] at h
    split at h
    · obtain ⟨h1, h2, h3⟩ := ba3 h
      exact js_if (((sndE tb nm t).t K.x h1 q).to fun z ρ1 _ q1 => ⟨fun e => (sndB tb hs nm a).b K h2 (q1.1 e), fun e => (sndB tb hs nm b).b K h3 (q1.2 e)⟩)
    · cases h⟩
  | .ifc t a b => ⟨fun {sc C k st ρ nx Ψ} K h q => by
    simp only [fitS] at h
    split at h
    · obtain ⟨h1, h2, h3⟩ := ba3 h
      obtain ⟨z, q0, q1, q2⟩ := q
      refine js_if (((sndE tb nm t).t K.x h1 q0).to ?_)
      rintro y ρ1 _ ⟨rfl, rfl⟩
      exact ⟨fun e => (sndB tb hs nm a).b K h2 (q1 e), fun e => (sndB tb hs nm b).b K h3 (q2 e)⟩
    · cases h⟩
  | .for_ g it b => ⟨fun {sc C k st ρ nx Ψ} K h q => by
    simp only [fitS] at h
    split at h
    · obtain ⟨h1, h2, h3⟩ := ba3 h
      exact js_for K.x.c (((sndE tb nm it).it K.x h2 q).to fun ds ρ1 _ q1 => by
        obtain ⟨I, i0, step, fin⟩ := q1
        exact ⟨I, i0, fun i z ρ2 hz hI => jg_imp ((sndG nm g).g K h1 (step i z ρ2 hz hI)) fun ρ3 q3 => (sndB tb hs nm b).b K h3 q3, fin⟩) (fun x => ok_fold (fit_ok h2) x)
    · cases h⟩
  | .whl t b => ⟨fun {sc C k st ρ nx Ψ} K h q => by
    simp only [fitS] at h
    split at h
    · rw [Bool.and_eq_true] at h
      obtain ⟨I, m0, i0, step⟩ := q
      exact js_while K.x.c I m0 i0 fun m ρ1 hI => ((sndE tb nm t).t K.x h.1 (step m ρ1 hI)).to fun z ρ2 _ q2 => ⟨fun e => (sndB tb hs nm b).b K h.2 (q2.1 e), q2.2⟩
    · cases h⟩
  | .tryk b n m hh => ⟨fun {sc C k st ρ nx Ψ} K h q => by
    simp only [fitS] at h
    split at h
    · rename_i y c p1 n0 k0 p2 f p3 n1 p4 p5 p6 p7 p8
      simp only [Bool.and_eq_true, decide_eq_true_eq] at h --k
      obtain ⟨h1, h2, rfl, h4, h5, h6, h7, rfl, h9, h10, rfl, h12, h13, h14, h15, h16⟩ := h
      have hks : sc.kind = .function := of_decide_eq_true h14
      have i1 : nt nm.N n = some n0 := isN_n h1
      have i2 : nt nm.N m = some k0 := isN_n h2
      simp only [semS] at q
      split at q
      · rename_i H hH
        obtain ⟨A, hA, hk⟩ := K.ke ⟨_, _, hH⟩
        refine js_try K.x.c n (cv := .ref A) ⟨K.x.gl h9, (okN_d h10).1, .inl hA⟩ (fun W pn xe cc => ?_) (by rw [K.x.N]; exact nt_ix i1) (by show C.X.env.scope.names.lookup n0 = _; rw [K.x.sc]; exact of_decide_eq_true h4) K.stk K.fr
        refine jb_exc (Ξ' := fun x ρ' => x.fs = [] ∧ ∃ bs, (x.cls, bs) ∈ H.ks ∧ nx (putS (putS ρ' m (.sh (.list (bs.map .bool)))) n .no)) ((sndB tb hs nm b).b (K.try_ ⟨cc.tk, cc.calm, cc.nd, cc.room, cc.po, cc.nb⟩) h16 q) fun x ρ' hm' hx => ?_
        obtain ⟨hfs, bs, hmem, hΨ⟩ := hx
        · obtain ⟨e1, j, hj, F⟩ := hk hh H hH _ hmem
          refine ⟨true, e1, fun _ a oe pn2 dd hz hf hdd => ?_, fun z => by cases z⟩
          have hdd := hdd hfs
          subst hdd
          have hm'' : ρ'.map (·.1) = nm.N := hm'.trans K.x.N
          refine ⟨_, up_of hm'' i1, ?_⟩
          have hm2 : (putS ρ' n (.ob (xbox C.X.K a x none))).map (·.1) = nm.N := putS_nm.trans hm''
          have l2 : Lk (putS ρ' n (.ob (xbox C.X.K a x none))) n0 (.ob (xbox C.X.K a x none)) := (up_of hm'' i1).get
          refine jb_cons (js_asg (je_hot (K' := C.X.K) (fs := x.fs) (dd := none) K.x.c F hj hz hf l2 ?_ (K.x.gl h12) (okN_d h13).1 (by rw [K.x.sc]; exact h5) (okN_d h6).1 (okN_d h6).2) (by unfold swapsWithSole; exact nc_sw rfl) name_none rfl)
          refine jg_nameN K.x.c.nd (up_of hm2 i2) ?_ (K.loc h7) (.inl (K.fn _))
          refine jb_nil ⟨_, up_of (putS_nm.trans hm2) i1, ?_⟩
          rw [putS_comm h15, putS_putS]
          exact hΨ
      · exact q.elim
    · cases h⟩
  | .pass => ⟨fun {sc C k st ρ nx Ψ} K h q => by
    simp only [fitS] at h
    split at h
    · exact js_pass q
    · cases h⟩
  | .brk => ⟨fun {sc C k st ρ nx Ψ} K h q => by
    simp only [fitS] at h
    split at h
    · exact js_break q
    · cases h⟩
  | .cnt => ⟨fun {sc C k st ρ nx Ψ} K h q => by
    simp only [fitS] at h
    split at h
    · exact js_continue q
    · cases h⟩
theorem sndB (tb : Tb) (hs : List Hs) (nm : Nm) : ∀ r : IB, SndB tb hs nm r
  | .nil => ⟨fun {sc C k st ρ nx Ψ} K h q => by
    simp only [fitB] at h
    split at h
    · exact jb_nil q
    · cases h⟩
  | .cons s r => ⟨fun {sc C k st ρ nx Ψ} K h q => by
    simp only [fitB] at h
    split at h
    · rw [Bool.and_eq_true] at h
      exact jb_cons (((sndS tb hs nm s).s K h.1 q).to (fun ρ' _ q1 => (sndB tb hs nm r).b K h.2 q1) (fun _ _ z => z) (fun _ z => z) fun _ z => z)
    · cases h⟩
  | .cut s r => ⟨fun {sc C k st ρ nx Ψ} K h q => by
    simp only [fitB] at h
    split at h
    · rw [Bool.and_eq_true] at h
      obtain ⟨I, q0, q1⟩ := q
      exact jb_cons (((sndS tb hs nm s).s K h.1 q0).to (fun ρ' _ q2 => (sndB tb hs nm r).b K h.2 (q1 ρ' q2)) (fun _ _ z => z) (fun _ z => z) fun _ z => z)
    · cases h⟩
end
end KJ

set_option Elab.async false
set_option linter.all false
set_option maxRecDepth 100000
set_option maxHeartbeats 4100000
/-! K10: a def by its reading. -/
namespace KJ
open PySem PySem.Spec L2 PyProof.Rows
def FsOk (M : Md) (k : Nat) : List Str → List (Str × Fsp) → Prop
  | x :: xs, p :: ps => FspOk M k x p.2 ∧ FsOk M k xs ps
  | _, _ => True
def GsOk (M : Md) : List Str → List (Str × Pd) → Prop
  | x :: xs, p :: ps => Gk M.K M.mg x p.2 ∧ GsOk M xs ps
  | _, _ => True
def XsOk (M : Md) : List Str → List (Str × Addr) → Prop
  | x :: xs, p :: ps => XcK M.K M.mg x p.2 ∧ XsOk M xs ps
  | _, _ => True
theorem FsOk.at {M : Md} {k : Nat} : ∀ {xs : List Str} {ps : List (Str × Fsp)}, FsOk M k xs ps → ∀ (i : Nat) x p, nt xs i = some x → nt ps i = some p → FspOk M k x p.2
  | [], _, _, i, x, p, e, _ => by cases i <;> cases e
  | _ :: _, [], _, i, x, p, _, e => by cases i <;> cases e
  | x0 :: xs, p0 :: ps, h, 0, x, p, e1, e2 => by
    have e1 : x0 = x := Option.some.inj e1
    have e2 : p0 = p := Option.some.inj e2
    subst e1 e2
    exact h.1
  | x0 :: xs, p0 :: ps, h, i + 1, x, p, e1, e2 => FsOk.at h.2 i x p e1 e2
theorem GsOk.at {M : Md} : ∀ {xs : List Str} {ps : List (Str × Pd)}, GsOk M xs ps → ∀ (i : Nat) x p, nt xs i = some x → nt ps i = some p → Gk M.K M.mg x p.2
  | [], _, _, i, x, p, e, _ => by cases i <;> cases e
  | _ :: _, [], _, i, x, p, _, e => by cases i <;> cases e
  | x0 :: xs, p0 :: ps, h, 0, x, p, e1, e2 => by
    have e1 : x0 = x := Option.some.inj e1
    have e2 : p0 = p := Option.some.inj e2
    subst e1 e2
    exact h.1
  | x0 :: xs, p0 :: ps, h, i + 1, x, p, e1, e2 => GsOk.at h.2 i x p e1 e2
theorem XsOk.at {M : Md} : ∀ {xs : List Str} {ps : List (Str × Addr)}, XsOk M xs ps → ∀ (i : Nat) x p, nt xs i = some x → nt ps i = some p → XcK M.K M.mg x p.2
  | [], _, _, i, x, p, e, _ => by cases i <;> cases e
  | _ :: _, [], _, i, x, p, _, e => by cases i <;> cases e
  | x0 :: xs, p0 :: ps, h, 0, x, p, e1, e2 => by
    have e1 : x0 = x := Option.some.inj e1
    have e2 : p0 = p := Option.some.inj e2
    subst e1 e2
    exact h.1
  | x0 :: xs, p0 :: ps, h, i + 1, x, p, e1, e2 => XsOk.at h.2 i x p e1 e2
theorem tbOk {M : Md} {k : Nat} {nm : Nm} {tb : Tb} (f : FsOk M k nm.fs tb.fs) (g : GsOk M nm.gs tb.gs) (x : XsOk M nm.xs tb.xs) : TbOk M k nm tb := ⟨f.at, g.at, x.at⟩
def HsOk (M : Md) (k : Nat) (hs : List Hs) : Prop := (∃ h H, nt hs h = some H) → ∃ A, M.mg "KeelError" = some (.ref A) ∧ ∀ (h : Nat) H, nt hs h = some H → ∀ p ∈ H.ks, PySem.W.exmOne M.K (.ref p.1) (.ref A) = some true ∧ ∃ j, j ≤ k ∧ FoH M "_law_kinds" j p.1 p.2
theorem hs0 {M : Md} {k : Nat} : HsOk M k [] := fun ⟨h, H, e⟩ => by cases h <;> cases e
/-- the first name's own list, at the end -/
def atO (a : Addr) (Q : List Pd → Prop) (ρ : Rho) : Prop := match getS ρ 0 with
  | .ow a' w' => a' = a ∧ Q w'
  | _ => False
def poO (a : Addr) (Φ : Rs → List Pd → Prop) : Po := ⟨fun ρ => atO a (Φ (.d .none)) ρ, fun r ρ => atO a (Φ r.rs) ρ, fun _ => False, fun _ => False⟩
section
variable {M : Md} {x y z qual : Str} {params : Arguments} {body : List Stmt} {sc : Scope} {dvs : List V} {f : Addr} {fd : FuncData} {N ps : List Str} {k n : Nat} {tb : Tb} {hs : List Hs} {nm : Nm}
theorem ks_of {e : En} {Ξ : Xn → Rho → Prop} (T : TbOk M k nm tb) (hN : nm.N = N) (hh : HsOk M k hs) (c : Jok (jc M N qual sc e Ξ) k) : Ks tb hs nm sc (jc M N qual sc e Ξ) k :=
  ⟨⟨c, hN.symm, rfl, T⟩, fun _ => rfl, rfl, rfl, hh⟩
theorem fo_k {S : Sd} (ir : IB) (F : FunD M.K y qual params body sc dvs [] f fd) (hx : M.mg x = some (.ref f)) (Sc : FnScope nm.N ps sc) (nb : NoB M.mg) (hn : ps.length = n) (T : TbOk M k nm tb) (hh : HsOk M k hs) (hf : fitB nm sc ir body = true)
    {ds : List Value} {dv : List V} {dl : List Pd} (B : Binds M.K fd ps ds) (Vd : Vals dv ds) (D : ∀ G, RpA M.K G dv dl)
    (hb : ∀ (ds : List Pd) (Φ : Rs → Prop), ds.length = n → S ds Φ → semB tb hs ir (fun x _ => Φ (.xn x)) (st0 nm.N ds) (poD Φ).nx (poD Φ)) : Fo M x (k + 1) n (fun K n => spD K n S) dl :=
  fo_ok F hx Sc nb hn (fun e ds Φ c hl hS => (sndB tb hs nm ir).b (ks_of T rfl hh c) hf (hb ds Φ hl hS)) B Vd D
theorem foI_k {S : Si} {N : List Str} (ir : IB) (F : FunD M.K z qual params body sc dvs [] f fd) (hx : M.mg x = some (.ref f)) (hN : nm.N = y :: N) (Sc : FnScope (y :: N) ps sc) (nb : NoB M.mg) (hn : ps.length = n) (T : TbOk M k nm tb) (hh : HsOk M k hs) (hf : fitB nm sc ir body = true)
    {ds : List Value} {dv : List V} {dl : List Pd} (B : Binds M.K fd ps ds) (Vd : Vals dv ds) (D : ∀ G, RpA M.K G dv dl)
    (hb : ∀ (a : Addr) (w ds : List Pd) (Φ : Rs → List Pd → Prop), ds.length + 1 = n → S w ds Φ → semB tb hs ir (fun x ρ => atO a (Φ (.xn x)) ρ) ((y, .ow a w) :: st0 N ds) (poO a Φ).nx (poO a Φ)) : Fo M x (k + 1) n (fun K n => spI K n S) dl :=
  foI_ok F hx Sc nb hn (fun e a w ds Φ c hl hS => by
    have key : ∀ {Q : List Pd → Prop} {ρ : Rho}, ρ.map (·.1) = y :: N → atO a Q ρ → ∃ w', Lk ρ y (.ow a w') ∧ Q w' := fun {Q ρ} hm h => by
      have l : Lk ρ y (getS ρ 0) := lk_of hm rfl
      unfold atO at h
      split at h
      · rename_i a' w' e0
        obtain ⟨rfl, h⟩ := h
        exact ⟨w', e0 ▸ l, h⟩
      · exact h.elim
    have J := (sndB tb hs nm ir).b (C := jc M (y :: N) qual sc e fun x ρ => atO a (Φ (.xn x)) ρ) (ks_of T hN hh ⟨c.tk, c.calm, c.nd, c.room, c.po, c.nb⟩) hf (hb a w ds Φ hl hS)
    have J2 := jb_exc (Ξ := fun x ρ => ∃ w', Lk ρ y (.ow a w') ∧ Φ (.xn x) w') J fun x ρ' hm h => key hm h
    exact ⟨fun G0 H0 G H σ S D ok ex => J2.run G0 H0 G H σ S D ⟨fun ρ' σ' G' H' a b => ok.nx ρ' σ' G' H' (key b.nm a) b, fun r ρ' σ' v G' H' a b => ok.rt r ρ' σ' v G' H' (key b.nm a) b, fun _ _ _ _ z => z.elim, fun _ _ _ _ z => z.elim⟩ ex⟩) B Vd D
theorem fnQ_k {S : Sq} {N : List Str} (ir : IB) (F : FunD M.K z qual params body sc dvs [] f fd) (hN : nm.N = y :: N) (Sc : FnScope (y :: N) ps sc) (nb : NoB M.mg) (hn : ps.length = n) (T : TbOk M k nm tb) (hh : HsOk M k hs) (hf : fitB nm sc ir body = true)
    (hb : ∀ (a : Addr) (ns : List Int) (ds : List Pd) (Φ : Rs → Prop), ds.length + 1 = n → S ns ds Φ → semB tb hs ir (fun x _ => Φ (.xn x)) ((y, .sq a (ns.map V.int)) :: st0 N ds) (poD Φ).nx (poD Φ)) : FnOk M.P M.w M.K M.mg M.base (L2.CX M.P M.w) (k + 1) f fd ps (spQ M.K n S) :=
  fnQ_ok F Sc nb hn fun e a ns ds Φ c hl hS => (sndB tb hs nm ir).b (ks_of T hN hh c) hf (hb a ns ds Φ hl hS)
theorem foQ_k {S : Sq} {N : List Str} (ir : IB) (F : FunD M.K z qual params body sc dvs [] f fd) (hx : M.mg x = some (.ref f)) (hN : nm.N = y :: N) (Sc : FnScope (y :: N) ps sc) (nb : NoB M.mg) (hn : ps.length = n) (T : TbOk M k nm tb) (hh : HsOk M k hs) (hf : fitB nm sc ir body = true)
    {ds : List Value} {dv : List V} {dl : List Pd} (B : Binds M.K fd ps ds) (Vd : Vals dv ds) (D : ∀ G, RpA M.K G dv dl)
    (hb : ∀ (a : Addr) (ns : List Int) (ds : List Pd) (Φ : Rs → Prop), ds.length + 1 = n → S ns ds Φ → semB tb hs ir (fun x _ => Φ (.xn x)) ((y, .sq a (ns.map V.int)) :: st0 N ds) (poD Φ).nx (poD Φ)) : Fo M x (k + 1) n (fun K n => spQ K n S) dl :=
  ⟨f, fd, ps, ds, dv, hx, F.kp, fnQ_k ir F hN Sc nb hn T hh hf hb, B, Vd, D⟩
end
end KJ

set_option Elab.async false
set_option linter.all false
set_option maxRecDepth 100000
set_option maxHeartbeats 4100000
/-! K11: ways to tell what a comprehension makes. -/
namespace KJ
open PySem PySem.Spec L2 PyProof.Rows
section
variable {j : Nat} {ρ : Rho} {E : Rho → (Pd → Rho → Prop) → Prop} {T : Rho → (Bool → Rho → Prop) → Prop} {Φ : List Pd → Rho → Prop}
theorem lc0_d {ds : List Pd} (f : Pd → Pd) (hl : ds.length ≤ 1000000) (h : ∀ x ∈ ds, E (putS ρ j (.sh x)) fun w ρ' => w = f x ∧ ρ' = putS ρ j (.sh x)) (k : Φ (ds.map f) ρ) (h0 : fpS (getS ρ j) = [] := by rfl) : LcK0 j E Φ ds ρ := by
  unfold LcK0; exact ⟨h0, Pd, ds, id, f, (List.map_id _).symm, hl, h, k⟩
theorem lc0_m {α : Type} (xs : List α) (enc f : α → Pd) {ds : List Pd} (hl : xs.length ≤ 1000000) (h : ∀ x ∈ xs, E (putS ρ j (.sh (enc x))) fun w ρ' => w = f x ∧ ρ' = putS ρ j (.sh (enc x))) (k : Φ (xs.map f) ρ) (e : ds = xs.map enc := by rfl) (h0 : fpS (getS ρ j) = [] := by rfl) : LcK0 j E Φ ds ρ := by
  unfold LcK0; exact ⟨h0, α, xs, enc, f, e, hl, h, k⟩
theorem lc1_d {ds : List Pd} (f : Pd → Pd) (q : Pd → Bool) (hl : ds.length ≤ 1000000)
    (h : ∀ x ∈ ds, T (putS ρ j (.sh x)) (fun b ρ' => b = q x ∧ ρ' = putS ρ j (.sh x)) ∧ (q x = true → E (putS ρ j (.sh x)) fun w ρ' => w = f x ∧ ρ' = putS ρ j (.sh x))) (k : Φ ((ds.filter q).map f) ρ) (h0 : fpS (getS ρ j) = [] := by rfl) : LcK j T E Φ ds ρ := by
  unfold LcK; exact ⟨h0, Pd, ds, id, f, q, (List.map_id _).symm, hl, h, k⟩
theorem lc1_m {α : Type} (xs : List α) (enc f : α → Pd) (q : α → Bool) {ds : List Pd} (hl : xs.length ≤ 1000000)
    (h : ∀ x ∈ xs, T (putS ρ j (.sh (enc x))) (fun b ρ' => b = q x ∧ ρ' = putS ρ j (.sh (enc x))) ∧ (q x = true → E (putS ρ j (.sh (enc x))) fun w ρ' => w = f x ∧ ρ' = putS ρ j (.sh (enc x)))) (k : Φ ((xs.filter q).map f) ρ) (e : ds = xs.map enc := by rfl) (h0 : fpS (getS ρ j) = [] := by rfl) : LcK j T E Φ ds ρ := by
  unfold LcK; exact ⟨h0, α, xs, enc, f, q, e, hl, h, k⟩
theorem lcs0 {ds : List Pd} (I : Nat → List Pd → Rho → Prop) (hl : ds.length ≤ 1000000) (i0 : I 0 [] (putS ρ j .no))
    (step : ∀ (i : Nat) z acc ρ2, ds[i]? = some z → I i acc ρ2 → acc.length ≤ i → E (putS ρ2 j (.sh z)) fun w ρ5 => I (i + 1) (acc ++ [w]) (putS ρ5 j .no)) (fin : ∀ acc ρ2, I ds.length acc ρ2 → Φ acc (putS ρ2 j (getS ρ j))) (h0 : fpS (getS ρ j) = [] := by rfl) : LcSK0 j E Φ ds ρ := by
  unfold LcSK0; exact ⟨h0, hl, I, i0, step, fin⟩
theorem lcs1 {ds : List Pd} (I : Nat → List Pd → Rho → Prop) (hl : ds.length ≤ 1000000) (i0 : I 0 [] (putS ρ j .no))
    (step : ∀ (i : Nat) z acc ρ2, ds[i]? = some z → I i acc ρ2 → acc.length ≤ i → T (putS ρ2 j (.sh z)) fun b ρ4 => (b = true → E ρ4 fun w ρ5 => I (i + 1) (acc ++ [w]) (putS ρ5 j .no)) ∧ (b = false → I (i + 1) acc (putS ρ4 j .no)))
    (fin : ∀ acc ρ2, I ds.length acc ρ2 → Φ acc (putS ρ2 j (getS ρ j))) (h0 : fpS (getS ρ j) = [] := by rfl) : LcSK j T E Φ ds ρ := by
  unfold LcSK; exact ⟨h0, hl, I, i0, step, fin⟩
end
theorem allB_map {α : Type} (xs : List α) (p : α → Bool) : allB (xs.map fun c => .bool (p c)) := by
  unfold allB
  intro x hx
  obtain ⟨c, _, rfl⟩ := List.mem_map.mp hx
  rfl
theorem all_tru {α : Type} (xs : List α) (p : α → Bool) : (xs.map fun c => PyData.bool (p c)).all truD = xs.all p := by rw [List.all_map]; rfl
theorem any_tru {α : Type} (xs : List α) (p : α → Bool) : (xs.map fun c => PyData.bool (p c)).any truD = xs.any p := by rw [List.any_map]; rfl
theorem at_pick {xs : List Pd} {i : Int} {Φ : Pd → Prop} (h0 : 0 ≤ i) (h1 : i < xs.length) (h : ∀ z ∈ xs, xs[i.toNat]? = some z → Φ z) : AtK xs i Φ := by
  obtain ⟨z, a, b, m⟩ := atI_lt h0 h1
  unfold AtK
  rw [a]
  exact h z m b
theorem at_get {xs : List Pd} {i : Int} {z : Pd} {Φ : Pd → Prop} (h0 : 0 ≤ i) (e : xs[i.toNat]? = some z) (h : Φ z) : AtK xs i Φ := by
  have h1 := (List.getElem?_eq_some_iff.mp e).1
  refine at_pick h0 (by omega) fun y _ e2 => ?_
  rw [e] at e2
  cases e2
  exact h
end KJ

set_option Elab.async false
set_option linter.all false
set_option maxRecDepth 100000
set_option maxHeartbeats 4100000
namespace KJ
open PySem PySem.Spec L2 PyProof.Rows
/-- a def of the text stands -/
def Df (M : Md) (x : Str) (st : Stmt) (dvs : List V) : Prop := ∃ f fd, M.mg x = some (.ref f) ∧ FunD M.K x x (defArgs st) (defBody st) (defScope st) dvs [] f fd
/-- data of small depth, texts and lists up to L long, without dicts -/
def nicL (L : Nat) : Nat → Pd → Bool
  | _, .none => true
  | _, .bool _ => true
  | _, .int _ => true
  | _, .str x => decide (x.length ≤ L)
  | n + 1, .list xs => decide (xs.length ≤ L) && xs.all (nicL L n)
  | n + 1, .tuple xs => decide (xs.length ≤ L) && xs.all (nicL L n)
  | _, _ => false
abbrev nic : Nat → Pd → Bool := nicL 1000
theorem nicL_up {L L' : Nat} (hL : L ≤ L') : ∀ {n m : Nat} {d : Pd}, n ≤ m → nicL L n d = true → nicL L' m d = true
  | n, m, .none, _, _ => by unfold nicL; rfl
  | n, m, .bool _, _, _ => by unfold nicL; rfl
  | n, m, .int _, _, _ => by unfold nicL; rfl
  | n, m, .str x, _, h => by
    unfold nicL at h ⊢
    have := of_decide_eq_true h
    exact decide_eq_true (by omega) --k
  | n + 1, m + 1, .list xs, l, h => by
    unfold nicL at h ⊢
    rw [Bool.and_eq_true] at h ⊢
    have := of_decide_eq_true h.1
    refine ⟨decide_eq_true (by omega), List.all_eq_true.mpr fun x hx => nicL_up hL (Nat.le_of_succ_le_succ l) (List.all_eq_true.mp h.2 x hx)⟩
  | n + 1, m + 1, .tuple xs, l, h => by
    unfold nicL at h ⊢
    rw [Bool.and_eq_true] at h ⊢
    have := of_decide_eq_true h.1
    refine ⟨decide_eq_true (by omega), List.all_eq_true.mpr fun x hx => nicL_up hL (Nat.le_of_succ_le_succ l) (List.all_eq_true.mp h.2 x hx)⟩
  | 0, _, .list xs, _, h => by simp [nicL] at h
  | 0, _, .tuple xs, _, h => by simp [nicL] at h
  | n + 1, 0, .list xs, l, h => by omega
  | n + 1, 0, .tuple xs, l, h => by omega
  | n, _, .dict _, _, h => by cases n <;> simp [nicL] at h
theorem nic_up {n m : Nat} {d : Pd} (l : n ≤ m) (h : nic n d = true) : nic m d = true := nicL_up (Nat.le_refl _) l h
end KJ
namespace KJ
open PySem PySem.Spec L2 PyProof.Rows
theorem line1k {n : Nat} (h : n ≤ 1000) : n ≤ sizeLine := Nat.le_trans h (by rw [sizeLine_eq]; decide)
theorem nicL_str {L n : Nat} {x : Str} (h : nicL L n (.str x) = true) : x.length ≤ L := by unfold nicL at h; exact of_decide_eq_true h
theorem nic_str {n : Nat} {x : Str} (h : nic n (.str x) = true) : x.length ≤ 1000 := nicL_str h
theorem nicL_tup {L n : Nat} {xs : List Pd} (h : nicL L (n + 1) (.tuple xs) = true) : xs.length ≤ L ∧ ∀ x ∈ xs, nicL L n x = true := by
  unfold nicL at h
  rw [Bool.and_eq_true] at h
  exact ⟨of_decide_eq_true h.1, List.all_eq_true.mp h.2⟩
theorem nicL_lst {L n : Nat} {xs : List Pd} (h : nicL L (n + 1) (.list xs) = true) : xs.length ≤ L ∧ ∀ x ∈ xs, nicL L n x = true := by
  unfold nicL at h
  rw [Bool.and_eq_true] at h
  exact ⟨of_decide_eq_true h.1, List.all_eq_true.mp h.2⟩
theorem nicL_mkT {L n : Nat} {xs : List Pd} (h : xs.length ≤ L) (k : ∀ x ∈ xs, nicL L n x = true) : nicL L (n + 1) (.tuple xs) = true := by
  unfold nicL
  rw [Bool.and_eq_true]
  exact ⟨decide_eq_true h, List.all_eq_true.mpr k⟩
theorem nicL_mkL {L n : Nat} {xs : List Pd} (h : xs.length ≤ L) (k : ∀ x ∈ xs, nicL L n x = true) : nicL L (n + 1) (.list xs) = true := by
  unfold nicL
  rw [Bool.and_eq_true]
  exact ⟨decide_eq_true h, List.all_eq_true.mpr k⟩
theorem nic_tup {n : Nat} {xs : List Pd} (h : nic (n + 1) (.tuple xs) = true) : xs.length ≤ 1000 ∧ ∀ x ∈ xs, nic n x = true := nicL_tup h
theorem nic_lst {n : Nat} {xs : List Pd} (h : nic (n + 1) (.list xs) = true) : xs.length ≤ 1000 ∧ ∀ x ∈ xs, nic n x = true := nicL_lst h
theorem strlen (x : Str) : x.cps.toList.length = x.length := by simp [Str.length]
/-- the letters -/
abbrev abc : Str := "abcdefghijklmnopqrstuvwxyz"
end KJ
namespace KJ
open PySem PySem.Spec L2 PyProof.Rows
theorem map_bl {α : Type} (xs : List α) (p : α → Bool) : xs.map (fun c => PyData.bool (p c)) = (xs.map p).map PyData.bool := by rw [List.map_map]; rfl
theorem all_id {α : Type} (xs : List α) (p : α → Bool) : (xs.map p).all id = xs.all p := by rw [List.all_map]; rfl
theorem nic_mem {n : Nat} {xs : List Pd} (h : nic (n + 1) (.tuple xs) = true) {x : Pd} (hx : x ∈ xs) : nic n x = true := (nic_tup h).2 x hx
theorem atI_nat {α : Type} {xs : List α} {i : Nat} {z : α} (h : xs[i]? = some z) : atI xs (i : Int) = some z := by
  have hi := (List.getElem?_eq_some_iff.mp h).1
  unfold atI ixN
  rw [if_pos (by omega), if_pos (by omega)] --k
  simpa using h
end KJ
namespace KJ
open PySem PySem.Spec L2 PyProof.Rows
theorem tup_ex {d : Pd} (h : isTupD d = true) : ∃ xs, d = .tuple xs := by
  cases d <;> simp [isTupD] at h
  exact ⟨_, rfl⟩
theorem int_ex {d : Pd} (h : isIntD d = true) (h2 : isBoolD d = false) : ∃ i, d = .int i := by
  cases d <;> simp [isIntD, isBoolD] at h h2
  exact ⟨_, rfl⟩
theorem str_ex {d : Pd} (h : isStrD d = true) : ∃ i, d = .str i := by
  cases d <;> simp [isStrD] at h
  exact ⟨_, rfl⟩
theorem not_f {b : Bool} (h : (!b) = false) : b = true := by simpa using h
theorem not_t {b : Bool} (h : (!b) = true) : b = false := by simpa using h
end KJ
namespace KJ
open PySem PySem.Spec L2 PyProof.Rows
theorem joinL_nil : ∀ l : List (List Nat), TL.joinL [] l = l.flatten
  | [] => rfl
  | [p] => by simp [TL.joinL]
  | p :: q :: r => by
    have z := joinL_nil (q :: r)
    show p ++ ([] ++ TL.joinL [] (q :: r)) = _
    rw [z]
    simp
theorem join0 (ys : List Str) : (Txt.join "" ys).cps.toList = (ys.map fun y => y.cps.toList).flatten := by
  have z := TL.tl_join "" ys
  rw [← TL.join_eq] at z
  exact z.trans (joinL_nil _)
/-- texts of one sign, joined -/
theorem join_ones {ys : List Str} {P : Nat → Prop} (h : ∀ y ∈ ys, ∃ s, y = ⟨#[s]⟩ ∧ P s) : (Txt.join "" ys).length = ys.length ∧ (∀ s ∈ (Txt.join "" ys).cps.toList, P s) ∧ (ys.map (·.length)).sum = ys.length := by
  have e := join0 ys
  have key : ∀ ys : List Str, (∀ y ∈ ys, ∃ s, y = ⟨#[s]⟩ ∧ P s) → ((ys.map fun y => y.cps.toList).flatten).length = ys.length ∧ (∀ s ∈ (ys.map fun y => y.cps.toList).flatten, P s) ∧ (ys.map (·.length)).sum = ys.length := by
    intro ys
    induction ys with
    | nil => intro _; exact ⟨rfl, by simp, rfl⟩
    | cons y r ih =>
      intro h
      obtain ⟨i1, i2, i3⟩ := ih fun z hz => h z (List.mem_cons_of_mem _ hz)
      obtain ⟨s, rfl, hs⟩ := h y (List.mem_cons_self ..)
      refine ⟨?_, ?_, ?_⟩
      · rw [List.map_cons, List.flatten_cons, List.length_append, i1]
        simp
        omega
      · intro t ht
        rw [List.map_cons, List.flatten_cons, List.mem_append] at ht
        rcases ht with ht | ht
        · have : t = s := by simpa using ht
          rw [this]; exact hs
        · exact i2 t ht
      · rw [List.map_cons, List.sum_cons, i3]
        simp [Str.length]
        omega
  obtain ⟨k1, k2, k3⟩ := key ys h
  refine ⟨?_, ?_, k3⟩
  · rw [← strlen, e, k1]
  · rw [e]; exact k2
end KJ
namespace KJ
open PySem PySem.Spec L2 PyProof.Rows
theorem sub_pick {xs : List Pd} {i : Int} {Φ : Pd → Prop} (h0 : 0 ≤ i) (h1 : i < xs.length) (h : ∀ z ∈ xs, Φ z) : SubK (.list xs) (.int i) Φ := by
  obtain ⟨z, a, _, m⟩ := atI_lt h0 h1
  exact ⟨z, a, h z m⟩
theorem sub_pickT {xs : List Pd} {i : Int} {Φ : Pd → Prop} (h0 : 0 ≤ i) (h1 : i < xs.length) (h : ∀ z ∈ xs, Φ z) : SubK (.tuple xs) (.int i) Φ := by
  obtain ⟨z, a, _, m⟩ := atI_lt h0 h1
  exact ⟨z, a, h z m⟩
end KJ
namespace KJ
open PySem PySem.Spec L2 PyProof.Rows
theorem rng_get {n i : Nat} {z : Pd} (h : ((List.range n).map fun (i : Nat) => PyData.int (i : Int))[i]? = some z) : z = .int i ∧ i < n := by
  rw [List.getElem?_map] at h
  cases q : (List.range n)[i]? with
  | none => rw [q] at h; cases h
  | some m =>
    rw [q] at h
    have e := (List.getElem?_eq_some_iff.mp q)
    obtain ⟨h1, h2⟩ := e
    rw [List.getElem_range] at h2
    subst h2
    exact ⟨(Option.some.inj h).symm, by simpa using h1⟩
theorem pw_snoc {ns : List Int} {i : Int} (h : ns.Pairwise (· < ·)) (k : ∀ n ∈ ns, n < i) : (ns ++ [i]).Pairwise (· < ·) := by
  rw [List.pairwise_append]
  exact ⟨h, List.pairwise_singleton _ _, fun a ha b hb => by rw [List.mem_singleton.mp hb]; exact k a ha⟩
theorem map_erase {α β : Type} (f : α → β) : ∀ (l : List α) (i : Nat), (l.map f).eraseIdx i = (l.eraseIdx i).map f
  | [], _ => rfl
  | _ :: _, 0 => rfl
  | x :: l, i + 1 => by
    show f x :: (l.map f).eraseIdx i = f x :: (l.eraseIdx i).map f
    rw [map_erase f l i]
section
variable {C : Jc} {ρ : Rho}
theorem JS.nxi {st : Stmt} {Ψ Ψ' : Po} (h : JS C ρ st Ψ) (k : ∀ ρ', Ψ.nx ρ' → Ψ'.nx ρ') (k2 : ∀ r ρ', Ψ.rt r ρ' → Ψ'.rt r ρ') (k3 : ∀ ρ', Ψ.bk ρ' → Ψ'.bk ρ') (k4 : ∀ ρ', Ψ.ct ρ' → Ψ'.ct ρ') : JS C ρ st Ψ' :=
  ⟨fun G0 H0 G H σ S D ok ex => h.run G0 H0 G H σ S D ⟨fun ρ' σ' G' H' a => ok.nx ρ' σ' G' H' (k ρ' a), fun r ρ' σ' v G' H' a => ok.rt r ρ' σ' v G' H' (k2 r ρ' a), fun ρ' σ' G' H' a => ok.bk ρ' σ' G' H' (k3 ρ' a), fun ρ' σ' G' H' a => ok.ct ρ' σ' G' H' (k4 ρ' a)⟩ ex⟩
/-- what holds behind a statement is told -/
theorem jb_cut (I : Rho → Prop) {st : Stmt} {rest : List Stmt} {Ψ : Po} (h : JS C ρ st ⟨I, Ψ.rt, Ψ.bk, Ψ.ct⟩) (k : ∀ ρ', I ρ' → JB C ρ' rest Ψ) : JB C ρ (st :: rest) Ψ :=
  jb_cons (h.nxi k (fun _ _ a => a) (fun _ a => a) fun _ a => a)
end
theorem pw_range (n : Nat) : ((List.range n).map fun (i : Nat) => (i : Int)).Pairwise (· < ·) := by
  rw [List.pairwise_map]
  exact (List.pairwise_lt_range (n := n)).imp fun h => by omega
end KJ
namespace KJ
open PySem PySem.Spec L2 PyProof.Rows
mutual
theorem nic_plain : ∀ {n : Nat} {d : Pd}, nic n d = true → d.plain = true
  | _, .none, _ => rfl
  | _, .bool _, _ => rfl
  | _, .int _, _ => rfl
  | _, .str _, _ => rfl
  | n + 1, .list xs, h => by
    show PyData.plainAll xs = true
    exact nic_plainAll (n := n) (nic_lst h).2
  | n + 1, .tuple xs, h => by
    show PyData.plainAll xs = true
    exact nic_plainAll (n := n) (nic_tup h).2
  | 0, .list _, h => by simp [nicL] at h
  | 0, .tuple _, h => by simp [nicL] at h
  | n, .dict _, h => by cases n <;> simp [nicL] at h
theorem nic_plainAll : ∀ {n : Nat} {xs : List Pd}, (∀ x ∈ xs, nic n x = true) → PyData.plainAll xs = true
  | _, [], _ => rfl
  | n, x :: xs, h => by
    show (x.plain && PyData.plainAll xs) = true
    rw [nic_plain (n := n) (h x (List.mem_cons_self ..)), nic_plainAll (n := n) (fun z hz => h z (List.mem_cons_of_mem _ hz))]
    rfl
end
theorem eqv_nil (xs : List Pd) : PyData.eqv (.list xs) (.list []) = xs.isEmpty := by
  cases xs <;> rfl
theorem small_nil (d : Pd) : smallD d (.list []) := by
  have : (PyData.list []).depth ≤ 60 := by decide
  show min d.depth (PyData.list []).depth ≤ 60
  omega
/-- a list == [] -/
theorem cmp_nil {xs : List Pd} {n : Nat} {Φ : Bool → Prop} (hp : ∀ x ∈ xs, nic n x = true) (h : Φ xs.isEmpty) : CmpK .Eq (.list xs) (.list []) Φ := ⟨⟨nic_plainAll hp, rfl, small_nil _⟩, by rw [eqv_nil]; exact h⟩
theorem cmpN_nil {xs : List Pd} {n : Nat} {Φ : Bool → Prop} (hp : ∀ x ∈ xs, nic n x = true) (h : Φ (!xs.isEmpty)) : CmpK .NotEq (.list xs) (.list []) Φ := ⟨⟨nic_plainAll hp, rfl, small_nil _⟩, by rw [eqv_nil]; exact h⟩
theorem emp_map {α β : Type} (l : List α) (f : α → β) : (l.map f).isEmpty = l.isEmpty := by cases l <;> rfl
theorem filt_nil {α : Type} (xs : List α) (p : α → Bool) : (xs.filter fun c => !p c).isEmpty = xs.all p := by
  induction xs with
  | nil => rfl
  | cons x r ih =>
    rw [List.filter_cons, List.all_cons, ← ih]
    cases p x <;> rfl
end KJ
namespace M
open PySem PySem.Spec L2 PyProof.Rows KJ
/-! ### what the defs come to: data, promises -/
def isName (d : Pd) : Bool := match d with
  | .str x => decide ((1 : Int) ≤ x.length) && (decide ((x.length : Int) ≤ 8) && x.cps.toList.all fun c => subStr ⟨#[c]⟩ abc)
  | _ => false
def S_is_name : Sd := fun ds Φ => match ds with
  | [d] => nic 9 d = true ∧ Φ (.d (.bool (isName d)))
  | _ => False
def isWhole (d : Pd) (lo hi : Int) : Bool := match d with
  | .int i => decide (lo ≤ i) && decide (i ≤ hi)
  | _ => false
def S_is_whole : Sd := fun ds Φ => match ds with
  | [d, .int lo, .int hi] => Φ (.d (.bool (isWhole d lo hi)))
  | _ => False
def ltD : Pd → Pd → Bool
  | .int a, .int b => decide (a < b)
  | _, _ => false
def isLaid (d : Pd) (w : Int) : Bool := match d with
  | .tuple xs => decide ((xs.length : Int) < w) && ((xs.all fun z => isWhole z 0 (w - 1)) && (List.range ((xs.length : Int) - 1).toNat).all fun k => ltD (xs.getD k .none) (xs.getD (k + 1) .none))
  | _ => false
def S_is_laid : Sd := fun ds Φ => match ds with
  | [d, .int w] => nic 9 d = true ∧ Φ (.d (.bool (isLaid d w)))
  | _ => False
def isBoat (d : Pd) : Bool := match d with
  | .tuple [w, l, o, h] => match w with
    | .int n => isWhole w 2 52 && (isLaid l n && (isWhole h 0 1000000 && (match o with
      | .tuple os => decide ((1 : Int) ≤ os.length) && (decide ((os.length : Int) ≤ 12) && os.all isName)
      | _ => false)))
    | _ => false
  | _ => false
def S_is_boat : Sd := fun ds Φ => match ds with
  | [d] => nic 10 d = true ∧ Φ (.d (.bool (isBoat d)))
  | _ => False
def xn0 (A : Addr) : Rs := .xn ⟨A, []⟩
def S_need_boat (A : Addr) : Sd := fun ds Φ => match ds with
  | [d] => nic 10 d = true ∧ (isBoat d = true → Φ (.d .none)) ∧ (isBoat d = false → Φ (xn0 A))
  | _ => False
def S_parts_in : Sd := fun ds Φ => match ds with
  | [.tuple [_, _, .tuple os, _]] => Φ (.d (.int os.length))
  | _ => False
def S_need_least (A : Addr) : Sd := fun ds Φ => match ds with
  | [.int a, .int b] => (a < b → Φ (xn0 A)) ∧ (b ≤ a → Φ (.d .none))
  | _ => False
/-- turn_of of a week below 0: it is always refused -/
def S_turn_neg (A B : Addr) : Sd := fun ds Φ => match ds with
  | [d, .int i] => i < 0 ∧ nic 10 d = true ∧ (isBoat d = true → Φ (xn0 B)) ∧ (isBoat d = false → Φ (xn0 A))
  | _ => False
/-- a well of numbers -/
def Wl (w : List Pd) : Prop := ∃ a b p : Int, w = [.int a, .int b, .int p] ∧ (0 ≤ b ∧ b < 2147490000) ∧ 2147483489 < p ∧ p < 2147483648
abbrev primes : List Pd := [.int 2147483647, .int 2147483629, .int 2147483587, .int 2147483579, .int 2147483563, .int 2147483549, .int 2147483543, .int 2147483497]
def S_well : Sq := fun ns ds Φ => match ds with
  | [.int k] => (0 ≤ k ∧ k < 1000) ∧ ∀ w, Wl w → Φ (.fr w)
  | _ => False
def S_take : Si := fun w ds Φ => Wl w ∧ match ds with
  | [.int n] => (0 < n ∧ n < 2 ^ 100) ∧ ∀ r w', Wl w' → 0 ≤ r → r < n → Φ (.d (.int r)) w'
  | _ => False
def S_lname : Si := fun w ds Φ => Wl w ∧ match ds with
  | [] => ∀ x w', Wl w' → isName (.str x) = true → x.length ≤ 8 → Φ (.d (.str x)) w'
  | _ => False
def S_lboat : Si := fun w ds Φ => Wl w ∧ match ds with
  | [.int m] => (2 ≤ m ∧ m ≤ 52) ∧ ∀ n l o h w', Wl w' → isBoat (.tuple [.int n, .tuple l, .tuple o, .int h]) = true → n ≤ m → nicL 100 2 (.tuple [.int n, .tuple l, .tuple o, .int h]) = true → Φ (.d (.tuple [.int n, .tuple l, .tuple o, .int h])) w'
  | _ => False
def S_lis_name : Sd := fun ds Φ => match ds with
  | [d] => nic 9 d = true ∧ Φ (.d (.bool (isName d)))
  | _ => False
def S_lonly : Sd := fun ds Φ => match ds with
  | [.int i] => Φ (.d (.list ((List.range 16).map fun (k : Nat) => PyData.bool (decide ((k : Int) = i)))))
  | _ => False
def S_lsays : Sd := fun ds Φ => match ds with
  | [.bool a, .bool b] => Φ (.d (.bool (decide (a = b))))
  | _ => False
def S_thing (N : Nat) : Si := fun w ds Φ => Wl w ∧ match ds with
  | [.int n] => (0 ≤ n ∧ n ≤ N) ∧ ∀ d w', Wl w' → nicL 100 (n.toNat + 1) d = true → Φ (.d d) w'
  | _ => False
theorem isWhole_int {z : Pd} {lo hi : Int} (h : isWhole z lo hi = true) : ∃ i, z = .int i ∧ lo ≤ i ∧ i ≤ hi := by
  cases z <;> simp [isWhole] at h
  exact ⟨_, rfl, h⟩
theorem isBoat_len {xs : List Pd} (h : xs.length ≠ 4) : isBoat (.tuple xs) = false := by
  unfold isBoat
  split
  · rename_i e
    cases e
    exact absurd rfl h
  · rfl
def S_other (N : Nat) : Si := fun w ds Φ => Wl w ∧ match ds with
  | [.tuple xs, .int n] => (0 ≤ n ∧ n ≤ N) ∧ nicL 100 3 (.tuple xs) = true ∧ ∀ d w', Wl w' → nicL 300 (n.toNat + 4) d = true → Φ (.d d) w'
  | _ => False
def kNames : List Str := ["NoBoat", "NoPart", "NoNumber", "NoOwner", "NothingLeft", "NoText", "NoRow", "NoPages", "NoPage", "Twice", "NotThere", "TooMany", "Faulty", "NoWish", "Lacks"]
/-- what the head tells of the classes: their instances are asked by their class; d is an instance of y just where it is y -/
structure XFacts (M : Md) : Prop where
  isi : M.mg "isinstance" = none
  ve : M.mg "ValueError" = none
  gl : ∀ y ∈ kNames, M.mg y = some (.ref (He.ga M.K y))
  ex : ∀ d ∈ kNames, ExcC M.K (He.ga M.K d)
  kit : ∀ d ∈ kNames, ∀ y ∈ kNames, PySem.W.kitOne M.K (.ref (He.ga M.K d)) (.ref (He.ga M.K y)) = some (decide (d = y))
  kve : ∀ d ∈ kNames, PySem.W.kitOne M.K (.ref (He.ga M.K d)) (.type "ValueError") = some true
  keel : ∀ d ∈ kNames, PySem.W.exmOne M.K (.ref (He.ga M.K d)) (.ref (He.ga M.K "KeelError")) = some true
  glk : M.mg "KeelError" = some (.ref (He.ga M.K "KeelError"))
def kindsOf (d : Str) : List Bool := kNames.map (fun y => decide (d = y)) ++ [false]
def S_refused : Sd := fun ds Φ => match ds with
  | [d] => nic 10 d = true ∧ Φ (.d (.list ((kindsOf (if isBoat d = true then "NoNumber" else "NoBoat")).map .bool)))
  | _ => False
end M
namespace KJ
open PySem PySem.Spec L2 PyProof.Rows
theorem eq_nil {xs : List Pd} {n : Nat} {Φ : Bool → Prop} (hp : ∀ x ∈ xs, nic n x = true) (h : Φ xs.isEmpty) : EqK (.list xs) (.list []) Φ := by
  unfold EqK; exact ⟨⟨nic_plainAll hp, rfl, small_nil _⟩, by rw [eqv_nil]; exact h⟩
mutual
theorem nic_depth : ∀ {n : Nat} {d : Pd}, nic n d = true → d.depth ≤ n + 1
  | _, .none, _ => by simp [PyData.depth]
  | _, .bool _, _ => by simp [PyData.depth]
  | _, .int _, _ => by simp [PyData.depth]
  | _, .str _, _ => by simp [PyData.depth]
  | n + 1, .list xs, h => by
    have := nic_depthAll (n := n) (nic_lst h).2
    simp only [PyData.depth]; omega
  | n + 1, .tuple xs, h => by
    have := nic_depthAll (n := n) (nic_tup h).2
    simp only [PyData.depth]; omega
  | 0, .list _, h => by simp [nicL] at h
  | 0, .tuple _, h => by simp [nicL] at h
  | n, .dict _, h => by cases n <;> simp [nicL] at h
theorem nic_depthAll : ∀ {n : Nat} {xs : List Pd}, (∀ x ∈ xs, nic n x = true) → PyData.depthAll xs ≤ n + 1
  | _, [], _ => by simp [PyData.depthAll]
  | n, x :: xs, h => by
    have h1 := nic_depth (n := n) (h x (List.mem_cons_self ..))
    have h2 := nic_depthAll (n := n) (xs := xs) fun z hz => h z (List.mem_cons_of_mem _ hz)
    simp only [PyData.depthAll]; omega
end
mutual
theorem eqv_self : ∀ {d : Pd}, d.plain = true → PyData.eqv d d = true
  | .none, _ => rfl
  | .bool b, _ => beq_self_eq_true b
  | .int i, _ => beq_self_eq_true i
  | .str x, _ => beq_self_eq_true x
  | .list xs, h => eqvAll_self (xs := xs) h
  | .tuple xs, h => eqvAll_self (xs := xs) h
theorem eqvAll_self : ∀ {xs : List Pd}, PyData.plainAll xs = true → PyData.eqvAll xs xs = true
  | [], _ => rfl
  | x :: xs, h => by
    obtain ⟨h1, h2⟩ := Bool.and_eq_true_iff.mp (show (x.plain && PyData.plainAll xs) = true from h)
    show (PyData.eqv x x && PyData.eqvAll xs xs) = true
    rw [eqv_self h1, eqvAll_self h2]; rfl
end
theorem eq_of {n m : Nat} {d e : Pd} {Φ : Bool → Prop} (h1 : nic n d = true) (h2 : nic m e = true) (hn : n ≤ 50) (h : Φ (PyData.eqv d e)) : EqK d e Φ := by
  unfold EqK
  refine ⟨⟨nic_plain h1, nic_plain h2, ?_⟩, h⟩
  have := nic_depth h1
  show min _ _ ≤ 60
  omega
/-- the same, on both sides -/
theorem eq_same {n : Nat} {d : Pd} {Φ : Bool → Prop} (h1 : nic n d = true) (hn : n ≤ 50) (h : Φ true) : EqK d d Φ := eq_of h1 h1 hn (by rw [eqv_self (nic_plain h1)]; exact h)
theorem in_of {n m : Nat} {c : Pd} {xs : List Pd} {d : Pd} {Φ : Bool → Prop} (hx : ∀ x ∈ xs, nic n x = true) (h2 : nic m d = true) (hm : m ≤ 50) (h : Φ (xs.any fun z => PyData.eqv z d)) : InK c xs d Φ := by
  unfold InK
  refine ⟨⟨nic_plain h2, nic_plainAll hx, ?_⟩, h⟩
  have := nic_depth h2
  show min _ _ ≤ 60
  omega
theorem Fo.weak {M : Md} {x : Str} {j n : Nat} {S S' : Sd} {dl : List Pd} (F : Fo M x j n (fun K n => spD K n S) dl) (h : ∀ ds Φ, S' ds Φ → S ds Φ) : Fo M x j n (fun K n => spD K n S') dl := by
  obtain ⟨f, fd, ps, ds, dvs, h1, h2, h3, h4, h5, h6⟩ := F.ex
  have c : ∀ {vs H Q E}, spD M.K n S' vs H Q E → spD M.K n S vs H Q E := fun ⟨G, ds, Φ, g, r, l, s, q⟩ => ⟨G, ds, Φ, g, r, l, h ds Φ s, q⟩
  exact ⟨f, fd, ps, ds, dvs, h1, h2, ⟨fun vs H Q E s => h3.len vs H Q E (c s), fun A outer s H args us vs Q E hr e0 hb hv sp => h3.run A outer s H args us vs Q E hr e0 hb hv (c sp)⟩, h4, h5, h6⟩
end KJ
namespace KJ
open PySem PySem.Spec L2 PyProof.Rows
theorem Fo.weakI {M : Md} {x : Str} {j n : Nat} {S S' : Si} {dl : List Pd} (F : Fo M x j n (fun K n => spI K n S) dl) (h : ∀ wds ds Φ, S' wds ds Φ → S wds ds Φ) : Fo M x j n (fun K n => spI K n S') dl := by
  obtain ⟨f, fd, ps, ds, dvs, h1, h2, h3, h4, h5, h6⟩ := F.ex
  have c : ∀ {vs H Q E}, spI M.K n S' vs H Q E → spI M.K n S vs H Q E := fun ⟨G, a, ws, wds, vs', ds, Φ, a1, a2, a3, a4, a5, a6, a7, s, q⟩ => ⟨G, a, ws, wds, vs', ds, Φ, a1, a2, a3, a4, a5, a6, a7, h wds ds Φ s, q⟩
  exact ⟨f, fd, ps, ds, dvs, h1, h2, ⟨fun vs H Q E s => h3.len vs H Q E (c s), fun A outer s H args us vs Q E hr e0 hb hv sp => h3.run A outer s H args us vs Q E hr e0 hb hv (c sp)⟩, h4, h5, h6⟩
end KJ

namespace M
open PySem PySem.Spec L2 PyProof.Rows KJ
/-! ### boats, by their readings -/
end M

namespace M
open PySem PySem.Spec L2 PyProof.Rows KJ
def ownB (o : Pd) : Bool := match o with
  | .tuple os => decide ((1 : Int) ≤ os.length) && (decide ((os.length : Int) ≤ 12) && os.all isName)
  | _ => false
end M

namespace M
open PySem PySem.Spec L2 PyProof.Rows KJ
/-! ### turns -/
end M
namespace M
open PySem PySem.Spec L2 PyProof.Rows KJ
theorem laid_of {ns : List Int} {w : Int} (h1 : ns.Pairwise (· < ·)) (h2 : ∀ n ∈ ns, 0 ≤ n ∧ n < w) (h3 : (ns.length : Int) < w) : isLaid (.tuple (ns.map PyData.int)) w = true := by
  show (decide _ && (_ && _)) = true
  rw [Bool.and_eq_true, Bool.and_eq_true] --k
  refine ⟨decide_eq_true (by simpa using h3), ?_, ?_⟩
  · rw [List.all_map]
    refine List.all_eq_true.mpr fun n hn => ?_ --k
    obtain ⟨a, b⟩ := h2 n hn
    show (decide _ && decide _) = true
    rw [Bool.and_eq_true]
    exact ⟨decide_eq_true (by omega), decide_eq_true (by omega)⟩
  · refine List.all_eq_true.mpr fun k hk => ?_
    have hk := List.mem_range.mp hk
    rw [List.length_map] at hk
    have k1 : k < ns.length := by omega
    have k2 : k + 1 < ns.length := by omega
    rw [List.getD_eq_getElem?_getD, List.getD_eq_getElem?_getD, List.getElem?_map, List.getElem?_map, List.getElem?_eq_getElem k1, List.getElem?_eq_getElem k2]
    exact decide_eq_true (List.pairwise_iff_getElem.mp h1 k (k + 1) k1 k2 (Nat.lt_succ_self k))
end M

set_option Elab.async false
set_option linter.all false
set_option maxRecDepth 100000
set_option maxHeartbeats 4100000
local macro_rules | `(tactic| exact "wh") => `(tactic| (fail_if_success with_reducible show @Eq _ _ _); (fail_if_success with_reducible show @LE.le _ _ _ _); (fail_if_success with_reducible show @LT.lt _ _ _ _); (conv => whnf))
local macro_rules | `(tactic| exact "ws") => `(tactic| first
  | with_reducible exact KJ.allB_map _ _
  | ((with_reducible show PySem.IntMulOk _ _); first | exact KJ.mulR (by omega) (by omega) | exact KJ.mulL (by omega) (by omega) | fail)
  | (intro hz; first | exact False.elim (Bool.noConfusion hz) | ((with_reducible change true = true at hz); clear hz) | ((with_reducible change false = false at hz); clear hz) | skip)
  | with_reducible refine And.intro ?_ ?_
  | with_reducible exact rfl
  | ((with_reducible show @LT.lt Int _ _ _); first | omega | decide)
  | ((with_reducible show @LE.le Int _ _ _); first | omega | decide)
  | ((with_reducible show @LT.lt Nat _ _ _); first | omega | exact KJ.ltl (by first | omega | (simp; done) | (simp; omega)))
  | ((with_reducible show @LE.le Nat _ _ _); first | omega | exact KJ.lel (by first | omega | (simp; done) | (simp; omega)))
  | with_reducible assumption
  | ((with_reducible show KJ.fpS _ = []); exact rfl)
  | ((with_reducible show Nat.beq _ _ = true); exact rfl)
  | ((with_reducible show Nat.ble _ _ = true); exact rfl)
  | ((with_reducible show (_ : KJ.Rho) = _); exact rfl)
  | ((with_reducible show @Eq PySem.PyData _ _); exact rfl)
  | with_reducible refine Exists.intro _ (And.intro rfl ?_)
  | with_reducible refine Exists.intro _ (Exists.intro _ (And.intro rfl ?_))
  | with_reducible refine Exists.intro _ (Exists.intro _ (Exists.intro _ (And.intro rfl ?_)))
  | with_reducible refine Exists.intro _ (Exists.intro _ (Exists.intro _ (Exists.intro _ (And.intro rfl ?_))))
  | fail)
local macro_rules | `(tactic| exact "w1") => `(tactic| first | exact "ws" | (exact "wh"; (first | exact "ws" | fail)) | fail)
local macro_rules | `(tactic| exact "w") => `(tactic| (repeat' (exact "w1")) <;> (try exact "wh"))
local macro_rules | `(tactic| exact "sc") => `(tactic| refine ⟨rfl, rfl, rfl, by decide +kernel, rfl, by decide +kernel, by decide +kernel⟩)
local macro_rules | `(tactic| exact "ar") => `(tactic| first | omega | (simp_all; done) | (simp_all; omega))
namespace M
open PySem PySem.Spec L2 PyProof.Rows KJ
/-! ### boats, turns: plain -/
structure Boat where
  w : Nat
  laid : List Nat
  own : List Str
  hrs : Nat
def natD (n : Nat) : Pd := .int n
def Boat.toD (b : Boat) : Pd := .tuple [.int b.w, .tuple (b.laid.map natD), .tuple (b.own.map .str), .int b.hrs]
structure Boat.Ok (b : Boat) : Prop where
  w2 : 2 ≤ b.w
  w52 : b.w ≤ 52
  lt : ∀ l ∈ b.laid, l < b.w
  inc : b.laid.Pairwise (· < ·)
  few : b.laid.length < b.w
  o1 : 1 ≤ b.own.length
  o12 : b.own.length ≤ 12
  nm : ∀ o ∈ b.own, isName (.str o) = true
  hr : b.hrs ≤ 1000000
def Boat.parts (b : Boat) : Nat := b.own.length
/-- how many of the first n keep f -/
def cnt (f : Nat → Bool) : Nat → Nat
  | 0 => 0
  | n + 1 => cnt f n + (if f n = true then 1 else 0)
def sumTo (f : Nat → Nat) : Nat → Nat
  | 0 => 0
  | n + 1 => sumTo f n + f n
theorem cnt_filter (f : Nat → Bool) : ∀ n, ((List.range n).filter f).length = cnt f n
  | 0 => rfl
  | n + 1 => by
    rw [List.range_succ, List.filter_append, List.length_append, cnt_filter f n]
    show _ = cnt f n + _
    congr 1
    cases h : f n <;> simp [h]
theorem cnt_congr {f g : Nat → Bool} : ∀ {n : Nat}, (∀ i, i < n → f i = g i) → cnt f n = cnt g n
  | 0, _ => rfl
  | n + 1, h => by
    show cnt f n + _ = cnt g n + _
    rw [cnt_congr (n := n) fun i hi => h i (by omega), h n (by omega)]
theorem cnt_add (f : Nat → Bool) (a : Nat) : ∀ b, cnt f (a + b) = cnt f a + cnt (fun i => f (a + i)) b
  | 0 => rfl
  | b + 1 => by
    show cnt f (a + b) + _ = cnt f a + (cnt _ b + _)
    rw [cnt_add f a b, Nat.add_assoc]
    rfl
theorem sum_congr {f g : Nat → Nat} : ∀ {n : Nat}, (∀ i, i < n → f i = g i) → sumTo f n = sumTo g n
  | 0, _ => rfl
  | n + 1, h => by
    show sumTo f n + _ = sumTo g n + _
    rw [sum_congr (n := n) fun i hi => h i (by omega), h n (by omega)]
theorem sum_add (f : Nat → Nat) (a : Nat) : ∀ b, sumTo f (a + b) = sumTo f a + sumTo (fun i => f (a + i)) b
  | 0 => rfl
  | b + 1 => by
    show sumTo f (a + b) + _ = sumTo f a + (sumTo _ b + _)
    rw [sum_add f a b, Nat.add_assoc]
    rfl
theorem sum_plus (f g : Nat → Nat) : ∀ n, sumTo (fun i => f i + g i) n = sumTo f n + sumTo g n
  | 0 => rfl
  | n + 1 => by
    show sumTo _ n + (f n + g n) = (sumTo f n + f n) + (sumTo g n + g n)
    rw [sum_plus f g n]; omega
/-- by rows -/
theorem cnt_mul (f : Nat → Bool) (w : Nat) : ∀ y, cnt f (w * y) = sumTo (fun k => cnt (fun i => f (w * k + i)) w) y
  | 0 => rfl
  | y + 1 => by
    show cnt f (w * (y + 1)) = sumTo _ y + _
    rw [Nat.mul_succ, cnt_add, cnt_mul f w y]
/-- rows and columns -/
theorem cnt_swap (F : Nat → Nat → Bool) (p : Nat) : ∀ w, sumTo (fun y => cnt (fun i => F y i) w) p = sumTo (fun i => cnt (fun y => F y i) p) w
  | 0 => by
    show sumTo (fun _ => 0) p = 0
    induction p with
    | zero => rfl
    | succ p ih => show sumTo _ p + 0 = 0; rw [ih]
  | w + 1 => by
    show sumTo (fun y => cnt (fun i => F y i) w + _) p = sumTo _ w + _
    rw [sum_plus, cnt_swap F p w]
    congr 1
    show sumTo (fun y => if F y w = true then 1 else 0) p = cnt (fun y => F y w) p
    induction p with
    | zero => rfl
    | succ p ih => show sumTo _ p + _ = cnt _ p + _; rw [ih]
theorem cnt_one {p : Nat} : ∀ n, cnt (fun y => decide (y = p)) n = if p < n then 1 else 0
  | 0 => rfl
  | n + 1 => by
    show cnt _ n + _ = _
    rw [cnt_one n]
    by_cases h : n = p
    · subst h; simp
    · by_cases h2 : p < n
      · simp [h, h2]; omega
      · simp [h, h2]; omega
/-- of n that follow just one falls to p -/
theorem cnt_turn {n p : Nat} (hp : p < n) (a : Nat) : cnt (fun y => decide ((a + y) % n = p)) n = 1 := by
  have shift : ∀ a, cnt (fun y => decide ((a + 1 + y) % n = p)) n = cnt (fun y => decide ((a + y) % n = p)) n := fun a => by
    have e1 := cnt_add (fun y => decide ((a + y) % n = p)) 1 n
    have e2 : cnt (fun y => decide ((a + y) % n = p)) (1 + n) = cnt (fun y => decide ((a + y) % n = p)) n + (if decide ((a + n) % n = p) = true then 1 else 0) := by
      rw [Nat.add_comm 1 n]; rfl
    have e3 : cnt (fun y => decide ((a + y) % n = p)) 1 = if decide ((a + n) % n = p) = true then 1 else 0 := by
      show 0 + (if decide ((a + 0) % n = p) = true then 1 else 0) = _
      rw [Nat.add_mod_right, Nat.add_zero, Nat.zero_add]
    have e4 : cnt (fun i => (fun y => decide ((a + y) % n = p)) (1 + i)) n = cnt (fun y => decide ((a + 1 + y) % n = p)) n := cnt_congr fun i _ => by
      show decide _ = decide _
      rw [Nat.add_assoc]
    rw [e2, e3, e4] at e1
    omega
  induction a with
  | zero =>
    rw [cnt_congr (g := fun y => decide (y = p)) fun i hi => by rw [Nat.zero_add, Nat.mod_eq_of_lt hi], cnt_one, if_pos hp]
  | succ a ih => rw [shift, ih]
/-- how many of l are less than p -/
def less (l : List Nat) (p : Nat) : Nat := (l.filter fun x => decide (x < p)).length
def Boat.sails (b : Boat) : List Nat := (List.range b.w).filter fun p => !b.laid.contains p
/-- the part to which the week falls -/
def Boat.turn (b : Boat) (k : Nat) : Option Nat := if b.laid.contains (k % b.w) then none else some ((k % b.w - less b.laid (k % b.w) + k / b.w) % b.parts)
def isP (o : Option Nat) (p : Nat) : Bool := match o with
  | none => false
  | some n => decide (n = p)
/-- the weeks ahead of k that fall to p -/
def Boat.ahead (b : Boat) (p k : Nat) : Nat := cnt (fun i => isP (b.turn i) p) k
def Boat.inYear (b : Boat) (p y : Nat) : Nat := cnt (fun i => isP (b.turn (b.w * y + i)) p) b.w
theorem turn_at {b : Boat} (h : b.Ok) {y i : Nat} (hi : i < b.w) : b.turn (b.w * y + i) = if b.laid.contains i then none else some ((i - less b.laid i + y) % b.parts) := by
  have h0 : 0 < b.w := by have := h.w2; omega
  unfold Boat.turn
  rw [Nat.mul_add_mod, Nat.mod_eq_of_lt hi, Nat.mul_add_div h0, Nat.div_eq_of_lt hi, Nat.add_zero]
theorem inYear_add {b : Boat} (h : b.Ok) (p y : Nat) : b.inYear p (y + b.parts) = b.inYear p y := by
  refine cnt_congr fun i hi => ?_
  rw [turn_at h hi, turn_at h hi, ← Nat.add_assoc, Nat.add_mod_right]
theorem inYear_mod {b : Boat} (h : b.Ok) (p : Nat) : ∀ y k, b.inYear p (y + b.parts * k) = b.inYear p y
  | y, 0 => rfl
  | y, k + 1 => by rw [Nat.mul_succ, ← Nat.add_assoc, inYear_add h, inYear_mod h p y k]
/-- in as many years as there are parts each part has each sailing week once -/
theorem round {b : Boat} (h : b.Ok) {p : Nat} (hp : p < b.parts) : sumTo (b.inYear p) b.parts = b.sails.length := by
  unfold Boat.sails
  rw [cnt_filter]
  show sumTo (fun y => cnt (fun i => isP (b.turn (b.w * y + i)) p) b.w) b.parts = _
  rw [cnt_swap]
  have : ∀ w, w ≤ b.w → sumTo (fun i => cnt (fun y => isP (b.turn (b.w * y + i)) p) b.parts) w = cnt (fun p => !b.laid.contains p) w := fun w => by
    induction w with
    | zero => intro _; rfl
    | succ w ih =>
      intro hw
      show sumTo _ w + _ = cnt _ w + _
      rw [ih (by omega)]
      congr 1
      show cnt (fun y => isP (b.turn (b.w * y + w)) p) b.parts = if (!b.laid.contains w) = true then 1 else 0
      have e : ∀ y, isP (b.turn (b.w * y + w)) p = (!b.laid.contains w && decide ((w - less b.laid w + y) % b.parts = p)) := fun y => by
        rw [turn_at h (by omega)]
        cases b.laid.contains w <;> rfl
      cases hc : b.laid.contains w with
      | true =>
        have z : cnt (fun y => isP (b.turn (b.w * y + w)) p) b.parts = cnt (fun _ => false) b.parts := cnt_congr fun y _ => by rw [e, hc]; rfl
        have z2 : ∀ n, cnt (fun _ => false) n = 0 := fun n => by
          induction n with
          | zero => rfl
          | succ n ih => show cnt _ n + 0 = 0; rw [ih]
        rw [z, z2]; rfl
      | false =>
        have z : cnt (fun y => isP (b.turn (b.w * y + w)) p) b.parts = cnt (fun y => decide ((w - less b.laid w + y) % b.parts = p)) b.parts := cnt_congr fun y _ => by rw [e, hc]; rfl
        rw [z, cnt_turn hp]; rfl
  exact this b.w (Nat.le_refl _)
theorem rounds {b : Boat} (h : b.Ok) {p : Nat} (hp : p < b.parts) : ∀ k, sumTo (b.inYear p) (b.parts * k) = k * b.sails.length
  | 0 => by simp; rfl
  | k + 1 => by
    rw [Nat.mul_succ, sum_add, rounds h hp k, Nat.succ_mul]
    congr 1
    rw [← round h hp]
    exact sum_congr fun i _ => by rw [Nat.add_comm, inYear_mod h]
/-- the weeks ahead, counted by years -/
theorem ahead_eq {b : Boat} (h : b.Ok) {p : Nat} (hp : p < b.parts) (k : Nat) :
    b.ahead p k = k / b.w / b.parts * b.sails.length + sumTo (b.inYear p) (k / b.w % b.parts) + cnt (fun i => isP (b.turn (b.w * (k / b.w) + i)) p) (k % b.w) := by
  have e : k = b.w * (k / b.w) + k % b.w := (Nat.div_add_mod k b.w).symm
  have e2 : k / b.w = b.parts * (k / b.w / b.parts) + k / b.w % b.parts := (Nat.div_add_mod _ _).symm
  unfold Boat.ahead
  rw [show cnt (fun i => isP (b.turn i) p) k = cnt (fun i => isP (b.turn i) p) (b.w * (k / b.w) + k % b.w) by rw [← e], cnt_add, cnt_mul]
  congr 1
  show sumTo (b.inYear p) (k / b.w) = _
  rw [show sumTo (b.inYear p) (k / b.w) = sumTo (b.inYear p) (b.parts * (k / b.w / b.parts) + k / b.w % b.parts) by rw [← e2], sum_add, rounds h hp]
  congr 1
  exact sum_congr fun i _ => by rw [Nat.add_comm, inYear_mod h]
/-! ### a sailing week's place among them -/
theorem filt_at (q : Nat → Bool) {p : Nat} (hq : q p = true) : ∀ n, p < n → ((List.range n).filter q)[cnt q p]? = some p
  | 0, h => absurd h (by omega)
  | n + 1, h => by
    rw [List.range_succ, List.filter_append]
    by_cases hp : p = n
    · subst hp
      rw [List.getElem?_append_right (by rw [cnt_filter]; exact Nat.le_refl _), cnt_filter, Nat.sub_self]
      simp [hq]
    · have i := filt_at q hq n (by omega)
      have := (List.getElem?_eq_some_iff.mp i).1
      rw [List.getElem?_append_left this]
      exact i
theorem filt_inc (q : Nat → Bool) (n : Nat) : ((List.range n).filter q).Pairwise (· < ·) := List.pairwise_lt_range.filter q
theorem cnt_not (q : Nat → Bool) : ∀ n, cnt q n + cnt (fun i => !q i) n = n
  | 0 => rfl
  | n + 1 => by
    have := cnt_not q n
    show (cnt q n + (if q n = true then 1 else 0)) + (cnt (fun i => !q i) n + (if (!q n) = true then 1 else 0)) = n + 1
    cases q n
    · show (cnt q n + 0) + (cnt (fun i => !q i) n + 1) = _
      omega
    · show (cnt q n + 1) + (cnt (fun i => !q i) n + 0) = _
      omega
theorem less_succ {l : List Nat} (h : l.Nodup) (p : Nat) : less l (p + 1) = less l p + (if l.contains p = true then 1 else 0) := by
  unfold less
  induction l with
  | nil => rfl
  | cons x r ih =>
    have ih := ih (List.nodup_cons.mp h).2
    have hx := (List.nodup_cons.mp h).1
    rw [List.filter_cons, List.filter_cons] --k
    by_cases e : x = p
    · subst e
      have hc : r.contains x = false := by simpa using hx
      have hc2 : (x :: r).contains x = true := by simp
      rw [hc] at ih
      rw [hc2, if_pos (by simp), if_neg (by simp), List.length_cons, ih]
      rfl
    · have hc : (x :: r).contains p = r.contains p := by
        rw [List.contains_cons]
        have : (p == x) = false := beq_false_of_ne fun z => e z.symm
        rw [this]; rfl
      rw [hc]
      by_cases e2 : x < p
      · rw [if_pos (by simp; omega), if_pos (by simp; omega), List.length_cons, List.length_cons, ih]
        omega
      · rw [if_neg (by simp; omega), if_neg (by simp; omega), ih]
theorem cnt_less {l : List Nat} (h : l.Nodup) : ∀ p, cnt (fun x => l.contains x) p = less l p
  | 0 => by
    show 0 = (l.filter _).length
    have : l.filter (fun x => decide (x < 0)) = [] := List.filter_eq_nil_iff.mpr fun a _ => by simp
    rw [this]; rfl
  | p + 1 => by
    rw [less_succ h, ← cnt_less h p]
    rfl
theorem laid_nodup {b : Boat} (h : b.Ok) : b.laid.Nodup := h.inc.imp fun e => by omega
theorem sails_at {b : Boat} (h : b.Ok) {p : Nat} (hp : p < b.w) (hc : b.laid.contains p = false) : b.sails[p - less b.laid p]? = some p ∧ ∀ m, m < p - less b.laid p → b.sails[m]? ≠ some p := by
  have e : cnt (fun x => !b.laid.contains x) p = p - less b.laid p := by
    have := cnt_not (fun x => b.laid.contains x) p
    rw [cnt_less (laid_nodup h)] at this
    omega
  have i := filt_at (fun x => !b.laid.contains x) (p := p) (by simp only [hc]; rfl) b.w hp
  rw [e] at i
  refine ⟨i, fun m hm z => ?_⟩
  obtain ⟨m1, e1⟩ := List.getElem?_eq_some_iff.mp z
  obtain ⟨m2, e2⟩ := List.getElem?_eq_some_iff.mp i
  have := List.pairwise_iff_getElem.mp (filt_inc (fun x => !b.laid.contains x) b.w) m _ m1 m2 hm
  have e1 : ((List.range b.w).filter fun x => !b.laid.contains x)[m] = p := e1
  rw [e1, e2] at this
  omega
theorem less_le {b : Boat} (h : b.Ok) (p : Nat) : less b.laid p ≤ p := by
  have := cnt_not (fun x => b.laid.contains x) p
  rw [cnt_less (laid_nodup h)] at this
  omega
end M
namespace M
open PySem PySem.Spec L2 PyProof.Rows KJ
/-! ### what the turns' defs promise -/
def optD : Option Nat → Pd
  | none => .none
  | some n => .int n
/-- the whole number is that one -/
def IsN (i : Int) (k : Nat) : Prop := i = k
def S_need_part (A : Addr) : Sd := fun ds Φ => ∃ (b : Boat) (i : Int), ds = [b.toD, .int i] ∧ ((0 ≤ i ∧ i < b.parts) → Φ (.d .none)) ∧ (¬ (0 ≤ i ∧ i < b.parts) → Φ (xn0 A))
def S_sailing : Sd := fun ds Φ => ∃ b : Boat, ds = [b.toD] ∧ b.Ok ∧ Φ (.d (.list (b.sails.map natD)))
def S_boat_ok : Sd := fun ds Φ => ∃ b : Boat, ds = [b.toD] ∧ b.Ok ∧ Φ (.d .none)
def S_turn_in : Sd := fun ds Φ => ∃ (b : Boat) (i : Int), ds = [b.toD, .int i] ∧ ∃ k : Nat, IsN i k ∧ b.Ok ∧ Φ (.d (optD (b.turn k)))
def S_turn_of (B : Addr) : Sd := fun ds Φ => ∃ (b : Boat) (i : Int), ds = [b.toD, .int i] ∧ b.Ok ∧ (∀ k : Nat, i = k → Φ (.d (optD (b.turn k)))) ∧ (i < 0 → Φ (xn0 B))
/-- the weeks of a year -/
def Boat.weeks (b : Boat) (p y : Nat) : List Nat := ((List.range b.w).filter fun i => isP (b.turn (b.w * y + i)) p).map fun i => b.w * y + i
theorem cnt_cut (f : Nat → Bool) (r : Nat) : ∀ w, r ≤ w → ((List.range w).filter fun i => decide (i < r) && f i).length = cnt f r
  | 0, h => by
    have : r = 0 := by omega
    subst this; rfl
  | w + 1, h => by
    rw [List.range_succ, List.filter_append, List.length_append]
    by_cases e : r = w + 1
    · subst e
      have z : ((List.range w).filter fun i => decide (i < w + 1) && f i) = (List.range w).filter f := List.filter_congr fun i hi => by
        have := List.mem_range.mp hi
        rw [decide_eq_true (by omega : i < w + 1)]; rfl
      rw [z, cnt_filter]
      show _ = cnt f w + _
      congr 1
      cases h : f w <;> simp [h]
    · rw [cnt_cut f r w (by omega)]
      have : ([w].filter fun i => decide (i < r) && f i) = [] := by
        rw [List.filter_cons, decide_eq_false (by omega : ¬ w < r)]; rfl
      rw [this]; rfl
theorem weeks_len (b : Boat) (p y : Nat) : (b.weeks p y).length = b.inYear p y := by
  unfold Boat.weeks
  rw [List.length_map, cnt_filter]; rfl
theorem weeks_few {b : Boat} (h : b.Ok) (p y : Nat) : (b.weeks p y).length ≤ 52 := by
  unfold Boat.weeks
  rw [List.length_map]
  have := List.length_filter_le (fun i => isP (b.turn (b.w * y + i)) p) (List.range b.w)
  rw [List.length_range] at this
  have := h.w52
  omega
theorem weeks_less {b : Boat} (h : b.Ok) {p k : Nat} : ((b.weeks p (k / b.w)).filter fun x => decide (x < k)).length = cnt (fun i => isP (b.turn (b.w * (k / b.w) + i)) p) (k % b.w) := by
  have h0 : 0 < b.w := by have := h.w2; omega
  have hm : k % b.w < b.w := Nat.mod_lt _ h0
  have e : b.w * (k / b.w) + k % b.w = k := Nat.div_add_mod k b.w
  unfold Boat.weeks
  rw [List.filter_map, List.length_map, List.filter_filter, ← cnt_cut _ _ b.w (by omega)]
  congr 1
  refine List.filter_congr fun i _ => ?_
  show (decide (b.w * (k / b.w) + i < k) && _) = _
  congr 1
  exact decide_eq_decide.mpr (by omega) --k
def S_weeks_in : Sd := fun ds Φ => ∃ (b : Boat) (i j : Int), ds = [b.toD, .int i, .int j] ∧ ∃ p y : Nat, IsN i p ∧ IsN j y ∧ b.Ok ∧ Φ (.fr ((b.weeks p y).map natD))
def S_weeks_of (A B : Addr) : Sd := fun ds Φ => ∃ (b : Boat) (i j : Int), ds = [b.toD, .int i, .int j] ∧ b.Ok ∧ (∀ p y : Nat, i = p → j = y → p < b.parts → Φ (.fr ((b.weeks p y).map natD))) ∧ (¬ (0 ≤ i ∧ i < b.parts) → Φ (xn0 A)) ∧ (0 ≤ i → i < b.parts → j < 0 → Φ (xn0 B))
def S_weeks_ahead : Sd := fun ds Φ => ∃ (b : Boat) (i j : Int), ds = [b.toD, .int i, .int j] ∧ ∃ p k : Nat, IsN i p ∧ IsN j k ∧ p < b.parts ∧ b.Ok ∧ Φ (.d (.int (b.ahead p k)))
def S_weeks_between (A B : Addr) : Sd := fun ds Φ => ∃ (b : Boat) (i j l : Int), ds = [b.toD, .int i, .int j, .int l] ∧ b.Ok ∧ (∀ p k : Nat, i = p → j = k → p < b.parts → (l ≤ j → Φ (.d (.int 0))) ∧ ∀ m : Nat, l = m → k < m → Φ (.d (.int ((b.ahead p m : Int) - (b.ahead p k : Int))))) ∧ (¬ (0 ≤ i ∧ i < b.parts) → Φ (xn0 A)) ∧ (0 ≤ i → i < b.parts → j < 0 → Φ (xn0 B))
def S_next_week (A B : Addr) : Sd := fun ds Φ => ∃ (b : Boat) (i j : Int), ds = [b.toD, .int i, .int j] ∧ b.Ok ∧ (∀ p k n : Nat, i = p → j = k → p < b.parts → k ≤ n → isP (b.turn n) p = true → (∀ m, k ≤ m → m < n → isP (b.turn m) p = false) → Φ (.d (.int n))) ∧ (¬ (0 ≤ i ∧ i < b.parts) → Φ (xn0 A)) ∧ (0 ≤ i → i < b.parts → j < 0 → Φ (xn0 B))
theorem natD_any (l : List Nat) (i : Nat) : ((l.map natD).any fun z => PyData.eqv z (.int i)) = l.contains i := by
  induction l with
  | nil => rfl
  | cons x r ih =>
    rw [List.map_cons, List.any_cons, List.contains_cons, ih]
    congr 1
    show ((x : Int) == (i : Int)) = (i == x)
    by_cases h : x = i
    · subst h; simp
    · have h1 : ((x : Int) == (i : Int)) = false := beq_false_of_ne (by omega)
      have h2 : (i == x) = false := beq_false_of_ne (by omega)
      rw [h1, h2]
theorem natD_nic (l : List Nat) : ∀ x ∈ l.map natD, nic 0 x = true := fun x hx => by
  obtain ⟨n, _, rfl⟩ := List.mem_map.mp hx
  rfl
theorem in_nats {c : Pd} {l : List Nat} {i : Nat} {Φ : Bool → Prop} (h : Φ (l.contains i)) : InK c (l.map natD) (.int i) Φ := in_of (n := 0) (m := 0) (natD_nic l) rfl (by decide) (by rw [natD_any]; exact h)
theorem eq_opt {o : Option Nat} {p : Nat} {Φ : Bool → Prop} (h : Φ (isP o p)) : CmpE .Eq (optD o) (.int p) Φ := by
  cases o with
  | none => exact eq_of (n := 0) (m := 0) rfl rfl (by decide) h
  | some n =>
    show Φ (decide ((n : Int) = (p : Int)))
    have : decide ((n : Int) = (p : Int)) = isP (some n) p := by
      show _ = decide (n = p)
      by_cases e : n = p
      · subst e; simp
      · rw [decide_eq_false e, decide_eq_false (by omega)]
    rw [this]; exact h
theorem toD_nic {b : Boat} (h : b.Ok) : nic 3 b.toD = true := by
  refine nicL_mkT (by simp) fun x hx => ?_
  have hl : b.laid.length ≤ 1000 := by have := h.few; have := h.w52; omega
  have ho : b.own.length ≤ 1000 := by have := h.o12; omega
  simp only [List.mem_cons, List.not_mem_nil, or_false] at hx --k
  rcases hx with rfl | rfl | rfl | rfl
  · rfl
  · exact nicL_mkT (by rw [List.length_map]; exact hl) fun x hx => nicL_up (Nat.le_refl _) (by decide) (natD_nic _ x hx)
  · refine nicL_mkT (by rw [List.length_map]; exact ho) fun x hx => ?_
    obtain ⟨s, hs, rfl⟩ := List.mem_map.mp hx
    have := h.nm s hs
    unfold isName at this
    rw [Bool.and_eq_true, Bool.and_eq_true] at this
    have := of_decide_eq_true this.2.1
    unfold nicL
    exact decide_eq_true (by omega) --k
  · rfl
theorem toD_isBoat {b : Boat} (h : b.Ok) : isBoat b.toD = true := by
  show (isWhole (.int b.w) 2 52 && (isLaid (.tuple (b.laid.map natD)) b.w && (isWhole (.int b.hrs) 0 1000000 && (decide ((1 : Int) ≤ ((b.own.map PyData.str).length : Int)) && (decide (((b.own.map PyData.str).length : Int) ≤ 12) && (b.own.map PyData.str).all isName))))) = true
  simp only [Bool.and_eq_true]
  refine ⟨?_, ?_, ?_, decide_eq_true ?_, decide_eq_true ?_, ?_⟩
  · have := h.w2; have := h.w52
    show (decide ((2 : Int) ≤ (b.w : Int)) && decide ((b.w : Int) ≤ 52)) = true
    simp; omega
  · have e : b.laid.map natD = (b.laid.map fun (n : Nat) => (n : Int)).map PyData.int := by rw [List.map_map]; rfl
    rw [e]
    refine laid_of ?_ (fun n hn => ?_) ?_
    · rw [List.pairwise_map]; exact h.inc.imp fun e => by omega
    · obtain ⟨m, hm, rfl⟩ := List.mem_map.mp hn
      have := h.lt m hm
      omega
    · rw [List.length_map]; have := h.few; omega
  · have := h.hr
    show (decide ((0 : Int) ≤ (b.hrs : Int)) && decide ((b.hrs : Int) ≤ 1000000)) = true
    simp; omega
  · rw [List.length_map]; have := h.o1; omega
  · rw [List.length_map]; have := h.o12; omega
  · rw [List.all_map]
    exact List.all_eq_true.mpr fun x hx => h.nm x hx
end M
namespace M
open PySem PySem.Spec L2 PyProof.Rows KJ
/-! ### the next week -/
theorem least_of {P : Nat → Prop} : ∀ n, P n → ∃ m, m ≤ n ∧ P m ∧ ∀ i, i < m → ¬ P i := fun n => by
  induction n using Nat.strongRecOn with --k
  | _ n ih =>
    intro h
    by_cases e : ∃ i, i < n ∧ P i
    · obtain ⟨i, hi, h2⟩ := e
      obtain ⟨m, h3, h4⟩ := ih i hi h2
      exact ⟨m, by omega, h4⟩
    · exact ⟨n, Nat.le_refl _, h, fun i hi hp => e ⟨i, hi, hp⟩⟩
theorem sum_pos {f : Nat → Nat} : ∀ {n : Nat}, 0 < sumTo f n → ∃ i, i < n ∧ 0 < f i
  | 0, h => absurd h (by show ¬ 0 < 0; omega)
  | n + 1, h => by
    by_cases e : 0 < f n
    · exact ⟨n, by omega, e⟩
    · have h : 0 < sumTo f n + f n := h
      obtain ⟨i, h1, h2⟩ := sum_pos (f := f) (n := n) (by omega)
      exact ⟨i, by omega, h2⟩
theorem cnt_pos {f : Nat → Bool} : ∀ {n : Nat}, 0 < cnt f n → ∃ i, i < n ∧ f i = true
  | 0, h => absurd h (by show ¬ 0 < 0; omega)
  | n + 1, h => by
    have h : 0 < cnt f n + (if f n = true then 1 else 0) := h
    by_cases e : f n = true
    · exact ⟨n, by omega, e⟩
    · rw [if_neg e] at h
      obtain ⟨i, h1, h2⟩ := cnt_pos (f := f) (n := n) (by omega)
      exact ⟨i, by omega, h2⟩
theorem sails_pos {b : Boat} (h : b.Ok) : 0 < b.sails.length := by
  have h1 := cnt_not (fun x => b.laid.contains x) b.w
  rw [cnt_less (laid_nodup h)] at h1
  have h2 : less b.laid b.w ≤ b.laid.length := List.length_filter_le _ _
  have h3 := h.few
  unfold Boat.sails
  rw [cnt_filter]
  omega
theorem next_is {b : Boat} (h : b.Ok) {p : Nat} (hp : p < b.parts) (k : Nat) : ∃ n, (k ≤ n ∧ isP (b.turn n) p = true) ∧ ∀ m, m < n → ¬ (k ≤ m ∧ isP (b.turn m) p = true) := by
  have h0 : 0 < b.w := by have := h.w2; omega
  have hs := sails_pos h
  rw [← round h hp] at hs
  obtain ⟨j, _, hj⟩ := sum_pos hs
  rw [← inYear_mod h p j (k / b.w + 1)] at hj
  obtain ⟨i, hi, e⟩ := cnt_pos hj
  refine (least_of (P := fun n => k ≤ n ∧ isP (b.turn n) p = true) _ ⟨?_, e⟩).imp fun n q => q.2
  have h1 : k < b.w * (k / b.w + 1) := by rw [Nat.mul_comm]; exact Nat.lt_mul_of_div_lt (by omega) h0
  have h2 : k / b.w + 1 ≤ b.parts * (k / b.w + 1) := Nat.le_mul_of_pos_left _ (by omega)
  have h3 : b.w * (k / b.w + 1) ≤ b.w * (j + b.parts * (k / b.w + 1)) := Nat.mul_le_mul_left _ (by omega)
  omega
theorem weeks_mem {b : Boat} {p y x : Nat} : x ∈ b.weeks p y ↔ isP (b.turn x) p = true ∧ b.w * y ≤ x ∧ x < b.w * y + b.w := by
  unfold Boat.weeks
  rw [List.mem_map]
  constructor
  · rintro ⟨i, hi, rfl⟩
    have := List.mem_filter.mp hi
    have h1 := List.mem_range.mp this.1
    exact ⟨this.2, by omega, by omega⟩
  · rintro ⟨h1, h2, h3⟩
    refine ⟨x - b.w * y, List.mem_filter.mpr ⟨List.mem_range.mpr (by omega), ?_⟩, by omega⟩
    have : b.w * y + (x - b.w * y) = x := by omega
    simp only [this]
    exact h1
theorem weeks_inc (b : Boat) (p y : Nat) : (b.weeks p y).Pairwise (· < ·) := by
  unfold Boat.weeks
  rw [List.pairwise_map]
  exact (filt_inc _ _).imp fun h => by omega
theorem later_nil {b : Boat} (h : b.Ok) {p k n y : Nat} (hm : ∀ m, m < n → ¬ (k ≤ m ∧ isP (b.turn m) p = true)) (hy : y < n / b.w) : (b.weeks p y).filter (fun x => decide (k ≤ x)) = [] := by
  refine List.filter_eq_nil_iff.mpr fun x hx hk => ?_
  obtain ⟨h1, h2, h3⟩ := weeks_mem.mp hx
  refine hm x ?_ ⟨of_decide_eq_true hk, h1⟩
  have h4 : b.w * (y + 1) ≤ b.w * (n / b.w) := Nat.mul_le_mul_left _ hy
  have h5 := Nat.mul_div_le n b.w
  rw [Nat.mul_succ] at h4
  omega
theorem later_hd {b : Boat} (h : b.Ok) {p k n : Nat} (hn : k ≤ n ∧ isP (b.turn n) p = true) (hm : ∀ m, m < n → ¬ (k ≤ m ∧ isP (b.turn m) p = true)) : ∃ r, (b.weeks p (n / b.w)).filter (fun x => decide (k ≤ x)) = n :: r := by
  have h0 : 0 < b.w := by have := h.w2; omega
  have hi : n ∈ (b.weeks p (n / b.w)).filter (fun x => decide (k ≤ x)) := by
    refine List.mem_filter.mpr ⟨weeks_mem.mpr ⟨hn.2, Nat.mul_div_le n b.w, ?_⟩, decide_eq_true hn.1⟩
    have := Nat.div_add_mod n b.w
    have := Nat.mod_lt n h0
    omega
  have hinc := (weeks_inc b p (n / b.w)).filter (fun x => decide (k ≤ x))
  have hall : ∀ x ∈ (b.weeks p (n / b.w)).filter (fun x => decide (k ≤ x)), n ≤ x := fun x hx => by
    have := List.mem_filter.mp hx
    have hk := of_decide_eq_true this.2
    obtain ⟨h1, _⟩ := weeks_mem.mp this.1
    exact Nat.le_of_not_lt fun z => hm x z ⟨hk, h1⟩
  cases e : (b.weeks p (n / b.w)).filter (fun x => decide (k ≤ x)) with
  | nil => rw [e] at hi; cases hi
  | cons x r =>
    rw [e] at hi hinc hall
    refine ⟨r, ?_⟩
    have h1 := hall x (List.mem_cons_self ..)
    cases hi with
    | head => rfl
    | tail _ hi =>
      have := (List.pairwise_cons.mp hinc).1 n hi
      omega
end M

namespace M
open PySem PySem.Spec L2 PyProof.Rows KJ
/-- a sailing week's place -/
def S_lturn : Sd := fun ds Φ => ∃ (b : Boat) (i : Int), ds = [b.toD, .int i] ∧ ∃ k : Nat, IsN i k ∧ b.Ok ∧ Φ (.d (optD (b.turn k)))
theorem sails_mem (b : Boat) (i : Nat) (h : i < b.w) : b.sails.contains i = !b.laid.contains i := by
  rw [Bool.eq_iff_iff, List.contains_iff_mem]
  unfold Boat.sails
  rw [List.mem_filter, List.mem_range]
  exact ⟨fun z => z.2, fun z => ⟨h, z⟩⟩
end M
namespace M
open PySem PySem.Spec L2 PyProof.Rows KJ
theorem hs_kinds {M : Md} {k : Nat} (X : XFacts M) (FK : ∀ d ∈ kNames, FoH M "_law_kinds" 1 (He.ga M.K d) (kindsOf d)) (hk : 1 ≤ k) : HsOk M k [⟨kNames.map fun d => (He.ga M.K d, kindsOf d)⟩] := fun _ => ⟨_, X.glk, fun h H e p hp => by
  cases h with
  | zero =>
    cases e
    obtain ⟨d, hd, rfl⟩ := List.mem_map.mp hp
    exact ⟨X.keel d hd, 1, hk, FK d hd⟩
  | succ h => cases h <;> cases e⟩
theorem ks_in {K : PySem.W.Frag} {d : Str} (h : d ∈ kNames) : (He.ga K d, kindsOf d) ∈ kNames.map fun d => (He.ga K d, kindsOf d) := List.mem_map.mpr ⟨d, h, rfl⟩
end M

namespace M
open PySem PySem.Spec L2 PyProof.Rows KJ
theorem nats_of {w : Int} : ∀ {xs : List Pd}, (∀ x ∈ xs, isWhole x 0 (w - 1) = true) → ∃ ns : List Nat, xs = ns.map natD ∧ ∀ n ∈ ns, (n : Int) < w
  | [], _ => ⟨[], rfl, fun _ h => nomatch h⟩
  | x :: r, h => by
    obtain ⟨ns, rfl, h2⟩ := nats_of (xs := r) fun y hy => h y (List.mem_cons_of_mem _ hy)
    obtain ⟨i, rfl, h3, h4⟩ := isWhole_int (h x (List.mem_cons_self ..))
    obtain ⟨n, rfl⟩ := Int.eq_ofNat_of_zero_le h3
    refine ⟨n :: ns, rfl, fun m hm => ?_⟩
    cases hm with
    | head => omega
    | tail _ hm => exact h2 m hm
theorem strs_of : ∀ {xs : List Pd}, (∀ x ∈ xs, isName x = true) → ∃ ss : List Str, xs = ss.map .str ∧ ∀ s ∈ ss, isName (.str s) = true
  | [], _ => ⟨[], rfl, fun _ h => nomatch h⟩
  | x :: r, h => by
    obtain ⟨ss, rfl, h2⟩ := strs_of (xs := r) fun y hy => h y (List.mem_cons_of_mem _ hy)
    have h3 := h x (List.mem_cons_self ..)
    cases x with
    | str s =>
      refine ⟨s :: ss, rfl, fun m hm => ?_⟩
      cases hm with
      | head => exact h3
      | tail _ hm => exact h2 m hm
    | _ => cases h3
theorem of_laid {xs : List Pd} {w : Int} (h : isLaid (.tuple xs) w = true) : ∃ ns : List Nat, xs = ns.map natD ∧ (∀ n ∈ ns, (n : Int) < w) ∧ (ns.length : Int) < w ∧ ns.Pairwise (· < ·) := by
  have h : (decide ((xs.length : Int) < w) && ((xs.all fun z => isWhole z 0 (w - 1)) && (List.range ((xs.length : Int) - 1).toNat).all fun k => ltD (xs.getD k .none) (xs.getD (k + 1) .none))) = true := h
  rw [Bool.and_eq_true, Bool.and_eq_true] at h
  obtain ⟨h1, h2, h3⟩ := h
  obtain ⟨ns, rfl, h4⟩ := nats_of fun x hx => List.all_eq_true.mp h2 x hx
  have h1 := of_decide_eq_true h1
  rw [List.length_map] at h1 h3
  have st : ∀ k (h : k + 1 < ns.length), ns[k] < ns[k + 1] := fun k hk => by
    have := List.all_eq_true.mp h3 k (List.mem_range.mpr (by omega))
    rw [List.getD_eq_getElem?_getD, List.getD_eq_getElem?_getD, List.getElem?_map, List.getElem?_map, List.getElem?_eq_getElem (by omega), List.getElem?_eq_getElem hk] at this
    have := of_decide_eq_true (show decide ((ns[k] : Int) < (ns[k + 1] : Int)) = true from this)
    omega
  refine ⟨ns, rfl, h4, h1, List.pairwise_iff_getElem.mpr fun i j hi hj hij => ?_⟩
  have up : ∀ d (h : i + d + 1 < ns.length), ns[i] < ns[i + d + 1] := fun d => by
    induction d with
    | zero => intro h; exact st i h
    | succ d ih => intro h; exact Nat.lt_trans (ih (by omega)) (st (i + d + 1) (by omega))
  have := up (j - i - 1) (by omega)
  have e : i + (j - i - 1) + 1 = j := by omega
  simp only [e] at this
  exact this
theorem of_boat {n h : Int} {l o : List Pd} (e : isBoat (.tuple [.int n, .tuple l, .tuple o, .int h]) = true) : ∃ b : Boat, .tuple [.int n, .tuple l, .tuple o, .int h] = b.toD ∧ b.Ok ∧ (b.w : Int) = n := by
  have e : (isWhole (.int n) 2 52 && (isLaid (.tuple l) n && (isWhole (.int h) 0 1000000 && (decide ((1 : Int) ≤ (o.length : Int)) && (decide ((o.length : Int) ≤ 12) && o.all isName))))) = true := e
  simp only [Bool.and_eq_true] at e --k
  obtain ⟨e1, e2, e3, e4, e5, e6⟩ := e
  obtain ⟨_, hi, g1, g2⟩ := isWhole_int e1
  cases hi
  obtain ⟨_, hi, g3, g4⟩ := isWhole_int e3
  cases hi
  obtain ⟨w, rfl⟩ := Int.eq_ofNat_of_zero_le (by omega : 0 ≤ n)
  obtain ⟨r, rfl⟩ := Int.eq_ofNat_of_zero_le g3
  obtain ⟨ns, rfl, l1, l2, l3⟩ := of_laid e2
  obtain ⟨ss, rfl, l4⟩ := strs_of fun x hx => List.all_eq_true.mp e6 x hx
  have e4 := of_decide_eq_true e4
  have e5 := of_decide_eq_true e5
  rw [List.length_map] at e4 e5
  exact ⟨⟨w, ns, ss, r⟩, rfl, ⟨by show 2 ≤ w; omega, by show w ≤ 52; omega, fun x hx => by have := l1 x hx; show x < w; omega, l3, by show ns.length < w; omega, by show 1 ≤ ss.length; omega, by show ss.length ≤ 12; omega, l4, by show r ≤ 1000000; omega⟩, rfl⟩
def S_lboat2 : Si := fun w ds Φ => Wl w ∧ ∃ m : Int, ds = [.int m] ∧ (2 ≤ m ∧ m ≤ 52) ∧ ∀ (b : Boat) w', Wl w' → b.Ok → (b.w : Int) ≤ m → Φ (.d b.toD) w'
theorem lboat2 {w ds : List Pd} {Φ : Rs → List Pd → Prop} (h : S_lboat2 w ds Φ) : S_lboat w ds Φ := by
  obtain ⟨hw, m, rfl, hm, h⟩ := h
  refine ⟨hw, hm, fun n l o h' w' hw' hb hn _ => ?_⟩
  obtain ⟨b, e, hb, hn2⟩ := of_boat hb
  rw [e]
  exact h b w' hw' hb (by omega)
theorem boat_ok {A : Addr} {ds : List Pd} {Φ : Rs → Prop} (h : S_boat_ok ds Φ) : S_need_boat A ds Φ := by
  obtain ⟨b, rfl, hb, h⟩ := h
  exact ⟨nic_up (by decide) (toD_nic hb), fun _ => h, fun e => absurd (toD_isBoat hb) (by rw [e]; decide)⟩
theorem sIx_nat {n d k : Nat} (h : k ≤ n) : HT.sIx n d (some (k : Int)) = k := by
  rw [HT.sIx_nat]; omega
theorem cut_weeks {n c lo hi : Nat} (h1 : lo < n) (h2 : hi < n) : KJ.cutD ((List.range n).map fun i => natD (c + i)) (some (lo : Int)) (some (hi : Int)) = (List.range (hi - lo)).map fun i => natD (c + lo + i) := by
  unfold KJ.cutD
  rw [List.length_map, List.length_range, sIx_nat (by omega), sIx_nat (by omega)]
  refine List.ext_getElem? fun i => ?_
  rw [List.getElem?_map]
  by_cases hi : i < hi - lo
  · rw [List.getElem?_take_of_lt hi, List.getElem?_drop, List.getElem?_map, List.getElem?_range (by omega), List.getElem?_range hi]
    show some (natD _) = some (natD _)
    rw [Nat.add_assoc]
  · rw [List.getElem?_eq_none (by rw [List.length_take]; omega), List.getElem?_eq_none (by rw [List.length_range]; omega)]
    rfl
theorem ahead_cut (b : Boat) (p k : Nat) (d : Nat) : b.ahead p (k + d) = b.ahead p k + cnt (fun i => isP (b.turn (k + i)) p) d := cnt_add _ _ _

end M

namespace M
open PySem PySem.Spec L2 PyProof.Rows KJ
/-! ### the law -/
def S_law : Sq := fun ns ds Φ => match ds with
  | [] => ns.length ≤ 63 ∧ Φ (.d (.bool true))
  | _ => False
theorem eqk2 {Φ : Bool → Prop} (h : Φ true) : EqK (.list ((kindsOf "NoNumber").map .bool)) (.list ((List.range 16).map fun (k : Nat) => PyData.bool (decide ((k : Int) = 2)))) Φ := by
  have e : PyData.eqv (.list ((kindsOf "NoNumber").map .bool)) (.list ((List.range 16).map fun (k : Nat) => PyData.bool (decide ((k : Int) = 2)))) = true := by decide +kernel
  unfold EqK
  refine ⟨⟨by decide +kernel, by decide +kernel, ?_⟩, by rw [e]; exact h⟩
  show min _ _ ≤ 60
  decide +kernel
theorem eqk1 {Φ : Bool → Prop} (h : Φ true) : EqK (.list ((kindsOf "NoPart").map .bool)) (.list ((List.range 16).map fun (k : Nat) => PyData.bool (decide ((k : Int) = 1)))) Φ := by
  have e : PyData.eqv (.list ((kindsOf "NoPart").map .bool)) (.list ((List.range 16).map fun (k : Nat) => PyData.bool (decide ((k : Int) = 1)))) = true := by decide +kernel
  unfold EqK
  refine ⟨⟨by decide +kernel, by decide +kernel, ?_⟩, by rw [e]; exact h⟩
  show min _ _ ≤ 60
  decide +kernel
theorem next_uni {b : Boat} {p1 p2 k1 k2 n1 n2 : Nat} (ep : p1 = p2) (ek : k1 = k2) (g1 : k1 ≤ n1) (t1 : isP (b.turn n1) p1 = true) (m1 : ∀ m, k1 ≤ m → m < n1 → isP (b.turn m) p1 = false) (g2 : k2 ≤ n2) (t2 : isP (b.turn n2) p2 = true) (m2 : ∀ m, k2 ≤ m → m < n2 → isP (b.turn m) p2 = false) : n1 = n2 := by
  subst ep ek
  by_cases h : n1 < n2
  · have := m2 n1 g1 h
    rw [t1] at this
    cases this
  · by_cases h2 : n2 < n1
    · have := m1 n2 g2 h2
      rw [t2] at this
      cases this
    · omega
end M

set_option Elab.async false
set_option linter.all false
set_option maxRecDepth 100000
set_option maxHeartbeats 4100000
/-! N3: sorted and summed lists of whole numbers; turns counted for all parts. -/
namespace KJ
open PySem PySem.Spec L2 PyProof.Rows
theorem sortD_ints (ns : List Int) : sortD (ns.map .int) = (ns.mergeSort fun a b => decide (a ≤ b)).map .int := by
  unfold sortD
  rw [List.map_mergeSort (r := fun a b => decide (a ≤ b)) (s := PySem.W.dataLe false id)]
  intro a _ b _
  have := congrFun (congrFun (PySem.W.dataLe_int (fun x : Int => x)) a) b
  exact this.symm
theorem plain_ints : ∀ ns : List Int, PyData.plainAll (ns.map .int) = true
  | [] => rfl
  | _ :: r => plain_ints r
theorem srtok_ints {ns : List Int} (h : ns.length ≤ 1000000) : SrtOk (ns.map .int) where
  k := .inl ⟨PySem.W.AllAlike.of (enc := PyData.int) fun _ _ => rfl, PySem.W.Sortable.others (enc := PyData.int) fun b => ⟨nofun, nofun⟩⟩
  pl := plain_ints ns
  len := by rw [List.length_map]; exact h
  dep := fun d hd => by
    obtain ⟨n, _, rfl⟩ := List.mem_map.mp hd
    simp [PyData.depth]
theorem srt_ints {ns : List Int} {Φ : List Pd → Prop} (h : ns.length ≤ 1000000) (k : ∀ ms : List Int, ms.Perm ns → ms.Pairwise (· ≤ ·) → Φ (ms.map .int)) : SrtK (.list (ns.map .int)) Φ := by
  unfold SrtK
  refine ⟨_, rfl, srtok_ints h, ?_⟩
  rw [sortD_ints]
  refine k _ (List.mergeSort_perm _ _) ?_
  have := List.pairwise_mergeSort (le := fun a b : Int => decide (a ≤ b)) (fun a b c h1 h2 => by simp only [decide_eq_true_eq] at *; omega) (fun a b => by simp only [Bool.or_eq_true, decide_eq_true_eq]; omega) ns
  exact this.imp fun h => of_decide_eq_true h
theorem ints_q {ns : List Int} {Φ : List Int → Prop} (h : Φ ns) : IntsQ (.list (ns.map .int)) Φ := by unfold IntsQ; exact ⟨ns, rfl, h⟩
/-- the only rising list of these -/
theorem sorted_uni : ∀ {a b : List Int}, a.Perm b → a.Pairwise (· ≤ ·) → b.Pairwise (· ≤ ·) → a = b := fun {a b} p h1 h2 => p.eq_of_pairwise (fun x y _ _ h1 h2 => Int.le_antisymm h1 h2) h1 h2
theorem eq_any {n m : Nat} {d e : Pd} {Φ : Bool → Prop} (h1 : nic n d = true) (h2 : nic m e = true) (hn : n ≤ 50) (h : Φ (PyData.eqv d e)) : CmpE .Eq d e Φ := by
  cases d <;> cases e <;> first
    | exact eq_of h1 h2 hn h
    | (rename_i a b
       show Φ (decide (a = b))
       have e : decide (a = b) = (a == b) := by by_cases q : a = b <;> simp [q]
       rw [e]; exact h)
theorem ne_any {n m : Nat} {d e : Pd} {Φ : Bool → Prop} (h1 : nic n d = true) (h2 : nic m e = true) (hn : n ≤ 50) (h : Φ (!PyData.eqv d e)) : CmpE .NotEq d e Φ := by
  cases d <;> cases e <;> first
    | exact eq_of h1 h2 hn h
    | (rename_i a b
       show Φ (!decide (a = b))
       have e : decide (a = b) = (a == b) := by by_cases q : a = b <;> simp [q]
       rw [e]; exact h)
theorem eq_sameE {n : Nat} {d : Pd} {Φ : Bool → Prop} (h1 : nic n d = true) (hn : n ≤ 50) (h : Φ true) : CmpE .Eq d d Φ := eq_any h1 h1 hn (by rw [eqv_self (nic_plain h1)]; exact h)
theorem ne_sameE {n : Nat} {d : Pd} {Φ : Bool → Prop} (h1 : nic n d = true) (hn : n ≤ 50) (h : Φ false) : CmpE .NotEq d d Φ := ne_any h1 h1 hn (by rw [eqv_self (nic_plain h1)]; exact h)
end KJ
namespace M
open PySem PySem.Spec L2 PyProof.Rows KJ
/-- a place's count among the sailing ones -/
theorem cnt_sail {b : Boat} (h : b.Ok) (g : Nat → Bool) : ∀ m, cnt (fun i => !b.laid.contains i && g (i - less b.laid i)) m = cnt g (m - less b.laid m)
  | 0 => by rw [Nat.zero_sub]; rfl
  | m + 1 => by
    have ih := cnt_sail h g m
    have e := less_succ (laid_nodup h) m
    have l := less_le h m
    show cnt _ m + _ = _
    rw [ih]
    cases hc : b.laid.contains m with
    | true =>
      rw [hc] at e
      have e2 : m + 1 - less b.laid (m + 1) = m - less b.laid m := by
        rw [e]
        show m + 1 - (less b.laid m + 1) = _
        omega
      rw [e2]
      simp only [hc]
      rfl
    | false =>
      rw [hc] at e
      have e2 : m + 1 - less b.laid (m + 1) = m - less b.laid m + 1 := by
        rw [e]
        show m + 1 - (less b.laid m + 0) = _
        omega
      rw [e2]
      show _ = cnt g (m - less b.laid m) + _
      simp only [hc]
      rfl
theorem cnt_mono {f : Nat → Bool} {m : Nat} : ∀ {n : Nat}, m ≤ n → cnt f m ≤ cnt f n
  | 0, h => by
    have : m = 0 := by omega
    subst this; exact Nat.le_refl _
  | n + 1, h => by
    by_cases e : m = n + 1
    · subst e; exact Nat.le_refl _
    · have := cnt_mono (f := f) (m := m) (n := n) (by omega)
      show cnt f m ≤ cnt f n + _
      omega
/-- of s that follow p has the s-th part or one more -/
theorem cnt_rounds {n p : Nat} (hp : p < n) (a : Nat) : ∀ q, cnt (fun y => decide ((a + y) % n = p)) (n * q) = q
  | 0 => rfl
  | q + 1 => by
    rw [Nat.mul_succ, cnt_add, cnt_rounds hp a q]
    have : cnt (fun i => decide ((a + (n * q + i)) % n = p)) n = 1 := by
      rw [← cnt_turn hp (a + n * q)]
      exact cnt_congr fun i _ => by rw [Nat.add_assoc]
    rw [this]
theorem cnt_part {n p : Nat} (hp : p < n) (a s : Nat) : s / n ≤ cnt (fun y => decide ((a + y) % n = p)) s ∧ cnt (fun y => decide ((a + y) % n = p)) s ≤ s / n + 1 := by
  have e := Nat.div_add_mod s n
  have hm := Nat.mod_lt s (show 0 < n by omega)
  have e2 : cnt (fun y => decide ((a + y) % n = p)) s = cnt (fun y => decide ((a + y) % n = p)) (n * (s / n) + s % n) := by rw [e]
  rw [cnt_add, cnt_rounds hp] at e2
  have e3 : cnt (fun i => decide ((a + (n * (s / n) + i)) % n = p)) (s % n) ≤ cnt (fun i => decide ((a + (n * (s / n) + i)) % n = p)) n := cnt_mono (by omega)
  have e4 : cnt (fun i => decide ((a + (n * (s / n) + i)) % n = p)) n = 1 := by
    rw [← cnt_turn hp (a + n * (s / n))]
    exact cnt_congr fun i _ => by rw [Nat.add_assoc]
  omega
theorem inYear_part {b : Boat} (h : b.Ok) {p : Nat} (hp : p < b.parts) (y : Nat) : b.sails.length / b.parts ≤ b.inYear p y ∧ b.inYear p y ≤ b.sails.length / b.parts + 1 := by
  have e : b.inYear p y = cnt (fun k => decide ((y + k) % b.parts = p)) b.sails.length := by
    unfold Boat.sails
    rw [cnt_filter]
    have z : cnt (fun p => !b.laid.contains p) b.w = b.w - less b.laid b.w := by
      have := cnt_not (fun x => b.laid.contains x) b.w
      rw [cnt_less (laid_nodup h)] at this
      omega
    rw [z, ← cnt_sail h]
    refine cnt_congr fun i hi => ?_
    rw [turn_at h hi]
    cases b.laid.contains i
    · show decide ((i - less b.laid i + y) % b.parts = p) = (true && decide ((y + (i - less b.laid i)) % b.parts = p))
      rw [Nat.add_comm y]; simp
    · rfl
  rw [e]
  exact cnt_part hp y _
theorem turn_lt {b : Boat} (h : b.Ok) {k p : Nat} (e : b.turn k = some p) : p < b.parts := by
  unfold Boat.turn at e
  split at e
  · cases e
  · cases e
    exact Nat.mod_lt _ (show 0 < b.parts from h.o1)
theorem turn_round {b : Boat} (h : b.Ok) (k t : Nat) : b.turn (k + b.parts * b.w * t) = b.turn k := by
  have h0 : 0 < b.w := by have := h.w2; omega
  have e1 : k + b.parts * b.w * t = k + b.w * (b.parts * t) := by rw [Nat.mul_comm b.parts, Nat.mul_assoc]
  unfold Boat.turn
  rw [e1, Nat.add_mul_mod_self_left, Nat.add_mul_div_left _ _ h0, ← Nat.add_assoc, Nat.add_mul_mod_self_left]
theorem sum_const (n : Nat) : ∀ m, sumTo (fun _ => n) m = m * n
  | 0 => by simp; rfl
  | m + 1 => by
    show sumTo _ m + n = _
    rw [sum_const n m, Nat.succ_mul]
theorem isP_parts {o : Option Nat} {n : Nat} (h : ∀ p, o = some p → p < n) : cnt (fun p => isP o p) n = if o.isSome then 1 else 0 := by
  cases o with
  | none =>
    have : ∀ n, cnt (fun p => isP none p) n = 0 := fun n => by
      induction n with
      | zero => rfl
      | succ n ih => show cnt _ n + 0 = 0; rw [ih]
    exact this n
  | some q =>
    have hq := h q rfl
    have : cnt (fun p => isP (some q) p) n = cnt (fun p => decide (p = q)) n := cnt_congr fun i _ => decide_eq_decide.mpr ⟨fun e => e.symm, fun e => e.symm⟩
    rw [this, cnt_one, if_pos hq]; rfl
theorem sum_if (f : Nat → Bool) : ∀ n, sumTo (fun i => if f i = true then 1 else 0) n = cnt f n
  | 0 => rfl
  | n + 1 => by show sumTo _ n + _ = cnt f n + _; rw [sum_if f n]
/-- the weeks of all parts are the sailing ones -/
theorem all_ahead {b : Boat} (h : b.Ok) (k : Nat) : sumTo (fun p => b.ahead p k) b.parts = cnt (fun i => (b.turn i).isSome) k := by
  show sumTo (fun p => cnt (fun i => isP (b.turn i) p) k) b.parts = _
  rw [cnt_swap (fun p i => isP (b.turn i) p) b.parts k, ← sum_if]
  exact sum_congr fun i _ => isP_parts fun p e => turn_lt h e
theorem turn_some (b : Boat) (k : Nat) : (b.turn k).isSome = !b.laid.contains (k % b.w) := by
  unfold Boat.turn
  cases b.laid.contains (k % b.w) <;> rfl
theorem all_inYear {b : Boat} (h : b.Ok) (y : Nat) : sumTo (fun p => b.inYear p y) b.parts = b.w - b.laid.length := by
  show sumTo (fun p => cnt (fun i => isP (b.turn (b.w * y + i)) p) b.w) b.parts = _
  rw [cnt_swap (fun p i => isP (b.turn (b.w * y + i)) p) b.parts b.w]
  have e1 : sumTo (fun i => cnt (fun p => isP (b.turn (b.w * y + i)) p) b.parts) b.w = cnt (fun i => !b.laid.contains i) b.w := by
    rw [← sum_if]
    refine sum_congr fun i hi => ?_
    rw [isP_parts fun p e => turn_lt h e, turn_some, Nat.mul_add_mod, Nat.mod_eq_of_lt hi]
  rw [e1]
  have := cnt_not (fun x => b.laid.contains x) b.w
  rw [cnt_less (laid_nodup h)] at this
  have z : less b.laid b.w = b.laid.length := by
    unfold less
    rw [List.filter_eq_self.mpr fun x hx => decide_eq_true (h.lt x hx)]
  omega
/-- the weeks ahead of k whose place is l -/
theorem cnt_place {w l : Nat} (hl : l < w) : ∀ k : Nat, ((cnt (fun i => decide (i % w = l)) k : Nat) : Int) = ((k : Int) - (l : Int) - 1) / (w : Int) + 1
  | 0 => by
    show (0 : Int) = _
    have : ((0 : Nat) : Int) - (l : Int) - 1 = -1 * (w : Int) + ((w : Int) - 1 - l) := by omega
    rw [this, Int.add_comm (-1 * (w : Int)), Int.add_mul_ediv_right _ _ (by omega), Int.ediv_eq_zero_of_lt (by omega) (by omega)]
    omega
  | k + 1 => by
    have ih := cnt_place hl k
    show ((cnt _ k + (if decide (k % w = l) = true then 1 else 0) : Nat) : Int) = _
    have e := Nat.div_add_mod k w
    have hm := Nat.mod_lt k (show 0 < w by omega)
    have ek : (k : Int) = (w : Int) * ((k / w : Nat) : Int) + ((k % w : Nat) : Int) := by
      have := congrArg (fun n : Nat => (n : Int)) e
      simp only [Int.natCast_add, Int.natCast_mul] at this
      exact this.symm
    have f1 : ((k : Int) - (l : Int) - 1) / (w : Int) = ((k / w : Nat) : Int) + (if k % w ≤ l then -1 else 0) := by
      split
      · rw [show (k : Int) - (l : Int) - 1 = ((w : Int) + ((k % w : Nat) : Int) - l - 1) + (w : Int) * (((k / w : Nat) : Int) + -1) by rw [Int.mul_add]; omega, Int.add_mul_ediv_left _ _ (by omega), Int.ediv_eq_zero_of_lt (by omega) (by omega)]
        omega
      · rw [show (k : Int) - (l : Int) - 1 = (((k % w : Nat) : Int) - l - 1) + (w : Int) * ((k / w : Nat) : Int) by omega, Int.add_mul_ediv_left _ _ (by omega), Int.ediv_eq_zero_of_lt (by omega) (by omega)]
        omega
    have f2 : (((k + 1 : Nat) : Int) - (l : Int) - 1) / (w : Int) = ((k / w : Nat) : Int) + (if k % w < l then -1 else 0) := by
      split
      · rw [show ((k + 1 : Nat) : Int) - (l : Int) - 1 = ((w : Int) + ((k % w : Nat) : Int) - l) + (w : Int) * (((k / w : Nat) : Int) + -1) by rw [Int.mul_add]; omega, Int.add_mul_ediv_left _ _ (by omega), Int.ediv_eq_zero_of_lt (by omega) (by omega)]
        omega
      · rw [show ((k + 1 : Nat) : Int) - (l : Int) - 1 = (((k % w : Nat) : Int) - l) + (w : Int) * ((k / w : Nat) : Int) by omega, Int.add_mul_ediv_left _ _ (by omega), Int.ediv_eq_zero_of_lt (by omega) (by omega)]
        omega
    rw [f2]
    rw [f1] at ih
    by_cases q : k % w = l
    · rw [if_pos (decide_eq_true q)]
      rw [if_pos (by omega : k % w ≤ l)] at ih
      rw [if_neg (by omega : ¬ k % w < l)]
      omega
    · rw [if_neg (by simpa using q)]
      by_cases q2 : k % w < l
      · rw [if_pos (by omega : k % w ≤ l)] at ih
        rw [if_pos q2]
        omega
      · rw [if_neg (by omega : ¬ k % w ≤ l)] at ih
        rw [if_neg q2]
        omega
/-- laid weeks of the first j of the list, ahead of k -/
theorem cnt_laid {w : Nat} : ∀ {l : List Nat}, l.Nodup → (∀ x ∈ l, x < w) → ∀ k, cnt (fun i => l.contains (i % w)) k = (l.map fun x => cnt (fun i => decide (i % w = x)) k).sum
  | [], _, _, k => by
    have : ∀ k, cnt (fun i => ([] : List Nat).contains (i % w)) k = 0 := fun k => by
      induction k with
      | zero => rfl
      | succ k ih => show cnt _ k + 0 = 0; rw [ih]
    exact this k
  | x :: r, hn, hl, k => by
    obtain ⟨n1, n2⟩ := List.nodup_cons.mp hn
    rw [List.map_cons, List.sum_cons, ← cnt_laid n2 (fun y hy => hl y (List.mem_cons_of_mem _ hy)) k]
    induction k with
    | zero => rfl
    | succ k ih =>
      show cnt _ k + _ = (cnt _ k + _) + (cnt _ k + _)
      rw [ih]
      have : (if ((x :: r).contains (k % w)) = true then 1 else 0) = (if decide (k % w = x) = true then 1 else 0) + (if (r.contains (k % w)) = true then 1 else 0) := by
        rw [List.contains_cons]
        by_cases e : k % w = x
        · have hr : r.contains (k % w) = false := by rw [e]; simpa using n1
          rw [hr]
          simp [e]
        · have : (k % w == x) = false := beq_false_of_ne e
          rw [this]
          simp [e]
      dsimp only
      omega
theorem cnt_range (f : Nat → Nat) (p n : Nat) : ((List.range n).map f).count p = cnt (fun k => decide (f k = p)) n := by
  rw [List.count_eq_countP, List.countP_map, List.countP_eq_length_filter, ← cnt_filter]
  congr 1
theorem cnt_zero {f : Nat → Bool} : ∀ {n : Nat}, (∀ i, i < n → f i = false) → cnt f n = 0
  | 0, _ => rfl
  | n + 1, h => by
    show cnt f n + _ = 0
    rw [cnt_zero (n := n) fun i hi => h i (by omega), h n (by omega)]; rfl
/-- n that follow fall to all, each once -/
theorem perm_turn (n a : Nat) : ((List.range n).map fun k => (a + k) % n).Perm (List.range n) := by
  refine List.perm_iff_count.mpr fun p => ?_
  have e2 : (List.range n).count p = cnt (fun k => decide (k = p)) n := by
    have := cnt_range (fun k => k) p n
    rw [List.map_id'] at this
    exact this
  rw [cnt_range, e2, cnt_one]
  by_cases h : p < n
  · rw [if_pos h, cnt_turn h]
  · rw [if_neg h]
    refine cnt_zero fun i hi => decide_eq_false ?_
    have := Nat.mod_lt (a + i) (show 0 < n by omega)
    omega
theorem perm_turnI (n a : Nat) : ((List.range n).map fun k : Nat => (((a + k) % n : Nat) : Int)).Perm ((List.range n).map fun k : Nat => (k : Int)) := by
  have := (perm_turn n a).map (fun k : Nat => (k : Int))
  rw [List.map_map] at this
  exact this
theorem inc_range (n : Nat) : ((List.range n).map fun k : Nat => (k : Int)).Pairwise (· ≤ ·) := by
  rw [List.pairwise_map]
  exact (List.pairwise_lt_range (n := n)).imp fun h => by omega
/-! the doors, asked rightly -/
def S_btw : Sd := fun ds Φ => ∃ (b : Boat) (i j l : Int), ds = [b.toD, .int i, .int j, .int l] ∧ ∃ p k m : Nat, IsN i p ∧ IsN j k ∧ IsN l m ∧ p < b.parts ∧ b.Ok ∧ Φ (.d (.int (if m ≤ k then 0 else (b.ahead p m : Int) - (b.ahead p k : Int))))
theorem btw_ok {A B : Addr} {ds : List Pd} {Φ : Rs → Prop} (h : S_btw ds Φ) : S_weeks_between A B ds Φ := by
  obtain ⟨b, i, j, l, rfl, p, k, m, rfl, rfl, rfl, hp, hb, h⟩ := h
  refine ⟨b, p, k, m, rfl, hb, fun p' k' e1 e2 hp' => ?_, fun z => absurd ⟨Int.natCast_nonneg _, by omega⟩ z, fun _ _ z => by omega⟩
  obtain rfl : p' = p := by omega
  obtain rfl : k' = k := by omega
  refine ⟨fun hl => ?_, fun m' e3 hl => ?_⟩
  · rw [if_pos (by omega)] at h
    exact h
  · obtain rfl : m' = m := by omega
    rw [if_neg (by omega)] at h
    exact h
def S_turn_ofN : Sd := fun ds Φ => ∃ (b : Boat) (i : Int), ds = [b.toD, .int i] ∧ ∃ k : Nat, IsN i k ∧ b.Ok ∧ Φ (.d (optD (b.turn k)))
theorem turn_okN {B : Addr} {ds : List Pd} {Φ : Rs → Prop} (h : S_turn_ofN ds Φ) : S_turn_of B ds Φ := by
  obtain ⟨b, i, rfl, k, rfl, hb, h⟩ := h
  refine ⟨b, k, rfl, hb, fun k' e => ?_, fun z => by omega⟩
  obtain rfl : k' = k := by omega
  exact h
def S_weeks_ofN : Sd := fun ds Φ => ∃ (b : Boat) (i j : Int), ds = [b.toD, .int i, .int j] ∧ ∃ p y : Nat, IsN i p ∧ IsN j y ∧ p < b.parts ∧ b.Ok ∧ Φ (.fr ((b.weeks p y).map natD))
theorem weeks_okN {A B : Addr} {ds : List Pd} {Φ : Rs → Prop} (h : S_weeks_ofN ds Φ) : S_weeks_of A B ds Φ := by
  obtain ⟨b, i, j, rfl, p, y, rfl, rfl, hp, hb, h⟩ := h
  refine ⟨b, p, y, rfl, hb, fun p' y' e1 e2 _ => ?_, fun z => absurd ⟨Int.natCast_nonneg _, by omega⟩ z, fun _ _ z => by omega⟩
  obtain rfl : p' = p := by omega
  obtain rfl : y' = y := by omega
  exact h
def S_nextN : Sd := fun ds Φ => ∃ (b : Boat) (i j : Int), ds = [b.toD, .int i, .int j] ∧ ∃ p k : Nat, IsN i p ∧ IsN j k ∧ p < b.parts ∧ b.Ok ∧ ∀ n : Nat, k ≤ n → isP (b.turn n) p = true → (∀ m, k ≤ m → m < n → isP (b.turn m) p = false) → Φ (.d (.int n))
theorem next_okN {A B : Addr} {ds : List Pd} {Φ : Rs → Prop} (h : S_nextN ds Φ) : S_next_week A B ds Φ := by
  obtain ⟨b, i, j, rfl, p, k, rfl, rfl, hp, hb, h⟩ := h
  refine ⟨b, p, k, rfl, hb, fun p' k' n e1 e2 _ h1 h2 h3 => ?_, fun z => absurd ⟨Int.natCast_nonneg _, by omega⟩ z, fun _ _ z => by omega⟩
  obtain rfl : p' = p := by omega
  obtain rfl : k' = k := by omega
  exact h n h1 h2 h3
theorem lsum_sub {α : Type} (f g : α → Int) : ∀ l : List α, (l.map fun x => f x - g x).sum = (l.map f).sum - (l.map g).sum
  | [] => rfl
  | x :: r => by
    rw [List.map_cons, List.map_cons, List.map_cons, List.sum_cons, List.sum_cons, List.sum_cons, lsum_sub f g r]
    omega
theorem lsum_cast {α : Type} (f : α → Nat) : ∀ l : List α, (l.map fun x => (f x : Int)).sum = (((l.map f).sum : Nat) : Int)
  | [] => rfl
  | x :: r => by
    rw [List.map_cons, List.map_cons, List.sum_cons, List.sum_cons, lsum_cast f r]
    omega
theorem sum_range (f : Nat → Nat) : ∀ n, ((List.range n).map f).sum = sumTo f n
  | 0 => rfl
  | n + 1 => by
    rw [List.range_succ, List.map_append, List.sum_append, sum_range f n]
    show sumTo f n + (f n + 0) = sumTo f n + f n
    rw [Nat.add_zero]
theorem all_weeks {b : Boat} (h : b.Ok) (k : Nat) : ((List.range b.parts).map fun p : Nat => (b.ahead p k : Int)).sum + (b.laid.map fun x : Nat => ((k : Int) - (x : Int) - 1) / (b.w : Int) + 1).sum = (k : Int) := by
  have hw := h.w2
  rw [lsum_cast (fun p => b.ahead p k), sum_range, all_ahead h]
  have e : b.laid.map (fun x : Nat => ((k : Int) - (x : Int) - 1) / (b.w : Int) + 1) = b.laid.map fun x : Nat => ((cnt (fun i => decide (i % b.w = x)) k : Nat) : Int) :=
    List.map_congr_left fun x hx => (cnt_place (h.lt x hx) k).symm
  rw [e, lsum_cast (fun x => cnt (fun i => decide (i % b.w = x)) k), ← cnt_laid (laid_nodup h) h.lt]
  have := cnt_not (fun i => b.laid.contains (i % b.w)) k
  have e2 : cnt (fun i => (b.turn i).isSome) k = cnt (fun i => !b.laid.contains (i % b.w)) k := cnt_congr fun i _ => turn_some b i
  rw [e2]
  omega
theorem counts_all {b : Boat} (h : b.Ok) (k d : Nat) : ((List.range b.parts).map fun p : Nat => (b.ahead p (k + d) : Int) - (b.ahead p k : Int)).sum + (b.laid.map fun x : Nat => (((k + d : Nat) : Int) - (x : Int) - 1) / (b.w : Int) - ((k : Int) - (x : Int) - 1) / (b.w : Int)).sum = ((k + d : Nat) : Int) - (k : Int) := by
  have h1 := all_weeks h (k + d)
  have h2 := all_weeks h k
  have e : b.laid.map (fun x : Nat => (((k + d : Nat) : Int) - (x : Int) - 1) / (b.w : Int) - ((k : Int) - (x : Int) - 1) / (b.w : Int)) = b.laid.map fun x : Nat => ((((k + d : Nat) : Int) - (x : Int) - 1) / (b.w : Int) + 1) - (((k : Int) - (x : Int) - 1) / (b.w : Int) + 1) := List.map_congr_left fun x _ => by omega
  rw [e, lsum_sub, lsum_sub]
  omega
end M

set_option maxHeartbeats 0
local macro_rules | `(tactic| exact "lk") => `(tactic| (repeat (first | with_reducible exact KJ.Lk.hd | with_reducible apply KJ.Lk.tl)))
local macro_rules | `(tactic| exact "up") => `(tactic| (repeat (first | with_reducible exact KJ.Up.hd | with_reducible apply KJ.Up.tl)))
local macro_rules | `(tactic| exact "gJE") => `(tactic| (with_reducible show KJ.JE _ _ _ _); first
  | refine KJ.je_name (by exact "lk") ?_
  | refine KJ.je_int ?_
  | refine KJ.je_str ?_
  | refine KJ.je_glob (by assumption) ?_
  | refine KJ.je_cmp (by assumption) ?_
  | refine KJ.je_bin ?_
  | refine KJ.je_and ?_
  | refine KJ.je_or ?_
  | refine KJ.je_1 ?_
  | refine KJ.je_not ?_
  | refine KJ.je_fr (KJ.jf_rev ?_)
  | refine KJ.je_fr (KJ.jf_slo (by exact "lk") ?_)
  | refine KJ.je_sl ?_
  | refine KJ.je_subs (by exact "lk") ?_
  | refine KJ.je_subo (by exact "lk") ?_
  | refine KJ.je_sub ?_
  | refine KJ.je_lens (by assumption) (by exact "lk") ?_
  | refine KJ.je_leno (by assumption) (by exact "lk") ?_
  | refine KJ.je_len (by assumption) ?_
  | refine KJ.je_namef (by assumption) (by exact "lk") (by exact "up") ?_
  | refine KJ.je_isX (by assumption) (by assumption) (by assumption) (by assumption) (by assumption) (by assumption) (by exact "lk") ?_
  | refine KJ.je_isXB (by assumption) (by assumption) (by assumption) (by assumption) (by assumption) (by assumption) (by assumption) (by exact "lk") ?_
  | refine KJ.je_isInt (by assumption) ?_
  | refine KJ.je_isStr (by assumption) ?_
  | refine KJ.je_isTup (by assumption) ?_
  | refine KJ.je_isBool (by assumption) ?_
  | refine KJ.je_isList (by assumption) ?_
  | refine KJ.je_callI (by assumption) (by assumption) (by first | decide | omega) (by exact "lk") ?_
  | refine KJ.je_call (by assumption) (by assumption) (by first | decide | omega) ?_
  | refine KJ.je_tup ?_
  | refine KJ.je_lst ?_
  | refine KJ.je_chain (by assumption) ?_
  | refine KJ.je_if ?_
  | refine KJ.je_bl ?_
  | refine KJ.je_non ?_
  | refine KJ.je_neg ?_
  | refine KJ.je_all (by assumption) ?_
  | refine KJ.je_any (by assumption) ?_
  | refine KJ.je_max (by assumption) ?_
  | refine KJ.je_min (by assumption) ?_
  | refine KJ.je_divmod (by assumption) ?_
  | refine KJ.je_toint (by assumption) ?_
  | refine KJ.je_strI (by assumption) ?_
  | refine KJ.je_totup (by assumption) ?_
  | refine KJ.je_join ?_
  | refine KJ.je_popAt (by assumption) (by exact "lk") ?_
  | refine KJ.je_fr (KJ.jf_tolist (by assumption) ?_)
  | fail)
local macro_rules | `(tactic| exact "gJT") => `(tactic| (with_reducible show KJ.JT _ _ _ _); first
  | refine KJ.jt_b ?_
  | refine KJ.jt_nilO (by assumption) (by exact "lk") (by assumption) ?_
  | refine KJ.jt_cmp (by assumption) ?_
  | refine KJ.jt_chain (by assumption) ?_
  | refine KJ.jt_not ?_
  | refine KJ.jt_val ?_
  | fail)
local macro_rules | `(tactic| exact "gJW") => `(tactic| (with_reducible show KJ.JW _ _ _ _); first
  | refine KJ.jw_and ?_
  | refine KJ.jw_or ?_
  | refine KJ.jw_1 ?_
  | fail)
local macro_rules | `(tactic| exact "gJA") => `(tactic| (with_reducible show KJ.JA _ _ _ _); first
  | refine KJ.ja_nil ?_
  | refine KJ.ja_cons ?_
  | fail)
local macro_rules | `(tactic| exact "gJS") => `(tactic| (with_reducible show KJ.JS _ _ _ _); first
  | refine KJ.js_if ?_
  | refine KJ.js_retO (by assumption) (by exact "lk") (by exact "up") ?_
  | refine KJ.js_retF (KJ.jf_lst ?_)
  | refine KJ.js_ret ?_
  | refine KJ.js_own (by assumption) (KJ.jf_lst ?_)
  | refine KJ.js_own (by assumption) (KJ.jf_callQ (by assumption) (by assumption) (by first | decide | omega) (by exact "lk") ?_)
  | refine KJ.js_own (by assumption) (KJ.jf_tolist (by assumption) ?_)
  | refine KJ.js_setO (by assumption) (by exact "lk") ?_
  | refine KJ.js_asg ?_
  | refine KJ.js_append (by assumption) (by exact "lk") ?_
  | refine KJ.js_insert (by assumption) (by exact "lk") ?_
  | refine KJ.js_expr ?_
  | refine KJ.js_raise (by assumption) (by assumption) ?_
  | refine KJ.js_retN ?_
  | refine KJ.js_pass ?_
  | refine KJ.js_break ?_
  | refine KJ.js_continue ?_
  | fail)
local macro_rules | `(tactic| exact "gJG") => `(tactic| (with_reducible show KJ.JG _ _ _ _ _); first
  | refine KJ.jg_name (by assumption) (by exact "up") ?_
  | refine KJ.jg_nameN (by assumption) (by exact "up") ?_
  | refine KJ.jg_tup (by assumption) ?_
  | fail)
local macro_rules | `(tactic| exact "gJGs") => `(tactic| (with_reducible show KJ.JGs _ _ _ _ _); first
  | refine KJ.jgs_nil ?_
  | refine KJ.jgs_cons ?_
  | fail)
local macro_rules | `(tactic| exact "gJO") => `(tactic| (with_reducible show KJ.JO _ _ _ _); first
  | refine KJ.jo_none ?_
  | refine KJ.jo_some ?_
  | fail)
local macro_rules | `(tactic| exact "gJB") => `(tactic| (with_reducible show KJ.JB _ _ _ _); first | refine KJ.jb_cons ?_ | refine KJ.jb_nil ?_ | fail)
local macro_rules | `(tactic| exact "jr") => `(tactic| first | exact "gJE" | exact "gJA" | exact "gJS" | exact "gJT" | exact "gJW" | exact "gJB" | exact "gJG" | exact "gJGs" | exact "gJO" | fail)
local macro_rules | `(tactic| exact "side") => `(tactic| first | assumption | omega | exact KJ.ltl (by first | omega | (simp; done) | (simp; omega)) | exact KJ.lel (by first | omega | (simp; done) | (simp; omega)) | decide | exact KJ.mulR (by omega) (by omega) | exact KJ.mulL (by omega) (by omega) | (refine And.intro ?_ ?_ <;> omega) | fail)
local macro_rules | `(tactic| exact "jq") => `(tactic| first
  | with_reducible exact rfl
  | exact And.intro rfl (by assumption)
  | refine And.intro rfl ?_
  | refine And.intro (by assumption) ?_
  | refine And.intro (fun hz => ?_) (fun hz => ?_) <;> (try (first | exact Bool.noConfusion hz | cases hz))
  | refine Exists.intro _ (And.intro rfl ?_)
  | refine Exists.intro _ (Exists.intro _ (And.intro rfl (And.intro rfl ?_)))
  | refine Exists.intro _ (And.intro (by exact "lk") (And.intro rfl ?_))
  | refine Exists.intro _ (And.intro (by exact "lk") ?_)
  | refine Exists.intro _ (And.intro (by exact "up") ?_)
  | refine Exists.intro _ (Exists.intro _ (And.intro (by exact "up") ?_))
  | refine Exists.intro _ (Exists.intro _ (Exists.intro _ (And.intro rfl (And.intro (by exact "lk") (And.intro rfl ?_)))))
  | refine Exists.intro _ (Exists.intro _ (Exists.intro _ (And.intro rfl (And.intro (by exact "lk") (And.intro rfl (Exists.intro _ (And.intro (by exact "up") ?_)))))))
  | (intro _ ; refine Exists.intro _ (And.intro (by exact "up") ?_))
  | refine Exists.intro _ (Exists.intro _ (Exists.intro _ (And.intro rfl (And.intro (by exact "lk") (And.intro (by assumption) ?_)))))
  | refine Exists.intro _ (Exists.intro _ (Exists.intro _ (And.intro rfl (And.intro (by exact "lk") (And.intro (by assumption) (Exists.intro _ (And.intro (by exact "up") ?_)))))))
  | refine Exists.intro _ (Exists.intro _ (Exists.intro _ (Exists.intro _ (And.intro rfl (And.intro (by exact "side") (And.intro (by exact "lk") (And.intro (by assumption) (And.intro (by assumption) (Exists.intro _ (And.intro (by exact "up") ?_))))))))))
  | refine Exists.intro _ (Exists.intro _ (And.intro rfl (And.intro (by exact "side") (And.intro (by exact "lk") (And.intro (by exact "side") (Exists.intro _ (And.intro (by exact "up") ?_)))))))
  | refine Exists.intro _ (And.intro (by assumption) ?_)
  | refine And.intro (by exact "side") ?_
  | fail)
local macro_rules | `(tactic| exact "j") => `(tactic| first | exact "jr" | assumption | exact "jq" | ((conv => whnf); (first | exact "jr" | assumption | exact "jq" | fail)) | fail)
local macro_rules | `(tactic| exact "js") => `(tactic| repeat' (exact "j"))
local macro_rules | `(tactic| exact "wh") => `(tactic| (fail_if_success with_reducible show @Eq _ _ _); (fail_if_success with_reducible show @LE.le _ _ _ _); (fail_if_success with_reducible show @LT.lt _ _ _ _); (conv => whnf))
local macro_rules | `(tactic| exact "ws") => `(tactic| first
  | with_reducible exact KJ.allB_map _ _
  | ((with_reducible show PySem.IntMulOk _ _); first | exact KJ.mulR (by omega) (by omega) | exact KJ.mulL (by omega) (by omega) | fail)
  | (intro hz; first | exact False.elim (Bool.noConfusion hz) | ((with_reducible change true = true at hz); clear hz) | ((with_reducible change false = false at hz); clear hz) | skip)
  | with_reducible refine And.intro ?_ ?_
  | with_reducible exact rfl
  | ((with_reducible show @LT.lt Int _ _ _); first | omega | decide)
  | ((with_reducible show @LE.le Int _ _ _); first | omega | decide)
  | ((with_reducible show @LT.lt Nat _ _ _); first | omega | exact KJ.ltl (by first | omega | (simp; done) | (simp; omega)))
  | ((with_reducible show @LE.le Nat _ _ _); first | omega | exact KJ.lel (by first | omega | (simp; done) | (simp; omega)))
  | with_reducible assumption
  | ((with_reducible show KJ.fpS _ = []); exact rfl)
  | ((with_reducible show Nat.beq _ _ = true); exact rfl)
  | ((with_reducible show Nat.ble _ _ = true); exact rfl)
  | ((with_reducible show (_ : KJ.Rho) = _); exact rfl)
  | ((with_reducible show @Eq PySem.PyData _ _); exact rfl)
  | with_reducible refine Exists.intro _ (And.intro rfl ?_)
  | with_reducible refine Exists.intro _ (Exists.intro _ (And.intro rfl ?_))
  | with_reducible refine Exists.intro _ (Exists.intro _ (Exists.intro _ (And.intro rfl ?_)))
  | with_reducible refine Exists.intro _ (Exists.intro _ (Exists.intro _ (Exists.intro _ (And.intro rfl ?_))))
  | fail)
local macro_rules | `(tactic| exact "w1") => `(tactic| first | exact "ws" | (exact "wh"; (first | exact "ws" | fail)) | fail)
local macro_rules | `(tactic| exact "w") => `(tactic| (repeat' (exact "w1")) <;> (try exact "wh"))
local macro_rules | `(tactic| exact "sc") => `(tactic| refine ⟨rfl, rfl, rfl, by decide +kernel, rfl, by decide +kernel, by decide +kernel⟩)
local macro_rules | `(tactic| exact "ar") => `(tactic| first | omega | (simp_all; done) | (simp_all; omega))
namespace M
open PySem PySem.Spec L2 PyProof.Rows KJ
def top (i : Nat) : Stmt := PySem.Challenge.pw_keelround_k03_whole_turns_come_round.main.body.getD i (.Pass ⟨0, 0, 0, 0⟩)
abbrev s_is_name : Stmt := top 11
abbrev s_is_whole : Stmt := top 12
abbrev s_is_laid : Stmt := top 13
abbrev s_is_boat : Stmt := top 14
abbrev s_need_boat : Stmt := top 15
abbrev s_parts_in : Stmt := top 16
abbrev s_need_part : Stmt := top 17
abbrev s_need_least : Stmt := top 18
abbrev s_sailing : Stmt := top 20
abbrev s_turn_in : Stmt := top 21
abbrev s_turn_of : Stmt := top 22
abbrev s_weeks_in : Stmt := top 23
abbrev s_weeks_of : Stmt := top 24
abbrev s_weeks_ahead : Stmt := top 25
abbrev s_weeks_between : Stmt := top 26
abbrev s_next_week : Stmt := top 27
abbrev s_law_well : Stmt := top 29
abbrev s_law_take : Stmt := top 30
abbrev s_law_name : Stmt := top 31
abbrev s_law_boat : Stmt := top 32
abbrev s_law_round_right : Stmt := top 33
abbrev s_law_counts_right : Stmt := top 34
abbrev s_law : Stmt := top 35
end M
namespace M
open PySem PySem.Spec L2 PyProof.Rows KJ
def nm_is_name : Nm := ⟨["thing", "sign"], [], ["SMALL", "MOST_NAME"], []⟩
def ir_is_name : IB := (.cons (.ret (.and (.isi .str (.v 0)) (.and (.chn .LtE .LtE (.int 1) (.lenv 0) (.g 1)) (.one (.b1 .all (.lc 1 (.v 0) (.cmp .In (.v 1) (.g 0)))))))) .nil)
def nm_is_whole : Nm := ⟨["thing", "low", "high"], [], [], []⟩
def ir_is_whole : IB := (.cons (.ret (.and (.isi .int (.v 0)) (.and (.not (.isi .bool (.v 0))) (.one (.chn .LtE .LtE (.v 1) (.v 0) (.v 2)))))) .nil)
def nm_is_laid : Nm := ⟨["thing", "weeks", "one", "k"], ["is_whole"], [], []⟩
def ir_is_laid : IB := (.cons (.iff (.or (.not (.isi .tup (.v 0))) (.or (.cmp .GtE (.lenv 0) (.v 1)) (.one (.not (.b1 .all (.lc 2 (.v 0) (.call 0 (.cons (.v 2) (.cons (.int 0) (.cons (.bin .Sub (.v 1) (.int 1)) .nil)))))))))) (.cons (.ret (.bl false)) .nil) .nil) (.cons (.ret (.b1 .all (.lc 3 (.rng (.bin .Sub (.lenv 0) (.int 1))) (.cmp .Lt (.subv 0 (.v 3)) (.subv 0 (.bin .Add (.v 3) (.int 1))))))) .nil))
def nm_is_boat : Nm := ⟨["thing", "weeks", "laid", "owners", "hours", "owner"], ["is_name", "is_whole", "is_laid"], ["MOST_PARTS", "MOST_HOURS", "MOST_WEEKS"], []⟩
def ir_is_boat : IB := (.cons (.iff (.or (.not (.isi .tup (.v 0))) (.one (.cmp .NotEq (.lenv 0) (.int 4)))) (.cons (.ret (.bl false)) .nil) .nil) (.cons (.asg (.tup (.cons (.v 1) (.cons (.v 2) (.cons (.v 3) (.cons (.v 4) .nil))))) (.v 0)) (.cons (.iff (.or (.not (.call 1 (.cons (.v 1) (.cons (.int 2) (.cons (.g 2) .nil))))) (.or (.not (.call 2 (.cons (.v 2) (.cons (.v 1) .nil)))) (.one (.not (.call 1 (.cons (.v 4) (.cons (.int 0) (.cons (.g 1) .nil)))))))) (.cons (.ret (.bl false)) .nil) .nil) (.cons (.iff (.or (.not (.isi .tup (.v 3))) (.one (.not (.chn .LtE .LtE (.int 1) (.lenv 3) (.g 0))))) (.cons (.ret (.bl false)) .nil) .nil) (.cons (.ret (.b1 .all (.lc 5 (.v 3) (.call 0 (.cons (.v 5) .nil))))) .nil)))))
def nm_need_boat : Nm := ⟨["thing"], ["is_boat"], [], ["NoBoat"]⟩
def ir_need_boat : IB := (.cons (.iff (.not (.call 0 (.cons (.v 0) .nil))) (.cons (.raise 0) .nil) .nil) .nil)
def nm_parts_in : Nm := ⟨["boat"], [], [], []⟩
def ir_parts_in : IB := (.cons (.ret (.b1 .len (.subv 0 (.int 2)))) .nil)
def nm_need_part : Nm := ⟨["boat", "part"], ["parts_in"], [], ["NoPart"]⟩
def ir_need_part : IB := (.cons (.iff (.or (.cmp .Lt (.v 1) (.int 0)) (.one (.cmp .GtE (.v 1) (.call 0 (.cons (.v 0) .nil))))) (.cons (.raise 0) .nil) .nil) .nil)
def nm_need_least : Nm := ⟨["number", "least"], [], [], ["NoNumber"]⟩
def ir_need_least : IB := (.cons (.iff (.cmp .Lt (.v 0) (.v 1)) (.cons (.raise 0) .nil) .nil) .nil)
def nm_sailing : Nm := ⟨["boat", "week"], [], [], []⟩
def ir_sailing : IB := (.cons (.ret (.lcif 1 (.rng (.subv 0 (.int 0))) (.cmp .NotIn (.v 1) (.subv 0 (.int 1))) (.v 1))) .nil)
def nm_turn_in : Nm := ⟨["boat", "week", "year", "place", "ahead", "one"], ["parts_in"], [], []⟩
def ir_turn_in : IB := (.cons (.asg (.tup (.cons (.v 2) (.cons (.v 3) .nil))) (.b2 .divmod (.v 1) (.subv 0 (.int 0)))) (.cons (.iff (.cmp .In (.v 3) (.subv 0 (.int 1))) (.cons (.ret .non) .nil) .nil) (.cons (.asg (.v 4) (.bin .Sub (.v 3) (.b1 .len (.lcif 5 (.subv 0 (.int 1)) (.cmp .Lt (.v 5) (.v 3)) (.v 5))))) (.cons (.ret (.bin .Mod (.bin .Add (.v 4) (.v 2)) (.call 0 (.cons (.v 0) .nil)))) .nil))))
def nm_turn_of : Nm := ⟨["boat", "week"], ["turn_in", "need_least", "need_boat"], [], []⟩
def ir_turn_of : IB := (.cons (.ex (.call 2 (.cons (.v 0) .nil))) (.cons (.ex (.call 1 (.cons (.v 1) .nil))) (.cons (.ret (.call 0 (.cons (.v 0) (.cons (.v 1) .nil)))) .nil)))
def nm_weeks_in : Nm := ⟨["boat", "part", "year", "first", "place"], ["turn_in"], [], []⟩
def ir_weeks_in : IB := (.cons (.asg (.v 3) (.bin .Mult (.v 2) (.subv 0 (.int 0)))) (.cons (.retf (.lcif 4 (.rng (.subv 0 (.int 0))) (.cmp .Eq (.call 0 (.cons (.v 0) (.cons (.bin .Add (.v 3) (.v 4)) .nil))) (.v 1)) (.bin .Add (.v 3) (.v 4)))) .nil))
def nm_weeks_of : Nm := ⟨["boat", "part", "year"], ["weeks_in", "need_least", "need_part", "need_boat"], [], []⟩
def ir_weeks_of : IB := (.cons (.ex (.call 3 (.cons (.v 0) .nil))) (.cons (.ex (.call 2 (.cons (.v 0) (.cons (.v 1) .nil)))) (.cons (.ex (.call 1 (.cons (.v 2) .nil))) (.cons (.retf (.call 0 (.cons (.v 0) (.cons (.v 1) (.cons (.v 2) .nil))))) .nil))))
def nm_weeks_ahead : Nm := ⟨["boat", "part", "week", "years", "place", "parts", "found", "year", "one"], ["weeks_in", "sailing", "parts_in"], [], []⟩
def ir_weeks_ahead : IB := (.cons (.asg (.tup (.cons (.v 3) (.cons (.v 4) .nil))) (.b2 .divmod (.v 2) (.subv 0 (.int 0)))) (.cons (.asg (.v 5) (.call 2 (.cons (.v 0) .nil))) (.cons (.asg (.v 6) (.bin .Mult (.bin .FloorDiv (.v 3) (.v 5)) (.b1 .len (.call 1 (.cons (.v 0) .nil))))) (.cons (.for_ (.v 7) (.rng (.bin .Mod (.v 3) (.v 5))) (.cons (.aug 6 .Add (.b1 .len (.call 0 (.cons (.v 0) (.cons (.v 1) (.cons (.v 7) .nil)))))) .nil)) (.cons (.ret (.bin .Add (.v 6) (.b1 .len (.lcif 8 (.call 0 (.cons (.v 0) (.cons (.v 1) (.cons (.v 3) .nil)))) (.cmp .Lt (.v 8) (.v 2)) (.v 8))))) .nil)))))
def nm_weeks_between : Nm := ⟨["boat", "part", "first", "last"], ["weeks_ahead", "need_least", "need_part", "need_boat"], [], []⟩
def ir_weeks_between : IB := (.cons (.ex (.call 3 (.cons (.v 0) .nil))) (.cons (.ex (.call 2 (.cons (.v 0) (.cons (.v 1) .nil)))) (.cons (.ex (.call 1 (.cons (.v 2) .nil))) (.cons (.iff (.cmp .LtE (.v 3) (.v 2)) (.cons (.ret (.int 0)) .nil) .nil) (.cons (.ret (.bin .Sub (.call 0 (.cons (.v 0) (.cons (.v 1) (.cons (.v 3) .nil)))) (.call 0 (.cons (.v 0) (.cons (.v 1) (.cons (.v 2) .nil)))))) .nil)))))
def nm_next_week : Nm := ⟨["boat", "part", "week", "year", "some", "one"], ["weeks_in", "need_least", "need_part", "need_boat"], [], []⟩
def ir_next_week : IB := (.cons (.ex (.call 3 (.cons (.v 0) .nil))) (.cons (.ex (.call 2 (.cons (.v 0) (.cons (.v 1) .nil)))) (.cons (.ex (.call 1 (.cons (.v 2) .nil))) (.cons (.asg (.v 3) (.bin .FloorDiv (.v 2) (.subv 0 (.int 0)))) (.cons (.whl (.bl true) (.cons (.ownc 4 (.lcif 5 (.call 0 (.cons (.v 0) (.cons (.v 1) (.cons (.v 3) .nil)))) (.cmp .GtE (.v 5) (.v 2)) (.v 5))) (.cons (.iff (.cmp .NotEq (.v 4) (.lst .nil)) (.cons (.ret (.subv 4 (.int 0))) .nil) .nil) (.cons (.aug 3 .Add (.int 1)) .nil)))) .nil)))))
def nm_law_well : Nm := ⟨["script", "k", "cell", "primes", "seed"], [], [], []⟩
def ir_law_well : IB := (.cons (.asg (.v 2) (.int 0)) (.cons (.iff (.cmp .Lt (.v 1) (.lenv 0)) (.cons (.asg (.v 2) (.subv 0 (.v 1))) .nil) .nil) (.cons (.asg (.v 3) (.lst (.cons (.int 2147483647) (.cons (.int 2147483629) (.cons (.int 2147483587) (.cons (.int 2147483579) (.cons (.int 2147483563) (.cons (.int 2147483549) (.cons (.int 2147483543) (.cons (.int 2147483497) .nil)))))))))) (.cons (.asg (.v 4) (.bin .Mod (.bin .Mult (.bin .Add (.bin .Mod (.v 2) (.int 2147483489)) (.int 1)) (.bin .Add (.int 48271) (.bin .Mult (.int 2) (.v 1)))) (.int 2147483489))) (.cons (.asg (.v 4) (.bin .Add (.bin .Add (.bin .Mod (.bin .Mult (.v 4) (.v 4)) (.int 2147483477)) (.v 1)) (.int 1))) (.cons (.iff (.cmp .GtE (.v 2) (.bin .Pow (.int 10) (.int 18))) (.cons (.retf (.lst (.cons (.v 2) (.cons (.v 4) (.cons (.subv 3 (.bin .Mod (.v 1) (.int 8))) .nil))))) .nil) .nil) (.cons (.retf (.lst (.cons (.int 0) (.cons (.v 4) (.cons (.subv 3 (.bin .Mod (.v 1) (.int 8))) .nil))))) .nil)))))))
def nm_law_take : Nm := ⟨["well", "many", "got"], [], [], []⟩
def ir_law_take : IB := (.cons (.iff (.cmp .Gt (.subv 0 (.int 0)) (.int 0)) (.cons (.asg (.v 2) (.bin .Mod (.subv 0 (.int 0)) (.v 1))) (.cons (.seto 0 (.int 0) (.bin .FloorDiv (.subv 0 (.int 0)) (.v 1))) (.cons (.ret (.v 2)) .nil))) .nil) (.cons (.seto 0 (.int 1) (.bin .Add (.bin .Mod (.bin .Mult (.subv 0 (.int 1)) (.int 48271)) (.subv 0 (.int 2))) (.int 1))) (.cons (.ret (.bin .Mod (.bin .FloorDiv (.bin .Mod (.bin .Mult (.subv 0 (.int 1)) (.subv 0 (.int 1))) (.int 2147483423)) (.int 7)) (.v 1))) .nil)))
def nm_law_name : Nm := ⟨["well", "signs", "many", "k"], ["_law_take"], [], []⟩
def ir_law_name : IB := (.cons (.asg (.v 1) (.str "abcdefghijklmnopqrstuvwxyz")) (.cons (.asg (.v 2) (.sub (.lst (.cons (.int 1) (.cons (.int 1) (.cons (.int 2) (.cons (.int 8) .nil))))) (.calli 0 0 (.cons (.int 4) .nil)))) (.cons (.ret (.join "" (.lcs 3 (.rng (.v 2)) (.subv 1 (.calli 0 0 (.cons (.int 26) .nil)))))) .nil)))
def nm_law_boat : Nm := ⟨["well", "most", "weeks", "laid", "week", "some", "k", "owners", "hours"], ["_law_take", "_law_name"], [], []⟩
def ir_law_boat : IB := (.cons (.asg (.v 2) (.bin .Add (.int 2) (.calli 0 0 (.cons (.sub (.lst (.cons (.bin .Sub (.v 1) (.int 1)) (.cons (.b2 .min (.int 6) (.bin .Sub (.v 1) (.int 1))) .nil))) (.calli 0 0 (.cons (.int 2) .nil))) .nil)))) (.cons (.ownc 3 (.lcsif 4 (.rng (.v 2)) (.cmp .Eq (.calli 0 0 (.cons (.int 4) .nil)) (.int 0)) (.v 4))) (.cut (.iff (.cmp .Eq (.lenv 3) (.v 2)) (.cons (.ex (.popa 3 (.calli 0 0 (.cons (.v 2) .nil)))) .nil) .nil) (.cons (.own 5 (.lcs 6 (.rng (.bin .Add (.int 1) (.calli 0 0 (.cons (.int 4) .nil)))) (.calli 1 0 .nil))) (.cons (.ownc 7 (.lcs 6 (.rng (.bin .Add (.int 1) (.calli 0 0 (.cons (.sub (.lst (.cons (.int 4) (.cons (.int 12) .nil))) (.calli 0 0 (.cons (.int 2) .nil))) .nil)))) (.subv 5 (.calli 0 0 (.cons (.lenv 5) .nil))))) (.cons (.asg (.v 8) (.sub (.lst (.cons (.int 0) (.cons (.calli 0 0 (.cons (.int 60) .nil)) (.cons (.calli 0 0 (.cons (.bin .Add (.bin .Pow (.int 10) (.int 6)) (.int 1)) .nil)) .nil)))) (.calli 0 0 (.cons (.int 3) .nil)))) (.cons (.ret (.tup (.cons (.v 2) (.cons (.b1 .tup (.v 3)) (.cons (.b1 .tup (.v 7)) (.cons (.v 8) .nil)))))) .nil)))))))
def nm_law_round_right : Nm := ⟨["boat", "year", "parts", "place", "some", "k"], ["turn_of"], [], []⟩
def ir_law_round_right : IB := (.cons (.asg (.v 2) (.b1 .len (.subv 0 (.int 2)))) (.cons (.for_ (.v 3) (.rng (.subv 0 (.int 0))) (.cons (.ownc 4 (.lc 5 (.rng (.v 2)) (.call 0 (.cons (.v 0) (.cons (.bin .Add (.bin .Mult (.bin .Add (.v 1) (.v 5)) (.subv 0 (.int 0))) (.v 3)) .nil))))) (.cons (.iff (.and (.cmp .In (.v 3) (.subv 0 (.int 1))) (.one (.cmp .NotEq (.v 4) (.bin .Mult (.lst (.cons .non .nil)) (.v 2))))) (.cons (.ret (.bl false)) .nil) .nil) (.cons (.iff (.and (.cmp .NotIn (.v 3) (.subv 0 (.int 1))) (.one (.or (.cmp .In .non (.v 4)) (.one (.cmp .NotEq (.srt (.v 4)) (.lrng1 (.v 2))))))) (.cons (.ret (.bl false)) .nil) .nil) .nil)))) (.cons (.ret (.bl true)) .nil)))
def nm_law_counts_right : Nm := ⟨["well", "boat", "first", "parts", "last", "amid", "counts", "part", "some", "laid", "place"], ["weeks_between", "_law_take"], [], []⟩
def ir_law_counts_right : IB := (.cons (.asg (.v 3) (.b1 .len (.subv 1 (.int 2)))) (.cons (.asg (.v 4) (.bin .Add (.v 2) (.sub (.lst (.cons (.calli 1 0 (.cons (.int 200) .nil)) (.cons (.calli 1 0 (.cons (.bin .Pow (.int 10) (.int 18)) .nil)) .nil))) (.calli 1 0 (.cons (.int 2) .nil))))) (.cut (.asg (.v 5) (.bin .Add (.v 2) (.calli 1 0 (.cons (.bin .Add (.bin .Sub (.v 4) (.v 2)) (.int 1)) .nil)))) (.cons (.ownc 6 (.lc 7 (.rng (.v 3)) (.call 0 (.cons (.v 1) (.cons (.v 7) (.cons (.v 2) (.cons (.v 4) .nil))))))) (.cons (.for_ (.v 7) (.rng (.v 3)) (.cons (.asg (.v 8) (.bin .Add (.call 0 (.cons (.v 1) (.cons (.v 7) (.cons (.v 2) (.cons (.v 5) .nil))))) (.call 0 (.cons (.v 1) (.cons (.v 7) (.cons (.v 5) (.cons (.v 4) .nil))))))) (.cons (.iff (.or (.cmp .NotEq (.v 8) (.subv 6 (.v 7))) (.one (.cmp .NotEq (.call 0 (.cons (.v 1) (.cons (.v 7) (.cons (.v 4) (.cons (.v 2) .nil))))) (.int 0)))) (.cons (.ret (.bl false)) .nil) .nil) .nil))) (.cons (.asg (.v 9) (.int 0)) (.cons (.for_ (.v 10) (.subv 1 (.int 1)) (.cons (.asg (.v 9) (.bin .Add (.v 9) (.bin .FloorDiv (.bin .Sub (.bin .Sub (.v 4) (.v 10)) (.int 1)) (.subv 1 (.int 0))))) (.cons (.asg (.v 9) (.bin .Sub (.v 9) (.bin .FloorDiv (.bin .Sub (.bin .Sub (.v 2) (.v 10)) (.int 1)) (.subv 1 (.int 0))))) .nil))) (.cons (.ret (.cmp .Eq (.bin .Add (.b1 .sum (.v 6)) (.v 9)) (.bin .Sub (.v 4) (.v 2)))) .nil))))))))
def nm_law : Nm := ⟨["script", "k", "well", "boat", "parts", "year", "week", "counts", "part", "there"], ["weeks_between", "turn_of", "next_week", "_law_take", "weeks_of", "_law_counts_right", "_law_round_right", "_law_boat", "_law_well"], [], []⟩
def ir_law : IB := (.cons (.for_ (.v 1) (.rng (.b2 .max (.int 1) (.b2 .min (.int 12) (.lenv 0)))) (.cons (.own 2 (.callq 8 0 (.cons (.v 1) .nil))) (.cons (.asg (.v 3) (.calli 7 2 (.cons (.int 52) .nil))) (.cons (.asg (.v 4) (.b1 .len (.subv 3 (.int 2)))) (.cons (.asg (.v 5) (.sub (.lst (.cons (.int 0) (.cons (.calli 3 2 (.cons (.int 99) .nil)) (.cons (.calli 3 2 (.cons (.bin .Pow (.int 10) (.int 17)) .nil)) .nil)))) (.calli 3 2 (.cons (.int 3) .nil)))) (.cons (.iff (.not (.call 6 (.cons (.v 3) (.cons (.v 5) .nil)))) (.cons (.ret (.bl false)) .nil) .nil) (.cut (.asg (.v 6) (.bin .Add (.bin .Mult (.v 5) (.subv 3 (.int 0))) (.calli 3 2 (.cons (.subv 3 (.int 0)) .nil)))) (.cut (.iff (.cmp .NotEq (.call 1 (.cons (.v 3) (.cons (.v 6) .nil))) (.call 1 (.cons (.v 3) (.cons (.bin .Add (.v 6) (.bin .Mult (.bin .Mult (.v 4) (.subv 3 (.int 0))) (.bin .Add (.int 1) (.calli 3 2 (.cons (.bin .Pow (.int 10) (.int 9)) .nil))))) .nil)))) (.cons (.ret (.bl false)) .nil) .nil) (.cons (.iff (.not (.calli 5 2 (.cons (.v 3) (.cons (.v 6) .nil)))) (.cons (.ret (.bl false)) .nil) .nil) (.cut (.ownc 7 (.lc 8 (.rng (.v 4)) (.b1 .len (.call 4 (.cons (.v 3) (.cons (.v 8) (.cons (.v 5) .nil))))))) (.cons (.iff (.or (.cmp .Gt (.bin .Sub (.b1 .max (.v 7)) (.b1 .min (.v 7))) (.int 1)) (.one (.cmp .NotEq (.b1 .sum (.v 7)) (.bin .Sub (.subv 3 (.int 0)) (.b1 .len (.subv 3 (.int 1))))))) (.cons (.ret (.bl false)) .nil) .nil) (.cons (.asg (.v 8) (.calli 3 2 (.cons (.v 4) .nil))) (.cons (.asg (.v 9) (.call 2 (.cons (.v 3) (.cons (.v 8) (.cons (.v 6) .nil))))) (.cons (.iff (.or (.cmp .Lt (.v 9) (.v 6)) (.or (.cmp .NotEq (.call 1 (.cons (.v 3) (.cons (.v 9) .nil))) (.v 8)) (.one (.cmp .NotEq (.call 0 (.cons (.v 3) (.cons (.v 8) (.cons (.v 6) (.cons (.v 9) .nil))))) (.int 0))))) (.cons (.ret (.bl false)) .nil) .nil) .nil)))))))))))))) (.cons (.ret (.bl true)) .nil))
end M
namespace M
open PySem PySem.Spec L2 PyProof.Rows KJ
def S_round : Sd := fun ds Φ => ∃ (b : Boat) (i : Int), ds = [b.toD, .int i] ∧ b.Ok ∧ 0 ≤ i ∧ Φ (.d (.bool true))
def S_counts : Si := fun w ds Φ => Wl w ∧ ∃ (b : Boat) (i : Int), ds = [b.toD, .int i] ∧ b.Ok ∧ 0 ≤ i ∧ ∀ w', Wl w' → Φ (.d (.bool true)) w'
end M
namespace M
open PySem PySem.Spec L2 PyProof.Rows KJ
theorem ok_is_name {M : Md} (nb : NoB M.mg) (D : Df M "is_name" s_is_name []) (G_SMALL : Gk M.K M.mg "SMALL" (.str abc)) (G_MOST_NAME : Gk M.K M.mg "MOST_NAME" (.int 8)) : Fo M "is_name" 1 1 (fun K n => spD K n S_is_name) [] := by
  obtain ⟨f, fd, hx, F⟩ := D
  refine fo_k (tb := ⟨[], [("SMALL", .str abc), ("MOST_NAME", .int 8)], []⟩) (hs := []) (nm := nm_is_name) (ps := ["thing"]) ir_is_name F hx (by exact "sc") nb rfl (tbOk trivial ⟨G_SMALL, G_MOST_NAME, trivial⟩ trivial) hs0 (by kernel_rfl) (F.bindsN fun _ _ _ _ _ _ us hl => match us, hl with | [_], _ => rfl) .nil (fun _ => .nil) (fun ds Φ hl hS => ?_)
  unfold S_is_name at hS
  split at hS
  · rename_i d
    obtain ⟨hn, hS⟩ := hS
    cases d with
    | str x =>
      have hx := line1k (nic_str hn)
      have hx2 := nic_str hn
      have fin : ∀ b, isName (.str x) = b → Φ (.d (.bool b)) := fun b e => by rw [← e]; exact hS
      exact "w"
      all_goals try (refine fin _ ?_; clear fin hS; simp_all [isName]; (try omega); done)
      refine lc0_m x.cps.toList (fun c => .str ⟨#[c]⟩) (fun c => .bool (subStr ⟨#[c]⟩ abc)) (by rw [strlen]; omega) (fun c _ => ?_) ?_
      · exact "w"
      · exact "w"
        rw [all_tru]
        refine fin _ ?_
        clear fin hS
        simp_all [isName]
      all_goals (refine fin _ ?_; clear fin hS; simp_all [isName]; try omega)
    | _ => exact "w"; all_goals exact hS
  · exact hS.elim

end M
namespace M
open PySem PySem.Spec L2 PyProof.Rows KJ
theorem ok_is_whole {M : Md} (nb : NoB M.mg) (D : Df M "is_whole" s_is_whole [])  : Fo M "is_whole" 1 3 (fun K n => spD K n S_is_whole) [] := by
  obtain ⟨f, fd, hx, F⟩ := D
  refine fo_k (tb := ⟨[], [], []⟩) (hs := []) (nm := nm_is_whole) (ps := ["thing", "low", "high"]) ir_is_whole F hx (by exact "sc") nb rfl (tbOk trivial trivial trivial) hs0 (by kernel_rfl) (F.bindsN fun _ _ _ _ _ _ us hl => match us, hl with | [_, _, _], _ => rfl) .nil (fun _ => .nil) (fun ds Φ hl hS => ?_)
  unfold S_is_whole at hS
  split at hS
  · rename_i d lo hi
    have fin : ∀ b, isWhole d lo hi = b → Φ (.d (.bool b)) := fun b e => by rw [← e]; exact hS
    cases d with
    | int i =>
      exact "w"
      all_goals (refine fin _ ?_; clear fin hS; simp_all [isWhole]; try omega)
    | _ => exact "w"; all_goals exact hS
  · exact hS.elim

end M
namespace M
open PySem PySem.Spec L2 PyProof.Rows KJ
theorem ok_is_laid {M : Md} (nb : NoB M.mg) (D : Df M "is_laid" s_is_laid []) (F_is_whole : Fo M "is_whole" 1 3 (fun K n => spD K n S_is_whole) []) : Fo M "is_laid" 2 2 (fun K n => spD K n S_is_laid) [] := by
  obtain ⟨f, fd, hx, F⟩ := D
  refine fo_k (tb := ⟨[("is_whole", .d 3 S_is_whole [])], [], []⟩) (hs := []) (nm := nm_is_laid) (ps := ["thing", "weeks"]) ir_is_laid F hx (by exact "sc") nb rfl (tbOk ⟨⟨1, by decide, F_is_whole⟩, trivial⟩ trivial trivial) hs0 (by kernel_rfl) (F.bindsN fun _ _ _ _ _ _ us hl => match us, hl with | [_, _], _ => rfl) .nil (fun _ => .nil) (fun ds Φ hl hS => ?_)
  unfold S_is_laid at hS
  split at hS
  · rename_i d w
    obtain ⟨hn, hS⟩ := hS
    have fin : ∀ b, isLaid d w = b → Φ (.d (.bool b)) := fun b e => by rw [← e]; exact hS
    cases d with
    | tuple xs =>
      obtain ⟨hl1, hl2⟩ := nic_tup hn
      exact "w"
      all_goals try (refine fin _ ?_; clear fin hS; simp_all [isLaid]; (try omega); done)
      refine lc0_d (fun z => .bool (isWhole z 0 (w - 1))) (by omega) (fun z _ => ?_) ?_
      · exact "w"
      exact "w"
      · rename_i h0 hz
        rw [all_tru] at hz
        refine fin _ ?_
        show (_ && (_ && _)) = false
        rw [not_t hz]
        simp
      all_goals rename_i h1 h0 hz
      all_goals try omega
      rw [all_tru] at hz
      have hz := not_f hz
      have hi : ∀ (k : Nat) z, xs[k]? = some z → ∃ i, z = .int i := fun k z hz2 => by
        obtain ⟨i, e, _⟩ := isWhole_int (List.all_eq_true.mp hz z (List.mem_of_getElem? hz2))
        exact ⟨i, e⟩
      refine lc0_m (List.range ((xs.length : Int) - 1).toNat) (fun k : Nat => .int k) (fun k => .bool (ltD (xs.getD k .none) (xs.getD (k + 1) .none))) (by rw [List.length_range]; omega) (fun k hk => ?_) ?_
      · have hk := List.mem_range.mp hk
        have k1 : k < xs.length := by omega
        have k2 : k + 1 < xs.length := by omega
        obtain ⟨i1, e1⟩ := hi k _ (List.getElem?_eq_getElem k1)
        obtain ⟨i2, e2⟩ := hi (k + 1) _ (List.getElem?_eq_getElem k2)
        have q1 : xs[k]? = some (.int i1) := by rw [List.getElem?_eq_getElem k1, e1]
        have q2 : xs[k + 1]? = some (.int i2) := by rw [List.getElem?_eq_getElem k2, e2]
        exact "w"
        refine at_get (by omega) (z := .int i1) (by simpa using q1) ?_
        exact "w"
        refine at_get (by omega) (z := .int i2) (by rw [show ((k : Int) + 1).toNat = k + 1 by omega]; exact q2) ?_
        exact "w"
        rw [List.getD_eq_getElem?_getD, List.getD_eq_getElem?_getD, q1, q2]
        rfl
      · exact "w"
        rw [all_tru]
        refine fin _ ?_
        have h0 : decide ((xs.length : Int) < w) = true := decide_eq_true (by have := of_decide_eq_false h0; omega)
        show (_ && (_ && _)) = _
        rw [hz, h0]
        rfl
    | _ => exact "w"; all_goals exact hS
  · exact hS.elim

end M
namespace M
open PySem PySem.Spec L2 PyProof.Rows KJ
theorem ok_is_boat {M : Md} (nb : NoB M.mg) (D : Df M "is_boat" s_is_boat []) (G_MOST_PARTS : Gk M.K M.mg "MOST_PARTS" (.int 12)) (G_MOST_HOURS : Gk M.K M.mg "MOST_HOURS" (.int 1000000)) (G_MOST_WEEKS : Gk M.K M.mg "MOST_WEEKS" (.int 52)) (F_is_name : Fo M "is_name" 1 1 (fun K n => spD K n S_is_name) []) (F_is_whole : Fo M "is_whole" 1 3 (fun K n => spD K n S_is_whole) []) (F_is_laid : Fo M "is_laid" 2 2 (fun K n => spD K n S_is_laid) []) : Fo M "is_boat" 3 1 (fun K n => spD K n S_is_boat) [] := by
  obtain ⟨f, fd, hx, F⟩ := D
  refine fo_k (tb := ⟨[("is_name", .d 1 S_is_name []), ("is_whole", .d 3 S_is_whole []), ("is_laid", .d 2 S_is_laid [])], [("MOST_PARTS", .int 12), ("MOST_HOURS", .int 1000000), ("MOST_WEEKS", .int 52)], []⟩) (hs := []) (nm := nm_is_boat) (ps := ["thing"]) ir_is_boat F hx (by exact "sc") nb rfl (tbOk ⟨⟨1, by decide, F_is_name⟩, ⟨1, by decide, F_is_whole⟩, ⟨2, by decide, F_is_laid⟩, trivial⟩ ⟨G_MOST_PARTS, G_MOST_HOURS, G_MOST_WEEKS, trivial⟩ trivial) hs0 (by kernel_rfl) (F.bindsN fun _ _ _ _ _ _ us hl => match us, hl with | [_], _ => rfl) .nil (fun _ => .nil) (fun ds Φ hl hS => ?_)
  unfold S_is_boat at hS
  split at hS
  · rename_i d
    obtain ⟨hn, hS⟩ := hS
    have fin : ∀ b, isBoat d = b → Φ (.d (.bool b)) := fun b e => by rw [← e]; exact hS
    cases d with
    | tuple xs =>
      obtain ⟨hl1, hl2⟩ := nic_tup hn
      by_cases h4 : xs.length = 4
      · match xs, h4 with
        | [w, l, o, h], _ =>
          have hnl : nic 9 l = true := hl2 l (by simp)
          have hno : nic 9 o = true := hl2 o (by simp)
          exact "w"
          rotate_left
          · rename_i hw
            refine fin _ ?_
            cases w <;> first | rfl | (show (_ && _) = false; rw [show isWhole _ 2 52 = false from not_t hw]; rfl)
          rename_i hw
          obtain ⟨n, rfl, hn1, hn2⟩ := isWhole_int (not_f hw)
          have key : isBoat (.tuple [.int n, l, o, h]) = (isWhole (.int n) 2 52 && (isLaid l n && (isWhole h 0 1000000 && ownB o))) := rfl
          clear hS
          exact "w"
          all_goals try (refine fin _ ?_; clear fin; cases o <;> simp_all [isT, isTupD, ownB]; done)
          have a1 : isLaid l n = true := not_f ‹_›
          have a2 : isWhole h 0 1000000 = true := not_f ‹_›
          have a3 : isTupD o = true := not_f (b := isT .tup o) ‹_›
          obtain ⟨os, rfl⟩ := tup_ex a3
          obtain ⟨ho1, ho2⟩ := nic_tup hno
          rw [not_f hw, a1, a2] at key
          replace key : isBoat (.tuple [.int n, l, .tuple os, h]) = (decide ((1 : Int) ≤ os.length) && (decide ((os.length : Int) ≤ 12) && os.all isName)) := key
          exact "w"
          all_goals try (refine fin _ ?_; clear fin; simp_all; (try omega); done)
          refine lc0_d (fun z => .bool (isName z)) (by omega) (fun z hz => ?_) ?_
          · have hz9 : nic 9 z = true := nic_up (by decide) (ho2 z hz)
            exact "w"
          · exact "w"
            rw [all_tru]
            refine fin _ ?_
            clear fin
            simp_all
      · exact "w"
        · exact fin _ (isBoat_len h4)
        all_goals
          rename_i hz
          exfalso
          have := of_decide_eq_true (not_f hz)
          omega
    | _ => exact "w"; all_goals exact fin _ rfl
  · exact hS.elim

end M
namespace M
open PySem PySem.Spec L2 PyProof.Rows KJ
theorem ok_need_boat {M : Md} (nb : NoB M.mg) (D : Df M "need_boat" s_need_boat []) (X_NoBoat : XcK M.K M.mg "NoBoat" (He.ga M.K "NoBoat")) (F_is_boat : Fo M "is_boat" 3 1 (fun K n => spD K n S_is_boat) []) : Fo M "need_boat" 4 1 (fun K n => spD K n (S_need_boat (He.ga M.K "NoBoat"))) [] := by
  obtain ⟨f, fd, hx, F⟩ := D
  refine fo_k (tb := ⟨[("is_boat", .d 1 S_is_boat [])], [], [("NoBoat", (He.ga M.K "NoBoat"))]⟩) (hs := []) (nm := nm_need_boat) (ps := ["thing"]) ir_need_boat F hx (by exact "sc") nb rfl (tbOk ⟨⟨3, by decide, F_is_boat⟩, trivial⟩ trivial ⟨X_NoBoat, trivial⟩) hs0 (by kernel_rfl) (F.bindsN fun _ _ _ _ _ _ us hl => match us, hl with | [_], _ => rfl) .nil (fun _ => .nil) (fun ds Φ hl hS => ?_)
  unfold S_need_boat at hS
  split at hS
  · rename_i d
    obtain ⟨hn, h1, h2⟩ := hS
    exact "w"
    · rename_i hz; exact h2 (not_t hz)
    · rename_i hz; exact h1 (not_f hz)
  · exact hS.elim

end M
namespace M
open PySem PySem.Spec L2 PyProof.Rows KJ
theorem ok_parts_in {M : Md} (nb : NoB M.mg) (D : Df M "parts_in" s_parts_in [])  : Fo M "parts_in" 1 1 (fun K n => spD K n S_parts_in) [] := by
  obtain ⟨f, fd, hx, F⟩ := D
  refine fo_k (tb := ⟨[], [], []⟩) (hs := []) (nm := nm_parts_in) (ps := ["boat"]) ir_parts_in F hx (by exact "sc") nb rfl (tbOk trivial trivial trivial) hs0 (by kernel_rfl) (F.bindsN fun _ _ _ _ _ _ us hl => match us, hl with | [_], _ => rfl) .nil (fun _ => .nil) (fun ds Φ hl hS => ?_)
  unfold S_parts_in at hS
  split at hS
  · exact "w"
    all_goals exact hS
  · exact hS.elim

end M
namespace M
open PySem PySem.Spec L2 PyProof.Rows KJ
theorem ok_need_part {M : Md} (nb : NoB M.mg) (D : Df M "need_part" s_need_part []) (X_NoPart : XcK M.K M.mg "NoPart" (He.ga M.K "NoPart")) (F_parts_in : Fo M "parts_in" 1 1 (fun K n => spD K n S_parts_in) []) : Fo M "need_part" 2 2 (fun K n => spD K n (S_need_part (He.ga M.K "NoPart"))) [] := by
  obtain ⟨f, fd, hx, F⟩ := D
  refine fo_k (tb := ⟨[("parts_in", .d 1 S_parts_in [])], [], [("NoPart", (He.ga M.K "NoPart"))]⟩) (hs := []) (nm := nm_need_part) (ps := ["boat", "part"]) ir_need_part F hx (by exact "sc") nb rfl (tbOk ⟨⟨1, by decide, F_parts_in⟩, trivial⟩ trivial ⟨X_NoPart, trivial⟩) hs0 (by kernel_rfl) (F.bindsN fun _ _ _ _ _ _ us hl => match us, hl with | [_, _], _ => rfl) .nil (fun _ => .nil) (fun ds Φ hl hS => ?_)
  obtain ⟨b, i, rfl, h1, h2⟩ := hS
  have hp : (b.own.map PyData.str).length = b.parts := List.length_map _
  exact "w"
  all_goals simp only [decide_eq_true_eq, decide_eq_false_iff_not, hp] at *
  all_goals first | exact h1 ⟨by omega, by omega⟩ | exact h2 (by omega)

end M
namespace M
open PySem PySem.Spec L2 PyProof.Rows KJ
theorem any_need_least {M : Md} (nb : NoB M.mg) {f : Addr} {fd : FuncData} {ds : List Value} {dv : List V} {dl : List Pd} (hx : M.mg "need_least" = some (.ref f)) (F : FunD M.K "need_least" "need_least" (defArgs s_need_least) (defBody s_need_least) (defScope s_need_least) [.int 0] [] f fd) (hb : Binds M.K fd ["number", "least"] ds) (hd : Vals dv ds) (hl : ∀ G, RpA M.K G dv dl) (X_NoNumber : XcK M.K M.mg "NoNumber" (He.ga M.K "NoNumber")) : Fo M "need_least" 1 2 (fun K n => spD K n (S_need_least (He.ga M.K "NoNumber"))) dl := by
  refine fo_k (tb := ⟨[], [], [("NoNumber", (He.ga M.K "NoNumber"))]⟩) (hs := []) (nm := nm_need_least) (ps := ["number", "least"]) ir_need_least F hx (by exact "sc") nb rfl (tbOk trivial trivial ⟨X_NoNumber, trivial⟩) hs0 (by kernel_rfl) hb hd hl (fun ds Φ hl hS => ?_)
  unfold S_need_least at hS
  split at hS
  · obtain ⟨h1, h2⟩ := hS
    exact "w"
    · rename_i hz; exact h1 (of_decide_eq_true hz)
    · rename_i hz; exact h2 (by have := of_decide_eq_false hz; omega)
  · exact hS.elim
theorem ok_need_least {M : Md} (nb : NoB M.mg) (D : Df M "need_least" s_need_least [.int 0]) (X_NoNumber : XcK M.K M.mg "NoNumber" (He.ga M.K "NoNumber")) : Fo M "need_least" 1 2 (fun K n => spD K n (S_need_least (He.ga M.K "NoNumber"))) [] := by
  obtain ⟨f, fd, hx, F⟩ := D
  obtain ⟨dz, hd, hb⟩ := F.binds1 (ps := ["number", "least"]) 2 1 (by simp) rfl (fun _ _ _ _ _ _ _ us its hl hl2 => match us, hl, its, hl2 with | [_, _], _, [_], _ => ⟨_, rfl, rfl⟩)
  exact any_need_least nb hx F hb hd (fun _ => .nil) X_NoNumber
theorem ok_need_least_d {M : Md} (nb : NoB M.mg) (D : Df M "need_least" s_need_least [.int 0]) (X_NoNumber : XcK M.K M.mg "NoNumber" (He.ga M.K "NoNumber")) : Fo M "need_least" 1 2 (fun K n => spD K n (S_need_least (He.ga M.K "NoNumber"))) [.int 0] := by
  obtain ⟨f, fd, hx, F⟩ := D
  obtain ⟨dz, hd, hb⟩ := F.binds1 (ps := ["number", "least"]) 1 0 (by simp) rfl (fun _ _ _ _ _ _ _ us its hl hl2 => match us, hl, its, hl2 with | [_], _, [_], _ => ⟨_, rfl, rfl⟩)
  exact any_need_least nb hx F hb hd (fun _ => .cons (.int 0) .nil) X_NoNumber
end M
namespace M
open PySem PySem.Spec L2 PyProof.Rows KJ
theorem ok_sailing {M : Md} (nb : NoB M.mg) (D : Df M "sailing" s_sailing [])  : Fo M "sailing" 1 1 (fun K n => spD K n S_sailing) [] := by
  obtain ⟨f, fd, hx, F⟩ := D
  refine fo_k (tb := ⟨[], [], []⟩) (hs := []) (nm := nm_sailing) (ps := ["boat"]) ir_sailing F hx (by exact "sc") nb rfl (tbOk trivial trivial trivial) hs0 (by kernel_rfl) (F.bindsN fun _ _ _ _ _ _ us hl => match us, hl with | [_], _ => rfl) .nil (fun _ => .nil) (fun ds Φ hl hS => ?_)
  obtain ⟨b, rfl, hb, hS⟩ := hS
  have hw := hb.w52
  exact "w"
  refine lc1_m (List.range b.w) natD natD (fun p => !b.laid.contains p) (by rw [List.length_range]; omega) (fun p _ => ?_) ?_
  · exact "w"
    refine in_nats ?_
    exact "w"
  · exact "w"
    exact hS

end M
namespace M
open PySem PySem.Spec L2 PyProof.Rows KJ
theorem ok_turn_in {M : Md} (nb : NoB M.mg) (D : Df M "turn_in" s_turn_in []) (F_parts_in : Fo M "parts_in" 1 1 (fun K n => spD K n S_parts_in) []) : Fo M "turn_in" 2 2 (fun K n => spD K n S_turn_in) [] := by
  obtain ⟨f, fd, hx, F⟩ := D
  refine fo_k (tb := ⟨[("parts_in", .d 1 S_parts_in [])], [], []⟩) (hs := []) (nm := nm_turn_in) (ps := ["boat", "week"]) ir_turn_in F hx (by exact "sc") nb rfl (tbOk ⟨⟨1, by decide, F_parts_in⟩, trivial⟩ trivial trivial) hs0 (by kernel_rfl) (F.bindsN fun _ _ _ _ _ _ us hl => match us, hl with | [_, _], _ => rfl) .nil (fun _ => .nil) (fun ds Φ hl hS => ?_)
  obtain ⟨b, i, rfl, k, rfl, hb, hS⟩ := hS
  have hw := hb.w52
  have hw2 := hb.w2
  have hp : (b.own.map PyData.str).length = b.parts := List.length_map _
  have hp1 : 1 ≤ b.parts := hb.o1
  have hl2 : b.laid.length ≤ 1000 := by have := hb.few; omega
  have em : ((k : Int) % (b.w : Int)) = ((k % b.w : Nat) : Int) := rfl
  have ed : ((k : Int) / (b.w : Int)) = ((k / b.w : Nat) : Int) := rfl
  exact "w"
  refine in_nats (i := k % b.w) ?_
  exact "w"
  · rename_i hz
    have : b.turn k = none := if_pos hz
    rw [this] at hS
    exact hS
  rename_i hz
  refine lc1_m b.laid natD natD (fun x => decide (x < k % b.w)) (by omega) (fun x _ => ?_) ?_
  · exact "w"
    show decide _ = decide _
    exact decide_eq_decide.mpr (by omega) --k
  exact "w"
  have e : b.turn k = some ((k % b.w - less b.laid (k % b.w) + k / b.w) % b.parts) := if_neg (by rw [hz]; decide)
  rw [e] at hS
  have hle := less_le hb (k % b.w)
  have : (((k : Int) % (b.w : Int)) - (((b.laid.filter fun x => decide (x < k % b.w)).map natD).length : Int) + (k : Int) / (b.w : Int)) % ((b.own.map PyData.str).length : Int) = (((k % b.w - less b.laid (k % b.w) + k / b.w) % b.parts : Nat) : Int) := by
    rw [hp, List.length_map]
    have z : ((k % b.w : Nat) : Int) - ((less b.laid (k % b.w) : Nat) : Int) + ((k / b.w : Nat) : Int) = ((k % b.w - less b.laid (k % b.w) + k / b.w : Nat) : Int) := by omega
    show (((k % b.w : Nat) : Int) - ((less b.laid (k % b.w) : Nat) : Int) + ((k / b.w : Nat) : Int)) % (b.parts : Int) = _
    rw [z]
    rfl
  rw [this]
  exact hS

end M
namespace M
open PySem PySem.Spec L2 PyProof.Rows KJ
theorem ok_turn_of {M : Md} (nb : NoB M.mg) (D : Df M "turn_of" s_turn_of []) (F_turn_in : Fo M "turn_in" 2 2 (fun K n => spD K n S_turn_in) []) (F_need_least_d : Fo M "need_least" 1 2 (fun K n => spD K n (S_need_least (He.ga M.K "NoNumber"))) [.int 0]) (F_need_boat : Fo M "need_boat" 4 1 (fun K n => spD K n S_boat_ok) []) : Fo M "turn_of" 5 2 (fun K n => spD K n (S_turn_of (He.ga M.K "NoNumber"))) [] := by
  obtain ⟨f, fd, hx, F⟩ := D
  refine fo_k (tb := ⟨[("turn_in", .d 2 S_turn_in []), ("need_least", .d 2 (S_need_least (He.ga M.K "NoNumber")) [.int 0]), ("need_boat", .d 1 S_boat_ok [])], [], []⟩) (hs := []) (nm := nm_turn_of) (ps := ["boat", "week"]) ir_turn_of F hx (by exact "sc") nb rfl (tbOk ⟨⟨2, by decide, F_turn_in⟩, ⟨1, by decide, F_need_least_d⟩, ⟨4, by decide, F_need_boat⟩, trivial⟩ trivial trivial) hs0 (by kernel_rfl) (F.bindsN fun _ _ _ _ _ _ us hl => match us, hl with | [_, _], _ => rfl) .nil (fun _ => .nil) (fun ds Φ hl hS => ?_)
  obtain ⟨b, i, rfl, hb, h1, h2⟩ := hS
  exact "w"
  · rename_i hz; exact h2 hz
  · rename_i hz
    obtain ⟨k, rfl⟩ := Int.eq_ofNat_of_zero_le hz
    exact ⟨k, rfl, hb, h1 k rfl⟩

end M
namespace M
open PySem PySem.Spec L2 PyProof.Rows KJ
theorem ok_weeks_in {M : Md} (nb : NoB M.mg) (D : Df M "weeks_in" s_weeks_in []) (F_turn_in : Fo M "turn_in" 2 2 (fun K n => spD K n S_turn_in) []) : Fo M "weeks_in" 3 3 (fun K n => spD K n S_weeks_in) [] := by
  obtain ⟨f, fd, hx, F⟩ := D
  refine fo_k (tb := ⟨[("turn_in", .d 2 S_turn_in [])], [], []⟩) (hs := []) (nm := nm_weeks_in) (ps := ["boat", "part", "year"]) ir_weeks_in F hx (by exact "sc") nb rfl (tbOk ⟨⟨2, by decide, F_turn_in⟩, trivial⟩ trivial trivial) hs0 (by kernel_rfl) (F.bindsN fun _ _ _ _ _ _ us hl => match us, hl with | [_, _, _], _ => rfl) .nil (fun _ => .nil) (fun ds Φ hl hS => ?_)
  obtain ⟨b, i, j, rfl, p, y, rfl, rfl, hb, hS⟩ := hS
  have hw := hb.w52
  have hw2 := hb.w2
  have ev : ∀ m : Nat, (y : Int) * (b.w : Int) + (m : Int) = ((b.w * y + m : Nat) : Int) := fun m => by
    rw [Int.natCast_add, Int.natCast_mul, Int.mul_comm]
  exact "w"
  refine lc1_m (List.range b.w) natD (fun m => natD (b.w * y + m)) (fun m => isP (b.turn (b.w * y + m)) p) (by rw [List.length_range]; omega) (fun m _ => ?_) ?_
  · exact "w"
    · refine ⟨b.w * y + m, ev m, hb, ?_⟩
      generalize b.turn (b.w * y + m) = o
      cases o with
      | none =>
        exact "w"
        exact eq_of (n := 0) (m := 0) rfl rfl (by decide) ⟨rfl, rfl⟩
      | some n =>
        exact "w"
        show decide _ = decide _
        exact decide_eq_decide.mpr (by omega) --k
    · exact congrArg PyData.int (ev m)
  · exact "w"
    have : ((List.range b.w).filter fun m => isP (b.turn (b.w * y + m)) p).map (fun m => natD (b.w * y + m)) = (b.weeks p y).map natD := by
      unfold Boat.weeks
      rw [List.map_map]
      rfl
    rw [this]
    exact hS

end M
namespace M
open PySem PySem.Spec L2 PyProof.Rows KJ
theorem ok_weeks_of {M : Md} (nb : NoB M.mg) (D : Df M "weeks_of" s_weeks_of []) (F_weeks_in : Fo M "weeks_in" 3 3 (fun K n => spD K n S_weeks_in) []) (F_need_least_d : Fo M "need_least" 1 2 (fun K n => spD K n (S_need_least (He.ga M.K "NoNumber"))) [.int 0]) (F_need_part : Fo M "need_part" 2 2 (fun K n => spD K n (S_need_part (He.ga M.K "NoPart"))) []) (F_need_boat : Fo M "need_boat" 4 1 (fun K n => spD K n S_boat_ok) []) : Fo M "weeks_of" 5 3 (fun K n => spD K n (S_weeks_of (He.ga M.K "NoPart") (He.ga M.K "NoNumber"))) [] := by
  obtain ⟨f, fd, hx, F⟩ := D
  refine fo_k (tb := ⟨[("weeks_in", .d 3 S_weeks_in []), ("need_least", .d 2 (S_need_least (He.ga M.K "NoNumber")) [.int 0]), ("need_part", .d 2 (S_need_part (He.ga M.K "NoPart")) []), ("need_boat", .d 1 S_boat_ok [])], [], []⟩) (hs := []) (nm := nm_weeks_of) (ps := ["boat", "part", "year"]) ir_weeks_of F hx (by exact "sc") nb rfl (tbOk ⟨⟨3, by decide, F_weeks_in⟩, ⟨1, by decide, F_need_least_d⟩, ⟨2, by decide, F_need_part⟩, ⟨4, by decide, F_need_boat⟩, trivial⟩ trivial trivial) hs0 (by kernel_rfl) (F.bindsN fun _ _ _ _ _ _ us hl => match us, hl with | [_, _, _], _ => rfl) .nil (fun _ => .nil) (fun ds Φ hl hS => ?_)
  obtain ⟨b, i, j, rfl, hb, h1, h2, h3⟩ := hS
  exact "w"
  · rename_i hi hz; exact h3 hi.1 hi.2 hz
  · rename_i hi hz
    obtain ⟨p, rfl⟩ := Int.eq_ofNat_of_zero_le hi.1
    obtain ⟨y, rfl⟩ := Int.eq_ofNat_of_zero_le hz
    exact ⟨p, y, rfl, rfl, hb, h1 p y rfl rfl (by omega)⟩
  · rename_i hi; exact h2 hi

end M
namespace M
open PySem PySem.Spec L2 PyProof.Rows KJ
theorem ok_weeks_ahead {M : Md} (nb : NoB M.mg) (D : Df M "weeks_ahead" s_weeks_ahead []) (F_weeks_in : Fo M "weeks_in" 3 3 (fun K n => spD K n S_weeks_in) []) (F_sailing : Fo M "sailing" 1 1 (fun K n => spD K n S_sailing) []) (F_parts_in : Fo M "parts_in" 1 1 (fun K n => spD K n S_parts_in) []) : Fo M "weeks_ahead" 4 3 (fun K n => spD K n S_weeks_ahead) [] := by
  obtain ⟨f, fd, hx, F⟩ := D
  refine fo_k (tb := ⟨[("weeks_in", .d 3 S_weeks_in []), ("sailing", .d 1 S_sailing []), ("parts_in", .d 1 S_parts_in [])], [], []⟩) (hs := []) (nm := nm_weeks_ahead) (ps := ["boat", "part", "week"]) ir_weeks_ahead F hx (by exact "sc") nb rfl (tbOk ⟨⟨3, by decide, F_weeks_in⟩, ⟨1, by decide, F_sailing⟩, ⟨1, by decide, F_parts_in⟩, trivial⟩ trivial trivial) hs0 (by kernel_rfl) (F.bindsN fun _ _ _ _ _ _ us hl => match us, hl with | [_, _, _], _ => rfl) .nil (fun _ => .nil) (fun ds Φ hl hS => ?_)
  obtain ⟨b, i, j, rfl, p, k, rfl, rfl, hpp, hb, hS⟩ := hS
  have hw := hb.w52
  have hw2 := hb.w2
  have hp : (b.own.map PyData.str).length = b.parts := List.length_map _
  have hp1 : 1 ≤ b.parts := hb.o1
  have hp2 : b.parts ≤ 12 := hb.o12
  have hs : (b.sails.map natD).length = b.sails.length := List.length_map _
  have hs2 : b.sails.length ≤ b.w := by
    have := List.length_filter_le (fun p => !b.laid.contains p) (List.range b.w)
    rw [List.length_range] at this
    exact this
  have em : ((k : Int) % (b.w : Int)) = ((k % b.w : Nat) : Int) := rfl
  have ed : ((k : Int) / (b.w : Int)) = ((k / b.w : Nat) : Int) := rfl
  have em2 : ((k / b.w : Nat) : Int) % ((b.own.map PyData.str).length : Int) = ((k / b.w % b.parts : Nat) : Int) := by rw [hp]; rfl
  have ed2 : ((k / b.w : Nat) : Int) / ((b.own.map PyData.str).length : Int) = ((k / b.w / b.parts : Nat) : Int) := by rw [hp]; rfl
  have hm : k / b.w % b.parts < b.parts := Nat.mod_lt _ hp1
  exact "w"
  · rw [ed, em2]; omega
  · rw [ed, em2]; omega
  rw [ed, em2, ed2, em, hs, Int.toNat_natCast]
  refine ⟨fun i ρ => ∃ s7, ρ = ([("boat", .sh b.toD), ("part", .sh (.int p)), ("week", .sh (.int k)), ("years", .sh (.int (k / b.w : Nat))), ("place", .sh (.int (k % b.w : Nat))), ("parts", .sh (.int (b.own.map PyData.str).length)), ("found", .sh (.int ((k / b.w / b.parts * b.sails.length + sumTo (b.inYear p) i : Nat)))), ("year", s7), ("one", .no)] : Rho), ⟨_, rfl⟩, fun i z ρ hz hI => ?_, fun ρ hI => ?_⟩
  · obtain ⟨s7, rfl⟩ := hI
    have hz : z = natD i ∧ i < k / b.w % b.parts := by
      rw [List.getElem?_map] at hz
      obtain ⟨n, h1, h2⟩ := Option.map_eq_some_iff.mp hz
      obtain ⟨h3, h4⟩ := List.getElem?_eq_some_iff.mp h1
      rw [List.getElem_range] at h4
      rw [List.length_range] at h3
      exact ⟨by rw [← h2, ← h4]; rfl, h3⟩
    obtain ⟨rfl, hi⟩ := hz
    exact "w"
    refine ⟨p, i, rfl, rfl, hb, ?_⟩
    exact "w"
    have e : ((k / b.w / b.parts * b.sails.length + sumTo (b.inYear p) i : Nat) : Int) + (((b.weeks p i).map natD).length : Int) = ((k / b.w / b.parts * b.sails.length + sumTo (b.inYear p) (i + 1) : Nat) : Int) := by
      rw [List.length_map, weeks_len]
      show _ = ((_ + (sumTo (b.inYear p) i + b.inYear p i) : Nat) : Int)
      omega
    rw [e]
    exact ⟨_, rfl⟩
  · obtain ⟨s7, rfl⟩ := hI
    have eL : ((List.range (k / b.w % b.parts)).map fun i : Nat => PyData.int i).length = k / b.w % b.parts := by rw [List.length_map, List.length_range]
    rw [eL]
    exact "w"
    refine ⟨p, k / b.w, rfl, rfl, hb, ?_⟩
    exact "w"
    refine lc1_m (b.weeks p (k / b.w)) natD natD (fun x => decide (x < k)) (by have := weeks_few hb p (k / b.w); omega) (fun x _ => ?_) ?_
    · exact "w"
      show decide _ = decide _
      exact decide_eq_decide.mpr (by omega) --k
    · exact "w"
      have e : ((k / b.w / b.parts * b.sails.length + sumTo (b.inYear p) (k / b.w % b.parts) : Nat) : Int) + ((((b.weeks p (k / b.w)).filter fun x => decide (x < k)).map natD).length : Int) = (b.ahead p k : Int) := by
        rw [List.length_map, weeks_less hb, ahead_eq hb hpp]
        omega
      rw [e]
      exact hS

end M
namespace M
open PySem PySem.Spec L2 PyProof.Rows KJ
theorem ok_weeks_between {M : Md} (nb : NoB M.mg) (D : Df M "weeks_between" s_weeks_between []) (F_weeks_ahead : Fo M "weeks_ahead" 4 3 (fun K n => spD K n S_weeks_ahead) []) (F_need_least_d : Fo M "need_least" 1 2 (fun K n => spD K n (S_need_least (He.ga M.K "NoNumber"))) [.int 0]) (F_need_part : Fo M "need_part" 2 2 (fun K n => spD K n (S_need_part (He.ga M.K "NoPart"))) []) (F_need_boat : Fo M "need_boat" 4 1 (fun K n => spD K n S_boat_ok) []) : Fo M "weeks_between" 5 4 (fun K n => spD K n (S_weeks_between (He.ga M.K "NoPart") (He.ga M.K "NoNumber"))) [] := by
  obtain ⟨f, fd, hx, F⟩ := D
  refine fo_k (tb := ⟨[("weeks_ahead", .d 3 S_weeks_ahead []), ("need_least", .d 2 (S_need_least (He.ga M.K "NoNumber")) [.int 0]), ("need_part", .d 2 (S_need_part (He.ga M.K "NoPart")) []), ("need_boat", .d 1 S_boat_ok [])], [], []⟩) (hs := []) (nm := nm_weeks_between) (ps := ["boat", "part", "first", "last"]) ir_weeks_between F hx (by exact "sc") nb rfl (tbOk ⟨⟨4, by decide, F_weeks_ahead⟩, ⟨1, by decide, F_need_least_d⟩, ⟨2, by decide, F_need_part⟩, ⟨4, by decide, F_need_boat⟩, trivial⟩ trivial trivial) hs0 (by kernel_rfl) (F.bindsN fun _ _ _ _ _ _ us hl => match us, hl with | [_, _, _, _], _ => rfl) .nil (fun _ => .nil) (fun ds Φ hl hS => ?_)
  obtain ⟨b, i, j, l, rfl, hb, h1, h2, h3⟩ := hS
  exact "w"
  · rename_i hi hz; exact h3 hi.1 hi.2 hz
  · rename_i hi hj hz
    obtain ⟨p, rfl⟩ := Int.eq_ofNat_of_zero_le hi.1
    obtain ⟨k, rfl⟩ := Int.eq_ofNat_of_zero_le hj
    exact (h1 p k rfl rfl (by omega)).1 (of_decide_eq_true hz)
  · rename_i hi hj hz
    have hz := of_decide_eq_false hz
    obtain ⟨p, rfl⟩ := Int.eq_ofNat_of_zero_le hi.1
    obtain ⟨k, rfl⟩ := Int.eq_ofNat_of_zero_le hj
    obtain ⟨m, rfl⟩ := Int.eq_ofNat_of_zero_le (by omega : 0 ≤ l)
    have hp : p < b.parts := by omega
    refine ⟨p, m, rfl, rfl, hp, hb, ?_⟩
    exact "w"
    refine ⟨p, k, rfl, rfl, hp, hb, ?_⟩
    exact "w"
    exact (h1 p k rfl rfl hp).2 m rfl (by omega)
  · rename_i hi; exact h2 hi

end M
namespace M
open PySem PySem.Spec L2 PyProof.Rows KJ
theorem any_next_week {M : Md} (nb : NoB M.mg) {f : Addr} {fd : FuncData} {ds : List Value} {dv : List V} {dl : List Pd} (hx : M.mg "next_week" = some (.ref f)) (F : FunD M.K "next_week" "next_week" (defArgs s_next_week) (defBody s_next_week) (defScope s_next_week) [.int 0] [] f fd) (hb : Binds M.K fd ["boat", "part", "week"] ds) (hd : Vals dv ds) (hl : ∀ G, RpA M.K G dv dl) (F_weeks_in : Fo M "weeks_in" 3 3 (fun K n => spD K n S_weeks_in) []) (F_need_least_d : Fo M "need_least" 1 2 (fun K n => spD K n (S_need_least (He.ga M.K "NoNumber"))) [.int 0]) (F_need_part : Fo M "need_part" 2 2 (fun K n => spD K n (S_need_part (He.ga M.K "NoPart"))) []) (F_need_boat : Fo M "need_boat" 4 1 (fun K n => spD K n S_boat_ok) []) : Fo M "next_week" 5 3 (fun K n => spD K n (S_next_week (He.ga M.K "NoPart") (He.ga M.K "NoNumber"))) dl := by
  refine fo_k (tb := ⟨[("weeks_in", .d 3 S_weeks_in []), ("need_least", .d 2 (S_need_least (He.ga M.K "NoNumber")) [.int 0]), ("need_part", .d 2 (S_need_part (He.ga M.K "NoPart")) []), ("need_boat", .d 1 S_boat_ok [])], [], []⟩) (hs := []) (nm := nm_next_week) (ps := ["boat", "part", "week"]) ir_next_week F hx (by exact "sc") nb rfl (tbOk ⟨⟨3, by decide, F_weeks_in⟩, ⟨1, by decide, F_need_least_d⟩, ⟨2, by decide, F_need_part⟩, ⟨4, by decide, F_need_boat⟩, trivial⟩ trivial trivial) hs0 (by kernel_rfl) hb hd hl (fun ds Φ hl hS => ?_)
  obtain ⟨b, i, j, rfl, hb, h1, h2, h3⟩ := hS
  have hw := hb.w52
  have hw2 := hb.w2
  exact "w"
  · rename_i hi hz; exact h3 hi.1 hi.2 hz
  · rename_i hi hj
    obtain ⟨p, rfl⟩ := Int.eq_ofNat_of_zero_le hi.1
    obtain ⟨k, rfl⟩ := Int.eq_ofNat_of_zero_le hj
    have hp : p < b.parts := by omega
    obtain ⟨n, hn, hm⟩ := next_is hb hp k
    have hS : Φ (.d (.int n)) := h1 p k n rfl rfl hp hn.1 hn.2 fun m hk hl => by
      cases e : isP (b.turn m) p with
      | false => rfl
      | true => exact (hm m hl ⟨hk, e⟩).elim
    have ed : ((k : Int) / (b.w : Int)) = ((k / b.w : Nat) : Int) := rfl
    rw [ed]
    refine ⟨fun m ρ => ∃ (y : Nat) (s4 : Sl), ρ = ([("boat", .sh b.toD), ("part", .sh (.int p)), ("week", .sh (.int k)), ("year", .sh (.int y)), ("some", s4), ("one", .no)] : Rho) ∧ y ≤ n / b.w ∧ m = n / b.w - y, _, ⟨_, _, rfl, Nat.div_le_div_right hn.1, rfl⟩, fun m ρ hI => ?_⟩
    obtain ⟨y, s4, rfl, hy, rfl⟩ := hI
    exact "w"
    refine ⟨p, y, rfl, rfl, hb, ?_⟩
    exact "w"
    refine lc1_m (b.weeks p y) natD natD (fun x => decide (k ≤ x)) (by have := weeks_few hb p y; omega) (fun x _ => ?_) ?_
    · exact "w"
      show decide _ = decide _
      exact decide_eq_decide.mpr (by omega) --k
    · exact "w"
      refine eq_nil (n := 0) (natD_nic _) ?_
      by_cases e : y < n / b.w
      · rw [later_nil hb hm e]
        exact "w"
        have : (y : Int) + 1 = ((y + 1 : Nat) : Int) := by omega
        rw [this]
        exact ⟨n / b.w - (y + 1), by omega, _, _, rfl, by omega, rfl⟩
      · have : y = n / b.w := by omega
        subst this
        obtain ⟨r, e⟩ := later_hd hb hn hm
        rw [e]
        exact "w"
        have e2 : L2.atI ((n :: r).map natD) 0 = some (natD n) := by
          obtain ⟨y, g1, g2, _⟩ := KJ.atI_lt (xs := (n :: r).map natD) (i := 0) (by decide) (by rw [List.length_map, List.length_cons]; omega)
          cases g2
          exact g1
        rw [e2]
        exact hS
  · rename_i hi; exact h2 hi
theorem ok_next_week {M : Md} (nb : NoB M.mg) (D : Df M "next_week" s_next_week [.int 0]) (F_weeks_in : Fo M "weeks_in" 3 3 (fun K n => spD K n S_weeks_in) []) (F_need_least_d : Fo M "need_least" 1 2 (fun K n => spD K n (S_need_least (He.ga M.K "NoNumber"))) [.int 0]) (F_need_part : Fo M "need_part" 2 2 (fun K n => spD K n (S_need_part (He.ga M.K "NoPart"))) []) (F_need_boat : Fo M "need_boat" 4 1 (fun K n => spD K n S_boat_ok) []) : Fo M "next_week" 5 3 (fun K n => spD K n (S_next_week (He.ga M.K "NoPart") (He.ga M.K "NoNumber"))) [] := by
  obtain ⟨f, fd, hx, F⟩ := D
  obtain ⟨dz, hd, hb⟩ := F.binds1 (ps := ["boat", "part", "week"]) 3 1 (by simp) rfl (fun _ _ _ _ _ _ _ us its hl hl2 => match us, hl, its, hl2 with | [_, _, _], _, [_], _ => ⟨_, rfl, rfl⟩)
  exact any_next_week nb hx F hb hd (fun _ => .nil) F_weeks_in F_need_least_d F_need_part F_need_boat
theorem ok_next_week_d {M : Md} (nb : NoB M.mg) (D : Df M "next_week" s_next_week [.int 0]) (F_weeks_in : Fo M "weeks_in" 3 3 (fun K n => spD K n S_weeks_in) []) (F_need_least_d : Fo M "need_least" 1 2 (fun K n => spD K n (S_need_least (He.ga M.K "NoNumber"))) [.int 0]) (F_need_part : Fo M "need_part" 2 2 (fun K n => spD K n (S_need_part (He.ga M.K "NoPart"))) []) (F_need_boat : Fo M "need_boat" 4 1 (fun K n => spD K n S_boat_ok) []) : Fo M "next_week" 5 3 (fun K n => spD K n (S_next_week (He.ga M.K "NoPart") (He.ga M.K "NoNumber"))) [.int 0] := by
  obtain ⟨f, fd, hx, F⟩ := D
  obtain ⟨dz, hd, hb⟩ := F.binds1 (ps := ["boat", "part", "week"]) 2 0 (by simp) rfl (fun _ _ _ _ _ _ _ us its hl hl2 => match us, hl, its, hl2 with | [_, _], _, [_], _ => ⟨_, rfl, rfl⟩)
  exact any_next_week nb hx F hb hd (fun _ => .cons (.int 0) .nil) F_weeks_in F_need_least_d F_need_part F_need_boat
end M
namespace M
open PySem PySem.Spec L2 PyProof.Rows KJ
/-! ### the law's own: _law_well, _law_take -/
theorem wl_mk {c s : Int} {z : Pd} (hz : z ∈ primes) (h0 : 0 ≤ s) (h1 : s < 2147490000) : Wl [.int c, .int s, z] := by
  simp [primes] at hz
  rcases hz with rfl | rfl | rfl | rfl | rfl | rfl | rfl | rfl <;> exact ⟨_, _, _, rfl, ⟨h0, h1⟩, by decide, by decide⟩
theorem ok_well {M : Md} (nb : NoB M.mg) (D : Df M "_law_well" s_law_well []) : Fo M "_law_well" 1 2 (fun K n => spQ K n S_well) [] := by
  obtain ⟨f, fd, hx, F⟩ := D
  refine foQ_ok (y := "script") (N := ["k", "cell", "primes", "seed"]) (ps := ["script", "k"]) F hx ⟨rfl, rfl, rfl, by decide +kernel, rfl, by decide +kernel, by decide +kernel⟩ nb rfl (fun e a ns ds Φ c hl hS => ?_) (F.bindsN fun _ _ _ _ _ _ us hl => match us, hl with | [_, _], _ => rfl) .nil (fun _ => .nil)
  unfold S_well at hS
  split at hS
  · rename_i k
    obtain ⟨⟨hk0, hk⟩, hS⟩ := hS
    simp only [st0]
    exact "js"
    · obtain ⟨z, h1, h2, h3⟩ := atI_lt (xs := ns) (i := k) hk0 (by have := of_decide_eq_true ‹decide (k < _) = true›; simpa using this)
      refine ⟨_, _, rfl, h1, ?_⟩
      exact "js"
      all_goals (
        obtain ⟨z, h1, h2, h3⟩ := atI_lt (xs := primes) (i := k % 8) (by omega) (by simp [primes]; omega)
        refine ⟨_, _, _, rfl, (by exact "lk"), h1, ?_⟩
        exact "js"
        exact hS _ (wl_mk h3 (by omega) (by omega)))
    · obtain ⟨z, h1, h2, h3⟩ := atI_lt (xs := primes) (i := k % 8) (by omega) (by simp [primes]; omega)
      refine ⟨_, _, _, rfl, (by exact "lk"), h1, ?_⟩
      exact "js"
      exact hS _ (wl_mk h3 (by omega) (by omega))
  · exact hS.elim
end M
namespace M
open PySem PySem.Spec L2 PyProof.Rows KJ
theorem ok_take {M : Md} (nb : NoB M.mg) (D : Df M "_law_take" s_law_take []) : Fo M "_law_take" 1 2 (fun K n => spI K n S_take) [] := by
  obtain ⟨f, fd, hx, F⟩ := D
  refine foI_ok (y := "well") (N := ["many", "got"]) (ps := ["well", "many"]) F hx ⟨rfl, rfl, rfl, by decide +kernel, rfl, by decide +kernel, by decide +kernel⟩ nb rfl (fun e a w ds Φ c hl hS => ?_) (F.bindsN fun _ _ _ _ _ _ us hl => match us, hl with | [_, _], _ => rfl) .nil (fun _ => .nil)
  unfold S_take at hS
  obtain ⟨⟨wa, wb, wp, rfl, ⟨hb0, hb1⟩, hp0, hp1⟩, hS⟩ := hS
  split at hS
  · rename_i n
    obtain ⟨⟨hn0, hn1⟩, hS⟩ := hS
    simp only [KJ.stI, st0]
    have q1 := Int.emod_nonneg (wb * 48271) (show wp ≠ 0 by omega)
    have q2 := Int.emod_lt_of_pos (wb * 48271) (show 0 < wp by omega)
    exact "js"
    · exact hS (wa % n) _ ⟨wa / n, wb, wp, rfl, ⟨hb0, hb1⟩, hp0, hp1⟩ (Int.emod_nonneg _ (by omega)) (Int.emod_lt_of_pos _ hn0)
    · exact hS _ _ ⟨wa, _, wp, rfl, ⟨by omega, by omega⟩, hp0, hp1⟩ (Int.emod_nonneg _ (by omega)) (Int.emod_lt_of_pos _ hn0)
  · exact hS.elim
end M
namespace M
open PySem PySem.Spec L2 PyProof.Rows KJ
/-! ### _law_name, _law_boat -/
theorem ok_lname {M : Md} (nb : NoB M.mg) (D : Df M "_law_name" s_law_name []) (F1 : Fo M "_law_take" 1 2 (fun K n => spI K n S_take) []) : Fo M "_law_name" 2 1 (fun K n => spI K n S_lname) [] := by
  obtain ⟨f, fd, hx, F⟩ := D
  refine foI_ok (y := "well") (N := ["signs", "many", "k"]) (ps := ["well"]) F hx ⟨rfl, rfl, rfl, by decide +kernel, rfl, by decide +kernel, by decide +kernel⟩ nb rfl (fun e a w ds Φ c hl hS => ?_) (F.bindsN fun _ _ _ _ _ _ us hl => match us, hl with | [_], _ => rfl) .nil (fun _ => .nil)
  unfold S_lname at hS
  obtain ⟨hw, hS⟩ := hS
  split at hS
  · simp only [KJ.stI, st0]
    exact "js"
    intro r w1 hw1 h0 h1
    exact "js"
    obtain ⟨z, h2, h3, h4⟩ := atI_lt (xs := [PyData.int 1, PyData.int 1, PyData.int 2, PyData.int 8]) (i := r) h0 (by simp; omega)
    refine ⟨_, h2, ?_⟩
    obtain ⟨m, rfl, hm1, hm2⟩ : ∃ m : Int, z = .int m ∧ 1 ≤ m ∧ m ≤ 8 := by
      simp at h4
      rcases h4 with rfl | rfl | rfl <;> exact ⟨_, rfl, by decide, by decide⟩
    exact "js"
    refine KJ.je_fr (KJ.jf_lcs c 3 rfl (KJ.ji_rng1 c ?_))
    exact "js"
    refine lcs_map c (fun i acc ρ => ∃ w ys, Wl w ∧ acc = (ys : List Str).map PyData.str ∧ ys.length = i ∧ (∀ y ∈ ys, ∃ s, y = ⟨#[s]⟩ ∧ subStr ⟨#[s]⟩ abc = true) ∧ ρ = ([("well", .ow a w), ("signs", .sh (.str abc)), ("many", .sh (.int m)), ("k", .no)] : Rho)) (by exact "lk") rfl (by exact "up") (by simp; omega) ⟨w1, [], hw1, rfl, rfl, by simp, rfl⟩ (fun i z acc ρ2 hz hI => ?_) (fun acc ρ2 hI => ?_)
    · obtain ⟨w2, ys, hw2, rfl, hy1, hy2, rfl⟩ := hI
      refine ⟨_, by exact "up", fun s H Cc cl fp cb => ?_⟩
      exact "js"
      intro r2 w3 hw3 h5 h6
      exact "js"
      obtain ⟨t, h7, h8, h9⟩ := atI_lt (xs := abc.cps.toList) (i := r2) h5 h6
      refine ⟨t, h7, ?_⟩
      exact "js"
      refine ⟨w3, ys ++ [⟨#[t]⟩], hw3, by simp, by simp [hy1], fun y hy => ?_, rfl⟩
      rcases List.mem_append.mp hy with hy | hy --k
      · exact hy2 y hy
      · exact ⟨t, by simpa using hy, by rw [subStr_sign]; exact decide_eq_true h9⟩
    · obtain ⟨w2, ys, hw2, rfl, hy1, hy2, rfl⟩ := hI
      refine ⟨_, by exact "up", ys, .inl rfl, ?_, ?_⟩
      · obtain ⟨j1, j2, j3⟩ := join_ones hy2
        have e0 : ("" : Str).length = 0 := rfl
        rw [j3, hy1, e0]
        simp
        omega
      · obtain ⟨j1, j2, j3⟩ := join_ones hy2
        have hl2 : ys.length = m.toNat := by rw [hy1]; simp
        refine ⟨_, by exact "lk", hS _ w2 hw2 ?_ (by rw [j1, hl2]; omega)⟩
        show (decide _ && (decide _ && _)) = true
        rw [j1, hl2]
        rw [Bool.and_eq_true, Bool.and_eq_true] --k
        refine ⟨decide_eq_true (by omega), decide_eq_true (by omega), List.all_eq_true.mpr fun s hs => j2 s hs⟩
  · exact hS.elim
end M
namespace M
open PySem PySem.Spec L2 PyProof.Rows KJ
theorem ok_law_boat {M : Md} (nb : NoB M.mg) (D : Df M "_law_boat" s_law_boat []) (F_law_take : Fo M "_law_take" 1 2 (fun K n => spI K n S_take) []) (F_law_name : Fo M "_law_name" 2 1 (fun K n => spI K n S_lname) []) : Fo M "_law_boat" 3 2 (fun K n => spI K n S_lboat) [] := by
  obtain ⟨f, fd, hx, F⟩ := D
  refine foI_k (y := "well") (N := ["most", "weeks", "laid", "week", "some", "k", "owners", "hours"]) (tb := ⟨[("_law_take", .i 2 S_take []), ("_law_name", .i 1 S_lname [])], [], []⟩) (hs := []) (nm := nm_law_boat) (ps := ["well", "most"]) ir_law_boat F hx rfl (by exact "sc") nb rfl (tbOk ⟨⟨1, by decide, F_law_take⟩, ⟨2, by decide, F_law_name⟩, trivial⟩ trivial trivial) hs0 (by kernel_rfl) (F.bindsN fun _ _ _ _ _ _ us hl => match us, hl with | [_, _], _ => rfl) .nil (fun _ => .nil) (fun a w ds Φ hl hS => ?_)
  unfold S_lboat at hS
  obtain ⟨hw, hS⟩ := hS
  split at hS
  · rename_i m
    obtain ⟨⟨hm1, hm2⟩, hS⟩ := hS
    exact "w"
    rename_i r w1 hw1 h0 h1
    refine at_pick h0 (by first | omega | (simp; omega)) fun z hz _ => ?_
    obtain ⟨b, rfl, hb1, hb2⟩ : ∃ b : Int, z = .int b ∧ 1 ≤ b ∧ b ≤ m - 1 := by
      simp at hz
      rcases hz with rfl | rfl
      · exact ⟨_, rfl, by omega, by omega⟩
      · refine ⟨_, rfl, ?_, ?_⟩ <;> split <;> omega
    exact "w"
    rename_i r2 w2 hw2 h2 h3
    refine lcs1 (fun i acc ρ => ∃ w ns, Wl w ∧ acc = (ns : List Int).map PyData.int ∧ ns.length ≤ i ∧ ns.Pairwise (· < ·) ∧ (∀ n ∈ ns, 0 ≤ n ∧ n < (i : Int)) ∧ ρ = ([("well", .ow a w), ("most", .sh (.int m)), ("weeks", .sh (.int (2 + r2))), ("laid", .no), ("week", .no), ("some", .no), ("k", .no), ("owners", .no), ("hours", .no)] : Rho)) (by simp; omega) ⟨w2, [], hw2, rfl, by simp, .nil, by simp, rfl⟩ (fun i z acc ρ2 hz hI _ => ?_) fun acc ρ2 hI => ?_
    · obtain ⟨w3, ns, hw3, rfl, hn1, hn2, hn3, rfl⟩ := hI
      obtain ⟨rfl, hi⟩ := rng_get hz
      exact "w"
      · rename_i r3 w4 hw4 h4 h5 _
        exact ⟨w4, ns ++ [(i : Int)], hw4, by simp, by simp; omega, pw_snoc hn2 fun n hn => (hn3 n hn).2, fun n hn => by
          rcases List.mem_append.mp hn with hn | hn
          · have := hn3 n hn; omega
          · have := List.mem_singleton.mp hn; omega, rfl⟩
      · rename_i r3 w4 hw4 h4 h5 _
        exact ⟨w4, ns, hw4, rfl, by omega, hn2, fun n hn => by have := hn3 n hn; omega, rfl⟩
    · obtain ⟨w3, ns, hw3, rfl, hn1, hn2, hn3, rfl⟩ := hI
      simp only [List.length_map, List.length_range] at hn1 hn3
      intro al
      refine ⟨fun ρ => ∃ w ns al, Wl w ∧ (ns : List Int).Pairwise (· < ·) ∧ (∀ n ∈ ns, 0 ≤ n ∧ n < 2 + r2) ∧ (ns.length : Int) < 2 + r2 ∧ ρ = ([("well", .ow a w), ("most", .sh (.int m)), ("weeks", .sh (.int (2 + r2))), ("laid", .ow al (ns.map .int)), ("week", .no), ("some", .no), ("k", .no), ("owners", .no), ("hours", .no)] : Rho), ?_, ?_⟩
      · exact "w"
        · rename_i hq r3 w4 hw4 h4 h5
          have hk : r3.toNat < ns.length := by
            have := of_decide_eq_true hq
            rw [List.length_map] at this
            omega
          refine ⟨r3.toNat, .int (ns[r3.toNat]), ?_, ?_, w4, ns.eraseIdx r3.toNat, al, hw4, hn2.sublist (List.eraseIdx_sublist _ _), fun n hn => ?_, ?_, ?_⟩
          · rw [List.length_map]
            exact PySem.seqIndex_of (by omega) (by omega)
          · rw [List.getElem?_map, List.getElem?_eq_getElem hk]; rfl
          · have := hn3 n ((List.eraseIdx_sublist _ _).subset hn)
            omega
          · rw [List.length_eraseIdx_of_lt hk]
            omega
          · rw [map_erase]; rfl
        · rename_i hq
          have := of_decide_eq_false hq
          rw [List.length_map] at this
          exact ⟨w3, ns, al, hw3, hn2, fun n hn => by have := hn3 n hn; omega, by omega, rfl⟩
      rintro _ ⟨w5, ns, al, hw5, hn2, hn3, hn4, rfl⟩
      exact "w"
      rename_i r3 w6 hw6 h4 h5
      refine lcs0 (fun i acc ρ => ∃ w xs, Wl w ∧ acc = (xs : List Str).map PyData.str ∧ xs.length = i ∧ (∀ x ∈ xs, isName (.str x) = true ∧ x.length ≤ 8) ∧ ρ = ([("well", .ow a w), ("most", .sh (.int m)), ("weeks", .sh (.int (2 + r2))), ("laid", .ow al (ns.map .int)), ("week", .no), ("some", .no), ("k", .no), ("owners", .no), ("hours", .no)] : Rho)) (by simp; omega) ⟨w6, [], hw6, rfl, rfl, by simp, rfl⟩ (fun i z acc ρ2 hz hI _ => ?_) fun acc ρ2 hI => ?_
      · obtain ⟨w7, xs, hw7, rfl, hx1, hx2, rfl⟩ := hI
        exact "w"
        rename_i x w8 hw8 hx hx3
        refine ⟨w8, xs ++ [x], hw8, by simp, by simp [hx1], fun y hy => ?_, rfl⟩
        rcases List.mem_append.mp hy with hy | hy --k
        · exact hx2 y hy
        · rw [List.mem_singleton.mp hy]; exact ⟨hx, hx3⟩
      obtain ⟨w7, xs, hw7, rfl, hx1, hx2, rfl⟩ := hI
      have hx4 : 1 ≤ xs.length ∧ xs.length ≤ 4 := by
        rw [hx1, List.length_map, List.length_range]
        omega
      intro as
      exact "w"
      rename_i r4 w8 hw8 h6 h7
      refine at_pick h6 (by first | omega | (simp; omega)) fun z hz _ => ?_
      obtain ⟨b2, rfl, hb3, hb4⟩ : ∃ b : Int, z = .int b ∧ 1 ≤ b ∧ b ≤ 12 := by
        simp at hz
        rcases hz with rfl | rfl <;> exact ⟨_, rfl, by decide, by decide⟩
      exact "w"
      rename_i r5 w9 hw9 h8 h9
      refine lcs0 (fun i acc ρ => ∃ w ys, Wl w ∧ acc = (ys : List Str).map PyData.str ∧ ys.length = i ∧ (∀ x ∈ ys, isName (.str x) = true ∧ x.length ≤ 8) ∧ ρ = ([("well", .ow a w), ("most", .sh (.int m)), ("weeks", .sh (.int (2 + r2))), ("laid", .ow al (ns.map .int)), ("week", .no), ("some", .ow as (xs.map .str)), ("k", .no), ("owners", .no), ("hours", .no)] : Rho)) (by simp; omega) ⟨w9, [], hw9, rfl, rfl, by simp, rfl⟩ (fun i z acc ρ2 hz hI _ => ?_) fun acc ρ2 hI => ?_
      · obtain ⟨w7, ys, hw7, rfl, hy1, hy2, rfl⟩ := hI
        have hlm : (xs.map PyData.str).length = xs.length := List.length_map _
        exact "w"
        rename_i r6 w8 hw8 h10 h11
        refine at_pick h10 h11 fun z hz _ => ?_
        obtain ⟨y, hy3, rfl⟩ := List.mem_map.mp hz
        refine ⟨w8, ys ++ [y], hw8, by simp, by simp [hy1], fun x hx => ?_, rfl⟩
        rcases List.mem_append.mp hx with hx | hx --k
        · exact hy2 x hx
        · rw [List.mem_singleton.mp hx]; exact hx2 y hy3
      obtain ⟨w7, ys, hw7, rfl, hy1, hy2, rfl⟩ := hI
      have hy4 : 1 ≤ ys.length ∧ ys.length ≤ 12 := by
        rw [hy1, List.length_map, List.length_range]
        omega
      intro ao
      exact "w"
      rename_i r7 w10 hw10 h12 h13 r8 w11 hw11 h14 h15 r9 w12 hw12 h16 h17
      refine at_pick h16 (by first | omega | (simp; omega)) fun z hz _ => ?_
      have e6 : (10 : Int) ^ Int.toNat 6 = 1000000 := by decide
      obtain ⟨h, rfl, hb3, hb4⟩ : ∃ b : Int, z = .int b ∧ 0 ≤ b ∧ b ≤ 1000000 := by
        simp only [List.mem_cons, List.not_mem_nil, or_false] at hz
        rcases hz with rfl | rfl | rfl
        · exact ⟨_, rfl, by decide, by decide⟩
        · exact ⟨_, rfl, by omega, by omega⟩
        · exact ⟨_, rfl, by omega, by rw [e6] at h15; omega⟩
      exact "w"
      refine hS _ _ _ _ _ hw12 ?_ (by omega) ?_
      · show (isWhole (.int (2 + r2)) 2 52 && (isLaid _ _ && (isWhole (.int h) 0 1000000 && (decide _ && (decide _ && _))))) = true
        simp only [Bool.and_eq_true]
        refine ⟨?_, laid_of hn2 hn3 hn4, ?_, decide_eq_true ?_, decide_eq_true ?_, ?_⟩
        · show (decide _ && decide _) = true
          simp
          omega
        · show (decide _ && decide _) = true
          simp
          omega
        · rw [List.length_map]; omega
        · rw [List.length_map]; omega
        · rw [List.all_map]
          exact List.all_eq_true.mpr fun x hx => (hy2 x hx).1
      · have hl9 : ns.length ≤ 100 := by omega
        have hl8 : ys.length ≤ 100 := by omega
        refine nicL_mkT (by simp) fun x hx => ?_
        simp only [List.mem_cons, List.not_mem_nil, or_false] at hx --k
        rcases hx with rfl | rfl | rfl | rfl
        · simp [nicL]
        · refine nicL_mkT (by simpa using hl9) fun x hx => ?_
          obtain ⟨y, _, rfl⟩ := List.mem_map.mp hx
          simp [nicL]
        · refine nicL_mkT (by simpa using hl8) fun x hx => ?_
          obtain ⟨y, hy, rfl⟩ := List.mem_map.mp hx --k
          have := (hy2 y hy).2
          simp [nicL]
          omega
        · simp [nicL]
  · exact hS.elim

end M
namespace M
open PySem PySem.Spec L2 PyProof.Rows KJ
theorem ok_law_round_right {M : Md} (nb : NoB M.mg) (D : Df M "_law_round_right" s_law_round_right []) (F_turn_of : Fo M "turn_of" 5 2 (fun K n => spD K n S_turn_ofN) []) : Fo M "_law_round_right" 6 2 (fun K n => spD K n S_round) [] := by
  obtain ⟨f, fd, hx, F⟩ := D
  refine fo_k (tb := ⟨[("turn_of", .d 2 S_turn_ofN [])], [], []⟩) (hs := []) (nm := nm_law_round_right) (ps := ["boat", "year"]) ir_law_round_right F hx (by exact "sc") nb rfl (tbOk ⟨⟨5, by decide, F_turn_of⟩, trivial⟩ trivial trivial) hs0 (by kernel_rfl) (F.bindsN fun _ _ _ _ _ _ us hl => match us, hl with | [_, _], _ => rfl) .nil (fun _ => .nil) (fun ds Φ hl hS => ?_)
  obtain ⟨b, i, rfl, hb, hi0, hS⟩ := hS
  obtain ⟨y, rfl⟩ := Int.eq_ofNat_of_zero_le hi0
  have hw := hb.w52
  have hw2 := hb.w2
  have hp : (b.own.map PyData.str).length = b.parts := List.length_map _
  have hp1 : 1 ≤ b.parts := hb.o1
  have hp2 : b.parts ≤ 12 := hb.o12
  exact "w"
  refine ⟨fun i ρ => ∃ s3 s4, ρ = ([("boat", .sh b.toD), ("year", .sh (.int y)), ("parts", .sh (.int (b.own.map PyData.str).length)), ("place", s3), ("some", s4), ("k", .no)] : Rho), ⟨_, _, rfl⟩, fun p z ρ hz hI => ?_, fun ρ hI => ?_⟩
  · obtain ⟨s3, s4, rfl⟩ := hI
    rw [Int.toNat_natCast] at hz
    obtain ⟨rfl, hp3⟩ := rng_get hz
    have ev : ∀ k : Nat, ((y : Int) + (k : Int)) * (b.w : Int) + (p : Int) = ((b.w * (y + k) + p : Nat) : Int) := fun k => by
      rw [Int.natCast_add, Int.natCast_mul, Int.natCast_add, Int.mul_comm]
    have tv : ∀ k, b.turn (b.w * (y + k) + p) = if b.laid.contains p then none else some ((p - less b.laid p + (y + k)) % b.parts) := fun k => turn_at hb hp3
    exact "w"
    refine lc0_m (List.range b.parts) natD (fun k => optD (b.turn (b.w * (y + k) + p))) (by rw [List.length_range]; omega) (fun k _ => ?_) ?_ (by rw [hp]; rfl)
    · exact "w"
      refine ⟨_, ev k, hb, ?_⟩
      exact "w"
    exact "w"
    refine in_nats ?_
    cases hc : b.laid.contains p with
    | true =>
      have e1 : (List.range b.parts).map (fun k => optD (b.turn (b.w * (y + k) + p))) = (List.replicate b.parts [PyData.none]).flatten := by
        have : ∀ n : Nat, (List.replicate n [PyData.none]).flatten = List.replicate n .none := fun n => by
          induction n with
          | zero => rfl
          | succ n ih => rw [List.replicate_succ, List.flatten_cons, ih]; rfl
        rw [this]
        refine List.eq_replicate_iff.mpr ⟨by rw [List.length_map, List.length_range], fun d hd => ?_⟩
        obtain ⟨k, _, rfl⟩ := List.mem_map.mp hd
        rw [tv, hc]; rfl
      have hn : nic 1 (.list ((List.replicate b.parts [PyData.none]).flatten)) = true := by
        rw [← e1]
        refine nicL_mkL (by rw [List.length_map, List.length_range]; omega) fun x hx => ?_
        obtain ⟨k, _, rfl⟩ := List.mem_map.mp hx
        cases b.turn (b.w * (y + k) + p) <;> rfl
      rw [e1]
      have hr : [PyData.none].length * ((List.map PyData.str b.own).length : Int).toNat ≤ 1000000 := by
        rw [hp, Int.toNat_natCast]
        show 1 * b.parts ≤ _
        omega
      exact "w"
      rw [hp, Int.toNat_natCast]
      refine eq_same hn (by decide) ?_
      exact "w"
      refine in_nats ?_
      rw [hc]
      exact "w"
      exact ⟨_, _, rfl⟩
    | false =>
      have e1 : (List.range b.parts).map (fun k => optD (b.turn (b.w * (y + k) + p))) = ((List.range b.parts).map fun k => ((((p - less b.laid p + y) + k) % b.parts : Nat) : Int)).map .int := by
        rw [List.map_map]
        refine List.map_congr_left fun k _ => ?_ --k
        rw [tv, hc, ← Nat.add_assoc]; rfl
      have hpm := perm_turnI b.parts (p - less b.laid p + y)
      rw [e1]
      generalize (List.range b.parts).map (fun k => ((((p - less b.laid p + y) + k) % b.parts : Nat) : Int)) = ns at hpm
      have hnl : ns.length = b.parts := by rw [hpm.length_eq, List.length_map, List.length_range]
      have hn : ∀ x ∈ ns.map PyData.int, nic 0 x = true := fun x hx => by
        obtain ⟨k, _, rfl⟩ := List.mem_map.mp hx
        rfl
      exact "w"
      refine in_nats ?_
      rw [hc]
      exact "w"
      refine in_of (n := 0) (m := 0) hn rfl (by decide) ?_
      have ha : ((ns.map PyData.int).any fun z => PyData.eqv z .none) = false := by
        rw [List.any_map]
        exact List.any_eq_false.mpr fun x _ => by simp [PyData.eqv]
      rw [ha]
      exact "w"
      refine srt_ints (by omega) fun ms hm hs => ?_
      obtain rfl := sorted_uni (hm.trans hpm) hs (inc_range _)
      have er : rng 0 ((List.map PyData.str b.own).length : Int).toNat = ((List.range b.parts).map fun k : Nat => (k : Int)).map PyData.int := by
        rw [hp, Int.toNat_natCast, List.map_map]
        exact List.map_congr_left fun k _ => congrArg PyData.int (Int.zero_add _)
      exact "w"
      rw [er]
      refine eq_same (n := 1) (nicL_mkL (by rw [List.length_map, List.length_map, List.length_range]; omega) fun x hx => ?_) (by decide) ?_
      · obtain ⟨k, _, rfl⟩ := List.mem_map.mp hx
        rfl
      exact "w"
      all_goals exact ⟨_, _, rfl⟩
  · obtain ⟨s3, s4, rfl⟩ := hI
    exact "w"
    exact hS

end M
namespace M
open PySem PySem.Spec L2 PyProof.Rows KJ
theorem ok_law_counts_right {M : Md} (nb : NoB M.mg) (D : Df M "_law_counts_right" s_law_counts_right []) (F_weeks_between : Fo M "weeks_between" 5 4 (fun K n => spD K n S_btw) []) (F_law_take : Fo M "_law_take" 1 2 (fun K n => spI K n S_take) []) : Fo M "_law_counts_right" 6 3 (fun K n => spI K n S_counts) [] := by
  obtain ⟨f, fd, hx, F⟩ := D
  refine foI_k (y := "well") (N := ["boat", "first", "parts", "last", "amid", "counts", "part", "some", "laid", "place"]) (tb := ⟨[("weeks_between", .d 4 S_btw []), ("_law_take", .i 2 S_take [])], [], []⟩) (hs := []) (nm := nm_law_counts_right) (ps := ["well", "boat", "first"]) ir_law_counts_right F hx rfl (by exact "sc") nb rfl (tbOk ⟨⟨5, by decide, F_weeks_between⟩, ⟨1, by decide, F_law_take⟩, trivial⟩ trivial trivial) hs0 (by kernel_rfl) (F.bindsN fun _ _ _ _ _ _ us hl => match us, hl with | [_, _, _], _ => rfl) .nil (fun _ => .nil) (fun a w ds Φ hl hS => ?_)
  unfold S_counts at hS
  obtain ⟨hw, b, i, rfl, hb, hi0, hS⟩ := hS
  obtain ⟨k, rfl⟩ := Int.eq_ofNat_of_zero_le hi0
  have hbw := hb.w52
  have hbw2 := hb.w2
  have hp : (b.own.map PyData.str).length = b.parts := List.length_map _
  have hp1 : 1 ≤ b.parts := hb.o1
  have hp2 : b.parts ≤ 12 := hb.o12
  have e18 : (10 : Int) ^ Int.toNat 18 = 1000000000000000000 := rfl
  exact "w"
  rename_i r1 w1 hw1 a1 a2 r2 w2 hw2 b1 b2 r3 w3 hw3 c1 c2
  rw [e18] at b2
  refine at_pick c1 (by simp; omega) fun z hz _ => ?_
  obtain ⟨d, rfl, hd⟩ : ∃ d : Nat, z = .int d ∧ d < 1000000000000000000 := by
    simp only [List.mem_cons, List.not_mem_nil, or_false] at hz
    rcases hz with rfl | rfl
    · obtain ⟨y, rfl⟩ := Int.eq_ofNat_of_zero_le a1
      exact ⟨y, rfl, by omega⟩
    · obtain ⟨y, rfl⟩ := Int.eq_ofNat_of_zero_le b1
      exact ⟨y, rfl, by omega⟩
  clear hz a1 a2 b1 b2 c1 c2
  refine ⟨fun ρ => ∃ (w4 : List Pd) (e : Nat), Wl w4 ∧ e ≤ d ∧ ρ = ([("well", .ow a w4), ("boat", .sh b.toD), ("first", .sh (.int k)), ("parts", .sh (.int (b.own.map PyData.str).length)), ("last", .sh (.int (k + d : Nat))), ("amid", .sh (.int (k + e : Nat))), ("counts", .no), ("part", .no), ("some", .no), ("laid", .no), ("place", .no)] : Rho), ?_, ?_⟩
  · exact "w"
    rename_i e w4 hw4 g1 g2
    obtain ⟨e, rfl⟩ := Int.eq_ofNat_of_zero_le g1
    exact ⟨w4, e, hw4, by omega, rfl⟩
  rintro _ ⟨w4, e, hw4, he, rfl⟩
  exact "w"
  refine lc0_m (List.range b.parts) natD (fun p => .int (if k + d ≤ k then 0 else (b.ahead p (k + d) : Int) - (b.ahead p k : Int))) (by rw [List.length_range]; omega) (fun p hpr => ?_) ?_ (by rw [hp]; rfl)
  · have hpr := List.mem_range.mp hpr
    exact "w"
    refine ⟨p, k, k + d, rfl, rfl, rfl, hpr, hb, ?_⟩
    exact "w"
  have ed : ∀ p, (if k + d ≤ k then 0 else (b.ahead p (k + d) : Int) - (b.ahead p k : Int)) = (b.ahead p (k + d) : Int) - (b.ahead p k : Int) := fun p => by
    split
    · obtain rfl : d = 0 := by omega
      show (0 : Int) = (b.ahead p k : Int) - (b.ahead p k : Int)
      omega
    · rfl
  simp only [ed]
  exact "w"
  rename_i ac
  refine ⟨fun i ρ => ∃ s7 s8, ρ = ([("well", .ow a w4), ("boat", .sh b.toD), ("first", .sh (.int k)), ("parts", .sh (.int (b.own.map PyData.str).length)), ("last", .sh (.int (k + d : Nat))), ("amid", .sh (.int (k + e : Nat))), ("counts", .ow ac ((List.range b.parts).map fun p : Nat => .int ((b.ahead p (k + d) : Int) - (b.ahead p k : Int)))), ("part", s7), ("some", s8), ("laid", .no), ("place", .no)] : Rho), ⟨_, _, rfl⟩, fun p z ρ hz hI => ?_, fun ρ hI => ?_⟩
  · obtain ⟨s7, s8, rfl⟩ := hI
    rw [Int.toNat_natCast, hp] at hz
    obtain ⟨rfl, hp3⟩ := rng_get hz
    exact "w"
    refine ⟨p, k, k + e, rfl, rfl, rfl, hp3, hb, ?_⟩
    exact "w"
    refine ⟨p, k + e, k + d, rfl, rfl, rfl, hp3, hb, ?_⟩
    exact "w"
    refine at_get (z := .int ((b.ahead p (k + d) : Int) - (b.ahead p k : Int))) (by omega) (by rw [Int.toNat_natCast, List.getElem?_map, List.getElem?_range hp3]; rfl) ?_
    exact "w"
    · refine ⟨p, k + d, k, rfl, rfl, rfl, hp3, hb, ?_⟩
      have e0 : (if k ≤ k + d then (0 : Int) else (b.ahead p k : Int) - (b.ahead p (k + d) : Int)) = 0 := if_pos (by omega)
      exact "w"
      · rename_i hz
        exact absurd e0 (of_decide_eq_false (not_t hz))
      · exact ⟨_, _, rfl⟩
    · rename_i hz
      exfalso
      have hz := of_decide_eq_false (not_t hz)
      refine hz ?_
      clear hz
      split <;> split
      · obtain rfl : e = 0 := by omega
        obtain rfl : d = 0 := by omega
        show (0 : Int) + 0 = (b.ahead p k : Int) - (b.ahead p k : Int)
        omega
      · obtain rfl : e = 0 := by omega
        show (0 : Int) + ((b.ahead p (k + d) : Int) - (b.ahead p k : Int)) = _
        omega
      · obtain rfl : e = d := by omega
        omega
      · omega
  · obtain ⟨s7, s8, rfl⟩ := hI
    exact "w"
    refine ⟨fun i ρ => ∃ s10, ρ = ([("well", .ow a w4), ("boat", .sh b.toD), ("first", .sh (.int k)), ("parts", .sh (.int (b.own.map PyData.str).length)), ("last", .sh (.int (k + d : Nat))), ("amid", .sh (.int (k + e : Nat))), ("counts", .ow ac ((List.range b.parts).map fun p : Nat => .int ((b.ahead p (k + d) : Int) - (b.ahead p k : Int)))), ("part", s7), ("some", s8), ("laid", .sh (.int (((b.laid.take i).map fun x : Nat => (((k + d : Nat) : Int) - (x : Int) - 1) / (b.w : Int) - ((k : Int) - (x : Int) - 1) / (b.w : Int)).sum))), ("place", s10)] : Rho), ⟨_, rfl⟩, fun i z ρ hz hI => ?_, fun ρ hI => ?_⟩
    · obtain ⟨s10, rfl⟩ := hI
      rw [List.getElem?_map] at hz
      obtain ⟨x, hx, rfl⟩ := Option.map_eq_some_iff.mp hz
      have ht : b.laid.take (i + 1) = b.laid.take i ++ [x] := by
        rw [List.take_add_one, hx]; rfl
      have hs : ∀ f : Nat → Int, ((b.laid.take (i + 1)).map f).sum = ((b.laid.take i).map f).sum + f x := fun f => by
        rw [ht, List.map_append, List.sum_append]
        show _ + (f x + 0) = _
        rw [Int.add_zero]
      exact "w"
      rw [hs]
      exact ⟨.sh (natD x), by first | (rw [Int.add_sub_assoc]; done) | (rw [Int.add_sub_assoc]; rfl)⟩
    · obtain ⟨s10, rfl⟩ := hI
      rw [show (b.laid.map natD).length = b.laid.length from List.length_map _, List.take_length]
      have el : (List.range b.parts).map (fun p : Nat => PyData.int ((b.ahead p (k + d) : Int) - (b.ahead p k : Int))) = ((List.range b.parts).map fun p : Nat => (b.ahead p (k + d) : Int) - (b.ahead p k : Int)).map PyData.int := by
        rw [List.map_map]; rfl
      rw [el]
      exact "w"
      refine ints_q ?_
      exact "w"
      rw [decide_eq_true (counts_all hb k d)]
      exact hS w4 hw4

end M
namespace M
open PySem PySem.Spec L2 PyProof.Rows KJ
theorem ok_law {M : Md} (nb : NoB M.mg) {f : Addr} {fd : FuncData} (F : FunD M.K "law" "law" (defArgs s_law) (defBody s_law) (defScope s_law) [] [] f fd) (F_weeks_between : Fo M "weeks_between" 5 4 (fun K n => spD K n S_btw) []) (F_turn_of : Fo M "turn_of" 5 2 (fun K n => spD K n S_turn_ofN) []) (F_next_week : Fo M "next_week" 5 3 (fun K n => spD K n S_nextN) []) (F_law_take : Fo M "_law_take" 1 2 (fun K n => spI K n S_take) []) (F_weeks_of : Fo M "weeks_of" 5 3 (fun K n => spD K n S_weeks_ofN) []) (F_law_counts_right : Fo M "_law_counts_right" 6 3 (fun K n => spI K n S_counts) []) (F_law_round_right : Fo M "_law_round_right" 6 2 (fun K n => spD K n S_round) []) (F_law_boat : Fo M "_law_boat" 3 2 (fun K n => spI K n S_lboat2) []) (F_law_well : Fo M "_law_well" 1 2 (fun K n => spQ K n S_well) []) : FnOk M.P M.w M.K M.mg M.base (L2.CX M.P M.w) 7 f fd ["script"] (spQ M.K 1 S_law) := by
  refine fnQ_k (y := "script") (N := ["k", "well", "boat", "parts", "year", "week", "counts", "part", "there"]) (tb := ⟨[("weeks_between", .d 4 S_btw []), ("turn_of", .d 2 S_turn_ofN []), ("next_week", .d 3 S_nextN []), ("_law_take", .i 2 S_take []), ("weeks_of", .d 3 S_weeks_ofN []), ("_law_counts_right", .i 3 S_counts []), ("_law_round_right", .d 2 S_round []), ("_law_boat", .i 2 S_lboat2 []), ("_law_well", .q 2 S_well [])], [], []⟩) (hs := []) (nm := nm_law) (ps := ["script"]) ir_law F rfl (by exact "sc") nb rfl (tbOk ⟨⟨5, by decide, F_weeks_between⟩, ⟨5, by decide, F_turn_of⟩, ⟨5, by decide, F_next_week⟩, ⟨1, by decide, F_law_take⟩, ⟨5, by decide, F_weeks_of⟩, ⟨6, by decide, F_law_counts_right⟩, ⟨6, by decide, F_law_round_right⟩, ⟨3, by decide, F_law_boat⟩, ⟨1, by decide, F_law_well⟩, trivial⟩ trivial trivial) hs0 (by kernel_rfl) (fun a ns ds Φ hl hS => ?_)
  unfold S_law at hS
  split at hS
  · obtain ⟨hns, hS⟩ := hS
    exact "w"
    refine ⟨fun i ρ => ∃ s1 s2 s3 s4 s5 s6 s7 s8 s9, fpS s8 = [] ∧ ρ = ([("script", .sq a (ns.map V.int)), ("k", s1), ("well", s2), ("boat", s3), ("parts", s4), ("year", s5), ("week", s6), ("counts", s7), ("part", s8), ("there", s9)] : Rho), ⟨_, _, _, _, _, _, _, _, _, rfl, rfl⟩, fun i z ρ2 hz hI => ?_, fun ρ2 hI => ?_⟩
    · obtain ⟨s1, s2, s3, s4, s5, s6, s7, s8, s9, h8, rfl⟩ := hI
      obtain ⟨rfl, hi⟩ := rng_get hz
      have hi2 : (i : Int) < 1000 := by
        split at hi <;> split at hi <;> omega
      exact "w"
      rename_i w hw aw b w2 hw2 hb hb52 r1 w3 hw3 h1 h1' r2 w4 hw4 h2 h2' r3 w5 hw5 h3 h3'
      have hbw := hb.w52
      have hbw2 := hb.w2
      have hp : (b.own.map PyData.str).length = b.parts := List.length_map _
      have hp1 : 1 ≤ b.parts := hb.o1
      have hp2 : b.parts ≤ 12 := hb.o12
      have e17 : (10 : Int) ^ Int.toNat 17 = 100000000000000000 := rfl
      rw [e17] at h2'
      refine at_pick h3 (by simp; omega) fun z hz _ => ?_
      obtain ⟨y, rfl, hy⟩ : ∃ y : Nat, z = .int y ∧ y < 100000000000000000 := by
        simp only [List.mem_cons, List.not_mem_nil, or_false] at hz
        rcases hz with rfl | rfl | rfl
        · exact ⟨0, rfl, by omega⟩
        · obtain ⟨y, rfl⟩ := Int.eq_ofNat_of_zero_le h1
          exact ⟨y, rfl, by omega⟩
        · obtain ⟨y, rfl⟩ := Int.eq_ofNat_of_zero_le h2
          exact ⟨y, rfl, by omega⟩
      clear hz h1 h1' h2 h2' h3 h3' hi
      exact "w"
      refine ⟨fun ρ => ∃ (w6 : List Pd) (r : Nat), Wl w6 ∧ r < b.w ∧ ρ = ([("script", .sq a (ns.map V.int)), ("k", .sh (.int i)), ("well", .ow aw w6), ("boat", .sh b.toD), ("parts", .sh (.int (b.own.map PyData.str).length)), ("year", .sh (.int y)), ("week", .sh (.int (b.w * y + r : Nat))), ("counts", s7), ("part", s8), ("there", s9)] : Rho), ?_, ?_⟩
      · exact "w"
        rename_i r w6 hw6 g1 g2
        obtain ⟨r, rfl⟩ := Int.eq_ofNat_of_zero_le g1
        refine ⟨w6, r, hw6, by omega, ?_⟩
        rw [Int.natCast_add, Int.natCast_mul, Int.mul_comm]
        rfl
      rintro _ ⟨w6, r, hw6, hr, rfl⟩
      have hmw : 0 ≤ ((b.own.map PyData.str).length : Int) * (b.w : Int) ∧ ((b.own.map PyData.str).length : Int) * (b.w : Int) ≤ 624 := by
        rw [hp, ← Int.natCast_mul]
        have : b.parts * b.w ≤ 12 * 52 := Nat.mul_le_mul hp2 hbw
        omega
      refine ⟨fun ρ => ∃ (w7 : List Pd), Wl w7 ∧ ρ = ([("script", .sq a (ns.map V.int)), ("k", .sh (.int i)), ("well", .ow aw w7), ("boat", .sh b.toD), ("parts", .sh (.int (b.own.map PyData.str).length)), ("year", .sh (.int y)), ("week", .sh (.int (b.w * y + r : Nat))), ("counts", s7), ("part", s8), ("there", s9)] : Rho), ?_, ?_⟩
      · exact "w"
        refine ⟨_, rfl, hb, ?_⟩
        exact "w"
        rename_i t w7 hw7 g1 g2
        obtain ⟨t, rfl⟩ := Int.eq_ofNat_of_zero_le g1
        have ek : ((b.w * y + r : Nat) : Int) + ((b.own.map PyData.str).length : Int) * (b.w : Int) * (1 + (t : Int)) = ((b.w * y + r + b.parts * b.w * (1 + t) : Nat) : Int) := by
          rw [hp, Int.natCast_add (b.w * y + r), Int.natCast_mul (b.parts * b.w), Int.natCast_mul b.parts, Int.natCast_add 1 t]
          rfl
        refine ⟨_, ek, hb, ?_⟩
        rw [turn_round hb]
        generalize b.turn (b.w * y + r) = o
        cases o with
        | none =>
          exact "w"
          refine eq_same (n := 0) rfl (by decide) ?_
          exact "w"
          exact ⟨w7, hw7, rfl⟩
        | some q =>
          exact "w"
          · rename_i hz
            exact absurd rfl (of_decide_eq_false (not_t hz))
          · exact ⟨w7, hw7, rfl⟩
      rintro _ ⟨w7, hw7, rfl⟩
      exact "w"
      rename_i w8 hw8 _
      refine ⟨fun ρ => ∃ ac, ρ = ([("script", .sq a (ns.map V.int)), ("k", .sh (.int i)), ("well", .ow aw w8), ("boat", .sh b.toD), ("parts", .sh (.int (b.own.map PyData.str).length)), ("year", .sh (.int y)), ("week", .sh (.int (b.w * y + r : Nat))), ("counts", .ow ac ((List.range b.parts).map fun p : Nat => .int (b.inYear p y))), ("part", s8), ("there", s9)] : Rho), ?_, ?_⟩
      · exact "w"
        refine lc0_m (List.range b.parts) natD (fun p => .int (b.inYear p y)) (by rw [List.length_range]; omega) (fun p hpr => ?_) ?_ (by rw [hp]; rfl) h8
        · have hpr := List.mem_range.mp hpr
          exact "w"
          refine ⟨p, y, rfl, rfl, hpr, hb, ?_⟩
          exact "w"
          rw [List.length_map, weeks_len]
        exact "w"
        exact ⟨_, rfl⟩
      rintro _ ⟨ac, rfl⟩
      have el : (List.range b.parts).map (fun p : Nat => PyData.int (b.inYear p y)) = ((List.range b.parts).map fun p : Nat => (b.inYear p y : Int)).map PyData.int := by
        rw [List.map_map]; rfl
      have hne : (List.range b.parts).map (fun p : Nat => (b.inYear p y : Int)) ≠ [] := fun z => by
        have := congrArg List.length z
        rw [List.length_map, List.length_range] at this
        simp at this
        omega
      have hin : ∀ m : Int, m ∈ (List.range b.parts).map (fun p : Nat => (b.inYear p y : Int)) → ((b.sails.length / b.parts : Nat) : Int) ≤ m ∧ m ≤ ((b.sails.length / b.parts : Nat) : Int) + 1 := fun m hm => by
        obtain ⟨p, hp, rfl⟩ := List.mem_map.mp hm
        have := inYear_part hb (List.mem_range.mp hp) y
        omega
      have hsum : ((List.range b.parts).map fun p : Nat => (b.inYear p y : Int)).sum = (b.w : Int) - ((b.laid.map natD).length : Int) := by
        rw [lsum_cast (fun p => b.inYear p y), sum_range, all_inYear hb, List.length_map]
        have := hb.few
        omega
      rw [el]
      exact "w"
      refine ints_q ⟨hne, fun m hm _ => ?_⟩
      have m1 := hin m hm
      exact "w"
      refine ints_q ⟨hne, fun m' hm' _ => ?_⟩
      have m2 := hin m' hm'
      exact "w"
      · refine ints_q ?_
        exact "w"
        · rename_i hz
          exact absurd hsum (of_decide_eq_false (not_t hz))
        · rename_i q w9 hw9 g1 g2
          obtain ⟨q, rfl⟩ := Int.eq_ofNat_of_zero_le g1
          have hq : q < b.parts := by omega
          refine ⟨q, b.w * y + r, rfl, rfl, hq, hb, fun n n1 n2 n3 => ?_⟩
          exact "w"
          · refine ⟨n, rfl, hb, ?_⟩
            have n4 : ∀ j, b.ahead q (b.w * y + r + j) = b.ahead q (b.w * y + r) ∨ n < b.w * y + r + j := fun j => by
              by_cases e : n < b.w * y + r + j
              · exact .inr e
              · refine .inl ?_
                rw [ahead_cut, cnt_zero fun i hi => n3 _ (by omega) (by omega)]
                rfl
            obtain ⟨j, rfl⟩ : ∃ j, n = b.w * y + r + j := ⟨n - (b.w * y + r), by omega⟩
            have n5 : b.ahead q (b.w * y + r + j) = b.ahead q (b.w * y + r) := (n4 j).resolve_right (by omega)
            have n6 : (if b.w * y + r + j ≤ b.w * y + r then (0 : Int) else (b.ahead q (b.w * y + r + j) : Int) - (b.ahead q (b.w * y + r) : Int)) = 0 := by
              split
              · rfl
              · omega
            cases ht : b.turn (b.w * y + r + j) with
            | none => rw [ht] at n2; cases n2
            | some q' =>
              rw [ht] at n2
              obtain rfl : q' = q := of_decide_eq_true n2
              exact "w"
              · refine ⟨_, _, _, rfl, rfl, rfl, hq, hb, ?_⟩
                rw [n6]
                exact "w"
                exact ⟨_, _, _, _, _, _, _, _, _, rfl, rfl⟩
              · rename_i hz
                exact absurd rfl (of_decide_eq_false (not_t hz))
          · rename_i hz
            have := of_decide_eq_true hz
            exfalso
            omega
      · rename_i hz
        have := of_decide_eq_true hz
        exfalso
        omega
    · obtain ⟨s1, s2, s3, s4, s5, s6, s7, s8, s9, h8, rfl⟩ := hI
      exact "w"
      all_goals exact hS
  · exact hS.elim

end M
namespace M
open PySem PySem.Spec L2 PyProof.Rows KJ
/-! ### the head -/
def d_is_name : He.DefD := ⟨("is_name", none), "is_name", "is_name", defArgs s_is_name, defBody s_is_name, defScope s_is_name, [], []⟩
def d_is_whole : He.DefD := ⟨("is_whole", none), "is_whole", "is_whole", defArgs s_is_whole, defBody s_is_whole, defScope s_is_whole, [], []⟩
def d_is_laid : He.DefD := ⟨("is_laid", none), "is_laid", "is_laid", defArgs s_is_laid, defBody s_is_laid, defScope s_is_laid, [], []⟩
def d_is_boat : He.DefD := ⟨("is_boat", none), "is_boat", "is_boat", defArgs s_is_boat, defBody s_is_boat, defScope s_is_boat, [], []⟩
def d_need_boat : He.DefD := ⟨("need_boat", none), "need_boat", "need_boat", defArgs s_need_boat, defBody s_need_boat, defScope s_need_boat, [], []⟩
def d_parts_in : He.DefD := ⟨("parts_in", none), "parts_in", "parts_in", defArgs s_parts_in, defBody s_parts_in, defScope s_parts_in, [], []⟩
def d_need_part : He.DefD := ⟨("need_part", none), "need_part", "need_part", defArgs s_need_part, defBody s_need_part, defScope s_need_part, [], []⟩
def d_need_least : He.DefD := ⟨("need_least", none), "need_least", "need_least", defArgs s_need_least, defBody s_need_least, defScope s_need_least, [.int 0], []⟩
def d_sailing : He.DefD := ⟨("sailing", none), "sailing", "sailing", defArgs s_sailing, defBody s_sailing, defScope s_sailing, [], []⟩
def d_turn_in : He.DefD := ⟨("turn_in", none), "turn_in", "turn_in", defArgs s_turn_in, defBody s_turn_in, defScope s_turn_in, [], []⟩
def d_turn_of : He.DefD := ⟨("turn_of", none), "turn_of", "turn_of", defArgs s_turn_of, defBody s_turn_of, defScope s_turn_of, [], []⟩
def d_weeks_in : He.DefD := ⟨("weeks_in", none), "weeks_in", "weeks_in", defArgs s_weeks_in, defBody s_weeks_in, defScope s_weeks_in, [], []⟩
def d_weeks_of : He.DefD := ⟨("weeks_of", none), "weeks_of", "weeks_of", defArgs s_weeks_of, defBody s_weeks_of, defScope s_weeks_of, [], []⟩
def d_weeks_ahead : He.DefD := ⟨("weeks_ahead", none), "weeks_ahead", "weeks_ahead", defArgs s_weeks_ahead, defBody s_weeks_ahead, defScope s_weeks_ahead, [], []⟩
def d_weeks_between : He.DefD := ⟨("weeks_between", none), "weeks_between", "weeks_between", defArgs s_weeks_between, defBody s_weeks_between, defScope s_weeks_between, [], []⟩
def d_next_week : He.DefD := ⟨("next_week", none), "next_week", "next_week", defArgs s_next_week, defBody s_next_week, defScope s_next_week, [.int 0], []⟩
def d_law_well : He.DefD := ⟨("_law_well", none), "_law_well", "_law_well", defArgs s_law_well, defBody s_law_well, defScope s_law_well, [], []⟩
def d_law_take : He.DefD := ⟨("_law_take", none), "_law_take", "_law_take", defArgs s_law_take, defBody s_law_take, defScope s_law_take, [], []⟩
def d_law_name : He.DefD := ⟨("_law_name", none), "_law_name", "_law_name", defArgs s_law_name, defBody s_law_name, defScope s_law_name, [], []⟩
def d_law_boat : He.DefD := ⟨("_law_boat", none), "_law_boat", "_law_boat", defArgs s_law_boat, defBody s_law_boat, defScope s_law_boat, [], []⟩
def d_law_round_right : He.DefD := ⟨("_law_round_right", none), "_law_round_right", "_law_round_right", defArgs s_law_round_right, defBody s_law_round_right, defScope s_law_round_right, [], []⟩
def d_law_counts_right : He.DefD := ⟨("_law_counts_right", none), "_law_counts_right", "_law_counts_right", defArgs s_law_counts_right, defBody s_law_counts_right, defScope s_law_counts_right, [], []⟩
def d_law : He.DefD := ⟨("law", none), "law", "law", defArgs s_law, defBody s_law, defScope s_law, [], []⟩
def fn : List He.DefD := [d_is_name, d_is_whole, d_is_laid, d_is_boat, d_need_boat, d_parts_in, d_need_part, d_need_least, d_sailing, d_turn_in, d_turn_of, d_weeks_in, d_weeks_of, d_weeks_ahead, d_weeks_between, d_next_week, d_law_well, d_law_take, d_law_name, d_law_boat, d_law_round_right, d_law_counts_right, d_law]
def fa : List He.Fa := [.glo "KeelError", .glo "NoBoat", .glo "NoPart", .glo "NoNumber", .glo "is_name", .glo "is_whole", .glo "is_laid", .glo "is_boat", .glo "need_boat", .glo "parts_in", .glo "need_part", .glo "need_least", .glo "sailing", .glo "turn_in", .glo "turn_of", .glo "weeks_in", .glo "weeks_of", .glo "weeks_ahead", .glo "weeks_between", .glo "next_week", .glo "_law_well", .glo "_law_take", .glo "_law_name", .glo "_law_boat", .glo "_law_round_right", .glo "_law_counts_right", .glo "law", .free "abs", .free "all", .free "any", .free "bool", .free "dict", .free "divmod", .free "enumerate", .free "int", .free "isinstance", .free "len", .free "list", .free "max", .free "min", .free "range", .free "set", .free "sorted", .free "str", .free "sum", .free "tuple", .free "zip", .free "ValueError", .str "SMALL" "abcdefghijklmnopqrstuvwxyz", .int "MOST_NAME" (8), .int "MOST_WEEKS" (52), .int "MOST_PARTS" (12), .int "MOST_HOURS" (1000000), .exc "KeelError", .exc "NoBoat", .exc "NoPart", .exc "NoNumber"]
def exF (K : PySem.W.Frag) : Bool := true
abbrev R : PySem.W.OpenRow := PySem.W.OpenLaw.row PySem.Challenge.rw_keelround_k03_whole_turns_come_round
abbrev hk : PySem.W.Hook := He.hookX 4 fa fn [] [] exF
def ob (s : PySem.W.SharedT) : He.AlX := He.obsX 4 fa fn [] [] exF (HandSHeadRun.getT s)
theorem ob_eq (s : PySem.W.SharedT) : ob s = hk.obs s.abs := He.obsX_eq (HandSHeadRun.getT_eq s)
def loose0 : List Str := ["KeelError", "NoBoat", "NoPart", "NoNumber", "SMALL", "MOST_NAME", "MOST_WEEKS", "MOST_PARTS", "MOST_HOURS", "is_name", "is_whole", "is_laid", "is_boat", "need_boat", "parts_in", "need_part", "need_least", "sailing", "turn_in", "turn_of", "weeks_in", "weeks_of", "weeks_ahead", "weeks_between", "next_week", "_law_well", "_law_take", "_law_name", "_law_boat", "_law_round_right"]
def loose1 : List Str := ["_law_counts_right"]
abbrev loose : List Str := loose0 ++ loose1
theorem run (w : World) : HandSHeadRun.RunEq R (PySem.W.view R.prog [35]) hk ob 6000 loose w := by
  intro os
  kernel_rfl
end M
namespace M
open PySem PySem.Spec L2 PyProof.Rows KJ
/-! ### what the head tells, by names -/
section
variable {P : Program} {w w0 : World} {K : PySem.W.Frag} {h h0 : Heap} {mg : Str → Option Value} {base : Heap}
theorem nb_of (X : K.In h) (G : h.Ns mainGlobals mg) (c : He.SaysX fa fn [] [] exF w0 h0 K) : NoB mg := fun x hx => by
  have hx : x ∈ bl := List.contains_iff_mem.mp hx
  simp only [bl, List.mem_cons, List.not_mem_nil, or_false] at hx
  rcases hx with rfl | rfl | rfl | rfl | rfl | rfl | rfl | rfl | rfl | rfl | rfl | rfl | rfl | rfl | rfl | rfl | rfl | rfl | rfl | rfl | rfl
  · exact He.free_ok X G (c.t.d.fact 27 (f := .free "abs") rfl)
  · exact He.free_ok X G (c.t.d.fact 28 (f := .free "all") rfl)
  · exact He.free_ok X G (c.t.d.fact 29 (f := .free "any") rfl)
  · exact He.free_ok X G (c.t.d.fact 30 (f := .free "bool") rfl)
  · exact He.free_ok X G (c.t.d.fact 31 (f := .free "dict") rfl)
  · exact He.free_ok X G (c.t.d.fact 32 (f := .free "divmod") rfl)
  · exact He.free_ok X G (c.t.d.fact 33 (f := .free "enumerate") rfl)
  · exact He.free_ok X G (c.t.d.fact 34 (f := .free "int") rfl)
  · exact He.free_ok X G (c.t.d.fact 35 (f := .free "isinstance") rfl)
  · exact He.free_ok X G (c.t.d.fact 36 (f := .free "len") rfl)
  · exact He.free_ok X G (c.t.d.fact 37 (f := .free "list") rfl)
  · exact He.free_ok X G (c.t.d.fact 38 (f := .free "max") rfl)
  · exact He.free_ok X G (c.t.d.fact 39 (f := .free "min") rfl)
  · exact He.free_ok X G (c.t.d.fact 40 (f := .free "range") rfl)
  · exact He.free_ok X G (c.t.d.fact 41 (f := .free "set") rfl)
  · exact He.free_ok X G (c.t.d.fact 42 (f := .free "sorted") rfl)
  · exact He.free_ok X G (c.t.d.fact 43 (f := .free "str") rfl)
  · exact He.free_ok X G (c.t.d.fact 44 (f := .free "sum") rfl)
  · exact He.free_ok X G (c.t.d.fact 45 (f := .free "tuple") rfl)
  · exact He.free_ok X G (c.t.d.fact 46 (f := .free "zip") rfl)
  · exact He.free_ok X G (c.t.d.fact 47 (f := .free "ValueError") rfl)
theorem df_is_name (X : K.In h) (G : h.Ns mainGlobals mg) (c : He.SaysX fa fn [] [] exF w0 h0 K) : Df ⟨P, w, K, mg, base⟩ "is_name" s_is_name [] := by
  obtain ⟨fd, F⟩ := c.t.d.def_ 0 (d := d_is_name) rfl
  exact ⟨_, fd, He.glo_ok X G (c.t.d.fact 4 (f := .glo "is_name") rfl), F⟩
theorem df_is_whole (X : K.In h) (G : h.Ns mainGlobals mg) (c : He.SaysX fa fn [] [] exF w0 h0 K) : Df ⟨P, w, K, mg, base⟩ "is_whole" s_is_whole [] := by
  obtain ⟨fd, F⟩ := c.t.d.def_ 1 (d := d_is_whole) rfl
  exact ⟨_, fd, He.glo_ok X G (c.t.d.fact 5 (f := .glo "is_whole") rfl), F⟩
theorem df_is_laid (X : K.In h) (G : h.Ns mainGlobals mg) (c : He.SaysX fa fn [] [] exF w0 h0 K) : Df ⟨P, w, K, mg, base⟩ "is_laid" s_is_laid [] := by
  obtain ⟨fd, F⟩ := c.t.d.def_ 2 (d := d_is_laid) rfl
  exact ⟨_, fd, He.glo_ok X G (c.t.d.fact 6 (f := .glo "is_laid") rfl), F⟩
theorem df_is_boat (X : K.In h) (G : h.Ns mainGlobals mg) (c : He.SaysX fa fn [] [] exF w0 h0 K) : Df ⟨P, w, K, mg, base⟩ "is_boat" s_is_boat [] := by
  obtain ⟨fd, F⟩ := c.t.d.def_ 3 (d := d_is_boat) rfl
  exact ⟨_, fd, He.glo_ok X G (c.t.d.fact 7 (f := .glo "is_boat") rfl), F⟩
theorem df_need_boat (X : K.In h) (G : h.Ns mainGlobals mg) (c : He.SaysX fa fn [] [] exF w0 h0 K) : Df ⟨P, w, K, mg, base⟩ "need_boat" s_need_boat [] := by
  obtain ⟨fd, F⟩ := c.t.d.def_ 4 (d := d_need_boat) rfl
  exact ⟨_, fd, He.glo_ok X G (c.t.d.fact 8 (f := .glo "need_boat") rfl), F⟩
theorem df_parts_in (X : K.In h) (G : h.Ns mainGlobals mg) (c : He.SaysX fa fn [] [] exF w0 h0 K) : Df ⟨P, w, K, mg, base⟩ "parts_in" s_parts_in [] := by
  obtain ⟨fd, F⟩ := c.t.d.def_ 5 (d := d_parts_in) rfl
  exact ⟨_, fd, He.glo_ok X G (c.t.d.fact 9 (f := .glo "parts_in") rfl), F⟩
theorem df_need_part (X : K.In h) (G : h.Ns mainGlobals mg) (c : He.SaysX fa fn [] [] exF w0 h0 K) : Df ⟨P, w, K, mg, base⟩ "need_part" s_need_part [] := by
  obtain ⟨fd, F⟩ := c.t.d.def_ 6 (d := d_need_part) rfl
  exact ⟨_, fd, He.glo_ok X G (c.t.d.fact 10 (f := .glo "need_part") rfl), F⟩
theorem df_need_least (X : K.In h) (G : h.Ns mainGlobals mg) (c : He.SaysX fa fn [] [] exF w0 h0 K) : Df ⟨P, w, K, mg, base⟩ "need_least" s_need_least [V.int 0] := by
  obtain ⟨fd, F⟩ := c.t.d.def_ 7 (d := d_need_least) rfl
  exact ⟨_, fd, He.glo_ok X G (c.t.d.fact 11 (f := .glo "need_least") rfl), F⟩
theorem df_sailing (X : K.In h) (G : h.Ns mainGlobals mg) (c : He.SaysX fa fn [] [] exF w0 h0 K) : Df ⟨P, w, K, mg, base⟩ "sailing" s_sailing [] := by
  obtain ⟨fd, F⟩ := c.t.d.def_ 8 (d := d_sailing) rfl
  exact ⟨_, fd, He.glo_ok X G (c.t.d.fact 12 (f := .glo "sailing") rfl), F⟩
theorem df_turn_in (X : K.In h) (G : h.Ns mainGlobals mg) (c : He.SaysX fa fn [] [] exF w0 h0 K) : Df ⟨P, w, K, mg, base⟩ "turn_in" s_turn_in [] := by
  obtain ⟨fd, F⟩ := c.t.d.def_ 9 (d := d_turn_in) rfl
  exact ⟨_, fd, He.glo_ok X G (c.t.d.fact 13 (f := .glo "turn_in") rfl), F⟩
theorem df_turn_of (X : K.In h) (G : h.Ns mainGlobals mg) (c : He.SaysX fa fn [] [] exF w0 h0 K) : Df ⟨P, w, K, mg, base⟩ "turn_of" s_turn_of [] := by
  obtain ⟨fd, F⟩ := c.t.d.def_ 10 (d := d_turn_of) rfl
  exact ⟨_, fd, He.glo_ok X G (c.t.d.fact 14 (f := .glo "turn_of") rfl), F⟩
theorem df_weeks_in (X : K.In h) (G : h.Ns mainGlobals mg) (c : He.SaysX fa fn [] [] exF w0 h0 K) : Df ⟨P, w, K, mg, base⟩ "weeks_in" s_weeks_in [] := by
  obtain ⟨fd, F⟩ := c.t.d.def_ 11 (d := d_weeks_in) rfl
  exact ⟨_, fd, He.glo_ok X G (c.t.d.fact 15 (f := .glo "weeks_in") rfl), F⟩
theorem df_weeks_of (X : K.In h) (G : h.Ns mainGlobals mg) (c : He.SaysX fa fn [] [] exF w0 h0 K) : Df ⟨P, w, K, mg, base⟩ "weeks_of" s_weeks_of [] := by
  obtain ⟨fd, F⟩ := c.t.d.def_ 12 (d := d_weeks_of) rfl
  exact ⟨_, fd, He.glo_ok X G (c.t.d.fact 16 (f := .glo "weeks_of") rfl), F⟩
theorem df_weeks_ahead (X : K.In h) (G : h.Ns mainGlobals mg) (c : He.SaysX fa fn [] [] exF w0 h0 K) : Df ⟨P, w, K, mg, base⟩ "weeks_ahead" s_weeks_ahead [] := by
  obtain ⟨fd, F⟩ := c.t.d.def_ 13 (d := d_weeks_ahead) rfl
  exact ⟨_, fd, He.glo_ok X G (c.t.d.fact 17 (f := .glo "weeks_ahead") rfl), F⟩
theorem df_weeks_between (X : K.In h) (G : h.Ns mainGlobals mg) (c : He.SaysX fa fn [] [] exF w0 h0 K) : Df ⟨P, w, K, mg, base⟩ "weeks_between" s_weeks_between [] := by
  obtain ⟨fd, F⟩ := c.t.d.def_ 14 (d := d_weeks_between) rfl
  exact ⟨_, fd, He.glo_ok X G (c.t.d.fact 18 (f := .glo "weeks_between") rfl), F⟩
theorem df_next_week (X : K.In h) (G : h.Ns mainGlobals mg) (c : He.SaysX fa fn [] [] exF w0 h0 K) : Df ⟨P, w, K, mg, base⟩ "next_week" s_next_week [V.int 0] := by
  obtain ⟨fd, F⟩ := c.t.d.def_ 15 (d := d_next_week) rfl
  exact ⟨_, fd, He.glo_ok X G (c.t.d.fact 19 (f := .glo "next_week") rfl), F⟩
theorem df_law_well (X : K.In h) (G : h.Ns mainGlobals mg) (c : He.SaysX fa fn [] [] exF w0 h0 K) : Df ⟨P, w, K, mg, base⟩ "_law_well" s_law_well [] := by
  obtain ⟨fd, F⟩ := c.t.d.def_ 16 (d := d_law_well) rfl
  exact ⟨_, fd, He.glo_ok X G (c.t.d.fact 20 (f := .glo "_law_well") rfl), F⟩
theorem df_law_take (X : K.In h) (G : h.Ns mainGlobals mg) (c : He.SaysX fa fn [] [] exF w0 h0 K) : Df ⟨P, w, K, mg, base⟩ "_law_take" s_law_take [] := by
  obtain ⟨fd, F⟩ := c.t.d.def_ 17 (d := d_law_take) rfl
  exact ⟨_, fd, He.glo_ok X G (c.t.d.fact 21 (f := .glo "_law_take") rfl), F⟩
theorem df_law_name (X : K.In h) (G : h.Ns mainGlobals mg) (c : He.SaysX fa fn [] [] exF w0 h0 K) : Df ⟨P, w, K, mg, base⟩ "_law_name" s_law_name [] := by
  obtain ⟨fd, F⟩ := c.t.d.def_ 18 (d := d_law_name) rfl
  exact ⟨_, fd, He.glo_ok X G (c.t.d.fact 22 (f := .glo "_law_name") rfl), F⟩
theorem df_law_boat (X : K.In h) (G : h.Ns mainGlobals mg) (c : He.SaysX fa fn [] [] exF w0 h0 K) : Df ⟨P, w, K, mg, base⟩ "_law_boat" s_law_boat [] := by
  obtain ⟨fd, F⟩ := c.t.d.def_ 19 (d := d_law_boat) rfl
  exact ⟨_, fd, He.glo_ok X G (c.t.d.fact 23 (f := .glo "_law_boat") rfl), F⟩
theorem df_law_round_right (X : K.In h) (G : h.Ns mainGlobals mg) (c : He.SaysX fa fn [] [] exF w0 h0 K) : Df ⟨P, w, K, mg, base⟩ "_law_round_right" s_law_round_right [] := by
  obtain ⟨fd, F⟩ := c.t.d.def_ 20 (d := d_law_round_right) rfl
  exact ⟨_, fd, He.glo_ok X G (c.t.d.fact 24 (f := .glo "_law_round_right") rfl), F⟩
theorem df_law_counts_right (X : K.In h) (G : h.Ns mainGlobals mg) (c : He.SaysX fa fn [] [] exF w0 h0 K) : Df ⟨P, w, K, mg, base⟩ "_law_counts_right" s_law_counts_right [] := by
  obtain ⟨fd, F⟩ := c.t.d.def_ 21 (d := d_law_counts_right) rfl
  exact ⟨_, fd, He.glo_ok X G (c.t.d.fact 25 (f := .glo "_law_counts_right") rfl), F⟩
theorem gk_SMALL (X : K.In h) (G : h.Ns mainGlobals mg) (c : He.SaysX fa fn [] [] exF w0 h0 K) : Gk K mg "SMALL" (.str "abcdefghijklmnopqrstuvwxyz") := by
  obtain ⟨t, e⟩ := He.str_ok X G (c.t.d.fact 48 (f := (.str "SMALL" "abcdefghijklmnopqrstuvwxyz")) rfl)
  exact ⟨⟨_, .str _, e, ⟨_, rfl⟩, fun G => .str _⟩⟩
theorem gk_MOST_NAME (X : K.In h) (G : h.Ns mainGlobals mg) (c : He.SaysX fa fn [] [] exF w0 h0 K) : Gk K mg "MOST_NAME" (.int 8) := by
  obtain ⟨t, e⟩ := He.int_ok X G (c.t.d.fact 49 (f := (.int "MOST_NAME" (8))) rfl)
  exact ⟨⟨_, .int _, e, ⟨_, rfl⟩, fun G => .int _⟩⟩
theorem gk_MOST_WEEKS (X : K.In h) (G : h.Ns mainGlobals mg) (c : He.SaysX fa fn [] [] exF w0 h0 K) : Gk K mg "MOST_WEEKS" (.int 52) := by
  obtain ⟨t, e⟩ := He.int_ok X G (c.t.d.fact 50 (f := (.int "MOST_WEEKS" (52))) rfl)
  exact ⟨⟨_, .int _, e, ⟨_, rfl⟩, fun G => .int _⟩⟩
theorem gk_MOST_PARTS (X : K.In h) (G : h.Ns mainGlobals mg) (c : He.SaysX fa fn [] [] exF w0 h0 K) : Gk K mg "MOST_PARTS" (.int 12) := by
  obtain ⟨t, e⟩ := He.int_ok X G (c.t.d.fact 51 (f := (.int "MOST_PARTS" (12))) rfl)
  exact ⟨⟨_, .int _, e, ⟨_, rfl⟩, fun G => .int _⟩⟩
theorem gk_MOST_HOURS (X : K.In h) (G : h.Ns mainGlobals mg) (c : He.SaysX fa fn [] [] exF w0 h0 K) : Gk K mg "MOST_HOURS" (.int 1000000) := by
  obtain ⟨t, e⟩ := He.int_ok X G (c.t.d.fact 52 (f := (.int "MOST_HOURS" (1000000))) rfl)
  exact ⟨⟨_, .int _, e, ⟨_, rfl⟩, fun G => .int _⟩⟩
theorem xc_NoBoat (X : K.In h) (G : h.Ns mainGlobals mg) (c : He.SaysX fa fn [] [] exF w0 h0 K) : XcK K mg "NoBoat" (He.ga K "NoBoat") := by
  obtain ⟨e1, e2, e3, e4⟩ := He.exc_ok (c.t.d.fact 54 (f := .exc "NoBoat") rfl)
  exact ⟨He.glo_ok X G (c.t.d.fact 1 (f := .glo "NoBoat") rfl), e2, e1, e3, e4⟩
theorem xc_NoPart (X : K.In h) (G : h.Ns mainGlobals mg) (c : He.SaysX fa fn [] [] exF w0 h0 K) : XcK K mg "NoPart" (He.ga K "NoPart") := by
  obtain ⟨e1, e2, e3, e4⟩ := He.exc_ok (c.t.d.fact 55 (f := .exc "NoPart") rfl)
  exact ⟨He.glo_ok X G (c.t.d.fact 2 (f := .glo "NoPart") rfl), e2, e1, e3, e4⟩
theorem xc_NoNumber (X : K.In h) (G : h.Ns mainGlobals mg) (c : He.SaysX fa fn [] [] exF w0 h0 K) : XcK K mg "NoNumber" (He.ga K "NoNumber") := by
  obtain ⟨e1, e2, e3, e4⟩ := He.exc_ok (c.t.d.fact 56 (f := .exc "NoNumber") rfl)
  exact ⟨He.glo_ok X G (c.t.d.fact 3 (f := .glo "NoNumber") rfl), e2, e1, e3, e4⟩
end
end M
namespace M
open PySem PySem.Spec L2 PyProof.Rows KJ
/-! ### all put together -/
def spLaw (K : PySem.W.Frag) : Sp := fun vs H Q _ => spQ K 1 S_law vs H Q fun _ _ _ => False
theorem facts {P : Program} {w w0 : World} {K : PySem.W.Frag} {h h0 : Heap} {mg : Str → Option Value} {f : Addr} (X : K.In h) (G : h.Ns mainGlobals mg) (hfa : mg ("law" : Str) = some (.ref f)) (c : He.SaysX fa fn [] [] exF w0 h0 K) :
    ∃ fd : FuncData, (∀ (s : Shared) (v : Value), BindsTo s fd ⟨[v], []⟩ [("script", v)]) ∧ ∀ base : Heap, K.In base → base.Ns mainGlobals mg → FnOk P w K mg base CX0 7 f fd ["script"] (spLaw K) := by
  obtain ⟨fd, F⟩ := c.t.d.def_ 22 (d := d_law) rfl
  have e := hfa.symm.trans (He.glo_ok X G (c.t.d.fact 26 (f := .glo "law") rfl))
  cases e
  have b := FunD.bindsA (ps := ["script"]) F fun _ _ _ _ _ _ us hl => match us, hl with | [_], _ => rfl
  refine ⟨fd, fun s v => b s [v] rfl, fun base _ _ => ?_⟩
  have nb := nb_of X G c
  have F_is_name := ok_is_name (M := ⟨P, w, K, mg, base⟩) nb (df_is_name X G c) (gk_SMALL X G c) (gk_MOST_NAME X G c)
  have F_is_whole := ok_is_whole (M := ⟨P, w, K, mg, base⟩) nb (df_is_whole X G c) 
  have F_is_laid := ok_is_laid (M := ⟨P, w, K, mg, base⟩) nb (df_is_laid X G c) F_is_whole
  have F_is_boat := ok_is_boat (M := ⟨P, w, K, mg, base⟩) nb (df_is_boat X G c) (gk_MOST_PARTS X G c) (gk_MOST_HOURS X G c) (gk_MOST_WEEKS X G c) F_is_name F_is_whole F_is_laid
  have F_need_boat := (ok_need_boat (M := ⟨P, w, K, mg, base⟩) nb (df_need_boat X G c) (xc_NoBoat X G c) F_is_boat).weak fun _ _ h => boat_ok h
  have F_parts_in := ok_parts_in (M := ⟨P, w, K, mg, base⟩) nb (df_parts_in X G c) 
  have F_need_part := ok_need_part (M := ⟨P, w, K, mg, base⟩) nb (df_need_part X G c) (xc_NoPart X G c) F_parts_in
  have F_need_least := ok_need_least (M := ⟨P, w, K, mg, base⟩) nb (df_need_least X G c) (xc_NoNumber X G c)
  have F_need_least_d := ok_need_least_d (M := ⟨P, w, K, mg, base⟩) nb (df_need_least X G c) (xc_NoNumber X G c)
  have F_sailing := ok_sailing (M := ⟨P, w, K, mg, base⟩) nb (df_sailing X G c) 
  have F_turn_in := ok_turn_in (M := ⟨P, w, K, mg, base⟩) nb (df_turn_in X G c) F_parts_in
  have F_turn_of := (ok_turn_of (M := ⟨P, w, K, mg, base⟩) nb (df_turn_of X G c) F_turn_in F_need_least_d F_need_boat).weak fun _ _ h => turn_okN h
  have F_weeks_in := ok_weeks_in (M := ⟨P, w, K, mg, base⟩) nb (df_weeks_in X G c) F_turn_in
  have F_weeks_of := (ok_weeks_of (M := ⟨P, w, K, mg, base⟩) nb (df_weeks_of X G c) F_weeks_in F_need_least_d F_need_part F_need_boat).weak fun _ _ h => weeks_okN h
  have F_weeks_ahead := ok_weeks_ahead (M := ⟨P, w, K, mg, base⟩) nb (df_weeks_ahead X G c) F_weeks_in F_sailing F_parts_in
  have F_weeks_between := (ok_weeks_between (M := ⟨P, w, K, mg, base⟩) nb (df_weeks_between X G c) F_weeks_ahead F_need_least_d F_need_part F_need_boat).weak fun _ _ h => btw_ok h
  have F_next_week := (ok_next_week (M := ⟨P, w, K, mg, base⟩) nb (df_next_week X G c) F_weeks_in F_need_least_d F_need_part F_need_boat).weak fun _ _ h => next_okN h
  have F_next_week_d := (ok_next_week_d (M := ⟨P, w, K, mg, base⟩) nb (df_next_week X G c) F_weeks_in F_need_least_d F_need_part F_need_boat).weak fun _ _ h => next_okN h
  have F_law_well := ok_well (M := ⟨P, w, K, mg, base⟩) nb (df_law_well X G c)
  have F_law_take := ok_take (M := ⟨P, w, K, mg, base⟩) nb (df_law_take X G c)
  have F_law_name := ok_lname (M := ⟨P, w, K, mg, base⟩) nb (df_law_name X G c) F_law_take
  have F_law_boat := (ok_law_boat (M := ⟨P, w, K, mg, base⟩) nb (df_law_boat X G c) F_law_take F_law_name).weakI fun _ _ _ h => lboat2 h
  have F_law_round_right := ok_law_round_right (M := ⟨P, w, K, mg, base⟩) nb (df_law_round_right X G c) F_turn_of
  have F_law_counts_right := ok_law_counts_right (M := ⟨P, w, K, mg, base⟩) nb (df_law_counts_right X G c) F_weeks_between F_law_take
  exact KJ.FnOk.quiet (ok_law (M := ⟨P, w, K, mg, base⟩) nb F F_weeks_between F_turn_of F_next_week F_law_take F_weeks_of F_law_counts_right F_law_round_right F_law_boat F_law_well)
end M
open PySem PySem.W PySem.Calls PyProof.Rows --k
theorem PySem.Challenge.cw_keelround_k03_whole_turns_come_round_holds : PySem.Challenge.rw_keelround_k03_whole_turns_come_round.Holds := by
  w_on; o_law
  refine HandSHeadRun.head_any (r := OpenLaw.row PySem.Challenge.rw_keelround_k03_whole_turns_come_round) (q := view (OpenLaw.row PySem.Challenge.rw_keelround_k03_whole_turns_come_round).prog [35]) (H := M.hk) (ob := M.ob) (M := 6000) (loose := M.loose) (d := HandSHeadRun.topDef (OpenLaw.row PySem.Challenge.rw_keelround_k03_whole_turns_come_round).prog 35) (kwd := []) M.ob_eq
    (by kernel_rfl) (fun s => by kernel_rfl) M.run (by kernel_rfl) (by kernel_rfl) (by kernel_rfl) (by rfl) (by first | assumption | decide +kernel) (by decide +kernel) ⟨rfl, rfl, rfl, rfl, rfl, by decide +kernel⟩ ?hw ?hc
  case hw => w_witness2
  case hc =>
    refine L2.walk_ofE (l := PySem.Challenge.rw_keelround_k03_whole_turns_come_round) (n := 63) (k := 7) (x := "script") (CX := L2.CX0) rfl (by decide) (by kernel_rfl) ⟨rfl, by decide, by decide⟩ ?F (fun _ _ _ _ z => z)
    intro w mg fa h Y G hmg0
    obtain ⟨K, KX, c⟩ := Y
    have hmg : mg ("law" : PySem.Str) = some (.ref fa) := by
      have e : (HandSHeadRun.topDef (OpenLaw.row PySem.Challenge.rw_keelround_k03_whole_turns_come_round).prog 35).name = ("law" : PySem.Str) := by kernel_rfl
      rw [← e]
      exact hmg0
    obtain ⟨fd, hb, hF⟩ := M.facts (P := (PySem.Challenge.rw_keelround_k03_whole_turns_come_round).prog) (w := w) KX G hmg c
    refine ⟨K, fd, M.spLaw K, KX, hb, fun H a ns hl _ hS => ?_, hF⟩
    refine ⟨H, a, ns, [], [], fun r => r = .d (.bool true), rfl, KJ.Ex.rfl' H, hS, .nil, rfl, ⟨hl, rfl⟩, fun r hr G' H' _ _ _ _ => ?_⟩
    subst hr
    intro v rv
    cases rv
    rfl
