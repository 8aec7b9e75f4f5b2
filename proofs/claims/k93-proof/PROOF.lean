import PyProof.Rows.All
import Wide.All
import OpenK.AllK
import Wide.FinOn
import PyProof.EqAt
import PyProof.EqKinds
import PyProof.TupleCall
import HandS.ForMost
import HandS.Exc
import HandS.ExcOwn
import HandS.ExcInit
import HandS.TryMany
import HandS.WordsExc
import HandS.IsInst
import HandS.SortInts
import HandS.Conv
import HandS.ExcField
import KE.KSuper
import KE.KExcSuper
import HandS.Nested
import HandS.ClsMeth
import PySem.Challenge.RW_starless_k93_whole_tapes
import HandS.Defaults
set_option Elab.async false
set_option linter.all false
set_option maxRecDepth 100000
set_option maxHeartbeats 4000000
/-! DL: the data layer. Data as trees (D), changing objects by number in a memory (M : List MO). -/
namespace DL
open PySem PySem.Spec PyProof.Rows L2

/-- data -/
inductive D where
  | non | bl (b : Bool) | int (i : Int) | str (x : Str) | ty (n : String)
  | ptr (k : Nat) | lst (xs : List D) | tup (xs : List D) | scr (ns : List Int) | xc (a dd : Addr) (ks : List Str) (ds : List D)
/-- an object that may change -/
inductive MO where
  | lst (xs : List D) | dK (kvs : List (Key × D)) | lk (o : Obj) (ks : List (Key × V)) (kvs : List (Key × D)) | ins (C : Addr) (fs : List (Str × D))

section
variable (K : PySem.W.Frag) (G : Hp) (as : List Addr)
mutual
/-- the value v shows the datum d; G: what stands for good, as: where the objects are -/
inductive Rp : V → D → Prop
  | non : Rp .non .non
  | bl (b : Bool) : Rp (.bl b) (.bl b)
  | int (i : Int) : Rp (.int i) (.int i)
  | str (x : Str) : Rp (.str x) (.str x)
  | ty (n : String) : Rp (.ty n) (.ty n)
  | ptr {k : Nat} {a : Addr} (h : as[k]? = some a) : Rp (.ref a) (.ptr k)
  | lst {a : Addr} {vs : List V} {xs : List D} (h : G a = some (.lst vs)) (r : Rps vs xs) : Rp (.ref a) (.lst xs)
  | scr {a : Addr} {ns : List Int} (h : SqL K G a (ns.map V.int)) : Rp (.ref a) (.scr ns)
  | xc {a dd : Addr} {ks : List Str} {vs : List V} {ds : List D} (h : G dd = some (.xd (ks.zip vs))) (r : Rps vs ds) : Rp (.ref a) (.xc a dd ks ds)
  | tup {a : Addr} {vs : List V} {xs : List D} (h : SqT K G a vs) (r : Rps vs xs) : Rp (.ref a) (.tup xs)
inductive Rps : List V → List D → Prop
  | nil : Rps [] []
  | cons {v : V} {d : D} {vs : List V} {ds : List D} (h : Rp v d) (r : Rps vs ds) : Rps (v :: vs) (d :: ds)
end
end
/-- pairs with equal keys -/
def Kvr {κ : Type} (K : PySem.W.Frag) (G : Hp) (as : List Addr) : List (κ × V) → List (κ × D) → Prop := Paired fun p q => p.1 = q.1 ∧ Rp K G as p.2 q.2

/-- G grows, as grows -/
structure Gr (G : Hp) (as : List Addr) (G' : Hp) (as' : List Addr) : Prop where
  g : Same G G'
  a : as <+: as'
theorem Gr.refl {G : Hp} {as : List Addr} : Gr G as G as := ⟨Same.refl _, List.prefix_refl _⟩
theorem Gr.trans {G G1 G2 : Hp} {as as1 as2 : List Addr} (x : Gr G as G1 as1) (y : Gr G1 as1 G2 as2) : Gr G as G2 as2 := ⟨x.g.trans y.g, x.a.trans y.a⟩
theorem pre_get {as as' : List Addr} (h : as <+: as') {k : Nat} {a : Addr} (e : as[k]? = some a) : as'[k]? = some a := by
  obtain ⟨t, rfl⟩ := h
  have hk : k < as.length := (List.getElem?_eq_some_iff.mp e).1
  rw [List.getElem?_append_left hk]
  exact e
theorem sqL_mono {K : PySem.W.Frag} {G G' : Hp} (g : Same G G') {a : Addr} {vs : List V} (h : SqL K G a vs) : SqL K G' a vs := g.seq h
theorem sqT_mono {K : PySem.W.Frag} {G G' : Hp} (g : Same G G') {a : Addr} {vs : List V} (h : SqT K G a vs) : SqT K G' a vs := by
  rcases h with (h | ⟨o, h⟩) | h
  · exact .inl (.inl (g _ _ h))
  · exact .inl (.inr ⟨o, g _ _ h⟩)
  · exact .inr h
section
variable {K : PySem.W.Frag} {G G' : Hp} {as as' : List Addr}
mutual
theorem Rp.mono (x : Gr G as G' as') : ∀ {v : V} {d : D}, Rp K G as v d → Rp K G' as' v d
  | _, _, .non => .non
  | _, _, .bl b => .bl b
  | _, _, .int b => .int b
  | _, _, .str b => .str b
  | _, _, .ty b => .ty b
  | _, _, .ptr h => .ptr (pre_get x.a h)
  | _, _, .lst h r => .lst (x.g _ _ h) (Rps.mono x r)
  | _, _, .scr h => .scr (sqL_mono x.g h)
  | _, _, .xc h r => .xc (x.g _ _ h) (Rps.mono x r)
  | _, _, .tup h r => .tup (sqT_mono x.g h) (Rps.mono x r)
theorem Rps.mono (x : Gr G as G' as') : ∀ {vs : List V} {ds : List D}, Rps K G as vs ds → Rps K G' as' vs ds
  | _, _, .nil => .nil
  | _, _, .cons h r => .cons (Rp.mono x h) (Rps.mono x r)
end
theorem Rps.length : ∀ {vs : List V} {ds : List D}, Rps K G as vs ds → vs.length = ds.length
  | _, _, .nil => rfl
  | _, _, .cons _ r => by rw [List.length_cons, List.length_cons, Rps.length r]
theorem Rps.get : ∀ {vs : List V} {ds : List D} {i : Nat} {d : D}, Rps K G as vs ds → ds[i]? = some d → ∃ v, vs[i]? = some v ∧ Rp K G as v d
  | _, _, _, _, .nil, e => by simp at e
  | _, _, 0, _, .cons h _, e => by
    have e' := Option.some.inj e
    subst e'
    exact ⟨_, rfl, h⟩
  | _, _, i + 1, _, .cons _ r, e => by
    obtain ⟨v, a, b⟩ := Rps.get (i := i) r (by simpa using e)
    exact ⟨v, by simpa using a, b⟩
theorem Rps.get' : ∀ {vs : List V} {ds : List D} {i : Nat} {v : V}, Rps K G as vs ds → vs[i]? = some v → ∃ d, ds[i]? = some d ∧ Rp K G as v d
  | _, _, _, _, .nil, e => by simp at e
  | _, _, 0, _, .cons h _, e => by
    have e' := Option.some.inj e
    subst e'
    exact ⟨_, rfl, h⟩
  | _, _, i + 1, _, .cons _ r, e => by
    obtain ⟨v, a, b⟩ := Rps.get' (i := i) r (by simpa using e)
    exact ⟨v, by simpa using a, b⟩
theorem Rps.append : ∀ {vs ws : List V} {ds es : List D}, Rps K G as vs ds → Rps K G as ws es → Rps K G as (vs ++ ws) (ds ++ es)
  | _, _, _, _, .nil, s => s
  | _, _, _, _, .cons h r, s => .cons h (Rps.append r s)
theorem Rps.snoc {vs : List V} {v : V} {ds : List D} {d : D} (r : Rps K G as vs ds) (h : Rp K G as v d) : Rps K G as (vs ++ [v]) (ds ++ [d]) := r.append (.cons h .nil)
theorem Rps.set : ∀ {vs : List V} {ds : List D} {v : V} {d : D} (i : Nat), Rps K G as vs ds → Rp K G as v d → Rps K G as (vs.set i v) (ds.set i d)
  | _, _, _, _, _, .nil, _ => .nil
  | _, _, _, _, 0, .cons _ r, h => .cons h r
  | _, _, _, _, i + 1, .cons k r, h => .cons k (Rps.set i r h)
theorem Rps.take : ∀ {vs : List V} {ds : List D} (n : Nat), Rps K G as vs ds → Rps K G as (vs.take n) (ds.take n)
  | _, _, 0, _ => .nil
  | _, _, _ + 1, .nil => .nil
  | _, _, n + 1, .cons h r => .cons h (Rps.take n r)
theorem Rps.drop : ∀ {vs : List V} {ds : List D} (n : Nat), Rps K G as vs ds → Rps K G as (vs.drop n) (ds.drop n)
  | _, _, 0, r => r
  | _, _, _ + 1, .nil => .nil
  | _, _, n + 1, .cons _ r => Rps.drop n r
theorem Kvr.mono {κ : Type} (x : Gr G as G' as') {ps : List (κ × V)} {qs : List (κ × D)} (h : Kvr K G as ps qs) : Kvr K G' as' ps qs := Paired.mapP h fun _ _ z => ⟨z.1, z.2.mono x⟩
theorem Rp.ptr_inv {v : V} {k : Nat} (h : Rp K G as v (.ptr k)) : ∃ a, v = .ref a ∧ as[k]? = some a := by
  cases h with
  | ptr h => exact ⟨_, rfl, h⟩
theorem Rp.lst_inv {v : V} {xs : List D} (h : Rp K G as v (.lst xs)) : ∃ a vs, v = .ref a ∧ G a = some (.lst vs) ∧ Rps K G as vs xs := by
  cases h with
  | lst h r => exact ⟨_, _, rfl, h, r⟩
theorem Rp.tup_inv {v : V} {xs : List D} (h : Rp K G as v (.tup xs)) : ∃ a vs, v = .ref a ∧ SqT K G a vs ∧ Rps K G as vs xs := by
  cases h with
  | tup h r => exact ⟨_, _, rfl, h, r⟩
theorem Rp.scr_inv {v : V} {ns : List Int} (h : Rp K G as v (.scr ns)) : ∃ a, v = .ref a ∧ SqL K G a (ns.map V.int) := by
  cases h with
  | scr h => exact ⟨_, rfl, h⟩
theorem Rp.xc_inv {v : V} {a dd : Addr} {ks : List Str} {ds : List D} (h : Rp K G as v (.xc a dd ks ds)) : ∃ vs, v = .ref a ∧ G dd = some (.xd (ks.zip vs)) ∧ Rps K G as vs ds := by
  cases h with
  | xc h r => exact ⟨_, rfl, h, r⟩
theorem Rp.int_inv {v : V} {i : Int} (h : Rp K G as v (.int i)) : v = .int i := by
  cases h; rfl
theorem Rp.str_inv {v : V} {i : Str} (h : Rp K G as v (.str i)) : v = .str i := by
  cases h; rfl
theorem Rp.bl_inv {v : V} {i : Bool} (h : Rp K G as v (.bl i)) : v = .bl i := by
  cases h; rfl
theorem Rp.non_inv {v : V} (h : Rp K G as v .non) : v = .non := by
  cases h; rfl
end

/-- an object stands as it should -/
def MOk (K : PySem.W.Frag) (G : Hp) (as : List Addr) (H : Hp) (a : Addr) : MO → Prop
  | .lst xs => ∃ vs, H a = some (.lst vs) ∧ Rps K G as vs xs
  | .dK kvs => ∃ ks, H a = some (.dK ks) ∧ Kvr K G as ks kvs
  | .lk o ks kvs => H a = some (.frz o (.dK ks)) ∧ Kvr K G as ks kvs
  | .ins C fs => ∃ dx gs, H a = some (.ins C dx gs) ∧ Kvr K G as gs fs
/-- the state of the heap -/
structure Hs (K : PySem.W.Frag) (G : Hp) (as : List Addr) (H : Hp) (M : List MO) : Prop where
  sub : Same G H
  len : as.length = M.length
  nd : as.Nodup
  out : ∀ a ∈ as, G a = none
  ob : ∀ (i : Nat) (a : Addr) (m : MO), as[i]? = some a → M[i]? = some m → MOk K G as H a m
/-- the names' data -/
structure Evs (K : PySem.W.Frag) (G : Hp) (as : List Addr) (σ : L2.St) (ρ : List (Option D)) : Prop where
  len : σ.length = ρ.length
  at_ : ∀ (i : Nat) (d : D), ρ[i]? = some (some d) → ∃ v, σ[i]? = some (some v) ∧ Rp K G as v d
section
variable {K : PySem.W.Frag} {G G' : Hp} {as as' : List Addr} {H : Hp} {M : List MO} {σ : L2.St} {ρ : List (Option D)}
theorem Evs.mono (e : Evs K G as σ ρ) (x : Gr G as G' as') : Evs K G' as' σ ρ := ⟨e.len, fun i d h => by
  obtain ⟨v, a, b⟩ := e.at_ i d h
  exact ⟨v, a, b.mono x⟩⟩
theorem Evs.set {v : V} {d : D} (e : Evs K G as σ ρ) (i : Nat) (r : Rp K G as v d) : Evs K G as (σ.set i (some v)) (ρ.set i (some d)) := by
  refine ⟨by rw [List.length_set, List.length_set]; exact e.len, fun j d' h => ?_⟩
  by_cases hj : i = j
  · subst hj
    have hi : i < ρ.length := by
      have z := (List.getElem?_eq_some_iff.mp h).1
      rwa [List.length_set] at z
    rw [List.getElem?_set_self hi] at h
    have h' := Option.some.inj (Option.some.inj h)
    subst h'
    refine ⟨v, ?_, r⟩
    rw [List.getElem?_set_self (by rw [e.len]; exact hi)]
  · rw [List.getElem?_set_ne hj] at h
    obtain ⟨v', a, b⟩ := e.at_ j d' h
    exact ⟨v', by rw [List.getElem?_set_ne hj]; exact a, b⟩
theorem Evs.forget (e : Evs K G as σ ρ) (i : Nat) : Evs K G as σ (ρ.set i none) := by
  refine ⟨by rw [List.length_set]; exact e.len, fun j d' h => ?_⟩
  by_cases hj : i = j
  · subst hj
    have hi : i < ρ.length := by
      have z := (List.getElem?_eq_some_iff.mp h).1
      rwa [List.length_set] at z
    rw [List.getElem?_set_self hi] at h
    cases Option.some.inj h
  · rw [List.getElem?_set_ne hj] at h
    exact e.at_ j d' h
theorem Evs.wipe (e : Evs K G as σ ρ) (i : Nat) : Evs K G as (σ.set i none) (ρ.set i none) := by
  refine ⟨by rw [List.length_set, List.length_set]; exact e.len, fun j d' h => ?_⟩
  by_cases hj : i = j
  · subst hj
    have hi : i < ρ.length := by
      have z := (List.getElem?_eq_some_iff.mp h).1
      rwa [List.length_set] at z
    rw [List.getElem?_set_self hi] at h
    cases Option.some.inj h
  · rw [List.getElem?_set_ne hj] at h
    obtain ⟨v, a, b⟩ := e.at_ j d' h
    exact ⟨v, by rw [List.getElem?_set_ne hj]; exact a, b⟩
theorem Hs.ptr (h : Hs K G as H M) {k : Nat} {m : MO} {v : V} (r : Rp K G as v (.ptr k)) (e : M[k]? = some m) : ∃ a, v = .ref a ∧ as[k]? = some a ∧ MOk K G as H a m := by
  obtain ⟨a, rfl, ha⟩ := r.ptr_inv
  exact ⟨a, rfl, ha, h.ob k a m ha e⟩
theorem MOk.upd {a b : Addr} {m : MO} {o : HO} (h : MOk K G as H a m) (hne : a ≠ b) : MOk K G as (upd H b o) a m := by
  cases m with
  | lst xs => obtain ⟨vs, e, r⟩ := h; exact ⟨vs, by rw [upd_ne hne]; exact e, r⟩
  | dK xs => obtain ⟨vs, e, r⟩ := h; exact ⟨vs, by rw [upd_ne hne]; exact e, r⟩
  | lk ob vs xs => obtain ⟨e, r⟩ := h; exact ⟨by rw [upd_ne hne]; exact e, r⟩
  | ins C xs => obtain ⟨dx, vs, e, r⟩ := h; exact ⟨dx, vs, by rw [upd_ne hne]; exact e, r⟩
theorem MOk.mono {a : Addr} {m : MO} (h : MOk K G as H a m) (x : Gr G as G' as') : MOk K G' as' H a m := by
  cases m with
  | lst xs => obtain ⟨vs, e, r⟩ := h; exact ⟨vs, e, r.mono x⟩
  | dK xs => obtain ⟨vs, e, r⟩ := h; exact ⟨vs, e, r.mono x⟩
  | lk ob vs xs => obtain ⟨e, r⟩ := h; exact ⟨e, r.mono x⟩
  | ins C xs => obtain ⟨dx, vs, e, r⟩ := h; exact ⟨dx, vs, e, r.mono x⟩
theorem MOk.some {a : Addr} {m : MO} (h : MOk K G as H a m) : ∃ o, H a = some o := by
  cases m with
  | lst xs => obtain ⟨vs, e, r⟩ := h; exact ⟨_, e⟩
  | dK xs => obtain ⟨vs, e, r⟩ := h; exact ⟨_, e⟩
  | lk ob vs xs => obtain ⟨e, r⟩ := h; exact ⟨_, e⟩
  | ins C xs => obtain ⟨dx, vs, e, r⟩ := h; exact ⟨_, e⟩
/-- every object's place is tracked -/
theorem Hs.there (h : Hs K G as H M) {a : Addr} (ha : a ∈ as) : ∃ o, H a = some o := by
  obtain ⟨i, hi⟩ := List.mem_iff_getElem?.mp ha
  have hl : i < M.length := by rw [← h.len]; exact (List.getElem?_eq_some_iff.mp hi).1
  exact (h.ob i a M[i] hi (List.getElem?_eq_getElem hl)).some
theorem Hs.new_ne (h : Hs K G as H M) {p : Addr} (np : H p = none) : p ∉ as := fun hm => by
  obtain ⟨o, e⟩ := h.there hm
  rw [np] at e
  cases e
theorem Hs.g_none (h : Hs K G as H M) {p : Addr} (np : H p = none) : G p = none := h.sub.free np
/-- a new thing that stands for good -/
theorem Hs.const {p : Addr} {o : HO} (h : Hs K G as H M) (np : H p = none) : Gr G as (upd G p o) as ∧ Hs K (upd G p o) as (upd H p o) M := by
  have gp := h.g_none np
  have x : Gr G as (upd G p o) as := ⟨fun b u e => by rw [upd_ne (ne_of_none e gp)]; exact e, List.prefix_refl _⟩
  refine ⟨x, fun b u e => ?_, h.len, h.nd, fun a ha => ?_, fun i a m e1 e2 => ?_⟩
  · by_cases hb : b = p
    · subst hb
      rw [upd_same] at e ⊢
      exact e
    · rw [upd_ne hb] at e ⊢
      exact h.sub b u e
  · have na : a ≠ p := fun z => h.new_ne np (z ▸ ha)
    rw [upd_ne na]
    exact h.out a ha
  · have na : a ≠ p := fun z => h.new_ne np (z ▸ List.mem_of_getElem? e1)
    exact ((h.ob i a m e1 e2).upd na).mono x
/-- a thing of no use is laid -/
theorem Hs.junk {p : Addr} {o : HO} (h : Hs K G as H M) (np : H p = none) : Hs K G as (upd H p o) M := by
  refine ⟨fun b u e => ?_, h.len, h.nd, h.out, fun i a m e1 e2 => ?_⟩
  · have nb : b ≠ p := fun z => by
      have q := h.sub b u e
      rw [z, np] at q
      cases q
    rw [upd_ne nb]
    exact h.sub b u e
  · have na : a ≠ p := fun z => h.new_ne np (z ▸ List.mem_of_getElem? e1)
    exact (h.ob i a m e1 e2).upd na
/-- a new object -/
theorem Hs.push {p : Addr} {H' : Hp} {m : MO} (h : Hs K G as H M) (np : H p = none) (k : ∀ b o, H b = some o → H' b = some o) (hm : MOk K G (as ++ [p]) H' p m) : Gr G as G (as ++ [p]) ∧ Hs K G (as ++ [p]) H' (M ++ [m]) := by
  have x : Gr G as G (as ++ [p]) := ⟨Same.refl _, List.prefix_append _ _⟩
  refine ⟨x, fun b u e => k b u (h.sub b u e), by rw [List.length_append, List.length_append, h.len]; rfl, ?_, fun a ha => ?_, fun i a m' e1 e2 => ?_⟩
  · rw [List.nodup_append]
    refine ⟨h.nd, by simp, fun a ha b hb => ?_⟩
    have e : b = p := by simpa using hb
    subst e
    exact fun z => h.new_ne np (z ▸ ha)
  · rcases List.mem_append.mp ha with ha | ha
    · exact h.out a ha
    · have e : a = p := by simpa using ha
      subst e
      exact h.g_none np
  · by_cases hi : i < as.length
    · rw [List.getElem?_append_left hi] at e1
      rw [List.getElem?_append_left (by rw [← h.len]; exact hi)] at e2
      have q := (h.ob i a m' e1 e2).mono x
      have keep : ∀ {o}, H a = some o → H' a = some o := fun {o} z => k a o z
      cases m' with
      | lst xs => obtain ⟨vs, e, r⟩ := q; exact ⟨vs, keep e, r⟩
      | dK xs => obtain ⟨vs, e, r⟩ := q; exact ⟨vs, keep e, r⟩
      | lk ob vs xs => obtain ⟨e, r⟩ := q; exact ⟨keep e, r⟩
      | ins C xs => obtain ⟨dx, vs, e, r⟩ := q; exact ⟨dx, vs, keep e, r⟩
    · have hi' : as.length ≤ i := by omega
      rw [List.getElem?_append_right hi'] at e1
      have e0 : i - as.length = 0 := by
        have z := (List.getElem?_eq_some_iff.mp e1).1
        simp at z
        omega
      rw [e0] at e1
      have ea : p = a := Option.some.inj e1
      rw [List.getElem?_append_right (by rw [← h.len]; exact hi')] at e2
      rw [← h.len, e0] at e2
      have em : m = m' := Option.some.inj e2
      subst ea em
      exact hm
theorem nodup_at {as : List Addr} (nd : as.Nodup) {i j : Nat} {a : Addr} (x : as[i]? = some a) (y : as[j]? = some a) : i = j := by
  obtain ⟨h1, e1⟩ := List.getElem?_eq_some_iff.mp x
  obtain ⟨h2, e2⟩ := List.getElem?_eq_some_iff.mp y
  exact (List.getElem_inj nd).mp (e1.trans e2.symm)
/-- an object is changed -/
theorem Hs.put {k : Nat} {a : Addr} {o : HO} {m : MO} (h : Hs K G as H M) (ha : as[k]? = some a) (hm : MOk K G as (upd H a o) a m) : Hs K G as (upd H a o) (M.set k m) := by
  have hma : a ∈ as := List.mem_of_getElem? ha
  refine ⟨fun b u e => ?_, by rw [List.length_set]; exact h.len, h.nd, h.out, fun i b m' e1 e2 => ?_⟩
  · have nb : b ≠ a := fun z => by
      rw [z, h.out a hma] at e
      cases e
    rw [upd_ne nb]
    exact h.sub b u e
  · by_cases hi : k = i
    · subst hi
      rw [ha] at e1
      have e1' := Option.some.inj e1
      subst e1'
      have hk : k < M.length := by
        have z := (List.getElem?_eq_some_iff.mp e2).1
        rwa [List.length_set] at z
      rw [List.getElem?_set_self hk] at e2
      have e2' := Option.some.inj e2
      subst e2'
      exact hm
    · rw [List.getElem?_set_ne hi] at e2
      have na : b ≠ a := fun z => hi (nodup_at h.nd ha (z ▸ e1))
      exact (h.ob i b m' e1 e2).upd na
end
end DL

namespace DL
open PySem PySem.Spec PyProof.Rows L2

abbrev Ev := List (Option D)
abbrev Mm := List MO
abbrev DK := D → Mm → Prop
abbrev XD := Addr → List (Str × D) → Mm → Prop
abbrev NK := Ev → Mm → Prop
abbrev XN := Addr → List (Str × D) → Ev → Mm → Prop

/-! ### settling: objects that are not wanted any more are let go, or stand for good -/
mutual
inductive Rs (M : Mm) (sel : List Nat) : D → D → Prop
  | non : Rs M sel .non .non
  | bl (b : Bool) : Rs M sel (.bl b) (.bl b)
  | int (i : Int) : Rs M sel (.int i) (.int i)
  | str (x : Str) : Rs M sel (.str x) (.str x)
  | ty (n : String) : Rs M sel (.ty n) (.ty n)
  | keep {k j : Nat} (h : sel[j]? = some k) : Rs M sel (.ptr k) (.ptr j)
  | frz {k : Nat} {xs ys : List D} (hn : k ∉ sel) (h : M[k]? = some (.lst xs)) (r : Rss M sel xs ys) : Rs M sel (.ptr k) (.lst ys)
  | lst {xs ys : List D} (r : Rss M sel xs ys) : Rs M sel (.lst xs) (.lst ys)
  | scr (ns : List Int) : Rs M sel (.scr ns) (.scr ns)
  | xc {a dd : Addr} {ks : List Str} {xs ys : List D} (r : Rss M sel xs ys) : Rs M sel (.xc a dd ks xs) (.xc a dd ks ys)
  | tup {xs ys : List D} (r : Rss M sel xs ys) : Rs M sel (.tup xs) (.tup ys)
inductive Rss (M : Mm) (sel : List Nat) : List D → List D → Prop
  | nil : Rss M sel [] []
  | cons {d e : D} {ds es : List D} (h : Rs M sel d e) (r : Rss M sel ds es) : Rss M sel (d :: ds) (e :: es)
end
def Kss {κ : Type} (M : Mm) (sel : List Nat) : List (κ × D) → List (κ × D) → Prop := Paired fun p q => p.1 = q.1 ∧ Rs M sel p.2 q.2
inductive MRs (M : Mm) (sel : List Nat) : MO → MO → Prop
  | lst {xs ys : List D} (r : Rss M sel xs ys) : MRs M sel (.lst xs) (.lst ys)
  | dK {xs ys : List (Key × D)} (r : Kss M sel xs ys) : MRs M sel (.dK xs) (.dK ys)
  | lk {o : Obj} {ks : List (Key × V)} {xs ys : List (Key × D)} (r : Kss M sel xs ys) : MRs M sel (.lk o ks xs) (.lk o ks ys)
  | ins {C : Addr} {xs ys : List (Str × D)} (r : Kss M sel xs ys) : MRs M sel (.ins C xs) (.ins C ys)
structure StlM (M : Mm) (n : Nat) (sel : List Nat) (M0 : Mm) : Prop where
  pre : List.range n <+: sel
  nd : sel.Nodup
  len : M0.length = sel.length
  ob : ∀ (j k : Nat) (m0 : MO), sel[j]? = some k → M0[j]? = some m0 → ∃ m, M[k]? = some m ∧ MRs M sel m m0
structure Stl (M : Mm) (ρ : Ev) (n : Nat) (sel : List Nat) (ρ0 : Ev) (M0 : Mm) : Prop extends StlM M n sel M0 where
  rl : ρ.length = ρ0.length
  ev : ∀ (i : Nat) (d0 : D), ρ0[i]? = some (some d0) → ∃ d, ρ[i]? = some (some d) ∧ Rs M sel d d0
def asOf (as : List Addr) (sel : List Nat) : List Addr := sel.map fun k => as.getD k 0
def gOf (H : Hp) (as0 : List Addr) : Hp := fun a => if a ∈ as0 then none else H a
section
variable {K : PySem.W.Frag} {G : Hp} {as : List Addr} {H : Hp} {M M0 : Mm} {σ : L2.St} {ρ ρ0 : Ev} {sel : List Nat} {n : Nat}
theorem StlM.lt (s : StlM M n sel M0) {j k : Nat} (e : sel[j]? = some k) : k < M.length := by
  have hj : j < M0.length := by rw [s.len]; exact (List.getElem?_eq_some_iff.mp e).1
  obtain ⟨m, h, _⟩ := s.ob j k M0[j] e (List.getElem?_eq_getElem hj)
  exact (List.getElem?_eq_some_iff.mp h).1
theorem asOf_get (h : Hs K G as H M) (s : StlM M n sel M0) {j k : Nat} {a : Addr} (e : sel[j]? = some k) (ha : as[k]? = some a) : (asOf as sel)[j]? = some a := by
  unfold asOf
  rw [List.getElem?_map, e]
  show some (as.getD k 0) = some a
  rw [List.getD_eq_getElem?_getD, ha]
  rfl
theorem asOf_inv (h : Hs K G as H M) (s : StlM M n sel M0) {j : Nat} {a : Addr} (e : (asOf as sel)[j]? = some a) : ∃ k, sel[j]? = some k ∧ as[k]? = some a := by
  unfold asOf at e
  rw [List.getElem?_map] at e
  cases q : sel[j]? with
  | none => rw [q] at e; cases e
  | some k =>
    rw [q] at e
    have e' : as.getD k 0 = a := Option.some.inj e
    refine ⟨k, rfl, ?_⟩
    have hk : k < as.length := by rw [h.len]; exact s.lt q
    rw [List.getD_eq_getElem?_getD, List.getElem?_eq_getElem hk] at e'
    rw [List.getElem?_eq_getElem hk]
    exact congrArg some e'
theorem asOf_sub (h : Hs K G as H M) (s : StlM M n sel M0) {a : Addr} (e : a ∈ asOf as sel) : a ∈ as := by
  obtain ⟨j, hj⟩ := List.mem_iff_getElem?.mp e
  obtain ⟨k, _, q⟩ := asOf_inv h s hj
  exact List.mem_of_getElem? q
theorem gOf_of {as0 : List Addr} {a : Addr} {o : HO} (e : H a = some o) (n : a ∉ as0) : gOf H as0 a = some o := by
  unfold gOf
  rw [if_neg n]
  exact e
theorem gOf_g (h : Hs K G as H M) (s : StlM M n sel M0) {a : Addr} {o : HO} (e : G a = some o) : gOf H (asOf as sel) a = some o :=
  gOf_of (h.sub _ _ e) fun z => by
    rw [h.out a (asOf_sub h s z)] at e
    cases e
theorem sqT_gOf (h : Hs K G as H M) (s : StlM M n sel M0) {a : Addr} {vs : List V} (q : SqT K G a vs) : SqT K (gOf H (asOf as sel)) a vs := sqT_mono (fun _ _ e => gOf_g h s e) q
theorem sqL_gOf (h : Hs K G as H M) (s : StlM M n sel M0) {a : Addr} {vs : List V} (q : SqL K G a vs) : SqL K (gOf H (asOf as sel)) a vs := sqL_mono (fun _ _ e => gOf_g h s e) q
mutual
theorem Rp.stl (h : Hs K G as H M) (s : StlM M n sel M0) : ∀ {d d0 : D} {v : V}, Rs M sel d d0 → Rp K G as v d → Rp K (gOf H (asOf as sel)) (asOf as sel) v d0
  | _, _, _, .non, r => by cases r; exact .non
  | _, _, _, .bl b, r => by cases r; exact .bl _
  | _, _, _, .int b, r => by cases r; exact .int _
  | _, _, _, .str b, r => by cases r; exact .str _
  | _, _, _, .ty b, r => by cases r; exact .ty _
  | _, _, _, .keep e, r => by
    obtain ⟨a, rfl, ha⟩ := r.ptr_inv
    exact .ptr (asOf_get h s e ha)
  | _, _, _, .frz hn hm q, r => by
    obtain ⟨a, rfl, ha, vs, e, rv⟩ := h.ptr r hm
    refine .lst (gOf_of e fun z => ?_) (Rps.stl h s q rv)
    obtain ⟨j, hj⟩ := List.mem_iff_getElem?.mp z
    obtain ⟨k', e1, e2⟩ := asOf_inv h s hj
    have ek := nodup_at h.nd e2 ha
    subst ek
    exact hn (List.mem_of_getElem? e1)
  | _, _, _, .lst q, r => by
    obtain ⟨a, vs, rfl, e, rv⟩ := r.lst_inv
    exact .lst (gOf_g h s e) (Rps.stl h s q rv)
  | _, _, _, .scr ns, r => by
    obtain ⟨a, rfl, e⟩ := r.scr_inv
    exact .scr (sqL_gOf h s e)
  | _, _, _, .xc q, r => by
    obtain ⟨vs, rfl, e, rv⟩ := r.xc_inv
    exact .xc (gOf_g h s e) (Rps.stl h s q rv)
  | _, _, _, .tup q, r => by
    obtain ⟨a, vs, rfl, e, rv⟩ := r.tup_inv
    exact .tup (sqT_gOf h s e) (Rps.stl h s q rv)
theorem Rps.stl (h : Hs K G as H M) (s : StlM M n sel M0) : ∀ {ds ds0 : List D} {vs : List V}, Rss M sel ds ds0 → Rps K G as vs ds → Rps K (gOf H (asOf as sel)) (asOf as sel) vs ds0
  | _, _, _, .nil, r => by cases r; exact .nil
  | _, _, _, .cons p q, r => by
    cases r with
    | cons a b => exact .cons (Rp.stl h s p a) (Rps.stl h s q b)
end
theorem kvr_stl {κ : Type} (h : Hs K G as H M) (s : StlM M n sel M0) : ∀ {qs qs0 : List (κ × D)} {ps : List (κ × V)}, Kss M sel qs qs0 → Kvr K G as ps qs → Kvr K (gOf H (asOf as sel)) (asOf as sel) ps qs0
  | _, _, _, .nil, r => by cases r; exact .nil
  | _, _, _, .cons p q, r => by
    cases r with
    | cons a b => exact .cons ⟨a.1.trans p.1, Rp.stl h s p.2 a.2⟩ (kvr_stl h s q b)
theorem Hs.stl (h : Hs K G as H M) (s : StlM M n sel M0) : Hs K (gOf H (asOf as sel)) (asOf as sel) H M0 := by
  refine ⟨fun a o e => ?_, by rw [s.len]; unfold asOf; rw [List.length_map], ?_, fun a ha => ?_, fun j a m0 e1 e2 => ?_⟩
  · unfold gOf at e
    split at e
    · cases e
    · exact e
  · rw [List.nodup_iff_pairwise_ne, List.pairwise_iff_getElem]
    intro i j hi hj hij e
    obtain ⟨k1, a1, b1⟩ := asOf_inv h s (List.getElem?_eq_getElem hi)
    obtain ⟨k2, a2, b2⟩ := asOf_inv h s (List.getElem?_eq_getElem hj)
    rw [e] at b1
    have z := nodup_at h.nd b1 b2
    rw [← z] at a2
    have z2 : i = j := by
      obtain ⟨h1, e1⟩ := List.getElem?_eq_some_iff.mp a1
      obtain ⟨h2, e2⟩ := List.getElem?_eq_some_iff.mp a2
      exact (List.getElem_inj s.nd).mp (e1.trans e2.symm)
    omega
  · unfold gOf
    rw [if_pos ha]
  · obtain ⟨k, f1, f2⟩ := asOf_inv h s e1
    obtain ⟨m, g1, g2⟩ := s.ob j k m0 f1 e2
    have q := h.ob k a m f2 g1
    cases g2 with
    | lst r => obtain ⟨vs, e, rv⟩ := q; exact ⟨vs, e, Rps.stl h s r rv⟩
    | dK r => obtain ⟨vs, e, rv⟩ := q; exact ⟨vs, e, kvr_stl h s r rv⟩
    | lk r => obtain ⟨e, rv⟩ := q; exact ⟨e, kvr_stl h s r rv⟩
    | ins r => obtain ⟨dx, vs, e, rv⟩ := q; exact ⟨dx, vs, e, kvr_stl h s r rv⟩
theorem Evs.stl (h : Hs K G as H M) (e : Evs K G as σ ρ) (s : Stl M ρ n sel ρ0 M0) : Evs K (gOf H (asOf as sel)) (asOf as sel) σ ρ0 := ⟨e.len.trans s.rl, fun i d0 q => by
  obtain ⟨d, a, b⟩ := s.ev i d0 q
  obtain ⟨v, c, r⟩ := e.at_ i d a
  exact ⟨v, c, Rp.stl h s.toStlM b r⟩⟩
theorem Gr.stl {Gb : Hp} {asb : List Addr} (h : Hs K G as H M) (s : StlM M n sel M0) (x : Gr Gb asb G as) (hn : asb.length = n) : Gr Gb asb (gOf H (asOf as sel)) (asOf as sel) := by
  refine ⟨fun a o e => gOf_g h s (x.g a o e), ?_⟩
  obtain ⟨t, ht⟩ := s.pre
  obtain ⟨u, hu⟩ := x.a
  have e : (List.range n).map (fun k => as.getD k 0) = asb := by
    apply List.ext_getElem?
    intro i
    rw [List.getElem?_map]
    by_cases hi : i < n
    · rw [List.getElem?_range hi]
      show some (as.getD i 0) = asb[i]?
      rw [List.getD_eq_getElem?_getD, ← hu, List.getElem?_append_left (by rw [hn]; exact hi), List.getElem?_eq_getElem (by rw [hn]; exact hi)]
      rfl
    · rw [List.getElem?_eq_none (by rw [List.length_range]; omega), List.getElem?_eq_none (by rw [hn]; omega)]
      rfl
  unfold asOf
  rw [← ht, List.map_append, e]
  exact List.prefix_append _ _
end

/-! ### what follows -/
section
variable (K : PySem.W.Frag) (G : Hp) (as : List Addr)
def CV (P : DK) (R : VK) : Prop := ∀ G' as' H' M' v d, Gr G as G' as' → Hs K G' as' H' M' → Rp K G' as' v d → P d M' → R v H'
def CB (P : Bool → Mm → Prop) (R : Bool → Hp → Prop) : Prop := ∀ G' as' H' M' b, Gr G as G' as' → Hs K G' as' H' M' → P b M' → R b H'
def CL (P : List D → Mm → Prop) (R : List V → Hp → Prop) : Prop := ∀ G' as' H' M' vs ds, Gr G as G' as' → Hs K G' as' H' M' → Rps K G' as' vs ds → P ds M' → R vs H'
def CE (P : XD) (R : Addr → Addr → Hp → Prop) : Prop := ∀ G' as' H' M' C fs dd gs, Gr G as G' as' → Hs K G' as' H' M' → H' dd = some (.xd gs) → Kvr K G' as' gs fs → P C fs M' → R C dd H'
def CN (P : NK) (R : L2.St → Hp → Prop) : Prop := ∀ G' as' σ' H' ρ' M', Gr G as G' as' → Hs K G' as' H' M' → Evs K G' as' σ' ρ' → P ρ' M' → R σ' H'
def CM (P : Mm → Prop) (R : Hp → Prop) : Prop := ∀ G' as' H' M', Gr G as G' as' → Hs K G' as' H' M' → P M' → R H'
def CXN (P : XN) (W : WX) : Prop := ∀ G' as' σ' H' ρ' M' C fs dd gs, Gr G as G' as' → Hs K G' as' H' M' → Evs K G' as' σ' ρ' → H' dd = some (.xd gs) → Kvr K G' as' gs fs → P C fs ρ' M' → W (.ref C) (some dd) σ' H'
end
section
variable {K : PySem.W.Frag} {G G1 : Hp} {as as1 : List Addr}
theorem CV.mono {P : DK} {R : VK} (c : CV K G as P R) (x : Gr G as G1 as1) : CV K G1 as1 P R := fun _ _ _ _ _ _ g => c _ _ _ _ _ _ (x.trans g)
theorem CB.mono {P R} (c : CB K G as P R) (x : Gr G as G1 as1) : CB K G1 as1 P R := fun _ _ _ _ _ g => c _ _ _ _ _ (x.trans g)
theorem CL.mono {P R} (c : CL K G as P R) (x : Gr G as G1 as1) : CL K G1 as1 P R := fun _ _ _ _ _ _ g => c _ _ _ _ _ _ (x.trans g)
theorem CE.mono {P R} (c : CE K G as P R) (x : Gr G as G1 as1) : CE K G1 as1 P R := fun _ _ _ _ _ _ _ _ g => c _ _ _ _ _ _ _ _ (x.trans g)
theorem CN.mono {P R} (c : CN K G as P R) (x : Gr G as G1 as1) : CN K G1 as1 P R := fun _ _ _ _ _ _ g => c _ _ _ _ _ _ (x.trans g)
theorem CM.mono {P R} (c : CM K G as P R) (x : Gr G as G1 as1) : CM K G1 as1 P R := fun _ _ _ _ g => c _ _ _ _ (x.trans g)
theorem CXN.mono {P R} (c : CXN K G as P R) (x : Gr G as G1 as1) : CXN K G1 as1 P R := fun _ _ _ _ _ _ _ _ _ _ g => c _ _ _ _ _ _ _ _ _ _ (x.trans g)
/-- up to settling -/
def Up (n : Nat) (P : NK) : NK := fun ρ M => ∃ sel ρ0 M0, Stl M ρ n sel ρ0 M0 ∧ P ρ0 M0
theorem CN.up {P : NK} {R : L2.St → Hp → Prop} {n : Nat} (c : CN K G as P R) (hn : as.length = n) : CN K G as (Up n P) R := fun G' as' σ' H' ρ' M' g h e p => by
  obtain ⟨sel, ρ0, M0, s, q⟩ := p
  exact c _ _ _ _ _ _ (g.stl h s.toStlM hn) (h.stl s.toStlM) (e.stl h s) q
/-- a datum up to settling -/
def UpV (n : Nat) (P : DK) : DK := fun d M => ∃ sel d0 M0, StlM M n sel M0 ∧ Rs M sel d d0 ∧ P d0 M0
theorem CV.up {P : DK} {R : VK} {n : Nat} (c : CV K G as P R) (hn : as.length = n) : CV K G as (UpV n P) R := fun G' as' H' M' v d g h r p => by
  obtain ⟨sel, d0, M0, s, q, p⟩ := p
  exact c _ _ _ _ _ _ (g.stl h s hn) (h.stl s) (Rp.stl h s q r) p
/-- an error up to settling -/
def UpX (n : Nat) (P : XD) : XD := fun C fs M => ∃ sel fs0 M0, StlM M n sel M0 ∧ Kss M sel fs fs0 ∧ P C fs0 M0
theorem CE.up {P : XD} {R : Addr → Addr → Hp → Prop} {n : Nat} (c : CE K G as P R) (hn : as.length = n) : CE K G as (UpX n P) R := fun G' as' H' M' C fs dd gs g h hd r p => by
  obtain ⟨sel, fs0, M0, s, q, p⟩ := p
  exact c _ _ _ _ _ _ _ _ (g.stl h s hn) (h.stl s) hd (kvr_stl h s q r) p
end
abbrev WR (W : WX) (σ : L2.St) : Addr → Addr → Hp → Prop := fun C dd H' => W (.ref C) (some dd) σ H'

/-! ### readings of data -/
abbrev DT := Ev → Mm → DK → XD → Prop
abbrev DTT := Ev → Mm → (Bool → Mm → Prop) → XD → Prop
abbrev DTA := Ev → Mm → (List D → Mm → Prop) → XD → Prop
structure Ds where
  nx : NK
  rt : DK
  ex : XN
  bk : NK := fun _ _ => False
  ct : NK := fun _ _ => False
abbrev SW := Ds → Ev → Mm → Prop
abbrev DGt := D → Ev → Mm → NK → XD → Prop
abbrev DR2 := D → D → Mm → DK → Prop
section
variable (K : PySem.W.Frag) (W : WX)
def Dn (t : TE) (w : DT) : Prop := ∀ G as σ H ρ M Qd Xd Q, Hs K G as H M → Evs K G as σ ρ → w ρ M Qd Xd → CV K G as Qd Q → CE K G as Xd (WR W σ) → t σ H Q
def DnT (t : TT) (w : DTT) : Prop := ∀ G as σ H ρ M Qd Xd Q, Hs K G as H M → Evs K G as σ ρ → w ρ M Qd Xd → CB K G as Qd Q → CE K G as Xd (WR W σ) → t σ H Q
def DnA (t : TA) (w : DTA) : Prop := ∀ G as σ H ρ M Qd Xd Q, Hs K G as H M → Evs K G as σ ρ → w ρ M Qd Xd → CL K G as Qd Q → CE K G as Xd (WR W σ) → t σ H Q
def DnG (g : TG) (w : DGt) : Prop := ∀ G as σ H ρ M v d P Xd R, Hs K G as H M → Evs K G as σ ρ → Rp K G as v d → w d ρ M P Xd → CN K G as P R → CE K G as Xd (WR W σ) → g v σ H R
structure CS (G : Hp) (as : List Addr) (De : Ds) (Dv : Ends) : Prop where
  nx : CN K G as De.nx Dv.nx
  rt : CV K G as De.rt Dv.rt
  bk : CN K G as De.bk Dv.bk
  ct : CN K G as De.ct Dv.ct
  ex : CXN K G as De.ex W
def Sn (t : TS) (w : SW) : Prop := ∀ G as σ H ρ M De Dv, Hs K G as H M → Evs K G as σ ρ → w De ρ M → CS K W G as De Dv → t Dv σ H
def Ro2 (r : R2) (f : DR2) : Prop := ∀ G as H M x y d e Qd Q, Hs K G as H M → Rp K G as x d → Rp K G as y e → f d e M Qd → CV K G as Qd Q → r x y H Q
end
section
variable {K : PySem.W.Frag} {W : WX} {G G1 : Hp} {as as1 : List Addr} {De : Ds} {Dv : Ends}
theorem CS.mono (c : CS K W G as De Dv) (x : Gr G as G1 as1) : CS K W G1 as1 De Dv := ⟨c.nx.mono x, c.rt.mono x, c.bk.mono x, c.ct.mono x, c.ex.mono x⟩
theorem CS.ce {σ : L2.St} {ρ : Ev} (c : CS K W G as De Dv) (e : Evs K G as σ ρ) : CE K G as (fun C fs M => De.ex C fs ρ M) (WR W σ) := fun _ _ _ _ _ _ _ _ g h hd r p => c.ex _ _ _ _ _ _ _ _ _ _ g h (e.mono g) hd r p
end

/-! ### expressions -/
section
variable {K : PySem.W.Frag} {W : WX}
def dVar (i : Nat) : DT := fun ρ M Q _ => ∃ d, ρ[i]? = some (some d) ∧ Q d M
def dC (d : D) : DT := fun _ M Q _ => Q d M
theorem dn_var {i : Nat} : Dn K W (tVar i) (dVar i) := by
  intro G as σ H ρ M Qd Xd Q h e w cv ce
  obtain ⟨d, e1, w⟩ := w
  obtain ⟨v, e2, r⟩ := e.at_ i d e1
  exact ⟨v, e2, cv _ _ _ _ _ _ .refl h r w⟩
/-- a constant datum without places -/
inductive Flat : V → D → Prop
  | non : Flat .non .non
  | bl (b : Bool) : Flat (.bl b) (.bl b)
  | int (i : Int) : Flat (.int i) (.int i)
  | str (x : Str) : Flat (.str x) (.str x)
  | ty (n : String) : Flat (.ty n) (.ty n)
theorem Flat.rp {G : Hp} {as : List Addr} {v : V} {d : D} (f : Flat v d) : Rp K G as v d := by
  cases f
  · exact .non
  · exact .bl _
  · exact .int _
  · exact .str _
  · exact .ty _
theorem dn_c {v : V} {d : D} (f : Flat v d) : Dn K W (tC v) (dC d) := by
  intro G as σ H ρ M Qd Xd Q h e w cv ce
  exact cv _ _ _ _ _ _ .refl h f.rp w
def dOp (f : DR2) (wa wb : DT) : DT := fun ρ M Q X => wa ρ M (fun d M1 => wb ρ M1 (fun e M2 => f d e M2 Q) X) X
theorem dn_op {r : R2} {f : DR2} {ta tb : TE} {wa wb : DT} (hr : Ro2 K r f) (ha : Dn K W ta wa) (hb : Dn K W tb wb) : Dn K W (tOp r ta tb) (dOp f wa wb) := by
  intro G as σ H ρ M Qd Xd Q h e w cv ce
  refine ha _ _ _ _ _ _ _ Xd _ h e w (fun G1 as1 H1 M1 x d g1 h1 r1 w1 => ?_) ce
  refine hb _ _ _ _ _ _ _ Xd _ h1 (e.mono g1) w1 (fun G2 as2 H2 M2 y d2 g2 h2 r2 w2 => ?_) (ce.mono g1)
  exact hr _ _ _ _ _ _ _ _ _ _ h2 (r1.mono g2) r2 w2 (cv.mono (g1.trans g2))
def dNil : DTA := fun _ M Q _ => Q [] M
def dCons (wa : DT) (wr : DTA) : DTA := fun ρ M Q X => wa ρ M (fun d M1 => wr ρ M1 (fun ds M2 => Q (d :: ds) M2) X) X
theorem dn_nil : DnA K W tNil dNil := by
  intro G as σ H ρ M Qd Xd Q h e w cv ce
  exact cv _ _ _ _ _ _ .refl h .nil w
theorem dn_cons {ta : TE} {tr : TA} {wa : DT} {wr : DTA} (ha : Dn K W ta wa) (hr : DnA K W tr wr) : DnA K W (tCons ta tr) (dCons wa wr) := by
  intro G as σ H ρ M Qd Xd Q h e w cv ce
  refine ha _ _ _ _ _ _ _ Xd _ h e w (fun G1 as1 H1 M1 x d g1 h1 r1 w1 => ?_) ce
  refine hr _ _ _ _ _ _ _ Xd _ h1 (e.mono g1) w1 (fun G2 as2 H2 M2 ys ds g2 h2 r2 w2 => ?_) (ce.mono g1)
  exact cv _ _ _ _ _ _ (g1.trans g2) h2 (.cons (r1.mono g2) r2) w2
/-- (a, b, ..): a tuple stands for good -/
def dTup (wa : DTA) : DT := fun ρ M Q X => wa ρ M (fun ds M1 => ds.length ≤ sizeLine ∧ Q (.tup ds) M1) X
theorem dn_tup {ta : TA} {wa : DTA} (ha : DnA K W ta wa) : Dn K W (tTup ta) (dTup wa) := by
  intro G as σ H ρ M Qd Xd Q h e w cv ce
  refine ha _ _ _ _ _ _ _ Xd _ h e w (fun G1 as1 H1 M1 vs ds g1 h1 r1 w1 => ?_) ce
  refine ⟨by rw [r1.length]; exact w1.1, fun p np => ?_⟩
  obtain ⟨g2, h2⟩ := h1.const (o := .tup vs) np
  exact cv _ _ _ _ _ _ (g1.trans g2) h2 (.tup (.inl (.inl upd_same)) (r1.mono g2)) w1.2
/-- [a, b, ..], never changed -/
def dLst (wa : DTA) : DT := fun ρ M Q X => wa ρ M (fun ds M1 => ds.length ≤ sizeLine ∧ Q (.lst ds) M1) X
theorem dn_lst {ta : TA} {wa : DTA} (ha : DnA K W ta wa) : Dn K W (tLst ta) (dLst wa) := by
  intro G as σ H ρ M Qd Xd Q h e w cv ce
  refine ha _ _ _ _ _ _ _ Xd _ h e w (fun G1 as1 H1 M1 vs ds g1 h1 r1 w1 => ?_) ce
  refine ⟨by rw [r1.length]; exact w1.1, fun p np => ?_⟩
  obtain ⟨g2, h2⟩ := h1.const (o := .lst vs) np
  exact cv _ _ _ _ _ _ (g1.trans g2) h2 (.lst upd_same (r1.mono g2)) w1.2
/-- [a, b, ..], an object -/
def dLstM (wa : DTA) : DT := fun ρ M Q X => wa ρ M (fun ds M1 => ds.length ≤ sizeLine ∧ Q (.ptr M1.length) (M1 ++ [.lst ds])) X
theorem same_upd {H : Hp} {p : Addr} {o : HO} (np : H p = none) : ∀ b u, H b = some u → upd H p o b = some u := fun b u e => by rw [upd_ne (ne_of_none e np)]; exact e
theorem last_get (as : List Addr) (p : Addr) : (as ++ [p])[as.length]? = some p := by
  rw [List.getElem?_append_right (Nat.le_refl _), Nat.sub_self]
  rfl
theorem dn_lstM {ta : TA} {wa : DTA} (ha : DnA K W ta wa) : Dn K W (tLst ta) (dLstM wa) := by
  intro G as σ H ρ M Qd Xd Q h e w cv ce
  refine ha _ _ _ _ _ _ _ Xd _ h e w (fun G1 as1 H1 M1 vs ds g1 h1 r1 w1 => ?_) ce
  refine ⟨by rw [r1.length]; exact w1.1, fun p np => ?_⟩
  have x0 : Gr G1 as1 G1 (as1 ++ [p]) := ⟨Same.refl _, List.prefix_append _ _⟩
  obtain ⟨g2, h2⟩ := h1.push (m := .lst ds) np (same_upd np) ⟨vs, upd_same, r1.mono x0⟩
  refine cv _ _ _ _ _ _ (g1.trans g2) h2 (.ptr ?_) w1.2
  rw [← h1.len]
  exact last_get _ _
/-- {} -/
def dNewK : DT := fun _ M Q _ => Q (.ptr M.length) (M ++ [.dK []])
theorem dn_newK : Dn K W tDNewK dNewK := by
  intro G as σ H ρ M Qd Xd Q h e w cv ce p np
  obtain ⟨g2, h2⟩ := h.push (m := .dK []) np (same_upd np) ⟨[], upd_same, .nil⟩
  refine cv _ _ _ _ _ _ g2 h2 (.ptr ?_) w
  rw [← h.len]
  exact last_get _ _
/-- tests -/
def dTest (wa : DT) : DTT := fun ρ M Q X => wa ρ M (fun d M1 => ∃ b, d = .bl b ∧ Q b M1) X
theorem dn_test {ta : TE} {wa : DT} (ha : Dn K W ta wa) : DnT K W (tTest ta) (dTest wa) := by
  intro G as σ H ρ M Qd Xd Q h e w cv ce
  refine ha _ _ _ _ _ _ _ Xd _ h e w (fun G1 as1 H1 M1 x d g1 h1 r1 w1 => ?_) ce
  obtain ⟨b, rfl, w1⟩ := w1
  exact ⟨b, r1.bl_inv, cv _ _ _ _ _ g1 h1 w1⟩
theorem dn_testB {ta : TE} {wa : DT} (ha : Dn K W ta wa) : DnT K W (tB ta) (dTest wa) := by
  intro G as σ H ρ M Qd Xd Q h e w cv ce
  refine ha _ _ _ _ _ _ _ Xd _ h e w (fun G1 as1 H1 M1 x d g1 h1 r1 w1 => ?_) ce
  obtain ⟨b, rfl, w1⟩ := w1
  exact ⟨b, r1.bl_inv, cv _ _ _ _ _ g1 h1 w1⟩
def dAnd (wa wb : DTT) : DTT := fun ρ M Q X => wa ρ M (fun b M1 => if b = true then wb ρ M1 Q X else Q false M1) X
def dOr (wa wb : DTT) : DTT := fun ρ M Q X => wa ρ M (fun b M1 => if b = true then Q true M1 else wb ρ M1 Q X) X
def dNot (wa : DTT) : DTT := fun ρ M Q X => wa ρ M (fun b M1 => Q (!b) M1) X
theorem dn_and {ta tb : TT} {wa wb : DTT} (ha : DnT K W ta wa) (hb : DnT K W tb wb) : DnT K W (tAnd ta tb) (dAnd wa wb) := by
  intro G as σ H ρ M Qd Xd Q h e w cv ce
  refine ha _ _ _ _ _ _ _ Xd _ h e w (fun G1 as1 H1 M1 b g1 h1 w1 => ?_) ce
  cases b with
  | true =>
    rw [if_pos rfl] at w1 ⊢
    exact hb _ _ _ _ _ _ _ Xd _ h1 (e.mono g1) w1 (cv.mono g1) (ce.mono g1)
  | false =>
    rw [if_neg Bool.false_ne_true] at w1 ⊢
    exact cv _ _ _ _ _ g1 h1 w1
theorem dn_or {ta tb : TT} {wa wb : DTT} (ha : DnT K W ta wa) (hb : DnT K W tb wb) : DnT K W (tOr ta tb) (dOr wa wb) := by
  intro G as σ H ρ M Qd Xd Q h e w cv ce
  refine ha _ _ _ _ _ _ _ Xd _ h e w (fun G1 as1 H1 M1 b g1 h1 w1 => ?_) ce
  cases b with
  | false =>
    rw [if_neg Bool.false_ne_true] at w1 ⊢
    exact hb _ _ _ _ _ _ _ Xd _ h1 (e.mono g1) w1 (cv.mono g1) (ce.mono g1)
  | true =>
    rw [if_pos rfl] at w1 ⊢
    exact cv _ _ _ _ _ g1 h1 w1
theorem dn_not {ta : TT} {wa : DTT} (ha : DnT K W ta wa) : DnT K W (tNot ta) (dNot wa) := by
  intro G as σ H ρ M Qd Xd Q h e w cv ce
  exact ha _ _ _ _ _ _ _ Xd _ h e w (fun G1 as1 H1 M1 b g1 h1 w1 => cv _ _ _ _ _ g1 h1 w1) ce
/-- a if t else b -/
def dIfE (wt : DTT) (wa wb : DT) : DT := fun ρ M Q X => wt ρ M (fun b M1 => if b = true then wa ρ M1 Q X else wb ρ M1 Q X) X
theorem dn_ifE {tt : TT} {ta tb : TE} {wt : DTT} {wa wb : DT} (ht : DnT K W tt wt) (ha : Dn K W ta wa) (hb : Dn K W tb wb) : Dn K W (tIf tt ta tb) (dIfE wt wa wb) := by
  intro G as σ H ρ M Qd Xd Q h e w cv ce
  refine ht _ _ _ _ _ _ _ Xd _ h e w (fun G1 as1 H1 M1 b g1 h1 w1 => ?_) ce
  cases b with
  | true =>
    rw [if_pos rfl] at w1 ⊢
    exact ha _ _ _ _ _ _ _ Xd _ h1 (e.mono g1) w1 (cv.mono g1) (ce.mono g1)
  | false =>
    rw [if_neg Bool.false_ne_true] at w1 ⊢
    exact hb _ _ _ _ _ _ _ Xd _ h1 (e.mono g1) w1 (cv.mono g1) (ce.mono g1)
/-- and, or, not as values of truth -/
def dAndV (wa wb : DT) : DT := fun ρ M Q X => wa ρ M (fun d M1 => ∃ b, d = .bl b ∧ if b = true then wb ρ M1 Q X else Q (.bl false) M1) X
def dOrV (wa wb : DT) : DT := fun ρ M Q X => wa ρ M (fun d M1 => ∃ b, d = .bl b ∧ if b = true then Q (.bl true) M1 else wb ρ M1 Q X) X
def dNotV (wa : DT) : DT := fun ρ M Q X => wa ρ M (fun d M1 => ∃ b, d = .bl b ∧ Q (.bl (!b)) M1) X
theorem dn_andV {ta tb : TE} {wa wb : DT} (ha : Dn K W ta wa) (hb : Dn K W tb wb) : Dn K W (tAndV ta tb) (dAndV wa wb) := by
  intro G as σ H ρ M Qd Xd Q h e w cv ce
  refine ha _ _ _ _ _ _ _ Xd _ h e w (fun G1 as1 H1 M1 x d g1 h1 r1 w1 => ?_) ce
  obtain ⟨b, rfl, w1⟩ := w1
  refine ⟨b, r1.bl_inv, ?_⟩
  cases b with
  | true =>
    rw [if_pos rfl] at w1 ⊢
    exact hb _ _ _ _ _ _ _ Xd _ h1 (e.mono g1) w1 (cv.mono g1) (ce.mono g1)
  | false =>
    rw [if_neg Bool.false_ne_true] at w1 ⊢
    exact cv _ _ _ _ _ _ g1 h1 (.bl _) w1
theorem dn_orV {ta tb : TE} {wa wb : DT} (ha : Dn K W ta wa) (hb : Dn K W tb wb) : Dn K W (tOrV ta tb) (dOrV wa wb) := by
  intro G as σ H ρ M Qd Xd Q h e w cv ce
  refine ha _ _ _ _ _ _ _ Xd _ h e w (fun G1 as1 H1 M1 x d g1 h1 r1 w1 => ?_) ce
  obtain ⟨b, rfl, w1⟩ := w1
  refine ⟨b, r1.bl_inv, ?_⟩
  cases b with
  | false =>
    rw [if_neg Bool.false_ne_true] at w1 ⊢
    exact hb _ _ _ _ _ _ _ Xd _ h1 (e.mono g1) w1 (cv.mono g1) (ce.mono g1)
  | true =>
    rw [if_pos rfl] at w1 ⊢
    exact cv _ _ _ _ _ _ g1 h1 (.bl _) w1
theorem dn_notV {ta : TE} {wa : DT} (ha : Dn K W ta wa) : Dn K W (tNotV ta) (dNotV wa) := by
  intro G as σ H ρ M Qd Xd Q h e w cv ce
  refine ha _ _ _ _ _ _ _ Xd _ h e w (fun G1 as1 H1 M1 x d g1 h1 r1 w1 => ?_) ce
  obtain ⟨b, rfl, w1⟩ := w1
  exact ⟨b, r1.bl_inv, cv _ _ _ _ _ _ g1 h1 (.bl _) w1⟩
end

/-! ### statements -/
section
variable {K : PySem.W.Frag} {W : WX}
def dNext : SW := fun De ρ M => De.nx ρ M
def dSeq (w1 w2 : SW) : SW := fun De ρ M => w1 { De with nx := fun ρ' M' => w2 De ρ' M' } ρ M
theorem sn_next : Sn K W tNext dNext := by
  intro G as σ H ρ M De Dv h e w c
  exact c.nx _ _ _ _ _ _ .refl h e w
theorem sn_seq {t u : TS} {w1 w2 : SW} (h1 : Sn K W t w1) (h2 : Sn K W u w2) : Sn K W (tSeq t u) (dSeq w1 w2) := by
  intro G as σ H ρ M De Dv h e w c
  exact h1 _ _ _ _ _ _ _ { Dv with nx := u Dv } h e w ⟨fun _ _ _ _ _ _ g h' e' w' => h2 _ _ _ _ _ _ _ _ h' e' w' (c.mono g), c.rt, c.bk, c.ct, c.ex⟩
def dIf (wt : DTT) (w1 w2 : SW) : SW := fun De ρ M => wt ρ M (fun b M1 => if b = true then w1 De ρ M1 else w2 De ρ M1) (fun C fs M1 => De.ex C fs ρ M1)
theorem sn_if {tt : TT} {t u : TS} {wt : DTT} {w1 w2 : SW} (ht : DnT K W tt wt) (h1 : Sn K W t w1) (h2 : Sn K W u w2) : Sn K W (tIfS tt t u) (dIf wt w1 w2) := by
  intro G as σ H ρ M De Dv h e w c
  refine ht _ _ _ _ _ _ _ _ _ h e w (fun G1 as1 H1 M1 b g1 h1' w1' => ?_) (c.ce e)
  cases b with
  | true =>
    rw [if_pos rfl] at w1' ⊢
    exact h1 _ _ _ _ _ _ _ _ h1' (e.mono g1) w1' (c.mono g1)
  | false =>
    rw [if_neg Bool.false_ne_true] at w1' ⊢
    exact h2 _ _ _ _ _ _ _ _ h1' (e.mono g1) w1' (c.mono g1)
def dRet (wa : DT) : SW := fun De ρ M => wa ρ M De.rt (fun C fs M1 => De.ex C fs ρ M1)
theorem sn_ret {ta : TE} {wa : DT} (ha : Dn K W ta wa) : Sn K W (tRet ta) (dRet wa) := by
  intro G as σ H ρ M De Dv h e w c
  exact ha _ _ _ _ _ _ _ _ _ h e w c.rt (c.ce e)
def dRetN : SW := fun De _ M => De.rt .non M
theorem sn_retN : Sn K W tRetN dRetN := by
  intro G as σ H ρ M De Dv h e w c
  exact c.rt _ _ _ _ _ _ .refl h .non w
def dDrop (wa : DT) : SW := fun De ρ M => wa ρ M (fun _ M1 => De.nx ρ M1) (fun C fs M1 => De.ex C fs ρ M1)
theorem sn_drop {ta : TE} {wa : DT} (ha : Dn K W ta wa) : Sn K W (tDrop ta) (dDrop wa) := by
  intro G as σ H ρ M De Dv h e w c
  exact ha _ _ _ _ _ _ _ _ _ h e w (fun _ _ _ _ _ _ g h1 _ w1 => c.nx _ _ _ _ _ _ g h1 (e.mono g) w1) (c.ce e)
def dAsg (wa : DT) (wg : DGt) : SW := fun De ρ M => wa ρ M (fun d M1 => wg d ρ M1 De.nx (fun C fs M2 => De.ex C fs ρ M2)) (fun C fs M1 => De.ex C fs ρ M1)
theorem sn_asg {ta : TE} {g : TG} {wa : DT} {wg : DGt} (ha : Dn K W ta wa) (hg : DnG K W g wg) : Sn K W (tAsg ta g) (dAsg wa wg) := by
  intro G as σ H ρ M De Dv h e w c
  refine ha _ _ _ _ _ _ _ _ _ h e w (fun _ _ _ _ _ _ g1 h1 r1 w1 => ?_) (c.ce e)
  exact hg _ _ _ _ _ _ _ _ _ _ _ h1 (e.mono g1) r1 w1 (c.nx.mono g1) ((c.ce e).mono g1)
def dgName (i : Nat) : DGt := fun d ρ M P _ => P (ρ.set i (some d)) M
theorem dg_name {i : Nat} : DnG K W (gName i) (dgName i) := by
  intro G as σ H ρ M v d P Xd R h e r w c ce
  exact c _ _ _ _ _ _ .refl h (e.set i r) w
def dBreak : SW := fun De ρ M => De.bk ρ M
def dCont : SW := fun De ρ M => De.ct ρ M
theorem sn_break : Sn K W tBreak dBreak := by
  intro G as σ H ρ M De Dv h e w c
  exact c.bk _ _ _ _ _ _ .refl h e w
theorem sn_cont : Sn K W tCont dCont := by
  intro G as σ H ρ M De Dv h e w c
  exact c.ct _ _ _ _ _ _ .refl h e w
/-- a place where objects may be let go -/
def dUp (w1 : SW) : SW := fun De ρ M => w1 { De with nx := Up M.length De.nx } ρ M
theorem sn_up {t : TS} {w1 : SW} (h1 : Sn K W t w1) : Sn K W t (dUp w1) := by
  intro G as σ H ρ M De Dv h e w c
  exact h1 _ _ _ _ _ _ _ _ h e w ⟨c.nx.up h.len, c.rt, c.bk, c.ct, c.ex⟩
/-- a while: the word I with its measure -/
def dWhile (wt : DTT) (wb : SW) : SW := fun De ρ M => ∃ (I : Nat → NK), (∃ m, I m ρ M) ∧ ∀ m ρ1 M1, I m ρ1 M1 →
  wt ρ1 M1 (fun b M2 => if b = true then wb { De with nx := Up M.length fun ρ' M' => ∃ m', m' < m ∧ I m' ρ' M', ct := Up M.length fun ρ' M' => ∃ m', m' < m ∧ I m' ρ' M', bk := De.nx } ρ1 M2 else De.nx ρ1 M2) (fun C fs M2 => De.ex C fs ρ1 M2)
theorem sn_while {tt : TT} {tb : TS} {wt : DTT} {wb : SW} (ht : DnT K W tt wt) (hb : Sn K W tb wb) : Sn K W (tWhile tt tb) (dWhile wt wb) := by
  intro G as σ H ρ M De Dv h e w c
  obtain ⟨I, ⟨m0, i0⟩, turn⟩ := w
  refine ⟨fun m σ1 H1 => ∃ G1 as1 ρ1 M1, Gr G as G1 as1 ∧ Hs K G1 as1 H1 M1 ∧ Evs K G1 as1 σ1 ρ1 ∧ I m ρ1 M1, ⟨m0, G, as, ρ, M, .refl, h, e, i0⟩, ?_⟩
  rintro m σ1 H1 ⟨G1, as1, ρ1, M1, g1, h1, e1, i1⟩
  refine ht _ _ _ _ _ _ _ _ _ h1 e1 (turn m ρ1 M1 i1) (fun G2 as2 H2 M2 b g2 h2 w2 => ?_) ((c.mono g1).ce e1)
  cases b with
  | true =>
    rw [if_pos rfl] at w2 ⊢
    refine ⟨fun σ' H' => ∃ m', m' < m ∧ ∃ G1 as1 ρ1 M1, Gr G as G1 as1 ∧ Hs K G1 as1 H' M1 ∧ Evs K G1 as1 σ' ρ1 ∧ I m' ρ1 M1, fun σ' H' z => z, ?_⟩
    have cN : CN K G as (fun ρ' M' => ∃ m', m' < m ∧ I m' ρ' M') (fun σ' H' => ∃ m', m' < m ∧ ∃ G1 as1 ρ1 M1, Gr G as G1 as1 ∧ Hs K G1 as1 H' M1 ∧ Evs K G1 as1 σ' ρ1 ∧ I m' ρ1 M1) :=
      fun G3 as3 σ3 H3 ρ3 M3 g3 h3 e3 ⟨m', l, i3⟩ => ⟨m', l, G3, as3, ρ3, M3, g3, h3, e3, i3⟩
    have cU := (cN.up h.len).mono (g1.trans g2)
    exact hb _ _ _ _ _ _ _ _ h2 (e1.mono g2) w2 ⟨cU, c.rt.mono (g1.trans g2), c.nx.mono (g1.trans g2), cU, c.ex.mono (g1.trans g2)⟩
  | false =>
    rw [if_neg Bool.false_ne_true] at w2 ⊢
    exact c.nx _ _ _ _ _ _ (g1.trans g2) h2 (e1.mono g2) w2
/-- what a loop walks: items, while st holds -/
structure Yl (K : PySem.W.Frag) (G : Hp) (as : List Addr) (J : It) (xs : List D) (st : Mm → Prop) : Prop where
  go : ∀ (i : Nat) (d : D) G' as' H' M', Gr G as G' as' → Hs K G' as' H' M' → st M' → xs[i]? = some d → J.go i H' ∧ ∀ x H'', J.yld i H' x H'' → ∃ G'' as'', Gr G' as' G'' as'' ∧ Hs K G'' as'' H'' M' ∧ Rp K G'' as'' x d
  stop : ∀ (i : Nat) G' as' H' M', Gr G as G' as' → Hs K G' as' H' M' → st M' → xs.length ≤ i → J.stop i H'
abbrev DIt := Ev → Mm → (List D → (Mm → Prop) → Mm → Prop) → XD → Prop
def DnI (K : PySem.W.Frag) (W : WX) (wi : TI) (w : DIt) : Prop := ∀ G as σ H ρ M (Qd : List D → (Mm → Prop) → Mm → Prop) Xd (R : It → Hp → Prop), Hs K G as H M → Evs K G as σ ρ → w ρ M Qd Xd →
  (∀ G' as' H' M' J xs st, Gr G as G' as' → Hs K G' as' H' M' → Yl K G' as' J xs st → Qd xs st M' → R J H') → CE K G as Xd (WR W σ) → wi σ H R
/-- for x in ..: the word I, by the turn -/
def dFor (wi : DIt) (wg : DGt) (wb : SW) : SW := fun De ρ M => wi ρ M (fun xs st M0 => ∃ (I : Nat → NK), I 0 ρ M0 ∧ (∀ i ρ1 M1, I i ρ1 M1 → st M1) ∧
  (∀ i d ρ1 M1, xs[i]? = some d → I i ρ1 M1 → wg d ρ1 M1 (fun ρ2 M2 => wb { De with nx := Up M0.length (I (i + 1)), ct := Up M0.length (I (i + 1)), bk := De.nx } ρ2 M2) (fun C fs M2 => De.ex C fs ρ1 M2)) ∧
  ∀ ρ1 M1, I xs.length ρ1 M1 → De.nx ρ1 M1) (fun C fs M1 => De.ex C fs ρ M1)
theorem sn_for {wi : TI} {g : TG} {tb : TS} {di : DIt} {wg : DGt} {wb : SW} (hi : DnI K W wi di) (hg : DnG K W g wg) (hb : Sn K W tb wb) : Sn K W (tFor wi g tb) (dFor di wg wb) := by
  intro G as σ H ρ M De Dv h e w c
  refine hi _ _ _ _ _ _ _ _ _ h e w (fun G0 as0 H0 M0 J xs st g0 h0 y w0 => ?_) (c.ce e)
  obtain ⟨I, i0, hst, turn, fin⟩ := w0
  refine ⟨fun i m σ1 H1 => m = xs.length - i ∧ i ≤ xs.length ∧ ∃ G1 as1 ρ1 M1, Gr G0 as0 G1 as1 ∧ Hs K G1 as1 H1 M1 ∧ Evs K G1 as1 σ1 ρ1 ∧ I i ρ1 M1, ⟨xs.length, by simp, Nat.zero_le _, G0, as0, ρ, M0, .refl, h0, e.mono g0, i0⟩, ?_⟩
  rintro i m σ1 H1 ⟨rfl, hle, G1, as1, ρ1, M1, g1, h1, e1, i1⟩
  by_cases hlt : i < xs.length
  · have hx : xs[i]? = some xs[i] := List.getElem?_eq_getElem hlt
    obtain ⟨y1, y2⟩ := y.go i xs[i] G1 as1 H1 M1 g1 h1 (hst i ρ1 M1 i1) hx
    refine .inr ⟨y1, fun σ' H' => i + 1 ≤ xs.length ∧ ∃ G1 as1 ρ1 M1, Gr G0 as0 G1 as1 ∧ Hs K G1 as1 H' M1 ∧ Evs K G1 as1 σ' ρ1 ∧ I (i + 1) ρ1 M1, fun σ' H' z => ⟨xs.length - (i + 1), by omega, rfl, z⟩, fun x H2 hy => ?_⟩
    obtain ⟨G2, as2, g2, h2, r2⟩ := y2 x H2 hy
    have cN : CN K G0 as0 (I (i + 1)) (fun σ' H' => i + 1 ≤ xs.length ∧ ∃ G1 as1 ρ1 M1, Gr G0 as0 G1 as1 ∧ Hs K G1 as1 H' M1 ∧ Evs K G1 as1 σ' ρ1 ∧ I (i + 1) ρ1 M1) :=
      fun G3 as3 σ3 H3 ρ3 M3 g3 h3 e3 i3 => ⟨hlt, G3, as3, ρ3, M3, g3, h3, e3, i3⟩
    have cU := (cN.up h0.len).mono (g1.trans g2)
    have gg := g0.trans (g1.trans g2)
    refine hg _ _ _ _ _ _ _ _ _ _ _ h2 (e1.mono g2) r2 (turn i xs[i] ρ1 M1 hx i1) (fun G3 as3 σ3 H3 ρ3 M3 g3 h3 e3 w3 => ?_) ((c.mono gg).ce (e1.mono g2))
    have g4 := gg.trans g3
    exact hb _ _ _ _ _ _ _ _ h3 e3 w3 ⟨cU.mono g3, c.rt.mono g4, c.nx.mono g4, cU.mono g3, c.ex.mono g4⟩
  · have ei : i = xs.length := by omega
    subst ei
    exact .inl ⟨y.stop _ G1 as1 H1 M1 g1 h1 (hst _ ρ1 M1 i1) (Nat.le_refl _), c.nx _ _ _ _ _ _ (g0.trans g1) h1 e1 (fin ρ1 M1 i1)⟩
end
end DL

namespace DL
open PySem PySem.Spec PyProof.Rows L2

/-! ### reading objects -/
def lsOf (M : Mm) : D → Option (List D)
  | .lst xs => some xs
  | .ptr k => match M[k]? with
    | some (.lst xs) => some xs
    | _ => none
  | _ => none
/-- a list or a tuple -/
def sqOf (M : Mm) : D → Option (List D)
  | .tup xs => some xs
  | d => lsOf M d
def dkOf (M : Mm) : D → Option (List (Key × D))
  | .ptr k => match M[k]? with
    | some (.dK xs) => some xs
    | some (.lk _ _ xs) => some xs
    | _ => none
  | _ => none
def keyOf : D → Option Key
  | .int i => some (.inl i)
  | .str x => some (.inr x)
  | _ => none
def kD : Key → D
  | .inl i => .int i
  | .inr x => .str x
def vOf : D → Option V
  | .non => some .non
  | .bl b => some (.bl b)
  | .int i => some (.int i)
  | .str x => some (.str x)
  | _ => none
def isNon : D → Bool
  | .non => true
  | _ => false
section
variable {κ : Type} [DecidableEq κ]
def valD (kvs : List (κ × D)) (k : κ) : Option D := (kvs.find? fun kv => decide (kv.1 = k)).map (·.2)
def putD (kvs : List (κ × D)) (k : κ) (v : D) : List (κ × D) :=
  if (kvs.any fun kv => decide (kv.1 = k)) = true then kvs.map (fun kv => if kv.1 = k then (kv.1, v) else kv) else kvs ++ [(k, v)]
def dropD (kvs : List (κ × D)) (k : κ) : List (κ × D) := kvs.filter fun kv => decide (kv.1 ≠ k)
end
section
variable {K : PySem.W.Frag} {G : Hp} {as : List Addr} {H : Hp} {M : Mm} {v : V} {d : D}
theorem Hs.ls (h : Hs K G as H M) (r : Rp K G as v d) {xs : List D} (e : lsOf M d = some xs) : ∃ a vs, v = .ref a ∧ H a = some (.lst vs) ∧ Rps K G as vs xs := by
  cases d with
  | lst ys =>
    have e' : ys = xs := Option.some.inj e
    subst e'
    obtain ⟨a, vs, rfl, e1, rv⟩ := r.lst_inv
    exact ⟨a, vs, rfl, h.sub _ _ e1, rv⟩
  | ptr k =>
    unfold lsOf at e; dsimp only at e
    cases q : M[k]? with
    | none => rw [q] at e; cases e
    | some m =>
      rw [q] at e
      cases m with
      | lst ys =>
        have e' : ys = xs := Option.some.inj e
        subst e'
        obtain ⟨a, rfl, _, vs, e1, rv⟩ := h.ptr r q
        exact ⟨a, vs, rfl, e1, rv⟩
      | _ => cases e
  | _ => cases e
theorem Hs.sq (h : Hs K G as H M) (r : Rp K G as v d) {xs : List D} (e : sqOf M d = some xs) : ∃ a vs, v = .ref a ∧ (SqL K H a vs ∨ SqT K H a vs) ∧ Rps K G as vs xs := by
  by_cases ht : ∃ ys, d = .tup ys
  · obtain ⟨ys, rfl⟩ := ht
    have e' : ys = xs := Option.some.inj e
    subst e'
    obtain ⟨a, vs, rfl, e1, rv⟩ := r.tup_inv
    exact ⟨a, vs, rfl, .inr (sqT_mono h.sub e1), rv⟩
  · have e2 : lsOf M d = some xs := by
      cases d with
      | tup ys => exact absurd ⟨ys, rfl⟩ ht
      | _ => exact e
    obtain ⟨a, vs, rfl, e1, rv⟩ := h.ls r e2
    exact ⟨a, vs, rfl, .inl (.inl (.inl e1)), rv⟩
theorem Hs.dk (h : Hs K G as H M) (r : Rp K G as v d) {xs : List (Key × D)} (e : dkOf M d = some xs) : ∃ a ks, v = .ref a ∧ Rd H a (.dK ks) ∧ Kvr K G as ks xs := by
  cases d with
  | ptr k =>
    unfold dkOf at e; dsimp only at e
    cases q : M[k]? with
    | none => rw [q] at e; cases e
    | some m =>
      rw [q] at e
      cases m with
      | dK ys =>
        have e' : ys = xs := Option.some.inj e
        subst e'
        obtain ⟨a, rfl, _, vs, e1, rv⟩ := h.ptr r q
        exact ⟨a, vs, rfl, .inl e1, rv⟩
      | lk ob vs ys =>
        have e' : ys = xs := Option.some.inj e
        subst e'
        obtain ⟨a, rfl, _, e1, rv⟩ := h.ptr r q
        exact ⟨a, vs, rfl, .inr ⟨ob, e1⟩, rv⟩
      | _ => cases e
  | _ => cases e
theorem Rp.vOf {x : V} (r : Rp K G as v d) (e : vOf d = some x) : v = x := by
  cases d with
  | non => cases r; exact Option.some.inj e
  | bl b => cases r; exact Option.some.inj e
  | int b => cases r; exact Option.some.inj e
  | str b => cases r; exact Option.some.inj e
  | _ => cases e
theorem Rp.keyOf {k : Key} (r : Rp K G as v d) (e : keyOf d = some k) : v = kV k := by
  cases d with
  | int b =>
    cases r
    have z := Option.some.inj e
    subst z
    rfl
  | str b =>
    cases r
    have z := Option.some.inj e
    subst z
    rfl
  | _ => cases e
theorem Rp.isNon (r : Rp K G as v d) : decide (v = .non) = isNon d := by
  cases r <;> rfl
theorem Rp.vOf_flat (r : Rp K G as v d) {x : V} (e : DL.vOf d = some x) : flatV v = true := by
  cases d with
  | non => cases r; rfl
  | bl b => cases r; rfl
  | int b => cases r; rfl
  | str b => cases r; rfl
  | _ => cases e
theorem kvr_val {κ : Type} [DecidableEq κ] {k : κ} : ∀ {ps : List (κ × V)} {qs : List (κ × D)}, Kvr K G as ps qs → (valD qs k = none → valV ps k = none) ∧ ∀ e, valD qs k = some e → ∃ x, valV ps k = some x ∧ Rp K G as x e
  | _, _, .nil => ⟨fun _ => rfl, fun e h => by simp [valD] at h⟩
  | p :: ps, q :: qs, .cons h r => by
    obtain ⟨i1, i2⟩ := kvr_val (k := k) r
    by_cases hk : q.1 = k
    · have hp : p.1 = k := h.1.trans hk
      have e1 : valD (q :: qs) k = some q.2 := by simp [valD, List.find?_cons, hk]
      rw [e1, valV_pos hp]
      exact ⟨fun z => (by cases z), fun e z => ⟨p.2, rfl, by rw [← Option.some.inj z]; exact h.2⟩⟩
    · have hp : ¬ p.1 = k := fun z => hk (h.1.symm.trans z)
      have e1 : valD (q :: qs) k = valD qs k := by simp [valD, List.find?_cons, hk]
      rw [e1, valV_neg hp]
      exact ⟨i1, i2⟩
theorem kvr_isSome {κ : Type} [DecidableEq κ] {k : κ} {ps : List (κ × V)} {qs : List (κ × D)} (r : Kvr K G as ps qs) : (valV ps k).isSome = (valD qs k).isSome := by
  obtain ⟨i1, i2⟩ := kvr_val (k := k) r
  cases e : valD qs k with
  | none => rw [i1 e]; rfl
  | some x =>
    obtain ⟨y, hy, _⟩ := i2 x e
    rw [hy]
    rfl
theorem kvr_any {κ : Type} [DecidableEq κ] {k : κ} : ∀ {ps : List (κ × V)} {qs : List (κ × D)}, Kvr K G as ps qs → (ps.any fun kv => decide (kv.1 = k)) = (qs.any fun kv => decide (kv.1 = k))
  | _, _, .nil => rfl
  | p :: ps, q :: qs, .cons h r => by
    rw [List.any_cons, List.any_cons, kvr_any r, h.1]
theorem kvr_map {κ : Type} [DecidableEq κ] {k : κ} {x : V} {e : D} (hx : Rp K G as x e) : ∀ {ps : List (κ × V)} {qs : List (κ × D)}, Kvr K G as ps qs → Kvr K G as (ps.map fun kv => if kv.1 = k then (kv.1, x) else kv) (qs.map fun kv => if kv.1 = k then (kv.1, e) else kv)
  | _, _, .nil => .nil
  | p :: ps, q :: qs, .cons h r => by
    rw [List.map_cons, List.map_cons]
    refine .cons ?_ (kvr_map hx r)
    by_cases hk : q.1 = k
    · rw [if_pos hk, if_pos (h.1.trans hk)]
      exact ⟨h.1, hx⟩
    · rw [if_neg hk, if_neg (fun z => hk (h.1.symm.trans z))]
      exact h
theorem kvr_append {κ : Type} : ∀ {ps ps' : List (κ × V)} {qs qs' : List (κ × D)}, Kvr K G as ps qs → Kvr K G as ps' qs' → Kvr K G as (ps ++ ps') (qs ++ qs')
  | _, _, _, _, .nil, s => s
  | _, _, _, _, .cons h r, s => .cons h (kvr_append r s)
theorem kvr_put {κ : Type} [DecidableEq κ] {k : κ} {x : V} {e : D} {ps : List (κ × V)} {qs : List (κ × D)} (r : Kvr K G as ps qs) (hx : Rp K G as x e) : Kvr K G as (putK ps k x) (putD qs k e) := by
  unfold putK putD
  rw [kvr_any r]
  by_cases hk : (qs.any fun kv => decide (kv.1 = k)) = true
  · rw [if_pos hk, if_pos hk]
    exact kvr_map hx r
  · rw [if_neg hk, if_neg hk]
    exact kvr_append r (.cons ⟨rfl, hx⟩ .nil)
theorem kvr_drop {κ : Type} [DecidableEq κ] {k : κ} : ∀ {ps : List (κ × V)} {qs : List (κ × D)}, Kvr K G as ps qs → Kvr K G as (dropK ps k) (dropD qs k)
  | _, _, .nil => .nil
  | p :: ps, q :: qs, .cons h r => by
    unfold dropK dropD
    by_cases hk : q.1 = k
    · rw [List.filter_cons_of_neg (by simpa using h.1.trans hk), List.filter_cons_of_neg (by simpa using hk)]
      exact kvr_drop r
    · rw [List.filter_cons_of_pos (by simpa using fun z => hk (h.1.symm.trans z)), List.filter_cons_of_pos (by simpa using hk)]
      exact .cons h (kvr_drop r)
theorem kvr_len {κ : Type} {ps : List (κ × V)} {qs : List (κ × D)} (r : Kvr K G as ps qs) : ps.length = qs.length := Paired.length r
theorem kvr_lookup {f : Str} : ∀ {ps : List (Str × V)} {qs : List (Str × D)}, Kvr K G as ps qs → (qs.lookup f = none → ps.lookup f = none) ∧ ∀ e, qs.lookup f = some e → ∃ x, ps.lookup f = some x ∧ Rp K G as x e
  | _, _, .nil => ⟨fun _ => rfl, fun e h => by simp at h⟩
  | (p, x) :: ps, (q, y) :: qs, .cons h r => by
    obtain ⟨i1, i2⟩ := kvr_lookup (f := f) r
    have hpq : p = q := h.1
    subst hpq
    by_cases hk : f = p
    · subst hk
      simp only [List.lookup_cons_self]
      exact ⟨fun z => (by cases z), fun e z => ⟨x, rfl, by rw [← Option.some.inj z]; exact h.2⟩⟩
    · have hb : (f == p) = false := by simpa using hk
      simp only [List.lookup, hb]
      exact ⟨i1, i2⟩
def putFD (f : Str) (d : D) : List (Str × D) → List (Str × D)
  | [] => [(f, d)]
  | (k, x) :: r => if k = f then (k, d) :: r else (k, x) :: putFD f d r
theorem kvr_putF {f : Str} {x : V} {e : D} (hx : Rp K G as x e) : ∀ {ps : List (Str × V)} {qs : List (Str × D)}, Kvr K G as ps qs → Kvr K G as (putF f x ps) (putFD f e qs)
  | _, _, .nil => .cons ⟨rfl, hx⟩ .nil
  | (p, y) :: ps, (q, z) :: qs, .cons h r => by
    have hpq : p = q := h.1
    subst hpq
    show Kvr K G as (if p = f then (p, x) :: ps else (p, y) :: putF f x ps) (if p = f then (p, e) :: qs else (p, z) :: putFD f e qs)
    by_cases hk : p = f
    · rw [if_pos hk, if_pos hk]
      exact .cons ⟨rfl, hx⟩ r
    · rw [if_neg hk, if_neg hk]
      exact .cons h (kvr_putF hx r)
end

/-! ### operators -/
def DOp {ι : Type} (X : ι → Cx) (K : PySem.W.Frag) (f : Value → Value → Sem Value) (w : DR2) : Prop := ∃ r, (∀ i, OpR (X i) f r) ∧ Ro2 K r w
section
variable {ι : Type} {X : ι → Cx} {K : PySem.W.Frag}
theorem Ro2.or {r r' : R2} {w w' : DR2} (a : Ro2 K r w) (b : Ro2 K r' w') : Ro2 K (fun x y H Q => r x y H Q ∨ r' x y H Q) (fun d e M Q => w d e M Q ∨ w' d e M Q) := by
  intro G as H M x y d e Qd Q h r1 r2 q cv
  exact q.imp (fun q => a _ _ _ _ _ _ _ _ _ _ h r1 r2 q cv) fun q => b _ _ _ _ _ _ _ _ _ _ h r1 r2 q cv
theorem DOp.or {f : Value → Value → Sem Value} {w w' : DR2} (a : DOp X K f w) (b : DOp X K f w') : DOp X K f (fun d e M Q => w d e M Q ∨ w' d e M Q) := by
  obtain ⟨r, h1, h2⟩ := a
  obtain ⟨r', h1', h2'⟩ := b
  exact ⟨_, fun i => (h1 i).or (h1' i), h2.or h2'⟩
/-- of two ints -/
def wI (C : Int → Int → Prop) (g : Int → Int → D) : DR2 := fun d e M Q => ∃ i j, d = .int i ∧ e = .int j ∧ C i j ∧ Q (g i j) M
theorem ro_I {C : Int → Int → Prop} {g : Int → Int → D} {g' : Int → Int → V} (hf : ∀ i j, Flat (g' i j) (g i j)) : Ro2 K (rI C g') (wI C g) := by
  intro G as H M x y d e Qd Q h r1 r2 q cv
  obtain ⟨i, j, rfl, rfl, c, q⟩ := q
  exact ⟨i, j, r1.int_inv, r2.int_inv, c, cv _ _ _ _ _ _ .refl h (hf i j).rp q⟩
theorem ro_I0 {g : Int → Int → D} {g' : Int → Int → V} (hf : ∀ i j, Flat (g' i j) (g i j)) : Ro2 K (rI0 g') (wI (fun _ _ => True) g) := by
  intro G as H M x y d e Qd Q h r1 r2 q cv
  obtain ⟨i, j, rfl, rfl, c, q⟩ := q
  exact ⟨i, j, r1.int_inv, r2.int_inv, cv _ _ _ _ _ _ .refl h (hf i j).rp q⟩
def wAddI : DR2 := wI (fun _ _ => True) fun i j => .int (i + j)
theorem do_addI : DOp X K (binaryOp .Add) wAddI := ⟨_, fun _ => op_add, ro_I0 fun _ _ => .int _⟩
theorem do_subI : DOp X K (binaryOp .Sub) (wI (fun _ _ => True) fun i j => .int (i - j)) := ⟨_, fun _ => op_sub, ro_I0 fun _ _ => .int _⟩
theorem do_mulI : DOp X K (binaryOp .Mult) (wI CMul fun i j => .int (i * j)) := ⟨_, fun _ => op_mul, ro_I fun _ _ => .int _⟩
theorem do_modI : DOp X K (binaryOp .Mod) (wI (fun _ j => 0 < j) fun i j => .int (i % j)) := ⟨_, fun _ => op_mod, ro_I fun _ _ => .int _⟩
theorem do_divI : DOp X K (binaryOp .FloorDiv) (wI CDiv fun i j => .int (i / j)) := ⟨_, fun _ => op_fdiv, ro_I fun _ _ => .int _⟩
theorem do_powI : DOp X K (binaryOp .Pow) (wI CPow fun i j => .int (i ^ j.toNat)) := ⟨_, fun _ => op_pow, ro_I fun _ _ => .int _⟩
theorem do_lt : DOp X K (compareOp .Lt) (wI (fun _ _ => True) fun i j => .bl (decide (i < j))) := ⟨_, fun _ => op_lt, ro_I0 fun _ _ => .bl _⟩
theorem do_le : DOp X K (compareOp .LtE) (wI (fun _ _ => True) fun i j => .bl (decide (i ≤ j))) := ⟨_, fun _ => op_le, ro_I0 fun _ _ => .bl _⟩
theorem do_gt : DOp X K (compareOp .Gt) (wI (fun _ _ => True) fun i j => .bl (decide (j < i))) := ⟨_, fun _ => op_gt, ro_I0 fun _ _ => .bl _⟩
theorem do_ge : DOp X K (compareOp .GtE) (wI (fun _ _ => True) fun i j => .bl (decide (j ≤ i))) := ⟨_, fun _ => op_ge, ro_I0 fun _ _ => .bl _⟩
/-- texts -/
def wAddS : DR2 := fun d e M Q => ∃ a b, d = .str a ∧ e = .str b ∧ a.length + b.length ≤ sizeLine ∧ Q (.str (a ++ b)) M
theorem do_addS : DOp X K (binaryOp .Add) wAddS := ⟨_, fun _ => op_add_str, fun G as H M x y d e Qd Q h r1 r2 q cv => by
  obtain ⟨a, b, rfl, rfl, c, q⟩ := q
  exact ⟨a, b, r1.str_inv, r2.str_inv, c, cv _ _ _ _ _ _ .refl h (.str _) q⟩⟩
/-- lists: a new one -/
def wAddL : DR2 := fun d e M Q => ∃ xs ys, lsOf M d = some xs ∧ lsOf M e = some ys ∧ xs.length + ys.length ≤ sizeLine ∧ Q (.lst (xs ++ ys)) M
theorem do_addL : DOp X K (binaryOp .Add) wAddL := ⟨_, fun _ => op_cat, fun G as H M x y d e Qd Q h r1 r2 q cv => by
  obtain ⟨xs, ys, e1, e2, c, q⟩ := q
  obtain ⟨a, vs, rfl, ha, ra⟩ := h.ls r1 e1
  obtain ⟨b, ws, rfl, hb, rb⟩ := h.ls r2 e2
  refine ⟨a, b, vs, ws, rfl, rfl, ha, hb, by rw [ra.length, rb.length]; exact c, fun p np => ?_⟩
  obtain ⟨g2, h2⟩ := h.const (o := .lst (vs ++ ws)) np
  exact cv _ _ _ _ _ _ g2 h2 (.lst upd_same ((ra.append rb).mono g2)) q⟩
/-- text * int -/
theorem op_mul_str {Y : Cx} : OpR Y (binaryOp .Mult) (fun x y H Q => ∃ a n, x = .str a ∧ y = .int n ∧ MulOk a n ∧ Q (.str (Txt.mul a n)) H) := by
  intro pins s σ H x y v u Q I rx ry h
  obtain ⟨a, n, rfl, rfl, ok, q⟩ := h
  obtain ⟨t, rfl⟩ := rx
  obtain ⟨t', rfl⟩ := ry
  exact PySem.SB.mul ok fun t2 k => ⟨.str _, H, I.tok k, ⟨t2, rfl⟩, q⟩
def wMulS : DR2 := fun d e M Q => ∃ a n, d = .str a ∧ e = .int n ∧ MulOk a n ∧ Q (.str (Txt.mul a n)) M
theorem do_mulS : DOp X K (binaryOp .Mult) wMulS := ⟨_, fun _ => op_mul_str, fun G as H M x y d e Qd Q h r1 r2 q cv => by
  obtain ⟨a, b, rfl, rfl, c, q⟩ := q
  exact ⟨a, b, r1.str_inv, r2.int_inv, c, cv _ _ _ _ _ _ .refl h (.str _) q⟩⟩
/-- == of flat data -/
def wEqF : DR2 := fun d e M Q => ∃ x y, vOf d = some x ∧ vOf e = some y ∧ scal x y = true ∧ Q (.bl (decide (x = y))) M
def wNeF : DR2 := fun d e M Q => ∃ x y, vOf d = some x ∧ vOf e = some y ∧ scal x y = true ∧ Q (.bl (!decide (x = y))) M
theorem do_eqF : DOp X K (compareOp .Eq) wEqF := ⟨_, fun _ => op_eq, fun G as H M x y d e Qd Q h r1 r2 q cv => by
  obtain ⟨a, b, e1, e2, c, q⟩ := q
  obtain rfl := r1.vOf e1
  obtain rfl := r2.vOf e2
  exact ⟨c, cv _ _ _ _ _ _ .refl h (.bl _) q⟩⟩
theorem do_neF : DOp X K (compareOp .NotEq) wNeF := ⟨_, fun _ => op_ne, fun G as H M x y d e Qd Q h r1 r2 q cv => by
  obtain ⟨a, b, e1, e2, c, q⟩ := q
  obtain rfl := r1.vOf e1
  obtain rfl := r2.vOf e2
  exact ⟨c, cv _ _ _ _ _ _ .refl h (.bl _) q⟩⟩
/-- is None -/
def wIsN : DR2 := fun d e M Q => e = .non ∧ Q (.bl (isNon d)) M
def wNotN : DR2 := fun d e M Q => e = .non ∧ Q (.bl (!isNon d)) M
theorem do_isN : DOp X K (compareOp .Is) wIsN := ⟨_, fun _ => op_isN, fun G as H M x y d e Qd Q h r1 r2 q cv => by
  obtain ⟨rfl, q⟩ := q
  refine ⟨r2.non_inv, ?_⟩
  rw [r1.isNon]
  exact cv _ _ _ _ _ _ .refl h (.bl _) q⟩
theorem do_notN : DOp X K (compareOp .IsNot) wNotN := ⟨_, fun _ => op_notN, fun G as H M x y d e Qd Q h r1 r2 q cv => by
  obtain ⟨rfl, q⟩ := q
  refine ⟨r2.non_inv, ?_⟩
  rw [r1.isNon]
  exact cv _ _ _ _ _ _ .refl h (.bl _) q⟩
/-- a sign in a text -/
def wInS : DR2 := fun d e M Q => ∃ (c : Nat) (z : Str), d = .str ⟨#[c]⟩ ∧ e = .str z ∧ Q (.bl (decide (c ∈ z.cps.toList))) M
def wNotInS : DR2 := fun d e M Q => ∃ (c : Nat) (z : Str), d = .str ⟨#[c]⟩ ∧ e = .str z ∧ Q (.bl (!decide (c ∈ z.cps.toList))) M
theorem do_inS : DOp X K (compareOp .In) wInS := ⟨_, fun _ => op_in_sign, fun G as H M x y d e Qd Q h r1 r2 q cv => by
  obtain ⟨c, z, rfl, rfl, q⟩ := q
  exact ⟨c, z, r1.str_inv, r2.str_inv, cv _ _ _ _ _ _ .refl h (.bl _) q⟩⟩
theorem do_notInS : DOp X K (compareOp .NotIn) wNotInS := ⟨_, fun _ => op_notIn_sign, fun G as H M x y d e Qd Q h r1 r2 q cv => by
  obtain ⟨c, z, rfl, rfl, q⟩ := q
  exact ⟨c, z, r1.str_inv, r2.str_inv, cv _ _ _ _ _ _ .refl h (.bl _) q⟩⟩
/-- in a list or tuple of flat things -/
def inL (x : V) (ys : List V) : Bool := ys.any fun y => eqV y x
def wInL (neg : Bool) : DR2 := fun d e M Q => ∃ x ys zs, vOf d = some x ∧ sqOf M e = some ys ∧ ys.mapM vOf = some zs ∧ Q (.bl (if neg then !inV x zs else inV x zs)) M
theorem rps_flat {G : Hp} {as : List Addr} : ∀ {vs : List V} {ds : List D} {zs : List V}, Rps K G as vs ds → ds.mapM vOf = some zs → vs = zs ∧ vs.all flatV = true
  | _, _, _, .nil, e => by
    have e' := Option.some.inj e
    subst e'
    exact ⟨rfl, rfl⟩
  | v :: vs, d :: ds, zs, .cons h r, e => by
    rw [List.mapM_cons] at e
    cases e1 : vOf d with
    | none => rw [e1] at e; cases e
    | some z =>
      rw [e1] at e
      cases e2 : ds.mapM vOf with
      | none => rw [e2] at e; cases e
      | some zs' =>
        rw [e2] at e
        have e' : z :: zs' = zs := Option.some.inj e
        subst e'
        obtain ⟨a, b⟩ := rps_flat r e2
        refine ⟨by rw [h.vOf e1, a], ?_⟩
        rw [List.all_cons, b, h.vOf_flat e1]
        rfl
theorem do_inL (hK : ∀ i, (X i).K = K) : DOp X K (compareOp .In) (wInL false) := ⟨rIn K false, fun i => by rw [← hK i]; exact op_in_seq, fun G as H M x y d e Qd Q h r1 r2 q cv => by
  obtain ⟨x', ys, zs, e1, e2, e3, q⟩ := q
  obtain ⟨a, vs, rfl, hs, rv⟩ := h.sq r2 e2
  obtain ⟨f1, f2⟩ := rps_flat rv e3
  refine ⟨a, vs, rfl, hs, r1.vOf_flat e1, f2, ?_⟩
  rw [f1, r1.vOf e1]
  exact cv _ _ _ _ _ _ .refl h (.bl _) q⟩
theorem do_notInL (hK : ∀ i, (X i).K = K) : DOp X K (compareOp .NotIn) (wInL true) := ⟨rIn K true, fun i => by rw [← hK i]; exact op_notIn_seq, fun G as H M x y d e Qd Q h r1 r2 q cv => by
  obtain ⟨x', ys, zs, e1, e2, e3, q⟩ := q
  obtain ⟨a, vs, rfl, hs, rv⟩ := h.sq r2 e2
  obtain ⟨f1, f2⟩ := rps_flat rv e3
  refine ⟨a, vs, rfl, hs, r1.vOf_flat e1, f2, ?_⟩
  rw [f1, r1.vOf e1]
  exact cv _ _ _ _ _ _ .refl h (.bl _) q⟩
/-- a[i] of a list, a tuple, a text -/
def wIx : DR2 := fun d e M Q => (∃ xs i v, sqOf M d = some xs ∧ e = .int i ∧ atI xs i = some v ∧ Q v M) ∨ ∃ z i c, d = .str z ∧ e = .int i ∧ z.length ≤ sizeLine ∧ atI z.cps.toList i = some c ∧ Q (.str ⟨#[c]⟩) M
theorem atI_rps {G : Hp} {as : List Addr} {vs : List V} {ds : List D} {i : Int} {d : D} (r : Rps K G as vs ds) (e : atI ds i = some d) : ∃ v, atI vs i = some v ∧ Rp K G as v d := by
  unfold atI at e ⊢
  rw [r.length]
  cases q : ixN ds.length i with
  | none => rw [q] at e; cases e
  | some j =>
    rw [q] at e
    exact r.get e
theorem ro_ix : Ro2 K (rIx K) wIx := by
  intro G as H M x y d e Qd Q h r1 r2 q cv
  rcases q with ⟨xs, i, v, e1, rfl, e3, q⟩ | ⟨z, i, c, rfl, rfl, hz, e3, q⟩
  · obtain ⟨a, vs, rfl, hs, rv⟩ := h.sq r1 e1
    obtain ⟨v', e4, r4⟩ := atI_rps rv e3
    have q' := cv _ _ _ _ _ _ .refl h r4 q
    rcases hs with hs | hs
    · exact .inl ⟨a, vs, i, v', rfl, r2.int_inv, hs, e4, q'⟩
    · exact .inr (.inl ⟨a, vs, i, v', rfl, r2.int_inv, hs, e4, q'⟩)
  · exact .inr (.inr ⟨z, i, c, r1.str_inv, r2.int_inv, hz, e3, cv _ _ _ _ _ _ .refl h (.str _) q⟩)
end
end DL

namespace DL
open PySem PySem.Spec PyProof.Rows L2

/-! ### syntax with its reading, over a family of contexts -/
section
variable {ι : Type} (X : ι → Cx) (K : PySem.W.Frag) (W : WX)
def DE (e : Expr) (w : DT) : Prop := ∃ t, (∀ i, PE (X i) e t) ∧ Dn K W t w
def DTe (e : Expr) (w : DTT) : Prop := ∃ t, (∀ i, PT (X i) e t) ∧ DnT K W t w
def DPw (e : Expr) (w : DTT) : Prop := ∃ t, (∀ i, PW (X i) e t) ∧ DnT K W t w
def DA (es : List Expr) (w : DTA) : Prop := ∃ t, (∀ i, PA (X i) es t) ∧ DnA K W t w
def DG (e : Expr) (w : DGt) : Prop := ∃ t, (∀ i, PG (X i) e t) ∧ DnG K W t w
def DI (tg e : Expr) (w : DIt) : Prop := ∃ t, (∀ i, PI (X i) tg e t) ∧ DnI K W t w
def DS (s : Stmt) (w : SW) : Prop := ∃ t, (∀ i, PS (X i) s t) ∧ Sn K W t w
def DSs (s : List Stmt) (w : SW) : Prop := ∃ t, (∀ i, PSs (X i) s t) ∧ Sn K W t w
end
section
variable {ι : Type} {X : ι → Cx} {K : PySem.W.Frag} {W : WX} {a b c e : Expr} {es : List Expr} {pos : Pos}
theorem de_var (i : Nat) {x : Str} (hN : ∀ j, (X j).N[i]? = some x := by intro _; rfl) (hv : ∀ j, Vis (X j).env.scope x := by intro _; first | exact Or.inl rfl | exact Or.inr (Or.inl rfl) | exact Or.inr (Or.inr rfl)) (hd : (x == ("__debug__" : Str)) = false := by decide)
    (hcd : (x == ("__classdict__" : Str)) = false := by decide) : DE X K W (.Name x pos) (dVar i) := ⟨_, fun j => pe_var (hN j) (hv j) hd hcd, dn_var⟩
theorem de_int {i j} : DE X K W (.Constant (.int i) j pos) (dC (.int i)) := ⟨_, fun _ => pe_int, dn_c (.int _)⟩
theorem de_bl {i j} : DE X K W (.Constant (.bool i) j pos) (dC (.bl i)) := ⟨_, fun _ => pe_bl, dn_c (.bl _)⟩
theorem de_non {j} : DE X K W (.Constant .none j pos) (dC .non) := ⟨_, fun _ => pe_non, dn_c .non⟩
theorem de_str {i j} : DE X K W (.Constant (.str i) j pos) (dC (.str i)) := ⟨_, fun _ => pe_str, dn_c (.str _)⟩
/-- a module's constant -/
theorem de_glob {x : Str} {v : V} {d : D} {u : Value} (f : Flat v d) (hm : ∀ j, (X j).mg x = some u) (r : RelV v u) (hg : ∀ j, Gl (X j) x := by intro _; rfl) (hd : (x == ("__debug__" : Str)) = false := by decide) : DE X K W (.Name x pos) (dC d) :=
  ⟨_, fun j => pe_glob (hg j) (hm j) r hd, dn_c f⟩
/-- a built-in class as a value -/
theorem de_bty {x : Str} {n : String} (hm : ∀ j, (X j).mg x = none) (hv : bootBuiltins x = some (.type n)) (hg : ∀ j, Gl (X j) x := by intro _; rfl) (hn : x ≠ "__name__" := by decide) (hd : (x == ("__debug__" : Str)) = false := by decide) : DE X K W (.Name x pos) (dC (.ty n)) :=
  ⟨_, fun j => pe_bltn (v := .ty n) (hg j) (hm j) hv rfl hn hd, dn_c (.ty _)⟩
theorem de_op {op : Operator} {f : DR2} {wa wb : DT} (ho : DOp X K (binaryOp op) f) (ha : DE X K W a wa) (hb : DE X K W b wb) : DE X K W (.BinOp a op b pos) (dOp f wa wb) := by
  obtain ⟨r, o1, o2⟩ := ho
  obtain ⟨ta, a1, a2⟩ := ha
  obtain ⟨tb, b1, b2⟩ := hb
  exact ⟨_, fun i => pe_op (o1 i) (a1 i) (b1 i), dn_op o2 a2 b2⟩
theorem de_cmp {op : CmpOp} {f : DR2} {wa wb : DT} (ho : DOp X K (compareOp op) f) (ha : DE X K W a wa) (hb : DE X K W b wb) (hm : behindInMarks op b = false := by first | exact nobehind _ (by decide) (by decide) | rfl) : DE X K W (.Compare a [op] [b] pos) (dOp f wa wb) := by
  obtain ⟨r, o1, o2⟩ := ho
  obtain ⟨ta, a1, a2⟩ := ha
  obtain ⟨tb, b1, b2⟩ := hb
  exact ⟨_, fun i => pe_cmpR (o1 i) (a1 i) (b1 i) hm, dn_op o2 a2 b2⟩
theorem dt_cmp {op : CmpOp} {f : DR2} {wa wb : DT} (ho : DOp X K (compareOp op) f) (ha : DE X K W a wa) (hb : DE X K W b wb) (hm : behindInMarks op b = false := by first | exact nobehind _ (by decide) (by decide) | rfl) : DTe X K W (.Compare a [op] [b] pos) (dTest (dOp f wa wb)) := by
  obtain ⟨r, o1, o2⟩ := ho
  obtain ⟨ta, a1, a2⟩ := ha
  obtain ⟨tb, b1, b2⟩ := hb
  exact ⟨_, fun i => pt_cmpR (o1 i) (a1 i) (b1 i) hm, dn_test (dn_op o2 a2 b2)⟩
/-- any expression of truth as a test -/
theorem dt_val {wa : DT} (ha : DE X K W a wa) (he : ∀ j whole, isTrue a (X j).env whole = (do let v ← whole; standAt a.pos; holding [v] (truthy v)) := by intro _ _; rfl) : DTe X K W a (dTest wa) := by
  obtain ⟨ta, a1, a2⟩ := ha
  exact ⟨_, fun i => pt_val (a1 i) (he i), dn_testB a2⟩
/-- a < b < c -/
def dChain (f f' : DR2) (wa wb wc : DT) : DT := fun ρ M Q X => wa ρ M (fun d M1 => wb ρ M1 (fun e M2 => f d e M2 (fun z M3 => ∃ k, z = .bl k ∧ if k = true then wc ρ M3 (fun g M4 => f' e g M4 Q) X else Q (.bl false) M3)) X) X
theorem de_chain {op op' : CmpOp} {f f' : DR2} {wa wb wc : DT} (ho : DOp X K (compareOp op) f) (ho' : DOp X K (compareOp op') f') (ha : DE X K W a wa) (hb : DE X K W b wb) (hc : DE X K W c wc)
    (hm : lastMarks [op, op'] [b, c] = false := by with_unfolding_all rfl) : DE X K W (.Compare a [op, op'] [b, c] pos) (dChain f f' wa wb wc) := by
  obtain ⟨r, o1, o2⟩ := ho
  obtain ⟨r', o1', o2'⟩ := ho'
  obtain ⟨ta, a1, a2⟩ := ha
  obtain ⟨tb, b1, b2⟩ := hb
  obtain ⟨tc, c1, c2⟩ := hc
  refine ⟨_, fun i => pe_chain (o1 i) (o1' i) (a1 i) (b1 i) (c1 i) hm, ?_⟩
  intro G as σ H ρ M Qd Xd Q h e w cv ce
  refine a2 _ _ _ _ _ _ _ Xd _ h e w (fun G1 as1 H1 M1 x d g1 h1 r1 w1 => ?_) ce
  refine b2 _ _ _ _ _ _ _ Xd _ h1 (e.mono g1) w1 (fun G2 as2 H2 M2 y d2 g2 h2 r2 w2 => ?_) (ce.mono g1)
  refine o2 _ _ _ _ _ _ _ _ _ _ h2 (r1.mono g2) r2 w2 (fun G3 as3 H3 M3 z d3 g3 h3 r3 w3 => ?_)
  obtain ⟨k, rfl, w3⟩ := w3
  refine ⟨k, r3.bl_inv, ?_⟩
  have g13 := (g1.trans g2).trans g3
  cases k with
  | true =>
    rw [if_pos rfl] at w3 ⊢
    refine c2 _ _ _ _ _ _ _ Xd _ h3 (e.mono g13) w3 (fun G4 as4 H4 M4 u d4 g4 h4 r4 w4 => ?_) (ce.mono g13)
    exact o2' _ _ _ _ _ _ _ _ _ _ h4 ((r2.mono g3).mono g4) r4 w4 (cv.mono (g13.trans g4))
  | false =>
    rw [if_neg Bool.false_ne_true] at w3 ⊢
    exact cv _ _ _ _ _ _ g13 h3 (.bl _) w3
theorem dpw_and1 {wa : DTT} (ha : DTe X K W a wa) : DPw X K W (.BoolOp .And [a] pos) wa := by
  obtain ⟨ta, a1, a2⟩ := ha
  exact ⟨_, fun i => pw_and1 (a1 i), a2⟩
theorem dpw_or1 {wa : DTT} (ha : DTe X K W a wa) : DPw X K W (.BoolOp .Or [a] pos) wa := by
  obtain ⟨ta, a1, a2⟩ := ha
  exact ⟨_, fun i => pw_or1 (a1 i), a2⟩
theorem dpw_and {wa wb : DTT} (ha : DTe X K W a wa) (hb : DPw X K W (.BoolOp .And (b :: es) pos) wb) : DPw X K W (.BoolOp .And (a :: b :: es) pos) (dAnd wa wb) := by
  obtain ⟨ta, a1, a2⟩ := ha
  obtain ⟨tb, b1, b2⟩ := hb
  exact ⟨_, fun i => pw_and (a1 i) (b1 i), dn_and a2 b2⟩
theorem dpw_or {wa wb : DTT} (ha : DTe X K W a wa) (hb : DPw X K W (.BoolOp .Or (b :: es) pos) wb) : DPw X K W (.BoolOp .Or (a :: b :: es) pos) (dOr wa wb) := by
  obtain ⟨ta, a1, a2⟩ := ha
  obtain ⟨tb, b1, b2⟩ := hb
  exact ⟨_, fun i => pw_or (a1 i) (b1 i), dn_or a2 b2⟩
theorem dpw_pt {wa : DTT} (ha : DPw X K W e wa) : DTe X K W e wa := by
  obtain ⟨ta, a1, a2⟩ := ha
  exact ⟨_, fun i => (a1 i).pt, a2⟩
theorem dt_not {wa : DTT} (ha : DTe X K W a wa) : DTe X K W (.UnaryOp .Not a pos) (dNot wa) := by
  obtain ⟨ta, a1, a2⟩ := ha
  exact ⟨_, fun i => pt_not (a1 i), dn_not a2⟩
theorem de_not {wa : DT} (ha : DE X K W a wa) : DE X K W (.UnaryOp .Not a pos) (dNotV wa) := by
  obtain ⟨ta, a1, a2⟩ := ha
  exact ⟨_, fun i => pe_not (a1 i), dn_notV a2⟩
theorem de_one {op} {wa : DT} (ha : DE X K W a wa) : DE X K W (.BoolOp op [a] pos) wa := by
  obtain ⟨ta, a1, a2⟩ := ha
  exact ⟨_, fun i => pe_one (a1 i), a2⟩
theorem de_and {wa wb : DT} (ha : DE X K W a wa) (hb : DE X K W (.BoolOp .And (b :: es) pos) wb) : DE X K W (.BoolOp .And (a :: b :: es) pos) (dAndV wa wb) := by
  obtain ⟨ta, a1, a2⟩ := ha
  obtain ⟨tb, b1, b2⟩ := hb
  exact ⟨_, fun i => pe_and (a1 i) (b1 i), dn_andV a2 b2⟩
theorem de_or {wa wb : DT} (ha : DE X K W a wa) (hb : DE X K W (.BoolOp .Or (b :: es) pos) wb) : DE X K W (.BoolOp .Or (a :: b :: es) pos) (dOrV wa wb) := by
  obtain ⟨ta, a1, a2⟩ := ha
  obtain ⟨tb, b1, b2⟩ := hb
  exact ⟨_, fun i => pe_or (a1 i) (b1 i), dn_orV a2 b2⟩
theorem de_ifE {wt : DTT} {wa wb : DT} (ht : DTe X K W c wt) (ha : DE X K W a wa) (hb : DE X K W b wb) : DE X K W (.IfExp c a b pos) (dIfE wt wa wb) := by
  obtain ⟨tt, t1, t2⟩ := ht
  obtain ⟨ta, a1, a2⟩ := ha
  obtain ⟨tb, b1, b2⟩ := hb
  exact ⟨_, fun i => pe_ifExp (t1 i) (a1 i) (b1 i), dn_ifE t2 a2 b2⟩
theorem da_nil : DA X K W [] dNil := ⟨_, fun _ => pa_nil, dn_nil⟩
theorem da_cons {wa : DT} {wr : DTA} (ha : DE X K W e wa) (hr : DA X K W es wr) (hs : ∀ i, starEach (e :: es) (X i).env = (false, eval e (X i).env) :: starEach es (X i).env := by intro _; rfl) : DA X K W (e :: es) (dCons wa wr) := by
  obtain ⟨ta, a1, a2⟩ := ha
  obtain ⟨tb, b1, b2⟩ := hr
  exact ⟨_, fun i => pa_cons (a1 i) (b1 i) (hs i), dn_cons a2 b2⟩
theorem de_tup {x1} {wa : DTA} (ha : DA X K W es wa) : DE X K W (.Tuple es x1 pos) (dTup wa) := by
  obtain ⟨ta, a1, a2⟩ := ha
  exact ⟨_, fun i => pe_tup (a1 i), dn_tup a2⟩
theorem de_lst {wa : DTA} (ha : DA X K W es wa) : DE X K W (.List es pos) (dLst wa) := by
  obtain ⟨ta, a1, a2⟩ := ha
  exact ⟨_, fun i => pe_lst (a1 i), dn_lst a2⟩
theorem de_lstM {wa : DTA} (ha : DA X K W es wa) : DE X K W (.List es pos) (dLstM wa) := by
  obtain ⟨ta, a1, a2⟩ := ha
  exact ⟨_, fun i => pe_lst (a1 i), dn_lstM a2⟩
theorem de_newK : DE X K W (.Dict [] [] pos) dNewK := ⟨_, fun _ => pe_dnewK, dn_newK⟩
/-- a[i] -/
theorem de_ix {wa wb : DT} (hK : ∀ i, (X i).K = K) (ha : DE X K W a wa) (hb : DE X K W b wb) (hs : PlainIx b := by exact fun _ _ => rfl) : DE X K W (.Subscript a b pos) (dOp wIx wa wb) := by
  obtain ⟨ta, a1, a2⟩ := ha
  obtain ⟨tb, b1, b2⟩ := hb
  exact ⟨tOp (rIx K) ta tb, fun i => by rw [← hK i]; exact pe_ix ix_seq (a1 i) (b1 i) hs, dn_op ro_ix a2 b2⟩
/-- d[k], there -/
def wDGet : DR2 := fun d e M Q => ∃ kvs k v, dkOf M d = some kvs ∧ keyOf e = some k ∧ valD kvs k = some v ∧ Q v M
theorem de_dget {wa wb : DT} (hu : ∀ i, (X i).A.units + 1 < cLine) (ha : DE X K W a wa) (hb : DE X K W b wb) (hs : NoSl b := by exact fun _ _ => rfl) : DE X K W (.Subscript a b pos) (dOp wDGet wa wb) := by
  obtain ⟨ta, a1, a2⟩ := ha
  obtain ⟨tb, b1, b2⟩ := hb
  refine ⟨_, fun i => pe_dget (hu i) (a1 i) (b1 i) hs, ?_⟩
  intro G as σ H ρ M Qd Xd Q h e w cv ce
  refine a2 _ _ _ _ _ _ _ Xd _ h e w (fun G1 as1 H1 M1 x d g1 h1 r1 w1 => ?_) ce
  refine b2 _ _ _ _ _ _ _ Xd _ h1 (e.mono g1) w1 (fun G2 as2 H2 M2 y d2 g2 h2 r2 w2 => ?_) (ce.mono g1)
  obtain ⟨kvs, k, v, e1, e2, e3, q⟩ := w2
  obtain ⟨a', ks, rfl, hd, kv⟩ := h2.dk (r1.mono g2) e1
  obtain ⟨x', hx, rx⟩ := (kvr_val (k := k) kv).2 v e3
  exact ⟨a', x', rfl, .inl ⟨ks, k, hd, r2.keyOf e2, hx.symm⟩, cv _ _ _ _ _ _ (g1.trans g2) h2 rx q⟩
/-- k in d, k not in d -/
def wDIn (neg : Bool) : DR2 := fun e d M Q => ∃ kvs k, dkOf M d = some kvs ∧ keyOf e = some k ∧ Q (.bl (if neg then !(valD kvs k).isSome else (valD kvs k).isSome)) M
theorem de_din {wa wb : DT} (hu : ∀ i, (X i).A.units + 1 < cLine) (ha : DE X K W a wa) (hb : DE X K W b wb) (hm : behindInMarks .In b = false := by rfl) : DE X K W (.Compare a [.In] [b] pos) (dOp (wDIn false) wa wb) := by
  obtain ⟨ta, a1, a2⟩ := ha
  obtain ⟨tb, b1, b2⟩ := hb
  refine ⟨_, fun i => pe_cmp (pc_din (hu i) (a1 i) (b1 i)) hm, ?_⟩
  intro G as σ H ρ M Qd Xd Q h e w cv ce
  refine a2 _ _ _ _ _ _ _ Xd _ h e w (fun G1 as1 H1 M1 x d g1 h1 r1 w1 => ?_) ce
  refine b2 _ _ _ _ _ _ _ Xd _ h1 (e.mono g1) w1 (fun G2 as2 H2 M2 y d2 g2 h2 r2 w2 => ?_) (ce.mono g1)
  obtain ⟨kvs, k, e1, e2, q⟩ := w2
  obtain ⟨a', ks, rfl, hd, kv⟩ := h2.dk r2 e1
  refine ⟨a', _, rfl, .inl ⟨ks, k, hd, (r1.mono g2).keyOf e2, rfl⟩, ?_⟩
  rw [kvr_isSome kv]
  exact cv _ _ _ _ _ _ (g1.trans g2) h2 (.bl _) q
theorem de_dnotin {wa wb : DT} (hu : ∀ i, (X i).A.units + 1 < cLine) (ha : DE X K W a wa) (hb : DE X K W b wb) (hm : behindInMarks .NotIn b = false := by rfl) : DE X K W (.Compare a [.NotIn] [b] pos) (dOp (wDIn true) wa wb) := by
  obtain ⟨ta, a1, a2⟩ := ha
  obtain ⟨tb, b1, b2⟩ := hb
  refine ⟨_, fun i => pe_cmp (pc_dnotin (hu i) (a1 i) (b1 i)) hm, ?_⟩
  intro G as σ H ρ M Qd Xd Q h e w cv ce
  refine a2 _ _ _ _ _ _ _ Xd _ h e w (fun G1 as1 H1 M1 x d g1 h1 r1 w1 => ?_) ce
  refine b2 _ _ _ _ _ _ _ Xd _ h1 (e.mono g1) w1 (fun G2 as2 H2 M2 y d2 g2 h2 r2 w2 => ?_) (ce.mono g1)
  obtain ⟨kvs, k, e1, e2, q⟩ := w2
  obtain ⟨a', ks, rfl, hd, kv⟩ := h2.dk r2 e1
  refine ⟨a', _, rfl, .inl ⟨ks, k, hd, (r1.mono g2).keyOf e2, rfl⟩, ?_⟩
  rw [kvr_isSome kv]
  exact cv _ _ _ _ _ _ (g1.trans g2) h2 (.bl _) q

/-! ### attributes -/
def wFld (K : PySem.W.Frag) (f : Str) (d : D) (M : Mm) (Q : DK) : Prop := ∃ k C fs v, d = .ptr k ∧ M[k]? = some (.ins C fs) ∧ Cls K C ∧ NoAttr K C f ∧ fs.lookup f = some v ∧ Q v M
def dFld (K : PySem.W.Frag) (wa : DT) (f : Str) : DT := fun ρ M Q X => wa ρ M (fun d M1 => wFld K f d M1 Q) X
theorem de_fld {f : Str} {wa : DT} (hK : ∀ i, (X i).K = K) (ha : DE X K W e wa) (hb : ∀ i, attributeBase e f (X i).env (eval e (X i).env) = eval e (X i).env := by intro _; rfl) : DE X K W (.Attribute e f pos) (dFld K wa f) := by
  obtain ⟨ta, a1, a2⟩ := ha
  refine ⟨tFld K ta f, fun i => by rw [← hK i]; exact pe_fld (a1 i) (hb i), ?_⟩
  intro G as σ H ρ M Qd Xd Q h e w cv ce
  refine a2 _ _ _ _ _ _ _ Xd _ h e w (fun G1 as1 H1 M1 x d g1 h1 r1 w1 => ?_) ce
  obtain ⟨k, C, fs, v, rfl, e1, c1, n1, l1, q⟩ := w1
  obtain ⟨a, rfl, ha, dx, gs, e2, kv⟩ := h1.ptr r1 e1
  obtain ⟨v', l2, r2⟩ := (kvr_lookup (f := f) kv).2 v l1
  exact ⟨a, C, dx, gs, v', rfl, e2, c1, n1, l2, cv _ _ _ _ _ _ g1 h1 r2 q⟩
/-- o.f = e -/
def dSetF (K : PySem.W.Frag) (wo we : DT) (f : Str) : SW := fun De ρ M => we ρ M (fun d M1 => wo ρ M1 (fun o M2 => ∃ k C fs, o = .ptr k ∧ M2[k]? = some (.ins C fs) ∧ Cls K C ∧ NoAttr K C f ∧ fs.length < 1000 ∧ De.nx ρ (M2.set k (.ins C (putFD f d fs)))) (fun C fs M2 => De.ex C fs ρ M2)) (fun C fs M1 => De.ex C fs ρ M1)
theorem ds_fld {o : Expr} {f : Str} {pos' : Pos} {wo we : DT} (hK : ∀ i, (X i).K = K) (ho : DE X K W o wo) (he : DE X K W e we) (hs : ∀ i, swapsWith e (some (.Attribute o f pos')) pos.line (X i).env = pure false := by intro _; rfl) :
    DS X K W (.Assign [.Attribute o f pos'] e pos) (dSetF K wo we f) := by
  obtain ⟨to, o1, o2⟩ := ho
  obtain ⟨te, e1, e2⟩ := he
  refine ⟨sFld K to te f, fun i => by rw [← hK i]; exact ps_fld (o1 i) (e1 i) (hs i), ?_⟩
  intro G as σ H ρ M De Dv h e w c
  refine e2 _ _ _ _ _ _ _ _ _ h e w (fun G1 as1 H1 M1 x d g1 h1 r1 w1 => ?_) (c.ce e)
  refine o2 _ _ _ _ _ _ _ _ _ h1 (e.mono g1) w1 (fun G2 as2 H2 M2 y d2 g2 h2 r2 w2 => ?_) ((c.ce e).mono g1)
  obtain ⟨k, C, fs, rfl, e3, c3, n3, l3, q⟩ := w2
  obtain ⟨a, rfl, ha, dx, gs, e4, kv⟩ := h2.ptr r2 e3
  refine ⟨a, C, dx, gs, rfl, e4, c3, n3, by rw [kvr_len kv]; exact l3, ?_⟩
  have h3 := h2.put (m := .ins C (putFD f d fs)) (o := .ins C dx (putF f x gs)) ha ⟨dx, _, upd_same, kvr_putF (r1.mono g2) kv⟩
  exact c.nx _ _ _ _ _ _ (g1.trans g2) h3 (e.mono (g1.trans g2)) q
/-- an operator in place, by values -/
def DIn (X : ι → Cx) (K : PySem.W.Frag) (op : Operator) (w : DR2) : Prop := ∃ r, (∀ i, InOp (X i) op r) ∧ Ro2 K r w
theorem di_add : DIn X K .Add (wI (fun _ _ => True) fun i j => .int (i + j)) := ⟨_, fun _ => in_add, fun G as H M x y d e Qd Q h r1 r2 q cv => by
  obtain ⟨i, j, rfl, rfl, _, q⟩ := q
  exact ⟨i, j, r1.int_inv, r2.int_inv, cv _ _ _ _ _ _ .refl h (.int _) q⟩⟩
theorem di_sub : DIn X K .Sub (wI (fun _ _ => True) fun i j => .int (i - j)) := ⟨_, fun _ => in_sub, fun G as H M x y d e Qd Q h r1 r2 q cv => by
  obtain ⟨i, j, rfl, rfl, _, q⟩ := q
  exact ⟨i, j, r1.int_inv, r2.int_inv, cv _ _ _ _ _ _ .refl h (.int _) q⟩⟩
/-- o.f op= e -/
def dAugF (K : PySem.W.Frag) (wo we : DT) (f : Str) (wr : DR2) : SW := fun De ρ M => wo ρ M (fun o M1 => ∃ k C fs v, o = .ptr k ∧ M1[k]? = some (.ins C fs) ∧ Cls K C ∧ NoAttr K C f ∧ fs.lookup f = some v ∧
  we ρ M1 (fun d M2 => wr v d M2 (fun z M3 => ∃ fs', M3[k]? = some (.ins C fs') ∧ fs'.length < 1000 ∧ De.nx ρ (M3.set k (.ins C (putFD f z fs'))))) (fun C fs M2 => De.ex C fs ρ M2)) (fun C fs M1 => De.ex C fs ρ M1)
theorem ds_augF {o : Expr} {f : Str} {tpos : Pos} {op : Operator} {wo we : DT} {wr : DR2} (hK : ∀ i, (X i).K = K) (ho : DE X K W o wo) (he : DE X K W e we) (hop : DIn X K op wr) : DS X K W (.AugAssign (.Attribute o f tpos) op e pos) (dAugF K wo we f wr) := by
  obtain ⟨to, o1, o2⟩ := ho
  obtain ⟨te, e1, e2⟩ := he
  obtain ⟨r, p1, p2⟩ := hop
  refine ⟨sFldAug K to te r f, fun i => by rw [← hK i]; exact ps_fldaug (o1 i) (e1 i) (p1 i), ?_⟩
  intro G as σ H ρ M De Dv h e w c
  refine o2 _ _ _ _ _ _ _ _ _ h e w (fun G1 as1 H1 M1 x d g1 h1 r1 w1 => ?_) (c.ce e)
  obtain ⟨k, C, fs, v, rfl, e3, c3, n3, l3, w1⟩ := w1
  obtain ⟨a, rfl, ha, dx, gs, e4, kv⟩ := h1.ptr r1 e3
  obtain ⟨v', l2, r2⟩ := (kvr_lookup (f := f) kv).2 v l3
  refine ⟨a, C, dx, gs, v', rfl, e4, c3, n3, l2, ?_⟩
  refine e2 _ _ _ _ _ _ _ _ _ h1 (e.mono g1) w1 (fun G2 as2 H2 M2 y d2 g2 h2 ry w2 => ?_) ((c.ce e).mono g1)
  refine p2 _ _ _ _ _ _ _ _ _ _ h2 (r2.mono g2) ry w2 (fun G3 as3 H3 M3 z dz g3 h3 rz w3 => ?_)
  obtain ⟨fs', e5, l5, q⟩ := w3
  have g13 := g2.trans g3
  obtain ⟨a', ea, ha', dx', gs', e6, kv'⟩ := h3.ptr ((r1.mono g2).mono g3) e5
  cases ea
  refine ⟨dx', gs', e6, by rw [kvr_len kv']; exact l5, ?_⟩
  have h4 := h3.put (m := .ins C (putFD f dz fs')) (o := .ins C dx' (putF f z gs')) ha' ⟨dx', _, upd_same, kvr_putF rz kv'⟩
  exact c.nx _ _ _ _ _ _ (g1.trans g13) h4 (e.mono (g1.trans g13)) q

/-! ### blocks -/
variable {s : Stmt} {ss : List Stmt}
theorem dss_nil : DSs X K W [] dNext := ⟨_, fun _ => pss_nil, sn_next⟩
theorem dss_cons {w1 w2 : SW} (h1 : DS X K W s w1) (h2 : DSs X K W ss w2) : DSs X K W (s :: ss) (dSeq w1 w2) := by
  obtain ⟨t, a1, a2⟩ := h1
  obtain ⟨u, b1, b2⟩ := h2
  exact ⟨_, fun i => pss_cons (a1 i) (b1 i), sn_seq a2 b2⟩
theorem dss_one {w1 : SW} (h1 : DS X K W s w1) : DSs X K W [s] w1 := by
  obtain ⟨t, a1, a2⟩ := h1
  exact ⟨_, fun i => pss_one (a1 i), a2⟩
theorem ds_up {w1 : SW} (h1 : DS X K W s w1) : DS X K W s (dUp w1) := by
  obtain ⟨t, a1, a2⟩ := h1
  exact ⟨_, a1, sn_up a2⟩
theorem ds_pass : DS X K W (.Pass pos) dNext := ⟨_, fun _ => ps_pass, sn_next⟩
theorem ds_break : DS X K W (.Break pos) dBreak := ⟨_, fun _ => ps_break, sn_break⟩
theorem ds_cont : DS X K W (.Continue pos) dCont := ⟨_, fun _ => ps_continue, sn_cont⟩
theorem ds_expr {wa : DT} (ha : DE X K W e wa) (hs : ∀ i, swapsWith e none pos.line (X i).env = pure false := by intro _; rfl) : DS X K W (.Expr e pos) (dDrop wa) := by
  obtain ⟨ta, a1, a2⟩ := ha
  exact ⟨_, fun i => ps_expr (a1 i) (hs i), sn_drop a2⟩
theorem ds_ret {wa : DT} (ha : DE X K W e wa) : DS X K W (.Return (some e) pos) (dRet wa) := by
  obtain ⟨ta, a1, a2⟩ := ha
  exact ⟨_, fun i => ps_ret (a1 i), sn_ret a2⟩
theorem ds_retN : DS X K W (.Return none pos) dRetN := ⟨_, fun _ => ps_retN, sn_retN⟩
theorem ds_if {wt : DTT} {w1 w2 : SW} {s1 s2 : List Stmt} (ht : DTe X K W c wt) (h1 : DSs X K W s1 w1) (h2 : DSs X K W s2 w2) : DS X K W (.If c s1 s2 pos) (dIf wt w1 w2) := by
  obtain ⟨tt, t1, t2⟩ := ht
  obtain ⟨t, a1, a2⟩ := h1
  obtain ⟨u, b1, b2⟩ := h2
  exact ⟨_, fun i => ps_if (t1 i) (a1 i) (b1 i), sn_if t2 a2 b2⟩
theorem ds_while {wt : DTT} {wb : SW} {body : List Stmt} (hp : ∀ i, PassesOwn (model (X i).prog (X i).w) (X i).A (X i).env (X i).xe) (ht : DTe X K W c wt) (hb : DSs X K W body wb) : DS X K W (.While c body [] pos) (dWhile wt wb) := by
  obtain ⟨tt, t1, t2⟩ := ht
  obtain ⟨t, a1, a2⟩ := hb
  exact ⟨_, fun i => ps_while (hp i) (t1 i) (a1 i), sn_while t2 a2⟩
/-- x = e -/
theorem ds_set (i : Nat) {x : Str} {pos' : Pos} {we : DT} (he : DE X K W e we) (hN : ∀ j, (X j).N.Nodup) (hi : ∀ j, (X j).N[i]? = some x := by intro _; rfl) (hx : ∀ j, Loc (X j).env.scope x := by intro _; first | exact Or.inl rfl | exact Or.inr rfl)
    (hs : ∀ j, swapsWith e (some (.Name x pos')) pos.line (X j).env = pure false := by intro _; rfl) (hf : ∀ j, (X j).fn x = true ∨ (X j).env.scope.names.lookup x = some .local := by intro _; first | exact .inl rfl | exact .inr rfl) :
    DS X K W (.Assign [.Name x pos'] e pos) (dAsg we (dgName i)) := by
  obtain ⟨te, e1, e2⟩ := he
  exact ⟨_, fun j => ps_set (hN j) (hi j) (hx j) (e1 j) (hs j) (hf j), sn_asg e2 dg_name⟩
theorem dg_var (i : Nat) {x : Str} (hN : ∀ j, (X j).N.Nodup) (hi : ∀ j, (X j).N[i]? = some x := by intro _; rfl) (hx : ∀ j, Loc (X j).env.scope x := by intro _; first | exact Or.inl rfl | exact Or.inr rfl)
    (hf : ∀ j, (X j).fn x = true ∨ (X j).env.scope.names.lookup x = some .local := by intro _; first | exact .inl rfl | exact .inr rfl) : DG X K W (.Name x pos) (dgName i) := ⟨_, fun j => pg_name (hN j) (hi j) (hx j) (hf j), dg_name⟩
/-- (a, b, ..) = -/
abbrev DGts := List D → Ev → Mm → NK → XD → Prop
def dgNil : DGts := fun ds ρ M P _ => ds = [] ∧ P ρ M
def dgCons (w : DGt) (u : DGts) : DGts := fun ds ρ M P Xd => ∃ d r, ds = d :: r ∧ w d ρ M (fun ρ' M' => u r ρ' M' P Xd) Xd
def DnGs (K : PySem.W.Frag) (W : WX) (g : TGs) (w : DGts) : Prop := ∀ G as σ H ρ M vs ds P Xd R, Hs K G as H M → Evs K G as σ ρ → Rps K G as vs ds → w ds ρ M P Xd → CN K G as P R → CXN K G as (fun C fs _ M => Xd C fs M) W → g vs σ H R
end
end DL

namespace DL
open PySem PySem.Spec PyProof.Rows L2

/-! ### built-ins by values -/
def Rc (K : PySem.W.Frag) (r : List V → Hp → VK → Prop) (w : List D → Mm → DK → Prop) : Prop := ∀ G as H M vs ds Qd Q, Hs K G as H M → Rps K G as vs ds → w ds M Qd → CV K G as Qd Q → r vs H Q
def DCall {ι : Type} (X : ι → Cx) (K : PySem.W.Frag) (f : Value) (w : List D → Mm → DK → Prop) : Prop := ∃ r, (∀ i, CallR (X i) f r) ∧ Rc K r w
def dCall (w : List D → Mm → DK → Prop) (wa : DTA) : DT := fun ρ M Q X => wa ρ M (fun ds M1 => w ds M1 Q) X
theorem rps1 {K : PySem.W.Frag} {G : Hp} {as : List Addr} {vs : List V} {d : D} (r : Rps K G as vs [d]) : ∃ v, vs = [v] ∧ Rp K G as v d := by
  cases r with
  | cons h r => cases r; exact ⟨_, rfl, h⟩
theorem rps2 {K : PySem.W.Frag} {G : Hp} {as : List Addr} {vs : List V} {d e : D} (r : Rps K G as vs [d, e]) : ∃ v u, vs = [v, u] ∧ Rp K G as v d ∧ Rp K G as u e := by
  cases r with
  | cons h r =>
    obtain ⟨u, rfl, q⟩ := rps1 r
    exact ⟨_, _, rfl, h, q⟩
section
variable {ι : Type} {X : ι → Cx} {K : PySem.W.Frag} {W : WX} {a b c e : Expr} {es : List Expr} {pos p : Pos}
theorem dn_call {r : List V → Hp → VK → Prop} {w : List D → Mm → DK → Prop} {ta : TA} {wa : DTA} (hr : Rc K r w) (ha : DnA K W ta wa) : Dn K W (tCB r ta) (dCall w wa) := by
  intro G as σ H ρ M Qd Xd Q h e w cv ce
  refine ha _ _ _ _ _ _ _ Xd _ h e w (fun G1 as1 H1 M1 vs ds g1 h1 r1 w1 => ?_) ce
  exact hr _ _ _ _ _ _ _ _ h1 r1 w1 (cv.mono g1)
theorem de_callB {x : Str} {id : String} {w : List D → Mm → DK → Prop} {wa : DTA} (hc : DCall X K (.builtin id) w) (hm : ∀ i, (X i).mg x = none) (hv : bootBuiltins x = some (.builtin id)) (ha : DA X K W (e :: es) wa) (hg : ∀ i, Gl (X i) x := by intro _; rfl)
    (hn : x ≠ "__name__" := by decide) (hdb : (x == ("__debug__" : Str)) = false := by decide) (he : ∀ i, starEach (e :: es) (X i).env = (false, eval e (X i).env) :: starEach es (X i).env := by intro _; rfl)
    (hpl : ∀ i, (backTo pos (starEach es (X i).env)).any (·.1) = false := by intro _; rfl) : DE X K W (.Call (.Name x p) (e :: es) [] pos) (dCall w wa) := by
  obtain ⟨r, c1, c2⟩ := hc
  obtain ⟨ta, a1, a2⟩ := ha
  exact ⟨_, fun i => pe_callB (c1 i) (hg i) (hm i) hv (a1 i) hn hdb (he i) (hpl i), dn_call c2 a2⟩
theorem de_callT {x : Str} {T : String} {w : List D → Mm → DK → Prop} {wa : DTA} (hc : DCall X K (.type T) w) (hm : ∀ i, (X i).mg x = none) (hv : bootBuiltins x = some (.type T)) (ha : DA X K W (e :: es) wa) (hg : ∀ i, Gl (X i) x := by intro _; rfl)
    (hn : x ≠ "__name__" := by decide) (hdb : (x == ("__debug__" : Str)) = false := by decide) (he : ∀ i, starEach (e :: es) (X i).env = (false, eval e (X i).env) :: starEach es (X i).env := by intro _; rfl)
    (hpl : ∀ i, (backTo pos (starEach es (X i).env)).any (·.1) = false := by intro _; rfl) : DE X K W (.Call (.Name x p) (e :: es) [] pos) (dCall w wa) := by
  obtain ⟨r, c1, c2⟩ := hc
  obtain ⟨ta, a1, a2⟩ := ha
  exact ⟨_, fun i => pe_callTy (c1 i) (hg i) (hm i) hv (a1 i) hn hdb (he i) (hpl i), dn_call c2 a2⟩
/-- int(n), int(flag) -/
def wIntC : List D → Mm → DK → Prop := fun ds M Q => (∃ i, ds = [.int i] ∧ Q (.int i) M) ∨ ∃ b, ds = [.bl b] ∧ Q (.int (if b then 1 else 0)) M
theorem dc_int : DCall X K (.type "int") wIntC := ⟨_, fun _ => call_int1, fun G as H M vs ds Qd Q h r q cv => by
  rcases q with ⟨i, rfl, q⟩ | ⟨i, rfl, q⟩
  · obtain ⟨v, rfl, rv⟩ := rps1 r
    exact .inl ⟨i, by rw [rv.int_inv], cv _ _ _ _ _ _ .refl h (.int _) q⟩
  · obtain ⟨v, rfl, rv⟩ := rps1 r
    exact .inr ⟨i, by rw [rv.bl_inv], cv _ _ _ _ _ _ .refl h (.int _) q⟩⟩
/-- len(x) of a list, a tuple, a text -/
def wLen : List D → Mm → DK → Prop := fun ds M Q => (∃ d xs, ds = [d] ∧ sqOf M d = some xs ∧ Q (.int xs.length) M) ∨ ∃ z, ds = [.str z] ∧ z.length ≤ sizeLine ∧ Q (.int z.length) M
theorem dc_len (hK : ∀ i, (X i).K = K) : DCall X K (.builtin "len") wLen := ⟨_, fun i => (show CallR (X i) (.builtin "len") (fun xs H Q => ∃ p ys, xs = [.ref p] ∧ (SqL K H p ys ∨ SqT K H p ys) ∧ Q (.int ys.length) H) by rw [← hK i]; exact call_len_seq).or call_len_str, fun G as H M vs ds Qd Q h r q cv => by
  rcases q with ⟨d, xs, rfl, e1, q⟩ | ⟨z, rfl, hz, q⟩
  · obtain ⟨v, rfl, rv⟩ := rps1 r
    obtain ⟨a, ws, rfl, hs, rw'⟩ := h.sq rv e1
    refine .inl ⟨a, ws, rfl, hs, ?_⟩
    rw [rw'.length]
    exact cv _ _ _ _ _ _ .refl h (.int _) q
  · obtain ⟨v, rfl, rv⟩ := rps1 r
    exact .inr ⟨z, by rw [rv.str_inv], hz, cv _ _ _ _ _ _ .refl h (.int _) q⟩⟩
/-- list(x) of a list, a tuple, the script -/
def wListC : List D → Mm → DK → Prop := fun ds M Q => (∃ d xs, ds = [d] ∧ sqOf M d = some xs ∧ Q (.lst xs) M) ∨ ∃ ns, ds = [.scr ns] ∧ Q (.lst (ns.map .int)) M
theorem rps_ints {G : Hp} {as : List Addr} : ∀ ns : List Int, Rps K G as (ns.map V.int) (ns.map D.int)
  | [] => .nil
  | n :: ns => .cons (.int n) (rps_ints ns)
theorem dc_list (hK : ∀ i, (X i).K = K) : DCall X K (.type "list") wListC := ⟨_, fun i => (show CallR (X i) (.type "list") (fun xs H Q => ∃ p ys, xs = [.ref p] ∧ (SqL K H p ys ∨ SqT K H p ys) ∧ ∀ l, H l = none → Q (.ref l) (upd H l (.lst ys))) by rw [← hK i]; exact call_list_of), fun G as H M vs ds Qd Q h r q cv => by
  rcases q with ⟨d, xs, rfl, e1, q⟩ | ⟨ns, rfl, q⟩
  · obtain ⟨v, rfl, rv⟩ := rps1 r
    obtain ⟨a, ws, rfl, hs, rw'⟩ := h.sq rv e1
    refine ⟨a, ws, rfl, hs, fun l nl => ?_⟩
    obtain ⟨g2, h2⟩ := h.const (o := .lst ws) nl
    exact cv _ _ _ _ _ _ g2 h2 (.lst upd_same (rw'.mono g2)) q
  · obtain ⟨v, rfl, rv⟩ := rps1 r
    obtain ⟨a, rfl, hs⟩ := rv.scr_inv
    refine ⟨a, _, rfl, .inl (h.sub.seq hs), fun l nl => ?_⟩
    obtain ⟨g2, h2⟩ := h.const (o := .lst (ns.map V.int)) nl
    exact cv _ _ _ _ _ _ g2 h2 (.lst upd_same (rps_ints ns)) q⟩
/-- list(d) of a dict: its keys -/
def wListD : List D → Mm → DK → Prop := fun ds M Q => ∃ k kvs, ds = [.ptr k] ∧ M[k]? = some (.dK kvs) ∧ Q (.lst (kvs.map fun kv => kD kv.1)) M
theorem rps_keys {G : Hp} {as : List Addr} : ∀ {ks : List (Key × V)} {kvs : List (Key × D)}, Kvr K G as ks kvs → Rps K G as (ks.map fun kv => kV kv.1) (kvs.map fun kv => kD kv.1)
  | _, _, .nil => .nil
  | (k, x) :: ks, (k', y) :: kvs, .cons h r => by
    have hk : k = k' := h.1
    subst hk
    refine .cons ?_ (rps_keys r)
    cases k with
    | inl i => exact .int i
    | inr z => exact .str z
theorem dc_listD (hc : ∀ i, (X i).calm = true) : DCall X K (.type "list") wListD := ⟨_, fun i => call_list_dK (hc i), fun G as H M vs ds Qd Q h r q cv => by
  obtain ⟨k, kvs, rfl, e1, q⟩ := q
  obtain ⟨v, rfl, rv⟩ := rps1 r
  obtain ⟨a, rfl, ha, ks, hk, kv⟩ := h.ptr rv e1
  refine ⟨a, ks, rfl, hk, fun l nl => ?_⟩
  obtain ⟨g2, h2⟩ := h.const (o := .lst (ks.map fun kv => kV kv.1)) nl
  exact cv _ _ _ _ _ _ g2 h2 (.lst upd_same (rps_keys (kv.mono g2))) q⟩
/-- sorted(xs), ints -/
def wSortI : List D → Mm → DK → Prop := fun ds M Q => ∃ (d : D) (ns : List Int), ds = [d] ∧ lsOf M d = some (ns.map D.int) ∧ ∀ ns' : List Int, ns'.Perm ns → ns'.Pairwise (· ≤ ·) → Q (.lst (ns'.map D.int)) M
theorem rps_ints_inv {G : Hp} {as : List Addr} : ∀ {ns : List Int} {vs : List V}, Rps K G as vs (ns.map D.int) → vs = ns.map V.int
  | [], _, r => by cases r; rfl
  | n :: ns, _, r => by
    cases r with
    | cons h r =>
      rw [rps_ints_inv r, h.int_inv]
      rfl
theorem dc_sortI (hK : ∀ i, (X i).K = K) : DCall X K (.builtin "sorted") wSortI := ⟨rSortedI K, fun i => by rw [← hK i]; exact cr_sortedI, fun G as H M vs ds Qd Q h r q cv => by
  obtain ⟨d, ns, rfl, e1, q⟩ := q
  obtain ⟨v, rfl, rv⟩ := rps1 r
  obtain ⟨a, ws, rfl, hs, rw'⟩ := h.ls rv e1
  have e := rps_ints_inv rw'
  subst e
  refine ⟨a, ns, rfl, .inl (.inl hs), fun ns' l hp hw nl => ?_⟩
  obtain ⟨g2, h2⟩ := h.const (o := .lst (ns'.map V.int)) nl
  exact cv _ _ _ _ _ _ g2 h2 (.lst upd_same (rps_ints ns')) (q ns' hp hw)⟩
/-- all(xs) of truth values -/
def wAll : List D → Mm → DK → Prop := fun ds M Q => ∃ (d : D) (bs : List Bool), ds = [d] ∧ lsOf M d = some (bs.map D.bl) ∧ Q (.bl (bs.all id)) M
def wAny : List D → Mm → DK → Prop := fun ds M Q => ∃ (d : D) (bs : List Bool), ds = [d] ∧ lsOf M d = some (bs.map D.bl) ∧ Q (.bl (bs.any id)) M
theorem rps_bls_inv {G : Hp} {as : List Addr} : ∀ {ns : List Bool} {vs : List V}, Rps K G as vs (ns.map D.bl) → vs = ns.map V.bl
  | [], _, r => by cases r; rfl
  | n :: ns, _, r => by
    cases r with
    | cons h r =>
      rw [rps_bls_inv r, h.bl_inv]
      rfl
theorem dc_all (hK : ∀ i, (X i).K = K) (hc : ∀ i, (X i).calm = true) : DCall X K (.builtin "all") wAll := ⟨rAll K, fun i => by rw [← hK i]; exact cr_all (hc i), fun G as H M vs ds Qd Q h r q cv => by
  obtain ⟨d, bs, rfl, e1, q⟩ := q
  obtain ⟨v, rfl, rv⟩ := rps1 r
  obtain ⟨a, ws, rfl, hs, rw'⟩ := h.ls rv e1
  have e := rps_bls_inv rw'
  subst e
  exact ⟨a, bs, rfl, .inl (.inl hs), cv _ _ _ _ _ _ .refl h (.bl _) q⟩⟩
theorem dc_any (hK : ∀ i, (X i).K = K) (hc : ∀ i, (X i).calm = true) : DCall X K (.builtin "any") wAny := ⟨rAny K, fun i => by rw [← hK i]; exact cr_any (hc i), fun G as H M vs ds Qd Q h r q cv => by
  obtain ⟨d, bs, rfl, e1, q⟩ := q
  obtain ⟨v, rfl, rv⟩ := rps1 r
  obtain ⟨a, ws, rfl, hs, rw'⟩ := h.ls rv e1
  have e := rps_bls_inv rw'
  subst e
  exact ⟨a, bs, rfl, .inl (.inl hs), cv _ _ _ _ _ _ .refl h (.bl _) q⟩⟩
/-- isinstance -/
inductive Ty where
  | none | bool | int | str | list | tuple | dict
  deriving DecidableEq
def Ty.nm : Ty → String
  | .none => "NoneType" | .bool => "bool" | .int => "int" | .str => "str" | .list => "list" | .tuple => "tuple" | .dict => "dict"
def isa (t k : Ty) : Bool := decide (t = k) || (decide (t = .bool) && decide (k = .int))
theorem isa_ok : ∀ (t k : Ty), kitB t.nm k.nm = some (isa t k) := by
  intro t k
  cases t <;> cases k <;> decide +kernel
def tyD (M : Mm) : D → Option Ty
  | .non => some .none
  | .bl _ => some .bool
  | .int _ => some .int
  | .str _ => some .str
  | .lst _ => some .list
  | .tup _ => some .tuple
  | .ptr k => match M[k]? with
    | some (.lst _) => some .list
    | some (.dK _) => some .dict
    | _ => Option.none
  | _ => Option.none
theorem sqT_ty {H : Hp} {a : Addr} {vs : List V} (h : SqT K H a vs) : TyX K H (.ref a) (.type "tuple") := by
  rcases h with (h | ⟨o, h⟩) | ⟨o, its, n, hk, hc, _⟩
  · exact .base (.tup h)
  · exact .fTuple h
  · exact .kTuple hk hc
theorem tyD_ok {G : Hp} {as : List Addr} {H : Hp} {M : Mm} {v : V} {d : D} {t : Ty} (h : Hs K G as H M) (r : Rp K G as v d) (e : tyD M d = some t) : TyX K H v (.type t.nm) := by
  cases d with
  | non => cases r; cases e; exact .base .non
  | bl b => cases r; cases e; exact .base (.bl _)
  | int b => cases r; cases e; exact .base (.int _)
  | str b => cases r; cases e; exact .base (.str _)
  | lst xs =>
    cases e
    obtain ⟨a, vs, rfl, h1, _⟩ := r.lst_inv
    exact .base (.lst (h.sub _ _ h1))
  | tup xs =>
    cases e
    obtain ⟨a, vs, rfl, h1, _⟩ := r.tup_inv
    exact sqT_ty (sqT_mono h.sub h1)
  | ptr k =>
    unfold tyD at e
    dsimp only at e
    cases q : M[k]? with
    | none => rw [q] at e; cases e
    | some m =>
      rw [q] at e
      obtain ⟨a, rfl, _, hm⟩ := h.ptr r q
      cases m with
      | lst ys =>
        cases e
        obtain ⟨vs, e1, _⟩ := hm
        exact .base (.lst e1)
      | dK ys =>
        cases e
        obtain ⟨vs, e1, _⟩ := hm
        exact .base (.dK e1)
      | _ => cases e
  | _ => cases e
def wIsi : List D → Mm → DK → Prop := fun ds M Q => ∃ d t k, ds = [d, .ty (Ty.nm k)] ∧ tyD M d = some t ∧ Q (.bl (isa t k)) M
theorem dc_isi (hK : ∀ i, (X i).K = K) : DCall X K (.builtin "isinstance") wIsi := ⟨rIsi K, fun i => by rw [← hK i]; exact call_isi, fun G as H M vs ds Qd Q h r q cv => by
  obtain ⟨d, t, k, rfl, e1, q⟩ := q
  obtain ⟨v, u, rfl, rv, ru⟩ := rps2 r
  have eu : u = .ty k.nm := by cases ru; rfl
  subst eu
  exact ⟨v, .ty k.nm, _, _, isa t k, rfl, .ty _, tyD_ok h rv e1, kit_ty (isa_ok t k), cv _ _ _ _ _ _ .refl h (.bl _) q⟩⟩

/-! ### methods of lists and dicts -/
def Rm (K : PySem.W.Frag) (r : V → List V → Hp → VK → Prop) (w : D → List D → Mm → DK → Prop) : Prop := ∀ G as H M v vs d ds Qd Q, Hs K G as H M → Rp K G as v d → Rps K G as vs ds → w d ds M Qd → CV K G as Qd Q → r v vs H Q
/-- xs.append(e) -/
def dAppend (wo : DT) (wa : DTA) : DT := fun ρ M Q X => wo ρ M (fun o M1 => ∃ k xs, o = .ptr k ∧ M1[k]? = some (.lst xs) ∧ wa ρ M1 (fun ds M2 => ∃ ys d, ds = [d] ∧ M2[k]? = some (.lst ys) ∧ ys.length < sizeLine ∧ Q .non (M2.set k (.lst (ys ++ [d])))) X) X
theorem de_append {o : Expr} {apos cpos : Pos} {wo : DT} {wa : DTA} (hK : ∀ i, (X i).K = K) (ho : DE X K W o wo) (ha : DA X K W [e] wa) (hbase : ∀ i, attributeBase o "append" (X i).env (eval o (X i).env) = eval o (X i).env := by intro _; rfl)
    (hfew : ∀ i, ((backTo cpos (starEach [e] (X i).env)).all (fun x => !x.1) && (backToKw cpos (keywordEach [] (X i).env)).all (fun x => x.1.isSome) && decide (([e] : List Expr).length + ([] : List Keyword).length + (if ([] : List Keyword).isEmpty then 0 else 1) < 30)) = true := by intro _; rfl)
    (hline : (apos.endLine == cpos.line) = true := by rfl) (hs : ∀ i, starEach [e] (X i).env = (false, eval e (X i).env) :: starEach [] (X i).env := by intro _; rfl) (hpl : ∀ i, (backTo cpos (starEach [] (X i).env)).any (·.1) = false := by intro _; rfl) :
    DE X K W (.Call (.Attribute o "append" apos) [e] [] cpos) (dAppend wo wa) := by
  obtain ⟨to, o1, o2⟩ := ho
  obtain ⟨ta, a1, a2⟩ := ha
  refine ⟨tBM K "list" rAppend to ta, fun i => by rw [← hK i]; exact pe_bm PySem.F.plainAttrs_list PySem.F.slot_list_append PySem.F.type_list_append mt_append (o1 i) (a1 i) (hbase i) (hfew i) hline (hs i) (hpl i), ?_⟩
  intro G as σ H ρ M Qd Xd Q h ev w cv ce
  refine o2 _ _ _ _ _ _ _ Xd _ h ev w (fun G1 as1 H1 M1 x d g1 h1 r1 w1 => ?_) ce
  obtain ⟨k, xs, rfl, e1, w1⟩ := w1
  obtain ⟨a, rfl, ha, vs, e2, _⟩ := h1.ptr r1 e1
  refine ⟨.inl ⟨rfl, vs, .inl (.inl e2)⟩, ?_⟩
  refine a2 _ _ _ _ _ _ _ Xd _ h1 (ev.mono g1) w1 (fun G2 as2 H2 M2 us ds g2 h2 r2 w2 => ?_) (ce.mono g1)
  obtain ⟨ys, d, rfl, e3, l3, q⟩ := w2
  obtain ⟨u, rfl, ru⟩ := rps1 r2
  obtain ⟨a', ea, ha', ws, e4, rw4⟩ := h2.ptr (r1.mono g2) e3
  cases ea
  refine ⟨a, ws, u, rfl, rfl, e4, by rw [rw4.length]; exact l3, ?_⟩
  exact cv _ _ _ _ _ _ (g1.trans g2) (h2.put (m := .lst (ys ++ [d])) ha' ⟨_, upd_same, rw4.snoc ru⟩) .non q
/-- d.get(k, x) -/
def dGet2 (wd wk wx : DT) : DT := fun ρ M Q X => wd ρ M (fun o M1 => ∃ kvs, dkOf M1 o = some kvs ∧ wk ρ M1 (fun y M2 => wx ρ M2 (fun z M3 => ∃ kvs k, dkOf M3 o = some kvs ∧ keyOf y = some k ∧ Q ((valD kvs k).getD z) M3) X) X) X
theorem de_get2 {o f : Expr} {apos cpos : Pos} {wd wk wx : DT} (hu : ∀ i, (X i).A.units + 1 < cLine) (ho : DE X K W o wd) (he : DE X K W e wk) (hf : DE X K W f wx) (m : ∀ i, M2 (X i) o "get" apos e f cpos := by intro _; exact ⟨rfl, rfl, rfl, rfl⟩) :
    DE X K W (.Call (.Attribute o "get" apos) [e, f] [] cpos) (dGet2 wd wk wx) := by
  obtain ⟨to, o1, o2⟩ := ho
  obtain ⟨te, e1, e2⟩ := he
  obtain ⟨tf, f1, f2⟩ := hf
  refine ⟨_, fun i => pe_dget2 (hu i) (o1 i) (e1 i) (f1 i) (m i), ?_⟩
  intro G as σ H ρ M Qd Xd Q h ev w cv ce
  refine o2 _ _ _ _ _ _ _ Xd _ h ev w (fun G1 as1 H1 M1 x d g1 h1 r1 w1 => ?_) ce
  obtain ⟨kvs, q1, w1⟩ := w1
  obtain ⟨a, ks, rfl, hd, _⟩ := h1.dk r1 q1
  refine ⟨a, rfl, .inl ⟨ks, hd⟩, ?_⟩
  refine e2 _ _ _ _ _ _ _ Xd _ h1 (ev.mono g1) w1 (fun G2 as2 H2 M2 y dy g2 h2 r2 w2 => ?_) (ce.mono g1)
  refine f2 _ _ _ _ _ _ _ Xd _ h2 (ev.mono (g1.trans g2)) w2 (fun G3 as3 H3 M3 z dz g3 h3 r3 w3 => ?_) (ce.mono (g1.trans g2))
  obtain ⟨kvs', k, q3, q4, q⟩ := w3
  have g123 := (g1.trans g2).trans g3
  obtain ⟨a', ks', ea, hd', kv'⟩ := h3.dk ((r1.mono g2).mono g3) q3
  cases ea
  refine ⟨_, .inl ⟨ks', k, hd', (r2.mono g3).keyOf q4, rfl⟩, ?_⟩
  obtain ⟨i1, i2⟩ := kvr_val (k := k) kv'
  cases e5 : valD kvs' k with
  | none =>
    rw [e5] at q
    rw [i1 e5]
    exact cv _ _ _ _ _ _ g123 h3 r3 q
  | some t =>
    rw [e5] at q
    obtain ⟨x', hx, rx⟩ := i2 t e5
    rw [hx]
    exact cv _ _ _ _ _ _ g123 h3 rx q
/-- d[k] = v -/
def dDPut (wd wk wv : DT) : SW := fun De ρ M => wv ρ M (fun v M1 => wd ρ M1 (fun o M2 => wk ρ M2 (fun y M3 => ∃ n kvs k, o = .ptr n ∧ M3[n]? = some (.dK kvs) ∧ keyOf y = some k ∧ kvs.length < sizeLine ∧ De.nx ρ (M3.set n (.dK (putD kvs k v)))) (fun C fs M2 => De.ex C fs ρ M2)) (fun C fs M2 => De.ex C fs ρ M2)) (fun C fs M1 => De.ex C fs ρ M1)
theorem ds_dput {o i v : Expr} {pos' : Pos} {wd wk wv : DT} (hu : ∀ j, (X j).A.units + 1 < cLine) (ho : DE X K W o wd) (hi : DE X K W i wk) (hv : DE X K W v wv) (hs : ∀ j, swapsWith v (some (.Subscript o i pos')) pos.line (X j).env = pure false := by intro _; rfl) :
    DS X K W (.Assign [.Subscript o i pos'] v pos) (dDPut wd wk wv) := by
  obtain ⟨to, o1, o2⟩ := ho
  obtain ⟨ti, i1, i2⟩ := hi
  obtain ⟨tv, v1, v2⟩ := hv
  refine ⟨_, fun j => ps_dput (hu j) (o1 j) (i1 j) (v1 j) (hs j), ?_⟩
  intro G as σ H ρ M De Dv h ev w c
  refine v2 _ _ _ _ _ _ _ _ _ h ev w (fun G1 as1 H1 M1 x d g1 h1 r1 w1 => ?_) (c.ce ev)
  refine o2 _ _ _ _ _ _ _ _ _ h1 (ev.mono g1) w1 (fun G2 as2 H2 M2 y dy g2 h2 r2 w2 => ?_) ((c.ce ev).mono g1)
  refine i2 _ _ _ _ _ _ _ _ _ h2 (ev.mono (g1.trans g2)) w2 (fun G3 as3 H3 M3 z dz g3 h3 r3 w3 => ?_) ((c.ce ev).mono (g1.trans g2))
  obtain ⟨n, kvs, k, rfl, e3, e4, l4, q⟩ := w3
  have g123 := (g1.trans g2).trans g3
  obtain ⟨a, rfl, ha, ks, e5, kv⟩ := h3.ptr (r2.mono g3) e3
  refine ⟨a, _, rfl, .inl ⟨ks, k, e5, r3.keyOf e4, by rw [kvr_len kv]; exact l4, rfl⟩, ?_⟩
  exact c.nx _ _ _ _ _ _ g123 (h3.put (m := .dK (putD kvs k d)) ha ⟨_, upd_same, kvr_put kv ((r1.mono g2).mono g3)⟩) (ev.mono g123) q
/-- xs[i] = v -/
def dgSet (wo wi : DT) : DGt := fun d ρ M P Xd => wo ρ M (fun o M1 => wi ρ M1 (fun i M2 => ∃ k xs n j, o = .ptr k ∧ i = .int n ∧ M2[k]? = some (.lst xs) ∧ ixN xs.length n = some j ∧ P ρ (M2.set k (.lst (xs.set j d)))) Xd) Xd
theorem dg_set {o i : Expr} {wo wi : DT} (ho : DE X K W o wo) (hi : DE X K W i wi)
    (ha : ∀ j w0, PySem.assign (.Subscript o i pos) (X j).env w0 = (do
      let o' ← holding [w0] (eval o (X j).env)
      let i' ← holding [w0, o'] (eval i (X j).env)
      standAt pos
      holding [w0, o', i'] (setItem o' i' w0)
      release [w0, o', i'] []) := by intro _ _; rfl) : DG X K W (.Subscript o i pos) (dgSet wo wi) := by
  obtain ⟨to, o1, o2⟩ := ho
  obtain ⟨ti, i1, i2⟩ := hi
  refine ⟨gSub to ti rSetL, fun j => pg_sub (o1 j) (i1 j) set_list (ha j), ?_⟩
  intro G as σ H ρ M v d P Xd R h ev r w c ce
  refine o2 _ _ _ _ _ _ _ _ _ h ev w (fun G1 as1 H1 M1 x dx g1 h1 r1 w1 => ?_) ce
  refine i2 _ _ _ _ _ _ _ _ _ h1 (ev.mono g1) w1 (fun G2 as2 H2 M2 y dy g2 h2 r2 w2 => ?_) (ce.mono g1)
  obtain ⟨k, xs, n, j, rfl, rfl, e3, e4, q⟩ := w2
  obtain ⟨a, rfl, ha, vs, e5, rv⟩ := h2.ptr (r1.mono g2) e3
  refine ⟨a, vs, n, j, rfl, r2.int_inv, e5, by rw [rv.length]; exact e4, ?_⟩
  exact c _ _ _ _ _ _ (g1.trans g2) (h2.put (m := .lst (xs.set j d)) ha ⟨_, upd_same, rv.set j (r.mono (g1.trans g2))⟩) (ev.mono (g1.trans g2)) q
theorem ds_asg {tg : Expr} {we : DT} {wg : DGt} (he : DE X K W e we) (hg : DG X K W tg wg) (hs : ∀ j, swapsWithSole [tg] e pos.line (X j).env = pure false := by intro _; rfl) (hw : ∀ j, swappedStores [tg] e (X j).env = pure none := by intro _; rfl)
    (hl : ∀ j, (assignEach [tg] (X j).env).map (·.2) = [PySem.assign tg (X j).env] := by intro _; rfl) : DS X K W (.Assign [tg] e pos) (dAsg we wg) := by
  obtain ⟨te, e1, e2⟩ := he
  obtain ⟨g, g1, g2⟩ := hg
  exact ⟨_, fun j => ps_asg (e1 j) (g1 j) (hs j) (hw j) (hl j), sn_asg e2 g2⟩
end
end DL

namespace DL
open PySem PySem.Spec PyProof.Rows L2

/-! ### what is walked -/
section
variable {ι : Type} {X : ι → Cx} {K : PySem.W.Frag} {W : WX} {a b c e tg : Expr} {es : List Expr} {pos p : Pos}
def diList (we : DT) : DIt := fun ρ M R X => we ρ M (fun d M1 => ∃ xs, (d = .lst xs ∧ R xs (fun _ => True) M1) ∨ ∃ k, d = .ptr k ∧ M1[k]? = some (.lst xs) ∧ R xs (fun M => M[k]? = some (.lst xs)) M1) X
theorem yl_list {G : Hp} {as : List Addr} {a : Addr} {vs : List V} {xs : List D} {st : Mm → Prop} (h : ∀ G' as' H' M', Gr G as G' as' → Hs K G' as' H' M' → st M' → ∃ vs, H' a = some (.lst vs) ∧ Rps K G' as' vs xs) : Yl K G as (Itl K a) xs st := by
  refine ⟨fun i d G' as' H' M' g h' s e => ?_, fun i G' as' H' M' g h' s e => ?_⟩
  · obtain ⟨vs, e1, r⟩ := h G' as' H' M' g h' s
    obtain ⟨v, e2, rv⟩ := r.get e
    refine ⟨⟨vs, v, .inl (.inl e1), e2⟩, fun x H'' y => ?_⟩
    obtain ⟨rfl, y⟩ := y
    have e3 := y vs (.inl (.inl e1))
    rw [e2] at e3
    have e4 := Option.some.inj e3
    subst e4
    exact ⟨G', as', .refl, h', rv⟩
  · obtain ⟨vs, e1, r⟩ := h G' as' H' M' g h' s
    exact ⟨vs, .inl (.inl e1), by rw [r.length]; exact e⟩
theorem di_list {we : DT} (hK : ∀ i, (X i).K = K) (he : DE X K W e we) : DI X K W tg e (diList we) := by
  obtain ⟨te, e1, e2⟩ := he
  refine ⟨iList K te, fun i => by rw [← hK i]; exact pi_list (e1 i), ?_⟩
  intro G as σ H ρ M Qd Xd R h ev w c ce
  refine e2 _ _ _ _ _ _ _ Xd _ h ev w (fun G1 as1 H1 M1 x d g1 h1 r1 w1 => ?_) ce
  obtain ⟨xs, w1⟩ := w1
  rcases w1 with ⟨rfl, w1⟩ | ⟨k, rfl, e3, w1⟩
  · obtain ⟨a, vs, rfl, q, rv⟩ := r1.lst_inv
    refine ⟨a, rfl, ⟨vs, .inl (.inl (h1.sub _ _ q))⟩, c _ _ _ _ _ _ _ g1 h1 (yl_list (vs := vs) fun G' as' H' M' g h' _ => ⟨vs, h'.sub _ _ (g.g _ _ q), rv.mono g⟩) w1⟩
  · obtain ⟨a, rfl, ha, vs, q, rv⟩ := h1.ptr r1 e3
    refine ⟨a, rfl, ⟨vs, .inl (.inl q)⟩, c _ _ _ _ _ _ _ g1 h1 (yl_list (vs := vs) fun G' as' H' M' g h' s => ?_) w1⟩
    exact h'.ob k a _ (pre_get g.a ha) s
def diTup (we : DT) : DIt := fun ρ M R X => we ρ M (fun d M1 => ∃ xs, d = .tup xs ∧ R xs (fun _ => True) M1) X
theorem di_tup {we : DT} (hK : ∀ i, (X i).K = K) (he : DE X K W e we) : DI X K W tg e (diTup we) := by
  obtain ⟨te, e1, e2⟩ := he
  refine ⟨iTup K te, fun i => by rw [← hK i]; exact pi_tup (e1 i), ?_⟩
  intro G as σ H ρ M Qd Xd R h ev w c ce
  refine e2 _ _ _ _ _ _ _ Xd _ h ev w (fun G1 as1 H1 M1 x d g1 h1 r1 w1 => ?_) ce
  obtain ⟨xs, rfl, w1⟩ := w1
  obtain ⟨a, vs, rfl, q, rv⟩ := r1.tup_inv
  have uniq : ∀ G' as' H' M', Gr G1 as1 G' as' → Hs K G' as' H' M' → SqT K H' a vs ∧ Rps K G' as' vs xs := fun G' as' H' M' g h' => ⟨sqT_mono h'.sub (sqT_mono g.g q), rv.mono g⟩
  refine ⟨a, rfl, ⟨vs, sqT_mono h1.sub q⟩, c _ _ _ _ _ _ _ g1 h1 ⟨fun i d G' as' H' M' g h' s e => ?_, fun i G' as' H' M' g h' s e => ?_⟩ w1⟩
  · obtain ⟨u1, u2⟩ := uniq G' as' H' M' g h'
    obtain ⟨v, f2, rv'⟩ := u2.get e
    refine ⟨⟨vs, v, u1, f2⟩, fun x H'' y => ?_⟩
    obtain ⟨rfl, y⟩ := y
    have e3 := y vs u1
    rw [f2] at e3
    have e4 := Option.some.inj e3
    subst e4
    exact ⟨G', as', .refl, h', rv'⟩
  · obtain ⟨u1, u2⟩ := uniq G' as' H' M' g h'
    exact ⟨vs, u1, by rw [u2.length]; exact e⟩
/-- a text, sign by sign -/
def signs (z : Str) : List D := z.cps.toList.map fun c => .str ⟨#[c]⟩
def diStr (we : DT) : DIt := fun ρ M R X => we ρ M (fun d M1 => ∃ z, d = .str z ∧ R (signs z) (fun _ => True) M1) X
theorem di_str {we : DT} (he : DE X K W e we) : DI X K W tg e (diStr we) := by
  obtain ⟨te, e1, e2⟩ := he
  refine ⟨iStr te, fun i => pi_str (e1 i), ?_⟩
  intro G as σ H ρ M Qd Xd R h ev w c ce
  refine e2 _ _ _ _ _ _ _ Xd _ h ev w (fun G1 as1 H1 M1 x d g1 h1 r1 w1 => ?_) ce
  obtain ⟨z, rfl, w1⟩ := w1
  refine ⟨z, r1.str_inv, c _ _ _ _ _ _ _ g1 h1 ⟨fun i d G' as' H' M' g h' s e => ?_, fun i G' as' H' M' g h' s e => ?_⟩ w1⟩
  · unfold signs at e
    rw [List.getElem?_map] at e
    cases q : z.cps.toList[i]? with
    | none => rw [q] at e; cases e
    | some cc =>
      rw [q] at e
      have e' := Option.some.inj e
      subst e'
      have hi : i < z.cps.size := by simpa using (List.getElem?_eq_some_iff.mp q).1
      refine ⟨hi, fun x H'' y => ?_⟩
      obtain ⟨rfl, c', q', rfl⟩ := y
      have : z.cps.toList[i]? = some c' := by simpa using q'
      rw [q] at this
      cases this
      exact ⟨G', as', .refl, h', .str _⟩
  · have : z.cps.size ≤ i := by
      unfold signs at e
      simpa using e
    exact this
/-- range(n), range(a, b) -/
def rng (lo : Int) (n : Nat) : List D := (List.range n).map fun (i : Nat) => D.int (lo + (i : Int))
theorem yl_rng {G : Hp} {as : List Addr} (lo : Int) (n : Nat) : Yl K G as (Itr lo n) (rng lo n) (fun _ => True) := by
  refine ⟨fun i d G' as' H' M' g h' s e => ?_, fun i G' as' H' M' g h' s e => ?_⟩
  · unfold rng at e
    rw [List.getElem?_map] at e
    by_cases hi : i < n
    · rw [List.getElem?_range hi] at e
      have e' := Option.some.inj e
      subst e'
      refine ⟨hi, fun x H'' y => ?_⟩
      obtain ⟨rfl, rfl⟩ := y
      exact ⟨G', as', .refl, h', .int _⟩
    · rw [List.getElem?_eq_none (by rw [List.length_range]; omega)] at e
      cases e
  · have : n ≤ i := by
      unfold rng at e
      simpa using e
    exact this
def diRng1 (we : DT) : DIt := fun ρ M R X => we ρ M (fun d M1 => ∃ j : Int, d = .int j ∧ -(2 ^ 62) ≤ j ∧ j < 2 ^ 62 ∧ R (rng 0 j.toNat) (fun _ => True) M1) X
theorem di_rng1 {we : DT} (hm : ∀ i, (X i).mg "range" = none) (he : DE X K W e we) (hg : ∀ i, Gl (X i) "range" := by intro _; rfl) (hs : ∀ i, starEach [e] (X i).env = [(false, eval e (X i).env)] := by intro _; rfl) : DI X K W tg (.Call (.Name "range" p) [e] [] pos) (diRng1 we) := by
  obtain ⟨te, e1, e2⟩ := he
  refine ⟨iRng1 (tCons te tNil), fun i => pi_range1 (hg i) (hm i) (pa_cons (e1 i) pa_nil (hs i)) (hs i), ?_⟩
  intro G as σ H ρ M Qd Xd R h ev w c ce
  refine e2 _ _ _ _ _ _ _ Xd _ h ev w (fun G1 as1 H1 M1 x d g1 h1 r1 w1 => ?_) ce
  obtain ⟨j, rfl, h2, h3, w1⟩ := w1
  exact ⟨j, by rw [r1.int_inv], h2, h3, c _ _ _ _ _ _ _ g1 h1 (yl_rng 0 j.toNat) w1⟩
def diRng2 (wa we : DT) : DIt := fun ρ M R X => wa ρ M (fun d0 M0 => we ρ M0 (fun d M1 => ∃ i j : Int, d0 = .int i ∧ d = .int j ∧ (-(2 ^ 62) ≤ i ∧ i < 2 ^ 62 ∧ -(2 ^ 62) ≤ j ∧ j < 2 ^ 62) ∧ R (rng i (j - i).toNat) (fun _ => True) M1) X) X
theorem di_rng2 {wa we : DT} (hm : ∀ i, (X i).mg "range" = none) (ha : DE X K W a wa) (he : DE X K W e we) (hg : ∀ i, Gl (X i) "range" := by intro _; rfl) (hs : ∀ i, starEach [a, e] (X i).env = (false, eval a (X i).env) :: starEach [e] (X i).env := by intro _; rfl) (hs2 : ∀ i, starEach [e] (X i).env = [(false, eval e (X i).env)] := by intro _; rfl) : DI X K W tg (.Call (.Name "range" p) [a, e] [] pos) (diRng2 wa we) := by
  obtain ⟨ta, a1, a2⟩ := ha
  obtain ⟨te, e1, e2⟩ := he
  refine ⟨iRng2 (tCons ta (tCons te tNil)), fun i => pi_range2 (hg i) (hm i) (pa_cons (a1 i) (pa_cons (e1 i) pa_nil (hs2 i)) (hs i)) (by rw [hs i, hs2 i]) (hs2 i), ?_⟩
  intro G as σ H ρ M Qd Xd R h ev w c ce
  refine a2 _ _ _ _ _ _ _ Xd _ h ev w (fun G0 as0 H0 M0 x0 d0 g0 h0 r0 w0 => ?_) ce
  refine e2 _ _ _ _ _ _ _ Xd _ h0 (ev.mono g0) w0 (fun G1 as1 H1 M1 x d g1 h1 r1 w1 => ?_) (ce.mono g0)
  obtain ⟨i, j, rfl, rfl, h3, w1⟩ := w1
  exact ⟨i, j, by rw [r1.int_inv, r0.int_inv], h3, c _ _ _ _ _ _ _ (g0.trans g1) h1 (yl_rng i (j - i).toNat) w1⟩
/-- a dict's keys, the dict locked -/
def diKeys (we : DT) : DIt := fun ρ M R X => we ρ M (fun d M1 => ∃ n o ks kvs, d = .ptr n ∧ M1[n]? = some (.lk o ks kvs) ∧ R (kvs.map fun kv => kD kv.1) (fun M => M[n]? = some (.lk o ks kvs)) M1) X
theorem di_keys {we : DT} (he : DE X K W e we) : DI X K W tg e (diKeys we) := by
  obtain ⟨te, e1, e2⟩ := he
  refine ⟨iKeys te, fun i => pi_keys (e1 i), ?_⟩
  intro G as σ H ρ M Qd Xd R h ev w c ce
  refine e2 _ _ _ _ _ _ _ Xd _ h ev w (fun G1 as1 H1 M1 x d g1 h1 r1 w1 => ?_) ce
  obtain ⟨n, o, ks, kvs, rfl, e3, w1⟩ := w1
  obtain ⟨a, rfl, ha, q, kv⟩ := h1.ptr r1 e3
  refine ⟨a, o, rfl, .inl ⟨ks, q, c _ _ _ _ _ _ _ g1 h1 ⟨fun i d G' as' H' M' g h' s e => ?_, fun i G' as' H' M' g h' s e => ?_⟩ w1⟩⟩
  · obtain ⟨q', kv'⟩ := h'.ob n a _ (pre_get g.a ha) s
    have hi : i < ks.length := by
      have z := (List.getElem?_eq_some_iff.mp e).1
      rw [List.length_map] at z
      rw [kvr_len kv]
      exact z
    refine ⟨⟨q', hi⟩, fun x H'' y => ?_⟩
    obtain ⟨rfl, k, v, e4, rfl⟩ := y
    have rr := rps_keys kv'
    obtain ⟨v', e5, r5⟩ := rr.get e
    rw [List.getElem?_map, e4] at e5
    have e6 := Option.some.inj e5
    subst e6
    exact ⟨G', as', .refl, h', r5⟩
  · obtain ⟨q', kv'⟩ := h'.ob n a _ (pre_get g.a ha) s
    exact ⟨q', by rw [kvr_len kv]; simpa using e⟩
def dLock (n : Nat) (w : SW) : SW := fun De ρ M => ∃ kvs, M[n]? = some (.dK kvs) ∧ ∀ o ks, w ⟨fun ρ' M' => M'[n]? = some (.lk o ks kvs) ∧ De.nx ρ' (M'.set n (.dK kvs)), fun d M' => M'[n]? = some (.lk o ks kvs) ∧ De.rt d (M'.set n (.dK kvs)), fun _ _ _ _ => False,
  fun ρ' M' => M'[n]? = some (.lk o ks kvs) ∧ De.bk ρ' (M'.set n (.dK kvs)), fun ρ' M' => M'[n]? = some (.lk o ks kvs) ∧ De.ct ρ' (M'.set n (.dK kvs))⟩ ρ (M.set n (.lk o ks kvs))
theorem ds_lock (n : Nat) {s : Stmt} {w : SW} (h : DS X K W s w) : DS X K W s (dLock n w) := by
  obtain ⟨t, a1, a2⟩ := h
  refine ⟨tLock t, fun i => ps_lock (a1 i), ?_⟩
  intro G as σ H ρ M De Dv h ev w c
  obtain ⟨kvs, e1, w⟩ := w
  have hn : n < as.length := by
    rw [h.len]
    exact (List.getElem?_eq_some_iff.mp e1).1
  have ha : as[n]? = some as[n] := List.getElem?_eq_getElem hn
  obtain ⟨ks, e2, kv⟩ := h.ob n _ _ ha e1
  refine ⟨as[n], _, e2, trivial, fun od => ?_⟩
  have hl := h.put (m := .lk od ks kvs) (o := .frz od (.dK ks)) ha ⟨upd_same, kv⟩
  have back : ∀ {G' as' H' M'}, Gr G as G' as' → Hs K G' as' H' M' → M'[n]? = some (.lk od ks kvs) → H' as[n] = some (.frz od (.dK ks)) ∧ Hs K G' as' (upd H' as[n] (.dK ks)) (M'.set n (.dK kvs)) := fun {G' as' H' M'} g h' e => by
    have ha' := pre_get g.a ha
    obtain ⟨q, kv'⟩ := h'.ob n _ _ ha' e
    exact ⟨q, h'.put (m := .dK kvs) ha' ⟨ks, upd_same, kv'⟩⟩
  refine a2 _ _ _ _ _ _ _ _ hl ev (w od ks) ⟨fun G' as' σ' H' ρ' M' g h' e' p => ?_, fun G' as' H' M' v d g h' r' p => ?_, fun G' as' σ' H' ρ' M' g h' e' p => ?_, fun G' as' σ' H' ρ' M' g h' e' p => ?_, fun G' as' σ' H' ρ' M' C fs dd gs g h' e' x1 x2 p => p.elim⟩
  · obtain ⟨q, h2⟩ := back g h' p.1
    exact ⟨q, c.nx _ _ _ _ _ _ g h2 e' p.2⟩
  · obtain ⟨q, h2⟩ := back g h' p.1
    exact ⟨q, c.rt _ _ _ _ _ _ g h2 r' p.2⟩
  · obtain ⟨q, h2⟩ := back g h' p.1
    exact ⟨q, c.bk _ _ _ _ _ _ g h2 e' p.2⟩
  · obtain ⟨q, h2⟩ := back g h' p.1
    exact ⟨q, c.ct _ _ _ _ _ _ g h2 e' p.2⟩
def dLockE (n : Nat) (w : DT) : DT := fun ρ M Q X => ∃ kvs, M[n]? = some (.dK kvs) ∧ ∀ o ks, w ρ (M.set n (.lk o ks kvs)) (fun d M' => M'[n]? = some (.lk o ks kvs) ∧ Q d (M'.set n (.dK kvs))) (fun _ _ _ => False)
theorem de_lock (n : Nat) {w : DT} (h : DE X K W e w) : DE X K W e (dLockE n w) := by
  obtain ⟨t, a1, a2⟩ := h
  refine ⟨tLockE t, fun i => pe_lock (a1 i), ?_⟩
  intro G as σ H ρ M Qd Xd Q h ev w cv ce
  obtain ⟨kvs, e1, w⟩ := w
  have hn : n < as.length := by
    rw [h.len]
    exact (List.getElem?_eq_some_iff.mp e1).1
  have ha : as[n]? = some as[n] := List.getElem?_eq_getElem hn
  obtain ⟨ks, e2, kv⟩ := h.ob n _ _ ha e1
  refine ⟨as[n], _, e2, trivial, fun od => ?_⟩
  have hl := h.put (m := .lk od ks kvs) (o := .frz od (.dK ks)) ha ⟨upd_same, kv⟩
  refine a2 _ _ _ _ _ _ _ _ _ hl ev (w od ks) (fun G' as' H' M' v d g h' r' p => ?_) (fun G' as' H' M' C fs dd gs g h' x1 x2 p => p.elim)
  have ha' := pre_get g.a ha
  obtain ⟨q, kv'⟩ := h'.ob n _ _ ha' p.1
  exact ⟨q, cv _ _ _ _ _ _ g (h'.put (m := .dK kvs) ha' ⟨ks, upd_same, kv'⟩) r' p.2⟩
/-- for -/
theorem ds_for {body : List Stmt} {di : DIt} {wg : DGt} {wb : SW} (hp : ∀ i, PassesOwn (model (X i).prog (X i).w) (X i).A (X i).env (X i).xe) (hc : ∀ i, (X i).calm = true) (hi : DI X K W tg e di) (hg : DG X K W tg wg) (hb : DSs X K W body wb)
    (hs : ∀ i x, foldedSetIterable e (X i).env x = pure x := by intro _ _; rfl) : DS X K W (.For tg e body [] pos) (dFor di wg wb) := by
  obtain ⟨ti, i1, i2⟩ := hi
  obtain ⟨g, g1, g2⟩ := hg
  obtain ⟨t, b1, b2⟩ := hb
  exact ⟨_, fun i => ps_for (hp i) (hc i) (i1 i) (g1 i) (b1 i) (hs i), sn_for i2 g2 b2⟩
end

/-! ### comprehensions, one name -/
abbrev CI (ι : Type) : Type := ι × Shared × Hp × Addr × List (Str × Addr) × List Addr
/-- the contexts of a comprehension's block -/
def Bk {ι : Type} (X : ι → Cx) (scope : Scope) : CI ι → Cx := fun p => (X p.1).blk p.2.1 p.2.2.1 scope (compEnvC scope p.2.2.2.2.1 p.2.2.2.1 (X p.1).env) p.2.2.2.2.2
abbrev W0 : WX := fun _ _ _ _ => False
def UpM (n : Nat) (P : Mm → Prop) : Mm → Prop := fun M => ∃ sel M0, StlM M n sel M0 ∧ P M0
def dLc (di : DIt) (i : Nat) (wt : DTT) (we : DT) : DT := fun ρ M Q X => di ρ M (fun xs st M0 => ∃ I : Nat → Mm → Prop, I 0 (M0 ++ [.lst []]) ∧ (∀ j M1, I j M1 → st M1) ∧
  (∀ j d M1, xs[j]? = some d → I j M1 → wt ((ρ.set i none).set i (some d)) M1 (fun b M2 => if b = true then we ((ρ.set i none).set i (some d)) M2 (fun y M3 => ∃ acc, M3[M0.length]? = some (.lst acc) ∧ acc.length < sizeLine ∧ UpM (M0.length + 1) (I (j + 1)) (M3.set M0.length (.lst (acc ++ [y])))) (fun _ _ _ => False)
    else UpM (M0.length + 1) (I (j + 1)) M2) (fun _ _ _ => False)) ∧ ∀ M1, I xs.length M1 → UpV M0.length Q (.ptr M0.length) M1) X
section
variable {ι : Type} {X : ι → Cx} {K : PySem.W.Frag} {W : WX}
theorem CM.up {G : Hp} {as : List Addr} {P : Mm → Prop} {R : Hp → Prop} {n : Nat} (c : CM K G as P R) (hn : as.length = n) : CM K G as (UpM n P) R := fun G' as' H' M' g h p => by
  obtain ⟨sel, M0, s, p⟩ := p
  exact c _ _ _ _ (g.stl h s hn) (h.stl s) p
theorem dn_lc {wi : TI} {di : DIt} {i : Nat} {tt : TT} {wt : DTT} {te : TE} {we : DT} (hi : DnI K W wi di) (ht : DnT K W0 tt wt) (he : Dn K W0 te we) : Dn K W (tLc wi (gName i) tt te [i]) (dLc di i wt we) := by
  intro G as σ H ρ M Qd Xd Q h ev w cv ce
  refine hi _ _ _ _ _ _ _ Xd _ h ev w (fun G0 as0 H0 M0 J xs st g0 h0 y w0 => ?_) ce
  obtain ⟨I, i0, hst, turn, fin⟩ := w0
  intro D nD
  have xp : Gr G0 as0 G0 (as0 ++ [D]) := ⟨Same.refl _, List.prefix_append _ _⟩
  obtain ⟨gD, hD⟩ := h0.push (m := .lst []) nD (same_upd nD) ⟨[], upd_same, .nil⟩
  have no : ∀ (G' : Hp) (as' : List Addr) (σ' : L2.St), CE K G' as' (fun _ _ _ => False) (WR W0 σ') := fun _ _ _ => fun _ _ _ _ _ _ _ _ _ _ _ _ p => p.elim
  refine ⟨fun j m H1 => m = xs.length - j ∧ j ≤ xs.length ∧ ∃ G1 as1 M1, Gr G0 (as0 ++ [D]) G1 as1 ∧ Hs K G1 as1 H1 M1 ∧ I j M1, ⟨xs.length, by simp, Nat.zero_le _, G0, _, _, .refl, hD, i0⟩, ?_⟩
  rintro j m H1 ⟨rfl, hle, G1, as1, M1, g1, h1, i1⟩
  have e1 : Evs K G1 as1 (wipe σ [i]) (ρ.set i none) := ((ev.mono (g0.trans (gD.trans g1))).wipe i)
  by_cases hlt : j < xs.length
  · have hx : xs[j]? = some xs[j] := List.getElem?_eq_getElem hlt
    obtain ⟨y1, y2⟩ := y.go j xs[j] G1 as1 H1 M1 (gD.trans g1) h1 (hst j M1 i1) hx
    refine .inr ⟨y1, fun H' => j + 1 ≤ xs.length ∧ ∃ G1 as1 M1, Gr G0 (as0 ++ [D]) G1 as1 ∧ Hs K G1 as1 H' M1 ∧ I (j + 1) M1, fun H' z => ⟨xs.length - (j + 1), by omega, rfl, z⟩, fun x H2 hy => ?_⟩
    obtain ⟨G2, as2, g2, h2, r2⟩ := y2 x H2 hy
    have cN : CM K G0 (as0 ++ [D]) (I (j + 1)) (fun H' => j + 1 ≤ xs.length ∧ ∃ G1 as1 M1, Gr G0 (as0 ++ [D]) G1 as1 ∧ Hs K G1 as1 H' M1 ∧ I (j + 1) M1) :=
      fun G3 as3 H3 M3 g3 h3 i3 => ⟨hlt, G3, as3, M3, g3, h3, i3⟩
    have cU := (cN.up (n := M0.length + 1) (by rw [List.length_append, h0.len]; rfl)).mono (g1.trans g2)
    have e2 := (e1.mono g2).set i r2
    have ew : wipe ((wipe σ [i]).set i (some x)) [i] = wipe σ [i] := by
      show ((σ.set i none).set i (some x)).set i none = σ.set i none
      rw [List.set_set, List.set_set]
    refine ⟨ew, ?_⟩
    refine ht _ _ _ _ _ _ _ _ _ h2 e2 (turn j xs[j] M1 hx i1) (fun G3 as3 H3 M3 b g3 h3 w3 => ?_) (no _ _ _)
    cases b with
    | true =>
      rw [if_pos rfl] at w3 ⊢
      refine he _ _ _ _ _ _ _ _ _ h3 (e2.mono g3) w3 (fun G4 as4 H4 M4 yv yd g4 h4 r4 w4 => ?_) (no _ _ _)
      obtain ⟨acc, e5, l5, u5⟩ := w4
      have hDa : as4[M0.length]? = some D := by
        refine pre_get (((g1.trans g2).trans g3).trans g4).a ?_
        rw [← h0.len]
        exact last_get _ _
      obtain ⟨vs, q5, rv5⟩ := h4.ob _ _ _ hDa e5
      refine ⟨vs, q5, by rw [rv5.length]; exact l5, ?_⟩
      exact cU _ _ _ _ (g3.trans g4) (h4.put (m := .lst (acc ++ [yd])) hDa ⟨_, upd_same, rv5.snoc r4⟩) u5
    | false =>
      rw [if_neg Bool.false_ne_true] at w3 ⊢
      exact cU _ _ _ _ g3 h3 w3
  · have ej : j = xs.length := by omega
    subst ej
    refine .inl ⟨y.stop _ G1 as1 H1 M1 (gD.trans g1) h1 (hst _ M1 i1) (Nat.le_refl _), ?_⟩
    refine ((cv.mono g0).up h0.len) _ _ _ _ _ _ (gD.trans g1) h1 (.ptr ?_) (fin M1 i1)
    refine pre_get g1.a ?_
    rw [← h0.len]
    exact last_get _ _
/-- tests of a comprehension -/
def DTs {κ : Type} (X : κ → Cx) (K : PySem.W.Frag) (W : WX) (ifs : List Expr) (w : DTT) : Prop := ∃ t, (∀ i, PTs (X i) ifs t) ∧ DnT K W t w
def dYes : DTT := fun _ M Q _ => Q true M
theorem dts_nil {κ : Type} {X : κ → Cx} : DTs X K W [] dYes := ⟨tYes, fun _ => pts_nil, fun G as σ H ρ M Qd Xd Q h ev w cv ce => cv _ _ _ _ _ .refl h w⟩
theorem dts_one {κ : Type} {X : κ → Cx} {c : Expr} {w : DTT} (h : DTe X K W c w) : DTs X K W [c] w := by
  obtain ⟨t, a1, a2⟩ := h
  exact ⟨t, fun i => pts_one (a1 i), a2⟩
theorem de_lc (i : Nat) {y : Str} {elt iter : Expr} {ifs : List Expr} {scope : Scope} {pos py : Pos} {di : DIt} {wt : DTT} {we : DT} (hc : ∀ j, (X j).calm = true) (hN : ∀ j, (X j).N.Nodup) (hi : DI X K W (.Name y py) iter di) (ok : ∀ j, BlkOk (X j).N (X j).env.scope scope [(y, i)])
    (hy : ∀ j : CI ι, PG (Bk X scope j) (.Name y py) (gName i)) (ht : DTs (Bk X scope) K W0 ifs wt) (he : DE (Bk X scope) K W0 elt we) (hs : ∀ j x, foldedSetIterable iter (X j).env x = pure x := by intro _ _; rfl) :
    DE X K W (.ListComp elt [⟨.Name y py, iter, ifs, 0⟩] scope pos) (dLc di i wt we) := by
  obtain ⟨ti, i1, i2⟩ := hi
  obtain ⟨tt, t1, t2⟩ := ht
  obtain ⟨te, e1, e2⟩ := he
  exact ⟨_, fun j => pe_lc (hc j) (hN j) (i1 j) (ok j) (fun s H C cl fp => hy (j, s, H, C, cl, fp)) (fun s H C cl fp => t1 (j, s, H, C, cl, fp)) (fun s H C cl fp => e1 (j, s, H, C, cl, fp)) (hs j), dn_lc i2 t2 e2⟩
/-- name = [..] on one line -/
theorem ds_setLc (n i : Nat) {x y : Str} {elt iter : Expr} {ifs : List Expr} {scope : Scope} {pos spos px py : Pos} {di : DIt} {wt : DTT} {we : DT} (hc : ∀ j, (X j).calm = true) (hN : ∀ j, (X j).N.Nodup) (hx : ∀ j, (X j).N[n]? = some x) (hxl : ∀ j, (X j).env.scope.names.lookup x = some .local)
    (hsw : ∀ j, swapsWith (.ListComp elt [⟨.Name y py, iter, ifs, 0⟩] scope pos) (some (.Name x px)) spos.line (X j).env = pure true) (hi : DI X K W (.Name y py) iter di) (ok : ∀ j, BlkOk (X j).N (X j).env.scope scope [(y, i)])
    (hy : ∀ j : CI ι, PG (Bk X scope j) (.Name y py) (gName i)) (ht : DTs (Bk X scope) K W0 ifs wt) (he : DE (Bk X scope) K W0 elt we) (hs : ∀ j x, foldedSetIterable iter (X j).env x = pure x := by intro _ _; rfl) :
    DS X K W (.Assign [.Name x px] (.ListComp elt [⟨.Name y py, iter, ifs, 0⟩] scope pos) spos) (dAsg (dLc di i wt we) (dgName n)) := by
  obtain ⟨ti, i1, i2⟩ := hi
  obtain ⟨tt, t1, t2⟩ := ht
  obtain ⟨te, e1, e2⟩ := he
  exact ⟨_, fun j => ps_setLc (hc j) (hN j) (hx j) (hxl j) (hsw j) (i1 j) (ok j) (fun s H C cl fp => hy (j, s, H, C, cl, fp)) (fun s H C cl fp => t1 (j, s, H, C, cl, fp)) (fun s H C cl fp => e1 (j, s, H, C, cl, fp)) (hs j), sn_asg (dn_lc i2 t2 e2) dg_name⟩
end
end DL

namespace DL
open PySem PySem.Spec PyProof.Rows L2

/-! ### what stands in the memory is bounded -/
mutual
inductive Bd (n : Nat) : D → Prop
  | non : Bd n .non
  | bl (b : Bool) : Bd n (.bl b)
  | int (i : Int) : Bd n (.int i)
  | str (x : Str) : Bd n (.str x)
  | ty (x : String) : Bd n (.ty x)
  | ptr {k : Nat} (h : k < n) : Bd n (.ptr k)
  | lst {xs : List D} (h : Bds n xs) : Bd n (.lst xs)
  | scr (ns : List Int) : Bd n (.scr ns)
  | xc {a dd : Addr} {ks : List Str} {xs : List D} (h : Bds n xs) : Bd n (.xc a dd ks xs)
  | tup {xs : List D} (h : Bds n xs) : Bd n (.tup xs)
inductive Bds (n : Nat) : List D → Prop
  | nil : Bds n []
  | cons {d : D} {ds : List D} (h : Bd n d) (r : Bds n ds) : Bds n (d :: ds)
end
def Bdk {κ : Type} (n : Nat) (qs : List (κ × D)) : Prop := ∀ q ∈ qs, Bd n q.2
def MBd (n : Nat) : MO → Prop
  | .lst xs => Bds n xs
  | .dK kvs => Bdk n kvs
  | .lk _ _ kvs => Bdk n kvs
  | .ins _ fs => Bdk n fs
def Wf (n : Nat) (M : Mm) : Prop := ∀ m ∈ M, MBd n m
section
variable {K : PySem.W.Frag} {G : Hp} {as : List Addr} {H : Hp} {M : Mm}
mutual
theorem Bd.mono {n m : Nat} (h : n ≤ m) : ∀ {d : D}, Bd n d → Bd m d
  | _, .non => .non
  | _, .bl b => .bl b
  | _, .int b => .int b
  | _, .str b => .str b
  | _, .ty b => .ty b
  | _, .ptr k => .ptr (Nat.lt_of_lt_of_le k h)
  | _, .lst r => .lst (Bds.mono h r)
  | _, .scr b => .scr b
  | _, .xc r => .xc (Bds.mono h r)
  | _, .tup r => .tup (Bds.mono h r)
theorem Bds.mono {n m : Nat} (h : n ≤ m) : ∀ {d : List D}, Bds n d → Bds m d
  | _, .nil => .nil
  | _, .cons a b => .cons (Bd.mono h a) (Bds.mono h b)
end
mutual
theorem Rp.bd : ∀ {v : V} {d : D}, Rp K G as v d → Bd as.length d
  | _, _, .non => .non
  | _, _, .bl b => .bl b
  | _, _, .int b => .int b
  | _, _, .str b => .str b
  | _, _, .ty b => .ty b
  | _, _, .ptr h => .ptr (List.getElem?_eq_some_iff.mp h).1
  | _, _, .lst _ r => .lst (Rps.bd r)
  | _, _, .scr _ => .scr _
  | _, _, .xc _ r => .xc (Rps.bd r)
  | _, _, .tup _ r => .tup (Rps.bd r)
theorem Rps.bd : ∀ {vs : List V} {ds : List D}, Rps K G as vs ds → Bds as.length ds
  | _, _, .nil => .nil
  | _, _, .cons h r => .cons (Rp.bd h) (Rps.bd r)
end
theorem kvr_bd {κ : Type} : ∀ {ps : List (κ × V)} {qs : List (κ × D)}, Kvr K G as ps qs → Bdk as.length qs
  | _, _, .nil => fun _ h => by cases h
  | _, _, .cons a b => fun q h => by
    rcases List.mem_cons.mp h with rfl | h
    · exact a.2.bd
    · exact kvr_bd b q h
theorem Hs.wf (h : Hs K G as H M) : Wf M.length M := fun m hm => by
  obtain ⟨i, hi⟩ := List.mem_iff_getElem?.mp hm
  have hl : i < as.length := by rw [h.len]; exact (List.getElem?_eq_some_iff.mp hi).1
  have q := h.ob i _ m (List.getElem?_eq_getElem hl) hi
  rw [← h.len]
  cases m with
  | lst xs => obtain ⟨_, _, r⟩ := q; exact r.bd
  | dK xs => obtain ⟨_, _, r⟩ := q; exact kvr_bd r
  | lk o ks xs => obtain ⟨_, r⟩ := q; exact kvr_bd r
  | ins C xs => obtain ⟨_, _, _, r⟩ := q; exact kvr_bd r
theorem Bds.of {n : Nat} : ∀ {ds : List D}, (∀ d ∈ ds, Bd n d) → Bds n ds
  | [], _ => .nil
  | d :: ds, h => .cons (h d (List.mem_cons_self ..)) (Bds.of fun e he => h e (List.mem_cons_of_mem _ he))
theorem Bds.get {n : Nat} : ∀ {ds : List D}, Bds n ds → ∀ d ∈ ds, Bd n d
  | _, .nil, d, h => by cases h
  | _, .cons a b, d, h => by
    rcases List.mem_cons.mp h with rfl | h
    · exact a
    · exact Bds.get b d h
/-- nothing is let go -/
theorem range_get {n i : Nat} (h : i < n) : (List.range n)[i]? = some i := List.getElem?_range h
mutual
theorem Bd.rs {n : Nat} {M : Mm} : ∀ {d : D}, Bd n d → Rs M (List.range n) d d
  | _, .non => .non
  | _, .bl b => .bl b
  | _, .int b => .int b
  | _, .str b => .str b
  | _, .ty b => .ty b
  | _, .ptr h => .keep (range_get h)
  | _, .lst r => .lst (Bds.rs r)
  | _, .scr b => .scr b
  | _, .xc r => .xc (Bds.rs r)
  | _, .tup r => .tup (Bds.rs r)
theorem Bds.rs {n : Nat} {M : Mm} : ∀ {ds : List D}, Bds n ds → Rss M (List.range n) ds ds
  | _, .nil => .nil
  | _, .cons a b => .cons (Bd.rs a) (Bds.rs b)
end
theorem bdk_kss {κ : Type} {n : Nat} {M : Mm} : ∀ {qs : List (κ × D)}, Bdk n qs → Kss M (List.range n) qs qs
  | [], _ => .nil
  | q :: qs, h => .cons ⟨rfl, (h q (List.mem_cons_self ..)).rs⟩ (bdk_kss fun p hp => h p (List.mem_cons_of_mem _ hp))
theorem MBd.rs {n : Nat} {M : Mm} {m : MO} (h : MBd n m) : MRs M (List.range n) m m := by
  cases m with
  | lst xs => exact .lst (Bds.rs h)
  | dK xs => exact .dK (bdk_kss h)
  | lk o ks xs => exact .lk (bdk_kss h)
  | ins C xs => exact .ins (bdk_kss h)
theorem range_pre {n m : Nat} (h : n ≤ m) : List.range n <+: List.range m := by
  obtain ⟨k, rfl⟩ := Nat.exists_eq_add_of_le h
  rw [List.range_add]
  exact List.prefix_append _ _
/-- the objects behind the first n0 are let go: nothing kept points there -/
theorem stl_cut {M M0 t : Mm} {n : Nat} (e : M = M0 ++ t) (hn : n ≤ M0.length) (w : Wf M0.length M0) : StlM M n (List.range M0.length) M0 := by
  subst e
  refine ⟨range_pre hn, List.nodup_range, by rw [List.length_range], fun j k m0 h1 h2 => ?_⟩
  have hj : j < M0.length := (List.getElem?_eq_some_iff.mp h2).1
  rw [range_get hj] at h1
  have e := Option.some.inj h1
  subst e
  exact ⟨m0, by rw [List.getElem?_append_left hj]; exact h2, (w m0 (List.mem_of_getElem? h2)).rs⟩
theorem stl_all {M : Mm} {n : Nat} (hn : n ≤ M.length) (w : Wf M.length M) : StlM M n (List.range M.length) M := stl_cut (t := []) (List.append_nil M).symm hn w
theorem Up.all {n : Nat} {P : NK} {ρ : Ev} {M : Mm} (hn : n ≤ M.length) (w : Wf M.length M) (wr : ∀ (i : Nat) (d : D), ρ[i]? = some (some d) → Bd M.length d) (h : P ρ M) : Up n P ρ M :=
  ⟨_, ρ, M, ⟨stl_all hn w, rfl, fun i d e => ⟨d, e, (wr i d e).rs⟩⟩, h⟩
theorem UpV.all {n : Nat} {P : DK} {d : D} {M : Mm} (hn : n ≤ M.length) (w : Wf M.length M) (wd : Bd M.length d) (h : P d M) : UpV n P d M := ⟨_, d, M, stl_all hn w, wd.rs, h⟩
theorem UpX.all {n : Nat} {P : XD} {C : Addr} {fs : List (Str × D)} {M : Mm} (hn : n ≤ M.length) (w : Wf M.length M) (wd : Bdk M.length fs) (h : P C fs M) : UpX n P C fs M := ⟨_, fs, M, stl_all hn w, bdk_kss wd, h⟩
theorem UpM.all {n : Nat} {P : Mm → Prop} {M : Mm} (hn : n ≤ M.length) (w : Wf M.length M) (h : P M) : UpM n P M := ⟨_, M, stl_all hn w, h⟩
/-- the last object, a list, stands for good -/
theorem UpV.frz {P : DK} {M0 t : Mm} {ys : List D} (w : Wf M0.length M0) (wd : Bds M0.length ys) (h : P (.lst ys) M0) {n : Nat} (hn : n ≤ M0.length) : UpV n P (.ptr M0.length) (M0 ++ .lst ys :: t) :=
  ⟨_, _, M0, stl_cut rfl hn w, .frz (by rw [List.mem_range]; omega) (by rw [List.getElem?_append_right (Nat.le_refl _), Nat.sub_self]; rfl) (Bds.rs wd), h⟩
end
/-! ### .. and that may be used -/
def EvB (M : Mm) (ρ : Ev) : Prop := ∀ (i : Nat) (d : D), ρ[i]? = some (some d) → Bd M.length d
section
variable {K : PySem.W.Frag} {G : Hp} {as : List Addr} {W : WX}
theorem Evs.bd {σ : L2.St} {ρ : Ev} {H : Hp} {M : Mm} (h : Hs K G as H M) (e : Evs K G as σ ρ) : EvB M ρ := fun i d q => by
  obtain ⟨v, _, r⟩ := e.at_ i d q
  rw [← h.len]
  exact r.bd
/-- a statement, with what is so of the memory ahead of it -/
def dSo (w : SW) : SW := fun De ρ M => Wf M.length M → EvB M ρ → w De ρ M
theorem sn_so {t : TS} {w : SW} (h : Sn K W t w) : Sn K W t (dSo w) := fun G as σ H ρ M De Dv hh e x c => h _ _ _ _ _ _ _ _ hh e (x hh.wf (e.bd hh)) c
/-- .. behind it -/
def dThen (w : SW) : SW := fun De ρ M => w { De with nx := fun ρ' M' => Wf M'.length M' → EvB M' ρ' → De.nx ρ' M' } ρ M
theorem sn_then {t : TS} {w : SW} (h : Sn K W t w) : Sn K W t (dThen w) := fun G as σ H ρ M De Dv hh e x c => h _ _ _ _ _ _ _ _ hh e x ⟨fun G' as' σ' H' ρ' M' g h' e' p => c.nx _ _ _ _ _ _ g h' e' (p h'.wf (e'.bd h')), c.rt, c.bk, c.ct, c.ex⟩
theorem CV.wf {Qd : DK} {Q : VK} (c : CV K G as Qd Q) : CV K G as (fun d M => Wf M.length M → Bd M.length d → Qd d M) Q := fun G' as' H' M' v d g h r p => c _ _ _ _ _ _ g h r (p h.wf (by rw [← h.len]; exact r.bd))
theorem CE.wf {P : XD} {R : Addr → Addr → Hp → Prop} (c : CE K G as P R) : CE K G as (fun C fs M => Wf M.length M → Bdk M.length fs → P C fs M) R := fun G' as' H' M' C fs dd gs g h hd r p => c _ _ _ _ _ _ _ _ g h hd r (p h.wf (by rw [← h.len]; exact kvr_bd r))
end
section
variable {ι : Type} {X : ι → Cx} {K : PySem.W.Frag} {W : WX} {s : Stmt} {e : Expr}
theorem ds_so {w : SW} (h : DS X K W s w) : DS X K W s (dSo w) := by
  obtain ⟨t, a, b⟩ := h
  exact ⟨t, a, sn_so b⟩
theorem dss_so {ss : List Stmt} {w : SW} (h : DSs X K W ss w) : DSs X K W ss (dSo w) := by
  obtain ⟨t, a, b⟩ := h
  exact ⟨t, a, sn_so b⟩
theorem ds_or {w w' : SW} (h : DS X K W s w) (h' : DS X K W s w') : DS X K W s (fun De ρ M => w De ρ M ∨ w' De ρ M) := by
  obtain ⟨t, a, b⟩ := h
  obtain ⟨t', a', b'⟩ := h'
  refine ⟨fun D σ H => t D σ H ∨ t' D σ H, fun i => ⟨fun pins s σ H D I q => q.elim ((a i).run pins s σ H D I) ((a' i).run pins s σ H D I)⟩, fun G as σ H ρ M De Dv hh ev x c => x.elim (fun x => .inl (b _ _ _ _ _ _ _ _ hh ev x c)) fun x => .inr (b' _ _ _ _ _ _ _ _ hh ev x c)⟩
theorem de_or2 {w w' : DT} (h : DE X K W e w) (h' : DE X K W e w') : DE X K W e (fun ρ M Q X => w ρ M Q X ∨ w' ρ M Q X) := by
  obtain ⟨t, a, b⟩ := h
  obtain ⟨t', a', b'⟩ := h'
  refine ⟨fun σ H Q => t σ H Q ∨ t' σ H Q, fun i => ⟨fun pins s σ H Q I q => q.elim ((a i).run pins s σ H Q I) ((a' i).run pins s σ H Q I)⟩, fun G as σ H ρ M Qd Xd Q hh ev x c ce => x.elim (fun x => .inl (b _ _ _ _ _ _ _ _ _ hh ev x c ce)) fun x => .inr (b' _ _ _ _ _ _ _ _ _ hh ev x c ce)⟩
end

/-! ### calls of defs -/
abbrev FD := List D → Mm → DK → XD → Prop
def spD (K : PySem.W.Frag) (n : Nat) (F : FD) : Sp := fun vs H Q E => vs.length = n ∧ ∃ G as ds M Qd Xd, Hs K G as H M ∧ Rps K G as vs ds ∧ F ds M Qd Xd ∧ CV K G as Qd Q ∧ CE K G as Xd (fun C dd H' => E (.ref C) (some dd) H')
def dCallS (n : Nat) (F : FD) (wa : DTA) : DT := fun ρ M Q X => wa ρ M (fun ds M1 => ds.length = n ∧ F ds M1 Q X) X
section
variable {ι : Type} {X : ι → Cx} {K : PySem.W.Frag} {W : WX} {a b c e o : Expr} {es : List Expr} {pos p apos : Pos} {k n : Nat} {f : Addr} {fd : FuncData} {ps : List Str} {F : FD}
theorem dn_callS {ta : TA} {wa : DTA} (ha : DnA K W ta wa) : Dn K W (tCallS (spD K n F) (WE W) ta) (dCallS n F wa) := by
  intro G as σ H ρ M Qd Xd Q h ev w cv ce
  refine ha _ _ _ _ _ _ _ Xd _ h ev w (fun G1 as1 H1 M1 vs ds g1 h1 r1 w1 => ?_) ce
  exact ⟨by rw [r1.length]; exact w1.1, G1, as1, ds, M1, Qd, Xd, h1, r1, w1.2, cv.mono g1, ce.mono g1⟩
theorem de_callS {x : Str} {wa : DTA} (FO : ∀ i, FnOk (X i).prog (X i).w (X i).K (X i).mg (X i).base (L2.CX (X i).prog (X i).w) k f fd ps (spD K n F)) (hr : ∀ i, Room k (X i).A) (tk : ∀ i, Takes (X i) W) (hm : ∀ i, (X i).mg x = some (.ref f))
    (hk : ∀ i, PySem.W.keepIn (X i).K (.ref f) = true) (hb : ∀ i, Binds (X i).K fd ps []) (ha : DA X K W (e :: es) wa) (hg : ∀ i, Gl (X i) x := by intro _; rfl) (hdb : (x == ("__debug__" : Str)) = false := by decide)
    (he : ∀ i, starEach (e :: es) (X i).env = (false, eval e (X i).env) :: starEach es (X i).env := by intro _; rfl) (hpl : ∀ i, (backTo pos (starEach es (X i).env)).any (·.1) = false := by intro _; rfl) :
    DE X K W (.Call (.Name x p) (e :: es) [] pos) (dCallS n F wa) := by
  obtain ⟨ta, a1, a2⟩ := ha
  exact ⟨_, fun i => pe_callS (FO i) (hr i) (hg i) (hm i) (hk i) (hb i) (fun σ => passAt (tk i) σ) (a1 i) hdb (he i) (hpl i), dn_callS a2⟩
end
end DL

namespace DL
open PySem PySem.Spec PyProof.Rows L2

/-! ### methods of own classes -/
/-- o.m(e, ..): what it raises is wished for at the slots as they stand -/
def tMW (C : Addr) (m : Str) (sp : Sp) (W : WX) (ta : TE) (t : TA) : TE := fun σ H Q => ta σ H fun x H1 => ∃ a dx fs, x = .ref a ∧ H1 a = some (.ins C dx fs) ∧ fs.lookup m = none ∧ t σ H1 fun vs H2 => sp (x :: vs) H2 Q (WE W σ)
def dMeth (C : Addr) (m : Str) (n : Nat) (F : FD) (wo : DT) (wa : DTA) : DT := fun ρ M Q X => wo ρ M (fun o M1 => ∃ j fs, o = .ptr j ∧ M1[j]? = some (.ins C fs) ∧ fs.lookup m = none ∧ wa ρ M1 (fun ds M2 => ds.length + 1 = n ∧ F (o :: ds) M2 Q X) X) X
section
variable {ι : Type} {X : ι → Cx} {K : PySem.W.Frag} {W : WX} {a b c e o : Expr} {es : List Expr} {pos p apos : Pos} {k n : Nat} {f C : Addr} {fd : FuncData} {ps : List Str} {F : FD} {m : Str}
theorem dn_meth {to : TE} {ta : TA} {wo : DT} {wa : DTA} (ho : Dn K W to wo) (ha : DnA K W ta wa) : Dn K W (tMW C m (spD K n F) W to ta) (dMeth C m n F wo wa) := by
  intro G as σ H ρ M Qd Xd Q h ev w cv ce
  refine ho _ _ _ _ _ _ _ Xd _ h ev w (fun G1 as1 H1 M1 x d g1 h1 r1 w1 => ?_) ce
  obtain ⟨j, fs, rfl, e1, l1, w1⟩ := w1
  obtain ⟨a, rfl, hja, dx, gs, e2, kv⟩ := h1.ptr r1 e1
  refine ⟨a, dx, gs, rfl, e2, (kvr_lookup (f := m) kv).1 l1, ?_⟩
  refine ha _ _ _ _ _ _ _ Xd _ h1 (ev.mono g1) w1 (fun G2 as2 H2 M2 vs ds g2 h2 r2 w2 => ?_) (ce.mono g1)
  have g12 := g1.trans g2
  exact ⟨by rw [List.length_cons, r2.length]; exact w2.1, G2, as2, _, M2, Qd, Xd, h2, .cons (r1.mono g2) r2, w2.2, cv.mono g12, ce.mono g12⟩
theorem pe_mW {Y : Cx} {ta : TE} {t : TA} {sp : Sp} {pl : Sem Bool} (he : PE Y o ta) (c : Cls Y.K C) (hm : Meth Y.K C m f) (FO : FnOk Y.prog Y.w Y.K Y.mg Y.base (L2.CX Y.prog Y.w) k f fd ps sp) (hr : Room k Y.A) (hb : Binds Y.K fd ps []) (tk : Takes Y W) (ha : PA Y (e :: es) t)
    (hst : starEach (e :: es) Y.env = (false, eval e Y.env) :: starEach es Y.env) (hpl : (backTo pos (starEach es Y.env)).any (·.1) = false)
    (ht : eval (.Call (.Attribute o m apos) (e :: es) [] pos) Y.env = (do
      let ov ← eval o Y.env
      standAt apos.atName
      let (f, first) ← holding [ov] (getMethod ov m pl)
      callWith pos f first (backTo pos (starEach (e :: es) Y.env)) (backToKw pos (keywordEach [] Y.env)))) :
    PE Y (.Call (.Attribute o m apos) (e :: es) [] pos) (tMW C m sp W ta t) := by
  constructor
  intro pins s σ H Q I h
  refine PySem.W.methodCall_KW (pl := pl) (thn (he.run pins s σ H _ I h) ?_) ht
  rintro u s1 ⟨x, H1, I1, rx, a, dx, fs, ex, ea, l, q⟩
  subst ex
  have eu : u = Value.ref a := rx
  subst eu
  refine getmeth_ok I1 ea c hm l (PySem.W.callWith_K (first := [.ref a]) (h₀ := Y.base) I.ok.mod.kin hm.kp (thn (ha.run pos pins s1 σ H1 _ I1 q) ?_) hst hpl)
  rintro us s2 ⟨vs, H2, I2, r, q2⟩
  exact ⟨I2.kIn, run_fnS (us := .ref a :: us) (vs := .ref a :: vs) FO hr hb (passAt tk σ) I2 (.cons rfl r) q2⟩
theorem pe_mW0 {Y : Cx} {ta : TE} {sp : Sp} {pl : Sem Bool} (he : PE Y o ta) (c : Cls Y.K C) (hm : Meth Y.K C m f) (FO : FnOk Y.prog Y.w Y.K Y.mg Y.base (L2.CX Y.prog Y.w) k f fd ps sp) (hr : Room k Y.A) (hb : Binds Y.K fd ps []) (tk : Takes Y W)
    (ht : eval (.Call (.Attribute o m apos) [] [] pos) Y.env = (do
      let ov ← eval o Y.env
      standAt apos.atName
      let (f, first) ← holding [ov] (getMethod ov m pl)
      callWith pos f first (backTo pos (starEach [] Y.env)) (backToKw pos (keywordEach [] Y.env)))) :
    PE Y (.Call (.Attribute o m apos) [] [] pos) (tMW C m sp W ta tNil) := by
  constructor
  intro pins s σ H Q I h
  refine PySem.W.methodCall_KW (pl := pl) (thn (he.run pins s σ H _ I h) ?_) ht
  rintro u s1 ⟨x, H1, I1, rx, a, dx, fs, ex, ea, l, q⟩
  subst ex
  have eu : u = Value.ref a := rx
  subst eu
  exact getmeth_ok I1 ea c hm l (PySem.W.callWith_K0 (first := [.ref a]) I1.kIn hm.kp (run_fnS (us := [.ref a]) (vs := [.ref a]) FO hr hb (passAt tk σ) I1 (.cons rfl .nil) q))
theorem de_meth {pl : ι → Sem Bool} {wo : DT} {wa : DTA} (ho : DE X K W o wo) (c : ∀ i, Cls (X i).K C) (hm : ∀ i, Meth (X i).K C m f) (FO : ∀ i, FnOk (X i).prog (X i).w (X i).K (X i).mg (X i).base (L2.CX (X i).prog (X i).w) k f fd ps (spD K n F)) (hr : ∀ i, Room k (X i).A)
    (tk : ∀ i, Takes (X i) W) (hb : ∀ i, Binds (X i).K fd ps []) (ha : DA X K W (e :: es) wa) (hst : ∀ i, starEach (e :: es) (X i).env = (false, eval e (X i).env) :: starEach es (X i).env := by intro _; rfl) (hpl : ∀ i, (backTo pos (starEach es (X i).env)).any (·.1) = false := by intro _; rfl)
    (ht : ∀ i, eval (.Call (.Attribute o m apos) (e :: es) [] pos) (X i).env = (do
      let ov ← eval o (X i).env
      standAt apos.atName
      let (f, first) ← holding [ov] (getMethod ov m (pl i))
      callWith pos f first (backTo pos (starEach (e :: es) (X i).env)) (backToKw pos (keywordEach [] (X i).env))) := by intro _; rfl) :
    DE X K W (.Call (.Attribute o m apos) (e :: es) [] pos) (dMeth C m n F wo wa) := by
  obtain ⟨to, o1, o2⟩ := ho
  obtain ⟨ta, a1, a2⟩ := ha
  exact ⟨_, fun i => pe_mW (pl := pl i) (o1 i) (c i) (hm i) (FO i) (hr i) (hb i) (tk i) (a1 i) (hst i) (hpl i) (ht i), dn_meth o2 a2⟩
theorem de_meth0 {pl : ι → Sem Bool} {wo : DT} (ho : DE X K W o wo) (c : ∀ i, Cls (X i).K C) (hm : ∀ i, Meth (X i).K C m f) (FO : ∀ i, FnOk (X i).prog (X i).w (X i).K (X i).mg (X i).base (L2.CX (X i).prog (X i).w) k f fd ps (spD K n F)) (hr : ∀ i, Room k (X i).A)
    (tk : ∀ i, Takes (X i) W) (hb : ∀ i, Binds (X i).K fd ps [])
    (ht : ∀ i, eval (.Call (.Attribute o m apos) [] [] pos) (X i).env = (do
      let ov ← eval o (X i).env
      standAt apos.atName
      let (f, first) ← holding [ov] (getMethod ov m (pl i))
      callWith pos f first (backTo pos (starEach [] (X i).env)) (backToKw pos (keywordEach [] (X i).env))) := by intro _; rfl) :
    DE X K W (.Call (.Attribute o m apos) [] [] pos) (dMeth C m n F wo dNil) := by
  obtain ⟨to, o1, o2⟩ := ho
  exact ⟨_, fun i => pe_mW0 (pl := pl i) (o1 i) (c i) (hm i) (FO i) (hr i) (hb i) (tk i) (ht i), dn_meth o2 dn_nil⟩

/-! ### C(e, ..): a new instance -/
def dMake (C : Addr) (n : Nat) (F : FD) (wa : DTA) : DT := fun ρ M Q X => wa ρ M (fun ds M1 => ds.length + 1 = n ∧ F (.ptr M1.length :: ds) (M1 ++ [.ins C []]) (fun v M2 => v = .non ∧ Q (.ptr M1.length) M2) (fun _ _ _ => False)) X
theorem dn_make {ta : TA} {wa : DTA} (ha : DnA K W ta wa) : Dn K W (tMake C (spD K n F) [] E0 ta) (dMake C n F wa) := by
  intro G as σ H ρ M Qd Xd Q h ev w cv ce
  refine ha _ _ _ _ _ _ _ Xd _ h ev w (fun G1 as1 H1 M1 vs ds g1 h1 r1 w1 => ?_) ce
  intro x dx nx nd ne
  rw [List.append_nil]
  have hj := h1.junk (o := .own x) nd
  have nx' : upd H1 dx (.own x) x = none := by rw [upd_ne (Ne.symm ne)]; exact nx
  have x0 : Gr G1 as1 G1 (as1 ++ [x]) := ⟨Same.refl _, List.prefix_append _ _⟩
  obtain ⟨g2, h2⟩ := hj.push (m := .ins C []) nx' (same_upd nx') ⟨dx, [], upd_same, .nil⟩
  have hp : Rp K G1 (as1 ++ [x]) (.ref x) (.ptr M1.length) := .ptr (by rw [← h1.len]; exact last_get _ _)
  refine ⟨by rw [List.length_cons, r1.length]; exact w1.1, G1, _, _, _, _, _, h2, .cons hp (r1.mono g2), w1.2, fun G3 as3 H3 M3 v d g3 h3 r3 w3 => ?_, fun _ _ _ _ _ _ _ _ _ _ _ _ z => z.elim⟩
  obtain ⟨rfl, q⟩ := w3
  exact ⟨r3.non_inv, cv _ _ _ _ _ _ ((g1.trans g2).trans g3) h3 (hp.mono g3) q⟩
theorem de_make {x : Str} {wa : DTA} (Mm : ∀ i, Mk (X i).K C f) (FO : ∀ i, FnOk (X i).prog (X i).w (X i).K (X i).mg (X i).base (L2.CX (X i).prog (X i).w) k f fd ps (spD K n F)) (hr : ∀ i, Room (k + 1) (X i).A) (hm : ∀ i, (X i).mg x = some (.ref C)) (hb : ∀ i, Binds (X i).K fd ps [])
    (ha : DA X K W (e :: es) wa) (hg : ∀ i, Gl (X i) x := by intro _; rfl) (hdb : (x == ("__debug__" : Str)) = false := by decide) (he : ∀ i, starEach (e :: es) (X i).env = (false, eval e (X i).env) :: starEach es (X i).env := by intro _; rfl)
    (hpl : ∀ i, (backTo pos (starEach es (X i).env)).any (·.1) = false := by intro _; rfl) : DE X K W (.Call (.Name x p) (e :: es) [] pos) (dMake C n F wa) := by
  obtain ⟨ta, a1, a2⟩ := ha
  exact ⟨_, fun i => pe_make (Mm i) (FO i) (hr i) (hg i) (hm i) (hb i) .nil passL (a1 i) hdb (he i) (hpl i), dn_make a2⟩
end

/-! ### a def by its body -/
/-- the entries of a def -/
def BI (k : Nat) (qual : Str) (sc : Scope) (f : Addr) : Type := {p : Value × Around × List Env × Shared × Hp // Room k (p.2.1.deeper (envOfC qual sc p.2.2.2.1.heap.objs.size f p.1))}
/-- the contexts of its body -/
def XB (P : Program) (w : World) (K : PySem.W.Frag) (mg : Str → Option Value) (base : Heap) (N : List Str) (qual : Str) (sc : Scope) (f : Addr) (k : Nat) (E : XK) (p : BI k qual sc f) : Cx := cxOf (L2.CX P w) P w K mg base N qual sc f p.1.1 p.1.2.1 p.1.2.2.1 p.1.2.2.2.1 p.1.2.2.2.2 E
abbrev WF (E : XK) : WX := fun cls d _ H => E cls d H
def startD (n : Nat) (ds : List D) : Ev := ds.map some ++ List.replicate (n - ds.length) none
def DsF (M : Mm) (Qd : DK) (Xd : XD) : Ds := { nx := fun _ M' => Wf M'.length M' → UpV M.length Qd .non M', rt := fun d M' => Wf M'.length M' → Bd M'.length d → UpV M.length Qd d M', ex := fun C fs _ M' => Wf M'.length M' → Bdk M'.length fs → UpX M.length Xd C fs M' }
theorem evs_start {K : PySem.W.Frag} {G : Hp} {as : List Addr} {N : List Str} {vs : List V} {ds : List D} (r : Rps K G as vs ds) : Evs K G as (L2.start N vs) (startD N.length ds) := by
  unfold L2.start startD
  rw [← r.length]
  refine ⟨by simp [r.length], fun i d e => ?_⟩
  by_cases hi : i < ds.length
  · rw [List.getElem?_append_left (by simpa using hi), List.getElem?_map] at e
    cases q : ds[i]? with
    | none => rw [q] at e; cases e
    | some d' =>
      rw [q] at e
      have e' := Option.some.inj (Option.some.inj e)
      subst e'
      obtain ⟨v, h1, h2⟩ := r.get q
      refine ⟨v, ?_, h2⟩
      rw [List.getElem?_append_left (by rw [List.length_map, r.length]; exact hi), List.getElem?_map, h1]
      rfl
  · rw [List.getElem?_append_right (by simpa using hi), List.getElem?_replicate] at e
    split at e <;> cases e
section
variable {P : Program} {w : World} {K : PySem.W.Frag} {mg : Str → Option Value} {base : Heap}
theorem xb_takes {N : List Str} {qual : Str} {sc : Scope} {f : Addr} {k : Nat} {E : XK} (p : BI k qual sc f) : Takes (XB P w K mg base N qual sc f k E p) (WF E) := takes_of rfl rfl rfl rfl
theorem xb_room {N : List Str} {qual : Str} {sc : Scope} {f : Addr} {k : Nat} {E : XK} (p : BI k qual sc f) : Room k (XB P w K mg base N qual sc f k E p).A := p.2
theorem fn_d {x qual : Str} {st : Stmt} {f : Addr} {fd : FuncData} {N ps : List Str} {k : Nat} {F : FD} (Fn : Fun K x qual st f fd) (S : FnScope N ps (defScope st)) {wb : SW} (hb : ∀ E, DSs (XB P w K mg base N qual (defScope st) f k E) K (WF E) (defBody st) wb)
    (hp : ∀ ds M Qd Xd, ds.length = ps.length → F ds M Qd Xd → Wf M.length M → Bds M.length ds → wb (DsF M Qd Xd) (startD N.length ds) M) :
    FnOk P w K mg base (L2.CX P w) (k + 1) f fd ps (spD K ps.length F) := by
  refine Fn.okX S (fun vs H Q E h => h.1) fun cdv A outer s H vs Q E hr h => ?_
  obtain ⟨hl, G, as, ds, M, Qd, Xd, hh, r, q, cv, ce⟩ := h
  obtain ⟨t, t1, t2⟩ := hb E
  refine ⟨t, t1 ⟨(cdv, A, outer, s, H), hr⟩, ?_⟩
  have hd : ds.length = ps.length := by rw [← r.length]; exact hl
  have b1 := r.bd
  rw [hh.len] at b1
  have q' := hp ds M Qd Xd hd q hh.wf b1
  have cu := (cv.up hh.len).wf
  have xu := (ce.up hh.len).wf
  exact t2 _ _ _ _ _ _ _ _ hh (evs_start r) q' ⟨fun G' as' σ' H' ρ' M' g h' e' p => cu _ _ _ _ _ _ g h' .non (fun w _ => p w), cu, fun _ _ _ _ _ _ _ _ _ z => z.elim, fun _ _ _ _ _ _ _ _ _ z => z.elim, fun G' as' σ' H' ρ' M' C fs dd gs g h' e' hd kv p => xu _ _ _ _ _ _ _ _ g h' hd kv p⟩
end
end DL

namespace DL
open PySem PySem.Spec PyProof.Rows L2

/-! ### try: body, except A: .., except B as n: .. -/
structure VCl where
  c : Value
  at_ : Option Nat
  t : Addr → Value → Option Addr → TS
def setO {α : Type} (σ : List (Option α)) : Option Nat → Option α → List (Option α)
  | none, _ => σ
  | some i, v => σ.set i v
/-- the ends of a clause's suite: its name goes -/
def endO (D : Ends) (o : Option Nat) : Ends := { nx := fun σ' H' => D.nx (setO σ' o none) H', rt := D.rt, bk := fun σ' H' => D.bk (setO σ' o none) H', ct := fun σ' H' => D.ct (setO σ' o none) H' }
def wClauses (K : PySem.W.Frag) (Wout : WX) (D : Ends) : List VCl → WX
  | [] => Wout
  | q :: r => fun cls d σ H => ∃ b, PySem.W.exmOne K cls q.c = some b ∧ (b = true → ∀ a, H a = none → q.t a cls d (endO D q.at_) (setO σ q.at_ (some (.ref a))) H) ∧ (b = false → wClauses K Wout D r cls d σ H)
inductive ClausesOk (X : Cx) : List ExceptHandler → List VCl → Prop
  | nil : ClausesOk X [] []
  | bare {x : Str} {q : VCl} {b₀ : Stmt} {bs : List Stmt} {p1 p2 : Pos} {hds : List ExceptHandler} {l : List VCl} (hn : Names X x q.c) (ho : q.at_ = none)
      (hsu : ∀ (a : Addr) (oe : Obj) (cls : Value) (d : Option Addr) (pn : List (Addr × Obj)), Zc cls d oe → (∃ vs, oe.data = .fields vs) → PSs (X.suite a ((a, oe) :: pn)) (b₀ :: bs) (q.t a cls d)) (r : ClausesOk X hds l) :
      ClausesOk X (.ExceptHandler (some (.Name x p1)) none (b₀ :: bs) p2 :: hds) (q :: l)
  | named {x n : Str} {i : Nat} {q : VCl} {b₀ : Stmt} {bs : List Stmt} {p1 p2 : Pos} {hds : List ExceptHandler} {l : List VCl} (hn : Names X x q.c) (ho : q.at_ = some i) (hN : X.N.Nodup) (hi : X.N[i]? = some n) (hl : X.env.kindOf n = some .local)
      (hsu : ∀ (a : Addr) (oe : Obj) (cls : Value) (d : Option Addr) (pn : List (Addr × Obj)), Zc cls d oe → (∃ vs, oe.data = .fields vs) → PSs (X.suite a ((a, oe) :: pn)) (b₀ :: bs) (q.t a cls d)) (r : ClausesOk X hds l) :
      ClausesOk X (.ExceptHandler (some (.Name x p1)) (some n) (b₀ :: bs) p2 :: hds) (q :: l)
section
variable {X : Cx} {body : List Stmt} {h₀ : ExceptHandler} {hds : List ExceptHandler} {l : List VCl} {pos : Pos} {tb : WX → TS} {Wout : WX}
theorem ps_clauses (hs : X.stack = X.env :: X.outer) (hf : X.env.frame = some X.env.locals) (tk : Takes X Wout)
    (hb : ∀ (W : WX) (pn : List (Addr × Obj)) (xe : Value → Shared → Prop), Takes (X.tr pn xe) W → PassesOwn (model X.prog X.w) X.A X.env xe → PSs (X.tr pn xe) body (tb W))
    (hh : ClausesOk X (h₀ :: hds) l) : PS X (.Try body (h₀ :: hds) [] [] pos) (fun D σ H => tb (wClauses X.K Wout D l) D σ H) := by
  constructor
  intro pins s σ H D I h
  have okX := I.ok
  have frms : X.A.frames = some (X.env :: X.outer) := okX.frames.trans (congrArg some hs)
  let air : Value → Shared → Prop := fun e s₁ => wpAny (model X.prog X.w) X.A (noteFrame e X.env) (fun _ s₂ => wpAny (model X.prog X.w) X.A (setFlight e none)
    (fun _ s₃ => wpAny (model X.prog X.w) X.A (handleBy e X.env (h₀ :: hds)) (SP X pins D) X.xe s₃) X.xe s₂) X.xe s₁
  have caught : Takes (X.tr (X.pn ++ pins) air) (wClauses X.K Wout D l) := by
    intro u s' xx
    obtain ⟨a, B, sI, pins', σ', H', cls, d, rfl, J', nb, up, sky, na, os, ag, wish⟩ := xx
    have JJ : Inv X pins σ' H' sI := J'.ofTry okX
    have skyX : Sky B (X.env :: X.outer) a (Zc cls d) X.env.locals s'.heap := hs ▸ sky
    show wpAny (model X.prog X.w) X.A (noteFrame (.ref a) X.env) _ _ _
    refine Sky.land Zc.steady frms hf skyX ?_
    intro hp3 fl up3
    have J3 : Inv X pins σ' H' { s' with heap := hp3 } := JJ.landed nb fl.1 (up.trans up3) os ag
    obtain ⟨ob3, vs3, at3, z3, d3⟩ := fl.there
    have apart : a ∉ frs (X.env :: X.outer) := by
      intro hm
      obtain ⟨_, o', e', hnf⟩ := fl.2.2.1.mem hm
      rw [at3] at e'
      cases e'
      exact hnf _ d3
    have aL : a ≠ X.env.locals := by
      intro z
      exact apart (List.mem_filterMap.mpr ⟨X.env, List.mem_cons_self, by rw [hf, z]⟩)
    have aF : a ∉ X.fs := by
      intro hm
      obtain ⟨e, he, q⟩ := List.mem_filterMap.mp hm
      exact apart (List.mem_filterMap.mpr ⟨e, List.mem_cons_of_mem _ he, q⟩)
    have SU := J3.suite at3 d3 na aL aF
    have key : ∀ {hs' : List ExceptHandler} {l' : List VCl}, ClausesOk X hs' l' → wClauses X.K Wout D l' cls d σ' H' → wpAny (model X.prog X.w) X.A (handleBy (.ref a) X.env hs') (SP X pins D) X.xe { s' with heap := hp3 } := by
      intro hs' l' ck
      have tested : ∀ {x : Str} {c : Value} {np : Pos} {Q : Value → Shared → Prop} {E : Value → Shared → Prop}, Names X x c → Q c { s' with heap := hp3 } → wpAny (model X.prog X.w) (X.A.mark (some (.ref a))) (eval (.Name x np) X.env) Q E { s' with heap := hp3 } := by
        intro x c np Q E hc q
        obtain ⟨hg, hdbg, hm⟩ := hc
        rcases hm with hm | ⟨hm, hv, hnn⟩
        · exact ld_glob (X := X.suite a ((a, ob3) :: (X.pn ++ pins))) SU hg hm q hdbg
        · exact ld_blt (X := X.suite a ((a, ob3) :: (X.pn ++ pins))) SU hg hm hv q hnn hdbg
      have typed : PySem.W.Looks (model X.prog X.w) hp3 (typeOf (.ref a)) cls := by
        intro A Q E s k q
        exact wpAny_typeOf_ref (k _ _ at3) (by rw [z3.1]; exact q)
      induction ck with
      | nil =>
        intro wo
        refine wpAny_handleBy_nil ?_
        obtain ⟨_, _, _, oe, vs, T, _, _, he, _, hd, h1, _⟩ := id fl
        unfold PySem.passOn
        refine wpAny_bind (wpAny_field he hd h1 ?_)
        rw [if_neg (show ¬ ((Value.ref T == Value.none) = true) from by simp)]
        have away : wpAny (model X.prog X.w) X.A (setFlight (.ref a) X.env.frame) (fun _ s4 => wpAny (model X.prog X.w) X.A (throw (.ref a) : Sem Flow) (SP X pins D) X.xe s4) X.xe { s' with heap := hp3 } := by
          rw [hf]
          refine HandSPX.setFlight_upZ fl ?_
          intro hp4 held up4
          exact wpAny_throw (tk _ _ ⟨a, B, sI, pins, σ', H', cls, d, rfl, JJ, nb, (up.trans up3).trans up4, .inr (.inr (by rw [hs]; exact held)), na, os, ag, wo⟩)
        first
          | exact wpAny_bind (wpAny_pure (wpAny_bind away))
          | exact wpAny_bind away
      | @bare x q b₀ bs p1 p2 hds2 l2 hn ho hsu r ih =>
        rintro ⟨b, hb1, yes, no⟩
        refine wpAny_handleBy_cons (codeAny_handlers_test ?_) (by intro q; cases q)
        refine tested hn ((PySem.W.exm_one (M := model X.prog X.w) (J3.kIn) typed hb1).here ?_)
        cases b with
        | false => exact ih (no rfl)
        | true =>
          refine codeAny_handlers_suite (HandSPX.lands_againZ fl ?_)
          intro hp4 fl4 up4
          have J4 : Inv X pins σ' H' { s' with heap := hp4 } := JJ.landed nb fl4.1 ((up.trans up3).trans up4) os ag
          obtain ⟨ob4, vs4, at4, z4, d4⟩ := fl4.there
          have y := yes rfl a na
          rw [ho] at y
          refine wpAny_mono ((hsu a ob4 cls d (X.pn ++ pins) z4 ⟨_, d4⟩).run [] _ _ H' _ (J4.suite at4 d4 na aL aF) y) ?_ (fun _ _ z => z.elim)
          intro g s6 hsp
          cases g with
          | ret u =>
            obtain ⟨v6, σ6, H6, S6, r6, q6⟩ := hsp
            exact ⟨v6, σ6, H6, S6.unsuite okX, r6, q6⟩
          | next =>
            obtain ⟨σ6, H6, S6, q6⟩ := hsp
            exact ⟨σ6, H6, S6.unsuite okX, q6⟩
          | brk =>
            obtain ⟨σ6, H6, S6, q6⟩ := hsp
            exact ⟨σ6, H6, S6.unsuite okX, q6⟩
          | cont =>
            obtain ⟨σ6, H6, S6, q6⟩ := hsp
            exact ⟨σ6, H6, S6.unsuite okX, q6⟩
      | @named x n i q b₀ bs p1 p2 hds2 l2 hn ho hN hi hl hsu r ih =>
        rintro ⟨b, hb1, yes, no⟩
        refine wpAny_handleBy_cons (codeAny_handlers_test ?_) (by intro q; cases q)
        refine tested hn ((PySem.W.exm_one (M := model X.prog X.w) (J3.kIn) typed hb1).here ?_)
        cases b with
        | false => exact ih (no rfl)
        | true =>
          refine codeAny_handlers_suite_as (HandSPX.lands_againZ fl ?_)
          intro hp4 fl4 up4
          have J4 : Inv X pins σ' H' { s' with heap := hp4 } := JJ.landed nb fl4.1 ((up.trans up3).trans up4) os ag
          obtain ⟨ob4, vs4, at4, z4, d4⟩ := fl4.there
          have y := yes rfl a na
          rw [ho] at y
          refine store_ok (X := X.suite a ((a, ob4) :: (X.pn ++ pins))) (v := .ref a) (J4.suite at4 d4 na aL aF) hN hi (.inl hl) rfl ?_ (.inr hl)
          intro s5 S5
          refine wpAny_mono ((hsu a ob4 cls d (X.pn ++ pins) z4 ⟨_, d4⟩).run [] s5 _ H' _ S5 y) ?_ (fun _ _ z => z.elim)
          intro g s6 hsp
          have bye : ∀ {σ6 : L2.St} {H6 : Hp} {Q : Shared → Prop}, Inv (X.suite a ((a, ob4) :: (X.pn ++ pins))) [] σ6 H6 s6 → (∀ s7, Inv X pins (σ6.set i none) H6 s7 → Q s7) → wpAny (model X.prog X.w) X.A (do bindName X.env n .none; unbindBehindTheSuite X.env n p2) (fun _ s7 => Q s7) X.xe s6 :=
            fun S6 hq => gone_ok (S6.unsuite okX) hN hi hl hq
          cases g with
          | ret u =>
            obtain ⟨v6, σ6, H6, S6, r6, q6⟩ := hsp
            exact bye S6 fun s7 J7 => ⟨v6, _, H6, J7, r6, q6⟩
          | next =>
            obtain ⟨σ6, H6, S6, q6⟩ := hsp
            exact bye S6 fun s7 J7 => ⟨_, H6, J7, q6⟩
          | brk =>
            obtain ⟨σ6, H6, S6, q6⟩ := hsp
            exact bye S6 fun s7 J7 => ⟨_, H6, J7, q6⟩
          | cont =>
            obtain ⟨σ6, H6, S6, q6⟩ := hsp
            exact bye S6 fun s7 J7 => ⟨_, H6, J7, q6⟩
    exact key hh wish
  refine wpAny_Try_except (wpAny_mono ((hb (wClauses X.K Wout D l) (X.pn ++ pins) air caught PassesOwn.looking).run [] s σ H D (I.toTry _) h) ?_ (fun e s1 he => he))
  intro g s1 hsp
  cases g with
  | ret u =>
    obtain ⟨v, σ1, H1, J1, r1, q1⟩ := hsp
    exact ⟨v, σ1, H1, J1.ofTry okX, r1, q1⟩
  | next =>
    obtain ⟨σ1, H1, J1, q1⟩ := hsp
    exact wpAny_execs_nil ⟨σ1, H1, J1.ofTry okX, q1⟩
  | brk =>
    obtain ⟨σ1, H1, J1, q1⟩ := hsp
    exact ⟨σ1, H1, J1.ofTry okX, q1⟩
  | cont =>
    obtain ⟨σ1, H1, J1, q1⟩ := hsp
    exact ⟨σ1, H1, J1.ofTry okX, q1⟩
end

/-! ### .. by data -/
structure DCl where
  c : Value
  at_ : Option Nat
  w : Addr → Addr → Addr → SW
def endD (De : Ds) (o : Option Nat) : Ds := { nx := fun ρ' M' => De.nx (setO ρ' o none) M', rt := De.rt, ex := fun _ _ _ _ => False, bk := fun ρ' M' => De.bk (setO ρ' o none) M', ct := fun ρ' M' => De.ct (setO ρ' o none) M' }
def dClauses (K : PySem.W.Frag) (De : Ds) : List DCl → XN
  | [] => De.ex
  | q :: r => fun C fs ρ M => ∃ b, PySem.W.exmOne K (.ref C) q.c = some b ∧ (b = true → ∀ a dd, q.w a C dd (endD De q.at_) (setO ρ q.at_ (some (.xc a dd (fs.map (·.1)) (fs.map (·.2))))) M) ∧ (b = false → dClauses K De r C fs ρ M)
def dTry (K : PySem.W.Frag) (wb : SW) (l : List DCl) : SW := fun De ρ M => wb { De with ex := dClauses K De l } ρ M
abbrev WN : WX := fun _ _ _ _ => False
section
variable {K : PySem.W.Frag} {W : WX} {G : Hp} {as : List Addr} {H : Hp} {M : Mm} {σ : L2.St} {ρ : Ev}
theorem Evs.setO {v : V} {d : D} (e : Evs K G as σ ρ) (o : Option Nat) (r : Rp K G as v d) : Evs K G as (DL.setO σ o (some v)) (DL.setO ρ o (some d)) := by
  cases o with
  | none => exact e
  | some i => exact e.set i r
theorem Evs.wipeO (e : Evs K G as σ ρ) (o : Option Nat) : Evs K G as (DL.setO σ o none) (DL.setO ρ o none) := by
  cases o with
  | none => exact e
  | some i => exact e.wipe i
theorem CS.endO {De : Ds} {Dv : Ends} (c : CS K W G as De Dv) (o : Option Nat) : CS K WN G as (endD De o) (DL.endO Dv o) :=
  ⟨fun _ _ _ _ _ _ g h e p => c.nx _ _ _ _ _ _ g h (e.wipeO o) p, c.rt, fun _ _ _ _ _ _ g h e p => c.bk _ _ _ _ _ _ g h (e.wipeO o) p, fun _ _ _ _ _ _ g h e p => c.ct _ _ _ _ _ _ g h (e.wipeO o) p, fun _ _ _ _ _ _ _ _ _ _ _ _ _ _ _ z => z.elim⟩
theorem xd_out (h : Hs K G as H M) {dd : Addr} {gs : List (Str × V)} (e : H dd = some (.xd gs)) : dd ∉ as := fun hm => by
  obtain ⟨i, hi⟩ := List.mem_iff_getElem?.mp hm
  have hl : i < M.length := by rw [← h.len]; exact (List.getElem?_eq_some_iff.mp hi).1
  have q := h.ob i dd M[i] hi (List.getElem?_eq_getElem hl)
  cases hM : M[i] with
  | lst xs => rw [hM] at q; obtain ⟨_, e', _⟩ := q; rw [e] at e'; cases e'
  | dK xs => rw [hM] at q; obtain ⟨_, e', _⟩ := q; rw [e] at e'; cases e'
  | lk o ks xs => rw [hM] at q; obtain ⟨e', _⟩ := q; rw [e] at e'; cases e'
  | ins C xs => rw [hM] at q; obtain ⟨_, _, e', _⟩ := q; rw [e] at e'; cases e'
/-- what stands may be taken for good -/
theorem Hs.fix (h : Hs K G as H M) {dd : Addr} {o : HO} (e : H dd = some o) (n : dd ∉ as) : Gr G as (upd G dd o) as ∧ Hs K (upd G dd o) as H M := by
  have x : Gr G as (upd G dd o) as := ⟨fun b u q => by
    by_cases hb : b = dd
    · subst hb
      have z := h.sub b u q
      rw [e] at z
      rw [upd_same]
      exact z
    · rw [upd_ne hb]
      exact q, List.prefix_refl _⟩
  refine ⟨x, fun b u q => ?_, h.len, h.nd, fun a ha => ?_, fun i a m e1 e2 => (h.ob i a m e1 e2).mono x⟩
  · by_cases hb : b = dd
    · subst hb
      rw [upd_same] at q
      rw [← q]
      exact e
    · rw [upd_ne hb] at q
      exact h.sub b u q
  · rw [upd_ne (fun z : a = dd => n (z ▸ ha))]
    exact h.out a ha
theorem kvr_zip {κ : Type} : ∀ {ps : List (κ × V)} {qs : List (κ × D)}, Kvr K G as ps qs → ∃ vs, ps = (qs.map (·.1)).zip vs ∧ Rps K G as vs (qs.map (·.2))
  | _, _, .nil => ⟨[], rfl, .nil⟩
  | (p, x) :: ps, q :: qs, .cons a b => by
    obtain ⟨vs, e, r⟩ := kvr_zip b
    refine ⟨x :: vs, ?_, .cons a.2 r⟩
    have e1 : p = q.1 := a.1
    rw [List.map_cons, List.zip_cons_cons, ← e, e1]
/-- the clauses, value against data -/
inductive ClR (K : PySem.W.Frag) : VCl → DCl → Prop
  | mk {q : VCl} {p : DCl} (ec : q.c = p.c) (ea : q.at_ = p.at_) (h : ∀ a C dd, Sn K WN (q.t a (.ref C) (some dd)) (p.w a C dd)) : ClR K q p
inductive ClRs (K : PySem.W.Frag) : List VCl → List DCl → Prop
  | nil : ClRs K [] []
  | cons {q : VCl} {p : DCl} {vl : List VCl} {dl : List DCl} (h : ClR K q p) (r : ClRs K vl dl) : ClRs K (q :: vl) (p :: dl)
theorem cxn_clauses {De : Ds} {Dv : Ends} : ∀ {vl : List VCl} {dl : List DCl}, ClRs K vl dl → CS K W G as De Dv → CXN K G as (dClauses K De dl) (wClauses K W Dv vl)
  | _, _, .nil, c => c.ex
  | _, _, .cons (q := q) (p := p) r rs, c => by
    obtain ⟨ec, ea, hsu⟩ := r
    intro G' as' σ' H' ρ' M' C fs dd gs g h e hd kv w
    obtain ⟨b, hb, y, n⟩ := w
    refine ⟨b, by rw [ec]; exact hb, fun eb a na => ?_, fun eb => cxn_clauses rs c _ _ _ _ _ _ _ _ _ _ g h e hd kv (n eb)⟩
    obtain ⟨g2, h2⟩ := h.fix hd (xd_out h hd)
    obtain ⟨vs, ez, rv⟩ := kvr_zip kv
    have rx : Rp K (upd G' dd (.xd gs)) as' (.ref a) (.xc a dd (fs.map (·.1)) (fs.map (·.2))) := .xc (by rw [← ez]; exact upd_same) (rv.mono g2)
    have q1 := y eb a dd
    rw [← ea] at q1
    exact hsu a C dd _ _ _ _ _ _ _ _ h2 ((e.mono g2).setO _ rx) q1 ((c.endO q.at_).mono (g.trans g2))
end
section
variable {ι : Type} {X : ι → Cx} {K : PySem.W.Frag} {W : WX} {body : List Stmt} {h₀ : ExceptHandler} {hds : List ExceptHandler} {pos : Pos} {e : Expr}
/-- the contexts of a try's body -/
def TI (X : ι → Cx) (W : WX) : Type := {q : ι × List (Addr × Obj) × (Value → Shared → Prop) // Takes ((X q.1).tr q.2.1 q.2.2) W ∧ PassesOwn (model (X q.1).prog (X q.1).w) (X q.1).A (X q.1).env q.2.2}
def XT (X : ι → Cx) (W : WX) (q : TI X W) : Cx := (X q.1.1).tr q.1.2.1 q.1.2.2
theorem xt_takes {W' : WX} (q : TI X W') : Takes (XT X W' q) W' := q.2.1
/-- the contexts of a clause's suite -/
def SI (ι : Type) (C dd : Addr) : Type := {q : ι × Obj × List (Addr × Obj) // Zc (.ref C) (some dd) q.2.1 ∧ ∃ vs, q.2.1.data = .fields vs}
def XS (X : ι → Cx) (a C dd : Addr) (q : SI ι C dd) : Cx := (X q.1.1).suite a ((a, q.1.2.1) :: q.1.2.2)
inductive DHds (X : ι → Cx) (K : PySem.W.Frag) : List ExceptHandler → List DCl → Prop
  | nil : DHds X K [] []
  | bare {x : Str} {q : DCl} {b₀ : Stmt} {bs : List Stmt} {p1 p2 : Pos} {hds : List ExceptHandler} {l : List DCl} (hn : ∀ i, Names (X i) x q.c) (ho : q.at_ = none) (hsu : ∀ a C dd, DSs (XS X a C dd) K WN (b₀ :: bs) (q.w a C dd)) (r : DHds X K hds l) :
      DHds X K (.ExceptHandler (some (.Name x p1)) none (b₀ :: bs) p2 :: hds) (q :: l)
  | named {x n : Str} {j : Nat} {q : DCl} {b₀ : Stmt} {bs : List Stmt} {p1 p2 : Pos} {hds : List ExceptHandler} {l : List DCl} (hn : ∀ i, Names (X i) x q.c) (ho : q.at_ = some j) (hN : ∀ i, (X i).N.Nodup) (hi : ∀ i, (X i).N[j]? = some n) (hl : ∀ i, (X i).env.kindOf n = some .local)
      (hsu : ∀ a C dd, DSs (XS X a C dd) K WN (b₀ :: bs) (q.w a C dd)) (r : DHds X K hds l) : DHds X K (.ExceptHandler (some (.Name x p1)) (some n) (b₀ :: bs) p2 :: hds) (q :: l)
/-- a suite's reading, where the exception is no plain one: nothing is told -/
def tSu (t : Addr → Addr → Addr → TS) : Addr → Value → Option Addr → TS := fun a cls d D σ H => ∃ C dd, cls = .ref C ∧ d = some dd ∧ t a C dd D σ H
theorem pss_su {Y : Cx} {bs : List Stmt} {a : Addr} {oe : Obj} {cls : Value} {d : Option Addr} {pn : List (Addr × Obj)} {t : Addr → Addr → Addr → TS} (h : ∀ C dd, cls = .ref C → d = some dd → PSs (Y.suite a ((a, oe) :: pn)) bs (t a C dd)) : PSs (Y.suite a ((a, oe) :: pn)) bs (tSu t a cls d) := by
  constructor
  rintro pins s σ H D I ⟨C, dd, e1, e2, q⟩
  exact (h C dd e1 e2).run pins s σ H D I q
theorem sn_su {t : Addr → Addr → Addr → TS} {w : SW} {a C dd : Addr} (h : Sn K WN (t a C dd) w) : Sn K WN (tSu t a (.ref C) (some dd)) w := fun G as σ H ρ M De Dv hh ev x c => ⟨C, dd, rfl, rfl, h _ _ _ _ _ _ _ _ hh ev x c⟩
theorem dhds_ok {hds : List ExceptHandler} {dl : List DCl} (h : DHds X K hds dl) : ∃ vl, (∀ i, ClausesOk (X i) hds vl) ∧ ClRs K vl dl := by
  induction h with
  | nil => exact ⟨[], fun _ => .nil, .nil⟩
  | @bare x q b₀ bs p1 p2 hds l hn ho hsu r ih =>
    obtain ⟨vl, h1, h2⟩ := ih
    refine ⟨⟨q.c, q.at_, tSu fun a C dd => (hsu a C dd).choose⟩ :: vl, fun i => .bare (hn i) ho (fun a oe cls d pn hz hf => pss_su (Y := X i) (t := fun a C dd => (hsu a C dd).choose) fun C dd e1 e2 => ?_) (h1 i), .cons (.mk rfl rfl fun a C dd => sn_su (t := fun a C dd => (hsu a C dd).choose) (hsu a C dd).choose_spec.2) h2⟩
    subst e1
    subst e2
    exact (hsu a C dd).choose_spec.1 ⟨(i, oe, pn), hz, hf⟩
  | @named x n j q b₀ bs p1 p2 hds l hn ho hN hi hl hsu r ih =>
    obtain ⟨vl, h1, h2⟩ := ih
    refine ⟨⟨q.c, q.at_, tSu fun a C dd => (hsu a C dd).choose⟩ :: vl, fun i => .named (hn i) ho (hN i) (hi i) (hl i) (fun a oe cls d pn hz hf => pss_su (Y := X i) (t := fun a C dd => (hsu a C dd).choose) fun C dd e1 e2 => ?_) (h1 i), .cons (.mk rfl rfl fun a C dd => sn_su (t := fun a C dd => (hsu a C dd).choose) (hsu a C dd).choose_spec.2) h2⟩
    subst e1
    subst e2
    exact (hsu a C dd).choose_spec.1 ⟨(i, oe, pn), hz, hf⟩
theorem ds_try {wb : SW} {l : List DCl} (hK : ∀ i, (X i).K = K) (hs : ∀ i, (X i).stack = (X i).env :: (X i).outer) (hf : ∀ i, (X i).env.frame = some (X i).env.locals) (tk : ∀ i, Takes (X i) W) (hb : ∀ W', DSs (XT X W') K W' body wb) (hh : DHds X K (h₀ :: hds) l) :
    DS X K W (.Try body (h₀ :: hds) [] [] pos) (dTry K wb l) := by
  obtain ⟨vl, h1, h2⟩ := dhds_ok hh
  refine ⟨fun D σ H => (hb (wClauses K W D vl)).choose D σ H, fun i => ?_, ?_⟩
  · have q := ps_clauses (pos := pos) (tb := fun W' => (hb W').choose) (hs i) (hf i) (tk i) (fun W' pn xe t p => (hb W').choose_spec.1 ⟨(i, pn, xe), t, p⟩) (h1 i)
    rw [hK i] at q
    exact q
  · intro G as σ H ρ M De Dv hh ev w c
    exact (hb (wClauses K W Dv vl)).choose_spec.2 _ _ _ _ _ _ _ _ hh ev w ⟨c.nx, c.rt, c.bk, c.ct, cxn_clauses h2 c⟩
/-- e.f in the suite -/
def dXf (we : DT) (a dd : Addr) (f : Str) : DT := fun ρ M Q X => we ρ M (fun d M1 => ∃ ks ds v, d = .xc a dd ks ds ∧ (ks.zip ds).lookup f = some v ∧ Q v M1) X
theorem zip_lookup {G : Hp} {as : List Addr} {f : Str} : ∀ {ks : List Str} {vs : List V} {ds : List D}, Rps K G as vs ds → ∀ {v : D}, (ks.zip ds).lookup f = some v → ∃ x, (ks.zip vs).lookup f = some x ∧ Rp K G as x v
  | [], _, _, _, v, e => by simp at e
  | k :: ks, _, _, .nil, v, e => by simp at e
  | k :: ks, _, _, .cons (v := x) (d := d) h r, v, e => by
    by_cases hk : f = k
    · subst hk
      simp only [List.zip_cons_cons, List.lookup_cons_self] at e ⊢
      exact ⟨x, rfl, by rw [← Option.some.inj e]; exact h⟩
    · have hb : (f == k) = false := by simpa using hk
      simp only [List.zip_cons_cons, List.lookup, hb] at e ⊢
      exact zip_lookup r e
theorem de_xf {a C dd C' : Addr} {n : Str} {we : DT} (hK : ∀ i, (X i).K = K) (T : XfC K C') (hno : PySem.W.findIn K (.ref C') n = some none) (he : DE (XS X a C dd) K WN e we) (hC : C = C') (hb : ∀ i : SI ι C dd, attributeBase e n (X i.1.1).env (eval e (X i.1.1).env) = eval e (X i.1.1).env := by intro _; rfl) :
    DE (XS X a C dd) K WN (.Attribute e n pos) (dXf we a dd n) := by
  subst hC
  obtain ⟨te, e1, e2⟩ := he
  refine ⟨tXf a (.ref C) (some dd) C n te, fun i => pe_xf (X := X i.1.1) (by rw [hK]; exact T) (by rw [hK]; exact hno) i.2.1 i.2.2 (e1 i) (hb i), ?_⟩
  intro G as σ H ρ M Qd Xd Q h ev w cv ce
  refine e2 _ _ _ _ _ _ _ Xd _ h ev w (fun G1 as1 H1 M1 x d g1 h1 r1 w1 => ?_) ce
  obtain ⟨ks, ds, v, rfl, l, q⟩ := w1
  obtain ⟨vs, rfl, ed, rv⟩ := r1.xc_inv
  obtain ⟨x, l2, rx⟩ := zip_lookup rv l
  exact ⟨rfl, rfl, dd, _, x, rfl, h1.sub _ _ ed, l2, cv _ _ _ _ _ _ g1 h1 rx q⟩
/-- .. where the class is known only there -/
theorem de_xfC {a C dd C' : Addr} {n : Str} {we : DT} (hK : ∀ i, (X i).K = K) (T : XfC K C') (hno : PySem.W.findIn K (.ref C') n = some none) (he : DE (XS X a C dd) K WN e we) (hb : ∀ i : SI ι C dd, attributeBase e n (X i.1.1).env (eval e (X i.1.1).env) = eval e (X i.1.1).env := by intro _; rfl) :
    DE (XS X a C dd) K WN (.Attribute e n pos) (fun ρ M Q Xd => C = C' ∧ dXf we a dd n ρ M Q Xd) := by
  by_cases hC : C = C'
  · obtain ⟨t, t1, t2⟩ := de_xf (pos := pos) hK T hno he hC hb
    exact ⟨t, t1, fun G as σ H ρ M Qd Xd Q h ev w cv ce => t2 _ _ _ _ _ _ _ _ _ h ev w.2 cv ce⟩
  · exact ⟨fun _ _ _ => False, fun i => ⟨fun pins s σ H Q I h => h.elim⟩, fun G as σ H ρ M Qd Xd Q h ev w cv ce => hC w.1⟩
end
end DL

namespace DL
open PySem PySem.Spec PyProof.Rows L2 ClX

/-! ### own exceptions whose __init__ begins with super().__init__(..) -/
/-- what a def with the cell __class__ is -/
structure SFun (P : Program) (K : PySem.W.Frag) (name qual : Str) (st : Stmt) (f : Addr) (fd : FuncData) (D cda cc : Addr) : Prop where
  ex : ∃ (oc : Value) (od : Option Addr) (dV kV doc pm ct : Value) (an : Option Addr) (osl : Array (Option Value)), fd = PySem.W.ksFn name qual (defArgs st) (defBody st) (defScope st) dV kV doc pm an (.ref cda) ct cc ∧ K.lookup f = some ⟨oc, od, .func fd, osl⟩
  code : PySem.W.codeIn K (.ref cda) qual = true
  file : ∃ (ccl : Value) (cdd : Option Addr) (vs : Array Value) (ccs : Array (Option Value)) (fl : Str) (tf : Tok), K.lookup cda = some ⟨ccl, cdd, .fields vs, ccs⟩ ∧ vs[2]? = some (.str fl tf) ∧ ((P.main.file : Str) == fl) = true
  cell : ∃ (cl : Value) (cld : Option Addr) (csl : Array (Option Value)), K.lookup cc = some ⟨cl, cld, .cell (some (.ref D)), csl⟩
  dcl : ∃ cd, PySem.W.clsIn K D = some cd
abbrev sNF (name qual : Str) (st : Stmt) (cda cc : Addr) : NdefX.NF := ⟨name, qual, defArgs st, defBody st, defScope st, [("__class__", cc)], cda⟩
/-- what self's class at C says of super() in a def of the class at D -/
structure SupC (K : PySem.W.Frag) (C D : Addr) : Prop where
  sub : PySem.W.mroIn K C (.ref D) = some true
  tp : PySem.W.nsIn K PySem.cStatics "thirdparty.any" = some none
section
variable {X : Cx} {pins : List (Addr × Obj)} {σ : L2.St} {H : Hp} {s : Shared} {a C D : Addr}
theorem exo_inst {d : Option Addr} (I : Inv X pins σ H s) (e : H a = some (exo a C none)) : ∃ t1 : Addr, PySem.W.InstAt s.heap a ({ cls := .ref C, dict := none, data := .fields #[.ref t1, .none, .none, .none, .bool false, .none] } : Obj) C none := by
  obtain ⟨t1, ho⟩ := exo_at I.hok e
  exact ⟨t1, ho, rfl, rfl, trivial⟩
theorem sup_obj {name qual : Str} {st : Stmt} {f cda cc : Addr} {fd : FuncData} {ar : Arg} {p0 p1 : Pos} {attr : Str} {whole : Sem Value} {body : List Stmt} {Q : Value → Shared → Prop} {E : Value → Shared → Prop} (SF : SFun X.prog X.K name qual st f fd D cda cc) (hm : X.mg "super" = none)
    (I : Inv X pins σ H s) (e : H a = some (exo a C none)) (h0 : σ[0]? = some (some (.ref a))) (hN : X.N[0]? = some ar.arg) (hp : ((defArgs st).posonlyargs ++ (defArgs st).args).head? = some ar) (sc : SupC X.K C D)
    (hks : X.env.kindOf "super" = some .globalImplicit) (hkc : X.env.kindOf "__class__" = some .free) (hka : X.env.kindOf ar.arg = some .local) (hat : (attr == ("__class__" : Str)) = false) (hfu : X.env.func = some f) (hco : X.env.code = .ref cda) (hcc : X.env.cells.lookup ("__class__" : Str) = some cc)
    (htop : (X.prog.main.scope.names.lookup ("super" : Str)).isSome = false)
    (h : ∀ so s', Inv X ((so, PySem.W.ks_superObj D a C) :: pins) σ H s' → Q (.ref so) s') :
    _root_.PySem.wpAt (model X.prog X.w) X.A (.func body X.env) (attributeBase (.Call (.Name "super" p0) [] [] p1) attr X.env whole) Q E s := by
  obtain ⟨oc, od, dV, kV, doc, pm, ct, an, osl, rfl, lk⟩ := SF.ex
  obtain ⟨ccl, cdd, vs, ccs, fl, tf, hcode, hvs, hfile⟩ := SF.file
  obtain ⟨cl, cld, csl, hcell⟩ := SF.cell
  obtain ⟨cdD, hD⟩ := SF.dcl
  obtain ⟨mb, b1, b2⟩ := I.mod.blt
  obtain ⟨t1, inst⟩ := exo_inst (d := none) I e
  have KI := I.kIn
  obtain ⟨oD, hD1, hD2⟩ : ∃ oD, s.heap.get? D = some oD ∧ oD.data = .cls cdD := by
    unfold PySem.W.clsIn at hD
    split at hD
    · rename_i c d cd' sl ho
      cases hD
      exact ⟨_, KI _ _ ho, rfl⟩
    · cases hD
  refine ks_wpAt_super_base hks hkc hat hfu (KI _ _ lk) rfl hp hco (KI _ _ hcode) rfl hvs hfile htop ?_
  refine PySem.W.ks_loadName_global I.ok.kind hks (Calls.loadGlobal_builtin (by rw [I.ok.glob]; exact I.mod.glob.keeps I.bk) hm (by rw [I.ok.blt]; exact b1.keeps I.bk) ((b2 "super" (by decide)).trans (by decide +kernel)) ⟨rfl, ?_⟩)
  refine wpAny_loadName_free I.ok.kind hkc hcc ⟨_, KI _ _ hcell, rfl⟩ ?_
  obtain ⟨m, hn, hl⟩ := id I.loc
  obtain ⟨u, ru, look⟩ := hl 0 ar.arg (.ref a) hN h0 (.inl hka)
  have eu : u = Value.ref a := ru
  subst eu
  rcases look with ⟨_, hv⟩ | ⟨hv, _⟩
  · refine wpAny_loadName_local I.ok.kind hka hn hv ?_
    refine ks_wpAny_isType_cls hD1 hD2 ⟨rfl, ?_⟩
    have J : ∀ h' t', h'.get? s.heap.objs.size = some (PySem.W.ks_superObj D a C) → (∀ y o, s.heap.get? y = some o → h'.get? y = some o) → Inv X ((s.heap.objs.size, PySem.W.ks_superObj D a C) :: pins) σ H { s with heap := h', toks := t' } := fun h' t' g k =>
      pin_new I k (Nat.le_refl _) g (fun v z => nomatch z)
    obtain ⟨hh, g, d, t, os⟩ := s
    refine ks_wpAny_call_super hD1 hD2 inst.at_ inst.cls (fun c z => ?_) (PySem.W.looks_mroIn KI sc.sub) (fun h' e' k => h _ _ (J h' t e' k))
    have q := inst.no
    unfold PySem.W.notCls at q
    rw [z] at q
    exact Bool.noConfusion q
  · rw [hka] at hv
    rcases hv with hv | hv <;> cases hv
/-- .. of a class whose next __init__ is ValueError's -/
structure SupV (K : PySem.W.Frag) (C D : Addr) : Prop extends SupC K C D where
  at_ : PySem.W.ks_superIn K C D "__init__" = some (some (.builtin "ValueError.__init__"))
  ve : PySem.W.subIn K (.ref C) (.type "ValueError") = some true
/-- .. an own def at f2 -/
structure SupF (K : PySem.W.Frag) (C D f2 : Addr) : Prop extends SupC K C D where
  at_ : PySem.W.ks_superIn K C D "__init__" = some (some (.ref f2))
  ty : PySem.W.typeIn K (.ref f2) = some (.type "function")
  fn : PySem.W.fnIn K f2 = true
theorem sup_mV {so : Addr} {pl : Sem Bool} {A : Around} {Q : Value × List Value → Shared → Prop} {E : Value → Shared → Prop} (sv : SupV X.K C D) (I : Inv X ((so, PySem.W.ks_superObj D a C) :: pins) σ H s) (e : H a = some (exo a C none))
    (h : ∀ q s', Inv X ((q, PySem.W.kxs_mw "ValueError.__init__" a) :: (so, PySem.W.ks_superObj D a C) :: pins) σ H s' → Q (.ref q, []) s') : wpAny (model X.prog X.w) A (getMethod (.ref so) "__init__" pl) Q E s := by
  obtain ⟨t1, inst⟩ := exo_inst (d := none) I e
  have KI := I.kIn
  have hso := pin_at I
  have J : Inv X ((s.heap.objs.size, PySem.W.kxs_mw "ValueError.__init__" a) :: (so, PySem.W.ks_superObj D a C) :: pins) σ H { s with heap := s.heap.push (PySem.W.kxs_mw "ValueError.__init__" a), toks := s.toks + 1 } :=
    pin_new I (fun _ _ z => Heap.get?_push_of_some _ z) (Nat.le_refl _) (Heap.get?_push_size s.heap rfl) (fun v z => nomatch z)
  cases hc : PySem.W.clsIn X.K C with
  | none =>
    have q := sv.at_
    unfold PySem.W.ks_superIn at q
    rw [hc] at q
    cases q
  | some cd =>
    have q := sv.at_
    unfold PySem.W.ks_superIn at q
    rw [hc] at q
    obtain ⟨hh, g, d, t, os⟩ := s
    refine PySem.W.kxs_getMethod PySem.W.kxs_ValueError hso (PySem.W.looks_opaque KI sv.tp) (l₀ := cd.mro) ?_ rfl KI q (inst.type.andThen (PySem.W.looks_subIn KI sv.ve)) (PySem.W.ks_ne KI inst hc) (by decide) (h _ _ J)
    exact fun A Q E s k z => wpAny_bind ((PySem.W.looks_clsIn KI hc) A _ E s k (wpAny_pure z))
theorem sup_mF {so f2 : Addr} {pl : Sem Bool} {A : Around} {Q : Value × List Value → Shared → Prop} {E : Value → Shared → Prop} (sv : SupF X.K C D f2) (I : Inv X ((so, PySem.W.ks_superObj D a C) :: pins) σ H s) (e : H a = some (exo a C none))
    (h : ∀ q s', Inv X ((q, PySem.W.methodObj (.ref f2) (.ref a)) :: (so, PySem.W.ks_superObj D a C) :: pins) σ H s' → X.base.get? q = none → Q (.ref q, []) s') : wpAny (model X.prog X.w) A (getMethod (.ref so) "__init__" pl) Q E s := by
  obtain ⟨t1, inst⟩ := exo_inst (d := none) I e
  have KI := I.kIn
  have hso := pin_at I
  have J : Inv X ((s.heap.objs.size, PySem.W.methodObj (.ref f2) (.ref a)) :: (so, PySem.W.ks_superObj D a C) :: pins) σ H { s with heap := s.heap.push (PySem.W.methodObj (.ref f2) (.ref a)), toks := s.toks + 1 } :=
    pin_new I (fun _ _ z => Heap.get?_push_of_some _ z) (Nat.le_refl _) (Heap.get?_push_size s.heap rfl) (fun v z => nomatch z)
  have hbn := base_none I (Nat.le_refl _)
  obtain ⟨of, hof, hofc⟩ : ∃ of, s.heap.get? f2 = some of ∧ of.cls = .type "function" := by
    have ht : (X.K.lookup f2).map (·.cls) = some (.type "function") := sv.ty
    cases z : X.K.lookup f2 with
    | none => rw [z] at ht; cases ht
    | some of => rw [z] at ht; exact ⟨of, KI _ _ z, Option.some.inj ht⟩
  cases hc : PySem.W.clsIn X.K C with
  | none =>
    have q := sv.at_
    unfold PySem.W.ks_superIn at q
    rw [hc] at q
    cases q
  | some cd =>
    have q := sv.at_
    unfold PySem.W.ks_superIn at q
    rw [hc] at q
    obtain ⟨hh, g, d, t, os⟩ := s
    refine ks_wpAny_getMethod_super hso (PySem.W.looks_opaque KI sv.tp) (l₀ := cd.mro) ?_ rfl KI q hof hofc (PySem.W.ks_ne KI inst hc) (by decide) (h _ _ J hbn)
    exact fun A Q E s k z => wpAny_bind ((PySem.W.looks_clsIn KI hc) A _ E s k (wpAny_pure z))
end
end DL

namespace DL
open PySem PySem.Spec PyProof.Rows L2 ClX
section
variable {X : Cx} {pins : List (Addr × Obj)} {σ : L2.St} {H : Hp} {s : Shared} {a C D : Addr}
theorem sup_callV {q : Addr} {us : List Value} {A : Around} {Q : Value → Shared → Prop} {E : Value → Shared → Prop} (T : OexC X.K C) (I : Inv X pins σ H s) (hu : s.heap.get? q = some (PySem.W.kxs_mw "ValueError.__init__" a)) (e : H a = some (exo a C none)) (hl : us.length ≤ sizeLine)
    (h : ∀ s', Inv X pins σ H s' → Q .none s') : wpAny (model X.prog X.w) A (call (.ref q) us) Q E s := by
  obtain ⟨nm, qn, N, bs, bm, sn, sub, ab, col, dd, k0, k1, k2, k3, k5, hC, hbm⟩ := T.cls
  obtain ⟨t1, ho⟩ := exo_at I.hok e
  have hC' := I.kIn _ _ hC
  have fin : ∀ h' t', (∀ b o, b ≠ a → s.heap.get? b = some o → h'.get? b = some o) → (∃ t2 : Addr, h'.get? a = some ({ cls := .ref C, dict := none, data := .fields #[.ref t2, .none, .none, .none, .bool false, .none] } : Obj)) → Inv X pins σ H { s with heap := h', toks := t' } := by
    intro h' t' k ⟨t2, hx⟩
    have J := I.write (t' := t') (x := a) (e := a) (o := exo a C none) (by rw [e]; exact True.intro) (.inl rfl) k ⟨_, hx⟩ (exo_ok hx)
    have same : upd H a (exo a C none) = H := funext fun b => by
      by_cases hb : b = a
      · subst hb; rw [upd_same, e]
      · exact upd_ne hb
    rw [same] at J
    exact J
  obtain ⟨hh, g, d, t, os⟩ := s
  have FB := F.excBase_ValueError
  refine wpAny_call (codeAny_of_tree ?_)
  show wpAny _ A.in1 (callAny (.ref q) ⟨us, []⟩) _ _ _
  unfold callAny
  refine wpAny_bind (wpAny_load hu ?_)
  dsimp only
  refine PySem.W.KFB.if_so (by decide) ?_
  refine wpAny_bind (PySem.W.check_bound_init FB.toExcCallFacts hC' ho rfl ?_)
  refine wpAny_bind (wpAny_pure (wpAny_pure ⟨plainId_quiet FB.init.plain _, codeAny_builtin FB.initEntry ?_⟩))
  exact PySem.W.exc_init_tree (t0 := t1) (cls := .ref C) (c2 := .none) (c3 := .none) (b4 := .bool false) (dv := none) ho hl fun h' k hx _ => h _ (fin h' t k ⟨_, hx⟩)
end
theorem cells_cls {h : Heap} {H : Hp} {cc D : Addr} (n : H cc = none) (c : ∃ v, h.IsCell cc v) : NdefX.CellsAt [(("__class__" : Str), cc)] ["__class__"] [none] h H := by
  have only : ∀ (y : Str) (c : Addr), List.lookup y [(("__class__" : Str), cc)] = some c → y = "__class__" ∧ c = cc := fun y c e => by
    by_cases hy : y = ("__class__" : Str)
    · subst hy
      rw [List.lookup_cons_self] at e
      exact ⟨rfl, (Option.some.inj e).symm⟩
    · have hb : (y == ("__class__" : Str)) = false := by simpa using hy
      simp only [List.lookup, hb] at e
      cases e
  refine ⟨rfl, fun y c' e => ?_, fun x y c' e1 e2 => ((only x c' e1).1).trans (only y c' e2).1.symm, fun i y e => ?_⟩
  · obtain ⟨_, rfl⟩ := only y c' e
    exact ⟨n, c⟩
  · cases i with
    | zero =>
      have ey := Option.some.inj e
      subst ey
      exact ⟨cc, List.lookup_cons_self, fun v hv => by cases hv⟩
    | succ i => simp at e
section
variable {P : Program} {w : World} {K : PySem.W.Frag} {mg : Str → Option Value} {base : Heap} {name qual : Str} {st : Stmt} {f cda cc D : Addr} {fd : FuncData} {N ps : List Str} {k : Nat} {sp : Sp} {e : Expr} {es : List Expr} {p0 p1 p2 p3 p4 : Pos} {rest : List Stmt} {ar : Arg} {pl : Sem Bool}
/-- the context of such a body -/
abbrev xSup (P : Program) (w : World) (K : PySem.W.Frag) (mg : Str → Option Value) (base : Heap) (N : List Str) (name qual : Str) (st : Stmt) (cda cc f : Addr) (A : Around) (outer : List Env) (s : Shared) (H : Hp) (E : XK) : Cx := NdefX.ncx (L2.CX P w) P w K mg base N (sNF name qual st cda cc) f A outer s H E
abbrev eSup (name qual : Str) (st : Stmt) (cda cc f L : Addr) : Env := NdefX.envF (sNF name qual st cda cc) f L
/-- how the def stands in the text -/
structure SupT (name qual : Str) (st : Stmt) (N ps : List Str) (e : Expr) (es : List Expr) (p0 p1 p2 p3 p4 : Pos) (rest : List Stmt) (ar : Arg) (pl : Sem Bool) : Prop where
  sc : NdefX.NScope N ps ["__class__"] (defScope st)
  body : defBody st = .Expr (.Call (.Attribute (.Call (.Name "super" p0) [] [] p1) "__init__" p2) (e :: es) [] p3) p4 :: rest
  hd : ((defArgs st).posonlyargs ++ (defArgs st).args).head? = some ar
  n0 : N[0]? = some ar.arg
  kS : (defScope st).names.lookup ("super" : Str) = some .globalImplicit
  kA : (defScope st).names.lookup ar.arg = some .local
  swaps : ∀ cda cc f L, swapsWith (.Call (.Attribute (.Call (.Name "super" p0) [] [] p1) "__init__" p2) (e :: es) [] p3) none p4.line (eSup name qual st cda cc f L) = pure false
  inter : ∀ cda cc f L, interactive (eSup name qual st cda cc f L) = false
  ev : ∀ cda cc f L, eval (.Call (.Attribute (.Call (.Name "super" p0) [] [] p1) "__init__" p2) (e :: es) [] p3) (eSup name qual st cda cc f L) = (do
      let ov ← attributeBase (.Call (.Name "super" p0) [] [] p1) "__init__" (eSup name qual st cda cc f L) (eval (.Call (.Name "super" p0) [] [] p1) (eSup name qual st cda cc f L))
      standAt p2.atName
      let (f', first) ← holding [ov] (getMethod ov "__init__" pl)
      callWith p3 f' first (backTo p3 (starEach (e :: es) (eSup name qual st cda cc f L))) [])
  star : ∀ cda cc f L, starEach (e :: es) (eSup name qual st cda cc f L) = (false, eval e (eSup name qual st cda cc f L)) :: starEach es (eSup name qual st cda cc f L)
  plain : ∀ cda cc f L, (backTo p3 (starEach es (eSup name qual st cda cc f L))).any (·.1) = false
theorem fn_supG (SF : SFun P K name qual st f fd D cda cc) (hm : mg "super" = none) (T : SupT name qual st N ps e es p0 p1 p2 p3 p4 rest ar pl) (htop : (P.main.scope.names.lookup ("super" : Str)).isSome = false) (len : ∀ vs H Q E, sp vs H Q E → vs.length = ps.length)
    (hbody : ∀ (A : Around) (outer : List Env) (s : Shared) (H : Hp) (vs : List V) (Q : VK) (E : XK), Room k (A.deeper (eSup name qual st cda cc f s.heap.objs.size)) → sp vs H Q E → ∃ (tr : TS) (a C : Addr), PSs (xSup P w K mg base N name qual st cda cc f A outer s H E) rest tr ∧
      vs[0]? = some (.ref a) ∧ SupC K C D ∧ H a = some (exo a C none) ∧ ∀ pins so s1, Inv (xSup P w K mg base N name qual st cda cc f A outer s H E) ((so, PySem.W.ks_superObj D a C) :: pins) (NdefX.startF N vs [none]) H s1 →
        wpAny (model P w) (A.deeper (eSup name qual st cda cc f s.heap.objs.size)) (getMethod (.ref so) "__init__" pl) (fun fx s2 => wpAny (model P w) (A.deeper (eSup name qual st cda cc f s.heap.objs.size)) (callWith p3 fx.1 fx.2 (backTo p3 (starEach (e :: es) (eSup name qual st cda cc f s.heap.objs.size))) [])
          (fun _ s3 => ∃ H3, Inv (xSup P w K mg base N name qual st cda cc f A outer s H E) [] (NdefX.startF N vs [none]) H3 s3 ∧ tr { nx := fun _ H' => Q .non H', rt := Q } (NdefX.startF N vs [none]) H3) (xSup P w K mg base N name qual st cda cc f A outer s H E).xe s2) (xSup P w K mg base N name qual st cda cc f A outer s H E).xe s1) :
    FnOk P w K mg base (L2.CX P w) (k + 1) f fd ps sp := by
  refine ⟨len, fun A outer s H args us vs Q E hr e0 hb r hsp => ?_⟩
  have KX : K.In s.heap := e0.mod.kin.keeps fun b o z => (e0.bs b o z).1
  have lim : s.heap.NoLimit := e0.mod.nolimit.keeps fun b o z => (e0.bs b o z).1
  obtain ⟨tr, a, C, hps, h0, sc, ha, hq⟩ := hbody A outer s H vs Q E (hr.deeper _) hsp
  have hl := len _ _ _ _ hsp
  have SF' := SF
  obtain ⟨oc, od, dV, kV, doc, pm, ct, an, osl, rfl, lk⟩ := SF'.ex
  obtain ⟨cl, cld, csl, hcell⟩ := SF.cell
  have hcb := e0.mod.kin _ _ hcell
  have CA : NdefX.CellsAt [(("__class__" : Str), cc)] ["__class__"] [none] s.heap H := cells_cls (D := D) (e0.bs _ _ hcb).2 ⟨_, _, (e0.bs _ _ hcb).1, rfl⟩
  refine ks_codeAny_call_defAt (fd := PySem.W.ksFn name qual (defArgs st) (defBody st) (defScope st) dV kV doc pm an (.ref cda) ct cc) (body := defBody st) (binds := ps.zip us) hr.depth (KX _ _ lk) rfl lim (PySem.W.codeRec_of KX SF.code) rfl hb T.sc.nocell
    (fun y hy => T.sc.par y.1 (List.of_mem_zip hy).1) (fun h₁ hns kp => ?_) T.sc.co T.sc.gen T.sc.kind
  have I : Inv (xSup P w K mg base N name qual st cda cc f A outer s H E) [] (NdefX.startF N vs [none]) H { s with heap := h₁, toks := s.toks + (ps.zip us).length } := NdefX.inv_startN T.sc hr.hd e0 hl r CA hns kp
  have eb : execs (defBody st) (eSup name qual st cda cc f s.heap.objs.size) = execs (.Expr (.Call (.Attribute (.Call (.Name "super" p0) [] [] p1) "__init__" p2) (e :: es) [] p3) p4 :: rest) (eSup name qual st cda cc f s.heap.objs.size) := by rw [T.body]
  show _root_.PySem.wpAt (model P w) (A.deeper (eSup name qual st cda cc f s.heap.objs.size)) (.func (defBody st) (eSup name qual st cda cc f s.heap.objs.size)) (execs (defBody st) (eSup name qual st cda cc f s.heap.objs.size)) _ _ _
  rw [eb]
  have s0 : (NdefX.startF N vs [none])[0]? = some (some (.ref a)) := by
    unfold NdefX.startF
    have h1 : 0 < vs.length := (List.getElem?_eq_some_iff.mp h0).1
    rw [List.getElem?_append_left (by rw [List.length_map]; exact h1), List.getElem?_map, h0]
    rfl
  have kC : (defScope st).names.lookup ("__class__" : Str) = some .free := T.sc.frk _ (List.mem_cons_self ..)
  refine ks_wpAt_execs_cons (ks_wpAt_Expr_any (ks_wpAt_MethodCall (pl := pl) (sup_obj (X := xSup P w K mg base N name qual st cda cc f A outer s H E) SF hm I ha s0 T.n0 T.hd sc T.kS kC T.kA (by decide) rfl rfl List.lookup_cons_self htop fun so s1 I1 => ?_) (T.ev cda cc f _)) (T.inter cda cc f _) (T.swaps cda cc f _))
  refine wpAny_mono (hq [] so s1 I1) (fun fx s2 h2 => wpAny_mono h2 (fun v s3 h3 => ?_) fun _ _ z => z) fun _ _ z => z
  obtain ⟨H3, I3, q3⟩ := h3
  refine wpAt_of_wpAny (wpAny_mono (hps.run [] s3 _ H3 _ I3 q3) (fun fl s' hs => ?_) fun _ _ z => z)
  have fin : ∀ {σ' : L2.St} {H' : Hp} {v : V} {u : Value}, Inv (xSup P w K mg base N name qual st cda cc f A outer s H E) [] σ' H' s' → RelV v u → Q v H' → L2.CE outer P w H s Q u s' := fun {σ' H' v u} J rv q => ⟨v, H', J.os, J.bare, J.base, J.hok, rv, q⟩
  cases fl with
  | ret u =>
    obtain ⟨v, σ', H', J, rv, q⟩ := hs
    exact fin J rv q
  | next =>
    obtain ⟨σ', H', J, q⟩ := hs
    exact fin (v := V.non) (u := Value.none) J rfl q
  | brk =>
    obtain ⟨_, _, _, q⟩ := hs
    exact q.elim
  | cont =>
    obtain ⟨_, _, _, q⟩ := hs
    exact q.elim
/-- super() is ValueError -/
theorem fn_supV (SF : SFun P K name qual st f fd D cda cc) (hm : mg "super" = none) (T : SupT name qual st N ps e es p0 p1 p2 p3 p4 rest ar pl) (htop : (P.main.scope.names.lookup ("super" : Str)).isSome = false) (len : ∀ vs H Q E, sp vs H Q E → vs.length = ps.length)
    (hbody : ∀ (A : Around) (outer : List Env) (s : Shared) (H : Hp) (vs : List V) (Q : VK) (E : XK), Room k (A.deeper (eSup name qual st cda cc f s.heap.objs.size)) → sp vs H Q E → ∃ (ta : TA) (tr : TS) (a C : Addr), PA (xSup P w K mg base N name qual st cda cc f A outer s H E) (e :: es) ta ∧
      PSs (xSup P w K mg base N name qual st cda cc f A outer s H E) rest tr ∧ vs[0]? = some (.ref a) ∧ OexC K C ∧ SupV K C D ∧ H a = some (exo a C none) ∧
      ta (NdefX.startF N vs [none]) H fun us H1 => us.length ≤ 1000 ∧ H1 a = some (exo a C none) ∧ tr { nx := fun _ H' => Q .non H', rt := Q } (NdefX.startF N vs [none]) H1) :
    FnOk P w K mg base (L2.CX P w) (k + 1) f fd ps sp := by
  refine fn_supG SF hm T htop len fun A outer s H vs Q E hr hsp => ?_
  obtain ⟨ta, tr, a, C, hpa, hps, h0, oc, sv, ha, q⟩ := hbody A outer s H vs Q E hr hsp
  refine ⟨tr, a, C, hps, h0, sv.toSupC, ha, fun pins so s1 I1 => ?_⟩
  refine sup_mV (X := xSup P w K mg base N name qual st cda cc f A outer s H E) sv I1 ha fun q1 s2 I2 => ?_
  rw [T.star]
  refine PySem.W.kxs_callWith (i := "ValueError.__init__") (x := a) ((Bool.false_or _).trans (T.plain cda cc f s.heap.objs.size)) (Calls.evalArgs_plain ?_)
  have run := hpa.run p3 ((q1, PySem.W.kxs_mw "ValueError.__init__" a) :: (so, PySem.W.ks_superObj D a C) :: pins) s2 _ H _ I2 q
  rw [show starEach (e :: es) (xSup P w K mg base N name qual st cda cc f A outer s H E).env = _ from T.star cda cc f _] at run
  refine wpAny_mono run (fun us s3 h3 => ?_) fun _ _ z => z
  obtain ⟨vs3, H3, I3, r3, l3, e3, q3⟩ := h3
  refine ⟨pin_at I3, ?_⟩
  refine sup_callV (X := xSup P w K mg base N name qual st cda cc f A outer s H E) oc I3 (pin_at I3) e3 (by show us.length ≤ sizeLine; rw [← Paired.length r3, sizeLine_eq]; omega) fun s4 I4 => ⟨H3, I4.pins_of (fun _ hp => (by cases hp)), q3⟩
/-- super() is an own class -/
theorem fn_supF {f2 : Addr} {fd2 : FuncData} {ps2 : List Str} {sp2 : Sp} (SF : SFun P K name qual st f fd D cda cc) (hm : mg "super" = none) (T : SupT name qual st N ps e es p0 p1 p2 p3 p4 rest ar pl) (htop : (P.main.scope.names.lookup ("super" : Str)).isSome = false) (len : ∀ vs H Q E, sp vs H Q E → vs.length = ps.length)
    (F2 : FnOk P w K mg base (L2.CX P w) k f2 fd2 ps2 sp2) (hb2 : Binds K fd2 ps2 [])
    (hbody : ∀ (A : Around) (outer : List Env) (s : Shared) (H : Hp) (vs : List V) (Q : VK) (E : XK), Room k (A.deeper (eSup name qual st cda cc f s.heap.objs.size)) → sp vs H Q E → ∃ (ta : TA) (tr : TS) (a C : Addr), PA (xSup P w K mg base N name qual st cda cc f A outer s H E) (e :: es) ta ∧
      PSs (xSup P w K mg base N name qual st cda cc f A outer s H E) rest tr ∧ vs[0]? = some (.ref a) ∧ SupF K C D f2 ∧ H a = some (exo a C none) ∧
      ta (NdefX.startF N vs [none]) H fun us H1 => sp2 (.ref a :: us) H1 (fun _ H2 => tr { nx := fun _ H' => Q .non H', rt := Q } (NdefX.startF N vs [none]) H2) E0) :
    FnOk P w K mg base (L2.CX P w) (k + 1) f fd ps sp := by
  refine fn_supG SF hm T htop len fun A outer s H vs Q E hr hsp => ?_
  obtain ⟨ta, tr, a, C, hpa, hps, h0, sv, ha, q⟩ := hbody A outer s H vs Q E hr hsp
  refine ⟨tr, a, C, hps, h0, sv.toSupC, ha, fun pins so s1 I1 => ?_⟩
  refine sup_mF (X := xSup P w K mg base N name qual st cda cc f A outer s H E) sv I1 ha fun q1 s2 I2 hbn => ?_
  have hq1 : q1 ≠ (xSup P w K mg base N name qual st cda cc f A outer s H E).env.locals := (I2.pin (q1, PySem.W.methodObj (.ref f2) (.ref a)) (List.mem_append_right _ List.mem_cons_self)).2.2.1
  refine PySem.W.callWith_M (K := K) (h₀ := base) (first := []) I2.ok.mod.kin (news_at hq1 hbn (pin_at I2)) List.mem_cons_self sv.fn (wpAny_mono (hpa.run p3 ((q1, PySem.W.methodObj (.ref f2) (.ref a)) :: (so, PySem.W.ks_superObj D a C) :: pins) s2 _ H _ I2 q) (fun us s3 h3 => ?_) fun _ _ z => z) (T.star cda cc f _) (T.plain cda cc f _)
  obtain ⟨vs3, H3, I3, r3, q3⟩ := h3
  refine ⟨⟨pin_at I3, I3.kIn⟩, ?_⟩
  refine wpAny_call (PySem.W.method_call (pin_at I3) ?_)
  have hl2 : (Value.ref a :: us).length = ps2.length := by
    have z := F2.len _ _ _ _ q3
    rw [← z, List.length_cons, List.length_cons, Paired.length r3]
  have b2 := hb2 s3 (.ref a :: us) I3.kIn (by rw [List.append_nil]; exact hl2)
  rw [List.append_nil] at b2
  refine codeAny_mono (F2.run _ (xSup P w K mg base N name qual st cda cc f A outer s H E).stack s3 H3 ⟨.ref a :: us, []⟩ (.ref a :: us) (.ref a :: vs3) _ E0 hr I3.env0 b2 (.cons rfl r3) q3) fun r s' hq => ?_
  cases r with
  | error er => exact passL _ _ _ s3 er s' I3 hq
  | ok fl =>
    cases fl with
    | ret u =>
      obtain ⟨v4, H4, I4, r4, q4⟩ := I3.after hq
      exact ⟨H4, I4.pins_of (fun _ hp => (by cases hp)), q4⟩
    | next => exact hq.elim
    | brk => exact hq.elim
    | cont => exact hq.elim
end
end DL

namespace DL
open PySem PySem.Spec PyProof.Rows L2 ClX

/-! ### what is never reached; what is so of the memory -/
def dSoE (w : DT) : DT := fun ρ M Q X => Wf M.length M → EvB M ρ → w ρ M Q X
def dWf (w : DT) : DT := fun ρ M Q X => w ρ M (fun d M' => Wf M'.length M' → Bd M'.length d → Q d M') X
def dWfT (w : DTT) : DTT := fun ρ M Q X => w ρ M (fun b M' => Wf M'.length M' → Q b M') X
section
variable {ι : Type} {X : ι → Cx} {K : PySem.W.Frag} {W : WX} {a b c e o : Expr} {es : List Expr} {pos p apos cpos : Pos} {s : Stmt} {ss : List Stmt}
theorem ds_dead : DS X K W s (fun _ _ _ => False) := ⟨fun _ _ _ => False, fun _ => ⟨fun _ _ _ _ _ _ h => h.elim⟩, fun _ _ _ _ _ _ _ _ _ _ w _ => w⟩
theorem dss_dead : DSs X K W ss (fun _ _ _ => False) := ⟨fun _ _ _ => False, fun _ => ⟨fun _ _ _ _ _ _ h => h.elim⟩, fun _ _ _ _ _ _ _ _ _ _ w _ => w⟩
theorem de_dead : DE X K W e (fun _ _ _ _ => False) := ⟨fun _ _ _ => False, fun _ => ⟨fun _ _ _ _ _ _ h => h.elim⟩, fun _ _ _ _ _ _ _ _ _ _ _ w _ _ => w⟩
theorem dt_dead : DTe X K W e (fun _ _ _ _ => False) := ⟨fun _ _ _ => False, fun _ => ⟨fun _ _ _ _ _ _ h => h.elim⟩, fun _ _ _ _ _ _ _ _ _ _ _ w _ _ => w⟩
theorem de_so {w : DT} (h : DE X K W e w) : DE X K W e (dSoE w) := by
  obtain ⟨t, a, b⟩ := h
  exact ⟨t, a, fun G as σ H ρ M Qd Xd Q hh ev w cv ce => b _ _ _ _ _ _ _ _ _ hh ev (w hh.wf (ev.bd hh)) cv ce⟩
theorem de_wf {w : DT} (h : DE X K W e w) : DE X K W e (dWf w) := by
  obtain ⟨t, a, b⟩ := h
  exact ⟨t, a, fun G as σ H ρ M Qd Xd Q hh ev w cv ce => b _ _ _ _ _ _ _ _ _ hh ev w (fun G' as' H' M' v d g h r p => cv _ _ _ _ _ _ g h r (p h.wf (by rw [← h.len]; exact r.bd))) ce⟩
theorem dts_wf {ifs : List Expr} {w : DTT} (h : DTs X K W ifs w) : DTs X K W ifs (dWfT w) := by
  obtain ⟨t, a, b⟩ := h
  exact ⟨t, a, fun G as σ H ρ M Qd Xd Q hh ev w cv ce => b _ _ _ _ _ _ _ _ _ hh ev w (fun G' as' H' M' x g h p => cv _ _ _ _ _ g h (p h.wf)) ce⟩
theorem dss_then {w : SW} (h : DSs X K W ss w) : DSs X K W ss (dThen w) := by
  obtain ⟨t, a, b⟩ := h
  exact ⟨t, a, sn_then b⟩
theorem ds_then {w : SW} (h : DS X K W s w) : DS X K W s (dThen w) := by
  obtain ⟨t, a, b⟩ := h
  exact ⟨t, a, sn_then b⟩
/-- a list that is written out: for good, or an object -/
def dLstB (wa : DTA) : DT := fun ρ M Q X => wa ρ M (fun ds M1 => ds.length ≤ sizeLine ∧ (Q (.lst ds) M1 ∨ Q (.ptr M1.length) (M1 ++ [.lst ds]))) X
theorem de_lstB {wa : DTA} (ha : DA X K W es wa) : DE X K W (.List es pos) (dLstB wa) := by
  obtain ⟨ta, a1, a2⟩ := ha
  refine ⟨tLst ta, fun i => pe_lst (a1 i), ?_⟩
  intro G as σ H ρ M Qd Xd Q h e w cv ce
  refine a2 _ _ _ _ _ _ _ Xd _ h e w (fun G1 as1 H1 M1 vs ds g1 h1 r1 w1 => ?_) ce
  refine ⟨by rw [r1.length]; exact w1.1, fun p np => ?_⟩
  rcases w1.2 with q | q
  · obtain ⟨g2, h2⟩ := h1.const (o := .lst vs) np
    exact cv _ _ _ _ _ _ (g1.trans g2) h2 (.lst upd_same (r1.mono g2)) q
  · have x0 : Gr G1 as1 G1 (as1 ++ [p]) := ⟨Same.refl _, List.prefix_append _ _⟩
    obtain ⟨g2, h2⟩ := h1.push (m := .lst ds) np (same_upd np) ⟨vs, upd_same, r1.mono x0⟩
    refine cv _ _ _ _ _ _ (g1.trans g2) h2 (.ptr ?_) q
    rw [← h1.len]
    exact last_get _ _
/-- -x -/
def dNeg (wa : DT) : DT := fun ρ M Q X => wa ρ M (fun d M1 => ∃ i, d = .int i ∧ Q (.int (-i)) M1) X
theorem de_neg {wa : DT} (ha : DE X K W a wa) : DE X K W (.UnaryOp .USub a pos) (dNeg wa) := by
  obtain ⟨ta, a1, a2⟩ := ha
  refine ⟨_, fun i => pe_un un_neg (a1 i), ?_⟩
  intro G as σ H ρ M Qd Xd Q h e w cv ce
  refine a2 _ _ _ _ _ _ _ Xd _ h e w (fun G1 as1 H1 M1 v d g1 h1 r1 w1 => ?_) ce
  obtain ⟨i, rfl, q⟩ := w1
  exact ⟨i, r1.int_inv, cv _ _ _ _ _ _ g1 h1 (.int _) q⟩
/-- a < b < c as a test -/
theorem dt_chain {op op' : CmpOp} {f f' : DR2} {wa wb wc : DT} (ho : DOp X K (compareOp op) f) (ho' : DOp X K (compareOp op') f') (ha : DE X K W a wa) (hb : DE X K W b wb) (hc : DE X K W c wc) (hm : lastMarks [op, op'] [b, c] = false := by with_unfolding_all rfl) :
    DTe X K W (.Compare a [op, op'] [b, c] pos) (dTest (dChain f f' wa wb wc)) := by
  obtain ⟨r, o1, o2⟩ := ho
  obtain ⟨r', o1', o2'⟩ := ho'
  obtain ⟨ta, a1, a2⟩ := ha
  obtain ⟨tb, b1, b2⟩ := hb
  obtain ⟨tc, c1, c2⟩ := hc
  refine ⟨_, fun i => pt_chain (o1 i) (o1' i) (a1 i) (b1 i) (c1 i) hm, dn_test ?_⟩
  intro G as σ H ρ M Qd Xd Q h e w cv ce
  refine a2 _ _ _ _ _ _ _ Xd _ h e w (fun G1 as1 H1 M1 x d g1 h1 r1 w1 => ?_) ce
  refine b2 _ _ _ _ _ _ _ Xd _ h1 (e.mono g1) w1 (fun G2 as2 H2 M2 y d2 g2 h2 r2 w2 => ?_) (ce.mono g1)
  refine o2 _ _ _ _ _ _ _ _ _ _ h2 (r1.mono g2) r2 w2 (fun G3 as3 H3 M3 z d3 g3 h3 r3 w3 => ?_)
  obtain ⟨k, rfl, w3⟩ := w3
  refine ⟨k, r3.bl_inv, ?_⟩
  have g13 := (g1.trans g2).trans g3
  cases k with
  | true =>
    rw [if_pos rfl] at w3 ⊢
    refine c2 _ _ _ _ _ _ _ Xd _ h3 (e.mono g13) w3 (fun G4 as4 H4 M4 u d4 g4 h4 r4 w4 => ?_) (ce.mono g13)
    exact o2' _ _ _ _ _ _ _ _ _ _ h4 ((r2.mono g3).mono g4) r4 w4 (cv.mono (g13.trans g4))
  | false =>
    rw [if_neg Bool.false_ne_true] at w3 ⊢
    exact cv _ _ _ _ _ _ g13 h3 (.bl _) w3
/-- d.pop(k), there -/
def dPop1 (wo wk : DT) : DT := fun ρ M Q X => wo ρ M (fun o M1 => ∃ kvs, dkOf M1 o = some kvs ∧ wk ρ M1 (fun y M2 => ∃ n kvs k v, o = .ptr n ∧ M2[n]? = some (.dK kvs) ∧ keyOf y = some k ∧ valD kvs k = some v ∧ Q v (M2.set n (.dK (dropD kvs k)))) X) X
theorem de_dpop1 {wo wk : DT} (ho : DE X K W o wo) (he : DE X K W e wk) (m : ∀ i, M1 (X i) o "pop" apos e cpos := by intro _; exact ⟨rfl, rfl, rfl, rfl⟩) : DE X K W (.Call (.Attribute o "pop" apos) [e] [] cpos) (dPop1 wo wk) := by
  obtain ⟨to, o1, o2⟩ := ho
  obtain ⟨te, e1, e2⟩ := he
  refine ⟨_, fun i => pe_dpop1 (o1 i) (e1 i) (m i), ?_⟩
  intro G as σ H ρ M Qd Xd Q h ev w cv ce
  refine o2 _ _ _ _ _ _ _ Xd _ h ev w (fun G1 as1 H1 M1 x d g1 h1 r1 w1 => ?_) ce
  obtain ⟨kvs, q1, w1⟩ := w1
  obtain ⟨a, ks, rfl, hd, _⟩ := h1.dk r1 q1
  refine ⟨a, rfl, .inl ⟨ks, hd⟩, ?_⟩
  refine e2 _ _ _ _ _ _ _ Xd _ h1 (ev.mono g1) w1 (fun G2 as2 H2 M2 y dy g2 h2 r2 w2 => ?_) (ce.mono g1)
  obtain ⟨n, kvs', k, v, rfl, q2, q3, q4, q⟩ := w2
  obtain ⟨a', ea, ha', ks', e5, kv⟩ := h2.ptr (r1.mono g2) q2
  cases ea
  obtain ⟨v', hv, rv⟩ := (kvr_val (k := k) kv).2 v q4
  exact ⟨ks', k, v', e5, r2.keyOf q3, hv, cv _ _ _ _ _ _ (g1.trans g2) (h2.put (m := .dK (dropD kvs' k)) ha' ⟨_, upd_same, kvr_drop kv⟩) rv q⟩
/-- flat or not: the operators together -/
def wAdd : DR2 := fun d e M Q => (wAddI d e M Q ∨ wAddS d e M Q) ∨ wAddL d e M Q
theorem do_add : DOp X K (binaryOp .Add) wAdd := DOp.or (DOp.or do_addI do_addS) do_addL
def wMulB : DR2 := fun d e M Q => wI CMul (fun i j => .int (i * j)) d e M Q ∨ wMulS d e M Q
theorem do_mul : DOp X K (binaryOp .Mult) wMulB := DOp.or do_mulI do_mulS
/-- x += e -/
def dAug (i : Nat) (we : DT) (wr : DR2) : SW := fun De ρ M => ∃ d, ρ[i]? = some (some d) ∧ we ρ M (fun e M1 => wr d e M1 (fun z M2 => De.nx (ρ.set i (some z)) M2)) (fun C fs M1 => De.ex C fs ρ M1)
end

/-! ### raise C(e, ..), C's __init__ laying fields -/
/-- the promise of such an __init__ at n arguments: the fields fs -/
def spX (n : Nat) (OK : Addr → Prop) (fs : List V → List (Str × V)) : Sp := fun vs H Q _ => vs.length = n + 1 ∧ ∃ a C us, vs = .ref a :: us ∧ OK C ∧ H a = some (exo a C none) ∧
  ∀ d H', H d = none → d ≠ a → H' a = some (exo a C (some d)) → H' d = some (exd d (fs us)) → (∀ b, b ≠ a → b ≠ d → H' b = H b) → Q .non H'
def dRaise (C : Addr) (n : Nat) (dds : List D) (fsD : List D → List (Str × D)) (wa : DTA) : SW := fun De ρ M => wa ρ M (fun ds M1 => ds.length + dds.length = n ∧ ds.length ≤ 1000 ∧ De.ex C (fsD (ds ++ dds)) ρ M1) (fun C fs M1 => De.ex C fs ρ M1)
section
variable {ι : Type} {X : ι → Cx} {K : PySem.W.Frag} {W : WX} {e : Expr} {es : List Expr} {pos p pos2 : Pos}
theorem ds_raise {x : Str} {C fI : Addr} {k n : Nat} {fd : FuncData} {ps : List Str} {OK : Addr → Prop} {fs : List V → List (Str × V)} {fsD : List D → List (Str × D)} {ds : List Value} {dvs : List V} {dds : List D} {wa : DTA} (hc : ∀ i, (X i).calm = true) (tk : ∀ i, Takes (X i) W) (T : OexC K C) (hK : ∀ i, (X i).K = K)
    (iC : PySem.W.findIn K (.ref C) "__init__" = some (some (.ref fI))) (tI : PySem.W.typeIn K (.ref fI) = some (.type "function")) (FO : ∀ i, FnOk (X i).prog (X i).w (X i).K (X i).mg (X i).base (L2.CX (X i).prog (X i).w) k fI fd ps (spX n OK fs)) (ok : OK C) (hr : ∀ i, Room (k + 1) (X i).A)
    (hb : ∀ i, Binds (X i).K fd ps ds) (hd : Vals dvs ds) (hdd : ∀ K G as, Rps K G as dvs dds) (hfs : ∀ K G as vs ds, Rps K G as vs ds → vs.length = n → Kvr K G as (fs vs) (fsD ds)) (hm : ∀ i, (X i).mg x = some (.ref C)) (ha : DA X K W (e :: es) wa) (hg : ∀ i, Gl (X i) x := by intro _; rfl)
    (hdb : (x == ("__debug__" : Str)) = false := by decide) (he : ∀ i, starEach (e :: es) (X i).env = (false, eval e (X i).env) :: starEach es (X i).env := by intro _; rfl) (hpl : ∀ i, (backTo pos (starEach es (X i).env)).any (·.1) = false := by intro _; rfl) :
    DS X K W (.Raise (some (.Call (.Name x p) (e :: es) [] pos)) none pos2) (dRaise C n dds fsD wa) := by
  obtain ⟨ta, a1, a2⟩ := ha
  refine ⟨fun _ σ H => tMkO C (spX n OK fs) dvs ta σ H fun cls d H' => W cls d σ H', fun i => ps_raise (hc i) (tk i) (pmk_oex (by rw [hK]; exact T) (by rw [hK]; exact iC) (by rw [hK]; exact tI) (FO i) (hr i) (hb i) hd passL (hg i) (hm i) (a1 i) hdb (he i) (hpl i)), ?_⟩
  intro G as σ H ρ M De Dv h ev w c
  refine a2 _ _ _ _ _ _ _ _ _ h ev w (fun G1 as1 H1 M1 vs ds g1 h1 r1 w1 => ?_) (c.ce ev)
  obtain ⟨l1, l2, q⟩ := w1
  have rr := r1.append (hdd K G1 as1)
  have lv : (vs ++ dvs).length = n := by rw [rr.length, List.length_append]; exact l1
  refine ⟨by rw [r1.length]; exact l2, fun a na => ⟨by rw [List.length_cons, lv], a, C, vs ++ dvs, rfl, ok, upd_same, fun d H' hd0 hda ha' hd' hk => ⟨rfl, d, fs (vs ++ dvs), ha', hd', ?_, ?_⟩⟩⟩
  · rw [upd_ne hda] at hd0
    exact hd0
  · have hd1 : H1 d = none := by rw [upd_ne hda] at hd0; exact hd0
    have e3 : upd (del H' a) d (.xd (fs (vs ++ dvs))) = upd H1 d (.xd (fs (vs ++ dvs))) := funext fun b => by
      by_cases hb : b = d
      · subst hb; rw [upd_same, upd_same]
      · rw [upd_ne hb, upd_ne hb]
        by_cases hba : b = a
        · subst hba; rw [del_same, na]
        · rw [del_ne hba, hk b hba hb, upd_ne hba]
    rw [e3]
    exact c.ex _ _ _ _ _ _ _ _ _ _ g1 (h1.junk hd1) (ev.mono g1) upd_same (hfs _ _ _ _ _ rr lv) q
end
end DL

namespace DL
open PySem PySem.Spec PyProof.Rows L2 ClX

/-! ### the two shapes of __init__ -/
def fsB : List V → List (Str × V)
  | [x, y] => [("name", y), ("at", x)]
  | _ => []
def fsBD : List D → List (Str × D)
  | [x, y] => [("name", y), ("at", x)]
  | _ => []
def fsS (nm : Str) : List V → List (Str × V)
  | [x] => [("name", .str nm), ("at", x)]
  | _ => []
def fsSD (nm : Str) : List D → List (Str × D)
  | [x] => [("name", .str nm), ("at", x)]
  | _ => []
theorem fsB_ok : ∀ (K : PySem.W.Frag) (G : Hp) (as : List Addr) (vs : List V) (ds : List D), Rps K G as vs ds → vs.length = 2 → Kvr K G as (fsB vs) (fsBD ds)
  | K, G, as, _, _, .nil, h => by cases h
  | K, G, as, _, _, .cons a .nil, h => by cases h
  | K, G, as, _, _, .cons a (.cons b .nil), h => .cons ⟨rfl, b⟩ (.cons ⟨rfl, a⟩ .nil)
  | K, G, as, _, _, .cons a (.cons b (.cons c r)), h => by simp at h
theorem fsS_ok (nm : Str) : ∀ (K : PySem.W.Frag) (G : Hp) (as : List Addr) (vs : List V) (ds : List D), Rps K G as vs ds → vs.length = 1 → Kvr K G as (fsS nm vs) (fsSD nm ds)
  | K, G, as, _, _, .nil, h => by cases h
  | K, G, as, _, _, .cons a .nil, h => .cons ⟨rfl, .str nm⟩ (.cons ⟨rfl, a⟩ .nil)
  | K, G, as, _, _, .cons a (.cons b c), h => by simp at h
/-- what a class must have, to be made by the first shape's __init__ in the class at D -/
structure OKv (K : PySem.W.Frag) (D C : Addr) : Prop where
  ox : OexC K C
  sv : SupV K C D
  nA : PySem.W.findIn K (.ref C) "at" = some none
  nN : PySem.W.findIn K (.ref C) "name" = some none
section
variable {P : Program} {w : World} {K : PySem.W.Frag} {mg : Str → Option Value} {base : Heap} {name qual nm : Str} {st : Stmt} {f f2 cda cc D : Addr} {fd fd2 : FuncData} {e : Expr} {es : List Expr} {p0 p1 p2 p3 p4 : Pos} {rest : List Stmt} {ar : Arg} {pl : Sem Bool} {N : List Str}
theorem len3 {vs : List V} {a : Addr} {us : List V} (h : vs.length = 2 + 1) (e : vs = .ref a :: us) : ∃ x y, us = [x, y] := by
  subst e
  match us, h with
  | [x, y], _ => exact ⟨x, y, rfl⟩
theorem len2 {vs : List V} {a : Addr} {us : List V} (h : vs.length = 1 + 1) (e : vs = .ref a :: us) : ∃ x, us = [x] := by
  subst e
  match us, h with
  | [x], _ => exact ⟨x, rfl⟩
/-- def __init__(self, at, name): super().__init__(at); self.at = at; self.name = name, over ValueError -/
theorem sx_base (SF : SFun P K name qual st f fd D cda cc) (hm : mg "super" = none) (T : SupT name qual st ["self", "at", "name", "__class__"] ["self", "at", "name"] e es p0 p1 p2 p3 p4 rest ar pl) (htop : (P.main.scope.names.lookup ("super" : Str)).isSome = false)
    (hpa : ∀ A outer s H E, PA (xSup P w K mg base ["self", "at", "name", "__class__"] name qual st cda cc f A outer s H E) (e :: es) (tCons (tVar 1) tNil))
    (hps : ∀ A outer s H E, PSs (xSup P w K mg base ["self", "at", "name", "__class__"] name qual st cda cc f A outer s H E) rest (tSeq (tOst K "at" (tVar 0) (tVar 1)) (tOst K "name" (tVar 0) (tVar 2)))) :
    FnOk P w K mg base (L2.CX P w) 1 f fd ["self", "at", "name"] (spX 2 (OKv K D) fsB) := by
  refine fn_supV SF hm T htop (fun vs H Q E h => h.1) fun A outer s H vs Q E hr h => ?_
  obtain ⟨hl, a, C, us, rfl, ok, ha, hq⟩ := h
  obtain ⟨x, y, rfl⟩ := len3 hl rfl
  refine ⟨_, _, a, C, hpa A outer s H E, hps A outer s H E, rfl, ok.ox, ok.sv, ha, ?_⟩
  refine ⟨x, rfl, by show 1 ≤ 1000; decide, ha, ?_⟩
  refine ⟨x, rfl, .ref a, rfl, a, C, rfl, ok.ox, ok.nA, .inl ⟨ha, fun d nd hda => ?_⟩⟩
  refine ⟨y, rfl, .ref a, rfl, a, C, rfl, ok.ox, ok.nN, .inr ⟨d, [(("at" : Str), x)], upd_same, ?_, ?_, ?_⟩⟩
  · rw [upd_ne hda, upd_same]
  · show 1 ≤ 900
    decide
  · refine hq d _ nd hda ?_ upd_same fun b h1 h2 => ?_
    · rw [upd_ne (Ne.symm hda), upd_same]
    · rw [upd_ne h2, upd_ne h1, upd_ne h2]
/-- def __init__(self, at): super().__init__(at, 'X'), over such a class -/
theorem sx_sub (SF : SFun P K name qual st f fd D cda cc) (hm : mg "super" = none) (T : SupT name qual st ["self", "at", "__class__"] ["self", "at"] e es p0 p1 p2 p3 p4 [] ar pl) (htop : (P.main.scope.names.lookup ("super" : Str)).isSome = false) {OK2 : Addr → Prop} {k : Nat}
    (F2 : FnOk P w K mg base (L2.CX P w) k f2 fd2 ["self", "at", "name"] (spX 2 OK2 fsB)) (hb2 : Binds K fd2 ["self", "at", "name"] [])
    (hpa : ∀ A outer s H E, PA (xSup P w K mg base ["self", "at", "__class__"] name qual st cda cc f A outer s H E) (e :: es) (tCons (tVar 1) (tCons (tC (.str nm)) tNil))) :
    FnOk P w K mg base (L2.CX P w) (k + 1) f fd ["self", "at"] (spX 1 (fun C => SupF K C D f2 ∧ OK2 C) (fsS nm)) := by
  refine fn_supF SF hm T htop (fun vs H Q E h => h.1) F2 hb2 fun A outer s H vs Q E hr h => ?_
  obtain ⟨hl, a, C, us, rfl, ok, ha, hq⟩ := h
  obtain ⟨x, rfl⟩ := len2 hl rfl
  refine ⟨_, _, a, C, hpa A outer s H E, pss_nil, rfl, ok.1, ha, ?_⟩
  refine ⟨x, rfl, rfl, a, C, _, rfl, ok.2, ha, fun d H' nd hda ha' hd' hk => ?_⟩
  exact hq d H' nd hda ha' hd' hk
end
end DL

namespace DL
open PySem PySem.Spec PyProof.Rows L2 ClX

def wSub : DR2 := wI (fun _ _ => True) fun i j => .int (i - j)
def wMod : DR2 := wI (fun _ j => 0 < j) fun i j => .int (i % j)
def wDiv : DR2 := wI CDiv fun i j => .int (i / j)
def wPow : DR2 := wI CPow fun i j => .int (i ^ j.toNat)
def wLt : DR2 := wI (fun _ _ => True) fun i j => .bl (decide (i < j))
def wLe : DR2 := wI (fun _ _ => True) fun i j => .bl (decide (i ≤ j))
def wGt : DR2 := wI (fun _ _ => True) fun i j => .bl (decide (j < i))
def wGe : DR2 := wI (fun _ _ => True) fun i j => .bl (decide (j ≤ i))
def dLockA (w : DT) : DT := fun ρ M Q X => ∃ n, dLockE n w ρ M Q X
def dLockS (w : SW) : SW := fun De ρ M => ∃ n, dLock n w De ρ M
def dXfC (C' : Addr) (we : DT) (a C dd : Addr) (f : Str) : DT := fun ρ M Q Xd => C = C' ∧ dXf we a dd f ρ M Q Xd
section
variable {ι : Type} {X : ι → Cx} {K : PySem.W.Frag} {W : WX} {e : Expr} {s : Stmt} {pos : Pos}
theorem de_lockA {w : DT} (h : DE X K W e w) : DE X K W e (dLockA w) := by
  have q := fun n => de_lock n h
  refine ⟨fun σ H Q => ∃ n, (q n).choose σ H Q, fun i => ⟨fun pins s σ H Q I ⟨n, h⟩ => ((q n).choose_spec.1 i).run pins s σ H Q I h⟩, ?_⟩
  rintro G as σ H ρ M Qd Xd Q hh ev ⟨n, w⟩ cv ce
  exact ⟨n, (q n).choose_spec.2 _ _ _ _ _ _ _ _ _ hh ev w cv ce⟩
theorem ds_lockS {w : SW} (h : DS X K W s w) : DS X K W s (dLockS w) := by
  have q := fun n => ds_lock n h
  refine ⟨fun D σ H => ∃ n, (q n).choose D σ H, fun i => ⟨fun pins s σ H D I ⟨n, h⟩ => ((q n).choose_spec.1 i).run pins s σ H D I h⟩, ?_⟩
  rintro G as σ H ρ M De Dv hh ev ⟨n, w⟩ c
  exact ⟨n, (q n).choose_spec.2 _ _ _ _ _ _ _ _ hh ev w c⟩
theorem xb_passes {P : Program} {w : World} {mg : Str → Option Value} {base : Heap} {N : List Str} {qual : Str} {sc : Scope} {f : Addr} {k : Nat} {E : XK} (p : BI k qual sc f) :
    PassesOwn (model (XB P w K mg base N qual sc f k E p).prog (XB P w K mg base N qual sc f k E p).w) (XB P w K mg base N qual sc f k E p).A (XB P w K mg base N qual sc f k E p).env (XB P w K mg base N qual sc f k E p).xe := passes_of rfl
end
end DL

namespace DL
open PySem PySem.Spec PyProof.Rows L2 ClX

/-! ### small laws for the readings -/
theorem ifd {p : Prop} [Decidable p] {A B : Prop} (h1 : p → A) (h2 : ¬ p → B) : if decide p = true then A else B := by
  by_cases h : p
  · rw [if_pos (decide_eq_true h)]; exact h1 h
  · rw [if_neg (by simpa using h)]; exact h2 h
theorem ifb {b : Bool} {A B : Prop} (h1 : b = true → A) (h2 : b = false → B) : if b = true then A else B := by
  cases b
  · rw [if_neg Bool.false_ne_true]; exact h2 rfl
  · rw [if_pos rfl]; exact h1 rfl
theorem if_t {b : Bool} {A B : Prop} (h : b = true) (h1 : A) : if b = true then A else B := by rw [if_pos h]; exact h1
theorem if_f {b : Bool} {A B : Prop} (h : b = false) (h2 : B) : if b = true then A else B := by rw [h, if_neg Bool.false_ne_true]; exact h2
theorem dec_ii (a b : Int) : decide (V.int a = V.int b) = decide (a = b) := by
  by_cases h : a = b
  · subst h; simp
  · have : V.int a ≠ V.int b := fun z => h (by cases z; rfl)
    simp [h, this]
theorem dec_ss (a b : Str) : decide (V.str a = V.str b) = decide (a = b) := by
  by_cases h : a = b
  · subst h; simp
  · have : V.str a ≠ V.str b := fun z => h (by cases z; rfl)
    simp [h, this]
section
variable {M : Mm} {k j : Nat} {o m : MO}
theorem lt_of_at (h : M[k]? = some o) : k < M.length := (List.getElem?_eq_some_iff.mp h).1
theorem set_at (h : M[k]? = some o) : (M.set k m)[k]? = some m := List.getElem?_set_self (lt_of_at h)
theorem set_ne (h : j ≠ k) : (M.set j m)[k]? = M[k]? := List.getElem?_set_ne h
theorem app_at (h : M[k]? = some o) {t : Mm} : (M ++ t)[k]? = some o := by rw [List.getElem?_append_left (lt_of_at h)]; exact h
theorem app_last {t : Mm} : (M ++ m :: t)[M.length]? = some m := by rw [List.getElem?_append_right (Nat.le_refl _), Nat.sub_self]; rfl
theorem set_app (h : k < M.length) {t : Mm} : (M ++ t).set k m = M.set k m ++ t := List.set_append_left _ _ h
theorem ls_at {xs : List D} (h : M[k]? = some (.lst xs)) : lsOf M (.ptr k) = some xs := by unfold lsOf; dsimp only; rw [h]
theorem sq_at {xs : List D} (h : M[k]? = some (.lst xs)) : sqOf M (.ptr k) = some xs := ls_at h
theorem dk_at {xs : List (Key × D)} (h : M[k]? = some (.dK xs)) : dkOf M (.ptr k) = some xs := by unfold dkOf; dsimp only; rw [h]
theorem dk_lk {xs : List (Key × D)} {ob : Obj} {ks : List (Key × V)} (h : M[k]? = some (.lk ob ks xs)) : dkOf M (.ptr k) = some xs := by unfold dkOf; dsimp only; rw [h]
theorem set_same (h : M[k]? = some o) : M.set k o = M := by
  apply List.ext_getElem?
  intro i
  by_cases hi : k = i
  · subst hi; rw [set_at h, h]
  · rw [set_ne hi]
theorem Wf.set {n : Nat} (h : Wf n M) (hm : MBd n m) : Wf n (M.set k m) := fun x hx => by
  rcases List.mem_or_eq_of_mem_set hx with h1 | h1
  · exact h x h1
  · rw [h1]; exact hm
theorem Wf.app {n : Nat} (h : Wf n M) (hm : MBd n m) : Wf n (M ++ [m]) := fun x hx => by
  rcases List.mem_append.mp hx with h1 | h1
  · exact h x h1
  · have e : x = m := by simpa using h1
    rw [e]; exact hm
theorem MBd.mono {a b : Nat} (h : a ≤ b) (hm : MBd a m) : MBd b m := by
  cases m with
  | lst xs => exact Bds.mono h hm
  | dK xs => exact fun q hq => (hm q hq).mono h
  | lk ob ks xs => exact fun q hq => (hm q hq).mono h
  | ins C xs => exact fun q hq => (hm q hq).mono h
theorem Wf.mono {a b : Nat} (h : a ≤ b) (hw : Wf a M) : Wf b M := fun m hm => (hw m hm).mono h
theorem bds_ints {n : Nat} (ns : List Int) : Bds n (ns.map D.int) := Bds.of fun d hd => by
  obtain ⟨i, _, rfl⟩ := List.mem_map.mp hd
  exact .int i
theorem bds_strs {n : Nat} (ns : List Str) : Bds n (ns.map D.str) := Bds.of fun d hd => by
  obtain ⟨i, _, rfl⟩ := List.mem_map.mp hd
  exact .str i
theorem bds_bls {n : Nat} (ns : List Bool) : Bds n (ns.map D.bl) := Bds.of fun d hd => by
  obtain ⟨i, _, rfl⟩ := List.mem_map.mp hd
  exact .bl i
end
theorem ix_nat {n i : Nat} (h : i < n) : ixN n (i : Int) = some i := by
  unfold ixN
  rw [if_pos (by omega), if_pos (by omega)]
  simp
theorem at_nat {α : Type} {xs : List α} {i : Nat} {x : α} (h : xs[i]? = some x) : atI xs (i : Int) = some x := by
  unfold atI
  rw [ix_nat (List.getElem?_eq_some_iff.mp h).1]
  exact h
theorem at_map {α : Type} {f : α → D} {xs : List α} {i : Int} {n : Nat} {x : α} (e : i = (n : Int)) (h : xs[n]? = some x) : atI (xs.map f) i = some (f x) := by
  subst e
  refine at_nat ?_
  rw [List.getElem?_map, h]
  rfl
end DL

namespace DL
open PySem PySem.Spec PyProof.Rows L2 ClX
section
variable {M : Mm} {ρ : Ev} {i : Nat} {Q : DK} {X : XD} {xs : List D} {st : Mm → Prop} {wt : DTT} {we : DT}
/-- what a comprehension asks behind its walk -/
def LcT (ρ : Ev) (i : Nat) (wt : DTT) (we : DT) (Q : DK) (xs : List D) (st : Mm → Prop) (M0 : Mm) : Prop := ∃ I : Nat → Mm → Prop, I 0 (M0 ++ [.lst []]) ∧ (∀ j M1, I j M1 → st M1) ∧
  (∀ j d M1, xs[j]? = some d → I j M1 → wt ((ρ.set i none).set i (some d)) M1 (fun b M2 => if b = true then we ((ρ.set i none).set i (some d)) M2 (fun y M3 => ∃ acc, M3[M0.length]? = some (.lst acc) ∧ acc.length < sizeLine ∧ UpM (M0.length + 1) (I (j + 1)) (M3.set M0.length (.lst (acc ++ [y])))) (fun _ _ _ => False)
    else UpM (M0.length + 1) (I (j + 1)) M2) (fun _ _ _ => False)) ∧ ∀ M1, I xs.length M1 → UpV M0.length Q (.ptr M0.length) M1
/-- behind the j-th turn -/
def LcI (M : Mm) (J : Nat → List D → Mm → Prop) (j : Nat) (M1 : Mm) : Prop := ∃ acc M', M1 = M' ++ [.lst acc] ∧ M'.length = M.length ∧ Wf M.length M' ∧ Bds M.length acc ∧ J j acc M'
def LcY (M : Mm) (J : Nat → List D → Mm → Prop) (j : Nat) : DK := fun y M3 => ∃ acc, M3[M.length]? = some (.lst acc) ∧ acc.length < sizeLine ∧ UpM (M.length + 1) (LcI M J (j + 1)) (M3.set M.length (.lst (acc ++ [y])))
def LcN (M : Mm) (J : Nat → List D → Mm → Prop) (j : Nat) (M2 : Mm) : Prop := UpM (M.length + 1) (LcI M J (j + 1)) M2
theorem lc_whole {M M'' : Mm} {a2 : List D} (l2 : M''.length = M.length) (w2 : Wf M.length M'') (b2 : Bds M.length a2) : Wf (M'' ++ [MO.lst a2]).length (M'' ++ [MO.lst a2]) := by
  have e : (M'' ++ [MO.lst a2]).length = M.length + 1 := by rw [List.length_append, l2]; rfl
  rw [e]
  exact (w2.mono (Nat.le_succ _)).app (Bds.mono (Nat.le_succ _) b2)
theorem Bds.snoc {n : Nat} {acc : List D} {y : D} (b : Bds n acc) (h : Bd n y) : Bds n (acc ++ [y]) := Bds.of fun d hd => by
  rcases List.mem_append.mp hd with z | z
  · exact b.get d z
  · have ez : d = y := by simpa using z
    rw [ez]
    exact h
theorem LcY.mk {M M'' : Mm} {J : Nat → List D → Mm → Prop} {j : Nat} {acc : List D} {y : D} (l2 : M''.length = M.length) (w2 : Wf M.length M'') (b : Bds M.length acc) (hy : Bd M.length y) (la : acc.length < sizeLine) (h : J (j + 1) (acc ++ [y]) M'') : LcY M J j y (M'' ++ [.lst acc]) := by
  have e1 : M.length = M''.length := l2.symm
  refine ⟨acc, by rw [e1]; exact app_last, la, ?_⟩
  have e2 : (M'' ++ [MO.lst acc]).set M.length (.lst (acc ++ [y])) = M'' ++ [.lst (acc ++ [y])] := by
    rw [e1, List.set_append_right _ _ (Nat.le_refl _), Nat.sub_self]
    rfl
  rw [e2]
  exact UpM.all (by rw [List.length_append, l2]; exact Nat.le_refl _) (lc_whole l2 w2 (b.snoc hy)) ⟨_, M'', rfl, l2, w2, b.snoc hy, h⟩
theorem LcN.mk {M M'' : Mm} {J : Nat → List D → Mm → Prop} {j : Nat} {acc : List D} (l2 : M''.length = M.length) (w2 : Wf M.length M'') (b : Bds M.length acc) (h : J (j + 1) acc M'') : LcN M J j (M'' ++ [.lst acc]) :=
  UpM.all (by rw [List.length_append, l2]; exact Nat.le_refl _) (lc_whole l2 w2 b) ⟨_, M'', rfl, l2, w2, b, h⟩
theorem lcI (J : Nat → List D → Mm → Prop) (hw : Wf M.length M) (h0 : J 0 [] M) (hst : ∀ j acc M', J j acc M' → M'.length = M.length → st (M' ++ [.lst acc]))
    (turn : ∀ j d acc M', xs[j]? = some d → M'.length = M.length → Wf M.length M' → Bds M.length acc → J j acc M' →
      wt ((ρ.set i none).set i (some d)) (M' ++ [.lst acc]) (fun b M2 => if b = true then we ((ρ.set i none).set i (some d)) M2 (LcY M J j) (fun _ _ _ => False) else LcN M J j M2) (fun _ _ _ => False))
    (fin : ∀ acc M', J xs.length acc M' → M'.length = M.length → Wf M.length M' → Bds M.length acc → Q (.lst acc) M' ∨ Q (.ptr M.length) (M' ++ [.lst acc])) : LcT ρ i wt we Q xs st M := by
  refine ⟨LcI M J, ⟨[], M, rfl, rfl, hw, .nil, h0⟩, ?_, ?_, ?_⟩
  · rintro j M1 ⟨acc, M', rfl, l, w, b, h⟩
    exact hst j acc M' h l
  · rintro j d M1 hd ⟨acc, M', rfl, l, w, b, h⟩
    exact turn j d acc M' hd l w b h
  · rintro M1 ⟨acc, M', rfl, l, w, b, h⟩
    have e1 : M.length = M'.length := l.symm
    rcases fin acc M' h l w b with q | q
    · rw [e1]
      exact UpV.frz (t := []) (by rw [← e1]; exact w) (by rw [← e1]; exact b) q (Nat.le_refl _)
    · exact UpV.all (by rw [List.length_append, l]; omega) (lc_whole l w b) (.ptr (by rw [List.length_append, l]; exact Nat.lt_succ_self _)) q
/-- .. an element for each, nothing else done -/
theorem lc_map (f : Nat → D → D) (hw : Wf M.length M) (hst : ∀ acc, st (M ++ [.lst acc])) (hl : xs.length < sizeLine) (hb : ∀ j d, xs[j]? = some d → Bd M.length (f j d)) (turn : ∀ j d acc (Q' : DK), xs[j]? = some d → Q' (f j d) (M ++ [.lst acc]) → we ((ρ.set i none).set i (some d)) (M ++ [.lst acc]) Q' (fun _ _ _ => False))
    (fin : Q (.lst (xs.mapIdx f)) M ∨ Q (.ptr M.length) (M ++ [.lst (xs.mapIdx f)])) : LcT ρ i dYes we Q xs st M := by
  refine lcI (fun j acc M' => M' = M ∧ acc = (xs.take j).mapIdx f) hw ⟨rfl, rfl⟩ (fun j acc M' h l => by rw [h.1]; exact hst acc) ?_ ?_
  · rintro j d acc M' hd l w b ⟨rfl, rfl⟩
    have hj : j < xs.length := (List.getElem?_eq_some_iff.mp hd).1
    have hlj : (xs.take j).length = j := by rw [List.length_take]; omega
    unfold dYes
    dsimp only
    rw [if_pos rfl]
    refine turn j d _ _ hd (LcY.mk l w b (hb j d hd) (by rw [List.length_mapIdx, hlj]; omega) ⟨rfl, ?_⟩)
    have e := (List.getElem?_eq_some_iff.mp hd).2
    rw [List.take_add_one, hd, Option.toList_some, List.mapIdx_append, hlj]
    simp
  · rintro acc M' ⟨rfl, rfl⟩ l w b
    rw [List.take_length]
    exact fin
end
end DL

namespace K93
open PySem PySem.Spec PyProof.Rows L2 DL
def top (i : Nat) : Stmt := PySem.Challenge.pw_starless_k93_whole_tapes.main.body.getD i (.Pass ⟨0, 0, 0, 0⟩)
abbrev s_init : Stmt := inClass (top 7) 0
abbrev n_init : List Str := ["self", "many", "_"]
abbrev p_init : List Str := ["self", "many"]
theorem sc_init : FnScope n_init p_init (defScope s_init) := ⟨rfl, rfl, rfl, by decide +kernel, rfl, by decide +kernel, by decide +kernel⟩
abbrev s_check : Stmt := inClass (top 7) 1
abbrev n_check : List Str := ["self", "at"]
abbrev p_check : List Str := ["self", "at"]
theorem sc_check : FnScope n_check p_check (defScope s_check) := ⟨rfl, rfl, rfl, by decide +kernel, rfl, by decide +kernel, by decide +kernel⟩
abbrev s_read : Stmt := inClass (top 7) 2
abbrev n_read : List Str := ["self", "at"]
abbrev p_read : List Str := ["self", "at"]
theorem sc_read : FnScope n_read p_read (defScope s_read) := ⟨rfl, rfl, rfl, by decide +kernel, rfl, by decide +kernel, by decide +kernel⟩
abbrev s_write : Stmt := inClass (top 7) 3
abbrev n_write : List Str := ["self", "at", "text"]
abbrev p_write : List Str := ["self", "at", "text"]
theorem sc_write : FnScope n_write p_write (defScope s_write) := ⟨rfl, rfl, rfl, by decide +kernel, rfl, by decide +kernel, by decide +kernel⟩
abbrev s_fall : Stmt := inClass (top 7) 6
abbrev n_fall : List Str := ["self", "kept", "some", "at"]
abbrev p_fall : List Str := ["self", "kept"]
theorem sc_fall : FnScope n_fall p_fall (defScope s_fall) := ⟨rfl, rfl, rfl, by decide +kernel, rfl, by decide +kernel, by decide +kernel⟩
abbrev s_sync : Stmt := inClass (top 7) 4
abbrev n_sync : List Str := ["self", "kept", "at"]
abbrev p_sync : List Str := ["self"]
theorem sc_sync : FnScope n_sync p_sync (defScope s_sync) := ⟨rfl, rfl, rfl, by decide +kernel, rfl, by decide +kernel, by decide +kernel⟩
abbrev s_order : Stmt := inClass (top 7) 5
abbrev n_order : List Str := ["self", "moment", "kept"]
abbrev p_order : List Str := ["self", "moment", "kept"]
theorem sc_order : FnScope n_order p_order (defScope s_order) := ⟨rfl, rfl, rfl, by decide +kernel, rfl, by decide +kernel, by decide +kernel⟩
abbrev s_unsafe : Stmt := inClass (top 7) 7
abbrev n_unsafe : List Str := ["self"]
abbrev p_unsafe : List Str := ["self"]
theorem sc_unsafe : FnScope n_unsafe p_unsafe (defScope s_unsafe) := ⟨rfl, rfl, rfl, by decide +kernel, rfl, by decide +kernel, by decide +kernel⟩
abbrev s_draws : Stmt := top 9
abbrev n_draws : List Str := ["script"]
abbrev p_draws : List Str := ["script"]
theorem sc_draws : FnScope n_draws p_draws (defScope s_draws) := ⟨rfl, rfl, rfl, by decide +kernel, rfl, by decide +kernel, by decide +kernel⟩
abbrev s_draw : Stmt := top 10
abbrev n_draw : List Str := ["draws", "limit", "cell", "value"]
abbrev p_draw : List Str := ["draws", "limit"]
theorem sc_draw : FnScope n_draw p_draw (defScope s_draw) := ⟨rfl, rfl, rfl, by decide +kernel, rfl, by decide +kernel, by decide +kernel⟩
abbrev s_same : Stmt := top 11
abbrev n_same : List Str := ["x", "due", "key", "right", "at"]
abbrev p_same : List Str := ["x", "due"]
theorem sc_same : FnScope n_same p_same (defScope s_same) := ⟨rfl, rfl, rfl, by decide +kernel, rfl, by decide +kernel, by decide +kernel⟩
abbrev s_called : Stmt := top 12
abbrev n_called : List Str := ["tape", "word", "one", "two", "e"]
abbrev p_called : List Str := ["tape", "word", "one", "two"]
theorem sc_called : FnScope n_called p_called (defScope s_called) := ⟨rfl, rfl, rfl, by decide +kernel, rfl, by decide +kernel, by decide +kernel⟩
abbrev s_lfall : Stmt := top 13
abbrev n_lfall : List Str := ["safe", "fresh", "kept", "many", "at"]
abbrev p_lfall : List Str := ["safe", "fresh", "kept"]
theorem sc_lfall : FnScope n_lfall p_lfall (defScope s_lfall) := ⟨rfl, rfl, rfl, by decide +kernel, rfl, by decide +kernel, by decide +kernel⟩
abbrev s_law : Stmt := top 14
abbrev n_law : List Str := ["script", "draws", "many", "tape", "safe", "at", "fresh", "left", "kept", "k", "kind", "some", "one", "due", "text", "told"]
abbrev p_law : List Str := ["script"]
theorem sc_law : FnScope n_law p_law (defScope s_law) := ⟨rfl, rfl, rfl, by decide +kernel, rfl, by decide +kernel, by decide +kernel⟩
abbrev s_SetError : Stmt := inClass (top 1) 0
abbrev p_SetError : List Str := ["self", "at", "name"]
abbrev s_BlockWrong : Stmt := inClass (top 3) 0
abbrev p_BlockWrong : List Str := ["self", "at"]
abbrev s_Fallen : Stmt := inClass (top 4) 0
abbrev p_Fallen : List Str := ["self", "at"]
structure Ad where
  (f_init f_check f_read f_write f_fall f_sync f_order f_unsafe f_draws f_draw f_same f_called f_lfall f_law C_Tape f_SetError C_SetError cda_SetError cc_SetError f_BlockWrong C_BlockWrong cda_BlockWrong cc_BlockWrong f_Fallen C_Fallen cda_Fallen cc_Fallen : Addr)
  (fd_init fd_check fd_read fd_write fd_fall fd_sync fd_order fd_unsafe fd_draws fd_draw fd_same fd_called fd_lfall fd_law fd_SetError fd_BlockWrong fd_Fallen : FuncData)
  (u_SIZE : Value)
structure Txt (P : Program) (K : PySem.W.Frag) (mg : Str → Option Value) (ad : Ad) : Prop where
  n_len : mg "len" = none
  n_list : mg "list" = none
  n_sorted : mg "sorted" = none
  n_all : mg "all" = none
  n_isinstance : mg "isinstance" = none
  n_int : mg "int" = none
  n_range : mg "range" = none
  n_bool : mg "bool" = none
  n_str : mg "str" = none
  n_dict : mg "dict" = none
  n_tuple : mg "tuple" = none
  g_SIZE : mg "SIZE" = some ad.u_SIZE
  r_SIZE : RelV (.int 64) ad.u_SIZE
  F_init : Fun K "__init__" "Tape.__init__" s_init ad.f_init ad.fd_init
  b_init : Binds K ad.fd_init p_init []
  F_check : Fun K "check" "Tape.check" s_check ad.f_check ad.fd_check
  b_check : Binds K ad.fd_check p_check []
  m_check : Meth K ad.C_Tape "check" ad.f_check
  F_read : Fun K "read" "Tape.read" s_read ad.f_read ad.fd_read
  b_read : Binds K ad.fd_read p_read []
  m_read : Meth K ad.C_Tape "read" ad.f_read
  F_write : Fun K "write" "Tape.write" s_write ad.f_write ad.fd_write
  b_write : Binds K ad.fd_write p_write []
  m_write : Meth K ad.C_Tape "write" ad.f_write
  F_fall : Fun K "fall" "Tape.fall" s_fall ad.f_fall ad.fd_fall
  b_fall : Binds K ad.fd_fall p_fall []
  m_fall : Meth K ad.C_Tape "fall" ad.f_fall
  F_sync : Fun K "sync" "Tape.sync" s_sync ad.f_sync ad.fd_sync
  b_sync : Binds K ad.fd_sync p_sync []
  m_sync : Meth K ad.C_Tape "sync" ad.f_sync
  F_order : Fun K "order" "Tape.order" s_order ad.f_order ad.fd_order
  b_order : Binds K ad.fd_order p_order []
  m_order : Meth K ad.C_Tape "order" ad.f_order
  F_unsafe : Fun K "unsafe" "Tape.unsafe" s_unsafe ad.f_unsafe ad.fd_unsafe
  b_unsafe : Binds K ad.fd_unsafe p_unsafe []
  m_unsafe : Meth K ad.C_Tape "unsafe" ad.f_unsafe
  F_draws : Fun K "_law_draws" "_law_draws" s_draws ad.f_draws ad.fd_draws
  b_draws : Binds K ad.fd_draws p_draws []
  g_draws : mg "_law_draws" = some (.ref ad.f_draws)
  F_draw : Fun K "_law_draw" "_law_draw" s_draw ad.f_draw ad.fd_draw
  b_draw : Binds K ad.fd_draw p_draw []
  g_draw : mg "_law_draw" = some (.ref ad.f_draw)
  F_same : Fun K "_law_same" "_law_same" s_same ad.f_same ad.fd_same
  b_same : Binds K ad.fd_same p_same []
  g_same : mg "_law_same" = some (.ref ad.f_same)
  F_called : Fun K "_law_called" "_law_called" s_called ad.f_called ad.fd_called
  b_called : Binds K ad.fd_called p_called []
  g_called : mg "_law_called" = some (.ref ad.f_called)
  F_lfall : Fun K "_law_fall" "_law_fall" s_lfall ad.f_lfall ad.fd_lfall
  b_lfall : Binds K ad.fd_lfall p_lfall []
  g_lfall : mg "_law_fall" = some (.ref ad.f_lfall)
  F_law : Fun K "law" "law" s_law ad.f_law ad.fd_law
  b_law : Binds K ad.fd_law p_law []
  g_law : mg "law" = some (.ref ad.f_law)
  cl_Tape : Cls K ad.C_Tape
  mk_Tape : Mk K ad.C_Tape ad.f_init
  g_Tape : mg "Tape" = some (.ref ad.C_Tape)
  na_Tape_many : NoAttr K ad.C_Tape "many"
  na_Tape_safe : NoAttr K ad.C_Tape "safe"
  na_Tape_fresh : NoAttr K ad.C_Tape "fresh"
  na_Tape_left : NoAttr K ad.C_Tape "left"
  na_Tape_kept : NoAttr K ad.C_Tape "kept"
  n_super : mg "super" = none
  htop : (P.main.scope.names.lookup ("super" : Str)).isSome = false
  S_SetError : SFun P K "__init__" "SetError.__init__" s_SetError ad.f_SetError ad.fd_SetError ad.C_SetError ad.cda_SetError ad.cc_SetError
  b_SetError : Binds K ad.fd_SetError p_SetError []
  S_BlockWrong : SFun P K "__init__" "BlockWrong.__init__" s_BlockWrong ad.f_BlockWrong ad.fd_BlockWrong ad.C_BlockWrong ad.cda_BlockWrong ad.cc_BlockWrong
  b_BlockWrong : Binds K ad.fd_BlockWrong p_BlockWrong []
  S_Fallen : SFun P K "__init__" "Fallen.__init__" s_Fallen ad.f_Fallen ad.fd_Fallen ad.C_Fallen ad.cda_Fallen ad.cc_Fallen
  b_Fallen : Binds K ad.fd_Fallen p_Fallen []
  ok_BlockWrong : SupF K ad.C_BlockWrong ad.C_BlockWrong ad.f_SetError ∧ OKv K ad.C_SetError ad.C_BlockWrong
  i_BlockWrong : PySem.W.findIn K (.ref ad.C_BlockWrong) "__init__" = some (some (.ref ad.f_BlockWrong))
  t_BlockWrong : PySem.W.typeIn K (.ref ad.f_BlockWrong) = some (.type "function")
  g_BlockWrong : mg "BlockWrong" = some (.ref ad.C_BlockWrong)
  xf_BlockWrong : XfC K ad.C_BlockWrong
  ok_Fallen : SupF K ad.C_Fallen ad.C_Fallen ad.f_SetError ∧ OKv K ad.C_SetError ad.C_Fallen
  i_Fallen : PySem.W.findIn K (.ref ad.C_Fallen) "__init__" = some (some (.ref ad.f_Fallen))
  t_Fallen : PySem.W.typeIn K (.ref ad.f_Fallen) = some (.type "function")
  g_Fallen : mg "Fallen" = some (.ref ad.C_Fallen)
  xf_Fallen : XfC K ad.C_Fallen
  e_BlockWrong_BlockWrong : PySem.W.exmOne K (.ref ad.C_BlockWrong) (.ref ad.C_BlockWrong) = some true
  e_Fallen_BlockWrong : PySem.W.exmOne K (.ref ad.C_Fallen) (.ref ad.C_BlockWrong) = some false
  e_Fallen_Fallen : PySem.W.exmOne K (.ref ad.C_Fallen) (.ref ad.C_Fallen) = some true
section
variable {P : Program} {w : World} {K : PySem.W.Frag} {mg : Str → Option Value} {base : Heap} {ad : Ad}
/-! ### the errors' __init__ -/
theorem fo_SetError (T : Txt P K mg ad) : FnOk P w K mg base (L2.CX P w) 1 ad.f_SetError ad.fd_SetError p_SetError (spX 2 (OKv K ad.C_SetError) fsB) := by
  refine sx_base T.S_SetError T.n_super ⟨NdefX.nscope_by (by decide +kernel), rfl, rfl, rfl, rfl, rfl, fun _ _ _ _ => rfl, fun _ _ _ _ => rfl, fun _ _ _ _ => rfl, fun _ _ _ _ => rfl, fun _ _ _ _ => rfl⟩ T.htop (fun A outer s H E => pa_cons (pe_var rfl (Or.inl rfl) (by decide) (by decide)) pa_nil) (fun A outer s H E => ?_)
  exact pss_cons (ps_ost (pe_var rfl (Or.inl rfl) (by decide) (by decide)) (pe_var rfl (Or.inl rfl) (by decide) (by decide))) (pss_one (ps_ost (pe_var rfl (Or.inl rfl) (by decide) (by decide)) (pe_var rfl (Or.inl rfl) (by decide) (by decide))))
theorem fo_BlockWrong (T : Txt P K mg ad) : FnOk P w K mg base (L2.CX P w) 2 ad.f_BlockWrong ad.fd_BlockWrong p_BlockWrong (spX 1 (fun C => SupF K C ad.C_BlockWrong ad.f_SetError ∧ OKv K ad.C_SetError C) (fsS "BlockWrong")) := by
  refine sx_sub T.S_BlockWrong T.n_super ⟨NdefX.nscope_by (by decide +kernel), rfl, rfl, rfl, rfl, rfl, fun _ _ _ _ => rfl, fun _ _ _ _ => rfl, fun _ _ _ _ => rfl, fun _ _ _ _ => rfl, fun _ _ _ _ => rfl⟩ T.htop (fo_SetError T) T.b_SetError (fun A outer s H E => pa_cons (pe_var rfl (Or.inl rfl) (by decide) (by decide)) (pa_cons pe_str pa_nil))
theorem fo_Fallen (T : Txt P K mg ad) : FnOk P w K mg base (L2.CX P w) 2 ad.f_Fallen ad.fd_Fallen p_Fallen (spX 1 (fun C => SupF K C ad.C_Fallen ad.f_SetError ∧ OKv K ad.C_SetError C) (fsS "Fallen")) := by
  refine sx_sub T.S_Fallen T.n_super ⟨NdefX.nscope_by (by decide +kernel), rfl, rfl, rfl, rfl, rfl, fun _ _ _ _ => rfl, fun _ _ _ _ => rfl, fun _ _ _ _ => rfl, fun _ _ _ _ => rfl, fun _ _ _ _ => rfl⟩ T.htop (fo_SetError T) T.b_SetError (fun A outer s H E => pa_cons (pe_var rfl (Or.inl rfl) (by decide) (by decide)) (pa_cons pe_str pa_nil))
end
end K93

namespace K93
open PySem PySem.Spec PyProof.Rows L2 DL
section
variable {P : Program} {w : World} {K : PySem.W.Frag} {mg : Str → Option Value} {base : Heap} {ad : Ad}
/-! ### the draws -/
def drD (xs : List Int) (a b c : Int) : List D := [.lst (xs.map .int), .int a, .int b, .int c]
def DrOk (xs : List Int) (a b : Int) : Prop := 0 ≤ a ∧ a ≤ xs.length ∧ 0 ≤ b
theorem drD_bd {n : Nat} {xs : List Int} {a b c : Int} : MBd n (.lst (drD xs a b c)) := .cons (.lst (bds_ints xs)) (.cons (.int _) (.cons (.int _) (.cons (.int _) .nil)))
def F_draws : FD := fun ds M Qd _ => ∃ ns : List Int, ds = [.scr ns] ∧ Qd (.ptr M.length) (M ++ [.lst (drD ns 0 0 1)])
def F_draw : FD := fun ds M Qd _ => ∃ (k : Nat) (xs : List Int) (a b c lim : Int), ds = [.ptr k, .int lim] ∧ M[k]? = some (.lst (drD xs a b c)) ∧ DrOk xs a b ∧ 0 < lim ∧ lim < 1073741824 ∧
  ∀ a' b' c' v, DrOk xs a' b' → 0 ≤ v → v < lim → Qd (.int v) (M.set k (.lst (drD xs a' b' c')))
/-! _law_draws -/
def w_draws_68 (K : PySem.W.Frag) (ad : Ad) : SW := dRet (dLstB (dCons (dCall wListC (dCons (dVar 0) dNil)) (dCons (dC (.int 0)) (dCons (dC (.int 0)) (dCons (dC (.int 1)) dNil)))))
def w_draws (K : PySem.W.Frag) (ad : Ad) : SW := (w_draws_68 K ad)
theorem y_draws (T : Txt P K mg ad) (E : XK) : DSs (XB P w K mg base n_draws "_law_draws" (defScope s_draws) ad.f_draws 0 E) K (WF E) (defBody s_draws) (w_draws K ad) := by
  unfold w_draws w_draws_68
  exact (dss_one (ds_ret (de_lstB (da_cons (de_callT (dc_list fun _ => rfl) (fun _ => T.n_list) PyProof.Rows.Boot.«list» (da_cons (de_var 0) da_nil)) (da_cons de_int (da_cons de_int (da_cons de_int da_nil)))))))
theorem fo_draws (T : Txt P K mg ad) : FnOk P w K mg base (L2.CX P w) 1 ad.f_draws ad.fd_draws p_draws (spD K 1 F_draws) := by
  refine fn_d T.F_draws sc_draws (y_draws T) fun ds M Qd Xd hl h hw hb => ?_
  obtain ⟨ns, rfl, q⟩ := h
  refine ⟨.scr ns, rfl, .inr ⟨ns, rfl, ?_⟩⟩
  refine ⟨by show 4 ≤ sizeLine; rw [sizeLine_eq]; decide, .inr fun w d => ?_⟩
  exact UpV.all (by simp) w d q
/-! _law_draw -/
def w_draw_74 (K : PySem.W.Frag) (ad : Ad) : SW := dAsg (dVar 2) (dgSet (dVar 0) (dC (.int 2)))
def w_draw_75 (K : PySem.W.Frag) (ad : Ad) : SW := dAsg (dOp wMod (dCall wIntC (dCons (dOp wAdd (dOp wAdd (dOp wMulB (dOp wIx (dVar 0) (dC (.int 3))) (dC (.int 48271))) (dVar 2)) (dC (.int 13))) dNil)) (dC (.int 2147483647))) (dgSet (dVar 0) (dC (.int 3)))
def w_draw_73 (K : PySem.W.Frag) (ad : Ad) : SW := dSeq (dIf (dTest (dOp wGe (dVar 2) (dOp wPow (dC (.int 10)) (dC (.int 18))))) (w_draw_74 K ad) dNext) (w_draw_75 K ad)
def w_draw_72 (K : PySem.W.Frag) (ad : Ad) : SW := dSeq (dAsg (dOp wAdd (dOp wIx (dVar 0) (dC (.int 1))) (dC (.int 1))) (dgSet (dVar 0) (dC (.int 1)))) (w_draw_73 K ad)
def w_draw_71 (K : PySem.W.Frag) (ad : Ad) : SW := dSeq (dAsg (dOp wIx (dOp wIx (dVar 0) (dC (.int 0))) (dOp wIx (dVar 0) (dC (.int 1)))) (dgName 2)) (w_draw_72 K ad)
def w_draw_79 (K : PySem.W.Frag) (ad : Ad) : SW := dRet (dVar 3)
def w_draw_78 (K : PySem.W.Frag) (ad : Ad) : SW := dSeq (dAsg (dOp wDiv (dOp wIx (dVar 0) (dC (.int 2))) (dVar 1)) (dgSet (dVar 0) (dC (.int 2)))) (w_draw_79 K ad)
def w_draw_77 (K : PySem.W.Frag) (ad : Ad) : SW := dSeq (dAsg (dOp wMod (dCall wIntC (dCons (dOp wIx (dVar 0) (dC (.int 2))) dNil)) (dVar 1)) (dgName 3)) (w_draw_78 K ad)
def w_draw_81 (K : PySem.W.Frag) (ad : Ad) : SW := dRet (dOp wMod (dCall wIntC (dCons (dOp wDiv (dOp wIx (dVar 0) (dC (.int 3))) (dC (.int 11))) dNil)) (dVar 1))
def w_draw_80 (K : PySem.W.Frag) (ad : Ad) : SW := dSeq (dAsg (dOp wMod (dCall wIntC (dCons (dOp wAdd (dOp wMulB (dOp wIx (dVar 0) (dC (.int 3))) (dC (.int 69621))) (dC (.int 7))) dNil)) (dC (.int 2147483629))) (dgSet (dVar 0) (dC (.int 3)))) (w_draw_81 K ad)
def w_draw_76 (K : PySem.W.Frag) (ad : Ad) : SW := dSeq (dIf (dTest (dOp wGt (dOp wIx (dVar 0) (dC (.int 2))) (dC (.int 0)))) (w_draw_77 K ad) dNext) (w_draw_80 K ad)
def w_draw_70 (K : PySem.W.Frag) (ad : Ad) : SW := dSeq (dIf (dAnd (dTest (dOp wEqF (dOp wIx (dVar 0) (dC (.int 2))) (dC (.int 0)))) (dTest (dOp wLt (dOp wIx (dVar 0) (dC (.int 1))) (dCall wLen (dCons (dOp wIx (dVar 0) (dC (.int 0))) dNil))))) (w_draw_71 K ad) dNext) (w_draw_76 K ad)
def w_draw (K : PySem.W.Frag) (ad : Ad) : SW := (w_draw_70 K ad)
theorem y_draw (T : Txt P K mg ad) (E : XK) : DSs (XB P w K mg base n_draw "_law_draw" (defScope s_draw) ad.f_draw 0 E) K (WF E) (defBody s_draw) (w_draw K ad) := by
  unfold w_draw w_draw_70 w_draw_76 w_draw_80 w_draw_81 w_draw_77 w_draw_78 w_draw_79 w_draw_71 w_draw_72 w_draw_73 w_draw_75 w_draw_74
  exact (dss_cons (ds_if (dpw_pt (dpw_and (dt_cmp do_eqF (de_ix (fun _ => rfl) (de_var 0) de_int) de_int) (dpw_and1 (dt_cmp do_lt (de_ix (fun _ => rfl) (de_var 0) de_int) (de_callB (dc_len fun _ => rfl) (fun _ => T.n_len) PyProof.Rows.Boot.«len» (da_cons (de_ix (fun _ => rfl) (de_var 0) de_int) da_nil)))))) (dss_cons (ds_set 2 (de_ix (fun _ => rfl) (de_ix (fun _ => rfl) (de_var 0) de_int) (de_ix (fun _ => rfl) (de_var 0) de_int)) (fun _ => sc_draw.nd)) (dss_cons (ds_asg (de_op do_add (de_ix (fun _ => rfl) (de_var 0) de_int) de_int) (dg_set (de_var 0) de_int)) (dss_cons (ds_if (dt_cmp do_ge (de_var 2) (de_op do_powI de_int de_int)) (dss_one (ds_asg (de_var 2) (dg_set (de_var 0) de_int))) dss_nil) (dss_one (ds_asg (de_op do_modI (de_callT dc_int (fun _ => T.n_int) PyProof.Rows.Boot.«int» (da_cons (de_op do_add (de_op do_add (de_op do_mul (de_ix (fun _ => rfl) (de_var 0) de_int) de_int) (de_var 2)) de_int) da_nil)) de_int) (dg_set (de_var 0) de_int)))))) dss_nil) (dss_cons (ds_if (dt_cmp do_gt (de_ix (fun _ => rfl) (de_var 0) de_int) de_int) (dss_cons (ds_set 3 (de_op do_modI (de_callT dc_int (fun _ => T.n_int) PyProof.Rows.Boot.«int» (da_cons (de_ix (fun _ => rfl) (de_var 0) de_int) da_nil)) (de_var 1)) (fun _ => sc_draw.nd)) (dss_cons (ds_asg (de_op do_divI (de_ix (fun _ => rfl) (de_var 0) de_int) (de_var 1)) (dg_set (de_var 0) de_int)) (dss_one (ds_ret (de_var 3))))) dss_nil) (dss_cons (ds_asg (de_op do_modI (de_callT dc_int (fun _ => T.n_int) PyProof.Rows.Boot.«int» (da_cons (de_op do_add (de_op do_mul (de_ix (fun _ => rfl) (de_var 0) de_int) de_int) de_int) da_nil)) de_int) (dg_set (de_var 0) de_int)) (dss_one (ds_ret (de_op do_modI (de_callT dc_int (fun _ => T.n_int) PyProof.Rows.Boot.«int» (da_cons (de_op do_divI (de_ix (fun _ => rfl) (de_var 0) de_int) de_int) da_nil)) (de_var 1)))))))
section
variable {M : Mm} {k : Nat} {xs : List Int} {a b c lim : Int} {Q : DK} {X : XD} {ρ : Ev}
/-- draws[j] -/
theorem r_dr (h : M[k]? = some (.lst (drD xs a b c))) (h0 : ρ[0]? = some (some (.ptr k))) {j : Int} {v : D} (hv : atI (drD xs a b c) j = some v) (q : Q v M) : dOp wIx (dVar 0) (dC (.int j)) ρ M Q X :=
  ⟨_, h0, .inl ⟨_, j, v, sq_at h, rfl, hv, q⟩⟩
/-- draws[j] = .. -/
theorem r_drset {d : D} {xs' : List D} {j : Int} {n : Nat} {P : NK} (h : M[k]? = some (.lst xs')) (h0 : ρ[0]? = some (some (.ptr k))) (hn : ixN xs'.length j = some n) (q : P ρ (M.set k (.lst (xs'.set n d)))) : dgSet (dVar 0) (dC (.int j)) d ρ M P X :=
  ⟨_, h0, k, xs', j, n, rfl, rfl, h, hn, q⟩
end
theorem mod_lt {x m : Int} (h : 0 < m) : 0 ≤ x % m ∧ x % m < m := ⟨Int.emod_nonneg _ (by omega), Int.emod_lt_of_pos _ h⟩
/-- nothing is owed by a list: line 80 on -/
theorem p_draw_80 {M M0 : Mm} {k : Nat} {xs : List Int} {a b c lim : Int} {Qd : DK} {Xd : XD} {d2 d3 : Option D} (hk : M[k]? = some (.lst (drD xs a b c))) (ok : DrOk xs a b) (l0 : 0 < lim) (hl : M0.length ≤ M.length) (q : ∀ a' b' c' v, DrOk xs a' b' → 0 ≤ v → v < lim → Qd (.int v) (M.set k (.lst (drD xs a' b' c')))) :
    w_draw_80 K ad (DsF M0 Qd Xd) [some (.ptr k), some (.int lim), d2, d3] M := by
  refine r_dr hk rfl (v := .int c) rfl ?_
  refine .inl ⟨_, _, rfl, rfl, .inr (by decide), ?_⟩
  refine .inl (.inl ⟨_, _, rfl, rfl, trivial, .inl ⟨_, rfl, ?_⟩⟩)
  refine ⟨_, _, rfl, rfl, (show (0 : Int) < 2147483629 by decide), ?_⟩
  refine r_drset hk rfl (n := 3) rfl ?_
  have hk2 := set_at (m := MO.lst (drD xs a b ((c * 69621 + 7) % 2147483629))) hk
  refine r_dr (c := (c * 69621 + 7) % 2147483629) hk2 rfl (v := .int ((c * 69621 + 7) % 2147483629)) rfl ?_
  refine ⟨_, _, rfl, rfl, ⟨by decide, by decide⟩, .inl ⟨_, rfl, ?_⟩⟩
  refine ⟨_, rfl, _, _, rfl, rfl, l0, fun w d => ?_⟩
  exact UpV.all (by rw [List.length_set]; exact hl) w d (q _ _ _ _ ok (mod_lt l0).1 (mod_lt l0).2)
/-- line 76 on -/
theorem p_draw_76 {M M0 : Mm} {k : Nat} {xs : List Int} {a b c lim : Int} {Qd : DK} {Xd : XD} {d2 d3 : Option D} (hk : M[k]? = some (.lst (drD xs a b c))) (ok : DrOk xs a b) (l0 : 0 < lim) (l1 : lim < 1073741824) (hl : M0.length ≤ M.length) (q : ∀ a' b' c' v, DrOk xs a' b' → 0 ≤ v → v < lim → Qd (.int v) (M.set k (.lst (drD xs a' b' c')))) :
    w_draw_76 K ad (DsF M0 Qd Xd) [some (.ptr k), some (.int lim), d2, d3] M := by
  refine r_dr hk rfl (v := .int b) rfl ?_
  refine ⟨_, _, rfl, rfl, trivial, _, rfl, ifd (fun hb => ?_) fun hb => ?_⟩
  · refine r_dr hk rfl (v := .int b) rfl (.inl ⟨_, rfl, ?_⟩)
    refine ⟨_, rfl, _, _, rfl, rfl, l0, ?_⟩
    refine r_dr hk rfl (v := .int b) rfl ⟨_, rfl, _, _, rfl, rfl, ⟨l0, l1⟩, ?_⟩
    refine r_drset hk rfl (n := 2) rfl ⟨_, rfl, fun w d => ?_⟩
    exact UpV.all (by rw [List.length_set]; exact hl) w d (q a (b / lim) c _ ⟨ok.1, ok.2.1, Int.ediv_nonneg (by omega) (by omega)⟩ (mod_lt l0).1 (mod_lt l0).2)
  · exact p_draw_80 hk ok l0 hl q
theorem fo_draw (T : Txt P K mg ad) : FnOk P w K mg base (L2.CX P w) 1 ad.f_draw ad.fd_draw p_draw (spD K 2 F_draw) := by
  refine fn_d T.F_draw sc_draw (y_draw T) fun ds M Qd Xd hl h hw hb => ?_
  obtain ⟨k, xs, a, b, c, lim, rfl, hk, ok, l0, l1, q⟩ := h
  refine r_dr hk rfl (v := .int b) rfl ⟨_, _, rfl, rfl, rfl, _, rfl, ?_⟩
  rw [dec_ii]
  refine ifd (fun e0 => ?_) fun _ => if_f rfl (p_draw_76 hk ok l0 l1 (Nat.le_refl _) q)
  subst e0
  refine r_dr hk rfl (v := .int a) rfl ?_
  refine r_dr hk rfl (v := .lst (xs.map .int)) rfl (.inl ⟨_, _, rfl, rfl, ?_⟩)
  refine ⟨_, _, rfl, rfl, trivial, _, rfl, ifd (fun ha => ?_) fun _ => p_draw_76 hk ok l0 l1 (Nat.le_refl _) q⟩
  rw [List.length_map] at ha
  obtain ⟨i, rfl⟩ := Int.eq_ofNat_of_zero_le ok.1
  have hi : i < xs.length := by omega
  -- cell
  refine r_dr hk rfl (v := .lst (xs.map .int)) rfl ?_
  refine r_dr hk rfl (v := .int i) rfl (.inl ⟨_, _, .int xs[i], rfl, rfl, at_map rfl (List.getElem?_eq_getElem hi), ?_⟩)
  -- draws[1]
  refine r_dr hk rfl (v := .int i) rfl ?_
  refine .inl (.inl ⟨_, _, rfl, rfl, trivial, ?_⟩)
  refine r_drset hk rfl (n := 1) rfl ?_
  have hk1 : (M.set k (.lst (drD xs (i + 1) 0 c)))[k]? = some (.lst (drD xs (i + 1) 0 c)) := set_at hk
  have ok1 : DrOk xs (i + 1) 0 := ⟨by omega, by omega, by decide⟩
  -- draws[3]
  have go : ∀ (b' : Int), 0 ≤ b' → w_draw_75 K ad { DsF M Qd Xd with nx := fun ρ' M' => w_draw_76 K ad (DsF M Qd Xd) ρ' M' } [some (.ptr k), some (.int lim), some (.int xs[i]), none] (M.set k (.lst (drD xs (i + 1) b' c))) := fun b' hb' => by
    have hk2 : (M.set k (.lst (drD xs (i + 1) b' c)))[k]? = some (.lst (drD xs (i + 1) b' c)) := set_at hk
    refine r_dr hk2 rfl (v := .int c) rfl ?_
    refine .inl ⟨_, _, rfl, rfl, .inr (by decide), ⟨_, rfl, ?_⟩⟩
    refine .inl (.inl ⟨_, _, rfl, rfl, trivial, ?_⟩)
    refine .inl (.inl ⟨_, _, rfl, rfl, trivial, .inl ⟨_, rfl, ?_⟩⟩)
    refine ⟨_, _, rfl, rfl, (show (0 : Int) < 2147483647 by decide), ?_⟩
    refine r_drset hk2 rfl (n := 3) rfl ?_
    rw [List.set_set]
    refine p_draw_76 (set_at hk) ⟨by omega, by omega, hb'⟩ l0 l1 (by rw [List.length_set]; exact Nat.le_refl _) fun a' b' c' v o v0 v1 => ?_
    rw [List.set_set]
    exact q a' b' c' v o v0 v1
  refine ⟨_, rfl, _, _, rfl, rfl, ⟨by decide, by decide, by decide⟩, ?_⟩
  refine ⟨_, _, rfl, rfl, trivial, _, rfl, ifd (fun hc => ?_) fun _ => go 0 (by decide)⟩
  refine ⟨_, rfl, r_drset hk1 rfl (n := 2) rfl ?_⟩
  rw [List.set_set]
  refine go xs[i] ?_
  have e : (10 : Int) ^ (18 : Int).toNat = 1000000000000000000 := by decide
  rw [e] at hc
  omega

end
end K93

namespace K93
open PySem PySem.Spec PyProof.Rows L2 DL
section
variable {P : Program} {w : World} {K : PySem.W.Frag} {mg : Str → Option Value} {base : Heap} {ad : Ad}
/-! ### the same -/
/-- the same data, n levels deep -/
def Sm (M : Mm) : Nat → D → D → Prop
  | 0, d, e => d = e ∧ ∃ x, vOf d = some x
  | n + 1, d, e => (d = e ∧ ∃ x, vOf d = some x) ∨ ∃ xs ys, ((lsOf M d = some xs ∧ lsOf M e = some ys) ∨ (d = .tup xs ∧ e = .tup ys)) ∧ xs.length = ys.length ∧ ys.length < 1000000 ∧ ∀ (i : Nat) (x y : D), xs[i]? = some x → ys[i]? = some y → Sm M n x y
def F_same (n : Nat) : FD := fun ds M Qd _ => ∃ x due, ds = [x, due] ∧ Sm M n x due ∧ Qd (.bl true) M
/-- what a level may ask of itself -/
def F_below : Nat → FD
  | 0 => fun _ _ _ _ => False
  | n + 1 => F_same n
theorem fo_none {k : Nat} {f : Addr} {fd : FuncData} {ps : List Str} : FnOk P w K mg base (L2.CX P w) k f fd ps (spD K ps.length (fun _ _ _ _ => False)) :=
  ⟨fun _ _ _ _ h => h.1, fun _ _ _ _ _ _ _ _ _ _ _ _ _ h => by
    obtain ⟨_, _, _, _, _, _, _, _, _, z, _⟩ := h
    exact z.elim⟩
/-! _law_same -/
def w_same_84 (K : PySem.W.Frag) (ad : Ad) (F : FD) : SW := dRet (dOp wIsN (dVar 0) (dC .non))
def w_same_86 (K : PySem.W.Frag) (ad : Ad) (F : FD) : SW := dRet (dAndV (dCall wIsi (dCons (dVar 0) (dCons (dC (.ty "bool")) dNil))) (dOp wEqF (dVar 0) (dVar 1)))
def w_same_88 (K : PySem.W.Frag) (ad : Ad) (F : FD) : SW := dRet (dAndV (dCall wIsi (dCons (dVar 0) (dCons (dC (.ty "int")) dNil))) (dAndV (dNotV (dCall wIsi (dCons (dVar 0) (dCons (dC (.ty "bool")) dNil)))) (dOp wEqF (dVar 0) (dVar 1))))
def w_same_90 (K : PySem.W.Frag) (ad : Ad) (F : FD) : SW := dRet (dAndV (dCall wIsi (dCons (dVar 0) (dCons (dC (.ty "str")) dNil))) (dOp wEqF (dVar 0) (dVar 1)))
def w_same_96 (K : PySem.W.Frag) (ad : Ad) (F : FD) : SW := dAsg (dCall wIsi (dCons (dVar 0) (dCons (dC (.ty "list")) dNil))) (dgName 3)
def w_same_98 (K : PySem.W.Frag) (ad : Ad) (F : FD) : SW := dAsg (dCall wIsi (dCons (dVar 0) (dCons (dC (.ty "tuple")) dNil))) (dgName 3)
def w_same_99 (K : PySem.W.Frag) (ad : Ad) (F : FD) : SW := dRet (dAndV (dVar 3) (dAndV (dOp wEqF (dCall wLen (dCons (dVar 0) dNil)) (dCall wLen (dCons (dVar 1) dNil))) (dCall wAll (dCons (dSoE (dLc (diRng1 (dCall wLen (dCons (dVar 1) dNil))) 4 dYes (dCallS 2 F (dCons (dOp wIx (dVar 0) (dVar 4)) (dCons (dOp wIx (dVar 1) (dVar 4)) dNil))))) dNil))))
def w_same_95 (K : PySem.W.Frag) (ad : Ad) (F : FD) : SW := dSeq (dIf (dTest (dCall wIsi (dCons (dVar 1) (dCons (dC (.ty "list")) dNil)))) (w_same_96 K ad F) (w_same_98 K ad F)) (w_same_99 K ad F)
def w_same_91 (K : PySem.W.Frag) (ad : Ad) (F : FD) : SW := dSeq (dIf (dTest (dCall wIsi (dCons (dVar 1) (dCons (dC (.ty "dict")) dNil)))) (fun _ _ _ => False) dNext) (w_same_95 K ad F)
def w_same_89 (K : PySem.W.Frag) (ad : Ad) (F : FD) : SW := dSeq (dIf (dTest (dCall wIsi (dCons (dVar 1) (dCons (dC (.ty "str")) dNil)))) (w_same_90 K ad F) dNext) (w_same_91 K ad F)
def w_same_87 (K : PySem.W.Frag) (ad : Ad) (F : FD) : SW := dSeq (dIf (dTest (dCall wIsi (dCons (dVar 1) (dCons (dC (.ty "int")) dNil)))) (w_same_88 K ad F) dNext) (w_same_89 K ad F)
def w_same_85 (K : PySem.W.Frag) (ad : Ad) (F : FD) : SW := dSeq (dIf (dTest (dCall wIsi (dCons (dVar 1) (dCons (dC (.ty "bool")) dNil)))) (w_same_86 K ad F) dNext) (w_same_87 K ad F)
def w_same_83 (K : PySem.W.Frag) (ad : Ad) (F : FD) : SW := dSeq (dIf (dTest (dOp wIsN (dVar 1) (dC .non))) (w_same_84 K ad F) dNext) (w_same_85 K ad F)
def w_same (K : PySem.W.Frag) (ad : Ad) (F : FD) : SW := (w_same_83 K ad F)
theorem y_same {F : FD} {n : Nat} (Fo : FnOk P w K mg base (L2.CX P w) n ad.f_same ad.fd_same p_same (spD K 2 F)) (T : Txt P K mg ad) (E : XK) : DSs (XB P w K mg base n_same "_law_same" (defScope s_same) ad.f_same n E) K (WF E) (defBody s_same) (w_same K ad F) := by
  unfold w_same w_same_83 w_same_85 w_same_87 w_same_89 w_same_91 w_same_95 w_same_99 w_same_98 w_same_96 w_same_90 w_same_88 w_same_86 w_same_84
  exact (dss_cons (ds_if (dt_cmp do_isN (de_var 1) de_non) (dss_one (ds_ret (de_cmp do_isN (de_var 0) de_non))) dss_nil) (dss_cons (ds_if (dt_val (de_callB (dc_isi fun _ => rfl) (fun _ => T.n_isinstance) PyProof.Rows.Boot.«isinstance» (da_cons (de_var 1) (da_cons (de_bty (fun _ => T.n_bool) PyProof.Rows.Boot.«bool») da_nil)))) (dss_one (ds_ret (de_and (de_callB (dc_isi fun _ => rfl) (fun _ => T.n_isinstance) PyProof.Rows.Boot.«isinstance» (da_cons (de_var 0) (da_cons (de_bty (fun _ => T.n_bool) PyProof.Rows.Boot.«bool») da_nil))) (de_one (de_cmp do_eqF (de_var 0) (de_var 1)))))) dss_nil) (dss_cons (ds_if (dt_val (de_callB (dc_isi fun _ => rfl) (fun _ => T.n_isinstance) PyProof.Rows.Boot.«isinstance» (da_cons (de_var 1) (da_cons (de_bty (fun _ => T.n_int) PyProof.Rows.Boot.«int») da_nil)))) (dss_one (ds_ret (de_and (de_callB (dc_isi fun _ => rfl) (fun _ => T.n_isinstance) PyProof.Rows.Boot.«isinstance» (da_cons (de_var 0) (da_cons (de_bty (fun _ => T.n_int) PyProof.Rows.Boot.«int») da_nil))) (de_and (de_not (de_callB (dc_isi fun _ => rfl) (fun _ => T.n_isinstance) PyProof.Rows.Boot.«isinstance» (da_cons (de_var 0) (da_cons (de_bty (fun _ => T.n_bool) PyProof.Rows.Boot.«bool») da_nil)))) (de_one (de_cmp do_eqF (de_var 0) (de_var 1))))))) dss_nil) (dss_cons (ds_if (dt_val (de_callB (dc_isi fun _ => rfl) (fun _ => T.n_isinstance) PyProof.Rows.Boot.«isinstance» (da_cons (de_var 1) (da_cons (de_bty (fun _ => T.n_str) PyProof.Rows.Boot.«str») da_nil)))) (dss_one (ds_ret (de_and (de_callB (dc_isi fun _ => rfl) (fun _ => T.n_isinstance) PyProof.Rows.Boot.«isinstance» (da_cons (de_var 0) (da_cons (de_bty (fun _ => T.n_str) PyProof.Rows.Boot.«str») da_nil))) (de_one (de_cmp do_eqF (de_var 0) (de_var 1)))))) dss_nil) (dss_cons (ds_if (dt_val (de_callB (dc_isi fun _ => rfl) (fun _ => T.n_isinstance) PyProof.Rows.Boot.«isinstance» (da_cons (de_var 1) (da_cons (de_bty (fun _ => T.n_dict) PyProof.Rows.Boot.«dict») da_nil)))) dss_dead dss_nil) (dss_cons (ds_if (dt_val (de_callB (dc_isi fun _ => rfl) (fun _ => T.n_isinstance) PyProof.Rows.Boot.«isinstance» (da_cons (de_var 1) (da_cons (de_bty (fun _ => T.n_list) PyProof.Rows.Boot.«list») da_nil)))) (dss_one (ds_set 3 (de_callB (dc_isi fun _ => rfl) (fun _ => T.n_isinstance) PyProof.Rows.Boot.«isinstance» (da_cons (de_var 0) (da_cons (de_bty (fun _ => T.n_list) PyProof.Rows.Boot.«list») da_nil))) (fun _ => sc_same.nd))) (dss_one (ds_set 3 (de_callB (dc_isi fun _ => rfl) (fun _ => T.n_isinstance) PyProof.Rows.Boot.«isinstance» (da_cons (de_var 0) (da_cons (de_bty (fun _ => T.n_tuple) PyProof.Rows.Boot.«tuple») da_nil))) (fun _ => sc_same.nd)))) (dss_one (ds_ret (de_and (de_var 3) (de_and (de_cmp do_eqF (de_callB (dc_len fun _ => rfl) (fun _ => T.n_len) PyProof.Rows.Boot.«len» (da_cons (de_var 0) da_nil)) (de_callB (dc_len fun _ => rfl) (fun _ => T.n_len) PyProof.Rows.Boot.«len» (da_cons (de_var 1) da_nil))) (de_one (de_callB (dc_all (fun _ => rfl) fun _ => rfl) (fun _ => T.n_all) PyProof.Rows.Boot.«all» (da_cons (de_so (de_lc 4 (fun _ => rfl) (fun _ => sc_same.nd) (di_rng1 (fun _ => T.n_range) (de_callB (dc_len fun _ => rfl) (fun _ => T.n_len) PyProof.Rows.Boot.«len» (da_cons (de_var 1) da_nil))) (fun _ => blkOk_by (own := [("at", 4)]) (N := n_same) (sc := defScope s_same) (by decide +kernel)) (fun _ => pg_name (i := 4) sc_same.nd rfl (Or.inl rfl)) dts_nil (de_callS (fun _ => Fo) (fun i => (xb_room (P := P) (w := w) (K := K) (mg := mg) (base := base) (N := n_same) (E := E) i.1).mono (Nat.le_refl _)) (fun _ => takes0) (fun _ => T.g_same) (fun _ => T.F_same.kp) (fun _ => T.b_same) (da_cons (de_ix (fun _ => rfl) (de_var 0) (de_var 4)) (da_cons (de_ix (fun _ => rfl) (de_var 1) (de_var 4)) da_nil))))) da_nil)))))))))))))
theorem ls_ty {M : Mm} {d : D} {xs : List D} (h : lsOf M d = some xs) : tyD M d = some .list := by
  cases d with
  | lst ys => rfl
  | ptr k =>
    unfold lsOf at h
    unfold tyD
    dsimp only at h ⊢
    cases e : M[k]? with
    | none => rw [e] at h; cases h
    | some m =>
      rw [e] at h
      cases m with
      | lst ys => rfl
      | _ => cases h
  | _ => cases h
theorem ls_sq {M : Mm} {d : D} {xs : List D} (h : lsOf M d = some xs) : sqOf M d = some xs := by
  cases d with
  | tup ys => cases h
  | _ => exact h
theorem ls_app {M t : Mm} {d : D} {xs : List D} (h : lsOf M d = some xs) : lsOf (M ++ t) d = some xs := by
  cases d with
  | lst ys => exact h
  | ptr k =>
    unfold lsOf at h ⊢
    dsimp only at h ⊢
    cases e : M[k]? with
    | none => rw [e] at h; cases h
    | some m => rw [e] at h; rw [app_at e]; exact h
  | _ => cases h
theorem sm_app {M t : Mm} : ∀ {n : Nat} {x y : D}, Sm M n x y → Sm (M ++ t) n x y
  | 0, _, _, h => (show _ ∧ _ from h)
  | n + 1, _, _, h => by
    rcases h with h | ⟨xs, ys, h1, h2, h3, h4⟩
    · exact .inl h
    · refine .inr ⟨xs, ys, ?_, h2, h3, fun i x y a b => sm_app (h4 i x y a b)⟩
      rcases h1 with ⟨a, b⟩ | h1
      · exact .inl ⟨ls_app a, ls_app b⟩
      · exact .inr h1
theorem at_map' {α : Type} {xs : List α} {j : Nat} {x : α} (h : xs[j]? = some x) : atI xs (0 + (j : Int)) = some x := by
  rw [Int.zero_add]
  exact at_nat h
theorem non_not {M : Mm} {d : D} {t : Ty} (h : tyD M d = some t) (ht : t ≠ .none) : isNon d = false := by
  cases d with
  | non => exact absurd (Option.some.inj h).symm ht
  | _ => rfl
/-- isinstance(.., T) within the text -/
theorem r_isi {M : Mm} {ρ : Ev} {Q : DK} {X : XD} {i : Nat} {d : D} {t : Ty} (k : Ty) {nm : String} (hn : nm = Ty.nm k) (h : ρ[i]? = some (some d)) (ht : tyD M d = some t) (q : Q (.bl (isa t k)) M) : dCall wIsi (dCons (dVar i) (dCons (dC (.ty nm)) dNil)) ρ M Q X := by
  subst hn
  exact ⟨d, h, d, t, k, rfl, ht, q⟩
/-- the part for lists and tuples -/
theorem p_same_99 {M M0 : Mm} {n : Nat} {x due : D} {xs ys : List D} {Qd : DK} {Xd : XD} {d2 d4 : Option D} (hw : Wf M.length M) (hl : M0.length ≤ M.length) (hx : sqOf M x = some xs) (hy : sqOf M due = some ys) (e : xs.length = ys.length) (hs : ys.length < 1000000)
    (hxa : ∀ t, sqOf (M ++ t) x = some xs) (hya : ∀ t, sqOf (M ++ t) due = some ys) (h : ∀ (i : Nat) (x y : D), xs[i]? = some x → ys[i]? = some y → Sm M n x y) (q : Qd (.bl true) M) :
    w_same_99 K ad (F_same n) (DsF M0 Qd Xd) [some x, some due, d2, some (.bl true), d4] M := by
  refine ⟨.bl true, rfl, true, rfl, if_t rfl ?_⟩
  refine ⟨x, rfl, .inl ⟨x, xs, rfl, hx, ?_⟩⟩
  refine ⟨due, rfl, .inl ⟨due, ys, rfl, hy, ?_⟩⟩
  refine ⟨_, _, rfl, rfl, rfl, _, rfl, if_t (by rw [dec_ii, e]; simp) ?_⟩
  intro hw' hev
  refine ⟨due, rfl, .inl ⟨due, ys, rfl, hy, ?_⟩⟩
  refine ⟨_, rfl, by omega, by omega, ?_⟩
  refine lc_map (fun _ _ => .bl true) hw (fun _ => trivial) ?_ (fun _ _ _ => .bl true) ?_ (.inl ?_)
  · show (rng 0 _).length < sizeLine
    unfold rng
    rw [List.length_map, List.length_range, sizeLine_eq]
    omega
  · intro j d acc Q' hd q'
    unfold rng at hd
    rw [List.getElem?_map] at hd
    have hj : j < ys.length := by
      by_cases hj : j < ys.length
      · exact hj
      · rw [List.getElem?_eq_none (by rw [List.length_range]; omega)] at hd
        cases hd
    rw [List.getElem?_range (by omega)] at hd
    have ed := Option.some.inj hd
    subst ed
    have hj' : j < xs.length := by omega
    refine ⟨x, rfl, _, rfl, .inl ⟨xs, _, xs[j], hxa _, rfl, at_map' (List.getElem?_eq_getElem hj'), ?_⟩⟩
    refine ⟨due, rfl, _, rfl, .inl ⟨ys, _, ys[j], hya _, rfl, at_map' (List.getElem?_eq_getElem hj), ?_⟩⟩
    exact ⟨rfl, _, _, rfl, sm_app (h j _ _ (List.getElem?_eq_getElem hj') (List.getElem?_eq_getElem hj)), q'⟩
  · refine ⟨_, List.replicate ys.length true, rfl, ?_, fun w d => ?_⟩
    · show some _ = some _
      congr 1
      apply List.ext_getElem?
      intro i
      rw [List.getElem?_mapIdx, List.getElem?_map, List.getElem?_replicate]
      unfold rng
      by_cases hi : i < ys.length
      · rw [if_pos hi, List.getElem?_map, List.getElem?_range (by omega)]
        rfl
      · rw [if_neg hi, List.getElem?_map, List.getElem?_eq_none (by rw [List.length_range]; omega)]
        rfl
    · have ea : (List.replicate ys.length true).all id = true := by simp
      rw [ea] at d ⊢
      exact UpV.all hl w d q
theorem p_same_lst {M M0 : Mm} {n : Nat} {x due : D} {xs ys : List D} {Qd : DK} {Xd : XD} (hw : Wf M.length M) (hl : M0.length ≤ M.length) (h1 : (lsOf M x = some xs ∧ lsOf M due = some ys) ∨ (x = .tup xs ∧ due = .tup ys)) (e : xs.length = ys.length) (hs : ys.length < 1000000)
    (h : ∀ (i : Nat) (x y : D), xs[i]? = some x → ys[i]? = some y → Sm M n x y) (q : Qd (.bl true) M) : w_same K ad (F_same n) (DsF M0 Qd Xd) [some x, some due, none, none, none] M := by
  have ht : ∃ t : Ty, (t = .list ∨ t = .tuple) ∧ tyD M due = some t ∧ tyD M x = some t := by
    rcases h1 with ⟨a, b⟩ | ⟨rfl, rfl⟩
    · exact ⟨.list, .inl rfl, ls_ty b, ls_ty a⟩
    · exact ⟨.tuple, .inr rfl, rfl, rfl⟩
  obtain ⟨t, tt, td, tx⟩ := ht
  have hx : ∀ t, sqOf (M ++ t) x = some xs := fun t => by
    rcases h1 with ⟨a, b⟩ | ⟨rfl, rfl⟩
    · exact ls_sq (ls_app a)
    · rfl
  have hy : ∀ t, sqOf (M ++ t) due = some ys := fun t => by
    rcases h1 with ⟨a, b⟩ | ⟨rfl, rfl⟩
    · exact ls_sq (ls_app b)
    · rfl
  have hx0 := hx []
  have hy0 := hy []
  rw [List.append_nil] at hx0 hy0
  have nt : t ≠ .none := by rcases tt with rfl | rfl <;> decide
  have go : ∀ d4, w_same_99 K ad (F_same n) (DsF M0 Qd Xd) [some x, some due, none, some (.bl true), d4] M := fun d4 => p_same_99 hw hl hx0 hy0 e hs hx hy h q
  refine ⟨due, rfl, rfl, _, rfl, if_f (non_not td nt) ?_⟩
  refine r_isi .bool rfl rfl td ⟨_, rfl, if_f (by rcases tt with rfl | rfl <;> rfl) ?_⟩
  refine r_isi .int rfl rfl td ⟨_, rfl, if_f (by rcases tt with rfl | rfl <;> rfl) ?_⟩
  refine r_isi .str rfl rfl td ⟨_, rfl, if_f (by rcases tt with rfl | rfl <;> rfl) ?_⟩
  refine r_isi .dict rfl rfl td ⟨_, rfl, if_f (by rcases tt with rfl | rfl <;> rfl) ?_⟩
  rcases tt with rfl | rfl
  · refine r_isi .list rfl rfl td ⟨_, rfl, if_t rfl ?_⟩
    exact r_isi .list rfl rfl tx (go _)
  · refine r_isi .list rfl rfl td ⟨_, rfl, if_f rfl ?_⟩
    exact r_isi .tuple rfl rfl tx (go _)
theorem p_same_flat {M M0 : Mm} {F : FD} {x : D} {v : V} {Qd : DK} {Xd : XD} (hl : M0.length ≤ M.length) (hv : vOf x = some v) (q : Qd (.bl true) M) : w_same K ad F (DsF M0 Qd Xd) [some x, some x, none, none, none] M := by
  have fin : ∀ b, b = true → (DsF M0 Qd Xd).rt (.bl b) M := fun b e => by
    subst e
    exact fun w d => UpV.all hl w d q
  cases x with
  | non => exact ⟨_, rfl, rfl, _, rfl, if_t rfl ⟨_, rfl, rfl, fin _ rfl⟩⟩
  | bl b =>
    refine ⟨_, rfl, rfl, _, rfl, if_f rfl ?_⟩
    refine r_isi .bool rfl rfl rfl ⟨_, rfl, if_t rfl ?_⟩
    refine r_isi .bool rfl rfl rfl ⟨_, rfl, if_t rfl ?_⟩
    exact ⟨_, rfl, _, rfl, _, _, rfl, rfl, rfl, fin _ (by simp)⟩
  | int i =>
    refine ⟨_, rfl, rfl, _, rfl, if_f rfl ?_⟩
    refine r_isi .bool rfl rfl rfl ⟨_, rfl, if_f rfl ?_⟩
    refine r_isi .int rfl rfl rfl ⟨_, rfl, if_t rfl ?_⟩
    refine r_isi .int rfl rfl rfl ⟨_, rfl, if_t rfl ?_⟩
    refine r_isi .bool rfl rfl rfl ⟨_, rfl, ⟨_, rfl, if_t rfl ?_⟩⟩
    exact ⟨_, rfl, _, rfl, _, _, rfl, rfl, rfl, fin _ (by simp)⟩
  | str i =>
    refine ⟨_, rfl, rfl, _, rfl, if_f rfl ?_⟩
    refine r_isi .bool rfl rfl rfl ⟨_, rfl, if_f rfl ?_⟩
    refine r_isi .int rfl rfl rfl ⟨_, rfl, if_f rfl ?_⟩
    refine r_isi .str rfl rfl rfl ⟨_, rfl, if_t rfl ?_⟩
    refine r_isi .str rfl rfl rfl ⟨_, rfl, if_t rfl ?_⟩
    exact ⟨_, rfl, _, rfl, _, _, rfl, rfl, rfl, fin _ (by simp)⟩
  | _ => cases hv
theorem fo_same (T : Txt P K mg ad) : ∀ n : Nat, FnOk P w K mg base (L2.CX P w) (n + 1) ad.f_same ad.fd_same p_same (spD K 2 (F_same n))
  | 0 => by
    refine fn_d T.F_same sc_same (y_same (F := fun _ _ _ _ => False) fo_none T) fun ds M Qd Xd hl h hw hb => ?_
    obtain ⟨x, due, rfl, ⟨rfl, v, hv⟩, q⟩ := h
    exact p_same_flat (Nat.le_refl _) hv q
  | n + 1 => by
    refine fn_d T.F_same sc_same (y_same (F := F_same n) (fo_same T n) T) fun ds M Qd Xd hl h hw hb => ?_
    obtain ⟨x, due, rfl, h, q⟩ := h
    rcases h with ⟨rfl, v, hv⟩ | ⟨xs, ys, h1, h2, h3, h4⟩
    · exact p_same_flat (Nat.le_refl _) hv q
    · exact p_same_lst hw (Nat.le_refl _) h1 h2 h3 h4 q

end
end K93

namespace K93
open PySem PySem.Spec PyProof.Rows L2 DL
section
variable {P : Program} {w : World} {K : PySem.W.Frag} {mg : Str → Option Value} {base : Heap} {ad : Ad}
/-! ### what a tape holds -/
abbrev Fr := List (Int × Str)
def leftD : Option Int → D
  | none => .non
  | some i => .int i
def frK (l : Fr) : List (Key × D) := l.map fun p => (.inl p.1, .str p.2)
def tpF (many : Int) (s f : Nat) (left : Option Int) (kept : List Int) : List (Str × D) := [("many", .int many), ("safe", .ptr s), ("fresh", .ptr f), ("left", leftD left), ("kept", .lst (kept.map .int))]
structure TSt where
  (many : Int) (safe : List Str) (fresh : Fr) (left : Option Int) (kept : List Int)
structure TOk (z : TSt) : Prop where
  m0 : 0 ≤ z.many
  m1 : z.many ≤ 1000
  len : (z.safe.length : Int) = z.many
  keys : ∀ p ∈ z.fresh, 0 ≤ p.1 ∧ p.1 < z.many
  nd : (z.fresh.map (·.1)).Nodup
  few : z.fresh.length ≤ 1000
structure TAt (ad : Ad) (M : Mm) (t s f : Nat) (z : TSt) : Prop where
  o : M[t]? = some (.ins ad.C_Tape (tpF z.many s f z.left z.kept))
  s : M[s]? = some (.lst (z.safe.map .str))
  f : M[f]? = some (.dK (frK z.fresh))
def sp1 : Str := Txt.mul " " 64
/-- what falls -/
def stp (kept : List Int) (s : List Str) (p : Int × Str) : List Str := if p.1 ∈ kept then s.set p.1.toNat p.2 else s
def fallA (l : Fr) (kept : List Int) (safe : List Str) : List Str := l.foldl (stp kept) safe
def allA (l : Fr) (safe : List Str) : List Str := l.foldl (fun s p => s.set p.1.toNat p.2) safe
def cnt (l : Fr) (kept : List Int) : Int := (l.filter fun p => decide (p.1 ∈ kept)).length
def putA (l : Fr) (i : Int) (x : Str) : Fr := if (l.any fun p => decide (p.1 = i)) = true then l.map (fun p => if p.1 = i then (p.1, x) else p) else l ++ [(i, x)]
def rdA (l : Fr) (safe : List Str) (i : Int) : Option Str := match l.find? fun p => decide (p.1 = i) with
  | some p => some p.2
  | none => safe[i.toNat]?
theorem key_eq {a b : Int} : ((Sum.inl a : Key) = Sum.inl b) ↔ a = b := ⟨fun h => by cases h; rfl, fun h => by rw [h]⟩
theorem frK_put (l : Fr) (i : Int) (x : Str) : putD (frK l) (.inl i) (.str x) = frK (putA l i x) := by
  unfold putD putA frK
  have ea : ((l.map fun p => ((Sum.inl p.1 : Key), D.str p.2)).any fun kv => decide (kv.1 = .inl i)) = l.any fun p => decide (p.1 = i) := by
    rw [List.any_map]
    congr 1
    funext p
    simp [Function.comp, key_eq]
  rw [ea]
  split
  · rw [List.map_map, List.map_map]
    congr 1
    funext p
    by_cases hp : p.1 = i
    · simp [Function.comp, hp]
    · simp [Function.comp, hp, key_eq]
  · simp
theorem frK_val (l : Fr) (i : Int) : valD (frK l) (.inl i) = (l.find? fun p => decide (p.1 = i)).map fun p => .str p.2 := by
  unfold valD frK
  rw [List.find?_map, Option.map_map]
  congr 1
  congr 1
  funext p
  simp [Function.comp, key_eq]
theorem find_nd {l : Fr} (nd : (l.map (·.1)).Nodup) {p : Int × Str} (h : p ∈ l) : (l.find? fun q => decide (q.1 = p.1)) = some p := by
  induction l with
  | nil => cases h
  | cons a l ih =>
    rw [List.map_cons, List.nodup_cons] at nd
    rcases List.mem_cons.mp h with rfl | h
    · simp
    · have na : a.1 ≠ p.1 := fun e => nd.1 (by rw [e]; exact List.mem_map_of_mem h)
      rw [List.find?_cons_of_neg (by simpa using na)]
      exact ih nd.2 h
theorem frK_drop (l : Fr) (i : Int) : dropD (frK l) (.inl i) = frK (l.filter fun p => decide (p.1 ≠ i)) := by
  unfold dropD frK
  rw [List.filter_map]
  congr 1
  congr 1
  funext p
  simp [Function.comp, key_eq]
theorem putA_keys (l : Fr) (i : Int) (x : Str) : (putA l i x).map (·.1) = if (l.any fun p => decide (p.1 = i)) = true then l.map (·.1) else l.map (·.1) ++ [i] := by
  unfold putA
  split
  · rw [List.map_map]
    congr 1
    funext p
    by_cases hp : p.1 = i <;> simp [Function.comp, hp]
  · simp
theorem putA_nd {l : Fr} (nd : (l.map (·.1)).Nodup) (i : Int) (x : Str) : ((putA l i x).map (·.1)).Nodup := by
  rw [putA_keys]
  split
  · exact nd
  · rename_i h
    rw [List.nodup_append]
    refine ⟨nd, by simp, fun a ha b hb => ?_⟩
    have eb : b = i := by simpa using hb
    subst eb
    intro e
    subst e
    refine h (List.any_eq_true.mpr ?_)
    obtain ⟨p, hp, rfl⟩ := List.mem_map.mp ha
    exact ⟨p, hp, by simp⟩
theorem putA_mem {l : Fr} {i : Int} {x : Str} {p : Int × Str} (h : p ∈ putA l i x) : p.1 = i ∨ p ∈ l := by
  unfold putA at h
  split at h
  · obtain ⟨q, hq, rfl⟩ := List.mem_map.mp h
    by_cases hp : q.1 = i
    · rw [if_pos hp]
      exact .inl hp
    · rw [if_neg hp]
      exact .inr hq
  · rcases List.mem_append.mp h with h | h
    · exact .inr h
    · have e : p = (i, x) := by simpa using h
      rw [e]
      exact .inl rfl
theorem putA_len (l : Fr) (i : Int) (x : Str) : (putA l i x).length ≤ l.length + 1 := by
  unfold putA
  split
  · rw [List.length_map]
    omega
  · simp
theorem fallA_len (kept : List Int) : ∀ (l : Fr) (s : List Str), (fallA l kept s).length = s.length
  | [], s => rfl
  | p :: l, s => by
    show (fallA l kept (stp kept s p)).length = _
    rw [fallA_len]
    unfold stp
    split
    · rw [List.length_set]
    · rfl
theorem allA_len : ∀ (l : Fr) (s : List Str), (allA l s).length = s.length
  | [], s => rfl
  | p :: l, s => by
    show (allA l (s.set p.1.toNat p.2)).length = _
    rw [allA_len, List.length_set]
theorem take_next {α : Type} {l : List α} {j : Nat} {x : α} (h : l[j]? = some x) : l.take (j + 1) = l.take j ++ [x] := by rw [List.take_add_one, h]; rfl
theorem fallA_next {l : Fr} {kept : List Int} {s : List Str} {j : Nat} {p : Int × Str} (h : l[j]? = some p) : fallA (l.take (j + 1)) kept s = stp kept (fallA (l.take j) kept s) p := by
  unfold fallA
  rw [take_next h, List.foldl_append]
  rfl
theorem allA_next {l : Fr} {s : List Str} {j : Nat} {p : Int × Str} (h : l[j]? = some p) : allA (l.take (j + 1)) s = (allA (l.take j) s).set p.1.toNat p.2 := by
  unfold allA
  rw [take_next h, List.foldl_append]
  rfl
theorem mapM_ints : ∀ l : List Int, (l.map D.int).mapM vOf = some (l.map V.int)
  | [] => rfl
  | i :: l => by
    rw [List.map_cons, List.mapM_cons, mapM_ints l]
    rfl
theorem inV_ints (k : Int) : ∀ l : List Int, inV (.int k) (l.map V.int) = decide (k ∈ l)
  | [] => by simp [inV]
  | i :: l => by
    have ih := inV_ints k l
    unfold inV at ih ⊢
    rw [List.map_cons, List.any_cons, ih]
    show ((i == k) || decide (k ∈ l)) = _
    by_cases h : i = k
    · subst h; simp
    · have h' : ¬ k = i := fun z => h z.symm
      simp [h, h']
theorem mulok1 {x : Str} {n : Int} (hx : x.length = 1) (h0 : 0 ≤ n) (h1 : n ≤ 1000) : MulOk x n := by
  unfold MulOk
  rw [hx]
  refine ⟨?_, fun h2 h3 => ?_, fun h2 h3 => ?_⟩
  · rw [decide_eq_false (by omega), decide_eq_false (by omega)]
    rfl
  · have : (1000 : Int) ≤ (2 ^ 63 - 1) / n := by
      rw [Int.le_ediv_iff_mul_le (by omega)]
      omega
    omega
  · show decide (1 * n.toNat > sizeLine) = false
    rw [sizeLine_eq]
    exact decide_eq_false (by omega)
/-! ### the tape's defs -/
def bwD (i : Int) : List (Str × D) := [("name", .str "BlockWrong"), ("at", .int i)]
def flD (i : Int) : List (Str × D) := [("name", .str "Fallen"), ("at", .int i)]
def F_init (ad : Ad) : FD := fun ds M Qd _ => ∃ (t : Nat) (m : Int), ds = [.ptr t, .int m] ∧ M[t]? = some (.ins ad.C_Tape []) ∧ 0 ≤ m ∧ m ≤ 1000 ∧
  Qd .non (M.set t (.ins ad.C_Tape (tpF m M.length (M.length + 1) none [])) ++ [.lst ((List.replicate m.toNat sp1).map .str), .dK []])
def F_check (ad : Ad) : FD := fun ds M Qd Xd => ∃ (t : Nat) (i : Int) (m : Int) (s f : Nat) (left : Option Int) (kept : List Int), ds = [.ptr t, .int i] ∧ M[t]? = some (.ins ad.C_Tape (tpF m s f left kept)) ∧
  (0 ≤ i ∧ i < m → Qd .non M) ∧ (¬ (0 ≤ i ∧ i < m) → Xd ad.C_BlockWrong (bwD i) M)
def F_read (ad : Ad) : FD := fun ds M Qd Xd => ∃ (t s f : Nat) (z : TSt) (i : Int), ds = [.ptr t, .int i] ∧ TAt ad M t s f z ∧ TOk z ∧
  (0 ≤ i ∧ i < z.many → ∀ x, rdA z.fresh z.safe i = some x → Qd (.str x) M) ∧ (¬ (0 ≤ i ∧ i < z.many) → Xd ad.C_BlockWrong (bwD i) M)
def F_write (ad : Ad) : FD := fun ds M Qd Xd => ∃ (t s f : Nat) (z : TSt) (i : Int) (x : Str), ds = [.ptr t, .int i, .str x] ∧ TAt ad M t s f z ∧ TOk z ∧ x.length ≤ 1000 ∧
  (0 ≤ i ∧ i < z.many ∧ x.length = 64 → Qd .non (M.set f (.dK (frK (putA z.fresh i x))))) ∧ (¬ (0 ≤ i ∧ i < z.many ∧ x.length = 64) → Xd ad.C_BlockWrong (bwD i) M)
def fallM (ad : Ad) (M : Mm) (t s : Nat) (many : Int) (safe : List Str) (kept : List Int) : Mm := (M.set s (.lst (safe.map .str)) ++ [MO.dK []]).set t (.ins ad.C_Tape (tpF many s M.length none kept))
def F_fall (ad : Ad) : FD := fun ds M Qd _ => ∃ (t s f : Nat) (z : TSt) (d : D) (kept : List Int), ds = [.ptr t, d] ∧ lsOf M d = some (kept.map .int) ∧ TAt ad M t s f z ∧ TOk z ∧
  Qd (.int (cnt z.fresh kept)) (fallM ad M t s z.many (fallA z.fresh kept z.safe) z.kept)
def F_order (ad : Ad) : FD := fun ds M Qd _ => ∃ (t s f : Nat) (z : TSt) (i : Int) (d : D) (kept : List Int), ds = [.ptr t, .int i, d] ∧ lsOf M d = some (kept.map .int) ∧ TAt ad M t s f z ∧
  Qd .non (M.set t (.ins ad.C_Tape (tpF z.many s f (some i) kept)))
def F_unsafe (ad : Ad) : FD := fun ds M Qd _ => ∃ (t s f : Nat) (z : TSt), ds = [.ptr t] ∧ TAt ad M t s f z ∧ ∀ ns : List Int, ns.Perm (z.fresh.map (·.1)) → ns.Pairwise (· ≤ ·) → Qd (.lst (ns.map .int)) M
def F_sync (ad : Ad) : FD := fun ds M Qd Xd => ∃ (t s f : Nat) (z : TSt), ds = [.ptr t] ∧ TAt ad M t s f z ∧ TOk z ∧ (∀ i, z.left = some i → 0 ≤ i) ∧
  (z.left = some 0 → ∀ M', M' = fallM ad M t s z.many (fallA z.fresh z.kept z.safe) z.kept → Xd ad.C_Fallen (flD (cnt z.fresh z.kept)) M') ∧
  (∀ left', z.left ≠ some 0 → left' = z.left.map (· - 1) → Qd .non ((M.set s (.lst ((allA z.fresh z.safe).map .str)) ++ [MO.dK []]).set t (.ins ad.C_Tape (tpF z.many s M.length left' z.kept))))
section
variable {many : Int} {s f : Nat} {left : Option Int} {kept : List Int} {C : Addr} {M : Mm} {t j : Nat} {ρ : Ev} {Q : DK} {X : XD} {d : D}
theorem lk_many : (tpF many s f left kept).lookup ("many" : Str) = some (.int many) := rfl
theorem lk_safe : (tpF many s f left kept).lookup ("safe" : Str) = some (.ptr s) := rfl
theorem lk_fresh : (tpF many s f left kept).lookup ("fresh" : Str) = some (.ptr f) := rfl
theorem lk_left : (tpF many s f left kept).lookup ("left" : Str) = some (leftD left) := rfl
theorem lk_kept : (tpF many s f left kept).lookup ("kept" : Str) = some (.lst (kept.map .int)) := rfl
theorem pf_fresh {f' : Nat} : putFD "fresh" (.ptr f') (tpF many s f left kept) = tpF many s f' left kept := rfl
theorem pf_left {l' : Option Int} : putFD "left" (leftD l') (tpF many s f left kept) = tpF many s f l' kept := rfl
theorem pf_kept {k' : List Int} : putFD "kept" (.lst (k'.map .int)) (tpF many s f left kept) = tpF many s f left k' := rfl
/-- o.f -/
theorem r_fld (cl : Cls K C) {g : Str} (na : NoAttr K C g) {fs : List (Str × D)} (h : M[t]? = some (.ins C fs)) (h0 : ρ[j]? = some (some (.ptr t))) (l : fs.lookup g = some d) (q : Q d M) : dFld K (dVar j) g ρ M Q X := ⟨_, h0, t, C, fs, d, rfl, h, cl, na, l, q⟩
end
/-! Tape.__init__ -/
def w_init_26 (K : PySem.W.Frag) (ad : Ad) : SW := dSetF K (dVar 0) (dLstB dNil) "kept"
def w_init_25 (K : PySem.W.Frag) (ad : Ad) : SW := dSeq (dSetF K (dVar 0) (dC .non) "left") (w_init_26 K ad)
def w_init_24 (K : PySem.W.Frag) (ad : Ad) : SW := dSeq (dSetF K (dVar 0) dNewK "fresh") (w_init_25 K ad)
def w_init_23 (K : PySem.W.Frag) (ad : Ad) : SW := dSeq (dSetF K (dVar 0) (dSoE (dLc (diRng1 (dVar 1)) 2 dYes (dOp wMulB (dC (.str " ")) (dC (.int 64))))) "safe") (w_init_24 K ad)
def w_init_22 (K : PySem.W.Frag) (ad : Ad) : SW := dSeq (dSetF K (dVar 0) (dVar 1) "many") (w_init_23 K ad)
def w_init (K : PySem.W.Frag) (ad : Ad) : SW := (w_init_22 K ad)
theorem y_init (T : Txt P K mg ad) (E : XK) : DSs (XB P w K mg base n_init "Tape.__init__" (defScope s_init) ad.f_init 0 E) K (WF E) (defBody s_init) (w_init K ad) := by
  unfold w_init w_init_22 w_init_23 w_init_24 w_init_25 w_init_26
  exact (dss_cons (ds_fld (fun _ => rfl) (de_var 0) (de_var 1)) (dss_cons (ds_fld (fun _ => rfl) (de_var 0) (de_so (de_lc 2 (fun _ => rfl) (fun _ => sc_init.nd) (di_rng1 (fun _ => T.n_range) (de_var 1)) (fun _ => blkOk_by (own := [("_", 2)]) (N := n_init) (sc := defScope s_init) (by decide +kernel)) (fun _ => pg_name (i := 2) sc_init.nd rfl (Or.inl rfl)) dts_nil (de_op do_mul de_str (de_glob (.int 64) (fun _ => T.g_SIZE) T.r_SIZE))))) (dss_cons (ds_fld (fun _ => rfl) (de_var 0) de_newK) (dss_cons (ds_fld (fun _ => rfl) (de_var 0) de_non) (dss_one (ds_fld (fun _ => rfl) (de_var 0) (de_lstB da_nil)))))))
/-! Tape.order -/
def w_order_54 (K : PySem.W.Frag) (ad : Ad) : SW := dSetF K (dVar 0) (dCall wListC (dCons (dVar 2) dNil)) "kept"
def w_order_53 (K : PySem.W.Frag) (ad : Ad) : SW := dSeq (dSetF K (dVar 0) (dVar 1) "left") (w_order_54 K ad)
def w_order (K : PySem.W.Frag) (ad : Ad) : SW := (w_order_53 K ad)
theorem y_order (T : Txt P K mg ad) (E : XK) : DSs (XB P w K mg base n_order "Tape.order" (defScope s_order) ad.f_order 0 E) K (WF E) (defBody s_order) (w_order K ad) := by
  unfold w_order w_order_53 w_order_54
  exact (dss_cons (ds_fld (fun _ => rfl) (de_var 0) (de_var 1)) (dss_one (ds_fld (fun _ => rfl) (de_var 0) (de_callT (dc_list fun _ => rfl) (fun _ => T.n_list) PyProof.Rows.Boot.«list» (da_cons (de_var 2) da_nil)))))
/-! Tape.unsafe -/
def w_unsafe_65 (K : PySem.W.Frag) (ad : Ad) : SW := dRet (dCall wSortI (dCons (dCall wListD (dCons (dFld K (dVar 0) "fresh") dNil)) dNil))
def w_unsafe (K : PySem.W.Frag) (ad : Ad) : SW := (w_unsafe_65 K ad)
theorem y_unsafe (T : Txt P K mg ad) (E : XK) : DSs (XB P w K mg base n_unsafe "Tape.unsafe" (defScope s_unsafe) ad.f_unsafe 0 E) K (WF E) (defBody s_unsafe) (w_unsafe K ad) := by
  unfold w_unsafe w_unsafe_65
  exact (dss_one (ds_ret (de_callB (dc_sortI fun _ => rfl) (fun _ => T.n_sorted) PyProof.Rows.Boot.«sorted» (da_cons (de_callT (dc_listD fun _ => rfl) (fun _ => T.n_list) PyProof.Rows.Boot.«list» (da_cons (de_fld (fun _ => rfl) (de_var 0)) da_nil)) da_nil))))
theorem u_order (T : Txt P K mg ad) {ds : List D} {M : Mm} {Qd : DK} {Xd : XD} (h : F_order ad ds M Qd Xd) : w_order K ad (DsF M Qd Xd) (startD 3 ds) M := by
  obtain ⟨t, s, f, z, i, d, kept, rfl, hd, A, q⟩ := h
  have h1 := set_at (m := MO.ins ad.C_Tape (tpF z.many s f (some i) z.kept)) A.o
  refine ⟨_, rfl, _, rfl, t, _, _, rfl, A.o, T.cl_Tape, T.na_Tape_left, (show 5 < 1000 by decide), ?_⟩
  refine ⟨_, rfl, .inl ⟨d, kept.map .int, rfl, ?_, ?_⟩⟩
  · refine ls_sq ?_
    cases d with
    | lst ys => exact hd
    | ptr k =>
      have hk : t ≠ k := fun e => by
        subst e
        unfold lsOf at hd
        dsimp only at hd
        rw [A.o] at hd
        cases hd
      unfold lsOf at hd ⊢
      dsimp only at hd ⊢
      rw [set_ne hk]
      exact hd
    | _ => cases hd
  · refine ⟨_, rfl, t, _, _, rfl, h1, T.cl_Tape, T.na_Tape_kept, (show 5 < 1000 by decide), fun w => ?_⟩
    rw [List.set_set]
    rw [List.set_set] at w
    exact UpV.all (by rw [List.length_set]; exact Nat.le_refl _) w .non q
theorem fo_order (T : Txt P K mg ad) : FnOk P w K mg base (L2.CX P w) 1 ad.f_order ad.fd_order p_order (spD K 3 (F_order ad)) :=
  fn_d T.F_order sc_order (y_order T) fun ds M Qd Xd _ h _ _ => u_order T h
theorem u_unsafe (T : Txt P K mg ad) {ds : List D} {M : Mm} {Qd : DK} {Xd : XD} (h : F_unsafe ad ds M Qd Xd) : w_unsafe K ad (DsF M Qd Xd) (startD 1 ds) M := by
  obtain ⟨t, s, f, z, rfl, A, q⟩ := h
  refine r_fld (X := Xd) T.cl_Tape T.na_Tape_fresh A.o rfl lk_fresh ⟨f, _, rfl, A.f, ?_⟩
  refine ⟨_, z.fresh.map (·.1), rfl, ?_, fun ns pn sn w d => UpV.all (Nat.le_refl _) w d (q ns pn sn)⟩
  show some _ = some _
  unfold frK
  rw [List.map_map, List.map_map]
  rfl
theorem fo_unsafe (T : Txt P K mg ad) : FnOk P w K mg base (L2.CX P w) 1 ad.f_unsafe ad.fd_unsafe p_unsafe (spD K 1 (F_unsafe ad)) :=
  fn_d T.F_unsafe sc_unsafe (y_unsafe T) fun ds M Qd Xd _ h _ _ => u_unsafe T h
theorem u_init (T : Txt P K mg ad) {ds : List D} {M : Mm} {Qd : DK} {Xd : XD} (hw : Wf M.length M) (h : F_init ad ds M Qd Xd) : w_init K ad (DsF M Qd Xd) (startD 3 ds) M := by
  obtain ⟨t, m, rfl, ht, m0, m1, q⟩ := h
  have lt := lt_of_at ht
  refine ⟨_, rfl, _, rfl, t, _, _, rfl, ht, T.cl_Tape, T.na_Tape_many, (show 0 < 1000 by decide), ?_⟩
  have h1 := set_at (m := MO.ins ad.C_Tape [("many", .int m)]) ht
  intro hw1 hev1
  refine ⟨_, rfl, m, rfl, by omega, by omega, ?_⟩
  refine lc_map (fun _ _ => .str sp1) hw1 (fun _ => trivial) ?_ (fun _ _ _ => .str _) (fun j d acc Q' _ q' => .inr ⟨_, _, rfl, rfl, mulok1 rfl (by decide) (by decide), q'⟩) (.inr ?_)
  · unfold rng
    rw [List.length_map, List.length_range, sizeLine_eq]
    omega
  have ey : (rng 0 m.toNat).mapIdx (fun _ _ => D.str sp1) = (List.replicate m.toNat sp1).map .str := by
    apply List.ext_getElem?
    intro i
    rw [List.getElem?_mapIdx, List.getElem?_map, List.getElem?_replicate]
    unfold rng
    by_cases hi : i < m.toNat
    · rw [if_pos hi, List.getElem?_map, List.getElem?_range hi]
      rfl
    · rw [if_neg hi, List.getElem?_map, List.getElem?_eq_none (by rw [List.length_range]; omega)]
      rfl
  rw [ey, List.length_set]
  have h2 := app_at (t := [MO.lst ((List.replicate m.toNat sp1).map .str)]) h1
  refine ⟨_, rfl, t, _, _, rfl, h2, T.cl_Tape, T.na_Tape_safe, (show 1 < 1000 by decide), ?_⟩
  rw [set_app (by rw [List.length_set]; exact lt), List.set_set]
  have h3 := app_at (t := [MO.lst ((List.replicate m.toNat sp1).map .str)]) (set_at (m := MO.ins ad.C_Tape (putFD "safe" (.ptr M.length) [("many", .int m)])) ht)
  have h4 := app_at (t := [MO.dK []]) h3
  refine ⟨_, rfl, t, _, _, rfl, h4, T.cl_Tape, T.na_Tape_fresh, (show 2 < 1000 by decide), ?_⟩
  rw [List.append_assoc, set_app (by rw [List.length_set]; exact lt), List.set_set]
  have h5 := app_at (t := [MO.lst ((List.replicate m.toNat sp1).map .str)] ++ [MO.dK []]) (set_at (m := MO.ins ad.C_Tape (putFD "fresh" (.ptr (M.set t (MO.ins ad.C_Tape (putFD "safe" (.ptr M.length) [("many", .int m)])) ++ [MO.lst ((List.replicate m.toNat sp1).map .str)]).length) (putFD "safe" (.ptr M.length) [("many", .int m)]))) ht)
  refine ⟨_, rfl, t, _, _, rfl, h5, T.cl_Tape, T.na_Tape_left, (show 3 < 1000 by decide), ?_⟩
  rw [set_app (by rw [List.length_set]; exact lt), List.set_set]
  have el : (M.set t (MO.ins ad.C_Tape (putFD "safe" (.ptr M.length) [("many", .int m)])) ++ [MO.lst ((List.replicate m.toNat sp1).map .str)]).length = M.length + 1 := by rw [List.length_append, List.length_set]; rfl
  rw [el]
  have h6 := app_at (t := [MO.lst ((List.replicate m.toNat sp1).map .str)] ++ [MO.dK []]) (set_at (m := MO.ins ad.C_Tape (putFD "left" .non (putFD "fresh" (.ptr (M.length + 1)) (putFD "safe" (.ptr M.length) [("many", .int m)])))) ht)
  refine ⟨by show 0 ≤ sizeLine; omega, .inl ⟨_, rfl, t, _, _, rfl, h6, T.cl_Tape, T.na_Tape_kept, (show 4 < 1000 by decide), ?_⟩⟩
  rw [set_app (by rw [List.length_set]; exact lt), List.set_set]
  exact fun w => UpV.all (by rw [List.length_append, List.length_set]; omega) w .non q
theorem fo_init (T : Txt P K mg ad) : FnOk P w K mg base (L2.CX P w) 1 ad.f_init ad.fd_init p_init (spD K 2 (F_init ad)) :=
  fn_d T.F_init sc_init (y_init T) fun ds M Qd Xd _ h hw _ => u_init T hw h
/-! Tape.check -/
def w_check_30 (K : PySem.W.Frag) (ad : Ad) : SW := dRaise ad.C_BlockWrong 1 [] (fsSD "BlockWrong") (dCons (dVar 1) dNil)
def w_check_29 (K : PySem.W.Frag) (ad : Ad) : SW := dIf (dOr (dTest (dCall wIsi (dCons (dVar 1) (dCons (dC (.ty "bool")) dNil)))) (dOr (dNot (dTest (dCall wIsi (dCons (dVar 1) (dCons (dC (.ty "int")) dNil))))) (dNot (dTest (dChain wLe wLt (dC (.int 0)) (dVar 1) (dFld K (dVar 0) "many")))))) (w_check_30 K ad) dNext
def w_check (K : PySem.W.Frag) (ad : Ad) : SW := (w_check_29 K ad)
theorem y_check (T : Txt P K mg ad) (E : XK) : DSs (XB P w K mg base n_check "Tape.check" (defScope s_check) ad.f_check 3 E) K (WF E) (defBody s_check) (w_check K ad) := by
  unfold w_check w_check_29 w_check_30
  exact (dss_one (ds_if (dpw_pt (dpw_or (dt_val (de_callB (dc_isi fun _ => rfl) (fun _ => T.n_isinstance) PyProof.Rows.Boot.«isinstance» (da_cons (de_var 1) (da_cons (de_bty (fun _ => T.n_bool) PyProof.Rows.Boot.«bool») da_nil)))) (dpw_or (dt_not (dt_val (de_callB (dc_isi fun _ => rfl) (fun _ => T.n_isinstance) PyProof.Rows.Boot.«isinstance» (da_cons (de_var 1) (da_cons (de_bty (fun _ => T.n_int) PyProof.Rows.Boot.«int») da_nil))))) (dpw_or1 (dt_not (dt_chain do_le do_lt de_int (de_var 1) (de_fld (fun _ => rfl) (de_var 0)))))))) (dss_one (ds_raise (fun _ => rfl) (fun i => xb_takes i) T.ok_BlockWrong.2.ox (fun _ => rfl) T.i_BlockWrong T.t_BlockWrong (fun _ => (fo_BlockWrong T)) T.ok_BlockWrong (fun i => (xb_room i).mono (by decide)) (fun _ => T.b_BlockWrong) .nil (fun _ _ _ => .nil) (fsS_ok _) (fun _ => T.g_BlockWrong) (da_cons (de_var 1) da_nil))) dss_nil))
theorem u_check (T : Txt P K mg ad) {ds : List D} {M : Mm} {Qd : DK} {Xd : XD} (hw : Wf M.length M) (h : F_check ad ds M Qd Xd) : w_check K ad (DsF M Qd Xd) (startD 2 ds) M := by
  obtain ⟨t, i, m, s, f, left, kept, rfl, ht, q1, q2⟩ := h
  have bad : ¬ (0 ≤ i ∧ i < m) → w_check_30 K ad (DsF M Qd Xd) (startD 2 [.ptr t, .int i]) M := fun hi => by
    refine ⟨_, rfl, rfl, by show 1 ≤ 1000; decide, fun w x => UpX.all (Nat.le_refl _) w x (q2 hi)⟩
  refine r_isi .bool rfl rfl rfl ⟨_, rfl, if_f rfl ?_⟩
  refine r_isi .int rfl rfl rfl ⟨_, rfl, if_f rfl ?_⟩
  refine ⟨.int i, rfl, ?_⟩
  refine ⟨_, _, rfl, rfl, trivial, _, rfl, ifd (fun h0 => ?_) fun h0 => ⟨_, rfl, if_t rfl (bad fun z => h0 z.1)⟩⟩
  refine r_fld (X := Xd) T.cl_Tape T.na_Tape_many ht rfl lk_many ⟨_, _, rfl, rfl, trivial, _, rfl, ?_⟩
  by_cases h1 : i < m
  · refine if_f (by rw [decide_eq_true h1]; rfl) fun w => UpV.all (Nat.le_refl _) w .non (q1 ⟨h0, h1⟩)
  · exact if_t (by rw [decide_eq_false h1]; rfl) (bad fun z => h1 z.2)
theorem fo_check (T : Txt P K mg ad) : FnOk P w K mg base (L2.CX P w) 4 ad.f_check ad.fd_check p_check (spD K 2 (F_check ad)) :=
  fn_d T.F_check sc_check (y_check T) fun ds M Qd Xd _ h hw _ => u_check T hw h

end
end K93

namespace K93
open PySem PySem.Spec PyProof.Rows L2 DL
section
variable {P : Program} {w : World} {K : PySem.W.Frag} {mg : Str → Option Value} {base : Heap} {ad : Ad}
/-! Tape.read -/
def w_read_34 (K : PySem.W.Frag) (ad : Ad) : SW := dRet (dGet2 (dFld K (dVar 0) "fresh") (dVar 1) (dOp wIx (dFld K (dVar 0) "safe") (dVar 1)))
def w_read_33 (K : PySem.W.Frag) (ad : Ad) : SW := dSeq (dDrop (dMeth ad.C_Tape "check" 2 (F_check ad) (dVar 0) (dCons (dVar 1) dNil))) (w_read_34 K ad)
def w_read (K : PySem.W.Frag) (ad : Ad) : SW := (w_read_33 K ad)
theorem y_read (T : Txt P K mg ad) (E : XK) : DSs (XB P w K mg base n_read "Tape.read" (defScope s_read) ad.f_read 4 E) K (WF E) (defBody s_read) (w_read K ad) := by
  unfold w_read w_read_33 w_read_34
  exact (dss_cons (ds_expr (de_meth (de_var 0) (fun _ => T.cl_Tape) (fun _ => T.m_check) (fun _ => (fo_check T)) (fun i => (xb_room i).mono (by decide)) (fun i => xb_takes i) (fun _ => T.b_check) (da_cons (de_var 1) da_nil))) (dss_one (ds_ret (de_get2 (fun i => hu_of (xb_room i)) (de_fld (fun _ => rfl) (de_var 0)) (de_var 1) (de_ix (fun _ => rfl) (de_fld (fun _ => rfl) (de_var 0)) (de_var 1))))))
theorem u_read (T : Txt P K mg ad) {ds : List D} {M : Mm} {Qd : DK} {Xd : XD} (hw : Wf M.length M) (h : F_read ad ds M Qd Xd) : w_read K ad (DsF M Qd Xd) (startD 2 ds) M := by
  obtain ⟨t, s, f, z, i, rfl, A, ok, q1, q2⟩ := h
  refine ⟨_, rfl, t, _, rfl, A.o, rfl, _, rfl, rfl, t, i, z.many, s, f, z.left, z.kept, rfl, A.o, fun hi => ?_, fun hi w x => UpX.all (Nat.le_refl _) w x (q2 hi)⟩
  refine r_fld (X := Xd) T.cl_Tape T.na_Tape_fresh A.o rfl lk_fresh ⟨_, dk_at A.f, _, rfl, ?_⟩
  refine r_fld (X := Xd) T.cl_Tape T.na_Tape_safe A.o rfl lk_safe ⟨_, rfl, ?_⟩
  obtain ⟨n, rfl⟩ := Int.eq_ofNat_of_zero_le hi.1
  have hn : n < z.safe.length := by have := ok.len; omega
  refine .inl ⟨_, _, .str z.safe[n], sq_at A.s, rfl, at_map rfl (List.getElem?_eq_getElem hn), ?_⟩
  refine ⟨_, _, dk_at A.f, rfl, ?_⟩
  rw [frK_val]
  have fin : ∀ x, rdA z.fresh z.safe n = some x → (DsF M Qd Xd).rt (.str x) M := fun x hx w d => UpV.all (Nat.le_refl _) w d (q1 hi x hx)
  unfold rdA at fin
  cases e : z.fresh.find? fun p => decide (p.1 = (n : Int)) with
  | none =>
    rw [e] at fin
    exact fin z.safe[n] (by simp [hn])
  | some p =>
    rw [e] at fin
    exact fin p.2 rfl
theorem fo_read (T : Txt P K mg ad) : FnOk P w K mg base (L2.CX P w) 5 ad.f_read ad.fd_read p_read (spD K 2 (F_read ad)) :=
  fn_d T.F_read sc_read (y_read T) fun ds M Qd Xd _ h hw _ => u_read T hw h
/-! Tape.write -/
def w_write_39 (K : PySem.W.Frag) (ad : Ad) : SW := dRaise ad.C_BlockWrong 1 [] (fsSD "BlockWrong") (dCons (dVar 1) dNil)
def w_write_40 (K : PySem.W.Frag) (ad : Ad) : SW := dDPut (dFld K (dVar 0) "fresh") (dVar 1) (dVar 2)
def w_write_38 (K : PySem.W.Frag) (ad : Ad) : SW := dSeq (dIf (dOr (dNot (dTest (dCall wIsi (dCons (dVar 2) (dCons (dC (.ty "str")) dNil))))) (dTest (dOp wNeF (dCall wLen (dCons (dVar 2) dNil)) (dC (.int 64))))) (w_write_39 K ad) dNext) (w_write_40 K ad)
def w_write_37 (K : PySem.W.Frag) (ad : Ad) : SW := dSeq (dDrop (dMeth ad.C_Tape "check" 2 (F_check ad) (dVar 0) (dCons (dVar 1) dNil))) (w_write_38 K ad)
def w_write (K : PySem.W.Frag) (ad : Ad) : SW := (w_write_37 K ad)
theorem y_write (T : Txt P K mg ad) (E : XK) : DSs (XB P w K mg base n_write "Tape.write" (defScope s_write) ad.f_write 4 E) K (WF E) (defBody s_write) (w_write K ad) := by
  unfold w_write w_write_37 w_write_38 w_write_40 w_write_39
  exact (dss_cons (ds_expr (de_meth (de_var 0) (fun _ => T.cl_Tape) (fun _ => T.m_check) (fun _ => (fo_check T)) (fun i => (xb_room i).mono (by decide)) (fun i => xb_takes i) (fun _ => T.b_check) (da_cons (de_var 1) da_nil))) (dss_cons (ds_if (dpw_pt (dpw_or (dt_not (dt_val (de_callB (dc_isi fun _ => rfl) (fun _ => T.n_isinstance) PyProof.Rows.Boot.«isinstance» (da_cons (de_var 2) (da_cons (de_bty (fun _ => T.n_str) PyProof.Rows.Boot.«str») da_nil))))) (dpw_or1 (dt_cmp do_neF (de_callB (dc_len fun _ => rfl) (fun _ => T.n_len) PyProof.Rows.Boot.«len» (da_cons (de_var 2) da_nil)) (de_glob (.int 64) (fun _ => T.g_SIZE) T.r_SIZE))))) (dss_one (ds_raise (fun _ => rfl) (fun i => xb_takes i) T.ok_BlockWrong.2.ox (fun _ => rfl) T.i_BlockWrong T.t_BlockWrong (fun _ => (fo_BlockWrong T)) T.ok_BlockWrong (fun i => (xb_room i).mono (by decide)) (fun _ => T.b_BlockWrong) .nil (fun _ _ _ => .nil) (fsS_ok _) (fun _ => T.g_BlockWrong) (da_cons (de_var 1) da_nil))) dss_nil) (dss_one (ds_dput (fun i => hu_of (xb_room i)) (de_fld (fun _ => rfl) (de_var 0)) (de_var 1) (de_var 2)))))
theorem u_write (T : Txt P K mg ad) {ds : List D} {M : Mm} {Qd : DK} {Xd : XD} (hw : Wf M.length M) (h : F_write ad ds M Qd Xd) : w_write K ad (DsF M Qd Xd) (startD 3 ds) M := by
  obtain ⟨t, s, f, z, i, x, rfl, A, ok, hx, q1, q2⟩ := h
  refine ⟨_, rfl, t, _, rfl, A.o, rfl, _, rfl, rfl, t, i, z.many, s, f, z.left, z.kept, rfl, A.o, fun hi => ?_, fun hi w y => UpX.all (Nat.le_refl _) w y (q2 fun c => hi ⟨c.1, c.2.1⟩)⟩
  refine r_isi .str rfl rfl rfl ⟨_, rfl, if_f rfl ?_⟩
  refine ⟨_, rfl, .inr ⟨x, rfl, by rw [sizeLine_eq]; omega, _, _, rfl, rfl, rfl, _, rfl, ?_⟩⟩
  rw [dec_ii]
  by_cases hl : x.length = 64
  · refine if_f (by simp [hl]) ?_
    refine ⟨_, rfl, r_fld (X := Xd) T.cl_Tape T.na_Tape_fresh A.o rfl lk_fresh ⟨_, rfl, f, _, _, rfl, A.f, rfl, ?_, fun w => ?_⟩⟩
    · unfold frK
      rw [List.length_map, sizeLine_eq]
      have := ok.few
      omega
    · rw [frK_put]
      rw [frK_put] at w
      exact UpV.all (by rw [List.length_set]; exact Nat.le_refl _) w .non (q1 ⟨hi.1, hi.2, hl⟩)
  · refine if_t (by simp; omega) ?_
    exact ⟨_, rfl, rfl, by show 1 ≤ 1000; decide, fun w y => UpX.all (Nat.le_refl _) w y (q2 fun c => hl c.2.2)⟩
theorem fo_write (T : Txt P K mg ad) : FnOk P w K mg base (L2.CX P w) 5 ad.f_write ad.fd_write p_write (spD K 3 (F_write ad)) :=
  fn_d T.F_write sc_write (y_write T) fun ds M Qd Xd _ h hw _ => u_write T hw h
/-! Tape.fall -/
def w_fall_59 (K : PySem.W.Frag) (ad : Ad) : SW := dAsg (dOp wDGet (dFld K (dVar 0) "fresh") (dVar 3)) (dgSet (dFld K (dVar 0) "safe") (dVar 3))
def w_fall_62 (K : PySem.W.Frag) (ad : Ad) : SW := dRet (dCall wLen (dCons (dVar 2) dNil))
def w_fall_61 (K : PySem.W.Frag) (ad : Ad) : SW := dSeq (dSetF K (dVar 0) (dC .non) "left") (w_fall_62 K ad)
def w_fall_60 (K : PySem.W.Frag) (ad : Ad) : SW := dSeq (dSetF K (dVar 0) dNewK "fresh") (w_fall_61 K ad)
def w_fall_58 (K : PySem.W.Frag) (ad : Ad) : SW := dSeq (dFor (diList (dVar 2)) (dgName 3) (dThen (w_fall_59 K ad))) (w_fall_60 K ad)
def w_fall_57 (K : PySem.W.Frag) (ad : Ad) : SW := dSeq (dSo (dLockS (dAsg (dLc (diKeys (dFld K (dVar 0) "fresh")) 3 (dTest (dOp (wInL false) (dVar 3) (dVar 1))) (dVar 3)) (dgName 2)))) (w_fall_58 K ad)
def w_fall (K : PySem.W.Frag) (ad : Ad) : SW := (w_fall_57 K ad)
theorem y_fall (T : Txt P K mg ad) (E : XK) : DSs (XB P w K mg base n_fall "Tape.fall" (defScope s_fall) ad.f_fall 0 E) K (WF E) (defBody s_fall) (w_fall K ad) := by
  unfold w_fall w_fall_57 w_fall_58 w_fall_60 w_fall_61 w_fall_62 w_fall_59
  exact (dss_cons (ds_so (ds_lockS (ds_setLc 2 3 (fun _ => rfl) (fun _ => sc_fall.nd) (fun _ => rfl) (fun _ => rfl) (fun _ => sw_true rfl rfl rfl (by decide +kernel)) (di_keys (de_fld (fun _ => rfl) (de_var 0))) (fun _ => blkOk_by (own := [("at", 3)]) (N := n_fall) (sc := defScope s_fall) (by decide +kernel)) (fun _ => pg_name (i := 3) sc_fall.nd rfl (Or.inl rfl)) (dts_one (dt_cmp (do_inL fun _ => rfl) (de_var 3) (de_var 1))) (de_var 3)))) (dss_cons (ds_for (fun i => xb_passes i) (fun _ => rfl) (di_list (fun _ => rfl) (de_var 2)) (dg_var 3 (fun _ => sc_fall.nd)) (dss_then (dss_one (ds_asg (de_dget (fun i => hu_of (xb_room i)) (de_fld (fun _ => rfl) (de_var 0)) (de_var 3)) (dg_set (de_fld (fun _ => rfl) (de_var 0)) (de_var 3)))))) (dss_cons (ds_fld (fun _ => rfl) (de_var 0) de_newK) (dss_cons (ds_fld (fun _ => rfl) (de_var 0) de_non) (dss_one (ds_ret (de_callB (dc_len fun _ => rfl) (fun _ => T.n_len) PyProof.Rows.Boot.«len» (da_cons (de_var 2) da_nil))))))))
theorem TAt.ne {ad : Ad} {M : Mm} {t s f : Nat} {z : TSt} (A : TAt ad M t s f z) : t ≠ s ∧ t ≠ f ∧ s ≠ f := by
  refine ⟨fun e => ?_, fun e => ?_, fun e => ?_⟩
  · have a := A.o; rw [e, A.s] at a; cases a
  · have a := A.o; rw [e, A.f] at a; cases a
  · have a := A.s; rw [e, A.f] at a; cases a
theorem ls_setdk {M : Mm} {f : Nat} {m : MO} {d : D} {xs : List D} {kvs : List (Key × D)} (hf : M[f]? = some (.dK kvs)) (h : lsOf M d = some xs) : lsOf (M.set f m) d = some xs := by
  cases d with
  | lst ys => exact h
  | ptr k =>
    have hk : f ≠ k := fun e => by
      subst e
      unfold lsOf at h
      dsimp only at h
      rw [hf] at h
      cases h
    unfold lsOf at h ⊢
    dsimp only at h ⊢
    rw [set_ne hk]
    exact h
  | _ => cases h
theorem frK_bd {n : Nat} {l : Fr} : Bdk n (frK l) := fun q hq => by
  obtain ⟨p, _, rfl⟩ := List.mem_map.mp hq
  exact .str _
theorem tpF_bd {n : Nat} {many : Int} {s f : Nat} {left : Option Int} {kept : List Int} (hs : s < n) (hf : f < n) : Bdk n (tpF many s f left kept) := fun q hq => by
  unfold tpF at hq
  simp only [List.mem_cons, List.not_mem_nil, or_false] at hq
  rcases hq with rfl | rfl | rfl | rfl | rfl
  · exact .int _
  · exact .ptr hs
  · exact .ptr hf
  · cases left with
    | none => exact .non
    | some i => exact .int i
  · exact .lst (bds_ints _)
/-- k in kept, kept a list of numbers -/
theorem r_in {M : Mm} {ρ : Ev} {Q : DK} {X : XD} {i j : Nat} {k : Int} {d : D} {kept : List Int} (hi : ρ[i]? = some (some (.int k))) (hj : ρ[j]? = some (some d)) (h : lsOf M d = some (kept.map .int)) (q : Q (.bl (decide (k ∈ kept))) M) : dOp (wInL false) (dVar i) (dVar j) ρ M Q X := by
  refine ⟨_, hi, d, hj, .int k, _, _, rfl, ls_sq h, mapM_ints kept, ?_⟩
  rw [inV_ints]
  exact q
theorem fallA_filter (kept : List Int) : ∀ (l : Fr) (s : List Str), fallA l kept s = allA (l.filter fun p => decide (p.1 ∈ kept)) s
  | [], s => rfl
  | p :: l, s => by
    show fallA l kept (stp kept s p) = _
    rw [fallA_filter]
    unfold stp
    by_cases h : p.1 ∈ kept
    · rw [if_pos h, List.filter_cons_of_pos (by simpa using h)]
      rfl
    · rw [if_neg h, List.filter_cons_of_neg (by simpa using h)]
theorem map_set_str (l : List Str) (n : Nat) (x : Str) : (l.map D.str).set n (.str x) = (l.set n x).map D.str := (List.map_set ..).symm
theorem keys_at {l : Fr} {j : Nat} {d : D} (h : ((frK l).map fun kv => kD kv.1)[j]? = some d) : ∃ p, l[j]? = some p ∧ d = .int p.1 := by
  unfold frK at h
  rw [List.getElem?_map, List.getElem?_map] at h
  cases e : l[j]? with
  | none => rw [e] at h; cases h
  | some p =>
    rw [e] at h
    exact ⟨p, rfl, (Option.some.inj h).symm⟩
/-- what is left of fall(kept) when what falls is known -/
theorem u_fall_58 (T : Txt P K mg ad) {M M0 : Mm} {t s f : Nat} {z : TSt} {d1 : D} {o3 : Option D} {l : Fr} {Qd : DK} {Xd : XD} (A : TAt ad M t s f z) (ok : TOk z) (hl : M0.length ≤ M.length) (hs : ∀ p ∈ l, p ∈ z.fresh)
    (q : Qd (.int l.length) (fallM ad M t s z.many (allA l z.safe) z.kept)) : w_fall_58 K ad (DsF M0 Qd Xd) [some (.ptr t), some d1, some (.lst (l.map fun p => .int p.1)), o3] M := by
  obtain ⟨n1, n2, n3⟩ := A.ne
  refine ⟨_, rfl, _, .inl ⟨rfl, ?_⟩⟩
  refine ⟨fun j ρ1 M1 => (∃ o3, ρ1 = [some (.ptr t), some d1, some (.lst (l.map fun p => .int p.1)), o3]) ∧ M1 = M.set s (.lst ((allA (l.take j) z.safe).map .str)), ⟨⟨_, rfl⟩, ?_⟩, fun _ _ _ _ => trivial, ?_, ?_⟩
  · exact (set_same A.s).symm
  · rintro j d ρ1 M1 hd ⟨⟨o3, rfl⟩, rfl⟩
    rw [List.getElem?_map] at hd
    cases e : l[j]? with
    | none => rw [e] at hd; cases hd
    | some p =>
      rw [e] at hd
      have ed := Option.some.inj hd
      subst ed
      have hp := hs p (List.mem_of_getElem? e)
      have hO : (M.set s (.lst ((allA (l.take j) z.safe).map .str)))[t]? = some (.ins ad.C_Tape (tpF z.many s f z.left z.kept)) := by rw [set_ne (Ne.symm n1)]; exact A.o
      have hF : (M.set s (.lst ((allA (l.take j) z.safe).map .str)))[f]? = some (.dK (frK z.fresh)) := by rw [set_ne n3]; exact A.f
      have hS := set_at (m := MO.lst ((allA (l.take j) z.safe).map .str)) A.s
      refine r_fld (X := fun _ _ _ => True) T.cl_Tape T.na_Tape_fresh hO rfl lk_fresh ⟨.int p.1, rfl, ?_⟩
      refine ⟨_, _, .str p.2, dk_at hF, rfl, by rw [frK_val, find_nd ok.nd hp]; rfl, ?_⟩
      refine r_fld (X := fun _ _ _ => True) T.cl_Tape T.na_Tape_safe hO rfl lk_safe ⟨.int p.1, rfl, ?_⟩
      obtain ⟨k0, k1⟩ := ok.keys p hp
      have hix : ixN ((allA (l.take j) z.safe).map D.str).length p.1 = some p.1.toNat := by
        have e1 : p.1 = (p.1.toNat : Int) := (Int.toNat_of_nonneg k0).symm
        rw [List.length_map, allA_len]
        have := ok.len
        conv => lhs; rw [e1]
        exact ix_nat (by omega)
      refine ⟨s, _, p.1, p.1.toNat, rfl, rfl, hS, hix, ?_⟩
      rw [List.set_set, map_set_str, ← allA_next e]
      intro w ev
      exact Up.all (by rw [List.length_set]; exact Nat.le_refl _) w ev ⟨⟨_, rfl⟩, rfl⟩
  · rintro ρ1 M1 ⟨⟨o3, rfl⟩, rfl⟩
    rw [List.length_map, List.take_length]
    have hO : (M.set s (.lst ((allA l z.safe).map .str)))[t]? = some (.ins ad.C_Tape (tpF z.many s f z.left z.kept)) := by rw [set_ne (Ne.symm n1)]; exact A.o
    have hO2 := app_at (t := [MO.dK []]) hO
    refine ⟨_, rfl, t, _, _, rfl, hO2, T.cl_Tape, T.na_Tape_fresh, (show 5 < 1000 by decide), ?_⟩
    rw [List.length_set, pf_fresh]
    have hO3 := set_at (m := MO.ins ad.C_Tape (tpF z.many s M.length z.left z.kept)) hO2
    refine ⟨_, rfl, t, _, _, rfl, hO3, T.cl_Tape, T.na_Tape_left, (show 5 < 1000 by decide), ?_⟩
    rw [List.set_set]
    refine ⟨_, rfl, .inl ⟨_, l.map (fun p => .int p.1), rfl, rfl, fun w d => ?_⟩⟩
    rw [List.length_map]
    refine UpV.all ?_ w (.int _) q
    rw [List.length_set, List.length_append, List.length_set]
    omega
theorem u_fall (T : Txt P K mg ad) {ds : List D} {M : Mm} {Qd : DK} {Xd : XD} (h : F_fall ad ds M Qd Xd) : w_fall K ad (DsF M Qd Xd) (startD 4 ds) M := by
  obtain ⟨t, s, f, z, d, kept, rfl, hd, A, ok, q⟩ := h
  obtain ⟨n1, n2, n3⟩ := A.ne
  intro hw hev
  refine ⟨f, _, A.f, fun o ks => ?_⟩
  have hL := set_at (m := MO.lk o ks (frK z.fresh)) A.f
  have hO : (M.set f (.lk o ks (frK z.fresh)))[t]? = some (.ins ad.C_Tape (tpF z.many s f z.left z.kept)) := by rw [set_ne (Ne.symm n2)]; exact A.o
  have hd2 := ls_setdk (m := .lk o ks (frK z.fresh)) A.f hd
  have hwL : Wf (M.set f (.lk o ks (frK z.fresh))).length (M.set f (.lk o ks (frK z.fresh))) := by
    rw [List.length_set]
    exact hw.set frK_bd
  refine r_fld (X := fun _ _ _ => True) T.cl_Tape T.na_Tape_fresh hO rfl lk_fresh ⟨f, o, ks, _, rfl, hL, ?_⟩
  refine lcI (M := M.set f (.lk o ks (frK z.fresh))) (fun j acc M' => M' = M.set f (.lk o ks (frK z.fresh)) ∧ acc = ((z.fresh.take j).filter fun p => decide (p.1 ∈ kept)).map fun p => .int p.1) hwL ⟨rfl, rfl⟩ ?_ ?_ ?_
  · rintro j acc M' ⟨rfl, rfl⟩ l
    exact app_at hL
  · rintro j e acc M' he l w b ⟨rfl, rfl⟩
    obtain ⟨p, hp, rfl⟩ := keys_at he
    refine r_in rfl rfl (ls_app hd2) ⟨_, rfl, ifd (fun hk => ?_) fun hk => ?_⟩
    · refine ⟨_, rfl, LcY.mk rfl w b (.int _) ?_ ⟨rfl, ?_⟩⟩
      · have h1 := List.length_filter_le (fun p => decide (p.1 ∈ kept)) (z.fresh.take j)
        rw [List.length_take] at h1
        have := ok.few
        rw [List.length_map, sizeLine_eq]
        omega
      · rw [take_next hp, List.filter_append, List.map_append, List.filter_cons_of_pos (by simpa using hk)]
        rfl
    · refine LcN.mk rfl w b ⟨rfl, ?_⟩
      rw [take_next hp, List.filter_append, List.map_append, List.filter_cons_of_neg (by simpa using hk)]
      simp
  · rintro acc M' ⟨rfl, rfl⟩ l w b
    refine .inl ⟨hL, ?_⟩
    rw [List.set_set, set_same A.f]
    have el : ((frK z.fresh).map fun kv => kD kv.1).length = z.fresh.length := by unfold frK; rw [List.length_map, List.length_map]
    rw [el, List.take_length]
    refine u_fall_58 T A ok (Nat.le_refl _) (fun p hp => (List.mem_filter.mp hp).1) ?_
    rw [← fallA_filter]
    exact q
theorem fo_fall (T : Txt P K mg ad) : FnOk P w K mg base (L2.CX P w) 1 ad.f_fall ad.fd_fall p_fall (spD K 2 (F_fall ad)) :=
  fn_d T.F_fall sc_fall (y_fall T) fun ds M Qd Xd _ h _ _ => u_fall T h

end
end K93

namespace K93
open PySem PySem.Spec PyProof.Rows L2 DL
section
variable {P : Program} {w : World} {K : PySem.W.Frag} {mg : Str → Option Value} {base : Heap} {ad : Ad}
/-! Tape.sync -/
def w_sync_47 (K : PySem.W.Frag) (ad : Ad) : SW := dRaise ad.C_Fallen 1 [] (fsSD "Fallen") (dCons (dVar 1) dNil)
def w_sync_46 (K : PySem.W.Frag) (ad : Ad) : SW := dSeq (dAsg (dMeth ad.C_Tape "fall" 2 (F_fall ad) (dVar 0) (dCons (dFld K (dVar 0) "kept") dNil)) (dgName 1)) (w_sync_47 K ad)
def w_sync_45 (K : PySem.W.Frag) (ad : Ad) : SW := dIf (dTest (dOp wLt (dFld K (dVar 0) "left") (dC (.int 0)))) (w_sync_46 K ad) dNext
def w_sync_44 (K : PySem.W.Frag) (ad : Ad) : SW := dSeq (dAugF K (dVar 0) (dC (.int 1)) "left" wSub) (w_sync_45 K ad)
def w_sync_49 (K : PySem.W.Frag) (ad : Ad) : SW := dAsg (dOp wDGet (dFld K (dVar 0) "fresh") (dVar 2)) (dgSet (dFld K (dVar 0) "safe") (dVar 2))
def w_sync_50 (K : PySem.W.Frag) (ad : Ad) : SW := dSetF K (dVar 0) dNewK "fresh"
def w_sync_48 (K : PySem.W.Frag) (ad : Ad) : SW := dSeq (dLockS (dFor (diKeys (dFld K (dVar 0) "fresh")) (dgName 2) (dThen (w_sync_49 K ad)))) (w_sync_50 K ad)
def w_sync_43 (K : PySem.W.Frag) (ad : Ad) : SW := dSeq (dIf (dTest (dOp wNotN (dFld K (dVar 0) "left") (dC .non))) (w_sync_44 K ad) dNext) (w_sync_48 K ad)
def w_sync (K : PySem.W.Frag) (ad : Ad) : SW := (w_sync_43 K ad)
theorem y_sync (T : Txt P K mg ad) (E : XK) : DSs (XB P w K mg base n_sync "Tape.sync" (defScope s_sync) ad.f_sync 3 E) K (WF E) (defBody s_sync) (w_sync K ad) := by
  unfold w_sync w_sync_43 w_sync_48 w_sync_50 w_sync_49 w_sync_44 w_sync_45 w_sync_46 w_sync_47
  exact (dss_cons (ds_if (dt_cmp do_notN (de_fld (fun _ => rfl) (de_var 0)) de_non) (dss_cons (ds_augF (fun _ => rfl) (de_var 0) de_int di_sub) (dss_one (ds_if (dt_cmp do_lt (de_fld (fun _ => rfl) (de_var 0)) de_int) (dss_cons (ds_set 1 (de_meth (de_var 0) (fun _ => T.cl_Tape) (fun _ => T.m_fall) (fun _ => (fo_fall T)) (fun i => (xb_room i).mono (by decide)) (fun i => xb_takes i) (fun _ => T.b_fall) (da_cons (de_fld (fun _ => rfl) (de_var 0)) da_nil)) (fun _ => sc_sync.nd)) (dss_one (ds_raise (fun _ => rfl) (fun i => xb_takes i) T.ok_Fallen.2.ox (fun _ => rfl) T.i_Fallen T.t_Fallen (fun _ => (fo_Fallen T)) T.ok_Fallen (fun i => (xb_room i).mono (by decide)) (fun _ => T.b_Fallen) .nil (fun _ _ _ => .nil) (fsS_ok _) (fun _ => T.g_Fallen) (da_cons (de_var 1) da_nil)))) dss_nil))) dss_nil) (dss_cons (ds_lockS (ds_for (fun i => xb_passes i) (fun _ => rfl) (di_keys (de_fld (fun _ => rfl) (de_var 0))) (dg_var 2 (fun _ => sc_sync.nd)) (dss_then (dss_one (ds_asg (de_dget (fun i => hu_of (xb_room i)) (de_fld (fun _ => rfl) (de_var 0)) (de_var 2)) (dg_set (de_fld (fun _ => rfl) (de_var 0)) (de_var 2))))))) (dss_one (ds_fld (fun _ => rfl) (de_var 0) de_newK))))
theorem set_set_app {M t : Mm} {i k : Nat} {a b c : MO} (hik : i ≠ k) (hi : i < M.length) : (((M.set i a).set k b) ++ t).set i c = (M.set k b ++ t).set i c := by
  rw [set_app (by rw [List.length_set, List.length_set]; exact hi), set_app (by rw [List.length_set]; exact hi), List.set_comm a b hik, List.set_set]
theorem u_sync_48 (T : Txt P K mg ad) {M M0 : Mm} {t s f : Nat} {z : TSt} {o1 o2 : Option D} {Qd : DK} {Xd : XD} (hw : Wf M.length M) (A : TAt ad M t s f z) (ok : TOk z) (hl : M0.length ≤ M.length)
    (q : Qd .non ((M.set s (.lst ((allA z.fresh z.safe).map .str)) ++ [MO.dK []]).set t (.ins ad.C_Tape (tpF z.many s M.length z.left z.kept)))) : w_sync_48 K ad (DsF M0 Qd Xd) [some (.ptr t), o1, o2] M := by
  obtain ⟨n1, n2, n3⟩ := A.ne
  refine ⟨f, _, A.f, fun o ks => ?_⟩
  have hL := set_at (m := MO.lk o ks (frK z.fresh)) A.f
  have hO : (M.set f (.lk o ks (frK z.fresh)))[t]? = some (.ins ad.C_Tape (tpF z.many s f z.left z.kept)) := by rw [set_ne (Ne.symm n2)]; exact A.o
  have hS : (M.set f (.lk o ks (frK z.fresh)))[s]? = some (.lst (z.safe.map .str)) := by rw [set_ne (Ne.symm n3)]; exact A.s
  refine r_fld (X := fun _ _ _ => True) T.cl_Tape T.na_Tape_fresh hO rfl lk_fresh ⟨f, o, ks, _, rfl, hL, ?_⟩
  refine ⟨fun j ρ1 M1 => (∃ o2, ρ1 = [some (.ptr t), o1, o2]) ∧ M1 = (M.set f (.lk o ks (frK z.fresh))).set s (.lst ((allA (z.fresh.take j) z.safe).map .str)), ⟨⟨_, rfl⟩, (set_same hS).symm⟩, ?_, ?_, ?_⟩
  · rintro j ρ1 M1 ⟨_, rfl⟩
    rw [set_ne n3]
    exact hL
  · rintro j d ρ1 M1 hd ⟨⟨o2, rfl⟩, rfl⟩
    obtain ⟨p, hp, rfl⟩ := keys_at hd
    have hm := List.mem_of_getElem? hp
    have hO1 : ((M.set f (.lk o ks (frK z.fresh))).set s (.lst ((allA (z.fresh.take j) z.safe).map .str)))[t]? = some (.ins ad.C_Tape (tpF z.many s f z.left z.kept)) := by rw [set_ne (Ne.symm n1)]; exact hO
    have hF1 : ((M.set f (.lk o ks (frK z.fresh))).set s (.lst ((allA (z.fresh.take j) z.safe).map .str)))[f]? = some (.lk o ks (frK z.fresh)) := by rw [set_ne n3]; exact hL
    have hS1 := set_at (m := MO.lst ((allA (z.fresh.take j) z.safe).map .str)) hS
    refine r_fld (X := fun _ _ _ => True) T.cl_Tape T.na_Tape_fresh hO1 rfl lk_fresh ⟨.int p.1, rfl, ?_⟩
    refine ⟨_, _, .str p.2, dk_lk hF1, rfl, by rw [frK_val, find_nd ok.nd hm]; rfl, ?_⟩
    refine r_fld (X := fun _ _ _ => True) T.cl_Tape T.na_Tape_safe hO1 rfl lk_safe ⟨.int p.1, rfl, ?_⟩
    obtain ⟨k0, k1⟩ := ok.keys p hm
    have hix : ixN ((allA (z.fresh.take j) z.safe).map D.str).length p.1 = some p.1.toNat := by
      have e1 : p.1 = (p.1.toNat : Int) := (Int.toNat_of_nonneg k0).symm
      rw [List.length_map, allA_len]
      have := ok.len
      conv => lhs; rw [e1]
      exact ix_nat (by omega)
    refine ⟨s, _, p.1, p.1.toNat, rfl, rfl, hS1, hix, ?_⟩
    rw [List.set_set, map_set_str, ← allA_next hp]
    intro w ev
    exact Up.all (by simp) w ev ⟨⟨_, rfl⟩, rfl⟩
  · rintro ρ1 M1 ⟨⟨o2, rfl⟩, rfl⟩
    have el : ((frK z.fresh).map fun kv => kD kv.1).length = z.fresh.length := by unfold frK; rw [List.length_map, List.length_map]
    rw [el, List.take_length]
    refine ⟨by rw [set_ne n3]; exact hL, ?_⟩
    have e2 : ((M.set f (.lk o ks (frK z.fresh))).set s (.lst ((allA z.fresh z.safe).map .str))).set f (.dK (frK z.fresh)) = M.set s (.lst ((allA z.fresh z.safe).map .str)) := by
      rw [List.set_comm _ _ n3, List.set_set, ← List.set_comm _ _ n3, set_same (o := .dK (frK z.fresh))]
      rw [set_ne n3]
      exact A.f
    rw [e2]
    have hO1 : (M.set s (.lst ((allA z.fresh z.safe).map .str)))[t]? = some (.ins ad.C_Tape (tpF z.many s f z.left z.kept)) := by rw [set_ne (Ne.symm n1)]; exact A.o
    have hO2 := app_at (t := [MO.dK []]) hO1
    refine ⟨_, rfl, t, _, _, rfl, hO2, T.cl_Tape, T.na_Tape_fresh, (show 5 < 1000 by decide), ?_⟩
    rw [List.length_set, pf_fresh]
    intro w
    refine UpV.all ?_ w .non q
    rw [List.length_set, List.length_append, List.length_set]
    omega
theorem u_sync (T : Txt P K mg ad) {ds : List D} {M : Mm} {Qd : DK} {Xd : XD} (hw : Wf M.length M) (h : F_sync ad ds M Qd Xd) : w_sync K ad (DsF M Qd Xd) (startD 3 ds) M := by
  obtain ⟨t, s, f, z, rfl, A, ok, l0, q1, q2⟩ := h
  obtain ⟨n1, n2, n3⟩ := A.ne
  have lt := lt_of_at A.o
  refine r_fld (X := fun _ _ _ => True) T.cl_Tape T.na_Tape_left A.o rfl lk_left ⟨rfl, _, rfl, ?_⟩
  cases hleft : z.left with
  | none =>
    refine if_f rfl ?_
    refine u_sync_48 T hw A ok (Nat.le_refl _) ?_
    rw [hleft]
    exact q2 none (by rw [hleft]; exact fun h => by cases h) (by rw [hleft]; rfl)
  | some i =>
    have i0 := l0 i hleft
    refine if_t rfl ?_
    refine ⟨_, rfl, t, _, _, .int i, rfl, A.o, T.cl_Tape, T.na_Tape_left, by rw [lk_left, hleft]; rfl, ?_⟩
    refine ⟨_, _, rfl, rfl, trivial, _, A.o, (show 5 < 1000 by decide), ?_⟩
    have e1 : putFD "left" (.int (i - 1)) (tpF z.many s f z.left z.kept) = tpF z.many s f (some (i - 1)) z.kept := rfl
    rw [e1]
    have A1 : TAt ad (M.set t (.ins ad.C_Tape (tpF z.many s f (some (i - 1)) z.kept))) t s f { z with left := some (i - 1) } := ⟨set_at A.o, by rw [set_ne n1]; exact A.s, by rw [set_ne n2]; exact A.f⟩
    have ok1 : TOk { z with left := some (i - 1) } := ⟨ok.m0, ok.m1, ok.len, ok.keys, ok.nd, ok.few⟩
    have hw1 : Wf (M.set t (.ins ad.C_Tape (tpF z.many s f (some (i - 1)) z.kept))).length (M.set t (.ins ad.C_Tape (tpF z.many s f (some (i - 1)) z.kept))) := by
      rw [List.length_set]
      exact hw.set (tpF_bd (lt_of_at A.s) (lt_of_at A.f))
    refine r_fld (X := fun _ _ _ => True) T.cl_Tape T.na_Tape_left A1.o rfl lk_left ⟨_, _, rfl, rfl, trivial, _, rfl, ifd (fun hi => ?_) fun hi => ?_⟩
    · have ei : i = 0 := by omega
      subst ei
      refine ⟨_, rfl, t, _, rfl, A1.o, rfl, ?_⟩
      refine r_fld (X := fun _ _ _ => True) T.cl_Tape T.na_Tape_kept A1.o rfl lk_kept ⟨rfl, t, s, f, { z with left := some (0 - 1) }, _, z.kept, rfl, rfl, A1, ok1, ?_⟩
      refine ⟨_, rfl, rfl, by show 1 ≤ 1000; decide, fun w x => ?_⟩
      have e2 : fallM ad (M.set t (.ins ad.C_Tape (tpF z.many s f (some (0 - 1)) z.kept))) t s z.many (fallA z.fresh z.kept z.safe) z.kept = fallM ad M t s z.many (fallA z.fresh z.kept z.safe) z.kept := by
        unfold fallM
        rw [List.length_set]
        exact set_set_app n1 lt
      refine UpX.all ?_ w x ?_
      · unfold fallM
        rw [List.length_set, List.length_append, List.length_set, List.length_set]
        omega
      · exact q1 hleft _ e2
    · refine u_sync_48 T hw1 A1 ok1 (by rw [List.length_set]; exact Nat.le_refl _) ?_
      rw [set_set_app n1 lt, List.length_set]
      exact q2 (some (i - 1)) (by rw [hleft]; intro h; have := Option.some.inj h; omega) (by rw [hleft]; rfl)
theorem fo_sync (T : Txt P K mg ad) : FnOk P w K mg base (L2.CX P w) 4 ad.f_sync ad.fd_sync p_sync (spD K 1 (F_sync ad)) :=
  fn_d T.F_sync sc_sync (y_sync T) fun ds M Qd Xd _ h hw _ => u_sync T hw h
/-! ### the law's own fall -/
def F_lfall : FD := fun ds M Qd _ => ∃ (s f : Nat) (safe : List Str) (fresh : Fr) (d : D) (kept : List Int), ds = [.ptr s, .ptr f, d] ∧ M[s]? = some (.lst (safe.map .str)) ∧ M[f]? = some (.dK (frK fresh)) ∧ lsOf M d = some (kept.map .int) ∧ (∀ k, d = .ptr k → k ≠ s) ∧
  (∀ p ∈ fresh, 0 ≤ p.1 ∧ p.1 < safe.length) ∧ (fresh.map (·.1)).Nodup ∧ Qd (.int (cnt fresh kept)) ((M.set s (.lst ((fallA fresh kept safe).map .str))).set f (.dK []))
/-! _law_fall -/
def w_lfall_118 (K : PySem.W.Frag) (ad : Ad) : SW := dAsg (dOp wAdd (dVar 3) (dC (.int 1))) (dgName 3)
def w_lfall_117 (K : PySem.W.Frag) (ad : Ad) : SW := dSeq (dAsg (dOp wDGet (dVar 1) (dVar 4)) (dgSet (dVar 0) (dVar 4))) (w_lfall_118 K ad)
def w_lfall_119 (K : PySem.W.Frag) (ad : Ad) : SW := dDrop (dPop1 (dVar 1) (dVar 4))
def w_lfall_116 (K : PySem.W.Frag) (ad : Ad) : SW := dSeq (dIf (dTest (dOp (wInL false) (dVar 4) (dVar 2))) (w_lfall_117 K ad) dNext) (w_lfall_119 K ad)
def w_lfall_120 (K : PySem.W.Frag) (ad : Ad) : SW := dRet (dVar 3)
def w_lfall_115 (K : PySem.W.Frag) (ad : Ad) : SW := dSeq (dFor (diList (dCall wListD (dCons (dVar 1) dNil))) (dgName 4) (dThen (w_lfall_116 K ad))) (w_lfall_120 K ad)
def w_lfall_114 (K : PySem.W.Frag) (ad : Ad) : SW := dSeq (dAsg (dC (.int 0)) (dgName 3)) (w_lfall_115 K ad)
def w_lfall (K : PySem.W.Frag) (ad : Ad) : SW := (w_lfall_114 K ad)
theorem y_lfall (T : Txt P K mg ad) (E : XK) : DSs (XB P w K mg base n_lfall "_law_fall" (defScope s_lfall) ad.f_lfall 0 E) K (WF E) (defBody s_lfall) (w_lfall K ad) := by
  unfold w_lfall w_lfall_114 w_lfall_115 w_lfall_120 w_lfall_116 w_lfall_119 w_lfall_117 w_lfall_118
  exact (dss_cons (ds_set 3 de_int (fun _ => sc_lfall.nd)) (dss_cons (ds_for (fun i => xb_passes i) (fun _ => rfl) (di_list (fun _ => rfl) (de_callT (dc_listD fun _ => rfl) (fun _ => T.n_list) PyProof.Rows.Boot.«list» (da_cons (de_var 1) da_nil))) (dg_var 4 (fun _ => sc_lfall.nd)) (dss_then (dss_cons (ds_if (dt_cmp (do_inL fun _ => rfl) (de_var 4) (de_var 2)) (dss_cons (ds_asg (de_dget (fun i => hu_of (xb_room i)) (de_var 1) (de_var 4)) (dg_set (de_var 0) (de_var 4))) (dss_one (ds_set 3 (de_op do_add (de_var 3) de_int) (fun _ => sc_lfall.nd)))) dss_nil) (dss_one (ds_expr (de_dpop1 (de_var 1) (de_var 4))))))) (dss_one (ds_ret (de_var 3)))))
theorem ls_setne {M : Mm} {f : Nat} {m : MO} {d : D} {xs : List D} (hf : ∀ k, d = .ptr k → k ≠ f) (h : lsOf M d = some xs) : lsOf (M.set f m) d = some xs := by
  cases d with
  | lst ys => exact h
  | ptr k =>
    unfold lsOf at h ⊢
    dsimp only at h ⊢
    rw [set_ne (Ne.symm (hf k rfl))]
    exact h
  | _ => cases h
theorem cnt_next {l : Fr} {kept : List Int} {j : Nat} {p : Int × Str} (h : l[j]? = some p) : cnt (l.take (j + 1)) kept = cnt (l.take j) kept + if p.1 ∈ kept then 1 else 0 := by
  unfold cnt
  rw [take_next h, List.filter_append, List.length_append]
  by_cases hp : p.1 ∈ kept
  · rw [if_pos hp, List.filter_cons_of_pos (by simpa using hp)]
    simp
  · rw [if_neg hp, List.filter_cons_of_neg (by simpa using hp)]
    simp
theorem drop_cons {α : Type} {l : List α} {j : Nat} {x : α} (h : l[j]? = some x) : l.drop j = x :: l.drop (j + 1) := by
  obtain ⟨hj, e⟩ := List.getElem?_eq_some_iff.mp h
  rw [List.drop_eq_getElem_cons hj, e]
theorem u_lfall (T : Txt P K mg ad) {ds : List D} {M : Mm} {Qd : DK} {Xd : XD} (h : F_lfall ds M Qd Xd) : w_lfall K ad (DsF M Qd Xd) (startD 5 ds) M := by
  obtain ⟨s, f, safe, fresh, d, kept, rfl, hs, hf, hd, hds, hb, nd, q⟩ := h
  have n3 : s ≠ f := fun e => by rw [e, hf] at hs; cases hs
  have hdf : ∀ k, d = .ptr k → k ≠ f := fun k e z => by
    subst e
    subst z
    unfold lsOf at hd
    dsimp only at hd
    rw [hf] at hd
    cases hd
  refine ⟨_, rfl, ⟨f, _, rfl, hf, ?_⟩⟩
  refine ⟨_, .inl ⟨rfl, ?_⟩⟩
  refine ⟨fun j ρ1 M1 => (∃ o4, ρ1 = [some (.ptr s), some (.ptr f), some d, some (.int (cnt (fresh.take j) kept)), o4]) ∧ M1 = (M.set s (.lst ((fallA (fresh.take j) kept safe).map .str))).set f (.dK (frK (fresh.drop j))), ⟨⟨_, rfl⟩, ?_⟩, fun _ _ _ _ => trivial, ?_, ?_⟩
  · show M = (M.set s (.lst (safe.map .str))).set f (.dK (frK fresh))
    rw [set_same hs, set_same hf]
  · rintro j e ρ1 M1 he ⟨⟨o4, rfl⟩, rfl⟩
    obtain ⟨p, hp, rfl⟩ := keys_at he
    have hm := List.mem_of_getElem? hp
    have hS1 : ((M.set s (.lst ((fallA (fresh.take j) kept safe).map .str))).set f (.dK (frK (fresh.drop j))))[s]? = some (.lst ((fallA (fresh.take j) kept safe).map .str)) := by
      rw [set_ne (Ne.symm n3)]
      exact set_at hs
    have hF0 : (M.set s (.lst ((fallA (fresh.take j) kept safe).map .str)))[f]? = some (.dK (frK fresh)) := by rw [set_ne n3]; exact hf
    have hF1 := set_at (m := MO.dK (frK (fresh.drop j))) hF0
    have hd1 : lsOf ((M.set s (.lst ((fallA (fresh.take j) kept safe).map .str))).set f (.dK (frK (fresh.drop j)))) d = some (kept.map .int) := ls_setne hdf (ls_setne hds hd)
    have ndd : ((fresh.drop j).map (·.1)).Nodup := by
      rw [List.map_drop]
      exact nd.sublist (List.drop_sublist _ _)
    have hpd : p ∈ fresh.drop j := by rw [drop_cons hp]; exact List.mem_cons_self
    have hdrop : dropD (frK (fresh.drop j)) (.inl p.1) = frK (fresh.drop (j + 1)) := by
      rw [frK_drop]
      congr 1
      rw [drop_cons hp] at ndd ⊢
      rw [List.filter_cons_of_neg (by simp)]
      rw [List.map_cons, List.nodup_cons] at ndd
      rw [List.filter_eq_self]
      intro x hx
      have : x.1 ≠ p.1 := fun e => ndd.1 (by rw [← e]; exact List.mem_map_of_mem hx)
      simpa using this
    -- fresh.pop(at)
    have pop : ∀ (sf : List Str) (cn : Int), sf = fallA (fresh.take (j + 1)) kept safe → cn = cnt (fresh.take (j + 1)) kept →
        w_lfall_119 K ad { DsF M Qd Xd with nx := fun ρ' M' => Wf M'.length M' → EvB M' ρ' → Up M.length (fun ρ1 M1 => (∃ o4, ρ1 = [some (.ptr s), some (.ptr f), some d, some (.int (cnt (fresh.take (j + 1)) kept)), o4]) ∧ M1 = (M.set s (.lst ((fallA (fresh.take (j + 1)) kept safe).map .str))).set f (.dK (frK (fresh.drop (j + 1))))) ρ' M' }
          [some (.ptr s), some (.ptr f), some d, some (.int cn), some (.int p.1)] ((M.set s (.lst (sf.map .str))).set f (.dK (frK (fresh.drop j)))) := by
      rintro sf cn rfl rfl
      have hF0' : (M.set s (.lst ((fallA (fresh.take (j + 1)) kept safe).map .str)))[f]? = some (.dK (frK fresh)) := by rw [set_ne n3]; exact hf
      have hF2 := set_at (m := MO.dK (frK (fresh.drop j))) hF0'
      refine ⟨_, rfl, _, dk_at hF2, _, rfl, f, _, _, .str p.2, rfl, hF2, rfl, by rw [frK_val, find_nd ndd hpd]; rfl, ?_⟩
      rw [hdrop, List.set_set]
      intro w ev
      exact Up.all (by rw [List.length_set, List.length_set]; exact Nat.le_refl _) w ev ⟨⟨_, rfl⟩, rfl⟩
    refine r_in (X := fun _ _ _ => True) rfl rfl hd1 ⟨_, rfl, ifd (fun hk => ?_) fun hk => ?_⟩
    · refine ⟨_, rfl, _, rfl, _, _, .str p.2, dk_at hF1, rfl, by rw [frK_val, find_nd ndd hpd]; rfl, ?_⟩
      obtain ⟨k0, k1⟩ := hb p hm
      have hix : ixN ((fallA (fresh.take j) kept safe).map D.str).length p.1 = some p.1.toNat := by
        have e1 : p.1 = (p.1.toNat : Int) := (Int.toNat_of_nonneg k0).symm
        rw [List.length_map, fallA_len]
        conv => lhs; rw [e1]
        exact ix_nat (by omega)
      refine ⟨_, rfl, _, rfl, s, _, p.1, p.1.toNat, rfl, rfl, hS1, hix, ?_⟩
      refine ⟨_, rfl, .inl (.inl ⟨_, _, rfl, rfl, trivial, ?_⟩)⟩
      have es : ((M.set s (.lst ((fallA (fresh.take j) kept safe).map .str))).set f (.dK (frK (fresh.drop j)))).set s (.lst (((fallA (fresh.take j) kept safe).map D.str).set p.1.toNat (.str p.2))) = (M.set s (.lst ((fallA (fresh.take (j + 1)) kept safe).map .str))).set f (.dK (frK (fresh.drop j))) := by
        rw [List.set_comm _ _ (Ne.symm n3), List.set_set, map_set_str, fallA_next hp]
        unfold stp
        rw [if_pos hk]
      rw [es]
      refine pop _ _ rfl ?_
      rw [cnt_next hp, if_pos hk]
    · refine pop _ _ ?_ ?_
      · rw [fallA_next hp]
        unfold stp
        rw [if_neg hk]
      · rw [cnt_next hp, if_neg hk]
        omega
  · rintro ρ1 M1 ⟨⟨o4, rfl⟩, rfl⟩
    have el : ((frK fresh).map fun kv => kD kv.1).length = fresh.length := by unfold frK; rw [List.length_map, List.length_map]
    rw [el, List.take_length, List.drop_length]
    refine ⟨_, rfl, fun w dd => UpV.all (by rw [List.length_set, List.length_set]; exact Nat.le_refl _) w dd q⟩
theorem fo_lfall (T : Txt P K mg ad) : FnOk P w K mg base (L2.CX P w) 1 ad.f_lfall ad.fd_lfall p_lfall (spD K 3 F_lfall) :=
  fn_d T.F_lfall sc_lfall (y_lfall T) fun ds M Qd Xd _ h _ _ => u_lfall T h

end
end K93

namespace K93
open PySem PySem.Spec PyProof.Rows L2 DL
section
variable {P : Program} {w : World} {K : PySem.W.Frag} {mg : Str → Option Value} {base : Heap} {ad : Ad}
/-! ### a call that may be refused -/
def told (d : D) : D := .tup [.str "told", d]
def blockD (i : Int) : D := .tup [.str "block", .int i]
def fallenD (i : Int) : D := .tup [.str "fallen", .int i]
def syncM (ad : Ad) (M : Mm) (t s : Nat) (z : TSt) (left : Option Int) : Mm := (M.set s (.lst ((allA z.fresh z.safe).map .str)) ++ [MO.dK []]).set t (.ins ad.C_Tape (tpF z.many s M.length left z.kept))
def F_called (ad : Ad) : FD := fun ds M Qd _ => ∃ (t s f : Nat) (z : TSt) (word : Str) (d1 d2 : D), ds = [.ptr t, .str word, d1, d2] ∧ TAt ad M t s f z ∧ TOk z ∧
  ((word = "write" ∧ ∃ i x, d1 = .int i ∧ d2 = .str x ∧ x.length ≤ 1000 ∧ (0 ≤ i ∧ i < z.many ∧ x.length = 64 → Qd (told .non) (M.set f (.dK (frK (putA z.fresh i x))))) ∧ (¬ (0 ≤ i ∧ i < z.many ∧ x.length = 64) → Qd (blockD i) M)) ∨
   (word = "order" ∧ ∃ i kept, d1 = .int i ∧ lsOf M d2 = some (kept.map D.int) ∧ Qd (told .non) (M.set t (.ins ad.C_Tape (tpF z.many s f (some i) kept)))) ∨
   (word = "sync" ∧ (∀ i, z.left = some i → 0 ≤ i) ∧ (z.left = some 0 → Qd (fallenD (cnt z.fresh z.kept)) (fallM ad M t s z.many (fallA z.fresh z.kept z.safe) z.kept)) ∧ (∀ left', z.left ≠ some 0 → left' = z.left.map (· - 1) → Qd (told .non) (syncM ad M t s z left'))) ∨
   (word = "read" ∧ ∃ i, d1 = .int i ∧ (0 ≤ i ∧ i < z.many → ∀ x, rdA z.fresh z.safe i = some x → Qd (told (.str x)) M) ∧ (¬ (0 ≤ i ∧ i < z.many) → Qd (blockD i) M)) ∨
   (word = "fall" ∧ ∃ kept, lsOf M d1 = some (kept.map D.int) ∧ Qd (told (.int (cnt z.fresh kept))) (fallM ad M t s z.many (fallA z.fresh kept z.safe) z.kept)))
/-! _law_called -/
def w_called_103 (K : PySem.W.Frag) (ad : Ad) : SW := dRet (dTup (dCons (dC (.str "told")) (dCons (dMeth ad.C_Tape "write" 3 (F_write ad) (dVar 0) (dCons (dVar 2) (dCons (dVar 3) dNil))) dNil)))
def w_called_105 (K : PySem.W.Frag) (ad : Ad) : SW := dRet (dTup (dCons (dC (.str "told")) (dCons (dMeth ad.C_Tape "order" 3 (F_order ad) (dVar 0) (dCons (dVar 2) (dCons (dVar 3) dNil))) dNil)))
def w_called_107 (K : PySem.W.Frag) (ad : Ad) : SW := dRet (dTup (dCons (dC (.str "told")) (dCons (dMeth ad.C_Tape "sync" 1 (F_sync ad) (dVar 0) dNil) dNil)))
def w_called_108 (K : PySem.W.Frag) (ad : Ad) : SW := dRet (dTup (dCons (dC (.str "told")) (dCons (dIfE (dTest (dOp wEqF (dVar 1) (dC (.str "read")))) (dMeth ad.C_Tape "read" 2 (F_read ad) (dVar 0) (dCons (dVar 2) dNil)) (dMeth ad.C_Tape "fall" 2 (F_fall ad) (dVar 0) (dCons (dVar 2) dNil))) dNil)))
def w_called_106 (K : PySem.W.Frag) (ad : Ad) : SW := dSeq (dIf (dTest (dOp wEqF (dVar 1) (dC (.str "sync")))) (w_called_107 K ad) dNext) (w_called_108 K ad)
def w_called_104 (K : PySem.W.Frag) (ad : Ad) : SW := dSeq (dIf (dTest (dOp wEqF (dVar 1) (dC (.str "order")))) (w_called_105 K ad) dNext) (w_called_106 K ad)
def w_called_102 (K : PySem.W.Frag) (ad : Ad) : SW := dSeq (dIf (dTest (dOp wEqF (dVar 1) (dC (.str "write")))) (w_called_103 K ad) dNext) (w_called_104 K ad)
def w_called_112 (K : PySem.W.Frag) (ad : Ad) (a C dd : Addr) : SW := dRet (dTup (dCons (dC (.str "fallen")) (dCons (dXfC ad.C_Fallen (dVar 4) a C dd "at") dNil)))
def w_called_110 (K : PySem.W.Frag) (ad : Ad) (a C dd : Addr) : SW := dRet (dTup (dCons (dC (.str "block")) (dCons (dXfC ad.C_BlockWrong (dVar 4) a C dd "at") dNil)))
def w_called_101 (K : PySem.W.Frag) (ad : Ad) : SW := dTry K (w_called_102 K ad) ({ c := .ref ad.C_BlockWrong, at_ := (some 4), w := fun a C dd => (w_called_110 K ad a C dd) } :: ({ c := .ref ad.C_Fallen, at_ := (some 4), w := fun a C dd => (w_called_112 K ad a C dd) } :: []))
def w_called (K : PySem.W.Frag) (ad : Ad) : SW := (w_called_101 K ad)
theorem y_called (T : Txt P K mg ad) (E : XK) : DSs (XB P w K mg base n_called "_law_called" (defScope s_called) ad.f_called 5 E) K (WF E) (defBody s_called) (w_called K ad) := by
  unfold w_called w_called_101 w_called_110 w_called_112 w_called_102 w_called_104 w_called_106 w_called_108 w_called_107 w_called_105 w_called_103
  exact (dss_one (ds_try (fun _ => rfl) (fun _ => rfl) (fun _ => rfl) (fun i => xb_takes i) (fun _ => (dss_cons (ds_if (dt_cmp do_eqF (de_var 1) de_str) (dss_one (ds_ret (de_tup (da_cons de_str (da_cons (de_meth (de_var 0) (fun _ => T.cl_Tape) (fun _ => T.m_write) (fun _ => (fo_write T)) (fun i => (xb_room (P := P) (w := w) (K := K) (mg := mg) (base := base) (N := n_called) (E := E) i.1.1).mono (by decide)) (fun i => xt_takes i) (fun _ => T.b_write) (da_cons (de_var 2) (da_cons (de_var 3) da_nil))) da_nil))))) dss_nil) (dss_cons (ds_if (dt_cmp do_eqF (de_var 1) de_str) (dss_one (ds_ret (de_tup (da_cons de_str (da_cons (de_meth (de_var 0) (fun _ => T.cl_Tape) (fun _ => T.m_order) (fun _ => (fo_order T)) (fun i => (xb_room (P := P) (w := w) (K := K) (mg := mg) (base := base) (N := n_called) (E := E) i.1.1).mono (by decide)) (fun i => xt_takes i) (fun _ => T.b_order) (da_cons (de_var 2) (da_cons (de_var 3) da_nil))) da_nil))))) dss_nil) (dss_cons (ds_if (dt_cmp do_eqF (de_var 1) de_str) (dss_one (ds_ret (de_tup (da_cons de_str (da_cons (de_meth0 (de_var 0) (fun _ => T.cl_Tape) (fun _ => T.m_sync) (fun _ => (fo_sync T)) (fun i => (xb_room (P := P) (w := w) (K := K) (mg := mg) (base := base) (N := n_called) (E := E) i.1.1).mono (by decide)) (fun i => xt_takes i) (fun _ => T.b_sync)) da_nil))))) dss_nil) (dss_one (ds_ret (de_tup (da_cons de_str (da_cons (de_ifE (dt_cmp do_eqF (de_var 1) de_str) (de_meth (de_var 0) (fun _ => T.cl_Tape) (fun _ => T.m_read) (fun _ => (fo_read T)) (fun i => (xb_room (P := P) (w := w) (K := K) (mg := mg) (base := base) (N := n_called) (E := E) i.1.1).mono (by decide)) (fun i => xt_takes i) (fun _ => T.b_read) (da_cons (de_var 2) da_nil)) (de_meth (de_var 0) (fun _ => T.cl_Tape) (fun _ => T.m_fall) (fun _ => (fo_fall T)) (fun i => (xb_room (P := P) (w := w) (K := K) (mg := mg) (base := base) (N := n_called) (E := E) i.1.1).mono (by decide)) (fun i => xt_takes i) (fun _ => T.b_fall) (da_cons (de_var 2) da_nil))) da_nil))))))))) (.named (j := 4) (fun _ => ⟨rfl, by decide, .inl T.g_BlockWrong⟩) rfl (fun _ => sc_called.nd) (fun _ => rfl) (fun _ => rfl) (fun a C dd => (dss_one (ds_ret (de_tup (da_cons de_str (da_cons (de_xfC (X := XB P w K mg base n_called "_law_called" (defScope s_called) ad.f_called 5 E) (fun _ => rfl) T.xf_BlockWrong T.ok_BlockWrong.2.nA (de_var 4)) da_nil)))))) (.named (j := 4) (fun _ => ⟨rfl, by decide, .inl T.g_Fallen⟩) rfl (fun _ => sc_called.nd) (fun _ => rfl) (fun _ => rfl) (fun a C dd => (dss_one (ds_ret (de_tup (da_cons de_str (da_cons (de_xfC (X := XB P w K mg base n_called "_law_called" (defScope s_called) ad.f_called 5 E) (fun _ => rfl) T.xf_Fallen T.ok_Fallen.2.nA (de_var 4)) da_nil)))))) .nil))))
theorem r_word {M : Mm} {ρ : Ev} {Q : DK} {X : XD} {i : Nat} {w : Str} {w' : Str} {b : Bool} (h : ρ[i]? = some (some (.str w))) (e : decide (w = w') = b) (q : Q (.bl b) M) : dOp wEqF (dVar i) (dC (.str w')) ρ M Q X :=
  ⟨_, h, _, _, rfl, rfl, rfl, by rw [dec_ss, e]; exact q⟩
def clC (K : PySem.W.Frag) (ad : Ad) : List DCl := [{ c := .ref ad.C_BlockWrong, at_ := some 4, w := fun a C dd => w_called_110 K ad a C dd }, { c := .ref ad.C_Fallen, at_ := some 4, w := fun a C dd => w_called_112 K ad a C dd }]
theorem u_called (T : Txt P K mg ad) {ds : List D} {M : Mm} {Qd : DK} {Xd : XD} (h : F_called ad ds M Qd Xd) : w_called K ad (DsF M Qd Xd) (startD 5 ds) M := by
  obtain ⟨t, s, f, z, word, d1, d2, rfl, A, ok, h⟩ := h
  have two : (2 : Nat) ≤ sizeLine := by rw [sizeLine_eq]; decide
  have block : ∀ (i : Int), Qd (blockD i) M → dClauses K (DsF M Qd Xd) (clC K ad) ad.C_BlockWrong (bwD i) (startD 5 [.ptr t, .str word, d1, d2]) M := fun i q =>
    ⟨true, T.e_BlockWrong_BlockWrong, fun _ a dd => ⟨rfl, _, rfl, _, _, _, rfl, rfl, two, fun w d => UpV.all (Nat.le_refl _) w d q⟩, fun z => by cases z⟩
  have fallen : ∀ (i : Int) (M' : Mm), M.length ≤ M'.length → Qd (fallenD i) M' → dClauses K (DsF M Qd Xd) (clC K ad) ad.C_Fallen (flD i) (startD 5 [.ptr t, .str word, d1, d2]) M' := fun i M' hl q =>
    ⟨false, T.e_Fallen_BlockWrong, fun z => (by cases z), fun _ => ⟨true, T.e_Fallen_Fallen, fun _ a dd => ⟨rfl, _, rfl, _, _, _, rfl, rfl, two, fun w d => UpV.all hl w d q⟩, fun z => by cases z⟩⟩
  have lf : M.length ≤ (fallM ad M t s z.many (fallA z.fresh z.kept z.safe) z.kept).length := by unfold fallM; simp
  rcases h with ⟨rfl, i, x, rfl, rfl, hx, q1, q2⟩ | ⟨rfl, i, kept, rfl, hd, q⟩ | ⟨rfl, l0, q1, q2⟩ | ⟨rfl, i, rfl, q1, q2⟩ | ⟨rfl, kept, hd, q⟩
  · refine r_word (X := Xd) rfl (b := true) (by decide +kernel) ⟨_, rfl, if_t rfl ?_⟩
    refine ⟨_, rfl, t, _, rfl, A.o, rfl, _, rfl, _, rfl, rfl, t, s, f, z, i, x, rfl, A, ok, hx, fun c => ⟨two, fun w d => UpV.all (by simp) w d (q1 c)⟩, fun c => block i (q2 c)⟩
  · refine r_word (X := Xd) rfl (b := false) (by decide +kernel) ⟨_, rfl, if_f rfl ?_⟩
    refine r_word (X := Xd) rfl (b := true) (by decide +kernel) ⟨_, rfl, if_t rfl ?_⟩
    refine ⟨_, rfl, t, _, rfl, A.o, rfl, _, rfl, _, rfl, rfl, t, s, f, z, i, d2, kept, rfl, hd, A, two, fun w d => UpV.all (by simp) w d q⟩
  · refine r_word (X := Xd) rfl (b := false) (by decide +kernel) ⟨_, rfl, if_f rfl ?_⟩
    refine r_word (X := Xd) rfl (b := false) (by decide +kernel) ⟨_, rfl, if_f rfl ?_⟩
    refine r_word (X := Xd) rfl (b := true) (by decide +kernel) ⟨_, rfl, if_t rfl ?_⟩
    refine ⟨_, rfl, t, _, rfl, A.o, rfl, rfl, t, s, f, z, rfl, A, ok, l0, fun c M' e => ?_, fun left' c e => ⟨two, fun w d => UpV.all (by simp) w d (q2 left' c e)⟩⟩
    subst e
    exact fallen _ _ lf (q1 c)
  · refine r_word (X := Xd) rfl (b := false) (by decide +kernel) ⟨_, rfl, if_f rfl ?_⟩
    refine r_word (X := Xd) rfl (b := false) (by decide +kernel) ⟨_, rfl, if_f rfl ?_⟩
    refine r_word (X := Xd) rfl (b := false) (by decide +kernel) ⟨_, rfl, if_f rfl ?_⟩
    refine r_word (X := Xd) rfl (b := true) (by decide +kernel) ⟨_, rfl, if_t rfl ?_⟩
    exact ⟨_, rfl, t, _, rfl, A.o, rfl, _, rfl, rfl, t, s, f, z, i, rfl, A, ok, fun c x hx => ⟨two, fun w d => UpV.all (Nat.le_refl _) w d (q1 c x hx)⟩, fun c => block i (q2 c)⟩
  · refine r_word (X := Xd) rfl (b := false) (by decide +kernel) ⟨_, rfl, if_f rfl ?_⟩
    refine r_word (X := Xd) rfl (b := false) (by decide +kernel) ⟨_, rfl, if_f rfl ?_⟩
    refine r_word (X := Xd) rfl (b := false) (by decide +kernel) ⟨_, rfl, if_f rfl ?_⟩
    refine r_word (X := Xd) rfl (b := false) (by decide +kernel) ⟨_, rfl, if_f rfl ?_⟩
    exact ⟨_, rfl, t, _, rfl, A.o, rfl, d1, rfl, rfl, t, s, f, z, d1, kept, rfl, hd, A, ok, two, fun w d => UpV.all (by unfold fallM; simp) w d q⟩
theorem fo_called (T : Txt P K mg ad) : FnOk P w K mg base (L2.CX P w) 6 ad.f_called ad.fd_called p_called (spD K 4 (F_called ad)) :=
  fn_d T.F_called sc_called (y_called T) fun ds M Qd Xd _ h _ _ => u_called T h

end
end K93

namespace K93
open PySem PySem.Spec PyProof.Rows L2 DL
section
variable {P : Program} {w : World} {K : PySem.W.Frag} {mg : Str → Option Value} {base : Heap} {ad : Ad}
/-! ### the law: the tape and the law's own lists -/
structure LSt (ad : Ad) (M : Mm) (d t s f s' f' : Nat) (xs : List Int) (a b c : Int) (z : TSt) : Prop where
  dr : M[d]? = some (.lst (drD xs a b c))
  dk : DrOk xs a b
  A : TAt ad M t s f z
  ok : TOk z
  ls : M[s']? = some (.lst (z.safe.map .str))
  lf : M[f']? = some (.dK (frK z.fresh))
  ns : s ≠ s'
  nf : f ≠ f'
  l0 : ∀ i, z.left = some i → 0 ≤ i
theorem dr_ne {M : Mm} {d s : Nat} {xs : List Int} {a b c : Int} {l : List Str} (h : M[d]? = some (.lst (drD xs a b c))) (h2 : M[s]? = some (.lst (l.map D.str))) : d ≠ s := fun e => by
  rw [e, h2] at h
  have e2 : l.map D.str = drD xs a b c := by injection (Option.some.inj h)
  cases l with
  | nil => cases e2
  | cons x l => cases e2
section
variable {M : Mm} {d t s f s' f' : Nat} {xs : List Int} {a b c : Int} {z : TSt} {ρ : Ev} {Q : DK} {X : XD}
theorem LSt.nes (L : LSt ad M d t s f s' f' xs a b c z) : d ≠ s ∧ d ≠ s' ∧ d ≠ t ∧ d ≠ f ∧ d ≠ f' ∧ t ≠ s' ∧ t ≠ f' ∧ s ≠ f' ∧ s' ≠ f ∧ s' ≠ f' := by
  refine ⟨dr_ne L.dr L.A.s, dr_ne L.dr L.ls, ?_, ?_, ?_, ?_, ?_, ?_, ?_, ?_⟩
  · intro e; have h := L.dr; rw [e, L.A.o] at h; cases h
  · intro e; have h := L.dr; rw [e, L.A.f] at h; cases h
  · intro e; have h := L.dr; rw [e, L.lf] at h; cases h
  · intro e; have h := L.ls; rw [← e, L.A.o] at h; cases h
  · intro e; have h := L.lf; rw [← e, L.A.o] at h; cases h
  · intro e; have h := L.A.s; rw [e, L.lf] at h; cases h
  · intro e; have h := L.ls; rw [e, L.A.f] at h; cases h
  · intro e; have h := L.ls; rw [e, L.lf] at h; cases h
theorem LSt.draw (L : LSt ad M d t s f s' f' xs a b c z) {a' b' c' : Int} (ok : DrOk xs a' b') : LSt ad (M.set d (.lst (drD xs a' b' c'))) d t s f s' f' xs a' b' c' z := by
  obtain ⟨n1, n2, n3, n4, n5, _⟩ := L.nes
  exact ⟨set_at L.dr, ok, ⟨by rw [set_ne n3]; exact L.A.o, by rw [set_ne n1]; exact L.A.s, by rw [set_ne n4]; exact L.A.f⟩, L.ok, by rw [set_ne n2]; exact L.ls, by rw [set_ne n5]; exact L.lf, L.ns, L.nf, L.l0⟩
theorem LSt.app (L : LSt ad M d t s f s' f' xs a b c z) {u : Mm} : LSt ad (M ++ u) d t s f s' f' xs a b c z :=
  ⟨app_at L.dr, L.dk, ⟨app_at L.A.o, app_at L.A.s, app_at L.A.f⟩, L.ok, app_at L.ls, app_at L.lf, L.ns, L.nf, L.l0⟩
/-- _law_draw(draws, lim) -/
theorem r_draw (L : LSt ad M d t s f s' f' xs a b c z) (h1 : ρ[1]? = some (some (.ptr d))) {wl : DT} {lim : Int} (hl : ∀ Q X, Q (.int lim) M → wl ρ M Q X) (l0 : 0 < lim) (l1 : lim < 1073741824)
    (k : ∀ M' a' b' c' v, LSt ad M' d t s f s' f' xs a' b' c' z → M'.length = M.length → (∀ i, i ≠ d → M'[i]? = M[i]?) → (∀ n, Wf n M → Wf n M') → 0 ≤ v → v < lim → Q (.int v) M') : dCallS 2 F_draw (dCons (dVar 1) (dCons wl dNil)) ρ M Q X := by
  refine ⟨_, h1, hl _ _ ⟨rfl, d, xs, a, b, c, lim, rfl, L.dr, L.dk, l0, l1, fun a' b' c' v ok v0 v1 => ?_⟩⟩
  exact k _ a' b' c' v (L.draw ok) (by rw [List.length_set]) (fun i hi => set_ne (Ne.symm hi)) (fun n hw => hw.set drD_bd) v0 v1
end
def rhoL (ns : List Int) (d : Nat) (m : Int) (t s' : Nat) (o5 : Option D) (f' : Nat) (left : Option Int) (kept : List Int) (o9 o10 o11 o12 o13 o14 o15 : Option D) : Ev :=
  [some (.scr ns), some (.ptr d), some (.int m), some (.ptr t), some (.ptr s'), o5, some (.ptr f'), some (leftD left), some (.lst (kept.map .int)), o9, o10, o11, o12, o13, o14, o15]
/-- behind i turns -/
def LI (ad : Ad) (ns : List Int) (d t s' : Nat) (m : Int) (M0 : Mm) (i : Nat) (ρ : Ev) (M : Mm) : Prop := ∃ s f f' xs a b c z o5 o9 o10 o11 o12 o13 o14 o15, ρ = rhoL ns d m t s' o5 f' z.left z.kept o9 o10 o11 o12 o13 o14 o15 ∧ z.many = m ∧ 1 ≤ m ∧ m ≤ 8 ∧
  LSt ad M d t s f s' f' xs a b c z ∧ M0.length ≤ M.length ∧ z.fresh.length ≤ i
def rdV (z : TSt) (i : Int) : Str := (rdA z.fresh z.safe i).getD Str.empty
theorem rd_some {z : TSt} (ok : TOk z) {i : Int} (h0 : 0 ≤ i) (h1 : i < z.many) : rdA z.fresh z.safe i = some (rdV z i) := by
  unfold rdV
  have hn : i.toNat < z.safe.length := by have := ok.len; omega
  unfold rdA
  cases z.fresh.find? fun p => decide (p.1 = i) with
  | none => simp [hn]
  | some p => rfl
theorem sm_pair {M : Mm} {n : Nat} {w : Str} {x : D} {v : V} (h : vOf x = some v) : Sm M (n + 1) (.tup [.str w, x]) (.tup [.str w, x]) := by
  refine .inr ⟨_, _, .inr ⟨rfl, rfl⟩, rfl, by show 2 < 1000000; decide, fun i a b ha hb => ?_⟩
  have flat : ∀ {n : Nat} {e : D} {u : V}, vOf e = some u → Sm M n e e := fun {n e u} hu => by
    cases n with
    | zero => exact ⟨rfl, u, hu⟩
    | succ n => exact .inl ⟨rfl, u, hu⟩
  rw [ha] at hb
  have e := Option.some.inj hb
  subst e
  match i, ha with
  | 0, ha => have e := Option.some.inj ha; subst e; exact flat rfl
  | 1, ha => have e := Option.some.inj ha; subst e; exact flat h
  | i + 2, ha => simp at ha
theorem sm_list {M : Mm} {n : Nat} {l : List D} (hl : l.length < 1000000) (h : ∀ d ∈ l, ∃ v, vOf d = some v) : Sm M (n + 1) (.lst l) (.lst l) := by
  refine .inr ⟨_, _, .inl ⟨rfl, rfl⟩, rfl, hl, fun i a b ha hb => ?_⟩
  rw [ha] at hb
  have e := Option.some.inj hb
  subst e
  obtain ⟨v, hv⟩ := h a (List.mem_of_getElem? ha)
  cases n with
  | zero => exact ⟨rfl, v, hv⟩
  | succ n => exact .inl ⟨rfl, v, hv⟩
/-- one read of the law's own lists: fresh.get(one, safe[one]) -/
theorem r_own {M : Mm} {ρ : Ev} {Q : DK} {X : XD} {s' f' j6 j4 j : Nat} {z : TSt} {i : Int} (ok : TOk z) (h6 : ρ[j6]? = some (some (.ptr f'))) (h4 : ρ[j4]? = some (some (.ptr s'))) (hj : ρ[j]? = some (some (.int i))) (hf : M[f']? = some (.dK (frK z.fresh))) (hs : M[s']? = some (.lst (z.safe.map .str)))
    (h0 : 0 ≤ i) (h1 : i < z.many) (q : Q (.str (rdV z i)) M) : dGet2 (dVar j6) (dVar j) (dOp wIx (dVar j4) (dVar j)) ρ M Q X := by
  obtain ⟨n, rfl⟩ := Int.eq_ofNat_of_zero_le h0
  have hn : n < z.safe.length := by have := ok.len; omega
  refine ⟨_, h6, _, dk_at hf, _, hj, _, h4, _, hj, .inl ⟨_, _, .str z.safe[n], sq_at hs, rfl, at_map rfl (List.getElem?_eq_getElem hn), ?_⟩⟩
  refine ⟨_, _, dk_at hf, rfl, ?_⟩
  rw [frK_val]
  have e := rd_some ok h0 h1
  unfold rdA at e
  cases e2 : z.fresh.find? fun p => decide (p.1 = (n : Int)) with
  | none =>
    rw [e2] at e
    have e3 : z.safe[n] = rdV z n := by
      have : z.safe[n]? = some (rdV z n) := by simpa using e
      exact (List.getElem?_eq_some_iff.mp this).2
    rw [← e3] at q
    exact q
  | some p =>
    rw [e2] at e
    have e3 : p.2 = rdV z n := Option.some.inj e
    rw [← e3] at q
    exact q
/-! law -/
def w_law_137 (K : PySem.W.Frag) (ad : Ad) : SW := dAsg (dOp wIx (dLstB (dCons (dVar 2) (dCons (dNeg (dC (.int 1))) (dCons (dC (.int 99)) dNil)))) (dCallS 2 F_draw (dCons (dVar 1) (dCons (dC (.int 3)) dNil)))) (dgName 5)
def w_law_140 (K : PySem.W.Frag) (ad : Ad) : SW := dAsg (dTup (dCons (dC (.str "block")) (dCons (dVar 5) dNil))) (dgName 13)
def w_law_142 (K : PySem.W.Frag) (ad : Ad) : SW := dDPut (dVar 6) (dVar 5) (dVar 14)
def w_law_139 (K : PySem.W.Frag) (ad : Ad) : SW := dIf (dOr (dNot (dTest (dChain wLe wLt (dC (.int 0)) (dVar 5) (dVar 2)))) (dTest (dOp wNeF (dCall wLen (dCons (dVar 14) dNil)) (dC (.int 64))))) (w_law_140 K ad) (w_law_142 K ad)
def w_law_138 (K : PySem.W.Frag) (ad : Ad) : SW := dSeq (dAsg (dCallS 4 (F_called ad) (dCons (dVar 3) (dCons (dC (.str "write")) (dCons (dVar 5) (dCons (dVar 14) dNil))))) (dgName 15)) (w_law_139 K ad)
def w_law_136 (K : PySem.W.Frag) (ad : Ad) : SW := dSeq (dIf (dTest (dOp wEqF (dCallS 2 F_draw (dCons (dVar 1) (dCons (dC (.int 10)) dNil))) (dC (.int 0)))) (w_law_137 K ad) dNext) (w_law_138 K ad)
def w_law_135 (K : PySem.W.Frag) (ad : Ad) : SW := dSeq (dAsg (dOp wMulB (dOp wIx (dC (.str "abcdefgh")) (dCallS 2 F_draw (dCons (dVar 1) (dCons (dC (.int 8)) dNil)))) (dOp wIx (dLstB (dCons (dC (.int 64)) (dCons (dC (.int 64)) (dCons (dC (.int 64)) (dCons (dC (.int 64)) (dCons (dC (.int 64)) (dCons (dC (.int 63)) (dCons (dC (.int 65)) dNil)))))))) (dCallS 2 F_draw (dCons (dVar 1) (dCons (dC (.int 7)) dNil))))) (dgName 14)) (w_law_136 K ad)
def w_law_147 (K : PySem.W.Frag) (ad : Ad) : SW := dAsg (dC .non) (dgName 7)
def w_law_146 (K : PySem.W.Frag) (ad : Ad) : SW := dSeq (dAsg (dTup (dCons (dC (.str "fallen")) (dCons (dCallS 3 F_lfall (dCons (dVar 4) (dCons (dVar 6) (dCons (dVar 8) dNil)))) dNil))) (dgName 13)) (w_law_147 K ad)
def w_law_151 (K : PySem.W.Frag) (ad : Ad) : SW := dAsg (dOp wDGet (dVar 6) (dVar 12)) (dgSet (dVar 4) (dVar 12))
def w_law_152 (K : PySem.W.Frag) (ad : Ad) : SW := dAsg dNewK (dgName 6)
def w_law_150 (K : PySem.W.Frag) (ad : Ad) : SW := dSeq (dFor (diList (dCall wListD (dCons (dVar 6) dNil))) (dgName 12) (dThen (w_law_151 K ad))) (w_law_152 K ad)
def w_law_149 (K : PySem.W.Frag) (ad : Ad) : SW := dSeq (dAsg (dIfE (dTest (dOp wIsN (dVar 7) (dC .non))) (dC .non) (dOp wSub (dVar 7) (dC (.int 1)))) (dgName 7)) (w_law_150 K ad)
def w_law_145 (K : PySem.W.Frag) (ad : Ad) : SW := dIf (dTest (dOp wEqF (dVar 7) (dC (.int 0)))) (w_law_146 K ad) (w_law_149 K ad)
def w_law_144 (K : PySem.W.Frag) (ad : Ad) : SW := dSeq (dAsg (dCallS 4 (F_called ad) (dCons (dVar 3) (dCons (dC (.str "sync")) (dCons (dC .non) (dCons (dC .non) dNil))))) (dgName 15)) (w_law_145 K ad)
def w_law_156 (K : PySem.W.Frag) (ad : Ad) : SW := dAsg (dC .non) (dgName 7)
def w_law_155 (K : PySem.W.Frag) (ad : Ad) : SW := dSeq (dAsg (dTup (dCons (dC (.str "told")) (dCons (dCallS 3 F_lfall (dCons (dVar 4) (dCons (dVar 6) (dCons (dVar 11) dNil)))) dNil))) (dgName 13)) (w_law_156 K ad)
def w_law_154 (K : PySem.W.Frag) (ad : Ad) : SW := dSeq (dAsg (dCallS 4 (F_called ad) (dCons (dVar 3) (dCons (dC (.str "fall")) (dCons (dVar 11) (dCons (dC .non) dNil))))) (dgName 15)) (w_law_155 K ad)
def w_law_161 (K : PySem.W.Frag) (ad : Ad) : SW := dDrop (dAppend (dVar 11) (dCons (dC (.int 0)) dNil))
def w_law_160 (K : PySem.W.Frag) (ad : Ad) : SW := dSeq (dAsg (dCallS 4 (F_called ad) (dCons (dVar 3) (dCons (dC (.str "order")) (dCons (dVar 7) (dCons (dVar 11) dNil))))) (dgName 15)) (w_law_161 K ad)
def w_law_159 (K : PySem.W.Frag) (ad : Ad) : SW := dSeq (dAsg (dCall wListC (dCons (dVar 11) dNil)) (dgName 8)) (w_law_160 K ad)
def w_law_158 (K : PySem.W.Frag) (ad : Ad) : SW := dSeq (dAsg (dCallS 2 F_draw (dCons (dVar 1) (dCons (dC (.int 3)) dNil))) (dgName 7)) (w_law_159 K ad)
def w_law_165 (K : PySem.W.Frag) (ad : Ad) : SW := dAsg (dIfE (dTest (dChain wLe wLt (dC (.int 0)) (dVar 5) (dVar 2))) (dTup (dCons (dC (.str "told")) (dCons (dGet2 (dVar 6) (dVar 5) (dOp wIx (dVar 4) (dVar 5))) dNil))) (dTup (dCons (dC (.str "block")) (dCons (dVar 5) dNil)))) (dgName 13)
def w_law_164 (K : PySem.W.Frag) (ad : Ad) : SW := dSeq (dAsg (dCallS 4 (F_called ad) (dCons (dVar 3) (dCons (dC (.str "read")) (dCons (dVar 5) (dCons (dC .non) dNil))))) (dgName 15)) (w_law_165 K ad)
def w_law_163 (K : PySem.W.Frag) (ad : Ad) : SW := dSeq (dAsg (dOp wIx (dLstB (dCons (dVar 2) (dCons (dNeg (dC (.int 1))) (dCons (dVar 5) dNil)))) (dCallS 2 F_draw (dCons (dVar 1) (dCons (dC (.int 3)) dNil)))) (dgName 5)) (w_law_164 K ad)
def w_law_157 (K : PySem.W.Frag) (ad : Ad) : SW := dIf (dTest (dOp wEqF (dVar 10) (dC (.int 8)))) (w_law_158 K ad) (w_law_163 K ad)
def w_law_153 (K : PySem.W.Frag) (ad : Ad) : SW := dIf (dTest (dOp wEqF (dVar 10) (dC (.int 7)))) (w_law_154 K ad) (w_law_157 K ad)
def w_law_143 (K : PySem.W.Frag) (ad : Ad) : SW := dIf (dTest (dOp wLt (dVar 10) (dC (.int 7)))) (w_law_144 K ad) (w_law_153 K ad)
def w_law_167 (K : PySem.W.Frag) (ad : Ad) : SW := dRet (dC (.bl false))
def w_law_169 (K : PySem.W.Frag) (ad : Ad) : SW := dRet (dC (.bl false))
def w_law_168 (K : PySem.W.Frag) (ad : Ad) : SW := dIf (dNot (dTest (dCallS 2 (F_same 2) (dCons (dSoE (dLc (diRng1 (dVar 2)) 12 dYes (dMeth ad.C_Tape "read" 2 (F_read ad) (dVar 3) (dCons (dVar 12) dNil)))) (dCons (dSoE (dLc (diRng1 (dVar 2)) 12 dYes (dGet2 (dVar 6) (dVar 12) (dOp wIx (dVar 4) (dVar 12))))) dNil))))) (w_law_169 K ad) dNext
def w_law_166 (K : PySem.W.Frag) (ad : Ad) : SW := dSeq (dIf (dOr (dNot (dTest (dCallS 2 (F_same 2) (dCons (dVar 15) (dCons (dVar 13) dNil))))) (dNot (dTest (dCallS 2 (F_same 2) (dCons (dMeth ad.C_Tape "unsafe" 1 (F_unsafe ad) (dVar 3) dNil) (dCons (dCall wSortI (dCons (dCall wListD (dCons (dVar 6) dNil)) dNil)) dNil)))))) (w_law_167 K ad) dNext) (w_law_168 K ad)
def w_law_134 (K : PySem.W.Frag) (ad : Ad) : SW := dSeq (dThen (dIf (dTest (dOp wLt (dVar 10) (dC (.int 4)))) (w_law_135 K ad) (w_law_143 K ad))) (w_law_166 K ad)
def w_law_133 (K : PySem.W.Frag) (ad : Ad) : SW := dSeq (dAsg (dTup (dCons (dC (.str "told")) (dCons (dC .non) dNil))) (dgName 13)) (w_law_134 K ad)
def w_law_132 (K : PySem.W.Frag) (ad : Ad) : SW := dSeq (dSo (dAsg (dLc (diRng1 (dVar 2)) 12 (dTest (dOp wEqF (dCallS 2 F_draw (dCons (dVar 1) (dCons (dC (.int 2)) dNil))) (dC (.int 0)))) (dVar 12)) (dgName 11))) (w_law_133 K ad)
def w_law_131 (K : PySem.W.Frag) (ad : Ad) : SW := dSeq (dAsg (dCallS 2 F_draw (dCons (dVar 1) (dCons (dVar 2) dNil))) (dgName 5)) (w_law_132 K ad)
def w_law_130 (K : PySem.W.Frag) (ad : Ad) : SW := dSeq (dAsg (dCallS 2 F_draw (dCons (dVar 1) (dCons (dC (.int 10)) dNil))) (dgName 10)) (w_law_131 K ad)
def w_law_170 (K : PySem.W.Frag) (ad : Ad) : SW := dRet (dC (.bl true))
def w_law_129 (K : PySem.W.Frag) (ad : Ad) : SW := dSeq (dFor (diRng1 (dC (.int 30))) (dgName 9) (dThen (w_law_130 K ad))) (w_law_170 K ad)
def w_law_128 (K : PySem.W.Frag) (ad : Ad) : SW := dSeq (dAsg (dLstB dNil) (dgName 8)) (w_law_129 K ad)
def w_law_127 (K : PySem.W.Frag) (ad : Ad) : SW := dSeq (dAsg (dC .non) (dgName 7)) (w_law_128 K ad)
def w_law_126 (K : PySem.W.Frag) (ad : Ad) : SW := dSeq (dAsg dNewK (dgName 6)) (w_law_127 K ad)
def w_law_125 (K : PySem.W.Frag) (ad : Ad) : SW := dSeq (dAsg (dSoE (dLc (diRng1 (dVar 2)) 5 dYes (dOp wMulB (dC (.str " ")) (dC (.int 64))))) (dgName 4)) (w_law_126 K ad)
def w_law_124 (K : PySem.W.Frag) (ad : Ad) : SW := dSeq (dAsg (dMake ad.C_Tape 2 (F_init ad) (dCons (dVar 2) dNil)) (dgName 3)) (w_law_125 K ad)
def w_law_123 (K : PySem.W.Frag) (ad : Ad) : SW := dSeq (dAsg (dOp wAdd (dC (.int 1)) (dCallS 2 F_draw (dCons (dVar 1) (dCons (dC (.int 8)) dNil)))) (dgName 2)) (w_law_124 K ad)
def w_law_122 (K : PySem.W.Frag) (ad : Ad) : SW := dSeq (dAsg (dCallS 1 F_draws (dCons (dVar 0) dNil)) (dgName 1)) (w_law_123 K ad)
def w_law (K : PySem.W.Frag) (ad : Ad) : SW := (w_law_122 K ad)
theorem y_law (T : Txt P K mg ad) (E : XK) : DSs (XB P w K mg base n_law "law" (defScope s_law) ad.f_law 6 E) K (WF E) (defBody s_law) (w_law K ad) := by
  unfold w_law w_law_122 w_law_123 w_law_124 w_law_125 w_law_126 w_law_127 w_law_128 w_law_129 w_law_170 w_law_130 w_law_131 w_law_132 w_law_133 w_law_134 w_law_166 w_law_168 w_law_169 w_law_167 w_law_143 w_law_153 w_law_157 w_law_163 w_law_164 w_law_165 w_law_158 w_law_159 w_law_160 w_law_161 w_law_154 w_law_155 w_law_156 w_law_144 w_law_145 w_law_149 w_law_150 w_law_152 w_law_151 w_law_146 w_law_147 w_law_135 w_law_136 w_law_138 w_law_139 w_law_142 w_law_140 w_law_137
  exact (dss_cons (ds_set 1 (de_callS (fun _ => (fo_draws T)) (fun i => (xb_room i).mono (by decide)) (fun i => xb_takes i) (fun _ => T.g_draws) (fun _ => T.F_draws.kp) (fun _ => T.b_draws) (da_cons (de_var 0) da_nil)) (fun _ => sc_law.nd)) (dss_cons (ds_set 2 (de_op do_add de_int (de_callS (fun _ => (fo_draw T)) (fun i => (xb_room i).mono (by decide)) (fun i => xb_takes i) (fun _ => T.g_draw) (fun _ => T.F_draw.kp) (fun _ => T.b_draw) (da_cons (de_var 1) (da_cons de_int da_nil)))) (fun _ => sc_law.nd)) (dss_cons (ds_set 3 (de_make (fun _ => T.mk_Tape) (fun _ => (fo_init T)) (fun i => (xb_room i).mono (by decide)) (fun _ => T.g_Tape) (fun _ => T.b_init) (da_cons (de_var 2) da_nil)) (fun _ => sc_law.nd)) (dss_cons (ds_set 4 (de_so (de_lc 5 (fun _ => rfl) (fun _ => sc_law.nd) (di_rng1 (fun _ => T.n_range) (de_var 2)) (fun _ => blkOk_by (own := [("at", 5)]) (N := n_law) (sc := defScope s_law) (by decide +kernel)) (fun _ => pg_name (i := 5) sc_law.nd rfl (Or.inl rfl)) dts_nil (de_op do_mul de_str de_int))) (fun _ => sc_law.nd)) (dss_cons (ds_set 6 de_newK (fun _ => sc_law.nd)) (dss_cons (ds_set 7 de_non (fun _ => sc_law.nd)) (dss_cons (ds_set 8 (de_lstB da_nil) (fun _ => sc_law.nd)) (dss_cons (ds_for (fun i => xb_passes i) (fun _ => rfl) (di_rng1 (fun _ => T.n_range) de_int) (dg_var 9 (fun _ => sc_law.nd)) (dss_then (dss_cons (ds_set 10 (de_callS (fun _ => (fo_draw T)) (fun i => (xb_room i).mono (by decide)) (fun i => xb_takes i) (fun _ => T.g_draw) (fun _ => T.F_draw.kp) (fun _ => T.b_draw) (da_cons (de_var 1) (da_cons de_int da_nil))) (fun _ => sc_law.nd)) (dss_cons (ds_set 5 (de_callS (fun _ => (fo_draw T)) (fun i => (xb_room i).mono (by decide)) (fun i => xb_takes i) (fun _ => T.g_draw) (fun _ => T.F_draw.kp) (fun _ => T.b_draw) (da_cons (de_var 1) (da_cons (de_var 2) da_nil))) (fun _ => sc_law.nd)) (dss_cons (ds_so (ds_setLc 11 12 (fun _ => rfl) (fun _ => sc_law.nd) (fun _ => rfl) (fun _ => rfl) (fun _ => sw_true rfl rfl rfl (by decide +kernel)) (di_rng1 (fun _ => T.n_range) (de_var 2)) (fun _ => blkOk_by (own := [("one", 12)]) (N := n_law) (sc := defScope s_law) (by decide +kernel)) (fun _ => pg_name (i := 12) sc_law.nd rfl (Or.inl rfl)) (dts_one (dt_cmp do_eqF (de_callS (fun _ => (fo_draw T)) (fun i => (xb_room (P := P) (w := w) (K := K) (mg := mg) (base := base) (N := n_law) (E := E) i.1).mono (by decide)) (fun _ => takes0) (fun _ => T.g_draw) (fun _ => T.F_draw.kp) (fun _ => T.b_draw) (da_cons (de_var 1) (da_cons de_int da_nil))) de_int)) (de_var 12))) (dss_cons (ds_set 13 (de_tup (da_cons de_str (da_cons de_non da_nil))) (fun _ => sc_law.nd)) (dss_cons (ds_then (ds_if (dt_cmp do_lt (de_var 10) de_int) (dss_cons (ds_set 14 (de_op do_mul (de_ix (fun _ => rfl) de_str (de_callS (fun _ => (fo_draw T)) (fun i => (xb_room i).mono (by decide)) (fun i => xb_takes i) (fun _ => T.g_draw) (fun _ => T.F_draw.kp) (fun _ => T.b_draw) (da_cons (de_var 1) (da_cons de_int da_nil)))) (de_ix (fun _ => rfl) (de_lstB (da_cons de_int (da_cons de_int (da_cons de_int (da_cons de_int (da_cons de_int (da_cons de_int (da_cons de_int da_nil)))))))) (de_callS (fun _ => (fo_draw T)) (fun i => (xb_room i).mono (by decide)) (fun i => xb_takes i) (fun _ => T.g_draw) (fun _ => T.F_draw.kp) (fun _ => T.b_draw) (da_cons (de_var 1) (da_cons de_int da_nil))))) (fun _ => sc_law.nd)) (dss_cons (ds_if (dt_cmp do_eqF (de_callS (fun _ => (fo_draw T)) (fun i => (xb_room i).mono (by decide)) (fun i => xb_takes i) (fun _ => T.g_draw) (fun _ => T.F_draw.kp) (fun _ => T.b_draw) (da_cons (de_var 1) (da_cons de_int da_nil))) de_int) (dss_one (ds_set 5 (de_ix (fun _ => rfl) (de_lstB (da_cons (de_var 2) (da_cons (de_neg de_int) (da_cons de_int da_nil)))) (de_callS (fun _ => (fo_draw T)) (fun i => (xb_room i).mono (by decide)) (fun i => xb_takes i) (fun _ => T.g_draw) (fun _ => T.F_draw.kp) (fun _ => T.b_draw) (da_cons (de_var 1) (da_cons de_int da_nil)))) (fun _ => sc_law.nd))) dss_nil) (dss_cons (ds_set 15 (de_callS (fun _ => (fo_called T)) (fun i => (xb_room i).mono (by decide)) (fun i => xb_takes i) (fun _ => T.g_called) (fun _ => T.F_called.kp) (fun _ => T.b_called) (da_cons (de_var 3) (da_cons de_str (da_cons (de_var 5) (da_cons (de_var 14) da_nil))))) (fun _ => sc_law.nd)) (dss_one (ds_if (dpw_pt (dpw_or (dt_not (dt_chain do_le do_lt de_int (de_var 5) (de_var 2))) (dpw_or1 (dt_cmp do_neF (de_callB (dc_len fun _ => rfl) (fun _ => T.n_len) PyProof.Rows.Boot.«len» (da_cons (de_var 14) da_nil)) de_int)))) (dss_one (ds_set 13 (de_tup (da_cons de_str (da_cons (de_var 5) da_nil))) (fun _ => sc_law.nd))) (dss_one (ds_dput (fun i => hu_of (xb_room i)) (de_var 6) (de_var 5) (de_var 14)))))))) (dss_one (ds_if (dt_cmp do_lt (de_var 10) de_int) (dss_cons (ds_set 15 (de_callS (fun _ => (fo_called T)) (fun i => (xb_room i).mono (by decide)) (fun i => xb_takes i) (fun _ => T.g_called) (fun _ => T.F_called.kp) (fun _ => T.b_called) (da_cons (de_var 3) (da_cons de_str (da_cons de_non (da_cons de_non da_nil))))) (fun _ => sc_law.nd)) (dss_one (ds_if (dt_cmp do_eqF (de_var 7) de_int) (dss_cons (ds_set 13 (de_tup (da_cons de_str (da_cons (de_callS (fun _ => (fo_lfall T)) (fun i => (xb_room i).mono (by decide)) (fun i => xb_takes i) (fun _ => T.g_lfall) (fun _ => T.F_lfall.kp) (fun _ => T.b_lfall) (da_cons (de_var 4) (da_cons (de_var 6) (da_cons (de_var 8) da_nil)))) da_nil))) (fun _ => sc_law.nd)) (dss_one (ds_set 7 de_non (fun _ => sc_law.nd)))) (dss_cons (ds_set 7 (de_ifE (dt_cmp do_isN (de_var 7) de_non) de_non (de_op do_subI (de_var 7) de_int)) (fun _ => sc_law.nd)) (dss_cons (ds_for (fun i => xb_passes i) (fun _ => rfl) (di_list (fun _ => rfl) (de_callT (dc_listD fun _ => rfl) (fun _ => T.n_list) PyProof.Rows.Boot.«list» (da_cons (de_var 6) da_nil))) (dg_var 12 (fun _ => sc_law.nd)) (dss_then (dss_one (ds_asg (de_dget (fun i => hu_of (xb_room i)) (de_var 6) (de_var 12)) (dg_set (de_var 4) (de_var 12)))))) (dss_one (ds_set 6 de_newK (fun _ => sc_law.nd)))))))) (dss_one (ds_if (dt_cmp do_eqF (de_var 10) de_int) (dss_cons (ds_set 15 (de_callS (fun _ => (fo_called T)) (fun i => (xb_room i).mono (by decide)) (fun i => xb_takes i) (fun _ => T.g_called) (fun _ => T.F_called.kp) (fun _ => T.b_called) (da_cons (de_var 3) (da_cons de_str (da_cons (de_var 11) (da_cons de_non da_nil))))) (fun _ => sc_law.nd)) (dss_cons (ds_set 13 (de_tup (da_cons de_str (da_cons (de_callS (fun _ => (fo_lfall T)) (fun i => (xb_room i).mono (by decide)) (fun i => xb_takes i) (fun _ => T.g_lfall) (fun _ => T.F_lfall.kp) (fun _ => T.b_lfall) (da_cons (de_var 4) (da_cons (de_var 6) (da_cons (de_var 11) da_nil)))) da_nil))) (fun _ => sc_law.nd)) (dss_one (ds_set 7 de_non (fun _ => sc_law.nd))))) (dss_one (ds_if (dt_cmp do_eqF (de_var 10) de_int) (dss_cons (ds_set 7 (de_callS (fun _ => (fo_draw T)) (fun i => (xb_room i).mono (by decide)) (fun i => xb_takes i) (fun _ => T.g_draw) (fun _ => T.F_draw.kp) (fun _ => T.b_draw) (da_cons (de_var 1) (da_cons de_int da_nil))) (fun _ => sc_law.nd)) (dss_cons (ds_set 8 (de_callT (dc_list fun _ => rfl) (fun _ => T.n_list) PyProof.Rows.Boot.«list» (da_cons (de_var 11) da_nil)) (fun _ => sc_law.nd)) (dss_cons (ds_set 15 (de_callS (fun _ => (fo_called T)) (fun i => (xb_room i).mono (by decide)) (fun i => xb_takes i) (fun _ => T.g_called) (fun _ => T.F_called.kp) (fun _ => T.b_called) (da_cons (de_var 3) (da_cons de_str (da_cons (de_var 7) (da_cons (de_var 11) da_nil))))) (fun _ => sc_law.nd)) (dss_one (ds_expr (de_append (fun _ => rfl) (de_var 11) (da_cons de_int da_nil))))))) (dss_cons (ds_set 5 (de_ix (fun _ => rfl) (de_lstB (da_cons (de_var 2) (da_cons (de_neg de_int) (da_cons (de_var 5) da_nil)))) (de_callS (fun _ => (fo_draw T)) (fun i => (xb_room i).mono (by decide)) (fun i => xb_takes i) (fun _ => T.g_draw) (fun _ => T.F_draw.kp) (fun _ => T.b_draw) (da_cons (de_var 1) (da_cons de_int da_nil)))) (fun _ => sc_law.nd)) (dss_cons (ds_set 15 (de_callS (fun _ => (fo_called T)) (fun i => (xb_room i).mono (by decide)) (fun i => xb_takes i) (fun _ => T.g_called) (fun _ => T.F_called.kp) (fun _ => T.b_called) (da_cons (de_var 3) (da_cons de_str (da_cons (de_var 5) (da_cons de_non da_nil))))) (fun _ => sc_law.nd)) (dss_one (ds_set 13 (de_ifE (dt_chain do_le do_lt de_int (de_var 5) (de_var 2)) (de_tup (da_cons de_str (da_cons (de_get2 (fun i => hu_of (xb_room i)) (de_var 6) (de_var 5) (de_ix (fun _ => rfl) (de_var 4) (de_var 5))) da_nil))) (de_tup (da_cons de_str (da_cons (de_var 5) da_nil)))) (fun _ => sc_law.nd))))))))))))) (dss_cons (ds_if (dpw_pt (dpw_or (dt_not (dt_val (de_callS (fun _ => (fo_same T 2)) (fun i => (xb_room i).mono (by decide)) (fun i => xb_takes i) (fun _ => T.g_same) (fun _ => T.F_same.kp) (fun _ => T.b_same) (da_cons (de_var 15) (da_cons (de_var 13) da_nil))))) (dpw_or1 (dt_not (dt_val (de_callS (fun _ => (fo_same T 2)) (fun i => (xb_room i).mono (by decide)) (fun i => xb_takes i) (fun _ => T.g_same) (fun _ => T.F_same.kp) (fun _ => T.b_same) (da_cons (de_meth0 (de_var 3) (fun _ => T.cl_Tape) (fun _ => T.m_unsafe) (fun _ => (fo_unsafe T)) (fun i => (xb_room i).mono (by decide)) (fun i => xb_takes i) (fun _ => T.b_unsafe)) (da_cons (de_callB (dc_sortI fun _ => rfl) (fun _ => T.n_sorted) PyProof.Rows.Boot.«sorted» (da_cons (de_callT (dc_listD fun _ => rfl) (fun _ => T.n_list) PyProof.Rows.Boot.«list» (da_cons (de_var 6) da_nil)) da_nil)) da_nil)))))))) (dss_one (ds_ret de_bl)) dss_nil) (dss_one (ds_if (dt_not (dt_val (de_callS (fun _ => (fo_same T 2)) (fun i => (xb_room i).mono (by decide)) (fun i => xb_takes i) (fun _ => T.g_same) (fun _ => T.F_same.kp) (fun _ => T.b_same) (da_cons (de_so (de_lc 12 (fun _ => rfl) (fun _ => sc_law.nd) (di_rng1 (fun _ => T.n_range) (de_var 2)) (fun _ => blkOk_by (own := [("one", 12)]) (N := n_law) (sc := defScope s_law) (by decide +kernel)) (fun _ => pg_name (i := 12) sc_law.nd rfl (Or.inl rfl)) dts_nil (de_meth (de_var 3) (fun _ => T.cl_Tape) (fun _ => T.m_read) (fun _ => (fo_read T)) (fun i => (xb_room (P := P) (w := w) (K := K) (mg := mg) (base := base) (N := n_law) (E := E) i.1).mono (by decide)) (fun _ => takes0) (fun _ => T.b_read) (da_cons (de_var 12) da_nil)))) (da_cons (de_so (de_lc 12 (fun _ => rfl) (fun _ => sc_law.nd) (di_rng1 (fun _ => T.n_range) (de_var 2)) (fun _ => blkOk_by (own := [("one", 12)]) (N := n_law) (sc := defScope s_law) (by decide +kernel)) (fun _ => pg_name (i := 12) sc_law.nd rfl (Or.inl rfl)) dts_nil (de_get2 (fun i => hu_of (xb_room (P := P) (w := w) (K := K) (mg := mg) (base := base) (N := n_law) (E := E) i.1)) (de_var 6) (de_var 12) (de_ix (fun _ => rfl) (de_var 4) (de_var 12))))) da_nil))))) (dss_one (ds_ret de_bl)) dss_nil)))))))))) (dss_one (ds_ret de_bl))))))))))
theorem rng_at {m : Nat} {j : Nat} {d : D} (h : (rng 0 m)[j]? = some d) : j < m ∧ d = .int j := by
  unfold rng at h
  rw [List.getElem?_map] at h
  have hj : j < m := by
    by_cases hj : j < m
    · exact hj
    · rw [List.getElem?_eq_none (by rw [List.length_range]; omega)] at h
      cases h
  rw [List.getElem?_range hj] at h
  have e := Option.some.inj h
  refine ⟨hj, ?_⟩
  rw [← e]
  show D.int (0 + (j : Int)) = _
  rw [Int.zero_add]
/-- the looks at a turn's end -/
theorem u_law_166 (T : Txt P K mg ad) {De : Ds} {M : Mm} {ns : List Int} {d t s f s' f' : Nat} {m : Int} {xs : List Int} {a b c : Int} {z : TSt} {o5 o9 o10 o11 o12 o14 : Option D} {x due : D} (hw : Wf M.length M) (L : LSt ad M d t s f s' f' xs a b c z) (hm : z.many = m) (m1 : 1 ≤ m) (m8 : m ≤ 8) (few : z.fresh.length ≤ 1000)
    (hs : Sm M 2 x due) (q : De.nx (rhoL ns d m t s' o5 f' z.left z.kept o9 o10 o11 o12 (some due) o14 (some x)) M) : w_law_166 K ad De (rhoL ns d m t s' o5 f' z.left z.kept o9 o10 o11 o12 (some due) o14 (some x)) M := by
  refine ⟨x, rfl, due, rfl, rfl, x, due, rfl, hs, _, rfl, if_f rfl ?_⟩
  refine ⟨_, rfl, t, _, rfl, L.A.o, rfl, rfl, t, s, f, z, rfl, L.A, fun n1 p1 s1 => ?_⟩
  refine ⟨_, rfl, ⟨f', _, rfl, L.lf, ?_⟩⟩
  refine ⟨_, z.fresh.map (·.1), rfl, ?_, fun n2 p2 s2 => ?_⟩
  · show some _ = some _
    unfold frK
    rw [List.map_map, List.map_map]
    rfl
  have en : n1 = n2 := List.Perm.eq_of_pairwise (fun a b _ _ h1 h2 => Int.le_antisymm h1 h2) s1 s2 (p1.trans p2.symm)
  subst en
  have ln : n1.length ≤ 1000 := by rw [p1.length_eq, List.length_map]; exact few
  refine ⟨rfl, _, _, rfl, sm_list (by rw [List.length_map]; omega) (fun d hd => ?_), _, rfl, if_f rfl ?_⟩
  · obtain ⟨i, _, rfl⟩ := List.mem_map.mp hd
    exact ⟨_, rfl⟩
  -- the reads
  intro hw1 _
  refine ⟨_, rfl, m, rfl, by omega, by omega, ?_⟩
  refine lc_map (fun j _ => .str (rdV z j)) hw1 (fun _ => trivial) ?_ (fun _ _ _ => .str _) ?_ (.inl ?_)
  · unfold rng
    rw [List.length_map, List.length_range, sizeLine_eq]
    omega
  · intro j e acc Q' he q'
    obtain ⟨hj, rfl⟩ := rng_at he
    have LA := L.app (u := [MO.lst acc])
    refine ⟨_, rfl, t, _, rfl, LA.A.o, rfl, _, rfl, rfl, t, s, f, z, j, rfl, LA.A, L.ok, fun _ x hx => ?_, fun h => absurd ⟨by omega, by omega⟩ h⟩
    rw [rd_some L.ok (by omega) (by omega)] at hx
    rw [← Option.some.inj hx]
    exact q'
  intro hw2 _
  refine ⟨_, rfl, m, rfl, by omega, by omega, ?_⟩
  refine lc_map (fun j _ => .str (rdV z j)) hw2 (fun _ => trivial) ?_ (fun _ _ _ => .str _) ?_ (.inl ?_)
  · unfold rng
    rw [List.length_map, List.length_range, sizeLine_eq]
    omega
  · intro j e acc Q' he q'
    obtain ⟨hj, rfl⟩ := rng_at he
    have LA := L.app (u := [MO.lst acc])
    exact r_own L.ok rfl rfl rfl LA.lf LA.ls (by omega) (by omega) q'
  refine ⟨rfl, _, _, rfl, sm_list ?_ (fun d hd => ?_), _, rfl, if_f rfl q⟩
  · unfold rng
    rw [List.length_mapIdx, List.length_map, List.length_range]
    omega
  · obtain ⟨i, hi, rfl⟩ := List.mem_mapIdx.mp hd
    exact ⟨_, rfl⟩

end
end K93

namespace K93
open PySem PySem.Spec PyProof.Rows L2 DL
section
variable {P : Program} {w : World} {K : PySem.W.Frag} {mg : Str → Option Value} {base : Heap} {ad : Ad}
/-! ### the turns -/
/-- 0 <= x < y -/
theorem t_in {ρ : Ev} {M : Mm} {Q : Bool → Mm → Prop} {X : XD} {i j : Nat} {x y : Int} (hi : ρ[i]? = some (some (.int x))) (hj : ρ[j]? = some (some (.int y))) (q : Q (decide (0 ≤ x ∧ x < y)) M) : dTest (dChain wLe wLt (dC (.int 0)) (dVar i) (dVar j)) ρ M Q X := by
  refine ⟨_, hi, _, _, rfl, rfl, trivial, _, rfl, ifd (fun h0 => ?_) fun h0 => ?_⟩
  · refine ⟨_, hj, _, _, rfl, rfl, trivial, _, rfl, ?_⟩
    have e : decide (x < y) = decide (0 ≤ x ∧ x < y) := by simp [h0]
    rw [e]
    exact q
  · refine ⟨_, rfl, ?_⟩
    have e : false = decide (0 ≤ x ∧ x < y) := by simp [h0]
    rw [e]
    exact q
/-- what a turn goes on to -/
def EndT (K : PySem.W.Frag) (ad : Ad) (De : Ds) : Ds := { De with nx := fun ρ' M' => Wf M'.length M' → EvB M' ρ' → w_law_166 K ad De ρ' M' }
section
variable {De : Ds} {M M0 : Mm} {ns : List Int} {d t s f s' f' i : Nat} {m : Int} {xs : List Int} {a b c : Int} {z : TSt} {o5 o9 o10 o11 o12 o13 o14 o15 : Option D}
theorem u_end (T : Txt P K mg ad) {x due : D} (hnx : ∀ ρ M', LI ad ns d t s' m M0 (i + 1) ρ M' → De.nx ρ M') (hi : i < 30) (L : LSt ad M d t s f s' f' xs a b c z) (hm : z.many = m) (m1 : 1 ≤ m) (m8 : m ≤ 8) (few : z.fresh.length ≤ i + 1) (hl : M0.length ≤ M.length) (hs : Sm M 2 x due) :
    (EndT K ad De).nx (rhoL ns d m t s' o5 f' z.left z.kept o9 o10 o11 o12 (some due) o14 (some x)) M := fun hw _ =>
  u_law_166 T hw L hm m1 m8 (by omega) hs (hnx _ _ ⟨s, f, f', xs, a, b, c, z, _, _, _, _, _, _, _, _, rfl, hm, m1, m8, L, hl, few⟩)
theorem LSt.write (L : LSt ad M d t s f s' f' xs a b c z) {x : Int} {w : Str} (h0 : 0 ≤ x) (h1 : x < z.many) (few : z.fresh.length ≤ 999) :
    LSt ad ((M.set f (.dK (frK (putA z.fresh x w)))).set f' (.dK (frK (putA z.fresh x w)))) d t s f s' f' xs a b c { z with fresh := putA z.fresh x w } := by
  obtain ⟨n1, n2, n3, n4, n5, n6, n7, n8, n9, n10⟩ := L.nes
  obtain ⟨k1, k2, k3⟩ := L.A.ne
  refine ⟨by rw [set_ne (Ne.symm n5), set_ne (Ne.symm n4)]; exact L.dr, L.dk, ⟨by rw [set_ne (Ne.symm n7), set_ne (Ne.symm k2)]; exact L.A.o, by rw [set_ne (Ne.symm n8), set_ne (Ne.symm k3)]; exact L.A.s, by rw [set_ne (Ne.symm L.nf)]; exact set_at L.A.f⟩, ?_, by rw [set_ne (Ne.symm n10), set_ne (Ne.symm n9)]; exact L.ls, ?_, L.ns, L.nf, L.l0⟩
  · refine ⟨L.ok.m0, L.ok.m1, L.ok.len, fun p hp => ?_, putA_nd L.ok.nd _ _, by have := putA_len z.fresh x w; show (putA z.fresh x w).length ≤ 1000; omega⟩
    rcases putA_mem hp with h | h
    · rw [h]
      exact ⟨h0, h1⟩
    · exact L.ok.keys p h
  · have e : (M.set f (.dK (frK (putA z.fresh x w))))[f']? = some (.dK (frK z.fresh)) := by rw [set_ne L.nf]; exact L.lf
    exact set_at e
theorem u_law_138 (T : Txt P K mg ad) {x : Int} {w : Str} (hnx : ∀ ρ M', LI ad ns d t s' m M0 (i + 1) ρ M' → De.nx ρ M') (hi : i < 30) (L : LSt ad M d t s f s' f' xs a b c z) (hm : z.many = m) (m1 : 1 ≤ m) (m8 : m ≤ 8) (few : z.fresh.length ≤ i) (hl : M0.length ≤ M.length) (hx : w.length ≤ 1000) :
    w_law_138 K ad (EndT K ad De) (rhoL ns d m t s' (some (.int x)) f' z.left z.kept o9 o10 o11 o12 (some (told .non)) (some (.str w)) o15) M := by
  subst hm
  refine ⟨_, rfl, _, rfl, _, rfl, rfl, t, s, f, z, "write", .int x, .str w, rfl, L.A, L.ok, .inl ⟨rfl, x, w, rfl, rfl, hx, fun h => ?_, fun h => ?_⟩⟩
  · refine t_in rfl rfl ?_
    rw [decide_eq_true (show 0 ≤ x ∧ x < z.many from ⟨h.1, h.2.1⟩)]
    refine if_f rfl ⟨_, rfl, .inr ⟨w, rfl, by rw [sizeLine_eq]; omega, _, _, rfl, rfl, rfl, _, rfl, if_f (by rw [dec_ii]; simp [h.2.2]) ?_⟩⟩
    refine ⟨_, rfl, _, rfl, _, rfl, f', frK z.fresh, _, rfl, by rw [set_ne L.nf]; exact L.lf, rfl, ?_, ?_⟩
    · unfold frK
      rw [List.length_map, sizeLine_eq]
      omega
    · rw [frK_put]
      refine u_end (z := { z with fresh := putA z.fresh x w }) T hnx hi (L.write h.1 h.2.1 (by omega)) rfl m1 m8 ?_ (by rw [List.length_set, List.length_set]; exact hl) (sm_pair rfl)
      have := putA_len z.fresh x w
      show (putA z.fresh x w).length ≤ i + 1
      omega
  · have fin : w_law_140 K ad (EndT K ad De) (rhoL ns d z.many t s' (some (.int x)) f' z.left z.kept o9 o10 o11 o12 (some (told .non)) (some (.str w)) (some (blockD x))) M := by
      refine ⟨_, rfl, by show 2 ≤ sizeLine; rw [sizeLine_eq]; decide, ?_⟩
      exact u_end T hnx hi L rfl m1 m8 (by omega) hl (sm_pair rfl)
    refine t_in rfl rfl ?_
    by_cases h2 : 0 ≤ x ∧ x < z.many
    · rw [decide_eq_true h2]
      have h3 : w.length ≠ 64 := fun e => h ⟨h2.1, h2.2, e⟩
      refine if_f rfl ⟨_, rfl, .inr ⟨w, rfl, by rw [sizeLine_eq]; omega, _, _, rfl, rfl, rfl, _, rfl, if_t (by rw [dec_ii]; simp; omega) fin⟩⟩
    · rw [decide_eq_false h2]
      exact if_t rfl fin
/-- at = one of these, by a draw -/
theorem r_pick {ρ : Ev} {Q : DK} {X : XD} {wl : DTA} {l : List Int} (L : LSt ad M d t s f s' f' xs a b c z) (h1 : ρ[1]? = some (some (.ptr d))) (hl : ∀ (Q : List D → Mm → Prop) X, Q (l.map .int) M → wl ρ M Q X) (l0 : 0 < l.length) (l1 : l.length < 1000) {n : Int} (hn : n = l.length)
    (k : ∀ M' a' b' c' v, LSt ad M' d t s f s' f' xs a' b' c' z → M'.length = M.length → (∀ i, i ≠ d → M'[i]? = M[i]?) → v ∈ l → Q (.int v) M') : dOp wIx (dLstB wl) (dCallS 2 F_draw (dCons (dVar 1) (dCons (dC (.int n)) dNil))) ρ M Q X := by
  subst hn
  refine hl _ _ ⟨by rw [List.length_map, sizeLine_eq]; omega, .inl ?_⟩
  refine r_draw L h1 (fun _ _ q => q) (by omega) (by omega) fun M' a' b' c' v L' e1 e2 _ v0 v1 => ?_
  obtain ⟨j, rfl⟩ := Int.eq_ofNat_of_zero_le v0
  have hj : j < l.length := by omega
  exact .inl ⟨_, _, .int l[j], rfl, rfl, at_map rfl (List.getElem?_eq_getElem hj), k M' a' b' c' _ L' e1 e2 (List.getElem_mem hj)⟩
theorem u_law_135 (T : Txt P K mg ad) {x : Int} (hnx : ∀ ρ M', LI ad ns d t s' m M0 (i + 1) ρ M' → De.nx ρ M') (hi : i < 30) (L : LSt ad M d t s f s' f' xs a b c z) (hm : z.many = m) (m1 : 1 ≤ m) (m8 : m ≤ 8) (few : z.fresh.length ≤ i) (hl : M0.length ≤ M.length) :
    w_law_135 K ad (EndT K ad De) (rhoL ns d m t s' (some (.int x)) f' z.left z.kept o9 o10 o11 o12 (some (told .non)) o14 o15) M := by
  refine r_draw L rfl (fun _ _ q => q) (by omega) (by omega) fun M1 a1 b1 c1 v1 L1 e1 _ _ v10 v11 => ?_
  obtain ⟨j, rfl⟩ := Int.eq_ofNat_of_zero_le v10
  have hz : ("abcdefgh" : Str).cps.toList.length = 8 := by decide +kernel
  have hj : j < ("abcdefgh" : Str).cps.toList.length := by omega
  refine .inr ⟨"abcdefgh", _, ("abcdefgh" : Str).cps.toList[j], rfl, rfl, ?_, at_nat (List.getElem?_eq_getElem hj), ?_⟩
  · have : ("abcdefgh" : Str).length = 8 := by decide +kernel
    rw [this, sizeLine_eq]
    omega
  generalize ("abcdefgh" : Str).cps.toList[j] = cc
  refine r_pick (l := [64, 64, 64, 64, 64, 63, 65]) L1 rfl (fun _ _ q => q) (by decide) (by decide) rfl fun M2 a2 b2 c2 n L2 e2 _ hn => ?_
  have hn2 : 0 ≤ n ∧ n ≤ 100 := by
    simp only [List.mem_cons, List.not_mem_nil, or_false] at hn
    omega
  refine .inr ⟨⟨#[cc]⟩, n, rfl, rfl, mulok1 rfl hn2.1 (by omega), ?_⟩
  have hlen : (Txt.mul ⟨#[cc]⟩ n).length ≤ 1000 := by
    have h := len_mul_k1 (x := ⟨#[cc]⟩) (n := n) rfl
    split at h <;> omega
  refine r_draw L2 rfl (fun _ _ q => q) (by omega) (by omega) fun M3 a3 b3 c3 v3 L3 e3 _ _ _ _ => ?_
  refine ⟨_, _, rfl, rfl, rfl, _, rfl, ifb (fun _ => ?_) fun _ => ?_⟩
  · refine r_pick (l := [m, -1, 99]) L3 rfl (fun _ _ q => ⟨_, rfl, ⟨_, rfl, q⟩⟩) (by show 0 < 3; decide) (by show 3 < 1000; decide) rfl fun M4 a4 b4 c4 v4 L4 e4 _ _ => ?_
    exact u_law_138 T hnx hi L4 hm m1 m8 few (by omega) hlen
  · exact u_law_138 T hnx hi L3 hm m1 m8 few (by omega) hlen
end

end
end K93

namespace K93
open PySem PySem.Spec PyProof.Rows L2 DL
section
variable {P : Program} {w : World} {K : PySem.W.Frag} {mg : Str → Option Value} {base : Heap} {ad : Ad}
section
variable {De : Ds} {M M0 : Mm} {ns : List Int} {d t s f s' f' i : Nat} {m : Int} {xs : List Int} {a b c : Int} {z : TSt} {o5 o9 o10 o11 o12 o13 o14 o15 : Option D}
/-! ### reads -/
theorem u_law_163 (T : Txt P K mg ad) {x : Int} {du : D} (hnx : ∀ ρ M', LI ad ns d t s' m M0 (i + 1) ρ M' → De.nx ρ M') (hi : i < 30) (L : LSt ad M d t s f s' f' xs a b c z) (hm : z.many = m) (m1 : 1 ≤ m) (m8 : m ≤ 8) (few : z.fresh.length ≤ i) (hl : M0.length ≤ M.length) :
    w_law_163 K ad (EndT K ad De) (rhoL ns d m t s' (some (.int x)) f' z.left z.kept o9 o10 o11 o12 (some du) o14 o15) M := by
  subst hm
  refine r_pick (l := [z.many, -1, x]) L rfl (fun _ _ q => ⟨_, rfl, ⟨_, rfl, ⟨_, rfl, q⟩⟩⟩) (by show 0 < 3; decide) (by show 3 < 1000; decide) rfl fun M1 a1 b1 c1 y L1 e1 _ _ => ?_
  refine ⟨_, rfl, _, rfl, rfl, t, s, f, z, "read", .int y, .non, rfl, L1.A, L1.ok, .inr (.inr (.inr (.inl ⟨rfl, y, rfl, fun h w hw => ?_, fun h => ?_⟩)))⟩
  · rw [rd_some L1.ok h.1 h.2] at hw
    have ew := Option.some.inj hw
    subst ew
    refine t_in rfl rfl ?_
    rw [decide_eq_true h]
    refine if_t rfl ?_
    refine r_own (X := fun _ _ _ => False) (j6 := 6) (j4 := 4) (j := 5) (Q := fun dd M' => ([.str "told", dd] : List D).length ≤ sizeLine ∧ (EndT K ad De).nx (rhoL ns d z.many t s' (some (.int y)) f' z.left z.kept o9 o10 o11 o12 (some (.tup [.str "told", dd])) o14 (some (told (.str (rdV z y))))) M') L1.ok rfl rfl rfl L1.lf L1.ls h.1 h.2 ⟨by show 2 ≤ sizeLine; rw [sizeLine_eq]; decide, ?_⟩
    exact u_end T hnx hi L1 rfl m1 m8 (by omega) (by omega) (sm_pair rfl)
  · refine t_in rfl rfl ?_
    rw [decide_eq_false h]
    refine if_f rfl ⟨_, rfl, by show 2 ≤ sizeLine; rw [sizeLine_eq]; decide, ?_⟩
    exact u_end T hnx hi L1 rfl m1 m8 (by omega) (by omega) (sm_pair rfl)
/-! ### falls -/
theorem fallM_at (A : TAt ad M t s f z) {many : Int} {safe : List Str} {kept : List Int} : (fallM ad M t s many safe kept)[t]? = some (.ins ad.C_Tape (tpF many s M.length none kept)) ∧ (fallM ad M t s many safe kept)[s]? = some (.lst (safe.map .str)) ∧ (fallM ad M t s many safe kept)[M.length]? = some (.dK []) ∧
    (∀ i o, i ≠ s → i ≠ t → M[i]? = some o → (fallM ad M t s many safe kept)[i]? = some o) ∧ (fallM ad M t s many safe kept).length = M.length + 1 := by
  obtain ⟨n1, n2, n3⟩ := A.ne
  have lt := lt_of_at A.o
  have h1 : (M.set s (.lst (safe.map .str)))[t]? = some (.ins ad.C_Tape (tpF z.many s f z.left z.kept)) := by rw [set_ne (Ne.symm n1)]; exact A.o
  have hs : (M.set s (MO.lst (safe.map .str)))[s]? = some (.lst (safe.map .str)) := set_at A.s
  have hlast : (M.set s (MO.lst (safe.map .str)) ++ [MO.dK []])[M.length]? = some (.dK []) := by
    have h := app_last (M := M.set s (MO.lst (safe.map .str))) (m := MO.dK []) (t := [])
    rw [List.length_set] at h
    exact h
  unfold fallM
  refine ⟨set_at (app_at h1), ?_, ?_, fun i o hi ht h => ?_, ?_⟩
  · rw [set_ne n1]
    exact app_at hs
  · rw [set_ne (by omega)]
    exact hlast
  · rw [set_ne (Ne.symm ht)]
    refine app_at ?_
    rw [set_ne (Ne.symm hi)]
    exact h
  · rw [List.length_set, List.length_append, List.length_set]
    rfl
theorem LSt.fallen (L : LSt ad M d t s f s' f' xs a b c z) {kept : List Int} : LSt ad (((fallM ad M t s z.many (fallA z.fresh kept z.safe) z.kept).set s' (.lst ((fallA z.fresh kept z.safe).map .str))).set f' (.dK [])) d t s M.length s' f' xs a b c { z with safe := fallA z.fresh kept z.safe, fresh := [], left := none } := by
  obtain ⟨n1, n2, n3, n4, n5, n6, n7, n8, n9, n10⟩ := L.nes
  obtain ⟨k1, k2, k3⟩ := L.A.ne
  obtain ⟨h1, h2, h3, h4, h5⟩ := fallM_at L.A (many := z.many) (safe := fallA z.fresh kept z.safe) (kept := z.kept)
  have lf := lt_of_at L.lf
  have ls := lt_of_at L.ls
  have hs' := h4 s' _ (Ne.symm L.ns) (Ne.symm n6) L.ls
  have hf' := h4 f' _ (Ne.symm n8) (Ne.symm n7) L.lf
  refine ⟨?_, L.dk, ⟨?_, ?_, ?_⟩, ⟨L.ok.m0, L.ok.m1, by show ((fallA z.fresh kept z.safe).length : Int) = z.many; rw [fallA_len]; exact L.ok.len, fun p hp => (by cases hp), List.nodup_nil, Nat.zero_le _⟩, ?_, ?_, L.ns, by omega, fun i h => by cases h⟩
  · rw [set_ne (Ne.symm n5), set_ne (Ne.symm n2)]
    exact h4 d _ n1 n3 L.dr
  · rw [set_ne (Ne.symm n7), set_ne (Ne.symm n6)]
    exact h1
  · rw [set_ne (Ne.symm n8), set_ne (Ne.symm L.ns)]
    exact h2
  · rw [set_ne (by omega), set_ne (by omega)]
    exact h3
  · rw [set_ne (Ne.symm n10)]
    exact set_at hs'
  · refine set_at (o := .dK (frK z.fresh)) ?_
    rw [set_ne n10]
    exact hf'
theorem r_lfall {kept : List Int} (L : LSt ad M d t s f s' f' xs a b c z) {M1 : Mm} (e : M1 = fallM ad M t s z.many (fallA z.fresh kept z.safe) z.kept) {ρ : Ev} {X : XD} {Q : DK} {j : Nat} {dk : D} (h4 : ρ[4]? = some (some (.ptr s'))) (h6 : ρ[6]? = some (some (.ptr f'))) (hj : ρ[j]? = some (some dk)) (hd : lsOf M1 dk = some (kept.map .int)) (hk : ∀ k, dk = .ptr k → k ≠ s')
    (q : Q (.int (cnt z.fresh kept)) ((M1.set s' (.lst ((fallA z.fresh kept z.safe).map .str))).set f' (.dK []))) : dCallS 3 F_lfall (dCons (dVar 4) (dCons (dVar 6) (dCons (dVar j) dNil))) ρ M1 Q X := by
  subst e
  obtain ⟨n1, n2, n3, n4, n5, n6, n7, n8, n9, n10⟩ := L.nes
  obtain ⟨h1, h2, h3, h4', h5⟩ := fallM_at L.A (many := z.many) (safe := fallA z.fresh kept z.safe) (kept := z.kept)
  have hs' := h4' s' _ (Ne.symm L.ns) (Ne.symm n6) L.ls
  have hf' := h4' f' _ (Ne.symm n8) (Ne.symm n7) L.lf
  refine ⟨_, h4, _, h6, _, hj, rfl, s', f', z.safe, z.fresh, dk, kept, rfl, hs', hf', hd, hk, fun p hp => ?_, L.ok.nd, q⟩
  have := L.ok.keys p hp
  have := L.ok.len
  omega
theorem u_law_154 (T : Txt P K mg ad) {kept : List Int} {du : D} (hnx : ∀ ρ M', LI ad ns d t s' m M0 (i + 1) ρ M' → De.nx ρ M') (hi : i < 30) (L : LSt ad M d t s f s' f' xs a b c z) (hm : z.many = m) (m1 : 1 ≤ m) (m8 : m ≤ 8) (hl : M0.length ≤ M.length) :
    w_law_154 K ad (EndT K ad De) (rhoL ns d m t s' o5 f' z.left z.kept o9 o10 (some (.lst (kept.map .int))) o12 (some du) o14 o15) M := by
  subst hm
  obtain ⟨h1, h2, h3, h4', h5⟩ := fallM_at L.A (many := z.many) (safe := fallA z.fresh kept z.safe) (kept := z.kept)
  refine ⟨_, rfl, _, rfl, rfl, t, s, f, z, "fall", .lst (kept.map .int), .non, rfl, L.A, L.ok, .inr (.inr (.inr (.inr ⟨rfl, kept, rfl, ?_⟩)))⟩
  refine r_lfall L rfl rfl rfl rfl rfl (fun k e => by cases e) ⟨by show 2 ≤ sizeLine; rw [sizeLine_eq]; decide, ?_⟩
  refine u_end (z := { z with safe := fallA z.fresh kept z.safe, fresh := [], left := none }) T hnx hi L.fallen rfl m1 m8 (Nat.zero_le _) ?_ (sm_pair rfl)
  rw [List.length_set, List.length_set, h5]
  omega
/-! ### an order -/
theorem u_law_158 (T : Txt P K mg ad) {k : Nat} {kept : List Int} (hnx : ∀ ρ M', LI ad ns d t s' m M0 (i + 1) ρ M' → De.nx ρ M') (hi : i < 30) (L : LSt ad M d t s f s' f' xs a b c z) (hm : z.many = m) (m1 : 1 ≤ m) (m8 : m ≤ 8) (few : z.fresh.length ≤ i) (hl : M0.length ≤ M.length)
    (hk : M[k]? = some (.lst (kept.map .int))) (kd : k ≠ d) (ks : k ≠ s) (ks' : k ≠ s') (kl : kept.length ≤ 1000) : w_law_158 K ad (EndT K ad De) (rhoL ns d m t s' o5 f' z.left z.kept o9 o10 (some (.ptr k)) o12 (some (told .non)) o14 o15) M := by
  subst hm
  refine r_draw L rfl (fun _ _ q => q) (by omega) (by omega) fun M1 a1 b1 c1 v L1 e1 e2 _ v0 v1 => ?_
  have hk1 : M1[k]? = some (.lst (kept.map .int)) := by rw [e2 k kd]; exact hk
  refine ⟨_, rfl, .inl ⟨_, _, rfl, sq_at hk1, ?_⟩⟩
  refine ⟨_, rfl, _, rfl, _, rfl, rfl, t, s, f, z, "order", .int v, .ptr k, rfl, L1.A, L1.ok, .inr (.inl ⟨rfl, v, kept, rfl, ls_at hk1, ?_⟩)⟩
  have kt : t ≠ k := fun e => by
    have h := L1.A.o
    rw [e, hk1] at h
    cases h
  have hk2 : (M1.set t (.ins ad.C_Tape (tpF z.many s f (some v) kept)))[k]? = some (.lst (kept.map .int)) := by rw [set_ne kt]; exact hk1
  refine ⟨_, rfl, k, _, rfl, hk2, _, _, rfl, hk2, ?_, ?_⟩
  · rw [List.length_map, sizeLine_eq]
    omega
  obtain ⟨n1, n2, n3, n4, n5, n6, n7, n8, n9, n10⟩ := L1.nes
  obtain ⟨k1, k2, k3⟩ := L1.A.ne
  have kf : k ≠ f := fun e => by have h := L1.A.f; rw [← e, hk1] at h; cases h
  have kf' : k ≠ f' := fun e => by have h := L1.lf; rw [← e, hk1] at h; cases h
  have L2 : LSt ad ((M1.set t (.ins ad.C_Tape (tpF z.many s f (some v) kept))).set k (.lst (kept.map .int ++ [.int 0]))) d t s f s' f' xs a1 b1 c1 { z with left := some v, kept := kept } := by
    refine ⟨?_, L1.dk, ⟨?_, ?_, ?_⟩, ⟨L1.ok.m0, L1.ok.m1, L1.ok.len, L1.ok.keys, L1.ok.nd, L1.ok.few⟩, ?_, ?_, L1.ns, L1.nf, fun i h => by have e := Option.some.inj h; omega⟩
    · rw [set_ne kd, set_ne (Ne.symm n3)]
      exact L1.dr
    · rw [set_ne (Ne.symm kt)]
      exact set_at L1.A.o
    · rw [set_ne ks, set_ne k1]
      exact L1.A.s
    · rw [set_ne kf, set_ne k2]
      exact L1.A.f
    · rw [set_ne ks', set_ne n6]
      exact L1.ls
    · rw [set_ne kf', set_ne n7]
      exact L1.lf
  exact u_end (z := { z with left := some v, kept := kept }) T hnx hi L2 rfl m1 m8 (by show z.fresh.length ≤ i + 1; omega) (by rw [List.length_set, List.length_set]; omega) (sm_pair rfl)
end

end
end K93

namespace K93
open PySem PySem.Spec PyProof.Rows L2 DL
section
variable {P : Program} {w : World} {K : PySem.W.Frag} {mg : Str → Option Value} {base : Heap} {ad : Ad}
section
variable {De : Ds} {M M0 : Mm} {ns : List Int} {d t s f s' f' i : Nat} {m : Int} {xs : List Int} {a b c : Int} {z : TSt} {o5 o9 o10 o11 o12 o13 o14 o15 : Option D}
/-! ### a sync -/
theorem syncM_at (A : TAt ad M t s f z) {left : Option Int} : (syncM ad M t s z left)[t]? = some (.ins ad.C_Tape (tpF z.many s M.length left z.kept)) ∧ (syncM ad M t s z left)[s]? = some (.lst ((allA z.fresh z.safe).map .str)) ∧ (syncM ad M t s z left)[M.length]? = some (.dK []) ∧
    (∀ i o, i ≠ s → i ≠ t → M[i]? = some o → (syncM ad M t s z left)[i]? = some o) ∧ (syncM ad M t s z left).length = M.length + 1 := by
  obtain ⟨n1, n2, n3⟩ := A.ne
  have lt := lt_of_at A.o
  have h1 : (M.set s (.lst ((allA z.fresh z.safe).map .str)))[t]? = some (.ins ad.C_Tape (tpF z.many s f z.left z.kept)) := by rw [set_ne (Ne.symm n1)]; exact A.o
  have hs : (M.set s (MO.lst ((allA z.fresh z.safe).map .str)))[s]? = some (.lst ((allA z.fresh z.safe).map .str)) := set_at A.s
  have hlast : (M.set s (MO.lst ((allA z.fresh z.safe).map .str)) ++ [MO.dK []])[M.length]? = some (.dK []) := by
    have h := app_last (M := M.set s (MO.lst ((allA z.fresh z.safe).map .str))) (m := MO.dK []) (t := [])
    rw [List.length_set] at h
    exact h
  unfold syncM
  refine ⟨set_at (app_at h1), ?_, ?_, fun i o hi ht h => ?_, ?_⟩
  · rw [set_ne n1]
    exact app_at hs
  · rw [set_ne (by omega)]
    exact hlast
  · rw [set_ne (Ne.symm ht)]
    refine app_at ?_
    rw [set_ne (Ne.symm hi)]
    exact h
  · rw [List.length_set, List.length_append, List.length_set]
    rfl
theorem LSt.synced (L : LSt ad M d t s f s' f' xs a b c z) {left : Option Int} (hl : ∀ i, left = some i → 0 ≤ i) : LSt ad ((syncM ad M t s z left).set s' (.lst ((allA z.fresh z.safe).map .str)) ++ [MO.dK []]) d t s M.length s' (M.length + 1) xs a b c { z with safe := allA z.fresh z.safe, fresh := [], left := left } := by
  obtain ⟨n1, n2, n3, n4, n5, n6, n7, n8, n9, n10⟩ := L.nes
  obtain ⟨h1, h2, h3, h4, h5⟩ := syncM_at L.A (left := left)
  have ls := lt_of_at L.ls
  have hs' := h4 s' _ (Ne.symm L.ns) (Ne.symm n6) L.ls
  refine ⟨?_, L.dk, ⟨?_, ?_, ?_⟩, ⟨L.ok.m0, L.ok.m1, by show ((allA z.fresh z.safe).length : Int) = z.many; rw [allA_len]; exact L.ok.len, fun p hp => (by cases hp), List.nodup_nil, Nat.zero_le _⟩, ?_, ?_, L.ns, by omega, hl⟩
  · refine app_at ?_
    rw [set_ne (Ne.symm n2)]
    exact h4 d _ n1 n3 L.dr
  · refine app_at ?_
    rw [set_ne (Ne.symm n6)]
    exact h1
  · refine app_at ?_
    rw [set_ne (Ne.symm L.ns)]
    exact h2
  · refine app_at ?_
    rw [set_ne (by omega)]
    exact h3
  · exact app_at (set_at hs')
  · have h := app_last (M := (syncM ad M t s z left).set s' (.lst ((allA z.fresh z.safe).map .str))) (m := MO.dK []) (t := [])
    rw [List.length_set, h5] at h
    exact h
theorem u_law_150 (T : Txt P K mg ad) {left : Option Int} {x due : D} (hnx : ∀ ρ M', LI ad ns d t s' m M0 (i + 1) ρ M' → De.nx ρ M') (hi : i < 30) (L : LSt ad M d t s f s' f' xs a b c z) (hm : z.many = m) (m1 : 1 ≤ m) (m8 : m ≤ 8) (hl : M0.length ≤ M.length) (h0 : ∀ i, left = some i → 0 ≤ i) (hs : ∀ M, Sm M 2 x due) :
    w_law_150 K ad (EndT K ad De) (rhoL ns d m t s' o5 f' left z.kept o9 o10 o11 o12 (some due) o14 (some x)) (syncM ad M t s z left) := by
  subst hm
  obtain ⟨n1, n2, n3, n4, n5, n6, n7, n8, n9, n10⟩ := L.nes
  obtain ⟨h1, h2, h3, h4, h5⟩ := syncM_at L.A (left := left)
  have hs' := h4 s' _ (Ne.symm L.ns) (Ne.symm n6) L.ls
  have hf' := h4 f' _ (Ne.symm n8) (Ne.symm n7) L.lf
  refine ⟨_, rfl, ⟨f', _, rfl, hf', ?_⟩⟩
  refine ⟨_, .inl ⟨rfl, ?_⟩⟩
  refine ⟨fun j ρ1 M1 => (∃ o12, ρ1 = rhoL ns d z.many t s' o5 f' left z.kept o9 o10 o11 o12 (some due) o14 (some x)) ∧ M1 = (syncM ad M t s z left).set s' (.lst ((allA (z.fresh.take j) z.safe).map .str)), ⟨⟨_, rfl⟩, (set_same hs').symm⟩, fun _ _ _ _ => trivial, ?_, ?_⟩
  · rintro j e ρ1 M1 he ⟨⟨o12, rfl⟩, rfl⟩
    obtain ⟨p, hp, rfl⟩ := keys_at he
    have hm := List.mem_of_getElem? hp
    have hF : ((syncM ad M t s z left).set s' (.lst ((allA (z.fresh.take j) z.safe).map .str)))[f']? = some (.dK (frK z.fresh)) := by rw [set_ne n10]; exact hf'
    have hS := set_at (m := MO.lst ((allA (z.fresh.take j) z.safe).map .str)) hs'
    refine ⟨_, rfl, _, rfl, _, _, .str p.2, dk_at hF, rfl, by rw [frK_val, find_nd L.ok.nd hm]; rfl, ?_⟩
    obtain ⟨k0, k1⟩ := L.ok.keys p hm
    have hix : ixN ((allA (z.fresh.take j) z.safe).map D.str).length p.1 = some p.1.toNat := by
      have e1 : p.1 = (p.1.toNat : Int) := (Int.toNat_of_nonneg k0).symm
      rw [List.length_map, allA_len]
      have := L.ok.len
      conv => lhs; rw [e1]
      exact ix_nat (by omega)
    refine ⟨_, rfl, _, rfl, s', _, p.1, p.1.toNat, rfl, rfl, hS, hix, ?_⟩
    rw [List.set_set, map_set_str, ← allA_next hp]
    intro w ev
    exact Up.all (by simp) w ev ⟨⟨_, rfl⟩, rfl⟩
  · rintro ρ1 M1 ⟨⟨o12, rfl⟩, rfl⟩
    have el : ((frK z.fresh).map fun kv => kD kv.1).length = z.fresh.length := by unfold frK; rw [List.length_map, List.length_map]
    rw [el, List.take_length]
    have en : ((syncM ad M t s z left).set s' (.lst ((allA z.fresh z.safe).map .str))).length = M.length + 1 := by rw [List.length_set, h5]
    have fin := u_end (o12 := o12) (o5 := o5) (o9 := o9) (o10 := o10) (o11 := o11) (o14 := o14) (z := { z with safe := allA z.fresh z.safe, fresh := [], left := left }) T hnx hi (L.synced h0) rfl m1 m8 (Nat.zero_le _) (by rw [List.length_append, en]; omega) (hs _)
    rw [← en] at fin
    exact fin
theorem u_law_144 (T : Txt P K mg ad) (hnx : ∀ ρ M', LI ad ns d t s' m M0 (i + 1) ρ M' → De.nx ρ M') (hi : i < 30) (L : LSt ad M d t s f s' f' xs a b c z) (hm : z.many = m) (m1 : 1 ≤ m) (m8 : m ≤ 8) (hl : M0.length ≤ M.length) :
    w_law_144 K ad (EndT K ad De) (rhoL ns d m t s' o5 f' z.left z.kept o9 o10 o11 o12 (some (told .non)) o14 o15) M := by
  have two : (2 : Nat) ≤ sizeLine := by rw [sizeLine_eq]; decide
  refine ⟨_, rfl, rfl, t, s, f, z, "sync", .non, .non, rfl, L.A, L.ok, .inr (.inr (.inl ⟨rfl, L.l0, fun e => ?_, fun left' ne e => ?_⟩))⟩
  · -- it falls
    subst hm
    obtain ⟨h1, h2, h3, h4', h5⟩ := fallM_at L.A (many := z.many) (safe := fallA z.fresh z.kept z.safe) (kept := z.kept)
    refine ⟨_, rfl, .int 0, .int 0, by rw [e]; rfl, rfl, rfl, _, rfl, if_t (by simp) ?_⟩
    refine r_lfall (X := fun _ _ _ => False) (j := 8) (kept := z.kept) (Q := fun dd M' => ([.str "fallen", dd] : List D).length ≤ sizeLine ∧ (EndT K ad De).nx (rhoL ns d z.many t s' o5 f' none z.kept o9 o10 o11 o12 (some (.tup [.str "fallen", dd])) o14 (some (fallenD (cnt z.fresh z.kept)))) M') L rfl rfl rfl rfl rfl (fun k e => by cases e) ⟨two, ?_⟩
    refine u_end (z := { z with safe := fallA z.fresh z.kept z.safe, fresh := [], left := none }) T hnx hi L.fallen rfl m1 m8 (Nat.zero_le _) ?_ (sm_pair rfl)
    rw [List.length_set, List.length_set, h5]
    omega
  · subst e
    have go : w_law_149 K ad (EndT K ad De) (rhoL ns d m t s' o5 f' z.left z.kept o9 o10 o11 o12 (some (told .non)) o14 (some (told .non))) (syncM ad M t s z (z.left.map (· - 1))) := by
      cases hleft : z.left with
      | none =>
        refine ⟨_, rfl, rfl, _, rfl, if_t rfl ?_⟩
        exact u_law_150 (left := none) T hnx hi L hm m1 m8 hl (fun i h => by cases h) fun _ => sm_pair rfl
      | some v =>
        have v0 := L.l0 v hleft
        refine ⟨_, rfl, rfl, _, rfl, if_f rfl ⟨_, rfl, _, _, rfl, rfl, trivial, ?_⟩⟩
        refine u_law_150 (left := some (v - 1)) T hnx hi L hm m1 m8 hl (fun i h => ?_) fun _ => sm_pair rfl
        have e := Option.some.inj h
        have nv : v ≠ 0 := fun z0 => ne (by rw [hleft, z0])
        omega
    cases hleft : z.left with
    | none =>
      rw [hleft] at go
      exact ⟨_, rfl, .non, .int 0, rfl, rfl, rfl, _, rfl, if_f (by simp) go⟩
    | some v =>
      rw [hleft] at go
      have nv : v ≠ 0 := fun z0 => ne (by rw [hleft, z0])
      exact ⟨_, rfl, .int v, .int 0, rfl, rfl, rfl, _, rfl, if_f (by rw [dec_ii]; simp [nv]) go⟩
end

end
end K93

namespace K93
open PySem PySem.Spec PyProof.Rows L2 DL
section
variable {P : Program} {w : World} {K : PySem.W.Frag} {mg : Str → Option Value} {base : Heap} {ad : Ad}
section
variable {De : Ds} {M M0 : Mm} {ns : List Int} {d t s f s' f' i : Nat} {m : Int} {xs : List Int} {a b c : Int} {z : TSt} {o5 o9 o10 o11 o12 o13 o14 o15 : Option D}
/-- one turn behind the choice of blocks -/
theorem u_law_133 (T : Txt P K mg ad) {kd x : Int} {d11 : D} {kept : List Int} (hnx : ∀ ρ M', LI ad ns d t s' m M0 (i + 1) ρ M' → De.nx ρ M') (hi : i < 30) (L : LSt ad M d t s f s' f' xs a b c z) (hm : z.many = m) (m1 : 1 ≤ m) (m8 : m ≤ 8) (few : z.fresh.length ≤ i) (hl : M0.length ≤ M.length) (kl : kept.length ≤ 1000)
    (h11 : (kd ≠ 8 ∧ d11 = .lst (kept.map .int)) ∨ (kd = 8 ∧ ∃ k, d11 = .ptr k ∧ M[k]? = some (.lst (kept.map .int)) ∧ k ≠ d ∧ k ≠ s ∧ k ≠ s')) :
    w_law_133 K ad De (rhoL ns d m t s' (some (.int x)) f' z.left z.kept o9 (some (.int kd)) (some d11) o12 o13 o14 o15) M := by
  refine ⟨by show 2 ≤ sizeLine; rw [sizeLine_eq]; decide, ?_⟩
  refine ⟨_, rfl, _, _, rfl, rfl, trivial, _, rfl, ifd (fun _ => ?_) fun _ => ?_⟩
  · exact u_law_135 T hnx hi L hm m1 m8 few hl
  refine ⟨_, rfl, _, _, rfl, rfl, trivial, _, rfl, ifd (fun _ => ?_) fun _ => ?_⟩
  · exact u_law_144 T hnx hi L hm m1 m8 hl
  refine ⟨_, rfl, _, _, rfl, rfl, rfl, _, rfl, ?_⟩
  rw [dec_ii]
  refine ifd (fun h7 => ?_) fun _ => ?_
  · rcases h11 with ⟨_, rfl⟩ | ⟨e, _⟩
    · exact u_law_154 T hnx hi L hm m1 m8 hl
    · omega
  refine ⟨_, rfl, _, _, rfl, rfl, rfl, _, rfl, ?_⟩
  rw [dec_ii]
  refine ifd (fun h8 => ?_) fun _ => ?_
  · rcases h11 with ⟨n8, _⟩ | ⟨_, k, rfl, hk, kd', ks, ks'⟩
    · exact absurd h8 n8
    · exact u_law_158 T hnx hi L hm m1 m8 few hl hk kd' ks ks' kl
  · exact u_law_163 T hnx hi L hm m1 m8 few hl
theorem u_law_132 (T : Txt P K mg ad) {kd x : Int} (hnx : ∀ ρ M', LI ad ns d t s' m M0 (i + 1) ρ M' → De.nx ρ M') (hi : i < 30) (L : LSt ad M d t s f s' f' xs a b c z) (hm : z.many = m) (m1 : 1 ≤ m) (m8 : m ≤ 8) (few : z.fresh.length ≤ i) (hl : M0.length ≤ M.length) :
    w_law_132 K ad De (rhoL ns d m t s' (some (.int x)) f' z.left z.kept o9 (some (.int kd)) o11 o12 o13 o14 o15) M := by
  intro hw _
  refine ⟨_, rfl, m, rfl, by omega, by omega, ?_⟩
  refine lcI (M := M) (fun j acc M' => (∃ kept : List Int, acc = kept.map .int ∧ kept.length ≤ j) ∧ ∃ a b c, LSt ad M' d t s f s' f' xs a b c z) hw ⟨⟨[], rfl, Nat.le_refl _⟩, a, b, c, L⟩ (fun _ _ _ _ _ => trivial) ?_ ?_
  · rintro j e acc M' he l w bb ⟨⟨kept, rfl, hk⟩, a1, b1, c1, L1⟩
    obtain ⟨hj, rfl⟩ := rng_at he
    have LA := L1.app (u := [MO.lst (kept.map .int)])
    have ld := lt_of_at L1.dr
    refine ⟨_, rfl, ⟨rfl, d, xs, a1, b1, c1, 2, rfl, LA.dr, LA.dk, by omega, by omega, fun a' b' c' v ok v0 v1 => ?_⟩⟩
    rw [set_app ld]
    refine ⟨_, _, rfl, rfl, rfl, _, rfl, ?_⟩
    rw [dec_ii]
    refine ifd (fun _ => ?_) fun _ => ?_
    · refine ⟨_, rfl, LcY.mk (by rw [List.length_set]; exact l) (w.set drD_bd) bb (.int _) (by rw [List.length_map, sizeLine_eq]; omega) ⟨⟨kept ++ [(j : Int)], by rw [List.map_append]; rfl, by rw [List.length_append]; show _ + 1 ≤ _; omega⟩, _, _, _, L1.draw ok⟩⟩
    · exact LcN.mk (by rw [List.length_set]; exact l) (w.set drD_bd) bb ⟨⟨kept, rfl, by omega⟩, _, _, _, L1.draw ok⟩
  · rintro acc M' ⟨⟨kept, rfl, hk⟩, a1, b1, c1, L1⟩ l w bb
    have hk' : kept.length ≤ 1000 := by
      have : (rng 0 m.toNat).length = m.toNat := by unfold rng; simp
      omega
    by_cases h8 : kd = 8
    · refine .inr ?_
      have LA := L1.app (u := [MO.lst (kept.map .int)])
      have e1 : M.length = M'.length := l.symm
      refine u_law_133 T hnx hi LA hm m1 m8 few (by rw [List.length_append]; omega) hk' (.inr ⟨h8, M.length, rfl, by rw [e1]; exact app_last, ?_, ?_, ?_⟩)
      · have := lt_of_at L1.dr; omega
      · have := lt_of_at L1.A.s; omega
      · have := lt_of_at L1.ls; omega
    · exact .inl (u_law_133 T hnx hi L1 hm m1 m8 few (by omega) hk' (.inl ⟨h8, rfl⟩))
theorem u_law_130 (T : Txt P K mg ad) (hnx : ∀ ρ M', LI ad ns d t s' m M0 (i + 1) ρ M' → De.nx ρ M') (hi : i < 30) (L : LSt ad M d t s f s' f' xs a b c z) (hm : z.many = m) (m1 : 1 ≤ m) (m8 : m ≤ 8) (few : z.fresh.length ≤ i) (hl : M0.length ≤ M.length) :
    w_law_130 K ad De (rhoL ns d m t s' o5 f' z.left z.kept o9 o10 o11 o12 o13 o14 o15) M := by
  refine r_draw L rfl (fun _ _ q => q) (by omega) (by omega) fun M1 a1 b1 c1 kd L1 e1 _ _ _ _ => ?_
  refine r_draw L1 rfl (fun _ _ q => ⟨_, rfl, q⟩) (lim := m) (by omega) (by omega) fun M2 a2 b2 c2 x L2 e2 _ _ _ _ => ?_
  exact u_law_132 T hnx hi L2 hm m1 m8 few (by omega)
end
theorem app_ix {M l : Mm} {i : Nat} {o : MO} (h : l[i]? = some o) : (M ++ l)[M.length + i]? = some o := by
  rw [List.getElem?_append_right (Nat.le_add_right _ _), Nat.add_sub_cancel_left]
  exact h
theorem app_set {M l : Mm} {i : Nat} {o : MO} : (M ++ l).set (M.length + i) o = M ++ l.set i o := by
  rw [List.set_append_right _ _ (Nat.le_add_right _ _), Nat.add_sub_cancel_left]
def F_law : FD := fun ds _ Qd _ => ∃ ns : List Int, ds = [.scr ns] ∧ ∀ M', Qd (.bl true) M'
theorem u_law (T : Txt P K mg ad) {ds : List D} {M : Mm} {Qd : DK} {Xd : XD} (h : F_law ds M Qd Xd) : w_law K ad (DsF M Qd Xd) (startD 16 ds) M := by
  obtain ⟨ns, rfl, q⟩ := h
  refine ⟨_, rfl, rfl, ns, rfl, ?_⟩
  have hd0 : (M ++ [MO.lst (drD ns 0 0 1)])[M.length]? = some (.lst (drD ns 0 0 1)) := app_last
  refine ⟨_, rfl, ⟨rfl, M.length, ns, 0, 0, 1, 8, rfl, hd0, ⟨by omega, by omega, by omega⟩, by omega, by omega, fun a b c v ok v0 v1 => ?_⟩⟩
  have e0 : (M ++ [MO.lst (drD ns 0 0 1)]).set M.length (.lst (drD ns a b c)) = M ++ [.lst (drD ns a b c)] := app_set (i := 0)
  rw [e0]
  refine .inl (.inl ⟨_, _, rfl, rfl, trivial, ?_⟩)
  -- the tape
  refine ⟨_, rfl, rfl, _, 1 + v, rfl, app_last, by omega, by omega, rfl, ?_⟩
  have l1 : (M ++ [MO.lst (drD ns a b c)]).length = M.length + 1 := by rw [List.length_append]; rfl
  have l2 : ((M ++ [MO.lst (drD ns a b c)]) ++ [MO.ins ad.C_Tape []]).length = M.length + 2 := by rw [List.length_append, l1]; rfl
  rw [l2, l1]
  have e1 : (((M ++ [MO.lst (drD ns a b c)]) ++ [MO.ins ad.C_Tape []]).set (M.length + 1) (.ins ad.C_Tape (tpF (1 + v) (M.length + 2) (M.length + 2 + 1) none []))) ++ [MO.lst ((List.replicate (1 + v).toNat sp1).map .str), MO.dK []] =
      M ++ [MO.lst (drD ns a b c), MO.ins ad.C_Tape (tpF (1 + v) (M.length + 2) (M.length + 2 + 1) none []), MO.lst ((List.replicate (1 + v).toNat sp1).map .str), MO.dK []] := by
    rw [List.append_assoc, app_set, List.append_assoc]
    rfl
  rw [e1]
  -- the law's own lists
  intro hw _
  refine ⟨_, rfl, 1 + v, rfl, by omega, by omega, ?_⟩
  refine lc_map (fun _ _ => .str sp1) hw (fun _ => trivial) ?_ (fun _ _ _ => .str _) (fun j d acc Q' _ q' => .inr ⟨_, _, rfl, rfl, mulok1 rfl (by decide) (by decide), q'⟩) (.inr ?_)
  · unfold rng
    rw [List.length_map, List.length_range, sizeLine_eq]
    omega
  have ey : (rng 0 (1 + v).toNat).mapIdx (fun _ _ => D.str sp1) = (List.replicate (1 + v).toNat sp1).map .str := by
    apply List.ext_getElem?
    intro i
    rw [List.getElem?_mapIdx, List.getElem?_map, List.getElem?_replicate]
    unfold rng
    by_cases hi : i < (1 + v).toNat
    · rw [if_pos hi, List.getElem?_map, List.getElem?_range hi]
      rfl
    · rw [if_neg hi, List.getElem?_map, List.getElem?_eq_none (by rw [List.length_range]; omega)]
      rfl
  rw [ey]
  refine ⟨by show 0 ≤ sizeLine; omega, .inl ?_⟩
  rw [List.append_assoc, List.append_assoc]
  have l4 : (M ++ [MO.lst (drD ns a b c), MO.ins ad.C_Tape (tpF (1 + v) (M.length + 2) (M.length + 2 + 1) none []), MO.lst ((List.replicate (1 + v).toNat sp1).map .str), MO.dK []]).length = M.length + 4 := by rw [List.length_append]; rfl
  have l5 : (M ++ ([MO.lst (drD ns a b c), MO.ins ad.C_Tape (tpF (1 + v) (M.length + 2) (M.length + 2 + 1) none []), MO.lst ((List.replicate (1 + v).toNat sp1).map .str), MO.dK []] ++ [MO.lst ((List.replicate (1 + v).toNat sp1).map .str)])).length = M.length + 5 := by rw [List.length_append]; rfl
  have L : LSt ad (M ++ ([MO.lst (drD ns a b c), MO.ins ad.C_Tape (tpF (1 + v) (M.length + 2) (M.length + 2 + 1) none []), MO.lst ((List.replicate (1 + v).toNat sp1).map .str), MO.dK []] ++ ([MO.lst ((List.replicate (1 + v).toNat sp1).map .str)] ++ [MO.dK []])))
      M.length (M.length + 1) (M.length + 2) (M.length + 2 + 1) (M.length + 4) (M.length + 5) ns a b c ⟨1 + v, List.replicate (1 + v).toNat sp1, [], none, []⟩ := by
    refine ⟨app_ix (i := 0) rfl, ok, ⟨app_ix (i := 1) rfl, app_ix (i := 2) rfl, app_ix (i := 3) rfl⟩, ⟨by show 0 ≤ 1 + v; omega, by show 1 + v ≤ 1000; omega, ?_, fun p hp => (by cases hp), List.nodup_nil, Nat.zero_le _⟩, app_ix (i := 4) rfl, app_ix (i := 5) rfl, by omega, by omega, fun i h => by cases h⟩
    show ((List.replicate (1 + v).toNat sp1).length : Int) = 1 + v
    rw [List.length_replicate]
    omega
  have lM : M.length ≤ (M ++ ([MO.lst (drD ns a b c), MO.ins ad.C_Tape (tpF (1 + v) (M.length + 2) (M.length + 2 + 1) none []), MO.lst ((List.replicate (1 + v).toNat sp1).map .str), MO.dK []] ++ ([MO.lst ((List.replicate (1 + v).toNat sp1).map .str)] ++ [MO.dK []]))).length := by rw [List.length_append]; omega
  refine ⟨30, rfl, by omega, by omega, ?_⟩
  refine ⟨LI ad ns M.length (M.length + 1) (M.length + 4) (1 + v) (M ++ ([MO.lst (drD ns a b c), MO.ins ad.C_Tape (tpF (1 + v) (M.length + 2) (M.length + 2 + 1) none []), MO.lst ((List.replicate (1 + v).toNat sp1).map .str), MO.dK []] ++ ([MO.lst ((List.replicate (1 + v).toNat sp1).map .str)] ++ [MO.dK []]))), ?_, fun _ _ _ _ => trivial, ?_, ?_⟩
  · refine ⟨M.length + 2, M.length + 2 + 1, M.length + 5, ns, a, b, c, ⟨1 + v, List.replicate (1 + v).toNat sp1, [], none, []⟩, none, none, none, none, none, none, none, none, ?_, rfl, by omega, by omega, L, Nat.le_refl _, Nat.le_refl _⟩
    rw [← l4, ← l5]
    rfl
  · rintro j e ρ1 M1 he ⟨s, f, f', xs, a', b', c', z, o5, o9, o10, o11, o12, o13, o14, o15, rfl, hm, m1, m8, L, hl, few⟩
    obtain ⟨hj, rfl⟩ := rng_at he
    refine u_law_130 T (M0 := M ++ ([MO.lst (drD ns a b c), MO.ins ad.C_Tape (tpF (1 + v) (M.length + 2) (M.length + 2 + 1) none []), MO.lst ((List.replicate (1 + v).toNat sp1).map .str), MO.dK []] ++ ([MO.lst ((List.replicate (1 + v).toNat sp1).map .str)] ++ [MO.dK []]))) (o9 := some (.int j)) (fun ρ M' h w ev => ?_) hj L hm m1 m8 few hl
    refine Up.all ?_ w ev h
    obtain ⟨_, _, _, _, _, _, _, _, _, _, _, _, _, _, _, _, _, _, _, _, _, hl', _⟩ := h
    exact hl'
  · rintro ρ1 M1 ⟨s, f, f', xs, a', b', c', z, o5, o9, o10, o11, o12, o13, o14, o15, rfl, hm, m1, m8, L, hl, few⟩
    exact fun w d => UpV.all (Nat.le_trans lM hl) w d (q _)
theorem fo_law (T : Txt P K mg ad) : FnOk P w K mg base (L2.CX P w) 7 ad.f_law ad.fd_law p_law (spD K 1 F_law) :=
  fn_d T.F_law sc_law (y_law T) fun ds M Qd Xd _ h _ _ => u_law T h

end
end K93

namespace K93
open PySem PySem.Spec PyProof.Rows L2 DL
/-! ### what the written part says -/
theorem all_mk {P : Program} {w : World} {K : PySem.W.Frag} {h : Heap} {mg : Str → Option Value} {fa : Addr} (X : K.In h) (G : h.Ns mainGlobals mg) (hfa : mg "law" = some (.ref fa))
    {C_Tape f_init f_check f_read f_write f_fall f_sync f_order f_unsafe f_draws f_draw f_same f_called f_lfall f_law C_SetError f_SetError cda_SetError cc_SetError C_BlockWrong f_BlockWrong cda_BlockWrong cc_BlockWrong C_Fallen f_Fallen cda_Fallen cc_Fallen : Addr} {od_init an_init od_check an_check od_read an_read od_write an_write od_fall an_fall od_sync an_sync od_order an_order od_unsafe an_unsafe od_draws an_draws od_draw an_draw od_same an_same od_called an_called od_lfall an_lfall od_law an_law od_SetError an_SetError cdd_SetError cld_SetError od_BlockWrong an_BlockWrong cdd_BlockWrong cld_BlockWrong od_Fallen an_Fallen cdd_Fallen cld_Fallen : Option Addr}
    {sl_init sl_check sl_read sl_write sl_fall sl_sync sl_order sl_unsafe sl_draws sl_draw sl_same sl_called sl_lfall sl_law sl_SetError ccs_SetError csl_SetError sl_BlockWrong ccs_BlockWrong csl_BlockWrong sl_Fallen ccs_Fallen csl_Fallen : Array (Option Value)} {oc_init kV_init dc_init pm_init cd_init ct_init oc_check kV_check dc_check pm_check cd_check ct_check oc_read kV_read dc_read pm_read cd_read ct_read oc_write kV_write dc_write pm_write cd_write ct_write oc_fall kV_fall dc_fall pm_fall cd_fall ct_fall oc_sync kV_sync dc_sync pm_sync cd_sync ct_sync oc_order kV_order dc_order pm_order cd_order ct_order oc_unsafe kV_unsafe dc_unsafe pm_unsafe cd_unsafe ct_unsafe oc_draws kV_draws dc_draws pm_draws cd_draws ct_draws oc_draw kV_draw dc_draw pm_draw cd_draw ct_draw oc_same kV_same dc_same pm_same cd_same ct_same oc_called kV_called dc_called pm_called cd_called ct_called oc_lfall kV_lfall dc_lfall pm_lfall cd_lfall ct_lfall oc_law kV_law dc_law pm_law cd_law ct_law oc_SetError kV_SetError dc_SetError pm_SetError ct_SetError ccl_SetError cl_SetError oc_BlockWrong kV_BlockWrong dc_BlockWrong pm_BlockWrong ct_BlockWrong ccl_BlockWrong cl_BlockWrong oc_Fallen kV_Fallen dc_Fallen pm_Fallen ct_Fallen ccl_Fallen cl_Fallen : Value}
    {tk_SIZE : Tok}
    {vs_SetError : Array Value} {fl_SetError : Str} {tf_SetError : Tok} {cd_SetError : ClassData}
    {dT_SetError : Addr} {dt0_SetError : Value} {dtn_SetError : Nat} {dtc_SetError : Value} {dtd_SetError : Option Addr} {dtl_SetError : Array (Option Value)}
    {vs_BlockWrong : Array Value} {fl_BlockWrong : Str} {tf_BlockWrong : Tok} {cd_BlockWrong : ClassData}
    {vs_Fallen : Array Value} {fl_Fallen : Str} {tf_Fallen : Tok} {cd_Fallen : ClassData}
    {xn_BlockWrong xq_BlockWrong : Str} {xN_BlockWrong : Addr} {xb_BlockWrong xm_BlockWrong xs_BlockWrong : List Value} {xl_BlockWrong : List Str} {xa_BlockWrong : Bool} {xc_BlockWrong : Option Bool} {xd_BlockWrong : Option Addr} {x0_BlockWrong x1_BlockWrong x2_BlockWrong x3_BlockWrong x5_BlockWrong : Option Value}
    {xn_Fallen xq_Fallen : Str} {xN_Fallen : Addr} {xb_Fallen xm_Fallen xs_Fallen : List Value} {xl_Fallen : List Str} {xa_Fallen : Bool} {xc_Fallen : Option Bool} {xd_Fallen : Option Addr} {x0_Fallen x1_Fallen x2_Fallen x3_Fallen x5_Fallen : Option Value}
    (aC_Tape : PySem.W.nsIn K mainGlobals "Tape" = some (some (.ref C_Tape)))
    (a_init : PySem.W.findIn K (.ref C_Tape) "__init__" = some (some (.ref f_init)))
    (i_init : PySem.W.isFn K (.ref f_init) = true)
    (l_init : K.lookup f_init = some ⟨oc_init, od_init, .func (PySem.W.fnOf "__init__" "Tape.__init__" (defArgs s_init) (defBody s_init) (defScope s_init) .none kV_init dc_init pm_init an_init cd_init ct_init), sl_init⟩)
    (c_init : PySem.W.codeIn K cd_init "Tape.__init__" = true)
    (k_init : PySem.W.keepIn K (.ref f_init) = true)
    (a_check : PySem.W.findIn K (.ref C_Tape) "check" = some (some (.ref f_check)))
    (i_check : PySem.W.isFn K (.ref f_check) = true)
    (l_check : K.lookup f_check = some ⟨oc_check, od_check, .func (PySem.W.fnOf "check" "Tape.check" (defArgs s_check) (defBody s_check) (defScope s_check) .none kV_check dc_check pm_check an_check cd_check ct_check), sl_check⟩)
    (c_check : PySem.W.codeIn K cd_check "Tape.check" = true)
    (k_check : PySem.W.keepIn K (.ref f_check) = true)
    (a_read : PySem.W.findIn K (.ref C_Tape) "read" = some (some (.ref f_read)))
    (i_read : PySem.W.isFn K (.ref f_read) = true)
    (l_read : K.lookup f_read = some ⟨oc_read, od_read, .func (PySem.W.fnOf "read" "Tape.read" (defArgs s_read) (defBody s_read) (defScope s_read) .none kV_read dc_read pm_read an_read cd_read ct_read), sl_read⟩)
    (c_read : PySem.W.codeIn K cd_read "Tape.read" = true)
    (k_read : PySem.W.keepIn K (.ref f_read) = true)
    (a_write : PySem.W.findIn K (.ref C_Tape) "write" = some (some (.ref f_write)))
    (i_write : PySem.W.isFn K (.ref f_write) = true)
    (l_write : K.lookup f_write = some ⟨oc_write, od_write, .func (PySem.W.fnOf "write" "Tape.write" (defArgs s_write) (defBody s_write) (defScope s_write) .none kV_write dc_write pm_write an_write cd_write ct_write), sl_write⟩)
    (c_write : PySem.W.codeIn K cd_write "Tape.write" = true)
    (k_write : PySem.W.keepIn K (.ref f_write) = true)
    (a_fall : PySem.W.findIn K (.ref C_Tape) "fall" = some (some (.ref f_fall)))
    (i_fall : PySem.W.isFn K (.ref f_fall) = true)
    (l_fall : K.lookup f_fall = some ⟨oc_fall, od_fall, .func (PySem.W.fnOf "fall" "Tape.fall" (defArgs s_fall) (defBody s_fall) (defScope s_fall) .none kV_fall dc_fall pm_fall an_fall cd_fall ct_fall), sl_fall⟩)
    (c_fall : PySem.W.codeIn K cd_fall "Tape.fall" = true)
    (k_fall : PySem.W.keepIn K (.ref f_fall) = true)
    (a_sync : PySem.W.findIn K (.ref C_Tape) "sync" = some (some (.ref f_sync)))
    (i_sync : PySem.W.isFn K (.ref f_sync) = true)
    (l_sync : K.lookup f_sync = some ⟨oc_sync, od_sync, .func (PySem.W.fnOf "sync" "Tape.sync" (defArgs s_sync) (defBody s_sync) (defScope s_sync) .none kV_sync dc_sync pm_sync an_sync cd_sync ct_sync), sl_sync⟩)
    (c_sync : PySem.W.codeIn K cd_sync "Tape.sync" = true)
    (k_sync : PySem.W.keepIn K (.ref f_sync) = true)
    (a_order : PySem.W.findIn K (.ref C_Tape) "order" = some (some (.ref f_order)))
    (i_order : PySem.W.isFn K (.ref f_order) = true)
    (l_order : K.lookup f_order = some ⟨oc_order, od_order, .func (PySem.W.fnOf "order" "Tape.order" (defArgs s_order) (defBody s_order) (defScope s_order) .none kV_order dc_order pm_order an_order cd_order ct_order), sl_order⟩)
    (c_order : PySem.W.codeIn K cd_order "Tape.order" = true)
    (k_order : PySem.W.keepIn K (.ref f_order) = true)
    (a_unsafe : PySem.W.findIn K (.ref C_Tape) "unsafe" = some (some (.ref f_unsafe)))
    (i_unsafe : PySem.W.isFn K (.ref f_unsafe) = true)
    (l_unsafe : K.lookup f_unsafe = some ⟨oc_unsafe, od_unsafe, .func (PySem.W.fnOf "unsafe" "Tape.unsafe" (defArgs s_unsafe) (defBody s_unsafe) (defScope s_unsafe) .none kV_unsafe dc_unsafe pm_unsafe an_unsafe cd_unsafe ct_unsafe), sl_unsafe⟩)
    (c_unsafe : PySem.W.codeIn K cd_unsafe "Tape.unsafe" = true)
    (k_unsafe : PySem.W.keepIn K (.ref f_unsafe) = true)
    (a_draws : PySem.W.nsIn K mainGlobals "_law_draws" = some (some (.ref f_draws)))
    (l_draws : K.lookup f_draws = some ⟨oc_draws, od_draws, .func (PySem.W.fnOf "_law_draws" "_law_draws" (defArgs s_draws) (defBody s_draws) (defScope s_draws) .none kV_draws dc_draws pm_draws an_draws cd_draws ct_draws), sl_draws⟩)
    (c_draws : PySem.W.codeIn K cd_draws "_law_draws" = true)
    (k_draws : PySem.W.keepIn K (.ref f_draws) = true)
    (a_draw : PySem.W.nsIn K mainGlobals "_law_draw" = some (some (.ref f_draw)))
    (l_draw : K.lookup f_draw = some ⟨oc_draw, od_draw, .func (PySem.W.fnOf "_law_draw" "_law_draw" (defArgs s_draw) (defBody s_draw) (defScope s_draw) .none kV_draw dc_draw pm_draw an_draw cd_draw ct_draw), sl_draw⟩)
    (c_draw : PySem.W.codeIn K cd_draw "_law_draw" = true)
    (k_draw : PySem.W.keepIn K (.ref f_draw) = true)
    (a_same : PySem.W.nsIn K mainGlobals "_law_same" = some (some (.ref f_same)))
    (l_same : K.lookup f_same = some ⟨oc_same, od_same, .func (PySem.W.fnOf "_law_same" "_law_same" (defArgs s_same) (defBody s_same) (defScope s_same) .none kV_same dc_same pm_same an_same cd_same ct_same), sl_same⟩)
    (c_same : PySem.W.codeIn K cd_same "_law_same" = true)
    (k_same : PySem.W.keepIn K (.ref f_same) = true)
    (a_called : PySem.W.nsIn K mainGlobals "_law_called" = some (some (.ref f_called)))
    (l_called : K.lookup f_called = some ⟨oc_called, od_called, .func (PySem.W.fnOf "_law_called" "_law_called" (defArgs s_called) (defBody s_called) (defScope s_called) .none kV_called dc_called pm_called an_called cd_called ct_called), sl_called⟩)
    (c_called : PySem.W.codeIn K cd_called "_law_called" = true)
    (k_called : PySem.W.keepIn K (.ref f_called) = true)
    (a_lfall : PySem.W.nsIn K mainGlobals "_law_fall" = some (some (.ref f_lfall)))
    (l_lfall : K.lookup f_lfall = some ⟨oc_lfall, od_lfall, .func (PySem.W.fnOf "_law_fall" "_law_fall" (defArgs s_lfall) (defBody s_lfall) (defScope s_lfall) .none kV_lfall dc_lfall pm_lfall an_lfall cd_lfall ct_lfall), sl_lfall⟩)
    (c_lfall : PySem.W.codeIn K cd_lfall "_law_fall" = true)
    (k_lfall : PySem.W.keepIn K (.ref f_lfall) = true)
    (a_law : PySem.W.nsIn K mainGlobals "law" = some (some (.ref f_law)))
    (l_law : K.lookup f_law = some ⟨oc_law, od_law, .func (PySem.W.fnOf "law" "law" (defArgs s_law) (defBody s_law) (defScope s_law) .none kV_law dc_law pm_law an_law cd_law ct_law), sl_law⟩)
    (c_law : PySem.W.codeIn K cd_law "law" = true)
    (k_law : PySem.W.keepIn K (.ref f_law) = true)
    (pg_Tape : PySem.W.plainGet K C_Tape Str.empty = true)
    (hd_Tape : PySem.W.hasDictIn K C_Tape = true)
    (po_Tape : PySem.W.plainOver K C_Tape = true)
    (sa_Tape : PySem.W.findIn K (.ref C_Tape) "__setattr__" = some (some (.builtin "object.__setattr__")))
    (mk_Tape : PySem.W.makesIn K C_Tape = true)
    (kc_Tape : PySem.W.keepIn K (.ref C_Tape) = true)
    (na_Tape_many : PySem.W.findIn K (.ref C_Tape) "many" = some none)
    (na_Tape_safe : PySem.W.findIn K (.ref C_Tape) "safe" = some none)
    (na_Tape_fresh : PySem.W.findIn K (.ref C_Tape) "fresh" = some none)
    (na_Tape_left : PySem.W.findIn K (.ref C_Tape) "left" = some none)
    (na_Tape_kept : PySem.W.findIn K (.ref C_Tape) "kept" = some none)
    (z_len : PySem.W.nsIn K mainGlobals "len" = some none)
    (z_list : PySem.W.nsIn K mainGlobals "list" = some none)
    (z_sorted : PySem.W.nsIn K mainGlobals "sorted" = some none)
    (z_all : PySem.W.nsIn K mainGlobals "all" = some none)
    (z_isinstance : PySem.W.nsIn K mainGlobals "isinstance" = some none)
    (z_int : PySem.W.nsIn K mainGlobals "int" = some none)
    (z_range : PySem.W.nsIn K mainGlobals "range" = some none)
    (z_bool : PySem.W.nsIn K mainGlobals "bool" = some none)
    (z_str : PySem.W.nsIn K mainGlobals "str" = some none)
    (z_dict : PySem.W.nsIn K mainGlobals "dict" = some none)
    (z_tuple : PySem.W.nsIn K mainGlobals "tuple" = some none)
    (g_SIZE : PySem.W.nsIn K mainGlobals "SIZE" = some (some (.int 64 tk_SIZE)))
    (z_super : PySem.W.nsIn K mainGlobals "super" = some none)
    (tp : PySem.W.nsIn K PySem.cStatics "thirdparty.any" = some none)
    (htop : (P.main.scope.names.lookup ("super" : Str)).isSome = false)
    (aC_SetError : PySem.W.nsIn K mainGlobals "SetError" = some (some (.ref C_SetError)))
    (a_SetError : PySem.W.findIn K (.ref C_SetError) "__init__" = some (some (.ref f_SetError)))
    (l_SetError : K.lookup f_SetError = some ⟨oc_SetError, od_SetError, .func (PySem.W.ksFn "__init__" "SetError.__init__" (defArgs s_SetError) (defBody s_SetError) (defScope s_SetError) (.ref dT_SetError) kV_SetError dc_SetError pm_SetError an_SetError (.ref cda_SetError) ct_SetError cc_SetError), sl_SetError⟩)
    (c_SetError : PySem.W.codeIn K (.ref cda_SetError) "SetError.__init__" = true)
    (lT_SetError : K.lookup dT_SetError = some ⟨dtc_SetError, dtd_SetError, .seq [dt0_SetError].toArray dtn_SetError, dtl_SetError⟩)
    (cl1_SetError : K.lookup cda_SetError = some ⟨ccl_SetError, cdd_SetError, .fields vs_SetError, ccs_SetError⟩)
    (cv_SetError : vs_SetError[2]? = some (.str fl_SetError tf_SetError))
    (cf_SetError : ((P.main.file : Str) == fl_SetError) = true)
    (ce_SetError : K.lookup cc_SetError = some ⟨cl_SetError, cld_SetError, .cell (some (.ref C_SetError)), csl_SetError⟩)
    (cs_SetError : PySem.W.clsIn K C_SetError = some cd_SetError)
    (t_SetError : PySem.W.typeIn K (.ref f_SetError) = some (.type "function"))
    (aC_BlockWrong : PySem.W.nsIn K mainGlobals "BlockWrong" = some (some (.ref C_BlockWrong)))
    (a_BlockWrong : PySem.W.findIn K (.ref C_BlockWrong) "__init__" = some (some (.ref f_BlockWrong)))
    (l_BlockWrong : K.lookup f_BlockWrong = some ⟨oc_BlockWrong, od_BlockWrong, .func (PySem.W.ksFn "__init__" "BlockWrong.__init__" (defArgs s_BlockWrong) (defBody s_BlockWrong) (defScope s_BlockWrong) .none kV_BlockWrong dc_BlockWrong pm_BlockWrong an_BlockWrong (.ref cda_BlockWrong) ct_BlockWrong cc_BlockWrong), sl_BlockWrong⟩)
    (c_BlockWrong : PySem.W.codeIn K (.ref cda_BlockWrong) "BlockWrong.__init__" = true)
    (cl1_BlockWrong : K.lookup cda_BlockWrong = some ⟨ccl_BlockWrong, cdd_BlockWrong, .fields vs_BlockWrong, ccs_BlockWrong⟩)
    (cv_BlockWrong : vs_BlockWrong[2]? = some (.str fl_BlockWrong tf_BlockWrong))
    (cf_BlockWrong : ((P.main.file : Str) == fl_BlockWrong) = true)
    (ce_BlockWrong : K.lookup cc_BlockWrong = some ⟨cl_BlockWrong, cld_BlockWrong, .cell (some (.ref C_BlockWrong)), csl_BlockWrong⟩)
    (cs_BlockWrong : PySem.W.clsIn K C_BlockWrong = some cd_BlockWrong)
    (t_BlockWrong : PySem.W.typeIn K (.ref f_BlockWrong) = some (.type "function"))
    (aC_Fallen : PySem.W.nsIn K mainGlobals "Fallen" = some (some (.ref C_Fallen)))
    (a_Fallen : PySem.W.findIn K (.ref C_Fallen) "__init__" = some (some (.ref f_Fallen)))
    (l_Fallen : K.lookup f_Fallen = some ⟨oc_Fallen, od_Fallen, .func (PySem.W.ksFn "__init__" "Fallen.__init__" (defArgs s_Fallen) (defBody s_Fallen) (defScope s_Fallen) .none kV_Fallen dc_Fallen pm_Fallen an_Fallen (.ref cda_Fallen) ct_Fallen cc_Fallen), sl_Fallen⟩)
    (c_Fallen : PySem.W.codeIn K (.ref cda_Fallen) "Fallen.__init__" = true)
    (cl1_Fallen : K.lookup cda_Fallen = some ⟨ccl_Fallen, cdd_Fallen, .fields vs_Fallen, ccs_Fallen⟩)
    (cv_Fallen : vs_Fallen[2]? = some (.str fl_Fallen tf_Fallen))
    (cf_Fallen : ((P.main.file : Str) == fl_Fallen) = true)
    (ce_Fallen : K.lookup cc_Fallen = some ⟨cl_Fallen, cld_Fallen, .cell (some (.ref C_Fallen)), csl_Fallen⟩)
    (cs_Fallen : PySem.W.clsIn K C_Fallen = some cd_Fallen)
    (t_Fallen : PySem.W.typeIn K (.ref f_Fallen) = some (.type "function"))
    (fn_b : PySem.W.fnIn K f_SetError = true)
    (xL_BlockWrong : K.lookup C_BlockWrong = some (excClassObj xn_BlockWrong xq_BlockWrong C_BlockWrong xN_BlockWrong xb_BlockWrong xm_BlockWrong true xl_BlockWrong xs_BlockWrong xa_BlockWrong xc_BlockWrong xd_BlockWrong x0_BlockWrong x1_BlockWrong x2_BlockWrong x3_BlockWrong x5_BlockWrong "ValueError.__new__"))
    (xR_BlockWrong : PySem.HandSPX.refsVE xm_BlockWrong = true)
    (xsa_BlockWrong : PySem.W.findIn K (.ref C_BlockWrong) "__setattr__" = some (some (.builtin "object.__setattr__")))
    (xe_BlockWrong : PySem.W.subIn K (.ref C_BlockWrong) (.type "BaseException") = some true)
    (xt_BlockWrong : PySem.W.typeIn K (.ref C_BlockWrong) = some (.type "type"))
    (xk_BlockWrong : PySem.W.keepIn K (.ref C_BlockWrong) = true)
    (m1_BlockWrong : PySem.W.mroIn K C_BlockWrong (.ref C_BlockWrong) = some true)
    (m2_BlockWrong : PySem.W.mroIn K C_BlockWrong (.ref C_SetError) = some true)
    (u1_BlockWrong : PySem.W.ks_superIn K C_BlockWrong C_BlockWrong "__init__" = some (some (.ref f_SetError)))
    (u2_BlockWrong : PySem.W.ks_superIn K C_BlockWrong C_SetError "__init__" = some (some (.builtin "ValueError.__init__")))
    (ve_BlockWrong : PySem.W.subIn K (.ref C_BlockWrong) (.type "ValueError") = some true)
    (nA_BlockWrong : PySem.W.findIn K (.ref C_BlockWrong) "at" = some none)
    (nN_BlockWrong : PySem.W.findIn K (.ref C_BlockWrong) "name" = some none)
    (xg_BlockWrong : PySem.W.findIn K (.ref C_BlockWrong) "__getattribute__" = some (some (.builtin "BaseException.__getattribute__")))
    (xh_BlockWrong : PySem.W.findIn K (.ref C_BlockWrong) "__getattr__" = some none)
    (xi_BlockWrong : PySem.W.hasDictIn K C_BlockWrong = true)
    (xL_Fallen : K.lookup C_Fallen = some (excClassObj xn_Fallen xq_Fallen C_Fallen xN_Fallen xb_Fallen xm_Fallen true xl_Fallen xs_Fallen xa_Fallen xc_Fallen xd_Fallen x0_Fallen x1_Fallen x2_Fallen x3_Fallen x5_Fallen "ValueError.__new__"))
    (xR_Fallen : PySem.HandSPX.refsVE xm_Fallen = true)
    (xsa_Fallen : PySem.W.findIn K (.ref C_Fallen) "__setattr__" = some (some (.builtin "object.__setattr__")))
    (xe_Fallen : PySem.W.subIn K (.ref C_Fallen) (.type "BaseException") = some true)
    (xt_Fallen : PySem.W.typeIn K (.ref C_Fallen) = some (.type "type"))
    (xk_Fallen : PySem.W.keepIn K (.ref C_Fallen) = true)
    (m1_Fallen : PySem.W.mroIn K C_Fallen (.ref C_Fallen) = some true)
    (m2_Fallen : PySem.W.mroIn K C_Fallen (.ref C_SetError) = some true)
    (u1_Fallen : PySem.W.ks_superIn K C_Fallen C_Fallen "__init__" = some (some (.ref f_SetError)))
    (u2_Fallen : PySem.W.ks_superIn K C_Fallen C_SetError "__init__" = some (some (.builtin "ValueError.__init__")))
    (ve_Fallen : PySem.W.subIn K (.ref C_Fallen) (.type "ValueError") = some true)
    (nA_Fallen : PySem.W.findIn K (.ref C_Fallen) "at" = some none)
    (nN_Fallen : PySem.W.findIn K (.ref C_Fallen) "name" = some none)
    (xg_Fallen : PySem.W.findIn K (.ref C_Fallen) "__getattribute__" = some (some (.builtin "BaseException.__getattribute__")))
    (xh_Fallen : PySem.W.findIn K (.ref C_Fallen) "__getattr__" = some none)
    (xi_Fallen : PySem.W.hasDictIn K C_Fallen = true)
    (e_BlockWrong_BlockWrong : PySem.W.exmOne K (.ref C_BlockWrong) (.ref C_BlockWrong) = some true)
    (e_Fallen_BlockWrong : PySem.W.exmOne K (.ref C_Fallen) (.ref C_BlockWrong) = some false)
    (e_Fallen_Fallen : PySem.W.exmOne K (.ref C_Fallen) (.ref C_Fallen) = some true)
    : ∃ fd : FuncData, (∀ (s : Shared) (u : Value), BindsTo s fd ⟨[u], []⟩ [("script", u)]) ∧ ∀ base : Heap, K.In base → base.Ns mainGlobals mg → FnOk P w K mg base (L2.CX P w) 7 fa fd ["script"] (spD K 1 F_law) := by
  have e := hfa.symm.trans (PySem.W.mg_of X G a_law)
  cases e
  have F_init := fun_mk (st := s_init) l_init c_init k_init
  have b_init := F_init.binds (ps := p_init) fun _ _ _ _ _ _ us hl => match us, hl with | [_, _], _ => rfl
  have F_check := fun_mk (st := s_check) l_check c_check k_check
  have b_check := F_check.binds (ps := p_check) fun _ _ _ _ _ _ us hl => match us, hl with | [_, _], _ => rfl
  have F_read := fun_mk (st := s_read) l_read c_read k_read
  have b_read := F_read.binds (ps := p_read) fun _ _ _ _ _ _ us hl => match us, hl with | [_, _], _ => rfl
  have F_write := fun_mk (st := s_write) l_write c_write k_write
  have b_write := F_write.binds (ps := p_write) fun _ _ _ _ _ _ us hl => match us, hl with | [_, _, _], _ => rfl
  have F_fall := fun_mk (st := s_fall) l_fall c_fall k_fall
  have b_fall := F_fall.binds (ps := p_fall) fun _ _ _ _ _ _ us hl => match us, hl with | [_, _], _ => rfl
  have F_sync := fun_mk (st := s_sync) l_sync c_sync k_sync
  have b_sync := F_sync.binds (ps := p_sync) fun _ _ _ _ _ _ us hl => match us, hl with | [_], _ => rfl
  have F_order := fun_mk (st := s_order) l_order c_order k_order
  have b_order := F_order.binds (ps := p_order) fun _ _ _ _ _ _ us hl => match us, hl with | [_, _, _], _ => rfl
  have F_unsafe := fun_mk (st := s_unsafe) l_unsafe c_unsafe k_unsafe
  have b_unsafe := F_unsafe.binds (ps := p_unsafe) fun _ _ _ _ _ _ us hl => match us, hl with | [_], _ => rfl
  have F_draws := fun_mk (st := s_draws) l_draws c_draws k_draws
  have b_draws := F_draws.binds (ps := p_draws) fun _ _ _ _ _ _ us hl => match us, hl with | [_], _ => rfl
  have F_draw := fun_mk (st := s_draw) l_draw c_draw k_draw
  have b_draw := F_draw.binds (ps := p_draw) fun _ _ _ _ _ _ us hl => match us, hl with | [_, _], _ => rfl
  have F_same := fun_mk (st := s_same) l_same c_same k_same
  have b_same := F_same.binds (ps := p_same) fun _ _ _ _ _ _ us hl => match us, hl with | [_, _], _ => rfl
  have F_called := fun_mk (st := s_called) l_called c_called k_called
  have b_called := F_called.binds (ps := p_called) fun _ _ _ _ _ _ us hl => match us, hl with | [_, _, _, _], _ => rfl
  have F_lfall := fun_mk (st := s_lfall) l_lfall c_lfall k_lfall
  have b_lfall := F_lfall.binds (ps := p_lfall) fun _ _ _ _ _ _ us hl => match us, hl with | [_, _, _], _ => rfl
  have F_law := fun_mk (st := s_law) l_law c_law k_law
  have b_law := F_law.binds (ps := p_law) fun _ _ _ _ _ _ us hl => match us, hl with | [_], _ => rfl
  let ad : Ad := ⟨f_init, f_check, f_read, f_write, f_fall, f_sync, f_order, f_unsafe, f_draws, f_draw, f_same, f_called, f_lfall, fa, C_Tape, f_SetError, C_SetError, cda_SetError, cc_SetError, f_BlockWrong, C_BlockWrong, cda_BlockWrong, cc_BlockWrong, f_Fallen, C_Fallen, cda_Fallen, cc_Fallen, (PySem.W.fnOf "__init__" "Tape.__init__" (defArgs s_init) (defBody s_init) (defScope s_init) .none kV_init dc_init pm_init an_init cd_init ct_init), (PySem.W.fnOf "check" "Tape.check" (defArgs s_check) (defBody s_check) (defScope s_check) .none kV_check dc_check pm_check an_check cd_check ct_check), (PySem.W.fnOf "read" "Tape.read" (defArgs s_read) (defBody s_read) (defScope s_read) .none kV_read dc_read pm_read an_read cd_read ct_read), (PySem.W.fnOf "write" "Tape.write" (defArgs s_write) (defBody s_write) (defScope s_write) .none kV_write dc_write pm_write an_write cd_write ct_write), (PySem.W.fnOf "fall" "Tape.fall" (defArgs s_fall) (defBody s_fall) (defScope s_fall) .none kV_fall dc_fall pm_fall an_fall cd_fall ct_fall), (PySem.W.fnOf "sync" "Tape.sync" (defArgs s_sync) (defBody s_sync) (defScope s_sync) .none kV_sync dc_sync pm_sync an_sync cd_sync ct_sync), (PySem.W.fnOf "order" "Tape.order" (defArgs s_order) (defBody s_order) (defScope s_order) .none kV_order dc_order pm_order an_order cd_order ct_order), (PySem.W.fnOf "unsafe" "Tape.unsafe" (defArgs s_unsafe) (defBody s_unsafe) (defScope s_unsafe) .none kV_unsafe dc_unsafe pm_unsafe an_unsafe cd_unsafe ct_unsafe), (PySem.W.fnOf "_law_draws" "_law_draws" (defArgs s_draws) (defBody s_draws) (defScope s_draws) .none kV_draws dc_draws pm_draws an_draws cd_draws ct_draws), (PySem.W.fnOf "_law_draw" "_law_draw" (defArgs s_draw) (defBody s_draw) (defScope s_draw) .none kV_draw dc_draw pm_draw an_draw cd_draw ct_draw), (PySem.W.fnOf "_law_same" "_law_same" (defArgs s_same) (defBody s_same) (defScope s_same) .none kV_same dc_same pm_same an_same cd_same ct_same), (PySem.W.fnOf "_law_called" "_law_called" (defArgs s_called) (defBody s_called) (defScope s_called) .none kV_called dc_called pm_called an_called cd_called ct_called), (PySem.W.fnOf "_law_fall" "_law_fall" (defArgs s_lfall) (defBody s_lfall) (defScope s_lfall) .none kV_lfall dc_lfall pm_lfall an_lfall cd_lfall ct_lfall), (PySem.W.fnOf "law" "law" (defArgs s_law) (defBody s_law) (defScope s_law) .none kV_law dc_law pm_law an_law cd_law ct_law), (PySem.W.ksFn "__init__" "SetError.__init__" (defArgs s_SetError) (defBody s_SetError) (defScope s_SetError) (.ref dT_SetError) kV_SetError dc_SetError pm_SetError an_SetError (.ref cda_SetError) ct_SetError cc_SetError), (PySem.W.ksFn "__init__" "BlockWrong.__init__" (defArgs s_BlockWrong) (defBody s_BlockWrong) (defScope s_BlockWrong) .none kV_BlockWrong dc_BlockWrong pm_BlockWrong an_BlockWrong (.ref cda_BlockWrong) ct_BlockWrong cc_BlockWrong), (PySem.W.ksFn "__init__" "Fallen.__init__" (defArgs s_Fallen) (defBody s_Fallen) (defScope s_Fallen) .none kV_Fallen dc_Fallen pm_Fallen an_Fallen (.ref cda_Fallen) ct_Fallen cc_Fallen), (.int 64 tk_SIZE)⟩
  have b_SetError : Binds K (PySem.W.ksFn "__init__" "SetError.__init__" (defArgs s_SetError) (defBody s_SetError) (defScope s_SetError) (.ref dT_SetError) kV_SetError dc_SetError pm_SetError an_SetError (.ref cda_SetError) ct_SetError cc_SetError) p_SetError [] := fun s us KI hl => match us, hl with | [x0, x1, x2], _ => L2.BindsTo.of_looks fun M => looks_items KI lT_SetError rfl (.of_pure rfl)
  have b_BlockWrong : Binds K (PySem.W.ksFn "__init__" "BlockWrong.__init__" (defArgs s_BlockWrong) (defBody s_BlockWrong) (defScope s_BlockWrong) .none kV_BlockWrong dc_BlockWrong pm_BlockWrong an_BlockWrong (.ref cda_BlockWrong) ct_BlockWrong cc_BlockWrong) p_BlockWrong [] := Binds.all fun us hl => match us, hl with | [_, _], _ => rfl
  have b_Fallen : Binds K (PySem.W.ksFn "__init__" "Fallen.__init__" (defArgs s_Fallen) (defBody s_Fallen) (defScope s_Fallen) .none kV_Fallen dc_Fallen pm_Fallen an_Fallen (.ref cda_Fallen) ct_Fallen cc_Fallen) p_Fallen [] := Binds.all fun us hl => match us, hl with | [_, _], _ => rfl
  have ox_BlockWrong : OexC K C_BlockWrong := ⟨⟨xn_BlockWrong, xq_BlockWrong, xN_BlockWrong, xb_BlockWrong, xm_BlockWrong, xl_BlockWrong, xs_BlockWrong, xa_BlockWrong, xc_BlockWrong, xd_BlockWrong, x0_BlockWrong, x1_BlockWrong, x2_BlockWrong, x3_BlockWrong, x5_BlockWrong, xL_BlockWrong, xR_BlockWrong⟩, xsa_BlockWrong, xe_BlockWrong, xt_BlockWrong, xk_BlockWrong⟩
  have ox_Fallen : OexC K C_Fallen := ⟨⟨xn_Fallen, xq_Fallen, xN_Fallen, xb_Fallen, xm_Fallen, xl_Fallen, xs_Fallen, xa_Fallen, xc_Fallen, xd_Fallen, x0_Fallen, x1_Fallen, x2_Fallen, x3_Fallen, x5_Fallen, xL_Fallen, xR_Fallen⟩, xsa_Fallen, xe_Fallen, xt_Fallen, xk_Fallen⟩
  have T : Txt P K mg ad := ⟨PySem.W.mg_none_of X G z_len,
    PySem.W.mg_none_of X G z_list,
    PySem.W.mg_none_of X G z_sorted,
    PySem.W.mg_none_of X G z_all,
    PySem.W.mg_none_of X G z_isinstance,
    PySem.W.mg_none_of X G z_int,
    PySem.W.mg_none_of X G z_range,
    PySem.W.mg_none_of X G z_bool,
    PySem.W.mg_none_of X G z_str,
    PySem.W.mg_none_of X G z_dict,
    PySem.W.mg_none_of X G z_tuple,
    PySem.W.mg_of X G g_SIZE,
    ⟨_, rfl⟩,
    F_init,
    b_init,
    F_check,
    b_check,
    ⟨a_check, i_check, k_check⟩,
    F_read,
    b_read,
    ⟨a_read, i_read, k_read⟩,
    F_write,
    b_write,
    ⟨a_write, i_write, k_write⟩,
    F_fall,
    b_fall,
    ⟨a_fall, i_fall, k_fall⟩,
    F_sync,
    b_sync,
    ⟨a_sync, i_sync, k_sync⟩,
    F_order,
    b_order,
    ⟨a_order, i_order, k_order⟩,
    F_unsafe,
    b_unsafe,
    ⟨a_unsafe, i_unsafe, k_unsafe⟩,
    F_draws,
    b_draws,
    PySem.W.mg_of X G a_draws,
    F_draw,
    b_draw,
    PySem.W.mg_of X G a_draw,
    F_same,
    b_same,
    PySem.W.mg_of X G a_same,
    F_called,
    b_called,
    PySem.W.mg_of X G a_called,
    F_lfall,
    b_lfall,
    PySem.W.mg_of X G a_lfall,
    F_law,
    b_law,
    PySem.W.mg_of X G a_law,
    ⟨pg_Tape, hd_Tape, po_Tape, sa_Tape⟩,
    ⟨mk_Tape, a_init, i_init, kc_Tape⟩,
    PySem.W.mg_of X G aC_Tape,
    na_Tape_many,
    na_Tape_safe,
    na_Tape_fresh,
    na_Tape_left,
    na_Tape_kept,
    PySem.W.mg_none_of X G z_super,
    htop,
    ⟨⟨_, _, _, _, _, _, _, _, _, rfl, l_SetError⟩, c_SetError, ⟨_, _, _, _, _, _, cl1_SetError, cv_SetError, cf_SetError⟩, ⟨_, _, _, ce_SetError⟩, ⟨_, cs_SetError⟩⟩,
    b_SetError,
    ⟨⟨_, _, _, _, _, _, _, _, _, rfl, l_BlockWrong⟩, c_BlockWrong, ⟨_, _, _, _, _, _, cl1_BlockWrong, cv_BlockWrong, cf_BlockWrong⟩, ⟨_, _, _, ce_BlockWrong⟩, ⟨_, cs_BlockWrong⟩⟩,
    b_BlockWrong,
    ⟨⟨_, _, _, _, _, _, _, _, _, rfl, l_Fallen⟩, c_Fallen, ⟨_, _, _, _, _, _, cl1_Fallen, cv_Fallen, cf_Fallen⟩, ⟨_, _, _, ce_Fallen⟩, ⟨_, cs_Fallen⟩⟩,
    b_Fallen,
    ⟨⟨⟨m1_BlockWrong, tp⟩, u1_BlockWrong, t_SetError, fn_b⟩, ⟨ox_BlockWrong, ⟨⟨m2_BlockWrong, tp⟩, u2_BlockWrong, ve_BlockWrong⟩, nA_BlockWrong, nN_BlockWrong⟩⟩,
    a_BlockWrong,
    t_BlockWrong,
    PySem.W.mg_of X G aC_BlockWrong,
    ⟨xg_BlockWrong, xh_BlockWrong, xe_BlockWrong, xi_BlockWrong⟩,
    ⟨⟨⟨m1_Fallen, tp⟩, u1_Fallen, t_SetError, fn_b⟩, ⟨ox_Fallen, ⟨⟨m2_Fallen, tp⟩, u2_Fallen, ve_Fallen⟩, nA_Fallen, nN_Fallen⟩⟩,
    a_Fallen,
    t_Fallen,
    PySem.W.mg_of X G aC_Fallen,
    ⟨xg_Fallen, xh_Fallen, xe_Fallen, xi_Fallen⟩,
    e_BlockWrong_BlockWrong,
    e_Fallen_BlockWrong,
    e_Fallen_Fallen⟩
  exact ⟨ad.fd_law, fun s u => .of_eq rfl, fun base _ _ => fo_law T⟩
theorem start_ok {K : PySem.W.Frag} {H : Hp} {a : Addr} {ns : List Int} (hS : SqL K H a (ns.map V.int)) : spD K 1 F_law [.ref a] H (fun v _ => v = .bl true) fun _ _ _ => False :=
  ⟨rfl, H, [], [.scr ns], [], fun d _ => d = .bl true, fun _ _ _ => False, ⟨Same.refl _, rfl, List.nodup_nil, fun _ h => (by cases h), fun _ _ _ h => (by cases h)⟩, .cons (.scr hS) .nil, ⟨ns, rfl, fun _ => rfl⟩, fun _ _ _ _ v d _ _ r e => (by subst e; exact r.bl_inv), fun _ _ _ _ _ _ _ _ _ _ _ _ z => z.elim⟩
theorem walk {l : PySem.W.OpenLaw} {q : Program} {loose : List Str} {XP : (Str → Option Value) → Heap → Prop} {YP : World → Heap → Prop} {d : DefRec} {K : Params → PySem.W.Frag} (hn : l.most = some 63) (hdf : d.params.defaults = [])
    (hY : ∀ (w : World) (h : Heap), YP w h → (K w.params).In h)
    (F : ∀ (w : World) (mg : Str → Option Value) (fa : Addr) (h : Heap), (K w.params).In h → h.Ns mainGlobals mg → mg d.name = some (.ref fa) →
      ∃ fd : FuncData, (∀ (s : Shared) (u : Value), BindsTo s fd ⟨[u], []⟩ [("script", u)]) ∧ ∀ base : Heap, (K w.params).In base → base.Ns mainGlobals mg → FnOk l.prog w (K w.params) mg base (L2.CX l.prog w) 7 fa fd ["script"] (spD (K w.params) 1 F_law)) :
    PySem.W.WalkO q loose XP YP l.row.toRowW d [] (fun f vs => PySem.call f vs) :=
  L2.walk_of (n := 63) (k := 7) (x := "script") (CX := fun w => L2.CX l.prog w) (sp := fun w => spD (K w.params) 1 F_law) hn (by decide) hdf ⟨rfl, by decide, by decide⟩ hY F (fun _ _ _ _ _ _ hS => start_ok hS) fun w H s e s' z => by
    obtain ⟨_, _, _, _, _, _, _, _, _, _, _, _, z⟩ := z
    exact z.elim
end K93

open PySem PySem.W PyProof.Rows
set_option maxRecDepth 100000 in
set_option maxHeartbeats 0 in
theorem PySem.Challenge.cw_starless_k93_whole_tapes_holds : PySem.Challenge.rw_starless_k93_whole_tapes.Holds := by
  w_on; o_law; k_head; (case hw => w_witness2)
  k_fill
  refine K93.walk (l := PySem.Challenge.rw_starless_k93_whole_tapes) rfl rfl (fun w h Y => PySem.W.kIn_of Y) ?F
  case F =>
    intro w mg fa h KX G hmg
    refine' K93.all_mk KX G hmg ?aC_Tape ?a_init ?i_init ?l_init ?c_init ?k_init ?a_check ?i_check ?l_check ?c_check ?k_check ?a_read ?i_read ?l_read ?c_read ?k_read ?a_write ?i_write ?l_write ?c_write ?k_write ?a_fall ?i_fall ?l_fall ?c_fall ?k_fall ?a_sync ?i_sync ?l_sync ?c_sync ?k_sync ?a_order ?i_order ?l_order ?c_order ?k_order ?a_unsafe ?i_unsafe ?l_unsafe ?c_unsafe ?k_unsafe ?a_draws ?l_draws ?c_draws ?k_draws ?a_draw ?l_draw ?c_draw ?k_draw ?a_same ?l_same ?c_same ?k_same ?a_called ?l_called ?c_called ?k_called ?a_lfall ?l_lfall ?c_lfall ?k_lfall ?a_law ?l_law ?c_law ?k_law ?pg_Tape ?hd_Tape ?po_Tape ?sa_Tape ?mk_Tape ?kc_Tape ?na_Tape_many ?na_Tape_safe ?na_Tape_fresh ?na_Tape_left ?na_Tape_kept ?z_len ?z_list ?z_sorted ?z_all ?z_isinstance ?z_int ?z_range ?z_bool ?z_str ?z_dict ?z_tuple ?g_SIZE ?z_super ?tp ?htop ?aC_SetError ?a_SetError ?l_SetError ?c_SetError ?lT_SetError ?cl1_SetError ?cv_SetError ?cf_SetError ?ce_SetError ?cs_SetError ?t_SetError ?aC_BlockWrong ?a_BlockWrong ?l_BlockWrong ?c_BlockWrong ?cl1_BlockWrong ?cv_BlockWrong ?cf_BlockWrong ?ce_BlockWrong ?cs_BlockWrong ?t_BlockWrong ?aC_Fallen ?a_Fallen ?l_Fallen ?c_Fallen ?cl1_Fallen ?cv_Fallen ?cf_Fallen ?ce_Fallen ?cs_Fallen ?t_Fallen ?fn_b ?xL_BlockWrong ?xR_BlockWrong ?xsa_BlockWrong ?xe_BlockWrong ?xt_BlockWrong ?xk_BlockWrong ?m1_BlockWrong ?m2_BlockWrong ?u1_BlockWrong ?u2_BlockWrong ?ve_BlockWrong ?nA_BlockWrong ?nN_BlockWrong ?xg_BlockWrong ?xh_BlockWrong ?xi_BlockWrong ?xL_Fallen ?xR_Fallen ?xsa_Fallen ?xe_Fallen ?xt_Fallen ?xk_Fallen ?m1_Fallen ?m2_Fallen ?u1_Fallen ?u2_Fallen ?ve_Fallen ?nA_Fallen ?nN_Fallen ?xg_Fallen ?xh_Fallen ?xi_Fallen ?e_BlockWrong_BlockWrong ?e_Fallen_BlockWrong ?e_Fallen_Fallen
    (case aC_Tape => k_is)
    (case a_init => k_is)
    (case i_init => k_is)
    (case l_init => k_is)
    (case c_init => k_is)
    (case k_init => k_is)
    (case a_check => k_is)
    (case i_check => k_is)
    (case l_check => k_is)
    (case c_check => k_is)
    (case k_check => k_is)
    (case a_read => k_is)
    (case i_read => k_is)
    (case l_read => k_is)
    (case c_read => k_is)
    (case k_read => k_is)
    (case a_write => k_is)
    (case i_write => k_is)
    (case l_write => k_is)
    (case c_write => k_is)
    (case k_write => k_is)
    (case a_fall => k_is)
    (case i_fall => k_is)
    (case l_fall => k_is)
    (case c_fall => k_is)
    (case k_fall => k_is)
    (case a_sync => k_is)
    (case i_sync => k_is)
    (case l_sync => k_is)
    (case c_sync => k_is)
    (case k_sync => k_is)
    (case a_order => k_is)
    (case i_order => k_is)
    (case l_order => k_is)
    (case c_order => k_is)
    (case k_order => k_is)
    (case a_unsafe => k_is)
    (case i_unsafe => k_is)
    (case l_unsafe => k_is)
    (case c_unsafe => k_is)
    (case k_unsafe => k_is)
    (case a_draws => k_is)
    (case l_draws => k_is)
    (case c_draws => k_is)
    (case k_draws => k_is)
    (case a_draw => k_is)
    (case l_draw => k_is)
    (case c_draw => k_is)
    (case k_draw => k_is)
    (case a_same => k_is)
    (case l_same => k_is)
    (case c_same => k_is)
    (case k_same => k_is)
    (case a_called => k_is)
    (case l_called => k_is)
    (case c_called => k_is)
    (case k_called => k_is)
    (case a_lfall => k_is)
    (case l_lfall => k_is)
    (case c_lfall => k_is)
    (case k_lfall => k_is)
    (case a_law => k_is)
    (case l_law => k_is)
    (case c_law => k_is)
    (case k_law => k_is)
    (case pg_Tape => k_is)
    (case hd_Tape => k_is)
    (case po_Tape => k_is)
    (case sa_Tape => k_is)
    (case mk_Tape => k_is)
    (case kc_Tape => k_is)
    (case na_Tape_many => k_is)
    (case na_Tape_safe => k_is)
    (case na_Tape_fresh => k_is)
    (case na_Tape_left => k_is)
    (case na_Tape_kept => k_is)
    (case z_len => k_is)
    (case z_list => k_is)
    (case z_sorted => k_is)
    (case z_all => k_is)
    (case z_isinstance => k_is)
    (case z_int => k_is)
    (case z_range => k_is)
    (case z_bool => k_is)
    (case z_str => k_is)
    (case z_dict => k_is)
    (case z_tuple => k_is)
    (case g_SIZE => k_is)
    (case z_super => k_is)
    (case tp => k_is)
    (case htop => first | rfl | decide +kernel)
    (case aC_SetError => k_is)
    (case a_SetError => k_is)
    (case l_SetError => k_is)
    (case c_SetError => k_is)
    (case lT_SetError => k_is)
    (case cl1_SetError => k_is)
    (case cv_SetError => rfl)
    (case cf_SetError => first | rfl | decide +kernel)
    (case ce_SetError => k_is)
    (case cs_SetError => k_is)
    (case t_SetError => k_is)
    (case aC_BlockWrong => k_is)
    (case a_BlockWrong => k_is)
    (case l_BlockWrong => k_is)
    (case c_BlockWrong => k_is)
    (case cl1_BlockWrong => k_is)
    (case cv_BlockWrong => rfl)
    (case cf_BlockWrong => first | rfl | decide +kernel)
    (case ce_BlockWrong => k_is)
    (case cs_BlockWrong => k_is)
    (case t_BlockWrong => k_is)
    (case aC_Fallen => k_is)
    (case a_Fallen => k_is)
    (case l_Fallen => k_is)
    (case c_Fallen => k_is)
    (case cl1_Fallen => k_is)
    (case cv_Fallen => rfl)
    (case cf_Fallen => first | rfl | decide +kernel)
    (case ce_Fallen => k_is)
    (case cs_Fallen => k_is)
    (case t_Fallen => k_is)
    (case fn_b => k_is)
    (case xL_BlockWrong => k_is)
    (case xR_BlockWrong => rfl)
    (case xsa_BlockWrong => k_is)
    (case xe_BlockWrong => k_is)
    (case xt_BlockWrong => k_is)
    (case xk_BlockWrong => k_is)
    (case m1_BlockWrong => k_is)
    (case m2_BlockWrong => k_is)
    (case u1_BlockWrong => ks_is)
    (case u2_BlockWrong => ks_is)
    (case ve_BlockWrong => k_is)
    (case nA_BlockWrong => k_is)
    (case nN_BlockWrong => k_is)
    (case xg_BlockWrong => k_is)
    (case xh_BlockWrong => k_is)
    (case xi_BlockWrong => k_is)
    (case xL_Fallen => k_is)
    (case xR_Fallen => rfl)
    (case xsa_Fallen => k_is)
    (case xe_Fallen => k_is)
    (case xt_Fallen => k_is)
    (case xk_Fallen => k_is)
    (case m1_Fallen => k_is)
    (case m2_Fallen => k_is)
    (case u1_Fallen => ks_is)
    (case u2_Fallen => ks_is)
    (case ve_Fallen => k_is)
    (case nA_Fallen => k_is)
    (case nN_Fallen => k_is)
    (case xg_Fallen => k_is)
    (case xh_Fallen => k_is)
    (case xi_Fallen => k_is)
    (case e_BlockWrong_BlockWrong => first | k_is | rfl)
    (case e_Fallen_BlockWrong => first | k_is | rfl)
    (case e_Fallen_Fallen => first | k_is | rfl)
#print axioms PySem.Challenge.cw_starless_k93_whole_tapes_holds
