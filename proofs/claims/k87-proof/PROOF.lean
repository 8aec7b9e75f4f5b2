import PyProof.Rows.All
import Wide.All
import OpenK.AllK
import Wide.FinOn
import PyProof.EqAt
import PyProof.EqKinds
import PyProof.TupleCall
import HandS.ForMost
import HandS.Exc
import HandS.ExcOwn
import HandS.ExcInit
import HandS.TryMany
import HandS.WordsExc
import HandS.IsInst
import HandS.SortInts
import HandS.Conv
import HandS.ExcField
import KE.KSuper
import KE.KExcSuper
import HandS.Nested
import HandS.ClsMeth
import HandS.More
import KE.KExcIs
import PySem.Challenge.RW_starless_k87_written_expressions_misread
import HandS.Defaults
set_option Elab.async false
set_option linter.all false
set_option maxRecDepth 100000
set_option maxHeartbeats 4000000
/-! DL: the data layer. Data as trees (D), changing objects by number in a memory (M : List MO). -/
namespace DL
open PySem PySem.Spec PyProof.Rows L2

/-- data -/
inductive D where
  | non | bl (b : Bool) | int (i : Int) | str (x : Str) | ty (n : String)
  | ptr (k : Nat) | lst (xs : List D) | tup (xs : List D) | scr (ns : List Int) | xc (a dd : Addr) (ks : List Str) (ds : List D) | kr (a : Addr)
/-- an object that may change -/
inductive MO where
  | lst (xs : List D) | dK (kvs : List (Key × D)) | lk (o : Obj) (ks : List (Key × V)) (kvs : List (Key × D)) | ins (C : Addr) (fs : List (Str × D))

section
variable (K : PySem.W.Frag) (G : Hp) (as : List Addr)
mutual
/-- the value v shows the datum d; G: what stands for good, as: where the objects are -/
inductive Rp : V → D → Prop
  | non : Rp .non .non
  | bl (b : Bool) : Rp (.bl b) (.bl b)
  | int (i : Int) : Rp (.int i) (.int i)
  | str (x : Str) : Rp (.str x) (.str x)
  | ty (n : String) : Rp (.ty n) (.ty n)
  | kr (a : Addr) : Rp (.ref a) (.kr a)
  | ptr {k : Nat} {a : Addr} (h : as[k]? = some a) : Rp (.ref a) (.ptr k)
  | lst {a : Addr} {vs : List V} {xs : List D} (h : G a = some (.lst vs)) (r : Rps vs xs) : Rp (.ref a) (.lst xs)
  | scr {a : Addr} {ns : List Int} (h : SqL K G a (ns.map V.int)) : Rp (.ref a) (.scr ns)
  | xc {a dd : Addr} {ks : List Str} {vs : List V} {ds : List D} (h : G dd = some (.xd (ks.zip vs))) (r : Rps vs ds) : Rp (.ref a) (.xc a dd ks ds)
  | tup {a : Addr} {vs : List V} {xs : List D} (h : SqT K G a vs) (r : Rps vs xs) : Rp (.ref a) (.tup xs)
inductive Rps : List V → List D → Prop
  | nil : Rps [] []
  | cons {v : V} {d : D} {vs : List V} {ds : List D} (h : Rp v d) (r : Rps vs ds) : Rps (v :: vs) (d :: ds)
end
end
/-- pairs with equal keys -/
def Kvr {κ : Type} (K : PySem.W.Frag) (G : Hp) (as : List Addr) : List (κ × V) → List (κ × D) → Prop := Paired fun p q => p.1 = q.1 ∧ Rp K G as p.2 q.2

/-- G grows, as grows -/
structure Gr (G : Hp) (as : List Addr) (G' : Hp) (as' : List Addr) : Prop where
  g : Same G G'
  a : as <+: as'
theorem Gr.refl {G : Hp} {as : List Addr} : Gr G as G as := ⟨Same.refl _, List.prefix_refl _⟩
theorem Gr.trans {G G1 G2 : Hp} {as as1 as2 : List Addr} (x : Gr G as G1 as1) (y : Gr G1 as1 G2 as2) : Gr G as G2 as2 := ⟨x.g.trans y.g, x.a.trans y.a⟩
theorem pre_get {as as' : List Addr} (h : as <+: as') {k : Nat} {a : Addr} (e : as[k]? = some a) : as'[k]? = some a := by
  obtain ⟨t, rfl⟩ := h
  have hk : k < as.length := (List.getElem?_eq_some_iff.mp e).1
  rw [List.getElem?_append_left hk]
  exact e
theorem sqL_mono {K : PySem.W.Frag} {G G' : Hp} (g : Same G G') {a : Addr} {vs : List V} (h : SqL K G a vs) : SqL K G' a vs := g.seq h
theorem sqT_mono {K : PySem.W.Frag} {G G' : Hp} (g : Same G G') {a : Addr} {vs : List V} (h : SqT K G a vs) : SqT K G' a vs := by
  rcases h with (h | ⟨o, h⟩) | h
  · exact .inl (.inl (g _ _ h))
  · exact .inl (.inr ⟨o, g _ _ h⟩)
  · exact .inr h
section
variable {K : PySem.W.Frag} {G G' : Hp} {as as' : List Addr}
mutual
theorem Rp.mono (x : Gr G as G' as') : ∀ {v : V} {d : D}, Rp K G as v d → Rp K G' as' v d
  | _, _, .non => .non
  | _, _, .bl b => .bl b
  | _, _, .int b => .int b
  | _, _, .str b => .str b
  | _, _, .ty b => .ty b
  | _, _, .kr a => .kr a
  | _, _, .ptr h => .ptr (pre_get x.a h)
  | _, _, .lst h r => .lst (x.g _ _ h) (Rps.mono x r)
  | _, _, .scr h => .scr (sqL_mono x.g h)
  | _, _, .xc h r => .xc (x.g _ _ h) (Rps.mono x r)
  | _, _, .tup h r => .tup (sqT_mono x.g h) (Rps.mono x r)
theorem Rps.mono (x : Gr G as G' as') : ∀ {vs : List V} {ds : List D}, Rps K G as vs ds → Rps K G' as' vs ds
  | _, _, .nil => .nil
  | _, _, .cons h r => .cons (Rp.mono x h) (Rps.mono x r)
end
theorem Rps.length : ∀ {vs : List V} {ds : List D}, Rps K G as vs ds → vs.length = ds.length
  | _, _, .nil => rfl
  | _, _, .cons _ r => by rw [List.length_cons, List.length_cons, Rps.length r]
theorem Rps.get : ∀ {vs : List V} {ds : List D} {i : Nat} {d : D}, Rps K G as vs ds → ds[i]? = some d → ∃ v, vs[i]? = some v ∧ Rp K G as v d
  | _, _, _, _, .nil, e => by simp at e
  | _, _, 0, _, .cons h _, e => by
    have e' := Option.some.inj e
    subst e'
    exact ⟨_, rfl, h⟩
  | _, _, i + 1, _, .cons _ r, e => by
    obtain ⟨v, a, b⟩ := Rps.get (i := i) r (by simpa using e)
    exact ⟨v, by simpa using a, b⟩
theorem Rps.get' : ∀ {vs : List V} {ds : List D} {i : Nat} {v : V}, Rps K G as vs ds → vs[i]? = some v → ∃ d, ds[i]? = some d ∧ Rp K G as v d
  | _, _, _, _, .nil, e => by simp at e
  | _, _, 0, _, .cons h _, e => by
    have e' := Option.some.inj e
    subst e'
    exact ⟨_, rfl, h⟩
  | _, _, i + 1, _, .cons _ r, e => by
    obtain ⟨v, a, b⟩ := Rps.get' (i := i) r (by simpa using e)
    exact ⟨v, by simpa using a, b⟩
theorem Rps.append : ∀ {vs ws : List V} {ds es : List D}, Rps K G as vs ds → Rps K G as ws es → Rps K G as (vs ++ ws) (ds ++ es)
  | _, _, _, _, .nil, s => s
  | _, _, _, _, .cons h r, s => .cons h (Rps.append r s)
theorem Rps.snoc {vs : List V} {v : V} {ds : List D} {d : D} (r : Rps K G as vs ds) (h : Rp K G as v d) : Rps K G as (vs ++ [v]) (ds ++ [d]) := r.append (.cons h .nil)
theorem Rps.set : ∀ {vs : List V} {ds : List D} {v : V} {d : D} (i : Nat), Rps K G as vs ds → Rp K G as v d → Rps K G as (vs.set i v) (ds.set i d)
  | _, _, _, _, _, .nil, _ => .nil
  | _, _, _, _, 0, .cons _ r, h => .cons h r
  | _, _, _, _, i + 1, .cons k r, h => .cons k (Rps.set i r h)
theorem Rps.take : ∀ {vs : List V} {ds : List D} (n : Nat), Rps K G as vs ds → Rps K G as (vs.take n) (ds.take n)
  | _, _, 0, _ => .nil
  | _, _, _ + 1, .nil => .nil
  | _, _, n + 1, .cons h r => .cons h (Rps.take n r)
theorem Rps.drop : ∀ {vs : List V} {ds : List D} (n : Nat), Rps K G as vs ds → Rps K G as (vs.drop n) (ds.drop n)
  | _, _, 0, r => r
  | _, _, _ + 1, .nil => .nil
  | _, _, n + 1, .cons _ r => Rps.drop n r
theorem Kvr.mono {κ : Type} (x : Gr G as G' as') {ps : List (κ × V)} {qs : List (κ × D)} (h : Kvr K G as ps qs) : Kvr K G' as' ps qs := Paired.mapP h fun _ _ z => ⟨z.1, z.2.mono x⟩
theorem Rp.ptr_inv {v : V} {k : Nat} (h : Rp K G as v (.ptr k)) : ∃ a, v = .ref a ∧ as[k]? = some a := by
  cases h with
  | ptr h => exact ⟨_, rfl, h⟩
theorem Rp.lst_inv {v : V} {xs : List D} (h : Rp K G as v (.lst xs)) : ∃ a vs, v = .ref a ∧ G a = some (.lst vs) ∧ Rps K G as vs xs := by
  cases h with
  | lst h r => exact ⟨_, _, rfl, h, r⟩
theorem Rp.tup_inv {v : V} {xs : List D} (h : Rp K G as v (.tup xs)) : ∃ a vs, v = .ref a ∧ SqT K G a vs ∧ Rps K G as vs xs := by
  cases h with
  | tup h r => exact ⟨_, _, rfl, h, r⟩
theorem Rp.scr_inv {v : V} {ns : List Int} (h : Rp K G as v (.scr ns)) : ∃ a, v = .ref a ∧ SqL K G a (ns.map V.int) := by
  cases h with
  | scr h => exact ⟨_, rfl, h⟩
theorem Rp.xc_inv {v : V} {a dd : Addr} {ks : List Str} {ds : List D} (h : Rp K G as v (.xc a dd ks ds)) : ∃ vs, v = .ref a ∧ G dd = some (.xd (ks.zip vs)) ∧ Rps K G as vs ds := by
  cases h with
  | xc h r => exact ⟨_, rfl, h, r⟩
theorem Rp.kr_inv {v : V} {a : Addr} (h : Rp K G as v (.kr a)) : v = .ref a := by
  cases h; rfl
theorem Rp.int_inv {v : V} {i : Int} (h : Rp K G as v (.int i)) : v = .int i := by
  cases h; rfl
theorem Rp.str_inv {v : V} {i : Str} (h : Rp K G as v (.str i)) : v = .str i := by
  cases h; rfl
theorem Rp.bl_inv {v : V} {i : Bool} (h : Rp K G as v (.bl i)) : v = .bl i := by
  cases h; rfl
theorem Rp.non_inv {v : V} (h : Rp K G as v .non) : v = .non := by
  cases h; rfl
end

/-- an object stands as it should -/
def MOk (K : PySem.W.Frag) (G : Hp) (as : List Addr) (H : Hp) (a : Addr) : MO → Prop
  | .lst xs => ∃ vs, H a = some (.lst vs) ∧ Rps K G as vs xs
  | .dK kvs => ∃ ks, H a = some (.dK ks) ∧ Kvr K G as ks kvs
  | .lk o ks kvs => H a = some (.frz o (.dK ks)) ∧ Kvr K G as ks kvs
  | .ins C fs => ∃ dx gs, H a = some (.ins C dx gs) ∧ Kvr K G as gs fs
/-- the state of the heap -/
structure Hs (K : PySem.W.Frag) (G : Hp) (as : List Addr) (H : Hp) (M : List MO) : Prop where
  sub : Same G H
  len : as.length = M.length
  nd : as.Nodup
  out : ∀ a ∈ as, G a = none
  ob : ∀ (i : Nat) (a : Addr) (m : MO), as[i]? = some a → M[i]? = some m → MOk K G as H a m
/-- the names' data -/
structure Evs (K : PySem.W.Frag) (G : Hp) (as : List Addr) (σ : L2.St) (ρ : List (Option D)) : Prop where
  len : σ.length = ρ.length
  at_ : ∀ (i : Nat) (d : D), ρ[i]? = some (some d) → ∃ v, σ[i]? = some (some v) ∧ Rp K G as v d
section
variable {K : PySem.W.Frag} {G G' : Hp} {as as' : List Addr} {H : Hp} {M : List MO} {σ : L2.St} {ρ : List (Option D)}
theorem Evs.mono (e : Evs K G as σ ρ) (x : Gr G as G' as') : Evs K G' as' σ ρ := ⟨e.len, fun i d h => by
  obtain ⟨v, a, b⟩ := e.at_ i d h
  exact ⟨v, a, b.mono x⟩⟩
theorem Evs.set {v : V} {d : D} (e : Evs K G as σ ρ) (i : Nat) (r : Rp K G as v d) : Evs K G as (σ.set i (some v)) (ρ.set i (some d)) := by
  refine ⟨by rw [List.length_set, List.length_set]; exact e.len, fun j d' h => ?_⟩
  by_cases hj : i = j
  · subst hj
    have hi : i < ρ.length := by
      have z := (List.getElem?_eq_some_iff.mp h).1
      rwa [List.length_set] at z
    rw [List.getElem?_set_self hi] at h
    have h' := Option.some.inj (Option.some.inj h)
    subst h'
    refine ⟨v, ?_, r⟩
    rw [List.getElem?_set_self (by rw [e.len]; exact hi)]
  · rw [List.getElem?_set_ne hj] at h
    obtain ⟨v', a, b⟩ := e.at_ j d' h
    exact ⟨v', by rw [List.getElem?_set_ne hj]; exact a, b⟩
theorem Evs.forget (e : Evs K G as σ ρ) (i : Nat) : Evs K G as σ (ρ.set i none) := by
  refine ⟨by rw [List.length_set]; exact e.len, fun j d' h => ?_⟩
  by_cases hj : i = j
  · subst hj
    have hi : i < ρ.length := by
      have z := (List.getElem?_eq_some_iff.mp h).1
      rwa [List.length_set] at z
    rw [List.getElem?_set_self hi] at h
    cases Option.some.inj h
  · rw [List.getElem?_set_ne hj] at h
    exact e.at_ j d' h
theorem Evs.wipe (e : Evs K G as σ ρ) (i : Nat) : Evs K G as (σ.set i none) (ρ.set i none) := by
  refine ⟨by rw [List.length_set, List.length_set]; exact e.len, fun j d' h => ?_⟩
  by_cases hj : i = j
  · subst hj
    have hi : i < ρ.length := by
      have z := (List.getElem?_eq_some_iff.mp h).1
      rwa [List.length_set] at z
    rw [List.getElem?_set_self hi] at h
    cases Option.some.inj h
  · rw [List.getElem?_set_ne hj] at h
    obtain ⟨v, a, b⟩ := e.at_ j d' h
    exact ⟨v, by rw [List.getElem?_set_ne hj]; exact a, b⟩
theorem Hs.ptr (h : Hs K G as H M) {k : Nat} {m : MO} {v : V} (r : Rp K G as v (.ptr k)) (e : M[k]? = some m) : ∃ a, v = .ref a ∧ as[k]? = some a ∧ MOk K G as H a m := by
  obtain ⟨a, rfl, ha⟩ := r.ptr_inv
  exact ⟨a, rfl, ha, h.ob k a m ha e⟩
theorem MOk.upd {a b : Addr} {m : MO} {o : HO} (h : MOk K G as H a m) (hne : a ≠ b) : MOk K G as (upd H b o) a m := by
  cases m with
  | lst xs => obtain ⟨vs, e, r⟩ := h; exact ⟨vs, by rw [upd_ne hne]; exact e, r⟩
  | dK xs => obtain ⟨vs, e, r⟩ := h; exact ⟨vs, by rw [upd_ne hne]; exact e, r⟩
  | lk ob vs xs => obtain ⟨e, r⟩ := h; exact ⟨by rw [upd_ne hne]; exact e, r⟩
  | ins C xs => obtain ⟨dx, vs, e, r⟩ := h; exact ⟨dx, vs, by rw [upd_ne hne]; exact e, r⟩
theorem MOk.mono {a : Addr} {m : MO} (h : MOk K G as H a m) (x : Gr G as G' as') : MOk K G' as' H a m := by
  cases m with
  | lst xs => obtain ⟨vs, e, r⟩ := h; exact ⟨vs, e, r.mono x⟩
  | dK xs => obtain ⟨vs, e, r⟩ := h; exact ⟨vs, e, r.mono x⟩
  | lk ob vs xs => obtain ⟨e, r⟩ := h; exact ⟨e, r.mono x⟩
  | ins C xs => obtain ⟨dx, vs, e, r⟩ := h; exact ⟨dx, vs, e, r.mono x⟩
theorem MOk.some {a : Addr} {m : MO} (h : MOk K G as H a m) : ∃ o, H a = some o := by
  cases m with
  | lst xs => obtain ⟨vs, e, r⟩ := h; exact ⟨_, e⟩
  | dK xs => obtain ⟨vs, e, r⟩ := h; exact ⟨_, e⟩
  | lk ob vs xs => obtain ⟨e, r⟩ := h; exact ⟨_, e⟩
  | ins C xs => obtain ⟨dx, vs, e, r⟩ := h; exact ⟨_, e⟩
/-- every object's place is tracked -/
theorem Hs.there (h : Hs K G as H M) {a : Addr} (ha : a ∈ as) : ∃ o, H a = some o := by
  obtain ⟨i, hi⟩ := List.mem_iff_getElem?.mp ha
  have hl : i < M.length := by rw [← h.len]; exact (List.getElem?_eq_some_iff.mp hi).1
  exact (h.ob i a M[i] hi (List.getElem?_eq_getElem hl)).some
theorem Hs.new_ne (h : Hs K G as H M) {p : Addr} (np : H p = none) : p ∉ as := fun hm => by
  obtain ⟨o, e⟩ := h.there hm
  rw [np] at e
  cases e
theorem Hs.g_none (h : Hs K G as H M) {p : Addr} (np : H p = none) : G p = none := h.sub.free np
/-- a new thing that stands for good -/
theorem Hs.const {p : Addr} {o : HO} (h : Hs K G as H M) (np : H p = none) : Gr G as (upd G p o) as ∧ Hs K (upd G p o) as (upd H p o) M := by
  have gp := h.g_none np
  have x : Gr G as (upd G p o) as := ⟨fun b u e => by rw [upd_ne (ne_of_none e gp)]; exact e, List.prefix_refl _⟩
  refine ⟨x, fun b u e => ?_, h.len, h.nd, fun a ha => ?_, fun i a m e1 e2 => ?_⟩
  · by_cases hb : b = p
    · subst hb
      rw [upd_same] at e ⊢
      exact e
    · rw [upd_ne hb] at e ⊢
      exact h.sub b u e
  · have na : a ≠ p := fun z => h.new_ne np (z ▸ ha)
    rw [upd_ne na]
    exact h.out a ha
  · have na : a ≠ p := fun z => h.new_ne np (z ▸ List.mem_of_getElem? e1)
    exact ((h.ob i a m e1 e2).upd na).mono x
/-- a thing of no use is laid -/
theorem Hs.junk {p : Addr} {o : HO} (h : Hs K G as H M) (np : H p = none) : Hs K G as (upd H p o) M := by
  refine ⟨fun b u e => ?_, h.len, h.nd, h.out, fun i a m e1 e2 => ?_⟩
  · have nb : b ≠ p := fun z => by
      have q := h.sub b u e
      rw [z, np] at q
      cases q
    rw [upd_ne nb]
    exact h.sub b u e
  · have na : a ≠ p := fun z => h.new_ne np (z ▸ List.mem_of_getElem? e1)
    exact (h.ob i a m e1 e2).upd na
/-- a new object -/
theorem Hs.push {p : Addr} {H' : Hp} {m : MO} (h : Hs K G as H M) (np : H p = none) (k : ∀ b o, H b = some o → H' b = some o) (hm : MOk K G (as ++ [p]) H' p m) : Gr G as G (as ++ [p]) ∧ Hs K G (as ++ [p]) H' (M ++ [m]) := by
  have x : Gr G as G (as ++ [p]) := ⟨Same.refl _, List.prefix_append _ _⟩
  refine ⟨x, fun b u e => k b u (h.sub b u e), by rw [List.length_append, List.length_append, h.len]; rfl, ?_, fun a ha => ?_, fun i a m' e1 e2 => ?_⟩
  · rw [List.nodup_append]
    refine ⟨h.nd, by simp, fun a ha b hb => ?_⟩
    have e : b = p := by simpa using hb
    subst e
    exact fun z => h.new_ne np (z ▸ ha)
  · rcases List.mem_append.mp ha with ha | ha
    · exact h.out a ha
    · have e : a = p := by simpa using ha
      subst e
      exact h.g_none np
  · by_cases hi : i < as.length
    · rw [List.getElem?_append_left hi] at e1
      rw [List.getElem?_append_left (by rw [← h.len]; exact hi)] at e2
      have q := (h.ob i a m' e1 e2).mono x
      have keep : ∀ {o}, H a = some o → H' a = some o := fun {o} z => k a o z
      cases m' with
      | lst xs => obtain ⟨vs, e, r⟩ := q; exact ⟨vs, keep e, r⟩
      | dK xs => obtain ⟨vs, e, r⟩ := q; exact ⟨vs, keep e, r⟩
      | lk ob vs xs => obtain ⟨e, r⟩ := q; exact ⟨keep e, r⟩
      | ins C xs => obtain ⟨dx, vs, e, r⟩ := q; exact ⟨dx, vs, keep e, r⟩
    · have hi' : as.length ≤ i := by omega
      rw [List.getElem?_append_right hi'] at e1
      have e0 : i - as.length = 0 := by
        have z := (List.getElem?_eq_some_iff.mp e1).1
        simp at z
        omega
      rw [e0] at e1
      have ea : p = a := Option.some.inj e1
      rw [List.getElem?_append_right (by rw [← h.len]; exact hi')] at e2
      rw [← h.len, e0] at e2
      have em : m = m' := Option.some.inj e2
      subst ea em
      exact hm
theorem nodup_at {as : List Addr} (nd : as.Nodup) {i j : Nat} {a : Addr} (x : as[i]? = some a) (y : as[j]? = some a) : i = j := by
  obtain ⟨h1, e1⟩ := List.getElem?_eq_some_iff.mp x
  obtain ⟨h2, e2⟩ := List.getElem?_eq_some_iff.mp y
  exact (List.getElem_inj nd).mp (e1.trans e2.symm)
/-- an object is changed -/
theorem Hs.put {k : Nat} {a : Addr} {o : HO} {m : MO} (h : Hs K G as H M) (ha : as[k]? = some a) (hm : MOk K G as (upd H a o) a m) : Hs K G as (upd H a o) (M.set k m) := by
  have hma : a ∈ as := List.mem_of_getElem? ha
  refine ⟨fun b u e => ?_, by rw [List.length_set]; exact h.len, h.nd, h.out, fun i b m' e1 e2 => ?_⟩
  · have nb : b ≠ a := fun z => by
      rw [z, h.out a hma] at e
      cases e
    rw [upd_ne nb]
    exact h.sub b u e
  · by_cases hi : k = i
    · subst hi
      rw [ha] at e1
      have e1' := Option.some.inj e1
      subst e1'
      have hk : k < M.length := by
        have z := (List.getElem?_eq_some_iff.mp e2).1
        rwa [List.length_set] at z
      rw [List.getElem?_set_self hk] at e2
      have e2' := Option.some.inj e2
      subst e2'
      exact hm
    · rw [List.getElem?_set_ne hi] at e2
      have na : b ≠ a := fun z => hi (nodup_at h.nd ha (z ▸ e1))
      exact (h.ob i b m' e1 e2).upd na
end
end DL

namespace DL
open PySem PySem.Spec PyProof.Rows L2

abbrev Ev := List (Option D)
abbrev Mm := List MO
abbrev DK := D → Mm → Prop
abbrev XD := Addr → List (Str × D) → Mm → Prop
abbrev NK := Ev → Mm → Prop
abbrev XN := Addr → List (Str × D) → Ev → Mm → Prop

/-! ### settling: objects that are not wanted any more are let go, or stand for good -/
mutual
inductive Rs (M : Mm) (sel : List Nat) : D → D → Prop
  | non : Rs M sel .non .non
  | bl (b : Bool) : Rs M sel (.bl b) (.bl b)
  | int (i : Int) : Rs M sel (.int i) (.int i)
  | str (x : Str) : Rs M sel (.str x) (.str x)
  | ty (n : String) : Rs M sel (.ty n) (.ty n)
  | kr (a : Addr) : Rs M sel (.kr a) (.kr a)
  | keep {k j : Nat} (h : sel[j]? = some k) : Rs M sel (.ptr k) (.ptr j)
  | frz {k : Nat} {xs ys : List D} (hn : k ∉ sel) (h : M[k]? = some (.lst xs)) (r : Rss M sel xs ys) : Rs M sel (.ptr k) (.lst ys)
  | lst {xs ys : List D} (r : Rss M sel xs ys) : Rs M sel (.lst xs) (.lst ys)
  | scr (ns : List Int) : Rs M sel (.scr ns) (.scr ns)
  | xc {a dd : Addr} {ks : List Str} {xs ys : List D} (r : Rss M sel xs ys) : Rs M sel (.xc a dd ks xs) (.xc a dd ks ys)
  | tup {xs ys : List D} (r : Rss M sel xs ys) : Rs M sel (.tup xs) (.tup ys)
inductive Rss (M : Mm) (sel : List Nat) : List D → List D → Prop
  | nil : Rss M sel [] []
  | cons {d e : D} {ds es : List D} (h : Rs M sel d e) (r : Rss M sel ds es) : Rss M sel (d :: ds) (e :: es)
end
def Kss {κ : Type} (M : Mm) (sel : List Nat) : List (κ × D) → List (κ × D) → Prop := Paired fun p q => p.1 = q.1 ∧ Rs M sel p.2 q.2
inductive MRs (M : Mm) (sel : List Nat) : MO → MO → Prop
  | lst {xs ys : List D} (r : Rss M sel xs ys) : MRs M sel (.lst xs) (.lst ys)
  | dK {xs ys : List (Key × D)} (r : Kss M sel xs ys) : MRs M sel (.dK xs) (.dK ys)
  | lk {o : Obj} {ks : List (Key × V)} {xs ys : List (Key × D)} (r : Kss M sel xs ys) : MRs M sel (.lk o ks xs) (.lk o ks ys)
  | ins {C : Addr} {xs ys : List (Str × D)} (r : Kss M sel xs ys) : MRs M sel (.ins C xs) (.ins C ys)
structure StlM (M : Mm) (n : Nat) (sel : List Nat) (M0 : Mm) : Prop where
  pre : List.range n <+: sel
  nd : sel.Nodup
  len : M0.length = sel.length
  ob : ∀ (j k : Nat) (m0 : MO), sel[j]? = some k → M0[j]? = some m0 → ∃ m, M[k]? = some m ∧ MRs M sel m m0
structure Stl (M : Mm) (ρ : Ev) (n : Nat) (sel : List Nat) (ρ0 : Ev) (M0 : Mm) : Prop extends StlM M n sel M0 where
  rl : ρ.length = ρ0.length
  ev : ∀ (i : Nat) (d0 : D), ρ0[i]? = some (some d0) → ∃ d, ρ[i]? = some (some d) ∧ Rs M sel d d0
def asOf (as : List Addr) (sel : List Nat) : List Addr := sel.map fun k => as.getD k 0
def gOf (H : Hp) (as0 : List Addr) : Hp := fun a => if a ∈ as0 then none else H a
section
variable {K : PySem.W.Frag} {G : Hp} {as : List Addr} {H : Hp} {M M0 : Mm} {σ : L2.St} {ρ ρ0 : Ev} {sel : List Nat} {n : Nat}
theorem StlM.lt (s : StlM M n sel M0) {j k : Nat} (e : sel[j]? = some k) : k < M.length := by
  have hj : j < M0.length := by rw [s.len]; exact (List.getElem?_eq_some_iff.mp e).1
  obtain ⟨m, h, _⟩ := s.ob j k M0[j] e (List.getElem?_eq_getElem hj)
  exact (List.getElem?_eq_some_iff.mp h).1
theorem asOf_get (h : Hs K G as H M) (s : StlM M n sel M0) {j k : Nat} {a : Addr} (e : sel[j]? = some k) (ha : as[k]? = some a) : (asOf as sel)[j]? = some a := by
  unfold asOf
  rw [List.getElem?_map, e]
  show some (as.getD k 0) = some a
  rw [List.getD_eq_getElem?_getD, ha]
  rfl
theorem asOf_inv (h : Hs K G as H M) (s : StlM M n sel M0) {j : Nat} {a : Addr} (e : (asOf as sel)[j]? = some a) : ∃ k, sel[j]? = some k ∧ as[k]? = some a := by
  unfold asOf at e
  rw [List.getElem?_map] at e
  cases q : sel[j]? with
  | none => rw [q] at e; cases e
  | some k =>
    rw [q] at e
    have e' : as.getD k 0 = a := Option.some.inj e
    refine ⟨k, rfl, ?_⟩
    have hk : k < as.length := by rw [h.len]; exact s.lt q
    rw [List.getD_eq_getElem?_getD, List.getElem?_eq_getElem hk] at e'
    rw [List.getElem?_eq_getElem hk]
    exact congrArg some e'
theorem asOf_sub (h : Hs K G as H M) (s : StlM M n sel M0) {a : Addr} (e : a ∈ asOf as sel) : a ∈ as := by
  obtain ⟨j, hj⟩ := List.mem_iff_getElem?.mp e
  obtain ⟨k, _, q⟩ := asOf_inv h s hj
  exact List.mem_of_getElem? q
theorem gOf_of {as0 : List Addr} {a : Addr} {o : HO} (e : H a = some o) (n : a ∉ as0) : gOf H as0 a = some o := by
  unfold gOf
  rw [if_neg n]
  exact e
theorem gOf_g (h : Hs K G as H M) (s : StlM M n sel M0) {a : Addr} {o : HO} (e : G a = some o) : gOf H (asOf as sel) a = some o :=
  gOf_of (h.sub _ _ e) fun z => by
    rw [h.out a (asOf_sub h s z)] at e
    cases e
theorem sqT_gOf (h : Hs K G as H M) (s : StlM M n sel M0) {a : Addr} {vs : List V} (q : SqT K G a vs) : SqT K (gOf H (asOf as sel)) a vs := sqT_mono (fun _ _ e => gOf_g h s e) q
theorem sqL_gOf (h : Hs K G as H M) (s : StlM M n sel M0) {a : Addr} {vs : List V} (q : SqL K G a vs) : SqL K (gOf H (asOf as sel)) a vs := sqL_mono (fun _ _ e => gOf_g h s e) q
mutual
theorem Rp.stl (h : Hs K G as H M) (s : StlM M n sel M0) : ∀ {d d0 : D} {v : V}, Rs M sel d d0 → Rp K G as v d → Rp K (gOf H (asOf as sel)) (asOf as sel) v d0
  | _, _, _, .non, r => by cases r; exact .non
  | _, _, _, .bl b, r => by cases r; exact .bl _
  | _, _, _, .int b, r => by cases r; exact .int _
  | _, _, _, .str b, r => by cases r; exact .str _
  | _, _, _, .ty b, r => by cases r; exact .ty _
  | _, _, _, .kr b, r => by cases r; exact .kr _
  | _, _, _, .keep e, r => by
    obtain ⟨a, rfl, ha⟩ := r.ptr_inv
    exact .ptr (asOf_get h s e ha)
  | _, _, _, .frz hn hm q, r => by
    obtain ⟨a, rfl, ha, vs, e, rv⟩ := h.ptr r hm
    refine .lst (gOf_of e fun z => ?_) (Rps.stl h s q rv)
    obtain ⟨j, hj⟩ := List.mem_iff_getElem?.mp z
    obtain ⟨k', e1, e2⟩ := asOf_inv h s hj
    have ek := nodup_at h.nd e2 ha
    subst ek
    exact hn (List.mem_of_getElem? e1)
  | _, _, _, .lst q, r => by
    obtain ⟨a, vs, rfl, e, rv⟩ := r.lst_inv
    exact .lst (gOf_g h s e) (Rps.stl h s q rv)
  | _, _, _, .scr ns, r => by
    obtain ⟨a, rfl, e⟩ := r.scr_inv
    exact .scr (sqL_gOf h s e)
  | _, _, _, .xc q, r => by
    obtain ⟨vs, rfl, e, rv⟩ := r.xc_inv
    exact .xc (gOf_g h s e) (Rps.stl h s q rv)
  | _, _, _, .tup q, r => by
    obtain ⟨a, vs, rfl, e, rv⟩ := r.tup_inv
    exact .tup (sqT_gOf h s e) (Rps.stl h s q rv)
theorem Rps.stl (h : Hs K G as H M) (s : StlM M n sel M0) : ∀ {ds ds0 : List D} {vs : List V}, Rss M sel ds ds0 → Rps K G as vs ds → Rps K (gOf H (asOf as sel)) (asOf as sel) vs ds0
  | _, _, _, .nil, r => by cases r; exact .nil
  | _, _, _, .cons p q, r => by
    cases r with
    | cons a b => exact .cons (Rp.stl h s p a) (Rps.stl h s q b)
end
theorem kvr_stl {κ : Type} (h : Hs K G as H M) (s : StlM M n sel M0) : ∀ {qs qs0 : List (κ × D)} {ps : List (κ × V)}, Kss M sel qs qs0 → Kvr K G as ps qs → Kvr K (gOf H (asOf as sel)) (asOf as sel) ps qs0
  | _, _, _, .nil, r => by cases r; exact .nil
  | _, _, _, .cons p q, r => by
    cases r with
    | cons a b => exact .cons ⟨a.1.trans p.1, Rp.stl h s p.2 a.2⟩ (kvr_stl h s q b)
theorem Hs.stl (h : Hs K G as H M) (s : StlM M n sel M0) : Hs K (gOf H (asOf as sel)) (asOf as sel) H M0 := by
  refine ⟨fun a o e => ?_, by rw [s.len]; unfold asOf; rw [List.length_map], ?_, fun a ha => ?_, fun j a m0 e1 e2 => ?_⟩
  · unfold gOf at e
    split at e
    · cases e
    · exact e
  · rw [List.nodup_iff_pairwise_ne, List.pairwise_iff_getElem]
    intro i j hi hj hij e
    obtain ⟨k1, a1, b1⟩ := asOf_inv h s (List.getElem?_eq_getElem hi)
    obtain ⟨k2, a2, b2⟩ := asOf_inv h s (List.getElem?_eq_getElem hj)
    rw [e] at b1
    have z := nodup_at h.nd b1 b2
    rw [← z] at a2
    have z2 : i = j := by
      obtain ⟨h1, e1⟩ := List.getElem?_eq_some_iff.mp a1
      obtain ⟨h2, e2⟩ := List.getElem?_eq_some_iff.mp a2
      exact (List.getElem_inj s.nd).mp (e1.trans e2.symm)
    omega
  · unfold gOf
    rw [if_pos ha]
  · obtain ⟨k, f1, f2⟩ := asOf_inv h s e1
    obtain ⟨m, g1, g2⟩ := s.ob j k m0 f1 e2
    have q := h.ob k a m f2 g1
    cases g2 with
    | lst r => obtain ⟨vs, e, rv⟩ := q; exact ⟨vs, e, Rps.stl h s r rv⟩
    | dK r => obtain ⟨vs, e, rv⟩ := q; exact ⟨vs, e, kvr_stl h s r rv⟩
    | lk r => obtain ⟨e, rv⟩ := q; exact ⟨e, kvr_stl h s r rv⟩
    | ins r => obtain ⟨dx, vs, e, rv⟩ := q; exact ⟨dx, vs, e, kvr_stl h s r rv⟩
theorem Evs.stl (h : Hs K G as H M) (e : Evs K G as σ ρ) (s : Stl M ρ n sel ρ0 M0) : Evs K (gOf H (asOf as sel)) (asOf as sel) σ ρ0 := ⟨e.len.trans s.rl, fun i d0 q => by
  obtain ⟨d, a, b⟩ := s.ev i d0 q
  obtain ⟨v, c, r⟩ := e.at_ i d a
  exact ⟨v, c, Rp.stl h s.toStlM b r⟩⟩
theorem Gr.stl {Gb : Hp} {asb : List Addr} (h : Hs K G as H M) (s : StlM M n sel M0) (x : Gr Gb asb G as) (hn : asb.length = n) : Gr Gb asb (gOf H (asOf as sel)) (asOf as sel) := by
  refine ⟨fun a o e => gOf_g h s (x.g a o e), ?_⟩
  obtain ⟨t, ht⟩ := s.pre
  obtain ⟨u, hu⟩ := x.a
  have e : (List.range n).map (fun k => as.getD k 0) = asb := by
    apply List.ext_getElem?
    intro i
    rw [List.getElem?_map]
    by_cases hi : i < n
    · rw [List.getElem?_range hi]
      show some (as.getD i 0) = asb[i]?
      rw [List.getD_eq_getElem?_getD, ← hu, List.getElem?_append_left (by rw [hn]; exact hi), List.getElem?_eq_getElem (by rw [hn]; exact hi)]
      rfl
    · rw [List.getElem?_eq_none (by rw [List.length_range]; omega), List.getElem?_eq_none (by rw [hn]; omega)]
      rfl
  unfold asOf
  rw [← ht, List.map_append, e]
  exact List.prefix_append _ _
end

/-! ### what follows -/
section
variable (K : PySem.W.Frag) (G : Hp) (as : List Addr)
def CV (P : DK) (R : VK) : Prop := ∀ G' as' H' M' v d, Gr G as G' as' → Hs K G' as' H' M' → Rp K G' as' v d → P d M' → R v H'
def CB (P : Bool → Mm → Prop) (R : Bool → Hp → Prop) : Prop := ∀ G' as' H' M' b, Gr G as G' as' → Hs K G' as' H' M' → P b M' → R b H'
def CL (P : List D → Mm → Prop) (R : List V → Hp → Prop) : Prop := ∀ G' as' H' M' vs ds, Gr G as G' as' → Hs K G' as' H' M' → Rps K G' as' vs ds → P ds M' → R vs H'
def CE (P : XD) (R : Addr → Addr → Hp → Prop) : Prop := ∀ G' as' H' M' C fs dd gs, Gr G as G' as' → Hs K G' as' H' M' → H' dd = some (.xd gs) → Kvr K G' as' gs fs → P C fs M' → R C dd H'
def CN (P : NK) (R : L2.St → Hp → Prop) : Prop := ∀ G' as' σ' H' ρ' M', Gr G as G' as' → Hs K G' as' H' M' → Evs K G' as' σ' ρ' → P ρ' M' → R σ' H'
def CM (P : Mm → Prop) (R : Hp → Prop) : Prop := ∀ G' as' H' M', Gr G as G' as' → Hs K G' as' H' M' → P M' → R H'
def CXN (P : XN) (W : WX) : Prop := ∀ G' as' σ' H' ρ' M' C fs dd gs, Gr G as G' as' → Hs K G' as' H' M' → Evs K G' as' σ' ρ' → H' dd = some (.xd gs) → Kvr K G' as' gs fs → P C fs ρ' M' → W (.ref C) (some dd) σ' H'
end
section
variable {K : PySem.W.Frag} {G G1 : Hp} {as as1 : List Addr}
theorem CV.mono {P : DK} {R : VK} (c : CV K G as P R) (x : Gr G as G1 as1) : CV K G1 as1 P R := fun _ _ _ _ _ _ g => c _ _ _ _ _ _ (x.trans g)
theorem CB.mono {P R} (c : CB K G as P R) (x : Gr G as G1 as1) : CB K G1 as1 P R := fun _ _ _ _ _ g => c _ _ _ _ _ (x.trans g)
theorem CL.mono {P R} (c : CL K G as P R) (x : Gr G as G1 as1) : CL K G1 as1 P R := fun _ _ _ _ _ _ g => c _ _ _ _ _ _ (x.trans g)
theorem CE.mono {P R} (c : CE K G as P R) (x : Gr G as G1 as1) : CE K G1 as1 P R := fun _ _ _ _ _ _ _ _ g => c _ _ _ _ _ _ _ _ (x.trans g)
theorem CN.mono {P R} (c : CN K G as P R) (x : Gr G as G1 as1) : CN K G1 as1 P R := fun _ _ _ _ _ _ g => c _ _ _ _ _ _ (x.trans g)
theorem CM.mono {P R} (c : CM K G as P R) (x : Gr G as G1 as1) : CM K G1 as1 P R := fun _ _ _ _ g => c _ _ _ _ (x.trans g)
theorem CXN.mono {P R} (c : CXN K G as P R) (x : Gr G as G1 as1) : CXN K G1 as1 P R := fun _ _ _ _ _ _ _ _ _ _ g => c _ _ _ _ _ _ _ _ _ _ (x.trans g)
/-- up to settling -/
def Up (n : Nat) (P : NK) : NK := fun ρ M => ∃ sel ρ0 M0, Stl M ρ n sel ρ0 M0 ∧ P ρ0 M0
theorem CN.up {P : NK} {R : L2.St → Hp → Prop} {n : Nat} (c : CN K G as P R) (hn : as.length = n) : CN K G as (Up n P) R := fun G' as' σ' H' ρ' M' g h e p => by
  obtain ⟨sel, ρ0, M0, s, q⟩ := p
  exact c _ _ _ _ _ _ (g.stl h s.toStlM hn) (h.stl s.toStlM) (e.stl h s) q
/-- a datum up to settling -/
def UpV (n : Nat) (P : DK) : DK := fun d M => ∃ sel d0 M0, StlM M n sel M0 ∧ Rs M sel d d0 ∧ P d0 M0
theorem CV.up {P : DK} {R : VK} {n : Nat} (c : CV K G as P R) (hn : as.length = n) : CV K G as (UpV n P) R := fun G' as' H' M' v d g h r p => by
  obtain ⟨sel, d0, M0, s, q, p⟩ := p
  exact c _ _ _ _ _ _ (g.stl h s hn) (h.stl s) (Rp.stl h s q r) p
/-- an error up to settling -/
def UpX (n : Nat) (P : XD) : XD := fun C fs M => ∃ sel fs0 M0, StlM M n sel M0 ∧ Kss M sel fs fs0 ∧ P C fs0 M0
theorem CE.up {P : XD} {R : Addr → Addr → Hp → Prop} {n : Nat} (c : CE K G as P R) (hn : as.length = n) : CE K G as (UpX n P) R := fun G' as' H' M' C fs dd gs g h hd r p => by
  obtain ⟨sel, fs0, M0, s, q, p⟩ := p
  exact c _ _ _ _ _ _ _ _ (g.stl h s hn) (h.stl s) hd (kvr_stl h s q r) p
end
abbrev WR (W : WX) (σ : L2.St) : Addr → Addr → Hp → Prop := fun C dd H' => W (.ref C) (some dd) σ H'

/-! ### readings of data -/
abbrev DT := Ev → Mm → DK → XD → Prop
abbrev DTT := Ev → Mm → (Bool → Mm → Prop) → XD → Prop
abbrev DTA := Ev → Mm → (List D → Mm → Prop) → XD → Prop
structure Ds where
  nx : NK
  rt : DK
  ex : XN
  bk : NK := fun _ _ => False
  ct : NK := fun _ _ => False
abbrev SW := Ds → Ev → Mm → Prop
abbrev DGt := D → Ev → Mm → NK → XD → Prop
abbrev DR2 := D → D → Mm → DK → Prop
section
variable (K : PySem.W.Frag) (W : WX)
def Dn (t : TE) (w : DT) : Prop := ∀ G as σ H ρ M Qd Xd Q, Hs K G as H M → Evs K G as σ ρ → w ρ M Qd Xd → CV K G as Qd Q → CE K G as Xd (WR W σ) → t σ H Q
def DnT (t : TT) (w : DTT) : Prop := ∀ G as σ H ρ M Qd Xd Q, Hs K G as H M → Evs K G as σ ρ → w ρ M Qd Xd → CB K G as Qd Q → CE K G as Xd (WR W σ) → t σ H Q
def DnA (t : TA) (w : DTA) : Prop := ∀ G as σ H ρ M Qd Xd Q, Hs K G as H M → Evs K G as σ ρ → w ρ M Qd Xd → CL K G as Qd Q → CE K G as Xd (WR W σ) → t σ H Q
def DnG (g : TG) (w : DGt) : Prop := ∀ G as σ H ρ M v d P Xd R, Hs K G as H M → Evs K G as σ ρ → Rp K G as v d → w d ρ M P Xd → CN K G as P R → CE K G as Xd (WR W σ) → g v σ H R
structure CS (G : Hp) (as : List Addr) (De : Ds) (Dv : Ends) : Prop where
  nx : CN K G as De.nx Dv.nx
  rt : CV K G as De.rt Dv.rt
  bk : CN K G as De.bk Dv.bk
  ct : CN K G as De.ct Dv.ct
  ex : CXN K G as De.ex W
def Sn (t : TS) (w : SW) : Prop := ∀ G as σ H ρ M De Dv, Hs K G as H M → Evs K G as σ ρ → w De ρ M → CS K W G as De Dv → t Dv σ H
def Ro2 (r : R2) (f : DR2) : Prop := ∀ G as H M x y d e Qd Q, Hs K G as H M → Rp K G as x d → Rp K G as y e → f d e M Qd → CV K G as Qd Q → r x y H Q
end
section
variable {K : PySem.W.Frag} {W : WX} {G G1 : Hp} {as as1 : List Addr} {De : Ds} {Dv : Ends}
theorem CS.mono (c : CS K W G as De Dv) (x : Gr G as G1 as1) : CS K W G1 as1 De Dv := ⟨c.nx.mono x, c.rt.mono x, c.bk.mono x, c.ct.mono x, c.ex.mono x⟩
theorem CS.ce {σ : L2.St} {ρ : Ev} (c : CS K W G as De Dv) (e : Evs K G as σ ρ) : CE K G as (fun C fs M => De.ex C fs ρ M) (WR W σ) := fun _ _ _ _ _ _ _ _ g h hd r p => c.ex _ _ _ _ _ _ _ _ _ _ g h (e.mono g) hd r p
end

/-! ### expressions -/
section
variable {K : PySem.W.Frag} {W : WX}
def dVar (i : Nat) : DT := fun ρ M Q _ => ∃ d, ρ[i]? = some (some d) ∧ Q d M
def dC (d : D) : DT := fun _ M Q _ => Q d M
theorem dn_var {i : Nat} : Dn K W (tVar i) (dVar i) := by
  intro G as σ H ρ M Qd Xd Q h e w cv ce
  obtain ⟨d, e1, w⟩ := w
  obtain ⟨v, e2, r⟩ := e.at_ i d e1
  exact ⟨v, e2, cv _ _ _ _ _ _ .refl h r w⟩
/-- a constant datum without places -/
inductive Flat : V → D → Prop
  | non : Flat .non .non
  | bl (b : Bool) : Flat (.bl b) (.bl b)
  | int (i : Int) : Flat (.int i) (.int i)
  | str (x : Str) : Flat (.str x) (.str x)
  | ty (n : String) : Flat (.ty n) (.ty n)
  | kr (a : Addr) : Flat (.ref a) (.kr a)
theorem Flat.rp {G : Hp} {as : List Addr} {v : V} {d : D} (f : Flat v d) : Rp K G as v d := by
  cases f
  · exact .non
  · exact .bl _
  · exact .int _
  · exact .str _
  · exact .ty _
  · exact .kr _
theorem dn_c {v : V} {d : D} (f : Flat v d) : Dn K W (tC v) (dC d) := by
  intro G as σ H ρ M Qd Xd Q h e w cv ce
  exact cv _ _ _ _ _ _ .refl h f.rp w
def dOp (f : DR2) (wa wb : DT) : DT := fun ρ M Q X => wa ρ M (fun d M1 => wb ρ M1 (fun e M2 => f d e M2 Q) X) X
theorem dn_op {r : R2} {f : DR2} {ta tb : TE} {wa wb : DT} (hr : Ro2 K r f) (ha : Dn K W ta wa) (hb : Dn K W tb wb) : Dn K W (tOp r ta tb) (dOp f wa wb) := by
  intro G as σ H ρ M Qd Xd Q h e w cv ce
  refine ha _ _ _ _ _ _ _ Xd _ h e w (fun G1 as1 H1 M1 x d g1 h1 r1 w1 => ?_) ce
  refine hb _ _ _ _ _ _ _ Xd _ h1 (e.mono g1) w1 (fun G2 as2 H2 M2 y d2 g2 h2 r2 w2 => ?_) (ce.mono g1)
  exact hr _ _ _ _ _ _ _ _ _ _ h2 (r1.mono g2) r2 w2 (cv.mono (g1.trans g2))
def dNil : DTA := fun _ M Q _ => Q [] M
def dCons (wa : DT) (wr : DTA) : DTA := fun ρ M Q X => wa ρ M (fun d M1 => wr ρ M1 (fun ds M2 => Q (d :: ds) M2) X) X
theorem dn_nil : DnA K W tNil dNil := by
  intro G as σ H ρ M Qd Xd Q h e w cv ce
  exact cv _ _ _ _ _ _ .refl h .nil w
theorem dn_cons {ta : TE} {tr : TA} {wa : DT} {wr : DTA} (ha : Dn K W ta wa) (hr : DnA K W tr wr) : DnA K W (tCons ta tr) (dCons wa wr) := by
  intro G as σ H ρ M Qd Xd Q h e w cv ce
  refine ha _ _ _ _ _ _ _ Xd _ h e w (fun G1 as1 H1 M1 x d g1 h1 r1 w1 => ?_) ce
  refine hr _ _ _ _ _ _ _ Xd _ h1 (e.mono g1) w1 (fun G2 as2 H2 M2 ys ds g2 h2 r2 w2 => ?_) (ce.mono g1)
  exact cv _ _ _ _ _ _ (g1.trans g2) h2 (.cons (r1.mono g2) r2) w2
/-- (a, b, ..): a tuple stands for good -/
def dTup (wa : DTA) : DT := fun ρ M Q X => wa ρ M (fun ds M1 => ds.length ≤ sizeLine ∧ Q (.tup ds) M1) X
theorem dn_tup {ta : TA} {wa : DTA} (ha : DnA K W ta wa) : Dn K W (tTup ta) (dTup wa) := by
  intro G as σ H ρ M Qd Xd Q h e w cv ce
  refine ha _ _ _ _ _ _ _ Xd _ h e w (fun G1 as1 H1 M1 vs ds g1 h1 r1 w1 => ?_) ce
  refine ⟨by rw [r1.length]; exact w1.1, fun p np => ?_⟩
  obtain ⟨g2, h2⟩ := h1.const (o := .tup vs) np
  exact cv _ _ _ _ _ _ (g1.trans g2) h2 (.tup (.inl (.inl upd_same)) (r1.mono g2)) w1.2
/-- [a, b, ..], never changed -/
def dLst (wa : DTA) : DT := fun ρ M Q X => wa ρ M (fun ds M1 => ds.length ≤ sizeLine ∧ Q (.lst ds) M1) X
theorem dn_lst {ta : TA} {wa : DTA} (ha : DnA K W ta wa) : Dn K W (tLst ta) (dLst wa) := by
  intro G as σ H ρ M Qd Xd Q h e w cv ce
  refine ha _ _ _ _ _ _ _ Xd _ h e w (fun G1 as1 H1 M1 vs ds g1 h1 r1 w1 => ?_) ce
  refine ⟨by rw [r1.length]; exact w1.1, fun p np => ?_⟩
  obtain ⟨g2, h2⟩ := h1.const (o := .lst vs) np
  exact cv _ _ _ _ _ _ (g1.trans g2) h2 (.lst upd_same (r1.mono g2)) w1.2
/-- [a, b, ..], an object -/
def dLstM (wa : DTA) : DT := fun ρ M Q X => wa ρ M (fun ds M1 => ds.length ≤ sizeLine ∧ Q (.ptr M1.length) (M1 ++ [.lst ds])) X
theorem same_upd {H : Hp} {p : Addr} {o : HO} (np : H p = none) : ∀ b u, H b = some u → upd H p o b = some u := fun b u e => by rw [upd_ne (ne_of_none e np)]; exact e
theorem last_get (as : List Addr) (p : Addr) : (as ++ [p])[as.length]? = some p := by
  rw [List.getElem?_append_right (Nat.le_refl _), Nat.sub_self]
  rfl
theorem dn_lstM {ta : TA} {wa : DTA} (ha : DnA K W ta wa) : Dn K W (tLst ta) (dLstM wa) := by
  intro G as σ H ρ M Qd Xd Q h e w cv ce
  refine ha _ _ _ _ _ _ _ Xd _ h e w (fun G1 as1 H1 M1 vs ds g1 h1 r1 w1 => ?_) ce
  refine ⟨by rw [r1.length]; exact w1.1, fun p np => ?_⟩
  have x0 : Gr G1 as1 G1 (as1 ++ [p]) := ⟨Same.refl _, List.prefix_append _ _⟩
  obtain ⟨g2, h2⟩ := h1.push (m := .lst ds) np (same_upd np) ⟨vs, upd_same, r1.mono x0⟩
  refine cv _ _ _ _ _ _ (g1.trans g2) h2 (.ptr ?_) w1.2
  rw [← h1.len]
  exact last_get _ _
/-- {} -/
def dNewK : DT := fun _ M Q _ => Q (.ptr M.length) (M ++ [.dK []])
theorem dn_newK : Dn K W tDNewK dNewK := by
  intro G as σ H ρ M Qd Xd Q h e w cv ce p np
  obtain ⟨g2, h2⟩ := h.push (m := .dK []) np (same_upd np) ⟨[], upd_same, .nil⟩
  refine cv _ _ _ _ _ _ g2 h2 (.ptr ?_) w
  rw [← h.len]
  exact last_get _ _
/-- tests -/
def dTest (wa : DT) : DTT := fun ρ M Q X => wa ρ M (fun d M1 => ∃ b, d = .bl b ∧ Q b M1) X
theorem dn_test {ta : TE} {wa : DT} (ha : Dn K W ta wa) : DnT K W (tTest ta) (dTest wa) := by
  intro G as σ H ρ M Qd Xd Q h e w cv ce
  refine ha _ _ _ _ _ _ _ Xd _ h e w (fun G1 as1 H1 M1 x d g1 h1 r1 w1 => ?_) ce
  obtain ⟨b, rfl, w1⟩ := w1
  exact ⟨b, r1.bl_inv, cv _ _ _ _ _ g1 h1 w1⟩
theorem dn_testB {ta : TE} {wa : DT} (ha : Dn K W ta wa) : DnT K W (tB ta) (dTest wa) := by
  intro G as σ H ρ M Qd Xd Q h e w cv ce
  refine ha _ _ _ _ _ _ _ Xd _ h e w (fun G1 as1 H1 M1 x d g1 h1 r1 w1 => ?_) ce
  obtain ⟨b, rfl, w1⟩ := w1
  exact ⟨b, r1.bl_inv, cv _ _ _ _ _ g1 h1 w1⟩
def dAnd (wa wb : DTT) : DTT := fun ρ M Q X => wa ρ M (fun b M1 => if b = true then wb ρ M1 Q X else Q false M1) X
def dOr (wa wb : DTT) : DTT := fun ρ M Q X => wa ρ M (fun b M1 => if b = true then Q true M1 else wb ρ M1 Q X) X
def dNot (wa : DTT) : DTT := fun ρ M Q X => wa ρ M (fun b M1 => Q (!b) M1) X
theorem dn_and {ta tb : TT} {wa wb : DTT} (ha : DnT K W ta wa) (hb : DnT K W tb wb) : DnT K W (tAnd ta tb) (dAnd wa wb) := by
  intro G as σ H ρ M Qd Xd Q h e w cv ce
  refine ha _ _ _ _ _ _ _ Xd _ h e w (fun G1 as1 H1 M1 b g1 h1 w1 => ?_) ce
  cases b with
  | true =>
    rw [if_pos rfl] at w1 ⊢
    exact hb _ _ _ _ _ _ _ Xd _ h1 (e.mono g1) w1 (cv.mono g1) (ce.mono g1)
  | false =>
    rw [if_neg Bool.false_ne_true] at w1 ⊢
    exact cv _ _ _ _ _ g1 h1 w1
theorem dn_or {ta tb : TT} {wa wb : DTT} (ha : DnT K W ta wa) (hb : DnT K W tb wb) : DnT K W (tOr ta tb) (dOr wa wb) := by
  intro G as σ H ρ M Qd Xd Q h e w cv ce
  refine ha _ _ _ _ _ _ _ Xd _ h e w (fun G1 as1 H1 M1 b g1 h1 w1 => ?_) ce
  cases b with
  | false =>
    rw [if_neg Bool.false_ne_true] at w1 ⊢
    exact hb _ _ _ _ _ _ _ Xd _ h1 (e.mono g1) w1 (cv.mono g1) (ce.mono g1)
  | true =>
    rw [if_pos rfl] at w1 ⊢
    exact cv _ _ _ _ _ g1 h1 w1
theorem dn_not {ta : TT} {wa : DTT} (ha : DnT K W ta wa) : DnT K W (tNot ta) (dNot wa) := by
  intro G as σ H ρ M Qd Xd Q h e w cv ce
  exact ha _ _ _ _ _ _ _ Xd _ h e w (fun G1 as1 H1 M1 b g1 h1 w1 => cv _ _ _ _ _ g1 h1 w1) ce
/-- a if t else b -/
def dIfE (wt : DTT) (wa wb : DT) : DT := fun ρ M Q X => wt ρ M (fun b M1 => if b = true then wa ρ M1 Q X else wb ρ M1 Q X) X
theorem dn_ifE {tt : TT} {ta tb : TE} {wt : DTT} {wa wb : DT} (ht : DnT K W tt wt) (ha : Dn K W ta wa) (hb : Dn K W tb wb) : Dn K W (tIf tt ta tb) (dIfE wt wa wb) := by
  intro G as σ H ρ M Qd Xd Q h e w cv ce
  refine ht _ _ _ _ _ _ _ Xd _ h e w (fun G1 as1 H1 M1 b g1 h1 w1 => ?_) ce
  cases b with
  | true =>
    rw [if_pos rfl] at w1 ⊢
    exact ha _ _ _ _ _ _ _ Xd _ h1 (e.mono g1) w1 (cv.mono g1) (ce.mono g1)
  | false =>
    rw [if_neg Bool.false_ne_true] at w1 ⊢
    exact hb _ _ _ _ _ _ _ Xd _ h1 (e.mono g1) w1 (cv.mono g1) (ce.mono g1)
/-- and, or, not as values of truth -/
def dAndV (wa wb : DT) : DT := fun ρ M Q X => wa ρ M (fun d M1 => ∃ b, d = .bl b ∧ if b = true then wb ρ M1 Q X else Q (.bl false) M1) X
def dOrV (wa wb : DT) : DT := fun ρ M Q X => wa ρ M (fun d M1 => ∃ b, d = .bl b ∧ if b = true then Q (.bl true) M1 else wb ρ M1 Q X) X
def dNotV (wa : DT) : DT := fun ρ M Q X => wa ρ M (fun d M1 => ∃ b, d = .bl b ∧ Q (.bl (!b)) M1) X
theorem dn_andV {ta tb : TE} {wa wb : DT} (ha : Dn K W ta wa) (hb : Dn K W tb wb) : Dn K W (tAndV ta tb) (dAndV wa wb) := by
  intro G as σ H ρ M Qd Xd Q h e w cv ce
  refine ha _ _ _ _ _ _ _ Xd _ h e w (fun G1 as1 H1 M1 x d g1 h1 r1 w1 => ?_) ce
  obtain ⟨b, rfl, w1⟩ := w1
  refine ⟨b, r1.bl_inv, ?_⟩
  cases b with
  | true =>
    rw [if_pos rfl] at w1 ⊢
    exact hb _ _ _ _ _ _ _ Xd _ h1 (e.mono g1) w1 (cv.mono g1) (ce.mono g1)
  | false =>
    rw [if_neg Bool.false_ne_true] at w1 ⊢
    exact cv _ _ _ _ _ _ g1 h1 (.bl _) w1
theorem dn_orV {ta tb : TE} {wa wb : DT} (ha : Dn K W ta wa) (hb : Dn K W tb wb) : Dn K W (tOrV ta tb) (dOrV wa wb) := by
  intro G as σ H ρ M Qd Xd Q h e w cv ce
  refine ha _ _ _ _ _ _ _ Xd _ h e w (fun G1 as1 H1 M1 x d g1 h1 r1 w1 => ?_) ce
  obtain ⟨b, rfl, w1⟩ := w1
  refine ⟨b, r1.bl_inv, ?_⟩
  cases b with
  | false =>
    rw [if_neg Bool.false_ne_true] at w1 ⊢
    exact hb _ _ _ _ _ _ _ Xd _ h1 (e.mono g1) w1 (cv.mono g1) (ce.mono g1)
  | true =>
    rw [if_pos rfl] at w1 ⊢
    exact cv _ _ _ _ _ _ g1 h1 (.bl _) w1
theorem dn_notV {ta : TE} {wa : DT} (ha : Dn K W ta wa) : Dn K W (tNotV ta) (dNotV wa) := by
  intro G as σ H ρ M Qd Xd Q h e w cv ce
  refine ha _ _ _ _ _ _ _ Xd _ h e w (fun G1 as1 H1 M1 x d g1 h1 r1 w1 => ?_) ce
  obtain ⟨b, rfl, w1⟩ := w1
  exact ⟨b, r1.bl_inv, cv _ _ _ _ _ _ g1 h1 (.bl _) w1⟩
end

/-! ### statements -/
section
variable {K : PySem.W.Frag} {W : WX}
def dNext : SW := fun De ρ M => De.nx ρ M
def dSeq (w1 w2 : SW) : SW := fun De ρ M => w1 { De with nx := fun ρ' M' => w2 De ρ' M' } ρ M
theorem sn_next : Sn K W tNext dNext := by
  intro G as σ H ρ M De Dv h e w c
  exact c.nx _ _ _ _ _ _ .refl h e w
theorem sn_seq {t u : TS} {w1 w2 : SW} (h1 : Sn K W t w1) (h2 : Sn K W u w2) : Sn K W (tSeq t u) (dSeq w1 w2) := by
  intro G as σ H ρ M De Dv h e w c
  exact h1 _ _ _ _ _ _ _ { Dv with nx := u Dv } h e w ⟨fun _ _ _ _ _ _ g h' e' w' => h2 _ _ _ _ _ _ _ _ h' e' w' (c.mono g), c.rt, c.bk, c.ct, c.ex⟩
def dIf (wt : DTT) (w1 w2 : SW) : SW := fun De ρ M => wt ρ M (fun b M1 => if b = true then w1 De ρ M1 else w2 De ρ M1) (fun C fs M1 => De.ex C fs ρ M1)
theorem sn_if {tt : TT} {t u : TS} {wt : DTT} {w1 w2 : SW} (ht : DnT K W tt wt) (h1 : Sn K W t w1) (h2 : Sn K W u w2) : Sn K W (tIfS tt t u) (dIf wt w1 w2) := by
  intro G as σ H ρ M De Dv h e w c
  refine ht _ _ _ _ _ _ _ _ _ h e w (fun G1 as1 H1 M1 b g1 h1' w1' => ?_) (c.ce e)
  cases b with
  | true =>
    rw [if_pos rfl] at w1' ⊢
    exact h1 _ _ _ _ _ _ _ _ h1' (e.mono g1) w1' (c.mono g1)
  | false =>
    rw [if_neg Bool.false_ne_true] at w1' ⊢
    exact h2 _ _ _ _ _ _ _ _ h1' (e.mono g1) w1' (c.mono g1)
def dRet (wa : DT) : SW := fun De ρ M => wa ρ M De.rt (fun C fs M1 => De.ex C fs ρ M1)
theorem sn_ret {ta : TE} {wa : DT} (ha : Dn K W ta wa) : Sn K W (tRet ta) (dRet wa) := by
  intro G as σ H ρ M De Dv h e w c
  exact ha _ _ _ _ _ _ _ _ _ h e w c.rt (c.ce e)
def dRetN : SW := fun De _ M => De.rt .non M
theorem sn_retN : Sn K W tRetN dRetN := by
  intro G as σ H ρ M De Dv h e w c
  exact c.rt _ _ _ _ _ _ .refl h .non w
def dDrop (wa : DT) : SW := fun De ρ M => wa ρ M (fun _ M1 => De.nx ρ M1) (fun C fs M1 => De.ex C fs ρ M1)
theorem sn_drop {ta : TE} {wa : DT} (ha : Dn K W ta wa) : Sn K W (tDrop ta) (dDrop wa) := by
  intro G as σ H ρ M De Dv h e w c
  exact ha _ _ _ _ _ _ _ _ _ h e w (fun _ _ _ _ _ _ g h1 _ w1 => c.nx _ _ _ _ _ _ g h1 (e.mono g) w1) (c.ce e)
def dAsg (wa : DT) (wg : DGt) : SW := fun De ρ M => wa ρ M (fun d M1 => wg d ρ M1 De.nx (fun C fs M2 => De.ex C fs ρ M2)) (fun C fs M1 => De.ex C fs ρ M1)
theorem sn_asg {ta : TE} {g : TG} {wa : DT} {wg : DGt} (ha : Dn K W ta wa) (hg : DnG K W g wg) : Sn K W (tAsg ta g) (dAsg wa wg) := by
  intro G as σ H ρ M De Dv h e w c
  refine ha _ _ _ _ _ _ _ _ _ h e w (fun _ _ _ _ _ _ g1 h1 r1 w1 => ?_) (c.ce e)
  exact hg _ _ _ _ _ _ _ _ _ _ _ h1 (e.mono g1) r1 w1 (c.nx.mono g1) ((c.ce e).mono g1)
def dgName (i : Nat) : DGt := fun d ρ M P _ => P (ρ.set i (some d)) M
theorem dg_name {i : Nat} : DnG K W (gName i) (dgName i) := by
  intro G as σ H ρ M v d P Xd R h e r w c ce
  exact c _ _ _ _ _ _ .refl h (e.set i r) w
def dBreak : SW := fun De ρ M => De.bk ρ M
def dCont : SW := fun De ρ M => De.ct ρ M
theorem sn_break : Sn K W tBreak dBreak := by
  intro G as σ H ρ M De Dv h e w c
  exact c.bk _ _ _ _ _ _ .refl h e w
theorem sn_cont : Sn K W tCont dCont := by
  intro G as σ H ρ M De Dv h e w c
  exact c.ct _ _ _ _ _ _ .refl h e w
/-- a place where objects may be let go -/
def dUp (w1 : SW) : SW := fun De ρ M => w1 { De with nx := Up M.length De.nx } ρ M
theorem sn_up {t : TS} {w1 : SW} (h1 : Sn K W t w1) : Sn K W t (dUp w1) := by
  intro G as σ H ρ M De Dv h e w c
  exact h1 _ _ _ _ _ _ _ _ h e w ⟨c.nx.up h.len, c.rt, c.bk, c.ct, c.ex⟩
/-- a while: the word I with its measure -/
def dWhile (wt : DTT) (wb : SW) : SW := fun De ρ M => ∃ (I : Nat → NK), (∃ m, I m ρ M) ∧ ∀ m ρ1 M1, I m ρ1 M1 →
  wt ρ1 M1 (fun b M2 => if b = true then wb { De with nx := Up M.length fun ρ' M' => ∃ m', m' < m ∧ I m' ρ' M', ct := Up M.length fun ρ' M' => ∃ m', m' < m ∧ I m' ρ' M', bk := De.nx } ρ1 M2 else De.nx ρ1 M2) (fun C fs M2 => De.ex C fs ρ1 M2)
theorem sn_while {tt : TT} {tb : TS} {wt : DTT} {wb : SW} (ht : DnT K W tt wt) (hb : Sn K W tb wb) : Sn K W (tWhile tt tb) (dWhile wt wb) := by
  intro G as σ H ρ M De Dv h e w c
  obtain ⟨I, ⟨m0, i0⟩, turn⟩ := w
  refine ⟨fun m σ1 H1 => ∃ G1 as1 ρ1 M1, Gr G as G1 as1 ∧ Hs K G1 as1 H1 M1 ∧ Evs K G1 as1 σ1 ρ1 ∧ I m ρ1 M1, ⟨m0, G, as, ρ, M, .refl, h, e, i0⟩, ?_⟩
  rintro m σ1 H1 ⟨G1, as1, ρ1, M1, g1, h1, e1, i1⟩
  refine ht _ _ _ _ _ _ _ _ _ h1 e1 (turn m ρ1 M1 i1) (fun G2 as2 H2 M2 b g2 h2 w2 => ?_) ((c.mono g1).ce e1)
  cases b with
  | true =>
    rw [if_pos rfl] at w2 ⊢
    refine ⟨fun σ' H' => ∃ m', m' < m ∧ ∃ G1 as1 ρ1 M1, Gr G as G1 as1 ∧ Hs K G1 as1 H' M1 ∧ Evs K G1 as1 σ' ρ1 ∧ I m' ρ1 M1, fun σ' H' z => z, ?_⟩
    have cN : CN K G as (fun ρ' M' => ∃ m', m' < m ∧ I m' ρ' M') (fun σ' H' => ∃ m', m' < m ∧ ∃ G1 as1 ρ1 M1, Gr G as G1 as1 ∧ Hs K G1 as1 H' M1 ∧ Evs K G1 as1 σ' ρ1 ∧ I m' ρ1 M1) :=
      fun G3 as3 σ3 H3 ρ3 M3 g3 h3 e3 ⟨m', l, i3⟩ => ⟨m', l, G3, as3, ρ3, M3, g3, h3, e3, i3⟩
    have cU := (cN.up h.len).mono (g1.trans g2)
    exact hb _ _ _ _ _ _ _ _ h2 (e1.mono g2) w2 ⟨cU, c.rt.mono (g1.trans g2), c.nx.mono (g1.trans g2), cU, c.ex.mono (g1.trans g2)⟩
  | false =>
    rw [if_neg Bool.false_ne_true] at w2 ⊢
    exact c.nx _ _ _ _ _ _ (g1.trans g2) h2 (e1.mono g2) w2
/-- what a loop walks: items, while st holds -/
structure Yl (K : PySem.W.Frag) (G : Hp) (as : List Addr) (J : It) (xs : List D) (st : Mm → Prop) : Prop where
  go : ∀ (i : Nat) (d : D) G' as' H' M', Gr G as G' as' → Hs K G' as' H' M' → st M' → xs[i]? = some d → J.go i H' ∧ ∀ x H'', J.yld i H' x H'' → ∃ G'' as'', Gr G' as' G'' as'' ∧ Hs K G'' as'' H'' M' ∧ Rp K G'' as'' x d
  stop : ∀ (i : Nat) G' as' H' M', Gr G as G' as' → Hs K G' as' H' M' → st M' → xs.length ≤ i → J.stop i H'
abbrev DIt := Ev → Mm → (List D → (Mm → Prop) → Mm → Prop) → XD → Prop
def DnI (K : PySem.W.Frag) (W : WX) (wi : TI) (w : DIt) : Prop := ∀ G as σ H ρ M (Qd : List D → (Mm → Prop) → Mm → Prop) Xd (R : It → Hp → Prop), Hs K G as H M → Evs K G as σ ρ → w ρ M Qd Xd →
  (∀ G' as' H' M' J xs st, Gr G as G' as' → Hs K G' as' H' M' → Yl K G' as' J xs st → Qd xs st M' → R J H') → CE K G as Xd (WR W σ) → wi σ H R
/-- for x in ..: the word I, by the turn -/
def dFor (wi : DIt) (wg : DGt) (wb : SW) : SW := fun De ρ M => wi ρ M (fun xs st M0 => ∃ (I : Nat → NK), I 0 ρ M0 ∧ (∀ i ρ1 M1, I i ρ1 M1 → st M1) ∧
  (∀ i d ρ1 M1, xs[i]? = some d → I i ρ1 M1 → wg d ρ1 M1 (fun ρ2 M2 => wb { De with nx := Up M0.length (I (i + 1)), ct := Up M0.length (I (i + 1)), bk := De.nx } ρ2 M2) (fun C fs M2 => De.ex C fs ρ1 M2)) ∧
  ∀ ρ1 M1, I xs.length ρ1 M1 → De.nx ρ1 M1) (fun C fs M1 => De.ex C fs ρ M1)
theorem sn_for {wi : TI} {g : TG} {tb : TS} {di : DIt} {wg : DGt} {wb : SW} (hi : DnI K W wi di) (hg : DnG K W g wg) (hb : Sn K W tb wb) : Sn K W (tFor wi g tb) (dFor di wg wb) := by
  intro G as σ H ρ M De Dv h e w c
  refine hi _ _ _ _ _ _ _ _ _ h e w (fun G0 as0 H0 M0 J xs st g0 h0 y w0 => ?_) (c.ce e)
  obtain ⟨I, i0, hst, turn, fin⟩ := w0
  refine ⟨fun i m σ1 H1 => m = xs.length - i ∧ i ≤ xs.length ∧ ∃ G1 as1 ρ1 M1, Gr G0 as0 G1 as1 ∧ Hs K G1 as1 H1 M1 ∧ Evs K G1 as1 σ1 ρ1 ∧ I i ρ1 M1, ⟨xs.length, by simp, Nat.zero_le _, G0, as0, ρ, M0, .refl, h0, e.mono g0, i0⟩, ?_⟩
  rintro i m σ1 H1 ⟨rfl, hle, G1, as1, ρ1, M1, g1, h1, e1, i1⟩
  by_cases hlt : i < xs.length
  · have hx : xs[i]? = some xs[i] := List.getElem?_eq_getElem hlt
    obtain ⟨y1, y2⟩ := y.go i xs[i] G1 as1 H1 M1 g1 h1 (hst i ρ1 M1 i1) hx
    refine .inr ⟨y1, fun σ' H' => i + 1 ≤ xs.length ∧ ∃ G1 as1 ρ1 M1, Gr G0 as0 G1 as1 ∧ Hs K G1 as1 H' M1 ∧ Evs K G1 as1 σ' ρ1 ∧ I (i + 1) ρ1 M1, fun σ' H' z => ⟨xs.length - (i + 1), by omega, rfl, z⟩, fun x H2 hy => ?_⟩
    obtain ⟨G2, as2, g2, h2, r2⟩ := y2 x H2 hy
    have cN : CN K G0 as0 (I (i + 1)) (fun σ' H' => i + 1 ≤ xs.length ∧ ∃ G1 as1 ρ1 M1, Gr G0 as0 G1 as1 ∧ Hs K G1 as1 H' M1 ∧ Evs K G1 as1 σ' ρ1 ∧ I (i + 1) ρ1 M1) :=
      fun G3 as3 σ3 H3 ρ3 M3 g3 h3 e3 i3 => ⟨hlt, G3, as3, ρ3, M3, g3, h3, e3, i3⟩
    have cU := (cN.up h0.len).mono (g1.trans g2)
    have gg := g0.trans (g1.trans g2)
    refine hg _ _ _ _ _ _ _ _ _ _ _ h2 (e1.mono g2) r2 (turn i xs[i] ρ1 M1 hx i1) (fun G3 as3 σ3 H3 ρ3 M3 g3 h3 e3 w3 => ?_) ((c.mono gg).ce (e1.mono g2))
    have g4 := gg.trans g3
    exact hb _ _ _ _ _ _ _ _ h3 e3 w3 ⟨cU.mono g3, c.rt.mono g4, c.nx.mono g4, cU.mono g3, c.ex.mono g4⟩
  · have ei : i = xs.length := by omega
    subst ei
    exact .inl ⟨y.stop _ G1 as1 H1 M1 g1 h1 (hst _ ρ1 M1 i1) (Nat.le_refl _), c.nx _ _ _ _ _ _ (g0.trans g1) h1 e1 (fin ρ1 M1 i1)⟩
end
end DL

namespace DL
open PySem PySem.Spec PyProof.Rows L2

/-! ### reading objects -/
def lsOf (M : Mm) : D → Option (List D)
  | .lst xs => some xs
  | .ptr k => match M[k]? with
    | some (.lst xs) => some xs
    | _ => none
  | _ => none
/-- a list or a tuple -/
def sqOf (M : Mm) : D → Option (List D)
  | .tup xs => some xs
  | d => lsOf M d
def dkOf (M : Mm) : D → Option (List (Key × D))
  | .ptr k => match M[k]? with
    | some (.dK xs) => some xs
    | some (.lk _ _ xs) => some xs
    | _ => none
  | _ => none
def keyOf : D → Option Key
  | .int i => some (.inl i)
  | .str x => some (.inr x)
  | _ => none
def kD : Key → D
  | .inl i => .int i
  | .inr x => .str x
def vOf : D → Option V
  | .non => some .non
  | .bl b => some (.bl b)
  | .int i => some (.int i)
  | .str x => some (.str x)
  | _ => none
def isNon : D → Bool
  | .non => true
  | _ => false
section
variable {κ : Type} [DecidableEq κ]
def valD (kvs : List (κ × D)) (k : κ) : Option D := (kvs.find? fun kv => decide (kv.1 = k)).map (·.2)
def putD (kvs : List (κ × D)) (k : κ) (v : D) : List (κ × D) :=
  if (kvs.any fun kv => decide (kv.1 = k)) = true then kvs.map (fun kv => if kv.1 = k then (kv.1, v) else kv) else kvs ++ [(k, v)]
def dropD (kvs : List (κ × D)) (k : κ) : List (κ × D) := kvs.filter fun kv => decide (kv.1 ≠ k)
end
section
variable {K : PySem.W.Frag} {G : Hp} {as : List Addr} {H : Hp} {M : Mm} {v : V} {d : D}
theorem Hs.ls (h : Hs K G as H M) (r : Rp K G as v d) {xs : List D} (e : lsOf M d = some xs) : ∃ a vs, v = .ref a ∧ H a = some (.lst vs) ∧ Rps K G as vs xs := by
  cases d with
  | lst ys =>
    have e' : ys = xs := Option.some.inj e
    subst e'
    obtain ⟨a, vs, rfl, e1, rv⟩ := r.lst_inv
    exact ⟨a, vs, rfl, h.sub _ _ e1, rv⟩
  | ptr k =>
    unfold lsOf at e; dsimp only at e
    cases q : M[k]? with
    | none => rw [q] at e; cases e
    | some m =>
      rw [q] at e
      cases m with
      | lst ys =>
        have e' : ys = xs := Option.some.inj e
        subst e'
        obtain ⟨a, rfl, _, vs, e1, rv⟩ := h.ptr r q
        exact ⟨a, vs, rfl, e1, rv⟩
      | _ => cases e
  | _ => cases e
theorem Hs.sq (h : Hs K G as H M) (r : Rp K G as v d) {xs : List D} (e : sqOf M d = some xs) : ∃ a vs, v = .ref a ∧ (SqL K H a vs ∨ SqT K H a vs) ∧ Rps K G as vs xs := by
  by_cases ht : ∃ ys, d = .tup ys
  · obtain ⟨ys, rfl⟩ := ht
    have e' : ys = xs := Option.some.inj e
    subst e'
    obtain ⟨a, vs, rfl, e1, rv⟩ := r.tup_inv
    exact ⟨a, vs, rfl, .inr (sqT_mono h.sub e1), rv⟩
  · have e2 : lsOf M d = some xs := by
      cases d with
      | tup ys => exact absurd ⟨ys, rfl⟩ ht
      | _ => exact e
    obtain ⟨a, vs, rfl, e1, rv⟩ := h.ls r e2
    exact ⟨a, vs, rfl, .inl (.inl (.inl e1)), rv⟩
theorem Hs.dk (h : Hs K G as H M) (r : Rp K G as v d) {xs : List (Key × D)} (e : dkOf M d = some xs) : ∃ a ks, v = .ref a ∧ Rd H a (.dK ks) ∧ Kvr K G as ks xs := by
  cases d with
  | ptr k =>
    unfold dkOf at e; dsimp only at e
    cases q : M[k]? with
    | none => rw [q] at e; cases e
    | some m =>
      rw [q] at e
      cases m with
      | dK ys =>
        have e' : ys = xs := Option.some.inj e
        subst e'
        obtain ⟨a, rfl, _, vs, e1, rv⟩ := h.ptr r q
        exact ⟨a, vs, rfl, .inl e1, rv⟩
      | lk ob vs ys =>
        have e' : ys = xs := Option.some.inj e
        subst e'
        obtain ⟨a, rfl, _, e1, rv⟩ := h.ptr r q
        exact ⟨a, vs, rfl, .inr ⟨ob, e1⟩, rv⟩
      | _ => cases e
  | _ => cases e
theorem Rp.vOf {x : V} (r : Rp K G as v d) (e : vOf d = some x) : v = x := by
  cases d with
  | non => cases r; exact Option.some.inj e
  | bl b => cases r; exact Option.some.inj e
  | int b => cases r; exact Option.some.inj e
  | str b => cases r; exact Option.some.inj e
  | _ => cases e
theorem Rp.keyOf {k : Key} (r : Rp K G as v d) (e : keyOf d = some k) : v = kV k := by
  cases d with
  | int b =>
    cases r
    have z := Option.some.inj e
    subst z
    rfl
  | str b =>
    cases r
    have z := Option.some.inj e
    subst z
    rfl
  | _ => cases e
theorem Rp.isNon (r : Rp K G as v d) : decide (v = .non) = isNon d := by
  cases r <;> rfl
theorem Rp.vOf_flat (r : Rp K G as v d) {x : V} (e : DL.vOf d = some x) : flatV v = true := by
  cases d with
  | non => cases r; rfl
  | bl b => cases r; rfl
  | int b => cases r; rfl
  | str b => cases r; rfl
  | _ => cases e
theorem kvr_val {κ : Type} [DecidableEq κ] {k : κ} : ∀ {ps : List (κ × V)} {qs : List (κ × D)}, Kvr K G as ps qs → (valD qs k = none → valV ps k = none) ∧ ∀ e, valD qs k = some e → ∃ x, valV ps k = some x ∧ Rp K G as x e
  | _, _, .nil => ⟨fun _ => rfl, fun e h => by simp [valD] at h⟩
  | p :: ps, q :: qs, .cons h r => by
    obtain ⟨i1, i2⟩ := kvr_val (k := k) r
    by_cases hk : q.1 = k
    · have hp : p.1 = k := h.1.trans hk
      have e1 : valD (q :: qs) k = some q.2 := by simp [valD, List.find?_cons, hk]
      rw [e1, valV_pos hp]
      exact ⟨fun z => (by cases z), fun e z => ⟨p.2, rfl, by rw [← Option.some.inj z]; exact h.2⟩⟩
    · have hp : ¬ p.1 = k := fun z => hk (h.1.symm.trans z)
      have e1 : valD (q :: qs) k = valD qs k := by simp [valD, List.find?_cons, hk]
      rw [e1, valV_neg hp]
      exact ⟨i1, i2⟩
theorem kvr_isSome {κ : Type} [DecidableEq κ] {k : κ} {ps : List (κ × V)} {qs : List (κ × D)} (r : Kvr K G as ps qs) : (valV ps k).isSome = (valD qs k).isSome := by
  obtain ⟨i1, i2⟩ := kvr_val (k := k) r
  cases e : valD qs k with
  | none => rw [i1 e]; rfl
  | some x =>
    obtain ⟨y, hy, _⟩ := i2 x e
    rw [hy]
    rfl
theorem kvr_any {κ : Type} [DecidableEq κ] {k : κ} : ∀ {ps : List (κ × V)} {qs : List (κ × D)}, Kvr K G as ps qs → (ps.any fun kv => decide (kv.1 = k)) = (qs.any fun kv => decide (kv.1 = k))
  | _, _, .nil => rfl
  | p :: ps, q :: qs, .cons h r => by
    rw [List.any_cons, List.any_cons, kvr_any r, h.1]
theorem kvr_map {κ : Type} [DecidableEq κ] {k : κ} {x : V} {e : D} (hx : Rp K G as x e) : ∀ {ps : List (κ × V)} {qs : List (κ × D)}, Kvr K G as ps qs → Kvr K G as (ps.map fun kv => if kv.1 = k then (kv.1, x) else kv) (qs.map fun kv => if kv.1 = k then (kv.1, e) else kv)
  | _, _, .nil => .nil
  | p :: ps, q :: qs, .cons h r => by
    rw [List.map_cons, List.map_cons]
    refine .cons ?_ (kvr_map hx r)
    by_cases hk : q.1 = k
    · rw [if_pos hk, if_pos (h.1.trans hk)]
      exact ⟨h.1, hx⟩
    · rw [if_neg hk, if_neg (fun z => hk (h.1.symm.trans z))]
      exact h
theorem kvr_append {κ : Type} : ∀ {ps ps' : List (κ × V)} {qs qs' : List (κ × D)}, Kvr K G as ps qs → Kvr K G as ps' qs' → Kvr K G as (ps ++ ps') (qs ++ qs')
  | _, _, _, _, .nil, s => s
  | _, _, _, _, .cons h r, s => .cons h (kvr_append r s)
theorem kvr_put {κ : Type} [DecidableEq κ] {k : κ} {x : V} {e : D} {ps : List (κ × V)} {qs : List (κ × D)} (r : Kvr K G as ps qs) (hx : Rp K G as x e) : Kvr K G as (putK ps k x) (putD qs k e) := by
  unfold putK putD
  rw [kvr_any r]
  by_cases hk : (qs.any fun kv => decide (kv.1 = k)) = true
  · rw [if_pos hk, if_pos hk]
    exact kvr_map hx r
  · rw [if_neg hk, if_neg hk]
    exact kvr_append r (.cons ⟨rfl, hx⟩ .nil)
theorem kvr_drop {κ : Type} [DecidableEq κ] {k : κ} : ∀ {ps : List (κ × V)} {qs : List (κ × D)}, Kvr K G as ps qs → Kvr K G as (dropK ps k) (dropD qs k)
  | _, _, .nil => .nil
  | p :: ps, q :: qs, .cons h r => by
    unfold dropK dropD
    by_cases hk : q.1 = k
    · rw [List.filter_cons_of_neg (by simpa using h.1.trans hk), List.filter_cons_of_neg (by simpa using hk)]
      exact kvr_drop r
    · rw [List.filter_cons_of_pos (by simpa using fun z => hk (h.1.symm.trans z)), List.filter_cons_of_pos (by simpa using hk)]
      exact .cons h (kvr_drop r)
theorem kvr_len {κ : Type} {ps : List (κ × V)} {qs : List (κ × D)} (r : Kvr K G as ps qs) : ps.length = qs.length := Paired.length r
theorem kvr_lookup {f : Str} : ∀ {ps : List (Str × V)} {qs : List (Str × D)}, Kvr K G as ps qs → (qs.lookup f = none → ps.lookup f = none) ∧ ∀ e, qs.lookup f = some e → ∃ x, ps.lookup f = some x ∧ Rp K G as x e
  | _, _, .nil => ⟨fun _ => rfl, fun e h => by simp at h⟩
  | (p, x) :: ps, (q, y) :: qs, .cons h r => by
    obtain ⟨i1, i2⟩ := kvr_lookup (f := f) r
    have hpq : p = q := h.1
    subst hpq
    by_cases hk : f = p
    · subst hk
      simp only [List.lookup_cons_self]
      exact ⟨fun z => (by cases z), fun e z => ⟨x, rfl, by rw [← Option.some.inj z]; exact h.2⟩⟩
    · have hb : (f == p) = false := by simpa using hk
      simp only [List.lookup, hb]
      exact ⟨i1, i2⟩
def putFD (f : Str) (d : D) : List (Str × D) → List (Str × D)
  | [] => [(f, d)]
  | (k, x) :: r => if k = f then (k, d) :: r else (k, x) :: putFD f d r
theorem kvr_putF {f : Str} {x : V} {e : D} (hx : Rp K G as x e) : ∀ {ps : List (Str × V)} {qs : List (Str × D)}, Kvr K G as ps qs → Kvr K G as (putF f x ps) (putFD f e qs)
  | _, _, .nil => .cons ⟨rfl, hx⟩ .nil
  | (p, y) :: ps, (q, z) :: qs, .cons h r => by
    have hpq : p = q := h.1
    subst hpq
    show Kvr K G as (if p = f then (p, x) :: ps else (p, y) :: putF f x ps) (if p = f then (p, e) :: qs else (p, z) :: putFD f e qs)
    by_cases hk : p = f
    · rw [if_pos hk, if_pos hk]
      exact .cons ⟨rfl, hx⟩ r
    · rw [if_neg hk, if_neg hk]
      exact .cons h (kvr_putF hx r)
end

/-! ### operators -/
def DOp {ι : Type} (X : ι → Cx) (K : PySem.W.Frag) (f : Value → Value → Sem Value) (w : DR2) : Prop := ∃ r, (∀ i, OpR (X i) f r) ∧ Ro2 K r w
section
variable {ι : Type} {X : ι → Cx} {K : PySem.W.Frag}
theorem Ro2.or {r r' : R2} {w w' : DR2} (a : Ro2 K r w) (b : Ro2 K r' w') : Ro2 K (fun x y H Q => r x y H Q ∨ r' x y H Q) (fun d e M Q => w d e M Q ∨ w' d e M Q) := by
  intro G as H M x y d e Qd Q h r1 r2 q cv
  exact q.imp (fun q => a _ _ _ _ _ _ _ _ _ _ h r1 r2 q cv) fun q => b _ _ _ _ _ _ _ _ _ _ h r1 r2 q cv
theorem DOp.or {f : Value → Value → Sem Value} {w w' : DR2} (a : DOp X K f w) (b : DOp X K f w') : DOp X K f (fun d e M Q => w d e M Q ∨ w' d e M Q) := by
  obtain ⟨r, h1, h2⟩ := a
  obtain ⟨r', h1', h2'⟩ := b
  exact ⟨_, fun i => (h1 i).or (h1' i), h2.or h2'⟩
/-- of two ints -/
def wI (C : Int → Int → Prop) (g : Int → Int → D) : DR2 := fun d e M Q => ∃ i j, d = .int i ∧ e = .int j ∧ C i j ∧ Q (g i j) M
theorem ro_I {C : Int → Int → Prop} {g : Int → Int → D} {g' : Int → Int → V} (hf : ∀ i j, Flat (g' i j) (g i j)) : Ro2 K (rI C g') (wI C g) := by
  intro G as H M x y d e Qd Q h r1 r2 q cv
  obtain ⟨i, j, rfl, rfl, c, q⟩ := q
  exact ⟨i, j, r1.int_inv, r2.int_inv, c, cv _ _ _ _ _ _ .refl h (hf i j).rp q⟩
theorem ro_I0 {g : Int → Int → D} {g' : Int → Int → V} (hf : ∀ i j, Flat (g' i j) (g i j)) : Ro2 K (rI0 g') (wI (fun _ _ => True) g) := by
  intro G as H M x y d e Qd Q h r1 r2 q cv
  obtain ⟨i, j, rfl, rfl, c, q⟩ := q
  exact ⟨i, j, r1.int_inv, r2.int_inv, cv _ _ _ _ _ _ .refl h (hf i j).rp q⟩
def wAddI : DR2 := wI (fun _ _ => True) fun i j => .int (i + j)
theorem do_addI : DOp X K (binaryOp .Add) wAddI := ⟨_, fun _ => op_add, ro_I0 fun _ _ => .int _⟩
theorem do_subI : DOp X K (binaryOp .Sub) (wI (fun _ _ => True) fun i j => .int (i - j)) := ⟨_, fun _ => op_sub, ro_I0 fun _ _ => .int _⟩
theorem do_mulI : DOp X K (binaryOp .Mult) (wI CMul fun i j => .int (i * j)) := ⟨_, fun _ => op_mul, ro_I fun _ _ => .int _⟩
theorem do_modI : DOp X K (binaryOp .Mod) (wI (fun _ j => 0 < j) fun i j => .int (i % j)) := ⟨_, fun _ => op_mod, ro_I fun _ _ => .int _⟩
theorem do_divI : DOp X K (binaryOp .FloorDiv) (wI CDiv fun i j => .int (i / j)) := ⟨_, fun _ => op_fdiv, ro_I fun _ _ => .int _⟩
theorem do_powI : DOp X K (binaryOp .Pow) (wI CPow fun i j => .int (i ^ j.toNat)) := ⟨_, fun _ => op_pow, ro_I fun _ _ => .int _⟩
theorem do_lt : DOp X K (compareOp .Lt) (wI (fun _ _ => True) fun i j => .bl (decide (i < j))) := ⟨_, fun _ => op_lt, ro_I0 fun _ _ => .bl _⟩
theorem do_le : DOp X K (compareOp .LtE) (wI (fun _ _ => True) fun i j => .bl (decide (i ≤ j))) := ⟨_, fun _ => op_le, ro_I0 fun _ _ => .bl _⟩
theorem do_gt : DOp X K (compareOp .Gt) (wI (fun _ _ => True) fun i j => .bl (decide (j < i))) := ⟨_, fun _ => op_gt, ro_I0 fun _ _ => .bl _⟩
theorem do_ge : DOp X K (compareOp .GtE) (wI (fun _ _ => True) fun i j => .bl (decide (j ≤ i))) := ⟨_, fun _ => op_ge, ro_I0 fun _ _ => .bl _⟩
/-- texts -/
def wAddS : DR2 := fun d e M Q => ∃ a b, d = .str a ∧ e = .str b ∧ a.length + b.length ≤ sizeLine ∧ Q (.str (a ++ b)) M
theorem do_addS : DOp X K (binaryOp .Add) wAddS := ⟨_, fun _ => op_add_str, fun G as H M x y d e Qd Q h r1 r2 q cv => by
  obtain ⟨a, b, rfl, rfl, c, q⟩ := q
  exact ⟨a, b, r1.str_inv, r2.str_inv, c, cv _ _ _ _ _ _ .refl h (.str _) q⟩⟩
/-- lists: a new one -/
def wAddL : DR2 := fun d e M Q => ∃ xs ys, lsOf M d = some xs ∧ lsOf M e = some ys ∧ xs.length + ys.length ≤ sizeLine ∧ Q (.lst (xs ++ ys)) M
theorem do_addL : DOp X K (binaryOp .Add) wAddL := ⟨_, fun _ => op_cat, fun G as H M x y d e Qd Q h r1 r2 q cv => by
  obtain ⟨xs, ys, e1, e2, c, q⟩ := q
  obtain ⟨a, vs, rfl, ha, ra⟩ := h.ls r1 e1
  obtain ⟨b, ws, rfl, hb, rb⟩ := h.ls r2 e2
  refine ⟨a, b, vs, ws, rfl, rfl, ha, hb, by rw [ra.length, rb.length]; exact c, fun p np => ?_⟩
  obtain ⟨g2, h2⟩ := h.const (o := .lst (vs ++ ws)) np
  exact cv _ _ _ _ _ _ g2 h2 (.lst upd_same ((ra.append rb).mono g2)) q⟩
/-- text * int -/
theorem op_mul_str {Y : Cx} : OpR Y (binaryOp .Mult) (fun x y H Q => ∃ a n, x = .str a ∧ y = .int n ∧ MulOk a n ∧ Q (.str (Txt.mul a n)) H) := by
  intro pins s σ H x y v u Q I rx ry h
  obtain ⟨a, n, rfl, rfl, ok, q⟩ := h
  obtain ⟨t, rfl⟩ := rx
  obtain ⟨t', rfl⟩ := ry
  exact PySem.SB.mul ok fun t2 k => ⟨.str _, H, I.tok k, ⟨t2, rfl⟩, q⟩
def wMulS : DR2 := fun d e M Q => ∃ a n, d = .str a ∧ e = .int n ∧ MulOk a n ∧ Q (.str (Txt.mul a n)) M
theorem do_mulS : DOp X K (binaryOp .Mult) wMulS := ⟨_, fun _ => op_mul_str, fun G as H M x y d e Qd Q h r1 r2 q cv => by
  obtain ⟨a, b, rfl, rfl, c, q⟩ := q
  exact ⟨a, b, r1.str_inv, r2.int_inv, c, cv _ _ _ _ _ _ .refl h (.str _) q⟩⟩
/-- == of flat data -/
def wEqF : DR2 := fun d e M Q => ∃ x y, vOf d = some x ∧ vOf e = some y ∧ scal x y = true ∧ Q (.bl (decide (x = y))) M
def wNeF : DR2 := fun d e M Q => ∃ x y, vOf d = some x ∧ vOf e = some y ∧ scal x y = true ∧ Q (.bl (!decide (x = y))) M
theorem do_eqF : DOp X K (compareOp .Eq) wEqF := ⟨_, fun _ => op_eq, fun G as H M x y d e Qd Q h r1 r2 q cv => by
  obtain ⟨a, b, e1, e2, c, q⟩ := q
  obtain rfl := r1.vOf e1
  obtain rfl := r2.vOf e2
  exact ⟨c, cv _ _ _ _ _ _ .refl h (.bl _) q⟩⟩
theorem do_neF : DOp X K (compareOp .NotEq) wNeF := ⟨_, fun _ => op_ne, fun G as H M x y d e Qd Q h r1 r2 q cv => by
  obtain ⟨a, b, e1, e2, c, q⟩ := q
  obtain rfl := r1.vOf e1
  obtain rfl := r2.vOf e2
  exact ⟨c, cv _ _ _ _ _ _ .refl h (.bl _) q⟩⟩
/-- is None -/
def wIsN : DR2 := fun d e M Q => e = .non ∧ Q (.bl (isNon d)) M
def wNotN : DR2 := fun d e M Q => e = .non ∧ Q (.bl (!isNon d)) M
theorem do_isN : DOp X K (compareOp .Is) wIsN := ⟨_, fun _ => op_isN, fun G as H M x y d e Qd Q h r1 r2 q cv => by
  obtain ⟨rfl, q⟩ := q
  refine ⟨r2.non_inv, ?_⟩
  rw [r1.isNon]
  exact cv _ _ _ _ _ _ .refl h (.bl _) q⟩
theorem do_notN : DOp X K (compareOp .IsNot) wNotN := ⟨_, fun _ => op_notN, fun G as H M x y d e Qd Q h r1 r2 q cv => by
  obtain ⟨rfl, q⟩ := q
  refine ⟨r2.non_inv, ?_⟩
  rw [r1.isNon]
  exact cv _ _ _ _ _ _ .refl h (.bl _) q⟩
/-- a sign in a text -/
def wInS : DR2 := fun d e M Q => ∃ (c : Nat) (z : Str), d = .str ⟨#[c]⟩ ∧ e = .str z ∧ Q (.bl (decide (c ∈ z.cps.toList))) M
def wNotInS : DR2 := fun d e M Q => ∃ (c : Nat) (z : Str), d = .str ⟨#[c]⟩ ∧ e = .str z ∧ Q (.bl (!decide (c ∈ z.cps.toList))) M
theorem do_inS : DOp X K (compareOp .In) wInS := ⟨_, fun _ => op_in_sign, fun G as H M x y d e Qd Q h r1 r2 q cv => by
  obtain ⟨c, z, rfl, rfl, q⟩ := q
  exact ⟨c, z, r1.str_inv, r2.str_inv, cv _ _ _ _ _ _ .refl h (.bl _) q⟩⟩
theorem do_notInS : DOp X K (compareOp .NotIn) wNotInS := ⟨_, fun _ => op_notIn_sign, fun G as H M x y d e Qd Q h r1 r2 q cv => by
  obtain ⟨c, z, rfl, rfl, q⟩ := q
  exact ⟨c, z, r1.str_inv, r2.str_inv, cv _ _ _ _ _ _ .refl h (.bl _) q⟩⟩
/-- in a list or tuple of flat things -/
def inL (x : V) (ys : List V) : Bool := ys.any fun y => eqV y x
def wInL (neg : Bool) : DR2 := fun d e M Q => ∃ x ys zs, vOf d = some x ∧ sqOf M e = some ys ∧ ys.mapM vOf = some zs ∧ Q (.bl (if neg then !inV x zs else inV x zs)) M
theorem rps_flat {G : Hp} {as : List Addr} : ∀ {vs : List V} {ds : List D} {zs : List V}, Rps K G as vs ds → ds.mapM vOf = some zs → vs = zs ∧ vs.all flatV = true
  | _, _, _, .nil, e => by
    have e' := Option.some.inj e
    subst e'
    exact ⟨rfl, rfl⟩
  | v :: vs, d :: ds, zs, .cons h r, e => by
    rw [List.mapM_cons] at e
    cases e1 : vOf d with
    | none => rw [e1] at e; cases e
    | some z =>
      rw [e1] at e
      cases e2 : ds.mapM vOf with
      | none => rw [e2] at e; cases e
      | some zs' =>
        rw [e2] at e
        have e' : z :: zs' = zs := Option.some.inj e
        subst e'
        obtain ⟨a, b⟩ := rps_flat r e2
        refine ⟨by rw [h.vOf e1, a], ?_⟩
        rw [List.all_cons, b, h.vOf_flat e1]
        rfl
theorem do_inL (hK : ∀ i, (X i).K = K) : DOp X K (compareOp .In) (wInL false) := ⟨rIn K false, fun i => by rw [← hK i]; exact op_in_seq, fun G as H M x y d e Qd Q h r1 r2 q cv => by
  obtain ⟨x', ys, zs, e1, e2, e3, q⟩ := q
  obtain ⟨a, vs, rfl, hs, rv⟩ := h.sq r2 e2
  obtain ⟨f1, f2⟩ := rps_flat rv e3
  refine ⟨a, vs, rfl, hs, r1.vOf_flat e1, f2, ?_⟩
  rw [f1, r1.vOf e1]
  exact cv _ _ _ _ _ _ .refl h (.bl _) q⟩
theorem do_notInL (hK : ∀ i, (X i).K = K) : DOp X K (compareOp .NotIn) (wInL true) := ⟨rIn K true, fun i => by rw [← hK i]; exact op_notIn_seq, fun G as H M x y d e Qd Q h r1 r2 q cv => by
  obtain ⟨x', ys, zs, e1, e2, e3, q⟩ := q
  obtain ⟨a, vs, rfl, hs, rv⟩ := h.sq r2 e2
  obtain ⟨f1, f2⟩ := rps_flat rv e3
  refine ⟨a, vs, rfl, hs, r1.vOf_flat e1, f2, ?_⟩
  rw [f1, r1.vOf e1]
  exact cv _ _ _ _ _ _ .refl h (.bl _) q⟩
/-- a[i] of a list, a tuple, a text -/
def wIx : DR2 := fun d e M Q => (∃ xs i v, sqOf M d = some xs ∧ e = .int i ∧ atI xs i = some v ∧ Q v M) ∨ ∃ z i c, d = .str z ∧ e = .int i ∧ z.length ≤ sizeLine ∧ atI z.cps.toList i = some c ∧ Q (.str ⟨#[c]⟩) M
theorem atI_rps {G : Hp} {as : List Addr} {vs : List V} {ds : List D} {i : Int} {d : D} (r : Rps K G as vs ds) (e : atI ds i = some d) : ∃ v, atI vs i = some v ∧ Rp K G as v d := by
  unfold atI at e ⊢
  rw [r.length]
  cases q : ixN ds.length i with
  | none => rw [q] at e; cases e
  | some j =>
    rw [q] at e
    exact r.get e
theorem ro_ix : Ro2 K (rIx K) wIx := by
  intro G as H M x y d e Qd Q h r1 r2 q cv
  rcases q with ⟨xs, i, v, e1, rfl, e3, q⟩ | ⟨z, i, c, rfl, rfl, hz, e3, q⟩
  · obtain ⟨a, vs, rfl, hs, rv⟩ := h.sq r1 e1
    obtain ⟨v', e4, r4⟩ := atI_rps rv e3
    have q' := cv _ _ _ _ _ _ .refl h r4 q
    rcases hs with hs | hs
    · exact .inl ⟨a, vs, i, v', rfl, r2.int_inv, hs, e4, q'⟩
    · exact .inr (.inl ⟨a, vs, i, v', rfl, r2.int_inv, hs, e4, q'⟩)
  · exact .inr (.inr ⟨z, i, c, r1.str_inv, r2.int_inv, hz, e3, cv _ _ _ _ _ _ .refl h (.str _) q⟩)
end
end DL

namespace DL
open PySem PySem.Spec PyProof.Rows L2

/-! ### syntax with its reading, over a family of contexts -/
section
variable {ι : Type} (X : ι → Cx) (K : PySem.W.Frag) (W : WX)
def DE (e : Expr) (w : DT) : Prop := ∃ t, (∀ i, PE (X i) e t) ∧ Dn K W t w
def DTe (e : Expr) (w : DTT) : Prop := ∃ t, (∀ i, PT (X i) e t) ∧ DnT K W t w
def DPw (e : Expr) (w : DTT) : Prop := ∃ t, (∀ i, PW (X i) e t) ∧ DnT K W t w
def DA (es : List Expr) (w : DTA) : Prop := ∃ t, (∀ i, PA (X i) es t) ∧ DnA K W t w
def DG (e : Expr) (w : DGt) : Prop := ∃ t, (∀ i, PG (X i) e t) ∧ DnG K W t w
def DI (tg e : Expr) (w : DIt) : Prop := ∃ t, (∀ i, PI (X i) tg e t) ∧ DnI K W t w
def DS (s : Stmt) (w : SW) : Prop := ∃ t, (∀ i, PS (X i) s t) ∧ Sn K W t w
def DSs (s : List Stmt) (w : SW) : Prop := ∃ t, (∀ i, PSs (X i) s t) ∧ Sn K W t w
end
section
variable {ι : Type} {X : ι → Cx} {K : PySem.W.Frag} {W : WX} {a b c e : Expr} {es : List Expr} {pos : Pos}
theorem de_var (i : Nat) {x : Str} (hN : ∀ j, (X j).N[i]? = some x := by intro _; rfl) (hv : ∀ j, Vis (X j).env.scope x := by intro _; first | exact Or.inl rfl | exact Or.inr (Or.inl rfl) | exact Or.inr (Or.inr rfl)) (hd : (x == ("__debug__" : Str)) = false := by decide)
    (hcd : (x == ("__classdict__" : Str)) = false := by decide) : DE X K W (.Name x pos) (dVar i) := ⟨_, fun j => pe_var (hN j) (hv j) hd hcd, dn_var⟩
theorem de_int {i j} : DE X K W (.Constant (.int i) j pos) (dC (.int i)) := ⟨_, fun _ => pe_int, dn_c (.int _)⟩
theorem de_bl {i j} : DE X K W (.Constant (.bool i) j pos) (dC (.bl i)) := ⟨_, fun _ => pe_bl, dn_c (.bl _)⟩
theorem de_non {j} : DE X K W (.Constant .none j pos) (dC .non) := ⟨_, fun _ => pe_non, dn_c .non⟩
theorem de_str {i j} : DE X K W (.Constant (.str i) j pos) (dC (.str i)) := ⟨_, fun _ => pe_str, dn_c (.str _)⟩
/-- a module's constant -/
theorem de_glob {x : Str} {v : V} {d : D} {u : Value} (f : Flat v d) (hm : ∀ j, (X j).mg x = some u) (r : RelV v u) (hg : ∀ j, Gl (X j) x := by intro _; rfl) (hd : (x == ("__debug__" : Str)) = false := by decide) : DE X K W (.Name x pos) (dC d) :=
  ⟨_, fun j => pe_glob (hg j) (hm j) r hd, dn_c f⟩
/-- a built-in class as a value -/
theorem de_bty {x : Str} {n : String} (hm : ∀ j, (X j).mg x = none) (hv : bootBuiltins x = some (.type n)) (hg : ∀ j, Gl (X j) x := by intro _; rfl) (hn : x ≠ "__name__" := by decide) (hd : (x == ("__debug__" : Str)) = false := by decide) : DE X K W (.Name x pos) (dC (.ty n)) :=
  ⟨_, fun j => pe_bltn (v := .ty n) (hg j) (hm j) hv rfl hn hd, dn_c (.ty _)⟩
theorem de_op {op : Operator} {f : DR2} {wa wb : DT} (ho : DOp X K (binaryOp op) f) (ha : DE X K W a wa) (hb : DE X K W b wb) : DE X K W (.BinOp a op b pos) (dOp f wa wb) := by
  obtain ⟨r, o1, o2⟩ := ho
  obtain ⟨ta, a1, a2⟩ := ha
  obtain ⟨tb, b1, b2⟩ := hb
  exact ⟨_, fun i => pe_op (o1 i) (a1 i) (b1 i), dn_op o2 a2 b2⟩
theorem de_cmp {op : CmpOp} {f : DR2} {wa wb : DT} (ho : DOp X K (compareOp op) f) (ha : DE X K W a wa) (hb : DE X K W b wb) (hm : behindInMarks op b = false := by first | exact nobehind _ (by decide) (by decide) | rfl) : DE X K W (.Compare a [op] [b] pos) (dOp f wa wb) := by
  obtain ⟨r, o1, o2⟩ := ho
  obtain ⟨ta, a1, a2⟩ := ha
  obtain ⟨tb, b1, b2⟩ := hb
  exact ⟨_, fun i => pe_cmpR (o1 i) (a1 i) (b1 i) hm, dn_op o2 a2 b2⟩
theorem dt_cmp {op : CmpOp} {f : DR2} {wa wb : DT} (ho : DOp X K (compareOp op) f) (ha : DE X K W a wa) (hb : DE X K W b wb) (hm : behindInMarks op b = false := by first | exact nobehind _ (by decide) (by decide) | rfl) : DTe X K W (.Compare a [op] [b] pos) (dTest (dOp f wa wb)) := by
  obtain ⟨r, o1, o2⟩ := ho
  obtain ⟨ta, a1, a2⟩ := ha
  obtain ⟨tb, b1, b2⟩ := hb
  exact ⟨_, fun i => pt_cmpR (o1 i) (a1 i) (b1 i) hm, dn_test (dn_op o2 a2 b2)⟩
/-- any expression of truth as a test -/
theorem dt_val {wa : DT} (ha : DE X K W a wa) (he : ∀ j whole, isTrue a (X j).env whole = (do let v ← whole; standAt a.pos; holding [v] (truthy v)) := by intro _ _; rfl) : DTe X K W a (dTest wa) := by
  obtain ⟨ta, a1, a2⟩ := ha
  exact ⟨_, fun i => pt_val (a1 i) (he i), dn_testB a2⟩
/-- a < b < c -/
def dChain (f f' : DR2) (wa wb wc : DT) : DT := fun ρ M Q X => wa ρ M (fun d M1 => wb ρ M1 (fun e M2 => f d e M2 (fun z M3 => ∃ k, z = .bl k ∧ if k = true then wc ρ M3 (fun g M4 => f' e g M4 Q) X else Q (.bl false) M3)) X) X
theorem de_chain {op op' : CmpOp} {f f' : DR2} {wa wb wc : DT} (ho : DOp X K (compareOp op) f) (ho' : DOp X K (compareOp op') f') (ha : DE X K W a wa) (hb : DE X K W b wb) (hc : DE X K W c wc)
    (hm : lastMarks [op, op'] [b, c] = false := by with_unfolding_all rfl) : DE X K W (.Compare a [op, op'] [b, c] pos) (dChain f f' wa wb wc) := by
  obtain ⟨r, o1, o2⟩ := ho
  obtain ⟨r', o1', o2'⟩ := ho'
  obtain ⟨ta, a1, a2⟩ := ha
  obtain ⟨tb, b1, b2⟩ := hb
  obtain ⟨tc, c1, c2⟩ := hc
  refine ⟨_, fun i => pe_chain (o1 i) (o1' i) (a1 i) (b1 i) (c1 i) hm, ?_⟩
  intro G as σ H ρ M Qd Xd Q h e w cv ce
  refine a2 _ _ _ _ _ _ _ Xd _ h e w (fun G1 as1 H1 M1 x d g1 h1 r1 w1 => ?_) ce
  refine b2 _ _ _ _ _ _ _ Xd _ h1 (e.mono g1) w1 (fun G2 as2 H2 M2 y d2 g2 h2 r2 w2 => ?_) (ce.mono g1)
  refine o2 _ _ _ _ _ _ _ _ _ _ h2 (r1.mono g2) r2 w2 (fun G3 as3 H3 M3 z d3 g3 h3 r3 w3 => ?_)
  obtain ⟨k, rfl, w3⟩ := w3
  refine ⟨k, r3.bl_inv, ?_⟩
  have g13 := (g1.trans g2).trans g3
  cases k with
  | true =>
    rw [if_pos rfl] at w3 ⊢
    refine c2 _ _ _ _ _ _ _ Xd _ h3 (e.mono g13) w3 (fun G4 as4 H4 M4 u d4 g4 h4 r4 w4 => ?_) (ce.mono g13)
    exact o2' _ _ _ _ _ _ _ _ _ _ h4 ((r2.mono g3).mono g4) r4 w4 (cv.mono (g13.trans g4))
  | false =>
    rw [if_neg Bool.false_ne_true] at w3 ⊢
    exact cv _ _ _ _ _ _ g13 h3 (.bl _) w3
theorem dpw_and1 {wa : DTT} (ha : DTe X K W a wa) : DPw X K W (.BoolOp .And [a] pos) wa := by
  obtain ⟨ta, a1, a2⟩ := ha
  exact ⟨_, fun i => pw_and1 (a1 i), a2⟩
theorem dpw_or1 {wa : DTT} (ha : DTe X K W a wa) : DPw X K W (.BoolOp .Or [a] pos) wa := by
  obtain ⟨ta, a1, a2⟩ := ha
  exact ⟨_, fun i => pw_or1 (a1 i), a2⟩
theorem dpw_and {wa wb : DTT} (ha : DTe X K W a wa) (hb : DPw X K W (.BoolOp .And (b :: es) pos) wb) : DPw X K W (.BoolOp .And (a :: b :: es) pos) (dAnd wa wb) := by
  obtain ⟨ta, a1, a2⟩ := ha
  obtain ⟨tb, b1, b2⟩ := hb
  exact ⟨_, fun i => pw_and (a1 i) (b1 i), dn_and a2 b2⟩
theorem dpw_or {wa wb : DTT} (ha : DTe X K W a wa) (hb : DPw X K W (.BoolOp .Or (b :: es) pos) wb) : DPw X K W (.BoolOp .Or (a :: b :: es) pos) (dOr wa wb) := by
  obtain ⟨ta, a1, a2⟩ := ha
  obtain ⟨tb, b1, b2⟩ := hb
  exact ⟨_, fun i => pw_or (a1 i) (b1 i), dn_or a2 b2⟩
theorem dpw_pt {wa : DTT} (ha : DPw X K W e wa) : DTe X K W e wa := by
  obtain ⟨ta, a1, a2⟩ := ha
  exact ⟨_, fun i => (a1 i).pt, a2⟩
theorem dt_not {wa : DTT} (ha : DTe X K W a wa) : DTe X K W (.UnaryOp .Not a pos) (dNot wa) := by
  obtain ⟨ta, a1, a2⟩ := ha
  exact ⟨_, fun i => pt_not (a1 i), dn_not a2⟩
theorem de_not {wa : DT} (ha : DE X K W a wa) : DE X K W (.UnaryOp .Not a pos) (dNotV wa) := by
  obtain ⟨ta, a1, a2⟩ := ha
  exact ⟨_, fun i => pe_not (a1 i), dn_notV a2⟩
theorem de_one {op} {wa : DT} (ha : DE X K W a wa) : DE X K W (.BoolOp op [a] pos) wa := by
  obtain ⟨ta, a1, a2⟩ := ha
  exact ⟨_, fun i => pe_one (a1 i), a2⟩
theorem de_and {wa wb : DT} (ha : DE X K W a wa) (hb : DE X K W (.BoolOp .And (b :: es) pos) wb) : DE X K W (.BoolOp .And (a :: b :: es) pos) (dAndV wa wb) := by
  obtain ⟨ta, a1, a2⟩ := ha
  obtain ⟨tb, b1, b2⟩ := hb
  exact ⟨_, fun i => pe_and (a1 i) (b1 i), dn_andV a2 b2⟩
theorem de_or {wa wb : DT} (ha : DE X K W a wa) (hb : DE X K W (.BoolOp .Or (b :: es) pos) wb) : DE X K W (.BoolOp .Or (a :: b :: es) pos) (dOrV wa wb) := by
  obtain ⟨ta, a1, a2⟩ := ha
  obtain ⟨tb, b1, b2⟩ := hb
  exact ⟨_, fun i => pe_or (a1 i) (b1 i), dn_orV a2 b2⟩
theorem de_ifE {wt : DTT} {wa wb : DT} (ht : DTe X K W c wt) (ha : DE X K W a wa) (hb : DE X K W b wb) : DE X K W (.IfExp c a b pos) (dIfE wt wa wb) := by
  obtain ⟨tt, t1, t2⟩ := ht
  obtain ⟨ta, a1, a2⟩ := ha
  obtain ⟨tb, b1, b2⟩ := hb
  exact ⟨_, fun i => pe_ifExp (t1 i) (a1 i) (b1 i), dn_ifE t2 a2 b2⟩
theorem da_nil : DA X K W [] dNil := ⟨_, fun _ => pa_nil, dn_nil⟩
theorem da_cons {wa : DT} {wr : DTA} (ha : DE X K W e wa) (hr : DA X K W es wr) (hs : ∀ i, starEach (e :: es) (X i).env = (false, eval e (X i).env) :: starEach es (X i).env := by intro _; rfl) : DA X K W (e :: es) (dCons wa wr) := by
  obtain ⟨ta, a1, a2⟩ := ha
  obtain ⟨tb, b1, b2⟩ := hr
  exact ⟨_, fun i => pa_cons (a1 i) (b1 i) (hs i), dn_cons a2 b2⟩
theorem de_tup {x1} {wa : DTA} (ha : DA X K W es wa) : DE X K W (.Tuple es x1 pos) (dTup wa) := by
  obtain ⟨ta, a1, a2⟩ := ha
  exact ⟨_, fun i => pe_tup (a1 i), dn_tup a2⟩
theorem de_lst {wa : DTA} (ha : DA X K W es wa) : DE X K W (.List es pos) (dLst wa) := by
  obtain ⟨ta, a1, a2⟩ := ha
  exact ⟨_, fun i => pe_lst (a1 i), dn_lst a2⟩
theorem de_lstM {wa : DTA} (ha : DA X K W es wa) : DE X K W (.List es pos) (dLstM wa) := by
  obtain ⟨ta, a1, a2⟩ := ha
  exact ⟨_, fun i => pe_lst (a1 i), dn_lstM a2⟩
theorem de_newK : DE X K W (.Dict [] [] pos) dNewK := ⟨_, fun _ => pe_dnewK, dn_newK⟩
/-- a[i] -/
theorem de_ix {wa wb : DT} (hK : ∀ i, (X i).K = K) (ha : DE X K W a wa) (hb : DE X K W b wb) (hs : PlainIx b := by exact fun _ _ => rfl) : DE X K W (.Subscript a b pos) (dOp wIx wa wb) := by
  obtain ⟨ta, a1, a2⟩ := ha
  obtain ⟨tb, b1, b2⟩ := hb
  exact ⟨tOp (rIx K) ta tb, fun i => by rw [← hK i]; exact pe_ix ix_seq (a1 i) (b1 i) hs, dn_op ro_ix a2 b2⟩
/-- d[k], there -/
def wDGet : DR2 := fun d e M Q => ∃ kvs k v, dkOf M d = some kvs ∧ keyOf e = some k ∧ valD kvs k = some v ∧ Q v M
theorem de_dget {wa wb : DT} (hu : ∀ i, (X i).A.units + 1 < cLine) (ha : DE X K W a wa) (hb : DE X K W b wb) (hs : NoSl b := by exact fun _ _ => rfl) : DE X K W (.Subscript a b pos) (dOp wDGet wa wb) := by
  obtain ⟨ta, a1, a2⟩ := ha
  obtain ⟨tb, b1, b2⟩ := hb
  refine ⟨_, fun i => pe_dget (hu i) (a1 i) (b1 i) hs, ?_⟩
  intro G as σ H ρ M Qd Xd Q h e w cv ce
  refine a2 _ _ _ _ _ _ _ Xd _ h e w (fun G1 as1 H1 M1 x d g1 h1 r1 w1 => ?_) ce
  refine b2 _ _ _ _ _ _ _ Xd _ h1 (e.mono g1) w1 (fun G2 as2 H2 M2 y d2 g2 h2 r2 w2 => ?_) (ce.mono g1)
  obtain ⟨kvs, k, v, e1, e2, e3, q⟩ := w2
  obtain ⟨a', ks, rfl, hd, kv⟩ := h2.dk (r1.mono g2) e1
  obtain ⟨x', hx, rx⟩ := (kvr_val (k := k) kv).2 v e3
  exact ⟨a', x', rfl, .inl ⟨ks, k, hd, r2.keyOf e2, hx.symm⟩, cv _ _ _ _ _ _ (g1.trans g2) h2 rx q⟩
/-- k in d, k not in d -/
def wDIn (neg : Bool) : DR2 := fun e d M Q => ∃ kvs k, dkOf M d = some kvs ∧ keyOf e = some k ∧ Q (.bl (if neg then !(valD kvs k).isSome else (valD kvs k).isSome)) M
theorem de_din {wa wb : DT} (hu : ∀ i, (X i).A.units + 1 < cLine) (ha : DE X K W a wa) (hb : DE X K W b wb) (hm : behindInMarks .In b = false := by rfl) : DE X K W (.Compare a [.In] [b] pos) (dOp (wDIn false) wa wb) := by
  obtain ⟨ta, a1, a2⟩ := ha
  obtain ⟨tb, b1, b2⟩ := hb
  refine ⟨_, fun i => pe_cmp (pc_din (hu i) (a1 i) (b1 i)) hm, ?_⟩
  intro G as σ H ρ M Qd Xd Q h e w cv ce
  refine a2 _ _ _ _ _ _ _ Xd _ h e w (fun G1 as1 H1 M1 x d g1 h1 r1 w1 => ?_) ce
  refine b2 _ _ _ _ _ _ _ Xd _ h1 (e.mono g1) w1 (fun G2 as2 H2 M2 y d2 g2 h2 r2 w2 => ?_) (ce.mono g1)
  obtain ⟨kvs, k, e1, e2, q⟩ := w2
  obtain ⟨a', ks, rfl, hd, kv⟩ := h2.dk r2 e1
  refine ⟨a', _, rfl, .inl ⟨ks, k, hd, (r1.mono g2).keyOf e2, rfl⟩, ?_⟩
  rw [kvr_isSome kv]
  exact cv _ _ _ _ _ _ (g1.trans g2) h2 (.bl _) q
theorem de_dnotin {wa wb : DT} (hu : ∀ i, (X i).A.units + 1 < cLine) (ha : DE X K W a wa) (hb : DE X K W b wb) (hm : behindInMarks .NotIn b = false := by rfl) : DE X K W (.Compare a [.NotIn] [b] pos) (dOp (wDIn true) wa wb) := by
  obtain ⟨ta, a1, a2⟩ := ha
  obtain ⟨tb, b1, b2⟩ := hb
  refine ⟨_, fun i => pe_cmp (pc_dnotin (hu i) (a1 i) (b1 i)) hm, ?_⟩
  intro G as σ H ρ M Qd Xd Q h e w cv ce
  refine a2 _ _ _ _ _ _ _ Xd _ h e w (fun G1 as1 H1 M1 x d g1 h1 r1 w1 => ?_) ce
  refine b2 _ _ _ _ _ _ _ Xd _ h1 (e.mono g1) w1 (fun G2 as2 H2 M2 y d2 g2 h2 r2 w2 => ?_) (ce.mono g1)
  obtain ⟨kvs, k, e1, e2, q⟩ := w2
  obtain ⟨a', ks, rfl, hd, kv⟩ := h2.dk r2 e1
  refine ⟨a', _, rfl, .inl ⟨ks, k, hd, (r1.mono g2).keyOf e2, rfl⟩, ?_⟩
  rw [kvr_isSome kv]
  exact cv _ _ _ _ _ _ (g1.trans g2) h2 (.bl _) q

/-! ### attributes -/
def wFld (K : PySem.W.Frag) (f : Str) (d : D) (M : Mm) (Q : DK) : Prop := ∃ k C fs v, d = .ptr k ∧ M[k]? = some (.ins C fs) ∧ Cls K C ∧ NoAttr K C f ∧ fs.lookup f = some v ∧ Q v M
def dFld (K : PySem.W.Frag) (wa : DT) (f : Str) : DT := fun ρ M Q X => wa ρ M (fun d M1 => wFld K f d M1 Q) X
theorem de_fld {f : Str} {wa : DT} (hK : ∀ i, (X i).K = K) (ha : DE X K W e wa) (hb : ∀ i, attributeBase e f (X i).env (eval e (X i).env) = eval e (X i).env := by intro _; rfl) : DE X K W (.Attribute e f pos) (dFld K wa f) := by
  obtain ⟨ta, a1, a2⟩ := ha
  refine ⟨tFld K ta f, fun i => by rw [← hK i]; exact pe_fld (a1 i) (hb i), ?_⟩
  intro G as σ H ρ M Qd Xd Q h e w cv ce
  refine a2 _ _ _ _ _ _ _ Xd _ h e w (fun G1 as1 H1 M1 x d g1 h1 r1 w1 => ?_) ce
  obtain ⟨k, C, fs, v, rfl, e1, c1, n1, l1, q⟩ := w1
  obtain ⟨a, rfl, ha, dx, gs, e2, kv⟩ := h1.ptr r1 e1
  obtain ⟨v', l2, r2⟩ := (kvr_lookup (f := f) kv).2 v l1
  exact ⟨a, C, dx, gs, v', rfl, e2, c1, n1, l2, cv _ _ _ _ _ _ g1 h1 r2 q⟩
/-- o.f = e -/
def dSetF (K : PySem.W.Frag) (wo we : DT) (f : Str) : SW := fun De ρ M => we ρ M (fun d M1 => wo ρ M1 (fun o M2 => ∃ k C fs, o = .ptr k ∧ M2[k]? = some (.ins C fs) ∧ Cls K C ∧ NoAttr K C f ∧ fs.length < 1000 ∧ De.nx ρ (M2.set k (.ins C (putFD f d fs)))) (fun C fs M2 => De.ex C fs ρ M2)) (fun C fs M1 => De.ex C fs ρ M1)
theorem ds_fld {o : Expr} {f : Str} {pos' : Pos} {wo we : DT} (hK : ∀ i, (X i).K = K) (ho : DE X K W o wo) (he : DE X K W e we) (hs : ∀ i, swapsWith e (some (.Attribute o f pos')) pos.line (X i).env = pure false := by intro _; rfl) :
    DS X K W (.Assign [.Attribute o f pos'] e pos) (dSetF K wo we f) := by
  obtain ⟨to, o1, o2⟩ := ho
  obtain ⟨te, e1, e2⟩ := he
  refine ⟨sFld K to te f, fun i => by rw [← hK i]; exact ps_fld (o1 i) (e1 i) (hs i), ?_⟩
  intro G as σ H ρ M De Dv h e w c
  refine e2 _ _ _ _ _ _ _ _ _ h e w (fun G1 as1 H1 M1 x d g1 h1 r1 w1 => ?_) (c.ce e)
  refine o2 _ _ _ _ _ _ _ _ _ h1 (e.mono g1) w1 (fun G2 as2 H2 M2 y d2 g2 h2 r2 w2 => ?_) ((c.ce e).mono g1)
  obtain ⟨k, C, fs, rfl, e3, c3, n3, l3, q⟩ := w2
  obtain ⟨a, rfl, ha, dx, gs, e4, kv⟩ := h2.ptr r2 e3
  refine ⟨a, C, dx, gs, rfl, e4, c3, n3, by rw [kvr_len kv]; exact l3, ?_⟩
  have h3 := h2.put (m := .ins C (putFD f d fs)) (o := .ins C dx (putF f x gs)) ha ⟨dx, _, upd_same, kvr_putF (r1.mono g2) kv⟩
  exact c.nx _ _ _ _ _ _ (g1.trans g2) h3 (e.mono (g1.trans g2)) q
/-- an operator in place, by values -/
def DIn (X : ι → Cx) (K : PySem.W.Frag) (op : Operator) (w : DR2) : Prop := ∃ r, (∀ i, InOp (X i) op r) ∧ Ro2 K r w
theorem di_add : DIn X K .Add (wI (fun _ _ => True) fun i j => .int (i + j)) := ⟨_, fun _ => in_add, fun G as H M x y d e Qd Q h r1 r2 q cv => by
  obtain ⟨i, j, rfl, rfl, _, q⟩ := q
  exact ⟨i, j, r1.int_inv, r2.int_inv, cv _ _ _ _ _ _ .refl h (.int _) q⟩⟩
theorem di_sub : DIn X K .Sub (wI (fun _ _ => True) fun i j => .int (i - j)) := ⟨_, fun _ => in_sub, fun G as H M x y d e Qd Q h r1 r2 q cv => by
  obtain ⟨i, j, rfl, rfl, _, q⟩ := q
  exact ⟨i, j, r1.int_inv, r2.int_inv, cv _ _ _ _ _ _ .refl h (.int _) q⟩⟩
/-- o.f op= e -/
def dAugF (K : PySem.W.Frag) (wo we : DT) (f : Str) (wr : DR2) : SW := fun De ρ M => wo ρ M (fun o M1 => ∃ k C fs v, o = .ptr k ∧ M1[k]? = some (.ins C fs) ∧ Cls K C ∧ NoAttr K C f ∧ fs.lookup f = some v ∧
  we ρ M1 (fun d M2 => wr v d M2 (fun z M3 => ∃ fs', M3[k]? = some (.ins C fs') ∧ fs'.length < 1000 ∧ De.nx ρ (M3.set k (.ins C (putFD f z fs'))))) (fun C fs M2 => De.ex C fs ρ M2)) (fun C fs M1 => De.ex C fs ρ M1)
theorem ds_augF {o : Expr} {f : Str} {tpos : Pos} {op : Operator} {wo we : DT} {wr : DR2} (hK : ∀ i, (X i).K = K) (ho : DE X K W o wo) (he : DE X K W e we) (hop : DIn X K op wr) : DS X K W (.AugAssign (.Attribute o f tpos) op e pos) (dAugF K wo we f wr) := by
  obtain ⟨to, o1, o2⟩ := ho
  obtain ⟨te, e1, e2⟩ := he
  obtain ⟨r, p1, p2⟩ := hop
  refine ⟨sFldAug K to te r f, fun i => by rw [← hK i]; exact ps_fldaug (o1 i) (e1 i) (p1 i), ?_⟩
  intro G as σ H ρ M De Dv h e w c
  refine o2 _ _ _ _ _ _ _ _ _ h e w (fun G1 as1 H1 M1 x d g1 h1 r1 w1 => ?_) (c.ce e)
  obtain ⟨k, C, fs, v, rfl, e3, c3, n3, l3, w1⟩ := w1
  obtain ⟨a, rfl, ha, dx, gs, e4, kv⟩ := h1.ptr r1 e3
  obtain ⟨v', l2, r2⟩ := (kvr_lookup (f := f) kv).2 v l3
  refine ⟨a, C, dx, gs, v', rfl, e4, c3, n3, l2, ?_⟩
  refine e2 _ _ _ _ _ _ _ _ _ h1 (e.mono g1) w1 (fun G2 as2 H2 M2 y d2 g2 h2 ry w2 => ?_) ((c.ce e).mono g1)
  refine p2 _ _ _ _ _ _ _ _ _ _ h2 (r2.mono g2) ry w2 (fun G3 as3 H3 M3 z dz g3 h3 rz w3 => ?_)
  obtain ⟨fs', e5, l5, q⟩ := w3
  have g13 := g2.trans g3
  obtain ⟨a', ea, ha', dx', gs', e6, kv'⟩ := h3.ptr ((r1.mono g2).mono g3) e5
  cases ea
  refine ⟨dx', gs', e6, by rw [kvr_len kv']; exact l5, ?_⟩
  have h4 := h3.put (m := .ins C (putFD f dz fs')) (o := .ins C dx' (putF f z gs')) ha' ⟨dx', _, upd_same, kvr_putF rz kv'⟩
  exact c.nx _ _ _ _ _ _ (g1.trans g13) h4 (e.mono (g1.trans g13)) q

/-! ### blocks -/
variable {s : Stmt} {ss : List Stmt}
theorem dss_nil : DSs X K W [] dNext := ⟨_, fun _ => pss_nil, sn_next⟩
theorem dss_cons {w1 w2 : SW} (h1 : DS X K W s w1) (h2 : DSs X K W ss w2) : DSs X K W (s :: ss) (dSeq w1 w2) := by
  obtain ⟨t, a1, a2⟩ := h1
  obtain ⟨u, b1, b2⟩ := h2
  exact ⟨_, fun i => pss_cons (a1 i) (b1 i), sn_seq a2 b2⟩
theorem dss_one {w1 : SW} (h1 : DS X K W s w1) : DSs X K W [s] w1 := by
  obtain ⟨t, a1, a2⟩ := h1
  exact ⟨_, fun i => pss_one (a1 i), a2⟩
theorem ds_up {w1 : SW} (h1 : DS X K W s w1) : DS X K W s (dUp w1) := by
  obtain ⟨t, a1, a2⟩ := h1
  exact ⟨_, a1, sn_up a2⟩
theorem ds_pass : DS X K W (.Pass pos) dNext := ⟨_, fun _ => ps_pass, sn_next⟩
theorem ds_break : DS X K W (.Break pos) dBreak := ⟨_, fun _ => ps_break, sn_break⟩
theorem ds_cont : DS X K W (.Continue pos) dCont := ⟨_, fun _ => ps_continue, sn_cont⟩
theorem ds_expr {wa : DT} (ha : DE X K W e wa) (hs : ∀ i, swapsWith e none pos.line (X i).env = pure false := by intro _; rfl) : DS X K W (.Expr e pos) (dDrop wa) := by
  obtain ⟨ta, a1, a2⟩ := ha
  exact ⟨_, fun i => ps_expr (a1 i) (hs i), sn_drop a2⟩
theorem ds_ret {wa : DT} (ha : DE X K W e wa) : DS X K W (.Return (some e) pos) (dRet wa) := by
  obtain ⟨ta, a1, a2⟩ := ha
  exact ⟨_, fun i => ps_ret (a1 i), sn_ret a2⟩
theorem ds_retN : DS X K W (.Return none pos) dRetN := ⟨_, fun _ => ps_retN, sn_retN⟩
theorem ds_if {wt : DTT} {w1 w2 : SW} {s1 s2 : List Stmt} (ht : DTe X K W c wt) (h1 : DSs X K W s1 w1) (h2 : DSs X K W s2 w2) : DS X K W (.If c s1 s2 pos) (dIf wt w1 w2) := by
  obtain ⟨tt, t1, t2⟩ := ht
  obtain ⟨t, a1, a2⟩ := h1
  obtain ⟨u, b1, b2⟩ := h2
  exact ⟨_, fun i => ps_if (t1 i) (a1 i) (b1 i), sn_if t2 a2 b2⟩
theorem ds_while {wt : DTT} {wb : SW} {body : List Stmt} (hp : ∀ i, PassesOwn (model (X i).prog (X i).w) (X i).A (X i).env (X i).xe) (ht : DTe X K W c wt) (hb : DSs X K W body wb) : DS X K W (.While c body [] pos) (dWhile wt wb) := by
  obtain ⟨tt, t1, t2⟩ := ht
  obtain ⟨t, a1, a2⟩ := hb
  exact ⟨_, fun i => ps_while (hp i) (t1 i) (a1 i), sn_while t2 a2⟩
/-- x = e -/
theorem ds_set (i : Nat) {x : Str} {pos' : Pos} {we : DT} (he : DE X K W e we) (hN : ∀ j, (X j).N.Nodup) (hi : ∀ j, (X j).N[i]? = some x := by intro _; rfl) (hx : ∀ j, Loc (X j).env.scope x := by intro _; first | exact Or.inl rfl | exact Or.inr rfl)
    (hs : ∀ j, swapsWith e (some (.Name x pos')) pos.line (X j).env = pure false := by intro _; rfl) (hf : ∀ j, (X j).fn x = true ∨ (X j).env.scope.names.lookup x = some .local := by intro _; first | exact .inl rfl | exact .inr rfl) :
    DS X K W (.Assign [.Name x pos'] e pos) (dAsg we (dgName i)) := by
  obtain ⟨te, e1, e2⟩ := he
  exact ⟨_, fun j => ps_set (hN j) (hi j) (hx j) (e1 j) (hs j) (hf j), sn_asg e2 dg_name⟩
theorem dg_var (i : Nat) {x : Str} (hN : ∀ j, (X j).N.Nodup) (hi : ∀ j, (X j).N[i]? = some x := by intro _; rfl) (hx : ∀ j, Loc (X j).env.scope x := by intro _; first | exact Or.inl rfl | exact Or.inr rfl)
    (hf : ∀ j, (X j).fn x = true ∨ (X j).env.scope.names.lookup x = some .local := by intro _; first | exact .inl rfl | exact .inr rfl) : DG X K W (.Name x pos) (dgName i) := ⟨_, fun j => pg_name (hN j) (hi j) (hx j) (hf j), dg_name⟩
/-- (a, b, ..) = -/
abbrev DGts := List D → Ev → Mm → NK → XD → Prop
def dgNil : DGts := fun ds ρ M P _ => ds = [] ∧ P ρ M
def dgCons (w : DGt) (u : DGts) : DGts := fun ds ρ M P Xd => ∃ d r, ds = d :: r ∧ w d ρ M (fun ρ' M' => u r ρ' M' P Xd) Xd
def DnGs (K : PySem.W.Frag) (W : WX) (g : TGs) (w : DGts) : Prop := ∀ G as σ H ρ M vs ds P Xd R, Hs K G as H M → Evs K G as σ ρ → Rps K G as vs ds → w ds ρ M P Xd → CN K G as P R → CXN K G as (fun C fs _ M => Xd C fs M) W → g vs σ H R
end
end DL

namespace DL
open PySem PySem.Spec PyProof.Rows L2

/-! ### built-ins by values -/
def Rc (K : PySem.W.Frag) (r : List V → Hp → VK → Prop) (w : List D → Mm → DK → Prop) : Prop := ∀ G as H M vs ds Qd Q, Hs K G as H M → Rps K G as vs ds → w ds M Qd → CV K G as Qd Q → r vs H Q
def DCall {ι : Type} (X : ι → Cx) (K : PySem.W.Frag) (f : Value) (w : List D → Mm → DK → Prop) : Prop := ∃ r, (∀ i, CallR (X i) f r) ∧ Rc K r w
def dCall (w : List D → Mm → DK → Prop) (wa : DTA) : DT := fun ρ M Q X => wa ρ M (fun ds M1 => w ds M1 Q) X
theorem rps1 {K : PySem.W.Frag} {G : Hp} {as : List Addr} {vs : List V} {d : D} (r : Rps K G as vs [d]) : ∃ v, vs = [v] ∧ Rp K G as v d := by
  cases r with
  | cons h r => cases r; exact ⟨_, rfl, h⟩
theorem rps2 {K : PySem.W.Frag} {G : Hp} {as : List Addr} {vs : List V} {d e : D} (r : Rps K G as vs [d, e]) : ∃ v u, vs = [v, u] ∧ Rp K G as v d ∧ Rp K G as u e := by
  cases r with
  | cons h r =>
    obtain ⟨u, rfl, q⟩ := rps1 r
    exact ⟨_, _, rfl, h, q⟩
section
variable {ι : Type} {X : ι → Cx} {K : PySem.W.Frag} {W : WX} {a b c e : Expr} {es : List Expr} {pos p : Pos}
theorem dn_call {r : List V → Hp → VK → Prop} {w : List D → Mm → DK → Prop} {ta : TA} {wa : DTA} (hr : Rc K r w) (ha : DnA K W ta wa) : Dn K W (tCB r ta) (dCall w wa) := by
  intro G as σ H ρ M Qd Xd Q h e w cv ce
  refine ha _ _ _ _ _ _ _ Xd _ h e w (fun G1 as1 H1 M1 vs ds g1 h1 r1 w1 => ?_) ce
  exact hr _ _ _ _ _ _ _ _ h1 r1 w1 (cv.mono g1)
theorem de_callB {x : Str} {id : String} {w : List D → Mm → DK → Prop} {wa : DTA} (hc : DCall X K (.builtin id) w) (hm : ∀ i, (X i).mg x = none) (hv : bootBuiltins x = some (.builtin id)) (ha : DA X K W (e :: es) wa) (hg : ∀ i, Gl (X i) x := by intro _; rfl)
    (hn : x ≠ "__name__" := by decide) (hdb : (x == ("__debug__" : Str)) = false := by decide) (he : ∀ i, starEach (e :: es) (X i).env = (false, eval e (X i).env) :: starEach es (X i).env := by intro _; rfl)
    (hpl : ∀ i, (backTo pos (starEach es (X i).env)).any (·.1) = false := by intro _; rfl) : DE X K W (.Call (.Name x p) (e :: es) [] pos) (dCall w wa) := by
  obtain ⟨r, c1, c2⟩ := hc
  obtain ⟨ta, a1, a2⟩ := ha
  exact ⟨_, fun i => pe_callB (c1 i) (hg i) (hm i) hv (a1 i) hn hdb (he i) (hpl i), dn_call c2 a2⟩
theorem de_callT {x : Str} {T : String} {w : List D → Mm → DK → Prop} {wa : DTA} (hc : DCall X K (.type T) w) (hm : ∀ i, (X i).mg x = none) (hv : bootBuiltins x = some (.type T)) (ha : DA X K W (e :: es) wa) (hg : ∀ i, Gl (X i) x := by intro _; rfl)
    (hn : x ≠ "__name__" := by decide) (hdb : (x == ("__debug__" : Str)) = false := by decide) (he : ∀ i, starEach (e :: es) (X i).env = (false, eval e (X i).env) :: starEach es (X i).env := by intro _; rfl)
    (hpl : ∀ i, (backTo pos (starEach es (X i).env)).any (·.1) = false := by intro _; rfl) : DE X K W (.Call (.Name x p) (e :: es) [] pos) (dCall w wa) := by
  obtain ⟨r, c1, c2⟩ := hc
  obtain ⟨ta, a1, a2⟩ := ha
  exact ⟨_, fun i => pe_callTy (c1 i) (hg i) (hm i) hv (a1 i) hn hdb (he i) (hpl i), dn_call c2 a2⟩
/-- int(n), int(flag) -/
def wIntC : List D → Mm → DK → Prop := fun ds M Q => (∃ i, ds = [.int i] ∧ Q (.int i) M) ∨ ∃ b, ds = [.bl b] ∧ Q (.int (if b then 1 else 0)) M
theorem dc_int : DCall X K (.type "int") wIntC := ⟨_, fun _ => call_int1, fun G as H M vs ds Qd Q h r q cv => by
  rcases q with ⟨i, rfl, q⟩ | ⟨i, rfl, q⟩
  · obtain ⟨v, rfl, rv⟩ := rps1 r
    exact .inl ⟨i, by rw [rv.int_inv], cv _ _ _ _ _ _ .refl h (.int _) q⟩
  · obtain ⟨v, rfl, rv⟩ := rps1 r
    exact .inr ⟨i, by rw [rv.bl_inv], cv _ _ _ _ _ _ .refl h (.int _) q⟩⟩
/-- len(x) of a list, a tuple, a text -/
def wLen : List D → Mm → DK → Prop := fun ds M Q => (∃ d xs, ds = [d] ∧ sqOf M d = some xs ∧ Q (.int xs.length) M) ∨ ∃ z, ds = [.str z] ∧ z.length ≤ sizeLine ∧ Q (.int z.length) M
theorem dc_len (hK : ∀ i, (X i).K = K) : DCall X K (.builtin "len") wLen := ⟨_, fun i => (show CallR (X i) (.builtin "len") (fun xs H Q => ∃ p ys, xs = [.ref p] ∧ (SqL K H p ys ∨ SqT K H p ys) ∧ Q (.int ys.length) H) by rw [← hK i]; exact call_len_seq).or call_len_str, fun G as H M vs ds Qd Q h r q cv => by
  rcases q with ⟨d, xs, rfl, e1, q⟩ | ⟨z, rfl, hz, q⟩
  · obtain ⟨v, rfl, rv⟩ := rps1 r
    obtain ⟨a, ws, rfl, hs, rw'⟩ := h.sq rv e1
    refine .inl ⟨a, ws, rfl, hs, ?_⟩
    rw [rw'.length]
    exact cv _ _ _ _ _ _ .refl h (.int _) q
  · obtain ⟨v, rfl, rv⟩ := rps1 r
    exact .inr ⟨z, by rw [rv.str_inv], hz, cv _ _ _ _ _ _ .refl h (.int _) q⟩⟩
/-- list(x) of a list, a tuple, the script -/
def wListC : List D → Mm → DK → Prop := fun ds M Q => (∃ d xs, ds = [d] ∧ sqOf M d = some xs ∧ Q (.lst xs) M) ∨ ∃ ns, ds = [.scr ns] ∧ Q (.lst (ns.map .int)) M
theorem rps_ints {G : Hp} {as : List Addr} : ∀ ns : List Int, Rps K G as (ns.map V.int) (ns.map D.int)
  | [] => .nil
  | n :: ns => .cons (.int n) (rps_ints ns)
theorem dc_list (hK : ∀ i, (X i).K = K) : DCall X K (.type "list") wListC := ⟨_, fun i => (show CallR (X i) (.type "list") (fun xs H Q => ∃ p ys, xs = [.ref p] ∧ (SqL K H p ys ∨ SqT K H p ys) ∧ ∀ l, H l = none → Q (.ref l) (upd H l (.lst ys))) by rw [← hK i]; exact call_list_of), fun G as H M vs ds Qd Q h r q cv => by
  rcases q with ⟨d, xs, rfl, e1, q⟩ | ⟨ns, rfl, q⟩
  · obtain ⟨v, rfl, rv⟩ := rps1 r
    obtain ⟨a, ws, rfl, hs, rw'⟩ := h.sq rv e1
    refine ⟨a, ws, rfl, hs, fun l nl => ?_⟩
    obtain ⟨g2, h2⟩ := h.const (o := .lst ws) nl
    exact cv _ _ _ _ _ _ g2 h2 (.lst upd_same (rw'.mono g2)) q
  · obtain ⟨v, rfl, rv⟩ := rps1 r
    obtain ⟨a, rfl, hs⟩ := rv.scr_inv
    refine ⟨a, _, rfl, .inl (h.sub.seq hs), fun l nl => ?_⟩
    obtain ⟨g2, h2⟩ := h.const (o := .lst (ns.map V.int)) nl
    exact cv _ _ _ _ _ _ g2 h2 (.lst upd_same (rps_ints ns)) q⟩
/-- list(d) of a dict: its keys -/
def wListD : List D → Mm → DK → Prop := fun ds M Q => ∃ k kvs, ds = [.ptr k] ∧ M[k]? = some (.dK kvs) ∧ Q (.lst (kvs.map fun kv => kD kv.1)) M
theorem rps_keys {G : Hp} {as : List Addr} : ∀ {ks : List (Key × V)} {kvs : List (Key × D)}, Kvr K G as ks kvs → Rps K G as (ks.map fun kv => kV kv.1) (kvs.map fun kv => kD kv.1)
  | _, _, .nil => .nil
  | (k, x) :: ks, (k', y) :: kvs, .cons h r => by
    have hk : k = k' := h.1
    subst hk
    refine .cons ?_ (rps_keys r)
    cases k with
    | inl i => exact .int i
    | inr z => exact .str z
theorem dc_listD (hc : ∀ i, (X i).calm = true) : DCall X K (.type "list") wListD := ⟨_, fun i => call_list_dK (hc i), fun G as H M vs ds Qd Q h r q cv => by
  obtain ⟨k, kvs, rfl, e1, q⟩ := q
  obtain ⟨v, rfl, rv⟩ := rps1 r
  obtain ⟨a, rfl, ha, ks, hk, kv⟩ := h.ptr rv e1
  refine ⟨a, ks, rfl, hk, fun l nl => ?_⟩
  obtain ⟨g2, h2⟩ := h.const (o := .lst (ks.map fun kv => kV kv.1)) nl
  exact cv _ _ _ _ _ _ g2 h2 (.lst upd_same (rps_keys (kv.mono g2))) q⟩
/-- sorted(xs), ints -/
def wSortI : List D → Mm → DK → Prop := fun ds M Q => ∃ (d : D) (ns : List Int), ds = [d] ∧ lsOf M d = some (ns.map D.int) ∧ ∀ ns' : List Int, ns'.Perm ns → ns'.Pairwise (· ≤ ·) → Q (.lst (ns'.map D.int)) M
theorem rps_ints_inv {G : Hp} {as : List Addr} : ∀ {ns : List Int} {vs : List V}, Rps K G as vs (ns.map D.int) → vs = ns.map V.int
  | [], _, r => by cases r; rfl
  | n :: ns, _, r => by
    cases r with
    | cons h r =>
      rw [rps_ints_inv r, h.int_inv]
      rfl
theorem dc_sortI (hK : ∀ i, (X i).K = K) : DCall X K (.builtin "sorted") wSortI := ⟨rSortedI K, fun i => by rw [← hK i]; exact cr_sortedI, fun G as H M vs ds Qd Q h r q cv => by
  obtain ⟨d, ns, rfl, e1, q⟩ := q
  obtain ⟨v, rfl, rv⟩ := rps1 r
  obtain ⟨a, ws, rfl, hs, rw'⟩ := h.ls rv e1
  have e := rps_ints_inv rw'
  subst e
  refine ⟨a, ns, rfl, .inl (.inl hs), fun ns' l hp hw nl => ?_⟩
  obtain ⟨g2, h2⟩ := h.const (o := .lst (ns'.map V.int)) nl
  exact cv _ _ _ _ _ _ g2 h2 (.lst upd_same (rps_ints ns')) (q ns' hp hw)⟩
/-- all(xs) of truth values -/
def wAll : List D → Mm → DK → Prop := fun ds M Q => ∃ (d : D) (bs : List Bool), ds = [d] ∧ lsOf M d = some (bs.map D.bl) ∧ Q (.bl (bs.all id)) M
def wAny : List D → Mm → DK → Prop := fun ds M Q => ∃ (d : D) (bs : List Bool), ds = [d] ∧ lsOf M d = some (bs.map D.bl) ∧ Q (.bl (bs.any id)) M
theorem rps_bls_inv {G : Hp} {as : List Addr} : ∀ {ns : List Bool} {vs : List V}, Rps K G as vs (ns.map D.bl) → vs = ns.map V.bl
  | [], _, r => by cases r; rfl
  | n :: ns, _, r => by
    cases r with
    | cons h r =>
      rw [rps_bls_inv r, h.bl_inv]
      rfl
theorem dc_all (hK : ∀ i, (X i).K = K) (hc : ∀ i, (X i).calm = true) : DCall X K (.builtin "all") wAll := ⟨rAll K, fun i => by rw [← hK i]; exact cr_all (hc i), fun G as H M vs ds Qd Q h r q cv => by
  obtain ⟨d, bs, rfl, e1, q⟩ := q
  obtain ⟨v, rfl, rv⟩ := rps1 r
  obtain ⟨a, ws, rfl, hs, rw'⟩ := h.ls rv e1
  have e := rps_bls_inv rw'
  subst e
  exact ⟨a, bs, rfl, .inl (.inl hs), cv _ _ _ _ _ _ .refl h (.bl _) q⟩⟩
theorem dc_any (hK : ∀ i, (X i).K = K) (hc : ∀ i, (X i).calm = true) : DCall X K (.builtin "any") wAny := ⟨rAny K, fun i => by rw [← hK i]; exact cr_any (hc i), fun G as H M vs ds Qd Q h r q cv => by
  obtain ⟨d, bs, rfl, e1, q⟩ := q
  obtain ⟨v, rfl, rv⟩ := rps1 r
  obtain ⟨a, ws, rfl, hs, rw'⟩ := h.ls rv e1
  have e := rps_bls_inv rw'
  subst e
  exact ⟨a, bs, rfl, .inl (.inl hs), cv _ _ _ _ _ _ .refl h (.bl _) q⟩⟩
/-- isinstance -/
inductive Ty where
  | none | bool | int | str | list | tuple | dict
  deriving DecidableEq
def Ty.nm : Ty → String
  | .none => "NoneType" | .bool => "bool" | .int => "int" | .str => "str" | .list => "list" | .tuple => "tuple" | .dict => "dict"
def isa (t k : Ty) : Bool := decide (t = k) || (decide (t = .bool) && decide (k = .int))
theorem isa_ok : ∀ (t k : Ty), kitB t.nm k.nm = some (isa t k) := by
  intro t k
  cases t <;> cases k <;> decide +kernel
def tyD (M : Mm) : D → Option Ty
  | .non => some .none
  | .bl _ => some .bool
  | .int _ => some .int
  | .str _ => some .str
  | .lst _ => some .list
  | .tup _ => some .tuple
  | .ptr k => match M[k]? with
    | some (.lst _) => some .list
    | some (.dK _) => some .dict
    | _ => Option.none
  | _ => Option.none
theorem sqT_ty {H : Hp} {a : Addr} {vs : List V} (h : SqT K H a vs) : TyX K H (.ref a) (.type "tuple") := by
  rcases h with (h | ⟨o, h⟩) | ⟨o, its, n, hk, hc, _⟩
  · exact .base (.tup h)
  · exact .fTuple h
  · exact .kTuple hk hc
theorem tyD_ok {G : Hp} {as : List Addr} {H : Hp} {M : Mm} {v : V} {d : D} {t : Ty} (h : Hs K G as H M) (r : Rp K G as v d) (e : tyD M d = some t) : TyX K H v (.type t.nm) := by
  cases d with
  | non => cases r; cases e; exact .base .non
  | bl b => cases r; cases e; exact .base (.bl _)
  | int b => cases r; cases e; exact .base (.int _)
  | str b => cases r; cases e; exact .base (.str _)
  | lst xs =>
    cases e
    obtain ⟨a, vs, rfl, h1, _⟩ := r.lst_inv
    exact .base (.lst (h.sub _ _ h1))
  | tup xs =>
    cases e
    obtain ⟨a, vs, rfl, h1, _⟩ := r.tup_inv
    exact sqT_ty (sqT_mono h.sub h1)
  | ptr k =>
    unfold tyD at e
    dsimp only at e
    cases q : M[k]? with
    | none => rw [q] at e; cases e
    | some m =>
      rw [q] at e
      obtain ⟨a, rfl, _, hm⟩ := h.ptr r q
      cases m with
      | lst ys =>
        cases e
        obtain ⟨vs, e1, _⟩ := hm
        exact .base (.lst e1)
      | dK ys =>
        cases e
        obtain ⟨vs, e1, _⟩ := hm
        exact .base (.dK e1)
      | _ => cases e
  | _ => cases e
def wIsi : List D → Mm → DK → Prop := fun ds M Q => ∃ d t k, ds = [d, .ty (Ty.nm k)] ∧ tyD M d = some t ∧ Q (.bl (isa t k)) M
theorem dc_isi (hK : ∀ i, (X i).K = K) : DCall X K (.builtin "isinstance") wIsi := ⟨rIsi K, fun i => by rw [← hK i]; exact call_isi, fun G as H M vs ds Qd Q h r q cv => by
  obtain ⟨d, t, k, rfl, e1, q⟩ := q
  obtain ⟨v, u, rfl, rv, ru⟩ := rps2 r
  have eu : u = .ty k.nm := by cases ru; rfl
  subst eu
  exact ⟨v, .ty k.nm, _, _, isa t k, rfl, .ty _, tyD_ok h rv e1, kit_ty (isa_ok t k), cv _ _ _ _ _ _ .refl h (.bl _) q⟩⟩

/-! ### methods of lists and dicts -/
def Rm (K : PySem.W.Frag) (r : V → List V → Hp → VK → Prop) (w : D → List D → Mm → DK → Prop) : Prop := ∀ G as H M v vs d ds Qd Q, Hs K G as H M → Rp K G as v d → Rps K G as vs ds → w d ds M Qd → CV K G as Qd Q → r v vs H Q
/-- xs.append(e) -/
def dAppend (wo : DT) (wa : DTA) : DT := fun ρ M Q X => wo ρ M (fun o M1 => ∃ k xs, o = .ptr k ∧ M1[k]? = some (.lst xs) ∧ wa ρ M1 (fun ds M2 => ∃ ys d, ds = [d] ∧ M2[k]? = some (.lst ys) ∧ ys.length < sizeLine ∧ Q .non (M2.set k (.lst (ys ++ [d])))) X) X
theorem de_append {o : Expr} {apos cpos : Pos} {wo : DT} {wa : DTA} (hK : ∀ i, (X i).K = K) (ho : DE X K W o wo) (ha : DA X K W [e] wa) (hbase : ∀ i, attributeBase o "append" (X i).env (eval o (X i).env) = eval o (X i).env := by intro _; rfl)
    (hfew : ∀ i, ((backTo cpos (starEach [e] (X i).env)).all (fun x => !x.1) && (backToKw cpos (keywordEach [] (X i).env)).all (fun x => x.1.isSome) && decide (([e] : List Expr).length + ([] : List Keyword).length + (if ([] : List Keyword).isEmpty then 0 else 1) < 30)) = true := by intro _; rfl)
    (hline : (apos.endLine == cpos.line) = true := by rfl) (hs : ∀ i, starEach [e] (X i).env = (false, eval e (X i).env) :: starEach [] (X i).env := by intro _; rfl) (hpl : ∀ i, (backTo cpos (starEach [] (X i).env)).any (·.1) = false := by intro _; rfl) :
    DE X K W (.Call (.Attribute o "append" apos) [e] [] cpos) (dAppend wo wa) := by
  obtain ⟨to, o1, o2⟩ := ho
  obtain ⟨ta, a1, a2⟩ := ha
  refine ⟨tBM K "list" rAppend to ta, fun i => by rw [← hK i]; exact pe_bm PySem.F.plainAttrs_list PySem.F.slot_list_append PySem.F.type_list_append mt_append (o1 i) (a1 i) (hbase i) (hfew i) hline (hs i) (hpl i), ?_⟩
  intro G as σ H ρ M Qd Xd Q h ev w cv ce
  refine o2 _ _ _ _ _ _ _ Xd _ h ev w (fun G1 as1 H1 M1 x d g1 h1 r1 w1 => ?_) ce
  obtain ⟨k, xs, rfl, e1, w1⟩ := w1
  obtain ⟨a, rfl, ha, vs, e2, _⟩ := h1.ptr r1 e1
  refine ⟨.inl ⟨rfl, vs, .inl (.inl e2)⟩, ?_⟩
  refine a2 _ _ _ _ _ _ _ Xd _ h1 (ev.mono g1) w1 (fun G2 as2 H2 M2 us ds g2 h2 r2 w2 => ?_) (ce.mono g1)
  obtain ⟨ys, d, rfl, e3, l3, q⟩ := w2
  obtain ⟨u, rfl, ru⟩ := rps1 r2
  obtain ⟨a', ea, ha', ws, e4, rw4⟩ := h2.ptr (r1.mono g2) e3
  cases ea
  refine ⟨a, ws, u, rfl, rfl, e4, by rw [rw4.length]; exact l3, ?_⟩
  exact cv _ _ _ _ _ _ (g1.trans g2) (h2.put (m := .lst (ys ++ [d])) ha' ⟨_, upd_same, rw4.snoc ru⟩) .non q
/-- d.get(k, x) -/
def dGet2 (wd wk wx : DT) : DT := fun ρ M Q X => wd ρ M (fun o M1 => ∃ kvs, dkOf M1 o = some kvs ∧ wk ρ M1 (fun y M2 => wx ρ M2 (fun z M3 => ∃ kvs k, dkOf M3 o = some kvs ∧ keyOf y = some k ∧ Q ((valD kvs k).getD z) M3) X) X) X
theorem de_get2 {o f : Expr} {apos cpos : Pos} {wd wk wx : DT} (hu : ∀ i, (X i).A.units + 1 < cLine) (ho : DE X K W o wd) (he : DE X K W e wk) (hf : DE X K W f wx) (m : ∀ i, M2 (X i) o "get" apos e f cpos := by intro _; exact ⟨rfl, rfl, rfl, rfl⟩) :
    DE X K W (.Call (.Attribute o "get" apos) [e, f] [] cpos) (dGet2 wd wk wx) := by
  obtain ⟨to, o1, o2⟩ := ho
  obtain ⟨te, e1, e2⟩ := he
  obtain ⟨tf, f1, f2⟩ := hf
  refine ⟨_, fun i => pe_dget2 (hu i) (o1 i) (e1 i) (f1 i) (m i), ?_⟩
  intro G as σ H ρ M Qd Xd Q h ev w cv ce
  refine o2 _ _ _ _ _ _ _ Xd _ h ev w (fun G1 as1 H1 M1 x d g1 h1 r1 w1 => ?_) ce
  obtain ⟨kvs, q1, w1⟩ := w1
  obtain ⟨a, ks, rfl, hd, _⟩ := h1.dk r1 q1
  refine ⟨a, rfl, .inl ⟨ks, hd⟩, ?_⟩
  refine e2 _ _ _ _ _ _ _ Xd _ h1 (ev.mono g1) w1 (fun G2 as2 H2 M2 y dy g2 h2 r2 w2 => ?_) (ce.mono g1)
  refine f2 _ _ _ _ _ _ _ Xd _ h2 (ev.mono (g1.trans g2)) w2 (fun G3 as3 H3 M3 z dz g3 h3 r3 w3 => ?_) (ce.mono (g1.trans g2))
  obtain ⟨kvs', k, q3, q4, q⟩ := w3
  have g123 := (g1.trans g2).trans g3
  obtain ⟨a', ks', ea, hd', kv'⟩ := h3.dk ((r1.mono g2).mono g3) q3
  cases ea
  refine ⟨_, .inl ⟨ks', k, hd', (r2.mono g3).keyOf q4, rfl⟩, ?_⟩
  obtain ⟨i1, i2⟩ := kvr_val (k := k) kv'
  cases e5 : valD kvs' k with
  | none =>
    rw [e5] at q
    rw [i1 e5]
    exact cv _ _ _ _ _ _ g123 h3 r3 q
  | some t =>
    rw [e5] at q
    obtain ⟨x', hx, rx⟩ := i2 t e5
    rw [hx]
    exact cv _ _ _ _ _ _ g123 h3 rx q
/-- d[k] = v -/
def dDPut (wd wk wv : DT) : SW := fun De ρ M => wv ρ M (fun v M1 => wd ρ M1 (fun o M2 => wk ρ M2 (fun y M3 => ∃ n kvs k, o = .ptr n ∧ M3[n]? = some (.dK kvs) ∧ keyOf y = some k ∧ kvs.length < sizeLine ∧ De.nx ρ (M3.set n (.dK (putD kvs k v)))) (fun C fs M2 => De.ex C fs ρ M2)) (fun C fs M2 => De.ex C fs ρ M2)) (fun C fs M1 => De.ex C fs ρ M1)
theorem ds_dput {o i v : Expr} {pos' : Pos} {wd wk wv : DT} (hu : ∀ j, (X j).A.units + 1 < cLine) (ho : DE X K W o wd) (hi : DE X K W i wk) (hv : DE X K W v wv) (hs : ∀ j, swapsWith v (some (.Subscript o i pos')) pos.line (X j).env = pure false := by intro _; rfl) :
    DS X K W (.Assign [.Subscript o i pos'] v pos) (dDPut wd wk wv) := by
  obtain ⟨to, o1, o2⟩ := ho
  obtain ⟨ti, i1, i2⟩ := hi
  obtain ⟨tv, v1, v2⟩ := hv
  refine ⟨_, fun j => ps_dput (hu j) (o1 j) (i1 j) (v1 j) (hs j), ?_⟩
  intro G as σ H ρ M De Dv h ev w c
  refine v2 _ _ _ _ _ _ _ _ _ h ev w (fun G1 as1 H1 M1 x d g1 h1 r1 w1 => ?_) (c.ce ev)
  refine o2 _ _ _ _ _ _ _ _ _ h1 (ev.mono g1) w1 (fun G2 as2 H2 M2 y dy g2 h2 r2 w2 => ?_) ((c.ce ev).mono g1)
  refine i2 _ _ _ _ _ _ _ _ _ h2 (ev.mono (g1.trans g2)) w2 (fun G3 as3 H3 M3 z dz g3 h3 r3 w3 => ?_) ((c.ce ev).mono (g1.trans g2))
  obtain ⟨n, kvs, k, rfl, e3, e4, l4, q⟩ := w3
  have g123 := (g1.trans g2).trans g3
  obtain ⟨a, rfl, ha, ks, e5, kv⟩ := h3.ptr (r2.mono g3) e3
  refine ⟨a, _, rfl, .inl ⟨ks, k, e5, r3.keyOf e4, by rw [kvr_len kv]; exact l4, rfl⟩, ?_⟩
  exact c.nx _ _ _ _ _ _ g123 (h3.put (m := .dK (putD kvs k d)) ha ⟨_, upd_same, kvr_put kv ((r1.mono g2).mono g3)⟩) (ev.mono g123) q
/-- xs[i] = v -/
def dgSet (wo wi : DT) : DGt := fun d ρ M P Xd => wo ρ M (fun o M1 => wi ρ M1 (fun i M2 => ∃ k xs n j, o = .ptr k ∧ i = .int n ∧ M2[k]? = some (.lst xs) ∧ ixN xs.length n = some j ∧ P ρ (M2.set k (.lst (xs.set j d)))) Xd) Xd
theorem dg_set {o i : Expr} {wo wi : DT} (ho : DE X K W o wo) (hi : DE X K W i wi)
    (ha : ∀ j w0, PySem.assign (.Subscript o i pos) (X j).env w0 = (do
      let o' ← holding [w0] (eval o (X j).env)
      let i' ← holding [w0, o'] (eval i (X j).env)
      standAt pos
      holding [w0, o', i'] (setItem o' i' w0)
      release [w0, o', i'] []) := by intro _ _; rfl) : DG X K W (.Subscript o i pos) (dgSet wo wi) := by
  obtain ⟨to, o1, o2⟩ := ho
  obtain ⟨ti, i1, i2⟩ := hi
  refine ⟨gSub to ti rSetL, fun j => pg_sub (o1 j) (i1 j) set_list (ha j), ?_⟩
  intro G as σ H ρ M v d P Xd R h ev r w c ce
  refine o2 _ _ _ _ _ _ _ _ _ h ev w (fun G1 as1 H1 M1 x dx g1 h1 r1 w1 => ?_) ce
  refine i2 _ _ _ _ _ _ _ _ _ h1 (ev.mono g1) w1 (fun G2 as2 H2 M2 y dy g2 h2 r2 w2 => ?_) (ce.mono g1)
  obtain ⟨k, xs, n, j, rfl, rfl, e3, e4, q⟩ := w2
  obtain ⟨a, rfl, ha, vs, e5, rv⟩ := h2.ptr (r1.mono g2) e3
  refine ⟨a, vs, n, j, rfl, r2.int_inv, e5, by rw [rv.length]; exact e4, ?_⟩
  exact c _ _ _ _ _ _ (g1.trans g2) (h2.put (m := .lst (xs.set j d)) ha ⟨_, upd_same, rv.set j (r.mono (g1.trans g2))⟩) (ev.mono (g1.trans g2)) q
theorem ds_asg {tg : Expr} {we : DT} {wg : DGt} (he : DE X K W e we) (hg : DG X K W tg wg) (hs : ∀ j, swapsWithSole [tg] e pos.line (X j).env = pure false := by intro _; rfl) (hw : ∀ j, swappedStores [tg] e (X j).env = pure none := by intro _; rfl)
    (hl : ∀ j, (assignEach [tg] (X j).env).map (·.2) = [PySem.assign tg (X j).env] := by intro _; rfl) : DS X K W (.Assign [tg] e pos) (dAsg we wg) := by
  obtain ⟨te, e1, e2⟩ := he
  obtain ⟨g, g1, g2⟩ := hg
  exact ⟨_, fun j => ps_asg (e1 j) (g1 j) (hs j) (hw j) (hl j), sn_asg e2 g2⟩
end
end DL

namespace DL
open PySem PySem.Spec PyProof.Rows L2

/-! ### what is walked -/
section
variable {ι : Type} {X : ι → Cx} {K : PySem.W.Frag} {W : WX} {a b c e tg : Expr} {es : List Expr} {pos p : Pos}
def diList (we : DT) : DIt := fun ρ M R X => we ρ M (fun d M1 => ∃ xs, (d = .lst xs ∧ R xs (fun _ => True) M1) ∨ ∃ k, d = .ptr k ∧ M1[k]? = some (.lst xs) ∧ R xs (fun M => M[k]? = some (.lst xs)) M1) X
theorem yl_list {G : Hp} {as : List Addr} {a : Addr} {vs : List V} {xs : List D} {st : Mm → Prop} (h : ∀ G' as' H' M', Gr G as G' as' → Hs K G' as' H' M' → st M' → ∃ vs, H' a = some (.lst vs) ∧ Rps K G' as' vs xs) : Yl K G as (Itl K a) xs st := by
  refine ⟨fun i d G' as' H' M' g h' s e => ?_, fun i G' as' H' M' g h' s e => ?_⟩
  · obtain ⟨vs, e1, r⟩ := h G' as' H' M' g h' s
    obtain ⟨v, e2, rv⟩ := r.get e
    refine ⟨⟨vs, v, .inl (.inl e1), e2⟩, fun x H'' y => ?_⟩
    obtain ⟨rfl, y⟩ := y
    have e3 := y vs (.inl (.inl e1))
    rw [e2] at e3
    have e4 := Option.some.inj e3
    subst e4
    exact ⟨G', as', .refl, h', rv⟩
  · obtain ⟨vs, e1, r⟩ := h G' as' H' M' g h' s
    exact ⟨vs, .inl (.inl e1), by rw [r.length]; exact e⟩
theorem di_list {we : DT} (hK : ∀ i, (X i).K = K) (he : DE X K W e we) : DI X K W tg e (diList we) := by
  obtain ⟨te, e1, e2⟩ := he
  refine ⟨iList K te, fun i => by rw [← hK i]; exact pi_list (e1 i), ?_⟩
  intro G as σ H ρ M Qd Xd R h ev w c ce
  refine e2 _ _ _ _ _ _ _ Xd _ h ev w (fun G1 as1 H1 M1 x d g1 h1 r1 w1 => ?_) ce
  obtain ⟨xs, w1⟩ := w1
  rcases w1 with ⟨rfl, w1⟩ | ⟨k, rfl, e3, w1⟩
  · obtain ⟨a, vs, rfl, q, rv⟩ := r1.lst_inv
    refine ⟨a, rfl, ⟨vs, .inl (.inl (h1.sub _ _ q))⟩, c _ _ _ _ _ _ _ g1 h1 (yl_list (vs := vs) fun G' as' H' M' g h' _ => ⟨vs, h'.sub _ _ (g.g _ _ q), rv.mono g⟩) w1⟩
  · obtain ⟨a, rfl, ha, vs, q, rv⟩ := h1.ptr r1 e3
    refine ⟨a, rfl, ⟨vs, .inl (.inl q)⟩, c _ _ _ _ _ _ _ g1 h1 (yl_list (vs := vs) fun G' as' H' M' g h' s => ?_) w1⟩
    exact h'.ob k a _ (pre_get g.a ha) s
def diTup (we : DT) : DIt := fun ρ M R X => we ρ M (fun d M1 => ∃ xs, d = .tup xs ∧ R xs (fun _ => True) M1) X
theorem di_tup {we : DT} (hK : ∀ i, (X i).K = K) (he : DE X K W e we) : DI X K W tg e (diTup we) := by
  obtain ⟨te, e1, e2⟩ := he
  refine ⟨iTup K te, fun i => by rw [← hK i]; exact pi_tup (e1 i), ?_⟩
  intro G as σ H ρ M Qd Xd R h ev w c ce
  refine e2 _ _ _ _ _ _ _ Xd _ h ev w (fun G1 as1 H1 M1 x d g1 h1 r1 w1 => ?_) ce
  obtain ⟨xs, rfl, w1⟩ := w1
  obtain ⟨a, vs, rfl, q, rv⟩ := r1.tup_inv
  have uniq : ∀ G' as' H' M', Gr G1 as1 G' as' → Hs K G' as' H' M' → SqT K H' a vs ∧ Rps K G' as' vs xs := fun G' as' H' M' g h' => ⟨sqT_mono h'.sub (sqT_mono g.g q), rv.mono g⟩
  refine ⟨a, rfl, ⟨vs, sqT_mono h1.sub q⟩, c _ _ _ _ _ _ _ g1 h1 ⟨fun i d G' as' H' M' g h' s e => ?_, fun i G' as' H' M' g h' s e => ?_⟩ w1⟩
  · obtain ⟨u1, u2⟩ := uniq G' as' H' M' g h'
    obtain ⟨v, f2, rv'⟩ := u2.get e
    refine ⟨⟨vs, v, u1, f2⟩, fun x H'' y => ?_⟩
    obtain ⟨rfl, y⟩ := y
    have e3 := y vs u1
    rw [f2] at e3
    have e4 := Option.some.inj e3
    subst e4
    exact ⟨G', as', .refl, h', rv'⟩
  · obtain ⟨u1, u2⟩ := uniq G' as' H' M' g h'
    exact ⟨vs, u1, by rw [u2.length]; exact e⟩
/-- a text, sign by sign -/
def signs (z : Str) : List D := z.cps.toList.map fun c => .str ⟨#[c]⟩
def diStr (we : DT) : DIt := fun ρ M R X => we ρ M (fun d M1 => ∃ z, d = .str z ∧ R (signs z) (fun _ => True) M1) X
theorem di_str {we : DT} (he : DE X K W e we) : DI X K W tg e (diStr we) := by
  obtain ⟨te, e1, e2⟩ := he
  refine ⟨iStr te, fun i => pi_str (e1 i), ?_⟩
  intro G as σ H ρ M Qd Xd R h ev w c ce
  refine e2 _ _ _ _ _ _ _ Xd _ h ev w (fun G1 as1 H1 M1 x d g1 h1 r1 w1 => ?_) ce
  obtain ⟨z, rfl, w1⟩ := w1
  refine ⟨z, r1.str_inv, c _ _ _ _ _ _ _ g1 h1 ⟨fun i d G' as' H' M' g h' s e => ?_, fun i G' as' H' M' g h' s e => ?_⟩ w1⟩
  · unfold signs at e
    rw [List.getElem?_map] at e
    cases q : z.cps.toList[i]? with
    | none => rw [q] at e; cases e
    | some cc =>
      rw [q] at e
      have e' := Option.some.inj e
      subst e'
      have hi : i < z.cps.size := by simpa using (List.getElem?_eq_some_iff.mp q).1
      refine ⟨hi, fun x H'' y => ?_⟩
      obtain ⟨rfl, c', q', rfl⟩ := y
      have : z.cps.toList[i]? = some c' := by simpa using q'
      rw [q] at this
      cases this
      exact ⟨G', as', .refl, h', .str _⟩
  · have : z.cps.size ≤ i := by
      unfold signs at e
      simpa using e
    exact this
/-- range(n), range(a, b) -/
def rng (lo : Int) (n : Nat) : List D := (List.range n).map fun (i : Nat) => D.int (lo + (i : Int))
theorem yl_rng {G : Hp} {as : List Addr} (lo : Int) (n : Nat) : Yl K G as (Itr lo n) (rng lo n) (fun _ => True) := by
  refine ⟨fun i d G' as' H' M' g h' s e => ?_, fun i G' as' H' M' g h' s e => ?_⟩
  · unfold rng at e
    rw [List.getElem?_map] at e
    by_cases hi : i < n
    · rw [List.getElem?_range hi] at e
      have e' := Option.some.inj e
      subst e'
      refine ⟨hi, fun x H'' y => ?_⟩
      obtain ⟨rfl, rfl⟩ := y
      exact ⟨G', as', .refl, h', .int _⟩
    · rw [List.getElem?_eq_none (by rw [List.length_range]; omega)] at e
      cases e
  · have : n ≤ i := by
      unfold rng at e
      simpa using e
    exact this
def diRng1 (we : DT) : DIt := fun ρ M R X => we ρ M (fun d M1 => ∃ j : Int, d = .int j ∧ -(2 ^ 62) ≤ j ∧ j < 2 ^ 62 ∧ R (rng 0 j.toNat) (fun _ => True) M1) X
theorem di_rng1 {we : DT} (hm : ∀ i, (X i).mg "range" = none) (he : DE X K W e we) (hg : ∀ i, Gl (X i) "range" := by intro _; rfl) (hs : ∀ i, starEach [e] (X i).env = [(false, eval e (X i).env)] := by intro _; rfl) : DI X K W tg (.Call (.Name "range" p) [e] [] pos) (diRng1 we) := by
  obtain ⟨te, e1, e2⟩ := he
  refine ⟨iRng1 (tCons te tNil), fun i => pi_range1 (hg i) (hm i) (pa_cons (e1 i) pa_nil (hs i)) (hs i), ?_⟩
  intro G as σ H ρ M Qd Xd R h ev w c ce
  refine e2 _ _ _ _ _ _ _ Xd _ h ev w (fun G1 as1 H1 M1 x d g1 h1 r1 w1 => ?_) ce
  obtain ⟨j, rfl, h2, h3, w1⟩ := w1
  exact ⟨j, by rw [r1.int_inv], h2, h3, c _ _ _ _ _ _ _ g1 h1 (yl_rng 0 j.toNat) w1⟩
def diRng2 (wa we : DT) : DIt := fun ρ M R X => wa ρ M (fun d0 M0 => we ρ M0 (fun d M1 => ∃ i j : Int, d0 = .int i ∧ d = .int j ∧ (-(2 ^ 62) ≤ i ∧ i < 2 ^ 62 ∧ -(2 ^ 62) ≤ j ∧ j < 2 ^ 62) ∧ R (rng i (j - i).toNat) (fun _ => True) M1) X) X
theorem di_rng2 {wa we : DT} (hm : ∀ i, (X i).mg "range" = none) (ha : DE X K W a wa) (he : DE X K W e we) (hg : ∀ i, Gl (X i) "range" := by intro _; rfl) (hs : ∀ i, starEach [a, e] (X i).env = (false, eval a (X i).env) :: starEach [e] (X i).env := by intro _; rfl) (hs2 : ∀ i, starEach [e] (X i).env = [(false, eval e (X i).env)] := by intro _; rfl) : DI X K W tg (.Call (.Name "range" p) [a, e] [] pos) (diRng2 wa we) := by
  obtain ⟨ta, a1, a2⟩ := ha
  obtain ⟨te, e1, e2⟩ := he
  refine ⟨iRng2 (tCons ta (tCons te tNil)), fun i => pi_range2 (hg i) (hm i) (pa_cons (a1 i) (pa_cons (e1 i) pa_nil (hs2 i)) (hs i)) (by rw [hs i, hs2 i]) (hs2 i), ?_⟩
  intro G as σ H ρ M Qd Xd R h ev w c ce
  refine a2 _ _ _ _ _ _ _ Xd _ h ev w (fun G0 as0 H0 M0 x0 d0 g0 h0 r0 w0 => ?_) ce
  refine e2 _ _ _ _ _ _ _ Xd _ h0 (ev.mono g0) w0 (fun G1 as1 H1 M1 x d g1 h1 r1 w1 => ?_) (ce.mono g0)
  obtain ⟨i, j, rfl, rfl, h3, w1⟩ := w1
  exact ⟨i, j, by rw [r1.int_inv, r0.int_inv], h3, c _ _ _ _ _ _ _ (g0.trans g1) h1 (yl_rng i (j - i).toNat) w1⟩
/-- a dict's keys, the dict locked -/
def diKeys (we : DT) : DIt := fun ρ M R X => we ρ M (fun d M1 => ∃ n o ks kvs, d = .ptr n ∧ M1[n]? = some (.lk o ks kvs) ∧ R (kvs.map fun kv => kD kv.1) (fun M => M[n]? = some (.lk o ks kvs)) M1) X
theorem di_keys {we : DT} (he : DE X K W e we) : DI X K W tg e (diKeys we) := by
  obtain ⟨te, e1, e2⟩ := he
  refine ⟨iKeys te, fun i => pi_keys (e1 i), ?_⟩
  intro G as σ H ρ M Qd Xd R h ev w c ce
  refine e2 _ _ _ _ _ _ _ Xd _ h ev w (fun G1 as1 H1 M1 x d g1 h1 r1 w1 => ?_) ce
  obtain ⟨n, o, ks, kvs, rfl, e3, w1⟩ := w1
  obtain ⟨a, rfl, ha, q, kv⟩ := h1.ptr r1 e3
  refine ⟨a, o, rfl, .inl ⟨ks, q, c _ _ _ _ _ _ _ g1 h1 ⟨fun i d G' as' H' M' g h' s e => ?_, fun i G' as' H' M' g h' s e => ?_⟩ w1⟩⟩
  · obtain ⟨q', kv'⟩ := h'.ob n a _ (pre_get g.a ha) s
    have hi : i < ks.length := by
      have z := (List.getElem?_eq_some_iff.mp e).1
      rw [List.length_map] at z
      rw [kvr_len kv]
      exact z
    refine ⟨⟨q', hi⟩, fun x H'' y => ?_⟩
    obtain ⟨rfl, k, v, e4, rfl⟩ := y
    have rr := rps_keys kv'
    obtain ⟨v', e5, r5⟩ := rr.get e
    rw [List.getElem?_map, e4] at e5
    have e6 := Option.some.inj e5
    subst e6
    exact ⟨G', as', .refl, h', r5⟩
  · obtain ⟨q', kv'⟩ := h'.ob n a _ (pre_get g.a ha) s
    exact ⟨q', by rw [kvr_len kv]; simpa using e⟩
def dLock (n : Nat) (w : SW) : SW := fun De ρ M => ∃ kvs, M[n]? = some (.dK kvs) ∧ ∀ o ks, w ⟨fun ρ' M' => M'[n]? = some (.lk o ks kvs) ∧ De.nx ρ' (M'.set n (.dK kvs)), fun d M' => M'[n]? = some (.lk o ks kvs) ∧ De.rt d (M'.set n (.dK kvs)), fun _ _ _ _ => False,
  fun ρ' M' => M'[n]? = some (.lk o ks kvs) ∧ De.bk ρ' (M'.set n (.dK kvs)), fun ρ' M' => M'[n]? = some (.lk o ks kvs) ∧ De.ct ρ' (M'.set n (.dK kvs))⟩ ρ (M.set n (.lk o ks kvs))
theorem ds_lock (n : Nat) {s : Stmt} {w : SW} (h : DS X K W s w) : DS X K W s (dLock n w) := by
  obtain ⟨t, a1, a2⟩ := h
  refine ⟨tLock t, fun i => ps_lock (a1 i), ?_⟩
  intro G as σ H ρ M De Dv h ev w c
  obtain ⟨kvs, e1, w⟩ := w
  have hn : n < as.length := by
    rw [h.len]
    exact (List.getElem?_eq_some_iff.mp e1).1
  have ha : as[n]? = some as[n] := List.getElem?_eq_getElem hn
  obtain ⟨ks, e2, kv⟩ := h.ob n _ _ ha e1
  refine ⟨as[n], _, e2, trivial, fun od => ?_⟩
  have hl := h.put (m := .lk od ks kvs) (o := .frz od (.dK ks)) ha ⟨upd_same, kv⟩
  have back : ∀ {G' as' H' M'}, Gr G as G' as' → Hs K G' as' H' M' → M'[n]? = some (.lk od ks kvs) → H' as[n] = some (.frz od (.dK ks)) ∧ Hs K G' as' (upd H' as[n] (.dK ks)) (M'.set n (.dK kvs)) := fun {G' as' H' M'} g h' e => by
    have ha' := pre_get g.a ha
    obtain ⟨q, kv'⟩ := h'.ob n _ _ ha' e
    exact ⟨q, h'.put (m := .dK kvs) ha' ⟨ks, upd_same, kv'⟩⟩
  refine a2 _ _ _ _ _ _ _ _ hl ev (w od ks) ⟨fun G' as' σ' H' ρ' M' g h' e' p => ?_, fun G' as' H' M' v d g h' r' p => ?_, fun G' as' σ' H' ρ' M' g h' e' p => ?_, fun G' as' σ' H' ρ' M' g h' e' p => ?_, fun G' as' σ' H' ρ' M' C fs dd gs g h' e' x1 x2 p => p.elim⟩
  · obtain ⟨q, h2⟩ := back g h' p.1
    exact ⟨q, c.nx _ _ _ _ _ _ g h2 e' p.2⟩
  · obtain ⟨q, h2⟩ := back g h' p.1
    exact ⟨q, c.rt _ _ _ _ _ _ g h2 r' p.2⟩
  · obtain ⟨q, h2⟩ := back g h' p.1
    exact ⟨q, c.bk _ _ _ _ _ _ g h2 e' p.2⟩
  · obtain ⟨q, h2⟩ := back g h' p.1
    exact ⟨q, c.ct _ _ _ _ _ _ g h2 e' p.2⟩
def dLockE (n : Nat) (w : DT) : DT := fun ρ M Q X => ∃ kvs, M[n]? = some (.dK kvs) ∧ ∀ o ks, w ρ (M.set n (.lk o ks kvs)) (fun d M' => M'[n]? = some (.lk o ks kvs) ∧ Q d (M'.set n (.dK kvs))) (fun _ _ _ => False)
theorem de_lock (n : Nat) {w : DT} (h : DE X K W e w) : DE X K W e (dLockE n w) := by
  obtain ⟨t, a1, a2⟩ := h
  refine ⟨tLockE t, fun i => pe_lock (a1 i), ?_⟩
  intro G as σ H ρ M Qd Xd Q h ev w cv ce
  obtain ⟨kvs, e1, w⟩ := w
  have hn : n < as.length := by
    rw [h.len]
    exact (List.getElem?_eq_some_iff.mp e1).1
  have ha : as[n]? = some as[n] := List.getElem?_eq_getElem hn
  obtain ⟨ks, e2, kv⟩ := h.ob n _ _ ha e1
  refine ⟨as[n], _, e2, trivial, fun od => ?_⟩
  have hl := h.put (m := .lk od ks kvs) (o := .frz od (.dK ks)) ha ⟨upd_same, kv⟩
  refine a2 _ _ _ _ _ _ _ _ _ hl ev (w od ks) (fun G' as' H' M' v d g h' r' p => ?_) (fun G' as' H' M' C fs dd gs g h' x1 x2 p => p.elim)
  have ha' := pre_get g.a ha
  obtain ⟨q, kv'⟩ := h'.ob n _ _ ha' p.1
  exact ⟨q, cv _ _ _ _ _ _ g (h'.put (m := .dK kvs) ha' ⟨ks, upd_same, kv'⟩) r' p.2⟩
/-- for -/
theorem ds_for {body : List Stmt} {di : DIt} {wg : DGt} {wb : SW} (hp : ∀ i, PassesOwn (model (X i).prog (X i).w) (X i).A (X i).env (X i).xe) (hc : ∀ i, (X i).calm = true) (hi : DI X K W tg e di) (hg : DG X K W tg wg) (hb : DSs X K W body wb)
    (hs : ∀ i x, foldedSetIterable e (X i).env x = pure x := by intro _ _; rfl) : DS X K W (.For tg e body [] pos) (dFor di wg wb) := by
  obtain ⟨ti, i1, i2⟩ := hi
  obtain ⟨g, g1, g2⟩ := hg
  obtain ⟨t, b1, b2⟩ := hb
  exact ⟨_, fun i => ps_for (hp i) (hc i) (i1 i) (g1 i) (b1 i) (hs i), sn_for i2 g2 b2⟩
end

/-! ### comprehensions, one name -/
abbrev CI (ι : Type) : Type := ι × Shared × Hp × Addr × List (Str × Addr) × List Addr
/-- the contexts of a comprehension's block -/
def Bk {ι : Type} (X : ι → Cx) (scope : Scope) : CI ι → Cx := fun p => (X p.1).blk p.2.1 p.2.2.1 scope (compEnvC scope p.2.2.2.2.1 p.2.2.2.1 (X p.1).env) p.2.2.2.2.2
abbrev W0 : WX := fun _ _ _ _ => False
def UpM (n : Nat) (P : Mm → Prop) : Mm → Prop := fun M => ∃ sel M0, StlM M n sel M0 ∧ P M0
def dLc (di : DIt) (i : Nat) (wt : DTT) (we : DT) : DT := fun ρ M Q X => di ρ M (fun xs st M0 => ∃ I : Nat → Mm → Prop, I 0 (M0 ++ [.lst []]) ∧ (∀ j M1, I j M1 → st M1) ∧
  (∀ j d M1, xs[j]? = some d → I j M1 → wt ((ρ.set i none).set i (some d)) M1 (fun b M2 => if b = true then we ((ρ.set i none).set i (some d)) M2 (fun y M3 => ∃ acc, M3[M0.length]? = some (.lst acc) ∧ acc.length < sizeLine ∧ UpM (M0.length + 1) (I (j + 1)) (M3.set M0.length (.lst (acc ++ [y])))) (fun _ _ _ => False)
    else UpM (M0.length + 1) (I (j + 1)) M2) (fun _ _ _ => False)) ∧ ∀ M1, I xs.length M1 → UpV M0.length Q (.ptr M0.length) M1) X
section
variable {ι : Type} {X : ι → Cx} {K : PySem.W.Frag} {W : WX}
theorem CM.up {G : Hp} {as : List Addr} {P : Mm → Prop} {R : Hp → Prop} {n : Nat} (c : CM K G as P R) (hn : as.length = n) : CM K G as (UpM n P) R := fun G' as' H' M' g h p => by
  obtain ⟨sel, M0, s, p⟩ := p
  exact c _ _ _ _ (g.stl h s hn) (h.stl s) p
theorem dn_lc {wi : TI} {di : DIt} {i : Nat} {tt : TT} {wt : DTT} {te : TE} {we : DT} (hi : DnI K W wi di) (ht : DnT K W0 tt wt) (he : Dn K W0 te we) : Dn K W (tLc wi (gName i) tt te [i]) (dLc di i wt we) := by
  intro G as σ H ρ M Qd Xd Q h ev w cv ce
  refine hi _ _ _ _ _ _ _ Xd _ h ev w (fun G0 as0 H0 M0 J xs st g0 h0 y w0 => ?_) ce
  obtain ⟨I, i0, hst, turn, fin⟩ := w0
  intro D nD
  have xp : Gr G0 as0 G0 (as0 ++ [D]) := ⟨Same.refl _, List.prefix_append _ _⟩
  obtain ⟨gD, hD⟩ := h0.push (m := .lst []) nD (same_upd nD) ⟨[], upd_same, .nil⟩
  have no : ∀ (G' : Hp) (as' : List Addr) (σ' : L2.St), CE K G' as' (fun _ _ _ => False) (WR W0 σ') := fun _ _ _ => fun _ _ _ _ _ _ _ _ _ _ _ _ p => p.elim
  refine ⟨fun j m H1 => m = xs.length - j ∧ j ≤ xs.length ∧ ∃ G1 as1 M1, Gr G0 (as0 ++ [D]) G1 as1 ∧ Hs K G1 as1 H1 M1 ∧ I j M1, ⟨xs.length, by simp, Nat.zero_le _, G0, _, _, .refl, hD, i0⟩, ?_⟩
  rintro j m H1 ⟨rfl, hle, G1, as1, M1, g1, h1, i1⟩
  have e1 : Evs K G1 as1 (wipe σ [i]) (ρ.set i none) := ((ev.mono (g0.trans (gD.trans g1))).wipe i)
  by_cases hlt : j < xs.length
  · have hx : xs[j]? = some xs[j] := List.getElem?_eq_getElem hlt
    obtain ⟨y1, y2⟩ := y.go j xs[j] G1 as1 H1 M1 (gD.trans g1) h1 (hst j M1 i1) hx
    refine .inr ⟨y1, fun H' => j + 1 ≤ xs.length ∧ ∃ G1 as1 M1, Gr G0 (as0 ++ [D]) G1 as1 ∧ Hs K G1 as1 H' M1 ∧ I (j + 1) M1, fun H' z => ⟨xs.length - (j + 1), by omega, rfl, z⟩, fun x H2 hy => ?_⟩
    obtain ⟨G2, as2, g2, h2, r2⟩ := y2 x H2 hy
    have cN : CM K G0 (as0 ++ [D]) (I (j + 1)) (fun H' => j + 1 ≤ xs.length ∧ ∃ G1 as1 M1, Gr G0 (as0 ++ [D]) G1 as1 ∧ Hs K G1 as1 H' M1 ∧ I (j + 1) M1) :=
      fun G3 as3 H3 M3 g3 h3 i3 => ⟨hlt, G3, as3, M3, g3, h3, i3⟩
    have cU := (cN.up (n := M0.length + 1) (by rw [List.length_append, h0.len]; rfl)).mono (g1.trans g2)
    have e2 := (e1.mono g2).set i r2
    have ew : wipe ((wipe σ [i]).set i (some x)) [i] = wipe σ [i] := by
      show ((σ.set i none).set i (some x)).set i none = σ.set i none
      rw [List.set_set, List.set_set]
    refine ⟨ew, ?_⟩
    refine ht _ _ _ _ _ _ _ _ _ h2 e2 (turn j xs[j] M1 hx i1) (fun G3 as3 H3 M3 b g3 h3 w3 => ?_) (no _ _ _)
    cases b with
    | true =>
      rw [if_pos rfl] at w3 ⊢
      refine he _ _ _ _ _ _ _ _ _ h3 (e2.mono g3) w3 (fun G4 as4 H4 M4 yv yd g4 h4 r4 w4 => ?_) (no _ _ _)
      obtain ⟨acc, e5, l5, u5⟩ := w4
      have hDa : as4[M0.length]? = some D := by
        refine pre_get (((g1.trans g2).trans g3).trans g4).a ?_
        rw [← h0.len]
        exact last_get _ _
      obtain ⟨vs, q5, rv5⟩ := h4.ob _ _ _ hDa e5
      refine ⟨vs, q5, by rw [rv5.length]; exact l5, ?_⟩
      exact cU _ _ _ _ (g3.trans g4) (h4.put (m := .lst (acc ++ [yd])) hDa ⟨_, upd_same, rv5.snoc r4⟩) u5
    | false =>
      rw [if_neg Bool.false_ne_true] at w3 ⊢
      exact cU _ _ _ _ g3 h3 w3
  · have ej : j = xs.length := by omega
    subst ej
    refine .inl ⟨y.stop _ G1 as1 H1 M1 (gD.trans g1) h1 (hst _ M1 i1) (Nat.le_refl _), ?_⟩
    refine ((cv.mono g0).up h0.len) _ _ _ _ _ _ (gD.trans g1) h1 (.ptr ?_) (fin M1 i1)
    refine pre_get g1.a ?_
    rw [← h0.len]
    exact last_get _ _
/-- tests of a comprehension -/
def DTs {κ : Type} (X : κ → Cx) (K : PySem.W.Frag) (W : WX) (ifs : List Expr) (w : DTT) : Prop := ∃ t, (∀ i, PTs (X i) ifs t) ∧ DnT K W t w
def dYes : DTT := fun _ M Q _ => Q true M
theorem dts_nil {κ : Type} {X : κ → Cx} : DTs X K W [] dYes := ⟨tYes, fun _ => pts_nil, fun G as σ H ρ M Qd Xd Q h ev w cv ce => cv _ _ _ _ _ .refl h w⟩
theorem dts_one {κ : Type} {X : κ → Cx} {c : Expr} {w : DTT} (h : DTe X K W c w) : DTs X K W [c] w := by
  obtain ⟨t, a1, a2⟩ := h
  exact ⟨t, fun i => pts_one (a1 i), a2⟩
theorem de_lc (i : Nat) {y : Str} {elt iter : Expr} {ifs : List Expr} {scope : Scope} {pos py : Pos} {di : DIt} {wt : DTT} {we : DT} (hc : ∀ j, (X j).calm = true) (hN : ∀ j, (X j).N.Nodup) (hi : DI X K W (.Name y py) iter di) (ok : ∀ j, BlkOk (X j).N (X j).env.scope scope [(y, i)])
    (hy : ∀ j : CI ι, PG (Bk X scope j) (.Name y py) (gName i)) (ht : DTs (Bk X scope) K W0 ifs wt) (he : DE (Bk X scope) K W0 elt we) (hs : ∀ j x, foldedSetIterable iter (X j).env x = pure x := by intro _ _; rfl) :
    DE X K W (.ListComp elt [⟨.Name y py, iter, ifs, 0⟩] scope pos) (dLc di i wt we) := by
  obtain ⟨ti, i1, i2⟩ := hi
  obtain ⟨tt, t1, t2⟩ := ht
  obtain ⟨te, e1, e2⟩ := he
  exact ⟨_, fun j => pe_lc (hc j) (hN j) (i1 j) (ok j) (fun s H C cl fp => hy (j, s, H, C, cl, fp)) (fun s H C cl fp => t1 (j, s, H, C, cl, fp)) (fun s H C cl fp => e1 (j, s, H, C, cl, fp)) (hs j), dn_lc i2 t2 e2⟩
/-- name = [..] on one line -/
theorem ds_setLc (n i : Nat) {x y : Str} {elt iter : Expr} {ifs : List Expr} {scope : Scope} {pos spos px py : Pos} {di : DIt} {wt : DTT} {we : DT} (hc : ∀ j, (X j).calm = true) (hN : ∀ j, (X j).N.Nodup) (hx : ∀ j, (X j).N[n]? = some x) (hxl : ∀ j, (X j).env.scope.names.lookup x = some .local)
    (hsw : ∀ j, swapsWith (.ListComp elt [⟨.Name y py, iter, ifs, 0⟩] scope pos) (some (.Name x px)) spos.line (X j).env = pure true) (hi : DI X K W (.Name y py) iter di) (ok : ∀ j, BlkOk (X j).N (X j).env.scope scope [(y, i)])
    (hy : ∀ j : CI ι, PG (Bk X scope j) (.Name y py) (gName i)) (ht : DTs (Bk X scope) K W0 ifs wt) (he : DE (Bk X scope) K W0 elt we) (hs : ∀ j x, foldedSetIterable iter (X j).env x = pure x := by intro _ _; rfl) :
    DS X K W (.Assign [.Name x px] (.ListComp elt [⟨.Name y py, iter, ifs, 0⟩] scope pos) spos) (dAsg (dLc di i wt we) (dgName n)) := by
  obtain ⟨ti, i1, i2⟩ := hi
  obtain ⟨tt, t1, t2⟩ := ht
  obtain ⟨te, e1, e2⟩ := he
  exact ⟨_, fun j => ps_setLc (hc j) (hN j) (hx j) (hxl j) (hsw j) (i1 j) (ok j) (fun s H C cl fp => hy (j, s, H, C, cl, fp)) (fun s H C cl fp => t1 (j, s, H, C, cl, fp)) (fun s H C cl fp => e1 (j, s, H, C, cl, fp)) (hs j), sn_asg (dn_lc i2 t2 e2) dg_name⟩
end
end DL

namespace DL
open PySem PySem.Spec PyProof.Rows L2

/-! ### what stands in the memory is bounded -/
mutual
inductive Bd (n : Nat) : D → Prop
  | non : Bd n .non
  | bl (b : Bool) : Bd n (.bl b)
  | int (i : Int) : Bd n (.int i)
  | str (x : Str) : Bd n (.str x)
  | ty (x : String) : Bd n (.ty x)
  | kr (a : Addr) : Bd n (.kr a)
  | ptr {k : Nat} (h : k < n) : Bd n (.ptr k)
  | lst {xs : List D} (h : Bds n xs) : Bd n (.lst xs)
  | scr (ns : List Int) : Bd n (.scr ns)
  | xc {a dd : Addr} {ks : List Str} {xs : List D} (h : Bds n xs) : Bd n (.xc a dd ks xs)
  | tup {xs : List D} (h : Bds n xs) : Bd n (.tup xs)
inductive Bds (n : Nat) : List D → Prop
  | nil : Bds n []
  | cons {d : D} {ds : List D} (h : Bd n d) (r : Bds n ds) : Bds n (d :: ds)
end
def Bdk {κ : Type} (n : Nat) (qs : List (κ × D)) : Prop := ∀ q ∈ qs, Bd n q.2
def MBd (n : Nat) : MO → Prop
  | .lst xs => Bds n xs
  | .dK kvs => Bdk n kvs
  | .lk _ _ kvs => Bdk n kvs
  | .ins _ fs => Bdk n fs
def Wf (n : Nat) (M : Mm) : Prop := ∀ m ∈ M, MBd n m
section
variable {K : PySem.W.Frag} {G : Hp} {as : List Addr} {H : Hp} {M : Mm}
mutual
theorem Bd.mono {n m : Nat} (h : n ≤ m) : ∀ {d : D}, Bd n d → Bd m d
  | _, .non => .non
  | _, .bl b => .bl b
  | _, .int b => .int b
  | _, .str b => .str b
  | _, .ty b => .ty b
  | _, .kr b => .kr b
  | _, .ptr k => .ptr (Nat.lt_of_lt_of_le k h)
  | _, .lst r => .lst (Bds.mono h r)
  | _, .scr b => .scr b
  | _, .xc r => .xc (Bds.mono h r)
  | _, .tup r => .tup (Bds.mono h r)
theorem Bds.mono {n m : Nat} (h : n ≤ m) : ∀ {d : List D}, Bds n d → Bds m d
  | _, .nil => .nil
  | _, .cons a b => .cons (Bd.mono h a) (Bds.mono h b)
end
mutual
theorem Rp.bd : ∀ {v : V} {d : D}, Rp K G as v d → Bd as.length d
  | _, _, .non => .non
  | _, _, .bl b => .bl b
  | _, _, .int b => .int b
  | _, _, .str b => .str b
  | _, _, .ty b => .ty b
  | _, _, .kr b => .kr b
  | _, _, .ptr h => .ptr (List.getElem?_eq_some_iff.mp h).1
  | _, _, .lst _ r => .lst (Rps.bd r)
  | _, _, .scr _ => .scr _
  | _, _, .xc _ r => .xc (Rps.bd r)
  | _, _, .tup _ r => .tup (Rps.bd r)
theorem Rps.bd : ∀ {vs : List V} {ds : List D}, Rps K G as vs ds → Bds as.length ds
  | _, _, .nil => .nil
  | _, _, .cons h r => .cons (Rp.bd h) (Rps.bd r)
end
theorem kvr_bd {κ : Type} : ∀ {ps : List (κ × V)} {qs : List (κ × D)}, Kvr K G as ps qs → Bdk as.length qs
  | _, _, .nil => fun _ h => by cases h
  | _, _, .cons a b => fun q h => by
    rcases List.mem_cons.mp h with rfl | h
    · exact a.2.bd
    · exact kvr_bd b q h
theorem Hs.wf (h : Hs K G as H M) : Wf M.length M := fun m hm => by
  obtain ⟨i, hi⟩ := List.mem_iff_getElem?.mp hm
  have hl : i < as.length := by rw [h.len]; exact (List.getElem?_eq_some_iff.mp hi).1
  have q := h.ob i _ m (List.getElem?_eq_getElem hl) hi
  rw [← h.len]
  cases m with
  | lst xs => obtain ⟨_, _, r⟩ := q; exact r.bd
  | dK xs => obtain ⟨_, _, r⟩ := q; exact kvr_bd r
  | lk o ks xs => obtain ⟨_, r⟩ := q; exact kvr_bd r
  | ins C xs => obtain ⟨_, _, _, r⟩ := q; exact kvr_bd r
theorem Bds.of {n : Nat} : ∀ {ds : List D}, (∀ d ∈ ds, Bd n d) → Bds n ds
  | [], _ => .nil
  | d :: ds, h => .cons (h d (List.mem_cons_self ..)) (Bds.of fun e he => h e (List.mem_cons_of_mem _ he))
theorem Bds.get {n : Nat} : ∀ {ds : List D}, Bds n ds → ∀ d ∈ ds, Bd n d
  | _, .nil, d, h => by cases h
  | _, .cons a b, d, h => by
    rcases List.mem_cons.mp h with rfl | h
    · exact a
    · exact Bds.get b d h
/-- nothing is let go -/
theorem range_get {n i : Nat} (h : i < n) : (List.range n)[i]? = some i := List.getElem?_range h
mutual
theorem Bd.rs {n : Nat} {M : Mm} : ∀ {d : D}, Bd n d → Rs M (List.range n) d d
  | _, .non => .non
  | _, .bl b => .bl b
  | _, .int b => .int b
  | _, .str b => .str b
  | _, .ty b => .ty b
  | _, .kr b => .kr b
  | _, .ptr h => .keep (range_get h)
  | _, .lst r => .lst (Bds.rs r)
  | _, .scr b => .scr b
  | _, .xc r => .xc (Bds.rs r)
  | _, .tup r => .tup (Bds.rs r)
theorem Bds.rs {n : Nat} {M : Mm} : ∀ {ds : List D}, Bds n ds → Rss M (List.range n) ds ds
  | _, .nil => .nil
  | _, .cons a b => .cons (Bd.rs a) (Bds.rs b)
end
theorem bdk_kss {κ : Type} {n : Nat} {M : Mm} : ∀ {qs : List (κ × D)}, Bdk n qs → Kss M (List.range n) qs qs
  | [], _ => .nil
  | q :: qs, h => .cons ⟨rfl, (h q (List.mem_cons_self ..)).rs⟩ (bdk_kss fun p hp => h p (List.mem_cons_of_mem _ hp))
theorem MBd.rs {n : Nat} {M : Mm} {m : MO} (h : MBd n m) : MRs M (List.range n) m m := by
  cases m with
  | lst xs => exact .lst (Bds.rs h)
  | dK xs => exact .dK (bdk_kss h)
  | lk o ks xs => exact .lk (bdk_kss h)
  | ins C xs => exact .ins (bdk_kss h)
theorem range_pre {n m : Nat} (h : n ≤ m) : List.range n <+: List.range m := by
  obtain ⟨k, rfl⟩ := Nat.exists_eq_add_of_le h
  rw [List.range_add]
  exact List.prefix_append _ _
/-- the objects behind the first n0 are let go: nothing kept points there -/
theorem stl_cut {M M0 t : Mm} {n : Nat} (e : M = M0 ++ t) (hn : n ≤ M0.length) (w : Wf M0.length M0) : StlM M n (List.range M0.length) M0 := by
  subst e
  refine ⟨range_pre hn, List.nodup_range, by rw [List.length_range], fun j k m0 h1 h2 => ?_⟩
  have hj : j < M0.length := (List.getElem?_eq_some_iff.mp h2).1
  rw [range_get hj] at h1
  have e := Option.some.inj h1
  subst e
  exact ⟨m0, by rw [List.getElem?_append_left hj]; exact h2, (w m0 (List.mem_of_getElem? h2)).rs⟩
theorem stl_all {M : Mm} {n : Nat} (hn : n ≤ M.length) (w : Wf M.length M) : StlM M n (List.range M.length) M := stl_cut (t := []) (List.append_nil M).symm hn w
theorem Up.all {n : Nat} {P : NK} {ρ : Ev} {M : Mm} (hn : n ≤ M.length) (w : Wf M.length M) (wr : ∀ (i : Nat) (d : D), ρ[i]? = some (some d) → Bd M.length d) (h : P ρ M) : Up n P ρ M :=
  ⟨_, ρ, M, ⟨stl_all hn w, rfl, fun i d e => ⟨d, e, (wr i d e).rs⟩⟩, h⟩
theorem UpV.all {n : Nat} {P : DK} {d : D} {M : Mm} (hn : n ≤ M.length) (w : Wf M.length M) (wd : Bd M.length d) (h : P d M) : UpV n P d M := ⟨_, d, M, stl_all hn w, wd.rs, h⟩
theorem UpX.all {n : Nat} {P : XD} {C : Addr} {fs : List (Str × D)} {M : Mm} (hn : n ≤ M.length) (w : Wf M.length M) (wd : Bdk M.length fs) (h : P C fs M) : UpX n P C fs M := ⟨_, fs, M, stl_all hn w, bdk_kss wd, h⟩
theorem UpM.all {n : Nat} {P : Mm → Prop} {M : Mm} (hn : n ≤ M.length) (w : Wf M.length M) (h : P M) : UpM n P M := ⟨_, M, stl_all hn w, h⟩
/-- the last object, a list, stands for good -/
theorem UpV.frz {P : DK} {M0 t : Mm} {ys : List D} (w : Wf M0.length M0) (wd : Bds M0.length ys) (h : P (.lst ys) M0) {n : Nat} (hn : n ≤ M0.length) : UpV n P (.ptr M0.length) (M0 ++ .lst ys :: t) :=
  ⟨_, _, M0, stl_cut rfl hn w, .frz (by rw [List.mem_range]; omega) (by rw [List.getElem?_append_right (Nat.le_refl _), Nat.sub_self]; rfl) (Bds.rs wd), h⟩
end
/-! ### .. and that may be used -/
def EvB (M : Mm) (ρ : Ev) : Prop := ∀ (i : Nat) (d : D), ρ[i]? = some (some d) → Bd M.length d
section
variable {K : PySem.W.Frag} {G : Hp} {as : List Addr} {W : WX}
theorem Evs.bd {σ : L2.St} {ρ : Ev} {H : Hp} {M : Mm} (h : Hs K G as H M) (e : Evs K G as σ ρ) : EvB M ρ := fun i d q => by
  obtain ⟨v, _, r⟩ := e.at_ i d q
  rw [← h.len]
  exact r.bd
/-- a statement, with what is so of the memory ahead of it -/
def dSo (w : SW) : SW := fun De ρ M => Wf M.length M → EvB M ρ → w De ρ M
theorem sn_so {t : TS} {w : SW} (h : Sn K W t w) : Sn K W t (dSo w) := fun G as σ H ρ M De Dv hh e x c => h _ _ _ _ _ _ _ _ hh e (x hh.wf (e.bd hh)) c
/-- .. behind it -/
def dThen (w : SW) : SW := fun De ρ M => w { De with nx := fun ρ' M' => Wf M'.length M' → EvB M' ρ' → De.nx ρ' M' } ρ M
theorem sn_then {t : TS} {w : SW} (h : Sn K W t w) : Sn K W t (dThen w) := fun G as σ H ρ M De Dv hh e x c => h _ _ _ _ _ _ _ _ hh e x ⟨fun G' as' σ' H' ρ' M' g h' e' p => c.nx _ _ _ _ _ _ g h' e' (p h'.wf (e'.bd h')), c.rt, c.bk, c.ct, c.ex⟩
theorem CV.wf {Qd : DK} {Q : VK} (c : CV K G as Qd Q) : CV K G as (fun d M => Wf M.length M → Bd M.length d → Qd d M) Q := fun G' as' H' M' v d g h r p => c _ _ _ _ _ _ g h r (p h.wf (by rw [← h.len]; exact r.bd))
theorem CE.wf {P : XD} {R : Addr → Addr → Hp → Prop} (c : CE K G as P R) : CE K G as (fun C fs M => Wf M.length M → Bdk M.length fs → P C fs M) R := fun G' as' H' M' C fs dd gs g h hd r p => c _ _ _ _ _ _ _ _ g h hd r (p h.wf (by rw [← h.len]; exact kvr_bd r))
end
section
variable {ι : Type} {X : ι → Cx} {K : PySem.W.Frag} {W : WX} {s : Stmt} {e : Expr}
theorem ds_so {w : SW} (h : DS X K W s w) : DS X K W s (dSo w) := by
  obtain ⟨t, a, b⟩ := h
  exact ⟨t, a, sn_so b⟩
theorem dss_so {ss : List Stmt} {w : SW} (h : DSs X K W ss w) : DSs X K W ss (dSo w) := by
  obtain ⟨t, a, b⟩ := h
  exact ⟨t, a, sn_so b⟩
theorem ds_or {w w' : SW} (h : DS X K W s w) (h' : DS X K W s w') : DS X K W s (fun De ρ M => w De ρ M ∨ w' De ρ M) := by
  obtain ⟨t, a, b⟩ := h
  obtain ⟨t', a', b'⟩ := h'
  refine ⟨fun D σ H => t D σ H ∨ t' D σ H, fun i => ⟨fun pins s σ H D I q => q.elim ((a i).run pins s σ H D I) ((a' i).run pins s σ H D I)⟩, fun G as σ H ρ M De Dv hh ev x c => x.elim (fun x => .inl (b _ _ _ _ _ _ _ _ hh ev x c)) fun x => .inr (b' _ _ _ _ _ _ _ _ hh ev x c)⟩
theorem de_or2 {w w' : DT} (h : DE X K W e w) (h' : DE X K W e w') : DE X K W e (fun ρ M Q X => w ρ M Q X ∨ w' ρ M Q X) := by
  obtain ⟨t, a, b⟩ := h
  obtain ⟨t', a', b'⟩ := h'
  refine ⟨fun σ H Q => t σ H Q ∨ t' σ H Q, fun i => ⟨fun pins s σ H Q I q => q.elim ((a i).run pins s σ H Q I) ((a' i).run pins s σ H Q I)⟩, fun G as σ H ρ M Qd Xd Q hh ev x c ce => x.elim (fun x => .inl (b _ _ _ _ _ _ _ _ _ hh ev x c ce)) fun x => .inr (b' _ _ _ _ _ _ _ _ _ hh ev x c ce)⟩
end

/-! ### calls of defs -/
abbrev FD := List D → Mm → DK → XD → Prop
def spD (K : PySem.W.Frag) (n : Nat) (F : FD) : Sp := fun vs H Q E => vs.length = n ∧ ∃ G as ds M Qd Xd, Hs K G as H M ∧ Rps K G as vs ds ∧ F ds M Qd Xd ∧ CV K G as Qd Q ∧ CE K G as Xd (fun C dd H' => E (.ref C) (some dd) H')
def dCallS (n : Nat) (F : FD) (wa : DTA) : DT := fun ρ M Q X => wa ρ M (fun ds M1 => ds.length = n ∧ F ds M1 Q X) X
section
variable {ι : Type} {X : ι → Cx} {K : PySem.W.Frag} {W : WX} {a b c e o : Expr} {es : List Expr} {pos p apos : Pos} {k n : Nat} {f : Addr} {fd : FuncData} {ps : List Str} {F : FD}
theorem dn_callS {ta : TA} {wa : DTA} (ha : DnA K W ta wa) : Dn K W (tCallS (spD K n F) (WE W) ta) (dCallS n F wa) := by
  intro G as σ H ρ M Qd Xd Q h ev w cv ce
  refine ha _ _ _ _ _ _ _ Xd _ h ev w (fun G1 as1 H1 M1 vs ds g1 h1 r1 w1 => ?_) ce
  exact ⟨by rw [r1.length]; exact w1.1, G1, as1, ds, M1, Qd, Xd, h1, r1, w1.2, cv.mono g1, ce.mono g1⟩
theorem de_callS {x : Str} {wa : DTA} (FO : ∀ i, FnOk (X i).prog (X i).w (X i).K (X i).mg (X i).base (L2.CX (X i).prog (X i).w) k f fd ps (spD K n F)) (hr : ∀ i, Room k (X i).A) (tk : ∀ i, Takes (X i) W) (hm : ∀ i, (X i).mg x = some (.ref f))
    (hk : ∀ i, PySem.W.keepIn (X i).K (.ref f) = true) (hb : ∀ i, Binds (X i).K fd ps []) (ha : DA X K W (e :: es) wa) (hg : ∀ i, Gl (X i) x := by intro _; rfl) (hdb : (x == ("__debug__" : Str)) = false := by decide)
    (he : ∀ i, starEach (e :: es) (X i).env = (false, eval e (X i).env) :: starEach es (X i).env := by intro _; rfl) (hpl : ∀ i, (backTo pos (starEach es (X i).env)).any (·.1) = false := by intro _; rfl) :
    DE X K W (.Call (.Name x p) (e :: es) [] pos) (dCallS n F wa) := by
  obtain ⟨ta, a1, a2⟩ := ha
  exact ⟨_, fun i => pe_callS (FO i) (hr i) (hg i) (hm i) (hk i) (hb i) (fun σ => passAt (tk i) σ) (a1 i) hdb (he i) (hpl i), dn_callS a2⟩
end
end DL

namespace DL
open PySem PySem.Spec PyProof.Rows L2

/-! ### methods of own classes -/
/-- o.m(e, ..): what it raises is wished for at the slots as they stand -/
def tMW (C : Addr) (m : Str) (sp : Sp) (W : WX) (ta : TE) (t : TA) : TE := fun σ H Q => ta σ H fun x H1 => ∃ a dx fs, x = .ref a ∧ H1 a = some (.ins C dx fs) ∧ fs.lookup m = none ∧ t σ H1 fun vs H2 => sp (x :: vs) H2 Q (WE W σ)
def dMeth (C : Addr) (m : Str) (n : Nat) (F : FD) (wo : DT) (wa : DTA) : DT := fun ρ M Q X => wo ρ M (fun o M1 => ∃ j fs, o = .ptr j ∧ M1[j]? = some (.ins C fs) ∧ fs.lookup m = none ∧ wa ρ M1 (fun ds M2 => ds.length + 1 = n ∧ F (o :: ds) M2 Q X) X) X
section
variable {ι : Type} {X : ι → Cx} {K : PySem.W.Frag} {W : WX} {a b c e o : Expr} {es : List Expr} {pos p apos : Pos} {k n : Nat} {f C : Addr} {fd : FuncData} {ps : List Str} {F : FD} {m : Str}
theorem dn_meth {to : TE} {ta : TA} {wo : DT} {wa : DTA} (ho : Dn K W to wo) (ha : DnA K W ta wa) : Dn K W (tMW C m (spD K n F) W to ta) (dMeth C m n F wo wa) := by
  intro G as σ H ρ M Qd Xd Q h ev w cv ce
  refine ho _ _ _ _ _ _ _ Xd _ h ev w (fun G1 as1 H1 M1 x d g1 h1 r1 w1 => ?_) ce
  obtain ⟨j, fs, rfl, e1, l1, w1⟩ := w1
  obtain ⟨a, rfl, hja, dx, gs, e2, kv⟩ := h1.ptr r1 e1
  refine ⟨a, dx, gs, rfl, e2, (kvr_lookup (f := m) kv).1 l1, ?_⟩
  refine ha _ _ _ _ _ _ _ Xd _ h1 (ev.mono g1) w1 (fun G2 as2 H2 M2 vs ds g2 h2 r2 w2 => ?_) (ce.mono g1)
  have g12 := g1.trans g2
  exact ⟨by rw [List.length_cons, r2.length]; exact w2.1, G2, as2, _, M2, Qd, Xd, h2, .cons (r1.mono g2) r2, w2.2, cv.mono g12, ce.mono g12⟩
theorem pe_mW {Y : Cx} {ta : TE} {t : TA} {sp : Sp} {pl : Sem Bool} (he : PE Y o ta) (c : Cls Y.K C) (hm : Meth Y.K C m f) (FO : FnOk Y.prog Y.w Y.K Y.mg Y.base (L2.CX Y.prog Y.w) k f fd ps sp) (hr : Room k Y.A) (hb : Binds Y.K fd ps []) (tk : Takes Y W) (ha : PA Y (e :: es) t)
    (hst : starEach (e :: es) Y.env = (false, eval e Y.env) :: starEach es Y.env) (hpl : (backTo pos (starEach es Y.env)).any (·.1) = false)
    (ht : eval (.Call (.Attribute o m apos) (e :: es) [] pos) Y.env = (do
      let ov ← eval o Y.env
      standAt apos.atName
      let (f, first) ← holding [ov] (getMethod ov m pl)
      callWith pos f first (backTo pos (starEach (e :: es) Y.env)) (backToKw pos (keywordEach [] Y.env)))) :
    PE Y (.Call (.Attribute o m apos) (e :: es) [] pos) (tMW C m sp W ta t) := by
  constructor
  intro pins s σ H Q I h
  refine PySem.W.methodCall_KW (pl := pl) (thn (he.run pins s σ H _ I h) ?_) ht
  rintro u s1 ⟨x, H1, I1, rx, a, dx, fs, ex, ea, l, q⟩
  subst ex
  have eu : u = Value.ref a := rx
  subst eu
  refine getmeth_ok I1 ea c hm l (PySem.W.callWith_K (first := [.ref a]) (h₀ := Y.base) I.ok.mod.kin hm.kp (thn (ha.run pos pins s1 σ H1 _ I1 q) ?_) hst hpl)
  rintro us s2 ⟨vs, H2, I2, r, q2⟩
  exact ⟨I2.kIn, run_fnS (us := .ref a :: us) (vs := .ref a :: vs) FO hr hb (passAt tk σ) I2 (.cons rfl r) q2⟩
theorem pe_mW0 {Y : Cx} {ta : TE} {sp : Sp} {pl : Sem Bool} (he : PE Y o ta) (c : Cls Y.K C) (hm : Meth Y.K C m f) (FO : FnOk Y.prog Y.w Y.K Y.mg Y.base (L2.CX Y.prog Y.w) k f fd ps sp) (hr : Room k Y.A) (hb : Binds Y.K fd ps []) (tk : Takes Y W)
    (ht : eval (.Call (.Attribute o m apos) [] [] pos) Y.env = (do
      let ov ← eval o Y.env
      standAt apos.atName
      let (f, first) ← holding [ov] (getMethod ov m pl)
      callWith pos f first (backTo pos (starEach [] Y.env)) (backToKw pos (keywordEach [] Y.env)))) :
    PE Y (.Call (.Attribute o m apos) [] [] pos) (tMW C m sp W ta tNil) := by
  constructor
  intro pins s σ H Q I h
  refine PySem.W.methodCall_KW (pl := pl) (thn (he.run pins s σ H _ I h) ?_) ht
  rintro u s1 ⟨x, H1, I1, rx, a, dx, fs, ex, ea, l, q⟩
  subst ex
  have eu : u = Value.ref a := rx
  subst eu
  exact getmeth_ok I1 ea c hm l (PySem.W.callWith_K0 (first := [.ref a]) I1.kIn hm.kp (run_fnS (us := [.ref a]) (vs := [.ref a]) FO hr hb (passAt tk σ) I1 (.cons rfl .nil) q))
theorem de_meth {pl : ι → Sem Bool} {wo : DT} {wa : DTA} (ho : DE X K W o wo) (c : ∀ i, Cls (X i).K C) (hm : ∀ i, Meth (X i).K C m f) (FO : ∀ i, FnOk (X i).prog (X i).w (X i).K (X i).mg (X i).base (L2.CX (X i).prog (X i).w) k f fd ps (spD K n F)) (hr : ∀ i, Room k (X i).A)
    (tk : ∀ i, Takes (X i) W) (hb : ∀ i, Binds (X i).K fd ps []) (ha : DA X K W (e :: es) wa) (hst : ∀ i, starEach (e :: es) (X i).env = (false, eval e (X i).env) :: starEach es (X i).env := by intro _; rfl) (hpl : ∀ i, (backTo pos (starEach es (X i).env)).any (·.1) = false := by intro _; rfl)
    (ht : ∀ i, eval (.Call (.Attribute o m apos) (e :: es) [] pos) (X i).env = (do
      let ov ← eval o (X i).env
      standAt apos.atName
      let (f, first) ← holding [ov] (getMethod ov m (pl i))
      callWith pos f first (backTo pos (starEach (e :: es) (X i).env)) (backToKw pos (keywordEach [] (X i).env))) := by intro _; rfl) :
    DE X K W (.Call (.Attribute o m apos) (e :: es) [] pos) (dMeth C m n F wo wa) := by
  obtain ⟨to, o1, o2⟩ := ho
  obtain ⟨ta, a1, a2⟩ := ha
  exact ⟨_, fun i => pe_mW (pl := pl i) (o1 i) (c i) (hm i) (FO i) (hr i) (hb i) (tk i) (a1 i) (hst i) (hpl i) (ht i), dn_meth o2 a2⟩
theorem de_meth0 {pl : ι → Sem Bool} {wo : DT} (ho : DE X K W o wo) (c : ∀ i, Cls (X i).K C) (hm : ∀ i, Meth (X i).K C m f) (FO : ∀ i, FnOk (X i).prog (X i).w (X i).K (X i).mg (X i).base (L2.CX (X i).prog (X i).w) k f fd ps (spD K n F)) (hr : ∀ i, Room k (X i).A)
    (tk : ∀ i, Takes (X i) W) (hb : ∀ i, Binds (X i).K fd ps [])
    (ht : ∀ i, eval (.Call (.Attribute o m apos) [] [] pos) (X i).env = (do
      let ov ← eval o (X i).env
      standAt apos.atName
      let (f, first) ← holding [ov] (getMethod ov m (pl i))
      callWith pos f first (backTo pos (starEach [] (X i).env)) (backToKw pos (keywordEach [] (X i).env))) := by intro _; rfl) :
    DE X K W (.Call (.Attribute o m apos) [] [] pos) (dMeth C m n F wo dNil) := by
  obtain ⟨to, o1, o2⟩ := ho
  exact ⟨_, fun i => pe_mW0 (pl := pl i) (o1 i) (c i) (hm i) (FO i) (hr i) (hb i) (tk i) (ht i), dn_meth o2 dn_nil⟩

/-! ### C(e, ..): a new instance -/
def dMake (C : Addr) (n : Nat) (F : FD) (wa : DTA) : DT := fun ρ M Q X => wa ρ M (fun ds M1 => ds.length + 1 = n ∧ F (.ptr M1.length :: ds) (M1 ++ [.ins C []]) (fun v M2 => v = .non ∧ Q (.ptr M1.length) M2) (fun _ _ _ => False)) X
theorem dn_make {ta : TA} {wa : DTA} (ha : DnA K W ta wa) : Dn K W (tMake C (spD K n F) [] E0 ta) (dMake C n F wa) := by
  intro G as σ H ρ M Qd Xd Q h ev w cv ce
  refine ha _ _ _ _ _ _ _ Xd _ h ev w (fun G1 as1 H1 M1 vs ds g1 h1 r1 w1 => ?_) ce
  intro x dx nx nd ne
  rw [List.append_nil]
  have hj := h1.junk (o := .own x) nd
  have nx' : upd H1 dx (.own x) x = none := by rw [upd_ne (Ne.symm ne)]; exact nx
  have x0 : Gr G1 as1 G1 (as1 ++ [x]) := ⟨Same.refl _, List.prefix_append _ _⟩
  obtain ⟨g2, h2⟩ := hj.push (m := .ins C []) nx' (same_upd nx') ⟨dx, [], upd_same, .nil⟩
  have hp : Rp K G1 (as1 ++ [x]) (.ref x) (.ptr M1.length) := .ptr (by rw [← h1.len]; exact last_get _ _)
  refine ⟨by rw [List.length_cons, r1.length]; exact w1.1, G1, _, _, _, _, _, h2, .cons hp (r1.mono g2), w1.2, fun G3 as3 H3 M3 v d g3 h3 r3 w3 => ?_, fun _ _ _ _ _ _ _ _ _ _ _ _ z => z.elim⟩
  obtain ⟨rfl, q⟩ := w3
  exact ⟨r3.non_inv, cv _ _ _ _ _ _ ((g1.trans g2).trans g3) h3 (hp.mono g3) q⟩
theorem de_make {x : Str} {wa : DTA} (Mm : ∀ i, Mk (X i).K C f) (FO : ∀ i, FnOk (X i).prog (X i).w (X i).K (X i).mg (X i).base (L2.CX (X i).prog (X i).w) k f fd ps (spD K n F)) (hr : ∀ i, Room (k + 1) (X i).A) (hm : ∀ i, (X i).mg x = some (.ref C)) (hb : ∀ i, Binds (X i).K fd ps [])
    (ha : DA X K W (e :: es) wa) (hg : ∀ i, Gl (X i) x := by intro _; rfl) (hdb : (x == ("__debug__" : Str)) = false := by decide) (he : ∀ i, starEach (e :: es) (X i).env = (false, eval e (X i).env) :: starEach es (X i).env := by intro _; rfl)
    (hpl : ∀ i, (backTo pos (starEach es (X i).env)).any (·.1) = false := by intro _; rfl) : DE X K W (.Call (.Name x p) (e :: es) [] pos) (dMake C n F wa) := by
  obtain ⟨ta, a1, a2⟩ := ha
  exact ⟨_, fun i => pe_make (Mm i) (FO i) (hr i) (hg i) (hm i) (hb i) .nil passL (a1 i) hdb (he i) (hpl i), dn_make a2⟩
end

/-! ### a def by its body -/
/-- the entries of a def -/
def BI (k : Nat) (qual : Str) (sc : Scope) (f : Addr) : Type := {p : Value × Around × List Env × Shared × Hp // Room k (p.2.1.deeper (envOfC qual sc p.2.2.2.1.heap.objs.size f p.1))}
/-- the contexts of its body -/
def XB (P : Program) (w : World) (K : PySem.W.Frag) (mg : Str → Option Value) (base : Heap) (N : List Str) (qual : Str) (sc : Scope) (f : Addr) (k : Nat) (E : XK) (p : BI k qual sc f) : Cx := cxOf (L2.CX P w) P w K mg base N qual sc f p.1.1 p.1.2.1 p.1.2.2.1 p.1.2.2.2.1 p.1.2.2.2.2 E
abbrev WF (E : XK) : WX := fun cls d _ H => E cls d H
def startD (n : Nat) (ds : List D) : Ev := ds.map some ++ List.replicate (n - ds.length) none
def DsF (M : Mm) (Qd : DK) (Xd : XD) : Ds := { nx := fun _ M' => Wf M'.length M' → UpV M.length Qd .non M', rt := fun d M' => Wf M'.length M' → Bd M'.length d → UpV M.length Qd d M', ex := fun C fs _ M' => Wf M'.length M' → Bdk M'.length fs → UpX M.length Xd C fs M' }
theorem evs_start {K : PySem.W.Frag} {G : Hp} {as : List Addr} {N : List Str} {vs : List V} {ds : List D} (r : Rps K G as vs ds) : Evs K G as (L2.start N vs) (startD N.length ds) := by
  unfold L2.start startD
  rw [← r.length]
  refine ⟨by simp [r.length], fun i d e => ?_⟩
  by_cases hi : i < ds.length
  · rw [List.getElem?_append_left (by simpa using hi), List.getElem?_map] at e
    cases q : ds[i]? with
    | none => rw [q] at e; cases e
    | some d' =>
      rw [q] at e
      have e' := Option.some.inj (Option.some.inj e)
      subst e'
      obtain ⟨v, h1, h2⟩ := r.get q
      refine ⟨v, ?_, h2⟩
      rw [List.getElem?_append_left (by rw [List.length_map, r.length]; exact hi), List.getElem?_map, h1]
      rfl
  · rw [List.getElem?_append_right (by simpa using hi), List.getElem?_replicate] at e
    split at e <;> cases e
section
variable {P : Program} {w : World} {K : PySem.W.Frag} {mg : Str → Option Value} {base : Heap}
theorem xb_takes {N : List Str} {qual : Str} {sc : Scope} {f : Addr} {k : Nat} {E : XK} (p : BI k qual sc f) : Takes (XB P w K mg base N qual sc f k E p) (WF E) := takes_of rfl rfl rfl rfl
theorem xb_room {N : List Str} {qual : Str} {sc : Scope} {f : Addr} {k : Nat} {E : XK} (p : BI k qual sc f) : Room k (XB P w K mg base N qual sc f k E p).A := p.2
theorem fn_d {x qual : Str} {st : Stmt} {f : Addr} {fd : FuncData} {N ps : List Str} {k : Nat} {F : FD} (Fn : Fun K x qual st f fd) (S : FnScope N ps (defScope st)) {wb : SW} (hb : ∀ E, DSs (XB P w K mg base N qual (defScope st) f k E) K (WF E) (defBody st) wb)
    (hp : ∀ ds M Qd Xd, ds.length = ps.length → F ds M Qd Xd → Wf M.length M → Bds M.length ds → wb (DsF M Qd Xd) (startD N.length ds) M) :
    FnOk P w K mg base (L2.CX P w) (k + 1) f fd ps (spD K ps.length F) := by
  refine Fn.okX S (fun vs H Q E h => h.1) fun cdv A outer s H vs Q E hr h => ?_
  obtain ⟨hl, G, as, ds, M, Qd, Xd, hh, r, q, cv, ce⟩ := h
  obtain ⟨t, t1, t2⟩ := hb E
  refine ⟨t, t1 ⟨(cdv, A, outer, s, H), hr⟩, ?_⟩
  have hd : ds.length = ps.length := by rw [← r.length]; exact hl
  have b1 := r.bd
  rw [hh.len] at b1
  have q' := hp ds M Qd Xd hd q hh.wf b1
  have cu := (cv.up hh.len).wf
  have xu := (ce.up hh.len).wf
  exact t2 _ _ _ _ _ _ _ _ hh (evs_start r) q' ⟨fun G' as' σ' H' ρ' M' g h' e' p => cu _ _ _ _ _ _ g h' .non (fun w _ => p w), cu, fun _ _ _ _ _ _ _ _ _ z => z.elim, fun _ _ _ _ _ _ _ _ _ z => z.elim, fun G' as' σ' H' ρ' M' C fs dd gs g h' e' hd kv p => xu _ _ _ _ _ _ _ _ g h' hd kv p⟩
end
end DL

namespace DL
open PySem PySem.Spec PyProof.Rows L2

/-! ### try: body, except A: .., except B as n: .. -/
structure VCl where
  c : Value
  at_ : Option Nat
  t : Addr → Value → Option Addr → TS
def setO {α : Type} (σ : List (Option α)) : Option Nat → Option α → List (Option α)
  | none, _ => σ
  | some i, v => σ.set i v
/-- the ends of a clause's suite: its name goes -/
def endO (D : Ends) (o : Option Nat) : Ends := { nx := fun σ' H' => D.nx (setO σ' o none) H', rt := D.rt, bk := fun σ' H' => D.bk (setO σ' o none) H', ct := fun σ' H' => D.ct (setO σ' o none) H' }
def wClauses (K : PySem.W.Frag) (Wout : WX) (D : Ends) : List VCl → WX
  | [] => Wout
  | q :: r => fun cls d σ H => ∃ b, PySem.W.exmOne K cls q.c = some b ∧ (b = true → ∀ a, H a = none → q.t a cls d (endO D q.at_) (setO σ q.at_ (some (.ref a))) H) ∧ (b = false → wClauses K Wout D r cls d σ H)
inductive ClausesOk (X : Cx) : List ExceptHandler → List VCl → Prop
  | nil : ClausesOk X [] []
  | bare {x : Str} {q : VCl} {b₀ : Stmt} {bs : List Stmt} {p1 p2 : Pos} {hds : List ExceptHandler} {l : List VCl} (hn : Names X x q.c) (ho : q.at_ = none)
      (hsu : ∀ (a : Addr) (oe : Obj) (cls : Value) (d : Option Addr) (pn : List (Addr × Obj)), Zc cls d oe → (∃ vs, oe.data = .fields vs) → PSs (X.suite a ((a, oe) :: pn)) (b₀ :: bs) (q.t a cls d)) (r : ClausesOk X hds l) :
      ClausesOk X (.ExceptHandler (some (.Name x p1)) none (b₀ :: bs) p2 :: hds) (q :: l)
  | named {x n : Str} {i : Nat} {q : VCl} {b₀ : Stmt} {bs : List Stmt} {p1 p2 : Pos} {hds : List ExceptHandler} {l : List VCl} (hn : Names X x q.c) (ho : q.at_ = some i) (hN : X.N.Nodup) (hi : X.N[i]? = some n) (hl : X.env.kindOf n = some .local)
      (hsu : ∀ (a : Addr) (oe : Obj) (cls : Value) (d : Option Addr) (pn : List (Addr × Obj)), Zc cls d oe → (∃ vs, oe.data = .fields vs) → PSs (X.suite a ((a, oe) :: pn)) (b₀ :: bs) (q.t a cls d)) (r : ClausesOk X hds l) :
      ClausesOk X (.ExceptHandler (some (.Name x p1)) (some n) (b₀ :: bs) p2 :: hds) (q :: l)
section
variable {X : Cx} {body : List Stmt} {h₀ : ExceptHandler} {hds : List ExceptHandler} {l : List VCl} {pos : Pos} {tb : WX → TS} {Wout : WX}
theorem ps_clauses (hs : X.stack = X.env :: X.outer) (hf : X.env.frame = some X.env.locals) (tk : Takes X Wout)
    (hb : ∀ (W : WX) (pn : List (Addr × Obj)) (xe : Value → Shared → Prop), Takes (X.tr pn xe) W → PassesOwn (model X.prog X.w) X.A X.env xe → PSs (X.tr pn xe) body (tb W))
    (hh : ClausesOk X (h₀ :: hds) l) : PS X (.Try body (h₀ :: hds) [] [] pos) (fun D σ H => tb (wClauses X.K Wout D l) D σ H) := by
  constructor
  intro pins s σ H D I h
  have okX := I.ok
  have frms : X.A.frames = some (X.env :: X.outer) := okX.frames.trans (congrArg some hs)
  let air : Value → Shared → Prop := fun e s₁ => wpAny (model X.prog X.w) X.A (noteFrame e X.env) (fun _ s₂ => wpAny (model X.prog X.w) X.A (setFlight e none)
    (fun _ s₃ => wpAny (model X.prog X.w) X.A (handleBy e X.env (h₀ :: hds)) (SP X pins D) X.xe s₃) X.xe s₂) X.xe s₁
  have caught : Takes (X.tr (X.pn ++ pins) air) (wClauses X.K Wout D l) := by
    intro u s' xx
    obtain ⟨a, B, sI, pins', σ', H', cls, d, rfl, J', nb, up, sky, na, os, ag, wish⟩ := xx
    have JJ : Inv X pins σ' H' sI := J'.ofTry okX
    have skyX : Sky B (X.env :: X.outer) a (Zc cls d) X.env.locals s'.heap := hs ▸ sky
    show wpAny (model X.prog X.w) X.A (noteFrame (.ref a) X.env) _ _ _
    refine Sky.land Zc.steady frms hf skyX ?_
    intro hp3 fl up3
    have J3 : Inv X pins σ' H' { s' with heap := hp3 } := JJ.landed nb fl.1 (up.trans up3) os ag
    obtain ⟨ob3, vs3, at3, z3, d3⟩ := fl.there
    have apart : a ∉ frs (X.env :: X.outer) := by
      intro hm
      obtain ⟨_, o', e', hnf⟩ := fl.2.2.1.mem hm
      rw [at3] at e'
      cases e'
      exact hnf _ d3
    have aL : a ≠ X.env.locals := by
      intro z
      exact apart (List.mem_filterMap.mpr ⟨X.env, List.mem_cons_self, by rw [hf, z]⟩)
    have aF : a ∉ X.fs := by
      intro hm
      obtain ⟨e, he, q⟩ := List.mem_filterMap.mp hm
      exact apart (List.mem_filterMap.mpr ⟨e, List.mem_cons_of_mem _ he, q⟩)
    have SU := J3.suite at3 d3 na aL aF
    have key : ∀ {hs' : List ExceptHandler} {l' : List VCl}, ClausesOk X hs' l' → wClauses X.K Wout D l' cls d σ' H' → wpAny (model X.prog X.w) X.A (handleBy (.ref a) X.env hs') (SP X pins D) X.xe { s' with heap := hp3 } := by
      intro hs' l' ck
      have tested : ∀ {x : Str} {c : Value} {np : Pos} {Q : Value → Shared → Prop} {E : Value → Shared → Prop}, Names X x c → Q c { s' with heap := hp3 } → wpAny (model X.prog X.w) (X.A.mark (some (.ref a))) (eval (.Name x np) X.env) Q E { s' with heap := hp3 } := by
        intro x c np Q E hc q
        obtain ⟨hg, hdbg, hm⟩ := hc
        rcases hm with hm | ⟨hm, hv, hnn⟩
        · exact ld_glob (X := X.suite a ((a, ob3) :: (X.pn ++ pins))) SU hg hm q hdbg
        · exact ld_blt (X := X.suite a ((a, ob3) :: (X.pn ++ pins))) SU hg hm hv q hnn hdbg
      have typed : PySem.W.Looks (model X.prog X.w) hp3 (typeOf (.ref a)) cls := by
        intro A Q E s k q
        exact wpAny_typeOf_ref (k _ _ at3) (by rw [z3.1]; exact q)
      induction ck with
      | nil =>
        intro wo
        refine wpAny_handleBy_nil ?_
        obtain ⟨_, _, _, oe, vs, T, _, _, he, _, hd, h1, _⟩ := id fl
        unfold PySem.passOn
        refine wpAny_bind (wpAny_field he hd h1 ?_)
        rw [if_neg (show ¬ ((Value.ref T == Value.none) = true) from by simp)]
        have away : wpAny (model X.prog X.w) X.A (setFlight (.ref a) X.env.frame) (fun _ s4 => wpAny (model X.prog X.w) X.A (throw (.ref a) : Sem Flow) (SP X pins D) X.xe s4) X.xe { s' with heap := hp3 } := by
          rw [hf]
          refine HandSPX.setFlight_upZ fl ?_
          intro hp4 held up4
          exact wpAny_throw (tk _ _ ⟨a, B, sI, pins, σ', H', cls, d, rfl, JJ, nb, (up.trans up3).trans up4, .inr (.inr (by rw [hs]; exact held)), na, os, ag, wo⟩)
        first
          | exact wpAny_bind (wpAny_pure (wpAny_bind away))
          | exact wpAny_bind away
      | @bare x q b₀ bs p1 p2 hds2 l2 hn ho hsu r ih =>
        rintro ⟨b, hb1, yes, no⟩
        refine wpAny_handleBy_cons (codeAny_handlers_test ?_) (by intro q; cases q)
        refine tested hn ((PySem.W.exm_one (M := model X.prog X.w) (J3.kIn) typed hb1).here ?_)
        cases b with
        | false => exact ih (no rfl)
        | true =>
          refine codeAny_handlers_suite (HandSPX.lands_againZ fl ?_)
          intro hp4 fl4 up4
          have J4 : Inv X pins σ' H' { s' with heap := hp4 } := JJ.landed nb fl4.1 ((up.trans up3).trans up4) os ag
          obtain ⟨ob4, vs4, at4, z4, d4⟩ := fl4.there
          have y := yes rfl a na
          rw [ho] at y
          refine wpAny_mono ((hsu a ob4 cls d (X.pn ++ pins) z4 ⟨_, d4⟩).run [] _ _ H' _ (J4.suite at4 d4 na aL aF) y) ?_ (fun _ _ z => z.elim)
          intro g s6 hsp
          cases g with
          | ret u =>
            obtain ⟨v6, σ6, H6, S6, r6, q6⟩ := hsp
            exact ⟨v6, σ6, H6, S6.unsuite okX, r6, q6⟩
          | next =>
            obtain ⟨σ6, H6, S6, q6⟩ := hsp
            exact ⟨σ6, H6, S6.unsuite okX, q6⟩
          | brk =>
            obtain ⟨σ6, H6, S6, q6⟩ := hsp
            exact ⟨σ6, H6, S6.unsuite okX, q6⟩
          | cont =>
            obtain ⟨σ6, H6, S6, q6⟩ := hsp
            exact ⟨σ6, H6, S6.unsuite okX, q6⟩
      | @named x n i q b₀ bs p1 p2 hds2 l2 hn ho hN hi hl hsu r ih =>
        rintro ⟨b, hb1, yes, no⟩
        refine wpAny_handleBy_cons (codeAny_handlers_test ?_) (by intro q; cases q)
        refine tested hn ((PySem.W.exm_one (M := model X.prog X.w) (J3.kIn) typed hb1).here ?_)
        cases b with
        | false => exact ih (no rfl)
        | true =>
          refine codeAny_handlers_suite_as (HandSPX.lands_againZ fl ?_)
          intro hp4 fl4 up4
          have J4 : Inv X pins σ' H' { s' with heap := hp4 } := JJ.landed nb fl4.1 ((up.trans up3).trans up4) os ag
          obtain ⟨ob4, vs4, at4, z4, d4⟩ := fl4.there
          have y := yes rfl a na
          rw [ho] at y
          refine store_ok (X := X.suite a ((a, ob4) :: (X.pn ++ pins))) (v := .ref a) (J4.suite at4 d4 na aL aF) hN hi (.inl hl) rfl ?_ (.inr hl)
          intro s5 S5
          refine wpAny_mono ((hsu a ob4 cls d (X.pn ++ pins) z4 ⟨_, d4⟩).run [] s5 _ H' _ S5 y) ?_ (fun _ _ z => z.elim)
          intro g s6 hsp
          have bye : ∀ {σ6 : L2.St} {H6 : Hp} {Q : Shared → Prop}, Inv (X.suite a ((a, ob4) :: (X.pn ++ pins))) [] σ6 H6 s6 → (∀ s7, Inv X pins (σ6.set i none) H6 s7 → Q s7) → wpAny (model X.prog X.w) X.A (do bindName X.env n .none; unbindBehindTheSuite X.env n p2) (fun _ s7 => Q s7) X.xe s6 :=
            fun S6 hq => gone_ok (S6.unsuite okX) hN hi hl hq
          cases g with
          | ret u =>
            obtain ⟨v6, σ6, H6, S6, r6, q6⟩ := hsp
            exact bye S6 fun s7 J7 => ⟨v6, _, H6, J7, r6, q6⟩
          | next =>
            obtain ⟨σ6, H6, S6, q6⟩ := hsp
            exact bye S6 fun s7 J7 => ⟨_, H6, J7, q6⟩
          | brk =>
            obtain ⟨σ6, H6, S6, q6⟩ := hsp
            exact bye S6 fun s7 J7 => ⟨_, H6, J7, q6⟩
          | cont =>
            obtain ⟨σ6, H6, S6, q6⟩ := hsp
            exact bye S6 fun s7 J7 => ⟨_, H6, J7, q6⟩
    exact key hh wish
  refine wpAny_Try_except (wpAny_mono ((hb (wClauses X.K Wout D l) (X.pn ++ pins) air caught PassesOwn.looking).run [] s σ H D (I.toTry _) h) ?_ (fun e s1 he => he))
  intro g s1 hsp
  cases g with
  | ret u =>
    obtain ⟨v, σ1, H1, J1, r1, q1⟩ := hsp
    exact ⟨v, σ1, H1, J1.ofTry okX, r1, q1⟩
  | next =>
    obtain ⟨σ1, H1, J1, q1⟩ := hsp
    exact wpAny_execs_nil ⟨σ1, H1, J1.ofTry okX, q1⟩
  | brk =>
    obtain ⟨σ1, H1, J1, q1⟩ := hsp
    exact ⟨σ1, H1, J1.ofTry okX, q1⟩
  | cont =>
    obtain ⟨σ1, H1, J1, q1⟩ := hsp
    exact ⟨σ1, H1, J1.ofTry okX, q1⟩
end

/-! ### .. by data -/
structure DCl where
  c : Value
  at_ : Option Nat
  w : Addr → Addr → Addr → SW
def endD (De : Ds) (o : Option Nat) : Ds := { nx := fun ρ' M' => De.nx (setO ρ' o none) M', rt := De.rt, ex := fun _ _ _ _ => False, bk := fun ρ' M' => De.bk (setO ρ' o none) M', ct := fun ρ' M' => De.ct (setO ρ' o none) M' }
def dClauses (K : PySem.W.Frag) (De : Ds) : List DCl → XN
  | [] => De.ex
  | q :: r => fun C fs ρ M => ∃ b, PySem.W.exmOne K (.ref C) q.c = some b ∧ (b = true → ∀ a dd, q.w a C dd (endD De q.at_) (setO ρ q.at_ (some (.xc a dd (fs.map (·.1)) (fs.map (·.2))))) M) ∧ (b = false → dClauses K De r C fs ρ M)
def dTry (K : PySem.W.Frag) (wb : SW) (l : List DCl) : SW := fun De ρ M => wb { De with ex := dClauses K De l } ρ M
abbrev WN : WX := fun _ _ _ _ => False
section
variable {K : PySem.W.Frag} {W : WX} {G : Hp} {as : List Addr} {H : Hp} {M : Mm} {σ : L2.St} {ρ : Ev}
theorem Evs.setO {v : V} {d : D} (e : Evs K G as σ ρ) (o : Option Nat) (r : Rp K G as v d) : Evs K G as (DL.setO σ o (some v)) (DL.setO ρ o (some d)) := by
  cases o with
  | none => exact e
  | some i => exact e.set i r
theorem Evs.wipeO (e : Evs K G as σ ρ) (o : Option Nat) : Evs K G as (DL.setO σ o none) (DL.setO ρ o none) := by
  cases o with
  | none => exact e
  | some i => exact e.wipe i
theorem CS.endO {De : Ds} {Dv : Ends} (c : CS K W G as De Dv) (o : Option Nat) : CS K WN G as (endD De o) (DL.endO Dv o) :=
  ⟨fun _ _ _ _ _ _ g h e p => c.nx _ _ _ _ _ _ g h (e.wipeO o) p, c.rt, fun _ _ _ _ _ _ g h e p => c.bk _ _ _ _ _ _ g h (e.wipeO o) p, fun _ _ _ _ _ _ g h e p => c.ct _ _ _ _ _ _ g h (e.wipeO o) p, fun _ _ _ _ _ _ _ _ _ _ _ _ _ _ _ z => z.elim⟩
theorem xd_out (h : Hs K G as H M) {dd : Addr} {gs : List (Str × V)} (e : H dd = some (.xd gs)) : dd ∉ as := fun hm => by
  obtain ⟨i, hi⟩ := List.mem_iff_getElem?.mp hm
  have hl : i < M.length := by rw [← h.len]; exact (List.getElem?_eq_some_iff.mp hi).1
  have q := h.ob i dd M[i] hi (List.getElem?_eq_getElem hl)
  cases hM : M[i] with
  | lst xs => rw [hM] at q; obtain ⟨_, e', _⟩ := q; rw [e] at e'; cases e'
  | dK xs => rw [hM] at q; obtain ⟨_, e', _⟩ := q; rw [e] at e'; cases e'
  | lk o ks xs => rw [hM] at q; obtain ⟨e', _⟩ := q; rw [e] at e'; cases e'
  | ins C xs => rw [hM] at q; obtain ⟨_, _, e', _⟩ := q; rw [e] at e'; cases e'
/-- what stands may be taken for good -/
theorem Hs.fix (h : Hs K G as H M) {dd : Addr} {o : HO} (e : H dd = some o) (n : dd ∉ as) : Gr G as (upd G dd o) as ∧ Hs K (upd G dd o) as H M := by
  have x : Gr G as (upd G dd o) as := ⟨fun b u q => by
    by_cases hb : b = dd
    · subst hb
      have z := h.sub b u q
      rw [e] at z
      rw [upd_same]
      exact z
    · rw [upd_ne hb]
      exact q, List.prefix_refl _⟩
  refine ⟨x, fun b u q => ?_, h.len, h.nd, fun a ha => ?_, fun i a m e1 e2 => (h.ob i a m e1 e2).mono x⟩
  · by_cases hb : b = dd
    · subst hb
      rw [upd_same] at q
      rw [← q]
      exact e
    · rw [upd_ne hb] at q
      exact h.sub b u q
  · rw [upd_ne (fun z : a = dd => n (z ▸ ha))]
    exact h.out a ha
theorem kvr_zip {κ : Type} : ∀ {ps : List (κ × V)} {qs : List (κ × D)}, Kvr K G as ps qs → ∃ vs, ps = (qs.map (·.1)).zip vs ∧ Rps K G as vs (qs.map (·.2))
  | _, _, .nil => ⟨[], rfl, .nil⟩
  | (p, x) :: ps, q :: qs, .cons a b => by
    obtain ⟨vs, e, r⟩ := kvr_zip b
    refine ⟨x :: vs, ?_, .cons a.2 r⟩
    have e1 : p = q.1 := a.1
    rw [List.map_cons, List.zip_cons_cons, ← e, e1]
/-- the clauses, value against data -/
inductive ClR (K : PySem.W.Frag) : VCl → DCl → Prop
  | mk {q : VCl} {p : DCl} (ec : q.c = p.c) (ea : q.at_ = p.at_) (h : ∀ a C dd, Sn K WN (q.t a (.ref C) (some dd)) (p.w a C dd)) : ClR K q p
inductive ClRs (K : PySem.W.Frag) : List VCl → List DCl → Prop
  | nil : ClRs K [] []
  | cons {q : VCl} {p : DCl} {vl : List VCl} {dl : List DCl} (h : ClR K q p) (r : ClRs K vl dl) : ClRs K (q :: vl) (p :: dl)
theorem cxn_clauses {De : Ds} {Dv : Ends} : ∀ {vl : List VCl} {dl : List DCl}, ClRs K vl dl → CS K W G as De Dv → CXN K G as (dClauses K De dl) (wClauses K W Dv vl)
  | _, _, .nil, c => c.ex
  | _, _, .cons (q := q) (p := p) r rs, c => by
    obtain ⟨ec, ea, hsu⟩ := r
    intro G' as' σ' H' ρ' M' C fs dd gs g h e hd kv w
    obtain ⟨b, hb, y, n⟩ := w
    refine ⟨b, by rw [ec]; exact hb, fun eb a na => ?_, fun eb => cxn_clauses rs c _ _ _ _ _ _ _ _ _ _ g h e hd kv (n eb)⟩
    obtain ⟨g2, h2⟩ := h.fix hd (xd_out h hd)
    obtain ⟨vs, ez, rv⟩ := kvr_zip kv
    have rx : Rp K (upd G' dd (.xd gs)) as' (.ref a) (.xc a dd (fs.map (·.1)) (fs.map (·.2))) := .xc (by rw [← ez]; exact upd_same) (rv.mono g2)
    have q1 := y eb a dd
    rw [← ea] at q1
    exact hsu a C dd _ _ _ _ _ _ _ _ h2 ((e.mono g2).setO _ rx) q1 ((c.endO q.at_).mono (g.trans g2))
end
section
variable {ι : Type} {X : ι → Cx} {K : PySem.W.Frag} {W : WX} {body : List Stmt} {h₀ : ExceptHandler} {hds : List ExceptHandler} {pos : Pos} {e : Expr}
/-- the contexts of a try's body -/
def TI (X : ι → Cx) (W : WX) : Type := {q : ι × List (Addr × Obj) × (Value → Shared → Prop) // Takes ((X q.1).tr q.2.1 q.2.2) W ∧ PassesOwn (model (X q.1).prog (X q.1).w) (X q.1).A (X q.1).env q.2.2}
def XT (X : ι → Cx) (W : WX) (q : TI X W) : Cx := (X q.1.1).tr q.1.2.1 q.1.2.2
theorem xt_takes {W' : WX} (q : TI X W') : Takes (XT X W' q) W' := q.2.1
/-- the contexts of a clause's suite -/
def SI (ι : Type) (C dd : Addr) : Type := {q : ι × Obj × List (Addr × Obj) // Zc (.ref C) (some dd) q.2.1 ∧ ∃ vs, q.2.1.data = .fields vs}
def XS (X : ι → Cx) (a C dd : Addr) (q : SI ι C dd) : Cx := (X q.1.1).suite a ((a, q.1.2.1) :: q.1.2.2)
inductive DHds (X : ι → Cx) (K : PySem.W.Frag) : List ExceptHandler → List DCl → Prop
  | nil : DHds X K [] []
  | bare {x : Str} {q : DCl} {b₀ : Stmt} {bs : List Stmt} {p1 p2 : Pos} {hds : List ExceptHandler} {l : List DCl} (hn : ∀ i, Names (X i) x q.c) (ho : q.at_ = none) (hsu : ∀ a C dd, DSs (XS X a C dd) K WN (b₀ :: bs) (q.w a C dd)) (r : DHds X K hds l) :
      DHds X K (.ExceptHandler (some (.Name x p1)) none (b₀ :: bs) p2 :: hds) (q :: l)
  | named {x n : Str} {j : Nat} {q : DCl} {b₀ : Stmt} {bs : List Stmt} {p1 p2 : Pos} {hds : List ExceptHandler} {l : List DCl} (hn : ∀ i, Names (X i) x q.c) (ho : q.at_ = some j) (hN : ∀ i, (X i).N.Nodup) (hi : ∀ i, (X i).N[j]? = some n) (hl : ∀ i, (X i).env.kindOf n = some .local)
      (hsu : ∀ a C dd, DSs (XS X a C dd) K WN (b₀ :: bs) (q.w a C dd)) (r : DHds X K hds l) : DHds X K (.ExceptHandler (some (.Name x p1)) (some n) (b₀ :: bs) p2 :: hds) (q :: l)
/-- a suite's reading, where the exception is no plain one: nothing is told -/
def tSu (t : Addr → Addr → Addr → TS) : Addr → Value → Option Addr → TS := fun a cls d D σ H => ∃ C dd, cls = .ref C ∧ d = some dd ∧ t a C dd D σ H
theorem pss_su {Y : Cx} {bs : List Stmt} {a : Addr} {oe : Obj} {cls : Value} {d : Option Addr} {pn : List (Addr × Obj)} {t : Addr → Addr → Addr → TS} (h : ∀ C dd, cls = .ref C → d = some dd → PSs (Y.suite a ((a, oe) :: pn)) bs (t a C dd)) : PSs (Y.suite a ((a, oe) :: pn)) bs (tSu t a cls d) := by
  constructor
  rintro pins s σ H D I ⟨C, dd, e1, e2, q⟩
  exact (h C dd e1 e2).run pins s σ H D I q
theorem sn_su {t : Addr → Addr → Addr → TS} {w : SW} {a C dd : Addr} (h : Sn K WN (t a C dd) w) : Sn K WN (tSu t a (.ref C) (some dd)) w := fun G as σ H ρ M De Dv hh ev x c => ⟨C, dd, rfl, rfl, h _ _ _ _ _ _ _ _ hh ev x c⟩
theorem dhds_ok {hds : List ExceptHandler} {dl : List DCl} (h : DHds X K hds dl) : ∃ vl, (∀ i, ClausesOk (X i) hds vl) ∧ ClRs K vl dl := by
  induction h with
  | nil => exact ⟨[], fun _ => .nil, .nil⟩
  | @bare x q b₀ bs p1 p2 hds l hn ho hsu r ih =>
    obtain ⟨vl, h1, h2⟩ := ih
    refine ⟨⟨q.c, q.at_, tSu fun a C dd => (hsu a C dd).choose⟩ :: vl, fun i => .bare (hn i) ho (fun a oe cls d pn hz hf => pss_su (Y := X i) (t := fun a C dd => (hsu a C dd).choose) fun C dd e1 e2 => ?_) (h1 i), .cons (.mk rfl rfl fun a C dd => sn_su (t := fun a C dd => (hsu a C dd).choose) (hsu a C dd).choose_spec.2) h2⟩
    subst e1
    subst e2
    exact (hsu a C dd).choose_spec.1 ⟨(i, oe, pn), hz, hf⟩
  | @named x n j q b₀ bs p1 p2 hds l hn ho hN hi hl hsu r ih =>
    obtain ⟨vl, h1, h2⟩ := ih
    refine ⟨⟨q.c, q.at_, tSu fun a C dd => (hsu a C dd).choose⟩ :: vl, fun i => .named (hn i) ho (hN i) (hi i) (hl i) (fun a oe cls d pn hz hf => pss_su (Y := X i) (t := fun a C dd => (hsu a C dd).choose) fun C dd e1 e2 => ?_) (h1 i), .cons (.mk rfl rfl fun a C dd => sn_su (t := fun a C dd => (hsu a C dd).choose) (hsu a C dd).choose_spec.2) h2⟩
    subst e1
    subst e2
    exact (hsu a C dd).choose_spec.1 ⟨(i, oe, pn), hz, hf⟩
theorem ds_try {wb : SW} {l : List DCl} (hK : ∀ i, (X i).K = K) (hs : ∀ i, (X i).stack = (X i).env :: (X i).outer) (hf : ∀ i, (X i).env.frame = some (X i).env.locals) (tk : ∀ i, Takes (X i) W) (hb : ∀ W', DSs (XT X W') K W' body wb) (hh : DHds X K (h₀ :: hds) l) :
    DS X K W (.Try body (h₀ :: hds) [] [] pos) (dTry K wb l) := by
  obtain ⟨vl, h1, h2⟩ := dhds_ok hh
  refine ⟨fun D σ H => (hb (wClauses K W D vl)).choose D σ H, fun i => ?_, ?_⟩
  · have q := ps_clauses (pos := pos) (tb := fun W' => (hb W').choose) (hs i) (hf i) (tk i) (fun W' pn xe t p => (hb W').choose_spec.1 ⟨(i, pn, xe), t, p⟩) (h1 i)
    rw [hK i] at q
    exact q
  · intro G as σ H ρ M De Dv hh ev w c
    exact (hb (wClauses K W Dv vl)).choose_spec.2 _ _ _ _ _ _ _ _ hh ev w ⟨c.nx, c.rt, c.bk, c.ct, cxn_clauses h2 c⟩
/-- e.f in the suite -/
def dXf (we : DT) (a dd : Addr) (f : Str) : DT := fun ρ M Q X => we ρ M (fun d M1 => ∃ ks ds v, d = .xc a dd ks ds ∧ (ks.zip ds).lookup f = some v ∧ Q v M1) X
theorem zip_lookup {G : Hp} {as : List Addr} {f : Str} : ∀ {ks : List Str} {vs : List V} {ds : List D}, Rps K G as vs ds → ∀ {v : D}, (ks.zip ds).lookup f = some v → ∃ x, (ks.zip vs).lookup f = some x ∧ Rp K G as x v
  | [], _, _, _, v, e => by simp at e
  | k :: ks, _, _, .nil, v, e => by simp at e
  | k :: ks, _, _, .cons (v := x) (d := d) h r, v, e => by
    by_cases hk : f = k
    · subst hk
      simp only [List.zip_cons_cons, List.lookup_cons_self] at e ⊢
      exact ⟨x, rfl, by rw [← Option.some.inj e]; exact h⟩
    · have hb : (f == k) = false := by simpa using hk
      simp only [List.zip_cons_cons, List.lookup, hb] at e ⊢
      exact zip_lookup r e
theorem de_xf {a C dd C' : Addr} {n : Str} {we : DT} (hK : ∀ i, (X i).K = K) (T : XfC K C') (hno : PySem.W.findIn K (.ref C') n = some none) (he : DE (XS X a C dd) K WN e we) (hC : C = C') (hb : ∀ i : SI ι C dd, attributeBase e n (X i.1.1).env (eval e (X i.1.1).env) = eval e (X i.1.1).env := by intro _; rfl) :
    DE (XS X a C dd) K WN (.Attribute e n pos) (dXf we a dd n) := by
  subst hC
  obtain ⟨te, e1, e2⟩ := he
  refine ⟨tXf a (.ref C) (some dd) C n te, fun i => pe_xf (X := X i.1.1) (by rw [hK]; exact T) (by rw [hK]; exact hno) i.2.1 i.2.2 (e1 i) (hb i), ?_⟩
  intro G as σ H ρ M Qd Xd Q h ev w cv ce
  refine e2 _ _ _ _ _ _ _ Xd _ h ev w (fun G1 as1 H1 M1 x d g1 h1 r1 w1 => ?_) ce
  obtain ⟨ks, ds, v, rfl, l, q⟩ := w1
  obtain ⟨vs, rfl, ed, rv⟩ := r1.xc_inv
  obtain ⟨x, l2, rx⟩ := zip_lookup rv l
  exact ⟨rfl, rfl, dd, _, x, rfl, h1.sub _ _ ed, l2, cv _ _ _ _ _ _ g1 h1 rx q⟩
/-- .. where the class is known only there -/
theorem de_xfC {a C dd C' : Addr} {n : Str} {we : DT} (hK : ∀ i, (X i).K = K) (T : XfC K C') (hno : PySem.W.findIn K (.ref C') n = some none) (he : DE (XS X a C dd) K WN e we) (hb : ∀ i : SI ι C dd, attributeBase e n (X i.1.1).env (eval e (X i.1.1).env) = eval e (X i.1.1).env := by intro _; rfl) :
    DE (XS X a C dd) K WN (.Attribute e n pos) (fun ρ M Q Xd => C = C' ∧ dXf we a dd n ρ M Q Xd) := by
  by_cases hC : C = C'
  · obtain ⟨t, t1, t2⟩ := de_xf (pos := pos) hK T hno he hC hb
    exact ⟨t, t1, fun G as σ H ρ M Qd Xd Q h ev w cv ce => t2 _ _ _ _ _ _ _ _ _ h ev w.2 cv ce⟩
  · exact ⟨fun _ _ _ => False, fun i => ⟨fun pins s σ H Q I h => h.elim⟩, fun G as σ H ρ M Qd Xd Q h ev w cv ce => hC w.1⟩
end
end DL

namespace DL
open PySem PySem.Spec PyProof.Rows L2 ClX

/-! ### own exceptions whose __init__ begins with super().__init__(..) -/
/-- what a def with the cell __class__ is -/
structure SFun (P : Program) (K : PySem.W.Frag) (name qual : Str) (st : Stmt) (f : Addr) (fd : FuncData) (D cda cc : Addr) : Prop where
  ex : ∃ (oc : Value) (od : Option Addr) (dV kV doc pm ct : Value) (an : Option Addr) (osl : Array (Option Value)), fd = PySem.W.ksFn name qual (defArgs st) (defBody st) (defScope st) dV kV doc pm an (.ref cda) ct cc ∧ K.lookup f = some ⟨oc, od, .func fd, osl⟩
  code : PySem.W.codeIn K (.ref cda) qual = true
  file : ∃ (ccl : Value) (cdd : Option Addr) (vs : Array Value) (ccs : Array (Option Value)) (fl : Str) (tf : Tok), K.lookup cda = some ⟨ccl, cdd, .fields vs, ccs⟩ ∧ vs[2]? = some (.str fl tf) ∧ ((P.main.file : Str) == fl) = true
  cell : ∃ (cl : Value) (cld : Option Addr) (csl : Array (Option Value)), K.lookup cc = some ⟨cl, cld, .cell (some (.ref D)), csl⟩
  dcl : ∃ cd, PySem.W.clsIn K D = some cd
abbrev sNF (name qual : Str) (st : Stmt) (cda cc : Addr) : NdefX.NF := ⟨name, qual, defArgs st, defBody st, defScope st, [("__class__", cc)], cda⟩
/-- what self's class at C says of super() in a def of the class at D -/
structure SupC (K : PySem.W.Frag) (C D : Addr) : Prop where
  sub : PySem.W.mroIn K C (.ref D) = some true
  tp : PySem.W.nsIn K PySem.cStatics "thirdparty.any" = some none
section
variable {X : Cx} {pins : List (Addr × Obj)} {σ : L2.St} {H : Hp} {s : Shared} {a C D : Addr}
theorem exo_inst {d : Option Addr} (I : Inv X pins σ H s) (e : H a = some (exo a C none)) : ∃ t1 : Addr, PySem.W.InstAt s.heap a ({ cls := .ref C, dict := none, data := .fields #[.ref t1, .none, .none, .none, .bool false, .none] } : Obj) C none := by
  obtain ⟨t1, ho⟩ := exo_at I.hok e
  exact ⟨t1, ho, rfl, rfl, trivial⟩
theorem sup_obj {name qual : Str} {st : Stmt} {f cda cc : Addr} {fd : FuncData} {ar : Arg} {p0 p1 : Pos} {attr : Str} {whole : Sem Value} {body : List Stmt} {Q : Value → Shared → Prop} {E : Value → Shared → Prop} (SF : SFun X.prog X.K name qual st f fd D cda cc) (hm : X.mg "super" = none)
    (I : Inv X pins σ H s) (e : H a = some (exo a C none)) (h0 : σ[0]? = some (some (.ref a))) (hN : X.N[0]? = some ar.arg) (hp : ((defArgs st).posonlyargs ++ (defArgs st).args).head? = some ar) (sc : SupC X.K C D)
    (hks : X.env.kindOf "super" = some .globalImplicit) (hkc : X.env.kindOf "__class__" = some .free) (hka : X.env.kindOf ar.arg = some .local) (hat : (attr == ("__class__" : Str)) = false) (hfu : X.env.func = some f) (hco : X.env.code = .ref cda) (hcc : X.env.cells.lookup ("__class__" : Str) = some cc)
    (htop : (X.prog.main.scope.names.lookup ("super" : Str)).isSome = false)
    (h : ∀ so s', Inv X ((so, PySem.W.ks_superObj D a C) :: pins) σ H s' → Q (.ref so) s') :
    _root_.PySem.wpAt (model X.prog X.w) X.A (.func body X.env) (attributeBase (.Call (.Name "super" p0) [] [] p1) attr X.env whole) Q E s := by
  obtain ⟨oc, od, dV, kV, doc, pm, ct, an, osl, rfl, lk⟩ := SF.ex
  obtain ⟨ccl, cdd, vs, ccs, fl, tf, hcode, hvs, hfile⟩ := SF.file
  obtain ⟨cl, cld, csl, hcell⟩ := SF.cell
  obtain ⟨cdD, hD⟩ := SF.dcl
  obtain ⟨mb, b1, b2⟩ := I.mod.blt
  obtain ⟨t1, inst⟩ := exo_inst (d := none) I e
  have KI := I.kIn
  obtain ⟨oD, hD1, hD2⟩ : ∃ oD, s.heap.get? D = some oD ∧ oD.data = .cls cdD := by
    unfold PySem.W.clsIn at hD
    split at hD
    · rename_i c d cd' sl ho
      cases hD
      exact ⟨_, KI _ _ ho, rfl⟩
    · cases hD
  refine ks_wpAt_super_base hks hkc hat hfu (KI _ _ lk) rfl hp hco (KI _ _ hcode) rfl hvs hfile htop ?_
  refine PySem.W.ks_loadName_global I.ok.kind hks (Calls.loadGlobal_builtin (by rw [I.ok.glob]; exact I.mod.glob.keeps I.bk) hm (by rw [I.ok.blt]; exact b1.keeps I.bk) ((b2 "super" (by decide)).trans (by decide +kernel)) ⟨rfl, ?_⟩)
  refine wpAny_loadName_free I.ok.kind hkc hcc ⟨_, KI _ _ hcell, rfl⟩ ?_
  obtain ⟨m, hn, hl⟩ := id I.loc
  obtain ⟨u, ru, look⟩ := hl 0 ar.arg (.ref a) hN h0 (.inl hka)
  have eu : u = Value.ref a := ru
  subst eu
  rcases look with ⟨_, hv⟩ | ⟨hv, _⟩
  · refine wpAny_loadName_local I.ok.kind hka hn hv ?_
    refine ks_wpAny_isType_cls hD1 hD2 ⟨rfl, ?_⟩
    have J : ∀ h' t', h'.get? s.heap.objs.size = some (PySem.W.ks_superObj D a C) → (∀ y o, s.heap.get? y = some o → h'.get? y = some o) → Inv X ((s.heap.objs.size, PySem.W.ks_superObj D a C) :: pins) σ H { s with heap := h', toks := t' } := fun h' t' g k =>
      pin_new I k (Nat.le_refl _) g (fun v z => nomatch z)
    obtain ⟨hh, g, d, t, os⟩ := s
    refine ks_wpAny_call_super hD1 hD2 inst.at_ inst.cls (fun c z => ?_) (PySem.W.looks_mroIn KI sc.sub) (fun h' e' k => h _ _ (J h' t e' k))
    have q := inst.no
    unfold PySem.W.notCls at q
    rw [z] at q
    exact Bool.noConfusion q
  · rw [hka] at hv
    rcases hv with hv | hv <;> cases hv
/-- .. of a class whose next __init__ is ValueError's -/
structure SupV (K : PySem.W.Frag) (C D : Addr) : Prop extends SupC K C D where
  at_ : PySem.W.ks_superIn K C D "__init__" = some (some (.builtin "ValueError.__init__"))
  ve : PySem.W.subIn K (.ref C) (.type "ValueError") = some true
/-- .. an own def at f2 -/
structure SupF (K : PySem.W.Frag) (C D f2 : Addr) : Prop extends SupC K C D where
  at_ : PySem.W.ks_superIn K C D "__init__" = some (some (.ref f2))
  ty : PySem.W.typeIn K (.ref f2) = some (.type "function")
  fn : PySem.W.fnIn K f2 = true
theorem sup_mV {so : Addr} {pl : Sem Bool} {A : Around} {Q : Value × List Value → Shared → Prop} {E : Value → Shared → Prop} (sv : SupV X.K C D) (I : Inv X ((so, PySem.W.ks_superObj D a C) :: pins) σ H s) (e : H a = some (exo a C none))
    (h : ∀ q s', Inv X ((q, PySem.W.kxs_mw "ValueError.__init__" a) :: (so, PySem.W.ks_superObj D a C) :: pins) σ H s' → Q (.ref q, []) s') : wpAny (model X.prog X.w) A (getMethod (.ref so) "__init__" pl) Q E s := by
  obtain ⟨t1, inst⟩ := exo_inst (d := none) I e
  have KI := I.kIn
  have hso := pin_at I
  have J : Inv X ((s.heap.objs.size, PySem.W.kxs_mw "ValueError.__init__" a) :: (so, PySem.W.ks_superObj D a C) :: pins) σ H { s with heap := s.heap.push (PySem.W.kxs_mw "ValueError.__init__" a), toks := s.toks + 1 } :=
    pin_new I (fun _ _ z => Heap.get?_push_of_some _ z) (Nat.le_refl _) (Heap.get?_push_size s.heap rfl) (fun v z => nomatch z)
  cases hc : PySem.W.clsIn X.K C with
  | none =>
    have q := sv.at_
    unfold PySem.W.ks_superIn at q
    rw [hc] at q
    cases q
  | some cd =>
    have q := sv.at_
    unfold PySem.W.ks_superIn at q
    rw [hc] at q
    obtain ⟨hh, g, d, t, os⟩ := s
    refine PySem.W.kxs_getMethod PySem.W.kxs_ValueError hso (PySem.W.looks_opaque KI sv.tp) (l₀ := cd.mro) ?_ rfl KI q (inst.type.andThen (PySem.W.looks_subIn KI sv.ve)) (PySem.W.ks_ne KI inst hc) (by decide) (h _ _ J)
    exact fun A Q E s k z => wpAny_bind ((PySem.W.looks_clsIn KI hc) A _ E s k (wpAny_pure z))
theorem sup_mF {so f2 : Addr} {pl : Sem Bool} {A : Around} {Q : Value × List Value → Shared → Prop} {E : Value → Shared → Prop} (sv : SupF X.K C D f2) (I : Inv X ((so, PySem.W.ks_superObj D a C) :: pins) σ H s) (e : H a = some (exo a C none))
    (h : ∀ q s', Inv X ((q, PySem.W.methodObj (.ref f2) (.ref a)) :: (so, PySem.W.ks_superObj D a C) :: pins) σ H s' → X.base.get? q = none → Q (.ref q, []) s') : wpAny (model X.prog X.w) A (getMethod (.ref so) "__init__" pl) Q E s := by
  obtain ⟨t1, inst⟩ := exo_inst (d := none) I e
  have KI := I.kIn
  have hso := pin_at I
  have J : Inv X ((s.heap.objs.size, PySem.W.methodObj (.ref f2) (.ref a)) :: (so, PySem.W.ks_superObj D a C) :: pins) σ H { s with heap := s.heap.push (PySem.W.methodObj (.ref f2) (.ref a)), toks := s.toks + 1 } :=
    pin_new I (fun _ _ z => Heap.get?_push_of_some _ z) (Nat.le_refl _) (Heap.get?_push_size s.heap rfl) (fun v z => nomatch z)
  have hbn := base_none I (Nat.le_refl _)
  obtain ⟨of, hof, hofc⟩ : ∃ of, s.heap.get? f2 = some of ∧ of.cls = .type "function" := by
    have ht : (X.K.lookup f2).map (·.cls) = some (.type "function") := sv.ty
    cases z : X.K.lookup f2 with
    | none => rw [z] at ht; cases ht
    | some of => rw [z] at ht; exact ⟨of, KI _ _ z, Option.some.inj ht⟩
  cases hc : PySem.W.clsIn X.K C with
  | none =>
    have q := sv.at_
    unfold PySem.W.ks_superIn at q
    rw [hc] at q
    cases q
  | some cd =>
    have q := sv.at_
    unfold PySem.W.ks_superIn at q
    rw [hc] at q
    obtain ⟨hh, g, d, t, os⟩ := s
    refine ks_wpAny_getMethod_super hso (PySem.W.looks_opaque KI sv.tp) (l₀ := cd.mro) ?_ rfl KI q hof hofc (PySem.W.ks_ne KI inst hc) (by decide) (h _ _ J hbn)
    exact fun A Q E s k z => wpAny_bind ((PySem.W.looks_clsIn KI hc) A _ E s k (wpAny_pure z))
end
end DL

namespace DL
open PySem PySem.Spec PyProof.Rows L2 ClX
section
variable {X : Cx} {pins : List (Addr × Obj)} {σ : L2.St} {H : Hp} {s : Shared} {a C D : Addr}
theorem sup_callV {q : Addr} {us : List Value} {A : Around} {Q : Value → Shared → Prop} {E : Value → Shared → Prop} (T : OexC X.K C) (I : Inv X pins σ H s) (hu : s.heap.get? q = some (PySem.W.kxs_mw "ValueError.__init__" a)) (e : H a = some (exo a C none)) (hl : us.length ≤ sizeLine)
    (h : ∀ s', Inv X pins σ H s' → Q .none s') : wpAny (model X.prog X.w) A (call (.ref q) us) Q E s := by
  obtain ⟨nm, qn, N, bs, bm, sn, sub, ab, col, dd, k0, k1, k2, k3, k5, hC, hbm⟩ := T.cls
  obtain ⟨t1, ho⟩ := exo_at I.hok e
  have hC' := I.kIn _ _ hC
  have fin : ∀ h' t', (∀ b o, b ≠ a → s.heap.get? b = some o → h'.get? b = some o) → (∃ t2 : Addr, h'.get? a = some ({ cls := .ref C, dict := none, data := .fields #[.ref t2, .none, .none, .none, .bool false, .none] } : Obj)) → Inv X pins σ H { s with heap := h', toks := t' } := by
    intro h' t' k ⟨t2, hx⟩
    have J := I.write (t' := t') (x := a) (e := a) (o := exo a C none) (by rw [e]; exact True.intro) (.inl rfl) k ⟨_, hx⟩ (exo_ok hx)
    have same : upd H a (exo a C none) = H := funext fun b => by
      by_cases hb : b = a
      · subst hb; rw [upd_same, e]
      · exact upd_ne hb
    rw [same] at J
    exact J
  obtain ⟨hh, g, d, t, os⟩ := s
  have FB := F.excBase_ValueError
  refine wpAny_call (codeAny_of_tree ?_)
  show wpAny _ A.in1 (callAny (.ref q) ⟨us, []⟩) _ _ _
  unfold callAny
  refine wpAny_bind (wpAny_load hu ?_)
  dsimp only
  refine PySem.W.KFB.if_so (by decide) ?_
  refine wpAny_bind (PySem.W.check_bound_init FB.toExcCallFacts hC' ho rfl ?_)
  refine wpAny_bind (wpAny_pure (wpAny_pure ⟨plainId_quiet FB.init.plain _, codeAny_builtin FB.initEntry ?_⟩))
  exact PySem.W.exc_init_tree (t0 := t1) (cls := .ref C) (c2 := .none) (c3 := .none) (b4 := .bool false) (dv := none) ho hl fun h' k hx _ => h _ (fin h' t k ⟨_, hx⟩)
end
theorem cells_cls {h : Heap} {H : Hp} {cc D : Addr} (n : H cc = none) (c : ∃ v, h.IsCell cc v) : NdefX.CellsAt [(("__class__" : Str), cc)] ["__class__"] [none] h H := by
  have only : ∀ (y : Str) (c : Addr), List.lookup y [(("__class__" : Str), cc)] = some c → y = "__class__" ∧ c = cc := fun y c e => by
    by_cases hy : y = ("__class__" : Str)
    · subst hy
      rw [List.lookup_cons_self] at e
      exact ⟨rfl, (Option.some.inj e).symm⟩
    · have hb : (y == ("__class__" : Str)) = false := by simpa using hy
      simp only [List.lookup, hb] at e
      cases e
  refine ⟨rfl, fun y c' e => ?_, fun x y c' e1 e2 => ((only x c' e1).1).trans (only y c' e2).1.symm, fun i y e => ?_⟩
  · obtain ⟨_, rfl⟩ := only y c' e
    exact ⟨n, c⟩
  · cases i with
    | zero =>
      have ey := Option.some.inj e
      subst ey
      exact ⟨cc, List.lookup_cons_self, fun v hv => by cases hv⟩
    | succ i => simp at e
section
variable {P : Program} {w : World} {K : PySem.W.Frag} {mg : Str → Option Value} {base : Heap} {name qual : Str} {st : Stmt} {f cda cc D : Addr} {fd : FuncData} {N ps : List Str} {k : Nat} {sp : Sp} {e : Expr} {es : List Expr} {p0 p1 p2 p3 p4 : Pos} {rest : List Stmt} {ar : Arg} {pl : Sem Bool}
/-- the context of such a body -/
abbrev xSup (P : Program) (w : World) (K : PySem.W.Frag) (mg : Str → Option Value) (base : Heap) (N : List Str) (name qual : Str) (st : Stmt) (cda cc f : Addr) (A : Around) (outer : List Env) (s : Shared) (H : Hp) (E : XK) : Cx := NdefX.ncx (L2.CX P w) P w K mg base N (sNF name qual st cda cc) f A outer s H E
abbrev eSup (name qual : Str) (st : Stmt) (cda cc f L : Addr) : Env := NdefX.envF (sNF name qual st cda cc) f L
/-- how the def stands in the text -/
structure SupT (name qual : Str) (st : Stmt) (N ps : List Str) (e : Expr) (es : List Expr) (p0 p1 p2 p3 p4 : Pos) (rest : List Stmt) (ar : Arg) (pl : Sem Bool) : Prop where
  sc : NdefX.NScope N ps ["__class__"] (defScope st)
  body : defBody st = .Expr (.Call (.Attribute (.Call (.Name "super" p0) [] [] p1) "__init__" p2) (e :: es) [] p3) p4 :: rest
  hd : ((defArgs st).posonlyargs ++ (defArgs st).args).head? = some ar
  n0 : N[0]? = some ar.arg
  kS : (defScope st).names.lookup ("super" : Str) = some .globalImplicit
  kA : (defScope st).names.lookup ar.arg = some .local
  swaps : ∀ cda cc f L, swapsWith (.Call (.Attribute (.Call (.Name "super" p0) [] [] p1) "__init__" p2) (e :: es) [] p3) none p4.line (eSup name qual st cda cc f L) = pure false
  inter : ∀ cda cc f L, interactive (eSup name qual st cda cc f L) = false
  ev : ∀ cda cc f L, eval (.Call (.Attribute (.Call (.Name "super" p0) [] [] p1) "__init__" p2) (e :: es) [] p3) (eSup name qual st cda cc f L) = (do
      let ov ← attributeBase (.Call (.Name "super" p0) [] [] p1) "__init__" (eSup name qual st cda cc f L) (eval (.Call (.Name "super" p0) [] [] p1) (eSup name qual st cda cc f L))
      standAt p2.atName
      let (f', first) ← holding [ov] (getMethod ov "__init__" pl)
      callWith p3 f' first (backTo p3 (starEach (e :: es) (eSup name qual st cda cc f L))) [])
  star : ∀ cda cc f L, starEach (e :: es) (eSup name qual st cda cc f L) = (false, eval e (eSup name qual st cda cc f L)) :: starEach es (eSup name qual st cda cc f L)
  plain : ∀ cda cc f L, (backTo p3 (starEach es (eSup name qual st cda cc f L))).any (·.1) = false
theorem fn_supG (SF : SFun P K name qual st f fd D cda cc) (hm : mg "super" = none) (T : SupT name qual st N ps e es p0 p1 p2 p3 p4 rest ar pl) (htop : (P.main.scope.names.lookup ("super" : Str)).isSome = false) (len : ∀ vs H Q E, sp vs H Q E → vs.length = ps.length)
    (hbody : ∀ (A : Around) (outer : List Env) (s : Shared) (H : Hp) (vs : List V) (Q : VK) (E : XK), Room k (A.deeper (eSup name qual st cda cc f s.heap.objs.size)) → sp vs H Q E → ∃ (tr : TS) (a C : Addr), PSs (xSup P w K mg base N name qual st cda cc f A outer s H E) rest tr ∧
      vs[0]? = some (.ref a) ∧ SupC K C D ∧ H a = some (exo a C none) ∧ ∀ pins so s1, Inv (xSup P w K mg base N name qual st cda cc f A outer s H E) ((so, PySem.W.ks_superObj D a C) :: pins) (NdefX.startF N vs [none]) H s1 →
        wpAny (model P w) (A.deeper (eSup name qual st cda cc f s.heap.objs.size)) (getMethod (.ref so) "__init__" pl) (fun fx s2 => wpAny (model P w) (A.deeper (eSup name qual st cda cc f s.heap.objs.size)) (callWith p3 fx.1 fx.2 (backTo p3 (starEach (e :: es) (eSup name qual st cda cc f s.heap.objs.size))) [])
          (fun _ s3 => ∃ H3, Inv (xSup P w K mg base N name qual st cda cc f A outer s H E) [] (NdefX.startF N vs [none]) H3 s3 ∧ tr { nx := fun _ H' => Q .non H', rt := Q } (NdefX.startF N vs [none]) H3) (xSup P w K mg base N name qual st cda cc f A outer s H E).xe s2) (xSup P w K mg base N name qual st cda cc f A outer s H E).xe s1) :
    FnOk P w K mg base (L2.CX P w) (k + 1) f fd ps sp := by
  refine ⟨len, fun A outer s H args us vs Q E hr e0 hb r hsp => ?_⟩
  have KX : K.In s.heap := e0.mod.kin.keeps fun b o z => (e0.bs b o z).1
  have lim : s.heap.NoLimit := e0.mod.nolimit.keeps fun b o z => (e0.bs b o z).1
  obtain ⟨tr, a, C, hps, h0, sc, ha, hq⟩ := hbody A outer s H vs Q E (hr.deeper _) hsp
  have hl := len _ _ _ _ hsp
  have SF' := SF
  obtain ⟨oc, od, dV, kV, doc, pm, ct, an, osl, rfl, lk⟩ := SF'.ex
  obtain ⟨cl, cld, csl, hcell⟩ := SF.cell
  have hcb := e0.mod.kin _ _ hcell
  have CA : NdefX.CellsAt [(("__class__" : Str), cc)] ["__class__"] [none] s.heap H := cells_cls (D := D) (e0.bs _ _ hcb).2 ⟨_, _, (e0.bs _ _ hcb).1, rfl⟩
  refine ks_codeAny_call_defAt (fd := PySem.W.ksFn name qual (defArgs st) (defBody st) (defScope st) dV kV doc pm an (.ref cda) ct cc) (body := defBody st) (binds := ps.zip us) hr.depth (KX _ _ lk) rfl lim (PySem.W.codeRec_of KX SF.code) rfl hb T.sc.nocell
    (fun y hy => T.sc.par y.1 (List.of_mem_zip hy).1) (fun h₁ hns kp => ?_) T.sc.co T.sc.gen T.sc.kind
  have I : Inv (xSup P w K mg base N name qual st cda cc f A outer s H E) [] (NdefX.startF N vs [none]) H { s with heap := h₁, toks := s.toks + (ps.zip us).length } := NdefX.inv_startN T.sc hr.hd e0 hl r CA hns kp
  have eb : execs (defBody st) (eSup name qual st cda cc f s.heap.objs.size) = execs (.Expr (.Call (.Attribute (.Call (.Name "super" p0) [] [] p1) "__init__" p2) (e :: es) [] p3) p4 :: rest) (eSup name qual st cda cc f s.heap.objs.size) := by rw [T.body]
  show _root_.PySem.wpAt (model P w) (A.deeper (eSup name qual st cda cc f s.heap.objs.size)) (.func (defBody st) (eSup name qual st cda cc f s.heap.objs.size)) (execs (defBody st) (eSup name qual st cda cc f s.heap.objs.size)) _ _ _
  rw [eb]
  have s0 : (NdefX.startF N vs [none])[0]? = some (some (.ref a)) := by
    unfold NdefX.startF
    have h1 : 0 < vs.length := (List.getElem?_eq_some_iff.mp h0).1
    rw [List.getElem?_append_left (by rw [List.length_map]; exact h1), List.getElem?_map, h0]
    rfl
  have kC : (defScope st).names.lookup ("__class__" : Str) = some .free := T.sc.frk _ (List.mem_cons_self ..)
  refine ks_wpAt_execs_cons (ks_wpAt_Expr_any (ks_wpAt_MethodCall (pl := pl) (sup_obj (X := xSup P w K mg base N name qual st cda cc f A outer s H E) SF hm I ha s0 T.n0 T.hd sc T.kS kC T.kA (by decide) rfl rfl List.lookup_cons_self htop fun so s1 I1 => ?_) (T.ev cda cc f _)) (T.inter cda cc f _) (T.swaps cda cc f _))
  refine wpAny_mono (hq [] so s1 I1) (fun fx s2 h2 => wpAny_mono h2 (fun v s3 h3 => ?_) fun _ _ z => z) fun _ _ z => z
  obtain ⟨H3, I3, q3⟩ := h3
  refine wpAt_of_wpAny (wpAny_mono (hps.run [] s3 _ H3 _ I3 q3) (fun fl s' hs => ?_) fun _ _ z => z)
  have fin : ∀ {σ' : L2.St} {H' : Hp} {v : V} {u : Value}, Inv (xSup P w K mg base N name qual st cda cc f A outer s H E) [] σ' H' s' → RelV v u → Q v H' → L2.CE outer P w H s Q u s' := fun {σ' H' v u} J rv q => ⟨v, H', J.os, J.bare, J.base, J.hok, rv, q⟩
  cases fl with
  | ret u =>
    obtain ⟨v, σ', H', J, rv, q⟩ := hs
    exact fin J rv q
  | next =>
    obtain ⟨σ', H', J, q⟩ := hs
    exact fin (v := V.non) (u := Value.none) J rfl q
  | brk =>
    obtain ⟨_, _, _, q⟩ := hs
    exact q.elim
  | cont =>
    obtain ⟨_, _, _, q⟩ := hs
    exact q.elim
/-- super() is ValueError -/
theorem fn_supV (SF : SFun P K name qual st f fd D cda cc) (hm : mg "super" = none) (T : SupT name qual st N ps e es p0 p1 p2 p3 p4 rest ar pl) (htop : (P.main.scope.names.lookup ("super" : Str)).isSome = false) (len : ∀ vs H Q E, sp vs H Q E → vs.length = ps.length)
    (hbody : ∀ (A : Around) (outer : List Env) (s : Shared) (H : Hp) (vs : List V) (Q : VK) (E : XK), Room k (A.deeper (eSup name qual st cda cc f s.heap.objs.size)) → sp vs H Q E → ∃ (ta : TA) (tr : TS) (a C : Addr), PA (xSup P w K mg base N name qual st cda cc f A outer s H E) (e :: es) ta ∧
      PSs (xSup P w K mg base N name qual st cda cc f A outer s H E) rest tr ∧ vs[0]? = some (.ref a) ∧ OexC K C ∧ SupV K C D ∧ H a = some (exo a C none) ∧
      ta (NdefX.startF N vs [none]) H fun us H1 => us.length ≤ 1000 ∧ H1 a = some (exo a C none) ∧ tr { nx := fun _ H' => Q .non H', rt := Q } (NdefX.startF N vs [none]) H1) :
    FnOk P w K mg base (L2.CX P w) (k + 1) f fd ps sp := by
  refine fn_supG SF hm T htop len fun A outer s H vs Q E hr hsp => ?_
  obtain ⟨ta, tr, a, C, hpa, hps, h0, oc, sv, ha, q⟩ := hbody A outer s H vs Q E hr hsp
  refine ⟨tr, a, C, hps, h0, sv.toSupC, ha, fun pins so s1 I1 => ?_⟩
  refine sup_mV (X := xSup P w K mg base N name qual st cda cc f A outer s H E) sv I1 ha fun q1 s2 I2 => ?_
  rw [T.star]
  refine PySem.W.kxs_callWith (i := "ValueError.__init__") (x := a) ((Bool.false_or _).trans (T.plain cda cc f s.heap.objs.size)) (Calls.evalArgs_plain ?_)
  have run := hpa.run p3 ((q1, PySem.W.kxs_mw "ValueError.__init__" a) :: (so, PySem.W.ks_superObj D a C) :: pins) s2 _ H _ I2 q
  rw [show starEach (e :: es) (xSup P w K mg base N name qual st cda cc f A outer s H E).env = _ from T.star cda cc f _] at run
  refine wpAny_mono run (fun us s3 h3 => ?_) fun _ _ z => z
  obtain ⟨vs3, H3, I3, r3, l3, e3, q3⟩ := h3
  refine ⟨pin_at I3, ?_⟩
  refine sup_callV (X := xSup P w K mg base N name qual st cda cc f A outer s H E) oc I3 (pin_at I3) e3 (by show us.length ≤ sizeLine; rw [← Paired.length r3, sizeLine_eq]; omega) fun s4 I4 => ⟨H3, I4.pins_of (fun _ hp => (by cases hp)), q3⟩
/-- super() is an own class -/
theorem fn_supF {f2 : Addr} {fd2 : FuncData} {ps2 : List Str} {sp2 : Sp} (SF : SFun P K name qual st f fd D cda cc) (hm : mg "super" = none) (T : SupT name qual st N ps e es p0 p1 p2 p3 p4 rest ar pl) (htop : (P.main.scope.names.lookup ("super" : Str)).isSome = false) (len : ∀ vs H Q E, sp vs H Q E → vs.length = ps.length)
    (F2 : FnOk P w K mg base (L2.CX P w) k f2 fd2 ps2 sp2) (hb2 : Binds K fd2 ps2 [])
    (hbody : ∀ (A : Around) (outer : List Env) (s : Shared) (H : Hp) (vs : List V) (Q : VK) (E : XK), Room k (A.deeper (eSup name qual st cda cc f s.heap.objs.size)) → sp vs H Q E → ∃ (ta : TA) (tr : TS) (a C : Addr), PA (xSup P w K mg base N name qual st cda cc f A outer s H E) (e :: es) ta ∧
      PSs (xSup P w K mg base N name qual st cda cc f A outer s H E) rest tr ∧ vs[0]? = some (.ref a) ∧ SupF K C D f2 ∧ H a = some (exo a C none) ∧
      ta (NdefX.startF N vs [none]) H fun us H1 => sp2 (.ref a :: us) H1 (fun _ H2 => tr { nx := fun _ H' => Q .non H', rt := Q } (NdefX.startF N vs [none]) H2) E0) :
    FnOk P w K mg base (L2.CX P w) (k + 1) f fd ps sp := by
  refine fn_supG SF hm T htop len fun A outer s H vs Q E hr hsp => ?_
  obtain ⟨ta, tr, a, C, hpa, hps, h0, sv, ha, q⟩ := hbody A outer s H vs Q E hr hsp
  refine ⟨tr, a, C, hps, h0, sv.toSupC, ha, fun pins so s1 I1 => ?_⟩
  refine sup_mF (X := xSup P w K mg base N name qual st cda cc f A outer s H E) sv I1 ha fun q1 s2 I2 hbn => ?_
  have hq1 : q1 ≠ (xSup P w K mg base N name qual st cda cc f A outer s H E).env.locals := (I2.pin (q1, PySem.W.methodObj (.ref f2) (.ref a)) (List.mem_append_right _ List.mem_cons_self)).2.2.1
  refine PySem.W.callWith_M (K := K) (h₀ := base) (first := []) I2.ok.mod.kin (news_at hq1 hbn (pin_at I2)) List.mem_cons_self sv.fn (wpAny_mono (hpa.run p3 ((q1, PySem.W.methodObj (.ref f2) (.ref a)) :: (so, PySem.W.ks_superObj D a C) :: pins) s2 _ H _ I2 q) (fun us s3 h3 => ?_) fun _ _ z => z) (T.star cda cc f _) (T.plain cda cc f _)
  obtain ⟨vs3, H3, I3, r3, q3⟩ := h3
  refine ⟨⟨pin_at I3, I3.kIn⟩, ?_⟩
  refine wpAny_call (PySem.W.method_call (pin_at I3) ?_)
  have hl2 : (Value.ref a :: us).length = ps2.length := by
    have z := F2.len _ _ _ _ q3
    rw [← z, List.length_cons, List.length_cons, Paired.length r3]
  have b2 := hb2 s3 (.ref a :: us) I3.kIn (by rw [List.append_nil]; exact hl2)
  rw [List.append_nil] at b2
  refine codeAny_mono (F2.run _ (xSup P w K mg base N name qual st cda cc f A outer s H E).stack s3 H3 ⟨.ref a :: us, []⟩ (.ref a :: us) (.ref a :: vs3) _ E0 hr I3.env0 b2 (.cons rfl r3) q3) fun r s' hq => ?_
  cases r with
  | error er => exact passL _ _ _ s3 er s' I3 hq
  | ok fl =>
    cases fl with
    | ret u =>
      obtain ⟨v4, H4, I4, r4, q4⟩ := I3.after hq
      exact ⟨H4, I4.pins_of (fun _ hp => (by cases hp)), q4⟩
    | next => exact hq.elim
    | brk => exact hq.elim
    | cont => exact hq.elim
end
end DL

namespace DL
open PySem PySem.Spec PyProof.Rows L2 ClX

/-! ### what is never reached; what is so of the memory -/
def dSoE (w : DT) : DT := fun ρ M Q X => Wf M.length M → EvB M ρ → w ρ M Q X
def dWf (w : DT) : DT := fun ρ M Q X => w ρ M (fun d M' => Wf M'.length M' → Bd M'.length d → Q d M') X
def dWfT (w : DTT) : DTT := fun ρ M Q X => w ρ M (fun b M' => Wf M'.length M' → Q b M') X
section
variable {ι : Type} {X : ι → Cx} {K : PySem.W.Frag} {W : WX} {a b c e o : Expr} {es : List Expr} {pos p apos cpos : Pos} {s : Stmt} {ss : List Stmt}
theorem ds_dead : DS X K W s (fun _ _ _ => False) := ⟨fun _ _ _ => False, fun _ => ⟨fun _ _ _ _ _ _ h => h.elim⟩, fun _ _ _ _ _ _ _ _ _ _ w _ => w⟩
theorem dss_dead : DSs X K W ss (fun _ _ _ => False) := ⟨fun _ _ _ => False, fun _ => ⟨fun _ _ _ _ _ _ h => h.elim⟩, fun _ _ _ _ _ _ _ _ _ _ w _ => w⟩
theorem de_dead : DE X K W e (fun _ _ _ _ => False) := ⟨fun _ _ _ => False, fun _ => ⟨fun _ _ _ _ _ _ h => h.elim⟩, fun _ _ _ _ _ _ _ _ _ _ _ w _ _ => w⟩
theorem dt_dead : DTe X K W e (fun _ _ _ _ => False) := ⟨fun _ _ _ => False, fun _ => ⟨fun _ _ _ _ _ _ h => h.elim⟩, fun _ _ _ _ _ _ _ _ _ _ _ w _ _ => w⟩
theorem de_so {w : DT} (h : DE X K W e w) : DE X K W e (dSoE w) := by
  obtain ⟨t, a, b⟩ := h
  exact ⟨t, a, fun G as σ H ρ M Qd Xd Q hh ev w cv ce => b _ _ _ _ _ _ _ _ _ hh ev (w hh.wf (ev.bd hh)) cv ce⟩
theorem de_wf {w : DT} (h : DE X K W e w) : DE X K W e (dWf w) := by
  obtain ⟨t, a, b⟩ := h
  exact ⟨t, a, fun G as σ H ρ M Qd Xd Q hh ev w cv ce => b _ _ _ _ _ _ _ _ _ hh ev w (fun G' as' H' M' v d g h r p => cv _ _ _ _ _ _ g h r (p h.wf (by rw [← h.len]; exact r.bd))) ce⟩
theorem dts_wf {ifs : List Expr} {w : DTT} (h : DTs X K W ifs w) : DTs X K W ifs (dWfT w) := by
  obtain ⟨t, a, b⟩ := h
  exact ⟨t, a, fun G as σ H ρ M Qd Xd Q hh ev w cv ce => b _ _ _ _ _ _ _ _ _ hh ev w (fun G' as' H' M' x g h p => cv _ _ _ _ _ g h (p h.wf)) ce⟩
theorem dss_then {w : SW} (h : DSs X K W ss w) : DSs X K W ss (dThen w) := by
  obtain ⟨t, a, b⟩ := h
  exact ⟨t, a, sn_then b⟩
theorem ds_then {w : SW} (h : DS X K W s w) : DS X K W s (dThen w) := by
  obtain ⟨t, a, b⟩ := h
  exact ⟨t, a, sn_then b⟩
/-- a list that is written out: for good, or an object -/
def dLstB (wa : DTA) : DT := fun ρ M Q X => wa ρ M (fun ds M1 => ds.length ≤ sizeLine ∧ (Q (.lst ds) M1 ∨ Q (.ptr M1.length) (M1 ++ [.lst ds]))) X
theorem de_lstB {wa : DTA} (ha : DA X K W es wa) : DE X K W (.List es pos) (dLstB wa) := by
  obtain ⟨ta, a1, a2⟩ := ha
  refine ⟨tLst ta, fun i => pe_lst (a1 i), ?_⟩
  intro G as σ H ρ M Qd Xd Q h e w cv ce
  refine a2 _ _ _ _ _ _ _ Xd _ h e w (fun G1 as1 H1 M1 vs ds g1 h1 r1 w1 => ?_) ce
  refine ⟨by rw [r1.length]; exact w1.1, fun p np => ?_⟩
  rcases w1.2 with q | q
  · obtain ⟨g2, h2⟩ := h1.const (o := .lst vs) np
    exact cv _ _ _ _ _ _ (g1.trans g2) h2 (.lst upd_same (r1.mono g2)) q
  · have x0 : Gr G1 as1 G1 (as1 ++ [p]) := ⟨Same.refl _, List.prefix_append _ _⟩
    obtain ⟨g2, h2⟩ := h1.push (m := .lst ds) np (same_upd np) ⟨vs, upd_same, r1.mono x0⟩
    refine cv _ _ _ _ _ _ (g1.trans g2) h2 (.ptr ?_) q
    rw [← h1.len]
    exact last_get _ _
/-- -x -/
def dNeg (wa : DT) : DT := fun ρ M Q X => wa ρ M (fun d M1 => ∃ i, d = .int i ∧ Q (.int (-i)) M1) X
theorem de_neg {wa : DT} (ha : DE X K W a wa) : DE X K W (.UnaryOp .USub a pos) (dNeg wa) := by
  obtain ⟨ta, a1, a2⟩ := ha
  refine ⟨_, fun i => pe_un un_neg (a1 i), ?_⟩
  intro G as σ H ρ M Qd Xd Q h e w cv ce
  refine a2 _ _ _ _ _ _ _ Xd _ h e w (fun G1 as1 H1 M1 v d g1 h1 r1 w1 => ?_) ce
  obtain ⟨i, rfl, q⟩ := w1
  exact ⟨i, r1.int_inv, cv _ _ _ _ _ _ g1 h1 (.int _) q⟩
/-- a < b < c as a test -/
theorem dt_chain {op op' : CmpOp} {f f' : DR2} {wa wb wc : DT} (ho : DOp X K (compareOp op) f) (ho' : DOp X K (compareOp op') f') (ha : DE X K W a wa) (hb : DE X K W b wb) (hc : DE X K W c wc) (hm : lastMarks [op, op'] [b, c] = false := by with_unfolding_all rfl) :
    DTe X K W (.Compare a [op, op'] [b, c] pos) (dTest (dChain f f' wa wb wc)) := by
  obtain ⟨r, o1, o2⟩ := ho
  obtain ⟨r', o1', o2'⟩ := ho'
  obtain ⟨ta, a1, a2⟩ := ha
  obtain ⟨tb, b1, b2⟩ := hb
  obtain ⟨tc, c1, c2⟩ := hc
  refine ⟨_, fun i => pt_chain (o1 i) (o1' i) (a1 i) (b1 i) (c1 i) hm, dn_test ?_⟩
  intro G as σ H ρ M Qd Xd Q h e w cv ce
  refine a2 _ _ _ _ _ _ _ Xd _ h e w (fun G1 as1 H1 M1 x d g1 h1 r1 w1 => ?_) ce
  refine b2 _ _ _ _ _ _ _ Xd _ h1 (e.mono g1) w1 (fun G2 as2 H2 M2 y d2 g2 h2 r2 w2 => ?_) (ce.mono g1)
  refine o2 _ _ _ _ _ _ _ _ _ _ h2 (r1.mono g2) r2 w2 (fun G3 as3 H3 M3 z d3 g3 h3 r3 w3 => ?_)
  obtain ⟨k, rfl, w3⟩ := w3
  refine ⟨k, r3.bl_inv, ?_⟩
  have g13 := (g1.trans g2).trans g3
  cases k with
  | true =>
    rw [if_pos rfl] at w3 ⊢
    refine c2 _ _ _ _ _ _ _ Xd _ h3 (e.mono g13) w3 (fun G4 as4 H4 M4 u d4 g4 h4 r4 w4 => ?_) (ce.mono g13)
    exact o2' _ _ _ _ _ _ _ _ _ _ h4 ((r2.mono g3).mono g4) r4 w4 (cv.mono (g13.trans g4))
  | false =>
    rw [if_neg Bool.false_ne_true] at w3 ⊢
    exact cv _ _ _ _ _ _ g13 h3 (.bl _) w3
/-- d.pop(k), there -/
def dPop1 (wo wk : DT) : DT := fun ρ M Q X => wo ρ M (fun o M1 => ∃ kvs, dkOf M1 o = some kvs ∧ wk ρ M1 (fun y M2 => ∃ n kvs k v, o = .ptr n ∧ M2[n]? = some (.dK kvs) ∧ keyOf y = some k ∧ valD kvs k = some v ∧ Q v (M2.set n (.dK (dropD kvs k)))) X) X
theorem de_dpop1 {wo wk : DT} (ho : DE X K W o wo) (he : DE X K W e wk) (m : ∀ i, M1 (X i) o "pop" apos e cpos := by intro _; exact ⟨rfl, rfl, rfl, rfl⟩) : DE X K W (.Call (.Attribute o "pop" apos) [e] [] cpos) (dPop1 wo wk) := by
  obtain ⟨to, o1, o2⟩ := ho
  obtain ⟨te, e1, e2⟩ := he
  refine ⟨_, fun i => pe_dpop1 (o1 i) (e1 i) (m i), ?_⟩
  intro G as σ H ρ M Qd Xd Q h ev w cv ce
  refine o2 _ _ _ _ _ _ _ Xd _ h ev w (fun G1 as1 H1 M1 x d g1 h1 r1 w1 => ?_) ce
  obtain ⟨kvs, q1, w1⟩ := w1
  obtain ⟨a, ks, rfl, hd, _⟩ := h1.dk r1 q1
  refine ⟨a, rfl, .inl ⟨ks, hd⟩, ?_⟩
  refine e2 _ _ _ _ _ _ _ Xd _ h1 (ev.mono g1) w1 (fun G2 as2 H2 M2 y dy g2 h2 r2 w2 => ?_) (ce.mono g1)
  obtain ⟨n, kvs', k, v, rfl, q2, q3, q4, q⟩ := w2
  obtain ⟨a', ea, ha', ks', e5, kv⟩ := h2.ptr (r1.mono g2) q2
  cases ea
  obtain ⟨v', hv, rv⟩ := (kvr_val (k := k) kv).2 v q4
  exact ⟨ks', k, v', e5, r2.keyOf q3, hv, cv _ _ _ _ _ _ (g1.trans g2) (h2.put (m := .dK (dropD kvs' k)) ha' ⟨_, upd_same, kvr_drop kv⟩) rv q⟩
/-- flat or not: the operators together -/
def wAdd : DR2 := fun d e M Q => (wAddI d e M Q ∨ wAddS d e M Q) ∨ wAddL d e M Q
theorem do_add : DOp X K (binaryOp .Add) wAdd := DOp.or (DOp.or do_addI do_addS) do_addL
def wMulB : DR2 := fun d e M Q => wI CMul (fun i j => .int (i * j)) d e M Q ∨ wMulS d e M Q
theorem do_mul : DOp X K (binaryOp .Mult) wMulB := DOp.or do_mulI do_mulS
/-- x += e -/
def dAug (i : Nat) (we : DT) (wr : DR2) : SW := fun De ρ M => ∃ d, ρ[i]? = some (some d) ∧ we ρ M (fun e M1 => wr d e M1 (fun z M2 => De.nx (ρ.set i (some z)) M2)) (fun C fs M1 => De.ex C fs ρ M1)
end

/-! ### raise C(e, ..), C's __init__ laying fields -/
/-- the promise of such an __init__ at n arguments: the fields fs -/
def spX (n : Nat) (OK : Addr → Prop) (fs : List V → List (Str × V)) : Sp := fun vs H Q _ => vs.length = n + 1 ∧ ∃ a C us, vs = .ref a :: us ∧ OK C ∧ H a = some (exo a C none) ∧
  ∀ d H', H d = none → d ≠ a → H' a = some (exo a C (some d)) → H' d = some (exd d (fs us)) → (∀ b, b ≠ a → b ≠ d → H' b = H b) → Q .non H'
def dRaise (C : Addr) (n : Nat) (dds : List D) (fsD : List D → List (Str × D)) (wa : DTA) : SW := fun De ρ M => wa ρ M (fun ds M1 => ds.length + dds.length = n ∧ ds.length ≤ 1000 ∧ De.ex C (fsD (ds ++ dds)) ρ M1) (fun C fs M1 => De.ex C fs ρ M1)
section
variable {ι : Type} {X : ι → Cx} {K : PySem.W.Frag} {W : WX} {e : Expr} {es : List Expr} {pos p pos2 : Pos}
theorem ds_raise {x : Str} {C fI : Addr} {k n : Nat} {fd : FuncData} {ps : List Str} {OK : Addr → Prop} {fs : List V → List (Str × V)} {fsD : List D → List (Str × D)} {ds : List Value} {dvs : List V} {dds : List D} {wa : DTA} (hc : ∀ i, (X i).calm = true) (tk : ∀ i, Takes (X i) W) (T : OexC K C) (hK : ∀ i, (X i).K = K)
    (iC : PySem.W.findIn K (.ref C) "__init__" = some (some (.ref fI))) (tI : PySem.W.typeIn K (.ref fI) = some (.type "function")) (FO : ∀ i, FnOk (X i).prog (X i).w (X i).K (X i).mg (X i).base (L2.CX (X i).prog (X i).w) k fI fd ps (spX n OK fs)) (ok : OK C) (hr : ∀ i, Room (k + 1) (X i).A)
    (hb : ∀ i, Binds (X i).K fd ps ds) (hd : Vals dvs ds) (hdd : ∀ K G as, Rps K G as dvs dds) (hfs : ∀ K G as vs ds, Rps K G as vs ds → vs.length = n → Kvr K G as (fs vs) (fsD ds)) (hm : ∀ i, (X i).mg x = some (.ref C)) (ha : DA X K W (e :: es) wa) (hg : ∀ i, Gl (X i) x := by intro _; rfl)
    (hdb : (x == ("__debug__" : Str)) = false := by decide) (he : ∀ i, starEach (e :: es) (X i).env = (false, eval e (X i).env) :: starEach es (X i).env := by intro _; rfl) (hpl : ∀ i, (backTo pos (starEach es (X i).env)).any (·.1) = false := by intro _; rfl) :
    DS X K W (.Raise (some (.Call (.Name x p) (e :: es) [] pos)) none pos2) (dRaise C n dds fsD wa) := by
  obtain ⟨ta, a1, a2⟩ := ha
  refine ⟨fun _ σ H => tMkO C (spX n OK fs) dvs ta σ H fun cls d H' => W cls d σ H', fun i => ps_raise (hc i) (tk i) (pmk_oex (by rw [hK]; exact T) (by rw [hK]; exact iC) (by rw [hK]; exact tI) (FO i) (hr i) (hb i) hd passL (hg i) (hm i) (a1 i) hdb (he i) (hpl i)), ?_⟩
  intro G as σ H ρ M De Dv h ev w c
  refine a2 _ _ _ _ _ _ _ _ _ h ev w (fun G1 as1 H1 M1 vs ds g1 h1 r1 w1 => ?_) (c.ce ev)
  obtain ⟨l1, l2, q⟩ := w1
  have rr := r1.append (hdd K G1 as1)
  have lv : (vs ++ dvs).length = n := by rw [rr.length, List.length_append]; exact l1
  refine ⟨by rw [r1.length]; exact l2, fun a na => ⟨by rw [List.length_cons, lv], a, C, vs ++ dvs, rfl, ok, upd_same, fun d H' hd0 hda ha' hd' hk => ⟨rfl, d, fs (vs ++ dvs), ha', hd', ?_, ?_⟩⟩⟩
  · rw [upd_ne hda] at hd0
    exact hd0
  · have hd1 : H1 d = none := by rw [upd_ne hda] at hd0; exact hd0
    have e3 : upd (del H' a) d (.xd (fs (vs ++ dvs))) = upd H1 d (.xd (fs (vs ++ dvs))) := funext fun b => by
      by_cases hb : b = d
      · subst hb; rw [upd_same, upd_same]
      · rw [upd_ne hb, upd_ne hb]
        by_cases hba : b = a
        · subst hba; rw [del_same, na]
        · rw [del_ne hba, hk b hba hb, upd_ne hba]
    rw [e3]
    exact c.ex _ _ _ _ _ _ _ _ _ _ g1 (h1.junk hd1) (ev.mono g1) upd_same (hfs _ _ _ _ _ rr lv) q
end
end DL

namespace DL
open PySem PySem.Spec PyProof.Rows L2 ClX

/-! ### the two shapes of __init__ -/
def fsB : List V → List (Str × V)
  | [x, y] => [("name", y), ("at", x)]
  | _ => []
def fsBD : List D → List (Str × D)
  | [x, y] => [("name", y), ("at", x)]
  | _ => []
def fsS (nm : Str) : List V → List (Str × V)
  | [x] => [("name", .str nm), ("at", x)]
  | _ => []
def fsSD (nm : Str) : List D → List (Str × D)
  | [x] => [("name", .str nm), ("at", x)]
  | _ => []
theorem fsB_ok : ∀ (K : PySem.W.Frag) (G : Hp) (as : List Addr) (vs : List V) (ds : List D), Rps K G as vs ds → vs.length = 2 → Kvr K G as (fsB vs) (fsBD ds)
  | K, G, as, _, _, .nil, h => by cases h
  | K, G, as, _, _, .cons a .nil, h => by cases h
  | K, G, as, _, _, .cons a (.cons b .nil), h => .cons ⟨rfl, b⟩ (.cons ⟨rfl, a⟩ .nil)
  | K, G, as, _, _, .cons a (.cons b (.cons c r)), h => by simp at h
theorem fsS_ok (nm : Str) : ∀ (K : PySem.W.Frag) (G : Hp) (as : List Addr) (vs : List V) (ds : List D), Rps K G as vs ds → vs.length = 1 → Kvr K G as (fsS nm vs) (fsSD nm ds)
  | K, G, as, _, _, .nil, h => by cases h
  | K, G, as, _, _, .cons a .nil, h => .cons ⟨rfl, .str nm⟩ (.cons ⟨rfl, a⟩ .nil)
  | K, G, as, _, _, .cons a (.cons b c), h => by simp at h
/-- what a class must have, to be made by the first shape's __init__ in the class at D -/
structure OKv (K : PySem.W.Frag) (D C : Addr) : Prop where
  ox : OexC K C
  sv : SupV K C D
  nA : PySem.W.findIn K (.ref C) "at" = some none
  nN : PySem.W.findIn K (.ref C) "name" = some none
section
variable {P : Program} {w : World} {K : PySem.W.Frag} {mg : Str → Option Value} {base : Heap} {name qual nm : Str} {st : Stmt} {f f2 cda cc D : Addr} {fd fd2 : FuncData} {e : Expr} {es : List Expr} {p0 p1 p2 p3 p4 : Pos} {rest : List Stmt} {ar : Arg} {pl : Sem Bool} {N : List Str}
theorem len3 {vs : List V} {a : Addr} {us : List V} (h : vs.length = 2 + 1) (e : vs = .ref a :: us) : ∃ x y, us = [x, y] := by
  subst e
  match us, h with
  | [x, y], _ => exact ⟨x, y, rfl⟩
theorem len2 {vs : List V} {a : Addr} {us : List V} (h : vs.length = 1 + 1) (e : vs = .ref a :: us) : ∃ x, us = [x] := by
  subst e
  match us, h with
  | [x], _ => exact ⟨x, rfl⟩
/-- def __init__(self, at, name): super().__init__(at); self.at = at; self.name = name, over ValueError -/
theorem sx_base (SF : SFun P K name qual st f fd D cda cc) (hm : mg "super" = none) (T : SupT name qual st ["self", "at", "name", "__class__"] ["self", "at", "name"] e es p0 p1 p2 p3 p4 rest ar pl) (htop : (P.main.scope.names.lookup ("super" : Str)).isSome = false)
    (hpa : ∀ A outer s H E, PA (xSup P w K mg base ["self", "at", "name", "__class__"] name qual st cda cc f A outer s H E) (e :: es) (tCons (tVar 1) tNil))
    (hps : ∀ A outer s H E, PSs (xSup P w K mg base ["self", "at", "name", "__class__"] name qual st cda cc f A outer s H E) rest (tSeq (tOst K "at" (tVar 0) (tVar 1)) (tOst K "name" (tVar 0) (tVar 2)))) :
    FnOk P w K mg base (L2.CX P w) 1 f fd ["self", "at", "name"] (spX 2 (OKv K D) fsB) := by
  refine fn_supV SF hm T htop (fun vs H Q E h => h.1) fun A outer s H vs Q E hr h => ?_
  obtain ⟨hl, a, C, us, rfl, ok, ha, hq⟩ := h
  obtain ⟨x, y, rfl⟩ := len3 hl rfl
  refine ⟨_, _, a, C, hpa A outer s H E, hps A outer s H E, rfl, ok.ox, ok.sv, ha, ?_⟩
  refine ⟨x, rfl, by show 1 ≤ 1000; decide, ha, ?_⟩
  refine ⟨x, rfl, .ref a, rfl, a, C, rfl, ok.ox, ok.nA, .inl ⟨ha, fun d nd hda => ?_⟩⟩
  refine ⟨y, rfl, .ref a, rfl, a, C, rfl, ok.ox, ok.nN, .inr ⟨d, [(("at" : Str), x)], upd_same, ?_, ?_, ?_⟩⟩
  · rw [upd_ne hda, upd_same]
  · show 1 ≤ 900
    decide
  · refine hq d _ nd hda ?_ upd_same fun b h1 h2 => ?_
    · rw [upd_ne (Ne.symm hda), upd_same]
    · rw [upd_ne h2, upd_ne h1, upd_ne h2]
/-- def __init__(self, at): super().__init__(at, 'X'), over such a class -/
theorem sx_sub (SF : SFun P K name qual st f fd D cda cc) (hm : mg "super" = none) (T : SupT name qual st ["self", "at", "__class__"] ["self", "at"] e es p0 p1 p2 p3 p4 [] ar pl) (htop : (P.main.scope.names.lookup ("super" : Str)).isSome = false) {OK2 : Addr → Prop} {k : Nat}
    (F2 : FnOk P w K mg base (L2.CX P w) k f2 fd2 ["self", "at", "name"] (spX 2 OK2 fsB)) (hb2 : Binds K fd2 ["self", "at", "name"] [])
    (hpa : ∀ A outer s H E, PA (xSup P w K mg base ["self", "at", "__class__"] name qual st cda cc f A outer s H E) (e :: es) (tCons (tVar 1) (tCons (tC (.str nm)) tNil))) :
    FnOk P w K mg base (L2.CX P w) (k + 1) f fd ["self", "at"] (spX 1 (fun C => SupF K C D f2 ∧ OK2 C) (fsS nm)) := by
  refine fn_supF SF hm T htop (fun vs H Q E h => h.1) F2 hb2 fun A outer s H vs Q E hr h => ?_
  obtain ⟨hl, a, C, us, rfl, ok, ha, hq⟩ := h
  obtain ⟨x, rfl⟩ := len2 hl rfl
  refine ⟨_, _, a, C, hpa A outer s H E, pss_nil, rfl, ok.1, ha, ?_⟩
  refine ⟨x, rfl, rfl, a, C, _, rfl, ok.2, ha, fun d H' nd hda ha' hd' hk => ?_⟩
  exact hq d H' nd hda ha' hd' hk
end
end DL

namespace DL
open PySem PySem.Spec PyProof.Rows L2 ClX

def wSub : DR2 := wI (fun _ _ => True) fun i j => .int (i - j)
def wMod : DR2 := wI (fun _ j => 0 < j) fun i j => .int (i % j)
def wDiv : DR2 := wI CDiv fun i j => .int (i / j)
def wPow : DR2 := wI CPow fun i j => .int (i ^ j.toNat)
def wLt : DR2 := wI (fun _ _ => True) fun i j => .bl (decide (i < j))
def wLe : DR2 := wI (fun _ _ => True) fun i j => .bl (decide (i ≤ j))
def wGt : DR2 := wI (fun _ _ => True) fun i j => .bl (decide (j < i))
def wGe : DR2 := wI (fun _ _ => True) fun i j => .bl (decide (j ≤ i))
def dLockA (w : DT) : DT := fun ρ M Q X => ∃ n, dLockE n w ρ M Q X
def dLockS (w : SW) : SW := fun De ρ M => ∃ n, dLock n w De ρ M
def dXfC (C' : Addr) (we : DT) (a C dd : Addr) (f : Str) : DT := fun ρ M Q Xd => C = C' ∧ dXf we a dd f ρ M Q Xd
section
variable {ι : Type} {X : ι → Cx} {K : PySem.W.Frag} {W : WX} {e : Expr} {s : Stmt} {pos : Pos}
theorem de_lockA {w : DT} (h : DE X K W e w) : DE X K W e (dLockA w) := by
  have q := fun n => de_lock n h
  refine ⟨fun σ H Q => ∃ n, (q n).choose σ H Q, fun i => ⟨fun pins s σ H Q I ⟨n, h⟩ => ((q n).choose_spec.1 i).run pins s σ H Q I h⟩, ?_⟩
  rintro G as σ H ρ M Qd Xd Q hh ev ⟨n, w⟩ cv ce
  exact ⟨n, (q n).choose_spec.2 _ _ _ _ _ _ _ _ _ hh ev w cv ce⟩
theorem ds_lockS {w : SW} (h : DS X K W s w) : DS X K W s (dLockS w) := by
  have q := fun n => ds_lock n h
  refine ⟨fun D σ H => ∃ n, (q n).choose D σ H, fun i => ⟨fun pins s σ H D I ⟨n, h⟩ => ((q n).choose_spec.1 i).run pins s σ H D I h⟩, ?_⟩
  rintro G as σ H ρ M De Dv hh ev ⟨n, w⟩ c
  exact ⟨n, (q n).choose_spec.2 _ _ _ _ _ _ _ _ hh ev w c⟩
theorem xb_passes {P : Program} {w : World} {mg : Str → Option Value} {base : Heap} {N : List Str} {qual : Str} {sc : Scope} {f : Addr} {k : Nat} {E : XK} (p : BI k qual sc f) :
    PassesOwn (model (XB P w K mg base N qual sc f k E p).prog (XB P w K mg base N qual sc f k E p).w) (XB P w K mg base N qual sc f k E p).A (XB P w K mg base N qual sc f k E p).env (XB P w K mg base N qual sc f k E p).xe := passes_of rfl
end
end DL

namespace DL
open PySem PySem.Spec PyProof.Rows L2 ClX

/-! ### small laws for the readings -/
theorem ifd {p : Prop} [Decidable p] {A B : Prop} (h1 : p → A) (h2 : ¬ p → B) : if decide p = true then A else B := by
  by_cases h : p
  · rw [if_pos (decide_eq_true h)]; exact h1 h
  · rw [if_neg (by simpa using h)]; exact h2 h
theorem ifb {b : Bool} {A B : Prop} (h1 : b = true → A) (h2 : b = false → B) : if b = true then A else B := by
  cases b
  · rw [if_neg Bool.false_ne_true]; exact h2 rfl
  · rw [if_pos rfl]; exact h1 rfl
theorem if_t {b : Bool} {A B : Prop} (h : b = true) (h1 : A) : if b = true then A else B := by rw [if_pos h]; exact h1
theorem if_f {b : Bool} {A B : Prop} (h : b = false) (h2 : B) : if b = true then A else B := by rw [h, if_neg Bool.false_ne_true]; exact h2
theorem dec_ii (a b : Int) : decide (V.int a = V.int b) = decide (a = b) := by
  by_cases h : a = b
  · subst h; simp
  · have : V.int a ≠ V.int b := fun z => h (by cases z; rfl)
    simp [h, this]
theorem dec_ss (a b : Str) : decide (V.str a = V.str b) = decide (a = b) := by
  by_cases h : a = b
  · subst h; simp
  · have : V.str a ≠ V.str b := fun z => h (by cases z; rfl)
    simp [h, this]
section
variable {M : Mm} {k j : Nat} {o m : MO}
theorem lt_of_at (h : M[k]? = some o) : k < M.length := (List.getElem?_eq_some_iff.mp h).1
theorem set_at (h : M[k]? = some o) : (M.set k m)[k]? = some m := List.getElem?_set_self (lt_of_at h)
theorem set_ne (h : j ≠ k) : (M.set j m)[k]? = M[k]? := List.getElem?_set_ne h
theorem app_at (h : M[k]? = some o) {t : Mm} : (M ++ t)[k]? = some o := by rw [List.getElem?_append_left (lt_of_at h)]; exact h
theorem app_last {t : Mm} : (M ++ m :: t)[M.length]? = some m := by rw [List.getElem?_append_right (Nat.le_refl _), Nat.sub_self]; rfl
theorem set_app (h : k < M.length) {t : Mm} : (M ++ t).set k m = M.set k m ++ t := List.set_append_left _ _ h
theorem ls_at {xs : List D} (h : M[k]? = some (.lst xs)) : lsOf M (.ptr k) = some xs := by unfold lsOf; dsimp only; rw [h]
theorem sq_at {xs : List D} (h : M[k]? = some (.lst xs)) : sqOf M (.ptr k) = some xs := ls_at h
theorem dk_at {xs : List (Key × D)} (h : M[k]? = some (.dK xs)) : dkOf M (.ptr k) = some xs := by unfold dkOf; dsimp only; rw [h]
theorem dk_lk {xs : List (Key × D)} {ob : Obj} {ks : List (Key × V)} (h : M[k]? = some (.lk ob ks xs)) : dkOf M (.ptr k) = some xs := by unfold dkOf; dsimp only; rw [h]
theorem set_same (h : M[k]? = some o) : M.set k o = M := by
  apply List.ext_getElem?
  intro i
  by_cases hi : k = i
  · subst hi; rw [set_at h, h]
  · rw [set_ne hi]
theorem Wf.set {n : Nat} (h : Wf n M) (hm : MBd n m) : Wf n (M.set k m) := fun x hx => by
  rcases List.mem_or_eq_of_mem_set hx with h1 | h1
  · exact h x h1
  · rw [h1]; exact hm
theorem Wf.app {n : Nat} (h : Wf n M) (hm : MBd n m) : Wf n (M ++ [m]) := fun x hx => by
  rcases List.mem_append.mp hx with h1 | h1
  · exact h x h1
  · have e : x = m := by simpa using h1
    rw [e]; exact hm
theorem MBd.mono {a b : Nat} (h : a ≤ b) (hm : MBd a m) : MBd b m := by
  cases m with
  | lst xs => exact Bds.mono h hm
  | dK xs => exact fun q hq => (hm q hq).mono h
  | lk ob ks xs => exact fun q hq => (hm q hq).mono h
  | ins C xs => exact fun q hq => (hm q hq).mono h
theorem Wf.mono {a b : Nat} (h : a ≤ b) (hw : Wf a M) : Wf b M := fun m hm => (hw m hm).mono h
theorem bds_ints {n : Nat} (ns : List Int) : Bds n (ns.map D.int) := Bds.of fun d hd => by
  obtain ⟨i, _, rfl⟩ := List.mem_map.mp hd
  exact .int i
theorem bds_strs {n : Nat} (ns : List Str) : Bds n (ns.map D.str) := Bds.of fun d hd => by
  obtain ⟨i, _, rfl⟩ := List.mem_map.mp hd
  exact .str i
theorem bds_bls {n : Nat} (ns : List Bool) : Bds n (ns.map D.bl) := Bds.of fun d hd => by
  obtain ⟨i, _, rfl⟩ := List.mem_map.mp hd
  exact .bl i
end
theorem ix_nat {n i : Nat} (h : i < n) : ixN n (i : Int) = some i := by
  unfold ixN
  rw [if_pos (by omega), if_pos (by omega)]
  simp
theorem at_nat {α : Type} {xs : List α} {i : Nat} {x : α} (h : xs[i]? = some x) : atI xs (i : Int) = some x := by
  unfold atI
  rw [ix_nat (List.getElem?_eq_some_iff.mp h).1]
  exact h
theorem at_map {α : Type} {f : α → D} {xs : List α} {i : Int} {n : Nat} {x : α} (e : i = (n : Int)) (h : xs[n]? = some x) : atI (xs.map f) i = some (f x) := by
  subst e
  refine at_nat ?_
  rw [List.getElem?_map, h]
  rfl
end DL

namespace DL
open PySem PySem.Spec PyProof.Rows L2 ClX
section
variable {M : Mm} {ρ : Ev} {i : Nat} {Q : DK} {X : XD} {xs : List D} {st : Mm → Prop} {wt : DTT} {we : DT}
/-- what a comprehension asks behind its walk -/
def LcT (ρ : Ev) (i : Nat) (wt : DTT) (we : DT) (Q : DK) (xs : List D) (st : Mm → Prop) (M0 : Mm) : Prop := ∃ I : Nat → Mm → Prop, I 0 (M0 ++ [.lst []]) ∧ (∀ j M1, I j M1 → st M1) ∧
  (∀ j d M1, xs[j]? = some d → I j M1 → wt ((ρ.set i none).set i (some d)) M1 (fun b M2 => if b = true then we ((ρ.set i none).set i (some d)) M2 (fun y M3 => ∃ acc, M3[M0.length]? = some (.lst acc) ∧ acc.length < sizeLine ∧ UpM (M0.length + 1) (I (j + 1)) (M3.set M0.length (.lst (acc ++ [y])))) (fun _ _ _ => False)
    else UpM (M0.length + 1) (I (j + 1)) M2) (fun _ _ _ => False)) ∧ ∀ M1, I xs.length M1 → UpV M0.length Q (.ptr M0.length) M1
/-- behind the j-th turn -/
def LcI (M : Mm) (J : Nat → List D → Mm → Prop) (j : Nat) (M1 : Mm) : Prop := ∃ acc M', M1 = M' ++ [.lst acc] ∧ M'.length = M.length ∧ Wf M.length M' ∧ Bds M.length acc ∧ J j acc M'
def LcY (M : Mm) (J : Nat → List D → Mm → Prop) (j : Nat) : DK := fun y M3 => ∃ acc, M3[M.length]? = some (.lst acc) ∧ acc.length < sizeLine ∧ UpM (M.length + 1) (LcI M J (j + 1)) (M3.set M.length (.lst (acc ++ [y])))
def LcN (M : Mm) (J : Nat → List D → Mm → Prop) (j : Nat) (M2 : Mm) : Prop := UpM (M.length + 1) (LcI M J (j + 1)) M2
theorem lc_whole {M M'' : Mm} {a2 : List D} (l2 : M''.length = M.length) (w2 : Wf M.length M'') (b2 : Bds M.length a2) : Wf (M'' ++ [MO.lst a2]).length (M'' ++ [MO.lst a2]) := by
  have e : (M'' ++ [MO.lst a2]).length = M.length + 1 := by rw [List.length_append, l2]; rfl
  rw [e]
  exact (w2.mono (Nat.le_succ _)).app (Bds.mono (Nat.le_succ _) b2)
theorem Bds.snoc {n : Nat} {acc : List D} {y : D} (b : Bds n acc) (h : Bd n y) : Bds n (acc ++ [y]) := Bds.of fun d hd => by
  rcases List.mem_append.mp hd with z | z
  · exact b.get d z
  · have ez : d = y := by simpa using z
    rw [ez]
    exact h
theorem LcY.mk {M M'' : Mm} {J : Nat → List D → Mm → Prop} {j : Nat} {acc : List D} {y : D} (l2 : M''.length = M.length) (w2 : Wf M.length M'') (b : Bds M.length acc) (hy : Bd M.length y) (la : acc.length < sizeLine) (h : J (j + 1) (acc ++ [y]) M'') : LcY M J j y (M'' ++ [.lst acc]) := by
  have e1 : M.length = M''.length := l2.symm
  refine ⟨acc, by rw [e1]; exact app_last, la, ?_⟩
  have e2 : (M'' ++ [MO.lst acc]).set M.length (.lst (acc ++ [y])) = M'' ++ [.lst (acc ++ [y])] := by
    rw [e1, List.set_append_right _ _ (Nat.le_refl _), Nat.sub_self]
    rfl
  rw [e2]
  exact UpM.all (by rw [List.length_append, l2]; exact Nat.le_refl _) (lc_whole l2 w2 (b.snoc hy)) ⟨_, M'', rfl, l2, w2, b.snoc hy, h⟩
theorem LcN.mk {M M'' : Mm} {J : Nat → List D → Mm → Prop} {j : Nat} {acc : List D} (l2 : M''.length = M.length) (w2 : Wf M.length M'') (b : Bds M.length acc) (h : J (j + 1) acc M'') : LcN M J j (M'' ++ [.lst acc]) :=
  UpM.all (by rw [List.length_append, l2]; exact Nat.le_refl _) (lc_whole l2 w2 b) ⟨_, M'', rfl, l2, w2, b, h⟩
theorem lcI (J : Nat → List D → Mm → Prop) (hw : Wf M.length M) (h0 : J 0 [] M) (hst : ∀ j acc M', J j acc M' → M'.length = M.length → st (M' ++ [.lst acc]))
    (turn : ∀ j d acc M', xs[j]? = some d → M'.length = M.length → Wf M.length M' → Bds M.length acc → J j acc M' →
      wt ((ρ.set i none).set i (some d)) (M' ++ [.lst acc]) (fun b M2 => if b = true then we ((ρ.set i none).set i (some d)) M2 (LcY M J j) (fun _ _ _ => False) else LcN M J j M2) (fun _ _ _ => False))
    (fin : ∀ acc M', J xs.length acc M' → M'.length = M.length → Wf M.length M' → Bds M.length acc → Q (.lst acc) M' ∨ Q (.ptr M.length) (M' ++ [.lst acc])) : LcT ρ i wt we Q xs st M := by
  refine ⟨LcI M J, ⟨[], M, rfl, rfl, hw, .nil, h0⟩, ?_, ?_, ?_⟩
  · rintro j M1 ⟨acc, M', rfl, l, w, b, h⟩
    exact hst j acc M' h l
  · rintro j d M1 hd ⟨acc, M', rfl, l, w, b, h⟩
    exact turn j d acc M' hd l w b h
  · rintro M1 ⟨acc, M', rfl, l, w, b, h⟩
    have e1 : M.length = M'.length := l.symm
    rcases fin acc M' h l w b with q | q
    · rw [e1]
      exact UpV.frz (t := []) (by rw [← e1]; exact w) (by rw [← e1]; exact b) q (Nat.le_refl _)
    · exact UpV.all (by rw [List.length_append, l]; omega) (lc_whole l w b) (.ptr (by rw [List.length_append, l]; exact Nat.lt_succ_self _)) q
/-- .. an element for each, nothing else done -/
theorem lc_map (f : Nat → D → D) (hw : Wf M.length M) (hst : ∀ acc, st (M ++ [.lst acc])) (hl : xs.length < sizeLine) (hb : ∀ j d, xs[j]? = some d → Bd M.length (f j d)) (turn : ∀ j d acc (Q' : DK), xs[j]? = some d → Q' (f j d) (M ++ [.lst acc]) → we ((ρ.set i none).set i (some d)) (M ++ [.lst acc]) Q' (fun _ _ _ => False))
    (fin : Q (.lst (xs.mapIdx f)) M ∨ Q (.ptr M.length) (M ++ [.lst (xs.mapIdx f)])) : LcT ρ i dYes we Q xs st M := by
  refine lcI (fun j acc M' => M' = M ∧ acc = (xs.take j).mapIdx f) hw ⟨rfl, rfl⟩ (fun j acc M' h l => by rw [h.1]; exact hst acc) ?_ ?_
  · rintro j d acc M' hd l w b ⟨rfl, rfl⟩
    have hj : j < xs.length := (List.getElem?_eq_some_iff.mp hd).1
    have hlj : (xs.take j).length = j := by rw [List.length_take]; omega
    unfold dYes
    dsimp only
    rw [if_pos rfl]
    refine turn j d _ _ hd (LcY.mk l w b (hb j d hd) (by rw [List.length_mapIdx, hlj]; omega) ⟨rfl, ?_⟩)
    have e := (List.getElem?_eq_some_iff.mp hd).2
    rw [List.take_add_one, hd, Option.toList_some, List.mapIdx_append, hlj]
    simp
  · rintro acc M' ⟨rfl, rfl⟩ l w b
    rw [List.take_length]
    exact fin
end
end DL

namespace DL
open PySem PySem.Spec PyProof.Rows L2 ClX

/-! ### x op= e; tuple targets -/
theorem op_inOp {X : Cx} {op : Operator} {r : V → V → Hp → VK → Prop} (h : InOp X op r) : PIp X op r := h
section
variable {ι : Type} {X : ι → Cx} {K : PySem.W.Frag} {W : WX} {a b c e o lo hi : Expr} {es : List Expr} {pos p p2 apos cpos : Pos} {s : Stmt} {ss : List Stmt}
theorem ds_aug (i : Nat) {x : Str} {pos' : Pos} {op : Operator} {we : DT} {wr : DR2} (he : DE X K W e we) (hop : DIn X K op wr) (hN : ∀ j, (X j).N.Nodup) (hi : ∀ j, (X j).N[i]? = some x := by intro _; rfl) (hx : ∀ j, Loc (X j).env.scope x := by intro _; first | exact Or.inl rfl | exact Or.inr rfl)
    (hf : ∀ j, (X j).fn x = true ∨ (X j).env.scope.names.lookup x = some .local := by intro _; first | exact .inl rfl | exact .inr rfl) : DS X K W (.AugAssign (.Name x pos') op e pos) (dAug i we wr) := by
  obtain ⟨te, e1, e2⟩ := he
  obtain ⟨r, p1, p2⟩ := hop
  refine ⟨_, fun j => ps_aug (hN j) (hi j) (hx j) (e1 j) (op_inOp (p1 j)) (hf j), ?_⟩
  intro G as σ H ρ M De Dv h ev w c
  obtain ⟨d, h1, w⟩ := w
  obtain ⟨v, e3, r1⟩ := ev.at_ i d h1
  refine ⟨v, e3, e2 _ _ _ _ _ _ _ _ _ h ev w (fun G1 as1 H1 M1 y dy g1 hh1 ry w1 => ?_) (c.ce ev)⟩
  exact p2 _ _ _ _ _ _ _ _ _ _ hh1 (r1.mono g1) ry w1 (fun G2 as2 H2 M2 z dz g2 hh2 rz w2 => c.nx _ _ _ _ _ _ (g1.trans g2) hh2 ((ev.mono (g1.trans g2)).set i rz) w2)
def DGS (X : ι → Cx) (K : PySem.W.Frag) (W : WX) (es : List Expr) (w : DGts) : Prop := ∃ t, (∀ i, PGs (X i) es t) ∧ DnGs K W t w
theorem dgs_nil : DGS X K W [] dgNil := ⟨_, fun _ => pgs_nil, fun G as σ H ρ M vs ds P Xd R h ev r w c cx => by
  obtain ⟨rfl, q⟩ := w
  cases r
  exact ⟨rfl, c _ _ _ _ _ _ .refl h ev q⟩⟩
theorem dgs_cons {w : DGt} {u : DGts} (h1 : DG X K W e w) (h2 : DGS X K W es u) (hs : ∀ i, (assignEach (e :: es) (X i).env).map (·.2) = assign e (X i).env :: (assignEach es (X i).env).map (·.2) := by intro _; rfl) : DGS X K W (e :: es) (dgCons w u) := by
  obtain ⟨t, a1, a2⟩ := h1
  obtain ⟨tt, b1, b2⟩ := h2
  refine ⟨_, fun i => pgs_cons (a1 i) (b1 i) (hs i), fun G as σ H ρ M vs ds P Xd R h ev r w c cx => ?_⟩
  obtain ⟨d, dr, rfl, w⟩ := w
  cases r with
  | cons rv rr =>
    refine ⟨_, _, rfl, a2 _ _ _ _ _ _ _ _ _ _ _ h ev rv w (fun G1 as1 σ1 H1 ρ1 M1 g1 h1 e1 w1 => ?_) (fun G' as' H' M' C fs dd gs g h' hd kv q => cx _ _ _ _ _ _ _ _ _ _ g h' (ev.mono g) hd kv q)⟩
    exact b2 _ _ _ _ _ _ _ _ _ _ _ h1 e1 (rr.mono g1) w1 (c.mono g1) (cx.mono g1)
/-- (a, b, ..) = a tuple -/
def dgTup (u : DGts) (n : Nat) : DGt := fun d ρ M P Xd => ∃ xs, d = .tup xs ∧ xs.length = n ∧ u xs ρ M P Xd
theorem dg_tup {u : DGts} {k n : Nat} (hK : ∀ i, (X i).K = K) (hc : ∀ i, (X i).calm = true) (h : DGS X K W0 es u) (hn : ∀ i, (assignEach es (X i).env).length = n := by intro _; rfl) (hst : ∀ i, (assignEach es (X i).env).findIdx? (·.1) = none := by intro _; rfl) : DG X K W (.Tuple es k pos) (fun d ρ M P _ => dgTup u n d ρ M P (fun _ _ _ => False)) := by
  obtain ⟨t, a1, a2⟩ := h
  refine ⟨gTup K n t, fun i => by rw [← hK i]; exact pg_tup (hc i) (a1 i) (hn i) (hst i), ?_⟩
  intro G as σ H ρ M v d P Xd R h ev r w c ce
  obtain ⟨xs, rfl, hl, w⟩ := w
  obtain ⟨a, vs, rfl, hs, rv⟩ := r.tup_inv
  exact ⟨a, vs, rfl, sqT_mono h.sub hs, by rw [rv.length]; exact hl, a2 _ _ _ _ _ _ _ _ _ _ _ h ev rv w c (fun _ _ _ _ _ _ _ _ _ _ _ _ _ _ _ z => z.elim)⟩

/-! ### slices -/
def DOl (X : ι → Cx) (K : PySem.W.Frag) (W : WX) (e : Option Expr) (w : Ev → Mm → (Option Int → Mm → Prop) → XD → Prop) : Prop := ∃ t : TO, (∀ i, PO (X i) e t) ∧
  ∀ G as σ H ρ M Qd Xd (Q : Option Int → Hp → Prop), Hs K G as H M → Evs K G as σ ρ → w ρ M Qd Xd → (∀ G' as' H' M' l, Gr G as G' as' → Hs K G' as' H' M' → Qd l M' → Q l H') → CE K G as Xd (WR W σ) → t σ H Q
def dNo : Ev → Mm → (Option Int → Mm → Prop) → XD → Prop := fun _ M Q _ => Q none M
def dPart (we : DT) : Ev → Mm → (Option Int → Mm → Prop) → XD → Prop := fun ρ M Q X => we ρ M (fun d M1 => ∃ i, d = .int i ∧ Q (some i) M1) X
theorem dol_none : DOl X K W none dNo := ⟨_, fun _ => po_none, fun G as σ H ρ M Qd Xd Q h ev w c ce => c _ _ _ _ _ .refl h w⟩
theorem dol_some {we : DT} (he : DE X K W e we) : DOl X K W (some e) (dPart we) := by
  obtain ⟨te, e1, e2⟩ := he
  refine ⟨_, fun i => po_some (e1 i), fun G as σ H ρ M Qd Xd Q h ev w c ce => ?_⟩
  refine e2 _ _ _ _ _ _ _ Xd _ h ev w (fun G1 as1 H1 M1 x d g1 h1 r1 w1 => ?_) ce
  obtain ⟨i, rfl, q⟩ := w1
  exact ⟨i, r1.int_inv, c _ _ _ _ _ g1 h1 q⟩
/-- the items of xs[lo:hi] -/
def cutD (xs : List D) (lo hi : Option Int) : List D := (xs.drop (HT.sIx xs.length 0 lo)).take (HT.sIx xs.length xs.length hi - HT.sIx xs.length 0 lo)
/-- a text, a list: the list's cut is new, for good or an object -/
def wCut (d : D) (lo hi : Option Int) (M : Mm) (Q : DK) : Prop := (∃ z, d = .str z ∧ z.length ≤ sizeLine ∧ Q (.str (cutS z lo hi)) M) ∨ ∃ xs, lsOf M d = some xs ∧ (Q (.lst (cutD xs lo hi)) M ∨ Q (.ptr M.length) (M ++ [.lst (cutD xs lo hi)]))
def dSl (we : DT) (wl wh : Ev → Mm → (Option Int → Mm → Prop) → XD → Prop) : DT := fun ρ M Q X => we ρ M (fun d M1 => wl ρ M1 (fun l M2 => wh ρ M2 (fun u M3 => wCut d l u M3 Q) X) X) X
theorem rps_cut {G : Hp} {as : List Addr} {vs : List V} {ds : List D} (r : Rps K G as vs ds) (lo hi : Option Int) : Rps K G as (cutV vs lo hi) (cutD ds lo hi) := by
  unfold cutV cutD
  rw [r.length]
  exact (r.drop _).take _
theorem de_slice {lo hi : Option Expr} {we : DT} {wl wh : Ev → Mm → (Option Int → Mm → Prop) → XD → Prop} (hK : ∀ i, (X i).K = K) (he : DE X K W e we) (hl : DOl X K W lo wl) (hh : DOl X K W hi wh) : DE X K W (.Subscript e (.Slice lo hi none p2) pos) (dSl we wl wh) := by
  obtain ⟨te, e1, e2⟩ := he
  obtain ⟨tl, l1, l2⟩ := hl
  obtain ⟨th, u1, u2⟩ := hh
  refine ⟨tSl (fun x l u H Q => rSlS x l u H Q ∨ rSlL K x l u H Q) te tl th, fun i => pe_slice (SlR.or sl_str (by rw [← hK i]; exact sl_list)) (e1 i) (l1 i) (u1 i), ?_⟩
  intro G as σ H ρ M Qd Xd Q h ev w cv ce
  refine e2 _ _ _ _ _ _ _ Xd _ h ev w (fun G1 as1 H1 M1 x d g1 h1 r1 w1 => ?_) ce
  refine l2 _ _ _ _ _ _ _ Xd _ h1 (ev.mono g1) w1 (fun G2 as2 H2 M2 l g2 h2 w2 => ?_) (ce.mono g1)
  refine u2 _ _ _ _ _ _ _ Xd _ h2 (ev.mono (g1.trans g2)) w2 (fun G3 as3 H3 M3 u g3 h3 w3 => ?_) (ce.mono (g1.trans g2))
  have g123 := (g1.trans g2).trans g3
  have rx := (r1.mono g2).mono g3
  rcases w3 with ⟨z, rfl, hz, q⟩ | ⟨xs, hx, q⟩
  · exact .inl ⟨z, rx.str_inv, hz, cv _ _ _ _ _ _ g123 h3 (.str _) q⟩
  · obtain ⟨a, vs, rfl, ha, rv⟩ := h3.ls rx hx
    refine .inr ⟨a, vs, rfl, .inl (.inl ha), fun p np => ?_⟩
    rcases q with q | q
    · obtain ⟨g4, h4⟩ := h3.const (o := .lst (cutV vs l u)) np
      exact cv _ _ _ _ _ _ (g123.trans g4) h4 (.lst upd_same ((rps_cut rv l u).mono g4)) q
    · have x0 : Gr G3 as3 G3 (as3 ++ [p]) := ⟨Same.refl _, List.prefix_append _ _⟩
      obtain ⟨g4, h4⟩ := h3.push (m := .lst (cutD xs l u)) np (same_upd np) ⟨_, upd_same, (rps_cut rv l u).mono x0⟩
      refine cv _ _ _ _ _ _ (g123.trans g4) h4 (.ptr ?_) q
      rw [← h3.len]
      exact last_get _ _

/-! ### sep.join(xs) -/
def dJoin (wo we : DT) : DT := fun ρ M Q X => wo ρ M (fun d M1 => ∃ z, d = .str z ∧ we ρ M1 (fun e M2 => ∃ ys, sqOf M2 e = some (ys.map D.str) ∧ (ys.map (·.length)).sum + ys.length * z.length ≤ 16777216 ∧ Q (.str (Txt.join z ys)) M2) X) X
theorem rps_strs_inv {G : Hp} {as : List Addr} : ∀ {ns : List Str} {vs : List V}, Rps K G as vs (ns.map D.str) → vs = ns.map V.str
  | [], _, r => by cases r; rfl
  | n :: ns, _, r => by
    cases r with
    | cons h r =>
      rw [rps_strs_inv r, h.str_inv]
      rfl
theorem de_join {wo we : DT} (hK : ∀ i, (X i).K = K) (ho : DE X K W o wo) (he : DE X K W e we) (hs : ∀ i, starEach [e] (X i).env = [(false, eval e (X i).env)] := by intro _; rfl)
    (hbase : ∀ i, attributeBase o "join" (X i).env (eval o (X i).env) = eval o (X i).env := by intro _; rfl) (hline : (apos.endLine == cpos.line) = true := by rfl) : DE X K W (.Call (.Attribute o "join" apos) [e] [] cpos) (dJoin wo we) := by
  obtain ⟨to, o1, o2⟩ := ho
  obtain ⟨te, e1, e2⟩ := he
  refine ⟨tM1 (fun x xs H Q => ∃ a p, ∃ ys : List Str, x = .str a ∧ xs = [.ref p] ∧ (SqL K H p (ys.map V.str) ∨ SqT K H p (ys.map V.str)) ∧ (ys.map (·.length)).sum + ys.length * a.length ≤ 16777216 ∧ Q (.str (Txt.join a ys)) H) to te, fun i => by rw [← hK i]; exact pe_join (o1 i) (e1 i) (hs i) (hbase i) hline, ?_⟩
  intro G as σ H ρ M Qd Xd Q h ev w cv ce
  refine o2 _ _ _ _ _ _ _ Xd _ h ev w (fun G1 as1 H1 M1 x d g1 h1 r1 w1 => ?_) ce
  obtain ⟨z, rfl, w1⟩ := w1
  refine ⟨⟨z, r1.str_inv⟩, ?_⟩
  refine e2 _ _ _ _ _ _ _ Xd _ h1 (ev.mono g1) w1 (fun G2 as2 H2 M2 y dy g2 h2 r2 w2 => ?_) (ce.mono g1)
  obtain ⟨ys, hy, hb, q⟩ := w2
  obtain ⟨a, vs, rfl, hsq, rv⟩ := h2.sq r2 hy
  have e3 := rps_strs_inv rv
  subst e3
  exact ⟨z, a, ys, r1.str_inv, rfl, hsq, hb, cv _ _ _ _ _ _ (g1.trans g2) h2 (.str _) q⟩

/-! ### a written dict -/
/-- the value at a key -/
def KAt (K : PySem.W.Frag) (w : World) (a : Addr) (z : Str) (r : Option V) : Prop := ∃ es n, KDict K w a es n ∧ ∃ u, PySem.W.nsIn K a z = some u ∧ RelO r u
def wKIn (K : PySem.W.Frag) (w : World) (neg : Bool) : DR2 := fun e d M Q => ∃ z a r, e = .str z ∧ d = .kr a ∧ KAt K w a z r ∧ Q (.bl (if neg then !r.isSome else r.isSome)) M
theorem relO_some {r : Option V} {u : Option Value} (h : RelO r u) : r.isSome = u.isSome := by
  cases r <;> cases u <;> first | rfl | exact h.elim
/-- k in ATOMS -/
theorem do_kin {w : World} (hK : ∀ i, (X i).K = K) (hw : ∀ i, (X i).w = w) : DOp X K (compareOp .In) (wKIn K w false) := by
  refine ⟨fun x y H Q => ∃ d es n, KDict K w d es n ∧ ∃ (z : Str) (r : Option Value), x = .str z ∧ y = .ref d ∧ PySem.W.nsIn K d z = some r ∧ Q (.bl r.isSome) H, fun i => ?_, ?_⟩
  · intro pins s σ H x y v u Q I rx ry h
    obtain ⟨d, es, n, D, q⟩ := h
    rw [← hK i, ← hw i] at D
    rw [← hK i] at q
    exact op_in_kd D pins s σ H x y v u Q I rx ry q
  · intro G as H M x y d e Qd Q h r1 r2 q cv
    obtain ⟨z, a, r, rfl, rfl, ⟨es, n, D, u, hu, ro⟩, q⟩ := q
    refine ⟨a, es, n, D, z, u, r1.str_inv, r2.kr_inv, hu, ?_⟩
    rw [← relO_some ro]
    exact cv _ _ _ _ _ _ .refl h (.bl _) q
theorem do_knotin {w : World} (hK : ∀ i, (X i).K = K) (hw : ∀ i, (X i).w = w) : DOp X K (compareOp .NotIn) (wKIn K w true) := by
  refine ⟨fun x y H Q => ∃ d es n, KDict K w d es n ∧ ∃ (z : Str) (r : Option Value), x = .str z ∧ y = .ref d ∧ PySem.W.nsIn K d z = some r ∧ Q (.bl (!r.isSome)) H, fun i => ?_, ?_⟩
  · intro pins s σ H x y v u Q I rx ry h
    obtain ⟨d, es, n, D, q⟩ := h
    rw [← hK i, ← hw i] at D
    rw [← hK i] at q
    exact op_notIn_kd D pins s σ H x y v u Q I rx ry q
  · intro G as H M x y d e Qd Q h r1 r2 q cv
    obtain ⟨z, a, r, rfl, rfl, ⟨es, n, D, u, hu, ro⟩, q⟩ := q
    refine ⟨a, es, n, D, z, u, r1.str_inv, r2.kr_inv, hu, ?_⟩
    rw [← relO_some ro]
    exact cv _ _ _ _ _ _ .refl h (.bl _) q
/-- what a written value shows, wherever it is looked at -/
def KRp (K : PySem.W.Frag) (v : V) (d : D) : Prop := ∀ G as, Rp K G as v d
theorem krp_flat {v : V} {d : D} (f : Flat v d) : KRp K v d := fun _ _ => f.rp
/-- a written tuple of such -/
theorem krp_tup {a : Addr} {vs : List V} {ds : List D} (h : ∀ G : Hp, SqT K G a vs) (r : ∀ G as, Rps K G as vs ds) : KRp K (.ref a) (.tup ds) := fun G as => .tup (h G) (r G as)
/-- LEVELS[k] -/
def wKIx (K : PySem.W.Frag) (w : World) : DR2 := fun d e M Q => ∃ a z v x, d = .kr a ∧ e = .str z ∧ KAt K w a z (some v) ∧ KRp K v x ∧ Q x M
theorem de_kix {w : World} {wa wb : DT} (hK : ∀ i, (X i).K = K) (hw : ∀ i, (X i).w = w) (ha : DE X K W a wa) (hb : DE X K W b wb) (hs : PlainIx b := by exact fun _ _ => rfl) : DE X K W (.Subscript a b pos) (dOp (wKIx K w) wa wb) := by
  obtain ⟨ta, a1, a2⟩ := ha
  obtain ⟨tb, b1, b2⟩ := hb
  refine ⟨tOp (rIxD K w) ta tb, fun i => by rw [← hK i, ← hw i]; exact pe_ix ix_kdict (a1 i) (b1 i) hs, dn_op ?_ a2 b2⟩
  intro G as H M x y d e Qd Q h r1 r2 q cv
  obtain ⟨ad, z, v, dx, rfl, rfl, ⟨es, n, D, u, hu, ro⟩, kr, q⟩ := q
  obtain ⟨u', eu, ru⟩ : ∃ u', u = some u' ∧ RelV v u' := by
    cases u with
    | none => exact ro.elim
    | some u' => exact ⟨u', rfl, ro⟩
  subst eu
  exact ⟨ad, z, v, r1.kr_inv, r2.str_inv, ⟨es, n, u', D.at_, D.lit, hu, ru⟩, cv _ _ _ _ _ _ .refl h (kr _ _) q⟩
/-- ATOMS.get(k, x) -/
def tKGet2 (K : PySem.W.Frag) (w : World) (td ty tx : TE) : TE := fun σ H Q => td σ H fun x H1 => ∃ a es n, x = .ref a ∧ KDict K w a es n ∧ ty σ H1 fun y H2 => tx σ H2 fun z H3 => ∃ (k : Str) (o : Option Value) (r : Option V), y = .str k ∧ PySem.W.nsIn K a k = some o ∧ RelO r o ∧ Q (r.getD z) H3
theorem pe_kget2 {Y : Cx} {o e f : Expr} {td ty tx : TE} (ho : PE Y o td) (he : PE Y e ty) (hf : PE Y f tx) (m : M2 Y o "get" apos e f cpos) : PE Y (.Call (.Attribute o "get" apos) [e, f] [] cpos) (tKGet2 Y.K Y.w td ty tx) := by
  constructor
  intro pins s σ H Q I h
  refine wpAny_Call_method m.base m.few m.line PySem.F.plainAttrs_dict PySem.F.slot_dict_get PySem.F.type_dict_get (thn (ho.run pins s σ H _ I h) ?_)
  rintro u s1 ⟨x, H1, I1, rx, a, es, n, ex, D, q1⟩
  subst ex
  have eu : u = Value.ref a := rx
  subst eu
  refine ⟨kd_type D I1, fun b q => ?_, ?_⟩
  · cases q
    exact ⟨_, I1.kIn _ _ D.at_, rfl⟩
  rw [m.trees]
  refine Calls.callWith_builtin rfl (Calls.evalArgs_plain (Calls.spliced_cons (thn (he.run pins s1 σ H1 _ I1 q1) ?_)))
  rintro iv s2 ⟨y, H2, I2, ry, q2⟩
  refine Calls.spliced_cons (thn (hf.run pins s2 σ H2 _ I2 q2) ?_)
  rintro fv s3 ⟨z, H3, I3, rz, k, o', r, ey, hk, ro, q3⟩
  refine Calls.spliced_nil ?_
  subst ey
  obtain ⟨t, et⟩ := (show ∃ t, iv = Value.str k t from ry)
  subst et
  refine call_meetsIn PySem.F.slot_dict_get (kd_type D I3) PySem.F.entry_dict_get (PySem.F.args_dict_get_3 _ _ _) (meets_dict_get_default (strKind Y.prog Y.w) a (PySem.strKind_is Y.prog Y.w k t) D.low fv) ⟨_, PySem.W.mapOf_K (prog := Y.prog) (w := Y.w) I3.kIn D.at_ D.lit, ?_⟩
  rw [PySem.W.find_K D.at_ hk]
  refine ⟨r.getD z, H3, I3.tok _, ?_, q3⟩
  cases o' with
  | none =>
    cases r with
    | none => exact rz
    | some v => exact ro.elim
  | some u' =>
    cases r with
    | none => exact ro.elim
    | some v => exact ro
end
end DL

namespace DL
open PySem PySem.Spec PyProof.Rows L2 ClX
section
variable {ι : Type} {X : ι → Cx} {K : PySem.W.Frag} {W : WX} {a b c e f o lo hi : Expr} {es : List Expr} {pos p p2 apos cpos : Pos} {s : Stmt} {ss : List Stmt}
/-- ATOMS.get(k, x) -/
def dKGet2 (K : PySem.W.Frag) (w : World) (wo wk wx : DT) : DT := fun ρ M Q X => wo ρ M (fun o M1 => ∃ ad es n, o = .kr ad ∧ KDict K w ad es n ∧ wk ρ M1 (fun y M2 => wx ρ M2 (fun z M3 => ∃ k r, y = .str k ∧ KAt K w ad k r ∧ match r with
  | some v => ∃ x, KRp K v x ∧ Q x M3
  | none => Q z M3) X) X) X
theorem de_kget2 {w : World} {wo wk wx : DT} (hK : ∀ i, (X i).K = K) (hw : ∀ i, (X i).w = w) (ho : DE X K W o wo) (he : DE X K W e wk) (hf : DE X K W f wx) (m : ∀ i, M2 (X i) o "get" apos e f cpos := by intro _; exact ⟨rfl, rfl, rfl, rfl⟩) :
    DE X K W (.Call (.Attribute o "get" apos) [e, f] [] cpos) (dKGet2 K w wo wk wx) := by
  obtain ⟨to, o1, o2⟩ := ho
  obtain ⟨te, e1, e2⟩ := he
  obtain ⟨tf, f1, f2⟩ := hf
  refine ⟨tKGet2 K w to te tf, fun i => by rw [← hK i, ← hw i]; exact pe_kget2 (o1 i) (e1 i) (f1 i) (m i), ?_⟩
  intro G as σ H ρ M Qd Xd Q h ev w' cv ce
  refine o2 _ _ _ _ _ _ _ Xd _ h ev w' (fun G1 as1 H1 M1 x d g1 h1 r1 w1 => ?_) ce
  obtain ⟨ad, es, n, rfl, D, w1⟩ := w1
  refine ⟨ad, es, n, r1.kr_inv, D, ?_⟩
  refine e2 _ _ _ _ _ _ _ Xd _ h1 (ev.mono g1) w1 (fun G2 as2 H2 M2 y dy g2 h2 r2 w2 => ?_) (ce.mono g1)
  refine f2 _ _ _ _ _ _ _ Xd _ h2 (ev.mono (g1.trans g2)) w2 (fun G3 as3 H3 M3 z dz g3 h3 r3 w3 => ?_) (ce.mono (g1.trans g2))
  obtain ⟨k, r, rfl, ⟨_, _, _, u, hu, ro⟩, q⟩ := w3
  have g123 := (g1.trans g2).trans g3
  refine ⟨k, u, r, r2.str_inv, hu, ro, ?_⟩
  cases r with
  | none => exact cv _ _ _ _ _ _ g123 h3 r3 q
  | some v =>
    obtain ⟨x', kr, q⟩ := q
    exact cv _ _ _ _ _ _ g123 h3 (kr _ _) q
mutual
/-- data at any depth, for == -/
def toP (M : Mm) : D → Option PyData
  | .non => some .none
  | .bl b => some (.bool b)
  | .int i => some (.int i)
  | .str x => some (.str x)
  | .lst xs => (toPs M xs).map .list
  | .tup xs => (toPs M xs).map .tuple
  | _ => none
def toPs (M : Mm) : List D → Option (List PyData)
  | [] => some []
  | d :: ds => match toP M d, toPs M ds with
    | some p, some ps => some (p :: ps)
    | _, _ => none
end
mutual
theorem rp_dp {G : Hp} {as : List Addr} {H : Hp} {M : Mm} (h : Hs K G as H M) : ∀ {v : V} {d : D} {p : PyData}, Rp K G as v d → toP M d = some p → Dp K H v p
  | _, .non, _, r, e => by cases r; cases e; exact .non
  | _, .bl b, _, r, e => by cases r; cases e; exact .bl _
  | _, .int b, _, r, e => by cases r; cases e; exact .int _
  | _, .str b, _, r, e => by cases r; cases e; exact .str _
  | _, .lst xs, _, r, e => by
    obtain ⟨a, vs, rfl, ha, rv⟩ := r.lst_inv
    unfold toP at e
    cases q : toPs M xs with
    | none => rw [q] at e; cases e
    | some ps =>
      rw [q] at e
      cases e
      exact .lst (.inl (.inl (h.sub _ _ ha))) (rps_dp h rv q)
  | _, .tup xs, _, r, e => by
    obtain ⟨a, vs, rfl, ha, rv⟩ := r.tup_inv
    unfold toP at e
    cases q : toPs M xs with
    | none => rw [q] at e; cases e
    | some ps =>
      rw [q] at e
      cases e
      exact .tup (sqT_mono h.sub ha) (rps_dp h rv q)
  | _, .ty _, _, _, e => by unfold toP at e; cases e
  | _, .kr _, _, _, e => by unfold toP at e; cases e
  | _, .ptr _, _, _, e => by unfold toP at e; cases e
  | _, .scr _, _, _, e => by unfold toP at e; cases e
  | _, .xc _ _ _ _, _, _, e => by unfold toP at e; cases e
theorem rps_dp {G : Hp} {as : List Addr} {H : Hp} {M : Mm} (h : Hs K G as H M) : ∀ {vs : List V} {ds : List D} {ps : List PyData}, Rps K G as vs ds → toPs M ds = some ps → DpAll K H vs ps
  | _, [], _, r, e => by cases r; unfold toPs at e; cases e; exact .nil
  | _, d :: ds, _, r, e => by
    cases r with
    | cons r1 r2 =>
      unfold toPs at e
      cases q : toP M d with
      | none => rw [q] at e; cases e
      | some p =>
        cases q2 : toPs M ds with
        | none => rw [q, q2] at e; cases e
        | some ps =>
          rw [q, q2] at e
          cases e
          exact .cons (rp_dp h r1 q) (rps_dp h r2 q2)
end
def wEqD : DR2 := fun d e M Q => ∃ p q, toP M d = some p ∧ toP M e = some q ∧ SeqAt.shaped p = true ∧ SeqAt.shaped q = true ∧ Q (.bl (PyData.eqv p q)) M
theorem do_eqD (hK : ∀ i, (X i).K = K) (hu : ∀ i, (X i).A.units + 64 < cLine) : DOp X K (compareOp .Eq) wEqD := ⟨rEqD K, fun i => by rw [← hK i]; exact op_eqD (hu i), fun G as H M x y d e Qd Q h r1 r2 q cv => by
  obtain ⟨p, q', e1, e2, s1, s2, q⟩ := q
  exact ⟨p, q', rp_dp h r1 e1, rp_dp h r2 e2, s1, s2, cv _ _ _ _ _ _ .refl h (.bl _) q⟩⟩
/-- {'k': v, ..}: a new dict -/
def putAll (kvs : List (Key × D)) : List (Key × D) → List (Key × D) := fun more => more.foldl (fun acc kv => putD acc kv.1 kv.2) kvs
def DPs (X : ι → Cx) (K : PySem.W.Frag) (W : WX) (pos : Pos) (ks : List (Option Expr)) (vs : List Expr) (w : Ev → Mm → (List (D × D) → Mm → Prop) → XD → Prop) : Prop := ∃ t : List (TE × TE), (∀ i, PPs (X i) pos ks vs t) ∧
  ∀ G as σ H ρ M Qd Xd (Q : List (V × V) → Hp → Prop), Hs K G as H M → Evs K G as σ ρ → w ρ M Qd Xd → (∀ G' as' H' M' ps ds, Gr G as G' as' → Hs K G' as' H' M' → Paired (fun p d => Rp K G' as' p.1 d.1 ∧ Rp K G' as' p.2 d.2) ps ds → Qd ds M' → Q ps H') → CE K G as Xd (WR W σ) → tPairs t σ H Q
def dPsNil : Ev → Mm → (List (D × D) → Mm → Prop) → XD → Prop := fun _ M Q _ => Q [] M
def dPsCons (wk wv : DT) (wr : Ev → Mm → (List (D × D) → Mm → Prop) → XD → Prop) : Ev → Mm → (List (D × D) → Mm → Prop) → XD → Prop := fun ρ M Q X => wk ρ M (fun k M1 => wv ρ M1 (fun v M2 => wr ρ M2 (fun ds M3 => Q ((k, v) :: ds) M3) X) X) X
theorem dps_nil : DPs X K W pos [] [] dPsNil := ⟨[], fun _ => pps_nil, fun G as σ H ρ M Qd Xd Q h ev w c ce => c _ _ _ _ _ _ .refl h .nil w⟩
theorem dps_cons {k v : Expr} {ks : List (Option Expr)} {vs : List Expr} {wk wv : DT} {wr : Ev → Mm → (List (D × D) → Mm → Prop) → XD → Prop} (hk : DE X K W k wk) (hv : DE X K W v wv) (hr : DPs X K W pos ks vs wr) : DPs X K W pos (some k :: ks) (v :: vs) (dPsCons wk wv wr) := by
  obtain ⟨tk, k1, k2⟩ := hk
  obtain ⟨tv, v1, v2⟩ := hv
  obtain ⟨tr, r1, r2⟩ := hr
  refine ⟨(tk, tv) :: tr, fun i => pps_cons (k1 i) (v1 i) (r1 i), fun G as σ H ρ M Qd Xd Q h ev w c ce => ?_⟩
  refine k2 _ _ _ _ _ _ _ Xd _ h ev w (fun G1 as1 H1 M1 x d g1 h1 rx w1 => ?_) ce
  refine v2 _ _ _ _ _ _ _ Xd _ h1 (ev.mono g1) w1 (fun G2 as2 H2 M2 y dy g2 h2 ry w2 => ?_) (ce.mono g1)
  refine r2 _ _ _ _ _ _ _ Xd _ h2 (ev.mono (g1.trans g2)) w2 (fun G3 as3 H3 M3 ps ds g3 h3 rr w3 => ?_) (ce.mono (g1.trans g2))
  exact c _ _ _ _ _ _ ((g1.trans g2).trans g3) h3 (.cons ⟨(rx.mono g2).mono g3, ry.mono g3⟩ rr) w3
def keysOf : List (D × D) → Option (List (Key × D))
  | [] => some []
  | (k, v) :: r => match keyOf k, keysOf r with
    | some k', some r' => some ((k', v) :: r')
    | _, _ => none
def dDisp (wp : Ev → Mm → (List (D × D) → Mm → Prop) → XD → Prop) : DT := fun ρ M Q X => wp ρ (M ++ [.dK []]) (fun ds M2 => M2[M.length]? = some (.dK []) ∧ ∃ kvs, keysOf ds = some kvs ∧ kvs.length ≤ 15 ∧ Q (.ptr M.length) (M2.set M.length (.dK (putAll [] kvs)))) X
theorem kvr_all {G : Hp} {as : List Addr} : ∀ {ms : List (Key × V)} {ns : List (Key × D)} {ps : List (Key × V)} {qs : List (Key × D)}, Kvr K G as ms ns → Kvr K G as ps qs → Kvr K G as (mergeK ps ms) (putAll qs ns)
  | _, _, _, _, .nil, r => r
  | (k, x) :: ms, (k', y) :: ns, ps, qs, .cons h t, r => by
    have hk : k = k' := h.1
    subst hk
    show Kvr K G as (mergeK (putK ps k x) ms) (putAll (putD qs k y) ns)
    exact kvr_all (ms := ms) (ns := ns) t (kvr_put r h.2)
theorem keys_kvr {G : Hp} {as : List Addr} : ∀ {ps : List (V × V)} {ds : List (D × D)} {kvs : List (Key × D)}, Paired (fun p d => Rp K G as p.1 d.1 ∧ Rp K G as p.2 d.2) ps ds → keysOf ds = some kvs → ∃ ms : List (Key × V), ps = ms.map (fun kv => (kV kv.1, kv.2)) ∧ Kvr K G as ms kvs
  | _, _, _, .nil, e => by cases e; exact ⟨[], rfl, .nil⟩
  | (x, y) :: ps, (dx, dy) :: ds, kvs, .cons h t, e => by
    unfold keysOf at e
    cases q : keyOf dx with
    | none => rw [q] at e; cases e
    | some k =>
      cases q2 : keysOf ds with
      | none => rw [q, q2] at e; cases e
      | some r =>
        rw [q, q2] at e
        cases e
        obtain ⟨ms, e1, e2⟩ := keys_kvr t q2
        have ex : x = kV k := h.1.keyOf q
        exact ⟨(k, y) :: ms, by rw [e1, ex]; rfl, .cons ⟨rfl, h.2⟩ e2⟩
theorem de_disp {ks : List (Option Expr)} {vs : List Expr} {wp : Ev → Mm → (List (D × D) → Mm → Prop) → XD → Prop} (h : DPs X K W pos ks vs wp) (hall : ks.all (·.isSome) = true := by rfl) (hl : ks.length = vs.length := by rfl) (h0 : ks ≠ [] := by exact fun z => by cases z) (h15 : ks.length ≤ 15 := by decide) : DE X K W (.Dict ks vs pos) (dDisp wp) := by
  obtain ⟨t, a1, a2⟩ := h
  refine ⟨tDisp t, fun i => pe_disp (a1 i) hall hl h0 h15, ?_⟩
  intro G as σ H ρ M Qd Xd Q h ev w cv ce p np
  have x0 : Gr G as G (as ++ [p]) := ⟨Same.refl _, List.prefix_append _ _⟩
  obtain ⟨g2, h2⟩ := h.push (m := .dK []) np (same_upd np) ⟨[], upd_same, .nil⟩
  have hp : (as ++ [p])[M.length]? = some p := by rw [← h.len]; exact last_get _ _
  refine a2 _ _ _ _ _ _ _ Xd _ h2 (ev.mono g2) w (fun G3 as3 H3 M3 ps ds g3 h3 rr w3 => ?_) (ce.mono g2)
  obtain ⟨e3, kvs, ek, l15, q⟩ := w3
  have hp3 := pre_get g3.a hp
  obtain ⟨ks', e4, kv4⟩ := h3.ob _ _ _ hp3 e3
  cases kv4
  obtain ⟨ms, e5, km⟩ := keys_kvr rr ek
  refine ⟨e4, ms, e5, by rw [kvr_len km]; exact l15, ?_⟩
  exact cv _ _ _ _ _ _ (g2.trans g3) (h3.put (m := .dK (putAll [] kvs)) hp3 ⟨_, upd_same, kvr_all km .nil⟩) (.ptr hp3) q
end
end DL

namespace DL
open PySem PySem.Spec PyProof.Rows L2 ClX
/-- (a, b, ..) = a tuple, as a target -/
def dgTupF (u : DGts) (n : Nat) : DGt := fun d ρ M P _ => dgTup u n d ρ M P (fun _ _ _ => False)
section
variable {K : PySem.W.Frag} {w : World} {a : Addr} {es : Array DictEntry} {n : Nat}
/-! ### what a written dict holds, key by key -/
theorem kAt_some {z : Str} {v : V} {u : Value} (D : KDict K w a es n) (h : PySem.W.nsIn K a z = some (some u)) (r : RelV v u) : KAt K w a z (some v) := ⟨es, n, D, some u, h, r⟩
theorem kAt_none {z : Str} {keys : List Str} (D : KDict K w a es n) (h : (es.toList.all fun e => keys.any (e.key.isStr ·)) = true) (hz : z ∉ keys) : KAt K w a z none := by
  refine ⟨es, n, D, none, ?_, trivial⟩
  have h' := List.all_eq_true.mp h
  have one : ∀ e ∈ es.toList, e.key.isStr z = false ∧ e.refKey = false := by
    intro e he
    obtain ⟨k, hk, q⟩ := List.any_eq_true.mp (h' e he)
    have hne : z ≠ k := fun c => hz (c ▸ hk)
    exact ⟨isStr_other hne e q, isStr_notRef e q⟩
  unfold PySem.W.nsIn
  rw [D.at_]
  dsimp only
  have e1 : es.toList.find? (fun e => e.key.isStr z) = none := List.find?_eq_none.mpr fun e he => by rw [(one e he).1]; exact Bool.false_ne_true
  rw [e1]
  have e2 : es.toList.any (·.refKey) = false := List.any_eq_false.mpr fun e he => by rw [(one e he).2]; exact Bool.false_ne_true
  simp only [e2]
  rfl
/-- a written tuple of one text -/
theorem krp_t1 {t : Addr} {x : Str} {tk : Tok} {dd : Option Addr} {m : Nat} {sl : Array (Option Value)} (h : K.lookup t = some ⟨.type "tuple", dd, .seq #[.str x tk] m, sl⟩) : KRp K (.ref t) (.tup [.str x]) :=
  krp_tup (vs := [.str x]) (fun G => .inr ⟨_, _, _, h, rfl, rfl, (show (1 : Nat) ≤ sizeLine by decide), .cons ⟨tk, rfl⟩ .nil⟩) (fun G as => .cons (.str x) .nil)
end
section
variable {ι : Type} {X : ι → Cx} {K : PySem.W.Frag} {W : WX} {a b c e f o lo hi : Expr} {es : List Expr} {pos p p2 apos cpos : Pos} {s : Stmt} {ss : List Stmt}
theorem rps_erase {G : Hp} {as : List Addr} : ∀ {vs : List V} {ds : List D}, Rps K G as vs ds → ∀ k, Rps K G as (vs.eraseIdx k) (ds.eraseIdx k)
  | _, _, .nil, _ => .nil
  | _, _, .cons h r, 0 => r
  | _, _, .cons h r, k + 1 => .cons h (rps_erase r k)
/-- xs.pop(i) -/
def dPopAt (wo : DT) (wa : DTA) : DT := fun ρ M Q X => wo ρ M (fun o M1 => ∃ k xs, o = .ptr k ∧ M1[k]? = some (.lst xs) ∧ wa ρ M1 (fun ds M2 => ∃ ys i j d, ds = [.int i] ∧ M2[k]? = some (.lst ys) ∧ -(2 ^ 63) ≤ i ∧ i < 2 ^ 63 ∧ seqIndex? i ys.length = some j ∧ ys[j]? = some d ∧ Q d (M2.set k (.lst (ys.eraseIdx j)))) X) X
theorem de_popAt {wo : DT} {wa : DTA} (hK : ∀ i, (X i).K = K) (ho : DE X K W o wo) (ha : DA X K W [e] wa) (hbase : ∀ i, attributeBase o "pop" (X i).env (eval o (X i).env) = eval o (X i).env := by intro _; rfl)
    (hfew : ∀ i, ((backTo cpos (starEach [e] (X i).env)).all (fun x => !x.1) && (backToKw cpos (keywordEach [] (X i).env)).all (fun x => x.1.isSome) && decide (([e] : List Expr).length + ([] : List Keyword).length + (if ([] : List Keyword).isEmpty then 0 else 1) < 30)) = true := by intro _; rfl)
    (hline : (apos.endLine == cpos.line) = true := by rfl) (hs : ∀ i, starEach [e] (X i).env = (false, eval e (X i).env) :: starEach [] (X i).env := by intro _; rfl) (hpl : ∀ i, (backTo cpos (starEach [] (X i).env)).any (·.1) = false := by intro _; rfl) :
    DE X K W (.Call (.Attribute o "pop" apos) [e] [] cpos) (dPopAt wo wa) := by
  obtain ⟨to, o1, o2⟩ := ho
  obtain ⟨ta, a1, a2⟩ := ha
  refine ⟨tBM K "list" rPopAt to ta, fun i => by rw [← hK i]; exact pe_bm PySem.F.plainAttrs_list PySem.F.slot_list_pop PySem.F.type_list_pop mt_popAt (o1 i) (a1 i) (hbase i) (hfew i) hline (hs i) (hpl i), ?_⟩
  intro G as σ H ρ M Qd Xd Q h ev w cv ce
  refine o2 _ _ _ _ _ _ _ Xd _ h ev w (fun G1 as1 H1 M1 x d g1 h1 r1 w1 => ?_) ce
  obtain ⟨k, xs, rfl, e1, w1⟩ := w1
  obtain ⟨a, rfl, ha, vs, e2, _⟩ := h1.ptr r1 e1
  refine ⟨.inl ⟨rfl, vs, .inl (.inl e2)⟩, ?_⟩
  refine a2 _ _ _ _ _ _ _ Xd _ h1 (ev.mono g1) w1 (fun G2 as2 H2 M2 us ds g2 h2 r2 w2 => ?_) (ce.mono g1)
  obtain ⟨ys, i, j, d, rfl, e3, l1, l2, e5, e6, q⟩ := w2
  obtain ⟨u, rfl, ru⟩ := rps1 r2
  cases ru
  obtain ⟨a', ea, ha', ws, e4, rw4⟩ := h2.ptr (r1.mono g2) e3
  cases ea
  obtain ⟨v, ev', rv⟩ := rw4.get e6
  refine ⟨a, ws, i, j, v, rfl, rfl, e4, l1, l2, by rw [rw4.length]; exact e5, ev', ?_⟩
  exact cv _ _ _ _ _ _ (g1.trans g2) (h2.put (m := .lst (ys.eraseIdx j)) ha' ⟨_, upd_same, rps_erase rw4 j⟩) rv q
end
end DL

namespace DL
open PySem PySem.Spec PyProof.Rows L2 ClX
/-! ### small laws that run a reading by simp -/
theorem v_scalI (a b : Int) : scal (.int a) (.int b) = true := rfl
theorem v_scalS (a b : Str) : scal (.str a) (.str b) = true := rfl
theorem v_scalB (a b : Bool) : scal (.bl a) (.bl b) = true := rfl
theorem v_scalN : scal .non .non = true := rfl
theorem v_decI (a b : Int) : decide (V.int a = V.int b) = decide (a = b) := dec_ii a b
theorem v_decS (a b : Str) : decide (V.str a = V.str b) = decide (a = b) := dec_ss a b
theorem v_decB (a b : Bool) : decide (V.bl a = V.bl b) = decide (a = b) := by cases a <;> cases b <;> rfl
section
variable (M : Mm) (xs : List D) (k : Nat)
theorem v_lsL : lsOf M (.lst xs) = some xs := rfl
theorem v_lsP : (lsOf M (.ptr k) = some xs) = (M[k]? = some (.lst xs)) := by
  unfold lsOf
  dsimp only
  cases M[k]? with
  | none => simp
  | some o => cases o <;> simp
theorem v_lsI (i : Int) : lsOf M (.int i) = none := rfl
theorem v_lsS (i : Str) : lsOf M (.str i) = none := rfl
theorem v_lsB (i : Bool) : lsOf M (.bl i) = none := rfl
theorem v_lsT : lsOf M (.tup xs) = none := rfl
theorem v_lsN : lsOf M .non = none := rfl
theorem v_sqT : sqOf M (.tup xs) = some xs := rfl
theorem v_sqL : sqOf M (.lst xs) = some xs := rfl
theorem v_sqP : (sqOf M (.ptr k) = some xs) = (M[k]? = some (.lst xs)) := v_lsP M xs k
theorem v_sqI (i : Int) : sqOf M (.int i) = none := rfl
theorem v_sqS (i : Str) : sqOf M (.str i) = none := rfl
theorem v_sqB (i : Bool) : sqOf M (.bl i) = none := rfl
theorem v_sqN : sqOf M .non = none := rfl
end
theorem v_vI (i : Int) : vOf (.int i) = some (.int i) := rfl
theorem v_vS (i : Str) : vOf (.str i) = some (.str i) := rfl
theorem v_vB (i : Bool) : vOf (.bl i) = some (.bl i) := rfl
theorem v_vN : vOf .non = some .non := rfl
theorem v_vT (xs : List D) : vOf (.tup xs) = none := rfl
theorem v_vL (xs : List D) : vOf (.lst xs) = none := rfl
theorem v_vP (k : Nat) : vOf (.ptr k) = none := rfl
theorem v_sign (a b : Nat) : ((⟨#[a]⟩ : Str) = ⟨#[b]⟩) = (a = b) := by
  apply propext
  constructor
  · intro h
    have := congrArg (fun s : Str => s.cps.toList) h
    simpa using this
  · intro h; rw [h]
theorem v_map {α β : Type} (f : α → β) (xs : List α) (i : Int) : atI (xs.map f) i = (atI xs i).map f := by
  unfold atI
  rw [List.length_map]
  cases ixN xs.length i with
  | none => rfl
  | some j => simp
theorem v_at0 {α : Type} (a : α) (xs : List α) : atI (a :: xs) 0 = some a := at_nat (i := 0) rfl
theorem v_at1 {α : Type} (a b : α) (xs : List α) : atI (a :: b :: xs) 1 = some b := at_nat (i := 1) rfl
theorem v_at2 {α : Type} (a b c : α) (xs : List α) : atI (a :: b :: c :: xs) 2 = some c := at_nat (i := 2) rfl
theorem v_at3 {α : Type} (a b c d : α) (xs : List α) : atI (a :: b :: c :: d :: xs) 3 = some d := at_nat (i := 3) rfl
theorem v_at4 {α : Type} (a b c d e : α) (xs : List α) : atI (a :: b :: c :: d :: e :: xs) 4 = some e := at_nat (i := 4) rfl
theorem v_at5 {α : Type} (a b c d e f : α) (xs : List α) : atI (a :: b :: c :: d :: e :: f :: xs) 5 = some f := at_nat (i := 5) rfl
theorem v_tt {α : Sort _} (a b : α) : (if true = true then a else b) = a := rfl
theorem v_ff {α : Sort _} (a b : α) : (if false = true then a else b) = b := rfl
theorem v_isN (d : D) : isNon d = decide (vOf d = some .non) := by cases d <;> simp [isNon, vOf]
theorem v_ofs (a b : String) : ((Str.ofString a : Str) = Str.ofString b) = (a = b) := by
  apply propext
  constructor
  · intro h
    rw [Str.ofString_eq_toList, Str.ofString_eq_toList] at h
    have h1 : (a.toList.map Char.toNat) = (b.toList.map Char.toNat) := by
      have := congrArg (fun s : Str => s.cps.toList) h
      simpa using this
    have h2 : a.toList = b.toList := List.map_inj_right (fun x y e => by
      apply Char.ext
      apply UInt32.toNat_inj.mp
      exact e) |>.mp h1
    exact String.toList_inj.mp h2
  · intro h; rw [h]
theorem v_eqS (a b : Str) : eqV (.str a) (.str b) = decide (a = b) := rfl
theorem v_eqI (a b : Int) : eqV (.int a) (.int b) = decide (a = b) := rfl
theorem v_dkP (M : Mm) (k : Nat) (xs : List (Key × D)) : (dkOf M (.ptr k) = some xs) = (M[k]? = some (.dK xs) ∨ ∃ o ks, M[k]? = some (.lk o ks xs)) := by
  unfold dkOf
  dsimp only
  cases M[k]? with
  | none => simp
  | some o => cases o <;> simp
theorem v_bdS (n : Nat) (x : Str) : Bd n (.str x) = True := eq_true (.str x)
theorem v_bdI (n : Nat) (x : Int) : Bd n (.int x) = True := eq_true (.int x)
theorem v_bdB (n : Nat) (x : Bool) : Bd n (.bl x) = True := eq_true (.bl x)
theorem v_bdN (n : Nat) : Bd n .non = True := eq_true .non
theorem v_bdT (n : Nat) (xs : List D) : Bd n (.tup xs) = Bds n xs := propext ⟨fun h => by cases h; assumption, .tup⟩
theorem v_bdL (n : Nat) (xs : List D) : Bd n (.lst xs) = Bds n xs := propext ⟨fun h => by cases h; assumption, .lst⟩
theorem v_bdP (n k : Nat) : Bd n (.ptr k) = (k < n) := propext ⟨fun h => by cases h; assumption, .ptr⟩
theorem v_bdsN (n : Nat) : Bds n [] = True := eq_true .nil
theorem v_bdsC (n : Nat) (d : D) (ds : List D) : Bds n (d :: ds) = (Bd n d ∧ Bds n ds) := propext ⟨fun h => by cases h; constructor <;> assumption, fun h => .cons h.1 h.2⟩
theorem v_lastD (M : Mm) (o : MO) : (M ++ [o])[M.length]? = some o := app_last
theorem v_lastS (M : Mm) (o o' : MO) : (M ++ [o]).set M.length o' = M ++ [o'] := by simp
theorem v_kyS (a : Str) : keyOf (.str a) = some (.inr a) := rfl
theorem v_kyI (a : Int) : keyOf (.int a) = some (.inl a) := rfl
section
variable {ι : Type} {X : ι → Cx} {K : PySem.W.Frag} {W : WX} {e : Expr}
/-- what an expression laid behind the memory is dropped -/
def dUpC (w : DT) : DT := fun ρ M Q X => Wf M.length M → w ρ M (fun d M' => ∃ t, M' = M ++ t ∧ Bd M.length d ∧ Q d M) X
theorem de_upC {w : DT} (h : DE X K W e w) : DE X K W e (dUpC w) := by
  obtain ⟨t, a, b⟩ := h
  refine ⟨t, a, fun G as σ H ρ M Qd Xd Q hh ev w' cv ce => b _ _ _ _ _ _ _ _ _ hh ev (w' hh.wf) (fun G' as' H' M' v d g h r p => ?_) ce⟩
  obtain ⟨t', rfl, bd, q⟩ := p
  exact (cv.up hh.len) _ _ _ _ _ _ g h r ⟨_, d, M, stl_cut rfl (Nat.le_refl _) hh.wf, bd.rs, q⟩
end
theorem rng_len (lo : Int) (n : Nat) : (rng lo n).length = n := by
  unfold rng
  rw [List.length_map, List.length_range]
theorem rng_at {n j : Nat} {d : D} (h : (rng 0 n)[j]? = some d) : j < n ∧ d = .int j := by
  have hj : j < n := by
    have := (List.getElem?_eq_some_iff.mp h).1
    rwa [rng_len] at this
  refine ⟨hj, ?_⟩
  unfold rng at h
  rw [List.getElem?_map, List.getElem?_range hj] at h
  have := (Option.some.inj h).symm
  rw [this]
  simp
theorem rng_at' {lo : Int} {n j : Nat} {d : D} (h : (rng lo n)[j]? = some d) : j < n ∧ d = .int (lo + j) := by
  have hj : j < n := by
    have := (List.getElem?_eq_some_iff.mp h).1
    rwa [rng_len] at this
  refine ⟨hj, ?_⟩
  unfold rng at h
  rw [List.getElem?_map, List.getElem?_range hj] at h
  exact (Option.some.inj h).symm
/-- a tuple of a flat datum and of the last list -/
theorem UpV.frzT2 {P : DK} {M0 t : Mm} {ys : List D} {x : D} {n : Nat} (w : Wf M0.length M0) (wx : Bd M0.length x) (wd : Bds M0.length ys) (h : P (.tup [x, .lst ys]) M0) (hn : n ≤ M0.length) : UpV n P (.tup [x, .ptr M0.length]) (M0 ++ .lst ys :: t) :=
  ⟨_, _, M0, stl_cut rfl hn w, .tup (.cons wx.rs (.cons (.frz (by rw [List.mem_range]; omega) (by rw [List.getElem?_append_right (Nat.le_refl _), Nat.sub_self]; rfl) (Bds.rs wd)) .nil)), h⟩
theorem bds_nats {n : Nat} (ns : List Nat) : Bds n (ns.map fun i : Nat => D.int i) := Bds.of fun d hd => by
  obtain ⟨i, _, rfl⟩ := List.mem_map.mp hd
  exact .int i
section
variable {ι : Type} {X : ι → Cx} {K : PySem.W.Frag} {W : WX}
/-- list(x), an object -/
def wListM : List D → Mm → DK → Prop := fun ds M Q => (∃ d xs, ds = [d] ∧ sqOf M d = some xs ∧ Q (.ptr M.length) (M ++ [.lst xs])) ∨ ∃ ns, ds = [.scr ns] ∧ Q (.ptr M.length) (M ++ [.lst (ns.map .int)])
theorem dc_listM (hK : ∀ i, (X i).K = K) : DCall X K (.type "list") wListM := ⟨_, fun i => (show CallR (X i) (.type "list") (fun xs H Q => ∃ p ys, xs = [.ref p] ∧ (SqL K H p ys ∨ SqT K H p ys) ∧ ∀ l, H l = none → Q (.ref l) (upd H l (.lst ys))) by rw [← hK i]; exact call_list_of), fun G as H M vs ds Qd Q h r q cv => by
  have fin : ∀ (ws : List V) (xs : List D) (l : Addr), Rps K G as ws xs → H l = none → Qd (.ptr M.length) (M ++ [.lst xs]) → Q (.ref l) (upd H l (.lst ws)) := fun ws xs l rw' nl q => by
    have x0 : Gr G as G (as ++ [l]) := ⟨Same.refl _, List.prefix_append _ _⟩
    obtain ⟨g2, h2⟩ := h.push (m := .lst xs) nl (same_upd nl) ⟨ws, upd_same, rw'.mono x0⟩
    refine cv _ _ _ _ _ _ g2 h2 (.ptr ?_) q
    rw [← h.len]
    exact last_get _ _
  rcases q with ⟨d, xs, rfl, e1, q⟩ | ⟨ns, rfl, q⟩
  · obtain ⟨v, rfl, rv⟩ := rps1 r
    obtain ⟨a, ws, rfl, hs, rw'⟩ := h.sq rv e1
    exact ⟨a, ws, rfl, hs, fun l nl => fin ws xs l rw' nl q⟩
  · obtain ⟨v, rfl, rv⟩ := rps1 r
    obtain ⟨a, rfl, hs⟩ := rv.scr_inv
    exact ⟨a, _, rfl, .inl (h.sub.seq hs), fun l nl => fin _ _ l (rps_ints ns) nl q⟩⟩
end
section
variable {M : Mm} {ρ : Ev} {i : Nat} {Q : DK} {xs : List D} {st : Mm → Prop} {wt : DTT} {we : DT}
theorem dLc_eq (di : DIt) (i : Nat) (wt : DTT) (we : DT) : dLc di i wt we = fun ρ M Q X => di ρ M (fun xs st M0 => LcT ρ i wt we Q xs st M0) X := rfl
/-- a comprehension with a test, nothing else done -/
theorem lc_filter (p : D → Bool) (f : D → D) (hw : Wf M.length M) (hst : ∀ acc, st (M ++ [.lst acc])) (hl : xs.length < sizeLine) (hb : ∀ d ∈ xs, p d = true → Bd M.length (f d))
    (ht : ∀ (j : Nat) (d : D) (acc : List D) (B : Bool → Mm → Prop), xs[j]? = some d → B (p d) (M ++ [.lst acc]) → wt ((ρ.set i none).set i (some d)) (M ++ [.lst acc]) B (fun _ _ _ => False))
    (he : ∀ (j : Nat) (d : D) (acc : List D) (Q' : DK), xs[j]? = some d → p d = true → Q' (f d) (M ++ [.lst acc]) → we ((ρ.set i none).set i (some d)) (M ++ [.lst acc]) Q' (fun _ _ _ => False))
    (fin : Q (.lst ((xs.filter p).map f)) M ∨ Q (.ptr M.length) (M ++ [.lst ((xs.filter p).map f)])) : LcT ρ i wt we Q xs st M := by
  refine lcI (fun j acc M' => M' = M ∧ acc = ((xs.take j).filter p).map f) hw ⟨rfl, rfl⟩ (fun j acc M' h l => by rw [h.1]; exact hst acc) ?_ ?_
  · rintro j d acc M' hd l w b ⟨rfl, rfl⟩
    have hj : j < xs.length := (List.getElem?_eq_some_iff.mp hd).1
    have hf : ((xs.take j).filter p).length ≤ j := Nat.le_trans (List.length_filter_le _ _) (by rw [List.length_take]; omega)
    have e : xs.take (j + 1) = xs.take j ++ [d] := by rw [List.take_add_one, hd]; rfl
    refine ht j d _ _ hd ?_
    cases hp : p d with
    | true =>
      refine he j d _ _ hd hp (LcY.mk l w b (hb d (List.mem_of_getElem? hd) hp) (by rw [List.length_map]; omega) ⟨rfl, ?_⟩)
      rw [e, List.filter_append, List.map_append, List.filter_cons_of_pos hp]
      rfl
    | false =>
      refine LcN.mk l w b ⟨rfl, ?_⟩
      rw [e, List.filter_append, List.map_append, List.filter_cons_of_neg (by rw [hp]; exact Bool.false_ne_true)]
      simp
  · rintro acc M' ⟨rfl, rfl⟩ l w b
    rw [List.take_length]
    exact fin
end
theorem UpV.cut {n : Nat} {P : DK} {d : D} {M0 t : Mm} (hn : n ≤ M0.length) (w : Wf M0.length M0) (wd : Bd M0.length d) (h : P d M0) : UpV n P d (M0 ++ t) := ⟨_, d, M0, stl_cut rfl hn w, wd.rs, h⟩
theorem UpX.cut {n : Nat} {P : XD} {C : Addr} {fs : List (Str × D)} {M0 t : Mm} (hn : n ≤ M0.length) (w : Wf M0.length M0) (wd : Bdk M0.length fs) (h : P C fs M0) : UpX n P C fs (M0 ++ t) := ⟨_, fs, M0, stl_cut rfl hn w, bdk_kss wd, h⟩
theorem Up.cut {n : Nat} {P : NK} {ρ ρ0 : Ev} {M0 t : Mm} (hn : n ≤ M0.length) (w : Wf M0.length M0) (hl : ρ.length = ρ0.length) (hs : ∀ (i : Nat) (d : D), ρ0[i]? = some (some d) → ρ[i]? = some (some d) ∧ Bd M0.length d) (h : P ρ0 M0) : Up n P ρ (M0 ++ t) :=
  ⟨_, ρ0, M0, ⟨stl_cut rfl hn w, hl, fun i d e => ⟨d, (hs i d e).1, (hs i d e).2.rs⟩⟩, h⟩
theorem Bd.flat {n : Nat} {d : D} {x : V} (h : vOf d = some x) : Bd n d := by
  cases d <;> first | exact .non | exact .bl _ | exact .int _ | exact .str _ | cases h
end DL

namespace DL
open PySem PySem.Spec PyProof.Rows L2 ClX

/-! ### isinstance(C(e, ..), D), C an own exception class -/
def tXV (C : Addr) (sp : Sp) (dvs : List V) (ta : TA) : TE := fun σ H Q => ta σ H fun vs H1 => vs.length ≤ 1000 ∧ ∀ a, H1 a = none → sp (.ref a :: (vs ++ dvs)) (upd H1 a (exo a C none))
  (fun v H2 => v = .non ∧ ∃ (d : Addr) (fs : List (Str × V)), H2 a = some (exo a C (some d)) ∧ H2 d = some (exd d fs) ∧ H1 d = none ∧ Q (.ref a) H2) (fun _ _ _ => False)
section
variable {X : Cx} {e : Expr} {es : List Expr} {ta : TA} {p pos : Pos}
theorem pe_oexV {CX : CXT} {x : Str} {C fI : Addr} {k : Nat} {fd : FuncData} {ps : List Str} {sp : Sp} {ds : List Value} {dvs : List V} (T : OexC X.K C) (iC : PySem.W.findIn X.K (.ref C) "__init__" = some (some (.ref fI))) (tI : PySem.W.typeIn X.K (.ref fI) = some (.type "function"))
    (F1 : FnOk X.prog X.w X.K X.mg X.base CX k fI fd ps sp) (hr : Room (k + 1) X.A) (hb : Binds X.K fd ps ds) (hd : Vals dvs ds) (hx : Passes CX X (fun _ _ _ => False)) (hg : Gl X x) (hm : X.mg x = some (.ref C)) (ha : PA X (e :: es) ta)
    (hdb : (x == ("__debug__" : Str)) = false := by decide) (he : starEach (e :: es) X.env = (false, eval e X.env) :: starEach es X.env := by rfl) (hpl : (backTo pos (starEach es X.env)).any (·.1) = false := by rfl) :
    PE X (.Call (.Name x p) (e :: es) [] pos) (tXV C sp dvs ta) := by
  refine ⟨fun pins s σ H Q I h => ?_⟩
  obtain ⟨nm, q, N, bs, bm, sn, sub, ab, col, dd, k0, k1, k2, k3, k5, hC, hbm⟩ := T.cls
  refine wpAny_Call_Name_kw (ld_glob I hg hm ?_ hdb)
  refine PySem.W.callWith_K (h₀ := X.base) I.ok.mod.kin T.kC (thn (ha.run pos pins s σ H _ I h) fun us s1 ⟨vs, H1, I1, r1, hz, q1⟩ => ⟨I1.kIn, ?_⟩) he hpl
  show wpAny _ _ (call (.ref C) us) _ _ _
  obtain ⟨hp, g, dr, tk, os⟩ := s1
  have hsz : hp.objs.size ≤ hp.objs.size + 1 := Nat.le_succ _
  have hn : H1 (hp.objs.size + 1) = none := I1.hok.fresh hsz
  have hq := q1 (hp.objs.size + 1) hn
  have kk : ∀ b o, hp.get? b = some o → ((hp.push (PySem.W.kdv_tup us)).push (PySem.HandSPX.excO C hp.objs.size)).get? b = some o := fun b o e => Heap.get?_push_of_some _ (Heap.get?_push_of_some _ e)
  have hget : ((hp.push (PySem.W.kdv_tup us)).push (PySem.HandSPX.excO C hp.objs.size)).get? (hp.objs.size + 1) = some (PySem.HandSPX.excO C hp.objs.size) := by heap_get
  have I2 : Inv X pins σ (upd H1 (hp.objs.size + 1) (exo (hp.objs.size + 1) C none)) ⟨(hp.push (PySem.W.kdv_tup us)).push (PySem.HandSPX.excO C hp.objs.size), g, dr, tk, os⟩ :=
    I1.laid (t' := tk) (a := hp.objs.size + 1) (o := exo (hp.objs.size + 1) C none) (h' := (hp.push (PySem.W.kdv_tup us)).push (PySem.HandSPX.excO C hp.objs.size)) kk hsz (exo_ok hget)
  have r2 : Vals (V.ref (hp.objs.size + 1) :: (vs ++ dvs)) (Value.ref (hp.objs.size + 1) :: (us ++ ds)) := .cons rfl (r1.append hd)
  have hl : (Value.ref (hp.objs.size + 1) :: us ++ ds).length = ps.length := by
    have e := r2.length
    rw [F1.len _ _ _ _ hq] at e
    exact e.symm
  have hus : us.length ≤ sizeLine := by
    rw [← Paired.length r1, sizeLine_eq]
    omega
  refine wpAny_call (PySem.HandSPX.call_own F.excBase_ValueError (fun Y => PySem.HandSPX.refsVE_contains Y bm hbm) (I1.kIn _ _ hC) (PySem.W.looks_findIn I1.kIn iC) (fun self => PySem.W.bind_fn I1.kIn self tI) hus
    (codeAny_mono (F1.run _ X.stack _ _ ⟨Value.ref (hp.objs.size + 1) :: us, []⟩ (Value.ref (hp.objs.size + 1) :: (us ++ ds)) _ _ (fun _ _ _ => False) (hr.make C us []) (I2.env0.make C us []) (hb _ (Value.ref (hp.objs.size + 1) :: us) I2.kIn hl) r2 hq) fun r s' hq' => ?_))
  cases r with
  | error er => exact hx pins σ _ _ er s' I2 hq'
  | ok fl =>
    cases fl with
    | ret u =>
      obtain ⟨v, H2, os2, bare2, un2, hok2, rv, ev, d, fs, ea, ed, hd1, q2⟩ := hq'
      subst ev
      obtain ⟨h2, g2, d2, t2, os'⟩ := s'
      exact ⟨rv, .ref _, H2, I2.call' (ch := []) os2 un2 hok2 bare2 (fun b z => absurd z (by simp)), rfl, q2⟩
    | next => exact False.elim hq'
    | brk => exact False.elim hq'
    | cont => exact False.elim hq'
end
/-- what isinstance asks of an own exception class -/
structure ExI (K : PySem.W.Frag) (C : Addr) : Prop where
  hc : (PySem.W.clsIn K C).isSome = true
  ga : PySem.W.findIn K (.ref C) "__getattribute__" = some (some (.builtin "BaseException.__getattribute__"))
  gg : PySem.W.findIn K (.ref C) "__getattr__" = some none
  ex : PySem.W.subIn K (.ref C) (.type "BaseException") = some true
  ha : PySem.W.findIn K (.ref C) "__class__" = some (some (.builtin "object.__class__"))
  hn : PySem.W.specialIn K (.builtin "object.__class__") "__get__" = some (some (.builtin "getset_descriptor.__get__"))
  ht : PySem.W.takesIn K (.builtin "object.__class__") = some true
  hm : PySem.W.mroIn K C (.type "object") = some true
def rIsiE (K : PySem.W.Frag) : List V → Hp → VK → Prop := fun xs H Q => ∃ (a C d : Addr) (fs : List (Str × V)) (c : V) (u : Value) (b : Bool), xs = [.ref a, c] ∧ ClsV c u ∧ H a = some (exo a C (some d)) ∧ H d = some (exd d fs) ∧ ExI K C ∧ PySem.W.kitOne K (.ref C) u = some b ∧ Q (.bl b) H
theorem call_isiE {X : Cx} : CallR X (.builtin "isinstance") (rIsiE X.K) := by
  intro pins s σ H xs us Q I r h
  obtain ⟨a, C, d, fs, c, u, b, rfl, k, ea, ed, E, e, q⟩ := h
  obtain ⟨u1, u2, rfl, r1, r2⟩ := vals2 r
  have e2 := k.eq r2
  subst e2
  cases (show u1 = Value.ref a from r1)
  obtain ⟨t1, ga⟩ := exo_at I.hok ea
  obtain ⟨mA, ⟨od, es, ep, ho, hr⟩, _⟩ := exd_at I.hok ed
  have J : PySem.W.InstAt s.heap a ({ cls := .ref C, dict := some d, data := .fields #[.ref t1, .none, .none, .none, .bool false, .none] } : Obj) C (some od) := ⟨ga, rfl, rfl, ho⟩
  exact PySem.W.kia_one (PySem.W.kitx_exc E.hc E.ga E.gg E.ex E.ha E.hn E.ht E.hm) I.kIn J e (fun z => nomatch z) fun tk => ⟨.bl b, H, I.tok tk, rfl, q⟩
section
variable {ι : Type} {X : ι → Cx} {K : PySem.W.Frag} {W : WX} {e ec : Expr} {es : List Expr} {pos p p0 pos0 : Pos}
def dIsX (b : Bool) (n m : Nat) (wa : DTA) : DT := fun ρ M Q X => wa ρ M (fun ds M1 => ds.length + m = n ∧ ds.length ≤ 1000 ∧ Q (.bl b) M1) X
theorem de_isX {p1 : Pos} {m : Nat} {x : Str} {C fI D' : Addr} {k n : Nat} {fd : FuncData} {ps : List Str} {OK : Addr → Prop} {fs : List V → List (Str × V)} {ds : List Value} {dvs : List V} {wa : DTA} {b : Bool} {y : Str} (T : OexC K C) (hK : ∀ i, (X i).K = K)
    (iC : PySem.W.findIn K (.ref C) "__init__" = some (some (.ref fI))) (tI : PySem.W.typeIn K (.ref fI) = some (.type "function")) (FO : ∀ i, FnOk (X i).prog (X i).w (X i).K (X i).mg (X i).base (L2.CX (X i).prog (X i).w) k fI fd ps (spX n OK fs)) (ok : OK C) (hr : ∀ i, Room (k + 1) (X i).A)
    (hb : ∀ i, Binds (X i).K fd ps ds) (hd : Vals dvs ds) (hdl : dvs.length = m) (hm : ∀ i, (X i).mg x = some (.ref C)) (ha : DA X K W (e :: es) wa) (hy : ∀ i, (X i).mg y = some (.ref D')) (E : ExI K C) (hk : PySem.W.kitOne K (.ref C) (.ref D') = some b) (hmi : ∀ i, (X i).mg "isinstance" = none)
    (hg : ∀ i, Gl (X i) x := by intro _; rfl) (hgy : ∀ i, Gl (X i) y := by intro _; rfl) (hgi : ∀ i, Gl (X i) "isinstance" := by intro _; rfl)
    (hdb : (x == ("__debug__" : Str)) = false := by decide) (hdy : (y == ("__debug__" : Str)) = false := by decide)
    (he : ∀ i, starEach (e :: es) (X i).env = (false, eval e (X i).env) :: starEach es (X i).env := by intro _; rfl) (hpl : ∀ i, (backTo pos (starEach es (X i).env)).any (·.1) = false := by intro _; rfl)
    (he2 : ∀ i, starEach [.Call (.Name x p) (e :: es) [] pos, .Name y p0] (X i).env = (false, eval (.Call (.Name x p) (e :: es) [] pos) (X i).env) :: starEach [.Name y p0] (X i).env := by intro _; rfl)
    (he3 : ∀ i, starEach [.Name y p0] (X i).env = (false, eval (.Name y p0) (X i).env) :: starEach [] (X i).env := by intro _; rfl)
    (hpl2 : ∀ i, (backTo pos0 (starEach [.Name y p0] (X i).env)).any (·.1) = false := by intro _; rfl) :
    DE X K W (.Call (.Name "isinstance" p1) [.Call (.Name x p) (e :: es) [] pos, .Name y p0] [] pos0) (dIsX b n m wa) := by
  subst hdl
  obtain ⟨ta, a1, a2⟩ := ha
  have h1 : ∀ i, PE (X i) (.Call (.Name x p) (e :: es) [] pos) (tXV C (spX n OK fs) dvs ta) := fun i => pe_oexV (by rw [hK]; exact T) (by rw [hK]; exact iC) (by rw [hK]; exact tI) (FO i) (hr i) (hb i) hd passL (hg i) (hm i) (a1 i) hdb (he i) (hpl i)
  refine ⟨_, fun i => pe_callB (r := rIsiE K) (by rw [← hK i]; exact call_isiE) (hgi i) (hmi i) PyProof.Rows.Boot.«isinstance» (pa_cons (h1 i) (pa_cons (pe_glob (v := .ref D') (hgy i) (hy i) rfl hdy) pa_nil (he3 i)) (he2 i)) (by decide) (by decide) (he2 i) (hpl2 i), ?_⟩
  intro G as σ H ρ M Qd Xd Q h ev w cv ce
  refine a2 _ _ _ _ _ _ _ Xd _ h ev w (fun G1 as1 H1 M1 vs ds' g1 h1 r1 w1 => ?_) ce
  obtain ⟨l1, l2, q⟩ := w1
  have dl : dvs.length = ds.length := Paired.length hd
  refine ⟨by rw [r1.length]; exact l2, fun a na => ⟨by rw [List.length_cons, List.length_append, r1.length, l1], a, C, vs ++ dvs, rfl, ok, upd_same, fun d H' hd0 hda ha' hd' hk' => ⟨rfl, d, _, ha', hd', ?_, ?_⟩⟩⟩
  · rw [upd_ne hda] at hd0
    exact hd0
  · have hd1 : H1 d = none := by rw [upd_ne hda] at hd0; exact hd0
    refine ⟨a, C, d, _, .ref D', .ref D', b, rfl, .own D', ha', hd', E, hk, ?_⟩
    have e3 : H' = upd (upd H1 a (exo a C (some d))) d (exd d (fs (vs ++ dvs))) := funext fun b' => by
      by_cases hb : b' = d
      · subst hb; rw [upd_same]; exact hd'
      · rw [upd_ne hb]
        by_cases hba : b' = a
        · subst hba; rw [upd_same]; exact ha'
        · rw [upd_ne hba, hk' b' hba hb, upd_ne hba]
    rw [e3]
    have j1 := h1.junk (o := exo a C (some d)) na
    have j2 := j1.junk (p := d) (o := exd d (fs (vs ++ dvs))) (by rw [upd_ne hda]; exact hd1)
    exact cv _ _ _ _ _ _ g1 j2 (.bl b) q
end
theorem seq_nat {j n : Nat} (h : j < n) : seqIndex? (j : Int) n = some j := by
  have h0 : ¬ ((j : Int) < 0) := by omega
  have h1 : (j : Int) < n := by omega
  simp [seqIndex?, h0, h1]
end DL

namespace DL
open PySem PySem.Spec PyProof.Rows L2 ClX
/-! ### defs that call themselves deep: a room that counts each call once -/
structure RoomL (n : Nat) (A : Around) : Prop where
  hd : A.handled = none
  dp : A.depth + n + 60 < recursionLimit
  un : A.units + 8 * n + 600 < cLine
theorem RoomL.mono {j n : Nat} {A : Around} (r : RoomL n A) (h : j ≤ n) : RoomL j A := ⟨r.hd, by have := r.dp; omega, by have := r.un; omega⟩
theorem RoomL.deeper {n : Nat} {A : Around} (r : RoomL (n + 1) A) (env : Env) : RoomL n (A.deeper env) :=
  ⟨r.hd, by have := r.dp; show A.depth + 1 + n + 60 < _; omega, by have := r.un; show A.units + 3 + 8 * n + 600 < _; omega⟩
theorem RoomL.room {n k : Nat} {A : Around} (r : RoomL n A) (h : k ≤ 18) : Room k A := ⟨r.hd, by have := r.dp; omega, by have := r.un; omega⟩
theorem RoomL.depth {n : Nat} {A : Around} (r : RoomL n A) : A.depth < recursionLimit := by have := r.dp; omega
theorem roomL_of {n k : Nat} {A : Around} (r : Room k A) (h1 : n + 60 ≤ 3 * k + 5) (h2 : 8 * n + 600 ≤ 16 * k + 200) : RoomL n A := ⟨r.hd, by have := r.dp; omega, by have := r.un; omega⟩
/-- a def's promise, at such a room -/
structure FnL (P : Program) (w : World) (K : PySem.W.Frag) (mg : Str → Option Value) (base : Heap) (n : Nat) (f : Addr) (fd : FuncData) (ps : List Str) (sp : Sp) : Prop where
  len : ∀ vs H Q E, sp vs H Q E → vs.length = ps.length
  run : ∀ (A : Around) (outer : List Env) (s : Shared) (H : Hp) (args : Args) (us : List Value) (vs : List V) (Q : VK) (E : XK), RoomL n A → Env0 P w K mg base A outer s H → BindsTo s fd args (ps.zip us) → Vals vs us → sp vs H Q E →
    codeAny (model P w) A (.call (.ref f) args) (CR (L2.CX P w) outer P w H s Q E) s
section
variable {P : Program} {w : World} {K : PySem.W.Frag} {mg : Str → Option Value} {base : Heap} {n m : Nat} {f : Addr} {fd : FuncData} {N ps : List Str} {sp : Sp}
theorem FnL.mono (F : FnL P w K mg base n f fd ps sp) (h : n ≤ m) : FnL P w K mg base m f fd ps sp := ⟨F.len, fun A outer s H args us vs Q E hr => F.run A outer s H args us vs Q E (hr.mono h)⟩
theorem fn_ofL {x qual : Str} {st : Stmt} (F : Fun K x qual st f fd) (S : FnScope N ps (defScope st)) (len : ∀ vs H Q E, sp vs H Q E → vs.length = ps.length)
    (hbody : ∀ (cdv : Value) (A : Around) (outer : List Env) (s : Shared) (H : Hp) (vs : List V) (Q : VK) (E : XK), RoomL n (A.deeper (envOfC qual (defScope st) s.heap.objs.size f cdv)) → sp vs H Q E →
      ∃ t, PSs (cxOf (L2.CX P w) P w K mg base N qual (defScope st) f cdv A outer s H E) (defBody st) t ∧ t { nx := fun _ H' => Q .non H', rt := Q } (L2.start N vs) H) : FnL P w K mg base (n + 1) f fd ps sp := by
  obtain ⟨oc, od, kV, doc, pm, an, cdv, ct, osl, rfl, lk, hcd⟩ := F.ex
  refine ⟨len, fun A outer s H args us vs Q E hr e0 hb r hsp => ?_⟩
  have hl := len _ _ _ _ hsp
  have KX : K.In s.heap := e0.mod.kin.keeps fun b o e => (e0.bs b o e).1
  have lim : s.heap.NoLimit := e0.mod.nolimit.keeps fun b o e => (e0.bs b o e).1
  have hkind : ∀ y ∈ ps.zip us, (defScope st).names.lookup y.1 = some .local ∨ ((defScope st).names.lookup y.1 = some .cell ∧ ((cellsFrom (s.heap.objs.size + 1) (defScope st).names []).lookup y.1).isSome = true) := fun ⟨n, v⟩ hy => by
    rcases S.par n (List.of_mem_zip hy).1 with q | q
    · exact .inl q
    · exact .inr ⟨q, PySem.W.cellsFrom_some _ _ _ (.inl q)⟩
  refine codeAny_call_function hr.depth (KX _ _ lk) rfl S.co S.gen rfl (PySem.W.codeRec_of KX hcd) (hb _ _ _ _ ?_)
  refine wpAny_newFunctionEnv_cells S.kind hkind fun env he s1 x => ?_
  subst he
  refine ⟨lim.keeps x.toInCall.keep, codeAny_func ?_⟩
  obtain ⟨t, ht, hq⟩ := hbody cdv A outer s H vs Q E (hr.deeper _) hsp
  have I : Inv (cxOf (L2.CX P w) P w K mg base N qual (defScope st) f cdv A outer s H E) [] (L2.start N vs) H s1 := inv_start S hr.hd e0 hl r x
  refine wpAny_mono (ht.run [] s1 (L2.start N vs) H _ I hq) (fun fl s' hs => ?_) fun e s' hs => hs
  have fin : ∀ {σ' : L2.St} {H' : Hp} {v : V} {u : Value}, Inv (cxOf (L2.CX P w) P w K mg base N qual (defScope st) f cdv A outer s H E) [] σ' H' s' → RelV v u → Q v H' → L2.CE outer P w H s Q u s' :=
    fun {σ' H' v u} J rv q => ⟨v, H', J.os, J.bare, J.base, J.hok, rv, q⟩
  cases fl with
  | ret u =>
    obtain ⟨v, σ', H', J, rv, q⟩ := hs
    exact fin J rv q
  | next =>
    obtain ⟨σ', H', J, q⟩ := hs
    exact fin (v := V.non) (u := Value.none) J rfl q
  | brk =>
    obtain ⟨_, _, _, q⟩ := hs
    exact False.elim q
  | cont =>
    obtain ⟨_, _, _, q⟩ := hs
    exact False.elim q
/-- the entries of a def, by a room of any kind; the contexts of its body -/
def BIR (R : Around → Prop) (qual : Str) (sc : Scope) (f : Addr) : Type := {p : Value × Around × List Env × Shared × Hp // R (p.2.1.deeper (envOfC qual sc p.2.2.2.1.heap.objs.size f p.1))}
def XBR (P : Program) (w : World) (K : PySem.W.Frag) (mg : Str → Option Value) (base : Heap) (N : List Str) (qual : Str) (sc : Scope) (f : Addr) (R : Around → Prop) (E : XK) (p : BIR R qual sc f) : Cx := cxOf (L2.CX P w) P w K mg base N qual sc f p.1.1 p.1.2.1 p.1.2.2.1 p.1.2.2.2.1 p.1.2.2.2.2 E
theorem xbr_takes {qual : Str} {sc : Scope} {R : Around → Prop} {E : XK} (p : BIR R qual sc f) : Takes (XBR P w K mg base N qual sc f R E p) (WF E) := takes_of rfl rfl rfl rfl
theorem xbr_room {qual : Str} {sc : Scope} {R : Around → Prop} {E : XK} (p : BIR R qual sc f) : R (XBR P w K mg base N qual sc f R E p).A := p.2
theorem xbr_passes {qual : Str} {sc : Scope} {R : Around → Prop} {E : XK} (p : BIR R qual sc f) : PassesOwn (model (XBR P w K mg base N qual sc f R E p).prog (XBR P w K mg base N qual sc f R E p).w) (XBR P w K mg base N qual sc f R E p).A (XBR P w K mg base N qual sc f R E p).env (XBR P w K mg base N qual sc f R E p).xe := passes_of rfl
theorem fn_l {x qual : Str} {st : Stmt} {F : FD} (Fn : Fun K x qual st f fd) (S : FnScope N ps (defScope st)) {wb : SW} (hb : ∀ E, DSs (XBR P w K mg base N qual (defScope st) f (RoomL n) E) K (WF E) (defBody st) wb)
    (hp : ∀ ds M Qd Xd, ds.length = ps.length → F ds M Qd Xd → Wf M.length M → Bds M.length ds → wb (DsF M Qd Xd) (startD N.length ds) M) :
    FnL P w K mg base (n + 1) f fd ps (spD K ps.length F) := by
  refine fn_ofL Fn S (fun vs H Q E h => h.1) fun cdv A outer s H vs Q E hr h => ?_
  obtain ⟨hl, G, as, ds, M, Qd, Xd, hh, r, q, cv, ce⟩ := h
  obtain ⟨t, t1, t2⟩ := hb E
  refine ⟨t, t1 ⟨(cdv, A, outer, s, H), hr⟩, ?_⟩
  have hd : ds.length = ps.length := by rw [← r.length]; exact hl
  have b1 := r.bd
  rw [hh.len] at b1
  have q' := hp ds M Qd Xd hd q hh.wf b1
  have cu := (cv.up hh.len).wf
  have xu := (ce.up hh.len).wf
  exact t2 _ _ _ _ _ _ _ _ hh (evs_start r) q' ⟨fun G' as' σ' H' ρ' M' g h' e' p => cu _ _ _ _ _ _ g h' .non (fun w _ => p w), cu, fun _ _ _ _ _ _ _ _ _ z => z.elim, fun _ _ _ _ _ _ _ _ _ z => z.elim, fun G' as' σ' H' ρ' M' C fs dd gs g h' e' hd kv p => xu _ _ _ _ _ _ _ _ g h' hd kv p⟩
end
section
variable {ι : Type} {X : ι → Cx} {K : PySem.W.Frag} {W : WX} {a b c e o : Expr} {es : List Expr} {pos p apos : Pos} {k n : Nat} {f C : Addr} {fd : FuncData} {ps : List Str} {F : FD} {m : Str}
theorem run_fnL {Y : Cx} {sp : Sp} {E : L2.St → XK} {pins : List (Addr × Obj)} {σ : L2.St} {H : Hp} {s : Shared} {Q : VK} {us : List Value} {vs : List V} (F : FnL Y.prog Y.w Y.K Y.mg Y.base k f fd ps sp) (hr : RoomL k Y.A) (hb : Binds Y.K fd ps []) (hx : PassesAt (L2.CX Y.prog Y.w) Y σ (E σ))
    (I : Inv Y pins σ H s) (r : Vals vs us) (h : sp vs H Q (E σ)) : wpAny (model Y.prog Y.w) Y.A (call (.ref f) us) (EP Y pins σ Q) Y.xe s := by
  have hl : us.length = ps.length := by rw [← r.length]; exact F.len _ _ _ _ h
  have b := hb s us I.kIn (by rw [List.append_nil]; exact hl)
  rw [List.append_nil] at b
  refine wpAny_call (codeAny_mono (F.run Y.A Y.stack s H ⟨us, []⟩ us vs Q (E σ) hr I.env0 b r h) fun r s' hq => ?_)
  cases r with
  | error e => exact hx pins H s e s' I hq
  | ok fl =>
    cases fl with
    | ret u => exact I.after hq
    | next => exact False.elim hq
    | brk => exact False.elim hq
    | cont => exact False.elim hq
theorem pe_mL0 {Y : Cx} {ta : TE} {sp : Sp} {pl : Sem Bool} (he : PE Y o ta) (c : Cls Y.K C) (hm : Meth Y.K C m f) (FO : FnL Y.prog Y.w Y.K Y.mg Y.base k f fd ps sp) (hr : RoomL k Y.A) (hb : Binds Y.K fd ps []) (tk : Takes Y W)
    (ht : eval (.Call (.Attribute o m apos) [] [] pos) Y.env = (do
      let ov ← eval o Y.env
      standAt apos.atName
      let (f, first) ← holding [ov] (getMethod ov m pl)
      callWith pos f first (backTo pos (starEach [] Y.env)) (backToKw pos (keywordEach [] Y.env)))) :
    PE Y (.Call (.Attribute o m apos) [] [] pos) (tMW C m sp W ta tNil) := by
  constructor
  intro pins s σ H Q I h
  refine PySem.W.methodCall_KW (pl := pl) (thn (he.run pins s σ H _ I h) ?_) ht
  rintro u s1 ⟨x, H1, I1, rx, a, dx, fs, ex, ea, l, q⟩
  subst ex
  have eu : u = Value.ref a := rx
  subst eu
  exact getmeth_ok I1 ea c hm l (PySem.W.callWith_K0 (first := [.ref a]) I1.kIn hm.kp (run_fnL (us := [.ref a]) (vs := [.ref a]) FO hr hb (passAt tk σ) I1 (.cons rfl .nil) q))
theorem de_methL0 {pl : ι → Sem Bool} {wo : DT} (ho : DE X K W o wo) (c : ∀ i, Cls (X i).K C) (hm : ∀ i, Meth (X i).K C m f) (FO : ∀ i, FnL (X i).prog (X i).w (X i).K (X i).mg (X i).base k f fd ps (spD K n F)) (hr : ∀ i, RoomL k (X i).A)
    (tk : ∀ i, Takes (X i) W) (hb : ∀ i, Binds (X i).K fd ps [])
    (ht : ∀ i, eval (.Call (.Attribute o m apos) [] [] pos) (X i).env = (do
      let ov ← eval o (X i).env
      standAt apos.atName
      let (f, first) ← holding [ov] (getMethod ov m (pl i))
      callWith pos f first (backTo pos (starEach [] (X i).env)) (backToKw pos (keywordEach [] (X i).env))) := by intro _; rfl) :
    DE X K W (.Call (.Attribute o m apos) [] [] pos) (dMeth C m n F wo dNil) := by
  obtain ⟨to, o1, o2⟩ := ho
  exact ⟨_, fun i => pe_mL0 (pl := pl i) (o1 i) (c i) (hm i) (FO i) (hr i) (hb i) (tk i) (ht i), dn_meth o2 dn_nil⟩
theorem pe_callL {Y : Cx} {x : Str} {sp : Sp} {E : L2.St → XK} {t : TA} (F : FnL Y.prog Y.w Y.K Y.mg Y.base k f fd ps sp) (hr : RoomL k Y.A) (hg : Gl Y x) (hm : Y.mg x = some (.ref f)) (hk : PySem.W.keepIn Y.K (.ref f) = true) (hb : Binds Y.K fd ps []) (hx : ∀ σ, PassesAt (L2.CX Y.prog Y.w) Y σ (E σ))
    (ha : PA Y (e :: es) t) (hdb : (x == ("__debug__" : Str)) = false := by decide) (he : starEach (e :: es) Y.env = (false, eval e Y.env) :: starEach es Y.env := by rfl) (hpl : (backTo pos (starEach es Y.env)).any (·.1) = false := by rfl) :
    PE Y (.Call (.Name x p) (e :: es) [] pos) (tCallS sp E t) := by
  refine ⟨fun pins s σ H Q I h => ?_⟩
  refine wpAny_Call_Name_kw (ld_glob I hg hm ?_ hdb)
  refine PySem.W.callWith_K (h₀ := Y.base) I.ok.mod.kin hk (thn (ha.run pos pins s σ H _ I h) fun us s1 ⟨vs, H1, I1, r, q⟩ => ⟨I1.kIn, ?_⟩) he hpl
  exact run_fnL F hr hb (hx σ) I1 r q
theorem de_callL {x : Str} {wa : DTA} (FO : ∀ i, FnL (X i).prog (X i).w (X i).K (X i).mg (X i).base k f fd ps (spD K n F)) (hr : ∀ i, RoomL k (X i).A) (tk : ∀ i, Takes (X i) W) (hm : ∀ i, (X i).mg x = some (.ref f))
    (hk : ∀ i, PySem.W.keepIn (X i).K (.ref f) = true) (hb : ∀ i, Binds (X i).K fd ps []) (ha : DA X K W (e :: es) wa) (hg : ∀ i, Gl (X i) x := by intro _; rfl) (hdb : (x == ("__debug__" : Str)) = false := by decide)
    (he : ∀ i, starEach (e :: es) (X i).env = (false, eval e (X i).env) :: starEach es (X i).env := by intro _; rfl) (hpl : ∀ i, (backTo pos (starEach es (X i).env)).any (·.1) = false := by intro _; rfl) :
    DE X K W (.Call (.Name x p) (e :: es) [] pos) (dCallS n F wa) := by
  obtain ⟨ta, a1, a2⟩ := ha
  exact ⟨_, fun i => pe_callL (FO i) (hr i) (hg i) (hm i) (hk i) (hb i) (fun σ => passAt (tk i) σ) (a1 i) hdb (he i) (hpl i), dn_callS a2⟩
end
end DL

namespace K87
open PySem PySem.Spec PyProof.Rows L2 DL
def top (i : Nat) : Stmt := PySem.Challenge.pw_starless_k87_written_expressions_misread.main.body.getD i (.Pass ⟨0, 0, 0, 0⟩)
abbrev s_tokens : Stmt := top 11
abbrev n_tokens : List Str := ["text", "at", "found", "end"]
abbrev p_tokens : List Str := ["text", "at"]
theorem sc_tokens : FnScope n_tokens p_tokens (defScope s_tokens) := ⟨rfl, rfl, rfl, by decide +kernel, rfl, by decide +kernel, by decide +kernel⟩
abbrev s_init : Stmt := inClass (top 12) 0
abbrev n_init : List Str := ["self", "letters", "text", "at"]
abbrev p_init : List Str := ["self", "letters", "text", "at"]
theorem sc_init : FnScope n_init p_init (defScope s_init) := ⟨rfl, rfl, rfl, by decide +kernel, rfl, by decide +kernel, by decide +kernel⟩
abbrev s_next : Stmt := inClass (top 12) 1
abbrev n_next : List Str := ["self"]
abbrev p_next : List Str := ["self"]
theorem sc_next : FnScope n_next p_next (defScope s_next) := ⟨rfl, rfl, rfl, by decide +kernel, rfl, by decide +kernel, by decide +kernel⟩
abbrev s_wrong : Stmt := inClass (top 12) 2
abbrev n_wrong : List Str := ["self"]
abbrev p_wrong : List Str := ["self"]
theorem sc_wrong : FnScope n_wrong p_wrong (defScope s_wrong) := ⟨rfl, rfl, rfl, by decide +kernel, rfl, by decide +kernel, by decide +kernel⟩
abbrev s_begins : Stmt := inClass (top 12) 3
abbrev n_begins : List Str := ["self", "word"]
abbrev p_begins : List Str := ["self"]
theorem sc_begins : FnScope n_begins p_begins (defScope s_begins) := ⟨rfl, rfl, rfl, by decide +kernel, rfl, by decide +kernel, by decide +kernel⟩
abbrev s_ors : Stmt := inClass (top 12) 4
abbrev n_ors : List Str := ["self", "found"]
abbrev p_ors : List Str := ["self"]
theorem sc_ors : FnScope n_ors p_ors (defScope s_ors) := ⟨rfl, rfl, rfl, by decide +kernel, rfl, by decide +kernel, by decide +kernel⟩
abbrev s_ands : Stmt := inClass (top 12) 5
abbrev n_ands : List Str := ["self", "found"]
abbrev p_ands : List Str := ["self"]
theorem sc_ands : FnScope n_ands p_ands (defScope s_ands) := ⟨rfl, rfl, rfl, by decide +kernel, rfl, by decide +kernel, by decide +kernel⟩
abbrev s_rows : Stmt := inClass (top 12) 6
abbrev n_rows : List Str := ["self", "found"]
abbrev p_rows : List Str := ["self"]
theorem sc_rows : FnScope n_rows p_rows (defScope s_rows) := ⟨rfl, rfl, rfl, by decide +kernel, rfl, by decide +kernel, by decide +kernel⟩
abbrev s_deeper : Stmt := inClass (top 12) 7
abbrev n_deeper : List Str := ["self"]
abbrev p_deeper : List Str := ["self"]
theorem sc_deeper : FnScope n_deeper p_deeper (defScope s_deeper) := ⟨rfl, rfl, rfl, by decide +kernel, rfl, by decide +kernel, by decide +kernel⟩
abbrev s_head : Stmt := inClass (top 12) 8
abbrev n_head : List Str := ["self", "found"]
abbrev p_head : List Str := ["self"]
theorem sc_head : FnScope n_head p_head (defScope s_head) := ⟨rfl, rfl, rfl, by decide +kernel, rfl, by decide +kernel, by decide +kernel⟩
abbrev s_atom : Stmt := inClass (top 12) 9
abbrev n_atom : List Str := ["self", "word", "found"]
abbrev p_atom : List Str := ["self"]
theorem sc_atom : FnScope n_atom p_atom (defScope s_atom) := ⟨rfl, rfl, rfl, by decide +kernel, rfl, by decide +kernel, by decide +kernel⟩
abbrev s_name : Stmt := inClass (top 12) 10
abbrev n_name : List Str := ["self", "word"]
abbrev p_name : List Str := ["self"]
theorem sc_name : FnScope n_name p_name (defScope s_name) := ⟨rfl, rfl, rfl, by decide +kernel, rfl, by decide +kernel, by decide +kernel⟩
abbrev s_read : Stmt := top 13
abbrev n_read : List Str := ["letters", "text", "at", "formula", "found"]
abbrev p_read : List Str := ["letters", "text", "at"]
theorem sc_read : FnScope n_read p_read (defScope s_read) := ⟨rfl, rfl, rfl, by decide +kernel, rfl, by decide +kernel, by decide +kernel⟩
abbrev s_draws : Stmt := top 15
abbrev n_draws : List Str := ["script"]
abbrev p_draws : List Str := ["script"]
theorem sc_draws : FnScope n_draws p_draws (defScope s_draws) := ⟨rfl, rfl, rfl, by decide +kernel, rfl, by decide +kernel, by decide +kernel⟩
abbrev s_draw : Stmt := top 16
abbrev n_draw : List Str := ["draws", "limit", "cell", "value"]
abbrev p_draw : List Str := ["draws", "limit"]
theorem sc_draw : FnScope n_draw p_draw (defScope s_draw) := ⟨rfl, rfl, rfl, by decide +kernel, rfl, by decide +kernel, by decide +kernel⟩
abbrev s_same : Stmt := top 17
abbrev n_same : List Str := ["x", "due", "key", "right", "at"]
abbrev p_same : List Str := ["x", "due"]
theorem sc_same : FnScope n_same p_same (defScope s_same) := ⟨rfl, rfl, rfl, by decide +kernel, rfl, by decide +kernel, by decide +kernel⟩
abbrev s_form : Stmt := top 18
abbrev n_form : List Str := ["draws", "letters", "size", "names", "kind", "first", "word"]
abbrev p_form : List Str := ["draws", "letters", "size", "names"]
theorem sc_form : FnScope n_form p_form (defScope s_form) := ⟨rfl, rfl, rfl, by decide +kernel, rfl, by decide +kernel, by decide +kernel⟩
abbrev s_letters : Stmt := top 19
abbrev n_letters : List Str := ["draws"]
abbrev p_letters : List Str := ["draws"]
theorem sc_letters : FnScope n_letters p_letters (defScope s_letters) := ⟨rfl, rfl, rfl, by decide +kernel, rfl, by decide +kernel, by decide +kernel⟩
abbrev s_ltoks : Stmt := top 20
abbrev n_ltoks : List Str := ["form", "level", "word", "mine", "found"]
abbrev p_ltoks : List Str := ["form", "level"]
theorem sc_ltoks : FnScope n_ltoks p_ltoks (defScope s_ltoks) := ⟨rfl, rfl, rfl, by decide +kernel, rfl, by decide +kernel, by decide +kernel⟩
abbrev s_gaps : Stmt := top 21
abbrev n_gaps : List Str := ["draws", "tokens", "text", "places", "k", "gap"]
abbrev p_gaps : List Str := ["draws", "tokens"]
theorem sc_gaps : FnScope n_gaps p_gaps (defScope s_gaps) := ⟨rfl, rfl, rfl, by decide +kernel, rfl, by decide +kernel, by decide +kernel⟩
abbrev s_told : Stmt := top 22
abbrev n_told : List Str := ["letters", "text", "at", "e"]
abbrev p_told : List Str := ["letters", "text", "at"]
theorem sc_told : FnScope n_told p_told (defScope s_told) := ⟨rfl, rfl, rfl, by decide +kernel, rfl, by decide +kernel, by decide +kernel⟩
abbrev s_spoilt : Stmt := top 23
abbrev n_spoilt : List Str := ["draws", "letters", "tokens", "kind", "at", "made", "letter", "wanting", "k", "deep", "text", "places"]
abbrev p_spoilt : List Str := ["draws", "letters", "tokens"]
theorem sc_spoilt : FnScope n_spoilt p_spoilt (defScope s_spoilt) := ⟨rfl, rfl, rfl, by decide +kernel, rfl, by decide +kernel, by decide +kernel⟩
abbrev s_law : Stmt := top 24
abbrev n_law : List Str := ["script", "draws", "turn", "letters", "names", "form", "tokens", "asked", "k", "text", "at", "due", "deep"]
abbrev p_law : List Str := ["script"]
theorem sc_law : FnScope n_law p_law (defScope s_law) := ⟨rfl, rfl, rfl, by decide +kernel, rfl, by decide +kernel, by decide +kernel⟩
abbrev s_SetError : Stmt := inClass (top 1) 0
abbrev p_SetError : List Str := ["self", "at", "name"]
abbrev s_Misread : Stmt := inClass (top 3) 0
abbrev p_Misread : List Str := ["self", "at"]
abbrev s_BlockWrong : Stmt := inClass (top 4) 0
abbrev p_BlockWrong : List Str := ["self", "at"]
structure Ad where
  (f_tokens f_init f_next f_wrong f_begins f_ors f_ands f_rows f_deeper f_head f_atom f_name f_read f_draws f_draw f_same f_form f_letters f_ltoks f_gaps f_told f_spoilt f_law C_Formula K_ATOMS f_SetError C_SetError cda_SetError cc_SetError f_Misread C_Misread cda_Misread cc_Misread f_BlockWrong C_BlockWrong cda_BlockWrong cc_BlockWrong : Addr)
  (fd_tokens fd_init fd_next fd_wrong fd_begins fd_ors fd_ands fd_rows fd_deeper fd_head fd_atom fd_name fd_read fd_draws fd_draw fd_same fd_form fd_letters fd_ltoks fd_gaps fd_told fd_spoilt fd_law fd_SetError fd_Misread fd_BlockWrong : FuncData)
  (u_ALPHABET u_BLANKS u_DEEPEST u_LONGEST_NAME : Value)
structure Txt (P : Program) (w : World) (K : PySem.W.Frag) (mg : Str → Option Value) (ad : Ad) : Prop where
  n_len : mg "len" = none
  n_list : mg "list" = none
  n_all : mg "all" = none
  n_isinstance : mg "isinstance" = none
  n_int : mg "int" = none
  n_range : mg "range" = none
  n_bool : mg "bool" = none
  n_str : mg "str" = none
  n_dict : mg "dict" = none
  n_tuple : mg "tuple" = none
  g_ALPHABET : mg "ALPHABET" = some ad.u_ALPHABET
  r_ALPHABET : RelV (.str "abcdefghijklmnopqrstuvwxyz") ad.u_ALPHABET
  g_BLANKS : mg "BLANKS" = some ad.u_BLANKS
  r_BLANKS : RelV (.str " \n") ad.u_BLANKS
  g_DEEPEST : mg "DEEPEST" = some ad.u_DEEPEST
  r_DEEPEST : RelV (.int 60) ad.u_DEEPEST
  g_LONGEST_NAME : mg "LONGEST_NAME" = some ad.u_LONGEST_NAME
  r_LONGEST_NAME : RelV (.int 12) ad.u_LONGEST_NAME
  g_ATOMS : mg "ATOMS" = some (.ref ad.K_ATOMS)
  kd_ATOMS : ∃ es n, KDict K w ad.K_ATOMS es n
  kn_ATOMS : ∀ z : Str, z ∉ (["0", "1", "."] : List Str) → KAt K w ad.K_ATOMS z none
  k0_ATOMS : ∃ v, KAt K w ad.K_ATOMS "0" (some v) ∧ KRp K v (.tup [.str "none"])
  k1_ATOMS : ∃ v, KAt K w ad.K_ATOMS "1" (some v) ∧ KRp K v (.tup [.str "empty"])
  k2_ATOMS : ∃ v, KAt K w ad.K_ATOMS "." (some v) ∧ KRp K v (.tup [.str "any"])
  F_tokens : Fun K "tokens_from" "tokens_from" s_tokens ad.f_tokens ad.fd_tokens
  b_tokens : Binds K ad.fd_tokens p_tokens []
  g_tokens : mg "tokens_from" = some (.ref ad.f_tokens)
  F_init : Fun K "__init__" "Formula.__init__" s_init ad.f_init ad.fd_init
  b_init : Binds K ad.fd_init p_init []
  F_next : Fun K "next_word" "Formula.next_word" s_next ad.f_next ad.fd_next
  b_next : Binds K ad.fd_next p_next []
  m_next : Meth K ad.C_Formula "next_word" ad.f_next
  F_wrong : Fun K "wrong" "Formula.wrong" s_wrong ad.f_wrong ad.fd_wrong
  b_wrong : Binds K ad.fd_wrong p_wrong []
  m_wrong : Meth K ad.C_Formula "wrong" ad.f_wrong
  F_begins : Fun K "begins" "Formula.begins" s_begins ad.f_begins ad.fd_begins
  b_begins : Binds K ad.fd_begins p_begins []
  m_begins : Meth K ad.C_Formula "begins" ad.f_begins
  F_ors : Fun K "ors" "Formula.ors" s_ors ad.f_ors ad.fd_ors
  b_ors : Binds K ad.fd_ors p_ors []
  m_ors : Meth K ad.C_Formula "ors" ad.f_ors
  F_ands : Fun K "ands" "Formula.ands" s_ands ad.f_ands ad.fd_ands
  b_ands : Binds K ad.fd_ands p_ands []
  m_ands : Meth K ad.C_Formula "ands" ad.f_ands
  F_rows : Fun K "rows" "Formula.rows" s_rows ad.f_rows ad.fd_rows
  b_rows : Binds K ad.fd_rows p_rows []
  m_rows : Meth K ad.C_Formula "rows" ad.f_rows
  F_deeper : Fun K "deeper" "Formula.deeper" s_deeper ad.f_deeper ad.fd_deeper
  b_deeper : Binds K ad.fd_deeper p_deeper []
  m_deeper : Meth K ad.C_Formula "deeper" ad.f_deeper
  F_head : Fun K "head" "Formula.head" s_head ad.f_head ad.fd_head
  b_head : Binds K ad.fd_head p_head []
  m_head : Meth K ad.C_Formula "head" ad.f_head
  F_atom : Fun K "atom" "Formula.atom" s_atom ad.f_atom ad.fd_atom
  b_atom : Binds K ad.fd_atom p_atom []
  m_atom : Meth K ad.C_Formula "atom" ad.f_atom
  F_name : Fun K "name" "Formula.name" s_name ad.f_name ad.fd_name
  b_name : Binds K ad.fd_name p_name []
  m_name : Meth K ad.C_Formula "name" ad.f_name
  F_read : Fun K "read_form" "read_form" s_read ad.f_read ad.fd_read
  b_read : Binds K ad.fd_read p_read []
  g_read : mg "read_form" = some (.ref ad.f_read)
  F_draws : Fun K "_law_draws" "_law_draws" s_draws ad.f_draws ad.fd_draws
  b_draws : Binds K ad.fd_draws p_draws []
  g_draws : mg "_law_draws" = some (.ref ad.f_draws)
  F_draw : Fun K "_law_draw" "_law_draw" s_draw ad.f_draw ad.fd_draw
  b_draw : Binds K ad.fd_draw p_draw []
  g_draw : mg "_law_draw" = some (.ref ad.f_draw)
  F_same : Fun K "_law_same" "_law_same" s_same ad.f_same ad.fd_same
  b_same : Binds K ad.fd_same p_same []
  g_same : mg "_law_same" = some (.ref ad.f_same)
  F_form : Fun K "_law_form" "_law_form" s_form ad.f_form ad.fd_form
  b_form : Binds K ad.fd_form p_form []
  g_form : mg "_law_form" = some (.ref ad.f_form)
  F_letters : Fun K "_law_letters" "_law_letters" s_letters ad.f_letters ad.fd_letters
  b_letters : Binds K ad.fd_letters p_letters []
  g_letters : mg "_law_letters" = some (.ref ad.f_letters)
  F_ltoks : Fun K "_law_tokens" "_law_tokens" s_ltoks ad.f_ltoks ad.fd_ltoks
  b_ltoks : Binds K ad.fd_ltoks p_ltoks []
  g_ltoks : mg "_law_tokens" = some (.ref ad.f_ltoks)
  F_gaps : Fun K "_law_gaps" "_law_gaps" s_gaps ad.f_gaps ad.fd_gaps
  b_gaps : Binds K ad.fd_gaps p_gaps []
  g_gaps : mg "_law_gaps" = some (.ref ad.f_gaps)
  F_told : Fun K "_law_told" "_law_told" s_told ad.f_told ad.fd_told
  b_told : Binds K ad.fd_told p_told []
  g_told : mg "_law_told" = some (.ref ad.f_told)
  F_spoilt : Fun K "_law_spoilt" "_law_spoilt" s_spoilt ad.f_spoilt ad.fd_spoilt
  b_spoilt : Binds K ad.fd_spoilt p_spoilt []
  g_spoilt : mg "_law_spoilt" = some (.ref ad.f_spoilt)
  F_law : Fun K "law" "law" s_law ad.f_law ad.fd_law
  b_law : Binds K ad.fd_law p_law []
  g_law : mg "law" = some (.ref ad.f_law)
  cl_Formula : Cls K ad.C_Formula
  mk_Formula : Mk K ad.C_Formula ad.f_init
  g_Formula : mg "Formula" = some (.ref ad.C_Formula)
  na_Formula_letters : NoAttr K ad.C_Formula "letters"
  na_Formula_tokens : NoAttr K ad.C_Formula "tokens"
  na_Formula_now : NoAttr K ad.C_Formula "now"
  na_Formula_deep : NoAttr K ad.C_Formula "deep"
  n_super : mg "super" = none
  htop : (P.main.scope.names.lookup ("super" : Str)).isSome = false
  S_SetError : SFun P K "__init__" "SetError.__init__" s_SetError ad.f_SetError ad.fd_SetError ad.C_SetError ad.cda_SetError ad.cc_SetError
  b_SetError : Binds K ad.fd_SetError p_SetError []
  S_Misread : SFun P K "__init__" "Misread.__init__" s_Misread ad.f_Misread ad.fd_Misread ad.C_Misread ad.cda_Misread ad.cc_Misread
  b_Misread : Binds K ad.fd_Misread p_Misread []
  S_BlockWrong : SFun P K "__init__" "BlockWrong.__init__" s_BlockWrong ad.f_BlockWrong ad.fd_BlockWrong ad.C_BlockWrong ad.cda_BlockWrong ad.cc_BlockWrong
  b_BlockWrong : Binds K ad.fd_BlockWrong p_BlockWrong []
  ok_Misread : SupF K ad.C_Misread ad.C_Misread ad.f_SetError ∧ OKv K ad.C_SetError ad.C_Misread
  i_Misread : PySem.W.findIn K (.ref ad.C_Misread) "__init__" = some (some (.ref ad.f_Misread))
  t_Misread : PySem.W.typeIn K (.ref ad.f_Misread) = some (.type "function")
  g_Misread : mg "Misread" = some (.ref ad.C_Misread)
  xf_Misread : XfC K ad.C_Misread
  ok_BlockWrong : SupF K ad.C_BlockWrong ad.C_BlockWrong ad.f_SetError ∧ OKv K ad.C_SetError ad.C_BlockWrong
  i_BlockWrong : PySem.W.findIn K (.ref ad.C_BlockWrong) "__init__" = some (some (.ref ad.f_BlockWrong))
  t_BlockWrong : PySem.W.typeIn K (.ref ad.f_BlockWrong) = some (.type "function")
  g_BlockWrong : mg "BlockWrong" = some (.ref ad.C_BlockWrong)
  xf_BlockWrong : XfC K ad.C_BlockWrong
  g_SetError : mg "SetError" = some (.ref ad.C_SetError)
  xi_Misread : ExI K ad.C_Misread
  ki_Misread_SetError : PySem.W.kitOne K (.ref ad.C_Misread) (.ref ad.C_SetError) = some true
  ki_Misread_BlockWrong : PySem.W.kitOne K (.ref ad.C_Misread) (.ref ad.C_BlockWrong) = some false
  e_Misread_Misread : PySem.W.exmOne K (.ref ad.C_Misread) (.ref ad.C_Misread) = some true
section
variable {P : Program} {w : World} {K : PySem.W.Frag} {mg : Str → Option Value} {base : Heap} {ad : Ad}
theorem fo_SetError (T : Txt P w K mg ad) : FnOk P w K mg base (L2.CX P w) 1 ad.f_SetError ad.fd_SetError p_SetError (spX 2 (OKv K ad.C_SetError) fsB) := by
  refine sx_base T.S_SetError T.n_super ⟨NdefX.nscope_by (by decide +kernel), rfl, rfl, rfl, rfl, rfl, fun _ _ _ _ => rfl, fun _ _ _ _ => rfl, fun _ _ _ _ => rfl, fun _ _ _ _ => rfl, fun _ _ _ _ => rfl⟩ T.htop (fun A outer s H E => pa_cons (pe_var rfl (Or.inl rfl) (by decide) (by decide)) pa_nil) (fun A outer s H E => ?_)
  exact pss_cons (ps_ost (pe_var rfl (Or.inl rfl) (by decide) (by decide)) (pe_var rfl (Or.inl rfl) (by decide) (by decide))) (pss_one (ps_ost (pe_var rfl (Or.inl rfl) (by decide) (by decide)) (pe_var rfl (Or.inl rfl) (by decide) (by decide))))
theorem fo_Misread (T : Txt P w K mg ad) : FnOk P w K mg base (L2.CX P w) 2 ad.f_Misread ad.fd_Misread p_Misread (spX 1 (fun C => SupF K C ad.C_Misread ad.f_SetError ∧ OKv K ad.C_SetError C) (fsS "Misread")) := by
  refine sx_sub T.S_Misread T.n_super ⟨NdefX.nscope_by (by decide +kernel), rfl, rfl, rfl, rfl, rfl, fun _ _ _ _ => rfl, fun _ _ _ _ => rfl, fun _ _ _ _ => rfl, fun _ _ _ _ => rfl, fun _ _ _ _ => rfl⟩ T.htop (fo_SetError T) T.b_SetError (fun A outer s H E => pa_cons (pe_var rfl (Or.inl rfl) (by decide) (by decide)) (pa_cons pe_str pa_nil))
theorem fo_BlockWrong (T : Txt P w K mg ad) : FnOk P w K mg base (L2.CX P w) 2 ad.f_BlockWrong ad.fd_BlockWrong p_BlockWrong (spX 1 (fun C => SupF K C ad.C_BlockWrong ad.f_SetError ∧ OKv K ad.C_SetError C) (fsS "BlockWrong")) := by
  refine sx_sub T.S_BlockWrong T.n_super ⟨NdefX.nscope_by (by decide +kernel), rfl, rfl, rfl, rfl, rfl, fun _ _ _ _ => rfl, fun _ _ _ _ => rfl, fun _ _ _ _ => rfl, fun _ _ _ _ => rfl, fun _ _ _ _ => rfl⟩ T.htop (fo_SetError T) T.b_SetError (fun A outer s H E => pa_cons (pe_var rfl (Or.inl rfl) (by decide) (by decide)) (pa_cons pe_str pa_nil))
end
end K87

namespace K87
open PySem PySem.Spec PyProof.Rows L2 DL
section
variable {P : Program} {w : World} {K : PySem.W.Frag} {mg : Str → Option Value} {base : Heap} {ad : Ad}
/-! ### the draws -/
def drD (xs : List Int) (a b c : Int) : List D := [.lst (xs.map .int), .int a, .int b, .int c]
def DrOk (xs : List Int) (a b : Int) : Prop := 0 ≤ a ∧ a ≤ xs.length ∧ 0 ≤ b
theorem drD_bd {n : Nat} {xs : List Int} {a b c : Int} : MBd n (.lst (drD xs a b c)) := .cons (.lst (bds_ints xs)) (.cons (.int _) (.cons (.int _) (.cons (.int _) .nil)))
def F_draws : FD := fun ds M Qd _ => ∃ ns : List Int, ds = [.scr ns] ∧ Qd (.ptr M.length) (M ++ [.lst (drD ns 0 0 1)])
def F_draw : FD := fun ds M Qd _ => ∃ (k : Nat) (xs : List Int) (a b c lim : Int), ds = [.ptr k, .int lim] ∧ M[k]? = some (.lst (drD xs a b c)) ∧ DrOk xs a b ∧ 0 < lim ∧ lim < 1073741824 ∧
  ∀ a' b' c' v, DrOk xs a' b' → 0 ≤ v → v < lim → Qd (.int v) (M.set k (.lst (drD xs a' b' c')))
/-! _law_draws -/
def w_draws_1 (K : PySem.W.Frag) (w : World) (ad : Ad) : SW := dRet (dLstB (dCons (dCall wListC (dCons (dVar 0) dNil)) (dCons (dC (.int 0)) (dCons (dC (.int 0)) (dCons (dC (.int 1)) dNil)))))
def w_draws (K : PySem.W.Frag) (w : World) (ad : Ad) : SW := (w_draws_1 K w ad)
theorem y_draws (T : Txt P w K mg ad) (E : XK) : DSs (XB P w K mg base n_draws "_law_draws" (defScope s_draws) ad.f_draws 0 E) K (WF E) (defBody s_draws) (w_draws K w ad) := by
  unfold w_draws w_draws_1
  exact (dss_one (ds_ret (de_lstB (da_cons (de_callT (dc_list fun _ => rfl) (fun _ => T.n_list) PyProof.Rows.Boot.«list» (da_cons (de_var 0) da_nil)) (da_cons de_int (da_cons de_int (da_cons de_int da_nil)))))))
theorem fo_draws (T : Txt P w K mg ad) : FnOk P w K mg base (L2.CX P w) 1 ad.f_draws ad.fd_draws p_draws (spD K 1 F_draws) := by
  refine fn_d T.F_draws sc_draws (y_draws T) fun ds M Qd Xd hl h hw hb => ?_
  obtain ⟨ns, rfl, q⟩ := h
  refine ⟨.scr ns, rfl, .inr ⟨ns, rfl, ?_⟩⟩
  refine ⟨by show 4 ≤ sizeLine; rw [sizeLine_eq]; decide, .inr fun w d => ?_⟩
  exact UpV.all (by simp) w d q
/-! _law_draw -/
def w_draw_5 (K : PySem.W.Frag) (w : World) (ad : Ad) : SW := dAsg (dVar 2) (dgSet (dVar 0) (dC (.int 2)))
def w_draw_6 (K : PySem.W.Frag) (w : World) (ad : Ad) : SW := dAsg (dOp wMod (dCall wIntC (dCons (dOp wAdd (dOp wAdd (dOp wMulB (dOp wIx (dVar 0) (dC (.int 3))) (dC (.int 48271))) (dVar 2)) (dC (.int 13))) dNil)) (dC (.int 2147483647))) (dgSet (dVar 0) (dC (.int 3)))
def w_draw_4 (K : PySem.W.Frag) (w : World) (ad : Ad) : SW := dSeq (dIf (dTest (dOp wGe (dVar 2) (dOp wPow (dC (.int 10)) (dC (.int 18))))) (w_draw_5 K w ad) dNext) (w_draw_6 K w ad)
def w_draw_3 (K : PySem.W.Frag) (w : World) (ad : Ad) : SW := dSeq (dAsg (dOp wAdd (dOp wIx (dVar 0) (dC (.int 1))) (dC (.int 1))) (dgSet (dVar 0) (dC (.int 1)))) (w_draw_4 K w ad)
def w_draw_2 (K : PySem.W.Frag) (w : World) (ad : Ad) : SW := dSeq (dAsg (dOp wIx (dOp wIx (dVar 0) (dC (.int 0))) (dOp wIx (dVar 0) (dC (.int 1)))) (dgName 2)) (w_draw_3 K w ad)
def w_draw_10 (K : PySem.W.Frag) (w : World) (ad : Ad) : SW := dRet (dVar 3)
def w_draw_9 (K : PySem.W.Frag) (w : World) (ad : Ad) : SW := dSeq (dAsg (dOp wDiv (dOp wIx (dVar 0) (dC (.int 2))) (dVar 1)) (dgSet (dVar 0) (dC (.int 2)))) (w_draw_10 K w ad)
def w_draw_8 (K : PySem.W.Frag) (w : World) (ad : Ad) : SW := dSeq (dAsg (dOp wMod (dCall wIntC (dCons (dOp wIx (dVar 0) (dC (.int 2))) dNil)) (dVar 1)) (dgName 3)) (w_draw_9 K w ad)
def w_draw_12 (K : PySem.W.Frag) (w : World) (ad : Ad) : SW := dRet (dOp wMod (dCall wIntC (dCons (dOp wDiv (dOp wIx (dVar 0) (dC (.int 3))) (dC (.int 11))) dNil)) (dVar 1))
def w_draw_11 (K : PySem.W.Frag) (w : World) (ad : Ad) : SW := dSeq (dAsg (dOp wMod (dCall wIntC (dCons (dOp wAdd (dOp wMulB (dOp wIx (dVar 0) (dC (.int 3))) (dC (.int 69621))) (dC (.int 7))) dNil)) (dC (.int 2147483629))) (dgSet (dVar 0) (dC (.int 3)))) (w_draw_12 K w ad)
def w_draw_7 (K : PySem.W.Frag) (w : World) (ad : Ad) : SW := dSeq (dIf (dTest (dOp wGt (dOp wIx (dVar 0) (dC (.int 2))) (dC (.int 0)))) (w_draw_8 K w ad) dNext) (w_draw_11 K w ad)
def w_draw_1 (K : PySem.W.Frag) (w : World) (ad : Ad) : SW := dSeq (dIf (dAnd (dTest (dOp wEqF (dOp wIx (dVar 0) (dC (.int 2))) (dC (.int 0)))) (dTest (dOp wLt (dOp wIx (dVar 0) (dC (.int 1))) (dCall wLen (dCons (dOp wIx (dVar 0) (dC (.int 0))) dNil))))) (w_draw_2 K w ad) dNext) (w_draw_7 K w ad)
def w_draw (K : PySem.W.Frag) (w : World) (ad : Ad) : SW := (w_draw_1 K w ad)
theorem y_draw (T : Txt P w K mg ad) (E : XK) : DSs (XB P w K mg base n_draw "_law_draw" (defScope s_draw) ad.f_draw 0 E) K (WF E) (defBody s_draw) (w_draw K w ad) := by
  unfold w_draw w_draw_1 w_draw_7 w_draw_11 w_draw_12 w_draw_8 w_draw_9 w_draw_10 w_draw_2 w_draw_3 w_draw_4 w_draw_6 w_draw_5
  exact (dss_cons (ds_if (dpw_pt (dpw_and (dt_cmp do_eqF (de_ix (fun _ => rfl) (de_var 0) de_int) de_int) (dpw_and1 (dt_cmp do_lt (de_ix (fun _ => rfl) (de_var 0) de_int) (de_callB (dc_len fun _ => rfl) (fun _ => T.n_len) PyProof.Rows.Boot.«len» (da_cons (de_ix (fun _ => rfl) (de_var 0) de_int) da_nil)))))) (dss_cons (ds_set 2 (de_ix (fun _ => rfl) (de_ix (fun _ => rfl) (de_var 0) de_int) (de_ix (fun _ => rfl) (de_var 0) de_int)) (fun _ => sc_draw.nd)) (dss_cons (ds_asg (de_op do_add (de_ix (fun _ => rfl) (de_var 0) de_int) de_int) (dg_set (de_var 0) de_int)) (dss_cons (ds_if (dt_cmp do_ge (de_var 2) (de_op do_powI de_int de_int)) (dss_one (ds_asg (de_var 2) (dg_set (de_var 0) de_int))) dss_nil) (dss_one (ds_asg (de_op do_modI (de_callT dc_int (fun _ => T.n_int) PyProof.Rows.Boot.«int» (da_cons (de_op do_add (de_op do_add (de_op do_mul (de_ix (fun _ => rfl) (de_var 0) de_int) de_int) (de_var 2)) de_int) da_nil)) de_int) (dg_set (de_var 0) de_int)))))) dss_nil) (dss_cons (ds_if (dt_cmp do_gt (de_ix (fun _ => rfl) (de_var 0) de_int) de_int) (dss_cons (ds_set 3 (de_op do_modI (de_callT dc_int (fun _ => T.n_int) PyProof.Rows.Boot.«int» (da_cons (de_ix (fun _ => rfl) (de_var 0) de_int) da_nil)) (de_var 1)) (fun _ => sc_draw.nd)) (dss_cons (ds_asg (de_op do_divI (de_ix (fun _ => rfl) (de_var 0) de_int) (de_var 1)) (dg_set (de_var 0) de_int)) (dss_one (ds_ret (de_var 3))))) dss_nil) (dss_cons (ds_asg (de_op do_modI (de_callT dc_int (fun _ => T.n_int) PyProof.Rows.Boot.«int» (da_cons (de_op do_add (de_op do_mul (de_ix (fun _ => rfl) (de_var 0) de_int) de_int) de_int) da_nil)) de_int) (dg_set (de_var 0) de_int)) (dss_one (ds_ret (de_op do_modI (de_callT dc_int (fun _ => T.n_int) PyProof.Rows.Boot.«int» (da_cons (de_op do_divI (de_ix (fun _ => rfl) (de_var 0) de_int) de_int) da_nil)) (de_var 1)))))))
section
variable {M : Mm} {k : Nat} {xs : List Int} {a b c lim : Int} {Q : DK} {X : XD} {ρ : Ev}
/-- draws[j] -/
theorem r_dr (h : M[k]? = some (.lst (drD xs a b c))) (h0 : ρ[0]? = some (some (.ptr k))) {j : Int} {v : D} (hv : atI (drD xs a b c) j = some v) (q : Q v M) : dOp wIx (dVar 0) (dC (.int j)) ρ M Q X :=
  ⟨_, h0, .inl ⟨_, j, v, sq_at h, rfl, hv, q⟩⟩
/-- draws[j] = .. -/
theorem r_drset {d : D} {xs' : List D} {j : Int} {n : Nat} {P : NK} (h : M[k]? = some (.lst xs')) (h0 : ρ[0]? = some (some (.ptr k))) (hn : ixN xs'.length j = some n) (q : P ρ (M.set k (.lst (xs'.set n d)))) : dgSet (dVar 0) (dC (.int j)) d ρ M P X :=
  ⟨_, h0, k, xs', j, n, rfl, rfl, h, hn, q⟩
end
theorem mod_lt {x m : Int} (h : 0 < m) : 0 ≤ x % m ∧ x % m < m := ⟨Int.emod_nonneg _ (by omega), Int.emod_lt_of_pos _ h⟩
/-- nothing is owed by a list: line 80 on -/
theorem p_draw_80 {M M0 : Mm} {k : Nat} {xs : List Int} {a b c lim : Int} {Qd : DK} {Xd : XD} {d2 d3 : Option D} (hk : M[k]? = some (.lst (drD xs a b c))) (ok : DrOk xs a b) (l0 : 0 < lim) (hl : M0.length ≤ M.length) (q : ∀ a' b' c' v, DrOk xs a' b' → 0 ≤ v → v < lim → Qd (.int v) (M.set k (.lst (drD xs a' b' c')))) :
    w_draw_11 K w ad (DsF M0 Qd Xd) [some (.ptr k), some (.int lim), d2, d3] M := by
  refine r_dr hk rfl (v := .int c) rfl ?_
  refine .inl ⟨_, _, rfl, rfl, .inr (by decide), ?_⟩
  refine .inl (.inl ⟨_, _, rfl, rfl, trivial, .inl ⟨_, rfl, ?_⟩⟩)
  refine ⟨_, _, rfl, rfl, (show (0 : Int) < 2147483629 by decide), ?_⟩
  refine r_drset hk rfl (n := 3) rfl ?_
  have hk2 := set_at (m := MO.lst (drD xs a b ((c * 69621 + 7) % 2147483629))) hk
  refine r_dr (c := (c * 69621 + 7) % 2147483629) hk2 rfl (v := .int ((c * 69621 + 7) % 2147483629)) rfl ?_
  refine ⟨_, _, rfl, rfl, ⟨by decide, by decide⟩, .inl ⟨_, rfl, ?_⟩⟩
  refine ⟨_, rfl, _, _, rfl, rfl, l0, fun w d => ?_⟩
  exact UpV.all (by rw [List.length_set]; exact hl) w d (q _ _ _ _ ok (mod_lt l0).1 (mod_lt l0).2)
/-- line 76 on -/
theorem p_draw_76 {M M0 : Mm} {k : Nat} {xs : List Int} {a b c lim : Int} {Qd : DK} {Xd : XD} {d2 d3 : Option D} (hk : M[k]? = some (.lst (drD xs a b c))) (ok : DrOk xs a b) (l0 : 0 < lim) (l1 : lim < 1073741824) (hl : M0.length ≤ M.length) (q : ∀ a' b' c' v, DrOk xs a' b' → 0 ≤ v → v < lim → Qd (.int v) (M.set k (.lst (drD xs a' b' c')))) :
    w_draw_7 K w ad (DsF M0 Qd Xd) [some (.ptr k), some (.int lim), d2, d3] M := by
  refine r_dr hk rfl (v := .int b) rfl ?_
  refine ⟨_, _, rfl, rfl, trivial, _, rfl, ifd (fun hb => ?_) fun hb => ?_⟩
  · refine r_dr hk rfl (v := .int b) rfl (.inl ⟨_, rfl, ?_⟩)
    refine ⟨_, rfl, _, _, rfl, rfl, l0, ?_⟩
    refine r_dr hk rfl (v := .int b) rfl ⟨_, rfl, _, _, rfl, rfl, ⟨l0, l1⟩, ?_⟩
    refine r_drset hk rfl (n := 2) rfl ⟨_, rfl, fun w d => ?_⟩
    exact UpV.all (by rw [List.length_set]; exact hl) w d (q a (b / lim) c _ ⟨ok.1, ok.2.1, Int.ediv_nonneg (by omega) (by omega)⟩ (mod_lt l0).1 (mod_lt l0).2)
  · exact p_draw_80 hk ok l0 hl q
theorem fo_draw (T : Txt P w K mg ad) : FnOk P w K mg base (L2.CX P w) 1 ad.f_draw ad.fd_draw p_draw (spD K 2 F_draw) := by
  refine fn_d T.F_draw sc_draw (y_draw T) fun ds M Qd Xd hl h hw hb => ?_
  obtain ⟨k, xs, a, b, c, lim, rfl, hk, ok, l0, l1, q⟩ := h
  refine r_dr hk rfl (v := .int b) rfl ⟨_, _, rfl, rfl, rfl, _, rfl, ?_⟩
  rw [dec_ii]
  refine ifd (fun e0 => ?_) fun _ => if_f rfl (p_draw_76 hk ok l0 l1 (Nat.le_refl _) q)
  subst e0
  refine r_dr hk rfl (v := .int a) rfl ?_
  refine r_dr hk rfl (v := .lst (xs.map .int)) rfl (.inl ⟨_, _, rfl, rfl, ?_⟩)
  refine ⟨_, _, rfl, rfl, trivial, _, rfl, ifd (fun ha => ?_) fun _ => p_draw_76 hk ok l0 l1 (Nat.le_refl _) q⟩
  rw [List.length_map] at ha
  obtain ⟨i, rfl⟩ := Int.eq_ofNat_of_zero_le ok.1
  have hi : i < xs.length := by omega
  -- cell
  refine r_dr hk rfl (v := .lst (xs.map .int)) rfl ?_
  refine r_dr hk rfl (v := .int i) rfl (.inl ⟨_, _, .int xs[i], rfl, rfl, at_map rfl (List.getElem?_eq_getElem hi), ?_⟩)
  -- draws[1]
  refine r_dr hk rfl (v := .int i) rfl ?_
  refine .inl (.inl ⟨_, _, rfl, rfl, trivial, ?_⟩)
  refine r_drset hk rfl (n := 1) rfl ?_
  have hk1 : (M.set k (.lst (drD xs (i + 1) 0 c)))[k]? = some (.lst (drD xs (i + 1) 0 c)) := set_at hk
  have ok1 : DrOk xs (i + 1) 0 := ⟨by omega, by omega, by decide⟩
  -- draws[3]
  have go : ∀ (b' : Int), 0 ≤ b' → w_draw_6 K w ad { DsF M Qd Xd with nx := fun ρ' M' => w_draw_7 K w ad (DsF M Qd Xd) ρ' M' } [some (.ptr k), some (.int lim), some (.int xs[i]), none] (M.set k (.lst (drD xs (i + 1) b' c))) := fun b' hb' => by
    have hk2 : (M.set k (.lst (drD xs (i + 1) b' c)))[k]? = some (.lst (drD xs (i + 1) b' c)) := set_at hk
    refine r_dr hk2 rfl (v := .int c) rfl ?_
    refine .inl ⟨_, _, rfl, rfl, .inr (by decide), ⟨_, rfl, ?_⟩⟩
    refine .inl (.inl ⟨_, _, rfl, rfl, trivial, ?_⟩)
    refine .inl (.inl ⟨_, _, rfl, rfl, trivial, .inl ⟨_, rfl, ?_⟩⟩)
    refine ⟨_, _, rfl, rfl, (show (0 : Int) < 2147483647 by decide), ?_⟩
    refine r_drset hk2 rfl (n := 3) rfl ?_
    rw [List.set_set]
    refine p_draw_76 (set_at hk) ⟨by omega, by omega, hb'⟩ l0 l1 (by rw [List.length_set]; exact Nat.le_refl _) fun a' b' c' v o v0 v1 => ?_
    rw [List.set_set]
    exact q a' b' c' v o v0 v1
  refine ⟨_, rfl, _, _, rfl, rfl, ⟨by decide, by decide, by decide⟩, ?_⟩
  refine ⟨_, _, rfl, rfl, trivial, _, rfl, ifd (fun hc => ?_) fun _ => go 0 (by decide)⟩
  refine ⟨_, rfl, r_drset hk1 rfl (n := 2) rfl ?_⟩
  rw [List.set_set]
  refine go xs[i] ?_
  have e : (10 : Int) ^ (18 : Int).toNat = 1000000000000000000 := by decide
  rw [e] at hc
  omega

end
end K87

namespace K87
open PySem PySem.Spec PyProof.Rows L2 DL
section
variable {P : Program} {w : World} {K : PySem.W.Frag} {mg : Str → Option Value} {base : Heap} {ad : Ad}
/-! ### the same -/
/-- the same data, n levels deep -/
def Sm (M : Mm) : Nat → D → D → Prop
  | 0, d, e => d = e ∧ ∃ x, vOf d = some x
  | n + 1, d, e => (d = e ∧ ∃ x, vOf d = some x) ∨ ∃ xs ys, ((lsOf M d = some xs ∧ lsOf M e = some ys) ∨ (d = .tup xs ∧ e = .tup ys)) ∧ xs.length = ys.length ∧ ys.length < 1000000 ∧ ∀ (i : Nat) (x y : D), xs[i]? = some x → ys[i]? = some y → Sm M n x y
def F_same (n : Nat) : FD := fun ds M Qd _ => ∃ x due, ds = [x, due] ∧ Sm M n x due ∧ Qd (.bl true) M
/-- what a level may ask of itself -/
def F_below : Nat → FD
  | 0 => fun _ _ _ _ => False
  | n + 1 => F_same n
theorem fo_none {k : Nat} {f : Addr} {fd : FuncData} {ps : List Str} : FnOk P w K mg base (L2.CX P w) k f fd ps (spD K ps.length (fun _ _ _ _ => False)) :=
  ⟨fun _ _ _ _ h => h.1, fun _ _ _ _ _ _ _ _ _ _ _ _ _ h => by
    obtain ⟨_, _, _, _, _, _, _, _, _, z, _⟩ := h
    exact z.elim⟩
/-! _law_same -/
def w_same_2 (K : PySem.W.Frag) (w : World) (ad : Ad) (F : FD) : SW := dRet (dOp wIsN (dVar 0) (dC .non))
def w_same_4 (K : PySem.W.Frag) (w : World) (ad : Ad) (F : FD) : SW := dRet (dAndV (dCall wIsi (dCons (dVar 0) (dCons (dC (.ty "bool")) dNil))) (dOp wEqF (dVar 0) (dVar 1)))
def w_same_6 (K : PySem.W.Frag) (w : World) (ad : Ad) (F : FD) : SW := dRet (dAndV (dCall wIsi (dCons (dVar 0) (dCons (dC (.ty "int")) dNil))) (dAndV (dNotV (dCall wIsi (dCons (dVar 0) (dCons (dC (.ty "bool")) dNil)))) (dOp wEqF (dVar 0) (dVar 1))))
def w_same_8 (K : PySem.W.Frag) (w : World) (ad : Ad) (F : FD) : SW := dRet (dAndV (dCall wIsi (dCons (dVar 0) (dCons (dC (.ty "str")) dNil))) (dOp wEqF (dVar 0) (dVar 1)))
def w_same_14 (K : PySem.W.Frag) (w : World) (ad : Ad) (F : FD) : SW := dAsg (dCall wIsi (dCons (dVar 0) (dCons (dC (.ty "list")) dNil))) (dgName 3)
def w_same_16 (K : PySem.W.Frag) (w : World) (ad : Ad) (F : FD) : SW := dAsg (dCall wIsi (dCons (dVar 0) (dCons (dC (.ty "tuple")) dNil))) (dgName 3)
def w_same_17 (K : PySem.W.Frag) (w : World) (ad : Ad) (F : FD) : SW := dRet (dAndV (dVar 3) (dAndV (dOp wEqF (dCall wLen (dCons (dVar 0) dNil)) (dCall wLen (dCons (dVar 1) dNil))) (dCall wAll (dCons (dSoE (dLc (diRng1 (dCall wLen (dCons (dVar 1) dNil))) 4 dYes (dCallS 2 F (dCons (dOp wIx (dVar 0) (dVar 4)) (dCons (dOp wIx (dVar 1) (dVar 4)) dNil))))) dNil))))
def w_same_13 (K : PySem.W.Frag) (w : World) (ad : Ad) (F : FD) : SW := dSeq (dIf (dTest (dCall wIsi (dCons (dVar 1) (dCons (dC (.ty "list")) dNil)))) (w_same_14 K w ad F) (w_same_16 K w ad F)) (w_same_17 K w ad F)
def w_same_9 (K : PySem.W.Frag) (w : World) (ad : Ad) (F : FD) : SW := dSeq (dIf (dTest (dCall wIsi (dCons (dVar 1) (dCons (dC (.ty "dict")) dNil)))) (fun _ _ _ => False) dNext) (w_same_13 K w ad F)
def w_same_7 (K : PySem.W.Frag) (w : World) (ad : Ad) (F : FD) : SW := dSeq (dIf (dTest (dCall wIsi (dCons (dVar 1) (dCons (dC (.ty "str")) dNil)))) (w_same_8 K w ad F) dNext) (w_same_9 K w ad F)
def w_same_5 (K : PySem.W.Frag) (w : World) (ad : Ad) (F : FD) : SW := dSeq (dIf (dTest (dCall wIsi (dCons (dVar 1) (dCons (dC (.ty "int")) dNil)))) (w_same_6 K w ad F) dNext) (w_same_7 K w ad F)
def w_same_3 (K : PySem.W.Frag) (w : World) (ad : Ad) (F : FD) : SW := dSeq (dIf (dTest (dCall wIsi (dCons (dVar 1) (dCons (dC (.ty "bool")) dNil)))) (w_same_4 K w ad F) dNext) (w_same_5 K w ad F)
def w_same_1 (K : PySem.W.Frag) (w : World) (ad : Ad) (F : FD) : SW := dSeq (dIf (dTest (dOp wIsN (dVar 1) (dC .non))) (w_same_2 K w ad F) dNext) (w_same_3 K w ad F)
def w_same (K : PySem.W.Frag) (w : World) (ad : Ad) (F : FD) : SW := (w_same_1 K w ad F)
theorem y_same {F : FD} {n : Nat} (Fo : FnOk P w K mg base (L2.CX P w) n ad.f_same ad.fd_same p_same (spD K 2 F)) (T : Txt P w K mg ad) (E : XK) : DSs (XB P w K mg base n_same "_law_same" (defScope s_same) ad.f_same n E) K (WF E) (defBody s_same) (w_same K w ad F) := by
  unfold w_same w_same_1 w_same_3 w_same_5 w_same_7 w_same_9 w_same_13 w_same_17 w_same_16 w_same_14 w_same_8 w_same_6 w_same_4 w_same_2
  exact (dss_cons (ds_if (dt_cmp do_isN (de_var 1) de_non) (dss_one (ds_ret (de_cmp do_isN (de_var 0) de_non))) dss_nil) (dss_cons (ds_if (dt_val (de_callB (dc_isi fun _ => rfl) (fun _ => T.n_isinstance) PyProof.Rows.Boot.«isinstance» (da_cons (de_var 1) (da_cons (de_bty (fun _ => T.n_bool) PyProof.Rows.Boot.«bool») da_nil)))) (dss_one (ds_ret (de_and (de_callB (dc_isi fun _ => rfl) (fun _ => T.n_isinstance) PyProof.Rows.Boot.«isinstance» (da_cons (de_var 0) (da_cons (de_bty (fun _ => T.n_bool) PyProof.Rows.Boot.«bool») da_nil))) (de_one (de_cmp do_eqF (de_var 0) (de_var 1)))))) dss_nil) (dss_cons (ds_if (dt_val (de_callB (dc_isi fun _ => rfl) (fun _ => T.n_isinstance) PyProof.Rows.Boot.«isinstance» (da_cons (de_var 1) (da_cons (de_bty (fun _ => T.n_int) PyProof.Rows.Boot.«int») da_nil)))) (dss_one (ds_ret (de_and (de_callB (dc_isi fun _ => rfl) (fun _ => T.n_isinstance) PyProof.Rows.Boot.«isinstance» (da_cons (de_var 0) (da_cons (de_bty (fun _ => T.n_int) PyProof.Rows.Boot.«int») da_nil))) (de_and (de_not (de_callB (dc_isi fun _ => rfl) (fun _ => T.n_isinstance) PyProof.Rows.Boot.«isinstance» (da_cons (de_var 0) (da_cons (de_bty (fun _ => T.n_bool) PyProof.Rows.Boot.«bool») da_nil)))) (de_one (de_cmp do_eqF (de_var 0) (de_var 1))))))) dss_nil) (dss_cons (ds_if (dt_val (de_callB (dc_isi fun _ => rfl) (fun _ => T.n_isinstance) PyProof.Rows.Boot.«isinstance» (da_cons (de_var 1) (da_cons (de_bty (fun _ => T.n_str) PyProof.Rows.Boot.«str») da_nil)))) (dss_one (ds_ret (de_and (de_callB (dc_isi fun _ => rfl) (fun _ => T.n_isinstance) PyProof.Rows.Boot.«isinstance» (da_cons (de_var 0) (da_cons (de_bty (fun _ => T.n_str) PyProof.Rows.Boot.«str») da_nil))) (de_one (de_cmp do_eqF (de_var 0) (de_var 1)))))) dss_nil) (dss_cons (ds_if (dt_val (de_callB (dc_isi fun _ => rfl) (fun _ => T.n_isinstance) PyProof.Rows.Boot.«isinstance» (da_cons (de_var 1) (da_cons (de_bty (fun _ => T.n_dict) PyProof.Rows.Boot.«dict») da_nil)))) dss_dead dss_nil) (dss_cons (ds_if (dt_val (de_callB (dc_isi fun _ => rfl) (fun _ => T.n_isinstance) PyProof.Rows.Boot.«isinstance» (da_cons (de_var 1) (da_cons (de_bty (fun _ => T.n_list) PyProof.Rows.Boot.«list») da_nil)))) (dss_one (ds_set 3 (de_callB (dc_isi fun _ => rfl) (fun _ => T.n_isinstance) PyProof.Rows.Boot.«isinstance» (da_cons (de_var 0) (da_cons (de_bty (fun _ => T.n_list) PyProof.Rows.Boot.«list») da_nil))) (fun _ => sc_same.nd))) (dss_one (ds_set 3 (de_callB (dc_isi fun _ => rfl) (fun _ => T.n_isinstance) PyProof.Rows.Boot.«isinstance» (da_cons (de_var 0) (da_cons (de_bty (fun _ => T.n_tuple) PyProof.Rows.Boot.«tuple») da_nil))) (fun _ => sc_same.nd)))) (dss_one (ds_ret (de_and (de_var 3) (de_and (de_cmp do_eqF (de_callB (dc_len fun _ => rfl) (fun _ => T.n_len) PyProof.Rows.Boot.«len» (da_cons (de_var 0) da_nil)) (de_callB (dc_len fun _ => rfl) (fun _ => T.n_len) PyProof.Rows.Boot.«len» (da_cons (de_var 1) da_nil))) (de_one (de_callB (dc_all (fun _ => rfl) fun _ => rfl) (fun _ => T.n_all) PyProof.Rows.Boot.«all» (da_cons (de_so (de_lc 4 (fun _ => rfl) (fun _ => sc_same.nd) (di_rng1 (fun _ => T.n_range) (de_callB (dc_len fun _ => rfl) (fun _ => T.n_len) PyProof.Rows.Boot.«len» (da_cons (de_var 1) da_nil))) (fun _ => blkOk_by (own := [("at", 4)]) (N := n_same) (sc := defScope s_same) (by decide +kernel)) (fun _ => pg_name (i := 4) sc_same.nd rfl (Or.inl rfl)) dts_nil (de_callS (fun _ => Fo) (fun i => (xb_room (P := P) (w := w) (K := K) (mg := mg) (base := base) (N := n_same) (E := E) i.1).mono (Nat.le_refl _)) (fun _ => takes0) (fun _ => T.g_same) (fun _ => T.F_same.kp) (fun _ => T.b_same) (da_cons (de_ix (fun _ => rfl) (de_var 0) (de_var 4)) (da_cons (de_ix (fun _ => rfl) (de_var 1) (de_var 4)) da_nil))))) da_nil)))))))))))))
theorem ls_ty {M : Mm} {d : D} {xs : List D} (h : lsOf M d = some xs) : tyD M d = some .list := by
  cases d with
  | lst ys => rfl
  | ptr k =>
    unfold lsOf at h
    unfold tyD
    dsimp only at h ⊢
    cases e : M[k]? with
    | none => rw [e] at h; cases h
    | some m =>
      rw [e] at h
      cases m with
      | lst ys => rfl
      | _ => cases h
  | _ => cases h
theorem ls_sq {M : Mm} {d : D} {xs : List D} (h : lsOf M d = some xs) : sqOf M d = some xs := by
  cases d with
  | tup ys => cases h
  | _ => exact h
theorem ls_app {M t : Mm} {d : D} {xs : List D} (h : lsOf M d = some xs) : lsOf (M ++ t) d = some xs := by
  cases d with
  | lst ys => exact h
  | ptr k =>
    unfold lsOf at h ⊢
    dsimp only at h ⊢
    cases e : M[k]? with
    | none => rw [e] at h; cases h
    | some m => rw [e] at h; rw [app_at e]; exact h
  | _ => cases h
theorem sm_app {M t : Mm} : ∀ {n : Nat} {x y : D}, Sm M n x y → Sm (M ++ t) n x y
  | 0, _, _, h => (show _ ∧ _ from h)
  | n + 1, _, _, h => by
    rcases h with h | ⟨xs, ys, h1, h2, h3, h4⟩
    · exact .inl h
    · refine .inr ⟨xs, ys, ?_, h2, h3, fun i x y a b => sm_app (h4 i x y a b)⟩
      rcases h1 with ⟨a, b⟩ | h1
      · exact .inl ⟨ls_app a, ls_app b⟩
      · exact .inr h1
theorem at_map' {α : Type} {xs : List α} {j : Nat} {x : α} (h : xs[j]? = some x) : atI xs (0 + (j : Int)) = some x := by
  rw [Int.zero_add]
  exact at_nat h
theorem non_not {M : Mm} {d : D} {t : Ty} (h : tyD M d = some t) (ht : t ≠ .none) : isNon d = false := by
  cases d with
  | non => exact absurd (Option.some.inj h).symm ht
  | _ => rfl
/-- isinstance(.., T) within the text -/
theorem r_isi {M : Mm} {ρ : Ev} {Q : DK} {X : XD} {i : Nat} {d : D} {t : Ty} (k : Ty) {nm : String} (hn : nm = Ty.nm k) (h : ρ[i]? = some (some d)) (ht : tyD M d = some t) (q : Q (.bl (isa t k)) M) : dCall wIsi (dCons (dVar i) (dCons (dC (.ty nm)) dNil)) ρ M Q X := by
  subst hn
  exact ⟨d, h, d, t, k, rfl, ht, q⟩
/-- the part for lists and tuples -/
theorem p_same_99 {M M0 : Mm} {n : Nat} {x due : D} {xs ys : List D} {Qd : DK} {Xd : XD} {d2 d4 : Option D} (hw : Wf M.length M) (hl : M0.length ≤ M.length) (hx : sqOf M x = some xs) (hy : sqOf M due = some ys) (e : xs.length = ys.length) (hs : ys.length < 1000000)
    (hxa : ∀ t, sqOf (M ++ t) x = some xs) (hya : ∀ t, sqOf (M ++ t) due = some ys) (h : ∀ (i : Nat) (x y : D), xs[i]? = some x → ys[i]? = some y → Sm M n x y) (q : Qd (.bl true) M) :
    w_same_17 K w ad (F_same n) (DsF M0 Qd Xd) [some x, some due, d2, some (.bl true), d4] M := by
  refine ⟨.bl true, rfl, true, rfl, if_t rfl ?_⟩
  refine ⟨x, rfl, .inl ⟨x, xs, rfl, hx, ?_⟩⟩
  refine ⟨due, rfl, .inl ⟨due, ys, rfl, hy, ?_⟩⟩
  refine ⟨_, _, rfl, rfl, rfl, _, rfl, if_t (by rw [dec_ii, e]; simp) ?_⟩
  intro hw' hev
  refine ⟨due, rfl, .inl ⟨due, ys, rfl, hy, ?_⟩⟩
  refine ⟨_, rfl, by omega, by omega, ?_⟩
  refine lc_map (fun _ _ => .bl true) hw (fun _ => trivial) ?_ (fun _ _ _ => .bl true) ?_ (.inl ?_)
  · show (rng 0 _).length < sizeLine
    unfold rng
    rw [List.length_map, List.length_range, sizeLine_eq]
    omega
  · intro j d acc Q' hd q'
    unfold rng at hd
    rw [List.getElem?_map] at hd
    have hj : j < ys.length := by
      by_cases hj : j < ys.length
      · exact hj
      · rw [List.getElem?_eq_none (by rw [List.length_range]; omega)] at hd
        cases hd
    rw [List.getElem?_range (by omega)] at hd
    have ed := Option.some.inj hd
    subst ed
    have hj' : j < xs.length := by omega
    refine ⟨x, rfl, _, rfl, .inl ⟨xs, _, xs[j], hxa _, rfl, at_map' (List.getElem?_eq_getElem hj'), ?_⟩⟩
    refine ⟨due, rfl, _, rfl, .inl ⟨ys, _, ys[j], hya _, rfl, at_map' (List.getElem?_eq_getElem hj), ?_⟩⟩
    exact ⟨rfl, _, _, rfl, sm_app (h j _ _ (List.getElem?_eq_getElem hj') (List.getElem?_eq_getElem hj)), q'⟩
  · refine ⟨_, List.replicate ys.length true, rfl, ?_, fun w d => ?_⟩
    · show some _ = some _
      congr 1
      apply List.ext_getElem?
      intro i
      rw [List.getElem?_mapIdx, List.getElem?_map, List.getElem?_replicate]
      unfold rng
      by_cases hi : i < ys.length
      · rw [if_pos hi, List.getElem?_map, List.getElem?_range (by omega)]
        rfl
      · rw [if_neg hi, List.getElem?_map, List.getElem?_eq_none (by rw [List.length_range]; omega)]
        rfl
    · have ea : (List.replicate ys.length true).all id = true := by simp
      rw [ea] at d ⊢
      exact UpV.all hl w d q
theorem p_same_lst {M M0 : Mm} {n : Nat} {x due : D} {xs ys : List D} {Qd : DK} {Xd : XD} (hw : Wf M.length M) (hl : M0.length ≤ M.length) (h1 : (lsOf M x = some xs ∧ lsOf M due = some ys) ∨ (x = .tup xs ∧ due = .tup ys)) (e : xs.length = ys.length) (hs : ys.length < 1000000)
    (h : ∀ (i : Nat) (x y : D), xs[i]? = some x → ys[i]? = some y → Sm M n x y) (q : Qd (.bl true) M) : w_same K w ad (F_same n) (DsF M0 Qd Xd) [some x, some due, none, none, none] M := by
  have ht : ∃ t : Ty, (t = .list ∨ t = .tuple) ∧ tyD M due = some t ∧ tyD M x = some t := by
    rcases h1 with ⟨a, b⟩ | ⟨rfl, rfl⟩
    · exact ⟨.list, .inl rfl, ls_ty b, ls_ty a⟩
    · exact ⟨.tuple, .inr rfl, rfl, rfl⟩
  obtain ⟨t, tt, td, tx⟩ := ht
  have hx : ∀ t, sqOf (M ++ t) x = some xs := fun t => by
    rcases h1 with ⟨a, b⟩ | ⟨rfl, rfl⟩
    · exact ls_sq (ls_app a)
    · rfl
  have hy : ∀ t, sqOf (M ++ t) due = some ys := fun t => by
    rcases h1 with ⟨a, b⟩ | ⟨rfl, rfl⟩
    · exact ls_sq (ls_app b)
    · rfl
  have hx0 := hx []
  have hy0 := hy []
  rw [List.append_nil] at hx0 hy0
  have nt : t ≠ .none := by rcases tt with rfl | rfl <;> decide
  have go : ∀ d4, w_same_17 K w ad (F_same n) (DsF M0 Qd Xd) [some x, some due, none, some (.bl true), d4] M := fun d4 => p_same_99 hw hl hx0 hy0 e hs hx hy h q
  refine ⟨due, rfl, rfl, _, rfl, if_f (non_not td nt) ?_⟩
  refine r_isi .bool rfl rfl td ⟨_, rfl, if_f (by rcases tt with rfl | rfl <;> rfl) ?_⟩
  refine r_isi .int rfl rfl td ⟨_, rfl, if_f (by rcases tt with rfl | rfl <;> rfl) ?_⟩
  refine r_isi .str rfl rfl td ⟨_, rfl, if_f (by rcases tt with rfl | rfl <;> rfl) ?_⟩
  refine r_isi .dict rfl rfl td ⟨_, rfl, if_f (by rcases tt with rfl | rfl <;> rfl) ?_⟩
  rcases tt with rfl | rfl
  · refine r_isi .list rfl rfl td ⟨_, rfl, if_t rfl ?_⟩
    exact r_isi .list rfl rfl tx (go _)
  · refine r_isi .list rfl rfl td ⟨_, rfl, if_f rfl ?_⟩
    exact r_isi .tuple rfl rfl tx (go _)
theorem p_same_flat {M M0 : Mm} {F : FD} {x : D} {v : V} {Qd : DK} {Xd : XD} (hl : M0.length ≤ M.length) (hv : vOf x = some v) (q : Qd (.bl true) M) : w_same K w ad F (DsF M0 Qd Xd) [some x, some x, none, none, none] M := by
  have fin : ∀ b, b = true → (DsF M0 Qd Xd).rt (.bl b) M := fun b e => by
    subst e
    exact fun w d => UpV.all hl w d q
  cases x with
  | non => exact ⟨_, rfl, rfl, _, rfl, if_t rfl ⟨_, rfl, rfl, fin _ rfl⟩⟩
  | bl b =>
    refine ⟨_, rfl, rfl, _, rfl, if_f rfl ?_⟩
    refine r_isi .bool rfl rfl rfl ⟨_, rfl, if_t rfl ?_⟩
    refine r_isi .bool rfl rfl rfl ⟨_, rfl, if_t rfl ?_⟩
    exact ⟨_, rfl, _, rfl, _, _, rfl, rfl, rfl, fin _ (by simp)⟩
  | int i =>
    refine ⟨_, rfl, rfl, _, rfl, if_f rfl ?_⟩
    refine r_isi .bool rfl rfl rfl ⟨_, rfl, if_f rfl ?_⟩
    refine r_isi .int rfl rfl rfl ⟨_, rfl, if_t rfl ?_⟩
    refine r_isi .int rfl rfl rfl ⟨_, rfl, if_t rfl ?_⟩
    refine r_isi .bool rfl rfl rfl ⟨_, rfl, ⟨_, rfl, if_t rfl ?_⟩⟩
    exact ⟨_, rfl, _, rfl, _, _, rfl, rfl, rfl, fin _ (by simp)⟩
  | str i =>
    refine ⟨_, rfl, rfl, _, rfl, if_f rfl ?_⟩
    refine r_isi .bool rfl rfl rfl ⟨_, rfl, if_f rfl ?_⟩
    refine r_isi .int rfl rfl rfl ⟨_, rfl, if_f rfl ?_⟩
    refine r_isi .str rfl rfl rfl ⟨_, rfl, if_t rfl ?_⟩
    refine r_isi .str rfl rfl rfl ⟨_, rfl, if_t rfl ?_⟩
    exact ⟨_, rfl, _, rfl, _, _, rfl, rfl, rfl, fin _ (by simp)⟩
  | _ => cases hv
theorem fo_same (T : Txt P w K mg ad) : ∀ n : Nat, FnOk P w K mg base (L2.CX P w) (n + 1) ad.f_same ad.fd_same p_same (spD K 2 (F_same n))
  | 0 => by
    refine fn_d T.F_same sc_same (y_same (F := fun _ _ _ _ => False) fo_none T) fun ds M Qd Xd hl h hw hb => ?_
    obtain ⟨x, due, rfl, ⟨rfl, v, hv⟩, q⟩ := h
    exact p_same_flat (Nat.le_refl _) hv q
  | n + 1 => by
    refine fn_d T.F_same sc_same (y_same (F := F_same n) (fo_same T n) T) fun ds M Qd Xd hl h hw hb => ?_
    obtain ⟨x, due, rfl, h, q⟩ := h
    rcases h with ⟨rfl, v, hv⟩ | ⟨xs, ys, h1, h2, h3, h4⟩
    · exact p_same_flat (Nat.le_refl _) hv q
    · exact p_same_lst hw (Nat.le_refl _) h1 h2 h3 h4 q

end
end K87

namespace K87
open PySem PySem.Spec PyProof.Rows L2 DL
section
variable {P : Program} {w : World} {K : PySem.W.Frag} {mg : Str → Option Value} {base : Heap} {ad : Ad}
/-! ### the parser's object -/
abbrev Tk := Str × Nat
def tkD (t : Tk) : D := .tup [.str t.1, .int t.2]
def fmF (L : Str) (ts : List Tk) (now deep : Int) : List (Str × D) := [("letters", .str L), ("tokens", .lst (ts.map tkD)), ("now", .int now), ("deep", .int deep)]
def fmO (ad : Ad) (L : Str) (ts : List Tk) (now deep : Int) : MO := .ins ad.C_Formula (fmF L ts now deep)
/-- what every method is given -/
structure FmAt (ad : Ad) (M : Mm) (k : Nat) (L : Str) (ts : List Tk) (now deep : Nat) : Prop where
  o : M[k]? = some (fmO ad L ts now deep)
theorem FmAt.set {M : Mm} {k : Nat} {L : Str} {ts : List Tk} {now deep now' deep' : Nat} (h : FmAt ad M k L ts now deep) : FmAt ad (M.set k (fmO ad L ts now' deep')) k L ts now' deep' := ⟨set_at h.o⟩
def errF (p : Nat) : List (Str × D) := fsSD "Misread" [.int p]
/-- what a method leaves when it raises -/
def Bad (ad : Ad) (M : Mm) (k : Nat) (L : Str) (ts : List Tk) (Xd : XD) (p : Nat) : Prop := ∀ now' deep' : Nat, Xd ad.C_Misread (errF p) (M.set k (fmO ad L ts now' deep'))
theorem bad_set {M : Mm} {k : Nat} {L : Str} {ts : List Tk} {Xd : XD} {p : Nat} {o : MO} (h : Bad ad M k L ts Xd p) : Bad ad (M.set k o) k L ts Xd p := fun a b => by rw [List.set_set]; exact h a b
theorem bad_here {M : Mm} {k : Nat} {L : Str} {ts : List Tk} {now deep : Nat} {Xd : XD} {p : Nat} (h : Bad ad M k L ts Xd p) (f : FmAt ad M k L ts now deep) : Xd ad.C_Misread (errF p) M := by
  have e : M.set k (fmO ad L ts now deep) = M := by
    obtain ⟨hk, e⟩ := List.getElem?_eq_some_iff.mp f.o
    rw [← e]
    exact List.set_getElem_self hk
  have := h now deep
  rw [e] at this
  exact this
section
variable {M : Mm} {k : Nat} {L : Str} {ts : List Tk} {now deep : Nat} {Q : DK} {X : XD} {ρ : Ev}
theorem f_now (T : Txt P w K mg ad) (f : FmAt ad M k L ts now deep) (h0 : ρ[0]? = some (some (.ptr k))) (q : Q (.int now) M) : dFld K (dVar 0) "now" ρ M Q X := ⟨_, h0, k, _, _, _, rfl, f.o, T.cl_Formula, T.na_Formula_now, rfl, q⟩
theorem f_deep (T : Txt P w K mg ad) (f : FmAt ad M k L ts now deep) (h0 : ρ[0]? = some (some (.ptr k))) (q : Q (.int deep) M) : dFld K (dVar 0) "deep" ρ M Q X := ⟨_, h0, k, _, _, _, rfl, f.o, T.cl_Formula, T.na_Formula_deep, rfl, q⟩
theorem f_letters (T : Txt P w K mg ad) (f : FmAt ad M k L ts now deep) (h0 : ρ[0]? = some (some (.ptr k))) (q : Q (.str L) M) : dFld K (dVar 0) "letters" ρ M Q X := ⟨_, h0, k, _, _, _, rfl, f.o, T.cl_Formula, T.na_Formula_letters, rfl, q⟩
theorem f_tokens (T : Txt P w K mg ad) (f : FmAt ad M k L ts now deep) (h0 : ρ[0]? = some (some (.ptr k))) (q : Q (.lst (ts.map tkD)) M) : dFld K (dVar 0) "tokens" ρ M Q X := ⟨_, h0, k, _, _, _, rfl, f.o, T.cl_Formula, T.na_Formula_tokens, rfl, q⟩
theorem f_tok (T : Txt P w K mg ad) (f : FmAt ad M k L ts now deep) (h0 : ρ[0]? = some (some (.ptr k))) {t : Tk} (ht : ts[now]? = some t) (q : Q (tkD t) M) : dOp wIx (dFld K (dVar 0) "tokens") (dFld K (dVar 0) "now") ρ M Q X :=
  f_tokens T f h0 (f_now T f h0 (.inl ⟨_, _, _, rfl, rfl, at_map rfl ht, q⟩))
end
def F_next (ad : Ad) : FD := fun ds M Qd _ => ∃ k L ts now deep t, ds = [.ptr k] ∧ FmAt ad M k L ts now deep ∧ ts[now]? = some t ∧ Qd (.str t.1) M
/-! Formula.next_word -/
def w_next_1 (K : PySem.W.Frag) (w : World) (ad : Ad) : SW := dRet (dOp wIx (dOp wIx (dFld K (dVar 0) "tokens") (dFld K (dVar 0) "now")) (dC (.int 0)))
def w_next (K : PySem.W.Frag) (w : World) (ad : Ad) : SW := (w_next_1 K w ad)
theorem y_next (T : Txt P w K mg ad) (E : XK) : DSs (XB P w K mg base n_next "Formula.next_word" (defScope s_next) ad.f_next 0 E) K (WF E) (defBody s_next) (w_next K w ad) := by
  unfold w_next w_next_1
  exact (dss_one (ds_ret (de_ix (fun _ => rfl) (de_ix (fun _ => rfl) (de_fld (fun _ => rfl) (de_var 0)) (de_fld (fun _ => rfl) (de_var 0))) de_int)))
theorem fo_next (T : Txt P w K mg ad) : FnOk P w K mg base (L2.CX P w) 1 ad.f_next ad.fd_next p_next (spD K 1 (F_next ad)) := by
  refine fn_d T.F_next sc_next (y_next T) fun ds M Qd Xd hl h hw hb => ?_
  obtain ⟨k, L, ts, now, deep, t, rfl, f, ht, q⟩ := h
  refine f_tok T f rfl ht (.inl ⟨_, _, .str t.1, rfl, rfl, rfl, fun w d => ?_⟩)
  exact UpV.all (Nat.le_refl _) w d q
def F_wrong (ad : Ad) : FD := fun ds M _ Xd => ∃ k L ts now deep t, ds = [.ptr k] ∧ FmAt ad M k L ts now deep ∧ ts[now]? = some t ∧ Xd ad.C_Misread (errF t.2) M
/-! Formula.wrong -/
def w_wrong_1 (K : PySem.W.Frag) (w : World) (ad : Ad) : SW := dRaise ad.C_Misread 1 [] (fsSD "Misread") (dCons (dOp wIx (dOp wIx (dFld K (dVar 0) "tokens") (dFld K (dVar 0) "now")) (dC (.int 1))) dNil)
def w_wrong (K : PySem.W.Frag) (w : World) (ad : Ad) : SW := (w_wrong_1 K w ad)
theorem y_wrong (T : Txt P w K mg ad) (E : XK) : DSs (XB P w K mg base n_wrong "Formula.wrong" (defScope s_wrong) ad.f_wrong 3 E) K (WF E) (defBody s_wrong) (w_wrong K w ad) := by
  unfold w_wrong w_wrong_1
  exact (dss_one (ds_raise (fun _ => rfl) (fun i => xb_takes i) T.ok_Misread.2.ox (fun _ => rfl) T.i_Misread T.t_Misread (fun _ => (fo_Misread T)) T.ok_Misread (fun i => (xb_room i).mono (by decide)) (fun _ => T.b_Misread) .nil (fun _ _ _ => .nil) (fsS_ok _) (fun _ => T.g_Misread) (da_cons (de_ix (fun _ => rfl) (de_ix (fun _ => rfl) (de_fld (fun _ => rfl) (de_var 0)) (de_fld (fun _ => rfl) (de_var 0))) de_int) da_nil)))
theorem fo_wrong (T : Txt P w K mg ad) : FnOk P w K mg base (L2.CX P w) 4 ad.f_wrong ad.fd_wrong p_wrong (spD K 1 (F_wrong ad)) := by
  refine fn_d T.F_wrong sc_wrong (y_wrong T) fun ds M Qd Xd hl h hw hb => ?_
  obtain ⟨k, L, ts, now, deep, t, rfl, f, ht, q⟩ := h
  refine f_tok T f rfl ht (.inl ⟨_, _, .int t.2, rfl, rfl, rfl, ?_⟩)
  exact ⟨rfl, (show (1 : Nat) ≤ 1000 by decide), fun w d => UpX.all (Nat.le_refl _) w d q⟩
/-- calls of the two -/
theorem r_next {M : Mm} {k : Nat} {L : Str} {ts : List Tk} {now deep : Nat} {Q : DK} {X : XD} {ρ : Ev} {t : Tk} (f : FmAt ad M k L ts now deep) (h0 : ρ[0]? = some (some (.ptr k))) (ht : ts[now]? = some t) (q : Q (.str t.1) M) : dMeth ad.C_Formula "next_word" 1 (F_next ad) (dVar 0) dNil ρ M Q X :=
  ⟨_, h0, k, _, rfl, f.o, rfl, rfl, k, L, ts, now, deep, t, rfl, f, ht, q⟩
theorem r_wrong {M : Mm} {k : Nat} {L : Str} {ts : List Tk} {now deep : Nat} {Q : DK} {X : XD} {ρ : Ev} {t : Tk} (f : FmAt ad M k L ts now deep) (h0 : ρ[0]? = some (some (.ptr k))) (ht : ts[now]? = some t) (q : X ad.C_Misread (errF t.2) M) : dMeth ad.C_Formula "wrong" 1 (F_wrong ad) (dVar 0) dNil ρ M Q X :=
  ⟨_, h0, k, _, rfl, f.o, rfl, rfl, k, L, ts, now, deep, t, rfl, f, ht, q⟩
/-! ### begins -/
def atomOf (s : Str) : Option D := if s = "0" then some (.tup [.str "none"]) else if s = "1" then some (.tup [.str "empty"]) else if s = "." then some (.tup [.str "any"]) else none
theorem kat_atoms (T : Txt P w K mg ad) (s : Str) : ∃ r, KAt K w ad.K_ATOMS s r ∧ r.isSome = (atomOf s).isSome ∧ ∀ v, r = some v → ∃ d, atomOf s = some d ∧ KRp K v d := by
  unfold atomOf
  by_cases h0 : s = "0"
  · subst h0
    obtain ⟨v, a, b⟩ := T.k0_ATOMS
    exact ⟨some v, a, rfl, fun u e => by cases e; exact ⟨_, rfl, b⟩⟩
  · rw [if_neg h0]
    by_cases h1 : s = "1"
    · subst h1
      obtain ⟨v, a, b⟩ := T.k1_ATOMS
      exact ⟨some v, a, rfl, fun u e => by cases e; exact ⟨_, rfl, b⟩⟩
    · rw [if_neg h1]
      by_cases h2 : s = "."
      · subst h2
        obtain ⟨v, a, b⟩ := T.k2_ATOMS
        exact ⟨some v, a, rfl, fun u e => by cases e; exact ⟨_, rfl, b⟩⟩
      · rw [if_neg h2]
        exact ⟨none, T.kn_ATOMS s (by simp [h0, h1, h2]), rfl, fun u e => by cases e⟩
/-- whether the sign s begins a part; none: a text of more signs than one -/
def bgn (L s : Str) : Option Bool := if (atomOf s).isSome = true then some true else if s = "!" ∨ s = "(" ∨ s = "@" then some true else if s = "" then some false else match s.cps.toList with
  | [c] => some (decide (c ∈ L.cps.toList))
  | _ => none
theorem str_one {s : Str} {c : Nat} (h : s.cps.toList = [c]) : s = ⟨#[c]⟩ := by
  obtain ⟨a⟩ := s
  congr 1
  exact Array.toList_inj.mp h
def F_begins (ad : Ad) : FD := fun ds M Qd _ => ∃ k L ts now deep t b, ds = [.ptr k] ∧ FmAt ad M k L ts now deep ∧ ts[now]? = some t ∧ bgn L t.1 = some b ∧ Qd (.bl b) M
/-! Formula.begins -/
def w_begins_2 (K : PySem.W.Frag) (w : World) (ad : Ad) : SW := dRet (dOrV (dOp (wKIn K w false) (dVar 1) (dC (.kr ad.K_ATOMS))) (dOrV (dOp (wInL false) (dVar 1) (dTup (dCons (dC (.str "!")) (dCons (dC (.str "(")) (dCons (dC (.str "@")) dNil))))) (dAndV (dOp wNeF (dVar 1) (dC (.str ""))) (dOp wInS (dVar 1) (dFld K (dVar 0) "letters")))))
def w_begins_1 (K : PySem.W.Frag) (w : World) (ad : Ad) : SW := dSeq (dAsg (dMeth ad.C_Formula "next_word" 1 (F_next ad) (dVar 0) dNil) (dgName 1)) (w_begins_2 K w ad)
def w_begins (K : PySem.W.Frag) (w : World) (ad : Ad) : SW := (w_begins_1 K w ad)
theorem y_begins (T : Txt P w K mg ad) (E : XK) : DSs (XB P w K mg base n_begins "Formula.begins" (defScope s_begins) ad.f_begins 1 E) K (WF E) (defBody s_begins) (w_begins K w ad) := by
  unfold w_begins w_begins_1 w_begins_2
  exact (dss_cons (ds_set 1 (de_meth0 (de_var 0) (fun _ => T.cl_Formula) (fun _ => T.m_next) (fun _ => (fo_next T)) (fun i => (xb_room i).mono (by decide)) (fun i => xb_takes i) (fun _ => T.b_next)) (fun _ => sc_begins.nd)) (dss_one (ds_ret (de_or (de_cmp (do_kin (fun _ => rfl) fun _ => rfl) (de_var 1) (de_glob (.kr _) (fun _ => T.g_ATOMS) rfl)) (de_or (de_cmp (do_inL fun _ => rfl) (de_var 1) (de_tup (da_cons de_str (da_cons de_str (da_cons de_str da_nil))))) (de_one (de_and (de_cmp do_neF (de_var 1) de_str) (de_one (de_cmp do_inS (de_var 1) (de_fld (fun _ => rfl) (de_var 0)))))))))))
theorem fo_begins (T : Txt P w K mg ad) : FnOk P w K mg base (L2.CX P w) 2 ad.f_begins ad.fd_begins p_begins (spD K 1 (F_begins ad)) := by
  refine fn_d T.F_begins sc_begins (y_begins T) fun ds M Qd Xd hl h hw hb => ?_
  obtain ⟨k, L, ts, now, deep, t, b, rfl, f, ht, e, q⟩ := h
  have fin : ∀ b', b' = b → (DsF M Qd Xd).rt (.bl b') M := fun b' e => by
    subst e
    exact fun w d => UpV.all (Nat.le_refl _) w d q
  refine r_next f rfl ht ?_
  obtain ⟨r, ka, rs, _⟩ := kat_atoms T t.1
  refine ⟨.str t.1, rfl, t.1, ad.K_ATOMS, r, rfl, rfl, ka, _, rfl, ?_⟩
  unfold bgn at e
  show if r.isSome = true then _ else _
  rw [rs]
  by_cases ha : (atomOf t.1).isSome = true
  · rw [if_pos ha] at e ⊢
    exact fin _ (Option.some.inj e)
  rw [if_neg ha] at e ⊢
  refine ⟨.str t.1, rfl, (show (3 : Nat) ≤ sizeLine by rw [sizeLine_eq]; decide), .str t.1, _, [.str "!", .str "(", .str "@"], rfl, rfl, rfl, _, rfl, ?_⟩
  have e1 : (if false = true then !inV (.str t.1) [.str "!", .str "(", .str "@"] else inV (.str t.1) [.str "!", .str "(", .str "@"]) = decide (t.1 = "!" ∨ t.1 = "(" ∨ t.1 = "@") := by
    rw [if_neg Bool.false_ne_true]
    unfold inV
    have es : ∀ a b : Str, eqV (.str a) (.str b) = decide (b = a) := fun a b => by
      show (a == b) = _
      by_cases h : b = a
      · subst h; simp
      · have h' : ¬ a = b := fun z => h z.symm
        simp [h, h']
    simp [es]
  rw [e1]
  refine ifd (fun h1 => ?_) fun h1 => ?_
  · rw [if_pos h1] at e
    exact fin _ (Option.some.inj e)
  rw [if_neg h1] at e
  refine ⟨.str t.1, rfl, _, _, rfl, rfl, rfl, _, rfl, ?_⟩
  rw [dec_ss]
  by_cases h2 : t.1 = ""
  · rw [if_pos h2] at e
    exact if_f (by simp [h2]) (fin _ (Option.some.inj e))
  rw [if_neg h2] at e
  refine if_t (by simp [h2]) ?_
  cases hc : t.1.cps.toList with
  | nil => rw [hc] at e; cases e
  | cons c r =>
    cases r with
    | cons _ _ => rw [hc] at e; cases e
    | nil =>
      rw [hc] at e
      refine ⟨.str t.1, rfl, f_letters T f rfl ⟨c, L, by rw [str_one hc], rfl, ?_⟩⟩
      exact fin _ (Option.some.inj e)
theorem r_begins {M : Mm} {k : Nat} {L : Str} {ts : List Tk} {now deep : Nat} {Q : DK} {X : XD} {ρ : Ev} {t : Tk} {b : Bool} (f : FmAt ad M k L ts now deep) (h0 : ρ[0]? = some (some (.ptr k))) (ht : ts[now]? = some t) (e : bgn L t.1 = some b) (q : Q (.bl b) M) : dMeth ad.C_Formula "begins" 1 (F_begins ad) (dVar 0) dNil ρ M Q X :=
  ⟨_, h0, k, _, rfl, f.o, rfl, rfl, k, L, ts, now, deep, t, b, rfl, f, ht, e, q⟩
/-! ### deeper, name -/
def F_deeper (ad : Ad) : FD := fun ds M Qd Xd => ∃ k L ts now deep t, ds = [.ptr k] ∧ FmAt ad M k L ts now deep ∧ ts[now]? = some t ∧ deep ≤ 60 ∧ (deep = 60 → Xd ad.C_Misread (errF t.2) M) ∧ (deep < 60 → Qd .non (M.set k (fmO ad L ts (now + 1 : Nat) (deep + 1 : Nat))))
/-! Formula.deeper -/
def w_deeper_2 (K : PySem.W.Frag) (w : World) (ad : Ad) : SW := dDrop (dMeth ad.C_Formula "wrong" 1 (F_wrong ad) (dVar 0) dNil)
def w_deeper_4 (K : PySem.W.Frag) (w : World) (ad : Ad) : SW := dAugF K (dVar 0) (dC (.int 1)) "now" wAddI
def w_deeper_3 (K : PySem.W.Frag) (w : World) (ad : Ad) : SW := dSeq (dAugF K (dVar 0) (dC (.int 1)) "deep" wAddI) (w_deeper_4 K w ad)
def w_deeper_1 (K : PySem.W.Frag) (w : World) (ad : Ad) : SW := dSeq (dIf (dTest (dOp wEqF (dFld K (dVar 0) "deep") (dC (.int 60)))) (w_deeper_2 K w ad) dNext) (w_deeper_3 K w ad)
def w_deeper (K : PySem.W.Frag) (w : World) (ad : Ad) : SW := (w_deeper_1 K w ad)
theorem y_deeper (T : Txt P w K mg ad) (E : XK) : DSs (XB P w K mg base n_deeper "Formula.deeper" (defScope s_deeper) ad.f_deeper 4 E) K (WF E) (defBody s_deeper) (w_deeper K w ad) := by
  unfold w_deeper w_deeper_1 w_deeper_3 w_deeper_4 w_deeper_2
  exact (dss_cons (ds_if (dt_cmp do_eqF (de_fld (fun _ => rfl) (de_var 0)) (de_glob (.int 60) (fun _ => T.g_DEEPEST) T.r_DEEPEST)) (dss_one (ds_expr (de_meth0 (de_var 0) (fun _ => T.cl_Formula) (fun _ => T.m_wrong) (fun _ => (fo_wrong T)) (fun i => (xb_room i).mono (by decide)) (fun i => xb_takes i) (fun _ => T.b_wrong)))) dss_nil) (dss_cons (ds_augF (fun _ => rfl) (de_var 0) de_int di_add) (dss_one (ds_augF (fun _ => rfl) (de_var 0) de_int di_add))))
theorem r_incn (T : Txt P w K mg ad) {M : Mm} {k : Nat} {L : Str} {ts : List Tk} {now deep : Nat} {De : Ds} {ρ : Ev} (f : FmAt ad M k L ts now deep) (h0 : ρ[0]? = some (some (.ptr k))) (q : De.nx ρ (M.set k (fmO ad L ts (now + 1 : Nat) deep))) : dAugF K (dVar 0) (dC (.int 1)) "now" wAddI De ρ M :=
  ⟨_, h0, k, _, _, _, rfl, f.o, T.cl_Formula, T.na_Formula_now, rfl, _, _, rfl, rfl, trivial, _, f.o, (show (4 : Nat) < 1000 by decide), q⟩
theorem r_incd (T : Txt P w K mg ad) {M : Mm} {k : Nat} {L : Str} {ts : List Tk} {now deep : Nat} {De : Ds} {ρ : Ev} (f : FmAt ad M k L ts now deep) (h0 : ρ[0]? = some (some (.ptr k))) (q : De.nx ρ (M.set k (fmO ad L ts now (deep + 1 : Nat)))) : dAugF K (dVar 0) (dC (.int 1)) "deep" wAddI De ρ M :=
  ⟨_, h0, k, _, _, _, rfl, f.o, T.cl_Formula, T.na_Formula_deep, rfl, _, _, rfl, rfl, trivial, _, f.o, (show (4 : Nat) < 1000 by decide), q⟩
theorem r_decd (T : Txt P w K mg ad) {M : Mm} {k : Nat} {L : Str} {ts : List Tk} {now deep : Nat} {De : Ds} {ρ : Ev} (f : FmAt ad M k L ts now (deep + 1)) (h0 : ρ[0]? = some (some (.ptr k))) (q : De.nx ρ (M.set k (fmO ad L ts now deep))) : dAugF K (dVar 0) (dC (.int 1)) "deep" wSub De ρ M :=
  ⟨_, h0, k, _, _, _, rfl, f.o, T.cl_Formula, T.na_Formula_deep, rfl, _, _, rfl, rfl, trivial, _, f.o, (show (4 : Nat) < 1000 by decide), by
    have e : ((deep + 1 : Nat) : Int) - 1 = deep := by omega
    show De.nx ρ (M.set k (fmO ad L ts now (((deep + 1 : Nat) : Int) - 1)))
    rw [e]
    exact q⟩
theorem fo_deeper (T : Txt P w K mg ad) : FnOk P w K mg base (L2.CX P w) 5 ad.f_deeper ad.fd_deeper p_deeper (spD K 1 (F_deeper ad)) := by
  refine fn_d T.F_deeper sc_deeper (y_deeper T) fun ds M Qd Xd hl h hw hb => ?_
  obtain ⟨k, L, ts, now, deep, t, rfl, f, ht, hd, q1, q2⟩ := h
  refine f_deep (X := fun _ _ _ => True) T f rfl ⟨_, _, rfl, rfl, rfl, _, rfl, ?_⟩
  rw [dec_ii]
  refine ifd (fun e => ?_) fun e => ?_
  · exact r_wrong f rfl ht fun w d => UpX.all (Nat.le_refl _) w d (q1 (by omega))
  · refine r_incd T f rfl (r_incn T f.set rfl ?_)
    rw [List.set_set]
    exact fun w => UpV.all (by rw [List.length_set]; exact Nat.le_refl _) w .non (q2 (by omega))

end
end K87

namespace K87
open PySem PySem.Spec PyProof.Rows L2 DL
section
variable {P : Program} {w : World} {K : PySem.W.Frag} {mg : Str → Option Value} {base : Heap} {ad : Ad}
/-! ### the parser as a plain function -/
abbrev Res := Except Nat (D × Nat)
def andR (r : Option Res) (f : D → Nat → Option Res) : Option Res := match r with
  | none => none
  | some (.error p) => some (.error p)
  | some (.ok x) => f x.1 x.2
/-- a sign and a part, again and again -/
def loopB (ts : List Tk) (sign word : Str) (sub : Nat → Option Res) : Nat → D → Nat → Option Res
  | 0, _, _ => none
  | f + 1, d, now => match ts[now]? with
    | none => none
    | some t => if t.1 = sign then andR (sub (now + 1)) (fun e n => loopB ts sign word sub f (.tup [.str word, d, e]) n) else some (.ok (d, now))
def loopR (L : Str) (ts : List Tk) (sub : Nat → Option Res) : Nat → D → Nat → Option Res
  | 0, _, _ => none
  | f + 1, d, now => match ts[now]? with
    | none => none
    | some t => match bgn L t.1 with
      | none => none
      | some true => andR (sub now) (fun e n => loopR L ts sub f (.tup [.str "row", d, e]) n)
      | some false => some (.ok (d, now))
def loopS (ts : List Tk) : Nat → D → Nat → Option Res
  | 0, _, _ => none
  | f + 1, d, now => match ts[now]? with
    | none => none
    | some t => if t.1 = "*" then loopS ts f (.tup [.str "star", d]) (now + 1) else some (.ok (d, now))
abbrev Par := Str → List Tk → Nat → Nat → Option Res
def pRows (h : Par) : Par := fun L ts deep now => andR (h L ts deep now) fun d n => loopR L ts (h L ts deep) (ts.length + 1) d n
def pAnds (h : Par) : Par := fun L ts deep now => andR (pRows h L ts deep now) fun d n => loopB ts "&" "and" (pRows h L ts deep) (ts.length + 1) d n
def pOrs (h : Par) : Par := fun L ts deep now => andR (pAnds h L ts deep now) fun d n => loopB ts "|" "or" (pAnds h L ts deep) (ts.length + 1) d n
/-- what a method of the ring promises -/
def F_ring (ad : Ad) (p : Par) : FD := fun ds M Qd Xd => ∃ k L ts now deep r, ds = [.ptr k] ∧ FmAt ad M k L ts now deep ∧ deep ≤ 60 ∧ p L ts deep now = some r ∧ match r with
  | .ok x => Qd x.1 (M.set k (fmO ad L ts x.2 deep))
  | .error q => Bad ad M k L ts Xd q
theorem r_ring {M : Mm} {k : Nat} {L : Str} {ts : List Tk} {now deep : Nat} {Q : DK} {X : XD} {ρ : Ev} {p : Par} {m : Str} {r' : Res} (g : D → Nat → Option Res) (hm : (fmF L ts now deep).lookup m = none) (f : FmAt ad M k L ts now deep) (hd : deep ≤ 60) (h0 : ρ[0]? = some (some (.ptr k)))
    (e : andR (p L ts deep now) g = some r') (q1 : ∀ d n, g d n = some r' → Q d (M.set k (fmO ad L ts n deep))) (q2 : ∀ e, r' = .error e → Bad ad M k L ts X e) : dMeth ad.C_Formula m 1 (F_ring ad p) (dVar 0) dNil ρ M Q X := by
  refine ⟨_, h0, k, _, rfl, f.o, hm, rfl, k, L, ts, now, deep, ?_⟩
  cases h : p L ts deep now with
  | none => rw [h] at e; cases e
  | some r =>
    refine ⟨r, rfl, f, hd, rfl, ?_⟩
    rw [h] at e
    cases r with
    | error p => exact q2 p (Option.some.inj e).symm
    | ok x => exact q1 _ _ e
/-! Formula.ors -/
def w_ors_4 (K : PySem.W.Frag) (w : World) (ad : Ad) (Fands : FD) : SW := dAsg (dTup (dCons (dC (.str "or")) (dCons (dVar 1) (dCons (dMeth ad.C_Formula "ands" 1 Fands (dVar 0) dNil) dNil)))) (dgName 1)
def w_ors_3 (K : PySem.W.Frag) (w : World) (ad : Ad) (Fands : FD) : SW := dSeq (dAugF K (dVar 0) (dC (.int 1)) "now" wAddI) (w_ors_4 K w ad Fands)
def w_ors_5 (K : PySem.W.Frag) (w : World) (ad : Ad) (Fands : FD) : SW := dRet (dVar 1)
def w_ors_2 (K : PySem.W.Frag) (w : World) (ad : Ad) (Fands : FD) : SW := dSeq (dWhile (dTest (dOp wEqF (dMeth ad.C_Formula "next_word" 1 (F_next ad) (dVar 0) dNil) (dC (.str "|")))) (dThen (w_ors_3 K w ad Fands))) (w_ors_5 K w ad Fands)
def w_ors_1 (K : PySem.W.Frag) (w : World) (ad : Ad) (Fands : FD) : SW := dSeq (dAsg (dMeth ad.C_Formula "ands" 1 Fands (dVar 0) dNil) (dgName 1)) (w_ors_2 K w ad Fands)
def w_ors (K : PySem.W.Frag) (w : World) (ad : Ad) (Fands : FD) : SW := (w_ors_1 K w ad Fands)
theorem y_ors {Fands : FD} {n : Nat} (Foands : FnL P w K mg base (n + 5) ad.f_ands ad.fd_ands p_ands (spD K 1 Fands)) (T : Txt P w K mg ad) (E : XK) : DSs (XBR P w K mg base n_ors "Formula.ors" (defScope s_ors) ad.f_ors (RoomL (n + 5)) E) K (WF E) (defBody s_ors) (w_ors K w ad Fands) := by
  unfold w_ors w_ors_1 w_ors_2 w_ors_5 w_ors_3 w_ors_4
  exact (dss_cons (ds_set 1 (de_methL0 (de_var 0) (fun _ => T.cl_Formula) (fun _ => T.m_ands) (fun _ => Foands) (fun i => (xbr_room i).mono (by omega)) (fun i => xbr_takes i) (fun _ => T.b_ands)) (fun _ => sc_ors.nd)) (dss_cons (ds_while (fun i => xbr_passes i) (dt_cmp do_eqF (de_meth0 (de_var 0) (fun _ => T.cl_Formula) (fun _ => T.m_next) (fun _ => (fo_next T)) (fun i => (xbr_room i).room (by decide)) (fun i => xbr_takes i) (fun _ => T.b_next)) de_str) (dss_then (dss_cons (ds_augF (fun _ => rfl) (de_var 0) de_int di_add) (dss_one (ds_set 1 (de_tup (da_cons de_str (da_cons (de_var 1) (da_cons (de_methL0 (de_var 0) (fun _ => T.cl_Formula) (fun _ => T.m_ands) (fun _ => Foands) (fun i => (xbr_room i).mono (by omega)) (fun i => xbr_takes i) (fun _ => T.b_ands)) da_nil)))) (fun _ => sc_ors.nd)))))) (dss_one (ds_ret (de_var 1)))))
theorem fo_ors' {h : Par} {n : Nat} (T : Txt P w K mg ad) (Fo : FnL P w K mg base (n + 5) ad.f_ands ad.fd_ands p_ands (spD K 1 (F_ring ad (pAnds h)))) : FnL P w K mg base (n + 6) ad.f_ors ad.fd_ors p_ors (spD K 1 (F_ring ad (pOrs h))) := by
  refine fn_l T.F_ors sc_ors (y_ors Fo T) fun ds M Qd Xd hl hh hw hb => ?_
  obtain ⟨k, L, ts, now, deep, r, rfl, f, hd, e, q⟩ := hh
  have qX : ∀ p, r = .error p → Bad ad M k L ts (fun C fs M1 => (DsF M Qd Xd).ex C fs [some (.ptr k)] M1) p := fun p ep a b w d => by
    subst ep
    exact UpX.all (by rw [List.length_set]; exact Nat.le_refl _) w d (q a b)
  refine r_ring _ rfl f hd rfl e (fun d n e1 => ?_) qX
  refine ⟨fun m ρ' M' => ∃ (now : Nat) (d : D), ρ' = [some (.ptr k), some d] ∧ M' = M.set k (fmO ad L ts now deep) ∧ loopB ts "|" "or" (pAnds h L ts deep) m d now = some r, ⟨_, n, d, rfl, rfl, e1⟩, ?_⟩
  rintro m ρ1 M1 ⟨now1, d1, rfl, rfl, e2⟩
  have f1 : FmAt ad (M.set k (fmO ad L ts now1 deep)) k L ts now1 deep := f.set
  cases m with
  | zero => cases e2
  | succ m =>
    unfold loopB at e2
    cases ht : ts[now1]? with
    | none => rw [ht] at e2; cases e2
    | some t =>
      rw [ht] at e2
      dsimp only at e2
      refine r_next f1 rfl ht ⟨_, _, rfl, rfl, rfl, _, rfl, ?_⟩
      rw [dec_ss]
      refine ifd (fun es => ?_) fun es => ?_
      · rw [if_pos es] at e2
        refine r_incn T f1 rfl ?_
        rw [List.set_set]
        have f2 : FmAt ad (M.set k (fmO ad L ts (now1 + 1 : Nat) deep)) k L ts (now1 + 1) deep := f.set
        refine ⟨d1, rfl, ?_⟩
        refine r_ring _ rfl f2 hd rfl e2 (fun d n e3 => ?_) fun p ep => bad_set (qX p ep)
        rw [List.set_set]
        exact ⟨(show (3 : Nat) ≤ sizeLine by rw [sizeLine_eq]; decide), fun w' ev => Up.all (by simp) w' ev ⟨m, Nat.lt_succ_self m, n, _, rfl, rfl, e3⟩⟩
      · rw [if_neg es] at e2
        have er := Option.some.inj e2
        subst er
        exact ⟨_, rfl, fun w' d => UpV.all (by simp) w' d q⟩

end
end K87

namespace K87
open PySem PySem.Spec PyProof.Rows L2 DL
section
variable {P : Program} {w : World} {K : PySem.W.Frag} {mg : Str → Option Value} {base : Heap} {ad : Ad}
/-! Formula.ands -/
def w_ands_4 (K : PySem.W.Frag) (w : World) (ad : Ad) (Frows : FD) : SW := dAsg (dTup (dCons (dC (.str "and")) (dCons (dVar 1) (dCons (dMeth ad.C_Formula "rows" 1 Frows (dVar 0) dNil) dNil)))) (dgName 1)
def w_ands_3 (K : PySem.W.Frag) (w : World) (ad : Ad) (Frows : FD) : SW := dSeq (dAugF K (dVar 0) (dC (.int 1)) "now" wAddI) (w_ands_4 K w ad Frows)
def w_ands_5 (K : PySem.W.Frag) (w : World) (ad : Ad) (Frows : FD) : SW := dRet (dVar 1)
def w_ands_2 (K : PySem.W.Frag) (w : World) (ad : Ad) (Frows : FD) : SW := dSeq (dWhile (dTest (dOp wEqF (dMeth ad.C_Formula "next_word" 1 (F_next ad) (dVar 0) dNil) (dC (.str "&")))) (dThen (w_ands_3 K w ad Frows))) (w_ands_5 K w ad Frows)
def w_ands_1 (K : PySem.W.Frag) (w : World) (ad : Ad) (Frows : FD) : SW := dSeq (dAsg (dMeth ad.C_Formula "rows" 1 Frows (dVar 0) dNil) (dgName 1)) (w_ands_2 K w ad Frows)
def w_ands (K : PySem.W.Frag) (w : World) (ad : Ad) (Frows : FD) : SW := (w_ands_1 K w ad Frows)
theorem y_ands {Frows : FD} {n : Nat} (Forows : FnL P w K mg base (n + 5) ad.f_rows ad.fd_rows p_rows (spD K 1 Frows)) (T : Txt P w K mg ad) (E : XK) : DSs (XBR P w K mg base n_ands "Formula.ands" (defScope s_ands) ad.f_ands (RoomL (n + 5)) E) K (WF E) (defBody s_ands) (w_ands K w ad Frows) := by
  unfold w_ands w_ands_1 w_ands_2 w_ands_5 w_ands_3 w_ands_4
  exact (dss_cons (ds_set 1 (de_methL0 (de_var 0) (fun _ => T.cl_Formula) (fun _ => T.m_rows) (fun _ => Forows) (fun i => (xbr_room i).mono (by omega)) (fun i => xbr_takes i) (fun _ => T.b_rows)) (fun _ => sc_ands.nd)) (dss_cons (ds_while (fun i => xbr_passes i) (dt_cmp do_eqF (de_meth0 (de_var 0) (fun _ => T.cl_Formula) (fun _ => T.m_next) (fun _ => (fo_next T)) (fun i => (xbr_room i).room (by decide)) (fun i => xbr_takes i) (fun _ => T.b_next)) de_str) (dss_then (dss_cons (ds_augF (fun _ => rfl) (de_var 0) de_int di_add) (dss_one (ds_set 1 (de_tup (da_cons de_str (da_cons (de_var 1) (da_cons (de_methL0 (de_var 0) (fun _ => T.cl_Formula) (fun _ => T.m_rows) (fun _ => Forows) (fun i => (xbr_room i).mono (by omega)) (fun i => xbr_takes i) (fun _ => T.b_rows)) da_nil)))) (fun _ => sc_ands.nd)))))) (dss_one (ds_ret (de_var 1)))))
theorem fo_ands' {h : Par} {n : Nat} (T : Txt P w K mg ad) (Fo : FnL P w K mg base (n + 5) ad.f_rows ad.fd_rows p_rows (spD K 1 (F_ring ad (pRows h)))) : FnL P w K mg base (n + 6) ad.f_ands ad.fd_ands p_ands (spD K 1 (F_ring ad (pAnds h))) := by
  refine fn_l T.F_ands sc_ands (y_ands Fo T) fun ds M Qd Xd hl hh hw hb => ?_
  obtain ⟨k, L, ts, now, deep, r, rfl, f, hd, e, q⟩ := hh
  have qX : ∀ p, r = .error p → Bad ad M k L ts (fun C fs M1 => (DsF M Qd Xd).ex C fs [some (.ptr k)] M1) p := fun p ep a b w d => by
    subst ep
    exact UpX.all (by rw [List.length_set]; exact Nat.le_refl _) w d (q a b)
  refine r_ring _ rfl f hd rfl e (fun d n e1 => ?_) qX
  refine ⟨fun m ρ' M' => ∃ (now : Nat) (d : D), ρ' = [some (.ptr k), some d] ∧ M' = M.set k (fmO ad L ts now deep) ∧ loopB ts "&" "and" (pRows h L ts deep) m d now = some r, ⟨_, n, d, rfl, rfl, e1⟩, ?_⟩
  rintro m ρ1 M1 ⟨now1, d1, rfl, rfl, e2⟩
  have f1 : FmAt ad (M.set k (fmO ad L ts now1 deep)) k L ts now1 deep := f.set
  cases m with
  | zero => cases e2
  | succ m =>
    unfold loopB at e2
    cases ht : ts[now1]? with
    | none => rw [ht] at e2; cases e2
    | some t =>
      rw [ht] at e2
      dsimp only at e2
      refine r_next f1 rfl ht ⟨_, _, rfl, rfl, rfl, _, rfl, ?_⟩
      rw [dec_ss]
      refine ifd (fun es => ?_) fun es => ?_
      · rw [if_pos es] at e2
        refine r_incn T f1 rfl ?_
        rw [List.set_set]
        have f2 : FmAt ad (M.set k (fmO ad L ts (now1 + 1 : Nat) deep)) k L ts (now1 + 1) deep := f.set
        refine ⟨d1, rfl, ?_⟩
        refine r_ring _ rfl f2 hd rfl e2 (fun d n e3 => ?_) fun p ep => bad_set (qX p ep)
        rw [List.set_set]
        exact ⟨(show (3 : Nat) ≤ sizeLine by rw [sizeLine_eq]; decide), fun w' ev => Up.all (by simp) w' ev ⟨m, Nat.lt_succ_self m, n, _, rfl, rfl, e3⟩⟩
      · rw [if_neg es] at e2
        have er := Option.some.inj e2
        subst er
        exact ⟨_, rfl, fun w' d => UpV.all (by simp) w' d q⟩
/-! Formula.rows -/
def w_rows_3 (K : PySem.W.Frag) (w : World) (ad : Ad) (Fhead : FD) : SW := dAsg (dTup (dCons (dC (.str "row")) (dCons (dVar 1) (dCons (dMeth ad.C_Formula "head" 1 Fhead (dVar 0) dNil) dNil)))) (dgName 1)
def w_rows_4 (K : PySem.W.Frag) (w : World) (ad : Ad) (Fhead : FD) : SW := dRet (dVar 1)
def w_rows_2 (K : PySem.W.Frag) (w : World) (ad : Ad) (Fhead : FD) : SW := dSeq (dWhile (dTest (dMeth ad.C_Formula "begins" 1 (F_begins ad) (dVar 0) dNil)) (dThen (w_rows_3 K w ad Fhead))) (w_rows_4 K w ad Fhead)
def w_rows_1 (K : PySem.W.Frag) (w : World) (ad : Ad) (Fhead : FD) : SW := dSeq (dAsg (dMeth ad.C_Formula "head" 1 Fhead (dVar 0) dNil) (dgName 1)) (w_rows_2 K w ad Fhead)
def w_rows (K : PySem.W.Frag) (w : World) (ad : Ad) (Fhead : FD) : SW := (w_rows_1 K w ad Fhead)
theorem y_rows {Fhead : FD} {n : Nat} (Fohead : FnL P w K mg base (n + 5) ad.f_head ad.fd_head p_head (spD K 1 Fhead)) (T : Txt P w K mg ad) (E : XK) : DSs (XBR P w K mg base n_rows "Formula.rows" (defScope s_rows) ad.f_rows (RoomL (n + 5)) E) K (WF E) (defBody s_rows) (w_rows K w ad Fhead) := by
  unfold w_rows w_rows_1 w_rows_2 w_rows_4 w_rows_3
  exact (dss_cons (ds_set 1 (de_methL0 (de_var 0) (fun _ => T.cl_Formula) (fun _ => T.m_head) (fun _ => Fohead) (fun i => (xbr_room i).mono (by omega)) (fun i => xbr_takes i) (fun _ => T.b_head)) (fun _ => sc_rows.nd)) (dss_cons (ds_while (fun i => xbr_passes i) (dt_val (de_meth0 (de_var 0) (fun _ => T.cl_Formula) (fun _ => T.m_begins) (fun _ => (fo_begins T)) (fun i => (xbr_room i).room (by decide)) (fun i => xbr_takes i) (fun _ => T.b_begins))) (dss_then (dss_one (ds_set 1 (de_tup (da_cons de_str (da_cons (de_var 1) (da_cons (de_methL0 (de_var 0) (fun _ => T.cl_Formula) (fun _ => T.m_head) (fun _ => Fohead) (fun i => (xbr_room i).mono (by omega)) (fun i => xbr_takes i) (fun _ => T.b_head)) da_nil)))) (fun _ => sc_rows.nd))))) (dss_one (ds_ret (de_var 1)))))
theorem fo_rows' {h : Par} {n : Nat} (T : Txt P w K mg ad) (Fo : FnL P w K mg base (n + 5) ad.f_head ad.fd_head p_head (spD K 1 (F_ring ad (h)))) : FnL P w K mg base (n + 6) ad.f_rows ad.fd_rows p_rows (spD K 1 (F_ring ad (pRows h))) := by
  refine fn_l T.F_rows sc_rows (y_rows Fo T) fun ds M Qd Xd hl hh hw hb => ?_
  obtain ⟨k, L, ts, now, deep, r, rfl, f, hd, e, q⟩ := hh
  have qX : ∀ p, r = .error p → Bad ad M k L ts (fun C fs M1 => (DsF M Qd Xd).ex C fs [some (.ptr k)] M1) p := fun p ep a b w d => by
    subst ep
    exact UpX.all (by rw [List.length_set]; exact Nat.le_refl _) w d (q a b)
  refine r_ring _ rfl f hd rfl e (fun d n e1 => ?_) qX
  refine ⟨fun m ρ' M' => ∃ (now : Nat) (d : D), ρ' = [some (.ptr k), some d] ∧ M' = M.set k (fmO ad L ts now deep) ∧ loopR L ts (h L ts deep) m d now = some r, ⟨_, n, d, rfl, rfl, e1⟩, ?_⟩
  rintro m ρ1 M1 ⟨now1, d1, rfl, rfl, e2⟩
  have f1 : FmAt ad (M.set k (fmO ad L ts now1 deep)) k L ts now1 deep := f.set
  cases m with
  | zero => cases e2
  | succ m =>
    unfold loopR at e2
    cases ht : ts[now1]? with
    | none => rw [ht] at e2; cases e2
    | some t =>
      rw [ht] at e2
      dsimp only at e2
      cases eb : bgn L t.1 with
      | none => rw [eb] at e2; cases e2
      | some b =>
        rw [eb] at e2
        refine r_begins f1 rfl ht eb ⟨_, rfl, ?_⟩
        cases b with
        | true =>
          refine if_t rfl ⟨d1, rfl, ?_⟩
          refine r_ring _ rfl f1 hd rfl e2 (fun d n e3 => ?_) fun p ep => bad_set (qX p ep)
          rw [List.set_set]
          exact ⟨(show (3 : Nat) ≤ sizeLine by rw [sizeLine_eq]; decide), fun w' ev => Up.all (by simp) w' ev ⟨m, Nat.lt_succ_self m, n, _, rfl, rfl, e3⟩⟩
        | false =>
          have er := Option.some.inj e2
          subst er
          exact if_f rfl ⟨_, rfl, fun w' d => UpV.all (by simp) w' d q⟩

end
end K87

namespace K87
open PySem PySem.Spec PyProof.Rows L2 DL
section
variable {P : Program} {w : World} {K : PySem.W.Frag} {mg : Str → Option Value} {base : Heap} {ad : Ad}
/-! ### name, atom, head -/
def abc : Str := "abcdefghijklmnopqrstuvwxyz"
def nmOk (s : Str) : Bool := match s.cps.toList with
  | [] => false
  | c :: _ => decide (c ∈ abc.cps.toList) && decide (s.length ≤ 12)
def F_name (ad : Ad) : FD := fun ds M Qd Xd => ∃ k L ts now deep t, ds = [.ptr k] ∧ FmAt ad M k L ts now deep ∧ ts[now]? = some t ∧ t.1.length ≤ sizeLine ∧ (nmOk t.1 = true → Qd (.str t.1) (M.set k (fmO ad L ts (now + 1 : Nat) deep))) ∧ (nmOk t.1 = false → Bad ad M k L ts Xd t.2)
/-! Formula.name -/
def w_name_3 (K : PySem.W.Frag) (w : World) (ad : Ad) : SW := dDrop (dMeth ad.C_Formula "wrong" 1 (F_wrong ad) (dVar 0) dNil)
def w_name_5 (K : PySem.W.Frag) (w : World) (ad : Ad) : SW := dRet (dVar 1)
def w_name_4 (K : PySem.W.Frag) (w : World) (ad : Ad) : SW := dSeq (dAugF K (dVar 0) (dC (.int 1)) "now" wAddI) (w_name_5 K w ad)
def w_name_2 (K : PySem.W.Frag) (w : World) (ad : Ad) : SW := dSeq (dIf (dOr (dTest (dOp wEqF (dVar 1) (dC (.str "")))) (dOr (dTest (dOp wNotInS (dOp wIx (dVar 1) (dC (.int 0))) (dC (.str "abcdefghijklmnopqrstuvwxyz")))) (dTest (dOp wGt (dCall wLen (dCons (dVar 1) dNil)) (dC (.int 12)))))) (w_name_3 K w ad) dNext) (w_name_4 K w ad)
def w_name_1 (K : PySem.W.Frag) (w : World) (ad : Ad) : SW := dSeq (dAsg (dMeth ad.C_Formula "next_word" 1 (F_next ad) (dVar 0) dNil) (dgName 1)) (w_name_2 K w ad)
def w_name (K : PySem.W.Frag) (w : World) (ad : Ad) : SW := (w_name_1 K w ad)
theorem y_name (T : Txt P w K mg ad) (E : XK) : DSs (XB P w K mg base n_name "Formula.name" (defScope s_name) ad.f_name 4 E) K (WF E) (defBody s_name) (w_name K w ad) := by
  unfold w_name w_name_1 w_name_2 w_name_4 w_name_5 w_name_3
  exact (dss_cons (ds_set 1 (de_meth0 (de_var 0) (fun _ => T.cl_Formula) (fun _ => T.m_next) (fun _ => (fo_next T)) (fun i => (xb_room i).mono (by decide)) (fun i => xb_takes i) (fun _ => T.b_next)) (fun _ => sc_name.nd)) (dss_cons (ds_if (dpw_pt (dpw_or (dt_cmp do_eqF (de_var 1) de_str) (dpw_or (dt_cmp do_notInS (de_ix (fun _ => rfl) (de_var 1) de_int) (de_glob (.str "abcdefghijklmnopqrstuvwxyz") (fun _ => T.g_ALPHABET) T.r_ALPHABET)) (dpw_or1 (dt_cmp do_gt (de_callB (dc_len fun _ => rfl) (fun _ => T.n_len) PyProof.Rows.Boot.«len» (da_cons (de_var 1) da_nil)) (de_glob (.int 12) (fun _ => T.g_LONGEST_NAME) T.r_LONGEST_NAME)))))) (dss_one (ds_expr (de_meth0 (de_var 0) (fun _ => T.cl_Formula) (fun _ => T.m_wrong) (fun _ => (fo_wrong T)) (fun i => (xb_room i).mono (by decide)) (fun i => xb_takes i) (fun _ => T.b_wrong)))) dss_nil) (dss_cons (ds_augF (fun _ => rfl) (de_var 0) de_int di_add) (dss_one (ds_ret (de_var 1))))))
theorem fo_name (T : Txt P w K mg ad) : FnOk P w K mg base (L2.CX P w) 5 ad.f_name ad.fd_name p_name (spD K 1 (F_name ad)) := by
  refine fn_d T.F_name sc_name (y_name T) fun ds M Qd Xd hl h hw hb => ?_
  obtain ⟨k, L, ts, now, deep, t, rfl, f, ht, hs, q1, q2⟩ := h
  have bad : nmOk t.1 = false → w_name_3 K w ad { DsF M Qd Xd with nx := fun ρ' M' => w_name_4 K w ad (DsF M Qd Xd) ρ' M' } [some (.ptr k), some (.str t.1)] M := fun e =>
    r_wrong f rfl ht fun w d => UpX.all (Nat.le_refl _) w d (bad_here (q2 e) f)
  refine r_next f rfl ht ⟨.str t.1, rfl, _, _, rfl, rfl, rfl, _, rfl, ?_⟩
  rw [dec_ss]
  refine ifd (fun e => bad (by rw [e]; rfl)) fun e => ?_
  cases hc : t.1.cps.toList with
  | nil =>
    have str0 : ∀ s : Str, s.cps.toList = [] → s = "" := fun s h => by
      obtain ⟨a⟩ := s
      have : a = #[] := Array.toList_inj.mp h
      rw [this]
      rfl
    exact absurd (str0 _ hc) e
  | cons c r =>
    have en : nmOk t.1 = (decide (c ∈ abc.cps.toList) && decide (t.1.length ≤ 12)) := by unfold nmOk; rw [hc]
    refine ⟨.str t.1, rfl, .inr ⟨t.1, 0, c, rfl, rfl, hs, by rw [hc]; exact at_nat (xs := c :: r) (i := 0) rfl, c, abc, rfl, rfl, _, rfl, ?_⟩⟩
    by_cases h1 : c ∈ abc.cps.toList
    · refine if_f (by simp [h1]) ?_
      refine ⟨.str t.1, rfl, .inr ⟨t.1, rfl, hs, ⟨_, _, rfl, rfl, trivial, _, rfl, ifd (fun h2 => ?_) fun h2 => ?_⟩⟩⟩
      · refine bad ?_
        rw [en]
        have : ¬ t.1.length ≤ 12 := by omega
        simp [this]
      · refine r_incn T f rfl ⟨_, rfl, fun w d => UpV.all (by simp) w d (q1 ?_)⟩
        rw [en]
        have : t.1.length ≤ 12 := by omega
        simp [this, h1]
    · refine if_t (by simp [h1]) (bad (by rw [en]; simp [h1]))
def pAtom (o : Par) : Par := fun L ts deep now => match ts[now]? with
  | none => none
  | some t => if t.1 = "(" then (if deep = 60 then some (.error t.2) else andR (o L ts (deep + 1) (now + 1)) fun d n => match ts[n]? with
      | none => none
      | some u => if u.1 = ")" then some (.ok (d, n + 1)) else some (.error u.2))
    else match bgn L t.1 with
      | none => none
      | some false => some (.error t.2)
      | some true => if t.1 = "@" then (match ts[now + 1]? with
          | none => none
          | some u => if sizeLine < u.1.length then none else if nmOk u.1 = true then some (.ok (.tup [.str "name", .str u.1], now + 2)) else some (.error u.2))
        else some (.ok ((atomOf t.1).getD (.tup [.str "letter", .str t.1]), now + 1))
theorem r_deeper {M : Mm} {k : Nat} {L : Str} {ts : List Tk} {now deep : Nat} {Q : DK} {X : XD} {ρ : Ev} {t : Tk} (f : FmAt ad M k L ts now deep) (h0 : ρ[0]? = some (some (.ptr k))) (ht : ts[now]? = some t) (hd : deep ≤ 60) (q1 : deep = 60 → X ad.C_Misread (errF t.2) M) (q2 : deep < 60 → Q .non (M.set k (fmO ad L ts (now + 1 : Nat) (deep + 1 : Nat)))) :
    dMeth ad.C_Formula "deeper" 1 (F_deeper ad) (dVar 0) dNil ρ M Q X := ⟨_, h0, k, _, rfl, f.o, rfl, rfl, k, L, ts, now, deep, t, rfl, f, ht, hd, q1, q2⟩
/-! Formula.atom -/
def w_atom_6 (K : PySem.W.Frag) (w : World) (ad : Ad) (Fors : FD) : SW := dDrop (dMeth ad.C_Formula "wrong" 1 (F_wrong ad) (dVar 0) dNil)
def w_atom_9 (K : PySem.W.Frag) (w : World) (ad : Ad) (Fors : FD) : SW := dRet (dVar 2)
def w_atom_8 (K : PySem.W.Frag) (w : World) (ad : Ad) (Fors : FD) : SW := dSeq (dAugF K (dVar 0) (dC (.int 1)) "deep" wSub) (w_atom_9 K w ad Fors)
def w_atom_7 (K : PySem.W.Frag) (w : World) (ad : Ad) (Fors : FD) : SW := dSeq (dAugF K (dVar 0) (dC (.int 1)) "now" wAddI) (w_atom_8 K w ad Fors)
def w_atom_5 (K : PySem.W.Frag) (w : World) (ad : Ad) (Fors : FD) : SW := dSeq (dIf (dTest (dOp wNeF (dMeth ad.C_Formula "next_word" 1 (F_next ad) (dVar 0) dNil) (dC (.str ")")))) (w_atom_6 K w ad Fors) dNext) (w_atom_7 K w ad Fors)
def w_atom_4 (K : PySem.W.Frag) (w : World) (ad : Ad) (Fors : FD) : SW := dSeq (dAsg (dMeth ad.C_Formula "ors" 1 Fors (dVar 0) dNil) (dgName 2)) (w_atom_5 K w ad Fors)
def w_atom_3 (K : PySem.W.Frag) (w : World) (ad : Ad) (Fors : FD) : SW := dSeq (dDrop (dMeth ad.C_Formula "deeper" 1 (F_deeper ad) (dVar 0) dNil)) (w_atom_4 K w ad Fors)
def w_atom_11 (K : PySem.W.Frag) (w : World) (ad : Ad) (Fors : FD) : SW := dDrop (dMeth ad.C_Formula "wrong" 1 (F_wrong ad) (dVar 0) dNil)
def w_atom_14 (K : PySem.W.Frag) (w : World) (ad : Ad) (Fors : FD) : SW := dRet (dTup (dCons (dC (.str "name")) (dCons (dMeth ad.C_Formula "name" 1 (F_name ad) (dVar 0) dNil) dNil)))
def w_atom_15 (K : PySem.W.Frag) (w : World) (ad : Ad) (Fors : FD) : SW := dRet (dKGet2 K w (dC (.kr ad.K_ATOMS)) (dVar 1) (dTup (dCons (dC (.str "letter")) (dCons (dVar 1) dNil))))
def w_atom_13 (K : PySem.W.Frag) (w : World) (ad : Ad) (Fors : FD) : SW := dSeq (dIf (dTest (dOp wEqF (dVar 1) (dC (.str "@")))) (w_atom_14 K w ad Fors) dNext) (w_atom_15 K w ad Fors)
def w_atom_12 (K : PySem.W.Frag) (w : World) (ad : Ad) (Fors : FD) : SW := dSeq (dAugF K (dVar 0) (dC (.int 1)) "now" wAddI) (w_atom_13 K w ad Fors)
def w_atom_10 (K : PySem.W.Frag) (w : World) (ad : Ad) (Fors : FD) : SW := dSeq (dIf (dNot (dTest (dMeth ad.C_Formula "begins" 1 (F_begins ad) (dVar 0) dNil))) (w_atom_11 K w ad Fors) dNext) (w_atom_12 K w ad Fors)
def w_atom_2 (K : PySem.W.Frag) (w : World) (ad : Ad) (Fors : FD) : SW := dSeq (dIf (dTest (dOp wEqF (dVar 1) (dC (.str "(")))) (w_atom_3 K w ad Fors) dNext) (w_atom_10 K w ad Fors)
def w_atom_1 (K : PySem.W.Frag) (w : World) (ad : Ad) (Fors : FD) : SW := dSeq (dAsg (dMeth ad.C_Formula "next_word" 1 (F_next ad) (dVar 0) dNil) (dgName 1)) (w_atom_2 K w ad Fors)
def w_atom (K : PySem.W.Frag) (w : World) (ad : Ad) (Fors : FD) : SW := (w_atom_1 K w ad Fors)
theorem y_atom {Fors : FD} {n : Nat} (Foors : FnL P w K mg base (n + 5) ad.f_ors ad.fd_ors p_ors (spD K 1 Fors)) (T : Txt P w K mg ad) (E : XK) : DSs (XBR P w K mg base n_atom "Formula.atom" (defScope s_atom) ad.f_atom (RoomL (n + 5)) E) K (WF E) (defBody s_atom) (w_atom K w ad Fors) := by
  unfold w_atom w_atom_1 w_atom_2 w_atom_10 w_atom_12 w_atom_13 w_atom_15 w_atom_14 w_atom_11 w_atom_3 w_atom_4 w_atom_5 w_atom_7 w_atom_8 w_atom_9 w_atom_6
  exact (dss_cons (ds_set 1 (de_meth0 (de_var 0) (fun _ => T.cl_Formula) (fun _ => T.m_next) (fun _ => (fo_next T)) (fun i => (xbr_room i).room (by decide)) (fun i => xbr_takes i) (fun _ => T.b_next)) (fun _ => sc_atom.nd)) (dss_cons (ds_if (dt_cmp do_eqF (de_var 1) de_str) (dss_cons (ds_expr (de_meth0 (de_var 0) (fun _ => T.cl_Formula) (fun _ => T.m_deeper) (fun _ => (fo_deeper T)) (fun i => (xbr_room i).room (by decide)) (fun i => xbr_takes i) (fun _ => T.b_deeper))) (dss_cons (ds_set 2 (de_methL0 (de_var 0) (fun _ => T.cl_Formula) (fun _ => T.m_ors) (fun _ => Foors) (fun i => (xbr_room i).mono (by omega)) (fun i => xbr_takes i) (fun _ => T.b_ors)) (fun _ => sc_atom.nd)) (dss_cons (ds_if (dt_cmp do_neF (de_meth0 (de_var 0) (fun _ => T.cl_Formula) (fun _ => T.m_next) (fun _ => (fo_next T)) (fun i => (xbr_room i).room (by decide)) (fun i => xbr_takes i) (fun _ => T.b_next)) de_str) (dss_one (ds_expr (de_meth0 (de_var 0) (fun _ => T.cl_Formula) (fun _ => T.m_wrong) (fun _ => (fo_wrong T)) (fun i => (xbr_room i).room (by decide)) (fun i => xbr_takes i) (fun _ => T.b_wrong)))) dss_nil) (dss_cons (ds_augF (fun _ => rfl) (de_var 0) de_int di_add) (dss_cons (ds_augF (fun _ => rfl) (de_var 0) de_int di_sub) (dss_one (ds_ret (de_var 2)))))))) dss_nil) (dss_cons (ds_if (dt_not (dt_val (de_meth0 (de_var 0) (fun _ => T.cl_Formula) (fun _ => T.m_begins) (fun _ => (fo_begins T)) (fun i => (xbr_room i).room (by decide)) (fun i => xbr_takes i) (fun _ => T.b_begins)))) (dss_one (ds_expr (de_meth0 (de_var 0) (fun _ => T.cl_Formula) (fun _ => T.m_wrong) (fun _ => (fo_wrong T)) (fun i => (xbr_room i).room (by decide)) (fun i => xbr_takes i) (fun _ => T.b_wrong)))) dss_nil) (dss_cons (ds_augF (fun _ => rfl) (de_var 0) de_int di_add) (dss_cons (ds_if (dt_cmp do_eqF (de_var 1) de_str) (dss_one (ds_ret (de_tup (da_cons de_str (da_cons (de_meth0 (de_var 0) (fun _ => T.cl_Formula) (fun _ => T.m_name) (fun _ => (fo_name T)) (fun i => (xbr_room i).room (by decide)) (fun i => xbr_takes i) (fun _ => T.b_name)) da_nil))))) dss_nil) (dss_one (ds_ret (de_kget2 (fun _ => rfl) (fun _ => rfl) (de_glob (.kr _) (fun _ => T.g_ATOMS) rfl) (de_var 1) (de_tup (da_cons de_str (da_cons (de_var 1) da_nil)))))))))))
theorem fo_atom' {o : Par} {n : Nat} (T : Txt P w K mg ad) (Fo : FnL P w K mg base (n + 5) ad.f_ors ad.fd_ors p_ors (spD K 1 (F_ring ad o))) : FnL P w K mg base (n + 6) ad.f_atom ad.fd_atom p_atom (spD K 1 (F_ring ad (pAtom o))) := by
  refine fn_l T.F_atom sc_atom (y_atom Fo T) fun ds M Qd Xd hl hh hw hb => ?_
  obtain ⟨k, L, ts, now, deep, r, rfl, f, hd, e, q⟩ := hh
  have qX : ∀ ρ p, r = .error p → Bad ad M k L ts (fun C fs M1 => (DsF M Qd Xd).ex C fs ρ M1) p := fun ρ p ep a b w d => by
    subst ep
    exact UpX.all (by rw [List.length_set]; exact Nat.le_refl _) w d (q a b)
  have fin : ∀ d n, r = .ok (d, n) → (DsF M Qd Xd).rt d (M.set k (fmO ad L ts n deep)) := fun d n er => by
    subst er
    exact fun w' d => UpV.all (by simp) w' d q
  unfold pAtom at e
  cases ht : ts[now]? with
  | none => rw [ht] at e; cases e
  | some t =>
    rw [ht] at e
    dsimp only at e
    refine r_next f rfl ht ⟨.str t.1, rfl, _, _, rfl, rfl, rfl, _, rfl, ?_⟩
    rw [dec_ss]
    refine ifd (fun e1 => ?_) fun e1 => ?_
    · rw [if_pos e1] at e
      refine r_deeper f rfl ht hd (fun e60 => ?_) fun l60 => ?_
      · rw [if_pos e60] at e
        exact bad_here (qX [] _ (Option.some.inj e).symm) f
      · rw [if_neg (by omega)] at e
        have f1 : FmAt ad (M.set k (fmO ad L ts (now + 1 : Nat) (deep + 1 : Nat))) k L ts (now + 1) (deep + 1) := f.set
        refine r_ring _ rfl f1 (by omega) rfl e (fun d n e2 => ?_) fun p ep => bad_set (qX [] p ep)
        rw [List.set_set]
        have f2 : FmAt ad (M.set k (fmO ad L ts n (deep + 1 : Nat))) k L ts n (deep + 1) := f.set
        cases hu : ts[n]? with
        | none => rw [hu] at e2; cases e2
        | some u =>
          rw [hu] at e2
          dsimp only at e2
          refine r_next f2 rfl hu ⟨_, _, rfl, rfl, rfl, _, rfl, ?_⟩
          rw [dec_ss]
          by_cases e3 : u.1 = ")"
          · rw [if_pos e3] at e2
            refine if_f (by simp [e3]) ?_
            refine r_incn T f2 rfl ?_
            rw [List.set_set]
            have f3 : FmAt ad (M.set k (fmO ad L ts (n + 1 : Nat) (deep + 1 : Nat))) k L ts (n + 1) (deep + 1) := f.set
            refine r_decd T f3 rfl ⟨_, rfl, ?_⟩
            rw [List.set_set]
            exact fin _ _ (Option.some.inj e2).symm
          · rw [if_neg e3] at e2
            refine if_t (by simp [e3]) (r_wrong f2 rfl hu ?_)
            exact qX [] _ (Option.some.inj e2).symm _ _
    · rw [if_neg e1] at e
      cases eb : bgn L t.1 with
      | none => rw [eb] at e; cases e
      | some b =>
        rw [eb] at e
        refine r_begins f rfl ht eb ⟨_, rfl, ?_⟩
        cases b with
        | false =>
          refine if_t rfl (r_wrong f rfl ht ?_)
          exact bad_here (qX [] _ (Option.some.inj e).symm) f
        | true =>
          dsimp only at e
          refine if_f rfl (r_incn T f rfl ?_)
          have f1 : FmAt ad (M.set k (fmO ad L ts (now + 1 : Nat) deep)) k L ts (now + 1) deep := f.set
          refine ⟨.str t.1, rfl, _, _, rfl, rfl, rfl, _, rfl, ?_⟩
          rw [dec_ss]
          refine ifd (fun e4 => ?_) fun e4 => ?_
          · rw [if_pos e4] at e
            cases hu : ts[now + 1]? with
            | none => rw [hu] at e; cases e
            | some u =>
              rw [hu] at e
              dsimp only at e
              by_cases hz : sizeLine < u.1.length
              · rw [if_pos hz] at e
                cases e
              rw [if_neg hz] at e
              refine ⟨_, rfl, k, _, rfl, f1.o, rfl, rfl, k, L, ts, now + 1, deep, u, rfl, f1, hu, by omega, fun en => ?_, fun en => ?_⟩
              · rw [if_pos en] at e
                rw [List.set_set]
                exact ⟨(show (2 : Nat) ≤ sizeLine by rw [sizeLine_eq]; decide), fin _ _ (Option.some.inj e).symm⟩
              · rw [if_neg (by rw [en]; exact Bool.false_ne_true)] at e
                exact bad_set (qX [] _ (Option.some.inj e).symm)
          · rw [if_neg e4] at e
            have er := fin _ _ (Option.some.inj e).symm
            obtain ⟨es, m, D⟩ := T.kd_ATOMS
            obtain ⟨v, ka, _, kv⟩ := kat_atoms T t.1
            refine ⟨_, es, m, rfl, D, .str t.1, rfl, .str t.1, rfl, (show (2 : Nat) ≤ sizeLine by rw [sizeLine_eq]; decide), t.1, v, rfl, ka, ?_⟩
            cases v with
            | none =>
              have e5 : atomOf t.1 = none := by
                rename_i kn
                cases h : atomOf t.1 with
                | none => rfl
                | some x => rw [h] at kn; cases kn
              rw [e5] at er
              exact er
            | some v =>
              obtain ⟨d, e5, kr⟩ := kv v rfl
              rw [e5] at er
              exact ⟨d, kr, er⟩

end
end K87

namespace K87
open PySem PySem.Spec PyProof.Rows L2 DL
section
variable {P : Program} {w : World} {K : PySem.W.Frag} {mg : Str → Option Value} {base : Heap} {ad : Ad}
/-! ### head, and the ring closed -/
def pHead : Nat → Par
  | 0 => fun _ _ _ _ => none
  | n + 1 => fun L ts deep now => match ts[now]? with
    | none => none
    | some t => if t.1 = "!" then (if deep = 60 then some (.error t.2) else andR (pHead n L ts (deep + 1) (now + 1)) fun d m => some (.ok (.tup [.str "not", d], m)))
      else andR (pAtom (pOrs (pHead n)) L ts deep now) fun d m => loopS ts (ts.length + 1) d m
/-! Formula.head -/
def w_head_5 (K : PySem.W.Frag) (w : World) (ad : Ad) (Fhead : FD) (Fatom : FD) : SW := dRet (dVar 1)
def w_head_4 (K : PySem.W.Frag) (w : World) (ad : Ad) (Fhead : FD) (Fatom : FD) : SW := dSeq (dAugF K (dVar 0) (dC (.int 1)) "deep" wSub) (w_head_5 K w ad Fhead Fatom)
def w_head_3 (K : PySem.W.Frag) (w : World) (ad : Ad) (Fhead : FD) (Fatom : FD) : SW := dSeq (dAsg (dTup (dCons (dC (.str "not")) (dCons (dMeth ad.C_Formula "head" 1 Fhead (dVar 0) dNil) dNil))) (dgName 1)) (w_head_4 K w ad Fhead Fatom)
def w_head_2 (K : PySem.W.Frag) (w : World) (ad : Ad) (Fhead : FD) (Fatom : FD) : SW := dSeq (dDrop (dMeth ad.C_Formula "deeper" 1 (F_deeper ad) (dVar 0) dNil)) (w_head_3 K w ad Fhead Fatom)
def w_head_9 (K : PySem.W.Frag) (w : World) (ad : Ad) (Fhead : FD) (Fatom : FD) : SW := dAsg (dTup (dCons (dC (.str "star")) (dCons (dVar 1) dNil))) (dgName 1)
def w_head_8 (K : PySem.W.Frag) (w : World) (ad : Ad) (Fhead : FD) (Fatom : FD) : SW := dSeq (dAugF K (dVar 0) (dC (.int 1)) "now" wAddI) (w_head_9 K w ad Fhead Fatom)
def w_head_10 (K : PySem.W.Frag) (w : World) (ad : Ad) (Fhead : FD) (Fatom : FD) : SW := dRet (dVar 1)
def w_head_7 (K : PySem.W.Frag) (w : World) (ad : Ad) (Fhead : FD) (Fatom : FD) : SW := dSeq (dWhile (dTest (dOp wEqF (dMeth ad.C_Formula "next_word" 1 (F_next ad) (dVar 0) dNil) (dC (.str "*")))) (dThen (w_head_8 K w ad Fhead Fatom))) (w_head_10 K w ad Fhead Fatom)
def w_head_6 (K : PySem.W.Frag) (w : World) (ad : Ad) (Fhead : FD) (Fatom : FD) : SW := dSeq (dAsg (dMeth ad.C_Formula "atom" 1 Fatom (dVar 0) dNil) (dgName 1)) (w_head_7 K w ad Fhead Fatom)
def w_head_1 (K : PySem.W.Frag) (w : World) (ad : Ad) (Fhead : FD) (Fatom : FD) : SW := dSeq (dIf (dTest (dOp wEqF (dMeth ad.C_Formula "next_word" 1 (F_next ad) (dVar 0) dNil) (dC (.str "!")))) (w_head_2 K w ad Fhead Fatom) dNext) (w_head_6 K w ad Fhead Fatom)
def w_head (K : PySem.W.Frag) (w : World) (ad : Ad) (Fhead : FD) (Fatom : FD) : SW := (w_head_1 K w ad Fhead Fatom)
theorem y_head {Fhead : FD} {Fatom : FD} {n : Nat} (Fohead : FnL P w K mg base (n + 5) ad.f_head ad.fd_head p_head (spD K 1 Fhead)) (Foatom : FnL P w K mg base (n + 5) ad.f_atom ad.fd_atom p_atom (spD K 1 Fatom)) (T : Txt P w K mg ad) (E : XK) : DSs (XBR P w K mg base n_head "Formula.head" (defScope s_head) ad.f_head (RoomL (n + 5)) E) K (WF E) (defBody s_head) (w_head K w ad Fhead Fatom) := by
  unfold w_head w_head_1 w_head_6 w_head_7 w_head_10 w_head_8 w_head_9 w_head_2 w_head_3 w_head_4 w_head_5
  exact (dss_cons (ds_if (dt_cmp do_eqF (de_meth0 (de_var 0) (fun _ => T.cl_Formula) (fun _ => T.m_next) (fun _ => (fo_next T)) (fun i => (xbr_room i).room (by decide)) (fun i => xbr_takes i) (fun _ => T.b_next)) de_str) (dss_cons (ds_expr (de_meth0 (de_var 0) (fun _ => T.cl_Formula) (fun _ => T.m_deeper) (fun _ => (fo_deeper T)) (fun i => (xbr_room i).room (by decide)) (fun i => xbr_takes i) (fun _ => T.b_deeper))) (dss_cons (ds_set 1 (de_tup (da_cons de_str (da_cons (de_methL0 (de_var 0) (fun _ => T.cl_Formula) (fun _ => T.m_head) (fun _ => Fohead) (fun i => (xbr_room i).mono (by omega)) (fun i => xbr_takes i) (fun _ => T.b_head)) da_nil))) (fun _ => sc_head.nd)) (dss_cons (ds_augF (fun _ => rfl) (de_var 0) de_int di_sub) (dss_one (ds_ret (de_var 1)))))) dss_nil) (dss_cons (ds_set 1 (de_methL0 (de_var 0) (fun _ => T.cl_Formula) (fun _ => T.m_atom) (fun _ => Foatom) (fun i => (xbr_room i).mono (by omega)) (fun i => xbr_takes i) (fun _ => T.b_atom)) (fun _ => sc_head.nd)) (dss_cons (ds_while (fun i => xbr_passes i) (dt_cmp do_eqF (de_meth0 (de_var 0) (fun _ => T.cl_Formula) (fun _ => T.m_next) (fun _ => (fo_next T)) (fun i => (xbr_room i).room (by decide)) (fun i => xbr_takes i) (fun _ => T.b_next)) de_str) (dss_then (dss_cons (ds_augF (fun _ => rfl) (de_var 0) de_int di_add) (dss_one (ds_set 1 (de_tup (da_cons de_str (da_cons (de_var 1) da_nil))) (fun _ => sc_head.nd)))))) (dss_one (ds_ret (de_var 1))))))
theorem fo_head' {j n : Nat} (T : Txt P w K mg ad) (Fh : FnL P w K mg base (n + 5) ad.f_head ad.fd_head p_head (spD K 1 (F_ring ad (pHead j)))) (Fa : FnL P w K mg base (n + 5) ad.f_atom ad.fd_atom p_atom (spD K 1 (F_ring ad (pAtom (pOrs (pHead j)))))) :
    FnL P w K mg base (n + 6) ad.f_head ad.fd_head p_head (spD K 1 (F_ring ad (pHead (j + 1)))) := by
  refine fn_l T.F_head sc_head (y_head Fh Fa T) fun ds M Qd Xd hl hh hw hb => ?_
  obtain ⟨k, L, ts, now, deep, r, rfl, f, hd, e, q⟩ := hh
  have qX : ∀ ρ p, r = .error p → Bad ad M k L ts (fun C fs M1 => (DsF M Qd Xd).ex C fs ρ M1) p := fun ρ p ep a b w d => by
    subst ep
    exact UpX.all (by rw [List.length_set]; exact Nat.le_refl _) w d (q a b)
  have fin : ∀ d n, r = .ok (d, n) → (DsF M Qd Xd).rt d (M.set k (fmO ad L ts n deep)) := fun d n er => by
    subst er
    exact fun w' d => UpV.all (by simp) w' d q
  unfold pHead at e
  cases ht : ts[now]? with
  | none => rw [ht] at e; cases e
  | some t =>
    rw [ht] at e
    dsimp only at e
    refine r_next f rfl ht ⟨_, _, rfl, rfl, rfl, _, rfl, ?_⟩
    rw [dec_ss]
    refine ifd (fun e1 => ?_) fun e1 => ?_
    · rw [if_pos e1] at e
      refine r_deeper f rfl ht hd (fun e60 => ?_) fun l60 => ?_
      · rw [if_pos e60] at e
        exact bad_here (qX [] _ (Option.some.inj e).symm) f
      · rw [if_neg (by omega)] at e
        have f1 : FmAt ad (M.set k (fmO ad L ts (now + 1 : Nat) (deep + 1 : Nat))) k L ts (now + 1) (deep + 1) := f.set
        refine r_ring _ rfl f1 (by omega) rfl e (fun d n e2 => ?_) fun p ep => bad_set (qX [] p ep)
        rw [List.set_set]
        have f2 : FmAt ad (M.set k (fmO ad L ts n (deep + 1 : Nat))) k L ts n (deep + 1) := f.set
        refine ⟨(show (2 : Nat) ≤ sizeLine by rw [sizeLine_eq]; decide), r_decd T f2 rfl ⟨_, rfl, ?_⟩⟩
        rw [List.set_set]
        exact fin _ _ (Option.some.inj e2).symm
    · rw [if_neg e1] at e
      refine r_ring _ rfl f hd rfl e (fun d n e1 => ?_) (qX [])
      refine ⟨fun m ρ' M' => ∃ (now : Nat) (d : D), ρ' = [some (.ptr k), some d] ∧ M' = M.set k (fmO ad L ts now deep) ∧ loopS ts m d now = some r, ⟨_, n, d, rfl, rfl, e1⟩, ?_⟩
      rintro m ρ1 M1 ⟨now1, d1, rfl, rfl, e2⟩
      have f1 : FmAt ad (M.set k (fmO ad L ts now1 deep)) k L ts now1 deep := f.set
      cases m with
      | zero => cases e2
      | succ m =>
        unfold loopS at e2
        cases ht : ts[now1]? with
        | none => rw [ht] at e2; cases e2
        | some t =>
          rw [ht] at e2
          dsimp only at e2
          refine r_next f1 rfl ht ⟨_, _, rfl, rfl, rfl, _, rfl, ?_⟩
          rw [dec_ss]
          refine ifd (fun es => ?_) fun es => ?_
          · rw [if_pos es] at e2
            refine r_incn T f1 rfl ?_
            rw [List.set_set]
            refine ⟨d1, rfl, (show (2 : Nat) ≤ sizeLine by rw [sizeLine_eq]; decide), fun w' ev => Up.all (by simp) w' ev ⟨m, Nat.lt_succ_self m, now1 + 1, _, rfl, rfl, e2⟩⟩
          · rw [if_neg es] at e2
            exact ⟨_, rfl, fin _ _ (Option.some.inj e2).symm⟩
theorem ring_none {k : Nat} {f : Addr} {fd : FuncData} {ps : List Str} (h1 : ps.length = 1) : FnL P w K mg base k f fd ps (spD K 1 (F_ring ad (pHead 0))) :=
  ⟨fun _ _ _ _ h => by rw [h1]; exact h.1, fun _ _ _ _ _ _ _ _ _ _ _ _ _ h => by
    obtain ⟨_, _, _, _, _, _, _, _, _, z, _⟩ := h
    obtain ⟨_, _, _, _, _, _, _, _, _, z, _⟩ := z
    cases z⟩
theorem fo_headN (T : Txt P w K mg ad) : ∀ j : Nat, FnL P w K mg base (5 * j + 5) ad.f_head ad.fd_head p_head (spD K 1 (F_ring ad (pHead j)))
  | 0 => ring_none rfl
  | j + 1 => by
    have h := fo_headN T j
    have h1 := fo_rows' (n := 5 * j) T h
    have h2 := fo_ands' (n := 5 * j + 1) T h1
    have h3 := fo_ors' (n := 5 * j + 2) T h2
    have h4 := fo_atom' (n := 5 * j + 3) T h3
    exact fo_head' (n := 5 * j + 4) T (h.mono (by omega)) h4
theorem fo_orsN (T : Txt P w K mg ad) (j : Nat) : FnL P w K mg base (5 * j + 8) ad.f_ors ad.fd_ors p_ors (spD K 1 (F_ring ad (pOrs (pHead j)))) :=
  fo_ors' (n := 5 * j + 2) T (fo_ands' (n := 5 * j + 1) T (fo_rows' (n := 5 * j) T (fo_headN T j)))

end
end K87

namespace K87
open PySem PySem.Spec PyProof.Rows L2 DL
section
variable {P : Program} {w : World} {K : PySem.W.Frag} {mg : Str → Option Value} {base : Heap} {ad : Ad}
/-! ### the tokens of a text -/
def chS (c : Nat) : Str := ⟨#[c]⟩
def isAbc (c : Nat) : Bool := decide (c ∈ abc.cps.toList)
def isBlk (c : Nat) : Bool := decide (c ∈ (" \n" : Str).cps.toList)
/-- the tokens of what is left, cs, from the place p on; b: the last one was @ -/
def toks : Nat → List Nat → Nat → Bool → List Tk
  | 0, _, p, _ => [("", p)]
  | n + 1, cs, p, b => match cs with
    | [] => [("", p)]
    | c :: r => if isBlk c = true then toks n r (p + 1) b
      else if (isAbc c && b) = true then (⟨(c :: r.takeWhile isAbc).toArray⟩, p) :: toks n (r.dropWhile isAbc) (p + 1 + (r.takeWhile isAbc).length) false
      else (chS c, p) :: toks n r (p + 1) (decide (chS c = "@"))
def tkOf (z : Str) (p : Nat) : List Tk := toks (z.length + 1) (z.cps.toList.drop p) p false
def lastAt (fs : List Tk) : Bool := match fs.getLast? with
  | some t => decide (t.1 = "@")
  | none => false
def F_tokens : FD := fun ds M Qd _ => ∃ (z : Str) (p : Nat), ds = [.str z, .int p] ∧ p ≤ z.length ∧ z.length < 1000000 ∧ Qd (.lst ((tkOf z p).map tkD)) M
/-! tokens_from -/
def w_tokens_6 (K : PySem.W.Frag) (w : World) (ad : Ad) : SW := dCont
def w_tokens_5 (K : PySem.W.Frag) (w : World) (ad : Ad) : SW := dSeq (dAsg (dVar 3) (dgName 1)) (w_tokens_6 K w ad)
def w_tokens_9 (K : PySem.W.Frag) (w : World) (ad : Ad) : SW := dAug 3 (dC (.int 1)) wAddI
def w_tokens_8 (K : PySem.W.Frag) (w : World) (ad : Ad) : SW := dWhile (dAnd (dTest (dOp wLt (dVar 3) (dCall wLen (dCons (dVar 0) dNil)))) (dTest (dOp wInS (dOp wIx (dVar 0) (dVar 3)) (dC (.str "abcdefghijklmnopqrstuvwxyz"))))) (dThen (w_tokens_9 K w ad))
def w_tokens_11 (K : PySem.W.Frag) (w : World) (ad : Ad) : SW := dAsg (dVar 3) (dgName 1)
def w_tokens_10 (K : PySem.W.Frag) (w : World) (ad : Ad) : SW := dSeq (dDrop (dAppend (dVar 2) (dCons (dTup (dCons (dSl (dVar 0) (dPart (dVar 1)) (dPart (dVar 3))) (dCons (dVar 1) dNil))) dNil))) (w_tokens_11 K w ad)
def w_tokens_7 (K : PySem.W.Frag) (w : World) (ad : Ad) : SW := dSeq (dIf (dAnd (dTest (dOp wInS (dOp wIx (dVar 0) (dVar 1)) (dC (.str "abcdefghijklmnopqrstuvwxyz")))) (dAnd (dTest (dOp wGt (dCall wLen (dCons (dVar 2) dNil)) (dC (.int 0)))) (dTest (dOp wEqF (dOp wIx (dOp wIx (dVar 2) (dNeg (dC (.int 1)))) (dC (.int 0))) (dC (.str "@")))))) (w_tokens_8 K w ad) dNext) (w_tokens_10 K w ad)
def w_tokens_4 (K : PySem.W.Frag) (w : World) (ad : Ad) : SW := dSeq (dIf (dTest (dOp wInS (dOp wIx (dVar 0) (dVar 1)) (dC (.str " \n")))) (w_tokens_5 K w ad) dNext) (w_tokens_7 K w ad)
def w_tokens_3 (K : PySem.W.Frag) (w : World) (ad : Ad) : SW := dSeq (dAsg (dOp wAdd (dVar 1) (dC (.int 1))) (dgName 3)) (w_tokens_4 K w ad)
def w_tokens_13 (K : PySem.W.Frag) (w : World) (ad : Ad) : SW := dRet (dVar 2)
def w_tokens_12 (K : PySem.W.Frag) (w : World) (ad : Ad) : SW := dSeq (dDrop (dAppend (dVar 2) (dCons (dTup (dCons (dC (.str "")) (dCons (dCall wLen (dCons (dVar 0) dNil)) dNil))) dNil))) (w_tokens_13 K w ad)
def w_tokens_2 (K : PySem.W.Frag) (w : World) (ad : Ad) : SW := dSeq (dWhile (dTest (dOp wLt (dVar 1) (dCall wLen (dCons (dVar 0) dNil)))) (dThen (w_tokens_3 K w ad))) (w_tokens_12 K w ad)
def w_tokens_1 (K : PySem.W.Frag) (w : World) (ad : Ad) : SW := dSeq (dAsg (dLstB dNil) (dgName 2)) (w_tokens_2 K w ad)
def w_tokens (K : PySem.W.Frag) (w : World) (ad : Ad) : SW := (w_tokens_1 K w ad)
theorem y_tokens (T : Txt P w K mg ad) (E : XK) : DSs (XB P w K mg base n_tokens "tokens_from" (defScope s_tokens) ad.f_tokens 0 E) K (WF E) (defBody s_tokens) (w_tokens K w ad) := by
  unfold w_tokens w_tokens_1 w_tokens_2 w_tokens_12 w_tokens_13 w_tokens_3 w_tokens_4 w_tokens_7 w_tokens_10 w_tokens_11 w_tokens_8 w_tokens_9 w_tokens_5 w_tokens_6
  exact (dss_cons (ds_set 2 (de_lstB da_nil) (fun _ => sc_tokens.nd)) (dss_cons (ds_while (fun i => xb_passes i) (dt_cmp do_lt (de_var 1) (de_callB (dc_len fun _ => rfl) (fun _ => T.n_len) PyProof.Rows.Boot.«len» (da_cons (de_var 0) da_nil))) (dss_then (dss_cons (ds_set 3 (de_op do_add (de_var 1) de_int) (fun _ => sc_tokens.nd)) (dss_cons (ds_if (dt_cmp do_inS (de_ix (fun _ => rfl) (de_var 0) (de_var 1)) (de_glob (.str " \n") (fun _ => T.g_BLANKS) T.r_BLANKS)) (dss_cons (ds_set 1 (de_var 3) (fun _ => sc_tokens.nd)) (dss_one ds_cont)) dss_nil) (dss_cons (ds_if (dpw_pt (dpw_and (dt_cmp do_inS (de_ix (fun _ => rfl) (de_var 0) (de_var 1)) (de_glob (.str "abcdefghijklmnopqrstuvwxyz") (fun _ => T.g_ALPHABET) T.r_ALPHABET)) (dpw_and (dt_cmp do_gt (de_callB (dc_len fun _ => rfl) (fun _ => T.n_len) PyProof.Rows.Boot.«len» (da_cons (de_var 2) da_nil)) de_int) (dpw_and1 (dt_cmp do_eqF (de_ix (fun _ => rfl) (de_ix (fun _ => rfl) (de_var 2) (de_neg de_int)) de_int) de_str))))) (dss_one (ds_while (fun i => xb_passes i) (dpw_pt (dpw_and (dt_cmp do_lt (de_var 3) (de_callB (dc_len fun _ => rfl) (fun _ => T.n_len) PyProof.Rows.Boot.«len» (da_cons (de_var 0) da_nil))) (dpw_and1 (dt_cmp do_inS (de_ix (fun _ => rfl) (de_var 0) (de_var 3)) (de_glob (.str "abcdefghijklmnopqrstuvwxyz") (fun _ => T.g_ALPHABET) T.r_ALPHABET))))) (dss_then (dss_one (ds_aug 3 de_int di_add (fun _ => sc_tokens.nd)))))) dss_nil) (dss_cons (ds_expr (de_append (fun _ => rfl) (de_var 2) (da_cons (de_tup (da_cons (de_slice (fun _ => rfl) (de_var 0) (dol_some (de_var 1)) (dol_some (de_var 3))) (da_cons (de_var 1) da_nil))) da_nil))) (dss_one (ds_set 1 (de_var 3) (fun _ => sc_tokens.nd))))))))) (dss_cons (ds_expr (de_append (fun _ => rfl) (de_var 2) (da_cons (de_tup (da_cons de_str (da_cons (de_callB (dc_len fun _ => rfl) (fun _ => T.n_len) PyProof.Rows.Boot.«len» (da_cons (de_var 0) da_nil)) da_nil))) da_nil))) (dss_one (ds_ret (de_var 2))))))
theorem len_cps (z : Str) : z.length = z.cps.toList.length := by
  show z.cps.size = _
  simp
/-- the walk over a name -/
theorem p_tokens_8 {M : Mm} {De : Ds} {z : Str} {p : Nat} {d2 : D} {e : Nat} (hz : z.length < 1000000) (hw : Wf M.length M) (hb : Bd M.length d2) (he : e ≤ z.length) (q : De.nx [some (.str z), some (.int p), some d2, some (.int (e + ((z.cps.toList.drop e).takeWhile isAbc).length : Nat))] M) :
    w_tokens_8 K w ad De [some (.str z), some (.int p), some d2, some (.int e)] M := by
  refine ⟨fun m ρ' M' => M' = M ∧ ∃ e1 : Nat, m = z.length - e1 ∧ e1 ≤ z.length ∧ ρ' = [some (.str z), some (.int p), some d2, some (.int e1)] ∧ e1 + ((z.cps.toList.drop e1).takeWhile isAbc).length = e + ((z.cps.toList.drop e).takeWhile isAbc).length, ⟨_, rfl, e, rfl, he, rfl, rfl⟩, ?_⟩
  rintro m ρ1 M1 ⟨rfl, e1, rfl, h1, rfl, h2⟩
  refine ⟨_, rfl, .str z, rfl, .inr ⟨z, rfl, by rw [sizeLine_eq]; omega, ⟨_, _, rfl, rfl, trivial, _, rfl, ?_⟩⟩⟩
  by_cases hl : e1 < z.length
  · have hl' : e1 < z.cps.toList.length := by rw [← len_cps]; exact hl
    refine if_t (decide_eq_true (by omega)) ?_
    have hc : z.cps.toList[e1]? = some z.cps.toList[e1] := List.getElem?_eq_getElem hl'
    have hd : z.cps.toList.drop e1 = z.cps.toList[e1] :: z.cps.toList.drop (e1 + 1) := List.drop_eq_getElem_cons hl'
    refine ⟨.str z, rfl, .int e1, rfl, .inr ⟨z, e1, z.cps.toList[e1], rfl, rfl, by rw [sizeLine_eq]; omega, at_nat hc, z.cps.toList[e1], abc, rfl, rfl, _, rfl, ?_⟩⟩
    by_cases ha : z.cps.toList[e1] ∈ abc.cps.toList
    · have ea : isAbc z.cps.toList[e1] = true := decide_eq_true ha
      refine if_t (decide_eq_true ha) ?_
      refine ⟨.int e1, rfl, _, _, rfl, rfl, trivial, fun w' ev => Up.all (Nat.le_refl _) w' ev ⟨_, ?_, rfl, e1 + 1, rfl, by omega, rfl, ?_⟩⟩
      · omega
      · rw [← h2, hd, List.takeWhile_cons_of_pos ea]
        simp only [List.length_cons]
        omega
    · have ea : isAbc z.cps.toList[e1] = false := decide_eq_false ha
      refine if_f (decide_eq_false ha) ?_
      rw [hd, List.takeWhile_cons_of_neg (by rw [ea]; exact Bool.false_ne_true)] at h2
      have h3 : e1 = e + ((z.cps.toList.drop e).takeWhile isAbc).length := h2
      rw [← h3] at q
      exact q
  · refine if_f (decide_eq_false (by omega)) (if_f rfl ?_)
    have hd : z.cps.toList.drop e1 = [] := List.drop_eq_nil_of_le (by rw [← len_cps]; omega)
    rw [hd] at h2
    have h3 : e1 = e + ((z.cps.toList.drop e).takeWhile isAbc).length := h2
    rw [← h3] at q
    exact q
theorem toks_fuel : ∀ (n m : Nat) (cs : List Nat) (p : Nat) (b : Bool), cs.length < n → cs.length < m → toks n cs p b = toks m cs p b
  | 0, _, _, _, _, h, _ => absurd h (Nat.not_lt_zero _)
  | _ + 1, 0, _, _, _, _, h => absurd h (Nat.not_lt_zero _)
  | n + 1, m + 1, [], p, b, _, _ => rfl
  | n + 1, m + 1, c :: r, p, b, h1, h2 => by
    rw [List.length_cons] at h1 h2
    have h3 : (r.dropWhile isAbc).length ≤ r.length := (List.dropWhile_sublist isAbc).length_le
    unfold toks
    dsimp only
    rw [toks_fuel n m r (p + 1) b (by omega) (by omega), toks_fuel n m r (p + 1) _ (by omega) (by omega), toks_fuel n m (r.dropWhile isAbc) _ _ (by omega) (by omega)]
theorem lastAt_app (fs : List Tk) (t : Tk) : lastAt (fs ++ [t]) = decide (t.1 = "@") := by
  unfold lastAt
  rw [List.getLast?_concat]
theorem name_len {c : Nat} {r : List Nat} (h : isAbc c = true) : decide ((⟨(c :: r.takeWhile isAbc).toArray⟩ : Str) = "@") = false := by
  refine decide_eq_false fun e => ?_
  have e1 : (c :: r.takeWhile isAbc).toArray = ("@" : Str).cps := congrArg Str.cps e
  have e2 : c :: r.takeWhile isAbc = ("@" : Str).cps.toList := by rw [← e1]
  have e3 : ("@" : Str).cps.toList = [64] := by decide
  rw [e3] at e2
  have e4 : c = 64 := (List.cons.inj e2).1
  subst e4
  exact absurd h (by decide)

end
end K87

namespace K87
open PySem PySem.Spec PyProof.Rows L2 DL
section
variable {P : Program} {w : World} {K : PySem.W.Frag} {mg : Str → Option Value} {base : Heap} {ad : Ad}
theorem last_at {α : Type} {xs : List α} {x : α} (h : xs.getLast? = some x) : atI xs (-1) = some x := by
  have h0 : 0 < xs.length := by
    cases xs with
    | nil => cases h
    | cons _ _ => simp
  rw [List.getLast?_eq_getElem?] at h
  have e : ixN xs.length (-1) = some (xs.length - 1) := by
    unfold ixN
    simp
    omega
  unfold atI
  rw [e]
  exact h
theorem lastAt_some {fs : List Tk} (h : lastAt fs = true) : ∃ t, fs.getLast? = some t ∧ t.1 = "@" := by
  unfold lastAt at h
  cases e : fs.getLast? with
  | none => rw [e] at h; cases h
  | some t => rw [e] at h; exact ⟨t, rfl, of_decide_eq_true h⟩
theorem six {n p d : Nat} (h : p ≤ n) : HT.sIx n d (some (p : Int)) = p := by
  rw [HT.sIx_nat]
  omega
theorem cut_at {z : Str} {p e : Nat} (h1 : p ≤ e) (h2 : e ≤ z.length) : cutS z (some (p : Int)) (some (e : Int)) = ⟨((z.cps.toList.drop p).take (e - p)).toArray⟩ := by
  unfold cutS
  rw [six (d := 0) (by omega), six h2]
theorem tw_take : ∀ (l : List Nat), l.take (l.takeWhile isAbc).length = l.takeWhile isAbc
  | [] => rfl
  | c :: r => by
    by_cases h : isAbc c = true
    · rw [List.takeWhile_cons_of_pos h, List.length_cons, List.take_succ_cons, tw_take r]
    · rw [List.takeWhile_cons_of_neg h]
      rfl
theorem tw_drop : ∀ (l : List Nat), l.drop (l.takeWhile isAbc).length = l.dropWhile isAbc
  | [] => rfl
  | c :: r => by
    by_cases h : isAbc c = true
    · rw [List.takeWhile_cons_of_pos h, List.dropWhile_cons_of_pos h, List.length_cons, List.drop_succ_cons, tw_drop r]
    · rw [List.takeWhile_cons_of_neg h, List.dropWhile_cons_of_neg h]
      rfl
theorem bd_tks {n : Nat} (fs : List Tk) : Bds n (fs.map tkD) := Bds.of fun d hd => by
  obtain ⟨t, _, rfl⟩ := List.mem_map.mp hd
  exact .tup (.cons (.str _) (.cons (.int _) .nil))
theorem at_cps {z : Str} {p : Nat} (h : p < z.length) : ∃ c r, z.cps.toList.drop p = c :: r ∧ z.cps.toList[p]? = some c ∧ z.cps.toList.drop (p + 1) = r := by
  have hl : p < z.cps.toList.length := by rw [← len_cps]; exact h
  exact ⟨_, _, List.drop_eq_getElem_cons hl, List.getElem?_eq_getElem hl, rfl⟩
theorem lastAt_cases (fs : List Tk) : (fs = [] ∧ lastAt fs = false) ∨ ∃ t, fs.getLast? = some t ∧ 0 < fs.length ∧ lastAt fs = decide (t.1 = "@") := by
  cases e : fs.getLast? with
  | none =>
    have : fs = [] := List.getLast?_eq_none_iff.mp e
    exact .inl ⟨this, by rw [this]; rfl⟩
  | some t =>
    refine .inr ⟨t, rfl, ?_, ?_⟩
    · cases fs with
      | nil => cases e
      | cons _ _ => simp
    · unfold lastAt; rw [e]
theorem w_tokens_put {M : Mm} {De : Ds} {z : Str} {k : Nat} {p e : Nat} {fs : List Tk} (hz : z.length < 1000000) (hf : fs.length ≤ p) (hp : p < z.length) (hM : M[k]? = some (.lst (fs.map tkD)))
    (q : De.nx [some (.str z), some (.int e), some (.ptr k), some (.int e)] (M.set k (.lst ((fs ++ [(cutS z (some (p : Int)) (some (e : Int)), p)]).map tkD)))) : w_tokens_10 K w ad De [some (.str z), some (.int p), some (.ptr k), some (.int e)] M := by
  unfold w_tokens_10
  simp only [dSeq, dIf, dAsg, dgName, dVar, dC, dOp, dNil, dCons, dTup, dTest, dAnd, dOr, dNot, dIfE, dAndV, dOrV, dNotV, dNext, dRet, dRetN, dDrop, dCall, dCallS, wLen, wI, wAdd, wAddI, wAddS, wAddL, wSub, wMod, wDiv, wPow, wLt, wLe, wGt, wGe, wMulB, wMulS, wEqF, wNeF, wIsN, wNotN, wInS, wNotInS, wIx, dNeg, dAug, dAppend, dLst, dLstM, dLstB, dSl, dPart, dNo, wCut, dBreak, dCont, dRaise, dMeth, dFld, wFld, dSetF, dAugF, dgTupF, dgTup, dgCons, dgNil, dgSet, dThen, dSo, dSoE, wIntC, dChain, dMake, wListC, wListM, dDisp, dPsCons, dPsNil, keysOf, DL.putAll, putD, valD, dUpC, inV, wDGet, wDIn, dDPut, dGet2, dPopAt, dJoin, wInL, dIsX, List.getElem?_cons_zero, List.getElem?_cons_succ, List.getElem?_nil, Option.some.injEq, D.int.injEq, D.str.injEq, D.bl.injEq, D.ptr.injEq, D.lst.injEq, D.tup.injEq, D.scr.injEq, D.xc.injEq, D.kr.injEq, D.ty.injEq, MO.lst.injEq, MO.ins.injEq, MO.dK.injEq, V.int.injEq, V.str.injEq, V.bl.injEq, List.cons.injEq, List.set_cons_zero, List.set_cons_succ, and_true, true_and, or_false, false_or, or_true, true_or, and_false, false_and, exists_false, exists_eq_left, exists_eq_left', exists_eq_right, exists_eq_right', exists_eq, exists_eq', exists_and_left, exists_and_right, exists_const, reduceCtorEq, decide_eq_true_eq, if_true, if_false, List.length_cons, List.length_nil, List.append_nil, List.nil_append, List.cons_append, v_scalI, v_scalS, v_scalB, v_scalN, v_decI, v_decS, v_decB, v_lsL, v_lsP, v_lsI, v_lsS, v_lsB, v_lsT, v_lsN, v_sqT, v_sqL, v_sqP, v_sqI, v_sqS, v_sqB, v_sqN, v_vI, v_vS, v_vB, v_vN, v_vT, v_vL, v_vP, v_sign, v_map, v_at0, v_at1, v_at2, v_at3, v_at4, v_at5, v_ofs, v_eqS, v_eqI, v_dkP, v_bdS, v_bdI, v_bdB, v_bdN, v_bdT, v_bdL, v_bdP, v_bdsN, v_bdsC, v_lastD, v_lastS, v_kyS, v_kyI, v_tt, v_ff, String.reduceEq, List.foldl_cons, List.foldl_nil, List.any_cons, List.any_nil, List.find?_cons, List.find?_nil, Sum.inr.injEq, Sum.inl.injEq, decide_true, decide_false, Bool.or_false, Bool.or_true, Bool.true_or, Bool.false_or, List.append_cancel_left_eq, Bool.false_eq_true, List.map_cons, List.map_nil, List.mapM_cons, List.mapM_nil, Option.pure_def, Option.bind_eq_bind, Option.bind_some, Option.bind_none, Nat.lt_irrefl, Option.map_some, Option.map_none, and_assoc, Nat.zero_add, Nat.reduceAdd, Nat.reduceLeDiff, Nat.le_refl, sizeLine_eq, and_self, forall_const, Bool.not_eq_true', Bool.not_true, Bool.not_false, decide_eq_false_iff_not, ite_not, hM, w_tokens_11]
  refine ⟨by omega, by rw [List.length_map]; omega, ?_⟩
  rw [List.map_append] at q
  exact q
def TokI (M : Mm) (z : Str) (p : Nat) (m : Nat) : NK := fun ρ' M' => ∃ (fs : List Tk) (p1 : Nat) (d3 : Option D), ρ' = [some (.str z), some (.int p1), some (.ptr M.length), d3] ∧ M' = M ++ [.lst (fs.map tkD)] ∧ m = z.length - p1 ∧ p1 ≤ z.length ∧ fs.length ≤ p1 ∧ fs ++ toks (m + 1) (z.cps.toList.drop p1) p1 (lastAt fs) = tkOf z p
theorem u_tokens_3 {M : Mm} {De : Ds} {z : Str} {p p1 m : Nat} {fs : List Tk} {d3 : Option D} (hz : z.length < 1000000) (hw : Wf M.length M) (em : m = z.length - p1) (h4 : fs.length ≤ p1) (hlt : p1 < z.length) (h2 : fs ++ toks (m + 1) (z.cps.toList.drop p1) p1 (lastAt fs) = tkOf z p)
    (hn : ∀ ρ' M', Wf M'.length M' → EvB M' ρ' → (∃ m', m' < m ∧ TokI M z p m' ρ' M') → De.nx ρ' M') (hc : ∀ ρ' M', Wf M'.length M' → EvB M' ρ' → (∃ m', m' < m ∧ TokI M z p m' ρ' M') → De.ct ρ' M') :
    w_tokens_3 K w ad De [some (.str z), some (.int p1), some (.ptr M.length), d3] (M ++ [.lst (fs.map tkD)]) := by
  have hM : ∀ gs : List Tk, (M ++ [MO.lst (gs.map tkD)])[M.length]? = some (.lst (gs.map tkD)) := fun _ => by simp
  have wf : ∀ gs : List Tk, Wf (M ++ [MO.lst (gs.map tkD)]).length (M ++ [MO.lst (gs.map tkD)]) := fun gs => (hw.mono (by simp)).app (bd_tks gs)
  have ev : ∀ (gs : List Tk) (a b : Nat), EvB (M ++ [MO.lst (gs.map tkD)]) [some (.str z), some (.int a), some (.ptr M.length), some (.int b)] := fun gs a b i d e => by
    match i, e with
    | 0, e => cases e; exact .str _
    | 1, e => cases e; exact .int _
    | 2, e => cases e; exact .ptr (by simp)
    | 3, e => cases e; exact .int _
  obtain ⟨c, r, hd, hc', hr⟩ := at_cps (z := z) (p := p1) hlt
  rw [hd] at h2
  unfold toks at h2
  dsimp only at h2
  have hl : r.length = z.length - (p1 + 1) := by rw [← hr, List.length_drop, ← len_cps]
  unfold w_tokens_3
  simp only [dSeq, dIf, dAsg, dgName, dVar, dC, dOp, dNil, dCons, dTup, dTest, dAnd, dOr, dNot, dIfE, dAndV, dOrV, dNotV, dNext, dRet, dRetN, dDrop, dCall, dCallS, wLen, wI, wAdd, wAddI, wAddS, wAddL, wSub, wMod, wDiv, wPow, wLt, wLe, wGt, wGe, wMulB, wMulS, wEqF, wNeF, wIsN, wNotN, wInS, wNotInS, wIx, dNeg, dAug, dAppend, dLst, dLstM, dLstB, dSl, dPart, dNo, wCut, dBreak, dCont, dRaise, dMeth, dFld, wFld, dSetF, dAugF, dgTupF, dgTup, dgCons, dgNil, dgSet, dThen, dSo, dSoE, wIntC, dChain, dMake, wListC, wListM, dDisp, dPsCons, dPsNil, keysOf, DL.putAll, putD, valD, dUpC, inV, wDGet, wDIn, dDPut, dGet2, dPopAt, dJoin, wInL, dIsX, List.getElem?_cons_zero, List.getElem?_cons_succ, List.getElem?_nil, Option.some.injEq, D.int.injEq, D.str.injEq, D.bl.injEq, D.ptr.injEq, D.lst.injEq, D.tup.injEq, D.scr.injEq, D.xc.injEq, D.kr.injEq, D.ty.injEq, MO.lst.injEq, MO.ins.injEq, MO.dK.injEq, V.int.injEq, V.str.injEq, V.bl.injEq, List.cons.injEq, List.set_cons_zero, List.set_cons_succ, and_true, true_and, or_false, false_or, or_true, true_or, and_false, false_and, exists_false, exists_eq_left, exists_eq_left', exists_eq_right, exists_eq_right', exists_eq, exists_eq', exists_and_left, exists_and_right, exists_const, reduceCtorEq, decide_eq_true_eq, if_true, if_false, List.length_cons, List.length_nil, List.append_nil, List.nil_append, List.cons_append, v_scalI, v_scalS, v_scalB, v_scalN, v_decI, v_decS, v_decB, v_lsL, v_lsP, v_lsI, v_lsS, v_lsB, v_lsT, v_lsN, v_sqT, v_sqL, v_sqP, v_sqI, v_sqS, v_sqB, v_sqN, v_vI, v_vS, v_vB, v_vN, v_vT, v_vL, v_vP, v_sign, v_map, v_at0, v_at1, v_at2, v_at3, v_at4, v_at5, v_ofs, v_eqS, v_eqI, v_dkP, v_bdS, v_bdI, v_bdB, v_bdN, v_bdT, v_bdL, v_bdP, v_bdsN, v_bdsC, v_lastD, v_lastS, v_kyS, v_kyI, v_tt, v_ff, String.reduceEq, List.foldl_cons, List.foldl_nil, List.any_cons, List.any_nil, List.find?_cons, List.find?_nil, Sum.inr.injEq, Sum.inl.injEq, decide_true, decide_false, Bool.or_false, Bool.or_true, Bool.true_or, Bool.false_or, List.append_cancel_left_eq, Bool.false_eq_true, List.map_cons, List.map_nil, List.mapM_cons, List.mapM_nil, Option.pure_def, Option.bind_eq_bind, Option.bind_some, Option.bind_none, Nat.lt_irrefl, Option.map_some, Option.map_none, and_assoc, Nat.zero_add, Nat.reduceAdd, Nat.reduceLeDiff, Nat.le_refl, sizeLine_eq, and_self, forall_const, Bool.not_eq_true', Bool.not_true, Bool.not_false, decide_eq_false_iff_not, ite_not, w_tokens_4, at_nat hc']
  refine ⟨by omega, ?_⟩
  have go : ∀ (e : Nat), p1 < e → e ≤ z.length → (fs ++ [(cutS z (some (p1 : Int)) (some (e : Int)), p1)]) ++ toks (z.length - e + 1) (z.cps.toList.drop e) e (lastAt (fs ++ [(cutS z (some (p1 : Int)) (some (e : Int)), p1)])) = tkOf z p →
      w_tokens_10 K w ad De [some (.str z), some (.int p1), some (.ptr M.length), some (.int e)] (M ++ [.lst (fs.map tkD)]) := by
    intro e l1 l2 ec
    refine w_tokens_put hz h4 (by omega) (hM fs) ?_
    rw [show (M ++ [MO.lst (fs.map tkD)]).set M.length (.lst ((fs ++ [(cutS z (some (p1 : Int)) (some (e : Int)), p1)]).map tkD)) = M ++ [.lst ((fs ++ [(cutS z (some (p1 : Int)) (some (e : Int)), p1)]).map tkD)] by simp]
    exact hn _ _ (wf _) (ev _ _ _) ⟨z.length - e, by omega, _, e, _, rfl, rfl, rfl, l2, by rw [List.length_append]; show fs.length + 1 ≤ e; omega, ec⟩
  have ei : ((p1 : Int) + 1) = ((p1 + 1 : Nat) : Int) := by omega
  rw [ei]
  split
  · rename_i hbk
    rw [if_pos (show isBlk c = true from decide_eq_true hbk)] at h2
    unfold w_tokens_5
    simp only [dSeq, dIf, dAsg, dgName, dVar, dC, dOp, dNil, dCons, dTup, dTest, dAnd, dOr, dNot, dIfE, dAndV, dOrV, dNotV, dNext, dRet, dRetN, dDrop, dCall, dCallS, wLen, wI, wAdd, wAddI, wAddS, wAddL, wSub, wMod, wDiv, wPow, wLt, wLe, wGt, wGe, wMulB, wMulS, wEqF, wNeF, wIsN, wNotN, wInS, wNotInS, wIx, dNeg, dAug, dAppend, dLst, dLstM, dLstB, dSl, dPart, dNo, wCut, dBreak, dCont, dRaise, dMeth, dFld, wFld, dSetF, dAugF, dgTupF, dgTup, dgCons, dgNil, dgSet, dThen, dSo, dSoE, wIntC, dChain, dMake, wListC, wListM, dDisp, dPsCons, dPsNil, keysOf, DL.putAll, putD, valD, dUpC, inV, wDGet, wDIn, dDPut, dGet2, dPopAt, dJoin, wInL, dIsX, List.getElem?_cons_zero, List.getElem?_cons_succ, List.getElem?_nil, Option.some.injEq, D.int.injEq, D.str.injEq, D.bl.injEq, D.ptr.injEq, D.lst.injEq, D.tup.injEq, D.scr.injEq, D.xc.injEq, D.kr.injEq, D.ty.injEq, MO.lst.injEq, MO.ins.injEq, MO.dK.injEq, V.int.injEq, V.str.injEq, V.bl.injEq, List.cons.injEq, List.set_cons_zero, List.set_cons_succ, and_true, true_and, or_false, false_or, or_true, true_or, and_false, false_and, exists_false, exists_eq_left, exists_eq_left', exists_eq_right, exists_eq_right', exists_eq, exists_eq', exists_and_left, exists_and_right, exists_const, reduceCtorEq, decide_eq_true_eq, if_true, if_false, List.length_cons, List.length_nil, List.append_nil, List.nil_append, List.cons_append, v_scalI, v_scalS, v_scalB, v_scalN, v_decI, v_decS, v_decB, v_lsL, v_lsP, v_lsI, v_lsS, v_lsB, v_lsT, v_lsN, v_sqT, v_sqL, v_sqP, v_sqI, v_sqS, v_sqB, v_sqN, v_vI, v_vS, v_vB, v_vN, v_vT, v_vL, v_vP, v_sign, v_map, v_at0, v_at1, v_at2, v_at3, v_at4, v_at5, v_ofs, v_eqS, v_eqI, v_dkP, v_bdS, v_bdI, v_bdB, v_bdN, v_bdT, v_bdL, v_bdP, v_bdsN, v_bdsC, v_lastD, v_lastS, v_kyS, v_kyI, v_tt, v_ff, String.reduceEq, List.foldl_cons, List.foldl_nil, List.any_cons, List.any_nil, List.find?_cons, List.find?_nil, Sum.inr.injEq, Sum.inl.injEq, decide_true, decide_false, Bool.or_false, Bool.or_true, Bool.true_or, Bool.false_or, List.append_cancel_left_eq, Bool.false_eq_true, List.map_cons, List.map_nil, List.mapM_cons, List.mapM_nil, Option.pure_def, Option.bind_eq_bind, Option.bind_some, Option.bind_none, Nat.lt_irrefl, Option.map_some, Option.map_none, and_assoc, Nat.zero_add, Nat.reduceAdd, Nat.reduceLeDiff, Nat.le_refl, sizeLine_eq, and_self, forall_const, Bool.not_eq_true', Bool.not_true, Bool.not_false, decide_eq_false_iff_not, ite_not, w_tokens_6]
    refine hc _ _ (wf _) (ev _ _ _) ⟨z.length - (p1 + 1), by omega, fs, p1 + 1, _, rfl, rfl, rfl, by omega, by omega, ?_⟩
    have e1 : z.length - (p1 + 1) + 1 = m := by omega
    rw [e1, hr]
    exact h2
  · rename_i hbk
    rw [if_neg (show ¬ isBlk c = true from fun h => hbk (of_decide_eq_true h))] at h2
    have c2 : (isAbc c && lastAt fs) = false → w_tokens_10 K w ad De _ _ := fun hab => go (p1 + 1) (by omega) (by omega) (by
      rw [if_neg (by rw [hab]; exact Bool.false_ne_true)] at h2
      have e5 : p1 + 1 - p1 = 0 + 1 := by omega
      rw [cut_at (by omega) (by omega), hd, e5, List.take_succ_cons, List.take_zero, lastAt_app, hr, toks_fuel _ m _ _ _ (by omega) (by omega), List.append_assoc]
      exact h2)
    have hq : (r.takeWhile isAbc).length ≤ r.length := (List.takeWhile_sublist isAbc).length_le
    have c1 : (isAbc c && lastAt fs) = true → w_tokens_10 K w ad De _ _ := fun hab => go (p1 + 1 + (r.takeWhile isAbc).length) (by omega) (by omega) (by
      rw [if_pos hab] at h2
      have ha : isAbc c = true := (Bool.and_eq_true _ _ ▸ hab).1
      rw [cut_at (by omega) (by omega), hd]
      have e5 : p1 + 1 + (r.takeWhile isAbc).length - p1 = (r.takeWhile isAbc).length + 1 := by omega
      have e6 : z.cps.toList.drop (p1 + 1 + (r.takeWhile isAbc).length) = r.dropWhile isAbc := by rw [← tw_drop, ← hr, List.drop_drop]
      have e7 : (r.dropWhile isAbc).length = z.length - (p1 + 1 + (r.takeWhile isAbc).length) := by rw [← e6, List.length_drop, ← len_cps]
      rw [e5, List.take_succ_cons, tw_take, lastAt_app, name_len ha, e6, toks_fuel _ m _ _ _ (by omega) (by omega), List.append_assoc]
      exact h2)
    unfold w_tokens_7
    simp only [dSeq, dIf, dAsg, dgName, dVar, dC, dOp, dNil, dCons, dTup, dTest, dAnd, dOr, dNot, dIfE, dAndV, dOrV, dNotV, dNext, dRet, dRetN, dDrop, dCall, dCallS, wLen, wI, wAdd, wAddI, wAddS, wAddL, wSub, wMod, wDiv, wPow, wLt, wLe, wGt, wGe, wMulB, wMulS, wEqF, wNeF, wIsN, wNotN, wInS, wNotInS, wIx, dNeg, dAug, dAppend, dLst, dLstM, dLstB, dSl, dPart, dNo, wCut, dBreak, dCont, dRaise, dMeth, dFld, wFld, dSetF, dAugF, dgTupF, dgTup, dgCons, dgNil, dgSet, dThen, dSo, dSoE, wIntC, dChain, dMake, wListC, wListM, dDisp, dPsCons, dPsNil, keysOf, DL.putAll, putD, valD, dUpC, inV, wDGet, wDIn, dDPut, dGet2, dPopAt, dJoin, wInL, dIsX, List.getElem?_cons_zero, List.getElem?_cons_succ, List.getElem?_nil, Option.some.injEq, D.int.injEq, D.str.injEq, D.bl.injEq, D.ptr.injEq, D.lst.injEq, D.tup.injEq, D.scr.injEq, D.xc.injEq, D.kr.injEq, D.ty.injEq, MO.lst.injEq, MO.ins.injEq, MO.dK.injEq, V.int.injEq, V.str.injEq, V.bl.injEq, List.cons.injEq, List.set_cons_zero, List.set_cons_succ, and_true, true_and, or_false, false_or, or_true, true_or, and_false, false_and, exists_false, exists_eq_left, exists_eq_left', exists_eq_right, exists_eq_right', exists_eq, exists_eq', exists_and_left, exists_and_right, exists_const, reduceCtorEq, decide_eq_true_eq, if_true, if_false, List.length_cons, List.length_nil, List.append_nil, List.nil_append, List.cons_append, v_scalI, v_scalS, v_scalB, v_scalN, v_decI, v_decS, v_decB, v_lsL, v_lsP, v_lsI, v_lsS, v_lsB, v_lsT, v_lsN, v_sqT, v_sqL, v_sqP, v_sqI, v_sqS, v_sqB, v_sqN, v_vI, v_vS, v_vB, v_vN, v_vT, v_vL, v_vP, v_sign, v_map, v_at0, v_at1, v_at2, v_at3, v_at4, v_at5, v_ofs, v_eqS, v_eqI, v_dkP, v_bdS, v_bdI, v_bdB, v_bdN, v_bdT, v_bdL, v_bdP, v_bdsN, v_bdsC, v_lastD, v_lastS, v_kyS, v_kyI, v_tt, v_ff, String.reduceEq, List.foldl_cons, List.foldl_nil, List.any_cons, List.any_nil, List.find?_cons, List.find?_nil, Sum.inr.injEq, Sum.inl.injEq, decide_true, decide_false, Bool.or_false, Bool.or_true, Bool.true_or, Bool.false_or, List.append_cancel_left_eq, Bool.false_eq_true, List.map_cons, List.map_nil, List.mapM_cons, List.mapM_nil, Option.pure_def, Option.bind_eq_bind, Option.bind_some, Option.bind_none, Nat.lt_irrefl, Option.map_some, Option.map_none, and_assoc, Nat.zero_add, Nat.reduceAdd, Nat.reduceLeDiff, Nat.le_refl, sizeLine_eq, and_self, forall_const, Bool.not_eq_true', Bool.not_true, Bool.not_false, decide_eq_false_iff_not, ite_not, hM, at_nat hc', List.length_map]
    refine ⟨by omega, ?_⟩
    rcases lastAt_cases fs with ⟨rfl, hf⟩ | ⟨t, tl, l0, ta⟩
    · simp only [List.length_nil, Int.natCast_zero, Int.lt_irrefl, if_false, ite_self]
      exact c2 (by rw [hf, Bool.and_false])
    · simp only [dSeq, dIf, dAsg, dgName, dVar, dC, dOp, dNil, dCons, dTup, dTest, dAnd, dOr, dNot, dIfE, dAndV, dOrV, dNotV, dNext, dRet, dRetN, dDrop, dCall, dCallS, wLen, wI, wAdd, wAddI, wAddS, wAddL, wSub, wMod, wDiv, wPow, wLt, wLe, wGt, wGe, wMulB, wMulS, wEqF, wNeF, wIsN, wNotN, wInS, wNotInS, wIx, dNeg, dAug, dAppend, dLst, dLstM, dLstB, dSl, dPart, dNo, wCut, dBreak, dCont, dRaise, dMeth, dFld, wFld, dSetF, dAugF, dgTupF, dgTup, dgCons, dgNil, dgSet, dThen, dSo, dSoE, wIntC, dChain, dMake, wListC, wListM, dDisp, dPsCons, dPsNil, keysOf, DL.putAll, putD, valD, dUpC, inV, wDGet, wDIn, dDPut, dGet2, dPopAt, dJoin, wInL, dIsX, List.getElem?_cons_zero, List.getElem?_cons_succ, List.getElem?_nil, Option.some.injEq, D.int.injEq, D.str.injEq, D.bl.injEq, D.ptr.injEq, D.lst.injEq, D.tup.injEq, D.scr.injEq, D.xc.injEq, D.kr.injEq, D.ty.injEq, MO.lst.injEq, MO.ins.injEq, MO.dK.injEq, V.int.injEq, V.str.injEq, V.bl.injEq, List.cons.injEq, List.set_cons_zero, List.set_cons_succ, and_true, true_and, or_false, false_or, or_true, true_or, and_false, false_and, exists_false, exists_eq_left, exists_eq_left', exists_eq_right, exists_eq_right', exists_eq, exists_eq', exists_and_left, exists_and_right, exists_const, reduceCtorEq, decide_eq_true_eq, if_true, if_false, List.length_cons, List.length_nil, List.append_nil, List.nil_append, List.cons_append, v_scalI, v_scalS, v_scalB, v_scalN, v_decI, v_decS, v_decB, v_lsL, v_lsP, v_lsI, v_lsS, v_lsB, v_lsT, v_lsN, v_sqT, v_sqL, v_sqP, v_sqI, v_sqS, v_sqB, v_sqN, v_vI, v_vS, v_vB, v_vN, v_vT, v_vL, v_vP, v_sign, v_map, v_at0, v_at1, v_at2, v_at3, v_at4, v_at5, v_ofs, v_eqS, v_eqI, v_dkP, v_bdS, v_bdI, v_bdB, v_bdN, v_bdT, v_bdL, v_bdP, v_bdsN, v_bdsC, v_lastD, v_lastS, v_kyS, v_kyI, v_tt, v_ff, String.reduceEq, List.foldl_cons, List.foldl_nil, List.any_cons, List.any_nil, List.find?_cons, List.find?_nil, Sum.inr.injEq, Sum.inl.injEq, decide_true, decide_false, Bool.or_false, Bool.or_true, Bool.true_or, Bool.false_or, List.append_cancel_left_eq, Bool.false_eq_true, List.map_cons, List.map_nil, List.mapM_cons, List.mapM_nil, Option.pure_def, Option.bind_eq_bind, Option.bind_some, Option.bind_none, Nat.lt_irrefl, Option.map_some, Option.map_none, and_assoc, Nat.zero_add, Nat.reduceAdd, Nat.reduceLeDiff, Nat.le_refl, sizeLine_eq, and_self, forall_const, Bool.not_eq_true', Bool.not_true, Bool.not_false, decide_eq_false_iff_not, ite_not, last_at tl, tkD]
      have l0' : (0 : Int) < fs.length := by omega
      simp only [l0', if_true]
      split
      · rename_i ha
        split
        · rename_i h3
          have h1' := c1 (by rw [ta]; simp [isAbc, ha, h3, abc])
          refine p_tokens_8 hz (wf fs) (.ptr (by simp)) (by omega) ?_
          rw [hr]
          exact h1'
        · rename_i h3
          exact c2 (by rw [ta]; simp [h3])
      · rename_i ha
        exact c2 (by simp [isAbc, ha, abc])
theorem fo_tokens (T : Txt P w K mg ad) : FnOk P w K mg base (L2.CX P w) 1 ad.f_tokens ad.fd_tokens p_tokens (spD K 2 F_tokens) := by
  refine fn_d T.F_tokens sc_tokens (y_tokens T) fun ds M Qd Xd hl h hw hb => ?_
  obtain ⟨z, p, rfl, hp, hz, q⟩ := h
  refine ⟨(show (0 : Nat) ≤ sizeLine by rw [sizeLine_eq]; decide), .inr ?_⟩
  refine ⟨TokI M z p, ⟨_, [], p, none, rfl, rfl, rfl, hp, Nat.zero_le _, ?_⟩, ?_⟩
  · unfold tkOf
    refine toks_fuel _ _ _ _ _ ?_ ?_ <;> rw [List.length_drop, ← len_cps] <;> omega
  rintro m ρ1 M1 ⟨fs, p1, d3, rfl, rfl, em, h1, h4, h2⟩
  have hM : ∀ gs : List Tk, (M ++ [MO.lst (gs.map tkD)])[M.length]? = some (.lst (gs.map tkD)) := fun _ => by simp
  simp only [dSeq, dIf, dAsg, dgName, dVar, dC, dOp, dNil, dCons, dTup, dTest, dAnd, dOr, dNot, dIfE, dAndV, dOrV, dNotV, dNext, dRet, dRetN, dDrop, dCall, dCallS, wLen, wI, wAdd, wAddI, wAddS, wAddL, wSub, wMod, wDiv, wPow, wLt, wLe, wGt, wGe, wMulB, wMulS, wEqF, wNeF, wIsN, wNotN, wInS, wNotInS, wIx, dNeg, dAug, dAppend, dLst, dLstM, dLstB, dSl, dPart, dNo, wCut, dBreak, dCont, dRaise, dMeth, dFld, wFld, dSetF, dAugF, dgTupF, dgTup, dgCons, dgNil, dgSet, dThen, dSo, dSoE, wIntC, dChain, dMake, wListC, wListM, dDisp, dPsCons, dPsNil, keysOf, DL.putAll, putD, valD, dUpC, inV, wDGet, wDIn, dDPut, dGet2, dPopAt, dJoin, wInL, dIsX, List.getElem?_cons_zero, List.getElem?_cons_succ, List.getElem?_nil, Option.some.injEq, D.int.injEq, D.str.injEq, D.bl.injEq, D.ptr.injEq, D.lst.injEq, D.tup.injEq, D.scr.injEq, D.xc.injEq, D.kr.injEq, D.ty.injEq, MO.lst.injEq, MO.ins.injEq, MO.dK.injEq, V.int.injEq, V.str.injEq, V.bl.injEq, List.cons.injEq, List.set_cons_zero, List.set_cons_succ, and_true, true_and, or_false, false_or, or_true, true_or, and_false, false_and, exists_false, exists_eq_left, exists_eq_left', exists_eq_right, exists_eq_right', exists_eq, exists_eq', exists_and_left, exists_and_right, exists_const, reduceCtorEq, decide_eq_true_eq, if_true, if_false, List.length_cons, List.length_nil, List.append_nil, List.nil_append, List.cons_append, v_scalI, v_scalS, v_scalB, v_scalN, v_decI, v_decS, v_decB, v_lsL, v_lsP, v_lsI, v_lsS, v_lsB, v_lsT, v_lsN, v_sqT, v_sqL, v_sqP, v_sqI, v_sqS, v_sqB, v_sqN, v_vI, v_vS, v_vB, v_vN, v_vT, v_vL, v_vP, v_sign, v_map, v_at0, v_at1, v_at2, v_at3, v_at4, v_at5, v_ofs, v_eqS, v_eqI, v_dkP, v_bdS, v_bdI, v_bdB, v_bdN, v_bdT, v_bdL, v_bdP, v_bdsN, v_bdsC, v_lastD, v_lastS, v_kyS, v_kyI, v_tt, v_ff, String.reduceEq, List.foldl_cons, List.foldl_nil, List.any_cons, List.any_nil, List.find?_cons, List.find?_nil, Sum.inr.injEq, Sum.inl.injEq, decide_true, decide_false, Bool.or_false, Bool.or_true, Bool.true_or, Bool.false_or, List.append_cancel_left_eq, Bool.false_eq_true, List.map_cons, List.map_nil, List.mapM_cons, List.mapM_nil, Option.pure_def, Option.bind_eq_bind, Option.bind_some, Option.bind_none, Nat.lt_irrefl, Option.map_some, Option.map_none, and_assoc, Nat.zero_add, Nat.reduceAdd, Nat.reduceLeDiff, Nat.le_refl, sizeLine_eq, and_self, forall_const, Bool.not_eq_true', Bool.not_true, Bool.not_false, decide_eq_false_iff_not, ite_not]
  refine ⟨by omega, ?_⟩
  split
  · exact u_tokens_3 hz hw em h4 (by omega) h2 (fun ρ' M' w' e' h w'' e'' => Up.all (by obtain ⟨_, _, _, _, _, _, rfl, _⟩ := h; simp) w' e' h) (fun ρ' M' w' e' h => Up.all (by obtain ⟨_, _, _, _, _, _, rfl, _⟩ := h; simp) w' e' h)
  · have hp1 : p1 = z.length := by omega
    have hd : z.cps.toList.drop p1 = [] := List.drop_eq_nil_of_le (by rw [← len_cps]; omega)
    rw [hd] at h2
    have h3 : fs ++ [(("" : Str), p1)] = tkOf z p := h2
    unfold w_tokens_12
    simp only [dSeq, dIf, dAsg, dgName, dVar, dC, dOp, dNil, dCons, dTup, dTest, dAnd, dOr, dNot, dIfE, dAndV, dOrV, dNotV, dNext, dRet, dRetN, dDrop, dCall, dCallS, wLen, wI, wAdd, wAddI, wAddS, wAddL, wSub, wMod, wDiv, wPow, wLt, wLe, wGt, wGe, wMulB, wMulS, wEqF, wNeF, wIsN, wNotN, wInS, wNotInS, wIx, dNeg, dAug, dAppend, dLst, dLstM, dLstB, dSl, dPart, dNo, wCut, dBreak, dCont, dRaise, dMeth, dFld, wFld, dSetF, dAugF, dgTupF, dgTup, dgCons, dgNil, dgSet, dThen, dSo, dSoE, wIntC, dChain, dMake, wListC, wListM, dDisp, dPsCons, dPsNil, keysOf, DL.putAll, putD, valD, dUpC, inV, wDGet, wDIn, dDPut, dGet2, dPopAt, dJoin, wInL, dIsX, List.getElem?_cons_zero, List.getElem?_cons_succ, List.getElem?_nil, Option.some.injEq, D.int.injEq, D.str.injEq, D.bl.injEq, D.ptr.injEq, D.lst.injEq, D.tup.injEq, D.scr.injEq, D.xc.injEq, D.kr.injEq, D.ty.injEq, MO.lst.injEq, MO.ins.injEq, MO.dK.injEq, V.int.injEq, V.str.injEq, V.bl.injEq, List.cons.injEq, List.set_cons_zero, List.set_cons_succ, and_true, true_and, or_false, false_or, or_true, true_or, and_false, false_and, exists_false, exists_eq_left, exists_eq_left', exists_eq_right, exists_eq_right', exists_eq, exists_eq', exists_and_left, exists_and_right, exists_const, reduceCtorEq, decide_eq_true_eq, if_true, if_false, List.length_cons, List.length_nil, List.append_nil, List.nil_append, List.cons_append, v_scalI, v_scalS, v_scalB, v_scalN, v_decI, v_decS, v_decB, v_lsL, v_lsP, v_lsI, v_lsS, v_lsB, v_lsT, v_lsN, v_sqT, v_sqL, v_sqP, v_sqI, v_sqS, v_sqB, v_sqN, v_vI, v_vS, v_vB, v_vN, v_vT, v_vL, v_vP, v_sign, v_map, v_at0, v_at1, v_at2, v_at3, v_at4, v_at5, v_ofs, v_eqS, v_eqI, v_dkP, v_bdS, v_bdI, v_bdB, v_bdN, v_bdT, v_bdL, v_bdP, v_bdsN, v_bdsC, v_lastD, v_lastS, v_kyS, v_kyI, v_tt, v_ff, String.reduceEq, List.foldl_cons, List.foldl_nil, List.any_cons, List.any_nil, List.find?_cons, List.find?_nil, Sum.inr.injEq, Sum.inl.injEq, decide_true, decide_false, Bool.or_false, Bool.or_true, Bool.true_or, Bool.false_or, List.append_cancel_left_eq, Bool.false_eq_true, List.map_cons, List.map_nil, List.mapM_cons, List.mapM_nil, Option.pure_def, Option.bind_eq_bind, Option.bind_some, Option.bind_none, Nat.lt_irrefl, Option.map_some, Option.map_none, and_assoc, Nat.zero_add, Nat.reduceAdd, Nat.reduceLeDiff, Nat.le_refl, sizeLine_eq, and_self, forall_const, Bool.not_eq_true', Bool.not_true, Bool.not_false, decide_eq_false_iff_not, ite_not, hM, w_tokens_13, List.length_map]
    refine ⟨by omega, by omega, fun w' d' => ?_⟩
    have em2 : M ++ [MO.lst (fs.map tkD ++ [.tup [.str "", .int z.length]])] = M ++ [.lst ((tkOf z p).map tkD)] := by
      rw [← h3, hp1, List.map_append]
      simp [tkD]
    show UpV M.length Qd (.ptr M.length) _
    rw [em2]
    exact UpV.frz (t := []) hw (bd_tks _) q (Nat.le_refl _)

end
end K87

namespace K87
open PySem PySem.Spec PyProof.Rows L2 DL
section
variable {P : Program} {w : World} {K : PySem.W.Frag} {mg : Str → Option Value} {base : Heap} {ad : Ad}
/-! ### the parser is made; read_form -/
def F_init (ad : Ad) : FD := fun ds M Qd _ => ∃ (k : Nat) (L z : Str) (p : Nat), ds = [.ptr k, .str L, .str z, .int p] ∧ M[k]? = some (.ins ad.C_Formula []) ∧ p ≤ z.length ∧ z.length < 1000000 ∧ Qd .non (M.set k (fmO ad L (tkOf z p) 0 0))
/-! Formula.__init__ -/
def w_init_4 (K : PySem.W.Frag) (w : World) (ad : Ad) : SW := dSetF K (dVar 0) (dC (.int 0)) "deep"
def w_init_3 (K : PySem.W.Frag) (w : World) (ad : Ad) : SW := dSeq (dSetF K (dVar 0) (dC (.int 0)) "now") (w_init_4 K w ad)
def w_init_2 (K : PySem.W.Frag) (w : World) (ad : Ad) : SW := dSeq (dSetF K (dVar 0) (dCallS 2 F_tokens (dCons (dVar 2) (dCons (dVar 3) dNil))) "tokens") (w_init_3 K w ad)
def w_init_1 (K : PySem.W.Frag) (w : World) (ad : Ad) : SW := dSeq (dSetF K (dVar 0) (dVar 1) "letters") (w_init_2 K w ad)
def w_init (K : PySem.W.Frag) (w : World) (ad : Ad) : SW := (w_init_1 K w ad)
theorem y_init (T : Txt P w K mg ad) (E : XK) : DSs (XB P w K mg base n_init "Formula.__init__" (defScope s_init) ad.f_init 1 E) K (WF E) (defBody s_init) (w_init K w ad) := by
  unfold w_init w_init_1 w_init_2 w_init_3 w_init_4
  exact (dss_cons (ds_fld (fun _ => rfl) (de_var 0) (de_var 1)) (dss_cons (ds_fld (fun _ => rfl) (de_var 0) (de_callS (fun _ => (fo_tokens T)) (fun i => (xb_room i).mono (by decide)) (fun i => xb_takes i) (fun _ => T.g_tokens) (fun _ => T.F_tokens.kp) (fun _ => T.b_tokens) (da_cons (de_var 2) (da_cons (de_var 3) da_nil)))) (dss_cons (ds_fld (fun _ => rfl) (de_var 0) de_int) (dss_one (ds_fld (fun _ => rfl) (de_var 0) de_int)))))
theorem fo_init (T : Txt P w K mg ad) : FnOk P w K mg base (L2.CX P w) 2 ad.f_init ad.fd_init p_init (spD K 4 (F_init ad)) := by
  refine fn_d T.F_init sc_init (y_init T) fun ds M Qd Xd hl h hw hb => ?_
  obtain ⟨k, L, z, p, rfl, hk, hp, hz, q⟩ := h
  unfold w_init w_init_1 startD
  simp only [dSeq, dIf, dAsg, dgName, dVar, dC, dOp, dNil, dCons, dTup, dTest, dAnd, dOr, dNot, dIfE, dAndV, dOrV, dNotV, dNext, dRet, dRetN, dDrop, dCall, dCallS, wLen, wI, wAdd, wAddI, wAddS, wAddL, wSub, wMod, wDiv, wPow, wLt, wLe, wGt, wGe, wMulB, wMulS, wEqF, wNeF, wIsN, wNotN, wInS, wNotInS, wIx, dNeg, dAug, dAppend, dLst, dLstM, dLstB, dSl, dPart, dNo, wCut, dBreak, dCont, dRaise, dMeth, dFld, wFld, dSetF, dAugF, dgTupF, dgTup, dgCons, dgNil, dgSet, dThen, dSo, dSoE, wIntC, dChain, dMake, wListC, wListM, dDisp, dPsCons, dPsNil, keysOf, DL.putAll, putD, valD, dUpC, inV, wDGet, wDIn, dDPut, dGet2, dPopAt, dJoin, wInL, dIsX, List.getElem?_cons_zero, List.getElem?_cons_succ, List.getElem?_nil, Option.some.injEq, D.int.injEq, D.str.injEq, D.bl.injEq, D.ptr.injEq, D.lst.injEq, D.tup.injEq, D.scr.injEq, D.xc.injEq, D.kr.injEq, D.ty.injEq, MO.lst.injEq, MO.ins.injEq, MO.dK.injEq, V.int.injEq, V.str.injEq, V.bl.injEq, List.cons.injEq, List.set_cons_zero, List.set_cons_succ, and_true, true_and, or_false, false_or, or_true, true_or, and_false, false_and, exists_false, exists_eq_left, exists_eq_left', exists_eq_right, exists_eq_right', exists_eq, exists_eq', exists_and_left, exists_and_right, exists_const, reduceCtorEq, decide_eq_true_eq, if_true, if_false, List.length_cons, List.length_nil, List.append_nil, List.nil_append, List.cons_append, v_scalI, v_scalS, v_scalB, v_scalN, v_decI, v_decS, v_decB, v_lsL, v_lsP, v_lsI, v_lsS, v_lsB, v_lsT, v_lsN, v_sqT, v_sqL, v_sqP, v_sqI, v_sqS, v_sqB, v_sqN, v_vI, v_vS, v_vB, v_vN, v_vT, v_vL, v_vP, v_sign, v_map, v_at0, v_at1, v_at2, v_at3, v_at4, v_at5, v_ofs, v_eqS, v_eqI, v_dkP, v_bdS, v_bdI, v_bdB, v_bdN, v_bdT, v_bdL, v_bdP, v_bdsN, v_bdsC, v_lastD, v_lastS, v_kyS, v_kyI, v_tt, v_ff, String.reduceEq, List.foldl_cons, List.foldl_nil, List.any_cons, List.any_nil, List.find?_cons, List.find?_nil, Sum.inr.injEq, Sum.inl.injEq, decide_true, decide_false, Bool.or_false, Bool.or_true, Bool.true_or, Bool.false_or, List.append_cancel_left_eq, Bool.false_eq_true, List.map_cons, List.map_nil, List.mapM_cons, List.mapM_nil, Option.pure_def, Option.bind_eq_bind, Option.bind_some, Option.bind_none, Nat.lt_irrefl, Option.map_some, Option.map_none, and_assoc, Nat.zero_add, Nat.reduceAdd, Nat.reduceLeDiff, Nat.le_refl, sizeLine_eq, and_self, forall_const, Bool.not_eq_true', Bool.not_true, Bool.not_false, decide_eq_false_iff_not, ite_not, w_init_2, w_init_3, w_init_4, hk, set_at hk, set_at (set_at hk), set_at (set_at (set_at hk)), T.na_Formula_now, T.na_Formula_deep, T.na_Formula_letters, T.na_Formula_tokens, T.cl_Formula, F_tokens, List.set_set, List.map_cons, List.map_nil, Int.natCast_inj]
  exact ⟨by decide, hp, hz, (show (1 : Nat) < 1000 by decide), (show (2 : Nat) < 1000 by decide), (show (3 : Nat) < 1000 by decide), fun w' => UpV.all (by simp) w' .non q⟩
def pRead (L z : Str) (p : Nat) : Option (Except Nat D) := match pOrs (pHead 61) L (tkOf z p) 0 0 with
  | none => none
  | some (.error q) => some (.error q)
  | some (.ok x) => match (tkOf z p)[x.2]? with
    | none => none
    | some t => if t.1 = "" then some (.ok x.1) else some (.error t.2)
def F_ors (ad : Ad) : FD := F_ring ad (pOrs (pHead 61))
theorem fo_ors (T : Txt P w K mg ad) : FnL P w K mg base 313 ad.f_ors ad.fd_ors p_ors (spD K 1 (F_ors ad)) := fo_orsN T 61
def F_read (ad : Ad) : FD := fun ds M Qd Xd => ∃ (L z : Str) (p : Nat) (r : Except Nat D), ds = [.str L, .str z, .int p] ∧ p ≤ z.length ∧ z.length < 1000000 ∧ pRead L z p = some r ∧ (∀ d, r = .ok d → Bd 0 d ∧ Qd d M) ∧ (∀ q, r = .error q → Xd ad.C_Misread (errF q) M)
/-! read_form -/
def w_read_4 (K : PySem.W.Frag) (w : World) (ad : Ad) : SW := dDrop (dMeth ad.C_Formula "wrong" 1 (F_wrong ad) (dVar 3) dNil)
def w_read_5 (K : PySem.W.Frag) (w : World) (ad : Ad) : SW := dRet (dVar 4)
def w_read_3 (K : PySem.W.Frag) (w : World) (ad : Ad) : SW := dSeq (dIf (dTest (dOp wNeF (dMeth ad.C_Formula "next_word" 1 (F_next ad) (dVar 3) dNil) (dC (.str "")))) (w_read_4 K w ad) dNext) (w_read_5 K w ad)
def w_read_2 (K : PySem.W.Frag) (w : World) (ad : Ad) : SW := dSeq (dAsg (dMeth ad.C_Formula "ors" 1 (F_ors ad) (dVar 3) dNil) (dgName 4)) (w_read_3 K w ad)
def w_read_1 (K : PySem.W.Frag) (w : World) (ad : Ad) : SW := dSeq (dAsg (dMake ad.C_Formula 4 (F_init ad) (dCons (dVar 0) (dCons (dVar 1) (dCons (dVar 2) dNil)))) (dgName 3)) (w_read_2 K w ad)
def w_read (K : PySem.W.Frag) (w : World) (ad : Ad) : SW := (w_read_1 K w ad)
theorem y_read (T : Txt P w K mg ad) (E : XK) : DSs (XB P w K mg base n_read "read_form" (defScope s_read) ad.f_read 190 E) K (WF E) (defBody s_read) (w_read K w ad) := by
  unfold w_read w_read_1 w_read_2 w_read_3 w_read_5 w_read_4
  exact (dss_cons (ds_set 3 (de_make (fun _ => T.mk_Formula) (fun _ => (fo_init T)) (fun i => (xb_room i).mono (by decide)) (fun _ => T.g_Formula) (fun _ => T.b_init) (da_cons (de_var 0) (da_cons (de_var 1) (da_cons (de_var 2) da_nil)))) (fun _ => sc_read.nd)) (dss_cons (ds_set 4 (de_methL0 (de_var 3) (fun _ => T.cl_Formula) (fun _ => T.m_ors) (fun _ => (fo_ors T)) (fun i => roomL_of (xb_room i) (by decide) (by decide)) (fun i => xb_takes i) (fun _ => T.b_ors)) (fun _ => sc_read.nd)) (dss_cons (ds_if (dt_cmp do_neF (de_meth0 (de_var 3) (fun _ => T.cl_Formula) (fun _ => T.m_next) (fun _ => (fo_next T)) (fun i => (xb_room i).mono (by decide)) (fun i => xb_takes i) (fun _ => T.b_next)) de_str) (dss_one (ds_expr (de_meth0 (de_var 3) (fun _ => T.cl_Formula) (fun _ => T.m_wrong) (fun _ => (fo_wrong T)) (fun i => (xb_room i).mono (by decide)) (fun i => xb_takes i) (fun _ => T.b_wrong)))) dss_nil) (dss_one (ds_ret (de_var 4))))))
theorem fo_read (T : Txt P w K mg ad) : FnOk P w K mg base (L2.CX P w) 191 ad.f_read ad.fd_read p_read (spD K 3 (F_read ad)) := by
  refine fn_d T.F_read sc_read (y_read T) fun ds M Qd Xd hl h hw hb => ?_
  obtain ⟨L, z, p, r, rfl, hp, hz, er, q1, q2⟩ := h
  unfold w_read w_read_1
  simp only [startD, List.map_cons, List.map_nil, List.length_cons, List.length_nil, Nat.reduceAdd, Nat.reduceSub, List.replicate_succ, List.replicate_zero, List.cons_append, List.nil_append]
  have ex : ∀ i j : Nat, (M ++ [MO.ins ad.C_Formula []]).set M.length (fmO ad L (tkOf z p) i j) = M ++ [fmO ad L (tkOf z p) i j] := by simp
  have qX : ∀ ρ q, r = .error q → ∀ i j : Nat, (DsF M Qd Xd).ex ad.C_Misread (errF q) ρ (M ++ [fmO ad L (tkOf z p) i j]) := fun ρ q e i j w' d => UpX.cut (Nat.le_refl _) hw (fun x hx => by
    rcases List.mem_cons.mp hx with rfl | hx
    · exact .str _
    rcases List.mem_cons.mp hx with rfl | hx
    · exact .int _
    cases hx) (q2 q e)
  simp only [dSeq, dIf, dAsg, dgName, dVar, dC, dOp, dNil, dCons, dTup, dTest, dAnd, dOr, dNot, dIfE, dAndV, dOrV, dNotV, dNext, dRet, dRetN, dDrop, dCall, dCallS, wLen, wI, wAdd, wAddI, wAddS, wAddL, wSub, wMod, wDiv, wPow, wLt, wLe, wGt, wGe, wMulB, wMulS, wEqF, wNeF, wIsN, wNotN, wInS, wNotInS, wIx, dNeg, dAug, dAppend, dLst, dLstM, dLstB, dSl, dPart, dNo, wCut, dBreak, dCont, dRaise, dMeth, dFld, wFld, dSetF, dAugF, dgTupF, dgTup, dgCons, dgNil, dgSet, dThen, dSo, dSoE, wIntC, dChain, dMake, wListC, wListM, dDisp, dPsCons, dPsNil, keysOf, DL.putAll, putD, valD, dUpC, inV, wDGet, wDIn, dDPut, dGet2, dPopAt, dJoin, wInL, dIsX, List.getElem?_cons_zero, List.getElem?_cons_succ, List.getElem?_nil, Option.some.injEq, D.int.injEq, D.str.injEq, D.bl.injEq, D.ptr.injEq, D.lst.injEq, D.tup.injEq, D.scr.injEq, D.xc.injEq, D.kr.injEq, D.ty.injEq, MO.lst.injEq, MO.ins.injEq, MO.dK.injEq, V.int.injEq, V.str.injEq, V.bl.injEq, List.cons.injEq, List.set_cons_zero, List.set_cons_succ, and_true, true_and, or_false, false_or, or_true, true_or, and_false, false_and, exists_false, exists_eq_left, exists_eq_left', exists_eq_right, exists_eq_right', exists_eq, exists_eq', exists_and_left, exists_and_right, exists_const, reduceCtorEq, decide_eq_true_eq, if_true, if_false, List.length_cons, List.length_nil, List.append_nil, List.nil_append, List.cons_append, v_scalI, v_scalS, v_scalB, v_scalN, v_decI, v_decS, v_decB, v_lsL, v_lsP, v_lsI, v_lsS, v_lsB, v_lsT, v_lsN, v_sqT, v_sqL, v_sqP, v_sqI, v_sqS, v_sqB, v_sqN, v_vI, v_vS, v_vB, v_vN, v_vT, v_vL, v_vP, v_sign, v_map, v_at0, v_at1, v_at2, v_at3, v_at4, v_at5, v_ofs, v_eqS, v_eqI, v_dkP, v_bdS, v_bdI, v_bdB, v_bdN, v_bdT, v_bdL, v_bdP, v_bdsN, v_bdsC, v_lastD, v_lastS, v_kyS, v_kyI, v_tt, v_ff, String.reduceEq, List.foldl_cons, List.foldl_nil, List.any_cons, List.any_nil, List.find?_cons, List.find?_nil, Sum.inr.injEq, Sum.inl.injEq, decide_true, decide_false, Bool.or_false, Bool.or_true, Bool.true_or, Bool.false_or, List.append_cancel_left_eq, Bool.false_eq_true, List.map_cons, List.map_nil, List.mapM_cons, List.mapM_nil, Option.pure_def, Option.bind_eq_bind, Option.bind_some, Option.bind_none, Nat.lt_irrefl, Option.map_some, Option.map_none, and_assoc, Nat.zero_add, Nat.reduceAdd, Nat.reduceLeDiff, Nat.le_refl, sizeLine_eq, and_self, forall_const, Bool.not_eq_true', Bool.not_true, Bool.not_false, decide_eq_false_iff_not, ite_not, F_init, app_last, List.map_cons, List.map_nil, Int.natCast_inj]
  refine ⟨hp, hz, ?_⟩
  show w_read_2 K w ad (DsF M Qd Xd) _ (M ++ [fmO ad L (tkOf z p) (0 : Nat) (0 : Nat)])
  have f : ∀ i j : Nat, FmAt ad (M ++ [fmO ad L (tkOf z p) i j]) M.length L (tkOf z p) i j := fun i j => ⟨app_last⟩
  have sm : ∀ a b i j : Nat, (M ++ [fmO ad L (tkOf z p) a b]).set M.length (fmO ad L (tkOf z p) i j) = M ++ [fmO ad L (tkOf z p) i j] := by simp
  unfold pRead at er
  unfold w_read_2
  refine ⟨_, rfl, M.length, _, rfl, (f 0 0).o, rfl, rfl, M.length, L, tkOf z p, 0, 0, ?_⟩
  cases h : pOrs (pHead 61) L (tkOf z p) 0 0 with
  | none => rw [h] at er; cases er
  | some r1 =>
    rw [h] at er
    refine ⟨r1, rfl, f 0 0, by omega, rfl, ?_⟩
    cases r1 with
    | error q =>
      intro i j
      have e := (Option.some.inj er).symm
      rw [sm]
      exact qX [] q e i j
    | ok x =>
      obtain ⟨d, n⟩ := x
      dsimp only at er ⊢
      rw [sm]
      cases ht : (tkOf z p)[n]? with
      | none => rw [ht] at er; cases er
      | some t =>
        rw [ht] at er
        dsimp only at er
        unfold w_read_3
        have fn := (f n 0).o
        simp only [dSeq, dIf, dAsg, dgName, dVar, dC, dOp, dNil, dCons, dTup, dTest, dAnd, dOr, dNot, dIfE, dAndV, dOrV, dNotV, dNext, dRet, dRetN, dDrop, dCall, dCallS, wLen, wI, wAdd, wAddI, wAddS, wAddL, wSub, wMod, wDiv, wPow, wLt, wLe, wGt, wGe, wMulB, wMulS, wEqF, wNeF, wIsN, wNotN, wInS, wNotInS, wIx, dNeg, dAug, dAppend, dLst, dLstM, dLstB, dSl, dPart, dNo, wCut, dBreak, dCont, dRaise, dMeth, dFld, wFld, dSetF, dAugF, dgTupF, dgTup, dgCons, dgNil, dgSet, dThen, dSo, dSoE, wIntC, dChain, dMake, wListC, wListM, dDisp, dPsCons, dPsNil, keysOf, DL.putAll, putD, valD, dUpC, inV, wDGet, wDIn, dDPut, dGet2, dPopAt, dJoin, wInL, dIsX, List.getElem?_cons_zero, List.getElem?_cons_succ, List.getElem?_nil, Option.some.injEq, D.int.injEq, D.str.injEq, D.bl.injEq, D.ptr.injEq, D.lst.injEq, D.tup.injEq, D.scr.injEq, D.xc.injEq, D.kr.injEq, D.ty.injEq, MO.lst.injEq, MO.ins.injEq, MO.dK.injEq, V.int.injEq, V.str.injEq, V.bl.injEq, List.cons.injEq, List.set_cons_zero, List.set_cons_succ, and_true, true_and, or_false, false_or, or_true, true_or, and_false, false_and, exists_false, exists_eq_left, exists_eq_left', exists_eq_right, exists_eq_right', exists_eq, exists_eq', exists_and_left, exists_and_right, exists_const, reduceCtorEq, decide_eq_true_eq, if_true, if_false, List.length_cons, List.length_nil, List.append_nil, List.nil_append, List.cons_append, v_scalI, v_scalS, v_scalB, v_scalN, v_decI, v_decS, v_decB, v_lsL, v_lsP, v_lsI, v_lsS, v_lsB, v_lsT, v_lsN, v_sqT, v_sqL, v_sqP, v_sqI, v_sqS, v_sqB, v_sqN, v_vI, v_vS, v_vB, v_vN, v_vT, v_vL, v_vP, v_sign, v_map, v_at0, v_at1, v_at2, v_at3, v_at4, v_at5, v_ofs, v_eqS, v_eqI, v_dkP, v_bdS, v_bdI, v_bdB, v_bdN, v_bdT, v_bdL, v_bdP, v_bdsN, v_bdsC, v_lastD, v_lastS, v_kyS, v_kyI, v_tt, v_ff, String.reduceEq, List.foldl_cons, List.foldl_nil, List.any_cons, List.any_nil, List.find?_cons, List.find?_nil, Sum.inr.injEq, Sum.inl.injEq, decide_true, decide_false, Bool.or_false, Bool.or_true, Bool.true_or, Bool.false_or, List.append_cancel_left_eq, Bool.false_eq_true, List.map_cons, List.map_nil, List.mapM_cons, List.mapM_nil, Option.pure_def, Option.bind_eq_bind, Option.bind_some, Option.bind_none, Nat.lt_irrefl, Option.map_some, Option.map_none, and_assoc, Nat.zero_add, Nat.reduceAdd, Nat.reduceLeDiff, Nat.le_refl, sizeLine_eq, and_self, forall_const, Bool.not_eq_true', Bool.not_true, Bool.not_false, decide_eq_false_iff_not, ite_not, F_next]
        refine ⟨_, rfl, rfl, L, tkOf z p, n, ⟨0, f n 0⟩, t, ht, ?_⟩
        split
        · rename_i e
          rw [if_pos e] at er
          obtain ⟨b, q⟩ := q1 d (Option.some.inj er).symm
          unfold w_read_5
          simp only [dSeq, dIf, dAsg, dgName, dVar, dC, dOp, dNil, dCons, dTup, dTest, dAnd, dOr, dNot, dIfE, dAndV, dOrV, dNotV, dNext, dRet, dRetN, dDrop, dCall, dCallS, wLen, wI, wAdd, wAddI, wAddS, wAddL, wSub, wMod, wDiv, wPow, wLt, wLe, wGt, wGe, wMulB, wMulS, wEqF, wNeF, wIsN, wNotN, wInS, wNotInS, wIx, dNeg, dAug, dAppend, dLst, dLstM, dLstB, dSl, dPart, dNo, wCut, dBreak, dCont, dRaise, dMeth, dFld, wFld, dSetF, dAugF, dgTupF, dgTup, dgCons, dgNil, dgSet, dThen, dSo, dSoE, wIntC, dChain, dMake, wListC, wListM, dDisp, dPsCons, dPsNil, keysOf, DL.putAll, putD, valD, dUpC, inV, wDGet, wDIn, dDPut, dGet2, dPopAt, dJoin, wInL, dIsX, List.getElem?_cons_zero, List.getElem?_cons_succ, List.getElem?_nil, Option.some.injEq, D.int.injEq, D.str.injEq, D.bl.injEq, D.ptr.injEq, D.lst.injEq, D.tup.injEq, D.scr.injEq, D.xc.injEq, D.kr.injEq, D.ty.injEq, MO.lst.injEq, MO.ins.injEq, MO.dK.injEq, V.int.injEq, V.str.injEq, V.bl.injEq, List.cons.injEq, List.set_cons_zero, List.set_cons_succ, and_true, true_and, or_false, false_or, or_true, true_or, and_false, false_and, exists_false, exists_eq_left, exists_eq_left', exists_eq_right, exists_eq_right', exists_eq, exists_eq', exists_and_left, exists_and_right, exists_const, reduceCtorEq, decide_eq_true_eq, if_true, if_false, List.length_cons, List.length_nil, List.append_nil, List.nil_append, List.cons_append, v_scalI, v_scalS, v_scalB, v_scalN, v_decI, v_decS, v_decB, v_lsL, v_lsP, v_lsI, v_lsS, v_lsB, v_lsT, v_lsN, v_sqT, v_sqL, v_sqP, v_sqI, v_sqS, v_sqB, v_sqN, v_vI, v_vS, v_vB, v_vN, v_vT, v_vL, v_vP, v_sign, v_map, v_at0, v_at1, v_at2, v_at3, v_at4, v_at5, v_ofs, v_eqS, v_eqI, v_dkP, v_bdS, v_bdI, v_bdB, v_bdN, v_bdT, v_bdL, v_bdP, v_bdsN, v_bdsC, v_lastD, v_lastS, v_kyS, v_kyI, v_tt, v_ff, String.reduceEq, List.foldl_cons, List.foldl_nil, List.any_cons, List.any_nil, List.find?_cons, List.find?_nil, Sum.inr.injEq, Sum.inl.injEq, decide_true, decide_false, Bool.or_false, Bool.or_true, Bool.true_or, Bool.false_or, List.append_cancel_left_eq, Bool.false_eq_true, List.map_cons, List.map_nil, List.mapM_cons, List.mapM_nil, Option.pure_def, Option.bind_eq_bind, Option.bind_some, Option.bind_none, Nat.lt_irrefl, Option.map_some, Option.map_none, and_assoc, Nat.zero_add, Nat.reduceAdd, Nat.reduceLeDiff, Nat.le_refl, sizeLine_eq, and_self, forall_const, Bool.not_eq_true', Bool.not_true, Bool.not_false, decide_eq_false_iff_not, ite_not]
          exact fun w' _ => UpV.cut (Nat.le_refl _) hw (b.mono (Nat.zero_le _)) q
        · rename_i e
          rw [if_neg e] at er
          unfold w_read_4
          simp only [dSeq, dIf, dAsg, dgName, dVar, dC, dOp, dNil, dCons, dTup, dTest, dAnd, dOr, dNot, dIfE, dAndV, dOrV, dNotV, dNext, dRet, dRetN, dDrop, dCall, dCallS, wLen, wI, wAdd, wAddI, wAddS, wAddL, wSub, wMod, wDiv, wPow, wLt, wLe, wGt, wGe, wMulB, wMulS, wEqF, wNeF, wIsN, wNotN, wInS, wNotInS, wIx, dNeg, dAug, dAppend, dLst, dLstM, dLstB, dSl, dPart, dNo, wCut, dBreak, dCont, dRaise, dMeth, dFld, wFld, dSetF, dAugF, dgTupF, dgTup, dgCons, dgNil, dgSet, dThen, dSo, dSoE, wIntC, dChain, dMake, wListC, wListM, dDisp, dPsCons, dPsNil, keysOf, DL.putAll, putD, valD, dUpC, inV, wDGet, wDIn, dDPut, dGet2, dPopAt, dJoin, wInL, dIsX, List.getElem?_cons_zero, List.getElem?_cons_succ, List.getElem?_nil, Option.some.injEq, D.int.injEq, D.str.injEq, D.bl.injEq, D.ptr.injEq, D.lst.injEq, D.tup.injEq, D.scr.injEq, D.xc.injEq, D.kr.injEq, D.ty.injEq, MO.lst.injEq, MO.ins.injEq, MO.dK.injEq, V.int.injEq, V.str.injEq, V.bl.injEq, List.cons.injEq, List.set_cons_zero, List.set_cons_succ, and_true, true_and, or_false, false_or, or_true, true_or, and_false, false_and, exists_false, exists_eq_left, exists_eq_left', exists_eq_right, exists_eq_right', exists_eq, exists_eq', exists_and_left, exists_and_right, exists_const, reduceCtorEq, decide_eq_true_eq, if_true, if_false, List.length_cons, List.length_nil, List.append_nil, List.nil_append, List.cons_append, v_scalI, v_scalS, v_scalB, v_scalN, v_decI, v_decS, v_decB, v_lsL, v_lsP, v_lsI, v_lsS, v_lsB, v_lsT, v_lsN, v_sqT, v_sqL, v_sqP, v_sqI, v_sqS, v_sqB, v_sqN, v_vI, v_vS, v_vB, v_vN, v_vT, v_vL, v_vP, v_sign, v_map, v_at0, v_at1, v_at2, v_at3, v_at4, v_at5, v_ofs, v_eqS, v_eqI, v_dkP, v_bdS, v_bdI, v_bdB, v_bdN, v_bdT, v_bdL, v_bdP, v_bdsN, v_bdsC, v_lastD, v_lastS, v_kyS, v_kyI, v_tt, v_ff, String.reduceEq, List.foldl_cons, List.foldl_nil, List.any_cons, List.any_nil, List.find?_cons, List.find?_nil, Sum.inr.injEq, Sum.inl.injEq, decide_true, decide_false, Bool.or_false, Bool.or_true, Bool.true_or, Bool.false_or, List.append_cancel_left_eq, Bool.false_eq_true, List.map_cons, List.map_nil, List.mapM_cons, List.mapM_nil, Option.pure_def, Option.bind_eq_bind, Option.bind_some, Option.bind_none, Nat.lt_irrefl, Option.map_some, Option.map_none, and_assoc, Nat.zero_add, Nat.reduceAdd, Nat.reduceLeDiff, Nat.le_refl, sizeLine_eq, and_self, forall_const, Bool.not_eq_true', Bool.not_true, Bool.not_false, decide_eq_false_iff_not, ite_not, F_wrong]
          refine ⟨_, rfl, rfl, L, tkOf z p, n, ⟨0, f n 0⟩, t, ht, ?_⟩
          exact qX _ _ (Option.some.inj er).symm n 0
/-- what the law is told -/
def toldD : Except Nat D → D
  | .ok d => .tup [.str "told", d]
  | .error q => .tup [.str "misread", .int q]
def F_told (ad : Ad) : FD := fun ds M Qd _ => ∃ (L z : Str) (p : Nat) (r : Except Nat D), ds = [.str L, .str z, .int p] ∧ p ≤ z.length ∧ z.length < 1000000 ∧ pRead L z p = some r ∧ (∀ d, r = .ok d → Bd 0 d) ∧ Qd (toldD r) M
/-! _law_told -/
def w_told_2 (K : PySem.W.Frag) (w : World) (ad : Ad) : SW := dRet (dTup (dCons (dC (.str "told")) (dCons (dCallS 3 (F_read ad) (dCons (dVar 0) (dCons (dVar 1) (dCons (dVar 2) dNil)))) dNil)))
def w_told_4 (K : PySem.W.Frag) (w : World) (ad : Ad) (a C dd : Addr) : SW := dRet (dTup (dCons (dC (.str "misread")) (dCons (dXfC ad.C_Misread (dVar 3) a C dd "at") dNil)))
def w_told_1 (K : PySem.W.Frag) (w : World) (ad : Ad) : SW := dTry K (w_told_2 K w ad) ({ c := .ref ad.C_Misread, at_ := (some 3), w := fun a C dd => (w_told_4 K w ad a C dd) } :: [])
def w_told (K : PySem.W.Frag) (w : World) (ad : Ad) : SW := (w_told_1 K w ad)
theorem y_told (T : Txt P w K mg ad) (E : XK) : DSs (XB P w K mg base n_told "_law_told" (defScope s_told) ad.f_told 191 E) K (WF E) (defBody s_told) (w_told K w ad) := by
  unfold w_told w_told_1 w_told_4 w_told_2
  exact (dss_one (ds_try (fun _ => rfl) (fun _ => rfl) (fun _ => rfl) (fun i => xb_takes i) (fun _ => (dss_one (ds_ret (de_tup (da_cons de_str (da_cons (de_callS (fun _ => (fo_read T)) (fun i => (xb_room (P := P) (w := w) (K := K) (mg := mg) (base := base) (N := n_told) (E := E) i.1.1).mono (by decide)) (fun i => xt_takes i) (fun _ => T.g_read) (fun _ => T.F_read.kp) (fun _ => T.b_read) (da_cons (de_var 0) (da_cons (de_var 1) (da_cons (de_var 2) da_nil)))) da_nil)))))) (.named (j := 3) (fun _ => ⟨rfl, by decide, .inl T.g_Misread⟩) rfl (fun _ => sc_told.nd) (fun _ => rfl) (fun _ => rfl) (fun a C dd => (dss_one (ds_ret (de_tup (da_cons de_str (da_cons (de_xfC (X := XB P w K mg base n_told "_law_told" (defScope s_told) ad.f_told 191 E) (fun _ => rfl) T.xf_Misread T.ok_Misread.2.nA (de_var 3)) da_nil)))))) .nil)))
theorem fo_told (T : Txt P w K mg ad) : FnOk P w K mg base (L2.CX P w) 192 ad.f_told ad.fd_told p_told (spD K 3 (F_told ad)) := by
  refine fn_d T.F_told sc_told (y_told T) fun ds M Qd Xd hl h hw hb => ?_
  obtain ⟨L, z, p, r, rfl, hp, hz, er, q1, q2⟩ := h
  unfold w_told w_told_1 dTry w_told_2
  simp only [startD, List.map_cons, List.map_nil, List.length_cons, List.length_nil, Nat.reduceAdd, Nat.reduceSub, List.replicate_succ, List.replicate_zero, List.cons_append, List.nil_append]
  simp only [dSeq, dIf, dAsg, dgName, dVar, dC, dOp, dNil, dCons, dTup, dTest, dAnd, dOr, dNot, dIfE, dAndV, dOrV, dNotV, dNext, dRet, dRetN, dDrop, dCall, dCallS, wLen, wI, wAdd, wAddI, wAddS, wAddL, wSub, wMod, wDiv, wPow, wLt, wLe, wGt, wGe, wMulB, wMulS, wEqF, wNeF, wIsN, wNotN, wInS, wNotInS, wIx, dNeg, dAug, dAppend, dLst, dLstM, dLstB, dSl, dPart, dNo, wCut, dBreak, dCont, dRaise, dMeth, dFld, wFld, dSetF, dAugF, dgTupF, dgTup, dgCons, dgNil, dgSet, dThen, dSo, dSoE, wIntC, dChain, dMake, wListC, wListM, dDisp, dPsCons, dPsNil, keysOf, DL.putAll, putD, valD, dUpC, inV, wDGet, wDIn, dDPut, dGet2, dPopAt, dJoin, wInL, dIsX, List.getElem?_cons_zero, List.getElem?_cons_succ, List.getElem?_nil, Option.some.injEq, D.int.injEq, D.str.injEq, D.bl.injEq, D.ptr.injEq, D.lst.injEq, D.tup.injEq, D.scr.injEq, D.xc.injEq, D.kr.injEq, D.ty.injEq, MO.lst.injEq, MO.ins.injEq, MO.dK.injEq, V.int.injEq, V.str.injEq, V.bl.injEq, List.cons.injEq, List.set_cons_zero, List.set_cons_succ, and_true, true_and, or_false, false_or, or_true, true_or, and_false, false_and, exists_false, exists_eq_left, exists_eq_left', exists_eq_right, exists_eq_right', exists_eq, exists_eq', exists_and_left, exists_and_right, exists_const, reduceCtorEq, decide_eq_true_eq, if_true, if_false, List.length_cons, List.length_nil, List.append_nil, List.nil_append, List.cons_append, v_scalI, v_scalS, v_scalB, v_scalN, v_decI, v_decS, v_decB, v_lsL, v_lsP, v_lsI, v_lsS, v_lsB, v_lsT, v_lsN, v_sqT, v_sqL, v_sqP, v_sqI, v_sqS, v_sqB, v_sqN, v_vI, v_vS, v_vB, v_vN, v_vT, v_vL, v_vP, v_sign, v_map, v_at0, v_at1, v_at2, v_at3, v_at4, v_at5, v_ofs, v_eqS, v_eqI, v_dkP, v_bdS, v_bdI, v_bdB, v_bdN, v_bdT, v_bdL, v_bdP, v_bdsN, v_bdsC, v_lastD, v_lastS, v_kyS, v_kyI, v_tt, v_ff, String.reduceEq, List.foldl_cons, List.foldl_nil, List.any_cons, List.any_nil, List.find?_cons, List.find?_nil, Sum.inr.injEq, Sum.inl.injEq, decide_true, decide_false, Bool.or_false, Bool.or_true, Bool.true_or, Bool.false_or, List.append_cancel_left_eq, Bool.false_eq_true, List.map_cons, List.map_nil, List.mapM_cons, List.mapM_nil, Option.pure_def, Option.bind_eq_bind, Option.bind_some, Option.bind_none, Nat.lt_irrefl, Option.map_some, Option.map_none, and_assoc, Nat.zero_add, Nat.reduceAdd, Nat.reduceLeDiff, Nat.le_refl, sizeLine_eq, and_self, forall_const, Bool.not_eq_true', Bool.not_true, Bool.not_false, decide_eq_false_iff_not, ite_not, F_read, List.map_cons, List.map_nil, Int.natCast_inj]
  refine ⟨hp, hz, r, er, fun d e => ⟨q1 d e, ?_⟩, fun q e => ?_⟩
  · subst e
    exact fun w' _ => UpV.all (Nat.le_refl _) hw (.tup (.cons (.str _) (.cons ((q1 d rfl).mono (Nat.zero_le _)) .nil))) q2
  · subst e
    refine ⟨true, T.e_Misread_Misread, fun _ a dd => ?_, fun e => by cases e⟩
    unfold w_told_4 dXfC dXf
    simp only [dSeq, dIf, dAsg, dgName, dVar, dC, dOp, dNil, dCons, dTup, dTest, dAnd, dOr, dNot, dIfE, dAndV, dOrV, dNotV, dNext, dRet, dRetN, dDrop, dCall, dCallS, wLen, wI, wAdd, wAddI, wAddS, wAddL, wSub, wMod, wDiv, wPow, wLt, wLe, wGt, wGe, wMulB, wMulS, wEqF, wNeF, wIsN, wNotN, wInS, wNotInS, wIx, dNeg, dAug, dAppend, dLst, dLstM, dLstB, dSl, dPart, dNo, wCut, dBreak, dCont, dRaise, dMeth, dFld, wFld, dSetF, dAugF, dgTupF, dgTup, dgCons, dgNil, dgSet, dThen, dSo, dSoE, wIntC, dChain, dMake, wListC, wListM, dDisp, dPsCons, dPsNil, keysOf, DL.putAll, putD, valD, dUpC, inV, wDGet, wDIn, dDPut, dGet2, dPopAt, dJoin, wInL, dIsX, List.getElem?_cons_zero, List.getElem?_cons_succ, List.getElem?_nil, Option.some.injEq, D.int.injEq, D.str.injEq, D.bl.injEq, D.ptr.injEq, D.lst.injEq, D.tup.injEq, D.scr.injEq, D.xc.injEq, D.kr.injEq, D.ty.injEq, MO.lst.injEq, MO.ins.injEq, MO.dK.injEq, V.int.injEq, V.str.injEq, V.bl.injEq, List.cons.injEq, List.set_cons_zero, List.set_cons_succ, and_true, true_and, or_false, false_or, or_true, true_or, and_false, false_and, exists_false, exists_eq_left, exists_eq_left', exists_eq_right, exists_eq_right', exists_eq, exists_eq', exists_and_left, exists_and_right, exists_const, reduceCtorEq, decide_eq_true_eq, if_true, if_false, List.length_cons, List.length_nil, List.append_nil, List.nil_append, List.cons_append, v_scalI, v_scalS, v_scalB, v_scalN, v_decI, v_decS, v_decB, v_lsL, v_lsP, v_lsI, v_lsS, v_lsB, v_lsT, v_lsN, v_sqT, v_sqL, v_sqP, v_sqI, v_sqS, v_sqB, v_sqN, v_vI, v_vS, v_vB, v_vN, v_vT, v_vL, v_vP, v_sign, v_map, v_at0, v_at1, v_at2, v_at3, v_at4, v_at5, v_ofs, v_eqS, v_eqI, v_dkP, v_bdS, v_bdI, v_bdB, v_bdN, v_bdT, v_bdL, v_bdP, v_bdsN, v_bdsC, v_lastD, v_lastS, v_kyS, v_kyI, v_tt, v_ff, String.reduceEq, List.foldl_cons, List.foldl_nil, List.any_cons, List.any_nil, List.find?_cons, List.find?_nil, Sum.inr.injEq, Sum.inl.injEq, decide_true, decide_false, Bool.or_false, Bool.or_true, Bool.true_or, Bool.false_or, List.append_cancel_left_eq, Bool.false_eq_true, List.map_cons, List.map_nil, List.mapM_cons, List.mapM_nil, Option.pure_def, Option.bind_eq_bind, Option.bind_some, Option.bind_none, Nat.lt_irrefl, Option.map_some, Option.map_none, and_assoc, Nat.zero_add, Nat.reduceAdd, Nat.reduceLeDiff, Nat.le_refl, sizeLine_eq, and_self, forall_const, Bool.not_eq_true', Bool.not_true, Bool.not_false, decide_eq_false_iff_not, ite_not, setO, endD, errF, fsSD, List.map_cons, List.map_nil]
    exact ⟨_, rfl, fun w' d => UpV.all (Nat.le_refl _) hw d q2⟩

end
end K87

namespace K87
open PySem PySem.Spec PyProof.Rows L2 DL
section
variable {P : Program} {w : World} {K : PySem.W.Frag} {mg : Str → Option Value} {base : Heap} {ad : Ad}
/-! ### draws, as a state -/
def DrAt (M : Mm) (d : Nat) : Prop := ∃ (xs : List Int) (a b c : Int), M[d]? = some (.lst (drD xs a b c)) ∧ DrOk xs a b
/-- only the draws went on -/
def DrS (d : Nat) (M M' : Mm) : Prop := DrAt M' d ∧ ∃ xs a b c, M' = M.set d (.lst (drD xs a b c))
theorem DrS.trans {d : Nat} {M M1 M2 : Mm} (h : DrS d M M1) (k : DrS d M1 M2) : DrS d M M2 := by
  obtain ⟨_, xs, a, b, c, rfl⟩ := h
  obtain ⟨k, ys, a', b', c', rfl⟩ := k
  exact ⟨k, ys, a', b', c', by rw [List.set_set]⟩
theorem DrAt.refl {d : Nat} {M : Mm} (h : DrAt M d) : DrS d M M := by
  obtain ⟨xs, a, b, c, e, ok⟩ := id h
  exact ⟨h, xs, a, b, c, (set_same e).symm⟩
theorem DrAt.lt {d : Nat} {M : Mm} (h : DrAt M d) : d < M.length := by
  obtain ⟨xs, a, b, c, e, ok⟩ := h
  exact lt_of_at e
theorem DrAt.app {d : Nat} {M : Mm} (h : DrAt M d) (t : Mm) : DrAt (M ++ t) d := by
  obtain ⟨xs, a, b, c, e, ok⟩ := h
  exact ⟨xs, a, b, c, app_at e, ok⟩
theorem DrAt.set {d k : Nat} {M : Mm} {o : MO} (h : DrAt M d) (n : k ≠ d) : DrAt (M.set k o) d := by
  obtain ⟨xs, a, b, c, e, ok⟩ := h
  exact ⟨xs, a, b, c, by rw [set_ne n]; exact e, ok⟩
theorem DrS.len {d : Nat} {M M' : Mm} (h : DrS d M M') : M'.length = M.length := by
  obtain ⟨_, xs, a, b, c, rfl⟩ := h
  rw [List.length_set]
theorem DrS.at_ {d k : Nat} {M M' : Mm} (h : DrS d M M') (n : d ≠ k) : M'[k]? = M[k]? := by
  obtain ⟨_, xs, a, b, c, rfl⟩ := h
  exact set_ne n
theorem DrS.wf {d n : Nat} {M M' : Mm} (h : DrS d M M') (w : Wf n M) : Wf n M' := by
  obtain ⟨_, xs, a, b, c, rfl⟩ := h
  exact w.set drD_bd
theorem DrS.wf' {d : Nat} {M M' : Mm} (h : DrS d M M') (w : Wf M.length M) : Wf M'.length M' := by
  rw [h.len]; exact h.wf w
/-- .. ahead of objects of one's own -/
theorem DrS.app {d : Nat} {M t M2 : Mm} (h : DrS d (M ++ t) M2) (hd : d < M.length) : ∃ M', M2 = M' ++ t ∧ DrS d M M' := by
  obtain ⟨k, xs, a, b, c, rfl⟩ := h
  rw [set_app hd] at k ⊢
  refine ⟨_, rfl, ?_, xs, a, b, c, rfl⟩
  obtain ⟨ys, a', b', c', e, ok⟩ := k
  refine ⟨ys, a', b', c', ?_, ok⟩
  rw [List.getElem?_append_left (by rw [List.length_set]; exact hd)] at e
  exact e
theorem r_dr1 {M : Mm} {d : Nat} {lim : Int} {Q : DK} {X : XD} (h : DrAt M d) (l0 : 0 < lim) (l1 : lim < 1073741824) (q : ∀ (v : Int) (M' : Mm), 0 ≤ v → v < lim → DrS d M M' → Q (.int v) M') : F_draw [.ptr d, .int lim] M Q X := by
  obtain ⟨xs, a, b, c, e, ok⟩ := h
  exact ⟨d, xs, a, b, c, lim, rfl, e, ok, l0, l1, fun a' b' c' v ok' v0 v1 => q v _ v0 v1 ⟨⟨xs, a', b', c', set_at e, ok'⟩, xs, a', b', c', rfl⟩⟩
theorem fn_never {k : Nat} {f : Addr} {fd : FuncData} {ps : List Str} {F : FD} (h : ∀ ds M Q X, ¬ F ds M Q X) : FnOk P w K mg base (L2.CX P w) k f fd ps (spD K ps.length F) :=
  ⟨fun _ _ _ _ h => h.1, fun _ _ _ _ _ _ _ _ _ _ _ _ _ z => by
    obtain ⟨_, _, _, _, _, _, _, _, _, z, _⟩ := z
    exact (h _ _ _ _ z).elim⟩
theorem at_some {α : Type} {xs : List α} {i : Int} (h0 : 0 ≤ i) (h1 : i < xs.length) : ∃ x, x ∈ xs ∧ atI xs i = some x := by
  obtain ⟨n, rfl⟩ := Int.eq_ofNat_of_zero_le h0
  have hn : n < xs.length := by omega
  exact ⟨xs[n], List.getElem_mem hn, at_nat (List.getElem?_eq_getElem hn)⟩

end
end K87

namespace K87
open PySem PySem.Spec PyProof.Rows L2 DL
section
variable {P : Program} {w : World} {K : PySem.W.Frag} {mg : Str → Option Value} {base : Heap} {ad : Ad}
/-! ### drawn expressions -/
inductive Fm where
  | none | empty | any | letter (c : Nat) | name (n : Str) | not (f : Fm) | star (f : Fm) | or (f g : Fm) | and (f g : Fm) | row (f g : Fm)
def ch (c : Nat) : Str := ⟨#[c]⟩
def Fm.d : Fm → D
  | .none => .tup [.str "none"]
  | .empty => .tup [.str "empty"]
  | .any => .tup [.str "any"]
  | .letter c => .tup [.str "letter", .str (ch c)]
  | .name n => .tup [.str "name", .str n]
  | .not f => .tup [.str "not", f.d]
  | .star f => .tup [.str "star", f.d]
  | .or f g => .tup [.str "or", f.d, g.d]
  | .and f g => .tup [.str "and", f.d, g.d]
  | .row f g => .tup [.str "row", f.d, g.d]
def Fm.size : Fm → Nat
  | .not f => f.size + 1
  | .star f => f.size + 1
  | .or f g => f.size + g.size
  | .and f g => f.size + g.size
  | .row f g => f.size + g.size
  | _ => 1
theorem Fm.size_pos : ∀ f : Fm, 1 ≤ f.size
  | .none => Nat.le_refl _ | .empty => Nat.le_refl _ | .any => Nat.le_refl _ | .letter _ => Nat.le_refl _ | .name _ => Nat.le_refl _
  | .not f => Nat.le_add_left _ _ | .star f => Nat.le_add_left _ _
  | .or f g => Nat.le_trans f.size_pos (Nat.le_add_right _ _) | .and f g => Nat.le_trans f.size_pos (Nat.le_add_right _ _) | .row f g => Nat.le_trans f.size_pos (Nat.le_add_right _ _)
def FmOk (L : Str) (N : List Str) : Fm → Prop
  | .letter c => c ∈ L.cps.toList
  | .name n => n ∈ N
  | .not f => FmOk L N f
  | .star f => FmOk L N f
  | .or f g => FmOk L N f ∧ FmOk L N g
  | .and f g => FmOk L N f ∧ FmOk L N g
  | .row f g => FmOk L N f ∧ FmOk L N g
  | _ => True
theorem fm_bd {n : Nat} : ∀ f : Fm, Bd n f.d
  | .none => .tup (.cons (.str _) .nil) | .empty => .tup (.cons (.str _) .nil) | .any => .tup (.cons (.str _) .nil)
  | .letter _ => .tup (.cons (.str _) (.cons (.str _) .nil)) | .name _ => .tup (.cons (.str _) (.cons (.str _) .nil))
  | .not f => .tup (.cons (.str _) (.cons (fm_bd f) .nil)) | .star f => .tup (.cons (.str _) (.cons (fm_bd f) .nil))
  | .or f g => .tup (.cons (.str _) (.cons (fm_bd f) (.cons (fm_bd g) .nil))) | .and f g => .tup (.cons (.str _) (.cons (fm_bd f) (.cons (fm_bd g) .nil))) | .row f g => .tup (.cons (.str _) (.cons (fm_bd f) (.cons (fm_bd g) .nil)))
def F_form (n : Nat) : FD := fun ds M Qd _ => ∃ (d : Nat) (L : Str) (s : Int) (N : List Str), ds = [.ptr d, .str L, .int s, .lst (N.map .str)] ∧ DrAt M d ∧ 0 < L.length ∧ L.length < 1000 ∧ N.length < 1000 ∧ 1 ≤ s ∧ s ≤ n ∧ n < 1000 ∧
  ∀ (f : Fm) (M' : Mm), FmOk L N f → (f.size : Int) ≤ s → DrS d M M' → Qd f.d M'
/-! _law_form -/
def w_form_4 (K : PySem.W.Frag) (w : World) (ad : Ad) (Fr : FD) : SW := dRet (dOp wIx (dLst (dCons (dTup (dCons (dC (.str "none")) dNil)) (dCons (dTup (dCons (dC (.str "empty")) dNil)) (dCons (dTup (dCons (dC (.str "any")) dNil)) dNil)))) (dCallS 2 F_draw (dCons (dVar 0) (dCons (dC (.int 3)) dNil))))
def w_form_6 (K : PySem.W.Frag) (w : World) (ad : Ad) (Fr : FD) : SW := dRet (dTup (dCons (dC (.str "name")) (dCons (dOp wIx (dVar 3) (dCallS 2 F_draw (dCons (dVar 0) (dCons (dCall wLen (dCons (dVar 3) dNil)) dNil)))) dNil)))
def w_form_7 (K : PySem.W.Frag) (w : World) (ad : Ad) (Fr : FD) : SW := dRet (dTup (dCons (dC (.str "letter")) (dCons (dOp wIx (dVar 1) (dCallS 2 F_draw (dCons (dVar 0) (dCons (dCall wLen (dCons (dVar 1) dNil)) dNil)))) dNil)))
def w_form_5 (K : PySem.W.Frag) (w : World) (ad : Ad) (Fr : FD) : SW := dSeq (dIf (dAnd (dTest (dOp wLt (dVar 4) (dC (.int 3)))) (dTest (dOp wGt (dCall wLen (dCons (dVar 3) dNil)) (dC (.int 0))))) (w_form_6 K w ad Fr) dNext) (w_form_7 K w ad Fr)
def w_form_3 (K : PySem.W.Frag) (w : World) (ad : Ad) (Fr : FD) : SW := dSeq (dIf (dTest (dOp wEqF (dVar 4) (dC (.int 0)))) (w_form_4 K w ad Fr) dNext) (w_form_5 K w ad Fr)
def w_form_2 (K : PySem.W.Frag) (w : World) (ad : Ad) (Fr : FD) : SW := dSeq (dAsg (dCallS 2 F_draw (dCons (dVar 0) (dCons (dC (.int 8)) dNil))) (dgName 4)) (w_form_3 K w ad Fr)
def w_form_10 (K : PySem.W.Frag) (w : World) (ad : Ad) (Fr : FD) : SW := dRet (dTup (dCons (dOp wIx (dLst (dCons (dC (.str "not")) (dCons (dC (.str "star")) dNil))) (dVar 4)) (dCons (dCallS 4 Fr (dCons (dVar 0) (dCons (dVar 1) (dCons (dOp wSub (dVar 2) (dC (.int 1))) (dCons (dVar 3) dNil))))) dNil)))
def w_form_13 (K : PySem.W.Frag) (w : World) (ad : Ad) (Fr : FD) : SW := dRet (dTup (dCons (dVar 6) (dCons (dCallS 4 Fr (dCons (dVar 0) (dCons (dVar 1) (dCons (dVar 5) (dCons (dVar 3) dNil))))) (dCons (dCallS 4 Fr (dCons (dVar 0) (dCons (dVar 1) (dCons (dOp wSub (dVar 2) (dVar 5)) (dCons (dVar 3) dNil))))) dNil))))
def w_form_12 (K : PySem.W.Frag) (w : World) (ad : Ad) (Fr : FD) : SW := dSeq (dAsg (dOp wIx (dLst (dCons (dC (.str "or")) (dCons (dC (.str "and")) (dCons (dC (.str "row")) (dCons (dC (.str "row")) (dCons (dC (.str "or")) (dCons (dC (.str "row")) dNil))))))) (dOp wSub (dVar 4) (dC (.int 2)))) (dgName 6)) (w_form_13 K w ad Fr)
def w_form_11 (K : PySem.W.Frag) (w : World) (ad : Ad) (Fr : FD) : SW := dSeq (dAsg (dOp wAdd (dC (.int 1)) (dCallS 2 F_draw (dCons (dVar 0) (dCons (dOp wSub (dVar 2) (dC (.int 1))) dNil)))) (dgName 5)) (w_form_12 K w ad Fr)
def w_form_9 (K : PySem.W.Frag) (w : World) (ad : Ad) (Fr : FD) : SW := dSeq (dIf (dTest (dOp wLt (dVar 4) (dC (.int 2)))) (w_form_10 K w ad Fr) dNext) (w_form_11 K w ad Fr)
def w_form_8 (K : PySem.W.Frag) (w : World) (ad : Ad) (Fr : FD) : SW := dSeq (dAsg (dCallS 2 F_draw (dCons (dVar 0) (dCons (dC (.int 8)) dNil))) (dgName 4)) (w_form_9 K w ad Fr)
def w_form_1 (K : PySem.W.Frag) (w : World) (ad : Ad) (Fr : FD) : SW := dSeq (dIf (dTest (dOp wLt (dVar 2) (dC (.int 2)))) (w_form_2 K w ad Fr) dNext) (w_form_8 K w ad Fr)
def w_form (K : PySem.W.Frag) (w : World) (ad : Ad) (Fr : FD) : SW := (w_form_1 K w ad Fr)
theorem y_form {Fr : FD} {n : Nat} (Fo : FnOk P w K mg base (L2.CX P w) (n + 2) ad.f_form ad.fd_form p_form (spD K 4 Fr)) (T : Txt P w K mg ad) (E : XK) : DSs (XB P w K mg base n_form "_law_form" (defScope s_form) ad.f_form (n + 2) E) K (WF E) (defBody s_form) (w_form K w ad Fr) := by
  unfold w_form w_form_1 w_form_8 w_form_9 w_form_11 w_form_12 w_form_13 w_form_10 w_form_2 w_form_3 w_form_5 w_form_7 w_form_6 w_form_4
  exact (dss_cons (ds_if (dt_cmp do_lt (de_var 2) de_int) (dss_cons (ds_set 4 (de_callS (fun _ => (fo_draw T)) (fun i => (xb_room i).mono (by omega)) (fun i => xb_takes i) (fun _ => T.g_draw) (fun _ => T.F_draw.kp) (fun _ => T.b_draw) (da_cons (de_var 0) (da_cons de_int da_nil))) (fun _ => sc_form.nd)) (dss_cons (ds_if (dt_cmp do_eqF (de_var 4) de_int) (dss_one (ds_ret (de_ix (fun _ => rfl) (de_lst (da_cons (de_tup (da_cons de_str da_nil)) (da_cons (de_tup (da_cons de_str da_nil)) (da_cons (de_tup (da_cons de_str da_nil)) da_nil)))) (de_callS (fun _ => (fo_draw T)) (fun i => (xb_room i).mono (by omega)) (fun i => xb_takes i) (fun _ => T.g_draw) (fun _ => T.F_draw.kp) (fun _ => T.b_draw) (da_cons (de_var 0) (da_cons de_int da_nil)))))) dss_nil) (dss_cons (ds_if (dpw_pt (dpw_and (dt_cmp do_lt (de_var 4) de_int) (dpw_and1 (dt_cmp do_gt (de_callB (dc_len fun _ => rfl) (fun _ => T.n_len) PyProof.Rows.Boot.«len» (da_cons (de_var 3) da_nil)) de_int)))) (dss_one (ds_ret (de_tup (da_cons de_str (da_cons (de_ix (fun _ => rfl) (de_var 3) (de_callS (fun _ => (fo_draw T)) (fun i => (xb_room i).mono (by omega)) (fun i => xb_takes i) (fun _ => T.g_draw) (fun _ => T.F_draw.kp) (fun _ => T.b_draw) (da_cons (de_var 0) (da_cons (de_callB (dc_len fun _ => rfl) (fun _ => T.n_len) PyProof.Rows.Boot.«len» (da_cons (de_var 3) da_nil)) da_nil)))) da_nil))))) dss_nil) (dss_one (ds_ret (de_tup (da_cons de_str (da_cons (de_ix (fun _ => rfl) (de_var 1) (de_callS (fun _ => (fo_draw T)) (fun i => (xb_room i).mono (by omega)) (fun i => xb_takes i) (fun _ => T.g_draw) (fun _ => T.F_draw.kp) (fun _ => T.b_draw) (da_cons (de_var 0) (da_cons (de_callB (dc_len fun _ => rfl) (fun _ => T.n_len) PyProof.Rows.Boot.«len» (da_cons (de_var 1) da_nil)) da_nil)))) da_nil)))))))) dss_nil) (dss_cons (ds_set 4 (de_callS (fun _ => (fo_draw T)) (fun i => (xb_room i).mono (by omega)) (fun i => xb_takes i) (fun _ => T.g_draw) (fun _ => T.F_draw.kp) (fun _ => T.b_draw) (da_cons (de_var 0) (da_cons de_int da_nil))) (fun _ => sc_form.nd)) (dss_cons (ds_if (dt_cmp do_lt (de_var 4) de_int) (dss_one (ds_ret (de_tup (da_cons (de_ix (fun _ => rfl) (de_lst (da_cons de_str (da_cons de_str da_nil))) (de_var 4)) (da_cons (de_callS (fun _ => Fo) (fun i => (xb_room i).mono (by omega)) (fun i => xb_takes i) (fun _ => T.g_form) (fun _ => T.F_form.kp) (fun _ => T.b_form) (da_cons (de_var 0) (da_cons (de_var 1) (da_cons (de_op do_subI (de_var 2) de_int) (da_cons (de_var 3) da_nil))))) da_nil))))) dss_nil) (dss_cons (ds_set 5 (de_op do_add de_int (de_callS (fun _ => (fo_draw T)) (fun i => (xb_room i).mono (by omega)) (fun i => xb_takes i) (fun _ => T.g_draw) (fun _ => T.F_draw.kp) (fun _ => T.b_draw) (da_cons (de_var 0) (da_cons (de_op do_subI (de_var 2) de_int) da_nil)))) (fun _ => sc_form.nd)) (dss_cons (ds_set 6 (de_ix (fun _ => rfl) (de_lst (da_cons de_str (da_cons de_str (da_cons de_str (da_cons de_str (da_cons de_str (da_cons de_str da_nil))))))) (de_op do_subI (de_var 4) de_int)) (fun _ => sc_form.nd)) (dss_one (ds_ret (de_tup (da_cons (de_var 6) (da_cons (de_callS (fun _ => Fo) (fun i => (xb_room i).mono (by omega)) (fun i => xb_takes i) (fun _ => T.g_form) (fun _ => T.F_form.kp) (fun _ => T.b_form) (da_cons (de_var 0) (da_cons (de_var 1) (da_cons (de_var 5) (da_cons (de_var 3) da_nil))))) (da_cons (de_callS (fun _ => Fo) (fun i => (xb_room i).mono (by omega)) (fun i => xb_takes i) (fun _ => T.g_form) (fun _ => T.F_form.kp) (fun _ => T.b_form) (da_cons (de_var 0) (da_cons (de_var 1) (da_cons (de_op do_subI (de_var 2) (de_var 5)) (da_cons (de_var 3) da_nil))))) da_nil)))))))))))
theorem fo_form' {n : Nat} (T : Txt P w K mg ad) (Fo : FnOk P w K mg base (L2.CX P w) (n + 2) ad.f_form ad.fd_form p_form (spD K 4 (F_form n))) : FnOk P w K mg base (L2.CX P w) (n + 3) ad.f_form ad.fd_form p_form (spD K 4 (F_form (n + 1))) := by
  refine fn_d T.F_form sc_form (y_form Fo T) fun ds M Qd Xd hl h hw hb => ?_
  obtain ⟨d, L, s, N, rfl, hd, l0, l1, hN, s1, sn, nn, q⟩ := h
  have q : ∀ (f : Fm) (M' : Mm), FmOk L N f → (f.size : Int) ≤ s → DrS d M M' → (DsF M Qd Xd).rt f.d M' := fun f M' ok sz dr w' d' => UpV.all (by rw [dr.len]; exact Nat.le_refl _) w' d' (q f M' ok sz dr)
  unfold w_form w_form_1
  simp only [startD, List.map_cons, List.map_nil, List.length_cons, List.length_nil, Nat.reduceAdd, Nat.reduceSub, List.replicate_succ, List.replicate_zero, List.cons_append, List.nil_append]
  simp only [dSeq, dIf, dAsg, dgName, dVar, dC, dOp, dNil, dCons, dTup, dTest, dAnd, dOr, dNot, dIfE, dAndV, dOrV, dNotV, dNext, dRet, dRetN, dDrop, dCall, dCallS, wLen, wI, wAdd, wAddI, wAddS, wAddL, wSub, wMod, wDiv, wPow, wLt, wLe, wGt, wGe, wMulB, wMulS, wEqF, wNeF, wIsN, wNotN, wInS, wNotInS, wIx, dNeg, dAug, dAppend, dLst, dLstM, dLstB, dSl, dPart, dNo, wCut, dBreak, dCont, dRaise, dMeth, dFld, wFld, dSetF, dAugF, dgTupF, dgTup, dgCons, dgNil, dgSet, dThen, dSo, dSoE, wIntC, dChain, dMake, wListC, wListM, dDisp, dPsCons, dPsNil, keysOf, DL.putAll, putD, valD, dUpC, inV, wDGet, wDIn, dDPut, dGet2, dPopAt, dJoin, wInL, dIsX, List.getElem?_cons_zero, List.getElem?_cons_succ, List.getElem?_nil, Option.some.injEq, D.int.injEq, D.str.injEq, D.bl.injEq, D.ptr.injEq, D.lst.injEq, D.tup.injEq, D.scr.injEq, D.xc.injEq, D.kr.injEq, D.ty.injEq, MO.lst.injEq, MO.ins.injEq, MO.dK.injEq, V.int.injEq, V.str.injEq, V.bl.injEq, List.cons.injEq, List.set_cons_zero, List.set_cons_succ, and_true, true_and, or_false, false_or, or_true, true_or, and_false, false_and, exists_false, exists_eq_left, exists_eq_left', exists_eq_right, exists_eq_right', exists_eq, exists_eq', exists_and_left, exists_and_right, exists_const, reduceCtorEq, decide_eq_true_eq, if_true, if_false, List.length_cons, List.length_nil, List.append_nil, List.nil_append, List.cons_append, v_scalI, v_scalS, v_scalB, v_scalN, v_decI, v_decS, v_decB, v_lsL, v_lsP, v_lsI, v_lsS, v_lsB, v_lsT, v_lsN, v_sqT, v_sqL, v_sqP, v_sqI, v_sqS, v_sqB, v_sqN, v_vI, v_vS, v_vB, v_vN, v_vT, v_vL, v_vP, v_sign, v_map, v_at0, v_at1, v_at2, v_at3, v_at4, v_at5, v_ofs, v_eqS, v_eqI, v_dkP, v_bdS, v_bdI, v_bdB, v_bdN, v_bdT, v_bdL, v_bdP, v_bdsN, v_bdsC, v_lastD, v_lastS, v_kyS, v_kyI, v_tt, v_ff, String.reduceEq, List.foldl_cons, List.foldl_nil, List.any_cons, List.any_nil, List.find?_cons, List.find?_nil, Sum.inr.injEq, Sum.inl.injEq, decide_true, decide_false, Bool.or_false, Bool.or_true, Bool.true_or, Bool.false_or, List.append_cancel_left_eq, Bool.false_eq_true, List.map_cons, List.map_nil, List.mapM_cons, List.mapM_nil, Option.pure_def, Option.bind_eq_bind, Option.bind_some, Option.bind_none, Nat.lt_irrefl, Option.map_some, Option.map_none, and_assoc, Nat.zero_add, Nat.reduceAdd, Nat.reduceLeDiff, Nat.le_refl, sizeLine_eq, and_self, forall_const, Bool.not_eq_true', Bool.not_true, Bool.not_false, decide_eq_false_iff_not, ite_not]
  split
  · unfold w_form_2
    simp only [dSeq, dIf, dAsg, dgName, dVar, dC, dOp, dNil, dCons, dTup, dTest, dAnd, dOr, dNot, dIfE, dAndV, dOrV, dNotV, dNext, dRet, dRetN, dDrop, dCall, dCallS, wLen, wI, wAdd, wAddI, wAddS, wAddL, wSub, wMod, wDiv, wPow, wLt, wLe, wGt, wGe, wMulB, wMulS, wEqF, wNeF, wIsN, wNotN, wInS, wNotInS, wIx, dNeg, dAug, dAppend, dLst, dLstM, dLstB, dSl, dPart, dNo, wCut, dBreak, dCont, dRaise, dMeth, dFld, wFld, dSetF, dAugF, dgTupF, dgTup, dgCons, dgNil, dgSet, dThen, dSo, dSoE, wIntC, dChain, dMake, wListC, wListM, dDisp, dPsCons, dPsNil, keysOf, DL.putAll, putD, valD, dUpC, inV, wDGet, wDIn, dDPut, dGet2, dPopAt, dJoin, wInL, dIsX, List.getElem?_cons_zero, List.getElem?_cons_succ, List.getElem?_nil, Option.some.injEq, D.int.injEq, D.str.injEq, D.bl.injEq, D.ptr.injEq, D.lst.injEq, D.tup.injEq, D.scr.injEq, D.xc.injEq, D.kr.injEq, D.ty.injEq, MO.lst.injEq, MO.ins.injEq, MO.dK.injEq, V.int.injEq, V.str.injEq, V.bl.injEq, List.cons.injEq, List.set_cons_zero, List.set_cons_succ, and_true, true_and, or_false, false_or, or_true, true_or, and_false, false_and, exists_false, exists_eq_left, exists_eq_left', exists_eq_right, exists_eq_right', exists_eq, exists_eq', exists_and_left, exists_and_right, exists_const, reduceCtorEq, decide_eq_true_eq, if_true, if_false, List.length_cons, List.length_nil, List.append_nil, List.nil_append, List.cons_append, v_scalI, v_scalS, v_scalB, v_scalN, v_decI, v_decS, v_decB, v_lsL, v_lsP, v_lsI, v_lsS, v_lsB, v_lsT, v_lsN, v_sqT, v_sqL, v_sqP, v_sqI, v_sqS, v_sqB, v_sqN, v_vI, v_vS, v_vB, v_vN, v_vT, v_vL, v_vP, v_sign, v_map, v_at0, v_at1, v_at2, v_at3, v_at4, v_at5, v_ofs, v_eqS, v_eqI, v_dkP, v_bdS, v_bdI, v_bdB, v_bdN, v_bdT, v_bdL, v_bdP, v_bdsN, v_bdsC, v_lastD, v_lastS, v_kyS, v_kyI, v_tt, v_ff, String.reduceEq, List.foldl_cons, List.foldl_nil, List.any_cons, List.any_nil, List.find?_cons, List.find?_nil, Sum.inr.injEq, Sum.inl.injEq, decide_true, decide_false, Bool.or_false, Bool.or_true, Bool.true_or, Bool.false_or, List.append_cancel_left_eq, Bool.false_eq_true, List.map_cons, List.map_nil, List.mapM_cons, List.mapM_nil, Option.pure_def, Option.bind_eq_bind, Option.bind_some, Option.bind_none, Nat.lt_irrefl, Option.map_some, Option.map_none, and_assoc, Nat.zero_add, Nat.reduceAdd, Nat.reduceLeDiff, Nat.le_refl, sizeLine_eq, and_self, forall_const, Bool.not_eq_true', Bool.not_true, Bool.not_false, decide_eq_false_iff_not, ite_not]
    refine r_dr1 hd (by omega) (by omega) fun v M1 v0 v1 d1 => ?_
    unfold w_form_3
    simp only [dSeq, dIf, dAsg, dgName, dVar, dC, dOp, dNil, dCons, dTup, dTest, dAnd, dOr, dNot, dIfE, dAndV, dOrV, dNotV, dNext, dRet, dRetN, dDrop, dCall, dCallS, wLen, wI, wAdd, wAddI, wAddS, wAddL, wSub, wMod, wDiv, wPow, wLt, wLe, wGt, wGe, wMulB, wMulS, wEqF, wNeF, wIsN, wNotN, wInS, wNotInS, wIx, dNeg, dAug, dAppend, dLst, dLstM, dLstB, dSl, dPart, dNo, wCut, dBreak, dCont, dRaise, dMeth, dFld, wFld, dSetF, dAugF, dgTupF, dgTup, dgCons, dgNil, dgSet, dThen, dSo, dSoE, wIntC, dChain, dMake, wListC, wListM, dDisp, dPsCons, dPsNil, keysOf, DL.putAll, putD, valD, dUpC, inV, wDGet, wDIn, dDPut, dGet2, dPopAt, dJoin, wInL, dIsX, List.getElem?_cons_zero, List.getElem?_cons_succ, List.getElem?_nil, Option.some.injEq, D.int.injEq, D.str.injEq, D.bl.injEq, D.ptr.injEq, D.lst.injEq, D.tup.injEq, D.scr.injEq, D.xc.injEq, D.kr.injEq, D.ty.injEq, MO.lst.injEq, MO.ins.injEq, MO.dK.injEq, V.int.injEq, V.str.injEq, V.bl.injEq, List.cons.injEq, List.set_cons_zero, List.set_cons_succ, and_true, true_and, or_false, false_or, or_true, true_or, and_false, false_and, exists_false, exists_eq_left, exists_eq_left', exists_eq_right, exists_eq_right', exists_eq, exists_eq', exists_and_left, exists_and_right, exists_const, reduceCtorEq, decide_eq_true_eq, if_true, if_false, List.length_cons, List.length_nil, List.append_nil, List.nil_append, List.cons_append, v_scalI, v_scalS, v_scalB, v_scalN, v_decI, v_decS, v_decB, v_lsL, v_lsP, v_lsI, v_lsS, v_lsB, v_lsT, v_lsN, v_sqT, v_sqL, v_sqP, v_sqI, v_sqS, v_sqB, v_sqN, v_vI, v_vS, v_vB, v_vN, v_vT, v_vL, v_vP, v_sign, v_map, v_at0, v_at1, v_at2, v_at3, v_at4, v_at5, v_ofs, v_eqS, v_eqI, v_dkP, v_bdS, v_bdI, v_bdB, v_bdN, v_bdT, v_bdL, v_bdP, v_bdsN, v_bdsC, v_lastD, v_lastS, v_kyS, v_kyI, v_tt, v_ff, String.reduceEq, List.foldl_cons, List.foldl_nil, List.any_cons, List.any_nil, List.find?_cons, List.find?_nil, Sum.inr.injEq, Sum.inl.injEq, decide_true, decide_false, Bool.or_false, Bool.or_true, Bool.true_or, Bool.false_or, List.append_cancel_left_eq, Bool.false_eq_true, List.map_cons, List.map_nil, List.mapM_cons, List.mapM_nil, Option.pure_def, Option.bind_eq_bind, Option.bind_some, Option.bind_none, Nat.lt_irrefl, Option.map_some, Option.map_none, and_assoc, Nat.zero_add, Nat.reduceAdd, Nat.reduceLeDiff, Nat.le_refl, sizeLine_eq, and_self, forall_const, Bool.not_eq_true', Bool.not_true, Bool.not_false, decide_eq_false_iff_not, ite_not]
    split
    · unfold w_form_4
      simp only [dSeq, dIf, dAsg, dgName, dVar, dC, dOp, dNil, dCons, dTup, dTest, dAnd, dOr, dNot, dIfE, dAndV, dOrV, dNotV, dNext, dRet, dRetN, dDrop, dCall, dCallS, wLen, wI, wAdd, wAddI, wAddS, wAddL, wSub, wMod, wDiv, wPow, wLt, wLe, wGt, wGe, wMulB, wMulS, wEqF, wNeF, wIsN, wNotN, wInS, wNotInS, wIx, dNeg, dAug, dAppend, dLst, dLstM, dLstB, dSl, dPart, dNo, wCut, dBreak, dCont, dRaise, dMeth, dFld, wFld, dSetF, dAugF, dgTupF, dgTup, dgCons, dgNil, dgSet, dThen, dSo, dSoE, wIntC, dChain, dMake, wListC, wListM, dDisp, dPsCons, dPsNil, keysOf, DL.putAll, putD, valD, dUpC, inV, wDGet, wDIn, dDPut, dGet2, dPopAt, dJoin, wInL, dIsX, List.getElem?_cons_zero, List.getElem?_cons_succ, List.getElem?_nil, Option.some.injEq, D.int.injEq, D.str.injEq, D.bl.injEq, D.ptr.injEq, D.lst.injEq, D.tup.injEq, D.scr.injEq, D.xc.injEq, D.kr.injEq, D.ty.injEq, MO.lst.injEq, MO.ins.injEq, MO.dK.injEq, V.int.injEq, V.str.injEq, V.bl.injEq, List.cons.injEq, List.set_cons_zero, List.set_cons_succ, and_true, true_and, or_false, false_or, or_true, true_or, and_false, false_and, exists_false, exists_eq_left, exists_eq_left', exists_eq_right, exists_eq_right', exists_eq, exists_eq', exists_and_left, exists_and_right, exists_const, reduceCtorEq, decide_eq_true_eq, if_true, if_false, List.length_cons, List.length_nil, List.append_nil, List.nil_append, List.cons_append, v_scalI, v_scalS, v_scalB, v_scalN, v_decI, v_decS, v_decB, v_lsL, v_lsP, v_lsI, v_lsS, v_lsB, v_lsT, v_lsN, v_sqT, v_sqL, v_sqP, v_sqI, v_sqS, v_sqB, v_sqN, v_vI, v_vS, v_vB, v_vN, v_vT, v_vL, v_vP, v_sign, v_map, v_at0, v_at1, v_at2, v_at3, v_at4, v_at5, v_ofs, v_eqS, v_eqI, v_dkP, v_bdS, v_bdI, v_bdB, v_bdN, v_bdT, v_bdL, v_bdP, v_bdsN, v_bdsC, v_lastD, v_lastS, v_kyS, v_kyI, v_tt, v_ff, String.reduceEq, List.foldl_cons, List.foldl_nil, List.any_cons, List.any_nil, List.find?_cons, List.find?_nil, Sum.inr.injEq, Sum.inl.injEq, decide_true, decide_false, Bool.or_false, Bool.or_true, Bool.true_or, Bool.false_or, List.append_cancel_left_eq, Bool.false_eq_true, List.map_cons, List.map_nil, List.mapM_cons, List.mapM_nil, Option.pure_def, Option.bind_eq_bind, Option.bind_some, Option.bind_none, Nat.lt_irrefl, Option.map_some, Option.map_none, and_assoc, Nat.zero_add, Nat.reduceAdd, Nat.reduceLeDiff, Nat.le_refl, sizeLine_eq, and_self, forall_const, Bool.not_eq_true', Bool.not_true, Bool.not_false, decide_eq_false_iff_not, ite_not]
      refine (r_dr1 d1.1 (by omega) (by omega) fun u M2 u0 u1 d2 => ?_)
      have d2 := d1.trans d2
      rcases (show u = 0 ∨ u = 1 ∨ u = 2 by omega) with rfl | rfl | rfl
      · simp only [dSeq, dIf, dAsg, dgName, dVar, dC, dOp, dNil, dCons, dTup, dTest, dAnd, dOr, dNot, dIfE, dAndV, dOrV, dNotV, dNext, dRet, dRetN, dDrop, dCall, dCallS, wLen, wI, wAdd, wAddI, wAddS, wAddL, wSub, wMod, wDiv, wPow, wLt, wLe, wGt, wGe, wMulB, wMulS, wEqF, wNeF, wIsN, wNotN, wInS, wNotInS, wIx, dNeg, dAug, dAppend, dLst, dLstM, dLstB, dSl, dPart, dNo, wCut, dBreak, dCont, dRaise, dMeth, dFld, wFld, dSetF, dAugF, dgTupF, dgTup, dgCons, dgNil, dgSet, dThen, dSo, dSoE, wIntC, dChain, dMake, wListC, wListM, dDisp, dPsCons, dPsNil, keysOf, DL.putAll, putD, valD, dUpC, inV, wDGet, wDIn, dDPut, dGet2, dPopAt, dJoin, wInL, dIsX, List.getElem?_cons_zero, List.getElem?_cons_succ, List.getElem?_nil, Option.some.injEq, D.int.injEq, D.str.injEq, D.bl.injEq, D.ptr.injEq, D.lst.injEq, D.tup.injEq, D.scr.injEq, D.xc.injEq, D.kr.injEq, D.ty.injEq, MO.lst.injEq, MO.ins.injEq, MO.dK.injEq, V.int.injEq, V.str.injEq, V.bl.injEq, List.cons.injEq, List.set_cons_zero, List.set_cons_succ, and_true, true_and, or_false, false_or, or_true, true_or, and_false, false_and, exists_false, exists_eq_left, exists_eq_left', exists_eq_right, exists_eq_right', exists_eq, exists_eq', exists_and_left, exists_and_right, exists_const, reduceCtorEq, decide_eq_true_eq, if_true, if_false, List.length_cons, List.length_nil, List.append_nil, List.nil_append, List.cons_append, v_scalI, v_scalS, v_scalB, v_scalN, v_decI, v_decS, v_decB, v_lsL, v_lsP, v_lsI, v_lsS, v_lsB, v_lsT, v_lsN, v_sqT, v_sqL, v_sqP, v_sqI, v_sqS, v_sqB, v_sqN, v_vI, v_vS, v_vB, v_vN, v_vT, v_vL, v_vP, v_sign, v_map, v_at0, v_at1, v_at2, v_at3, v_at4, v_at5, v_ofs, v_eqS, v_eqI, v_dkP, v_bdS, v_bdI, v_bdB, v_bdN, v_bdT, v_bdL, v_bdP, v_bdsN, v_bdsC, v_lastD, v_lastS, v_kyS, v_kyI, v_tt, v_ff, String.reduceEq, List.foldl_cons, List.foldl_nil, List.any_cons, List.any_nil, List.find?_cons, List.find?_nil, Sum.inr.injEq, Sum.inl.injEq, decide_true, decide_false, Bool.or_false, Bool.or_true, Bool.true_or, Bool.false_or, List.append_cancel_left_eq, Bool.false_eq_true, List.map_cons, List.map_nil, List.mapM_cons, List.mapM_nil, Option.pure_def, Option.bind_eq_bind, Option.bind_some, Option.bind_none, Nat.lt_irrefl, Option.map_some, Option.map_none, and_assoc, Nat.zero_add, Nat.reduceAdd, Nat.reduceLeDiff, Nat.le_refl, sizeLine_eq, and_self, forall_const, Bool.not_eq_true', Bool.not_true, Bool.not_false, decide_eq_false_iff_not, ite_not]
        exact q .none M2 trivial (by show (1 : Int) ≤ s; omega) d2
      · simp only [dSeq, dIf, dAsg, dgName, dVar, dC, dOp, dNil, dCons, dTup, dTest, dAnd, dOr, dNot, dIfE, dAndV, dOrV, dNotV, dNext, dRet, dRetN, dDrop, dCall, dCallS, wLen, wI, wAdd, wAddI, wAddS, wAddL, wSub, wMod, wDiv, wPow, wLt, wLe, wGt, wGe, wMulB, wMulS, wEqF, wNeF, wIsN, wNotN, wInS, wNotInS, wIx, dNeg, dAug, dAppend, dLst, dLstM, dLstB, dSl, dPart, dNo, wCut, dBreak, dCont, dRaise, dMeth, dFld, wFld, dSetF, dAugF, dgTupF, dgTup, dgCons, dgNil, dgSet, dThen, dSo, dSoE, wIntC, dChain, dMake, wListC, wListM, dDisp, dPsCons, dPsNil, keysOf, DL.putAll, putD, valD, dUpC, inV, wDGet, wDIn, dDPut, dGet2, dPopAt, dJoin, wInL, dIsX, List.getElem?_cons_zero, List.getElem?_cons_succ, List.getElem?_nil, Option.some.injEq, D.int.injEq, D.str.injEq, D.bl.injEq, D.ptr.injEq, D.lst.injEq, D.tup.injEq, D.scr.injEq, D.xc.injEq, D.kr.injEq, D.ty.injEq, MO.lst.injEq, MO.ins.injEq, MO.dK.injEq, V.int.injEq, V.str.injEq, V.bl.injEq, List.cons.injEq, List.set_cons_zero, List.set_cons_succ, and_true, true_and, or_false, false_or, or_true, true_or, and_false, false_and, exists_false, exists_eq_left, exists_eq_left', exists_eq_right, exists_eq_right', exists_eq, exists_eq', exists_and_left, exists_and_right, exists_const, reduceCtorEq, decide_eq_true_eq, if_true, if_false, List.length_cons, List.length_nil, List.append_nil, List.nil_append, List.cons_append, v_scalI, v_scalS, v_scalB, v_scalN, v_decI, v_decS, v_decB, v_lsL, v_lsP, v_lsI, v_lsS, v_lsB, v_lsT, v_lsN, v_sqT, v_sqL, v_sqP, v_sqI, v_sqS, v_sqB, v_sqN, v_vI, v_vS, v_vB, v_vN, v_vT, v_vL, v_vP, v_sign, v_map, v_at0, v_at1, v_at2, v_at3, v_at4, v_at5, v_ofs, v_eqS, v_eqI, v_dkP, v_bdS, v_bdI, v_bdB, v_bdN, v_bdT, v_bdL, v_bdP, v_bdsN, v_bdsC, v_lastD, v_lastS, v_kyS, v_kyI, v_tt, v_ff, String.reduceEq, List.foldl_cons, List.foldl_nil, List.any_cons, List.any_nil, List.find?_cons, List.find?_nil, Sum.inr.injEq, Sum.inl.injEq, decide_true, decide_false, Bool.or_false, Bool.or_true, Bool.true_or, Bool.false_or, List.append_cancel_left_eq, Bool.false_eq_true, List.map_cons, List.map_nil, List.mapM_cons, List.mapM_nil, Option.pure_def, Option.bind_eq_bind, Option.bind_some, Option.bind_none, Nat.lt_irrefl, Option.map_some, Option.map_none, and_assoc, Nat.zero_add, Nat.reduceAdd, Nat.reduceLeDiff, Nat.le_refl, sizeLine_eq, and_self, forall_const, Bool.not_eq_true', Bool.not_true, Bool.not_false, decide_eq_false_iff_not, ite_not]
        exact q .empty M2 trivial (by show (1 : Int) ≤ s; omega) d2
      · simp only [dSeq, dIf, dAsg, dgName, dVar, dC, dOp, dNil, dCons, dTup, dTest, dAnd, dOr, dNot, dIfE, dAndV, dOrV, dNotV, dNext, dRet, dRetN, dDrop, dCall, dCallS, wLen, wI, wAdd, wAddI, wAddS, wAddL, wSub, wMod, wDiv, wPow, wLt, wLe, wGt, wGe, wMulB, wMulS, wEqF, wNeF, wIsN, wNotN, wInS, wNotInS, wIx, dNeg, dAug, dAppend, dLst, dLstM, dLstB, dSl, dPart, dNo, wCut, dBreak, dCont, dRaise, dMeth, dFld, wFld, dSetF, dAugF, dgTupF, dgTup, dgCons, dgNil, dgSet, dThen, dSo, dSoE, wIntC, dChain, dMake, wListC, wListM, dDisp, dPsCons, dPsNil, keysOf, DL.putAll, putD, valD, dUpC, inV, wDGet, wDIn, dDPut, dGet2, dPopAt, dJoin, wInL, dIsX, List.getElem?_cons_zero, List.getElem?_cons_succ, List.getElem?_nil, Option.some.injEq, D.int.injEq, D.str.injEq, D.bl.injEq, D.ptr.injEq, D.lst.injEq, D.tup.injEq, D.scr.injEq, D.xc.injEq, D.kr.injEq, D.ty.injEq, MO.lst.injEq, MO.ins.injEq, MO.dK.injEq, V.int.injEq, V.str.injEq, V.bl.injEq, List.cons.injEq, List.set_cons_zero, List.set_cons_succ, and_true, true_and, or_false, false_or, or_true, true_or, and_false, false_and, exists_false, exists_eq_left, exists_eq_left', exists_eq_right, exists_eq_right', exists_eq, exists_eq', exists_and_left, exists_and_right, exists_const, reduceCtorEq, decide_eq_true_eq, if_true, if_false, List.length_cons, List.length_nil, List.append_nil, List.nil_append, List.cons_append, v_scalI, v_scalS, v_scalB, v_scalN, v_decI, v_decS, v_decB, v_lsL, v_lsP, v_lsI, v_lsS, v_lsB, v_lsT, v_lsN, v_sqT, v_sqL, v_sqP, v_sqI, v_sqS, v_sqB, v_sqN, v_vI, v_vS, v_vB, v_vN, v_vT, v_vL, v_vP, v_sign, v_map, v_at0, v_at1, v_at2, v_at3, v_at4, v_at5, v_ofs, v_eqS, v_eqI, v_dkP, v_bdS, v_bdI, v_bdB, v_bdN, v_bdT, v_bdL, v_bdP, v_bdsN, v_bdsC, v_lastD, v_lastS, v_kyS, v_kyI, v_tt, v_ff, String.reduceEq, List.foldl_cons, List.foldl_nil, List.any_cons, List.any_nil, List.find?_cons, List.find?_nil, Sum.inr.injEq, Sum.inl.injEq, decide_true, decide_false, Bool.or_false, Bool.or_true, Bool.true_or, Bool.false_or, List.append_cancel_left_eq, Bool.false_eq_true, List.map_cons, List.map_nil, List.mapM_cons, List.mapM_nil, Option.pure_def, Option.bind_eq_bind, Option.bind_some, Option.bind_none, Nat.lt_irrefl, Option.map_some, Option.map_none, and_assoc, Nat.zero_add, Nat.reduceAdd, Nat.reduceLeDiff, Nat.le_refl, sizeLine_eq, and_self, forall_const, Bool.not_eq_true', Bool.not_true, Bool.not_false, decide_eq_false_iff_not, ite_not]
        exact q .any M2 trivial (by show (1 : Int) ≤ s; omega) d2
    · unfold w_form_5
      simp only [dSeq, dIf, dAsg, dgName, dVar, dC, dOp, dNil, dCons, dTup, dTest, dAnd, dOr, dNot, dIfE, dAndV, dOrV, dNotV, dNext, dRet, dRetN, dDrop, dCall, dCallS, wLen, wI, wAdd, wAddI, wAddS, wAddL, wSub, wMod, wDiv, wPow, wLt, wLe, wGt, wGe, wMulB, wMulS, wEqF, wNeF, wIsN, wNotN, wInS, wNotInS, wIx, dNeg, dAug, dAppend, dLst, dLstM, dLstB, dSl, dPart, dNo, wCut, dBreak, dCont, dRaise, dMeth, dFld, wFld, dSetF, dAugF, dgTupF, dgTup, dgCons, dgNil, dgSet, dThen, dSo, dSoE, wIntC, dChain, dMake, wListC, wListM, dDisp, dPsCons, dPsNil, keysOf, DL.putAll, putD, valD, dUpC, inV, wDGet, wDIn, dDPut, dGet2, dPopAt, dJoin, wInL, dIsX, List.getElem?_cons_zero, List.getElem?_cons_succ, List.getElem?_nil, Option.some.injEq, D.int.injEq, D.str.injEq, D.bl.injEq, D.ptr.injEq, D.lst.injEq, D.tup.injEq, D.scr.injEq, D.xc.injEq, D.kr.injEq, D.ty.injEq, MO.lst.injEq, MO.ins.injEq, MO.dK.injEq, V.int.injEq, V.str.injEq, V.bl.injEq, List.cons.injEq, List.set_cons_zero, List.set_cons_succ, and_true, true_and, or_false, false_or, or_true, true_or, and_false, false_and, exists_false, exists_eq_left, exists_eq_left', exists_eq_right, exists_eq_right', exists_eq, exists_eq', exists_and_left, exists_and_right, exists_const, reduceCtorEq, decide_eq_true_eq, if_true, if_false, List.length_cons, List.length_nil, List.append_nil, List.nil_append, List.cons_append, v_scalI, v_scalS, v_scalB, v_scalN, v_decI, v_decS, v_decB, v_lsL, v_lsP, v_lsI, v_lsS, v_lsB, v_lsT, v_lsN, v_sqT, v_sqL, v_sqP, v_sqI, v_sqS, v_sqB, v_sqN, v_vI, v_vS, v_vB, v_vN, v_vT, v_vL, v_vP, v_sign, v_map, v_at0, v_at1, v_at2, v_at3, v_at4, v_at5, v_ofs, v_eqS, v_eqI, v_dkP, v_bdS, v_bdI, v_bdB, v_bdN, v_bdT, v_bdL, v_bdP, v_bdsN, v_bdsC, v_lastD, v_lastS, v_kyS, v_kyI, v_tt, v_ff, String.reduceEq, List.foldl_cons, List.foldl_nil, List.any_cons, List.any_nil, List.find?_cons, List.find?_nil, Sum.inr.injEq, Sum.inl.injEq, decide_true, decide_false, Bool.or_false, Bool.or_true, Bool.true_or, Bool.false_or, List.append_cancel_left_eq, Bool.false_eq_true, List.map_cons, List.map_nil, List.mapM_cons, List.mapM_nil, Option.pure_def, Option.bind_eq_bind, Option.bind_some, Option.bind_none, Nat.lt_irrefl, Option.map_some, Option.map_none, and_assoc, Nat.zero_add, Nat.reduceAdd, Nat.reduceLeDiff, Nat.le_refl, sizeLine_eq, and_self, forall_const, Bool.not_eq_true', Bool.not_true, Bool.not_false, decide_eq_false_iff_not, ite_not]
      have lt : ∀ De : Ds, De.rt = (DsF M Qd Xd).rt → w_form_7 K w ad (F_form n) De [some (D.ptr d), some (D.str L), some (D.int s), some (D.lst (List.map D.str N)), some (D.int v), none, none] M1 := fun De e => by
        unfold w_form_7
        simp only [dSeq, dIf, dAsg, dgName, dVar, dC, dOp, dNil, dCons, dTup, dTest, dAnd, dOr, dNot, dIfE, dAndV, dOrV, dNotV, dNext, dRet, dRetN, dDrop, dCall, dCallS, wLen, wI, wAdd, wAddI, wAddS, wAddL, wSub, wMod, wDiv, wPow, wLt, wLe, wGt, wGe, wMulB, wMulS, wEqF, wNeF, wIsN, wNotN, wInS, wNotInS, wIx, dNeg, dAug, dAppend, dLst, dLstM, dLstB, dSl, dPart, dNo, wCut, dBreak, dCont, dRaise, dMeth, dFld, wFld, dSetF, dAugF, dgTupF, dgTup, dgCons, dgNil, dgSet, dThen, dSo, dSoE, wIntC, dChain, dMake, wListC, wListM, dDisp, dPsCons, dPsNil, keysOf, DL.putAll, putD, valD, dUpC, inV, wDGet, wDIn, dDPut, dGet2, dPopAt, dJoin, wInL, dIsX, List.getElem?_cons_zero, List.getElem?_cons_succ, List.getElem?_nil, Option.some.injEq, D.int.injEq, D.str.injEq, D.bl.injEq, D.ptr.injEq, D.lst.injEq, D.tup.injEq, D.scr.injEq, D.xc.injEq, D.kr.injEq, D.ty.injEq, MO.lst.injEq, MO.ins.injEq, MO.dK.injEq, V.int.injEq, V.str.injEq, V.bl.injEq, List.cons.injEq, List.set_cons_zero, List.set_cons_succ, and_true, true_and, or_false, false_or, or_true, true_or, and_false, false_and, exists_false, exists_eq_left, exists_eq_left', exists_eq_right, exists_eq_right', exists_eq, exists_eq', exists_and_left, exists_and_right, exists_const, reduceCtorEq, decide_eq_true_eq, if_true, if_false, List.length_cons, List.length_nil, List.append_nil, List.nil_append, List.cons_append, v_scalI, v_scalS, v_scalB, v_scalN, v_decI, v_decS, v_decB, v_lsL, v_lsP, v_lsI, v_lsS, v_lsB, v_lsT, v_lsN, v_sqT, v_sqL, v_sqP, v_sqI, v_sqS, v_sqB, v_sqN, v_vI, v_vS, v_vB, v_vN, v_vT, v_vL, v_vP, v_sign, v_map, v_at0, v_at1, v_at2, v_at3, v_at4, v_at5, v_ofs, v_eqS, v_eqI, v_dkP, v_bdS, v_bdI, v_bdB, v_bdN, v_bdT, v_bdL, v_bdP, v_bdsN, v_bdsC, v_lastD, v_lastS, v_kyS, v_kyI, v_tt, v_ff, String.reduceEq, List.foldl_cons, List.foldl_nil, List.any_cons, List.any_nil, List.find?_cons, List.find?_nil, Sum.inr.injEq, Sum.inl.injEq, decide_true, decide_false, Bool.or_false, Bool.or_true, Bool.true_or, Bool.false_or, List.append_cancel_left_eq, Bool.false_eq_true, List.map_cons, List.map_nil, List.mapM_cons, List.mapM_nil, Option.pure_def, Option.bind_eq_bind, Option.bind_some, Option.bind_none, Nat.lt_irrefl, Option.map_some, Option.map_none, and_assoc, Nat.zero_add, Nat.reduceAdd, Nat.reduceLeDiff, Nat.le_refl, sizeLine_eq, and_self, forall_const, Bool.not_eq_true', Bool.not_true, Bool.not_false, decide_eq_false_iff_not, ite_not]
        refine ⟨by omega, r_dr1 d1.1 (by omega) (by omega) fun u M2 u0 u1 d2 => ?_⟩
        obtain ⟨c, hc, ec⟩ := at_some (xs := L.cps.toList) u0 (by rw [← len_cps]; exact u1)
        simp only [dSeq, dIf, dAsg, dgName, dVar, dC, dOp, dNil, dCons, dTup, dTest, dAnd, dOr, dNot, dIfE, dAndV, dOrV, dNotV, dNext, dRet, dRetN, dDrop, dCall, dCallS, wLen, wI, wAdd, wAddI, wAddS, wAddL, wSub, wMod, wDiv, wPow, wLt, wLe, wGt, wGe, wMulB, wMulS, wEqF, wNeF, wIsN, wNotN, wInS, wNotInS, wIx, dNeg, dAug, dAppend, dLst, dLstM, dLstB, dSl, dPart, dNo, wCut, dBreak, dCont, dRaise, dMeth, dFld, wFld, dSetF, dAugF, dgTupF, dgTup, dgCons, dgNil, dgSet, dThen, dSo, dSoE, wIntC, dChain, dMake, wListC, wListM, dDisp, dPsCons, dPsNil, keysOf, DL.putAll, putD, valD, dUpC, inV, wDGet, wDIn, dDPut, dGet2, dPopAt, dJoin, wInL, dIsX, List.getElem?_cons_zero, List.getElem?_cons_succ, List.getElem?_nil, Option.some.injEq, D.int.injEq, D.str.injEq, D.bl.injEq, D.ptr.injEq, D.lst.injEq, D.tup.injEq, D.scr.injEq, D.xc.injEq, D.kr.injEq, D.ty.injEq, MO.lst.injEq, MO.ins.injEq, MO.dK.injEq, V.int.injEq, V.str.injEq, V.bl.injEq, List.cons.injEq, List.set_cons_zero, List.set_cons_succ, and_true, true_and, or_false, false_or, or_true, true_or, and_false, false_and, exists_false, exists_eq_left, exists_eq_left', exists_eq_right, exists_eq_right', exists_eq, exists_eq', exists_and_left, exists_and_right, exists_const, reduceCtorEq, decide_eq_true_eq, if_true, if_false, List.length_cons, List.length_nil, List.append_nil, List.nil_append, List.cons_append, v_scalI, v_scalS, v_scalB, v_scalN, v_decI, v_decS, v_decB, v_lsL, v_lsP, v_lsI, v_lsS, v_lsB, v_lsT, v_lsN, v_sqT, v_sqL, v_sqP, v_sqI, v_sqS, v_sqB, v_sqN, v_vI, v_vS, v_vB, v_vN, v_vT, v_vL, v_vP, v_sign, v_map, v_at0, v_at1, v_at2, v_at3, v_at4, v_at5, v_ofs, v_eqS, v_eqI, v_dkP, v_bdS, v_bdI, v_bdB, v_bdN, v_bdT, v_bdL, v_bdP, v_bdsN, v_bdsC, v_lastD, v_lastS, v_kyS, v_kyI, v_tt, v_ff, String.reduceEq, List.foldl_cons, List.foldl_nil, List.any_cons, List.any_nil, List.find?_cons, List.find?_nil, Sum.inr.injEq, Sum.inl.injEq, decide_true, decide_false, Bool.or_false, Bool.or_true, Bool.true_or, Bool.false_or, List.append_cancel_left_eq, Bool.false_eq_true, List.map_cons, List.map_nil, List.mapM_cons, List.mapM_nil, Option.pure_def, Option.bind_eq_bind, Option.bind_some, Option.bind_none, Nat.lt_irrefl, Option.map_some, Option.map_none, and_assoc, Nat.zero_add, Nat.reduceAdd, Nat.reduceLeDiff, Nat.le_refl, sizeLine_eq, and_self, forall_const, Bool.not_eq_true', Bool.not_true, Bool.not_false, decide_eq_false_iff_not, ite_not, ec]
        refine ⟨by omega, ?_⟩
        rw [e]
        exact q (.letter c) M2 hc (by show (1 : Int) ≤ s; omega) (d1.trans d2)
      have hN' : (List.map D.str N).length = N.length := List.length_map _
      split
      · split
        · unfold w_form_6
          simp only [dSeq, dIf, dAsg, dgName, dVar, dC, dOp, dNil, dCons, dTup, dTest, dAnd, dOr, dNot, dIfE, dAndV, dOrV, dNotV, dNext, dRet, dRetN, dDrop, dCall, dCallS, wLen, wI, wAdd, wAddI, wAddS, wAddL, wSub, wMod, wDiv, wPow, wLt, wLe, wGt, wGe, wMulB, wMulS, wEqF, wNeF, wIsN, wNotN, wInS, wNotInS, wIx, dNeg, dAug, dAppend, dLst, dLstM, dLstB, dSl, dPart, dNo, wCut, dBreak, dCont, dRaise, dMeth, dFld, wFld, dSetF, dAugF, dgTupF, dgTup, dgCons, dgNil, dgSet, dThen, dSo, dSoE, wIntC, dChain, dMake, wListC, wListM, dDisp, dPsCons, dPsNil, keysOf, DL.putAll, putD, valD, dUpC, inV, wDGet, wDIn, dDPut, dGet2, dPopAt, dJoin, wInL, dIsX, List.getElem?_cons_zero, List.getElem?_cons_succ, List.getElem?_nil, Option.some.injEq, D.int.injEq, D.str.injEq, D.bl.injEq, D.ptr.injEq, D.lst.injEq, D.tup.injEq, D.scr.injEq, D.xc.injEq, D.kr.injEq, D.ty.injEq, MO.lst.injEq, MO.ins.injEq, MO.dK.injEq, V.int.injEq, V.str.injEq, V.bl.injEq, List.cons.injEq, List.set_cons_zero, List.set_cons_succ, and_true, true_and, or_false, false_or, or_true, true_or, and_false, false_and, exists_false, exists_eq_left, exists_eq_left', exists_eq_right, exists_eq_right', exists_eq, exists_eq', exists_and_left, exists_and_right, exists_const, reduceCtorEq, decide_eq_true_eq, if_true, if_false, List.length_cons, List.length_nil, List.append_nil, List.nil_append, List.cons_append, v_scalI, v_scalS, v_scalB, v_scalN, v_decI, v_decS, v_decB, v_lsL, v_lsP, v_lsI, v_lsS, v_lsB, v_lsT, v_lsN, v_sqT, v_sqL, v_sqP, v_sqI, v_sqS, v_sqB, v_sqN, v_vI, v_vS, v_vB, v_vN, v_vT, v_vL, v_vP, v_sign, v_map, v_at0, v_at1, v_at2, v_at3, v_at4, v_at5, v_ofs, v_eqS, v_eqI, v_dkP, v_bdS, v_bdI, v_bdB, v_bdN, v_bdT, v_bdL, v_bdP, v_bdsN, v_bdsC, v_lastD, v_lastS, v_kyS, v_kyI, v_tt, v_ff, String.reduceEq, List.foldl_cons, List.foldl_nil, List.any_cons, List.any_nil, List.find?_cons, List.find?_nil, Sum.inr.injEq, Sum.inl.injEq, decide_true, decide_false, Bool.or_false, Bool.or_true, Bool.true_or, Bool.false_or, List.append_cancel_left_eq, Bool.false_eq_true, List.map_cons, List.map_nil, List.mapM_cons, List.mapM_nil, Option.pure_def, Option.bind_eq_bind, Option.bind_some, Option.bind_none, Nat.lt_irrefl, Option.map_some, Option.map_none, and_assoc, Nat.zero_add, Nat.reduceAdd, Nat.reduceLeDiff, Nat.le_refl, sizeLine_eq, and_self, forall_const, Bool.not_eq_true', Bool.not_true, Bool.not_false, decide_eq_false_iff_not, ite_not]
          refine r_dr1 d1.1 (by omega) (by omega) fun u M2 u0 u1 d2 => ?_
          obtain ⟨c, hc, ec⟩ := at_some (xs := N) u0 (by omega)
          simp only [dSeq, dIf, dAsg, dgName, dVar, dC, dOp, dNil, dCons, dTup, dTest, dAnd, dOr, dNot, dIfE, dAndV, dOrV, dNotV, dNext, dRet, dRetN, dDrop, dCall, dCallS, wLen, wI, wAdd, wAddI, wAddS, wAddL, wSub, wMod, wDiv, wPow, wLt, wLe, wGt, wGe, wMulB, wMulS, wEqF, wNeF, wIsN, wNotN, wInS, wNotInS, wIx, dNeg, dAug, dAppend, dLst, dLstM, dLstB, dSl, dPart, dNo, wCut, dBreak, dCont, dRaise, dMeth, dFld, wFld, dSetF, dAugF, dgTupF, dgTup, dgCons, dgNil, dgSet, dThen, dSo, dSoE, wIntC, dChain, dMake, wListC, wListM, dDisp, dPsCons, dPsNil, keysOf, DL.putAll, putD, valD, dUpC, inV, wDGet, wDIn, dDPut, dGet2, dPopAt, dJoin, wInL, dIsX, List.getElem?_cons_zero, List.getElem?_cons_succ, List.getElem?_nil, Option.some.injEq, D.int.injEq, D.str.injEq, D.bl.injEq, D.ptr.injEq, D.lst.injEq, D.tup.injEq, D.scr.injEq, D.xc.injEq, D.kr.injEq, D.ty.injEq, MO.lst.injEq, MO.ins.injEq, MO.dK.injEq, V.int.injEq, V.str.injEq, V.bl.injEq, List.cons.injEq, List.set_cons_zero, List.set_cons_succ, and_true, true_and, or_false, false_or, or_true, true_or, and_false, false_and, exists_false, exists_eq_left, exists_eq_left', exists_eq_right, exists_eq_right', exists_eq, exists_eq', exists_and_left, exists_and_right, exists_const, reduceCtorEq, decide_eq_true_eq, if_true, if_false, List.length_cons, List.length_nil, List.append_nil, List.nil_append, List.cons_append, v_scalI, v_scalS, v_scalB, v_scalN, v_decI, v_decS, v_decB, v_lsL, v_lsP, v_lsI, v_lsS, v_lsB, v_lsT, v_lsN, v_sqT, v_sqL, v_sqP, v_sqI, v_sqS, v_sqB, v_sqN, v_vI, v_vS, v_vB, v_vN, v_vT, v_vL, v_vP, v_sign, v_map, v_at0, v_at1, v_at2, v_at3, v_at4, v_at5, v_ofs, v_eqS, v_eqI, v_dkP, v_bdS, v_bdI, v_bdB, v_bdN, v_bdT, v_bdL, v_bdP, v_bdsN, v_bdsC, v_lastD, v_lastS, v_kyS, v_kyI, v_tt, v_ff, String.reduceEq, List.foldl_cons, List.foldl_nil, List.any_cons, List.any_nil, List.find?_cons, List.find?_nil, Sum.inr.injEq, Sum.inl.injEq, decide_true, decide_false, Bool.or_false, Bool.or_true, Bool.true_or, Bool.false_or, List.append_cancel_left_eq, Bool.false_eq_true, List.map_cons, List.map_nil, List.mapM_cons, List.mapM_nil, Option.pure_def, Option.bind_eq_bind, Option.bind_some, Option.bind_none, Nat.lt_irrefl, Option.map_some, Option.map_none, and_assoc, Nat.zero_add, Nat.reduceAdd, Nat.reduceLeDiff, Nat.le_refl, sizeLine_eq, and_self, forall_const, Bool.not_eq_true', Bool.not_true, Bool.not_false, decide_eq_false_iff_not, ite_not, ec]
          exact q (.name c) M2 hc (by show (1 : Int) ≤ s; omega) (d1.trans d2)
        · exact lt _ rfl
      · exact lt _ rfl
  · rename_i hs
    unfold w_form_8
    simp only [dSeq, dIf, dAsg, dgName, dVar, dC, dOp, dNil, dCons, dTup, dTest, dAnd, dOr, dNot, dIfE, dAndV, dOrV, dNotV, dNext, dRet, dRetN, dDrop, dCall, dCallS, wLen, wI, wAdd, wAddI, wAddS, wAddL, wSub, wMod, wDiv, wPow, wLt, wLe, wGt, wGe, wMulB, wMulS, wEqF, wNeF, wIsN, wNotN, wInS, wNotInS, wIx, dNeg, dAug, dAppend, dLst, dLstM, dLstB, dSl, dPart, dNo, wCut, dBreak, dCont, dRaise, dMeth, dFld, wFld, dSetF, dAugF, dgTupF, dgTup, dgCons, dgNil, dgSet, dThen, dSo, dSoE, wIntC, dChain, dMake, wListC, wListM, dDisp, dPsCons, dPsNil, keysOf, DL.putAll, putD, valD, dUpC, inV, wDGet, wDIn, dDPut, dGet2, dPopAt, dJoin, wInL, dIsX, List.getElem?_cons_zero, List.getElem?_cons_succ, List.getElem?_nil, Option.some.injEq, D.int.injEq, D.str.injEq, D.bl.injEq, D.ptr.injEq, D.lst.injEq, D.tup.injEq, D.scr.injEq, D.xc.injEq, D.kr.injEq, D.ty.injEq, MO.lst.injEq, MO.ins.injEq, MO.dK.injEq, V.int.injEq, V.str.injEq, V.bl.injEq, List.cons.injEq, List.set_cons_zero, List.set_cons_succ, and_true, true_and, or_false, false_or, or_true, true_or, and_false, false_and, exists_false, exists_eq_left, exists_eq_left', exists_eq_right, exists_eq_right', exists_eq, exists_eq', exists_and_left, exists_and_right, exists_const, reduceCtorEq, decide_eq_true_eq, if_true, if_false, List.length_cons, List.length_nil, List.append_nil, List.nil_append, List.cons_append, v_scalI, v_scalS, v_scalB, v_scalN, v_decI, v_decS, v_decB, v_lsL, v_lsP, v_lsI, v_lsS, v_lsB, v_lsT, v_lsN, v_sqT, v_sqL, v_sqP, v_sqI, v_sqS, v_sqB, v_sqN, v_vI, v_vS, v_vB, v_vN, v_vT, v_vL, v_vP, v_sign, v_map, v_at0, v_at1, v_at2, v_at3, v_at4, v_at5, v_ofs, v_eqS, v_eqI, v_dkP, v_bdS, v_bdI, v_bdB, v_bdN, v_bdT, v_bdL, v_bdP, v_bdsN, v_bdsC, v_lastD, v_lastS, v_kyS, v_kyI, v_tt, v_ff, String.reduceEq, List.foldl_cons, List.foldl_nil, List.any_cons, List.any_nil, List.find?_cons, List.find?_nil, Sum.inr.injEq, Sum.inl.injEq, decide_true, decide_false, Bool.or_false, Bool.or_true, Bool.true_or, Bool.false_or, List.append_cancel_left_eq, Bool.false_eq_true, List.map_cons, List.map_nil, List.mapM_cons, List.mapM_nil, Option.pure_def, Option.bind_eq_bind, Option.bind_some, Option.bind_none, Nat.lt_irrefl, Option.map_some, Option.map_none, and_assoc, Nat.zero_add, Nat.reduceAdd, Nat.reduceLeDiff, Nat.le_refl, sizeLine_eq, and_self, forall_const, Bool.not_eq_true', Bool.not_true, Bool.not_false, decide_eq_false_iff_not, ite_not]
    refine r_dr1 hd (by omega) (by omega) fun v M1 v0 v1 d1 => ?_
    unfold w_form_9
    simp only [dSeq, dIf, dAsg, dgName, dVar, dC, dOp, dNil, dCons, dTup, dTest, dAnd, dOr, dNot, dIfE, dAndV, dOrV, dNotV, dNext, dRet, dRetN, dDrop, dCall, dCallS, wLen, wI, wAdd, wAddI, wAddS, wAddL, wSub, wMod, wDiv, wPow, wLt, wLe, wGt, wGe, wMulB, wMulS, wEqF, wNeF, wIsN, wNotN, wInS, wNotInS, wIx, dNeg, dAug, dAppend, dLst, dLstM, dLstB, dSl, dPart, dNo, wCut, dBreak, dCont, dRaise, dMeth, dFld, wFld, dSetF, dAugF, dgTupF, dgTup, dgCons, dgNil, dgSet, dThen, dSo, dSoE, wIntC, dChain, dMake, wListC, wListM, dDisp, dPsCons, dPsNil, keysOf, DL.putAll, putD, valD, dUpC, inV, wDGet, wDIn, dDPut, dGet2, dPopAt, dJoin, wInL, dIsX, List.getElem?_cons_zero, List.getElem?_cons_succ, List.getElem?_nil, Option.some.injEq, D.int.injEq, D.str.injEq, D.bl.injEq, D.ptr.injEq, D.lst.injEq, D.tup.injEq, D.scr.injEq, D.xc.injEq, D.kr.injEq, D.ty.injEq, MO.lst.injEq, MO.ins.injEq, MO.dK.injEq, V.int.injEq, V.str.injEq, V.bl.injEq, List.cons.injEq, List.set_cons_zero, List.set_cons_succ, and_true, true_and, or_false, false_or, or_true, true_or, and_false, false_and, exists_false, exists_eq_left, exists_eq_left', exists_eq_right, exists_eq_right', exists_eq, exists_eq', exists_and_left, exists_and_right, exists_const, reduceCtorEq, decide_eq_true_eq, if_true, if_false, List.length_cons, List.length_nil, List.append_nil, List.nil_append, List.cons_append, v_scalI, v_scalS, v_scalB, v_scalN, v_decI, v_decS, v_decB, v_lsL, v_lsP, v_lsI, v_lsS, v_lsB, v_lsT, v_lsN, v_sqT, v_sqL, v_sqP, v_sqI, v_sqS, v_sqB, v_sqN, v_vI, v_vS, v_vB, v_vN, v_vT, v_vL, v_vP, v_sign, v_map, v_at0, v_at1, v_at2, v_at3, v_at4, v_at5, v_ofs, v_eqS, v_eqI, v_dkP, v_bdS, v_bdI, v_bdB, v_bdN, v_bdT, v_bdL, v_bdP, v_bdsN, v_bdsC, v_lastD, v_lastS, v_kyS, v_kyI, v_tt, v_ff, String.reduceEq, List.foldl_cons, List.foldl_nil, List.any_cons, List.any_nil, List.find?_cons, List.find?_nil, Sum.inr.injEq, Sum.inl.injEq, decide_true, decide_false, Bool.or_false, Bool.or_true, Bool.true_or, Bool.false_or, List.append_cancel_left_eq, Bool.false_eq_true, List.map_cons, List.map_nil, List.mapM_cons, List.mapM_nil, Option.pure_def, Option.bind_eq_bind, Option.bind_some, Option.bind_none, Nat.lt_irrefl, Option.map_some, Option.map_none, and_assoc, Nat.zero_add, Nat.reduceAdd, Nat.reduceLeDiff, Nat.le_refl, sizeLine_eq, and_self, forall_const, Bool.not_eq_true', Bool.not_true, Bool.not_false, decide_eq_false_iff_not, ite_not]
    split
    · unfold w_form_10
      simp only [dSeq, dIf, dAsg, dgName, dVar, dC, dOp, dNil, dCons, dTup, dTest, dAnd, dOr, dNot, dIfE, dAndV, dOrV, dNotV, dNext, dRet, dRetN, dDrop, dCall, dCallS, wLen, wI, wAdd, wAddI, wAddS, wAddL, wSub, wMod, wDiv, wPow, wLt, wLe, wGt, wGe, wMulB, wMulS, wEqF, wNeF, wIsN, wNotN, wInS, wNotInS, wIx, dNeg, dAug, dAppend, dLst, dLstM, dLstB, dSl, dPart, dNo, wCut, dBreak, dCont, dRaise, dMeth, dFld, wFld, dSetF, dAugF, dgTupF, dgTup, dgCons, dgNil, dgSet, dThen, dSo, dSoE, wIntC, dChain, dMake, wListC, wListM, dDisp, dPsCons, dPsNil, keysOf, DL.putAll, putD, valD, dUpC, inV, wDGet, wDIn, dDPut, dGet2, dPopAt, dJoin, wInL, dIsX, List.getElem?_cons_zero, List.getElem?_cons_succ, List.getElem?_nil, Option.some.injEq, D.int.injEq, D.str.injEq, D.bl.injEq, D.ptr.injEq, D.lst.injEq, D.tup.injEq, D.scr.injEq, D.xc.injEq, D.kr.injEq, D.ty.injEq, MO.lst.injEq, MO.ins.injEq, MO.dK.injEq, V.int.injEq, V.str.injEq, V.bl.injEq, List.cons.injEq, List.set_cons_zero, List.set_cons_succ, and_true, true_and, or_false, false_or, or_true, true_or, and_false, false_and, exists_false, exists_eq_left, exists_eq_left', exists_eq_right, exists_eq_right', exists_eq, exists_eq', exists_and_left, exists_and_right, exists_const, reduceCtorEq, decide_eq_true_eq, if_true, if_false, List.length_cons, List.length_nil, List.append_nil, List.nil_append, List.cons_append, v_scalI, v_scalS, v_scalB, v_scalN, v_decI, v_decS, v_decB, v_lsL, v_lsP, v_lsI, v_lsS, v_lsB, v_lsT, v_lsN, v_sqT, v_sqL, v_sqP, v_sqI, v_sqS, v_sqB, v_sqN, v_vI, v_vS, v_vB, v_vN, v_vT, v_vL, v_vP, v_sign, v_map, v_at0, v_at1, v_at2, v_at3, v_at4, v_at5, v_ofs, v_eqS, v_eqI, v_dkP, v_bdS, v_bdI, v_bdB, v_bdN, v_bdT, v_bdL, v_bdP, v_bdsN, v_bdsC, v_lastD, v_lastS, v_kyS, v_kyI, v_tt, v_ff, String.reduceEq, List.foldl_cons, List.foldl_nil, List.any_cons, List.any_nil, List.find?_cons, List.find?_nil, Sum.inr.injEq, Sum.inl.injEq, decide_true, decide_false, Bool.or_false, Bool.or_true, Bool.true_or, Bool.false_or, List.append_cancel_left_eq, Bool.false_eq_true, List.map_cons, List.map_nil, List.mapM_cons, List.mapM_nil, Option.pure_def, Option.bind_eq_bind, Option.bind_some, Option.bind_none, Nat.lt_irrefl, Option.map_some, Option.map_none, and_assoc, Nat.zero_add, Nat.reduceAdd, Nat.reduceLeDiff, Nat.le_refl, sizeLine_eq, and_self, forall_const, Bool.not_eq_true', Bool.not_true, Bool.not_false, decide_eq_false_iff_not, ite_not, F_form]
      rcases (show v = 0 ∨ v = 1 by omega) with rfl | rfl
      · simp only [dSeq, dIf, dAsg, dgName, dVar, dC, dOp, dNil, dCons, dTup, dTest, dAnd, dOr, dNot, dIfE, dAndV, dOrV, dNotV, dNext, dRet, dRetN, dDrop, dCall, dCallS, wLen, wI, wAdd, wAddI, wAddS, wAddL, wSub, wMod, wDiv, wPow, wLt, wLe, wGt, wGe, wMulB, wMulS, wEqF, wNeF, wIsN, wNotN, wInS, wNotInS, wIx, dNeg, dAug, dAppend, dLst, dLstM, dLstB, dSl, dPart, dNo, wCut, dBreak, dCont, dRaise, dMeth, dFld, wFld, dSetF, dAugF, dgTupF, dgTup, dgCons, dgNil, dgSet, dThen, dSo, dSoE, wIntC, dChain, dMake, wListC, wListM, dDisp, dPsCons, dPsNil, keysOf, DL.putAll, putD, valD, dUpC, inV, wDGet, wDIn, dDPut, dGet2, dPopAt, dJoin, wInL, dIsX, List.getElem?_cons_zero, List.getElem?_cons_succ, List.getElem?_nil, Option.some.injEq, D.int.injEq, D.str.injEq, D.bl.injEq, D.ptr.injEq, D.lst.injEq, D.tup.injEq, D.scr.injEq, D.xc.injEq, D.kr.injEq, D.ty.injEq, MO.lst.injEq, MO.ins.injEq, MO.dK.injEq, V.int.injEq, V.str.injEq, V.bl.injEq, List.cons.injEq, List.set_cons_zero, List.set_cons_succ, and_true, true_and, or_false, false_or, or_true, true_or, and_false, false_and, exists_false, exists_eq_left, exists_eq_left', exists_eq_right, exists_eq_right', exists_eq, exists_eq', exists_and_left, exists_and_right, exists_const, reduceCtorEq, decide_eq_true_eq, if_true, if_false, List.length_cons, List.length_nil, List.append_nil, List.nil_append, List.cons_append, v_scalI, v_scalS, v_scalB, v_scalN, v_decI, v_decS, v_decB, v_lsL, v_lsP, v_lsI, v_lsS, v_lsB, v_lsT, v_lsN, v_sqT, v_sqL, v_sqP, v_sqI, v_sqS, v_sqB, v_sqN, v_vI, v_vS, v_vB, v_vN, v_vT, v_vL, v_vP, v_sign, v_map, v_at0, v_at1, v_at2, v_at3, v_at4, v_at5, v_ofs, v_eqS, v_eqI, v_dkP, v_bdS, v_bdI, v_bdB, v_bdN, v_bdT, v_bdL, v_bdP, v_bdsN, v_bdsC, v_lastD, v_lastS, v_kyS, v_kyI, v_tt, v_ff, String.reduceEq, List.foldl_cons, List.foldl_nil, List.any_cons, List.any_nil, List.find?_cons, List.find?_nil, Sum.inr.injEq, Sum.inl.injEq, decide_true, decide_false, Bool.or_false, Bool.or_true, Bool.true_or, Bool.false_or, List.append_cancel_left_eq, Bool.false_eq_true, List.map_cons, List.map_nil, List.mapM_cons, List.mapM_nil, Option.pure_def, Option.bind_eq_bind, Option.bind_some, Option.bind_none, Nat.lt_irrefl, Option.map_some, Option.map_none, and_assoc, Nat.zero_add, Nat.reduceAdd, Nat.reduceLeDiff, Nat.le_refl, sizeLine_eq, and_self, forall_const, Bool.not_eq_true', Bool.not_true, Bool.not_false, decide_eq_false_iff_not, ite_not]
        refine ⟨N, rfl, d1.1, l0, l1, hN, by omega, by omega, by omega, fun f M2 ok sz d2 => ?_⟩
        exact q (.not f) M2 ok (by show ((f.size + 1 : Nat) : Int) ≤ s; omega) (d1.trans d2)
      · simp only [dSeq, dIf, dAsg, dgName, dVar, dC, dOp, dNil, dCons, dTup, dTest, dAnd, dOr, dNot, dIfE, dAndV, dOrV, dNotV, dNext, dRet, dRetN, dDrop, dCall, dCallS, wLen, wI, wAdd, wAddI, wAddS, wAddL, wSub, wMod, wDiv, wPow, wLt, wLe, wGt, wGe, wMulB, wMulS, wEqF, wNeF, wIsN, wNotN, wInS, wNotInS, wIx, dNeg, dAug, dAppend, dLst, dLstM, dLstB, dSl, dPart, dNo, wCut, dBreak, dCont, dRaise, dMeth, dFld, wFld, dSetF, dAugF, dgTupF, dgTup, dgCons, dgNil, dgSet, dThen, dSo, dSoE, wIntC, dChain, dMake, wListC, wListM, dDisp, dPsCons, dPsNil, keysOf, DL.putAll, putD, valD, dUpC, inV, wDGet, wDIn, dDPut, dGet2, dPopAt, dJoin, wInL, dIsX, List.getElem?_cons_zero, List.getElem?_cons_succ, List.getElem?_nil, Option.some.injEq, D.int.injEq, D.str.injEq, D.bl.injEq, D.ptr.injEq, D.lst.injEq, D.tup.injEq, D.scr.injEq, D.xc.injEq, D.kr.injEq, D.ty.injEq, MO.lst.injEq, MO.ins.injEq, MO.dK.injEq, V.int.injEq, V.str.injEq, V.bl.injEq, List.cons.injEq, List.set_cons_zero, List.set_cons_succ, and_true, true_and, or_false, false_or, or_true, true_or, and_false, false_and, exists_false, exists_eq_left, exists_eq_left', exists_eq_right, exists_eq_right', exists_eq, exists_eq', exists_and_left, exists_and_right, exists_const, reduceCtorEq, decide_eq_true_eq, if_true, if_false, List.length_cons, List.length_nil, List.append_nil, List.nil_append, List.cons_append, v_scalI, v_scalS, v_scalB, v_scalN, v_decI, v_decS, v_decB, v_lsL, v_lsP, v_lsI, v_lsS, v_lsB, v_lsT, v_lsN, v_sqT, v_sqL, v_sqP, v_sqI, v_sqS, v_sqB, v_sqN, v_vI, v_vS, v_vB, v_vN, v_vT, v_vL, v_vP, v_sign, v_map, v_at0, v_at1, v_at2, v_at3, v_at4, v_at5, v_ofs, v_eqS, v_eqI, v_dkP, v_bdS, v_bdI, v_bdB, v_bdN, v_bdT, v_bdL, v_bdP, v_bdsN, v_bdsC, v_lastD, v_lastS, v_kyS, v_kyI, v_tt, v_ff, String.reduceEq, List.foldl_cons, List.foldl_nil, List.any_cons, List.any_nil, List.find?_cons, List.find?_nil, Sum.inr.injEq, Sum.inl.injEq, decide_true, decide_false, Bool.or_false, Bool.or_true, Bool.true_or, Bool.false_or, List.append_cancel_left_eq, Bool.false_eq_true, List.map_cons, List.map_nil, List.mapM_cons, List.mapM_nil, Option.pure_def, Option.bind_eq_bind, Option.bind_some, Option.bind_none, Nat.lt_irrefl, Option.map_some, Option.map_none, and_assoc, Nat.zero_add, Nat.reduceAdd, Nat.reduceLeDiff, Nat.le_refl, sizeLine_eq, and_self, forall_const, Bool.not_eq_true', Bool.not_true, Bool.not_false, decide_eq_false_iff_not, ite_not]
        refine ⟨N, rfl, d1.1, l0, l1, hN, by omega, by omega, by omega, fun f M2 ok sz d2 => ?_⟩
        exact q (.star f) M2 ok (by show ((f.size + 1 : Nat) : Int) ≤ s; omega) (d1.trans d2)
    · unfold w_form_11
      simp only [dSeq, dIf, dAsg, dgName, dVar, dC, dOp, dNil, dCons, dTup, dTest, dAnd, dOr, dNot, dIfE, dAndV, dOrV, dNotV, dNext, dRet, dRetN, dDrop, dCall, dCallS, wLen, wI, wAdd, wAddI, wAddS, wAddL, wSub, wMod, wDiv, wPow, wLt, wLe, wGt, wGe, wMulB, wMulS, wEqF, wNeF, wIsN, wNotN, wInS, wNotInS, wIx, dNeg, dAug, dAppend, dLst, dLstM, dLstB, dSl, dPart, dNo, wCut, dBreak, dCont, dRaise, dMeth, dFld, wFld, dSetF, dAugF, dgTupF, dgTup, dgCons, dgNil, dgSet, dThen, dSo, dSoE, wIntC, dChain, dMake, wListC, wListM, dDisp, dPsCons, dPsNil, keysOf, DL.putAll, putD, valD, dUpC, inV, wDGet, wDIn, dDPut, dGet2, dPopAt, dJoin, wInL, dIsX, List.getElem?_cons_zero, List.getElem?_cons_succ, List.getElem?_nil, Option.some.injEq, D.int.injEq, D.str.injEq, D.bl.injEq, D.ptr.injEq, D.lst.injEq, D.tup.injEq, D.scr.injEq, D.xc.injEq, D.kr.injEq, D.ty.injEq, MO.lst.injEq, MO.ins.injEq, MO.dK.injEq, V.int.injEq, V.str.injEq, V.bl.injEq, List.cons.injEq, List.set_cons_zero, List.set_cons_succ, and_true, true_and, or_false, false_or, or_true, true_or, and_false, false_and, exists_false, exists_eq_left, exists_eq_left', exists_eq_right, exists_eq_right', exists_eq, exists_eq', exists_and_left, exists_and_right, exists_const, reduceCtorEq, decide_eq_true_eq, if_true, if_false, List.length_cons, List.length_nil, List.append_nil, List.nil_append, List.cons_append, v_scalI, v_scalS, v_scalB, v_scalN, v_decI, v_decS, v_decB, v_lsL, v_lsP, v_lsI, v_lsS, v_lsB, v_lsT, v_lsN, v_sqT, v_sqL, v_sqP, v_sqI, v_sqS, v_sqB, v_sqN, v_vI, v_vS, v_vB, v_vN, v_vT, v_vL, v_vP, v_sign, v_map, v_at0, v_at1, v_at2, v_at3, v_at4, v_at5, v_ofs, v_eqS, v_eqI, v_dkP, v_bdS, v_bdI, v_bdB, v_bdN, v_bdT, v_bdL, v_bdP, v_bdsN, v_bdsC, v_lastD, v_lastS, v_kyS, v_kyI, v_tt, v_ff, String.reduceEq, List.foldl_cons, List.foldl_nil, List.any_cons, List.any_nil, List.find?_cons, List.find?_nil, Sum.inr.injEq, Sum.inl.injEq, decide_true, decide_false, Bool.or_false, Bool.or_true, Bool.true_or, Bool.false_or, List.append_cancel_left_eq, Bool.false_eq_true, List.map_cons, List.map_nil, List.mapM_cons, List.mapM_nil, Option.pure_def, Option.bind_eq_bind, Option.bind_some, Option.bind_none, Nat.lt_irrefl, Option.map_some, Option.map_none, and_assoc, Nat.zero_add, Nat.reduceAdd, Nat.reduceLeDiff, Nat.le_refl, sizeLine_eq, and_self, forall_const, Bool.not_eq_true', Bool.not_true, Bool.not_false, decide_eq_false_iff_not, ite_not]
      refine r_dr1 d1.1 (by omega) (by omega) fun u M2 u0 u1 d2 => ?_
      have d2 := d1.trans d2
      unfold w_form_12
      simp only [dSeq, dIf, dAsg, dgName, dVar, dC, dOp, dNil, dCons, dTup, dTest, dAnd, dOr, dNot, dIfE, dAndV, dOrV, dNotV, dNext, dRet, dRetN, dDrop, dCall, dCallS, wLen, wI, wAdd, wAddI, wAddS, wAddL, wSub, wMod, wDiv, wPow, wLt, wLe, wGt, wGe, wMulB, wMulS, wEqF, wNeF, wIsN, wNotN, wInS, wNotInS, wIx, dNeg, dAug, dAppend, dLst, dLstM, dLstB, dSl, dPart, dNo, wCut, dBreak, dCont, dRaise, dMeth, dFld, wFld, dSetF, dAugF, dgTupF, dgTup, dgCons, dgNil, dgSet, dThen, dSo, dSoE, wIntC, dChain, dMake, wListC, wListM, dDisp, dPsCons, dPsNil, keysOf, DL.putAll, putD, valD, dUpC, inV, wDGet, wDIn, dDPut, dGet2, dPopAt, dJoin, wInL, dIsX, List.getElem?_cons_zero, List.getElem?_cons_succ, List.getElem?_nil, Option.some.injEq, D.int.injEq, D.str.injEq, D.bl.injEq, D.ptr.injEq, D.lst.injEq, D.tup.injEq, D.scr.injEq, D.xc.injEq, D.kr.injEq, D.ty.injEq, MO.lst.injEq, MO.ins.injEq, MO.dK.injEq, V.int.injEq, V.str.injEq, V.bl.injEq, List.cons.injEq, List.set_cons_zero, List.set_cons_succ, and_true, true_and, or_false, false_or, or_true, true_or, and_false, false_and, exists_false, exists_eq_left, exists_eq_left', exists_eq_right, exists_eq_right', exists_eq, exists_eq', exists_and_left, exists_and_right, exists_const, reduceCtorEq, decide_eq_true_eq, if_true, if_false, List.length_cons, List.length_nil, List.append_nil, List.nil_append, List.cons_append, v_scalI, v_scalS, v_scalB, v_scalN, v_decI, v_decS, v_decB, v_lsL, v_lsP, v_lsI, v_lsS, v_lsB, v_lsT, v_lsN, v_sqT, v_sqL, v_sqP, v_sqI, v_sqS, v_sqB, v_sqN, v_vI, v_vS, v_vB, v_vN, v_vT, v_vL, v_vP, v_sign, v_map, v_at0, v_at1, v_at2, v_at3, v_at4, v_at5, v_ofs, v_eqS, v_eqI, v_dkP, v_bdS, v_bdI, v_bdB, v_bdN, v_bdT, v_bdL, v_bdP, v_bdsN, v_bdsC, v_lastD, v_lastS, v_kyS, v_kyI, v_tt, v_ff, String.reduceEq, List.foldl_cons, List.foldl_nil, List.any_cons, List.any_nil, List.find?_cons, List.find?_nil, Sum.inr.injEq, Sum.inl.injEq, decide_true, decide_false, Bool.or_false, Bool.or_true, Bool.true_or, Bool.false_or, List.append_cancel_left_eq, Bool.false_eq_true, List.map_cons, List.map_nil, List.mapM_cons, List.mapM_nil, Option.pure_def, Option.bind_eq_bind, Option.bind_some, Option.bind_none, Nat.lt_irrefl, Option.map_some, Option.map_none, and_assoc, Nat.zero_add, Nat.reduceAdd, Nat.reduceLeDiff, Nat.le_refl, sizeLine_eq, and_self, forall_const, Bool.not_eq_true', Bool.not_true, Bool.not_false, decide_eq_false_iff_not, ite_not]
      have go : ∀ (x : Str) (mk : Fm → Fm → Fm), (∀ f g, (mk f g).d = .tup [.str x, f.d, g.d]) → (∀ f g, (mk f g).size = f.size + g.size) → (∀ f g, FmOk L N (mk f g) = (FmOk L N f ∧ FmOk L N g)) → w_form_13 K w ad (F_form n) (DsF M Qd Xd) [some (D.ptr d), some (D.str L), some (D.int s), some (D.lst (List.map D.str N)), some (D.int v), some (D.int (1 + u)), some (.str x)] M2 := fun x mk e1 e2 e3 => by
        unfold w_form_13
        simp only [dSeq, dIf, dAsg, dgName, dVar, dC, dOp, dNil, dCons, dTup, dTest, dAnd, dOr, dNot, dIfE, dAndV, dOrV, dNotV, dNext, dRet, dRetN, dDrop, dCall, dCallS, wLen, wI, wAdd, wAddI, wAddS, wAddL, wSub, wMod, wDiv, wPow, wLt, wLe, wGt, wGe, wMulB, wMulS, wEqF, wNeF, wIsN, wNotN, wInS, wNotInS, wIx, dNeg, dAug, dAppend, dLst, dLstM, dLstB, dSl, dPart, dNo, wCut, dBreak, dCont, dRaise, dMeth, dFld, wFld, dSetF, dAugF, dgTupF, dgTup, dgCons, dgNil, dgSet, dThen, dSo, dSoE, wIntC, dChain, dMake, wListC, wListM, dDisp, dPsCons, dPsNil, keysOf, DL.putAll, putD, valD, dUpC, inV, wDGet, wDIn, dDPut, dGet2, dPopAt, dJoin, wInL, dIsX, List.getElem?_cons_zero, List.getElem?_cons_succ, List.getElem?_nil, Option.some.injEq, D.int.injEq, D.str.injEq, D.bl.injEq, D.ptr.injEq, D.lst.injEq, D.tup.injEq, D.scr.injEq, D.xc.injEq, D.kr.injEq, D.ty.injEq, MO.lst.injEq, MO.ins.injEq, MO.dK.injEq, V.int.injEq, V.str.injEq, V.bl.injEq, List.cons.injEq, List.set_cons_zero, List.set_cons_succ, and_true, true_and, or_false, false_or, or_true, true_or, and_false, false_and, exists_false, exists_eq_left, exists_eq_left', exists_eq_right, exists_eq_right', exists_eq, exists_eq', exists_and_left, exists_and_right, exists_const, reduceCtorEq, decide_eq_true_eq, if_true, if_false, List.length_cons, List.length_nil, List.append_nil, List.nil_append, List.cons_append, v_scalI, v_scalS, v_scalB, v_scalN, v_decI, v_decS, v_decB, v_lsL, v_lsP, v_lsI, v_lsS, v_lsB, v_lsT, v_lsN, v_sqT, v_sqL, v_sqP, v_sqI, v_sqS, v_sqB, v_sqN, v_vI, v_vS, v_vB, v_vN, v_vT, v_vL, v_vP, v_sign, v_map, v_at0, v_at1, v_at2, v_at3, v_at4, v_at5, v_ofs, v_eqS, v_eqI, v_dkP, v_bdS, v_bdI, v_bdB, v_bdN, v_bdT, v_bdL, v_bdP, v_bdsN, v_bdsC, v_lastD, v_lastS, v_kyS, v_kyI, v_tt, v_ff, String.reduceEq, List.foldl_cons, List.foldl_nil, List.any_cons, List.any_nil, List.find?_cons, List.find?_nil, Sum.inr.injEq, Sum.inl.injEq, decide_true, decide_false, Bool.or_false, Bool.or_true, Bool.true_or, Bool.false_or, List.append_cancel_left_eq, Bool.false_eq_true, List.map_cons, List.map_nil, List.mapM_cons, List.mapM_nil, Option.pure_def, Option.bind_eq_bind, Option.bind_some, Option.bind_none, Nat.lt_irrefl, Option.map_some, Option.map_none, and_assoc, Nat.zero_add, Nat.reduceAdd, Nat.reduceLeDiff, Nat.le_refl, sizeLine_eq, and_self, forall_const, Bool.not_eq_true', Bool.not_true, Bool.not_false, decide_eq_false_iff_not, ite_not, F_form]
        refine ⟨N, rfl, d2.1, l0, l1, hN, by omega, by omega, by omega, fun f M3 ok3 sz3 d3 => ?_⟩
        refine ⟨N, rfl, d3.1, l0, l1, hN, by omega, by omega, by omega, fun g M4 ok4 sz4 d4 => ?_⟩
        rw [← e1]
        exact q _ M4 (by rw [e3]; exact ⟨ok3, ok4⟩) (by rw [e2]; omega) ((d2.trans d3).trans d4)
      rcases (show v = 2 ∨ v = 3 ∨ v = 4 ∨ v = 5 ∨ v = 6 ∨ v = 7 by omega) with rfl | rfl | rfl | rfl | rfl | rfl
      · simp only [dSeq, dIf, dAsg, dgName, dVar, dC, dOp, dNil, dCons, dTup, dTest, dAnd, dOr, dNot, dIfE, dAndV, dOrV, dNotV, dNext, dRet, dRetN, dDrop, dCall, dCallS, wLen, wI, wAdd, wAddI, wAddS, wAddL, wSub, wMod, wDiv, wPow, wLt, wLe, wGt, wGe, wMulB, wMulS, wEqF, wNeF, wIsN, wNotN, wInS, wNotInS, wIx, dNeg, dAug, dAppend, dLst, dLstM, dLstB, dSl, dPart, dNo, wCut, dBreak, dCont, dRaise, dMeth, dFld, wFld, dSetF, dAugF, dgTupF, dgTup, dgCons, dgNil, dgSet, dThen, dSo, dSoE, wIntC, dChain, dMake, wListC, wListM, dDisp, dPsCons, dPsNil, keysOf, DL.putAll, putD, valD, dUpC, inV, wDGet, wDIn, dDPut, dGet2, dPopAt, dJoin, wInL, dIsX, List.getElem?_cons_zero, List.getElem?_cons_succ, List.getElem?_nil, Option.some.injEq, D.int.injEq, D.str.injEq, D.bl.injEq, D.ptr.injEq, D.lst.injEq, D.tup.injEq, D.scr.injEq, D.xc.injEq, D.kr.injEq, D.ty.injEq, MO.lst.injEq, MO.ins.injEq, MO.dK.injEq, V.int.injEq, V.str.injEq, V.bl.injEq, List.cons.injEq, List.set_cons_zero, List.set_cons_succ, and_true, true_and, or_false, false_or, or_true, true_or, and_false, false_and, exists_false, exists_eq_left, exists_eq_left', exists_eq_right, exists_eq_right', exists_eq, exists_eq', exists_and_left, exists_and_right, exists_const, reduceCtorEq, decide_eq_true_eq, if_true, if_false, List.length_cons, List.length_nil, List.append_nil, List.nil_append, List.cons_append, v_scalI, v_scalS, v_scalB, v_scalN, v_decI, v_decS, v_decB, v_lsL, v_lsP, v_lsI, v_lsS, v_lsB, v_lsT, v_lsN, v_sqT, v_sqL, v_sqP, v_sqI, v_sqS, v_sqB, v_sqN, v_vI, v_vS, v_vB, v_vN, v_vT, v_vL, v_vP, v_sign, v_map, v_at0, v_at1, v_at2, v_at3, v_at4, v_at5, v_ofs, v_eqS, v_eqI, v_dkP, v_bdS, v_bdI, v_bdB, v_bdN, v_bdT, v_bdL, v_bdP, v_bdsN, v_bdsC, v_lastD, v_lastS, v_kyS, v_kyI, v_tt, v_ff, String.reduceEq, List.foldl_cons, List.foldl_nil, List.any_cons, List.any_nil, List.find?_cons, List.find?_nil, Sum.inr.injEq, Sum.inl.injEq, decide_true, decide_false, Bool.or_false, Bool.or_true, Bool.true_or, Bool.false_or, List.append_cancel_left_eq, Bool.false_eq_true, List.map_cons, List.map_nil, List.mapM_cons, List.mapM_nil, Option.pure_def, Option.bind_eq_bind, Option.bind_some, Option.bind_none, Nat.lt_irrefl, Option.map_some, Option.map_none, and_assoc, Nat.zero_add, Nat.reduceAdd, Nat.reduceLeDiff, Nat.le_refl, sizeLine_eq, and_self, forall_const, Bool.not_eq_true', Bool.not_true, Bool.not_false, decide_eq_false_iff_not, ite_not, Int.reduceSub]
        exact go _ .or (fun _ _ => rfl) (fun _ _ => rfl) (fun _ _ => rfl)
      · simp only [dSeq, dIf, dAsg, dgName, dVar, dC, dOp, dNil, dCons, dTup, dTest, dAnd, dOr, dNot, dIfE, dAndV, dOrV, dNotV, dNext, dRet, dRetN, dDrop, dCall, dCallS, wLen, wI, wAdd, wAddI, wAddS, wAddL, wSub, wMod, wDiv, wPow, wLt, wLe, wGt, wGe, wMulB, wMulS, wEqF, wNeF, wIsN, wNotN, wInS, wNotInS, wIx, dNeg, dAug, dAppend, dLst, dLstM, dLstB, dSl, dPart, dNo, wCut, dBreak, dCont, dRaise, dMeth, dFld, wFld, dSetF, dAugF, dgTupF, dgTup, dgCons, dgNil, dgSet, dThen, dSo, dSoE, wIntC, dChain, dMake, wListC, wListM, dDisp, dPsCons, dPsNil, keysOf, DL.putAll, putD, valD, dUpC, inV, wDGet, wDIn, dDPut, dGet2, dPopAt, dJoin, wInL, dIsX, List.getElem?_cons_zero, List.getElem?_cons_succ, List.getElem?_nil, Option.some.injEq, D.int.injEq, D.str.injEq, D.bl.injEq, D.ptr.injEq, D.lst.injEq, D.tup.injEq, D.scr.injEq, D.xc.injEq, D.kr.injEq, D.ty.injEq, MO.lst.injEq, MO.ins.injEq, MO.dK.injEq, V.int.injEq, V.str.injEq, V.bl.injEq, List.cons.injEq, List.set_cons_zero, List.set_cons_succ, and_true, true_and, or_false, false_or, or_true, true_or, and_false, false_and, exists_false, exists_eq_left, exists_eq_left', exists_eq_right, exists_eq_right', exists_eq, exists_eq', exists_and_left, exists_and_right, exists_const, reduceCtorEq, decide_eq_true_eq, if_true, if_false, List.length_cons, List.length_nil, List.append_nil, List.nil_append, List.cons_append, v_scalI, v_scalS, v_scalB, v_scalN, v_decI, v_decS, v_decB, v_lsL, v_lsP, v_lsI, v_lsS, v_lsB, v_lsT, v_lsN, v_sqT, v_sqL, v_sqP, v_sqI, v_sqS, v_sqB, v_sqN, v_vI, v_vS, v_vB, v_vN, v_vT, v_vL, v_vP, v_sign, v_map, v_at0, v_at1, v_at2, v_at3, v_at4, v_at5, v_ofs, v_eqS, v_eqI, v_dkP, v_bdS, v_bdI, v_bdB, v_bdN, v_bdT, v_bdL, v_bdP, v_bdsN, v_bdsC, v_lastD, v_lastS, v_kyS, v_kyI, v_tt, v_ff, String.reduceEq, List.foldl_cons, List.foldl_nil, List.any_cons, List.any_nil, List.find?_cons, List.find?_nil, Sum.inr.injEq, Sum.inl.injEq, decide_true, decide_false, Bool.or_false, Bool.or_true, Bool.true_or, Bool.false_or, List.append_cancel_left_eq, Bool.false_eq_true, List.map_cons, List.map_nil, List.mapM_cons, List.mapM_nil, Option.pure_def, Option.bind_eq_bind, Option.bind_some, Option.bind_none, Nat.lt_irrefl, Option.map_some, Option.map_none, and_assoc, Nat.zero_add, Nat.reduceAdd, Nat.reduceLeDiff, Nat.le_refl, sizeLine_eq, and_self, forall_const, Bool.not_eq_true', Bool.not_true, Bool.not_false, decide_eq_false_iff_not, ite_not, Int.reduceSub]
        exact go _ .and (fun _ _ => rfl) (fun _ _ => rfl) (fun _ _ => rfl)
      · simp only [dSeq, dIf, dAsg, dgName, dVar, dC, dOp, dNil, dCons, dTup, dTest, dAnd, dOr, dNot, dIfE, dAndV, dOrV, dNotV, dNext, dRet, dRetN, dDrop, dCall, dCallS, wLen, wI, wAdd, wAddI, wAddS, wAddL, wSub, wMod, wDiv, wPow, wLt, wLe, wGt, wGe, wMulB, wMulS, wEqF, wNeF, wIsN, wNotN, wInS, wNotInS, wIx, dNeg, dAug, dAppend, dLst, dLstM, dLstB, dSl, dPart, dNo, wCut, dBreak, dCont, dRaise, dMeth, dFld, wFld, dSetF, dAugF, dgTupF, dgTup, dgCons, dgNil, dgSet, dThen, dSo, dSoE, wIntC, dChain, dMake, wListC, wListM, dDisp, dPsCons, dPsNil, keysOf, DL.putAll, putD, valD, dUpC, inV, wDGet, wDIn, dDPut, dGet2, dPopAt, dJoin, wInL, dIsX, List.getElem?_cons_zero, List.getElem?_cons_succ, List.getElem?_nil, Option.some.injEq, D.int.injEq, D.str.injEq, D.bl.injEq, D.ptr.injEq, D.lst.injEq, D.tup.injEq, D.scr.injEq, D.xc.injEq, D.kr.injEq, D.ty.injEq, MO.lst.injEq, MO.ins.injEq, MO.dK.injEq, V.int.injEq, V.str.injEq, V.bl.injEq, List.cons.injEq, List.set_cons_zero, List.set_cons_succ, and_true, true_and, or_false, false_or, or_true, true_or, and_false, false_and, exists_false, exists_eq_left, exists_eq_left', exists_eq_right, exists_eq_right', exists_eq, exists_eq', exists_and_left, exists_and_right, exists_const, reduceCtorEq, decide_eq_true_eq, if_true, if_false, List.length_cons, List.length_nil, List.append_nil, List.nil_append, List.cons_append, v_scalI, v_scalS, v_scalB, v_scalN, v_decI, v_decS, v_decB, v_lsL, v_lsP, v_lsI, v_lsS, v_lsB, v_lsT, v_lsN, v_sqT, v_sqL, v_sqP, v_sqI, v_sqS, v_sqB, v_sqN, v_vI, v_vS, v_vB, v_vN, v_vT, v_vL, v_vP, v_sign, v_map, v_at0, v_at1, v_at2, v_at3, v_at4, v_at5, v_ofs, v_eqS, v_eqI, v_dkP, v_bdS, v_bdI, v_bdB, v_bdN, v_bdT, v_bdL, v_bdP, v_bdsN, v_bdsC, v_lastD, v_lastS, v_kyS, v_kyI, v_tt, v_ff, String.reduceEq, List.foldl_cons, List.foldl_nil, List.any_cons, List.any_nil, List.find?_cons, List.find?_nil, Sum.inr.injEq, Sum.inl.injEq, decide_true, decide_false, Bool.or_false, Bool.or_true, Bool.true_or, Bool.false_or, List.append_cancel_left_eq, Bool.false_eq_true, List.map_cons, List.map_nil, List.mapM_cons, List.mapM_nil, Option.pure_def, Option.bind_eq_bind, Option.bind_some, Option.bind_none, Nat.lt_irrefl, Option.map_some, Option.map_none, and_assoc, Nat.zero_add, Nat.reduceAdd, Nat.reduceLeDiff, Nat.le_refl, sizeLine_eq, and_self, forall_const, Bool.not_eq_true', Bool.not_true, Bool.not_false, decide_eq_false_iff_not, ite_not, Int.reduceSub]
        exact go _ .row (fun _ _ => rfl) (fun _ _ => rfl) (fun _ _ => rfl)
      · simp only [dSeq, dIf, dAsg, dgName, dVar, dC, dOp, dNil, dCons, dTup, dTest, dAnd, dOr, dNot, dIfE, dAndV, dOrV, dNotV, dNext, dRet, dRetN, dDrop, dCall, dCallS, wLen, wI, wAdd, wAddI, wAddS, wAddL, wSub, wMod, wDiv, wPow, wLt, wLe, wGt, wGe, wMulB, wMulS, wEqF, wNeF, wIsN, wNotN, wInS, wNotInS, wIx, dNeg, dAug, dAppend, dLst, dLstM, dLstB, dSl, dPart, dNo, wCut, dBreak, dCont, dRaise, dMeth, dFld, wFld, dSetF, dAugF, dgTupF, dgTup, dgCons, dgNil, dgSet, dThen, dSo, dSoE, wIntC, dChain, dMake, wListC, wListM, dDisp, dPsCons, dPsNil, keysOf, DL.putAll, putD, valD, dUpC, inV, wDGet, wDIn, dDPut, dGet2, dPopAt, dJoin, wInL, dIsX, List.getElem?_cons_zero, List.getElem?_cons_succ, List.getElem?_nil, Option.some.injEq, D.int.injEq, D.str.injEq, D.bl.injEq, D.ptr.injEq, D.lst.injEq, D.tup.injEq, D.scr.injEq, D.xc.injEq, D.kr.injEq, D.ty.injEq, MO.lst.injEq, MO.ins.injEq, MO.dK.injEq, V.int.injEq, V.str.injEq, V.bl.injEq, List.cons.injEq, List.set_cons_zero, List.set_cons_succ, and_true, true_and, or_false, false_or, or_true, true_or, and_false, false_and, exists_false, exists_eq_left, exists_eq_left', exists_eq_right, exists_eq_right', exists_eq, exists_eq', exists_and_left, exists_and_right, exists_const, reduceCtorEq, decide_eq_true_eq, if_true, if_false, List.length_cons, List.length_nil, List.append_nil, List.nil_append, List.cons_append, v_scalI, v_scalS, v_scalB, v_scalN, v_decI, v_decS, v_decB, v_lsL, v_lsP, v_lsI, v_lsS, v_lsB, v_lsT, v_lsN, v_sqT, v_sqL, v_sqP, v_sqI, v_sqS, v_sqB, v_sqN, v_vI, v_vS, v_vB, v_vN, v_vT, v_vL, v_vP, v_sign, v_map, v_at0, v_at1, v_at2, v_at3, v_at4, v_at5, v_ofs, v_eqS, v_eqI, v_dkP, v_bdS, v_bdI, v_bdB, v_bdN, v_bdT, v_bdL, v_bdP, v_bdsN, v_bdsC, v_lastD, v_lastS, v_kyS, v_kyI, v_tt, v_ff, String.reduceEq, List.foldl_cons, List.foldl_nil, List.any_cons, List.any_nil, List.find?_cons, List.find?_nil, Sum.inr.injEq, Sum.inl.injEq, decide_true, decide_false, Bool.or_false, Bool.or_true, Bool.true_or, Bool.false_or, List.append_cancel_left_eq, Bool.false_eq_true, List.map_cons, List.map_nil, List.mapM_cons, List.mapM_nil, Option.pure_def, Option.bind_eq_bind, Option.bind_some, Option.bind_none, Nat.lt_irrefl, Option.map_some, Option.map_none, and_assoc, Nat.zero_add, Nat.reduceAdd, Nat.reduceLeDiff, Nat.le_refl, sizeLine_eq, and_self, forall_const, Bool.not_eq_true', Bool.not_true, Bool.not_false, decide_eq_false_iff_not, ite_not, Int.reduceSub]
        exact go _ .row (fun _ _ => rfl) (fun _ _ => rfl) (fun _ _ => rfl)
      · simp only [dSeq, dIf, dAsg, dgName, dVar, dC, dOp, dNil, dCons, dTup, dTest, dAnd, dOr, dNot, dIfE, dAndV, dOrV, dNotV, dNext, dRet, dRetN, dDrop, dCall, dCallS, wLen, wI, wAdd, wAddI, wAddS, wAddL, wSub, wMod, wDiv, wPow, wLt, wLe, wGt, wGe, wMulB, wMulS, wEqF, wNeF, wIsN, wNotN, wInS, wNotInS, wIx, dNeg, dAug, dAppend, dLst, dLstM, dLstB, dSl, dPart, dNo, wCut, dBreak, dCont, dRaise, dMeth, dFld, wFld, dSetF, dAugF, dgTupF, dgTup, dgCons, dgNil, dgSet, dThen, dSo, dSoE, wIntC, dChain, dMake, wListC, wListM, dDisp, dPsCons, dPsNil, keysOf, DL.putAll, putD, valD, dUpC, inV, wDGet, wDIn, dDPut, dGet2, dPopAt, dJoin, wInL, dIsX, List.getElem?_cons_zero, List.getElem?_cons_succ, List.getElem?_nil, Option.some.injEq, D.int.injEq, D.str.injEq, D.bl.injEq, D.ptr.injEq, D.lst.injEq, D.tup.injEq, D.scr.injEq, D.xc.injEq, D.kr.injEq, D.ty.injEq, MO.lst.injEq, MO.ins.injEq, MO.dK.injEq, V.int.injEq, V.str.injEq, V.bl.injEq, List.cons.injEq, List.set_cons_zero, List.set_cons_succ, and_true, true_and, or_false, false_or, or_true, true_or, and_false, false_and, exists_false, exists_eq_left, exists_eq_left', exists_eq_right, exists_eq_right', exists_eq, exists_eq', exists_and_left, exists_and_right, exists_const, reduceCtorEq, decide_eq_true_eq, if_true, if_false, List.length_cons, List.length_nil, List.append_nil, List.nil_append, List.cons_append, v_scalI, v_scalS, v_scalB, v_scalN, v_decI, v_decS, v_decB, v_lsL, v_lsP, v_lsI, v_lsS, v_lsB, v_lsT, v_lsN, v_sqT, v_sqL, v_sqP, v_sqI, v_sqS, v_sqB, v_sqN, v_vI, v_vS, v_vB, v_vN, v_vT, v_vL, v_vP, v_sign, v_map, v_at0, v_at1, v_at2, v_at3, v_at4, v_at5, v_ofs, v_eqS, v_eqI, v_dkP, v_bdS, v_bdI, v_bdB, v_bdN, v_bdT, v_bdL, v_bdP, v_bdsN, v_bdsC, v_lastD, v_lastS, v_kyS, v_kyI, v_tt, v_ff, String.reduceEq, List.foldl_cons, List.foldl_nil, List.any_cons, List.any_nil, List.find?_cons, List.find?_nil, Sum.inr.injEq, Sum.inl.injEq, decide_true, decide_false, Bool.or_false, Bool.or_true, Bool.true_or, Bool.false_or, List.append_cancel_left_eq, Bool.false_eq_true, List.map_cons, List.map_nil, List.mapM_cons, List.mapM_nil, Option.pure_def, Option.bind_eq_bind, Option.bind_some, Option.bind_none, Nat.lt_irrefl, Option.map_some, Option.map_none, and_assoc, Nat.zero_add, Nat.reduceAdd, Nat.reduceLeDiff, Nat.le_refl, sizeLine_eq, and_self, forall_const, Bool.not_eq_true', Bool.not_true, Bool.not_false, decide_eq_false_iff_not, ite_not, Int.reduceSub]
        exact go _ .or (fun _ _ => rfl) (fun _ _ => rfl) (fun _ _ => rfl)
      · simp only [dSeq, dIf, dAsg, dgName, dVar, dC, dOp, dNil, dCons, dTup, dTest, dAnd, dOr, dNot, dIfE, dAndV, dOrV, dNotV, dNext, dRet, dRetN, dDrop, dCall, dCallS, wLen, wI, wAdd, wAddI, wAddS, wAddL, wSub, wMod, wDiv, wPow, wLt, wLe, wGt, wGe, wMulB, wMulS, wEqF, wNeF, wIsN, wNotN, wInS, wNotInS, wIx, dNeg, dAug, dAppend, dLst, dLstM, dLstB, dSl, dPart, dNo, wCut, dBreak, dCont, dRaise, dMeth, dFld, wFld, dSetF, dAugF, dgTupF, dgTup, dgCons, dgNil, dgSet, dThen, dSo, dSoE, wIntC, dChain, dMake, wListC, wListM, dDisp, dPsCons, dPsNil, keysOf, DL.putAll, putD, valD, dUpC, inV, wDGet, wDIn, dDPut, dGet2, dPopAt, dJoin, wInL, dIsX, List.getElem?_cons_zero, List.getElem?_cons_succ, List.getElem?_nil, Option.some.injEq, D.int.injEq, D.str.injEq, D.bl.injEq, D.ptr.injEq, D.lst.injEq, D.tup.injEq, D.scr.injEq, D.xc.injEq, D.kr.injEq, D.ty.injEq, MO.lst.injEq, MO.ins.injEq, MO.dK.injEq, V.int.injEq, V.str.injEq, V.bl.injEq, List.cons.injEq, List.set_cons_zero, List.set_cons_succ, and_true, true_and, or_false, false_or, or_true, true_or, and_false, false_and, exists_false, exists_eq_left, exists_eq_left', exists_eq_right, exists_eq_right', exists_eq, exists_eq', exists_and_left, exists_and_right, exists_const, reduceCtorEq, decide_eq_true_eq, if_true, if_false, List.length_cons, List.length_nil, List.append_nil, List.nil_append, List.cons_append, v_scalI, v_scalS, v_scalB, v_scalN, v_decI, v_decS, v_decB, v_lsL, v_lsP, v_lsI, v_lsS, v_lsB, v_lsT, v_lsN, v_sqT, v_sqL, v_sqP, v_sqI, v_sqS, v_sqB, v_sqN, v_vI, v_vS, v_vB, v_vN, v_vT, v_vL, v_vP, v_sign, v_map, v_at0, v_at1, v_at2, v_at3, v_at4, v_at5, v_ofs, v_eqS, v_eqI, v_dkP, v_bdS, v_bdI, v_bdB, v_bdN, v_bdT, v_bdL, v_bdP, v_bdsN, v_bdsC, v_lastD, v_lastS, v_kyS, v_kyI, v_tt, v_ff, String.reduceEq, List.foldl_cons, List.foldl_nil, List.any_cons, List.any_nil, List.find?_cons, List.find?_nil, Sum.inr.injEq, Sum.inl.injEq, decide_true, decide_false, Bool.or_false, Bool.or_true, Bool.true_or, Bool.false_or, List.append_cancel_left_eq, Bool.false_eq_true, List.map_cons, List.map_nil, List.mapM_cons, List.mapM_nil, Option.pure_def, Option.bind_eq_bind, Option.bind_some, Option.bind_none, Nat.lt_irrefl, Option.map_some, Option.map_none, and_assoc, Nat.zero_add, Nat.reduceAdd, Nat.reduceLeDiff, Nat.le_refl, sizeLine_eq, and_self, forall_const, Bool.not_eq_true', Bool.not_true, Bool.not_false, decide_eq_false_iff_not, ite_not, Int.reduceSub, v_at5]
        exact go _ .row (fun _ _ => rfl) (fun _ _ => rfl) (fun _ _ => rfl)
theorem fo_form (T : Txt P w K mg ad) : ∀ n : Nat, FnOk P w K mg base (L2.CX P w) (n + 2) ad.f_form ad.fd_form p_form (spD K 4 (F_form n))
  | 0 => fn_never fun ds M Q X h => by
    obtain ⟨_, _, _, _, _, _, _, _, _, _, _, _⟩ := h
    omega
  | n + 1 => fo_form' T (fo_form T n)

end
end K87

namespace K87
open PySem PySem.Spec PyProof.Rows L2 DL
section
variable {P : Program} {w : World} {K : PySem.W.Frag} {mg : Str → Option Value} {base : Heap} {ad : Ad}
/-! ### the law's own tokens -/
def brk (b : Bool) (ts : List Str) : List Str := if b = true then [("(" : Str)] ++ ts ++ [(")" : Str)] else ts
def ltoks : Fm → Nat → List Str
  | .none, _ => ["0"] | .empty, _ => ["1"] | .any, _ => ["."]
  | .letter c, _ => [ch c]
  | .name n, _ => ["@", n]
  | .not f, l => brk (decide (4 < l)) ([("!" : Str)] ++ ltoks f 4)
  | .star f, l => brk (decide (5 < l)) (ltoks f 5 ++ [("*" : Str)])
  | .or f g, l => brk (decide (1 < l)) (ltoks f 1 ++ [("|" : Str)] ++ ltoks g 2)
  | .and f g, l => brk (decide (2 < l)) (ltoks f 2 ++ [("&" : Str)] ++ ltoks g 3)
  | .row f g, l => brk (decide (3 < l)) (ltoks f 3 ++ [] ++ ltoks g 4)
theorem brk_len (b : Bool) (ts : List Str) : (brk b ts).length ≤ ts.length + 2 := by
  unfold brk
  split <;> simp
theorem ltoks_len : ∀ (f : Fm) (l : Nat), (ltoks f l).length + 3 ≤ 5 * f.size
  | .none, _ => by show 1 + 3 ≤ 5 * 1; omega
  | .empty, _ => by show 1 + 3 ≤ 5 * 1; omega
  | .any, _ => by show 1 + 3 ≤ 5 * 1; omega
  | .letter c, _ => by show 1 + 3 ≤ 5 * 1; omega
  | .name n, _ => by show 2 + 3 ≤ 5 * 1; omega
  | .not f, l => by
    have h := ltoks_len f 4
    have b := brk_len (decide (4 < l)) ([("!" : Str)] ++ ltoks f 4)
    simp only [List.length_append, List.length_cons, List.length_nil] at b
    show (brk _ _).length + 3 ≤ 5 * (f.size + 1)
    omega
  | .star f, l => by
    have h := ltoks_len f 5
    have b := brk_len (decide (5 < l)) (ltoks f 5 ++ [("*" : Str)])
    simp only [List.length_append, List.length_cons, List.length_nil] at b
    show (brk _ _).length + 3 ≤ 5 * (f.size + 1)
    omega
  | .or f g, l => by
    have h := ltoks_len f 1
    have h2 := ltoks_len g 2
    have b := brk_len (decide (1 < l)) (ltoks f 1 ++ [("|" : Str)] ++ ltoks g 2)
    simp only [List.length_append, List.length_cons, List.length_nil] at b
    show (brk _ _).length + 3 ≤ 5 * (f.size + g.size)
    omega
  | .and f g, l => by
    have h := ltoks_len f 2
    have h2 := ltoks_len g 3
    have b := brk_len (decide (2 < l)) (ltoks f 2 ++ [("&" : Str)] ++ ltoks g 3)
    simp only [List.length_append, List.length_cons, List.length_nil] at b
    show (brk _ _).length + 3 ≤ 5 * (f.size + g.size)
    omega
  | .row f g, l => by
    have h := ltoks_len f 3
    have h2 := ltoks_len g 4
    have b := brk_len (decide (3 < l)) (ltoks f 3 ++ [] ++ ltoks g 4)
    simp only [List.length_append, List.length_cons, List.length_nil] at b
    show (brk _ _).length + 3 ≤ 5 * (f.size + g.size)
    omega
def F_ltoks (n : Nat) : FD := fun ds M Qd _ => ∃ (f : Fm) (l : Nat), ds = [f.d, .int l] ∧ f.size ≤ n ∧ n < 1000 ∧ Qd (.lst ((ltoks f l).map .str)) M
/-! _law_tokens -/
def w_ltoks_3 (K : PySem.W.Frag) (w : World) (ad : Ad) (Fr : FD) : SW := dRet (dLst (dCons (dOp wIx (dVar 0) (dC (.int 1))) dNil))
def w_ltoks_5 (K : PySem.W.Frag) (w : World) (ad : Ad) (Fr : FD) : SW := dRet (dLst (dCons (dC (.str "@")) (dCons (dOp wIx (dVar 0) (dC (.int 1))) dNil)))
def w_ltoks_7 (K : PySem.W.Frag) (w : World) (ad : Ad) (Fr : FD) : SW := dRet (dLst (dCons (dUpC (dOp wDGet (dDisp (dPsCons (dC (.str "none")) (dC (.str "0")) (dPsCons (dC (.str "empty")) (dC (.str "1")) (dPsCons (dC (.str "any")) (dC (.str ".")) dPsNil)))) (dVar 2))) dNil))
def w_ltoks_10 (K : PySem.W.Frag) (w : World) (ad : Ad) (Fr : FD) : SW := dAsg (dOp wAdd (dLst (dCons (dC (.str "!")) dNil)) (dCallS 2 Fr (dCons (dOp wIx (dVar 0) (dC (.int 1))) (dCons (dC (.int 4)) dNil)))) (dgName 4)
def w_ltoks_12 (K : PySem.W.Frag) (w : World) (ad : Ad) (Fr : FD) : SW := dAsg (dOp wAdd (dCallS 2 Fr (dCons (dOp wIx (dVar 0) (dC (.int 1))) (dCons (dC (.int 5)) dNil))) (dLst (dCons (dC (.str "*")) dNil))) (dgName 4)
def w_ltoks_14 (K : PySem.W.Frag) (w : World) (ad : Ad) (Fr : FD) : SW := dAsg (dOp wAdd (dOp wAdd (dCallS 2 Fr (dCons (dOp wIx (dVar 0) (dC (.int 1))) (dCons (dVar 3) dNil))) (dUpC (dOp wDGet (dDisp (dPsCons (dC (.str "or")) (dLst (dCons (dC (.str "|")) dNil)) (dPsCons (dC (.str "and")) (dLst (dCons (dC (.str "&")) dNil)) (dPsCons (dC (.str "row")) (dLst dNil) dPsNil)))) (dVar 2)))) (dCallS 2 Fr (dCons (dOp wIx (dVar 0) (dC (.int 2))) (dCons (dOp wAdd (dVar 3) (dC (.int 1))) dNil)))) (dgName 4)
def w_ltoks_11 (K : PySem.W.Frag) (w : World) (ad : Ad) (Fr : FD) : SW := dIf (dTest (dOp wEqF (dVar 2) (dC (.str "star")))) (w_ltoks_12 K w ad Fr) (w_ltoks_14 K w ad Fr)
def w_ltoks_15 (K : PySem.W.Frag) (w : World) (ad : Ad) (Fr : FD) : SW := dRet (dIfE (dTest (dOp wLt (dVar 3) (dVar 1))) (dOp wAdd (dOp wAdd (dLst (dCons (dC (.str "(")) dNil)) (dVar 4)) (dLst (dCons (dC (.str ")")) dNil))) (dVar 4))
def w_ltoks_9 (K : PySem.W.Frag) (w : World) (ad : Ad) (Fr : FD) : SW := dSeq (dIf (dTest (dOp wEqF (dVar 2) (dC (.str "not")))) (w_ltoks_10 K w ad Fr) (w_ltoks_11 K w ad Fr)) (w_ltoks_15 K w ad Fr)
def w_ltoks_8 (K : PySem.W.Frag) (w : World) (ad : Ad) (Fr : FD) : SW := dSeq (dAsg (dUpC (dOp wDGet (dDisp (dPsCons (dC (.str "or")) (dC (.int 1)) (dPsCons (dC (.str "and")) (dC (.int 2)) (dPsCons (dC (.str "row")) (dC (.int 3)) (dPsCons (dC (.str "not")) (dC (.int 4)) (dPsCons (dC (.str "star")) (dC (.int 5)) dPsNil)))))) (dVar 2))) (dgName 3)) (w_ltoks_9 K w ad Fr)
def w_ltoks_6 (K : PySem.W.Frag) (w : World) (ad : Ad) (Fr : FD) : SW := dSeq (dIf (dTest (dOp (wInL false) (dVar 2) (dTup (dCons (dC (.str "none")) (dCons (dC (.str "empty")) (dCons (dC (.str "any")) dNil)))))) (w_ltoks_7 K w ad Fr) dNext) (w_ltoks_8 K w ad Fr)
def w_ltoks_4 (K : PySem.W.Frag) (w : World) (ad : Ad) (Fr : FD) : SW := dSeq (dIf (dTest (dOp wEqF (dVar 2) (dC (.str "name")))) (w_ltoks_5 K w ad Fr) dNext) (w_ltoks_6 K w ad Fr)
def w_ltoks_2 (K : PySem.W.Frag) (w : World) (ad : Ad) (Fr : FD) : SW := dSeq (dIf (dTest (dOp wEqF (dVar 2) (dC (.str "letter")))) (w_ltoks_3 K w ad Fr) dNext) (w_ltoks_4 K w ad Fr)
def w_ltoks_1 (K : PySem.W.Frag) (w : World) (ad : Ad) (Fr : FD) : SW := dSeq (dAsg (dOp wIx (dVar 0) (dC (.int 0))) (dgName 2)) (w_ltoks_2 K w ad Fr)
def w_ltoks (K : PySem.W.Frag) (w : World) (ad : Ad) (Fr : FD) : SW := (w_ltoks_1 K w ad Fr)
theorem y_ltoks {Fr : FD} {n : Nat} (Fo : FnOk P w K mg base (L2.CX P w) (n + 2) ad.f_ltoks ad.fd_ltoks p_ltoks (spD K 2 Fr)) (T : Txt P w K mg ad) (E : XK) : DSs (XB P w K mg base n_ltoks "_law_tokens" (defScope s_ltoks) ad.f_ltoks (n + 2) E) K (WF E) (defBody s_ltoks) (w_ltoks K w ad Fr) := by
  unfold w_ltoks w_ltoks_1 w_ltoks_2 w_ltoks_4 w_ltoks_6 w_ltoks_8 w_ltoks_9 w_ltoks_15 w_ltoks_11 w_ltoks_14 w_ltoks_12 w_ltoks_10 w_ltoks_7 w_ltoks_5 w_ltoks_3
  exact (dss_cons (ds_set 2 (de_ix (fun _ => rfl) (de_var 0) de_int) (fun _ => sc_ltoks.nd)) (dss_cons (ds_if (dt_cmp do_eqF (de_var 2) de_str) (dss_one (ds_ret (de_lst (da_cons (de_ix (fun _ => rfl) (de_var 0) de_int) da_nil)))) dss_nil) (dss_cons (ds_if (dt_cmp do_eqF (de_var 2) de_str) (dss_one (ds_ret (de_lst (da_cons de_str (da_cons (de_ix (fun _ => rfl) (de_var 0) de_int) da_nil))))) dss_nil) (dss_cons (ds_if (dt_cmp (do_inL fun _ => rfl) (de_var 2) (de_tup (da_cons de_str (da_cons de_str (da_cons de_str da_nil))))) (dss_one (ds_ret (de_lst (da_cons (de_upC (de_dget (fun i => hu_of (xb_room i)) (de_disp (dps_cons de_str de_str (dps_cons de_str de_str (dps_cons de_str de_str dps_nil)))) (de_var 2))) da_nil)))) dss_nil) (dss_cons (ds_set 3 (de_upC (de_dget (fun i => hu_of (xb_room i)) (de_disp (dps_cons de_str de_int (dps_cons de_str de_int (dps_cons de_str de_int (dps_cons de_str de_int (dps_cons de_str de_int dps_nil)))))) (de_var 2))) (fun _ => sc_ltoks.nd)) (dss_cons (ds_if (dt_cmp do_eqF (de_var 2) de_str) (dss_one (ds_set 4 (de_op do_add (de_lst (da_cons de_str da_nil)) (de_callS (fun _ => Fo) (fun i => (xb_room i).mono (by omega)) (fun i => xb_takes i) (fun _ => T.g_ltoks) (fun _ => T.F_ltoks.kp) (fun _ => T.b_ltoks) (da_cons (de_ix (fun _ => rfl) (de_var 0) de_int) (da_cons de_int da_nil)))) (fun _ => sc_ltoks.nd))) (dss_one (ds_if (dt_cmp do_eqF (de_var 2) de_str) (dss_one (ds_set 4 (de_op do_add (de_callS (fun _ => Fo) (fun i => (xb_room i).mono (by omega)) (fun i => xb_takes i) (fun _ => T.g_ltoks) (fun _ => T.F_ltoks.kp) (fun _ => T.b_ltoks) (da_cons (de_ix (fun _ => rfl) (de_var 0) de_int) (da_cons de_int da_nil))) (de_lst (da_cons de_str da_nil))) (fun _ => sc_ltoks.nd))) (dss_one (ds_set 4 (de_op do_add (de_op do_add (de_callS (fun _ => Fo) (fun i => (xb_room i).mono (by omega)) (fun i => xb_takes i) (fun _ => T.g_ltoks) (fun _ => T.F_ltoks.kp) (fun _ => T.b_ltoks) (da_cons (de_ix (fun _ => rfl) (de_var 0) de_int) (da_cons (de_var 3) da_nil))) (de_upC (de_dget (fun i => hu_of (xb_room i)) (de_disp (dps_cons de_str (de_lst (da_cons de_str da_nil)) (dps_cons de_str (de_lst (da_cons de_str da_nil)) (dps_cons de_str (de_lst da_nil) dps_nil)))) (de_var 2)))) (de_callS (fun _ => Fo) (fun i => (xb_room i).mono (by omega)) (fun i => xb_takes i) (fun _ => T.g_ltoks) (fun _ => T.F_ltoks.kp) (fun _ => T.b_ltoks) (da_cons (de_ix (fun _ => rfl) (de_var 0) de_int) (da_cons (de_op do_add (de_var 3) de_int) da_nil)))) (fun _ => sc_ltoks.nd)))))) (dss_one (ds_ret (de_ifE (dt_cmp do_lt (de_var 3) (de_var 1)) (de_op do_add (de_op do_add (de_lst (da_cons de_str da_nil)) (de_var 4)) (de_lst (da_cons de_str da_nil))) (de_var 4))))))))))
theorem p_ltoks_15 {M M0 : Mm} {Fr : FD} {Qd : DK} {Xd : XD} {d : D} {s : Str} {l m : Nat} {ts : List Str} (hl : M0.length ≤ M.length) (h : ts.length < 1000000) (q : Qd (.lst ((brk (decide (m < l)) ts).map .str)) M) : w_ltoks_15 K w ad Fr (DsF M0 Qd Xd) [some d, some (.int l), some (.str s), some (.int m), some (.lst (ts.map .str))] M := by
  unfold w_ltoks_15
  simp only [dSeq, dIf, dAsg, dgName, dVar, dC, dOp, dNil, dCons, dTup, dTest, dAnd, dOr, dNot, dIfE, dAndV, dOrV, dNotV, dNext, dRet, dRetN, dDrop, dCall, dCallS, wLen, wI, wAdd, wAddI, wAddS, wAddL, wSub, wMod, wDiv, wPow, wLt, wLe, wGt, wGe, wMulB, wMulS, wEqF, wNeF, wIsN, wNotN, wInS, wNotInS, wIx, dNeg, dAug, dAppend, dLst, dLstM, dLstB, dSl, dPart, dNo, wCut, dBreak, dCont, dRaise, dMeth, dFld, wFld, dSetF, dAugF, dgTupF, dgTup, dgCons, dgNil, dgSet, dThen, dSo, dSoE, wIntC, dChain, dMake, wListC, wListM, dDisp, dPsCons, dPsNil, keysOf, DL.putAll, putD, valD, dUpC, inV, wDGet, wDIn, dDPut, dGet2, dPopAt, dJoin, wInL, dIsX, List.getElem?_cons_zero, List.getElem?_cons_succ, List.getElem?_nil, Option.some.injEq, D.int.injEq, D.str.injEq, D.bl.injEq, D.ptr.injEq, D.lst.injEq, D.tup.injEq, D.scr.injEq, D.xc.injEq, D.kr.injEq, D.ty.injEq, MO.lst.injEq, MO.ins.injEq, MO.dK.injEq, V.int.injEq, V.str.injEq, V.bl.injEq, List.cons.injEq, List.set_cons_zero, List.set_cons_succ, and_true, true_and, or_false, false_or, or_true, true_or, and_false, false_and, exists_false, exists_eq_left, exists_eq_left', exists_eq_right, exists_eq_right', exists_eq, exists_eq', exists_and_left, exists_and_right, exists_const, reduceCtorEq, decide_eq_true_eq, if_true, if_false, List.length_cons, List.length_nil, List.append_nil, List.nil_append, List.cons_append, v_scalI, v_scalS, v_scalB, v_scalN, v_decI, v_decS, v_decB, v_lsL, v_lsP, v_lsI, v_lsS, v_lsB, v_lsT, v_lsN, v_sqT, v_sqL, v_sqP, v_sqI, v_sqS, v_sqB, v_sqN, v_vI, v_vS, v_vB, v_vN, v_vT, v_vL, v_vP, v_sign, v_map, v_at0, v_at1, v_at2, v_at3, v_at4, v_at5, v_ofs, v_eqS, v_eqI, v_dkP, v_bdS, v_bdI, v_bdB, v_bdN, v_bdT, v_bdL, v_bdP, v_bdsN, v_bdsC, v_lastD, v_lastS, v_kyS, v_kyI, v_tt, v_ff, String.reduceEq, List.foldl_cons, List.foldl_nil, List.any_cons, List.any_nil, List.find?_cons, List.find?_nil, Sum.inr.injEq, Sum.inl.injEq, decide_true, decide_false, Bool.or_false, Bool.or_true, Bool.true_or, Bool.false_or, List.append_cancel_left_eq, Bool.false_eq_true, List.map_cons, List.map_nil, List.mapM_cons, List.mapM_nil, Option.pure_def, Option.bind_eq_bind, Option.bind_some, Option.bind_none, Nat.lt_irrefl, Option.map_some, Option.map_none, and_assoc, Nat.zero_add, Nat.reduceAdd, Nat.reduceLeDiff, Nat.le_refl, sizeLine_eq, and_self, forall_const, Bool.not_eq_true', Bool.not_true, Bool.not_false, decide_eq_false_iff_not, ite_not, List.length_map, List.length_append]
  have fin : ∀ us : List Str, us = brk (decide (m < l)) ts → (DsF M0 Qd Xd).rt (.lst (us.map .str)) M := fun us e w' d' => by
    subst e
    exact UpV.all hl w' d' q
  split
  · rename_i hml
    refine ⟨by omega, by omega, ?_⟩
    have := fin ([("(" : Str)] ++ ts ++ [(")" : Str)]) (by unfold brk; rw [if_pos (decide_eq_true (by omega))])
    simpa using this
  · rename_i hml
    exact fin ts (by unfold brk; rw [if_neg (by simp; omega)])
theorem fo_ltoks' {n : Nat} (T : Txt P w K mg ad) (Fo : FnOk P w K mg base (L2.CX P w) (n + 2) ad.f_ltoks ad.fd_ltoks p_ltoks (spD K 2 (F_ltoks n))) : FnOk P w K mg base (L2.CX P w) (n + 3) ad.f_ltoks ad.fd_ltoks p_ltoks (spD K 2 (F_ltoks (n + 1))) := by
  refine fn_d T.F_ltoks sc_ltoks (y_ltoks Fo T) fun ds M Qd Xd hl h hw hb => ?_
  obtain ⟨f, l, rfl, hs, hn, q⟩ := h
  have fin : ∀ us : List Str, us = ltoks f l → (DsF M Qd Xd).rt (.lst (us.map .str)) M := fun us e w' d' => by
    subst e
    exact UpV.all (Nat.le_refl _) w' d' q
  unfold w_ltoks w_ltoks_1
  simp only [startD, List.map_cons, List.map_nil, List.length_cons, List.length_nil, Nat.reduceAdd, Nat.reduceSub, List.replicate_succ, List.replicate_zero, List.cons_append, List.nil_append]
  cases f with
  | letter c =>
    simp only [dSeq, dIf, dAsg, dgName, dVar, dC, dOp, dNil, dCons, dTup, dTest, dAnd, dOr, dNot, dIfE, dAndV, dOrV, dNotV, dNext, dRet, dRetN, dDrop, dCall, dCallS, wLen, wI, wAdd, wAddI, wAddS, wAddL, wSub, wMod, wDiv, wPow, wLt, wLe, wGt, wGe, wMulB, wMulS, wEqF, wNeF, wIsN, wNotN, wInS, wNotInS, wIx, dNeg, dAug, dAppend, dLst, dLstM, dLstB, dSl, dPart, dNo, wCut, dBreak, dCont, dRaise, dMeth, dFld, wFld, dSetF, dAugF, dgTupF, dgTup, dgCons, dgNil, dgSet, dThen, dSo, dSoE, wIntC, dChain, dMake, wListC, wListM, dDisp, dPsCons, dPsNil, keysOf, DL.putAll, putD, valD, dUpC, inV, wDGet, wDIn, dDPut, dGet2, dPopAt, dJoin, wInL, dIsX, List.getElem?_cons_zero, List.getElem?_cons_succ, List.getElem?_nil, Option.some.injEq, D.int.injEq, D.str.injEq, D.bl.injEq, D.ptr.injEq, D.lst.injEq, D.tup.injEq, D.scr.injEq, D.xc.injEq, D.kr.injEq, D.ty.injEq, MO.lst.injEq, MO.ins.injEq, MO.dK.injEq, V.int.injEq, V.str.injEq, V.bl.injEq, List.cons.injEq, List.set_cons_zero, List.set_cons_succ, and_true, true_and, or_false, false_or, or_true, true_or, and_false, false_and, exists_false, exists_eq_left, exists_eq_left', exists_eq_right, exists_eq_right', exists_eq, exists_eq', exists_and_left, exists_and_right, exists_const, reduceCtorEq, decide_eq_true_eq, if_true, if_false, List.length_cons, List.length_nil, List.append_nil, List.nil_append, List.cons_append, v_scalI, v_scalS, v_scalB, v_scalN, v_decI, v_decS, v_decB, v_lsL, v_lsP, v_lsI, v_lsS, v_lsB, v_lsT, v_lsN, v_sqT, v_sqL, v_sqP, v_sqI, v_sqS, v_sqB, v_sqN, v_vI, v_vS, v_vB, v_vN, v_vT, v_vL, v_vP, v_sign, v_map, v_at0, v_at1, v_at2, v_at3, v_at4, v_at5, v_ofs, v_eqS, v_eqI, v_dkP, v_bdS, v_bdI, v_bdB, v_bdN, v_bdT, v_bdL, v_bdP, v_bdsN, v_bdsC, v_lastD, v_lastS, v_kyS, v_kyI, v_tt, v_ff, String.reduceEq, List.foldl_cons, List.foldl_nil, List.any_cons, List.any_nil, List.find?_cons, List.find?_nil, Sum.inr.injEq, Sum.inl.injEq, decide_true, decide_false, Bool.or_false, Bool.or_true, Bool.true_or, Bool.false_or, List.append_cancel_left_eq, Bool.false_eq_true, List.map_cons, List.map_nil, List.mapM_cons, List.mapM_nil, Option.pure_def, Option.bind_eq_bind, Option.bind_some, Option.bind_none, Nat.lt_irrefl, Option.map_some, Option.map_none, and_assoc, Nat.zero_add, Nat.reduceAdd, Nat.reduceLeDiff, Nat.le_refl, sizeLine_eq, and_self, forall_const, Bool.not_eq_true', Bool.not_true, Bool.not_false, decide_eq_false_iff_not, ite_not, Fm.d, w_ltoks_2, w_ltoks_3]
    exact fin [ch c] rfl
  | name c =>
    simp only [dSeq, dIf, dAsg, dgName, dVar, dC, dOp, dNil, dCons, dTup, dTest, dAnd, dOr, dNot, dIfE, dAndV, dOrV, dNotV, dNext, dRet, dRetN, dDrop, dCall, dCallS, wLen, wI, wAdd, wAddI, wAddS, wAddL, wSub, wMod, wDiv, wPow, wLt, wLe, wGt, wGe, wMulB, wMulS, wEqF, wNeF, wIsN, wNotN, wInS, wNotInS, wIx, dNeg, dAug, dAppend, dLst, dLstM, dLstB, dSl, dPart, dNo, wCut, dBreak, dCont, dRaise, dMeth, dFld, wFld, dSetF, dAugF, dgTupF, dgTup, dgCons, dgNil, dgSet, dThen, dSo, dSoE, wIntC, dChain, dMake, wListC, wListM, dDisp, dPsCons, dPsNil, keysOf, DL.putAll, putD, valD, dUpC, inV, wDGet, wDIn, dDPut, dGet2, dPopAt, dJoin, wInL, dIsX, List.getElem?_cons_zero, List.getElem?_cons_succ, List.getElem?_nil, Option.some.injEq, D.int.injEq, D.str.injEq, D.bl.injEq, D.ptr.injEq, D.lst.injEq, D.tup.injEq, D.scr.injEq, D.xc.injEq, D.kr.injEq, D.ty.injEq, MO.lst.injEq, MO.ins.injEq, MO.dK.injEq, V.int.injEq, V.str.injEq, V.bl.injEq, List.cons.injEq, List.set_cons_zero, List.set_cons_succ, and_true, true_and, or_false, false_or, or_true, true_or, and_false, false_and, exists_false, exists_eq_left, exists_eq_left', exists_eq_right, exists_eq_right', exists_eq, exists_eq', exists_and_left, exists_and_right, exists_const, reduceCtorEq, decide_eq_true_eq, if_true, if_false, List.length_cons, List.length_nil, List.append_nil, List.nil_append, List.cons_append, v_scalI, v_scalS, v_scalB, v_scalN, v_decI, v_decS, v_decB, v_lsL, v_lsP, v_lsI, v_lsS, v_lsB, v_lsT, v_lsN, v_sqT, v_sqL, v_sqP, v_sqI, v_sqS, v_sqB, v_sqN, v_vI, v_vS, v_vB, v_vN, v_vT, v_vL, v_vP, v_sign, v_map, v_at0, v_at1, v_at2, v_at3, v_at4, v_at5, v_ofs, v_eqS, v_eqI, v_dkP, v_bdS, v_bdI, v_bdB, v_bdN, v_bdT, v_bdL, v_bdP, v_bdsN, v_bdsC, v_lastD, v_lastS, v_kyS, v_kyI, v_tt, v_ff, String.reduceEq, List.foldl_cons, List.foldl_nil, List.any_cons, List.any_nil, List.find?_cons, List.find?_nil, Sum.inr.injEq, Sum.inl.injEq, decide_true, decide_false, Bool.or_false, Bool.or_true, Bool.true_or, Bool.false_or, List.append_cancel_left_eq, Bool.false_eq_true, List.map_cons, List.map_nil, List.mapM_cons, List.mapM_nil, Option.pure_def, Option.bind_eq_bind, Option.bind_some, Option.bind_none, Nat.lt_irrefl, Option.map_some, Option.map_none, and_assoc, Nat.zero_add, Nat.reduceAdd, Nat.reduceLeDiff, Nat.le_refl, sizeLine_eq, and_self, forall_const, Bool.not_eq_true', Bool.not_true, Bool.not_false, decide_eq_false_iff_not, ite_not, Fm.d, w_ltoks_2, w_ltoks_3, w_ltoks_4, w_ltoks_5]
    exact fin ["@", c] rfl
  | none =>
    simp only [dSeq, dIf, dAsg, dgName, dVar, dC, dOp, dNil, dCons, dTup, dTest, dAnd, dOr, dNot, dIfE, dAndV, dOrV, dNotV, dNext, dRet, dRetN, dDrop, dCall, dCallS, wLen, wI, wAdd, wAddI, wAddS, wAddL, wSub, wMod, wDiv, wPow, wLt, wLe, wGt, wGe, wMulB, wMulS, wEqF, wNeF, wIsN, wNotN, wInS, wNotInS, wIx, dNeg, dAug, dAppend, dLst, dLstM, dLstB, dSl, dPart, dNo, wCut, dBreak, dCont, dRaise, dMeth, dFld, wFld, dSetF, dAugF, dgTupF, dgTup, dgCons, dgNil, dgSet, dThen, dSo, dSoE, wIntC, dChain, dMake, wListC, wListM, dDisp, dPsCons, dPsNil, keysOf, DL.putAll, putD, valD, dUpC, inV, wDGet, wDIn, dDPut, dGet2, dPopAt, dJoin, wInL, dIsX, List.getElem?_cons_zero, List.getElem?_cons_succ, List.getElem?_nil, Option.some.injEq, D.int.injEq, D.str.injEq, D.bl.injEq, D.ptr.injEq, D.lst.injEq, D.tup.injEq, D.scr.injEq, D.xc.injEq, D.kr.injEq, D.ty.injEq, MO.lst.injEq, MO.ins.injEq, MO.dK.injEq, V.int.injEq, V.str.injEq, V.bl.injEq, List.cons.injEq, List.set_cons_zero, List.set_cons_succ, and_true, true_and, or_false, false_or, or_true, true_or, and_false, false_and, exists_false, exists_eq_left, exists_eq_left', exists_eq_right, exists_eq_right', exists_eq, exists_eq', exists_and_left, exists_and_right, exists_const, reduceCtorEq, decide_eq_true_eq, if_true, if_false, List.length_cons, List.length_nil, List.append_nil, List.nil_append, List.cons_append, v_scalI, v_scalS, v_scalB, v_scalN, v_decI, v_decS, v_decB, v_lsL, v_lsP, v_lsI, v_lsS, v_lsB, v_lsT, v_lsN, v_sqT, v_sqL, v_sqP, v_sqI, v_sqS, v_sqB, v_sqN, v_vI, v_vS, v_vB, v_vN, v_vT, v_vL, v_vP, v_sign, v_map, v_at0, v_at1, v_at2, v_at3, v_at4, v_at5, v_ofs, v_eqS, v_eqI, v_dkP, v_bdS, v_bdI, v_bdB, v_bdN, v_bdT, v_bdL, v_bdP, v_bdsN, v_bdsC, v_lastD, v_lastS, v_kyS, v_kyI, v_tt, v_ff, String.reduceEq, List.foldl_cons, List.foldl_nil, List.any_cons, List.any_nil, List.find?_cons, List.find?_nil, Sum.inr.injEq, Sum.inl.injEq, decide_true, decide_false, Bool.or_false, Bool.or_true, Bool.true_or, Bool.false_or, List.append_cancel_left_eq, Bool.false_eq_true, List.map_cons, List.map_nil, List.mapM_cons, List.mapM_nil, Option.pure_def, Option.bind_eq_bind, Option.bind_some, Option.bind_none, Nat.lt_irrefl, Option.map_some, Option.map_none, and_assoc, Nat.zero_add, Nat.reduceAdd, Nat.reduceLeDiff, Nat.le_refl, sizeLine_eq, and_self, forall_const, Bool.not_eq_true', Bool.not_true, Bool.not_false, decide_eq_false_iff_not, ite_not, Fm.d, w_ltoks_2, w_ltoks_3, w_ltoks_4, w_ltoks_5, w_ltoks_6, w_ltoks_7, hw]
    exact fin ["0"] rfl
  | empty =>
    simp only [dSeq, dIf, dAsg, dgName, dVar, dC, dOp, dNil, dCons, dTup, dTest, dAnd, dOr, dNot, dIfE, dAndV, dOrV, dNotV, dNext, dRet, dRetN, dDrop, dCall, dCallS, wLen, wI, wAdd, wAddI, wAddS, wAddL, wSub, wMod, wDiv, wPow, wLt, wLe, wGt, wGe, wMulB, wMulS, wEqF, wNeF, wIsN, wNotN, wInS, wNotInS, wIx, dNeg, dAug, dAppend, dLst, dLstM, dLstB, dSl, dPart, dNo, wCut, dBreak, dCont, dRaise, dMeth, dFld, wFld, dSetF, dAugF, dgTupF, dgTup, dgCons, dgNil, dgSet, dThen, dSo, dSoE, wIntC, dChain, dMake, wListC, wListM, dDisp, dPsCons, dPsNil, keysOf, DL.putAll, putD, valD, dUpC, inV, wDGet, wDIn, dDPut, dGet2, dPopAt, dJoin, wInL, dIsX, List.getElem?_cons_zero, List.getElem?_cons_succ, List.getElem?_nil, Option.some.injEq, D.int.injEq, D.str.injEq, D.bl.injEq, D.ptr.injEq, D.lst.injEq, D.tup.injEq, D.scr.injEq, D.xc.injEq, D.kr.injEq, D.ty.injEq, MO.lst.injEq, MO.ins.injEq, MO.dK.injEq, V.int.injEq, V.str.injEq, V.bl.injEq, List.cons.injEq, List.set_cons_zero, List.set_cons_succ, and_true, true_and, or_false, false_or, or_true, true_or, and_false, false_and, exists_false, exists_eq_left, exists_eq_left', exists_eq_right, exists_eq_right', exists_eq, exists_eq', exists_and_left, exists_and_right, exists_const, reduceCtorEq, decide_eq_true_eq, if_true, if_false, List.length_cons, List.length_nil, List.append_nil, List.nil_append, List.cons_append, v_scalI, v_scalS, v_scalB, v_scalN, v_decI, v_decS, v_decB, v_lsL, v_lsP, v_lsI, v_lsS, v_lsB, v_lsT, v_lsN, v_sqT, v_sqL, v_sqP, v_sqI, v_sqS, v_sqB, v_sqN, v_vI, v_vS, v_vB, v_vN, v_vT, v_vL, v_vP, v_sign, v_map, v_at0, v_at1, v_at2, v_at3, v_at4, v_at5, v_ofs, v_eqS, v_eqI, v_dkP, v_bdS, v_bdI, v_bdB, v_bdN, v_bdT, v_bdL, v_bdP, v_bdsN, v_bdsC, v_lastD, v_lastS, v_kyS, v_kyI, v_tt, v_ff, String.reduceEq, List.foldl_cons, List.foldl_nil, List.any_cons, List.any_nil, List.find?_cons, List.find?_nil, Sum.inr.injEq, Sum.inl.injEq, decide_true, decide_false, Bool.or_false, Bool.or_true, Bool.true_or, Bool.false_or, List.append_cancel_left_eq, Bool.false_eq_true, List.map_cons, List.map_nil, List.mapM_cons, List.mapM_nil, Option.pure_def, Option.bind_eq_bind, Option.bind_some, Option.bind_none, Nat.lt_irrefl, Option.map_some, Option.map_none, and_assoc, Nat.zero_add, Nat.reduceAdd, Nat.reduceLeDiff, Nat.le_refl, sizeLine_eq, and_self, forall_const, Bool.not_eq_true', Bool.not_true, Bool.not_false, decide_eq_false_iff_not, ite_not, Fm.d, w_ltoks_2, w_ltoks_3, w_ltoks_4, w_ltoks_5, w_ltoks_6, w_ltoks_7, hw]
    exact fin ["1"] rfl
  | any =>
    simp only [dSeq, dIf, dAsg, dgName, dVar, dC, dOp, dNil, dCons, dTup, dTest, dAnd, dOr, dNot, dIfE, dAndV, dOrV, dNotV, dNext, dRet, dRetN, dDrop, dCall, dCallS, wLen, wI, wAdd, wAddI, wAddS, wAddL, wSub, wMod, wDiv, wPow, wLt, wLe, wGt, wGe, wMulB, wMulS, wEqF, wNeF, wIsN, wNotN, wInS, wNotInS, wIx, dNeg, dAug, dAppend, dLst, dLstM, dLstB, dSl, dPart, dNo, wCut, dBreak, dCont, dRaise, dMeth, dFld, wFld, dSetF, dAugF, dgTupF, dgTup, dgCons, dgNil, dgSet, dThen, dSo, dSoE, wIntC, dChain, dMake, wListC, wListM, dDisp, dPsCons, dPsNil, keysOf, DL.putAll, putD, valD, dUpC, inV, wDGet, wDIn, dDPut, dGet2, dPopAt, dJoin, wInL, dIsX, List.getElem?_cons_zero, List.getElem?_cons_succ, List.getElem?_nil, Option.some.injEq, D.int.injEq, D.str.injEq, D.bl.injEq, D.ptr.injEq, D.lst.injEq, D.tup.injEq, D.scr.injEq, D.xc.injEq, D.kr.injEq, D.ty.injEq, MO.lst.injEq, MO.ins.injEq, MO.dK.injEq, V.int.injEq, V.str.injEq, V.bl.injEq, List.cons.injEq, List.set_cons_zero, List.set_cons_succ, and_true, true_and, or_false, false_or, or_true, true_or, and_false, false_and, exists_false, exists_eq_left, exists_eq_left', exists_eq_right, exists_eq_right', exists_eq, exists_eq', exists_and_left, exists_and_right, exists_const, reduceCtorEq, decide_eq_true_eq, if_true, if_false, List.length_cons, List.length_nil, List.append_nil, List.nil_append, List.cons_append, v_scalI, v_scalS, v_scalB, v_scalN, v_decI, v_decS, v_decB, v_lsL, v_lsP, v_lsI, v_lsS, v_lsB, v_lsT, v_lsN, v_sqT, v_sqL, v_sqP, v_sqI, v_sqS, v_sqB, v_sqN, v_vI, v_vS, v_vB, v_vN, v_vT, v_vL, v_vP, v_sign, v_map, v_at0, v_at1, v_at2, v_at3, v_at4, v_at5, v_ofs, v_eqS, v_eqI, v_dkP, v_bdS, v_bdI, v_bdB, v_bdN, v_bdT, v_bdL, v_bdP, v_bdsN, v_bdsC, v_lastD, v_lastS, v_kyS, v_kyI, v_tt, v_ff, String.reduceEq, List.foldl_cons, List.foldl_nil, List.any_cons, List.any_nil, List.find?_cons, List.find?_nil, Sum.inr.injEq, Sum.inl.injEq, decide_true, decide_false, Bool.or_false, Bool.or_true, Bool.true_or, Bool.false_or, List.append_cancel_left_eq, Bool.false_eq_true, List.map_cons, List.map_nil, List.mapM_cons, List.mapM_nil, Option.pure_def, Option.bind_eq_bind, Option.bind_some, Option.bind_none, Nat.lt_irrefl, Option.map_some, Option.map_none, and_assoc, Nat.zero_add, Nat.reduceAdd, Nat.reduceLeDiff, Nat.le_refl, sizeLine_eq, and_self, forall_const, Bool.not_eq_true', Bool.not_true, Bool.not_false, decide_eq_false_iff_not, ite_not, Fm.d, w_ltoks_2, w_ltoks_3, w_ltoks_4, w_ltoks_5, w_ltoks_6, w_ltoks_7, hw]
    exact fin ["."] rfl
  | not g =>
    have h1 := ltoks_len g 4
    have hs' : g.size + 1 ≤ n + 1 := hs
    simp only [dSeq, dIf, dAsg, dgName, dVar, dC, dOp, dNil, dCons, dTup, dTest, dAnd, dOr, dNot, dIfE, dAndV, dOrV, dNotV, dNext, dRet, dRetN, dDrop, dCall, dCallS, wLen, wI, wAdd, wAddI, wAddS, wAddL, wSub, wMod, wDiv, wPow, wLt, wLe, wGt, wGe, wMulB, wMulS, wEqF, wNeF, wIsN, wNotN, wInS, wNotInS, wIx, dNeg, dAug, dAppend, dLst, dLstM, dLstB, dSl, dPart, dNo, wCut, dBreak, dCont, dRaise, dMeth, dFld, wFld, dSetF, dAugF, dgTupF, dgTup, dgCons, dgNil, dgSet, dThen, dSo, dSoE, wIntC, dChain, dMake, wListC, wListM, dDisp, dPsCons, dPsNil, keysOf, DL.putAll, putD, valD, dUpC, inV, wDGet, wDIn, dDPut, dGet2, dPopAt, dJoin, wInL, dIsX, List.getElem?_cons_zero, List.getElem?_cons_succ, List.getElem?_nil, Option.some.injEq, D.int.injEq, D.str.injEq, D.bl.injEq, D.ptr.injEq, D.lst.injEq, D.tup.injEq, D.scr.injEq, D.xc.injEq, D.kr.injEq, D.ty.injEq, MO.lst.injEq, MO.ins.injEq, MO.dK.injEq, V.int.injEq, V.str.injEq, V.bl.injEq, List.cons.injEq, List.set_cons_zero, List.set_cons_succ, and_true, true_and, or_false, false_or, or_true, true_or, and_false, false_and, exists_false, exists_eq_left, exists_eq_left', exists_eq_right, exists_eq_right', exists_eq, exists_eq', exists_and_left, exists_and_right, exists_const, reduceCtorEq, decide_eq_true_eq, if_true, if_false, List.length_cons, List.length_nil, List.append_nil, List.nil_append, List.cons_append, v_scalI, v_scalS, v_scalB, v_scalN, v_decI, v_decS, v_decB, v_lsL, v_lsP, v_lsI, v_lsS, v_lsB, v_lsT, v_lsN, v_sqT, v_sqL, v_sqP, v_sqI, v_sqS, v_sqB, v_sqN, v_vI, v_vS, v_vB, v_vN, v_vT, v_vL, v_vP, v_sign, v_map, v_at0, v_at1, v_at2, v_at3, v_at4, v_at5, v_ofs, v_eqS, v_eqI, v_dkP, v_bdS, v_bdI, v_bdB, v_bdN, v_bdT, v_bdL, v_bdP, v_bdsN, v_bdsC, v_lastD, v_lastS, v_kyS, v_kyI, v_tt, v_ff, String.reduceEq, List.foldl_cons, List.foldl_nil, List.any_cons, List.any_nil, List.find?_cons, List.find?_nil, Sum.inr.injEq, Sum.inl.injEq, decide_true, decide_false, Bool.or_false, Bool.or_true, Bool.true_or, Bool.false_or, List.append_cancel_left_eq, Bool.false_eq_true, List.map_cons, List.map_nil, List.mapM_cons, List.mapM_nil, Option.pure_def, Option.bind_eq_bind, Option.bind_some, Option.bind_none, Nat.lt_irrefl, Option.map_some, Option.map_none, and_assoc, Nat.zero_add, Nat.reduceAdd, Nat.reduceLeDiff, Nat.le_refl, sizeLine_eq, and_self, forall_const, Bool.not_eq_true', Bool.not_true, Bool.not_false, decide_eq_false_iff_not, ite_not, Fm.d, w_ltoks_2, w_ltoks_3, w_ltoks_4, w_ltoks_5, w_ltoks_6, w_ltoks_7, w_ltoks_8, w_ltoks_9, w_ltoks_10, w_ltoks_11, w_ltoks_12, w_ltoks_14, hw, F_ltoks, List.length_map, List.length_append]
    refine ⟨g, rfl, 4, rfl, by omega, by omega, by omega, ?_⟩
    exact p_ltoks_15 (ts := [("!" : Str)] ++ ltoks g 4) (m := 4) (Nat.le_refl _) (by simp; omega) q
  | star g =>
    have h1 := ltoks_len g 5
    have hs' : g.size + 1 ≤ n + 1 := hs
    simp only [dSeq, dIf, dAsg, dgName, dVar, dC, dOp, dNil, dCons, dTup, dTest, dAnd, dOr, dNot, dIfE, dAndV, dOrV, dNotV, dNext, dRet, dRetN, dDrop, dCall, dCallS, wLen, wI, wAdd, wAddI, wAddS, wAddL, wSub, wMod, wDiv, wPow, wLt, wLe, wGt, wGe, wMulB, wMulS, wEqF, wNeF, wIsN, wNotN, wInS, wNotInS, wIx, dNeg, dAug, dAppend, dLst, dLstM, dLstB, dSl, dPart, dNo, wCut, dBreak, dCont, dRaise, dMeth, dFld, wFld, dSetF, dAugF, dgTupF, dgTup, dgCons, dgNil, dgSet, dThen, dSo, dSoE, wIntC, dChain, dMake, wListC, wListM, dDisp, dPsCons, dPsNil, keysOf, DL.putAll, putD, valD, dUpC, inV, wDGet, wDIn, dDPut, dGet2, dPopAt, dJoin, wInL, dIsX, List.getElem?_cons_zero, List.getElem?_cons_succ, List.getElem?_nil, Option.some.injEq, D.int.injEq, D.str.injEq, D.bl.injEq, D.ptr.injEq, D.lst.injEq, D.tup.injEq, D.scr.injEq, D.xc.injEq, D.kr.injEq, D.ty.injEq, MO.lst.injEq, MO.ins.injEq, MO.dK.injEq, V.int.injEq, V.str.injEq, V.bl.injEq, List.cons.injEq, List.set_cons_zero, List.set_cons_succ, and_true, true_and, or_false, false_or, or_true, true_or, and_false, false_and, exists_false, exists_eq_left, exists_eq_left', exists_eq_right, exists_eq_right', exists_eq, exists_eq', exists_and_left, exists_and_right, exists_const, reduceCtorEq, decide_eq_true_eq, if_true, if_false, List.length_cons, List.length_nil, List.append_nil, List.nil_append, List.cons_append, v_scalI, v_scalS, v_scalB, v_scalN, v_decI, v_decS, v_decB, v_lsL, v_lsP, v_lsI, v_lsS, v_lsB, v_lsT, v_lsN, v_sqT, v_sqL, v_sqP, v_sqI, v_sqS, v_sqB, v_sqN, v_vI, v_vS, v_vB, v_vN, v_vT, v_vL, v_vP, v_sign, v_map, v_at0, v_at1, v_at2, v_at3, v_at4, v_at5, v_ofs, v_eqS, v_eqI, v_dkP, v_bdS, v_bdI, v_bdB, v_bdN, v_bdT, v_bdL, v_bdP, v_bdsN, v_bdsC, v_lastD, v_lastS, v_kyS, v_kyI, v_tt, v_ff, String.reduceEq, List.foldl_cons, List.foldl_nil, List.any_cons, List.any_nil, List.find?_cons, List.find?_nil, Sum.inr.injEq, Sum.inl.injEq, decide_true, decide_false, Bool.or_false, Bool.or_true, Bool.true_or, Bool.false_or, List.append_cancel_left_eq, Bool.false_eq_true, List.map_cons, List.map_nil, List.mapM_cons, List.mapM_nil, Option.pure_def, Option.bind_eq_bind, Option.bind_some, Option.bind_none, Nat.lt_irrefl, Option.map_some, Option.map_none, and_assoc, Nat.zero_add, Nat.reduceAdd, Nat.reduceLeDiff, Nat.le_refl, sizeLine_eq, and_self, forall_const, Bool.not_eq_true', Bool.not_true, Bool.not_false, decide_eq_false_iff_not, ite_not, Fm.d, w_ltoks_2, w_ltoks_3, w_ltoks_4, w_ltoks_5, w_ltoks_6, w_ltoks_7, w_ltoks_8, w_ltoks_9, w_ltoks_10, w_ltoks_11, w_ltoks_12, w_ltoks_14, hw, F_ltoks, List.length_map, List.length_append]
    refine ⟨g, rfl, 5, rfl, by omega, by omega, by omega, ?_⟩
    have := p_ltoks_15 (K := K) (w := w) (ad := ad) (Fr := F_ltoks n) (Xd := Xd) (d := .tup [.str "star", g.d]) (s := "star") (ts := ltoks g 5 ++ [("*" : Str)]) (m := 5) (Nat.le_refl _) (by simp; omega) q
    rw [List.map_append] at this
    exact this
  | or g h =>
    have h1 := ltoks_len g 1
    have h2 := ltoks_len h 2
    have p1 := g.size_pos
    have p2 := h.size_pos
    have hs' : g.size + h.size ≤ n + 1 := hs
    simp only [dSeq, dIf, dAsg, dgName, dVar, dC, dOp, dNil, dCons, dTup, dTest, dAnd, dOr, dNot, dIfE, dAndV, dOrV, dNotV, dNext, dRet, dRetN, dDrop, dCall, dCallS, wLen, wI, wAdd, wAddI, wAddS, wAddL, wSub, wMod, wDiv, wPow, wLt, wLe, wGt, wGe, wMulB, wMulS, wEqF, wNeF, wIsN, wNotN, wInS, wNotInS, wIx, dNeg, dAug, dAppend, dLst, dLstM, dLstB, dSl, dPart, dNo, wCut, dBreak, dCont, dRaise, dMeth, dFld, wFld, dSetF, dAugF, dgTupF, dgTup, dgCons, dgNil, dgSet, dThen, dSo, dSoE, wIntC, dChain, dMake, wListC, wListM, dDisp, dPsCons, dPsNil, keysOf, DL.putAll, putD, valD, dUpC, inV, wDGet, wDIn, dDPut, dGet2, dPopAt, dJoin, wInL, dIsX, List.getElem?_cons_zero, List.getElem?_cons_succ, List.getElem?_nil, Option.some.injEq, D.int.injEq, D.str.injEq, D.bl.injEq, D.ptr.injEq, D.lst.injEq, D.tup.injEq, D.scr.injEq, D.xc.injEq, D.kr.injEq, D.ty.injEq, MO.lst.injEq, MO.ins.injEq, MO.dK.injEq, V.int.injEq, V.str.injEq, V.bl.injEq, List.cons.injEq, List.set_cons_zero, List.set_cons_succ, and_true, true_and, or_false, false_or, or_true, true_or, and_false, false_and, exists_false, exists_eq_left, exists_eq_left', exists_eq_right, exists_eq_right', exists_eq, exists_eq', exists_and_left, exists_and_right, exists_const, reduceCtorEq, decide_eq_true_eq, if_true, if_false, List.length_cons, List.length_nil, List.append_nil, List.nil_append, List.cons_append, v_scalI, v_scalS, v_scalB, v_scalN, v_decI, v_decS, v_decB, v_lsL, v_lsP, v_lsI, v_lsS, v_lsB, v_lsT, v_lsN, v_sqT, v_sqL, v_sqP, v_sqI, v_sqS, v_sqB, v_sqN, v_vI, v_vS, v_vB, v_vN, v_vT, v_vL, v_vP, v_sign, v_map, v_at0, v_at1, v_at2, v_at3, v_at4, v_at5, v_ofs, v_eqS, v_eqI, v_dkP, v_bdS, v_bdI, v_bdB, v_bdN, v_bdT, v_bdL, v_bdP, v_bdsN, v_bdsC, v_lastD, v_lastS, v_kyS, v_kyI, v_tt, v_ff, String.reduceEq, List.foldl_cons, List.foldl_nil, List.any_cons, List.any_nil, List.find?_cons, List.find?_nil, Sum.inr.injEq, Sum.inl.injEq, decide_true, decide_false, Bool.or_false, Bool.or_true, Bool.true_or, Bool.false_or, List.append_cancel_left_eq, Bool.false_eq_true, List.map_cons, List.map_nil, List.mapM_cons, List.mapM_nil, Option.pure_def, Option.bind_eq_bind, Option.bind_some, Option.bind_none, Nat.lt_irrefl, Option.map_some, Option.map_none, and_assoc, Nat.zero_add, Nat.reduceAdd, Nat.reduceLeDiff, Nat.le_refl, sizeLine_eq, and_self, forall_const, Bool.not_eq_true', Bool.not_true, Bool.not_false, decide_eq_false_iff_not, ite_not, Fm.d, w_ltoks_2, w_ltoks_3, w_ltoks_4, w_ltoks_5, w_ltoks_6, w_ltoks_7, w_ltoks_8, w_ltoks_9, w_ltoks_10, w_ltoks_11, w_ltoks_12, w_ltoks_14, hw, F_ltoks, List.length_map, List.length_append]
    refine ⟨g, rfl, 1, rfl, by omega, by omega, by omega, h, rfl, 2, rfl, by omega, by omega, by omega, ?_⟩
    have := p_ltoks_15 (K := K) (w := w) (ad := ad) (Fr := F_ltoks n) (Xd := Xd) (d := .tup [.str "or", g.d, h.d]) (s := "or") (ts := ltoks g 1 ++ [("|" : Str)] ++ ltoks h 2) (m := 1) (Nat.le_refl _) (by simp; omega) q
    rw [List.map_append, List.map_append] at this
    exact this
  | and g h =>
    have h1 := ltoks_len g 2
    have h2 := ltoks_len h 3
    have p1 := g.size_pos
    have p2 := h.size_pos
    have hs' : g.size + h.size ≤ n + 1 := hs
    simp only [dSeq, dIf, dAsg, dgName, dVar, dC, dOp, dNil, dCons, dTup, dTest, dAnd, dOr, dNot, dIfE, dAndV, dOrV, dNotV, dNext, dRet, dRetN, dDrop, dCall, dCallS, wLen, wI, wAdd, wAddI, wAddS, wAddL, wSub, wMod, wDiv, wPow, wLt, wLe, wGt, wGe, wMulB, wMulS, wEqF, wNeF, wIsN, wNotN, wInS, wNotInS, wIx, dNeg, dAug, dAppend, dLst, dLstM, dLstB, dSl, dPart, dNo, wCut, dBreak, dCont, dRaise, dMeth, dFld, wFld, dSetF, dAugF, dgTupF, dgTup, dgCons, dgNil, dgSet, dThen, dSo, dSoE, wIntC, dChain, dMake, wListC, wListM, dDisp, dPsCons, dPsNil, keysOf, DL.putAll, putD, valD, dUpC, inV, wDGet, wDIn, dDPut, dGet2, dPopAt, dJoin, wInL, dIsX, List.getElem?_cons_zero, List.getElem?_cons_succ, List.getElem?_nil, Option.some.injEq, D.int.injEq, D.str.injEq, D.bl.injEq, D.ptr.injEq, D.lst.injEq, D.tup.injEq, D.scr.injEq, D.xc.injEq, D.kr.injEq, D.ty.injEq, MO.lst.injEq, MO.ins.injEq, MO.dK.injEq, V.int.injEq, V.str.injEq, V.bl.injEq, List.cons.injEq, List.set_cons_zero, List.set_cons_succ, and_true, true_and, or_false, false_or, or_true, true_or, and_false, false_and, exists_false, exists_eq_left, exists_eq_left', exists_eq_right, exists_eq_right', exists_eq, exists_eq', exists_and_left, exists_and_right, exists_const, reduceCtorEq, decide_eq_true_eq, if_true, if_false, List.length_cons, List.length_nil, List.append_nil, List.nil_append, List.cons_append, v_scalI, v_scalS, v_scalB, v_scalN, v_decI, v_decS, v_decB, v_lsL, v_lsP, v_lsI, v_lsS, v_lsB, v_lsT, v_lsN, v_sqT, v_sqL, v_sqP, v_sqI, v_sqS, v_sqB, v_sqN, v_vI, v_vS, v_vB, v_vN, v_vT, v_vL, v_vP, v_sign, v_map, v_at0, v_at1, v_at2, v_at3, v_at4, v_at5, v_ofs, v_eqS, v_eqI, v_dkP, v_bdS, v_bdI, v_bdB, v_bdN, v_bdT, v_bdL, v_bdP, v_bdsN, v_bdsC, v_lastD, v_lastS, v_kyS, v_kyI, v_tt, v_ff, String.reduceEq, List.foldl_cons, List.foldl_nil, List.any_cons, List.any_nil, List.find?_cons, List.find?_nil, Sum.inr.injEq, Sum.inl.injEq, decide_true, decide_false, Bool.or_false, Bool.or_true, Bool.true_or, Bool.false_or, List.append_cancel_left_eq, Bool.false_eq_true, List.map_cons, List.map_nil, List.mapM_cons, List.mapM_nil, Option.pure_def, Option.bind_eq_bind, Option.bind_some, Option.bind_none, Nat.lt_irrefl, Option.map_some, Option.map_none, and_assoc, Nat.zero_add, Nat.reduceAdd, Nat.reduceLeDiff, Nat.le_refl, sizeLine_eq, and_self, forall_const, Bool.not_eq_true', Bool.not_true, Bool.not_false, decide_eq_false_iff_not, ite_not, Fm.d, w_ltoks_2, w_ltoks_3, w_ltoks_4, w_ltoks_5, w_ltoks_6, w_ltoks_7, w_ltoks_8, w_ltoks_9, w_ltoks_10, w_ltoks_11, w_ltoks_12, w_ltoks_14, hw, F_ltoks, List.length_map, List.length_append]
    refine ⟨g, rfl, 2, rfl, by omega, by omega, by omega, h, rfl, 3, rfl, by omega, by omega, by omega, ?_⟩
    have := p_ltoks_15 (K := K) (w := w) (ad := ad) (Fr := F_ltoks n) (Xd := Xd) (d := .tup [.str "and", g.d, h.d]) (s := "and") (ts := ltoks g 2 ++ [("&" : Str)] ++ ltoks h 3) (m := 2) (Nat.le_refl _) (by simp; omega) q
    rw [List.map_append, List.map_append] at this
    exact this
  | row g h =>
    have h1 := ltoks_len g 3
    have h2 := ltoks_len h 4
    have p1 := g.size_pos
    have p2 := h.size_pos
    have hs' : g.size + h.size ≤ n + 1 := hs
    simp only [dSeq, dIf, dAsg, dgName, dVar, dC, dOp, dNil, dCons, dTup, dTest, dAnd, dOr, dNot, dIfE, dAndV, dOrV, dNotV, dNext, dRet, dRetN, dDrop, dCall, dCallS, wLen, wI, wAdd, wAddI, wAddS, wAddL, wSub, wMod, wDiv, wPow, wLt, wLe, wGt, wGe, wMulB, wMulS, wEqF, wNeF, wIsN, wNotN, wInS, wNotInS, wIx, dNeg, dAug, dAppend, dLst, dLstM, dLstB, dSl, dPart, dNo, wCut, dBreak, dCont, dRaise, dMeth, dFld, wFld, dSetF, dAugF, dgTupF, dgTup, dgCons, dgNil, dgSet, dThen, dSo, dSoE, wIntC, dChain, dMake, wListC, wListM, dDisp, dPsCons, dPsNil, keysOf, DL.putAll, putD, valD, dUpC, inV, wDGet, wDIn, dDPut, dGet2, dPopAt, dJoin, wInL, dIsX, List.getElem?_cons_zero, List.getElem?_cons_succ, List.getElem?_nil, Option.some.injEq, D.int.injEq, D.str.injEq, D.bl.injEq, D.ptr.injEq, D.lst.injEq, D.tup.injEq, D.scr.injEq, D.xc.injEq, D.kr.injEq, D.ty.injEq, MO.lst.injEq, MO.ins.injEq, MO.dK.injEq, V.int.injEq, V.str.injEq, V.bl.injEq, List.cons.injEq, List.set_cons_zero, List.set_cons_succ, and_true, true_and, or_false, false_or, or_true, true_or, and_false, false_and, exists_false, exists_eq_left, exists_eq_left', exists_eq_right, exists_eq_right', exists_eq, exists_eq', exists_and_left, exists_and_right, exists_const, reduceCtorEq, decide_eq_true_eq, if_true, if_false, List.length_cons, List.length_nil, List.append_nil, List.nil_append, List.cons_append, v_scalI, v_scalS, v_scalB, v_scalN, v_decI, v_decS, v_decB, v_lsL, v_lsP, v_lsI, v_lsS, v_lsB, v_lsT, v_lsN, v_sqT, v_sqL, v_sqP, v_sqI, v_sqS, v_sqB, v_sqN, v_vI, v_vS, v_vB, v_vN, v_vT, v_vL, v_vP, v_sign, v_map, v_at0, v_at1, v_at2, v_at3, v_at4, v_at5, v_ofs, v_eqS, v_eqI, v_dkP, v_bdS, v_bdI, v_bdB, v_bdN, v_bdT, v_bdL, v_bdP, v_bdsN, v_bdsC, v_lastD, v_lastS, v_kyS, v_kyI, v_tt, v_ff, String.reduceEq, List.foldl_cons, List.foldl_nil, List.any_cons, List.any_nil, List.find?_cons, List.find?_nil, Sum.inr.injEq, Sum.inl.injEq, decide_true, decide_false, Bool.or_false, Bool.or_true, Bool.true_or, Bool.false_or, List.append_cancel_left_eq, Bool.false_eq_true, List.map_cons, List.map_nil, List.mapM_cons, List.mapM_nil, Option.pure_def, Option.bind_eq_bind, Option.bind_some, Option.bind_none, Nat.lt_irrefl, Option.map_some, Option.map_none, and_assoc, Nat.zero_add, Nat.reduceAdd, Nat.reduceLeDiff, Nat.le_refl, sizeLine_eq, and_self, forall_const, Bool.not_eq_true', Bool.not_true, Bool.not_false, decide_eq_false_iff_not, ite_not, Fm.d, w_ltoks_2, w_ltoks_3, w_ltoks_4, w_ltoks_5, w_ltoks_6, w_ltoks_7, w_ltoks_8, w_ltoks_9, w_ltoks_10, w_ltoks_11, w_ltoks_12, w_ltoks_14, hw, F_ltoks, List.length_map, List.length_append]
    refine ⟨g, rfl, 3, rfl, by omega, by omega, by omega, h, rfl, 4, rfl, by omega, by omega, by omega, ?_⟩
    have := p_ltoks_15 (K := K) (w := w) (ad := ad) (Fr := F_ltoks n) (Xd := Xd) (d := .tup [.str "row", g.d, h.d]) (s := "row") (ts := ltoks g 3 ++ [] ++ ltoks h 4) (m := 3) (Nat.le_refl _) (by simp; omega) q
    rw [List.append_nil, List.map_append] at this
    exact this
theorem fo_ltoks (T : Txt P w K mg ad) : ∀ n : Nat, FnOk P w K mg base (L2.CX P w) (n + 2) ad.f_ltoks ad.fd_ltoks p_ltoks (spD K 2 (F_ltoks n))
  | 0 => fn_never fun ds M Q X h => by
    obtain ⟨f, _, _, h, _⟩ := h
    have := f.size_pos
    omega
  | n + 1 => fo_ltoks' T (fo_ltoks T n)
/-! ### the law's letters -/
def lawLetters : List Str := ["a", "ab", "abc", "dexy"]
def F_letters : FD := fun ds M Qd _ => ∃ d, ds = [.ptr d] ∧ DrAt M d ∧ ∀ L M', L ∈ lawLetters → DrS d M M' → Qd (.str L) M'

end
end K87

namespace K87
open PySem PySem.Spec PyProof.Rows L2 DL
section
variable {P : Program} {w : World} {K : PySem.W.Frag} {mg : Str → Option Value} {base : Heap} {ad : Ad}
/-! _law_letters -/
def w_letters_1 (K : PySem.W.Frag) (w : World) (ad : Ad) : SW := dRet (dOp wIx (dLst (dCons (dC (.str "a")) (dCons (dC (.str "ab")) (dCons (dC (.str "ab")) (dCons (dC (.str "abc")) (dCons (dC (.str "dexy")) dNil)))))) (dCallS 2 F_draw (dCons (dVar 0) (dCons (dC (.int 5)) dNil))))
def w_letters (K : PySem.W.Frag) (w : World) (ad : Ad) : SW := (w_letters_1 K w ad)
theorem y_letters (T : Txt P w K mg ad) (E : XK) : DSs (XB P w K mg base n_letters "_law_letters" (defScope s_letters) ad.f_letters 1 E) K (WF E) (defBody s_letters) (w_letters K w ad) := by
  unfold w_letters w_letters_1
  exact (dss_one (ds_ret (de_ix (fun _ => rfl) (de_lst (da_cons de_str (da_cons de_str (da_cons de_str (da_cons de_str (da_cons de_str da_nil)))))) (de_callS (fun _ => (fo_draw T)) (fun i => (xb_room i).mono (by decide)) (fun i => xb_takes i) (fun _ => T.g_draw) (fun _ => T.F_draw.kp) (fun _ => T.b_draw) (da_cons (de_var 0) (da_cons de_int da_nil))))))
theorem fo_letters (T : Txt P w K mg ad) : FnOk P w K mg base (L2.CX P w) 2 ad.f_letters ad.fd_letters p_letters (spD K 1 F_letters) := by
  refine fn_d T.F_letters sc_letters (y_letters T) fun ds M Qd Xd hl h hw hb => ?_
  obtain ⟨d, rfl, hd, q⟩ := h
  have q : ∀ L M', L ∈ lawLetters → DrS d M M' → (DsF M Qd Xd).rt (.str L) M' := fun L M' h1 h2 w' d' => UpV.all (by rw [h2.len]; exact Nat.le_refl _) w' d' (q L M' h1 h2)
  unfold w_letters w_letters_1
  simp only [startD, List.map_cons, List.map_nil, List.length_cons, List.length_nil, Nat.reduceAdd, Nat.reduceSub, List.replicate_succ, List.replicate_zero, List.cons_append, List.nil_append]
  simp only [dSeq, dIf, dAsg, dgName, dVar, dC, dOp, dNil, dCons, dTup, dTest, dAnd, dOr, dNot, dIfE, dAndV, dOrV, dNotV, dNext, dRet, dRetN, dDrop, dCall, dCallS, wLen, wI, wAdd, wAddI, wAddS, wAddL, wSub, wMod, wDiv, wPow, wLt, wLe, wGt, wGe, wMulB, wMulS, wEqF, wNeF, wIsN, wNotN, wInS, wNotInS, wIx, dNeg, dAug, dAppend, dLst, dLstM, dLstB, dSl, dPart, dNo, wCut, dBreak, dCont, dRaise, dMeth, dFld, wFld, dSetF, dAugF, dgTupF, dgTup, dgCons, dgNil, dgSet, dThen, dSo, dSoE, wIntC, dChain, dMake, wListC, wListM, dDisp, dPsCons, dPsNil, keysOf, DL.putAll, putD, valD, dUpC, inV, wDGet, wDIn, dDPut, dGet2, dPopAt, dJoin, wInL, dIsX, List.getElem?_cons_zero, List.getElem?_cons_succ, List.getElem?_nil, Option.some.injEq, D.int.injEq, D.str.injEq, D.bl.injEq, D.ptr.injEq, D.lst.injEq, D.tup.injEq, D.scr.injEq, D.xc.injEq, D.kr.injEq, D.ty.injEq, MO.lst.injEq, MO.ins.injEq, MO.dK.injEq, V.int.injEq, V.str.injEq, V.bl.injEq, List.cons.injEq, List.set_cons_zero, List.set_cons_succ, and_true, true_and, or_false, false_or, or_true, true_or, and_false, false_and, exists_false, exists_eq_left, exists_eq_left', exists_eq_right, exists_eq_right', exists_eq, exists_eq', exists_and_left, exists_and_right, exists_const, reduceCtorEq, decide_eq_true_eq, if_true, if_false, List.length_cons, List.length_nil, List.append_nil, List.nil_append, List.cons_append, v_scalI, v_scalS, v_scalB, v_scalN, v_decI, v_decS, v_decB, v_lsL, v_lsP, v_lsI, v_lsS, v_lsB, v_lsT, v_lsN, v_sqT, v_sqL, v_sqP, v_sqI, v_sqS, v_sqB, v_sqN, v_vI, v_vS, v_vB, v_vN, v_vT, v_vL, v_vP, v_sign, v_map, v_at0, v_at1, v_at2, v_at3, v_at4, v_at5, v_ofs, v_eqS, v_eqI, v_dkP, v_bdS, v_bdI, v_bdB, v_bdN, v_bdT, v_bdL, v_bdP, v_bdsN, v_bdsC, v_lastD, v_lastS, v_kyS, v_kyI, v_tt, v_ff, String.reduceEq, List.foldl_cons, List.foldl_nil, List.any_cons, List.any_nil, List.find?_cons, List.find?_nil, Sum.inr.injEq, Sum.inl.injEq, decide_true, decide_false, Bool.or_false, Bool.or_true, Bool.true_or, Bool.false_or, List.append_cancel_left_eq, Bool.false_eq_true, List.map_cons, List.map_nil, List.mapM_cons, List.mapM_nil, Option.pure_def, Option.bind_eq_bind, Option.bind_some, Option.bind_none, Nat.lt_irrefl, Option.map_some, Option.map_none, and_assoc, Nat.zero_add, Nat.reduceAdd, Nat.reduceLeDiff, Nat.le_refl, sizeLine_eq, and_self, forall_const, Bool.not_eq_true', Bool.not_true, Bool.not_false, decide_eq_false_iff_not, ite_not]
  refine r_dr1 hd (by omega) (by omega) fun v M1 v0 v1 d1 => ?_
  rcases (show v = 0 ∨ v = 1 ∨ v = 2 ∨ v = 3 ∨ v = 4 by omega) with rfl | rfl | rfl | rfl | rfl <;> simp only [dSeq, dIf, dAsg, dgName, dVar, dC, dOp, dNil, dCons, dTup, dTest, dAnd, dOr, dNot, dIfE, dAndV, dOrV, dNotV, dNext, dRet, dRetN, dDrop, dCall, dCallS, wLen, wI, wAdd, wAddI, wAddS, wAddL, wSub, wMod, wDiv, wPow, wLt, wLe, wGt, wGe, wMulB, wMulS, wEqF, wNeF, wIsN, wNotN, wInS, wNotInS, wIx, dNeg, dAug, dAppend, dLst, dLstM, dLstB, dSl, dPart, dNo, wCut, dBreak, dCont, dRaise, dMeth, dFld, wFld, dSetF, dAugF, dgTupF, dgTup, dgCons, dgNil, dgSet, dThen, dSo, dSoE, wIntC, dChain, dMake, wListC, wListM, dDisp, dPsCons, dPsNil, keysOf, DL.putAll, putD, valD, dUpC, inV, wDGet, wDIn, dDPut, dGet2, dPopAt, dJoin, wInL, dIsX, List.getElem?_cons_zero, List.getElem?_cons_succ, List.getElem?_nil, Option.some.injEq, D.int.injEq, D.str.injEq, D.bl.injEq, D.ptr.injEq, D.lst.injEq, D.tup.injEq, D.scr.injEq, D.xc.injEq, D.kr.injEq, D.ty.injEq, MO.lst.injEq, MO.ins.injEq, MO.dK.injEq, V.int.injEq, V.str.injEq, V.bl.injEq, List.cons.injEq, List.set_cons_zero, List.set_cons_succ, and_true, true_and, or_false, false_or, or_true, true_or, and_false, false_and, exists_false, exists_eq_left, exists_eq_left', exists_eq_right, exists_eq_right', exists_eq, exists_eq', exists_and_left, exists_and_right, exists_const, reduceCtorEq, decide_eq_true_eq, if_true, if_false, List.length_cons, List.length_nil, List.append_nil, List.nil_append, List.cons_append, v_scalI, v_scalS, v_scalB, v_scalN, v_decI, v_decS, v_decB, v_lsL, v_lsP, v_lsI, v_lsS, v_lsB, v_lsT, v_lsN, v_sqT, v_sqL, v_sqP, v_sqI, v_sqS, v_sqB, v_sqN, v_vI, v_vS, v_vB, v_vN, v_vT, v_vL, v_vP, v_sign, v_map, v_at0, v_at1, v_at2, v_at3, v_at4, v_at5, v_ofs, v_eqS, v_eqI, v_dkP, v_bdS, v_bdI, v_bdB, v_bdN, v_bdT, v_bdL, v_bdP, v_bdsN, v_bdsC, v_lastD, v_lastS, v_kyS, v_kyI, v_tt, v_ff, String.reduceEq, List.foldl_cons, List.foldl_nil, List.any_cons, List.any_nil, List.find?_cons, List.find?_nil, Sum.inr.injEq, Sum.inl.injEq, decide_true, decide_false, Bool.or_false, Bool.or_true, Bool.true_or, Bool.false_or, List.append_cancel_left_eq, Bool.false_eq_true, List.map_cons, List.map_nil, List.mapM_cons, List.mapM_nil, Option.pure_def, Option.bind_eq_bind, Option.bind_some, Option.bind_none, Nat.lt_irrefl, Option.map_some, Option.map_none, and_assoc, Nat.zero_add, Nat.reduceAdd, Nat.reduceLeDiff, Nat.le_refl, sizeLine_eq, and_self, forall_const, Bool.not_eq_true', Bool.not_true, Bool.not_false, decide_eq_false_iff_not, ite_not] <;> exact q _ M1 (by simp [lawLetters]) d1

end
end K87

namespace K87
open PySem PySem.Spec PyProof.Rows L2 DL
section
variable {P : Program} {w : World} {K : PySem.W.Frag} {mg : Str → Option Value} {base : Heap} {ad : Ad}
/-! ### tokens with gaps between them -/
def mkS (l : List Nat) : Str := ⟨l.toArray⟩
theorem mkS_cps (l : List Nat) : (mkS l).cps.toList = l := rfl
theorem mkS_of (s : Str) : mkS s.cps.toList = s := by
  obtain ⟨a⟩ := s
  simp [mkS]
theorem mkS_len (l : List Nat) : (mkS l).length = l.length := by
  show l.toArray.size = _
  simp
theorem mkS_app (l : List Nat) (s : Str) : mkS l ++ s = mkS (l ++ s.cps.toList) := by
  obtain ⟨a⟩ := s
  show (⟨l.toArray ++ a⟩ : Str) = ⟨(l ++ a.toList).toArray⟩
  congr 1
  simp
abbrev Ly := List (List Nat × Str)
def layT : Ly → List Nat
  | [] => []
  | (g, t) :: r => g ++ (t.cps.toList ++ layT r)
def layP : Nat → Ly → List Nat
  | _, [] => []
  | p, (g, t) :: r => (p + g.length) :: layP (p + g.length + t.length) r
theorem layT_snoc (g : List Nat) (t : Str) : ∀ xs : Ly, layT (xs ++ [(g, t)]) = layT xs ++ g ++ t.cps.toList
  | [] => by simp [layT]
  | (g', t') :: r => by
    show g' ++ (t'.cps.toList ++ layT (r ++ [(g, t)])) = g' ++ (t'.cps.toList ++ layT r) ++ g ++ t.cps.toList
    rw [layT_snoc g t r]
    simp only [List.append_assoc]
theorem layP_snoc (g : List Nat) (t : Str) : ∀ (xs : Ly) (p : Nat), layP p (xs ++ [(g, t)]) = layP p xs ++ [p + (layT xs).length + g.length]
  | [], p => by simp [layP, layT]
  | (g', t') :: r, p => by
    show (p + g'.length) :: layP (p + g'.length + t'.length) (r ++ [(g, t)]) = (p + g'.length) :: layP (p + g'.length + t'.length) r ++ [p + (g' ++ (t'.cps.toList ++ layT r)).length + g.length]
    rw [layP_snoc g t r]
    have : t'.length = t'.cps.toList.length := len_cps t'
    simp only [List.cons_append, List.length_append]
    congr 3
    omega
theorem layP_len : ∀ (xs : Ly) (p : Nat), (layP p xs).length = xs.length
  | [], _ => rfl
  | (g, t) :: r, p => by
    show (layP _ r).length + 1 = r.length + 1
    rw [layP_len r]
def allBlk (g : List Nat) : Prop := ∀ c ∈ g, isBlk c = true
structure GapOk (xs : Ly) : Prop where
  blk : ∀ x ∈ xs, allBlk x.1 ∧ x.1.length ≤ 3
  sep : ∀ (k : Nat) (x y : List Nat × Str), xs[k]? = some x → xs[k + 2]? = some y → x.2 = "@" → y.1 ≠ []
theorem GapOk.nil : GapOk [] := ⟨fun x h => (by cases h), fun k x y h => (by simp at h)⟩
theorem GapOk.snoc {xs : Ly} (h : GapOk xs) {g : List Nat} {t : Str} (hb : allBlk g) (hl : g.length ≤ 3) (hs : ∀ x : List Nat × Str, xs[xs.length - 2]? = some x → 2 ≤ xs.length → x.2 = "@" → g ≠ []) : GapOk (xs ++ [(g, t)]) := by
  refine ⟨fun x hx => ?_, fun k x y hx hy e => ?_⟩
  · rcases List.mem_append.mp hx with hx | hx
    · exact h.blk x hx
    · have e : x = (g, t) := by simpa using hx
      subst e
      exact ⟨hb, hl⟩
  · by_cases hk : k + 2 < xs.length
    · rw [List.getElem?_append_left hk] at hy
      rw [List.getElem?_append_left (by omega)] at hx
      exact h.sep k x y hx hy e
    · have hk2 : k + 2 < (xs ++ [(g, t)]).length := (List.getElem?_eq_some_iff.mp hy).1
      rw [List.length_append] at hk2
      have ek : k + 2 = xs.length := by simp at hk2; omega
      rw [List.getElem?_append_left (by omega)] at hx
      rw [ek, List.getElem?_append_right (Nat.le_refl _), Nat.sub_self] at hy
      have ey : (g, t) = y := Option.some.inj hy
      subst ey
      exact hs x (by rw [← ek]; exact hx) (by omega) e
theorem lay_short {xs : Ly} (h : GapOk xs) (ht : ∀ x ∈ xs, x.2.length ≤ 12) : (layT xs).length ≤ 15 * xs.length := by
  induction xs with
  | nil => exact Nat.zero_le _
  | cons x r ih =>
    obtain ⟨g, t⟩ := x
    have h1 := (h.blk (g, t) List.mem_cons_self).2
    have h2 := ht (g, t) List.mem_cons_self
    have h3 := ih ⟨fun x hx => h.blk x (List.mem_cons_of_mem _ hx), fun k x y hx hy e => h.sep (k + 1) x y (by simpa using hx) (by simpa using hy) e⟩ (fun x hx => ht x (List.mem_cons_of_mem _ hx))
    show (g ++ (t.cps.toList ++ layT r)).length ≤ 15 * (r.length + 1)
    have : t.length = t.cps.toList.length := len_cps t
    simp only [List.length_append]
    dsimp only at h1 h2
    omega
/-- the text and the places that are told -/
def GapD (g0 tail : List Nat) (xs : Ly) : D := .tup [.str (mkS (g0 ++ layT xs ++ tail)), .lst ((layP g0.length xs).map fun n : Nat => .int n)]
def F_gaps : FD := fun ds M Qd _ => ∃ (d : Nat) (td : D) (ts : List Str), ds = [.ptr d, td] ∧ DrAt M d ∧ td ≠ .ptr d ∧ lsOf M td = some (ts.map .str) ∧ ts.length ≤ 1000 ∧ (∀ t ∈ ts, t.length ≤ 12) ∧
  ∀ (g0 tail : List Nat) (xs : Ly) (M' : Mm), xs.map (·.2) = ts → GapOk xs → allBlk g0 → g0.length ≤ 3 → allBlk tail → tail.length ≤ 3 → (∀ x, xs[0]? = some x → x.1 = []) → DrS d M M' → Qd (GapD g0 tail xs) M'
/-! _law_gaps -/
def w_gaps_7 (K : PySem.W.Frag) (w : World) (ad : Ad) : SW := dAsg (dC (.str " ")) (dgName 5)
def w_gaps_8 (K : PySem.W.Frag) (w : World) (ad : Ad) : SW := dAsg (dOp wAdd (dVar 2) (dVar 5)) (dgName 2)
def w_gaps_6 (K : PySem.W.Frag) (w : World) (ad : Ad) : SW := dSeq (dIf (dAnd (dTest (dOp wGt (dVar 4) (dC (.int 1)))) (dAnd (dTest (dOp wEqF (dOp wIx (dVar 1) (dOp wSub (dVar 4) (dC (.int 2)))) (dC (.str "@")))) (dTest (dOp wEqF (dVar 5) (dC (.str "")))))) (w_gaps_7 K w ad) dNext) (w_gaps_8 K w ad)
def w_gaps_5 (K : PySem.W.Frag) (w : World) (ad : Ad) : SW := dSeq (dAsg (dOp wIx (dLst (dCons (dC (.str "")) (dCons (dC (.str "")) (dCons (dC (.str " ")) (dCons (dC (.str "  ")) (dCons (dC (.str " \n ")) (dCons (dC (.str "\n")) dNil))))))) (dCallS 2 F_draw (dCons (dVar 0) (dCons (dC (.int 6)) dNil)))) (dgName 5)) (w_gaps_6 K w ad)
def w_gaps_10 (K : PySem.W.Frag) (w : World) (ad : Ad) : SW := dAsg (dOp wAdd (dVar 2) (dOp wIx (dVar 1) (dVar 4))) (dgName 2)
def w_gaps_9 (K : PySem.W.Frag) (w : World) (ad : Ad) : SW := dSeq (dDrop (dAppend (dVar 3) (dCons (dCall wLen (dCons (dVar 2) dNil)) dNil))) (w_gaps_10 K w ad)
def w_gaps_4 (K : PySem.W.Frag) (w : World) (ad : Ad) : SW := dSeq (dIf (dTest (dOp wGt (dVar 4) (dC (.int 0)))) (w_gaps_5 K w ad) dNext) (w_gaps_9 K w ad)
def w_gaps_11 (K : PySem.W.Frag) (w : World) (ad : Ad) : SW := dRet (dTup (dCons (dOp wAdd (dVar 2) (dOp wIx (dLst (dCons (dC (.str "")) (dCons (dC (.str " ")) (dCons (dC (.str "\n")) dNil)))) (dCallS 2 F_draw (dCons (dVar 0) (dCons (dC (.int 3)) dNil))))) (dCons (dVar 3) dNil)))
def w_gaps_3 (K : PySem.W.Frag) (w : World) (ad : Ad) : SW := dSeq (dFor (diRng1 (dCall wLen (dCons (dVar 1) dNil))) (dgName 4) (dThen (w_gaps_4 K w ad))) (w_gaps_11 K w ad)
def w_gaps_2 (K : PySem.W.Frag) (w : World) (ad : Ad) : SW := dSeq (dAsg (dLstM dNil) (dgName 3)) (w_gaps_3 K w ad)
def w_gaps_1 (K : PySem.W.Frag) (w : World) (ad : Ad) : SW := dSeq (dAsg (dOp wIx (dLst (dCons (dC (.str "")) (dCons (dC (.str " ")) (dCons (dC (.str "\n")) dNil)))) (dCallS 2 F_draw (dCons (dVar 0) (dCons (dC (.int 3)) dNil)))) (dgName 2)) (w_gaps_2 K w ad)
def w_gaps (K : PySem.W.Frag) (w : World) (ad : Ad) : SW := (w_gaps_1 K w ad)
theorem y_gaps (T : Txt P w K mg ad) (E : XK) : DSs (XB P w K mg base n_gaps "_law_gaps" (defScope s_gaps) ad.f_gaps 1 E) K (WF E) (defBody s_gaps) (w_gaps K w ad) := by
  unfold w_gaps w_gaps_1 w_gaps_2 w_gaps_3 w_gaps_11 w_gaps_4 w_gaps_9 w_gaps_10 w_gaps_5 w_gaps_6 w_gaps_8 w_gaps_7
  exact (dss_cons (ds_set 2 (de_ix (fun _ => rfl) (de_lst (da_cons de_str (da_cons de_str (da_cons de_str da_nil)))) (de_callS (fun _ => (fo_draw T)) (fun i => (xb_room i).mono (by decide)) (fun i => xb_takes i) (fun _ => T.g_draw) (fun _ => T.F_draw.kp) (fun _ => T.b_draw) (da_cons (de_var 0) (da_cons de_int da_nil)))) (fun _ => sc_gaps.nd)) (dss_cons (ds_set 3 (de_lstM da_nil) (fun _ => sc_gaps.nd)) (dss_cons (ds_for (fun i => xb_passes i) (fun _ => rfl) (di_rng1 (fun _ => T.n_range) (de_callB (dc_len fun _ => rfl) (fun _ => T.n_len) PyProof.Rows.Boot.«len» (da_cons (de_var 1) da_nil))) (dg_var 4 (fun _ => sc_gaps.nd)) (dss_then (dss_cons (ds_if (dt_cmp do_gt (de_var 4) de_int) (dss_cons (ds_set 5 (de_ix (fun _ => rfl) (de_lst (da_cons de_str (da_cons de_str (da_cons de_str (da_cons de_str (da_cons de_str (da_cons de_str da_nil))))))) (de_callS (fun _ => (fo_draw T)) (fun i => (xb_room i).mono (by decide)) (fun i => xb_takes i) (fun _ => T.g_draw) (fun _ => T.F_draw.kp) (fun _ => T.b_draw) (da_cons (de_var 0) (da_cons de_int da_nil)))) (fun _ => sc_gaps.nd)) (dss_cons (ds_if (dpw_pt (dpw_and (dt_cmp do_gt (de_var 4) de_int) (dpw_and (dt_cmp do_eqF (de_ix (fun _ => rfl) (de_var 1) (de_op do_subI (de_var 4) de_int)) de_str) (dpw_and1 (dt_cmp do_eqF (de_var 5) de_str))))) (dss_one (ds_set 5 de_str (fun _ => sc_gaps.nd))) dss_nil) (dss_one (ds_set 2 (de_op do_add (de_var 2) (de_var 5)) (fun _ => sc_gaps.nd))))) dss_nil) (dss_cons (ds_expr (de_append (fun _ => rfl) (de_var 3) (da_cons (de_callB (dc_len fun _ => rfl) (fun _ => T.n_len) PyProof.Rows.Boot.«len» (da_cons (de_var 2) da_nil)) da_nil))) (dss_one (ds_set 2 (de_op do_add (de_var 2) (de_ix (fun _ => rfl) (de_var 1) (de_var 4))) (fun _ => sc_gaps.nd))))))) (dss_one (ds_ret (de_tup (da_cons (de_op do_add (de_var 2) (de_ix (fun _ => rfl) (de_lst (da_cons de_str (da_cons de_str (da_cons de_str da_nil)))) (de_callS (fun _ => (fo_draw T)) (fun i => (xb_room i).mono (by decide)) (fun i => xb_takes i) (fun _ => T.g_draw) (fun _ => T.F_draw.kp) (fun _ => T.b_draw) (da_cons (de_var 0) (da_cons de_int da_nil))))) (da_cons (de_var 3) da_nil))))))))
theorem ls_drs {d : Nat} {M M' : Mm} {td : D} {xs : List D} (h : DrS d M M') (n : td ≠ .ptr d) (e : lsOf M td = some xs) : lsOf M' td = some xs := by
  cases td with
  | ptr k =>
    rw [v_lsP] at e ⊢
    rw [h.at_ (fun z => n (by rw [z]))]
    exact e
  | lst ys => exact e
  | _ => cases e
def gp3 : List Str := ["", " ", "\n"]
theorem gp3_ok {s : Str} (h : s ∈ gp3) : allBlk s.cps.toList ∧ s.cps.toList.length ≤ 3 := by
  simp only [gp3, List.mem_cons, List.not_mem_nil, or_false] at h
  rcases h with rfl | rfl | rfl <;> exact ⟨by unfold allBlk; decide, by decide⟩
def gp6 : List Str := ["", " ", "  ", " \n ", "\n"]
theorem gp6_ok {s : Str} (h : s ∈ gp6) : allBlk s.cps.toList ∧ s.cps.toList.length ≤ 3 := by
  simp only [gp6, List.mem_cons, List.not_mem_nil, or_false] at h
  rcases h with rfl | rfl | rfl | rfl | rfl <;> exact ⟨by unfold allBlk; decide, by decide⟩
theorem lay_d (xs : Ly) (p : Nat) (g : List Nat) (t : Str) : (layP p (xs ++ [(g, t)])).map (fun n : Nat => D.int n) = (layP p xs).map (fun n : Nat => D.int n) ++ [.int ((p + (layT xs).length + g.length : Nat) : Int)] := by
  rw [layP_snoc, List.map_append]
  rfl
def GapI (M : Mm) (d : Nat) (td : D) (ts : List Str) (g0 : List Nat) (i : Nat) : NK := fun ρ M1 => ∃ (xs : Ly) (M' : Mm) (o4 o5 : Option D), xs.map (·.2) = ts.take i ∧ GapOk xs ∧ (∀ x, xs[0]? = some x → x.1 = []) ∧ DrS d M M' ∧ M1 = M' ++ [.lst ((layP g0.length xs).map fun n : Nat => .int n)] ∧
  ρ = [some (.ptr d), some td, some (.str (mkS (g0 ++ layT xs))), some (.ptr M.length), o4, o5]
/-- a token is put behind a gap -/
theorem u_gaps_9 {M M' : Mm} {De : Ds} {d k : Nat} {td : D} {ts : List Str} {g0 g : List Nat} {xs : Ly} {t : Str} {o5 : Option D} (hx : xs.map (·.2) = ts.take k) (ht : ts[k]? = some t) (hg : GapOk xs) (hz : ∀ x, xs[0]? = some x → x.1 = []) (hd : DrS d M M') (hlt : d < M.length) (lt : lsOf M' td = some (ts.map .str)) (nt : td ≠ .ptr d) (hl : ts.length ≤ 1000) (h12 : ∀ t ∈ ts, t.length ≤ 12) (h0 : g0.length ≤ 3)
    (hb : allBlk g) (l3 : g.length ≤ 3) (hs : ∀ x : List Nat × Str, xs[xs.length - 2]? = some x → 2 ≤ xs.length → x.2 = "@" → g ≠ []) (hk0 : k = 0 → g = [])
    (q : ∀ ρ M1, GapI M d td ts g0 (k + 1) ρ M1 → De.nx ρ M1) : w_gaps_9 K w ad De [some (.ptr d), some td, some (.str (mkS (g0 ++ layT xs ++ g))), some (.ptr M.length), some (.int k), o5] (M' ++ [.lst ((layP g0.length xs).map fun n : Nat => .int n)]) := by
  have hk : k < ts.length := (List.getElem?_eq_some_iff.mp ht).1
  have lx : xs.length = k := by
    have := congrArg List.length hx
    rw [List.length_map, List.length_take] at this
    omega
  have sh := lay_short hg (fun x hx' => h12 x.2 (by
    have : x.2 ∈ xs.map (·.2) := List.mem_map_of_mem hx'
    rw [hx] at this
    exact List.mem_of_mem_take this))
  have htl := h12 t (List.mem_of_getElem? ht)
  have hat : atI (ts.map D.str) (k : Int) = some (.str t) := by rw [v_map, at_nat ht]; rfl
  have sq : ∀ u : List D, sqOf (M' ++ [.lst u]) td = some (ts.map .str) := fun u => ls_sq (ls_app lt)
  have e1 : M'.length = M.length := hd.len
  have hM : ∀ u : List D, (M' ++ [MO.lst u])[M.length]? = some (.lst u) := fun u => by rw [← e1]; exact app_last
  have hS : ∀ u v : List D, (M' ++ [MO.lst u]).set M.length (.lst v) = M' ++ [.lst v] := fun u v => by rw [← e1]; exact v_lastS _ _ _
  unfold w_gaps_9
  simp only [dSeq, dIf, dAsg, dgName, dVar, dC, dOp, dNil, dCons, dTup, dTest, dAnd, dOr, dNot, dIfE, dAndV, dOrV, dNotV, dNext, dRet, dRetN, dDrop, dCall, dCallS, wLen, wI, wAdd, wAddI, wAddS, wAddL, wSub, wMod, wDiv, wPow, wLt, wLe, wGt, wGe, wMulB, wMulS, wEqF, wNeF, wIsN, wNotN, wInS, wNotInS, wIx, dNeg, dAug, dAppend, dLst, dLstM, dLstB, dSl, dPart, dNo, wCut, dBreak, dCont, dRaise, dMeth, dFld, wFld, dSetF, dAugF, dgTupF, dgTup, dgCons, dgNil, dgSet, dThen, dSo, dSoE, wIntC, dChain, dMake, wListC, wListM, dDisp, dPsCons, dPsNil, keysOf, DL.putAll, putD, valD, dUpC, inV, wDGet, wDIn, dDPut, dGet2, dPopAt, dJoin, wInL, dIsX, List.getElem?_cons_zero, List.getElem?_cons_succ, List.getElem?_nil, Option.some.injEq, D.int.injEq, D.str.injEq, D.bl.injEq, D.ptr.injEq, D.lst.injEq, D.tup.injEq, D.scr.injEq, D.xc.injEq, D.kr.injEq, D.ty.injEq, MO.lst.injEq, MO.ins.injEq, MO.dK.injEq, V.int.injEq, V.str.injEq, V.bl.injEq, List.cons.injEq, List.set_cons_zero, List.set_cons_succ, and_true, true_and, or_false, false_or, or_true, true_or, and_false, false_and, exists_false, exists_eq_left, exists_eq_left', exists_eq_right, exists_eq_right', exists_eq, exists_eq', exists_and_left, exists_and_right, exists_const, reduceCtorEq, decide_eq_true_eq, if_true, if_false, List.length_cons, List.length_nil, List.append_nil, List.nil_append, List.cons_append, v_scalI, v_scalS, v_scalB, v_scalN, v_decI, v_decS, v_decB, v_lsL, v_lsP, v_lsI, v_lsS, v_lsB, v_lsT, v_lsN, v_sqT, v_sqL, v_sqP, v_sqI, v_sqS, v_sqB, v_sqN, v_vI, v_vS, v_vB, v_vN, v_vT, v_vL, v_vP, v_sign, v_map, v_at0, v_at1, v_at2, v_at3, v_at4, v_at5, v_ofs, v_eqS, v_eqI, v_dkP, v_bdS, v_bdI, v_bdB, v_bdN, v_bdT, v_bdL, v_bdP, v_bdsN, v_bdsC, v_lastD, v_lastS, v_kyS, v_kyI, v_tt, v_ff, String.reduceEq, List.foldl_cons, List.foldl_nil, List.any_cons, List.any_nil, List.find?_cons, List.find?_nil, Sum.inr.injEq, Sum.inl.injEq, decide_true, decide_false, Bool.or_false, Bool.or_true, Bool.true_or, Bool.false_or, List.append_cancel_left_eq, Bool.false_eq_true, List.map_cons, List.map_nil, List.mapM_cons, List.mapM_nil, Option.pure_def, Option.bind_eq_bind, Option.bind_some, Option.bind_none, Nat.lt_irrefl, Option.map_some, Option.map_none, and_assoc, Nat.zero_add, Nat.reduceAdd, Nat.reduceLeDiff, Nat.le_refl, sizeLine_eq, and_self, forall_const, Bool.not_eq_true', Bool.not_true, Bool.not_false, decide_eq_false_iff_not, ite_not, w_gaps_10, hM, hS, sq, hat, mkS_len, List.length_append, List.length_map, layP_len, mkS_app]
  have : t.length = t.cps.toList.length := len_cps t
  refine ⟨by omega, by omega, .inl ⟨by omega, ?_⟩⟩
  refine q _ _ ⟨xs ++ [(g, t)], M', some (.int k), o5, ?_, hg.snoc hb l3 hs, ?_, hd, ?_, ?_⟩
  · rw [List.map_append, hx, List.take_add_one, ht]
    rfl
  · intro x hx'
    cases xs with
    | nil =>
      have ex : (g, t) = x := Option.some.inj hx'
      rw [← ex]
      exact hk0 (by rw [← lx]; rfl)
    | cons y ys => exact hz x hx'
  · rw [lay_d]
  · rw [layT_snoc]
    simp only [List.append_assoc]
theorem u_gaps_6 {De : Ds} {M : Mm} {d k i : Nat} {td : D} {ts : List Str} {z g : Str} (hz : z.length ≤ 1000000) (hg : g ∈ gp6) (lt : sqOf M td = some (ts.map .str)) (ns : ∀ z, (td = D.str z) = False) (hi : i < ts.length)
    (q : ∀ g' : Str, allBlk g'.cps.toList ∧ g'.cps.toList.length ≤ 3 → (2 ≤ i → ts[i - 2]? = some ("@" : Str) → g'.cps.toList ≠ []) → De.nx [some (.ptr d), some td, some (.str (z ++ g')), some (.ptr k), some (.int i), some (.str g')] M) :
    w_gaps_6 K w ad De [some (.ptr d), some td, some (.str z), some (.ptr k), some (.int i), some (.str g)] M := by
  have gk := gp6_ok hg
  have e8 : ∀ g' : Str, (allBlk g'.cps.toList ∧ g'.cps.toList.length ≤ 3) → (2 ≤ i → ts[i - 2]? = some ("@" : Str) → g'.cps.toList ≠ []) → w_gaps_8 K w ad De [some (D.ptr d), some td, some (D.str z), some (D.ptr k), some (D.int i), some (.str g')] M := fun g' hg'' hs => by
    have gl : g'.length = g'.cps.toList.length := len_cps g'
    unfold w_gaps_8
    simp only [dSeq, dIf, dAsg, dgName, dVar, dC, dOp, dNil, dCons, dTup, dTest, dAnd, dOr, dNot, dIfE, dAndV, dOrV, dNotV, dNext, dRet, dRetN, dDrop, dCall, dCallS, wLen, wI, wAdd, wAddI, wAddS, wAddL, wSub, wMod, wDiv, wPow, wLt, wLe, wGt, wGe, wMulB, wMulS, wEqF, wNeF, wIsN, wNotN, wInS, wNotInS, wIx, dNeg, dAug, dAppend, dLst, dLstM, dLstB, dSl, dPart, dNo, wCut, dBreak, dCont, dRaise, dMeth, dFld, wFld, dSetF, dAugF, dgTupF, dgTup, dgCons, dgNil, dgSet, dThen, dSo, dSoE, wIntC, dChain, dMake, wListC, wListM, dDisp, dPsCons, dPsNil, keysOf, DL.putAll, putD, valD, dUpC, inV, wDGet, wDIn, dDPut, dGet2, dPopAt, dJoin, wInL, dIsX, List.getElem?_cons_zero, List.getElem?_cons_succ, List.getElem?_nil, Option.some.injEq, D.int.injEq, D.str.injEq, D.bl.injEq, D.ptr.injEq, D.lst.injEq, D.tup.injEq, D.scr.injEq, D.xc.injEq, D.kr.injEq, D.ty.injEq, MO.lst.injEq, MO.ins.injEq, MO.dK.injEq, V.int.injEq, V.str.injEq, V.bl.injEq, List.cons.injEq, List.set_cons_zero, List.set_cons_succ, and_true, true_and, or_false, false_or, or_true, true_or, and_false, false_and, exists_false, exists_eq_left, exists_eq_left', exists_eq_right, exists_eq_right', exists_eq, exists_eq', exists_and_left, exists_and_right, exists_const, reduceCtorEq, decide_eq_true_eq, if_true, if_false, List.length_cons, List.length_nil, List.append_nil, List.nil_append, List.cons_append, v_scalI, v_scalS, v_scalB, v_scalN, v_decI, v_decS, v_decB, v_lsL, v_lsP, v_lsI, v_lsS, v_lsB, v_lsT, v_lsN, v_sqT, v_sqL, v_sqP, v_sqI, v_sqS, v_sqB, v_sqN, v_vI, v_vS, v_vB, v_vN, v_vT, v_vL, v_vP, v_sign, v_map, v_at0, v_at1, v_at2, v_at3, v_at4, v_at5, v_ofs, v_eqS, v_eqI, v_dkP, v_bdS, v_bdI, v_bdB, v_bdN, v_bdT, v_bdL, v_bdP, v_bdsN, v_bdsC, v_lastD, v_lastS, v_kyS, v_kyI, v_tt, v_ff, String.reduceEq, List.foldl_cons, List.foldl_nil, List.any_cons, List.any_nil, List.find?_cons, List.find?_nil, Sum.inr.injEq, Sum.inl.injEq, decide_true, decide_false, Bool.or_false, Bool.or_true, Bool.true_or, Bool.false_or, List.append_cancel_left_eq, Bool.false_eq_true, List.map_cons, List.map_nil, List.mapM_cons, List.mapM_nil, Option.pure_def, Option.bind_eq_bind, Option.bind_some, Option.bind_none, Nat.lt_irrefl, Option.map_some, Option.map_none, and_assoc, Nat.zero_add, Nat.reduceAdd, Nat.reduceLeDiff, Nat.le_refl, sizeLine_eq, and_self, forall_const, Bool.not_eq_true', Bool.not_true, Bool.not_false, decide_eq_false_iff_not, ite_not]
    exact ⟨by omega, q g' hg'' hs⟩
  unfold w_gaps_6
  by_cases h2 : 2 ≤ i
  · have hi' : i - 2 < ts.length := by omega
    have ei : ts[i - 2]? = some ts[i - 2] := List.getElem?_eq_getElem hi'
    have pv : atI (ts.map D.str) ((i : Int) - 2) = some (.str ts[i - 2]) := by
      rw [show (i : Int) - 2 = ((i - 2 : Nat) : Int) by omega, v_map, at_nat ei]
      rfl
    simp only [dSeq, dIf, dAsg, dgName, dVar, dC, dOp, dNil, dCons, dTup, dTest, dAnd, dOr, dNot, dIfE, dAndV, dOrV, dNotV, dNext, dRet, dRetN, dDrop, dCall, dCallS, wLen, wI, wAdd, wAddI, wAddS, wAddL, wSub, wMod, wDiv, wPow, wLt, wLe, wGt, wGe, wMulB, wMulS, wEqF, wNeF, wIsN, wNotN, wInS, wNotInS, wIx, dNeg, dAug, dAppend, dLst, dLstM, dLstB, dSl, dPart, dNo, wCut, dBreak, dCont, dRaise, dMeth, dFld, wFld, dSetF, dAugF, dgTupF, dgTup, dgCons, dgNil, dgSet, dThen, dSo, dSoE, wIntC, dChain, dMake, wListC, wListM, dDisp, dPsCons, dPsNil, keysOf, DL.putAll, putD, valD, dUpC, inV, wDGet, wDIn, dDPut, dGet2, dPopAt, dJoin, wInL, dIsX, List.getElem?_cons_zero, List.getElem?_cons_succ, List.getElem?_nil, Option.some.injEq, D.int.injEq, D.str.injEq, D.bl.injEq, D.ptr.injEq, D.lst.injEq, D.tup.injEq, D.scr.injEq, D.xc.injEq, D.kr.injEq, D.ty.injEq, MO.lst.injEq, MO.ins.injEq, MO.dK.injEq, V.int.injEq, V.str.injEq, V.bl.injEq, List.cons.injEq, List.set_cons_zero, List.set_cons_succ, and_true, true_and, or_false, false_or, or_true, true_or, and_false, false_and, exists_false, exists_eq_left, exists_eq_left', exists_eq_right, exists_eq_right', exists_eq, exists_eq', exists_and_left, exists_and_right, exists_const, reduceCtorEq, decide_eq_true_eq, if_true, if_false, List.length_cons, List.length_nil, List.append_nil, List.nil_append, List.cons_append, v_scalI, v_scalS, v_scalB, v_scalN, v_decI, v_decS, v_decB, v_lsL, v_lsP, v_lsI, v_lsS, v_lsB, v_lsT, v_lsN, v_sqT, v_sqL, v_sqP, v_sqI, v_sqS, v_sqB, v_sqN, v_vI, v_vS, v_vB, v_vN, v_vT, v_vL, v_vP, v_sign, v_map, v_at0, v_at1, v_at2, v_at3, v_at4, v_at5, v_ofs, v_eqS, v_eqI, v_dkP, v_bdS, v_bdI, v_bdB, v_bdN, v_bdT, v_bdL, v_bdP, v_bdsN, v_bdsC, v_lastD, v_lastS, v_kyS, v_kyI, v_tt, v_ff, String.reduceEq, List.foldl_cons, List.foldl_nil, List.any_cons, List.any_nil, List.find?_cons, List.find?_nil, Sum.inr.injEq, Sum.inl.injEq, decide_true, decide_false, Bool.or_false, Bool.or_true, Bool.true_or, Bool.false_or, List.append_cancel_left_eq, Bool.false_eq_true, List.map_cons, List.map_nil, List.mapM_cons, List.mapM_nil, Option.pure_def, Option.bind_eq_bind, Option.bind_some, Option.bind_none, Nat.lt_irrefl, Option.map_some, Option.map_none, and_assoc, Nat.zero_add, Nat.reduceAdd, Nat.reduceLeDiff, Nat.le_refl, sizeLine_eq, and_self, forall_const, Bool.not_eq_true', Bool.not_true, Bool.not_false, decide_eq_false_iff_not, ite_not, lt, pv, w_gaps_7, ns]
    have h1i : (1 : Int) < i := by omega
    simp only [h1i, if_true]
    split
    · rename_i ea
      split
      · exact e8 " " ⟨by unfold allBlk; decide, by decide⟩ (fun _ _ => by decide)
      · rename_i en
        exact e8 g gk fun _ _ z => en (by rw [← mkS_of g, z]; rfl)
    · rename_i ea
      exact e8 g gk (fun _ z => absurd (by rw [ei] at z; exact Option.some.inj z) ea)
  · simp only [dSeq, dIf, dAsg, dgName, dVar, dC, dOp, dNil, dCons, dTup, dTest, dAnd, dOr, dNot, dIfE, dAndV, dOrV, dNotV, dNext, dRet, dRetN, dDrop, dCall, dCallS, wLen, wI, wAdd, wAddI, wAddS, wAddL, wSub, wMod, wDiv, wPow, wLt, wLe, wGt, wGe, wMulB, wMulS, wEqF, wNeF, wIsN, wNotN, wInS, wNotInS, wIx, dNeg, dAug, dAppend, dLst, dLstM, dLstB, dSl, dPart, dNo, wCut, dBreak, dCont, dRaise, dMeth, dFld, wFld, dSetF, dAugF, dgTupF, dgTup, dgCons, dgNil, dgSet, dThen, dSo, dSoE, wIntC, dChain, dMake, wListC, wListM, dDisp, dPsCons, dPsNil, keysOf, DL.putAll, putD, valD, dUpC, inV, wDGet, wDIn, dDPut, dGet2, dPopAt, dJoin, wInL, dIsX, List.getElem?_cons_zero, List.getElem?_cons_succ, List.getElem?_nil, Option.some.injEq, D.int.injEq, D.str.injEq, D.bl.injEq, D.ptr.injEq, D.lst.injEq, D.tup.injEq, D.scr.injEq, D.xc.injEq, D.kr.injEq, D.ty.injEq, MO.lst.injEq, MO.ins.injEq, MO.dK.injEq, V.int.injEq, V.str.injEq, V.bl.injEq, List.cons.injEq, List.set_cons_zero, List.set_cons_succ, and_true, true_and, or_false, false_or, or_true, true_or, and_false, false_and, exists_false, exists_eq_left, exists_eq_left', exists_eq_right, exists_eq_right', exists_eq, exists_eq', exists_and_left, exists_and_right, exists_const, reduceCtorEq, decide_eq_true_eq, if_true, if_false, List.length_cons, List.length_nil, List.append_nil, List.nil_append, List.cons_append, v_scalI, v_scalS, v_scalB, v_scalN, v_decI, v_decS, v_decB, v_lsL, v_lsP, v_lsI, v_lsS, v_lsB, v_lsT, v_lsN, v_sqT, v_sqL, v_sqP, v_sqI, v_sqS, v_sqB, v_sqN, v_vI, v_vS, v_vB, v_vN, v_vT, v_vL, v_vP, v_sign, v_map, v_at0, v_at1, v_at2, v_at3, v_at4, v_at5, v_ofs, v_eqS, v_eqI, v_dkP, v_bdS, v_bdI, v_bdB, v_bdN, v_bdT, v_bdL, v_bdP, v_bdsN, v_bdsC, v_lastD, v_lastS, v_kyS, v_kyI, v_tt, v_ff, String.reduceEq, List.foldl_cons, List.foldl_nil, List.any_cons, List.any_nil, List.find?_cons, List.find?_nil, Sum.inr.injEq, Sum.inl.injEq, decide_true, decide_false, Bool.or_false, Bool.or_true, Bool.true_or, Bool.false_or, List.append_cancel_left_eq, Bool.false_eq_true, List.map_cons, List.map_nil, List.mapM_cons, List.mapM_nil, Option.pure_def, Option.bind_eq_bind, Option.bind_some, Option.bind_none, Nat.lt_irrefl, Option.map_some, Option.map_none, and_assoc, Nat.zero_add, Nat.reduceAdd, Nat.reduceLeDiff, Nat.le_refl, sizeLine_eq, and_self, forall_const, Bool.not_eq_true', Bool.not_true, Bool.not_false, decide_eq_false_iff_not, ite_not]
    have h1i : ¬ (1 : Int) < i := by omega
    simp only [h1i, if_false]
    exact e8 g gk (fun z => absurd z h2)
theorem lay_sh {g0 : List Nat} {xs : Ly} {ts : List Str} {i : Nat} (l0 : g0.length ≤ 3) (hg : GapOk xs) (hx : xs.map (·.2) = ts.take i) (hl : ts.length ≤ 1000) (h12 : ∀ t ∈ ts, t.length ≤ 12) : (g0 ++ layT xs).length ≤ 100000 := by
  have := lay_short hg (fun x hx' => h12 x.2 (by
    have : x.2 ∈ xs.map (·.2) := List.mem_map_of_mem hx'
    rw [hx] at this
    exact List.mem_of_mem_take this))
  have lx := congrArg List.length hx
  rw [List.length_map, List.length_take] at lx
  rw [List.length_append]
  omega
theorem u_gaps_4 {M M' : Mm} {De : Ds} {d i : Nat} {td : D} {ts : List Str} {g0 : List Nat} {xs : Ly} {o5 : Option D} (hx : xs.map (·.2) = ts.take i) (hi : i < ts.length) (hg : GapOk xs) (hz : ∀ x, xs[0]? = some x → x.1 = []) (hd : DrS d M M') (hlt : d < M.length) (lt : lsOf M td = some (ts.map .str)) (nt : td ≠ .ptr d) (hl : ts.length ≤ 1000) (h12 : ∀ t ∈ ts, t.length ≤ 12) (h0 : g0.length ≤ 3)
    (q : ∀ ρ M1, GapI M d td ts g0 (i + 1) ρ M1 → De.nx ρ M1) : w_gaps_4 K w ad De [some (.ptr d), some td, some (.str (mkS (g0 ++ layT xs))), some (.ptr M.length), some (.int i), o5] (M' ++ [.lst ((layP g0.length xs).map fun n : Nat => .int n)]) := by
  have ns : ∀ z, (td = D.str z) = False := fun z => eq_false fun e => by rw [e] at lt; cases lt
  have ht : ts[i]? = some ts[i] := List.getElem?_eq_getElem hi
  have lx : xs.length = i := by
    have := congrArg List.length hx
    rw [List.length_map, List.length_take] at this
    omega
  unfold w_gaps_4
  simp only [dSeq, dIf, dAsg, dgName, dVar, dC, dOp, dNil, dCons, dTup, dTest, dAnd, dOr, dNot, dIfE, dAndV, dOrV, dNotV, dNext, dRet, dRetN, dDrop, dCall, dCallS, wLen, wI, wAdd, wAddI, wAddS, wAddL, wSub, wMod, wDiv, wPow, wLt, wLe, wGt, wGe, wMulB, wMulS, wEqF, wNeF, wIsN, wNotN, wInS, wNotInS, wIx, dNeg, dAug, dAppend, dLst, dLstM, dLstB, dSl, dPart, dNo, wCut, dBreak, dCont, dRaise, dMeth, dFld, wFld, dSetF, dAugF, dgTupF, dgTup, dgCons, dgNil, dgSet, dThen, dSo, dSoE, wIntC, dChain, dMake, wListC, wListM, dDisp, dPsCons, dPsNil, keysOf, DL.putAll, putD, valD, dUpC, inV, wDGet, wDIn, dDPut, dGet2, dPopAt, dJoin, wInL, dIsX, List.getElem?_cons_zero, List.getElem?_cons_succ, List.getElem?_nil, Option.some.injEq, D.int.injEq, D.str.injEq, D.bl.injEq, D.ptr.injEq, D.lst.injEq, D.tup.injEq, D.scr.injEq, D.xc.injEq, D.kr.injEq, D.ty.injEq, MO.lst.injEq, MO.ins.injEq, MO.dK.injEq, V.int.injEq, V.str.injEq, V.bl.injEq, List.cons.injEq, List.set_cons_zero, List.set_cons_succ, and_true, true_and, or_false, false_or, or_true, true_or, and_false, false_and, exists_false, exists_eq_left, exists_eq_left', exists_eq_right, exists_eq_right', exists_eq, exists_eq', exists_and_left, exists_and_right, exists_const, reduceCtorEq, decide_eq_true_eq, if_true, if_false, List.length_cons, List.length_nil, List.append_nil, List.nil_append, List.cons_append, v_scalI, v_scalS, v_scalB, v_scalN, v_decI, v_decS, v_decB, v_lsL, v_lsP, v_lsI, v_lsS, v_lsB, v_lsT, v_lsN, v_sqT, v_sqL, v_sqP, v_sqI, v_sqS, v_sqB, v_sqN, v_vI, v_vS, v_vB, v_vN, v_vT, v_vL, v_vP, v_sign, v_map, v_at0, v_at1, v_at2, v_at3, v_at4, v_at5, v_ofs, v_eqS, v_eqI, v_dkP, v_bdS, v_bdI, v_bdB, v_bdN, v_bdT, v_bdL, v_bdP, v_bdsN, v_bdsC, v_lastD, v_lastS, v_kyS, v_kyI, v_tt, v_ff, String.reduceEq, List.foldl_cons, List.foldl_nil, List.any_cons, List.any_nil, List.find?_cons, List.find?_nil, Sum.inr.injEq, Sum.inl.injEq, decide_true, decide_false, Bool.or_false, Bool.or_true, Bool.true_or, Bool.false_or, List.append_cancel_left_eq, Bool.false_eq_true, List.map_cons, List.map_nil, List.mapM_cons, List.mapM_nil, Option.pure_def, Option.bind_eq_bind, Option.bind_some, Option.bind_none, Nat.lt_irrefl, Option.map_some, Option.map_none, and_assoc, Nat.zero_add, Nat.reduceAdd, Nat.reduceLeDiff, Nat.le_refl, sizeLine_eq, and_self, forall_const, Bool.not_eq_true', Bool.not_true, Bool.not_false, decide_eq_false_iff_not, ite_not]
  split
  · rename_i hi0
    unfold w_gaps_5
    simp only [dSeq, dIf, dAsg, dgName, dVar, dC, dOp, dNil, dCons, dTup, dTest, dAnd, dOr, dNot, dIfE, dAndV, dOrV, dNotV, dNext, dRet, dRetN, dDrop, dCall, dCallS, wLen, wI, wAdd, wAddI, wAddS, wAddL, wSub, wMod, wDiv, wPow, wLt, wLe, wGt, wGe, wMulB, wMulS, wEqF, wNeF, wIsN, wNotN, wInS, wNotInS, wIx, dNeg, dAug, dAppend, dLst, dLstM, dLstB, dSl, dPart, dNo, wCut, dBreak, dCont, dRaise, dMeth, dFld, wFld, dSetF, dAugF, dgTupF, dgTup, dgCons, dgNil, dgSet, dThen, dSo, dSoE, wIntC, dChain, dMake, wListC, wListM, dDisp, dPsCons, dPsNil, keysOf, DL.putAll, putD, valD, dUpC, inV, wDGet, wDIn, dDPut, dGet2, dPopAt, dJoin, wInL, dIsX, List.getElem?_cons_zero, List.getElem?_cons_succ, List.getElem?_nil, Option.some.injEq, D.int.injEq, D.str.injEq, D.bl.injEq, D.ptr.injEq, D.lst.injEq, D.tup.injEq, D.scr.injEq, D.xc.injEq, D.kr.injEq, D.ty.injEq, MO.lst.injEq, MO.ins.injEq, MO.dK.injEq, V.int.injEq, V.str.injEq, V.bl.injEq, List.cons.injEq, List.set_cons_zero, List.set_cons_succ, and_true, true_and, or_false, false_or, or_true, true_or, and_false, false_and, exists_false, exists_eq_left, exists_eq_left', exists_eq_right, exists_eq_right', exists_eq, exists_eq', exists_and_left, exists_and_right, exists_const, reduceCtorEq, decide_eq_true_eq, if_true, if_false, List.length_cons, List.length_nil, List.append_nil, List.nil_append, List.cons_append, v_scalI, v_scalS, v_scalB, v_scalN, v_decI, v_decS, v_decB, v_lsL, v_lsP, v_lsI, v_lsS, v_lsB, v_lsT, v_lsN, v_sqT, v_sqL, v_sqP, v_sqI, v_sqS, v_sqB, v_sqN, v_vI, v_vS, v_vB, v_vN, v_vT, v_vL, v_vP, v_sign, v_map, v_at0, v_at1, v_at2, v_at3, v_at4, v_at5, v_ofs, v_eqS, v_eqI, v_dkP, v_bdS, v_bdI, v_bdB, v_bdN, v_bdT, v_bdL, v_bdP, v_bdsN, v_bdsC, v_lastD, v_lastS, v_kyS, v_kyI, v_tt, v_ff, String.reduceEq, List.foldl_cons, List.foldl_nil, List.any_cons, List.any_nil, List.find?_cons, List.find?_nil, Sum.inr.injEq, Sum.inl.injEq, decide_true, decide_false, Bool.or_false, Bool.or_true, Bool.true_or, Bool.false_or, List.append_cancel_left_eq, Bool.false_eq_true, List.map_cons, List.map_nil, List.mapM_cons, List.mapM_nil, Option.pure_def, Option.bind_eq_bind, Option.bind_some, Option.bind_none, Nat.lt_irrefl, Option.map_some, Option.map_none, and_assoc, Nat.zero_add, Nat.reduceAdd, Nat.reduceLeDiff, Nat.le_refl, sizeLine_eq, and_self, forall_const, Bool.not_eq_true', Bool.not_true, Bool.not_false, decide_eq_false_iff_not, ite_not]
    refine r_dr1 (hd.1.app _) (by omega) (by omega) fun u M3 u0 u1 d3 => ?_
    obtain ⟨M'', rfl, d4⟩ := d3.app (by rw [hd.len]; exact hlt)
    have d4 := hd.trans d4
    have lt'' := ls_drs d4 nt lt
    have sh := lay_sh h0 hg hx hl h12
    have px : ∀ x : List Nat × Str, xs[xs.length - 2]? = some x → 2 ≤ xs.length → ts[i - 2]? = some x.2 := fun x h1 h2 => by
      have : (xs.map (·.2))[xs.length - 2]? = some x.2 := by rw [List.getElem?_map, h1]; rfl
      rw [hx, lx, List.getElem?_take, if_pos (by omega)] at this
      exact this
    have six : ∀ g : Str, g ∈ gp6 → w_gaps_6 K w ad { nx := fun ρ' M' => w_gaps_9 K w ad De ρ' M', rt := De.rt, ex := De.ex, bk := De.bk, ct := De.ct } [some (D.ptr d), some td, some (D.str (mkS (g0 ++ layT xs))), some (D.ptr M.length), some (D.int i), some (.str g)] (M'' ++ [MO.lst ((layP g0.length xs).map fun n : Nat => D.int n)]) := fun g hg' => by
      refine u_gaps_6 (by rw [mkS_len]; omega) hg' (ls_sq (ls_app lt'')) ns hi fun g' hb hs => ?_
      rw [mkS_app]
      exact u_gaps_9 hx ht hg hz d4 hlt lt'' nt hl h12 h0 hb.1 hb.2 (fun x h1 h2 h3 => hs (by omega) (by rw [px x h1 h2, h3])) (fun e => by omega) q
    rcases (show u = 0 ∨ u = 1 ∨ u = 2 ∨ u = 3 ∨ u = 4 ∨ u = 5 by omega) with rfl | rfl | rfl | rfl | rfl | rfl
    · simp only [dSeq, dIf, dAsg, dgName, dVar, dC, dOp, dNil, dCons, dTup, dTest, dAnd, dOr, dNot, dIfE, dAndV, dOrV, dNotV, dNext, dRet, dRetN, dDrop, dCall, dCallS, wLen, wI, wAdd, wAddI, wAddS, wAddL, wSub, wMod, wDiv, wPow, wLt, wLe, wGt, wGe, wMulB, wMulS, wEqF, wNeF, wIsN, wNotN, wInS, wNotInS, wIx, dNeg, dAug, dAppend, dLst, dLstM, dLstB, dSl, dPart, dNo, wCut, dBreak, dCont, dRaise, dMeth, dFld, wFld, dSetF, dAugF, dgTupF, dgTup, dgCons, dgNil, dgSet, dThen, dSo, dSoE, wIntC, dChain, dMake, wListC, wListM, dDisp, dPsCons, dPsNil, keysOf, DL.putAll, putD, valD, dUpC, inV, wDGet, wDIn, dDPut, dGet2, dPopAt, dJoin, wInL, dIsX, List.getElem?_cons_zero, List.getElem?_cons_succ, List.getElem?_nil, Option.some.injEq, D.int.injEq, D.str.injEq, D.bl.injEq, D.ptr.injEq, D.lst.injEq, D.tup.injEq, D.scr.injEq, D.xc.injEq, D.kr.injEq, D.ty.injEq, MO.lst.injEq, MO.ins.injEq, MO.dK.injEq, V.int.injEq, V.str.injEq, V.bl.injEq, List.cons.injEq, List.set_cons_zero, List.set_cons_succ, and_true, true_and, or_false, false_or, or_true, true_or, and_false, false_and, exists_false, exists_eq_left, exists_eq_left', exists_eq_right, exists_eq_right', exists_eq, exists_eq', exists_and_left, exists_and_right, exists_const, reduceCtorEq, decide_eq_true_eq, if_true, if_false, List.length_cons, List.length_nil, List.append_nil, List.nil_append, List.cons_append, v_scalI, v_scalS, v_scalB, v_scalN, v_decI, v_decS, v_decB, v_lsL, v_lsP, v_lsI, v_lsS, v_lsB, v_lsT, v_lsN, v_sqT, v_sqL, v_sqP, v_sqI, v_sqS, v_sqB, v_sqN, v_vI, v_vS, v_vB, v_vN, v_vT, v_vL, v_vP, v_sign, v_map, v_at0, v_at1, v_at2, v_at3, v_at4, v_at5, v_ofs, v_eqS, v_eqI, v_dkP, v_bdS, v_bdI, v_bdB, v_bdN, v_bdT, v_bdL, v_bdP, v_bdsN, v_bdsC, v_lastD, v_lastS, v_kyS, v_kyI, v_tt, v_ff, String.reduceEq, List.foldl_cons, List.foldl_nil, List.any_cons, List.any_nil, List.find?_cons, List.find?_nil, Sum.inr.injEq, Sum.inl.injEq, decide_true, decide_false, Bool.or_false, Bool.or_true, Bool.true_or, Bool.false_or, List.append_cancel_left_eq, Bool.false_eq_true, List.map_cons, List.map_nil, List.mapM_cons, List.mapM_nil, Option.pure_def, Option.bind_eq_bind, Option.bind_some, Option.bind_none, Nat.lt_irrefl, Option.map_some, Option.map_none, and_assoc, Nat.zero_add, Nat.reduceAdd, Nat.reduceLeDiff, Nat.le_refl, sizeLine_eq, and_self, forall_const, Bool.not_eq_true', Bool.not_true, Bool.not_false, decide_eq_false_iff_not, ite_not]
      exact six _ (by simp [gp6])
    · simp only [dSeq, dIf, dAsg, dgName, dVar, dC, dOp, dNil, dCons, dTup, dTest, dAnd, dOr, dNot, dIfE, dAndV, dOrV, dNotV, dNext, dRet, dRetN, dDrop, dCall, dCallS, wLen, wI, wAdd, wAddI, wAddS, wAddL, wSub, wMod, wDiv, wPow, wLt, wLe, wGt, wGe, wMulB, wMulS, wEqF, wNeF, wIsN, wNotN, wInS, wNotInS, wIx, dNeg, dAug, dAppend, dLst, dLstM, dLstB, dSl, dPart, dNo, wCut, dBreak, dCont, dRaise, dMeth, dFld, wFld, dSetF, dAugF, dgTupF, dgTup, dgCons, dgNil, dgSet, dThen, dSo, dSoE, wIntC, dChain, dMake, wListC, wListM, dDisp, dPsCons, dPsNil, keysOf, DL.putAll, putD, valD, dUpC, inV, wDGet, wDIn, dDPut, dGet2, dPopAt, dJoin, wInL, dIsX, List.getElem?_cons_zero, List.getElem?_cons_succ, List.getElem?_nil, Option.some.injEq, D.int.injEq, D.str.injEq, D.bl.injEq, D.ptr.injEq, D.lst.injEq, D.tup.injEq, D.scr.injEq, D.xc.injEq, D.kr.injEq, D.ty.injEq, MO.lst.injEq, MO.ins.injEq, MO.dK.injEq, V.int.injEq, V.str.injEq, V.bl.injEq, List.cons.injEq, List.set_cons_zero, List.set_cons_succ, and_true, true_and, or_false, false_or, or_true, true_or, and_false, false_and, exists_false, exists_eq_left, exists_eq_left', exists_eq_right, exists_eq_right', exists_eq, exists_eq', exists_and_left, exists_and_right, exists_const, reduceCtorEq, decide_eq_true_eq, if_true, if_false, List.length_cons, List.length_nil, List.append_nil, List.nil_append, List.cons_append, v_scalI, v_scalS, v_scalB, v_scalN, v_decI, v_decS, v_decB, v_lsL, v_lsP, v_lsI, v_lsS, v_lsB, v_lsT, v_lsN, v_sqT, v_sqL, v_sqP, v_sqI, v_sqS, v_sqB, v_sqN, v_vI, v_vS, v_vB, v_vN, v_vT, v_vL, v_vP, v_sign, v_map, v_at0, v_at1, v_at2, v_at3, v_at4, v_at5, v_ofs, v_eqS, v_eqI, v_dkP, v_bdS, v_bdI, v_bdB, v_bdN, v_bdT, v_bdL, v_bdP, v_bdsN, v_bdsC, v_lastD, v_lastS, v_kyS, v_kyI, v_tt, v_ff, String.reduceEq, List.foldl_cons, List.foldl_nil, List.any_cons, List.any_nil, List.find?_cons, List.find?_nil, Sum.inr.injEq, Sum.inl.injEq, decide_true, decide_false, Bool.or_false, Bool.or_true, Bool.true_or, Bool.false_or, List.append_cancel_left_eq, Bool.false_eq_true, List.map_cons, List.map_nil, List.mapM_cons, List.mapM_nil, Option.pure_def, Option.bind_eq_bind, Option.bind_some, Option.bind_none, Nat.lt_irrefl, Option.map_some, Option.map_none, and_assoc, Nat.zero_add, Nat.reduceAdd, Nat.reduceLeDiff, Nat.le_refl, sizeLine_eq, and_self, forall_const, Bool.not_eq_true', Bool.not_true, Bool.not_false, decide_eq_false_iff_not, ite_not]
      exact six _ (by simp [gp6])
    · simp only [dSeq, dIf, dAsg, dgName, dVar, dC, dOp, dNil, dCons, dTup, dTest, dAnd, dOr, dNot, dIfE, dAndV, dOrV, dNotV, dNext, dRet, dRetN, dDrop, dCall, dCallS, wLen, wI, wAdd, wAddI, wAddS, wAddL, wSub, wMod, wDiv, wPow, wLt, wLe, wGt, wGe, wMulB, wMulS, wEqF, wNeF, wIsN, wNotN, wInS, wNotInS, wIx, dNeg, dAug, dAppend, dLst, dLstM, dLstB, dSl, dPart, dNo, wCut, dBreak, dCont, dRaise, dMeth, dFld, wFld, dSetF, dAugF, dgTupF, dgTup, dgCons, dgNil, dgSet, dThen, dSo, dSoE, wIntC, dChain, dMake, wListC, wListM, dDisp, dPsCons, dPsNil, keysOf, DL.putAll, putD, valD, dUpC, inV, wDGet, wDIn, dDPut, dGet2, dPopAt, dJoin, wInL, dIsX, List.getElem?_cons_zero, List.getElem?_cons_succ, List.getElem?_nil, Option.some.injEq, D.int.injEq, D.str.injEq, D.bl.injEq, D.ptr.injEq, D.lst.injEq, D.tup.injEq, D.scr.injEq, D.xc.injEq, D.kr.injEq, D.ty.injEq, MO.lst.injEq, MO.ins.injEq, MO.dK.injEq, V.int.injEq, V.str.injEq, V.bl.injEq, List.cons.injEq, List.set_cons_zero, List.set_cons_succ, and_true, true_and, or_false, false_or, or_true, true_or, and_false, false_and, exists_false, exists_eq_left, exists_eq_left', exists_eq_right, exists_eq_right', exists_eq, exists_eq', exists_and_left, exists_and_right, exists_const, reduceCtorEq, decide_eq_true_eq, if_true, if_false, List.length_cons, List.length_nil, List.append_nil, List.nil_append, List.cons_append, v_scalI, v_scalS, v_scalB, v_scalN, v_decI, v_decS, v_decB, v_lsL, v_lsP, v_lsI, v_lsS, v_lsB, v_lsT, v_lsN, v_sqT, v_sqL, v_sqP, v_sqI, v_sqS, v_sqB, v_sqN, v_vI, v_vS, v_vB, v_vN, v_vT, v_vL, v_vP, v_sign, v_map, v_at0, v_at1, v_at2, v_at3, v_at4, v_at5, v_ofs, v_eqS, v_eqI, v_dkP, v_bdS, v_bdI, v_bdB, v_bdN, v_bdT, v_bdL, v_bdP, v_bdsN, v_bdsC, v_lastD, v_lastS, v_kyS, v_kyI, v_tt, v_ff, String.reduceEq, List.foldl_cons, List.foldl_nil, List.any_cons, List.any_nil, List.find?_cons, List.find?_nil, Sum.inr.injEq, Sum.inl.injEq, decide_true, decide_false, Bool.or_false, Bool.or_true, Bool.true_or, Bool.false_or, List.append_cancel_left_eq, Bool.false_eq_true, List.map_cons, List.map_nil, List.mapM_cons, List.mapM_nil, Option.pure_def, Option.bind_eq_bind, Option.bind_some, Option.bind_none, Nat.lt_irrefl, Option.map_some, Option.map_none, and_assoc, Nat.zero_add, Nat.reduceAdd, Nat.reduceLeDiff, Nat.le_refl, sizeLine_eq, and_self, forall_const, Bool.not_eq_true', Bool.not_true, Bool.not_false, decide_eq_false_iff_not, ite_not]
      exact six _ (by simp [gp6])
    · simp only [dSeq, dIf, dAsg, dgName, dVar, dC, dOp, dNil, dCons, dTup, dTest, dAnd, dOr, dNot, dIfE, dAndV, dOrV, dNotV, dNext, dRet, dRetN, dDrop, dCall, dCallS, wLen, wI, wAdd, wAddI, wAddS, wAddL, wSub, wMod, wDiv, wPow, wLt, wLe, wGt, wGe, wMulB, wMulS, wEqF, wNeF, wIsN, wNotN, wInS, wNotInS, wIx, dNeg, dAug, dAppend, dLst, dLstM, dLstB, dSl, dPart, dNo, wCut, dBreak, dCont, dRaise, dMeth, dFld, wFld, dSetF, dAugF, dgTupF, dgTup, dgCons, dgNil, dgSet, dThen, dSo, dSoE, wIntC, dChain, dMake, wListC, wListM, dDisp, dPsCons, dPsNil, keysOf, DL.putAll, putD, valD, dUpC, inV, wDGet, wDIn, dDPut, dGet2, dPopAt, dJoin, wInL, dIsX, List.getElem?_cons_zero, List.getElem?_cons_succ, List.getElem?_nil, Option.some.injEq, D.int.injEq, D.str.injEq, D.bl.injEq, D.ptr.injEq, D.lst.injEq, D.tup.injEq, D.scr.injEq, D.xc.injEq, D.kr.injEq, D.ty.injEq, MO.lst.injEq, MO.ins.injEq, MO.dK.injEq, V.int.injEq, V.str.injEq, V.bl.injEq, List.cons.injEq, List.set_cons_zero, List.set_cons_succ, and_true, true_and, or_false, false_or, or_true, true_or, and_false, false_and, exists_false, exists_eq_left, exists_eq_left', exists_eq_right, exists_eq_right', exists_eq, exists_eq', exists_and_left, exists_and_right, exists_const, reduceCtorEq, decide_eq_true_eq, if_true, if_false, List.length_cons, List.length_nil, List.append_nil, List.nil_append, List.cons_append, v_scalI, v_scalS, v_scalB, v_scalN, v_decI, v_decS, v_decB, v_lsL, v_lsP, v_lsI, v_lsS, v_lsB, v_lsT, v_lsN, v_sqT, v_sqL, v_sqP, v_sqI, v_sqS, v_sqB, v_sqN, v_vI, v_vS, v_vB, v_vN, v_vT, v_vL, v_vP, v_sign, v_map, v_at0, v_at1, v_at2, v_at3, v_at4, v_at5, v_ofs, v_eqS, v_eqI, v_dkP, v_bdS, v_bdI, v_bdB, v_bdN, v_bdT, v_bdL, v_bdP, v_bdsN, v_bdsC, v_lastD, v_lastS, v_kyS, v_kyI, v_tt, v_ff, String.reduceEq, List.foldl_cons, List.foldl_nil, List.any_cons, List.any_nil, List.find?_cons, List.find?_nil, Sum.inr.injEq, Sum.inl.injEq, decide_true, decide_false, Bool.or_false, Bool.or_true, Bool.true_or, Bool.false_or, List.append_cancel_left_eq, Bool.false_eq_true, List.map_cons, List.map_nil, List.mapM_cons, List.mapM_nil, Option.pure_def, Option.bind_eq_bind, Option.bind_some, Option.bind_none, Nat.lt_irrefl, Option.map_some, Option.map_none, and_assoc, Nat.zero_add, Nat.reduceAdd, Nat.reduceLeDiff, Nat.le_refl, sizeLine_eq, and_self, forall_const, Bool.not_eq_true', Bool.not_true, Bool.not_false, decide_eq_false_iff_not, ite_not]
      exact six _ (by simp [gp6])
    · simp only [dSeq, dIf, dAsg, dgName, dVar, dC, dOp, dNil, dCons, dTup, dTest, dAnd, dOr, dNot, dIfE, dAndV, dOrV, dNotV, dNext, dRet, dRetN, dDrop, dCall, dCallS, wLen, wI, wAdd, wAddI, wAddS, wAddL, wSub, wMod, wDiv, wPow, wLt, wLe, wGt, wGe, wMulB, wMulS, wEqF, wNeF, wIsN, wNotN, wInS, wNotInS, wIx, dNeg, dAug, dAppend, dLst, dLstM, dLstB, dSl, dPart, dNo, wCut, dBreak, dCont, dRaise, dMeth, dFld, wFld, dSetF, dAugF, dgTupF, dgTup, dgCons, dgNil, dgSet, dThen, dSo, dSoE, wIntC, dChain, dMake, wListC, wListM, dDisp, dPsCons, dPsNil, keysOf, DL.putAll, putD, valD, dUpC, inV, wDGet, wDIn, dDPut, dGet2, dPopAt, dJoin, wInL, dIsX, List.getElem?_cons_zero, List.getElem?_cons_succ, List.getElem?_nil, Option.some.injEq, D.int.injEq, D.str.injEq, D.bl.injEq, D.ptr.injEq, D.lst.injEq, D.tup.injEq, D.scr.injEq, D.xc.injEq, D.kr.injEq, D.ty.injEq, MO.lst.injEq, MO.ins.injEq, MO.dK.injEq, V.int.injEq, V.str.injEq, V.bl.injEq, List.cons.injEq, List.set_cons_zero, List.set_cons_succ, and_true, true_and, or_false, false_or, or_true, true_or, and_false, false_and, exists_false, exists_eq_left, exists_eq_left', exists_eq_right, exists_eq_right', exists_eq, exists_eq', exists_and_left, exists_and_right, exists_const, reduceCtorEq, decide_eq_true_eq, if_true, if_false, List.length_cons, List.length_nil, List.append_nil, List.nil_append, List.cons_append, v_scalI, v_scalS, v_scalB, v_scalN, v_decI, v_decS, v_decB, v_lsL, v_lsP, v_lsI, v_lsS, v_lsB, v_lsT, v_lsN, v_sqT, v_sqL, v_sqP, v_sqI, v_sqS, v_sqB, v_sqN, v_vI, v_vS, v_vB, v_vN, v_vT, v_vL, v_vP, v_sign, v_map, v_at0, v_at1, v_at2, v_at3, v_at4, v_at5, v_ofs, v_eqS, v_eqI, v_dkP, v_bdS, v_bdI, v_bdB, v_bdN, v_bdT, v_bdL, v_bdP, v_bdsN, v_bdsC, v_lastD, v_lastS, v_kyS, v_kyI, v_tt, v_ff, String.reduceEq, List.foldl_cons, List.foldl_nil, List.any_cons, List.any_nil, List.find?_cons, List.find?_nil, Sum.inr.injEq, Sum.inl.injEq, decide_true, decide_false, Bool.or_false, Bool.or_true, Bool.true_or, Bool.false_or, List.append_cancel_left_eq, Bool.false_eq_true, List.map_cons, List.map_nil, List.mapM_cons, List.mapM_nil, Option.pure_def, Option.bind_eq_bind, Option.bind_some, Option.bind_none, Nat.lt_irrefl, Option.map_some, Option.map_none, and_assoc, Nat.zero_add, Nat.reduceAdd, Nat.reduceLeDiff, Nat.le_refl, sizeLine_eq, and_self, forall_const, Bool.not_eq_true', Bool.not_true, Bool.not_false, decide_eq_false_iff_not, ite_not]
      exact six _ (by simp [gp6])
    · simp only [dSeq, dIf, dAsg, dgName, dVar, dC, dOp, dNil, dCons, dTup, dTest, dAnd, dOr, dNot, dIfE, dAndV, dOrV, dNotV, dNext, dRet, dRetN, dDrop, dCall, dCallS, wLen, wI, wAdd, wAddI, wAddS, wAddL, wSub, wMod, wDiv, wPow, wLt, wLe, wGt, wGe, wMulB, wMulS, wEqF, wNeF, wIsN, wNotN, wInS, wNotInS, wIx, dNeg, dAug, dAppend, dLst, dLstM, dLstB, dSl, dPart, dNo, wCut, dBreak, dCont, dRaise, dMeth, dFld, wFld, dSetF, dAugF, dgTupF, dgTup, dgCons, dgNil, dgSet, dThen, dSo, dSoE, wIntC, dChain, dMake, wListC, wListM, dDisp, dPsCons, dPsNil, keysOf, DL.putAll, putD, valD, dUpC, inV, wDGet, wDIn, dDPut, dGet2, dPopAt, dJoin, wInL, dIsX, List.getElem?_cons_zero, List.getElem?_cons_succ, List.getElem?_nil, Option.some.injEq, D.int.injEq, D.str.injEq, D.bl.injEq, D.ptr.injEq, D.lst.injEq, D.tup.injEq, D.scr.injEq, D.xc.injEq, D.kr.injEq, D.ty.injEq, MO.lst.injEq, MO.ins.injEq, MO.dK.injEq, V.int.injEq, V.str.injEq, V.bl.injEq, List.cons.injEq, List.set_cons_zero, List.set_cons_succ, and_true, true_and, or_false, false_or, or_true, true_or, and_false, false_and, exists_false, exists_eq_left, exists_eq_left', exists_eq_right, exists_eq_right', exists_eq, exists_eq', exists_and_left, exists_and_right, exists_const, reduceCtorEq, decide_eq_true_eq, if_true, if_false, List.length_cons, List.length_nil, List.append_nil, List.nil_append, List.cons_append, v_scalI, v_scalS, v_scalB, v_scalN, v_decI, v_decS, v_decB, v_lsL, v_lsP, v_lsI, v_lsS, v_lsB, v_lsT, v_lsN, v_sqT, v_sqL, v_sqP, v_sqI, v_sqS, v_sqB, v_sqN, v_vI, v_vS, v_vB, v_vN, v_vT, v_vL, v_vP, v_sign, v_map, v_at0, v_at1, v_at2, v_at3, v_at4, v_at5, v_ofs, v_eqS, v_eqI, v_dkP, v_bdS, v_bdI, v_bdB, v_bdN, v_bdT, v_bdL, v_bdP, v_bdsN, v_bdsC, v_lastD, v_lastS, v_kyS, v_kyI, v_tt, v_ff, String.reduceEq, List.foldl_cons, List.foldl_nil, List.any_cons, List.any_nil, List.find?_cons, List.find?_nil, Sum.inr.injEq, Sum.inl.injEq, decide_true, decide_false, Bool.or_false, Bool.or_true, Bool.true_or, Bool.false_or, List.append_cancel_left_eq, Bool.false_eq_true, List.map_cons, List.map_nil, List.mapM_cons, List.mapM_nil, Option.pure_def, Option.bind_eq_bind, Option.bind_some, Option.bind_none, Nat.lt_irrefl, Option.map_some, Option.map_none, and_assoc, Nat.zero_add, Nat.reduceAdd, Nat.reduceLeDiff, Nat.le_refl, sizeLine_eq, and_self, forall_const, Bool.not_eq_true', Bool.not_true, Bool.not_false, decide_eq_false_iff_not, ite_not]
      exact six _ (by simp [gp6])
  · rename_i hi0
    have e0 : i = 0 := by omega
    subst e0
    have lt' := ls_drs hd nt lt
    have := u_gaps_9 (K := K) (w := w) (ad := ad) (De := De) (g := []) (o5 := o5) hx ht hg hz hd hlt lt' nt hl h12 h0 (fun c h => (by cases h)) (Nat.zero_le _) (fun x _ h2 => by omega) (fun _ => rfl) q
    rw [List.append_nil] at this
    exact this
theorem fo_gaps (T : Txt P w K mg ad) : FnOk P w K mg base (L2.CX P w) 2 ad.f_gaps ad.fd_gaps p_gaps (spD K 2 F_gaps) := by
  refine fn_d T.F_gaps sc_gaps (y_gaps T) fun ds M Qd Xd hl h hw hb => ?_
  obtain ⟨d, td, ts, rfl, hd, nt, lt, hl, h12, q⟩ := h
  have hlt := hd.lt
  unfold w_gaps w_gaps_1
  simp only [startD, List.map_cons, List.map_nil, List.length_cons, List.length_nil, Nat.reduceAdd, Nat.reduceSub, List.replicate_succ, List.replicate_zero, List.cons_append, List.nil_append]
  simp only [dSeq, dIf, dAsg, dgName, dVar, dC, dOp, dNil, dCons, dTup, dTest, dAnd, dOr, dNot, dIfE, dAndV, dOrV, dNotV, dNext, dRet, dRetN, dDrop, dCall, dCallS, wLen, wI, wAdd, wAddI, wAddS, wAddL, wSub, wMod, wDiv, wPow, wLt, wLe, wGt, wGe, wMulB, wMulS, wEqF, wNeF, wIsN, wNotN, wInS, wNotInS, wIx, dNeg, dAug, dAppend, dLst, dLstM, dLstB, dSl, dPart, dNo, wCut, dBreak, dCont, dRaise, dMeth, dFld, wFld, dSetF, dAugF, dgTupF, dgTup, dgCons, dgNil, dgSet, dThen, dSo, dSoE, wIntC, dChain, dMake, wListC, wListM, dDisp, dPsCons, dPsNil, keysOf, DL.putAll, putD, valD, dUpC, inV, wDGet, wDIn, dDPut, dGet2, dPopAt, dJoin, wInL, dIsX, List.getElem?_cons_zero, List.getElem?_cons_succ, List.getElem?_nil, Option.some.injEq, D.int.injEq, D.str.injEq, D.bl.injEq, D.ptr.injEq, D.lst.injEq, D.tup.injEq, D.scr.injEq, D.xc.injEq, D.kr.injEq, D.ty.injEq, MO.lst.injEq, MO.ins.injEq, MO.dK.injEq, V.int.injEq, V.str.injEq, V.bl.injEq, List.cons.injEq, List.set_cons_zero, List.set_cons_succ, and_true, true_and, or_false, false_or, or_true, true_or, and_false, false_and, exists_false, exists_eq_left, exists_eq_left', exists_eq_right, exists_eq_right', exists_eq, exists_eq', exists_and_left, exists_and_right, exists_const, reduceCtorEq, decide_eq_true_eq, if_true, if_false, List.length_cons, List.length_nil, List.append_nil, List.nil_append, List.cons_append, v_scalI, v_scalS, v_scalB, v_scalN, v_decI, v_decS, v_decB, v_lsL, v_lsP, v_lsI, v_lsS, v_lsB, v_lsT, v_lsN, v_sqT, v_sqL, v_sqP, v_sqI, v_sqS, v_sqB, v_sqN, v_vI, v_vS, v_vB, v_vN, v_vT, v_vL, v_vP, v_sign, v_map, v_at0, v_at1, v_at2, v_at3, v_at4, v_at5, v_ofs, v_eqS, v_eqI, v_dkP, v_bdS, v_bdI, v_bdB, v_bdN, v_bdT, v_bdL, v_bdP, v_bdsN, v_bdsC, v_lastD, v_lastS, v_kyS, v_kyI, v_tt, v_ff, String.reduceEq, List.foldl_cons, List.foldl_nil, List.any_cons, List.any_nil, List.find?_cons, List.find?_nil, Sum.inr.injEq, Sum.inl.injEq, decide_true, decide_false, Bool.or_false, Bool.or_true, Bool.true_or, Bool.false_or, List.append_cancel_left_eq, Bool.false_eq_true, List.map_cons, List.map_nil, List.mapM_cons, List.mapM_nil, Option.pure_def, Option.bind_eq_bind, Option.bind_some, Option.bind_none, Nat.lt_irrefl, Option.map_some, Option.map_none, and_assoc, Nat.zero_add, Nat.reduceAdd, Nat.reduceLeDiff, Nat.le_refl, sizeLine_eq, and_self, forall_const, Bool.not_eq_true', Bool.not_true, Bool.not_false, decide_eq_false_iff_not, ite_not]
  refine r_dr1 hd (by omega) (by omega) fun v M1 v0 v1 d1 => ?_
  have go : ∀ s : Str, s ∈ gp3 → w_gaps_2 K w ad (DsF M Qd Xd) [some (.ptr d), some td, some (.str s), none, none, none] M1 := fun s hs => by
    obtain ⟨b0, l0⟩ := gp3_ok hs
    unfold w_gaps_2
    simp only [dSeq, dIf, dAsg, dgName, dVar, dC, dOp, dNil, dCons, dTup, dTest, dAnd, dOr, dNot, dIfE, dAndV, dOrV, dNotV, dNext, dRet, dRetN, dDrop, dCall, dCallS, wLen, wI, wAdd, wAddI, wAddS, wAddL, wSub, wMod, wDiv, wPow, wLt, wLe, wGt, wGe, wMulB, wMulS, wEqF, wNeF, wIsN, wNotN, wInS, wNotInS, wIx, dNeg, dAug, dAppend, dLst, dLstM, dLstB, dSl, dPart, dNo, wCut, dBreak, dCont, dRaise, dMeth, dFld, wFld, dSetF, dAugF, dgTupF, dgTup, dgCons, dgNil, dgSet, dThen, dSo, dSoE, wIntC, dChain, dMake, wListC, wListM, dDisp, dPsCons, dPsNil, keysOf, DL.putAll, putD, valD, dUpC, inV, wDGet, wDIn, dDPut, dGet2, dPopAt, dJoin, wInL, dIsX, List.getElem?_cons_zero, List.getElem?_cons_succ, List.getElem?_nil, Option.some.injEq, D.int.injEq, D.str.injEq, D.bl.injEq, D.ptr.injEq, D.lst.injEq, D.tup.injEq, D.scr.injEq, D.xc.injEq, D.kr.injEq, D.ty.injEq, MO.lst.injEq, MO.ins.injEq, MO.dK.injEq, V.int.injEq, V.str.injEq, V.bl.injEq, List.cons.injEq, List.set_cons_zero, List.set_cons_succ, and_true, true_and, or_false, false_or, or_true, true_or, and_false, false_and, exists_false, exists_eq_left, exists_eq_left', exists_eq_right, exists_eq_right', exists_eq, exists_eq', exists_and_left, exists_and_right, exists_const, reduceCtorEq, decide_eq_true_eq, if_true, if_false, List.length_cons, List.length_nil, List.append_nil, List.nil_append, List.cons_append, v_scalI, v_scalS, v_scalB, v_scalN, v_decI, v_decS, v_decB, v_lsL, v_lsP, v_lsI, v_lsS, v_lsB, v_lsT, v_lsN, v_sqT, v_sqL, v_sqP, v_sqI, v_sqS, v_sqB, v_sqN, v_vI, v_vS, v_vB, v_vN, v_vT, v_vL, v_vP, v_sign, v_map, v_at0, v_at1, v_at2, v_at3, v_at4, v_at5, v_ofs, v_eqS, v_eqI, v_dkP, v_bdS, v_bdI, v_bdB, v_bdN, v_bdT, v_bdL, v_bdP, v_bdsN, v_bdsC, v_lastD, v_lastS, v_kyS, v_kyI, v_tt, v_ff, String.reduceEq, List.foldl_cons, List.foldl_nil, List.any_cons, List.any_nil, List.find?_cons, List.find?_nil, Sum.inr.injEq, Sum.inl.injEq, decide_true, decide_false, Bool.or_false, Bool.or_true, Bool.true_or, Bool.false_or, List.append_cancel_left_eq, Bool.false_eq_true, List.map_cons, List.map_nil, List.mapM_cons, List.mapM_nil, Option.pure_def, Option.bind_eq_bind, Option.bind_some, Option.bind_none, Nat.lt_irrefl, Option.map_some, Option.map_none, and_assoc, Nat.zero_add, Nat.reduceAdd, Nat.reduceLeDiff, Nat.le_refl, sizeLine_eq, and_self, forall_const, Bool.not_eq_true', Bool.not_true, Bool.not_false, decide_eq_false_iff_not, ite_not]
    unfold w_gaps_3 dFor diRng1
    have ns : ∀ z, (td = D.str z) = False := fun z => eq_false fun e => by rw [e] at lt; cases lt
    simp only [dSeq, dIf, dAsg, dgName, dVar, dC, dOp, dNil, dCons, dTup, dTest, dAnd, dOr, dNot, dIfE, dAndV, dOrV, dNotV, dNext, dRet, dRetN, dDrop, dCall, dCallS, wLen, wI, wAdd, wAddI, wAddS, wAddL, wSub, wMod, wDiv, wPow, wLt, wLe, wGt, wGe, wMulB, wMulS, wEqF, wNeF, wIsN, wNotN, wInS, wNotInS, wIx, dNeg, dAug, dAppend, dLst, dLstM, dLstB, dSl, dPart, dNo, wCut, dBreak, dCont, dRaise, dMeth, dFld, wFld, dSetF, dAugF, dgTupF, dgTup, dgCons, dgNil, dgSet, dThen, dSo, dSoE, wIntC, dChain, dMake, wListC, wListM, dDisp, dPsCons, dPsNil, keysOf, DL.putAll, putD, valD, dUpC, inV, wDGet, wDIn, dDPut, dGet2, dPopAt, dJoin, wInL, dIsX, List.getElem?_cons_zero, List.getElem?_cons_succ, List.getElem?_nil, Option.some.injEq, D.int.injEq, D.str.injEq, D.bl.injEq, D.ptr.injEq, D.lst.injEq, D.tup.injEq, D.scr.injEq, D.xc.injEq, D.kr.injEq, D.ty.injEq, MO.lst.injEq, MO.ins.injEq, MO.dK.injEq, V.int.injEq, V.str.injEq, V.bl.injEq, List.cons.injEq, List.set_cons_zero, List.set_cons_succ, and_true, true_and, or_false, false_or, or_true, true_or, and_false, false_and, exists_false, exists_eq_left, exists_eq_left', exists_eq_right, exists_eq_right', exists_eq, exists_eq', exists_and_left, exists_and_right, exists_const, reduceCtorEq, decide_eq_true_eq, if_true, if_false, List.length_cons, List.length_nil, List.append_nil, List.nil_append, List.cons_append, v_scalI, v_scalS, v_scalB, v_scalN, v_decI, v_decS, v_decB, v_lsL, v_lsP, v_lsI, v_lsS, v_lsB, v_lsT, v_lsN, v_sqT, v_sqL, v_sqP, v_sqI, v_sqS, v_sqB, v_sqN, v_vI, v_vS, v_vB, v_vN, v_vT, v_vL, v_vP, v_sign, v_map, v_at0, v_at1, v_at2, v_at3, v_at4, v_at5, v_ofs, v_eqS, v_eqI, v_dkP, v_bdS, v_bdI, v_bdB, v_bdN, v_bdT, v_bdL, v_bdP, v_bdsN, v_bdsC, v_lastD, v_lastS, v_kyS, v_kyI, v_tt, v_ff, String.reduceEq, List.foldl_cons, List.foldl_nil, List.any_cons, List.any_nil, List.find?_cons, List.find?_nil, Sum.inr.injEq, Sum.inl.injEq, decide_true, decide_false, Bool.or_false, Bool.or_true, Bool.true_or, Bool.false_or, List.append_cancel_left_eq, Bool.false_eq_true, List.map_cons, List.map_nil, List.mapM_cons, List.mapM_nil, Option.pure_def, Option.bind_eq_bind, Option.bind_some, Option.bind_none, Nat.lt_irrefl, Option.map_some, Option.map_none, and_assoc, Nat.zero_add, Nat.reduceAdd, Nat.reduceLeDiff, Nat.le_refl, sizeLine_eq, and_self, forall_const, Bool.not_eq_true', Bool.not_true, Bool.not_false, decide_eq_false_iff_not, ite_not, sq_at, ls_sq (ls_app (ls_drs d1 nt lt)), List.length_map, ns]
    refine ⟨by omega, by omega, GapI M d td ts s.cps.toList, ⟨[], M1, none, none, rfl, .nil, fun x h => (by simp at h), d1, rfl, ?_⟩, fun _ _ _ _ => trivial, ?_, ?_⟩
    · rw [d1.len]
      show _ = [some (D.ptr d), some td, some (D.str (mkS (s.cps.toList ++ []))), some (D.ptr M.length), none, none]
      rw [List.append_nil, mkS_of]
    · rintro i e ρ1 M2 he ⟨xs, M', o4, o5, hx, hg, hz, hd', rfl, rfl⟩
      obtain ⟨hi, rfl⟩ := rng_at he
      rw [Int.toNat_natCast] at hi
      refine u_gaps_4 hx hi hg hz hd' hlt lt nt hl h12 l0 fun ρ M4 hi w' ev => Up.all ?_ w' ev hi
      obtain ⟨_, _, _, _, _, _, _, dd, rfl, _⟩ := hi
      rw [List.length_append, List.length_append, dd.len, d1.len]
      exact Nat.le_refl _
    · rintro ρ1 M2 ⟨xs, M', o4, o5, hx, hg, hz, hd', rfl, rfl⟩
      unfold w_gaps_11
      simp only [dSeq, dIf, dAsg, dgName, dVar, dC, dOp, dNil, dCons, dTup, dTest, dAnd, dOr, dNot, dIfE, dAndV, dOrV, dNotV, dNext, dRet, dRetN, dDrop, dCall, dCallS, wLen, wI, wAdd, wAddI, wAddS, wAddL, wSub, wMod, wDiv, wPow, wLt, wLe, wGt, wGe, wMulB, wMulS, wEqF, wNeF, wIsN, wNotN, wInS, wNotInS, wIx, dNeg, dAug, dAppend, dLst, dLstM, dLstB, dSl, dPart, dNo, wCut, dBreak, dCont, dRaise, dMeth, dFld, wFld, dSetF, dAugF, dgTupF, dgTup, dgCons, dgNil, dgSet, dThen, dSo, dSoE, wIntC, dChain, dMake, wListC, wListM, dDisp, dPsCons, dPsNil, keysOf, DL.putAll, putD, valD, dUpC, inV, wDGet, wDIn, dDPut, dGet2, dPopAt, dJoin, wInL, dIsX, List.getElem?_cons_zero, List.getElem?_cons_succ, List.getElem?_nil, Option.some.injEq, D.int.injEq, D.str.injEq, D.bl.injEq, D.ptr.injEq, D.lst.injEq, D.tup.injEq, D.scr.injEq, D.xc.injEq, D.kr.injEq, D.ty.injEq, MO.lst.injEq, MO.ins.injEq, MO.dK.injEq, V.int.injEq, V.str.injEq, V.bl.injEq, List.cons.injEq, List.set_cons_zero, List.set_cons_succ, and_true, true_and, or_false, false_or, or_true, true_or, and_false, false_and, exists_false, exists_eq_left, exists_eq_left', exists_eq_right, exists_eq_right', exists_eq, exists_eq', exists_and_left, exists_and_right, exists_const, reduceCtorEq, decide_eq_true_eq, if_true, if_false, List.length_cons, List.length_nil, List.append_nil, List.nil_append, List.cons_append, v_scalI, v_scalS, v_scalB, v_scalN, v_decI, v_decS, v_decB, v_lsL, v_lsP, v_lsI, v_lsS, v_lsB, v_lsT, v_lsN, v_sqT, v_sqL, v_sqP, v_sqI, v_sqS, v_sqB, v_sqN, v_vI, v_vS, v_vB, v_vN, v_vT, v_vL, v_vP, v_sign, v_map, v_at0, v_at1, v_at2, v_at3, v_at4, v_at5, v_ofs, v_eqS, v_eqI, v_dkP, v_bdS, v_bdI, v_bdB, v_bdN, v_bdT, v_bdL, v_bdP, v_bdsN, v_bdsC, v_lastD, v_lastS, v_kyS, v_kyI, v_tt, v_ff, String.reduceEq, List.foldl_cons, List.foldl_nil, List.any_cons, List.any_nil, List.find?_cons, List.find?_nil, Sum.inr.injEq, Sum.inl.injEq, decide_true, decide_false, Bool.or_false, Bool.or_true, Bool.true_or, Bool.false_or, List.append_cancel_left_eq, Bool.false_eq_true, List.map_cons, List.map_nil, List.mapM_cons, List.mapM_nil, Option.pure_def, Option.bind_eq_bind, Option.bind_some, Option.bind_none, Nat.lt_irrefl, Option.map_some, Option.map_none, and_assoc, Nat.zero_add, Nat.reduceAdd, Nat.reduceLeDiff, Nat.le_refl, sizeLine_eq, and_self, forall_const, Bool.not_eq_true', Bool.not_true, Bool.not_false, decide_eq_false_iff_not, ite_not]
      refine r_dr1 (hd'.1.app _) (by omega) (by omega) fun u M3 u0 u1 d3 => ?_
      obtain ⟨M'', rfl, d4⟩ := d3.app (by rw [hd'.len]; exact hlt)
      have d4 := hd'.trans d4
      have sh := lay_sh l0 hg hx hl h12
      have hx' : xs.map (·.2) = ts := by
        rw [hx, rng_len, Int.toNat_natCast, List.take_length]
      have fin : ∀ g : Str, g ∈ gp3 → (DsF M Qd Xd).rt (D.tup [D.str (mkS (s.cps.toList ++ layT xs) ++ g), D.ptr M.length]) (M'' ++ [MO.lst ((layP s.cps.toList.length xs).map fun n : Nat => D.int n)]) := fun g hg' => by
        obtain ⟨b1, l1⟩ := gp3_ok hg'
        rw [mkS_app]
        intro w' d'
        have := q _ _ xs M'' hx' hg b0 l0 b1 l1 hz d4
        rw [show M.length = M''.length from d4.len.symm]
        exact UpV.frzT2 (t := []) (d4.wf' hw) (.str _) (bds_nats _) this (Nat.le_refl _)
      rcases (show u = 0 ∨ u = 1 ∨ u = 2 by omega) with rfl | rfl | rfl
      · simp only [dSeq, dIf, dAsg, dgName, dVar, dC, dOp, dNil, dCons, dTup, dTest, dAnd, dOr, dNot, dIfE, dAndV, dOrV, dNotV, dNext, dRet, dRetN, dDrop, dCall, dCallS, wLen, wI, wAdd, wAddI, wAddS, wAddL, wSub, wMod, wDiv, wPow, wLt, wLe, wGt, wGe, wMulB, wMulS, wEqF, wNeF, wIsN, wNotN, wInS, wNotInS, wIx, dNeg, dAug, dAppend, dLst, dLstM, dLstB, dSl, dPart, dNo, wCut, dBreak, dCont, dRaise, dMeth, dFld, wFld, dSetF, dAugF, dgTupF, dgTup, dgCons, dgNil, dgSet, dThen, dSo, dSoE, wIntC, dChain, dMake, wListC, wListM, dDisp, dPsCons, dPsNil, keysOf, DL.putAll, putD, valD, dUpC, inV, wDGet, wDIn, dDPut, dGet2, dPopAt, dJoin, wInL, dIsX, List.getElem?_cons_zero, List.getElem?_cons_succ, List.getElem?_nil, Option.some.injEq, D.int.injEq, D.str.injEq, D.bl.injEq, D.ptr.injEq, D.lst.injEq, D.tup.injEq, D.scr.injEq, D.xc.injEq, D.kr.injEq, D.ty.injEq, MO.lst.injEq, MO.ins.injEq, MO.dK.injEq, V.int.injEq, V.str.injEq, V.bl.injEq, List.cons.injEq, List.set_cons_zero, List.set_cons_succ, and_true, true_and, or_false, false_or, or_true, true_or, and_false, false_and, exists_false, exists_eq_left, exists_eq_left', exists_eq_right, exists_eq_right', exists_eq, exists_eq', exists_and_left, exists_and_right, exists_const, reduceCtorEq, decide_eq_true_eq, if_true, if_false, List.length_cons, List.length_nil, List.append_nil, List.nil_append, List.cons_append, v_scalI, v_scalS, v_scalB, v_scalN, v_decI, v_decS, v_decB, v_lsL, v_lsP, v_lsI, v_lsS, v_lsB, v_lsT, v_lsN, v_sqT, v_sqL, v_sqP, v_sqI, v_sqS, v_sqB, v_sqN, v_vI, v_vS, v_vB, v_vN, v_vT, v_vL, v_vP, v_sign, v_map, v_at0, v_at1, v_at2, v_at3, v_at4, v_at5, v_ofs, v_eqS, v_eqI, v_dkP, v_bdS, v_bdI, v_bdB, v_bdN, v_bdT, v_bdL, v_bdP, v_bdsN, v_bdsC, v_lastD, v_lastS, v_kyS, v_kyI, v_tt, v_ff, String.reduceEq, List.foldl_cons, List.foldl_nil, List.any_cons, List.any_nil, List.find?_cons, List.find?_nil, Sum.inr.injEq, Sum.inl.injEq, decide_true, decide_false, Bool.or_false, Bool.or_true, Bool.true_or, Bool.false_or, List.append_cancel_left_eq, Bool.false_eq_true, List.map_cons, List.map_nil, List.mapM_cons, List.mapM_nil, Option.pure_def, Option.bind_eq_bind, Option.bind_some, Option.bind_none, Nat.lt_irrefl, Option.map_some, Option.map_none, and_assoc, Nat.zero_add, Nat.reduceAdd, Nat.reduceLeDiff, Nat.le_refl, sizeLine_eq, and_self, forall_const, Bool.not_eq_true', Bool.not_true, Bool.not_false, decide_eq_false_iff_not, ite_not, mkS_len]
        exact ⟨by show _ + 0 ≤ _; omega, fin _ (by simp [gp3])⟩
      · simp only [dSeq, dIf, dAsg, dgName, dVar, dC, dOp, dNil, dCons, dTup, dTest, dAnd, dOr, dNot, dIfE, dAndV, dOrV, dNotV, dNext, dRet, dRetN, dDrop, dCall, dCallS, wLen, wI, wAdd, wAddI, wAddS, wAddL, wSub, wMod, wDiv, wPow, wLt, wLe, wGt, wGe, wMulB, wMulS, wEqF, wNeF, wIsN, wNotN, wInS, wNotInS, wIx, dNeg, dAug, dAppend, dLst, dLstM, dLstB, dSl, dPart, dNo, wCut, dBreak, dCont, dRaise, dMeth, dFld, wFld, dSetF, dAugF, dgTupF, dgTup, dgCons, dgNil, dgSet, dThen, dSo, dSoE, wIntC, dChain, dMake, wListC, wListM, dDisp, dPsCons, dPsNil, keysOf, DL.putAll, putD, valD, dUpC, inV, wDGet, wDIn, dDPut, dGet2, dPopAt, dJoin, wInL, dIsX, List.getElem?_cons_zero, List.getElem?_cons_succ, List.getElem?_nil, Option.some.injEq, D.int.injEq, D.str.injEq, D.bl.injEq, D.ptr.injEq, D.lst.injEq, D.tup.injEq, D.scr.injEq, D.xc.injEq, D.kr.injEq, D.ty.injEq, MO.lst.injEq, MO.ins.injEq, MO.dK.injEq, V.int.injEq, V.str.injEq, V.bl.injEq, List.cons.injEq, List.set_cons_zero, List.set_cons_succ, and_true, true_and, or_false, false_or, or_true, true_or, and_false, false_and, exists_false, exists_eq_left, exists_eq_left', exists_eq_right, exists_eq_right', exists_eq, exists_eq', exists_and_left, exists_and_right, exists_const, reduceCtorEq, decide_eq_true_eq, if_true, if_false, List.length_cons, List.length_nil, List.append_nil, List.nil_append, List.cons_append, v_scalI, v_scalS, v_scalB, v_scalN, v_decI, v_decS, v_decB, v_lsL, v_lsP, v_lsI, v_lsS, v_lsB, v_lsT, v_lsN, v_sqT, v_sqL, v_sqP, v_sqI, v_sqS, v_sqB, v_sqN, v_vI, v_vS, v_vB, v_vN, v_vT, v_vL, v_vP, v_sign, v_map, v_at0, v_at1, v_at2, v_at3, v_at4, v_at5, v_ofs, v_eqS, v_eqI, v_dkP, v_bdS, v_bdI, v_bdB, v_bdN, v_bdT, v_bdL, v_bdP, v_bdsN, v_bdsC, v_lastD, v_lastS, v_kyS, v_kyI, v_tt, v_ff, String.reduceEq, List.foldl_cons, List.foldl_nil, List.any_cons, List.any_nil, List.find?_cons, List.find?_nil, Sum.inr.injEq, Sum.inl.injEq, decide_true, decide_false, Bool.or_false, Bool.or_true, Bool.true_or, Bool.false_or, List.append_cancel_left_eq, Bool.false_eq_true, List.map_cons, List.map_nil, List.mapM_cons, List.mapM_nil, Option.pure_def, Option.bind_eq_bind, Option.bind_some, Option.bind_none, Nat.lt_irrefl, Option.map_some, Option.map_none, and_assoc, Nat.zero_add, Nat.reduceAdd, Nat.reduceLeDiff, Nat.le_refl, sizeLine_eq, and_self, forall_const, Bool.not_eq_true', Bool.not_true, Bool.not_false, decide_eq_false_iff_not, ite_not, mkS_len]
        exact ⟨by show _ + 1 ≤ _; omega, fin _ (by simp [gp3])⟩
      · simp only [dSeq, dIf, dAsg, dgName, dVar, dC, dOp, dNil, dCons, dTup, dTest, dAnd, dOr, dNot, dIfE, dAndV, dOrV, dNotV, dNext, dRet, dRetN, dDrop, dCall, dCallS, wLen, wI, wAdd, wAddI, wAddS, wAddL, wSub, wMod, wDiv, wPow, wLt, wLe, wGt, wGe, wMulB, wMulS, wEqF, wNeF, wIsN, wNotN, wInS, wNotInS, wIx, dNeg, dAug, dAppend, dLst, dLstM, dLstB, dSl, dPart, dNo, wCut, dBreak, dCont, dRaise, dMeth, dFld, wFld, dSetF, dAugF, dgTupF, dgTup, dgCons, dgNil, dgSet, dThen, dSo, dSoE, wIntC, dChain, dMake, wListC, wListM, dDisp, dPsCons, dPsNil, keysOf, DL.putAll, putD, valD, dUpC, inV, wDGet, wDIn, dDPut, dGet2, dPopAt, dJoin, wInL, dIsX, List.getElem?_cons_zero, List.getElem?_cons_succ, List.getElem?_nil, Option.some.injEq, D.int.injEq, D.str.injEq, D.bl.injEq, D.ptr.injEq, D.lst.injEq, D.tup.injEq, D.scr.injEq, D.xc.injEq, D.kr.injEq, D.ty.injEq, MO.lst.injEq, MO.ins.injEq, MO.dK.injEq, V.int.injEq, V.str.injEq, V.bl.injEq, List.cons.injEq, List.set_cons_zero, List.set_cons_succ, and_true, true_and, or_false, false_or, or_true, true_or, and_false, false_and, exists_false, exists_eq_left, exists_eq_left', exists_eq_right, exists_eq_right', exists_eq, exists_eq', exists_and_left, exists_and_right, exists_const, reduceCtorEq, decide_eq_true_eq, if_true, if_false, List.length_cons, List.length_nil, List.append_nil, List.nil_append, List.cons_append, v_scalI, v_scalS, v_scalB, v_scalN, v_decI, v_decS, v_decB, v_lsL, v_lsP, v_lsI, v_lsS, v_lsB, v_lsT, v_lsN, v_sqT, v_sqL, v_sqP, v_sqI, v_sqS, v_sqB, v_sqN, v_vI, v_vS, v_vB, v_vN, v_vT, v_vL, v_vP, v_sign, v_map, v_at0, v_at1, v_at2, v_at3, v_at4, v_at5, v_ofs, v_eqS, v_eqI, v_dkP, v_bdS, v_bdI, v_bdB, v_bdN, v_bdT, v_bdL, v_bdP, v_bdsN, v_bdsC, v_lastD, v_lastS, v_kyS, v_kyI, v_tt, v_ff, String.reduceEq, List.foldl_cons, List.foldl_nil, List.any_cons, List.any_nil, List.find?_cons, List.find?_nil, Sum.inr.injEq, Sum.inl.injEq, decide_true, decide_false, Bool.or_false, Bool.or_true, Bool.true_or, Bool.false_or, List.append_cancel_left_eq, Bool.false_eq_true, List.map_cons, List.map_nil, List.mapM_cons, List.mapM_nil, Option.pure_def, Option.bind_eq_bind, Option.bind_some, Option.bind_none, Nat.lt_irrefl, Option.map_some, Option.map_none, and_assoc, Nat.zero_add, Nat.reduceAdd, Nat.reduceLeDiff, Nat.le_refl, sizeLine_eq, and_self, forall_const, Bool.not_eq_true', Bool.not_true, Bool.not_false, decide_eq_false_iff_not, ite_not, mkS_len]
        exact ⟨by show _ + 1 ≤ _; omega, fin _ (by simp [gp3])⟩
  rcases (show v = 0 ∨ v = 1 ∨ v = 2 by omega) with rfl | rfl | rfl <;> simp only [dSeq, dIf, dAsg, dgName, dVar, dC, dOp, dNil, dCons, dTup, dTest, dAnd, dOr, dNot, dIfE, dAndV, dOrV, dNotV, dNext, dRet, dRetN, dDrop, dCall, dCallS, wLen, wI, wAdd, wAddI, wAddS, wAddL, wSub, wMod, wDiv, wPow, wLt, wLe, wGt, wGe, wMulB, wMulS, wEqF, wNeF, wIsN, wNotN, wInS, wNotInS, wIx, dNeg, dAug, dAppend, dLst, dLstM, dLstB, dSl, dPart, dNo, wCut, dBreak, dCont, dRaise, dMeth, dFld, wFld, dSetF, dAugF, dgTupF, dgTup, dgCons, dgNil, dgSet, dThen, dSo, dSoE, wIntC, dChain, dMake, wListC, wListM, dDisp, dPsCons, dPsNil, keysOf, DL.putAll, putD, valD, dUpC, inV, wDGet, wDIn, dDPut, dGet2, dPopAt, dJoin, wInL, dIsX, List.getElem?_cons_zero, List.getElem?_cons_succ, List.getElem?_nil, Option.some.injEq, D.int.injEq, D.str.injEq, D.bl.injEq, D.ptr.injEq, D.lst.injEq, D.tup.injEq, D.scr.injEq, D.xc.injEq, D.kr.injEq, D.ty.injEq, MO.lst.injEq, MO.ins.injEq, MO.dK.injEq, V.int.injEq, V.str.injEq, V.bl.injEq, List.cons.injEq, List.set_cons_zero, List.set_cons_succ, and_true, true_and, or_false, false_or, or_true, true_or, and_false, false_and, exists_false, exists_eq_left, exists_eq_left', exists_eq_right, exists_eq_right', exists_eq, exists_eq', exists_and_left, exists_and_right, exists_const, reduceCtorEq, decide_eq_true_eq, if_true, if_false, List.length_cons, List.length_nil, List.append_nil, List.nil_append, List.cons_append, v_scalI, v_scalS, v_scalB, v_scalN, v_decI, v_decS, v_decB, v_lsL, v_lsP, v_lsI, v_lsS, v_lsB, v_lsT, v_lsN, v_sqT, v_sqL, v_sqP, v_sqI, v_sqS, v_sqB, v_sqN, v_vI, v_vS, v_vB, v_vN, v_vT, v_vL, v_vP, v_sign, v_map, v_at0, v_at1, v_at2, v_at3, v_at4, v_at5, v_ofs, v_eqS, v_eqI, v_dkP, v_bdS, v_bdI, v_bdB, v_bdN, v_bdT, v_bdL, v_bdP, v_bdsN, v_bdsC, v_lastD, v_lastS, v_kyS, v_kyI, v_tt, v_ff, String.reduceEq, List.foldl_cons, List.foldl_nil, List.any_cons, List.any_nil, List.find?_cons, List.find?_nil, Sum.inr.injEq, Sum.inl.injEq, decide_true, decide_false, Bool.or_false, Bool.or_true, Bool.true_or, Bool.false_or, List.append_cancel_left_eq, Bool.false_eq_true, List.map_cons, List.map_nil, List.mapM_cons, List.mapM_nil, Option.pure_def, Option.bind_eq_bind, Option.bind_some, Option.bind_none, Nat.lt_irrefl, Option.map_some, Option.map_none, and_assoc, Nat.zero_add, Nat.reduceAdd, Nat.reduceLeDiff, Nat.le_refl, sizeLine_eq, and_self, forall_const, Bool.not_eq_true', Bool.not_true, Bool.not_false, decide_eq_false_iff_not, ite_not] <;> exact go _ (by simp [gp3])

end
end K87

namespace K87
open PySem PySem.Spec PyProof.Rows L2 DL
section
variable {P : Program} {w : World} {K : PySem.W.Frag} {mg : Str → Option Value} {base : Heap} {ad : Ad}
/-! ### the tokens of a text with gaps -/
theorem toks_cons (n : Nat) (c : Nat) (r : List Nat) (p : Nat) (b : Bool) : toks (n + 1) (c :: r) p b = if isBlk c = true then toks n r (p + 1) b
      else if (isAbc c && b) = true then (⟨(c :: r.takeWhile isAbc).toArray⟩, p) :: toks n (r.dropWhile isAbc) (p + 1 + (r.takeWhile isAbc).length) false
      else (chS c, p) :: toks n r (p + 1) (decide (chS c = "@")) := rfl
theorem toks_blk : ∀ (g cs : List Nat) (p : Nat) (b : Bool) (n : Nat), allBlk g → (g ++ cs).length < n → ∃ n', cs.length < n' ∧ toks n (g ++ cs) p b = toks n' cs (p + g.length) b
  | [], cs, p, b, n, _, h => ⟨n, h, rfl⟩
  | c :: g, cs, p, b, 0, _, h => absurd h (Nat.not_lt_zero _)
  | c :: g, cs, p, b, n + 1, hb, h => by
    have h' : (g ++ cs).length < n := by rw [List.cons_append, List.length_cons] at h; omega
    obtain ⟨n', h1, h2⟩ := toks_blk g cs (p + 1) b n (fun x hx => hb x (List.mem_cons_of_mem _ hx)) h'
    refine ⟨n', h1, ?_⟩
    rw [List.cons_append, toks_cons, if_pos (hb c List.mem_cons_self), h2, List.length_cons, show p + (g.length + 1) = p + 1 + g.length by omega]
def tkGood (b : Bool) (t : Str) : Prop := (∃ c, t.cps.toList = [c] ∧ isBlk c = false ∧ (b = true → isAbc c = false)) ∨ (b = true ∧ t.cps.toList ≠ [] ∧ ∀ c ∈ t.cps.toList, isAbc c = true)
def noAbc (l : List Nat) : Prop := ∀ c r, l = c :: r → isAbc c = false
def isAt (t : Str) : Bool := decide (t = "@")
theorem abc_notBlk {c : Nat} (h : isAbc c = true) : isBlk c = false := by
  unfold isAbc at h
  have h := of_decide_eq_true h
  have : ∀ c ∈ abc.cps.toList, isBlk c = false := by unfold isBlk; decide
  exact this c h
theorem takeWhile_pre (p : Nat → Bool) : ∀ (t rest : List Nat), (∀ c ∈ t, p c = true) → (∀ c r, rest = c :: r → p c = false) → (t ++ rest).takeWhile p = t ∧ (t ++ rest).dropWhile p = rest
  | [], [], _, _ => ⟨rfl, rfl⟩
  | [], c :: r, _, h => by
    have := h c r rfl
    exact ⟨by rw [List.nil_append, List.takeWhile_cons_of_neg (by rw [this]; exact Bool.false_ne_true)], by rw [List.nil_append, List.dropWhile_cons_of_neg (by rw [this]; exact Bool.false_ne_true)]⟩
  | c :: t, rest, h1, h2 => by
    obtain ⟨a, b⟩ := takeWhile_pre p t rest (fun x hx => h1 x (List.mem_cons_of_mem _ hx)) h2
    have := h1 c List.mem_cons_self
    exact ⟨by rw [List.cons_append, List.takeWhile_cons_of_pos this, a], by rw [List.cons_append, List.dropWhile_cons_of_pos this, b]⟩
theorem mkS_eq (s : Str) (l : List Nat) (h : s.cps.toList = l) : (⟨l.toArray⟩ : Str) = s := by subst h; exact mkS_of s
theorem at_cp {t : Str} : isAt t = true ↔ t.cps.toList = [64] := by
  unfold isAt
  constructor
  · intro h
    have := of_decide_eq_true h
    rw [this]
    decide
  · intro h
    have e : mkS t.cps.toList = mkS ("@" : Str).cps.toList := by rw [h]; rfl
    rw [mkS_of, mkS_of] at e
    exact decide_eq_true e
/-- one token -/
theorem tok_step {b : Bool} {t : Str} {rest : List Nat} {p n : Nat} (h : tkGood b t) (hs : b = true → noAbc rest) (hn : (t.cps.toList ++ rest).length < n) : ∃ n', rest.length < n' ∧ toks n (t.cps.toList ++ rest) p b = (t, p) :: toks n' rest (p + t.length) (isAt t) := by
  have tl : t.length = t.cps.toList.length := len_cps t
  cases n with
  | zero => exact absurd hn (Nat.not_lt_zero _)
  | succ n =>
    refine ⟨n, by
      have : t.cps.toList ≠ [] := by
        rcases h with ⟨c, e, _⟩ | ⟨_, e, _⟩
        · rw [e]; exact List.cons_ne_nil _ _
        · exact e
      have : 0 < t.cps.toList.length := List.length_pos_iff.mpr this
      rw [List.length_append] at hn
      omega, ?_⟩
    rcases h with ⟨c, e, hb, ha⟩ | ⟨rfl, ne, ha⟩
    · have tl1 : t.length = 1 := by rw [tl, e]; rfl
      rw [e, tl1]
      show toks (n + 1) (c :: rest) p b = _
      rw [toks_cons, if_neg (by rw [hb]; exact Bool.false_ne_true), if_neg (by
        intro z
        rw [Bool.and_eq_true] at z
        rw [ha z.2] at z
        exact Bool.false_ne_true z.1)]
      have : chS c = t := mkS_eq t [c] e
      rw [this]
      rfl
    · cases e : t.cps.toList with
      | nil => exact absurd e ne
      | cons c r =>
        rw [e] at ha
        have hc := ha c List.mem_cons_self
        obtain ⟨t1, t2⟩ := takeWhile_pre isAbc r rest (fun x hx => ha x (List.mem_cons_of_mem _ hx)) (hs rfl)
        rw [List.cons_append]
        rw [toks_cons, if_neg (by rw [abc_notBlk hc]; exact Bool.false_ne_true), if_pos (by rw [hc]; rfl), t1, t2, mkS_eq t (c :: r) e]
        have na : isAt t = false := by
          cases h : isAt t with
          | false => rfl
          | true =>
            rw [at_cp, e] at h
            have : c = 64 := (List.cons.inj h).1
            subst this
            exact absurd hc (by decide)
        rw [na, tl, e, List.length_cons]
        congr 2
        omega
def GoodL : Bool → Ly → Prop
  | _, [] => True
  | b, (g, t) :: r => allBlk g ∧ tkGood b t ∧ GoodL (isAt t) r
def SepL (rest : List Nat) : Bool → Ly → Prop
  | _, [] => True
  | b, (g, t) :: r => (b = true → noAbc (layT r ++ rest)) ∧ SepL rest (isAt t) r
def zipT : Nat → Ly → List Tk
  | _, [] => []
  | p, (g, t) :: r => (t, p + g.length) :: zipT (p + g.length + t.length) r
theorem toks_pre (rest : List Nat) : ∀ (xs : Ly) (p : Nat) (b : Bool) (n : Nat), GoodL b xs → SepL rest b xs → (layT xs ++ rest).length < n → ∃ n' b', rest.length < n' ∧ toks n (layT xs ++ rest) p b = zipT p xs ++ toks n' rest (p + (layT xs).length) b'
  | [], p, b, n, _, _, h => ⟨n, b, h, rfl⟩
  | (g, t) :: r, p, b, n, hg, hs, h => by
    have tl : t.length = t.cps.toList.length := len_cps t
    have e : layT ((g, t) :: r) ++ rest = g ++ (t.cps.toList ++ (layT r ++ rest)) := by
      show g ++ (t.cps.toList ++ layT r) ++ rest = _
      simp only [List.append_assoc]
    rw [e] at h ⊢
    obtain ⟨n1, h1, e1⟩ := toks_blk g _ p b n hg.1 h
    obtain ⟨n2, h2, e2⟩ := tok_step (p := p + g.length) hg.2.1 hs.1 h1
    obtain ⟨n3, b3, h3, e3⟩ := toks_pre rest r (p + g.length + t.length) (isAt t) n2 hg.2.2 hs.2 h2
    refine ⟨n3, b3, h3, ?_⟩
    rw [e1, e2, e3]
    have : p + g.length + t.length + (layT r).length = p + (layT ((g, t) :: r)).length := by
      show _ = p + (g ++ (t.cps.toList ++ layT r)).length
      rw [List.length_append, List.length_append]
      omega
    rw [this]
    rfl
theorem toks_tail : ∀ (tail : List Nat) (p : Nat) (b : Bool) (n : Nat), allBlk tail → tail.length < n → toks n tail p b = [(("" : Str), p + tail.length)]
  | tail, p, b, n, hb, h => by
    obtain ⟨n', h1, h2⟩ := toks_blk tail [] p b n hb (by rw [List.append_nil]; exact h)
    rw [List.append_nil] at h2
    rw [h2]
    cases n' with
    | zero => exact absurd h1 (Nat.not_lt_zero _)
    | succ m => rfl
theorem noAbc_blk {g : List Nat} {r : List Nat} (h : allBlk g) (n : g ≠ []) : noAbc (g ++ r) := by
  intro c r' e
  cases g with
  | nil => exact absurd rfl n
  | cons a g =>
    have : a = c := (List.cons.inj e).1
    subst this
    have hb := h a List.mem_cons_self
    cases ha : isAbc a with
    | false => rfl
    | true => rw [abc_notBlk ha] at hb; cases hb
theorem noAbc_tail {g : List Nat} (h : allBlk g) : noAbc g := by
  by_cases n : g = []
  · subst n
    intro c r e
    cases e
  · have := noAbc_blk (r := []) h n
    rwa [List.append_nil] at this
/-- what the gaps' law says of the separations -/
theorem sepL_of {ys zs : Ly} {tail : List Nat} : ∀ {xs : Ly} {b : Bool}, (∀ x ∈ xs ++ zs, allBlk x.1) → allBlk tail → (b = true → ∀ y, (xs ++ zs)[1]? = some y → y.1 ≠ []) → (∀ (k : Nat) (x y : List Nat × Str), (xs ++ zs)[k]? = some x → (xs ++ zs)[k + 2]? = some y → x.2 = "@" → y.1 ≠ []) → SepL (layT zs ++ tail) b xs
  | [], _, _, _, _, _ => trivial
  | (g, t) :: r, b, hb, ht, h1, h2 => by
    refine ⟨fun e => ?_, ?_⟩
    · have h3 := h1 e
      rw [List.cons_append, List.getElem?_cons_succ] at h3
      have key : ∀ us : Ly, (∀ x ∈ us, allBlk x.1) → (∀ y, us[0]? = some y → y.1 ≠ []) → noAbc (layT us ++ tail) := by
        intro us hb hy
        cases us with
        | nil => exact noAbc_tail ht
        | cons y us =>
          obtain ⟨g', t'⟩ := y
          have := hy (g', t') rfl
          show noAbc (g' ++ (t'.cps.toList ++ layT us) ++ tail)
          rw [List.append_assoc]
          exact noAbc_blk (hb (g', t') List.mem_cons_self) this
      have e2 : layT r ++ (layT zs ++ tail) = layT (r ++ zs) ++ tail := by
        have app : ∀ us : Ly, layT (us ++ zs) = layT us ++ layT zs := by
          intro us
          induction us with
          | nil => rfl
          | cons y us ih =>
            obtain ⟨g', t'⟩ := y
            show g' ++ (t'.cps.toList ++ layT (us ++ zs)) = g' ++ (t'.cps.toList ++ layT us) ++ layT zs
            rw [ih]
            simp only [List.append_assoc]
        rw [app, List.append_assoc]
      rw [e2]
      exact key _ (fun x hx => hb x (List.mem_cons_of_mem _ hx)) h3
    · refine sepL_of (ys := ys) (fun x hx => hb x (List.mem_cons_of_mem _ hx)) ht (fun e y hy => ?_) fun k x y hx hy e => h2 (k + 1) x y (by simpa using hx) (by simpa using hy) e
      refine h2 0 (g, t) y rfl ?_ (of_decide_eq_true e)
      simpa using hy

end
end K87

namespace K87
open PySem PySem.Spec PyProof.Rows L2 DL
section
variable {P : Program} {w : World} {K : PySem.W.Frag} {mg : Str → Option Value} {base : Heap} {ad : Ad}
/-! ### the parser over right tokens -/
section
variable {L : Str} {ts : List Tk}
def nx (ts : List Tk) (i : Nat) (u : Str) : Prop := ∃ q, ts[i]? = some (u, q)
theorem nx_lt {i : Nat} {u : Str} (h : nx ts i u) : i < ts.length := by
  obtain ⟨q, h⟩ := h
  exact (List.getElem?_eq_some_iff.mp h).1
theorem loopB_mono {s wd : Str} {sub : Nat → Option Res} {r : Res} : ∀ {f f' : Nat} {d : D} {m : Nat}, loopB ts s wd sub f d m = some r → f ≤ f' → loopB ts s wd sub f' d m = some r
  | 0, _, _, _, h, _ => by cases h
  | f + 1, 0, _, _, _, h => absurd h (Nat.not_succ_le_zero _)
  | f + 1, f' + 1, d, m, h, l => by
    unfold loopB at h ⊢
    cases ht : ts[m]? with
    | none => rw [ht] at h; cases h
    | some t =>
      rw [ht] at h
      dsimp only at h ⊢
      split
      · rename_i e
        rw [if_pos e] at h
        cases hs : sub (m + 1) with
        | none => rw [hs] at h; cases h
        | some x =>
          rw [hs] at h
          cases x with
          | error q => exact h
          | ok y => exact loopB_mono h (Nat.le_of_succ_le_succ l)
      · rename_i e
        rw [if_neg e] at h
        exact h
theorem loopR_mono {sub : Nat → Option Res} {r : Res} : ∀ {f f' : Nat} {d : D} {m : Nat}, loopR L ts sub f d m = some r → f ≤ f' → loopR L ts sub f' d m = some r
  | 0, _, _, _, h, _ => by cases h
  | f + 1, 0, _, _, _, h => absurd h (Nat.not_succ_le_zero _)
  | f + 1, f' + 1, d, m, h, l => by
    unfold loopR at h ⊢
    cases ht : ts[m]? with
    | none => rw [ht] at h; cases h
    | some t =>
      rw [ht] at h
      dsimp only at h ⊢
      cases hb : bgn L t.1 with
      | none => rw [hb] at h; cases h
      | some b =>
        rw [hb] at h
        cases b with
        | false => exact h
        | true =>
          dsimp only at h ⊢
          cases hs : sub m with
          | none => rw [hs] at h; cases h
          | some x =>
            rw [hs] at h
            cases x with
            | error q => exact h
            | ok y => exact loopR_mono h (Nat.le_of_succ_le_succ l)
theorem loopS_mono {r : Res} : ∀ {f f' : Nat} {d : D} {m : Nat}, loopS ts f d m = some r → f ≤ f' → loopS ts f' d m = some r
  | 0, _, _, _, h, _ => by cases h
  | f + 1, 0, _, _, _, h => absurd h (Nat.not_succ_le_zero _)
  | f + 1, f' + 1, d, m, h, l => by
    unfold loopS at h ⊢
    cases ht : ts[m]? with
    | none => rw [ht] at h; cases h
    | some t =>
      rw [ht] at h
      dsimp only at h ⊢
      split
      · rename_i e
        rw [if_pos e] at h
        exact loopS_mono h (Nat.le_of_succ_le_succ l)
      · rename_i e
        rw [if_neg e] at h
        exact h
def RB (ts : List Tk) (s wd : Str) (sub : Nat → Option Res) (d : D) (m : Nat) (r : Res) : Prop := ∃ f, f + m ≤ ts.length + 1 ∧ loopB ts s wd sub f d m = some r
def RR (L : Str) (ts : List Tk) (sub : Nat → Option Res) (d : D) (m : Nat) (r : Res) : Prop := ∃ f, f + m ≤ ts.length + 1 ∧ loopR L ts sub f d m = some r
def RS (ts : List Tk) (d : D) (m : Nat) (r : Res) : Prop := ∃ f, f + m ≤ ts.length + 1 ∧ loopS ts f d m = some r
theorem RB.top {s wd : Str} {sub : Nat → Option Res} {d : D} {m : Nat} {r : Res} (h : RB ts s wd sub d m r) : loopB ts s wd sub (ts.length + 1) d m = some r := by
  obtain ⟨f, h1, h2⟩ := h
  exact loopB_mono h2 (by omega)
theorem RR.top {sub : Nat → Option Res} {d : D} {m : Nat} {r : Res} (h : RR L ts sub d m r) : loopR L ts sub (ts.length + 1) d m = some r := by
  obtain ⟨f, h1, h2⟩ := h
  exact loopR_mono h2 (by omega)
theorem RS.top {d : D} {m : Nat} {r : Res} (h : RS ts d m r) : loopS ts (ts.length + 1) d m = some r := by
  obtain ⟨f, h1, h2⟩ := h
  exact loopS_mono h2 (by omega)
theorem RB.stop {s wd : Str} {sub : Nat → Option Res} {d : D} {m : Nat} {u : Str} (h : nx ts m u) (n : u ≠ s) : RB ts s wd sub d m (.ok (d, m)) := by
  have := nx_lt h
  obtain ⟨q, e⟩ := h
  refine ⟨1, by omega, ?_⟩
  unfold loopB
  rw [e]
  dsimp only
  rw [if_neg n]
theorem RB.go {s wd : Str} {sub : Nat → Option Res} {d e : D} {m n : Nat} {r : Res} (h : nx ts m s) (hs : sub (m + 1) = some (.ok (e, n))) (l : m < n) (k : RB ts s wd sub (.tup [.str wd, d, e]) n r) : RB ts s wd sub d m r := by
  obtain ⟨q, eq⟩ := h
  obtain ⟨f, h1, h2⟩ := k
  refine ⟨f + 1, by omega, ?_⟩
  unfold loopB
  rw [eq]
  dsimp only
  rw [if_pos rfl, hs]
  exact h2
theorem RB.err {s wd : Str} {sub : Nat → Option Res} {d : D} {m q : Nat} (h : nx ts m s) (hs : sub (m + 1) = some (.error q)) : RB ts s wd sub d m (.error q) := by
  have := nx_lt h
  obtain ⟨q, eq⟩ := h
  refine ⟨1, by omega, ?_⟩
  unfold loopB
  rw [eq]
  dsimp only
  rw [if_pos rfl, hs]
  rfl
theorem RR.stop {sub : Nat → Option Res} {d : D} {m : Nat} {u : Str} (h : nx ts m u) (n : bgn L u = some false) : RR L ts sub d m (.ok (d, m)) := by
  have := nx_lt h
  obtain ⟨q, e⟩ := h
  refine ⟨1, by omega, ?_⟩
  unfold loopR
  rw [e]
  dsimp only
  rw [n]
theorem RR.go {sub : Nat → Option Res} {d e : D} {m n : Nat} {r : Res} {u : Str} (h : nx ts m u) (hb : bgn L u = some true) (hs : sub m = some (.ok (e, n))) (l : m < n) (k : RR L ts sub (.tup [.str "row", d, e]) n r) : RR L ts sub d m r := by
  obtain ⟨q, eq⟩ := h
  obtain ⟨f, h1, h2⟩ := k
  refine ⟨f + 1, by omega, ?_⟩
  unfold loopR
  rw [eq]
  dsimp only
  rw [hb]
  dsimp only
  rw [hs]
  exact h2
theorem RR.err {sub : Nat → Option Res} {d : D} {m q : Nat} {u : Str} (h : nx ts m u) (hb : bgn L u = some true) (hs : sub m = some (.error q)) : RR L ts sub d m (.error q) := by
  have := nx_lt h
  obtain ⟨q, eq⟩ := h
  refine ⟨1, by omega, ?_⟩
  unfold loopR
  rw [eq]
  dsimp only
  rw [hb]
  dsimp only
  rw [hs]
  rfl
theorem RS.stop {d : D} {m : Nat} {u : Str} (h : nx ts m u) (n : u ≠ "*") : RS ts d m (.ok (d, m)) := by
  have := nx_lt h
  obtain ⟨q, e⟩ := h
  refine ⟨1, by omega, ?_⟩
  unfold loopS
  rw [e]
  dsimp only
  rw [if_neg n]
theorem RS.go {d : D} {m : Nat} {r : Res} (h : nx ts m "*") (k : RS ts (.tup [.str "star", d]) (m + 1) r) : RS ts d m r := by
  obtain ⟨q, eq⟩ := h
  obtain ⟨f, h1, h2⟩ := k
  refine ⟨f + 1, by omega, ?_⟩
  unfold loopS
  rw [eq]
  dsimp only
  rw [if_pos rfl]
  exact h2
/-- tokens that stand for a datum, for a level, so deep -/
inductive Dv (L : Str) : Nat → List Str → D → Nat → Prop
  | atom {s : Str} {d : D} (h : atomOf s = some d) : Dv L 5 [s] d 0
  | letter {c : Nat} (ha : isAbc c = true) (h : c ∈ L.cps.toList) : Dv L 5 [ch c] (.tup [.str "letter", .str (ch c)]) 0
  | name {n : Str} (h : nmOk n = true) (ha : ∀ c ∈ n.cps.toList, isAbc c = true) : Dv L 5 ["@", n] (.tup [.str "name", .str n]) 0
  | br {us : List Str} {d : D} {k : Nat} (h : Dv L 1 us d k) : Dv L 5 (("(" : Str) :: (us ++ [(")" : Str)])) d (k + 1)
  | star {us : List Str} {d : D} {k : Nat} (h : Dv L 5 us d k) : Dv L 5 (us ++ [("*" : Str)]) (.tup [.str "star", d]) k
  | up4 {us : List Str} {d : D} {k : Nat} (h : Dv L 5 us d k) : Dv L 4 us d k
  | not {us : List Str} {d : D} {k : Nat} (h : Dv L 4 us d k) : Dv L 4 (("!" : Str) :: us) (.tup [.str "not", d]) (k + 1)
  | up3 {us : List Str} {d : D} {k : Nat} (h : Dv L 4 us d k) : Dv L 3 us d k
  | row {us vs : List Str} {d e : D} {k j : Nat} (h : Dv L 3 us d k) (h' : Dv L 4 vs e j) : Dv L 3 (us ++ vs) (.tup [.str "row", d, e]) (max k j)
  | up2 {us : List Str} {d : D} {k : Nat} (h : Dv L 3 us d k) : Dv L 2 us d k
  | and {us vs : List Str} {d e : D} {k j : Nat} (h : Dv L 2 us d k) (h' : Dv L 3 vs e j) : Dv L 2 (us ++ ("&" : Str) :: vs) (.tup [.str "and", d, e]) (max k j)
  | up1 {us : List Str} {d : D} {k : Nat} (h : Dv L 2 us d k) : Dv L 1 us d k
  | or {us vs : List Str} {d e : D} {k j : Nat} (h : Dv L 1 us d k) (h' : Dv L 2 vs e j) : Dv L 1 (us ++ ("|" : Str) :: vs) (.tup [.str "or", d, e]) (max k j)
def At (ts : List Tk) (now : Nat) (us : List Str) : Prop := ∀ i u, us[i]? = some u → nx ts (now + i) u
theorem At.left {now : Nat} {us vs : List Str} (h : At ts now (us ++ vs)) : At ts now us := fun i u e => h i u (by rw [List.getElem?_append_left (List.getElem?_eq_some_iff.mp e).1]; exact e)
theorem At.right {now : Nat} {us vs : List Str} (h : At ts now (us ++ vs)) : At ts (now + us.length) vs := fun i u e => by
  have := h (us.length + i) u (by rw [List.getElem?_append_right (Nat.le_add_right _ _), Nat.add_sub_cancel_left]; exact e)
  rw [Nat.add_assoc]
  exact this
theorem At.head {now : Nat} {u : Str} {us : List Str} (h : At ts now (u :: us)) : nx ts now u := h 0 u rfl
theorem At.tail {now : Nat} {u : Str} {us : List Str} (h : At ts now (u :: us)) : At ts (now + 1) us := fun i v e => by
  have := h (i + 1) v (by rw [List.getElem?_cons_succ]; exact e)
  rw [show now + 1 + i = now + (i + 1) by omega]
  exact this
theorem bgn_letter {c : Nat} (h : c ∈ L.cps.toList) : bgn L (ch c) = some true := by
  unfold bgn
  split
  · rfl
  split
  · rfl
  split
  · rename_i _ _ e
    have : [c] = ("" : Str).cps.toList := congrArg (fun s : Str => s.cps.toList) e
    exact absurd this (by simp [show ("" : Str).cps.toList = [] by decide])
  · show some (decide (c ∈ L.cps.toList)) = some true
    rw [decide_eq_true h]
theorem bgn_atom {s : Str} {d : D} (h : atomOf s = some d) : bgn L s = some true := by
  unfold bgn
  rw [h]
  rfl
theorem bgn_sign (s : Str) (h : s = "!" ∨ s = "(" ∨ s = "@") : bgn L s = some true := by
  unfold bgn
  rw [if_pos h, ite_self]
theorem dv_first {l : Nat} {us : List Str} {d : D} {k : Nat} (h : Dv L l us d k) : ∃ u r, us = u :: r ∧ bgn L u = some true := by
  induction h with
  | atom h => exact ⟨_, _, rfl, bgn_atom h⟩
  | letter _ h => exact ⟨_, _, rfl, bgn_letter h⟩
  | name => exact ⟨_, _, rfl, bgn_sign _ (.inr (.inr rfl))⟩
  | br => exact ⟨_, _, rfl, bgn_sign _ (.inr (.inl rfl))⟩
  | not => exact ⟨_, _, rfl, bgn_sign _ (.inl rfl)⟩
  | star _ ih => obtain ⟨u, r, rfl, h⟩ := ih; exact ⟨_, _, rfl, h⟩
  | row _ _ ih => obtain ⟨u, r, rfl, h⟩ := ih; exact ⟨_, _, rfl, h⟩
  | and _ _ ih => obtain ⟨u, r, rfl, h⟩ := ih; exact ⟨_, _, rfl, h⟩
  | or _ _ ih => obtain ⟨u, r, rfl, h⟩ := ih; exact ⟨_, _, rfl, h⟩
  | up4 _ ih => exact ih
  | up3 _ ih => exact ih
  | up2 _ ih => exact ih
  | up1 _ ih => exact ih
theorem dv_pos {l : Nat} {us : List Str} {d : D} {k : Nat} (h : Dv L l us d k) : 0 < us.length := by
  obtain ⟨u, r, rfl, _⟩ := dv_first h
  exact Nat.succ_pos _
/-- what the parser does on them -/
def PS (L : Str) (ts : List Tk) (lvl : Nat) (us : List Str) (d : D) (k : Nat) : Prop := ∀ (J deep now : Nat), k ≤ J → deep + k ≤ 60 → At ts now us → match lvl with
  | 5 => ∀ r, RS ts d (now + us.length) r → pHead (J + 1) L ts deep now = some r
  | 4 => ∀ u, nx ts (now + us.length) u → u ≠ "*" → pHead (J + 1) L ts deep now = some (.ok (d, now + us.length))
  | 3 => ∀ u r, nx ts (now + us.length) u → u ≠ "*" → RR L ts (pHead (J + 1) L ts deep) d (now + us.length) r → pRows (pHead (J + 1)) L ts deep now = some r
  | 2 => ∀ u r, nx ts (now + us.length) u → u ≠ "*" → bgn L u = some false → RB ts "&" "and" (pRows (pHead (J + 1)) L ts deep) d (now + us.length) r → pAnds (pHead (J + 1)) L ts deep now = some r
  | _ => ∀ u r, nx ts (now + us.length) u → u ≠ "*" → bgn L u = some false → u ≠ "&" → RB ts "|" "or" (pAnds (pHead (J + 1)) L ts deep) d (now + us.length) r → pOrs (pHead (J + 1)) L ts deep now = some r
theorem abc_ne {c : Nat} (h : isAbc c = true) : ch c ≠ "!" ∧ ch c ≠ "(" ∧ ch c ≠ "@" ∧ ch c ≠ "*" ∧ ch c ≠ "" ∧ atomOf (ch c) = none := by
  have key : ∀ s : Str, ch c = s → s.cps.toList = [c] := fun s e => by rw [← e]; rfl
  have ne : ∀ (s : Str) (x : Nat), s.cps.toList = [x] → isAbc x = false → ch c ≠ s := fun s x e1 e2 e => by
    have := key s e
    rw [e1] at this
    have : x = c := (List.cons.inj this).1
    subst this
    rw [e2] at h
    cases h
  have n0 : ch c ≠ "" := fun e => by
    have := key _ e
    rw [show ("" : Str).cps.toList = [] by decide] at this
    cases this
  refine ⟨ne "!" 33 (by decide) (by decide), ne "(" 40 (by decide) (by decide), ne "@" 64 (by decide) (by decide), ne "*" 42 (by decide) (by decide), n0, ?_⟩
  unfold atomOf
  rw [if_neg (ne "0" 48 (by decide) (by decide)), if_neg (ne "1" 49 (by decide) (by decide)), if_neg (ne "." 46 (by decide) (by decide))]
theorem head_atom {J deep now : Nat} {u : Str} {r : Res} (hu : nx ts now u) (n : u ≠ "!") {d : D} {m : Nat} (ha : pAtom (pOrs (pHead J)) L ts deep now = some (.ok (d, m))) (hr : RS ts d m r) : pHead (J + 1) L ts deep now = some r := by
  obtain ⟨q, e⟩ := hu
  unfold pHead
  rw [e]
  dsimp only
  rw [if_neg n, ha]
  exact hr.top
theorem atom_plain {J deep now : Nat} {u : Str} (hu : nx ts now u) (h1 : u ≠ "(") (h2 : u ≠ "@") (hb : bgn L u = some true) : pAtom (pOrs (pHead J)) L ts deep now = some (.ok ((atomOf u).getD (.tup [.str "letter", .str u]), now + 1)) := by
  obtain ⟨q, e⟩ := hu
  unfold pAtom
  rw [e]
  dsimp only
  rw [if_neg h1, hb]
  dsimp only
  rw [if_neg h2]
theorem atom_sp {s : Str} {d : D} (h : atomOf s = some d) : s ≠ "!" ∧ s ≠ "(" ∧ s ≠ "@" := by
  refine ⟨fun e => ?_, fun e => ?_, fun e => ?_⟩ <;> subst e <;> revert h <;> unfold atomOf <;> rw [if_neg (by decide), if_neg (by decide), if_neg (by decide)] <;> exact fun h => by cases h
theorem bgn_ne (u v : Str) (h : bgn L u = some true) (h2 : bgn L v = some false) : u ≠ v := fun e => by
  rw [e, h2] at h
  cases h
theorem dv_ps {lvl : Nat} {us : List Str} {d : D} {k : Nat} (nL : bgn L ")" = some false ∧ bgn L "*" = some false ∧ bgn L "&" = some false ∧ bgn L "|" = some false) (h : Dv L lvl us d k) : PS L ts lvl us d k := by
  induction h with
  | atom h =>
    intro J deep now hk hd hA r hr
    obtain ⟨n1, n2, n3⟩ := atom_sp h
    refine head_atom hA.head n1 (atom_plain hA.head n2 n3 (bgn_atom h)) ?_
    rw [h]
    exact hr
  | letter ha h =>
    intro J deep now hk hd hA r hr
    obtain ⟨n1, n2, n3, n4, n5, n6⟩ := abc_ne ha
    refine head_atom hA.head n1 (atom_plain hA.head n2 n3 (bgn_letter h)) ?_
    rw [n6]
    exact hr
  | name h ha =>
    intro J deep now hk hd hA r hr
    obtain ⟨q, e⟩ := hA.head
    obtain ⟨q2, e2⟩ := hA.tail.head
    refine head_atom hA.head (by decide) (m := now + 2) (d := .tup [.str "name", .str _]) ?_ hr
    unfold pAtom
    rw [e]
    dsimp only
    rw [if_neg (by decide), bgn_sign _ (.inr (.inr rfl))]
    dsimp only
    rw [if_pos rfl, e2]
    dsimp only
    have hl : (12 : Nat) ≤ sizeLine := by rw [sizeLine_eq]; decide
    rw [if_neg, if_pos h]
    unfold nmOk at h
    split at h
    · cases h
    · rw [Bool.and_eq_true] at h
      have := of_decide_eq_true h.2
      omega
  | br h ih =>
    intro J deep now hk hd hA r hr
    cases J with
    | zero => omega
    | succ J =>
      obtain ⟨q, e⟩ := hA.head
      have hA2 := hA.tail
      have hc : nx ts (now + 1 + _) ")" := hA2.right.head
      have := ih J (deep + 1) (now + 1) (by omega) (by omega) hA2.left ")" _ hc (by decide) nL.1 (by decide) (RB.stop hc (by decide))
      rw [List.length_cons, List.length_append] at hr
      refine head_atom hA.head (by decide) ?_ hr
      unfold pAtom
      rw [e]
      dsimp only
      rw [if_pos rfl, if_neg (by omega), this]
      obtain ⟨q2, e2⟩ := hc
      dsimp only [andR]
      rw [e2]
      dsimp only
      rw [if_pos rfl]
      exact congrArg (fun n => some (Except.ok (_, n))) (by simp only [List.length_cons, List.length_nil]; omega)
  | star h ih =>
    intro J deep now hk hd hA r hr
    rw [List.length_append] at hr
    exact ih J deep now hk hd hA.left r (RS.go hA.right.head hr)
  | up4 h ih =>
    intro J deep now hk hd hA u hu nu
    exact ih J deep now hk hd hA _ (RS.stop hu nu)
  | not h ih =>
    intro J deep now hk hd hA u hu nu
    cases J with
    | zero => omega
    | succ J =>
      obtain ⟨q, e⟩ := hA.head
      rw [List.length_cons, show ∀ n, now + (n + 1) = now + 1 + n by omega] at hu ⊢
      have := ih J (deep + 1) (now + 1) (by omega) (by omega) hA.tail u hu nu
      unfold pHead
      rw [e]
      dsimp only
      rw [if_pos rfl, if_neg (by omega), this]
      rfl
  | up3 h ih =>
    intro J deep now hk hd hA u r hu nu hr
    have := ih J deep now hk hd hA u hu nu
    unfold pRows
    rw [this]
    exact hr.top
  | row h h' ih ih' =>
    intro J deep now hk hd hA u r hu nu hr
    obtain ⟨v, vr, rfl, hv⟩ := dv_first h'
    rw [List.length_append, ← Nat.add_assoc] at hu hr
    have hR := hA.right
    have h4 := ih' J deep _ (by omega) (by omega) hR u hu nu
    refine ih J deep now (by omega) (by omega) hA.left v r hR.head (bgn_ne _ _ hv nL.2.1) ?_
    exact RR.go hR.head hv h4 (by have := dv_pos h'; omega) hr
  | up2 h ih =>
    intro J deep now hk hd hA u r hu nu hb hr
    have := ih J deep now hk hd hA u _ hu nu (RR.stop hu hb)
    unfold pAnds
    rw [this]
    exact hr.top
  | and h h' ih ih' =>
    intro J deep now hk hd hA u r hu nu hb hr
    rw [List.length_append, List.length_cons, show ∀ a b, now + (a + (b + 1)) = now + a + 1 + b by omega] at hu hr
    have hR := hA.right
    have h4 := ih' J deep _ (by omega) (by omega) hR.tail u _ hu nu (RR.stop hu hb)
    refine ih J deep now (by omega) (by omega) hA.left "&" r hR.head (by decide) nL.2.2.1 ?_
    exact RB.go hR.head h4 (by omega) hr
  | up1 h ih =>
    intro J deep now hk hd hA u r hu nu hb na hr
    have := ih J deep now hk hd hA u _ hu nu hb (RB.stop hu na)
    show pOrs _ _ _ _ _ = _
    unfold pOrs
    rw [this]
    exact hr.top
  | or h h' ih ih' =>
    intro J deep now hk hd hA u r hu nu hb na hr
    rw [List.length_append, List.length_cons, show ∀ a b, now + (a + (b + 1)) = now + a + 1 + b by omega] at hu hr
    have hR := hA.right
    have h4 := ih' J deep _ (by omega) (by omega) hR.tail u _ hu nu hb (RB.stop hu na)
    refine ih J deep now (by omega) (by omega) hA.left "|" r hR.head (by decide) nL.2.2.2 (by decide) ?_
    exact RB.go hR.head h4 (by omega) hr
end

end
end K87

namespace K87
open PySem PySem.Spec PyProof.Rows L2 DL
section
variable {P : Program} {w : World} {K : PySem.W.Frag} {mg : Str → Option Value} {base : Heap} {ad : Ad}
/-! ### .. where a token can't stand */ -/
section
variable {L : Str} {ts : List Tk}
def wants : List Str := ["(", "!", "|", "&", "@"]
def Must (us : List Str) (a : Nat) : Prop := a = 0 ∨ ∃ v, us[a - 1]? = some v ∧ v ∈ wants
structure BadTk (L u : Str) : Prop where
  b : bgn L u = some false
  o : u ≠ "|"
  n : u ≠ "&"
  s : u ≠ "*"
  c : u ≠ ")"
def Halt (i q : Nat) (must : Prop) (r : Option Res) : Prop := r = some (.error q) ∨ (¬ must ∧ ∃ d, r = some (.ok (d, i)))
theorem Halt.imp {i q : Nat} {m m' : Prop} {r : Option Res} (h : Halt i q m r) (k : m' → m) : Halt i q m' r := h.imp_right fun ⟨a, b⟩ => ⟨fun z => a (k z), b⟩
theorem must_left {us vs : List Str} {a : Nat} (h : a ≤ us.length) (m : Must (us ++ vs) a) : Must us a := by
  rcases m with m | ⟨v, e, hv⟩
  · exact .inl m
  · by_cases h0 : a = 0
    · exact .inl h0
    · exact .inr ⟨v, by rw [← e, List.getElem?_append_left (by omega)], hv⟩
theorem must_right {us vs : List Str} {a : Nat} (h : 1 ≤ a) (m : Must (us ++ vs) (us.length + a)) : Must vs a := by
  rcases m with m | ⟨v, e, hv⟩
  · omega
  · rw [show us.length + a - 1 = us.length + (a - 1) by omega, List.getElem?_append_right (Nat.le_add_right _ _), Nat.add_sub_cancel_left] at e
    exact .inr ⟨v, e, hv⟩
theorem dv_last {l : Nat} {us : List Str} {d : D} {k : Nat} (hL : ∀ c ∈ L.cps.toList, isAbc c = true) (h : Dv L l us d k) : ∃ v, us[us.length - 1]? = some v ∧ v ∉ wants := by
  have snoc : ∀ (us : List Str) (v : Str), (us ++ [v])[(us ++ [v]).length - 1]? = some v := fun us v => by simp
  have app : ∀ (us vs : List Str), 0 < vs.length → (us ++ vs)[(us ++ vs).length - 1]? = vs[vs.length - 1]? := fun us vs h => by
    rw [List.length_append, show us.length + vs.length - 1 = us.length + (vs.length - 1) by omega, List.getElem?_append_right (Nat.le_add_right _ _), Nat.add_sub_cancel_left]
  induction h with
  | atom h =>
    refine ⟨_, rfl, fun hm => ?_⟩
    obtain ⟨n1, n2, n3⟩ := atom_sp h
    revert h
    simp only [wants, List.mem_cons, List.not_mem_nil, or_false] at hm
    rcases hm with rfl | rfl | rfl | rfl | rfl <;> unfold atomOf <;> rw [if_neg (by decide), if_neg (by decide), if_neg (by decide)] <;> exact fun h => by cases h
  | @letter c ha h =>
    refine ⟨_, rfl, fun hm => ?_⟩
    have key : ∀ (s : Str) (x : Nat), s.cps.toList = [x] → isAbc x = false → ch c ≠ s := fun s x e1 e2 e => by
      have h1 : s.cps.toList = [c] := by rw [← e]; rfl
      rw [e1] at h1
      have : x = c := (List.cons.inj h1).1
      subst this
      rw [e2] at ha
      cases ha
    simp only [wants, List.mem_cons, List.not_mem_nil, or_false] at hm
    rcases hm with e | e | e | e | e
    · exact key "(" 40 (by decide) (by decide) e
    · exact key "!" 33 (by decide) (by decide) e
    · exact key "|" 124 (by decide) (by decide) e
    · exact key "&" 38 (by decide) (by decide) e
    · exact key "@" 64 (by decide) (by decide) e
  | name h ha =>
    refine ⟨_, rfl, fun hm => ?_⟩
    revert h
    simp only [wants, List.mem_cons, List.not_mem_nil, or_false] at hm
    rcases hm with rfl | rfl | rfl | rfl | rfl <;> decide
  | br h ih => exact ⟨")", by rw [← List.cons_append]; exact snoc _ _, by decide⟩
  | star h ih => exact ⟨"*", snoc _ _, by decide⟩
  | up4 h ih => exact ih
  | up3 h ih => exact ih
  | up2 h ih => exact ih
  | up1 h ih => exact ih
  | not h ih =>
    obtain ⟨v, e, n⟩ := ih
    exact ⟨v, by rw [← e]; exact app [("!" : Str)] _ (dv_pos h), n⟩
  | row h h' ih ih' =>
    obtain ⟨v, e, n⟩ := ih'
    exact ⟨v, by rw [← e]; exact app _ _ (dv_pos h'), n⟩
  | @and us vs d e' k j h h' ih ih' =>
    obtain ⟨v, e, n⟩ := ih'
    exact ⟨v, by rw [← e]; exact (app us (("&" : Str) :: vs) (by simp)).trans (app [("&" : Str)] vs (dv_pos h')), n⟩
  | @or us vs d e' k j h h' ih ih' =>
    obtain ⟨v, e, n⟩ := ih'
    exact ⟨v, by rw [← e]; exact (app us (("|" : Str) :: vs) (by simp)).trans (app [("|" : Str)] vs (dv_pos h')), n⟩
theorem dv_nomust {l : Nat} {us vs : List Str} {d : D} {k : Nat} (hL : ∀ c ∈ L.cps.toList, isAbc c = true) (h : Dv L l us d k) : ¬ Must (us ++ vs) us.length := fun m => by
  have p := dv_pos h
  obtain ⟨v, e, n⟩ := dv_last hL h
  rcases must_left (Nat.le_refl _) m with m | ⟨w, e', hw⟩
  · omega
  · rw [e] at e'
    have := Option.some.inj e'
    subst this
    exact n hw
theorem head_bad {J deep now q : Nat} {u : Str} (e : ts[now]? = some (u, q)) (hb : bgn L u = some false) : pHead (J + 1) L ts deep now = some (.error q) := by
  have n1 : u ≠ "!" := fun z => by rw [z, bgn_sign _ (.inl rfl)] at hb; cases hb
  have n2 : u ≠ "(" := fun z => by rw [z, bgn_sign _ (.inr (.inl rfl))] at hb; cases hb
  unfold pHead
  rw [e]
  dsimp only
  rw [if_neg n1]
  unfold pAtom
  rw [e]
  dsimp only
  rw [if_neg n2, hb]
  rfl
def PB (L : Str) (ts : List Tk) (lvl : Nat) (us : List Str) (k : Nat) : Prop := ∀ (J deep now a q : Nat) (u : Str), k ≤ J → deep + k ≤ 60 → a < us.length → At ts now (us.take a) → ts[now + a]? = some (u, q) → BadTk L u → (1 ≤ a → us[a - 1]? = some ("@" : Str) → nmOk u = false ∧ u.length ≤ sizeLine) → match lvl with
  | 5 => Halt (now + a) q (Must us a) (pHead (J + 1) L ts deep now)
  | 4 => Halt (now + a) q (Must us a) (pHead (J + 1) L ts deep now)
  | 3 => Halt (now + a) q (Must us a) (pRows (pHead (J + 1)) L ts deep now)
  | 2 => Halt (now + a) q (Must us a) (pAnds (pHead (J + 1)) L ts deep now)
  | _ => Halt (now + a) q (Must us a) (pOrs (pHead (J + 1)) L ts deep now)
/-- .. of two parts with a sign between them, what the second part brings -/
theorem at_left {us vs : List Str} {now a : Nat} (h : At ts now ((us ++ vs).take a)) (l : a ≤ us.length) : At ts now (us.take a) := by
  rw [List.take_append_of_le_length l] at h
  exact h
theorem at_right {us vs : List Str} {now a : Nat} (h : At ts now ((us ++ vs).take (us.length + a))) : At ts now us ∧ At ts (now + us.length) (vs.take a) := by
  rw [List.take_length_add_append] at h
  exact ⟨h.left, h.right⟩
theorem ix_left {us vs : List Str} {a : Nat} {v : Str} (l : a ≤ us.length) (h1 : 1 ≤ a) (h : us[a - 1]? = some v) : (us ++ vs)[a - 1]? = some v := by
  rw [List.getElem?_append_left (by omega)]
  exact h
theorem ix_right {us vs : List Str} {a : Nat} {v : Str} (h1 : 1 ≤ a) (h : vs[a - 1]? = some v) : (us ++ vs)[us.length + a - 1]? = some v := by
  rw [show us.length + a - 1 = us.length + (a - 1) by omega, List.getElem?_append_right (Nat.le_add_right _ _), Nat.add_sub_cancel_left]
  exact h
theorem dv_pb {lvl : Nat} {us : List Str} {d : D} {k : Nat} (nL : bgn L ")" = some false ∧ bgn L "*" = some false ∧ bgn L "&" = some false ∧ bgn L "|" = some false) (hL : ∀ c ∈ L.cps.toList, isAbc c = true) (h : Dv L lvl us d k) : PB L ts lvl us k := by
  induction h with
  | atom h =>
    intro J deep now a q u hk hd ha hA e hb hn
    have a0 : a = 0 := by simp at ha; exact ha
    subst a0
    exact .inl (head_bad e hb.b)
  | letter _ h =>
    intro J deep now a q u hk hd ha hA e hb hn
    have a0 : a = 0 := by simp at ha; exact ha
    subst a0
    exact .inl (head_bad e hb.b)
  | name h ha =>
    intro J deep now a q u hk hd ha hA e hb hn
    match a, ha, hA, e, hn with
    | 0, ha, hA, e, hn => exact .inl (head_bad e hb.b)
    | 1, ha, hA, e, hn =>
      obtain ⟨n1, n2⟩ := hn (Nat.le_refl _) rfl
      obtain ⟨q0, e0⟩ := hA.head
      refine .inl ?_
      unfold pHead
      rw [e0]
      dsimp only
      rw [if_neg (by decide)]
      unfold pAtom
      rw [e0]
      dsimp only
      rw [if_neg (by decide), bgn_sign _ (.inr (.inr rfl))]
      dsimp only
      rw [if_pos rfl, e]
      dsimp only
      rw [if_neg (by omega), if_neg (by rw [n1]; exact Bool.false_ne_true)]
      rfl
  | @br us d k h ih =>
    intro J deep now a q u hk hd ha hA e hb hn
    match a, ha, hA, e, hn with
    | 0, ha, hA, e, hn => exact .inl (head_bad e hb.b)
    | a + 1, ha, hA, e, hn =>
      rw [List.take_succ_cons] at hA
      obtain ⟨q0, e0⟩ := hA.head
      have hA := hA.tail
      cases J with
      | zero => omega
      | succ J =>
        have e : ts[now + 1 + a]? = some (u, q) := by rw [← e]; congr 1; omega
        have fin : ∀ d', pOrs (pHead (J + 1)) L ts (deep + 1) (now + 1) = some (.ok (d', now + 1 + a)) → pHead (J + 1 + 1) L ts deep now = some (.error q) := fun d' h => by
          unfold pHead
          rw [e0]
          dsimp only
          rw [if_neg (by decide)]
          unfold pAtom
          rw [e0]
          dsimp only
          rw [if_pos rfl, if_neg (by omega), h]
          dsimp only [andR]
          rw [e]
          dsimp only
          rw [if_neg hb.c]
        simp only [List.length_cons, List.length_append, List.length_nil] at ha
        by_cases hlt : a < us.length
        · rcases ih J (deep + 1) (now + 1) a q u (by omega) (by omega) hlt (at_left hA (by omega)) e hb (fun h1 h2 => hn (by omega) (by
              rw [show a + 1 - 1 = (a - 1) + 1 by omega, List.getElem?_cons_succ]
              exact ix_left (by omega) h1 h2)) with h | ⟨_, d', h⟩
          · refine .inl ?_
            unfold pHead
            rw [e0]
            dsimp only
            rw [if_neg (by decide)]
            unfold pAtom
            rw [e0]
            dsimp only
            rw [if_pos rfl, if_neg (by omega), h]
            rfl
          · exact .inl (fin d' h)
        · have ea : a = us.length := by omega
          subst ea
          rw [List.take_append_of_le_length (Nat.le_refl _), List.take_length] at hA
          exact .inl (fin d (dv_ps nL h J (deep + 1) (now + 1) (by omega) (by omega) hA u _ ⟨q, e⟩ hb.s hb.b hb.n (RB.stop ⟨q, e⟩ hb.o)))
  | @star us d k h ih =>
    intro J deep now a q u hk hd ha hA e hb hn
    simp only [List.length_cons, List.length_append, List.length_nil] at ha
    by_cases hlt : a < us.length
    · exact (ih J deep now a q u hk hd hlt (at_left hA (by omega)) e hb (fun h1 h2 => hn h1 (ix_left (by omega) h1 h2))).imp (must_left (by omega))
    · have ea : a = us.length := by omega
      subst ea
      rw [List.take_append_of_le_length (Nat.le_refl _), List.take_length] at hA
      exact .inr ⟨dv_nomust hL h, d, dv_ps nL h J deep now hk hd hA _ (RS.stop ⟨q, e⟩ hb.s)⟩
  | up4 h ih => exact ih
  | @not us d k h ih =>
    intro J deep now a q u hk hd ha hA e hb hn
    match a, ha, hA, e, hn with
    | 0, ha, hA, e, hn => exact .inl (head_bad e hb.b)
    | a + 1, ha, hA, e, hn =>
      rw [List.take_succ_cons] at hA
      obtain ⟨q0, e0⟩ := hA.head
      have hA := hA.tail
      cases J with
      | zero => omega
      | succ J =>
        have e : ts[now + 1 + a]? = some (u, q) := by rw [← e]; congr 1; omega
        have := ih J (deep + 1) (now + 1) a q u (by omega) (by omega) (by simpa using ha) hA e hb (fun h1 h2 => hn (by omega) (by
              rw [show a + 1 - 1 = (a - 1) + 1 by omega, List.getElem?_cons_succ]
              exact h2))
        rcases this with h | ⟨hm, d', h⟩
        · refine .inl ?_
          unfold pHead
          rw [e0]
          dsimp only
          rw [if_pos rfl, if_neg (by omega), h]
          rfl
        · refine .inr ⟨fun m => hm ?_, .tup [.str "not", d'], ?_⟩
          · by_cases h0 : a = 0
            · exact .inl h0
            · exact must_right (us := [("!" : Str)]) (by omega) (by rw [Nat.add_comm]; exact m)
          · unfold pHead
            rw [e0]
            dsimp only
            rw [if_pos rfl, if_neg (by omega), h]
            dsimp only [andR]
            rw [show now + 1 + a = now + (a + 1) by omega]
  | @up3 us d k h ih =>
    intro J deep now a q u hk hd ha hA e hb hn
    rcases ih J deep now a q u hk hd ha hA e hb hn with h | ⟨hm, d', h⟩
    · refine .inl ?_
      unfold pRows
      rw [h]
      rfl
    · refine .inr ⟨hm, d', ?_⟩
      unfold pRows
      rw [h]
      exact (RR.stop ⟨q, e⟩ hb.b).top
  | @row us vs d e' k j h h' ih ih' =>
    intro J deep now a q u hk hd ha hA e hb hn
    simp only [List.length_append] at ha
    by_cases hlt : a < us.length
    · exact (ih J deep now a q u (by omega) (by omega) hlt (at_left hA (by omega)) e hb (fun h1 h2 => hn h1 (ix_left (by omega) h1 h2))).imp (must_left (by omega))
    · obtain ⟨b, rfl⟩ := Nat.exists_eq_add_of_le (show us.length ≤ a by omega)
      obtain ⟨hA1, hA2⟩ := at_right hA
      have sp := dv_ps nL h J deep now (by omega) (by omega) hA1
      by_cases b0 : b = 0
      · subst b0
        rw [Nat.add_zero] at e ⊢
        exact .inr ⟨dv_nomust hL h, d, sp u _ ⟨q, e⟩ hb.s (RR.stop ⟨q, e⟩ hb.b)⟩
      · obtain ⟨v, vr, rfl, hv⟩ := dv_first h'
        obtain ⟨b, rfl⟩ := Nat.exists_eq_succ_of_ne_zero b0
        have hv0 : nx ts (now + us.length) v := by
          rw [List.take_succ_cons] at hA2
          exact hA2.head
        have e : ts[now + us.length + (b + 1)]? = some (u, q) := by rw [← e]; congr 1; omega
        have en : now + us.length + (b + 1) = now + (us.length + (b + 1)) := by omega
        rcases ih' J deep (now + us.length) (b + 1) q u (by omega) (by omega) (by omega) hA2 e hb (fun h1 h2 => hn (by omega) (ix_right h1 h2)) with h2 | ⟨hm, d2, h2⟩
        · exact .inl (sp v _ hv0 (bgn_ne _ _ hv nL.2.1) (RR.err hv0 hv h2))
        · rw [en] at h2 e
          exact .inr ⟨fun m => hm (must_right (by omega) m), _, sp v _ hv0 (bgn_ne _ _ hv nL.2.1) (RR.go hv0 hv h2 (by omega) (RR.stop ⟨q, e⟩ hb.b))⟩
  | @up2 us d k h ih =>
    intro J deep now a q u hk hd ha hA e hb hn
    rcases ih J deep now a q u hk hd ha hA e hb hn with h | ⟨hm, d', h⟩
    · refine .inl ?_
      unfold pAnds
      rw [h]
      rfl
    · refine .inr ⟨hm, d', ?_⟩
      unfold pAnds
      rw [h]
      exact (RB.stop ⟨q, e⟩ hb.n).top
  | @and us vs d e' k j h h' ih ih' =>
    intro J deep now a q u hk hd ha hA e hb hn
    simp only [List.length_append, List.length_cons] at ha
    by_cases hlt : a < us.length
    · exact (ih J deep now a q u (by omega) (by omega) hlt (at_left hA (by omega)) e hb (fun h1 h2 => hn h1 (ix_left (by omega) h1 h2))).imp (must_left (by omega))
    · obtain ⟨b, rfl⟩ := Nat.exists_eq_add_of_le (show us.length ≤ a by omega)
      obtain ⟨hA1, hA2⟩ := at_right hA
      have sp := dv_ps nL h J deep now (by omega) (by omega) hA1
      by_cases b0 : b = 0
      · subst b0
        rw [Nat.add_zero] at e ⊢
        exact .inr ⟨dv_nomust hL h, d, sp u _ ⟨q, e⟩ hb.s hb.b (RB.stop ⟨q, e⟩ hb.n)⟩
      · obtain ⟨b, rfl⟩ := Nat.exists_eq_succ_of_ne_zero b0
        rw [List.take_succ_cons] at hA2
        have hs := hA2.head
        have e : ts[now + us.length + 1 + b]? = some (u, q) := by rw [← e]; congr 1; omega
        have en : now + us.length + 1 + b = now + (us.length + (b + 1)) := by omega
        rcases ih' J deep (now + us.length + 1) b q u (by omega) (by omega) (by omega) hA2.tail e hb (fun h1 h2 => hn (by omega) (by
            refine ix_right (by omega) ?_
            rw [show b + 1 - 1 = (b - 1) + 1 by omega, List.getElem?_cons_succ]
            exact h2)) with h2 | ⟨hm, d2, h2⟩
        · exact .inl (sp "&" _ hs (by decide) nL.2.2.1 (RB.err hs h2))
        · rw [en] at h2 e
          refine .inr ⟨fun m => hm ?_, _, sp "&" _ hs (by decide) nL.2.2.1 (RB.go hs h2 (by omega) (RB.stop ⟨q, e⟩ hb.n))⟩
          by_cases h0 : b = 0
          · exact .inl h0
          · refine must_right (us := [("&" : Str)]) (by omega) (must_right (us := us) (by simp) ?_)
            rw [show [("&" : Str)].length + b = b + 1 by simp; omega]
            exact m
  | @up1 us d k h ih =>
    intro J deep now a q u hk hd ha hA e hb hn
    show Halt _ _ _ (pOrs _ _ _ _ _)
    rcases ih J deep now a q u hk hd ha hA e hb hn with h | ⟨hm, d', h⟩
    · refine .inl ?_
      unfold pOrs
      rw [h]
      rfl
    · refine .inr ⟨hm, d', ?_⟩
      unfold pOrs
      rw [h]
      exact (RB.stop ⟨q, e⟩ hb.o).top
  | @or us vs d e' k j h h' ih ih' =>
    intro J deep now a q u hk hd ha hA e hb hn
    show Halt _ _ _ (pOrs _ _ _ _ _)
    simp only [List.length_append, List.length_cons] at ha
    by_cases hlt : a < us.length
    · exact (ih J deep now a q u (by omega) (by omega) hlt (at_left hA (by omega)) e hb (fun h1 h2 => hn h1 (ix_left (by omega) h1 h2))).imp (must_left (by omega))
    · obtain ⟨b, rfl⟩ := Nat.exists_eq_add_of_le (show us.length ≤ a by omega)
      obtain ⟨hA1, hA2⟩ := at_right hA
      have sp := dv_ps nL h J deep now (by omega) (by omega) hA1
      by_cases b0 : b = 0
      · subst b0
        rw [Nat.add_zero] at e ⊢
        exact .inr ⟨dv_nomust hL h, d, sp u _ ⟨q, e⟩ hb.s hb.b hb.n (RB.stop ⟨q, e⟩ hb.o)⟩
      · obtain ⟨b, rfl⟩ := Nat.exists_eq_succ_of_ne_zero b0
        rw [List.take_succ_cons] at hA2
        have hs := hA2.head
        have e : ts[now + us.length + 1 + b]? = some (u, q) := by rw [← e]; congr 1; omega
        have en : now + us.length + 1 + b = now + (us.length + (b + 1)) := by omega
        rcases ih' J deep (now + us.length + 1) b q u (by omega) (by omega) (by omega) hA2.tail e hb (fun h1 h2 => hn (by omega) (by
            refine ix_right (by omega) ?_
            rw [show b + 1 - 1 = (b - 1) + 1 by omega, List.getElem?_cons_succ]
            exact h2)) with h2 | ⟨hm, d2, h2⟩
        · exact .inl (sp "|" _ hs (by decide) nL.2.2.2 (by decide) (RB.err hs h2))
        · rw [en] at h2 e
          refine .inr ⟨fun m => hm ?_, _, sp "|" _ hs (by decide) nL.2.2.2 (by decide) (RB.go hs h2 (by omega) (RB.stop ⟨q, e⟩ hb.o))⟩
          by_cases h0 : b = 0
          · exact .inl h0
          · refine must_right (us := [("|" : Str)]) (by omega) (must_right (us := us) (by simp) ?_)
            rw [show [("|" : Str)].length + b = b + 1 by simp; omega]
            exact m
/-- too deep -/
def opener (u : Str) : Prop := u = "(" ∨ u = "!"
theorem deep_bad : ∀ (m J deep now q : Nat) (u : Str), (∀ i, i < m → nx ts (now + i) "(") ∨ (∀ i, i < m → nx ts (now + i) "!") → deep + m = 60 → m ≤ J → ts[now + m]? = some (u, q) → opener u → pHead (J + 1) L ts deep now = some (.error q)
  | 0, J, deep, now, q, u, _, hd, hJ, e, ho => by
    rw [Nat.add_zero] at e hd
    rcases ho with rfl | rfl
    · unfold pHead
      rw [e]
      dsimp only
      rw [if_neg (by decide)]
      unfold pAtom
      rw [e]
      dsimp only
      rw [if_pos rfl, if_pos hd]
      rfl
    · unfold pHead
      rw [e]
      dsimp only
      rw [if_pos rfl, if_pos hd]
  | m + 1, 0, deep, now, q, u, _, hd, hJ, e, ho => absurd hJ (Nat.not_succ_le_zero _)
  | m + 1, J + 1, deep, now, q, u, h, hd, hJ, e, ho => by
    have e' : ts[now + 1 + m]? = some (u, q) := by rw [← e]; congr 1; omega
    have ih := deep_bad m J (deep + 1) (now + 1) q u (h.imp (fun h i hi => by rw [show now + 1 + i = now + (i + 1) by omega]; exact h (i + 1) (by omega)) (fun h i hi => by rw [show now + 1 + i = now + (i + 1) by omega]; exact h (i + 1) (by omega))) (by omega) (by omega) e' ho
    rcases h with h | h
    · obtain ⟨q0, e0⟩ := h 0 (by omega)
      rw [Nat.add_zero] at e0
      have o : pOrs (pHead (J + 1)) L ts (deep + 1) (now + 1) = some (.error q) := by
        unfold pOrs pAnds pRows
        rw [ih]
        rfl
      unfold pHead
      rw [e0]
      dsimp only
      rw [if_neg (by decide)]
      unfold pAtom
      rw [e0]
      dsimp only
      rw [if_pos rfl, if_neg (by omega), o]
      rfl
    · obtain ⟨q0, e0⟩ := h 0 (by omega)
      rw [Nat.add_zero] at e0
      unfold pHead
      rw [e0]
      dsimp only
      rw [if_pos rfl, if_neg (by omega), ih]
      rfl
end

end
end K87

namespace K87
open PySem PySem.Spec PyProof.Rows L2 DL
section
variable {P : Program} {w : World} {K : PySem.W.Frag} {mg : Str → Option Value} {base : Heap} {ad : Ad}
/-! ### forms and their tokens -/
section
variable {L : Str} {N : List Str}
theorem dv_up {us : List Str} {d : D} {k : Nat} : ∀ {a b : Nat}, Dv L a us d k → b ≤ a → 1 ≤ b → Dv L b us d k := by
  intro a b h hb h1
  have h4 : a = 5 → Dv L 4 us d k := fun e => by subst e; exact .up4 h
  have a5 : a ≤ 5 := by cases h <;> omega
  have d4 : b ≤ 4 → (a = 4 ∨ a = 5) → Dv L 4 us d k := fun _ e => by
    rcases e with rfl | rfl
    · exact h
    · exact .up4 h
  have d3 : b ≤ 3 → (a = 3 ∨ a = 4 ∨ a = 5) → Dv L 3 us d k := fun hb e => by
    rcases e with rfl | e
    · exact h
    · exact .up3 (d4 (by omega) e)
  have d2 : b ≤ 2 → (a = 2 ∨ a = 3 ∨ a = 4 ∨ a = 5) → Dv L 2 us d k := fun hb e => by
    rcases e with rfl | e
    · exact h
    · exact .up2 (d3 (by omega) e)
  have d1 : b ≤ 1 → (a = 1 ∨ a = 2 ∨ a = 3 ∨ a = 4 ∨ a = 5) → Dv L 1 us d k := fun hb e => by
    rcases e with rfl | e
    · exact h
    · exact .up1 (d2 (by omega) e)
  rcases (show b = 1 ∨ b = 2 ∨ b = 3 ∨ b = 4 ∨ b = 5 by omega) with rfl | rfl | rfl | rfl | rfl
  · exact d1 (by omega) (by omega)
  · exact d2 (by omega) (by omega)
  · exact d3 (by omega) (by omega)
  · exact d4 (by omega) (by omega)
  · have : a = 5 := by omega
    subst this
    exact h
theorem dv_brk {us : List Str} {d : D} {k m l : Nat} (h : Dv L m us d k) (m1 : 1 ≤ m) (l5 : l ≤ 5) : ∃ k', k' ≤ k + 1 ∧ (l ≤ m → k' = k) ∧ Dv L (max l 1) (brk (decide (m < l)) us) d k' := by
  by_cases hl : m < l
  · refine ⟨k + 1, Nat.le_refl _, fun z => by omega, ?_⟩
    unfold brk
    rw [if_pos (decide_eq_true hl), List.append_assoc]
    exact dv_up (a := 5) (.br (dv_up h m1 (Nat.le_refl _))) (by omega) (by omega)
  · refine ⟨k, Nat.le_succ _, fun _ => rfl, ?_⟩
    unfold brk
    rw [if_neg (by simp; omega)]
    exact dv_up h (by omega) (by omega)
/-- so deep tokens lie: at most twice the parts -/
theorem fm_dv (hL : ∀ c ∈ L.cps.toList, isAbc c = true) (hN : ∀ n ∈ N, nmOk n = true ∧ ∀ c ∈ n.cps.toList, isAbc c = true) : ∀ (f : Fm) (l : Nat), FmOk L N f → l ≤ 5 → ∃ k, k + 1 ≤ 2 * f.size ∧ Dv L (max l 1) (ltoks f l) f.d k
  | .none, l, _, hl => ⟨0, by show 0 + 1 ≤ 2 * 1; omega, dv_up (a := 5) (.atom rfl) (by omega) (by omega)⟩
  | .empty, l, _, hl => ⟨0, by show 0 + 1 ≤ 2 * 1; omega, dv_up (a := 5) (.atom rfl) (by omega) (by omega)⟩
  | .any, l, _, hl => ⟨0, by show 0 + 1 ≤ 2 * 1; omega, dv_up (a := 5) (.atom rfl) (by omega) (by omega)⟩
  | .letter c, l, h, hl => ⟨0, by show 0 + 1 ≤ 2 * 1; omega, dv_up (a := 5) (.letter (hL c h) h) (by omega) (by omega)⟩
  | .name n, l, h, hl => ⟨0, by show 0 + 1 ≤ 2 * 1; omega, dv_up (a := 5) (.name (hN n h).1 (hN n h).2) (by omega) (by omega)⟩
  | .not f, l, h, hl => by
    obtain ⟨k, h1, h2⟩ := fm_dv hL hN f 4 h (by omega)
    obtain ⟨k', h3, h4, h5⟩ := dv_brk (l := l) (Dv.not h2) (by omega) hl
    refine ⟨k', ?_, h5⟩
    show k' + 1 ≤ 2 * (f.size + 1)
    by_cases hl4 : l ≤ 4
    · rw [h4 hl4]
      omega
    · omega
  | .star f, l, h, hl => by
    obtain ⟨k, h1, h2⟩ := fm_dv hL hN f 5 h (by omega)
    obtain ⟨k', h3, h4, h5⟩ := dv_brk (l := l) (Dv.star h2) (by omega) hl
    refine ⟨k', ?_, h5⟩
    show k' + 1 ≤ 2 * (f.size + 1)
    omega
  | .or f g, l, h, hl => by
    obtain ⟨k, h1, h2⟩ := fm_dv hL hN f 1 h.1 (by omega)
    obtain ⟨j, g1, g2⟩ := fm_dv hL hN g 2 h.2 (by omega)
    obtain ⟨k', h3, h4, h5⟩ := dv_brk (l := l) (Dv.or h2 g2) (by omega) hl
    have := f.size_pos
    have := g.size_pos
    refine ⟨k', ?_, ?_⟩
    · show k' + 1 ≤ 2 * (f.size + g.size)
      omega
    · show Dv L _ (brk _ (ltoks f 1 ++ [("|" : Str)] ++ ltoks g 2)) _ _
      rw [List.append_assoc]
      exact h5
  | .and f g, l, h, hl => by
    obtain ⟨k, h1, h2⟩ := fm_dv hL hN f 2 h.1 (by omega)
    obtain ⟨j, g1, g2⟩ := fm_dv hL hN g 3 h.2 (by omega)
    obtain ⟨k', h3, h4, h5⟩ := dv_brk (l := l) (Dv.and h2 g2) (by omega) hl
    have := f.size_pos
    have := g.size_pos
    refine ⟨k', ?_, ?_⟩
    · show k' + 1 ≤ 2 * (f.size + g.size)
      omega
    · show Dv L _ (brk _ (ltoks f 2 ++ [("&" : Str)] ++ ltoks g 3)) _ _
      rw [List.append_assoc]
      exact h5
  | .row f g, l, h, hl => by
    obtain ⟨k, h1, h2⟩ := fm_dv hL hN f 3 h.1 (by omega)
    obtain ⟨j, g1, g2⟩ := fm_dv hL hN g 4 h.2 (by omega)
    obtain ⟨k', h3, h4, h5⟩ := dv_brk (l := l) (Dv.row h2 g2) (by omega) hl
    have := f.size_pos
    have := g.size_pos
    refine ⟨k', ?_, ?_⟩
    · show k' + 1 ≤ 2 * (f.size + g.size)
      omega
    · show Dv L _ (brk _ (ltoks f 3 ++ [] ++ ltoks g 4)) _ _
      rw [List.append_nil]
      exact h5
/-! tokens that can be told apart -/
def TG : Bool → List Str → Prop
  | _, [] => True
  | b, t :: r => tkGood b t ∧ TG (isAt t) r
def endF (b : Bool) (us : List Str) : Bool := match us.getLast? with
  | none => b
  | some t => isAt t
theorem TG.app : ∀ {us vs : List Str} {b : Bool}, TG b us → TG (endF b us) vs → TG b (us ++ vs)
  | [], _, _, _, h => h
  | [t], _, _, h, h' => ⟨h.1, h'⟩
  | t :: u :: us, vs, b, h, h' => ⟨h.1, TG.app h.2 (by
    have : endF b (t :: u :: us) = endF (isAt t) (u :: us) := by
      unfold endF
      rw [List.getLast?_cons_cons]
      cases e : (u :: us).getLast? with
      | none => simp at e
      | some x => rfl
    rw [this] at h'
    exact h')⟩
theorem endF_snoc (b : Bool) (us : List Str) (t : Str) : endF b (us ++ [t]) = isAt t := by
  unfold endF
  rw [List.getLast?_concat]
theorem endF_app {b : Bool} {us vs : List Str} : endF b (us ++ vs) = endF (endF b us) vs := by
  cases vs with
  | nil =>
    rw [List.append_nil]
    rfl
  | cons v vs =>
    have : (us ++ v :: vs).getLast? = (v :: vs).getLast? := by
      rw [List.getLast?_append]
      cases e : (v :: vs).getLast? with
      | none => simp at e
      | some x => rfl
    unfold endF
    rw [this]
    cases e : (v :: vs).getLast? with
    | none => simp at e
    | some x => rfl
theorem good1 {s : Str} (c : Nat) (h : s.cps.toList = [c]) (hb : isBlk c = false) (b : Bool) (ha : b = true → isAbc c = false) : tkGood b s := .inl ⟨c, h, hb, ha⟩
theorem dv_good {l : Nat} {us : List Str} {d : D} {k : Nat} (hL : ∀ c ∈ L.cps.toList, isAbc c = true) (h : Dv L l us d k) : TG false us ∧ endF false us = false ∧ ∀ t ∈ us, t.length ≤ 12 := by
  have one : ∀ s : Str, s.cps.toList.length = 1 → s.length ≤ 12 := fun s e => by rw [len_cps, e]; decide
  have snd : ∀ {us vs : List Str} {s : Str}, (TG false us ∧ endF false us = false ∧ ∀ t ∈ us, t.length ≤ 12) → (TG false vs ∧ endF false vs = false ∧ ∀ t ∈ vs, t.length ≤ 12) → tkGood false s → isAt s = false → s.length ≤ 12 → (TG false (us ++ s :: vs) ∧ endF false (us ++ s :: vs) = false ∧ ∀ t ∈ us ++ s :: vs, t.length ≤ 12) := by
    intro us vs s h1 h2 h3 h4 h5
    refine ⟨h1.1.app (by rw [h1.2.1]; exact ⟨h3, by rw [h4]; exact h2.1⟩), ?_, fun t ht => ?_⟩
    · rw [endF_app, h1.2.1, show s :: vs = [s] ++ vs from rfl, endF_app]
      show endF (isAt s) vs = false
      rw [h4]
      exact h2.2.1
    · rcases List.mem_append.mp ht with ht | ht
      · exact h1.2.2 t ht
      · rcases List.mem_cons.mp ht with rfl | ht
        · exact h5
        · exact h2.2.2 t ht
  induction h with
  | @atom s d h =>
    have : s = "0" ∨ s = "1" ∨ s = "." := by
      unfold atomOf at h
      by_cases h0 : s = "0"
      · exact .inl h0
      by_cases h1 : s = "1"
      · exact .inr (.inl h1)
      by_cases h2 : s = "."
      · exact .inr (.inr h2)
      rw [if_neg h0, if_neg h1, if_neg h2] at h
      cases h
    rcases this with rfl | rfl | rfl
    · exact ⟨⟨good1 48 (by decide) (by decide) _ (fun z => by cases z), trivial⟩, by decide, fun t ht => by rw [List.mem_singleton.mp ht]; decide⟩
    · exact ⟨⟨good1 49 (by decide) (by decide) _ (fun z => by cases z), trivial⟩, by decide, fun t ht => by rw [List.mem_singleton.mp ht]; decide⟩
    · exact ⟨⟨good1 46 (by decide) (by decide) _ (fun z => by cases z), trivial⟩, by decide, fun t ht => by rw [List.mem_singleton.mp ht]; decide⟩
  | @letter c ha h =>
    refine ⟨⟨good1 c rfl (abc_notBlk ha) _ (fun z => by cases z), trivial⟩, ?_, fun t ht => by rw [List.mem_singleton.mp ht]; exact one _ rfl⟩
    show isAt (ch c) = false
    exact decide_eq_false (abc_ne ha).2.2.1
  | @name n h ha =>
    have hn : n.cps.toList ≠ [] := fun e => by
      unfold nmOk at h
      rw [e] at h
      cases h
    have hl : n.length ≤ 12 := by
      unfold nmOk at h
      split at h
      · cases h
      · rw [Bool.and_eq_true] at h
        exact of_decide_eq_true h.2
    have nat : isAt n = false := by
      cases e : isAt n with
      | false => rfl
      | true =>
        rw [at_cp] at e
        have := ha 64 (by rw [e]; exact List.mem_cons_self)
        exact absurd this (by decide)
    refine ⟨⟨good1 64 (by decide) (by decide) _ (fun z => by cases z), ⟨.inr ⟨rfl, hn, ha⟩, trivial⟩⟩, nat, fun t ht => ?_⟩
    rcases List.mem_cons.mp ht with rfl | ht
    · decide
    · rw [List.mem_singleton.mp ht]
      exact hl
  | br h ih => exact snd (us := []) ⟨trivial, rfl, fun t ht => by cases ht⟩ (snd (vs := []) ih ⟨trivial, rfl, fun t ht => by cases ht⟩ (good1 41 (by decide) (by decide) _ (fun z => by cases z)) (by decide) (by decide)) (good1 40 (by decide) (by decide) _ (fun z => by cases z)) (by decide) (by decide)
  | star h ih => exact snd (vs := []) ih ⟨trivial, rfl, fun t ht => by cases ht⟩ (good1 42 (by decide) (by decide) _ (fun z => by cases z)) (by decide) (by decide)
  | up4 h ih => exact ih
  | up3 h ih => exact ih
  | up2 h ih => exact ih
  | up1 h ih => exact ih
  | not h ih => exact snd (us := []) ⟨trivial, rfl, fun t ht => by cases ht⟩ ih (good1 33 (by decide) (by decide) _ (fun z => by cases z)) (by decide) (by decide)
  | row h h' ih ih' =>
    refine ⟨ih.1.app (by rw [ih.2.1]; exact ih'.1), by rw [endF_app, ih.2.1]; exact ih'.2.1, fun t ht => ?_⟩
    rcases List.mem_append.mp ht with ht | ht
    · exact ih.2.2 t ht
    · exact ih'.2.2 t ht
  | and h h' ih ih' => exact snd ih ih' (good1 38 (by decide) (by decide) _ (fun z => by cases z)) (by decide) (by decide)
  | or h h' ih ih' => exact snd ih ih' (good1 124 (by decide) (by decide) _ (fun z => by cases z)) (by decide) (by decide)
end
/-! ### the tokens that a text with gaps has -/
theorem zip_at : ∀ (xs : Ly) (p i : Nat) (t : Str) (q : Nat), (xs.map (·.2))[i]? = some t → (layP p xs)[i]? = some q → (zipT p xs)[i]? = some (t, q)
  | [], _, _, _, _, h, _ => by simp at h
  | (g, t) :: r, p, 0, t', q, h, h' => by
    have e1 : t = t' := Option.some.inj h
    have e2 : p + g.length = q := Option.some.inj h'
    subst e1 e2
    rfl
  | (g, t) :: r, p, i + 1, t', q, h, h' => zip_at r _ i t' q (by simpa using h) (by simpa [layP] using h')
theorem zip_len : ∀ (xs : Ly) (p : Nat), (zipT p xs).length = xs.length
  | [], _ => rfl
  | (g, t) :: r, p => by show (zipT _ r).length + 1 = _; rw [zip_len r]; rfl
theorem layT_app : ∀ (us zs : Ly), layT (us ++ zs) = layT us ++ layT zs
  | [], zs => rfl
  | (g, t) :: us, zs => by
    show g ++ (t.cps.toList ++ layT (us ++ zs)) = g ++ (t.cps.toList ++ layT us) ++ layT zs
    rw [layT_app us zs]
    simp only [List.append_assoc]
theorem layP_take : ∀ (xs : Ly) (p m : Nat), layP p (xs.take m) = (layP p xs).take m
  | [], p, m => by simp [layP]
  | (g, t) :: r, p, 0 => rfl
  | (g, t) :: r, p, m + 1 => by
    show (p + g.length) :: layP _ (r.take m) = _ :: (layP _ r).take m
    rw [layP_take r]
theorem goodL_of : ∀ (xs : Ly) (b : Bool), (∀ x ∈ xs, allBlk x.1) → TG b (xs.map (·.2)) → GoodL b xs
  | [], _, _, _ => trivial
  | (g, t) :: r, b, h, k => ⟨h (g, t) List.mem_cons_self, k.1, goodL_of r _ (fun x hx => h x (List.mem_cons_of_mem _ hx)) k.2⟩
/-- the first m of them, and the end if these are all -/
theorem tk_gap {pre g0 tail : List Nat} {xs : Ly} {m : Nat} (hg : GapOk xs) (h0 : allBlk g0) (ht : allBlk tail) (hm : m ≤ xs.length) (hT : TG false ((xs.map (·.2)).take m)) :
    (∀ i t q, i < m → (xs.map (·.2))[i]? = some t → (layP (pre.length + g0.length) xs)[i]? = some q → (tkOf (mkS (pre ++ (g0 ++ layT xs ++ tail))) pre.length)[i]? = some (t, q)) ∧
    (m = xs.length → (tkOf (mkS (pre ++ (g0 ++ layT xs ++ tail))) pre.length)[m]? = some (("" : Str), (mkS (pre ++ (g0 ++ layT xs ++ tail))).length)) := by
  unfold tkOf
  rw [mkS_cps, List.drop_left, mkS_len, List.append_assoc g0]
  obtain ⟨n1, h1, e1⟩ := toks_blk g0 (layT xs ++ tail) pre.length false ((pre ++ (g0 ++ (layT xs ++ tail))).length + 1) h0 (by simp; omega)
  rw [e1]
  have eL : (pre ++ (g0 ++ (layT xs ++ tail))).length = pre.length + g0.length + (layT xs).length + tail.length := by
    simp only [List.length_append]
    omega
  rw [eL]
  have sx : xs = xs.take m ++ xs.drop m := (List.take_append_drop m xs).symm
  have eT : layT xs ++ tail = layT (xs.take m) ++ (layT (xs.drop m) ++ tail) := by
    conv => lhs; rw [sx]
    rw [layT_app, List.append_assoc]
  rw [eT] at h1 ⊢
  have sep : SepL (layT (xs.drop m) ++ tail) false (xs.take m) := by
    refine sepL_of (ys := []) (fun x hx => ?_) ht (fun e => by cases e) ?_
    · rw [← sx] at hx
      exact (hg.blk x hx).1
    · rw [← sx]
      exact hg.sep
  obtain ⟨n2, b2, h2, e2⟩ := toks_pre (layT (xs.drop m) ++ tail) (xs.take m) (pre.length + g0.length) false n1 (goodL_of _ _ (fun x hx => (hg.blk x (List.mem_of_mem_take hx)).1) (by rw [List.map_take]; exact hT)) sep h1
  rw [e2]
  have lz : (zipT (pre.length + g0.length) (xs.take m)).length = m := by rw [zip_len, List.length_take]; omega
  refine ⟨fun i t q hi h3 h4 => ?_, fun e => ?_⟩
  · rw [List.getElem?_append_left (by rw [lz]; exact hi)]
    refine zip_at _ _ _ _ _ ?_ ?_
    · rw [List.map_take, List.getElem?_take, if_pos hi]
      exact h3
    · rw [layP_take, List.getElem?_take, if_pos hi]
      exact h4
  · rw [List.getElem?_append_right (by rw [lz]; exact Nat.le_refl _), lz, Nat.sub_self]
    subst e
    rw [List.drop_length] at h2 ⊢
    have e3 := toks_tail tail (pre.length + g0.length + (layT (xs.take xs.length)).length) b2 n2 ht h2
    show (toks n2 tail _ b2)[0]? = _
    rw [e3, List.take_length]
    show some _ = some _
    rfl

end
end K87

namespace K87
open PySem PySem.Spec PyProof.Rows L2 DL
section
variable {P : Program} {w : World} {K : PySem.W.Frag} {mg : Str → Option Value} {base : Heap} {ad : Ad}
/-! ### spoilt tokens -/
def readT (L : Str) (ts : List Tk) : Option (Except Nat D) := match pOrs (pHead 61) L ts 0 0 with
  | none => none
  | some (.error q) => some (.error q)
  | some (.ok x) => match ts[x.2]? with
    | none => none
    | some t => if t.1 = "" then some (.ok x.1) else some (.error t.2)
structure LOk (L : Str) : Prop where
  abc : ∀ c ∈ L.cps.toList, isAbc c = true
  q : 113 ∉ L.cps.toList
  l0 : 0 < L.length
  l1 : L.length ≤ 4
theorem law_ok {L : Str} (h : L ∈ lawLetters) : LOk L := by
  simp only [lawLetters, List.mem_cons, List.not_mem_nil, or_false] at h
  rcases h with rfl | rfl | rfl | rfl <;> exact ⟨by decide, by decide, by decide, by decide⟩
theorem abc_of {L : Str} (h : LOk L) (c : Nat) (hc : isAbc c = false) : c ∉ L.cps.toList := fun z => by rw [h.abc c z] at hc; cases hc
/-- a sign that stands for nothing -/
theorem bgn_no {L s : Str} {c : Nat} (h : s.cps.toList = [c]) (hc : c ∉ L.cps.toList) (ha : atomOf s = none) (n1 : s ≠ "!") (n2 : s ≠ "(") (n3 : s ≠ "@") : bgn L s = some false := by
  unfold bgn
  rw [ha, if_neg (by exact Bool.false_ne_true), if_neg (by intro z; rcases z with z | z | z <;> contradiction), if_neg (by intro z; rw [z, show ("" : Str).cps.toList = [] by decide] at h; cases h), h]
  dsimp only
  rw [decide_eq_false hc]
theorem law_signs {L : Str} (h : LOk L) : bgn L ")" = some false ∧ bgn L "*" = some false ∧ bgn L "&" = some false ∧ bgn L "|" = some false :=
  ⟨bgn_no (c := 41) (by decide) (abc_of h _ (by decide)) (by decide) (by decide) (by decide) (by decide), bgn_no (c := 42) (by decide) (abc_of h _ (by decide)) (by decide) (by decide) (by decide) (by decide),
    bgn_no (c := 38) (by decide) (abc_of h _ (by decide)) (by decide) (by decide) (by decide) (by decide), bgn_no (c := 124) (by decide) (abc_of h _ (by decide)) (by decide) (by decide) (by decide) (by decide)⟩
theorem bgn_end (L : Str) : bgn L "" = some false := rfl
/-- right tokens are read -/
theorem read_ok {L : Str} (hL : LOk L) {us : List Str} {d : D} {k q : Nat} {ts : List Tk} (h : Dv L 1 us d k) (hk : k ≤ 60) (hA : At ts 0 us) (he : ts[us.length]? = some (("" : Str), q)) : readT L ts = some (.ok d) := by
  have he' : nx ts (0 + us.length) "" := ⟨q, by rw [Nat.zero_add]; exact he⟩
  have := dv_ps (law_signs hL) h 60 0 0 hk (by omega) hA "" _ he' (by decide) (bgn_end L) (by decide) (RB.stop he' (by decide))
  unfold readT
  rw [this, Nat.zero_add]
  dsimp only
  rw [he]
  rfl
/-- a spoilt row of tokens: the one at at_ is the first that can't stand -/
structure Spoilt (L : Str) (made : List Str) (at_ : Nat) : Prop where
  l : at_ ≤ made.length
  g : TG false (made.take (at_ + 1))
  r : ∀ (ts : List Tk) (q : Nat), At ts 0 (made.take at_) → (∀ t, made[at_]? = some t → ts[at_]? = some (t, q)) → (at_ = made.length → ts[at_]? = some (("" : Str), q)) → readT L ts = some (.error q)
theorem TG.take : ∀ {us : List Str} {b : Bool} (n : Nat), TG b us → TG b (us.take n)
  | [], _, n, _ => by rw [List.take_nil]; trivial
  | t :: r, _, 0, _ => trivial
  | t :: r, _, n + 1, h => ⟨h.1, TG.take n h.2⟩
/-- tokens up to a, then one that stands for nothing -/
theorem halt_read {L : Str} {ts : List Tk} {a q : Nat} {u : Str} {m : Prop} (h : Halt (0 + a) q m (pOrs (pHead 61) L ts 0 0)) (e : ts[a]? = some (u, q)) (n : m ∨ u ≠ "") : readT L ts = some (.error q) := by
  unfold readT
  rcases h with h | ⟨hm, d, h⟩
  · rw [h]
  · rw [h, Nat.zero_add]
    dsimp only
    rw [e]
    dsimp only
    rw [if_neg (n.resolve_left hm)]
section
variable {L : Str} {us : List Str} {d : D} {k : Nat}
theorem bad_read (hL : LOk L) (h : Dv L 1 us d k) (hk : k ≤ 60) {ts : List Tk} {a q : Nat} {u : Str} (ha : a < us.length) (hA : At ts 0 (us.take a)) (e : ts[a]? = some (u, q)) (hb : BadTk L u) (hn : 1 ≤ a → us[a - 1]? = some ("@" : Str) → nmOk u = false ∧ u.length ≤ sizeLine) (n : Must us a ∨ u ≠ "") : readT L ts = some (.error q) :=
  halt_read (dv_pb (law_signs hL) hL.abc h 60 0 0 a q u hk (by omega) ha hA (by rw [Nat.zero_add]; exact e) hb hn) e n
theorem endF_prev {us : List Str} {a : Nat} (ha : a < us.length) (h : endF false (us.take a) = true) : 1 ≤ a ∧ us[a - 1]? = some ("@" : Str) := by
  unfold endF at h
  cases e : (us.take a).getLast? with
  | none => rw [e] at h; cases h
  | some t =>
    rw [e] at h
    have et := of_decide_eq_true h
    subst et
    have a1 : 1 ≤ a := by
      cases a with
      | zero => rw [List.take_zero] at e; cases e
      | succ a => omega
    refine ⟨a1, ?_⟩
    rw [List.getLast?_eq_getElem?, List.length_take, Nat.min_eq_left (by omega), List.getElem?_take, if_pos (by omega)] at e
    exact e
/-- a token exchanged -/
theorem sp_set (hL : LOk L) (h : Dv L 1 us d k) (hk : k ≤ 60) {a : Nat} {u : Str} (ha : a < us.length) (hb : BadTk L u) (hu : u ≠ "") (hg : ∀ b, (b = true → 1 ≤ a ∧ us[a - 1]? = some ("@" : Str)) → tkGood b u) (hn : 1 ≤ a → us[a - 1]? = some ("@" : Str) → nmOk u = false ∧ u.length ≤ sizeLine) : Spoilt L (us.set a u) a := by
  have e1 : (us.set a u).take a = us.take a := by rw [List.take_set, List.set_eq_of_length_le]; rw [List.length_take]; omega
  refine ⟨by rw [List.length_set]; omega, ?_, fun ts q hA e _ => ?_⟩
  · rw [List.take_add_one, e1, List.getElem?_set_self ha]
    exact TG.app ((dv_good hL.abc h).1.take a) ⟨hg _ (endF_prev ha), trivial⟩
  · rw [e1] at hA
    exact bad_read hL h hk ha hA (e u (List.getElem?_set_self ha)) hb hn (.inr hu)
/-- a token too much -/
theorem sp_app (hL : LOk L) (h : Dv L 1 us d k) (hk : k ≤ 60) {u : Str} (hu : u ≠ "") (hb : bgn L u = some false) (n1 : u ≠ "*") (n2 : u ≠ "&") (n3 : u ≠ "|") (hg : tkGood false u) : Spoilt L (us ++ [u]) us.length := by
  refine ⟨by rw [List.length_append]; omega, ?_, fun ts q hA e _ => ?_⟩
  · rw [List.take_of_length_le (by simp)]
    have g := dv_good hL.abc h
    exact TG.app g.1 (by rw [g.2.1]; exact ⟨hg, trivial⟩)
  · rw [List.take_left] at hA
    have e := e u (by rw [List.getElem?_append_right (Nat.le_refl _), Nat.sub_self]; rfl)
    have he' : nx ts (0 + us.length) u := ⟨q, by rw [Nat.zero_add]; exact e⟩
    have := dv_ps (law_signs hL) h 60 0 0 hk (by omega) hA u _ he' n1 hb n2 (RB.stop he' n3)
    exact halt_read (m := False) (.inr ⟨id, d, this⟩) e (.inr hu)
/-- a token ahead of all -/
theorem sp_first {u : Str} (hb : bgn L u = some false) (hg : tkGood false u) : Spoilt L (u :: us) 0 := by
  refine ⟨Nat.zero_le _, ⟨hg, trivial⟩, fun ts q hA e _ => ?_⟩
  have := head_bad (J := 60) (L := L) (deep := 0) (e u rfl) hb
  have o : pOrs (pHead 61) L ts 0 0 = some (.error q) := by
    unfold pOrs pAnds pRows
    rw [this]
    rfl
  unfold readT
  rw [o]
theorem bad_end (L : Str) : BadTk L "" := ⟨bgn_end L, by decide, by decide, by decide, by decide⟩
/-- cut behind a token that wants another one -/
theorem sp_cut (hL : LOk L) (h : Dv L 1 us d k) (hk : k ≤ 60) {a : Nat} {v : Str} (e0 : us[a]? = some v) (hv : v ∈ wants) : Spoilt L (us.take (a + 1)) (us.take (a + 1)).length := by
  have ha : a < us.length := (List.getElem?_eq_some_iff.mp e0).1
  obtain ⟨w, ew, nw⟩ := dv_last hL.abc h
  have ha' : a + 1 < us.length := by
    by_cases z : a + 1 = us.length
    · rw [show us.length - 1 = a by omega, e0] at ew
      exact absurd (Option.some.inj ew ▸ hv) nw
    · omega
  have el : (us.take (a + 1)).length = a + 1 := by rw [List.length_take]; omega
  rw [el]
  refine ⟨by omega, ?_, fun ts q hA _ e => ?_⟩
  · exact ((dv_good hL.abc h).1.take _).take _
  · rw [List.take_take, Nat.min_self] at hA
    exact bad_read hL h hk ha' hA (e el.symm) (bad_end L) (fun _ _ => ⟨rfl, Nat.zero_le _⟩) (.inl (.inr ⟨v, by rw [Nat.add_sub_cancel]; exact e0, hv⟩))
theorem sp_bar (hL : LOk L) (h : Dv L 1 us d k) (hk : k ≤ 60) : Spoilt L (us ++ [("|" : Str)]) (us ++ [("|" : Str)]).length := by
  have h0 : Dv L 1 (us ++ ("|" : Str) :: ["0"]) (.tup [.str "or", d, .tup [.str "none"]]) (max k 0) := .or h (.up2 (.up3 (.up4 (.atom rfl))))
  have := sp_cut hL h0 (by omega) (a := us.length) (v := "|") (by rw [List.getElem?_append_right (Nat.le_refl _), Nat.sub_self]; rfl) (by decide)
  have e : (us ++ ("|" : Str) :: ["0"]).take (us.length + 1) = us ++ [("|" : Str)] := by rw [List.take_length_add_append]; rfl
  rw [e] at this
  exact this
/-- too deep -/
theorem sp_deep {o u : Str} (ho : opener o) (hu : opener u) : Spoilt L (List.replicate 60 o ++ u :: us) 60 := by
  have el : (List.replicate 60 o).length = 60 := List.length_replicate
  have og : ∀ u : Str, opener u → tkGood false u ∧ isAt u = false := fun u h => by
    rcases h with rfl | rfl
    · exact ⟨good1 40 (by decide) (by decide) _ (fun z => by cases z), by decide⟩
    · exact ⟨good1 33 (by decide) (by decide) _ (fun z => by cases z), by decide⟩
  have rep : ∀ n, TG false (List.replicate n o ++ [u]) := fun n => by
    induction n with
    | zero => exact ⟨(og u hu).1, trivial⟩
    | succ n ih => exact ⟨(og o ho).1, by rw [(og o ho).2]; exact ih⟩
  refine ⟨by rw [List.length_append, el]; omega, ?_, fun ts q hA e _ => ?_⟩
  · rw [show (60 : Nat) + 1 = (List.replicate 60 o).length + 1 by rw [el], List.take_length_add_append]
    exact rep 60
  · have e := e u (by rw [List.getElem?_append_right (by rw [el]; exact Nat.le_refl _), el]; rfl)
    rw [show (List.replicate 60 o ++ u :: us).take 60 = List.replicate 60 o by rw [List.take_append_of_le_length (by rw [el]; exact Nat.le_refl _), List.take_of_length_le (by rw [el]; exact Nat.le_refl _)]] at hA
    have hA' : ∀ i, i < 60 → nx ts (0 + i) o := fun i hi => hA i o (by rw [List.getElem?_replicate, if_pos hi])
    have := deep_bad (L := L) (ts := ts) 60 60 0 0 q u (by
      rcases ho with rfl | rfl
      · exact .inl hA'
      · exact .inr hA') rfl (Nat.le_refl _) (by rw [Nat.zero_add]; exact e) hu
    have o : pOrs (pHead 61) L ts 0 0 = some (.error q) := by
      unfold pOrs pAnds pRows
      rw [this]
      rfl
    unfold readT
    rw [o]
end
/-- what a text with gaps is read as -/
theorem sp_read {L : Str} {made : List Str} {a : Nat} (h : Spoilt L made a) {g0 tail : List Nat} {xs : Ly} (hx : xs.map (·.2) = made) (hg : GapOk xs) (h0 : allBlk g0) (ht : allBlk tail) {q : Nat} (hq : (∀ p, (layP g0.length xs)[a]? = some p → q = p) ∧ (a = made.length → q = (mkS (g0 ++ layT xs ++ tail)).length)) : pRead L (mkS (g0 ++ layT xs ++ tail)) 0 = some (.error q) := by
  have lx : xs.length = made.length := by rw [← hx, List.length_map]
  have T1 := (tk_gap (pre := []) (m := min (a + 1) made.length) hg h0 ht (by omega) (by
    rw [hx, ← List.take_eq_take_min]
    exact h.g)).1
  have T2 := tk_gap (pre := []) (m := min (a + 1) made.length) hg h0 ht (by omega) (by
    rw [hx, ← List.take_eq_take_min]
    exact h.g)
  simp only [List.nil_append, List.length_nil, Nat.zero_add] at T1 T2
  have pl : ∀ i, i < made.length → ∃ p, (layP g0.length xs)[i]? = some p := fun i hi => ⟨_, List.getElem?_eq_getElem (by rw [layP_len, lx]; exact hi)⟩
  have := h.l
  refine h.r (tkOf (mkS (g0 ++ layT xs ++ tail)) 0) q ?_ ?_ ?_
  · intro i u hi
    have hia : i < a := by
      have := (List.getElem?_eq_some_iff.mp hi).1
      rw [List.length_take] at this
      omega
    rw [List.getElem?_take, if_pos hia] at hi
    have him := (List.getElem?_eq_some_iff.mp hi).1
    obtain ⟨p, hp⟩ := pl i him
    rw [Nat.zero_add]
    exact ⟨p, T1 i u p (by omega) (by rw [hx]; exact hi) hp⟩
  · intro t hi
    have him := (List.getElem?_eq_some_iff.mp hi).1
    obtain ⟨p, hp⟩ := pl a him
    rw [hq.1 p hp]
    exact T1 a t p (by omega) (by rw [hx]; exact hi) hp
  · intro e
    have := T2.2 (by omega)
    rw [show min (a + 1) made.length = a by omega] at this
    rw [hq.2 e]
    exact this

end
end K87

namespace K87
open PySem PySem.Spec PyProof.Rows L2 DL
section
variable {P : Program} {w : World} {K : PySem.W.Frag} {mg : Str → Option Value} {base : Heap} {ad : Ad}
/-! ### the law's spoilt texts -/
def NOk (N : List Str) : Prop := N.length < 1000 ∧ ∀ n ∈ N, nmOk n = true ∧ ∀ c ∈ n.cps.toList, isAbc c = true
def F_spoilt : FD := fun ds M Qd _ => ∃ (d : Nat) (L : Str) (N : List Str) (f : Fm), ds = [.ptr d, .str L, .lst ((ltoks f 0).map .str)] ∧ DrAt M d ∧ L ∈ lawLetters ∧ NOk N ∧ FmOk L N f ∧ f.size ≤ 20 ∧
  ∀ (z : Str) (q : Nat) (M' : Mm), z.length < 1000000 → pRead L z 0 = some (.error q) → DrS d M M' → Qd (.tup [.str z, .int q]) M'
/-! _law_spoilt -/
def w_spoilt_5 (K : PySem.W.Frag) (w : World) (ad : Ad) : SW := dAsg (dOp wIx (dLst (dCons (dC (.str "?")) (dCons (dC (.str "A")) (dCons (dC (.str "2")) (dCons (dC (.str "#")) (dCons (dC (.str "'")) (dCons (dC (.str "=")) dNil))))))) (dCallS 2 F_draw (dCons (dVar 0) (dCons (dC (.int 6)) dNil)))) (dgSet (dVar 5) (dVar 4))
def w_spoilt_9 (K : PySem.W.Frag) (w : World) (ad : Ad) : SW := dAsg (dC (.str "?")) (dgSet (dVar 5) (dVar 4))
def w_spoilt_8 (K : PySem.W.Frag) (w : World) (ad : Ad) : SW := dIf (dAnd (dTest (dOp wGt (dVar 4) (dC (.int 0)))) (dTest (dOp wEqF (dOp wIx (dVar 5) (dOp wSub (dVar 4) (dC (.int 1)))) (dC (.str "@"))))) (w_spoilt_9 K w ad) dNext
def w_spoilt_7 (K : PySem.W.Frag) (w : World) (ad : Ad) : SW := dSeq (dAsg (dOp wIx (dSoE (dLc (diStr (dC (.str "qzab"))) 6 (dTest (dOp wNotInS (dVar 6) (dVar 1))) (dVar 6))) (dC (.int 0))) (dgSet (dVar 5) (dVar 4))) (w_spoilt_8 K w ad)
def w_spoilt_12 (K : PySem.W.Frag) (w : World) (ad : Ad) : SW := dDrop (dAppend (dVar 5) (dCons (dOp wIx (dLst (dCons (dC (.str ")")) (dCons (dC (.str "?")) (dCons (dC (.str "A")) dNil)))) (dCallS 2 F_draw (dCons (dVar 0) (dCons (dC (.int 3)) dNil)))) dNil))
def w_spoilt_11 (K : PySem.W.Frag) (w : World) (ad : Ad) : SW := dSeq (dAsg (dCall wLen (dCons (dVar 5) dNil)) (dgName 4)) (w_spoilt_12 K w ad)
def w_spoilt_15 (K : PySem.W.Frag) (w : World) (ad : Ad) : SW := dAsg (dOp wAdd (dLst (dCons (dOp wIx (dLst (dCons (dC (.str ")")) (dCons (dC (.str "*")) (dCons (dC (.str "|")) (dCons (dC (.str "&")) dNil))))) (dCallS 2 F_draw (dCons (dVar 0) (dCons (dC (.int 4)) dNil)))) dNil)) (dVar 5)) (dgName 5)
def w_spoilt_14 (K : PySem.W.Frag) (w : World) (ad : Ad) : SW := dSeq (dAsg (dC (.int 0)) (dgName 4)) (w_spoilt_15 K w ad)
def w_spoilt_19 (K : PySem.W.Frag) (w : World) (ad : Ad) : SW := dAsg (dSl (dVar 5) dNo (dPart (dOp wAdd (dOp wIx (dVar 7) (dCallS 2 F_draw (dCons (dVar 0) (dCons (dCall wLen (dCons (dVar 7) dNil)) dNil)))) (dC (.int 1))))) (dgName 5)
def w_spoilt_21 (K : PySem.W.Frag) (w : World) (ad : Ad) : SW := dAsg (dOp wAdd (dVar 5) (dLst (dCons (dC (.str "|")) dNil))) (dgName 5)
def w_spoilt_22 (K : PySem.W.Frag) (w : World) (ad : Ad) : SW := dAsg (dCall wLen (dCons (dVar 5) dNil)) (dgName 4)
def w_spoilt_18 (K : PySem.W.Frag) (w : World) (ad : Ad) : SW := dSeq (dIf (dTest (dOp wGt (dCall wLen (dCons (dVar 7) dNil)) (dC (.int 0)))) (w_spoilt_19 K w ad) (w_spoilt_21 K w ad)) (w_spoilt_22 K w ad)
def w_spoilt_17 (K : PySem.W.Frag) (w : World) (ad : Ad) : SW := dSeq (dSo (dAsg (dLc (diRng1 (dCall wLen (dCons (dVar 5) dNil))) 8 (dTest (dOp (wInL false) (dOp wIx (dVar 5) (dVar 8)) (dTup (dCons (dC (.str "(")) (dCons (dC (.str "!")) (dCons (dC (.str "|")) (dCons (dC (.str "&")) (dCons (dC (.str "@")) dNil)))))))) (dVar 8)) (dgName 7))) (w_spoilt_18 K w ad)
def w_spoilt_26 (K : PySem.W.Frag) (w : World) (ad : Ad) : SW := dAsg (dOp wAdd (dOp wAdd (dVar 9) (dLst (dCons (dOp wIx (dLst (dCons (dC (.str "(")) (dCons (dC (.str "!")) dNil))) (dCallS 2 F_draw (dCons (dVar 0) (dCons (dC (.int 2)) dNil)))) dNil))) (dVar 5)) (dgName 5)
def w_spoilt_25 (K : PySem.W.Frag) (w : World) (ad : Ad) : SW := dSeq (dAsg (dC (.int 60)) (dgName 4)) (w_spoilt_26 K w ad)
def w_spoilt_24 (K : PySem.W.Frag) (w : World) (ad : Ad) : SW := dSeq (dAsg (dOp wIx (dLst (dCons (dSoE (dLc (diRng1 (dC (.int 60))) 8 dYes (dC (.str "(")))) (dCons (dSoE (dLc (diRng1 (dC (.int 60))) 8 dYes (dC (.str "!")))) dNil))) (dCallS 2 F_draw (dCons (dVar 0) (dCons (dC (.int 2)) dNil)))) (dgName 9)) (w_spoilt_25 K w ad)
def w_spoilt_16 (K : PySem.W.Frag) (w : World) (ad : Ad) : SW := dIf (dTest (dOp wEqF (dVar 3) (dC (.int 4)))) (w_spoilt_17 K w ad) (w_spoilt_24 K w ad)
def w_spoilt_13 (K : PySem.W.Frag) (w : World) (ad : Ad) : SW := dIf (dTest (dOp wEqF (dVar 3) (dC (.int 3)))) (w_spoilt_14 K w ad) (w_spoilt_16 K w ad)
def w_spoilt_10 (K : PySem.W.Frag) (w : World) (ad : Ad) : SW := dIf (dTest (dOp wEqF (dVar 3) (dC (.int 2)))) (w_spoilt_11 K w ad) (w_spoilt_13 K w ad)
def w_spoilt_6 (K : PySem.W.Frag) (w : World) (ad : Ad) : SW := dIf (dTest (dOp wEqF (dVar 3) (dC (.int 1)))) (w_spoilt_7 K w ad) (w_spoilt_10 K w ad)
def w_spoilt_28 (K : PySem.W.Frag) (w : World) (ad : Ad) : SW := dRet (dTup (dCons (dVar 10) (dCons (dIfE (dTest (dOp wLt (dVar 4) (dCall wLen (dCons (dVar 11) dNil)))) (dOp wIx (dVar 11) (dVar 4)) (dCall wLen (dCons (dVar 10) dNil))) dNil)))
def w_spoilt_27 (K : PySem.W.Frag) (w : World) (ad : Ad) : SW := dSeq (dAsg (dCallS 2 F_gaps (dCons (dVar 0) (dCons (dVar 5) dNil))) (dgTupF (dgCons (dgName 10) (dgCons (dgName 11) dgNil)) 2)) (w_spoilt_28 K w ad)
def w_spoilt_4 (K : PySem.W.Frag) (w : World) (ad : Ad) : SW := dSeq (dIf (dTest (dOp wEqF (dVar 3) (dC (.int 0)))) (w_spoilt_5 K w ad) (w_spoilt_6 K w ad)) (w_spoilt_27 K w ad)
def w_spoilt_3 (K : PySem.W.Frag) (w : World) (ad : Ad) : SW := dSeq (dAsg (dCall wListM (dCons (dVar 2) dNil)) (dgName 5)) (w_spoilt_4 K w ad)
def w_spoilt_2 (K : PySem.W.Frag) (w : World) (ad : Ad) : SW := dSeq (dAsg (dCallS 2 F_draw (dCons (dVar 0) (dCons (dCall wLen (dCons (dVar 2) dNil)) dNil))) (dgName 4)) (w_spoilt_3 K w ad)
def w_spoilt_1 (K : PySem.W.Frag) (w : World) (ad : Ad) : SW := dSeq (dAsg (dCallS 2 F_draw (dCons (dVar 0) (dCons (dC (.int 6)) dNil))) (dgName 3)) (w_spoilt_2 K w ad)
def w_spoilt (K : PySem.W.Frag) (w : World) (ad : Ad) : SW := (w_spoilt_1 K w ad)
theorem y_spoilt (T : Txt P w K mg ad) (E : XK) : DSs (XB P w K mg base n_spoilt "_law_spoilt" (defScope s_spoilt) ad.f_spoilt 2 E) K (WF E) (defBody s_spoilt) (w_spoilt K w ad) := by
  unfold w_spoilt w_spoilt_1 w_spoilt_2 w_spoilt_3 w_spoilt_4 w_spoilt_27 w_spoilt_28 w_spoilt_6 w_spoilt_10 w_spoilt_13 w_spoilt_16 w_spoilt_24 w_spoilt_25 w_spoilt_26 w_spoilt_17 w_spoilt_18 w_spoilt_22 w_spoilt_21 w_spoilt_19 w_spoilt_14 w_spoilt_15 w_spoilt_11 w_spoilt_12 w_spoilt_7 w_spoilt_8 w_spoilt_9 w_spoilt_5
  exact (dss_cons (ds_set 3 (de_callS (fun _ => (fo_draw T)) (fun i => (xb_room i).mono (by decide)) (fun i => xb_takes i) (fun _ => T.g_draw) (fun _ => T.F_draw.kp) (fun _ => T.b_draw) (da_cons (de_var 0) (da_cons de_int da_nil))) (fun _ => sc_spoilt.nd)) (dss_cons (ds_set 4 (de_callS (fun _ => (fo_draw T)) (fun i => (xb_room i).mono (by decide)) (fun i => xb_takes i) (fun _ => T.g_draw) (fun _ => T.F_draw.kp) (fun _ => T.b_draw) (da_cons (de_var 0) (da_cons (de_callB (dc_len fun _ => rfl) (fun _ => T.n_len) PyProof.Rows.Boot.«len» (da_cons (de_var 2) da_nil)) da_nil))) (fun _ => sc_spoilt.nd)) (dss_cons (ds_set 5 (de_callT (dc_listM fun _ => rfl) (fun _ => T.n_list) PyProof.Rows.Boot.«list» (da_cons (de_var 2) da_nil)) (fun _ => sc_spoilt.nd)) (dss_cons (ds_if (dt_cmp do_eqF (de_var 3) de_int) (dss_one (ds_asg (de_ix (fun _ => rfl) (de_lst (da_cons de_str (da_cons de_str (da_cons de_str (da_cons de_str (da_cons de_str (da_cons de_str da_nil))))))) (de_callS (fun _ => (fo_draw T)) (fun i => (xb_room i).mono (by decide)) (fun i => xb_takes i) (fun _ => T.g_draw) (fun _ => T.F_draw.kp) (fun _ => T.b_draw) (da_cons (de_var 0) (da_cons de_int da_nil)))) (dg_set (de_var 5) (de_var 4)))) (dss_one (ds_if (dt_cmp do_eqF (de_var 3) de_int) (dss_cons (ds_asg (de_ix (fun _ => rfl) (de_so (de_lc 6 (fun _ => rfl) (fun _ => sc_spoilt.nd) (di_str de_str) (fun _ => blkOk_by (own := [("letter", 6)]) (N := n_spoilt) (sc := defScope s_spoilt) (by decide +kernel)) (fun _ => pg_name (i := 6) sc_spoilt.nd rfl (Or.inl rfl)) (dts_one (dt_cmp do_notInS (de_var 6) (de_var 1))) (de_var 6))) de_int) (dg_set (de_var 5) (de_var 4))) (dss_one (ds_if (dpw_pt (dpw_and (dt_cmp do_gt (de_var 4) de_int) (dpw_and1 (dt_cmp do_eqF (de_ix (fun _ => rfl) (de_var 5) (de_op do_subI (de_var 4) de_int)) de_str)))) (dss_one (ds_asg de_str (dg_set (de_var 5) (de_var 4)))) dss_nil))) (dss_one (ds_if (dt_cmp do_eqF (de_var 3) de_int) (dss_cons (ds_set 4 (de_callB (dc_len fun _ => rfl) (fun _ => T.n_len) PyProof.Rows.Boot.«len» (da_cons (de_var 5) da_nil)) (fun _ => sc_spoilt.nd)) (dss_one (ds_expr (de_append (fun _ => rfl) (de_var 5) (da_cons (de_ix (fun _ => rfl) (de_lst (da_cons de_str (da_cons de_str (da_cons de_str da_nil)))) (de_callS (fun _ => (fo_draw T)) (fun i => (xb_room i).mono (by decide)) (fun i => xb_takes i) (fun _ => T.g_draw) (fun _ => T.F_draw.kp) (fun _ => T.b_draw) (da_cons (de_var 0) (da_cons de_int da_nil)))) da_nil))))) (dss_one (ds_if (dt_cmp do_eqF (de_var 3) de_int) (dss_cons (ds_set 4 de_int (fun _ => sc_spoilt.nd)) (dss_one (ds_set 5 (de_op do_add (de_lst (da_cons (de_ix (fun _ => rfl) (de_lst (da_cons de_str (da_cons de_str (da_cons de_str (da_cons de_str da_nil))))) (de_callS (fun _ => (fo_draw T)) (fun i => (xb_room i).mono (by decide)) (fun i => xb_takes i) (fun _ => T.g_draw) (fun _ => T.F_draw.kp) (fun _ => T.b_draw) (da_cons (de_var 0) (da_cons de_int da_nil)))) da_nil)) (de_var 5)) (fun _ => sc_spoilt.nd)))) (dss_one (ds_if (dt_cmp do_eqF (de_var 3) de_int) (dss_cons (ds_so (ds_setLc 7 8 (fun _ => rfl) (fun _ => sc_spoilt.nd) (fun _ => rfl) (fun _ => rfl) (fun _ => sw_true rfl rfl rfl (by decide +kernel)) (di_rng1 (fun _ => T.n_range) (de_callB (dc_len fun _ => rfl) (fun _ => T.n_len) PyProof.Rows.Boot.«len» (da_cons (de_var 5) da_nil))) (fun _ => blkOk_by (own := [("k", 8)]) (N := n_spoilt) (sc := defScope s_spoilt) (by decide +kernel)) (fun _ => pg_name (i := 8) sc_spoilt.nd rfl (Or.inl rfl)) (dts_one (dt_cmp (do_inL fun _ => rfl) (de_ix (fun _ => rfl) (de_var 5) (de_var 8)) (de_tup (da_cons de_str (da_cons de_str (da_cons de_str (da_cons de_str (da_cons de_str da_nil)))))))) (de_var 8))) (dss_cons (ds_if (dt_cmp do_gt (de_callB (dc_len fun _ => rfl) (fun _ => T.n_len) PyProof.Rows.Boot.«len» (da_cons (de_var 7) da_nil)) de_int) (dss_one (ds_set 5 (de_slice (fun _ => rfl) (de_var 5) dol_none (dol_some (de_op do_add (de_ix (fun _ => rfl) (de_var 7) (de_callS (fun _ => (fo_draw T)) (fun i => (xb_room i).mono (by decide)) (fun i => xb_takes i) (fun _ => T.g_draw) (fun _ => T.F_draw.kp) (fun _ => T.b_draw) (da_cons (de_var 0) (da_cons (de_callB (dc_len fun _ => rfl) (fun _ => T.n_len) PyProof.Rows.Boot.«len» (da_cons (de_var 7) da_nil)) da_nil)))) de_int))) (fun _ => sc_spoilt.nd))) (dss_one (ds_set 5 (de_op do_add (de_var 5) (de_lst (da_cons de_str da_nil))) (fun _ => sc_spoilt.nd)))) (dss_one (ds_set 4 (de_callB (dc_len fun _ => rfl) (fun _ => T.n_len) PyProof.Rows.Boot.«len» (da_cons (de_var 5) da_nil)) (fun _ => sc_spoilt.nd))))) (dss_cons (ds_set 9 (de_ix (fun _ => rfl) (de_lst (da_cons (de_so (de_lc 8 (fun _ => rfl) (fun _ => sc_spoilt.nd) (di_rng1 (fun _ => T.n_range) de_int) (fun _ => blkOk_by (own := [("k", 8)]) (N := n_spoilt) (sc := defScope s_spoilt) (by decide +kernel)) (fun _ => pg_name (i := 8) sc_spoilt.nd rfl (Or.inl rfl)) dts_nil de_str)) (da_cons (de_so (de_lc 8 (fun _ => rfl) (fun _ => sc_spoilt.nd) (di_rng1 (fun _ => T.n_range) de_int) (fun _ => blkOk_by (own := [("k", 8)]) (N := n_spoilt) (sc := defScope s_spoilt) (by decide +kernel)) (fun _ => pg_name (i := 8) sc_spoilt.nd rfl (Or.inl rfl)) dts_nil de_str)) da_nil))) (de_callS (fun _ => (fo_draw T)) (fun i => (xb_room i).mono (by decide)) (fun i => xb_takes i) (fun _ => T.g_draw) (fun _ => T.F_draw.kp) (fun _ => T.b_draw) (da_cons (de_var 0) (da_cons de_int da_nil)))) (fun _ => sc_spoilt.nd)) (dss_cons (ds_set 4 de_int (fun _ => sc_spoilt.nd)) (dss_one (ds_set 5 (de_op do_add (de_op do_add (de_var 9) (de_lst (da_cons (de_ix (fun _ => rfl) (de_lst (da_cons de_str (da_cons de_str da_nil))) (de_callS (fun _ => (fo_draw T)) (fun i => (xb_room i).mono (by decide)) (fun i => xb_takes i) (fun _ => T.g_draw) (fun _ => T.F_draw.kp) (fun _ => T.b_draw) (da_cons (de_var 0) (da_cons de_int da_nil)))) da_nil))) (de_var 5)) (fun _ => sc_spoilt.nd)))))))))))))) (dss_cons (ds_asg (de_callS (fun _ => (fo_gaps T)) (fun i => (xb_room i).mono (by decide)) (fun i => xb_takes i) (fun _ => T.g_gaps) (fun _ => T.F_gaps.kp) (fun _ => T.b_gaps) (da_cons (de_var 0) (da_cons (de_var 5) da_nil))) (dg_tup (n := 2) (fun _ => rfl) (fun _ => rfl) (dgs_cons (dg_var 10 (fun _ => sc_spoilt.nd)) (dgs_cons (dg_var 11 (fun _ => sc_spoilt.nd)) dgs_nil)))) (dss_one (ds_ret (de_tup (da_cons (de_var 10) (da_cons (de_ifE (dt_cmp do_lt (de_var 4) (de_callB (dc_len fun _ => rfl) (fun _ => T.n_len) PyProof.Rows.Boot.«len» (da_cons (de_var 11) da_nil))) (de_ix (fun _ => rfl) (de_var 11) (de_var 4)) (de_callB (dc_len fun _ => rfl) (fun _ => T.n_len) PyProof.Rows.Boot.«len» (da_cons (de_var 10) da_nil))) da_nil))))))))))
theorem gap_len {g0 tail : List Nat} {xs : Ly} {made : List Str} (hx : xs.map (·.2) = made) (hg : GapOk xs) (l0 : g0.length ≤ 3) (lt : tail.length ≤ 3) (hl : made.length ≤ 1000) (h12 : ∀ t ∈ made, t.length ≤ 12) : (mkS (g0 ++ layT xs ++ tail)).length < 1000000 := by
  have := lay_sh (i := made.length) l0 hg (by rw [List.take_length]; exact hx) hl h12
  rw [mkS_len, List.length_append]
  omega
theorem u_spoilt_27 {M M' t : Mm} {d a : Nat} {L : Str} {made : List Str} {md d2 d3 : D} {o6 o7 o8 o9 o10 o11 : Option D} {Qd : DK} {Xd : XD} (hw : Wf M.length M) (hlt : d < M.length) (hd : DrS d M M') (lm : lsOf (M' ++ t) md = some (made.map .str)) (nm : md ≠ .ptr d) (sp : Spoilt L made a) (hl : made.length ≤ 1000) (h12 : ∀ t ∈ made, t.length ≤ 12)
    (q : ∀ (z : Str) (q : Nat) (M' : Mm), z.length < 1000000 → pRead L z 0 = some (.error q) → DrS d M M' → Qd (.tup [.str z, .int q]) M') :
    w_spoilt_27 K w ad (DsF M Qd Xd) [some (.ptr d), some d2, some d3, o6, some (.int a), some md, o7, o8, o9, o10, o11, none] (M' ++ t) := by
  unfold w_spoilt_27
  simp only [dSeq, dIf, dAsg, dgName, dVar, dC, dOp, dNil, dCons, dTup, dTest, dAnd, dOr, dNot, dIfE, dAndV, dOrV, dNotV, dNext, dRet, dRetN, dDrop, dCall, dCallS, wLen, wI, wAdd, wAddI, wAddS, wAddL, wSub, wMod, wDiv, wPow, wLt, wLe, wGt, wGe, wMulB, wMulS, wEqF, wNeF, wIsN, wNotN, wInS, wNotInS, wIx, dNeg, dAug, dAppend, dLst, dLstM, dLstB, dSl, dPart, dNo, wCut, dBreak, dCont, dRaise, dMeth, dFld, wFld, dSetF, dAugF, dgTupF, dgTup, dgCons, dgNil, dgSet, dThen, dSo, dSoE, wIntC, dChain, dMake, wListC, wListM, dDisp, dPsCons, dPsNil, keysOf, DL.putAll, putD, valD, dUpC, inV, wDGet, wDIn, dDPut, dGet2, dPopAt, dJoin, wInL, dIsX, List.getElem?_cons_zero, List.getElem?_cons_succ, List.getElem?_nil, Option.some.injEq, D.int.injEq, D.str.injEq, D.bl.injEq, D.ptr.injEq, D.lst.injEq, D.tup.injEq, D.scr.injEq, D.xc.injEq, D.kr.injEq, D.ty.injEq, MO.lst.injEq, MO.ins.injEq, MO.dK.injEq, V.int.injEq, V.str.injEq, V.bl.injEq, List.cons.injEq, List.set_cons_zero, List.set_cons_succ, and_true, true_and, or_false, false_or, or_true, true_or, and_false, false_and, exists_false, exists_eq_left, exists_eq_left', exists_eq_right, exists_eq_right', exists_eq, exists_eq', exists_and_left, exists_and_right, exists_const, reduceCtorEq, decide_eq_true_eq, if_true, if_false, List.length_cons, List.length_nil, List.append_nil, List.nil_append, List.cons_append, v_scalI, v_scalS, v_scalB, v_scalN, v_decI, v_decS, v_decB, v_lsL, v_lsP, v_lsI, v_lsS, v_lsB, v_lsT, v_lsN, v_sqT, v_sqL, v_sqP, v_sqI, v_sqS, v_sqB, v_sqN, v_vI, v_vS, v_vB, v_vN, v_vT, v_vL, v_vP, v_sign, v_map, v_at0, v_at1, v_at2, v_at3, v_at4, v_at5, v_ofs, v_eqS, v_eqI, v_dkP, v_bdS, v_bdI, v_bdB, v_bdN, v_bdT, v_bdL, v_bdP, v_bdsN, v_bdsC, v_lastD, v_lastS, v_kyS, v_kyI, v_tt, v_ff, String.reduceEq, List.foldl_cons, List.foldl_nil, List.any_cons, List.any_nil, List.find?_cons, List.find?_nil, Sum.inr.injEq, Sum.inl.injEq, decide_true, decide_false, Bool.or_false, Bool.or_true, Bool.true_or, Bool.false_or, List.append_cancel_left_eq, Bool.false_eq_true, List.map_cons, List.map_nil, List.mapM_cons, List.mapM_nil, Option.pure_def, Option.bind_eq_bind, Option.bind_some, Option.bind_none, Nat.lt_irrefl, Option.map_some, Option.map_none, and_assoc, Nat.zero_add, Nat.reduceAdd, Nat.reduceLeDiff, Nat.le_refl, sizeLine_eq, and_self, forall_const, Bool.not_eq_true', Bool.not_true, Bool.not_false, decide_eq_false_iff_not, ite_not, F_gaps]
  refine ⟨hd.1.app t, nm, made, lm, hl, h12, fun g0 tail xs M2 hx hg h0 l0 ht lt hz d2 => ?_⟩
  obtain ⟨M3, rfl, d3⟩ := d2.app (by rw [hd.len]; exact hlt)
  have d3 := hd.trans d3
  have lx : xs.length = made.length := by rw [← hx, List.length_map]
  have zl := gap_len hx hg l0 lt hl h12
  have fin : ∀ p : Nat, ((∀ p', (layP g0.length xs)[a]? = some p' → p = p') ∧ (a = made.length → p = (mkS (g0 ++ layT xs ++ tail)).length)) → (DsF M Qd Xd).rt (.tup [.str (mkS (g0 ++ layT xs ++ tail)), .int p]) (M3 ++ t) := fun p hp w' d' =>
    UpV.cut (Nat.le_of_eq d3.len.symm) (d3.wf' hw) (.tup (.cons (.str _) (.cons (.int _) .nil))) (q _ p M3 zl (sp_read sp hx hg h0 ht hp) d3)
  unfold GapD w_spoilt_28
  simp only [dSeq, dIf, dAsg, dgName, dVar, dC, dOp, dNil, dCons, dTup, dTest, dAnd, dOr, dNot, dIfE, dAndV, dOrV, dNotV, dNext, dRet, dRetN, dDrop, dCall, dCallS, wLen, wI, wAdd, wAddI, wAddS, wAddL, wSub, wMod, wDiv, wPow, wLt, wLe, wGt, wGe, wMulB, wMulS, wEqF, wNeF, wIsN, wNotN, wInS, wNotInS, wIx, dNeg, dAug, dAppend, dLst, dLstM, dLstB, dSl, dPart, dNo, wCut, dBreak, dCont, dRaise, dMeth, dFld, wFld, dSetF, dAugF, dgTupF, dgTup, dgCons, dgNil, dgSet, dThen, dSo, dSoE, wIntC, dChain, dMake, wListC, wListM, dDisp, dPsCons, dPsNil, keysOf, DL.putAll, putD, valD, dUpC, inV, wDGet, wDIn, dDPut, dGet2, dPopAt, dJoin, wInL, dIsX, List.getElem?_cons_zero, List.getElem?_cons_succ, List.getElem?_nil, Option.some.injEq, D.int.injEq, D.str.injEq, D.bl.injEq, D.ptr.injEq, D.lst.injEq, D.tup.injEq, D.scr.injEq, D.xc.injEq, D.kr.injEq, D.ty.injEq, MO.lst.injEq, MO.ins.injEq, MO.dK.injEq, V.int.injEq, V.str.injEq, V.bl.injEq, List.cons.injEq, List.set_cons_zero, List.set_cons_succ, and_true, true_and, or_false, false_or, or_true, true_or, and_false, false_and, exists_false, exists_eq_left, exists_eq_left', exists_eq_right, exists_eq_right', exists_eq, exists_eq', exists_and_left, exists_and_right, exists_const, reduceCtorEq, decide_eq_true_eq, if_true, if_false, List.length_cons, List.length_nil, List.append_nil, List.nil_append, List.cons_append, v_scalI, v_scalS, v_scalB, v_scalN, v_decI, v_decS, v_decB, v_lsL, v_lsP, v_lsI, v_lsS, v_lsB, v_lsT, v_lsN, v_sqT, v_sqL, v_sqP, v_sqI, v_sqS, v_sqB, v_sqN, v_vI, v_vS, v_vB, v_vN, v_vT, v_vL, v_vP, v_sign, v_map, v_at0, v_at1, v_at2, v_at3, v_at4, v_at5, v_ofs, v_eqS, v_eqI, v_dkP, v_bdS, v_bdI, v_bdB, v_bdN, v_bdT, v_bdL, v_bdP, v_bdsN, v_bdsC, v_lastD, v_lastS, v_kyS, v_kyI, v_tt, v_ff, String.reduceEq, List.foldl_cons, List.foldl_nil, List.any_cons, List.any_nil, List.find?_cons, List.find?_nil, Sum.inr.injEq, Sum.inl.injEq, decide_true, decide_false, Bool.or_false, Bool.or_true, Bool.true_or, Bool.false_or, List.append_cancel_left_eq, Bool.false_eq_true, List.map_cons, List.map_nil, List.mapM_cons, List.mapM_nil, Option.pure_def, Option.bind_eq_bind, Option.bind_some, Option.bind_none, Nat.lt_irrefl, Option.map_some, Option.map_none, and_assoc, Nat.zero_add, Nat.reduceAdd, Nat.reduceLeDiff, Nat.le_refl, sizeLine_eq, and_self, forall_const, Bool.not_eq_true', Bool.not_true, Bool.not_false, decide_eq_false_iff_not, ite_not, List.length_map, layP_len]
  have := sp.l
  split
  · rename_i h
    have ha : a < made.length := by omega
    have e : (layP g0.length xs)[a]? = some ((layP g0.length xs)[a]'(by rw [layP_len]; omega)) := List.getElem?_eq_getElem _
    simp only [dSeq, dIf, dAsg, dgName, dVar, dC, dOp, dNil, dCons, dTup, dTest, dAnd, dOr, dNot, dIfE, dAndV, dOrV, dNotV, dNext, dRet, dRetN, dDrop, dCall, dCallS, wLen, wI, wAdd, wAddI, wAddS, wAddL, wSub, wMod, wDiv, wPow, wLt, wLe, wGt, wGe, wMulB, wMulS, wEqF, wNeF, wIsN, wNotN, wInS, wNotInS, wIx, dNeg, dAug, dAppend, dLst, dLstM, dLstB, dSl, dPart, dNo, wCut, dBreak, dCont, dRaise, dMeth, dFld, wFld, dSetF, dAugF, dgTupF, dgTup, dgCons, dgNil, dgSet, dThen, dSo, dSoE, wIntC, dChain, dMake, wListC, wListM, dDisp, dPsCons, dPsNil, keysOf, DL.putAll, putD, valD, dUpC, inV, wDGet, wDIn, dDPut, dGet2, dPopAt, dJoin, wInL, dIsX, List.getElem?_cons_zero, List.getElem?_cons_succ, List.getElem?_nil, Option.some.injEq, D.int.injEq, D.str.injEq, D.bl.injEq, D.ptr.injEq, D.lst.injEq, D.tup.injEq, D.scr.injEq, D.xc.injEq, D.kr.injEq, D.ty.injEq, MO.lst.injEq, MO.ins.injEq, MO.dK.injEq, V.int.injEq, V.str.injEq, V.bl.injEq, List.cons.injEq, List.set_cons_zero, List.set_cons_succ, and_true, true_and, or_false, false_or, or_true, true_or, and_false, false_and, exists_false, exists_eq_left, exists_eq_left', exists_eq_right, exists_eq_right', exists_eq, exists_eq', exists_and_left, exists_and_right, exists_const, reduceCtorEq, decide_eq_true_eq, if_true, if_false, List.length_cons, List.length_nil, List.append_nil, List.nil_append, List.cons_append, v_scalI, v_scalS, v_scalB, v_scalN, v_decI, v_decS, v_decB, v_lsL, v_lsP, v_lsI, v_lsS, v_lsB, v_lsT, v_lsN, v_sqT, v_sqL, v_sqP, v_sqI, v_sqS, v_sqB, v_sqN, v_vI, v_vS, v_vB, v_vN, v_vT, v_vL, v_vP, v_sign, v_map, v_at0, v_at1, v_at2, v_at3, v_at4, v_at5, v_ofs, v_eqS, v_eqI, v_dkP, v_bdS, v_bdI, v_bdB, v_bdN, v_bdT, v_bdL, v_bdP, v_bdsN, v_bdsC, v_lastD, v_lastS, v_kyS, v_kyI, v_tt, v_ff, String.reduceEq, List.foldl_cons, List.foldl_nil, List.any_cons, List.any_nil, List.find?_cons, List.find?_nil, Sum.inr.injEq, Sum.inl.injEq, decide_true, decide_false, Bool.or_false, Bool.or_true, Bool.true_or, Bool.false_or, List.append_cancel_left_eq, Bool.false_eq_true, List.map_cons, List.map_nil, List.mapM_cons, List.mapM_nil, Option.pure_def, Option.bind_eq_bind, Option.bind_some, Option.bind_none, Nat.lt_irrefl, Option.map_some, Option.map_none, and_assoc, Nat.zero_add, Nat.reduceAdd, Nat.reduceLeDiff, Nat.le_refl, sizeLine_eq, and_self, forall_const, Bool.not_eq_true', Bool.not_true, Bool.not_false, decide_eq_false_iff_not, ite_not, at_nat e]
    refine fin _ ⟨fun p' hp => ?_, fun z => by omega⟩
    rw [e] at hp
    exact Option.some.inj hp
  · rename_i h
    refine ⟨by omega, fin _ ⟨fun p' hp => ?_, fun _ => rfl⟩⟩
    have := (List.getElem?_eq_some_iff.mp hp).1
    rw [layP_len] at this
    omega
def qP (L : Str) : D → Bool
  | .str s => decide (s = "q" ∨ ∀ c ∈ s.cps.toList, c ∉ L.cps.toList)
  | _ => false
theorem qP_q (L : Str) : qP L (.str "q") = true := by
  unfold qP
  exact decide_eq_true (Or.inl rfl)
def wP (us : List Str) : D → Bool
  | .int i => match us[i.toNat]? with
    | some v => decide (("(" : Str) = v) || (decide (("!" : Str) = v) || (decide (("|" : Str) = v) || (decide (("&" : Str) = v) || decide (("@" : Str) = v))))
    | none => false
  | _ => false
theorem fo_spoilt (T : Txt P w K mg ad) : FnOk P w K mg base (L2.CX P w) 3 ad.f_spoilt ad.fd_spoilt p_spoilt (spD K 3 F_spoilt) := by
  refine fn_d T.F_spoilt sc_spoilt (y_spoilt T) fun ds M Qd Xd hl h hw hb => ?_
  obtain ⟨d, L, N, f, rfl, hd, hL, hN, hf, hs, q⟩ := h
  have hlt := hd.lt
  have LO := law_ok hL
  obtain ⟨k, hk, dv⟩ := fm_dv LO.abc hN.2 f 0 hf (by omega)
  have hk60 : k ≤ 60 := by omega
  have ul := ltoks_len f 0
  have u12 := (dv_good LO.abc dv).2.2
  have u0 := dv_pos dv
  have dv : Dv L 1 (ltoks f 0) f.d k := dv
  generalize ltoks f 0 = us at dv ul u12 u0
  unfold w_spoilt w_spoilt_1
  simp only [startD, List.map_cons, List.map_nil, List.length_cons, List.length_nil, Nat.reduceAdd, Nat.reduceSub, List.replicate_succ, List.replicate_zero, List.cons_append, List.nil_append]
  simp only [dSeq, dIf, dAsg, dgName, dVar, dC, dOp, dNil, dCons, dTup, dTest, dAnd, dOr, dNot, dIfE, dAndV, dOrV, dNotV, dNext, dRet, dRetN, dDrop, dCall, dCallS, wLen, wI, wAdd, wAddI, wAddS, wAddL, wSub, wMod, wDiv, wPow, wLt, wLe, wGt, wGe, wMulB, wMulS, wEqF, wNeF, wIsN, wNotN, wInS, wNotInS, wIx, dNeg, dAug, dAppend, dLst, dLstM, dLstB, dSl, dPart, dNo, wCut, dBreak, dCont, dRaise, dMeth, dFld, wFld, dSetF, dAugF, dgTupF, dgTup, dgCons, dgNil, dgSet, dThen, dSo, dSoE, wIntC, dChain, dMake, wListC, wListM, dDisp, dPsCons, dPsNil, keysOf, DL.putAll, putD, valD, dUpC, inV, wDGet, wDIn, dDPut, dGet2, dPopAt, dJoin, wInL, dIsX, List.getElem?_cons_zero, List.getElem?_cons_succ, List.getElem?_nil, Option.some.injEq, D.int.injEq, D.str.injEq, D.bl.injEq, D.ptr.injEq, D.lst.injEq, D.tup.injEq, D.scr.injEq, D.xc.injEq, D.kr.injEq, D.ty.injEq, MO.lst.injEq, MO.ins.injEq, MO.dK.injEq, V.int.injEq, V.str.injEq, V.bl.injEq, List.cons.injEq, List.set_cons_zero, List.set_cons_succ, and_true, true_and, or_false, false_or, or_true, true_or, and_false, false_and, exists_false, exists_eq_left, exists_eq_left', exists_eq_right, exists_eq_right', exists_eq, exists_eq', exists_and_left, exists_and_right, exists_const, reduceCtorEq, decide_eq_true_eq, if_true, if_false, List.length_cons, List.length_nil, List.append_nil, List.nil_append, List.cons_append, v_scalI, v_scalS, v_scalB, v_scalN, v_decI, v_decS, v_decB, v_lsL, v_lsP, v_lsI, v_lsS, v_lsB, v_lsT, v_lsN, v_sqT, v_sqL, v_sqP, v_sqI, v_sqS, v_sqB, v_sqN, v_vI, v_vS, v_vB, v_vN, v_vT, v_vL, v_vP, v_sign, v_map, v_at0, v_at1, v_at2, v_at3, v_at4, v_at5, v_ofs, v_eqS, v_eqI, v_dkP, v_bdS, v_bdI, v_bdB, v_bdN, v_bdT, v_bdL, v_bdP, v_bdsN, v_bdsC, v_lastD, v_lastS, v_kyS, v_kyI, v_tt, v_ff, String.reduceEq, List.foldl_cons, List.foldl_nil, List.any_cons, List.any_nil, List.find?_cons, List.find?_nil, Sum.inr.injEq, Sum.inl.injEq, decide_true, decide_false, Bool.or_false, Bool.or_true, Bool.true_or, Bool.false_or, List.append_cancel_left_eq, Bool.false_eq_true, List.map_cons, List.map_nil, List.mapM_cons, List.mapM_nil, Option.pure_def, Option.bind_eq_bind, Option.bind_some, Option.bind_none, Nat.lt_irrefl, Option.map_some, Option.map_none, and_assoc, Nat.zero_add, Nat.reduceAdd, Nat.reduceLeDiff, Nat.le_refl, sizeLine_eq, and_self, forall_const, Bool.not_eq_true', Bool.not_true, Bool.not_false, decide_eq_false_iff_not, ite_not]
  refine r_dr1 hd (by omega) (by omega) fun kd M1 kd0 kd1 d1 => ?_
  unfold w_spoilt_2
  simp only [dSeq, dIf, dAsg, dgName, dVar, dC, dOp, dNil, dCons, dTup, dTest, dAnd, dOr, dNot, dIfE, dAndV, dOrV, dNotV, dNext, dRet, dRetN, dDrop, dCall, dCallS, wLen, wI, wAdd, wAddI, wAddS, wAddL, wSub, wMod, wDiv, wPow, wLt, wLe, wGt, wGe, wMulB, wMulS, wEqF, wNeF, wIsN, wNotN, wInS, wNotInS, wIx, dNeg, dAug, dAppend, dLst, dLstM, dLstB, dSl, dPart, dNo, wCut, dBreak, dCont, dRaise, dMeth, dFld, wFld, dSetF, dAugF, dgTupF, dgTup, dgCons, dgNil, dgSet, dThen, dSo, dSoE, wIntC, dChain, dMake, wListC, wListM, dDisp, dPsCons, dPsNil, keysOf, DL.putAll, putD, valD, dUpC, inV, wDGet, wDIn, dDPut, dGet2, dPopAt, dJoin, wInL, dIsX, List.getElem?_cons_zero, List.getElem?_cons_succ, List.getElem?_nil, Option.some.injEq, D.int.injEq, D.str.injEq, D.bl.injEq, D.ptr.injEq, D.lst.injEq, D.tup.injEq, D.scr.injEq, D.xc.injEq, D.kr.injEq, D.ty.injEq, MO.lst.injEq, MO.ins.injEq, MO.dK.injEq, V.int.injEq, V.str.injEq, V.bl.injEq, List.cons.injEq, List.set_cons_zero, List.set_cons_succ, and_true, true_and, or_false, false_or, or_true, true_or, and_false, false_and, exists_false, exists_eq_left, exists_eq_left', exists_eq_right, exists_eq_right', exists_eq, exists_eq', exists_and_left, exists_and_right, exists_const, reduceCtorEq, decide_eq_true_eq, if_true, if_false, List.length_cons, List.length_nil, List.append_nil, List.nil_append, List.cons_append, v_scalI, v_scalS, v_scalB, v_scalN, v_decI, v_decS, v_decB, v_lsL, v_lsP, v_lsI, v_lsS, v_lsB, v_lsT, v_lsN, v_sqT, v_sqL, v_sqP, v_sqI, v_sqS, v_sqB, v_sqN, v_vI, v_vS, v_vB, v_vN, v_vT, v_vL, v_vP, v_sign, v_map, v_at0, v_at1, v_at2, v_at3, v_at4, v_at5, v_ofs, v_eqS, v_eqI, v_dkP, v_bdS, v_bdI, v_bdB, v_bdN, v_bdT, v_bdL, v_bdP, v_bdsN, v_bdsC, v_lastD, v_lastS, v_kyS, v_kyI, v_tt, v_ff, String.reduceEq, List.foldl_cons, List.foldl_nil, List.any_cons, List.any_nil, List.find?_cons, List.find?_nil, Sum.inr.injEq, Sum.inl.injEq, decide_true, decide_false, Bool.or_false, Bool.or_true, Bool.true_or, Bool.false_or, List.append_cancel_left_eq, Bool.false_eq_true, List.map_cons, List.map_nil, List.mapM_cons, List.mapM_nil, Option.pure_def, Option.bind_eq_bind, Option.bind_some, Option.bind_none, Nat.lt_irrefl, Option.map_some, Option.map_none, and_assoc, Nat.zero_add, Nat.reduceAdd, Nat.reduceLeDiff, Nat.le_refl, sizeLine_eq, and_self, forall_const, Bool.not_eq_true', Bool.not_true, Bool.not_false, decide_eq_false_iff_not, ite_not, List.length_map]
  refine r_dr1 d1.1 (by omega) (by omega) fun a M2 a0 a1 d2 => ?_
  have d2 := d1.trans d2
  obtain ⟨a, rfl⟩ := Int.eq_ofNat_of_zero_le a0
  have ha : a < us.length := by omega
  unfold w_spoilt_3
  simp only [dSeq, dIf, dAsg, dgName, dVar, dC, dOp, dNil, dCons, dTup, dTest, dAnd, dOr, dNot, dIfE, dAndV, dOrV, dNotV, dNext, dRet, dRetN, dDrop, dCall, dCallS, wLen, wI, wAdd, wAddI, wAddS, wAddL, wSub, wMod, wDiv, wPow, wLt, wLe, wGt, wGe, wMulB, wMulS, wEqF, wNeF, wIsN, wNotN, wInS, wNotInS, wIx, dNeg, dAug, dAppend, dLst, dLstM, dLstB, dSl, dPart, dNo, wCut, dBreak, dCont, dRaise, dMeth, dFld, wFld, dSetF, dAugF, dgTupF, dgTup, dgCons, dgNil, dgSet, dThen, dSo, dSoE, wIntC, dChain, dMake, wListC, wListM, dDisp, dPsCons, dPsNil, keysOf, DL.putAll, putD, valD, dUpC, inV, wDGet, wDIn, dDPut, dGet2, dPopAt, dJoin, wInL, dIsX, List.getElem?_cons_zero, List.getElem?_cons_succ, List.getElem?_nil, Option.some.injEq, D.int.injEq, D.str.injEq, D.bl.injEq, D.ptr.injEq, D.lst.injEq, D.tup.injEq, D.scr.injEq, D.xc.injEq, D.kr.injEq, D.ty.injEq, MO.lst.injEq, MO.ins.injEq, MO.dK.injEq, V.int.injEq, V.str.injEq, V.bl.injEq, List.cons.injEq, List.set_cons_zero, List.set_cons_succ, and_true, true_and, or_false, false_or, or_true, true_or, and_false, false_and, exists_false, exists_eq_left, exists_eq_left', exists_eq_right, exists_eq_right', exists_eq, exists_eq', exists_and_left, exists_and_right, exists_const, reduceCtorEq, decide_eq_true_eq, if_true, if_false, List.length_cons, List.length_nil, List.append_nil, List.nil_append, List.cons_append, v_scalI, v_scalS, v_scalB, v_scalN, v_decI, v_decS, v_decB, v_lsL, v_lsP, v_lsI, v_lsS, v_lsB, v_lsT, v_lsN, v_sqT, v_sqL, v_sqP, v_sqI, v_sqS, v_sqB, v_sqN, v_vI, v_vS, v_vB, v_vN, v_vT, v_vL, v_vP, v_sign, v_map, v_at0, v_at1, v_at2, v_at3, v_at4, v_at5, v_ofs, v_eqS, v_eqI, v_dkP, v_bdS, v_bdI, v_bdB, v_bdN, v_bdT, v_bdL, v_bdP, v_bdsN, v_bdsC, v_lastD, v_lastS, v_kyS, v_kyI, v_tt, v_ff, String.reduceEq, List.foldl_cons, List.foldl_nil, List.any_cons, List.any_nil, List.find?_cons, List.find?_nil, Sum.inr.injEq, Sum.inl.injEq, decide_true, decide_false, Bool.or_false, Bool.or_true, Bool.true_or, Bool.false_or, List.append_cancel_left_eq, Bool.false_eq_true, List.map_cons, List.map_nil, List.mapM_cons, List.mapM_nil, Option.pure_def, Option.bind_eq_bind, Option.bind_some, Option.bind_none, Nat.lt_irrefl, Option.map_some, Option.map_none, and_assoc, Nat.zero_add, Nat.reduceAdd, Nat.reduceLeDiff, Nat.le_refl, sizeLine_eq, and_self, forall_const, Bool.not_eq_true', Bool.not_true, Bool.not_false, decide_eq_false_iff_not, ite_not, d2.len]
  have e1 : M2.length = M.length := d2.len
  have hM : ∀ (M3 : Mm) (u : List D), DrS d M M3 → (M3 ++ [MO.lst u])[M.length]? = some (.lst u) := fun M3 u h => by rw [← h.len]; exact app_last
  have hS : ∀ (M3 : Mm) (u v : List D), DrS d M M3 → (M3 ++ [MO.lst u]).set M.length (.lst v) = M3 ++ [.lst v] := fun M3 u v h => by rw [← h.len]; exact v_lastS _ _ _
  have nd : D.ptr M.length ≠ .ptr d := fun z => by cases z; omega
  have set12 : ∀ (u : Str), u.length ≤ 12 → ∀ t ∈ us.set a u, t.length ≤ 12 := fun u hu t ht => by
    rcases List.mem_or_eq_of_mem_set ht with h | h
    · exact u12 t h
    · rw [h]; exact hu
  have lsP : ∀ (M3 : Mm) (made : List Str), DrS d M M3 → lsOf (M3 ++ [MO.lst (made.map .str)]) (.ptr M.length) = some (made.map .str) := fun M3 made h => by rw [v_lsP, hM M3 _ h]
  have mset : ∀ u : Str, (us.map D.str).set a (.str u) = (us.set a u).map D.str := fun u => by rw [List.map_set]
  have ixa : ixN (us.map D.str).length (a : Int) = some a := ix_nat (by rw [List.length_map]; exact ha)
  unfold w_spoilt_4
  simp only [dSeq, dIf, dAsg, dgName, dVar, dC, dOp, dNil, dCons, dTup, dTest, dAnd, dOr, dNot, dIfE, dAndV, dOrV, dNotV, dNext, dRet, dRetN, dDrop, dCall, dCallS, wLen, wI, wAdd, wAddI, wAddS, wAddL, wSub, wMod, wDiv, wPow, wLt, wLe, wGt, wGe, wMulB, wMulS, wEqF, wNeF, wIsN, wNotN, wInS, wNotInS, wIx, dNeg, dAug, dAppend, dLst, dLstM, dLstB, dSl, dPart, dNo, wCut, dBreak, dCont, dRaise, dMeth, dFld, wFld, dSetF, dAugF, dgTupF, dgTup, dgCons, dgNil, dgSet, dThen, dSo, dSoE, wIntC, dChain, dMake, wListC, wListM, dDisp, dPsCons, dPsNil, keysOf, DL.putAll, putD, valD, dUpC, inV, wDGet, wDIn, dDPut, dGet2, dPopAt, dJoin, wInL, dIsX, List.getElem?_cons_zero, List.getElem?_cons_succ, List.getElem?_nil, Option.some.injEq, D.int.injEq, D.str.injEq, D.bl.injEq, D.ptr.injEq, D.lst.injEq, D.tup.injEq, D.scr.injEq, D.xc.injEq, D.kr.injEq, D.ty.injEq, MO.lst.injEq, MO.ins.injEq, MO.dK.injEq, V.int.injEq, V.str.injEq, V.bl.injEq, List.cons.injEq, List.set_cons_zero, List.set_cons_succ, and_true, true_and, or_false, false_or, or_true, true_or, and_false, false_and, exists_false, exists_eq_left, exists_eq_left', exists_eq_right, exists_eq_right', exists_eq, exists_eq', exists_and_left, exists_and_right, exists_const, reduceCtorEq, decide_eq_true_eq, if_true, if_false, List.length_cons, List.length_nil, List.append_nil, List.nil_append, List.cons_append, v_scalI, v_scalS, v_scalB, v_scalN, v_decI, v_decS, v_decB, v_lsL, v_lsP, v_lsI, v_lsS, v_lsB, v_lsT, v_lsN, v_sqT, v_sqL, v_sqP, v_sqI, v_sqS, v_sqB, v_sqN, v_vI, v_vS, v_vB, v_vN, v_vT, v_vL, v_vP, v_sign, v_map, v_at0, v_at1, v_at2, v_at3, v_at4, v_at5, v_ofs, v_eqS, v_eqI, v_dkP, v_bdS, v_bdI, v_bdB, v_bdN, v_bdT, v_bdL, v_bdP, v_bdsN, v_bdsC, v_lastD, v_lastS, v_kyS, v_kyI, v_tt, v_ff, String.reduceEq, List.foldl_cons, List.foldl_nil, List.any_cons, List.any_nil, List.find?_cons, List.find?_nil, Sum.inr.injEq, Sum.inl.injEq, decide_true, decide_false, Bool.or_false, Bool.or_true, Bool.true_or, Bool.false_or, List.append_cancel_left_eq, Bool.false_eq_true, List.map_cons, List.map_nil, List.mapM_cons, List.mapM_nil, Option.pure_def, Option.bind_eq_bind, Option.bind_some, Option.bind_none, Nat.lt_irrefl, Option.map_some, Option.map_none, and_assoc, Nat.zero_add, Nat.reduceAdd, Nat.reduceLeDiff, Nat.le_refl, sizeLine_eq, and_self, forall_const, Bool.not_eq_true', Bool.not_true, Bool.not_false, decide_eq_false_iff_not, ite_not]
  split
  · -- a sign that can stand nowhere
    unfold w_spoilt_5
    simp only [dSeq, dIf, dAsg, dgName, dVar, dC, dOp, dNil, dCons, dTup, dTest, dAnd, dOr, dNot, dIfE, dAndV, dOrV, dNotV, dNext, dRet, dRetN, dDrop, dCall, dCallS, wLen, wI, wAdd, wAddI, wAddS, wAddL, wSub, wMod, wDiv, wPow, wLt, wLe, wGt, wGe, wMulB, wMulS, wEqF, wNeF, wIsN, wNotN, wInS, wNotInS, wIx, dNeg, dAug, dAppend, dLst, dLstM, dLstB, dSl, dPart, dNo, wCut, dBreak, dCont, dRaise, dMeth, dFld, wFld, dSetF, dAugF, dgTupF, dgTup, dgCons, dgNil, dgSet, dThen, dSo, dSoE, wIntC, dChain, dMake, wListC, wListM, dDisp, dPsCons, dPsNil, keysOf, DL.putAll, putD, valD, dUpC, inV, wDGet, wDIn, dDPut, dGet2, dPopAt, dJoin, wInL, dIsX, List.getElem?_cons_zero, List.getElem?_cons_succ, List.getElem?_nil, Option.some.injEq, D.int.injEq, D.str.injEq, D.bl.injEq, D.ptr.injEq, D.lst.injEq, D.tup.injEq, D.scr.injEq, D.xc.injEq, D.kr.injEq, D.ty.injEq, MO.lst.injEq, MO.ins.injEq, MO.dK.injEq, V.int.injEq, V.str.injEq, V.bl.injEq, List.cons.injEq, List.set_cons_zero, List.set_cons_succ, and_true, true_and, or_false, false_or, or_true, true_or, and_false, false_and, exists_false, exists_eq_left, exists_eq_left', exists_eq_right, exists_eq_right', exists_eq, exists_eq', exists_and_left, exists_and_right, exists_const, reduceCtorEq, decide_eq_true_eq, if_true, if_false, List.length_cons, List.length_nil, List.append_nil, List.nil_append, List.cons_append, v_scalI, v_scalS, v_scalB, v_scalN, v_decI, v_decS, v_decB, v_lsL, v_lsP, v_lsI, v_lsS, v_lsB, v_lsT, v_lsN, v_sqT, v_sqL, v_sqP, v_sqI, v_sqS, v_sqB, v_sqN, v_vI, v_vS, v_vB, v_vN, v_vT, v_vL, v_vP, v_sign, v_map, v_at0, v_at1, v_at2, v_at3, v_at4, v_at5, v_ofs, v_eqS, v_eqI, v_dkP, v_bdS, v_bdI, v_bdB, v_bdN, v_bdT, v_bdL, v_bdP, v_bdsN, v_bdsC, v_lastD, v_lastS, v_kyS, v_kyI, v_tt, v_ff, String.reduceEq, List.foldl_cons, List.foldl_nil, List.any_cons, List.any_nil, List.find?_cons, List.find?_nil, Sum.inr.injEq, Sum.inl.injEq, decide_true, decide_false, Bool.or_false, Bool.or_true, Bool.true_or, Bool.false_or, List.append_cancel_left_eq, Bool.false_eq_true, List.map_cons, List.map_nil, List.mapM_cons, List.mapM_nil, Option.pure_def, Option.bind_eq_bind, Option.bind_some, Option.bind_none, Nat.lt_irrefl, Option.map_some, Option.map_none, and_assoc, Nat.zero_add, Nat.reduceAdd, Nat.reduceLeDiff, Nat.le_refl, sizeLine_eq, and_self, forall_const, Bool.not_eq_true', Bool.not_true, Bool.not_false, decide_eq_false_iff_not, ite_not]
    refine r_dr1 (d2.1.app _) (by omega) (by omega) fun u M3 u0 u1 d3 => ?_
    obtain ⟨M4, rfl, d4⟩ := d3.app (by rw [e1]; exact hlt)
    have d4 := d2.trans d4
    have fin : ∀ u : Str, u ∈ (["?", "A", "2", "#", "'", "="] : List Str) → w_spoilt_27 K w ad (DsF M Qd Xd) [some (.ptr d), some (.str L), some (.lst (us.map .str)), some (.int kd), some (.int a), some (.ptr M.length), none, none, none, none, none, none] (M4 ++ [MO.lst ((us.set a u).map .str)]) := fun u hu => by
      have cs : ∃ c, u.cps.toList = [c] ∧ isBlk c = false ∧ isAbc c = false ∧ atomOf u = none ∧ u ≠ "!" ∧ u ≠ "(" ∧ u ≠ "@" ∧ u ≠ "|" ∧ u ≠ "&" ∧ u ≠ "*" ∧ u ≠ ")" ∧ u ≠ "" ∧ nmOk u = false ∧ u.length ≤ 12 := by
        simp only [List.mem_cons, List.not_mem_nil, or_false] at hu
        rcases hu with rfl | rfl | rfl | rfl | rfl | rfl
        · exact ⟨63, by decide⟩
        · exact ⟨65, by decide⟩
        · exact ⟨50, by decide⟩
        · exact ⟨35, by decide⟩
        · exact ⟨39, by decide⟩
        · exact ⟨61, by decide⟩
      obtain ⟨c, c1, c2, c3, c4, c5, c6, c7, c8, c9, c10, c11, c12, c13, c14⟩ := cs
      have sp := sp_set LO dv hk60 ha ⟨bgn_no c1 (abc_of LO c c3) c4 c5 c6 c7, c8, c9, c10, c11⟩ c12 (fun b _ => good1 c c1 c2 b (fun _ => c3)) (fun _ _ => ⟨c13, by rw [sizeLine_eq]; omega⟩)
      exact u_spoilt_27 hw hlt d4 (lsP _ _ d4) nd sp (by rw [List.length_set]; omega) (set12 u c14) q
    rcases (show u = 0 ∨ u = 1 ∨ u = 2 ∨ u = 3 ∨ u = 4 ∨ u = 5 by omega) with rfl | rfl | rfl | rfl | rfl | rfl
    · simp only [dSeq, dIf, dAsg, dgName, dVar, dC, dOp, dNil, dCons, dTup, dTest, dAnd, dOr, dNot, dIfE, dAndV, dOrV, dNotV, dNext, dRet, dRetN, dDrop, dCall, dCallS, wLen, wI, wAdd, wAddI, wAddS, wAddL, wSub, wMod, wDiv, wPow, wLt, wLe, wGt, wGe, wMulB, wMulS, wEqF, wNeF, wIsN, wNotN, wInS, wNotInS, wIx, dNeg, dAug, dAppend, dLst, dLstM, dLstB, dSl, dPart, dNo, wCut, dBreak, dCont, dRaise, dMeth, dFld, wFld, dSetF, dAugF, dgTupF, dgTup, dgCons, dgNil, dgSet, dThen, dSo, dSoE, wIntC, dChain, dMake, wListC, wListM, dDisp, dPsCons, dPsNil, keysOf, DL.putAll, putD, valD, dUpC, inV, wDGet, wDIn, dDPut, dGet2, dPopAt, dJoin, wInL, dIsX, List.getElem?_cons_zero, List.getElem?_cons_succ, List.getElem?_nil, Option.some.injEq, D.int.injEq, D.str.injEq, D.bl.injEq, D.ptr.injEq, D.lst.injEq, D.tup.injEq, D.scr.injEq, D.xc.injEq, D.kr.injEq, D.ty.injEq, MO.lst.injEq, MO.ins.injEq, MO.dK.injEq, V.int.injEq, V.str.injEq, V.bl.injEq, List.cons.injEq, List.set_cons_zero, List.set_cons_succ, and_true, true_and, or_false, false_or, or_true, true_or, and_false, false_and, exists_false, exists_eq_left, exists_eq_left', exists_eq_right, exists_eq_right', exists_eq, exists_eq', exists_and_left, exists_and_right, exists_const, reduceCtorEq, decide_eq_true_eq, if_true, if_false, List.length_cons, List.length_nil, List.append_nil, List.nil_append, List.cons_append, v_scalI, v_scalS, v_scalB, v_scalN, v_decI, v_decS, v_decB, v_lsL, v_lsP, v_lsI, v_lsS, v_lsB, v_lsT, v_lsN, v_sqT, v_sqL, v_sqP, v_sqI, v_sqS, v_sqB, v_sqN, v_vI, v_vS, v_vB, v_vN, v_vT, v_vL, v_vP, v_sign, v_map, v_at0, v_at1, v_at2, v_at3, v_at4, v_at5, v_ofs, v_eqS, v_eqI, v_dkP, v_bdS, v_bdI, v_bdB, v_bdN, v_bdT, v_bdL, v_bdP, v_bdsN, v_bdsC, v_lastD, v_lastS, v_kyS, v_kyI, v_tt, v_ff, String.reduceEq, List.foldl_cons, List.foldl_nil, List.any_cons, List.any_nil, List.find?_cons, List.find?_nil, Sum.inr.injEq, Sum.inl.injEq, decide_true, decide_false, Bool.or_false, Bool.or_true, Bool.true_or, Bool.false_or, List.append_cancel_left_eq, Bool.false_eq_true, List.map_cons, List.map_nil, List.mapM_cons, List.mapM_nil, Option.pure_def, Option.bind_eq_bind, Option.bind_some, Option.bind_none, Nat.lt_irrefl, Option.map_some, Option.map_none, and_assoc, Nat.zero_add, Nat.reduceAdd, Nat.reduceLeDiff, Nat.le_refl, sizeLine_eq, and_self, forall_const, Bool.not_eq_true', Bool.not_true, Bool.not_false, decide_eq_false_iff_not, ite_not, dgSet, hM _ _ d4, hS _ _ _ d4, ixa, mset]
      exact fin _ (by decide)
    · simp only [dSeq, dIf, dAsg, dgName, dVar, dC, dOp, dNil, dCons, dTup, dTest, dAnd, dOr, dNot, dIfE, dAndV, dOrV, dNotV, dNext, dRet, dRetN, dDrop, dCall, dCallS, wLen, wI, wAdd, wAddI, wAddS, wAddL, wSub, wMod, wDiv, wPow, wLt, wLe, wGt, wGe, wMulB, wMulS, wEqF, wNeF, wIsN, wNotN, wInS, wNotInS, wIx, dNeg, dAug, dAppend, dLst, dLstM, dLstB, dSl, dPart, dNo, wCut, dBreak, dCont, dRaise, dMeth, dFld, wFld, dSetF, dAugF, dgTupF, dgTup, dgCons, dgNil, dgSet, dThen, dSo, dSoE, wIntC, dChain, dMake, wListC, wListM, dDisp, dPsCons, dPsNil, keysOf, DL.putAll, putD, valD, dUpC, inV, wDGet, wDIn, dDPut, dGet2, dPopAt, dJoin, wInL, dIsX, List.getElem?_cons_zero, List.getElem?_cons_succ, List.getElem?_nil, Option.some.injEq, D.int.injEq, D.str.injEq, D.bl.injEq, D.ptr.injEq, D.lst.injEq, D.tup.injEq, D.scr.injEq, D.xc.injEq, D.kr.injEq, D.ty.injEq, MO.lst.injEq, MO.ins.injEq, MO.dK.injEq, V.int.injEq, V.str.injEq, V.bl.injEq, List.cons.injEq, List.set_cons_zero, List.set_cons_succ, and_true, true_and, or_false, false_or, or_true, true_or, and_false, false_and, exists_false, exists_eq_left, exists_eq_left', exists_eq_right, exists_eq_right', exists_eq, exists_eq', exists_and_left, exists_and_right, exists_const, reduceCtorEq, decide_eq_true_eq, if_true, if_false, List.length_cons, List.length_nil, List.append_nil, List.nil_append, List.cons_append, v_scalI, v_scalS, v_scalB, v_scalN, v_decI, v_decS, v_decB, v_lsL, v_lsP, v_lsI, v_lsS, v_lsB, v_lsT, v_lsN, v_sqT, v_sqL, v_sqP, v_sqI, v_sqS, v_sqB, v_sqN, v_vI, v_vS, v_vB, v_vN, v_vT, v_vL, v_vP, v_sign, v_map, v_at0, v_at1, v_at2, v_at3, v_at4, v_at5, v_ofs, v_eqS, v_eqI, v_dkP, v_bdS, v_bdI, v_bdB, v_bdN, v_bdT, v_bdL, v_bdP, v_bdsN, v_bdsC, v_lastD, v_lastS, v_kyS, v_kyI, v_tt, v_ff, String.reduceEq, List.foldl_cons, List.foldl_nil, List.any_cons, List.any_nil, List.find?_cons, List.find?_nil, Sum.inr.injEq, Sum.inl.injEq, decide_true, decide_false, Bool.or_false, Bool.or_true, Bool.true_or, Bool.false_or, List.append_cancel_left_eq, Bool.false_eq_true, List.map_cons, List.map_nil, List.mapM_cons, List.mapM_nil, Option.pure_def, Option.bind_eq_bind, Option.bind_some, Option.bind_none, Nat.lt_irrefl, Option.map_some, Option.map_none, and_assoc, Nat.zero_add, Nat.reduceAdd, Nat.reduceLeDiff, Nat.le_refl, sizeLine_eq, and_self, forall_const, Bool.not_eq_true', Bool.not_true, Bool.not_false, decide_eq_false_iff_not, ite_not, dgSet, hM _ _ d4, hS _ _ _ d4, ixa, mset]
      exact fin _ (by decide)
    · simp only [dSeq, dIf, dAsg, dgName, dVar, dC, dOp, dNil, dCons, dTup, dTest, dAnd, dOr, dNot, dIfE, dAndV, dOrV, dNotV, dNext, dRet, dRetN, dDrop, dCall, dCallS, wLen, wI, wAdd, wAddI, wAddS, wAddL, wSub, wMod, wDiv, wPow, wLt, wLe, wGt, wGe, wMulB, wMulS, wEqF, wNeF, wIsN, wNotN, wInS, wNotInS, wIx, dNeg, dAug, dAppend, dLst, dLstM, dLstB, dSl, dPart, dNo, wCut, dBreak, dCont, dRaise, dMeth, dFld, wFld, dSetF, dAugF, dgTupF, dgTup, dgCons, dgNil, dgSet, dThen, dSo, dSoE, wIntC, dChain, dMake, wListC, wListM, dDisp, dPsCons, dPsNil, keysOf, DL.putAll, putD, valD, dUpC, inV, wDGet, wDIn, dDPut, dGet2, dPopAt, dJoin, wInL, dIsX, List.getElem?_cons_zero, List.getElem?_cons_succ, List.getElem?_nil, Option.some.injEq, D.int.injEq, D.str.injEq, D.bl.injEq, D.ptr.injEq, D.lst.injEq, D.tup.injEq, D.scr.injEq, D.xc.injEq, D.kr.injEq, D.ty.injEq, MO.lst.injEq, MO.ins.injEq, MO.dK.injEq, V.int.injEq, V.str.injEq, V.bl.injEq, List.cons.injEq, List.set_cons_zero, List.set_cons_succ, and_true, true_and, or_false, false_or, or_true, true_or, and_false, false_and, exists_false, exists_eq_left, exists_eq_left', exists_eq_right, exists_eq_right', exists_eq, exists_eq', exists_and_left, exists_and_right, exists_const, reduceCtorEq, decide_eq_true_eq, if_true, if_false, List.length_cons, List.length_nil, List.append_nil, List.nil_append, List.cons_append, v_scalI, v_scalS, v_scalB, v_scalN, v_decI, v_decS, v_decB, v_lsL, v_lsP, v_lsI, v_lsS, v_lsB, v_lsT, v_lsN, v_sqT, v_sqL, v_sqP, v_sqI, v_sqS, v_sqB, v_sqN, v_vI, v_vS, v_vB, v_vN, v_vT, v_vL, v_vP, v_sign, v_map, v_at0, v_at1, v_at2, v_at3, v_at4, v_at5, v_ofs, v_eqS, v_eqI, v_dkP, v_bdS, v_bdI, v_bdB, v_bdN, v_bdT, v_bdL, v_bdP, v_bdsN, v_bdsC, v_lastD, v_lastS, v_kyS, v_kyI, v_tt, v_ff, String.reduceEq, List.foldl_cons, List.foldl_nil, List.any_cons, List.any_nil, List.find?_cons, List.find?_nil, Sum.inr.injEq, Sum.inl.injEq, decide_true, decide_false, Bool.or_false, Bool.or_true, Bool.true_or, Bool.false_or, List.append_cancel_left_eq, Bool.false_eq_true, List.map_cons, List.map_nil, List.mapM_cons, List.mapM_nil, Option.pure_def, Option.bind_eq_bind, Option.bind_some, Option.bind_none, Nat.lt_irrefl, Option.map_some, Option.map_none, and_assoc, Nat.zero_add, Nat.reduceAdd, Nat.reduceLeDiff, Nat.le_refl, sizeLine_eq, and_self, forall_const, Bool.not_eq_true', Bool.not_true, Bool.not_false, decide_eq_false_iff_not, ite_not, dgSet, hM _ _ d4, hS _ _ _ d4, ixa, mset]
      exact fin _ (by decide)
    · simp only [dSeq, dIf, dAsg, dgName, dVar, dC, dOp, dNil, dCons, dTup, dTest, dAnd, dOr, dNot, dIfE, dAndV, dOrV, dNotV, dNext, dRet, dRetN, dDrop, dCall, dCallS, wLen, wI, wAdd, wAddI, wAddS, wAddL, wSub, wMod, wDiv, wPow, wLt, wLe, wGt, wGe, wMulB, wMulS, wEqF, wNeF, wIsN, wNotN, wInS, wNotInS, wIx, dNeg, dAug, dAppend, dLst, dLstM, dLstB, dSl, dPart, dNo, wCut, dBreak, dCont, dRaise, dMeth, dFld, wFld, dSetF, dAugF, dgTupF, dgTup, dgCons, dgNil, dgSet, dThen, dSo, dSoE, wIntC, dChain, dMake, wListC, wListM, dDisp, dPsCons, dPsNil, keysOf, DL.putAll, putD, valD, dUpC, inV, wDGet, wDIn, dDPut, dGet2, dPopAt, dJoin, wInL, dIsX, List.getElem?_cons_zero, List.getElem?_cons_succ, List.getElem?_nil, Option.some.injEq, D.int.injEq, D.str.injEq, D.bl.injEq, D.ptr.injEq, D.lst.injEq, D.tup.injEq, D.scr.injEq, D.xc.injEq, D.kr.injEq, D.ty.injEq, MO.lst.injEq, MO.ins.injEq, MO.dK.injEq, V.int.injEq, V.str.injEq, V.bl.injEq, List.cons.injEq, List.set_cons_zero, List.set_cons_succ, and_true, true_and, or_false, false_or, or_true, true_or, and_false, false_and, exists_false, exists_eq_left, exists_eq_left', exists_eq_right, exists_eq_right', exists_eq, exists_eq', exists_and_left, exists_and_right, exists_const, reduceCtorEq, decide_eq_true_eq, if_true, if_false, List.length_cons, List.length_nil, List.append_nil, List.nil_append, List.cons_append, v_scalI, v_scalS, v_scalB, v_scalN, v_decI, v_decS, v_decB, v_lsL, v_lsP, v_lsI, v_lsS, v_lsB, v_lsT, v_lsN, v_sqT, v_sqL, v_sqP, v_sqI, v_sqS, v_sqB, v_sqN, v_vI, v_vS, v_vB, v_vN, v_vT, v_vL, v_vP, v_sign, v_map, v_at0, v_at1, v_at2, v_at3, v_at4, v_at5, v_ofs, v_eqS, v_eqI, v_dkP, v_bdS, v_bdI, v_bdB, v_bdN, v_bdT, v_bdL, v_bdP, v_bdsN, v_bdsC, v_lastD, v_lastS, v_kyS, v_kyI, v_tt, v_ff, String.reduceEq, List.foldl_cons, List.foldl_nil, List.any_cons, List.any_nil, List.find?_cons, List.find?_nil, Sum.inr.injEq, Sum.inl.injEq, decide_true, decide_false, Bool.or_false, Bool.or_true, Bool.true_or, Bool.false_or, List.append_cancel_left_eq, Bool.false_eq_true, List.map_cons, List.map_nil, List.mapM_cons, List.mapM_nil, Option.pure_def, Option.bind_eq_bind, Option.bind_some, Option.bind_none, Nat.lt_irrefl, Option.map_some, Option.map_none, and_assoc, Nat.zero_add, Nat.reduceAdd, Nat.reduceLeDiff, Nat.le_refl, sizeLine_eq, and_self, forall_const, Bool.not_eq_true', Bool.not_true, Bool.not_false, decide_eq_false_iff_not, ite_not, dgSet, hM _ _ d4, hS _ _ _ d4, ixa, mset]
      exact fin _ (by decide)
    · simp only [dSeq, dIf, dAsg, dgName, dVar, dC, dOp, dNil, dCons, dTup, dTest, dAnd, dOr, dNot, dIfE, dAndV, dOrV, dNotV, dNext, dRet, dRetN, dDrop, dCall, dCallS, wLen, wI, wAdd, wAddI, wAddS, wAddL, wSub, wMod, wDiv, wPow, wLt, wLe, wGt, wGe, wMulB, wMulS, wEqF, wNeF, wIsN, wNotN, wInS, wNotInS, wIx, dNeg, dAug, dAppend, dLst, dLstM, dLstB, dSl, dPart, dNo, wCut, dBreak, dCont, dRaise, dMeth, dFld, wFld, dSetF, dAugF, dgTupF, dgTup, dgCons, dgNil, dgSet, dThen, dSo, dSoE, wIntC, dChain, dMake, wListC, wListM, dDisp, dPsCons, dPsNil, keysOf, DL.putAll, putD, valD, dUpC, inV, wDGet, wDIn, dDPut, dGet2, dPopAt, dJoin, wInL, dIsX, List.getElem?_cons_zero, List.getElem?_cons_succ, List.getElem?_nil, Option.some.injEq, D.int.injEq, D.str.injEq, D.bl.injEq, D.ptr.injEq, D.lst.injEq, D.tup.injEq, D.scr.injEq, D.xc.injEq, D.kr.injEq, D.ty.injEq, MO.lst.injEq, MO.ins.injEq, MO.dK.injEq, V.int.injEq, V.str.injEq, V.bl.injEq, List.cons.injEq, List.set_cons_zero, List.set_cons_succ, and_true, true_and, or_false, false_or, or_true, true_or, and_false, false_and, exists_false, exists_eq_left, exists_eq_left', exists_eq_right, exists_eq_right', exists_eq, exists_eq', exists_and_left, exists_and_right, exists_const, reduceCtorEq, decide_eq_true_eq, if_true, if_false, List.length_cons, List.length_nil, List.append_nil, List.nil_append, List.cons_append, v_scalI, v_scalS, v_scalB, v_scalN, v_decI, v_decS, v_decB, v_lsL, v_lsP, v_lsI, v_lsS, v_lsB, v_lsT, v_lsN, v_sqT, v_sqL, v_sqP, v_sqI, v_sqS, v_sqB, v_sqN, v_vI, v_vS, v_vB, v_vN, v_vT, v_vL, v_vP, v_sign, v_map, v_at0, v_at1, v_at2, v_at3, v_at4, v_at5, v_ofs, v_eqS, v_eqI, v_dkP, v_bdS, v_bdI, v_bdB, v_bdN, v_bdT, v_bdL, v_bdP, v_bdsN, v_bdsC, v_lastD, v_lastS, v_kyS, v_kyI, v_tt, v_ff, String.reduceEq, List.foldl_cons, List.foldl_nil, List.any_cons, List.any_nil, List.find?_cons, List.find?_nil, Sum.inr.injEq, Sum.inl.injEq, decide_true, decide_false, Bool.or_false, Bool.or_true, Bool.true_or, Bool.false_or, List.append_cancel_left_eq, Bool.false_eq_true, List.map_cons, List.map_nil, List.mapM_cons, List.mapM_nil, Option.pure_def, Option.bind_eq_bind, Option.bind_some, Option.bind_none, Nat.lt_irrefl, Option.map_some, Option.map_none, and_assoc, Nat.zero_add, Nat.reduceAdd, Nat.reduceLeDiff, Nat.le_refl, sizeLine_eq, and_self, forall_const, Bool.not_eq_true', Bool.not_true, Bool.not_false, decide_eq_false_iff_not, ite_not, dgSet, hM _ _ d4, hS _ _ _ d4, ixa, mset]
      exact fin _ (by decide)
    · simp only [dSeq, dIf, dAsg, dgName, dVar, dC, dOp, dNil, dCons, dTup, dTest, dAnd, dOr, dNot, dIfE, dAndV, dOrV, dNotV, dNext, dRet, dRetN, dDrop, dCall, dCallS, wLen, wI, wAdd, wAddI, wAddS, wAddL, wSub, wMod, wDiv, wPow, wLt, wLe, wGt, wGe, wMulB, wMulS, wEqF, wNeF, wIsN, wNotN, wInS, wNotInS, wIx, dNeg, dAug, dAppend, dLst, dLstM, dLstB, dSl, dPart, dNo, wCut, dBreak, dCont, dRaise, dMeth, dFld, wFld, dSetF, dAugF, dgTupF, dgTup, dgCons, dgNil, dgSet, dThen, dSo, dSoE, wIntC, dChain, dMake, wListC, wListM, dDisp, dPsCons, dPsNil, keysOf, DL.putAll, putD, valD, dUpC, inV, wDGet, wDIn, dDPut, dGet2, dPopAt, dJoin, wInL, dIsX, List.getElem?_cons_zero, List.getElem?_cons_succ, List.getElem?_nil, Option.some.injEq, D.int.injEq, D.str.injEq, D.bl.injEq, D.ptr.injEq, D.lst.injEq, D.tup.injEq, D.scr.injEq, D.xc.injEq, D.kr.injEq, D.ty.injEq, MO.lst.injEq, MO.ins.injEq, MO.dK.injEq, V.int.injEq, V.str.injEq, V.bl.injEq, List.cons.injEq, List.set_cons_zero, List.set_cons_succ, and_true, true_and, or_false, false_or, or_true, true_or, and_false, false_and, exists_false, exists_eq_left, exists_eq_left', exists_eq_right, exists_eq_right', exists_eq, exists_eq', exists_and_left, exists_and_right, exists_const, reduceCtorEq, decide_eq_true_eq, if_true, if_false, List.length_cons, List.length_nil, List.append_nil, List.nil_append, List.cons_append, v_scalI, v_scalS, v_scalB, v_scalN, v_decI, v_decS, v_decB, v_lsL, v_lsP, v_lsI, v_lsS, v_lsB, v_lsT, v_lsN, v_sqT, v_sqL, v_sqP, v_sqI, v_sqS, v_sqB, v_sqN, v_vI, v_vS, v_vB, v_vN, v_vT, v_vL, v_vP, v_sign, v_map, v_at0, v_at1, v_at2, v_at3, v_at4, v_at5, v_ofs, v_eqS, v_eqI, v_dkP, v_bdS, v_bdI, v_bdB, v_bdN, v_bdT, v_bdL, v_bdP, v_bdsN, v_bdsC, v_lastD, v_lastS, v_kyS, v_kyI, v_tt, v_ff, String.reduceEq, List.foldl_cons, List.foldl_nil, List.any_cons, List.any_nil, List.find?_cons, List.find?_nil, Sum.inr.injEq, Sum.inl.injEq, decide_true, decide_false, Bool.or_false, Bool.or_true, Bool.true_or, Bool.false_or, List.append_cancel_left_eq, Bool.false_eq_true, List.map_cons, List.map_nil, List.mapM_cons, List.mapM_nil, Option.pure_def, Option.bind_eq_bind, Option.bind_some, Option.bind_none, Nat.lt_irrefl, Option.map_some, Option.map_none, and_assoc, Nat.zero_add, Nat.reduceAdd, Nat.reduceLeDiff, Nat.le_refl, sizeLine_eq, and_self, forall_const, Bool.not_eq_true', Bool.not_true, Bool.not_false, decide_eq_false_iff_not, ite_not, dgSet, hM _ _ d4, hS _ _ _ d4, ixa, mset]
      exact fin _ (by decide)
  unfold w_spoilt_6
  simp only [dSeq, dIf, dAsg, dgName, dVar, dC, dOp, dNil, dCons, dTup, dTest, dAnd, dOr, dNot, dIfE, dAndV, dOrV, dNotV, dNext, dRet, dRetN, dDrop, dCall, dCallS, wLen, wI, wAdd, wAddI, wAddS, wAddL, wSub, wMod, wDiv, wPow, wLt, wLe, wGt, wGe, wMulB, wMulS, wEqF, wNeF, wIsN, wNotN, wInS, wNotInS, wIx, dNeg, dAug, dAppend, dLst, dLstM, dLstB, dSl, dPart, dNo, wCut, dBreak, dCont, dRaise, dMeth, dFld, wFld, dSetF, dAugF, dgTupF, dgTup, dgCons, dgNil, dgSet, dThen, dSo, dSoE, wIntC, dChain, dMake, wListC, wListM, dDisp, dPsCons, dPsNil, keysOf, DL.putAll, putD, valD, dUpC, inV, wDGet, wDIn, dDPut, dGet2, dPopAt, dJoin, wInL, dIsX, List.getElem?_cons_zero, List.getElem?_cons_succ, List.getElem?_nil, Option.some.injEq, D.int.injEq, D.str.injEq, D.bl.injEq, D.ptr.injEq, D.lst.injEq, D.tup.injEq, D.scr.injEq, D.xc.injEq, D.kr.injEq, D.ty.injEq, MO.lst.injEq, MO.ins.injEq, MO.dK.injEq, V.int.injEq, V.str.injEq, V.bl.injEq, List.cons.injEq, List.set_cons_zero, List.set_cons_succ, and_true, true_and, or_false, false_or, or_true, true_or, and_false, false_and, exists_false, exists_eq_left, exists_eq_left', exists_eq_right, exists_eq_right', exists_eq, exists_eq', exists_and_left, exists_and_right, exists_const, reduceCtorEq, decide_eq_true_eq, if_true, if_false, List.length_cons, List.length_nil, List.append_nil, List.nil_append, List.cons_append, v_scalI, v_scalS, v_scalB, v_scalN, v_decI, v_decS, v_decB, v_lsL, v_lsP, v_lsI, v_lsS, v_lsB, v_lsT, v_lsN, v_sqT, v_sqL, v_sqP, v_sqI, v_sqS, v_sqB, v_sqN, v_vI, v_vS, v_vB, v_vN, v_vT, v_vL, v_vP, v_sign, v_map, v_at0, v_at1, v_at2, v_at3, v_at4, v_at5, v_ofs, v_eqS, v_eqI, v_dkP, v_bdS, v_bdI, v_bdB, v_bdN, v_bdT, v_bdL, v_bdP, v_bdsN, v_bdsC, v_lastD, v_lastS, v_kyS, v_kyI, v_tt, v_ff, String.reduceEq, List.foldl_cons, List.foldl_nil, List.any_cons, List.any_nil, List.find?_cons, List.find?_nil, Sum.inr.injEq, Sum.inl.injEq, decide_true, decide_false, Bool.or_false, Bool.or_true, Bool.true_or, Bool.false_or, List.append_cancel_left_eq, Bool.false_eq_true, List.map_cons, List.map_nil, List.mapM_cons, List.mapM_nil, Option.pure_def, Option.bind_eq_bind, Option.bind_some, Option.bind_none, Nat.lt_irrefl, Option.map_some, Option.map_none, and_assoc, Nat.zero_add, Nat.reduceAdd, Nat.reduceLeDiff, Nat.le_refl, sizeLine_eq, and_self, forall_const, Bool.not_eq_true', Bool.not_true, Bool.not_false, decide_eq_false_iff_not, ite_not]
  split
  · -- a letter that is none
    unfold w_spoilt_7
    simp only [dSeq, dIf, dAsg, dgName, dVar, dC, dOp, dNil, dCons, dTup, dTest, dAnd, dOr, dNot, dIfE, dAndV, dOrV, dNotV, dNext, dRet, dRetN, dDrop, dCall, dCallS, wLen, wI, wAdd, wAddI, wAddS, wAddL, wSub, wMod, wDiv, wPow, wLt, wLe, wGt, wGe, wMulB, wMulS, wEqF, wNeF, wIsN, wNotN, wInS, wNotInS, wIx, dNeg, dAug, dAppend, dLst, dLstM, dLstB, dSl, dPart, dNo, wCut, dBreak, dCont, dRaise, dMeth, dFld, wFld, dSetF, dAugF, dgTupF, dgTup, dgCons, dgNil, dgSet, dThen, dSo, dSoE, wIntC, dChain, dMake, wListC, wListM, dDisp, dPsCons, dPsNil, keysOf, DL.putAll, putD, valD, dUpC, inV, wDGet, wDIn, dDPut, dGet2, dPopAt, dJoin, wInL, dIsX, List.getElem?_cons_zero, List.getElem?_cons_succ, List.getElem?_nil, Option.some.injEq, D.int.injEq, D.str.injEq, D.bl.injEq, D.ptr.injEq, D.lst.injEq, D.tup.injEq, D.scr.injEq, D.xc.injEq, D.kr.injEq, D.ty.injEq, MO.lst.injEq, MO.ins.injEq, MO.dK.injEq, V.int.injEq, V.str.injEq, V.bl.injEq, List.cons.injEq, List.set_cons_zero, List.set_cons_succ, and_true, true_and, or_false, false_or, or_true, true_or, and_false, false_and, exists_false, exists_eq_left, exists_eq_left', exists_eq_right, exists_eq_right', exists_eq, exists_eq', exists_and_left, exists_and_right, exists_const, reduceCtorEq, decide_eq_true_eq, if_true, if_false, List.length_cons, List.length_nil, List.append_nil, List.nil_append, List.cons_append, v_scalI, v_scalS, v_scalB, v_scalN, v_decI, v_decS, v_decB, v_lsL, v_lsP, v_lsI, v_lsS, v_lsB, v_lsT, v_lsN, v_sqT, v_sqL, v_sqP, v_sqI, v_sqS, v_sqB, v_sqN, v_vI, v_vS, v_vB, v_vN, v_vT, v_vL, v_vP, v_sign, v_map, v_at0, v_at1, v_at2, v_at3, v_at4, v_at5, v_ofs, v_eqS, v_eqI, v_dkP, v_bdS, v_bdI, v_bdB, v_bdN, v_bdT, v_bdL, v_bdP, v_bdsN, v_bdsC, v_lastD, v_lastS, v_kyS, v_kyI, v_tt, v_ff, String.reduceEq, List.foldl_cons, List.foldl_nil, List.any_cons, List.any_nil, List.find?_cons, List.find?_nil, Sum.inr.injEq, Sum.inl.injEq, decide_true, decide_false, Bool.or_false, Bool.or_true, Bool.true_or, Bool.false_or, List.append_cancel_left_eq, Bool.false_eq_true, List.map_cons, List.map_nil, List.mapM_cons, List.mapM_nil, Option.pure_def, Option.bind_eq_bind, Option.bind_some, Option.bind_none, Nat.lt_irrefl, Option.map_some, Option.map_none, and_assoc, Nat.zero_add, Nat.reduceAdd, Nat.reduceLeDiff, Nat.le_refl, sizeLine_eq, and_self, forall_const, Bool.not_eq_true', Bool.not_true, Bool.not_false, decide_eq_false_iff_not, ite_not]
    intro hw2 _
    refine ⟨_, rfl, lc_filter (qP L) id hw2 (fun _ => trivial) (by rw [sizeLine_eq]; decide) ?_ ?_ ?_ (.inl ?_)⟩
    · intro d' hd' _
      obtain ⟨c, _, rfl⟩ := List.mem_map.mp hd'
      exact .str _
    · intro j d' acc B hj hB
      obtain ⟨c, hc, rfl⟩ := List.mem_map.mp (List.mem_of_getElem? hj)
      simp only [dSeq, dIf, dAsg, dgName, dVar, dC, dOp, dNil, dCons, dTup, dTest, dAnd, dOr, dNot, dIfE, dAndV, dOrV, dNotV, dNext, dRet, dRetN, dDrop, dCall, dCallS, wLen, wI, wAdd, wAddI, wAddS, wAddL, wSub, wMod, wDiv, wPow, wLt, wLe, wGt, wGe, wMulB, wMulS, wEqF, wNeF, wIsN, wNotN, wInS, wNotInS, wIx, dNeg, dAug, dAppend, dLst, dLstM, dLstB, dSl, dPart, dNo, wCut, dBreak, dCont, dRaise, dMeth, dFld, wFld, dSetF, dAugF, dgTupF, dgTup, dgCons, dgNil, dgSet, dThen, dSo, dSoE, wIntC, dChain, dMake, wListC, wListM, dDisp, dPsCons, dPsNil, keysOf, DL.putAll, putD, valD, dUpC, inV, wDGet, wDIn, dDPut, dGet2, dPopAt, dJoin, wInL, dIsX, List.getElem?_cons_zero, List.getElem?_cons_succ, List.getElem?_nil, Option.some.injEq, D.int.injEq, D.str.injEq, D.bl.injEq, D.ptr.injEq, D.lst.injEq, D.tup.injEq, D.scr.injEq, D.xc.injEq, D.kr.injEq, D.ty.injEq, MO.lst.injEq, MO.ins.injEq, MO.dK.injEq, V.int.injEq, V.str.injEq, V.bl.injEq, List.cons.injEq, List.set_cons_zero, List.set_cons_succ, and_true, true_and, or_false, false_or, or_true, true_or, and_false, false_and, exists_false, exists_eq_left, exists_eq_left', exists_eq_right, exists_eq_right', exists_eq, exists_eq', exists_and_left, exists_and_right, exists_const, reduceCtorEq, decide_eq_true_eq, if_true, if_false, List.length_cons, List.length_nil, List.append_nil, List.nil_append, List.cons_append, v_scalI, v_scalS, v_scalB, v_scalN, v_decI, v_decS, v_decB, v_lsL, v_lsP, v_lsI, v_lsS, v_lsB, v_lsT, v_lsN, v_sqT, v_sqL, v_sqP, v_sqI, v_sqS, v_sqB, v_sqN, v_vI, v_vS, v_vB, v_vN, v_vT, v_vL, v_vP, v_sign, v_map, v_at0, v_at1, v_at2, v_at3, v_at4, v_at5, v_ofs, v_eqS, v_eqI, v_dkP, v_bdS, v_bdI, v_bdB, v_bdN, v_bdT, v_bdL, v_bdP, v_bdsN, v_bdsC, v_lastD, v_lastS, v_kyS, v_kyI, v_tt, v_ff, String.reduceEq, List.foldl_cons, List.foldl_nil, List.any_cons, List.any_nil, List.find?_cons, List.find?_nil, Sum.inr.injEq, Sum.inl.injEq, decide_true, decide_false, Bool.or_false, Bool.or_true, Bool.true_or, Bool.false_or, List.append_cancel_left_eq, Bool.false_eq_true, List.map_cons, List.map_nil, List.mapM_cons, List.mapM_nil, Option.pure_def, Option.bind_eq_bind, Option.bind_some, Option.bind_none, Nat.lt_irrefl, Option.map_some, Option.map_none, and_assoc, Nat.zero_add, Nat.reduceAdd, Nat.reduceLeDiff, Nat.le_refl, sizeLine_eq, and_self, forall_const, Bool.not_eq_true', Bool.not_true, Bool.not_false, decide_eq_false_iff_not, ite_not, List.length_append, List.length_set]
      have e : (!decide (c ∈ L.cps.toList)) = decide ((⟨#[c]⟩ : Str) = "q" ∨ ∀ c' ∈ (⟨#[c]⟩ : Str).cps.toList, c' ∉ L.cps.toList) := by
        have eq : ((⟨#[c]⟩ : Str) = "q") = (c = 113) := v_sign c 113
        rw [← decide_not]
        refine decide_eq_decide.mpr ?_
        rw [eq]
        constructor
        · intro h
          refine .inr fun c' hc' => ?_
          have : c' = c := by simpa using hc'
          rw [this]
          exact h
        · rintro (h | h)
          · rw [h]; exact LO.q
          · exact h c (by simp)
      rw [e]
      exact hB
    · intro j d' acc Q' hj hp hq
      exact ⟨_, rfl, hq⟩
    · rw [show DL.signs "qzab" = (D.str "q") :: [D.str "z", D.str "a", D.str "b"] from rfl, List.filter_cons_of_pos (qP_q L), List.map_cons]
      simp only [dSeq, dIf, dAsg, dgName, dVar, dC, dOp, dNil, dCons, dTup, dTest, dAnd, dOr, dNot, dIfE, dAndV, dOrV, dNotV, dNext, dRet, dRetN, dDrop, dCall, dCallS, wLen, wI, wAdd, wAddI, wAddS, wAddL, wSub, wMod, wDiv, wPow, wLt, wLe, wGt, wGe, wMulB, wMulS, wEqF, wNeF, wIsN, wNotN, wInS, wNotInS, wIx, dNeg, dAug, dAppend, dLst, dLstM, dLstB, dSl, dPart, dNo, wCut, dBreak, dCont, dRaise, dMeth, dFld, wFld, dSetF, dAugF, dgTupF, dgTup, dgCons, dgNil, dgSet, dThen, dSo, dSoE, wIntC, dChain, dMake, wListC, wListM, dDisp, dPsCons, dPsNil, keysOf, DL.putAll, putD, valD, dUpC, inV, wDGet, wDIn, dDPut, dGet2, dPopAt, dJoin, wInL, dIsX, List.getElem?_cons_zero, List.getElem?_cons_succ, List.getElem?_nil, Option.some.injEq, D.int.injEq, D.str.injEq, D.bl.injEq, D.ptr.injEq, D.lst.injEq, D.tup.injEq, D.scr.injEq, D.xc.injEq, D.kr.injEq, D.ty.injEq, MO.lst.injEq, MO.ins.injEq, MO.dK.injEq, V.int.injEq, V.str.injEq, V.bl.injEq, List.cons.injEq, List.set_cons_zero, List.set_cons_succ, and_true, true_and, or_false, false_or, or_true, true_or, and_false, false_and, exists_false, exists_eq_left, exists_eq_left', exists_eq_right, exists_eq_right', exists_eq, exists_eq', exists_and_left, exists_and_right, exists_const, reduceCtorEq, decide_eq_true_eq, if_true, if_false, List.length_cons, List.length_nil, List.append_nil, List.nil_append, List.cons_append, v_scalI, v_scalS, v_scalB, v_scalN, v_decI, v_decS, v_decB, v_lsL, v_lsP, v_lsI, v_lsS, v_lsB, v_lsT, v_lsN, v_sqT, v_sqL, v_sqP, v_sqI, v_sqS, v_sqB, v_sqN, v_vI, v_vS, v_vB, v_vN, v_vT, v_vL, v_vP, v_sign, v_map, v_at0, v_at1, v_at2, v_at3, v_at4, v_at5, v_ofs, v_eqS, v_eqI, v_dkP, v_bdS, v_bdI, v_bdB, v_bdN, v_bdT, v_bdL, v_bdP, v_bdsN, v_bdsC, v_lastD, v_lastS, v_kyS, v_kyI, v_tt, v_ff, String.reduceEq, List.foldl_cons, List.foldl_nil, List.any_cons, List.any_nil, List.find?_cons, List.find?_nil, Sum.inr.injEq, Sum.inl.injEq, decide_true, decide_false, Bool.or_false, Bool.or_true, Bool.true_or, Bool.false_or, List.append_cancel_left_eq, Bool.false_eq_true, List.map_cons, List.map_nil, List.mapM_cons, List.mapM_nil, Option.pure_def, Option.bind_eq_bind, Option.bind_some, Option.bind_none, Nat.lt_irrefl, Option.map_some, Option.map_none, and_assoc, Nat.zero_add, Nat.reduceAdd, Nat.reduceLeDiff, Nat.le_refl, sizeLine_eq, and_self, forall_const, Bool.not_eq_true', Bool.not_true, Bool.not_false, decide_eq_false_iff_not, ite_not, hM _ _ d2, hS _ _ _ d2, ixa, mset, id]
      have fq : (1 ≤ a → us[a - 1]? ≠ some ("@" : Str)) → w_spoilt_27 K w ad (DsF M Qd Xd) [some (.ptr d), some (.str L), some (.lst (us.map .str)), some (.int kd), some (.int a), some (.ptr M.length), none, none, none, none, none, none] (M2 ++ [MO.lst ((us.set a "q").map .str)]) := fun hp => by
        have sp := sp_set LO dv hk60 ha (u := "q") ⟨bgn_no (c := 113) (by decide) LO.q (by decide) (by decide) (by decide) (by decide), by decide, by decide, by decide, by decide⟩ (by decide) (fun b hb => good1 113 (by decide) (by decide) b (fun z => absurd (hb z).2 (hp (hb z).1))) (fun h1 h2 => absurd h2 (hp h1))
        exact u_spoilt_27 hw hlt d2 (lsP _ _ d2) nd sp (by rw [List.length_set]; omega) (set12 _ (by decide)) q
      have fw : w_spoilt_27 K w ad (DsF M Qd Xd) [some (.ptr d), some (.str L), some (.lst (us.map .str)), some (.int kd), some (.int a), some (.ptr M.length), none, none, none, none, none, none] (M2 ++ [MO.lst ((us.set a "?").map .str)]) := by
        have sp := sp_set LO dv hk60 ha (u := "?") ⟨bgn_no (c := 63) (by decide) (abc_of LO _ (by decide)) (by decide) (by decide) (by decide) (by decide), by decide, by decide, by decide, by decide⟩ (by decide) (fun b hb => good1 63 (by decide) (by decide) b (fun z => by decide)) (fun h1 h2 => ⟨by decide, by rw [sizeLine_eq]; decide⟩)
        exact u_spoilt_27 hw hlt d2 (lsP _ _ d2) nd sp (by rw [List.length_set]; omega) (set12 _ (by decide)) q
      unfold w_spoilt_8
      by_cases h1 : 1 ≤ a
      · have ei : (us.set a "q")[a - 1]? = us[a - 1]? := List.getElem?_set_ne (by omega)
        have el : a - 1 < us.length := by omega
        have ej : us[a - 1]? = some us[a - 1] := List.getElem?_eq_getElem el
        have pv : atI ((us.set a "q").map D.str) ((a : Int) - 1) = some (.str us[a - 1]) := by
          rw [show (a : Int) - 1 = ((a - 1 : Nat) : Int) by omega, v_map, at_nat (by rw [ei]; exact ej)]
          rfl
        have ixa' : ixN ((us.set a "q").map D.str).length (a : Int) = some a := ix_nat (by rw [List.length_map, List.length_set]; exact ha)
        have mset' : ((us.set a "q").map D.str).set a (.str "?") = (us.set a "?").map D.str := by rw [← List.map_set, List.set_set]
        simp only [dSeq, dIf, dAsg, dgName, dVar, dC, dOp, dNil, dCons, dTup, dTest, dAnd, dOr, dNot, dIfE, dAndV, dOrV, dNotV, dNext, dRet, dRetN, dDrop, dCall, dCallS, wLen, wI, wAdd, wAddI, wAddS, wAddL, wSub, wMod, wDiv, wPow, wLt, wLe, wGt, wGe, wMulB, wMulS, wEqF, wNeF, wIsN, wNotN, wInS, wNotInS, wIx, dNeg, dAug, dAppend, dLst, dLstM, dLstB, dSl, dPart, dNo, wCut, dBreak, dCont, dRaise, dMeth, dFld, wFld, dSetF, dAugF, dgTupF, dgTup, dgCons, dgNil, dgSet, dThen, dSo, dSoE, wIntC, dChain, dMake, wListC, wListM, dDisp, dPsCons, dPsNil, keysOf, DL.putAll, putD, valD, dUpC, inV, wDGet, wDIn, dDPut, dGet2, dPopAt, dJoin, wInL, dIsX, List.getElem?_cons_zero, List.getElem?_cons_succ, List.getElem?_nil, Option.some.injEq, D.int.injEq, D.str.injEq, D.bl.injEq, D.ptr.injEq, D.lst.injEq, D.tup.injEq, D.scr.injEq, D.xc.injEq, D.kr.injEq, D.ty.injEq, MO.lst.injEq, MO.ins.injEq, MO.dK.injEq, V.int.injEq, V.str.injEq, V.bl.injEq, List.cons.injEq, List.set_cons_zero, List.set_cons_succ, and_true, true_and, or_false, false_or, or_true, true_or, and_false, false_and, exists_false, exists_eq_left, exists_eq_left', exists_eq_right, exists_eq_right', exists_eq, exists_eq', exists_and_left, exists_and_right, exists_const, reduceCtorEq, decide_eq_true_eq, if_true, if_false, List.length_cons, List.length_nil, List.append_nil, List.nil_append, List.cons_append, v_scalI, v_scalS, v_scalB, v_scalN, v_decI, v_decS, v_decB, v_lsL, v_lsP, v_lsI, v_lsS, v_lsB, v_lsT, v_lsN, v_sqT, v_sqL, v_sqP, v_sqI, v_sqS, v_sqB, v_sqN, v_vI, v_vS, v_vB, v_vN, v_vT, v_vL, v_vP, v_sign, v_map, v_at0, v_at1, v_at2, v_at3, v_at4, v_at5, v_ofs, v_eqS, v_eqI, v_dkP, v_bdS, v_bdI, v_bdB, v_bdN, v_bdT, v_bdL, v_bdP, v_bdsN, v_bdsC, v_lastD, v_lastS, v_kyS, v_kyI, v_tt, v_ff, String.reduceEq, List.foldl_cons, List.foldl_nil, List.any_cons, List.any_nil, List.find?_cons, List.find?_nil, Sum.inr.injEq, Sum.inl.injEq, decide_true, decide_false, Bool.or_false, Bool.or_true, Bool.true_or, Bool.false_or, List.append_cancel_left_eq, Bool.false_eq_true, List.map_cons, List.map_nil, List.mapM_cons, List.mapM_nil, Option.pure_def, Option.bind_eq_bind, Option.bind_some, Option.bind_none, Nat.lt_irrefl, Option.map_some, Option.map_none, and_assoc, Nat.zero_add, Nat.reduceAdd, Nat.reduceLeDiff, Nat.le_refl, sizeLine_eq, and_self, forall_const, Bool.not_eq_true', Bool.not_true, Bool.not_false, decide_eq_false_iff_not, ite_not, hM _ _ d2, pv, w_spoilt_9, dgSet, hS _ _ _ d2, ixa', mset']
        have h1i : (0 : Int) < a := by omega
        simp only [h1i, if_true]
        split
        · exact fw
        · rename_i h
          exact fq (fun _ z => h (by rw [ej] at z; exact Option.some.inj z))
      · simp only [dSeq, dIf, dAsg, dgName, dVar, dC, dOp, dNil, dCons, dTup, dTest, dAnd, dOr, dNot, dIfE, dAndV, dOrV, dNotV, dNext, dRet, dRetN, dDrop, dCall, dCallS, wLen, wI, wAdd, wAddI, wAddS, wAddL, wSub, wMod, wDiv, wPow, wLt, wLe, wGt, wGe, wMulB, wMulS, wEqF, wNeF, wIsN, wNotN, wInS, wNotInS, wIx, dNeg, dAug, dAppend, dLst, dLstM, dLstB, dSl, dPart, dNo, wCut, dBreak, dCont, dRaise, dMeth, dFld, wFld, dSetF, dAugF, dgTupF, dgTup, dgCons, dgNil, dgSet, dThen, dSo, dSoE, wIntC, dChain, dMake, wListC, wListM, dDisp, dPsCons, dPsNil, keysOf, DL.putAll, putD, valD, dUpC, inV, wDGet, wDIn, dDPut, dGet2, dPopAt, dJoin, wInL, dIsX, List.getElem?_cons_zero, List.getElem?_cons_succ, List.getElem?_nil, Option.some.injEq, D.int.injEq, D.str.injEq, D.bl.injEq, D.ptr.injEq, D.lst.injEq, D.tup.injEq, D.scr.injEq, D.xc.injEq, D.kr.injEq, D.ty.injEq, MO.lst.injEq, MO.ins.injEq, MO.dK.injEq, V.int.injEq, V.str.injEq, V.bl.injEq, List.cons.injEq, List.set_cons_zero, List.set_cons_succ, and_true, true_and, or_false, false_or, or_true, true_or, and_false, false_and, exists_false, exists_eq_left, exists_eq_left', exists_eq_right, exists_eq_right', exists_eq, exists_eq', exists_and_left, exists_and_right, exists_const, reduceCtorEq, decide_eq_true_eq, if_true, if_false, List.length_cons, List.length_nil, List.append_nil, List.nil_append, List.cons_append, v_scalI, v_scalS, v_scalB, v_scalN, v_decI, v_decS, v_decB, v_lsL, v_lsP, v_lsI, v_lsS, v_lsB, v_lsT, v_lsN, v_sqT, v_sqL, v_sqP, v_sqI, v_sqS, v_sqB, v_sqN, v_vI, v_vS, v_vB, v_vN, v_vT, v_vL, v_vP, v_sign, v_map, v_at0, v_at1, v_at2, v_at3, v_at4, v_at5, v_ofs, v_eqS, v_eqI, v_dkP, v_bdS, v_bdI, v_bdB, v_bdN, v_bdT, v_bdL, v_bdP, v_bdsN, v_bdsC, v_lastD, v_lastS, v_kyS, v_kyI, v_tt, v_ff, String.reduceEq, List.foldl_cons, List.foldl_nil, List.any_cons, List.any_nil, List.find?_cons, List.find?_nil, Sum.inr.injEq, Sum.inl.injEq, decide_true, decide_false, Bool.or_false, Bool.or_true, Bool.true_or, Bool.false_or, List.append_cancel_left_eq, Bool.false_eq_true, List.map_cons, List.map_nil, List.mapM_cons, List.mapM_nil, Option.pure_def, Option.bind_eq_bind, Option.bind_some, Option.bind_none, Nat.lt_irrefl, Option.map_some, Option.map_none, and_assoc, Nat.zero_add, Nat.reduceAdd, Nat.reduceLeDiff, Nat.le_refl, sizeLine_eq, and_self, forall_const, Bool.not_eq_true', Bool.not_true, Bool.not_false, decide_eq_false_iff_not, ite_not, w_spoilt_9]
        have h1i : ¬ (0 : Int) < a := by omega
        simp only [h1i, if_false]
        exact fq (fun z => absurd z h1)
  unfold w_spoilt_10
  simp only [dSeq, dIf, dAsg, dgName, dVar, dC, dOp, dNil, dCons, dTup, dTest, dAnd, dOr, dNot, dIfE, dAndV, dOrV, dNotV, dNext, dRet, dRetN, dDrop, dCall, dCallS, wLen, wI, wAdd, wAddI, wAddS, wAddL, wSub, wMod, wDiv, wPow, wLt, wLe, wGt, wGe, wMulB, wMulS, wEqF, wNeF, wIsN, wNotN, wInS, wNotInS, wIx, dNeg, dAug, dAppend, dLst, dLstM, dLstB, dSl, dPart, dNo, wCut, dBreak, dCont, dRaise, dMeth, dFld, wFld, dSetF, dAugF, dgTupF, dgTup, dgCons, dgNil, dgSet, dThen, dSo, dSoE, wIntC, dChain, dMake, wListC, wListM, dDisp, dPsCons, dPsNil, keysOf, DL.putAll, putD, valD, dUpC, inV, wDGet, wDIn, dDPut, dGet2, dPopAt, dJoin, wInL, dIsX, List.getElem?_cons_zero, List.getElem?_cons_succ, List.getElem?_nil, Option.some.injEq, D.int.injEq, D.str.injEq, D.bl.injEq, D.ptr.injEq, D.lst.injEq, D.tup.injEq, D.scr.injEq, D.xc.injEq, D.kr.injEq, D.ty.injEq, MO.lst.injEq, MO.ins.injEq, MO.dK.injEq, V.int.injEq, V.str.injEq, V.bl.injEq, List.cons.injEq, List.set_cons_zero, List.set_cons_succ, and_true, true_and, or_false, false_or, or_true, true_or, and_false, false_and, exists_false, exists_eq_left, exists_eq_left', exists_eq_right, exists_eq_right', exists_eq, exists_eq', exists_and_left, exists_and_right, exists_const, reduceCtorEq, decide_eq_true_eq, if_true, if_false, List.length_cons, List.length_nil, List.append_nil, List.nil_append, List.cons_append, v_scalI, v_scalS, v_scalB, v_scalN, v_decI, v_decS, v_decB, v_lsL, v_lsP, v_lsI, v_lsS, v_lsB, v_lsT, v_lsN, v_sqT, v_sqL, v_sqP, v_sqI, v_sqS, v_sqB, v_sqN, v_vI, v_vS, v_vB, v_vN, v_vT, v_vL, v_vP, v_sign, v_map, v_at0, v_at1, v_at2, v_at3, v_at4, v_at5, v_ofs, v_eqS, v_eqI, v_dkP, v_bdS, v_bdI, v_bdB, v_bdN, v_bdT, v_bdL, v_bdP, v_bdsN, v_bdsC, v_lastD, v_lastS, v_kyS, v_kyI, v_tt, v_ff, String.reduceEq, List.foldl_cons, List.foldl_nil, List.any_cons, List.any_nil, List.find?_cons, List.find?_nil, Sum.inr.injEq, Sum.inl.injEq, decide_true, decide_false, Bool.or_false, Bool.or_true, Bool.true_or, Bool.false_or, List.append_cancel_left_eq, Bool.false_eq_true, List.map_cons, List.map_nil, List.mapM_cons, List.mapM_nil, Option.pure_def, Option.bind_eq_bind, Option.bind_some, Option.bind_none, Nat.lt_irrefl, Option.map_some, Option.map_none, and_assoc, Nat.zero_add, Nat.reduceAdd, Nat.reduceLeDiff, Nat.le_refl, sizeLine_eq, and_self, forall_const, Bool.not_eq_true', Bool.not_true, Bool.not_false, decide_eq_false_iff_not, ite_not]
  have big : ∀ (o x : List Str), o.length ≤ 61 → x.length ≤ us.length → (o ++ x).length ≤ 1000 := fun o x h1 h2 => by
    rw [List.length_append]
    omega
  split
  · -- a token too much
    unfold w_spoilt_11
    simp only [dSeq, dIf, dAsg, dgName, dVar, dC, dOp, dNil, dCons, dTup, dTest, dAnd, dOr, dNot, dIfE, dAndV, dOrV, dNotV, dNext, dRet, dRetN, dDrop, dCall, dCallS, wLen, wI, wAdd, wAddI, wAddS, wAddL, wSub, wMod, wDiv, wPow, wLt, wLe, wGt, wGe, wMulB, wMulS, wEqF, wNeF, wIsN, wNotN, wInS, wNotInS, wIx, dNeg, dAug, dAppend, dLst, dLstM, dLstB, dSl, dPart, dNo, wCut, dBreak, dCont, dRaise, dMeth, dFld, wFld, dSetF, dAugF, dgTupF, dgTup, dgCons, dgNil, dgSet, dThen, dSo, dSoE, wIntC, dChain, dMake, wListC, wListM, dDisp, dPsCons, dPsNil, keysOf, DL.putAll, putD, valD, dUpC, inV, wDGet, wDIn, dDPut, dGet2, dPopAt, dJoin, wInL, dIsX, List.getElem?_cons_zero, List.getElem?_cons_succ, List.getElem?_nil, Option.some.injEq, D.int.injEq, D.str.injEq, D.bl.injEq, D.ptr.injEq, D.lst.injEq, D.tup.injEq, D.scr.injEq, D.xc.injEq, D.kr.injEq, D.ty.injEq, MO.lst.injEq, MO.ins.injEq, MO.dK.injEq, V.int.injEq, V.str.injEq, V.bl.injEq, List.cons.injEq, List.set_cons_zero, List.set_cons_succ, and_true, true_and, or_false, false_or, or_true, true_or, and_false, false_and, exists_false, exists_eq_left, exists_eq_left', exists_eq_right, exists_eq_right', exists_eq, exists_eq', exists_and_left, exists_and_right, exists_const, reduceCtorEq, decide_eq_true_eq, if_true, if_false, List.length_cons, List.length_nil, List.append_nil, List.nil_append, List.cons_append, v_scalI, v_scalS, v_scalB, v_scalN, v_decI, v_decS, v_decB, v_lsL, v_lsP, v_lsI, v_lsS, v_lsB, v_lsT, v_lsN, v_sqT, v_sqL, v_sqP, v_sqI, v_sqS, v_sqB, v_sqN, v_vI, v_vS, v_vB, v_vN, v_vT, v_vL, v_vP, v_sign, v_map, v_at0, v_at1, v_at2, v_at3, v_at4, v_at5, v_ofs, v_eqS, v_eqI, v_dkP, v_bdS, v_bdI, v_bdB, v_bdN, v_bdT, v_bdL, v_bdP, v_bdsN, v_bdsC, v_lastD, v_lastS, v_kyS, v_kyI, v_tt, v_ff, String.reduceEq, List.foldl_cons, List.foldl_nil, List.any_cons, List.any_nil, List.find?_cons, List.find?_nil, Sum.inr.injEq, Sum.inl.injEq, decide_true, decide_false, Bool.or_false, Bool.or_true, Bool.true_or, Bool.false_or, List.append_cancel_left_eq, Bool.false_eq_true, List.map_cons, List.map_nil, List.mapM_cons, List.mapM_nil, Option.pure_def, Option.bind_eq_bind, Option.bind_some, Option.bind_none, Nat.lt_irrefl, Option.map_some, Option.map_none, and_assoc, Nat.zero_add, Nat.reduceAdd, Nat.reduceLeDiff, Nat.le_refl, sizeLine_eq, and_self, forall_const, Bool.not_eq_true', Bool.not_true, Bool.not_false, decide_eq_false_iff_not, ite_not, hM _ _ d2, List.length_map, w_spoilt_12]
    refine r_dr1 (d2.1.app _) (by omega) (by omega) fun u M3 u0 u1 d3 => ?_
    obtain ⟨M4, rfl, d4⟩ := d3.app (by rw [e1]; exact hlt)
    have d4 := d2.trans d4
    have fin : ∀ u : Str, u ∈ ([")", "?", "A"] : List Str) → w_spoilt_27 K w ad (DsF M Qd Xd) [some (.ptr d), some (.str L), some (.lst (us.map .str)), some (.int kd), some (.int us.length), some (.ptr M.length), none, none, none, none, none, none] (M4 ++ [MO.lst (us.map D.str ++ [.str u])]) := fun u hu => by
      have cs : ∃ c, u.cps.toList = [c] ∧ isBlk c = false ∧ isAbc c = false ∧ atomOf u = none ∧ u ≠ "!" ∧ u ≠ "(" ∧ u ≠ "@" ∧ u ≠ "|" ∧ u ≠ "&" ∧ u ≠ "*" ∧ u ≠ "" ∧ u.length ≤ 12 := by
        simp only [List.mem_cons, List.not_mem_nil, or_false] at hu
        rcases hu with rfl | rfl | rfl
        · exact ⟨41, by decide⟩
        · exact ⟨63, by decide⟩
        · exact ⟨65, by decide⟩
      obtain ⟨c, c1, c2, c3, c4, c5, c6, c7, c8, c9, c10, c11, c12⟩ := cs
      have sp := sp_app LO dv hk60 c11 (bgn_no c1 (abc_of LO c c3) c4 c5 c6 c7) c10 c9 c8 (good1 c c1 c2 false (fun z => by cases z))
      have := u_spoilt_27 (K := K) (w := w) (ad := ad) (t := [MO.lst ((us ++ [u]).map .str)]) (o6 := some (.int kd)) (o7 := none) (o8 := none) (o9 := none) (o10 := none) (o11 := none) (d2 := .str L) (d3 := .lst (us.map .str)) (Xd := Xd) hw hlt d4 (lsP _ _ d4) nd sp (by rw [List.length_append]; show _ + 1 ≤ _; omega) (fun t ht => by
        rcases List.mem_append.mp ht with h | h
        · exact u12 t h
        · rw [List.mem_singleton.mp h]; exact c12) q
      rw [List.map_append] at this
      exact this
    rcases (show u = 0 ∨ u = 1 ∨ u = 2 by omega) with rfl | rfl | rfl
    · simp only [dSeq, dIf, dAsg, dgName, dVar, dC, dOp, dNil, dCons, dTup, dTest, dAnd, dOr, dNot, dIfE, dAndV, dOrV, dNotV, dNext, dRet, dRetN, dDrop, dCall, dCallS, wLen, wI, wAdd, wAddI, wAddS, wAddL, wSub, wMod, wDiv, wPow, wLt, wLe, wGt, wGe, wMulB, wMulS, wEqF, wNeF, wIsN, wNotN, wInS, wNotInS, wIx, dNeg, dAug, dAppend, dLst, dLstM, dLstB, dSl, dPart, dNo, wCut, dBreak, dCont, dRaise, dMeth, dFld, wFld, dSetF, dAugF, dgTupF, dgTup, dgCons, dgNil, dgSet, dThen, dSo, dSoE, wIntC, dChain, dMake, wListC, wListM, dDisp, dPsCons, dPsNil, keysOf, DL.putAll, putD, valD, dUpC, inV, wDGet, wDIn, dDPut, dGet2, dPopAt, dJoin, wInL, dIsX, List.getElem?_cons_zero, List.getElem?_cons_succ, List.getElem?_nil, Option.some.injEq, D.int.injEq, D.str.injEq, D.bl.injEq, D.ptr.injEq, D.lst.injEq, D.tup.injEq, D.scr.injEq, D.xc.injEq, D.kr.injEq, D.ty.injEq, MO.lst.injEq, MO.ins.injEq, MO.dK.injEq, V.int.injEq, V.str.injEq, V.bl.injEq, List.cons.injEq, List.set_cons_zero, List.set_cons_succ, and_true, true_and, or_false, false_or, or_true, true_or, and_false, false_and, exists_false, exists_eq_left, exists_eq_left', exists_eq_right, exists_eq_right', exists_eq, exists_eq', exists_and_left, exists_and_right, exists_const, reduceCtorEq, decide_eq_true_eq, if_true, if_false, List.length_cons, List.length_nil, List.append_nil, List.nil_append, List.cons_append, v_scalI, v_scalS, v_scalB, v_scalN, v_decI, v_decS, v_decB, v_lsL, v_lsP, v_lsI, v_lsS, v_lsB, v_lsT, v_lsN, v_sqT, v_sqL, v_sqP, v_sqI, v_sqS, v_sqB, v_sqN, v_vI, v_vS, v_vB, v_vN, v_vT, v_vL, v_vP, v_sign, v_map, v_at0, v_at1, v_at2, v_at3, v_at4, v_at5, v_ofs, v_eqS, v_eqI, v_dkP, v_bdS, v_bdI, v_bdB, v_bdN, v_bdT, v_bdL, v_bdP, v_bdsN, v_bdsC, v_lastD, v_lastS, v_kyS, v_kyI, v_tt, v_ff, String.reduceEq, List.foldl_cons, List.foldl_nil, List.any_cons, List.any_nil, List.find?_cons, List.find?_nil, Sum.inr.injEq, Sum.inl.injEq, decide_true, decide_false, Bool.or_false, Bool.or_true, Bool.true_or, Bool.false_or, List.append_cancel_left_eq, Bool.false_eq_true, List.map_cons, List.map_nil, List.mapM_cons, List.mapM_nil, Option.pure_def, Option.bind_eq_bind, Option.bind_some, Option.bind_none, Nat.lt_irrefl, Option.map_some, Option.map_none, and_assoc, Nat.zero_add, Nat.reduceAdd, Nat.reduceLeDiff, Nat.le_refl, sizeLine_eq, and_self, forall_const, Bool.not_eq_true', Bool.not_true, Bool.not_false, decide_eq_false_iff_not, ite_not, hM _ _ d4, hS _ _ _ d4, List.length_map]
      exact ⟨by omega, fin _ (by decide)⟩
    · simp only [dSeq, dIf, dAsg, dgName, dVar, dC, dOp, dNil, dCons, dTup, dTest, dAnd, dOr, dNot, dIfE, dAndV, dOrV, dNotV, dNext, dRet, dRetN, dDrop, dCall, dCallS, wLen, wI, wAdd, wAddI, wAddS, wAddL, wSub, wMod, wDiv, wPow, wLt, wLe, wGt, wGe, wMulB, wMulS, wEqF, wNeF, wIsN, wNotN, wInS, wNotInS, wIx, dNeg, dAug, dAppend, dLst, dLstM, dLstB, dSl, dPart, dNo, wCut, dBreak, dCont, dRaise, dMeth, dFld, wFld, dSetF, dAugF, dgTupF, dgTup, dgCons, dgNil, dgSet, dThen, dSo, dSoE, wIntC, dChain, dMake, wListC, wListM, dDisp, dPsCons, dPsNil, keysOf, DL.putAll, putD, valD, dUpC, inV, wDGet, wDIn, dDPut, dGet2, dPopAt, dJoin, wInL, dIsX, List.getElem?_cons_zero, List.getElem?_cons_succ, List.getElem?_nil, Option.some.injEq, D.int.injEq, D.str.injEq, D.bl.injEq, D.ptr.injEq, D.lst.injEq, D.tup.injEq, D.scr.injEq, D.xc.injEq, D.kr.injEq, D.ty.injEq, MO.lst.injEq, MO.ins.injEq, MO.dK.injEq, V.int.injEq, V.str.injEq, V.bl.injEq, List.cons.injEq, List.set_cons_zero, List.set_cons_succ, and_true, true_and, or_false, false_or, or_true, true_or, and_false, false_and, exists_false, exists_eq_left, exists_eq_left', exists_eq_right, exists_eq_right', exists_eq, exists_eq', exists_and_left, exists_and_right, exists_const, reduceCtorEq, decide_eq_true_eq, if_true, if_false, List.length_cons, List.length_nil, List.append_nil, List.nil_append, List.cons_append, v_scalI, v_scalS, v_scalB, v_scalN, v_decI, v_decS, v_decB, v_lsL, v_lsP, v_lsI, v_lsS, v_lsB, v_lsT, v_lsN, v_sqT, v_sqL, v_sqP, v_sqI, v_sqS, v_sqB, v_sqN, v_vI, v_vS, v_vB, v_vN, v_vT, v_vL, v_vP, v_sign, v_map, v_at0, v_at1, v_at2, v_at3, v_at4, v_at5, v_ofs, v_eqS, v_eqI, v_dkP, v_bdS, v_bdI, v_bdB, v_bdN, v_bdT, v_bdL, v_bdP, v_bdsN, v_bdsC, v_lastD, v_lastS, v_kyS, v_kyI, v_tt, v_ff, String.reduceEq, List.foldl_cons, List.foldl_nil, List.any_cons, List.any_nil, List.find?_cons, List.find?_nil, Sum.inr.injEq, Sum.inl.injEq, decide_true, decide_false, Bool.or_false, Bool.or_true, Bool.true_or, Bool.false_or, List.append_cancel_left_eq, Bool.false_eq_true, List.map_cons, List.map_nil, List.mapM_cons, List.mapM_nil, Option.pure_def, Option.bind_eq_bind, Option.bind_some, Option.bind_none, Nat.lt_irrefl, Option.map_some, Option.map_none, and_assoc, Nat.zero_add, Nat.reduceAdd, Nat.reduceLeDiff, Nat.le_refl, sizeLine_eq, and_self, forall_const, Bool.not_eq_true', Bool.not_true, Bool.not_false, decide_eq_false_iff_not, ite_not, hM _ _ d4, hS _ _ _ d4, List.length_map]
      exact ⟨by omega, fin _ (by decide)⟩
    · simp only [dSeq, dIf, dAsg, dgName, dVar, dC, dOp, dNil, dCons, dTup, dTest, dAnd, dOr, dNot, dIfE, dAndV, dOrV, dNotV, dNext, dRet, dRetN, dDrop, dCall, dCallS, wLen, wI, wAdd, wAddI, wAddS, wAddL, wSub, wMod, wDiv, wPow, wLt, wLe, wGt, wGe, wMulB, wMulS, wEqF, wNeF, wIsN, wNotN, wInS, wNotInS, wIx, dNeg, dAug, dAppend, dLst, dLstM, dLstB, dSl, dPart, dNo, wCut, dBreak, dCont, dRaise, dMeth, dFld, wFld, dSetF, dAugF, dgTupF, dgTup, dgCons, dgNil, dgSet, dThen, dSo, dSoE, wIntC, dChain, dMake, wListC, wListM, dDisp, dPsCons, dPsNil, keysOf, DL.putAll, putD, valD, dUpC, inV, wDGet, wDIn, dDPut, dGet2, dPopAt, dJoin, wInL, dIsX, List.getElem?_cons_zero, List.getElem?_cons_succ, List.getElem?_nil, Option.some.injEq, D.int.injEq, D.str.injEq, D.bl.injEq, D.ptr.injEq, D.lst.injEq, D.tup.injEq, D.scr.injEq, D.xc.injEq, D.kr.injEq, D.ty.injEq, MO.lst.injEq, MO.ins.injEq, MO.dK.injEq, V.int.injEq, V.str.injEq, V.bl.injEq, List.cons.injEq, List.set_cons_zero, List.set_cons_succ, and_true, true_and, or_false, false_or, or_true, true_or, and_false, false_and, exists_false, exists_eq_left, exists_eq_left', exists_eq_right, exists_eq_right', exists_eq, exists_eq', exists_and_left, exists_and_right, exists_const, reduceCtorEq, decide_eq_true_eq, if_true, if_false, List.length_cons, List.length_nil, List.append_nil, List.nil_append, List.cons_append, v_scalI, v_scalS, v_scalB, v_scalN, v_decI, v_decS, v_decB, v_lsL, v_lsP, v_lsI, v_lsS, v_lsB, v_lsT, v_lsN, v_sqT, v_sqL, v_sqP, v_sqI, v_sqS, v_sqB, v_sqN, v_vI, v_vS, v_vB, v_vN, v_vT, v_vL, v_vP, v_sign, v_map, v_at0, v_at1, v_at2, v_at3, v_at4, v_at5, v_ofs, v_eqS, v_eqI, v_dkP, v_bdS, v_bdI, v_bdB, v_bdN, v_bdT, v_bdL, v_bdP, v_bdsN, v_bdsC, v_lastD, v_lastS, v_kyS, v_kyI, v_tt, v_ff, String.reduceEq, List.foldl_cons, List.foldl_nil, List.any_cons, List.any_nil, List.find?_cons, List.find?_nil, Sum.inr.injEq, Sum.inl.injEq, decide_true, decide_false, Bool.or_false, Bool.or_true, Bool.true_or, Bool.false_or, List.append_cancel_left_eq, Bool.false_eq_true, List.map_cons, List.map_nil, List.mapM_cons, List.mapM_nil, Option.pure_def, Option.bind_eq_bind, Option.bind_some, Option.bind_none, Nat.lt_irrefl, Option.map_some, Option.map_none, and_assoc, Nat.zero_add, Nat.reduceAdd, Nat.reduceLeDiff, Nat.le_refl, sizeLine_eq, and_self, forall_const, Bool.not_eq_true', Bool.not_true, Bool.not_false, decide_eq_false_iff_not, ite_not, hM _ _ d4, hS _ _ _ d4, List.length_map]
      exact ⟨by omega, fin _ (by decide)⟩
  unfold w_spoilt_13
  simp only [dSeq, dIf, dAsg, dgName, dVar, dC, dOp, dNil, dCons, dTup, dTest, dAnd, dOr, dNot, dIfE, dAndV, dOrV, dNotV, dNext, dRet, dRetN, dDrop, dCall, dCallS, wLen, wI, wAdd, wAddI, wAddS, wAddL, wSub, wMod, wDiv, wPow, wLt, wLe, wGt, wGe, wMulB, wMulS, wEqF, wNeF, wIsN, wNotN, wInS, wNotInS, wIx, dNeg, dAug, dAppend, dLst, dLstM, dLstB, dSl, dPart, dNo, wCut, dBreak, dCont, dRaise, dMeth, dFld, wFld, dSetF, dAugF, dgTupF, dgTup, dgCons, dgNil, dgSet, dThen, dSo, dSoE, wIntC, dChain, dMake, wListC, wListM, dDisp, dPsCons, dPsNil, keysOf, DL.putAll, putD, valD, dUpC, inV, wDGet, wDIn, dDPut, dGet2, dPopAt, dJoin, wInL, dIsX, List.getElem?_cons_zero, List.getElem?_cons_succ, List.getElem?_nil, Option.some.injEq, D.int.injEq, D.str.injEq, D.bl.injEq, D.ptr.injEq, D.lst.injEq, D.tup.injEq, D.scr.injEq, D.xc.injEq, D.kr.injEq, D.ty.injEq, MO.lst.injEq, MO.ins.injEq, MO.dK.injEq, V.int.injEq, V.str.injEq, V.bl.injEq, List.cons.injEq, List.set_cons_zero, List.set_cons_succ, and_true, true_and, or_false, false_or, or_true, true_or, and_false, false_and, exists_false, exists_eq_left, exists_eq_left', exists_eq_right, exists_eq_right', exists_eq, exists_eq', exists_and_left, exists_and_right, exists_const, reduceCtorEq, decide_eq_true_eq, if_true, if_false, List.length_cons, List.length_nil, List.append_nil, List.nil_append, List.cons_append, v_scalI, v_scalS, v_scalB, v_scalN, v_decI, v_decS, v_decB, v_lsL, v_lsP, v_lsI, v_lsS, v_lsB, v_lsT, v_lsN, v_sqT, v_sqL, v_sqP, v_sqI, v_sqS, v_sqB, v_sqN, v_vI, v_vS, v_vB, v_vN, v_vT, v_vL, v_vP, v_sign, v_map, v_at0, v_at1, v_at2, v_at3, v_at4, v_at5, v_ofs, v_eqS, v_eqI, v_dkP, v_bdS, v_bdI, v_bdB, v_bdN, v_bdT, v_bdL, v_bdP, v_bdsN, v_bdsC, v_lastD, v_lastS, v_kyS, v_kyI, v_tt, v_ff, String.reduceEq, List.foldl_cons, List.foldl_nil, List.any_cons, List.any_nil, List.find?_cons, List.find?_nil, Sum.inr.injEq, Sum.inl.injEq, decide_true, decide_false, Bool.or_false, Bool.or_true, Bool.true_or, Bool.false_or, List.append_cancel_left_eq, Bool.false_eq_true, List.map_cons, List.map_nil, List.mapM_cons, List.mapM_nil, Option.pure_def, Option.bind_eq_bind, Option.bind_some, Option.bind_none, Nat.lt_irrefl, Option.map_some, Option.map_none, and_assoc, Nat.zero_add, Nat.reduceAdd, Nat.reduceLeDiff, Nat.le_refl, sizeLine_eq, and_self, forall_const, Bool.not_eq_true', Bool.not_true, Bool.not_false, decide_eq_false_iff_not, ite_not]
  split
  · -- a sign ahead
    unfold w_spoilt_14
    simp only [dSeq, dIf, dAsg, dgName, dVar, dC, dOp, dNil, dCons, dTup, dTest, dAnd, dOr, dNot, dIfE, dAndV, dOrV, dNotV, dNext, dRet, dRetN, dDrop, dCall, dCallS, wLen, wI, wAdd, wAddI, wAddS, wAddL, wSub, wMod, wDiv, wPow, wLt, wLe, wGt, wGe, wMulB, wMulS, wEqF, wNeF, wIsN, wNotN, wInS, wNotInS, wIx, dNeg, dAug, dAppend, dLst, dLstM, dLstB, dSl, dPart, dNo, wCut, dBreak, dCont, dRaise, dMeth, dFld, wFld, dSetF, dAugF, dgTupF, dgTup, dgCons, dgNil, dgSet, dThen, dSo, dSoE, wIntC, dChain, dMake, wListC, wListM, dDisp, dPsCons, dPsNil, keysOf, DL.putAll, putD, valD, dUpC, inV, wDGet, wDIn, dDPut, dGet2, dPopAt, dJoin, wInL, dIsX, List.getElem?_cons_zero, List.getElem?_cons_succ, List.getElem?_nil, Option.some.injEq, D.int.injEq, D.str.injEq, D.bl.injEq, D.ptr.injEq, D.lst.injEq, D.tup.injEq, D.scr.injEq, D.xc.injEq, D.kr.injEq, D.ty.injEq, MO.lst.injEq, MO.ins.injEq, MO.dK.injEq, V.int.injEq, V.str.injEq, V.bl.injEq, List.cons.injEq, List.set_cons_zero, List.set_cons_succ, and_true, true_and, or_false, false_or, or_true, true_or, and_false, false_and, exists_false, exists_eq_left, exists_eq_left', exists_eq_right, exists_eq_right', exists_eq, exists_eq', exists_and_left, exists_and_right, exists_const, reduceCtorEq, decide_eq_true_eq, if_true, if_false, List.length_cons, List.length_nil, List.append_nil, List.nil_append, List.cons_append, v_scalI, v_scalS, v_scalB, v_scalN, v_decI, v_decS, v_decB, v_lsL, v_lsP, v_lsI, v_lsS, v_lsB, v_lsT, v_lsN, v_sqT, v_sqL, v_sqP, v_sqI, v_sqS, v_sqB, v_sqN, v_vI, v_vS, v_vB, v_vN, v_vT, v_vL, v_vP, v_sign, v_map, v_at0, v_at1, v_at2, v_at3, v_at4, v_at5, v_ofs, v_eqS, v_eqI, v_dkP, v_bdS, v_bdI, v_bdB, v_bdN, v_bdT, v_bdL, v_bdP, v_bdsN, v_bdsC, v_lastD, v_lastS, v_kyS, v_kyI, v_tt, v_ff, String.reduceEq, List.foldl_cons, List.foldl_nil, List.any_cons, List.any_nil, List.find?_cons, List.find?_nil, Sum.inr.injEq, Sum.inl.injEq, decide_true, decide_false, Bool.or_false, Bool.or_true, Bool.true_or, Bool.false_or, List.append_cancel_left_eq, Bool.false_eq_true, List.map_cons, List.map_nil, List.mapM_cons, List.mapM_nil, Option.pure_def, Option.bind_eq_bind, Option.bind_some, Option.bind_none, Nat.lt_irrefl, Option.map_some, Option.map_none, and_assoc, Nat.zero_add, Nat.reduceAdd, Nat.reduceLeDiff, Nat.le_refl, sizeLine_eq, and_self, forall_const, Bool.not_eq_true', Bool.not_true, Bool.not_false, decide_eq_false_iff_not, ite_not, w_spoilt_15]
    refine r_dr1 (d2.1.app _) (by omega) (by omega) fun u M3 u0 u1 d3 => ?_
    obtain ⟨M4, rfl, d4⟩ := d3.app (by rw [e1]; exact hlt)
    have d4 := d2.trans d4
    have fin : ∀ u : Str, u ∈ ([")", "*", "|", "&"] : List Str) → w_spoilt_27 K w ad (DsF M Qd Xd) [some (.ptr d), some (.str L), some (.lst (us.map .str)), some (.int kd), some (.int 0), some (.lst (.str u :: us.map .str)), none, none, none, none, none, none] (M4 ++ [MO.lst (us.map D.str)]) := fun u hu => by
      have cs : ∃ c, u.cps.toList = [c] ∧ isBlk c = false ∧ isAbc c = false ∧ atomOf u = none ∧ u ≠ "!" ∧ u ≠ "(" ∧ u ≠ "@" ∧ u.length ≤ 12 := by
        simp only [List.mem_cons, List.not_mem_nil, or_false] at hu
        rcases hu with rfl | rfl | rfl | rfl
        · exact ⟨41, by decide⟩
        · exact ⟨42, by decide⟩
        · exact ⟨124, by decide⟩
        · exact ⟨38, by decide⟩
      obtain ⟨c, c1, c2, c3, c4, c5, c6, c7, c8⟩ := cs
      have sp := sp_first (L := L) (us := us) (bgn_no c1 (abc_of LO c c3) c4 c5 c6 c7) (good1 c c1 c2 false (fun z => by cases z))
      exact u_spoilt_27 (a := 0) (made := u :: us) hw hlt d4 rfl (fun z => by cases z) sp (by show us.length + 1 ≤ _; omega) (fun t ht => by
        rcases List.mem_cons.mp ht with h | h
        · rw [h]; exact c8
        · exact u12 t h) q
    rcases (show u = 0 ∨ u = 1 ∨ u = 2 ∨ u = 3 by omega) with rfl | rfl | rfl | rfl
    · simp only [dSeq, dIf, dAsg, dgName, dVar, dC, dOp, dNil, dCons, dTup, dTest, dAnd, dOr, dNot, dIfE, dAndV, dOrV, dNotV, dNext, dRet, dRetN, dDrop, dCall, dCallS, wLen, wI, wAdd, wAddI, wAddS, wAddL, wSub, wMod, wDiv, wPow, wLt, wLe, wGt, wGe, wMulB, wMulS, wEqF, wNeF, wIsN, wNotN, wInS, wNotInS, wIx, dNeg, dAug, dAppend, dLst, dLstM, dLstB, dSl, dPart, dNo, wCut, dBreak, dCont, dRaise, dMeth, dFld, wFld, dSetF, dAugF, dgTupF, dgTup, dgCons, dgNil, dgSet, dThen, dSo, dSoE, wIntC, dChain, dMake, wListC, wListM, dDisp, dPsCons, dPsNil, keysOf, DL.putAll, putD, valD, dUpC, inV, wDGet, wDIn, dDPut, dGet2, dPopAt, dJoin, wInL, dIsX, List.getElem?_cons_zero, List.getElem?_cons_succ, List.getElem?_nil, Option.some.injEq, D.int.injEq, D.str.injEq, D.bl.injEq, D.ptr.injEq, D.lst.injEq, D.tup.injEq, D.scr.injEq, D.xc.injEq, D.kr.injEq, D.ty.injEq, MO.lst.injEq, MO.ins.injEq, MO.dK.injEq, V.int.injEq, V.str.injEq, V.bl.injEq, List.cons.injEq, List.set_cons_zero, List.set_cons_succ, and_true, true_and, or_false, false_or, or_true, true_or, and_false, false_and, exists_false, exists_eq_left, exists_eq_left', exists_eq_right, exists_eq_right', exists_eq, exists_eq', exists_and_left, exists_and_right, exists_const, reduceCtorEq, decide_eq_true_eq, if_true, if_false, List.length_cons, List.length_nil, List.append_nil, List.nil_append, List.cons_append, v_scalI, v_scalS, v_scalB, v_scalN, v_decI, v_decS, v_decB, v_lsL, v_lsP, v_lsI, v_lsS, v_lsB, v_lsT, v_lsN, v_sqT, v_sqL, v_sqP, v_sqI, v_sqS, v_sqB, v_sqN, v_vI, v_vS, v_vB, v_vN, v_vT, v_vL, v_vP, v_sign, v_map, v_at0, v_at1, v_at2, v_at3, v_at4, v_at5, v_ofs, v_eqS, v_eqI, v_dkP, v_bdS, v_bdI, v_bdB, v_bdN, v_bdT, v_bdL, v_bdP, v_bdsN, v_bdsC, v_lastD, v_lastS, v_kyS, v_kyI, v_tt, v_ff, String.reduceEq, List.foldl_cons, List.foldl_nil, List.any_cons, List.any_nil, List.find?_cons, List.find?_nil, Sum.inr.injEq, Sum.inl.injEq, decide_true, decide_false, Bool.or_false, Bool.or_true, Bool.true_or, Bool.false_or, List.append_cancel_left_eq, Bool.false_eq_true, List.map_cons, List.map_nil, List.mapM_cons, List.mapM_nil, Option.pure_def, Option.bind_eq_bind, Option.bind_some, Option.bind_none, Nat.lt_irrefl, Option.map_some, Option.map_none, and_assoc, Nat.zero_add, Nat.reduceAdd, Nat.reduceLeDiff, Nat.le_refl, sizeLine_eq, and_self, forall_const, Bool.not_eq_true', Bool.not_true, Bool.not_false, decide_eq_false_iff_not, ite_not, hM _ _ d4, List.length_map]
      exact ⟨by omega, fin _ (by decide)⟩
    · simp only [dSeq, dIf, dAsg, dgName, dVar, dC, dOp, dNil, dCons, dTup, dTest, dAnd, dOr, dNot, dIfE, dAndV, dOrV, dNotV, dNext, dRet, dRetN, dDrop, dCall, dCallS, wLen, wI, wAdd, wAddI, wAddS, wAddL, wSub, wMod, wDiv, wPow, wLt, wLe, wGt, wGe, wMulB, wMulS, wEqF, wNeF, wIsN, wNotN, wInS, wNotInS, wIx, dNeg, dAug, dAppend, dLst, dLstM, dLstB, dSl, dPart, dNo, wCut, dBreak, dCont, dRaise, dMeth, dFld, wFld, dSetF, dAugF, dgTupF, dgTup, dgCons, dgNil, dgSet, dThen, dSo, dSoE, wIntC, dChain, dMake, wListC, wListM, dDisp, dPsCons, dPsNil, keysOf, DL.putAll, putD, valD, dUpC, inV, wDGet, wDIn, dDPut, dGet2, dPopAt, dJoin, wInL, dIsX, List.getElem?_cons_zero, List.getElem?_cons_succ, List.getElem?_nil, Option.some.injEq, D.int.injEq, D.str.injEq, D.bl.injEq, D.ptr.injEq, D.lst.injEq, D.tup.injEq, D.scr.injEq, D.xc.injEq, D.kr.injEq, D.ty.injEq, MO.lst.injEq, MO.ins.injEq, MO.dK.injEq, V.int.injEq, V.str.injEq, V.bl.injEq, List.cons.injEq, List.set_cons_zero, List.set_cons_succ, and_true, true_and, or_false, false_or, or_true, true_or, and_false, false_and, exists_false, exists_eq_left, exists_eq_left', exists_eq_right, exists_eq_right', exists_eq, exists_eq', exists_and_left, exists_and_right, exists_const, reduceCtorEq, decide_eq_true_eq, if_true, if_false, List.length_cons, List.length_nil, List.append_nil, List.nil_append, List.cons_append, v_scalI, v_scalS, v_scalB, v_scalN, v_decI, v_decS, v_decB, v_lsL, v_lsP, v_lsI, v_lsS, v_lsB, v_lsT, v_lsN, v_sqT, v_sqL, v_sqP, v_sqI, v_sqS, v_sqB, v_sqN, v_vI, v_vS, v_vB, v_vN, v_vT, v_vL, v_vP, v_sign, v_map, v_at0, v_at1, v_at2, v_at3, v_at4, v_at5, v_ofs, v_eqS, v_eqI, v_dkP, v_bdS, v_bdI, v_bdB, v_bdN, v_bdT, v_bdL, v_bdP, v_bdsN, v_bdsC, v_lastD, v_lastS, v_kyS, v_kyI, v_tt, v_ff, String.reduceEq, List.foldl_cons, List.foldl_nil, List.any_cons, List.any_nil, List.find?_cons, List.find?_nil, Sum.inr.injEq, Sum.inl.injEq, decide_true, decide_false, Bool.or_false, Bool.or_true, Bool.true_or, Bool.false_or, List.append_cancel_left_eq, Bool.false_eq_true, List.map_cons, List.map_nil, List.mapM_cons, List.mapM_nil, Option.pure_def, Option.bind_eq_bind, Option.bind_some, Option.bind_none, Nat.lt_irrefl, Option.map_some, Option.map_none, and_assoc, Nat.zero_add, Nat.reduceAdd, Nat.reduceLeDiff, Nat.le_refl, sizeLine_eq, and_self, forall_const, Bool.not_eq_true', Bool.not_true, Bool.not_false, decide_eq_false_iff_not, ite_not, hM _ _ d4, List.length_map]
      exact ⟨by omega, fin _ (by decide)⟩
    · simp only [dSeq, dIf, dAsg, dgName, dVar, dC, dOp, dNil, dCons, dTup, dTest, dAnd, dOr, dNot, dIfE, dAndV, dOrV, dNotV, dNext, dRet, dRetN, dDrop, dCall, dCallS, wLen, wI, wAdd, wAddI, wAddS, wAddL, wSub, wMod, wDiv, wPow, wLt, wLe, wGt, wGe, wMulB, wMulS, wEqF, wNeF, wIsN, wNotN, wInS, wNotInS, wIx, dNeg, dAug, dAppend, dLst, dLstM, dLstB, dSl, dPart, dNo, wCut, dBreak, dCont, dRaise, dMeth, dFld, wFld, dSetF, dAugF, dgTupF, dgTup, dgCons, dgNil, dgSet, dThen, dSo, dSoE, wIntC, dChain, dMake, wListC, wListM, dDisp, dPsCons, dPsNil, keysOf, DL.putAll, putD, valD, dUpC, inV, wDGet, wDIn, dDPut, dGet2, dPopAt, dJoin, wInL, dIsX, List.getElem?_cons_zero, List.getElem?_cons_succ, List.getElem?_nil, Option.some.injEq, D.int.injEq, D.str.injEq, D.bl.injEq, D.ptr.injEq, D.lst.injEq, D.tup.injEq, D.scr.injEq, D.xc.injEq, D.kr.injEq, D.ty.injEq, MO.lst.injEq, MO.ins.injEq, MO.dK.injEq, V.int.injEq, V.str.injEq, V.bl.injEq, List.cons.injEq, List.set_cons_zero, List.set_cons_succ, and_true, true_and, or_false, false_or, or_true, true_or, and_false, false_and, exists_false, exists_eq_left, exists_eq_left', exists_eq_right, exists_eq_right', exists_eq, exists_eq', exists_and_left, exists_and_right, exists_const, reduceCtorEq, decide_eq_true_eq, if_true, if_false, List.length_cons, List.length_nil, List.append_nil, List.nil_append, List.cons_append, v_scalI, v_scalS, v_scalB, v_scalN, v_decI, v_decS, v_decB, v_lsL, v_lsP, v_lsI, v_lsS, v_lsB, v_lsT, v_lsN, v_sqT, v_sqL, v_sqP, v_sqI, v_sqS, v_sqB, v_sqN, v_vI, v_vS, v_vB, v_vN, v_vT, v_vL, v_vP, v_sign, v_map, v_at0, v_at1, v_at2, v_at3, v_at4, v_at5, v_ofs, v_eqS, v_eqI, v_dkP, v_bdS, v_bdI, v_bdB, v_bdN, v_bdT, v_bdL, v_bdP, v_bdsN, v_bdsC, v_lastD, v_lastS, v_kyS, v_kyI, v_tt, v_ff, String.reduceEq, List.foldl_cons, List.foldl_nil, List.any_cons, List.any_nil, List.find?_cons, List.find?_nil, Sum.inr.injEq, Sum.inl.injEq, decide_true, decide_false, Bool.or_false, Bool.or_true, Bool.true_or, Bool.false_or, List.append_cancel_left_eq, Bool.false_eq_true, List.map_cons, List.map_nil, List.mapM_cons, List.mapM_nil, Option.pure_def, Option.bind_eq_bind, Option.bind_some, Option.bind_none, Nat.lt_irrefl, Option.map_some, Option.map_none, and_assoc, Nat.zero_add, Nat.reduceAdd, Nat.reduceLeDiff, Nat.le_refl, sizeLine_eq, and_self, forall_const, Bool.not_eq_true', Bool.not_true, Bool.not_false, decide_eq_false_iff_not, ite_not, hM _ _ d4, List.length_map]
      exact ⟨by omega, fin _ (by decide)⟩
    · simp only [dSeq, dIf, dAsg, dgName, dVar, dC, dOp, dNil, dCons, dTup, dTest, dAnd, dOr, dNot, dIfE, dAndV, dOrV, dNotV, dNext, dRet, dRetN, dDrop, dCall, dCallS, wLen, wI, wAdd, wAddI, wAddS, wAddL, wSub, wMod, wDiv, wPow, wLt, wLe, wGt, wGe, wMulB, wMulS, wEqF, wNeF, wIsN, wNotN, wInS, wNotInS, wIx, dNeg, dAug, dAppend, dLst, dLstM, dLstB, dSl, dPart, dNo, wCut, dBreak, dCont, dRaise, dMeth, dFld, wFld, dSetF, dAugF, dgTupF, dgTup, dgCons, dgNil, dgSet, dThen, dSo, dSoE, wIntC, dChain, dMake, wListC, wListM, dDisp, dPsCons, dPsNil, keysOf, DL.putAll, putD, valD, dUpC, inV, wDGet, wDIn, dDPut, dGet2, dPopAt, dJoin, wInL, dIsX, List.getElem?_cons_zero, List.getElem?_cons_succ, List.getElem?_nil, Option.some.injEq, D.int.injEq, D.str.injEq, D.bl.injEq, D.ptr.injEq, D.lst.injEq, D.tup.injEq, D.scr.injEq, D.xc.injEq, D.kr.injEq, D.ty.injEq, MO.lst.injEq, MO.ins.injEq, MO.dK.injEq, V.int.injEq, V.str.injEq, V.bl.injEq, List.cons.injEq, List.set_cons_zero, List.set_cons_succ, and_true, true_and, or_false, false_or, or_true, true_or, and_false, false_and, exists_false, exists_eq_left, exists_eq_left', exists_eq_right, exists_eq_right', exists_eq, exists_eq', exists_and_left, exists_and_right, exists_const, reduceCtorEq, decide_eq_true_eq, if_true, if_false, List.length_cons, List.length_nil, List.append_nil, List.nil_append, List.cons_append, v_scalI, v_scalS, v_scalB, v_scalN, v_decI, v_decS, v_decB, v_lsL, v_lsP, v_lsI, v_lsS, v_lsB, v_lsT, v_lsN, v_sqT, v_sqL, v_sqP, v_sqI, v_sqS, v_sqB, v_sqN, v_vI, v_vS, v_vB, v_vN, v_vT, v_vL, v_vP, v_sign, v_map, v_at0, v_at1, v_at2, v_at3, v_at4, v_at5, v_ofs, v_eqS, v_eqI, v_dkP, v_bdS, v_bdI, v_bdB, v_bdN, v_bdT, v_bdL, v_bdP, v_bdsN, v_bdsC, v_lastD, v_lastS, v_kyS, v_kyI, v_tt, v_ff, String.reduceEq, List.foldl_cons, List.foldl_nil, List.any_cons, List.any_nil, List.find?_cons, List.find?_nil, Sum.inr.injEq, Sum.inl.injEq, decide_true, decide_false, Bool.or_false, Bool.or_true, Bool.true_or, Bool.false_or, List.append_cancel_left_eq, Bool.false_eq_true, List.map_cons, List.map_nil, List.mapM_cons, List.mapM_nil, Option.pure_def, Option.bind_eq_bind, Option.bind_some, Option.bind_none, Nat.lt_irrefl, Option.map_some, Option.map_none, and_assoc, Nat.zero_add, Nat.reduceAdd, Nat.reduceLeDiff, Nat.le_refl, sizeLine_eq, and_self, forall_const, Bool.not_eq_true', Bool.not_true, Bool.not_false, decide_eq_false_iff_not, ite_not, hM _ _ d4, List.length_map]
      exact ⟨by omega, fin _ (by decide)⟩
  unfold w_spoilt_16
  simp only [dSeq, dIf, dAsg, dgName, dVar, dC, dOp, dNil, dCons, dTup, dTest, dAnd, dOr, dNot, dIfE, dAndV, dOrV, dNotV, dNext, dRet, dRetN, dDrop, dCall, dCallS, wLen, wI, wAdd, wAddI, wAddS, wAddL, wSub, wMod, wDiv, wPow, wLt, wLe, wGt, wGe, wMulB, wMulS, wEqF, wNeF, wIsN, wNotN, wInS, wNotInS, wIx, dNeg, dAug, dAppend, dLst, dLstM, dLstB, dSl, dPart, dNo, wCut, dBreak, dCont, dRaise, dMeth, dFld, wFld, dSetF, dAugF, dgTupF, dgTup, dgCons, dgNil, dgSet, dThen, dSo, dSoE, wIntC, dChain, dMake, wListC, wListM, dDisp, dPsCons, dPsNil, keysOf, DL.putAll, putD, valD, dUpC, inV, wDGet, wDIn, dDPut, dGet2, dPopAt, dJoin, wInL, dIsX, List.getElem?_cons_zero, List.getElem?_cons_succ, List.getElem?_nil, Option.some.injEq, D.int.injEq, D.str.injEq, D.bl.injEq, D.ptr.injEq, D.lst.injEq, D.tup.injEq, D.scr.injEq, D.xc.injEq, D.kr.injEq, D.ty.injEq, MO.lst.injEq, MO.ins.injEq, MO.dK.injEq, V.int.injEq, V.str.injEq, V.bl.injEq, List.cons.injEq, List.set_cons_zero, List.set_cons_succ, and_true, true_and, or_false, false_or, or_true, true_or, and_false, false_and, exists_false, exists_eq_left, exists_eq_left', exists_eq_right, exists_eq_right', exists_eq, exists_eq', exists_and_left, exists_and_right, exists_const, reduceCtorEq, decide_eq_true_eq, if_true, if_false, List.length_cons, List.length_nil, List.append_nil, List.nil_append, List.cons_append, v_scalI, v_scalS, v_scalB, v_scalN, v_decI, v_decS, v_decB, v_lsL, v_lsP, v_lsI, v_lsS, v_lsB, v_lsT, v_lsN, v_sqT, v_sqL, v_sqP, v_sqI, v_sqS, v_sqB, v_sqN, v_vI, v_vS, v_vB, v_vN, v_vT, v_vL, v_vP, v_sign, v_map, v_at0, v_at1, v_at2, v_at3, v_at4, v_at5, v_ofs, v_eqS, v_eqI, v_dkP, v_bdS, v_bdI, v_bdB, v_bdN, v_bdT, v_bdL, v_bdP, v_bdsN, v_bdsC, v_lastD, v_lastS, v_kyS, v_kyI, v_tt, v_ff, String.reduceEq, List.foldl_cons, List.foldl_nil, List.any_cons, List.any_nil, List.find?_cons, List.find?_nil, Sum.inr.injEq, Sum.inl.injEq, decide_true, decide_false, Bool.or_false, Bool.or_true, Bool.true_or, Bool.false_or, List.append_cancel_left_eq, Bool.false_eq_true, List.map_cons, List.map_nil, List.mapM_cons, List.mapM_nil, Option.pure_def, Option.bind_eq_bind, Option.bind_some, Option.bind_none, Nat.lt_irrefl, Option.map_some, Option.map_none, and_assoc, Nat.zero_add, Nat.reduceAdd, Nat.reduceLeDiff, Nat.le_refl, sizeLine_eq, and_self, forall_const, Bool.not_eq_true', Bool.not_true, Bool.not_false, decide_eq_false_iff_not, ite_not]
  split
  · -- cut
    unfold w_spoilt_17
    simp only [dSeq, dIf, dAsg, dgName, dVar, dC, dOp, dNil, dCons, dTup, dTest, dAnd, dOr, dNot, dIfE, dAndV, dOrV, dNotV, dNext, dRet, dRetN, dDrop, dCall, dCallS, wLen, wI, wAdd, wAddI, wAddS, wAddL, wSub, wMod, wDiv, wPow, wLt, wLe, wGt, wGe, wMulB, wMulS, wEqF, wNeF, wIsN, wNotN, wInS, wNotInS, wIx, dNeg, dAug, dAppend, dLst, dLstM, dLstB, dSl, dPart, dNo, wCut, dBreak, dCont, dRaise, dMeth, dFld, wFld, dSetF, dAugF, dgTupF, dgTup, dgCons, dgNil, dgSet, dThen, dSo, dSoE, wIntC, dChain, dMake, wListC, wListM, dDisp, dPsCons, dPsNil, keysOf, DL.putAll, putD, valD, dUpC, inV, wDGet, wDIn, dDPut, dGet2, dPopAt, dJoin, wInL, dIsX, List.getElem?_cons_zero, List.getElem?_cons_succ, List.getElem?_nil, Option.some.injEq, D.int.injEq, D.str.injEq, D.bl.injEq, D.ptr.injEq, D.lst.injEq, D.tup.injEq, D.scr.injEq, D.xc.injEq, D.kr.injEq, D.ty.injEq, MO.lst.injEq, MO.ins.injEq, MO.dK.injEq, V.int.injEq, V.str.injEq, V.bl.injEq, List.cons.injEq, List.set_cons_zero, List.set_cons_succ, and_true, true_and, or_false, false_or, or_true, true_or, and_false, false_and, exists_false, exists_eq_left, exists_eq_left', exists_eq_right, exists_eq_right', exists_eq, exists_eq', exists_and_left, exists_and_right, exists_const, reduceCtorEq, decide_eq_true_eq, if_true, if_false, List.length_cons, List.length_nil, List.append_nil, List.nil_append, List.cons_append, v_scalI, v_scalS, v_scalB, v_scalN, v_decI, v_decS, v_decB, v_lsL, v_lsP, v_lsI, v_lsS, v_lsB, v_lsT, v_lsN, v_sqT, v_sqL, v_sqP, v_sqI, v_sqS, v_sqB, v_sqN, v_vI, v_vS, v_vB, v_vN, v_vT, v_vL, v_vP, v_sign, v_map, v_at0, v_at1, v_at2, v_at3, v_at4, v_at5, v_ofs, v_eqS, v_eqI, v_dkP, v_bdS, v_bdI, v_bdB, v_bdN, v_bdT, v_bdL, v_bdP, v_bdsN, v_bdsC, v_lastD, v_lastS, v_kyS, v_kyI, v_tt, v_ff, String.reduceEq, List.foldl_cons, List.foldl_nil, List.any_cons, List.any_nil, List.find?_cons, List.find?_nil, Sum.inr.injEq, Sum.inl.injEq, decide_true, decide_false, Bool.or_false, Bool.or_true, Bool.true_or, Bool.false_or, List.append_cancel_left_eq, Bool.false_eq_true, List.map_cons, List.map_nil, List.mapM_cons, List.mapM_nil, Option.pure_def, Option.bind_eq_bind, Option.bind_some, Option.bind_none, Nat.lt_irrefl, Option.map_some, Option.map_none, and_assoc, Nat.zero_add, Nat.reduceAdd, Nat.reduceLeDiff, Nat.le_refl, sizeLine_eq, and_self, forall_const, Bool.not_eq_true', Bool.not_true, Bool.not_false, decide_eq_false_iff_not, ite_not, dLc_eq, diRng1, hM _ _ d2, List.length_map]
    intro hw2 _
    refine ⟨by omega, by omega, ?_⟩
    rw [Int.toNat_natCast]
    have wp : ∀ x ∈ (rng 0 us.length).filter (wP us), ∃ (i : Nat) (v : Str), x = .int i ∧ us[i]? = some v ∧ v ∈ wants := by
      intro x hx
      obtain ⟨h1, h2⟩ := List.mem_filter.mp hx
      obtain ⟨j, hj⟩ := List.mem_iff_getElem?.mp h1
      obtain ⟨hj', rfl⟩ := rng_at hj
      unfold wP at h2
      dsimp only at h2
      rw [Int.toNat_natCast, List.getElem?_eq_getElem hj'] at h2
      refine ⟨j, us[j], rfl, List.getElem?_eq_getElem hj', ?_⟩
      simp only [Bool.or_eq_true, decide_eq_true_eq] at h2
      rcases h2 with h | h | h | h | h <;> rw [← h] <;> decide
    have wl : ((rng 0 us.length).filter (wP us)).length ≤ us.length := Nat.le_trans (List.length_filter_le _ _) (by rw [rng_len]; exact Nat.le_refl _)
    refine lc_filter (wP us) id hw2 (fun _ => trivial) (by rw [sizeLine_eq, rng_len]; omega) ?_ ?_ ?_ (.inl ?_)
    · intro d' hd' _
      obtain ⟨_, _, rfl⟩ := List.mem_map.mp hd'
      exact .int _
    · intro j d' acc B hj hB
      obtain ⟨hj', rfl⟩ := rng_at hj
      have ej : us[j]? = some us[j] := List.getElem?_eq_getElem hj'
      have el : ∀ t : Mm, (M2 ++ [MO.lst (us.map D.str)] ++ t)[M.length]? = some (MO.lst (us.map D.str)) := fun t => app_at (hM _ _ d2)
      simp only [dSeq, dIf, dAsg, dgName, dVar, dC, dOp, dNil, dCons, dTup, dTest, dAnd, dOr, dNot, dIfE, dAndV, dOrV, dNotV, dNext, dRet, dRetN, dDrop, dCall, dCallS, wLen, wI, wAdd, wAddI, wAddS, wAddL, wSub, wMod, wDiv, wPow, wLt, wLe, wGt, wGe, wMulB, wMulS, wEqF, wNeF, wIsN, wNotN, wInS, wNotInS, wIx, dNeg, dAug, dAppend, dLst, dLstM, dLstB, dSl, dPart, dNo, wCut, dBreak, dCont, dRaise, dMeth, dFld, wFld, dSetF, dAugF, dgTupF, dgTup, dgCons, dgNil, dgSet, dThen, dSo, dSoE, wIntC, dChain, dMake, wListC, wListM, dDisp, dPsCons, dPsNil, keysOf, DL.putAll, putD, valD, dUpC, inV, wDGet, wDIn, dDPut, dGet2, dPopAt, dJoin, wInL, dIsX, List.getElem?_cons_zero, List.getElem?_cons_succ, List.getElem?_nil, Option.some.injEq, D.int.injEq, D.str.injEq, D.bl.injEq, D.ptr.injEq, D.lst.injEq, D.tup.injEq, D.scr.injEq, D.xc.injEq, D.kr.injEq, D.ty.injEq, MO.lst.injEq, MO.ins.injEq, MO.dK.injEq, V.int.injEq, V.str.injEq, V.bl.injEq, List.cons.injEq, List.set_cons_zero, List.set_cons_succ, and_true, true_and, or_false, false_or, or_true, true_or, and_false, false_and, exists_false, exists_eq_left, exists_eq_left', exists_eq_right, exists_eq_right', exists_eq, exists_eq', exists_and_left, exists_and_right, exists_const, reduceCtorEq, decide_eq_true_eq, if_true, if_false, List.length_cons, List.length_nil, List.append_nil, List.nil_append, List.cons_append, v_scalI, v_scalS, v_scalB, v_scalN, v_decI, v_decS, v_decB, v_lsL, v_lsP, v_lsI, v_lsS, v_lsB, v_lsT, v_lsN, v_sqT, v_sqL, v_sqP, v_sqI, v_sqS, v_sqB, v_sqN, v_vI, v_vS, v_vB, v_vN, v_vT, v_vL, v_vP, v_sign, v_map, v_at0, v_at1, v_at2, v_at3, v_at4, v_at5, v_ofs, v_eqS, v_eqI, v_dkP, v_bdS, v_bdI, v_bdB, v_bdN, v_bdT, v_bdL, v_bdP, v_bdsN, v_bdsC, v_lastD, v_lastS, v_kyS, v_kyI, v_tt, v_ff, String.reduceEq, List.foldl_cons, List.foldl_nil, List.any_cons, List.any_nil, List.find?_cons, List.find?_nil, Sum.inr.injEq, Sum.inl.injEq, decide_true, decide_false, Bool.or_false, Bool.or_true, Bool.true_or, Bool.false_or, List.append_cancel_left_eq, Bool.false_eq_true, List.map_cons, List.map_nil, List.mapM_cons, List.mapM_nil, Option.pure_def, Option.bind_eq_bind, Option.bind_some, Option.bind_none, Nat.lt_irrefl, Option.map_some, Option.map_none, and_assoc, Nat.zero_add, Nat.reduceAdd, Nat.reduceLeDiff, Nat.le_refl, sizeLine_eq, and_self, forall_const, Bool.not_eq_true', Bool.not_true, Bool.not_false, decide_eq_false_iff_not, ite_not, el, at_nat ej]
      unfold wP at hB
      dsimp only at hB
      rw [Int.toNat_natCast, ej] at hB
      exact hB
    · intro j d' acc Q' hj hp hq
      exact ⟨_, rfl, hq⟩
    rw [List.map_id]
    generalize (rng 0 us.length).filter _ = ws at wp wl
    have hlen : ∀ (M3 : Mm) (o7 : Option D) (made : List Str), DrS d M M3 → Spoilt L made made.length → made.length ≤ 1000 → (∀ t ∈ made, t.length ≤ 12) → w_spoilt_22 K w ad { nx := fun ρ' M' => w_spoilt_27 K w ad (DsF M Qd Xd) ρ' M', rt := (DsF M Qd Xd).rt, ex := (DsF M Qd Xd).ex, bk := (DsF M Qd Xd).bk, ct := (DsF M Qd Xd).ct }
        [some (.ptr d), some (.str L), some (.lst (us.map .str)), some (.int kd), some (.int a), some (.lst (made.map .str)), none, o7, none, none, none, none] (M3 ++ [MO.lst (us.map D.str)]) := fun M3 o7 made d4 sp h1 h2 => by
      unfold w_spoilt_22
      simp only [dSeq, dIf, dAsg, dgName, dVar, dC, dOp, dNil, dCons, dTup, dTest, dAnd, dOr, dNot, dIfE, dAndV, dOrV, dNotV, dNext, dRet, dRetN, dDrop, dCall, dCallS, wLen, wI, wAdd, wAddI, wAddS, wAddL, wSub, wMod, wDiv, wPow, wLt, wLe, wGt, wGe, wMulB, wMulS, wEqF, wNeF, wIsN, wNotN, wInS, wNotInS, wIx, dNeg, dAug, dAppend, dLst, dLstM, dLstB, dSl, dPart, dNo, wCut, dBreak, dCont, dRaise, dMeth, dFld, wFld, dSetF, dAugF, dgTupF, dgTup, dgCons, dgNil, dgSet, dThen, dSo, dSoE, wIntC, dChain, dMake, wListC, wListM, dDisp, dPsCons, dPsNil, keysOf, DL.putAll, putD, valD, dUpC, inV, wDGet, wDIn, dDPut, dGet2, dPopAt, dJoin, wInL, dIsX, List.getElem?_cons_zero, List.getElem?_cons_succ, List.getElem?_nil, Option.some.injEq, D.int.injEq, D.str.injEq, D.bl.injEq, D.ptr.injEq, D.lst.injEq, D.tup.injEq, D.scr.injEq, D.xc.injEq, D.kr.injEq, D.ty.injEq, MO.lst.injEq, MO.ins.injEq, MO.dK.injEq, V.int.injEq, V.str.injEq, V.bl.injEq, List.cons.injEq, List.set_cons_zero, List.set_cons_succ, and_true, true_and, or_false, false_or, or_true, true_or, and_false, false_and, exists_false, exists_eq_left, exists_eq_left', exists_eq_right, exists_eq_right', exists_eq, exists_eq', exists_and_left, exists_and_right, exists_const, reduceCtorEq, decide_eq_true_eq, if_true, if_false, List.length_cons, List.length_nil, List.append_nil, List.nil_append, List.cons_append, v_scalI, v_scalS, v_scalB, v_scalN, v_decI, v_decS, v_decB, v_lsL, v_lsP, v_lsI, v_lsS, v_lsB, v_lsT, v_lsN, v_sqT, v_sqL, v_sqP, v_sqI, v_sqS, v_sqB, v_sqN, v_vI, v_vS, v_vB, v_vN, v_vT, v_vL, v_vP, v_sign, v_map, v_at0, v_at1, v_at2, v_at3, v_at4, v_at5, v_ofs, v_eqS, v_eqI, v_dkP, v_bdS, v_bdI, v_bdB, v_bdN, v_bdT, v_bdL, v_bdP, v_bdsN, v_bdsC, v_lastD, v_lastS, v_kyS, v_kyI, v_tt, v_ff, String.reduceEq, List.foldl_cons, List.foldl_nil, List.any_cons, List.any_nil, List.find?_cons, List.find?_nil, Sum.inr.injEq, Sum.inl.injEq, decide_true, decide_false, Bool.or_false, Bool.or_true, Bool.true_or, Bool.false_or, List.append_cancel_left_eq, Bool.false_eq_true, List.map_cons, List.map_nil, List.mapM_cons, List.mapM_nil, Option.pure_def, Option.bind_eq_bind, Option.bind_some, Option.bind_none, Nat.lt_irrefl, Option.map_some, Option.map_none, and_assoc, Nat.zero_add, Nat.reduceAdd, Nat.reduceLeDiff, Nat.le_refl, sizeLine_eq, and_self, forall_const, Bool.not_eq_true', Bool.not_true, Bool.not_false, decide_eq_false_iff_not, ite_not, List.length_map]
      exact u_spoilt_27 hw hlt d4 rfl (fun z => by cases z) sp h1 h2 q
    unfold w_spoilt_18
    simp only [dSeq, dIf, dAsg, dgName, dVar, dC, dOp, dNil, dCons, dTup, dTest, dAnd, dOr, dNot, dIfE, dAndV, dOrV, dNotV, dNext, dRet, dRetN, dDrop, dCall, dCallS, wLen, wI, wAdd, wAddI, wAddS, wAddL, wSub, wMod, wDiv, wPow, wLt, wLe, wGt, wGe, wMulB, wMulS, wEqF, wNeF, wIsN, wNotN, wInS, wNotInS, wIx, dNeg, dAug, dAppend, dLst, dLstM, dLstB, dSl, dPart, dNo, wCut, dBreak, dCont, dRaise, dMeth, dFld, wFld, dSetF, dAugF, dgTupF, dgTup, dgCons, dgNil, dgSet, dThen, dSo, dSoE, wIntC, dChain, dMake, wListC, wListM, dDisp, dPsCons, dPsNil, keysOf, DL.putAll, putD, valD, dUpC, inV, wDGet, wDIn, dDPut, dGet2, dPopAt, dJoin, wInL, dIsX, List.getElem?_cons_zero, List.getElem?_cons_succ, List.getElem?_nil, Option.some.injEq, D.int.injEq, D.str.injEq, D.bl.injEq, D.ptr.injEq, D.lst.injEq, D.tup.injEq, D.scr.injEq, D.xc.injEq, D.kr.injEq, D.ty.injEq, MO.lst.injEq, MO.ins.injEq, MO.dK.injEq, V.int.injEq, V.str.injEq, V.bl.injEq, List.cons.injEq, List.set_cons_zero, List.set_cons_succ, and_true, true_and, or_false, false_or, or_true, true_or, and_false, false_and, exists_false, exists_eq_left, exists_eq_left', exists_eq_right, exists_eq_right', exists_eq, exists_eq', exists_and_left, exists_and_right, exists_const, reduceCtorEq, decide_eq_true_eq, if_true, if_false, List.length_cons, List.length_nil, List.append_nil, List.nil_append, List.cons_append, v_scalI, v_scalS, v_scalB, v_scalN, v_decI, v_decS, v_decB, v_lsL, v_lsP, v_lsI, v_lsS, v_lsB, v_lsT, v_lsN, v_sqT, v_sqL, v_sqP, v_sqI, v_sqS, v_sqB, v_sqN, v_vI, v_vS, v_vB, v_vN, v_vT, v_vL, v_vP, v_sign, v_map, v_at0, v_at1, v_at2, v_at3, v_at4, v_at5, v_ofs, v_eqS, v_eqI, v_dkP, v_bdS, v_bdI, v_bdB, v_bdN, v_bdT, v_bdL, v_bdP, v_bdsN, v_bdsC, v_lastD, v_lastS, v_kyS, v_kyI, v_tt, v_ff, String.reduceEq, List.foldl_cons, List.foldl_nil, List.any_cons, List.any_nil, List.find?_cons, List.find?_nil, Sum.inr.injEq, Sum.inl.injEq, decide_true, decide_false, Bool.or_false, Bool.or_true, Bool.true_or, Bool.false_or, List.append_cancel_left_eq, Bool.false_eq_true, List.map_cons, List.map_nil, List.mapM_cons, List.mapM_nil, Option.pure_def, Option.bind_eq_bind, Option.bind_some, Option.bind_none, Nat.lt_irrefl, Option.map_some, Option.map_none, and_assoc, Nat.zero_add, Nat.reduceAdd, Nat.reduceLeDiff, Nat.le_refl, sizeLine_eq, and_self, forall_const, Bool.not_eq_true', Bool.not_true, Bool.not_false, decide_eq_false_iff_not, ite_not]
    split
    · rename_i hpos
      unfold w_spoilt_19
      simp only [dSeq, dIf, dAsg, dgName, dVar, dC, dOp, dNil, dCons, dTup, dTest, dAnd, dOr, dNot, dIfE, dAndV, dOrV, dNotV, dNext, dRet, dRetN, dDrop, dCall, dCallS, wLen, wI, wAdd, wAddI, wAddS, wAddL, wSub, wMod, wDiv, wPow, wLt, wLe, wGt, wGe, wMulB, wMulS, wEqF, wNeF, wIsN, wNotN, wInS, wNotInS, wIx, dNeg, dAug, dAppend, dLst, dLstM, dLstB, dSl, dPart, dNo, wCut, dBreak, dCont, dRaise, dMeth, dFld, wFld, dSetF, dAugF, dgTupF, dgTup, dgCons, dgNil, dgSet, dThen, dSo, dSoE, wIntC, dChain, dMake, wListC, wListM, dDisp, dPsCons, dPsNil, keysOf, DL.putAll, putD, valD, dUpC, inV, wDGet, wDIn, dDPut, dGet2, dPopAt, dJoin, wInL, dIsX, List.getElem?_cons_zero, List.getElem?_cons_succ, List.getElem?_nil, Option.some.injEq, D.int.injEq, D.str.injEq, D.bl.injEq, D.ptr.injEq, D.lst.injEq, D.tup.injEq, D.scr.injEq, D.xc.injEq, D.kr.injEq, D.ty.injEq, MO.lst.injEq, MO.ins.injEq, MO.dK.injEq, V.int.injEq, V.str.injEq, V.bl.injEq, List.cons.injEq, List.set_cons_zero, List.set_cons_succ, and_true, true_and, or_false, false_or, or_true, true_or, and_false, false_and, exists_false, exists_eq_left, exists_eq_left', exists_eq_right, exists_eq_right', exists_eq, exists_eq', exists_and_left, exists_and_right, exists_const, reduceCtorEq, decide_eq_true_eq, if_true, if_false, List.length_cons, List.length_nil, List.append_nil, List.nil_append, List.cons_append, v_scalI, v_scalS, v_scalB, v_scalN, v_decI, v_decS, v_decB, v_lsL, v_lsP, v_lsI, v_lsS, v_lsB, v_lsT, v_lsN, v_sqT, v_sqL, v_sqP, v_sqI, v_sqS, v_sqB, v_sqN, v_vI, v_vS, v_vB, v_vN, v_vT, v_vL, v_vP, v_sign, v_map, v_at0, v_at1, v_at2, v_at3, v_at4, v_at5, v_ofs, v_eqS, v_eqI, v_dkP, v_bdS, v_bdI, v_bdB, v_bdN, v_bdT, v_bdL, v_bdP, v_bdsN, v_bdsC, v_lastD, v_lastS, v_kyS, v_kyI, v_tt, v_ff, String.reduceEq, List.foldl_cons, List.foldl_nil, List.any_cons, List.any_nil, List.find?_cons, List.find?_nil, Sum.inr.injEq, Sum.inl.injEq, decide_true, decide_false, Bool.or_false, Bool.or_true, Bool.true_or, Bool.false_or, List.append_cancel_left_eq, Bool.false_eq_true, List.map_cons, List.map_nil, List.mapM_cons, List.mapM_nil, Option.pure_def, Option.bind_eq_bind, Option.bind_some, Option.bind_none, Nat.lt_irrefl, Option.map_some, Option.map_none, and_assoc, Nat.zero_add, Nat.reduceAdd, Nat.reduceLeDiff, Nat.le_refl, sizeLine_eq, and_self, forall_const, Bool.not_eq_true', Bool.not_true, Bool.not_false, decide_eq_false_iff_not, ite_not, hM _ _ d2]
      refine r_dr1 (d2.1.app _) (by omega) (by omega) fun u M3 u0 u1 d3 => ?_
      obtain ⟨M4, rfl, d4⟩ := d3.app (by rw [e1]; exact hlt)
      have d4 := d2.trans d4
      obtain ⟨x, hx, ex⟩ := at_some u0 u1
      obtain ⟨i, v, rfl, hi, hv⟩ := wp x hx
      have hi' : i < us.length := (List.getElem?_eq_some_iff.mp hi).1
      have ec : DL.cutD (us.map D.str) none (some ((i : Int) + 1)) = (us.take (i + 1)).map D.str := by
        unfold DL.cutD
        rw [List.length_map, HT.sIx_none, show (i : Int) + 1 = ((i + 1 : Nat) : Int) by omega, HT.sIx_nat, List.drop_zero, Nat.sub_zero, Nat.min_eq_left (by omega), List.map_take]
      simp only [dSeq, dIf, dAsg, dgName, dVar, dC, dOp, dNil, dCons, dTup, dTest, dAnd, dOr, dNot, dIfE, dAndV, dOrV, dNotV, dNext, dRet, dRetN, dDrop, dCall, dCallS, wLen, wI, wAdd, wAddI, wAddS, wAddL, wSub, wMod, wDiv, wPow, wLt, wLe, wGt, wGe, wMulB, wMulS, wEqF, wNeF, wIsN, wNotN, wInS, wNotInS, wIx, dNeg, dAug, dAppend, dLst, dLstM, dLstB, dSl, dPart, dNo, wCut, dBreak, dCont, dRaise, dMeth, dFld, wFld, dSetF, dAugF, dgTupF, dgTup, dgCons, dgNil, dgSet, dThen, dSo, dSoE, wIntC, dChain, dMake, wListC, wListM, dDisp, dPsCons, dPsNil, keysOf, DL.putAll, putD, valD, dUpC, inV, wDGet, wDIn, dDPut, dGet2, dPopAt, dJoin, wInL, dIsX, List.getElem?_cons_zero, List.getElem?_cons_succ, List.getElem?_nil, Option.some.injEq, D.int.injEq, D.str.injEq, D.bl.injEq, D.ptr.injEq, D.lst.injEq, D.tup.injEq, D.scr.injEq, D.xc.injEq, D.kr.injEq, D.ty.injEq, MO.lst.injEq, MO.ins.injEq, MO.dK.injEq, V.int.injEq, V.str.injEq, V.bl.injEq, List.cons.injEq, List.set_cons_zero, List.set_cons_succ, and_true, true_and, or_false, false_or, or_true, true_or, and_false, false_and, exists_false, exists_eq_left, exists_eq_left', exists_eq_right, exists_eq_right', exists_eq, exists_eq', exists_and_left, exists_and_right, exists_const, reduceCtorEq, decide_eq_true_eq, if_true, if_false, List.length_cons, List.length_nil, List.append_nil, List.nil_append, List.cons_append, v_scalI, v_scalS, v_scalB, v_scalN, v_decI, v_decS, v_decB, v_lsL, v_lsP, v_lsI, v_lsS, v_lsB, v_lsT, v_lsN, v_sqT, v_sqL, v_sqP, v_sqI, v_sqS, v_sqB, v_sqN, v_vI, v_vS, v_vB, v_vN, v_vT, v_vL, v_vP, v_sign, v_map, v_at0, v_at1, v_at2, v_at3, v_at4, v_at5, v_ofs, v_eqS, v_eqI, v_dkP, v_bdS, v_bdI, v_bdB, v_bdN, v_bdT, v_bdL, v_bdP, v_bdsN, v_bdsC, v_lastD, v_lastS, v_kyS, v_kyI, v_tt, v_ff, String.reduceEq, List.foldl_cons, List.foldl_nil, List.any_cons, List.any_nil, List.find?_cons, List.find?_nil, Sum.inr.injEq, Sum.inl.injEq, decide_true, decide_false, Bool.or_false, Bool.or_true, Bool.true_or, Bool.false_or, List.append_cancel_left_eq, Bool.false_eq_true, List.map_cons, List.map_nil, List.mapM_cons, List.mapM_nil, Option.pure_def, Option.bind_eq_bind, Option.bind_some, Option.bind_none, Nat.lt_irrefl, Option.map_some, Option.map_none, and_assoc, Nat.zero_add, Nat.reduceAdd, Nat.reduceLeDiff, Nat.le_refl, sizeLine_eq, and_self, forall_const, Bool.not_eq_true', Bool.not_true, Bool.not_false, decide_eq_false_iff_not, ite_not, ex, hM _ _ d4, ec]
      exact .inl (hlen M4 (some (.lst ws)) _ d4 (sp_cut LO dv hk60 hi hv) (by rw [List.length_take]; omega) (fun t ht => u12 t (List.mem_of_mem_take ht)))
    · unfold w_spoilt_21
      simp only [dSeq, dIf, dAsg, dgName, dVar, dC, dOp, dNil, dCons, dTup, dTest, dAnd, dOr, dNot, dIfE, dAndV, dOrV, dNotV, dNext, dRet, dRetN, dDrop, dCall, dCallS, wLen, wI, wAdd, wAddI, wAddS, wAddL, wSub, wMod, wDiv, wPow, wLt, wLe, wGt, wGe, wMulB, wMulS, wEqF, wNeF, wIsN, wNotN, wInS, wNotInS, wIx, dNeg, dAug, dAppend, dLst, dLstM, dLstB, dSl, dPart, dNo, wCut, dBreak, dCont, dRaise, dMeth, dFld, wFld, dSetF, dAugF, dgTupF, dgTup, dgCons, dgNil, dgSet, dThen, dSo, dSoE, wIntC, dChain, dMake, wListC, wListM, dDisp, dPsCons, dPsNil, keysOf, DL.putAll, putD, valD, dUpC, inV, wDGet, wDIn, dDPut, dGet2, dPopAt, dJoin, wInL, dIsX, List.getElem?_cons_zero, List.getElem?_cons_succ, List.getElem?_nil, Option.some.injEq, D.int.injEq, D.str.injEq, D.bl.injEq, D.ptr.injEq, D.lst.injEq, D.tup.injEq, D.scr.injEq, D.xc.injEq, D.kr.injEq, D.ty.injEq, MO.lst.injEq, MO.ins.injEq, MO.dK.injEq, V.int.injEq, V.str.injEq, V.bl.injEq, List.cons.injEq, List.set_cons_zero, List.set_cons_succ, and_true, true_and, or_false, false_or, or_true, true_or, and_false, false_and, exists_false, exists_eq_left, exists_eq_left', exists_eq_right, exists_eq_right', exists_eq, exists_eq', exists_and_left, exists_and_right, exists_const, reduceCtorEq, decide_eq_true_eq, if_true, if_false, List.length_cons, List.length_nil, List.append_nil, List.nil_append, List.cons_append, v_scalI, v_scalS, v_scalB, v_scalN, v_decI, v_decS, v_decB, v_lsL, v_lsP, v_lsI, v_lsS, v_lsB, v_lsT, v_lsN, v_sqT, v_sqL, v_sqP, v_sqI, v_sqS, v_sqB, v_sqN, v_vI, v_vS, v_vB, v_vN, v_vT, v_vL, v_vP, v_sign, v_map, v_at0, v_at1, v_at2, v_at3, v_at4, v_at5, v_ofs, v_eqS, v_eqI, v_dkP, v_bdS, v_bdI, v_bdB, v_bdN, v_bdT, v_bdL, v_bdP, v_bdsN, v_bdsC, v_lastD, v_lastS, v_kyS, v_kyI, v_tt, v_ff, String.reduceEq, List.foldl_cons, List.foldl_nil, List.any_cons, List.any_nil, List.find?_cons, List.find?_nil, Sum.inr.injEq, Sum.inl.injEq, decide_true, decide_false, Bool.or_false, Bool.or_true, Bool.true_or, Bool.false_or, List.append_cancel_left_eq, Bool.false_eq_true, List.map_cons, List.map_nil, List.mapM_cons, List.mapM_nil, Option.pure_def, Option.bind_eq_bind, Option.bind_some, Option.bind_none, Nat.lt_irrefl, Option.map_some, Option.map_none, and_assoc, Nat.zero_add, Nat.reduceAdd, Nat.reduceLeDiff, Nat.le_refl, sizeLine_eq, and_self, forall_const, Bool.not_eq_true', Bool.not_true, Bool.not_false, decide_eq_false_iff_not, ite_not, hM _ _ d2, List.length_map]
      refine ⟨by omega, ?_⟩
      have := hlen M2 (some (.lst ws)) (us ++ [("|" : Str)]) d2 (sp_bar LO dv hk60) (by rw [List.length_append]; show _ + 1 ≤ _; omega) (fun t ht => by
        rcases List.mem_append.mp ht with h | h
        · exact u12 t h
        · rw [List.mem_singleton.mp h]; decide)
      rw [List.map_append] at this
      exact this
  · -- too deep
    unfold w_spoilt_24
    simp only [dSeq, dIf, dAsg, dgName, dVar, dC, dOp, dNil, dCons, dTup, dTest, dAnd, dOr, dNot, dIfE, dAndV, dOrV, dNotV, dNext, dRet, dRetN, dDrop, dCall, dCallS, wLen, wI, wAdd, wAddI, wAddS, wAddL, wSub, wMod, wDiv, wPow, wLt, wLe, wGt, wGe, wMulB, wMulS, wEqF, wNeF, wIsN, wNotN, wInS, wNotInS, wIx, dNeg, dAug, dAppend, dLst, dLstM, dLstB, dSl, dPart, dNo, wCut, dBreak, dCont, dRaise, dMeth, dFld, wFld, dSetF, dAugF, dgTupF, dgTup, dgCons, dgNil, dgSet, dThen, dSo, dSoE, wIntC, dChain, dMake, wListC, wListM, dDisp, dPsCons, dPsNil, keysOf, DL.putAll, putD, valD, dUpC, inV, wDGet, wDIn, dDPut, dGet2, dPopAt, dJoin, wInL, dIsX, List.getElem?_cons_zero, List.getElem?_cons_succ, List.getElem?_nil, Option.some.injEq, D.int.injEq, D.str.injEq, D.bl.injEq, D.ptr.injEq, D.lst.injEq, D.tup.injEq, D.scr.injEq, D.xc.injEq, D.kr.injEq, D.ty.injEq, MO.lst.injEq, MO.ins.injEq, MO.dK.injEq, V.int.injEq, V.str.injEq, V.bl.injEq, List.cons.injEq, List.set_cons_zero, List.set_cons_succ, and_true, true_and, or_false, false_or, or_true, true_or, and_false, false_and, exists_false, exists_eq_left, exists_eq_left', exists_eq_right, exists_eq_right', exists_eq, exists_eq', exists_and_left, exists_and_right, exists_const, reduceCtorEq, decide_eq_true_eq, if_true, if_false, List.length_cons, List.length_nil, List.append_nil, List.nil_append, List.cons_append, v_scalI, v_scalS, v_scalB, v_scalN, v_decI, v_decS, v_decB, v_lsL, v_lsP, v_lsI, v_lsS, v_lsB, v_lsT, v_lsN, v_sqT, v_sqL, v_sqP, v_sqI, v_sqS, v_sqB, v_sqN, v_vI, v_vS, v_vB, v_vN, v_vT, v_vL, v_vP, v_sign, v_map, v_at0, v_at1, v_at2, v_at3, v_at4, v_at5, v_ofs, v_eqS, v_eqI, v_dkP, v_bdS, v_bdI, v_bdB, v_bdN, v_bdT, v_bdL, v_bdP, v_bdsN, v_bdsC, v_lastD, v_lastS, v_kyS, v_kyI, v_tt, v_ff, String.reduceEq, List.foldl_cons, List.foldl_nil, List.any_cons, List.any_nil, List.find?_cons, List.find?_nil, Sum.inr.injEq, Sum.inl.injEq, decide_true, decide_false, Bool.or_false, Bool.or_true, Bool.true_or, Bool.false_or, List.append_cancel_left_eq, Bool.false_eq_true, List.map_cons, List.map_nil, List.mapM_cons, List.mapM_nil, Option.pure_def, Option.bind_eq_bind, Option.bind_some, Option.bind_none, Nat.lt_irrefl, Option.map_some, Option.map_none, and_assoc, Nat.zero_add, Nat.reduceAdd, Nat.reduceLeDiff, Nat.le_refl, sizeLine_eq, and_self, forall_const, Bool.not_eq_true', Bool.not_true, Bool.not_false, decide_eq_false_iff_not, ite_not, dLc_eq, diRng1]
    intro hw2 ev2
    have er : ∀ x : Str, (rng 0 (60 : Int).toNat).mapIdx (fun _ _ => D.str x) = (List.replicate 60 x).map .str := fun x => by
      apply List.ext_getElem?
      intro i
      rw [List.getElem?_mapIdx, List.getElem?_map, List.getElem?_replicate]
      by_cases hi : i < 60
      · rw [if_pos hi, List.getElem?_eq_getElem (show i < (rng 0 (60 : Int).toNat).length by rw [rng_len]; exact hi)]
        rfl
      · rw [if_neg hi, List.getElem?_eq_none (by rw [rng_len]; show 60 ≤ i; omega)]
        rfl
    refine ⟨by decide, by decide, lc_map (fun _ _ => .str "(") hw2 (fun _ => trivial) (by rw [sizeLine_eq, rng_len]; decide) (fun _ _ _ => .str _) (fun j d acc Q' _ q' => q') (.inl ?_)⟩
    intro _ _
    refine ⟨by decide, by decide, lc_map (fun _ _ => .str "!") hw2 (fun _ => trivial) (by rw [sizeLine_eq, rng_len]; decide) (fun _ _ _ => .str _) (fun j d acc Q' _ q' => q') (.inl ?_)⟩
    rw [er, er]
    refine r_dr1 (d2.1.app _) (by omega) (by omega) fun u M3 u0 u1 d3 => ?_
    obtain ⟨M4, rfl, d4⟩ := d3.app (by rw [e1]; exact hlt)
    have d4 := d2.trans d4
    have fin : ∀ o : Str, opener o → w_spoilt_25 K w ad { nx := fun ρ' M' => w_spoilt_27 K w ad (DsF M Qd Xd) ρ' M', rt := (DsF M Qd Xd).rt, ex := (DsF M Qd Xd).ex, bk := (DsF M Qd Xd).bk, ct := (DsF M Qd Xd).ct }
        [some (.ptr d), some (.str L), some (.lst (us.map .str)), some (.int kd), some (.int a), some (.ptr M.length), none, none, none, some (.lst ((List.replicate 60 o).map .str)), none, none] (M4 ++ [MO.lst (us.map D.str)]) := fun o ho => by
      unfold w_spoilt_25
      simp only [dSeq, dIf, dAsg, dgName, dVar, dC, dOp, dNil, dCons, dTup, dTest, dAnd, dOr, dNot, dIfE, dAndV, dOrV, dNotV, dNext, dRet, dRetN, dDrop, dCall, dCallS, wLen, wI, wAdd, wAddI, wAddS, wAddL, wSub, wMod, wDiv, wPow, wLt, wLe, wGt, wGe, wMulB, wMulS, wEqF, wNeF, wIsN, wNotN, wInS, wNotInS, wIx, dNeg, dAug, dAppend, dLst, dLstM, dLstB, dSl, dPart, dNo, wCut, dBreak, dCont, dRaise, dMeth, dFld, wFld, dSetF, dAugF, dgTupF, dgTup, dgCons, dgNil, dgSet, dThen, dSo, dSoE, wIntC, dChain, dMake, wListC, wListM, dDisp, dPsCons, dPsNil, keysOf, DL.putAll, putD, valD, dUpC, inV, wDGet, wDIn, dDPut, dGet2, dPopAt, dJoin, wInL, dIsX, List.getElem?_cons_zero, List.getElem?_cons_succ, List.getElem?_nil, Option.some.injEq, D.int.injEq, D.str.injEq, D.bl.injEq, D.ptr.injEq, D.lst.injEq, D.tup.injEq, D.scr.injEq, D.xc.injEq, D.kr.injEq, D.ty.injEq, MO.lst.injEq, MO.ins.injEq, MO.dK.injEq, V.int.injEq, V.str.injEq, V.bl.injEq, List.cons.injEq, List.set_cons_zero, List.set_cons_succ, and_true, true_and, or_false, false_or, or_true, true_or, and_false, false_and, exists_false, exists_eq_left, exists_eq_left', exists_eq_right, exists_eq_right', exists_eq, exists_eq', exists_and_left, exists_and_right, exists_const, reduceCtorEq, decide_eq_true_eq, if_true, if_false, List.length_cons, List.length_nil, List.append_nil, List.nil_append, List.cons_append, v_scalI, v_scalS, v_scalB, v_scalN, v_decI, v_decS, v_decB, v_lsL, v_lsP, v_lsI, v_lsS, v_lsB, v_lsT, v_lsN, v_sqT, v_sqL, v_sqP, v_sqI, v_sqS, v_sqB, v_sqN, v_vI, v_vS, v_vB, v_vN, v_vT, v_vL, v_vP, v_sign, v_map, v_at0, v_at1, v_at2, v_at3, v_at4, v_at5, v_ofs, v_eqS, v_eqI, v_dkP, v_bdS, v_bdI, v_bdB, v_bdN, v_bdT, v_bdL, v_bdP, v_bdsN, v_bdsC, v_lastD, v_lastS, v_kyS, v_kyI, v_tt, v_ff, String.reduceEq, List.foldl_cons, List.foldl_nil, List.any_cons, List.any_nil, List.find?_cons, List.find?_nil, Sum.inr.injEq, Sum.inl.injEq, decide_true, decide_false, Bool.or_false, Bool.or_true, Bool.true_or, Bool.false_or, List.append_cancel_left_eq, Bool.false_eq_true, List.map_cons, List.map_nil, List.mapM_cons, List.mapM_nil, Option.pure_def, Option.bind_eq_bind, Option.bind_some, Option.bind_none, Nat.lt_irrefl, Option.map_some, Option.map_none, and_assoc, Nat.zero_add, Nat.reduceAdd, Nat.reduceLeDiff, Nat.le_refl, sizeLine_eq, and_self, forall_const, Bool.not_eq_true', Bool.not_true, Bool.not_false, decide_eq_false_iff_not, ite_not, w_spoilt_26, List.length_map, List.length_replicate]
      refine r_dr1 (d4.1.app _) (by omega) (by omega) fun v M5 v0 v1 d5 => ?_
      obtain ⟨M6, rfl, d6⟩ := d5.app (by rw [d4.len]; exact hlt)
      have d6 := d4.trans d6
      have g : ∀ x : Str, opener x → w_spoilt_27 K w ad (DsF M Qd Xd) [some (.ptr d), some (.str L), some (.lst (us.map .str)), some (.int kd), some (.int 60), some (.lst ((List.replicate 60 o).map .str ++ [.str x] ++ us.map .str)), none, none, none, some (.lst ((List.replicate 60 o).map .str)), none, none] (M6 ++ [MO.lst (us.map D.str)]) := fun x hx => by
        have o12 : ∀ y : Str, opener y → y.length ≤ 12 := fun y hy => by rcases hy with rfl | rfl <;> decide
        have := u_spoilt_27 (K := K) (w := w) (ad := ad) (t := [MO.lst (us.map D.str)]) (md := .lst ((List.replicate 60 o ++ x :: us).map .str)) (o6 := some (.int kd)) (o7 := none) (o8 := none) (o9 := none) (o10 := some (.lst ((List.replicate 60 o).map .str))) (o11 := none) (d2 := .str L) (d3 := .lst (us.map .str)) (Xd := Xd) hw hlt d6 rfl (fun z => by cases z) (sp_deep (L := L) (us := us) ho hx) (by rw [List.length_append, List.length_replicate]; show 60 + (us.length + 1) ≤ 1000; omega) (fun t ht => by
          rcases List.mem_append.mp ht with h | h
          · rw [(List.mem_replicate.mp h).2]; exact o12 o ho
          · rcases List.mem_cons.mp h with h | h
            · rw [h]; exact o12 x hx
            · exact u12 t h) q
        rw [List.map_append, List.map_cons] at this
        rw [List.append_assoc]
        exact this
      rcases (show v = 0 ∨ v = 1 by omega) with rfl | rfl
      · simp only [dSeq, dIf, dAsg, dgName, dVar, dC, dOp, dNil, dCons, dTup, dTest, dAnd, dOr, dNot, dIfE, dAndV, dOrV, dNotV, dNext, dRet, dRetN, dDrop, dCall, dCallS, wLen, wI, wAdd, wAddI, wAddS, wAddL, wSub, wMod, wDiv, wPow, wLt, wLe, wGt, wGe, wMulB, wMulS, wEqF, wNeF, wIsN, wNotN, wInS, wNotInS, wIx, dNeg, dAug, dAppend, dLst, dLstM, dLstB, dSl, dPart, dNo, wCut, dBreak, dCont, dRaise, dMeth, dFld, wFld, dSetF, dAugF, dgTupF, dgTup, dgCons, dgNil, dgSet, dThen, dSo, dSoE, wIntC, dChain, dMake, wListC, wListM, dDisp, dPsCons, dPsNil, keysOf, DL.putAll, putD, valD, dUpC, inV, wDGet, wDIn, dDPut, dGet2, dPopAt, dJoin, wInL, dIsX, List.getElem?_cons_zero, List.getElem?_cons_succ, List.getElem?_nil, Option.some.injEq, D.int.injEq, D.str.injEq, D.bl.injEq, D.ptr.injEq, D.lst.injEq, D.tup.injEq, D.scr.injEq, D.xc.injEq, D.kr.injEq, D.ty.injEq, MO.lst.injEq, MO.ins.injEq, MO.dK.injEq, V.int.injEq, V.str.injEq, V.bl.injEq, List.cons.injEq, List.set_cons_zero, List.set_cons_succ, and_true, true_and, or_false, false_or, or_true, true_or, and_false, false_and, exists_false, exists_eq_left, exists_eq_left', exists_eq_right, exists_eq_right', exists_eq, exists_eq', exists_and_left, exists_and_right, exists_const, reduceCtorEq, decide_eq_true_eq, if_true, if_false, List.length_cons, List.length_nil, List.append_nil, List.nil_append, List.cons_append, v_scalI, v_scalS, v_scalB, v_scalN, v_decI, v_decS, v_decB, v_lsL, v_lsP, v_lsI, v_lsS, v_lsB, v_lsT, v_lsN, v_sqT, v_sqL, v_sqP, v_sqI, v_sqS, v_sqB, v_sqN, v_vI, v_vS, v_vB, v_vN, v_vT, v_vL, v_vP, v_sign, v_map, v_at0, v_at1, v_at2, v_at3, v_at4, v_at5, v_ofs, v_eqS, v_eqI, v_dkP, v_bdS, v_bdI, v_bdB, v_bdN, v_bdT, v_bdL, v_bdP, v_bdsN, v_bdsC, v_lastD, v_lastS, v_kyS, v_kyI, v_tt, v_ff, String.reduceEq, List.foldl_cons, List.foldl_nil, List.any_cons, List.any_nil, List.find?_cons, List.find?_nil, Sum.inr.injEq, Sum.inl.injEq, decide_true, decide_false, Bool.or_false, Bool.or_true, Bool.true_or, Bool.false_or, List.append_cancel_left_eq, Bool.false_eq_true, List.map_cons, List.map_nil, List.mapM_cons, List.mapM_nil, Option.pure_def, Option.bind_eq_bind, Option.bind_some, Option.bind_none, Nat.lt_irrefl, Option.map_some, Option.map_none, and_assoc, Nat.zero_add, Nat.reduceAdd, Nat.reduceLeDiff, Nat.le_refl, sizeLine_eq, and_self, forall_const, Bool.not_eq_true', Bool.not_true, Bool.not_false, decide_eq_false_iff_not, ite_not, hM _ _ d6, List.length_map, List.length_replicate, List.length_append]
        exact ⟨by omega, g _ (.inl rfl)⟩
      · simp only [dSeq, dIf, dAsg, dgName, dVar, dC, dOp, dNil, dCons, dTup, dTest, dAnd, dOr, dNot, dIfE, dAndV, dOrV, dNotV, dNext, dRet, dRetN, dDrop, dCall, dCallS, wLen, wI, wAdd, wAddI, wAddS, wAddL, wSub, wMod, wDiv, wPow, wLt, wLe, wGt, wGe, wMulB, wMulS, wEqF, wNeF, wIsN, wNotN, wInS, wNotInS, wIx, dNeg, dAug, dAppend, dLst, dLstM, dLstB, dSl, dPart, dNo, wCut, dBreak, dCont, dRaise, dMeth, dFld, wFld, dSetF, dAugF, dgTupF, dgTup, dgCons, dgNil, dgSet, dThen, dSo, dSoE, wIntC, dChain, dMake, wListC, wListM, dDisp, dPsCons, dPsNil, keysOf, DL.putAll, putD, valD, dUpC, inV, wDGet, wDIn, dDPut, dGet2, dPopAt, dJoin, wInL, dIsX, List.getElem?_cons_zero, List.getElem?_cons_succ, List.getElem?_nil, Option.some.injEq, D.int.injEq, D.str.injEq, D.bl.injEq, D.ptr.injEq, D.lst.injEq, D.tup.injEq, D.scr.injEq, D.xc.injEq, D.kr.injEq, D.ty.injEq, MO.lst.injEq, MO.ins.injEq, MO.dK.injEq, V.int.injEq, V.str.injEq, V.bl.injEq, List.cons.injEq, List.set_cons_zero, List.set_cons_succ, and_true, true_and, or_false, false_or, or_true, true_or, and_false, false_and, exists_false, exists_eq_left, exists_eq_left', exists_eq_right, exists_eq_right', exists_eq, exists_eq', exists_and_left, exists_and_right, exists_const, reduceCtorEq, decide_eq_true_eq, if_true, if_false, List.length_cons, List.length_nil, List.append_nil, List.nil_append, List.cons_append, v_scalI, v_scalS, v_scalB, v_scalN, v_decI, v_decS, v_decB, v_lsL, v_lsP, v_lsI, v_lsS, v_lsB, v_lsT, v_lsN, v_sqT, v_sqL, v_sqP, v_sqI, v_sqS, v_sqB, v_sqN, v_vI, v_vS, v_vB, v_vN, v_vT, v_vL, v_vP, v_sign, v_map, v_at0, v_at1, v_at2, v_at3, v_at4, v_at5, v_ofs, v_eqS, v_eqI, v_dkP, v_bdS, v_bdI, v_bdB, v_bdN, v_bdT, v_bdL, v_bdP, v_bdsN, v_bdsC, v_lastD, v_lastS, v_kyS, v_kyI, v_tt, v_ff, String.reduceEq, List.foldl_cons, List.foldl_nil, List.any_cons, List.any_nil, List.find?_cons, List.find?_nil, Sum.inr.injEq, Sum.inl.injEq, decide_true, decide_false, Bool.or_false, Bool.or_true, Bool.true_or, Bool.false_or, List.append_cancel_left_eq, Bool.false_eq_true, List.map_cons, List.map_nil, List.mapM_cons, List.mapM_nil, Option.pure_def, Option.bind_eq_bind, Option.bind_some, Option.bind_none, Nat.lt_irrefl, Option.map_some, Option.map_none, and_assoc, Nat.zero_add, Nat.reduceAdd, Nat.reduceLeDiff, Nat.le_refl, sizeLine_eq, and_self, forall_const, Bool.not_eq_true', Bool.not_true, Bool.not_false, decide_eq_false_iff_not, ite_not, hM _ _ d6, List.length_map, List.length_replicate, List.length_append]
        exact ⟨by omega, g _ (.inr rfl)⟩
    rcases (show u = 0 ∨ u = 1 by omega) with rfl | rfl
    · exact ⟨_, rfl, _, v_at0 _ _, fin _ (.inl rfl)⟩
    · exact ⟨_, rfl, _, v_at1 _ _ _, fin _ (.inr rfl)⟩

end
end K87

namespace K87
open PySem PySem.Spec PyProof.Rows L2 DL
section
variable {P : Program} {w : World} {K : PySem.W.Frag} {mg : Str → Option Value} {base : Heap} {ad : Ad}
/-! ### the law -/
theorem sm_flat {M : Mm} {n : Nat} {d : D} {x : V} (h : vOf d = some x) : Sm M n d d := by
  cases n with
  | zero => exact ⟨rfl, x, h⟩
  | succ n => exact .inl ⟨rfl, x, h⟩
theorem sm_tup {M : Mm} {n : Nat} {xs : List D} (hl : xs.length < 1000000) (h : ∀ x ∈ xs, Sm M n x x) : Sm M (n + 1) (.tup xs) (.tup xs) :=
  .inr ⟨xs, xs, .inr ⟨rfl, rfl⟩, rfl, hl, fun i x y hx hy => by
    rw [hx] at hy
    have e := Option.some.inj hy
    subst e
    exact h x (List.mem_of_getElem? hx)⟩
theorem sm_fm {M : Mm} : ∀ (n : Nat) (f : Fm), f.size ≤ n → Sm M n f.d f.d
  | 0, f, h => by have := f.size_pos; omega
  | n + 1, f, h => by
    have h1 : ∀ x : Str, Sm M n (.str x) (.str x) := fun x => sm_flat rfl
    cases f with
    | none => exact sm_tup (by simp) (fun x hx => by rw [List.mem_singleton.mp hx]; exact h1 _)
    | empty => exact sm_tup (by simp) (fun x hx => by rw [List.mem_singleton.mp hx]; exact h1 _)
    | any => exact sm_tup (by simp) (fun x hx => by rw [List.mem_singleton.mp hx]; exact h1 _)
    | letter c =>
      refine sm_tup (by simp) (fun x hx => ?_)
      simp only [List.mem_cons, List.not_mem_nil, or_false] at hx
      rcases hx with rfl | rfl <;> exact h1 _
    | name c =>
      refine sm_tup (by simp) (fun x hx => ?_)
      simp only [List.mem_cons, List.not_mem_nil, or_false] at hx
      rcases hx with rfl | rfl <;> exact h1 _
    | not g =>
      have hg : g.size + 1 ≤ n + 1 := h
      refine sm_tup (by simp) (fun x hx => ?_)
      simp only [List.mem_cons, List.not_mem_nil, or_false] at hx
      rcases hx with rfl | rfl
      · exact h1 _
      · exact sm_fm n g (by omega)
    | star g =>
      have hg : g.size + 1 ≤ n + 1 := h
      refine sm_tup (by simp) (fun x hx => ?_)
      simp only [List.mem_cons, List.not_mem_nil, or_false] at hx
      rcases hx with rfl | rfl
      · exact h1 _
      · exact sm_fm n g (by omega)
    | or g g' =>
      have hg : g.size + g'.size ≤ n + 1 := h
      have := g.size_pos
      have := g'.size_pos
      refine sm_tup (by simp) (fun x hx => ?_)
      simp only [List.mem_cons, List.not_mem_nil, or_false] at hx
      rcases hx with rfl | rfl | rfl
      · exact h1 _
      · exact sm_fm n g (by omega)
      · exact sm_fm n g' (by omega)
    | and g g' =>
      have hg : g.size + g'.size ≤ n + 1 := h
      have := g.size_pos
      have := g'.size_pos
      refine sm_tup (by simp) (fun x hx => ?_)
      simp only [List.mem_cons, List.not_mem_nil, or_false] at hx
      rcases hx with rfl | rfl | rfl
      · exact h1 _
      · exact sm_fm n g (by omega)
      · exact sm_fm n g' (by omega)
    | row g g' =>
      have hg : g.size + g'.size ≤ n + 1 := h
      have := g.size_pos
      have := g'.size_pos
      refine sm_tup (by simp) (fun x hx => ?_)
      simp only [List.mem_cons, List.not_mem_nil, or_false] at hx
      rcases hx with rfl | rfl | rfl
      · exact h1 _
      · exact sm_fm n g (by omega)
      · exact sm_fm n g' (by omega)
/-- what is told is a right thing -/
def RdOk (r : Except Nat D) : Prop := ∀ d, r = .ok d → ∃ f : Fm, d = f.d ∧ f.size ≤ 20
theorem sm_told {M : Mm} {r : Except Nat D} (h : RdOk r) : Sm M 30 (toldD r) (toldD r) := by
  cases r with
  | ok d =>
    obtain ⟨f, rfl, hf⟩ := h d rfl
    refine sm_tup (by simp) (fun x hx => ?_)
    simp only [List.mem_cons, List.not_mem_nil, or_false] at hx
    rcases hx with rfl | rfl
    · exact sm_flat rfl
    · exact sm_fm 29 f (by omega)
  | error q =>
    refine sm_tup (by simp) (fun x hx => ?_)
    simp only [List.mem_cons, List.not_mem_nil, or_false] at hx
    rcases hx with rfl | rfl
    · exact sm_flat rfl
    · exact sm_flat rfl
theorem bd_told {n : Nat} {r : Except Nat D} (h : RdOk r) : Bd n (toldD r) := by
  cases r with
  | ok d =>
    obtain ⟨f, rfl, hf⟩ := h d rfl
    exact .tup (.cons (.str _) (.cons (fm_bd f) .nil))
  | error q => exact .tup (.cons (.str _) (.cons (.int _) .nil))
/-- an entry of the law's list -/
def AskOk (L : Str) (e : D) : Prop := ∃ (z : Str) (r : Except Nat D), e = .tup [.str z, toldD r] ∧ z.length < 1000000 ∧ pRead L z 0 = some r ∧ RdOk r
theorem ask_bd {L : Str} {n : Nat} {xs : List D} (h : ∀ e ∈ xs, AskOk L e) : Bds n xs := Bds.of fun d hd => by
  obtain ⟨z, r, rfl, _, _, hr⟩ := h d hd
  exact .tup (.cons (.str _) (.cons (bd_told hr) .nil))
/-- right tokens with gaps are read -/
theorem gap_read {L : Str} (hL : LOk L) {us : List Str} {d : D} {k : Nat} (h : Dv L 1 us d k) (hk : k ≤ 60) {g0 tail : List Nat} {xs : Ly} (hx : xs.map (·.2) = us) (hg : GapOk xs) (h0 : allBlk g0) (ht : allBlk tail) : pRead L (mkS (g0 ++ layT xs ++ tail)) 0 = some (.ok d) := by
  have lx : xs.length = us.length := by rw [← hx, List.length_map]
  have T := tk_gap (pre := []) (m := xs.length) hg h0 ht (Nat.le_refl _) (by rw [hx]; exact (dv_good hL.abc h).1.take _)
  simp only [List.nil_append, List.length_nil, Nat.zero_add] at T
  refine read_ok hL h hk (ts := tkOf (mkS (g0 ++ layT xs ++ tail)) 0) (fun i u hi => ?_) (by rw [← lx]; exact T.2 True.intro)
  have him : i < xs.length := by rw [lx]; exact (List.getElem?_eq_some_iff.mp hi).1
  have hp : (layP g0.length xs)[i]? = some ((layP g0.length xs)[i]'(by rw [layP_len]; exact him)) := List.getElem?_eq_getElem _
  rw [Nat.zero_add]
  exact ⟨_, T.1 i u _ him (by rw [hx]; exact hi) hp⟩
def F_law : FD := fun ds _ Qd _ => ∃ ns : List Int, ds = [.scr ns] ∧ ∀ M', Qd (.bl true) M'
/-! law -/
def w_law_10 (K : PySem.W.Frag) (w : World) (ad : Ad) : SW := dDrop (dAppend (dVar 7) (dCons (dTup (dCons (dVar 9) (dCons (dTup (dCons (dC (.str "misread")) (dCons (dVar 10) dNil))) dNil))) dNil))
def w_law_9 (K : PySem.W.Frag) (w : World) (ad : Ad) : SW := dSeq (dAsg (dCallS 3 F_spoilt (dCons (dVar 1) (dCons (dVar 3) (dCons (dVar 6) dNil)))) (dgTupF (dgCons (dgName 9) (dgCons (dgName 10) dgNil)) 2)) (w_law_10 K w ad)
def w_law_14 (K : PySem.W.Frag) (w : World) (ad : Ad) : SW := dRet (dC (.bl false))
def w_law_13 (K : PySem.W.Frag) (w : World) (ad : Ad) : SW := dIf (dNot (dTest (dCallS 2 (F_same 30) (dCons (dCallS 3 (F_told ad) (dCons (dVar 3) (dCons (dVar 9) (dCons (dC (.int 0)) dNil)))) (dCons (dVar 11) dNil))))) (w_law_14 K w ad) dNext
def w_law_12 (K : PySem.W.Frag) (w : World) (ad : Ad) : SW := dSeq (dAsg (dPopAt (dVar 7) (dCons (dCallS 2 F_draw (dCons (dVar 1) (dCons (dCall wLen (dCons (dVar 7) dNil)) dNil))) dNil)) (dgTupF (dgCons (dgName 9) (dgCons (dgName 11) dgNil)) 2)) (w_law_13 K w ad)
def w_law_18 (K : PySem.W.Frag) (w : World) (ad : Ad) : SW := dRet (dC (.bl false))
def w_law_17 (K : PySem.W.Frag) (w : World) (ad : Ad) : SW := dIf (dNot (dTest (dCallS 2 (F_same 30) (dCons (dCallS 3 (F_told ad) (dCons (dC (.str "ab")) (dCons (dVar 9) (dCons (dC (.int 0)) dNil)))) (dCons (dTup (dCons (dC (.str "told")) (dCons (dTup (dCons (dC (.str "letter")) (dCons (dC (.str "a")) dNil))) dNil))) dNil))))) (w_law_18 K w ad) dNext
def w_law_16 (K : PySem.W.Frag) (w : World) (ad : Ad) : SW := dSeq (dAsg (dOp wAdd (dOp wAdd (dOp wMulB (dC (.str "(")) (dVar 12)) (dC (.str "a"))) (dOp wMulB (dC (.str ")")) (dVar 12))) (dgName 9)) (w_law_17 K w ad)
def w_law_15 (K : PySem.W.Frag) (w : World) (ad : Ad) : SW := dSeq (dAsg (dOp wSub (dC (.int 60)) (dCallS 2 F_draw (dCons (dVar 1) (dCons (dC (.int 2)) dNil)))) (dgName 12)) (w_law_16 K w ad)
def w_law_11 (K : PySem.W.Frag) (w : World) (ad : Ad) : SW := dSeq (dFor (diRng1 (dCall wLen (dCons (dVar 7) dNil))) (dgName 8) (dThen (w_law_12 K w ad))) (w_law_15 K w ad)
def w_law_8 (K : PySem.W.Frag) (w : World) (ad : Ad) : SW := dSeq (dFor (diRng1 (dC (.int 3))) (dgName 8) (dThen (w_law_9 K w ad))) (w_law_11 K w ad)
def w_law_7 (K : PySem.W.Frag) (w : World) (ad : Ad) : SW := dSeq (dAsg (dLstM (dCons (dTup (dCons (dOp wIx (dCallS 2 F_gaps (dCons (dVar 1) (dCons (dVar 6) dNil))) (dC (.int 0))) (dCons (dTup (dCons (dC (.str "told")) (dCons (dVar 5) dNil))) dNil))) dNil)) (dgName 7)) (w_law_8 K w ad)
def w_law_6 (K : PySem.W.Frag) (w : World) (ad : Ad) : SW := dSeq (dAsg (dCallS 2 (F_ltoks 30) (dCons (dVar 5) (dCons (dC (.int 0)) dNil))) (dgName 6)) (w_law_7 K w ad)
def w_law_5 (K : PySem.W.Frag) (w : World) (ad : Ad) : SW := dSeq (dAsg (dCallS 4 (F_form 30) (dCons (dVar 1) (dCons (dVar 3) (dCons (dOp wIx (dLst (dCons (dC (.int 1)) (dCons (dC (.int 3)) (dCons (dC (.int 8)) (dCons (dC (.int 20)) dNil))))) (dCallS 2 F_draw (dCons (dVar 1) (dCons (dC (.int 4)) dNil)))) (dCons (dVar 4) dNil))))) (dgName 5)) (w_law_6 K w ad)
def w_law_4 (K : PySem.W.Frag) (w : World) (ad : Ad) : SW := dSeq (dAsg (dOp wIx (dLst (dCons (dLst dNil) (dCons (dLst (dCons (dC (.str "x")) (dCons (dC (.str "evens")) dNil))) dNil))) (dCallS 2 F_draw (dCons (dVar 1) (dCons (dC (.int 2)) dNil)))) (dgName 4)) (w_law_5 K w ad)
def w_law_3 (K : PySem.W.Frag) (w : World) (ad : Ad) : SW := dSeq (dAsg (dCallS 1 F_letters (dCons (dVar 1) dNil)) (dgName 3)) (w_law_4 K w ad)
def w_law_19 (K : PySem.W.Frag) (w : World) (ad : Ad) : SW := dRet (dAndV (dIsX true 1 0 (dCons (dC (.int 1)) dNil)) (dNotV (dIsX false 1 0 (dCons (dC (.int 1)) dNil))))
def w_law_2 (K : PySem.W.Frag) (w : World) (ad : Ad) : SW := dSeq (dFor (diRng1 (dC (.int 8))) (dgName 2) (dThen (w_law_3 K w ad))) (w_law_19 K w ad)
def w_law_1 (K : PySem.W.Frag) (w : World) (ad : Ad) : SW := dSeq (dAsg (dCallS 1 F_draws (dCons (dVar 0) dNil)) (dgName 1)) (w_law_2 K w ad)
def w_law (K : PySem.W.Frag) (w : World) (ad : Ad) : SW := (w_law_1 K w ad)
theorem y_law (T : Txt P w K mg ad) (E : XK) : DSs (XB P w K mg base n_law "law" (defScope s_law) ad.f_law 192 E) K (WF E) (defBody s_law) (w_law K w ad) := by
  unfold w_law w_law_1 w_law_2 w_law_19 w_law_3 w_law_4 w_law_5 w_law_6 w_law_7 w_law_8 w_law_11 w_law_15 w_law_16 w_law_17 w_law_18 w_law_12 w_law_13 w_law_14 w_law_9 w_law_10
  exact (dss_cons (ds_set 1 (de_callS (fun _ => (fo_draws T)) (fun i => (xb_room i).mono (by decide)) (fun i => xb_takes i) (fun _ => T.g_draws) (fun _ => T.F_draws.kp) (fun _ => T.b_draws) (da_cons (de_var 0) da_nil)) (fun _ => sc_law.nd)) (dss_cons (ds_for (fun i => xb_passes i) (fun _ => rfl) (di_rng1 (fun _ => T.n_range) de_int) (dg_var 2 (fun _ => sc_law.nd)) (dss_then (dss_cons (ds_set 3 (de_callS (fun _ => (fo_letters T)) (fun i => (xb_room i).mono (by decide)) (fun i => xb_takes i) (fun _ => T.g_letters) (fun _ => T.F_letters.kp) (fun _ => T.b_letters) (da_cons (de_var 1) da_nil)) (fun _ => sc_law.nd)) (dss_cons (ds_set 4 (de_ix (fun _ => rfl) (de_lst (da_cons (de_lst da_nil) (da_cons (de_lst (da_cons de_str (da_cons de_str da_nil))) da_nil))) (de_callS (fun _ => (fo_draw T)) (fun i => (xb_room i).mono (by decide)) (fun i => xb_takes i) (fun _ => T.g_draw) (fun _ => T.F_draw.kp) (fun _ => T.b_draw) (da_cons (de_var 1) (da_cons de_int da_nil)))) (fun _ => sc_law.nd)) (dss_cons (ds_set 5 (de_callS (fun _ => (fo_form T 30)) (fun i => (xb_room i).mono (by omega)) (fun i => xb_takes i) (fun _ => T.g_form) (fun _ => T.F_form.kp) (fun _ => T.b_form) (da_cons (de_var 1) (da_cons (de_var 3) (da_cons (de_ix (fun _ => rfl) (de_lst (da_cons de_int (da_cons de_int (da_cons de_int (da_cons de_int da_nil))))) (de_callS (fun _ => (fo_draw T)) (fun i => (xb_room i).mono (by decide)) (fun i => xb_takes i) (fun _ => T.g_draw) (fun _ => T.F_draw.kp) (fun _ => T.b_draw) (da_cons (de_var 1) (da_cons de_int da_nil)))) (da_cons (de_var 4) da_nil))))) (fun _ => sc_law.nd)) (dss_cons (ds_set 6 (de_callS (fun _ => (fo_ltoks T 30)) (fun i => (xb_room i).mono (by omega)) (fun i => xb_takes i) (fun _ => T.g_ltoks) (fun _ => T.F_ltoks.kp) (fun _ => T.b_ltoks) (da_cons (de_var 5) (da_cons de_int da_nil))) (fun _ => sc_law.nd)) (dss_cons (ds_set 7 (de_lstM (da_cons (de_tup (da_cons (de_ix (fun _ => rfl) (de_callS (fun _ => (fo_gaps T)) (fun i => (xb_room i).mono (by decide)) (fun i => xb_takes i) (fun _ => T.g_gaps) (fun _ => T.F_gaps.kp) (fun _ => T.b_gaps) (da_cons (de_var 1) (da_cons (de_var 6) da_nil))) de_int) (da_cons (de_tup (da_cons de_str (da_cons (de_var 5) da_nil))) da_nil))) da_nil)) (fun _ => sc_law.nd)) (dss_cons (ds_for (fun i => xb_passes i) (fun _ => rfl) (di_rng1 (fun _ => T.n_range) de_int) (dg_var 8 (fun _ => sc_law.nd)) (dss_then (dss_cons (ds_asg (de_callS (fun _ => (fo_spoilt T)) (fun i => (xb_room i).mono (by decide)) (fun i => xb_takes i) (fun _ => T.g_spoilt) (fun _ => T.F_spoilt.kp) (fun _ => T.b_spoilt) (da_cons (de_var 1) (da_cons (de_var 3) (da_cons (de_var 6) da_nil)))) (dg_tup (n := 2) (fun _ => rfl) (fun _ => rfl) (dgs_cons (dg_var 9 (fun _ => sc_law.nd)) (dgs_cons (dg_var 10 (fun _ => sc_law.nd)) dgs_nil)))) (dss_one (ds_expr (de_append (fun _ => rfl) (de_var 7) (da_cons (de_tup (da_cons (de_var 9) (da_cons (de_tup (da_cons de_str (da_cons (de_var 10) da_nil))) da_nil))) da_nil))))))) (dss_cons (ds_for (fun i => xb_passes i) (fun _ => rfl) (di_rng1 (fun _ => T.n_range) (de_callB (dc_len fun _ => rfl) (fun _ => T.n_len) PyProof.Rows.Boot.«len» (da_cons (de_var 7) da_nil))) (dg_var 8 (fun _ => sc_law.nd)) (dss_then (dss_cons (ds_asg (de_popAt (fun _ => rfl) (de_var 7) (da_cons (de_callS (fun _ => (fo_draw T)) (fun i => (xb_room i).mono (by decide)) (fun i => xb_takes i) (fun _ => T.g_draw) (fun _ => T.F_draw.kp) (fun _ => T.b_draw) (da_cons (de_var 1) (da_cons (de_callB (dc_len fun _ => rfl) (fun _ => T.n_len) PyProof.Rows.Boot.«len» (da_cons (de_var 7) da_nil)) da_nil))) da_nil)) (dg_tup (n := 2) (fun _ => rfl) (fun _ => rfl) (dgs_cons (dg_var 9 (fun _ => sc_law.nd)) (dgs_cons (dg_var 11 (fun _ => sc_law.nd)) dgs_nil)))) (dss_one (ds_if (dt_not (dt_val (de_callS (fun _ => (fo_same T 30)) (fun i => (xb_room i).mono (by decide)) (fun i => xb_takes i) (fun _ => T.g_same) (fun _ => T.F_same.kp) (fun _ => T.b_same) (da_cons (de_callS (fun _ => (fo_told T)) (fun i => (xb_room i).mono (by decide)) (fun i => xb_takes i) (fun _ => T.g_told) (fun _ => T.F_told.kp) (fun _ => T.b_told) (da_cons (de_var 3) (da_cons (de_var 9) (da_cons de_int da_nil)))) (da_cons (de_var 11) da_nil))))) (dss_one (ds_ret de_bl)) dss_nil))))) (dss_cons (ds_set 12 (de_op do_subI de_int (de_callS (fun _ => (fo_draw T)) (fun i => (xb_room i).mono (by decide)) (fun i => xb_takes i) (fun _ => T.g_draw) (fun _ => T.F_draw.kp) (fun _ => T.b_draw) (da_cons (de_var 1) (da_cons de_int da_nil)))) (fun _ => sc_law.nd)) (dss_cons (ds_set 9 (de_op do_add (de_op do_add (de_op do_mul de_str (de_var 12)) de_str) (de_op do_mul de_str (de_var 12))) (fun _ => sc_law.nd)) (dss_one (ds_if (dt_not (dt_val (de_callS (fun _ => (fo_same T 30)) (fun i => (xb_room i).mono (by decide)) (fun i => xb_takes i) (fun _ => T.g_same) (fun _ => T.F_same.kp) (fun _ => T.b_same) (da_cons (de_callS (fun _ => (fo_told T)) (fun i => (xb_room i).mono (by decide)) (fun i => xb_takes i) (fun _ => T.g_told) (fun _ => T.F_told.kp) (fun _ => T.b_told) (da_cons de_str (da_cons (de_var 9) (da_cons de_int da_nil)))) (da_cons (de_tup (da_cons de_str (da_cons (de_tup (da_cons de_str (da_cons de_str da_nil))) da_nil))) da_nil))))) (dss_one (ds_ret de_bl)) dss_nil))))))))))))) (dss_one (ds_ret (de_and (de_isX T.ok_Misread.2.ox (fun _ => rfl) T.i_Misread T.t_Misread (fun _ => (fo_Misread T)) T.ok_Misread (fun i => (xb_room i).mono (by decide)) (fun _ => T.b_Misread) .nil rfl (fun _ => T.g_Misread) (da_cons de_int da_nil) (fun _ => T.g_SetError) T.xi_Misread T.ki_Misread_SetError (fun _ => T.n_isinstance)) (de_one (de_not (de_isX T.ok_Misread.2.ox (fun _ => rfl) T.i_Misread T.t_Misread (fun _ => (fo_Misread T)) T.ok_Misread (fun i => (xb_room i).mono (by decide)) (fun _ => T.b_Misread) .nil rfl (fun _ => T.g_Misread) (da_cons de_int da_nil) (fun _ => T.g_BlockWrong) T.xi_Misread T.ki_Misread_BlockWrong (fun _ => T.n_isinstance)))))))))
/-- behind i turns -/
def LI (ns : List Int) (M : Mm) (i : Nat) : NK := fun ρ M1 => ∃ o2 o3 o4 o5 o6 o7 o8 o9 o10 o11 o12, ρ = [some (.scr ns), some (.ptr M.length), o2, o3, o4, o5, o6, o7, o8, o9, o10, o11, o12] ∧ ∃ xs a b c, M1 = M ++ [.lst (drD xs a b c)] ∧ DrOk xs a b
/-- the list of what is asked, behind the draws -/
def AI (ns : List Int) (d : Nat) (B : Mm) (L : Str) (N : List Str) (f : Fm) (n : Nat) : NK := fun ρ M1 => ∃ (o2 o8 o9 o10 o11 o12 : Option D) (B' : Mm) (xs : List D), M1 = B' ++ [.lst xs] ∧ DrS d B B' ∧ xs.length = n ∧ (∀ e ∈ xs, AskOk L e) ∧
  ρ = [some (.scr ns), some (.ptr d), o2, some (.str L), some (.lst (N.map .str)), some f.d, some (.lst ((ltoks f 0).map .str)), some (.ptr B.length), o8, o9, o10, o11, o12]
theorem Up.ai {ns : List Int} {d n : Nat} {B : Mm} {L : Str} {N : List Str} {f : Fm} {xs : List D} {ρ : Ev} {M1 : Mm} (w' : Wf M1.length M1) (ev : EvB M1 ρ) (h : AI ns d B L N f n ρ M1) : Up (B ++ [MO.lst xs]).length (AI ns d B L N f n) ρ M1 := by
  refine Up.all ?_ w' ev h
  obtain ⟨_, _, _, _, _, _, B', _, rfl, hd, _⟩ := h
  rw [List.length_append, List.length_append, hd.len]
  exact Nat.le_refl _
theorem u_law_9 {De : Ds} {ns : List Int} {d n : Nat} {B B' : Mm} {L : Str} {N : List Str} {f : Fm} {xs : List D} {o2 o9 o10 o11 o12 : Option D} {i : Int} (hlt : d < B.length) (hd : DrS d B B') (hL : L ∈ lawLetters) (hN : NOk N) (hf : FmOk L N f) (hs : f.size ≤ 20) (hx : ∀ e ∈ xs, AskOk L e) (hn : xs.length = n) (n9 : n ≤ 9)
    (q : ∀ ρ M1, AI ns d B L N f (n + 1) ρ M1 → De.nx ρ M1) : w_law_9 K w ad De [some (.scr ns), some (.ptr d), o2, some (.str L), some (.lst (N.map .str)), some f.d, some (.lst ((ltoks f 0).map .str)), some (.ptr B.length), some (.int i), o9, o10, o11, o12] (B' ++ [.lst xs]) := by
  have e1 : B'.length = B.length := hd.len
  unfold w_law_9
  simp only [dSeq, dIf, dAsg, dgName, dVar, dC, dOp, dNil, dCons, dTup, dTest, dAnd, dOr, dNot, dIfE, dAndV, dOrV, dNotV, dNext, dRet, dRetN, dDrop, dCall, dCallS, wLen, wI, wAdd, wAddI, wAddS, wAddL, wSub, wMod, wDiv, wPow, wLt, wLe, wGt, wGe, wMulB, wMulS, wEqF, wNeF, wIsN, wNotN, wInS, wNotInS, wIx, dNeg, dAug, dAppend, dLst, dLstM, dLstB, dSl, dPart, dNo, wCut, dBreak, dCont, dRaise, dMeth, dFld, wFld, dSetF, dAugF, dgTupF, dgTup, dgCons, dgNil, dgSet, dThen, dSo, dSoE, wIntC, dChain, dMake, wListC, wListM, dDisp, dPsCons, dPsNil, keysOf, DL.putAll, putD, valD, dUpC, inV, wDGet, wDIn, dDPut, dGet2, dPopAt, dJoin, wInL, dIsX, List.getElem?_cons_zero, List.getElem?_cons_succ, List.getElem?_nil, Option.some.injEq, D.int.injEq, D.str.injEq, D.bl.injEq, D.ptr.injEq, D.lst.injEq, D.tup.injEq, D.scr.injEq, D.xc.injEq, D.kr.injEq, D.ty.injEq, MO.lst.injEq, MO.ins.injEq, MO.dK.injEq, V.int.injEq, V.str.injEq, V.bl.injEq, List.cons.injEq, List.set_cons_zero, List.set_cons_succ, and_true, true_and, or_false, false_or, or_true, true_or, and_false, false_and, exists_false, exists_eq_left, exists_eq_left', exists_eq_right, exists_eq_right', exists_eq, exists_eq', exists_and_left, exists_and_right, exists_const, reduceCtorEq, decide_eq_true_eq, if_true, if_false, List.length_cons, List.length_nil, List.append_nil, List.nil_append, List.cons_append, v_scalI, v_scalS, v_scalB, v_scalN, v_decI, v_decS, v_decB, v_lsL, v_lsP, v_lsI, v_lsS, v_lsB, v_lsT, v_lsN, v_sqT, v_sqL, v_sqP, v_sqI, v_sqS, v_sqB, v_sqN, v_vI, v_vS, v_vB, v_vN, v_vT, v_vL, v_vP, v_sign, v_map, v_at0, v_at1, v_at2, v_at3, v_at4, v_at5, v_ofs, v_eqS, v_eqI, v_dkP, v_bdS, v_bdI, v_bdB, v_bdN, v_bdT, v_bdL, v_bdP, v_bdsN, v_bdsC, v_lastD, v_lastS, v_kyS, v_kyI, v_tt, v_ff, String.reduceEq, List.foldl_cons, List.foldl_nil, List.any_cons, List.any_nil, List.find?_cons, List.find?_nil, Sum.inr.injEq, Sum.inl.injEq, decide_true, decide_false, Bool.or_false, Bool.or_true, Bool.true_or, Bool.false_or, List.append_cancel_left_eq, Bool.false_eq_true, List.map_cons, List.map_nil, List.mapM_cons, List.mapM_nil, Option.pure_def, Option.bind_eq_bind, Option.bind_some, Option.bind_none, Nat.lt_irrefl, Option.map_some, Option.map_none, and_assoc, Nat.zero_add, Nat.reduceAdd, Nat.reduceLeDiff, Nat.le_refl, sizeLine_eq, and_self, forall_const, Bool.not_eq_true', Bool.not_true, Bool.not_false, decide_eq_false_iff_not, ite_not, F_spoilt]
  refine ⟨N, f, rfl, hd.1.app _, hL, hN, hf, hs, fun z p M2 hz hr d2 => ?_⟩
  obtain ⟨B2, rfl, d3⟩ := d2.app (by rw [e1]; exact hlt)
  have d3 := hd.trans d3
  have hM : ∀ u : List D, (B2 ++ [MO.lst u])[B.length]? = some (.lst u) := fun u => by rw [← d3.len]; exact app_last
  have hS : ∀ u v : List D, (B2 ++ [MO.lst u]).set B.length (.lst v) = B2 ++ [.lst v] := fun u v => by rw [← d3.len]; exact v_lastS _ _ _
  unfold w_law_10
  simp only [dSeq, dIf, dAsg, dgName, dVar, dC, dOp, dNil, dCons, dTup, dTest, dAnd, dOr, dNot, dIfE, dAndV, dOrV, dNotV, dNext, dRet, dRetN, dDrop, dCall, dCallS, wLen, wI, wAdd, wAddI, wAddS, wAddL, wSub, wMod, wDiv, wPow, wLt, wLe, wGt, wGe, wMulB, wMulS, wEqF, wNeF, wIsN, wNotN, wInS, wNotInS, wIx, dNeg, dAug, dAppend, dLst, dLstM, dLstB, dSl, dPart, dNo, wCut, dBreak, dCont, dRaise, dMeth, dFld, wFld, dSetF, dAugF, dgTupF, dgTup, dgCons, dgNil, dgSet, dThen, dSo, dSoE, wIntC, dChain, dMake, wListC, wListM, dDisp, dPsCons, dPsNil, keysOf, DL.putAll, putD, valD, dUpC, inV, wDGet, wDIn, dDPut, dGet2, dPopAt, dJoin, wInL, dIsX, List.getElem?_cons_zero, List.getElem?_cons_succ, List.getElem?_nil, Option.some.injEq, D.int.injEq, D.str.injEq, D.bl.injEq, D.ptr.injEq, D.lst.injEq, D.tup.injEq, D.scr.injEq, D.xc.injEq, D.kr.injEq, D.ty.injEq, MO.lst.injEq, MO.ins.injEq, MO.dK.injEq, V.int.injEq, V.str.injEq, V.bl.injEq, List.cons.injEq, List.set_cons_zero, List.set_cons_succ, and_true, true_and, or_false, false_or, or_true, true_or, and_false, false_and, exists_false, exists_eq_left, exists_eq_left', exists_eq_right, exists_eq_right', exists_eq, exists_eq', exists_and_left, exists_and_right, exists_const, reduceCtorEq, decide_eq_true_eq, if_true, if_false, List.length_cons, List.length_nil, List.append_nil, List.nil_append, List.cons_append, v_scalI, v_scalS, v_scalB, v_scalN, v_decI, v_decS, v_decB, v_lsL, v_lsP, v_lsI, v_lsS, v_lsB, v_lsT, v_lsN, v_sqT, v_sqL, v_sqP, v_sqI, v_sqS, v_sqB, v_sqN, v_vI, v_vS, v_vB, v_vN, v_vT, v_vL, v_vP, v_sign, v_map, v_at0, v_at1, v_at2, v_at3, v_at4, v_at5, v_ofs, v_eqS, v_eqI, v_dkP, v_bdS, v_bdI, v_bdB, v_bdN, v_bdT, v_bdL, v_bdP, v_bdsN, v_bdsC, v_lastD, v_lastS, v_kyS, v_kyI, v_tt, v_ff, String.reduceEq, List.foldl_cons, List.foldl_nil, List.any_cons, List.any_nil, List.find?_cons, List.find?_nil, Sum.inr.injEq, Sum.inl.injEq, decide_true, decide_false, Bool.or_false, Bool.or_true, Bool.true_or, Bool.false_or, List.append_cancel_left_eq, Bool.false_eq_true, List.map_cons, List.map_nil, List.mapM_cons, List.mapM_nil, Option.pure_def, Option.bind_eq_bind, Option.bind_some, Option.bind_none, Nat.lt_irrefl, Option.map_some, Option.map_none, and_assoc, Nat.zero_add, Nat.reduceAdd, Nat.reduceLeDiff, Nat.le_refl, sizeLine_eq, and_self, forall_const, Bool.not_eq_true', Bool.not_true, Bool.not_false, decide_eq_false_iff_not, ite_not, hM, hS]
  refine ⟨by omega, q _ _ ⟨_, _, _, _, _, _, B2, _, rfl, d3, by rw [List.length_append, hn]; rfl, fun e he => ?_, rfl⟩⟩
  rcases List.mem_append.mp he with h | h
  · exact hx e h
  · rw [List.mem_singleton.mp h]
    exact ⟨z, .error p, rfl, hz, hr, fun d h => by cases h⟩
theorem u_law_12 (T : Txt P w K mg ad) {De : Ds} {ns : List Int} {d n : Nat} {B B' : Mm} {L : Str} {N : List Str} {f : Fm} {xs : List D} {o2 o9 o10 o11 o12 : Option D} {i : Int} (hlt : d < B.length) (hd : DrS d B B') (hx : ∀ e ∈ xs, AskOk L e) (hn : xs.length = n + 1) (n9 : n ≤ 9)
    (q : ∀ ρ M1, AI ns d B L N f n ρ M1 → De.nx ρ M1) : w_law_12 K w ad De [some (.scr ns), some (.ptr d), o2, some (.str L), some (.lst (N.map .str)), some f.d, some (.lst ((ltoks f 0).map .str)), some (.ptr B.length), some (.int i), o9, o10, o11, o12] (B' ++ [.lst xs]) := by
  have e1 : B'.length = B.length := hd.len
  have hM : ∀ (B2 : Mm) (u : List D), DrS d B B2 → (B2 ++ [MO.lst u])[B.length]? = some (.lst u) := fun B2 u h => by rw [← h.len]; exact app_last
  have hS : ∀ (B2 : Mm) (u v : List D), DrS d B B2 → (B2 ++ [MO.lst u]).set B.length (.lst v) = B2 ++ [.lst v] := fun B2 u v h => by rw [← h.len]; exact v_lastS _ _ _
  unfold w_law_12
  simp only [dSeq, dIf, dAsg, dgName, dVar, dC, dOp, dNil, dCons, dTup, dTest, dAnd, dOr, dNot, dIfE, dAndV, dOrV, dNotV, dNext, dRet, dRetN, dDrop, dCall, dCallS, wLen, wI, wAdd, wAddI, wAddS, wAddL, wSub, wMod, wDiv, wPow, wLt, wLe, wGt, wGe, wMulB, wMulS, wEqF, wNeF, wIsN, wNotN, wInS, wNotInS, wIx, dNeg, dAug, dAppend, dLst, dLstM, dLstB, dSl, dPart, dNo, wCut, dBreak, dCont, dRaise, dMeth, dFld, wFld, dSetF, dAugF, dgTupF, dgTup, dgCons, dgNil, dgSet, dThen, dSo, dSoE, wIntC, dChain, dMake, wListC, wListM, dDisp, dPsCons, dPsNil, keysOf, DL.putAll, putD, valD, dUpC, inV, wDGet, wDIn, dDPut, dGet2, dPopAt, dJoin, wInL, dIsX, List.getElem?_cons_zero, List.getElem?_cons_succ, List.getElem?_nil, Option.some.injEq, D.int.injEq, D.str.injEq, D.bl.injEq, D.ptr.injEq, D.lst.injEq, D.tup.injEq, D.scr.injEq, D.xc.injEq, D.kr.injEq, D.ty.injEq, MO.lst.injEq, MO.ins.injEq, MO.dK.injEq, V.int.injEq, V.str.injEq, V.bl.injEq, List.cons.injEq, List.set_cons_zero, List.set_cons_succ, and_true, true_and, or_false, false_or, or_true, true_or, and_false, false_and, exists_false, exists_eq_left, exists_eq_left', exists_eq_right, exists_eq_right', exists_eq, exists_eq', exists_and_left, exists_and_right, exists_const, reduceCtorEq, decide_eq_true_eq, if_true, if_false, List.length_cons, List.length_nil, List.append_nil, List.nil_append, List.cons_append, v_scalI, v_scalS, v_scalB, v_scalN, v_decI, v_decS, v_decB, v_lsL, v_lsP, v_lsI, v_lsS, v_lsB, v_lsT, v_lsN, v_sqT, v_sqL, v_sqP, v_sqI, v_sqS, v_sqB, v_sqN, v_vI, v_vS, v_vB, v_vN, v_vT, v_vL, v_vP, v_sign, v_map, v_at0, v_at1, v_at2, v_at3, v_at4, v_at5, v_ofs, v_eqS, v_eqI, v_dkP, v_bdS, v_bdI, v_bdB, v_bdN, v_bdT, v_bdL, v_bdP, v_bdsN, v_bdsC, v_lastD, v_lastS, v_kyS, v_kyI, v_tt, v_ff, String.reduceEq, List.foldl_cons, List.foldl_nil, List.any_cons, List.any_nil, List.find?_cons, List.find?_nil, Sum.inr.injEq, Sum.inl.injEq, decide_true, decide_false, Bool.or_false, Bool.or_true, Bool.true_or, Bool.false_or, List.append_cancel_left_eq, Bool.false_eq_true, List.map_cons, List.map_nil, List.mapM_cons, List.mapM_nil, Option.pure_def, Option.bind_eq_bind, Option.bind_some, Option.bind_none, Nat.lt_irrefl, Option.map_some, Option.map_none, and_assoc, Nat.zero_add, Nat.reduceAdd, Nat.reduceLeDiff, Nat.le_refl, sizeLine_eq, and_self, forall_const, Bool.not_eq_true', Bool.not_true, Bool.not_false, decide_eq_false_iff_not, ite_not, hM _ _ hd]
  refine r_dr1 (hd.1.app _) (by omega) (by omega) fun v M2 v0 v1 d2 => ?_
  obtain ⟨B2, rfl, d3⟩ := d2.app (by rw [e1]; exact hlt)
  have d3 := hd.trans d3
  obtain ⟨j, rfl⟩ := Int.eq_ofNat_of_zero_le v0
  have hj : j < xs.length := by omega
  have ej : xs[j]? = some xs[j] := List.getElem?_eq_getElem hj
  obtain ⟨z, r, er, hz, hr, ro⟩ := hx xs[j] (List.getElem_mem hj)
  rw [er] at ej
  simp only [dSeq, dIf, dAsg, dgName, dVar, dC, dOp, dNil, dCons, dTup, dTest, dAnd, dOr, dNot, dIfE, dAndV, dOrV, dNotV, dNext, dRet, dRetN, dDrop, dCall, dCallS, wLen, wI, wAdd, wAddI, wAddS, wAddL, wSub, wMod, wDiv, wPow, wLt, wLe, wGt, wGe, wMulB, wMulS, wEqF, wNeF, wIsN, wNotN, wInS, wNotInS, wIx, dNeg, dAug, dAppend, dLst, dLstM, dLstB, dSl, dPart, dNo, wCut, dBreak, dCont, dRaise, dMeth, dFld, wFld, dSetF, dAugF, dgTupF, dgTup, dgCons, dgNil, dgSet, dThen, dSo, dSoE, wIntC, dChain, dMake, wListC, wListM, dDisp, dPsCons, dPsNil, keysOf, DL.putAll, putD, valD, dUpC, inV, wDGet, wDIn, dDPut, dGet2, dPopAt, dJoin, wInL, dIsX, List.getElem?_cons_zero, List.getElem?_cons_succ, List.getElem?_nil, Option.some.injEq, D.int.injEq, D.str.injEq, D.bl.injEq, D.ptr.injEq, D.lst.injEq, D.tup.injEq, D.scr.injEq, D.xc.injEq, D.kr.injEq, D.ty.injEq, MO.lst.injEq, MO.ins.injEq, MO.dK.injEq, V.int.injEq, V.str.injEq, V.bl.injEq, List.cons.injEq, List.set_cons_zero, List.set_cons_succ, and_true, true_and, or_false, false_or, or_true, true_or, and_false, false_and, exists_false, exists_eq_left, exists_eq_left', exists_eq_right, exists_eq_right', exists_eq, exists_eq', exists_and_left, exists_and_right, exists_const, reduceCtorEq, decide_eq_true_eq, if_true, if_false, List.length_cons, List.length_nil, List.append_nil, List.nil_append, List.cons_append, v_scalI, v_scalS, v_scalB, v_scalN, v_decI, v_decS, v_decB, v_lsL, v_lsP, v_lsI, v_lsS, v_lsB, v_lsT, v_lsN, v_sqT, v_sqL, v_sqP, v_sqI, v_sqS, v_sqB, v_sqN, v_vI, v_vS, v_vB, v_vN, v_vT, v_vL, v_vP, v_sign, v_map, v_at0, v_at1, v_at2, v_at3, v_at4, v_at5, v_ofs, v_eqS, v_eqI, v_dkP, v_bdS, v_bdI, v_bdB, v_bdN, v_bdT, v_bdL, v_bdP, v_bdsN, v_bdsC, v_lastD, v_lastS, v_kyS, v_kyI, v_tt, v_ff, String.reduceEq, List.foldl_cons, List.foldl_nil, List.any_cons, List.any_nil, List.find?_cons, List.find?_nil, Sum.inr.injEq, Sum.inl.injEq, decide_true, decide_false, Bool.or_false, Bool.or_true, Bool.true_or, Bool.false_or, List.append_cancel_left_eq, Bool.false_eq_true, List.map_cons, List.map_nil, List.mapM_cons, List.mapM_nil, Option.pure_def, Option.bind_eq_bind, Option.bind_some, Option.bind_none, Nat.lt_irrefl, Option.map_some, Option.map_none, and_assoc, Nat.zero_add, Nat.reduceAdd, Nat.reduceLeDiff, Nat.le_refl, sizeLine_eq, and_self, forall_const, Bool.not_eq_true', Bool.not_true, Bool.not_false, decide_eq_false_iff_not, ite_not, hM _ _ d3, hS _ _ _ d3]
  have e2 : (D.tup [D.str z, toldD r]) = D.tup [D.str z, toldD r] := rfl
  refine ⟨by omega, by omega, j, seq_nat hj, _, ej, _, rfl, rfl, _, _, rfl, ?_⟩
  unfold w_law_13
  simp only [dSeq, dIf, dAsg, dgName, dVar, dC, dOp, dNil, dCons, dTup, dTest, dAnd, dOr, dNot, dIfE, dAndV, dOrV, dNotV, dNext, dRet, dRetN, dDrop, dCall, dCallS, wLen, wI, wAdd, wAddI, wAddS, wAddL, wSub, wMod, wDiv, wPow, wLt, wLe, wGt, wGe, wMulB, wMulS, wEqF, wNeF, wIsN, wNotN, wInS, wNotInS, wIx, dNeg, dAug, dAppend, dLst, dLstM, dLstB, dSl, dPart, dNo, wCut, dBreak, dCont, dRaise, dMeth, dFld, wFld, dSetF, dAugF, dgTupF, dgTup, dgCons, dgNil, dgSet, dThen, dSo, dSoE, wIntC, dChain, dMake, wListC, wListM, dDisp, dPsCons, dPsNil, keysOf, DL.putAll, putD, valD, dUpC, inV, wDGet, wDIn, dDPut, dGet2, dPopAt, dJoin, wInL, dIsX, List.getElem?_cons_zero, List.getElem?_cons_succ, List.getElem?_nil, Option.some.injEq, D.int.injEq, D.str.injEq, D.bl.injEq, D.ptr.injEq, D.lst.injEq, D.tup.injEq, D.scr.injEq, D.xc.injEq, D.kr.injEq, D.ty.injEq, MO.lst.injEq, MO.ins.injEq, MO.dK.injEq, V.int.injEq, V.str.injEq, V.bl.injEq, List.cons.injEq, List.set_cons_zero, List.set_cons_succ, and_true, true_and, or_false, false_or, or_true, true_or, and_false, false_and, exists_false, exists_eq_left, exists_eq_left', exists_eq_right, exists_eq_right', exists_eq, exists_eq', exists_and_left, exists_and_right, exists_const, reduceCtorEq, decide_eq_true_eq, if_true, if_false, List.length_cons, List.length_nil, List.append_nil, List.nil_append, List.cons_append, v_scalI, v_scalS, v_scalB, v_scalN, v_decI, v_decS, v_decB, v_lsL, v_lsP, v_lsI, v_lsS, v_lsB, v_lsT, v_lsN, v_sqT, v_sqL, v_sqP, v_sqI, v_sqS, v_sqB, v_sqN, v_vI, v_vS, v_vB, v_vN, v_vT, v_vL, v_vP, v_sign, v_map, v_at0, v_at1, v_at2, v_at3, v_at4, v_at5, v_ofs, v_eqS, v_eqI, v_dkP, v_bdS, v_bdI, v_bdB, v_bdN, v_bdT, v_bdL, v_bdP, v_bdsN, v_bdsC, v_lastD, v_lastS, v_kyS, v_kyI, v_tt, v_ff, String.reduceEq, List.foldl_cons, List.foldl_nil, List.any_cons, List.any_nil, List.find?_cons, List.find?_nil, Sum.inr.injEq, Sum.inl.injEq, decide_true, decide_false, Bool.or_false, Bool.or_true, Bool.true_or, Bool.false_or, List.append_cancel_left_eq, Bool.false_eq_true, List.map_cons, List.map_nil, List.mapM_cons, List.mapM_nil, Option.pure_def, Option.bind_eq_bind, Option.bind_some, Option.bind_none, Nat.lt_irrefl, Option.map_some, Option.map_none, and_assoc, Nat.zero_add, Nat.reduceAdd, Nat.reduceLeDiff, Nat.le_refl, sizeLine_eq, and_self, forall_const, Bool.not_eq_true', Bool.not_true, Bool.not_false, decide_eq_false_iff_not, ite_not, F_told, F_same]
  refine ⟨0, rfl, Nat.zero_le _, hz, r, hr, fun d h => (by obtain ⟨f', rfl, _⟩ := ro d h; exact fm_bd f'), ?_⟩
  refine ⟨sm_told ro, q _ _ ⟨_, _, _, _, _, _, B2, _, rfl, d3, by rw [List.length_eraseIdx_of_lt hj]; omega, fun e he => hx e (List.mem_of_mem_eraseIdx he), rfl⟩⟩
theorem deep_dv : ∀ k : Nat, Dv "ab" 1 (List.replicate k ("(" : Str) ++ ("a" : Str) :: List.replicate k ")") (.tup [.str "letter", .str "a"]) k
  | 0 => .up1 (.up2 (.up3 (.up4 (.letter (c := 97) (by decide) (by decide)))))
  | k + 1 => by
    have h := Dv.br (deep_dv k)
    rw [List.append_assoc, List.cons_append, ← List.replicate_succ'] at h
    exact .up1 (.up2 (.up3 (.up4 h)))
theorem ab_ok : LOk "ab" := law_ok (by decide)
theorem layT_rep (t : Str) (c : Nat) (h : t.cps.toList = [c]) : ∀ k : Nat, layT (List.replicate k (([] : List Nat), t)) = List.replicate k c
  | 0 => rfl
  | k + 1 => by
    show [] ++ (t.cps.toList ++ layT (List.replicate k (([] : List Nat), t))) = _
    rw [layT_rep t c h k, h]
    rfl
/-- the text ( ( .. a .. ) ) -/
theorem deep_read (k : Nat) (hk : k ≤ 60) : pRead "ab" (mkS (List.replicate k 40 ++ 97 :: List.replicate k 41)) 0 = some (.ok (.tup [.str "letter", .str "a"])) := by
  have el : layT (List.replicate k (([] : List Nat), ("(" : Str)) ++ ([], ("a" : Str)) :: List.replicate k ([], (")" : Str))) = List.replicate k 40 ++ 97 :: List.replicate k 41 := by
    rw [layT_app, layT_rep _ 40 (by decide)]
    show _ ++ ([] ++ (("a" : Str).cps.toList ++ layT _)) = _
    rw [layT_rep _ 41 (by decide)]
    rfl
  have := gap_read (L := "ab") ab_ok (deep_dv k) hk (g0 := []) (tail := []) (xs := List.replicate k (([] : List Nat), ("(" : Str)) ++ ([], ("a" : Str)) :: List.replicate k ([], (")" : Str))) (by simp) ?_ (fun c h => by cases h) (fun c h => by cases h)
  · rw [el, List.nil_append, List.append_nil] at this
    exact this
  · have mem : ∀ x ∈ List.replicate k (([] : List Nat), ("(" : Str)) ++ ([], ("a" : Str)) :: List.replicate k ([], (")" : Str)), x.1 = [] ∧ x.2 ≠ ("@" : Str) := fun x hx => by
      rcases List.mem_append.mp hx with h | h
      · rw [(List.mem_replicate.mp h).2]; exact ⟨rfl, by decide⟩
      · rcases List.mem_cons.mp h with h | h
        · rw [h]; exact ⟨rfl, by decide⟩
        · rw [(List.mem_replicate.mp h).2]; exact ⟨rfl, by decide⟩
    refine ⟨fun x hx => ⟨fun c h => (by rw [(mem x hx).1] at h; cases h), by rw [(mem x hx).1]; exact Nat.zero_le _⟩, fun i x y hx hy e => absurd e (mem x (List.mem_of_getElem? hx)).2⟩
theorem mulok1 {x : Str} {n : Int} (hx : x.length = 1) (h0 : 0 ≤ n) (h1 : n ≤ 1000) : MulOk x n := by
  unfold MulOk
  rw [hx]
  refine ⟨?_, fun h2 h3 => ?_, fun h2 h3 => ?_⟩
  · rw [decide_eq_false (by omega), decide_eq_false (by omega)]
    rfl
  · have : (1000 : Int) ≤ (2 ^ 63 - 1) / n := by
      rw [Int.le_ediv_iff_mul_le (by omega)]
      omega
    omega
  · show decide (1 * n.toNat > sizeLine) = false
    rw [sizeLine_eq]
    exact decide_eq_false (by omega)
theorem u_law_15 (T : Txt P w K mg ad) {De : Ds} {ns : List Int} {d : Nat} {B B' : Mm} {L : Str} {N : List Str} {f : Fm} {xs : List D} {o2 o8 o9 o10 o11 o12 : Option D} (hlt : d < B.length) (hd : DrS d B B')
    (q : ∀ (o9 o12 : Option D) (B' : Mm) (xs : List D), DrS d B B' → De.nx [some (.scr ns), some (.ptr d), o2, some (.str L), some (.lst (N.map .str)), some f.d, some (.lst ((ltoks f 0).map .str)), some (.ptr B.length), o8, o9, o10, o11, o12] (B' ++ [.lst xs])) :
    w_law_15 K w ad De [some (.scr ns), some (.ptr d), o2, some (.str L), some (.lst (N.map .str)), some f.d, some (.lst ((ltoks f 0).map .str)), some (.ptr B.length), o8, o9, o10, o11, o12] (B' ++ [.lst xs]) := by
  unfold w_law_15
  simp only [dSeq, dIf, dAsg, dgName, dVar, dC, dOp, dNil, dCons, dTup, dTest, dAnd, dOr, dNot, dIfE, dAndV, dOrV, dNotV, dNext, dRet, dRetN, dDrop, dCall, dCallS, wLen, wI, wAdd, wAddI, wAddS, wAddL, wSub, wMod, wDiv, wPow, wLt, wLe, wGt, wGe, wMulB, wMulS, wEqF, wNeF, wIsN, wNotN, wInS, wNotInS, wIx, dNeg, dAug, dAppend, dLst, dLstM, dLstB, dSl, dPart, dNo, wCut, dBreak, dCont, dRaise, dMeth, dFld, wFld, dSetF, dAugF, dgTupF, dgTup, dgCons, dgNil, dgSet, dThen, dSo, dSoE, wIntC, dChain, dMake, wListC, wListM, dDisp, dPsCons, dPsNil, keysOf, DL.putAll, putD, valD, dUpC, inV, wDGet, wDIn, dDPut, dGet2, dPopAt, dJoin, wInL, dIsX, List.getElem?_cons_zero, List.getElem?_cons_succ, List.getElem?_nil, Option.some.injEq, D.int.injEq, D.str.injEq, D.bl.injEq, D.ptr.injEq, D.lst.injEq, D.tup.injEq, D.scr.injEq, D.xc.injEq, D.kr.injEq, D.ty.injEq, MO.lst.injEq, MO.ins.injEq, MO.dK.injEq, V.int.injEq, V.str.injEq, V.bl.injEq, List.cons.injEq, List.set_cons_zero, List.set_cons_succ, and_true, true_and, or_false, false_or, or_true, true_or, and_false, false_and, exists_false, exists_eq_left, exists_eq_left', exists_eq_right, exists_eq_right', exists_eq, exists_eq', exists_and_left, exists_and_right, exists_const, reduceCtorEq, decide_eq_true_eq, if_true, if_false, List.length_cons, List.length_nil, List.append_nil, List.nil_append, List.cons_append, v_scalI, v_scalS, v_scalB, v_scalN, v_decI, v_decS, v_decB, v_lsL, v_lsP, v_lsI, v_lsS, v_lsB, v_lsT, v_lsN, v_sqT, v_sqL, v_sqP, v_sqI, v_sqS, v_sqB, v_sqN, v_vI, v_vS, v_vB, v_vN, v_vT, v_vL, v_vP, v_sign, v_map, v_at0, v_at1, v_at2, v_at3, v_at4, v_at5, v_ofs, v_eqS, v_eqI, v_dkP, v_bdS, v_bdI, v_bdB, v_bdN, v_bdT, v_bdL, v_bdP, v_bdsN, v_bdsC, v_lastD, v_lastS, v_kyS, v_kyI, v_tt, v_ff, String.reduceEq, List.foldl_cons, List.foldl_nil, List.any_cons, List.any_nil, List.find?_cons, List.find?_nil, Sum.inr.injEq, Sum.inl.injEq, decide_true, decide_false, Bool.or_false, Bool.or_true, Bool.true_or, Bool.false_or, List.append_cancel_left_eq, Bool.false_eq_true, List.map_cons, List.map_nil, List.mapM_cons, List.mapM_nil, Option.pure_def, Option.bind_eq_bind, Option.bind_some, Option.bind_none, Nat.lt_irrefl, Option.map_some, Option.map_none, and_assoc, Nat.zero_add, Nat.reduceAdd, Nat.reduceLeDiff, Nat.le_refl, sizeLine_eq, and_self, forall_const, Bool.not_eq_true', Bool.not_true, Bool.not_false, decide_eq_false_iff_not, ite_not]
  refine r_dr1 (hd.1.app _) (by omega) (by omega) fun v M2 v0 v1 d2 => ?_
  obtain ⟨B2, rfl, d3⟩ := d2.app (by rw [hd.len]; exact hlt)
  have d3 := hd.trans d3
  unfold w_law_16
  simp only [dSeq, dIf, dAsg, dgName, dVar, dC, dOp, dNil, dCons, dTup, dTest, dAnd, dOr, dNot, dIfE, dAndV, dOrV, dNotV, dNext, dRet, dRetN, dDrop, dCall, dCallS, wLen, wI, wAdd, wAddI, wAddS, wAddL, wSub, wMod, wDiv, wPow, wLt, wLe, wGt, wGe, wMulB, wMulS, wEqF, wNeF, wIsN, wNotN, wInS, wNotInS, wIx, dNeg, dAug, dAppend, dLst, dLstM, dLstB, dSl, dPart, dNo, wCut, dBreak, dCont, dRaise, dMeth, dFld, wFld, dSetF, dAugF, dgTupF, dgTup, dgCons, dgNil, dgSet, dThen, dSo, dSoE, wIntC, dChain, dMake, wListC, wListM, dDisp, dPsCons, dPsNil, keysOf, DL.putAll, putD, valD, dUpC, inV, wDGet, wDIn, dDPut, dGet2, dPopAt, dJoin, wInL, dIsX, List.getElem?_cons_zero, List.getElem?_cons_succ, List.getElem?_nil, Option.some.injEq, D.int.injEq, D.str.injEq, D.bl.injEq, D.ptr.injEq, D.lst.injEq, D.tup.injEq, D.scr.injEq, D.xc.injEq, D.kr.injEq, D.ty.injEq, MO.lst.injEq, MO.ins.injEq, MO.dK.injEq, V.int.injEq, V.str.injEq, V.bl.injEq, List.cons.injEq, List.set_cons_zero, List.set_cons_succ, and_true, true_and, or_false, false_or, or_true, true_or, and_false, false_and, exists_false, exists_eq_left, exists_eq_left', exists_eq_right, exists_eq_right', exists_eq, exists_eq', exists_and_left, exists_and_right, exists_const, reduceCtorEq, decide_eq_true_eq, if_true, if_false, List.length_cons, List.length_nil, List.append_nil, List.nil_append, List.cons_append, v_scalI, v_scalS, v_scalB, v_scalN, v_decI, v_decS, v_decB, v_lsL, v_lsP, v_lsI, v_lsS, v_lsB, v_lsT, v_lsN, v_sqT, v_sqL, v_sqP, v_sqI, v_sqS, v_sqB, v_sqN, v_vI, v_vS, v_vB, v_vN, v_vT, v_vL, v_vP, v_sign, v_map, v_at0, v_at1, v_at2, v_at3, v_at4, v_at5, v_ofs, v_eqS, v_eqI, v_dkP, v_bdS, v_bdI, v_bdB, v_bdN, v_bdT, v_bdL, v_bdP, v_bdsN, v_bdsC, v_lastD, v_lastS, v_kyS, v_kyI, v_tt, v_ff, String.reduceEq, List.foldl_cons, List.foldl_nil, List.any_cons, List.any_nil, List.find?_cons, List.find?_nil, Sum.inr.injEq, Sum.inl.injEq, decide_true, decide_false, Bool.or_false, Bool.or_true, Bool.true_or, Bool.false_or, List.append_cancel_left_eq, Bool.false_eq_true, List.map_cons, List.map_nil, List.mapM_cons, List.mapM_nil, Option.pure_def, Option.bind_eq_bind, Option.bind_some, Option.bind_none, Nat.lt_irrefl, Option.map_some, Option.map_none, and_assoc, Nat.zero_add, Nat.reduceAdd, Nat.reduceLeDiff, Nat.le_refl, sizeLine_eq, and_self, forall_const, Bool.not_eq_true', Bool.not_true, Bool.not_false, decide_eq_false_iff_not, ite_not]
  have go : ∀ (k : Nat), k ≤ 60 → (Txt.mul "(" (k : Int) ++ "a" ++ Txt.mul ")" (k : Int) : Str) = mkS (List.replicate k 40 ++ 97 :: List.replicate k 41) → (60 - v) = k → (Txt.mul "(" (k : Int)).length = k → (Txt.mul ")" (k : Int)).length = k →
      MulOk "(" (60 - v) ∧ (Txt.mul "(" (60 - v)).length + ("a" : Str).length ≤ 16777216 ∧ MulOk ")" (60 - v) ∧ (Txt.mul "(" (60 - v) ++ "a").length + (Txt.mul ")" (60 - v)).length ≤ 16777216 ∧
        w_law_17 K w ad De [some (.scr ns), some (.ptr d), o2, some (.str L), some (.lst (N.map .str)), some f.d, some (.lst ((ltoks f 0).map .str)), some (.ptr B.length), o8, some (.str (Txt.mul "(" (60 - v) ++ "a" ++ Txt.mul ")" (60 - v))), o10, o11, some (.int (60 - v))] (B2 ++ [.lst xs]) := by
    intro k hk ek ev l1 l2
    have e1 : (Txt.mul "(" (k : Int) ++ "a" : Str).length = k + 1 := by
      have := congrArg Str.length ek
      show ((Txt.mul "(" (k : Int)).cps ++ ("a" : Str).cps).size = k + 1
      rw [Array.size_append]
      show (Txt.mul "(" (k : Int)).length + 1 = _
      rw [l1]
    rw [ev, ek, e1, l1, l2]
    refine ⟨mulok1 (by decide) (by omega) (by omega), by show k + 1 ≤ _; omega, mulok1 (by decide) (by omega) (by omega), by omega, ?_⟩
    unfold w_law_17
    simp only [dSeq, dIf, dAsg, dgName, dVar, dC, dOp, dNil, dCons, dTup, dTest, dAnd, dOr, dNot, dIfE, dAndV, dOrV, dNotV, dNext, dRet, dRetN, dDrop, dCall, dCallS, wLen, wI, wAdd, wAddI, wAddS, wAddL, wSub, wMod, wDiv, wPow, wLt, wLe, wGt, wGe, wMulB, wMulS, wEqF, wNeF, wIsN, wNotN, wInS, wNotInS, wIx, dNeg, dAug, dAppend, dLst, dLstM, dLstB, dSl, dPart, dNo, wCut, dBreak, dCont, dRaise, dMeth, dFld, wFld, dSetF, dAugF, dgTupF, dgTup, dgCons, dgNil, dgSet, dThen, dSo, dSoE, wIntC, dChain, dMake, wListC, wListM, dDisp, dPsCons, dPsNil, keysOf, DL.putAll, putD, valD, dUpC, inV, wDGet, wDIn, dDPut, dGet2, dPopAt, dJoin, wInL, dIsX, List.getElem?_cons_zero, List.getElem?_cons_succ, List.getElem?_nil, Option.some.injEq, D.int.injEq, D.str.injEq, D.bl.injEq, D.ptr.injEq, D.lst.injEq, D.tup.injEq, D.scr.injEq, D.xc.injEq, D.kr.injEq, D.ty.injEq, MO.lst.injEq, MO.ins.injEq, MO.dK.injEq, V.int.injEq, V.str.injEq, V.bl.injEq, List.cons.injEq, List.set_cons_zero, List.set_cons_succ, and_true, true_and, or_false, false_or, or_true, true_or, and_false, false_and, exists_false, exists_eq_left, exists_eq_left', exists_eq_right, exists_eq_right', exists_eq, exists_eq', exists_and_left, exists_and_right, exists_const, reduceCtorEq, decide_eq_true_eq, if_true, if_false, List.length_cons, List.length_nil, List.append_nil, List.nil_append, List.cons_append, v_scalI, v_scalS, v_scalB, v_scalN, v_decI, v_decS, v_decB, v_lsL, v_lsP, v_lsI, v_lsS, v_lsB, v_lsT, v_lsN, v_sqT, v_sqL, v_sqP, v_sqI, v_sqS, v_sqB, v_sqN, v_vI, v_vS, v_vB, v_vN, v_vT, v_vL, v_vP, v_sign, v_map, v_at0, v_at1, v_at2, v_at3, v_at4, v_at5, v_ofs, v_eqS, v_eqI, v_dkP, v_bdS, v_bdI, v_bdB, v_bdN, v_bdT, v_bdL, v_bdP, v_bdsN, v_bdsC, v_lastD, v_lastS, v_kyS, v_kyI, v_tt, v_ff, String.reduceEq, List.foldl_cons, List.foldl_nil, List.any_cons, List.any_nil, List.find?_cons, List.find?_nil, Sum.inr.injEq, Sum.inl.injEq, decide_true, decide_false, Bool.or_false, Bool.or_true, Bool.true_or, Bool.false_or, List.append_cancel_left_eq, Bool.false_eq_true, List.map_cons, List.map_nil, List.mapM_cons, List.mapM_nil, Option.pure_def, Option.bind_eq_bind, Option.bind_some, Option.bind_none, Nat.lt_irrefl, Option.map_some, Option.map_none, and_assoc, Nat.zero_add, Nat.reduceAdd, Nat.reduceLeDiff, Nat.le_refl, sizeLine_eq, and_self, forall_const, Bool.not_eq_true', Bool.not_true, Bool.not_false, decide_eq_false_iff_not, ite_not, F_told, F_same]
    have hz : (mkS (List.replicate k 40 ++ 97 :: List.replicate k 41)).length < 1000000 := by
      rw [mkS_len]
      simp
      omega
    refine ⟨0, rfl, Nat.zero_le _, hz, _, deep_read k hk, fun d h => by cases h; exact .tup (.cons (.str _) (.cons (.str _) .nil)), ?_⟩
    exact ⟨sm_told (fun d h => ⟨.letter 97, by cases h; rfl, by decide⟩), q _ _ B2 xs d3⟩
  rcases (show v = 0 ∨ v = 1 by omega) with rfl | rfl
  · exact go 60 (by decide) (by decide +kernel) (by decide) (by decide +kernel) (by decide +kernel)
  · exact go 59 (by decide) (by decide +kernel) (by decide) (by decide +kernel) (by decide +kernel)
theorem u_law_7 (T : Txt P w K mg ad) {De : Ds} {ns : List Int} {d : Nat} {B : Mm} {L : Str} {N : List Str} {f : Fm} {o2 o7 o8 o9 o10 o11 o12 : Option D} (hB : DrAt B d) (hw : Wf B.length B) (hL : L ∈ lawLetters) (hN : NOk N) (hf : FmOk L N f) (hs : f.size ≤ 20)
    (q : ∀ (o2 o8 o9 o10 o11 o12 : Option D) (B' : Mm) (xs : List D), DrS d B B' → De.nx [some (.scr ns), some (.ptr d), o2, some (.str L), some (.lst (N.map .str)), some f.d, some (.lst ((ltoks f 0).map .str)), some (.ptr B.length), o8, o9, o10, o11, o12] (B' ++ [.lst xs])) :
    w_law_7 K w ad De [some (.scr ns), some (.ptr d), o2, some (.str L), some (.lst (N.map .str)), some f.d, some (.lst ((ltoks f 0).map .str)), o7, o8, o9, o10, o11, o12] B := by
  have hlt := hB.lt
  have LO := law_ok hL
  obtain ⟨k, hk, dv⟩ := fm_dv LO.abc hN.2 f 0 hf (by omega)
  have ul := ltoks_len f 0
  have u12 := (dv_good LO.abc dv).2.2
  have dv : Dv L 1 (ltoks f 0) f.d k := dv
  unfold w_law_7
  simp only [dSeq, dIf, dAsg, dgName, dVar, dC, dOp, dNil, dCons, dTup, dTest, dAnd, dOr, dNot, dIfE, dAndV, dOrV, dNotV, dNext, dRet, dRetN, dDrop, dCall, dCallS, wLen, wI, wAdd, wAddI, wAddS, wAddL, wSub, wMod, wDiv, wPow, wLt, wLe, wGt, wGe, wMulB, wMulS, wEqF, wNeF, wIsN, wNotN, wInS, wNotInS, wIx, dNeg, dAug, dAppend, dLst, dLstM, dLstB, dSl, dPart, dNo, wCut, dBreak, dCont, dRaise, dMeth, dFld, wFld, dSetF, dAugF, dgTupF, dgTup, dgCons, dgNil, dgSet, dThen, dSo, dSoE, wIntC, dChain, dMake, wListC, wListM, dDisp, dPsCons, dPsNil, keysOf, DL.putAll, putD, valD, dUpC, inV, wDGet, wDIn, dDPut, dGet2, dPopAt, dJoin, wInL, dIsX, List.getElem?_cons_zero, List.getElem?_cons_succ, List.getElem?_nil, Option.some.injEq, D.int.injEq, D.str.injEq, D.bl.injEq, D.ptr.injEq, D.lst.injEq, D.tup.injEq, D.scr.injEq, D.xc.injEq, D.kr.injEq, D.ty.injEq, MO.lst.injEq, MO.ins.injEq, MO.dK.injEq, V.int.injEq, V.str.injEq, V.bl.injEq, List.cons.injEq, List.set_cons_zero, List.set_cons_succ, and_true, true_and, or_false, false_or, or_true, true_or, and_false, false_and, exists_false, exists_eq_left, exists_eq_left', exists_eq_right, exists_eq_right', exists_eq, exists_eq', exists_and_left, exists_and_right, exists_const, reduceCtorEq, decide_eq_true_eq, if_true, if_false, List.length_cons, List.length_nil, List.append_nil, List.nil_append, List.cons_append, v_scalI, v_scalS, v_scalB, v_scalN, v_decI, v_decS, v_decB, v_lsL, v_lsP, v_lsI, v_lsS, v_lsB, v_lsT, v_lsN, v_sqT, v_sqL, v_sqP, v_sqI, v_sqS, v_sqB, v_sqN, v_vI, v_vS, v_vB, v_vN, v_vT, v_vL, v_vP, v_sign, v_map, v_at0, v_at1, v_at2, v_at3, v_at4, v_at5, v_ofs, v_eqS, v_eqI, v_dkP, v_bdS, v_bdI, v_bdB, v_bdN, v_bdT, v_bdL, v_bdP, v_bdsN, v_bdsC, v_lastD, v_lastS, v_kyS, v_kyI, v_tt, v_ff, String.reduceEq, List.foldl_cons, List.foldl_nil, List.any_cons, List.any_nil, List.find?_cons, List.find?_nil, Sum.inr.injEq, Sum.inl.injEq, decide_true, decide_false, Bool.or_false, Bool.or_true, Bool.true_or, Bool.false_or, List.append_cancel_left_eq, Bool.false_eq_true, List.map_cons, List.map_nil, List.mapM_cons, List.mapM_nil, Option.pure_def, Option.bind_eq_bind, Option.bind_some, Option.bind_none, Nat.lt_irrefl, Option.map_some, Option.map_none, and_assoc, Nat.zero_add, Nat.reduceAdd, Nat.reduceLeDiff, Nat.le_refl, sizeLine_eq, and_self, forall_const, Bool.not_eq_true', Bool.not_true, Bool.not_false, decide_eq_false_iff_not, ite_not, F_gaps]
  refine ⟨hB, fun z => (by cases z), _, rfl, by omega, u12, fun g0 tail xs M2 hx hg h0 l0 ht lt hz d2 => ?_⟩
  unfold GapD
  simp only [dSeq, dIf, dAsg, dgName, dVar, dC, dOp, dNil, dCons, dTup, dTest, dAnd, dOr, dNot, dIfE, dAndV, dOrV, dNotV, dNext, dRet, dRetN, dDrop, dCall, dCallS, wLen, wI, wAdd, wAddI, wAddS, wAddL, wSub, wMod, wDiv, wPow, wLt, wLe, wGt, wGe, wMulB, wMulS, wEqF, wNeF, wIsN, wNotN, wInS, wNotInS, wIx, dNeg, dAug, dAppend, dLst, dLstM, dLstB, dSl, dPart, dNo, wCut, dBreak, dCont, dRaise, dMeth, dFld, wFld, dSetF, dAugF, dgTupF, dgTup, dgCons, dgNil, dgSet, dThen, dSo, dSoE, wIntC, dChain, dMake, wListC, wListM, dDisp, dPsCons, dPsNil, keysOf, DL.putAll, putD, valD, dUpC, inV, wDGet, wDIn, dDPut, dGet2, dPopAt, dJoin, wInL, dIsX, List.getElem?_cons_zero, List.getElem?_cons_succ, List.getElem?_nil, Option.some.injEq, D.int.injEq, D.str.injEq, D.bl.injEq, D.ptr.injEq, D.lst.injEq, D.tup.injEq, D.scr.injEq, D.xc.injEq, D.kr.injEq, D.ty.injEq, MO.lst.injEq, MO.ins.injEq, MO.dK.injEq, V.int.injEq, V.str.injEq, V.bl.injEq, List.cons.injEq, List.set_cons_zero, List.set_cons_succ, and_true, true_and, or_false, false_or, or_true, true_or, and_false, false_and, exists_false, exists_eq_left, exists_eq_left', exists_eq_right, exists_eq_right', exists_eq, exists_eq', exists_and_left, exists_and_right, exists_const, reduceCtorEq, decide_eq_true_eq, if_true, if_false, List.length_cons, List.length_nil, List.append_nil, List.nil_append, List.cons_append, v_scalI, v_scalS, v_scalB, v_scalN, v_decI, v_decS, v_decB, v_lsL, v_lsP, v_lsI, v_lsS, v_lsB, v_lsT, v_lsN, v_sqT, v_sqL, v_sqP, v_sqI, v_sqS, v_sqB, v_sqN, v_vI, v_vS, v_vB, v_vN, v_vT, v_vL, v_vP, v_sign, v_map, v_at0, v_at1, v_at2, v_at3, v_at4, v_at5, v_ofs, v_eqS, v_eqI, v_dkP, v_bdS, v_bdI, v_bdB, v_bdN, v_bdT, v_bdL, v_bdP, v_bdsN, v_bdsC, v_lastD, v_lastS, v_kyS, v_kyI, v_tt, v_ff, String.reduceEq, List.foldl_cons, List.foldl_nil, List.any_cons, List.any_nil, List.find?_cons, List.find?_nil, Sum.inr.injEq, Sum.inl.injEq, decide_true, decide_false, Bool.or_false, Bool.or_true, Bool.true_or, Bool.false_or, List.append_cancel_left_eq, Bool.false_eq_true, List.map_cons, List.map_nil, List.mapM_cons, List.mapM_nil, Option.pure_def, Option.bind_eq_bind, Option.bind_some, Option.bind_none, Nat.lt_irrefl, Option.map_some, Option.map_none, and_assoc, Nat.zero_add, Nat.reduceAdd, Nat.reduceLeDiff, Nat.le_refl, sizeLine_eq, and_self, forall_const, Bool.not_eq_true', Bool.not_true, Bool.not_false, decide_eq_false_iff_not, ite_not]
  have e2 : M2.length = B.length := d2.len
  rw [e2]
  have zl := gap_len hx hg l0 lt (by omega) u12
  have rd := gap_read LO dv (by omega) hx hg h0 ht
  have ask0 : AskOk L (.tup [.str (mkS (g0 ++ layT xs ++ tail)), .tup [.str "told", f.d]]) := ⟨_, .ok f.d, rfl, zl, rd, fun d h => ⟨f, by cases h; rfl, hs⟩⟩
  have AI1 : ∀ o8 o9 o10 o11 o12, AI ns d B L N f 1 [some (.scr ns), some (.ptr d), o2, some (.str L), some (.lst (N.map .str)), some f.d, some (.lst ((ltoks f 0).map .str)), some (.ptr B.length), o8, o9, o10, o11, o12] (M2 ++ [.lst [.tup [.str (mkS (g0 ++ layT xs ++ tail)), .tup [.str "told", f.d]]]]) := fun o8 o9 o10 o11 o12 =>
    ⟨o2, o8, o9, o10, o11, o12, M2, _, rfl, d2, rfl, fun e he => by rw [List.mem_singleton.mp he]; exact ask0, rfl⟩
  have len2 : (M2 ++ [MO.lst [D.tup [D.str (mkS (g0 ++ layT xs ++ tail)), D.tup [D.str "told", f.d]]]]).length = (B ++ [MO.lst []]).length := by rw [List.length_append, List.length_append, e2]; rfl
  unfold w_law_8 dFor diRng1
  simp only [dSeq, dIf, dAsg, dgName, dVar, dC, dOp, dNil, dCons, dTup, dTest, dAnd, dOr, dNot, dIfE, dAndV, dOrV, dNotV, dNext, dRet, dRetN, dDrop, dCall, dCallS, wLen, wI, wAdd, wAddI, wAddS, wAddL, wSub, wMod, wDiv, wPow, wLt, wLe, wGt, wGe, wMulB, wMulS, wEqF, wNeF, wIsN, wNotN, wInS, wNotInS, wIx, dNeg, dAug, dAppend, dLst, dLstM, dLstB, dSl, dPart, dNo, wCut, dBreak, dCont, dRaise, dMeth, dFld, wFld, dSetF, dAugF, dgTupF, dgTup, dgCons, dgNil, dgSet, dThen, dSo, dSoE, wIntC, dChain, dMake, wListC, wListM, dDisp, dPsCons, dPsNil, keysOf, DL.putAll, putD, valD, dUpC, inV, wDGet, wDIn, dDPut, dGet2, dPopAt, dJoin, wInL, dIsX, List.getElem?_cons_zero, List.getElem?_cons_succ, List.getElem?_nil, Option.some.injEq, D.int.injEq, D.str.injEq, D.bl.injEq, D.ptr.injEq, D.lst.injEq, D.tup.injEq, D.scr.injEq, D.xc.injEq, D.kr.injEq, D.ty.injEq, MO.lst.injEq, MO.ins.injEq, MO.dK.injEq, V.int.injEq, V.str.injEq, V.bl.injEq, List.cons.injEq, List.set_cons_zero, List.set_cons_succ, and_true, true_and, or_false, false_or, or_true, true_or, and_false, false_and, exists_false, exists_eq_left, exists_eq_left', exists_eq_right, exists_eq_right', exists_eq, exists_eq', exists_and_left, exists_and_right, exists_const, reduceCtorEq, decide_eq_true_eq, if_true, if_false, List.length_cons, List.length_nil, List.append_nil, List.nil_append, List.cons_append, v_scalI, v_scalS, v_scalB, v_scalN, v_decI, v_decS, v_decB, v_lsL, v_lsP, v_lsI, v_lsS, v_lsB, v_lsT, v_lsN, v_sqT, v_sqL, v_sqP, v_sqI, v_sqS, v_sqB, v_sqN, v_vI, v_vS, v_vB, v_vN, v_vT, v_vL, v_vP, v_sign, v_map, v_at0, v_at1, v_at2, v_at3, v_at4, v_at5, v_ofs, v_eqS, v_eqI, v_dkP, v_bdS, v_bdI, v_bdB, v_bdN, v_bdT, v_bdL, v_bdP, v_bdsN, v_bdsC, v_lastD, v_lastS, v_kyS, v_kyI, v_tt, v_ff, String.reduceEq, List.foldl_cons, List.foldl_nil, List.any_cons, List.any_nil, List.find?_cons, List.find?_nil, Sum.inr.injEq, Sum.inl.injEq, decide_true, decide_false, Bool.or_false, Bool.or_true, Bool.true_or, Bool.false_or, List.append_cancel_left_eq, Bool.false_eq_true, List.map_cons, List.map_nil, List.mapM_cons, List.mapM_nil, Option.pure_def, Option.bind_eq_bind, Option.bind_some, Option.bind_none, Nat.lt_irrefl, Option.map_some, Option.map_none, and_assoc, Nat.zero_add, Nat.reduceAdd, Nat.reduceLeDiff, Nat.le_refl, sizeLine_eq, and_self, forall_const, Bool.not_eq_true', Bool.not_true, Bool.not_false, decide_eq_false_iff_not, ite_not]
  refine ⟨by decide, by decide, fun i => AI ns d B L N f (i + 1), AI1 _ _ _ _ _, fun _ _ _ _ => trivial, ?_, ?_⟩
  · rintro i e ρ1 M3 he ⟨p2, p8, p9, p10, p11, p12, B', ys, rfl, hd, hn, hy, rfl⟩
    obtain ⟨hi, rfl⟩ := rng_at he
    have hi : i < 3 := hi
    simp only [dSeq, dIf, dAsg, dgName, dVar, dC, dOp, dNil, dCons, dTup, dTest, dAnd, dOr, dNot, dIfE, dAndV, dOrV, dNotV, dNext, dRet, dRetN, dDrop, dCall, dCallS, wLen, wI, wAdd, wAddI, wAddS, wAddL, wSub, wMod, wDiv, wPow, wLt, wLe, wGt, wGe, wMulB, wMulS, wEqF, wNeF, wIsN, wNotN, wInS, wNotInS, wIx, dNeg, dAug, dAppend, dLst, dLstM, dLstB, dSl, dPart, dNo, wCut, dBreak, dCont, dRaise, dMeth, dFld, wFld, dSetF, dAugF, dgTupF, dgTup, dgCons, dgNil, dgSet, dThen, dSo, dSoE, wIntC, dChain, dMake, wListC, wListM, dDisp, dPsCons, dPsNil, keysOf, DL.putAll, putD, valD, dUpC, inV, wDGet, wDIn, dDPut, dGet2, dPopAt, dJoin, wInL, dIsX, List.getElem?_cons_zero, List.getElem?_cons_succ, List.getElem?_nil, Option.some.injEq, D.int.injEq, D.str.injEq, D.bl.injEq, D.ptr.injEq, D.lst.injEq, D.tup.injEq, D.scr.injEq, D.xc.injEq, D.kr.injEq, D.ty.injEq, MO.lst.injEq, MO.ins.injEq, MO.dK.injEq, V.int.injEq, V.str.injEq, V.bl.injEq, List.cons.injEq, List.set_cons_zero, List.set_cons_succ, and_true, true_and, or_false, false_or, or_true, true_or, and_false, false_and, exists_false, exists_eq_left, exists_eq_left', exists_eq_right, exists_eq_right', exists_eq, exists_eq', exists_and_left, exists_and_right, exists_const, reduceCtorEq, decide_eq_true_eq, if_true, if_false, List.length_cons, List.length_nil, List.append_nil, List.nil_append, List.cons_append, v_scalI, v_scalS, v_scalB, v_scalN, v_decI, v_decS, v_decB, v_lsL, v_lsP, v_lsI, v_lsS, v_lsB, v_lsT, v_lsN, v_sqT, v_sqL, v_sqP, v_sqI, v_sqS, v_sqB, v_sqN, v_vI, v_vS, v_vB, v_vN, v_vT, v_vL, v_vP, v_sign, v_map, v_at0, v_at1, v_at2, v_at3, v_at4, v_at5, v_ofs, v_eqS, v_eqI, v_dkP, v_bdS, v_bdI, v_bdB, v_bdN, v_bdT, v_bdL, v_bdP, v_bdsN, v_bdsC, v_lastD, v_lastS, v_kyS, v_kyI, v_tt, v_ff, String.reduceEq, List.foldl_cons, List.foldl_nil, List.any_cons, List.any_nil, List.find?_cons, List.find?_nil, Sum.inr.injEq, Sum.inl.injEq, decide_true, decide_false, Bool.or_false, Bool.or_true, Bool.true_or, Bool.false_or, List.append_cancel_left_eq, Bool.false_eq_true, List.map_cons, List.map_nil, List.mapM_cons, List.mapM_nil, Option.pure_def, Option.bind_eq_bind, Option.bind_some, Option.bind_none, Nat.lt_irrefl, Option.map_some, Option.map_none, and_assoc, Nat.zero_add, Nat.reduceAdd, Nat.reduceLeDiff, Nat.le_refl, sizeLine_eq, and_self, forall_const, Bool.not_eq_true', Bool.not_true, Bool.not_false, decide_eq_false_iff_not, ite_not]
    refine u_law_9 hlt hd hL hN hf hs hy hn (by omega) fun ρ M4 h w' ev => ?_
    rw [len2]
    exact Up.ai w' ev h
  · rintro ρ1 M3 ⟨p2, p8, p9, p10, p11, p12, B', ys, rfl, hd, hn, hy, rfl⟩
    rw [rng_len] at hn
    have hn : ys.length = 4 := hn
    have hM : (B' ++ [MO.lst ys])[B.length]? = some (.lst ys) := by rw [← hd.len]; exact app_last
    have len3 : (B' ++ [MO.lst ys]).length = (B ++ [MO.lst []]).length := by rw [List.length_append, List.length_append, hd.len]; rfl
    unfold w_law_11 dFor diRng1
    simp only [dSeq, dIf, dAsg, dgName, dVar, dC, dOp, dNil, dCons, dTup, dTest, dAnd, dOr, dNot, dIfE, dAndV, dOrV, dNotV, dNext, dRet, dRetN, dDrop, dCall, dCallS, wLen, wI, wAdd, wAddI, wAddS, wAddL, wSub, wMod, wDiv, wPow, wLt, wLe, wGt, wGe, wMulB, wMulS, wEqF, wNeF, wIsN, wNotN, wInS, wNotInS, wIx, dNeg, dAug, dAppend, dLst, dLstM, dLstB, dSl, dPart, dNo, wCut, dBreak, dCont, dRaise, dMeth, dFld, wFld, dSetF, dAugF, dgTupF, dgTup, dgCons, dgNil, dgSet, dThen, dSo, dSoE, wIntC, dChain, dMake, wListC, wListM, dDisp, dPsCons, dPsNil, keysOf, DL.putAll, putD, valD, dUpC, inV, wDGet, wDIn, dDPut, dGet2, dPopAt, dJoin, wInL, dIsX, List.getElem?_cons_zero, List.getElem?_cons_succ, List.getElem?_nil, Option.some.injEq, D.int.injEq, D.str.injEq, D.bl.injEq, D.ptr.injEq, D.lst.injEq, D.tup.injEq, D.scr.injEq, D.xc.injEq, D.kr.injEq, D.ty.injEq, MO.lst.injEq, MO.ins.injEq, MO.dK.injEq, V.int.injEq, V.str.injEq, V.bl.injEq, List.cons.injEq, List.set_cons_zero, List.set_cons_succ, and_true, true_and, or_false, false_or, or_true, true_or, and_false, false_and, exists_false, exists_eq_left, exists_eq_left', exists_eq_right, exists_eq_right', exists_eq, exists_eq', exists_and_left, exists_and_right, exists_const, reduceCtorEq, decide_eq_true_eq, if_true, if_false, List.length_cons, List.length_nil, List.append_nil, List.nil_append, List.cons_append, v_scalI, v_scalS, v_scalB, v_scalN, v_decI, v_decS, v_decB, v_lsL, v_lsP, v_lsI, v_lsS, v_lsB, v_lsT, v_lsN, v_sqT, v_sqL, v_sqP, v_sqI, v_sqS, v_sqB, v_sqN, v_vI, v_vS, v_vB, v_vN, v_vT, v_vL, v_vP, v_sign, v_map, v_at0, v_at1, v_at2, v_at3, v_at4, v_at5, v_ofs, v_eqS, v_eqI, v_dkP, v_bdS, v_bdI, v_bdB, v_bdN, v_bdT, v_bdL, v_bdP, v_bdsN, v_bdsC, v_lastD, v_lastS, v_kyS, v_kyI, v_tt, v_ff, String.reduceEq, List.foldl_cons, List.foldl_nil, List.any_cons, List.any_nil, List.find?_cons, List.find?_nil, Sum.inr.injEq, Sum.inl.injEq, decide_true, decide_false, Bool.or_false, Bool.or_true, Bool.true_or, Bool.false_or, List.append_cancel_left_eq, Bool.false_eq_true, List.map_cons, List.map_nil, List.mapM_cons, List.mapM_nil, Option.pure_def, Option.bind_eq_bind, Option.bind_some, Option.bind_none, Nat.lt_irrefl, Option.map_some, Option.map_none, and_assoc, Nat.zero_add, Nat.reduceAdd, Nat.reduceLeDiff, Nat.le_refl, sizeLine_eq, and_self, forall_const, Bool.not_eq_true', Bool.not_true, Bool.not_false, decide_eq_false_iff_not, ite_not, hM, hn]
    refine ⟨by decide, by decide, fun i => AI ns d B L N f (4 - i), ⟨_, _, _, _, _, _, B', ys, rfl, hd, hn, hy, rfl⟩, fun _ _ _ _ => trivial, ?_, ?_⟩
    · rintro i e ρ1 M3 he ⟨p2, p8, p9, p10, p11, p12, B', ys, rfl, hd, hn, hy, rfl⟩
      obtain ⟨hi, rfl⟩ := rng_at he
      have hi : i < 4 := hi
      simp only [dSeq, dIf, dAsg, dgName, dVar, dC, dOp, dNil, dCons, dTup, dTest, dAnd, dOr, dNot, dIfE, dAndV, dOrV, dNotV, dNext, dRet, dRetN, dDrop, dCall, dCallS, wLen, wI, wAdd, wAddI, wAddS, wAddL, wSub, wMod, wDiv, wPow, wLt, wLe, wGt, wGe, wMulB, wMulS, wEqF, wNeF, wIsN, wNotN, wInS, wNotInS, wIx, dNeg, dAug, dAppend, dLst, dLstM, dLstB, dSl, dPart, dNo, wCut, dBreak, dCont, dRaise, dMeth, dFld, wFld, dSetF, dAugF, dgTupF, dgTup, dgCons, dgNil, dgSet, dThen, dSo, dSoE, wIntC, dChain, dMake, wListC, wListM, dDisp, dPsCons, dPsNil, keysOf, DL.putAll, putD, valD, dUpC, inV, wDGet, wDIn, dDPut, dGet2, dPopAt, dJoin, wInL, dIsX, List.getElem?_cons_zero, List.getElem?_cons_succ, List.getElem?_nil, Option.some.injEq, D.int.injEq, D.str.injEq, D.bl.injEq, D.ptr.injEq, D.lst.injEq, D.tup.injEq, D.scr.injEq, D.xc.injEq, D.kr.injEq, D.ty.injEq, MO.lst.injEq, MO.ins.injEq, MO.dK.injEq, V.int.injEq, V.str.injEq, V.bl.injEq, List.cons.injEq, List.set_cons_zero, List.set_cons_succ, and_true, true_and, or_false, false_or, or_true, true_or, and_false, false_and, exists_false, exists_eq_left, exists_eq_left', exists_eq_right, exists_eq_right', exists_eq, exists_eq', exists_and_left, exists_and_right, exists_const, reduceCtorEq, decide_eq_true_eq, if_true, if_false, List.length_cons, List.length_nil, List.append_nil, List.nil_append, List.cons_append, v_scalI, v_scalS, v_scalB, v_scalN, v_decI, v_decS, v_decB, v_lsL, v_lsP, v_lsI, v_lsS, v_lsB, v_lsT, v_lsN, v_sqT, v_sqL, v_sqP, v_sqI, v_sqS, v_sqB, v_sqN, v_vI, v_vS, v_vB, v_vN, v_vT, v_vL, v_vP, v_sign, v_map, v_at0, v_at1, v_at2, v_at3, v_at4, v_at5, v_ofs, v_eqS, v_eqI, v_dkP, v_bdS, v_bdI, v_bdB, v_bdN, v_bdT, v_bdL, v_bdP, v_bdsN, v_bdsC, v_lastD, v_lastS, v_kyS, v_kyI, v_tt, v_ff, String.reduceEq, List.foldl_cons, List.foldl_nil, List.any_cons, List.any_nil, List.find?_cons, List.find?_nil, Sum.inr.injEq, Sum.inl.injEq, decide_true, decide_false, Bool.or_false, Bool.or_true, Bool.true_or, Bool.false_or, List.append_cancel_left_eq, Bool.false_eq_true, List.map_cons, List.map_nil, List.mapM_cons, List.mapM_nil, Option.pure_def, Option.bind_eq_bind, Option.bind_some, Option.bind_none, Nat.lt_irrefl, Option.map_some, Option.map_none, and_assoc, Nat.zero_add, Nat.reduceAdd, Nat.reduceLeDiff, Nat.le_refl, sizeLine_eq, and_self, forall_const, Bool.not_eq_true', Bool.not_true, Bool.not_false, decide_eq_false_iff_not, ite_not]
      refine u_law_12 T hlt hd hy (n := 4 - (i + 1)) (by omega) (by omega) fun ρ M4 h w' ev => ?_
      rw [len3]
      exact Up.ai w' ev h
    · rintro ρ1 M3 ⟨p2, p8, p9, p10, p11, p12, B', ys, rfl, hd, hn, hy, rfl⟩
      exact u_law_15 T hlt hd fun o9 o12 B'' zs h => q _ _ _ _ _ _ B'' zs h
theorem ls_fm (f : Fm) : vOf f.d = none := by cases f <;> rfl
theorem u_law_3 (T : Txt P w K mg ad) {De : Ds} {ns : List Int} {d : Nat} {B : Mm} {o2 o3 o4 o5 o6 o7 o8 o9 o10 o11 o12 : Option D} (hB : DrAt B d) (hw : Wf B.length B)
    (q : ∀ (o2 o3 o4 o5 o6 o7 o8 o9 o10 o11 o12 : Option D) (B' : Mm) (xs : List D), DrS d B B' → De.nx [some (.scr ns), some (.ptr d), o2, o3, o4, o5, o6, o7, o8, o9, o10, o11, o12] (B' ++ [.lst xs])) :
    w_law_3 K w ad De [some (.scr ns), some (.ptr d), o2, o3, o4, o5, o6, o7, o8, o9, o10, o11, o12] B := by
  unfold w_law_3
  simp only [dSeq, dIf, dAsg, dgName, dVar, dC, dOp, dNil, dCons, dTup, dTest, dAnd, dOr, dNot, dIfE, dAndV, dOrV, dNotV, dNext, dRet, dRetN, dDrop, dCall, dCallS, wLen, wI, wAdd, wAddI, wAddS, wAddL, wSub, wMod, wDiv, wPow, wLt, wLe, wGt, wGe, wMulB, wMulS, wEqF, wNeF, wIsN, wNotN, wInS, wNotInS, wIx, dNeg, dAug, dAppend, dLst, dLstM, dLstB, dSl, dPart, dNo, wCut, dBreak, dCont, dRaise, dMeth, dFld, wFld, dSetF, dAugF, dgTupF, dgTup, dgCons, dgNil, dgSet, dThen, dSo, dSoE, wIntC, dChain, dMake, wListC, wListM, dDisp, dPsCons, dPsNil, keysOf, DL.putAll, putD, valD, dUpC, inV, wDGet, wDIn, dDPut, dGet2, dPopAt, dJoin, wInL, dIsX, List.getElem?_cons_zero, List.getElem?_cons_succ, List.getElem?_nil, Option.some.injEq, D.int.injEq, D.str.injEq, D.bl.injEq, D.ptr.injEq, D.lst.injEq, D.tup.injEq, D.scr.injEq, D.xc.injEq, D.kr.injEq, D.ty.injEq, MO.lst.injEq, MO.ins.injEq, MO.dK.injEq, V.int.injEq, V.str.injEq, V.bl.injEq, List.cons.injEq, List.set_cons_zero, List.set_cons_succ, and_true, true_and, or_false, false_or, or_true, true_or, and_false, false_and, exists_false, exists_eq_left, exists_eq_left', exists_eq_right, exists_eq_right', exists_eq, exists_eq', exists_and_left, exists_and_right, exists_const, reduceCtorEq, decide_eq_true_eq, if_true, if_false, List.length_cons, List.length_nil, List.append_nil, List.nil_append, List.cons_append, v_scalI, v_scalS, v_scalB, v_scalN, v_decI, v_decS, v_decB, v_lsL, v_lsP, v_lsI, v_lsS, v_lsB, v_lsT, v_lsN, v_sqT, v_sqL, v_sqP, v_sqI, v_sqS, v_sqB, v_sqN, v_vI, v_vS, v_vB, v_vN, v_vT, v_vL, v_vP, v_sign, v_map, v_at0, v_at1, v_at2, v_at3, v_at4, v_at5, v_ofs, v_eqS, v_eqI, v_dkP, v_bdS, v_bdI, v_bdB, v_bdN, v_bdT, v_bdL, v_bdP, v_bdsN, v_bdsC, v_lastD, v_lastS, v_kyS, v_kyI, v_tt, v_ff, String.reduceEq, List.foldl_cons, List.foldl_nil, List.any_cons, List.any_nil, List.find?_cons, List.find?_nil, Sum.inr.injEq, Sum.inl.injEq, decide_true, decide_false, Bool.or_false, Bool.or_true, Bool.true_or, Bool.false_or, List.append_cancel_left_eq, Bool.false_eq_true, List.map_cons, List.map_nil, List.mapM_cons, List.mapM_nil, Option.pure_def, Option.bind_eq_bind, Option.bind_some, Option.bind_none, Nat.lt_irrefl, Option.map_some, Option.map_none, and_assoc, Nat.zero_add, Nat.reduceAdd, Nat.reduceLeDiff, Nat.le_refl, sizeLine_eq, and_self, forall_const, Bool.not_eq_true', Bool.not_true, Bool.not_false, decide_eq_false_iff_not, ite_not, F_letters]
  refine ⟨hB, fun L B1 hL d1 => ?_⟩
  unfold w_law_4
  simp only [dSeq, dIf, dAsg, dgName, dVar, dC, dOp, dNil, dCons, dTup, dTest, dAnd, dOr, dNot, dIfE, dAndV, dOrV, dNotV, dNext, dRet, dRetN, dDrop, dCall, dCallS, wLen, wI, wAdd, wAddI, wAddS, wAddL, wSub, wMod, wDiv, wPow, wLt, wLe, wGt, wGe, wMulB, wMulS, wEqF, wNeF, wIsN, wNotN, wInS, wNotInS, wIx, dNeg, dAug, dAppend, dLst, dLstM, dLstB, dSl, dPart, dNo, wCut, dBreak, dCont, dRaise, dMeth, dFld, wFld, dSetF, dAugF, dgTupF, dgTup, dgCons, dgNil, dgSet, dThen, dSo, dSoE, wIntC, dChain, dMake, wListC, wListM, dDisp, dPsCons, dPsNil, keysOf, DL.putAll, putD, valD, dUpC, inV, wDGet, wDIn, dDPut, dGet2, dPopAt, dJoin, wInL, dIsX, List.getElem?_cons_zero, List.getElem?_cons_succ, List.getElem?_nil, Option.some.injEq, D.int.injEq, D.str.injEq, D.bl.injEq, D.ptr.injEq, D.lst.injEq, D.tup.injEq, D.scr.injEq, D.xc.injEq, D.kr.injEq, D.ty.injEq, MO.lst.injEq, MO.ins.injEq, MO.dK.injEq, V.int.injEq, V.str.injEq, V.bl.injEq, List.cons.injEq, List.set_cons_zero, List.set_cons_succ, and_true, true_and, or_false, false_or, or_true, true_or, and_false, false_and, exists_false, exists_eq_left, exists_eq_left', exists_eq_right, exists_eq_right', exists_eq, exists_eq', exists_and_left, exists_and_right, exists_const, reduceCtorEq, decide_eq_true_eq, if_true, if_false, List.length_cons, List.length_nil, List.append_nil, List.nil_append, List.cons_append, v_scalI, v_scalS, v_scalB, v_scalN, v_decI, v_decS, v_decB, v_lsL, v_lsP, v_lsI, v_lsS, v_lsB, v_lsT, v_lsN, v_sqT, v_sqL, v_sqP, v_sqI, v_sqS, v_sqB, v_sqN, v_vI, v_vS, v_vB, v_vN, v_vT, v_vL, v_vP, v_sign, v_map, v_at0, v_at1, v_at2, v_at3, v_at4, v_at5, v_ofs, v_eqS, v_eqI, v_dkP, v_bdS, v_bdI, v_bdB, v_bdN, v_bdT, v_bdL, v_bdP, v_bdsN, v_bdsC, v_lastD, v_lastS, v_kyS, v_kyI, v_tt, v_ff, String.reduceEq, List.foldl_cons, List.foldl_nil, List.any_cons, List.any_nil, List.find?_cons, List.find?_nil, Sum.inr.injEq, Sum.inl.injEq, decide_true, decide_false, Bool.or_false, Bool.or_true, Bool.true_or, Bool.false_or, List.append_cancel_left_eq, Bool.false_eq_true, List.map_cons, List.map_nil, List.mapM_cons, List.mapM_nil, Option.pure_def, Option.bind_eq_bind, Option.bind_some, Option.bind_none, Nat.lt_irrefl, Option.map_some, Option.map_none, and_assoc, Nat.zero_add, Nat.reduceAdd, Nat.reduceLeDiff, Nat.le_refl, sizeLine_eq, and_self, forall_const, Bool.not_eq_true', Bool.not_true, Bool.not_false, decide_eq_false_iff_not, ite_not]
  refine r_dr1 d1.1 (by omega) (by omega) fun v B2 v0 v1 d2 => ?_
  have d2 := d1.trans d2
  have go : ∀ N : List Str, NOk N → w_law_5 K w ad De [some (.scr ns), some (.ptr d), o2, some (.str L), some (.lst (N.map .str)), o5, o6, o7, o8, o9, o10, o11, o12] B2 := fun N hN => by
    unfold w_law_5
    simp only [dSeq, dIf, dAsg, dgName, dVar, dC, dOp, dNil, dCons, dTup, dTest, dAnd, dOr, dNot, dIfE, dAndV, dOrV, dNotV, dNext, dRet, dRetN, dDrop, dCall, dCallS, wLen, wI, wAdd, wAddI, wAddS, wAddL, wSub, wMod, wDiv, wPow, wLt, wLe, wGt, wGe, wMulB, wMulS, wEqF, wNeF, wIsN, wNotN, wInS, wNotInS, wIx, dNeg, dAug, dAppend, dLst, dLstM, dLstB, dSl, dPart, dNo, wCut, dBreak, dCont, dRaise, dMeth, dFld, wFld, dSetF, dAugF, dgTupF, dgTup, dgCons, dgNil, dgSet, dThen, dSo, dSoE, wIntC, dChain, dMake, wListC, wListM, dDisp, dPsCons, dPsNil, keysOf, DL.putAll, putD, valD, dUpC, inV, wDGet, wDIn, dDPut, dGet2, dPopAt, dJoin, wInL, dIsX, List.getElem?_cons_zero, List.getElem?_cons_succ, List.getElem?_nil, Option.some.injEq, D.int.injEq, D.str.injEq, D.bl.injEq, D.ptr.injEq, D.lst.injEq, D.tup.injEq, D.scr.injEq, D.xc.injEq, D.kr.injEq, D.ty.injEq, MO.lst.injEq, MO.ins.injEq, MO.dK.injEq, V.int.injEq, V.str.injEq, V.bl.injEq, List.cons.injEq, List.set_cons_zero, List.set_cons_succ, and_true, true_and, or_false, false_or, or_true, true_or, and_false, false_and, exists_false, exists_eq_left, exists_eq_left', exists_eq_right, exists_eq_right', exists_eq, exists_eq', exists_and_left, exists_and_right, exists_const, reduceCtorEq, decide_eq_true_eq, if_true, if_false, List.length_cons, List.length_nil, List.append_nil, List.nil_append, List.cons_append, v_scalI, v_scalS, v_scalB, v_scalN, v_decI, v_decS, v_decB, v_lsL, v_lsP, v_lsI, v_lsS, v_lsB, v_lsT, v_lsN, v_sqT, v_sqL, v_sqP, v_sqI, v_sqS, v_sqB, v_sqN, v_vI, v_vS, v_vB, v_vN, v_vT, v_vL, v_vP, v_sign, v_map, v_at0, v_at1, v_at2, v_at3, v_at4, v_at5, v_ofs, v_eqS, v_eqI, v_dkP, v_bdS, v_bdI, v_bdB, v_bdN, v_bdT, v_bdL, v_bdP, v_bdsN, v_bdsC, v_lastD, v_lastS, v_kyS, v_kyI, v_tt, v_ff, String.reduceEq, List.foldl_cons, List.foldl_nil, List.any_cons, List.any_nil, List.find?_cons, List.find?_nil, Sum.inr.injEq, Sum.inl.injEq, decide_true, decide_false, Bool.or_false, Bool.or_true, Bool.true_or, Bool.false_or, List.append_cancel_left_eq, Bool.false_eq_true, List.map_cons, List.map_nil, List.mapM_cons, List.mapM_nil, Option.pure_def, Option.bind_eq_bind, Option.bind_some, Option.bind_none, Nat.lt_irrefl, Option.map_some, Option.map_none, and_assoc, Nat.zero_add, Nat.reduceAdd, Nat.reduceLeDiff, Nat.le_refl, sizeLine_eq, and_self, forall_const, Bool.not_eq_true', Bool.not_true, Bool.not_false, decide_eq_false_iff_not, ite_not]
    refine r_dr1 d2.1 (by omega) (by omega) fun u B3 u0 u1 d3 => ?_
    have d3 := d2.trans d3
    have LO := law_ok hL
    have gs : ∀ s : Int, 1 ≤ s → s ≤ 20 → F_form 30 [.ptr d, .str L, .int s, .lst (N.map .str)] B3 (fun x M1 => w_law_6 K w ad De [some (.scr ns), some (.ptr d), o2, some (.str L), some (.lst (N.map .str)), some x, o6, o7, o8, o9, o10, o11, o12] M1) (fun C fs M1 => De.ex C fs [some (.scr ns), some (.ptr d), o2, some (.str L), some (.lst (N.map .str)), o5, o6, o7, o8, o9, o10, o11, o12] M1) := fun s s1 s2 => by
      refine ⟨d, L, s, N, rfl, d3.1, LO.l0, by have := LO.l1; omega, hN.1, s1, by omega, by omega, fun f B4 hf hs d4 => ?_⟩
      have d4 := d3.trans d4
      unfold w_law_6
      simp only [dSeq, dIf, dAsg, dgName, dVar, dC, dOp, dNil, dCons, dTup, dTest, dAnd, dOr, dNot, dIfE, dAndV, dOrV, dNotV, dNext, dRet, dRetN, dDrop, dCall, dCallS, wLen, wI, wAdd, wAddI, wAddS, wAddL, wSub, wMod, wDiv, wPow, wLt, wLe, wGt, wGe, wMulB, wMulS, wEqF, wNeF, wIsN, wNotN, wInS, wNotInS, wIx, dNeg, dAug, dAppend, dLst, dLstM, dLstB, dSl, dPart, dNo, wCut, dBreak, dCont, dRaise, dMeth, dFld, wFld, dSetF, dAugF, dgTupF, dgTup, dgCons, dgNil, dgSet, dThen, dSo, dSoE, wIntC, dChain, dMake, wListC, wListM, dDisp, dPsCons, dPsNil, keysOf, DL.putAll, putD, valD, dUpC, inV, wDGet, wDIn, dDPut, dGet2, dPopAt, dJoin, wInL, dIsX, List.getElem?_cons_zero, List.getElem?_cons_succ, List.getElem?_nil, Option.some.injEq, D.int.injEq, D.str.injEq, D.bl.injEq, D.ptr.injEq, D.lst.injEq, D.tup.injEq, D.scr.injEq, D.xc.injEq, D.kr.injEq, D.ty.injEq, MO.lst.injEq, MO.ins.injEq, MO.dK.injEq, V.int.injEq, V.str.injEq, V.bl.injEq, List.cons.injEq, List.set_cons_zero, List.set_cons_succ, and_true, true_and, or_false, false_or, or_true, true_or, and_false, false_and, exists_false, exists_eq_left, exists_eq_left', exists_eq_right, exists_eq_right', exists_eq, exists_eq', exists_and_left, exists_and_right, exists_const, reduceCtorEq, decide_eq_true_eq, if_true, if_false, List.length_cons, List.length_nil, List.append_nil, List.nil_append, List.cons_append, v_scalI, v_scalS, v_scalB, v_scalN, v_decI, v_decS, v_decB, v_lsL, v_lsP, v_lsI, v_lsS, v_lsB, v_lsT, v_lsN, v_sqT, v_sqL, v_sqP, v_sqI, v_sqS, v_sqB, v_sqN, v_vI, v_vS, v_vB, v_vN, v_vT, v_vL, v_vP, v_sign, v_map, v_at0, v_at1, v_at2, v_at3, v_at4, v_at5, v_ofs, v_eqS, v_eqI, v_dkP, v_bdS, v_bdI, v_bdB, v_bdN, v_bdT, v_bdL, v_bdP, v_bdsN, v_bdsC, v_lastD, v_lastS, v_kyS, v_kyI, v_tt, v_ff, String.reduceEq, List.foldl_cons, List.foldl_nil, List.any_cons, List.any_nil, List.find?_cons, List.find?_nil, Sum.inr.injEq, Sum.inl.injEq, decide_true, decide_false, Bool.or_false, Bool.or_true, Bool.true_or, Bool.false_or, List.append_cancel_left_eq, Bool.false_eq_true, List.map_cons, List.map_nil, List.mapM_cons, List.mapM_nil, Option.pure_def, Option.bind_eq_bind, Option.bind_some, Option.bind_none, Nat.lt_irrefl, Option.map_some, Option.map_none, and_assoc, Nat.zero_add, Nat.reduceAdd, Nat.reduceLeDiff, Nat.le_refl, sizeLine_eq, and_self, forall_const, Bool.not_eq_true', Bool.not_true, Bool.not_false, decide_eq_false_iff_not, ite_not, F_ltoks]
      refine ⟨f, rfl, 0, rfl, by omega, by omega, ?_⟩
      refine u_law_7 T d4.1 (d4.wf' hw) hL hN hf (by omega) fun p2 p8 p9 p10 p11 p12 B' xs d5 => ?_
      exact q _ _ _ _ _ _ _ _ _ _ _ B' xs (d4.trans d5)
    rcases (show u = 0 ∨ u = 1 ∨ u = 2 ∨ u = 3 by omega) with rfl | rfl | rfl | rfl
    · exact ⟨_, rfl, _, v_at0 _ _, gs 1 (by decide) (by decide)⟩
    · exact ⟨_, rfl, _, v_at1 _ _ _, gs 3 (by decide) (by decide)⟩
    · exact ⟨_, rfl, _, v_at2 _ _ _ _, gs 8 (by decide) (by decide)⟩
    · exact ⟨_, rfl, _, v_at3 _ _ _ _ _, gs 20 (by decide) (by decide)⟩
  rcases (show v = 0 ∨ v = 1 by omega) with rfl | rfl
  · exact ⟨_, rfl, _, v_at0 _ _, go [] ⟨by decide, fun n hn => by cases hn⟩⟩
  · exact ⟨_, rfl, _, v_at1 _ _ _, go ["x", "evens"] ⟨by decide, by decide⟩⟩
theorem fo_law (T : Txt P w K mg ad) : FnOk P w K mg base (L2.CX P w) 193 ad.f_law ad.fd_law p_law (spD K 1 F_law) := by
  refine fn_d T.F_law sc_law (y_law T) fun ds M Qd Xd hl h hw hb => ?_
  obtain ⟨ns, rfl, q⟩ := h
  unfold w_law w_law_1
  simp only [startD, List.map_cons, List.map_nil, List.length_cons, List.length_nil, Nat.reduceAdd, Nat.reduceSub, List.replicate_succ, List.replicate_zero, List.cons_append, List.nil_append]
  simp only [dSeq, dIf, dAsg, dgName, dVar, dC, dOp, dNil, dCons, dTup, dTest, dAnd, dOr, dNot, dIfE, dAndV, dOrV, dNotV, dNext, dRet, dRetN, dDrop, dCall, dCallS, wLen, wI, wAdd, wAddI, wAddS, wAddL, wSub, wMod, wDiv, wPow, wLt, wLe, wGt, wGe, wMulB, wMulS, wEqF, wNeF, wIsN, wNotN, wInS, wNotInS, wIx, dNeg, dAug, dAppend, dLst, dLstM, dLstB, dSl, dPart, dNo, wCut, dBreak, dCont, dRaise, dMeth, dFld, wFld, dSetF, dAugF, dgTupF, dgTup, dgCons, dgNil, dgSet, dThen, dSo, dSoE, wIntC, dChain, dMake, wListC, wListM, dDisp, dPsCons, dPsNil, keysOf, DL.putAll, putD, valD, dUpC, inV, wDGet, wDIn, dDPut, dGet2, dPopAt, dJoin, wInL, dIsX, List.getElem?_cons_zero, List.getElem?_cons_succ, List.getElem?_nil, Option.some.injEq, D.int.injEq, D.str.injEq, D.bl.injEq, D.ptr.injEq, D.lst.injEq, D.tup.injEq, D.scr.injEq, D.xc.injEq, D.kr.injEq, D.ty.injEq, MO.lst.injEq, MO.ins.injEq, MO.dK.injEq, V.int.injEq, V.str.injEq, V.bl.injEq, List.cons.injEq, List.set_cons_zero, List.set_cons_succ, and_true, true_and, or_false, false_or, or_true, true_or, and_false, false_and, exists_false, exists_eq_left, exists_eq_left', exists_eq_right, exists_eq_right', exists_eq, exists_eq', exists_and_left, exists_and_right, exists_const, reduceCtorEq, decide_eq_true_eq, if_true, if_false, List.length_cons, List.length_nil, List.append_nil, List.nil_append, List.cons_append, v_scalI, v_scalS, v_scalB, v_scalN, v_decI, v_decS, v_decB, v_lsL, v_lsP, v_lsI, v_lsS, v_lsB, v_lsT, v_lsN, v_sqT, v_sqL, v_sqP, v_sqI, v_sqS, v_sqB, v_sqN, v_vI, v_vS, v_vB, v_vN, v_vT, v_vL, v_vP, v_sign, v_map, v_at0, v_at1, v_at2, v_at3, v_at4, v_at5, v_ofs, v_eqS, v_eqI, v_dkP, v_bdS, v_bdI, v_bdB, v_bdN, v_bdT, v_bdL, v_bdP, v_bdsN, v_bdsC, v_lastD, v_lastS, v_kyS, v_kyI, v_tt, v_ff, String.reduceEq, List.foldl_cons, List.foldl_nil, List.any_cons, List.any_nil, List.find?_cons, List.find?_nil, Sum.inr.injEq, Sum.inl.injEq, decide_true, decide_false, Bool.or_false, Bool.or_true, Bool.true_or, Bool.false_or, List.append_cancel_left_eq, Bool.false_eq_true, List.map_cons, List.map_nil, List.mapM_cons, List.mapM_nil, Option.pure_def, Option.bind_eq_bind, Option.bind_some, Option.bind_none, Nat.lt_irrefl, Option.map_some, Option.map_none, and_assoc, Nat.zero_add, Nat.reduceAdd, Nat.reduceLeDiff, Nat.le_refl, sizeLine_eq, and_self, forall_const, Bool.not_eq_true', Bool.not_true, Bool.not_false, decide_eq_false_iff_not, ite_not, F_draws]
  unfold w_law_2 dFor diRng1
  simp only [dSeq, dIf, dAsg, dgName, dVar, dC, dOp, dNil, dCons, dTup, dTest, dAnd, dOr, dNot, dIfE, dAndV, dOrV, dNotV, dNext, dRet, dRetN, dDrop, dCall, dCallS, wLen, wI, wAdd, wAddI, wAddS, wAddL, wSub, wMod, wDiv, wPow, wLt, wLe, wGt, wGe, wMulB, wMulS, wEqF, wNeF, wIsN, wNotN, wInS, wNotInS, wIx, dNeg, dAug, dAppend, dLst, dLstM, dLstB, dSl, dPart, dNo, wCut, dBreak, dCont, dRaise, dMeth, dFld, wFld, dSetF, dAugF, dgTupF, dgTup, dgCons, dgNil, dgSet, dThen, dSo, dSoE, wIntC, dChain, dMake, wListC, wListM, dDisp, dPsCons, dPsNil, keysOf, DL.putAll, putD, valD, dUpC, inV, wDGet, wDIn, dDPut, dGet2, dPopAt, dJoin, wInL, dIsX, List.getElem?_cons_zero, List.getElem?_cons_succ, List.getElem?_nil, Option.some.injEq, D.int.injEq, D.str.injEq, D.bl.injEq, D.ptr.injEq, D.lst.injEq, D.tup.injEq, D.scr.injEq, D.xc.injEq, D.kr.injEq, D.ty.injEq, MO.lst.injEq, MO.ins.injEq, MO.dK.injEq, V.int.injEq, V.str.injEq, V.bl.injEq, List.cons.injEq, List.set_cons_zero, List.set_cons_succ, and_true, true_and, or_false, false_or, or_true, true_or, and_false, false_and, exists_false, exists_eq_left, exists_eq_left', exists_eq_right, exists_eq_right', exists_eq, exists_eq', exists_and_left, exists_and_right, exists_const, reduceCtorEq, decide_eq_true_eq, if_true, if_false, List.length_cons, List.length_nil, List.append_nil, List.nil_append, List.cons_append, v_scalI, v_scalS, v_scalB, v_scalN, v_decI, v_decS, v_decB, v_lsL, v_lsP, v_lsI, v_lsS, v_lsB, v_lsT, v_lsN, v_sqT, v_sqL, v_sqP, v_sqI, v_sqS, v_sqB, v_sqN, v_vI, v_vS, v_vB, v_vN, v_vT, v_vL, v_vP, v_sign, v_map, v_at0, v_at1, v_at2, v_at3, v_at4, v_at5, v_ofs, v_eqS, v_eqI, v_dkP, v_bdS, v_bdI, v_bdB, v_bdN, v_bdT, v_bdL, v_bdP, v_bdsN, v_bdsC, v_lastD, v_lastS, v_kyS, v_kyI, v_tt, v_ff, String.reduceEq, List.foldl_cons, List.foldl_nil, List.any_cons, List.any_nil, List.find?_cons, List.find?_nil, Sum.inr.injEq, Sum.inl.injEq, decide_true, decide_false, Bool.or_false, Bool.or_true, Bool.true_or, Bool.false_or, List.append_cancel_left_eq, Bool.false_eq_true, List.map_cons, List.map_nil, List.mapM_cons, List.mapM_nil, Option.pure_def, Option.bind_eq_bind, Option.bind_some, Option.bind_none, Nat.lt_irrefl, Option.map_some, Option.map_none, and_assoc, Nat.zero_add, Nat.reduceAdd, Nat.reduceLeDiff, Nat.le_refl, sizeLine_eq, and_self, forall_const, Bool.not_eq_true', Bool.not_true, Bool.not_false, decide_eq_false_iff_not, ite_not]
  refine ⟨by decide, by decide, LI ns M, ⟨_, _, _, _, _, _, _, _, _, _, _, rfl, ns, 0, 0, 1, rfl, ⟨by omega, by omega, by omega⟩⟩, fun _ _ _ _ => trivial, ?_, ?_⟩
  · rintro i e ρ1 M1 he ⟨o2, o3, o4, o5, o6, o7, o8, o9, o10, o11, o12, rfl, xs, a, b, c, rfl, ok⟩
    obtain ⟨hi, rfl⟩ := rng_at he
    simp only [dSeq, dIf, dAsg, dgName, dVar, dC, dOp, dNil, dCons, dTup, dTest, dAnd, dOr, dNot, dIfE, dAndV, dOrV, dNotV, dNext, dRet, dRetN, dDrop, dCall, dCallS, wLen, wI, wAdd, wAddI, wAddS, wAddL, wSub, wMod, wDiv, wPow, wLt, wLe, wGt, wGe, wMulB, wMulS, wEqF, wNeF, wIsN, wNotN, wInS, wNotInS, wIx, dNeg, dAug, dAppend, dLst, dLstM, dLstB, dSl, dPart, dNo, wCut, dBreak, dCont, dRaise, dMeth, dFld, wFld, dSetF, dAugF, dgTupF, dgTup, dgCons, dgNil, dgSet, dThen, dSo, dSoE, wIntC, dChain, dMake, wListC, wListM, dDisp, dPsCons, dPsNil, keysOf, DL.putAll, putD, valD, dUpC, inV, wDGet, wDIn, dDPut, dGet2, dPopAt, dJoin, wInL, dIsX, List.getElem?_cons_zero, List.getElem?_cons_succ, List.getElem?_nil, Option.some.injEq, D.int.injEq, D.str.injEq, D.bl.injEq, D.ptr.injEq, D.lst.injEq, D.tup.injEq, D.scr.injEq, D.xc.injEq, D.kr.injEq, D.ty.injEq, MO.lst.injEq, MO.ins.injEq, MO.dK.injEq, V.int.injEq, V.str.injEq, V.bl.injEq, List.cons.injEq, List.set_cons_zero, List.set_cons_succ, and_true, true_and, or_false, false_or, or_true, true_or, and_false, false_and, exists_false, exists_eq_left, exists_eq_left', exists_eq_right, exists_eq_right', exists_eq, exists_eq', exists_and_left, exists_and_right, exists_const, reduceCtorEq, decide_eq_true_eq, if_true, if_false, List.length_cons, List.length_nil, List.append_nil, List.nil_append, List.cons_append, v_scalI, v_scalS, v_scalB, v_scalN, v_decI, v_decS, v_decB, v_lsL, v_lsP, v_lsI, v_lsS, v_lsB, v_lsT, v_lsN, v_sqT, v_sqL, v_sqP, v_sqI, v_sqS, v_sqB, v_sqN, v_vI, v_vS, v_vB, v_vN, v_vT, v_vL, v_vP, v_sign, v_map, v_at0, v_at1, v_at2, v_at3, v_at4, v_at5, v_ofs, v_eqS, v_eqI, v_dkP, v_bdS, v_bdI, v_bdB, v_bdN, v_bdT, v_bdL, v_bdP, v_bdsN, v_bdsC, v_lastD, v_lastS, v_kyS, v_kyI, v_tt, v_ff, String.reduceEq, List.foldl_cons, List.foldl_nil, List.any_cons, List.any_nil, List.find?_cons, List.find?_nil, Sum.inr.injEq, Sum.inl.injEq, decide_true, decide_false, Bool.or_false, Bool.or_true, Bool.true_or, Bool.false_or, List.append_cancel_left_eq, Bool.false_eq_true, List.map_cons, List.map_nil, List.mapM_cons, List.mapM_nil, Option.pure_def, Option.bind_eq_bind, Option.bind_some, Option.bind_none, Nat.lt_irrefl, Option.map_some, Option.map_none, and_assoc, Nat.zero_add, Nat.reduceAdd, Nat.reduceLeDiff, Nat.le_refl, sizeLine_eq, and_self, forall_const, Bool.not_eq_true', Bool.not_true, Bool.not_false, decide_eq_false_iff_not, ite_not]
    have hB : DrAt (M ++ [MO.lst (drD xs a b c)]) M.length := ⟨xs, a, b, c, app_last, ok⟩
    have wB : Wf (M ++ [MO.lst (drD xs a b c)]).length (M ++ [MO.lst (drD xs a b c)]) := (hw.mono (by simp)).app drD_bd
    refine u_law_3 T hB wB fun p2 p3 p4 p5 p6 p7 p8 p9 p10 p11 p12 B' zs hd w' ev => ?_
    obtain ⟨⟨ys, a2, b2, c2, e2, ok2⟩, xs', a', b', c', rfl⟩ := hd
    rw [v_lastS] at e2 ⊢
    rw [app_last] at e2
    rw [Option.some.inj e2]
    refine Up.cut (ρ0 := [some (.scr ns), some (.ptr M.length), none, none, none, none, none, none, none, none, none, none, none]) (by simp) ((hw.mono (by simp)).app drD_bd) rfl (fun i d h => ?_) ⟨none, none, none, none, none, none, none, none, none, none, none, rfl, _, _, _, _, rfl, ok2⟩
    match i, h with
    | 0, h => cases h; exact ⟨rfl, .scr _⟩
    | 1, h => cases h; exact ⟨rfl, .ptr (by simp)⟩
    | 2, h => cases h
    | 3, h => cases h
    | 4, h => cases h
    | 5, h => cases h
    | 6, h => cases h
    | 7, h => cases h
    | 8, h => cases h
    | 9, h => cases h
    | 10, h => cases h
    | 11, h => cases h
    | 12, h => cases h
  · rintro ρ1 M1 ⟨o2, o3, o4, o5, o6, o7, o8, o9, o10, o11, o12, rfl, xs, a, b, c, rfl, ok⟩
    unfold w_law_19
    simp only [dSeq, dIf, dAsg, dgName, dVar, dC, dOp, dNil, dCons, dTup, dTest, dAnd, dOr, dNot, dIfE, dAndV, dOrV, dNotV, dNext, dRet, dRetN, dDrop, dCall, dCallS, wLen, wI, wAdd, wAddI, wAddS, wAddL, wSub, wMod, wDiv, wPow, wLt, wLe, wGt, wGe, wMulB, wMulS, wEqF, wNeF, wIsN, wNotN, wInS, wNotInS, wIx, dNeg, dAug, dAppend, dLst, dLstM, dLstB, dSl, dPart, dNo, wCut, dBreak, dCont, dRaise, dMeth, dFld, wFld, dSetF, dAugF, dgTupF, dgTup, dgCons, dgNil, dgSet, dThen, dSo, dSoE, wIntC, dChain, dMake, wListC, wListM, dDisp, dPsCons, dPsNil, keysOf, DL.putAll, putD, valD, dUpC, inV, wDGet, wDIn, dDPut, dGet2, dPopAt, dJoin, wInL, dIsX, List.getElem?_cons_zero, List.getElem?_cons_succ, List.getElem?_nil, Option.some.injEq, D.int.injEq, D.str.injEq, D.bl.injEq, D.ptr.injEq, D.lst.injEq, D.tup.injEq, D.scr.injEq, D.xc.injEq, D.kr.injEq, D.ty.injEq, MO.lst.injEq, MO.ins.injEq, MO.dK.injEq, V.int.injEq, V.str.injEq, V.bl.injEq, List.cons.injEq, List.set_cons_zero, List.set_cons_succ, and_true, true_and, or_false, false_or, or_true, true_or, and_false, false_and, exists_false, exists_eq_left, exists_eq_left', exists_eq_right, exists_eq_right', exists_eq, exists_eq', exists_and_left, exists_and_right, exists_const, reduceCtorEq, decide_eq_true_eq, if_true, if_false, List.length_cons, List.length_nil, List.append_nil, List.nil_append, List.cons_append, v_scalI, v_scalS, v_scalB, v_scalN, v_decI, v_decS, v_decB, v_lsL, v_lsP, v_lsI, v_lsS, v_lsB, v_lsT, v_lsN, v_sqT, v_sqL, v_sqP, v_sqI, v_sqS, v_sqB, v_sqN, v_vI, v_vS, v_vB, v_vN, v_vT, v_vL, v_vP, v_sign, v_map, v_at0, v_at1, v_at2, v_at3, v_at4, v_at5, v_ofs, v_eqS, v_eqI, v_dkP, v_bdS, v_bdI, v_bdB, v_bdN, v_bdT, v_bdL, v_bdP, v_bdsN, v_bdsC, v_lastD, v_lastS, v_kyS, v_kyI, v_tt, v_ff, String.reduceEq, List.foldl_cons, List.foldl_nil, List.any_cons, List.any_nil, List.find?_cons, List.find?_nil, Sum.inr.injEq, Sum.inl.injEq, decide_true, decide_false, Bool.or_false, Bool.or_true, Bool.true_or, Bool.false_or, List.append_cancel_left_eq, Bool.false_eq_true, List.map_cons, List.map_nil, List.mapM_cons, List.mapM_nil, Option.pure_def, Option.bind_eq_bind, Option.bind_some, Option.bind_none, Nat.lt_irrefl, Option.map_some, Option.map_none, and_assoc, Nat.zero_add, Nat.reduceAdd, Nat.reduceLeDiff, Nat.le_refl, sizeLine_eq, and_self, forall_const, Bool.not_eq_true', Bool.not_true, Bool.not_false, decide_eq_false_iff_not, ite_not]
    exact fun w' d' => UpV.all (by simp) w' d' (q _)

end
end K87

namespace K87
open PySem PySem.Spec PyProof.Rows L2 DL
/-! ### what the written part says -/
theorem all_mk {P : Program} {w : World} {K : PySem.W.Frag} {h : Heap} {mg : Str → Option Value} {fa : Addr} (X : K.In h) (G : h.Ns mainGlobals mg) (hfa : mg "law" = some (.ref fa))
    {C_Formula f_tokens f_init f_next f_wrong f_begins f_ors f_ands f_rows f_deeper f_head f_atom f_name f_read f_draws f_draw f_same f_form f_letters f_ltoks f_gaps f_told f_spoilt f_law K_ATOMS kt0_ATOMS kt1_ATOMS kt2_ATOMS C_SetError f_SetError cda_SetError cc_SetError C_Misread f_Misread cda_Misread cc_Misread C_BlockWrong f_BlockWrong cda_BlockWrong cc_BlockWrong : Addr} {od_tokens an_tokens od_init an_init od_next an_next od_wrong an_wrong od_begins an_begins od_ors an_ors od_ands an_ands od_rows an_rows od_deeper an_deeper od_head an_head od_atom an_atom od_name an_name od_read an_read od_draws an_draws od_draw an_draw od_same an_same od_form an_form od_letters an_letters od_ltoks an_ltoks od_gaps an_gaps od_told an_told od_spoilt an_spoilt od_law an_law od_SetError an_SetError cdd_SetError cld_SetError od_Misread an_Misread cdd_Misread cld_Misread od_BlockWrong an_BlockWrong cdd_BlockWrong cld_BlockWrong : Option Addr}
    {sl_tokens sl_init sl_next sl_wrong sl_begins sl_ors sl_ands sl_rows sl_deeper sl_head sl_atom sl_name sl_read sl_draws sl_draw sl_same sl_form sl_letters sl_ltoks sl_gaps sl_told sl_spoilt sl_law sl_SetError ccs_SetError csl_SetError sl_Misread ccs_Misread csl_Misread sl_BlockWrong ccs_BlockWrong csl_BlockWrong : Array (Option Value)} {oc_tokens kV_tokens dc_tokens pm_tokens cd_tokens ct_tokens oc_init kV_init dc_init pm_init cd_init ct_init oc_next kV_next dc_next pm_next cd_next ct_next oc_wrong kV_wrong dc_wrong pm_wrong cd_wrong ct_wrong oc_begins kV_begins dc_begins pm_begins cd_begins ct_begins oc_ors kV_ors dc_ors pm_ors cd_ors ct_ors oc_ands kV_ands dc_ands pm_ands cd_ands ct_ands oc_rows kV_rows dc_rows pm_rows cd_rows ct_rows oc_deeper kV_deeper dc_deeper pm_deeper cd_deeper ct_deeper oc_head kV_head dc_head pm_head cd_head ct_head oc_atom kV_atom dc_atom pm_atom cd_atom ct_atom oc_name kV_name dc_name pm_name cd_name ct_name oc_read kV_read dc_read pm_read cd_read ct_read oc_draws kV_draws dc_draws pm_draws cd_draws ct_draws oc_draw kV_draw dc_draw pm_draw cd_draw ct_draw oc_same kV_same dc_same pm_same cd_same ct_same oc_form kV_form dc_form pm_form cd_form ct_form oc_letters kV_letters dc_letters pm_letters cd_letters ct_letters oc_ltoks kV_ltoks dc_ltoks pm_ltoks cd_ltoks ct_ltoks oc_gaps kV_gaps dc_gaps pm_gaps cd_gaps ct_gaps oc_told kV_told dc_told pm_told cd_told ct_told oc_spoilt kV_spoilt dc_spoilt pm_spoilt cd_spoilt ct_spoilt oc_law kV_law dc_law pm_law cd_law ct_law oc_SetError kV_SetError dc_SetError pm_SetError ct_SetError ccl_SetError cl_SetError oc_Misread kV_Misread dc_Misread pm_Misread ct_Misread ccl_Misread cl_Misread oc_BlockWrong kV_BlockWrong dc_BlockWrong pm_BlockWrong ct_BlockWrong ccl_BlockWrong cl_BlockWrong : Value}
    {tk_ALPHABET : Tok}
    {tk_BLANKS : Tok}
    {tk_DEEPEST : Tok}
    {tk_LONGEST_NAME : Tok}
    {es_ATOMS : Array DictEntry} {en_ATOMS : Nat}
    {kk0_ATOMS : Tok} {kd0_ATOMS : Option Addr} {km0_ATOMS : Nat} {ks0_ATOMS : Array (Option Value)}
    {kk1_ATOMS : Tok} {kd1_ATOMS : Option Addr} {km1_ATOMS : Nat} {ks1_ATOMS : Array (Option Value)}
    {kk2_ATOMS : Tok} {kd2_ATOMS : Option Addr} {km2_ATOMS : Nat} {ks2_ATOMS : Array (Option Value)}
    {vs_SetError : Array Value} {fl_SetError : Str} {tf_SetError : Tok} {cd_SetError : ClassData}
    {dT_SetError : Addr} {dt0_SetError : Value} {dtn_SetError : Nat} {dtc_SetError : Value} {dtd_SetError : Option Addr} {dtl_SetError : Array (Option Value)}
    {vs_Misread : Array Value} {fl_Misread : Str} {tf_Misread : Tok} {cd_Misread : ClassData}
    {vs_BlockWrong : Array Value} {fl_BlockWrong : Str} {tf_BlockWrong : Tok} {cd_BlockWrong : ClassData}
    {xn_Misread xq_Misread : Str} {xN_Misread : Addr} {xb_Misread xm_Misread xs_Misread : List Value} {xl_Misread : List Str} {xa_Misread : Bool} {xc_Misread : Option Bool} {xd_Misread : Option Addr} {x0_Misread x1_Misread x2_Misread x3_Misread x5_Misread : Option Value}
    {xn_BlockWrong xq_BlockWrong : Str} {xN_BlockWrong : Addr} {xb_BlockWrong xm_BlockWrong xs_BlockWrong : List Value} {xl_BlockWrong : List Str} {xa_BlockWrong : Bool} {xc_BlockWrong : Option Bool} {xd_BlockWrong : Option Addr} {x0_BlockWrong x1_BlockWrong x2_BlockWrong x3_BlockWrong x5_BlockWrong : Option Value}
    (aC_Formula : PySem.W.nsIn K mainGlobals "Formula" = some (some (.ref C_Formula)))
    (a_tokens : PySem.W.nsIn K mainGlobals "tokens_from" = some (some (.ref f_tokens)))
    (l_tokens : K.lookup f_tokens = some ⟨oc_tokens, od_tokens, .func (PySem.W.fnOf "tokens_from" "tokens_from" (defArgs s_tokens) (defBody s_tokens) (defScope s_tokens) .none kV_tokens dc_tokens pm_tokens an_tokens cd_tokens ct_tokens), sl_tokens⟩)
    (c_tokens : PySem.W.codeIn K cd_tokens "tokens_from" = true)
    (k_tokens : PySem.W.keepIn K (.ref f_tokens) = true)
    (a_init : PySem.W.findIn K (.ref C_Formula) "__init__" = some (some (.ref f_init)))
    (i_init : PySem.W.isFn K (.ref f_init) = true)
    (l_init : K.lookup f_init = some ⟨oc_init, od_init, .func (PySem.W.fnOf "__init__" "Formula.__init__" (defArgs s_init) (defBody s_init) (defScope s_init) .none kV_init dc_init pm_init an_init cd_init ct_init), sl_init⟩)
    (c_init : PySem.W.codeIn K cd_init "Formula.__init__" = true)
    (k_init : PySem.W.keepIn K (.ref f_init) = true)
    (a_next : PySem.W.findIn K (.ref C_Formula) "next_word" = some (some (.ref f_next)))
    (i_next : PySem.W.isFn K (.ref f_next) = true)
    (l_next : K.lookup f_next = some ⟨oc_next, od_next, .func (PySem.W.fnOf "next_word" "Formula.next_word" (defArgs s_next) (defBody s_next) (defScope s_next) .none kV_next dc_next pm_next an_next cd_next ct_next), sl_next⟩)
    (c_next : PySem.W.codeIn K cd_next "Formula.next_word" = true)
    (k_next : PySem.W.keepIn K (.ref f_next) = true)
    (a_wrong : PySem.W.findIn K (.ref C_Formula) "wrong" = some (some (.ref f_wrong)))
    (i_wrong : PySem.W.isFn K (.ref f_wrong) = true)
    (l_wrong : K.lookup f_wrong = some ⟨oc_wrong, od_wrong, .func (PySem.W.fnOf "wrong" "Formula.wrong" (defArgs s_wrong) (defBody s_wrong) (defScope s_wrong) .none kV_wrong dc_wrong pm_wrong an_wrong cd_wrong ct_wrong), sl_wrong⟩)
    (c_wrong : PySem.W.codeIn K cd_wrong "Formula.wrong" = true)
    (k_wrong : PySem.W.keepIn K (.ref f_wrong) = true)
    (a_begins : PySem.W.findIn K (.ref C_Formula) "begins" = some (some (.ref f_begins)))
    (i_begins : PySem.W.isFn K (.ref f_begins) = true)
    (l_begins : K.lookup f_begins = some ⟨oc_begins, od_begins, .func (PySem.W.fnOf "begins" "Formula.begins" (defArgs s_begins) (defBody s_begins) (defScope s_begins) .none kV_begins dc_begins pm_begins an_begins cd_begins ct_begins), sl_begins⟩)
    (c_begins : PySem.W.codeIn K cd_begins "Formula.begins" = true)
    (k_begins : PySem.W.keepIn K (.ref f_begins) = true)
    (a_ors : PySem.W.findIn K (.ref C_Formula) "ors" = some (some (.ref f_ors)))
    (i_ors : PySem.W.isFn K (.ref f_ors) = true)
    (l_ors : K.lookup f_ors = some ⟨oc_ors, od_ors, .func (PySem.W.fnOf "ors" "Formula.ors" (defArgs s_ors) (defBody s_ors) (defScope s_ors) .none kV_ors dc_ors pm_ors an_ors cd_ors ct_ors), sl_ors⟩)
    (c_ors : PySem.W.codeIn K cd_ors "Formula.ors" = true)
    (k_ors : PySem.W.keepIn K (.ref f_ors) = true)
    (a_ands : PySem.W.findIn K (.ref C_Formula) "ands" = some (some (.ref f_ands)))
    (i_ands : PySem.W.isFn K (.ref f_ands) = true)
    (l_ands : K.lookup f_ands = some ⟨oc_ands, od_ands, .func (PySem.W.fnOf "ands" "Formula.ands" (defArgs s_ands) (defBody s_ands) (defScope s_ands) .none kV_ands dc_ands pm_ands an_ands cd_ands ct_ands), sl_ands⟩)
    (c_ands : PySem.W.codeIn K cd_ands "Formula.ands" = true)
    (k_ands : PySem.W.keepIn K (.ref f_ands) = true)
    (a_rows : PySem.W.findIn K (.ref C_Formula) "rows" = some (some (.ref f_rows)))
    (i_rows : PySem.W.isFn K (.ref f_rows) = true)
    (l_rows : K.lookup f_rows = some ⟨oc_rows, od_rows, .func (PySem.W.fnOf "rows" "Formula.rows" (defArgs s_rows) (defBody s_rows) (defScope s_rows) .none kV_rows dc_rows pm_rows an_rows cd_rows ct_rows), sl_rows⟩)
    (c_rows : PySem.W.codeIn K cd_rows "Formula.rows" = true)
    (k_rows : PySem.W.keepIn K (.ref f_rows) = true)
    (a_deeper : PySem.W.findIn K (.ref C_Formula) "deeper" = some (some (.ref f_deeper)))
    (i_deeper : PySem.W.isFn K (.ref f_deeper) = true)
    (l_deeper : K.lookup f_deeper = some ⟨oc_deeper, od_deeper, .func (PySem.W.fnOf "deeper" "Formula.deeper" (defArgs s_deeper) (defBody s_deeper) (defScope s_deeper) .none kV_deeper dc_deeper pm_deeper an_deeper cd_deeper ct_deeper), sl_deeper⟩)
    (c_deeper : PySem.W.codeIn K cd_deeper "Formula.deeper" = true)
    (k_deeper : PySem.W.keepIn K (.ref f_deeper) = true)
    (a_head : PySem.W.findIn K (.ref C_Formula) "head" = some (some (.ref f_head)))
    (i_head : PySem.W.isFn K (.ref f_head) = true)
    (l_head : K.lookup f_head = some ⟨oc_head, od_head, .func (PySem.W.fnOf "head" "Formula.head" (defArgs s_head) (defBody s_head) (defScope s_head) .none kV_head dc_head pm_head an_head cd_head ct_head), sl_head⟩)
    (c_head : PySem.W.codeIn K cd_head "Formula.head" = true)
    (k_head : PySem.W.keepIn K (.ref f_head) = true)
    (a_atom : PySem.W.findIn K (.ref C_Formula) "atom" = some (some (.ref f_atom)))
    (i_atom : PySem.W.isFn K (.ref f_atom) = true)
    (l_atom : K.lookup f_atom = some ⟨oc_atom, od_atom, .func (PySem.W.fnOf "atom" "Formula.atom" (defArgs s_atom) (defBody s_atom) (defScope s_atom) .none kV_atom dc_atom pm_atom an_atom cd_atom ct_atom), sl_atom⟩)
    (c_atom : PySem.W.codeIn K cd_atom "Formula.atom" = true)
    (k_atom : PySem.W.keepIn K (.ref f_atom) = true)
    (a_name : PySem.W.findIn K (.ref C_Formula) "name" = some (some (.ref f_name)))
    (i_name : PySem.W.isFn K (.ref f_name) = true)
    (l_name : K.lookup f_name = some ⟨oc_name, od_name, .func (PySem.W.fnOf "name" "Formula.name" (defArgs s_name) (defBody s_name) (defScope s_name) .none kV_name dc_name pm_name an_name cd_name ct_name), sl_name⟩)
    (c_name : PySem.W.codeIn K cd_name "Formula.name" = true)
    (k_name : PySem.W.keepIn K (.ref f_name) = true)
    (a_read : PySem.W.nsIn K mainGlobals "read_form" = some (some (.ref f_read)))
    (l_read : K.lookup f_read = some ⟨oc_read, od_read, .func (PySem.W.fnOf "read_form" "read_form" (defArgs s_read) (defBody s_read) (defScope s_read) .none kV_read dc_read pm_read an_read cd_read ct_read), sl_read⟩)
    (c_read : PySem.W.codeIn K cd_read "read_form" = true)
    (k_read : PySem.W.keepIn K (.ref f_read) = true)
    (a_draws : PySem.W.nsIn K mainGlobals "_law_draws" = some (some (.ref f_draws)))
    (l_draws : K.lookup f_draws = some ⟨oc_draws, od_draws, .func (PySem.W.fnOf "_law_draws" "_law_draws" (defArgs s_draws) (defBody s_draws) (defScope s_draws) .none kV_draws dc_draws pm_draws an_draws cd_draws ct_draws), sl_draws⟩)
    (c_draws : PySem.W.codeIn K cd_draws "_law_draws" = true)
    (k_draws : PySem.W.keepIn K (.ref f_draws) = true)
    (a_draw : PySem.W.nsIn K mainGlobals "_law_draw" = some (some (.ref f_draw)))
    (l_draw : K.lookup f_draw = some ⟨oc_draw, od_draw, .func (PySem.W.fnOf "_law_draw" "_law_draw" (defArgs s_draw) (defBody s_draw) (defScope s_draw) .none kV_draw dc_draw pm_draw an_draw cd_draw ct_draw), sl_draw⟩)
    (c_draw : PySem.W.codeIn K cd_draw "_law_draw" = true)
    (k_draw : PySem.W.keepIn K (.ref f_draw) = true)
    (a_same : PySem.W.nsIn K mainGlobals "_law_same" = some (some (.ref f_same)))
    (l_same : K.lookup f_same = some ⟨oc_same, od_same, .func (PySem.W.fnOf "_law_same" "_law_same" (defArgs s_same) (defBody s_same) (defScope s_same) .none kV_same dc_same pm_same an_same cd_same ct_same), sl_same⟩)
    (c_same : PySem.W.codeIn K cd_same "_law_same" = true)
    (k_same : PySem.W.keepIn K (.ref f_same) = true)
    (a_form : PySem.W.nsIn K mainGlobals "_law_form" = some (some (.ref f_form)))
    (l_form : K.lookup f_form = some ⟨oc_form, od_form, .func (PySem.W.fnOf "_law_form" "_law_form" (defArgs s_form) (defBody s_form) (defScope s_form) .none kV_form dc_form pm_form an_form cd_form ct_form), sl_form⟩)
    (c_form : PySem.W.codeIn K cd_form "_law_form" = true)
    (k_form : PySem.W.keepIn K (.ref f_form) = true)
    (a_letters : PySem.W.nsIn K mainGlobals "_law_letters" = some (some (.ref f_letters)))
    (l_letters : K.lookup f_letters = some ⟨oc_letters, od_letters, .func (PySem.W.fnOf "_law_letters" "_law_letters" (defArgs s_letters) (defBody s_letters) (defScope s_letters) .none kV_letters dc_letters pm_letters an_letters cd_letters ct_letters), sl_letters⟩)
    (c_letters : PySem.W.codeIn K cd_letters "_law_letters" = true)
    (k_letters : PySem.W.keepIn K (.ref f_letters) = true)
    (a_ltoks : PySem.W.nsIn K mainGlobals "_law_tokens" = some (some (.ref f_ltoks)))
    (l_ltoks : K.lookup f_ltoks = some ⟨oc_ltoks, od_ltoks, .func (PySem.W.fnOf "_law_tokens" "_law_tokens" (defArgs s_ltoks) (defBody s_ltoks) (defScope s_ltoks) .none kV_ltoks dc_ltoks pm_ltoks an_ltoks cd_ltoks ct_ltoks), sl_ltoks⟩)
    (c_ltoks : PySem.W.codeIn K cd_ltoks "_law_tokens" = true)
    (k_ltoks : PySem.W.keepIn K (.ref f_ltoks) = true)
    (a_gaps : PySem.W.nsIn K mainGlobals "_law_gaps" = some (some (.ref f_gaps)))
    (l_gaps : K.lookup f_gaps = some ⟨oc_gaps, od_gaps, .func (PySem.W.fnOf "_law_gaps" "_law_gaps" (defArgs s_gaps) (defBody s_gaps) (defScope s_gaps) .none kV_gaps dc_gaps pm_gaps an_gaps cd_gaps ct_gaps), sl_gaps⟩)
    (c_gaps : PySem.W.codeIn K cd_gaps "_law_gaps" = true)
    (k_gaps : PySem.W.keepIn K (.ref f_gaps) = true)
    (a_told : PySem.W.nsIn K mainGlobals "_law_told" = some (some (.ref f_told)))
    (l_told : K.lookup f_told = some ⟨oc_told, od_told, .func (PySem.W.fnOf "_law_told" "_law_told" (defArgs s_told) (defBody s_told) (defScope s_told) .none kV_told dc_told pm_told an_told cd_told ct_told), sl_told⟩)
    (c_told : PySem.W.codeIn K cd_told "_law_told" = true)
    (k_told : PySem.W.keepIn K (.ref f_told) = true)
    (a_spoilt : PySem.W.nsIn K mainGlobals "_law_spoilt" = some (some (.ref f_spoilt)))
    (l_spoilt : K.lookup f_spoilt = some ⟨oc_spoilt, od_spoilt, .func (PySem.W.fnOf "_law_spoilt" "_law_spoilt" (defArgs s_spoilt) (defBody s_spoilt) (defScope s_spoilt) .none kV_spoilt dc_spoilt pm_spoilt an_spoilt cd_spoilt ct_spoilt), sl_spoilt⟩)
    (c_spoilt : PySem.W.codeIn K cd_spoilt "_law_spoilt" = true)
    (k_spoilt : PySem.W.keepIn K (.ref f_spoilt) = true)
    (a_law : PySem.W.nsIn K mainGlobals "law" = some (some (.ref f_law)))
    (l_law : K.lookup f_law = some ⟨oc_law, od_law, .func (PySem.W.fnOf "law" "law" (defArgs s_law) (defBody s_law) (defScope s_law) .none kV_law dc_law pm_law an_law cd_law ct_law), sl_law⟩)
    (c_law : PySem.W.codeIn K cd_law "law" = true)
    (k_law : PySem.W.keepIn K (.ref f_law) = true)
    (pg_Formula : PySem.W.plainGet K C_Formula Str.empty = true)
    (hd_Formula : PySem.W.hasDictIn K C_Formula = true)
    (po_Formula : PySem.W.plainOver K C_Formula = true)
    (sa_Formula : PySem.W.findIn K (.ref C_Formula) "__setattr__" = some (some (.builtin "object.__setattr__")))
    (mk_Formula : PySem.W.makesIn K C_Formula = true)
    (kc_Formula : PySem.W.keepIn K (.ref C_Formula) = true)
    (na_Formula_letters : PySem.W.findIn K (.ref C_Formula) "letters" = some none)
    (na_Formula_tokens : PySem.W.findIn K (.ref C_Formula) "tokens" = some none)
    (na_Formula_now : PySem.W.findIn K (.ref C_Formula) "now" = some none)
    (na_Formula_deep : PySem.W.findIn K (.ref C_Formula) "deep" = some none)
    (z_len : PySem.W.nsIn K mainGlobals "len" = some none)
    (z_list : PySem.W.nsIn K mainGlobals "list" = some none)
    (z_all : PySem.W.nsIn K mainGlobals "all" = some none)
    (z_isinstance : PySem.W.nsIn K mainGlobals "isinstance" = some none)
    (z_int : PySem.W.nsIn K mainGlobals "int" = some none)
    (z_range : PySem.W.nsIn K mainGlobals "range" = some none)
    (z_bool : PySem.W.nsIn K mainGlobals "bool" = some none)
    (z_str : PySem.W.nsIn K mainGlobals "str" = some none)
    (z_dict : PySem.W.nsIn K mainGlobals "dict" = some none)
    (z_tuple : PySem.W.nsIn K mainGlobals "tuple" = some none)
    (g_ALPHABET : PySem.W.nsIn K mainGlobals "ALPHABET" = some (some (.str "abcdefghijklmnopqrstuvwxyz" tk_ALPHABET)))
    (g_BLANKS : PySem.W.nsIn K mainGlobals "BLANKS" = some (some (.str " \n" tk_BLANKS)))
    (g_DEEPEST : PySem.W.nsIn K mainGlobals "DEEPEST" = some (some (.int 60 tk_DEEPEST)))
    (g_LONGEST_NAME : PySem.W.nsIn K mainGlobals "LONGEST_NAME" = some (some (.int 12 tk_LONGEST_NAME)))
    (gK_ATOMS : PySem.W.nsIn K mainGlobals "ATOMS" = some (some (.ref K_ATOMS)))
    (lK_ATOMS : K.lookup K_ATOMS = some ⟨.type "dict", none, .dict es_ATOMS en_ATOMS, #[]⟩)
    (kl_ATOMS : PySem.W.KeysLit w.params es_ATOMS.toList)
    (lw_ATOMS : (K_ATOMS == sysModules) = false)
    (ke_ATOMS : (es_ATOMS.toList.all fun e => (["0", "1", "."] : List Str).any fun k => e.key.isStr k) = true)
    (kv0_ATOMS : PySem.W.nsIn K K_ATOMS "0" = some (some (.ref kt0_ATOMS)))
    (lt0_ATOMS : K.lookup kt0_ATOMS = some ⟨.type "tuple", kd0_ATOMS, .seq #[.str "none" kk0_ATOMS] km0_ATOMS, ks0_ATOMS⟩)
    (kv1_ATOMS : PySem.W.nsIn K K_ATOMS "1" = some (some (.ref kt1_ATOMS)))
    (lt1_ATOMS : K.lookup kt1_ATOMS = some ⟨.type "tuple", kd1_ATOMS, .seq #[.str "empty" kk1_ATOMS] km1_ATOMS, ks1_ATOMS⟩)
    (kv2_ATOMS : PySem.W.nsIn K K_ATOMS "." = some (some (.ref kt2_ATOMS)))
    (lt2_ATOMS : K.lookup kt2_ATOMS = some ⟨.type "tuple", kd2_ATOMS, .seq #[.str "any" kk2_ATOMS] km2_ATOMS, ks2_ATOMS⟩)
    (z_super : PySem.W.nsIn K mainGlobals "super" = some none)
    (tp : PySem.W.nsIn K PySem.cStatics "thirdparty.any" = some none)
    (htop : (P.main.scope.names.lookup ("super" : Str)).isSome = false)
    (aC_SetError : PySem.W.nsIn K mainGlobals "SetError" = some (some (.ref C_SetError)))
    (a_SetError : PySem.W.findIn K (.ref C_SetError) "__init__" = some (some (.ref f_SetError)))
    (l_SetError : K.lookup f_SetError = some ⟨oc_SetError, od_SetError, .func (PySem.W.ksFn "__init__" "SetError.__init__" (defArgs s_SetError) (defBody s_SetError) (defScope s_SetError) (.ref dT_SetError) kV_SetError dc_SetError pm_SetError an_SetError (.ref cda_SetError) ct_SetError cc_SetError), sl_SetError⟩)
    (c_SetError : PySem.W.codeIn K (.ref cda_SetError) "SetError.__init__" = true)
    (lT_SetError : K.lookup dT_SetError = some ⟨dtc_SetError, dtd_SetError, .seq [dt0_SetError].toArray dtn_SetError, dtl_SetError⟩)
    (cl1_SetError : K.lookup cda_SetError = some ⟨ccl_SetError, cdd_SetError, .fields vs_SetError, ccs_SetError⟩)
    (cv_SetError : vs_SetError[2]? = some (.str fl_SetError tf_SetError))
    (cf_SetError : ((P.main.file : Str) == fl_SetError) = true)
    (ce_SetError : K.lookup cc_SetError = some ⟨cl_SetError, cld_SetError, .cell (some (.ref C_SetError)), csl_SetError⟩)
    (cs_SetError : PySem.W.clsIn K C_SetError = some cd_SetError)
    (t_SetError : PySem.W.typeIn K (.ref f_SetError) = some (.type "function"))
    (aC_Misread : PySem.W.nsIn K mainGlobals "Misread" = some (some (.ref C_Misread)))
    (a_Misread : PySem.W.findIn K (.ref C_Misread) "__init__" = some (some (.ref f_Misread)))
    (l_Misread : K.lookup f_Misread = some ⟨oc_Misread, od_Misread, .func (PySem.W.ksFn "__init__" "Misread.__init__" (defArgs s_Misread) (defBody s_Misread) (defScope s_Misread) .none kV_Misread dc_Misread pm_Misread an_Misread (.ref cda_Misread) ct_Misread cc_Misread), sl_Misread⟩)
    (c_Misread : PySem.W.codeIn K (.ref cda_Misread) "Misread.__init__" = true)
    (cl1_Misread : K.lookup cda_Misread = some ⟨ccl_Misread, cdd_Misread, .fields vs_Misread, ccs_Misread⟩)
    (cv_Misread : vs_Misread[2]? = some (.str fl_Misread tf_Misread))
    (cf_Misread : ((P.main.file : Str) == fl_Misread) = true)
    (ce_Misread : K.lookup cc_Misread = some ⟨cl_Misread, cld_Misread, .cell (some (.ref C_Misread)), csl_Misread⟩)
    (cs_Misread : PySem.W.clsIn K C_Misread = some cd_Misread)
    (t_Misread : PySem.W.typeIn K (.ref f_Misread) = some (.type "function"))
    (aC_BlockWrong : PySem.W.nsIn K mainGlobals "BlockWrong" = some (some (.ref C_BlockWrong)))
    (a_BlockWrong : PySem.W.findIn K (.ref C_BlockWrong) "__init__" = some (some (.ref f_BlockWrong)))
    (l_BlockWrong : K.lookup f_BlockWrong = some ⟨oc_BlockWrong, od_BlockWrong, .func (PySem.W.ksFn "__init__" "BlockWrong.__init__" (defArgs s_BlockWrong) (defBody s_BlockWrong) (defScope s_BlockWrong) .none kV_BlockWrong dc_BlockWrong pm_BlockWrong an_BlockWrong (.ref cda_BlockWrong) ct_BlockWrong cc_BlockWrong), sl_BlockWrong⟩)
    (c_BlockWrong : PySem.W.codeIn K (.ref cda_BlockWrong) "BlockWrong.__init__" = true)
    (cl1_BlockWrong : K.lookup cda_BlockWrong = some ⟨ccl_BlockWrong, cdd_BlockWrong, .fields vs_BlockWrong, ccs_BlockWrong⟩)
    (cv_BlockWrong : vs_BlockWrong[2]? = some (.str fl_BlockWrong tf_BlockWrong))
    (cf_BlockWrong : ((P.main.file : Str) == fl_BlockWrong) = true)
    (ce_BlockWrong : K.lookup cc_BlockWrong = some ⟨cl_BlockWrong, cld_BlockWrong, .cell (some (.ref C_BlockWrong)), csl_BlockWrong⟩)
    (cs_BlockWrong : PySem.W.clsIn K C_BlockWrong = some cd_BlockWrong)
    (t_BlockWrong : PySem.W.typeIn K (.ref f_BlockWrong) = some (.type "function"))
    (fn_b : PySem.W.fnIn K f_SetError = true)
    (xL_Misread : K.lookup C_Misread = some (excClassObj xn_Misread xq_Misread C_Misread xN_Misread xb_Misread xm_Misread true xl_Misread xs_Misread xa_Misread xc_Misread xd_Misread x0_Misread x1_Misread x2_Misread x3_Misread x5_Misread "ValueError.__new__"))
    (xR_Misread : PySem.HandSPX.refsVE xm_Misread = true)
    (xsa_Misread : PySem.W.findIn K (.ref C_Misread) "__setattr__" = some (some (.builtin "object.__setattr__")))
    (xe_Misread : PySem.W.subIn K (.ref C_Misread) (.type "BaseException") = some true)
    (xt_Misread : PySem.W.typeIn K (.ref C_Misread) = some (.type "type"))
    (xk_Misread : PySem.W.keepIn K (.ref C_Misread) = true)
    (m1_Misread : PySem.W.mroIn K C_Misread (.ref C_Misread) = some true)
    (m2_Misread : PySem.W.mroIn K C_Misread (.ref C_SetError) = some true)
    (u1_Misread : PySem.W.ks_superIn K C_Misread C_Misread "__init__" = some (some (.ref f_SetError)))
    (u2_Misread : PySem.W.ks_superIn K C_Misread C_SetError "__init__" = some (some (.builtin "ValueError.__init__")))
    (ve_Misread : PySem.W.subIn K (.ref C_Misread) (.type "ValueError") = some true)
    (nA_Misread : PySem.W.findIn K (.ref C_Misread) "at" = some none)
    (nN_Misread : PySem.W.findIn K (.ref C_Misread) "name" = some none)
    (xg_Misread : PySem.W.findIn K (.ref C_Misread) "__getattribute__" = some (some (.builtin "BaseException.__getattribute__")))
    (xh_Misread : PySem.W.findIn K (.ref C_Misread) "__getattr__" = some none)
    (xi_Misread : PySem.W.hasDictIn K C_Misread = true)
    (xL_BlockWrong : K.lookup C_BlockWrong = some (excClassObj xn_BlockWrong xq_BlockWrong C_BlockWrong xN_BlockWrong xb_BlockWrong xm_BlockWrong true xl_BlockWrong xs_BlockWrong xa_BlockWrong xc_BlockWrong xd_BlockWrong x0_BlockWrong x1_BlockWrong x2_BlockWrong x3_BlockWrong x5_BlockWrong "ValueError.__new__"))
    (xR_BlockWrong : PySem.HandSPX.refsVE xm_BlockWrong = true)
    (xsa_BlockWrong : PySem.W.findIn K (.ref C_BlockWrong) "__setattr__" = some (some (.builtin "object.__setattr__")))
    (xe_BlockWrong : PySem.W.subIn K (.ref C_BlockWrong) (.type "BaseException") = some true)
    (xt_BlockWrong : PySem.W.typeIn K (.ref C_BlockWrong) = some (.type "type"))
    (xk_BlockWrong : PySem.W.keepIn K (.ref C_BlockWrong) = true)
    (m1_BlockWrong : PySem.W.mroIn K C_BlockWrong (.ref C_BlockWrong) = some true)
    (m2_BlockWrong : PySem.W.mroIn K C_BlockWrong (.ref C_SetError) = some true)
    (u1_BlockWrong : PySem.W.ks_superIn K C_BlockWrong C_BlockWrong "__init__" = some (some (.ref f_SetError)))
    (u2_BlockWrong : PySem.W.ks_superIn K C_BlockWrong C_SetError "__init__" = some (some (.builtin "ValueError.__init__")))
    (ve_BlockWrong : PySem.W.subIn K (.ref C_BlockWrong) (.type "ValueError") = some true)
    (nA_BlockWrong : PySem.W.findIn K (.ref C_BlockWrong) "at" = some none)
    (nN_BlockWrong : PySem.W.findIn K (.ref C_BlockWrong) "name" = some none)
    (xg_BlockWrong : PySem.W.findIn K (.ref C_BlockWrong) "__getattribute__" = some (some (.builtin "BaseException.__getattribute__")))
    (xh_BlockWrong : PySem.W.findIn K (.ref C_BlockWrong) "__getattr__" = some none)
    (xi_BlockWrong : PySem.W.hasDictIn K C_BlockWrong = true)
    (isn : PySem.W.specialIn K (.builtin "object.__class__") "__get__" = some (some (.builtin "getset_descriptor.__get__")))
    (ist : PySem.W.takesIn K (.builtin "object.__class__") = some true)
    (xca_Misread : PySem.W.findIn K (.ref C_Misread) "__class__" = some (some (.builtin "object.__class__")))
    (xmo_Misread : PySem.W.mroIn K C_Misread (.type "object") = some true)
    (ki_Misread_SetError : PySem.W.kitOne K (.ref C_Misread) (.ref C_SetError) = some true)
    (ki_Misread_BlockWrong : PySem.W.kitOne K (.ref C_Misread) (.ref C_BlockWrong) = some false)
    (e_Misread_Misread : PySem.W.exmOne K (.ref C_Misread) (.ref C_Misread) = some true)
    : ∃ fd : FuncData, (∀ (s : Shared) (u : Value), BindsTo s fd ⟨[u], []⟩ [("script", u)]) ∧ ∀ base : Heap, K.In base → base.Ns mainGlobals mg → FnOk P w K mg base (L2.CX P w) 193 fa fd ["script"] (spD K 1 F_law) := by
  have e := hfa.symm.trans (PySem.W.mg_of X G a_law)
  cases e
  have F_tokens := fun_mk (st := s_tokens) l_tokens c_tokens k_tokens
  have b_tokens := F_tokens.binds (ps := p_tokens) fun _ _ _ _ _ _ us hl => match us, hl with | [_, _], _ => rfl
  have F_init := fun_mk (st := s_init) l_init c_init k_init
  have b_init := F_init.binds (ps := p_init) fun _ _ _ _ _ _ us hl => match us, hl with | [_, _, _, _], _ => rfl
  have F_next := fun_mk (st := s_next) l_next c_next k_next
  have b_next := F_next.binds (ps := p_next) fun _ _ _ _ _ _ us hl => match us, hl with | [_], _ => rfl
  have F_wrong := fun_mk (st := s_wrong) l_wrong c_wrong k_wrong
  have b_wrong := F_wrong.binds (ps := p_wrong) fun _ _ _ _ _ _ us hl => match us, hl with | [_], _ => rfl
  have F_begins := fun_mk (st := s_begins) l_begins c_begins k_begins
  have b_begins := F_begins.binds (ps := p_begins) fun _ _ _ _ _ _ us hl => match us, hl with | [_], _ => rfl
  have F_ors := fun_mk (st := s_ors) l_ors c_ors k_ors
  have b_ors := F_ors.binds (ps := p_ors) fun _ _ _ _ _ _ us hl => match us, hl with | [_], _ => rfl
  have F_ands := fun_mk (st := s_ands) l_ands c_ands k_ands
  have b_ands := F_ands.binds (ps := p_ands) fun _ _ _ _ _ _ us hl => match us, hl with | [_], _ => rfl
  have F_rows := fun_mk (st := s_rows) l_rows c_rows k_rows
  have b_rows := F_rows.binds (ps := p_rows) fun _ _ _ _ _ _ us hl => match us, hl with | [_], _ => rfl
  have F_deeper := fun_mk (st := s_deeper) l_deeper c_deeper k_deeper
  have b_deeper := F_deeper.binds (ps := p_deeper) fun _ _ _ _ _ _ us hl => match us, hl with | [_], _ => rfl
  have F_head := fun_mk (st := s_head) l_head c_head k_head
  have b_head := F_head.binds (ps := p_head) fun _ _ _ _ _ _ us hl => match us, hl with | [_], _ => rfl
  have F_atom := fun_mk (st := s_atom) l_atom c_atom k_atom
  have b_atom := F_atom.binds (ps := p_atom) fun _ _ _ _ _ _ us hl => match us, hl with | [_], _ => rfl
  have F_name := fun_mk (st := s_name) l_name c_name k_name
  have b_name := F_name.binds (ps := p_name) fun _ _ _ _ _ _ us hl => match us, hl with | [_], _ => rfl
  have F_read := fun_mk (st := s_read) l_read c_read k_read
  have b_read := F_read.binds (ps := p_read) fun _ _ _ _ _ _ us hl => match us, hl with | [_, _, _], _ => rfl
  have F_draws := fun_mk (st := s_draws) l_draws c_draws k_draws
  have b_draws := F_draws.binds (ps := p_draws) fun _ _ _ _ _ _ us hl => match us, hl with | [_], _ => rfl
  have F_draw := fun_mk (st := s_draw) l_draw c_draw k_draw
  have b_draw := F_draw.binds (ps := p_draw) fun _ _ _ _ _ _ us hl => match us, hl with | [_, _], _ => rfl
  have F_same := fun_mk (st := s_same) l_same c_same k_same
  have b_same := F_same.binds (ps := p_same) fun _ _ _ _ _ _ us hl => match us, hl with | [_, _], _ => rfl
  have F_form := fun_mk (st := s_form) l_form c_form k_form
  have b_form := F_form.binds (ps := p_form) fun _ _ _ _ _ _ us hl => match us, hl with | [_, _, _, _], _ => rfl
  have F_letters := fun_mk (st := s_letters) l_letters c_letters k_letters
  have b_letters := F_letters.binds (ps := p_letters) fun _ _ _ _ _ _ us hl => match us, hl with | [_], _ => rfl
  have F_ltoks := fun_mk (st := s_ltoks) l_ltoks c_ltoks k_ltoks
  have b_ltoks := F_ltoks.binds (ps := p_ltoks) fun _ _ _ _ _ _ us hl => match us, hl with | [_, _], _ => rfl
  have F_gaps := fun_mk (st := s_gaps) l_gaps c_gaps k_gaps
  have b_gaps := F_gaps.binds (ps := p_gaps) fun _ _ _ _ _ _ us hl => match us, hl with | [_, _], _ => rfl
  have F_told := fun_mk (st := s_told) l_told c_told k_told
  have b_told := F_told.binds (ps := p_told) fun _ _ _ _ _ _ us hl => match us, hl with | [_, _, _], _ => rfl
  have F_spoilt := fun_mk (st := s_spoilt) l_spoilt c_spoilt k_spoilt
  have b_spoilt := F_spoilt.binds (ps := p_spoilt) fun _ _ _ _ _ _ us hl => match us, hl with | [_, _, _], _ => rfl
  have F_law := fun_mk (st := s_law) l_law c_law k_law
  have b_law := F_law.binds (ps := p_law) fun _ _ _ _ _ _ us hl => match us, hl with | [_], _ => rfl
  let ad : Ad := ⟨f_tokens, f_init, f_next, f_wrong, f_begins, f_ors, f_ands, f_rows, f_deeper, f_head, f_atom, f_name, f_read, f_draws, f_draw, f_same, f_form, f_letters, f_ltoks, f_gaps, f_told, f_spoilt, fa, C_Formula, K_ATOMS, f_SetError, C_SetError, cda_SetError, cc_SetError, f_Misread, C_Misread, cda_Misread, cc_Misread, f_BlockWrong, C_BlockWrong, cda_BlockWrong, cc_BlockWrong, (PySem.W.fnOf "tokens_from" "tokens_from" (defArgs s_tokens) (defBody s_tokens) (defScope s_tokens) .none kV_tokens dc_tokens pm_tokens an_tokens cd_tokens ct_tokens), (PySem.W.fnOf "__init__" "Formula.__init__" (defArgs s_init) (defBody s_init) (defScope s_init) .none kV_init dc_init pm_init an_init cd_init ct_init), (PySem.W.fnOf "next_word" "Formula.next_word" (defArgs s_next) (defBody s_next) (defScope s_next) .none kV_next dc_next pm_next an_next cd_next ct_next), (PySem.W.fnOf "wrong" "Formula.wrong" (defArgs s_wrong) (defBody s_wrong) (defScope s_wrong) .none kV_wrong dc_wrong pm_wrong an_wrong cd_wrong ct_wrong), (PySem.W.fnOf "begins" "Formula.begins" (defArgs s_begins) (defBody s_begins) (defScope s_begins) .none kV_begins dc_begins pm_begins an_begins cd_begins ct_begins), (PySem.W.fnOf "ors" "Formula.ors" (defArgs s_ors) (defBody s_ors) (defScope s_ors) .none kV_ors dc_ors pm_ors an_ors cd_ors ct_ors), (PySem.W.fnOf "ands" "Formula.ands" (defArgs s_ands) (defBody s_ands) (defScope s_ands) .none kV_ands dc_ands pm_ands an_ands cd_ands ct_ands), (PySem.W.fnOf "rows" "Formula.rows" (defArgs s_rows) (defBody s_rows) (defScope s_rows) .none kV_rows dc_rows pm_rows an_rows cd_rows ct_rows), (PySem.W.fnOf "deeper" "Formula.deeper" (defArgs s_deeper) (defBody s_deeper) (defScope s_deeper) .none kV_deeper dc_deeper pm_deeper an_deeper cd_deeper ct_deeper), (PySem.W.fnOf "head" "Formula.head" (defArgs s_head) (defBody s_head) (defScope s_head) .none kV_head dc_head pm_head an_head cd_head ct_head), (PySem.W.fnOf "atom" "Formula.atom" (defArgs s_atom) (defBody s_atom) (defScope s_atom) .none kV_atom dc_atom pm_atom an_atom cd_atom ct_atom), (PySem.W.fnOf "name" "Formula.name" (defArgs s_name) (defBody s_name) (defScope s_name) .none kV_name dc_name pm_name an_name cd_name ct_name), (PySem.W.fnOf "read_form" "read_form" (defArgs s_read) (defBody s_read) (defScope s_read) .none kV_read dc_read pm_read an_read cd_read ct_read), (PySem.W.fnOf "_law_draws" "_law_draws" (defArgs s_draws) (defBody s_draws) (defScope s_draws) .none kV_draws dc_draws pm_draws an_draws cd_draws ct_draws), (PySem.W.fnOf "_law_draw" "_law_draw" (defArgs s_draw) (defBody s_draw) (defScope s_draw) .none kV_draw dc_draw pm_draw an_draw cd_draw ct_draw), (PySem.W.fnOf "_law_same" "_law_same" (defArgs s_same) (defBody s_same) (defScope s_same) .none kV_same dc_same pm_same an_same cd_same ct_same), (PySem.W.fnOf "_law_form" "_law_form" (defArgs s_form) (defBody s_form) (defScope s_form) .none kV_form dc_form pm_form an_form cd_form ct_form), (PySem.W.fnOf "_law_letters" "_law_letters" (defArgs s_letters) (defBody s_letters) (defScope s_letters) .none kV_letters dc_letters pm_letters an_letters cd_letters ct_letters), (PySem.W.fnOf "_law_tokens" "_law_tokens" (defArgs s_ltoks) (defBody s_ltoks) (defScope s_ltoks) .none kV_ltoks dc_ltoks pm_ltoks an_ltoks cd_ltoks ct_ltoks), (PySem.W.fnOf "_law_gaps" "_law_gaps" (defArgs s_gaps) (defBody s_gaps) (defScope s_gaps) .none kV_gaps dc_gaps pm_gaps an_gaps cd_gaps ct_gaps), (PySem.W.fnOf "_law_told" "_law_told" (defArgs s_told) (defBody s_told) (defScope s_told) .none kV_told dc_told pm_told an_told cd_told ct_told), (PySem.W.fnOf "_law_spoilt" "_law_spoilt" (defArgs s_spoilt) (defBody s_spoilt) (defScope s_spoilt) .none kV_spoilt dc_spoilt pm_spoilt an_spoilt cd_spoilt ct_spoilt), (PySem.W.fnOf "law" "law" (defArgs s_law) (defBody s_law) (defScope s_law) .none kV_law dc_law pm_law an_law cd_law ct_law), (PySem.W.ksFn "__init__" "SetError.__init__" (defArgs s_SetError) (defBody s_SetError) (defScope s_SetError) (.ref dT_SetError) kV_SetError dc_SetError pm_SetError an_SetError (.ref cda_SetError) ct_SetError cc_SetError), (PySem.W.ksFn "__init__" "Misread.__init__" (defArgs s_Misread) (defBody s_Misread) (defScope s_Misread) .none kV_Misread dc_Misread pm_Misread an_Misread (.ref cda_Misread) ct_Misread cc_Misread), (PySem.W.ksFn "__init__" "BlockWrong.__init__" (defArgs s_BlockWrong) (defBody s_BlockWrong) (defScope s_BlockWrong) .none kV_BlockWrong dc_BlockWrong pm_BlockWrong an_BlockWrong (.ref cda_BlockWrong) ct_BlockWrong cc_BlockWrong), (.str "abcdefghijklmnopqrstuvwxyz" tk_ALPHABET), (.str " \n" tk_BLANKS), (.int 60 tk_DEEPEST), (.int 12 tk_LONGEST_NAME)⟩
  have b_SetError : Binds K (PySem.W.ksFn "__init__" "SetError.__init__" (defArgs s_SetError) (defBody s_SetError) (defScope s_SetError) (.ref dT_SetError) kV_SetError dc_SetError pm_SetError an_SetError (.ref cda_SetError) ct_SetError cc_SetError) p_SetError [] := fun s us KI hl => match us, hl with | [x0, x1, x2], _ => L2.BindsTo.of_looks fun M => looks_items KI lT_SetError rfl (.of_pure rfl)
  have b_Misread : Binds K (PySem.W.ksFn "__init__" "Misread.__init__" (defArgs s_Misread) (defBody s_Misread) (defScope s_Misread) .none kV_Misread dc_Misread pm_Misread an_Misread (.ref cda_Misread) ct_Misread cc_Misread) p_Misread [] := Binds.all fun us hl => match us, hl with | [_, _], _ => rfl
  have b_BlockWrong : Binds K (PySem.W.ksFn "__init__" "BlockWrong.__init__" (defArgs s_BlockWrong) (defBody s_BlockWrong) (defScope s_BlockWrong) .none kV_BlockWrong dc_BlockWrong pm_BlockWrong an_BlockWrong (.ref cda_BlockWrong) ct_BlockWrong cc_BlockWrong) p_BlockWrong [] := Binds.all fun us hl => match us, hl with | [_, _], _ => rfl
  have ox_Misread : OexC K C_Misread := ⟨⟨xn_Misread, xq_Misread, xN_Misread, xb_Misread, xm_Misread, xl_Misread, xs_Misread, xa_Misread, xc_Misread, xd_Misread, x0_Misread, x1_Misread, x2_Misread, x3_Misread, x5_Misread, xL_Misread, xR_Misread⟩, xsa_Misread, xe_Misread, xt_Misread, xk_Misread⟩
  have ox_BlockWrong : OexC K C_BlockWrong := ⟨⟨xn_BlockWrong, xq_BlockWrong, xN_BlockWrong, xb_BlockWrong, xm_BlockWrong, xl_BlockWrong, xs_BlockWrong, xa_BlockWrong, xc_BlockWrong, xd_BlockWrong, x0_BlockWrong, x1_BlockWrong, x2_BlockWrong, x3_BlockWrong, x5_BlockWrong, xL_BlockWrong, xR_BlockWrong⟩, xsa_BlockWrong, xe_BlockWrong, xt_BlockWrong, xk_BlockWrong⟩
  have D_ATOMS : KDict K w K_ATOMS es_ATOMS en_ATOMS := ⟨lK_ATOMS, kl_ATOMS, lw_ATOMS⟩
  have T : Txt P w K mg ad := ⟨PySem.W.mg_none_of X G z_len,
    PySem.W.mg_none_of X G z_list,
    PySem.W.mg_none_of X G z_all,
    PySem.W.mg_none_of X G z_isinstance,
    PySem.W.mg_none_of X G z_int,
    PySem.W.mg_none_of X G z_range,
    PySem.W.mg_none_of X G z_bool,
    PySem.W.mg_none_of X G z_str,
    PySem.W.mg_none_of X G z_dict,
    PySem.W.mg_none_of X G z_tuple,
    PySem.W.mg_of X G g_ALPHABET,
    ⟨_, rfl⟩,
    PySem.W.mg_of X G g_BLANKS,
    ⟨_, rfl⟩,
    PySem.W.mg_of X G g_DEEPEST,
    ⟨_, rfl⟩,
    PySem.W.mg_of X G g_LONGEST_NAME,
    ⟨_, rfl⟩,
    PySem.W.mg_of X G gK_ATOMS,
    ⟨es_ATOMS, en_ATOMS, D_ATOMS⟩,
    fun z hz => kAt_none D_ATOMS ke_ATOMS hz,
    ⟨.ref kt0_ATOMS, kAt_some D_ATOMS kv0_ATOMS rfl, krp_t1 lt0_ATOMS⟩,
    ⟨.ref kt1_ATOMS, kAt_some D_ATOMS kv1_ATOMS rfl, krp_t1 lt1_ATOMS⟩,
    ⟨.ref kt2_ATOMS, kAt_some D_ATOMS kv2_ATOMS rfl, krp_t1 lt2_ATOMS⟩,
    F_tokens,
    b_tokens,
    PySem.W.mg_of X G a_tokens,
    F_init,
    b_init,
    F_next,
    b_next,
    ⟨a_next, i_next, k_next⟩,
    F_wrong,
    b_wrong,
    ⟨a_wrong, i_wrong, k_wrong⟩,
    F_begins,
    b_begins,
    ⟨a_begins, i_begins, k_begins⟩,
    F_ors,
    b_ors,
    ⟨a_ors, i_ors, k_ors⟩,
    F_ands,
    b_ands,
    ⟨a_ands, i_ands, k_ands⟩,
    F_rows,
    b_rows,
    ⟨a_rows, i_rows, k_rows⟩,
    F_deeper,
    b_deeper,
    ⟨a_deeper, i_deeper, k_deeper⟩,
    F_head,
    b_head,
    ⟨a_head, i_head, k_head⟩,
    F_atom,
    b_atom,
    ⟨a_atom, i_atom, k_atom⟩,
    F_name,
    b_name,
    ⟨a_name, i_name, k_name⟩,
    F_read,
    b_read,
    PySem.W.mg_of X G a_read,
    F_draws,
    b_draws,
    PySem.W.mg_of X G a_draws,
    F_draw,
    b_draw,
    PySem.W.mg_of X G a_draw,
    F_same,
    b_same,
    PySem.W.mg_of X G a_same,
    F_form,
    b_form,
    PySem.W.mg_of X G a_form,
    F_letters,
    b_letters,
    PySem.W.mg_of X G a_letters,
    F_ltoks,
    b_ltoks,
    PySem.W.mg_of X G a_ltoks,
    F_gaps,
    b_gaps,
    PySem.W.mg_of X G a_gaps,
    F_told,
    b_told,
    PySem.W.mg_of X G a_told,
    F_spoilt,
    b_spoilt,
    PySem.W.mg_of X G a_spoilt,
    F_law,
    b_law,
    PySem.W.mg_of X G a_law,
    ⟨pg_Formula, hd_Formula, po_Formula, sa_Formula⟩,
    ⟨mk_Formula, a_init, i_init, kc_Formula⟩,
    PySem.W.mg_of X G aC_Formula,
    na_Formula_letters,
    na_Formula_tokens,
    na_Formula_now,
    na_Formula_deep,
    PySem.W.mg_none_of X G z_super,
    htop,
    ⟨⟨_, _, _, _, _, _, _, _, _, rfl, l_SetError⟩, c_SetError, ⟨_, _, _, _, _, _, cl1_SetError, cv_SetError, cf_SetError⟩, ⟨_, _, _, ce_SetError⟩, ⟨_, cs_SetError⟩⟩,
    b_SetError,
    ⟨⟨_, _, _, _, _, _, _, _, _, rfl, l_Misread⟩, c_Misread, ⟨_, _, _, _, _, _, cl1_Misread, cv_Misread, cf_Misread⟩, ⟨_, _, _, ce_Misread⟩, ⟨_, cs_Misread⟩⟩,
    b_Misread,
    ⟨⟨_, _, _, _, _, _, _, _, _, rfl, l_BlockWrong⟩, c_BlockWrong, ⟨_, _, _, _, _, _, cl1_BlockWrong, cv_BlockWrong, cf_BlockWrong⟩, ⟨_, _, _, ce_BlockWrong⟩, ⟨_, cs_BlockWrong⟩⟩,
    b_BlockWrong,
    ⟨⟨⟨m1_Misread, tp⟩, u1_Misread, t_SetError, fn_b⟩, ⟨ox_Misread, ⟨⟨m2_Misread, tp⟩, u2_Misread, ve_Misread⟩, nA_Misread, nN_Misread⟩⟩,
    a_Misread,
    t_Misread,
    PySem.W.mg_of X G aC_Misread,
    ⟨xg_Misread, xh_Misread, xe_Misread, xi_Misread⟩,
    ⟨⟨⟨m1_BlockWrong, tp⟩, u1_BlockWrong, t_SetError, fn_b⟩, ⟨ox_BlockWrong, ⟨⟨m2_BlockWrong, tp⟩, u2_BlockWrong, ve_BlockWrong⟩, nA_BlockWrong, nN_BlockWrong⟩⟩,
    a_BlockWrong,
    t_BlockWrong,
    PySem.W.mg_of X G aC_BlockWrong,
    ⟨xg_BlockWrong, xh_BlockWrong, xe_BlockWrong, xi_BlockWrong⟩,
    PySem.W.mg_of X G aC_SetError,
    ⟨(by rw [cs_Misread]; rfl), xg_Misread, xh_Misread, xe_Misread, xca_Misread, isn, ist, xmo_Misread⟩,
    ki_Misread_SetError,
    ki_Misread_BlockWrong,
    e_Misread_Misread⟩
  exact ⟨ad.fd_law, fun s u => .of_eq rfl, fun base _ _ => fo_law T⟩
theorem start_ok {K : PySem.W.Frag} {H : Hp} {a : Addr} {ns : List Int} (hS : SqL K H a (ns.map V.int)) : spD K 1 F_law [.ref a] H (fun v _ => v = .bl true) fun _ _ _ => False :=
  ⟨rfl, H, [], [.scr ns], [], fun d _ => d = .bl true, fun _ _ _ => False, ⟨Same.refl _, rfl, List.nodup_nil, fun _ h => (by cases h), fun _ _ _ h => (by cases h)⟩, .cons (.scr hS) .nil, ⟨ns, rfl, fun _ => rfl⟩, fun _ _ _ _ v d _ _ r e => (by subst e; exact r.bl_inv), fun _ _ _ _ _ _ _ _ _ _ _ _ z => z.elim⟩
theorem walk {l : PySem.W.OpenLaw} {q : Program} {loose : List Str} {XP : (Str → Option Value) → Heap → Prop} {YP : World → Heap → Prop} {d : DefRec} {K : Params → PySem.W.Frag} (hn : l.most = some 63) (hdf : d.params.defaults = [])
    (hY : ∀ (w : World) (h : Heap), YP w h → (K w.params).In h)
    (F : ∀ (w : World) (mg : Str → Option Value) (fa : Addr) (h : Heap), (K w.params).In h → h.Ns mainGlobals mg → mg d.name = some (.ref fa) →
      ∃ fd : FuncData, (∀ (s : Shared) (u : Value), BindsTo s fd ⟨[u], []⟩ [("script", u)]) ∧ ∀ base : Heap, (K w.params).In base → base.Ns mainGlobals mg → FnOk l.prog w (K w.params) mg base (L2.CX l.prog w) 193 fa fd ["script"] (spD (K w.params) 1 F_law)) :
    PySem.W.WalkO q loose XP YP l.row.toRowW d [] (fun f vs => PySem.call f vs) :=
  L2.walk_of (n := 63) (k := 193) (x := "script") (CX := fun w => L2.CX l.prog w) (sp := fun w => spD (K w.params) 1 F_law) hn (by decide) hdf ⟨rfl, by decide, by decide⟩ hY F (fun _ _ _ _ _ _ hS => start_ok hS) fun w H s e s' z => by
    obtain ⟨_, _, _, _, _, _, _, _, _, _, _, _, z⟩ := z
    exact z.elim
end K87

open PySem PySem.W PyProof.Rows
set_option maxRecDepth 100000 in
set_option maxHeartbeats 0 in
theorem PySem.Challenge.cw_starless_k87_written_expressions_misread_holds : PySem.Challenge.rw_starless_k87_written_expressions_misread.Holds := by
  w_on; o_law; k_head; (case hw => w_witness2)
  k_fill
  refine K87.walk (l := PySem.Challenge.rw_starless_k87_written_expressions_misread) rfl rfl (fun w h Y => PySem.W.kIn_of Y) ?F
  case F =>
    intro w mg fa h KX G hmg
    refine' K87.all_mk KX G hmg ?aC_Formula ?a_tokens ?l_tokens ?c_tokens ?k_tokens ?a_init ?i_init ?l_init ?c_init ?k_init ?a_next ?i_next ?l_next ?c_next ?k_next ?a_wrong ?i_wrong ?l_wrong ?c_wrong ?k_wrong ?a_begins ?i_begins ?l_begins ?c_begins ?k_begins ?a_ors ?i_ors ?l_ors ?c_ors ?k_ors ?a_ands ?i_ands ?l_ands ?c_ands ?k_ands ?a_rows ?i_rows ?l_rows ?c_rows ?k_rows ?a_deeper ?i_deeper ?l_deeper ?c_deeper ?k_deeper ?a_head ?i_head ?l_head ?c_head ?k_head ?a_atom ?i_atom ?l_atom ?c_atom ?k_atom ?a_name ?i_name ?l_name ?c_name ?k_name ?a_read ?l_read ?c_read ?k_read ?a_draws ?l_draws ?c_draws ?k_draws ?a_draw ?l_draw ?c_draw ?k_draw ?a_same ?l_same ?c_same ?k_same ?a_form ?l_form ?c_form ?k_form ?a_letters ?l_letters ?c_letters ?k_letters ?a_ltoks ?l_ltoks ?c_ltoks ?k_ltoks ?a_gaps ?l_gaps ?c_gaps ?k_gaps ?a_told ?l_told ?c_told ?k_told ?a_spoilt ?l_spoilt ?c_spoilt ?k_spoilt ?a_law ?l_law ?c_law ?k_law ?pg_Formula ?hd_Formula ?po_Formula ?sa_Formula ?mk_Formula ?kc_Formula ?na_Formula_letters ?na_Formula_tokens ?na_Formula_now ?na_Formula_deep ?z_len ?z_list ?z_all ?z_isinstance ?z_int ?z_range ?z_bool ?z_str ?z_dict ?z_tuple ?g_ALPHABET ?g_BLANKS ?g_DEEPEST ?g_LONGEST_NAME ?gK_ATOMS ?lK_ATOMS ?kl_ATOMS ?lw_ATOMS ?ke_ATOMS ?kv0_ATOMS ?lt0_ATOMS ?kv1_ATOMS ?lt1_ATOMS ?kv2_ATOMS ?lt2_ATOMS ?z_super ?tp ?htop ?aC_SetError ?a_SetError ?l_SetError ?c_SetError ?lT_SetError ?cl1_SetError ?cv_SetError ?cf_SetError ?ce_SetError ?cs_SetError ?t_SetError ?aC_Misread ?a_Misread ?l_Misread ?c_Misread ?cl1_Misread ?cv_Misread ?cf_Misread ?ce_Misread ?cs_Misread ?t_Misread ?aC_BlockWrong ?a_BlockWrong ?l_BlockWrong ?c_BlockWrong ?cl1_BlockWrong ?cv_BlockWrong ?cf_BlockWrong ?ce_BlockWrong ?cs_BlockWrong ?t_BlockWrong ?fn_b ?xL_Misread ?xR_Misread ?xsa_Misread ?xe_Misread ?xt_Misread ?xk_Misread ?m1_Misread ?m2_Misread ?u1_Misread ?u2_Misread ?ve_Misread ?nA_Misread ?nN_Misread ?xg_Misread ?xh_Misread ?xi_Misread ?xL_BlockWrong ?xR_BlockWrong ?xsa_BlockWrong ?xe_BlockWrong ?xt_BlockWrong ?xk_BlockWrong ?m1_BlockWrong ?m2_BlockWrong ?u1_BlockWrong ?u2_BlockWrong ?ve_BlockWrong ?nA_BlockWrong ?nN_BlockWrong ?xg_BlockWrong ?xh_BlockWrong ?xi_BlockWrong ?isn ?ist ?xca_Misread ?xmo_Misread ?ki_Misread_SetError ?ki_Misread_BlockWrong ?e_Misread_Misread
    (case aC_Formula => k_is)
    (case a_tokens => k_is)
    (case l_tokens => k_is)
    (case c_tokens => k_is)
    (case k_tokens => k_is)
    (case a_init => k_is)
    (case i_init => k_is)
    (case l_init => k_is)
    (case c_init => k_is)
    (case k_init => k_is)
    (case a_next => k_is)
    (case i_next => k_is)
    (case l_next => k_is)
    (case c_next => k_is)
    (case k_next => k_is)
    (case a_wrong => k_is)
    (case i_wrong => k_is)
    (case l_wrong => k_is)
    (case c_wrong => k_is)
    (case k_wrong => k_is)
    (case a_begins => k_is)
    (case i_begins => k_is)
    (case l_begins => k_is)
    (case c_begins => k_is)
    (case k_begins => k_is)
    (case a_ors => k_is)
    (case i_ors => k_is)
    (case l_ors => k_is)
    (case c_ors => k_is)
    (case k_ors => k_is)
    (case a_ands => k_is)
    (case i_ands => k_is)
    (case l_ands => k_is)
    (case c_ands => k_is)
    (case k_ands => k_is)
    (case a_rows => k_is)
    (case i_rows => k_is)
    (case l_rows => k_is)
    (case c_rows => k_is)
    (case k_rows => k_is)
    (case a_deeper => k_is)
    (case i_deeper => k_is)
    (case l_deeper => k_is)
    (case c_deeper => k_is)
    (case k_deeper => k_is)
    (case a_head => k_is)
    (case i_head => k_is)
    (case l_head => k_is)
    (case c_head => k_is)
    (case k_head => k_is)
    (case a_atom => k_is)
    (case i_atom => k_is)
    (case l_atom => k_is)
    (case c_atom => k_is)
    (case k_atom => k_is)
    (case a_name => k_is)
    (case i_name => k_is)
    (case l_name => k_is)
    (case c_name => k_is)
    (case k_name => k_is)
    (case a_read => k_is)
    (case l_read => k_is)
    (case c_read => k_is)
    (case k_read => k_is)
    (case a_draws => k_is)
    (case l_draws => k_is)
    (case c_draws => k_is)
    (case k_draws => k_is)
    (case a_draw => k_is)
    (case l_draw => k_is)
    (case c_draw => k_is)
    (case k_draw => k_is)
    (case a_same => k_is)
    (case l_same => k_is)
    (case c_same => k_is)
    (case k_same => k_is)
    (case a_form => k_is)
    (case l_form => k_is)
    (case c_form => k_is)
    (case k_form => k_is)
    (case a_letters => k_is)
    (case l_letters => k_is)
    (case c_letters => k_is)
    (case k_letters => k_is)
    (case a_ltoks => k_is)
    (case l_ltoks => k_is)
    (case c_ltoks => k_is)
    (case k_ltoks => k_is)
    (case a_gaps => k_is)
    (case l_gaps => k_is)
    (case c_gaps => k_is)
    (case k_gaps => k_is)
    (case a_told => k_is)
    (case l_told => k_is)
    (case c_told => k_is)
    (case k_told => k_is)
    (case a_spoilt => k_is)
    (case l_spoilt => k_is)
    (case c_spoilt => k_is)
    (case k_spoilt => k_is)
    (case a_law => k_is)
    (case l_law => k_is)
    (case c_law => k_is)
    (case k_law => k_is)
    (case pg_Formula => k_is)
    (case hd_Formula => k_is)
    (case po_Formula => k_is)
    (case sa_Formula => k_is)
    (case mk_Formula => k_is)
    (case kc_Formula => k_is)
    (case na_Formula_letters => k_is)
    (case na_Formula_tokens => k_is)
    (case na_Formula_now => k_is)
    (case na_Formula_deep => k_is)
    (case z_len => k_is)
    (case z_list => k_is)
    (case z_all => k_is)
    (case z_isinstance => k_is)
    (case z_int => k_is)
    (case z_range => k_is)
    (case z_bool => k_is)
    (case z_str => k_is)
    (case z_dict => k_is)
    (case z_tuple => k_is)
    (case g_ALPHABET => k_is)
    (case g_BLANKS => k_is)
    (case g_DEEPEST => k_is)
    (case g_LONGEST_NAME => k_is)
    (case gK_ATOMS => k_is)
    (case lK_ATOMS => k_is)
    (case kl_ATOMS => (repeat (first | exact True.intro | refine ⟨⟨_, _, rfl, rfl⟩, ?_⟩)))
    (case lw_ATOMS => first | rfl | decide +kernel)
    (case ke_ATOMS => first | rfl | decide +kernel)
    (case kv0_ATOMS => k_is)
    (case lt0_ATOMS => k_is)
    (case kv1_ATOMS => k_is)
    (case lt1_ATOMS => k_is)
    (case kv2_ATOMS => k_is)
    (case lt2_ATOMS => k_is)
    (case z_super => k_is)
    (case tp => k_is)
    (case htop => first | rfl | decide +kernel)
    (case aC_SetError => k_is)
    (case a_SetError => k_is)
    (case l_SetError => k_is)
    (case c_SetError => k_is)
    (case lT_SetError => k_is)
    (case cl1_SetError => k_is)
    (case cv_SetError => rfl)
    (case cf_SetError => first | rfl | decide +kernel)
    (case ce_SetError => k_is)
    (case cs_SetError => k_is)
    (case t_SetError => k_is)
    (case aC_Misread => k_is)
    (case a_Misread => k_is)
    (case l_Misread => k_is)
    (case c_Misread => k_is)
    (case cl1_Misread => k_is)
    (case cv_Misread => rfl)
    (case cf_Misread => first | rfl | decide +kernel)
    (case ce_Misread => k_is)
    (case cs_Misread => k_is)
    (case t_Misread => k_is)
    (case aC_BlockWrong => k_is)
    (case a_BlockWrong => k_is)
    (case l_BlockWrong => k_is)
    (case c_BlockWrong => k_is)
    (case cl1_BlockWrong => k_is)
    (case cv_BlockWrong => rfl)
    (case cf_BlockWrong => first | rfl | decide +kernel)
    (case ce_BlockWrong => k_is)
    (case cs_BlockWrong => k_is)
    (case t_BlockWrong => k_is)
    (case fn_b => k_is)
    (case xL_Misread => k_is)
    (case xR_Misread => rfl)
    (case xsa_Misread => k_is)
    (case xe_Misread => k_is)
    (case xt_Misread => k_is)
    (case xk_Misread => k_is)
    (case m1_Misread => k_is)
    (case m2_Misread => k_is)
    (case u1_Misread => ks_is)
    (case u2_Misread => ks_is)
    (case ve_Misread => k_is)
    (case nA_Misread => k_is)
    (case nN_Misread => k_is)
    (case xg_Misread => k_is)
    (case xh_Misread => k_is)
    (case xi_Misread => k_is)
    (case xL_BlockWrong => k_is)
    (case xR_BlockWrong => rfl)
    (case xsa_BlockWrong => k_is)
    (case xe_BlockWrong => k_is)
    (case xt_BlockWrong => k_is)
    (case xk_BlockWrong => k_is)
    (case m1_BlockWrong => k_is)
    (case m2_BlockWrong => k_is)
    (case u1_BlockWrong => ks_is)
    (case u2_BlockWrong => ks_is)
    (case ve_BlockWrong => k_is)
    (case nA_BlockWrong => k_is)
    (case nN_BlockWrong => k_is)
    (case xg_BlockWrong => k_is)
    (case xh_BlockWrong => k_is)
    (case xi_BlockWrong => k_is)
    (case isn => k_is)
    (case ist => k_is)
    (case xca_Misread => k_is)
    (case xmo_Misread => k_is)
    (case ki_Misread_SetError => first | k_is | rfl)
    (case ki_Misread_BlockWrong => first | k_is | rfl)
    (case e_Misread_Misread => first | k_is | rfl)
#print axioms PySem.Challenge.cw_starless_k87_written_expressions_misread_holds
