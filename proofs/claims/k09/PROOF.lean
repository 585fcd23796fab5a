import PyProof.Rows.All
import Wide.All
import OpenK.AllK
import Wide.FinOn
import HandS.ForMost
import HandS.ForExc
import HandS.Evl
import HandS.IsInst
import HandS.Walk
import HandS.Zip
import HandS.TupAny
import HandS.Style
import HandS.Wide
import HandS.Gcd
import PyProof.InstNe
import KE.KSuper
import KE.KExcSuper
import HandS.Nested
import HandS.ExcInit
import KE.GoesZip
import KE.GoesEnum
import HandS.Defaults
import HandS.ExcField
import PyProof.Rows.SeqMore
import HandS.TryMany
import HandS.ExcIs
import KE.KExcIs
import HandS.EndBits
import KE.KIsAll
import HandS.TupMul
import PyProof.Rows.InDataRows
import KE.KMathG
import Flt.RightSqrt
import PySem.Challenge.RW_gridroads_k09_products_and_norms
set_option Elab.async false
set_option linter.all false
set_option maxRecDepth 100000
/-! A layer of my own over the hand layer: values as data trees (DV), states of a running def told by data alone (Sta),
judgements of expressions over such states (EX, TX, AX, LX). -/
namespace G
open PySem L2 Evl

/-- data: what a value is, objects that stand still included; box: the object at a, whose content is told elsewhere -/
inductive DV where
  | non | bl (b : Bool) | int (i : Int) | str (x : Str) | lst (xs : List DV) | tup (xs : List DV) | ins (C : Addr) (fs : List (Str × DV)) | box (a : Addr)

mutual
inductive Rp (K : PySem.W.Frag) (H : Hp) : V → DV → Prop
  | non : Rp K H .non .non
  | bl (b : Bool) : Rp K H (.bl b) (.bl b)
  | int (i : Int) : Rp K H (.int i) (.int i)
  | str (x : Str) : Rp K H (.str x) (.str x)
  | lst {a : Addr} {xs : List V} {ds : List DV} : SqL K H a xs → RpAll K H xs ds → Rp K H (.ref a) (.lst ds)
  | tup {a : Addr} {xs : List V} {ds : List DV} : SqT K H a xs → RpAll K H xs ds → Rp K H (.ref a) (.tup ds)
  | ins {a C dx : Addr} {fs : List (Str × V)} {ds : List (Str × DV)} : H a = some (.ins C dx fs) → RpF K H fs ds → Rp K H (.ref a) (.ins C ds)
  | box (a : Addr) : Rp K H (.ref a) (.box a)
inductive RpAll (K : PySem.W.Frag) (H : Hp) : List V → List DV → Prop
  | nil : RpAll K H [] []
  | cons {v : V} {vs : List V} {d : DV} {ds : List DV} : Rp K H v d → RpAll K H vs ds → RpAll K H (v :: vs) (d :: ds)
inductive RpF (K : PySem.W.Frag) (H : Hp) : List (Str × V) → List (Str × DV) → Prop
  | nil : RpF K H [] []
  | cons {n : Str} {v : V} {vs : List (Str × V)} {d : DV} {ds : List (Str × DV)} : Rp K H v d → RpF K H vs ds → RpF K H ((n, v) :: vs) ((n, d) :: ds)
end
section
variable {K : PySem.W.Frag} {H H' : Hp}
mutual
theorem Rp.mono (e : Ex H H') : ∀ {d : DV} {v : V}, Rp K H v d → Rp K H' v d
  | .non, _, h => by cases h; exact .non
  | .bl b, _, h => by cases h; exact .bl _
  | .int b, _, h => by cases h; exact .int _
  | .str b, _, h => by cases h; exact .str _
  | .lst ds, _, h => by cases h with | lst h1 h2 => exact .lst (ex_l e h1) (RpAll.mono e h2)
  | .tup ds, _, h => by cases h with | tup h1 h2 => exact .tup (ex_t e h1) (RpAll.mono e h2)
  | .ins C ds, _, h => by cases h with | ins h1 h2 => exact .ins (e _ _ h1) (RpF.mono e h2)
  | .box a, _, h => by cases h; exact .box _
theorem RpAll.mono (e : Ex H H') : ∀ {ds : List DV} {vs : List V}, RpAll K H vs ds → RpAll K H' vs ds
  | [], _, h => by cases h; exact .nil
  | d :: ds, _, h => by cases h with | cons h1 h2 => exact .cons (Rp.mono e h1) (RpAll.mono e h2)
theorem RpF.mono (e : Ex H H') : ∀ {ds : List (Str × DV)} {vs : List (Str × V)}, RpF K H vs ds → RpF K H' vs ds
  | [], _, h => by cases h; exact .nil
  | (n, d) :: ds, _, h => by cases h with | cons h1 h2 => exact .cons (Rp.mono e h1) (RpF.mono e h2)
end
theorem RpAll.length : ∀ {vs : List V} {ds : List DV}, RpAll K H vs ds → vs.length = ds.length
  | _, _, .nil => rfl
  | _, _, .cons _ r => congrArg Nat.succ (RpAll.length r)
theorem RpAll.get : ∀ {vs : List V} {ds : List DV} {i : Nat} {d : DV}, RpAll K H vs ds → ds[i]? = some d → ∃ v, vs[i]? = some v ∧ Rp K H v d
  | _, _, _, _, .nil, h => by simp at h
  | _, _, 0, d, .cons r _, h => by
    have e := Option.some.inj h
    subst e
    exact ⟨_, rfl, r⟩
  | _, _, i + 1, d, .cons _ r, h => by
    obtain ⟨v, e, q⟩ := RpAll.get (i := i) r (by simpa using h)
    exact ⟨v, by simpa using e, q⟩
theorem RpAll.get' {vs : List V} {ds : List DV} {i : Nat} {v : V} (r : RpAll K H vs ds) (h : vs[i]? = some v) : ∃ d, ds[i]? = some d ∧ Rp K H v d := by
  have hl := r.length
  have h1 : i < vs.length := (List.getElem?_eq_some_iff.mp h).1
  have h2 : i < ds.length := by omega
  obtain ⟨w, e, q⟩ := r.get (List.getElem?_eq_getElem h2)
  rw [h] at e
  cases e
  exact ⟨_, List.getElem?_eq_getElem h2, q⟩
theorem RpAll.app : ∀ {vs ws : List V} {ds es : List DV}, RpAll K H vs ds → RpAll K H ws es → RpAll K H (vs ++ ws) (ds ++ es)
  | _, _, _, _, .nil, s => s
  | _, _, _, _, .cons r t, s => .cons r (RpAll.app t s)
theorem RpAll.set {v : V} {d : DV} (q : Rp K H v d) : ∀ {vs : List V} {ds : List DV} (i : Nat), RpAll K H vs ds → RpAll K H (vs.set i v) (ds.set i d)
  | _, _, _, .nil => .nil
  | _, _, 0, .cons _ t => .cons q t
  | _, _, i + 1, .cons r t => .cons r (RpAll.set q i t)
theorem RpAll.take : ∀ {vs : List V} {ds : List DV} (n : Nat), RpAll K H vs ds → RpAll K H (vs.take n) (ds.take n)
  | _, _, 0, _ => .nil
  | _, _, _ + 1, .nil => .nil
  | _, _, n + 1, .cons r t => .cons r (RpAll.take n t)
theorem RpAll.drop : ∀ {vs : List V} {ds : List DV} (n : Nat), RpAll K H vs ds → RpAll K H (vs.drop n) (ds.drop n)
  | _, _, 0, r => r
  | _, _, _ + 1, .nil => .nil
  | _, _, n + 1, .cons _ t => RpAll.drop n t
theorem RpAll.reverse : ∀ {vs : List V} {ds : List DV}, RpAll K H vs ds → RpAll K H vs.reverse ds.reverse
  | _, _, .nil => .nil
  | _, _, .cons r t => by
    rw [List.reverse_cons, List.reverse_cons]
    exact RpAll.app (RpAll.reverse t) (.cons r .nil)
theorem RpF.look : ∀ {fs : List (Str × V)} {ds : List (Str × DV)} {n : Str} {d : DV}, RpF K H fs ds → ds.lookup n = some d → ∃ v, fs.lookup n = some v ∧ Rp K H v d
  | _, _, _, _, .nil, h => by cases h
  | _, _, n, d, @RpF.cons _ _ m v vs d' ds r t, h => by
    rw [List.lookup_cons] at h ⊢
    cases hb : (n == m) with
    | true =>
      rw [hb] at h
      have e := Option.some.inj h
      subst e
      exact ⟨_, rfl, r⟩
    | false =>
      rw [hb] at h
      exact RpF.look t h
theorem RpF.lookN : ∀ {fs : List (Str × V)} {ds : List (Str × DV)} {n : Str}, RpF K H fs ds → ds.lookup n = none → fs.lookup n = none
  | _, _, _, .nil, h => rfl
  | _, _, n, @RpF.cons _ _ m v vs d' ds r t, h => by
    rw [List.lookup_cons] at h ⊢
    cases hb : (n == m) with
    | true =>
      rw [hb] at h
      cases h
    | false =>
      rw [hb] at h
      exact RpF.lookN t h
/-- scalars -/
def sv : V → DV
  | .bl b => .bl b
  | .int i => .int i
  | .str x => .str x
  | .ref a => .box a
  | _ => .non
def isSc : V → Bool
  | .non => true
  | .bl _ => true
  | .int _ => true
  | .str _ => true
  | _ => false
theorem Rp.sc {v : V} (h : isSc v = true) : Rp K H v (sv v) := by
  cases v <;> first | exact .non | exact .bl _ | exact .int _ | exact .str _ | cases h
end

/-! ### the heap without what may change -/
def hid (M : List Addr) (H : Hp) : Hp := fun a => if a ∈ M then none else H a
section
variable {H H' : Hp} {M : List Addr} {a : Addr} {o : HO}
theorem hid_sub : Ex (hid M H) H := fun a o h => by
  unfold hid at h
  split at h
  · cases h
  · exact h
theorem hid_get (n : a ∉ M) (h : H a = some o) : hid M H a = some o := by
  unfold hid
  rw [if_neg n]
  exact h
theorem hid_no (h : hid M H a = some o) : a ∉ M := fun q => by
  unfold hid at h
  rw [if_pos q] at h
  cases h
theorem hid_mono (e : Ex H H') : Ex (hid M H) (hid M H') := fun a o h => hid_get (hid_no h) (e a o (hid_sub a o h))
theorem hid_less {M' : List Addr} (s : ∀ a ∈ M', a ∈ M) : Ex (hid M H) (hid M' H) := fun a o h => hid_get (fun q => hid_no h (s a q)) (hid_sub a o h)
theorem hid_nil : hid [] H = H := by
  funext a
  unfold hid
  rw [if_neg (by simp)]
/-- hiding a fresh address hides nothing -/
theorem hid_fresh {p : Addr} (h : H p = none) : hid (p :: M) H = hid M H := by
  funext a
  unfold hid
  by_cases e : a = p
  · subst e
    rw [if_pos (by simp)]
    split
    · rfl
    · exact h.symm
  · simp [e]
end

abbrev Sto := List (Addr × List DV)
/-- a running def's state by data: F the heap that is kept (all but this def's own mutable lists), M the addresses hidden from data, δ the slots, μ the mutable lists -/
structure Sta (K : PySem.W.Frag) (F : Hp) (M : List Addr) (δ : List (Option DV)) (μ : Sto) (σ : L2.St) (H : Hp) : Prop where
  al : ∀ a ∈ M, H a ≠ none
  fr : Ex F H
  dm : ∀ p ∈ μ, p.1 ∈ M ∧ F p.1 = none
  nd : (μ.map Prod.fst).Nodup
  sto : ∀ p ∈ μ, ∃ vs, H p.1 = some (.lst vs) ∧ RpAll K (hid M H) vs p.2
  env : ∀ (i : Nat) (d : DV), δ[i]? = some (some d) → ∃ v, σ[i]? = some (some v) ∧ Rp K (hid M H) v d
  len : σ.length = δ.length
section
variable {K : PySem.W.Frag} {F H H' : Hp} {M : List Addr} {δ δ' : List (Option DV)} {μ : Sto} {σ : L2.St}
theorem Sta.mono (s : Sta K F M δ μ σ H) (e : Ex H H') : Sta K F M δ μ σ H' :=
  ⟨fun a ha q => s.al a ha (by
      cases h : H a with
      | none => rfl
      | some o => rw [e a o h] at q; cases q), s.fr.trans e, s.dm, s.nd,
    fun p hp => let ⟨vs, h1, h2⟩ := s.sto p hp; ⟨vs, e _ _ h1, h2.mono (hid_mono e)⟩,
    fun i d h => let ⟨v, h1, h2⟩ := s.env i d h; ⟨v, h1, h2.mono (hid_mono e)⟩, s.len⟩
theorem Sta.fresh (s : Sta K F M δ μ σ H) {p : Addr} (h : H p = none) : p ∉ M := fun q => s.al p q h
theorem Sta.freshF (s : Sta K F M δ μ σ H) {p : Addr} (h : H p = none) : F p = none := by
  cases q : F p with
  | none => rfl
  | some o => rw [s.fr p o q] at h; cases h
/-- a slot is stored -/
theorem Sta.put (s : Sta K F M δ μ σ H) {i : Nat} {v : V} {d : DV} (r : Rp K (hid M H) v d) : Sta K F M (δ.set i (some d)) μ (σ.set i (some v)) H := by
  refine ⟨s.al, s.fr, s.dm, s.nd, s.sto, fun j e h => ?_, by simpa using s.len⟩
  by_cases hj : i = j
  · subst hj
    by_cases hi : i < δ.length
    · rw [List.getElem?_set_self hi] at h
      cases h
      exact ⟨v, List.getElem?_set_self (by rw [s.len]; exact hi), r⟩
    · rw [List.getElem?_eq_none (by simpa using hi)] at h
      cases h
  · rw [List.getElem?_set_ne hj] at h
    obtain ⟨w, h1, h2⟩ := s.env j e h
    exact ⟨w, by rw [List.getElem?_set_ne hj]; exact h1, h2⟩
/-- a slot is forgotten -/
theorem Sta.putN (s : Sta K F M δ μ σ H) {i : Nat} {v : Option V} : Sta K F M (δ.set i none) μ (σ.set i v) H := by
  refine ⟨s.al, s.fr, s.dm, s.nd, s.sto, fun j e h => ?_, by simpa using s.len⟩
  by_cases hj : i = j
  · subst hj
    by_cases hi : i < δ.length
    · rw [List.getElem?_set_self hi] at h
      cases h
    · rw [List.getElem?_eq_none (by simpa using hi)] at h
      cases h
  · rw [List.getElem?_set_ne hj] at h
    obtain ⟨w, h1, h2⟩ := s.env j e h
    exact ⟨w, by rw [List.getElem?_set_ne hj]; exact h1, h2⟩
/-- less is told of the slots -/
def Less (δ' δ : List (Option DV)) : Prop := δ'.length = δ.length ∧ ∀ (i : Nat) (d : DV), δ'[i]? = some (some d) → δ[i]? = some (some d)
theorem Sta.less (s : Sta K F M δ μ σ H) (h : Less δ' δ) : Sta K F M δ' μ σ H :=
  ⟨s.al, s.fr, s.dm, s.nd, s.sto, fun i d q => s.env i d (h.2 i d q), s.len.trans h.1.symm⟩
theorem less_refl : Less δ δ := ⟨rfl, fun _ _ h => h⟩
theorem less_nil : Less [] [] := less_refl
theorem less_cons {a : Option DV} (h : Less δ' δ) : Less (a :: δ') (a :: δ) := ⟨by simp [h.1], fun i d q => by
  cases i with
  | zero => exact q
  | succ i => simpa using h.2 i d (by simpa using q)⟩
theorem less_none {a : Option DV} (h : Less δ' δ) : Less (none :: δ') (a :: δ) := ⟨by simp [h.1], fun i d q => by
  cases i with
  | zero => simp at q
  | succ i => simpa using h.2 i d (by simpa using q)⟩
/-- the store is changed at one list, as the heap is -/
theorem Sta.poke (s : Sta K F M δ μ σ H) {j : Nat} {l : Addr} {ds ds' : List DV} {vs' : List V} (hj : μ[j]? = some (l, ds)) (r : RpAll K (hid M H) vs' ds') :
    Sta K F M δ (μ.set j (l, ds')) σ (upd H l (.lst vs')) ∧ Ex (hid M H) (hid M (upd H l (.lst vs'))) := by
  have hm : (l, ds) ∈ μ := List.mem_of_getElem? hj
  obtain ⟨hlM, hlF⟩ := s.dm _ hm
  have hx : Ex (hid M H) (hid M (upd H l (.lst vs'))) := fun a o h => by
    have hn := hid_no h
    refine hid_get hn ?_
    rw [upd_ne (fun e => hn (by rw [e]; exact hlM))]
    exact hid_sub a o h
  have hf : (μ.set j (l, ds')).map Prod.fst = μ.map Prod.fst := by
    rw [List.map_set]
    refine List.ext_getElem? fun n => ?_
    by_cases e : j = n
    · subst e
      have hl : j < (μ.map Prod.fst).length := by
        rw [List.length_map]
        exact (List.getElem?_eq_some_iff.mp hj).1
      rw [List.getElem?_set_self hl, List.getElem?_map, hj]
      rfl
    · rw [List.getElem?_set_ne e]
  refine ⟨⟨fun a ha => ?_, fun a o h => ?_, fun p hp => ?_, by rw [hf]; exact s.nd, fun p hp => ?_, fun i d h => ?_, s.len⟩, hx⟩
  · by_cases e : a = l
    · subst e
      rw [upd_same]
      simp
    · rw [upd_ne e]
      exact s.al a ha
  · rw [upd_ne (ne_of_none h hlF)]
    exact s.fr a o h
  · rcases List.mem_or_eq_of_mem_set hp with h | h
    · exact s.dm p h
    · subst h
      exact ⟨hlM, hlF⟩
  · obtain ⟨n, hn⟩ := List.getElem?_of_mem hp
    by_cases e : j = n
    · subst e
      rw [List.getElem?_set_self (List.getElem?_eq_some_iff.mp hj).1] at hn
      cases hn
      exact ⟨vs', upd_same, r.mono hx⟩
    · rw [List.getElem?_set_ne e] at hn
      obtain ⟨ws, h1, h2⟩ := s.sto p (List.mem_of_getElem? hn)
      refine ⟨ws, ?_, h2.mono hx⟩
      have hne : p.1 ≠ l := fun q => e (by
        have a1 : (μ.map Prod.fst)[n]? = some l := by rw [List.getElem?_map, hn, ← q]; rfl
        have a2 : (μ.map Prod.fst)[j]? = some l := by rw [List.getElem?_map, hj]; rfl
        exact nd_ix s.nd a2 a1)
      rw [upd_ne hne]
      exact h1
  · obtain ⟨v, h1, h2⟩ := s.env i d h
    exact ⟨v, h1, h2.mono hx⟩
/-- a new list, made a mutable one -/
theorem Sta.newL (s : Sta K F M δ μ σ H) {p : Addr} {vs : List V} {ds : List DV} (h0 : H p = none) (r : RpAll K (hid M H) vs ds) : Sta K F (p :: M) δ ((p, ds) :: μ) σ (upd H p (.lst vs)) := by
  have hp := s.fresh h0
  have up : Ex (hid M H) (hid (p :: M) (upd H p (.lst vs))) := fun a o h => by
    have hn := hid_no h
    have hap : a ≠ p := ne_of_none (hid_sub a o h) h0
    exact hid_get (by simp [hap, hn]) (by rw [upd_ne hap]; exact hid_sub _ _ h)
  have key : ∀ q ∈ μ, q.1 ≠ p := fun q hq hqp => hp (by rw [← hqp]; exact (s.dm q hq).1)
  refine ⟨fun a ha => ?_, fun a o h => ?_, fun q hq => ?_, ?_, fun q hq => ?_, fun i d h => ?_, s.len⟩
  · rcases List.mem_cons.mp ha with rfl | ha
    · rw [upd_same]; simp
    · by_cases e : a = p
      · rw [e, upd_same]; simp
      · rw [upd_ne e]; exact s.al a ha
  · rw [upd_ne (ne_of_none (s.fr a o h) h0)]
    exact s.fr a o h
  · rcases List.mem_cons.mp hq with rfl | hq
    · exact ⟨by simp, s.freshF h0⟩
    · exact ⟨List.mem_cons_of_mem _ (s.dm q hq).1, (s.dm q hq).2⟩
  · rw [List.map_cons, List.nodup_cons]
    refine ⟨fun hm => ?_, s.nd⟩
    obtain ⟨q, hq, hqp⟩ := List.mem_map.mp hm
    exact key q hq hqp
  · rcases List.mem_cons.mp hq with rfl | hq
    · exact ⟨vs, upd_same, r.mono up⟩
    · obtain ⟨ws, h1, h2⟩ := s.sto q hq
      exact ⟨ws, by rw [upd_ne (key q hq)]; exact h1, h2.mono up⟩
  · obtain ⟨v, h1, h2⟩ := s.env i d h
    exact ⟨v, h1, h2.mono up⟩
/-- a mutable list stands still from here on: it is data -/
theorem Sta.still {p : Addr} {ds : List DV} (s : Sta K F (p :: M) δ ((p, ds) :: μ) σ H) (hp : p ∉ M) : Sta K F M δ μ σ H ∧ Rp K (hid M H) (.ref p) (.lst ds) := by
  have up : Ex (hid (p :: M) H) (hid M H) := hid_less fun a ha => List.mem_cons_of_mem _ ha
  obtain ⟨vs, h1, h2⟩ := s.sto (p, ds) (by simp)
  refine ⟨⟨fun a ha => s.al a (List.mem_cons_of_mem _ ha), s.fr, fun q hq => ?_, (List.nodup_cons.mp s.nd).2, fun q hq => ?_, fun i d h => ?_, s.len⟩, .lst (sq_of (hid_get hp h1)) (h2.mono up)⟩
  · obtain ⟨a1, a2⟩ := s.dm q (List.mem_cons_of_mem _ hq)
    refine ⟨?_, a2⟩
    rcases List.mem_cons.mp a1 with e | e
    · exact ((List.nodup_cons.mp s.nd).1 (List.mem_map.mpr ⟨q, hq, e⟩)).elim
    · exact e
  · obtain ⟨ws, e1, e2⟩ := s.sto q (List.mem_cons_of_mem _ hq)
    exact ⟨ws, e1, e2.mono up⟩
  · obtain ⟨v, e1, e2⟩ := s.env i d h
    exact ⟨v, e1, e2.mono up⟩
end

/-! ### judgements of expressions: from a state told by δ and μ to the value d, the store behind it μ' -/
def EX (K : PySem.W.Frag) (te : TE) (δ : List (Option DV)) (μ μ' : Sto) (d : DV) : Prop :=
  ∀ F M σ H, Sta K F M δ μ σ H → ∀ Q : VK, (∀ v H', Ex (hid M H) (hid M H') → Sta K F M δ μ' σ H' → Rp K (hid M H') v d → Q v H') → te σ H Q
def TX (K : PySem.W.Frag) (tt : TT) (δ : List (Option DV)) (μ μ' : Sto) (b : Bool) : Prop :=
  ∀ F M σ H, Sta K F M δ μ σ H → ∀ Q : Bool → Hp → Prop, (∀ H', Ex (hid M H) (hid M H') → Sta K F M δ μ' σ H' → Q b H') → tt σ H Q
def AX (K : PySem.W.Frag) (ta : TA) (δ : List (Option DV)) (μ μ' : Sto) (ds : List DV) : Prop :=
  ∀ F M σ H, Sta K F M δ μ σ H → ∀ Q : List V → Hp → Prop, (∀ vs H', Ex (hid M H) (hid M H') → Sta K F M δ μ' σ H' → RpAll K (hid M H') vs ds → Q vs H') → ta σ H Q
/-- a new list: it is a mutable one behind -/
def LX (K : PySem.W.Frag) (te : TE) (δ : List (Option DV)) (μ μ' : Sto) (ds : List DV) : Prop :=
  ∀ F M σ H, Sta K F M δ μ σ H → ∀ Q : VK, (∀ p H', H p = none → p ∉ M → Ex (hid M H) (hid M H') → Sta K F (p :: M) δ ((p, ds) :: μ') σ H' → Q (.ref p) H') → te σ H Q
/-- a part of a slice -/
def OX (K : PySem.W.Frag) (to : TO) (δ : List (Option DV)) (μ : Sto) (o : Option Int) : Prop :=
  ∀ F M σ H, Sta K F M δ μ σ H → ∀ Q : Option Int → Hp → Prop, (∀ H', Ex (hid M H) (hid M H') → Sta K F M δ μ σ H' → Q o H') → to σ H Q
/-- what stands in a sequence -/
inductive Items (μ : Sto) : DV → List DV → Prop
  | lst (ds : List DV) : Items μ (.lst ds) ds
  | tup (ds : List DV) : Items μ (.tup ds) ds
  | box {j : Nat} {l : Addr} {ds : List DV} (h : μ[j]? = some (l, ds)) : Items μ (.box l) ds
section
variable {K : PySem.W.Frag} {F H H' : Hp} {M : List Addr} {δ δ' : List (Option DV)} {μ μ' μ'' : Sto} {σ : L2.St} {ta tb te : TE} {t u : TT} {d e : DV} {ds es : List DV}
theorem Items.seq (s : Sta K F M δ μ σ H) {v : V} (r : Rp K (hid M H) v d) (it : Items μ d ds) : ∃ a vs, v = .ref a ∧ (SqL K H a vs ∨ SqT K H a vs) ∧ RpAll K (hid M H) vs ds := by
  cases it with
  | lst => cases r with | lst h1 h2 => exact ⟨_, _, rfl, .inl (ex_l hid_sub h1), h2⟩
  | tup => cases r with | tup h1 h2 => exact ⟨_, _, rfl, .inr (ex_t hid_sub h1), h2⟩
  | box h =>
    cases r
    obtain ⟨vs, h1, h2⟩ := s.sto _ (List.mem_of_getElem? h)
    exact ⟨_, vs, rfl, .inl (sq_of h1), h2⟩
theorem LX.ex (h : LX K te δ μ μ' ds) : EX K te δ μ μ' (.lst ds) := fun F M σ H s Q q => h F M σ H s Q fun p H' _ hp e s' =>
  let ⟨s2, r⟩ := s'.still hp
  q _ H' e s2 r
theorem ex_var {i : Nat} (h : δ[i]? = some (some d)) : EX K (tVar i) δ μ μ d := fun F M σ H s Q q =>
  let ⟨v, h1, h2⟩ := s.env i d h
  ⟨v, h1, q v H (Ex.refl _) s h2⟩
theorem ex_c {v : V} (h : isSc v = true := by rfl) : EX K (tC v) δ μ μ (sv v) := fun F M σ H s Q q => q v H (Ex.refl _) s (Rp.sc h)
theorem ex_int {i : Int} : EX K (tC (.int i)) δ μ μ (.int i) := ex_c
theorem ex_bl {i : Bool} : EX K (tC (.bl i)) δ μ μ (.bl i) := ex_c
theorem ex_str {i : Str} : EX K (tC (.str i)) δ μ μ (.str i) := ex_c
theorem ex_non : EX K (tC .non) δ μ μ .non := ex_c
/-- two ints -/
theorem ex_I0 {g : Int → Int → V} {a b : Int} (ha : EX K ta δ μ μ' (.int a)) (hb : EX K tb δ μ' μ'' (.int b)) (hs : isSc (g a b) = true := by rfl) : EX K (tOp (rI0 g) ta tb) δ μ μ'' (sv (g a b)) := fun F M σ H s Q q =>
  ha F M σ H s _ fun v H1 e1 s1 r1 => hb F M σ H1 s1 _ fun w H2 e2 s2 r2 => by
    cases r1
    cases r2
    exact ⟨a, b, rfl, rfl, q _ H2 (e1.trans e2) s2 (Rp.sc hs)⟩
theorem ex_I {C : Int → Int → Prop} {g : Int → Int → V} {a b : Int} (ha : EX K ta δ μ μ' (.int a)) (hb : EX K tb δ μ' μ'' (.int b)) (hc : C a b) (hs : isSc (g a b) = true := by rfl) : EX K (tOp (rI C g) ta tb) δ μ μ'' (sv (g a b)) := fun F M σ H s Q q =>
  ha F M σ H s _ fun v H1 e1 s1 r1 => hb F M σ H1 s1 _ fun w H2 e2 s2 r2 => by
    cases r1
    cases r2
    exact ⟨a, b, rfl, rfl, hc, q _ H2 (e1.trans e2) s2 (Rp.sc hs)⟩
theorem ex_U {g : Int → V} {a : Int} (ha : EX K ta δ μ μ' (.int a)) (hs : isSc (g a) = true := by rfl) : EX K (tUn (rU g) ta) δ μ μ' (sv (g a)) := fun F M σ H s Q q =>
  ha F M σ H s _ fun v H1 e1 s1 r1 => by
    cases r1
    exact ⟨a, rfl, q _ H1 e1 s1 (Rp.sc hs)⟩
/-- what is told of a value in another shape -/
theorem EX.is (h : EX K te δ μ μ' d) (e : d = e') : EX K te δ μ μ' e' := e ▸ h
theorem TX.is {b c : Bool} (h : TX K t δ μ μ' b) (e : b = c) : TX K t δ μ μ' c := e ▸ h
theorem LX.is (h : LX K te δ μ μ' ds) (e : ds = es) : LX K te δ μ μ' es := e ▸ h
/-- == and != of scalars -/
theorem ex_eqI {a b : Int} (ha : EX K ta δ μ μ' (.int a)) (hb : EX K tb δ μ' μ'' (.int b)) : EX K (tOp rEq ta tb) δ μ μ'' (.bl (decide (a = b))) := fun F M σ H s Q q =>
  ha F M σ H s _ fun v H1 e1 s1 r1 => hb F M σ H1 s1 _ fun w H2 e2 s2 r2 => by
    cases r1
    cases r2
    refine ⟨rfl, q _ H2 (e1.trans e2) s2 ?_⟩
    rw [show decide (V.int a = V.int b) = decide (a = b) by simp]
    exact .bl _
theorem ex_neI {a b : Int} (ha : EX K ta δ μ μ' (.int a)) (hb : EX K tb δ μ' μ'' (.int b)) : EX K (tOp rNe ta tb) δ μ μ'' (.bl (!decide (a = b))) := fun F M σ H s Q q =>
  ha F M σ H s _ fun v H1 e1 s1 r1 => hb F M σ H1 s1 _ fun w H2 e2 s2 r2 => by
    cases r1
    cases r2
    refine ⟨rfl, q _ H2 (e1.trans e2) s2 ?_⟩
    rw [show decide (V.int a = V.int b) = decide (a = b) by simp]
    exact .bl _
theorem ex_eqB {a b : Bool} (ha : EX K ta δ μ μ' (.bl a)) (hb : EX K tb δ μ' μ'' (.bl b)) : EX K (tOp rEq ta tb) δ μ μ'' (.bl (decide (a = b))) := fun F M σ H s Q q =>
  ha F M σ H s _ fun v H1 e1 s1 r1 => hb F M σ H1 s1 _ fun w H2 e2 s2 r2 => by
    cases r1
    cases r2
    refine ⟨rfl, q _ H2 (e1.trans e2) s2 ?_⟩
    rw [show decide (V.bl a = V.bl b) = decide (a = b) by simp]
    exact .bl _
theorem ex_neB {a b : Bool} (ha : EX K ta δ μ μ' (.bl a)) (hb : EX K tb δ μ' μ'' (.bl b)) : EX K (tOp rNe ta tb) δ μ μ'' (.bl (!decide (a = b))) := fun F M σ H s Q q =>
  ha F M σ H s _ fun v H1 e1 s1 r1 => hb F M σ H1 s1 _ fun w H2 e2 s2 r2 => by
    cases r1
    cases r2
    refine ⟨rfl, q _ H2 (e1.trans e2) s2 ?_⟩
    rw [show decide (V.bl a = V.bl b) = decide (a = b) by simp]
    exact .bl _
theorem ex_eqS {a b : Str} (ha : EX K ta δ μ μ' (.str a)) (hb : EX K tb δ μ' μ'' (.str b)) : EX K (tOp rEq ta tb) δ μ μ'' (.bl (decide (a = b))) := fun F M σ H s Q q =>
  ha F M σ H s _ fun v H1 e1 s1 r1 => hb F M σ H1 s1 _ fun w H2 e2 s2 r2 => by
    cases r1
    cases r2
    refine ⟨rfl, q _ H2 (e1.trans e2) s2 ?_⟩
    rw [show decide (V.str a = V.str b) = decide (a = b) by simp]
    exact .bl _
theorem ex_neS {a b : Str} (ha : EX K ta δ μ μ' (.str a)) (hb : EX K tb δ μ' μ'' (.str b)) : EX K (tOp rNe ta tb) δ μ μ'' (.bl (!decide (a = b))) := fun F M σ H s Q q =>
  ha F M σ H s _ fun v H1 e1 s1 r1 => hb F M σ H1 s1 _ fun w H2 e2 s2 r2 => by
    cases r1
    cases r2
    refine ⟨rfl, q _ H2 (e1.trans e2) s2 ?_⟩
    rw [show decide (V.str a = V.str b) = decide (a = b) by simp]
    exact .bl _
/-- tests -/
theorem tx_val {b : Bool} (h : EX K te δ μ μ' (.bl b)) : TX K (tB te) δ μ μ' b := fun F M σ H s Q q => h F M σ H s _ fun v H1 e1 s1 r1 => by
  cases r1
  exact ⟨b, rfl, q H1 e1 s1⟩
theorem tx_test {b : Bool} (h : EX K te δ μ μ' (.bl b)) : TX K (tTest te) δ μ μ' b := fun F M σ H s Q q => h F M σ H s _ fun v H1 e1 s1 r1 => by
  cases r1
  exact ⟨b, rfl, q H1 e1 s1⟩
theorem tx_not {b : Bool} (h : TX K t δ μ μ' b) : TX K (tNot t) δ μ μ' (!b) := fun F M σ H s Q q => h F M σ H s _ fun H1 e1 s1 => q H1 e1 s1
theorem tx_and {a b : Bool} (h1 : TX K t δ μ μ' a) (h2 : a = true → TX K u δ μ' μ' b) : TX K (tAnd t u) δ μ μ' (a && b) := fun F M σ H s Q q => h1 F M σ H s _ fun H1 e1 s1 => by
  cases a with
  | true =>
    show u σ H1 Q
    exact h2 rfl F M σ H1 s1 Q fun H2 e2 s2 => q H2 (e1.trans e2) s2
  | false =>
    show Q false H1
    exact q H1 e1 s1
theorem tx_or {a b : Bool} (h1 : TX K t δ μ μ' a) (h2 : a = false → TX K u δ μ' μ' b) : TX K (tOr t u) δ μ μ' (a || b) := fun F M σ H s Q q => h1 F M σ H s _ fun H1 e1 s1 => by
  cases a with
  | true =>
    show Q true H1
    exact q H1 e1 s1
  | false =>
    show u σ H1 Q
    exact h2 rfl F M σ H1 s1 Q fun H2 e2 s2 => q H2 (e1.trans e2) s2
/-- and, the second operand changing the store -/
theorem tx_andS {a b : Bool} (h1 : TX K t δ μ μ a) (h2 : a = true → TX K u δ μ μ' b) (h3 : a = false → μ' = μ) : TX K (tAnd t u) δ μ μ' (a && b) := fun F M σ H s Q q => h1 F M σ H s _ fun H1 e1 s1 => by
  cases a with
  | true =>
    show u σ H1 Q
    exact h2 rfl F M σ H1 s1 Q fun H2 e2 s2 => q H2 (e1.trans e2) s2
  | false =>
    show Q false H1
    exact q H1 e1 (by rw [h3 rfl]; exact s1)
theorem ex_andV {a b : Bool} (h1 : EX K ta δ μ μ' (.bl a)) (h2 : a = true → EX K tb δ μ' μ' (.bl b)) : EX K (tAndV ta tb) δ μ μ' (.bl (a && b)) := fun F M σ H s Q q => h1 F M σ H s _ fun v H1 e1 s1 r1 => by
  cases r1
  refine ⟨a, rfl, ?_⟩
  cases a with
  | true =>
    show tb σ H1 Q
    exact h2 rfl F M σ H1 s1 Q fun v H2 e2 s2 r2 => q v H2 (e1.trans e2) s2 r2
  | false =>
    show Q (.bl false) H1
    exact q _ H1 e1 s1 (.bl _)
theorem ex_orV {a b : Bool} (h1 : EX K ta δ μ μ' (.bl a)) (h2 : a = false → EX K tb δ μ' μ' (.bl b)) : EX K (tOrV ta tb) δ μ μ' (.bl (a || b)) := fun F M σ H s Q q => h1 F M σ H s _ fun v H1 e1 s1 r1 => by
  cases r1
  refine ⟨a, rfl, ?_⟩
  cases a with
  | true =>
    show Q (.bl true) H1
    exact q _ H1 e1 s1 (.bl _)
  | false =>
    show tb σ H1 Q
    exact h2 rfl F M σ H1 s1 Q fun v H2 e2 s2 r2 => q v H2 (e1.trans e2) s2 r2
theorem ex_notV {a : Bool} (h1 : EX K ta δ μ μ' (.bl a)) : EX K (tNotV ta) δ μ μ' (.bl (!a)) := fun F M σ H s Q q => h1 F M σ H s _ fun v H1 e1 s1 r1 => by
  cases r1
  exact ⟨a, rfl, q _ H1 e1 s1 (.bl _)⟩
theorem ex_if {b : Bool} (h : TX K t δ μ μ' b) (h1 : b = true → EX K ta δ μ' μ'' d) (h2 : b = false → EX K tb δ μ' μ'' d) : EX K (tIf t ta tb) δ μ μ'' d := fun F M σ H s Q q => h F M σ H s _ fun H1 e1 s1 => by
  cases b with
  | true =>
    show ta σ H1 Q
    exact h1 rfl F M σ H1 s1 Q fun v H2 e2 s2 r2 => q v H2 (e1.trans e2) s2 r2
  | false =>
    show tb σ H1 Q
    exact h2 rfl F M σ H1 s1 Q fun v H2 e2 s2 r2 => q v H2 (e1.trans e2) s2 r2
/-- arguments, displays -/
theorem ax_nil : AX K tNil δ μ μ [] := fun F M σ H s Q q => q [] H (Ex.refl _) s .nil
theorem ax_cons {tr : TA} (h : EX K ta δ μ μ' d) (hr : AX K tr δ μ' μ'' ds) : AX K (tCons ta tr) δ μ μ'' (d :: ds) := fun F M σ H s Q q =>
  h F M σ H s _ fun v H1 e1 s1 r1 => hr F M σ H1 s1 _ fun vs H2 e2 s2 r2 => q _ H2 (e1.trans e2) s2 (.cons (r1.mono e2) r2)
theorem new_ex (s : Sta K F M δ μ σ H) {p : Addr} {o : HO} (h : H p = none) : Ex (hid M H) (hid M (upd H p o)) := hid_mono (Ex.new h)
theorem ex_tup {ta : TA} (h : AX K ta δ μ μ' ds) (hl : ds.length ≤ 100000 := by simp) : EX K (tTup ta) δ μ μ' (.tup ds) := fun F M σ H s Q q =>
  h F M σ H s _ fun vs H1 e1 s1 r1 => ⟨sz_of (by rw [r1.length]; exact hl), fun p hp =>
    q _ _ (e1.trans (new_ex s1 hp)) (s1.mono (Ex.new hp)) (.tup (st_of (hid_get (s1.fresh hp) upd_same)) (r1.mono (new_ex s1 hp)))⟩
theorem lx_lst {ta : TA} (h : AX K ta δ μ μ' ds) (hl : ds.length ≤ 100000 := by simp) : LX K (tLst ta) δ μ μ' ds := fun F M σ H s Q q =>
  h F M σ H s _ fun vs H1 e1 s1 r1 => ⟨sz_of (by rw [r1.length]; exact hl), fun p hp => by
    have hp0 : H p = none := by
      cases h0 : H p with
      | none => rfl
      | some o =>
        by_cases hm : p ∈ M
        · exact (s1.al p hm hp).elim
        · have := hid_sub _ _ (e1 p o (hid_get hm h0))
          rw [hp] at this
          cases this
    exact q p _ hp0 (s1.fresh hp) (e1.trans (new_ex s1 hp)) (s1.newL hp r1)⟩
end
end G
set_option Elab.async false
set_option linter.all false
set_option maxRecDepth 100000
namespace G
open PySem L2 Evl
/-! ### locks: a list of one's own while other things are reckoned -/
section
variable {K : PySem.W.Frag} {F H H' H0 : Hp} {M : List Addr} {δ δ' : List (Option DV)} {μ μ' μ'' : Sto} {σ : L2.St} {ta tb te : TE} {t u : TT} {d e : DV} {ds es : List DV}
theorem back_none (s : Sta K F M δ μ σ H) (s' : Sta K F M δ' μ' σ H') (e : Ex (hid M H) (hid M H')) {p : Addr} (h : H' p = none) : H p = none := by
  cases h0 : H p with
  | none => rfl
  | some o =>
    by_cases hm : p ∈ M
    · exact (s'.al p hm h).elim
    · have := hid_sub _ _ (e p o (hid_get hm h0))
      rw [h] at this
      cases this
theorem Sta.lock {p : Addr} {vs : List V} (s : Sta K F (p :: M) δ ((p, ds) :: μ) σ H) (h : H p = some (.lst vs)) : Sta K (upd F p (.lst vs)) (p :: M) δ μ σ H := by
  have hn := List.nodup_cons.mp s.nd
  refine ⟨s.al, fun a o q => ?_, fun q hq => ?_, hn.2, fun q hq => s.sto q (List.mem_cons_of_mem _ hq), s.env, s.len⟩
  · by_cases e : a = p
    · subst e
      rw [upd_same] at q
      rw [h, q]
    · rw [upd_ne e] at q
      exact s.fr a o q
  · obtain ⟨h1, h2⟩ := s.dm q (List.mem_cons_of_mem _ hq)
    refine ⟨h1, ?_⟩
    have e : q.1 ≠ p := fun e => hn.1 (List.mem_map.mpr ⟨q, hq, e⟩)
    rw [upd_ne e]
    exact h2
theorem Sta.unlock {p : Addr} {vs : List V} (hF : F p = none) (s : Sta K (upd F p (.lst vs)) (p :: M) δ μ σ H) (r : RpAll K (hid (p :: M) H) vs ds) : Sta K F (p :: M) δ ((p, ds) :: μ) σ H := by
  have hp : H p = some (.lst vs) := s.fr p _ upd_same
  have key : ∀ q ∈ μ, q.1 ≠ p := fun q hq e => by
    have := (s.dm q hq).2
    rw [e, upd_same] at this
    cases this
  refine ⟨s.al, fun a o q => ?_, fun q hq => ?_, ?_, fun q hq => ?_, s.env, s.len⟩
  · exact s.fr a o (by rw [upd_ne (ne_of_none q hF)]; exact q)
  · rcases List.mem_cons.mp hq with rfl | hq
    · exact ⟨by simp, hF⟩
    · refine ⟨(s.dm q hq).1, ?_⟩
      have := (s.dm q hq).2
      rw [upd_ne (key q hq)] at this
      exact this
  · rw [List.map_cons, List.nodup_cons]
    refine ⟨fun hm => ?_, s.nd⟩
    obtain ⟨q, hq, e⟩ := List.mem_map.mp hm
    exact key q hq e
  · rcases List.mem_cons.mp hq with rfl | hq
    · exact ⟨vs, hp, r⟩
    · exact s.sto q hq
/-- the store's head list is changed -/
theorem Sta.pokeH {p : Addr} {ds' : List DV} {vs' : List V} (s : Sta K F (p :: M) δ ((p, ds) :: μ) σ H) (r : RpAll K (hid (p :: M) H) vs' ds') :
    Sta K F (p :: M) δ ((p, ds') :: μ) σ (upd H p (.lst vs')) ∧ Ex (hid (p :: M) H) (hid (p :: M) (upd H p (.lst vs'))) :=
  s.poke (j := 0) rfl r
theorem ex_less (e : Ex (hid (p :: M) H) (hid (p :: M) H')) (h : H p = none) : Ex (hid M H) (hid M H') := by
  rw [← hid_fresh (M := M) h]
  exact e.trans (hid_less fun a ha => List.mem_cons_of_mem _ ha)

theorem ex_two {H1 H2 : Hp} {p : Addr} (h : H p = none) (e1 : Ex (hid M H) (hid M H1)) (e2 : Ex (hid (p :: M) H1) (hid (p :: M) H2)) : Ex (hid M H) (hid M H2) := fun a o q => by
  have hn := hid_no q
  have hap : a ≠ p := ne_of_none (hid_sub a o q) h
  have q1 := hid_sub _ _ (e1 a o q)
  exact hid_get hn (hid_sub _ _ (e2 a o (hid_get (by simp [hap, hn]) q1)))

/-! ### items, lengths, copies -/
theorem atI_len {α β : Type} {xs : List α} {ys : List β} (hl : xs.length = ys.length) {i : Int} {y : β} (h : atI ys i = some y) : ∃ j, ixN xs.length i = some j ∧ ys[j]? = some y := by
  unfold atI at h
  rw [← hl] at h
  cases q : ixN xs.length i with
  | none => rw [q] at h; cases h
  | some j => rw [q] at h; exact ⟨j, rfl, h⟩
theorem RpAll.atI {vs : List V} {i : Int} (r : RpAll K H vs ds) (h : L2.atI ds i = some d) : ∃ v, L2.atI vs i = some v ∧ Rp K H v d := by
  obtain ⟨j, h1, h2⟩ := atI_len (xs := vs) r.length h
  obtain ⟨v, h3, h4⟩ := r.get h2
  exact ⟨v, by unfold L2.atI; rw [h1]; exact h3, h4⟩
/-- xs[i], t[i] -/
theorem ex_ix {i : Int} (ha : EX K ta δ μ μ' d) (hb : EX K tb δ μ' μ'' (.int i)) (it : Items μ'' d ds) (h : L2.atI ds i = some e) : EX K (tOp (rIx K) ta tb) δ μ μ'' e := fun F M σ H s Q q =>
  ha F M σ H s _ fun v H1 e1 s1 r1 => hb F M σ H1 s1 _ fun w H2 e2 s2 r2 => by
    cases r2
    obtain ⟨a, vs, rfl, hq, r⟩ := it.seq s2 (r1.mono e2)
    obtain ⟨x, hx, rx⟩ := r.atI h
    rcases hq with hq | hq
    · exact .inl ⟨a, vs, i, x, rfl, rfl, hq, hx, q x H2 (e1.trans e2) s2 rx⟩
    · exact .inr (.inl ⟨a, vs, i, x, rfl, rfl, hq, hx, q x H2 (e1.trans e2) s2 rx⟩)
theorem ex_ixL {i : Int} (ha : EX K ta δ μ μ' (.lst ds)) (hb : EX K tb δ μ' μ'' (.int i)) (h : L2.atI ds i = some e) : EX K (tOp (rIx K) ta tb) δ μ μ'' e := ex_ix ha hb (.lst _) h
theorem ex_ixT {i : Int} (ha : EX K ta δ μ μ' (.tup ds)) (hb : EX K tb δ μ' μ'' (.int i)) (h : L2.atI ds i = some e) : EX K (tOp (rIx K) ta tb) δ μ μ'' e := ex_ix ha hb (.tup _) h
def rLenQ (K : PySem.W.Frag) : List V → Hp → VK → Prop := fun xs H Q => ∃ p ys, xs = [.ref p] ∧ (SqL K H p ys ∨ SqT K H p ys) ∧ Q (.int ys.length) H
theorem call_lenQ {X : Cx} : CallR X (.builtin "len") (rLenQ X.K) := call_len_seq
theorem ex_len (ha : EX K ta δ μ μ' d) (it : Items μ' d ds) : EX K (tCB (rLenQ K) (tCons ta tNil)) δ μ μ' (.int ds.length) := fun F M σ H s Q q =>
  ha F M σ H s _ fun v H1 e1 s1 r1 => by
    obtain ⟨a, vs, rfl, hq, r⟩ := it.seq s1 r1
    refine ⟨a, vs, rfl, hq, ?_⟩
    rw [r.length]
    exact q _ H1 e1 s1 (.int _)
def rListQ (K : PySem.W.Frag) : List V → Hp → VK → Prop := fun xs H Q => ∃ p ys, xs = [.ref p] ∧ (SqL K H p ys ∨ SqT K H p ys) ∧ ∀ l, H l = none → Q (.ref l) (upd H l (.lst ys))
theorem call_listQ {X : Cx} : CallR X (.type "list") (rListQ X.K) := call_list_of
theorem lx_list (ha : EX K ta δ μ μ' d) (it : Items μ' d ds) : LX K (tCB (rListQ K) (tCons ta tNil)) δ μ μ' ds := fun F M σ H s Q q =>
  ha F M σ H s _ fun v H1 e1 s1 r1 => by
    obtain ⟨a, vs, rfl, hq, r⟩ := it.seq s1 r1
    exact ⟨a, vs, rfl, hq, fun p hp => q p _ (back_none s s1 e1 hp) (s1.fresh hp) (e1.trans (new_ex s1 hp)) (s1.newL hp r)⟩
def rTupQ (K : PySem.W.Frag) : List V → Hp → VK → Prop := fun xs H Q => ∃ p ys, xs = [.ref p] ∧ ((SqL K H p ys ∧ ∀ l, H l = none → Q (.ref l) (upd H l (.tup ys))) ∨ (SqT K H p ys ∧ Q (.ref p) H))
theorem call_tupQ {X : Cx} : CallR X (.type "tuple") (rTupQ X.K) := call_tuple_of
theorem ex_tuple (ha : EX K ta δ μ μ' d) (it : Items μ' d ds) : EX K (tCB (rTupQ K) (tCons ta tNil)) δ μ μ' (.tup ds) := fun F M σ H s Q q =>
  ha F M σ H s _ fun v H1 e1 s1 r1 => by
    have mk : ∀ (a : Addr) (vs : List V), SqL K H1 a vs → RpAll K (hid M H1) vs ds → (∃ p ys, [V.ref a] = [.ref p] ∧ ((SqL K H1 p ys ∧ ∀ l, H1 l = none → Q (.ref l) (upd H1 l (.tup ys))) ∨ (SqT K H1 p ys ∧ Q (.ref p) H1))) := fun a vs hq r =>
      ⟨a, vs, rfl, .inl ⟨hq, fun p hp => q _ _ (e1.trans (new_ex s1 hp)) (s1.mono (Ex.new hp)) (.tup (st_of (hid_get (s1.fresh hp) upd_same)) (r.mono (new_ex s1 hp)))⟩⟩
    cases it with
    | lst => cases r1 with | lst h1 h2 => exact mk _ _ (ex_l hid_sub h1) h2
    | tup => cases r1 with | tup h1 h2 => exact ⟨_, _, rfl, .inr ⟨ex_t hid_sub h1, q _ H1 e1 s1 (.tup h1 h2)⟩⟩
    | box h =>
      cases r1
      obtain ⟨vs, h1, h2⟩ := s1.sto _ (List.mem_of_getElem? h)
      exact mk _ _ (sq_of h1) h2
theorem ex_abs {i : Int} (ha : EX K ta δ μ μ' (.int i)) : EX K (tCB (fun xs H Q => ∃ i, xs = [.int i] ∧ Q (.int (if i < 0 then -i else i)) H) (tCons ta tNil)) δ μ μ' (.int (if i < 0 then -i else i)) := fun F M σ H s Q q =>
  ha F M σ H s _ fun v H1 e1 s1 r1 => by
    cases r1
    exact ⟨i, rfl, q _ H1 e1 s1 (.int _)⟩
theorem ex_toI {i : Int} (ha : EX K ta δ μ μ' (.int i)) : EX K (tCB (fun xs H Q => (∃ i, xs = [.int i] ∧ Q (.int i) H) ∨ ∃ k, xs = [.bl k] ∧ Q (.int (if k then 1 else 0)) H) (tCons ta tNil)) δ μ μ' (.int i) := fun F M σ H s Q q =>
  ha F M σ H s _ fun v H1 e1 s1 r1 => by
    cases r1
    exact .inl ⟨i, rfl, q _ H1 e1 s1 (.int _)⟩
theorem ex_toB {b : Bool} (ha : EX K ta δ μ μ' (.bl b)) : EX K (tCB (fun xs H Q => (∃ i, xs = [.int i] ∧ Q (.int i) H) ∨ ∃ k, xs = [.bl k] ∧ Q (.int (if k then 1 else 0)) H) (tCons ta tNil)) δ μ μ' (.int (if b then 1 else 0)) := fun F M σ H s Q q =>
  ha F M σ H s _ fun v H1 e1 s1 r1 => by
    cases r1
    exact .inr ⟨b, rfl, q _ H1 e1 s1 (.int _)⟩
theorem RpAll.ints : ∀ {vs : List V} {ns : List Int}, RpAll K H vs (ns.map DV.int) → vs = ns.map V.int
  | _, [], .nil => rfl
  | _, n :: ns, .cons r t => by
    cases r
    rw [RpAll.ints t]
    rfl
theorem RpAll.bools : ∀ {vs : List V} {ns : List Bool}, RpAll K H vs (ns.map DV.bl) → vs = ns.map V.bl
  | _, [], .nil => rfl
  | _, n :: ns, .cons r t => by
    cases r
    rw [RpAll.bools t]
    rfl
theorem ex_sum {ns : List Int} (ha : EX K ta δ μ μ' (.lst (ns.map .int))) : EX K (tCB (rSum K) (tCons ta tNil)) δ μ μ' (.int ns.sum) := fun F M σ H s Q q =>
  ha F M σ H s _ fun v H1 e1 s1 r1 => by
    cases r1 with
    | lst h1 h2 =>
      cases h2.ints
      exact ⟨_, ns, rfl, ex_l hid_sub h1, q _ H1 e1 s1 (.int _)⟩
theorem ex_all {bs : List Bool} (ha : EX K ta δ μ μ' (.lst (bs.map .bl))) : EX K (tCB (rAll K) (tCons ta tNil)) δ μ μ' (.bl (bs.all id)) := fun F M σ H s Q q =>
  ha F M σ H s _ fun v H1 e1 s1 r1 => by
    cases r1 with
    | lst h1 h2 =>
      cases h2.bools
      exact ⟨_, bs, rfl, ex_l hid_sub h1, q _ H1 e1 s1 (.bl _)⟩
theorem ex_any {bs : List Bool} (ha : EX K ta δ μ μ' (.lst (bs.map .bl))) : EX K (tCB (rAny K) (tCons ta tNil)) δ μ μ' (.bl (bs.any id)) := fun F M σ H s Q q =>
  ha F M σ H s _ fun v H1 e1 s1 r1 => by
    cases r1 with
    | lst h1 h2 =>
      cases h2.bools
      exact ⟨_, bs, rfl, ex_l hid_sub h1, q _ H1 e1 s1 (.bl _)⟩
/-! ### slices, sums of sequences -/
def cutD (xs : List DV) (lo hi : Option Int) : List DV := (xs.drop (HT.sIx xs.length 0 lo)).take (HT.sIx xs.length xs.length hi - HT.sIx xs.length 0 lo)
theorem RpAll.cut {vs : List V} (lo hi : Option Int) (r : RpAll K H vs ds) : RpAll K H (cutV vs lo hi) (cutD ds lo hi) := by
  unfold cutV cutD
  rw [r.length]
  exact (r.drop _).take _
theorem ox_none : OX K tNoPart δ μ none := fun F M σ H s Q q => q H (Ex.refl _) s
theorem ox_some {i : Int} (h : EX K te δ μ μ (.int i)) : OX K (tPart te) δ μ (some i) := fun F M σ H s Q q => h F M σ H s _ fun v H1 e1 s1 r1 => by
  cases r1
  exact ⟨i, rfl, q H1 e1 s1⟩
theorem lx_sl {tl th : TO} {lo hi : Option Int} (h : EX K te δ μ μ' (.lst ds)) (h1 : OX K tl δ μ' lo) (h2 : OX K th δ μ' hi) : LX K (tSl (rSlL K) te tl th) δ μ μ' (cutD ds lo hi) := fun F M σ H s Q q =>
  h F M σ H s _ fun v H1 e1 s1 r1 => h1 F M σ H1 s1 _ fun H2 e2 s2 => h2 F M σ H2 s2 _ fun H3 e3 s3 => by
    cases r1 with
    | lst g1 g2 =>
      refine ⟨_, _, rfl, ex_l ((e2.trans e3).trans hid_sub) g1, fun p hp => ?_⟩
      have e13 := (e1.trans e2).trans e3
      exact q p _ (back_none s s3 e13 hp) (s3.fresh hp) (e13.trans (new_ex s3 hp)) (s3.newL hp ((g2.mono (e2.trans e3)).cut lo hi))
theorem lx_slB {tl th : TO} {lo hi : Option Int} {a : Addr} {j : Nat} (h : EX K te δ μ μ' (.box a)) (h1 : OX K tl δ μ' lo) (h2 : OX K th δ μ' hi) (hj : μ'[j]? = some (a, ds)) : LX K (tSl (rSlL K) te tl th) δ μ μ' (cutD ds lo hi) := fun F M σ H s Q q =>
  h F M σ H s _ fun v H1 e1 s1 r1 => h1 F M σ H1 s1 _ fun H2 e2 s2 => h2 F M σ H2 s2 _ fun H3 e3 s3 => by
    cases r1
    obtain ⟨vs, g1, g2⟩ := s3.sto _ (List.mem_of_getElem? hj)
    refine ⟨_, _, rfl, sq_of g1, fun p hp => ?_⟩
    have e13 := (e1.trans e2).trans e3
    exact q p _ (back_none s s3 e13 hp) (s3.fresh hp) (e13.trans (new_ex s3 hp)) (s3.newL hp (g2.cut lo hi))
theorem ex_slT {tl th : TO} {lo hi : Option Int} (h : EX K te δ μ μ' (.tup ds)) (h1 : OX K tl δ μ' lo) (h2 : OX K th δ μ' hi) : EX K (tSl (rSlA K) te tl th) δ μ μ' (.tup (cutD ds lo hi)) := fun F M σ H s Q q =>
  h F M σ H s _ fun v H1 e1 s1 r1 => h1 F M σ H1 s1 _ fun H2 e2 s2 => h2 F M σ H2 s2 _ fun H3 e3 s3 => by
    cases r1 with
    | @tup a xs _ g1 g2 =>
      have e13 := (e1.trans e2).trans e3
      have g3 := g2.mono (e2.trans e3)
      refine ⟨_, _, rfl, ex_t ((e2.trans e3).trans hid_sub) g1, fun hw => ?_, fun _ p hp => ?_⟩
      · have hc : cutD ds lo hi = ds := by
          unfold cutD
          rw [← g2.length, hw.1, hw.2, List.drop_zero, Nat.sub_zero, g2.length, List.take_length]
        refine q _ H3 e13 s3 ?_
        rw [hc]
        exact .tup (ex_t (e2.trans e3) g1) g3
      · exact q _ _ (e13.trans (new_ex s3 hp)) (s3.mono (Ex.new hp)) (.tup (st_of (hid_get (s3.fresh hp) upd_same)) ((g3.cut lo hi).mono (new_ex s3 hp)))
theorem ex_catT (ha : EX K ta δ μ μ' (.tup ds)) (hb : EX K tb δ μ' μ'' (.tup es)) (hl : ds.length + es.length ≤ 100000) : EX K (tOp (rCatA K) ta tb) δ μ μ'' (.tup (ds ++ es)) := fun F M σ H s Q q =>
  ha F M σ H s _ fun v H1 e1 s1 r1 => hb F M σ H1 s1 _ fun w H2 e2 s2 r2 => by
    cases r1 with
    | tup g1 g2 =>
      cases r2 with
      | tup k1 k2 =>
        have g3 := g2.mono e2
        refine ⟨_, _, _, _, rfl, rfl, ex_t (e2.trans hid_sub) g1, ex_t hid_sub k1, sz_of (by rw [g2.length, k2.length]; exact hl), fun hx => ?_, fun _ hy => ?_, fun _ _ p hp => ?_⟩
        · subst hx
          cases g2
          exact q _ H2 (e1.trans e2) s2 (.tup k1 k2)
        · subst hy
          cases k2
          exact q _ H2 (e1.trans e2) s2 (by rw [List.append_nil]; exact .tup (ex_t e2 g1) g3)
        · exact q _ _ ((e1.trans e2).trans (new_ex s2 hp)) (s2.mono (Ex.new hp)) (.tup (st_of (hid_get (s2.fresh hp) upd_same)) ((g3.app k2).mono (new_ex s2 hp)))
/-- list + list, both new -/
theorem lx_cat (ha : LX K ta δ μ μ' ds) (hb : LX K tb δ μ' μ'' es) (hl : ds.length + es.length ≤ 100000) : LX K (tOp rCat ta tb) δ μ μ'' (ds ++ es) := fun F M σ H s Q q =>
  ha F M σ H s _ fun p H1 hp hpM e1 s1 => by
    obtain ⟨vs, h1, r1⟩ := s1.sto (p, ds) (by simp)
    have sl := s1.lock h1
    refine hb _ _ σ H1 sl _ fun p2 H2 hp2 hpM2 e2 s2 => ?_
    obtain ⟨ws, h2, r2⟩ := s2.sto (p2, es) (by simp)
    obtain ⟨s3, _⟩ := s2.still hpM2
    have h1' : H2 p = some (.lst vs) := s3.fr p _ upd_same
    refine ⟨p, p2, vs, ws, rfl, rfl, h1', h2, sz_of (by rw [r1.length, r2.length]; exact hl), fun l hl0 => ?_⟩
    have r1' := r1.mono e2
    have r2' : RpAll K (hid (p :: M) H2) ws es := r2.mono (hid_less fun a ha => List.mem_cons_of_mem _ ha)
    have s4 := Sta.unlock (s.freshF hp) s3 r1'
    obtain ⟨s5, _⟩ := s4.still hpM
    have e12 : Ex (hid M H) (hid M H2) := ex_two hp e1 e2
    have up : Ex (hid (p :: M) H2) (hid M H2) := hid_less fun a ha => List.mem_cons_of_mem _ ha
    exact q l _ (back_none s s5 e12 hl0) (s5.fresh hl0) (e12.trans (new_ex s5 hl0)) (s5.newL hl0 ((r1'.mono up).app (r2'.mono up)))
end
end G
set_option Elab.async false
set_option linter.all false
set_option maxRecDepth 100000
namespace G
open PySem L2 Evl
mutual
def DV.py : DV → PyData
  | .non => .none
  | .bl b => .bool b
  | .int i => .int i
  | .str x => .str x
  | .lst ds => .list (pys ds)
  | .tup ds => .tuple (pys ds)
  | .ins _ _ => .none
  | .box _ => .none
def pys : List DV → List PyData
  | [] => []
  | d :: ds => d.py :: pys ds
end
mutual
def DV.pl : DV → Bool
  | .lst ds => pls ds
  | .tup ds => pls ds
  | .ins _ _ => false
  | .box _ => false
  | _ => true
def pls : List DV → Bool
  | [] => true
  | d :: ds => d.pl && pls ds
end
/-- an own class, as isinstance asks for it -/
structure OwnC (K : PySem.W.Frag) (C : Addr) : Prop where
  cl : Cls K C
  ha : PySem.W.findIn K (.ref C) "__class__" = some (some (.builtin "object.__class__"))
  hn : PySem.W.specialIn K (.builtin "object.__class__") "__get__" = some (some (.builtin "getset_descriptor.__get__"))
  htk : PySem.W.takesIn K (.builtin "object.__class__") = some true
  hm : PySem.W.mroIn K C (.type "object") = some true
inductive TyD (K : PySem.W.Frag) : DV → Value → Prop
  | non : TyD K .non (.type "NoneType")
  | bl {b : Bool} : TyD K (.bl b) (.type "bool")
  | int {i : Int} : TyD K (.int i) (.type "int")
  | str {x : Str} : TyD K (.str x) (.type "str")
  | lst {ds : List DV} : TyD K (.lst ds) (.type "list")
  | tup {ds : List DV} : TyD K (.tup ds) (.type "tuple")
  | ins {C : Addr} {fs : List (Str × DV)} (c : OwnC K C) : TyD K (.ins C fs) (.ref C)
section
variable {K : PySem.W.Frag} {F H H' H0 : Hp} {M : List Addr} {δ δ' : List (Option DV)} {μ μ' μ'' : Sto} {σ : L2.St} {ta tb te : TE} {t u : TT} {d e : DV} {ds es : List DV}
mutual
theorem Rp.dp : ∀ {d : DV} {v : V}, d.pl = true → Rp K H v d → Dp K H v d.py
  | .non, _, _, h => by cases h; exact .non
  | .bl b, _, _, h => by cases h; exact .bl _
  | .int b, _, _, h => by cases h; exact .int _
  | .str b, _, _, h => by cases h; exact .str _
  | .lst ds, _, p, h => by cases h with | lst h1 h2 => exact .lst h1 (RpAll.dp p h2)
  | .tup ds, _, p, h => by cases h with | tup h1 h2 => exact .tup h1 (RpAll.dp p h2)
  | .ins C ds, _, p, h => nomatch p
  | .box a, _, p, h => nomatch p
theorem RpAll.dp : ∀ {ds : List DV} {vs : List V}, pls ds = true → RpAll K H vs ds → DpAll K H vs (pys ds)
  | [], _, _, h => by cases h; exact .nil
  | d :: ds, _, p, h => by
    have p' : (d.pl && pls ds) = true := p
    rw [Bool.and_eq_true] at p'
    cases h with | cons h1 h2 => exact .cons (Rp.dp p'.1 h1) (RpAll.dp p'.2 h2)
end
/-- == and != of data -/
theorem ex_eqD (ha : EX K ta δ μ μ' d) (hb : EX K tb δ μ' μ'' e) (p1 : d.pl = true) (p2 : e.pl = true) (s1 : SeqAt.shaped d.py = true) (s2 : SeqAt.shaped e.py = true) : EX K (tOp (rEqD K) ta tb) δ μ μ'' (.bl (PyData.eqv d.py e.py)) := fun F M σ H s Q q =>
  ha F M σ H s _ fun v H1 e1 z1 r1 => hb F M σ H1 z1 _ fun w H2 e2 z2 r2 =>
    ⟨_, _, Rp.dp p1 (((r1.mono e2)).mono hid_sub), Rp.dp p2 (r2.mono hid_sub), s1, s2, q _ H2 (e1.trans e2) z2 (.bl _)⟩
theorem ex_neD (ha : EX K ta δ μ μ' d) (hb : EX K tb δ μ' μ'' e) (p1 : d.pl = true) (p2 : e.pl = true) (s1 : SeqAt.shaped d.py = true) (s2 : SeqAt.shaped e.py = true) : EX K (tOp (rNeD K) ta tb) δ μ μ'' (.bl (!PyData.eqv d.py e.py)) := fun F M σ H s Q q =>
  ha F M σ H s _ fun v H1 e1 z1 r1 => hb F M σ H1 z1 _ fun w H2 e2 z2 r2 =>
    ⟨_, _, Rp.dp p1 (((r1.mono e2)).mono hid_sub), Rp.dp p2 (r2.mono hid_sub), s1, s2, q _ H2 (e1.trans e2) z2 (.bl _)⟩
theorem tyl {a : Addr} {xs : List V} (h : SqL K H a xs) : TyX K H (.ref a) (.type "list") := by
  rcases h with (h | ⟨o, h⟩) | ⟨o, its, n, h1, h2, _⟩
  · exact .base (.lst h)
  · exact .base (.frz h)
  · exact .kList h1 h2
theorem tyt {a : Addr} {xs : List V} (h : SqT K H a xs) : TyX K H (.ref a) (.type "tuple") := by
  rcases h with (h | ⟨o, h⟩) | ⟨o, its, n, h1, h2, _⟩
  · exact .base (.tup h)
  · exact .fTuple h
  · exact .kTuple h1 h2
theorem TyD.x {v : V} {t : Value} (ty : TyD K d t) (r : Rp K H v d) : TyX K H v t := by
  cases ty with
  | non => cases r; exact .base .non
  | bl => cases r; exact .base (.bl _)
  | int => cases r; exact .base (.int _)
  | str => cases r; exact .base (.str _)
  | lst => cases r with | lst h _ => exact tyl h
  | tup => cases r with | tup h _ => exact tyt h
  | ins c => cases r with | ins h _ => exact .base (.ins h c.cl c.ha c.hn c.htk c.hm)
/-- isinstance(x, C) -/
theorem ex_isi {c : V} {w z : Value} {b : Bool} (ha : EX K ta δ μ μ' d) (ty : TyD K d w) (k : ClsV c z) (h : PySem.W.kitOne K w z = some b) (hs : tb = tC c := by rfl) : EX K (tCB (rIsi K) (tCons ta (tCons tb tNil))) δ μ μ' (.bl b) := fun F M σ H s Q q =>
  ha F M σ H s _ fun v H1 e1 z1 r1 => by
    subst hs
    exact ⟨v, c, w, z, b, rfl, k, ty.x (r1.mono hid_sub), h, q _ H1 e1 z1 (.bl _)⟩
theorem ex_isiB {n : String} {w : String} {b : Bool} (ha : EX K ta δ μ μ' d) (ty : TyD K d (.type w)) (h : kitB w n = some b) : EX K (tCB (rIsi K) (tCons ta (tCons (tC (.ty n)) tNil))) δ μ μ' (.bl b) := ex_isi ha ty (.ty n) (kit_ty h)
/-- isinstance(x, (A, B)) -/
theorem ex_isi2 {n m : String} {w : Value} {b : Bool} (ha : EX K ta δ μ μ' d) (ty : TyD K d w) (h : PySem.W.kitAny K w [.type n, .type m] = some b) : EX K (tCB (rIsiT K) (tCons ta (tCons (tTup (tCons (tC (.ty n)) (tCons (tC (.ty m)) tNil))) tNil))) δ μ μ' (.bl b) := fun F M σ H s Q q =>
  ha F M σ H s _ fun v H1 e1 z1 r1 => by
    refine ⟨(by show 2 ≤ sizeLine; decide), fun p hp => ?_⟩
    exact ⟨v, p, [.ty n, .ty m], w, [.type n, .type m], b, rfl, upd_same, .cons (.ty n) (.cons (.ty m) .nil), ty.x ((r1.mono (new_ex z1 hp)).mono hid_sub), h, q _ _ (e1.trans (new_ex z1 hp)) (z1.mono (Ex.new hp)) (.bl _)⟩
theorem kit2 {a n m : String} {b c r : Bool} (h1 : kitB a n = some b) (h2 : kitB a m = some c) (h : (b || c) = r) : PySem.W.kitAny K (.type a) [.type n, .type m] = some r := by
  subst h
  refine kitAny_cons (kit_ty h1) (fun hb => ?_) (fun hb => by rw [hb]; rfl)
  rw [hb]
  refine kitAny_cons (kit_ty h2) (fun hc => ?_) (fun hc => by rw [hc]; rfl)
  rw [hc]
  exact kitAny_nil
/-- o.f -/
theorem ex_fld {C : Addr} {fs : List (Str × DV)} {f : Str} (ha : EX K ta δ μ μ' (.ins C fs)) (c : Cls K C) (n : NoAttr K C f) (h : fs.lookup f = some d) : EX K (tFld K ta f) δ μ μ' d := fun F M σ H s Q q =>
  ha F M σ H s _ fun v H1 e1 s1 r1 => by
    cases r1 with
    | ins h1 h2 =>
      obtain ⟨w, l, r⟩ := h2.look h
      exact ⟨_, C, _, _, w, rfl, hid_sub _ _ h1, c, n, l, q w H1 e1 s1 r⟩

/-! ### what defs promise -/
/-- from data to data, all that stood stands -/
def spD (K : PySem.W.Frag) (R : List DV → DV → Prop) : Sp := fun vs H Q _ => ∃ M ds r, (∀ a ∈ M, H a ≠ none) ∧ RpAll K (hid M H) vs ds ∧ R ds r ∧ ∀ v H', Ex H H' → Rp K (hid M H') v r → Q v H'
/-- .. to a new list -/
def spL (K : PySem.W.Frag) (R : List DV → List DV → Prop) : Sp := fun vs H Q _ => ∃ M ds rs, (∀ a ∈ M, H a ≠ none) ∧ RpAll K (hid M H) vs ds ∧ R ds rs ∧ ∀ p ws H', H p = none → Ex H H' → H' p = some (.lst ws) → RpAll K (hid (p :: M) H') ws rs → Q (.ref p) H'
/-- .. the first argument a list that is changed: from its items s to s' -/
def spS (K : PySem.W.Frag) (R : List DV → List DV → List DV → DV → Prop) : Sp := fun vs H Q _ => ∃ M st ws xs s ds s' r, vs = .ref st :: ws ∧ st ∈ M ∧ (∀ a ∈ M, H a ≠ none) ∧ H st = some (.lst xs) ∧ RpAll K (hid M H) xs s ∧ RpAll K (hid M H) ws ds ∧ R s ds s' r ∧
  ∀ v xs' H', (∀ a o, a ≠ st → H a = some o → H' a = some o) → H' st = some (.lst xs') → RpAll K (hid M H') xs' s' → Rp K (hid M H') v r → Q v H'
theorem ex_call {R : List DV → DV → Prop} {ta : TA} {E : XK} (ha : AX K ta δ μ μ' ds) (h : R ds d) : EX K (tCall (spD K R) [] E ta) δ μ μ' d := fun F M σ H s Q q =>
  ha F M σ H s _ fun vs H1 e1 s1 r1 => ⟨M, ds, d, s1.al, by rw [List.append_nil]; exact r1, h, fun v H2 e2 r => q v H2 (e1.trans (hid_mono e2)) (s1.mono e2) r⟩
theorem Sta.newP (s : Sta K F M δ μ σ H) (e : Ex H H') {p : Addr} {ws : List V} (h0 : H p = none) (h1 : H' p = some (.lst ws)) (r : RpAll K (hid (p :: M) H') ws ds) : Sta K F (p :: M) δ ((p, ds) :: μ) σ H' := by
  have hp := s.fresh h0
  have s' := s.mono e
  have up : Ex (hid M H) (hid (p :: M) H') := fun a o h => by
    have hn := hid_no h
    have hap : a ≠ p := ne_of_none (hid_sub a o h) h0
    exact hid_get (by simp [hap, hn]) (e _ _ (hid_sub _ _ h))
  have key : ∀ q ∈ μ, q.1 ≠ p := fun q hq hqp => hp (by rw [← hqp]; exact (s.dm q hq).1)
  refine ⟨fun a ha => ?_, s'.fr, fun q hq => ?_, ?_, fun q hq => ?_, fun i d h => ?_, s.len⟩
  · rcases List.mem_cons.mp ha with rfl | ha
    · rw [h1]; simp
    · exact s'.al a ha
  · rcases List.mem_cons.mp hq with rfl | hq
    · exact ⟨by simp, s.freshF h0⟩
    · exact ⟨List.mem_cons_of_mem _ (s.dm q hq).1, (s.dm q hq).2⟩
  · rw [List.map_cons, List.nodup_cons]
    refine ⟨fun hm => ?_, s.nd⟩
    obtain ⟨q, hq, hqp⟩ := List.mem_map.mp hm
    exact key q hq hqp
  · rcases List.mem_cons.mp hq with rfl | hq
    · exact ⟨ws, h1, r⟩
    · obtain ⟨xs, g1, g2⟩ := s.sto q hq
      exact ⟨xs, e _ _ g1, g2.mono up⟩
  · obtain ⟨v, g1, g2⟩ := s.env i d h
    exact ⟨v, g1, g2.mono up⟩
theorem lx_call {R : List DV → List DV → Prop} {ta : TA} {E : XK} (ha : AX K ta δ μ μ' ds) (h : R ds es) : LX K (tCall (spL K R) [] E ta) δ μ μ' es := fun F M σ H s Q q =>
  ha F M σ H s _ fun vs H1 e1 s1 r1 => ⟨M, ds, es, s1.al, by rw [List.append_nil]; exact r1, h, fun p ws H2 hp e2 h2 r =>
    q p H2 (back_none s s1 e1 hp) (s1.fresh hp) (e1.trans (hid_mono e2)) (s1.newP e2 hp h2 r)⟩
theorem set_fst {μ : Sto} {j : Nat} {l : Addr} {ds ds' : List DV} (hj : μ[j]? = some (l, ds)) : (μ.set j (l, ds')).map Prod.fst = μ.map Prod.fst := by
  rw [List.map_set]
  refine List.ext_getElem? fun n => ?_
  by_cases e : j = n
  · subst e
    have hl : j < (μ.map Prod.fst).length := by
      rw [List.length_map]
      exact (List.getElem?_eq_some_iff.mp hj).1
    rw [List.getElem?_set_self hl, List.getElem?_map, hj]
    rfl
  · rw [List.getElem?_set_ne e]
theorem Sta.after (s : Sta K F M δ μ σ H) {j : Nat} {l : Addr} {xs' : List V} {ds' : List DV} (hj : μ[j]? = some (l, ds)) (k : ∀ a o, a ≠ l → H a = some o → H' a = some o) (h : H' l = some (.lst xs')) (r : RpAll K (hid M H') xs' ds') :
    Sta K F M δ (μ.set j (l, ds')) σ H' ∧ Ex (hid M H) (hid M H') := by
  have hm : (l, ds) ∈ μ := List.mem_of_getElem? hj
  have hlM := (s.dm _ hm).1
  have ex : Ex (hid M H) (hid M H') := fun a o q => by
    have hn := hid_no q
    exact hid_get hn (k a o (fun e => hn (by rw [e]; exact hlM)) (hid_sub _ _ q))
  refine ⟨⟨fun a ha => ?_, fun a o q => ?_, fun q hq => ?_, ?_, fun q hq => ?_, fun i d q => ?_, s.len⟩, ex⟩
  · by_cases e : a = l
    · rw [e, h]; simp
    · intro q
      cases g : H a with
      | none => exact s.al a ha g
      | some o => rw [k a o e g] at q; cases q
  · exact k a o (ne_of_none q (s.dm _ hm).2) (s.fr a o q)
  · rcases List.mem_or_eq_of_mem_set hq with z | z
    · exact s.dm q z
    · subst z
      exact ⟨hlM, (s.dm _ hm).2⟩
  · rw [set_fst hj]
    exact s.nd
  · obtain ⟨n, hn⟩ := List.getElem?_of_mem hq
    by_cases e : j = n
    · subst e
      rw [List.getElem?_set_self (List.getElem?_eq_some_iff.mp hj).1] at hn
      cases hn
      exact ⟨xs', h, r⟩
    · rw [List.getElem?_set_ne e] at hn
      obtain ⟨ws, g1, g2⟩ := s.sto q (List.mem_of_getElem? hn)
      refine ⟨ws, ?_, g2.mono ex⟩
      have hne : q.1 ≠ l := fun z => e (by
        have a1 : (μ.map Prod.fst)[n]? = some l := by rw [List.getElem?_map, hn, ← z]; rfl
        have a2 : (μ.map Prod.fst)[j]? = some l := by rw [List.getElem?_map, hj]; rfl
        exact nd_ix s.nd a2 a1)
      exact k _ _ hne g1
  · obtain ⟨v, g1, g2⟩ := s.env i d q
    exact ⟨v, g1, g2.mono ex⟩
/-- a call that changes the list in the store's j-th place -/
theorem ex_callS {R : List DV → List DV → List DV → DV → Prop} {ta : TE} {tr : TA} {E : XK} {l : Addr} {j : Nat} {s0 s1 : List DV} (ha : EX K ta δ μ μ (.box l)) (hr : AX K tr δ μ μ ds) (hj : μ[j]? = some (l, s0)) (h : R s0 ds s1 d) :
    EX K (tCall (spS K R) [] E (tCons ta tr)) δ μ (μ.set j (l, s1)) d := fun F M σ H s Q q =>
  ha F M σ H s _ fun v H1 e1 g1 r1 => hr F M σ H1 g1 _ fun vs H2 e2 g2 r2 => by
    cases r1
    have hm : (l, s0) ∈ μ := List.mem_of_getElem? hj
    obtain ⟨xs, k1, k2⟩ := g2.sto _ hm
    refine ⟨M, l, vs, xs, s0, ds, s1, d, by rw [List.append_nil], (g2.dm _ hm).1, g2.al, k1, k2, r2, h, fun v xs' H3 k e3 r3 rv => ?_⟩
    obtain ⟨g3, x3⟩ := g2.after hj k e3 r3
    exact q v H3 ((e1.trans e2).trans x3) g3 rv
/-- o.m(..), o an instance that stands still -/
theorem ex_meth {R : List DV → DV → Prop} {tr : TA} {E : XK} {C : Addr} {fs : List (Str × DV)} {m : Str} (ha : EX K ta δ μ μ' (.ins C fs)) (hn : fs.lookup m = none) (hr : AX K tr δ μ' μ'' ds) (h : R (.ins C fs :: ds) d) :
    EX K (tMeth C m (spD K R) [] E ta tr) δ μ μ'' d := fun F M σ H s Q q =>
  ha F M σ H s _ fun v H1 e1 g1 r1 => by
    cases r1 with
    | @ins a _ dx vs _ h1 h2 =>
      refine ⟨a, dx, vs, rfl, hid_sub _ _ h1, h2.lookN hn, hr F M σ H1 g1 _ fun ws H2 e2 g2 r2 => ?_⟩
      refine ⟨M, _, d, g2.al, ?_, h, fun v H3 e3 r => q v H3 ((e1.trans e2).trans (hid_mono e3)) (g2.mono e3) r⟩
      rw [List.append_nil]
      exact .cons (Rp.mono e2 (.ins h1 h2)) r2
/-- C(..): __init__ makes the instance's fields -/
def spI (K : PySem.W.Frag) (C : Addr) (R : List DV → List (Str × DV) → Prop) : Sp := fun vs H Q _ => ∃ M x dx ws ds fs, vs = .ref x :: ws ∧ H x = some (.ins C dx []) ∧ x ∉ M ∧ (∀ a ∈ M, H a ≠ none) ∧ RpAll K (hid (x :: M) H) ws ds ∧ R ds fs ∧
  ∀ H' fs', (∀ a o, a ≠ x → H a = some o → H' a = some o) → H' x = some (.ins C dx fs') → RpF K (hid (x :: M) H') fs' fs → Q .non H'
theorem ex_make {C : Addr} {R : List DV → List (Str × DV) → Prop} {tr : TA} {E : XK} {dvs : List V} {dd : List DV} {fs : List (Str × DV)} (hr : AX K tr δ μ μ' ds) (hd : ∀ H, RpAll K H dvs dd) (h : R (ds ++ dd) fs) :
    EX K (tMake C (spI K C R) dvs E tr) δ μ μ' (.ins C fs) := fun F M σ H s Q q =>
  hr F M σ H s _ fun vs H1 e1 g1 r1 => fun x dx hx hdx hne => by
    have n1 : (upd H1 dx (.own x)) x = none := by
      rw [upd_ne hne.symm]
      exact hx
    have e2 : Ex H1 (upd (upd H1 dx (.own x)) x (.ins C dx [])) := (Ex.new hdx).trans (Ex.new n1)
    have hxM := g1.fresh hx
    have up : Ex (hid M H1) (hid (x :: M) (upd (upd H1 dx (.own x)) x (.ins C dx []))) := fun a o k => by
      have hn := hid_no k
      have hax : a ≠ x := ne_of_none (hid_sub a o k) hx
      exact hid_get (by simp [hax, hn]) (e2 _ _ (hid_sub _ _ k))
    refine ⟨M, x, dx, vs ++ dvs, ds ++ dd, fs, rfl, upd_same, hxM, (g1.mono e2).al, (r1.mono up).app (hd _), h, fun H' fs' k hx' rf => ⟨rfl, ?_⟩⟩
    have e3 : Ex H1 H' := fun a o z => k a o (ne_of_none z hx) (e2 a o z)
    exact q _ H' (e1.trans (hid_mono e3)) (g1.mono e3) (.ins (hid_get hxM hx') (rf.mono (hid_less fun a ha => List.mem_cons_of_mem _ ha)))
end
end G
set_option Elab.async false
set_option linter.all false
set_option maxRecDepth 100000
namespace G
open PySem L2 Evl
abbrev Env := List (Option DV)
/-- B: the data that stands while things are walked; b: how a turn binds the slots js -/
structure Turns (K : PySem.W.Frag) (g : TG) (B : Hp) (J : It) (n : Nat) (js : List Nat) (b : Nat → Env → Env) : Prop where
  go : ∀ i H M, Ex B (hid M H) → i < n → J.go i H
  stop : ∀ H M, Ex B (hid M H) → J.stop n H
  bind : ∀ i H x H' F M δ μ σ, i < n → Ex B (hid M H) → Sta K F M δ μ σ H → J.yld i H x H' → ∀ Q : L2.St → Hp → Prop,
    (∀ σ', Ex H H' → Sta K F M (b i δ) μ σ' H' → σ'.length = σ.length → (∀ k, k ∉ js → σ'[k]? = σ[k]?) → Q σ' H') → g x σ H' Q
def WX (K : PySem.W.Frag) (wi : TI) (g : TG) (δ : Env) (μ μ' : Sto) (n : Nat) (js : List Nat) (b : Nat → Env → Env) : Prop :=
  ∀ F M σ H, Sta K F M δ μ σ H → ∀ R : It → Hp → Prop, (∀ J H', Ex (hid M H) (hid M H') → Sta K F M δ μ' σ H' → Turns K g (hid M H') J n js b → R J H') → wi σ H R
section
variable {K : PySem.W.Frag} {F H H' H0 : Hp} {M : List Addr} {δ δ' : Env} {μ μ' μ'' : Sto} {σ : L2.St} {ta tb te tl : TE} {t u : TT} {d e : DV} {ds es : List DV} {j : Nat}
theorem set_len {α : Type} {σ : List α} {j : Nat} {x : α} : (σ.set j x).length = σ.length := by simp
theorem set_out {α : Type} {σ : List α} {j : Nat} {x : α} : ∀ k, k ∉ [j] → (σ.set j x)[k]? = σ[k]? := fun k hk => List.getElem?_set_ne (by simp at hk; exact fun e => hk e.symm)
/-- one name, the item told by Y -/
theorem turns_name {J : It} {n : Nat} {B : Hp} {Gd : Hp → Prop} {Y : Nat → Hp → V → Hp → Prop} {f : Nat → DV} (w : Walk J n Gd Y) (hG : ∀ H M, Ex B (hid M H) → Gd H) (hY : ∀ i H x H' M, i < n → Ex B (hid M H) → Y i H x H' → H' = H ∧ Rp K B x (f i)) :
    Turns K (gName j) B J n [j] (fun i δ => δ.set j (some (f i))) where
  go := fun i H M e hi => w.goes i H hi (hG H M e)
  stop := fun H M e => w.stops H (hG H M e)
  bind := fun i H x H' F M δ μ σ hi e s y Q q => by
    obtain ⟨h1, h2⟩ := hY i H x H' M hi e (w.yields i H x H' hi (hG H M e) y)
    subst h1
    exact q _ (Ex.refl _) (s.put (h2.mono e)) set_len set_out
theorem wx_range1 {ta : TA} {n : Int} (h : AX K ta δ μ μ' [.int n]) (h1 : -(2 ^ 62) ≤ n) (h2 : n < 2 ^ 62) : WX K (iRng1 ta) (gName j) δ μ μ' n.toNat [j] (fun i δ => δ.set j (some (.int (i : Nat)))) := fun F M σ H s R r =>
  h F M σ H s _ fun vs H1 e1 s1 r1 => by
    cases r1 with
    | cons a b =>
      cases a
      cases b
      refine ⟨n, rfl, h1, h2, r _ H1 e1 s1 (turns_name walk_range (fun _ _ _ => True.intro) fun i H x H' M hi e y => ⟨y.1, ?_⟩)⟩
      rw [y.2]
      show Rp K _ (V.int (0 + (i : Int))) (DV.int (i : Int))
      rw [Int.zero_add]
      exact .int _
theorem wx_range2 {ta : TA} {m n : Int} (h : AX K ta δ μ μ' [.int m, .int n]) (h0 : -(2 ^ 62) ≤ m ∧ m < 2 ^ 62) (h1 : -(2 ^ 62) ≤ n ∧ n < 2 ^ 62) : WX K (iRng2 ta) (gName j) δ μ μ' (n - m).toNat [j] (fun i δ => δ.set j (some (.int (m + (i : Nat))))) := fun F M σ H s R r =>
  h F M σ H s _ fun vs H1 e1 s1 r1 => by
    cases r1 with
    | cons a b =>
      cases a
      cases b with
      | cons a b =>
        cases a
        cases b
        refine ⟨m, n, rfl, ⟨h0.1, h0.2, h1.1, h1.2⟩, r _ H1 e1 s1 (turns_name walk_range (fun _ _ _ => True.intro) fun i H x H' M hi e y => ⟨y.1, ?_⟩)⟩
        rw [y.2]
        exact .int _
theorem wx_list (h : EX K tl δ μ μ' (.lst ds)) : WX K (iList K tl) (gName j) δ μ μ' ds.length [j] (fun i δ => δ.set j (some (ds.getD i .non))) := fun F M σ H s R r =>
  h F M σ H s _ fun v H1 e1 s1 r1 => by
    cases r1 with
    | @lst a vs _ g1 g2 =>
      refine ⟨a, rfl, ⟨vs, ex_l hid_sub g1⟩, r _ H1 e1 s1 ?_⟩
      rw [← g2.length]
      refine turns_name (walk_list (xs := vs)) (fun H M e => ex_l (e.trans hid_sub) g1) fun i H x H' M hi e y => ⟨y.1, ?_⟩
      obtain ⟨d, hd, rd⟩ := g2.get' y.2
      rw [List.getD_eq_getElem?_getD, hd]
      exact rd
theorem wx_tup (h : EX K tl δ μ μ' (.tup ds)) : WX K (iTup K tl) (gName j) δ μ μ' ds.length [j] (fun i δ => δ.set j (some (ds.getD i .non))) := fun F M σ H s R r =>
  h F M σ H s _ fun v H1 e1 s1 r1 => by
    cases r1 with
    | @tup a vs _ g1 g2 =>
      refine ⟨a, rfl, ⟨vs, ex_t hid_sub g1⟩, r _ H1 e1 s1 ?_⟩
      rw [← g2.length]
      refine turns_name (walk_tup (xs := vs)) (fun H M e => ex_t (e.trans hid_sub) g1) fun i H x H' M hi e y => ⟨y.1, ?_⟩
      obtain ⟨d, hd, rd⟩ := g2.get' y.2
      rw [List.getD_eq_getElem?_getD, hd]
      exact rd
/-- list or tuple: one derivation for both -/
def iSeq (K : PySem.W.Frag) (tl : TE) : TI := fun σ H R => tl σ H fun x H1 => ∃ a, x = .ref a ∧ (((∃ xs, SqL K H1 a xs) ∧ R (Itl K a) H1) ∨ ((∃ xs, SqT K H1 a xs) ∧ R (Itt K a) H1))
theorem pi_seq {X : Cx} {tg l : Expr} {tl : TE} (hl : PE X l tl) : PI X tg l (iSeq X.K tl) where
  run := fun pins s σ H R I h => thn (hl.run pins s σ H _ I h) fun v s1 ⟨x, H1, I1, r1, a, ex, q⟩ => by
    subst ex
    cases r1
    have fr : ∀ b ∈ [s1.heap.objs.size], FpOk X pins H1 b := fun b hb => by
      rw [List.mem_singleton] at hb
      rw [hb]
      exact I1.fpOk (Nat.le_refl _) (I1.hok.fresh (Nat.le_refl _))
    rcases q with ⟨⟨xs, hq⟩, q⟩ | ⟨⟨xs, hq⟩, q⟩
    · obtain ⟨its, _, p, _⟩ := I1.list hq
      exact wpAny_pyIter_list p.isList ⟨_, [s1.heap.objs.size], _, Itl X.K a, H1, rfl, I1.kept (t' := s1.toks) (fun b o e => Heap.get?_push_of_some _ e), turn_list a _, ⟨_, Heap.get?_push_size _ rfl, rfl, rfl⟩, fr, q⟩
    · obtain ⟨its, _, p, _⟩ := I1.tuple hq
      exact wpAny_pyIter_tuple (items := its.toArray) p ⟨_, [s1.heap.objs.size], _, Itt X.K a, H1, rfl, I1.kept (t' := s1.toks) (fun b o e => Heap.get?_push_of_some _ e), turn_tuple a _, ⟨_, Heap.get?_push_size _ rfl, rfl, rfl⟩, fr, q⟩
/-- a sequence of data that stands still -/
inductive Seq : DV → List DV → Prop
  | lst (ds : List DV) : Seq (.lst ds) ds
  | tup (ds : List DV) : Seq (.tup ds) ds
theorem Seq.items {μ : Sto} (h : Seq d ds) : Items μ d ds := by
  cases h with
  | lst => exact .lst _
  | tup => exact .tup _
theorem wx_seq (h : EX K tl δ μ μ' d) (sq : Seq d ds) : WX K (iSeq K tl) (gName j) δ μ μ' ds.length [j] (fun i δ => δ.set j (some (ds.getD i .non))) := fun F M σ H s R r =>
  h F M σ H s _ fun v H1 e1 s1 r1 => by
    cases sq with
    | lst =>
      cases r1 with
      | @lst a vs _ g1 g2 =>
        refine ⟨a, rfl, .inl ⟨⟨vs, ex_l hid_sub g1⟩, r _ H1 e1 s1 ?_⟩⟩
        rw [← g2.length]
        refine turns_name (walk_list (xs := vs)) (fun H M e => ex_l (e.trans hid_sub) g1) fun i H x H' M hi e y => ⟨y.1, ?_⟩
        obtain ⟨d, hd, rd⟩ := g2.get' y.2
        rw [List.getD_eq_getElem?_getD, hd]
        exact rd
    | tup =>
      cases r1 with
      | @tup a vs _ g1 g2 =>
        refine ⟨a, rfl, .inr ⟨⟨vs, ex_t hid_sub g1⟩, r _ H1 e1 s1 ?_⟩⟩
        rw [← g2.length]
        refine turns_name (walk_tup (xs := vs)) (fun H M e => ex_t (e.trans hid_sub) g1) fun i H x H' M hi e y => ⟨y.1, ?_⟩
        obtain ⟨d, hd, rd⟩ := g2.get' y.2
        rw [List.getD_eq_getElem?_getD, hd]
        exact rd
/-- a, b = a pair -/
theorem turns_pair {J : It} {n : Nat} {B : Hp} {Gd : Hp → Prop} {A1 A2 : Nat → Option V} {f1 f2 : Nat → DV} {j1 j2 : Nat} (w : Walk J n Gd (YPair A1 A2)) (hG : ∀ H M, Ex B (hid M H) → Gd H)
    (h1 : ∀ i x, i < n → A1 i = some x → Rp K B x (f1 i)) (h2 : ∀ i x, i < n → A2 i = some x → Rp K B x (f2 i)) :
    Turns K (gTup K 2 (gCons (gName j1) (gCons (gName j2) gNil))) B J n [j1, j2] (fun i δ => (δ.set j1 (some (f1 i))).set j2 (some (f2 i))) where
  go := fun i H M e hi => w.goes i H hi (hG H M e)
  stop := fun H M e => w.stops H (hG H M e)
  bind := fun i H x H' F M δ μ σ hi e s y Q q => by
    obtain ⟨T, x1, x2, rfl, hT, rfl, a1, a2⟩ := w.yields i H x H' hi (hG H M e) y
    have eT : Ex H (upd H T (.tup [x1, x2])) := Ex.new hT
    have e' : Ex B (hid M (upd H T (.tup [x1, x2]))) := e.trans (hid_mono eT)
    refine ⟨T, [x1, x2], rfl, st_of upd_same, rfl, x1, [x2], rfl, x2, [], rfl, rfl, ?_⟩
    refine q _ eT (((s.mono eT).put ((h1 i x1 hi a1).mono e')).put ((h2 i x2 hi a2).mono e')) (by simp) fun k hk => ?_
    simp at hk
    rw [List.getElem?_set_ne (fun z => hk.2 z.symm), List.getElem?_set_ne (fun z => hk.1 z.symm)]
theorem wx_enum {ta : TA} {j1 j2 : Nat} (h : AX K ta δ μ μ' [.lst ds]) : WX K (iEnum K ta) (gTup K 2 (gCons (gName j1) (gCons (gName j2) gNil))) δ μ μ' ds.length [j1, j2] (fun i δ => (δ.set j1 (some (.int (i : Nat)))).set j2 (some (ds.getD i .non))) := fun F M σ H s R r =>
  h F M σ H s _ fun vs H1 e1 s1 r1 => by
    cases r1 with
    | cons a b =>
      cases b
      cases a with
      | @lst a vs _ g1 g2 =>
        refine ⟨a, vs, rfl, ex_l hid_sub g1, r _ H1 e1 s1 ?_⟩
        rw [← g2.length]
        refine turns_pair walk_enum (fun H M e => ex_l (e.trans hid_sub) g1) (fun i x _ hx => ?_) fun i x _ hx => ?_
        · cases hx
          exact .int _
        · obtain ⟨d, hd, rd⟩ := g2.get' hx
          rw [List.getD_eq_getElem?_getD, hd]
          exact rd
/-! ### comprehensions -/
def wipeD (δ : Env) : List Nat → Env
  | [] => δ
  | v :: vs => (wipeD δ vs).set v none
theorem Sta.wiped (s : Sta K F M δ μ σ H) : ∀ vs : List Nat, Sta K F M (wipeD δ vs) μ (wipe σ vs) H
  | [] => s
  | v :: vs => (Sta.wiped s vs).putN
theorem wipe_at {σ : L2.St} {k : Nat} : ∀ {vs : List Nat}, (wipe σ vs)[k]? = if k ∈ vs then (if k < σ.length then some none else none) else σ[k]?
  | [] => by simp [wipe]
  | v :: vs => by
    unfold wipe
    by_cases e : v = k
    · subst e
      rw [if_pos (by simp)]
      by_cases hl : v < σ.length
      · rw [if_pos hl, List.getElem?_set_self (by rw [wipe_length]; exact hl)]
      · rw [if_neg hl, List.getElem?_eq_none (by rw [List.length_set, wipe_length]; omega)]
    · rw [List.getElem?_set_ne e, wipe_at (vs := vs)]
      by_cases hk : k ∈ vs
      · rw [if_pos hk, if_pos (List.mem_cons_of_mem _ hk)]
      · rw [if_neg hk, if_neg (fun z => (List.mem_cons.mp z).elim (fun q => e q.symm) hk)]
theorem wipe_eq {σ τ : L2.St} {vs : List Nat} (hl : τ.length = σ.length) (h : ∀ k, k ∉ vs → τ[k]? = σ[k]?) : wipe τ vs = wipe σ vs := by
  refine List.ext_getElem? fun k => ?_
  rw [wipe_at, wipe_at]
  by_cases hk : k ∈ vs
  · rw [if_pos hk, if_pos hk, hl]
  · rw [if_neg hk, if_neg hk, h k hk]
/-- a frame that holds the data, too -/
theorem Sta.widen (s : Sta K F M δ μ σ H) : Sta K (hid (μ.map Prod.fst) H) M δ μ σ H ∧ Ex F (hid (μ.map Prod.fst) H) ∧ Ex (hid M H) (hid (μ.map Prod.fst) H) :=
  ⟨⟨s.al, hid_sub, fun p hp => ⟨(s.dm p hp).1, by unfold hid; rw [if_pos (List.mem_map.mpr ⟨p, hp, rfl⟩)]⟩, s.nd, s.sto, s.env, s.len⟩,
    fun a o q => hid_get (fun hm => by
      obtain ⟨p, hp, e⟩ := List.mem_map.mp hm
      have := (s.dm p hp).2
      rw [e, q] at this
      cases this) (s.fr a o q),
    hid_less fun a ha => by
      obtain ⟨p, hp, e⟩ := List.mem_map.mp ha
      rw [← e]
      exact (s.dm p hp).1⟩
theorem Sta.narrow {F1 : Hp} (s : Sta K F1 M δ μ σ H) (e : Ex F F1) : Sta K F M δ μ σ H :=
  ⟨s.al, e.trans s.fr, fun p hp => ⟨(s.dm p hp).1, by
    cases q : F p.1 with
    | none => rfl
    | some o =>
      have := (s.dm p hp).2
      rw [e _ o q] at this
      cases this⟩, s.nd, s.sto, s.env, s.len⟩
theorem Sta.data {F1 B : Hp} (s : Sta K F1 M δ μ σ H) (e : Ex B F1) (hB : ∀ a o, B a = some o → a ∉ M) : Ex B (hid M H) := fun a o q => hid_get (hB a o q) (s.fr a o (e a o q))
theorem lx_lc {wi : TI} {g : TG} {tt : TT} {vs js : List Nat} {n : Nat} {b : Nat → Env → Env} (w : WX K wi g δ μ μ' n js b) (f : Nat → DV) (p : Nat → Bool) (μs : Nat → Sto) (h0 : μs 0 = μ') (hn : n ≤ 100000) (hj : ∀ k ∈ js, k ∈ vs)
    (ht : ∀ i, i < n → TX K tt (b i (wipeD δ vs)) (μs i) (μs i) (p i)) (he : ∀ i, i < n → p i = true → EX K te (b i (wipeD δ vs)) (μs i) (μs (i + 1)) (f i)) (hf : ∀ i, i < n → p i = false → μs (i + 1) = μs i) :
    LX K (tLc wi g tt te vs) δ μ (μs n) (((List.range n).filter p).map f) := fun F M σ H s Q q =>
  w F M σ H s _ fun J H1 e1 s1 T => fun D hD => by
    -- the frame that keeps the data
    obtain ⟨s1w, eF, eB⟩ := s1.widen
    generalize hF1 : hid (μ'.map Prod.fst) H1 = F1 at s1w eF eB
    have hDM := s1.fresh hD
    have z0 := s1w.newL (vs := []) (ds := []) hD .nil
    have hB : ∀ a o, hid M H1 a = some o → a ∉ D :: M := fun a o q => by
      simp only [List.mem_cons, not_or]
      exact ⟨ne_of_none (hid_sub _ _ q) hD, hid_no q⟩
    refine ⟨fun i m H2 => m = n - i ∧ i ≤ n ∧ Sta K F1 (D :: M) δ ((D, ((List.range i).filter p).map f) :: μs i) σ H2, ⟨n, by simp, Nat.zero_le _, by rw [h0]; exact z0⟩, ?_⟩
    rintro i m H2 ⟨rfl, hi, s2⟩
    have ed : Ex (hid M H1) (hid (D :: M) H2) := s2.data eB hB
    by_cases hlt : i < n
    · refine .inr ⟨T.go i H2 _ ed hlt, fun H' => Sta K F1 (D :: M) δ ((D, ((List.range (i + 1)).filter p).map f) :: μs (i + 1)) σ H', fun H' s' => ⟨n - (i + 1), by omega, rfl, hlt, s'⟩, fun x H3 y => ?_⟩
      refine T.bind i H2 x H3 _ _ _ _ _ hlt ed (s2.wiped vs) y _ fun σ3 e3 s3 hl3 ho3 => ?_
      obtain ⟨ws, g1, g2⟩ := s3.sto (D, ((List.range i).filter p).map f) (by simp)
      have s3' : Sta K F1 (D :: M) δ ((D, ((List.range i).filter p).map f) :: μs i) σ H3 := s2.mono e3
      have lk := s3.lock g1
      have hlen : (((List.range i).filter p).map f).length ≤ i := by
        have q1 := List.length_filter_le p (List.range i)
        rw [List.length_range] at q1
        rw [List.length_map]
        exact q1
      refine ⟨?_, ht i hlt _ _ σ3 H3 lk _ fun H4 e4 s4 => ?_⟩
      · refine (wipe_eq hl3 fun k hk => ho3 k (fun z => hk (hj k z))).trans (wipe_eq (wipe_length σ vs) fun k hk => ?_)
        rw [wipe_at, if_neg hk]
      · cases hp : p i with
        | true =>
          show te σ3 H4 _
          refine he i hlt hp _ _ σ3 H4 s4 _ fun v H5 e5 s5 r5 => ?_
          have k1 : H5 D = some (.lst ws) := s5.fr D _ upd_same
          refine ⟨ws, k1, sz_lt (by have := g2.length; simp only at this; omega), ?_⟩
          have g5 := g2.mono (e4.trans e5)
          have s5b : Sta K (upd F1 D (.lst ws)) (D :: M) δ (μs (i + 1)) σ H5 :=
            ⟨s5.al, s5.fr, s5.dm, s5.nd, s5.sto, fun k dk hk => by
              obtain ⟨vk, a1, a2⟩ := s3'.env k dk hk
              exact ⟨vk, a1, a2.mono (e4.trans e5)⟩, s3'.len⟩
          have s6 := Sta.unlock (by
            cases q : F1 D with
            | none => rfl
            | some o => rw [← hF1] at q; rw [hid_sub _ _ q] at hD; cases hD) s5b g5
          have s7 := (s6.pokeH (g5.app (.cons r5 .nil))).1
          have hs : ((List.range (i + 1)).filter p).map f = ((List.range i).filter p).map f ++ [f i] := by
            rw [List.range_succ, List.filter_append, List.map_append]
            simp [hp]
          rw [hs]
          exact s7
        | false =>
          show Sta K F1 (D :: M) δ ((D, ((List.range (i + 1)).filter p).map f) :: μs (i + 1)) σ H4
          have hs : ((List.range (i + 1)).filter p).map f = ((List.range i).filter p).map f := by
            rw [List.range_succ, List.filter_append, List.map_append]
            simp [hp]
          rw [hs, hf i hlt hp]
          have s4b : Sta K (upd F1 D (.lst ws)) (D :: M) δ (μs i) σ H4 :=
            ⟨s4.al, s4.fr, s4.dm, s4.nd, s4.sto, fun k dk hk => by
              obtain ⟨vk, a1, a2⟩ := s3'.env k dk hk
              exact ⟨vk, a1, a2.mono e4⟩, s3'.len⟩
          exact Sta.unlock (by
            cases q : F1 D with
            | none => rfl
            | some o => rw [← hF1] at q; rw [hid_sub _ _ q] at hD; cases hD) s4b (g2.mono e4)
    · have e : i = n := by omega
      subst e
      refine .inl ⟨T.stop H2 _ ed, ?_⟩
      have hD0 : H D = none := back_none s s1 e1 hD
      refine q D H2 hD0 hDM (e1.trans (ed.trans (hid_less fun a ha => List.mem_cons_of_mem _ ha))) (s2.narrow eF)
/-- no test -/
theorem lx_lcA {wi : TI} {g : TG} {vs js : List Nat} {n : Nat} {b : Nat → Env → Env} (w : WX K wi g δ μ μ' n js b) (f : Nat → DV) (μs : Nat → Sto) (h0 : μs 0 = μ') (hn : n ≤ 100000) (hj : ∀ k ∈ js, k ∈ vs)
    (he : ∀ i, i < n → EX K te (b i (wipeD δ vs)) (μs i) (μs (i + 1)) (f i)) : LX K (tLc wi g tYes te vs) δ μ (μs n) ((List.range n).map f) := by
  have z := lx_lc (tt := tYes) w f (fun _ => true) μs h0 hn hj (fun i hi F M σ H s Q q => q H (Ex.refl _) s) (fun i hi _ => he i hi) (fun i hi h => by cases h)
  have e : (List.range n).filter (fun _ => true) = List.range n := List.filter_eq_self.mpr fun _ _ => rfl
  rw [e] at z
  exact z
/-- no test, the store untouched -/
theorem lx_lc1 {wi : TI} {g : TG} {vs js : List Nat} {n : Nat} {b : Nat → Env → Env} (w : WX K wi g δ μ μ' n js b) (f : Nat → DV) (hn : n ≤ 100000) (hj : ∀ k ∈ js, k ∈ vs)
    (he : ∀ i, i < n → EX K te (b i (wipeD δ vs)) μ' μ' (f i)) : LX K (tLc wi g tYes te vs) δ μ μ' ((List.range n).map f) := lx_lcA w f (fun _ => μ') rfl hn hj he
theorem lx_lcF {wi : TI} {g : TG} {tt : TT} {vs js : List Nat} {n : Nat} {b : Nat → Env → Env} (w : WX K wi g δ μ μ' n js b) (f : Nat → DV) (p : Nat → Bool) (hn : n ≤ 100000) (hj : ∀ k ∈ js, k ∈ vs)
    (ht : ∀ i, i < n → TX K tt (b i (wipeD δ vs)) μ' μ' (p i)) (he : ∀ i, i < n → p i = true → EX K te (b i (wipeD δ vs)) μ' μ' (f i)) : LX K (tLc wi g tt te vs) δ μ μ' (((List.range n).filter p).map f) :=
  lx_lc w f p (fun _ => μ') rfl hn hj ht he fun _ _ _ => rfl
end
end G
set_option Elab.async false
set_option linter.all false
set_option maxRecDepth 100000
namespace G
open PySem PySem.Spec PyProof.Rows L2 Evl
section
variable {K : PySem.W.Frag} {F H H' H0 : Hp} {M : List Addr} {δ δ' : Env} {μ μ' μ'' : Sto} {σ : L2.St} {ta tb te tl : TE} {t u : TT} {d e : DV} {ds es : List DV} {i j : Nat} {D : L2.Ends} {tu tw : TS}
theorem x_asg (s : Sta K F M δ μ σ H) (h : EX K te δ μ μ' d) (k : ∀ σ' H', Sta K F M (δ.set i (some d)) μ' σ' H' → D.nx σ' H') : tAsg te (gName i) D σ H :=
  h F M σ H s _ fun v H1 _ s1 r1 => k _ H1 (s1.put r1)
/-- the value is forgotten -/
theorem x_asgN (s : Sta K F M δ μ σ H) (h : EX K te δ μ μ' d) (k : ∀ σ' H', Sta K F M (δ.set i none) μ' σ' H' → D.nx σ' H') : tAsg te (gName i) D σ H :=
  h F M σ H s _ fun v H1 _ s1 r1 => k _ H1 s1.putN
/-- a new list, kept as a mutable one -/
theorem x_asgL (s : Sta K F M δ μ σ H) (h : LX K te δ μ μ' ds) (k : ∀ p σ' H', p ∉ M → Sta K F (p :: M) (δ.set i (some (.box p))) ((p, ds) :: μ') σ' H' → D.nx σ' H') : tAsg te (gName i) D σ H :=
  h F M σ H s _ fun p H1 _ hp _ s1 => k p _ H1 hp (s1.put (.box p))
theorem Sta.free {p : Addr} (s : Sta K F (p :: M) δ ((p, ds) :: μ) σ H) (hp : p ∉ M) (h : δ[i]? = some (some (.box p))) : Sta K F M (δ.set i (some (.lst ds))) μ σ H := by
  obtain ⟨v, h1, h2⟩ := s.env i _ h
  obtain ⟨s', r⟩ := s.still hp
  cases h2
  have z := s'.put (i := i) r
  have e : σ.set i (some (V.ref p)) = σ := by
    refine List.ext_getElem? fun k => ?_
    by_cases hk : i = k
    · subst hk
      rw [List.getElem?_set_self (List.getElem?_eq_some_iff.mp h1).1, h1]
    · rw [List.getElem?_set_ne hk]
  rw [e] at z
  exact z
theorem x_ret (s : Sta K F M δ μ σ H) (h : EX K te δ μ μ' d) (k : ∀ v H', Sta K F M δ μ' σ H' → Rp K (hid M H') v d → D.rt v H') : tRet te D σ H :=
  h F M σ H s _ fun v H1 _ s1 r1 => k v H1 s1 r1
theorem x_retL (s : Sta K F M δ μ σ H) (h : LX K te δ μ μ' ds) (k : ∀ p H', H p = none → Sta K F (p :: M) δ ((p, ds) :: μ') σ H' → D.rt (.ref p) H') : tRet te D σ H :=
  h F M σ H s _ fun p H1 hp _ _ s1 => k p H1 hp s1
theorem x_if {b : Bool} (s : Sta K F M δ μ σ H) (h : TX K t δ μ μ' b) (h1 : b = true → ∀ H', Sta K F M δ μ' σ H' → tu D σ H') (h2 : b = false → ∀ H', Sta K F M δ μ' σ H' → tw D σ H') : tIfS t tu tw D σ H :=
  h F M σ H s _ fun H1 _ s1 => by
    cases b with
    | true =>
      show tu D σ H1
      exact h1 rfl H1 s1
    | false =>
      show tw D σ H1
      exact h2 rfl H1 s1
theorem x_when {b : Bool} (s : Sta K F M δ μ σ H) (h : TX K t δ μ μ' b) (h1 : b = true → ∀ H', Sta K F M δ μ' σ H' → tu D σ H') (h2 : b = false → ∀ H', Sta K F M δ μ' σ H' → D.nx σ H') : tIfS t tu tNext D σ H := x_if s h h1 h2
/-- a test that is known to be false -/
theorem x_skip (s : Sta K F M δ μ σ H) (h : TX K t δ μ μ' false) (h2 : ∀ H', Sta K F M δ μ' σ H' → D.nx σ H') : tIfS t tu tNext D σ H := x_if s h (fun z => nomatch z) (fun _ => h2)
theorem x_drop (s : Sta K F M δ μ σ H) (h : EX K te δ μ μ' d) (k : ∀ H', Sta K F M δ μ' σ H' → D.nx σ H') : tDrop te D σ H := h F M σ H s _ fun v H1 _ s1 _ => k H1 s1
/-- xs.append(e) -/
theorem x_app {l : Addr} (s : Sta K F M δ μ σ H) (ha : EX K ta δ μ μ (.box l)) (h : EX K te δ μ μ' d) (h0 : μ[j]? = some (l, es)) (hj : μ'[j]? = some (l, ds)) (hz : ds.length < 100000) (k : ∀ H', Sta K F M δ (μ'.set j (l, ds ++ [d])) σ H' → D.nx σ H') :
    tDrop (tBM K "list" rAppend ta (tCons te tNil)) D σ H :=
  ha F M σ H s _ fun v H1 e1 s1 r1 => by
    cases r1
    obtain ⟨xs, g1, _⟩ := s1.sto _ (List.mem_of_getElem? h0)
    refine ⟨.inl ⟨rfl, xs, sq_of g1⟩, h F M σ H1 s1 _ fun w H2 e2 s2 r2 => ?_⟩
    obtain ⟨ys, k1, k2⟩ := s2.sto _ (List.mem_of_getElem? hj)
    exact ⟨l, ys, w, rfl, rfl, k1, sz_lt (by rw [k2.length]; exact hz), k _ (s2.poke hj (k2.app (.cons r2 .nil))).1⟩
/-- xs[i] = e -/
theorem x_setL {l : Addr} {n : Int} {m : Nat} (s : Sta K F M δ μ σ H) (h : EX K te δ μ μ' d) (ho : EX K ta δ μ' μ' (.box l)) (hi : EX K tb δ μ' μ' (.int n)) (hj : μ'[j]? = some (l, ds)) (hn : ixN ds.length n = some m)
    (k : ∀ H', Sta K F M δ (μ'.set j (l, ds.set m d)) σ H' → D.nx σ H') : tAsg te (gSub ta tb rSetL) D σ H :=
  h F M σ H s _ fun v H1 e1 s1 r1 => ho F M σ H1 s1 _ fun w H2 e2 s2 r2 => hi F M σ H2 s2 _ fun x H3 e3 s3 r3 => by
    cases r2
    cases r3
    obtain ⟨ys, k1, k2⟩ := s3.sto _ (List.mem_of_getElem? hj)
    exact ⟨l, ys, n, m, rfl, rfl, k1, by rw [k2.length]; exact hn, k _ (s3.poke hj (k2.set (r1.mono (e2.trans e3)) m)).1⟩
theorem x_aug {f : Int → Int → Int} {a b : Int} (s : Sta K F M δ μ σ H) (hx : δ[i]? = some (some (.int a))) (h : EX K te δ μ μ' (.int b)) (k : ∀ σ' H', Sta K F M (δ.set i (some (.int (f a b)))) μ' σ' H' → D.nx σ' H') : tAug i te (ipI f) D σ H := by
  obtain ⟨v, h1, h2⟩ := s.env i _ hx
  cases h2
  exact ⟨.int a, h1, h F M σ H s _ fun w H1 _ s1 r1 => by
    cases r1
    exact ⟨a, b, rfl, rfl, k _ H1 (s1.put (.int _))⟩⟩
theorem x_par {ta : TA} {d1 d2 : DV} (s : Sta K F M δ μ σ H) (h : AX K ta δ μ μ' [d1, d2]) (k : ∀ σ' H', Sta K F M ((δ.set i (some d1)).set j (some d2)) μ' σ' H' → D.nx σ' H') : tPar i j ta D σ H :=
  h F M σ H s _ fun vs H1 _ s1 r1 => by
    cases r1 with
    | cons a b =>
      cases b with
      | cons b c =>
        cases c
        exact ⟨_, _, rfl, k _ H1 ((s1.put a).put b)⟩
theorem x_par3 {ta : TA} {l : Nat} {d1 d2 d3 : DV} (s : Sta K F M δ μ σ H) (h : AX K ta δ μ μ' [d1, d2, d3]) (k : ∀ σ' H', Sta K F M (((δ.set i (some d1)).set j (some d2)).set l (some d3)) μ' σ' H' → D.nx σ' H') : tPar3 i j l ta D σ H :=
  h F M σ H s _ fun vs H1 _ s1 r1 => by
    cases r1 with
    | cons a b =>
      cases b with
      | cons b c =>
        cases c with
        | cons c d =>
          cases d
          exact ⟨_, _, _, rfl, k _ H1 (((s1.put a).put b).put c)⟩
/-- a, b = t -/
theorem x_tup2 {d1 d2 : DV} (s : Sta K F M δ μ σ H) (h : EX K te δ μ μ' (.tup [d1, d2])) (k : ∀ σ' H', Sta K F M ((δ.set i (some d1)).set j (some d2)) μ' σ' H' → D.nx σ' H') : tAsg te (gTup K 2 (gCons (gName i) (gCons (gName j) gNil))) D σ H :=
  h F M σ H s _ fun v H1 _ s1 r1 => by
    cases r1 with
    | @tup a vs _ g1 g2 =>
      cases g2 with
      | cons r1 t =>
        cases t with
        | cons r2 t =>
          cases t
          exact ⟨a, _, rfl, ex_t hid_sub g1, rfl, _, _, rfl, _, _, rfl, rfl, k _ H1 ((s1.put r1).put r2)⟩
theorem x_tup3 {l : Nat} {d1 d2 d3 : DV} (s : Sta K F M δ μ σ H) (h : EX K te δ μ μ' (.tup [d1, d2, d3])) (k : ∀ σ' H', Sta K F M (((δ.set i (some d1)).set j (some d2)).set l (some d3)) μ' σ' H' → D.nx σ' H') : tAsg te (gTup K 3 (gCons (gName i) (gCons (gName j) (gCons (gName l) gNil)))) D σ H :=
  h F M σ H s _ fun v H1 _ s1 r1 => by
    cases r1 with
    | @tup a vs _ g1 g2 =>
      cases g2 with
      | cons r1 t =>
        cases t with
        | cons r2 t =>
          cases t with
          | cons r3 t =>
            cases t
            exact ⟨a, _, rfl, ex_t hid_sub g1, rfl, _, _, rfl, _, _, rfl, _, _, rfl, rfl, k _ H1 (((s1.put r1).put r2).put r3)⟩
/-! ### loops -/
theorem x_for {wi : TI} {g : TG} {js : List Nat} {n : Nat} {b : Nat → Env → Env} (s : Sta K F M δ μ σ H) (w : WX K wi g δ μ μ' n js b) (δs : Nat → Env) (μs : Nat → Sto) (h0 : Less (δs 0) δ) (hm : μs 0 = μ')
    (turn : ∀ F1 i σ' H', Ex F F1 → i < n → Sta K F1 M (b i (δs i)) (μs i) σ' H' → tu { D with nx := fun σ2 H2 => Sta K F1 M (δs (i + 1)) (μs (i + 1)) σ2 H2, ct := fun σ2 H2 => Sta K F1 M (δs (i + 1)) (μs (i + 1)) σ2 H2, bk := D.nx } σ' H')
    (done : ∀ σ' H', Sta K F M (δs n) (μs n) σ' H' → D.nx σ' H') : tFor wi g tu D σ H :=
  w F M σ H s _ fun J H1 e1 s1 T => by
    obtain ⟨s1w, eF, eB⟩ := s1.widen
    generalize hid (μ'.map Prod.fst) H1 = F1 at s1w eF eB
    have hB : ∀ a o, hid M H1 a = some o → a ∉ M := fun a o q => hid_no q
    refine ⟨fun i m σ2 H2 => m = n - i ∧ i ≤ n ∧ Sta K F1 M (δs i) (μs i) σ2 H2, ⟨n, by simp, Nat.zero_le _, by rw [hm]; exact s1w.less h0⟩, ?_⟩
    rintro i m σ2 H2 ⟨rfl, hi, s2⟩
    have ed := s2.data eB hB
    by_cases hlt : i < n
    · refine .inr ⟨T.go i H2 _ ed hlt, fun σ3 H3 => Sta K F1 M (δs (i + 1)) (μs (i + 1)) σ3 H3, fun σ3 H3 s3 => ⟨n - (i + 1), by omega, rfl, hlt, s3⟩, fun x H3 y => ?_⟩
      exact T.bind i H2 x H3 _ _ _ _ _ hlt ed s2 y _ fun σ3 _ s3 _ _ => turn F1 i σ3 H3 eF hlt s3
    · have e : i = n := by omega
      subst e
      exact .inl ⟨T.stop H2 _ ed, done σ2 H2 (s2.narrow eF)⟩
theorem x_while (I : Nat → Env → Sto → Prop) (m0 : Nat) (s : Sta K F M δ μ σ H) (h0 : I m0 δ μ)
    (hs : ∀ m δ μ, I m δ μ → ∃ b, TX K t δ μ μ b ∧
      (b = true → ∀ σ' H', Sta K F M δ μ σ' H' → tu { D with nx := fun σ2 H2 => ∃ m' δ2 μ2, m' < m ∧ I m' δ2 μ2 ∧ Sta K F M δ2 μ2 σ2 H2, ct := fun σ2 H2 => ∃ m' δ2 μ2, m' < m ∧ I m' δ2 μ2 ∧ Sta K F M δ2 μ2 σ2 H2, bk := D.nx } σ' H') ∧
      (b = false → ∀ σ' H', Sta K F M δ μ σ' H' → D.nx σ' H')) : tWhile t tu D σ H :=
  ⟨fun m σ2 H2 => ∃ δ2 μ2, I m δ2 μ2 ∧ Sta K F M δ2 μ2 σ2 H2, ⟨m0, δ, μ, h0, s⟩, fun m σ2 H2 ⟨δ2, μ2, i2, s2⟩ => by
    obtain ⟨b, hb, h1, h2⟩ := hs m δ2 μ2 i2
    refine hb F M σ2 H2 s2 _ fun H3 _ s3 => ?_
    cases b with
    | true => exact ⟨_, fun σ4 H4 ⟨m', δ4, μ4, hm, i4, s4⟩ => ⟨m', hm, δ4, μ4, i4, s4⟩, h1 rfl σ2 H3 s3⟩
    | false => exact h2 rfl σ2 H3 s3⟩
end
/-! ### defs by their promises -/
def startD (n : Nat) (ds : List DV) : Env := ds.map some ++ List.replicate (n - ds.length) none
section
variable {K : PySem.W.Frag} {F H H' H0 : Hp} {M : List Addr} {δ : Env} {μ : Sto}
theorem envAll {vs : List V} {ds : List DV} {n : Nat} (r : RpAll K H vs ds) : ∀ (i : Nat) (d : DV), (startD n ds)[i]? = some (some d) → ∃ v, (vs.map some ++ List.replicate (n - vs.length) none)[i]? = some (some v) ∧ Rp K H v d := fun i d h => by
  unfold startD at h
  have hl := r.length
  by_cases hi : i < ds.length
  · rw [List.getElem?_append_left (by simpa using hi), List.getElem?_map] at h
    obtain ⟨v, h1, h2⟩ := r.get (i := i) (d := d) (by
      cases q : ds[i]? with
      | none => rw [q] at h; cases h
      | some x =>
        rw [q] at h
        cases h
        rfl)
    exact ⟨v, by rw [List.getElem?_append_left (by rw [List.length_map]; omega), List.getElem?_map, h1]; rfl, h2⟩
  · rw [List.getElem?_append_right (by simpa using hi)] at h
    rw [List.getElem?_replicate] at h
    split at h <;> cases h
theorem sta_start {N : List Str} {vs : List V} {ds : List DV} (al : ∀ a ∈ M, H a ≠ none) (r : RpAll K (hid M H) vs ds) : Sta K H M (startD N.length ds) [] (L2.start N vs) H :=
  ⟨al, Ex.refl _, fun p hp => (nomatch hp), by simp, fun p hp => (nomatch hp), envAll r, by unfold L2.start startD; simp [r.length]⟩
variable {P : Program} {w : World} {mg : Str → Option Value} {base : Heap}
/-- a def from data to data -/
theorem okD {x qual : Str} {st : Stmt} {f : Addr} {fd : FuncData} {N ps : List Str} {k : Nat} {R : List DV → DV → Prop} (Fn : Fun K x qual st f fd) (S : FnScope N ps (defScope st)) (len : ∀ ds r, R ds r → ds.length = ps.length)
    (body : ∀ (cdv : Value) (A : Around) (outer : List PySem.Env) (s : Shared) (H : Hp) (E : XK), Room k (A.deeper (envOfC qual (defScope st) s.heap.objs.size f cdv)) →
      ∃ t, PSs (cxOf CX0 P w K mg base N qual (defScope st) f cdv A outer s H E).nox (defBody st) t ∧ ∀ F M ds r σ H1 D, R ds r → Sta K F M (startD N.length ds) [] σ H1 →
        (∀ v H', Ex F H' → Rp K (hid M H') v r → D.rt v H') → (∀ σ' H', D.rt .non H' → D.nx σ' H') → t D σ H1) : FnOk P w K mg base CX0 (k + 1) f fd ps (spD K R) := by
  refine Fn.ok S (fun vs H Q E ⟨M, ds, r, _, h1, h2, _⟩ => by rw [h1.length]; exact len _ _ h2) fun cdv A outer s H vs Q E hr ⟨M, ds, r, al, ra, hR, kq⟩ => ?_
  obtain ⟨t, h1, h2⟩ := body cdv A outer s H E hr
  exact ⟨t, h1, h2 H M ds r _ H _ hR (sta_start al ra) kq fun _ _ z => z⟩
theorem okL {x qual : Str} {st : Stmt} {f : Addr} {fd : FuncData} {N ps : List Str} {k : Nat} {R : List DV → List DV → Prop} (Fn : Fun K x qual st f fd) (S : FnScope N ps (defScope st)) (len : ∀ ds r, R ds r → ds.length = ps.length)
    (body : ∀ (cdv : Value) (A : Around) (outer : List PySem.Env) (s : Shared) (H : Hp) (E : XK), Room k (A.deeper (envOfC qual (defScope st) s.heap.objs.size f cdv)) →
      ∃ t, PSs (cxOf CX0 P w K mg base N qual (defScope st) f cdv A outer s H E).nox (defBody st) t ∧ ∀ F M ds rs σ H1 D, R ds rs → Sta K F M (startD N.length ds) [] σ H1 →
        (∀ p H' δ, F p = none → Sta K F (p :: M) δ [(p, rs)] σ H' → D.rt (.ref p) H') → t D σ H1) : FnOk P w K mg base CX0 (k + 1) f fd ps (spL K R) := by
  refine Fn.ok S (fun vs H Q E ⟨M, ds, r, _, h1, h2, _⟩ => by rw [h1.length]; exact len _ _ h2) fun cdv A outer s H vs Q E hr ⟨M, ds, rs, al, ra, hR, kq⟩ => ?_
  obtain ⟨t, h1, h2⟩ := body cdv A outer s H E hr
  refine ⟨t, h1, h2 H M ds rs _ H _ hR (sta_start al ra) fun p H' δ hp s' => ?_⟩
  obtain ⟨ws, g1, g2⟩ := s'.sto (p, rs) (by simp)
  exact kq p ws H' hp s'.fr g1 g2
/-- a def whose first argument is a list that it changes -/
theorem okS {x qual : Str} {st : Stmt} {f : Addr} {fd : FuncData} {N ps : List Str} {k : Nat} {R : List DV → List DV → List DV → DV → Prop} (Fn : Fun K x qual st f fd) (S : FnScope N ps (defScope st)) (len : ∀ s ds s' r, R s ds s' r → ds.length + 1 = ps.length)
    (body : ∀ (cdv : Value) (A : Around) (outer : List PySem.Env) (s : Shared) (H : Hp) (E : XK), Room k (A.deeper (envOfC qual (defScope st) s.heap.objs.size f cdv)) →
      ∃ t, PSs (cxOf CX0 P w K mg base N qual (defScope st) f cdv A outer s H E).nox (defBody st) t ∧ ∀ F M l s0 ds s1 r σ H1 D, R s0 ds s1 r → Sta K F M (startD N.length (.box l :: ds)) [(l, s0)] σ H1 →
        (∀ v H' M' δ σ', (∀ a ∈ M, a ∈ M') → Sta K F M' δ [(l, s1)] σ' H' → Rp K (hid M' H') v r → D.rt v H') → (∀ σ' H', D.rt .non H' → D.nx σ' H') → t D σ H1) : FnOk P w K mg base CX0 (k + 1) f fd ps (spS K R) := by
  refine Fn.ok S (fun vs H Q E ⟨M, st, ws, xs, s0, ds, s1, r, e, _, _, _, _, h1, h2, _⟩ => by rw [e, List.length_cons, h1.length]; exact len _ _ _ _ h2) fun cdv A outer s H vs Q E hr ⟨M, st, ws, xs, s0, ds, s1, r, e, hm, al, hst, rs, ra, hR, kq⟩ => ?_
  obtain ⟨t, h1, h2⟩ := body cdv A outer s H E hr
  subst e
  have r0 : RpAll K (hid M H) (.ref st :: ws) (.box st :: ds) := .cons (.box st) ra
  refine ⟨t, h1, h2 (hid [st] H) M st s0 ds s1 r _ H _ hR ⟨al, hid_sub, fun p hp => ?_, by simp, fun p hp => ?_, envAll r0, by unfold L2.start startD; simp [ra.length]⟩ (fun v H' M' δ σ' hM s' rv => ?_) fun _ _ z => z⟩
  · simp only [List.mem_singleton] at hp
    subst hp
    exact ⟨hm, by unfold hid; simp⟩
  · simp only [List.mem_singleton] at hp
    subst hp
    exact ⟨xs, hst, rs⟩
  · obtain ⟨ys, g1, g2⟩ := s'.sto (st, s1) (by simp)
    have up : Ex (hid M' H') (hid M H') := hid_less hM
    exact kq v ys H' (fun a o hne q => s'.fr a o (hid_get (by simp [hne]) q)) g1 (g2.mono up) (rv.mono up)
end
end G
set_option Elab.async false
set_option linter.all false
set_option maxRecDepth 100000
/-! Rules of my own at the machine's level: // by any int, operators of own classes. -/
namespace G
open PySem PySem.Spec PyProof.Rows L2 Evl
/-- the head of the frames that run is a plain def's -/
def PlainTop (l : List PySem.Env) : Prop := ∃ e r, l = e :: r ∧ e.scope.isGenerator = false ∧ e.scope.isCoroutine = false ∧ e.builtins = builtinsNs ∧ e.globals = mainGlobals
def CNz (_ j : Int) : Prop := j ≠ 0
theorem op_fdivB {X : Cx} (sr : X.base.NoSeer) (tr : X.prog.given.tree = none) (hd : X.A.depth + 100 < recursionLimit) (st : PlainTop X.stack) : OpR X (binaryOp .FloorDiv) (rI CNz fun i j => .int (i.fdiv j)) := by
  intro pins s σ H x y v u Q I rx ry h
  obtain ⟨i, j, rfl, rfl, hc, q⟩ := h
  obtain ⟨t, rfl⟩ := rx
  obtain ⟨t', rfl⟩ := ry
  obtain ⟨e, r, hst, h1, h2, h3, h4⟩ := st
  have hfr : X.A.frames = some (e :: r) := by rw [I.ok.frames, hst]
  exact floordiv_int (A := X.A) hc ⟨.int _, H, I.tok _, ⟨_, rfl⟩, q⟩ (.inr (PylongRoom.of I.nolimit hd (SeerAt.of (sr.keeps I.bk) tr hfr h1 h2 h3 h4)))
/-- * of ints whose bits together are below the model's line -/
def CMulB (i j : Int) : Prop := IntMulOk i j
theorem op_mulB {X : Cx} : OpR X (binaryOp .Mult) (rI CMulB fun i j => .int (i * j)) := opI fun _ _ _ _ _ _ _ hc q => mul_int q hc
theorem mulOk {i j : Int} {a b : Nat} (ha : i.natAbs < 2 ^ a) (hb : j.natAbs < 2 ^ b) (h : a + b ≤ 134217728) : CMulB i j := by
  have key : ∀ (x : Int) (n : Nat), x.natAbs < 2 ^ n → Builtin.Int.intBits x ≤ n := fun x n hx => by
    unfold Builtin.Int.intBits
    split
    · exact Nat.zero_le _
    · rename_i h0
      have hx0 : x.natAbs ≠ 0 := fun z => h0 (by simp; omega)
      have := (Nat.log2_lt hx0).mpr hx
      omega
  have h1 := key _ _ ha
  have h2 := key _ _ hb
  have e : bitsLine = 134217728 := by decide
  show IntMulOk i j
  unfold IntMulOk
  intro z
  rw [Bool.and_eq_true] at z
  have z2 := z.2
  unfold Builtin.Int.intTooBig at z2
  have z3 := of_decide_eq_true z2
  rw [e] at z3
  omega
theorem mulSm {i j : Int} (h : -(2 ^ 64) < i ∧ i < 2 ^ 64) : CMulB i j := .of_left (intBits_le_64 h.1 h.2)
theorem mulSmR {i j : Int} (h : -(2 ^ 64) < j ∧ j < 2 ^ 64) : CMulB i j := .of_right (intBits_le_64 h.1 h.2)

section
variable {X : Cx} {CX : CXT} {pins : List (Addr × Obj)} {σ : L2.St} {H : Hp} {s : Shared} {a C dx f : Addr} {fs : List (Str × V)} {k : Nat} {fd : FuncData} {ps : List Str} {sp : Sp} {E : XK}
theorem inst_of (I : L2.Inv X pins σ H s) (e : H a = some (.ins C dx fs)) : ∃ ox od, PySem.W.InstAt s.heap a ox C od := by
  obtain ⟨mA, O, _, _, _, _⟩ := ins_get I.hok e
  obtain ⟨od, J, _⟩ := O.look
  exact ⟨_, _, J⟩
theorem back_of {P : Value → Shared → Prop} {z : V} {v : Value} {s' : Shared} (r : RelV z v) (h : P v s') : PySem.W.CmpBack P v s' := by
  cases z <;> first
    | (cases r; exact h)
    | (obtain ⟨t, e⟩ := r; cases e; exact h)
/-- x op y, both instances of the class at C, which defines op -/
def rOwnB (C : Addr) (sp : Sp) (E : XK) : R2 := fun x y H Q => ∃ a dx fs b dy gs, x = .ref a ∧ y = .ref b ∧ H a = some (.ins C dx fs) ∧ H b = some (.ins C dy gs) ∧ sp [x, y] H Q E
theorem op_ownB {op : Operator} (hc : PySem.W.selfFirst X.K C = true) (hs : PySem.W.findIn X.K (.ref C) (PySem.dunder op.info.2) = some (some (.ref f))) (hf : PySem.W.isFn X.K (.ref f) = true)
    (Fn : FnOk X.prog X.w X.K X.mg X.base CX k f fd ps sp) (hr : Room k X.A) (hb : Binds X.K fd ps []) (hx : Passes CX X E) : OpR X (binaryOp op) (rOwnB C sp E) := by
  intro pins s σ H x y v u Q I rx ry h
  obtain ⟨a, dx, fs, b, dy, gs, rfl, rfl, ha, hb', q⟩ := h
  cases rx
  cases ry
  obtain ⟨ox, od, J⟩ := inst_of I ha
  obtain ⟨oy, od', J'⟩ := inst_of I hb'
  obtain ⟨m, hF⟩ := I.fr
  refine PySem.W.binop_K hF I.ok.mod.kin J J'.type hc hs hf (wpAny_mono (run_fn (us := [.ref a, .ref b]) (vs := [.ref a, .ref b]) Fn hr hb .nil hx I (.cons rfl (.cons rfl .nil)) q) (fun w s' z => ?_) fun _ _ e => e)
  obtain ⟨z', H', I', rz, qz⟩ := z
  exact back_of rz ⟨z', H', I', rz, qz⟩
/-- x == y, x an instance of the class at C, y of a class or type t that does not come first -/
def rOwnE (K : PySem.W.Frag) (C : Addr) (sp : Sp) (E : XK) : R2 := fun x y H Q => ∃ a dx fs t, x = .ref a ∧ H a = some (.ins C dx fs) ∧ TyX K H y t ∧ PySem.W.notFirst K C t = true ∧ sp [x, y] H Q E
theorem type_of {y : V} {u t : Value} (I : L2.Inv X pins σ H s) (r : RelV y u) (ty : TyX X.K H y t) : PySem.W.Looks (model X.prog X.w) s.heap (typeOf u) t := by
  obtain ⟨P, Z, p, _⟩ := kit_of I r ty
  exact Z.ty _ _ I.kIn p
theorem op_ownE (hs : PySem.W.findIn X.K (.ref C) "__eq__" = some (some (.ref f))) (hf : PySem.W.isFn X.K (.ref f) = true)
    (Fn : FnOk X.prog X.w X.K X.mg X.base CX k f fd ps sp) (hr : Room k X.A) (hb : Binds X.K fd ps []) (hx : Passes CX X E) : OpR X (compareOp .Eq) (rOwnE X.K C sp E) := by
  intro pins s σ H x y v u Q I rx ry h
  obtain ⟨a, dx, fs, t, rfl, ha, ty, hn, q⟩ := h
  cases rx
  obtain ⟨ox, od, J⟩ := inst_of I ha
  obtain ⟨m, hF⟩ := I.fr
  show wpAny _ _ (richCompare .Eq (.ref a) u) _ _ _
  refine PySem.W.cmp_K (op := .Eq) hr.units0 hF I.ok.mod.kin J (type_of I ry ty) hn hs hf (wpAny_mono (run_fn (us := [.ref a, u]) (vs := [.ref a, y]) Fn hr hb .nil hx I (.cons rfl (.cons ry .nil)) q) (fun w s' z => ?_) fun _ _ e => e)
  obtain ⟨z', H', I', rz, qz⟩ := z
  exact back_of rz ⟨z', H', I', rz, qz⟩
/-- -x -/
theorem un_own (hs : PySem.W.findIn X.K (.ref C) "__neg__" = some (some (.ref f))) (hf : PySem.W.isFn X.K (.ref f) = true) (Fn : FnOk X.prog X.w X.K X.mg X.base CX k f fd ps sp) (hr : Room k X.A) (hb : Binds X.K fd ps []) (hx : Passes CX X E) :
    UnR X (unaryOp .USub) (fun x H Q => ∃ a dx fs, x = .ref a ∧ H a = some (.ins C dx fs) ∧ sp [x] H Q E) := by
  intro pins s σ H x v Q I rx h
  obtain ⟨a, dx, fs, rfl, ha, q⟩ := h
  cases rx
  obtain ⟨ox, od, J⟩ := inst_of I ha
  obtain ⟨m, hF⟩ := I.fr
  exact PySem.W.ksp_neg hF I.ok.mod.kin J hs hf (run_fn (us := [.ref a]) (vs := [.ref a]) Fn hr hb .nil hx I (.cons rfl .nil) q)
/-- len(x), x an instance of a class with its own __len__ -/
def rLenOwn (C : Addr) (sp : Sp) (E : XK) : List V → Hp → VK → Prop := fun xs H Q => ∃ a dx fs, xs = [.ref a] ∧ H a = some (.ins C dx fs) ∧ sp [.ref a] H (fun z H' => ∃ n : Int, z = .int n ∧ (0 ≤ n ∧ n < 2 ^ 63) ∧ Q z H') E
theorem call_lenOwn (hs : PySem.W.findIn X.K (.ref C) "__len__" = some (some (.ref f))) (hf : PySem.W.isFn X.K (.ref f) = true) (Fn : FnOk X.prog X.w X.K X.mg X.base CX k f fd ps sp) (hr : Room (k + 1) X.A) (hb : Binds X.K fd ps [])
    (hx : ∀ (H : Hp) (s : Shared) (e : Value) (s' : Shared), CX X.stack H s E e s' → X.xe e s') : CallR X (.builtin "len") (rLenOwn C sp E) := by
  intro pins s σ H xs us Q I r h
  obtain ⟨a, dx, fs, rfl, ha, q⟩ := h
  obtain ⟨u, rfl, ru⟩ := vals1 r
  cases ru
  obtain ⟨ox, od, J⟩ := inst_of I ha
  obtain ⟨m, hF⟩ := I.fr
  refine PySem.W.len_K hF I.ok.mod.kin J hs hf (wpAny_call (codeAny_mono (Fn.run X.A.in1 X.stack s H ⟨[.ref a], []⟩ [.ref a] [.ref a] _ E hr.in1 I.env0.in1 (by simpa using hb s [.ref a] I.kIn (by simpa using (Fn.len _ _ _ _ q))) (.cons rfl .nil) q) fun r s' hq => ?_))
  cases r with
  | error e => exact hx _ _ _ _ hq
  | ok fl =>
    cases fl with
    | ret u =>
      obtain ⟨v, H', I', rv, n, ev, hn, qv⟩ := I.after hq
      subst ev
      obtain ⟨t, e⟩ := rv
      subst e
      exact ⟨hn, .int n, H', I'.tok _, ⟨_, rfl⟩, qv⟩
    | next => exact hq
    | brk => exact hq
    | cont => exact hq
end
end G
set_option Elab.async false
set_option linter.all false
set_option maxRecDepth 100000
namespace G
open PySem PySem.Spec PyProof.Rows L2 Evl
section
open PySem.W Builtin
variable {prog : Program} {w : World} {A : Around} {E : Value → Shared → Prop} {s : Shared} {K : Frag} {x C f : Addr} {ox : Obj} {od : Option Obj} {b tb : Value}
/-- x.name(..) where the class has a built-in for name -/
theorem ifBoundB {M : Model} {name : Str} {id : String} {args : List Value} {Q : Option Value → Shared → Prop} (X : K.In s.heap) (I : InstAt s.heap x ox C od) (hs : findIn K (.ref C) name = some (some (.builtin id)))
    (hb : bindSpecial (.builtin id) (.ref x) = pure (.builtin id, [.ref x])) (h : wpAny M A (call (.builtin id) (.ref x :: args)) (fun v => Q (some v)) E s) : wpAny M A (callSpecialIfBound? (.ref x) name args) Q E s := by
  have fin : wpAny M A (call (.builtin id) ([.ref x] ++ args) >>= fun v => pure (some v)) Q E s := wpAny_bind (wpAny_mono h (fun _ _ z => wpAny_pure z) fun _ _ z => z)
  unfold callSpecialIfBound? bindSpecialIfBound?
  refine wpAny_holding (wpAny_bind (wpAny_bind (wpAny_bind (I.type.here ((looks_findIn X hs).here ?_)))))
  refine wpAny_bind (wpAny_askSetting (wpAny_ite ?_))
  split
  · exact wpAny_bind (wpAny_of_eq hb (wpAny_pure fin))
  · exact wpAny_tryCatch (wpAny_bind (wpAny_of_eq hb (wpAny_pure fin)))
theorem call_objNe {Q : Value → Shared → Prop} (hu : A.units + 1 < cLine) (X : K.In s.heap) (I : InstAt s.heap x ox C od) (hm : mroIn K C (.type "object") = some true) (hs : findIn K (.ref C) "__eq__" = some (some (.ref f))) (hf : isFn K (.ref f) = true)
    (h : wpAny (model prog w) A.in1 (call (.ref f) [.ref x, b]) (fun v s' => ∃ k, v = .bool k ∧ Q (.bool (!k)) s') E s) : wpAny (model prog w) A (call (.builtin "object.__ne__") [.ref x, b]) Q E s := by
  have sub : Looks (model prog w) s.heap (isInstance (.ref x) (.type "object")) true := I.type.andThen (looks_mroIn X hm)
  refine wpAny_call (codeAny_call_builtin F.cmp_object.ne.plain F.cmpEntry_ne (@check_slot (model prog w) _ _ s "object.__ne__" "object" "__ne__" (.ref x) [b] [] _ F.cmpKind_ne F.cmpSplit_ne sub (F.cmpArgs_ne (.ref x) b) ?_))
  unfold Builtin.«object.__ne__»
  refine wpAny_bind (wpAny_of_eq (a := (Value.ref x, [b])) (by first | rfl | kernel_rfl) ?_)
  show wpAny _ _ (cRoomFor "comparison" [.ref x, b] >>= _) _ _ _
  refine wpAny_bind (wpAny_cRoomFor hu ?_)
  refine wpAny_bind (m := callSpecialIfBound? (.ref x) (Str.ofString "__eq__") [b]) (ifBound_K X I hs hf (wpAny_mono h (fun v s' z => ?_) fun _ _ e => e))
  obtain ⟨k, rfl, q⟩ := z
  first
    | exact wpAny_bind (wpAny_truthy_bool (wpAny_pure ⟨_, rfl, q⟩))
    | exact wpAny_bind (wpAny_truthy_bool (wpAny_pure q))
theorem ne_K {Q : Value → Shared → Prop} (hu : A.units + 2 < cLine) (X : K.In s.heap) (I : InstAt s.heap x ox C od) (hm : mroIn K C (.type "object") = some true) (hb : Looks (model prog w) s.heap (typeOf b) tb) (hn : notFirst K C tb = true)
    (hne : findIn K (.ref C) "__ne__" = some (some (.builtin "object.__ne__"))) (hs : findIn K (.ref C) "__eq__" = some (some (.ref f))) (hf : isFn K (.ref f) = true)
    (h : wpAny (model prog w) A.in1 (call (.ref f) [.ref x, b]) (fun v s' => ∃ k, v = .bool k ∧ Q (.bool (!k)) s') E s) : wpAny (model prog w) A (richCompare .NotEq (.ref x) b) Q E s := by
  have one : wpAny (model prog w) A (tryCompare (.ref x) (cmpInfo .NotEq).2.1 b) (fun r s' => ∃ v, r = some v ∧ Q v s') E s := by
    unfold tryCompare
    refine wpAny_bind (ifBoundB X I hne (F.cmp_object.ne.bind _) (call_objNe (by omega) X I hm hs hf (wpAny_mono h (fun v s' z => ?_) fun _ _ e => e)))
    obtain ⟨k, rfl, q⟩ := z
    exact ⟨k, rfl, wpAny_pure ⟨_, rfl, q⟩⟩
  unfold richCompare
  simp only [oneThing_ref]
  refine wpAny_holding (wpAny_bind (wpAny_cRoomFor (by omega) ?_))
  refine wpAny_bind (I.type.here (wpAny_bind (hb.here ?_)))
  split
  case isTrue q => exact wpAny_bind ((looks_subIn X ((Bool.or_eq_true_iff.mp hn).elim (fun e => by rw [beq_iff_eq.mp e, bne_self_eq_false] at q; cases q) beq_iff_eq.mp)).here (by
    simp only [Bool.false_eq_true, if_false]
    exact wpAny_bind (wpAny_mono one (fun r s' ⟨v, e, hq⟩ => by subst e; exact wpAny_pure hq) fun _ _ e => e)))
  case isFalse q => exact wpAny_bind (wpAny_pure (by
    simp only [Bool.false_eq_true, if_false]
    exact wpAny_bind (wpAny_mono one (fun r s' ⟨v, e, hq⟩ => by subst e; exact wpAny_pure hq) fun _ _ e => e)))
end
end G
set_option Elab.async false
set_option linter.all false
set_option maxRecDepth 100000
namespace G
open PySem PySem.Spec PyProof.Rows L2 Evl
section
variable {X : Cx} {CX : CXT} {pins : List (Addr × Obj)} {σ : L2.St} {H : Hp} {s : Shared} {a C dx f : Addr} {fs : List (Str × V)} {k : Nat} {fd : FuncData} {ps : List Str} {sp : Sp} {E : XK}
/-- x != y by the own == -/
def rOwnN (K : PySem.W.Frag) (C : Addr) (sp : Sp) (E : XK) : R2 := fun x y H Q => ∃ a dx fs t, x = .ref a ∧ H a = some (.ins C dx fs) ∧ TyX K H y t ∧ PySem.W.notFirst K C t = true ∧ sp [x, y] H (fun z H' => ∃ b, z = .bl b ∧ Q (.bl (!b)) H') E
theorem op_ownN (hm : PySem.W.mroIn X.K C (.type "object") = some true) (hne : PySem.W.findIn X.K (.ref C) "__ne__" = some (some (.builtin "object.__ne__"))) (hs : PySem.W.findIn X.K (.ref C) "__eq__" = some (some (.ref f))) (hf : PySem.W.isFn X.K (.ref f) = true)
    (Fn : FnOk X.prog X.w X.K X.mg X.base CX k f fd ps sp) (hr : Room (k + 1) X.A) (hb : Binds X.K fd ps [])
    (hx : ∀ (H : Hp) (s : Shared) (e : Value) (s' : Shared), CX X.stack H s E e s' → X.xe e s') : OpR X (compareOp .NotEq) (rOwnN X.K C sp E) := by
  intro pins s σ H x y v u Q I rx ry h
  obtain ⟨a, dx, fs, t, rfl, ha, ty, hn, q⟩ := h
  cases rx
  obtain ⟨ox, od, J⟩ := inst_of I ha
  have hun := hr.units
  show wpAny _ _ (richCompare .NotEq (.ref a) u) _ _ _
  refine ne_K (by omega) I.kIn J hm (type_of I ry ty) hn hne hs hf (wpAny_call (codeAny_mono (Fn.run X.A.in1 X.stack s H ⟨[.ref a, u], []⟩ [.ref a, u] [.ref a, y] _ E hr.in1 I.env0.in1 (by simpa using hb s [.ref a, u] I.kIn (by simpa using (Fn.len _ _ _ _ q))) (.cons rfl (.cons ry .nil)) q) fun r s' hq => ?_))
  cases r with
  | error e => exact hx _ _ _ _ hq
  | ok fl =>
    cases fl with
    | ret u =>
      obtain ⟨v, H', I', rv, b, ev, qv⟩ := I.after hq
      subst ev
      cases rv
      exact ⟨b, rfl, .bl (!b), H', I', rfl, qv⟩
    | next => exact hq
    | brk => exact hq
    | cont => exact hq
end
/-! ### the end, the base's own facts told -/
section
variable {P : Program} {w : World} {K : PySem.W.Frag} {mg mb : Str → Option Value} {CX : CXT} {k : Nat} {fa a : Addr} {fd : FuncData} {x : Str} {sp : Sp} {s₁ : Shared} {vs : List Value} {ns : List Int}
theorem law_run (KX : K.In s₁.heap) (hns : s₁.heap.Ns mainGlobals mg) (hb : s₁.heap.Ns builtinsNs mb) (hbb : ∀ x : Str, x ≠ "__name__" → mb x = bootBuiltins x) (hlim : s₁.heap.NoLimit) (hsr : s₁.heap.NoSeer) (hg : s₁.gens = #[])
    (ha : s₁.heap.get? a = some { cls := .type "list", data := .seq vs.toArray }) (hi : IntsAre vs ns) (hl : ns.length ≤ sizeLine) (hr : Room k callerA)
    (F : ∀ base : Heap, K.In base → base.Ns mainGlobals mg → base.NoSeer → FnOk P w K mg base CX k fa fd [x] sp) (hbind : ∀ (s : Shared) (u : Value), BindsTo s fd ⟨[u], []⟩ [(x, u)])
    (hsp : ∀ H : Hp, Only H → SqL K H a (ns.map V.int) → sp [.ref a] H (fun v _ => v = .bl true) fun _ _ _ => False) (hCX : ∀ H e s', CX [] H s₁ (fun _ _ _ => False) e s' → False) :
    codeAny (model P w) callerA (.call (.ref fa) ⟨[.ref a], []⟩) (fun r s' => r = .ok (.ret (.bool true)) ∧ OldK s₁.heap s'.heap ∧ s'.os = s₁.os ∧ AllBare s'.gens) s₁ := by
  -- the abstract heap: the script, where the top does not hold it itself
  obtain ⟨H, hA, hS, hO, hok⟩ : ∃ H : Hp, (∀ b, H b ≠ none → b = a ∧ K.lookup a = none) ∧ SqL K H a (ns.map V.int) ∧ Only H ∧ HOk P w H s₁.heap := by
    have rv := vals_ints hi
    cases hk : K.lookup a with
    | some o =>
      have e := KX a o hk
      rw [ha] at e
      cases e
      have e := rv.length
      rw [List.length_map] at e
      exact ⟨fun _ => none, fun b z => (z rfl).elim, .inr ⟨_, vs.toArray, _, hk, rfl, rfl, rfl, by rw [List.size_toArray]; omega, by simpa using rv⟩, fun _ => .inl rfl, fun b u z => by cases (z : (none : Option HO) = some u)⟩
    | none =>
      refine ⟨upd (fun _ => none) a (.frz { cls := .type "list", data := .seq vs.toArray } (.lst (ns.map V.int))), fun b z => ?_, .inl (.inr ⟨_, upd_same⟩), fun b => ?_, fun b u z => ?_⟩
      · by_cases e : b = a
        · exact ⟨e, rfl⟩
        · rw [upd_ne e] at z
          exact (z rfl).elim
      · by_cases e : b = a
        · exact .inr ⟨_, _, by rw [e]; exact upd_same⟩
        · exact .inl (upd_ne e)
      · by_cases e : b = a
        · subst e
          rw [upd_same] at z
          cases z
          exact ⟨ha, by rw [List.length_map]; exact hl, vs, _, rv, ha⟩
        · rw [upd_ne e] at z
          cases z
  -- all but a list is in the base
  have up : ∀ {b : Addr} {o : Obj}, s₁.heap.get? b = some o → o.cls ≠ .type "list" → (hidT s₁.heap H).get? b = some o := fun {b o} e hc => hidT_get e (by
    cases q : H b with
    | none => rfl
    | some u =>
      have := (hA b (by rw [q]; simp)).1
      subst this
      rw [ha] at e
      cases e
      exact (hc rfl).elim)
  have upD : ∀ {b : Addr} {o : Obj} {es : Array DictEntry} {ep : Nat}, s₁.heap.get? b = some o → o.data = .dict es ep → (hidT s₁.heap H).get? b = some o := fun {b o es ep} e d => hidT_get e (by
    cases q : H b with
    | none => rfl
    | some u =>
      have := (hA b (by rw [q]; simp)).1
      subst this
      rw [ha] at e
      cases e
      cases d)
  have upN : ∀ {b : Addr} {m : Str → Option Value}, s₁.heap.Ns b m → (hidT s₁.heap H).Ns b m := fun {b m} ⟨o, es, ep, e, d, r⟩ => ⟨o, es, ep, upD e d, d, r⟩
  have upK : K.In (hidT s₁.heap H) := fun b o e => hidT_get (KX b o e) (by
    cases q : H b with
    | none => rfl
    | some u =>
      obtain ⟨h1, h2⟩ := hA b (by rw [q]; simp)
      rw [h1, h2] at e
      cases e)
  have bs : (hidT s₁.heap H).NoSeer :=
    ⟨let ⟨mc, z, r⟩ := hsr.statics; ⟨mc, upN z, r⟩, let ⟨mm, z, r⟩ := hsr.mods; ⟨mm, upN z, r⟩, let ⟨mi, z, r⟩ := hsr.imp; ⟨mi, upN z, r⟩,
      let ⟨m', bm, ob, z, e1, e2, e3, e4⟩ := hsr.main; ⟨m', bm, ob, upN z, e1, up e2 (by rw [e3]; decide), e3, e4⟩⟩
  have md : Mod K mg (hidT s₁.heap H) := ⟨upK, upN hns, ⟨mb, upN hb, hbb⟩, let ⟨mc, z, r⟩ := hlim; ⟨mc, upN z, r⟩⟩
  have e0 : Env0 P w K mg (hidT s₁.heap H) callerA [] s₁ H := ⟨rfl, md, fun b o e => of_hidT e, Nat.le_of_eq (hidT_size _ _), trivial, fun b hb => absurd (show b ∈ ([] : List Addr) from hb) (by simp), hok, .of_eq hg⟩
  refine codeAny_mono ((F _ upK (upN hns) bs).run callerA [] s₁ H ⟨[.ref a], []⟩ [.ref a] [.ref a] _ _ hr e0 (hbind s₁ (.ref a)) (.cons rfl .nil) (hsp H hO hS)) fun r s' h => ?_
  cases r with
  | error e => exact (hCX H e s' h).elim
  | ok fl =>
    cases fl with
    | next => exact h.elim
    | brk => exact h.elim
    | cont => exact h.elim
    | ret u =>
      obtain ⟨v, H', os, bare, un, hok', r', q⟩ := h
      have q' : v = .bl true := q
      subst q'
      cases (r' : u = Value.bool true)
      refine ⟨rfl, OldK.of_keep fun b o e => ?_, os, bare⟩
      rcases hO b with z | ⟨ob, xs, z⟩
      · exact un.keep b o e z (fun q => absurd (show b ∈ ([] : List Addr) from q) (by simp)) (by simp)
      · have h1 := (hok b _ z).1
        rw [e] at h1
        cases h1
        exact (hok' b _ (un.frzs b _ _ z)).1
end
theorem walkN {l : PySem.W.OpenLaw} {n k : Nat} {q : Program} {loose : List Str} {XP : (Str → Option Value) → Heap → Prop} {YP : World → Heap → Prop} {d : DefRec} {K : Params → PySem.W.Frag} {CX : CXT} {sp : PySem.W.Frag → Sp} {x : Str}
    (hn : l.most = some n) (hn2 : n ≤ sizeLine) (hdf : d.params.defaults = []) (hr : Room k callerA) (hi : importsNone q = true)
    (hY : ∀ (w : World) (h : Heap), YP w h → (K w.params).In h)
    (F : ∀ (w : World) (mg : Str → Option Value) (fa : Addr) (h : Heap), (K w.params).In h → h.Ns mainGlobals mg → mg d.name = some (.ref fa) →
      ∃ fd : FuncData, (∀ (s : Shared) (u : Value), BindsTo s fd ⟨[u], []⟩ [(x, u)]) ∧
        ∀ base : Heap, (K w.params).In base → base.Ns mainGlobals mg → base.NoSeer → FnOk l.prog w (K w.params) mg base CX k fa fd [x] (sp (K w.params)))
    (hsp : ∀ (K : PySem.W.Frag) (H : Hp) (a : Addr) (ns : List Int), ns.length ≤ n → Only H → SqL K H a (ns.map V.int) → sp K [.ref a] H (fun v _ => v = .bl true) fun _ _ _ => False)
    (hCX : ∀ (H : Hp) (s : Shared) (e : Value) (s' : Shared), CX [] H s (fun _ _ _ => False) e s' → False) : PySem.W.WalkO q loose XP YP l.row.toRowW d [] (fun f vs => PySem.call f vs) := by
  refine Att.attach_call hn hdf fun w s₀ s₁ mg mb fa o pm cd doc a vs ns Gr Y ho hd hcd hmg hobj hints hlen hg => ?_
  have KX := hY w _ Y
  obtain ⟨fd, hb, hF⟩ := F w mg fa _ KX Gr.T.g hmg
  exact law_run KX Gr.T.g Gr.T.b Gr.T.builtins Gr.T.nolimit (Gr.T.seer hi) hg hobj hints (Nat.le_trans hlen hn2) hr hF hb (fun H hO hS => hsp (K w.params) H a ns hlen hO hS) fun H e s' => hCX H s₁ e s'
end G
set_option Elab.async false
set_option linter.all false
set_option maxRecDepth 100000
set_option maxHeartbeats 1000000
/-! super().__init__(..) in the __init__ of an own exception class over ValueError (own classes between). -/
namespace G
open PySem PySem.Spec PyProof.Rows L2 Evl NdefX
section
variable {prog : Program} {w : World} {A : Around} {E : Value → Shared → Prop} {h : Heap} {g : Array GenState} {d : Drawn} {t : Nat} {os : OsState}
variable {nm q : Str} {C N : Addr} {bs bm : List Value} {hdct : Bool} {sn : List Str} {sub : List Value} {ab : Bool} {col : Option Bool} {dd : Option Addr} {k0 k1 k2 k3 k5 : Option Value}
/-- the bound ValueError.__init__ called -/
theorem callBound {u e t0 : Addr} {rest : List Value} {Q : Value → Shared → Prop}
    (hC : h.get? C = some (excClassObj nm q C N bs bm hdct sn sub ab col dd k0 k1 k2 k3 k5 "ValueError.__new__")) (he : h.get? e = some (PySem.HandSPX.excO C t0)) (hu : h.get? u = some (PySem.W.kxs_mw "ValueError.__init__" e)) (hrest : rest.length ≤ sizeLine)
    (hq : ∀ h' t1, (∀ b o, b ≠ e → h.get? b = some o → h'.get? b = some o) → h'.get? e = some (PySem.HandSPX.excO C t1) → Q .none ⟨h', g, d, t, os⟩) :
    wpAny (model prog w) A (call (.ref u) rest) Q E ⟨h, g, d, t, os⟩ := by
  refine wpAny_call (codeAny_of_tree ?_)
  show wpAny _ A.in1 (callAny (.ref u) ⟨rest, []⟩) _ _ _
  simp only [callAny]
  refine wpAny_bind (wpAny_load hu ?_)
  simp only [PySem.W.kxs_mw, show (Value.type "method-wrapper" == Value.type "method" || Value.type "method-wrapper" == Value.type "builtin_function_or_method" || Value.type "method-wrapper" == Value.type "method-wrapper") = true by decide, if_true]
  refine PySem.W.KFB.if_so (by decide) ?_
  refine wpAny_bind (PySem.W.check_bound_init F.excBase_ValueError.toExcCallFacts hC he rfl ?_)
  refine wpAny_bind (wpAny_pure (wpAny_pure ?_))
  refine ⟨plainId_quiet F.excBase_ValueError.init.plain _, codeAny_builtin F.excBase_ValueError.initEntry ?_⟩
  rw [Around.under_plainId F.excBase_ValueError.init.plain _]
  exact PySem.W.exc_init_tree (cls := .ref C) (t0 := t0) (dv := none) (c2 := .none) (c3 := .none) (b4 := .bool false) he hrest fun h' k e' _ => hq h' _ k e'
end
/-- what the written part says of a class C whose __init__ (at fI) says super().__init__(..) -/
structure SupC (K : PySem.W.Frag) (file : Str) (C fI cc cda : Addr) (qual : Str) (params : Arguments) (body : List Stmt) (scope : Scope) (fd : FuncData) : Prop where
  T : OexC K C
  fn : ∃ oc od osl dV kV doc pm an ct, fd = PySem.W.fnX "__init__" qual params body scope [("__class__", cc)] dV kV doc pm an (.ref cda) ct ∧ K.lookup fI = some ⟨oc, od, .func fd, osl⟩
  code : PySem.W.codeIn K (.ref cda) qual = true
  codeO : ∃ cl cdd vs ccs tf, K.lookup cda = some ⟨cl, cdd, .fields vs, ccs⟩ ∧ vs[2]? = some (.str file tf)
  cell : ∃ cl cld csl, K.lookup cc = some ⟨cl, cld, .cell (some (.ref C)), csl⟩
  cls : ∃ cd, PySem.W.clsIn K C = some cd
  sub : PySem.W.mroIn K C (.ref C) = some true
  sup : PySem.W.ks_superIn K C C "__init__" = some (some (.builtin "ValueError.__init__"))
  base : PySem.W.subIn K (.ref C) (.type "ValueError") = some true
  plain : PySem.W.nsIn K cStatics "thirdparty.any" = some none
theorem okSup {CX : CXT} {P : Program} {w : World} {K : PySem.W.Frag} {mg : Str → Option Value} {base : Heap} {k : Nat} {file : Str} {C fI cc cda : Addr} {qual a0 : Str} {params : Arguments} {scope : Scope} {fd : FuncData} {N ps : List Str} {sp : Sp} {e : Expr} {p0 p1 p2 p3 p4 : Pos} {rest : List Stmt}
    (Z : SupC K file C fI cc cda qual params (.Expr (.Call (.Attribute (.Call (.Name "super" p0) [] [] p1) "__init__" p2) [e] [] p3) p4 :: rest) scope fd)
    (S : NScope N (a0 :: ps) ["__class__"] scope) (hp : ∃ ar, (params.posonlyargs ++ params.args).head? = some ar ∧ ar.arg = a0)
    (hks : scope.names.lookup ("super" : Str) = some .globalImplicit) (hfile : ((P.main.file : Str) == file) = true) (htop : (P.main.scope.names.lookup ("super" : Str)).isSome = false) (hsuper : mg "super" = none)
    (hs : ∀ env, swapsWith (.Call (.Attribute (.Call (.Name "super" p0) [] [] p1) "__init__" p2) [e] [] p3) none p4.line env = pure false := by intro env; rfl)
    (he : ∀ env, starEach [e] env = [(false, eval e env)] := by intro env; rfl)
    (hc : ∀ env, ∃ pl : Sem Bool, eval (.Call (.Attribute (.Call (.Name "super" p0) [] [] p1) "__init__" p2) [e] [] p3) env = (do
      let ov ← attributeBase (.Call (.Name "super" p0) [] [] p1) "__init__" env (eval (.Call (.Name "super" p0) [] [] p1) env)
      standAt p2.atName
      let (f, first) ← holding [ov] (getMethod ov "__init__" pl)
      callWith p3 f first (backTo p3 (starEach [e] env)) []) := by intro env; exact ⟨_, rfl⟩)
    (len : ∀ vs H Q E, sp vs H Q E → vs.length = ps.length + 1)
    (body : ∀ (A : Around) (outer : List PySem.Env) (s : Shared) (H : Hp) (vs : List V) (Q : VK) (E : XK), sp vs H Q E → ∃ a ws, vs = .ref a :: ws ∧ H a = some (exo a C none) ∧
      ∃ te ts, PE (ncx CX P w K mg base N ⟨"__init__", qual, params, .Expr (.Call (.Attribute (.Call (.Name "super" p0) [] [] p1) "__init__" p2) [e] [] p3) p4 :: rest, scope, [("__class__", cc)], cda⟩ fI A outer s H E) e te ∧
        PSs (ncx CX P w K mg base N ⟨"__init__", qual, params, .Expr (.Call (.Attribute (.Call (.Name "super" p0) [] [] p1) "__init__" p2) [e] [] p3) p4 :: rest, scope, [("__class__", cc)], cda⟩ fI A outer s H E) rest ts ∧
        (∀ (σ : L2.St) (H : Hp) (Q Q' : VK), (∀ z H1, Q z H1 → Q' z H1) → te σ H Q → te σ H Q') ∧ te (startF N vs [none]) H fun _ H1 => H1 = H ∧ ts { nx := fun _ H' => Q .non H', rt := Q } (startF N vs [none]) H) :
    FnOk P w K mg base CX (k + 1) fI fd (a0 :: ps) sp := by
  obtain ⟨oc, od, osl, dV, kV, doc, pm, an, ct, rfl, lk⟩ := Z.fn
  refine ⟨len, fun A outer s H args us vs Q E hr e0 hb r hsp => ?_⟩
  have hl : vs.length = (a0 :: ps).length := len _ _ _ _ hsp
  have lim : s.heap.NoLimit := e0.mod.nolimit.keeps fun b o e => (e0.bs b o e).1
  have KX : K.In s.heap := e0.mod.kin.keeps fun b o e => (e0.bs b o e).1
  refine codeAny_call_function hr.depth (KX _ _ lk) rfl S.co S.gen rfl (PySem.W.codeRec_of KX Z.code) (hb _ _ _ _ ?_)
  refine wpAny_newFunctionEnv S.nocell (fun ⟨n, _⟩ hy => S.par n (List.of_mem_zip hy).1) (fun h₁ hns hsb => ⟨lim.fresh _ hsb, ?_⟩) S.kind
  obtain ⟨a, ws, rfl, ha, te, ts, he1, hs1, mono, hq⟩ := body A outer s H vs Q E hsp
  let F : NF := ⟨"__init__", qual, params, .Expr (.Call (.Attribute (.Call (.Name "super" p0) [] [] p1) "__init__" p2) [e] [] p3) p4 :: rest, scope, [("__class__", cc)], cda⟩
  have hF1 : F.scope = scope := rfl
  have hF2 : F.cl = [(("__class__" : Str), cc)] := rfl
  show codeAny _ _ (.func F.body (envF F fI s.heap.objs.size)) _ _
  refine PySem.ks_codeAny_funcAt ?_
  have kp : ∀ b o, s.heap.get? b = some o → h₁.get? b = some o := fun b o e => hsb.extBut b o (Nat.ne_of_lt (Heap.lt_size e)) (Heap.get?_push_of_some _ e)
  obtain ⟨ccl, cld, csl, hcell⟩ := Z.cell
  have cellB : base.get? cc = some ⟨ccl, cld, .cell (some (.ref C)), csl⟩ := e0.mod.kin _ _ hcell
  have CA : CellsAt F.cl ["__class__"] [none] s.heap H := by
    rw [hF2]
    refine ⟨rfl, fun y c hy => ?_, fun x y c h1 h2 => ?_, fun i y hy => ?_⟩
    · have hc : c = cc := by
        simp only [List.lookup] at hy
        split at hy
        · exact (Option.some.inj hy).symm
        · cases hy
      subst hc
      exact ⟨(e0.bs _ _ cellB).2, some (.ref C), _, (e0.bs _ _ cellB).1, rfl⟩
    · simp only [List.lookup] at h1 h2
      split at h1
      · rename_i q1
        split at h2
        · rename_i q2
          rw [eq_of_beq q1, eq_of_beq q2]
        · cases h2
      · cases h1
    · cases i with
      | zero =>
        cases hy
        exact ⟨cc, by simp [List.lookup], fun v hv => by cases hv⟩
      | succ i => simp at hy
  have I : Inv (ncx CX P w K mg base N F fI A outer s H E) [] (startF N (.ref a :: ws) [none]) H { s with heap := h₁, toks := s.toks + ((a0 :: ps).zip us).length } := inv_startN (by rw [hF1]; exact S) hr.hd e0 hl r CA hns kp
  have KI := I.kIn
  obtain ⟨nm, q, Nn, bs, bm, sn, sub, ab, col, dd, k0, k1, k2, k3, k5, hC, hbm⟩ := Z.T.cls
  obtain ⟨t1, hae⟩ := exo_at I.hok ha
  obtain ⟨cd, hcd⟩ := Z.cls
  obtain ⟨oD, hD1, hD2⟩ : ∃ oD, h₁.get? C = some oD ∧ oD.data = .cls cd := by
    unfold PySem.W.clsIn at hcd
    split at hcd
    · rename_i c d cd' sl ho
      cases hcd
      exact ⟨_, KI _ _ ho, rfl⟩
    · cases hcd
  obtain ⟨ccl', cdd, cvs, ccs, tf, hco, hvs⟩ := Z.codeO
  obtain ⟨ar, hp1, hp2⟩ := hp
  subst hp2
  have hbody : F.body = .Expr (.Call (.Attribute (.Call (.Name "super" p0) [] [] p1) "__init__" p2) [e] [] p3) p4 :: rest := rfl
  have hks' : (envF F fI s.heap.objs.size).kindOf "super" = some .globalImplicit := by
    show F.scope.names.lookup ("super" : Str) = _
    rw [hF1]
    exact hks
  have hkc' : (envF F fI s.heap.objs.size).kindOf "__class__" = some .free := by
    show F.scope.names.lookup ("__class__" : Str) = _
    rw [hF1]
    exact S.frk _ (by simp)
  have hka' : (envF F fI s.heap.objs.size).kindOf ar.arg = some .local := by
    show F.scope.names.lookup ar.arg = _
    rw [hF1]
    exact S.par _ (by simp)
  have hkd : (envF F fI s.heap.objs.size).scope.kind = .function := by
    show F.scope.kind = _
    rw [hF1]
    exact S.kind
  have fin : ∀ {σ' : L2.St} {H' : Hp} {v : V} {u : Value} {s' : Shared}, Inv (ncx CX P w K mg base N F fI A outer s H E) [] σ' H' s' → L2.RelV v u → Q v H' → CE outer P w H s Q u s' :=
    fun {σ' H' v u s'} J rv q => ⟨v, H', J.os, J.bare, J.base, J.hok, rv, q⟩
  refine PySem.ks_wpAt_execs_cons ?_
  refine PySem.ks_wpAt_Expr_any ?_ I.quiet (hs _)
  obtain ⟨pl, hpl⟩ := hc (envF F fI s.heap.objs.size)
  refine PySem.ks_wpAt_MethodCall (pl := pl) ?_ hpl
  refine PySem.ks_wpAt_super_base (env := envF F fI s.heap.objs.size) hks' hkc' (by decide +kernel) rfl (KI _ _ lk) rfl hp1 rfl (KI _ _ hco) rfl hvs hfile htop ?_
  obtain ⟨mb, hb1, hb2⟩ := I.mod.blt
  refine PySem.W.ks_loadName_global hkd hks' (Calls.loadGlobal_builtin (env := envF F fI s.heap.objs.size) (I.mod.glob.keeps I.bk) hsuper (hb1.keeps I.bk) ((hb2 _ (by decide +kernel)).trans PyProof.Rows.Boot.«super») ⟨rfl, ?_⟩)
  refine wpAny_loadName_free (env := envF F fI s.heap.objs.size) hkd hkc' (c := cc) (by rfl) ⟨_, KI _ _ hcell, rfl⟩ ?_
  obtain ⟨m, hns2, hloc⟩ := I.loc
  have hN0 : N[0]? = some ar.arg := by
    have q := S.pre
    have : (N.take ((ar.arg :: ps).length + [("__class__" : Str)].length))[0]? = some ar.arg := by rw [q]; rfl
    rw [List.getElem?_take] at this
    simpa using this
  obtain ⟨u0, ru0, lk0⟩ := hloc 0 ar.arg (.ref a) hN0 (by rfl) (.inl hka')
  have hm0 : m ar.arg = some (.ref a) := by
    rcases lk0 with ⟨_, e1⟩ | ⟨e1, _⟩
    · cases ru0
      exact e1
    · have e1' : (envF F fI s.heap.objs.size).kindOf ar.arg = some .cell ∨ (envF F fI s.heap.objs.size).kindOf ar.arg = some .free := e1
      rw [hka'] at e1'
      rcases e1' with e1' | e1' <;> cases e1'
  refine wpAny_loadName_local (env := envF F fI s.heap.objs.size) hkd hka' hns2 hm0 ?_
  refine PySem.ks_wpAny_isType_cls hD1 hD2 ⟨rfl, ?_⟩
  have J0 : PySem.W.InstAt h₁ a (PySem.HandSPX.excO C t1) C none := ⟨hae, rfl, rfl, trivial⟩
  refine PySem.ks_wpAny_call_super hD1 hD2 hae rfl (fun c e => by cases e) (PySem.W.looks_mroIn KI Z.sub) (fun h2 hso k2 => ?_)
  have I2 : Inv (ncx CX P w K mg base N F fI A outer s H E) [] (startF N (.ref a :: ws) [none]) H { heap := h2, gens := s.gens, drawn := s.drawn, toks := s.toks + ((ar.arg :: ps).zip us).length, os := s.os } := I.kept (t' := s.toks + ((ar.arg :: ps).zip us).length) k2
  have K2 := I2.kIn
  have hsup := Z.sup
  unfold PySem.W.ks_superIn at hsup
  rw [hcd] at hsup
  have J2 : PySem.W.InstAt h2 a (PySem.HandSPX.excO C t1) C none := ⟨k2 _ _ hae, rfl, rfl, trivial⟩
  have hI : PySem.W.Looks (model P w) h2 (isInstance (.ref a) (.type "ValueError")) true := J2.type.andThen (PySem.W.looks_subIn K2 Z.base)
  refine PySem.W.kxs_getMethod PySem.W.kxs_ValueError hso (PySem.W.looks_opaque K2 Z.plain) (l₀ := cd.mro) (fun A Q E s k q => wpAny_bind ((PySem.W.looks_clsIn K2 hcd) A _ E s k (wpAny_pure q))) rfl K2 hsup hI (PySem.W.ks_ne K2 J2 hcd) (by decide +kernel) ?_
  have I3 : Inv (ncx CX P w K mg base N F fI A outer s H E) [] (startF N (.ref a :: ws) [none]) H { heap := h2.push (PySem.W.kxs_mw "ValueError.__init__" a), gens := s.gens, drawn := s.drawn, toks := s.toks + ((ar.arg :: ps).zip us).length + 1, os := s.os } := I2.kept (t' := s.toks + ((ar.arg :: ps).zip us).length + 1) (fun b o e => Heap.get?_push_of_some _ e)
  have hu : (h2.push (PySem.W.kxs_mw "ValueError.__init__" a)).get? h2.objs.size = some (PySem.W.kxs_mw "ValueError.__init__" a) := Heap.get?_push_size _ rfl
  have I4 : Inv (ncx CX P w K mg base N F fI A outer s H E) [(h2.objs.size, PySem.W.kxs_mw "ValueError.__init__" a)] (startF N (.ref a :: ws) [none]) H { heap := h2.push (PySem.W.kxs_mw "ValueError.__init__" a), gens := s.gens, drawn := s.drawn, toks := s.toks + ((ar.arg :: ps).zip us).length + 1, os := s.os } := by
    refine I3.pins_of fun p hp => ?_
    have hp' : p = (h2.objs.size, PySem.W.kxs_mw "ValueError.__init__" a) := by simpa [ncx] using hp
    subst hp'
    exact ⟨hu, I2.hok.fresh (Nat.le_refl _), Nat.ne_of_gt I2.lt, I2.nofs (Nat.le_refl _), fun v e => by cases e⟩
  rw [he]
  refine PySem.W.kxs_callWith (i := "ValueError.__init__") (x := a) rfl (Calls.evalArgs_plain ?_)
  have pa : PA (ncx CX P w K mg base N F fI A outer s H E) [e] (tCons te tNil) := pa_cons he1 pa_nil (by rw [he]; rfl)
  have pr := pa.run p3 [(h2.objs.size, PySem.W.kxs_mw "ValueError.__init__" a)] _ _ H (fun vs H1 => ∃ z, vs = [z] ∧ H1 = H ∧ ts { nx := fun _ H' => Q .non H', rt := Q } (startF N (.ref a :: ws) [none]) H) I4 (mono _ _ _ _ (fun z H1 q => ⟨z, rfl, q⟩) hq)
  rw [he] at pr
  refine wpAny_mono pr (fun us2 s2 ⟨vs2, H1, I5, r5, z, ev, eH, q5⟩ => ?_) fun _ _ z => z
  subst ev
  subst eH
  obtain ⟨u2, rfl, ru2⟩ := vals1 r5
  have pu := (I5.pin (h2.objs.size, PySem.W.kxs_mw "ValueError.__init__" a) (by simp)).1
  refine ⟨pu, ?_⟩
  obtain ⟨t2, hae2⟩ := exo_at I5.hok ha
  obtain ⟨hp2, g2, d2, tk2, os2⟩ := s2
  refine callBound (I5.kIn _ _ hC) hae2 pu (by show 1 ≤ sizeLine; rw [sizeLine_eq]; omega) fun h' t3 k3 hx3 => ?_
  have J := I5.write (t' := tk2) (x := a) (e := a) (o := exo a C none) (by rw [ha]; exact True.intro) (.inl rfl) k3 ⟨_, hx3⟩ (exo_ok hx3)
  have eu : upd H1 a (exo a C none) = H1 := by
    funext b
    by_cases hb : b = a
    · rw [hb, upd_same, ha]
    · rw [upd_ne hb]
  rw [eu] at J
  have J' : Inv (ncx CX P w K mg base N F fI A outer s H1 E) [] (startF N (.ref a :: ws) [none]) H1 ⟨h', g2, d2, tk2, os2⟩ := J.pins_of fun p hp => J.pin p (by
    have : p ∈ ([] : List (Addr × Obj)) := by simpa [ncx] using hp
    cases this)
  refine wpAt_of_wpAny (wpAny_mono (hs1.run [] _ _ H1 _ J' q5) (fun fl s' hs => ?_) fun e s' hs => hs)
  cases fl with
  | ret u =>
    obtain ⟨v, σ', H', J, rv, q⟩ := hs
    exact fin J rv q
  | next =>
    obtain ⟨σ', H', J, q⟩ := hs
    exact fin (v := V.non) (u := Value.none) J rfl q
  | brk =>
    obtain ⟨_, _, _, q⟩ := hs
    exact False.elim q
  | cont =>
    obtain ⟨_, _, _, q⟩ := hs
    exact False.elim q
end G
set_option Elab.async false
set_option linter.all false
set_option maxRecDepth 100000
set_option maxHeartbeats 1000000
/-! zip and enumerate over lists and tuples alike. -/
namespace G
open PySem PySem.Spec PyProof.Rows L2 Evl
/-- false: a list, true: a tuple -/
def SqK (K : PySem.W.Frag) : Bool → Hp → Addr → List V → Prop
  | false => SqL K
  | true => SqT K
def ItK : Bool → Heap → Addr → Addr → Nat → Prop
  | false => fun h it l i => h.IsListIter it l i
  | true => fun h it l i => h.IsTupleIter it l i
def HdK : Bool → Heap → Addr → Array Value → Prop
  | false => fun h l xs => h.IsList l xs
  | true => fun h l xs => h.IsTuple l xs
theorem drawsK {prog : Program} {w : World} {A : Around} (hh : A.handled = none) (b : Bool) (it l : Addr) (hne : l ≠ it) (xs : Array Value) :
    Draws prog w A it [it, l] xs.size (fun i v => xs[i]? = some v) (fun i h => ItK b h it l i ∧ HdK b h l xs) := by
  cases b with
  | false => exact Draws.list hh it l hne xs
  | true => exact Draws.tuple hh it l hne xs
def itObj : Bool → Addr → Obj
  | false => fun l => { cls := .type "list_iterator", data := .fields #[.ref l, .int 0 0] }
  | true => fun l => { cls := .type "tuple_iterator", data := .fields #[.ref l, .int 0 0] }
theorem beginsK (b : Bool) (l : Addr) (xs : Array Value) : Begins (.ref l) (itObj b l) fun h => HdK b h l xs := by
  cases b with
  | false => exact begins_list l xs
  | true => exact begins_tuple l xs
section
variable {X : Cx} {pins : List (Addr × Obj)} {σ : L2.St} {H : Hp} {s : Shared} {b : Bool} {a : Addr} {xs ys : List V}
theorem seqK (I : L2.Inv X pins σ H s) (h : SqK X.K b H a xs) : ∃ its : List Value, Vals xs its ∧ HdK b s.heap a its.toArray ∧ a < s.heap.objs.size := by
  cases b with
  | false =>
    obtain ⟨its, r, p, _⟩ := I.list h
    exact ⟨its, r, p.isList, p.lt⟩
  | true =>
    obtain ⟨its, r, p, _⟩ := I.tuple h
    obtain ⟨o, ho, _⟩ := id p
    exact ⟨its, r, p, Heap.lt_size ho⟩
theorem injK (I : L2.Inv X pins σ H s) (h : SqK X.K b H a xs) (h' : SqK X.K b H a ys) : xs = ys := by
  cases b with
  | false => exact I.list_inj h h'
  | true => exact I.tuple_inj h h'
theorem ItK.get {h : Heap} {it l : Addr} {i : Nat} (x : ItK b h it l i) : ∃ o vs, h.get? it = some o ∧ o.data = .fields vs := by
  cases b with
  | false =>
    obtain ⟨o, h1, _, h2⟩ := x
    exact ⟨o, _, h1, h2⟩
  | true =>
    obtain ⟨o, h1, _, h2⟩ := x
    exact ⟨o, _, h1, h2⟩
theorem ItK.at {h h' : Heap} {it l : Addr} {i : Nat} (x : ItK b h it l i) (k : ∀ o, h.get? it = some o → h'.get? it = some o) : ItK b h' it l i := by
  cases b with
  | false => exact Heap.IsListIter.at x k
  | true => exact Heap.IsTupleIter.at x k
theorem ItK.new {h : Heap} {it l : Addr} (x : h.get? it = some (itObj b l)) : ItK b h it l 0 := by
  cases b with
  | false => exact ⟨_, x, rfl, rfl⟩
  | true => exact ⟨_, x, rfl, rfl⟩
end
/-- zip over what stands at a and b -/
def ItzK (K : PySem.W.Frag) (b1 b2 : Bool) (a b : Addr) : It :=
  ⟨fun i H => ∃ (xs ys : List V) (x y : V), SqK K b1 H a xs ∧ SqK K b2 H b ys ∧ xs[i]? = some x ∧ ys[i]? = some y,
    fun i H v H' => ∃ T x y, v = .ref T ∧ H T = none ∧ H' = upd H T (.tup [x, y]) ∧ (∀ xs, SqK K b1 H a xs → xs[i]? = some x) ∧ ∀ ys, SqK K b2 H b ys → ys[i]? = some y,
    fun i H => ∃ xs ys : List V, SqK K b1 H a xs ∧ SqK K b2 H b ys ∧ i ≤ xs.length ∧ i ≤ ys.length ∧ (i = xs.length ∨ i = ys.length)⟩
theorem mem5 {c z t u v w : Addr} (h : c ∈ [z, t, u, v, w]) : c = z ∨ c = t ∨ c = u ∨ c = v ∨ c = w := by simpa using h
theorem turnZ {P : Program} {w : World} {K : PySem.W.Frag} {elts : List Expr} {kk : Nat} {tpos : Pos} {b1 b2 : Bool} {a b z TI TO i1 i2 : Addr} (D : ZipSep2 z TI TO i1 i2 [i1, a] [i2, b]) (n1 : a ≠ i1) (n2 : b ≠ i2) :
    Turn P w K (.Tuple elts kk tpos) (ItzK K b1 b2 a b) [z, TI, TO, i1, i2] z (fun i h => IsZip h z TI TO .none ∧ IsTupOf2 h TI (.ref i1) (.ref i2) ∧ (∃ x y, IsTupOf2 h TO x y) ∧ ItK b1 h i1 a i ∧ ItK b2 h i2 b i) where
  mem := by simp
  obj := fun i h st c hc => by
    obtain ⟨hz, hTI, ⟨x, y, hTO⟩, h1, h2⟩ := st
    obtain ⟨o1, v1, e1, d1⟩ := h1.get
    obtain ⟨o2, v2, e2, d2⟩ := h2.get
    rcases mem5 hc with rfl | rfl | rfl | rfl | rfl
    · exact ⟨_, hz, fun v q => nomatch q⟩
    · exact ⟨_, hTI, fun v q => nomatch q⟩
    · exact ⟨_, hTO, fun v q => nomatch q⟩
    · exact ⟨o1, e1, fun v q => by rw [d1] at q; cases q⟩
    · exact ⟨o2, e2, fun v q => by rw [d2] at q; cases q⟩
  keep := fun i h h' st k => by
    obtain ⟨hz, hTI, ⟨x, y, hTO⟩, h1, h2⟩ := st
    exact ⟨k z (by simp) _ hz, k TI (by simp) _ hTI, ⟨x, y, k TO (by simp) _ hTO⟩, h1.at fun o q => k i1 (by simp) o q, h2.at fun o q => k i2 (by simp) o q⟩
  item := by
    intro X hP hw hK hc i pins s σ H E I hf st hg
    subst hP hw hK
    obtain ⟨hz, hTI, ⟨x0, y0, hTO⟩, h1, h2⟩ := st
    obtain ⟨xs, ys, x, y, hqx, hqy, hx, hy⟩ := hg
    obtain ⟨its, rv, p, _⟩ := seqK I hqx
    obtain ⟨its2, rv2, p2, _⟩ := seqK I hqy
    obtain ⟨u, hu, ru⟩ := rv.get hx
    obtain ⟨u2, hu2, ru2⟩ := rv2.get hy
    have hzl : z < s.heap.objs.size := Heap.lt_size hz
    have hh := I.ok.hd hc
    have q1 : i < its.toArray.size := by rw [List.size_toArray, ← rv.length]; exact (List.getElem?_eq_some_iff.mp hx).1
    have q2 : i < its2.toArray.size := by rw [List.size_toArray, ← rv2.length]; exact (List.getElem?_eq_some_iff.mp hy).1
    have D1 := drawsK (prog := X.prog) (w := X.w) (A := X.A.in1) hh b1 i1 a n1 its.toArray
    have D2 := drawsK (prog := X.prog) (w := X.w) (A := X.A.in1) hh b2 i2 b n2 its2.toArray
    refine wpAny_pyNext_zipD2_item D D1 D2 hz hTI hTO ⟨h1, p⟩ ⟨h2, p2⟩ q1 q2 fun x1 x2 h' tk e1 e2 z' TO' h1' h2' hT hsz hk => ?_
    obtain rfl : x1 = u := by
      have w1 : its.toArray[i]? = some u := by simpa using hu
      rw [w1] at e1
      exact (Option.some.inj e1).symm
    obtain rfl : x2 = u2 := by
      have w1 : its2.toArray[i]? = some u2 := by simpa using hu2
      rw [w1] at e2
      exact (Option.some.inj e2).symm
    refine ⟨_, rfl, wpAny_letOwnedTupleGo_zip (s := { s with heap := h', toks := tk }) z' fun h'' z'' sb => ?_⟩
    have hT2 : h''.get? s.heap.objs.size = some { cls := .type "tuple", data := .seq #[x1, x2] } := (sb.2 _ (Nat.ne_of_gt hzl)).trans hT
    have new : ObjOk X.prog X.w (upd H s.heap.objs.size (.tup [x, y])) h'' s.heap.objs.size (.tup [x, y]) :=
      ⟨by show 2 ≤ sizeLine; decide, [x1, x2], .cons ru (.cons ru2 .nil), ⟨_, hT2, rfl, _, rfl⟩⟩
    have I1 : L2.Inv X pins σ (upd H s.heap.objs.size (.tup [x, y])) { s with heap := h'', toks := tk } :=
      I.turnedNew (t' := tk) (ch := [z, TI, TO, i1, i2]) (fun c o hb q => by
        simp only [List.mem_cons, List.not_mem_nil, or_false, not_or] at hb
        obtain ⟨k1, k2, k3, k4, k5⟩ := hb
        exact (sb.2 c k1).trans (hk c o k1 k3 k4 k5 q)) hf (Nat.le_refl _) new
    refine ⟨.ref s.heap.objs.size, _, I1, rfl, ⟨_, x, y, rfl, I.hok.fresh (Nat.le_refl _), rfl, fun l hl => by rw [injK I hl hqx]; exact hx, fun l hl => by rw [injK I hl hqy]; exact hy⟩, ⟨z'', ?_, ⟨x1, x2, ?_⟩, ?_, ?_⟩, fun c hcm => ?_⟩
    · exact (sb.2 _ D.TIz).trans (hk _ _ D.TIz D.TITO D.TIi1 D.TIi2 hTI)
    · exact (sb.2 _ D.TOz).trans TO'
    · exact h1'.1.at fun o q => (sb.2 _ (fun e => D.zi1 e.symm)).trans q
    · exact h2'.1.at fun o q => (sb.2 _ (fun e => D.zi2 e.symm)).trans q
    · have hlt : c < s.heap.objs.size := by
        obtain ⟨o1, v1, g1, _⟩ := h1.get
        obtain ⟨o2, v2, g2, _⟩ := h2.get
        rcases mem5 hcm with rfl | rfl | rfl | rfl | rfl
        · exact hzl
        · exact Heap.lt_size hTI
        · exact Heap.lt_size hTO
        · exact Heap.lt_size g1
        · exact Heap.lt_size g2
      rw [upd_ne (Nat.ne_of_lt hlt)]
      exact (hf c hcm).1
  done := by
    intro X hP hw hK hc i pins s σ H E I hf st hg
    subst hP hw hK
    obtain ⟨hz, hTI, ⟨x0, y0, hTO⟩, h1, h2⟩ := st
    obtain ⟨xs, ys, hqx, hqy, k1, k2, hend⟩ := hg
    obtain ⟨its, rv, p, _⟩ := seqK I hqx
    obtain ⟨its2, rv2, p2, _⟩ := seqK I hqy
    have l1 : xs.length = its.toArray.size := by rw [List.size_toArray]; exact rv.length
    have l2 : ys.length = its2.toArray.size := by rw [List.size_toArray]; exact rv2.length
    have hh := I.ok.hd hc
    rw [l1] at k1 hend
    rw [l2] at k2 hend
    have D1 := drawsK (prog := X.prog) (w := X.w) (A := X.A.in1) hh b1 i1 a n1 its.toArray
    have D2 := drawsK (prog := X.prog) (w := X.w) (A := X.A.in1) hh b2 i2 b n2 its2.toArray
    exact wpAny_pyNext_zipD2_end D D1 D2 hz hTI hTO ⟨h1, p⟩ ⟨h2, p2⟩ k1 k2 hend fun h' tk hk => ⟨rfl, I.turnedL (t' := tk) (ch := [z, TI, TO, i1, i2]) (fun c o hb q => by
        simp only [List.mem_cons, List.not_mem_nil, or_false, not_or] at hb
        obtain ⟨k1, k2, k3, k4, k5⟩ := hb
        exact hk c o k1 k3 k4 k5 q) hf⟩
  self := fun A i s Q E st h => wpAny_pyIter_zip st.1 h
/-- zip(x, y), x and y lists or tuples that stand still -/
def iZipK (K : PySem.W.Frag) (ta : TA) : TI := fun σ H R => ta σ H fun vs H1 => ∃ b1 b2 a b xs ys, vs = [.ref a, .ref b] ∧ SqK K b1 H1 a xs ∧ SqK K b2 H1 b ys ∧ R (ItzK K b1 b2 a b) H1
theorem pi_zipK {X : Cx} {e e2 : Expr} {ta : TA} {p pos tpos : Pos} {elts : List Expr} {kk : Nat} (hg : Gl X "zip") (hm : X.mg "zip" = none) (ha : PA X [e, e2] ta)
    (hs : starEach [e, e2] X.env = (false, eval e X.env) :: starEach [e2] X.env := by rfl) (hpl : (backTo pos (starEach [e2] X.env)).any (·.1) = false := by rfl) :
    PI X (.Tuple elts kk tpos) (.Call (.Name "zip" p) [e, e2] [] pos) (iZipK X.K ta) := by
  refine ⟨fun pins s σ H R I h => ?_⟩
  refine Call_ (ld_blt I hg hm PyProof.Rows.boot_zip (PyProof.Rows.callWith_type1 (thn (ha.run pos pins s σ H _ I h) fun us s1 ⟨vs, H1, I1, r1, q1⟩ => ?_) hs hpl))
  obtain ⟨b1, b2, a, b, xs, ys, ex, hqx, hqy, q⟩ := q1
  subst ex
  obtain ⟨u1, u2, rfl, ra, rb⟩ := vals2 r1
  cases ra
  cases rb
  obtain ⟨its, rv, p1, la⟩ := seqK I1 hqx
  obtain ⟨its2, rv2, p2, lb⟩ := seqK I1 hqy
  refine zip_begins2 (beginsK b1 a its.toArray) (beginsK b2 b its2.toArray) p1 p2 fun h' hz hTI hTO h1 h2 hsz hk => wpAny_pyIter_zip hz ?_
  have I2 : L2.Inv X pins σ H1 { s1 with heap := h' } := I1.kept (t' := s1.toks) hk
  refine ⟨s1.heap.objs.size + 4, [s1.heap.objs.size + 4, s1.heap.objs.size + 2, s1.heap.objs.size + 3, s1.heap.objs.size, s1.heap.objs.size + 1], _, _, H1, rfl, I2, turnZ (zip_sep2 (fun c hc => by rw [List.mem_singleton.mp hc]; exact la) (fun c hc => by rw [List.mem_singleton.mp hc]; exact lb)) (Nat.ne_of_lt la) (Nat.ne_of_lt (Nat.lt_succ_of_lt lb)), ⟨hz, hTI, ⟨_, _, hTO⟩, .new h1, .new h2⟩, fun c hcm => ?_, q⟩
  have hle : s1.heap.objs.size ≤ c := by
    rcases mem5 hcm with rfl | rfl | rfl | rfl | rfl
    · exact Nat.le_add_right _ _
    · exact Nat.le_add_right _ _
    · exact Nat.le_add_right _ _
    · exact Nat.le_refl _
    · exact Nat.le_add_right _ _
  exact I1.fpOk hle (I1.hok.fresh hle)
/-! ### enumerate -/
theorem meetsEnum {v : Value} {o : Obj} {H : Heap → Prop} (B : Begins v o H) :
    Meets (Builtin.«enumerate.__new__» ⟨[.type "enumerate", v], []⟩) (fun _ R s => H s.heap ∧
      R (.ok (.ret (.ref (s.heap.push o).objs.size))) { s with heap := (s.heap.push o).push { cls := .type "enumerate", data := .fields #[.none, .bool false, .ref s.heap.objs.size, rawInt 0, .none, .none] } }) :=
  .of_wp fun prog w A R s h => by
    obtain ⟨hp, g, d, tk, os⟩ := s
    obtain ⟨h1, h⟩ := h
    have hsub := sub_enumerate
    have q1 : ∀ {A' : Around} {E : Value → Shared → Prop} {Q : Value → Shared → Prop}, Q (.ref hp.objs.size) ⟨hp.push o, g, d, tk, os⟩ → wpAny (model prog w) A' (pyIter v) Q E ⟨hp, g, d, tk, os⟩ :=
      fun q => B.iter prog w _ _ ⟨hp, g, d, tk, os⟩ _ h1 q
    wp_walk using q1
    refine wpAny_stack_any fun st => wpAny_pure ?_
    split
    · rename_i c _ _ _ _ _
      cases (c == Value.type "enumerate") <;> (wp_walk using q1; exact ⟨_, rfl, h⟩)
    · wp_walk using q1
      exact ⟨_, rfl, h⟩
theorem callEnum {prog : Program} {w : World} {A : Around} {E : Value → Shared → Prop} {s : Shared} {v : Value} {o : Obj} {H : Heap → Prop} {Q : Value → Shared → Prop} (B : Begins v o H) (h1 : H s.heap)
    (h : ∀ h', IsEnum h' (s.heap.objs.size + 1) s.heap.objs.size 0 .none → h'.get? s.heap.objs.size = some o → h'.objs.size = s.heap.objs.size + 2 →
      (∀ b o, s.heap.get? b = some o → h'.get? b = some o) → Q (.ref (s.heap.objs.size + 1)) { s with heap := h' }) :
    wpAny (model prog w) A (call (.type "enumerate") [v]) Q E s := by
  refine callType_new F.called_enumerate (by decide) (F.typeCall_enumerate_1 _) (F.newCall_enumerate_1 _) (fun obj => F.args_object_init_2 obj _) F.entry_enumerate_new (meetsEnum B) ⟨h1, ?_⟩
  have hz : (s.heap.push o).objs.size = s.heap.objs.size + 1 := Heap.size_push ..
  have he := Heap.get?_push_size (s.heap.push o) (o := { cls := .type "enumerate", data := .fields #[.none, .bool false, .ref s.heap.objs.size, rawInt 0, .none, .none] }) rfl
  rw [hz] at he
  show _ ∧ _
  rw [hz]
  exact ⟨⟨_, he, rfl⟩, h _ he (Heap.get?_push_of_some _ (Heap.get?_push_size _ B.free)) (by rw [Heap.size_push, hz]) fun b o x => Heap.get?_push_of_some _ (Heap.get?_push_of_some _ x)⟩
def IteK (K : PySem.W.Frag) (b : Bool) (a : Addr) : It :=
  ⟨fun i H => ∃ (xs : List V) (x : V), SqK K b H a xs ∧ xs[i]? = some x, fun i H v H' => ∃ T x, v = .ref T ∧ H T = none ∧ H' = upd H T (.tup [.int (i : Nat), x]) ∧ ∀ xs, SqK K b H a xs → xs[i]? = some x, fun i H => ∃ xs : List V, SqK K b H a xs ∧ i = xs.length⟩
theorem turnE {P : Program} {w : World} {K : PySem.W.Frag} {elts : List Expr} {kk : Nat} {tpos : Pos} {b : Bool} {a e it : Addr} (hne : e ≠ it) (na : a ≠ it) (ne : e ≠ a) :
    Turn P w K (.Tuple elts kk tpos) (IteK K b a) [e, it] e (fun i h => (∃ old, IsEnum h e it ((i : Nat) : Int) old) ∧ ItK b h it a i) where
  mem := by simp
  obj := fun i h st c hc => by
    obtain ⟨⟨old, he⟩, h1⟩ := st
    obtain ⟨o1, v1, e1, d1⟩ := h1.get
    have e' : c = e ∨ c = it := by simpa using hc
    rcases e' with rfl | rfl
    · exact ⟨_, he, fun v q => nomatch q⟩
    · exact ⟨o1, e1, fun v q => by rw [d1] at q; cases q⟩
  keep := fun i h h' st k => let ⟨⟨old, he⟩, h1⟩ := st; ⟨⟨old, k e (by simp) _ he⟩, h1.at fun o q => k it (by simp) o q⟩
  item := by
    intro X hP hw hK hc i pins s σ H E I hf st hg
    subst hP hw hK
    obtain ⟨⟨old, he⟩, h1⟩ := st
    obtain ⟨xs, x, hq, hx⟩ := hg
    obtain ⟨its, rv, p, _⟩ := seqK I hq
    obtain ⟨u, hu, ru⟩ := rv.get hx
    have hel : e < s.heap.objs.size := Heap.lt_size he
    have q1 : i < its.toArray.size := by rw [List.size_toArray, ← rv.length]; exact (List.getElem?_eq_some_iff.mp hx).1
    have D1 := drawsK (prog := X.prog) (w := X.w) (A := X.A.in1) (I.ok.hd hc) b it a na its.toArray
    refine wpAny_pyNext_enum_itemD D1 he ⟨h1, p⟩ q1 hne (by simp [hne, ne]) fun x1 h' tk e1 ho st' hT hsz hk => ?_
    obtain rfl : x1 = u := by
      have w1 : its.toArray[i]? = some u := by simpa using hu
      rw [w1] at e1
      exact (Option.some.inj e1).symm
    refine ⟨_, rfl, wpAny_letOwnedTupleGo_enum (s := { s with heap := h', toks := tk + 1 }) ho fun h'' he' sb => ?_⟩
    have hT2 : h''.get? s.heap.objs.size = some { cls := .type "tuple", data := .seq #[.int i tk, x1] } := (sb.2 _ (Nat.ne_of_gt hel)).trans hT
    have new : ObjOk X.prog X.w (upd H s.heap.objs.size (.tup [.int (i : Nat), x])) h'' s.heap.objs.size (.tup [.int (i : Nat), x]) :=
      ⟨by show 2 ≤ sizeLine; decide, [.int i tk, x1], .cons ⟨_, rfl⟩ (.cons ru .nil), ⟨_, hT2, rfl, _, rfl⟩⟩
    have I1 : L2.Inv X pins σ (upd H s.heap.objs.size (.tup [.int (i : Nat), x])) { s with heap := h'', toks := tk + 1 } :=
      I.turnedNew (t' := tk + 1) (ch := [e, it]) (fun c o hb q => by
        simp only [List.mem_cons, List.not_mem_nil, or_false, not_or] at hb
        exact (sb.2 c hb.1).trans (hk c o hb.1 hb.2 q)) hf (Nat.le_refl _) new
    refine ⟨.ref s.heap.objs.size, _, I1, rfl, ⟨_, x, rfl, I.hok.fresh (Nat.le_refl _), rfl, fun ys hy => by rw [injK I hy hq]; exact hx⟩, ⟨⟨x1, ?_⟩, st'.1.at fun o q => (sb.2 it (Ne.symm hne)).trans q⟩, fun c hcm => ?_⟩
    · have e1 : ((i + 1 : Nat) : Int) = (i : Int) + 1 := by omega
      rw [e1]
      exact he'
    · have hlt : c < s.heap.objs.size := by
        obtain ⟨o1, v1, g1, _⟩ := h1.get
        have e' : c = e ∨ c = it := by simpa using hcm
        rcases e' with rfl | rfl
        · exact hel
        · exact Heap.lt_size g1
      rw [upd_ne (Nat.ne_of_lt hlt)]
      exact (hf c hcm).1
  done := by
    intro X hP hw hK hc i pins s σ H E I hf st hg
    subst hP hw hK
    obtain ⟨⟨old, he⟩, h1⟩ := st
    obtain ⟨xs, hq, hx⟩ := hg
    obtain ⟨its, rv, p, _⟩ := seqK I hq
    obtain ⟨f0, f1, f2, f3, f4, f5⟩ := hf it (by simp)
    have l1 : xs.length = its.toArray.size := by rw [List.size_toArray]; exact rv.length
    rw [l1] at hx
    subst hx
    have D1 := drawsK (prog := X.prog) (w := X.w) (A := X.A.in1) (I.ok.hd hc) b it a na its.toArray
    exact wpAny_pyNext_enum_endD D1 he ⟨h1, p⟩ fun h' eb => ⟨rfl, I.turned (t' := s.toks) (fun b o hb q => eb b o hb q) f0 f1 f3 f4 f5⟩
  self := fun A i s Q E st h => let ⟨⟨_, he⟩, _⟩ := st; wpAny_pyIter_enum he h
def iEnumK (K : PySem.W.Frag) (ta : TA) : TI := fun σ H R => ta σ H fun vs H1 => ∃ b a xs, vs = [.ref a] ∧ SqK K b H1 a xs ∧ R (IteK K b a) H1
theorem pi_enumK {X : Cx} {e : Expr} {ta : TA} {p pos tpos : Pos} {elts : List Expr} {kk : Nat} (hg : Gl X "enumerate") (hm : X.mg "enumerate" = none) (ha : PA X [e] ta) (hs : starEach [e] X.env = [(false, eval e X.env)] := by rfl) :
    PI X (.Tuple elts kk tpos) (.Call (.Name "enumerate" p) [e] [] pos) (iEnumK X.K ta) := by
  refine ⟨fun pins s σ H R I h => ?_⟩
  refine Call_ (ld_blt I hg hm boot_enumerate (PyProof.Rows.callWith_type1 (thn (ha.run pos pins s σ H _ I h) fun us s1 ⟨vs, H1, I1, r1, q1⟩ => ?_) hs rfl))
  obtain ⟨b, a, xs, ex, hq, q⟩ := q1
  subst ex
  obtain ⟨u, rfl, ra⟩ := vals1 r1
  cases ra
  obtain ⟨its, rv, p1, la⟩ := seqK I1 hq
  refine callEnum (beginsK b a its.toArray) p1 fun h' he h1 hsz hk => wpAny_pyIter_enum he ?_
  have I2 : L2.Inv X pins σ H1 { s1 with heap := h' } := I1.kept (t' := s1.toks) hk
  refine ⟨s1.heap.objs.size + 1, [s1.heap.objs.size + 1, s1.heap.objs.size], _, _, H1, rfl, I2, turnE (Nat.succ_ne_self _) (Nat.ne_of_lt la) (Nat.ne_of_gt (Nat.lt_succ_of_lt la)), ⟨⟨.none, he⟩, .new h1⟩, fun c hcm => ?_, q⟩
  have hle : s1.heap.objs.size ≤ c := by
    have e' : c = s1.heap.objs.size + 1 ∨ c = s1.heap.objs.size := by simpa using hcm
    rcases e' with rfl | rfl
    · exact Nat.le_add_right _ _
    · exact Nat.le_refl _
  exact I1.fpOk hle (I1.hok.fresh hle)
end G
set_option Elab.async false
set_option linter.all false
set_option maxRecDepth 100000
namespace G
open PySem PySem.Spec PyProof.Rows L2 Evl
section
variable {K : PySem.W.Frag} {F H H' H0 : Hp} {M : List Addr} {δ δ' : Env} {μ μ' μ'' : Sto} {σ : L2.St} {ta tb te tl : TE} {t u : TT} {d e : DV} {ds es : List DV} {i j : Nat} {D : L2.Ends} {tu tw : TS} {tr : TA}
theorem Seq.rep {v : V} (r : Rp K H v d) (sq : Seq d ds) : ∃ b a vs, v = .ref a ∧ SqK K b H a vs ∧ RpAll K H vs ds := by
  cases sq with
  | lst => cases r with | lst h1 h2 => exact ⟨false, _, _, rfl, h1, h2⟩
  | tup => cases r with | tup h1 h2 => exact ⟨true, _, _, rfl, h1, h2⟩
theorem SqK.ext {b : Bool} {a : Addr} {vs : List V} (e : Ex H H') (h : SqK K b H a vs) : SqK K b H' a vs := by
  cases b with
  | false => exact ex_l e h
  | true => exact ex_t e h
theorem walkZ {b1 b2 : Bool} {a b : Addr} {xs ys : List V} {n : Nat} (hn : n = min xs.length ys.length) : L2.Walk (ItzK K b1 b2 a b) n (fun H => SqK K b1 H a xs ∧ SqK K b2 H b ys) (YPair (fun i => xs[i]?) (fun i => ys[i]?)) where
  goes := fun i H hi q => ⟨xs, ys, xs[i]'(by omega), ys[i]'(by omega), q.1, q.2, List.getElem?_eq_getElem (by omega), List.getElem?_eq_getElem (by omega)⟩
  stops := fun H q => ⟨xs, ys, q.1, q.2, by omega, by omega, by omega⟩
  yields := fun i H v H' hi q y => by
    obtain ⟨T, x, y, h1, h2, h3, h4, h5⟩ := y
    exact ⟨T, x, y, h1, h2, h3, h4 _ q.1, h5 _ q.2⟩
theorem walkE {b : Bool} {a : Addr} {xs : List V} : L2.Walk (IteK K b a) xs.length (fun H => SqK K b H a xs) (YPair (fun i => some (.int (i : Nat))) (fun i => xs[i]?)) where
  goes := fun i H hi q => ⟨xs, xs[i], q, List.getElem?_eq_getElem hi⟩
  stops := fun H q => ⟨xs, q, rfl⟩
  yields := fun i H v H' hi q y => by
    obtain ⟨T, x, h1, h2, h3, h4⟩ := y
    exact ⟨T, .int (i : Nat), x, h1, h2, h3, rfl, h4 _ q⟩
theorem wx_zip {j1 j2 : Nat} {n : Nat} (h : AX K tr δ μ μ' [d, e]) (sd : Seq d ds) (se : Seq e es) (hn : n = min ds.length es.length) :
    WX K (iZipK K tr) (gTup K 2 (gCons (gName j1) (gCons (gName j2) gNil))) δ μ μ' n [j1, j2] (fun i δ => (δ.set j1 (some (ds.getD i .non))).set j2 (some (es.getD i .non))) := fun F M σ H s R r =>
  h F M σ H s _ fun vs H1 e1 s1 r1 => by
    cases r1 with
    | cons x y =>
      cases y with
      | cons y z =>
        cases z
        obtain ⟨b1, a1, v1, rfl, q1, p1⟩ := sd.rep x
        obtain ⟨b2, a2, v2, rfl, q2, p2⟩ := se.rep y
        have l1 := p1.length
        have l2 := p2.length
        refine ⟨b1, b2, a1, a2, v1, v2, rfl, q1.ext hid_sub, q2.ext hid_sub, r _ H1 e1 s1 (turns_pair (walkZ (by rw [hn, l1, l2])) (fun H M e => ⟨q1.ext (e.trans hid_sub), q2.ext (e.trans hid_sub)⟩) (fun i x _ hx => ?_) fun i x _ hx => ?_)⟩
        · obtain ⟨d, hd, rd⟩ := p1.get' hx
          rw [List.getD_eq_getElem?_getD, hd]
          exact rd
        · obtain ⟨d, hd, rd⟩ := p2.get' hx
          rw [List.getD_eq_getElem?_getD, hd]
          exact rd
theorem wx_enumK {j1 j2 : Nat} (h : AX K tr δ μ μ' [d]) (sd : Seq d ds) :
    WX K (iEnumK K tr) (gTup K 2 (gCons (gName j1) (gCons (gName j2) gNil))) δ μ μ' ds.length [j1, j2] (fun i δ => (δ.set j1 (some (.int (i : Nat)))).set j2 (some (ds.getD i .non))) := fun F M σ H s R r =>
  h F M σ H s _ fun vs H1 e1 s1 r1 => by
    cases r1 with
    | cons x z =>
      cases z
      obtain ⟨b1, a1, v1, rfl, q1, p1⟩ := sd.rep x
      refine ⟨b1, a1, v1, rfl, q1.ext hid_sub, r _ H1 e1 s1 ?_⟩
      rw [← p1.length]
      refine turns_pair walkE (fun H M e => q1.ext (e.trans hid_sub)) (fun i x _ hx => ?_) fun i x _ hx => ?_
      · cases hx
        exact .int _
      · obtain ⟨d, hd, rd⟩ := p1.get' hx
        rw [List.getD_eq_getElem?_getD, hd]
        exact rd
/-! ### operators of own classes -/
variable {C : Addr} {fs gs : List (Str × DV)} {R : List DV → DV → Prop} {E : XK}
theorem ex_ownB (ha : EX K ta δ μ μ' (.ins C fs)) (hb : EX K tb δ μ' μ'' (.ins C gs)) (h : R [.ins C fs, .ins C gs] d) : EX K (tOp (rOwnB C (spD K R) E) ta tb) δ μ μ'' d := fun F M σ H s Q q =>
  ha F M σ H s _ fun v H1 e1 s1 r1 => hb F M σ H1 s1 _ fun w H2 e2 s2 r2 => by
    have r1' := r1.mono e2
    have rr : RpAll K (hid M H2) [v, w] [.ins C fs, .ins C gs] := .cons r1' (.cons r2 .nil)
    cases r1' with
    | ins h1 h2 =>
      cases r2 with
      | ins k1 k2 => exact ⟨_, _, _, _, _, _, rfl, rfl, hid_sub _ _ h1, hid_sub _ _ k1, M, _, d, s2.al, rr, h, fun v H3 e3 r => q v H3 ((e1.trans e2).trans (hid_mono e3)) (s2.mono e3) r⟩
theorem ex_ownE {b : Bool} {w : Value} (ha : EX K ta δ μ μ' (.ins C fs)) (hb : EX K tb δ μ' μ'' e) (ty : TyD K e w) (hn : PySem.W.notFirst K C w = true) (h : R [.ins C fs, e] (.bl b)) : EX K (tOp (rOwnE K C (spD K R) E) ta tb) δ μ μ'' (.bl b) := fun F M σ H s Q q =>
  ha F M σ H s _ fun v H1 e1 s1 r1 => hb F M σ H1 s1 _ fun w' H2 e2 s2 r2 => by
    have r1' := r1.mono e2
    have rr : RpAll K (hid M H2) [v, w'] [.ins C fs, e] := .cons r1' (.cons r2 .nil)
    cases r1' with
    | ins h1 h2 => exact ⟨_, _, _, w, rfl, hid_sub _ _ h1, ty.x (r2.mono hid_sub), hn, M, _, .bl b, s2.al, rr, h, fun v H3 e3 r => q v H3 ((e1.trans e2).trans (hid_mono e3)) (s2.mono e3) r⟩
theorem ex_ownN {b : Bool} {w : Value} (ha : EX K ta δ μ μ' (.ins C fs)) (hb : EX K tb δ μ' μ'' e) (ty : TyD K e w) (hn : PySem.W.notFirst K C w = true) (h : R [.ins C fs, e] (.bl b)) : EX K (tOp (rOwnN K C (spD K R) E) ta tb) δ μ μ'' (.bl (!b)) := fun F M σ H s Q q =>
  ha F M σ H s _ fun v H1 e1 s1 r1 => hb F M σ H1 s1 _ fun w' H2 e2 s2 r2 => by
    have r1' := r1.mono e2
    have rr : RpAll K (hid M H2) [v, w'] [.ins C fs, e] := .cons r1' (.cons r2 .nil)
    cases r1' with
    | ins h1 h2 =>
      refine ⟨_, _, _, w, rfl, hid_sub _ _ h1, ty.x (r2.mono hid_sub), hn, M, _, .bl b, s2.al, rr, h, fun v H3 e3 r => ?_⟩
      cases r
      exact ⟨b, rfl, q _ H3 ((e1.trans e2).trans (hid_mono e3)) (s2.mono e3) (.bl _)⟩
theorem ex_ownU (ha : EX K ta δ μ μ' (.ins C fs)) (h : R [.ins C fs] d) : EX K (tUn (fun x H Q => ∃ a dx fs, x = .ref a ∧ H a = some (.ins C dx fs) ∧ spD K R [x] H Q E) ta) δ μ μ' d := fun F M σ H s Q q =>
  ha F M σ H s _ fun v H1 e1 s1 r1 => by
    have rr : RpAll K (hid M H1) [v] [.ins C fs] := .cons r1 .nil
    cases r1 with
    | ins h1 h2 => exact ⟨_, _, _, rfl, hid_sub _ _ h1, M, _, d, s1.al, rr, h, fun v H3 e3 r => q v H3 (e1.trans (hid_mono e3)) (s1.mono e3) r⟩
theorem ex_lenOwn {n : Nat} (ha : EX K ta δ μ μ' (.ins C fs)) (hn : n < 2 ^ 63) (h : R [.ins C fs] (.int n)) : EX K (tCB (rLenOwn C (spD K R) E) (tCons ta tNil)) δ μ μ' (.int n) := fun F M σ H s Q q =>
  ha F M σ H s _ fun v H1 e1 s1 r1 => by
    have rr : RpAll K (hid M H1) [v] [.ins C fs] := .cons r1 .nil
    cases r1 with
    | ins h1 h2 =>
      refine ⟨_, _, _, rfl, hid_sub _ _ h1, M, _, .int n, s1.al, rr, h, fun v H3 e3 r => ?_⟩
      cases r
      exact ⟨n, rfl, ⟨by omega, by omega⟩, q _ H3 (e1.trans (hid_mono e3)) (s1.mono e3) (.int _)⟩
/-! ### __init__ -/
theorem RpF.app1 {fs : List (Str × V)} {gs : List (Str × DV)} {f : Str} {v : V} (r : RpF K H fs gs) (hf : gs.lookup f = none) (q : Rp K H v d) : RpF K H (putF f v fs) (gs ++ [(f, d)]) := by
  induction gs generalizing fs with
  | nil =>
    cases r
    exact .cons q .nil
  | cons g gs ih =>
    cases r with
    | @cons n v' vs d' ds r t =>
      rw [List.lookup_cons] at hf
      cases hb : (f == n) with
      | true => rw [hb] at hf; cases hf
      | false =>
        rw [hb] at hf
        have e : (n == f) = false := by
          rw [beq_eq_false_iff_ne] at hb ⊢
          exact fun z => hb z.symm
        have hne : n ≠ f := by rw [← beq_eq_false_iff_ne]; exact e
        have z : putF f v ((n, v') :: vs) = (n, v') :: putF f v vs := if_neg hne
        rw [z]
        exact .cons r (ih t hf)
/-- self.f = e in __init__ -/
theorem x_fldI {x dx : Addr} {f : Str} {fv : List (Str × V)} (s : Sta K (upd F x (.ins C dx fv)) M δ μ σ H) (rf : RpF K (hid M H) fv fs) (hx : x ∈ M) (hF : F x = none) (hm : ∀ p ∈ μ', p.1 ≠ x) (hv : EX K te δ μ μ' d) (ho : EX K ta δ μ' μ' (.box x)) (c : Cls K C) (n : NoAttr K C f) (hl : fs.length < 1000) (hf : fs.lookup f = none)
    (k : ∀ fv' H', Sta K (upd F x (.ins C dx fv')) M δ μ' σ H' → RpF K (hid M H') fv' (fs ++ [(f, d)]) → D.nx σ H') : sFld K ta te f D σ H :=
  hv _ M σ H s _ fun v H1 e1 s1 r1 => ho _ M σ H1 s1 _ fun w H2 e2 s2 r2 => by
    cases r2
    have hxx : H2 x = some (.ins C dx fv) := s2.fr x _ upd_same
    have rf2 := rf.mono (e1.trans e2)
    have hlen : fv.length = fs.length := by
      clear k hf hl s s1 s2 hxx rf2
      induction fs generalizing fv with
      | nil => cases rf; rfl
      | cons g gs ih => cases rf with | cons r t => simp [ih t]
    have hx2 : Ex (hid M H2) (hid M (upd H2 x (.ins C dx (putF f v fv)))) := fun a o q => by
      have hn := hid_no q
      exact hid_get hn (by rw [upd_ne (fun e => hn (by rw [e]; exact hx))]; exact hid_sub _ _ q)
    refine ⟨x, C, dx, fv, rfl, hxx, c, n, by rw [hlen]; exact hl, k (putF f v fv) _ ⟨fun a ha => ?_, fun a o q => ?_, fun p hp => ?_, s2.nd, fun p hp => ?_, fun i d h => ?_, s2.len⟩ ((rf2.mono hx2).app1 hf ((r1.mono e2).mono hx2))⟩
    · by_cases e : a = x
      · rw [e, upd_same]; simp
      · rw [upd_ne e]; exact s2.al a ha
    · by_cases e : a = x
      · subst e
        rw [upd_same] at q ⊢
        exact q
      · rw [upd_ne e] at q ⊢
        exact s2.fr a o (by rw [upd_ne e]; exact q)
    · obtain ⟨p1, p2⟩ := s2.dm p hp
      refine ⟨p1, ?_⟩
      rw [upd_ne (hm p hp)] at p2 ⊢
      exact p2
    · obtain ⟨vs, g1, g2⟩ := s2.sto p hp
      exact ⟨vs, by rw [upd_ne (hm p hp)]; exact g1, g2.mono hx2⟩
    · obtain ⟨v, g1, g2⟩ := s2.env i d h
      exact ⟨v, g1, g2.mono hx2⟩
theorem initCore {N : List Str} {vs : List V} {Q : VK} {E : XK} {R : List DV → List (Str × DV) → Prop} (h : spI K C R vs H Q E) : ∃ M x dx ds fs, R ds fs ∧ x ∈ M ∧ (hid [x] H) x = none ∧ Sta K (upd (hid [x] H) x (.ins C dx [])) M (startD N.length (.box x :: ds)) [] (L2.start N vs) H ∧
    ∀ δ σ' H' fv, Sta K (upd (hid [x] H) x (.ins C dx fv)) M δ [] σ' H' → RpF K (hid M H') fv fs → Q .non H' := by
  obtain ⟨M, x, dx, ws, ds, fs, rfl, hx, hxM, al, ra, hR, k⟩ := h
  have st : Sta K (upd (hid [x] H) x (.ins C dx [])) (x :: M) (startD N.length (.box x :: ds)) [] (L2.start N (.ref x :: ws)) H := by
    refine ⟨fun a ha => ?_, fun a o q => ?_, fun p hp => (nomatch hp), by simp, fun p hp => (nomatch hp), envAll (.cons (.box x) ra), by unfold L2.start startD; simp [ra.length]⟩
    · rcases List.mem_cons.mp ha with rfl | ha
      · rw [hx]; simp
      · exact al a ha
    · by_cases e : a = x
      · subst e
        rw [upd_same] at q
        rw [hx, q]
      · rw [upd_ne e] at q
        exact hid_sub _ _ q
  exact ⟨x :: M, x, dx, ds, fs, hR, by simp, by unfold hid; simp, st, fun δ σ' H' fv s rf =>
    k H' fv (fun a o hne q => s.fr a o (by rw [upd_ne hne]; exact hid_get (by simp [hne]) q)) (s.fr x _ upd_same) rf⟩
end
section
variable {K : PySem.W.Frag} {P : Program} {w : World} {mg : Str → Option Value} {base : Heap} {C : Addr}
theorem okI {x qual : Str} {params : Arguments} {body : List Stmt} {scope : Scope} {dvs : List V} {kws : List (Str × V)} {f : Addr} {fd : FuncData} {N ps : List Str} {k : Nat} {R : List DV → List (Str × DV) → Prop} (Fn : FunD K x qual params body scope dvs kws f fd) (S : FnScope N ps scope) (len : ∀ ds r, R ds r → ds.length + 1 = ps.length)
    (hbody : ∀ (cdv : Value) (A : Around) (outer : List PySem.Env) (s : Shared) (H : Hp) (E : XK), Room k (A.deeper (envOfC qual scope s.heap.objs.size f cdv)) →
      ∃ t, PSs (cxOf CX0 P w K mg base N qual scope f cdv A outer s H E).nox body t ∧ ∀ F M x dx ds fs σ H1 D, R ds fs → x ∈ M → F x = none → Sta K (upd F x (.ins C dx [])) M (startD N.length (.box x :: ds)) [] σ H1 →
        (∀ δ σ' H' fv, Sta K (upd F x (.ins C dx fv)) M δ [] σ' H' → RpF K (hid M H') fv fs → D.nx σ' H') → t D σ H1) : FnOk P w K mg base CX0 (k + 1) f fd ps (spI K C R) := by
  refine Fn.ok S (fun vs H Q E ⟨M, x, dx, ws, ds, fs, e, _, _, _, h1, h2, _⟩ => by rw [e, List.length_cons, h1.length]; exact len _ _ h2) fun cdv A outer s H vs Q E hr h => ?_
  obtain ⟨M, x, dx, ds, fs, hR, hx, h0, st, kq⟩ := initCore (N := N) h
  obtain ⟨t, h1, h2⟩ := hbody cdv A outer s H E hr
  exact ⟨t, h1.nox, h2 _ M x dx ds fs _ H _ hR hx h0 st kq⟩
end
end G
set_option Elab.async false
set_option linter.all false
set_option maxRecDepth 100000
namespace G
open PySem PySem.Spec PyProof.Rows L2 Evl
/-! ### promises under their names -/
theorem room_div {k : Nat} {A : Around} (hr : Room k A) (h : 40 ≤ k) : A.depth + 100 < recursionLimit := by
  have := hr.dp
  have e : recursionLimit = 1000 := by first | rfl | decide
  omega
structure CalG (P : Program) (w : World) (K : PySem.W.Frag) (mg : Str → Option Value) (base : Heap) (k : Nat) (x : Str) (sp : Sp) (dvs : List V) : Prop where
  ex : ∃ (f : Addr) (fd : FuncData) (ps : List Str) (ds : List Value), FnOk P w K mg base CX0 k f fd ps sp ∧ mg x = some (.ref f) ∧ PySem.W.keepIn K (.ref f) = true ∧ Binds K fd ps ds ∧ Vals dvs ds
structure MetG (P : Program) (w : World) (K : PySem.W.Frag) (mg : Str → Option Value) (base : Heap) (k : Nat) (C : Addr) (m : Str) (sp : Sp) : Prop where
  ex : ∃ (f : Addr) (fd : FuncData) (ps : List Str), Cls K C ∧ Meth K C m f ∧ FnOk P w K mg base CX0 k f fd ps sp ∧ Binds K fd ps []
structure MakG (P : Program) (w : World) (K : PySem.W.Frag) (mg : Str → Option Value) (base : Heap) (k : Nat) (x : Str) (C : Addr) (sp : Sp) (dvs : List V) : Prop where
  ex : ∃ (f : Addr) (fd : FuncData) (ps : List Str) (ds : List Value), Mk K C f ∧ FnOk P w K mg base CX0 k f fd ps sp ∧ mg x = some (.ref C) ∧ Binds K fd ps ds ∧ Vals dvs ds
section
variable {X : Cx} {k j : Nat} {C : Addr} {x m : Str} {sp : Sp} {dvs : List V} {p pos apos : Pos} {e o : Expr} {es : List Expr} {ta : TE} {t : TA}
theorem pe_cG (c : CalG X.prog X.w X.K X.mg X.base k x sp dvs) (hr : Room j X.A) (hk : k ≤ j) (hg : Gl X x) (ha : PA X (e :: es) t)
    (hdb : (x == ("__debug__" : Str)) = false := by decide) (he : starEach (e :: es) X.env = (false, eval e X.env) :: starEach es X.env := by rfl) (hpl : (backTo pos (starEach es X.env)).any (·.1) = false := by rfl) :
    PE X (.Call (.Name x p) (e :: es) [] pos) (tCall sp dvs E0 t) := by
  obtain ⟨f, fd, ps, ds, F, hm, kp, b, d⟩ := c.ex
  exact pe_call F (hr.mono hk) hg hm kp b d pass0 ha hdb he hpl
theorem pe_mkG (c : MakG X.prog X.w X.K X.mg X.base k x C sp dvs) (hr : Room j X.A) (hk : k + 1 ≤ j) (hg : Gl X x) (ha : PA X (e :: es) t)
    (hdb : (x == ("__debug__" : Str)) = false := by decide) (he : starEach (e :: es) X.env = (false, eval e X.env) :: starEach es X.env := by rfl) (hpl : (backTo pos (starEach es X.env)).any (·.1) = false := by rfl) :
    PE X (.Call (.Name x p) (e :: es) [] pos) (tMake C sp dvs E0 t) := by
  obtain ⟨f, fd, ps, ds, M, F, hm, b, d⟩ := c.ex
  exact pe_make M F (hr.mono hk) hg hm b d pass0 ha hdb he hpl
theorem pe_mtG {pl : Sem Bool} (c : MetG X.prog X.w X.K X.mg X.base k C m sp) (hr : Room j X.A) (hk : k ≤ j) (he : PE X o ta) (ha : PA X (e :: es) t)
    (hst : starEach (e :: es) X.env = (false, eval e X.env) :: starEach es X.env := by rfl) (hpl : (backTo pos (starEach es X.env)).any (·.1) = false := by rfl)
    (ht : eval (.Call (.Attribute o m apos) (e :: es) [] pos) X.env = (do
      let ov ← eval o X.env
      standAt apos.atName
      let (f, first) ← holding [ov] (getMethod ov m pl)
      callWith pos f first (backTo pos (starEach (e :: es) X.env)) (backToKw pos (keywordEach [] X.env))) := by rfl) :
    PE X (.Call (.Attribute o m apos) (e :: es) [] pos) (tMeth C m sp [] E0 ta t) := by
  obtain ⟨f, fd, ps, hc, hm, F, b⟩ := c.ex
  exact pe_meth (pl := pl) he hc hm F (hr.mono hk) b .nil pass0 ha hst hpl ht
theorem pe_mtG0 {pl : Sem Bool} (c : MetG X.prog X.w X.K X.mg X.base k C m sp) (hr : Room j X.A) (hk : k ≤ j) (he : PE X o ta)
    (ht : eval (.Call (.Attribute o m apos) [] [] pos) X.env = (do
      let ov ← eval o X.env
      standAt apos.atName
      let (f, first) ← holding [ov] (getMethod ov m pl)
      callWith pos f first (backTo pos (starEach [] X.env)) (backToKw pos (keywordEach [] X.env))) := by rfl) :
    PE X (.Call (.Attribute o m apos) [] [] pos) (tMeth C m sp [] E0 ta tNil) := by
  obtain ⟨f, fd, ps, hc, hm, F, b⟩ := c.ex
  exact pe_meth0 (pl := pl) he hc hm F (hr.mono hk) b .nil pass0 ht
theorem opB {op : Operator} (hc : PySem.W.selfFirst X.K C = true) (c : MetG X.prog X.w X.K X.mg X.base k C (PySem.dunder op.info.2) sp) (hr : Room j X.A) (hk : k ≤ j) : OpR X (binaryOp op) (rOwnB C sp E0) := by
  obtain ⟨f, fd, ps, _, hm, F, b⟩ := c.ex
  exact op_ownB hc hm.at_ hm.fn F (hr.mono hk) b pass0
theorem opE (c : MetG X.prog X.w X.K X.mg X.base k C "__eq__" sp) (hr : Room j X.A) (hk : k ≤ j) : OpR X (compareOp .Eq) (rOwnE X.K C sp E0) := by
  obtain ⟨f, fd, ps, _, hm, F, b⟩ := c.ex
  exact op_ownE hm.at_ hm.fn F (hr.mono hk) b pass0
theorem opN (c : MetG X.prog X.w X.K X.mg X.base k C "__eq__" sp) (o : PySem.W.mroIn X.K C (.type "object") = some true) (hne : PySem.W.findIn X.K (.ref C) "__ne__" = some (some (.builtin "object.__ne__"))) (hr : Room j X.A) (hk : k + 1 ≤ j) : OpR X (compareOp .NotEq) (rOwnN X.K C sp E0) := by
  obtain ⟨f, fd, ps, _, hm, F, b⟩ := c.ex
  exact op_ownN o hne hm.at_ hm.fn F (hr.mono hk) b fun _ _ _ _ z => z.elim
theorem opU (c : MetG X.prog X.w X.K X.mg X.base k C "__neg__" sp) (hr : Room j X.A) (hk : k ≤ j) : UnR X (unaryOp .USub) (fun x H Q => ∃ a dx fs, x = .ref a ∧ H a = some (.ins C dx fs) ∧ sp [x] H Q E0) := by
  obtain ⟨f, fd, ps, _, hm, F, b⟩ := c.ex
  exact un_own hm.at_ hm.fn F (hr.mono hk) b pass0
theorem lenG (c : MetG X.prog X.w X.K X.mg X.base k C "__len__" sp) (hr : Room j X.A) (hk : k + 1 ≤ j) : CallR X (.builtin "len") (rLenOwn C sp E0) := by
  obtain ⟨f, fd, ps, _, hm, F, b⟩ := c.ex
  exact call_lenOwn hm.at_ hm.fn F (hr.mono hk) b fun _ _ _ _ z => z.elim
theorem op_div {j : Nat} (sr : X.base.NoSeer) (tr : X.prog.given.tree = none) (hr : Room j X.A) (hk : 40 ≤ j) (st : PlainTop X.stack) : OpR X (binaryOp .FloorDiv) (rI CNz fun i j => .int (i.fdiv j)) := op_fdivB sr tr (room_div hr hk) st
end
/-- a class of the program as its instances are asked -/
structure ClsG (K : PySem.W.Frag) (C : Addr) : Prop where
  own : OwnC K C
  sf : PySem.W.selfFirst K C = true
  ne : PySem.W.findIn K (.ref C) "__ne__" = some (some (.builtin "object.__ne__"))
theorem ClsG.nf {K : PySem.W.Frag} {C : Addr} (c : ClsG K C) : PySem.W.notFirst K C (.ref C) = true := by
  unfold PySem.W.notFirst
  simp
end G
set_option Elab.async false
set_option linter.all false
set_option maxRecDepth 100000
namespace G
open PySem PySem.Spec PyProof.Rows L2 Evl
section
variable {K : PySem.W.Frag} {F H H' H0 : Hp} {M : List Addr} {δ δ' : Env} {μ μ' μ'' : Sto} {σ : L2.St} {ta tb te tl : TE} {t u : TT} {d e : DV} {ds es : List DV} {i j : Nat} {D : L2.Ends} {tu tw : TS} {tr : TA}
/-- a loop by an invariant; the hidden addresses may grow -/
def NewIn (F : Hp) (M M1 : List Addr) : Prop := (∀ a ∈ M, a ∈ M1) ∧ ∀ a ∈ M1, a ∈ M ∨ F a = none
theorem NewIn.refl : NewIn F M M := ⟨fun _ h => h, fun _ h => .inl h⟩
theorem NewIn.cons {p : Addr} {M1 : List Addr} (h : NewIn F M M1) (hp : F p = none) : NewIn F M (p :: M1) :=
  ⟨fun a ha => List.mem_cons_of_mem _ (h.1 a ha), fun a ha => (List.mem_cons.mp ha).elim (fun e => .inr (by rw [e]; exact hp)) fun ha => h.2 a ha⟩
def Nxt (K : PySem.W.Frag) (F : Hp) (M : List Addr) (I : List Addr → Env → Sto → Prop) (σ : L2.St) (H : Hp) : Prop := ∃ M2 δ2 μ2, I M2 δ2 μ2 ∧ NewIn F M M2 ∧ Sta K F M2 δ2 μ2 σ H
theorem x_forP {wi : TI} {g : TG} {js : List Nat} {n : Nat} {b : Nat → Env → Env} (I : Nat → List Addr → Env → Sto → Prop) (s : Sta K F M δ μ σ H) (w : WX K wi g δ μ μ' n js b) (h0 : I 0 M δ μ')
    (turn : ∀ F1 i M1 δ1 μ1 σ' H', Ex F F1 → i < n → I i M1 δ1 μ1 → NewIn F1 M M1 → Sta K F1 M1 (b i δ1) μ1 σ' H' → tu { D with nx := Nxt K F1 M (I (i + 1)), ct := Nxt K F1 M (I (i + 1)), bk := D.nx } σ' H')
    (done : ∀ M1 δ1 μ1 σ' H', I n M1 δ1 μ1 → NewIn F M M1 → Sta K F M1 δ1 μ1 σ' H' → D.nx σ' H') : tFor wi g tu D σ H :=
  w F M σ H s _ fun J H1 e1 s1 T => by
    obtain ⟨s1w, eF, eB⟩ := s1.widen
    generalize hid (μ'.map Prod.fst) H1 = F1 at s1w eF eB
    have back : ∀ {M1 : List Addr}, NewIn F1 M M1 → ∀ a o, hid M H1 a = some o → a ∉ M1 := fun {M1} h a o q hm => by
      rcases h.2 a hm with z | z
      · exact hid_no q z
      · rw [eB a o q] at z; cases z
    have nar : ∀ {M1 : List Addr}, NewIn F1 M M1 → NewIn F M M1 := fun {M1} h => ⟨h.1, fun a ha => (h.2 a ha).imp id fun z => by
      cases q : F a with
      | none => rfl
      | some o => rw [eF a o q] at z; cases z⟩
    refine ⟨fun i m σ2 H2 => m = n - i ∧ i ≤ n ∧ Nxt K F1 M (I i) σ2 H2, ⟨n, by simp, Nat.zero_le _, M, δ, μ', h0, .refl, s1w⟩, ?_⟩
    rintro i m σ2 H2 ⟨rfl, hi, M2, δ2, μ2, i2, n2, s2⟩
    have ed : Ex (hid M H1) (hid M2 H2) := s2.data eB (back n2)
    by_cases hlt : i < n
    · refine .inr ⟨T.go i H2 _ ed hlt, Nxt K F1 M (I (i + 1)), fun σ3 H3 s3 => ⟨n - (i + 1), by omega, rfl, hlt, s3⟩, fun x H3 y => ?_⟩
      exact T.bind i H2 x H3 _ _ _ _ _ hlt ed s2 y _ fun σ3 _ s3 _ _ => turn F1 i M2 δ2 μ2 σ3 H3 eF hlt i2 n2 s3
    · have e : i = n := by omega
      subst e
      exact .inl ⟨T.stop H2 _ ed, done M2 δ2 μ2 σ2 H2 i2 (nar n2) (s2.narrow eF)⟩
/-- the next turn -/
theorem nxt {I : List Addr → Env → Sto → Prop} {M1 : List Addr} (s : Sta K F M1 δ μ σ H) (n : NewIn F M M1) (h : I M1 δ μ) : Nxt K F M I σ H := ⟨M1, δ, μ, h, n, s⟩
/-! ### lists of lists that are changed -/
/-- xs.append([..]), the new list a mutable one -/
theorem x_appL {l : Addr} (s : Sta K F M δ μ σ H) (ha : EX K ta δ μ μ (.box l)) (h : LX K te δ μ μ' ds) (h0 : μ[j]? = some (l, es)) (hj : μ'[j]? = some (l, es)) (hz : es.length < 100000)
    (k : ∀ p H', F p = none → p ∉ M → Sta K F (p :: M) δ ((p, ds) :: μ'.set j (l, es ++ [.box p])) σ H' → D.nx σ H') : tDrop (tBM K "list" rAppend ta (tCons te tNil)) D σ H :=
  ha F M σ H s _ fun v H1 e1 s1 r1 => by
    cases r1
    obtain ⟨xs, g1, _⟩ := s1.sto _ (List.mem_of_getElem? h0)
    refine ⟨.inl ⟨rfl, xs, sq_of g1⟩, h F M σ H1 s1 _ fun p H2 hp hpM e2 s2 => ?_⟩
    have hj2 : ((p, ds) :: μ')[j + 1]? = some (l, es) := by simpa using hj
    obtain ⟨ys, k1, k2⟩ := s2.sto _ (List.mem_of_getElem? hj2)
    have z := (s2.poke hj2 (k2.app (.cons (.box p) .nil))).1
    exact ⟨l, ys, .ref p, rfl, rfl, k1, sz_lt (by rw [k2.length]; exact hz), k p _ (s1.freshF hp) hpM (by simpa using z)⟩
/-- the mutable lists of a mutable list stand still from here on -/
theorem Sta.still2 {p : Addr} {ps : List Addr} {rows : List (List DV)} (s : Sta K F (p :: (ps ++ M)) δ ((p, ps.map .box) :: (ps.zip rows ++ μ)) σ H) (hl : ps.length = rows.length) (hn : ∀ q ∈ ps, q ∉ M) (hp : p ∉ M) :
    Sta K F (p :: M) δ ((p, rows.map .lst) :: μ) σ H := by
  have up : Ex (hid (p :: (ps ++ M)) H) (hid (p :: M) H) := hid_less fun a ha => by
    rcases List.mem_cons.mp ha with rfl | ha
    · simp
    · exact List.mem_cons_of_mem _ (List.mem_append_right _ ha)
  have hnd := List.nodup_cons.mp s.nd
  have hps : (ps.zip rows).map Prod.fst = ps := by
    rw [List.map_fst_zip]
    omega
  have hpp : p ∉ ps := fun h => hnd.1 (by rw [List.map_append, hps]; exact List.mem_append_left _ h)
  have hnd2 : (ps ++ μ.map Prod.fst).Nodup := by
    have := hnd.2
    rw [List.map_append, hps] at this
    exact this
  refine ⟨fun a ha => s.al a (by
      rcases List.mem_cons.mp ha with rfl | ha
      · simp
      · exact List.mem_cons_of_mem _ (List.mem_append_right _ ha)), s.fr, fun q hq => ?_, ?_, fun q hq => ?_, fun i d h => ?_, s.len⟩
  · rcases List.mem_cons.mp hq with rfl | hq
    · exact ⟨by simp, (s.dm (p, ps.map .box) (by simp)).2⟩
    · obtain ⟨a1, a2⟩ := s.dm q (List.mem_cons_of_mem _ (List.mem_append_right _ hq))
      refine ⟨?_, a2⟩
      rcases List.mem_cons.mp a1 with e | e
      · rw [e]; simp
      · rcases List.mem_append.mp e with e | e
        · exact ((List.nodup_append.mp hnd2).2.2 q.1 e q.1 (List.mem_map_of_mem hq) rfl).elim
        · exact List.mem_cons_of_mem _ e
  · rw [List.map_cons, List.nodup_cons]
    exact ⟨fun h => hnd.1 (by rw [List.map_append]; exact List.mem_append_right _ h), (List.nodup_append.mp hnd2).2.1⟩
  · rcases List.mem_cons.mp hq with rfl | hq
    · obtain ⟨vs, g1, g2⟩ := s.sto (p, ps.map .box) (by simp)
      refine ⟨vs, g1, ?_⟩
      have key : ∀ (qs : List Addr) (rs : List (List DV)) (vs : List V), qs.length = rs.length → (∀ x ∈ qs.zip rs, ∃ ws, H x.1 = some (.lst ws) ∧ RpAll K (hid (p :: M) H) ws x.2) → (∀ q ∈ qs, q ∉ M ∧ q ≠ p) → RpAll K (hid (p :: (ps ++ M)) H) vs (qs.map .box) → RpAll K (hid (p :: M) H) vs (rs.map .lst) := by
        intro qs
        induction qs with
        | nil =>
          intro rs vs hl _ _ h
          cases rs with
          | nil => cases h; exact .nil
          | cons r rs => cases hl
        | cons q qs ih =>
          intro rs vs hl hx hq h
          cases rs with
          | nil => cases hl
          | cons r rs =>
            cases h with
            | cons a b =>
              cases a
              obtain ⟨ws, w1, w2⟩ := hx (q, r) (by simp)
              exact .cons (.lst (sq_of (hid_get (by simp [hq q (by simp)]) w1)) w2) (ih rs _ (by simpa using hl) (fun x hx' => hx x (by simp [hx'])) (fun q' h' => hq q' (by simp [h'])) b)
      exact key ps rows vs hl (fun x hx => by
        obtain ⟨ws, w1, w2⟩ := s.sto x (List.mem_cons_of_mem _ (List.mem_append_left _ hx))
        exact ⟨ws, w1, w2.mono up⟩) (fun q hq => ⟨hn q hq, fun e => hpp (by rw [← e]; exact hq)⟩) g2
    · obtain ⟨vs, g1, g2⟩ := s.sto q (List.mem_cons_of_mem _ (List.mem_append_right _ hq))
      exact ⟨vs, g1, g2.mono up⟩
  · obtain ⟨v, g1, g2⟩ := s.env i d h
    exact ⟨v, g1, g2.mono up⟩
theorem RpAll.erase : ∀ {vs : List V} {ds : List DV} (k : Nat), RpAll K H vs ds → RpAll K H (vs.eraseIdx k) (ds.eraseIdx k)
  | _, _, _, .nil => .nil
  | _, _, 0, .cons _ t => t
  | _, _, k + 1, .cons r t => .cons r (RpAll.erase k t)
/-- xs.pop(i) -/
theorem ex_popAt {l : Addr} {n : Int} {k : Nat} (ha : EX K ta δ μ μ (.box l)) (hb : EX K tb δ μ μ (.int n)) (hj : μ[j]? = some (l, es)) (h1 : -(2 ^ 63) ≤ n) (h2 : n < 2 ^ 63) (hk : seqIndex? n es.length = some k) (hy : es[k]? = some d) :
    EX K (tBM K "list" rPopAt ta (tCons tb tNil)) δ μ (μ.set j (l, es.eraseIdx k)) d := fun F M σ H s Q q =>
  ha F M σ H s _ fun v H1 e1 s1 r1 => by
    cases r1
    obtain ⟨xs, g1, _⟩ := s1.sto _ (List.mem_of_getElem? hj)
    refine ⟨.inl ⟨rfl, xs, sq_of g1⟩, hb F M σ H1 s1 _ fun w H2 e2 s2 r2 => ?_⟩
    cases r2
    obtain ⟨ys, k1, k2⟩ := s2.sto _ (List.mem_of_getElem? hj)
    obtain ⟨y, hy', ry⟩ := k2.get hy
    obtain ⟨z1, z2⟩ := s2.poke hj (k2.erase k)
    exact ⟨l, ys, n, k, y, rfl, rfl, k1, h1, h2, by rw [k2.length]; exact hk, hy', q y _ ((e1.trans e2).trans z2) z1 (ry.mono z2)⟩
/-! ### the store untouched -/
theorem y_ret (s : Sta K F M δ μ σ H) (h : EX K te δ μ μ d) (k : ∀ v H', Sta K F M δ μ σ H' → Rp K (hid M H') v d → D.rt v H') : tRet te D σ H := x_ret s h k
theorem y_asg (s : Sta K F M δ μ σ H) (h : EX K te δ μ μ d) (k : ∀ σ' H', Sta K F M (δ.set i (some d)) μ σ' H' → D.nx σ' H') : tAsg te (gName i) D σ H := x_asg s h k
theorem y_asgN (s : Sta K F M δ μ σ H) (h : EX K te δ μ μ d) (k : ∀ σ' H', Sta K F M (δ.set i none) μ σ' H' → D.nx σ' H') : tAsg te (gName i) D σ H := x_asgN s h k
theorem y_asgL (s : Sta K F M δ μ σ H) (h : LX K te δ μ μ ds) (k : ∀ p σ' H', p ∉ M → F p = none → Sta K F (p :: M) (δ.set i (some (.box p))) ((p, ds) :: μ) σ' H' → D.nx σ' H') : tAsg te (gName i) D σ H := x_asgL s h fun p σ' H' hp s' => k p σ' H' hp (s'.dm (p, ds) (by simp)).2 s'
theorem y_if {b : Bool} (s : Sta K F M δ μ σ H) (h : TX K t δ μ μ b) (h1 : b = true → ∀ H', Sta K F M δ μ σ H' → tu D σ H') (h2 : b = false → ∀ H', Sta K F M δ μ σ H' → tw D σ H') : tIfS t tu tw D σ H := x_if s h h1 h2
theorem y_skip (s : Sta K F M δ μ σ H) (h : TX K t δ μ μ false) (h2 : ∀ H', Sta K F M δ μ σ H' → D.nx σ H') : tIfS t tu tNext D σ H := x_skip s h h2
theorem y_drop (s : Sta K F M δ μ σ H) (h : EX K te δ μ μ d) (k : ∀ H', Sta K F M δ μ σ H' → D.nx σ H') : tDrop te D σ H := x_drop s h k
theorem y_app {l : Addr} (s : Sta K F M δ μ σ H) (ha : EX K ta δ μ μ (.box l)) (h : EX K te δ μ μ d) (hj : μ[j]? = some (l, ds)) (hz : ds.length < 100000) (k : ∀ H', Sta K F M δ (μ.set j (l, ds ++ [d])) σ H' → D.nx σ H') :
    tDrop (tBM K "list" rAppend ta (tCons te tNil)) D σ H := x_app s ha h hj hj hz k
theorem y_setL {l : Addr} {n : Int} {m : Nat} (s : Sta K F M δ μ σ H) (h : EX K te δ μ μ d) (ho : EX K ta δ μ μ (.box l)) (hi : EX K tb δ μ μ (.int n)) (hj : μ[j]? = some (l, ds)) (hn : ixN ds.length n = some m)
    (k : ∀ H', Sta K F M δ (μ.set j (l, ds.set m d)) σ H' → D.nx σ H') : tAsg te (gSub ta tb rSetL) D σ H := x_setL s h ho hi hj hn k
/-- r is what is promised: the end of a def to data -/
theorem y_end {D : L2.Ends} {F0 : Hp} {M0 : List Addr} {r : DV} (krt : ∀ v H', Ex F0 H' → Rp K (hid M0 H') v r → D.rt v H') (s : Sta K F M δ μ σ H) (h : EX K te δ μ μ' r) (e : Ex F0 F) (n : ∀ a ∈ M0, a ∈ M) : tRet te D σ H :=
  x_ret s h fun v H' s' rv => krt v H' (e.trans s'.fr) (rv.mono (hid_less n))
end
end G
set_option Elab.async false
set_option linter.all false
set_option maxRecDepth 100000
namespace G
open PySem PySem.Spec PyProof.Rows L2 Evl
/-! ### rules with K told (for the blocks of comprehensions) -/
section
variable {X : Cx} {K : PySem.W.Frag} {e e2 tg : Expr} {te : TE} {ta : TA} {f x : Str} {p pos tpos apos cpos : Pos} {elts es : List Expr} {kk j k : Nat} {C : Addr} {sp : Sp} {T name : Str}
theorem ix_seqK (h : X.K = K := by rfl) : IxR X (rIx K) := h ▸ ix_seq
theorem call_lenK (h : X.K = K := by rfl) : CallR X (.builtin "len") (rLenQ K) := h ▸ call_lenQ
theorem call_listK (h : X.K = K := by rfl) : CallR X (.type "list") (rListQ K) := h ▸ call_listQ
theorem call_tupK (h : X.K = K := by rfl) : CallR X (.type "tuple") (rTupQ K) := h ▸ call_tupQ
theorem cr_sumK (hc : X.calm = true := by rfl) (h : X.K = K := by rfl) : CallR X (.builtin "sum") (rSum K) := h ▸ cr_sum hc
theorem cr_allK (hc : X.calm = true := by rfl) (h : X.K = K := by rfl) : CallR X (.builtin "all") (rAll K) := h ▸ cr_all hc
theorem cr_anyK (hc : X.calm = true := by rfl) (h : X.K = K := by rfl) : CallR X (.builtin "any") (rAny K) := h ▸ cr_any hc
theorem call_isK (h : X.K = K := by rfl) : CallR X (.builtin "isinstance") (rIsi K) := h ▸ call_isi
theorem call_isTK (h : X.K = K := by rfl) : CallR X (.builtin "isinstance") (rIsiT K) := h ▸ call_isiT
theorem sl_listK (h : X.K = K := by rfl) : SlR X (rSlL K) := h ▸ sl_list
theorem sl_tupK (h : X.K = K := by rfl) : SlR X (rSlA K) := h ▸ sl_tupA
theorem op_catK (h : X.K = K := by rfl) : OpR X (binaryOp .Add) (rCatA K) := h ▸ op_catA
theorem op_eqDK (hu : X.A.units + 64 < cLine) (h : X.K = K := by rfl) : OpR X (compareOp .Eq) (rEqD K) := h ▸ op_eqD hu
theorem op_neDK (hu : X.A.units + 64 < cLine) (h : X.K = K := by rfl) : OpR X (compareOp .NotEq) (rNeD K) := h ▸ op_neD hu
theorem pe_fldK (he : PE X e te) (hb : attributeBase e f X.env (eval e X.env) = eval e X.env := by rfl) (h : X.K = K := by rfl) : PE X (.Attribute e f pos) (tFld K te f) := h ▸ pe_fld he hb
theorem pi_seqK (he : PE X e te) (h : X.K = K := by rfl) : PI X tg e (iSeq K te) := h ▸ pi_seq he
theorem pi_zK (hg : Gl X "zip") (hm : X.mg "zip" = none) (ha : PA X [e, e2] ta) (hs : starEach [e, e2] X.env = (false, eval e X.env) :: starEach [e2] X.env := by rfl) (hpl : (backTo pos (starEach [e2] X.env)).any (·.1) = false := by rfl) (h : X.K = K := by rfl) :
    PI X (.Tuple elts kk tpos) (.Call (.Name "zip" p) [e, e2] [] pos) (iZipK K ta) := h ▸ pi_zipK hg hm ha hs hpl
theorem pi_eK (hg : Gl X "enumerate") (hm : X.mg "enumerate" = none) (ha : PA X [e] ta) (hs : starEach [e] X.env = [(false, eval e X.env)] := by rfl) (h : X.K = K := by rfl) :
    PI X (.Tuple elts kk tpos) (.Call (.Name "enumerate" p) [e] [] pos) (iEnumK K ta) := h ▸ pi_enumK hg hm ha hs
theorem opEK (c : MetG X.prog X.w X.K X.mg X.base k C "__eq__" sp) (hr : Room j X.A) (hk : k ≤ j) (h : X.K = K := by rfl) : OpR X (compareOp .Eq) (rOwnE K C sp E0) := h ▸ opE c hr hk
theorem opNK (c : MetG X.prog X.w X.K X.mg X.base k C "__eq__" sp) (o : PySem.W.mroIn X.K C (.type "object") = some true) (hne : PySem.W.findIn X.K (.ref C) "__ne__" = some (some (.builtin "object.__ne__"))) (hr : Room j X.A) (hk : k + 1 ≤ j) (h : X.K = K := by rfl) :
    OpR X (compareOp .NotEq) (rOwnN K C sp E0) := h ▸ opN c o hne hr hk
end
section
variable {K : PySem.W.Frag} {F H H' : Hp} {M : List Addr} {δ δ' : Env} {μ μ' μ'' : Sto} {σ : L2.St} {ta tb te : TE} {a b : Int}
theorem ex_add (ha : EX K ta δ μ μ' (.int a)) (hb : EX K tb δ μ' μ'' (.int b)) : EX K (tOp (rI0 fun i j => .int (i + j)) ta tb) δ μ μ'' (.int (a + b)) := ex_I0 ha hb
theorem ex_sub (ha : EX K ta δ μ μ' (.int a)) (hb : EX K tb δ μ' μ'' (.int b)) : EX K (tOp (rI0 fun i j => .int (i - j)) ta tb) δ μ μ'' (.int (a - b)) := ex_I0 ha hb
theorem ex_mul (ha : EX K ta δ μ μ' (.int a)) (hb : EX K tb δ μ' μ'' (.int b)) (hc : CMulB a b) : EX K (tOp (rI CMulB fun i j => .int (i * j)) ta tb) δ μ μ'' (.int (a * b)) := ex_I ha hb hc
theorem ex_fdiv (ha : EX K ta δ μ μ' (.int a)) (hb : EX K tb δ μ' μ'' (.int b)) (hc : b ≠ 0) : EX K (tOp (rI CNz fun i j => .int (i.fdiv j)) ta tb) δ μ μ'' (.int (a.fdiv b)) := ex_I ha hb hc
theorem ex_mod (ha : EX K ta δ μ μ' (.int a)) (hb : EX K tb δ μ' μ'' (.int b)) (hc : b ≠ 0) : EX K (tOp (rI (fun _ j => j ≠ 0) fun i j => .int (i.fmod j)) ta tb) δ μ μ'' (.int (a.fmod b)) := ex_I ha hb hc
theorem ex_neg (ha : EX K ta δ μ μ' (.int a)) : EX K (tUn (rU fun i => .int (-i)) ta) δ μ μ' (.int (-a)) := ex_U ha
theorem ex_lt (ha : EX K ta δ μ μ' (.int a)) (hb : EX K tb δ μ' μ'' (.int b)) : EX K (tOp (rI0 fun i j => .bl (decide (i < j))) ta tb) δ μ μ'' (.bl (decide (a < b))) := ex_I0 ha hb
theorem ex_le (ha : EX K ta δ μ μ' (.int a)) (hb : EX K tb δ μ' μ'' (.int b)) : EX K (tOp (rI0 fun i j => .bl (decide (i ≤ j))) ta tb) δ μ μ'' (.bl (decide (a ≤ b))) := ex_I0 ha hb
theorem ex_gt (ha : EX K ta δ μ μ' (.int a)) (hb : EX K tb δ μ' μ'' (.int b)) : EX K (tOp (rI0 fun i j => .bl (decide (j < i))) ta tb) δ μ μ'' (.bl (decide (b < a))) := ex_I0 ha hb
theorem ex_ge (ha : EX K ta δ μ μ' (.int a)) (hb : EX K tb δ μ' μ'' (.int b)) : EX K (tOp (rI0 fun i j => .bl (decide (j ≤ i))) ta tb) δ μ μ'' (.bl (decide (b ≤ a))) := ex_I0 ha hb
def DV.isN : DV → Bool
  | .non => true
  | _ => false
theorem ex_isN {d : DV} (ha : EX K ta δ μ μ' d) : EX K (tOp (fun x y H Q => y = V.non ∧ Q (.bl (decide (x = V.non))) H) ta (tC .non)) δ μ μ' (.bl d.isN) := fun F M σ H s Q q =>
  ha F M σ H s _ fun v H1 e1 s1 r1 => by
    have e : decide (v = V.non) = d.isN := by
      cases d <;> (cases r1; simp [DV.isN])
    exact ⟨rfl, by rw [e]; exact q _ H1 e1 s1 (.bl _)⟩
theorem ex_notN {d : DV} (ha : EX K ta δ μ μ' d) : EX K (tOp (fun x y H Q => y = V.non ∧ Q (.bl (!decide (x = V.non))) H) ta (tC .non)) δ μ μ' (.bl (!d.isN)) := fun F M σ H s Q q =>
  ha F M σ H s _ fun v H1 e1 s1 r1 => by
    have e : decide (v = V.non) = d.isN := by
      cases d <;> (cases r1; simp [DV.isN])
    exact ⟨rfl, by rw [e]; exact q _ H1 e1 s1 (.bl _)⟩
end
end G
set_option Elab.async false
set_option linter.all false
set_option maxRecDepth 100000
namespace G
open PySem PySem.Spec PyProof.Rows L2 Evl
/-! ### promises that tell the result by a relation -/
def spLR (K : PySem.W.Frag) (Pre : List DV → Prop) (Post : List DV → List DV → Prop) : Sp := fun vs H Q _ => ∃ M ds, (∀ a ∈ M, H a ≠ none) ∧ RpAll K (hid M H) vs ds ∧ Pre ds ∧ ∀ rs p ws H', Post ds rs → H p = none → Ex H H' → H' p = some (.lst ws) → RpAll K (hid (p :: M) H') ws rs → Q (.ref p) H'
def spSR (K : PySem.W.Frag) (Pre : List DV → List DV → Prop) (Post : List DV → List DV → List DV → DV → Prop) : Sp := fun vs H Q _ => ∃ M st ws xs s ds, vs = .ref st :: ws ∧ st ∈ M ∧ (∀ a ∈ M, H a ≠ none) ∧ H st = some (.lst xs) ∧ RpAll K (hid M H) xs s ∧ RpAll K (hid M H) ws ds ∧ Pre s ds ∧
  ∀ s' r v xs' H', Post s ds s' r → (∀ a o, a ≠ st → H a = some o → H' a = some o) → H' st = some (.lst xs') → RpAll K (hid M H') xs' s' → Rp K (hid M H') v r → Q v H'
section
variable {K : PySem.W.Frag} {F H H' H0 : Hp} {M : List Addr} {δ δ' : Env} {μ μ' μ'' : Sto} {σ : L2.St} {ta tb te tl : TE} {t u : TT} {d e : DV} {ds es : List DV} {i j : Nat} {D : L2.Ends} {tu tw : TS} {tr : TA}
theorem x_asgLR {Pre : List DV → Prop} {Post : List DV → List DV → Prop} {E : XK} (s : Sta K F M δ μ σ H) (ha : AX K tr δ μ μ' ds) (h : Pre ds) (k : ∀ rs p σ' H', Post ds rs → p ∉ M → F p = none → Sta K F (p :: M) (δ.set i (some (.box p))) ((p, rs) :: μ') σ' H' → D.nx σ' H') : tAsg (tCall (spLR K Pre Post) [] E tr) (gName i) D σ H :=
  ha F M σ H s _ fun vs H1 e1 s1 r1 => ⟨M, ds, s1.al, by rw [List.append_nil]; exact r1, h, fun rs p ws H2 hq hp e2 h2 r => by
    have z := (s1.newP e2 hp h2 r).put (i := i) (.box p)
    exact k rs p _ H2 hq (s1.fresh hp) (s1.freshF hp) z⟩
theorem x_asgSR {Pre : List DV → List DV → Prop} {Post : List DV → List DV → List DV → DV → Prop} {E : XK} {l : Addr} {s0 : List DV} (s : Sta K F M δ μ σ H) (ha : EX K ta δ μ μ (.box l)) (hr : AX K tr δ μ μ ds) (hj : μ[j]? = some (l, s0)) (h : Pre s0 ds)
    (k : ∀ s1 r σ' H', Post s0 ds s1 r → Sta K F M (δ.set i (some r)) (μ.set j (l, s1)) σ' H' → D.nx σ' H') : tAsg (tCall (spSR K Pre Post) [] E (tCons ta tr)) (gName i) D σ H :=
  ha F M σ H s _ fun v H1 e1 g1 r1 => hr F M σ H1 g1 _ fun vs H2 e2 g2 r2 => by
    cases r1
    have hm : (l, s0) ∈ μ := List.mem_of_getElem? hj
    obtain ⟨xs, k1, k2⟩ := g2.sto _ hm
    refine ⟨M, l, vs, xs, s0, ds, by rw [List.append_nil], (g2.dm _ hm).1, g2.al, k1, k2, r2, h, fun s1 r v xs' H3 hq kk e3 r3 rv => ?_⟩
    obtain ⟨g3, x3⟩ := g2.after hj kk e3 r3
    exact k s1 r _ H3 hq (g3.put rv)
theorem hid_eq {M' : List Addr} (h : ∀ a, a ∈ M ↔ a ∈ M') : hid M' H = hid M H := by
  funext a
  unfold hid
  by_cases q : a ∈ M
  · rw [if_pos q, if_pos ((h a).mp q)]
  · rw [if_neg q, if_neg fun z => q ((h a).mpr z)]
/-- the order is of no matter -/
theorem Sta.perm {M' : List Addr} (s : Sta K F M δ μ σ H) (hM : ∀ a, a ∈ M ↔ a ∈ M') (hμ : μ.Perm μ') : Sta K F M' δ μ' σ H := by
  have e := hid_eq (H := H) hM
  refine ⟨fun a ha => s.al a ((hM a).mpr ha), s.fr, fun p hp => ?_, (hμ.map Prod.fst).nodup_iff.mp s.nd, fun p hp => ?_, fun i d h => ?_, s.len⟩
  · obtain ⟨h1, h2⟩ := s.dm p (hμ.mem_iff.mpr hp)
    exact ⟨(hM _).mp h1, h2⟩
  · rw [e]
    exact s.sto p (hμ.mem_iff.mpr hp)
  · rw [e]
    exact s.env i d h
/-- xs + [..], xs a mutable list -/
theorem lx_catB {l : Addr} (ha : EX K ta δ μ μ (.box l)) (hb : LX K tb δ μ μ' es) (h0 : μ[j]? = some (l, ds)) (hj : μ'[j]? = some (l, ds)) (hl : ds.length + es.length ≤ 100000) : LX K (tOp rCat ta tb) δ μ μ' (ds ++ es) := fun F M σ H s Q q =>
  ha F M σ H s _ fun v H1 e1 s1 r1 => hb F M σ H1 s1 _ fun p2 H2 hp2 hpM2 e2 s2 => by
    cases r1
    have hj2 : ((p2, es) :: μ')[j + 1]? = some (l, ds) := by simpa using hj
    obtain ⟨vs, h1, r1⟩ := s2.sto _ (List.mem_of_getElem? hj2)
    obtain ⟨ws, h2, r2⟩ := s2.sto (p2, es) (by simp)
    obtain ⟨s3, _⟩ := s2.still hpM2
    have up : Ex (hid (p2 :: M) H2) (hid M H2) := hid_less fun a ha => List.mem_cons_of_mem _ ha
    have e12 := e1.trans e2
    refine ⟨l, p2, vs, ws, rfl, rfl, h1, h2, sz_of (by rw [r1.length, r2.length]; exact hl), fun z hz0 => ?_⟩
    exact q z _ (back_none s s3 e12 hz0) (s3.fresh hz0) (e12.trans (new_ex s3 hz0)) (s3.newL hz0 ((r1.mono up).app (r2.mono up)))
theorem z_asg {u : TS} (s : Sta K F M δ μ σ H) (h : EX K te δ μ μ d) (k : ∀ σ' H', Sta K F M (δ.set i (some d)) μ σ' H' → u D σ' H') : tSeq (tAsg te (gName i)) u D σ H := y_asg (D := { D with nx := u D }) s h k
theorem EX.to (h : EX K te δ μ μ' d) (e : μ' = μ'') : EX K te δ μ μ'' d := e ▸ h
theorem ex_min2 {a b : Int} (ha : EX K ta δ μ μ' (.int a)) (hb : EX K tb δ μ' μ'' (.int b)) : EX K (tCB (fun xs H Q => ∃ i j, xs = [.int i, .int j] ∧ Q (.int (if j < i then j else i)) H) (tCons ta (tCons tb tNil))) δ μ μ'' (.int (if b < a then b else a)) := fun F M σ H s Q q =>
  ha F M σ H s _ fun v H1 e1 s1 r1 => hb F M σ H1 s1 _ fun w H2 e2 s2 r2 => by
    cases r1
    cases r2
    exact ⟨a, b, rfl, q _ H2 (e1.trans e2) s2 (.int _)⟩
theorem ex_max2 {a b : Int} (ha : EX K ta δ μ μ' (.int a)) (hb : EX K tb δ μ' μ'' (.int b)) : EX K (tCB (fun xs H Q => ∃ i j, xs = [.int i, .int j] ∧ Q (.int (if j > i then j else i)) H) (tCons ta (tCons tb tNil))) δ μ μ'' (.int (if b > a then b else a)) := fun F M σ H s Q q =>
  ha F M σ H s _ fun v H1 e1 s1 r1 => hb F M σ H1 s1 _ fun w H2 e2 s2 r2 => by
    cases r1
    cases r2
    exact ⟨a, b, rfl, q _ H2 (e1.trans e2) s2 (.int _)⟩
theorem ex_pow {a : Int} {n : Nat} (ha : EX K ta δ μ μ' (.int a)) (hb : EX K tb δ μ' μ'' (.int n)) (h1 : n ≤ 1000000) (h2 : a.natAbs < 2 ^ 64) : EX K (tOp (rI CPow fun i j => .int (i ^ j.toNat)) ta tb) δ μ μ'' (.int (a ^ n)) :=
  EX.is (ex_I ha hb ⟨by omega, by omega, h2⟩) rfl
/-- one more mutable list of a mutable list, put in its place -/
theorem Sta.grow {g q : Addr} {ps : List Addr} {rows : List (List DV)} {row : List DV} (s : Sta K F (q :: g :: (ps ++ M)) δ ((q, row) :: (g, ps.map .box ++ [.box q]) :: (ps.zip rows ++ μ)) σ H) (hl : ps.length = rows.length) :
    Sta K F (g :: ((ps ++ [q]) ++ M)) δ ((g, (ps ++ [q]).map .box) :: ((ps ++ [q]).zip (rows ++ [row]) ++ μ)) σ H := by
  refine s.perm (fun a => by simp [or_left_comm, or_comm, or_assoc]) ?_
  rw [List.map_append, List.zip_append hl]
  refine (List.Perm.swap _ _ _).trans (List.Perm.cons _ ?_)
  rw [List.append_assoc]
  exact List.perm_middle.symm
end
section
variable {K : PySem.W.Frag} {F H H' H0 : Hp} {M : List Addr} {δ : Env} {μ : Sto} {P : Program} {w : World} {mg : Str → Option Value} {base : Heap}
theorem okLR {x qual : Str} {st : Stmt} {f : Addr} {fd : FuncData} {N ps : List Str} {k : Nat} {Pre : List DV → Prop} {Post : List DV → List DV → Prop} (Fn : Fun K x qual st f fd) (S : FnScope N ps (defScope st)) (len : ∀ ds, Pre ds → ds.length = ps.length)
    (body : ∀ (cdv : Value) (A : Around) (outer : List PySem.Env) (s : Shared) (H : Hp) (E : XK), Room k (A.deeper (envOfC qual (defScope st) s.heap.objs.size f cdv)) →
      ∃ t, PSs (cxOf CX0 P w K mg base N qual (defScope st) f cdv A outer s H E).nox (defBody st) t ∧ ∀ F M ds σ H1 D, Pre ds → Sta K F M (startD N.length ds) [] σ H1 →
        (∀ rs p σ' H' δ, Post ds rs → F p = none → Sta K F (p :: M) δ [(p, rs)] σ' H' → D.rt (.ref p) H') → t D σ H1) : FnOk P w K mg base CX0 (k + 1) f fd ps (spLR K Pre Post) := by
  refine Fn.ok S (fun vs H Q E ⟨M, ds, _, h1, h2, _⟩ => by rw [h1.length]; exact len _ h2) fun cdv A outer s H vs Q E hr ⟨M, ds, al, ra, hR, kq⟩ => ?_
  obtain ⟨t, h1, h2⟩ := body cdv A outer s H E hr
  refine ⟨t, h1, h2 H M ds _ H _ hR (sta_start al ra) fun rs p σ' H' δ hq hp s' => ?_⟩
  obtain ⟨ws, g1, g2⟩ := s'.sto (p, rs) (by simp)
  exact kq rs p ws H' hq hp s'.fr g1 g2
theorem okSR {x qual : Str} {st : Stmt} {f : Addr} {fd : FuncData} {N ps : List Str} {k : Nat} {Pre : List DV → List DV → Prop} {Post : List DV → List DV → List DV → DV → Prop} (Fn : Fun K x qual st f fd) (S : FnScope N ps (defScope st)) (len : ∀ s ds, Pre s ds → ds.length + 1 = ps.length)
    (body : ∀ (cdv : Value) (A : Around) (outer : List PySem.Env) (s : Shared) (H : Hp) (E : XK), Room k (A.deeper (envOfC qual (defScope st) s.heap.objs.size f cdv)) →
      ∃ t, PSs (cxOf CX0 P w K mg base N qual (defScope st) f cdv A outer s H E).nox (defBody st) t ∧ ∀ F M l s0 ds σ H1 D, Pre s0 ds → Sta K F M (startD N.length (.box l :: ds)) [(l, s0)] σ H1 →
        (∀ s1 r v H' M' δ σ', Post s0 ds s1 r → (∀ a ∈ M, a ∈ M') → Sta K F M' δ [(l, s1)] σ' H' → Rp K (hid M' H') v r → D.rt v H') → (∀ σ' H', D.rt .non H' → D.nx σ' H') → t D σ H1) : FnOk P w K mg base CX0 (k + 1) f fd ps (spSR K Pre Post) := by
  refine Fn.ok S (fun vs H Q E ⟨M, st, ws, xs, s0, ds, e, _, _, _, _, h1, h2, _⟩ => by rw [e, List.length_cons, h1.length]; exact len _ _ h2) fun cdv A outer s H vs Q E hr ⟨M, st, ws, xs, s0, ds, e, hm, al, hst, rs, ra, hR, kq⟩ => ?_
  obtain ⟨t, h1, h2⟩ := body cdv A outer s H E hr
  subst e
  have r0 : RpAll K (hid M H) (.ref st :: ws) (.box st :: ds) := .cons (.box st) ra
  have s0' : Sta K (hid [st] H) M (startD N.length (.box st :: ds)) [(st, s0)] (L2.start N (.ref st :: ws)) H := by
    refine ⟨al, hid_sub, fun p hp => ?_, by simp, fun p hp => ?_, envAll r0, by unfold L2.start startD; simp [ra.length]⟩
    · simp only [List.mem_singleton] at hp
      subst hp
      exact ⟨hm, by unfold hid; simp⟩
    · simp only [List.mem_singleton] at hp
      subst hp
      exact ⟨xs, hst, rs⟩
  refine ⟨t, h1, h2 (hid [st] H) M st s0 ds _ H _ hR s0' (fun s1 r v H' M' δ σ' hq hM s' rv => ?_) fun _ _ z => z⟩
  obtain ⟨ys, g1, g2⟩ := s'.sto (st, s1) (by simp)
  have up : Ex (hid M' H') (hid M H') := hid_less hM
  exact kq s1 r v ys H' hq (fun a o hne q => s'.fr a o (hid_get (by simp [hne]) q)) g1 (g2.mono up) (rv.mono up)
end
end G
set_option Elab.async false
set_option linter.all false
set_option maxRecDepth 100000
namespace G
open PySem PySem.Spec PyProof.Rows L2 Evl
/-! ### rows of ints as data -/
def rowT (r : List Int) : DV := .tup (r.map .int)
def rowL (r : List Int) : DV := .lst (r.map .int)
def rowsT (rs : List (List Int)) : DV := .tup (rs.map rowT)
def gridD (C : Addr) (rs : List (List Int)) (w : Nat) : DV := .ins C [("rows", rowsT rs), ("width", .int w)]
def IsRow (d : DV) (r : List Int) : Prop := Seq d (r.map .int)
def IsRows (d : DV) (rs : List (List Int)) : Prop := ∃ ds, Seq d ds ∧ ds.length = rs.length ∧ ∀ (i : Nat) (d : DV) (r : List Int), ds[i]? = some d → rs[i]? = some r → IsRow d r
def Sm (B : Nat) (r : List Int) : Prop := ∀ x ∈ r, x.natAbs < 2 ^ B
theorem isT (r : List Int) : IsRow (rowT r) r := .tup _
theorem isL (r : List Int) : IsRow (rowL r) r := .lst _
theorem isRowsT (rs : List (List Int)) : IsRows (rowsT rs) rs := ⟨rs.map rowT, .tup _, by simp, fun i d r h1 h2 => by
  rw [List.getElem?_map, h2] at h1
  cases h1
  exact isT r⟩
theorem isRowsL (rs : List (List Int)) : IsRows (.lst (rs.map rowL)) rs := ⟨rs.map rowL, .lst _, by simp, fun i d r h1 h2 => by
  rw [List.getElem?_map, h2] at h1
  cases h1
  exact isL r⟩
theorem isRowsLT (rs : List (List Int)) : IsRows (.lst (rs.map rowT)) rs := ⟨rs.map rowT, .lst _, by simp, fun i d r h1 h2 => by
  rw [List.getElem?_map, h2] at h1
  cases h1
  exact isT r⟩
theorem getD_map {r : List Int} {i : Nat} (h : i < r.length) : (r.map DV.int).getD i .non = .int (r.getD i 0) := by
  rw [List.getD_eq_getElem?_getD, List.getElem?_map, List.getElem?_eq_getElem h, List.getD_eq_getElem?_getD, List.getElem?_eq_getElem h]
  rfl
theorem IsRows.at {ds : List DV} {rs : List (List Int)} (hl : ds.length = rs.length) (h : ∀ (i : Nat) (d : DV) (r : List Int), ds[i]? = some d → rs[i]? = some r → IsRow d r) {i : Nat} (hi : i < rs.length) : IsRow (ds.getD i .non) (rs.getD i []) := by
  have h1 : i < ds.length := by omega
  rw [List.getD_eq_getElem?_getD, List.getElem?_eq_getElem h1, List.getD_eq_getElem?_getD, List.getElem?_eq_getElem hi]
  exact h i _ _ (List.getElem?_eq_getElem h1) (List.getElem?_eq_getElem hi)
def dotI (a b : List Int) : Int := ((List.range (min a.length b.length)).map fun i => a.getD i 0 * b.getD i 0).sum
theorem Seq.ty {K : PySem.W.Frag} {d : DV} {ds : List DV} (h : Seq d ds) : TyD K d (.type "list") ∨ TyD K d (.type "tuple") := by
  cases h with
  | lst => exact .inl .lst
  | tup => exact .inr .tup
theorem kitLT {K : PySem.W.Frag} {d : DV} {ds : List DV} (h : Seq d ds) : ∃ w, TyD K d w ∧ PySem.W.kitAny K w [.type "list", .type "tuple"] = some true := by
  rcases h.ty (K := K) with q | q
  · exact ⟨_, q, kit2 (b := true) (c := false) (by decide +kernel) (by decide +kernel) rfl⟩
  · exact ⟨_, q, kit2 (b := false) (c := true) (by decide +kernel) (by decide +kernel) rfl⟩
theorem smMul {a b : Int} {A B : Nat} (ha : a.natAbs < 2 ^ A) (hb : b.natAbs < 2 ^ B) (h : A + B ≤ 134217728) : CMulB a b := mulOk ha hb h
theorem natAbs_mul_lt {a b : Int} {A B : Nat} (ha : a.natAbs < 2 ^ A) (hb : b.natAbs < 2 ^ B) : (a * b).natAbs < 2 ^ (A + B) := by
  rw [Int.natAbs_mul, Nat.pow_add]
  exact Nat.mul_lt_mul'' ha hb
theorem getD_sm {r : List Int} {B : Nat} (h : Sm B r) (i : Nat) : (r.getD i 0).natAbs < 2 ^ B := by
  rw [List.getD_eq_getElem?_getD]
  cases q : r[i]? with
  | none =>
    show (0 : Int).natAbs < _
    exact Nat.pow_pos (by omega)
  | some x => exact h x (List.mem_of_getElem? q)
/-! ### what the defs of the grid promise -/
def rIsInt : List DV → DV → Prop := fun ds r => ∃ i : Int, ds = [.int i] ∧ r = .bl true
def rDot : List DV → DV → Prop := fun ds r => ∃ (d e : DV) (a b : List Int), ds = [d, e] ∧ IsRow d a ∧ IsRow e b ∧ a.length ≤ 1000 ∧ (∃ A B, Sm A a ∧ Sm B b ∧ A + B ≤ 134217728) ∧ r = .int (dotI a b)
def rChecked : List DV → DV → Prop := fun ds r => ∃ (d : DV) (rs : List (List Int)) (w : Nat), ds = [d, .int w] ∧ IsRows d rs ∧ rs.length ≤ 1000 ∧ (∀ x ∈ rs, x.length = w) ∧ r = rowsT rs
end G
set_option Elab.async false
set_option linter.all false
set_option maxRecDepth 100000
namespace G
open PySem PySem.Spec PyProof.Rows L2 Evl
variable {B0 : Nat}
theorem atI_nat {α : Type} {xs : List α} {i : Nat} (h : i < xs.length) : L2.atI xs (i : Int) = some xs[i] := by
  have e : ixN xs.length (i : Int) = some i := by
    unfold ixN
    simp [h]
  unfold L2.atI
  rw [e]
  exact List.getElem?_eq_getElem h
theorem ixN_of {n i : Nat} (h : i < n) : ixN n (i : Int) = some i := by
  unfold ixN
  simp [h]
theorem atI_row {t : List (List Int)} {i : Nat} (h : i < t.length) : L2.atI (t.map rowL) (i : Int) = some (rowL (t.getD i [])) := by
  rw [atI_nat (by simpa using h), List.getElem_map, List.getD_eq_getElem?_getD, List.getElem?_eq_getElem h]
  rfl
theorem atI_rowT {t : List (List Int)} {i : Nat} (h : i < t.length) : L2.atI (t.map rowT) (i : Int) = some (rowT (t.getD i [])) := by
  rw [atI_nat (by simpa using h), List.getElem_map, List.getD_eq_getElem?_getD, List.getElem?_eq_getElem h]
  rfl
theorem atI_int {r : List Int} {i : Nat} (h : i < r.length) : L2.atI (r.map DV.int) (i : Int) = some (.int (r.getD i 0)) := by
  rw [atI_nat (by simpa using h), List.getElem_map, List.getD_eq_getElem?_getD, List.getElem?_eq_getElem h]
  rfl
theorem map_getD {α β : Type} (f : List α → β) (rs : List (List α)) : (List.range rs.length).map (fun i => f (rs.getD i [])) = rs.map f := by
  refine List.ext_getElem (by simp) fun i h1 h2 => ?_
  simp at h1
  simp [List.getD_eq_getElem?_getD, List.getElem?_eq_getElem h1]
/-! ### the quotient elimination -/
def en (t : List (List Int)) (i j : Nat) : Int := (t.getD i []).getD j 0
def elimRow (h : List Int) (f b : Int) (k : Nat) (r : List Int) : List Int := (List.range (min r.length h.length)).map fun j => (h.getD k 0 * r.getD j 0 - f * h.getD j 0).fdiv b
def inn (h : List Int) (b : Int) (k : Nat) (t : List (List Int)) : Nat → List (List Int)
  | 0 => t
  | m + 1 => (inn h b k t m).set (k + 1 + m) (elimRow h (en (inn h b k t m) (k + 1 + m) k) b k ((inn h b k t m).getD (k + 1 + m) []))
def picks (t : List (List Int)) (k n : Nat) : List Nat := ((List.range (n - k)).filter fun j => !decide (en t (k + j) k = 0)).map (k + ·)
def swp (t : List (List Int)) (k c : Nat) : List (List Int) := (t.set k (t.getD c [])).set c (t.getD k [])
def bstep (n k : Nat) (x : List (List Int) × Int × Int) : Option (List (List Int) × Int × Int) := match picks x.1 k n with
  | [] => none
  | c :: _ => if c = k then some (inn (x.1.getD k []) x.2.2 k x.1 (n - (k + 1)), x.2.1, en x.1 k k) else some (inn ((swp x.1 k c).getD k []) x.2.2 k (swp x.1 k c) (n - (k + 1)), -x.2.1, en (swp x.1 k c) k k)
def brun (n : Nat) (x : List (List Int) × Int × Int) : Nat → Option (List (List Int) × Int × Int)
  | 0 => some x
  | k + 1 => (brun n x k).bind (bstep n k)
def bar (rs : List (List Int)) : Int := match brun rs.length (rs, 1, 1) rs.length with
  | none => 0
  | some x => x.2.1 * x.2.2
theorem brun_none {n : Nat} {x : List (List Int) × Int × Int} {k : Nat} (h : brun n x k = none) : ∀ m, brun n x (k + m) = none
  | 0 => h
  | m + 1 => by
    show (brun n x (k + m)).bind _ = none
    rw [brun_none h m]
    rfl
theorem bar_zero {rs : List (List Int)} {k : Nat} (hk : k < rs.length) {x : List (List Int) × Int × Int} (h : brun rs.length (rs, 1, 1) k = some x) (hp : picks x.1 k rs.length = []) : bar rs = 0 := by
  have h1 : brun rs.length (rs, 1, 1) (k + 1) = none := by
    show (brun rs.length (rs, 1, 1) k).bind _ = none
    rw [h]
    show bstep _ _ _ = none
    unfold bstep
    rw [hp]
  have h2 := brun_none h1 (rs.length - (k + 1))
  rw [show k + 1 + (rs.length - (k + 1)) = rs.length by omega] at h2
  unfold bar
  rw [h2]
theorem inn_len {h : List Int} {b : Int} {k : Nat} {t : List (List Int)} : ∀ m, (inn h b k t m).length = t.length
  | 0 => rfl
  | m + 1 => by
    show (List.set _ _ _).length = _
    rw [List.length_set, inn_len m]
theorem inn_get {h : List Int} {b : Int} {k : Nat} {t : List (List Int)} : ∀ m i, k + 1 + m ≤ t.length → (inn h b k t m).getD i [] = if k + 1 ≤ i ∧ i < k + 1 + m then elimRow h (en t i k) b k (t.getD i []) else t.getD i []
  | 0, i, _ => by
    rw [if_neg (by omega)]
    rfl
  | m + 1, i, hm => by
    have ih := fun i => inn_get (h := h) (b := b) (k := k) (t := t) m i (by omega)
    have e1 : (inn h b k t m).getD (k + 1 + m) [] = t.getD (k + 1 + m) [] := by rw [ih, if_neg (by omega)]
    have e2 : en (inn h b k t m) (k + 1 + m) k = en t (k + 1 + m) k := by
      unfold en
      rw [e1]
    show (List.set _ _ _).getD i [] = _
    rw [e1, e2]
    by_cases hi : i = k + 1 + m
    · subst hi
      rw [if_pos (by omega), List.getD_eq_getElem?_getD, List.getElem?_set_self (by rw [inn_len]; omega)]
      rfl
    · rw [List.getD_eq_getElem?_getD, List.getElem?_set_ne (fun e => hi e.symm), ← List.getD_eq_getElem?_getD, ih]
      by_cases hc : k + 1 ≤ i ∧ i < k + 1 + m
      · rw [if_pos hc, if_pos (by omega)]
      · rw [if_neg hc, if_neg (by omega)]
theorem fdiv_le {a b : Int} (hb : b ≠ 0) : (a.fdiv b).natAbs ≤ a.natAbs := by
  have pos : ∀ (a b : Int), 0 < b → (a / b).natAbs ≤ a.natAbs := fun a b hb => by
    by_cases ha : 0 ≤ a
    · have h1 := Int.ediv_nonneg ha (by omega : 0 ≤ b)
      have h2 := Int.ediv_le_self b ha
      omega
    · have h1 : a ≤ a / b := Int.le_ediv_of_mul_le hb (by
        have : a * b ≤ a * 1 := Int.mul_le_mul_of_nonpos_left (by omega) (by omega)
        omega)
      have h2 : a / b < 0 := Int.ediv_neg_of_neg_of_pos (by omega) hb
      omega
  by_cases h : 0 < b
  · rw [Int.fdiv_eq_ediv_of_nonneg a (by omega)]
    exact pos a b h
  · have e : a.fdiv b = (-a) / (-b) := by
      rw [← Int.fdiv_eq_ediv_of_nonneg (-a) (by omega), Int.neg_fdiv_neg]
    rw [e]
    have := pos (-a) (-b) (by omega)
    omega
def bk (B0 : Nat) : Nat → Nat
  | 0 => B0
  | k + 1 => 2 * bk B0 k + 1
theorem sm_mono {A B : Nat} (h : A ≤ B) {r : List Int} (s : Sm A r) : Sm B r := fun x hx => Nat.lt_of_lt_of_le (s x hx) (Nat.pow_le_pow_right (by omega) h)
structure BOk (B0 n k : Nat) (x : List (List Int) × Int × Int) : Prop where
  len : x.1.length = n
  row : ∀ i, i < n → (x.1.getD i []).length = n
  sm : ∀ i, Sm (bk B0 k) (x.1.getD i [])
  nz : x.2.2 ≠ 0
  bs : x.2.2.natAbs < 2 ^ bk B0 k
  ss : x.2.1.natAbs ≤ 1
theorem elim_len {h r : List Int} {f b : Int} {k n : Nat} (h1 : h.length = n) (h2 : r.length = n) : (elimRow h f b k r).length = n := by
  unfold elimRow
  simp [h1, h2]
theorem elim_sm {h r : List Int} {f b : Int} {k A : Nat} (hh : Sm A h) (hr : Sm A r) (hf : f.natAbs < 2 ^ A) (hb : b ≠ 0) : Sm (2 * A + 1) (elimRow h f b k r) := fun x hx => by
  unfold elimRow at hx
  obtain ⟨j, _, rfl⟩ := List.mem_map.mp hx
  have h1 := natAbs_mul_lt (getD_sm hh k) (getD_sm hr j)
  have h2 := natAbs_mul_lt hf (getD_sm hh j)
  have h3 := fdiv_le (a := h.getD k 0 * r.getD j 0 - f * h.getD j 0) hb
  have e : 2 ^ (2 * A + 1) = 2 ^ (A + A) + 2 ^ (A + A) := by
    rw [show 2 * A + 1 = (A + A) + 1 by omega, Nat.pow_succ]
    omega
  omega
theorem inn_ok {n k : Nat} {t : List (List Int)} {b s : Int} (hk : k < n) (o : BOk B0 n k (t, s, b)) (hz : en t k k ≠ 0) {s' : Int} (hs : s'.natAbs ≤ 1) : BOk B0 n (k + 1) (inn (t.getD k []) b k t (n - (k + 1)), s', en t k k) where
  len := (inn_len _).trans o.len
  row := fun i hi => by
    have hl : t.length = n := o.len
    show ((inn _ _ _ _ _).getD i []).length = n
    rw [inn_get _ _ (by omega)]
    split
    · exact elim_len (o.row k hk) (o.row i hi)
    · exact o.row i hi
  sm := fun i => by
    have hl : t.length = n := o.len
    show Sm (2 * bk B0 k + 1) ((inn _ _ _ _ _).getD i [])
    rw [inn_get _ _ (by omega)]
    split
    · exact elim_sm (o.sm k) (o.sm i) (getD_sm (o.sm i) k) o.nz
    · exact sm_mono (by omega) (o.sm i)
  nz := hz
  bs := Nat.lt_of_lt_of_le (getD_sm (o.sm k) k) (Nat.pow_le_pow_right (by omega) (show bk B0 k ≤ 2 * bk B0 k + 1 by omega))
  ss := hs
theorem swp_get {t : List (List Int)} {k c n : Nat} (hl : t.length = n) (hk : k < n) (hc : c < n) (i : Nat) : (swp t k c).getD i [] = if i = c then t.getD k [] else if i = k then t.getD c [] else t.getD i [] := by
  unfold swp
  rw [List.getD_eq_getElem?_getD]
  by_cases h1 : c = i
  · subst h1
    rw [List.getElem?_set_self (by rw [List.length_set]; omega), if_pos rfl]
    rfl
  · rw [List.getElem?_set_ne h1, if_neg (fun e => h1 e.symm)]
    by_cases h2 : k = i
    · subst h2
      rw [List.getElem?_set_self (by omega), if_pos rfl]
      rfl
    · rw [List.getElem?_set_ne h2, if_neg (fun e => h2 e.symm), ← List.getD_eq_getElem?_getD]
theorem swp_ok {n k c : Nat} {t : List (List Int)} {b s s' : Int} (hk : k < n) (hc : c < n) (o : BOk B0 n k (t, s, b)) (hs : s'.natAbs ≤ 1) : BOk B0 n k (swp t k c, s', b) where
  len := by show (List.set (List.set _ _ _) _ _).length = n; rw [List.length_set, List.length_set]; exact o.len
  row := fun i hi => by
    show ((swp t k c).getD i []).length = n
    rw [swp_get o.len hk hc]
    split
    · exact o.row k hk
    · split
      · exact o.row c hc
      · exact o.row i hi
  sm := fun i => by
    show Sm _ ((swp t k c).getD i [])
    rw [swp_get o.len hk hc]
    split
    · exact o.sm k
    · split
      · exact o.sm c
      · exact o.sm i
  nz := o.nz
  bs := o.bs
  ss := hs
theorem picks_mem {t : List (List Int)} {k n c : Nat} (h : c ∈ picks t k n) : k ≤ c ∧ c < n ∧ en t c k ≠ 0 := by
  unfold picks at h
  obtain ⟨j, hj, rfl⟩ := List.mem_map.mp h
  obtain ⟨h1, h2⟩ := List.mem_filter.mp hj
  rw [List.mem_range] at h1
  simp at h2
  exact ⟨by omega, by omega, h2⟩
theorem swp_en {t : List (List Int)} {k c n : Nat} (hl : t.length = n) (hk : k < n) (hc : c < n) (hne : c ≠ k) : en (swp t k c) k k = en t c k := by
  unfold en
  rw [swp_get hl hk hc, if_neg (fun e => hne e.symm), if_pos rfl]
theorem bstep_ok {n k : Nat} {x y : List (List Int) × Int × Int} (hk : k < n) (o : BOk B0 n k x) (h : bstep n k x = some y) : BOk B0 n (k + 1) y := by
  obtain ⟨t, s, b⟩ := x
  unfold bstep at h
  cases hp : picks t k n with
  | nil =>
    simp only [hp] at h
    cases h
  | cons c cs =>
    simp only [hp] at h
    obtain ⟨h1, h2, h3⟩ := picks_mem (t := t) (k := k) (n := n) (c := c) (by rw [hp]; simp)
    by_cases hc : c = k
    · rw [if_pos hc] at h
      cases h
      subst hc
      exact inn_ok hk o h3 o.ss
    · rw [if_neg hc] at h
      cases h
      have hs : (-s).natAbs ≤ 1 := by have := o.ss; simpa using this
      exact inn_ok hk (swp_ok hk h2 o hs) (by rw [swp_en o.len hk h2 hc]; exact h3) hs
theorem brun_ok {n : Nat} {x : List (List Int) × Int × Int} (o : BOk B0 n 0 x) : ∀ k y, k ≤ n → brun n x k = some y → BOk B0 n k y
  | 0, y, _, h => by
    cases h
    exact o
  | k + 1, y, hk, h => by
    have h' : (brun n x k).bind (bstep n k) = some y := h
    cases q : brun n x k with
    | none => rw [q] at h'; cases h'
    | some z =>
      rw [q] at h'
      exact bstep_ok hk (brun_ok o k z (by omega) q) h'
end G
namespace G
open PySem PySem.Spec PyProof.Rows L2 Evl
variable {B0 : Nat}
def rDet : List DV → DV → Prop := fun ds r => ∃ (d : DV) (rs : List (List Int)) (B0 : Nat), ds = [d] ∧ IsRows d rs ∧ rs.length ≤ 4 ∧ (∀ x ∈ rs, x.length = rs.length) ∧ (∀ x ∈ rs, Sm B0 x) ∧ 1 ≤ B0 ∧ B0 ≤ 8000000 ∧ r = .int (bar rs)
theorem rows_at {rs : List (List Int)} {Pr : List Int → Prop} (h : ∀ x ∈ rs, Pr x) (i : Nat) (hi : i < rs.length) : Pr (rs.getD i []) := by
  rw [List.getD_eq_getElem?_getD, List.getElem?_eq_getElem hi]
  exact h _ (List.getElem_mem _)
theorem rows_sm {rs : List (List Int)} {B : Nat} (h : ∀ x ∈ rs, Sm B x) (i : Nat) : Sm B (rs.getD i []) := by
  rw [List.getD_eq_getElem?_getD]
  cases q : rs[i]? with
  | none => exact fun x hx => by cases hx
  | some x => exact h x (List.mem_of_getElem? q)
theorem bk4 {k : Nat} (h : k ≤ 4) : bk B0 k ≤ 16 * B0 + 15 := by
  have : k = 0 ∨ k = 1 ∨ k = 2 ∨ k = 3 ∨ k = 4 := by omega
  rcases this with rfl | rfl | rfl | rfl | rfl <;> simp only [bk] <;> omega
theorem bk3 {k : Nat} (h : k ≤ 3) : bk B0 k ≤ 8 * B0 + 7 := by
  have : k = 0 ∨ k = 1 ∨ k = 2 ∨ k = 3 := by omega
  rcases this with rfl | rfl | rfl | rfl <;> simp only [bk] <;> omega
theorem det_start {rs : List (List Int)} (h1 : ∀ x ∈ rs, x.length = rs.length) (h2 : ∀ x ∈ rs, Sm B0 x) (h3 : 1 ≤ B0) : BOk B0 rs.length 0 (rs, 1, 1) :=
  ⟨rfl, fun i hi => rows_at h1 i hi, fun i => rows_sm h2 i, by show (1 : Int) ≠ 0; decide, by show 1 < 2 ^ B0; exact Nat.one_lt_two_pow (by omega), by show (1 : Int).natAbs ≤ 1; decide⟩
theorem map_set_row (t : List (List Int)) (i : Nat) (r : List Int) : (t.map rowL).set i (rowL r) = (t.set i r).map rowL := (List.map_set).symm
end G
namespace G
theorem atI_head {α : Type} {d : α} {ds : List α} : L2.atI (d :: ds) 0 = some d := by
  have := atI_nat (xs := d :: ds) (i := 0) (by simp)
  exact this
end G
set_option Elab.async false
set_option linter.all false
set_option maxRecDepth 100000
namespace G
open PySem PySem.Spec PyProof.Rows L2 Evl
/-- m rows of w items -/
def genM (m w : Nat) (f : Nat → Nat → Int) : List (List Int) := (List.range m).map fun i => (List.range w).map fun j => f i j
theorem genM_len {m w : Nat} {f : Nat → Nat → Int} : (genM m w f).length = m := by simp [genM]
theorem genM_row {m w : Nat} {f : Nat → Nat → Int} : ∀ x ∈ genM m w f, x.length = w := fun x hx => by
  obtain ⟨i, _, rfl⟩ := List.mem_map.mp hx
  simp
theorem genM_at {m w : Nat} {f : Nat → Nat → Int} {i : Nat} (hi : i < m) : (genM m w f).getD i [] = (List.range w).map fun j => f i j := by
  unfold genM
  rw [List.getD_eq_getElem?_getD, List.getElem?_map, List.getElem?_range hi]
  rfl
theorem en_gen {m w : Nat} {f : Nat → Nat → Int} {i j : Nat} (hi : i < m) (hj : j < w) : en (genM m w f) i j = f i j := by
  unfold en
  rw [genM_at hi, List.getD_eq_getElem?_getD, List.getElem?_map, List.getElem?_range hj]
  rfl
theorem genM_sm {m w B : Nat} {f : Nat → Nat → Int} (h : ∀ i j, i < m → j < w → (f i j).natAbs < 2 ^ B) : ∀ x ∈ genM m w f, Sm B x := fun x hx y hy => by
  obtain ⟨i, hi, rfl⟩ := List.mem_map.mp hx
  obtain ⟨j, hj, rfl⟩ := List.mem_map.mp hy
  exact h i j (List.mem_range.mp hi) (List.mem_range.mp hj)
structure GOk (rs : List (List Int)) (w B : Nat) : Prop where
  len : rs.length ≤ 100
  wid : w ≤ 100
  row : ∀ x ∈ rs, x.length = w
  sm : ∀ x ∈ rs, Sm B x
theorem GOk.rowAt {rs : List (List Int)} {w B : Nat} (h : GOk rs w B) {i : Nat} (hi : i < rs.length) : (rs.getD i []).length = w := rows_at h.row i hi
theorem GOk.en {rs : List (List Int)} {w B : Nat} (h : GOk rs w B) (i j : Nat) : (en rs i j).natAbs < 2 ^ B := getD_sm (rows_sm h.sm i) j
theorem GOk.gen {m w B : Nat} {f : Nat → Nat → Int} (hm : m ≤ 100) (hw : w ≤ 100) (h : ∀ i j, i < m → j < w → (f i j).natAbs < 2 ^ B) : GOk (genM m w f) w B := ⟨by rw [genM_len]; exact hm, hw, genM_row, genM_sm h⟩
theorem GOk.mono {rs : List (List Int)} {w A B : Nat} (h : GOk rs w A) (hab : A ≤ B) : GOk rs w B := ⟨h.len, h.wid, h.row, fun x hx => sm_mono hab (h.sm x hx)⟩
def subM (a b : List (List Int)) (w : Nat) := genM a.length w fun i j => en a i j - en b i j
def addM (a b : List (List Int)) (w : Nat) := genM a.length w fun i j => en a i j + en b i j
def negM (a : List (List Int)) (w : Nat) := genM a.length w fun i j => -en a i j
def scaleM (k : Int) (a : List (List Int)) (w : Nat) := genM a.length w fun i j => k * en a i j
def trM (a : List (List Int)) (w : Nat) := genM w a.length fun i j => en a j i
def mulE (a b : List (List Int)) (n i j : Nat) : Int := ((List.range n).map fun k => en a i k * en b k j).sum
def mulM (a b : List (List Int)) (w : Nat) := genM a.length w fun i j => mulE a b b.length i j
def delC (r : List Int) (k : Nat) : List Int := r.take k ++ r.drop (k + 1)
def minorM (rs : List (List Int)) (i k : Nat) : List (List Int) := ((List.range rs.length).filter fun j => !decide (j = i)).map fun j => delC (rs.getD j []) k
def adjE (a : List (List Int)) (i k : Nat) : Int := if (i + k) % 2 = 1 then -bar (minorM a k i) else bar (minorM a k i)
def adjM (a : List (List Int)) (n : Nat) := genM n n fun i k => adjE a i k
theorem lstmap {n : Nat} {f : Nat → Int} : DV.lst ((List.range n).map fun j => .int (f j)) = rowL ((List.range n).map f) := by
  unfold rowL
  rw [List.map_map]
  rfl
theorem genD {m w : Nat} {f : Nat → Nat → Int} : DV.lst ((List.range m).map fun i => rowL ((List.range w).map fun j => f i j)) = .lst ((genM m w f).map rowL) := by
  unfold genM
  rw [List.map_map]
  rfl
/-! ### promises -/
def gridF (rs : List (List Int)) (w : Nat) : List (Str × DV) := [("rows", rowsT rs), ("width", .int w)]
def rMinor : List DV → DV → Prop := fun ds r => ∃ (rs : List (List Int)) (i k : Nat), ds = [rowsT rs, .int i, .int k] ∧ rs.length ≤ 100 ∧ (∀ x ∈ rs, x.length ≤ 100) ∧ r = .lst ((minorM rs i k).map rowT)
def rInit : List DV → List (Str × DV) → Prop := fun ds fs => ∃ (d e : DV) (rs : List (List Int)) (w : Nat), ds = [d, e] ∧ IsRows d rs ∧ rs.length ≤ 1000 ∧ w ≤ 1000000 ∧ (∀ x ∈ rs, x.length = w) ∧ (e = .int w ∨ (e = .non ∧ (rs = [] → w = 0))) ∧ fs = gridF rs w
def rLenG (C : Addr) : List DV → DV → Prop := fun ds r => ∃ rs w, ds = [gridD C rs w] ∧ r = .int (rs.length : Nat)
def rEqG (C : Addr) : List DV → DV → Prop := fun ds r => ∃ a n b m, ds = [gridD C a n, gridD C b m] ∧ a.length ≤ 1000 ∧ b.length ≤ 1000 ∧ (∀ x ∈ a, x.length ≤ 1000) ∧ (∀ x ∈ b, x.length ≤ 1000) ∧ r = .bl (decide (a = b) && decide (n = m))
def rSubG (C : Addr) : List DV → DV → Prop := fun ds r => ∃ a b w B, ds = [gridD C a w, gridD C b w] ∧ GOk a w B ∧ GOk b w B ∧ a.length = b.length ∧ r = gridD C (subM a b w) w
def rMulG (C : Addr) : List DV → DV → Prop := fun ds r => ∃ a b n w A B, ds = [gridD C a n, gridD C b w] ∧ n = b.length ∧ GOk a n A ∧ GOk b w B ∧ A + B ≤ 134217728 ∧ r = gridD C (mulM a b w) w
def rScaled (C : Addr) : List DV → DV → Prop := fun ds r => ∃ (a : List (List Int)) (w : Nat) (k : Int) (A B : Nat), ds = [gridD C a w, .int k] ∧ GOk a w A ∧ k.natAbs < 2 ^ B ∧ B + A ≤ 134217728 ∧ r = gridD C (scaleM k a w) w
def rTrans (C : Addr) : List DV → DV → Prop := fun ds r => ∃ a w B, ds = [gridD C a w] ∧ GOk a w B ∧ r = gridD C (trM a w) a.length
def rIsSq (C : Addr) : List DV → DV → Prop := fun ds r => ∃ a w, ds = [gridD C a w] ∧ r = .bl (decide (a.length = w))
def rDetG (C : Addr) : List DV → DV → Prop := fun ds r => ∃ a w B, ds = [gridD C a w] ∧ GOk a w B ∧ 1 ≤ B ∧ B ≤ 8000000 ∧ a.length = w ∧ w ≤ 4 ∧ r = .int (bar a)
def rAdj (C : Addr) : List DV → DV → Prop := fun ds r => ∃ a w B, ds = [gridD C a w] ∧ GOk a w B ∧ 1 ≤ B ∧ B ≤ 8000000 ∧ a.length = w ∧ w ≤ 4 ∧ r = gridD C (adjM a w) w
/-! ### equality of rows -/
theorem eqv_ints : ∀ a b : List Int, PyData.eqvAll (pys (a.map .int)) (pys (b.map .int)) = decide (a = b)
  | [], [] => by simp [pys, PyData.eqvAll]
  | [], y :: ys => by simp [pys, PyData.eqvAll]
  | x :: xs, [] => by simp [pys, PyData.eqvAll]
  | x :: xs, y :: ys => by
    show (PyData.eqv (.int x) (.int y) && PyData.eqvAll (pys (xs.map .int)) (pys (ys.map .int))) = _
    rw [eqv_ints xs ys]
    show ((x == y) && _) = _
    by_cases h : x = y
    · subst h
      simp
    · simp [h]
theorem eqv_rows : ∀ a b : List (List Int), PyData.eqvAll (pys (a.map rowT)) (pys (b.map rowT)) = decide (a = b)
  | [], [] => by simp [pys, PyData.eqvAll]
  | [], y :: ys => by simp [pys, PyData.eqvAll]
  | x :: xs, [] => by simp [pys, PyData.eqvAll]
  | x :: xs, y :: ys => by
    show (PyData.eqv (.tuple (pys (x.map .int))) (.tuple (pys (y.map .int))) && PyData.eqvAll (pys (xs.map rowT)) (pys (ys.map rowT))) = _
    rw [eqv_rows xs ys]
    show (PyData.eqvAll (pys (x.map .int)) (pys (y.map .int)) && _) = _
    rw [eqv_ints]
    by_cases h : x = y
    · subst h
      simp
    · simp [h]
theorem lay_ints : ∀ a : List Int, PyData.canLayAll0 (pys (a.map .int)) = true ∧ PyData.depthAll (pys (a.map .int)) = 0
  | [] => ⟨rfl, rfl⟩
  | x :: xs => by
    obtain ⟨h1, h2⟩ := lay_ints xs
    refine ⟨?_, ?_⟩
    · show (true && PyData.canLayAll0 (pys (xs.map .int))) = true
      rw [h1]
      rfl
    · show max 0 (PyData.depthAll (pys (xs.map .int))) = 0
      rw [h2]
      rfl
theorem lay_rows : ∀ a : List (List Int), PyData.canLayAll0 (pys (a.map rowT)) = true ∧ PyData.depthAll (pys (a.map rowT)) ≤ 1
  | [] => ⟨rfl, Nat.zero_le _⟩
  | x :: xs => by
    obtain ⟨h1, h2⟩ := lay_rows xs
    obtain ⟨h3, h4⟩ := lay_ints x
    refine ⟨?_, ?_⟩
    · show (PyData.canLayAll0 (pys (x.map .int)) && PyData.canLayAll0 (pys (xs.map rowT))) = true
      rw [h1, h3]
      rfl
    · show max (PyData.depthAll (pys (x.map .int)) + 1) (PyData.depthAll (pys (xs.map rowT))) ≤ 1
      omega
theorem shaped_rows (a : List (List Int)) : SeqAt.shaped (rowsT a).py = true := by
  obtain ⟨h1, h2⟩ := lay_rows a
  show (PyData.canLayAll0 (pys (a.map rowT)) && decide (PyData.depthAll (pys (a.map rowT)) + 1 ≤ 64)) = true
  rw [h1]
  simp
  omega
theorem pl_ints : ∀ a : List Int, pls (a.map .int) = true
  | [] => rfl
  | x :: xs => by show (true && pls (xs.map .int)) = true; rw [pl_ints xs]; rfl
theorem pl_rows : ∀ a : List (List Int), pls (a.map rowT) = true
  | [] => rfl
  | x :: xs => by show (pls (x.map .int) && pls (xs.map rowT)) = true; rw [pl_ints x, pl_rows xs]; rfl
end G
namespace G
open PySem PySem.Spec PyProof.Rows L2 Evl
theorem cut_take (r : List Int) (k : Nat) : cutD (r.map .int) none (some (k : Int)) = (r.take k).map .int := by
  unfold cutD
  rw [HT.sIx_none, HT.sIx_nat, List.drop_zero, Nat.sub_zero, List.length_map, List.map_take]
  by_cases h : k ≤ r.length
  · rw [Nat.min_eq_left h]
  · rw [Nat.min_eq_right (by omega), List.take_of_length_le (by simp), List.take_of_length_le (by simp; omega)]
theorem cut_drop (r : List Int) (k : Nat) : cutD (r.map .int) (some ((k : Int) + 1)) none = (r.drop (k + 1)).map .int := by
  unfold cutD
  rw [show ((k : Int) + 1) = ((k + 1 : Nat) : Int) by omega, HT.sIx_none, HT.sIx_nat, List.length_map, List.map_drop]
  by_cases h : k + 1 ≤ r.length
  · rw [Nat.min_eq_left h, List.take_of_length_le (by simp)]
  · rw [Nat.min_eq_right (by omega), List.drop_of_length_le (by simp), List.drop_of_length_le (by simp; omega)]
    simp
end G
namespace G
open PySem PySem.Spec PyProof.Rows L2 Evl
theorem getD_rowT {a : List (List Int)} {i : Nat} (h : i < a.length) : (a.map rowT).getD i .non = rowT (a.getD i []) := by
  rw [List.getD_eq_getElem?_getD, List.getElem?_map, List.getElem?_eq_getElem h, List.getD_eq_getElem?_getD, List.getElem?_eq_getElem h]
  rfl
theorem getD_rowL {a : List (List Int)} {i : Nat} (h : i < a.length) : (a.map rowL).getD i .non = rowL (a.getD i []) := by
  rw [List.getD_eq_getElem?_getD, List.getElem?_map, List.getElem?_eq_getElem h, List.getD_eq_getElem?_getD, List.getElem?_eq_getElem h]
  rfl
theorem initOf {d : DV} {m : List (List Int)} {w : Nat} (h : IsRows d m) (hl : m.length ≤ 1000) (hw : w ≤ 1000000) (hr : ∀ x ∈ m, x.length = w) : rInit ([d, .int w] ++ []) (gridF m w) := ⟨d, _, m, w, rfl, h, hl, hw, hr, .inl rfl, rfl⟩
theorem row_gen {r : List Int} {n : Nat} (h : r.length = n) : r = (List.range n).map fun j => r.getD j 0 := by
  refine List.ext_getElem (by simp [h]) fun i h1 h2 => ?_
  simp [List.getD_eq_getElem?_getD, List.getElem?_eq_getElem h1]
theorem take_gen {r : List Int} {n k : Nat} (h : r.length = n) (hk : k ≤ n) : r.take k = (List.range k).map fun j => r.getD j 0 := by
  refine List.ext_getElem (by simp; omega) fun i h1 h2 => ?_
  rw [List.length_take] at h1
  have h3 : i < r.length := by omega
  simp [List.getD_eq_getElem?_getD, List.getElem?_eq_getElem h3]
theorem drop_gen {r : List Int} {n k : Nat} (h : r.length = n) (hk : k ≤ n) : r.drop k = (List.range (n - k)).map fun j => r.getD (k + j) 0 := by
  refine List.ext_getElem (by simp [h]) fun i h1 h2 => ?_
  simp at h1
  have h3 : k + i < r.length := by omega
  simp [List.getD_eq_getElem?_getD, List.getElem?_eq_getElem h3]
theorem dot_mul {a b : List (List Int)} {w i j : Nat} (ha : (a.getD i []).length = b.length) (hj : j < w) : dotI (a.getD i []) ((trM b w).getD j []) = mulE a b b.length i j := by
  unfold dotI mulE trM
  rw [genM_at hj, ha, List.length_map, List.length_range, Nat.min_self]
  congr 1
  refine List.map_congr_left fun k hk => ?_
  rw [List.mem_range] at hk
  congr 1
  rw [List.getD_eq_getElem?_getD, List.getElem?_map, List.getElem?_range hk]
  rfl
theorem sum_lt {f : Nat → Int} {B : Nat} : ∀ n, (∀ k, k < n → (f k).natAbs < 2 ^ B) → n ≤ 100 → ((List.range n).map f).sum.natAbs ≤ n * 2 ^ B
  | 0, _, _ => by simp
  | n + 1, h, hn => by
    rw [List.range_succ, List.map_append, List.sum_append]
    have h1 := sum_lt n (fun k hk => h k (by omega)) (by omega)
    have h2 := h n (by omega)
    simp only [List.map_cons, List.map_nil, List.sum_cons, List.sum_nil]
    have h3 : (((List.range n).map f).sum + (f n + 0)).natAbs ≤ ((List.range n).map f).sum.natAbs + (f n).natAbs := by omega
    rw [Nat.add_mul]
    omega
theorem mulE_sm {a b : List (List Int)} {n A B i j : Nat} (ha : ∀ k, (en a i k).natAbs < 2 ^ A) (hb : ∀ k, (en b k j).natAbs < 2 ^ B) (hn : n ≤ 100) : (mulE a b n i j).natAbs < 2 ^ (A + B + 7) := by
  have h := sum_lt (f := fun k => en a i k * en b k j) (B := A + B) n (fun k _ => natAbs_mul_lt (ha k) (hb k)) hn
  unfold mulE
  have e : 2 ^ (A + B + 7) = 128 * 2 ^ (A + B) := by rw [Nat.pow_add]; omega
  have p : 0 < 2 ^ (A + B) := Nat.pow_pos (by omega)
  have : n * 2 ^ (A + B) ≤ 100 * 2 ^ (A + B) := Nat.mul_le_mul_right _ hn
  omega
theorem bar_smk {B0 n : Nat} {rs : List (List Int)} (h1 : ∀ x ∈ rs, x.length = rs.length) (h2 : ∀ x ∈ rs, Sm B0 x) (h3 : 1 ≤ B0) (hn : rs.length = n) : (bar rs).natAbs < 2 ^ (bk B0 n + 1) := by
  unfold bar
  cases h : brun rs.length (rs, 1, 1) rs.length with
  | none =>
    show (0 : Int).natAbs < _
    exact Nat.pow_pos (by omega)
  | some x =>
    have o := brun_ok (det_start h1 h2 h3) _ _ (Nat.le_refl _) h
    have hs := o.ss
    have hb := o.bs
    rw [hn] at hb
    show (x.2.1 * x.2.2).natAbs < _
    rw [Int.natAbs_mul]
    have : x.2.1.natAbs * x.2.2.natAbs ≤ 1 * x.2.2.natAbs := Nat.mul_le_mul_right _ hs
    have e : (2 : Nat) ^ (bk B0 n + 1) = 2 * 2 ^ bk B0 n := by rw [Nat.pow_succ, Nat.mul_comm]
    omega
theorem bar_sm {B0 : Nat} {rs : List (List Int)} (h1 : ∀ x ∈ rs, x.length = rs.length) (h2 : ∀ x ∈ rs, Sm B0 x) (h3 : 1 ≤ B0) (h4 : rs.length ≤ 4) : (bar rs).natAbs < 2 ^ (16 * B0 + 16) :=
  Nat.lt_of_lt_of_le (bar_smk h1 h2 h3 rfl) (Nat.pow_le_pow_right (by omega) (by have := bk4 (B0 := B0) h4; omega))
theorem bar_sm3 {B0 : Nat} {rs : List (List Int)} (h1 : ∀ x ∈ rs, x.length = rs.length) (h2 : ∀ x ∈ rs, Sm B0 x) (h3 : 1 ≤ B0) (h4 : rs.length ≤ 3) : (bar rs).natAbs < 2 ^ (8 * B0 + 8) :=
  Nat.lt_of_lt_of_le (bar_smk h1 h2 h3 rfl) (Nat.pow_le_pow_right (by omega) (by have := bk3 (B0 := B0) h4; omega))
theorem delC_len {r : List Int} {n k : Nat} (h : r.length = n) (hk : k < n) : (delC r k).length = n - 1 := by
  unfold delC
  rw [List.length_append, List.length_take, List.length_drop]
  omega
theorem delC_sm {r : List Int} {k B : Nat} (h : Sm B r) : Sm B (delC r k) := fun x hx => by
  rcases List.mem_append.mp hx with q | q
  · exact h x (List.mem_of_mem_take q)
  · exact h x (List.mem_of_mem_drop q)
theorem filt_len {n i : Nat} (hn : n ≤ 4) (hi : i < n) : ((List.range n).filter fun j => !decide (j = i)).length = n - 1 := by
  have : n = 1 ∨ n = 2 ∨ n = 3 ∨ n = 4 := by omega
  rcases this with rfl | rfl | rfl | rfl
  · have : i = 0 := by omega
    subst this; rfl
  · have : i = 0 ∨ i = 1 := by omega
    rcases this with rfl | rfl <;> rfl
  · have : i = 0 ∨ i = 1 ∨ i = 2 := by omega
    rcases this with rfl | rfl | rfl <;> rfl
  · have : i = 0 ∨ i = 1 ∨ i = 2 ∨ i = 3 := by omega
    rcases this with rfl | rfl | rfl | rfl <;> rfl
theorem minorM_len {rs : List (List Int)} {i k : Nat} (hn : rs.length ≤ 4) (hi : i < rs.length) : (minorM rs i k).length = rs.length - 1 := by
  unfold minorM
  rw [List.length_map, filt_len hn hi]
theorem minorM_mem {rs : List (List Int)} {i k n : Nat} (hr : ∀ x ∈ rs, x.length = n) (hk : k < n) : ∀ x ∈ minorM rs i k, x.length = n - 1 := fun x hx => by
  unfold minorM at hx
  obtain ⟨j, hj, rfl⟩ := List.mem_map.mp hx
  have hj' := List.mem_range.mp (List.mem_filter.mp hj).1
  exact delC_len (rows_at hr j hj') hk
theorem minorM_sm {rs : List (List Int)} {i k B : Nat} (hr : ∀ x ∈ rs, Sm B x) : ∀ x ∈ minorM rs i k, Sm B x := fun x hx => by
  unfold minorM at hx
  obtain ⟨j, hj, rfl⟩ := List.mem_map.mp hx
  exact delC_sm (rows_sm hr j)
theorem adjE_sm {a : List (List Int)} {n i k B : Nat} (h : GOk a n B) (h3 : 1 ≤ B) (hl : a.length = n) (hn : n ≤ 4) (hi : i < n) (hk : k < n) : (adjE a i k).natAbs < 2 ^ (8 * B + 8) := by
  have h1 := minorM_len (rs := a) (i := k) (k := i) (by omega) (by omega)
  have h2 := minorM_mem (i := k) (k := i) h.row hi
  have := bar_sm3 (rs := minorM a k i) (fun x hx => by rw [h1, hl]; exact h2 x hx) (minorM_sm h.sm) h3 (by omega)
  unfold adjE
  split
  · omega
  · exact this
end G
namespace G
open PySem PySem.Spec PyProof.Rows L2 Evl
theorem cut_from (r : List Int) (k : Nat) : cutD (r.map .int) (some (k : Int)) none = (r.drop k).map .int := by
  unfold cutD
  rw [HT.sIx_none, HT.sIx_nat, List.length_map, List.map_drop]
  by_cases h : k ≤ r.length
  · rw [Nat.min_eq_left h, List.take_of_length_le (by simp)]
  · rw [Nat.min_eq_right (by omega), List.drop_of_length_le (by simp), List.drop_of_length_le (by simp; omega)]
    simp
theorem genDT {m w : Nat} {f : Nat → Nat → Int} : DV.lst ((List.range m).map fun i => rowT ((List.range w).map fun j => f i j)) = .lst ((genM m w f).map rowT) := by
  unfold genM
  rw [List.map_map]
  rfl
def blkM (g : List (List Int)) (h : Nat) := genM h h fun i j => en g i j
def sideM (g : List (List Int)) (n h : Nat) := genM h (n - h) fun i j => en g i (h + j)
def tlM (g : List (List Int)) (n h : Nat) := genM (n - h) (n - h) fun i j => en g (h + i) (h + j)
def tailM (g : List (List Int)) (n h : Nat) : List (List Int) := if h = 0 then tlM g n h else
  subM (scaleM (bar (blkM g h)) (tlM g n h) (n - h)) (mulM (mulM (trM (sideM g n h) (n - h)) (adjM (blkM g h) h) h) (sideM g n h) (n - h)) (n - h)
def rTail (C : Addr) : List DV → DV → Prop := fun ds r => ∃ (g : List (List Int)) (n h : Nat), ds = [gridD C g n, .int ((h : Int) + 1)] ∧ h < n ∧ n ≤ 4 ∧ g.length = n ∧ GOk g n 900 ∧ r = gridD C (tailM g n h) (n - h)
/-! ### the law's own defs -/
def nx (l : List Int) (m : Int) : Int := match l with
  | [] => 0
  | x :: _ => x.fmod m
def rNext : List DV → List DV → List DV → DV → Prop := fun s ds s' r => ∃ (l : List Int) (m : Int), s = l.map .int ∧ ds = [.int m] ∧ m ≠ 0 ∧ s' = l.tail.map .int ∧ r = .int (nx l m)
def rsum (n : Nat) (f : Nat → Int) : Int := ((List.range n).map f).sum
theorem rsum_succ {n : Nat} {f : Nat → Int} : rsum (n + 1) f = rsum n f + f n := by
  unfold rsum
  rw [List.range_succ, List.map_append, List.sum_append]
  simp
def normE (g : List (List Int)) (v : List Int) : Int := rsum v.length fun i => rsum v.length fun j => en g i j * v.getD i 0 * v.getD j 0
def rNorm : List DV → DV → Prop := fun ds r => ∃ (g : List (List Int)) (v : List Int), ds = [.lst (g.map rowL), .lst (v.map .int)] ∧ g.length = v.length ∧ (∀ x ∈ g, x.length = v.length) ∧ (∀ x ∈ g, Sm 1000 x) ∧ Sm 1000 v ∧ v.length ≤ 100 ∧ r = .int (normE g v)
def sgn (j : Nat) : Int := if j % 2 = 0 then 1 else -1
def restR (rs : List (List Int)) (j : Nat) : List (List Int) := rs.tail.map fun r => delC r j
/-- the determinant of n + 1 rows -/
def detL : Nat → List (List Int) → Int
  | 0, rs => en rs 0 0
  | n + 1, rs => rsum (n + 2) fun j => sgn j * en rs 0 j * detL n (restR rs j)
def rLDet (n : Nat) : List DV → DV → Prop := fun ds r => ∃ (d : DV) (rs : List (List Int)), ds = [d] ∧ d = .lst (rs.map rowL) ∧ rs.length = n + 1 ∧ (∀ x ∈ rs, x.length = n + 1) ∧ (∀ x ∈ rs, Sm 100 x) ∧ n ≤ 4 ∧ r = .int (detL n rs)
def minorE (g : List (List Int)) (h : Nat) : Int := match h with
  | 0 => 1
  | n + 1 => detL n ((g.take (n + 1)).map fun r => r.take (n + 1))
def rLMin : List DV → DV → Prop := fun ds r => ∃ (g : List (List Int)) (h : Nat), ds = [.lst (g.map rowL), .int h] ∧ h ≤ 4 ∧ h ≤ g.length ∧ (∀ x ∈ g, x.length = g.length) ∧ (∀ x ∈ g, Sm 100 x) ∧ r = .int (minorE g h)
theorem bar_sm' {a : List (List Int)} {n B : Nat} (h : GOk a n B) (h3 : 1 ≤ B) (hl : a.length = n) (hn : n ≤ 4) : (bar a).natAbs < 2 ^ (16 * B + 16) := bar_sm (fun x hx => by rw [h.row x hx, hl]) h.sm h3 (by omega)
theorem detL_sm : ∀ (n : Nat) (rs : List (List Int)), n ≤ 4 → (∀ x ∈ rs, Sm 100 x) → (detL n rs).natAbs < 2 ^ (107 * (n + 1))
  | 0, rs, _, h => by
    have := getD_sm (rows_sm h 0) 0
    exact Nat.lt_of_lt_of_le this (Nat.pow_le_pow_right (by omega) (by omega))
  | n + 1, rs, hn, h => by
    have hr : ∀ j, ∀ x ∈ restR rs j, Sm 100 x := fun j x hx => by
      obtain ⟨r, hr, rfl⟩ := List.mem_map.mp hx
      exact delC_sm (h r (List.mem_of_mem_tail hr))
    have key := sum_lt (f := fun j => sgn j * en rs 0 j * detL n (restR rs j)) (B := 100 + 107 * (n + 1)) (n + 2) (fun j _ => by
      have h1 : (sgn j * en rs 0 j).natAbs < 2 ^ 100 := by
        have q : (en rs 0 j).natAbs < 2 ^ 100 := getD_sm (rows_sm h 0) j
        unfold sgn
        split
        · rw [Int.one_mul]
          exact q
        · rw [Int.neg_mul, Int.one_mul, Int.natAbs_neg]
          exact q
      exact natAbs_mul_lt h1 (detL_sm n _ (by omega) (hr j))) (by omega)
    have e : 2 ^ (107 * (n + 1 + 1)) = 128 * 2 ^ (100 + 107 * (n + 1)) := by
      rw [show 107 * (n + 1 + 1) = 7 + (100 + 107 * (n + 1)) by omega, Nat.pow_add]
    have p : 0 < 2 ^ (100 + 107 * (n + 1)) := Nat.pow_pos (by omega)
    have q : (n + 2) * 2 ^ (100 + 107 * (n + 1)) ≤ 6 * 2 ^ (100 + 107 * (n + 1)) := Nat.mul_le_mul_right _ (by omega)
    show (rsum (n + 2) _).natAbs < _
    unfold rsum
    omega
end G
namespace G
open PySem PySem.Spec PyProof.Rows L2 Evl
theorem restR_len {rs : List (List Int)} {j : Nat} : (restR rs j).length = rs.length - 1 := by
  unfold restR
  rw [List.length_map, List.length_tail]
theorem restR_row {rs : List (List Int)} {n j : Nat} (h : ∀ x ∈ rs, x.length = n) (hj : j < n) : ∀ x ∈ restR rs j, x.length = n - 1 := fun x hx => by
  obtain ⟨r, hr, rfl⟩ := List.mem_map.mp hx
  exact delC_len (h r (List.mem_of_mem_tail hr)) hj
theorem restR_sm {rs : List (List Int)} {j B : Nat} (h : ∀ x ∈ rs, Sm B x) : ∀ x ∈ restR rs j, Sm B x := fun x hx => by
  obtain ⟨r, hr, rfl⟩ := List.mem_map.mp hx
  exact delC_sm (h r (List.mem_of_mem_tail hr))
theorem tail_getD {rs : List (List Int)} {i : Nat} : rs.tail.getD i [] = rs.getD (i + 1) [] := by
  cases rs <;> simp
def NumPre (ds : List DV) : Prop := ∃ ns : List Int, ds = [.lst (ns.map .int)] ∧ ns.length ≤ 63
def NumPost (_ : List DV) (rs : List DV) : Prop := ∃ out : List Int, rs = out.map .int
/-- the Gram matrix of the rows R, its last item more by e -/
def gramE (R : Nat → Nat → Int) (n : Nat) (e : Int) (i j : Nat) : Int := rsum n (fun k => R i k * R j k) + if i + 1 = n ∧ j + 1 = n then e else 0
def gramM (R : Nat → Nat → Int) (n : Nat) (e : Int) := genM n n (gramE R n e)
structure LowR (R : Nat → Nat → Int) (n : Nat) : Prop where
  up : ∀ i j, i < n → i < j → R i j = 0
  sm : ∀ i j, i < n → (R i j).natAbs ≤ 2
def GramPre (s ds : List DV) : Prop := ∃ (l : List Int) (n : Nat), s = l.map .int ∧ ds = [.int n] ∧ 1 ≤ n ∧ n ≤ 4
def GramPost (s ds s' : List DV) (r : DV) : Prop := ∃ (n : Nat) (l' : List Int) (R : Nat → Nat → Int) (e : Int), ds = [.int n] ∧ s' = l'.map .int ∧ LowR R n ∧ 0 ≤ e ∧ e ≤ 2 ∧ r = .lst ((gramM R n e).map rowL)
theorem nx_bound (l : List Int) {m : Int} (h : 0 < m) : 0 ≤ nx l m ∧ nx l m < m := by
  unfold nx
  cases l with
  | nil => exact ⟨Int.le_refl _, h⟩
  | cons x xs => exact ⟨Int.fmod_nonneg_of_pos x h, Int.fmod_lt_of_pos x h⟩
theorem drop_tail (l : List Int) (j : Nat) : (l.drop j).tail = l.drop (j + 1) := by
  rw [List.tail_drop]
end G
namespace G
def rLDetA : List DV → DV → Prop := fun ds r => ∃ n, n ≤ 4 ∧ rLDet n ds r
end G
namespace G
open PySem PySem.Spec PyProof.Rows L2 Evl
structure RowsOk (rs : List (List Int)) (n i : Nat) : Prop where
  len : rs.length = i
  row : ∀ a, a < i → (rs.getD a []).length = n
  up : ∀ a b, a < i → a < b → en rs a b = 0
  sm : ∀ a b, a < i → (en rs a b).natAbs ≤ 2
theorem RowsOk.more {rs : List (List Int)} {n i : Nat} {r : List Int} (o : RowsOk rs n i) (h1 : r.length = n) (h2 : ∀ b, i < b → r.getD b 0 = 0) (h3 : ∀ b, (r.getD b 0).natAbs ≤ 2) : RowsOk (rs ++ [r]) n (i + 1) := by
  have at_ : ∀ a, (rs ++ [r]).getD a [] = if a < i then rs.getD a [] else if a = i then r else [] := fun a => by
    have := o.len
    rw [List.getD_eq_getElem?_getD]
    by_cases h : a < i
    · rw [if_pos h, List.getElem?_append_left (by omega), ← List.getD_eq_getElem?_getD]
    · rw [if_neg h, List.getElem?_append_right (by omega)]
      by_cases h' : a = i
      · rw [if_pos h', show a - rs.length = 0 by omega]
        rfl
      · rw [if_neg h']
        obtain ⟨c, hc⟩ : ∃ c, a - rs.length = c + 1 := ⟨a - rs.length - 1, by omega⟩
        rw [hc]
        rfl
  refine ⟨by rw [List.length_append, o.len]; rfl, fun a ha => ?_, fun a b ha hb => ?_, fun a b ha => ?_⟩
  · rw [at_]
    by_cases h : a < i
    · rw [if_pos h]
      exact o.row a h
    · rw [if_neg h, if_pos (by omega)]
      exact h1
  · unfold en
    rw [at_]
    by_cases h : a < i
    · rw [if_pos h]
      exact o.up a b h hb
    · rw [if_neg h, if_pos (by omega)]
      exact h2 b (by omega)
  · unfold en
    rw [at_]
    by_cases h : a < i
    · rw [if_pos h]
      exact o.sm a b h
    · rw [if_neg h, if_pos (by omega)]
      exact h3 b
/-- a new row -/
def newRow (ys : List Int) (n i : Nat) (x : Int) : List Int := ((List.range i).map fun j => nx (ys.drop j) 3 - 1) ++ [x] ++ (List.range (n - i - 1)).map fun _ => 0
theorem newRow_len {ys : List Int} {n i : Nat} {x : Int} (h : i < n) : (newRow ys n i x).length = n := by
  unfold newRow
  simp
  omega
theorem newRow_up {ys : List Int} {n i : Nat} {x : Int} (b : Nat) (hb : i < b) : (newRow ys n i x).getD b 0 = 0 := by
  unfold newRow
  rw [List.getD_eq_getElem?_getD, List.getElem?_append_right (by simp; omega), List.getElem?_map]
  cases (List.range (n - i - 1))[b - (((List.range i).map fun j => nx (ys.drop j) 3 - 1) ++ [x]).length]? <;> rfl
theorem newRow_sm {ys : List Int} {n i : Nat} {x : Int} (hx : x.natAbs ≤ 2) (b : Nat) : ((newRow ys n i x).getD b 0).natAbs ≤ 2 := by
  rw [List.getD_eq_getElem?_getD]
  cases q : (newRow ys n i x)[b]? with
  | none => decide
  | some y =>
    show y.natAbs ≤ 2
    have hm := List.mem_of_getElem? q
    unfold newRow at hm
    rcases List.mem_append.mp hm with h | h
    · rcases List.mem_append.mp h with h | h
      · obtain ⟨j, _, rfl⟩ := List.mem_map.mp h
        have := nx_bound (ys.drop j) (m := 3) (by decide)
        omega
      · rw [List.mem_singleton.mp h]
        exact hx
    · obtain ⟨_, _, rfl⟩ := List.mem_map.mp h
      decide
theorem zip_set {α β : Type} {ps : List α} {rs : List β} {k : Nat} {p : α} {r : β} (h : ps[k]? = some p) : (ps.zip rs).set k (p, r) = ps.zip (rs.set k r) := by
  refine List.ext_getElem? fun i => ?_
  rw [List.getElem?_set]
  by_cases e : k = i
  · subst e
    rw [if_pos rfl]
    by_cases hl : k < (ps.zip rs).length
    · rw [if_pos hl]
      have h2 : k < rs.length := by rw [List.length_zip] at hl; omega
      exact (List.getElem?_zip_eq_some (z := (p, r)) |>.mpr ⟨h, List.getElem?_set_self h2⟩).symm
    · rw [List.length_zip] at hl
      rw [if_neg (by rw [List.length_zip]; exact hl)]
      exact (List.getElem?_eq_none (by rw [List.length_zip, List.length_set]; omega)).symm
  · rw [if_neg e]
    cases hp : ps[i]? with
    | none =>
      have h1 := List.getElem?_eq_none_iff.mp hp
      rw [List.getElem?_eq_none (by rw [List.length_zip]; omega), List.getElem?_eq_none (by rw [List.length_zip]; omega)]
    | some a =>
      cases hr : rs[i]? with
      | none =>
        have h1 := List.getElem?_eq_none_iff.mp hr
        rw [List.getElem?_eq_none (by rw [List.length_zip]; omega), List.getElem?_eq_none (by rw [List.length_zip, List.length_set]; omega)]
      | some b =>
        have z1 : (ps.zip rs)[i]? = some (a, b) := List.getElem?_zip_eq_some.mpr ⟨hp, hr⟩
        have z2 : (ps.zip (rs.set k r))[i]? = some (a, b) := List.getElem?_zip_eq_some.mpr ⟨hp, by rw [List.getElem?_set_ne e]; exact hr⟩
        rw [z1, z2]
end G
namespace G
open PySem PySem.Spec PyProof.Rows L2 Evl
def growD (R : Nat → Nat → Int) (n i : Nat) : List DV := (List.range n).map fun j => .int (rsum n fun k => R i k * R j k)
theorem gram_0 {R : Nat → Nat → Int} {n : Nat} : ((List.range n).map (growD R n)).map DV.lst = (gramM R n 0).map rowL := by
  unfold gramM genM growD rowL
  rw [List.map_map, List.map_map]
  refine List.map_congr_left fun i _ => ?_
  show DV.lst _ = DV.lst _
  rw [List.map_map]
  congr 1
  refine List.map_congr_left fun j _ => ?_
  show DV.int _ = DV.int _
  congr 1
  show _ = gramE R n 0 i j
  unfold gramE
  split <;> simp
theorem gram_set {R : Nat → Nat → Int} {m : Nat} {e : Int} : (((List.range (m + 1)).map (growD R (m + 1))).set m ((growD R (m + 1) m).set m (.int (rsum (m + 1) (fun k => R m k * R m k) + e)))).map DV.lst = (gramM R (m + 1) e).map rowL := by
  have er : ∀ i, i < m + 1 → (if i = m then (growD R (m + 1) m).set m (.int (rsum (m + 1) (fun k => R m k * R m k) + e)) else growD R (m + 1) i) = ((List.range (m + 1)).map fun j => DV.int (gramE R (m + 1) e i j)) := fun i hi => by
    by_cases h : i = m
    · subst h
      rw [if_pos rfl]
      refine List.ext_getElem (by simp [growD]) fun j h1 h2 => ?_
      rw [List.getElem_set]
      simp only [growD, List.getElem_map, List.getElem_range]
      by_cases hj : i = j
      · subst hj
        rw [if_pos rfl]
        unfold gramE
        rw [if_pos ⟨rfl, rfl⟩]
      · rw [if_neg hj]
        unfold gramE
        rw [if_neg (by omega), Int.add_zero]
    · rw [if_neg h]
      unfold growD
      refine List.map_congr_left fun j _ => ?_
      unfold gramE
      rw [if_neg (by omega), Int.add_zero]
  unfold gramM genM
  refine List.ext_getElem (by simp) fun i h1 h2 => ?_
  simp at h2
  have := er i h2
  simp only [List.getElem_map, List.getElem_set, List.getElem_range]
  unfold rowL
  rw [List.map_map]
  congr 1
  refine Eq.trans ?_ (this.trans ?_)
  · by_cases h : i = m
    · subst h
      simp
    · rw [if_neg h, if_neg (fun z => h z.symm)]
  · rfl
end G
set_option Elab.async false
set_option linter.all false
set_option maxRecDepth 100000
namespace G
open PySem PySem.Spec PyProof.Rows L2 Evl
section
variable {K : PySem.W.Frag} {δ : G.Env} {μ μ' μ'' : Sto} {ta tb : TE}
theorem ex_isBl {a b : Bool} (ha : EX K ta δ μ μ' (.bl a)) (hb : EX K tb δ μ' μ'' (.bl b)) : EX K (tOp (fun x y H Q => ∃ a b, x = .bl a ∧ y = .bl b ∧ Q (.bl (decide (a = b))) H) ta tb) δ μ μ'' (.bl (decide (a = b))) := fun F M σ H s Q q =>
  ha F M σ H s _ fun v H1 e1 s1 r1 => hb F M σ H1 s1 _ fun w H2 e2 s2 r2 => by
    cases r1
    cases r2
    exact ⟨a, b, rfl, rfl, q _ H2 (e1.trans e2) s2 (.bl _)⟩
theorem ex_isNBl {a b : Bool} (ha : EX K ta δ μ μ' (.bl a)) (hb : EX K tb δ μ' μ'' (.bl b)) : EX K (tOp (fun x y H Q => ∃ a b, x = .bl a ∧ y = .bl b ∧ Q (.bl (!decide (a = b))) H) ta tb) δ μ μ'' (.bl (!decide (a = b))) := fun F M σ H s Q q =>
  ha F M σ H s _ fun v H1 e1 s1 r1 => hb F M σ H1 s1 _ fun w H2 e2 s2 r2 => by
    cases r1
    cases r2
    exact ⟨a, b, rfl, rfl, q _ H2 (e1.trans e2) s2 (.bl _)⟩
end
end G
set_option Elab.async false
set_option linter.all false
set_option maxRecDepth 100000
set_option maxHeartbeats 1000000
/-! defs that raise, over data -/
namespace G
open PySem PySem.Spec PyProof.Rows L2 Evl
/-- o.m(..) that may raise -/
def tMeS (C : Addr) (m : Str) (sp : Sp) (E : L2.St → XK) (ta : TE) (t : TA) : TE := fun σ H Q => ta σ H fun x H1 => ∃ a dx fs, x = .ref a ∧ H1 a = some (.ins C dx fs) ∧ fs.lookup m = none ∧ t σ H1 fun vs H2 => sp (x :: vs) H2 Q (E σ)
structure MetX (P : Program) (w : World) (K : PySem.W.Frag) (mg : Str → Option Value) (base : Heap) (k : Nat) (C : Addr) (m : Str) (sp : Sp) : Prop where
  ex : ∃ (f : Addr) (fd : FuncData) (ps : List Str), Cls K C ∧ Meth K C m f ∧ FnOk P w K mg base (L2.CX P w) k f fd ps sp ∧ Binds K fd ps []
structure CalX (P : Program) (w : World) (K : PySem.W.Frag) (mg : Str → Option Value) (base : Heap) (k : Nat) (x : Str) (sp : Sp) : Prop where
  ex : ∃ (f : Addr) (fd : FuncData) (ps : List Str), FnOk P w K mg base (L2.CX P w) k f fd ps sp ∧ mg x = some (.ref f) ∧ PySem.W.keepIn K (.ref f) = true ∧ Binds K fd ps []
section
variable {X : Cx} {k j : Nat} {C : Addr} {x m : Str} {sp : Sp} {W : L2.WX} {p pos apos : Pos} {e o : Expr} {es : List Expr} {ta : TE} {t : TA}
theorem pe_mtX0 {pl : Sem Bool} (c : MetX X.prog X.w X.K X.mg X.base k C m sp) (hr : Room j X.A) (hk : k ≤ j) (tk : L2.Takes X W) (he : PE X o ta)
    (ht : eval (.Call (.Attribute o m apos) [] [] pos) X.env = (do
      let ov ← eval o X.env
      standAt apos.atName
      let (f, first) ← holding [ov] (getMethod ov m pl)
      callWith pos f first (backTo pos (starEach [] X.env)) (backToKw pos (keywordEach [] X.env))) := by rfl) :
    PE X (.Call (.Attribute o m apos) [] [] pos) (tMeS C m sp (WE W) ta tNil) := by
  obtain ⟨f, fd, ps, hc, hm, F, b⟩ := c.ex
  refine ⟨fun pins s σ H Q I h => ?_⟩
  refine PySem.W.methodCall_KW (pl := pl) (thn (he.run pins s σ H _ I h) fun u s1 ⟨x, H1, I1, rx, a, dx, fs, ex, ea, l, q⟩ => ?_) ht
  subst ex
  obtain rfl : u = Value.ref a := rx
  refine getmeth_ok I1 ea hc hm l ?_
  exact PySem.W.callWith_K0 (first := [.ref a]) I1.kIn hm.kp (run_fnS (us := [.ref a]) (vs := [.ref a]) F (hr.mono hk) b (passAt tk σ) I1 (.cons rfl .nil) q)
theorem pe_cX (c : CalX X.prog X.w X.K X.mg X.base k x sp) (hr : Room j X.A) (hk : k ≤ j) (tk : L2.Takes X W) (hg : Gl X x) (ha : PA X (e :: es) t)
    (hdb : (x == ("__debug__" : Str)) = false := by decide) (he : starEach (e :: es) X.env = (false, eval e X.env) :: starEach es X.env := by rfl) (hpl : (backTo pos (starEach es X.env)).any (·.1) = false := by rfl) :
    PE X (.Call (.Name x p) (e :: es) [] pos) (tCallS sp (WE W) t) := by
  obtain ⟨f, fd, ps, F, hm, kp, b⟩ := c.ex
  exact pe_callS F (hr.mono hk) hg hm kp b (fun σ => passAt tk σ) ha hdb he hpl
end
/-- arguments for which the class at R is raised, its fields told -/
def spF (K : PySem.W.Frag) (R : Addr) (Pre : List DV → List (Str × V) → Prop) : Sp := fun vs H _ E => ∃ M ds, (∀ a ∈ M, H a ≠ none) ∧ RpAll K (hid M H) vs ds ∧ ∃ fs, Pre ds fs ∧ ∀ d H', H d = none → Ex H H' → H' d = some (.xd fs) → E (.ref R) (some d) H'
/-- the same, no fields -/
def spM (K : PySem.W.Frag) (R : Addr) (Pre : List DV → Prop) : Sp := fun vs H _ E => ∃ M ds, (∀ a ∈ M, H a ≠ none) ∧ RpAll K (hid M H) vs ds ∧ Pre ds ∧ ∀ H', Ex H H' → E (.ref R) none H'
/-- Refused(reason): what __init__ does -/
def spRI (R : Addr) (f : Str) : Sp := fun vs H Q E => ∃ (a : Addr) (x : Str), vs = [.ref a, .str x] ∧ x.length ≤ 1000 ∧ H a = some (exo a R none) ∧ ∀ d, H d = none → d ≠ a → Q .non (upd (upd H d (exd d [(f, .str x)])) a (exo a R (some d)))
section
variable {P : Program} {w : World} {K : PySem.W.Frag} {mg : Str → Option Value} {base : Heap}
/-- the start of a def that raises: its state told by data -/
theorem okX {x qual : Str} {st : Stmt} {f : Addr} {fd : FuncData} {N ps : List Str} {k : Nat} {R : Addr} {Pre : List DV → List (Str × V) → Prop} (Fn : Fun K x qual st f fd) (S : FnScope N ps (defScope st)) (len : ∀ ds fs, Pre ds fs → ds.length = ps.length)
    (body : ∀ (cdv : Value) (A : Around) (outer : List PySem.Env) (s : Shared) (H : Hp) (E : XK), Room k (A.deeper (envOfC qual (defScope st) s.heap.objs.size f cdv)) →
      ∃ t, PSs (cxOf (L2.CX P w) P w K mg base N qual (defScope st) f cdv A outer s H E) (defBody st) t ∧ ∀ F M ds fs σ D, Pre ds fs → Sta K F M (startD N.length ds) [] σ H →
        (∀ d H', F d = none → Ex F H' → H' d = some (.xd fs) → E (.ref R) (some d) H') → t D σ H) : FnOk P w K mg base (L2.CX P w) (k + 1) f fd ps (spF K R Pre) := by
  refine Fn.okX S (fun vs H Q E ⟨M, ds, _, h1, fs, h2, _⟩ => by rw [h1.length]; exact len _ _ h2) fun cdv A outer s H vs Q E hr ⟨M, ds, al, ra, fs, hR, kq⟩ => ?_
  obtain ⟨t, h1, h2⟩ := body cdv A outer s H E hr
  exact ⟨t, h1, h2 H M ds fs _ _ hR (sta_start al ra) kq⟩
end
end G
set_option Elab.async false
set_option linter.all false
set_option maxRecDepth 100000
namespace G
open PySem PySem.Spec PyProof.Rows L2 Evl
def rSlE (K : PySem.W.Frag) : V → Option Int → Option Int → Hp → VK → Prop := fun x lo hi H Q => rSlL K x lo hi H Q ∨ rSlA K x lo hi H Q
theorem sl_eitherK {X : Cx} {K : PySem.W.Frag} (h : X.K = K := by rfl) : SlR X (rSlE K) := SlR.or (sl_listK h) (sl_tupK h)
section
variable {K : PySem.W.Frag} {δ : Env} {μ μ' : Sto} {te : TE} {d : DV} {ds : List DV}
/-- x[lo:hi], x a list or a tuple -/
theorem ex_slE {tl th : TO} {lo hi : Option Int} (h : EX K te δ μ μ' d) (sq : Seq d ds) (h1 : OX K tl δ μ' lo) (h2 : OX K th δ μ' hi) : ∃ e, Seq e (cutD ds lo hi) ∧ EX K (tSl (rSlE K) te tl th) δ μ μ' e := by
  cases sq with
  | lst =>
    refine ⟨_, .lst _, fun F M σ H s Q q => ?_⟩
    refine h F M σ H s _ fun v H1 e1 s1 r1 => h1 F M σ H1 s1 _ fun H2 e2 s2 => h2 F M σ H2 s2 _ fun H3 e3 s3 => ?_
    cases r1 with
    | lst g1 g2 =>
      refine .inl ⟨_, _, rfl, ex_l ((e2.trans e3).trans hid_sub) g1, fun p hp => ?_⟩
      have e13 := (e1.trans e2).trans e3
      have hpM := s3.fresh hp
      have z := (s3.newL hp ((g2.mono (e2.trans e3)).cut lo hi)).still hpM
      exact q _ _ (e13.trans (new_ex s3 hp)) z.1 z.2
  | tup =>
    refine ⟨_, .tup _, fun F M σ H s Q q => ?_⟩
    refine h F M σ H s _ fun v H1 e1 s1 r1 => h1 F M σ H1 s1 _ fun H2 e2 s2 => h2 F M σ H2 s2 _ fun H3 e3 s3 => ?_
    cases r1 with
    | @tup a xs _ g1 g2 =>
      have e13 := (e1.trans e2).trans e3
      have g3 := g2.mono (e2.trans e3)
      refine .inr ⟨_, _, rfl, ex_t ((e2.trans e3).trans hid_sub) g1, fun hw => ?_, fun _ p hp => ?_⟩
      · have hc : cutD ds lo hi = ds := by
          unfold cutD
          rw [← g2.length, hw.1, hw.2, List.drop_zero, Nat.sub_zero, g2.length, List.take_length]
        refine q _ H3 e13 s3 ?_
        rw [hc]
        exact .tup (ex_t (e2.trans e3) g1) g3
      · exact q _ _ (e13.trans (new_ex s3 hp)) (s3.mono (Ex.new hp)) (.tup (st_of (hid_get (s3.fresh hp) upd_same)) ((g3.cut lo hi).mono (new_ex s3 hp)))
end
end G
set_option Elab.async false
set_option linter.all false
set_option maxRecDepth 100000
/-! states of a running def by slots: no address, no store in sight; judgements of expressions over them -/
namespace G
open PySem PySem.Spec PyProof.Rows L2 Evl
/-- a name's content: unbound or forgotten, data, a mutable list of the def's own -/
inductive SL where
  | un
  | dat (d : DV)
  | own (ds : List DV)
structure SRel (S : List SL) (A : Nat → Addr) (δ : Env) (μ : Sto) : Prop where
  len : δ.length = S.length
  nd : (μ.map Prod.fst).Nodup
  dat : ∀ (i : Nat) (d : DV), S[i]? = some (.dat d) → δ[i]? = some (some d)
  own : ∀ (i : Nat) (ds : List DV), S[i]? = some (.own ds) → δ[i]? = some (some (.box (A i))) ∧ (A i, ds) ∈ μ
  inj : ∀ (i j : Nat) (ds es : List DV), S[i]? = some (.own ds) → S[j]? = some (.own es) → A i = A j → i = j
/-- not the def's own list -/
def noOwn (o : Option SL) : Bool := match o with
  | some (.own _) => false
  | _ => true
def EXp (K : PySem.W.Frag) (te : TE) (S : List SL) (d : DV) : Prop := ∀ A δ μ, SRel S A δ μ → EX K te δ μ μ d
def TXp (K : PySem.W.Frag) (tt : TT) (S : List SL) (b : Bool) : Prop := ∀ A δ μ, SRel S A δ μ → TX K tt δ μ μ b
def AXp (K : PySem.W.Frag) (ta : TA) (S : List SL) (ds : List DV) : Prop := ∀ A δ μ, SRel S A δ μ → AX K ta δ μ μ ds
def LXp (K : PySem.W.Frag) (te : TE) (S : List SL) (ds : List DV) : Prop := ∀ A δ μ, SRel S A δ μ → LX K te δ μ μ ds
def OXp (K : PySem.W.Frag) (to : TO) (S : List SL) (o : Option Int) : Prop := ∀ A δ μ, SRel S A δ μ → OX K to δ μ o
/-- a sequence, a list of the def's own too -/
def ItS (K : PySem.W.Frag) (te : TE) (S : List SL) (ds : List DV) : Prop := ∀ A δ μ, SRel S A δ μ → ∃ d, EX K te δ μ μ d ∧ Items μ d ds
def SqS (K : PySem.W.Frag) (te : TE) (S : List SL) (ds : List DV) : Prop := ∃ d, Seq d ds ∧ EXp K te S d
def OwnLe (S S' : List SL) : Prop := ∀ (i : Nat) (ds : List DV), S'[i]? = some (.own ds) → ∃ es : List DV, S[i]? = some (.own es)
/-- the state changed on the way: S to S' -/
def EXq (K : PySem.W.Frag) (te : TE) (S S' : List SL) (d : DV) : Prop := OwnLe S S' ∧ ∀ A δ μ, SRel S A δ μ → ∃ μ', SRel S' A δ μ' ∧ EX K te δ μ μ' d
def TXq (K : PySem.W.Frag) (tt : TT) (S S' : List SL) (b : Bool) : Prop := OwnLe S S' ∧ ∀ A δ μ, SRel S A δ μ → ∃ μ', SRel S' A δ μ' ∧ TX K tt δ μ μ' b
def AXq (K : PySem.W.Frag) (ta : TA) (S S' : List SL) (ds : List DV) : Prop := OwnLe S S' ∧ ∀ A δ μ, SRel S A δ μ → ∃ μ', SRel S' A δ μ' ∧ AX K ta δ μ μ' ds
def LXq (K : PySem.W.Frag) (te : TE) (S S' : List SL) (ds : List DV) : Prop := OwnLe S S' ∧ ∀ A δ μ, SRel S A δ μ → ∃ μ', SRel S' A δ μ' ∧ LX K te δ μ μ' ds
/-! ### encodings -/
abbrev eI : Int → DV := .int
abbrev eB : Bool → DV := .bl
abbrev eS : Str → DV := .str
abbrev eN : Unit → DV := fun _ => .non
abbrev eD : DV → DV := fun d => d
abbrev eL {α : Type} (e : α → DV) (xs : List α) : DV := .lst (xs.map e)
abbrev eT {α : Type} (e : α → DV) (xs : List α) : DV := .tup (xs.map e)
abbrev eP {α β : Type} (e : α → DV) (f : β → DV) (x : α × β) : DV := .tup [e x.1, f x.2]
abbrev eP3 {α β γ : Type} (e : α → DV) (f : β → DV) (g : γ → DV) (x : α × β × γ) : DV := .tup [e x.1, f x.2.1, g x.2.2]
/-! ### guarded steps -/
open Classical in
noncomputable def mulO (a b : Int) : Option Int := if CMulB a b then some (a * b) else none
def fdivO (a b : Int) : Option Int := if b = 0 then none else some (a.fdiv b)
def modO (a b : Int) : Option Int := if b = 0 then none else some (a.fmod b)
def guardO (p : Prop) [Decidable p] {α : Type} (x : α) : Option α := if p then some x else none
@[irreducible] def catO {α : Type} (xs ys : List α) : Option (List α) := if xs.length + ys.length ≤ 100000 then some (xs ++ ys) else none
@[irreducible] def appO {α : Type} (xs : List α) (y : α) : Option (List α) := if xs.length < 100000 then some (xs ++ [y]) else none
def rng (n : Int) : List Int := (List.range n.toNat).map fun (i : Nat) => (i : Int)
def rng2 (m n : Int) : List Int := (List.range (n - m).toNat).map fun (i : Nat) => m + (i : Int)
@[irreducible] def rngO (n : Int) : Option (List Int) := if -(2 ^ 62) ≤ n ∧ n < 2 ^ 62 then some (rng n) else none
@[irreducible] def rng2O (m n : Int) : Option (List Int) := if (-(2 ^ 62) ≤ m ∧ m < 2 ^ 62) ∧ -(2 ^ 62) ≤ n ∧ n < 2 ^ 62 then some (rng2 m n) else none
def cutL {α : Type} (xs : List α) (lo hi : Option Int) : List α := (xs.drop (HT.sIx xs.length 0 lo)).take (HT.sIx xs.length xs.length hi - HT.sIx xs.length 0 lo)
def setO {α : Type} (xs : List α) (i : Int) (y : α) : Option (List α) := match ixN xs.length i with
  | some k => some (xs.set k y)
  | none => none
def mapO {α β : Type} (f : α → Option β) : List α → Option (List β)
  | [] => some []
  | x :: xs => (f x).bind fun y => (mapO f xs).bind fun ys => some (y :: ys)
def filO {α : Type} (c : α → Option Bool) : List α → Option (List α)
  | [] => some []
  | x :: xs => (c x).bind fun b => (filO c xs).bind fun ys => some (if b then x :: ys else ys)
/-- [f x for x in xs if c x] -/
@[irreducible] def lcO {α β : Type} (c : α → Option Bool) (f : α → Option β) (xs : List α) : Option (List β) := if xs.length ≤ 100000 then (filO c xs).bind fun ys => mapO f ys else none
@[irreducible] def lcA {α β : Type} (f : α → Option β) (xs : List α) : Option (List β) := if xs.length ≤ 100000 then mapO f xs else none
theorem bdO {α β : Type} {m : Option α} {k : α → Option β} {r : β} (h : m.bind k = some r) : ∃ x, m = some x ∧ k x = some r := by
  cases m with
  | none => cases h
  | some x => exact ⟨x, rfl, h⟩
section
variable {K : PySem.W.Frag} {S S1 S2 S3 : List SL} {ta tb tc te : TE} {t u : TT} {d e d1 d2 : DV} {ds es : List DV} {i j : Nat} {tr : TA}
theorem ep_bin (f : ∀ δ μ, EX K ta δ μ μ d1 → EX K tb δ μ μ d2 → EX K te δ μ μ d) (ha : EXp K ta S d1) (hb : EXp K tb S d2) : EXp K te S d := fun A δ μ r => f δ μ (ha A δ μ r) (hb A δ μ r)
theorem ep_un (f : ∀ δ μ, EX K ta δ μ μ d1 → EX K te δ μ μ d) (ha : EXp K ta S d1) : EXp K te S d := fun A δ μ r => f δ μ (ha A δ μ r)
theorem ep_var (h : S[i]? = some (.dat d)) : EXp K (tVar i) S d := fun A δ μ r => ex_var (r.dat i d h)
theorem ep_int {n : Int} : EXp K (tC (.int n)) S (.int n) := fun A δ μ r => ex_int
theorem ep_bl {n : Bool} : EXp K (tC (.bl n)) S (.bl n) := fun A δ μ r => ex_bl
theorem ep_str {n : Str} : EXp K (tC (.str n)) S (.str n) := fun A δ μ r => ex_str
theorem ep_non : EXp K (tC .non) S .non := fun A δ μ r => ex_non
theorem EXp.is (h : EXp K te S d) (q : d = e) : EXp K te S e := q ▸ h
theorem ep_of {α : Type} {f : α → DV} {a b : α} (h : some a = some b) (p : EXp K te S (f a)) : EXp K te S (f b) := by cases h; exact p
variable {a b : Int}
theorem ep_add (ha : EXp K ta S (.int a)) (hb : EXp K tb S (.int b)) : EXp K (tOp (rI0 fun i j => .int (i + j)) ta tb) S (.int (a + b)) := ep_bin (fun _ _ => ex_add) ha hb
theorem ep_sub (ha : EXp K ta S (.int a)) (hb : EXp K tb S (.int b)) : EXp K (tOp (rI0 fun i j => .int (i - j)) ta tb) S (.int (a - b)) := ep_bin (fun _ _ => ex_sub) ha hb
theorem ep_mul {c : Int} (ha : EXp K ta S (.int a)) (hb : EXp K tb S (.int b)) (h : mulO a b = some c) : EXp K (tOp (rI CMulB fun i j => .int (i * j)) ta tb) S (.int c) := by
  unfold mulO at h
  split at h
  · rename_i hc
    cases h
    exact ep_bin (fun _ _ p q => ex_mul p q hc) ha hb
  · cases h
theorem ep_fdiv {c : Int} (ha : EXp K ta S (.int a)) (hb : EXp K tb S (.int b)) (h : fdivO a b = some c) : EXp K (tOp (rI CNz fun i j => .int (i.fdiv j)) ta tb) S (.int c) := by
  unfold fdivO at h
  split at h
  · cases h
  · rename_i hc
    cases h
    exact ep_bin (fun _ _ p q => ex_fdiv p q hc) ha hb
theorem ep_mod {c : Int} (ha : EXp K ta S (.int a)) (hb : EXp K tb S (.int b)) (h : modO a b = some c) : EXp K (tOp (rI (fun _ j => j ≠ 0) fun i j => .int (i.fmod j)) ta tb) S (.int c) := by
  unfold modO at h
  split at h
  · cases h
  · rename_i hc
    cases h
    exact ep_bin (fun _ _ p q => ex_mod p q hc) ha hb
theorem ep_neg (ha : EXp K ta S (.int a)) : EXp K (tUn (rU fun i => .int (-i)) ta) S (.int (-a)) := ep_un (fun _ _ => ex_neg) ha
theorem ep_lt (ha : EXp K ta S (.int a)) (hb : EXp K tb S (.int b)) : EXp K (tOp (rI0 fun i j => .bl (decide (i < j))) ta tb) S (.bl (decide (a < b))) := ep_bin (fun _ _ => ex_lt) ha hb
theorem ep_le (ha : EXp K ta S (.int a)) (hb : EXp K tb S (.int b)) : EXp K (tOp (rI0 fun i j => .bl (decide (i ≤ j))) ta tb) S (.bl (decide (a ≤ b))) := ep_bin (fun _ _ => ex_le) ha hb
theorem ep_gt (ha : EXp K ta S (.int a)) (hb : EXp K tb S (.int b)) : EXp K (tOp (rI0 fun i j => .bl (decide (j < i))) ta tb) S (.bl (decide (b < a))) := ep_bin (fun _ _ => ex_gt) ha hb
theorem ep_ge (ha : EXp K ta S (.int a)) (hb : EXp K tb S (.int b)) : EXp K (tOp (rI0 fun i j => .bl (decide (j ≤ i))) ta tb) S (.bl (decide (b ≤ a))) := ep_bin (fun _ _ => ex_ge) ha hb
theorem ep_eqI (ha : EXp K ta S (.int a)) (hb : EXp K tb S (.int b)) : EXp K (tOp rEq ta tb) S (.bl (decide (a = b))) := ep_bin (fun _ _ => ex_eqI) ha hb
theorem ep_neI (ha : EXp K ta S (.int a)) (hb : EXp K tb S (.int b)) : EXp K (tOp rNe ta tb) S (.bl (!decide (a = b))) := ep_bin (fun _ _ => ex_neI) ha hb
theorem ep_eqB {a b : Bool} (ha : EXp K ta S (.bl a)) (hb : EXp K tb S (.bl b)) : EXp K (tOp rEq ta tb) S (.bl (decide (a = b))) := ep_bin (fun _ _ => ex_eqB) ha hb
theorem ep_neB {a b : Bool} (ha : EXp K ta S (.bl a)) (hb : EXp K tb S (.bl b)) : EXp K (tOp rNe ta tb) S (.bl (!decide (a = b))) := ep_bin (fun _ _ => ex_neB) ha hb
theorem ep_eqS {a b : Str} (ha : EXp K ta S (.str a)) (hb : EXp K tb S (.str b)) : EXp K (tOp rEq ta tb) S (.bl (decide (a = b))) := ep_bin (fun _ _ => ex_eqS) ha hb
theorem ep_neS {a b : Str} (ha : EXp K ta S (.str a)) (hb : EXp K tb S (.str b)) : EXp K (tOp rNe ta tb) S (.bl (!decide (a = b))) := ep_bin (fun _ _ => ex_neS) ha hb
theorem ep_eqD (ha : EXp K ta S d) (hb : EXp K tb S e) (p1 : d.pl = true) (p2 : e.pl = true) (s1 : SeqAt.shaped d.py = true) (s2 : SeqAt.shaped e.py = true) : EXp K (tOp (rEqD K) ta tb) S (.bl (PyData.eqv d.py e.py)) := ep_bin (fun _ _ p q => ex_eqD p q p1 p2 s1 s2) ha hb
theorem ep_neD (ha : EXp K ta S d) (hb : EXp K tb S e) (p1 : d.pl = true) (p2 : e.pl = true) (s1 : SeqAt.shaped d.py = true) (s2 : SeqAt.shaped e.py = true) : EXp K (tOp (rNeD K) ta tb) S (.bl (!PyData.eqv d.py e.py)) := ep_bin (fun _ _ p q => ex_neD p q p1 p2 s1 s2) ha hb
theorem ep_isN (ha : EXp K ta S d) : EXp K (tOp (fun x y H Q => y = V.non ∧ Q (.bl (decide (x = V.non))) H) ta (tC .non)) S (.bl d.isN) := ep_un (fun _ _ => ex_isN) ha
theorem ep_notN (ha : EXp K ta S d) : EXp K (tOp (fun x y H Q => y = V.non ∧ Q (.bl (!decide (x = V.non))) H) ta (tC .non)) S (.bl (!d.isN)) := ep_un (fun _ _ => ex_notN) ha
theorem ep_isBl {a b : Bool} (ha : EXp K ta S (.bl a)) (hb : EXp K tb S (.bl b)) : EXp K (tOp (fun x y H Q => ∃ a b, x = .bl a ∧ y = .bl b ∧ Q (.bl (decide (a = b))) H) ta tb) S (.bl (decide (a = b))) := ep_bin (fun _ _ => ex_isBl) ha hb
theorem ep_isNBl {a b : Bool} (ha : EXp K ta S (.bl a)) (hb : EXp K tb S (.bl b)) : EXp K (tOp (fun x y H Q => ∃ a b, x = .bl a ∧ y = .bl b ∧ Q (.bl (!decide (a = b))) H) ta tb) S (.bl (!decide (a = b))) := ep_bin (fun _ _ => ex_isNBl) ha hb
theorem ep_andV {a b : Bool} (h1 : EXp K ta S (.bl a)) (h2 : a = true → EXp K tb S (.bl b)) : EXp K (tAndV ta tb) S (.bl (a && b)) := fun A δ μ r => ex_andV (h1 A δ μ r) fun q => h2 q A δ μ r
theorem ep_orV {a b : Bool} (h1 : EXp K ta S (.bl a)) (h2 : a = false → EXp K tb S (.bl b)) : EXp K (tOrV ta tb) S (.bl (a || b)) := fun A δ μ r => ex_orV (h1 A δ μ r) fun q => h2 q A δ μ r
theorem ep_notV {a : Bool} (h1 : EXp K ta S (.bl a)) : EXp K (tNotV ta) S (.bl (!a)) := ep_un (fun _ _ => ex_notV) h1
/-- the right side partial: m is what it comes to -/
theorem ep_andM {a r : Bool} {m : Option Bool} (h1 : EXp K ta S (.bl a)) (h : (if a then m else some false) = some r) (h2 : a = true → ∀ b, m = some b → EXp K tb S (.bl b)) : EXp K (tAndV ta tb) S (.bl r) := by
  cases a with
  | true => exact EXp.is (ep_andV (b := r) h1 fun q => h2 q r h) rfl
  | false =>
    cases h
    exact EXp.is (ep_andV (b := false) h1 fun q => by cases q) rfl
theorem ep_orM {a r : Bool} {m : Option Bool} (h1 : EXp K ta S (.bl a)) (h : (if a then some true else m) = some r) (h2 : a = false → ∀ b, m = some b → EXp K tb S (.bl b)) : EXp K (tOrV ta tb) S (.bl r) := by
  cases a with
  | false => exact EXp.is (ep_orV (b := r) h1 fun q => h2 q r h) rfl
  | true =>
    cases h
    exact EXp.is (ep_orV (b := true) h1 fun q => by cases q) rfl
theorem tp_test {b : Bool} (h : EXp K te S (.bl b)) : TXp K (tTest te) S b := fun A δ μ r => tx_test (h A δ μ r)
theorem tp_val {b : Bool} (h : EXp K te S (.bl b)) : TXp K (tB te) S b := fun A δ μ r => tx_val (h A δ μ r)
theorem tp_not {b : Bool} (h : TXp K t S b) : TXp K (tNot t) S (!b) := fun A δ μ r => tx_not (h A δ μ r)
theorem tp_and {a b : Bool} (h1 : TXp K t S a) (h2 : a = true → TXp K u S b) : TXp K (tAnd t u) S (a && b) := fun A δ μ r => tx_and (h1 A δ μ r) fun q => h2 q A δ μ r
theorem tp_or {a b : Bool} (h1 : TXp K t S a) (h2 : a = false → TXp K u S b) : TXp K (tOr t u) S (a || b) := fun A δ μ r => tx_or (h1 A δ μ r) fun q => h2 q A δ μ r
theorem TXp.is {a b : Bool} (h : TXp K t S a) (q : a = b) : TXp K t S b := q ▸ h
theorem tp_andM {a r : Bool} {m : Option Bool} (h1 : TXp K t S a) (h : (if a then m else some false) = some r) (h2 : a = true → ∀ b, m = some b → TXp K u S b) : TXp K (tAnd t u) S r := by
  cases a with
  | true => exact TXp.is (tp_and (b := r) h1 fun q => h2 q r h) rfl
  | false =>
    cases h
    exact TXp.is (tp_and (b := false) h1 fun q => by cases q) rfl
theorem tp_orM {a r : Bool} {m : Option Bool} (h1 : TXp K t S a) (h : (if a then some true else m) = some r) (h2 : a = false → ∀ b, m = some b → TXp K u S b) : TXp K (tOr t u) S r := by
  cases a with
  | false => exact TXp.is (tp_or (b := r) h1 fun q => h2 q r h) rfl
  | true =>
    cases h
    exact TXp.is (tp_or (b := true) h1 fun q => by cases q) rfl
theorem tp_yes : TXp K tYes S true := fun A δ μ r F M σ H s Q q => q H (Ex.refl _) s
/-- a if c else b: m, m' what the sides come to -/
theorem ep_ifM {α : Type} {f : α → DV} {c : Bool} {m m' : Option α} {x : α} (h1 : TXp K t S c) (h : (if c then m else m') = some x) (h2 : c = true → ∀ y, m = some y → EXp K ta S (f y)) (h3 : c = false → ∀ y, m' = some y → EXp K tb S (f y)) : EXp K (tIf t ta tb) S (f x) := fun A δ μ r => by
  refine ex_if (h1 A δ μ r) (fun q => ?_) (fun q => ?_)
  · subst q
    exact h2 rfl x h A δ μ r
  · subst q
    exact h3 rfl x h A δ μ r
/-! arguments, displays -/
theorem ap_nil : AXp K tNil S [] := fun A δ μ r => ax_nil
theorem ap_cons (h : EXp K ta S d) (hr : AXp K tr S ds) : AXp K (tCons ta tr) S (d :: ds) := fun A δ μ r => ax_cons (h A δ μ r) (hr A δ μ r)
theorem ep_tup {ta : TA} (h : AXp K ta S ds) (hl : ds.length ≤ 100000 := by simp) : EXp K (tTup ta) S (.tup ds) := fun A δ μ r => ex_tup (h A δ μ r) hl
theorem lp_lst {ta : TA} (h : AXp K ta S ds) (hl : ds.length ≤ 100000 := by simp) : LXp K (tLst ta) S ds := fun A δ μ r => lx_lst (h A δ μ r) hl
theorem LXp.ex (h : LXp K te S ds) : EXp K te S (.lst ds) := fun A δ μ r => (h A δ μ r).ex
theorem LXp.is (h : LXp K te S ds) (q : ds = es) : LXp K te S es := q ▸ h
/-! sequences -/
theorem ip_lst (h : EXp K te S (.lst ds)) : ItS K te S ds := fun A δ μ r => ⟨_, h A δ μ r, .lst _⟩
theorem ip_tup (h : EXp K te S (.tup ds)) : ItS K te S ds := fun A δ μ r => ⟨_, h A δ μ r, .tup _⟩
theorem ip_own (h : S[i]? = some (.own ds)) : ItS K (tVar i) S ds := fun A δ μ r => by
  obtain ⟨h1, h2⟩ := r.own i ds h
  obtain ⟨k, hk⟩ := List.getElem?_of_mem h2
  exact ⟨_, ex_var h1, .box hk⟩
theorem ip_new (h : LXp K te S ds) : ItS K te S ds := ip_lst h.ex
theorem ip_sq (h : SqS K te S ds) : ItS K te S ds := fun A δ μ r => by
  obtain ⟨d, sq, e⟩ := h
  exact ⟨d, e A δ μ r, sq.items⟩
theorem sq_lst (h : EXp K te S (.lst ds)) : SqS K te S ds := ⟨_, .lst _, h⟩
theorem sq_tup (h : EXp K te S (.tup ds)) : SqS K te S ds := ⟨_, .tup _, h⟩
theorem ep_len (h : ItS K te S ds) : EXp K (tCB (rLenQ K) (tCons te tNil)) S (.int ds.length) := fun A δ μ r => by
  obtain ⟨d, h1, h2⟩ := h A δ μ r
  exact ex_len h1 h2
theorem ep_lenM {α : Type} {f : α → DV} {xs : List α} (h : ItS K te S (xs.map f)) : EXp K (tCB (rLenQ K) (tCons te tNil)) S (.int xs.length) := EXp.is (ep_len h) (by rw [List.length_map])
theorem atI_map {α β : Type} {f : α → β} {xs : List α} {n : Int} {x : α} (h : L2.atI xs n = some x) : L2.atI (xs.map f) n = some (f x) := by
  unfold L2.atI at h ⊢
  rw [List.length_map]
  cases q : ixN xs.length n with
  | none => rw [q] at h; cases h
  | some k =>
    rw [q] at h
    show (xs.map f)[k]? = some (f x)
    rw [List.getElem?_map, show xs[k]? = some x from h]
    rfl
theorem ep_ix {α : Type} {f : α → DV} {xs : List α} {n : Int} {x : α} (ha : ItS K ta S (xs.map f)) (hb : EXp K tb S (.int n)) (h : L2.atI xs n = some x) : EXp K (tOp (rIx K) ta tb) S (f x) := fun A δ μ r => by
  obtain ⟨d, h1, h2⟩ := ha A δ μ r
  exact ex_ix h1 (hb A δ μ r) h2 (atI_map h)
theorem ep_ixD {n : Int} (ha : ItS K ta S ds) (hb : EXp K tb S (.int n)) (h : L2.atI ds n = some e) : EXp K (tOp (rIx K) ta tb) S e := fun A δ μ r => by
  obtain ⟨d, h1, h2⟩ := ha A δ μ r
  exact ex_ix h1 (hb A δ μ r) h2 h
theorem lp_list (h : ItS K te S ds) : LXp K (tCB (rListQ K) (tCons te tNil)) S ds := fun A δ μ r => by
  obtain ⟨d, h1, h2⟩ := h A δ μ r
  exact lx_list h1 h2
theorem ep_tuple (h : ItS K te S ds) : EXp K (tCB (rTupQ K) (tCons te tNil)) S (.tup ds) := fun A δ μ r => by
  obtain ⟨d, h1, h2⟩ := h A δ μ r
  exact ex_tuple h1 h2
theorem ep_abs (ha : EXp K ta S (.int a)) : EXp K (tCB (fun xs H Q => ∃ i, xs = [.int i] ∧ Q (.int (if i < 0 then -i else i)) H) (tCons ta tNil)) S (.int (if a < 0 then -a else a)) := ep_un (fun _ _ => ex_abs) ha
theorem ep_toI (ha : EXp K ta S (.int a)) : EXp K (tCB (fun xs H Q => (∃ i, xs = [.int i] ∧ Q (.int i) H) ∨ ∃ k, xs = [.bl k] ∧ Q (.int (if k then 1 else 0)) H) (tCons ta tNil)) S (.int a) := ep_un (fun _ _ => ex_toI) ha
theorem ep_toB {b : Bool} (ha : EXp K ta S (.bl b)) : EXp K (tCB (fun xs H Q => (∃ i, xs = [.int i] ∧ Q (.int i) H) ∨ ∃ k, xs = [.bl k] ∧ Q (.int (if k then 1 else 0)) H) (tCons ta tNil)) S (.int (if b then 1 else 0)) := ep_un (fun _ _ => ex_toB) ha
theorem ep_sum {ns : List Int} (ha : EXp K ta S (.lst (ns.map .int))) : EXp K (tCB (rSum K) (tCons ta tNil)) S (.int ns.sum) := ep_un (fun _ _ => ex_sum) ha
theorem ep_all {bs : List Bool} (ha : EXp K ta S (.lst (bs.map .bl))) : EXp K (tCB (rAll K) (tCons ta tNil)) S (.bl (bs.all id)) := ep_un (fun _ _ => ex_all) ha
theorem ep_any {bs : List Bool} (ha : EXp K ta S (.lst (bs.map .bl))) : EXp K (tCB (rAny K) (tCons ta tNil)) S (.bl (bs.any id)) := ep_un (fun _ _ => ex_any) ha
theorem ep_min2 (ha : EXp K ta S (.int a)) (hb : EXp K tb S (.int b)) : EXp K (tCB (fun xs H Q => ∃ i j, xs = [.int i, .int j] ∧ Q (.int (if j < i then j else i)) H) (tCons ta (tCons tb tNil))) S (.int (if b < a then b else a)) := ep_bin (fun _ _ => ex_min2) ha hb
theorem ep_max2 (ha : EXp K ta S (.int a)) (hb : EXp K tb S (.int b)) : EXp K (tCB (fun xs H Q => ∃ i j, xs = [.int i, .int j] ∧ Q (.int (if j > i then j else i)) H) (tCons ta (tCons tb tNil))) S (.int (if b > a then b else a)) := ep_bin (fun _ _ => ex_max2) ha hb
/-! slices, sums of sequences -/
theorem op_none : OXp K tNoPart S none := fun A δ μ r => ox_none
theorem op_some (h : EXp K te S (.int a)) : OXp K (tPart te) S (some a) := fun A δ μ r => ox_some (h A δ μ r)
theorem cut_map {α : Type} {f : α → DV} {xs : List α} {lo hi : Option Int} : G.cutD (xs.map f) lo hi = (cutL xs lo hi).map f := by
  unfold G.cutD cutL
  rw [List.length_map, List.map_take, List.map_drop]
theorem lp_sl {α : Type} {f : α → DV} {xs : List α} {tl th : TO} {lo hi : Option Int} (h : EXp K te S (.lst (xs.map f))) (h1 : OXp K tl S lo) (h2 : OXp K th S hi) : LXp K (tSl (rSlL K) te tl th) S ((cutL xs lo hi).map f) := LXp.is (fun A δ μ r => lx_sl (h A δ μ r) (h1 A δ μ r) (h2 A δ μ r)) cut_map
theorem lp_slO {α : Type} {f : α → DV} {xs : List α} {tl th : TO} {lo hi : Option Int} (h : S[i]? = some (.own (xs.map f))) (h1 : OXp K tl S lo) (h2 : OXp K th S hi) : LXp K (tSl (rSlL K) (tVar i) tl th) S ((cutL xs lo hi).map f) := LXp.is (fun A δ μ r => by
  obtain ⟨g1, g2⟩ := r.own i _ h
  obtain ⟨k, hk⟩ := List.getElem?_of_mem g2
  exact lx_slB (ex_var g1) (h1 A δ μ r) (h2 A δ μ r) hk) cut_map
theorem ep_slT {α : Type} {f : α → DV} {xs : List α} {tl th : TO} {lo hi : Option Int} (h : EXp K te S (.tup (xs.map f))) (h1 : OXp K tl S lo) (h2 : OXp K th S hi) : EXp K (tSl (rSlA K) te tl th) S (.tup ((cutL xs lo hi).map f)) := EXp.is (fun A δ μ r => ex_slT (h A δ μ r) (h1 A δ μ r) (h2 A δ μ r)) (congrArg DV.tup cut_map)
theorem ep_catT {α : Type} {f : α → DV} {xs ys zs : List α} (ha : EXp K ta S (.tup (xs.map f))) (hb : EXp K tb S (.tup (ys.map f))) (h : catO xs ys = some zs) : EXp K (tOp (rCatA K) ta tb) S (.tup (zs.map f)) := by
  unfold catO at h
  split at h
  · rename_i hc
    cases h
    rw [List.map_append]
    exact ep_bin (fun _ _ p q => ex_catT p q (by simpa using hc)) ha hb
  · cases h
theorem lp_cat {α : Type} {f : α → DV} {xs ys zs : List α} (ha : LXp K ta S (xs.map f)) (hb : LXp K tb S (ys.map f)) (h : catO xs ys = some zs) : LXp K (tOp rCat ta tb) S (zs.map f) := by
  unfold catO at h
  split at h
  · rename_i hc
    cases h
    rw [List.map_append]
    exact fun A δ μ r => lx_cat (ha A δ μ r) (hb A δ μ r) (by simpa using hc)
  · cases h
theorem lp_catO {α : Type} {f : α → DV} {xs ys zs : List α} (ha : S[i]? = some (.own (xs.map f))) (hb : LXp K tb S (ys.map f)) (h : catO xs ys = some zs) : LXp K (tOp rCat (tVar i) tb) S (zs.map f) := by
  unfold catO at h
  split at h
  · rename_i hc
    cases h
    rw [List.map_append]
    intro A δ μ r
    obtain ⟨g1, g2⟩ := r.own i _ ha
    obtain ⟨k, hk⟩ := List.getElem?_of_mem g2
    exact lx_catB (ex_var g1) (hb A δ μ r) hk hk (by simpa using hc)
  · cases h
/-! calls -/
variable {R : List DV → DV → Prop} {RL : List DV → List DV → Prop} {E : XK} {C : Addr} {fs gs : List (Str × DV)}
theorem ep_call (ha : AXp K tr S ds) (h : R ds d) : EXp K (tCall (spD K R) [] E tr) S d := fun A δ μ r => ex_call (ha A δ μ r) h
theorem lp_call (ha : AXp K tr S ds) (h : RL ds es) : LXp K (tCall (spL K RL) [] E tr) S es := fun A δ μ r => lx_call (ha A δ μ r) h
theorem ep_meth {m : Str} (ha : EXp K ta S (.ins C fs)) (hn : fs.lookup m = none) (hr : AXp K tr S ds) (h : R (.ins C fs :: ds) d) : EXp K (tMeth C m (spD K R) [] E ta tr) S d := fun A δ μ r => ex_meth (ha A δ μ r) hn (hr A δ μ r) h
theorem ep_make {RI : List DV → List (Str × DV) → Prop} {dvs : List V} {dd : List DV} (hr : AXp K tr S ds) (hd : ∀ H, RpAll K H dvs dd) (h : RI (ds ++ dd) fs) : EXp K (tMake C (spI K C RI) dvs E tr) S (.ins C fs) := fun A δ μ r => ex_make (hr A δ μ r) hd h
theorem ep_fld {f : Str} (ha : EXp K ta S (.ins C fs)) (c : Cls K C) (n : NoAttr K C f) (h : fs.lookup f = some d) : EXp K (tFld K ta f) S d := fun A δ μ r => ex_fld (ha A δ μ r) c n h
theorem ep_ownB (ha : EXp K ta S (.ins C fs)) (hb : EXp K tb S (.ins C gs)) (h : R [.ins C fs, .ins C gs] d) : EXp K (tOp (rOwnB C (spD K R) E) ta tb) S d := ep_bin (fun _ _ p q => ex_ownB p q h) ha hb
theorem ep_ownE {b : Bool} {w : Value} (ha : EXp K ta S (.ins C fs)) (hb : EXp K tb S e) (ty : TyD K e w) (hn : PySem.W.notFirst K C w = true) (h : R [.ins C fs, e] (.bl b)) : EXp K (tOp (rOwnE K C (spD K R) E) ta tb) S (.bl b) := ep_bin (fun _ _ p q => ex_ownE p q ty hn h) ha hb
theorem ep_ownN {b : Bool} {w : Value} (ha : EXp K ta S (.ins C fs)) (hb : EXp K tb S e) (ty : TyD K e w) (hn : PySem.W.notFirst K C w = true) (h : R [.ins C fs, e] (.bl b)) : EXp K (tOp (rOwnN K C (spD K R) E) ta tb) S (.bl (!b)) := ep_bin (fun _ _ p q => ex_ownN p q ty hn h) ha hb
theorem ep_ownU (ha : EXp K ta S (.ins C fs)) (h : R [.ins C fs] d) : EXp K (tUn (fun x H Q => ∃ a dx fs, x = .ref a ∧ H a = some (.ins C dx fs) ∧ spD K R [x] H Q E) ta) S d := ep_un (fun _ _ p => ex_ownU p h) ha
theorem ep_lenOwn {n : Nat} (ha : EXp K ta S (.ins C fs)) (hn : n < 2 ^ 63) (h : R [.ins C fs] (.int n)) : EXp K (tCB (rLenOwn C (spD K R) E) (tCons ta tNil)) S (.int n) := ep_un (fun _ _ p => ex_lenOwn p hn h) ha
theorem ep_isiB {n : String} {w : String} {b : Bool} (ha : EXp K ta S d) (ty : TyD K d (.type w)) (h : kitB w n = some b) : EXp K (tCB (rIsi K) (tCons ta (tCons (tC (.ty n)) tNil))) S (.bl b) := ep_un (fun _ _ p => ex_isiB p ty h) ha
theorem ep_isi {c : V} {w z : Value} {b : Bool} (ha : EXp K ta S d) (ty : TyD K d w) (k : ClsV c z) (h : PySem.W.kitOne K w z = some b) (hs : tb = tC c := by rfl) : EXp K (tCB (rIsi K) (tCons ta (tCons tb tNil))) S (.bl b) := ep_un (fun _ _ p => ex_isi p ty k h hs) ha
theorem ep_isi2 {n m : String} {w : Value} {b : Bool} (ha : EXp K ta S d) (ty : TyD K d w) (h : PySem.W.kitAny K w [.type n, .type m] = some b) : EXp K (tCB (rIsiT K) (tCons ta (tCons (tTup (tCons (tC (.ty n)) (tCons (tC (.ty m)) tNil))) tNil))) S (.bl b) := ep_un (fun _ _ p => ex_isi2 p ty h) ha
end
end G
set_option Elab.async false
set_option linter.all false
set_option maxRecDepth 100000
/-! what is walked (typed items), comprehensions -/
namespace G
open PySem PySem.Spec PyProof.Rows L2 Evl
section
variable {α β : Type}
def bE (bs : List (Nat × (α → DV))) (x : α) (δ : Env) : Env := bs.foldl (fun δ p => δ.set p.1 (some (p.2 x))) δ
def bS (bs : List (Nat × (α → DV))) (x : α) (S : List SL) : List SL := bs.foldl (fun S p => S.set p.1 (.dat (p.2 x))) S
def wipeS (S : List SL) : List Nat → List SL
  | [] => S
  | v :: vs => (wipeS S vs).set v .un
def bnd (xs : List α) (bs : List (Nat × (α → DV))) (i : Nat) (δ : Env) : Env := match xs[i]? with
  | some x => bE bs x δ
  | none => δ
end
section
variable {K : PySem.W.Frag} {S S1 S2 : List SL} {A : Nat → Addr} {δ : Env} {μ : Sto} {ta tb te : TE} {tt : TT} {α β γ : Type}
theorem set_cases {τ : Type} {S : List τ} {i j : Nat} {x y : τ} (h : (S.set i x)[j]? = some y) : (i = j ∧ x = y ∧ j < S.length) ∨ (i ≠ j ∧ S[j]? = some y) := by
  by_cases e : i = j
  · subst e
    by_cases hl : i < S.length
    · rw [List.getElem?_set_self hl] at h
      exact .inl ⟨rfl, Option.some.inj h, hl⟩
    · rw [List.getElem?_eq_none (by simpa using hl)] at h
      cases h
  · rw [List.getElem?_set_ne e] at h
    exact .inr ⟨e, h⟩
theorem SRel.set (r : SRel S A δ μ) (i : Nat) (d : DV) : SRel (S.set i (.dat d)) A (δ.set i (some d)) μ := by
  refine ⟨by simpa using r.len, r.nd, fun j e h => ?_, fun j ds h => ?_, fun j k ds es h1 h2 => ?_⟩
  · rcases set_cases h with ⟨q, e1, hl⟩ | ⟨q, h⟩
    · subst q
      cases e1
      exact List.getElem?_set_self (by rw [r.len]; exact hl)
    · rw [List.getElem?_set_ne q]
      exact r.dat j e h
  · rcases set_cases h with ⟨q, e1, hl⟩ | ⟨q, h⟩
    · cases e1
    · rw [List.getElem?_set_ne q]
      exact r.own j ds h
  · rcases set_cases h1 with ⟨q, e1, hl⟩ | ⟨q, h1⟩
    · cases e1
    rcases set_cases h2 with ⟨q, e1, hl⟩ | ⟨q, h2⟩
    · cases e1
    exact r.inj j k ds es h1 h2
theorem SRel.unset (r : SRel S A δ μ) (i : Nat) (o : Option DV) : SRel (S.set i .un) A (δ.set i o) μ := by
  refine ⟨by simpa using r.len, r.nd, fun j e h => ?_, fun j ds h => ?_, fun j k ds es h1 h2 => ?_⟩
  · rcases set_cases h with ⟨q, e1, hl⟩ | ⟨q, h⟩
    · cases e1
    · rw [List.getElem?_set_ne q]
      exact r.dat j e h
  · rcases set_cases h with ⟨q, e1, hl⟩ | ⟨q, h⟩
    · cases e1
    · rw [List.getElem?_set_ne q]
      exact r.own j ds h
  · rcases set_cases h1 with ⟨q, e1, hl⟩ | ⟨q, h1⟩
    · cases e1
    rcases set_cases h2 with ⟨q, e1, hl⟩ | ⟨q, h2⟩
    · cases e1
    exact r.inj j k ds es h1 h2
theorem SRel.wipe (r : SRel S A δ μ) : ∀ vs : List Nat, SRel (wipeS S vs) A (wipeD δ vs) μ
  | [] => r
  | v :: vs => (SRel.wipe r vs).unset v none
theorem SRel.binds {x : α} : ∀ (bs : List (Nat × (α → DV))) {S : List SL} {δ : Env}, SRel S A δ μ → SRel (bS bs x S) A (bE bs x δ) μ
  | [], _, _, r => r
  | p :: bs, _, _, r => SRel.binds bs (r.set p.1 (p.2 x))
theorem SRel.bnd {xs : List α} {bs : List (Nat × (α → DV))} {i : Nat} {x : α} (r : SRel S A δ μ) (h : xs[i]? = some x) : SRel (bS bs x S) A (bnd xs bs i δ) μ := by
  unfold G.bnd
  rw [h]
  exact r.binds bs
def WXl (K : PySem.W.Frag) (wi : TI) (g : TG) (S : List SL) (xs : List α) (bs : List (Nat × (α → DV))) : Prop := ∀ A δ μ, SRel S A δ μ → WX K wi g δ μ μ xs.length (bs.map Prod.fst) (G.bnd xs bs)
theorem WX.congr {wi : TI} {g : TG} {μ' : Sto} {n : Nat} {js : List Nat} {b b' : Nat → Env → Env} (w : WX K wi g δ μ μ' n js b) (h : ∀ i, i < n → ∀ δ, b i δ = b' i δ) : WX K wi g δ μ μ' n js b' := fun F M σ H s R r =>
  w F M σ H s R fun J H' e s' T => r J H' e s' ⟨T.go, T.stop, fun i H x H' F M δ μ σ hi e s y Q q => T.bind i H x H' F M δ μ σ hi e s y Q fun σ' e' s' => q σ' e' (by rw [← h i hi]; exact s')⟩
theorem rng_get {n : Int} {i : Nat} (h : i < n.toNat) : (rng n)[i]? = some (i : Int) := by
  unfold rng
  rw [List.getElem?_map, List.getElem?_range h]
  rfl
theorem rng2_get {m n : Int} {i : Nat} (h : i < (n - m).toNat) : (rng2 m n)[i]? = some (m + (i : Int)) := by
  unfold rng2
  rw [List.getElem?_map, List.getElem?_range h]
  rfl
theorem rng_len {n : Int} : (rng n).length = n.toNat := by simp [rng]
theorem rng2_len {m n : Int} : (rng2 m n).length = (n - m).toNat := by simp [rng2]
theorem wl_range1 {n : Int} {xs : List Int} {j : Nat} (h : EXp K ta S (.int n)) (hr : rngO n = some xs) : WXl K (iRng1 (tCons ta tNil)) (gName j) S xs [(j, eI)] := by
  unfold rngO at hr
  split at hr
  · rename_i hb
    cases hr
    intro A δ μ r
    have z := wx_range1 (j := j) (ax_cons (h A δ μ r) ax_nil) hb.1 hb.2
    rw [← rng_len] at z
    refine z.congr fun i hi δ => ?_
    rw [rng_len] at hi
    unfold G.bnd
    rw [rng_get hi]
    rfl
  · cases hr
theorem wl_range2 {m n : Int} {xs : List Int} {j : Nat} (h1 : EXp K ta S (.int m)) (h2 : EXp K tb S (.int n)) (hr : rng2O m n = some xs) : WXl K (iRng2 (tCons ta (tCons tb tNil))) (gName j) S xs [(j, eI)] := by
  unfold rng2O at hr
  split at hr
  · rename_i hb
    cases hr
    intro A δ μ r
    have z := wx_range2 (j := j) (ax_cons (h1 A δ μ r) (ax_cons (h2 A δ μ r) ax_nil)) hb.1 hb.2
    rw [← rng2_len] at z
    refine z.congr fun i hi δ => ?_
    rw [rng2_len] at hi
    unfold G.bnd
    rw [rng2_get hi]
    rfl
  · cases hr
theorem getD_of {xs : List α} {f : α → DV} {i : Nat} {x : α} (h : xs[i]? = some x) : (xs.map f).getD i .non = f x := by
  rw [List.getD_eq_getElem?_getD, List.getElem?_map, h]
  rfl
theorem wl_seq {f : α → DV} {xs : List α} {j : Nat} (h : SqS K te S (xs.map f)) : WXl K (iSeq K te) (gName j) S xs [(j, f)] := fun A δ μ r => by
  obtain ⟨d, sq, e⟩ := h
  have z := wx_seq (j := j) (e A δ μ r) sq
  rw [List.length_map] at z
  refine z.congr fun i hi δ => ?_
  unfold G.bnd
  rw [getD_of (List.getElem?_eq_getElem hi), List.getElem?_eq_getElem hi]
  rfl
theorem wl_zip {f : α → DV} {g : β → DV} {xs : List α} {ys : List β} {j1 j2 : Nat} (h1 : SqS K ta S (xs.map f)) (h2 : SqS K tb S (ys.map g)) :
    WXl K (iZipK K (tCons ta (tCons tb tNil))) (gTup K 2 (gCons (gName j1) (gCons (gName j2) gNil))) S (xs.zip ys) [(j1, fun p : α × β => f p.1), (j2, fun p : α × β => g p.2)] := fun A δ μ r => by
  obtain ⟨d1, sq1, e1⟩ := h1
  obtain ⟨d2, sq2, e2⟩ := h2
  have z := wx_zip (j1 := j1) (j2 := j2) (n := (xs.zip ys).length) (ax_cons (e1 A δ μ r) (ax_cons (e2 A δ μ r) ax_nil)) sq1 sq2 (by simp)
  refine z.congr fun i hi δ => ?_
  have h1 : i < xs.length := by simp at hi; omega
  have h2 : i < ys.length := by simp at hi; omega
  unfold G.bnd
  rw [getD_of (List.getElem?_eq_getElem h1), getD_of (List.getElem?_eq_getElem h2), List.getElem?_eq_getElem hi, List.getElem_zip]
  rfl
def enumI (xs : List α) : List (Int × α) := (rng xs.length).zip xs
theorem wl_enum {f : α → DV} {xs : List α} {j1 j2 : Nat} (h : SqS K ta S (xs.map f)) :
    WXl K (iEnumK K (tCons ta tNil)) (gTup K 2 (gCons (gName j1) (gCons (gName j2) gNil))) S (enumI xs) [(j1, fun p : Int × α => eI p.1), (j2, fun p : Int × α => f p.2)] := fun A δ μ r => by
  obtain ⟨d1, sq1, e1⟩ := h
  have z := wx_enumK (j1 := j1) (j2 := j2) (ax_cons (e1 A δ μ r) ax_nil) sq1
  have hl : (enumI xs).length = (xs.map f).length := by simp [enumI, rng_len]
  rw [← hl] at z
  refine z.congr fun i hi δ => ?_
  have h1 : i < xs.length := by rw [hl, List.length_map] at hi; exact hi
  have h2 : (enumI xs)[i]? = some ((i : Int), xs[i]) := by
    unfold enumI
    rw [List.getElem?_zip_eq_some]
    exact ⟨rng_get (by simpa using h1), List.getElem?_eq_getElem h1⟩
  unfold G.bnd
  rw [getD_of (List.getElem?_eq_getElem h1), h2]
  rfl
/-! ### comprehensions -/
theorem take_filter {xs : List α} {c : α → Bool} {f : α → DV} : ∀ n, n ≤ xs.length → ((List.range n).filter fun i => match xs[i]? with | some x => c x | none => false).map (fun i => match xs[i]? with | some x => f x | none => DV.non) = ((xs.take n).filter c).map f
  | 0, _ => by simp
  | n + 1, h => by
    have hn : n < xs.length := by omega
    rw [List.range_succ, List.filter_append, List.map_append, take_filter n (by omega), List.take_succ, List.getElem?_eq_getElem hn, List.filter_append, List.map_append]
    congr 1
    cases q : c xs[n] with
    | true => simp [List.getElem?_eq_getElem hn, q]
    | false => simp [List.getElem?_eq_getElem hn, q]
theorem lp_lc {wi : TI} {g : TG} {vs : List Nat} {xs : List α} {bs : List (Nat × (α → DV))} (w : WXl K wi g S xs bs) (hl : xs.length ≤ 100000) (hj : ∀ k ∈ bs.map Prod.fst, k ∈ vs) (c : α → Bool) (f : α → DV)
    (ht : ∀ x ∈ xs, TXp K tt (bS bs x (wipeS S vs)) (c x)) (he : ∀ x ∈ xs, c x = true → EXp K te (bS bs x (wipeS S vs)) (f x)) : LXp K (tLc wi g tt te vs) S ((xs.filter c).map f) := fun A δ μ r => by
  have z := lx_lcF (tt := tt) (te := te) (vs := vs) (w A δ μ r) (fun i => match xs[i]? with | some x => f x | none => DV.non) (fun i => match xs[i]? with | some x => c x | none => false) hl hj (fun i hi => ?_) (fun i hi hp => ?_)
  · rw [take_filter _ (Nat.le_refl _), List.take_length] at z
    exact z
  · have e := List.getElem?_eq_getElem hi
    rw [e]
    exact ht _ (List.getElem_mem hi) A _ μ ((r.wipe vs).bnd e)
  · have e := List.getElem?_eq_getElem hi
    rw [e] at hp ⊢
    exact he _ (List.getElem_mem hi) hp A _ μ ((r.wipe vs).bnd e)
theorem filO_some {c : α → Option Bool} : ∀ {xs zs : List α}, filO c xs = some zs → (∀ x ∈ xs, ∃ b, c x = some b) ∧ zs = xs.filter fun x => (c x).getD false
  | [], zs, h => by cases h; exact ⟨fun x h => (by cases h), rfl⟩
  | x :: xs, zs, h => by
    obtain ⟨b, hb, h⟩ := bdO h
    obtain ⟨ys, hy, h⟩ := bdO h
    obtain ⟨h1, h2⟩ := filO_some hy
    refine ⟨fun y hm => (List.mem_cons.mp hm).elim (fun e => ⟨b, by rw [e]; exact hb⟩) (h1 y), ?_⟩
    rw [List.filter_cons, hb]
    cases h
    rw [h2]
    cases b <;> rfl
theorem mapO_some {f : α → Option β} : ∀ {xs : List α} {ys : List β}, mapO f xs = some ys → (∀ x ∈ xs, ∃ y, f x = some y) ∧ ∀ e : β → DV, ys.map e = xs.map fun x => match f x with | some y => e y | none => DV.non
  | [], ys, h => by cases h; exact ⟨fun x h => (by cases h), fun _ => rfl⟩
  | x :: xs, ys, h => by
    obtain ⟨y, hy, h⟩ := bdO h
    obtain ⟨zs, hz, h⟩ := bdO h
    obtain ⟨h1, h2⟩ := mapO_some hz
    cases h
    refine ⟨fun z hm => (List.mem_cons.mp hm).elim (fun e => ⟨y, by rw [e]; exact hy⟩) (h1 z), fun e => ?_⟩
    rw [List.map_cons, List.map_cons, h2 e, hy]
theorem lp_lcM {wi : TI} {g : TG} {vs : List Nat} {xs : List α} {bs : List (Nat × (α → DV))} {c : α → Option Bool} {f : α → Option β} {ys : List β} {e : β → DV} (S' : α → List SL) (w : WXl K wi g S xs bs) (h : lcO c f xs = some ys) (hj : ∀ k ∈ bs.map Prod.fst, k ∈ vs)
    (ht : ∀ x b, c x = some b → TXp K tt (S' x) b) (he : ∀ x y, f x = some y → EXp K te (S' x) (e y)) (hS : ∀ x, bS bs x (wipeS S vs) = S' x := by intro _; rfl) : LXp K (tLc wi g tt te vs) S (ys.map e) := by
  unfold lcO at h
  split at h
  · rename_i hl
    obtain ⟨zs, hz, h⟩ := bdO h
    obtain ⟨h1, h2⟩ := filO_some hz
    obtain ⟨h3, h4⟩ := mapO_some h
    rw [h4 e, h2]
    refine lp_lc w hl hj (fun x => (c x).getD false) _ (fun x hx => ?_) (fun x hx hc => ?_)
    · rw [hS x]
      obtain ⟨b, hb⟩ := h1 x hx
      rw [hb]
      exact ht x b hb
    · rw [hS x]
      obtain ⟨y, hy⟩ := h3 x (by rw [h2, List.mem_filter]; exact ⟨hx, hc⟩)
      rw [hy]
      exact he x y hy
  · cases h
theorem lp_lcA {wi : TI} {g : TG} {vs : List Nat} {xs : List α} {bs : List (Nat × (α → DV))} {f : α → Option β} {ys : List β} {e : β → DV} (S' : α → List SL) (w : WXl K wi g S xs bs) (h : lcA f xs = some ys) (hj : ∀ k ∈ bs.map Prod.fst, k ∈ vs)
    (he : ∀ x y, f x = some y → EXp K te (S' x) (e y)) (hS : ∀ x, bS bs x (wipeS S vs) = S' x := by intro _; rfl) : LXp K (tLc wi g tYes te vs) S (ys.map e) := by
  unfold lcA at h
  split at h
  · rename_i hl
    obtain ⟨h3, h4⟩ := mapO_some h
    rw [h4 e]
    have z := lp_lc (tt := tYes) (te := te) (vs := vs) w hl hj (fun _ => true) (fun x => match f x with | some y => e y | none => DV.non) (fun x hx => tp_yes) (fun x hx _ => ?_)
    · rw [List.filter_eq_self.mpr fun _ _ => rfl] at z
      exact z
    · rw [hS x]
      obtain ⟨y, hy⟩ := h3 x hx
      rw [hy]
      exact he x y hy
  · cases h
end
end G
set_option Elab.async false
set_option linter.all false
set_option maxRecDepth 100000
/-! statements over slots -/
namespace G
open PySem PySem.Spec PyProof.Rows L2 Evl
/-- an exception: its class, its own fields (where it has some) -/
structure Exc where
  cls : Addr
  fs : Option (List (Str × V)) := none
def ExcAt (F : Hp) (x : Exc) (d : Option Addr) (H : Hp) : Prop := match x.fs with
  | none => d = none
  | some fs => ∃ a, d = some a ∧ F a = none ∧ H a = some (.xd fs)
structure Post where
  nx : List SL → Prop := fun _ => False
  bk : List SL → Prop := fun _ => False
  ct : List SL → Prop := fun _ => False
  rt : DV → List SL → Prop := fun _ _ => False
  rl : List DV → List SL → Prop := fun _ _ => False
  xe : Exc → Prop := fun _ => False
  fr : Hp → List Addr → Prop := fun _ _ => True
  nf : Hp → Addr → Addr → Addr → List (Str × DV) → Prop := fun _ _ _ _ _ => False
/-- Z: what the def found hidden; M0: what the loop that runs found hidden; q: the address of the first slot's list, where it is the caller's -/
structure StC (K : PySem.W.Frag) (F : Hp) (M0 Z : List Addr) (q : Option Addr) (S : List SL) (σ : L2.St) (H : Hp) (M : List Addr) (δ : Env) (μ : Sto) (A : Nat → Addr) : Prop where
  z : ∀ a ∈ Z, a ∈ M
  n : ∀ a ∈ M, a ∈ M0 ∨ F a = none
  q : ∀ a, q = some a → A 0 = a
  ho : ∀ (i : Nat) (ds : List DV), S[i]? = some (.own ds) → i ≠ 0 → A i ∉ Z
  r : SRel S A δ μ
  s : Sta K F M δ μ σ H
def StS (K : PySem.W.Frag) (F : Hp) (M0 Z : List Addr) (q : Option Addr) (S : List SL) (σ : L2.St) (H : Hp) : Prop := ∃ M δ μ A, StC K F M0 Z q S σ H M δ μ A
def StR (K : PySem.W.Frag) (F : Hp) (M0 Z : List Addr) (q : Option Addr) (S : List SL) (σ : L2.St) (H : Hp) (v : V) (d : DV) : Prop := ∃ M δ μ A, StC K F M0 Z q S σ H M δ μ A ∧ Rp K (hid M H) v d
def StL (K : PySem.W.Frag) (F : Hp) (M0 Z : List Addr) (q : Option Addr) (S : List SL) (σ : L2.St) (H : Hp) (p : Addr) (ds : List DV) : Prop := ∃ M δ μ, (∀ a ∈ Z, a ∈ M) ∧ (∀ a ∈ M, a ∈ M0 ∨ F a = none) ∧ F p = none ∧ p ∉ M ∧ Sta K F (p :: M) δ ((p, ds) :: μ) σ H
structure Ok (K : PySem.W.Frag) (F : Hp) (M0 Z : List Addr) (q : Option Addr) (E : XK) (P : Post) (D : L2.Ends) : Prop where
  nx : ∀ S' σ' H', P.nx S' → StS K F M0 Z q S' σ' H' → D.nx σ' H'
  bk : ∀ S' σ' H', P.bk S' → StS K F M0 Z q S' σ' H' → D.bk σ' H'
  ct : ∀ S' σ' H', P.ct S' → StS K F M0 Z q S' σ' H' → D.ct σ' H'
  rt : ∀ d S' v σ' H', P.rt d S' → StR K F M0 Z q S' σ' H' v d → D.rt v H'
  rl : ∀ ds S' p σ' H', P.rl ds S' → StL K F M0 Z q S' σ' H' p ds → D.rt (.ref p) H'
  xe : ∀ x d H', P.xe x → ExcAt F x d H' → Ex F H' → E (.ref x.cls) d H'
  nf : ∀ fs x C dx F0 M δ fv σ' H', P.nf F0 x C dx fs → F = upd F0 x (.ins C dx []) → F0 x = none → (∀ a ∈ Z, a ∈ M) → Sta K (upd F0 x (.ins C dx fv)) M δ [] σ' H' → RpF K (hid M H') fv fs → D.nx σ' H'
def W (K : PySem.W.Frag) (E : XK) (ts : TS) (S : List SL) (P : Post) : Prop := ∀ F M0 Z q σ H D, P.fr F Z → StS K F M0 Z q S σ H → Ok K F M0 Z q E P D → ts D σ H
/-- less is told -/
def SLe (S S' : List SL) : Prop := S.length = S'.length ∧ ∀ (i : Nat) (s : SL), S'[i]? = some s → s = .un ∨ S[i]? = some s
theorem SLe.refl {S : List SL} : SLe S S := ⟨rfl, fun i s h => .inr h⟩
theorem sle_nil : SLe [] [] := .refl
theorem sle_same {s : SL} {S S' : List SL} (h : SLe S S') : SLe (s :: S) (s :: S') := ⟨by simp [h.1], fun i t q => by
  cases i with
  | zero => exact .inr q
  | succ i => simpa using h.2 i t (by simpa using q)⟩
theorem sle_un {s : SL} {S S' : List SL} (h : SLe S S') : SLe (s :: S) (.un :: S') := ⟨by simp [h.1], fun i t q => by
  cases i with
  | zero => simp at q; exact .inl q.symm
  | succ i => simpa using h.2 i t (by simpa using q)⟩
section
variable {K : PySem.W.Frag} {E : XK} {F H : Hp} {M0 Z M : List Addr} {q : Option Addr} {S S1 S' : List SL} {σ : L2.St} {δ : Env} {μ : Sto} {A : Nat → Addr} {P : Post} {ts t u tb : TS} {te ta : TE} {tt : TT} {d d1 d2 d3 : DV} {ds es : List DV} {i j : Nat} {D : L2.Ends} {wi : TI} {g : TG} {α τ ρ : Type}
theorem SRel.less (r : SRel S A δ μ) (h : SLe S S') : SRel S' A δ μ :=
  ⟨r.len.trans h.1, r.nd, fun i d q => (h.2 i _ q).elim (fun e => by cases e) (r.dat i d), fun i ds q => (h.2 i _ q).elim (fun e => by cases e) (r.own i ds), fun i j ds es q1 q2 =>
    (h.2 i _ q1).elim (fun e => by cases e) fun q1 => (h.2 j _ q2).elim (fun e => by cases e) fun q2 => r.inj i j ds es q1 q2⟩
theorem StS.less (h : StS K F M0 Z q S σ H) (l : SLe S S') : StS K F M0 Z q S' σ H := by
  obtain ⟨M, δ, μ, A, c⟩ := h
  exact ⟨M, δ, μ, A, c.z, c.n, c.q, fun i ds e h0 => (l.2 i _ e).elim (fun e => by cases e) fun e => c.ho i ds e h0, c.r.less l, c.s⟩
theorem w_weak (l : SLe S S') (h : W K E ts S' P) : W K E ts S P := fun F M0 Z q σ H D fr st ok => h F M0 Z q σ H D fr (st.less l) ok
theorem q_seq (h : W K E t S { P with nx := fun S' => W K E u S' P, nf := fun _ _ _ _ _ => False }) : W K E (tSeq t u) S P := fun F M0 Z q σ H D fr st ok =>
  h F M0 Z q σ H { D with nx := u D } fr st ⟨fun S' σ' H' hw st' => hw F M0 Z q σ' H' D fr st' ok, ok.bk, ok.ct, ok.rt, ok.rl, ok.xe, fun _ _ _ _ _ _ _ _ _ _ h => h.elim⟩
/-- another end -/
theorem W.post {P' : Post} (h : W K E ts S P) (e1 : ∀ S', P.nx S' → P'.nx S') (e2 : ∀ S', P.bk S' → P'.bk S') (e3 : ∀ S', P.ct S' → P'.ct S') (e4 : ∀ d S', P.rt d S' → P'.rt d S') (e5 : ∀ d S', P.rl d S' → P'.rl d S') (e6 : ∀ x, P.xe x → P'.xe x) (e0 : ∀ F Z, P'.fr F Z → P.fr F Z) (e7 : ∀ F0 x C dx fs, P.nf F0 x C dx fs → P'.nf F0 x C dx fs) : W K E ts S P' := fun F M0 Z q σ H D fr st ok =>
  h F M0 Z q σ H D (e0 F Z fr) st ⟨fun S' σ' H' p => ok.nx S' σ' H' (e1 _ p), fun S' σ' H' p => ok.bk S' σ' H' (e2 _ p), fun S' σ' H' p => ok.ct S' σ' H' (e3 _ p), fun d S' v σ' H' p => ok.rt d S' v σ' H' (e4 _ _ p), fun d S' v σ' H' p => ok.rl d S' v σ' H' (e5 _ _ p), fun x d H' p => ok.xe x d H' (e6 _ p), fun fs x C dx F0 M δ fv σ' H' p => ok.nf fs x C dx F0 M δ fv σ' H' (e7 _ _ _ _ _ p)⟩
theorem StC.asg {M : List Addr} {σ' : L2.St} {H' : Hp} (c : StC K F M0 Z q S σ H M δ μ A) (s : Sta K F M (δ.set i (some d)) μ σ' H') : StC K F M0 Z q (S.set i (.dat d)) σ' H' M (δ.set i (some d)) μ A :=
  ⟨c.z, c.n, c.q, fun j ds e h0 => (set_cases e).elim (fun z => by cases z.2.1) (fun z => c.ho j ds z.2 h0), c.r.set i d, s⟩
theorem w_asg (ha : EXp K te S d) (S' : List SL) (k : P.nx S') (hS : S.set i (.dat d) = S' := by rfl) : W K E (tAsg te (gName i)) S P := fun F M0 Z q σ H D fr st ok => by
  subst hS
  obtain ⟨M, δ, μ, A, c⟩ := st
  exact x_asg c.s (ha A δ μ c.r) fun σ' H' s' => ok.nx _ σ' H' k ⟨M, _, μ, A, c.asg s'⟩
theorem q_asg (ha : EXp K te S d) (S' : List SL) (k : W K E u S' P) (hS : S.set i (.dat d) = S' := by rfl) : W K E (tSeq (tAsg te (gName i)) u) S P := q_seq (w_asg ha S' k hS)
theorem w_asgL (ha : LXp K te S ds) (S' : List SL) (k : P.nx S') (hS : S.set i (.own ds) = S' := by rfl) (hi : i ≠ 0 := by decide) : W K E (tAsg te (gName i)) S P := fun F M0 Z q σ H D fr st ok => by
  subst hS
  obtain ⟨M, δ, μ, A, c⟩ := st
  refine x_asgL c.s (ha A δ μ c.r) fun p σ' H' hp s' => ok.nx _ σ' H' k ⟨p :: M, δ.set i (some (.box p)), (p, ds) :: μ, fun j => if j = i then p else A j, ?_⟩
  have hpF : F p = none := (s'.dm (p, ds) (by simp)).2
  have hnd := List.nodup_cons.mp s'.nd
  refine ⟨fun a ha => List.mem_cons_of_mem _ (c.z a ha), fun a ha => (List.mem_cons.mp ha).elim (fun e => .inr (by rw [e]; exact hpF)) (c.n a), fun a ha => by rw [if_neg (fun e => hi e.symm)]; exact c.q a ha, fun j es e h0 => ?_, ?_, s'⟩
  · by_cases hj : j = i
    · show (if j = i then p else A j) ∉ Z
      rw [if_pos hj]
      exact fun hz => hp (c.z p hz)
    · show (if j = i then p else A j) ∉ Z
      rw [if_neg hj]
      exact c.ho j es ((set_cases e).elim (fun z => (hj z.1.symm).elim) fun z => z.2) h0
  · have key : ∀ (j : Nat) (es : List DV), S[j]? = some (.own es) → A j ≠ p := fun j es e z => hnd.1 (List.mem_map.mpr ⟨_, (c.r.own j es e).2, z⟩)
    refine ⟨by simpa using c.r.len, s'.nd, fun j e h => ?_, fun j es h => ?_, fun j k es fs h1 h2 => ?_⟩
    · rcases set_cases h with ⟨z, e1, hl⟩ | ⟨z, h⟩
      · cases e1
      · rw [List.getElem?_set_ne z]
        exact c.r.dat j e h
    · rcases set_cases h with ⟨z, e1, hl⟩ | ⟨z, h⟩
      · subst z
        cases e1
        simp only [if_pos]
        exact ⟨List.getElem?_set_self (by rw [c.r.len]; exact hl), by simp⟩
      · obtain ⟨h1, h2⟩ := c.r.own j es h
        rw [if_neg (fun e => z e.symm), List.getElem?_set_ne z]
        exact ⟨h1, List.mem_cons_of_mem _ h2⟩
    · show (if j = i then p else A j) = (if k = i then p else A k) → j = k
      rcases set_cases h1 with ⟨z1, e1, _⟩ | ⟨z1, g1⟩ <;> rcases set_cases h2 with ⟨z2, e2, _⟩ | ⟨z2, g2⟩
      · intro _
        omega
      · rw [if_pos z1.symm, if_neg (fun e => z2 e.symm)]
        exact fun e => (key k fs g2 e.symm).elim
      · rw [if_neg (fun e => z1 e.symm), if_pos z2.symm]
        exact fun e => (key j es g1 e).elim
      · rw [if_neg (fun e => z1 e.symm), if_neg (fun e => z2 e.symm)]
        exact c.r.inj j k es fs g1 g2
theorem q_asgL (ha : LXp K te S ds) (S' : List SL) (k : W K E u S' P) (hS : S.set i (.own ds) = S' := by rfl) (hi : i ≠ 0 := by decide) : W K E (tSeq (tAsg te (gName i)) u) S P := q_seq (w_asgL ha S' k hS hi)
theorem w_ret (ha : EXp K te S d) (k : P.rt d S) : W K E (tRet te) S P := fun F M0 Z q σ H D fr st ok => by
  obtain ⟨M, δ, μ, A, c⟩ := st
  exact x_ret c.s (ha A δ μ c.r) fun v H' s' rv => ok.rt d S v σ H' k ⟨M, δ, μ, A, ⟨c.z, c.n, c.q, c.ho, c.r, s'⟩, rv⟩
theorem w_retL (ha : LXp K te S ds) (k : P.rl ds S) : W K E (tRet te) S P := fun F M0 Z q σ H D fr st ok => by
  obtain ⟨M, δ, μ, A, c⟩ := st
  refine ha A δ μ c.r F M σ H c.s _ fun p H1 hp hpM e s1 => ok.rl ds S p σ H1 k ⟨M, δ, μ, c.z, c.n, (s1.dm (p, ds) (by simp)).2, hpM, s1⟩
theorem w_retN (k : P.rt .non S) : W K E tRetN S P := fun F M0 Z q σ H D fr st ok => by
  obtain ⟨M, δ, μ, A, c⟩ := st
  exact ok.rt .non S .non σ H k ⟨M, δ, μ, A, c, .non⟩
theorem w_next (k : P.nx S) : W K E tNext S P := fun F M0 Z q σ H D fr st ok => ok.nx S σ H k st
theorem w_break (k : P.bk S) : W K E tBreak S P := fun F M0 Z q σ H D fr st ok => ok.bk S σ H k st
theorem w_cont (k : P.ct S) : W K E tCont S P := fun F M0 Z q σ H D fr st ok => ok.ct S σ H k st
theorem w_if {b : Bool} (h : TXp K tt S b) (h1 : b = true → W K E t S P) (h2 : b = false → W K E u S P) : W K E (tIfS tt t u) S P := fun F M0 Z q σ H D fr st ok => by
  obtain ⟨M, δ, μ, A, c⟩ := st
  exact x_if c.s (h A δ μ c.r) (fun hb H' s' => h1 hb F M0 Z q σ H' D fr ⟨M, δ, μ, A, c.z, c.n, c.q, c.ho, c.r, s'⟩ ok) fun hb H' s' => h2 hb F M0 Z q σ H' D fr ⟨M, δ, μ, A, c.z, c.n, c.q, c.ho, c.r, s'⟩ ok
theorem w_drop (ha : EXp K te S d) (k : P.nx S) : W K E (tDrop te) S P := fun F M0 Z q σ H D fr st ok => by
  obtain ⟨M, δ, μ, A, c⟩ := st
  exact x_drop c.s (ha A δ μ c.r) fun H' s' => ok.nx S σ H' k ⟨M, δ, μ, A, c.z, c.n, c.q, c.ho, c.r, s'⟩
/-! the def's own lists changed -/
theorem SRel.setown (r : SRel S A δ μ) {n : Nat} (hn : μ[n]? = some (A i, ds)) (hi : S[i]? = some (.own ds)) : SRel (S.set i (.own es)) A δ (μ.set n (A i, es)) := by
  refine ⟨by simpa using r.len, by rw [set_fst hn]; exact r.nd, fun j e h => ?_, fun j fs h => ?_, fun j k fs gs h1 h2 => ?_⟩
  · rcases set_cases h with ⟨z, e1, hl⟩ | ⟨z, h⟩
    · cases e1
    · exact r.dat j e h
  · rcases set_cases h with ⟨z, e1, hl⟩ | ⟨z, h⟩
    · subst z
      cases e1
      exact ⟨(r.own i ds hi).1, List.mem_of_getElem? (List.getElem?_set_self (List.getElem?_eq_some_iff.mp hn).1)⟩
    · obtain ⟨h1, h2⟩ := r.own j fs h
      obtain ⟨m, hm⟩ := List.getElem?_of_mem h2
      have hne : n ≠ m := fun e => by
        subst e
        rw [hn] at hm
        exact z (r.inj i j ds fs hi h (congrArg Prod.fst (Option.some.inj hm)))
      exact ⟨h1, List.mem_of_getElem? (by rw [List.getElem?_set_ne hne]; exact hm)⟩
  · have back : ∀ (j : Nat) (fs : List DV), (S.set i (.own es))[j]? = some (.own fs) → ∃ gs, S[j]? = some (.own gs) := fun j fs h => by
      rcases set_cases h with ⟨z, e1, hl⟩ | ⟨z, h⟩
      · subst z
        exact ⟨ds, hi⟩
      · exact ⟨fs, h⟩
    obtain ⟨_, g1⟩ := back j fs h1
    obtain ⟨_, g2⟩ := back k gs h2
    exact r.inj j k _ _ g1 g2
theorem StC.setown {M : List Addr} {σ' : L2.St} {H' : Hp} (c : StC K F M0 Z q S σ H M δ μ A) {n : Nat} (hn : μ[n]? = some (A i, ds)) (hi : S[i]? = some (.own ds)) (s : Sta K F M δ (μ.set n (A i, es)) σ' H') : StC K F M0 Z q (S.set i (.own es)) σ' H' M δ (μ.set n (A i, es)) A :=
  ⟨c.z, c.n, c.q, fun j fs e h0 => by
    rcases set_cases e with ⟨z, e1, hl⟩ | ⟨z, h⟩
    · subst z
      exact c.ho i ds hi h0
    · exact c.ho j fs h h0, c.r.setown hn hi, s⟩
theorem w_app {f : α → DV} {xs zs : List α} {y : α} (hi : S[i]? = some (.own (xs.map f))) (ha : EXp K te S (f y)) (h : appO xs y = some zs) (S' : List SL) (k : P.nx S') (hS : S.set i (.own (zs.map f)) = S' := by rfl) :
    W K E (tDrop (tBM K "list" rAppend (tVar i) (tCons te tNil))) S P := fun F M0 Z q σ H D fr st ok => by
  subst hS
  unfold appO at h
  split at h
  · rename_i hz
    cases h
    obtain ⟨M, δ, μ, A, c⟩ := st
    obtain ⟨g1, g2⟩ := c.r.own i _ hi
    obtain ⟨n, hn⟩ := List.getElem?_of_mem g2
    refine y_app c.s (ex_var g1) (ha A δ μ c.r) hn (by simpa using hz) fun H' s' => ok.nx _ σ H' k ⟨M, δ, μ.set n (A i, xs.map f ++ [f y]), A, ?_⟩
    rw [List.map_append]
    exact c.setown hn hi s'
  · cases h
theorem w_setL {f : α → DV} {xs zs : List α} {y : α} {m : Int} (hi : S[i]? = some (.own (xs.map f))) (ha : EXp K te S (f y)) (hb : EXp K ta S (.int m)) (h : setO xs m y = some zs) (S' : List SL) (k : P.nx S') (hS : S.set i (.own (zs.map f)) = S' := by rfl) :
    W K E (tAsg te (gSub (tVar i) ta rSetL)) S P := fun F M0 Z q σ H D fr st ok => by
  subst hS
  unfold setO at h
  split at h
  · rename_i n' hix
    cases h
    obtain ⟨M, δ, μ, A, c⟩ := st
    obtain ⟨g1, g2⟩ := c.r.own i _ hi
    obtain ⟨n, hn⟩ := List.getElem?_of_mem g2
    refine y_setL c.s (ha A δ μ c.r) (ex_var g1) (hb A δ μ c.r) hn (by rw [List.length_map]; exact hix) fun H' s' => ok.nx _ σ H' k ⟨M, δ, μ.set n (A i, (xs.map f).set n' (f y)), A, ?_⟩
    rw [List.map_set]
    exact c.setown hn hi s'
  · cases h
theorem w_aug {f : Int → Int → Int} {a b : Int} (hx : S[i]? = some (.dat (.int a))) (h : EXp K te S (.int b)) (S' : List SL) (k : P.nx S') (hS : S.set i (.dat (.int (f a b))) = S' := by rfl) : W K E (tAug i te (ipI f)) S P := fun F M0 Z q σ H D fr st ok => by
  subst hS
  obtain ⟨M, δ, μ, A, c⟩ := st
  exact x_aug c.s (c.r.dat i _ hx) (h A δ μ c.r) fun σ' H' s' => ok.nx _ σ' H' k ⟨M, _, μ, A, c.asg s'⟩
theorem StC.asg2 {M : List Addr} {σ' : L2.St} {H' : Hp} (c : StC K F M0 Z q S σ H M δ μ A) (s : Sta K F M ((δ.set i (some d1)).set j (some d2)) μ σ' H') : StC K F M0 Z q ((S.set i (.dat d1)).set j (.dat d2)) σ' H' M ((δ.set i (some d1)).set j (some d2)) μ A :=
  ⟨c.z, c.n, c.q, fun k ds e h0 => (set_cases e).elim (fun z => by cases z.2.1) (fun z => (set_cases z.2).elim (fun z => by cases z.2.1) fun z => c.ho k ds z.2 h0), (c.r.set i d1).set j d2, s⟩
theorem StC.asg3 {M : List Addr} {σ' : L2.St} {H' : Hp} {l : Nat} (c : StC K F M0 Z q S σ H M δ μ A) (s : Sta K F M (((δ.set i (some d1)).set j (some d2)).set l (some d3)) μ σ' H') : StC K F M0 Z q (((S.set i (.dat d1)).set j (.dat d2)).set l (.dat d3)) σ' H' M (((δ.set i (some d1)).set j (some d2)).set l (some d3)) μ A :=
  ⟨c.z, c.n, c.q, fun k ds e h0 => (set_cases e).elim (fun z => by cases z.2.1) (fun z => (set_cases z.2).elim (fun z => by cases z.2.1) fun z => (set_cases z.2).elim (fun z => by cases z.2.1) fun z => c.ho k ds z.2 h0), ((c.r.set i d1).set j d2).set l d3, s⟩
theorem w_par {ta : TA} (h : AXp K ta S [d1, d2]) (S' : List SL) (k : P.nx S') (hS : (S.set i (.dat d1)).set j (.dat d2) = S' := by rfl) : W K E (tPar i j ta) S P := fun F M0 Z q σ H D fr st ok => by
  subst hS
  obtain ⟨M, δ, μ, A, c⟩ := st
  exact x_par c.s (h A δ μ c.r) fun σ' H' s' => ok.nx _ σ' H' k ⟨M, _, μ, A, c.asg2 s'⟩
theorem w_tup2 (h : EXp K te S (.tup [d1, d2])) (S' : List SL) (k : P.nx S') (hS : (S.set i (.dat d1)).set j (.dat d2) = S' := by rfl) : W K E (tAsg te (gTup K 2 (gCons (gName i) (gCons (gName j) gNil)))) S P := fun F M0 Z q σ H D fr st ok => by
  subst hS
  obtain ⟨M, δ, μ, A, c⟩ := st
  exact x_tup2 c.s (h A δ μ c.r) fun σ' H' s' => ok.nx _ σ' H' k ⟨M, _, μ, A, c.asg2 s'⟩
theorem w_tup3 {l : Nat} (h : EXp K te S (.tup [d1, d2, d3])) (S' : List SL) (k : P.nx S') (hS : ((S.set i (.dat d1)).set j (.dat d2)).set l (.dat d3) = S' := by rfl) : W K E (tAsg te (gTup K 3 (gCons (gName i) (gCons (gName j) (gCons (gName l) gNil))))) S P := fun F M0 Z q σ H D fr st ok => by
  subst hS
  obtain ⟨M, δ, μ, A, c⟩ := st
  exact x_tup3 c.s (h A δ μ c.r) fun σ' H' s' => ok.nx _ σ' H' k ⟨M, _, μ, A, c.asg3 s'⟩
/-- a list of the def's own stands still from here on -/
theorem w_free (hi : S[i]? = some (.own ds)) (S' : List SL) (k : W K E ts S' P) (hS : S.set i (.dat (.lst ds)) = S' := by rfl) (h0 : i ≠ 0 := by decide) : W K E ts S P := fun F M0 Z q σ H D fr st ok => by
  subst hS
  obtain ⟨M, δ, μ, A, c⟩ := st
  obtain ⟨g1, g2⟩ := c.r.own i ds hi
  obtain ⟨s, t, rfl⟩ := List.append_of_mem g2
  have hM : A i ∈ M := (c.s.dm _ g2).1
  have hp : A i ∉ M.filter (fun a => decide (a ≠ A i)) := by simp
  have st1 := c.s.perm (M' := A i :: M.filter fun a => decide (a ≠ A i)) (fun a => by
    by_cases e : a = A i
    · simp [e, hM]
    · simp [e]) List.perm_middle
  have st2 := st1.free hp g1
  have hnd := st1.nd
  rw [List.map_cons, List.nodup_cons] at hnd
  refine k F M0 Z q σ H D fr ⟨_, _, _, A, fun a ha => ?_, fun a ha => c.n a (List.mem_filter.mp ha).1, c.q, fun j fs e hj => ?_, ⟨by simpa using c.r.len, hnd.2, fun j e h => ?_, fun j fs h => ?_, fun j k fs gs h1 h2 => ?_⟩, st2⟩ ok
  · exact List.mem_filter.mpr ⟨c.z a ha, decide_eq_true fun e => c.ho i ds hi h0 (by rw [← e]; exact ha)⟩
  · exact (set_cases e).elim (fun z => by cases z.2.1) fun z => c.ho j fs z.2 hj
  · exact (c.r.set i (.lst ds)).dat j e h
  · rcases set_cases h with ⟨z, e1, _⟩ | ⟨z, h⟩
    · cases e1
    · obtain ⟨a1, a2⟩ := c.r.own j fs h
      refine ⟨by rw [List.getElem?_set_ne z]; exact a1, ?_⟩
      rcases List.mem_append.mp a2 with m | m
      · exact List.mem_append_left _ m
      · rcases List.mem_cons.mp m with m | m
        · exact (z (c.r.inj i j ds fs hi h (congrArg Prod.fst m).symm)).elim
        · exact List.mem_append_right _ m
  · rcases set_cases h1 with ⟨z, e1, _⟩ | ⟨z, h1⟩
    · cases e1
    rcases set_cases h2 with ⟨z, e1, _⟩ | ⟨z, h2⟩
    · cases e1
    exact c.r.inj j k fs gs h1 h2
end
end G
set_option Elab.async false
set_option linter.all false
set_option maxRecDepth 100000
/-! loops over slots; what changes a list of the def's own on the way; defs -/
namespace G
open PySem PySem.Spec PyProof.Rows L2 Evl
inductive Fl (τ ρ : Type) where
  | nx (s : τ)
  | bk (s : τ)
  | rt (r : ρ)
def loopO {α τ ρ : Type} (body : α → τ → Option (Fl τ ρ)) : List α → τ → Option (Fl τ ρ)
  | [], s => some (.nx s)
  | x :: xs, s => (body x s).bind fun fl => match fl with
    | .nx s' => loopO body xs s'
    | .bk s' => some (.nx s')
    | .rt r => some (.rt r)
def foldO {α τ : Type} (body : α → τ → Option τ) : List α → τ → Option τ
  | [], s => some s
  | x :: xs, s => (body x s).bind fun s' => foldO body xs s'
def thenL {τ ρ γ : Type} (k : τ → Option γ) (r : ρ → Option γ) : Fl τ ρ → Option γ
  | .nx s => k s
  | .bk s => k s
  | .rt x => r x
def whileO {τ ρ : Type} (c : τ → Option Bool) (body : τ → Option (Fl τ ρ)) : Nat → τ → Option (Fl τ ρ)
  | 0, _ => none
  | n + 1, s => (c s).bind fun b => if b then (body s).bind fun fl => (match fl with
    | .nx s' => whileO c body n s'
    | .bk s' => some (.nx s')
    | .rt r => some (.rt r)) else some (.nx s)
theorem foldO_loop {α τ ρ : Type} {body : α → τ → Option τ} : ∀ {xs : List α} {s t : τ}, foldO body xs s = some t → loopO (ρ := ρ) (fun x s => (body x s).map .nx) xs s = some (.nx t)
  | [], s, t, h => by cases h; rfl
  | x :: xs, s, t, h => by
    obtain ⟨s', h1, h2⟩ := bdO h
    show ((body x s).map Fl.nx).bind _ = _
    rw [h1]
    exact foldO_loop h2
section
variable {K : PySem.W.Frag} {E : XK} {F F1 H H' : Hp} {M0 Z M M1 : List Addr} {q : Option Addr} {S S1 S2 S' : List SL} {σ : L2.St} {δ : Env} {μ : Sto} {A : Nat → Addr} {P : Post} {ts t u tb : TS} {te ta tc : TE} {tr : TA} {tt tu : TT} {d d1 d2 d3 : DV} {ds es : List DV} {i j : Nat} {D : L2.Ends} {wi : TI} {g : TG} {α β τ ρ : Type}
theorem bS_own {x : α} : ∀ {bs : List (Nat × (α → DV))} {S : List SL} {i : Nat} {ds : List DV}, (bS bs x S)[i]? = some (.own ds) → S[i]? = some (.own ds)
  | [], _, _, _, h => h
  | p :: bs, S, i, ds, h => by
    have z := bS_own (bs := bs) (S := S.set p.1 (.dat (p.2 x))) h
    exact (set_cases z).elim (fun y => by cases y.2.1) fun y => y.2
theorem StC.narrow (c : StC K F1 M Z q S σ H M1 δ μ A) (e : Ex F F1) (hn : ∀ a ∈ M, a ∈ M0 ∨ F a = none) : StC K F M0 Z q S σ H M1 δ μ A :=
  ⟨c.z, fun a ha => (c.n a ha).elim (hn a) fun z => .inr (by
    cases h : F a with
    | none => rfl
    | some o => rw [e a o h] at z; cases z), c.q, c.ho, c.r, c.s.narrow e⟩
theorem none_of (e : Ex F F1) {a : Addr} (z : F1 a = none) : F a = none := by
  cases h : F a with
  | none => rfl
  | some o => rw [e a o h] at z; cases z
theorem ExcAt.back {x : Exc} {dd : Option Addr} (h : ExcAt F1 x dd H) (e : Ex F F1) : ExcAt F x dd H := by
  unfold ExcAt at h ⊢
  split at h
  · exact h
  · obtain ⟨a, h1, h2, h3⟩ := h
    exact ⟨a, h1, none_of e h2, h3⟩
/-- the end of a loop's body -/
abbrev bodyP (P : Post) (SE : τ → List SL) (PR : ρ → DV → List SL → Prop) (PL : ρ → List DV → List SL → Prop) (fl : Fl τ ρ) : Post :=
  { nx := fun S' => ∃ s', fl = .nx s' ∧ SLe S' (SE s'), ct := fun S' => ∃ s', fl = .nx s' ∧ SLe S' (SE s'), bk := fun S' => ∃ s', fl = .bk s' ∧ SLe S' (SE s'), rt := fun d S' => ∃ r, fl = .rt r ∧ PR r d S', rl := fun d S' => ∃ r, fl = .rt r ∧ PL r d S', xe := P.xe }
theorem ok_body {SE : τ → List SL} {PR : ρ → DV → List SL → Prop} {PL : ρ → List DV → List SL → Prop} {fl : Fl τ ρ} {N : L2.St → Hp → Prop} (ok : Ok K F M0 Z q E P D) (eF : Ex F F1) (hn : ∀ a ∈ M, a ∈ M0 ∨ F a = none)
    (hN : ∀ s' σ' H', fl = .nx s' → StS K F1 M Z q (SE s') σ' H' → N σ' H') (hb : ∀ s', fl = .bk s' → P.nx (SE s')) (hr : ∀ r d S', fl = .rt r → PR r d S' → P.rt d S') (hl : ∀ r d S', fl = .rt r → PL r d S' → P.rl d S') :
    Ok K F1 M Z q E (bodyP P SE PR PL fl) { D with nx := N, ct := N, bk := D.nx } where
  nx := fun S' σ' H' ⟨s', e, l⟩ st => hN s' σ' H' e (st.less l)
  ct := fun S' σ' H' ⟨s', e, l⟩ st => hN s' σ' H' e (st.less l)
  bk := fun S' σ' H' ⟨s', e, l⟩ st => by
    obtain ⟨M1, δ, μ, A, c⟩ := st.less l
    exact ok.nx _ σ' H' (hb s' e) ⟨M1, δ, μ, A, c.narrow eF hn⟩
  rt := fun d S' v σ' H' ⟨r, e, p⟩ st => by
    obtain ⟨M1, δ, μ, A, c, rv⟩ := st
    exact ok.rt d S' v σ' H' (hr r d S' e p) ⟨M1, δ, μ, A, c.narrow eF hn, rv⟩
  rl := fun d S' p σ' H' ⟨r, e, pp⟩ st => by
    obtain ⟨M1, δ, μ, z, n, f, pm, s⟩ := st
    exact ok.rl d S' p σ' H' (hl r d S' e pp) ⟨M1, δ, μ, z, fun a ha => (n a ha).elim (hn a) fun y => .inr (none_of eF y), none_of eF f, pm, s.narrow eF⟩
  xe := fun x dd H' h1 h2 h3 => ok.xe x dd H' h1 (h2.back eF) (eF.trans h3)
  nf := fun _ _ _ _ _ _ _ _ _ _ h => h.elim
theorem w_loop {xs : List α} {bs : List (Nat × (α → DV))} {body : α → τ → Option (Fl τ ρ)} {fl : Fl τ ρ} (SE : τ → List SL) (s0 : τ) (hS : SLe S (SE s0)) (w : WXl K wi g (SE s0) xs bs) (h : loopO body xs s0 = some fl)
    (PR : ρ → DV → List SL → Prop) (PL : ρ → List DV → List SL → Prop)
    (turn : ∀ x s fl', body x s = some fl' → W K E tb (bS bs x (SE s)) (bodyP P SE PR PL fl'))
    (done : ∀ s1, fl = .nx s1 → P.nx (SE s1)) (hr : ∀ r d S', fl = .rt r → PR r d S' → P.rt d S') (hl : ∀ r d S', fl = .rt r → PL r d S' → P.rl d S') : W K E (tFor wi g tb) S P := fun F M0 Z q σ H D fr st ok => by
  obtain ⟨M, δ, μ, A, c⟩ := st.less hS
  refine w A δ μ c.r F M σ H c.s _ fun J H1 e1 s1 T => ?_
  obtain ⟨s1w, eF, eB⟩ := s1.widen
  generalize hid (μ.map Prod.fst) H1 = F1 at s1w eF eB
  have back : ∀ {M1 : List Addr}, (∀ a ∈ M1, a ∈ M ∨ F1 a = none) → ∀ a o, hid M H1 a = some o → a ∉ M1 := fun {M1} h a o qq hm => by
    rcases h a hm with z | z
    · exact hid_no qq z
    · rw [eB a o qq] at z; cases z
  refine ⟨fun i m σ2 H2 => m = xs.length - i ∧ i ≤ xs.length ∧ ∃ s, loopO body (xs.drop i) s = some fl ∧ StS K F1 M Z q (SE s) σ2 H2, ⟨xs.length, by simp, Nat.zero_le _, s0, h, M, δ, μ, A, c.z, fun a ha => .inl ha, c.q, c.ho, c.r, s1w⟩, ?_⟩
  rintro i m σ2 H2 ⟨rfl, hi, s, hf, M2, δ2, μ2, A2, c2⟩
  have ed : Ex (hid M H1) (hid M2 H2) := c2.s.data eB (back c2.n)
  by_cases hlt : i < xs.length
  · rw [List.drop_eq_getElem_cons hlt] at hf
    obtain ⟨fl', hb, hf⟩ := bdO hf
    refine .inr ⟨T.go i H2 _ ed hlt, fun σ3 H3 => ∃ s', fl' = .nx s' ∧ StS K F1 M Z q (SE s') σ3 H3, fun σ3 H3 ⟨s', e, st'⟩ => ⟨xs.length - (i + 1), by omega, rfl, hlt, s', by subst e; exact hf, st'⟩, fun x H3 y => ?_⟩
    refine T.bind i H2 x H3 _ _ _ _ _ hlt ed c2.s y _ fun σ3 e3 s3 _ _ => ?_
    have hg := List.getElem?_eq_getElem hlt
    refine turn xs[i] s fl' hb F1 M Z q σ3 H3 _ True.intro ⟨M2, _, μ2, A2, c2.z, c2.n, c2.q, fun k fs e h0 => c2.ho k fs (bS_own e) h0, c2.r.bnd hg, s3⟩ (ok_body ok eF c.n (fun s' σ' H' e st' => ⟨s', e, st'⟩) (fun s' e => ?_) (fun r dd S' e p => ?_) (fun r dd S' e p => ?_))
    · subst e
      exact done s' (Option.some.inj hf).symm
    · subst e
      exact hr r dd S' (Option.some.inj hf).symm p
    · subst e
      exact hl r dd S' (Option.some.inj hf).symm p
  · have e : i = xs.length := by omega
    subst e
    rw [List.drop_length] at hf
    exact .inl ⟨T.stop H2 _ ed, ok.nx _ σ2 H2 (done s (Option.some.inj hf).symm) ⟨M2, δ2, μ2, A2, c2.narrow eF c.n⟩⟩
/-- the body neither returns nor breaks -/
theorem w_fold {xs : List α} {bs : List (Nat × (α → DV))} {body : α → τ → Option τ} {s1 : τ} (SE : τ → List SL) (s0 : τ) (hS : SLe S (SE s0)) (w : WXl K wi g (SE s0) xs bs) (h : foldO body xs s0 = some s1)
    (turn : ∀ x s s', body x s = some s' → W K E tb (bS bs x (SE s)) { nx := fun S' => SLe S' (SE s'), ct := fun S' => SLe S' (SE s'), xe := P.xe }) (done : P.nx (SE s1)) : W K E (tFor wi g tb) S P := by
  refine w_loop (ρ := Empty) SE s0 hS w (foldO_loop h) (fun r => r.elim) (fun r => r.elim) (fun x s fl' hb => ?_) (fun s e => by cases e; exact done) (fun r => r.elim) (fun r => r.elim)
  cases q : body x s with
  | none => rw [q] at hb; cases hb
  | some s' =>
    rw [q] at hb
    cases hb
    exact (turn x s s' q).post (fun S' l => ⟨s', rfl, l⟩) (fun _ z => z.elim) (fun S' l => ⟨s', rfl, l⟩) (fun _ _ z => z.elim) (fun _ _ z => z.elim) (fun _ z => z) (fun _ _ z => z) (fun _ _ _ _ _ z => z)
theorem w_while {c : τ → Option Bool} {body : τ → Option (Fl τ ρ)} {fl : Fl τ ρ} {n : Nat} (SE : τ → List SL) (s0 : τ) (hS : SLe S (SE s0)) (h : whileO c body n s0 = some fl) (PR : ρ → DV → List SL → Prop) (PL : ρ → List DV → List SL → Prop)
    (test : ∀ s b, c s = some b → TXp K tt (SE s) b) (turn : ∀ s fl', body s = some fl' → W K E tb (SE s) (bodyP P SE PR PL fl'))
    (done : ∀ s1, fl = .nx s1 → P.nx (SE s1)) (hr : ∀ r d S', fl = .rt r → PR r d S' → P.rt d S') (hl : ∀ r d S', fl = .rt r → PL r d S' → P.rl d S') : W K E (tWhile tt tb) S P := fun F M0 Z q σ H D fr st ok => by
  refine ⟨fun m σ2 H2 => ∃ s, whileO c body m s = some fl ∧ StS K F M0 Z q (SE s) σ2 H2, ⟨n, s0, h, st.less hS⟩, ?_⟩
  rintro m σ2 H2 ⟨s, hf, M2, δ2, μ2, A2, c2⟩
  cases m with
  | zero => cases hf
  | succ m =>
    obtain ⟨b, hb, hf⟩ := bdO hf
    refine test s b hb A2 δ2 μ2 c2.r F M2 σ2 H2 c2.s _ fun H3 e3 s3 => ?_
    have st3 : StS K F M0 Z q (SE s) σ2 H3 := ⟨M2, δ2, μ2, A2, c2.z, c2.n, c2.q, c2.ho, c2.r, s3⟩
    cases b with
    | true =>
      obtain ⟨fl', hb2, hf⟩ := bdO hf
      rw [if_pos rfl]
      refine ⟨fun σ4 H4 => ∃ s', fl' = .nx s' ∧ StS K F M0 Z q (SE s') σ4 H4, fun σ4 H4 ⟨s', e, st4⟩ => ⟨m, Nat.lt_succ_self m, s', by subst e; exact hf, st4⟩, ?_⟩
      refine turn s fl' hb2 F M0 Z q σ2 H3 _ True.intro st3 (ok_body ok (Ex.refl _) (fun a ha => .inl ha) (fun s' σ' H' e st' => ⟨s', e, st'⟩) (fun s' e => ?_) (fun r dd S' e p => ?_) (fun r dd S' e p => ?_))
      · subst e
        exact done s' (Option.some.inj hf).symm
      · subst e
        exact hr r dd S' (Option.some.inj hf).symm p
      · subst e
        exact hl r dd S' (Option.some.inj hf).symm p
    | false =>
      rw [if_neg Bool.false_ne_true]
      exact ok.nx _ σ2 H3 (done s (Option.some.inj hf).symm) st3
/-! ### what changes a list of the def's own on the way -/
theorem OwnLe.refl : OwnLe S S := fun i ds h => ⟨ds, h⟩
theorem OwnLe.trans (h1 : OwnLe S S1) (h2 : OwnLe S1 S2) : OwnLe S S2 := fun i ds h => let ⟨_, h'⟩ := h2 i ds h; h1 i _ h'
theorem eq_p (h : EXp K te S d) : EXq K te S S d := ⟨.refl, fun A δ μ r => ⟨μ, r, h A δ μ r⟩⟩
theorem eq_bin (f : ∀ δ μ μ1 μ2, EX K ta δ μ μ1 d1 → EX K tc δ μ1 μ2 d2 → EX K te δ μ μ2 d) (ha : EXq K ta S S1 d1) (hb : EXq K tc S1 S2 d2) : EXq K te S S2 d := ⟨ha.1.trans hb.1, fun A δ μ r => by
  obtain ⟨μ1, r1, e1⟩ := ha.2 A δ μ r
  obtain ⟨μ2, r2, e2⟩ := hb.2 A δ μ1 r1
  exact ⟨μ2, r2, f δ μ μ1 μ2 e1 e2⟩⟩
theorem eq_un (f : ∀ δ μ μ1, EX K ta δ μ μ1 d1 → EX K te δ μ μ1 d) (ha : EXq K ta S S1 d1) : EXq K te S S1 d := ⟨ha.1, fun A δ μ r => by
  obtain ⟨μ1, r1, e1⟩ := ha.2 A δ μ r
  exact ⟨μ1, r1, f δ μ μ1 e1⟩⟩
theorem EXq.is {d' : DV} (h : EXq K te S S1 d) (e : d = d') : EXq K te S S1 d' := e ▸ h
variable {a b : Int}
theorem eq_add (ha : EXq K ta S S1 (.int a)) (hb : EXq K tc S1 S2 (.int b)) : EXq K (tOp (rI0 fun i j => .int (i + j)) ta tc) S S2 (.int (a + b)) := eq_bin (fun _ _ _ _ => ex_add) ha hb
theorem eq_sub (ha : EXq K ta S S1 (.int a)) (hb : EXq K tc S1 S2 (.int b)) : EXq K (tOp (rI0 fun i j => .int (i - j)) ta tc) S S2 (.int (a - b)) := eq_bin (fun _ _ _ _ => ex_sub) ha hb
theorem eq_mul {c : Int} (ha : EXq K ta S S1 (.int a)) (hb : EXq K tc S1 S2 (.int b)) (h : mulO a b = some c) : EXq K (tOp (rI CMulB fun i j => .int (i * j)) ta tc) S S2 (.int c) := by
  unfold mulO at h
  split at h
  · rename_i hc
    cases h
    exact eq_bin (fun _ _ _ _ p q => ex_mul p q hc) ha hb
  · cases h
theorem eq_eqI (ha : EXq K ta S S1 (.int a)) (hb : EXq K tc S1 S2 (.int b)) : EXq K (tOp rEq ta tc) S S2 (.bl (decide (a = b))) := eq_bin (fun _ _ _ _ => ex_eqI) ha hb
theorem eq_neI (ha : EXq K ta S S1 (.int a)) (hb : EXq K tc S1 S2 (.int b)) : EXq K (tOp rNe ta tc) S S2 (.bl (!decide (a = b))) := eq_bin (fun _ _ _ _ => ex_neI) ha hb
theorem eq_lt (ha : EXq K ta S S1 (.int a)) (hb : EXq K tc S1 S2 (.int b)) : EXq K (tOp (rI0 fun i j => .bl (decide (i < j))) ta tc) S S2 (.bl (decide (a < b))) := eq_bin (fun _ _ _ _ => ex_lt) ha hb
theorem eq_gt (ha : EXq K ta S S1 (.int a)) (hb : EXq K tc S1 S2 (.int b)) : EXq K (tOp (rI0 fun i j => .bl (decide (j < i))) ta tc) S S2 (.bl (decide (b < a))) := eq_bin (fun _ _ _ _ => ex_gt) ha hb
theorem aq_nil : AXq K tNil S S [] := ⟨.refl, fun A δ μ r => ⟨μ, r, ax_nil⟩⟩
theorem aq_p (h : AXp K tr S ds) : AXq K tr S S ds := ⟨.refl, fun A δ μ r => ⟨μ, r, h A δ μ r⟩⟩
theorem aq_cons (h : EXq K ta S S1 d) (hr : AXq K tr S1 S2 ds) : AXq K (tCons ta tr) S S2 (d :: ds) := ⟨h.1.trans hr.1, fun A δ μ r => by
  obtain ⟨μ1, r1, e1⟩ := h.2 A δ μ r
  obtain ⟨μ2, r2, e2⟩ := hr.2 A δ μ1 r1
  exact ⟨μ2, r2, ax_cons e1 e2⟩⟩
theorem eq_tup (h : AXq K tr S S1 ds) (hl : ds.length ≤ 100000 := by simp) : EXq K (tTup tr) S S1 (.tup ds) := ⟨h.1, fun A δ μ r => by
  obtain ⟨μ1, r1, e1⟩ := h.2 A δ μ r
  exact ⟨μ1, r1, ex_tup e1 hl⟩⟩
theorem lq_lst (h : AXq K tr S S1 ds) (hl : ds.length ≤ 100000 := by simp) : LXq K (tLst tr) S S1 ds := ⟨h.1, fun A δ μ r => by
  obtain ⟨μ1, r1, e1⟩ := h.2 A δ μ r
  exact ⟨μ1, r1, lx_lst e1 hl⟩⟩
theorem LXq.ex (h : LXq K te S S1 ds) : EXq K te S S1 (.lst ds) := ⟨h.1, fun A δ μ r => by
  obtain ⟨μ1, r1, e1⟩ := h.2 A δ μ r
  exact ⟨μ1, r1, e1.ex⟩⟩
theorem eq_tuple (h : LXq K te S S1 ds) : EXq K (tCB (rTupQ K) (tCons te tNil)) S S1 (.tup ds) := ⟨h.1, fun A δ μ r => by
  obtain ⟨μ1, r1, e1⟩ := h.2 A δ μ r
  exact ⟨μ1, r1, ex_tuple e1.ex (.lst _)⟩⟩
theorem eq_call {R : List DV → DV → Prop} {E : XK} (ha : AXq K tr S S1 ds) (h : R ds d) : EXq K (tCall (spD K R) [] E tr) S S1 d := ⟨ha.1, fun A δ μ r => by
  obtain ⟨μ1, r1, e1⟩ := ha.2 A δ μ r
  exact ⟨μ1, r1, ex_call e1 h⟩⟩
/-- a call that changes the list at slot i -/
theorem eq_callS {R : List DV → List DV → List DV → DV → Prop} {E : XK} {s0 s1 : List DV} (S' : List SL) (hi : S[i]? = some (.own s0)) (hr : AXp K tr S ds) (h : R s0 ds s1 d) (hS : S.set i (.own s1) = S' := by rfl) : EXq K (tCall (spS K R) [] E (tCons (tVar i) tr)) S S' d := by
  subst hS
  refine ⟨fun j fs e => ?_, fun A δ μ r => ?_⟩
  · rcases set_cases e with ⟨z, e1, _⟩ | ⟨z, e⟩
    · subst z
      exact ⟨_, hi⟩
    · exact ⟨_, e⟩
  · obtain ⟨g1, g2⟩ := r.own i _ hi
    obtain ⟨n, hn⟩ := List.getElem?_of_mem g2
    exact ⟨_, r.setown hn hi, ex_callS (ex_var g1) (hr A δ μ r) hn h⟩
theorem tq_test {b : Bool} (h : EXq K te S S1 (.bl b)) : TXq K (tTest te) S S1 b := ⟨h.1, fun A δ μ r => by
  obtain ⟨μ1, r1, e1⟩ := h.2 A δ μ r
  exact ⟨μ1, r1, tx_test e1⟩⟩
theorem tq_val {b : Bool} (h : EXq K te S S1 (.bl b)) : TXq K (tB te) S S1 b := ⟨h.1, fun A δ μ r => by
  obtain ⟨μ1, r1, e1⟩ := h.2 A δ μ r
  exact ⟨μ1, r1, tx_val e1⟩⟩
theorem tq_p {b : Bool} (h : TXp K tt S b) : TXq K tt S S b := ⟨.refl, fun A δ μ r => ⟨μ, r, h A δ μ r⟩⟩
/-- and, the second operand changing the list at slot i; m: what it comes to, with the list's content -/
theorem tq_andM {f : β → DV} {s s' : List β} {a r : Bool} {m : Option (Bool × List β)} (S' : List SL) (hi : S[i]? = some (.own (s.map f))) (h1 : TXp K tt S a) (h : (if a then m else some (false, s)) = some (r, s'))
    (h2 : a = true → ∀ b s', m = some (b, s') → TXq K tu S (S.set i (.own (s'.map f))) b) (hS : S.set i (.own (s'.map f)) = S' := by rfl) : TXq K (tAnd tt tu) S S' r := by
  subst hS
  cases a with
  | true =>
    have z := h2 rfl r s' h
    refine ⟨z.1, fun A δ μ rr => ?_⟩
    obtain ⟨μ1, r1, e1⟩ := z.2 A δ μ rr
    exact ⟨μ1, r1, TX.is (tx_andS (h1 A δ μ rr) (fun _ => e1) fun z => by cases z) (Bool.true_and r)⟩
  | false =>
    cases h
    have hS : S.set i (.own (s.map f)) = S := by
      refine List.ext_getElem? fun n => ?_
      by_cases hn : i = n
      · subst hn
        rw [List.getElem?_set_self (List.getElem?_eq_some_iff.mp hi).1, hi]
      · rw [List.getElem?_set_ne hn]
    rw [hS]
    exact ⟨.refl, fun A δ μ rr => ⟨μ, rr, TX.is (tx_andS (b := true) (h1 A δ μ rr) (fun z => by cases z) fun _ => rfl) (Bool.false_and true)⟩⟩
theorem StC.to (c : StC K F M0 Z q S σ H M δ μ A) {μ' : Sto} {H' : Hp} (o : OwnLe S S') (r : SRel S' A δ μ') (s : Sta K F M δ μ' σ H') : StC K F M0 Z q S' σ H' M δ μ' A :=
  ⟨c.z, c.n, c.q, fun i ds e h0 => let ⟨es, h⟩ := o i ds e; c.ho i es h h0, r, s⟩
/-- an expression's change ahead of a statement -/
theorem w_ifq {b : Bool} (h : TXq K tt S S1 b) (h1 : b = true → W K E t S1 P) (h2 : b = false → W K E u S1 P) : W K E (tIfS tt t u) S P := fun F M0 Z q σ H D fr st ok => by
  obtain ⟨M, δ, μ, A, c⟩ := st
  obtain ⟨μ1, r1, e1⟩ := h.2 A δ μ c.r
  exact x_if c.s e1 (fun hb H' s' => h1 hb F M0 Z q σ H' D fr ⟨M, δ, μ1, A, c.to h.1 r1 s'⟩ ok) fun hb H' s' => h2 hb F M0 Z q σ H' D fr ⟨M, δ, μ1, A, c.to h.1 r1 s'⟩ ok
theorem w_asgq (ha : EXq K te S S1 d) (S' : List SL) (k : P.nx S') (hS : S1.set i (.dat d) = S' := by rfl) : W K E (tAsg te (gName i)) S P := fun F M0 Z q σ H D fr st ok => by
  subst hS
  obtain ⟨M, δ, μ, A, c⟩ := st
  obtain ⟨μ1, r1, e1⟩ := ha.2 A δ μ c.r
  refine e1 F M σ H c.s _ fun v H1 _ s1 rv => ?_
  exact ok.nx _ _ H1 k ⟨M, _, μ1, A, (c.to ha.1 r1 s1).asg (s1.put rv)⟩
theorem w_retq (ha : EXq K te S S1 d) (k : P.rt d S1) : W K E (tRet te) S P := fun F M0 Z q σ H D fr st ok => by
  obtain ⟨M, δ, μ, A, c⟩ := st
  obtain ⟨μ1, r1, e1⟩ := ha.2 A δ μ c.r
  exact x_ret c.s e1 fun v H' s' rv => ok.rt d S1 v σ H' k ⟨M, δ, μ1, A, c.to ha.1 r1 s', rv⟩
theorem w_dropq (ha : EXq K te S S1 d) (k : P.nx S1) : W K E (tDrop te) S P := fun F M0 Z q σ H D fr st ok => by
  obtain ⟨M, δ, μ, A, c⟩ := st
  obtain ⟨μ1, r1, e1⟩ := ha.2 A δ μ c.r
  exact x_drop c.s e1 fun H' s' => ok.nx S1 σ H' k ⟨M, δ, μ1, A, c.to ha.1 r1 s'⟩
theorem w_parq {ta : TA} (h : AXq K ta S S1 [d1, d2]) (S' : List SL) (k : P.nx S') (hS : (S1.set i (.dat d1)).set j (.dat d2) = S' := by rfl) : W K E (tPar i j ta) S P := fun F M0 Z q σ H D fr st ok => by
  subst hS
  obtain ⟨M, δ, μ, A, c⟩ := st
  obtain ⟨μ1, r1, e1⟩ := h.2 A δ μ c.r
  exact x_par c.s e1 fun σ' H' s' => ok.nx _ σ' H' k ⟨M, _, μ1, A, ⟨c.z, c.n, c.q, fun k ds e h0 => (set_cases e).elim (fun z => by cases z.2.1) (fun z => (set_cases z.2).elim (fun z => by cases z.2.1) fun z => let ⟨es, g⟩ := h.1 k ds z.2; c.ho k es g h0), (r1.set i d1).set j d2, s'⟩⟩
end
end G
set_option Elab.async false
set_option linter.all false
set_option maxRecDepth 100000
/-! comprehensions that change a list of the def's own; defs -/
namespace G
open PySem PySem.Spec PyProof.Rows L2 Evl
def mapS {α β τ : Type} (f : α → τ → Option (β × τ)) : List α → τ → Option (List β × τ)
  | [], s => some ([], s)
  | x :: xs, s => (f x s).bind fun p => (mapS f xs p.2).bind fun q => some (p.1 :: q.1, q.2)
@[irreducible] def lcS {α β τ : Type} (f : α → τ → Option (β × τ)) (xs : List α) (s : τ) : Option (List β × τ) := if xs.length ≤ 100000 then mapS f xs s else none
def stF {α β τ : Type} (f : α → τ → Option (β × τ)) : List α → τ → Nat → τ
  | [], s, _ => s
  | _ :: _, s, 0 => s
  | x :: xs, s, i + 1 => match f x s with
    | some p => stF f xs p.2 i
    | none => s
def outF {α β τ : Type} (f : α → τ → Option (β × τ)) (e : β → DV) : List α → τ → Nat → DV
  | [], _, _ => .non
  | x :: _, s, 0 => match f x s with
    | some p => e p.1
    | none => .non
  | x :: xs, s, i + 1 => match f x s with
    | some p => outF f e xs p.2 i
    | none => .non
theorem stF_zero {α β τ : Type} {f : α → τ → Option (β × τ)} {xs : List α} {s : τ} : stF f xs s 0 = s := by cases xs <;> rfl
theorem mapS_some {α β τ : Type} {f : α → τ → Option (β × τ)} : ∀ {xs : List α} {s s1 : τ} {ys : List β}, mapS f xs s = some (ys, s1) →
    (∀ i x, xs[i]? = some x → ∃ y, f x (stF f xs s i) = some (y, stF f xs s (i + 1)) ∧ ∀ e : β → DV, outF f e xs s i = e y) ∧ stF f xs s xs.length = s1 ∧ ∀ e : β → DV, ys.map e = (List.range xs.length).map (outF f e xs s)
  | [], s, s1, ys, h => by
    cases h
    exact ⟨fun i x h => by simp at h, rfl, fun e => rfl⟩
  | x :: xs, s, s1, ys, h => by
    obtain ⟨p, hp, h⟩ := bdO h
    obtain ⟨r, hr, h⟩ := bdO h
    obtain ⟨h1, h2, h3⟩ := mapS_some hr
    cases h
    refine ⟨fun i y hy => ?_, ?_, fun e => ?_⟩
    · cases i with
      | zero =>
        simp at hy
        subst hy
        refine ⟨p.1, ?_, fun e => ?_⟩
        · show f x s = some (p.1, match f x s with | some p => stF f xs p.2 0 | none => s)
          rw [hp]
          show some p = some (p.1, stF f xs p.2 0)
          rw [stF_zero]
        · show (match f x s with | some p => e p.1 | none => DV.non) = _
          rw [hp]
      | succ i =>
        obtain ⟨z, hz, ho⟩ := h1 i y (by simpa using hy)
        refine ⟨z, ?_, fun e => ?_⟩
        · show f y (match f x s with | some p => stF f xs p.2 i | none => s) = some (z, match f x s with | some p => stF f xs p.2 (i + 1) | none => s)
          rw [hp]
          exact hz
        · show (match f x s with | some p => outF f e xs p.2 i | none => DV.non) = _
          rw [hp]
          exact ho e
    · show (match f x s with | some p => stF f xs p.2 xs.length | none => s) = _
      rw [hp]
      exact h2
    · rw [List.map_cons, List.length_cons, List.range_succ_eq_map, List.map_cons, List.map_map, h3 e]
      congr 1
      · show _ = (match f x s with | some p => e p.1 | none => DV.non)
        rw [hp]
      · refine List.map_congr_left fun i _ => ?_
        show _ = (match f x s with | some p => outF f e xs p.2 i | none => DV.non)
        rw [hp]
theorem chain {τ : Type} {n : Nat} {P : Nat → τ → Prop} {R : Nat → τ → τ → Prop} (x0 : τ) (h0 : P 0 x0) (hs : ∀ i x, i < n → P i x → ∃ y, P (i + 1) y ∧ R i x y) : ∃ f : Nat → τ, f 0 = x0 ∧ P n (f n) ∧ ∀ i, i < n → R i (f i) (f (i + 1)) := by
  induction n with
  | zero => exact ⟨fun _ => x0, rfl, h0, fun i h => absurd h (Nat.not_lt_zero i)⟩
  | succ n ih =>
    obtain ⟨f, e, hp, hr⟩ := ih fun i x hi => hs i x (Nat.lt_succ_of_lt hi)
    obtain ⟨y, hy, hr2⟩ := hs n (f n) (Nat.lt_succ_self n) hp
    refine ⟨fun i => if i ≤ n then f i else y, by simpa using e, by show P (n + 1) (if n + 1 ≤ n then f (n + 1) else y); rw [if_neg (by omega)]; exact hy, fun i hi => ?_⟩
    show R i (if i ≤ n then f i else y) (if i + 1 ≤ n then f (i + 1) else y)
    by_cases h : i < n
    · rw [if_pos (by omega), if_pos (by omega)]
      exact hr i h
    · have e2 : i = n := by omega
      subst e2
      rw [if_pos (Nat.le_refl _), if_neg (by omega)]
      exact hr2
section
variable {K : PySem.W.Frag} {E : XK} {F F1 H H' : Hp} {M0 Z M M1 : List Addr} {q : Option Addr} {S S1 S2 S' : List SL} {σ : L2.St} {δ : Env} {μ : Sto} {A : Nat → Addr} {P : Post} {ts t u tb : TS} {te ta tc : TE} {tr : TA} {tt tu : TT} {d d1 d2 d3 : DV} {ds es : List DV} {i j k : Nat} {D : L2.Ends} {wi : TI} {g : TG} {α β γ τ ρ : Type}
theorem wipe_out {vs : List Nat} {S : List SL} {k : Nat} {s : SL} (hk : k ∉ vs) (h : S[k]? = some s) : (wipeS S vs)[k]? = some s := by
  induction vs with
  | nil => exact h
  | cons v vs ih =>
    show ((wipeS S vs).set v .un)[k]? = some s
    rw [List.getElem?_set_ne (fun e => hk (by rw [e]; exact List.mem_cons_self))]
    exact ih fun e => hk (List.mem_cons_of_mem _ e)
theorem bS_out {x : α} {s : SL} : ∀ {bs : List (Nat × (α → DV))} {S : List SL}, k ∉ bs.map Prod.fst → S[k]? = some s → (bS bs x S)[k]? = some s
  | [], _, _, h => h
  | p :: bs, S, hk, h => bS_out (bs := bs) (S := S.set p.1 (.dat (p.2 x))) (fun e => hk (List.mem_cons_of_mem _ e)) (by rw [List.getElem?_set_ne (fun e => hk (by rw [← e]; exact List.mem_cons_self))]; exact h)
theorem not_vs {vs : List Nat} (h : (vs.all fun v => noOwn S[v]?) = true) {k : Nat} {ds : List DV} (hk : S[k]? = some (.own ds)) : k ∉ vs := fun hm => by
  have := List.all_eq_true.mp h k hm
  rw [hk] at this
  cases this
theorem lq_lcS {vs : List Nat} {xs : List α} {bs : List (Nat × (α → DV))} {f : α → List γ → Option (β × List γ)} {s s1 : List γ} {ys : List β} {e : β → DV} {eg : γ → DV} (S' : List SL) (SB : α → List γ → List SL) (hk : S[k]? = some (.own (s.map eg))) (w : WXl K wi g S xs bs) (h : lcS f xs s = some (ys, s1))
    (hj : ∀ j ∈ bs.map Prod.fst, j ∈ vs) (hov : (vs.all fun v => noOwn S[v]?) = true)
    (he : ∀ x s y s', f x s = some (y, s') → EXq K te (SB x s) (SB x s') (e y)) (hS : S.set k (.own (s1.map eg)) = S' := by rfl) (hB : ∀ x s, bS bs x (wipeS (S.set k (.own (s.map eg))) vs) = SB x s := by intro _ _; rfl) : LXq K (tLc wi g tYes te vs) S S' (ys.map e) := by
  subst hS
  unfold lcS at h
  split at h
  · rename_i hl
    obtain ⟨h1, h2, h3⟩ := mapS_some h
    have hkv := not_vs hov hk
    have hkl := (List.getElem?_eq_some_iff.mp hk).1
    refine ⟨fun j fs e => ?_, fun A δ μ r => ?_⟩
    · rcases set_cases e with ⟨z, _, _⟩ | ⟨_, z⟩
      · subst z
        exact ⟨_, hk⟩
      · exact ⟨_, z⟩
    have hS0 : S.set k (.own (s.map eg)) = S := by
      refine List.ext_getElem? fun n => ?_
      by_cases hn : k = n
      · subst hn
        rw [List.getElem?_set_self hkl, hk]
      · rw [List.getElem?_set_ne hn]
    obtain ⟨μs, e0, hp, hr⟩ := chain (n := xs.length) (P := fun i μ => SRel (S.set k (.own ((stF f xs s i).map eg))) A δ μ) (R := fun i μ μ' => EX K te (bnd xs bs i (wipeD δ vs)) μ μ' (outF f e xs s i)) μ (by rw [stF_zero, hS0]; exact r) fun i μ1 hi r1 => by
      have hx := List.getElem?_eq_getElem hi
      obtain ⟨y, hy, ho⟩ := h1 i _ hx
      have z := (he xs[i] _ y _ hy).2 A _ μ1 (by rw [← hB]; exact (r1.wipe vs).bnd hx)
      obtain ⟨μ2, r2, ex⟩ := z
      refine ⟨μ2, ?_, by rw [ho e]; exact ex⟩
      rw [← hB] at r2
      have key : ∀ (j : Nat) (fs : List DV), (S.set k (.own ((stF f xs s (i + 1)).map eg)))[j]? = some (.own fs) → (bS bs xs[i] (wipeS (S.set k (.own ((stF f xs s (i + 1)).map eg))) vs))[j]? = some (.own fs) := fun j fs hq => by
        have hjv : j ∉ vs := by
          rcases set_cases hq with ⟨z, _, _⟩ | ⟨_, z⟩
          · rw [← z]; exact hkv
          · exact not_vs hov z
        exact bS_out (fun hm => hjv (hj j hm)) (wipe_out hjv hq)
      refine ⟨by simpa using r.len, r2.nd, fun j d hq => ?_, fun j fs hq => ⟨?_, (r2.own j fs (key j fs hq)).2⟩, fun j l fs gs q1 q2 => r2.inj j l fs gs (key j fs q1) (key l gs q2)⟩
      · rcases set_cases hq with ⟨z, e1, _⟩ | ⟨z, hq⟩
        · cases e1
        · exact r.dat j d hq
      · rcases set_cases hq with ⟨z, e1, _⟩ | ⟨z, hq⟩
        · subst z
          exact (r.own k _ hk).1
        · exact (r.own j fs hq).1
    refine ⟨μs xs.length, by rw [← h2]; exact hp, ?_⟩
    rw [h3 e]
    have z := lx_lcA (te := te) (vs := vs) (w A δ μ r) (outF f e xs s) μs e0 hl hj hr
    exact z
  · cases h
/-! ### defs -/
def startS (n : Nat) (ds : List DV) : List SL := ds.map .dat ++ List.replicate (n - ds.length) .un
theorem SRel.start {n : Nat} {ds : List DV} : SRel (startS n ds) A (startD n ds) [] := by
  refine ⟨by simp [startS, startD], by simp, fun i d h => ?_, fun i es h => ?_, fun i j es fs h => ?_⟩
  · unfold startS at h
    unfold startD
    by_cases hi : i < ds.length
    · rw [List.getElem?_append_left (by simpa using hi), List.getElem?_map] at h
      rw [List.getElem?_append_left (by simpa using hi), List.getElem?_map]
      cases q : ds[i]? with
      | none => rw [q] at h; cases h
      | some x =>
        rw [q] at h
        cases h
        rfl
    · rw [List.getElem?_append_right (by simpa using hi), List.getElem?_replicate] at h
      split at h <;> cases h
  · exfalso
    unfold startS at h
    by_cases hi : i < ds.length
    · rw [List.getElem?_append_left (by simpa using hi), List.getElem?_map] at h
      cases q : ds[i]? with
      | none => rw [q] at h; cases h
      | some x => rw [q] at h; cases h
    · rw [List.getElem?_append_right (by simpa using hi), List.getElem?_replicate] at h
      split at h <;> cases h
  · exfalso
    unfold startS at h
    by_cases hi : i < ds.length
    · rw [List.getElem?_append_left (by simpa using hi), List.getElem?_map] at h
      cases q : ds[i]? with
      | none => rw [q] at h; cases h
      | some x => rw [q] at h; cases h
    · rw [List.getElem?_append_right (by simpa using hi), List.getElem?_replicate] at h
      split at h <;> cases h
theorem start_own {n : Nat} {ds es : List DV} {i : Nat} (h : (startS n ds)[i]? = some (.own es)) : False := by
  unfold startS at h
  by_cases hi : i < ds.length
  · rw [List.getElem?_append_left (by simpa using hi), List.getElem?_map] at h
    cases q : ds[i]? with
    | none => rw [q] at h; cases h
    | some x => rw [q] at h; cases h
  · rw [List.getElem?_append_right (by simpa using hi), List.getElem?_replicate] at h
    split at h <;> cases h
variable {Pg : Program} {w : World} {mg : Str → Option Value} {base : Heap}
/-- a def from data to data -/
theorem okW {x qual : Str} {st : Stmt} {f : Addr} {fd : FuncData} {N ps : List Str} {k : Nat} {R : List DV → DV → Prop} (Fn : Fun K x qual st f fd) (Sc : FnScope N ps (defScope st)) (len : ∀ ds r, R ds r → ds.length = ps.length)
    (body : ∀ (cdv : Value) (A : Around) (outer : List PySem.Env) (s : Shared) (H : Hp) (E : XK), Room k (A.deeper (envOfC qual (defScope st) s.heap.objs.size f cdv)) →
      ∃ t, PSs (cxOf CX0 Pg w K mg base N qual (defScope st) f cdv A outer s H E).nox (defBody st) t ∧ ∀ ds r, R ds r → W K E0 t (startS N.length ds) { rt := fun d _ => d = r, nx := fun _ => r = .non }) : FnOk Pg w K mg base CX0 (k + 1) f fd ps (spD K R) := by
  refine okD Fn Sc len fun cdv A outer s H E hr => ?_
  obtain ⟨t, h1, h2⟩ := body cdv A outer s H E hr
  refine ⟨t, h1, fun F M ds r σ H1 D hR st krt knx => ?_⟩
  refine h2 ds r hR F M M none σ H1 D True.intro ⟨M, _, [], fun _ => 0, fun a h => h, fun a h => .inl h, fun a h => (by cases h), fun i es h _ => (start_own h).elim, SRel.start, st⟩ ⟨?_, fun _ _ _ h => h.elim, fun _ _ _ h => h.elim, ?_, fun _ _ _ _ _ h => h.elim, fun _ _ _ h => h.elim, fun _ _ _ _ _ _ _ _ _ _ h => h.elim⟩
  · rintro S' σ' H' e ⟨M', δ, μ, A, c⟩
    exact knx σ' H' (krt .non H' c.s.fr (by rw [e]; exact .non))
  · rintro d S' v σ' H' e ⟨M', δ, μ, A, c, rv⟩
    subst e
    exact krt v H' c.s.fr (rv.mono (hid_less c.z))
/-- less of the store, less hidden -/
theorem Sta.shrink {μ' : Sto} {M' : List Addr} (s : Sta K F M δ μ σ H) (hM : ∀ a ∈ M', a ∈ M) (hμ : ∀ p ∈ μ', p ∈ μ ∧ p.1 ∈ M') (nd : (μ'.map Prod.fst).Nodup) : Sta K F M' δ μ' σ H :=
  ⟨fun a h => s.al a (hM a h), s.fr, fun p h => ⟨(hμ p h).2, (s.dm p (hμ p h).1).2⟩, nd, fun p h => let ⟨vs, h1, h2⟩ := s.sto p (hμ p h).1; ⟨vs, h1, h2.mono (hid_less hM)⟩, fun i d h => let ⟨v, h1, h2⟩ := s.env i d h; ⟨v, h1, h2.mono (hid_less hM)⟩, s.len⟩
theorem okL2 {x qual : Str} {st : Stmt} {f : Addr} {fd : FuncData} {N ps : List Str} {k : Nat} {R : List DV → List DV → Prop} (Fn : Fun K x qual st f fd) (Sc : FnScope N ps (defScope st)) (len : ∀ ds r, R ds r → ds.length = ps.length)
    (body : ∀ (cdv : Value) (A : Around) (outer : List PySem.Env) (s : Shared) (H : Hp) (E : XK), Room k (A.deeper (envOfC qual (defScope st) s.heap.objs.size f cdv)) →
      ∃ t, PSs (cxOf CX0 Pg w K mg base N qual (defScope st) f cdv A outer s H E).nox (defBody st) t ∧ ∀ F M ds rs σ H1 D, R ds rs → Sta K F M (startD N.length ds) [] σ H1 →
        (∀ p σ' H' δ, F p = none → Sta K F (p :: M) δ [(p, rs)] σ' H' → D.rt (.ref p) H') → t D σ H1) : FnOk Pg w K mg base CX0 (k + 1) f fd ps (spL K R) := by
  refine Fn.ok Sc (fun vs H Q E ⟨M, ds, r, _, h1, h2, _⟩ => by rw [h1.length]; exact len _ _ h2) fun cdv A outer s H vs Q E hr ⟨M, ds, rs, al, ra, hR, kq⟩ => ?_
  obtain ⟨t, h1, h2⟩ := body cdv A outer s H E hr
  refine ⟨t, h1, h2 H M ds rs _ H _ hR (sta_start al ra) fun p σ' H' δ hp s' => ?_⟩
  obtain ⟨ws, g1, g2⟩ := s'.sto (p, rs) (by simp)
  exact kq p ws H' hp s'.fr g1 g2
/-- .. to a new list -/
theorem okWL {x qual : Str} {st : Stmt} {f : Addr} {fd : FuncData} {N ps : List Str} {k : Nat} {R : List DV → List DV → Prop} (Fn : Fun K x qual st f fd) (Sc : FnScope N ps (defScope st)) (len : ∀ ds r, R ds r → ds.length = ps.length)
    (body : ∀ (cdv : Value) (A : Around) (outer : List PySem.Env) (s : Shared) (H : Hp) (E : XK), Room k (A.deeper (envOfC qual (defScope st) s.heap.objs.size f cdv)) →
      ∃ t, PSs (cxOf CX0 Pg w K mg base N qual (defScope st) f cdv A outer s H E).nox (defBody st) t ∧ ∀ ds r, R ds r → W K E0 t (startS N.length ds) { rl := fun d _ => d = r }) : FnOk Pg w K mg base CX0 (k + 1) f fd ps (spL K R) := by
  refine okL2 Fn Sc len fun cdv A outer s H E hr => ?_
  obtain ⟨t, h1, h2⟩ := body cdv A outer s H E hr
  refine ⟨t, h1, fun F M ds r σ H1 D hR st krt => ?_⟩
  refine h2 ds r hR F M M none σ H1 D True.intro ⟨M, _, [], fun _ => 0, fun a h => h, fun a h => .inl h, fun a h => (by cases h), fun i es h _ => (start_own h).elim, SRel.start, st⟩ ⟨fun _ _ _ h => h.elim, fun _ _ _ h => h.elim, fun _ _ _ h => h.elim, fun _ _ _ _ _ h => h.elim, ?_, fun _ _ _ h => h.elim, fun _ _ _ _ _ _ _ _ _ _ h => h.elim⟩
  rintro d S' p σ' H' e ⟨M', δ, μ, z, n, f, pm, s⟩
  subst e
  refine krt p σ' H' δ f (s.shrink (M' := p :: M) (μ' := [(p, d)]) (fun a ha => (List.mem_cons.mp ha).elim (fun e => by rw [e]; exact List.mem_cons_self) fun h => List.mem_cons_of_mem _ (z a h)) (fun x hx => ?_) (by simp))
  rw [List.mem_singleton.mp hx]
  exact ⟨List.mem_cons_self, List.mem_cons_self⟩
/-- .. whose first argument is a list that it changes -/
theorem okWS {x qual : Str} {st : Stmt} {f : Addr} {fd : FuncData} {N ps : List Str} {k : Nat} {R : List DV → List DV → List DV → DV → Prop} (Fn : Fun K x qual st f fd) (Sc : FnScope N ps (defScope st)) (len : ∀ s ds s' r, R s ds s' r → ds.length + 1 = ps.length) (hN : 0 < N.length)
    (body : ∀ (cdv : Value) (A : Around) (outer : List PySem.Env) (s : Shared) (H : Hp) (E : XK), Room k (A.deeper (envOfC qual (defScope st) s.heap.objs.size f cdv)) →
      ∃ t, PSs (cxOf CX0 Pg w K mg base N qual (defScope st) f cdv A outer s H E).nox (defBody st) t ∧ ∀ s0 ds s1 r, R s0 ds s1 r → W K E0 t (.own s0 :: startS (N.length - 1) ds) { rt := fun d S' => d = r ∧ S'[0]? = some (.own s1), nx := fun S' => r = .non ∧ S'[0]? = some (.own s1) }) : FnOk Pg w K mg base CX0 (k + 1) f fd ps (spS K R) := by
  refine okS Fn Sc len fun cdv A outer s H E hr => ?_
  obtain ⟨t, h1, h2⟩ := body cdv A outer s H E hr
  refine ⟨t, h1, fun F M l s0 ds s1 r σ H1 D hR st krt knx => ?_⟩
  have hl := st.dm (l, s0) (by simp)
  have fin : ∀ {S' : List SL} {σ' : L2.St} {H' : Hp} {M' : List Addr} {δ : G.Env} {μ : Sto} {A : Nat → Addr} {v : V} {d : DV}, StC K F M M (some l) S' σ' H' M' δ μ A → S'[0]? = some (.own s1) → Rp K (hid M' H') v r → D.rt v H' := fun {S' σ' H' M' δ μ A v d} c e rv => by
    obtain ⟨_, a2⟩ := c.r.own 0 s1 e
    rw [c.q l rfl] at a2
    refine krt v H' M' δ σ' c.z (c.s.shrink (fun a h => h) (fun x hx => ?_) (by simp)) rv
    rw [List.mem_singleton.mp hx]
    exact ⟨a2, c.z l hl.1⟩
  have r0 : SRel (.own s0 :: startS (N.length - 1) ds) (fun _ => l) (startD N.length (.box l :: ds)) [(l, s0)] := by
    have z := SRel.start (A := fun _ => l) (n := N.length - 1) (ds := ds)
    have ed : startD N.length (.box l :: ds) = some (.box l) :: startD (N.length - 1) ds := by
      unfold startD
      rw [List.map_cons, List.cons_append, List.length_cons, show N.length - (ds.length + 1) = N.length - 1 - ds.length by omega]
    rw [ed]
    refine ⟨by simp [z.len], by simp, fun i d h => ?_, fun i es h => ?_, fun i j es fs h1 h2 _ => ?_⟩
    · cases i with
      | zero => simp at h
      | succ i => exact z.dat i d (by simpa using h)
    · cases i with
      | zero =>
        simp at h
        subst h
        exact ⟨rfl, by simp⟩
      | succ i => exact (start_own (by simpa using h)).elim
    · cases i with
      | succ i => exact (start_own (by simpa using h1)).elim
      | zero =>
        cases j with
        | zero => rfl
        | succ j => exact (start_own (by simpa using h2)).elim
  refine h2 s0 ds s1 r hR F M M (some l) σ H1 D True.intro ⟨M, _, _, fun _ => l, fun a h => h, fun a h => .inl h, fun a h => Option.some.inj h, fun i es h h0 => ?_, r0, st⟩ ⟨?_, fun _ _ _ h => h.elim, fun _ _ _ h => h.elim, ?_, fun _ _ _ _ _ h => h.elim, fun _ _ _ h => h.elim, fun _ _ _ _ _ _ _ _ _ _ h => h.elim⟩
  · cases i with
    | zero => exact (h0 rfl).elim
    | succ i => exact (start_own (by simpa using h)).elim
  · rintro S' σ' H' ⟨e, e2⟩ ⟨M', δ, μ, A, c⟩
    exact knx σ' H' (fin (d := .non) c e2 (by rw [e]; exact .non))
  · rintro d S' v σ' H' ⟨e, e2⟩ ⟨M', δ, μ, A, c, rv⟩
    subst e
    exact fin (d := d) c e2 rv
/-- a list of the def's own returned -/
theorem w_retO (hi : S[i]? = some (.own ds)) (k : P.rl ds S) (h0 : i ≠ 0 := by decide) : W K E (tRet (tVar i)) S P := fun F M0 Z q σ H D fr st ok => by
  obtain ⟨M, δ, μ, A, c⟩ := st
  obtain ⟨g1, g2⟩ := c.r.own i ds hi
  obtain ⟨s, t, rfl⟩ := List.append_of_mem g2
  have hM : A i ∈ M := (c.s.dm _ g2).1
  have hp : A i ∉ M.filter (fun a => decide (a ≠ A i)) := by simp
  have st1 := c.s.perm (M' := A i :: M.filter fun a => decide (a ≠ A i)) (fun a => by
    by_cases e : a = A i
    · simp [e, hM]
    · simp [e]) List.perm_middle
  refine x_ret (d := .box (A i)) st1 (ex_var g1) fun v H' s' rv => ?_
  cases rv
  exact ok.rl ds S (A i) σ H' k ⟨_, δ, _, fun a ha => List.mem_filter.mpr ⟨c.z a ha, by
    have e : a ≠ A i := fun e => c.ho i ds hi h0 (by rw [← e]; exact ha)
    simp [e]⟩, fun a ha => c.n a (List.mem_filter.mp ha).1, (s'.dm (A i, ds) (by simp)).2, hp, s'⟩
end
end G
set_option Elab.async false
set_option linter.all false
set_option maxRecDepth 100000
namespace G
open PySem PySem.Spec PyProof.Rows L2 Evl
/-- list or tuple: one type for both -/
structure Sq {α : Type} (e : α → DV) where
  d : DV
  xs : List α
  h : Seq d (xs.map e)
def Sq.L {α : Type} (e : α → DV) (xs : List α) : Sq e := ⟨.lst (xs.map e), xs, .lst _⟩
def Sq.T {α : Type} (e : α → DV) (xs : List α) : Sq e := ⟨.tup (xs.map e), xs, .tup _⟩
theorem ifT {b : Bool} {α : Type} {x y r : α} (hb : b = true) (h : (if b then x else y) = r) : x = r := by rw [if_pos hb] at h; exact h
theorem ifF {b : Bool} {α : Type} {x y r : α} (hb : b = false) (h : (if b then x else y) = r) : y = r := by subst hb; exact h
theorem thenNx {τ ρ γ : Type} {k : τ → Option γ} {r : ρ → Option γ} {s : τ} {x : Option γ} (h : thenL k r (.nx s) = x) : k s = x := h
theorem thenRt {τ ρ γ : Type} {k : τ → Option γ} {r : ρ → Option γ} {s : ρ} {x : Option γ} (h : thenL k r (.rt s) = x) : r s = x := h
/-- data whose == is told by the values -/
structure PlainE {α : Type} [DecidableEq α] (n : Nat) (e : α → DV) : Prop where
  pl : ∀ x, (e x).pl = true
  lay : ∀ x, (e x).py.canLay0 = true
  dep : ∀ x, (e x).py.depth ≤ n
  eq : ∀ x y, PyData.eqv (e x).py (e y).py = decide (x = y)
section
variable {α β : Type} [DecidableEq α] [DecidableEq β] {e : α → DV} {f : β → DV} {n m : Nat}
theorem PlainE.sh (h : PlainE n e) (hn : n ≤ 64) (x : α) : SeqAt.shaped (e x).py = true := by
  unfold SeqAt.shaped
  rw [h.lay x, decide_eq_true (Nat.le_trans (h.dep x) hn)]
  rfl
theorem plainI : PlainE 0 eI := ⟨fun _ => rfl, fun _ => rfl, fun _ => Nat.le_refl _, fun x y => by
  show (x == y) = _
  by_cases h : x = y
  · subst h; simp
  · simp [h]⟩
theorem plainB : PlainE 0 eB := ⟨fun _ => rfl, fun _ => rfl, fun _ => Nat.le_refl _, fun x y => by cases x <;> cases y <;> rfl⟩
theorem pls_map (h : PlainE n e) : ∀ xs : List α, pls (xs.map e) = true
  | [] => rfl
  | x :: xs => by
    show ((e x).pl && pls (xs.map e)) = true
    rw [h.pl x, pls_map h xs]
    rfl
theorem lay_map (h : PlainE n e) : ∀ xs : List α, PyData.canLayAll0 (pys (xs.map e)) = true ∧ PyData.depthAll (pys (xs.map e)) ≤ n
  | [] => ⟨rfl, Nat.zero_le _⟩
  | x :: xs => by
    obtain ⟨h1, h2⟩ := lay_map h xs
    refine ⟨?_, ?_⟩
    · show ((e x).py.canLay0 && PyData.canLayAll0 (pys (xs.map e))) = true
      rw [h.lay x, h1]
      rfl
    · show max (e x).py.depth (PyData.depthAll (pys (xs.map e))) ≤ n
      have := h.dep x
      omega
theorem eqv_map (h : PlainE n e) : ∀ xs ys : List α, PyData.eqvAll (pys (xs.map e)) (pys (ys.map e)) = decide (xs = ys)
  | [], [] => by simp [pys, PyData.eqvAll]
  | [], y :: ys => by simp [pys, PyData.eqvAll]
  | x :: xs, [] => by simp [pys, PyData.eqvAll]
  | x :: xs, y :: ys => by
    show (PyData.eqv (e x).py (e y).py && PyData.eqvAll (pys (xs.map e)) (pys (ys.map e))) = _
    rw [eqv_map h xs ys, h.eq]
    by_cases q : x = y
    · subst q
      simp
    · simp [q]
theorem plainL (h : PlainE n e) : PlainE (n + 1) (eL e) := ⟨fun x => pls_map h x, fun x => (lay_map h x).1, fun x => Nat.succ_le_succ (lay_map h x).2, fun x y => eqv_map h x y⟩
theorem plainT (h : PlainE n e) : PlainE (n + 1) (eT e) := ⟨fun x => pls_map h x, fun x => (lay_map h x).1, fun x => Nat.succ_le_succ (lay_map h x).2, fun x y => eqv_map h x y⟩
theorem plainP (h : PlainE n e) (g : PlainE m f) : PlainE (max n m + 1) (eP e f) := ⟨fun x => by
    show ((e x.1).pl && ((f x.2).pl && true)) = true
    rw [h.pl, g.pl]; rfl, fun x => by
    show ((e x.1).py.canLay0 && ((f x.2).py.canLay0 && true)) = true
    rw [h.lay, g.lay]; rfl, fun x => by
    show max (e x.1).py.depth (max (f x.2).py.depth 0) + 1 ≤ _
    have := h.dep x.1
    have := g.dep x.2
    omega, fun x y => by
    show (PyData.eqv (e x.1).py (e y.1).py && (PyData.eqv (f x.2).py (f y.2).py && true)) = _
    rw [h.eq, g.eq]
    obtain ⟨a, b⟩ := x
    obtain ⟨c, d⟩ := y
    by_cases q : a = c <;> by_cases r : b = d <;> simp [q, r]⟩
end
section
variable {K : PySem.W.Frag} {E : XK} {S S' SJ : List SL} {P : Post} {ts t u : TS} {ta tb te : TE} {α : Type} {d : DV}
theorem w_at (S' : List SL) (h : W K E ts S' P) (hS : S = S' := by rfl) : W K E ts S P := hS ▸ h
theorem q_cut (SJ : List SL) (h : W K E t S { P with nx := fun S' => SLe S' SJ, nf := fun _ _ _ _ _ => False }) (k : W K E u SJ P) : W K E (tSeq t u) S P :=
  q_seq (h.post (fun S' l => w_weak l k) (fun _ z => z) (fun _ z => z) (fun _ _ z => z) (fun _ _ z => z) (fun _ z => z) (fun _ _ z => z) fun _ _ _ _ _ z => z.elim)
theorem ep_eqP [DecidableEq α] {e : α → DV} {x y : α} {n : Nat} (hp : PlainE n e) (hn : n ≤ 64) (ha : EXp K ta S (e x)) (hb : EXp K tb S (e y)) : EXp K (tOp (rEqD K) ta tb) S (.bl (decide (x = y))) := EXp.is (ep_eqD ha hb (hp.pl x) (hp.pl y) (hp.sh hn x) (hp.sh hn y)) (by rw [hp.eq])
theorem ep_neP [DecidableEq α] {e : α → DV} {x y : α} {n : Nat} (hp : PlainE n e) (hn : n ≤ 64) (ha : EXp K ta S (e x)) (hb : EXp K tb S (e y)) : EXp K (tOp (rNeD K) ta tb) S (.bl (!decide (x = y))) := EXp.is (ep_neD ha hb (hp.pl x) (hp.pl y) (hp.sh hn x) (hp.sh hn y)) (by rw [hp.eq])
theorem sq_v {e : α → DV} {p : Sq e} (h : EXp K te S p.d) : SqS K te S (p.xs.map e) := ⟨p.d, p.h, h⟩
theorem ip_v {e : α → DV} {p : Sq e} (h : EXp K te S p.d) : ItS K te S (p.xs.map e) := ip_sq (sq_v h)
end
end G
set_option Elab.async false
set_option linter.all false
set_option maxRecDepth 100000
/-! __init__ over slots; gcd, isinstance and slices of either sequence; recursion -/
namespace G
open PySem PySem.Spec PyProof.Rows L2 Evl
section
variable {K : PySem.W.Frag} {E : XK} {F F1 H H' : Hp} {M0 Z M M1 : List Addr} {q : Option Addr} {S S1 S2 S' : List SL} {σ : L2.St} {δ : Env} {μ : Sto} {A : Nat → Addr} {P : Post} {ts t u tb : TS} {te te2 ta tc : TE} {tr : TA} {d d1 d2 d3 : DV} {ds es : List DV} {i j k : Nat} {D : L2.Ends} {C x dx : Addr} {F0 : Hp} {f g : Str} {α : Type}
/-- the frame while an instance of C is made at x -/
def FrI (C x dx : Addr) (F0 F : Hp) (Z : List Addr) : Prop := F = upd F0 x (.ins C dx []) ∧ F0 x = none ∧ x ∈ Z
theorem not_self (s : Sta K (upd F x (.ins C i [])) M δ μ σ H) : ∀ p ∈ μ, p.1 ≠ x := fun p hp e => by
  have := (s.dm p hp).2
  rw [e, upd_same] at this
  cases this
theorem w_fld1 (hP : ∀ F Z, P.fr F Z → FrI C x dx F0 F Z) (h0 : S[0]? = some (.dat (.box x))) (ha : EXp K te S d) (c : Cls K C) (n : NoAttr K C f) (k : P.nf F0 x C dx [(f, d)]) : W K E (sFld K (tVar 0) te f) S P := fun F M0 Z q σ H D fr st ok => by
  obtain ⟨M, δ, μ, A, c1⟩ := st
  obtain ⟨rfl, hF, hx⟩ := hP F Z fr
  refine x_fldI c1.s .nil (c1.z x hx) hF (not_self c1.s) (ha A δ μ c1.r) (ex_var (c1.r.dat 0 _ h0)) c n (by simp) rfl fun fv H2 s2 rf => ?_
  exact ok.nf _ x C dx F0 M δ fv σ H2 k rfl hF c1.z (s2.shrink (fun a h => h) (fun p hp => nomatch hp) (by simp)) rf
theorem w_fld2 (hP : ∀ F Z, P.fr F Z → FrI C x dx F0 F Z) (h0 : S[0]? = some (.dat (.box x))) (ha : EXp K te S d) (hb : EXp K te2 S d2) (c : Cls K C) (n : NoAttr K C f) (n2 : NoAttr K C g) (hl : List.lookup g [(f, d)] = none) (k : P.nf F0 x C dx [(f, d), (g, d2)]) : W K E (tSeq (sFld K (tVar 0) te f) (sFld K (tVar 0) te2 g)) S P := fun F M0 Z q σ H D fr st ok => by
  obtain ⟨M, δ, μ, A, c1⟩ := st
  obtain ⟨rfl, hF, hx⟩ := hP F Z fr
  refine x_fldI (D := { D with nx := _ }) c1.s .nil (c1.z x hx) hF (not_self c1.s) (ha A δ μ c1.r) (ex_var (c1.r.dat 0 _ h0)) c n (by simp) rfl fun fv H2 s2 rf => ?_
  refine x_fldI s2 rf (c1.z x hx) hF (not_self c1.s) (hb A δ μ c1.r) (ex_var (c1.r.dat 0 _ h0)) c n2 (by simp) hl fun fv H3 s3 rf => ?_
  exact ok.nf _ x C dx F0 M δ fv σ H3 k rfl hF c1.z (s3.shrink (fun a h => h) (fun p hp => nomatch hp) (by simp)) rf
variable {Pg : Program} {w : World} {mg : Str → Option Value} {base : Heap}
theorem okWI {x qual : Str} {params : Arguments} {body : List Stmt} {scope : Scope} {dvs : List V} {kws : List (Str × V)} {f : Addr} {fd : FuncData} {N ps : List Str} {k : Nat} {R : List DV → List (Str × DV) → Prop} (Fn : FunD K x qual params body scope dvs kws f fd) (Sc : FnScope N ps scope) (len : ∀ ds r, R ds r → ds.length + 1 = ps.length)
    (hbody : ∀ (cdv : Value) (A : Around) (outer : List PySem.Env) (s : Shared) (H : Hp) (E : XK), Room k (A.deeper (envOfC qual scope s.heap.objs.size f cdv)) →
      ∃ t, PSs (cxOf CX0 Pg w K mg base N qual scope f cdv A outer s H E).nox body t ∧ ∀ ds fs x dx F0, R ds fs → W K E0 t (startS N.length (.box x :: ds)) { fr := FrI C x dx F0, nf := fun F' x' C' dx' fs' => F' = F0 ∧ x' = x ∧ C' = C ∧ dx' = dx ∧ fs' = fs }) : FnOk Pg w K mg base CX0 (k + 1) f fd ps (spI K C R) := by
  refine okI Fn Sc len fun cdv A outer s H E hr => ?_
  obtain ⟨t, h1, h2⟩ := hbody cdv A outer s H E hr
  refine ⟨t, h1, fun F M x dx ds fs σ H1 D hR hx hF st knx => ?_⟩
  refine h2 ds fs x dx F hR (upd F x (.ins C dx [])) M M none σ H1 D ⟨rfl, hF, hx⟩ ⟨M, _, [], fun _ => 0, fun a h => h, fun a h => .inl h, fun a h => (by cases h), fun i es h _ => (start_own h).elim, SRel.start, st⟩ ⟨fun _ _ _ h => h.elim, fun _ _ _ h => h.elim, fun _ _ _ h => h.elim, fun _ _ _ _ _ h => h.elim, fun _ _ _ _ _ h => h.elim, fun _ _ _ h => h.elim, ?_⟩
  rintro fs' x' C' dx' F0 M' δ fv σ' H' ⟨rfl, rfl, rfl, rfl, rfl⟩ _ _ hz s rf
  have up : Ex (hid M' H') (hid M H') := hid_less hz
  exact knx δ σ' H' fv (s.shrink hz (fun p hp => nomatch hp) (by simp)) (rf.mono up)
/-! ### either sequence -/
theorem ep_isSq {e : α → DV} {p : Sq e} (ha : EXp K ta S p.d) : EXp K (tCB (rIsiT K) (tCons ta (tCons (tTup (tCons (tC (.ty "list")) (tCons (tC (.ty "tuple")) tNil))) tNil))) S (.bl true) := by
  obtain ⟨d, xs, h⟩ := p
  cases h with
  | lst => exact ep_isi2 ha .lst (kit2 (b := true) (c := false) (by decide +kernel) (by decide +kernel) rfl)
  | tup => exact ep_isi2 ha .tup (kit2 (b := false) (c := true) (by decide +kernel) (by decide +kernel) rfl)
theorem ep_isL {e : α → DV} {xs : List α} (ha : EXp K ta S (.lst (xs.map e))) : EXp K (tCB (rIsiT K) (tCons ta (tCons (tTup (tCons (tC (.ty "list")) (tCons (tC (.ty "tuple")) tNil))) tNil))) S (.bl true) := ep_isi2 ha .lst (kit2 (b := true) (c := false) (by decide +kernel) (by decide +kernel) rfl)
theorem ep_isT {e : α → DV} {xs : List α} (ha : EXp K ta S (.tup (xs.map e))) : EXp K (tCB (rIsiT K) (tCons ta (tCons (tTup (tCons (tC (.ty "list")) (tCons (tC (.ty "tuple")) tNil))) tNil))) S (.bl true) := ep_isi2 ha .tup (kit2 (b := false) (c := true) (by decide +kernel) (by decide +kernel) rfl)
def cutDV (d : DV) (ds : List DV) : DV := match d with
  | .lst _ => .lst ds
  | _ => .tup ds
def Sq.cut {e : α → DV} (p : Sq e) (lo hi : Option Int) : Sq e := ⟨cutDV p.d ((cutL p.xs lo hi).map e), cutL p.xs lo hi, by
  obtain ⟨d, xs, h⟩ := p
  cases h with
  | lst => exact .lst _
  | tup => exact .tup _⟩
theorem ep_slQ {e : α → DV} {p : Sq e} {tl th : TO} {lo hi : Option Int} (h : EXp K te S p.d) (h1 : OXp K tl S lo) (h2 : OXp K th S hi) : EXp K (tSl (rSlE K) te tl th) S (p.cut lo hi).d := by
  obtain ⟨d, xs, sq⟩ := p
  intro A δ μ r
  have o1 := h1 A δ μ r
  have o2 := h2 A δ μ r
  have e1 := h A δ μ r
  cases sq with
  | lst =>
    have z : LX K (tSl (rSlL K) te tl th) δ μ μ (G.cutD (xs.map e) lo hi) := lx_sl e1 o1 o2
    rw [cut_map] at z
    exact fun F M σ H s Q q => by
      refine e1 F M σ H s _ fun v H1 e1 s1 r1 => o1 F M σ H1 s1 _ fun H2 e2 s2 => o2 F M σ H2 s2 _ fun H3 e3 s3 => ?_
      cases r1 with
      | lst g1 g2 =>
        refine .inl ⟨_, _, rfl, ex_l ((e2.trans e3).trans hid_sub) g1, fun p hp => ?_⟩
        have e13 := (e1.trans e2).trans e3
        have hpM := s3.fresh hp
        have z := (s3.newL hp ((g2.mono (e2.trans e3)).cut lo hi)).still hpM
        rw [cut_map] at z
        exact q _ _ (e13.trans (new_ex s3 hp)) z.1 z.2
  | tup =>
    have z : EX K (tSl (rSlA K) te tl th) δ μ μ (.tup (G.cutD (xs.map e) lo hi)) := ex_slT e1 o1 o2
    rw [cut_map] at z
    exact fun F M σ H s Q q => by
      have y := z F M σ H s Q q
      refine e1 F M σ H s _ fun v H1 e1 s1 r1 => o1 F M σ H1 s1 _ fun H2 e2 s2 => o2 F M σ H2 s2 _ fun H3 e3 s3 => ?_
      cases r1 with
      | @tup a vs _ g1 g2 =>
        have e13 := (e1.trans e2).trans e3
        have g3 := g2.mono (e2.trans e3)
        refine .inr ⟨_, _, rfl, ex_t ((e2.trans e3).trans hid_sub) g1, fun hw => ?_, fun _ p hp => ?_⟩
        · have hc : G.cutD (xs.map e) lo hi = xs.map e := by
            unfold G.cutD
            rw [← g2.length, hw.1, hw.2, List.drop_zero, Nat.sub_zero, g2.length, List.take_length]
          refine q _ H3 e13 s3 ?_
          show Rp K _ _ (.tup ((cutL xs lo hi).map e))
          rw [← cut_map, hc]
          exact .tup (ex_t (e2.trans e3) g1) g3
        · refine q _ _ (e13.trans (new_ex s3 hp)) (s3.mono (Ex.new hp)) ?_
          show Rp K _ _ (.tup ((cutL xs lo hi).map e))
          rw [← cut_map]
          exact .tup (st_of (hid_get (s3.fresh hp) upd_same)) ((g3.cut lo hi).mono (new_ex s3 hp))
theorem ep_gcd {a b : Int} (ha : EXp K ta S (.int a)) (hb : EXp K tc S (.int b)) : EXp K (tCB rGcd (tCons ta (tCons tc tNil))) S (.int ((Nat.gcd a.natAbs b.natAbs : Nat) : Int)) := fun A δ μ r F M σ H s Q q =>
  ha A δ μ r F M σ H s _ fun v H1 e1 s1 r1 => hb A δ μ r F M σ H1 s1 _ fun w H2 e2 s2 r2 => by
    cases r1
    cases r2
    exact ⟨a, b, rfl, q _ H2 (e1.trans e2) s2 (.int _)⟩
end
/-- a def that calls itself, by its depth -/
theorem rec_all {P : Program} {w : World} {K : PySem.W.Frag} {mg : Str → Option Value} {base : Heap} {f : Addr} {fd : FuncData} {ps : List Str} {R : Nat → List DV → DV → Prop} {l0 m : Nat} (len : ∀ n ds r, R n ds r → ds.length = ps.length) (h0 : ∀ ds r, ¬ R 0 ds r)
    (hs : ∀ n k, l0 ≤ k → FnOk P w K mg base CX0 k f fd ps (spD K (R n)) → FnOk P w K mg base CX0 (k + 1) f fd ps (spD K (R (n + 1)))) : FnOk P w K mg base CX0 (l0 + m) f fd ps (spD K fun ds r => ∃ n, n ≤ m ∧ R n ds r) := by
  have key : ∀ n, FnOk P w K mg base CX0 (l0 + n) f fd ps (spD K (R n)) := fun n => by
    induction n with
    | zero => exact ⟨fun vs H Q E ⟨M, ds, r, _, h1, h2, _⟩ => by rw [h1.length]; exact len _ _ _ h2, fun _ _ _ _ _ _ _ _ _ _ _ _ _ ⟨M, ds, r, _, _, h2, _⟩ => (h0 _ _ h2).elim⟩
    | succ n ih => exact hs n _ (Nat.le_add_right _ _) ih
  refine ⟨fun vs H Q E ⟨M, ds, r, _, h1, ⟨n, _, h2⟩, _⟩ => by rw [h1.length]; exact len _ _ _ h2, fun A outer s H args us vs Q E hr e0 hb hv ⟨M, ds, r, al, h1, ⟨n, hn, h2⟩, h3⟩ => ?_⟩
  exact ((key n).mono (Nat.add_le_add_left hn l0)).run A outer s H args us vs Q E hr e0 hb hv ⟨M, ds, r, al, h1, h2, h3⟩
end G
set_option Elab.async false
set_option linter.all false
set_option maxRecDepth 100000
namespace G
open PySem PySem.Spec PyProof.Rows L2 Evl
theorem pe_globE {X : Cx} {x : Str} {v : V} {pos : Pos} (hg : Gl X x) (h : ∃ u, X.mg x = some u ∧ RelV v u) (hd : (x == ("__debug__" : Str)) = false := by decide) : PE X (.Name x pos) (tC v) := by
  obtain ⟨u, h1, h2⟩ := h
  exact pe_glob hg h1 h2 hd
theorem kit_self {K : PySem.W.Frag} {C : Addr} (h : OwnC K C) : PySem.W.kitOne K (.ref C) (.ref C) = some true := by
  unfold PySem.W.kitOne
  simp
@[irreducible] def lenO (n : Int) : Option Int := if 0 ≤ n ∧ n < 2 ^ 63 then some n else none
section
variable {K : PySem.W.Frag} {E : XK} {F F1 H H' : Hp} {M0 Z M M1 : List Addr} {q : Option Addr} {S S1 S2 S' : List SL} {σ : L2.St} {δ : Env} {μ : Sto} {A : Nat → Addr} {P : Post} {ts t u tb : TS} {te te2 ta tc : TE} {tr : TA} {d d1 d2 d3 : DV} {ds es : List DV} {i j k : Nat} {D : L2.Ends} {C x dx : Addr} {f g : Str} {α : Type} {fs : List (Str × DV)}
theorem ep_lenO {R : List DV → DV → Prop} {n m : Int} (ha : EXp K ta S (.ins C fs)) (h : R [.ins C fs] (.int n)) (hl : lenO n = some m) : EXp K (tCB (rLenOwn C (spD K R) E) (tCons ta tNil)) S (.int m) := by
  unfold lenO at hl
  split at hl
  · rename_i hc
    cases hl
    have e : n = ((n.toNat : Nat) : Int) := by omega
    rw [e] at h ⊢
    exact ep_lenOwn ha (by omega) h
  · cases hl
theorem ep_isnSq {e : α → DV} {p : Sq e} {c : V} {z : Value} (ha : EXp K ta S p.d) (k : ClsV c z) (h1 : PySem.W.kitOne K (.type "list") z = some false) (h2 : PySem.W.kitOne K (.type "tuple") z = some false) : EXp K (tCB (rIsi K) (tCons ta (tCons (tC c) tNil))) S (.bl false) := by
  obtain ⟨d, xs, h⟩ := p
  cases h with
  | lst => exact ep_isi ha .lst k h1
  | tup => exact ep_isi ha .tup k h2
/-- xs.append(e), e changing another list of the def's own -/
theorem w_appq {f : α → DV} {xs zs : List α} {y : α} (ha : EXq K te S S1 (f y)) (h0 : S[i]? = some (.own (xs.map f))) (hi : S1[i]? = some (.own (xs.map f))) (h : appO xs y = some zs) (S' : List SL) (k : P.nx S') (hS : S1.set i (.own (zs.map f)) = S' := by rfl) :
    W K E (tDrop (tBM K "list" rAppend (tVar i) (tCons te tNil))) S P := fun F M0 Z q σ H D fr st ok => by
  subst hS
  unfold appO at h
  split at h
  · rename_i hz
    cases h
    obtain ⟨M, δ, μ, A, c⟩ := st
    obtain ⟨μ1, r1, e1⟩ := ha.2 A δ μ c.r
    obtain ⟨g1, g2⟩ := c.r.own i _ h0
    obtain ⟨n, hn⟩ := List.getElem?_of_mem g2
    obtain ⟨b1, b2⟩ := r1.own i _ hi
    obtain ⟨m, hm⟩ := List.getElem?_of_mem b2
    have hv : EX K (tVar i) δ μ μ (.box (A i)) := ex_var g1
    generalize tVar i = tv at hv ⊢
    refine hv F M σ H c.s _ fun v H1 x1 s1 v1 => ?_
    cases v1
    obtain ⟨vs, p1, _⟩ := s1.sto _ (List.mem_of_getElem? hn)
    refine ⟨.inl ⟨rfl, vs, sq_of p1⟩, e1 F M σ H1 s1 _ fun w H2 x2 s2 v2 => ?_⟩
    obtain ⟨ys, k1, k2⟩ := s2.sto _ (List.mem_of_getElem? hm)
    refine ⟨A i, ys, w, rfl, rfl, k1, sz_lt (by rw [k2.length]; simpa using hz), ok.nx _ σ _ k ⟨M, δ, μ1.set m (A i, xs.map f ++ [f y]), A, ?_⟩⟩
    rw [List.map_append]
    exact StC.setown (c.to ha.1 r1 s2) hm hi (s2.poke hm (k2.app (.cons v2 .nil))).1
  · cases h
end
end G
set_option Elab.async false
set_option linter.all false
set_option maxRecDepth 100000
/-! Grid and Lattice as values; the Grid methods that were walked by hand (specs of HM), as models -/
namespace G
open PySem PySem.Spec PyProof.Rows L2 Evl
structure M_Grid where
  rows : List (List Int)
  width : Int
structure M_Lattice where
  gram : M_Grid
abbrev f_Grid (C_Grid : Addr) (C_Lattice : Addr) (g : M_Grid) : List (Str × DV) := [("rows", (eT (eT eI)) g.rows), ("width", eI g.width)]
abbrev e_Grid (C_Grid : Addr) (C_Lattice : Addr) (g : M_Grid) : DV := .ins C_Grid (f_Grid C_Grid C_Lattice g)
abbrev f_Lattice (C_Grid : Addr) (C_Lattice : Addr) (g : M_Lattice) : List (Str × DV) := [("gram", (e_Grid C_Grid C_Lattice) g.gram)]
abbrev e_Lattice (C_Grid : Addr) (C_Lattice : Addr) (g : M_Lattice) : DV := .ins C_Lattice (f_Lattice C_Grid C_Lattice g)
structure GIn (g : M_Grid) : Prop where
  wd : 0 ≤ g.width
  w4 : g.width ≤ 4
  sq : g.rows.length = g.width.toNat
  ok : GOk g.rows g.width.toNat 100000
section
variable {Cg Cl : Addr} {g : M_Grid}
theorem e_gridD (h : 0 ≤ g.width) : e_Grid Cg Cl g = gridD Cg g.rows g.width.toNat := by
  show DV.ins Cg [("rows", rowsT g.rows), ("width", .int g.width)] = DV.ins Cg [("rows", rowsT g.rows), ("width", .int (g.width.toNat : Nat))]
  rw [Int.toNat_of_nonneg h]
open Classical in
noncomputable def m_Grid_determinant (g : M_Grid) : Option Int := if GIn g then some (bar g.rows) else none
open Classical in
noncomputable def m_Grid_adjugate (g : M_Grid) : Option M_Grid := if GIn g then some ⟨adjM g.rows g.width.toNat, g.width⟩ else none
theorem wit_det {y : Int} (h : m_Grid_determinant g = some y) : rDetG Cg [e_Grid Cg Cl g] (.int y) := by
  unfold m_Grid_determinant at h
  split at h
  · rename_i z
    cases h
    exact ⟨g.rows, g.width.toNat, 100000, by rw [e_gridD z.wd], z.ok, by omega, by omega, z.sq, by have := z.w4; omega, rfl⟩
  · cases h
theorem wit_adj {y : M_Grid} (h : m_Grid_adjugate g = some y) : rAdj Cg [e_Grid Cg Cl g] (e_Grid Cg Cl y) := by
  unfold m_Grid_adjugate at h
  split at h
  · rename_i z
    cases h
    exact ⟨g.rows, g.width.toNat, 100000, by rw [e_gridD z.wd], z.ok, by omega, by omega, z.sq, by have := z.w4; omega, e_gridD (g := ⟨adjM g.rows g.width.toNat, g.width⟩) z.wd⟩
  · cases h
def m_Grid_len (g : M_Grid) : Option Int := if 0 ≤ g.width then some (g.rows.length : Int) else none
theorem wit_len {y : Int} (h : m_Grid_len g = some y) : rLenG Cg [e_Grid Cg Cl g] (.int y) := by
  unfold m_Grid_len at h
  split at h
  · rename_i z
    cases h
    exact ⟨g.rows, g.width.toNat, by rw [e_gridD z], rfl⟩
  · cases h
/-! Grid(..) -/
abbrev SqI := Sq eI
abbrev eSq : SqI → DV := fun p => p.d
theorem isRowsS (p : Sq eSq) : IsRows p.d (p.xs.map (·.xs)) := ⟨p.xs.map eSq, p.h, by simp, fun i d r h1 h2 => by
  rw [List.getElem?_map] at h1 h2
  cases q : p.xs[i]? with
  | none => rw [q] at h1; cases h1
  | some x =>
    rw [q] at h1 h2
    cases h1
    cases h2
    exact x.h⟩
def mkOk (rows : List (List Int)) (width : Int) : Prop := rows.length ≤ 1000 ∧ 0 ≤ width ∧ width ≤ 1000000 ∧ ∀ r ∈ rows, (r.length : Int) = width
open Classical in
noncomputable def mk_Grid2 (rows : Sq eSq) (width : Int) : Option M_Grid := if mkOk (rows.xs.map (·.xs)) width then some ⟨rows.xs.map (·.xs), width⟩ else none
def width1 (rows : List (List Int)) : Int := match rows with
  | [] => 0
  | r :: _ => r.length
open Classical in
noncomputable def mk_Grid1 (rows : Sq eSq) : Option M_Grid := if mkOk (rows.xs.map (·.xs)) (width1 (rows.xs.map (·.xs))) then some ⟨rows.xs.map (·.xs), width1 (rows.xs.map (·.xs))⟩ else none
variable {K : PySem.W.Frag} {S : List SL} {tr : TA}
theorem ep_mk_Grid2 {rows : Sq eSq} {n : Int} (hr : AXp K tr S [rows.d, .int n]) (h : mk_Grid2 rows n = some g) : EXp K (tMake Cg (spI K Cg rInit) [] E0 tr) S (e_Grid Cg Cl g) := by
  unfold mk_Grid2 at h
  split at h
  · rename_i z
    cases h
    obtain ⟨h1, h2, h3, h4⟩ := z
    refine ep_make (dd := []) hr (fun _ => .nil) ⟨rows.d, .int n, _, n.toNat, rfl, isRowsS rows, h1, by omega, fun x hx => by have := h4 x hx; omega, .inl (by rw [Int.toNat_of_nonneg h2]), ?_⟩
    unfold gridF
    rw [Int.toNat_of_nonneg h2]
    rfl
  · cases h
theorem ep_mk_Grid1 {rows : Sq eSq} (hr : AXp K tr S [rows.d]) (h : mk_Grid1 rows = some g) : EXp K (tMake Cg (spI K Cg rInit) [.non] E0 tr) S (e_Grid Cg Cl g) := by
  unfold mk_Grid1 at h
  split at h
  · rename_i z
    cases h
    obtain ⟨h1, h2, h3, h4⟩ := z
    refine ep_make (dd := [.non]) hr (fun _ => .cons .non .nil) ⟨rows.d, .non, _, (width1 (rows.xs.map (·.xs))).toNat, rfl, isRowsS rows, h1, by omega, fun x hx => by have := h4 x hx; omega, .inr ⟨rfl, fun e => by rw [e]; rfl⟩, ?_⟩
    unfold gridF
    rw [Int.toNat_of_nonneg h2]
    rfl
  · cases h
end
end G
set_option Elab.async false
set_option linter.all false
set_option maxRecDepth 100000
/-! _determinant (walked by hand, rDet) as a model -/
namespace G
open PySem PySem.Spec PyProof.Rows L2 Evl
theorem isRowsTT (rows : List (List Int)) : IsRows ((eT (eT eI)) rows) rows := by
  have z := isRowsS (Sq.T eSq (rows.map (Sq.T eI)))
  have e1 : (Sq.T eSq (rows.map (Sq.T eI))).d = (eT (eT eI)) rows := by
    show DV.tup ((rows.map (Sq.T eI)).map eSq) = DV.tup (rows.map (eT eI))
    rw [List.map_map]
    rfl
  have e2 : (Sq.T eSq (rows.map (Sq.T eI))).xs.map (·.xs) = rows := by
    show (rows.map (Sq.T eI)).map (fun p : Sq eI => p.xs) = rows
    rw [List.map_map]
    exact List.map_id' _
  rw [e1, e2] at z
  exact z
structure DIn (rows : List (List Int)) : Prop where
  l4 : rows.length ≤ 4
  sq : ∀ x ∈ rows, x.length = rows.length
  sm : ∀ x ∈ rows, Sm 100000 x
open Classical in
noncomputable def m_determinant (rows : List (List Int)) : Option Int := if DIn rows then some (bar rows) else none
theorem wit_dt {rows : List (List Int)} {y : Int} (h : m_determinant rows = some y) : rDet [(eT (eT eI)) rows] (.int y) := by
  unfold m_determinant at h
  split at h
  · rename_i z
    cases h
    exact ⟨_, rows, 100000, rfl, isRowsTT rows, z.l4, z.sq, z.sm, by omega, by omega, rfl⟩
  · cases h
end G
set_option Elab.async false
set_option linter.all false
set_option maxRecDepth 100000
set_option maxHeartbeats 1000000
/-! defs that raise, over slots -/
namespace G
open PySem PySem.Spec PyProof.Rows L2 Evl
/-- what the program raises: Malformed, Refused(reason), NoText(at) -/
inductive Xn where
  | mal
  | refu (s : Str)
  | notx (n : Int)
structure ClX where
  M : Addr
  R : Addr
  N : Addr
def Xn.to (c : ClX) : Xn → Exc
  | .mal => ⟨c.M, none⟩
  | .refu s => ⟨c.R, some [("reason", .str s)]⟩
  | .notx n => ⟨c.N, some [("at", .int n)]⟩
/-- a value, or an exception -/
inductive Rz (α : Type) where
  | ok (a : α)
  | er (x : Xn)
def Rz.enc {α : Type} (f : α → DV) : Rz α → Rz DV
  | .ok a => .ok (f a)
  | .er x => .er x
/-- a def from data to data or to an exception -/
def spX (K : PySem.W.Frag) (c : ClX) (R : List DV → Rz DV → Prop) : Sp := fun vs H Q E => ∃ M ds r, (∀ a ∈ M, H a ≠ none) ∧ RpAll K (hid M H) vs ds ∧ R ds r ∧ (∀ d v H', r = .ok d → Ex H H' → Rp K (hid M H') v d → Q v H') ∧
  ∀ x d H', r = .er x → ExcAt H (x.to c) d H' → Ex H H' → E (.ref (x.to c).cls) d H'
section
variable {K : PySem.W.Frag} {Pg : Program} {w : World} {mg : Str → Option Value} {base : Heap} {c : ClX}
theorem okWX {x qual : Str} {st : Stmt} {f : Addr} {fd : FuncData} {N ps : List Str} {k : Nat} {R : List DV → Rz DV → Prop} (Fn : Fun K x qual st f fd) (Sc : FnScope N ps (defScope st)) (len : ∀ ds r, R ds r → ds.length = ps.length)
    (body : ∀ (cdv : Value) (A : Around) (outer : List PySem.Env) (s : Shared) (H : Hp) (E : XK), Room k (A.deeper (envOfC qual (defScope st) s.heap.objs.size f cdv)) →
      ∃ t, PSs (cxOf (L2.CX Pg w) Pg w K mg base N qual (defScope st) f cdv A outer s H E) (defBody st) t ∧ ∀ ds r, R ds r → W K E t (startS N.length ds) { rt := fun d _ => r = .ok d, nx := fun _ => r = .ok .non, xe := fun e => ∃ n, r = .er n ∧ e = n.to c }) : FnOk Pg w K mg base (L2.CX Pg w) (k + 1) f fd ps (spX K c R) := by
  refine Fn.okX Sc (fun vs H Q E ⟨M, ds, r, _, h1, h2, _⟩ => by rw [h1.length]; exact len _ _ h2) fun cdv A outer s H vs Q E hr ⟨M, ds, r, al, ra, hR, kq, kx⟩ => ?_
  obtain ⟨t, h1, h2⟩ := body cdv A outer s H E hr
  refine ⟨t, h1, h2 ds r hR H M M none _ H _ True.intro ⟨M, _, [], fun _ => 0, fun a h => h, fun a h => .inl h, fun a h => (by cases h), fun i es h _ => (start_own h).elim, SRel.start, sta_start al ra⟩ ⟨?_, fun _ _ _ h => h.elim, fun _ _ _ h => h.elim, ?_, fun _ _ _ _ _ h => h.elim, ?_, fun _ _ _ _ _ _ _ _ _ _ h => h.elim⟩⟩
  · rintro S' σ' H' e ⟨M', δ, μ, A, c⟩
    exact kq .non .non H' e c.s.fr .non
  · rintro d S' v σ' H' e ⟨M', δ, μ, A, c, rv⟩
    exact kq d v H' e c.s.fr (rv.mono (hid_less c.z))
  · rintro x d H' ⟨n, e1, rfl⟩ ea ex
    exact kx n d H' e1 ea ex
end
/-- an expression that may raise (Ef: what is asked of the exception, by the state) -/
def XXp (K : PySem.W.Frag) (c : ClX) (Ef : L2.St → XK) (te : TE) (S : List SL) (r : Rz DV) : Prop := ∀ A δ μ, SRel S A δ μ → ∀ F M σ H, Sta K F M δ μ σ H → ∀ Q : VK,
  (∀ d v H', r = .ok d → Ex (hid M H) (hid M H') → Sta K F M δ μ σ H' → Rp K (hid M H') v d → Q v H') →
  (∀ x d H', r = .er x → ExcAt F (x.to c) d H' → Sta K F M δ μ σ H' → Ef σ (.ref (x.to c).cls) d H') → te σ H Q
section
variable {K : PySem.W.Frag} {c : ClX} {E : XK} {Ef : L2.St → XK} {S S' : List SL} {P : Post} {R : List DV → Rz DV → Prop} {r : Rz DV} {ta te tb : TE} {tr : TA} {ts t u : TS} {ds : List DV} {d : DV} {i : Nat} {C : Addr} {fs : List (Str × DV)} {m : Str}
theorem XXp.of (h : EXp K te S d) : XXp K c Ef te S (.ok d) := fun A δ μ r F M σ H s Q k _ => h A δ μ r F M σ H s Q fun v H' e s' rv => k d v H' rfl e s' rv
theorem xx_run {f : L2.St → XK} {sp : VK → XK → Prop} {F H H1 : Hp} {M : List Addr} {δ : Env} {μ : Sto} {σ : L2.St} {Q : VK} (s1 : Sta K F M δ μ σ H1) (e1 : Ex (hid M H) (hid M H1)) (kq : ∀ d v H', r = .ok d → Ex (hid M H) (hid M H') → Sta K F M δ μ σ H' → Rp K (hid M H') v d → Q v H')
    (kx : ∀ x d H', r = .er x → ExcAt F (x.to c) d H' → Sta K F M δ μ σ H' → Ef σ (.ref (x.to c).cls) d H') : (∀ d v H', r = .ok d → Ex H1 H' → Rp K (hid M H') v d → Q v H') ∧ ∀ x d H', r = .er x → ExcAt H1 (x.to c) d H' → Ex H1 H' → Ef σ (.ref (x.to c).cls) d H' :=
  ⟨fun d v H' er ex rv => kq d v H' er (e1.trans (hid_mono ex)) (s1.mono ex) rv, fun x d H' er ea ex => kx x d H' er (ea.back s1.fr) (s1.mono ex)⟩
theorem xx_call (ha : AXp K tr S ds) (h : R ds r) : XXp K c Ef (tCallS (spX K c R) Ef tr) S r := fun A δ μ r0 F M σ H s Q kq kx =>
  ha A δ μ r0 F M σ H s _ fun vs H1 e1 s1 r1 => ⟨M, ds, r, s1.al, r1, h, xx_run (f := Ef) (sp := fun _ _ => True) s1 e1 kq kx⟩
theorem xx_meth (ha : EXp K ta S (.ins C fs)) (hn : fs.lookup m = none) (hr : AXp K tr S ds) (h : R (.ins C fs :: ds) r) : XXp K c Ef (tMeS C m (spX K c R) Ef ta tr) S r := fun A δ μ r0 F M σ H s Q kq kx =>
  ha A δ μ r0 F M σ H s _ fun v H1 e1 s1 r1 => by
    cases r1 with
    | @ins a _ dx vs _ h1 h2 =>
      refine ⟨a, dx, vs, rfl, hid_sub _ _ h1, h2.lookN hn, hr A δ μ r0 F M σ H1 s1 _ fun ws H2 e2 s2 r2 => ?_⟩
      exact ⟨M, _, r, s2.al, .cons (Rp.mono e2 (.ins h1 h2)) r2, h, xx_run (f := Ef) (sp := fun _ _ => True) s2 (e1.trans e2) kq kx⟩
/-! ### statements -/
theorem w_raiseM (k : P.xe (Xn.mal.to c)) : W K E (fun _ σ H => E (.ref c.M) none H) S P := fun F M0 Z q σ H D fr ⟨M, δ, μ, A, s⟩ ok => ok.xe _ none H k rfl s.s.fr
theorem w_asgX (h : XXp K c (fun _ => E) te S r) (S' : DV → List SL) (hok : ∀ d, r = .ok d → P.nx (S' d)) (her : ∀ x, r = .er x → P.xe (x.to c)) (hS : ∀ d, S.set i (.dat d) = S' d := by intro d; rfl) : W K E (tAsg te (gName i)) S P := fun F M0 Z q σ H D fr ⟨M, δ, μ, A, s⟩ ok =>
  h A δ μ s.r F M σ H s.s _ (fun d v H' er e s' rv => ok.nx _ _ H' (hok d er) ⟨M, _, μ, A, by rw [← hS d]; exact s.asg (s'.put rv)⟩) fun x d H' er ea s' => ok.xe _ d H' (her x er) ea s'.fr
theorem w_dropX (h : XXp K c (fun _ => E) te S r) (hok : ∀ d, r = .ok d → P.nx S) (her : ∀ x, r = .er x → P.xe (x.to c)) : W K E (tDrop te) S P := fun F M0 Z q σ H D fr ⟨M, δ, μ, A, s⟩ ok =>
  h A δ μ s.r F M σ H s.s _ (fun d v H' er e s' rv => ok.nx _ _ H' (hok d er) ⟨M, δ, μ, A, ⟨s.z, s.n, s.q, s.ho, s.r, s'⟩⟩) fun x d H' er ea s' => ok.xe _ d H' (her x er) ea s'.fr
theorem w_retX (h : XXp K c (fun _ => E) te S r) (hok : ∀ d, r = .ok d → P.rt d S) (her : ∀ x, r = .er x → P.xe (x.to c)) : W K E (tRet te) S P := fun F M0 Z q σ H D fr ⟨M, δ, μ, A, s⟩ ok =>
  h A δ μ s.r F M σ H s.s _ (fun d v H' er e s' rv => ok.rt d S v σ H' (hok d er) ⟨M, δ, μ, A, ⟨s.z, s.n, s.q, s.ho, s.r, s'⟩, rv⟩) fun x d H' er ea s' => ok.xe _ d H' (her x er) ea s'.fr
/-! ### try: of one expression -/
theorem w_tryOnly {tf : L2.WX → TE} {cc : Value} {sx : Addr → Value → Option Addr → TS} {Wo : L2.WX} (h : ∀ W, XXp K c (WE W) (tf W) S r) (hok : ∀ d, r = .ok d → P.nx S)
    (her : ∀ x, r = .er x → PySem.W.exmOne K (.ref (x.to c).cls) cc = some true ∧ ∀ a d, W K E (sx a (.ref (x.to c).cls) d) S P) : W K E (fun D σ H => tDrop (tf (wOnly K cc sx Wo D)) D σ H) S P := fun F M0 Z q σ H D fr ⟨M, δ, μ, A, s⟩ ok =>
  h _ A δ μ s.r F M σ H s.s _ (fun d v H' er e s' rv => ok.nx _ _ H' (hok d er) ⟨M, δ, μ, A, ⟨s.z, s.n, s.q, s.ho, s.r, s'⟩⟩) fun x d H' er ea s' =>
    ⟨true, (her x er).1, fun _ a ha => (her x er).2 a d F M0 Z q σ H' D fr ⟨M, δ, μ, A, ⟨s.z, s.n, s.q, s.ho, s.r, s'⟩⟩ ok, fun z => by cases z⟩
end
end G
set_option Elab.async false
set_option linter.all false
set_option maxRecDepth 100000
/-! data in which a certain word does not stand: _law_odd, _law_honest -/
namespace G
open PySem PySem.Spec PyProof.Rows L2 Evl
def oddW : Str := "a word that nothing else is"
inductive TameP : Nat → DV → Prop
  | int {m : Nat} (i : Int) : TameP m (.int i)
  | bl {m : Nat} (i : Bool) : TameP m (.bl i)
  | non {m : Nat} : TameP m .non
  | str {m : Nat} (s : Str) (h : s ≠ oddW) (ok : (PyData.str s).canLay0 = true) : TameP m (.str s)
  | lst {m : Nat} (ds : List DV) (h : ∀ d ∈ ds, TameP m d) (hl : ds.length ≤ 100000) : TameP (m + 1) (.lst ds)
  | tup {m : Nat} (ds : List DV) (h : ∀ d ∈ ds, TameP m d) (hl : ds.length ≤ 100000) : TameP (m + 1) (.tup ds)
theorem TameP.facts : ∀ {m : Nat} {d : DV}, TameP m d → d.pl = true ∧ d.py.canLay0 = true ∧ d.py.depth ≤ m ∧ PyData.eqv d.py (.str oddW) = false := by
  intro m
  induction m with
  | zero =>
    intro d h
    cases h with
    | int i => exact ⟨rfl, rfl, Nat.le_refl _, rfl⟩
    | bl i => exact ⟨rfl, rfl, Nat.le_refl _, rfl⟩
    | non => exact ⟨rfl, rfl, Nat.le_refl _, rfl⟩
    | str s h ok => exact ⟨rfl, ok, Nat.le_refl _, by show (s == oddW) = false; simpa using h⟩
  | succ m ih =>
    have all : ∀ ds : List DV, (∀ d ∈ ds, TameP m d) → pls ds = true ∧ PyData.canLayAll0 (pys ds) = true ∧ PyData.depthAll (pys ds) ≤ m := by
      intro ds
      induction ds with
      | nil => exact fun _ => ⟨rfl, rfl, Nat.zero_le _⟩
      | cons d ds ihd =>
        intro h
        obtain ⟨a1, a2, a3, _⟩ := ih (h d (by simp))
        obtain ⟨b1, b2, b3⟩ := ihd fun x hx => h x (by simp [hx])
        refine ⟨?_, ?_, ?_⟩
        · show (d.pl && pls ds) = true
          rw [a1, b1]; rfl
        · show (d.py.canLay0 && PyData.canLayAll0 (pys ds)) = true
          rw [a2, b2]; rfl
        · show max d.py.depth (PyData.depthAll (pys ds)) ≤ m
          omega
    intro d h
    cases h with
    | int i => exact ⟨rfl, rfl, Nat.zero_le _, rfl⟩
    | bl i => exact ⟨rfl, rfl, Nat.zero_le _, rfl⟩
    | non => exact ⟨rfl, rfl, Nat.zero_le _, rfl⟩
    | str s h ok => exact ⟨rfl, ok, Nat.zero_le _, by show (s == oddW) = false; simpa using h⟩
    | lst ds h hl =>
      obtain ⟨a, b, c⟩ := all ds h
      exact ⟨a, b, Nat.succ_le_succ c, rfl⟩
    | tup ds h hl =>
      obtain ⟨a, b, c⟩ := all ds h
      exact ⟨a, b, Nat.succ_le_succ c, rfl⟩
/-! encodings are tame -/
def TameE {α : Type} (m : Nat) (e : α → DV) : Prop := ∀ x, TameP m (e x)
theorem tameI {m : Nat} : TameE m eI := fun x => .int x
theorem tameB {m : Nat} : TameE m eB := fun x => .bl x
theorem tameP {α β : Type} {m : Nat} {e : α → DV} {f : β → DV} (h : TameE m e) (g : TameE m f) (x : α × β) : TameP (m + 1) (eP e f x) := .tup _ (fun d hd => by
  simp at hd
  rcases hd with rfl | rfl
  · exact h _
  · exact g _) (by simp)
theorem tameT {α : Type} {m : Nat} {e : α → DV} (h : TameE m e) {xs : List α} (hl : xs.length ≤ 100000) : TameP (m + 1) (eT e xs) := .tup _ (fun d hd => by
  obtain ⟨x, _, rfl⟩ := List.mem_map.mp hd
  exact h x) (by simpa using hl)
theorem tameL {α : Type} {m : Nat} {e : α → DV} (h : TameE m e) {xs : List α} (hl : xs.length ≤ 100000) : TameP (m + 1) (eL e xs) := .lst _ (fun d hd => by
  obtain ⟨x, _, rfl⟩ := List.mem_map.mp hd
  exact h x) (by simpa using hl)
theorem TameP.mono {m n : Nat} (h : m ≤ n) : ∀ {d : DV}, TameP m d → TameP n d := by
  induction m generalizing n with
  | zero =>
    intro d hd
    cases hd with
    | int i => exact .int i
    | bl i => exact .bl i
    | non => exact .non
    | str s h ok => exact .str s h ok
  | succ m ih =>
    intro d hd
    cases hd with
    | int i => exact .int i
    | bl i => exact .bl i
    | non => exact .non
    | str s h ok => exact .str s h ok
    | lst ds q hl =>
      obtain ⟨k, rfl⟩ : ∃ k, n = k + 1 := ⟨n - 1, by omega⟩
      exact .lst ds (fun d hd => ih (by omega) (q d hd)) hl
    | tup ds q hl =>
      obtain ⟨k, rfl⟩ : ∃ k, n = k + 1 := ⟨n - 1, by omega⟩
      exact .tup ds (fun d hd => ih (by omega) (q d hd)) hl
section
variable {K : PySem.W.Frag} {E : XK} {S : List SL} {te ta : TE} {d e : DV} {i : Nat} {c : V} {r r' : R2}
theorem ep_orL (h : EXp K (tOp r (tVar i) (tC c)) S d) : EXp K (tOp (fun x y H Q => r x y H Q ∨ r' x y H Q) (tVar i) (tC c)) S d := fun A δ μ rr F M σ H s Q q => by
  obtain ⟨v, h1, h2⟩ := h A δ μ rr F M σ H s Q q
  exact ⟨v, h1, .inl h2⟩
theorem ep_orR (h : EXp K (tOp r' (tVar i) (tC c)) S d) : EXp K (tOp (fun x y H Q => r x y H Q ∨ r' x y H Q) (tVar i) (tC c)) S d := fun A δ μ rr F M σ H s Q q => by
  obtain ⟨v, h1, h2⟩ := h A δ μ rr F M σ H s Q q
  exact ⟨v, h1, .inr h2⟩
theorem ep_oddP {m : Nat} (hm : m ≤ 60) (t : TameP m d) (h : EXp K (tVar i) S d) : EXp K (tOp (rEqD K) (tVar i) (tC (.str oddW))) S (.bl false) := by
  obtain ⟨a, b, c, e⟩ := t.facts
  refine EXp.is (ep_eqD h ep_str a rfl ?_ (by decide +kernel)) (by show DV.bl (PyData.eqv d.py (.str oddW)) = _; rw [e])
  unfold SeqAt.shaped
  rw [b, decide_eq_true (by omega)]
  rfl
end
end G
set_option Elab.async false
set_option linter.all false
set_option maxRecDepth 100000
set_option maxHeartbeats 1000000
/-! making, methods and operators that may raise -/
namespace G
open PySem PySem.Spec PyProof.Rows L2 Evl
def tMakeS (C : Addr) (sp : Sp) (dvs : List V) (E : L2.St → XK) (t : TA) : TE := fun σ H Q => t σ H fun vs H1 => ∀ x dx, H1 x = none → H1 dx = none → dx ≠ x → sp (.ref x :: (vs ++ dvs)) (upd (upd H1 dx (.own x)) x (.ins C dx [])) (fun v H2 => v = .non ∧ Q (.ref x) H2) (E σ)
structure MakX (P : Program) (w : World) (K : PySem.W.Frag) (mg : Str → Option Value) (base : Heap) (k : Nat) (x : Str) (C : Addr) (sp : Sp) (dvs : List V) : Prop where
  ex : ∃ (f : Addr) (fd : FuncData) (ps : List Str) (ds : List Value), Mk K C f ∧ FnOk P w K mg base (L2.CX P w) k f fd ps sp ∧ mg x = some (.ref C) ∧ Binds K fd ps ds ∧ Vals dvs ds
section
variable {X : Cx} {k j : Nat} {C f : Addr} {x m : Str} {sp : Sp} {W : L2.WX} {E : L2.St → XK} {dvs : List V} {p pos apos : Pos} {e o a b : Expr} {es : List Expr} {ta tb : TE} {t : TA} {fd : FuncData} {ps : List Str} {ds : List Value} {CX : CXT}
theorem run_makeS {pins : List (Addr × Obj)} {σ : L2.St} {H : Hp} {s : Shared} {Q : VK} {us : List Value} {vs : List V} (M : Mk X.K C f) (F : FnOk X.prog X.w X.K X.mg X.base CX k f fd ps sp) (hr : Room (k + 1) X.A) (hb : Binds X.K fd ps ds) (hd : Vals dvs ds)
    (hx : PassesAt CX X σ (E σ)) (I : L2.Inv X pins σ H s) (r : Vals vs us)
    (h : ∀ x dx, H x = none → H dx = none → dx ≠ x → sp (.ref x :: (vs ++ dvs)) (upd (upd H dx (.own x)) x (.ins C dx [])) (fun v H2 => v = .non ∧ Q (.ref x) H2) (E σ)) :
    wpAny (model X.prog X.w) X.A (call (.ref C) us) (EP X pins σ Q) X.xe s := by
  have hq := h (s.heap.objs.size + 1) s.heap.objs.size (I.hok.fresh (Nat.le_succ _)) (I.hok.fresh (Nat.le_refl _)) (Nat.ne_of_lt (Nat.lt_succ_self _))
  have I2 := Inv.made (C := C) I
  have r2 : Vals (V.ref (s.heap.objs.size + 1) :: (vs ++ dvs)) (Value.ref (s.heap.objs.size + 1) :: (us ++ ds)) := .cons rfl (r.append hd)
  have hl : (Value.ref (s.heap.objs.size + 1) :: us ++ ds).length = ps.length := by
    have e := r2.length
    rw [F.len _ _ _ _ hq] at e
    exact e.symm
  refine wpAny_call (make_map (f := f) I.kIn M.makes M.init (beq_iff_eq.mp M.fn) (codeAny_mono (F.run _ X.stack _ _ ⟨Value.ref (s.heap.objs.size + 1) :: us, []⟩ (Value.ref (s.heap.objs.size + 1) :: (us ++ ds)) _ _ (E σ) (hr.make C us [])
    (I2.env0.make C us []) (hb _ (Value.ref (s.heap.objs.size + 1) :: us) I2.kIn hl) r2 hq) fun r s' hq' => ?_))
  cases r with
  | error e => exact hx pins _ _ e s' I2 hq'
  | ok fl =>
    cases fl with
    | ret u =>
      obtain ⟨v, H', I3, rv, ev, q3⟩ := I2.after hq'
      subst ev
      exact ⟨rv, ⟨V.ref (s.heap.objs.size + 1), H', I3, rfl, q3⟩⟩
    | next => exact False.elim hq'
    | brk => exact False.elim hq'
    | cont => exact False.elim hq'
theorem pe_mkX (c : MakX X.prog X.w X.K X.mg X.base k x C sp dvs) (hr : Room j X.A) (hk : k + 1 ≤ j) (tk : L2.Takes X W) (hg : Gl X x) (ha : PA X (e :: es) t)
    (hdb : (x == ("__debug__" : Str)) = false := by decide) (he : starEach (e :: es) X.env = (false, eval e X.env) :: starEach es X.env := by rfl) (hpl : (backTo pos (starEach es X.env)).any (·.1) = false := by rfl) :
    PE X (.Call (.Name x p) (e :: es) [] pos) (tMakeS C sp dvs (WE W) t) := by
  obtain ⟨f, fd, ps, ds, M, F, hm, b, d⟩ := c.ex
  refine ⟨fun pins s σ H Q I h => ?_⟩
  refine wpAny_Call_Name_kw (ld_glob I hg hm ?_ hdb)
  refine PySem.W.callWith_K (h₀ := X.base) I.ok.mod.kin M.kp (thn (ha.run pos pins s σ H _ I h) fun us s1 ⟨vs, H1, I1, r, q⟩ => ⟨I1.kIn, ?_⟩) he hpl
  exact run_makeS M F (hr.mono hk) b d (passAt tk σ) I1 r q
theorem pe_mtX {pl : Sem Bool} (c : MetX X.prog X.w X.K X.mg X.base k C m sp) (hr : Room j X.A) (hk : k ≤ j) (tk : L2.Takes X W) (he : PE X o ta) (ha : PA X (e :: es) t)
    (hst : starEach (e :: es) X.env = (false, eval e X.env) :: starEach es X.env := by rfl) (hpl : (backTo pos (starEach es X.env)).any (·.1) = false := by rfl)
    (ht : eval (.Call (.Attribute o m apos) (e :: es) [] pos) X.env = (do
      let ov ← eval o X.env
      standAt apos.atName
      let (f, first) ← holding [ov] (getMethod ov m pl)
      callWith pos f first (backTo pos (starEach (e :: es) X.env)) (backToKw pos (keywordEach [] X.env))) := by rfl) :
    PE X (.Call (.Attribute o m apos) (e :: es) [] pos) (tMeS C m sp (WE W) ta t) := by
  obtain ⟨f, fd, ps, hc, hm, F, b⟩ := c.ex
  refine ⟨fun pins s σ H Q I h => ?_⟩
  refine PySem.W.methodCall_KW (pl := pl) (thn (he.run pins s σ H _ I h) fun u s1 ⟨x, H1, I1, rx, a, dx, fs, ex, ea, l, q⟩ => ?_) ht
  subst ex
  obtain rfl : u = Value.ref a := rx
  refine getmeth_ok I1 ea hc hm l ?_
  refine PySem.W.callWith_K (first := [.ref a]) (h₀ := X.base) I.ok.mod.kin hm.kp (thn (ha.run pos pins s1 σ H1 _ I1 q) fun us s2 ⟨vs, H2, I2, r, q2⟩ => ⟨I2.kIn, ?_⟩) hst hpl
  exact run_fnS (us := .ref a :: us) (vs := .ref a :: vs) F (hr.mono hk) b (passAt tk σ) I2 (.cons rfl r) q2
def tOpS (C : Addr) (sp : Sp) (E : L2.St → XK) (ta tb : TE) : TE := fun σ H Q => ta σ H fun x H1 => tb σ H1 fun y H2 => rOwnB C sp (E σ) x y H2 Q
theorem pe_opX {op : Operator} (hc : PySem.W.selfFirst X.K C = true) (c : MetX X.prog X.w X.K X.mg X.base k C (PySem.dunder op.info.2) sp) (hr : Room j X.A) (hk : k ≤ j) (tk : L2.Takes X W) (ha : PE X a ta) (hb : PE X b tb) :
    PE X (.BinOp a op b pos) (tOpS C sp (WE W) ta tb) := by
  obtain ⟨f, fd, ps, _, hm, F, bd⟩ := c.ex
  refine ⟨fun pins s σ H Q I h => ?_⟩
  refine wpAny_BinOp (binT ha hb I h fun v u s2 x y H2 I2 rx ry q => ?_)
  obtain ⟨a, dx, fs, b, dy, gs, rfl, rfl, ha, hb', q⟩ := q
  cases rx
  cases ry
  obtain ⟨ox, od, J⟩ := inst_of I2 ha
  obtain ⟨oy, od', J'⟩ := inst_of I2 hb'
  obtain ⟨m, hF⟩ := I2.fr
  refine PySem.W.binop_K hF I2.ok.mod.kin J J'.type hc hm.at_ hm.fn (wpAny_mono (run_fnS (us := [.ref a, .ref b]) (vs := [.ref a, .ref b]) F (hr.mono hk) bd (passAt tk σ) I2 (.cons rfl (.cons rfl .nil)) q) (fun w s' z => ?_) fun _ _ e => e)
  obtain ⟨z', H', I', rz, qz⟩ := z
  exact back_of rz ⟨z', H', I', rz, qz⟩
end
/-- C(..) that may raise -/
def spIX (K : PySem.W.Frag) (c : ClX) (C : Addr) (R : List DV → Rz (List (Str × DV)) → Prop) : Sp := fun vs H Q E => ∃ M x dx ws ds r, vs = .ref x :: ws ∧ H x = some (.ins C dx []) ∧ x ∉ M ∧ (∀ a ∈ M, H a ≠ none) ∧ RpAll K (hid (x :: M) H) ws ds ∧ R ds r ∧
  (∀ fs H' fs', r = .ok fs → (∀ a o, a ≠ x → H a = some o → H' a = some o) → H' x = some (.ins C dx fs') → RpF K (hid (x :: M) H') fs' fs → Q .non H') ∧
  ∀ n d H', r = .er n → ExcAt H (n.to c) d H' → (∀ a o, a ≠ x → H a = some o → H' a = some o) → E (.ref (n.to c).cls) d H'
section
variable {K : PySem.W.Frag} {c : ClX} {Ef : L2.St → XK} {S : List SL} {R : List DV → Rz (List (Str × DV)) → Prop} {r : Rz (List (Str × DV))} {tr : TA} {ta tb : TE} {ds : List DV} {C : Addr}
def Rz.ins (C : Addr) : Rz (List (Str × DV)) → Rz DV
  | .ok fs => .ok (.ins C fs)
  | .er n => .er n
theorem xx_make {dvs : List V} {dd : List DV} (ha : AXp K tr S ds) (hd : ∀ H, RpAll K H dvs dd) (h : R (ds ++ dd) r) : XXp K c Ef (tMakeS C (spIX K c C R) dvs Ef tr) S (r.ins C) := fun A δ μ r0 F M σ H s Q kq kx =>
  ha A δ μ r0 F M σ H s _ fun vs H1 e1 g1 r1 => fun x dx hx hdx hne => by
    have n1 : (upd H1 dx (.own x)) x = none := by
      rw [upd_ne hne.symm]
      exact hx
    have e2 : Ex H1 (upd (upd H1 dx (.own x)) x (.ins C dx [])) := (Ex.new hdx).trans (Ex.new n1)
    have hxM := g1.fresh hx
    have up : Ex (hid M H1) (hid (x :: M) (upd (upd H1 dx (.own x)) x (.ins C dx []))) := fun a o k => by
      have hn := hid_no k
      have hax : a ≠ x := ne_of_none (hid_sub a o k) hx
      exact hid_get (by simp [hax, hn]) (e2 _ _ (hid_sub _ _ k))
    refine ⟨M, x, dx, vs ++ dvs, ds ++ dd, r, rfl, upd_same, hxM, (g1.mono e2).al, (r1.mono up).app (hd _), h, fun fs H' fs' er k hx' rf => ⟨rfl, ?_⟩, fun n d H' er ea k => ?_⟩
    · subst er
      have e3 : Ex H1 H' := fun a o z => k a o (ne_of_none z hx) (e2 a o z)
      exact kq (.ins C fs) _ H' rfl (e1.trans (hid_mono e3)) (g1.mono e3) (.ins (hid_get hxM hx') (rf.mono (hid_less fun a ha => List.mem_cons_of_mem _ ha)))
    · subst er
      have e3 : Ex H1 H' := fun a o z => k a o (ne_of_none z hx) (e2 a o z)
      exact kx n d H' rfl (ea.back (g1.fr.trans e2)) (g1.mono e3)
theorem xx_op {R : List DV → Rz DV → Prop} {r : Rz DV} {fs gs : List (Str × DV)} (ha : EXp K ta S (.ins C fs)) (hb : EXp K tb S (.ins C gs)) (h : R [.ins C fs, .ins C gs] r) : XXp K c Ef (tOpS C (spX K c R) Ef ta tb) S r := fun A δ μ r0 F M σ H s Q kq kx =>
  ha A δ μ r0 F M σ H s _ fun v H1 e1 s1 r1 => hb A δ μ r0 F M σ H1 s1 _ fun u H2 e2 s2 r2 => by
    have r1' := r1.mono e2
    cases r1' with
    | @ins a _ dx vs _ h1 h2 =>
      cases r2 with
      | @ins b _ dy ws _ g1 g2 =>
        exact ⟨a, dx, vs, b, dy, ws, rfl, rfl, hid_sub _ _ h1, hid_sub _ _ g1, M, _, r, s2.al, .cons (.ins h1 h2) (.cons (.ins g1 g2) .nil), h, xx_run (f := Ef) (sp := fun _ _ => True) s2 (e1.trans e2) kq kx⟩
end
section
variable {K : PySem.W.Frag} {c : ClX} {Pg : Program} {w : World} {mg : Str → Option Value} {base : Heap} {C : Addr}
/-- an __init__ that may raise -/
theorem okWIX {x qual : Str} {params : Arguments} {body : List Stmt} {scope : Scope} {dvs : List V} {kws : List (Str × V)} {f : Addr} {fd : FuncData} {N ps : List Str} {k : Nat} {R : List DV → Rz (List (Str × DV)) → Prop} (Fn : FunD K x qual params body scope dvs kws f fd) (Sc : FnScope N ps scope) (len : ∀ ds r, R ds r → ds.length + 1 = ps.length)
    (hbody : ∀ (cdv : Value) (A : Around) (outer : List PySem.Env) (s : Shared) (H : Hp) (E : XK), Room k (A.deeper (envOfC qual scope s.heap.objs.size f cdv)) →
      ∃ t, PSs (cxOf (L2.CX Pg w) Pg w K mg base N qual scope f cdv A outer s H E) body t ∧ ∀ ds r x dx F0, R ds r → W K E t (startS N.length (.box x :: ds)) { fr := FrI C x dx F0, nf := fun F' x' C' dx' fs' => F' = F0 ∧ x' = x ∧ C' = C ∧ dx' = dx ∧ r = .ok fs', xe := fun e => ∃ n, r = .er n ∧ e = n.to c }) : FnOk Pg w K mg base (L2.CX Pg w) (k + 1) f fd ps (spIX K c C R) := by
  refine Fn.ok Sc (fun vs H Q E ⟨M, x, dx, ws, ds, r, e, _, _, _, h1, h2, _⟩ => by rw [e, List.length_cons, h1.length]; exact len _ _ h2) fun cdv A outer s H vs Q E hr h => ?_
  obtain ⟨M, x, dx, ws, ds, r, rfl, hx, hxM, al, ra, hR, kq, kx⟩ := h
  have st : Sta K (upd (hid [x] H) x (.ins C dx [])) (x :: M) (startD N.length (.box x :: ds)) [] (L2.start N (.ref x :: ws)) H := by
    refine ⟨fun a ha => ?_, fun a o q => ?_, fun p hp => (nomatch hp), by simp, fun p hp => (nomatch hp), envAll (.cons (.box x) ra), by unfold L2.start startD; simp [ra.length]⟩
    · rcases List.mem_cons.mp ha with rfl | ha
      · rw [hx]; simp
      · exact al a ha
    · by_cases e : a = x
      · subst e
        rw [upd_same] at q
        rw [hx, q]
      · rw [upd_ne e] at q
        exact hid_sub _ _ q
  have keep : ∀ {fv : List (Str × V)} {H' : Hp}, Ex (upd (hid [x] H) x (.ins C dx fv)) H' → ∀ a o, a ≠ x → H a = some o → H' a = some o := fun s a o hne q => s a o (by rw [upd_ne hne]; exact hid_get (by simp [hne]) q)
  obtain ⟨t, h1, h2⟩ := hbody cdv A outer s H E hr
  refine ⟨t, h1, h2 ds r x dx (hid [x] H) hR (upd (hid [x] H) x (.ins C dx [])) (x :: M) (x :: M) none _ H _ ⟨rfl, by unfold hid; simp, by simp⟩ ⟨x :: M, _, [], fun _ => 0, fun a h => h, fun a h => .inl h, fun a h => (by cases h), fun i es h _ => (start_own h).elim, SRel.start, st⟩ ⟨fun _ _ _ h => h.elim, fun _ _ _ h => h.elim, fun _ _ _ h => h.elim, fun _ _ _ _ _ h => h.elim, fun _ _ _ _ _ h => h.elim, ?_, ?_⟩⟩
  · rintro e d H' ⟨n, e1, rfl⟩ ea ex
    refine kx n d H' e1 ?_ (keep ex)
    unfold ExcAt at ea ⊢
    split at ea
    · exact ea
    · obtain ⟨a, g1, g2, g3⟩ := ea
      refine ⟨a, g1, ?_, g3⟩
      by_cases hax : a = x
      · subst hax
        rw [upd_same] at g2
        cases g2
      · rw [upd_ne hax] at g2
        cases hH : H a with
        | none => rfl
        | some o => rw [hid_get (by simp [hax]) hH] at g2; cases g2
  · rintro fs' x' C' dx' F0 M' δ fv σ' H' ⟨rfl, rfl, rfl, rfl, er⟩ _ _ hz s rf
    have up : Ex (hid M' H') (hid (x' :: M) H') := hid_less hz
    exact kq fs' H' fv er (keep s.fr) (s.fr x' _ upd_same) (rf.mono up)
end
end G
set_option Elab.async false
namespace G
open PySem L2
/-- an own exception class is caught by its own clause -/
theorem exm_self {K : PySem.W.Frag} {S : Addr} (h1 : PySem.W.subIn K (.ref S) (.type "BaseException") = some true) (h2 : PySem.W.isClsIn K S = true) (h3 : PySem.W.typeIn K (.ref S) = some (.type "type")) (h4 : PySem.W.subIn K (.ref S) (.ref S) = some true) :
    PySem.W.exmOne K (.ref S) (.ref S) = some true := by
  have e1 : (PySem.W.subIn K (.ref S) (.type "BaseException") == some true) = true := by
    rw [h1]
    rfl
  have e2 : ((PySem.W.clsIn K S).isSome && PySem.W.typeIn K (.ref S) == some (.type "type")) = true := by
    have z : (PySem.W.clsIn K S).isSome = true := h2
    rw [z, h3]
    rfl
  unfold PySem.W.exmOne
  rw [if_pos e1]
  show (if ((PySem.W.clsIn K S).isSome && PySem.W.typeIn K (.ref S) == some (.type "type")) = true then _ else _) = _
  rw [if_pos e2]
  exact h4
end G
set_option Elab.async false
set_option linter.all false
set_option maxRecDepth 100000
set_option maxHeartbeats 1000000
/-! loops whose body raises; raising -/
namespace G
open PySem PySem.Spec PyProof.Rows L2 Evl
section
variable {K : PySem.W.Frag} {E : XK} {F F1 H H' : Hp} {M0 Z M M1 : List Addr} {q : Option Addr} {S S1 S2 S' : List SL} {σ : L2.St} {δ : Env} {μ : Sto} {A : Nat → Addr} {P : Post} {ts t u tb : TS} {te ta tc : TE} {tr : TA} {D : L2.Ends} {wi : TI} {g : TG} {α τ ρ : Type}
abbrev bodyPX (P : Post) (SE : τ → List SL) (PR : ρ → DV → List SL → Prop) (PX : ρ → Exc → Prop) (fl : Fl τ ρ) : Post :=
  { nx := fun S' => ∃ s', fl = .nx s' ∧ SLe S' (SE s'), ct := fun S' => ∃ s', fl = .nx s' ∧ SLe S' (SE s'), bk := fun S' => ∃ s', fl = .bk s' ∧ SLe S' (SE s'), rt := fun d S' => ∃ r, fl = .rt r ∧ PR r d S', xe := fun e => ∃ r, fl = .rt r ∧ PX r e }
theorem ok_bodyX {SE : τ → List SL} {PR : ρ → DV → List SL → Prop} {PX : ρ → Exc → Prop} {fl : Fl τ ρ} {N : L2.St → Hp → Prop} (ok : Ok K F M0 Z q E P D) (eF : Ex F F1) (hn : ∀ a ∈ M, a ∈ M0 ∨ F a = none)
    (hN : ∀ s' σ' H', fl = .nx s' → StS K F1 M Z q (SE s') σ' H' → N σ' H') (hb : ∀ s', fl = .bk s' → P.nx (SE s')) (hr : ∀ r d S', fl = .rt r → PR r d S' → P.rt d S') (hx : ∀ r e, fl = .rt r → PX r e → P.xe e) :
    Ok K F1 M Z q E (bodyPX P SE PR PX fl) { D with nx := N, ct := N, bk := D.nx } where
  nx := fun S' σ' H' ⟨s', e, l⟩ st => hN s' σ' H' e (st.less l)
  ct := fun S' σ' H' ⟨s', e, l⟩ st => hN s' σ' H' e (st.less l)
  bk := fun S' σ' H' ⟨s', e, l⟩ st => by
    obtain ⟨M1, δ, μ, A, c⟩ := st.less l
    exact ok.nx _ σ' H' (hb s' e) ⟨M1, δ, μ, A, c.narrow eF hn⟩
  rt := fun d S' v σ' H' ⟨r, e, p⟩ st => by
    obtain ⟨M1, δ, μ, A, c, rv⟩ := st
    exact ok.rt d S' v σ' H' (hr r d S' e p) ⟨M1, δ, μ, A, c.narrow eF hn, rv⟩
  rl := fun _ _ _ _ _ h => h.elim
  xe := fun x dd H' ⟨r, e, p⟩ h2 h3 => ok.xe x dd H' (hx r x e p) (h2.back eF) (eF.trans h3)
  nf := fun _ _ _ _ _ _ _ _ _ _ h => h.elim
theorem w_loopX {xs : List α} {bs : List (Nat × (α → DV))} {body : α → τ → Option (Fl τ ρ)} {fl : Fl τ ρ} (SE : τ → List SL) (s0 : τ) (hS : SLe S (SE s0)) (w : WXl K wi g (SE s0) xs bs) (h : loopO body xs s0 = some fl)
    (PR : ρ → DV → List SL → Prop) (PX : ρ → Exc → Prop)
    (turn : ∀ x s fl', body x s = some fl' → W K E tb (bS bs x (SE s)) (bodyPX P SE PR PX fl'))
    (done : ∀ s1, fl = .nx s1 → P.nx (SE s1)) (hr : ∀ r d S', fl = .rt r → PR r d S' → P.rt d S') (hx : ∀ r e, fl = .rt r → PX r e → P.xe e) : W K E (tFor wi g tb) S P := fun F M0 Z q σ H D fr st ok => by
  obtain ⟨M, δ, μ, A, c⟩ := st.less hS
  refine w A δ μ c.r F M σ H c.s _ fun J H1 e1 s1 T => ?_
  obtain ⟨s1w, eF, eB⟩ := s1.widen
  generalize hid (μ.map Prod.fst) H1 = F1 at s1w eF eB
  have back : ∀ {M1 : List Addr}, (∀ a ∈ M1, a ∈ M ∨ F1 a = none) → ∀ a o, hid M H1 a = some o → a ∉ M1 := fun {M1} h a o qq hm => by
    rcases h a hm with z | z
    · exact hid_no qq z
    · rw [eB a o qq] at z; cases z
  refine ⟨fun i m σ2 H2 => m = xs.length - i ∧ i ≤ xs.length ∧ ∃ s, loopO body (xs.drop i) s = some fl ∧ StS K F1 M Z q (SE s) σ2 H2, ⟨xs.length, by simp, Nat.zero_le _, s0, h, M, δ, μ, A, c.z, fun a ha => .inl ha, c.q, c.ho, c.r, s1w⟩, ?_⟩
  rintro i m σ2 H2 ⟨rfl, hi, s, hf, M2, δ2, μ2, A2, c2⟩
  have ed : Ex (hid M H1) (hid M2 H2) := c2.s.data eB (back c2.n)
  by_cases hlt : i < xs.length
  · rw [List.drop_eq_getElem_cons hlt] at hf
    obtain ⟨fl', hb, hf⟩ := bdO hf
    refine .inr ⟨T.go i H2 _ ed hlt, fun σ3 H3 => ∃ s', fl' = .nx s' ∧ StS K F1 M Z q (SE s') σ3 H3, fun σ3 H3 ⟨s', e, st'⟩ => ⟨xs.length - (i + 1), by omega, rfl, hlt, s', by subst e; exact hf, st'⟩, fun x H3 y => ?_⟩
    refine T.bind i H2 x H3 _ _ _ _ _ hlt ed c2.s y _ fun σ3 e3 s3 _ _ => ?_
    have hg := List.getElem?_eq_getElem hlt
    refine turn xs[i] s fl' hb F1 M Z q σ3 H3 _ True.intro ⟨M2, _, μ2, A2, c2.z, c2.n, c2.q, fun k fs e h0 => c2.ho k fs (bS_own e) h0, c2.r.bnd hg, s3⟩ (ok_bodyX ok eF c.n (fun s' σ' H' e st' => ⟨s', e, st'⟩) (fun s' e => ?_) (fun r dd S' e p => ?_) (fun r x e p => ?_))
    · subst e
      exact done s' (Option.some.inj hf).symm
    · subst e
      exact hr r dd S' (Option.some.inj hf).symm p
    · subst e
      exact hx r x (Option.some.inj hf).symm p
  · have e : i = xs.length := by omega
    subst e
    rw [List.drop_length] at hf
    exact .inl ⟨T.stop H2 _ ed, ok.nx _ σ2 H2 (done s (Option.some.inj hf).symm) ⟨M2, δ2, μ2, A2, c2.narrow eF c.n⟩⟩
end
/-- the text, what it says of the exceptions (fI, fdI: Refused.__init__) -/
structure TxtX (P : Program) (w : World) (K : PySem.W.Frag) (mg : Str → Option Value) (base : Heap) (cx : ClX) (fI : Addr) (fdI : FuncData) : Prop where
  m_M : mg "Malformed" = some (.ref cx.M)
  q_M : PySem.W.excIn K cx.M [.type "ValueError", .type "Exception", .type "BaseException", .type "object"] "ValueError.__new__" = true
  kp_M : PySem.W.keepIn K (.ref cx.M) = true
  b_M : PySem.W.subIn K (.ref cx.M) (.type "BaseException") = some true
  t_M : PySem.W.typeIn K (.ref cx.M) = some (.type "type")
  m_R : mg "Refused" = some (.ref cx.R)
  T_R : OexC K cx.R
  i_R : PySem.W.findIn K (.ref cx.R) "__init__" = some (some (.ref fI))
  t_I : PySem.W.typeIn K (.ref fI) = some (.type "function")
  F_R : FnOk P w K mg base (L2.CX P w) 3 fI fdI ["self", "reason"] (spRI cx.R "reason")
  b_R : Binds K fdI ["self", "reason"] []
section
variable {K : PySem.W.Frag} {c : ClX} {E : XK} {S : List SL} {P : Post}
theorem raise_endC {F H : Hp} {M : List Addr} {δ : G.Env} {μ : Sto} {σ : L2.St} {R : Addr} {f x : Str} {E : XK} (hx : x.length ≤ 1000) (st : Sta K F M δ μ σ H) (kq : ∀ d H', F d = none → Ex F H' → H' d = some (.xd [(f, V.str x)]) → E (.ref R) (some d) H') :
    tMkO R (spRI R f) [] (tCons (tC (.str x)) tNil) σ H fun cls d H' => E cls d H' := by
  refine ⟨by simp, fun a ha => ⟨a, x, rfl, hx, upd_same, fun d hd hda => ⟨rfl, d, [(f, V.str x)], upd_same, by rw [upd_ne hda, upd_same], ?_, ?_⟩⟩⟩
  all_goals have hd0 : H d = none := by rw [upd_ne hda] at hd; exact hd
  · exact hd0
  · refine kq d _ (st.freshF hd0) (fun b o q => ?_) upd_same
    have q1 := st.fr b o q
    have n1 : b ≠ d := fun z => by rw [z, hd0] at q1; cases q1
    have n2 : b ≠ a := fun z => by rw [z, ha] at q1; cases q1
    rw [upd_ne n1, del_ne n2, upd_ne n2, upd_ne n1, upd_ne n2]
    exact q1
theorem w_raiseR {x : Str} (k : P.xe ((Xn.refu x).to c)) (hx : x.length ≤ 1000 := by decide +kernel) : W K E (fun _ σ H => tMkO c.R (spRI c.R "reason") [] (tCons (tC (.str x)) tNil) σ H fun cls d H' => E cls d H') S P := fun F M0 Z q σ H D fr ⟨M, δ, μ, A, s⟩ ok =>
  raise_endC hx s.s fun d H' h1 h2 h3 => ok.xe _ (some d) H' k ⟨d, rfl, h1, h3⟩ h2
/-- what a raising call gives: the rest, or the exception -/
def bdX {α γ : Type} (m : Option (Rz α)) (e : Xn → Option γ) (k : α → Option γ) : Option γ := m.bind fun z => match z with
  | .ok a => k a
  | .er x => e x
theorem bdX_of {α γ : Type} {m : Option (Rz α)} {e : Xn → Option γ} {k : α → Option γ} {r : γ} (h : bdX m e k = some r) : (∃ a, m = some (.ok a) ∧ k a = some r) ∨ ∃ x, m = some (.er x) ∧ e x = some r := by
  unfold bdX at h
  obtain ⟨z, h1, h2⟩ := bdO h
  cases z with
  | ok a => exact .inl ⟨a, h1, h2⟩
  | er x => exact .inr ⟨x, h1, h2⟩
end
end G
namespace G
open PySem PySem.Spec PyProof.Rows L2 Evl
def Rz.mp {α β : Type} (f : α → β) : Rz α → Rz β
  | .ok a => .ok (f a)
  | .er x => .er x
section
variable {K : PySem.W.Frag} {c : ClX} {E : XK} {S S' : List SL} {P : Post} {te : TE} {d : DV} {x : Xn} {i : Nat} {r : Rz DV}
theorem XXp.is {Ef : L2.St → XK} {r r' : Rz DV} (h : XXp K c Ef te S r) (e : r = r') : XXp K c Ef te S r' := e ▸ h
theorem w_asgXo (h : XXp K c (fun _ => E) te S (.ok d)) (S' : List SL) (k : P.nx S') (hS : S.set i (.dat d) = S' := by rfl) : W K E (tAsg te (gName i)) S P :=
  w_asgX h (fun d => S.set i (.dat d)) (fun d' e => by cases e; rw [hS]; exact k) (fun x e => by cases e) (fun _ => rfl)
theorem w_asgXe (h : XXp K c (fun _ => E) te S (.er x)) (k : P.xe (x.to c)) : W K E (tAsg te (gName i)) S P :=
  w_asgX h (fun d => S.set i (.dat d)) (fun d' e => by cases e) (fun x' e => by cases e; exact k) (fun _ => rfl)
theorem w_dropXo (h : XXp K c (fun _ => E) te S (.ok d)) (k : P.nx S) : W K E (tDrop te) S P := w_dropX h (fun _ e => k) (fun x e => by cases e)
theorem w_dropXe (h : XXp K c (fun _ => E) te S (.er x)) (k : P.xe (x.to c)) : W K E (tDrop te) S P := w_dropX h (fun _ e => by cases e) (fun x' e => by cases e; exact k)
theorem w_retXo (h : XXp K c (fun _ => E) te S (.ok d)) (k : P.rt d S) : W K E (tRet te) S P := w_retX h (fun _ e => by cases e; exact k) (fun x e => by cases e)
theorem w_retXe (h : XXp K c (fun _ => E) te S (.er x)) (k : P.xe (x.to c)) : W K E (tRet te) S P := w_retX h (fun _ e => by cases e) (fun x' e => by cases e; exact k)
end
end G
set_option Elab.async false
set_option linter.all false
set_option maxRecDepth 100000
set_option maxHeartbeats 1000000
/-! x in y, y an instance of a class with its own __contains__ -/
namespace G
open PySem PySem.Spec PyProof.Rows L2 Evl
def rOwnI (C : Addr) (sp : Sp) (E : XK) (f : Bool → Bool) : R2 := fun x y H Q => ∃ a dx fs, y = .ref a ∧ H a = some (.ins C dx fs) ∧ sp [y, x] H (fun z H' => ∃ b, z = .bl b ∧ Q (.bl (f b)) H') E
section
variable {X : Cx} {CX : CXT} {pins : List (Addr × Obj)} {σ : L2.St} {H : Hp} {s : Shared} {a C dx f : Addr} {fs : List (Str × V)} {k j : Nat} {fd : FuncData} {ps : List Str} {sp : Sp} {E : XK}
theorem op_ownI (hs : PySem.W.findIn X.K (.ref C) "__contains__" = some (some (.ref f))) (hf : PySem.W.isFn X.K (.ref f) = true)
    (Fn : FnOk X.prog X.w X.K X.mg X.base CX k f fd ps sp) (hr : Room k X.A) (hb : Binds X.K fd ps []) (hx : Passes CX X E) : OpR X (compareOp .In) (rOwnI C sp E id) := by
  intro pins s σ H x y v u Q I rx ry h
  obtain ⟨a, dx, fs, rfl, ha, q⟩ := h
  cases ry
  obtain ⟨ox, od, J⟩ := inst_of I ha
  obtain ⟨m, hF⟩ := I.fr
  refine PySem.W.in_K hF I.ok.mod.kin J hs hf (wpAny_mono (run_fn (us := [.ref a, v]) (vs := [.ref a, x]) Fn hr hb .nil hx I (.cons rfl (.cons rx .nil)) q) (fun w s' z => ?_) fun _ _ e => e)
  obtain ⟨z', H', I', rz, b, eb, qz⟩ := z
  subst eb
  cases rz
  exact wpAny_truthy_bool ⟨.bl b, H', I', rfl, qz⟩
theorem op_ownNI (hs : PySem.W.findIn X.K (.ref C) "__contains__" = some (some (.ref f))) (hf : PySem.W.isFn X.K (.ref f) = true)
    (Fn : FnOk X.prog X.w X.K X.mg X.base CX k f fd ps sp) (hr : Room k X.A) (hb : Binds X.K fd ps []) (hx : Passes CX X E) : OpR X (compareOp .NotIn) (rOwnI C sp E fun b => !b) := by
  intro pins s σ H x y v u Q I rx ry h
  obtain ⟨a, dx, fs, rfl, ha, q⟩ := h
  cases ry
  obtain ⟨ox, od, J⟩ := inst_of I ha
  obtain ⟨m, hF⟩ := I.fr
  refine PySem.W.notIn_K hF I.ok.mod.kin J hs hf (wpAny_mono (run_fn (us := [.ref a, v]) (vs := [.ref a, x]) Fn hr hb .nil hx I (.cons rfl (.cons rx .nil)) q) (fun w s' z => ?_) fun _ _ e => e)
  obtain ⟨z', H', I', rz, b, eb, qz⟩ := z
  subst eb
  cases rz
  exact wpAny_truthy_bool ⟨.bl (!b), H', I', rfl, qz⟩
theorem opI (c : MetG X.prog X.w X.K X.mg X.base k C "__contains__" sp) (hr : Room j X.A) (hk : k ≤ j) : OpR X (compareOp .In) (rOwnI C sp E0 id) := by
  obtain ⟨f, fd, ps, _, hm, F, b⟩ := c.ex
  exact op_ownI hm.at_ hm.fn F (hr.mono hk) b pass0
theorem opNI (c : MetG X.prog X.w X.K X.mg X.base k C "__contains__" sp) (hr : Room j X.A) (hk : k ≤ j) : OpR X (compareOp .NotIn) (rOwnI C sp E0 fun b => !b) := by
  obtain ⟨f, fd, ps, _, hm, F, b⟩ := c.ex
  exact op_ownNI hm.at_ hm.fn F (hr.mono hk) b pass0
end
section
variable {K : PySem.W.Frag} {S : List SL} {ta tb : TE} {C : Addr} {fs : List (Str × DV)} {R : List DV → DV → Prop} {E : XK} {d : DV} {b : Bool} {f : Bool → Bool}
theorem ep_ownI (ha : EXp K ta S d) (hb : EXp K tb S (.ins C fs)) (h : R [.ins C fs, d] (.bl b)) : EXp K (tOp (rOwnI C (spD K R) E f) ta tb) S (.bl (f b)) := fun A δ μ r F M σ H s Q q =>
  ha A δ μ r F M σ H s _ fun v H1 e1 s1 r1 => hb A δ μ r F M σ H1 s1 _ fun u H2 e2 s2 r2 => by
    have r1' := r1.mono e2
    cases r2 with
    | @ins a _ dx vs _ h1 h2 => exact ⟨a, dx, vs, rfl, hid_sub _ _ h1, M, _, .bl b, s2.al, .cons (.ins h1 h2) (.cons r1' .nil), h, fun v' H' ex rv => by cases rv; exact ⟨b, rfl, q _ H' ((e1.trans e2).trans (hid_mono ex)) (s2.mono ex) (.bl _)⟩⟩
theorem ep_in (ha : EXp K ta S d) (hb : EXp K tb S (.ins C fs)) (h : R [.ins C fs, d] (.bl b)) : EXp K (tOp (rOwnI C (spD K R) E id) ta tb) S (.bl b) := ep_ownI ha hb h
theorem ep_notIn (ha : EXp K ta S d) (hb : EXp K tb S (.ins C fs)) (h : R [.ins C fs, d] (.bl b)) : EXp K (tOp (rOwnI C (spD K R) E fun b => !b) ta tb) S (.bl (!b)) := ep_ownI ha hb h
end
end G
set_option Elab.async false
set_option linter.all false
set_option maxRecDepth 100000
set_option maxHeartbeats 1000000
/-! list + list, old lists too -/
namespace G
open PySem PySem.Spec PyProof.Rows L2 Evl PySem.P PySem.MeetsSeq PySem.SeqAt
def rCatD (K : PySem.W.Frag) : R2 := fun x y H Q => ∃ a b xs ys, x = .ref a ∧ y = .ref b ∧ SqL K H a xs ∧ SqL K H b ys ∧ xs.length + ys.length ≤ sizeLine ∧ ∀ p, H p = none → Q (.ref p) (upd H p (.lst (xs ++ ys)))
theorem op_catD {X : Cx} : OpR X (binaryOp .Add) (rCatD X.K) := by
  intro pins s σ H x y v u Q I rx ry h
  obtain ⟨a, b, xs, ys, rfl, rfl, ha, hb, hz, q⟩ := h
  cases rx
  cases ry
  obtain ⟨its, r, ⟨⟨cls, dd, data, sl⟩, n, ho, hc, hd, hs⟩, z⟩ := I.list ha
  obtain ⟨its2, r2, ⟨⟨cls2, dd2, data2, sl2⟩, n2, ho2, hc2, hd2, hs2⟩, z2⟩ := I.list hb
  simp only at hc hd hs hc2 hd2 hs2
  subst hc hd hs hc2 hd2 hs2
  have l1 := r.length
  have l2 := r2.length
  have e : its.toArray ++ its2.toArray = (its ++ its2).toArray := by simp
  refine concat_meets ⟨_, ho, rfl⟩ ⟨_, ho2, rfl⟩ noFill_list_add seq_list_add PySem.F.slot_list_add PySem.F.entry_list_add (PySem.F.args_list_add_2 _ _) (list_addW a b its.toArray its2.toArray n n2 none none sl sl2 (by rw [List.size_toArray, List.size_toArray]; omega)) ⟨ho, ho2, ?_⟩
  rw [e]
  exact ⟨.ref _, _, I.lnew (t' := s.toks) (r.append r2) (by rw [List.length_append]; omega), rfl, q _ I.fresh⟩
theorem op_catDK {X : Cx} {K : PySem.W.Frag} (h : X.K = K := by rfl) : OpR X (binaryOp .Add) (rCatD K) := h ▸ op_catD
section
variable {K : PySem.W.Frag} {S : List SL} {ta tb : TE} {ds es : List DV}
theorem lp_catD (ha : EXp K ta S (.lst ds)) (hb : EXp K tb S (.lst es)) (hl : ds.length + es.length ≤ 100000) : LXp K (tOp (rCatD K) ta tb) S (ds ++ es) := fun A δ μ r F M σ H s Q q =>
  ha A δ μ r F M σ H s _ fun v H1 e1 s1 r1 => hb A δ μ r F M σ H1 s1 _ fun w H2 e2 s2 r2 => by
    have r1' := r1.mono e2
    cases r1' with
    | @lst a vs _ g1 g2 =>
      cases r2 with
      | @lst b ws _ k1 k2 =>
        refine ⟨a, b, vs, ws, rfl, rfl, ex_l hid_sub g1, ex_l hid_sub k1, sz_of (by rw [g2.length, k2.length]; exact hl), fun p hp => ?_⟩
        exact q p _ (back_none s s2 (e1.trans e2) hp) (s2.fresh hp) ((e1.trans e2).trans (new_ex s2 hp)) (s2.newL hp (g2.app k2))
theorem lp_catDO {α : Type} {f : α → DV} {xs ys zs : List α} (ha : EXp K ta S (.lst (xs.map f))) (hb : EXp K tb S (.lst (ys.map f))) (h : catO xs ys = some zs) : LXp K (tOp (rCatD K) ta tb) S (zs.map f) := by
  unfold catO at h
  split at h
  · rename_i hc
    cases h
    rw [List.map_append]
    exact lp_catD ha hb (by simpa using hc)
  · cases h
end
end G
set_option Elab.async false
set_option linter.all false
set_option maxRecDepth 100000
set_option maxHeartbeats 1000000
/-! a list of new lists, all of them changed later -/
namespace G
open PySem PySem.Spec PyProof.Rows L2 Evl
section
variable {K : PySem.W.Frag} {F H H' : Hp} {M : List Addr} {δ : Env} {μ μ' : Sto} {σ : L2.St} {ta tb te tl : TE} {d e : DV} {ds es : List DV} {i j : Nat} {D : L2.Ends}
theorem zip_snoc {α β : Type} {ps : List α} {q : α} {rows : List β} {r : β} (h : ps.length = rows.length) : (ps ++ [q]).zip (rows ++ [r]) = ps.zip rows ++ [(q, r)] := by
  rw [List.zip_append h]
  rfl
theorem rp_box {H H' : Hp} : ∀ {ws : List V} {ps : List Addr}, RpAll K H ws (ps.map .box) → RpAll K H' ws (ps.map .box)
  | _, [], h => by
    cases h
    exact .nil
  | _, p :: ps, h => by
    cases h with
    | cons a b =>
      cases a
      exact .cons (.box p) (rp_box b)
/-- [[..] for .. in ..], kept as lists of this def's own -/
theorem xx_lc2 {wi : TI} {g : TG} {vs js : List Nat} {n : Nat} {b : Nat → Env → Env} (w : WX K wi g δ μ μ' n js b) (f : Nat → List DV) (hn : n ≤ 100000) (hj : ∀ k ∈ js, k ∈ vs)
    (he : ∀ i μ2, i < n → LX K te (b i (wipeD δ vs)) μ2 μ2 (f i)) (s : Sta K F M δ μ σ H) (Q : VK)
    (q : ∀ p ps H', H p = none → p ∉ M → (∀ a ∈ ps, F a = none ∧ a ∉ M) → ps.length = n → Ex (hid M H) (hid M H') → Sta K F (p :: (ps ++ M)) δ ((p, ps.map .box) :: (ps.zip ((List.range n).map f) ++ μ')) σ H' → Q (.ref p) H') : tLc wi g tYes te vs σ H Q :=
  w F M σ H s _ fun J H1 e1 s1 T => fun D hD => by
    obtain ⟨s1w, eF, eB⟩ := s1.widen
    generalize hF1 : hid (μ'.map Prod.fst) H1 = F1 at s1w eF eB
    have hDM := s1.fresh hD
    have hDF : F1 D = none := by
      cases q : F1 D with
      | none => rfl
      | some o => rw [← hF1] at q; rw [hid_sub _ _ q] at hD; cases hD
    have z0 := s1w.newL (vs := []) (ds := []) hD .nil
    have hB : ∀ ps : List Addr, (∀ a ∈ ps, F1 a = none ∧ a ∉ M) → ∀ a o, hid M H1 a = some o → a ∉ D :: (ps ++ M) := fun ps hp a o q => by
      simp only [List.mem_cons, List.mem_append, not_or]
      exact ⟨ne_of_none (hid_sub _ _ q) hD, (fun h => by have z := (hp a h).1; rw [eB a o q] at z; exact absurd z (by simp)), hid_no q⟩
    refine ⟨fun i m H2 => m = n - i ∧ i ≤ n ∧ ∃ ps : List Addr, ps.length = i ∧ (∀ a ∈ ps, F1 a = none ∧ a ∉ M) ∧ Sta K F1 (D :: (ps ++ M)) δ ((D, ps.map .box) :: (ps.zip ((List.range i).map f) ++ μ')) σ H2, ⟨n, by simp, Nat.zero_le _, [], rfl, fun a h => (by cases h), z0⟩, ?_⟩
    rintro i m H2 ⟨rfl, hi, ps, hps, hpf, s2⟩
    have ed : Ex (hid M H1) (hid (D :: (ps ++ M)) H2) := s2.data eB (hB ps hpf)
    by_cases hlt : i < n
    · refine .inr ⟨T.go i H2 _ ed hlt, fun H' => ∃ ps : List Addr, ps.length = i + 1 ∧ (∀ a ∈ ps, F1 a = none ∧ a ∉ M) ∧ Sta K F1 (D :: (ps ++ M)) δ ((D, ps.map .box) :: (ps.zip ((List.range (i + 1)).map f) ++ μ')) σ H', fun H' s' => ⟨n - (i + 1), by omega, rfl, hlt, s'⟩, fun x H3 y => ?_⟩
      refine T.bind i H2 x H3 _ _ _ _ _ hlt ed (s2.wiped vs) y _ fun σ3 e3 s3 hl3 ho3 => ?_
      obtain ⟨ws, g1, g2⟩ := s3.sto (D, ps.map .box) (by simp)
      have s3' : Sta K F1 (D :: (ps ++ M)) δ ((D, ps.map .box) :: (ps.zip ((List.range i).map f) ++ μ')) σ H3 := s2.mono e3
      have lk := s3.lock g1
      have hlen : (ps.map DV.box).length = i := by rw [List.length_map, hps]
      refine ⟨?_, ?_⟩
      · refine (wipe_eq hl3 fun k hk => ho3 k (fun z => hk (hj k z))).trans (wipe_eq (wipe_length σ vs) fun k hk => ?_)
        rw [wipe_at, if_neg hk]
      · show te σ3 H3 _
        refine he i _ hlt _ _ σ3 H3 lk _ fun r H5 hr hrM e5 s5 => ?_
        have k1 : H5 D = some (.lst ws) := s5.fr D _ upd_same
        refine ⟨ws, k1, sz_lt (by have := g2.length; rw [hlen] at this; omega), ps ++ [r], by simp [hps], fun a ha => ?_, ?_⟩
        · rcases List.mem_append.mp ha with h | h
          · exact hpf a h
          · have : a = r := by simpa using h
            subst this
            have h1 := lk.freshF hr
            refine ⟨?_, fun hm => hrM (by simp [hm])⟩
            have hne : a ≠ D := fun e => hrM (by simp [e])
            rw [upd_ne hne] at h1
            exact h1
        · have hrD : r ≠ D := fun e => hrM (by simp [e])
          have ex35 : Ex (hid (D :: (ps ++ M)) H3) (hid (r :: D :: (ps ++ M)) H5) := fun a o z => by
            have z1 := hid_no z
            have z2 := hid_sub _ _ (e5 a o z)
            have z3 : a ≠ r := ne_of_none (hid_sub _ _ z) hr
            exact hid_get (by simp only [List.mem_cons, not_or] at z1 ⊢; exact ⟨z3, z1⟩) z2
          have s5b : Sta K (upd F1 D (.lst ws)) (r :: D :: (ps ++ M)) δ ((r, f i) :: (ps.zip ((List.range i).map f) ++ μ')) σ H5 :=
            ⟨s5.al, s5.fr, s5.dm, s5.nd, s5.sto, fun k dk hk => by
              obtain ⟨vk, a1, a2⟩ := s3'.env k dk hk
              exact ⟨vk, a1, a2.mono ex35⟩, s3'.len⟩
          have s5c := s5b.perm (M' := D :: r :: (ps ++ M)) (fun a => by simp [or_left_comm]) (List.Perm.refl _)
          have s6 := Sta.unlock hDF s5c (rp_box (ps := ps) g2)
          have s7 := (s6.pokeH ((rp_box (ps := ps) g2).app (.cons (.box r) .nil))).1
          refine s7.perm (fun a => by simp [or_left_comm, or_comm, or_assoc]) ?_
          have er : (List.range (i + 1)).map f = (List.range i).map f ++ [f i] := by rw [List.range_succ, List.map_append]; rfl
          rw [er, zip_snoc (by simp [hps]), List.map_append]
          refine List.Perm.cons _ ?_
          rw [List.append_assoc]
          exact List.perm_middle.symm
    · have e : i = n := by omega
      subst e
      refine .inl ⟨T.stop H2 _ ed, ?_⟩
      have hD0 : H D = none := back_none s s1 e1 hD
      have less : Ex (hid (D :: (ps ++ M)) H2) (hid M H2) := hid_less fun a ha => List.mem_cons_of_mem _ (List.mem_append_right _ ha)
      have nf : ∀ a, F1 a = none → F a = none := fun a z => by
        cases q : F a with
        | none => rfl
        | some o => rw [eF a o q] at z; cases z
      exact q D ps H2 hD0 hDM (fun a ha => ⟨nf a (hpf a ha).1, (hpf a ha).2⟩) hps (e1.trans (ed.trans less)) (s2.narrow eF)
end
end G
namespace G
open PySem PySem.Spec PyProof.Rows L2 Evl
section
variable {K : PySem.W.Frag} {F H H' : Hp} {M : List Addr} {δ : Env} {μ μ' : Sto} {σ : L2.St} {ta tb te tl : TE} {d e : DV} {ds es : List DV} {i j : Nat} {D : L2.Ends}
/-- [.. for x in xs], xs a list of this def's own that stands still meanwhile -/
theorem lx_lcBox {l : Addr} {k : Nat} {vs : List Nat} (ha : EX K tl δ μ μ (.box l)) (hm : (l, ds) ∈ μ) (f : Nat → DV) (hn : ds.length ≤ 100000) (hk : k ∈ vs)
    (he : ∀ i, i < ds.length → EX K te ((wipeD δ vs).set k (some (ds.getD i .non))) μ μ (f i)) : LX K (tLc (iSeq K tl) (gName k) tYes te vs) δ μ μ ((List.range ds.length).map f) := fun F M σ H s Q q =>
  ha F M σ H s _ fun v H1 e1 s1 r1 => by
    cases r1
    obtain ⟨xs, k1, k2⟩ := s1.sto (l, ds) hm
    refine ⟨l, rfl, .inl ⟨⟨xs, sq_of k1⟩, fun D hD => ?_⟩⟩
    obtain ⟨s1w, eF, eB⟩ := s1.widen
    generalize hF1 : hid (μ.map Prod.fst) H1 = F1 at s1w eF eB
    have hDM := s1.fresh hD
    have hDF : F1 D = none := by
      cases q : F1 D with
      | none => rfl
      | some o => rw [← hF1] at q; rw [hid_sub _ _ q] at hD; cases hD
    have z0 := s1w.newL (vs := []) (ds := []) hD .nil
    have hB : ∀ a o, hid M H1 a = some o → a ∉ D :: M := fun a o q => by
      simp only [List.mem_cons, not_or]
      exact ⟨ne_of_none (hid_sub _ _ q) hD, hid_no q⟩
    refine ⟨fun i m H2 => m = ds.length - i ∧ i ≤ ds.length ∧ Sta K F1 (D :: M) δ ((D, (List.range i).map f) :: μ) σ H2, ⟨ds.length, by simp, Nat.zero_le _, z0⟩, ?_⟩
    rintro i m H2 ⟨rfl, hi, s2⟩
    have ed : Ex (hid M H1) (hid (D :: M) H2) := s2.data eB hB
    obtain ⟨xs2, m1, m2⟩ := s2.sto (l, ds) (List.mem_cons_of_mem _ hm)
    have lx : xs2.length = ds.length := m2.length
    by_cases hlt : i < ds.length
    · refine .inr ⟨(walk_list (xs := xs2)).goes i H2 (by omega) (sq_of m1), fun H' => Sta K F1 (D :: M) δ ((D, (List.range (i + 1)).map f) :: μ) σ H', fun H' s' => ⟨ds.length - (i + 1), by omega, rfl, hlt, s'⟩, fun x H3 y => ?_⟩
      have y2 := (walk_list (xs := xs2)).yields i H2 x H3 (by omega) (sq_of m1) y
      obtain ⟨rfl, y3⟩ := y2
      obtain ⟨dd, hd, rd⟩ := m2.get' y3
      have hd2 : ds.getD i .non = dd := by rw [List.getD_eq_getElem?_getD, hd]; rfl
      have s3 := (s2.wiped vs).put (i := k) rd
      obtain ⟨ws, g1, g2⟩ := s2.sto (D, (List.range i).map f) (by simp)
      have lk := s3.lock g1
      have hlen : ((List.range i).map f).length = i := by simp
      refine ⟨?_, ?_⟩
      · refine (wipe_eq set_len fun q hq => ?_).trans (wipe_eq (wipe_length σ vs) fun q hq => ?_)
        · exact set_out q (fun z => hq ((show q = k by simpa using z) ▸ hk))
        · rw [wipe_at, if_neg hq]
      · show te _ H3 _
        have hE := he i hlt
        rw [hd2] at hE
        refine hE _ _ _ H3 lk _ fun v5 H5 e5 s5 r5 => ?_
        have n1 : H5 D = some (.lst ws) := s5.fr D _ upd_same
        refine ⟨ws, n1, sz_lt (by have := g2.length; rw [hlen] at this; omega), ?_⟩
        have s5b : Sta K (upd F1 D (.lst ws)) (D :: M) δ μ σ H5 :=
          ⟨s5.al, s5.fr, s5.dm, s5.nd, s5.sto, fun kk dk hh => by
            obtain ⟨vk, a1, a2⟩ := s2.env kk dk hh
            exact ⟨vk, a1, a2.mono e5⟩, s2.len⟩
        have s6 := Sta.unlock hDF s5b (g2.mono e5)
        have s7 := (s6.pokeH ((g2.mono e5).app (.cons r5 .nil))).1
        have er : (List.range (i + 1)).map f = (List.range i).map f ++ [f i] := by rw [List.range_succ, List.map_append]; rfl
        rw [er]
        exact s7
    · have e : i = ds.length := by omega
      subst e
      have st := (walk_list (K := K) (xs := xs2)).stops H2 (sq_of m1)
      rw [lx] at st
      refine .inl ⟨st, ?_⟩
      have hD0 : H D = none := back_none s s1 e1 hD
      exact q D H2 hD0 hDM (e1.trans (ed.trans (hid_less fun a ha => List.mem_cons_of_mem _ ha))) (s2.narrow eF)
end
end G
set_option Elab.async false
set_option linter.all false
/-! the models' steps, in plain Lean -/
namespace G
theorem mulO_l {a b : Int} (h : a.natAbs < 2 ^ 64) : mulO a b = some (a * b) := by
  unfold mulO
  rw [if_pos (mulSm (by omega))]
theorem mulO_r {a b : Int} (h : b.natAbs < 2 ^ 64) : mulO a b = some (a * b) := by
  unfold mulO
  rw [if_pos (mulSmR (by omega))]
theorem fdivO_ne {a b : Int} (h : b ≠ 0) : fdivO a b = some (a.fdiv b) := by
  unfold fdivO
  rw [if_neg h]
theorem modO_ne {a b : Int} (h : b ≠ 0) : modO a b = some (a.fmod b) := by
  unfold modO
  rw [if_neg h]
theorem appO_ok {α : Type} {xs : List α} {y : α} (h : xs.length < 100000) : appO xs y = some (xs ++ [y]) := by
  unfold appO
  rw [if_pos h]
theorem rngO_nat {n : Nat} (h : n < 100000) : rngO (n : Int) = some (rng n) := by
  unfold rngO
  rw [if_pos (by omega)]
theorem mem_rng {n : Nat} {x : Int} : x ∈ rng (n : Int) ↔ ∃ i : Nat, i < n ∧ x = i := by
  unfold rng
  rw [Int.toNat_natCast, List.mem_map]
  constructor
  · rintro ⟨i, hi, rfl⟩
    exact ⟨i, List.mem_range.mp hi, rfl⟩
  · rintro ⟨i, hi, rfl⟩
    exact ⟨i, List.mem_range.mpr hi, rfl⟩
theorem rng_succ {n : Nat} : rng ((n + 1 : Nat) : Int) = rng (n : Int) ++ [(n : Int)] := by
  unfold rng
  rw [Int.toNat_natCast, Int.toNat_natCast, List.range_succ, List.map_append]
  rfl
theorem rng_map {α : Type} {n : Nat} {f : Int → α} : (rng (n : Int)).map f = (List.range n).map fun i => f (i : Nat) := by
  unfold rng
  rw [Int.toNat_natCast, List.map_map]
  rfl
theorem bo {α β : Type} {m : Option α} {k : α → Option β} {x : α} {r : Option β} (h : m = some x) (h2 : k x = r) : m.bind k = r := by rw [h]; exact h2
section
variable {α β γ τ ρ : Type}
theorem mapO_of {f : α → Option β} {g : α → β} : ∀ {xs : List α}, (∀ x ∈ xs, f x = some (g x)) → mapO f xs = some (xs.map g)
  | [], _ => rfl
  | x :: xs, h => by
    show (f x).bind _ = _
    rw [h x (by simp)]
    show (mapO f xs).bind _ = _
    rw [mapO_of fun y hy => h y (by simp [hy])]
    rfl
theorem lcA_of {f : α → Option β} {g : α → β} {xs : List α} (hl : xs.length ≤ 100000) (h : ∀ x ∈ xs, f x = some (g x)) : lcA f xs = some (xs.map g) := by
  unfold lcA
  rw [if_pos hl, mapO_of h]
theorem filO_of {c : α → Option Bool} {p : α → Bool} : ∀ {xs : List α}, (∀ x ∈ xs, c x = some (p x)) → filO c xs = some (xs.filter p)
  | [], _ => rfl
  | x :: xs, h => by
    show (c x).bind _ = _
    rw [h x (by simp)]
    show (filO c xs).bind _ = _
    rw [filO_of fun y hy => h y (by simp [hy])]
    show some _ = _
    rw [List.filter_cons]
theorem lcO_of {c : α → Option Bool} {p : α → Bool} {f : α → Option β} {g : α → β} {xs : List α} (hl : xs.length ≤ 100000) (hc : ∀ x ∈ xs, c x = some (p x)) (h : ∀ x ∈ xs, p x = true → f x = some (g x)) : lcO c f xs = some ((xs.filter p).map g) := by
  unfold lcO
  rw [if_pos hl, filO_of hc]
  show mapO f _ = _
  exact mapO_of fun x hx => h x (List.mem_filter.mp hx).1 (List.mem_filter.mp hx).2
theorem foldO_append {body : α → τ → Option τ} : ∀ {xs ys : List α} {s : τ}, foldO body (xs ++ ys) s = (foldO body xs s).bind fun t => foldO body ys t
  | [], _, _ => rfl
  | x :: xs, ys, s => by
    show (body x s).bind _ = ((body x s).bind _).bind _
    cases body x s with
    | none => rfl
    | some t => exact foldO_append (xs := xs)
/-- by an invariant of the turns of a range -/
theorem foldO_rng {body : Int → τ → Option τ} {n : Nat} {s : τ} (I : Nat → τ → Prop) (h0 : I 0 s) (hs : ∀ i t, i < n → I i t → ∃ t', body (i : Int) t = some t' ∧ I (i + 1) t') : ∃ t, foldO body (rng (n : Int)) s = some t ∧ I n t := by
  induction n with
  | zero => exact ⟨s, rfl, h0⟩
  | succ n ih =>
    obtain ⟨t, h1, h2⟩ := ih fun i t hi => hs i t (by omega)
    obtain ⟨t', h3, h4⟩ := hs n t (by omega) h2
    refine ⟨t', ?_, h4⟩
    rw [rng_succ, foldO_append, h1]
    show (body (n : Int) t).bind _ = _
    rw [h3]
    rfl
theorem foldO_list {body : α → τ → Option τ} (I : τ → Prop) : ∀ {xs : List α} {s : τ}, I s → (∀ x ∈ xs, ∀ t, I t → ∃ t', body x t = some t' ∧ I t') → ∃ t, foldO body xs s = some t ∧ I t
  | [], s, h0, _ => ⟨s, rfl, h0⟩
  | x :: xs, s, h0, hs => by
    obtain ⟨t, h1, h2⟩ := hs x (by simp) s h0
    obtain ⟨t', h3, h4⟩ := foldO_list I (xs := xs) h2 fun y hy => hs y (by simp [hy])
    exact ⟨t', by show (body x s).bind _ = _; rw [h1]; exact h3, h4⟩
theorem foldO_of {body : α → τ → Option τ} {g : τ → α → τ} : ∀ {xs : List α} {s : τ}, (∀ x ∈ xs, ∀ t, body x t = some (g t x)) → foldO body xs s = some (xs.foldl g s)
  | [], _, _ => rfl
  | x :: xs, s, h => by
    show (body x s).bind _ = _
    rw [h x (by simp)]
    exact foldO_of fun y hy => h y (by simp [hy])
theorem foldO_unit {body : α → Unit → Option Unit} {xs : List α} (h : ∀ x ∈ xs, body x () = some ()) : foldO body xs () = some () := by
  obtain ⟨t, h1, _⟩ := foldO_list (body := body) (fun _ => True) (xs := xs) (s := ()) True.intro fun x hx t _ => ⟨(), h x hx, True.intro⟩
  exact h1
theorem loopO_unit {body : α → Unit → Option (Fl Unit ρ)} : ∀ {xs : List α}, (∀ x ∈ xs, body x () = some (.nx ())) → loopO body xs () = some (.nx ())
  | [], _ => rfl
  | x :: xs, h => by
    show (body x ()).bind _ = _
    rw [h x (by simp)]
    exact loopO_unit fun y hy => h y (by simp [hy])
theorem mapS_rng {f : α → τ → Option (β × τ)} (I : τ → Prop) (J : β → Prop) : ∀ {xs : List α} {s : τ}, I s → (∀ x ∈ xs, ∀ t, I t → ∃ y t', f x t = some (y, t') ∧ J y ∧ I t') → ∃ ys t, mapS f xs s = some (ys, t) ∧ ys.length = xs.length ∧ (∀ y ∈ ys, J y) ∧ I t
  | [], s, h0, _ => ⟨[], s, rfl, rfl, fun y h => (by cases h), h0⟩
  | x :: xs, s, h0, hs => by
    obtain ⟨y, t, h1, h2, h3⟩ := hs x (by simp) s h0
    obtain ⟨ys, t', h4, h5, h6, h7⟩ := mapS_rng I J (xs := xs) h3 fun z hz => hs z (by simp [hz])
    refine ⟨y :: ys, t', ?_, by simp [h5], fun z hz => (List.mem_cons.mp hz).elim (fun e => e ▸ h2) (h6 z), h7⟩
    show (f x s).bind _ = _
    rw [h1]
    show (mapS f xs t).bind _ = _
    rw [h4]
    rfl
theorem lcS_ex {f : α → τ → Option (β × τ)} (I : τ → Prop) (J : β → Prop) {xs : List α} {s : τ} (hl : xs.length ≤ 100000) (h0 : I s) (hs : ∀ x ∈ xs, ∀ t, I t → ∃ y t', f x t = some (y, t') ∧ J y ∧ I t') : ∃ ys t, lcS f xs s = some (ys, t) ∧ ys.length = xs.length ∧ (∀ y ∈ ys, J y) ∧ I t := by
  unfold lcS
  rw [if_pos hl]
  exact mapS_rng I J h0 hs
end
theorem cutL_take {α : Type} {xs : List α} {k : Nat} : cutL xs none (some (k : Int)) = xs.take k := by
  unfold cutL
  rw [HT.sIx_none, HT.sIx_nat, List.drop_zero, Nat.sub_zero]
  by_cases h : k ≤ xs.length
  · rw [Nat.min_eq_left h]
  · rw [Nat.min_eq_right (by omega), List.take_length, List.take_of_length_le (by omega)]
theorem setO_nat {α : Type} {xs : List α} {i : Nat} {y : α} (h : i < xs.length) : setO xs (i : Int) y = some (xs.set i y) := by
  unfold setO
  rw [ixN_of h]
end G
set_option Elab.async false
set_option linter.all false
set_option maxRecDepth 100000
set_option maxHeartbeats 1000000
/-! _law_gram: a list of lists that is changed -/
namespace G
open PySem PySem.Spec PyProof.Rows L2 Evl
def put2 (M : List (List Int)) (i j : Nat) (v : Int) : List (List Int) := M.set i ((M.getD i []).set j v)
def gIn (take : List Int → Int → Option (Int × List Int)) (i : Nat) (j : Nat) (s : List (List Int) × List Int) : Option (List (List Int) × List Int) := (take s.2 3).bind fun t => some (put2 (put2 s.1 i j (t.1 - 1)) j i (t.1 - 1), t.2)
def gOut (take : List Int → Int → Option (Int × List Int)) (i : Nat) (s : List (List Int) × List Int) : Option (List (List Int) × List Int) := foldO (gIn take i) (List.range i) s
def absI (x : Int) : Int := if x < 0 then -x else x
def gDia (take : List Int → Int → Option (Int × List Int)) (i : Nat) (s : List (List Int) × List Int) : Option (List (List Int) × List Int) := (take s.2 3).bind fun t => some (put2 s.1 i i (1 + t.1 + ((s.1.getD i []).map absI).sum), t.2)
def zer (n : Nat) : List (List Int) := (List.range n).map fun _ => (List.range n).map fun _ => 0
def gramRest (take : List Int → Int → Option (Int × List Int)) (n : Nat) (st : List Int) : Option (List (List Int) × List Int) := (foldO (gOut take) (List.range n) (zer n, st)).bind fun s => foldO (gDia take) (List.range n) s
/-- the rows within the store -/
structure GI (M : List Addr) (μ : Sto) (j0 : Nat) (l p : Addr) (ps : List Addr) (n : Nat) (s : List (List Int) × List Int) (M1 : List Addr) (δ1 : Env) (μ1 : Sto) : Prop where
  m : M1 = p :: (ps ++ M)
  mu : μ1 = (p, ps.map .box) :: (ps.zip (s.1.map fun r => r.map eI) ++ μ.set j0 (l, s.2.map eI))
  hj : j0 < μ.length
  lp : ps.length = n
  lr : s.1.length = n
  lw : ∀ r ∈ s.1, r.length = n
  d0 : δ1[0]? = some (some (.box l))
  d2 : δ1[2]? = some (some (.int n))
  d3 : δ1[3]? = some (some (.box p))
  dl : δ1.length = 7
section
variable {K : PySem.W.Frag} {F H H' : Hp} {M M1 : List Addr} {δ1 : Env} {μ μ1 : Sto} {σ : L2.St} {j0 n : Nat} {l p : Addr} {ps : List Addr} {s : List (List Int) × List Int}
theorem GI.set (g : GI M μ j0 l p ps n s M1 δ1 μ1) {k : Nat} (hk : k = 4 ∨ k = 5 ∨ k = 6) (d : Option DV) : GI M μ j0 l p ps n s M1 (δ1.set k d) μ1 := by
  have e : ∀ q, q = 0 ∨ q = 2 ∨ q = 3 → (δ1.set k d)[q]? = δ1[q]? := fun q hq => List.getElem?_set_ne (by omega)
  exact ⟨g.m, g.mu, g.hj, g.lp, g.lr, g.lw, by rw [e 0 (by omega)]; exact g.d0, by rw [e 2 (by omega)]; exact g.d2, by rw [e 3 (by omega)]; exact g.d3, by rw [List.length_set]; exact g.dl⟩
theorem GI.st (g : GI M μ j0 l p ps n s M1 δ1 μ1) : μ1[n + 1 + j0]? = some (l, s.2.map eI) := by
  rw [g.mu, List.getElem?_cons, if_neg (by omega), List.getElem?_append_right (by rw [List.length_zip, List.length_map, g.lp, g.lr]; omega), List.length_zip, List.length_map, g.lp, g.lr]
  rw [show n + 1 + j0 - 1 - min n n = j0 by omega]
  exact List.getElem?_set_self g.hj
theorem GI.st_set (g : GI M μ j0 l p ps n s M1 δ1 μ1) (st' : List Int) : GI M μ j0 l p ps n (s.1, st') M1 δ1 (μ1.set (n + 1 + j0) (l, st'.map eI)) := by
  refine ⟨g.m, ?_, g.hj, g.lp, g.lr, g.lw, g.d0, g.d2, g.d3, g.dl⟩
  rw [g.mu, show n + 1 + j0 = (n + j0) + 1 by omega, List.set_cons_succ, List.set_append_right _ _ (by rw [List.length_zip, List.length_map, g.lp, g.lr]; omega), List.length_zip, List.length_map, g.lp, g.lr]
  rw [show n + j0 - min n n = j0 by omega, List.set_set]
theorem GI.psl (g : GI M μ j0 l p ps n s M1 δ1 μ1) {i : Nat} (hi : i < n) : ∃ q, ps[i]? = some q := ⟨ps[i]'(by rw [g.lp]; exact hi), List.getElem?_eq_getElem _⟩
theorem GI.row (g : GI M μ j0 l p ps n s M1 δ1 μ1) {i : Nat} (hi : i < n) {q : Addr} (hq : ps[i]? = some q) : μ1[i + 1]? = some (q, (s.1.getD i []).map eI) := by
  have h1 : i < s.1.length := by rw [g.lr]; exact hi
  have hz : (ps.zip (s.1.map fun r => r.map eI))[i]? = some (q, (s.1[i]).map eI) := List.getElem?_zip_eq_some.mpr ⟨hq, by rw [List.getElem?_map, List.getElem?_eq_getElem h1]; rfl⟩
  rw [g.mu, List.getElem?_cons_succ, List.getElem?_append_left (by rw [List.length_zip, List.length_map, g.lp, g.lr]; omega), hz]
  rw [List.getD_eq_getElem?_getD, List.getElem?_eq_getElem h1]
  rfl
theorem zip_setG {α β : Type} : ∀ {xs : List α} {ys : List β} {i : Nat} {x : α} {y : β}, xs[i]? = some x → (xs.zip ys).set i (x, y) = xs.zip (ys.set i y)
  | [], ys, i, x, y, h => by simp at h
  | a :: xs, [], i, x, y, h => by simp
  | a :: xs, b :: ys, 0, x, y, h => by simp at h; subst h; rfl
  | a :: xs, b :: ys, i + 1, x, y, h => by
    show (a, b) :: (xs.zip ys).set i (x, y) = _
    rw [zip_setG (by simpa using h)]
    rfl
theorem GI.row_set (g : GI M μ j0 l p ps n s M1 δ1 μ1) {i j : Nat} (hi : i < n) {q : Addr} (hq : ps[i]? = some q) (v : Int) : GI M μ j0 l p ps n (put2 s.1 i j v, s.2) M1 δ1 (μ1.set (i + 1) (q, ((s.1.getD i []).map eI).set j (.int v))) := by
  have h1 : i < s.1.length := by rw [g.lr]; exact hi
  refine ⟨g.m, ?_, g.hj, g.lp, by unfold put2; rw [List.length_set]; exact g.lr, fun r hr => ?_, g.d0, g.d2, g.d3, g.dl⟩
  · rw [g.mu, List.set_cons_succ, List.set_append_left _ _ (by rw [List.length_zip, List.length_map, g.lp, g.lr]; omega), zip_setG hq]
    unfold put2
    rw [← List.map_set, ← List.map_set]
  · unfold put2 at hr
    rcases List.mem_or_eq_of_mem_set hr with h | h
    · exact g.lw r h
    · rw [h, List.length_set, List.getD_eq_getElem?_getD, List.getElem?_eq_getElem h1]
      exact g.lw _ (List.getElem_mem h1)
theorem GI.wid (g : GI M μ j0 l p ps n s M1 δ1 μ1) {i : Nat} (hi : i < n) : (s.1.getD i []).length = n := by
  have h1 : i < s.1.length := by rw [g.lr]; exact hi
  rw [List.getD_eq_getElem?_getD, List.getElem?_eq_getElem h1]
  exact g.lw _ (List.getElem_mem h1)
theorem GI.p0 (g : GI M μ j0 l p ps n s M1 δ1 μ1) : μ1[0]? = some (p, ps.map .box) := by rw [g.mu]; rfl
theorem GI.ex_row (g : GI M μ j0 l p ps n s M1 δ1 μ1) {i a : Nat} (hi : i < n) (ha : δ1[a]? = some (some (.int (i : Int)))) {q : Addr} (hq : ps[i]? = some q) : EX K (tOp (rIx K) (tVar 3) (tVar a)) δ1 μ1 μ1 (.box q) :=
  ex_ix (ex_var g.d3) (ex_var ha) (.box g.p0) (by
    have h2 : i < (ps.map DV.box).length := by rw [List.length_map, g.lp]; exact hi
    rw [atI_nat h2]
    rw [List.getElem_map]
    rw [List.getElem?_eq_getElem (by rw [g.lp]; exact hi)] at hq
    cases hq
    rfl)
theorem GI.ex_item (g : GI M μ j0 l p ps n s M1 δ1 μ1) {i j a b : Nat} (hi : i < n) (hj : j < n) (ha : δ1[a]? = some (some (.int (i : Int)))) (hb : δ1[b]? = some (some (.int (j : Int)))) : EX K (tOp (rIx K) (tOp (rIx K) (tVar 3) (tVar a)) (tVar b)) δ1 μ1 μ1 (.int ((s.1.getD i []).getD j 0)) := by
  obtain ⟨q, hq⟩ := g.psl hi
  exact ex_ix (g.ex_row hi ha hq) (ex_var hb) (.box (g.row hi hq)) (atI_int (by rw [g.wid hi]; exact hj))
/-- rows[i][j] = e -/
theorem GI.set2 {te : TE} {μ2 : Sto} {v : Int} {i j a b : Nat} {D : L2.Ends} {s' : List (List Int) × List Int} (z : Sta K F M1 δ1 μ1 σ H) (h : EX K te δ1 μ1 μ2 (.int v)) (g : GI M μ j0 l p ps n s' M1 δ1 μ2) (hi : i < n) (hj : j < n) (ha : δ1[a]? = some (some (.int (i : Int)))) (hb : δ1[b]? = some (some (.int (j : Int))))
    (k : ∀ μ3 H', GI M μ j0 l p ps n (put2 s'.1 i j v, s'.2) M1 δ1 μ3 → Sta K F M1 δ1 μ3 σ H' → D.nx σ H') : tAsg te (gSub (tOp (rIx K) (tVar 3) (tVar a)) (tVar b) rSetL) D σ H := by
  obtain ⟨q, hq⟩ := g.psl hi
  exact x_setL z h (g.ex_row hi ha hq) (ex_var hb) (g.row hi hq) (ixN_of (by rw [List.length_map, g.wid hi]; exact hj)) fun H' z' => k _ H' (g.row_set hi hq v) z'
theorem GI.set2S {te : TE} {μ2 : Sto} {v : Int} {i j a b : Nat} {D : L2.Ends} {u : TS} {s' : List (List Int) × List Int} (z : Sta K F M1 δ1 μ1 σ H) (h : EX K te δ1 μ1 μ2 (.int v)) (g : GI M μ j0 l p ps n s' M1 δ1 μ2) (hi : i < n) (hj : j < n) (ha : δ1[a]? = some (some (.int (i : Int)))) (hb : δ1[b]? = some (some (.int (j : Int))))
    (k : ∀ μ3 H', GI M μ j0 l p ps n (put2 s'.1 i j v, s'.2) M1 δ1 μ3 → Sta K F M1 δ1 μ3 σ H' → u D σ H') : tSeq (tAsg te (gSub (tOp (rIx K) (tVar 3) (tVar a)) (tVar b) rSetL)) u D σ H :=
  GI.set2 (D := { D with nx := u D }) z h g hi hj ha hb k
theorem wxr {te : TE} {δ : Env} {μ : Sto} {m j : Nat} (h : EX K te δ μ μ (.int (m : Int))) (hm : m < 100000) : WX K (iRng1 (tCons te tNil)) (gName j) δ μ μ m [j] (fun i δ => δ.set j (some (.int (i : Nat)))) := by
  have z := wx_range1 (j := j) (ax_cons h ax_nil) (by omega) (by omega)
  rw [Int.toNat_natCast] at z
  exact z
theorem put2_get {A : List (List Int)} {i j : Nat} {v : Int} (hi : i < A.length) (hj : j < (A.getD i []).length) : ((put2 A i j v).getD i []).getD j 0 = v := by
  unfold put2
  rw [List.getD_eq_getElem?_getD (l := A.set i _), List.getElem?_set_self hi]
  show ((A.getD i []).set j v).getD j 0 = v
  rw [List.getD_eq_getElem?_getD, List.getElem?_set_self hj]
  rfl
variable {take : List Int → Int → Option (Int × List Int)} {R : List DV → List DV → List DV → DV → Prop} {D : L2.Ends} {E : XK}
abbrev tTk (K : PySem.W.Frag) (R : List DV → List DV → List DV → DV → Prop) (E : XK) : TE := tCall (spS K R) [] E (tCons (tVar 0) (tCons (tC (.int 3)) tNil))
theorem GI.tk (hR : ∀ st m v st', take st m = some (v, st') → R (st.map eI) [.int m] (st'.map eI) (.int v)) (g : GI M μ j0 l p ps n s M1 δ1 μ1) {t : Int × List Int} (h : take s.2 3 = some t) :
    EX K (tTk K R E) δ1 μ1 (μ1.set (n + 1 + j0) (l, t.2.map eI)) (.int t.1) := ex_callS (ex_var g.d0) (ax_cons ex_int ax_nil) g.st (hR _ _ _ _ h)
theorem GI.inner (hR : ∀ st m v st', take st m = some (v, st') → R (st.map eI) [.int m] (st'.map eI) (.int v)) {i : Nat} (hn : n ≤ 100) (hi : i < n) (z : Sta K F M1 δ1 μ1 σ H) (g : GI M μ j0 l p ps n s M1 δ1 μ1) (ha : δ1[4]? = some (some (.int (i : Int)))) {s' : List (List Int) × List Int} (h : foldO (gIn take i) (List.range i) s = some s')
    (k : ∀ δ2 μ2 σ' H', GI M μ j0 l p ps n s' M1 δ2 μ2 → Sta K F M1 δ2 μ2 σ' H' → D.nx σ' H') :
    tFor (iRng1 (tCons (tVar 4) tNil)) (gName 5) (tSeq (tAsg (tOp (rI0 fun i j => V.int (i - j)) (tTk K R E) (tC (.int 1))) (gSub (tOp (rIx K) (tVar 3) (tVar 4)) (tVar 5) rSetL)) (tAsg (tOp (rIx K) (tOp (rIx K) (tVar 3) (tVar 4)) (tVar 5)) (gSub (tOp (rIx K) (tVar 3) (tVar 5)) (tVar 4) rSetL))) D σ H := by
  refine x_forP (fun q M2 δ2 μ2 => ∃ t, GI M μ j0 l p ps n t M2 δ2 μ2 ∧ δ2[4]? = some (some (.int (i : Int))) ∧ foldO (gIn take i) ((List.range i).drop q) t = some s') z (wxr (ex_var ha) (by omega)) ⟨s, g, ha, h⟩ (fun F1 q M2 δ2 μ2 σ2 H2 eF hq ⟨t, gt, ht4, hf⟩ nw st => ?_) fun M2 δ2 μ2 σ2 H2 ⟨t, gt, _, hf⟩ _ st => ?_
  · have em : M2 = M1 := gt.m.trans g.m.symm
    subst em
    rw [List.drop_eq_getElem_cons (by simpa using hq)] at hf
    obtain ⟨t2, hb, hf⟩ := bdO hf
    rw [List.getElem_range] at hb
    unfold gIn at hb
    obtain ⟨tv, h1, h2⟩ := bdO hb
    cases h2
    have g1 := gt.set (k := 5) (by omega) (some (.int (q : Int)))
    have d5 : (δ2.set 5 (some (.int (q : Int))))[5]? = some (some (.int (q : Int))) := List.getElem?_set_self (by rw [gt.dl]; omega)
    have d4 : (δ2.set 5 (some (.int (q : Int))))[4]? = some (some (.int (i : Int))) := by rw [List.getElem?_set_ne (by omega)]; exact ht4
    have hqn : q < n := by omega
    refine GI.set2S st (ex_sub (g1.tk hR h1) ex_int) (g1.st_set tv.2) hi hqn d4 d5 fun μ3 H3 g3 z3 => ?_
    have ei := g3.ex_item (K := K) hi hqn d4 d5
    have ev : ((put2 t.1 i q (tv.1 - 1)).getD i []).getD q 0 = tv.1 - 1 := put2_get (by rw [gt.lr]; exact hi) (by rw [gt.wid hi]; exact hqn)
    rw [show ((put2 t.1 i q (tv.1 - 1), tv.2) : List (List Int) × List Int).1 = put2 t.1 i q (tv.1 - 1) from rfl, ev] at ei
    exact GI.set2 z3 ei g3 hqn hi d5 d4 fun μ4 H4 g4 z4 => nxt z4 nw ⟨_, g4, d4, hf⟩
  · have em : M2 = M1 := gt.m.trans g.m.symm
    subst em
    rw [List.drop_of_length_le (by simp)] at hf
    cases hf
    exact k δ2 μ2 σ2 H2 gt st
abbrev tGI (K : PySem.W.Frag) (R : List DV → List DV → List DV → DV → Prop) (E : XK) : TS := tFor (iRng1 (tCons (tVar 4) tNil)) (gName 5) (tSeq (tAsg (tOp (rI0 fun i j => V.int (i - j)) (tTk K R E) (tC (.int 1))) (gSub (tOp (rIx K) (tVar 3) (tVar 4)) (tVar 5) rSetL)) (tAsg (tOp (rIx K) (tOp (rIx K) (tVar 3) (tVar 4)) (tVar 5)) (gSub (tOp (rIx K) (tVar 3) (tVar 5)) (tVar 4) rSetL)))
abbrev tGD (K : PySem.W.Frag) (R : List DV → List DV → List DV → DV → Prop) (E : XK) : TS := tAsg (tOp (rI0 fun i j => V.int (i + j)) (tOp (rI0 fun i j => V.int (i + j)) (tC (.int 1)) (tTk K R E)) (tCB (rSum K) (tCons (tLc (iSeq K (tOp (rIx K) (tVar 3) (tVar 4))) (gName 6) tYes (tCB (fun xs H Q => ∃ i, xs = [V.int i] ∧ Q (V.int (if i < 0 then -i else i)) H) (tCons (tVar 6) tNil)) [6]) tNil))) (gSub (tOp (rIx K) (tVar 3) (tVar 4)) (tVar 4) rSetL)
theorem GI.outer (hR : ∀ st m v st', take st m = some (v, st') → R (st.map eI) [.int m] (st'.map eI) (.int v)) (hn : n ≤ 100) (z : Sta K F M1 δ1 μ1 σ H) (g : GI M μ j0 l p ps n s M1 δ1 μ1) {s' : List (List Int) × List Int} (h : foldO (gOut take) (List.range n) s = some s')
    (k : ∀ δ2 μ2 σ' H', GI M μ j0 l p ps n s' M1 δ2 μ2 → Sta K F M1 δ2 μ2 σ' H' → D.nx σ' H') : tFor (iRng1 (tCons (tVar 2) tNil)) (gName 4) (tGI K R E) D σ H := by
  refine x_forP (fun q M2 δ2 μ2 => ∃ t, GI M μ j0 l p ps n t M2 δ2 μ2 ∧ foldO (gOut take) ((List.range n).drop q) t = some s') z (wxr (ex_var g.d2) (by omega)) ⟨s, g, h⟩ (fun F1 q M2 δ2 μ2 σ2 H2 eF hq ⟨t, gt, hf⟩ nw st => ?_) fun M2 δ2 μ2 σ2 H2 ⟨t, gt, hf⟩ _ st => ?_
  · have em : M2 = M1 := gt.m.trans g.m.symm
    subst em
    rw [List.drop_eq_getElem_cons (by simpa using hq)] at hf
    obtain ⟨t2, hb, hf⟩ := bdO hf
    rw [List.getElem_range] at hb
    have g1 := gt.set (k := 4) (by omega) (some (.int (q : Int)))
    have d4 : (δ2.set 4 (some (.int (q : Int))))[4]? = some (some (.int (q : Int))) := List.getElem?_set_self (by rw [gt.dl]; omega)
    exact GI.inner hR hn hq st g1 d4 hb fun δ3 μ3 σ3 H3 g3 z3 => nxt z3 nw ⟨t2, g3, hf⟩
  · have em : M2 = M1 := gt.m.trans g.m.symm
    subst em
    rw [List.drop_of_length_le (by simp)] at hf
    cases hf
    exact k δ2 μ2 σ2 H2 gt st
theorem getD_eI {row : List Int} {c : Nat} (hc : c < row.length) : (row.map eI).getD c .non = .int (row.getD c 0) := by
  rw [List.getD_eq_getElem?_getD, List.getElem?_map, List.getElem?_eq_getElem hc, List.getD_eq_getElem?_getD, List.getElem?_eq_getElem hc]
  rfl
theorem wipeD_len {δ : Env} : ∀ {vs : List Nat}, (wipeD δ vs).length = δ.length
  | [] => rfl
  | v :: vs => by
    show ((wipeD δ vs).set v none).length = _
    rw [List.length_set, wipeD_len]
theorem GI.ex_sumrow (g : GI M μ j0 l p ps n s M1 δ1 μ1) {i : Nat} (hn : n ≤ 100) (hi : i < n) (ha : δ1[4]? = some (some (.int (i : Int)))) :
    EX K (tCB (rSum K) (tCons (tLc (iSeq K (tOp (rIx K) (tVar 3) (tVar 4))) (gName 6) tYes (tCB (fun xs H Q => ∃ i, xs = [V.int i] ∧ Q (V.int (if i < 0 then -i else i)) H) (tCons (tVar 6) tNil)) [6]) tNil)) δ1 μ1 μ1 (.int ((s.1.getD i []).map absI).sum) := by
  obtain ⟨q, hq⟩ := g.psl hi
  have hr := g.row hi hq
  have z := lx_lcBox (te := tCB (fun xs H Q => ∃ i, xs = [V.int i] ∧ Q (V.int (if i < 0 then -i else i)) H) (tCons (tVar 6) tNil)) (k := 6) (vs := [6]) (g.ex_row (K := K) hi ha hq) (List.mem_of_getElem? hr) (fun c => .int (absI ((s.1.getD i []).getD c 0))) (by rw [List.length_map, g.wid hi]; omega) (by simp) fun c hc => by
    rw [List.length_map] at hc
    rw [getD_eI hc]
    exact ex_abs (ex_var (List.getElem?_set_self (by rw [wipeD_len, g.dl]; omega)))
  have e2 : (List.range ((s.1.getD i []).map eI).length).map (fun c => DV.int (absI ((s.1.getD i []).getD c 0))) = ((s.1.getD i []).map absI).map .int := by
    rw [List.length_map]
    refine List.ext_getElem (by simp) fun c h1 h2 => ?_
    have hc : c < (s.1.getD i []).length := by simpa using h1
    simp only [List.getElem_map, List.getElem_range]
    rw [List.getD_eq_getElem?_getD (l := s.1.getD i []), List.getElem?_eq_getElem hc]
    rfl
  rw [e2] at z
  exact ex_sum z.ex
theorem GI.diag (hR : ∀ st m v st', take st m = some (v, st') → R (st.map eI) [.int m] (st'.map eI) (.int v)) (hn : n ≤ 100) (z : Sta K F M1 δ1 μ1 σ H) (g : GI M μ j0 l p ps n s M1 δ1 μ1) {s' : List (List Int) × List Int} (h : foldO (gDia take) (List.range n) s = some s')
    (k : ∀ δ2 μ2 σ' H', GI M μ j0 l p ps n s' M1 δ2 μ2 → Sta K F M1 δ2 μ2 σ' H' → D.nx σ' H') : tFor (iRng1 (tCons (tVar 2) tNil)) (gName 4) (tGD K R E) D σ H := by
  refine x_forP (fun q M2 δ2 μ2 => ∃ t, GI M μ j0 l p ps n t M2 δ2 μ2 ∧ foldO (gDia take) ((List.range n).drop q) t = some s') z (wxr (ex_var g.d2) (by omega)) ⟨s, g, h⟩ (fun F1 q M2 δ2 μ2 σ2 H2 eF hq ⟨t, gt, hf⟩ nw st => ?_) fun M2 δ2 μ2 σ2 H2 ⟨t, gt, hf⟩ _ st => ?_
  · have em : M2 = M1 := gt.m.trans g.m.symm
    subst em
    rw [List.drop_eq_getElem_cons (by simpa using hq)] at hf
    obtain ⟨t2, hb, hf⟩ := bdO hf
    rw [List.getElem_range] at hb
    unfold gDia at hb
    obtain ⟨tv, h1, h2⟩ := bdO hb
    cases h2
    have g1 := gt.set (k := 4) (by omega) (some (.int (q : Int)))
    have d4 : (δ2.set 4 (some (.int (q : Int))))[4]? = some (some (.int (q : Int))) := List.getElem?_set_self (by rw [gt.dl]; omega)
    have g2 := g1.st_set tv.2
    exact GI.set2 st (ex_add (ex_add ex_int (g1.tk hR h1)) (g2.ex_sumrow hn hq d4)) g2 hq hq d4 d4 fun μ4 H4 g4 z4 => nxt z4 nw ⟨_, g4, hf⟩
  · have em : M2 = M1 := gt.m.trans g.m.symm
    subst em
    rw [List.drop_of_length_le (by simp)] at hf
    cases hf
    exact k δ2 μ2 σ2 H2 gt st
theorem x_asgLc2 {wi : TI} {g : TG} {δ : Env} {μ μ' : Sto} {vs js : List Nat} {n i : Nat} {te : TE} {b : Nat → Env → Env} (w : WX K wi g δ μ μ' n js b) (f : Nat → List DV) (hn : n ≤ 100000) (hj : ∀ k ∈ js, k ∈ vs)
    (he : ∀ i μ2, i < n → LX K te (b i (wipeD δ vs)) μ2 μ2 (f i)) (s : Sta K F M δ μ σ H)
    (q : ∀ p ps H', H p = none → p ∉ M → (∀ a ∈ ps, F a = none ∧ a ∉ M) → ps.length = n → Ex (hid M H) (hid M H') → Sta K F (p :: (ps ++ M)) δ ((p, ps.map .box) :: (ps.zip ((List.range n).map f) ++ μ')) σ H' → D.nx (σ.set i (some (.ref p))) H') : tAsg (tLc wi g tYes te vs) (gName i) D σ H :=
  xx_lc2 w f hn hj he s _ q
theorem zerD {n : Nat} : (List.range n).map (fun _ => (List.range n).map fun _ => DV.int 0) = (zer n).map fun r => r.map eI := by
  unfold zer
  rw [List.map_map]
  refine List.map_congr_left fun i _ => ?_
  show _ = ((List.range n).map fun _ => (0 : Int)).map eI
  rw [List.map_map]
  rfl
/-- from the making of the rows to the return -/
theorem w_gramrest {P : Post} (hR : ∀ st m v st', take st m = some (v, st') → R (st.map eI) [.int m] (st'.map eI) (.int v)) (hn : n ≤ 100) {st st' : List Int} {rows : List (List Int)} (h : gramRest take n st = some (rows, st')) {dm : DV}
    (k : P.rt (eL (eL eI) rows) [.own (st'.map eI), .un, .un, .un, .un, .un, .un]) :
    W K E (tSeq (tAsg (tLc (iRng1 (tCons (tVar 2) tNil)) (gName 4) tYes (tLc (iRng1 (tCons (tVar 2) tNil)) (gName 5) tYes (tC (.int 0)) [5]) [4]) (gName 3)) (tSeq (tFor (iRng1 (tCons (tVar 2) tNil)) (gName 4) (tGI K R E)) (tSeq (tFor (iRng1 (tCons (tVar 2) tNil)) (gName 4) (tGD K R E)) (tRet (tVar 3)))))
      [.own (st.map eI), .dat dm, .dat (.int (n : Int)), .un, .un, .un, .un] P := fun F M0 Z q σ H D fr ⟨M, δ, μ, A, c⟩ ok => by
  obtain ⟨g1, g2⟩ := c.r.own 0 _ rfl
  obtain ⟨j0, hj0⟩ := List.getElem?_of_mem g2
  have hjl : j0 < μ.length := (List.getElem?_eq_some_iff.mp hj0).1
  have d2 : δ[2]? = some (some (.int (n : Int))) := c.r.dat 2 _ rfl
  have dl : δ.length = 7 := c.r.len
  unfold gramRest at h
  obtain ⟨s1, h1, h2⟩ := bdO h
  refine x_asgLc2 (D := { D with nx := _ }) (vs := [4]) (wxr (ex_var d2) (by omega)) (fun _ => (List.range n).map fun _ => DV.int 0) (by omega) (fun _ h => h) (fun i μ2 hi => ?_) c.s fun p ps H1 hp hpM hps hlen e1 z1 => ?_
  · refine lx_lc1 (vs := [5]) (wxr (ex_var (show ((wipeD δ [4]).set 4 (some (DV.int (i : Nat))))[2]? = some (some (DV.int (n : Int))) from ?_)) (by omega)) (fun _ => DV.int 0) (by omega) (fun _ h => h) fun c hc => ex_int
    rw [List.getElem?_set_ne (by omega)]
    show ((wipeD δ []).set 4 none)[2]? = _
    rw [List.getElem?_set_ne (by omega)]
    exact d2
  · rw [zerD] at z1
    have z2 := z1.put (i := 3) (d := .box p) (.box p)
    have g : GI M μ j0 (A 0) p ps n (zer n, st) (p :: (ps ++ M)) (δ.set 3 (some (.box p))) ((p, ps.map .box) :: (ps.zip ((zer n).map fun r => r.map eI) ++ μ)) := by
      refine ⟨rfl, ?_, hjl, hlen, by unfold zer; simp, fun r hr => ?_, by rw [List.getElem?_set_ne (by omega)]; exact g1, by rw [List.getElem?_set_ne (by omega)]; exact d2, List.getElem?_set_self (by omega), by rw [List.length_set]; exact dl⟩
      · have e : μ.set j0 (A 0, st.map eI) = μ := by
          refine List.ext_getElem? fun k => ?_
          by_cases hk : j0 = k
          · subst hk
            rw [List.getElem?_set_self hjl, hj0]
          · rw [List.getElem?_set_ne hk]
        rw [e]
      · unfold zer at hr
        obtain ⟨_, _, rfl⟩ := List.mem_map.mp hr
        simp
    refine GI.outer (D := { D with nx := _ }) hR hn z2 g h1 fun δ2 μ2 σ2 H2 g2' z3 => ?_
    refine GI.diag (D := { D with nx := _ }) hR hn z3 g2' h2 fun δ3 μ3 σ3 H3 g3 z4 => ?_
    have mu := g3.mu
    subst mu
    have hnM : ∀ a ∈ ps, a ∉ M := fun a ha => (hps a ha).2
    have z5 := z4.still2 (by rw [g3.lp, List.length_map, g3.lr]) hnM hpM
    obtain ⟨z6, rp⟩ := z5.still hpM
    obtain ⟨v, hv, rv⟩ := z4.env 3 _ g3.d3
    cases rv
    have rows_e : (s1.1 : List (List Int)) = s1.1 := rfl
    have dr : RpAll K (hid M H3) [] [] := .nil
    refine ⟨.ref p, hv, ?_⟩
    refine ok.rt _ _ _ _ _ k ⟨M, δ3, μ.set j0 (A 0, st'.map eI), A, ⟨c.z, c.n, c.q, fun i ds hi h0 => ?_, ⟨g3.dl, z6.nd, fun i d hi => ?_, fun i ds hi => ?_, fun i j ds es hi hj _ => ?_⟩, z6⟩, ?_⟩
    · rcases i with _ | _ | _ | _ | _ | _ | _ | i <;> simp at hi h0
    · rcases i with _ | _ | _ | _ | _ | _ | _ | i <;> simp at hi
    · rcases i with _ | _ | _ | _ | _ | _ | _ | i <;> simp at hi
      subst hi
      exact ⟨g3.d0, List.mem_of_getElem? (List.getElem?_set_self hjl)⟩
    · rcases i with _ | _ | _ | _ | _ | _ | _ | i <;> simp at hi
      rcases j with _ | _ | _ | _ | _ | _ | _ | j <;> simp at hj
      rfl
    · rw [List.map_map] at rp
      exact rp
def gramO (take : List Int → Int → Option (Int × List Int)) (size : Int) (st : List Int) : Option (List (List Int) × List Int) := if 0 ≤ size ∧ size ≤ 100 then gramRest take size.toNat st else none
theorem w_gramO {P : Post} (hR : ∀ st m v st', take st m = some (v, st') → R (st.map eI) [.int m] (st'.map eI) (.int v)) {size : Int} {st st' : List Int} {rows : List (List Int)} (h : gramO take size st = some (rows, st')) {dm : DV}
    (k : P.rt (eL (eL eI) rows) [.own (st'.map eI), .un, .un, .un, .un, .un, .un]) :
    W K E (tSeq (tAsg (tLc (iRng1 (tCons (tVar 2) tNil)) (gName 4) tYes (tLc (iRng1 (tCons (tVar 2) tNil)) (gName 5) tYes (tC (.int 0)) [5]) [4]) (gName 3)) (tSeq (tFor (iRng1 (tCons (tVar 2) tNil)) (gName 4) (tGI K R E)) (tSeq (tFor (iRng1 (tCons (tVar 2) tNil)) (gName 4) (tGD K R E)) (tRet (tVar 3)))))
      [.own (st.map eI), .dat dm, .dat (eI size), .un, .un, .un, .un] P := by
  unfold gramO at h
  split at h
  · rename_i hs
    have e : size = ((size.toNat : Nat) : Int) := by omega
    rw [e]
    exact w_gramrest hR (by omega) h k
  · cases h
end
end G
set_option Elab.async false
set_option linter.all false
set_option maxRecDepth 100000
set_option maxHeartbeats 1000000
/-! more of expressions that change the state -/
namespace G
open PySem PySem.Spec PyProof.Rows L2 Evl
section
variable {K : PySem.W.Frag} {S S1 S' : List SL} {ta tb : TE} {tt tu : TT} {α : Type} {f : α → DV} {xs : List α} {n : Int} {x : α}
/-- [..][f(state)] -/
theorem eq_ix (hb : EXp K ta S (.lst (xs.map f))) (hi : EXq K tb S S1 (.int n)) (h : L2.atI xs n = some x) : EXq K (tOp (rIx K) ta tb) S S1 (f x) := ⟨hi.1, fun A δ μ r => by
  obtain ⟨μ', r', e⟩ := hi.2 A δ μ r
  exact ⟨μ', r', ex_ix (hb A δ μ r) e (.lst _) (atI_map h)⟩⟩
theorem eq_neS {S2 : List SL} {a b : Str} (ha : EXq K ta S S1 (.str a)) (hb : EXq K tb S1 S2 (.str b)) : EXq K (tOp rNe ta tb) S S2 (.bl (!decide (a = b))) := eq_bin (fun _ _ _ _ => ex_neS) ha hb
theorem eq_eqS {S2 : List SL} {a b : Str} (ha : EXq K ta S S1 (.str a)) (hb : EXq K tb S1 S2 (.str b)) : EXq K (tOp rEq ta tb) S S2 (.bl (decide (a = b))) := eq_bin (fun _ _ _ _ => ex_eqS) ha hb
theorem tq_orM {a r : Bool} {m : Option Bool} (h1 : TXq K tt S S1 a) (h : (if a then some true else m) = some r) (h2 : a = false → ∀ b, m = some b → TXp K tu S1 b) : TXq K (tOr tt tu) S S1 r := ⟨h1.1, fun A δ μ q => by
  obtain ⟨μ', r', e⟩ := h1.2 A δ μ q
  refine ⟨μ', r', ?_⟩
  cases a with
  | true =>
    cases h
    exact TX.is (tx_or (b := true) e fun z => by cases z) rfl
  | false => exact TX.is (tx_or e fun _ => h2 rfl r h A δ μ' r') (Bool.false_or r)⟩
theorem w_tup2q {E : XK} {P : Post} {te : TE} {d1 d2 : DV} {i j : Nat} (ha : EXq K te S S1 (.tup [d1, d2])) (S' : List SL) (k : P.nx S') (hS : (S1.set i (.dat d1)).set j (.dat d2) = S' := by rfl) : W K E (tAsg te (gTup K 2 (gCons (gName i) (gCons (gName j) gNil)))) S P := fun F M0 Z q σ H D fr st ok => by
  subst hS
  obtain ⟨M, δ, μ, A, c⟩ := st
  obtain ⟨μ1, r1, e1⟩ := ha.2 A δ μ c.r
  refine e1 F M σ H c.s _ fun v H1 _ s1 rv => ?_
  have c1 := c.to ha.1 r1 s1
  cases rv with
  | @tup a vs _ g1 g2 =>
    cases g2 with
    | cons r1 t =>
      cases t with
      | cons r2 t =>
        cases t
        exact ⟨a, _, rfl, ex_t hid_sub g1, rfl, _, _, rfl, _, _, rfl, rfl, ok.nx _ _ H1 k ⟨M, _, μ1, A, c1.asg2 ((s1.put r1).put r2)⟩⟩
end
end G
set_option Elab.async false
set_option linter.all false
set_option maxRecDepth 100000
set_option maxHeartbeats 1000000
/-! try: .. except A: .. except B as e: .. : plain clauses, the last one with a name -/
namespace G
open PySem PySem.Spec PyProof.Rows L2 Evl
/-- what the two clauses wish of an exception of the body -/
def wMix (K : PySem.W.Frag) (c1 : Value) (t1 : Addr → Value → Option Addr → TS) (c2 : Value) (i : Nat) (t2 : Addr → Value → Option Addr → TS) (Wout : L2.WX) (D : L2.Ends) : L2.WX := fun cls d σ H =>
  ∃ b, PySem.W.exmOne K cls c1 = some b ∧ (b = true → ∀ a, H a = none → t1 a cls d D σ H) ∧ (b = false → wAs K c2 i t2 Wout D cls d σ H)
section
variable {X : Cx} {x1 x2 n : Str} {c1 c2 : Value} {i : Nat} {body su1 su2 : List Stmt} {b1 b2 : Stmt} {np1 np2 pos pos1 pos2 : Pos} {tb : L2.WX → TS} {t1 t2 : Addr → Value → Option Addr → TS} {Wout : L2.WX}
theorem ps_try_mix (hs : X.stack = X.env :: X.outer) (hf : X.env.frame = some X.env.locals) (hN : X.N.Nodup) (hi : X.N[i]? = some n) (hln : X.env.kindOf n = some .local) (hc1 : Names X x1 c1) (hc2 : Names X x2 c2) (tk : L2.Takes X Wout)
    (hb : ∀ (W : L2.WX) (pn : List (Addr × Obj)) (xe : Value → Shared → Prop), L2.Takes (X.tr pn xe) W → PassesOwn (model X.prog X.w) X.A X.env xe → PSs (X.tr pn xe) body (tb W))
    (hs1 : ∀ (a : Addr) (oe : Obj) (cls : Value) (d : Option Addr) (pn : List (Addr × Obj)), Zc cls d oe → (∃ vs, oe.data = .fields vs) → PSs (X.suite a ((a, oe) :: pn)) (b1 :: su1) (t1 a cls d))
    (hs2 : ∀ (a : Addr) (oe : Obj) (cls : Value) (d : Option Addr) (pn : List (Addr × Obj)), Zc cls d oe → (∃ vs, oe.data = .fields vs) → PSs (X.suite a ((a, oe) :: pn)) (b2 :: su2) (t2 a cls d)) :
    PS X (.Try body [.ExceptHandler (some (.Name x1 np1)) none (b1 :: su1) pos1, .ExceptHandler (some (.Name x2 np2)) (some n) (b2 :: su2) pos2] [] [] pos) (fun D σ H => tb (wMix X.K c1 t1 c2 i t2 Wout D) D σ H) := by
  refine ⟨fun pins s σ H D I h => ?_⟩
  have ok := I.ok
  have hfr : X.A.frames = some (X.env :: X.outer) := by rw [ok.frames, hs]
  have hloc : Loc X.env.scope n := .inl hln
  refine wpAny_Try_except ?_
  refine wpAny_mono ((hb (wMix X.K c1 t1 c2 i t2 Wout D) (X.pn ++ pins) (fun e s₁ => wpAny (model X.prog X.w) X.A (noteFrame e X.env) (fun _ s₂ => wpAny (model X.prog X.w) X.A (setFlight e none) (fun _ s₃ =>
    wpAny (model X.prog X.w) X.A (handleBy e X.env [.ExceptHandler (some (.Name x1 np1)) none (b1 :: su1) pos1, .ExceptHandler (some (.Name x2 np2)) (some n) (b2 :: su2) pos2]) (SP X pins D) X.xe s₃) X.xe s₂) X.xe s₁) (fun u s' xx => ?_) PassesOwn.looking).run [] s σ H D (I.toTry _) h) (fun f s1 hsp => ?_) (fun e s1 he => he)
  · obtain ⟨a, B, sI, pins', σ', H', cls, d, rfl, J', nb, up, sky, na, os, ag, b, hb1, hyes, hno⟩ := xx
    have J : L2.Inv X pins σ' H' sI := J'.ofTry ok
    have sky' : Sky B (X.env :: X.outer) a (Zc cls d) X.env.locals s'.heap := by rw [← hs]; exact sky
    show wpAny _ X.A (noteFrame (.ref a) X.env) _ _ _
    refine Sky.land Zc.steady hfr hf sky' fun h3 fl3 up3 => ?_
    have J3 : L2.Inv X pins σ' H' { s' with heap := h3 } := J.landed nb fl3.1 (up.trans up3) os ag
    obtain ⟨oe3, vs3, he3, hz3, hd3⟩ := fl3.there
    have nfr : a ∉ frs (X.env :: X.outer) := fun hm => by
      obtain ⟨_, o', e', hnf⟩ := fl3.2.2.1.mem hm
      rw [he3] at e'; cases e'
      exact hnf _ hd3
    have nL : a ≠ X.env.locals := fun z => nfr (List.mem_filterMap.mpr ⟨X.env, List.mem_cons_self, by rw [hf, z]⟩)
    have nF : a ∉ X.fs := fun hm => by
      obtain ⟨e, he, q⟩ := List.mem_filterMap.mp hm
      exact nfr (List.mem_filterMap.mpr ⟨e, List.mem_cons_of_mem _ he, q⟩)
    have S3 := J3.suite he3 hd3 na nL nF
    have LT : PySem.W.Looks (model X.prog X.w) h3 (typeOf (.ref a)) cls := fun A Q E s k q => wpAny_typeOf_ref (k _ _ he3) (by rw [hz3.1]; exact q)
    have test : ∀ {x : Str} {c : Value} {np : Pos} (hc : Names X x c) {Q : Value → Shared → Prop} {E : Value → Shared → Prop}, Q c { s' with heap := h3 } → wpAny (model X.prog X.w) (X.A.mark (some (.ref a))) (eval (.Name x np) X.env) Q E { s' with heap := h3 } := fun {x c np} hc {Q E} q => by
      obtain ⟨hg, hdbg, hm | ⟨hm, hv, hnn⟩⟩ := hc
      · exact ld_glob (X := X.suite a ((a, oe3) :: (X.pn ++ pins))) S3 hg hm q hdbg
      · exact ld_blt (X := X.suite a ((a, oe3) :: (X.pn ++ pins))) S3 hg hm hv q hnn hdbg
    refine wpAny_handleBy_cons (codeAny_handlers_test ?_) (by intro q; cases q)
    refine test hc1 ((PySem.W.exm_one (M := model X.prog X.w) J3.kIn LT hb1).here ?_)
    cases b with
    | true =>
      refine codeAny_handlers_suite (HandSPX.lands_againZ fl3 fun h4 fl4 up4 => ?_)
      have J4 : L2.Inv X pins σ' H' { s' with heap := h4 } := J.landed nb fl4.1 ((up.trans up3).trans up4) os ag
      obtain ⟨oe4, vs4, he4, hz4, hd4⟩ := fl4.there
      refine wpAny_mono ((hs1 a oe4 cls d (X.pn ++ pins) hz4 ⟨_, hd4⟩).run [] _ _ H' _ (J4.suite he4 hd4 na nL nF) (hyes rfl a na)) (fun f s6 hsp => ?_) (fun _ _ z => False.elim z)
      cases f with
      | ret u =>
        obtain ⟨v6, σ6, H6, S6, r6, q6⟩ := hsp
        exact ⟨_, _, _, S6.unsuite ok, r6, q6⟩
      | _ =>
        obtain ⟨σ6, H6, S6, q6⟩ := hsp
        exact ⟨_, _, S6.unsuite ok, q6⟩
    | false =>
      obtain ⟨b, hb2, hyes, hno⟩ := hno rfl
      show wpAny _ X.A (handleBy (.ref a) X.env [_]) _ _ _
      refine wpAny_handleBy_cons (codeAny_handlers_test ?_) (by intro q; cases q)
      refine test hc2 ((PySem.W.exm_one (M := model X.prog X.w) J3.kIn LT hb2).here ?_)
      cases b with
      | true =>
        refine codeAny_handlers_suite_as (HandSPX.lands_againZ fl3 fun h4 fl4 up4 => ?_)
        have J4 : L2.Inv X pins σ' H' { s' with heap := h4 } := J.landed nb fl4.1 ((up.trans up3).trans up4) os ag
        obtain ⟨oe4, vs4, he4, hz4, hd4⟩ := fl4.there
        refine store_ok (X := X.suite a ((a, oe4) :: (X.pn ++ pins))) (v := .ref a) (J4.suite he4 hd4 na nL nF) hN hi hloc rfl (fun s5 S5 => ?_) (.inr hln)
        refine wpAny_mono ((hs2 a oe4 cls d (X.pn ++ pins) hz4 ⟨_, hd4⟩).run [] s5 _ H' _ S5 (hyes rfl a na)) (fun f s6 hsp => ?_) (fun _ _ z => False.elim z)
        have end_ : ∀ {σ6 : L2.St} {H6 : Hp} {Q : Shared → Prop}, L2.Inv (X.suite a ((a, oe4) :: (X.pn ++ pins))) [] σ6 H6 s6 → (∀ s7, L2.Inv X pins (σ6.set i none) H6 s7 → Q s7) →
            wpAny (model X.prog X.w) X.A (do bindName X.env n .none; unbindBehindTheSuite X.env n pos2) (fun _ s7 => Q s7) X.xe s6 := fun {σ6 H6 Q} S6 hq => gone_ok (S6.unsuite ok) hN hi hln hq
        cases f with
        | ret u =>
          obtain ⟨v6, σ6, H6, S6, r6, q6⟩ := hsp
          exact end_ S6 fun s7 J7 => ⟨_, _, _, J7, r6, q6⟩
        | next =>
          obtain ⟨σ6, H6, S6, q6⟩ := hsp
          exact end_ S6 fun s7 J7 => ⟨_, _, J7, q6⟩
        | brk =>
          obtain ⟨σ6, H6, S6, q6⟩ := hsp
          exact end_ S6 fun s7 J7 => ⟨_, _, J7, q6⟩
        | cont =>
          obtain ⟨σ6, H6, S6, q6⟩ := hsp
          exact end_ S6 fun s7 J7 => ⟨_, _, J7, q6⟩
      | false =>
        show wpAny _ X.A (handleBy (.ref a) X.env []) _ _ _
        refine wpAny_handleBy_nil ?_
        obtain ⟨k1, k2, k3, oe, vs, T, oT, ts', he, hz, hd, h1, hr⟩ := id fl3
        unfold PySem.passOn
        refine wpAny_bind (wpAny_field he hd h1 ?_)
        rw [if_neg (show ¬ ((Value.ref T == Value.none) = true) from by simp)]
        have fin : wpAny (model X.prog X.w) X.A (setFlight (.ref a) X.env.frame) (fun _ s4 => wpAny (model X.prog X.w) X.A (throw (.ref a) : Sem Flow) (SP X pins D) X.xe s4) X.xe { s' with heap := h3 } := by
          rw [hf]
          refine HandSPX.setFlight_upZ fl3 fun h4 hh4 up4 => wpAny_throw (tk _ _ ?_)
          exact ⟨a, B, sI, pins, σ', H', cls, d, rfl, J, nb, (up.trans up3).trans up4, .inr (.inr (by rw [hs]; exact hh4)), na, os, ag, hno rfl⟩
        first
          | exact wpAny_bind (wpAny_pure (wpAny_bind fin))
          | exact wpAny_bind fin
  · cases f with
    | next =>
      obtain ⟨σ', H', J', q⟩ := hsp
      exact wpAny_execs_nil ⟨σ', H', J'.ofTry ok, q⟩
    | brk =>
      obtain ⟨σ', H', J', q⟩ := hsp
      exact ⟨σ', H', J'.ofTry ok, q⟩
    | cont =>
      obtain ⟨σ', H', J', q⟩ := hsp
      exact ⟨σ', H', J'.ofTry ok, q⟩
    | ret u =>
      obtain ⟨v, σ', H', J', r, q⟩ := hsp
      exact ⟨v, σ', H', J'.ofTry ok, r, q⟩
end
end G
set_option Elab.async false
set_option linter.all false
set_option maxRecDepth 100000
set_option maxHeartbeats 1000000
/-! isinstance(e, C), e the exception that the suite holds, one with fields of its own; what two clauses give -/
namespace G
open PySem PySem.Spec PyProof.Rows L2 Evl
def rIsX (K : PySem.W.Frag) (D a : Addr) (cls : Value) (d : Option Addr) : List V → Hp → VK → Prop := fun xs H Q => ∃ (c : V) (cv : Value) (b : Bool), xs = [.ref a, c] ∧ (∀ u, RelV c u → u = cv) ∧ cls = .ref D ∧ (∃ dd fs, d = some dd ∧ H dd = some (.xd fs)) ∧ PySem.W.kitOne K (.ref D) cv = some b ∧ Q (.bl b) H
theorem call_isX {X : Cx} {a D : Addr} {oe : Obj} {cls : Value} {d : Option Addr} {pn : List (Addr × Obj)} (C : ExcC X.K D) (hcl : (PySem.W.clsIn X.K D).isSome = true) (hz : Zc cls d oe) (hf : ∃ vs, oe.data = .fields vs) : CallR (X.suite a ((a, oe) :: pn)) (.builtin "isinstance") (rIsX X.K D a cls d) := by
  intro pins s σ H xs us Q I r h
  obtain ⟨c, cv, b, rfl, hcv, ec, ⟨dd, fs, ed, ea⟩, e, q⟩ := h
  subst ec ed
  cases r with
  | cons rx rr =>
    cases rr with
    | cons rt rr =>
      cases rr
      cases rx
      have ec := hcv _ rt
      subst ec
      obtain ⟨hget, _⟩ := I.pin (a, oe) (List.mem_append.mpr (.inl List.mem_cons_self))
      obtain ⟨vs, hv⟩ := hf
      obtain ⟨mA, hns, hr⟩ : ObjOk X.prog X.w H s.heap dd (.xd fs) := I.hok dd _ ea
      obtain ⟨od, ho, hl⟩ := lookIn_ns hns
      have J : PySem.W.InstAt s.heap a oe D (some od) := ⟨hget, hz.1, by unfold PySem.W.notCls; rw [hv] <;> rfl, by rw [hz.2]; exact ho⟩
      exact PySem.W.kia_one (PySem.W.kitx_exc hcl C.hg C.hk C.hs C.ha C.hn C.ht C.hm) I.kIn J e (fun z => nomatch z) fun tk => ⟨.bl b, H, I.kept (t' := tk) fun _ _ z => z, rfl, q⟩
/-! ### a body that changes no slot, and its two clauses -/
def RXs (K : PySem.W.Frag) (c : ClX) (tb : L2.WX → TS) (S : List SL) (r : Rz Unit) : Prop := ∀ A δ μ, SRel S A δ μ → ∀ F M σ H, Sta K F M δ μ σ H → ∀ (W : L2.WX) (D : L2.Ends),
  (r = .ok () → ∀ H', Sta K F M δ μ σ H' → D.nx σ H') → (∀ x d H', r = .er x → ExcAt F (x.to c) d H' → Sta K F M δ μ σ H' → W (.ref (x.to c).cls) d σ H') → tb W D σ H
section
variable {K : PySem.W.Frag} {c : ClX} {E : XK} {S : List SL} {P : Post} {tf : L2.WX → TE} {r : Rz DV} {tt : TT} {u1 u2 : L2.WX → TS} {rr : Rz Unit} {b : Bool}
theorem rs_drop (h : ∀ W, XXp K c (WE W) (tf W) S r) (hr : r.mp (fun _ => ()) = rr) : RXs K c (fun W => tDrop (tf W)) S rr := fun A δ μ s F M σ H st W D ko kx => by
  subst hr
  exact h W A δ μ s F M σ H st _ (fun d v H' e _ s' _ => ko (by rw [e]; rfl) H' s') fun x d H' e ea s' => kx x d H' (by rw [e]; rfl) ea s'
theorem rs_if (h : TXp K tt S b) (h1 : b = true → RXs K c u1 S rr) (h2 : b = false → RXs K c u2 S rr) : RXs K c (fun W => tIfS tt (u1 W) (u2 W)) S rr := fun A δ μ s F M σ H st W D ko kx =>
  x_if st (h A δ μ s) (fun e H' s' => h1 e A δ μ s F M σ H' s' W D ko kx) fun e H' s' => h2 e A δ μ s F M σ H' s' W D ko kx
/-- except Malformed: t1; except Refused as e: t2 -/
theorem w_tryMix {tb : L2.WX → TS} {c1 c2 : Value} {t1 t2 : Addr → Value → Option Addr → TS} {i : Nat} {Wo : L2.WX} (h : RXs K c tb S rr) (hok : rr = .ok () → P.nx S)
    (hm : rr = .er .mal → PySem.W.exmOne K (.ref c.M) c1 = some true ∧ ∀ a d, W K E (t1 a (.ref c.M) d) S P)
    (hr : ∀ s, rr = .er (.refu s) → (PySem.W.exmOne K (.ref c.R) c1 = some false ∧ PySem.W.exmOne K (.ref c.R) c2 = some true) ∧ P.rt (.str s) S ∧ ∀ (a dd : Addr) (σ : L2.St) (H : Hp) (D : L2.Ends), i < σ.length → H dd = some (.xd [("reason", .str s)]) → D.rt (.str s) H → t2 a (.ref c.R) (some dd) D (σ.set i (some (.ref a))) H) (hn : ∀ n, rr ≠ .er (.notx n)) (hi : i < S.length) :
    W K E (fun D σ H => tb (wMix K c1 t1 c2 i t2 Wo D) D σ H) S P := fun F M0 Z q σ H D fr ⟨M, δ, μ, A, s⟩ ok =>
  h A δ μ s.r F M σ H s.s _ D (fun e H' s' => ok.nx _ _ H' (hok e) ⟨M, δ, μ, A, ⟨s.z, s.n, s.q, s.ho, s.r, s'⟩⟩) fun x d H' e ea s' => by
    cases x with
    | mal =>
      obtain ⟨e1, k⟩ := hm e
      exact ⟨true, e1, fun _ a ha => k a d F M0 Z q σ H' D fr ⟨M, δ, μ, A, ⟨s.z, s.n, s.q, s.ho, s.r, s'⟩⟩ ok, fun z => by cases z⟩
    | refu x =>
      obtain ⟨⟨e1, e2⟩, hp, k⟩ := hr x e
      obtain ⟨dd, rfl, _, hd⟩ := ea
      refine ⟨false, e1, (fun z => by cases z), fun _ => ⟨true, e2, fun _ a ha => ?_, fun z => by cases z⟩⟩
      exact k a dd σ H' _ (by rw [s'.len, s.r.len]; exact hi) hd (ok.rt _ _ _ σ H' hp ⟨M, δ, μ, A, ⟨s.z, s.n, s.q, s.ho, s.r, s'⟩, .str _⟩)
    | notx n => exact absurd e (hn n)
end
end G
set_option Elab.async false
set_option linter.all false
set_option maxRecDepth 100000
set_option maxHeartbeats 1000000
/-! loops over what changes the state on the way; min, max of a list; try with one clause around more than one expression; defs that call themselves -/
namespace G
open PySem PySem.Spec PyProof.Rows L2 Evl
section
variable {X : Cx} {K : PySem.W.Frag}
theorem cr_minK (hc : X.calm = true := by rfl) (h : X.K = K := by rfl) : CallR X (.builtin "min") (rMin K) := h ▸ cr_min hc
theorem cr_maxK (hc : X.calm = true := by rfl) (h : X.K = K := by rfl) : CallR X (.builtin "max") (rMax K) := h ▸ cr_max hc
end
def minO (xs : List Int) : Option Int := xs.min?
def maxO (xs : List Int) : Option Int := xs.max?
section
variable {K : PySem.W.Frag} {δ : Env} {μ μ' : Sto} {ta : TE} {S : List SL}
theorem ex_min {ns : List Int} {m : Int} (ha : EX K ta δ μ μ' (.lst (ns.map .int))) (hm : minO ns = some m) : EX K (tCB (rMin K) (tCons ta tNil)) δ μ μ' (.int m) := fun F M σ H s Q q =>
  ha F M σ H s _ fun v H1 e1 s1 r1 => by
    cases r1 with
    | lst h1 h2 =>
      cases h2.ints
      obtain ⟨z1, z2⟩ := List.min?_eq_some_iff.mp hm
      refine ⟨_, ns, rfl, ex_l hid_sub h1, List.length_pos_of_mem z1, fun m' k1 k2 => ?_⟩
      have e : m' = m := Int.le_antisymm (k2 m z1) (z2 m' k1)
      subst e
      exact q _ H1 e1 s1 (.int _)
theorem ex_max {ns : List Int} {m : Int} (ha : EX K ta δ μ μ' (.lst (ns.map .int))) (hm : maxO ns = some m) : EX K (tCB (rMax K) (tCons ta tNil)) δ μ μ' (.int m) := fun F M σ H s Q q =>
  ha F M σ H s _ fun v H1 e1 s1 r1 => by
    cases r1 with
    | lst h1 h2 =>
      cases h2.ints
      obtain ⟨z1, z2⟩ := List.max?_eq_some_iff.mp hm
      refine ⟨_, ns, rfl, ex_l hid_sub h1, List.length_pos_of_mem z1, fun m' k1 k2 => ?_⟩
      have e : m' = m := Int.le_antisymm (z2 m' k1) (k2 m z1)
      subst e
      exact q _ H1 e1 s1 (.int _)
theorem ep_min {ns : List Int} {m : Int} (ha : EXp K ta S (.lst (ns.map .int))) (hm : minO ns = some m) : EXp K (tCB (rMin K) (tCons ta tNil)) S (.int m) := fun A δ μ r => ex_min (ha A δ μ r) hm
theorem ep_max {ns : List Int} {m : Int} (ha : EXp K ta S (.lst (ns.map .int))) (hm : maxO ns = some m) : EXp K (tCB (rMax K) (tCons ta tNil)) S (.int m) := fun A δ μ r => ex_max (ha A δ μ r) hm
end
/-! ### iterables that change the state -/
section
variable {K : PySem.W.Frag} {E : XK} {S S0 S1 S2 : List SL} {P : Post} {ta : TE} {tb : TS} {wi : TI} {g : TG} {α β τ ρ : Type} {j : Nat}
def WXq (K : PySem.W.Frag) (wi : TI) (g : TG) (S S1 : List SL) (xs : List α) (bs : List (Nat × (α → DV))) : Prop :=
  OwnLe S S1 ∧ ∀ A δ μ, SRel S A δ μ → ∃ μ', SRel S1 A δ μ' ∧ WX K wi g δ μ μ' xs.length (bs.map Prod.fst) (G.bnd xs bs)
theorem wq_range1 {n : Int} {xs : List Int} (h : EXq K ta S S1 (.int n)) (hr : rngO n = some xs) : WXq K (iRng1 (tCons ta tNil)) (gName j) S S1 xs [(j, eI)] := by
  unfold rngO at hr
  split at hr
  · rename_i hb
    cases hr
    refine ⟨h.1, fun A δ μ r => ?_⟩
    obtain ⟨μ', r', e⟩ := h.2 A δ μ r
    refine ⟨μ', r', ?_⟩
    have z := wx_range1 (j := j) (ax_cons e ax_nil) hb.1 hb.2
    rw [← rng_len] at z
    refine z.congr fun i hi δ => ?_
    rw [rng_len] at hi
    unfold G.bnd
    rw [rng_get hi]
    rfl
  · cases hr
theorem w_loopq {xs : List α} {bs : List (Nat × (α → DV))} {body : α → τ → Option (Fl τ ρ)} {fl : Fl τ ρ} (SE : τ → List SL) (s0 : τ) (hS : SLe S S0) (w : WXq K wi g S0 (SE s0) xs bs) (h : loopO body xs s0 = some fl)
    (PR : ρ → DV → List SL → Prop) (PL : ρ → List DV → List SL → Prop)
    (turn : ∀ x s fl', body x s = some fl' → W K E tb (bS bs x (SE s)) (bodyP P SE PR PL fl'))
    (done : ∀ s1, fl = .nx s1 → P.nx (SE s1)) (hr : ∀ r d S', fl = .rt r → PR r d S' → P.rt d S') (hl : ∀ r d S', fl = .rt r → PL r d S' → P.rl d S') : W K E (tFor wi g tb) S P := fun F M0 Z q σ H D fr st ok => by
  obtain ⟨M, δ, μ0, A, c0⟩ := st.less hS
  obtain ⟨μ, r1, w1⟩ := w.2 A δ μ0 c0.r
  refine w1 F M σ H c0.s _ fun J H1 e1 s1 T => ?_
  have c : StC K F M0 Z q (SE s0) σ H1 M δ μ A := c0.to w.1 r1 s1
  obtain ⟨s1w, eF, eB⟩ := s1.widen
  generalize hid (μ.map Prod.fst) H1 = F1 at s1w eF eB
  have back : ∀ {M1 : List Addr}, (∀ a ∈ M1, a ∈ M ∨ F1 a = none) → ∀ a o, hid M H1 a = some o → a ∉ M1 := fun {M1} h a o qq hm => by
    rcases h a hm with z | z
    · exact hid_no qq z
    · rw [eB a o qq] at z; cases z
  refine ⟨fun i m σ2 H2 => m = xs.length - i ∧ i ≤ xs.length ∧ ∃ s, loopO body (xs.drop i) s = some fl ∧ StS K F1 M Z q (SE s) σ2 H2, ⟨xs.length, by simp, Nat.zero_le _, s0, h, M, δ, μ, A, c.z, fun a ha => .inl ha, c.q, c.ho, c.r, s1w⟩, ?_⟩
  rintro i m σ2 H2 ⟨rfl, hi, s, hf, M2, δ2, μ2, A2, c2⟩
  have ed : Ex (hid M H1) (hid M2 H2) := c2.s.data eB (back c2.n)
  by_cases hlt : i < xs.length
  · rw [List.drop_eq_getElem_cons hlt] at hf
    obtain ⟨fl', hb, hf⟩ := bdO hf
    refine .inr ⟨T.go i H2 _ ed hlt, fun σ3 H3 => ∃ s', fl' = .nx s' ∧ StS K F1 M Z q (SE s') σ3 H3, fun σ3 H3 ⟨s', e, st'⟩ => ⟨xs.length - (i + 1), by omega, rfl, hlt, s', by subst e; exact hf, st'⟩, fun x H3 y => ?_⟩
    refine T.bind i H2 x H3 _ _ _ _ _ hlt ed c2.s y _ fun σ3 e3 s3 _ _ => ?_
    have hg := List.getElem?_eq_getElem hlt
    refine turn xs[i] s fl' hb F1 M Z q σ3 H3 _ True.intro ⟨M2, _, μ2, A2, c2.z, c2.n, c2.q, fun k fs e h0 => c2.ho k fs (bS_own e) h0, c2.r.bnd hg, s3⟩ (ok_body ok eF c.n (fun s' σ' H' e st' => ⟨s', e, st'⟩) (fun s' e => ?_) (fun r dd S' e p => ?_) (fun r dd S' e p => ?_))
    · subst e
      exact done s' (Option.some.inj hf).symm
    · subst e
      exact hr r dd S' (Option.some.inj hf).symm p
    · subst e
      exact hl r dd S' (Option.some.inj hf).symm p
  · have e : i = xs.length := by omega
    subst e
    rw [List.drop_length] at hf
    exact .inl ⟨T.stop H2 _ ed, ok.nx _ σ2 H2 (done s (Option.some.inj hf).symm) ⟨M2, δ2, μ2, A2, c2.narrow eF c.n⟩⟩
theorem w_foldq {xs : List α} {bs : List (Nat × (α → DV))} {body : α → τ → Option τ} {s1 : τ} (SE : τ → List SL) (s0 : τ) (hS : SLe S S0) (w : WXq K wi g S0 (SE s0) xs bs) (h : foldO body xs s0 = some s1)
    (turn : ∀ x s s', body x s = some s' → W K E tb (bS bs x (SE s)) { nx := fun S' => SLe S' (SE s'), ct := fun S' => SLe S' (SE s'), xe := P.xe }) (done : P.nx (SE s1)) : W K E (tFor wi g tb) S P := by
  refine w_loopq (ρ := Empty) SE s0 hS w (foldO_loop h) (fun r => r.elim) (fun r => r.elim) (fun x s fl' hb => ?_) (fun s e => by cases e; exact done) (fun r => r.elim) (fun r => r.elim)
  cases q : body x s with
  | none => rw [q] at hb; cases hb
  | some s' =>
    rw [q] at hb
    cases hb
    exact (turn x s s' q).post (fun S' l => ⟨s', rfl, l⟩) (fun _ z => z.elim) (fun S' l => ⟨s', rfl, l⟩) (fun _ _ z => z.elim) (fun _ _ z => z.elim) (fun _ z => z) (fun _ _ z => z) (fun _ _ _ _ _ z => z)
end
/-! ### try with one clause, its body a statement that changes no slot -/
section
variable {K : PySem.W.Frag} {c : ClX} {E : XK} {S : List SL} {P : Post} {tb : L2.WX → TS} {cc : Value} {sx : Addr → Value → Option Addr → TS} {Wo : L2.WX} {rr : Rz Unit}
theorem w_tryS (h : RXs K c tb S rr) (hok : rr = .ok () → P.nx S)
    (her : ∀ x, rr = .er x → PySem.W.exmOne K (.ref (x.to c).cls) cc = some true ∧ ∀ a d, W K E (sx a (.ref (x.to c).cls) d) S P) : W K E (fun D σ H => tb (wOnly K cc sx Wo D) D σ H) S P := fun F M0 Z q σ H D fr ⟨M, δ, μ, A, s⟩ ok =>
  h A δ μ s.r F M σ H s.s _ D (fun e H' s' => ok.nx _ _ H' (hok e) ⟨M, δ, μ, A, ⟨s.z, s.n, s.q, s.ho, s.r, s'⟩⟩) fun x d H' e ea s' =>
    ⟨true, (her x e).1, fun _ a ha => (her x e).2 a d F M0 Z q σ H' D fr ⟨M, δ, μ, A, ⟨s.z, s.n, s.q, s.ho, s.r, s'⟩⟩ ok, fun z => by cases z⟩
end
section
variable {K : PySem.W.Frag} {E : XK} {S S1 S' : List SL} {P : Post} {te : TE} {ds : List DV} {i : Nat}
theorem lq_listT (h : EXq K te S S1 (.tup ds)) : LXq K (tCB (rListQ K) (tCons te tNil)) S S1 ds := ⟨h.1, fun A δ μ r => by
  obtain ⟨μ1, r1, e1⟩ := h.2 A δ μ r
  exact ⟨μ1, r1, lx_list e1 (.tup _)⟩⟩
theorem lq_listL (h : EXq K te S S1 (.lst ds)) : LXq K (tCB (rListQ K) (tCons te tNil)) S S1 ds := ⟨h.1, fun A δ μ r => by
  obtain ⟨μ1, r1, e1⟩ := h.2 A δ μ r
  exact ⟨μ1, r1, lx_list e1 (.lst _)⟩⟩
theorem LXq.is {es : List DV} (h : LXq K te S S1 ds) (q : ds = es) : LXq K te S S1 es := q ▸ h
theorem w_asgLq (ha : LXq K te S S1 ds) (S' : List SL) (k : P.nx S') (hS : S1.set i (.own ds) = S' := by rfl) (hi : i ≠ 0 := by decide) : W K E (tAsg te (gName i)) S P := fun F M0 Z q σ H D fr st ok => by
  subst hS
  obtain ⟨M, δ, μ0, A, c⟩ := st
  obtain ⟨μ, cr, e1⟩ := ha.2 A δ μ0 c.r
  refine x_asgL c.s e1 fun p σ' H' hp s' => ok.nx _ σ' H' k ⟨p :: M, δ.set i (some (.box p)), (p, ds) :: μ, fun j => if j = i then p else A j, ?_⟩
  have hpF : F p = none := (s'.dm (p, ds) (by simp)).2
  have hnd := List.nodup_cons.mp s'.nd
  refine ⟨fun a ha => List.mem_cons_of_mem _ (c.z a ha), fun a ha => (List.mem_cons.mp ha).elim (fun e => .inr (by rw [e]; exact hpF)) (c.n a), fun a ha => by rw [if_neg (fun e => hi e.symm)]; exact c.q a ha, fun j es e h0 => ?_, ?_, s'⟩
  · by_cases hj : j = i
    · show (if j = i then p else A j) ∉ Z
      rw [if_pos hj]
      exact fun hz => hp (c.z p hz)
    · show (if j = i then p else A j) ∉ Z
      rw [if_neg hj]
      exact let ⟨fs, g⟩ := ha.1 j es ((set_cases e).elim (fun z => (hj z.1.symm).elim) fun z => z.2); c.ho j fs g h0
  · have key : ∀ (j : Nat) (es : List DV), S1[j]? = some (.own es) → A j ≠ p := fun j es e z => hnd.1 (List.mem_map.mpr ⟨_, (cr.own j es e).2, z⟩)
    refine ⟨by simpa using cr.len, s'.nd, fun j e h => ?_, fun j es h => ?_, fun j k es fs h1 h2 => ?_⟩
    · rcases set_cases h with ⟨z, e1, hl⟩ | ⟨z, h⟩
      · cases e1
      · rw [List.getElem?_set_ne z]
        exact cr.dat j e h
    · rcases set_cases h with ⟨z, e1, hl⟩ | ⟨z, h⟩
      · subst z
        cases e1
        simp only [if_pos]
        exact ⟨List.getElem?_set_self (by rw [cr.len]; exact hl), by simp⟩
      · obtain ⟨h1, h2⟩ := cr.own j es h
        rw [if_neg (fun e => z e.symm), List.getElem?_set_ne z]
        exact ⟨h1, List.mem_cons_of_mem _ h2⟩
    · show (if j = i then p else A j) = (if k = i then p else A k) → j = k
      rcases set_cases h1 with ⟨z1, e1, _⟩ | ⟨z1, g1⟩ <;> rcases set_cases h2 with ⟨z2, e2, _⟩ | ⟨z2, g2⟩
      · intro _
        omega
      · rw [if_pos z1.symm, if_neg (fun e => z2 e.symm)]
        exact fun e => (key k fs g2 e.symm).elim
      · rw [if_neg (fun e => z1 e.symm), if_pos z2.symm]
        exact fun e => (key j es g1 e).elim
      · rw [if_neg (fun e => z1 e.symm), if_neg (fun e => z2 e.symm)]
        exact cr.inj j k es fs g1 g2
end
end G
set_option Elab.async false
set_option linter.all false
set_option maxRecDepth 100000
set_option maxHeartbeats 4000000
namespace G
open PySem PySem.Spec PyProof.Rows L2 Evl
noncomputable def m_times_row (v_k : Int) (v_row : (List Int)) : Option (List Int) := (lcA (fun x1 => (mulO v_k x1).bind fun t2 => some t2) v_row).bind fun t3 => some t3
noncomputable def m_less (v_row : (List Int)) (v_k : Int) (v_other : (List Int)) : Option (List Int) := (lcA (fun x1 => (mulO v_k x1.2).bind fun t2 => some (x1.1 - t2)) (List.zip v_row v_other)).bind fun t3 => some t3
noncomputable def m_hermite_rows_l3 (v_column : Int) (v_at : Int) (x : Int) (s : (List (List Int))) : Option ((List (List Int))) := if (!decide (x = v_at)) then (L2.atI s x).bind fun t24 => (L2.atI s x).bind fun t25 => (L2.atI t25 v_column).bind fun t26 => (L2.atI s v_at).bind fun t27 => (L2.atI t27 v_column).bind fun t28 => (fdivO t26 t28).bind fun t29 => (L2.atI s v_at).bind fun t30 => (m_less t24 t29 t30).bind fun t31 => (setO s x t31).bind fun v_table32 => some v_table32 else some s
noncomputable def m_hermite_rows_l2 (v_column : Int) (v_done : Int) (s : (List (List Int)) × (List Int)) : Option (Fl ((List (List Int)) × (List Int)) Empty) := (lcA (fun x12 => (L2.atI s.1 x12).bind fun t13 => (L2.atI t13 v_column).bind fun t14 => some (if t14 < 0 then -t14 else t14)) s.2).bind fun t15 => (minO t15).bind fun v_low17 => (lcO (fun x18 => (L2.atI s.1 x18).bind fun t19 => (L2.atI t19 v_column).bind fun t20 => some (decide ((if t20 < 0 then -t20 else t20) = v_low17))) (fun x18 => some x18) s.2).bind fun t21 => (L2.atI t21 (0 : Int)).bind fun v_at23 => (foldO (m_hermite_rows_l3 v_column v_at23) s.2 s.1).bind fun s3033 => (rng2O v_done (s3033.length : Int)).bind fun t3034 => (lcO (fun x3035 => (L2.atI s3033 x3035).bind fun t3036 => (L2.atI t3036 v_column).bind fun t3037 => some (!decide (t3037 = (0 : Int)))) (fun x3035 => some x3035) t3034).bind fun v_left3039 => some (.nx (s3033, v_left3039))
noncomputable def m_hermite_rows_l2c  (s : (List (List Int)) × (List Int)) : Option (Bool) := some (decide ((1 : Int) < (s.2.length : Int)))
noncomputable def m_hermite_rows_l4 (v_column : Int) (v_row : (List Int)) (x : Int) (s : (List (List Int))) : Option ((List (List Int))) := (L2.atI s x).bind fun t6054 => (L2.atI s x).bind fun t6055 => (L2.atI t6055 v_column).bind fun t6056 => (L2.atI v_row v_column).bind fun t6057 => (fdivO t6056 t6057).bind fun t6058 => (m_less t6054 t6058 v_row).bind fun t6059 => (setO s x t6059).bind fun v_table6060 => some v_table6060
noncomputable def m_hermite_rows_l1 (fuel : Nat)  (x : Int) (s : (List (List Int)) × (List Int)) : Option ((List (List Int)) × (List Int)) := (rng2O (s.2.length : Int) (s.1.length : Int)).bind fun t6 => (lcO (fun x7 => (L2.atI s.1 x7).bind fun t8 => (L2.atI t8 x).bind fun t9 => some (!decide (t9 = (0 : Int)))) (fun x7 => some x7) t6).bind fun v_left11 => (whileO m_hermite_rows_l2c (m_hermite_rows_l2 x (s.2.length : Int)) fuel (s.1, v_left11)).bind fun fl6040 => thenL (fun s6041 => if (decide ((s6041.2.length : Int) = (0 : Int))) then some (s6041.1, s.2) else (L2.atI s6041.2 (0 : Int)).bind fun t6042 => (L2.atI s6041.1 t6042).bind fun v_row6044 => (L2.atI s6041.1 (s.2.length : Int)).bind fun t6045 => (L2.atI s6041.2 (0 : Int)).bind fun t6046 => (setO s6041.1 t6046 t6045).bind fun v_table6047 => (L2.atI v_row6044 x).bind fun t6048 => (if (decide (t6048 < (0 : Int))) then (m_times_row (-(1 : Int)) v_row6044).bind fun v_row6050 => some v_row6050 else some v_row6044).bind fun s6051 => (setO v_table6047 (s.2.length : Int) s6051).bind fun v_table6052 => (rngO (s.2.length : Int)).bind fun t6053 => (foldO (m_hermite_rows_l4 x s6051) t6053 v_table6052).bind fun s10061 => (appO s.2 x).bind fun v_pivots10062 => some (s10061, v_pivots10062)) (fun r => Empty.elim r) fl6040
noncomputable def m_hermite_rows (fuel : Nat) (v_rows : (Sq (fun p : Sq eI => p.d))) (v_width : Int) : Option ((List (List Int)) × (List Int)) := (lcA (fun x1 => some x1.xs) v_rows.xs).bind fun v_table3 => (some ([] : List Int)).bind fun v_pivots4 => (rngO v_width).bind fun t5 => (foldO (m_hermite_rows_l1 fuel) t5 (v_table3, v_pivots4)).bind fun s14063 => some (s14063.1, s14063.2)
noncomputable def m_is_integer (v_value : Int) : Option Bool := some (true && (!false))
noncomputable def m_dot (v_a : (Sq eI)) (v_b : (Sq eI)) : Option Int := (lcA (fun x1 => (mulO x1.1 x1.2).bind fun t2 => some t2) (List.zip v_a.xs v_b.xs)).bind fun t3 => some t3.sum
noncomputable def m_Grid_is_square (v_self : M_Grid) : Option Bool := some (decide ((v_self.rows.length : Int) = v_self.width))
noncomputable def m_Grid_is_unimodular (v_self : M_Grid) : Option Bool := (m_Grid_is_square v_self).bind fun t1 => (if t1 then (m_determinant v_self.rows).bind fun t2 => some (decide ((if t2 < 0 then -t2 else t2) = (1 : Int))) else some false).bind fun t3 => some t3
noncomputable def m_Grid_rank (fuel : Nat) (v_self : M_Grid) : Option Int := (m_hermite_rows fuel (Sq.T (fun p : Sq eI => p.d) (v_self.rows.map (Sq.T eI))) v_self.width).bind fun t1 => some (t1.2.length : Int)
noncomputable def m_Grid_eq (v_self : M_Grid) (v_other : M_Grid) : Option Bool := some (true && ((decide (v_self.rows = v_other.rows)) && (decide (v_self.width = v_other.width))))
noncomputable def m_Grid_mul (v_self : M_Grid) (v_other : M_Grid) : Option M_Grid := if (!decide (v_self.width = (v_other.rows.length : Int))) then none else (rngO v_other.width).bind fun t1 => (lcA (fun x2 => (lcA (fun x3 => (L2.atI x3 x2).bind fun t4 => some t4) v_other.rows).bind fun t5 => some t5) t1).bind fun v_columns7 => (lcA (fun x8 => (lcA (fun x9 => (m_dot (Sq.T eI x8) (Sq.L eI x9)).bind fun t10 => some t10) v_columns7).bind fun t11 => some t11) v_self.rows).bind fun t12 => (mk_Grid2 (Sq.L (fun p : Sq eI => p.d) (t12.map (Sq.L eI))) v_other.width).bind fun t13 => some t13
noncomputable def m_Grid_transposed (v_self : M_Grid) : Option M_Grid := (rngO v_self.width).bind fun t1 => (lcA (fun x2 => (lcA (fun x3 => (L2.atI x3 x2).bind fun t4 => some t4) v_self.rows).bind fun t5 => some t5) t1).bind fun t6 => (mk_Grid2 (Sq.L (fun p : Sq eI => p.d) (t6.map (Sq.L eI))) (v_self.rows.length : Int)).bind fun t7 => some t7
noncomputable def m_Grid_times (v_self : M_Grid) (v_row : (Sq eI)) : Option (List Int) := if (!decide ((v_row.xs.length : Int) = v_self.width)) then none else (lcA (fun x1 => (m_dot (Sq.T eI x1) v_row).bind fun t2 => some t2) v_self.rows).bind fun t3 => some t3
noncomputable def m_square_rows_S_l2  (x : Int) (s : Unit) : Option (Unit) := (m_is_integer x).bind fun t1 => if (!t1) then none else some ()
noncomputable def m_square_rows_S_l1 (v_rows : (Sq (fun p : Sq eI => p.d))) (x : (Sq eI)) (s : Unit) : Option (Unit) := if ((!true) || (!decide ((x.xs.length : Int) = (v_rows.xs.length : Int)))) then none else (foldO m_square_rows_S_l2 x.xs ()).bind fun s2002 => some ()
noncomputable def m_square_rows_S (v_gram : (Sq (fun p : Sq eI => p.d))) : Option (Sq (fun p : Sq eI => p.d)) := if ((!true) || (decide ((v_gram.xs.length : Int) < (1 : Int)))) then none else if (decide ((4 : Int) < (v_gram.xs.length : Int))) then none else (foldO (m_square_rows_S_l1 v_gram) v_gram.xs ()).bind fun s4003 => some v_gram
noncomputable def m_square_rows_G_l2  (x : Int) (s : Unit) : Option (Unit) := (m_is_integer x).bind fun t1 => if (!t1) then none else some ()
noncomputable def m_square_rows_G_l1 (v_rows : (List (List Int))) (x : (List Int)) (s : Unit) : Option (Unit) := if ((!true) || (!decide ((x.length : Int) = (v_rows.length : Int)))) then none else (foldO m_square_rows_G_l2 x ()).bind fun s2002 => some ()
noncomputable def m_square_rows_G (v_gram : M_Grid) : Option (List (List Int)) := if ((!true) || (decide ((v_gram.rows.length : Int) < (1 : Int)))) then none else if (decide ((4 : Int) < (v_gram.rows.length : Int))) then none else (foldO (m_square_rows_G_l1 v_gram.rows) v_gram.rows ()).bind fun s4003 => some v_gram.rows
noncomputable def m_check_symmetric_l2 (v_rows : (Sq (fun p : Sq eI => p.d))) (v_i : Int) (x : Int) (s : Unit) : Option (Unit) := (L2.atI v_rows.xs v_i).bind fun t3 => (L2.atI t3.xs x).bind fun t4 => (L2.atI v_rows.xs x).bind fun t5 => (L2.atI t5.xs v_i).bind fun t6 => if (!decide (t4 = t6)) then none else some ()
noncomputable def m_check_symmetric_l1 (v_rows : (Sq (fun p : Sq eI => p.d))) (x : Int) (s : Unit) : Option (Unit) := (rngO x).bind fun t2 => (foldO (m_check_symmetric_l2 v_rows x) t2 ()).bind fun s2007 => some ()
noncomputable def m_check_symmetric (v_rows : (Sq (fun p : Sq eI => p.d))) : Option Unit := (rngO (v_rows.xs.length : Int)).bind fun t1 => (foldO (m_check_symmetric_l1 v_rows) t1 ()).bind fun s4008 => some ()
noncomputable def m_Lattice_init_S_l2  (x : Int) (s : Unit) : Option (Unit) := if (decide ((10000 : Int) < (if x < 0 then -x else x))) then none else some ()
noncomputable def m_Lattice_init_S_l1  (x : (Sq eI)) (s : Unit) : Option (Unit) := (foldO m_Lattice_init_S_l2 x.xs ()).bind fun s2004 => some ()
noncomputable def m_Lattice_init_S_l3 (v_rows : (Sq (fun p : Sq eI => p.d))) (x : Int) (s : Unit) : Option (Unit) := (lcA (fun x4007 => some (Sq.cut x4007 none (some x))) (Sq.cut v_rows none (some x)).xs).bind fun t4008 => (mk_Grid2 (Sq.L (fun p : Sq eI => p.d) t4008) x).bind fun t4009 => (m_Grid_determinant t4009).bind fun t4010 => if (decide (t4010 < (1 : Int))) then none else some ()
noncomputable def m_Lattice_init_S (v_gram : (Sq (fun p : Sq eI => p.d))) : Option M_Lattice := (m_square_rows_S v_gram).bind fun v_rows2 => (m_check_symmetric v_rows2).bind fun t3 => (foldO m_Lattice_init_S_l1 v_rows2.xs ()).bind fun s4005 => (rng2O (1 : Int) ((v_rows2.xs.length : Int) + (1 : Int))).bind fun t4006 => (foldO (m_Lattice_init_S_l3 v_rows2) t4006 ()).bind fun s7011 => (mk_Grid1 v_rows2).bind fun t7012 => some ⟨t7012⟩
noncomputable def m_Lattice_init_G_l2  (x : Int) (s : Unit) : Option (Unit) := if (decide ((10000 : Int) < (if x < 0 then -x else x))) then none else some ()
noncomputable def m_Lattice_init_G_l1  (x : (List Int)) (s : Unit) : Option (Unit) := (foldO m_Lattice_init_G_l2 x ()).bind fun s2004 => some ()
noncomputable def m_Lattice_init_G_l3 (v_rows : (List (List Int))) (x : Int) (s : Unit) : Option (Unit) := (lcA (fun x4007 => some (cutL x4007 none (some x))) (cutL v_rows none (some x))).bind fun t4008 => (mk_Grid2 (Sq.L (fun p : Sq eI => p.d) (t4008.map (Sq.T eI))) x).bind fun t4009 => (m_Grid_determinant t4009).bind fun t4010 => if (decide (t4010 < (1 : Int))) then none else some ()
noncomputable def m_Lattice_init_G (v_gram : M_Grid) : Option M_Lattice := (m_square_rows_G v_gram).bind fun v_rows2 => (m_check_symmetric (Sq.T (fun p : Sq eI => p.d) (v_rows2.map (Sq.T eI)))).bind fun t3 => (foldO m_Lattice_init_G_l1 v_rows2 ()).bind fun s4005 => (rng2O (1 : Int) ((v_rows2.length : Int) + (1 : Int))).bind fun t4006 => (foldO (m_Lattice_init_G_l3 v_rows2) t4006 ()).bind fun s7011 => (mk_Grid1 (Sq.T (fun p : Sq eI => p.d) (v_rows2.map (Sq.T eI)))).bind fun t7012 => some ⟨t7012⟩
noncomputable def m_Lattice_contains (v_self : M_Lattice) (v_v : (List Int)) : Option Bool := if ((!true) || (!decide ((v_v.length : Int) = (v_self.gram.rows.length : Int)))) then some false else (lcA (fun x1 => (m_is_integer x1).bind fun t2 => some t2) v_v).bind fun t3 => some (t3.all id)
noncomputable def m_Lattice_rank (v_self : M_Lattice) : Option Int := some (v_self.gram.rows.length : Int)
noncomputable def m_Lattice_determinant (v_self : M_Lattice) : Option Int := (m_Grid_determinant v_self.gram).bind fun t1 => some t1
noncomputable def m_Lattice_product (v_self : M_Lattice) (v_v : (List Int)) (v_w : (List Int)) : Option Int := (m_Lattice_contains v_self v_v).bind fun t1 => (if (!t1) then some true else (m_Lattice_contains v_self v_w).bind fun t2 => some (!t2)).bind fun t3 => if t3 then none else (m_Grid_times v_self.gram (Sq.T eI v_w)).bind fun t4 => (m_dot (Sq.T eI v_v) (Sq.T eI t4)).bind fun t5 => some t5
noncomputable def m_Lattice_norm (v_self : M_Lattice) (v_v : (List Int)) : Option Int := (m_Lattice_product v_self v_v v_v).bind fun t1 => some t1
noncomputable def m_law_state_l1  (x : Int) (s : Int × Int) : Option (Int × Int) := (mulO s.1 (1000003 : Int)).bind fun t1 => (some (t1 + (if x < 0 then -x else x))).bind fun v_seed2 => (mulO s.2 (48271 : Int)).bind fun t3 => (modO (t3 + x) (2147483647 : Int)).bind fun v_total5 => some (v_seed2, v_total5)
noncomputable def m_law_state (v_script : (List Int)) : Option (List Int) := (foldO m_law_state_l1 (cutL v_script none (some (63 : Int))) ((0 : Int), (1 : Int))).bind fun s1006 => some ([s1006.1, s1006.2] : List Int)
noncomputable def m_law_take (v_state : (List Int)) (v_m : Int) : Option (Int × (List Int)) := (L2.atI v_state (0 : Int)).bind fun t1 => if (decide ((0 : Int) < t1)) then (L2.atI v_state (0 : Int)).bind fun t2 => (modO t2 v_m).bind fun v_value4 => (L2.atI v_state (0 : Int)).bind fun t5 => (fdivO t5 v_m).bind fun t6 => (setO v_state (0 : Int) t6).bind fun v_state7 => some (v_value4, v_state7) else (L2.atI v_state (1 : Int)).bind fun t8 => (mulO t8 (48271 : Int)).bind fun t9 => (modO (t9 + (11 : Int)) (2147483647 : Int)).bind fun t10 => (setO v_state (1 : Int) t10).bind fun v_state11 => (L2.atI v_state11 (1 : Int)).bind fun t12 => (fdivO t12 (7 : Int)).bind fun t13 => (modO t13 v_m).bind fun t14 => some (t14, v_state11)
noncomputable def m_law_gram (v_state : (List Int)) (v_most : Int) : Option ((List (List Int)) × (List Int)) := (m_law_take v_state v_most).bind fun t1 => (if (decide ((2 : Int) < ((1 : Int) + t1.1))) then (m_law_take t1.2 (2 : Int)).bind fun t2 => some ((decide (t2.1 = (1 : Int))), t2.2) else some (false, t1.2)).bind fun t3 => (if t3.1 then some (2 : Int) else some ((1 : Int) + t1.1)).bind fun s4 => gramO m_law_take s4 t3.2
noncomputable def m_law_unimodular_l1 (v_size : Int) (x : Int) (s : (List Int) × (List (List Int))) : Option ((List Int) × (List (List Int))) := (m_law_take s.1 v_size).bind fun t10 => (m_law_take t10.2 v_size).bind fun t11 => (m_law_take t11.2 (3 : Int)).bind fun t12 => if (decide (t10.1 = t11.1)) then (L2.atI s.2 t10.1).bind fun t13 => (lcA (fun x14 => some (-x14)) t13).bind fun t15 => (setO s.2 t10.1 t15).bind fun v_rows16 => some (t12.2, v_rows16) else (rngO v_size).bind fun t17 => (lcA (fun x18 => (L2.atI s.2 t10.1).bind fun t19 => (L2.atI t19 x18).bind fun t20 => (L2.atI s.2 t11.1).bind fun t21 => (L2.atI t21 x18).bind fun t22 => (mulO (t12.1 - (1 : Int)) t22).bind fun t23 => some (t20 + t23)) t17).bind fun t24 => (setO s.2 t10.1 t24).bind fun v_rows25 => some (t12.2, v_rows25)
noncomputable def m_law_unimodular (v_state : (List Int)) (v_size : Int) : Option ((List (List Int)) × (List Int)) := (rngO v_size).bind fun t1 => (lcA (fun x2 => (rngO v_size).bind fun t3 => (lcA (fun x4 => some (if (decide (x2 = x4)) then (1 : Int) else 0)) t3).bind fun t5 => some t5) t1).bind fun v_rows7 => (m_law_take v_state (4 : Int)).bind fun t8 => (rngO t8.1).bind fun t9 => (foldO (m_law_unimodular_l1 v_size) t9 (t8.2, v_rows7)).bind fun s1026 => some (s1026.2, s1026.1)
noncomputable def m_law_product_l2 (v_gram : (List (List Int))) (v_v : (List Int)) (v_w : (List Int)) (v_i : Int) (x : Int) (s : Int) : Option (Int) := (L2.atI v_v v_i).bind fun t3 => (L2.atI v_gram v_i).bind fun t4 => (L2.atI t4 x).bind fun t5 => (mulO t3 t5).bind fun t6 => (L2.atI v_w x).bind fun t7 => (mulO t6 t7).bind fun t8 => (some (s + t8)).bind fun v_total9 => some v_total9
noncomputable def m_law_product_l1 (v_gram : (List (List Int))) (v_v : (List Int)) (v_w : (List Int)) (x : Int) (s : Int) : Option (Int) := (rngO (v_w.length : Int)).bind fun t2 => (foldO (m_law_product_l2 v_gram v_v v_w x) t2 s).bind fun s2010 => some s2010
noncomputable def m_law_product (v_gram : (List (List Int))) (v_v : (List Int)) (v_w : (List Int)) : Option Int := (rngO (v_v.length : Int)).bind fun t1 => (foldO (m_law_product_l1 v_gram v_v v_w) t1 (0 : Int)).bind fun s4011 => some s4011
noncomputable def m_law_product_T_l2 (v_gram : (List (List Int))) (v_v : (List Int)) (v_w : (List Int)) (v_i : Int) (x : Int) (s : Int) : Option (Int) := (L2.atI v_v v_i).bind fun t3 => (L2.atI v_gram v_i).bind fun t4 => (L2.atI t4 x).bind fun t5 => (mulO t3 t5).bind fun t6 => (L2.atI v_w x).bind fun t7 => (mulO t6 t7).bind fun t8 => (some (s + t8)).bind fun v_total9 => some v_total9
noncomputable def m_law_product_T_l1 (v_gram : (List (List Int))) (v_v : (List Int)) (v_w : (List Int)) (x : Int) (s : Int) : Option (Int) := (rngO (v_w.length : Int)).bind fun t2 => (foldO (m_law_product_T_l2 v_gram v_v v_w x) t2 s).bind fun s2010 => some s2010
noncomputable def m_law_product_T (v_gram : (List (List Int))) (v_v : (List Int)) (v_w : (List Int)) : Option Int := (rngO (v_v.length : Int)).bind fun t1 => (foldO (m_law_product_T_l1 v_gram v_v v_w) t1 (0 : Int)).bind fun s4011 => some s4011
noncomputable def m_law_minor (v_rows : (List (List Int))) (v_i : Int) (v_j : Int) : Option (List (List Int)) := (catO (cutL v_rows none (some v_i)) (cutL v_rows (some (v_i + (1 : Int))) none)).bind fun t1 => (lcA (fun x2 => (catO (cutL x2 none (some v_j)) (cutL x2 (some (v_j + (1 : Int))) none)).bind fun t3 => some t3) t1).bind fun t4 => some t4
noncomputable def m_law_vector (v_state : (List Int)) (v_size : Int) (v_most : Int) : Option ((List Int) × (List Int)) := (rngO v_size).bind fun t1 => (lcS (fun x2 s3 => (mulO (2 : Int) v_most).bind fun t4 => (m_law_take s3 (t4 + (1 : Int))).bind fun t5 => some ((t5.1 - v_most), t5.2)) t1 v_state).bind fun t6 => some (t6.1, t6.2)
noncomputable def m_law_determinant_l1 (rc : (List (List Int)) → Option Int) (v_rows : (List (List Int))) (x : Int) (s : Int) : Option (Int) := (L2.atI v_rows (0 : Int)).bind fun t2 => (L2.atI t2 x).bind fun t3 => (m_law_minor v_rows (0 : Int) x).bind fun t4 => (rc t4).bind fun t5 => (mulO t3 t5).bind fun v_part7 => (modO x (2 : Int)).bind fun t8 => (if (decide (t8 = (0 : Int))) then some (s + v_part7) else some (s - v_part7)).bind fun v_total10 => some v_total10
noncomputable def m_law_determinant_s (rc : (List (List Int)) → Option Int) (v_rows : (List (List Int))) : Option Int := if (decide ((v_rows.length : Int) = (0 : Int))) then some (1 : Int) else (rngO (v_rows.length : Int)).bind fun t1 => (foldO (m_law_determinant_l1 rc v_rows) t1 (0 : Int)).bind fun s1011 => some s1011
noncomputable def m_law_determinant : Nat → (List (List Int)) → Option Int
  | 0 => fun _ => none
  | n + 1 => m_law_determinant_s (m_law_determinant n)
noncomputable def m_law_moved (v_gram : (List (List Int))) (v_rows : (List (List Int))) : Option (List (List Int)) := (lcA (fun x1 => (lcA (fun x2 => (m_law_product v_gram x1 x2).bind fun t3 => some t3) v_rows).bind fun t4 => some t4) v_rows).bind fun t5 => some t5
noncomputable def m_law_apply_l1 (v_v : (List Int)) (v_rows : (List (List Int))) (x : Int) (s : (List Int)) : Option ((List Int)) := (rngO (s.length : Int)).bind fun t6 => (lcA (fun x7 => (L2.atI s x7).bind fun t8 => (L2.atI v_v x).bind fun t9 => (L2.atI v_rows x).bind fun t10 => (L2.atI t10 x7).bind fun t11 => (mulO t9 t11).bind fun t12 => some (t8 + t12)) t6).bind fun v_total14 => some v_total14
noncomputable def m_law_apply (v_v : (List Int)) (v_rows : (List (List Int))) : Option (List Int) := (L2.atI v_rows (0 : Int)).bind fun t1 => (lcA (fun x2 => some (0 : Int)) t1).bind fun v_total4 => (rngO (v_v.length : Int)).bind fun t5 => (foldO (m_law_apply_l1 v_v v_rows) t5 v_total4).bind fun s1015 => some s1015
noncomputable def m_law_is_independent (v_gram : (List (List Int))) (v_rows : (List (List Int))) : Option Bool := (m_law_moved v_gram v_rows).bind fun t1 => (m_law_determinant 4 t1).bind fun t2 => some (decide ((0 : Int) < t2))
noncomputable def m_Lattice_changed (v_self : M_Lattice) (v_u : M_Grid) : Option M_Lattice := (if (!true) then some true else (m_Lattice_rank v_self).bind fun t1 => (if (!decide (v_u.width = t1)) then some true else (m_Grid_is_unimodular v_u).bind fun t2 => some (!t2)).bind fun t3 => some t3).bind fun t4 => if t4 then none else (m_Grid_mul v_u v_self.gram).bind fun t5 => (m_Grid_transposed v_u).bind fun t6 => (m_Grid_mul t5 t6).bind fun t7 => (m_Lattice_init_G t7).bind fun t8 => some t8
noncomputable def m_Lattice_spanned (fuel : Nat) (v_self : M_Lattice) (v_u : M_Grid) : Option M_Lattice := (if (!true) then some true else (m_Lattice_rank v_self).bind fun t1 => (if (!decide (v_u.width = t1)) then some true else (if (decide ((v_u.rows.length : Int) < (1 : Int))) then some true else (m_Grid_rank fuel v_u).bind fun t2 => some (!decide (t2 = (v_u.rows.length : Int)))).bind fun t3 => some t3).bind fun t4 => some t4).bind fun t5 => if t5 then none else (m_Grid_mul v_u v_self.gram).bind fun t6 => (m_Grid_transposed v_u).bind fun t7 => (m_Grid_mul t6 t7).bind fun t8 => (m_Lattice_init_G t8).bind fun t9 => some t9
noncomputable def m_Lattice_changed_X (v_self : M_Lattice) (v_u : M_Grid) : Option (Rz M_Lattice) := (if (!true) then some true else (m_Lattice_rank v_self).bind fun t1 => (if (!decide (v_u.width = t1)) then some true else (m_Grid_is_unimodular v_u).bind fun t2 => some (!t2)).bind fun t3 => some t3).bind fun t4 => if t4 then some (.er Xn.mal) else (m_Grid_mul v_u v_self.gram).bind fun t5 => (m_Grid_transposed v_u).bind fun t6 => (m_Grid_mul t5 t6).bind fun t7 => (m_Lattice_init_G t7).bind fun t8 => some (.ok t8)
noncomputable def m_Lattice_spanned_X (fuel : Nat) (v_self : M_Lattice) (v_u : M_Grid) : Option (Rz M_Lattice) := (if (!true) then some true else (m_Lattice_rank v_self).bind fun t1 => (if (!decide (v_u.width = t1)) then some true else (if (decide ((v_u.rows.length : Int) < (1 : Int))) then some true else (m_Grid_rank fuel v_u).bind fun t2 => some (!decide (t2 = (v_u.rows.length : Int)))).bind fun t3 => some t3).bind fun t4 => some t4).bind fun t5 => if t5 then some (.er Xn.mal) else (m_Grid_mul v_u v_self.gram).bind fun t6 => (m_Grid_transposed v_u).bind fun t7 => (m_Grid_mul t6 t7).bind fun t8 => (m_Lattice_init_G t8).bind fun t9 => some (.ok t9)
end G
set_option Elab.async false
set_option linter.all false
set_option maxRecDepth 100000
namespace G
open PySem PySem.Spec PyProof.Rows L2 Evl
/-- walkN, the bits of the script's numbers told -/
theorem walkNB {l : PySem.W.OpenLaw} {n k : Nat} {q : Program} {loose : List Str} {XP : (Str → Option Value) → Heap → Prop} {YP : World → Heap → Prop} {d : DefRec} {K : Params → PySem.W.Frag} {CX : CXT} {sp : PySem.W.Frag → Sp} {x : Str}
    (hn : l.most = some n) (hn2 : n ≤ sizeLine) (hdf : d.params.defaults = []) (hr : Room k callerA) (hi : importsNone q = true)
    (hY : ∀ (w : World) (h : Heap), YP w h → (K w.params).In h)
    (F : ∀ (w : World) (mg : Str → Option Value) (fa : Addr) (h : Heap), (K w.params).In h → h.Ns mainGlobals mg → mg d.name = some (.ref fa) →
      ∃ fd : FuncData, (∀ (s : Shared) (u : Value), BindsTo s fd ⟨[u], []⟩ [(x, u)]) ∧
        ∀ base : Heap, (K w.params).In base → base.Ns mainGlobals mg → base.NoSeer → FnOk l.prog w (K w.params) mg base CX k fa fd [x] (sp (K w.params)))
    (hsp : ∀ (K : PySem.W.Frag) (H : Hp) (a : Addr) (ns : List Int), ns.length ≤ n → (∀ z ∈ ns, z.natAbs < 2 ^ 1048577) → Only H → SqL K H a (ns.map V.int) → sp K [.ref a] H (fun v _ => v = .bl true) fun _ _ _ => False)
    (hCX : ∀ (H : Hp) (s : Shared) (e : Value) (s' : Shared), CX [] H s (fun _ _ _ => False) e s' → False) : PySem.W.WalkO q loose XP YP l.row.toRowW d [] (fun f vs => PySem.call f vs) := by
  refine Att.attach_callB hn hdf fun w s₀ s₁ mg mb fa o pm cd doc a vs ns Gr Y ho hd hcd hmg hobj hints hlen hbits hg => ?_
  have KX := hY w _ Y
  obtain ⟨fd, hb, hF⟩ := F w mg fa _ KX Gr.T.g hmg
  have hb2 : ∀ z ∈ ns, z.natAbs < 2 ^ 1048577 := fun z hz => Nat.lt_of_lt_of_le (natAbs_lt_pow_bits z) (Nat.pow_le_pow_right (by omega) (Nat.le_trans (hbits z hz) (by omega)))
  exact law_run KX Gr.T.g Gr.T.b Gr.T.builtins Gr.T.nolimit (Gr.T.seer hi) hg hobj hints (Nat.le_trans hlen hn2) hr hF hb (fun H hO hS => hsp (K w.params) H a ns hlen hb2 hO hS) fun H e s' => hCX H s₁ e s'
end G
set_option Elab.async false
set_option linter.all false
namespace G
open PySem PySem.Spec PyProof.Rows
theorem kitR {K : PySem.W.Frag} {t : Value} {C : Addr} (h0 : (t == Value.ref C) = false) (h1 : PySem.W.isClsIn K C = true) (h2 : PySem.W.typeIn K (.ref C) = some (.type "type")) (h3 : PySem.W.subIn K t (.ref C) = some false) : PySem.W.kitOne K t (.ref C) = some false := by
  unfold PySem.W.kitOne
  rw [h0, if_neg Bool.false_ne_true]
  unfold PySem.W.kitCls
  unfold PySem.W.isClsIn at h1
  dsimp only
  rw [h1, h2, if_pos (by simp)]
  exact h3
theorem kitT {K : PySem.W.Frag} {C : Addr} {T : String} (h1 : PySem.W.kitMeta T = true) (h3 : PySem.W.subIn K (.ref C) (.type T) = some false) : PySem.W.kitOne K (.ref C) (.type T) = some false := by
  unfold PySem.W.kitOne
  have h0 : (Value.ref C == Value.type T) = false := rfl
  rw [h0, if_neg Bool.false_ne_true]
  unfold PySem.W.kitCls
  dsimp only
  rw [h1, if_pos rfl]
  exact h3
theorem kitA2 {K : PySem.W.Frag} {t a b : Value} (h1 : PySem.W.kitOne K t a = some false) (h2 : PySem.W.kitOne K t b = some false) : PySem.W.kitAny K t [a, b] = some false := by
  unfold PySem.W.kitAny
  rw [h1]
  unfold PySem.W.kitAny
  rw [h2]
  rfl
theorem vty {T : String} {C : Addr} : (Value.type T == Value.ref C) = false := rfl
end G
set_option Elab.async false
set_option linter.all false
set_option maxRecDepth 100000
set_option maxHeartbeats 1000000
/-! what the ends of the laws share: a def proved of two kinds of arguments, clauses and classes -/
namespace G
open PySem PySem.Spec PyProof.Rows L2 Evl
section
variable {P : Program} {w : World} {K : PySem.W.Frag} {mg : Str → Option Value} {base : Heap} {C : Addr} {CX : CXT} {k : Nat} {f : Addr} {fd : FuncData} {ps : List Str} {c : ClX}
theorem fn_orG {s1 s2 s : Sp} (h : ∀ vs H Q E, s vs H Q E → s1 vs H Q E ∨ s2 vs H Q E) (F1 : FnOk P w K mg base CX k f fd ps s1) (F2 : FnOk P w K mg base CX k f fd ps s2) : FnOk P w K mg base CX k f fd ps s :=
  ⟨fun vs H Q E q => (h vs H Q E q).elim (F1.len vs H Q E) (F2.len vs H Q E), fun A outer s H args us vs Q E hr e0 hb hv q =>
    (h vs H Q E q).elim (F1.run A outer s H args us vs Q E hr e0 hb hv) (F2.run A outer s H args us vs Q E hr e0 hb hv)⟩
theorem fn_orI {R1 R2 : List DV → List (Str × DV) → Prop} (F1 : FnOk P w K mg base CX k f fd ps (spI K C R1)) (F2 : FnOk P w K mg base CX k f fd ps (spI K C R2)) : FnOk P w K mg base CX k f fd ps (spI K C fun ds r => R1 ds r ∨ R2 ds r) :=
  fn_orG (fun vs H Q E h => by
    obtain ⟨M, x, dx, ws, ds, fs, a, b, c, d, e, h, z⟩ := h
    exact h.elim (fun h => .inl ⟨M, x, dx, ws, ds, fs, a, b, c, d, e, h, z⟩) fun h => .inr ⟨M, x, dx, ws, ds, fs, a, b, c, d, e, h, z⟩) F1 F2
theorem fn_orX {R1 R2 : List DV → Rz DV → Prop} (F1 : FnOk P w K mg base CX k f fd ps (spX K c R1)) (F2 : FnOk P w K mg base CX k f fd ps (spX K c R2)) : FnOk P w K mg base CX k f fd ps (spX K c fun ds r => R1 ds r ∨ R2 ds r) :=
  fn_orG (fun vs H Q E h => by
    obtain ⟨M, ds, r, a, b, h, z⟩ := h
    exact h.elim (fun h => .inl ⟨M, ds, r, a, b, h, z⟩) fun h => .inr ⟨M, ds, r, a, b, h, z⟩) F1 F2
theorem fn_orIX {R1 R2 : List DV → Rz (List (Str × DV)) → Prop} (F1 : FnOk P w K mg base CX k f fd ps (spIX K c C R1)) (F2 : FnOk P w K mg base CX k f fd ps (spIX K c C R2)) : FnOk P w K mg base CX k f fd ps (spIX K c C fun ds r => R1 ds r ∨ R2 ds r) :=
  fn_orG (fun vs H Q E h => by
    obtain ⟨M, x, dx, ws, ds, r, a, b, c, d, e, h, z⟩ := h
    exact h.elim (fun h => .inl ⟨M, x, dx, ws, ds, r, a, b, c, d, e, h, z⟩) fun h => .inr ⟨M, x, dx, ws, ds, r, a, b, c, d, e, h, z⟩) F1 F2
theorem fn_orD {R1 R2 : List DV → DV → Prop} (F1 : FnOk P w K mg base CX k f fd ps (spD K R1)) (F2 : FnOk P w K mg base CX k f fd ps (spD K R2)) : FnOk P w K mg base CX k f fd ps (spD K fun ds r => R1 ds r ∨ R2 ds r) :=
  fn_orG (fun vs H Q E h => by
    obtain ⟨M, ds, r, a, b, h, z⟩ := h
    exact h.elim (fun h => .inl ⟨M, ds, r, a, b, h, z⟩) fun h => .inr ⟨M, ds, r, a, b, h, z⟩) F1 F2
end
theorem kitRb {K : PySem.W.Frag} {t : Value} {C : Addr} {b : Bool} (h0 : (t == Value.ref C) = false) (h1 : PySem.W.isClsIn K C = true) (h2 : PySem.W.typeIn K (.ref C) = some (.type "type")) (h3 : PySem.W.subIn K t (.ref C) = some b) : PySem.W.kitOne K t (.ref C) = some b := by
  unfold PySem.W.kitOne
  rw [h0, if_neg Bool.false_ne_true]
  unfold PySem.W.kitCls
  unfold PySem.W.isClsIn at h1
  dsimp only
  rw [h1, h2, if_pos (by simp)]
  exact h3
theorem exm_b {K : PySem.W.Frag} {t : Value} {S : Addr} {b : Bool} (h1 : PySem.W.subIn K (.ref S) (.type "BaseException") = some true) (h2 : PySem.W.isClsIn K S = true) (h3 : PySem.W.typeIn K (.ref S) = some (.type "type")) (h4 : PySem.W.subIn K t (.ref S) = some b) :
    PySem.W.exmOne K t (.ref S) = some b := by
  have e1 : (PySem.W.subIn K (.ref S) (.type "BaseException") == some true) = true := by
    rw [h1]
    rfl
  have e2 : ((PySem.W.clsIn K S).isSome && PySem.W.typeIn K (.ref S) == some (.type "type")) = true := by
    have z : (PySem.W.clsIn K S).isSome = true := h2
    rw [z, h3]
    rfl
  unfold PySem.W.exmOne
  rw [if_pos e1]
  show (if ((PySem.W.clsIn K S).isSome && PySem.W.typeIn K (.ref S) == some (.type "type")) = true then _ else _) = _
  rw [if_pos e2]
  exact h4
end G
set_option Elab.async false
set_option linter.all false
set_option maxRecDepth 100000
set_option maxHeartbeats 2000000
/-! [elt for a in A if .. for b in B if ..] -/
namespace G
open PySem PySem.Spec PyProof.Rows L2 Evl
section
variable {K : PySem.W.Frag} {δ : Env} {μ μ' : Sto} {te : TE}
/-- what the first k turns of the outer loop give -/
def tot2 (p : Nat → Bool) (out : Nat → List DV) : Nat → List DV
  | 0 => []
  | k + 1 => tot2 p out k ++ if p k then out k else []
theorem lx_lc2 {wi wi1 : TI} {g g1 : TG} {tt tt1 : TT} {vs vs1 js js1 : List Nat} {n : Nat} {b : Nat → Env → Env} (n1 : Nat → Nat) (b1 : Nat → Nat → Env → Env) (p : Nat → Bool) (p1 : Nat → Nat → Bool) (f : Nat → Nat → DV)
    (w : WX K wi g δ μ μ' n js b) (hn : n ≤ 10000) (hn1 : ∀ i, i < n → p i = true → n1 i ≤ 1000) (hj : ∀ k ∈ js, k ∈ vs) (hj1 : ∀ k ∈ js1, k ∈ vs1)
    (ht : ∀ i, i < n → TX K tt (b i (wipeD δ vs)) μ' μ' (p i)) (w1 : ∀ i, i < n → p i = true → WX K wi1 g1 (b i (wipeD δ vs)) μ' μ' (n1 i) js1 (b1 i))
    (ht1 : ∀ i j, i < n → p i = true → j < n1 i → TX K tt1 (b1 i j (wipeD (b i (wipeD δ vs)) vs1)) μ' μ' (p1 i j))
    (he : ∀ i j, i < n → p i = true → j < n1 i → p1 i j = true → EX K te (b1 i j (wipeD (b i (wipeD δ vs)) vs1)) μ' μ' (f i j)) :
    LX K (tLc2 wi g tt wi1 g1 tt1 te vs vs1) δ μ μ' (tot2 p (fun i => ((List.range (n1 i)).filter (p1 i)).map (f i)) n) := fun F M σ H s Q q =>
  w F M σ H s _ fun J H1 e1 s1 T => fun D hD => by
    obtain ⟨s1w, eF, eB⟩ := s1.widen
    generalize hF1 : hid (μ'.map Prod.fst) H1 = F1 at s1w eF eB
    have hDM := s1.fresh hD
    have hF1D : F1 D = none := by
      cases q : F1 D with
      | none => rfl
      | some o => rw [← hF1] at q; rw [hid_sub _ _ q] at hD; cases hD
    have z0 := s1w.newL (vs := []) (ds := []) hD .nil
    have hB : ∀ a o, hid M H1 a = some o → a ∉ D :: M := fun a o q => by
      simp only [List.mem_cons, not_or]
      exact ⟨ne_of_none (hid_sub _ _ q) hD, hid_no q⟩
    let out : Nat → List DV := fun i => ((List.range (n1 i)).filter (p1 i)).map (f i)
    have olen : ∀ i, i < n → p i = true → (out i).length ≤ 1000 := fun i hi hp => by
      have q1 := List.length_filter_le (p1 i) (List.range (n1 i))
      rw [List.length_range] at q1
      show (((List.range (n1 i)).filter (p1 i)).map (f i)).length ≤ _
      rw [List.length_map]
      exact Nat.le_trans q1 (hn1 i hi hp)
    have tlen : ∀ k, k ≤ n → (tot2 p out k).length ≤ k * 1000 := fun k => by
      induction k with
      | zero => intro _; exact Nat.le_refl _
      | succ k ih =>
        intro hk
        have := ih (by omega)
        show (tot2 p out k ++ if p k then out k else []).length ≤ _
        rw [List.length_append]
        cases hp : p k with
        | true =>
          have := olen k (by omega) hp
          simp only [if_true]
          omega
        | false =>
          simp
          omega
    refine ⟨fun i m H2 => m = n - i ∧ i ≤ n ∧ Sta K F1 (D :: M) δ ((D, tot2 p out i) :: μ') σ H2, ⟨n, by simp, Nat.zero_le _, z0⟩, ?_⟩
    rintro i m H2 ⟨rfl, hi, s2⟩
    have ed : Ex (hid M H1) (hid (D :: M) H2) := s2.data eB hB
    by_cases hlt : i < n
    · refine .inr ⟨T.go i H2 _ ed hlt, fun H' => Sta K F1 (D :: M) δ ((D, tot2 p out (i + 1)) :: μ') σ H', fun H' s' => ⟨n - (i + 1), by omega, rfl, hlt, s'⟩, fun x H3 y => ?_⟩
      refine T.bind i H2 x H3 _ _ _ _ _ hlt ed (s2.wiped vs) y _ fun σ3 e3 s3 hl3 ho3 => ?_
      obtain ⟨ws, g1', g2⟩ := s3.sto (D, tot2 p out i) (by simp)
      have s3' : Sta K F1 (D :: M) δ ((D, tot2 p out i) :: μ') σ H3 := s2.mono e3
      have lk := s3.lock g1'
      refine ⟨?_, ht i hlt _ _ σ3 H3 lk _ fun H4 e4 s4 => ?_⟩
      · refine (wipe_eq hl3 fun k hk => ho3 k (fun z => hk (hj k z))).trans (wipe_eq (wipe_length σ vs) fun k hk => ?_)
        rw [wipe_at, if_neg hk]
      · cases hp : p i with
        | true =>
          show wi1 σ3 H4 _
          refine w1 i hlt hp _ _ σ3 H4 s4 _ fun J1 H5 e5 s5 T1 => ?_
          have k5 : H5 D = some (.lst ws) := s5.fr D _ upd_same
          -- the outer slots, at H5
          have env5 : Sta K F1 (D :: M) δ ((D, tot2 p out i) :: μ') σ H5 := by
            have z : Sta K (upd F1 D (.lst ws)) (D :: M) δ μ' σ H5 := ⟨s5.al, s5.fr, s5.dm, s5.nd, s5.sto, fun k dk hk => by
              obtain ⟨vk, a1, a2⟩ := s3'.env k dk hk
              exact ⟨vk, a1, a2.mono (e4.trans e5)⟩, s3'.len⟩
            exact Sta.unlock hF1D z (g2.mono (e4.trans e5))
          have in5 : Sta K F1 (D :: M) (b i (wipeD δ vs)) ((D, tot2 p out i) :: μ') σ3 H5 := Sta.unlock hF1D s5 (g2.mono (e4.trans e5))
          -- a frame that keeps the data of H5
          obtain ⟨inw, eG, eGB⟩ := in5.widen
          generalize hG : hid (((D, tot2 p out i) :: μ').map Prod.fst) H5 = G1 at inw eG eGB
          have hG1D : G1 D = none := by
            rw [← hG]
            unfold hid
            rw [if_pos (by simp)]
          have outw : Sta K G1 (D :: M) δ ((D, tot2 p out i) :: μ') σ H5 := ⟨inw.al, inw.fr, inw.dm, inw.nd, inw.sto, env5.env, env5.len⟩
          let part : Nat → List DV := fun j => ((List.range j).filter (p1 i)).map (f i)
          have plen : ∀ j, (part j).length ≤ j := fun j => by
            have q1 := List.length_filter_le (p1 i) (List.range j)
            rw [List.length_range] at q1
            show (((List.range j).filter (p1 i)).map (f i)).length ≤ _
            rw [List.length_map]
            exact q1
          have psucc : ∀ j, part (j + 1) = part j ++ if p1 i j then [f i j] else [] := fun j => by
            show ((List.range (j + 1)).filter (p1 i)).map (f i) = ((List.range j).filter (p1 i)).map (f i) ++ _
            rw [List.range_succ, List.filter_append, List.map_append]
            cases h : p1 i j <;> simp [h]
          refine ⟨fun j k H6 => k = n1 i - j ∧ j ≤ n1 i ∧ Sta K G1 (D :: M) (b i (wipeD δ vs)) ((D, tot2 p out i ++ part j) :: μ') σ3 H6 ∧ Sta K G1 (D :: M) δ ((D, tot2 p out i ++ part j) :: μ') σ H6, ⟨n1 i, by simp, Nat.zero_le _, by
            show Sta K G1 (D :: M) _ ((D, tot2 p out i ++ []) :: μ') σ3 H5
            rw [List.append_nil]; exact inw, by
            show Sta K G1 (D :: M) _ ((D, tot2 p out i ++ []) :: μ') σ H5
            rw [List.append_nil]; exact outw⟩, ?_⟩
          rintro j k H6 ⟨rfl, hjn, s6, o6⟩
          have hBB : ∀ a o, hid (D :: M) H5 a = some o → a ∉ D :: M := fun a o q => hid_no q
          have ed1 : Ex (hid (D :: M) H5) (hid (D :: M) H6) := s6.data eGB hBB
          by_cases hjlt : j < n1 i
          · refine .inr ⟨T1.go j H6 _ ed1 hjlt, fun H' => Sta K G1 (D :: M) (b i (wipeD δ vs)) ((D, tot2 p out i ++ part (j + 1)) :: μ') σ3 H' ∧ Sta K G1 (D :: M) δ ((D, tot2 p out i ++ part (j + 1)) :: μ') σ H', fun H' s' => ⟨n1 i - (j + 1), by omega, rfl, hjlt, s'.1, s'.2⟩, fun x H7 y => ?_⟩
            refine T1.bind j H6 x H7 _ _ _ _ _ hjlt ed1 (s6.wiped vs1) y _ fun σ7 e7 s7 hl7 ho7 => ?_
            obtain ⟨us, u1, u2⟩ := s7.sto (D, tot2 p out i ++ part j) (by simp)
            have s7i : Sta K G1 (D :: M) (b i (wipeD δ vs)) ((D, tot2 p out i ++ part j) :: μ') σ3 H7 := s6.mono e7
            have s7o : Sta K G1 (D :: M) δ ((D, tot2 p out i ++ part j) :: μ') σ H7 := o6.mono e7
            have lk7 := s7.lock u1
            refine ⟨?_, ht1 i j hlt hp hjlt _ _ σ7 H7 lk7 _ fun H8 e8 s8 => ?_⟩
            · refine (wipe_eq hl7 fun k hk => ho7 k (fun z => hk (hj1 k z))).trans (wipe_eq (wipe_length σ3 vs1) fun k hk => ?_)
              rw [wipe_at, if_neg hk]
            · cases hp1 : p1 i j with
              | true =>
                show te σ7 H8 _
                refine he i j hlt hp hjlt hp1 _ _ σ7 H8 s8 _ fun v H9 e9 s9 r9 => ?_
                have k1 : H9 D = some (.lst us) := s9.fr D _ upd_same
                have g5 := u2.mono (e8.trans e9)
                have hlen : (tot2 p out i ++ part j).length ≤ 10000000 := by
                  rw [List.length_append]
                  have := tlen i (by omega)
                  have := plen j
                  have := hn1 i hlt hp
                  omega
                refine ⟨us, k1, (by rw [sizeLine_eq]; have := u2.length; simp only at this; omega), ?_⟩
                have mk : ∀ {δ' : Env} {σ' : L2.St}, Sta K G1 (D :: M) δ' ((D, tot2 p out i ++ part j) :: μ') σ' H7 → Sta K G1 (D :: M) δ' ((D, tot2 p out i ++ part (j + 1)) :: μ') σ' (upd H9 D (.lst (us ++ [v]))) := fun {δ' σ'} t7 => by
                  have z : Sta K (upd G1 D (.lst us)) (D :: M) δ' μ' σ' H9 := ⟨s9.al, s9.fr, s9.dm, s9.nd, s9.sto, fun k dk hk => by
                    obtain ⟨vk, a1, a2⟩ := t7.env k dk hk
                    exact ⟨vk, a1, a2.mono (e8.trans e9)⟩, t7.len⟩
                  have z2 := Sta.unlock hG1D z g5
                  have z3 := (z2.pokeH (g5.app (.cons r9 .nil))).1
                  rw [psucc, hp1, if_pos rfl, ← List.append_assoc]
                  exact z3
                exact ⟨mk s7i, mk s7o⟩
              | false =>
                have mk : ∀ {δ' : Env} {σ' : L2.St}, Sta K G1 (D :: M) δ' ((D, tot2 p out i ++ part j) :: μ') σ' H7 → Sta K G1 (D :: M) δ' ((D, tot2 p out i ++ part (j + 1)) :: μ') σ' H8 := fun {δ' σ'} t7 => by
                  have z : Sta K (upd G1 D (.lst us)) (D :: M) δ' μ' σ' H8 := ⟨s8.al, s8.fr, s8.dm, s8.nd, s8.sto, fun k dk hk => by
                    obtain ⟨vk, a1, a2⟩ := t7.env k dk hk
                    exact ⟨vk, a1, a2.mono e8⟩, t7.len⟩
                  have z2 := Sta.unlock hG1D z (u2.mono e8)
                  rw [psucc, hp1, if_neg Bool.false_ne_true, List.append_nil]
                  exact z2
                exact ⟨mk s7i, mk s7o⟩
          · have e : j = n1 i := by omega
            subst e
            refine .inl ⟨T1.stop H6 _ ed1, ?_⟩
            show Sta K F1 (D :: M) δ ((D, tot2 p out i ++ if p i then out i else []) :: μ') σ H6
            rw [hp, if_pos rfl]
            exact o6.narrow eG
        | false =>
          show Sta K F1 (D :: M) δ ((D, tot2 p out i ++ if p i then out i else []) :: μ') σ H4
          rw [hp, if_neg Bool.false_ne_true, List.append_nil]
          have s4b : Sta K (upd F1 D (.lst ws)) (D :: M) δ μ' σ H4 :=
            ⟨s4.al, s4.fr, s4.dm, s4.nd, s4.sto, fun k dk hk => by
              obtain ⟨vk, a1, a2⟩ := s3'.env k dk hk
              exact ⟨vk, a1, a2.mono e4⟩, s3'.len⟩
          exact Sta.unlock hF1D s4b (g2.mono e4)
    · have e : i = n := by omega
      subst e
      refine .inl ⟨T.stop H2 _ ed, ?_⟩
      have hD0 : H D = none := back_none s s1 e1 hD
      refine q D H2 hD0 hDM (e1.trans (ed.trans (hid_less fun a ha => List.mem_cons_of_mem _ ha))) (s2.narrow eF)
end
end G
set_option Elab.async false
set_option linter.all false
set_option maxRecDepth 100000
set_option maxHeartbeats 2000000
/-! x in data, (x,) * k, isqrt -/
namespace G
open PySem PySem.Spec PyProof.Rows L2 Evl PySem.SeqAt
section
variable {X : Cx}
/-- x in a list of data -/
def rInD (K : PySem.W.Frag) (neg : Bool) : R2 := fun x y H Q => ∃ (d : PyData) (es : List PyData), Dp K H x d ∧ (Dp K H y (.list es) ∨ Dp K H y (.tuple es)) ∧ SeqAt.shaped d = true ∧ PyData.canLayAll0 es = true ∧ Q (.bl (if neg then !es.any fun e => PyData.eqv e d else es.any fun e => PyData.eqv e d)) H
theorem op_inD (hu : X.A.units + 65 < cLine) : OpR X (compareOp .In) (rInD X.K false) := by
  intro pins s σ H x y v u Q I rx ry h
  obtain ⟨d, es, hd, he, sd, se, q⟩ := h
  obtain ⟨as, r1⟩ := Dp.reads I d x v hd rx
  rcases he with he | he
  · obtain ⟨bs, r2⟩ := Dp.reads I _ y u he ry
    exact in_list_reads r2 r1 se (SeqAt.canLay_of_shaped sd) (room_in_shaped sd hu) ⟨.bl _, H, I, rfl, q⟩
  · obtain ⟨bs, r2⟩ := Dp.reads I _ y u he ry
    exact in_tuple_reads r2 r1 se (SeqAt.canLay_of_shaped sd) (room_in_shaped sd hu) ⟨.bl _, H, I, rfl, q⟩
theorem op_notInD (hu : X.A.units + 65 < cLine) : OpR X (compareOp .NotIn) (rInD X.K true) := by
  intro pins s σ H x y v u Q I rx ry h
  obtain ⟨d, es, hd, he, sd, se, q⟩ := h
  obtain ⟨as, r1⟩ := Dp.reads I d x v hd rx
  rcases he with he | he
  · obtain ⟨bs, r2⟩ := Dp.reads I _ y u he ry
    exact notIn_list_reads r2 r1 se (SeqAt.canLay_of_shaped sd) (room_in_shaped sd hu) ⟨.bl _, H, I, rfl, q⟩
  · obtain ⟨bs, r2⟩ := Dp.reads I _ y u he ry
    exact notIn_tuple_reads r2 r1 se (SeqAt.canLay_of_shaped sd) (room_in_shaped sd hu) ⟨.bl _, H, I, rfl, q⟩
/-- isqrt(n), n below 2^64 -/
def rIsqrt : List V → Hp → VK → Prop := fun vs H Q => ∃ n : Int, vs = [.int n] ∧ 0 ≤ n ∧ n < 2 ^ 64 ∧ Q (.int ((Float64.isqrt n.toNat : Nat) : Int)) H
theorem cr_isqrt : CallR X (.builtin "math.isqrt") rIsqrt := by
  intro pins s σ H vs us Q I r h
  obtain ⟨n, rfl, h0, h1, q⟩ := h
  obtain ⟨t, rfl⟩ : ∃ t, us = [Value.int n t] := by
    cases r with
    | cons a b =>
      cases b
      obtain ⟨t, rfl⟩ := a
      exact ⟨t, rfl⟩
  exact PySem.W.mg_isqrt h0 h1 ⟨.int _, H, I.tok _, ⟨_, rfl⟩, q⟩
end
end G
namespace G
open PySem PySem.Spec PyProof.Rows L2 Evl PySem.SeqAt
open PySem.AutoSeq1 (wpAny_loadPart')
theorem tuple_mul1 (l : Addr) (items : Array Value) (n : Nat) (dd : Option Addr) (sl : Array (Option Value)) (u : Tok) :
    Meets (Builtin.«tuple.__mul__» ⟨[.ref l, .int 1 u], []⟩) (fun _ R s => s.heap.get? l = some { cls := .type "tuple", dict := dd, data := .seq items n, slots := sl } ∧ R (.ok (.ret (Value.ref l))) s) :=
  .of_wp fun prog w A R s h => by
    obtain ⟨hp, g, d, tk, os⟩ := s
    obtain ⟨hl, h⟩ := h
    have f1 := AutoSeq1.idx_int
    wp_walk using wpAny_loadPart' hl
    exact ⟨_, rfl, h⟩
/-- xs * k, xs a tuple with items, k from 1 on -/
def rRepX (K : PySem.W.Frag) : R2 := fun x y H Q => ∃ l k xs, x = .ref l ∧ y = .int k ∧ SqT K H l xs ∧ xs ≠ [] ∧ 1 ≤ k ∧ k ≤ 1000 ∧ xs.length ≤ 1000 ∧ (k = 1 → Q (.ref l) H) ∧ (2 ≤ k → ∀ p, H p = none → Q (.ref p) (upd H p (.tup (List.replicate k.toNat xs).flatten)))
theorem op_repX {X : Cx} : OpR X (binaryOp .Mult) (rRepX X.K) := by
  intro pins s σ H x y v u Q I rx ry h
  obtain ⟨l, k, xs, rfl, rfl, hT, hne, h1, h2, hz, q1, q2⟩ := h
  by_cases hk : k = 1
  · subst hk
    cases rx
    obtain ⟨t, rfl⟩ := ry
    obtain ⟨its, r, ⟨⟨cls, dd, data, sl⟩, ho, hc, n, hd⟩, hs⟩ := I.tuple hT
    simp only at hc hd
    subst hc hd
    refine wpAny_binaryOp_repeat_ref (T := "tuple") (U := "int") (by decide) ⟨_, ho, rfl⟩ (fun s' => typeIs_int s' 1 t) noFill_tuple_mul F.fills_int_mul F.slot_int_rmul repeat_tuple F.slot_int_index.lookup
      (call_meets F.slot_int_rmul (typeIs_int s 1 t) F.entry_int_rmul (F.args_int_rmul_2 _ _) (int_rmul_tuple 1 t l its.toArray n dd sl)
        ⟨ho, rfl, ⟨_, ho, rfl⟩, call_meets F.slot_tuple_mul ⟨_, ho, rfl⟩ F.entry_tuple_mul (F.args_tuple_mul_2 _ _) (tuple_mul1 l its.toArray n dd sl t) ⟨ho, ?_⟩⟩)
    exact ⟨.ref l, H, I, rfl, q1 rfl⟩
  · exact op_repT pins s σ H _ _ v u Q I rx ry ⟨l, k, xs, rfl, rfl, hT, hne, by omega, h2, hz, q2 (by omega)⟩
section
variable {X : Cx} {K : PySem.W.Frag}
theorem op_repXK (h : X.K = K := by rfl) : OpR X (binaryOp .Mult) (rRepX K) := h ▸ op_repX
theorem op_inDK (hu : X.A.units + 65 < cLine) (h : X.K = K := by rfl) : OpR X (compareOp .In) (rInD K false) := h ▸ op_inD hu
theorem op_notInDK (hu : X.A.units + 65 < cLine) (h : X.K = K := by rfl) : OpR X (compareOp .NotIn) (rInD K true) := h ▸ op_notInD hu
end
end G
set_option Elab.async false
set_option linter.all false
set_option maxRecDepth 100000
set_option maxHeartbeats 2000000
/-! two-clause comprehensions, x in data, chained comparisons, (x,) * k, isqrt over slots -/
namespace G
open PySem PySem.Spec PyProof.Rows L2 Evl
/-- the items of [.. for x in xs if c x for y in ys x if c1 x y] -/
def lc2L {α β γ : Type} (c : α → Option Bool) (ys : α → Option (List β)) (c1 : α → β → Option Bool) (f : α → β → Option γ) : List α → Option (List γ)
  | [] => some []
  | x :: xs => (c x).bind fun b => (if b then (ys x).bind fun l => if l.length ≤ 1000 then (filO (c1 x) l).bind fun l' => mapO (f x) l' else none else some []).bind fun zs => (lc2L c ys c1 f xs).bind fun r => some (zs ++ r)
@[irreducible] def lc2O {α β γ : Type} (c : α → Option Bool) (ys : α → Option (List β)) (c1 : α → β → Option Bool) (f : α → β → Option γ) (xs : List α) : Option (List γ) := if xs.length ≤ 10000 then lc2L c ys c1 f xs else none
@[irreducible] def repO {α : Type} (xs : List α) (k : Int) : Option (List α) := if xs ≠ [] ∧ 1 ≤ k ∧ k ≤ 1000 ∧ xs.length ≤ 1000 then some (List.replicate k.toNat xs).flatten else none
@[irreducible] def isqrtO (n : Int) : Option Int := if 0 ≤ n ∧ n < 2 ^ 64 then some ((Float64.isqrt n.toNat : Nat) : Int) else none
theorem tot2_flat {n : Nat} {p : Nat → Bool} {out : Nat → List DV} : tot2 p out n = (List.range n).flatMap fun i => if p i then out i else [] := by
  induction n with
  | zero => rfl
  | succ n ih =>
    show tot2 p out n ++ _ = _
    rw [ih, List.range_succ, List.flatMap_append]
    simp
section
variable {K : PySem.W.Frag} {A : Nat → Addr} {δ : Env} {μ μ' μ'' : Sto} {S : List SL} {ta tb tc te : TE} {tt tt1 : TT} {α β γ : Type}
theorem ex_inD {d e : DV} {ds : List DV} (ha : EX K ta δ μ μ' d) (hb : EX K tb δ μ' μ'' e) (sq : Seq e ds) (p1 : d.pl = true) (p2 : e.pl = true) (s1 : SeqAt.shaped d.py = true) (s2 : PyData.canLayAll0 (pys ds) = true) (neg : Bool) :
    EX K (tOp (rInD K neg) ta tb) δ μ μ'' (.bl (if neg then !(pys ds).any fun e => PyData.eqv e d.py else (pys ds).any fun e => PyData.eqv e d.py)) := fun F M σ H s Q q =>
  ha F M σ H s _ fun v H1 e1 z1 r1 => hb F M σ H1 z1 _ fun w H2 e2 z2 r2 => by
    refine ⟨d.py, pys ds, Rp.dp p1 (((r1.mono e2)).mono hid_sub), ?_, s1, s2, q _ H2 (e1.trans e2) z2 (.bl _)⟩
    have z := Rp.dp p2 (r2.mono hid_sub)
    cases sq with
    | lst => exact .inl z
    | tup => exact .inr z
theorem any_mem {α : Type} [DecidableEq α] {e : α → DV} {n : Nat} (pe : PlainE n e) (x : α) : ∀ xs : List α, ((pys (xs.map e)).any fun z => PyData.eqv z (e x).py) = xs.any fun y => decide (y = x)
  | [] => by simp [pys]
  | y :: ys => by
    show (PyData.eqv (e y).py (e x).py || (pys (ys.map e)).any fun z => PyData.eqv z (e x).py) = _
    rw [any_mem pe x ys, pe.eq]
    rfl
def inB {α : Type} [DecidableEq α] (x : α) (xs : List α) : Bool := xs.any fun y => decide (y = x)
theorem inB_iff {α : Type} [DecidableEq α] {x : α} {xs : List α} : inB x xs = true ↔ x ∈ xs := by simp [inB]
theorem ep_inP {α : Type} [DecidableEq α] {e : α → DV} {n : Nat} (pe : PlainE n e) (hn : n ≤ 60) {x : α} {xs : List α} (ha : EXp K ta S (e x)) (hb : SqS K tb S (xs.map e)) : EXp K (tOp (rInD K false) ta tb) S (.bl (inB x xs)) := fun A δ μ r => by
  obtain ⟨d, sq, hb⟩ := hb
  have z := ex_inD (ha A δ μ r) (hb A δ μ r) sq (pe.pl x) (by cases sq <;> exact pls_map pe xs) (pe.sh (by omega) x) (lay_map pe xs).1 false
  rw [any_mem pe] at z
  exact z
theorem ep_notInP {α : Type} [DecidableEq α] {e : α → DV} {n : Nat} (pe : PlainE n e) (hn : n ≤ 60) {x : α} {xs : List α} (ha : EXp K ta S (e x)) (hb : SqS K tb S (xs.map e)) : EXp K (tOp (rInD K true) ta tb) S (.bl (!inB x xs)) := fun A δ μ r => by
  obtain ⟨d, sq, hb⟩ := hb
  have z := ex_inD (ha A δ μ r) (hb A δ μ r) sq (pe.pl x) (by cases sq <;> exact pls_map pe xs) (pe.sh (by omega) x) (lay_map pe xs).1 true
  rw [any_mem pe] at z
  exact z
/-- a < b <= c and its like, of ints -/
theorem ep_chainI {f g : Int → Int → Bool} {a b c : Int} (ha : EXp K ta S (.int a)) (hb : EXp K tb S (.int b)) (hc : EXp K tc S (.int c)) : EXp K (tChain (rI0 fun i j => .bl (f i j)) (rI0 fun i j => .bl (g i j)) ta tb tc) S (.bl (f a b && g b c)) := fun A δ μ r F M σ H s Q q =>
  ha A δ μ r F M σ H s _ fun v H1 e1 s1 r1 => hb A δ μ r F M σ H1 s1 _ fun u H2 e2 s2 r2 => by
    cases r1
    cases r2
    refine ⟨a, b, rfl, rfl, f a b, rfl, ?_⟩
    cases h : f a b with
    | true =>
      rw [if_pos rfl]
      refine hc A δ μ r F M σ H2 s2 _ fun w H3 e3 s3 r3 => ?_
      cases r3
      rw [h] at q
      exact ⟨b, c, rfl, rfl, q _ H3 (e1.trans (e2.trans e3)) s3 (.bl _)⟩
    | false =>
      rw [if_neg Bool.false_ne_true]
      rw [h] at q
      exact q _ H2 (e1.trans e2) s2 (.bl _)
theorem RpAll.rep {H : Hp} {vs : List V} {ds : List DV} (r : RpAll K H vs ds) : ∀ k : Nat, RpAll K H (List.replicate k vs).flatten (List.replicate k ds).flatten
  | 0 => .nil
  | k + 1 => by
    rw [List.replicate_succ, List.replicate_succ, List.flatten_cons, List.flatten_cons]
    exact r.app (RpAll.rep r k)
theorem ep_repT {f : α → DV} {xs ys : List α} {k : Int} (ha : EXp K ta S (.tup (xs.map f))) (hb : EXp K tb S (.int k)) (h : repO xs k = some ys) : EXp K (tOp (rRepX K) ta tb) S (.tup (ys.map f)) := fun A δ μ r F M σ H s Q q => by
  unfold repO at h
  split at h
  · rename_i hc
    cases h
    obtain ⟨h0, h1, h2, h3⟩ := hc
    refine ha A δ μ r F M σ H s _ fun v H1 e1 s1 r1 => hb A δ μ r F M σ H1 s1 _ fun u H2 e2 s2 r2 => ?_
    cases r2
    have r1' := r1.mono e2
    cases r1' with
    | @tup a vs _ g1 g2 =>
      have hl : vs.length = xs.length := by rw [g2.length, List.length_map]
      refine ⟨a, k, vs, rfl, rfl, ex_t hid_sub g1, fun z => h0 (List.eq_nil_of_length_eq_zero (by rw [← hl, z]; rfl)), h1, h2, by omega, fun hk => ?_, fun hk p hp => ?_⟩
      · subst hk
        have e : (List.replicate (1 : Int).toNat xs).flatten = xs := by simp
        rw [e] at q
        exact q _ H2 (e1.trans e2) s2 (.tup g1 g2)
      · have e : ((List.replicate k.toNat xs).flatten.map f) = (List.replicate k.toNat (xs.map f)).flatten := by
          rw [List.map_flatten, List.map_replicate]
        rw [e] at q
        exact q _ _ ((e1.trans e2).trans (new_ex s2 hp)) (s2.mono (Ex.new hp)) (.tup (.inl (.inl (by
          unfold hid
          rw [if_neg (s2.fresh hp), upd_same]))) ((g2.rep k.toNat).mono (new_ex s2 hp)))
  · cases h
theorem ep_isqrt {n m : Int} (ha : EXp K ta S (.int n)) (h : isqrtO n = some m) : EXp K (tCB rIsqrt (tCons ta tNil)) S (.int m) := fun A δ μ r F M σ H s Q q => by
  unfold isqrtO at h
  split at h
  · rename_i hc
    cases h
    refine ha A δ μ r F M σ H s _ fun v H1 e1 s1 r1 => ?_
    cases r1
    exact ⟨n, rfl, hc.1, hc.2, q _ H1 e1 s1 (.int _)⟩
  · cases h
theorem lc2L_some {c : α → Option Bool} {ys : α → Option (List β)} {c1 : α → β → Option Bool} {f : α → β → Option γ} {e : γ → DV} : ∀ {xs : List α} {zs : List γ}, lc2L c ys c1 f xs = some zs →
    (∀ x ∈ xs, ∃ b, c x = some b ∧ (b = true → ∃ l, ys x = some l ∧ l.length ≤ 1000 ∧ (∀ y ∈ l, ∃ b1, c1 x y = some b1 ∧ (b1 = true → ∃ z, f x y = some z)))) ∧
      zs.map e = xs.flatMap fun x => if (c x).getD false then ((((ys x).getD []).filter fun y => (c1 x y).getD false).map fun y => match f x y with | some z => e z | none => DV.non) else []
  | [], zs, h => by cases h; exact ⟨fun x h => (by cases h), rfl⟩
  | x :: xs, zs, h => by
    obtain ⟨b, hb, h⟩ := bdO h
    obtain ⟨us, hu, h⟩ := bdO h
    obtain ⟨rs, hr, h⟩ := bdO h
    cases h
    obtain ⟨h1, h2⟩ := lc2L_some (e := e) hr
    cases b with
    | false =>
      cases hu
      refine ⟨fun y hy => (List.mem_cons.mp hy).elim (fun q => ⟨false, by rw [q]; exact hb, fun z => by cases z⟩) (h1 y), ?_⟩
      rw [List.flatMap_cons, ← h2, hb]
      rfl
    | true =>
      obtain ⟨l, hl, hu⟩ := bdO hu
      by_cases hll : l.length ≤ 1000
      · rw [if_pos hll] at hu
        obtain ⟨l', hl', hu⟩ := bdO hu
        obtain ⟨a1, a2⟩ := filO_some hl'
        obtain ⟨a3, a4⟩ := mapO_some hu
        refine ⟨fun y hy => (List.mem_cons.mp hy).elim (fun q => ⟨true, by rw [q]; exact hb, fun _ => ⟨l, by rw [q]; exact hl, hll, fun z hz => ?_⟩⟩) (h1 y), ?_⟩
        · obtain ⟨b1, hb1⟩ := a1 z hz
          refine ⟨b1, by rw [q]; exact hb1, fun hbt => ?_⟩
          rw [q]
          exact a3 z (by rw [a2]; exact List.mem_filter.mpr ⟨hz, by rw [hb1, hbt]; rfl⟩)
        · rw [List.flatMap_cons, List.map_append, h2, hb, hl, a4 e, a2]
          rfl
      · rw [if_neg hll] at hu
        cases hu
theorem flatMap_cg {α β : Type} {f g : α → List β} : ∀ {xs : List α}, (∀ x ∈ xs, f x = g x) → xs.flatMap f = xs.flatMap g
  | [], _ => rfl
  | x :: xs, h => by
    rw [List.flatMap_cons, List.flatMap_cons, h x (by simp), flatMap_cg fun y hy => h y (by simp [hy])]
theorem flatMap_rng {g : α → List DV} : ∀ {xs : List α}, (List.range xs.length).flatMap (fun i => match xs[i]? with | some x => g x | none => []) = xs.flatMap g
  | [] => rfl
  | x :: xs => by
    rw [List.length_cons, List.range_succ_eq_map, List.flatMap_cons, List.flatMap_map, List.flatMap_cons]
    exact congrArg (g x ++ ·) (flatMap_rng (xs := xs))
theorem lp_lc2M {wi wi1 : TI} {g g1 : TG} {vs vs1 : List Nat} {xs : List α} {bs : List (Nat × (α → DV))} {bs1 : List (Nat × (β → DV))} {c : α → Option Bool} {ys : α → Option (List β)} {c1 : α → β → Option Bool} {f : α → β → Option γ} {zs : List γ} {e : γ → DV} (S' : α → List SL) (S1 : α → β → List SL)
    (w : WXl K wi g S xs bs) (h : lc2O c ys c1 f xs = some zs)
    (ht : ∀ x b, c x = some b → TXp K tt (S' x) b) (w1 : ∀ x l, ys x = some l → WXl K wi1 g1 (S' x) l bs1) (ht1 : ∀ x y b, c1 x y = some b → TXp K tt1 (S1 x y) b) (he : ∀ x y z, f x y = some z → EXp K te (S1 x y) (e z))
    (hS : ∀ x, bS bs x (wipeS S vs) = S' x := by intro _; rfl) (hS1 : ∀ x y, bS bs1 y (wipeS (S' x) vs1) = S1 x y := by intro _ _; rfl) (hj : ∀ k ∈ bs.map Prod.fst, k ∈ vs := by decide) (hj1 : ∀ k ∈ bs1.map Prod.fst, k ∈ vs1 := by decide) : LXp K (tLc2 wi g tt wi1 g1 tt1 te vs vs1) S (zs.map e) := fun A δ μ r => by
  unfold lc2O at h
  split at h
  · rename_i hn
    obtain ⟨h1, h2⟩ := lc2L_some (e := e) h
    rw [h2]
    let L : Nat → List β := fun i => match xs[i]? with | some x => (ys x).getD [] | none => []
    have z := lx_lc2 (tt := tt) (tt1 := tt1) (te := te) (wi1 := wi1) (g1 := g1) (vs := vs) (vs1 := vs1) (js1 := bs1.map Prod.fst) (fun i => (L i).length) (fun i => G.bnd (L i) bs1) (fun i => match xs[i]? with | some x => (c x).getD false | none => false)
      (fun i j => match xs[i]?, (L i)[j]? with | some x, some y => (c1 x y).getD false | _, _ => false) (fun i j => match xs[i]?, (L i)[j]? with | some x, some y => (match f x y with | some z => e z | none => DV.non) | _, _ => DV.non) (w A δ μ r) hn (fun i hi hp => ?_) hj hj1 (fun i hi => ?_) (fun i hi hp => ?_) (fun i j hi hp hj => ?_) (fun i j hi hp hj hp1 => ?_)
    · rw [tot2_flat] at z
      have ee : ((List.range xs.length).flatMap fun i => if (match xs[i]? with | some x => (c x).getD false | none => false) then ((List.range (L i).length).filter (fun j => match xs[i]?, (L i)[j]? with | some x, some y => (c1 x y).getD false | _, _ => false)).map (fun j => match xs[i]?, (L i)[j]? with | some x, some y => (match f x y with | some z => e z | none => DV.non) | _, _ => DV.non) else []) = xs.flatMap fun x => if (c x).getD false then ((((ys x).getD []).filter fun y => (c1 x y).getD false).map fun y => match f x y with | some z => e z | none => DV.non) else [] := by
        rw [← flatMap_rng (xs := xs)]
        refine flatMap_cg fun i hi => ?_
        have hi' := List.mem_range.mp hi
        have ei := List.getElem?_eq_getElem hi'
        have eL : L i = (ys xs[i]).getD [] := by
          show (match xs[i]? with | some x => (ys x).getD [] | none => []) = _
          rw [ei]
        simp only [ei]
        rw [eL]
        cases hc : (c xs[i]).getD false with
        | false => rfl
        | true =>
          simp only [if_true]
          have tf := take_filter (c := fun y => (c1 xs[i] y).getD false) (f := fun y => match f xs[i] y with | some z => e z | none => DV.non) (xs := (ys xs[i]).getD []) ((ys xs[i]).getD []).length (Nat.le_refl _)
          rw [List.take_length] at tf
          refine Eq.trans ?_ tf
          generalize (ys xs[i]).getD [] = l
          have q1 : (fun j : Nat => match some xs[i], l[j]? with | some x, some y => (match f x y with | some z => e z | none => DV.non) | _, _ => DV.non) = fun j : Nat => match l[j]? with | some y => (match f xs[i] y with | some z => e z | none => DV.non) | none => DV.non := funext fun j => by cases l[j]? <;> rfl
          have q2 : (fun j : Nat => match some xs[i], l[j]? with | some x, some y => (c1 x y).getD false | _, _ => false) = fun j : Nat => match l[j]? with | some y => (c1 xs[i] y).getD false | none => false := funext fun j => by cases l[j]? <;> rfl
          have two : ∀ {p p' : Nat → DV} {q q' : Nat → Bool}, p = p' → q = q' → List.map p (List.filter q (List.range l.length)) = List.map p' (List.filter q' (List.range l.length)) := fun e1 e2 => by rw [e1, e2]
          exact two q1 q2
      rw [ee] at z
      exact z
    · have ei := List.getElem?_eq_getElem hi
      obtain ⟨b, hb, hb2⟩ := h1 xs[i] (List.getElem_mem hi)
      simp only [ei, hb] at hp
      obtain ⟨l, hl, hll, _⟩ := hb2 hp
      show (L i).length ≤ _
      show (match xs[i]? with | some x => (ys x).getD [] | none => []).length ≤ 1000
      rw [ei]
      simp only [hl]
      exact hll
    · have ei := List.getElem?_eq_getElem hi
      obtain ⟨b, hb, _⟩ := h1 xs[i] (List.getElem_mem hi)
      simp only [ei, hb]
      have q := ht xs[i] b hb
      rw [← hS] at q
      exact q A _ μ ((r.wipe vs).bnd ei)
    · have ei := List.getElem?_eq_getElem hi
      obtain ⟨b, hb, hb2⟩ := h1 xs[i] (List.getElem_mem hi)
      simp only [ei, hb] at hp
      obtain ⟨l, hl, _⟩ := hb2 hp
      have eL : L i = l := by
        show (match xs[i]? with | some x => (ys x).getD [] | none => []) = _
        rw [ei]
        simp only [hl]
        rfl
      rw [eL]
      have q := w1 xs[i] l hl
      rw [← hS] at q
      exact q A _ μ ((r.wipe vs).bnd ei)
    · have ei := List.getElem?_eq_getElem hi
      obtain ⟨b, hb, hb2⟩ := h1 xs[i] (List.getElem_mem hi)
      simp only [ei, hb] at hp
      obtain ⟨l, hl, _, hy⟩ := hb2 hp
      have eL : L i = l := by
        show (match xs[i]? with | some x => (ys x).getD [] | none => []) = _
        rw [ei]
        simp only [hl]
        rfl
      have hj' : j < l.length := by rw [← eL]; exact hj
      have ej := List.getElem?_eq_getElem hj'
      obtain ⟨b1, hb1, _⟩ := hy l[j] (List.getElem_mem hj')
      have ejL : (L i)[j]? = some l[j] := by rw [eL]; exact ej
      simp only [ei, ejL, hb1]
      have q := ht1 xs[i] l[j] b1 hb1
      rw [← hS1, ← hS] at q
      exact q A _ μ ((((r.wipe vs).bnd ei).wipe vs1).bnd ejL)
    · have ei := List.getElem?_eq_getElem hi
      obtain ⟨b, hb, hb2⟩ := h1 xs[i] (List.getElem_mem hi)
      simp only [ei, hb] at hp
      obtain ⟨l, hl, _, hy⟩ := hb2 hp
      have eL : L i = l := by
        show (match xs[i]? with | some x => (ys x).getD [] | none => []) = _
        rw [ei]
        simp only [hl]
        rfl
      have hj' : j < l.length := by rw [← eL]; exact hj
      have ej := List.getElem?_eq_getElem hj'
      obtain ⟨b1, hb1, hz⟩ := hy l[j] (List.getElem_mem hj')
      have ejL : (L i)[j]? = some l[j] := by rw [eL]; exact ej
      simp only [ei, ejL, hb1] at hp1
      obtain ⟨z, hz⟩ := hz hp1
      simp only [ei, ejL, hz]
      have q := he xs[i] l[j] z hz
      rw [← hS1, ← hS] at q
      exact q A _ μ ((((r.wipe vs).bnd ei).wipe vs1).bnd ejL)
  · cases h
end
end G
namespace G
open L2
theorem room65 {k : Nat} {A : PySem.Around} (r : Room k A) : A.units + 65 < PySem.cLine := by have := r.un; omega
end G
set_option Elab.async false
set_option linter.all false
set_option maxRecDepth 100000
set_option maxHeartbeats 2000000
/-! any of a tuple of ints; xs.extend(a new list) -/
namespace G
open PySem PySem.Spec PyProof.Rows L2 Evl
theorem iter_tup {prog : Program} {w : World} {A : Around} {E : Value → Shared → Prop} {s : Shared} {l : Addr} {items : Array Value} {Q : Value → Shared → Prop} (hl : s.heap.IsTuple l items)
    (h : ∀ s₂ : Shared, s₂ = { s with heap := s.heap.push { cls := .type "tuple_iterator", data := .fields #[.ref l, .int 0 0] } } →
      (s₂.heap.IsTupleIter s.heap.objs.size l 0 ∧ s₂.heap.IsTuple l items) → l ≠ s.heap.objs.size → Q (.ref s.heap.objs.size) s₂) : wpAny (model prog w) A (pyIter (.ref l)) Q E s := by
  have hlt : l < s.heap.objs.size := by obtain ⟨_, e, _⟩ := hl; exact Heap.lt_size e
  refine wpAny_pyIter_tuple hl (h _ rfl ⟨⟨_, Heap.get?_push_size _ rfl, rfl, rfl⟩, ?_⟩ (Nat.ne_of_lt hlt))
  obtain ⟨o, ho, hc, n, hd⟩ := hl
  exact ⟨o, Heap.get?_push_of_some _ ho, hc, n, hd⟩
theorem truth_ints {prog : Program} {w : World} {A : Around} {ns : List Int} {its : List Value} (r : Vals (ns.map V.int) its) :
    TruthOf prog w A (fun i v => its.toArray[i]? = some v) (fun i => ns.getD i 0 != 0) := fun i v s Q E hv hq => by
  have hv' : its[i]? = some v := by simpa using hv
  have hi : i < its.length := (List.getElem?_eq_some_iff.mp hv').1
  have hl : (ns.map V.int).length = its.length := r.length
  rw [List.length_map] at hl
  have hn : (ns.map V.int)[i]? = some (V.int (ns.getD i 0)) := by
    rw [List.getElem?_map, List.getD_eq_getElem?_getD, List.getElem?_eq_getElem (by omega)]
    rfl
  obtain ⟨u, hu, ru⟩ := r.get hn
  rw [hv'] at hu
  cases hu
  obtain ⟨t, rfl⟩ := ru
  exact PyProof.Rows.truthy_int hq
theorem any_rangeI (ns : List Int) : (List.range ns.length).any (fun i => ns.getD i 0 != 0) = ns.any fun x => decide (x ≠ 0) := by
  induction ns with
  | nil => rfl
  | cons n ns ih =>
    rw [List.length_cons, List.range_succ_eq_map, List.any_cons, List.any_map, List.any_cons, ← ih]
    have : ((n :: ns).getD 0 0 != 0) = decide (n ≠ 0) := by
      show (n != 0) = _
      by_cases h : n = 0
      · subst h; rfl
      · simp [h]
    rw [this]
    rfl
section
variable {X : Cx} {K : PySem.W.Frag}
def rAnyI (K : PySem.W.Frag) : List V → Hp → VK → Prop := fun vs H Q => ∃ (a : Addr) (ns : List Int), vs = [V.ref a] ∧ SqT K H a (ns.map V.int) ∧ Q (.bl (ns.any fun x => decide (x ≠ 0))) H
theorem cr_anyI (hc : X.calm = true) : CallR X (.builtin "any") (rAnyI X.K) := by
  intro pins s σ H vs us Q I r h
  obtain ⟨a, ns, rfl, hs, q⟩ := h
  obtain ⟨its, rv, hl, _⟩ := I.tuple hs
  rw [Vals.ref1 r]
  refine call_any_walk (iter_tup hl fun s₂ e2 st hne => ?_)
  subst e2
  refine ⟨_, _, _, _, _, _, _, rfl, Walks.tuple (A := X.A.in1) (I.ok.hd hc) _ a hne its.toArray, st, truth_ints rv, fun h' tk hk => ?_⟩
  refine ⟨.bl _, H, I.kept fun b o eo => hk b o (fun hmem => ?_) (Heap.get?_push_of_some _ eo), ?_, q⟩
  · rcases List.mem_cons.mp hmem with e1 | hmem
    · exact absurd (e1 ▸ Heap.lt_size eo) (Nat.lt_irrefl _)
    · cases hmem
  · show Value.bool _ = Value.bool _
    have hl2 : its.toArray.size = ns.length := by
      have := rv.length
      rw [List.length_map] at this
      rw [List.size_toArray, this]
    rw [← any_rangeI, hl2]
theorem cr_anyIK (hc : X.calm = true := by rfl) (h : X.K = K := by rfl) : CallR X (.builtin "any") (rAnyI K) := h ▸ cr_anyI hc
end
section
variable {K : PySem.W.Frag} {F H : Hp} {M : List Addr} {δ : Env} {μ μ' : Sto} {σ : L2.St} {ta te : TE} {es ds : List DV} {j : Nat} {D : L2.Ends}
theorem x_ext {l : Addr} (s : Sta K F M δ μ σ H) (ha : EX K ta δ μ μ (.box l)) (h : LX K te δ μ μ' ds) (h0 : μ[j]? = some (l, es)) (hj : μ'[j]? = some (l, es)) (hz : es.length + ds.length ≤ 100000) (k : ∀ H', Sta K F M δ (μ'.set j (l, es ++ ds)) σ H' → D.nx σ H') :
    tDrop (tBM K "list" rExtend ta (tCons te tNil)) D σ H :=
  ha F M σ H s _ fun v H1 e1 s1 r1 => by
    cases r1
    obtain ⟨xs, g1, _⟩ := s1.sto _ (List.mem_of_getElem? h0)
    refine ⟨.inl ⟨rfl, xs, sq_of g1⟩, h F M σ H1 s1 _ fun p H2 hp hpM e2 s2 => ?_⟩
    have hj2 : ((p, ds) :: μ')[j + 1]? = some (l, es) := by simpa using hj
    obtain ⟨ys, k1, k2⟩ := s2.sto _ (List.mem_of_getElem? hj2)
    obtain ⟨ws, w1, w2⟩ := s2.sto (p, ds) (by simp)
    have z := (s2.poke hj2 (k2.app w2)).1
    have z' : Sta K F (p :: M) δ ((p, ds) :: μ'.set j (l, es ++ ds)) σ (upd H2 l (.lst (ys ++ ws))) := by simpa using z
    have l1 := k2.length
    have l2 := w2.length
    simp only at l1 l2
    exact ⟨l, p, ys, ws, rfl, rfl, k1, w1, by rw [sizeLine_eq]; omega, k _ (z'.still hpM).1⟩
end
section
variable {K : PySem.W.Frag} {E : XK} {S : List SL} {P : Post} {te ta : TE} {i : Nat} {α : Type}
theorem w_ext {f : α → DV} {xs ys zs : List α} (hi : S[i]? = some (.own (xs.map f))) (ha : LXp K te S (ys.map f)) (h : catO xs ys = some zs) (S' : List SL) (k : P.nx S') (hS : S.set i (.own (zs.map f)) = S' := by rfl) :
    W K E (tDrop (tBM K "list" rExtend (tVar i) (tCons te tNil))) S P := fun F M0 Z q σ H D fr st ok => by
  subst hS
  unfold catO at h
  split at h
  · rename_i hz
    cases h
    obtain ⟨M, δ, μ, A, c⟩ := st
    obtain ⟨g1, g2⟩ := c.r.own i _ hi
    obtain ⟨n, hn⟩ := List.getElem?_of_mem g2
    refine x_ext c.s (ex_var g1) (ha A δ μ c.r) hn hn (by simpa using hz) fun H' s' => ok.nx _ σ H' k ⟨M, δ, μ.set n (A i, xs.map f ++ ys.map f), A, ?_⟩
    rw [List.map_append]
    exact c.setown hn hi s'
  · cases h
theorem ep_anyI {ns : List Int} (ha : EXp K ta S (.tup (ns.map .int))) : EXp K (tCB (rAnyI K) (tCons ta tNil)) S (.bl (ns.any fun x => decide (x ≠ 0))) := fun A δ μ r F M σ H s Q q =>
  ha A δ μ r F M σ H s _ fun v H1 e1 s1 r1 => by
    cases r1 with
    | tup h1 h2 =>
      cases h2.ints
      exact ⟨_, ns, rfl, ex_t hid_sub h1, q _ H1 e1 s1 (.bl _)⟩
/-! ### data of any kind -/
/-- isinstance(d, T), T a built-in type -/
def isDO (d : DV) (T : String) : Option Bool := match d with
  | .non => kitB "NoneType" T
  | .bl _ => kitB "bool" T
  | .int _ => kitB "int" T
  | .str _ => kitB "str" T
  | .lst _ => kitB "list" T
  | .tup _ => kitB "tuple" T
  | .ins _ _ => none
  | .box _ => none
theorem ep_isD {d : DV} {T : String} {b : Bool} (ha : EXp K ta S d) (h : isDO d T = some b) : EXp K (tCB (rIsi K) (tCons ta (tCons (tC (.ty T)) tNil))) S (.bl b) := by
  cases d with
  | non => exact ep_isiB ha .non h
  | bl x => exact ep_isiB ha .bl h
  | int x => exact ep_isiB ha .int h
  | str x => exact ep_isiB ha .str h
  | lst x => exact ep_isiB ha .lst h
  | tup x => exact ep_isiB ha .tup h
  | ins _ _ => cases h
  | box _ => cases h
/-- a list's or a tuple's items -/
def itemsD : DV → Option (List DV)
  | .lst ds => some ds
  | .tup ds => some ds
  | _ => none
theorem seqD {d : DV} {ds : List DV} (h : itemsD d = some ds) : Seq d ds := by
  cases d <;> cases h
  · exact .lst _
  · exact .tup _
theorem sq_D {d : DV} {ds : List DV} (ha : EXp K ta S d) (h : itemsD d = some ds) : SqS K ta S (ds.map eD) := ⟨d, by rw [List.map_id']; exact seqD h, ha⟩
theorem ip_D {d : DV} {ds : List DV} (ha : EXp K ta S d) (h : itemsD d = some ds) : ItS K ta S (ds.map eD) := fun A δ μ r => ⟨d, ha A δ μ r, by
  rw [List.map_id']
  cases d <;> cases h
  · exact .lst _
  · exact .tup _⟩
def asI : DV → Option Int
  | .int i => some i
  | _ => none
theorem ep_asI {d : DV} {i : Int} (ha : EXp K ta S d) (h : asI d = some i) : EXp K ta S (.int i) := by
  cases d <;> cases h
  exact ha
def asIs : List DV → Option (List Int)
  | [] => some []
  | .int i :: ds => (asIs ds).bind fun is => some (i :: is)
  | _ :: _ => none
theorem asIs_eq : ∀ {ds : List DV} {is : List Int}, asIs ds = some is → ds = is.map .int
  | [], is, h => by cases h; rfl
  | d :: ds, is, h => by
    cases d with
    | int i =>
      obtain ⟨js, h1, h2⟩ := bdO h
      cases h2
      rw [asIs_eq h1]
      rfl
    | _ => cases h
def asTI : DV → Option (List Int)
  | .tup ds => asIs ds
  | _ => none
theorem ep_asTI {d : DV} {is : List Int} (ha : EXp K ta S d) (h : asTI d = some is) : EXp K ta S (.tup (is.map .int)) := by
  cases d with
  | tup ds =>
    rw [← asIs_eq h]
    exact ha
  | _ => cases h
end
/-! ### bodies of try with more than one statement -/
section
variable {K : PySem.W.Frag} {c : ClX} {S : List SL} {u1 u2 : L2.WX → TS} {rr : Rz Unit} {x : Xn} {tt : TT} {b : Bool}
theorem rs_seq (h1 : RXs K c u1 S (.ok ())) (h2 : RXs K c u2 S rr) : RXs K c (fun W => tSeq (u1 W) (u2 W)) S rr := fun A δ μ s F M σ H st W D ko kx =>
  h1 A δ μ s F M σ H st W { D with nx := fun σ' H' => u2 W D σ' H' } (fun _ H' s' => h2 A δ μ s F M σ H' s' W D ko kx) fun x d H' e => by cases e
theorem rs_seqE (h1 : RXs K c u1 S (.er x)) : RXs K c (fun W => tSeq (u1 W) (u2 W)) S (.er x) := fun A δ μ s F M σ H st W D ko kx =>
  h1 A δ μ s F M σ H st W { D with nx := fun σ' H' => u2 W D σ' H' } (fun e => by cases e) kx
theorem rs_next : RXs K c (fun _ => tNext) S (.ok ()) := fun A δ μ s F M σ H st W D ko kx => ko rfl H st
end
end G
set_option Elab.async false
set_option linter.all false
set_option maxRecDepth 100000
set_option maxHeartbeats 4000000
namespace G09
open PySem PySem.Spec PyProof.Rows L2 Evl G
def topS (i : Nat) : Stmt := PySem.Challenge.pw_gridroads_k09_products_and_norms.main.body.getD i (.Pass ⟨0, 0, 0, 0⟩)
def inClass (s : Stmt) (j : Nat) : Stmt := match s with
  | .ClassDef (body := b) .. => b.getD j (.Pass ⟨0, 0, 0, 0⟩)
  | _ => .Pass ⟨0, 0, 0, 0⟩
abbrev s_content : Stmt := topS 12
abbrev s_is_integer : Stmt := topS 11
abbrev s_dot : Stmt := topS 14
abbrev s_square_rows : Stmt := topS 23
abbrev s_check_symmetric : Stmt := topS 24
abbrev s_Lattice_init : Stmt := inClass (topS 25) 0
abbrev s_Grid_times : Stmt := inClass (topS 18) 10
abbrev s_Grid_eq : Stmt := inClass (topS 18) 3
abbrev s_Lattice_eq : Stmt := inClass (topS 25) 1
abbrev s_Lattice_contains : Stmt := inClass (topS 25) 3
abbrev s_Lattice_rank : Stmt := inClass (topS 25) 5
abbrev s_Lattice_determinant : Stmt := inClass (topS 25) 6
abbrev s_Lattice_content : Stmt := inClass (topS 25) 7
abbrev s_Lattice_is_even : Stmt := inClass (topS 25) 8
abbrev s_Lattice_product : Stmt := inClass (topS 25) 9
abbrev s_Lattice_norm : Stmt := inClass (topS 25) 10
abbrev s_law_state : Stmt := topS 27
abbrev s_law_take : Stmt := topS 28
abbrev s_law_gram : Stmt := topS 29
abbrev s_law_product : Stmt := topS 30
abbrev s_law_minor : Stmt := topS 31
abbrev s_law_vector : Stmt := topS 34
abbrev s_law_determinant : Stmt := topS 32
abbrev s_law_gcd : Stmt := topS 33
abbrev s_law_malformed : Stmt := topS 35
abbrev s_law : Stmt := topS 36
theorem sc_content : FnScope ["numbers", "out", "n"] ["numbers"] (defScope s_content) := ⟨rfl, rfl, rfl, by decide +kernel, rfl, by decide +kernel, by decide +kernel⟩
theorem sc_is_integer : FnScope ["value"] ["value"] (defScope s_is_integer) := ⟨rfl, rfl, rfl, by decide +kernel, rfl, by decide +kernel, by decide +kernel⟩
theorem sc_dot : FnScope ["a", "b", "x", "y"] ["a", "b"] (defScope s_dot) := ⟨rfl, rfl, rfl, by decide +kernel, rfl, by decide +kernel, by decide +kernel⟩
theorem sc_square_rows : FnScope ["gram", "rows", "row", "item"] ["gram"] (defScope s_square_rows) := ⟨rfl, rfl, rfl, by decide +kernel, rfl, by decide +kernel, by decide +kernel⟩
theorem sc_check_symmetric : FnScope ["rows", "i", "j"] ["rows"] (defScope s_check_symmetric) := ⟨rfl, rfl, rfl, by decide +kernel, rfl, by decide +kernel, by decide +kernel⟩
theorem sc_Lattice_init : FnScope ["self", "gram", "rows", "row", "item", "k"] ["self", "gram"] (defScope s_Lattice_init) := ⟨rfl, rfl, rfl, by decide +kernel, rfl, by decide +kernel, by decide +kernel⟩
theorem sc_Grid_times : FnScope ["self", "row", "line"] ["self", "row"] (defScope s_Grid_times) := ⟨rfl, rfl, rfl, by decide +kernel, rfl, by decide +kernel, by decide +kernel⟩
theorem sc_Grid_eq : FnScope ["self", "other"] ["self", "other"] (defScope s_Grid_eq) := ⟨rfl, rfl, rfl, by decide +kernel, rfl, by decide +kernel, by decide +kernel⟩
theorem sc_Lattice_eq : FnScope ["self", "other"] ["self", "other"] (defScope s_Lattice_eq) := ⟨rfl, rfl, rfl, by decide +kernel, rfl, by decide +kernel, by decide +kernel⟩
theorem sc_Lattice_contains : FnScope ["self", "v", "item"] ["self", "v"] (defScope s_Lattice_contains) := ⟨rfl, rfl, rfl, by decide +kernel, rfl, by decide +kernel, by decide +kernel⟩
theorem sc_Lattice_rank : FnScope ["self"] ["self"] (defScope s_Lattice_rank) := ⟨rfl, rfl, rfl, by decide +kernel, rfl, by decide +kernel, by decide +kernel⟩
theorem sc_Lattice_determinant : FnScope ["self"] ["self"] (defScope s_Lattice_determinant) := ⟨rfl, rfl, rfl, by decide +kernel, rfl, by decide +kernel, by decide +kernel⟩
theorem sc_Lattice_content : FnScope ["self", "items", "row"] ["self"] (defScope s_Lattice_content) := ⟨rfl, rfl, rfl, by decide +kernel, rfl, by decide +kernel, by decide +kernel⟩
theorem sc_Lattice_is_even : FnScope ["self", "k"] ["self"] (defScope s_Lattice_is_even) := ⟨rfl, rfl, rfl, by decide +kernel, rfl, by decide +kernel, by decide +kernel⟩
theorem sc_Lattice_product : FnScope ["self", "v", "w"] ["self", "v", "w"] (defScope s_Lattice_product) := ⟨rfl, rfl, rfl, by decide +kernel, rfl, by decide +kernel, by decide +kernel⟩
theorem sc_Lattice_norm : FnScope ["self", "v"] ["self", "v"] (defScope s_Lattice_norm) := ⟨rfl, rfl, rfl, by decide +kernel, rfl, by decide +kernel, by decide +kernel⟩
theorem sc_law_state : FnScope ["_law_script", "_law_seed", "_law_total", "_law_cell"] ["_law_script"] (defScope s_law_state) := ⟨rfl, rfl, rfl, by decide +kernel, rfl, by decide +kernel, by decide +kernel⟩
theorem sc_law_take : FnScope ["_law_state_here", "_law_m", "_law_value"] ["_law_state_here", "_law_m"] (defScope s_law_take) := ⟨rfl, rfl, rfl, by decide +kernel, rfl, by decide +kernel, by decide +kernel⟩
theorem sc_law_gram : FnScope ["_law_state_here", "_law_most", "_law_size", "_law_rows", "_law_i", "_law_j", "_law_x"] ["_law_state_here", "_law_most"] (defScope s_law_gram) := ⟨rfl, rfl, rfl, by decide +kernel, rfl, by decide +kernel, by decide +kernel⟩
theorem sc_law_product : FnScope ["_law_gram_here", "_law_v", "_law_w", "_law_total", "_law_i", "_law_j"] ["_law_gram_here", "_law_v", "_law_w"] (defScope s_law_product) := ⟨rfl, rfl, rfl, by decide +kernel, rfl, by decide +kernel, by decide +kernel⟩
theorem sc_law_minor : FnScope ["_law_rows", "_law_i", "_law_j", "_law_row"] ["_law_rows", "_law_i", "_law_j"] (defScope s_law_minor) := ⟨rfl, rfl, rfl, by decide +kernel, rfl, by decide +kernel, by decide +kernel⟩
theorem sc_law_vector : FnScope ["_law_state_here", "_law_size", "_law_most", "_law_k"] ["_law_state_here", "_law_size", "_law_most"] (defScope s_law_vector) := ⟨rfl, rfl, rfl, by decide +kernel, rfl, by decide +kernel, by decide +kernel⟩
theorem sc_law_determinant : FnScope ["_law_rows", "_law_total", "_law_j", "_law_part"] ["_law_rows"] (defScope s_law_determinant) := ⟨rfl, rfl, rfl, by decide +kernel, rfl, by decide +kernel, by decide +kernel⟩
theorem sc_law_gcd : FnScope ["_law_a", "_law_b"] ["_law_a", "_law_b"] (defScope s_law_gcd) := ⟨rfl, rfl, rfl, by decide +kernel, rfl, by decide +kernel, by decide +kernel⟩
theorem sc_law_malformed : FnScope ["_law_lattice", "_law_value", "_law_v", "_law_count", "_law_turn"] ["_law_lattice", "_law_value", "_law_v"] (defScope s_law_malformed) := ⟨rfl, rfl, rfl, by decide +kernel, rfl, by decide +kernel, by decide +kernel⟩
theorem sc_law : FnScope ["_law_script", "_law_state_here", "_law_gram_here", "_law_lattice", "_law_size", "_law_v", "_law_w", "_law_norm", "_law_content", "_law_row", "_law_item", "_law_even", "_law_k", "_law_bad", "_law_other"] ["_law_script"] (defScope s_law) := ⟨rfl, rfl, rfl, by decide +kernel, rfl, by decide +kernel, by decide +kernel⟩
structure Txt (P : Program) (K : PySem.W.Frag) (mg : Str → Option Value) (base : Heap) (C_Grid : Addr) (C_Lattice : Addr) : Prop where
  u_len : mg "len" = none
  u_isinstance : mg "isinstance" = none
  u_int : mg "int" = none
  u_bool : mg "bool" = none
  u_str : mg "str" = none
  u_list : mg "list" = none
  u_tuple : mg "tuple" = none
  u_range : mg "range" = none
  u_zip : mg "zip" = none
  u_enumerate : mg "enumerate" = none
  u_sum : mg "sum" = none
  u_abs : mg "abs" = none
  u_min : mg "min" = none
  u_max : mg "max" = none
  u_all : mg "all" = none
  u_any : mg "any" = none
  u_divmod : mg "divmod" = none
  u_sorted : mg "sorted" = none
  sr : base.NoSeer
  tr : P.given.tree = none
  gGrid : ClsG K C_Grid
  m_Grid : mg "Grid" = some (.ref C_Grid)
  cl_Grid : Cls K C_Grid
  n_Grid_rows : NoAttr K C_Grid "rows"
  n_Grid_width : NoAttr K C_Grid "width"
  l_not_Grid : PySem.W.kitOne K (.type "list") (.ref C_Grid) = some false
  t_not_Grid : PySem.W.kitOne K (.type "tuple") (.ref C_Grid) = some false
  s_not_Grid : PySem.W.kitOne K (.type "str") (.ref C_Grid) = some false
  i_not_Grid : PySem.W.kitOne K (.type "int") (.ref C_Grid) = some false
  n_not_Grid : PySem.W.kitOne K (.type "NoneType") (.ref C_Grid) = some false
  not_Grid_Lattice : PySem.W.kitOne K (.ref C_Grid) (.ref C_Lattice) = some false
  tl_Grid : PySem.W.kitAny K (.ref C_Grid) [.type "tuple", .type "list"] = some false
  snf_Grid : PySem.W.notFirst K C_Grid (.type "str") = true
  nfn_Grid : PySem.W.notFirst K C_Grid (.type "NoneType") = true
  nff_Grid_Lattice : PySem.W.notFirst K C_Grid (.ref C_Lattice) = true
  nty_Grid_list : PySem.W.kitOne K (.ref C_Grid) (.type "list") = some false
  nty_Grid_tuple : PySem.W.kitOne K (.ref C_Grid) (.type "tuple") = some false
  gLattice : ClsG K C_Lattice
  m_Lattice : mg "Lattice" = some (.ref C_Lattice)
  cl_Lattice : Cls K C_Lattice
  n_Lattice_gram : NoAttr K C_Lattice "gram"
  l_not_Lattice : PySem.W.kitOne K (.type "list") (.ref C_Lattice) = some false
  t_not_Lattice : PySem.W.kitOne K (.type "tuple") (.ref C_Lattice) = some false
  s_not_Lattice : PySem.W.kitOne K (.type "str") (.ref C_Lattice) = some false
  i_not_Lattice : PySem.W.kitOne K (.type "int") (.ref C_Lattice) = some false
  n_not_Lattice : PySem.W.kitOne K (.type "NoneType") (.ref C_Lattice) = some false
  not_Lattice_Grid : PySem.W.kitOne K (.ref C_Lattice) (.ref C_Grid) = some false
  tl_Lattice : PySem.W.kitAny K (.ref C_Lattice) [.type "tuple", .type "list"] = some false
  snf_Lattice : PySem.W.notFirst K C_Lattice (.type "str") = true
  nfn_Lattice : PySem.W.notFirst K C_Lattice (.type "NoneType") = true
  nff_Lattice_Grid : PySem.W.notFirst K C_Lattice (.ref C_Grid) = true
  nty_Lattice_list : PySem.W.kitOne K (.ref C_Lattice) (.type "list") = some false
  nty_Lattice_tuple : PySem.W.kitOne K (.ref C_Lattice) (.type "tuple") = some false
  v_MOST_RANK : ∃ u, mg "MOST_RANK" = some u ∧ RelV (.int 4) u
  v_MOST_ITEM : ∃ u, mg "MOST_ITEM" = some u ∧ RelV (.int 10000) u
  i_gcd : mg "gcd" = some (.builtin "math.gcd")
end G09
set_option Elab.async false
set_option linter.all false
set_option maxRecDepth 100000
set_option maxHeartbeats 4000000
namespace G09
open PySem PySem.Spec PyProof.Rows L2 Evl G
noncomputable def m_content_l1  (x : Int) (s : Int) : Option (Int) := (some ((Nat.gcd (s).natAbs (x).natAbs : Nat) : Int)).bind fun v_out1 => some v_out1
noncomputable def m_content (v_numbers : (List Int)) : Option Int := (foldO m_content_l1 v_numbers (0 : Int)).bind fun s1002 => some s1002
def R_content (C_Grid : Addr) (C_Lattice : Addr) : List DV → DV → Prop := fun ds r => ∃ (v_numbers : (List Int)) (y : Int), ds = [(eL eI) v_numbers] ∧ m_content v_numbers = some y ∧ r = eI y
section
variable {P : Program} {w : World} {K : PySem.W.Frag} {mg : Str → Option Value} {base : Heap} {C_Grid : Addr} {C_Lattice : Addr} {f : Addr} {fd : FuncData}
theorem ok_content (F : Fun K "content" "content" s_content f fd) (T : Txt P K mg base C_Grid C_Lattice) : FnOk P w K mg base CX0 2 f fd ["numbers"] (spD K (R_content C_Grid C_Lattice)) := by
  refine okW F sc_content (fun ds r h => by obtain ⟨v_numbers, y, rfl, _⟩ := h; rfl) fun cdv A outer s H E hr => ⟨_, (pss_cons (ps_set (i := 1) sc_content.nd rfl (Or.inl rfl) pe_int)
      (pss_cons (ps_for PassesOwn.never rfl (pi_seqK (K := K) (pv 0)) (pg_name (i := 2) sc_content.nd rfl (Or.inl rfl)) (pss_one (ps_set (i := 1) sc_content.nd rfl (Or.inl rfl) (pe_callBfun cr_gcd rfl T.i_gcd (pa_cons (pv 1) (pa_cons (pv 2) pa_nil))))))
      (pss_one (ps_ret (pv 1))))), ?_⟩
  rintro ds r ⟨v_numbers, y, rfl, h, rfl⟩
  refine w_at [.dat ((eL eI) v_numbers), .un, .un] ?_
  unfold m_content at h
  refine q_seq (w_asg (i := 1) ep_int [.dat ((eL eI) v_numbers), .dat (eI (0 : Int)), .un] ?_)
  obtain ⟨s1002, h_s1002, h⟩ := bdO h
  refine q_seq (w_fold (fun q1 : Int => [.dat ((eL eI) v_numbers), .dat (eI q1), .un]) (0 : Int) (sle_same (sle_same (sle_same sle_nil))) (wl_seq (f := eI) (sq_lst (ep_var (i := 0) rfl))) h_s1002 (fun y1 q1 s' h => ?_) ?_)
  · refine w_at [.dat ((eL eI) v_numbers), .dat (eI q1), .dat (eI y1)] ?_
    unfold m_content_l1 at h
    obtain ⟨v_out1001, h_v_out1001, h⟩ := bdO h
    refine w_asg (i := 1) (EXp.is (e := eI v_out1001) (ep_gcd (ep_var (i := 1) rfl) (ep_var (i := 2) rfl)) (by cases h_v_out1001; rfl)) [.dat ((eL eI) v_numbers), .dat (eI v_out1001), .dat (eI y1)] ?_
    cases h
    exact (by repeat (first | exact sle_nil | refine sle_same ?_ | refine sle_un ?_))
  exact w_ret (d := eI s1002) (ep_var (i := 1) rfl) (congrArg eI (Option.some.inj h))
end
def R_is_integer (C_Grid : Addr) (C_Lattice : Addr) : List DV → DV → Prop := fun ds r => ∃ (v_value : Int) (y : Bool), ds = [eI v_value] ∧ m_is_integer v_value = some y ∧ r = eB y
section
variable {P : Program} {w : World} {K : PySem.W.Frag} {mg : Str → Option Value} {base : Heap} {C_Grid : Addr} {C_Lattice : Addr} {f : Addr} {fd : FuncData}
theorem ok_is_integer (F : Fun K "is_integer" "is_integer" s_is_integer f fd) (T : Txt P K mg base C_Grid C_Lattice) : FnOk P w K mg base CX0 2 f fd ["value"] (spD K (R_is_integer C_Grid C_Lattice)) := by
  refine okW F sc_is_integer (fun ds r h => by obtain ⟨v_value, y, rfl, _⟩ := h; rfl) fun cdv A outer s H E hr => ⟨_, (pss_one (ps_ret (pe_and (pe_callB (call_isK (K := K)) (by rfl) T.u_isinstance PyProof.Rows.boot_isinstance (pa_cons (pv 0) (pa_cons (pe_bltn (v := .ty "int") (u := .type "int") (by rfl) T.u_int (by decide +kernel) rfl) pa_nil))) (pe_one (pe_not (pe_callB (call_isK (K := K)) (by rfl) T.u_isinstance PyProof.Rows.boot_isinstance (pa_cons (pv 0) (pa_cons (pe_bltn (v := .ty "bool") (u := .type "bool") (by rfl) T.u_bool (by decide +kernel) rfl) pa_nil)))))))), ?_⟩
  rintro ds r ⟨v_value, y, rfl, h, rfl⟩
  refine w_at [.dat (eI v_value)] ?_
  unfold m_is_integer at h
  exact w_ret (d := eB (true && (!false))) (ep_andV (ep_isiB (b := true) (ep_var (i := 0) rfl) .int (by decide +kernel)) (fun _ => (ep_notV (ep_isiB (b := false) (ep_var (i := 0) rfl) .int (by decide +kernel))))) (congrArg eB (Option.some.inj h))
end
noncomputable def m_is_integer_D (v_value : DV) : Option Bool := (isDO v_value "int").bind fun t1 => (if t1 then (isDO v_value "bool").bind fun t2 => some (!t2) else some false).bind fun t3 => some t3
def R_is_integer_D (C_Grid : Addr) (C_Lattice : Addr) : List DV → DV → Prop := fun ds r => ∃ (v_value : DV) (y : Bool), ds = [eD v_value] ∧ m_is_integer_D v_value = some y ∧ r = eB y
section
variable {P : Program} {w : World} {K : PySem.W.Frag} {mg : Str → Option Value} {base : Heap} {C_Grid : Addr} {C_Lattice : Addr} {f : Addr} {fd : FuncData}
theorem ok_is_integer_D (F : Fun K "is_integer" "is_integer" s_is_integer f fd) (T : Txt P K mg base C_Grid C_Lattice) : FnOk P w K mg base CX0 2 f fd ["value"] (spD K (R_is_integer_D C_Grid C_Lattice)) := by
  refine okW F sc_is_integer (fun ds r h => by obtain ⟨v_value, y, rfl, _⟩ := h; rfl) fun cdv A outer s H E hr => ⟨_, (pss_one (ps_ret (pe_and (pe_callB (call_isK (K := K)) (by rfl) T.u_isinstance PyProof.Rows.boot_isinstance (pa_cons (pv 0) (pa_cons (pe_bltn (v := .ty "int") (u := .type "int") (by rfl) T.u_int (by decide +kernel) rfl) pa_nil))) (pe_one (pe_not (pe_callB (call_isK (K := K)) (by rfl) T.u_isinstance PyProof.Rows.boot_isinstance (pa_cons (pv 0) (pa_cons (pe_bltn (v := .ty "bool") (u := .type "bool") (by rfl) T.u_bool (by decide +kernel) rfl) pa_nil)))))))), ?_⟩
  rintro ds r ⟨v_value, y, rfl, h, rfl⟩
  refine w_at [.dat (eD v_value)] ?_
  unfold m_is_integer_D at h
  obtain ⟨t1, h_t1, h⟩ := bdO h
  obtain ⟨t3, h_t3, h⟩ := bdO h
  exact w_ret (d := eB t3) (ep_andM (ep_isD (ep_var (i := 0) rfl) h_t1) h_t3 (fun hb _ h => by obtain ⟨t2, h_t2, h⟩ := bdO h; exact EXp.is (d := eB (!t2)) (ep_notV (ep_isD (ep_var (i := 0) rfl) h_t2)) (congrArg eB (Option.some.inj h)))) (congrArg eB (Option.some.inj h))
end
def R_dot (C_Grid : Addr) (C_Lattice : Addr) : List DV → DV → Prop := fun ds r => ∃ (v_a : (Sq eI)) (v_b : (Sq eI)) (y : Int), ds = [v_a.d, v_b.d] ∧ m_dot v_a v_b = some y ∧ r = eI y
section
variable {P : Program} {w : World} {K : PySem.W.Frag} {mg : Str → Option Value} {base : Heap} {C_Grid : Addr} {C_Lattice : Addr} {f : Addr} {fd : FuncData}
theorem ok_dot (F : Fun K "dot" "dot" s_dot f fd) (T : Txt P K mg base C_Grid C_Lattice) : FnOk P w K mg base CX0 2 f fd ["a", "b"] (spD K (R_dot C_Grid C_Lattice)) := by
  refine okW F sc_dot (fun ds r h => by obtain ⟨v_a, v_b, y, rfl, _⟩ := h; rfl) fun cdv A outer s H E hr => ⟨_, (pss_one (ps_ret (pe_callB (cr_sumK (K := K)) (by rfl) T.u_sum PyProof.Rows.boot_sum (pa_cons (pe_lc (own := [("x", 2), ("y", 3)]) (g := gTup K 2 (gCons (gName 2) (gCons (gName 3) gNil))) (tt := tYes) (by rfl) sc_dot.nd (pi_zK (K := K) (by rfl) T.u_zip (pa_cons (pv 0) (pa_cons (pv 1) pa_nil))) (blkOk_by (N := ["a", "b", "x", "y"]) (sc := defScope s_dot) (own := [("x", 2), ("y", 3)]) (by first | decide +kernel | kernel_rfl)) (fun _ _ _ _ _ => (pg_tup rfl (pgs_cons (pg_name (i := 2) sc_dot.nd rfl (Or.inl rfl)) (pgs_cons (pg_name (i := 3) sc_dot.nd rfl (Or.inl rfl)) pgs_nil)))) (fun _ _ _ _ _ => pts_nil) (fun _ _ _ _ _ => (pe_op op_mulB (pv 2) (pv 3)))) pa_nil)))), ?_⟩
  rintro ds r ⟨v_a, v_b, y, rfl, h, rfl⟩
  refine w_at [.dat (v_a.d), .dat (v_b.d), .un, .un] ?_
  unfold m_dot at h
  obtain ⟨t3, h_t3, h⟩ := bdO h
  exact w_ret (d := eI t3.sum) (ep_sum (LXp.ex (lp_lcA (e := eI) (fun x1 => [.dat (v_a.d), .dat (v_b.d), .dat (eI x1.1), .dat (eI x1.2)]) (wl_zip (f := eI) (g := eI) (sq_v (ep_var (i := 0) rfl)) (sq_v (ep_var (i := 1) rfl))) h_t3 (by decide) (fun x1 _ h => by obtain ⟨t2, h_t2, h⟩ := bdO h; exact EXp.is (d := eI t2) (ep_mul (ep_var (i := 2) rfl) (ep_var (i := 3) rfl) h_t2) (congrArg eI (Option.some.inj h)))))) (congrArg eI (Option.some.inj h))
end
def R_Grid_times (C_Grid : Addr) (C_Lattice : Addr) : List DV → DV → Prop := fun ds r => ∃ (v_self : M_Grid) (v_row : (Sq eI)) (y : (List Int)), ds = [(e_Grid C_Grid C_Lattice) v_self, v_row.d] ∧ m_Grid_times v_self v_row = some y ∧ r = (eT eI) y
section
variable {P : Program} {w : World} {K : PySem.W.Frag} {mg : Str → Option Value} {base : Heap} {C_Grid : Addr} {C_Lattice : Addr} {f : Addr} {fd : FuncData}
theorem ok_Grid_times (F : Fun K "times" "Grid.times" s_Grid_times f fd) (T : Txt P K mg base C_Grid C_Lattice) (c_dot : CalG P w K mg base 2 "dot" (spD K (R_dot C_Grid C_Lattice)) []) : FnOk P w K mg base CX0 3 f fd ["self", "row"] (spD K (R_Grid_times C_Grid C_Lattice)) := by
  refine okW F sc_Grid_times (fun ds r h => by obtain ⟨v_self, v_row, y, rfl, _⟩ := h; rfl) fun cdv A outer s H E hr => ⟨_, (pss_cons (ps_if (pt_cmpR op_ne (pe_callB (call_lenK (K := K)) (by rfl) T.u_len (by decide +kernel) (pa_cons (pv 1) pa_nil)) (pe_fldK (K := K) (pv 0)) (nomark _)) (pss_one ps_never) pss_nil)
      (pss_one (ps_ret (pe_callTy (call_tupK (K := K)) (by rfl) T.u_tuple PyProof.Rows.boot_tuple (pa_cons (pe_lc (own := [("line", 2)]) (g := gName 2) (tt := tYes) (by rfl) sc_Grid_times.nd (pi_seqK (K := K) (pe_fldK (K := K) (pv 0))) (blkOk_by (N := ["self", "row", "line"]) (sc := defScope s_Grid_times) (own := [("line", 2)]) (by first | decide +kernel | kernel_rfl)) (fun _ _ _ _ _ => (pg_name (i := 2) sc_Grid_times.nd rfl (Or.inl rfl))) (fun _ _ _ _ _ => pts_nil) (fun _ _ _ _ _ => (pe_cG c_dot hr (by decide) rfl (pa_cons (pv 2) (pa_cons (pv 1) pa_nil))))) pa_nil))))), ?_⟩
  rintro ds r ⟨v_self, v_row, y, rfl, h, rfl⟩
  refine w_at [.dat ((e_Grid C_Grid C_Lattice) v_self), .dat (v_row.d), .un] ?_
  unfold m_Grid_times at h
  refine q_seq (w_if (tp_test (ep_neI (ep_lenM (f := eI) (ip_v (ep_var (i := 1) rfl))) (ep_fld (ep_var (i := 0) rfl) T.cl_Grid T.n_Grid_width rfl))) (fun hb => ?_) (fun hb => ?_))
  · replace h := ifT hb h
    cases h
  · replace h := ifF hb h
    refine w_next ?_
    obtain ⟨t3, h_t3, h⟩ := bdO h
    exact w_ret (d := (eT eI) t3) (ep_tuple (ip_new (lp_lcA (e := eI) (fun x1 => [.dat ((e_Grid C_Grid C_Lattice) v_self), .dat (v_row.d), .dat ((eT eI) x1)]) (wl_seq (f := (eT eI)) (sq_tup (ep_fld (ep_var (i := 0) rfl) T.cl_Grid T.n_Grid_rows rfl))) h_t3 (by decide) (fun x1 _ h => by obtain ⟨t2, h_t2, h⟩ := bdO h; exact EXp.is (d := eI t2) (ep_call (ap_cons (ep_var (i := 2) rfl) (ap_cons (ep_var (i := 1) rfl) ap_nil)) ⟨(Sq.T eI x1), v_row, t2, rfl, h_t2, rfl⟩) (congrArg eI (Option.some.inj h)))))) (congrArg (eT eI) (Option.some.inj h))
end
def R_Grid_eq (C_Grid : Addr) (C_Lattice : Addr) : List DV → DV → Prop := fun ds r => ∃ (v_self : M_Grid) (v_other : M_Grid) (y : Bool), ds = [(e_Grid C_Grid C_Lattice) v_self, (e_Grid C_Grid C_Lattice) v_other] ∧ m_Grid_eq v_self v_other = some y ∧ r = eB y
section
variable {P : Program} {w : World} {K : PySem.W.Frag} {mg : Str → Option Value} {base : Heap} {C_Grid : Addr} {C_Lattice : Addr} {f : Addr} {fd : FuncData}
theorem ok_Grid_eq (F : Fun K "__eq__" "Grid.__eq__" s_Grid_eq f fd) (T : Txt P K mg base C_Grid C_Lattice) : FnOk P w K mg base CX0 2 f fd ["self", "other"] (spD K (R_Grid_eq C_Grid C_Lattice)) := by
  refine okW F sc_Grid_eq (fun ds r h => by obtain ⟨v_self, v_other, y, rfl, _⟩ := h; rfl) fun cdv A outer s H E hr => ⟨_, (pss_one (ps_ret (pe_and (pe_callB (call_isK (K := K)) (by rfl) T.u_isinstance PyProof.Rows.boot_isinstance (pa_cons (pv 1) (pa_cons (pe_glob (v := .ref C_Grid) rfl T.m_Grid rfl) pa_nil))) (pe_and (pe_cmpR (op_eqDK (K := K) hr.units) (pe_fldK (K := K) (pv 0)) (pe_fldK (K := K) (pv 1)) (nomark _)) (pe_one (pe_cmpR op_eq (pe_fldK (K := K) (pv 0)) (pe_fldK (K := K) (pv 1)) (nomark _))))))), ?_⟩
  rintro ds r ⟨v_self, v_other, y, rfl, h, rfl⟩
  refine w_at [.dat ((e_Grid C_Grid C_Lattice) v_self), .dat ((e_Grid C_Grid C_Lattice) v_other)] ?_
  unfold m_Grid_eq at h
  exact w_ret (d := eB (true && ((decide (v_self.rows = v_other.rows)) && (decide (v_self.width = v_other.width))))) (ep_andV (ep_isi (ep_var (i := 1) rfl) (.ins T.gGrid.own) (.own C_Grid) (kit_self T.gGrid.own)) (fun _ => (ep_andV (ep_eqP (e := (eT (eT eI))) (plainT (plainT plainI)) (by decide) (ep_fld (ep_var (i := 0) rfl) T.cl_Grid T.n_Grid_rows rfl) (ep_fld (ep_var (i := 1) rfl) T.cl_Grid T.n_Grid_rows rfl)) (fun _ => (ep_eqI (ep_fld (ep_var (i := 0) rfl) T.cl_Grid T.n_Grid_width rfl) (ep_fld (ep_var (i := 1) rfl) T.cl_Grid T.n_Grid_width rfl)))))) (congrArg eB (Option.some.inj h))
end
def R_square_rows_S (C_Grid : Addr) (C_Lattice : Addr) : List DV → DV → Prop := fun ds r => ∃ (v_gram : (Sq (fun p : Sq eI => p.d))) (y : (Sq (fun p : Sq eI => p.d))), ds = [v_gram.d] ∧ m_square_rows_S v_gram = some y ∧ r = y.d
section
variable {P : Program} {w : World} {K : PySem.W.Frag} {mg : Str → Option Value} {base : Heap} {C_Grid : Addr} {C_Lattice : Addr} {f : Addr} {fd : FuncData}
theorem ok_square_rows_S (F : Fun K "square_rows" "square_rows" s_square_rows f fd) (T : Txt P K mg base C_Grid C_Lattice) (c_is_integer : CalG P w K mg base 2 "is_integer" (spD K (R_is_integer C_Grid C_Lattice)) []) : FnOk P w K mg base CX0 3 f fd ["gram"] (spD K (R_square_rows_S C_Grid C_Lattice)) := by
  refine okW F sc_square_rows (fun ds r h => by obtain ⟨v_gram, y, rfl, _⟩ := h; rfl) fun cdv A outer s H E hr => ⟨_, (pss_cons (ps_if (pt_val (pe_callB (call_isK (K := K)) (by rfl) T.u_isinstance PyProof.Rows.boot_isinstance (pa_cons (pv 0) (pa_cons (pe_glob (v := .ref C_Grid) rfl T.m_Grid rfl) pa_nil)))) (pss_one (ps_set (i := 1) sc_square_rows.nd rfl (Or.inl rfl) (pe_fldK (K := K) (pv 0)))) (pss_one (ps_set (i := 1) sc_square_rows.nd rfl (Or.inl rfl) (pv 0))))
      (pss_cons (ps_if (PW.pt (pw_or (pt_not (pt_val (pe_callB (call_isTK (K := K)) (by rfl) T.u_isinstance PyProof.Rows.boot_isinstance (pa_cons (pv 1) (pa_cons (pe_tup (pa_cons (pe_bltn (v := .ty "list") (u := .type "list") (by rfl) T.u_list (by decide +kernel) rfl) (pa_cons (pe_bltn (v := .ty "tuple") (u := .type "tuple") (by rfl) T.u_tuple (by decide +kernel) rfl) pa_nil))) pa_nil))))) (pw_or1 (pt_cmpR op_lt (pe_callB (call_lenK (K := K)) (by rfl) T.u_len (by decide +kernel) (pa_cons (pv 1) pa_nil)) pe_int (nomark _))))) (pss_one ps_never) pss_nil)
      (pss_cons (ps_if (pt_cmpR op_gt (pe_callB (call_lenK (K := K)) (by rfl) T.u_len (by decide +kernel) (pa_cons (pv 1) pa_nil)) (pe_globE rfl T.v_MOST_RANK) (nomark _)) (pss_one ps_never) pss_nil)
      (pss_cons (ps_for PassesOwn.never rfl (pi_seqK (K := K) (pv 1)) (pg_name (i := 2) sc_square_rows.nd rfl (Or.inl rfl)) (pss_cons (ps_if (PW.pt (pw_or (pt_not (pt_val (pe_callB (call_isTK (K := K)) (by rfl) T.u_isinstance PyProof.Rows.boot_isinstance (pa_cons (pv 2) (pa_cons (pe_tup (pa_cons (pe_bltn (v := .ty "list") (u := .type "list") (by rfl) T.u_list (by decide +kernel) rfl) (pa_cons (pe_bltn (v := .ty "tuple") (u := .type "tuple") (by rfl) T.u_tuple (by decide +kernel) rfl) pa_nil))) pa_nil))))) (pw_or1 (pt_cmpR op_ne (pe_callB (call_lenK (K := K)) (by rfl) T.u_len (by decide +kernel) (pa_cons (pv 2) pa_nil)) (pe_callB (call_lenK (K := K)) (by rfl) T.u_len (by decide +kernel) (pa_cons (pv 1) pa_nil)) (nomark _))))) (pss_one ps_never) pss_nil)
      (pss_one (ps_for PassesOwn.never rfl (pi_seqK (K := K) (pv 2)) (pg_name (i := 3) sc_square_rows.nd rfl (Or.inl rfl)) (pss_one (ps_if (pt_not (pt_val (pe_cG c_is_integer hr (by decide) rfl (pa_cons (pv 3) pa_nil)))) (pss_one ps_never) pss_nil))))))
      (pss_one (ps_ret (pv 1))))))), ?_⟩
  rintro ds r ⟨v_gram, y, rfl, h, rfl⟩
  refine w_at [.dat (v_gram.d), .un, .un, .un] ?_
  unfold m_square_rows_S at h
  refine q_seq (w_if (tp_val (ep_isnSq (ep_var (i := 0) rfl) (.own C_Grid) T.l_not_Grid T.t_not_Grid)) (fun hb => by cases hb) (fun hb => ?_))
  refine w_asg (i := 1) (ep_var (i := 0) rfl) [.dat (v_gram.d), .dat (v_gram.d), .un, .un] ?_
  refine q_seq (w_if (tp_or (tp_not (tp_val (ep_isSq (ep_var (i := 1) rfl)))) (fun _ => (tp_test (ep_lt (ep_lenM (f := (fun p : Sq eI => p.d)) (ip_v (ep_var (i := 1) rfl))) ep_int)))) (fun hb => ?_) (fun hb => ?_))
  · replace h := ifT hb h
    cases h
  · replace h := ifF hb h
    refine w_next ?_
    refine q_seq (w_if (tp_test (ep_gt (ep_lenM (f := (fun p : Sq eI => p.d)) (ip_v (ep_var (i := 1) rfl))) ep_int)) (fun hb => ?_) (fun hb => ?_))
    · replace h := ifT hb h
      cases h
    · replace h := ifF hb h
      refine w_next ?_
      obtain ⟨s4003, h_s4003, h⟩ := bdO h
      refine q_seq (w_fold (fun q1 : Unit => [.dat (v_gram.d), .dat (v_gram.d), .un, .un]) () (sle_same (sle_same (sle_same (sle_same sle_nil)))) (wl_seq (f := (fun p : Sq eI => p.d)) (sq_v (ep_var (i := 1) rfl))) h_s4003 (fun y1 q1 s' h => ?_) ?_)
      · refine w_at [.dat (v_gram.d), .dat (v_gram.d), .dat (y1.d), .un] ?_
        unfold m_square_rows_S_l1 at h
        refine q_seq (w_if (tp_or (tp_not (tp_val (ep_isSq (ep_var (i := 2) rfl)))) (fun _ => (tp_test (ep_neI (ep_lenM (f := eI) (ip_v (ep_var (i := 2) rfl))) (ep_lenM (f := (fun p : Sq eI => p.d)) (ip_v (ep_var (i := 1) rfl))))))) (fun hb => ?_) (fun hb => ?_))
        · replace h := ifT hb h
          cases h
        · replace h := ifF hb h
          refine w_next ?_
          obtain ⟨s4002, h_s4002, h⟩ := bdO h
          refine w_fold (fun q2 : Unit => [.dat (v_gram.d), .dat (v_gram.d), .dat (y1.d), .un]) () (sle_same (sle_same (sle_same (sle_same sle_nil)))) (wl_seq (f := eI) (sq_v (ep_var (i := 2) rfl))) h_s4002 (fun y2 q2 s' h => ?_) ?_
          · refine w_at [.dat (v_gram.d), .dat (v_gram.d), .dat (y1.d), .dat (eI y2)] ?_
            unfold m_square_rows_S_l2 at h
            obtain ⟨t4001, h_t4001, h⟩ := bdO h
            refine w_if (tp_not (tp_val (ep_call (ap_cons (ep_var (i := 3) rfl) ap_nil) ⟨y2, t4001, rfl, h_t4001, rfl⟩))) (fun hb => ?_) (fun hb => ?_)
            · replace h := ifT hb h
              cases h
            · replace h := ifF hb h
              refine w_next ?_
              cases h
              exact (by repeat (first | exact sle_nil | refine sle_same ?_ | refine sle_un ?_))
          cases h
          exact (by repeat (first | exact sle_nil | refine sle_same ?_ | refine sle_un ?_))
      exact w_ret (d := v_gram.d) (ep_var (i := 1) rfl) (congrArg (fun p : Sq (fun p : Sq eI => p.d) => p.d) (Option.some.inj h))
end
def R_square_rows_G (C_Grid : Addr) (C_Lattice : Addr) : List DV → DV → Prop := fun ds r => ∃ (v_gram : M_Grid) (y : (List (List Int))), ds = [(e_Grid C_Grid C_Lattice) v_gram] ∧ m_square_rows_G v_gram = some y ∧ r = (eT (eT eI)) y
section
variable {P : Program} {w : World} {K : PySem.W.Frag} {mg : Str → Option Value} {base : Heap} {C_Grid : Addr} {C_Lattice : Addr} {f : Addr} {fd : FuncData}
theorem ok_square_rows_G (F : Fun K "square_rows" "square_rows" s_square_rows f fd) (T : Txt P K mg base C_Grid C_Lattice) (c_is_integer : CalG P w K mg base 2 "is_integer" (spD K (R_is_integer C_Grid C_Lattice)) []) : FnOk P w K mg base CX0 3 f fd ["gram"] (spD K (R_square_rows_G C_Grid C_Lattice)) := by
  refine okW F sc_square_rows (fun ds r h => by obtain ⟨v_gram, y, rfl, _⟩ := h; rfl) fun cdv A outer s H E hr => ⟨_, (pss_cons (ps_if (pt_val (pe_callB (call_isK (K := K)) (by rfl) T.u_isinstance PyProof.Rows.boot_isinstance (pa_cons (pv 0) (pa_cons (pe_glob (v := .ref C_Grid) rfl T.m_Grid rfl) pa_nil)))) (pss_one (ps_set (i := 1) sc_square_rows.nd rfl (Or.inl rfl) (pe_fldK (K := K) (pv 0)))) (pss_one (ps_set (i := 1) sc_square_rows.nd rfl (Or.inl rfl) (pv 0))))
      (pss_cons (ps_if (PW.pt (pw_or (pt_not (pt_val (pe_callB (call_isTK (K := K)) (by rfl) T.u_isinstance PyProof.Rows.boot_isinstance (pa_cons (pv 1) (pa_cons (pe_tup (pa_cons (pe_bltn (v := .ty "list") (u := .type "list") (by rfl) T.u_list (by decide +kernel) rfl) (pa_cons (pe_bltn (v := .ty "tuple") (u := .type "tuple") (by rfl) T.u_tuple (by decide +kernel) rfl) pa_nil))) pa_nil))))) (pw_or1 (pt_cmpR op_lt (pe_callB (call_lenK (K := K)) (by rfl) T.u_len (by decide +kernel) (pa_cons (pv 1) pa_nil)) pe_int (nomark _))))) (pss_one ps_never) pss_nil)
      (pss_cons (ps_if (pt_cmpR op_gt (pe_callB (call_lenK (K := K)) (by rfl) T.u_len (by decide +kernel) (pa_cons (pv 1) pa_nil)) (pe_globE rfl T.v_MOST_RANK) (nomark _)) (pss_one ps_never) pss_nil)
      (pss_cons (ps_for PassesOwn.never rfl (pi_seqK (K := K) (pv 1)) (pg_name (i := 2) sc_square_rows.nd rfl (Or.inl rfl)) (pss_cons (ps_if (PW.pt (pw_or (pt_not (pt_val (pe_callB (call_isTK (K := K)) (by rfl) T.u_isinstance PyProof.Rows.boot_isinstance (pa_cons (pv 2) (pa_cons (pe_tup (pa_cons (pe_bltn (v := .ty "list") (u := .type "list") (by rfl) T.u_list (by decide +kernel) rfl) (pa_cons (pe_bltn (v := .ty "tuple") (u := .type "tuple") (by rfl) T.u_tuple (by decide +kernel) rfl) pa_nil))) pa_nil))))) (pw_or1 (pt_cmpR op_ne (pe_callB (call_lenK (K := K)) (by rfl) T.u_len (by decide +kernel) (pa_cons (pv 2) pa_nil)) (pe_callB (call_lenK (K := K)) (by rfl) T.u_len (by decide +kernel) (pa_cons (pv 1) pa_nil)) (nomark _))))) (pss_one ps_never) pss_nil)
      (pss_one (ps_for PassesOwn.never rfl (pi_seqK (K := K) (pv 2)) (pg_name (i := 3) sc_square_rows.nd rfl (Or.inl rfl)) (pss_one (ps_if (pt_not (pt_val (pe_cG c_is_integer hr (by decide) rfl (pa_cons (pv 3) pa_nil)))) (pss_one ps_never) pss_nil))))))
      (pss_one (ps_ret (pv 1))))))), ?_⟩
  rintro ds r ⟨v_gram, y, rfl, h, rfl⟩
  refine w_at [.dat ((e_Grid C_Grid C_Lattice) v_gram), .un, .un, .un] ?_
  unfold m_square_rows_G at h
  refine q_seq (w_if (tp_val (ep_isi (ep_var (i := 0) rfl) (.ins T.gGrid.own) (.own C_Grid) (kit_self T.gGrid.own))) (fun hb => ?_) (fun hb => by cases hb))
  refine w_asg (i := 1) (ep_fld (ep_var (i := 0) rfl) T.cl_Grid T.n_Grid_rows rfl) [.dat ((e_Grid C_Grid C_Lattice) v_gram), .dat ((eT (eT eI)) v_gram.rows), .un, .un] ?_
  refine q_seq (w_if (tp_or (tp_not (tp_val (ep_isT (e := (eT eI)) (ep_var (i := 1) rfl)))) (fun _ => (tp_test (ep_lt (ep_lenM (f := (eT eI)) (ip_tup (ep_var (i := 1) rfl))) ep_int)))) (fun hb => ?_) (fun hb => ?_))
  · replace h := ifT hb h
    cases h
  · replace h := ifF hb h
    refine w_next ?_
    refine q_seq (w_if (tp_test (ep_gt (ep_lenM (f := (eT eI)) (ip_tup (ep_var (i := 1) rfl))) ep_int)) (fun hb => ?_) (fun hb => ?_))
    · replace h := ifT hb h
      cases h
    · replace h := ifF hb h
      refine w_next ?_
      obtain ⟨s4003, h_s4003, h⟩ := bdO h
      refine q_seq (w_fold (fun q1 : Unit => [.dat ((e_Grid C_Grid C_Lattice) v_gram), .dat ((eT (eT eI)) v_gram.rows), .un, .un]) () (sle_same (sle_same (sle_same (sle_same sle_nil)))) (wl_seq (f := (eT eI)) (sq_tup (ep_var (i := 1) rfl))) h_s4003 (fun y1 q1 s' h => ?_) ?_)
      · refine w_at [.dat ((e_Grid C_Grid C_Lattice) v_gram), .dat ((eT (eT eI)) v_gram.rows), .dat ((eT eI) y1), .un] ?_
        unfold m_square_rows_G_l1 at h
        refine q_seq (w_if (tp_or (tp_not (tp_val (ep_isT (e := eI) (ep_var (i := 2) rfl)))) (fun _ => (tp_test (ep_neI (ep_lenM (f := eI) (ip_tup (ep_var (i := 2) rfl))) (ep_lenM (f := (eT eI)) (ip_tup (ep_var (i := 1) rfl))))))) (fun hb => ?_) (fun hb => ?_))
        · replace h := ifT hb h
          cases h
        · replace h := ifF hb h
          refine w_next ?_
          obtain ⟨s4002, h_s4002, h⟩ := bdO h
          refine w_fold (fun q2 : Unit => [.dat ((e_Grid C_Grid C_Lattice) v_gram), .dat ((eT (eT eI)) v_gram.rows), .dat ((eT eI) y1), .un]) () (sle_same (sle_same (sle_same (sle_same sle_nil)))) (wl_seq (f := eI) (sq_tup (ep_var (i := 2) rfl))) h_s4002 (fun y2 q2 s' h => ?_) ?_
          · refine w_at [.dat ((e_Grid C_Grid C_Lattice) v_gram), .dat ((eT (eT eI)) v_gram.rows), .dat ((eT eI) y1), .dat (eI y2)] ?_
            unfold m_square_rows_G_l2 at h
            obtain ⟨t4001, h_t4001, h⟩ := bdO h
            refine w_if (tp_not (tp_val (ep_call (ap_cons (ep_var (i := 3) rfl) ap_nil) ⟨y2, t4001, rfl, h_t4001, rfl⟩))) (fun hb => ?_) (fun hb => ?_)
            · replace h := ifT hb h
              cases h
            · replace h := ifF hb h
              refine w_next ?_
              cases h
              exact (by repeat (first | exact sle_nil | refine sle_same ?_ | refine sle_un ?_))
          cases h
          exact (by repeat (first | exact sle_nil | refine sle_same ?_ | refine sle_un ?_))
      exact w_ret (d := (eT (eT eI)) v_gram.rows) (ep_var (i := 1) rfl) (congrArg (eT (eT eI)) (Option.some.inj h))
end
def R_check_symmetric (C_Grid : Addr) (C_Lattice : Addr) : List DV → DV → Prop := fun ds r => ∃ (v_rows : (Sq (fun p : Sq eI => p.d))) (y : Unit), ds = [v_rows.d] ∧ m_check_symmetric v_rows = some y ∧ r = eN y
section
variable {P : Program} {w : World} {K : PySem.W.Frag} {mg : Str → Option Value} {base : Heap} {C_Grid : Addr} {C_Lattice : Addr} {f : Addr} {fd : FuncData}
theorem ok_check_symmetric (F : Fun K "check_symmetric" "check_symmetric" s_check_symmetric f fd) (T : Txt P K mg base C_Grid C_Lattice) : FnOk P w K mg base CX0 2 f fd ["rows"] (spD K (R_check_symmetric C_Grid C_Lattice)) := by
  refine okW F sc_check_symmetric (fun ds r h => by obtain ⟨v_rows, y, rfl, _⟩ := h; rfl) fun cdv A outer s H E hr => ⟨_, (pss_one (ps_for PassesOwn.never rfl (pi_range1 (by rfl) T.u_range (pa_cons (pe_callB (call_lenK (K := K)) (by rfl) T.u_len (by decide +kernel) (pa_cons (pv 0) pa_nil)) pa_nil)) (pg_name (i := 1) sc_check_symmetric.nd rfl (Or.inl rfl)) (pss_one (ps_for PassesOwn.never rfl (pi_range1 (by rfl) T.u_range (pa_cons (pv 1) pa_nil)) (pg_name (i := 2) sc_check_symmetric.nd rfl (Or.inl rfl)) (pss_one (ps_if (pt_cmpR op_ne (pe_ix (ix_seqK (K := K)) (pe_ix (ix_seqK (K := K)) (pv 0) (pv 1) (fun _ _ => rfl)) (pv 2) (fun _ _ => rfl)) (pe_ix (ix_seqK (K := K)) (pe_ix (ix_seqK (K := K)) (pv 0) (pv 2) (fun _ _ => rfl)) (pv 1) (fun _ _ => rfl)) (nomark _)) (pss_one ps_never) pss_nil)))))), ?_⟩
  rintro ds r ⟨v_rows, y, rfl, h, rfl⟩
  refine w_at [.dat (v_rows.d), .un, .un] ?_
  unfold m_check_symmetric at h
  obtain ⟨t1, h_t1, h⟩ := bdO h
  obtain ⟨s4008, h_s4008, h⟩ := bdO h
  refine w_fold (fun q1 : Unit => [.dat (v_rows.d), .un, .un]) () (sle_same (sle_same (sle_same sle_nil))) (wl_range1 (ep_lenM (f := (fun p : Sq eI => p.d)) (ip_v (ep_var (i := 0) rfl))) h_t1) h_s4008 (fun y1 q1 s' h => ?_) ?_
  · refine w_at [.dat (v_rows.d), .dat (eI y1), .un] ?_
    unfold m_check_symmetric_l1 at h
    obtain ⟨t2002, h_t2002, h⟩ := bdO h
    obtain ⟨s4007, h_s4007, h⟩ := bdO h
    refine w_fold (fun q2 : Unit => [.dat (v_rows.d), .dat (eI y1), .un]) () (sle_same (sle_same (sle_same sle_nil))) (wl_range1 (ep_var (i := 1) rfl) h_t2002) h_s4007 (fun y2 q2 s' h => ?_) ?_
    · refine w_at [.dat (v_rows.d), .dat (eI y1), .dat (eI y2)] ?_
      unfold m_check_symmetric_l2 at h
      obtain ⟨t4003, h_t4003, h⟩ := bdO h
      obtain ⟨t4004, h_t4004, h⟩ := bdO h
      obtain ⟨t4005, h_t4005, h⟩ := bdO h
      obtain ⟨t4006, h_t4006, h⟩ := bdO h
      refine w_if (tp_test (ep_neI (ep_ix (f := eI) (ip_v (ep_ix (f := (fun p : Sq eI => p.d)) (ip_v (ep_var (i := 0) rfl)) (ep_var (i := 1) rfl) h_t4003)) (ep_var (i := 2) rfl) h_t4004) (ep_ix (f := eI) (ip_v (ep_ix (f := (fun p : Sq eI => p.d)) (ip_v (ep_var (i := 0) rfl)) (ep_var (i := 2) rfl) h_t4005)) (ep_var (i := 1) rfl) h_t4006))) (fun hb => ?_) (fun hb => ?_)
      · replace h := ifT hb h
        cases h
      · replace h := ifF hb h
        refine w_next ?_
        cases h
        exact (by repeat (first | exact sle_nil | refine sle_same ?_ | refine sle_un ?_))
    cases h
    exact (by repeat (first | exact sle_nil | refine sle_same ?_ | refine sle_un ?_))
  cases h
  rfl
end
end G09
set_option Elab.async false
set_option linter.all false
set_option maxRecDepth 100000
set_option maxHeartbeats 4000000
namespace G09
open PySem PySem.Spec PyProof.Rows L2 Evl G
def R_Lattice_init_S (C_Grid : Addr) (C_Lattice : Addr) : List DV → List (Str × DV) → Prop := fun ds r => ∃ (v_gram : (Sq (fun p : Sq eI => p.d))) (y : M_Lattice), ds = [v_gram.d] ∧ m_Lattice_init_S v_gram = some y ∧ r = f_Lattice C_Grid C_Lattice y
section
variable {P : Program} {w : World} {K : PySem.W.Frag} {mg : Str → Option Value} {base : Heap} {C_Grid : Addr} {C_Lattice : Addr} {f : Addr} {fd : FuncData}
theorem ok_Lattice_init_S (F : FunD K "__init__" "Lattice.__init__" (defArgs s_Lattice_init) (defBody s_Lattice_init) (defScope s_Lattice_init) [] [] f fd) (T : Txt P K mg base C_Grid C_Lattice) (c_square_rows : CalG P w K mg base 3 "square_rows" (spD K (R_square_rows_S C_Grid C_Lattice)) []) (c_check_symmetric : CalG P w K mg base 2 "check_symmetric" (spD K (R_check_symmetric C_Grid C_Lattice)) []) (m_Grid_determinant : MetG P w K mg base 44 C_Grid "determinant" (spD K (rDetG C_Grid))) (k_Grid : MakG P w K mg base 6 "Grid" C_Grid (spI K C_Grid rInit) []) (k_Grid1 : MakG P w K mg base 6 "Grid" C_Grid (spI K C_Grid rInit) [.non]) : FnOk P w K mg base CX0 45 f fd ["self", "gram"] (spI K C_Lattice (R_Lattice_init_S C_Grid C_Lattice)) := by
  refine okWI F sc_Lattice_init (fun ds r h => by obtain ⟨v_gram, y, rfl, _⟩ := h; rfl) fun cdv A outer s H E hr => ⟨_, (pss_cons (ps_set (i := 2) sc_Lattice_init.nd rfl (Or.inl rfl) (pe_cG c_square_rows hr (by decide) rfl (pa_cons (pv 1) pa_nil)))
      (pss_cons (ps_expr (pe_cG c_check_symmetric hr (by decide) rfl (pa_cons (pv 2) pa_nil)))
      (pss_cons (ps_for PassesOwn.never rfl (pi_seqK (K := K) (pv 2)) (pg_name (i := 3) sc_Lattice_init.nd rfl (Or.inl rfl)) (pss_one (ps_for PassesOwn.never rfl (pi_seqK (K := K) (pv 3)) (pg_name (i := 4) sc_Lattice_init.nd rfl (Or.inl rfl)) (pss_one (ps_if (pt_cmpR op_gt (pe_callB call_abs (by rfl) T.u_abs PyProof.Rows.boot_abs (pa_cons (pv 4) pa_nil)) (pe_globE rfl T.v_MOST_ITEM) (nomark _)) (pss_one ps_never) pss_nil)))))
      (pss_cons (ps_for PassesOwn.never rfl (pi_range2 (by rfl) T.u_range (pa_cons pe_int (pa_cons (pe_op op_add (pe_callB (call_lenK (K := K)) (by rfl) T.u_len (by decide +kernel) (pa_cons (pv 2) pa_nil)) pe_int) pa_nil))) (pg_name (i := 5) sc_Lattice_init.nd rfl (Or.inr rfl)) (pss_one (ps_if (pt_cmpR op_lt (pe_mtG0 m_Grid_determinant hr (by decide) (pe_mkG k_Grid hr (by decide) rfl (pa_cons (pe_lc (own := [("row", 3)]) (g := gName 3) (tt := tYes) (by rfl) sc_Lattice_init.nd (pi_seqK (K := K) (pe_slice (sl_eitherK (K := K)) (pv 2) po_none (po_some (pv 5)))) (blkOk_by (N := ["self", "gram", "rows", "row", "item", "k"]) (sc := defScope s_Lattice_init) (own := [("row", 3)]) (by first | decide +kernel | kernel_rfl)) (fun _ _ _ _ _ => (pg_name (i := 3) sc_Lattice_init.nd rfl (Or.inl rfl))) (fun _ _ _ _ _ => pts_nil) (fun _ _ _ _ _ => (pe_slice (sl_eitherK (K := K)) (pv 3) po_none (po_some (pv 5))))) (pa_cons (pv 5) pa_nil)))) pe_int (nomark _)) (pss_one ps_never) pss_nil)))
      (pss_one (ps_fld (pv 0) (pe_mkG k_Grid1 hr (by decide) rfl (pa_cons (pv 2) pa_nil)) rfl)))))), ?_⟩
  rintro ds fs x dx F0 ⟨v_gram, y, rfl, h, rfl⟩
  refine w_at [.dat (eD (DV.box x)), .dat (v_gram.d), .un, .un, .un, .un] ?_
  unfold m_Lattice_init_S at h
  obtain ⟨v_rows2, h_v_rows2, h⟩ := bdO h
  refine q_seq (w_asg (i := 2) (ep_call (ap_cons (ep_var (i := 1) rfl) ap_nil) ⟨v_gram, v_rows2, rfl, h_v_rows2, rfl⟩) [.dat (eD (DV.box x)), .dat (v_gram.d), .dat (v_rows2.d), .un, .un, .un] ?_)
  obtain ⟨t3, h_t3, h⟩ := bdO h
  refine q_seq (w_drop (ep_call (ap_cons (ep_var (i := 2) rfl) ap_nil) ⟨v_rows2, t3, rfl, h_t3, rfl⟩) ?_)
  obtain ⟨s4005, h_s4005, h⟩ := bdO h
  refine q_seq (w_fold (fun q1 : Unit => [.dat (eD (DV.box x)), .dat (v_gram.d), .dat (v_rows2.d), .un, .un, .un]) () (sle_same (sle_same (sle_same (sle_same (sle_same (sle_same sle_nil)))))) (wl_seq (f := (fun p : Sq eI => p.d)) (sq_v (ep_var (i := 2) rfl))) h_s4005 (fun y1 q1 s' h => ?_) ?_)
  · refine w_at [.dat (eD (DV.box x)), .dat (v_gram.d), .dat (v_rows2.d), .dat (y1.d), .un, .un] ?_
    unfold m_Lattice_init_S_l1 at h
    obtain ⟨s4004, h_s4004, h⟩ := bdO h
    refine w_fold (fun q2 : Unit => [.dat (eD (DV.box x)), .dat (v_gram.d), .dat (v_rows2.d), .dat (y1.d), .un, .un]) () (sle_same (sle_same (sle_same (sle_same (sle_same (sle_same sle_nil)))))) (wl_seq (f := eI) (sq_v (ep_var (i := 3) rfl))) h_s4004 (fun y2 q2 s' h => ?_) ?_
    · refine w_at [.dat (eD (DV.box x)), .dat (v_gram.d), .dat (v_rows2.d), .dat (y1.d), .dat (eI y2), .un] ?_
      unfold m_Lattice_init_S_l2 at h
      refine w_if (tp_test (ep_gt (ep_abs (ep_var (i := 4) rfl)) ep_int)) (fun hb => ?_) (fun hb => ?_)
      · replace h := ifT hb h
        cases h
      · replace h := ifF hb h
        refine w_next ?_
        cases h
        exact (by repeat (first | exact sle_nil | refine sle_same ?_ | refine sle_un ?_))
    cases h
    exact (by repeat (first | exact sle_nil | refine sle_same ?_ | refine sle_un ?_))
  obtain ⟨t4006, h_t4006, h⟩ := bdO h
  obtain ⟨s7011, h_s7011, h⟩ := bdO h
  refine q_seq (w_fold (fun q3 : Unit => [.dat (eD (DV.box x)), .dat (v_gram.d), .dat (v_rows2.d), .un, .un, .un]) () (sle_same (sle_same (sle_same (sle_same (sle_same (sle_same sle_nil)))))) (wl_range2 ep_int (ep_add (ep_lenM (f := (fun p : Sq eI => p.d)) (ip_v (ep_var (i := 2) rfl))) ep_int) h_t4006) h_s7011 (fun y3 q3 s' h => ?_) ?_)
  · refine w_at [.dat (eD (DV.box x)), .dat (v_gram.d), .dat (v_rows2.d), .un, .un, .dat (eI y3)] ?_
    unfold m_Lattice_init_S_l3 at h
    obtain ⟨t7008, h_t7008, h⟩ := bdO h
    obtain ⟨t7009, h_t7009, h⟩ := bdO h
    obtain ⟨t7010, h_t7010, h⟩ := bdO h
    refine w_if (tp_test (ep_lt (ep_meth (ep_mk_Grid2 (Cl := C_Lattice) (ap_cons (LXp.ex (lp_lcA (e := (fun p : Sq eI => p.d)) (fun x7007 => [.dat (eD (DV.box x)), .dat (v_gram.d), .dat (v_rows2.d), .dat (x7007.d), .un, .dat (eI y3)]) (wl_seq (f := (fun p : Sq eI => p.d)) (sq_v (ep_slQ (ep_var (i := 2) rfl) op_none (op_some (ep_var (i := 5) rfl))))) h_t7008 (by decide) (fun x7007 _ h => by exact EXp.is (d := (Sq.cut x7007 none (some y3)).d) (ep_slQ (ep_var (i := 3) rfl) op_none (op_some (ep_var (i := 5) rfl))) (congrArg (fun p : Sq eI => p.d) (Option.some.inj h))))) (ap_cons (ep_var (i := 5) rfl) ap_nil)) h_t7009) rfl ap_nil (wit_det (Cl := C_Lattice) h_t7010)) ep_int)) (fun hb => ?_) (fun hb => ?_)
    · replace h := ifT hb h
      cases h
    · replace h := ifF hb h
      refine w_next ?_
      cases h
      exact (by repeat (first | exact sle_nil | refine sle_same ?_ | refine sle_un ?_))
  obtain ⟨t7012, h_t7012, h⟩ := bdO h
  cases h
  exact w_fld1 (fun _ _ z => z) rfl (ep_mk_Grid1 (Cl := C_Lattice) (ap_cons (ep_var (i := 2) rfl) ap_nil) h_t7012) T.cl_Lattice T.n_Lattice_gram ⟨rfl, rfl, rfl, rfl, rfl⟩
end
def R_Lattice_init_G (C_Grid : Addr) (C_Lattice : Addr) : List DV → List (Str × DV) → Prop := fun ds r => ∃ (v_gram : M_Grid) (y : M_Lattice), ds = [(e_Grid C_Grid C_Lattice) v_gram] ∧ m_Lattice_init_G v_gram = some y ∧ r = f_Lattice C_Grid C_Lattice y
section
variable {P : Program} {w : World} {K : PySem.W.Frag} {mg : Str → Option Value} {base : Heap} {C_Grid : Addr} {C_Lattice : Addr} {f : Addr} {fd : FuncData}
theorem ok_Lattice_init_G (F : FunD K "__init__" "Lattice.__init__" (defArgs s_Lattice_init) (defBody s_Lattice_init) (defScope s_Lattice_init) [] [] f fd) (T : Txt P K mg base C_Grid C_Lattice) (c_square_rows : CalG P w K mg base 3 "square_rows" (spD K (R_square_rows_G C_Grid C_Lattice)) []) (c_check_symmetric : CalG P w K mg base 2 "check_symmetric" (spD K (R_check_symmetric C_Grid C_Lattice)) []) (m_Grid_determinant : MetG P w K mg base 44 C_Grid "determinant" (spD K (rDetG C_Grid))) (k_Grid : MakG P w K mg base 6 "Grid" C_Grid (spI K C_Grid rInit) []) (k_Grid1 : MakG P w K mg base 6 "Grid" C_Grid (spI K C_Grid rInit) [.non]) : FnOk P w K mg base CX0 45 f fd ["self", "gram"] (spI K C_Lattice (R_Lattice_init_G C_Grid C_Lattice)) := by
  refine okWI F sc_Lattice_init (fun ds r h => by obtain ⟨v_gram, y, rfl, _⟩ := h; rfl) fun cdv A outer s H E hr => ⟨_, (pss_cons (ps_set (i := 2) sc_Lattice_init.nd rfl (Or.inl rfl) (pe_cG c_square_rows hr (by decide) rfl (pa_cons (pv 1) pa_nil)))
      (pss_cons (ps_expr (pe_cG c_check_symmetric hr (by decide) rfl (pa_cons (pv 2) pa_nil)))
      (pss_cons (ps_for PassesOwn.never rfl (pi_seqK (K := K) (pv 2)) (pg_name (i := 3) sc_Lattice_init.nd rfl (Or.inl rfl)) (pss_one (ps_for PassesOwn.never rfl (pi_seqK (K := K) (pv 3)) (pg_name (i := 4) sc_Lattice_init.nd rfl (Or.inl rfl)) (pss_one (ps_if (pt_cmpR op_gt (pe_callB call_abs (by rfl) T.u_abs PyProof.Rows.boot_abs (pa_cons (pv 4) pa_nil)) (pe_globE rfl T.v_MOST_ITEM) (nomark _)) (pss_one ps_never) pss_nil)))))
      (pss_cons (ps_for PassesOwn.never rfl (pi_range2 (by rfl) T.u_range (pa_cons pe_int (pa_cons (pe_op op_add (pe_callB (call_lenK (K := K)) (by rfl) T.u_len (by decide +kernel) (pa_cons (pv 2) pa_nil)) pe_int) pa_nil))) (pg_name (i := 5) sc_Lattice_init.nd rfl (Or.inr rfl)) (pss_one (ps_if (pt_cmpR op_lt (pe_mtG0 m_Grid_determinant hr (by decide) (pe_mkG k_Grid hr (by decide) rfl (pa_cons (pe_lc (own := [("row", 3)]) (g := gName 3) (tt := tYes) (by rfl) sc_Lattice_init.nd (pi_seqK (K := K) (pe_slice (sl_tupK (K := K)) (pv 2) po_none (po_some (pv 5)))) (blkOk_by (N := ["self", "gram", "rows", "row", "item", "k"]) (sc := defScope s_Lattice_init) (own := [("row", 3)]) (by first | decide +kernel | kernel_rfl)) (fun _ _ _ _ _ => (pg_name (i := 3) sc_Lattice_init.nd rfl (Or.inl rfl))) (fun _ _ _ _ _ => pts_nil) (fun _ _ _ _ _ => (pe_slice (sl_tupK (K := K)) (pv 3) po_none (po_some (pv 5))))) (pa_cons (pv 5) pa_nil)))) pe_int (nomark _)) (pss_one ps_never) pss_nil)))
      (pss_one (ps_fld (pv 0) (pe_mkG k_Grid1 hr (by decide) rfl (pa_cons (pv 2) pa_nil)) rfl)))))), ?_⟩
  rintro ds fs x dx F0 ⟨v_gram, y, rfl, h, rfl⟩
  refine w_at [.dat (eD (DV.box x)), .dat ((e_Grid C_Grid C_Lattice) v_gram), .un, .un, .un, .un] ?_
  unfold m_Lattice_init_G at h
  obtain ⟨v_rows2, h_v_rows2, h⟩ := bdO h
  refine q_seq (w_asg (i := 2) (ep_call (ap_cons (ep_var (i := 1) rfl) ap_nil) ⟨v_gram, v_rows2, rfl, h_v_rows2, rfl⟩) [.dat (eD (DV.box x)), .dat ((e_Grid C_Grid C_Lattice) v_gram), .dat ((eT (eT eI)) v_rows2), .un, .un, .un] ?_)
  obtain ⟨t3, h_t3, h⟩ := bdO h
  refine q_seq (w_drop (ep_call (ap_cons (EXp.is (ep_var (i := 2) rfl) (by simp [Sq.L, Sq.T, List.map_map, Function.comp_def])) ap_nil) ⟨(Sq.T (fun p : Sq eI => p.d) (v_rows2.map (Sq.T eI))), t3, rfl, h_t3, rfl⟩) ?_)
  obtain ⟨s4005, h_s4005, h⟩ := bdO h
  refine q_seq (w_fold (fun q1 : Unit => [.dat (eD (DV.box x)), .dat ((e_Grid C_Grid C_Lattice) v_gram), .dat ((eT (eT eI)) v_rows2), .un, .un, .un]) () (sle_same (sle_same (sle_same (sle_same (sle_same (sle_same sle_nil)))))) (wl_seq (f := (eT eI)) (sq_tup (ep_var (i := 2) rfl))) h_s4005 (fun y1 q1 s' h => ?_) ?_)
  · refine w_at [.dat (eD (DV.box x)), .dat ((e_Grid C_Grid C_Lattice) v_gram), .dat ((eT (eT eI)) v_rows2), .dat ((eT eI) y1), .un, .un] ?_
    unfold m_Lattice_init_G_l1 at h
    obtain ⟨s4004, h_s4004, h⟩ := bdO h
    refine w_fold (fun q2 : Unit => [.dat (eD (DV.box x)), .dat ((e_Grid C_Grid C_Lattice) v_gram), .dat ((eT (eT eI)) v_rows2), .dat ((eT eI) y1), .un, .un]) () (sle_same (sle_same (sle_same (sle_same (sle_same (sle_same sle_nil)))))) (wl_seq (f := eI) (sq_tup (ep_var (i := 3) rfl))) h_s4004 (fun y2 q2 s' h => ?_) ?_
    · refine w_at [.dat (eD (DV.box x)), .dat ((e_Grid C_Grid C_Lattice) v_gram), .dat ((eT (eT eI)) v_rows2), .dat ((eT eI) y1), .dat (eI y2), .un] ?_
      unfold m_Lattice_init_G_l2 at h
      refine w_if (tp_test (ep_gt (ep_abs (ep_var (i := 4) rfl)) ep_int)) (fun hb => ?_) (fun hb => ?_)
      · replace h := ifT hb h
        cases h
      · replace h := ifF hb h
        refine w_next ?_
        cases h
        exact (by repeat (first | exact sle_nil | refine sle_same ?_ | refine sle_un ?_))
    cases h
    exact (by repeat (first | exact sle_nil | refine sle_same ?_ | refine sle_un ?_))
  obtain ⟨t4006, h_t4006, h⟩ := bdO h
  obtain ⟨s7011, h_s7011, h⟩ := bdO h
  refine q_seq (w_fold (fun q3 : Unit => [.dat (eD (DV.box x)), .dat ((e_Grid C_Grid C_Lattice) v_gram), .dat ((eT (eT eI)) v_rows2), .un, .un, .un]) () (sle_same (sle_same (sle_same (sle_same (sle_same (sle_same sle_nil)))))) (wl_range2 ep_int (ep_add (ep_lenM (f := (eT eI)) (ip_tup (ep_var (i := 2) rfl))) ep_int) h_t4006) h_s7011 (fun y3 q3 s' h => ?_) ?_)
  · refine w_at [.dat (eD (DV.box x)), .dat ((e_Grid C_Grid C_Lattice) v_gram), .dat ((eT (eT eI)) v_rows2), .un, .un, .dat (eI y3)] ?_
    unfold m_Lattice_init_G_l3 at h
    obtain ⟨t7008, h_t7008, h⟩ := bdO h
    obtain ⟨t7009, h_t7009, h⟩ := bdO h
    obtain ⟨t7010, h_t7010, h⟩ := bdO h
    refine w_if (tp_test (ep_lt (ep_meth (ep_mk_Grid2 (Cl := C_Lattice) (ap_cons (EXp.is (LXp.ex (lp_lcA (e := (eT eI)) (fun x7007 => [.dat (eD (DV.box x)), .dat ((e_Grid C_Grid C_Lattice) v_gram), .dat ((eT (eT eI)) v_rows2), .dat ((eT eI) x7007), .un, .dat (eI y3)]) (wl_seq (f := (eT eI)) (sq_tup (ep_slT (f := (eT eI)) (ep_var (i := 2) rfl) op_none (op_some (ep_var (i := 5) rfl))))) h_t7008 (by decide) (fun x7007 _ h => by exact EXp.is (d := (eT eI) (cutL x7007 none (some y3))) (ep_slT (f := eI) (ep_var (i := 3) rfl) op_none (op_some (ep_var (i := 5) rfl))) (congrArg (eT eI) (Option.some.inj h))))) (by simp [Sq.L, Sq.T, List.map_map, Function.comp_def])) (ap_cons (ep_var (i := 5) rfl) ap_nil)) h_t7009) rfl ap_nil (wit_det (Cl := C_Lattice) h_t7010)) ep_int)) (fun hb => ?_) (fun hb => ?_)
    · replace h := ifT hb h
      cases h
    · replace h := ifF hb h
      refine w_next ?_
      cases h
      exact (by repeat (first | exact sle_nil | refine sle_same ?_ | refine sle_un ?_))
  obtain ⟨t7012, h_t7012, h⟩ := bdO h
  cases h
  exact w_fld1 (fun _ _ z => z) rfl (ep_mk_Grid1 (Cl := C_Lattice) (ap_cons (EXp.is (ep_var (i := 2) rfl) (by simp [Sq.L, Sq.T, List.map_map, Function.comp_def])) ap_nil) h_t7012) T.cl_Lattice T.n_Lattice_gram ⟨rfl, rfl, rfl, rfl, rfl⟩
end
def R_Lattice (C_Grid : Addr) (C_Lattice : Addr) : List DV → List (Str × DV) → Prop := fun ds fs => R_Lattice_init_S C_Grid C_Lattice ds fs ∨ R_Lattice_init_G C_Grid C_Lattice ds fs
section
variable {K : PySem.W.Frag} {S : List SL} {tr : TA} {C_Grid C_Lattice : Addr} {y : M_Lattice}
theorem ep_mk_Lattice_S {p : Sq eSq} (hr : AXp K tr S [p.d]) (h : m_Lattice_init_S p = some y) : EXp K (tMake C_Lattice (spI K C_Lattice (R_Lattice C_Grid C_Lattice)) [] E0 tr) S (e_Lattice C_Grid C_Lattice y) := ep_make (dd := []) hr (fun _ => .nil) (.inl ⟨p, y, rfl, h, rfl⟩)
theorem ep_mk_Lattice_G {p : M_Grid} (hr : AXp K tr S [e_Grid C_Grid C_Lattice p]) (h : m_Lattice_init_G p = some y) : EXp K (tMake C_Lattice (spI K C_Lattice (R_Lattice C_Grid C_Lattice)) [] E0 tr) S (e_Lattice C_Grid C_Lattice y) := ep_make (dd := []) hr (fun _ => .nil) (.inr ⟨p, y, rfl, h, rfl⟩)
end

end G09
set_option Elab.async false
set_option linter.all false
set_option maxRecDepth 100000
set_option maxHeartbeats 4000000
namespace G09
open PySem PySem.Spec PyProof.Rows L2 Evl G
noncomputable def m_Lattice_eq (v_self : M_Lattice) (v_other : M_Lattice) : Option Bool := (if true then (m_Grid_eq v_self.gram v_other.gram).bind fun t1 => some t1 else some false).bind fun t2 => some t2
def R_Lattice_eq (C_Grid : Addr) (C_Lattice : Addr) : List DV → DV → Prop := fun ds r => ∃ (v_self : M_Lattice) (v_other : M_Lattice) (y : Bool), ds = [(e_Lattice C_Grid C_Lattice) v_self, (e_Lattice C_Grid C_Lattice) v_other] ∧ m_Lattice_eq v_self v_other = some y ∧ r = eB y
section
variable {P : Program} {w : World} {K : PySem.W.Frag} {mg : Str → Option Value} {base : Heap} {C_Grid : Addr} {C_Lattice : Addr} {f : Addr} {fd : FuncData}
theorem ok_Lattice_eq (F : Fun K "__eq__" "Lattice.__eq__" s_Lattice_eq f fd) (T : Txt P K mg base C_Grid C_Lattice) (m_Grid_eq : MetG P w K mg base 2 C_Grid "__eq__" (spD K (R_Grid_eq C_Grid C_Lattice))) : FnOk P w K mg base CX0 4 f fd ["self", "other"] (spD K (R_Lattice_eq C_Grid C_Lattice)) := by
  refine okW F sc_Lattice_eq (fun ds r h => by obtain ⟨v_self, v_other, y, rfl, _⟩ := h; rfl) fun cdv A outer s H E hr => ⟨_, (pss_one (ps_ret (pe_and (pe_callB (call_isK (K := K)) (by rfl) T.u_isinstance PyProof.Rows.boot_isinstance (pa_cons (pv 1) (pa_cons (pe_glob (v := .ref C_Lattice) rfl T.m_Lattice rfl) pa_nil))) (pe_one (pe_cmpR (opEK (K := K) m_Grid_eq hr (by decide)) (pe_fldK (K := K) (pv 0)) (pe_fldK (K := K) (pv 1)) (nomark _)))))), ?_⟩
  rintro ds r ⟨v_self, v_other, y, rfl, h, rfl⟩
  refine w_at [.dat ((e_Lattice C_Grid C_Lattice) v_self), .dat ((e_Lattice C_Grid C_Lattice) v_other)] ?_
  unfold m_Lattice_eq at h
  obtain ⟨t2, h_t2, h⟩ := bdO h
  exact w_ret (d := eB t2) (ep_andM (ep_isi (ep_var (i := 1) rfl) (.ins T.gLattice.own) (.own C_Lattice) (kit_self T.gLattice.own)) h_t2 (fun hb _ h => by obtain ⟨t1, h_t1, h⟩ := bdO h; exact EXp.is (d := eB t1) (ep_ownE (ep_fld (ep_var (i := 0) rfl) T.cl_Lattice T.n_Lattice_gram rfl) (ep_fld (ep_var (i := 1) rfl) T.cl_Lattice T.n_Lattice_gram rfl) (.ins T.gGrid.own) T.gGrid.nf ⟨v_self.gram, v_other.gram, t1, rfl, h_t1, rfl⟩) (congrArg eB (Option.some.inj h)))) (congrArg eB (Option.some.inj h))
end
noncomputable def m_Lattice_eq_G (v_self : M_Lattice) (v_other : M_Grid) : Option Bool := some false
def R_Lattice_eq_G (C_Grid : Addr) (C_Lattice : Addr) : List DV → DV → Prop := fun ds r => ∃ (v_self : M_Lattice) (v_other : M_Grid) (y : Bool), ds = [(e_Lattice C_Grid C_Lattice) v_self, (e_Grid C_Grid C_Lattice) v_other] ∧ m_Lattice_eq_G v_self v_other = some y ∧ r = eB y
section
variable {P : Program} {w : World} {K : PySem.W.Frag} {mg : Str → Option Value} {base : Heap} {C_Grid : Addr} {C_Lattice : Addr} {f : Addr} {fd : FuncData}
theorem ok_Lattice_eq_G (F : Fun K "__eq__" "Lattice.__eq__" s_Lattice_eq f fd) (T : Txt P K mg base C_Grid C_Lattice) (m_Grid_eq : MetG P w K mg base 2 C_Grid "__eq__" (spD K (R_Grid_eq C_Grid C_Lattice))) : FnOk P w K mg base CX0 4 f fd ["self", "other"] (spD K (R_Lattice_eq_G C_Grid C_Lattice)) := by
  refine okW F sc_Lattice_eq (fun ds r h => by obtain ⟨v_self, v_other, y, rfl, _⟩ := h; rfl) fun cdv A outer s H E hr => ⟨_, (pss_one (ps_ret (pe_and (pe_callB (call_isK (K := K)) (by rfl) T.u_isinstance PyProof.Rows.boot_isinstance (pa_cons (pv 1) (pa_cons (pe_glob (v := .ref C_Lattice) rfl T.m_Lattice rfl) pa_nil))) (pe_one (pe_cmpR (opEK (K := K) m_Grid_eq hr (by decide)) (pe_fldK (K := K) (pv 0)) (pe_fldK (K := K) (pv 1)) (nomark _)))))), ?_⟩
  rintro ds r ⟨v_self, v_other, y, rfl, h, rfl⟩
  refine w_at [.dat ((e_Lattice C_Grid C_Lattice) v_self), .dat ((e_Grid C_Grid C_Lattice) v_other)] ?_
  unfold m_Lattice_eq_G at h
  exact w_ret (d := eB false) (EXp.is (e := .bl false) (ep_andV (a := false) (b := false) (ep_isi (ep_var (i := 1) rfl) (.ins T.gGrid.own) (.own C_Lattice) T.not_Grid_Lattice) (fun h => by cases h)) rfl) (congrArg eB (Option.some.inj h))
end
noncomputable def m_Lattice_eq_N (v_self : M_Lattice) (v_other : Unit) : Option Bool := some false
def R_Lattice_eq_N (C_Grid : Addr) (C_Lattice : Addr) : List DV → DV → Prop := fun ds r => ∃ (v_self : M_Lattice) (v_other : Unit) (y : Bool), ds = [(e_Lattice C_Grid C_Lattice) v_self, eN v_other] ∧ m_Lattice_eq_N v_self v_other = some y ∧ r = eB y
section
variable {P : Program} {w : World} {K : PySem.W.Frag} {mg : Str → Option Value} {base : Heap} {C_Grid : Addr} {C_Lattice : Addr} {f : Addr} {fd : FuncData}
theorem ok_Lattice_eq_N (F : Fun K "__eq__" "Lattice.__eq__" s_Lattice_eq f fd) (T : Txt P K mg base C_Grid C_Lattice) (m_Grid_eq : MetG P w K mg base 2 C_Grid "__eq__" (spD K (R_Grid_eq C_Grid C_Lattice))) : FnOk P w K mg base CX0 4 f fd ["self", "other"] (spD K (R_Lattice_eq_N C_Grid C_Lattice)) := by
  refine okW F sc_Lattice_eq (fun ds r h => by obtain ⟨v_self, v_other, y, rfl, _⟩ := h; rfl) fun cdv A outer s H E hr => ⟨_, (pss_one (ps_ret (pe_and (pe_callB (call_isK (K := K)) (by rfl) T.u_isinstance PyProof.Rows.boot_isinstance (pa_cons (pv 1) (pa_cons (pe_glob (v := .ref C_Lattice) rfl T.m_Lattice rfl) pa_nil))) (pe_one (pe_cmpR (opEK (K := K) m_Grid_eq hr (by decide)) (pe_fldK (K := K) (pv 0)) (pe_fldK (K := K) (pv 1)) (nomark _)))))), ?_⟩
  rintro ds r ⟨v_self, v_other, y, rfl, h, rfl⟩
  refine w_at [.dat ((e_Lattice C_Grid C_Lattice) v_self), .dat (eN v_other)] ?_
  unfold m_Lattice_eq_N at h
  exact w_ret (d := eB false) (EXp.is (e := .bl false) (ep_andV (a := false) (b := false) (ep_isi (ep_var (i := 1) rfl) .non (.own C_Lattice) T.n_not_Lattice) (fun h => by cases h)) rfl) (congrArg eB (Option.some.inj h))
end
def R_Lattice_contains (C_Grid : Addr) (C_Lattice : Addr) : List DV → DV → Prop := fun ds r => ∃ (v_self : M_Lattice) (v_v : (List Int)) (y : Bool), ds = [(e_Lattice C_Grid C_Lattice) v_self, (eT eI) v_v] ∧ m_Lattice_contains v_self v_v = some y ∧ r = eB y
section
variable {P : Program} {w : World} {K : PySem.W.Frag} {mg : Str → Option Value} {base : Heap} {C_Grid : Addr} {C_Lattice : Addr} {f : Addr} {fd : FuncData}
theorem ok_Lattice_contains (F : Fun K "__contains__" "Lattice.__contains__" s_Lattice_contains f fd) (T : Txt P K mg base C_Grid C_Lattice) (c_is_integer : CalG P w K mg base 2 "is_integer" (spD K (R_is_integer C_Grid C_Lattice)) []) : FnOk P w K mg base CX0 3 f fd ["self", "v"] (spD K (R_Lattice_contains C_Grid C_Lattice)) := by
  refine okW F sc_Lattice_contains (fun ds r h => by obtain ⟨v_self, v_v, y, rfl, _⟩ := h; rfl) fun cdv A outer s H E hr => ⟨_, (pss_cons (ps_if (PW.pt (pw_or (pt_not (pt_val (pe_callB (call_isK (K := K)) (by rfl) T.u_isinstance PyProof.Rows.boot_isinstance (pa_cons (pv 1) (pa_cons (pe_bltn (v := .ty "tuple") (u := .type "tuple") (by rfl) T.u_tuple (by decide +kernel) rfl) pa_nil))))) (pw_or1 (pt_cmpR op_ne (pe_callB (call_lenK (K := K)) (by rfl) T.u_len (by decide +kernel) (pa_cons (pv 1) pa_nil)) (pe_callB (call_lenK (K := K)) (by rfl) T.u_len (by decide +kernel) (pa_cons (pe_fldK (K := K) (pe_fldK (K := K) (pv 0))) pa_nil)) (nomark _))))) (pss_one (ps_ret pe_bl)) pss_nil)
      (pss_one (ps_ret (pe_callB (cr_allK (K := K)) (by rfl) T.u_all PyProof.Rows.boot_all (pa_cons (pe_lc (own := [("item", 2)]) (g := gName 2) (tt := tYes) (by rfl) sc_Lattice_contains.nd (pi_seqK (K := K) (pv 1)) (blkOk_by (N := ["self", "v", "item"]) (sc := defScope s_Lattice_contains) (own := [("item", 2)]) (by first | decide +kernel | kernel_rfl)) (fun _ _ _ _ _ => (pg_name (i := 2) sc_Lattice_contains.nd rfl (Or.inl rfl))) (fun _ _ _ _ _ => pts_nil) (fun _ _ _ _ _ => (pe_cG c_is_integer hr (by decide) rfl (pa_cons (pv 2) pa_nil)))) pa_nil))))), ?_⟩
  rintro ds r ⟨v_self, v_v, y, rfl, h, rfl⟩
  refine w_at [.dat ((e_Lattice C_Grid C_Lattice) v_self), .dat ((eT eI) v_v), .un] ?_
  unfold m_Lattice_contains at h
  refine q_seq (w_if (tp_or (tp_not (tp_val (ep_isiB (b := true) (ep_var (i := 1) rfl) .tup (by decide +kernel)))) (fun _ => (tp_test (ep_neI (ep_lenM (f := eI) (ip_tup (ep_var (i := 1) rfl))) (ep_lenM (f := (eT eI)) (ip_tup (ep_fld (ep_fld (ep_var (i := 0) rfl) T.cl_Lattice T.n_Lattice_gram rfl) T.cl_Grid T.n_Grid_rows rfl))))))) (fun hb => ?_) (fun hb => ?_))
  · replace h := ifT hb h
    exact w_ret (d := eB false) ep_bl (congrArg eB (Option.some.inj h))
  · replace h := ifF hb h
    refine w_next ?_
    obtain ⟨t3, h_t3, h⟩ := bdO h
    exact w_ret (d := eB (t3.all id)) (ep_all (LXp.ex (lp_lcA (e := eB) (fun x1 => [.dat ((e_Lattice C_Grid C_Lattice) v_self), .dat ((eT eI) v_v), .dat (eI x1)]) (wl_seq (f := eI) (sq_tup (ep_var (i := 1) rfl))) h_t3 (by decide) (fun x1 _ h => by obtain ⟨t2, h_t2, h⟩ := bdO h; exact EXp.is (d := eB t2) (ep_call (ap_cons (ep_var (i := 2) rfl) ap_nil) ⟨x1, t2, rfl, h_t2, rfl⟩) (congrArg eB (Option.some.inj h)))))) (congrArg eB (Option.some.inj h))
end
noncomputable def m_Lattice_contains_D (v_self : M_Lattice) (v_v : DV) : Option Bool := (isDO v_v "tuple").bind fun t1 => (if (!t1) then some true else (itemsD v_v).bind fun t2 => some (!decide ((t2.length : Int) = (v_self.gram.rows.length : Int)))).bind fun t3 => if t3 then some false else (itemsD v_v).bind fun t4 => (lcA (fun x5 => (m_is_integer_D x5).bind fun t6 => some t6) t4).bind fun t7 => some (t7.all id)
def R_Lattice_contains_D (C_Grid : Addr) (C_Lattice : Addr) : List DV → DV → Prop := fun ds r => ∃ (v_self : M_Lattice) (v_v : DV) (y : Bool), ds = [(e_Lattice C_Grid C_Lattice) v_self, eD v_v] ∧ m_Lattice_contains_D v_self v_v = some y ∧ r = eB y
section
variable {P : Program} {w : World} {K : PySem.W.Frag} {mg : Str → Option Value} {base : Heap} {C_Grid : Addr} {C_Lattice : Addr} {f : Addr} {fd : FuncData}
theorem ok_Lattice_contains_D (F : Fun K "__contains__" "Lattice.__contains__" s_Lattice_contains f fd) (T : Txt P K mg base C_Grid C_Lattice) (c_is_integer : CalG P w K mg base 2 "is_integer" (spD K (R_is_integer_D C_Grid C_Lattice)) []) : FnOk P w K mg base CX0 3 f fd ["self", "v"] (spD K (R_Lattice_contains_D C_Grid C_Lattice)) := by
  refine okW F sc_Lattice_contains (fun ds r h => by obtain ⟨v_self, v_v, y, rfl, _⟩ := h; rfl) fun cdv A outer s H E hr => ⟨_, (pss_cons (ps_if (PW.pt (pw_or (pt_not (pt_val (pe_callB (call_isK (K := K)) (by rfl) T.u_isinstance PyProof.Rows.boot_isinstance (pa_cons (pv 1) (pa_cons (pe_bltn (v := .ty "tuple") (u := .type "tuple") (by rfl) T.u_tuple (by decide +kernel) rfl) pa_nil))))) (pw_or1 (pt_cmpR op_ne (pe_callB (call_lenK (K := K)) (by rfl) T.u_len (by decide +kernel) (pa_cons (pv 1) pa_nil)) (pe_callB (call_lenK (K := K)) (by rfl) T.u_len (by decide +kernel) (pa_cons (pe_fldK (K := K) (pe_fldK (K := K) (pv 0))) pa_nil)) (nomark _))))) (pss_one (ps_ret pe_bl)) pss_nil)
      (pss_one (ps_ret (pe_callB (cr_allK (K := K)) (by rfl) T.u_all PyProof.Rows.boot_all (pa_cons (pe_lc (own := [("item", 2)]) (g := gName 2) (tt := tYes) (by rfl) sc_Lattice_contains.nd (pi_seqK (K := K) (pv 1)) (blkOk_by (N := ["self", "v", "item"]) (sc := defScope s_Lattice_contains) (own := [("item", 2)]) (by first | decide +kernel | kernel_rfl)) (fun _ _ _ _ _ => (pg_name (i := 2) sc_Lattice_contains.nd rfl (Or.inl rfl))) (fun _ _ _ _ _ => pts_nil) (fun _ _ _ _ _ => (pe_cG c_is_integer hr (by decide) rfl (pa_cons (pv 2) pa_nil)))) pa_nil))))), ?_⟩
  rintro ds r ⟨v_self, v_v, y, rfl, h, rfl⟩
  refine w_at [.dat ((e_Lattice C_Grid C_Lattice) v_self), .dat (eD v_v), .un] ?_
  unfold m_Lattice_contains_D at h
  obtain ⟨t1, h_t1, h⟩ := bdO h
  obtain ⟨t3, h_t3, h⟩ := bdO h
  refine q_seq (w_if (tp_orM (tp_not (tp_val (ep_isD (ep_var (i := 1) rfl) h_t1))) h_t3 (fun hb _ h => by obtain ⟨t2, h_t2, h⟩ := bdO h; exact TXp.is (a := (!decide ((t2.length : Int) = (v_self.gram.rows.length : Int)))) (tp_test (ep_neI (ep_lenM (f := eD) (ip_D (ep_var (i := 1) rfl) h_t2)) (ep_lenM (f := (eT eI)) (ip_tup (ep_fld (ep_fld (ep_var (i := 0) rfl) T.cl_Lattice T.n_Lattice_gram rfl) T.cl_Grid T.n_Grid_rows rfl))))) (Option.some.inj h))) (fun hb => ?_) (fun hb => ?_))
  · replace h := ifT hb h
    exact w_ret (d := eB false) ep_bl (congrArg eB (Option.some.inj h))
  · replace h := ifF hb h
    refine w_next ?_
    obtain ⟨t4, h_t4, h⟩ := bdO h
    obtain ⟨t7, h_t7, h⟩ := bdO h
    exact w_ret (d := eB (t7.all id)) (ep_all (LXp.ex (lp_lcA (e := eB) (fun x5 => [.dat ((e_Lattice C_Grid C_Lattice) v_self), .dat (eD v_v), .dat (eD x5)]) (wl_seq (f := eD) (sq_D (ep_var (i := 1) rfl) h_t4)) h_t7 (by decide) (fun x5 _ h => by obtain ⟨t6, h_t6, h⟩ := bdO h; exact EXp.is (d := eB t6) (ep_call (ap_cons (ep_var (i := 2) rfl) ap_nil) ⟨x5, t6, rfl, h_t6, rfl⟩) (congrArg eB (Option.some.inj h)))))) (congrArg eB (Option.some.inj h))
end
def R_Lattice_rank (C_Grid : Addr) (C_Lattice : Addr) : List DV → DV → Prop := fun ds r => ∃ (v_self : M_Lattice) (y : Int), ds = [(e_Lattice C_Grid C_Lattice) v_self] ∧ m_Lattice_rank v_self = some y ∧ r = eI y
section
variable {P : Program} {w : World} {K : PySem.W.Frag} {mg : Str → Option Value} {base : Heap} {C_Grid : Addr} {C_Lattice : Addr} {f : Addr} {fd : FuncData}
theorem ok_Lattice_rank (F : Fun K "rank" "Lattice.rank" s_Lattice_rank f fd) (T : Txt P K mg base C_Grid C_Lattice) : FnOk P w K mg base CX0 2 f fd ["self"] (spD K (R_Lattice_rank C_Grid C_Lattice)) := by
  refine okW F sc_Lattice_rank (fun ds r h => by obtain ⟨v_self, y, rfl, _⟩ := h; rfl) fun cdv A outer s H E hr => ⟨_, (pss_one (ps_ret (pe_callB (call_lenK (K := K)) (by rfl) T.u_len (by decide +kernel) (pa_cons (pe_fldK (K := K) (pe_fldK (K := K) (pv 0))) pa_nil)))), ?_⟩
  rintro ds r ⟨v_self, y, rfl, h, rfl⟩
  refine w_at [.dat ((e_Lattice C_Grid C_Lattice) v_self)] ?_
  unfold m_Lattice_rank at h
  exact w_ret (d := eI (v_self.gram.rows.length : Int)) (ep_lenM (f := (eT eI)) (ip_tup (ep_fld (ep_fld (ep_var (i := 0) rfl) T.cl_Lattice T.n_Lattice_gram rfl) T.cl_Grid T.n_Grid_rows rfl))) (congrArg eI (Option.some.inj h))
end
def R_Lattice_determinant (C_Grid : Addr) (C_Lattice : Addr) : List DV → DV → Prop := fun ds r => ∃ (v_self : M_Lattice) (y : Int), ds = [(e_Lattice C_Grid C_Lattice) v_self] ∧ m_Lattice_determinant v_self = some y ∧ r = eI y
section
variable {P : Program} {w : World} {K : PySem.W.Frag} {mg : Str → Option Value} {base : Heap} {C_Grid : Addr} {C_Lattice : Addr} {f : Addr} {fd : FuncData}
theorem ok_Lattice_determinant (F : Fun K "determinant" "Lattice.determinant" s_Lattice_determinant f fd) (T : Txt P K mg base C_Grid C_Lattice) (m_Grid_determinant : MetG P w K mg base 44 C_Grid "determinant" (spD K (rDetG C_Grid))) : FnOk P w K mg base CX0 45 f fd ["self"] (spD K (R_Lattice_determinant C_Grid C_Lattice)) := by
  refine okW F sc_Lattice_determinant (fun ds r h => by obtain ⟨v_self, y, rfl, _⟩ := h; rfl) fun cdv A outer s H E hr => ⟨_, (pss_one (ps_ret (pe_mtG0 m_Grid_determinant hr (by decide) (pe_fldK (K := K) (pv 0))))), ?_⟩
  rintro ds r ⟨v_self, y, rfl, h, rfl⟩
  refine w_at [.dat ((e_Lattice C_Grid C_Lattice) v_self)] ?_
  unfold m_Lattice_determinant at h
  obtain ⟨t1, h_t1, h⟩ := bdO h
  exact w_ret (d := eI t1) (ep_meth (ep_fld (ep_var (i := 0) rfl) T.cl_Lattice T.n_Lattice_gram rfl) rfl ap_nil (wit_det (Cl := C_Lattice) h_t1)) (congrArg eI (Option.some.inj h))
end
noncomputable def m_Lattice_content_l1  (x : (List Int)) (s : (List Int)) : Option ((List Int)) := (catO s x).bind fun v_items2 => some v_items2
noncomputable def m_Lattice_content (v_self : M_Lattice) : Option Int := (some ([] : List Int)).bind fun v_items1 => (foldO m_Lattice_content_l1 v_self.gram.rows v_items1).bind fun s1003 => (m_content s1003).bind fun t1005 => some t1005
def R_Lattice_content (C_Grid : Addr) (C_Lattice : Addr) : List DV → DV → Prop := fun ds r => ∃ (v_self : M_Lattice) (y : Int), ds = [(e_Lattice C_Grid C_Lattice) v_self] ∧ m_Lattice_content v_self = some y ∧ r = eI y
section
variable {P : Program} {w : World} {K : PySem.W.Frag} {mg : Str → Option Value} {base : Heap} {C_Grid : Addr} {C_Lattice : Addr} {f : Addr} {fd : FuncData}
theorem ok_Lattice_content (F : Fun K "content" "Lattice.content" s_Lattice_content f fd) (T : Txt P K mg base C_Grid C_Lattice) (c_content_whole : CalG P w K mg base 2 "content_whole" (spD K (R_content C_Grid C_Lattice)) []) : FnOk P w K mg base CX0 3 f fd ["self"] (spD K (R_Lattice_content C_Grid C_Lattice)) := by
  refine okW F sc_Lattice_content (fun ds r h => by obtain ⟨v_self, y, rfl, _⟩ := h; rfl) fun cdv A outer s H E hr => ⟨_, (pss_cons (ps_set (i := 1) sc_Lattice_content.nd rfl (Or.inl rfl) (pe_lst pa_nil))
      (pss_cons (ps_for PassesOwn.never rfl (pi_seqK (K := K) (pe_fldK (K := K) (pe_fldK (K := K) (pv 0)))) (pg_name (i := 2) sc_Lattice_content.nd rfl (Or.inl rfl)) (pss_one (ps_expr (pe_bm PySem.F.plainAttrs_list PySem.F.slot_list_extend PySem.F.type_list_extend mt_extend (pv 1) (pa_cons (pe_callTy (call_listK (K := K)) (by rfl) T.u_list PyProof.Rows.boot_list (pa_cons (pv 2) pa_nil)) pa_nil)))))
      (pss_one (ps_ret (pe_cG c_content_whole hr (by decide) rfl (pa_cons (pv 1) pa_nil)))))), ?_⟩
  rintro ds r ⟨v_self, y, rfl, h, rfl⟩
  refine w_at [.dat ((e_Lattice C_Grid C_Lattice) v_self), .un, .un] ?_
  unfold m_Lattice_content at h
  obtain ⟨v_items1, h_v_items1, h⟩ := bdO h
  refine q_seq (w_asgL (i := 1) (LXp.is (es := v_items1.map eI) (LXp.is (es := ([] : List Int).map eI) (lp_lst ap_nil) rfl) (by cases h_v_items1; rfl)) [.dat ((e_Lattice C_Grid C_Lattice) v_self), .own (v_items1.map eI), .un] ?_)
  obtain ⟨s1003, h_s1003, h⟩ := bdO h
  refine q_seq (w_fold (fun q1 : (List Int) => [.dat ((e_Lattice C_Grid C_Lattice) v_self), .own (q1.map eI), .un]) v_items1 (sle_same (sle_same (sle_same sle_nil))) (wl_seq (f := (eT eI)) (sq_tup (ep_fld (ep_fld (ep_var (i := 0) rfl) T.cl_Lattice T.n_Lattice_gram rfl) T.cl_Grid T.n_Grid_rows rfl))) h_s1003 (fun y1 q1 s' h => ?_) ?_)
  · refine w_at [.dat ((e_Lattice C_Grid C_Lattice) v_self), .own (q1.map eI), .dat ((eT eI) y1)] ?_
    unfold m_Lattice_content_l1 at h
    obtain ⟨v_items1002, h_v_items1002, h⟩ := bdO h
    refine w_ext (i := 1) (f := eI) rfl (lp_list (ip_tup (ep_var (i := 2) rfl))) h_v_items1002 [.dat ((e_Lattice C_Grid C_Lattice) v_self), .own (v_items1002.map eI), .dat ((eT eI) y1)] ?_
    cases h
    exact (by repeat (first | exact sle_nil | refine sle_same ?_ | refine sle_un ?_))
  refine w_free (i := 1) rfl [.dat ((e_Lattice C_Grid C_Lattice) v_self), .dat ((eL eI) s1003), .un] ?_
  obtain ⟨t1005, h_t1005, h⟩ := bdO h
  exact w_ret (d := eI t1005) (ep_call (ap_cons (ep_var (i := 1) rfl) ap_nil) ⟨s1003, t1005, rfl, h_t1005, rfl⟩) (congrArg eI (Option.some.inj h))
end
noncomputable def m_Lattice_is_even (v_self : M_Lattice) : Option Bool := (m_Lattice_rank v_self).bind fun t1 => (rngO t1).bind fun t2 => (lcA (fun x3 => (L2.atI v_self.gram.rows x3).bind fun t4 => (L2.atI t4 x3).bind fun t5 => (modO t5 (2 : Int)).bind fun t6 => some (decide (t6 = (0 : Int)))) t2).bind fun t7 => some (t7.all id)
def R_Lattice_is_even (C_Grid : Addr) (C_Lattice : Addr) : List DV → DV → Prop := fun ds r => ∃ (v_self : M_Lattice) (y : Bool), ds = [(e_Lattice C_Grid C_Lattice) v_self] ∧ m_Lattice_is_even v_self = some y ∧ r = eB y
section
variable {P : Program} {w : World} {K : PySem.W.Frag} {mg : Str → Option Value} {base : Heap} {C_Grid : Addr} {C_Lattice : Addr} {f : Addr} {fd : FuncData}
theorem ok_Lattice_is_even (F : Fun K "is_even" "Lattice.is_even" s_Lattice_is_even f fd) (T : Txt P K mg base C_Grid C_Lattice) (m_Lattice_rank : MetG P w K mg base 2 C_Lattice "rank" (spD K (R_Lattice_rank C_Grid C_Lattice))) : FnOk P w K mg base CX0 3 f fd ["self"] (spD K (R_Lattice_is_even C_Grid C_Lattice)) := by
  refine okW F sc_Lattice_is_even (fun ds r h => by obtain ⟨v_self, y, rfl, _⟩ := h; rfl) fun cdv A outer s H E hr => ⟨_, (pss_one (ps_ret (pe_callB (cr_allK (K := K)) (by rfl) T.u_all PyProof.Rows.boot_all (pa_cons (pe_lc (own := [("k", 1)]) (g := gName 1) (tt := tYes) (by rfl) sc_Lattice_is_even.nd (pi_range1 (by rfl) T.u_range (pa_cons (pe_mtG0 m_Lattice_rank hr (by decide) (pv 0)) pa_nil)) (blkOk_by (N := ["self", "k"]) (sc := defScope s_Lattice_is_even) (own := [("k", 1)]) (by first | decide +kernel | kernel_rfl)) (fun _ _ _ _ _ => (pg_name (i := 1) sc_Lattice_is_even.nd rfl (Or.inl rfl))) (fun _ _ _ _ _ => pts_nil) (fun _ _ _ _ _ => (pe_cmpR op_eq (pe_op op_modN (pe_ix (ix_seqK (K := K)) (pe_ix (ix_seqK (K := K)) (pe_fldK (K := K) (pe_fldK (K := K) (pv 0))) (pv 1) (fun _ _ => rfl)) (pv 1) (fun _ _ => rfl)) pe_int) pe_int (nomark _)))) pa_nil)))), ?_⟩
  rintro ds r ⟨v_self, y, rfl, h, rfl⟩
  refine w_at [.dat ((e_Lattice C_Grid C_Lattice) v_self), .un] ?_
  unfold m_Lattice_is_even at h
  obtain ⟨t1, h_t1, h⟩ := bdO h
  obtain ⟨t2, h_t2, h⟩ := bdO h
  obtain ⟨t7, h_t7, h⟩ := bdO h
  exact w_ret (d := eB (t7.all id)) (ep_all (LXp.ex (lp_lcA (e := eB) (fun x3 => [.dat ((e_Lattice C_Grid C_Lattice) v_self), .dat (eI x3)]) (wl_range1 (ep_meth (ep_var (i := 0) rfl) rfl ap_nil ⟨v_self, t1, rfl, h_t1, rfl⟩) h_t2) h_t7 (by decide) (fun x3 _ h => by obtain ⟨t4, h_t4, h⟩ := bdO h; obtain ⟨t5, h_t5, h⟩ := bdO h; obtain ⟨t6, h_t6, h⟩ := bdO h; exact EXp.is (d := eB (decide (t6 = (0 : Int)))) (ep_eqI (ep_mod (ep_ix (f := eI) (ip_tup (ep_ix (f := (eT eI)) (ip_tup (ep_fld (ep_fld (ep_var (i := 0) rfl) T.cl_Lattice T.n_Lattice_gram rfl) T.cl_Grid T.n_Grid_rows rfl)) (ep_var (i := 1) rfl) h_t4)) (ep_var (i := 1) rfl) h_t5) ep_int h_t6) ep_int) (congrArg eB (Option.some.inj h)))))) (congrArg eB (Option.some.inj h))
end
def R_Lattice_product (C_Grid : Addr) (C_Lattice : Addr) : List DV → DV → Prop := fun ds r => ∃ (v_self : M_Lattice) (v_v : (List Int)) (v_w : (List Int)) (y : Int), ds = [(e_Lattice C_Grid C_Lattice) v_self, (eT eI) v_v, (eT eI) v_w] ∧ m_Lattice_product v_self v_v v_w = some y ∧ r = eI y
section
variable {P : Program} {w : World} {K : PySem.W.Frag} {mg : Str → Option Value} {base : Heap} {C_Grid : Addr} {C_Lattice : Addr} {f : Addr} {fd : FuncData}
theorem ok_Lattice_product (F : Fun K "product" "Lattice.product" s_Lattice_product f fd) (T : Txt P K mg base C_Grid C_Lattice) (m_Lattice_contains : MetG P w K mg base 3 C_Lattice "__contains__" (spD K (R_Lattice_contains C_Grid C_Lattice))) (c_dot : CalG P w K mg base 2 "dot" (spD K (R_dot C_Grid C_Lattice)) []) (m_Grid_times : MetG P w K mg base 3 C_Grid "times" (spD K (R_Grid_times C_Grid C_Lattice))) : FnOk P w K mg base CX0 4 f fd ["self", "v", "w"] (spD K (R_Lattice_product C_Grid C_Lattice)) := by
  refine okW F sc_Lattice_product (fun ds r h => by obtain ⟨v_self, v_v, v_w, y, rfl, _⟩ := h; rfl) fun cdv A outer s H E hr => ⟨_, (pss_cons (ps_if (PW.pt (pw_or (pt_cmpR (opNI m_Lattice_contains hr (by decide)) (pv 1) (pv 0) (by with_unfolding_all rfl)) (pw_or1 (pt_cmpR (opNI m_Lattice_contains hr (by decide)) (pv 2) (pv 0) (by with_unfolding_all rfl))))) (pss_one ps_never) pss_nil)
      (pss_one (ps_ret (pe_cG c_dot hr (by decide) rfl (pa_cons (pv 1) (pa_cons (pe_mtG m_Grid_times hr (by decide) (pe_fldK (K := K) (pv 0)) (pa_cons (pv 2) pa_nil)) pa_nil)))))), ?_⟩
  rintro ds r ⟨v_self, v_v, v_w, y, rfl, h, rfl⟩
  refine w_at [.dat ((e_Lattice C_Grid C_Lattice) v_self), .dat ((eT eI) v_v), .dat ((eT eI) v_w)] ?_
  unfold m_Lattice_product at h
  obtain ⟨t1, h_t1, h⟩ := bdO h
  obtain ⟨t3, h_t3, h⟩ := bdO h
  refine q_seq (w_if (tp_orM (tp_test (ep_notIn (ep_var (i := 1) rfl) (ep_var (i := 0) rfl) ⟨v_self, v_v, t1, rfl, h_t1, rfl⟩)) h_t3 (fun hb _ h => by obtain ⟨t2, h_t2, h⟩ := bdO h; exact TXp.is (a := (!t2)) (tp_test (ep_notIn (ep_var (i := 2) rfl) (ep_var (i := 0) rfl) ⟨v_self, v_w, t2, rfl, h_t2, rfl⟩)) (Option.some.inj h))) (fun hb => ?_) (fun hb => ?_))
  · replace h := ifT hb h
    cases h
  · replace h := ifF hb h
    refine w_next ?_
    obtain ⟨t4, h_t4, h⟩ := bdO h
    obtain ⟨t5, h_t5, h⟩ := bdO h
    exact w_ret (d := eI t5) (ep_call (ap_cons (ep_var (i := 1) rfl) (ap_cons (ep_meth (ep_fld (ep_var (i := 0) rfl) T.cl_Lattice T.n_Lattice_gram rfl) rfl (ap_cons (ep_var (i := 2) rfl) ap_nil) ⟨v_self.gram, (Sq.T eI v_w), t4, rfl, h_t4, rfl⟩) ap_nil)) ⟨(Sq.T eI v_v), (Sq.T eI t4), t5, rfl, h_t5, rfl⟩) (congrArg eI (Option.some.inj h))
end
def R_Lattice_norm (C_Grid : Addr) (C_Lattice : Addr) : List DV → DV → Prop := fun ds r => ∃ (v_self : M_Lattice) (v_v : (List Int)) (y : Int), ds = [(e_Lattice C_Grid C_Lattice) v_self, (eT eI) v_v] ∧ m_Lattice_norm v_self v_v = some y ∧ r = eI y
section
variable {P : Program} {w : World} {K : PySem.W.Frag} {mg : Str → Option Value} {base : Heap} {C_Grid : Addr} {C_Lattice : Addr} {f : Addr} {fd : FuncData}
theorem ok_Lattice_norm (F : Fun K "norm" "Lattice.norm" s_Lattice_norm f fd) (T : Txt P K mg base C_Grid C_Lattice) (m_Lattice_product : MetG P w K mg base 4 C_Lattice "product" (spD K (R_Lattice_product C_Grid C_Lattice))) : FnOk P w K mg base CX0 5 f fd ["self", "v"] (spD K (R_Lattice_norm C_Grid C_Lattice)) := by
  refine okW F sc_Lattice_norm (fun ds r h => by obtain ⟨v_self, v_v, y, rfl, _⟩ := h; rfl) fun cdv A outer s H E hr => ⟨_, (pss_one (ps_ret (pe_mtG m_Lattice_product hr (by decide) (pv 0) (pa_cons (pv 1) (pa_cons (pv 1) pa_nil))))), ?_⟩
  rintro ds r ⟨v_self, v_v, y, rfl, h, rfl⟩
  refine w_at [.dat ((e_Lattice C_Grid C_Lattice) v_self), .dat ((eT eI) v_v)] ?_
  unfold m_Lattice_norm at h
  obtain ⟨t1, h_t1, h⟩ := bdO h
  exact w_ret (d := eI t1) (ep_meth (ep_var (i := 0) rfl) rfl (ap_cons (ep_var (i := 1) rfl) (ap_cons (ep_var (i := 1) rfl) ap_nil)) ⟨v_self, v_v, v_v, t1, rfl, h_t1, rfl⟩) (congrArg eI (Option.some.inj h))
end
def R_Lattice_eq_any (C_Grid : Addr) (C_Lattice : Addr) : List DV → DV → Prop := fun ds r => R_Lattice_eq C_Grid C_Lattice ds r ∨ R_Lattice_eq_G C_Grid C_Lattice ds r ∨ R_Lattice_eq_N C_Grid C_Lattice ds r

end G09
set_option Elab.async false
set_option linter.all false
set_option maxRecDepth 100000
set_option maxHeartbeats 4000000
namespace G09
open PySem PySem.Spec PyProof.Rows L2 Evl G
noncomputable def m_Lattice_product_X (v_self : M_Lattice) (v_v : DV) (v_w : DV) : Option (Rz Int) := (m_Lattice_contains_D v_self v_v).bind fun t1 => (if (!t1) then some true else (m_Lattice_contains_D v_self v_w).bind fun t2 => some (!t2)).bind fun t3 => if t3 then some (.er Xn.mal) else (asTI v_v).bind fun t4 => (asTI v_w).bind fun t5 => (m_Grid_times v_self.gram (Sq.T eI t5)).bind fun t6 => (m_dot (Sq.T eI t4) (Sq.T eI t6)).bind fun t7 => some (.ok t7)
def R_Lattice_product_X (C_Grid : Addr) (C_Lattice : Addr) : List DV → Rz DV → Prop := fun ds r => ∃ (v_self : M_Lattice) (v_v : DV) (v_w : DV) (y : (Rz Int)), ds = [(e_Lattice C_Grid C_Lattice) v_self, eD v_v, eD v_w] ∧ m_Lattice_product_X v_self v_v v_w = some y ∧ r = y.enc eI
section
variable {P : Program} {w : World} {K : PySem.W.Frag} {mg : Str → Option Value} {base : Heap} {C_Grid : Addr} {C_Lattice : Addr} {f : Addr} {fd : FuncData} {cx : ClX} {fI : Addr} {fdI : FuncData}
theorem ok_Lattice_product_X (F : Fun K "product" "Lattice.product" s_Lattice_product f fd) (T : Txt P K mg base C_Grid C_Lattice) (TX : TxtX P w K mg base cx fI fdI) (m_Lattice_contains : MetG P w K mg base 3 C_Lattice "__contains__" (spD K (R_Lattice_contains_D C_Grid C_Lattice))) (c_dot : CalG P w K mg base 2 "dot" (spD K (R_dot C_Grid C_Lattice)) []) (m_Grid_times : MetG P w K mg base 3 C_Grid "times" (spD K (R_Grid_times C_Grid C_Lattice))) : FnOk P w K mg base (L2.CX P w) 6 f fd ["self", "v", "w"] (spX K cx (R_Lattice_product_X C_Grid C_Lattice)) := by
  refine okWX F sc_Lattice_product (fun ds r h => by obtain ⟨v_self, v_v, v_w, y, rfl, _⟩ := h; rfl) fun cdv A outer s H E hr => ⟨_, (pss_cons (ps_if (PW.pt (pw_or (pt_cmpR (opNI m_Lattice_contains hr (by decide)) (pv 1) (pv 0) (by with_unfolding_all rfl)) (pw_or1 (pt_cmpR (opNI m_Lattice_contains hr (by decide)) (pv 2) (pv 0) (by with_unfolding_all rfl))))) (pss_one (ps_raise rfl (takes_of rfl rfl rfl rfl) (pmk_own PySem.F.excBase_ValueError TX.q_M TX.m_M TX.kp_M (raises_own TX.b_M TX.t_M) (by exact rfl)))) pss_nil)
      (pss_one (ps_ret (pe_cG c_dot hr (by decide) rfl (pa_cons (pv 1) (pa_cons (pe_mtG m_Grid_times hr (by decide) (pe_fldK (K := K) (pv 0)) (pa_cons (pv 2) pa_nil)) pa_nil)))))), ?_⟩
  rintro ds r ⟨v_self, v_v, v_w, y, rfl, h, rfl⟩
  refine w_at [.dat ((e_Lattice C_Grid C_Lattice) v_self), .dat (eD v_v), .dat (eD v_w)] ?_
  unfold m_Lattice_product_X at h
  obtain ⟨t1, h_t1, h⟩ := bdO h
  obtain ⟨t3, h_t3, h⟩ := bdO h
  refine q_seq (w_if (tp_orM (tp_test (ep_notIn (ep_var (i := 1) rfl) (ep_var (i := 0) rfl) ⟨v_self, v_v, t1, rfl, h_t1, rfl⟩)) h_t3 (fun hb _ h => by obtain ⟨t2, h_t2, h⟩ := bdO h; exact TXp.is (a := (!t2)) (tp_test (ep_notIn (ep_var (i := 2) rfl) (ep_var (i := 0) rfl) ⟨v_self, v_w, t2, rfl, h_t2, rfl⟩)) (Option.some.inj h))) (fun hb => ?_) (fun hb => ?_))
  · replace h := ifT hb h
    exact w_raiseM ⟨Xn.mal, (congrArg (Rz.enc eI) (Option.some.inj h)).symm, rfl⟩
  · replace h := ifF hb h
    refine w_next ?_
    obtain ⟨t4, h_t4, h⟩ := bdO h
    obtain ⟨t5, h_t5, h⟩ := bdO h
    obtain ⟨t6, h_t6, h⟩ := bdO h
    obtain ⟨t7, h_t7, h⟩ := bdO h
    exact w_ret (d := eI t7) (ep_call (ap_cons (ep_asTI (ep_var (i := 1) rfl) h_t4) (ap_cons (ep_meth (ep_fld (ep_var (i := 0) rfl) T.cl_Lattice T.n_Lattice_gram rfl) rfl (ap_cons (ep_asTI (ep_var (i := 2) rfl) h_t5) ap_nil) ⟨v_self.gram, (Sq.T eI t5), t6, rfl, h_t6, rfl⟩) ap_nil)) ⟨(Sq.T eI t4), (Sq.T eI t6), t7, rfl, h_t7, rfl⟩) (congrArg (Rz.enc eI) (Option.some.inj h)).symm
end
noncomputable def m_Lattice_norm_X (v_self : M_Lattice) (v_v : DV) : Option (Rz Int) := bdX (m_Lattice_product_X v_self v_v v_v) (fun x2 => some (.er x2)) (fun v_z1 => some (.ok v_z1))
def R_Lattice_norm_X (C_Grid : Addr) (C_Lattice : Addr) : List DV → Rz DV → Prop := fun ds r => ∃ (v_self : M_Lattice) (v_v : DV) (y : (Rz Int)), ds = [(e_Lattice C_Grid C_Lattice) v_self, eD v_v] ∧ m_Lattice_norm_X v_self v_v = some y ∧ r = y.enc eI
section
variable {P : Program} {w : World} {K : PySem.W.Frag} {mg : Str → Option Value} {base : Heap} {C_Grid : Addr} {C_Lattice : Addr} {f : Addr} {fd : FuncData} {cx : ClX} {fI : Addr} {fdI : FuncData}
theorem ok_Lattice_norm_X (F : Fun K "norm" "Lattice.norm" s_Lattice_norm f fd) (T : Txt P K mg base C_Grid C_Lattice) (TX : TxtX P w K mg base cx fI fdI) (xm_Lattice_product : MetX P w K mg base 6 C_Lattice "product" (spX K cx (R_Lattice_product_X C_Grid C_Lattice))) : FnOk P w K mg base (L2.CX P w) 7 f fd ["self", "v"] (spX K cx (R_Lattice_norm_X C_Grid C_Lattice)) := by
  refine okWX F sc_Lattice_norm (fun ds r h => by obtain ⟨v_self, v_v, y, rfl, _⟩ := h; rfl) fun cdv A outer s H E hr => ⟨_, (pss_one (ps_ret (pe_mtX xm_Lattice_product hr (by decide) (takes_of rfl rfl rfl rfl) (pv 0) (pa_cons (pv 1) (pa_cons (pv 1) pa_nil))))), ?_⟩
  rintro ds r ⟨v_self, v_v, y, rfl, h, rfl⟩
  refine w_at [.dat ((e_Lattice C_Grid C_Lattice) v_self), .dat (eD v_v)] ?_
  unfold m_Lattice_norm_X at h
  rcases bdX_of h with ⟨v_z1, h_v_z1, h⟩ | ⟨x2, h_x2, h⟩
  · exact w_retXo (d := eI v_z1) (xx_meth (ep_var (i := 0) rfl) rfl (ap_cons (ep_var (i := 1) rfl) (ap_cons (ep_var (i := 1) rfl) ap_nil)) ⟨v_self, v_v, v_v, .ok v_z1, rfl, h_v_z1, rfl⟩) (congrArg (Rz.enc eI) (Option.some.inj h)).symm
  · exact w_retXe (x := x2) (xx_meth (ep_var (i := 0) rfl) rfl (ap_cons (ep_var (i := 1) rfl) (ap_cons (ep_var (i := 1) rfl) ap_nil)) ⟨v_self, v_v, v_v, .er x2, rfl, h_x2, rfl⟩) ⟨x2, (congrArg (Rz.enc eI) (Option.some.inj h)).symm, rfl⟩
end
end G09
set_option Elab.async false
set_option linter.all false
set_option maxRecDepth 100000
set_option maxHeartbeats 4000000
namespace G09
open PySem PySem.Spec PyProof.Rows L2 Evl G

def toU {α : Type} (z : Rz α) : Rz Unit := z.mp fun _ => ()
noncomputable def malT (a : M_Lattice) (d : DV) (v : List Int) (x : Int) : Option (Rz Unit) := if x = 0 then (m_Lattice_norm_X a d).bind fun z => some (toU z) else if x = 1 then (m_Lattice_product_X a d (eT eI v)).bind fun z => some (toU z) else if x = 2 then (m_Lattice_product_X a (eT eI v) d).bind fun z => some (toU z) else none
def malC (s : Int) : Rz Unit → Option Int
  | .ok _ => some s
  | .er .mal => some (s + 1)
  | .er _ => none
noncomputable def malS (a : M_Lattice) (d : DV) (v : List Int) (x : Int) (s : Int) : Option Int := (malT a d v x).bind (malC s)
noncomputable def m_law_malformed (a : M_Lattice) (d : DV) (v : List Int) : Option Bool := (rngO 3).bind fun t => (foldO (malS a d v) t (0 : Int)).bind fun c => some (decide (c = 3))
def R_law_malformed (C_Grid : Addr) (C_Lattice : Addr) : List DV → DV → Prop := fun ds r => ∃ (a : M_Lattice) (d : DV) (v : List Int) (y : Bool), ds = [e_Lattice C_Grid C_Lattice a, d, eT eI v] ∧ m_law_malformed a d v = some y ∧ r = eB y
section
variable {P : Program} {w : World} {K : PySem.W.Frag} {mg : Str → Option Value} {base : Heap} {C_Grid : Addr} {C_Lattice : Addr} {f : Addr} {fd : FuncData} {cx : ClX} {fI : Addr} {fdI : FuncData}
theorem em_u {α : Type} {z : Rz α} {e : α → DV} : (z.enc e).mp (fun _ => ()) = toU z := by cases z <;> rfl
theorem ok_law_malformed (F : Fun K "_law_malformed" "_law_malformed" s_law_malformed f fd) (T : Txt P K mg base C_Grid C_Lattice) (TX : TxtX P w K mg base cx fI fdI) (eMM : PySem.W.exmOne K (.ref cx.M) (.ref cx.M) = some true) (xm_Lattice_norm : MetX P w K mg base 7 C_Lattice "norm" (spX K cx (R_Lattice_norm_X C_Grid C_Lattice))) (xm_Lattice_product : MetX P w K mg base 6 C_Lattice "product" (spX K cx (R_Lattice_product_X C_Grid C_Lattice))) : FnOk P w K mg base CX0 10 f fd ["_law_lattice", "_law_value", "_law_v"] (spD K (R_law_malformed C_Grid C_Lattice)) := by
  refine okW F sc_law_malformed (fun ds r h => by obtain ⟨a, d, v, y, rfl, _⟩ := h; rfl) fun cdv A outer s H E hr => ⟨_, pss_cons (ps_set (i := 3) sc_law_malformed.nd rfl (Or.inl rfl) pe_int)
      (pss_cons (ps_for PassesOwn.never rfl (pi_range1 (by rfl) T.u_range (pa_cons pe_int pa_nil)) (pg_name (i := 4) sc_law_malformed.nd rfl (Or.inl rfl)) (pss_one (ps_try_only (Wout := fun _ _ _ _ => False) rfl rfl ⟨rfl, by decide, Or.inl TX.m_M⟩ takes0
      (fun W pn xe tk _ => pss_cons (ps_if (pt_cmpR op_eq (pv 4) pe_int (nomark _)) (pss_one (ps_expr (pe_mtX xm_Lattice_norm hr (by decide) tk (pv 0) (pa_cons (pv 1) pa_nil)))) pss_nil)
        (pss_cons (ps_if (pt_cmpR op_eq (pv 4) pe_int (nomark _)) (pss_one (ps_expr (pe_mtX xm_Lattice_product hr (by decide) tk (pv 0) (pa_cons (pv 1) (pa_cons (pv 2) pa_nil))))) pss_nil)
        (pss_one (ps_if (pt_cmpR op_eq (pv 4) pe_int (nomark _)) (pss_one (ps_expr (pe_mtX xm_Lattice_product hr (by decide) tk (pv 0) (pa_cons (pv 2) (pa_cons (pv 1) pa_nil))))) pss_nil))))
      (fun _ _ _ _ _ _ _ => pss_one (ps_set (i := 3) sc_law_malformed.nd rfl (Or.inl rfl) (pe_op op_add (pv 3) pe_int))))))
      (pss_one (ps_ret (pe_cmpR op_eq (pv 3) pe_int (nomark _))))), ?_⟩
  rintro ds r ⟨a, d, v, y, rfl, h, rfl⟩
  refine w_at [.dat (e_Lattice C_Grid C_Lattice a), .dat d, .dat (eT eI v), .un, .un] ?_
  unfold m_law_malformed at h
  obtain ⟨t1, h_t1, h⟩ := bdO h
  obtain ⟨c1, h_c1, h⟩ := bdO h
  refine q_seq (w_asg (i := 3) ep_int (S' := [.dat (e_Lattice C_Grid C_Lattice a), .dat d, .dat (eT eI v), .dat (eI 0), .un]) ?_)
  refine q_seq (w_fold (fun q : Int => [.dat (e_Lattice C_Grid C_Lattice a), .dat d, .dat (eT eI v), .dat (eI q), .un]) (0 : Int) (sle_same (sle_same (sle_same (sle_same (sle_same sle_nil))))) (wl_range1 ep_int h_t1) h_c1 (fun x q s' h => ?_) ?_)
  · unfold malS at h
    obtain ⟨z, h1, h2⟩ := bdO h
    refine w_tryS (c := cx) (rr := z) (S := [.dat (e_Lattice C_Grid C_Lattice a), .dat d, .dat (eT eI v), .dat (eI q), .dat (eI x)]) (tb := fun W => tSeq (tIfS _ (tDrop (tMeS _ _ _ (WE W) _ _)) tNext) (tSeq (tIfS _ (tDrop (tMeS _ _ _ (WE W) _ _)) tNext) (tIfS _ (tDrop (tMeS _ _ _ (WE W) _ _)) tNext))) (sx := fun _ _ _ => tAsg _ _) ?_ (fun e => ?_) (fun xx e => ?_)
    · have q0 : ∀ n : Int, TXp K _ [.dat (e_Lattice C_Grid C_Lattice a), .dat d, .dat (eT eI v), .dat (eI q), .dat (eI x)] (decide (x = n)) := fun n => tp_test (ep_eqI (ep_var (i := 4) rfl) ep_int)
      unfold malT at h1
      have nx : ∀ {n : Int} {u : L2.WX → TS}, x ≠ n → RXs K cx (fun W => tIfS (tTest (tOp rEq (tVar 4) (tC (V.int n)))) (u W) tNext) [.dat (e_Lattice C_Grid C_Lattice a), .dat d, .dat (eT eI v), .dat (eI q), .dat (eI x)] (.ok ()) := fun {n u} hn => rs_if (b := decide (x = n)) (q0 n) (fun e => absurd (of_decide_eq_true e) hn) fun _ => rs_next
      by_cases x0 : x = 0
      · rw [if_pos x0] at h1
        obtain ⟨zz, h3, h4⟩ := bdO h1
        cases h4
        cases zz with
        | ok i => exact rs_seq (rs_if (b := decide (x = 0)) (q0 0) (u2 := fun _ => tNext) (fun _ => rs_drop (fun W => xx_meth (ep_var (i := 0) rfl) rfl (ap_cons (ep_var (i := 1) rfl) ap_nil) ⟨a, d, _, rfl, h3, rfl⟩) em_u) (fun e => absurd x0 (of_decide_eq_false e))) (rs_seq (nx (by omega)) (nx (by omega)))
        | er i => exact rs_seqE (rs_if (b := decide (x = 0)) (q0 0) (u2 := fun _ => tNext) (fun _ => rs_drop (fun W => xx_meth (ep_var (i := 0) rfl) rfl (ap_cons (ep_var (i := 1) rfl) ap_nil) ⟨a, d, _, rfl, h3, rfl⟩) em_u) (fun e => absurd x0 (of_decide_eq_false e)))
      · rw [if_neg x0] at h1
        by_cases x1 : x = 1
        · rw [if_pos x1] at h1
          obtain ⟨zz, h3, h4⟩ := bdO h1
          cases h4
          refine rs_seq (nx x0) ?_
          cases zz with
          | ok i => exact rs_seq (rs_if (b := decide (x = 1)) (q0 1) (u2 := fun _ => tNext) (fun _ => rs_drop (fun W => xx_meth (ep_var (i := 0) rfl) rfl (ap_cons (ep_var (i := 1) rfl) (ap_cons (ep_var (i := 2) rfl) ap_nil)) ⟨a, d, eT eI v, _, rfl, h3, rfl⟩) em_u) (fun e => absurd x1 (of_decide_eq_false e))) (nx (by omega))
          | er i => exact rs_seqE (rs_if (b := decide (x = 1)) (q0 1) (u2 := fun _ => tNext) (fun _ => rs_drop (fun W => xx_meth (ep_var (i := 0) rfl) rfl (ap_cons (ep_var (i := 1) rfl) (ap_cons (ep_var (i := 2) rfl) ap_nil)) ⟨a, d, eT eI v, _, rfl, h3, rfl⟩) em_u) (fun e => absurd x1 (of_decide_eq_false e)))
        · rw [if_neg x1] at h1
          by_cases x2 : x = 2
          · rw [if_pos x2] at h1
            obtain ⟨zz, h3, h4⟩ := bdO h1
            cases h4
            exact rs_seq (nx x0) (rs_seq (nx x1) (rs_if (K := K) (c := cx) (rr := toU zz) (b := decide (x = 2)) (q0 2) (u2 := fun _ => tNext) (fun _ => rs_drop (fun W => xx_meth (ep_var (i := 0) rfl) rfl (ap_cons (ep_var (i := 2) rfl) (ap_cons (ep_var (i := 1) rfl) ap_nil)) ⟨a, eT eI v, d, zz, rfl, h3, rfl⟩) em_u) (fun e => absurd x2 (of_decide_eq_false e))))
          · rw [if_neg x2] at h1
            cases h1
    · rw [e] at h2
      cases h2
      exact (by repeat (first | exact sle_nil | refine sle_same ?_ | refine sle_un ?_))
    · rw [e] at h2
      cases xx with
      | mal =>
        cases h2
        exact ⟨eMM, fun _ _ => w_asg (i := 3) (ep_add (ep_var (i := 3) rfl) ep_int) [.dat (e_Lattice C_Grid C_Lattice a), .dat d, .dat (eT eI v), .dat (eI (q + 1)), .dat (eI x)] (by repeat (first | exact sle_nil | refine sle_same ?_ | refine sle_un ?_))⟩
      | refu s => cases h2
      | notx n => cases h2
  · exact w_ret (d := eB _) (ep_eqI (ep_var (i := 3) rfl) ep_int) (congrArg eB (Option.some.inj h))
end
end G09
set_option Elab.async false
set_option linter.all false
set_option maxRecDepth 100000
set_option maxHeartbeats 4000000
namespace G09
open PySem PySem.Spec PyProof.Rows L2 Evl G
def R_law_state (C_Grid : Addr) (C_Lattice : Addr) : List DV → List DV → Prop := fun ds r => ∃ (v__law_script : (List Int)) (y : (List Int)), ds = [(eL eI) v__law_script] ∧ m_law_state v__law_script = some y ∧ r = y.map eI
section
variable {P : Program} {w : World} {K : PySem.W.Frag} {mg : Str → Option Value} {base : Heap} {C_Grid : Addr} {C_Lattice : Addr} {f : Addr} {fd : FuncData}
theorem ok_law_state (F : Fun K "_law_state" "_law_state" s_law_state f fd) (T : Txt P K mg base C_Grid C_Lattice) : FnOk P w K mg base CX0 2 f fd ["_law_script"] (spL K (R_law_state C_Grid C_Lattice)) := by
  refine okWL F sc_law_state (fun ds r h => by obtain ⟨v__law_script, y, rfl, _⟩ := h; rfl) fun cdv A outer s H E hr => ⟨_, (pss_cons (ps_set (i := 1) sc_law_state.nd rfl (Or.inl rfl) pe_int)
      (pss_cons (ps_set (i := 2) sc_law_state.nd rfl (Or.inl rfl) pe_int)
      (pss_cons (ps_for PassesOwn.never rfl (pi_seqK (K := K) (pe_slice (sl_listK (K := K)) (pv 0) po_none (po_some pe_int))) (pg_name (i := 3) sc_law_state.nd rfl (Or.inl rfl)) (pss_cons (ps_set (i := 1) sc_law_state.nd rfl (Or.inl rfl) (pe_op op_add (pe_op op_mulB (pv 1) pe_int) (pe_callB call_abs (by rfl) T.u_abs PyProof.Rows.boot_abs (pa_cons (pv 3) pa_nil))))
      (pss_one (ps_set (i := 2) sc_law_state.nd rfl (Or.inl rfl) (pe_op op_modN (pe_callTy call_int1 (by rfl) T.u_int PyProof.Rows.boot_int (pa_cons (pe_op op_add (pe_op op_mulB (pv 2) pe_int) (pv 3)) pa_nil)) pe_int)))))
      (pss_one (ps_ret (pe_lst (pa_cons (pv 1) (pa_cons (pv 2) pa_nil)))))))), ?_⟩
  rintro ds r ⟨v__law_script, y, rfl, h, rfl⟩
  refine w_at [.dat ((eL eI) v__law_script), .un, .un, .un] ?_
  unfold m_law_state at h
  refine q_seq (w_asg (i := 1) ep_int [.dat ((eL eI) v__law_script), .dat (eI (0 : Int)), .un, .un] ?_)
  refine q_seq (w_asg (i := 2) ep_int [.dat ((eL eI) v__law_script), .dat (eI (0 : Int)), .dat (eI (1 : Int)), .un] ?_)
  obtain ⟨s1006, h_s1006, h⟩ := bdO h
  refine q_seq (w_fold (fun q1 : Int × Int => [.dat ((eL eI) v__law_script), .dat (eI q1.1), .dat (eI q1.2), .un]) ((0 : Int), (1 : Int)) (sle_same (sle_same (sle_same (sle_same sle_nil)))) (wl_seq (f := eI) (sq_lst (LXp.ex (lp_sl (f := eI) (ep_var (i := 0) rfl) op_none (op_some ep_int))))) h_s1006 (fun y1 q1 s' h => ?_) ?_)
  · refine w_at [.dat ((eL eI) v__law_script), .dat (eI q1.1), .dat (eI q1.2), .dat (eI y1)] ?_
    unfold m_law_state_l1 at h
    obtain ⟨t1001, h_t1001, h⟩ := bdO h
    obtain ⟨v__law_seed1002, h_v__law_seed1002, h⟩ := bdO h
    refine q_seq (w_asg (i := 1) (EXp.is (e := eI v__law_seed1002) (ep_add (ep_mul (ep_var (i := 1) rfl) ep_int h_t1001) (ep_abs (ep_var (i := 3) rfl))) (by cases h_v__law_seed1002; rfl)) [.dat ((eL eI) v__law_script), .dat (eI v__law_seed1002), .dat (eI q1.2), .dat (eI y1)] ?_)
    obtain ⟨t1003, h_t1003, h⟩ := bdO h
    obtain ⟨v__law_total1005, h_v__law_total1005, h⟩ := bdO h
    refine w_asg (i := 2) (ep_mod (ep_toI (ep_add (ep_mul (ep_var (i := 2) rfl) ep_int h_t1003) (ep_var (i := 3) rfl))) ep_int h_v__law_total1005) [.dat ((eL eI) v__law_script), .dat (eI v__law_seed1002), .dat (eI v__law_total1005), .dat (eI y1)] ?_
    cases h
    exact (by repeat (first | exact sle_nil | refine sle_same ?_ | refine sle_un ?_))
  exact w_retL (LXp.is (es := ([s1006.1, s1006.2] : List Int).map eI) (lp_lst (ap_cons (ep_var (i := 1) rfl) (ap_cons (ep_var (i := 2) rfl) ap_nil))) rfl) (congrArg (fun z => z.map eI) (Option.some.inj h))
end
def R_law_take (C_Grid : Addr) (C_Lattice : Addr) : List DV → List DV → List DV → DV → Prop := fun s ds s' r => ∃ (v__law_state_here : (List Int)) (v__law_m : Int) (y : Int) (z : (List Int)), s = v__law_state_here.map eI ∧ ds = [eI v__law_m] ∧ m_law_take v__law_state_here v__law_m = some (y, z) ∧ s' = z.map eI ∧ r = eI y
section
variable {P : Program} {w : World} {K : PySem.W.Frag} {mg : Str → Option Value} {base : Heap} {C_Grid : Addr} {C_Lattice : Addr} {f : Addr} {fd : FuncData}
theorem ok_law_take (F : Fun K "_law_take" "_law_take" s_law_take f fd) (T : Txt P K mg base C_Grid C_Lattice) : FnOk P w K mg base CX0 41 f fd ["_law_state_here", "_law_m"] (spS K (R_law_take C_Grid C_Lattice)) := by
  refine okWS F sc_law_take (fun s ds s' r h => by obtain ⟨v__law_state_here, v__law_m, y, z, _, rfl, _⟩ := h; rfl) (by decide) fun cdv A outer s H E hr => ⟨_, (pss_cons (ps_if (pt_cmpR op_gt (pe_ix (ix_seqK (K := K)) (pv 0) pe_int (fun _ _ => rfl)) pe_int (nomark _)) (pss_cons (ps_set (i := 2) sc_law_take.nd rfl (Or.inl rfl) (pe_op op_modN (pe_callTy call_int1 (by rfl) T.u_int PyProof.Rows.boot_int (pa_cons (pe_ix (ix_seqK (K := K)) (pv 0) pe_int (fun _ _ => rfl)) pa_nil)) (pv 1)))
      (pss_cons (ps_asg (pe_op (op_div T.sr T.tr hr (by decide) ⟨_, _, rfl, rfl, rfl, rfl, rfl⟩) (pe_ix (ix_seqK (K := K)) (pv 0) pe_int (fun _ _ => rfl)) (pv 1)) (pg_sub (pv 0) pe_int set_list))
      (pss_one (ps_ret (pv 2))))) pss_nil)
      (pss_cons (ps_asg (pe_op op_modN (pe_callTy call_int1 (by rfl) T.u_int PyProof.Rows.boot_int (pa_cons (pe_op op_add (pe_op op_mulB (pe_ix (ix_seqK (K := K)) (pv 0) pe_int (fun _ _ => rfl)) pe_int) pe_int) pa_nil)) pe_int) (pg_sub (pv 0) pe_int set_list))
      (pss_one (ps_ret (pe_op op_modN (pe_callTy call_int1 (by rfl) T.u_int PyProof.Rows.boot_int (pa_cons (pe_op (op_div T.sr T.tr hr (by decide) ⟨_, _, rfl, rfl, rfl, rfl, rfl⟩) (pe_ix (ix_seqK (K := K)) (pv 0) pe_int (fun _ _ => rfl)) pe_int) pa_nil)) (pv 1)))))), ?_⟩
  rintro s0 ds s1 r ⟨v__law_state_here, v__law_m, y, z, rfl, rfl, h, rfl, rfl⟩
  refine w_at [.own (v__law_state_here.map eI), .dat (eI v__law_m), .un] ?_
  unfold m_law_take at h
  obtain ⟨t1, h_t1, h⟩ := bdO h
  refine q_seq (w_if (tp_test (ep_gt (ep_ix (f := eI) (ip_own (i := 0) rfl) ep_int h_t1) ep_int)) (fun hb => ?_) (fun hb => ?_))
  · replace h := ifT hb h
    obtain ⟨t2, h_t2, h⟩ := bdO h
    obtain ⟨v__law_value4, h_v__law_value4, h⟩ := bdO h
    refine q_seq (w_asg (i := 2) (ep_mod (ep_toI (ep_ix (f := eI) (ip_own (i := 0) rfl) ep_int h_t2)) (ep_var (i := 1) rfl) h_v__law_value4) [.own (v__law_state_here.map eI), .dat (eI v__law_m), .dat (eI v__law_value4)] ?_)
    obtain ⟨t5, h_t5, h⟩ := bdO h
    obtain ⟨t6, h_t6, h⟩ := bdO h
    obtain ⟨v__law_state_here7, h_v__law_state_here7, h⟩ := bdO h
    refine q_seq (w_setL (i := 0) (f := eI) rfl (ep_fdiv (ep_ix (f := eI) (ip_own (i := 0) rfl) ep_int h_t5) (ep_var (i := 1) rfl) h_t6) ep_int h_v__law_state_here7 [.own (v__law_state_here7.map eI), .dat (eI v__law_m), .dat (eI v__law_value4)] ?_)
    have he1 := congrArg Prod.fst (Option.some.inj h); have he2 := congrArg Prod.snd (Option.some.inj h); dsimp only at he1 he2
    exact w_ret (d := eI v__law_value4) (ep_var (i := 2) rfl) ⟨congrArg eI he1, by rw [← he2]; rfl⟩
  · replace h := ifF hb h
    refine w_next ?_
    obtain ⟨t8, h_t8, h⟩ := bdO h
    obtain ⟨t9, h_t9, h⟩ := bdO h
    obtain ⟨t10, h_t10, h⟩ := bdO h
    obtain ⟨v__law_state_here11, h_v__law_state_here11, h⟩ := bdO h
    refine q_seq (w_setL (i := 0) (f := eI) rfl (ep_mod (ep_toI (ep_add (ep_mul (ep_ix (f := eI) (ip_own (i := 0) rfl) ep_int h_t8) ep_int h_t9) ep_int)) ep_int h_t10) ep_int h_v__law_state_here11 [.own (v__law_state_here11.map eI), .dat (eI v__law_m), .un] ?_)
    obtain ⟨t12, h_t12, h⟩ := bdO h
    obtain ⟨t13, h_t13, h⟩ := bdO h
    obtain ⟨t14, h_t14, h⟩ := bdO h
    have he1 := congrArg Prod.fst (Option.some.inj h); have he2 := congrArg Prod.snd (Option.some.inj h); dsimp only at he1 he2
    exact w_ret (d := eI t14) (ep_mod (ep_toI (ep_fdiv (ep_ix (f := eI) (ip_own (i := 0) rfl) ep_int h_t12) ep_int h_t13)) (ep_var (i := 1) rfl) h_t14) ⟨congrArg eI he1, by rw [← he2]; rfl⟩
end
def R_law_gram (C_Grid : Addr) (C_Lattice : Addr) : List DV → List DV → List DV → DV → Prop := fun s ds s' r => ∃ (v__law_state_here : (List Int)) (v__law_most : Int) (y : (List (List Int))) (z : (List Int)), s = v__law_state_here.map eI ∧ ds = [eI v__law_most] ∧ m_law_gram v__law_state_here v__law_most = some (y, z) ∧ s' = z.map eI ∧ r = (eL (eL eI)) y
section
variable {P : Program} {w : World} {K : PySem.W.Frag} {mg : Str → Option Value} {base : Heap} {C_Grid : Addr} {C_Lattice : Addr} {f : Addr} {fd : FuncData}
theorem ok_law_gram (F : Fun K "_law_gram" "_law_gram" s_law_gram f fd) (T : Txt P K mg base C_Grid C_Lattice) (c_law_take : CalG P w K mg base 41 "_law_take" (spS K (R_law_take C_Grid C_Lattice)) []) : FnOk P w K mg base CX0 42 f fd ["_law_state_here", "_law_most"] (spS K (R_law_gram C_Grid C_Lattice)) := by
  refine okWS F sc_law_gram (fun s ds s' r h => by obtain ⟨v__law_state_here, v__law_most, y, z, _, rfl, _⟩ := h; rfl) (by decide) fun cdv A outer s H E hr => ⟨_, (pss_cons (ps_set (i := 2) sc_law_gram.nd rfl (Or.inr rfl) (pe_op op_add pe_int (pe_cG c_law_take hr (by decide) rfl (pa_cons (pv 0) (pa_cons (pv 1) pa_nil)))))
      (pss_cons (ps_if (PW.pt (pw_and (pt_cmpR op_gt (pv 2) pe_int (nomark _)) (pw_and1 (pt_cmpR op_eq (pe_cG c_law_take hr (by decide) rfl (pa_cons (pv 0) (pa_cons pe_int pa_nil))) pe_int (nomark _))))) (pss_one (ps_set (i := 2) sc_law_gram.nd rfl (Or.inr rfl) pe_int)) pss_nil)
      (pss_cons (ps_setLc (i := 3) (own := [("_law_i", 4)]) (g := gName 4) (tt := tYes) (by rfl) sc_law_gram.nd rfl rfl (sw_true rfl rfl rfl (by decide +kernel)) (pi_range1 (by rfl) T.u_range (pa_cons (pv 2) pa_nil)) (blkOk_by (N := ["_law_state_here", "_law_most", "_law_size", "_law_rows", "_law_i", "_law_j", "_law_x"]) (sc := defScope s_law_gram) (own := [("_law_i", 4)]) (by first | decide +kernel | kernel_rfl)) (fun _ _ _ _ _ => (pg_name (i := 4) sc_law_gram.nd rfl (Or.inl rfl))) (fun _ _ _ _ _ => pts_nil) (fun _ _ _ _ _ => (pe_lc (own := [("_law_j", 5)]) (g := gName 5) (tt := tYes) (by rfl) sc_law_gram.nd (pi_range1 (by rfl) T.u_range (pa_cons (pv 2) pa_nil)) (blkOk_by (N := ["_law_state_here", "_law_most", "_law_size", "_law_rows", "_law_i", "_law_j", "_law_x"]) (sc := _) (own := [("_law_j", 5)]) (by first | decide +kernel | kernel_rfl)) (fun _ _ _ _ _ => (pg_name (i := 5) sc_law_gram.nd rfl (Or.inl rfl))) (fun _ _ _ _ _ => pts_nil) (fun _ _ _ _ _ => pe_int))))
      (pss_cons (ps_for PassesOwn.never rfl (pi_range1 (by rfl) T.u_range (pa_cons (pv 2) pa_nil)) (pg_name (i := 4) sc_law_gram.nd rfl (Or.inl rfl)) (pss_one (ps_for PassesOwn.never rfl (pi_range1 (by rfl) T.u_range (pa_cons (pv 4) pa_nil)) (pg_name (i := 5) sc_law_gram.nd rfl (Or.inl rfl)) (pss_cons (ps_asg (pe_op op_sub (pe_cG c_law_take hr (by decide) rfl (pa_cons (pv 0) (pa_cons pe_int pa_nil))) pe_int) (pg_sub (pe_ix (ix_seqK (K := K)) (pv 3) (pv 4) (fun _ _ => rfl)) (pv 5) set_list))
      (pss_one (ps_asg (pe_ix (ix_seqK (K := K)) (pe_ix (ix_seqK (K := K)) (pv 3) (pv 4) (fun _ _ => rfl)) (pv 5) (fun _ _ => rfl)) (pg_sub (pe_ix (ix_seqK (K := K)) (pv 3) (pv 5) (fun _ _ => rfl)) (pv 4) set_list)))))))
      (pss_cons (ps_for PassesOwn.never rfl (pi_range1 (by rfl) T.u_range (pa_cons (pv 2) pa_nil)) (pg_name (i := 4) sc_law_gram.nd rfl (Or.inl rfl)) (pss_one (ps_asg (pe_op op_add (pe_op op_add pe_int (pe_cG c_law_take hr (by decide) rfl (pa_cons (pv 0) (pa_cons pe_int pa_nil)))) (pe_callB (cr_sumK (K := K)) (by rfl) T.u_sum PyProof.Rows.boot_sum (pa_cons (pe_lc (own := [("_law_x", 6)]) (g := gName 6) (tt := tYes) (by rfl) sc_law_gram.nd (pi_seqK (K := K) (pe_ix (ix_seqK (K := K)) (pv 3) (pv 4) (fun _ _ => rfl))) (blkOk_by (N := ["_law_state_here", "_law_most", "_law_size", "_law_rows", "_law_i", "_law_j", "_law_x"]) (sc := defScope s_law_gram) (own := [("_law_x", 6)]) (by first | decide +kernel | kernel_rfl)) (fun _ _ _ _ _ => (pg_name (i := 6) sc_law_gram.nd rfl (Or.inl rfl))) (fun _ _ _ _ _ => pts_nil) (fun _ _ _ _ _ => (pe_callB call_abs (by rfl) T.u_abs PyProof.Rows.boot_abs (pa_cons (pv 6) pa_nil)))) pa_nil))) (pg_sub (pe_ix (ix_seqK (K := K)) (pv 3) (pv 4) (fun _ _ => rfl)) (pv 4) set_list))))
      (pss_one (ps_ret (pv 3)))))))), ?_⟩
  rintro s0 ds s1 r ⟨v__law_state_here, v__law_most, y, z, rfl, rfl, h, rfl, rfl⟩
  refine w_at [.own (v__law_state_here.map eI), .dat (eI v__law_most), .un, .un, .un, .un, .un] ?_
  unfold m_law_gram at h
  obtain ⟨t1, h_t1, h⟩ := bdO h
  refine q_seq (w_asgq (eq_add (eq_p ep_int) (eq_callS (i := 0) [.own (t1.2.map eI), .dat (eI v__law_most), .un, .un, .un, .un, .un] rfl (ap_cons (ep_var (i := 1) rfl) ap_nil) ⟨v__law_state_here, v__law_most, t1.1, t1.2, rfl, rfl, h_t1, rfl, rfl⟩)) [.own (t1.2.map eI), .dat (eI v__law_most), .dat (eI ((1 : Int) + t1.1)), .un, .un, .un, .un] ?_)
  obtain ⟨t3, h_t3, h⟩ := bdO h
  obtain ⟨s4, h_s4, h⟩ := bdO h
  refine q_cut [.own (t3.2.map eI), .dat (eI v__law_most), .dat (eI s4), .un, .un, .un, .un] (w_ifq (tq_andM (i := 0) (f := eI) [.own (t3.2.map eI), .dat (eI v__law_most), .dat (eI ((1 : Int) + t1.1)), .un, .un, .un, .un] rfl (tp_test (ep_gt (ep_var (i := 2) rfl) ep_int)) (by exact h_t3) (fun hb _ _ h => by obtain ⟨t2, h_t2, h⟩ := bdO h; cases h; exact (tq_test (eq_eqI (eq_callS (i := 0) [.own (t2.2.map eI), .dat (eI v__law_most), .dat (eI ((1 : Int) + t1.1)), .un, .un, .un, .un] rfl (ap_cons ep_int ap_nil) ⟨t1.2, (2 : Int), t2.1, t2.2, rfl, rfl, h_t2, rfl, rfl⟩) (eq_p ep_int))))) (fun hb => ?_) (fun hb => ?_)) ?_
  · replace h := ifT hb h_s4
    refine w_asg (i := 2) ep_int [.own (t3.2.map eI), .dat (eI v__law_most), .dat (eI (2 : Int)), .un, .un, .un, .un] ?_
    cases h
    exact (by repeat (first | exact sle_nil | refine sle_same ?_ | refine sle_un ?_))
  · replace h := ifF hb h_s4
    refine w_next ?_
    cases h
    exact (by repeat (first | exact sle_nil | refine sle_same ?_ | refine sle_un ?_))
  exact w_gramO (fun st m v st' q => ⟨st, m, v, st', rfl, rfl, q, rfl, rfl⟩) h ⟨rfl, rfl⟩
end
def R_law_vector (C_Grid : Addr) (C_Lattice : Addr) : List DV → List DV → List DV → DV → Prop := fun s ds s' r => ∃ (v__law_state_here : (List Int)) (v__law_size : Int) (v__law_most : Int) (y : (List Int)) (z : (List Int)), s = v__law_state_here.map eI ∧ ds = [eI v__law_size, eI v__law_most] ∧ m_law_vector v__law_state_here v__law_size v__law_most = some (y, z) ∧ s' = z.map eI ∧ r = (eT eI) y
section
variable {P : Program} {w : World} {K : PySem.W.Frag} {mg : Str → Option Value} {base : Heap} {C_Grid : Addr} {C_Lattice : Addr} {f : Addr} {fd : FuncData}
theorem ok_law_vector (F : Fun K "_law_vector" "_law_vector" s_law_vector f fd) (T : Txt P K mg base C_Grid C_Lattice) (c_law_take : CalG P w K mg base 41 "_law_take" (spS K (R_law_take C_Grid C_Lattice)) []) : FnOk P w K mg base CX0 42 f fd ["_law_state_here", "_law_size", "_law_most"] (spS K (R_law_vector C_Grid C_Lattice)) := by
  refine okWS F sc_law_vector (fun s ds s' r h => by obtain ⟨v__law_state_here, v__law_size, v__law_most, y, z, _, rfl, _⟩ := h; rfl) (by decide) fun cdv A outer s H E hr => ⟨_, (pss_one (ps_ret (pe_callTy (call_tupK (K := K)) (by rfl) T.u_tuple PyProof.Rows.boot_tuple (pa_cons (pe_lc (own := [("_law_k", 3)]) (g := gName 3) (tt := tYes) (by rfl) sc_law_vector.nd (pi_range1 (by rfl) T.u_range (pa_cons (pv 1) pa_nil)) (blkOk_by (N := ["_law_state_here", "_law_size", "_law_most", "_law_k"]) (sc := defScope s_law_vector) (own := [("_law_k", 3)]) (by first | decide +kernel | kernel_rfl)) (fun _ _ _ _ _ => (pg_name (i := 3) sc_law_vector.nd rfl (Or.inl rfl))) (fun _ _ _ _ _ => pts_nil) (fun _ _ _ _ _ => (pe_op op_sub (pe_cG c_law_take hr (by decide) rfl (pa_cons (pv 0) (pa_cons (pe_op op_add (pe_op op_mulB pe_int (pv 2)) pe_int) pa_nil))) (pv 2)))) pa_nil)))), ?_⟩
  rintro s0 ds s1 r ⟨v__law_state_here, v__law_size, v__law_most, y, z, rfl, rfl, h, rfl, rfl⟩
  refine w_at [.own (v__law_state_here.map eI), .dat (eI v__law_size), .dat (eI v__law_most), .un] ?_
  unfold m_law_vector at h
  obtain ⟨t1, h_t1, h⟩ := bdO h
  obtain ⟨t6, h_t6, h⟩ := bdO h
  have he1 := congrArg Prod.fst (Option.some.inj h); have he2 := congrArg Prod.snd (Option.some.inj h); dsimp only at he1 he2
  exact w_retq (d := (eT eI) t6.1) (eq_tuple (lq_lcS (k := 0) (eg := eI) (e := eI) [.own (t6.2.map eI), .dat (eI v__law_size), .dat (eI v__law_most), .un] (fun x2 s3 => [.own (s3.map eI), .dat (eI v__law_size), .dat (eI v__law_most), .dat (eI x2)]) rfl (wl_range1 (ep_var (i := 1) rfl) h_t1) (by exact h_t6) (by decide) rfl (fun x2 s3 _ _ h => by obtain ⟨t4, h_t4, h⟩ := bdO h; obtain ⟨t5, h_t5, h⟩ := bdO h; cases h; exact (eq_sub (eq_callS (i := 0) [.own (t5.2.map eI), .dat (eI v__law_size), .dat (eI v__law_most), .dat (eI x2)] rfl (ap_cons (ep_add (ep_mul ep_int (ep_var (i := 2) rfl) h_t4) ep_int) ap_nil) ⟨s3, (t4 + (1 : Int)), t5.1, t5.2, rfl, rfl, h_t5, rfl, rfl⟩) (eq_p (ep_var (i := 2) rfl)))))) ⟨congrArg (eT eI) he1, by rw [← he2]; rfl⟩
end
end G09
set_option Elab.async false
set_option linter.all false
set_option maxRecDepth 100000
set_option maxHeartbeats 4000000
namespace G09
open PySem PySem.Spec PyProof.Rows L2 Evl G
def R_law_product (C_Grid : Addr) (C_Lattice : Addr) : List DV → DV → Prop := fun ds r => ∃ (v__law_gram_here : (List (List Int))) (v__law_v : (List Int)) (v__law_w : (List Int)) (y : Int), ds = [(eL (eL eI)) v__law_gram_here, (eL eI) v__law_v, (eL eI) v__law_w] ∧ m_law_product v__law_gram_here v__law_v v__law_w = some y ∧ r = eI y
section
variable {P : Program} {w : World} {K : PySem.W.Frag} {mg : Str → Option Value} {base : Heap} {C_Grid : Addr} {C_Lattice : Addr} {f : Addr} {fd : FuncData}
theorem ok_law_product (F : Fun K "_law_product" "_law_product" s_law_product f fd) (T : Txt P K mg base C_Grid C_Lattice) : FnOk P w K mg base CX0 2 f fd ["_law_gram_here", "_law_v", "_law_w"] (spD K (R_law_product C_Grid C_Lattice)) := by
  refine okW F sc_law_product (fun ds r h => by obtain ⟨v__law_gram_here, v__law_v, v__law_w, y, rfl, _⟩ := h; rfl) fun cdv A outer s H E hr => ⟨_, (pss_cons (ps_set (i := 3) sc_law_product.nd rfl (Or.inl rfl) pe_int)
      (pss_cons (ps_for PassesOwn.never rfl (pi_range1 (by rfl) T.u_range (pa_cons (pe_callB (call_lenK (K := K)) (by rfl) T.u_len (by decide +kernel) (pa_cons (pv 1) pa_nil)) pa_nil)) (pg_name (i := 4) sc_law_product.nd rfl (Or.inl rfl)) (pss_one (ps_for PassesOwn.never rfl (pi_range1 (by rfl) T.u_range (pa_cons (pe_callB (call_lenK (K := K)) (by rfl) T.u_len (by decide +kernel) (pa_cons (pv 2) pa_nil)) pa_nil)) (pg_name (i := 5) sc_law_product.nd rfl (Or.inl rfl)) (pss_one (ps_set (i := 3) sc_law_product.nd rfl (Or.inl rfl) (pe_op op_add (pv 3) (pe_op op_mulB (pe_op op_mulB (pe_ix (ix_seqK (K := K)) (pv 1) (pv 4) (fun _ _ => rfl)) (pe_ix (ix_seqK (K := K)) (pe_ix (ix_seqK (K := K)) (pv 0) (pv 4) (fun _ _ => rfl)) (pv 5) (fun _ _ => rfl))) (pe_ix (ix_seqK (K := K)) (pv 2) (pv 5) (fun _ _ => rfl)))))))))
      (pss_one (ps_ret (pv 3))))), ?_⟩
  rintro ds r ⟨v__law_gram_here, v__law_v, v__law_w, y, rfl, h, rfl⟩
  refine w_at [.dat ((eL (eL eI)) v__law_gram_here), .dat ((eL eI) v__law_v), .dat ((eL eI) v__law_w), .un, .un, .un] ?_
  unfold m_law_product at h
  refine q_seq (w_asg (i := 3) ep_int [.dat ((eL (eL eI)) v__law_gram_here), .dat ((eL eI) v__law_v), .dat ((eL eI) v__law_w), .dat (eI (0 : Int)), .un, .un] ?_)
  obtain ⟨t1, h_t1, h⟩ := bdO h
  obtain ⟨s4011, h_s4011, h⟩ := bdO h
  refine q_seq (w_fold (fun q1 : Int => [.dat ((eL (eL eI)) v__law_gram_here), .dat ((eL eI) v__law_v), .dat ((eL eI) v__law_w), .dat (eI q1), .un, .un]) (0 : Int) (sle_same (sle_same (sle_same (sle_same (sle_same (sle_same sle_nil)))))) (wl_range1 (ep_lenM (f := eI) (ip_lst (ep_var (i := 1) rfl))) h_t1) h_s4011 (fun y1 q1 s' h => ?_) ?_)
  · refine w_at [.dat ((eL (eL eI)) v__law_gram_here), .dat ((eL eI) v__law_v), .dat ((eL eI) v__law_w), .dat (eI q1), .dat (eI y1), .un] ?_
    unfold m_law_product_l1 at h
    obtain ⟨t2002, h_t2002, h⟩ := bdO h
    obtain ⟨s4010, h_s4010, h⟩ := bdO h
    refine w_fold (fun q2 : Int => [.dat ((eL (eL eI)) v__law_gram_here), .dat ((eL eI) v__law_v), .dat ((eL eI) v__law_w), .dat (eI q2), .dat (eI y1), .un]) q1 (sle_same (sle_same (sle_same (sle_same (sle_same (sle_same sle_nil)))))) (wl_range1 (ep_lenM (f := eI) (ip_lst (ep_var (i := 2) rfl))) h_t2002) h_s4010 (fun y2 q2 s' h => ?_) ?_
    · refine w_at [.dat ((eL (eL eI)) v__law_gram_here), .dat ((eL eI) v__law_v), .dat ((eL eI) v__law_w), .dat (eI q2), .dat (eI y1), .dat (eI y2)] ?_
      unfold m_law_product_l2 at h
      obtain ⟨t4003, h_t4003, h⟩ := bdO h
      obtain ⟨t4004, h_t4004, h⟩ := bdO h
      obtain ⟨t4005, h_t4005, h⟩ := bdO h
      obtain ⟨t4006, h_t4006, h⟩ := bdO h
      obtain ⟨t4007, h_t4007, h⟩ := bdO h
      obtain ⟨t4008, h_t4008, h⟩ := bdO h
      obtain ⟨v__law_total4009, h_v__law_total4009, h⟩ := bdO h
      refine w_asg (i := 3) (EXp.is (e := eI v__law_total4009) (ep_add (ep_var (i := 3) rfl) (ep_mul (ep_mul (ep_ix (f := eI) (ip_lst (ep_var (i := 1) rfl)) (ep_var (i := 4) rfl) h_t4003) (ep_ix (f := eI) (ip_lst (ep_ix (f := (eL eI)) (ip_lst (ep_var (i := 0) rfl)) (ep_var (i := 4) rfl) h_t4004)) (ep_var (i := 5) rfl) h_t4005) h_t4006) (ep_ix (f := eI) (ip_lst (ep_var (i := 2) rfl)) (ep_var (i := 5) rfl) h_t4007) h_t4008)) (by cases h_v__law_total4009; rfl)) [.dat ((eL (eL eI)) v__law_gram_here), .dat ((eL eI) v__law_v), .dat ((eL eI) v__law_w), .dat (eI v__law_total4009), .dat (eI y1), .dat (eI y2)] ?_
      cases h
      exact (by repeat (first | exact sle_nil | refine sle_same ?_ | refine sle_un ?_))
    cases h
    exact (by repeat (first | exact sle_nil | refine sle_same ?_ | refine sle_un ?_))
  exact w_ret (d := eI s4011) (ep_var (i := 3) rfl) (congrArg eI (Option.some.inj h))
end
def R_law_product_T (C_Grid : Addr) (C_Lattice : Addr) : List DV → DV → Prop := fun ds r => ∃ (v__law_gram_here : (List (List Int))) (v__law_v : (List Int)) (v__law_w : (List Int)) (y : Int), ds = [(eL (eL eI)) v__law_gram_here, (eT eI) v__law_v, (eT eI) v__law_w] ∧ m_law_product_T v__law_gram_here v__law_v v__law_w = some y ∧ r = eI y
section
variable {P : Program} {w : World} {K : PySem.W.Frag} {mg : Str → Option Value} {base : Heap} {C_Grid : Addr} {C_Lattice : Addr} {f : Addr} {fd : FuncData}
theorem ok_law_product_T (F : Fun K "_law_product" "_law_product" s_law_product f fd) (T : Txt P K mg base C_Grid C_Lattice) : FnOk P w K mg base CX0 2 f fd ["_law_gram_here", "_law_v", "_law_w"] (spD K (R_law_product_T C_Grid C_Lattice)) := by
  refine okW F sc_law_product (fun ds r h => by obtain ⟨v__law_gram_here, v__law_v, v__law_w, y, rfl, _⟩ := h; rfl) fun cdv A outer s H E hr => ⟨_, (pss_cons (ps_set (i := 3) sc_law_product.nd rfl (Or.inl rfl) pe_int)
      (pss_cons (ps_for PassesOwn.never rfl (pi_range1 (by rfl) T.u_range (pa_cons (pe_callB (call_lenK (K := K)) (by rfl) T.u_len (by decide +kernel) (pa_cons (pv 1) pa_nil)) pa_nil)) (pg_name (i := 4) sc_law_product.nd rfl (Or.inl rfl)) (pss_one (ps_for PassesOwn.never rfl (pi_range1 (by rfl) T.u_range (pa_cons (pe_callB (call_lenK (K := K)) (by rfl) T.u_len (by decide +kernel) (pa_cons (pv 2) pa_nil)) pa_nil)) (pg_name (i := 5) sc_law_product.nd rfl (Or.inl rfl)) (pss_one (ps_set (i := 3) sc_law_product.nd rfl (Or.inl rfl) (pe_op op_add (pv 3) (pe_op op_mulB (pe_op op_mulB (pe_ix (ix_seqK (K := K)) (pv 1) (pv 4) (fun _ _ => rfl)) (pe_ix (ix_seqK (K := K)) (pe_ix (ix_seqK (K := K)) (pv 0) (pv 4) (fun _ _ => rfl)) (pv 5) (fun _ _ => rfl))) (pe_ix (ix_seqK (K := K)) (pv 2) (pv 5) (fun _ _ => rfl)))))))))
      (pss_one (ps_ret (pv 3))))), ?_⟩
  rintro ds r ⟨v__law_gram_here, v__law_v, v__law_w, y, rfl, h, rfl⟩
  refine w_at [.dat ((eL (eL eI)) v__law_gram_here), .dat ((eT eI) v__law_v), .dat ((eT eI) v__law_w), .un, .un, .un] ?_
  unfold m_law_product_T at h
  refine q_seq (w_asg (i := 3) ep_int [.dat ((eL (eL eI)) v__law_gram_here), .dat ((eT eI) v__law_v), .dat ((eT eI) v__law_w), .dat (eI (0 : Int)), .un, .un] ?_)
  obtain ⟨t1, h_t1, h⟩ := bdO h
  obtain ⟨s4011, h_s4011, h⟩ := bdO h
  refine q_seq (w_fold (fun q1 : Int => [.dat ((eL (eL eI)) v__law_gram_here), .dat ((eT eI) v__law_v), .dat ((eT eI) v__law_w), .dat (eI q1), .un, .un]) (0 : Int) (sle_same (sle_same (sle_same (sle_same (sle_same (sle_same sle_nil)))))) (wl_range1 (ep_lenM (f := eI) (ip_tup (ep_var (i := 1) rfl))) h_t1) h_s4011 (fun y1 q1 s' h => ?_) ?_)
  · refine w_at [.dat ((eL (eL eI)) v__law_gram_here), .dat ((eT eI) v__law_v), .dat ((eT eI) v__law_w), .dat (eI q1), .dat (eI y1), .un] ?_
    unfold m_law_product_T_l1 at h
    obtain ⟨t2002, h_t2002, h⟩ := bdO h
    obtain ⟨s4010, h_s4010, h⟩ := bdO h
    refine w_fold (fun q2 : Int => [.dat ((eL (eL eI)) v__law_gram_here), .dat ((eT eI) v__law_v), .dat ((eT eI) v__law_w), .dat (eI q2), .dat (eI y1), .un]) q1 (sle_same (sle_same (sle_same (sle_same (sle_same (sle_same sle_nil)))))) (wl_range1 (ep_lenM (f := eI) (ip_tup (ep_var (i := 2) rfl))) h_t2002) h_s4010 (fun y2 q2 s' h => ?_) ?_
    · refine w_at [.dat ((eL (eL eI)) v__law_gram_here), .dat ((eT eI) v__law_v), .dat ((eT eI) v__law_w), .dat (eI q2), .dat (eI y1), .dat (eI y2)] ?_
      unfold m_law_product_T_l2 at h
      obtain ⟨t4003, h_t4003, h⟩ := bdO h
      obtain ⟨t4004, h_t4004, h⟩ := bdO h
      obtain ⟨t4005, h_t4005, h⟩ := bdO h
      obtain ⟨t4006, h_t4006, h⟩ := bdO h
      obtain ⟨t4007, h_t4007, h⟩ := bdO h
      obtain ⟨t4008, h_t4008, h⟩ := bdO h
      obtain ⟨v__law_total4009, h_v__law_total4009, h⟩ := bdO h
      refine w_asg (i := 3) (EXp.is (e := eI v__law_total4009) (ep_add (ep_var (i := 3) rfl) (ep_mul (ep_mul (ep_ix (f := eI) (ip_tup (ep_var (i := 1) rfl)) (ep_var (i := 4) rfl) h_t4003) (ep_ix (f := eI) (ip_lst (ep_ix (f := (eL eI)) (ip_lst (ep_var (i := 0) rfl)) (ep_var (i := 4) rfl) h_t4004)) (ep_var (i := 5) rfl) h_t4005) h_t4006) (ep_ix (f := eI) (ip_tup (ep_var (i := 2) rfl)) (ep_var (i := 5) rfl) h_t4007) h_t4008)) (by cases h_v__law_total4009; rfl)) [.dat ((eL (eL eI)) v__law_gram_here), .dat ((eT eI) v__law_v), .dat ((eT eI) v__law_w), .dat (eI v__law_total4009), .dat (eI y1), .dat (eI y2)] ?_
      cases h
      exact (by repeat (first | exact sle_nil | refine sle_same ?_ | refine sle_un ?_))
    cases h
    exact (by repeat (first | exact sle_nil | refine sle_same ?_ | refine sle_un ?_))
  exact w_ret (d := eI s4011) (ep_var (i := 3) rfl) (congrArg eI (Option.some.inj h))
end
def R_law_minor (C_Grid : Addr) (C_Lattice : Addr) : List DV → DV → Prop := fun ds r => ∃ (v__law_rows : (List (List Int))) (v__law_i : Int) (v__law_j : Int) (y : (List (List Int))), ds = [(eL (eL eI)) v__law_rows, eI v__law_i, eI v__law_j] ∧ m_law_minor v__law_rows v__law_i v__law_j = some y ∧ r = (eL (eL eI)) y
section
variable {P : Program} {w : World} {K : PySem.W.Frag} {mg : Str → Option Value} {base : Heap} {C_Grid : Addr} {C_Lattice : Addr} {f : Addr} {fd : FuncData}
theorem ok_law_minor (F : Fun K "_law_minor" "_law_minor" s_law_minor f fd) (T : Txt P K mg base C_Grid C_Lattice) : FnOk P w K mg base CX0 2 f fd ["_law_rows", "_law_i", "_law_j"] (spD K (R_law_minor C_Grid C_Lattice)) := by
  refine okW F sc_law_minor (fun ds r h => by obtain ⟨v__law_rows, v__law_i, v__law_j, y, rfl, _⟩ := h; rfl) fun cdv A outer s H E hr => ⟨_, (pss_one (ps_ret (pe_lc (own := [("_law_row", 3)]) (g := gName 3) (tt := tYes) (by rfl) sc_law_minor.nd (pi_seqK (K := K) (pe_op op_cat (pe_slice (sl_listK (K := K)) (pv 0) po_none (po_some (pv 1))) (pe_slice (sl_listK (K := K)) (pv 0) (po_some (pe_op op_add (pv 1) pe_int)) po_none))) (blkOk_by (N := ["_law_rows", "_law_i", "_law_j", "_law_row"]) (sc := defScope s_law_minor) (own := [("_law_row", 3)]) (by first | decide +kernel | kernel_rfl)) (fun _ _ _ _ _ => (pg_name (i := 3) sc_law_minor.nd rfl (Or.inl rfl))) (fun _ _ _ _ _ => pts_nil) (fun _ _ _ _ _ => (pe_op op_cat (pe_slice (sl_listK (K := K)) (pv 3) po_none (po_some (pv 2))) (pe_slice (sl_listK (K := K)) (pv 3) (po_some (pe_op op_add (pv 2) pe_int)) po_none)))))), ?_⟩
  rintro ds r ⟨v__law_rows, v__law_i, v__law_j, y, rfl, h, rfl⟩
  refine w_at [.dat ((eL (eL eI)) v__law_rows), .dat (eI v__law_i), .dat (eI v__law_j), .un] ?_
  unfold m_law_minor at h
  obtain ⟨t1, h_t1, h⟩ := bdO h
  obtain ⟨t4, h_t4, h⟩ := bdO h
  exact w_ret (d := (eL (eL eI)) t4) (LXp.ex (lp_lcA (e := (eL eI)) (fun x2 => [.dat ((eL (eL eI)) v__law_rows), .dat (eI v__law_i), .dat (eI v__law_j), .dat ((eL eI) x2)]) (wl_seq (f := (eL eI)) (sq_lst (LXp.ex (lp_cat (f := (eL eI)) (lp_sl (f := (eL eI)) (ep_var (i := 0) rfl) op_none (op_some (ep_var (i := 1) rfl))) (lp_sl (f := (eL eI)) (ep_var (i := 0) rfl) (op_some (ep_add (ep_var (i := 1) rfl) ep_int)) op_none) h_t1)))) h_t4 (by decide) (fun x2 _ h => by obtain ⟨t3, h_t3, h⟩ := bdO h; exact EXp.is (d := (eL eI) t3) (LXp.ex (lp_cat (f := eI) (lp_sl (f := eI) (ep_var (i := 3) rfl) op_none (op_some (ep_var (i := 2) rfl))) (lp_sl (f := eI) (ep_var (i := 3) rfl) (op_some (ep_add (ep_var (i := 2) rfl) ep_int)) op_none) h_t3)) (congrArg (eL eI) (Option.some.inj h))))) (congrArg (eL (eL eI)) (Option.some.inj h))
end
def R_law_determinant_s (C_Grid : Addr) (C_Lattice : Addr) (rc : (List (List Int)) → Option Int) : List DV → DV → Prop := fun ds r => ∃ (v__law_rows : (List (List Int))) (y : Int), ds = [(eL (eL eI)) v__law_rows] ∧ rc v__law_rows = some y ∧ r = eI y
def R_law_determinant (C_Grid : Addr) (C_Lattice : Addr) : List DV → DV → Prop := fun ds r => ∃ n, n ≤ 4 ∧ R_law_determinant_s C_Grid C_Lattice (m_law_determinant n) ds r
section
variable {P : Program} {w : World} {K : PySem.W.Frag} {mg : Str → Option Value} {base : Heap} {C_Grid : Addr} {C_Lattice : Addr} {f : Addr} {fd : FuncData}
theorem ok1_law_determinant {k : Nat} {rc : (List (List Int)) → Option Int} (hk : 2 ≤ k) (F : Fun K "_law_determinant" "_law_determinant" s_law_determinant f fd) (T : Txt P K mg base C_Grid C_Lattice) (c_law_minor : CalG P w K mg base 2 "_law_minor" (spD K (R_law_minor C_Grid C_Lattice)) []) (c_law_determinant : CalG P w K mg base k "_law_determinant" (spD K (R_law_determinant_s C_Grid C_Lattice rc)) []) : FnOk P w K mg base CX0 (k + 1) f fd ["_law_rows"] (spD K (R_law_determinant_s C_Grid C_Lattice (m_law_determinant_s rc))) := by
  refine okW F sc_law_determinant (fun ds r h => by obtain ⟨v__law_rows, y, rfl, _⟩ := h; rfl) fun cdv A outer s H E hr => ⟨_, (pss_cons (ps_if (pt_cmpR op_eq (pe_callB (call_lenK (K := K)) (by rfl) T.u_len (by decide +kernel) (pa_cons (pv 0) pa_nil)) pe_int (nomark _)) (pss_one (ps_ret pe_int)) pss_nil)
      (pss_cons (ps_set (i := 1) sc_law_determinant.nd rfl (Or.inl rfl) pe_int)
      (pss_cons (ps_for PassesOwn.never rfl (pi_range1 (by rfl) T.u_range (pa_cons (pe_callB (call_lenK (K := K)) (by rfl) T.u_len (by decide +kernel) (pa_cons (pv 0) pa_nil)) pa_nil)) (pg_name (i := 2) sc_law_determinant.nd rfl (Or.inl rfl)) (pss_cons (ps_set (i := 3) sc_law_determinant.nd rfl (Or.inl rfl) (pe_op op_mulB (pe_ix (ix_seqK (K := K)) (pe_ix (ix_seqK (K := K)) (pv 0) pe_int (fun _ _ => rfl)) (pv 2) (fun _ _ => rfl)) (pe_cG c_law_determinant hr (Nat.le_refl _) rfl (pa_cons (pe_cG c_law_minor hr (Nat.le_trans (by decide) hk) rfl (pa_cons (pv 0) (pa_cons pe_int (pa_cons (pv 2) pa_nil)))) pa_nil))))
      (pss_one (ps_set (i := 1) sc_law_determinant.nd rfl (Or.inl rfl) (pe_ifExp (pt_cmpR op_eq (pe_op op_modN (pv 2) pe_int) pe_int (nomark _)) (pe_op op_add (pv 1) (pv 3)) (pe_op op_sub (pv 1) (pv 3)))))))
      (pss_one (ps_ret (pv 1)))))), ?_⟩
  rintro ds r ⟨v__law_rows, y, rfl, h, rfl⟩
  refine w_at [.dat ((eL (eL eI)) v__law_rows), .un, .un, .un] ?_
  unfold m_law_determinant_s at h
  refine q_seq (w_if (tp_test (ep_eqI (ep_lenM (f := (eL eI)) (ip_lst (ep_var (i := 0) rfl))) ep_int)) (fun hb => ?_) (fun hb => ?_))
  · replace h := ifT hb h
    exact w_ret (d := eI (1 : Int)) ep_int (congrArg eI (Option.some.inj h))
  · replace h := ifF hb h
    refine w_next ?_
    refine q_seq (w_asg (i := 1) ep_int [.dat ((eL (eL eI)) v__law_rows), .dat (eI (0 : Int)), .un, .un] ?_)
    obtain ⟨t1, h_t1, h⟩ := bdO h
    obtain ⟨s1011, h_s1011, h⟩ := bdO h
    refine q_seq (w_fold (fun q1 : Int => [.dat ((eL (eL eI)) v__law_rows), .dat (eI q1), .un, .un]) (0 : Int) (sle_same (sle_same (sle_same (sle_same sle_nil)))) (wl_range1 (ep_lenM (f := (eL eI)) (ip_lst (ep_var (i := 0) rfl))) h_t1) h_s1011 (fun y1 q1 s' h => ?_) ?_)
    · refine w_at [.dat ((eL (eL eI)) v__law_rows), .dat (eI q1), .dat (eI y1), .un] ?_
      unfold m_law_determinant_l1 at h
      obtain ⟨t1002, h_t1002, h⟩ := bdO h
      obtain ⟨t1003, h_t1003, h⟩ := bdO h
      obtain ⟨t1004, h_t1004, h⟩ := bdO h
      obtain ⟨t1005, h_t1005, h⟩ := bdO h
      obtain ⟨v__law_part1007, h_v__law_part1007, h⟩ := bdO h
      refine q_seq (w_asg (i := 3) (ep_mul (ep_ix (f := eI) (ip_lst (ep_ix (f := (eL eI)) (ip_lst (ep_var (i := 0) rfl)) ep_int h_t1002)) (ep_var (i := 2) rfl) h_t1003) (ep_call (ap_cons (ep_call (ap_cons (ep_var (i := 0) rfl) (ap_cons ep_int (ap_cons (ep_var (i := 2) rfl) ap_nil))) ⟨v__law_rows, (0 : Int), y1, t1004, rfl, h_t1004, rfl⟩) ap_nil) ⟨t1004, t1005, rfl, h_t1005, rfl⟩) h_v__law_part1007) [.dat ((eL (eL eI)) v__law_rows), .dat (eI q1), .dat (eI y1), .dat (eI v__law_part1007)] ?_)
      obtain ⟨t1008, h_t1008, h⟩ := bdO h
      obtain ⟨v__law_total1010, h_v__law_total1010, h⟩ := bdO h
      refine w_asg (i := 1) (ep_ifM (f := eI) (tp_test (ep_eqI (ep_mod (ep_var (i := 2) rfl) ep_int h_t1008) ep_int)) h_v__law_total1010 (fun hb _ h => by exact EXp.is (d := eI (q1 + v__law_part1007)) (ep_add (ep_var (i := 1) rfl) (ep_var (i := 3) rfl)) (congrArg eI (Option.some.inj h))) (fun hb _ h => by exact EXp.is (d := eI (q1 - v__law_part1007)) (ep_sub (ep_var (i := 1) rfl) (ep_var (i := 3) rfl)) (congrArg eI (Option.some.inj h)))) [.dat ((eL (eL eI)) v__law_rows), .dat (eI v__law_total1010), .dat (eI y1), .dat (eI v__law_part1007)] ?_
      cases h
      exact (by repeat (first | exact sle_nil | refine sle_same ?_ | refine sle_un ?_))
    exact w_ret (d := eI s1011) (ep_var (i := 1) rfl) (congrArg eI (Option.some.inj h))
theorem ok_law_determinant (F : Fun K "_law_determinant" "_law_determinant" s_law_determinant f fd) (T : Txt P K mg base C_Grid C_Lattice) (c_law_minor : CalG P w K mg base 2 "_law_minor" (spD K (R_law_minor C_Grid C_Lattice)) []) (mgf : mg "_law_determinant" = some (.ref f)) (kpf : PySem.W.keepIn K (.ref f) = true) (bdf : Binds K fd ["_law_rows"] []) : FnOk P w K mg base CX0 6 f fd ["_law_rows"] (spD K (R_law_determinant C_Grid C_Lattice)) :=
  rec_all (l0 := 2) (m := 4) (R := fun n => R_law_determinant_s C_Grid C_Lattice (m_law_determinant n)) (fun n ds r h => by obtain ⟨v__law_rows, y, rfl, _⟩ := h; rfl) (fun ds r h => by obtain ⟨v__law_rows, y, _, h, _⟩ := h; cases h) fun n k hk ih => ok1_law_determinant hk F T c_law_minor ⟨f, fd, ["_law_rows"], [], ih, mgf, kpf, bdf, .nil⟩
end
noncomputable def m_law_gcd_l1  (s : Int × Int) : Option (Fl (Int × Int) Empty) := (modO s.1 s.2).bind fun t3 => some (.nx (s.2, t3))
noncomputable def m_law_gcd_l1c  (s : Int × Int) : Option (Bool) := some (!decide (s.2 = (0 : Int)))
noncomputable def m_law_gcd (fuel : Nat) (v__law_a : Int) (v__law_b : Int) : Option Int := (some (if v__law_a < 0 then -v__law_a else v__law_a)).bind fun v__law_a1 => (some (if v__law_b < 0 then -v__law_b else v__law_b)).bind fun v__law_b2 => (whileO m_law_gcd_l1c m_law_gcd_l1 fuel (v__law_a1, v__law_b2)).bind fun fl1004 => thenL (fun s1005 => some s1005.1) (fun r => Empty.elim r) fl1004
def R_law_gcd (C_Grid : Addr) (C_Lattice : Addr) : List DV → DV → Prop := fun ds r => ∃ (fuel : Nat) (v__law_a : Int) (v__law_b : Int) (y : Int), ds = [eI v__law_a, eI v__law_b] ∧ m_law_gcd fuel v__law_a v__law_b = some y ∧ r = eI y
section
variable {P : Program} {w : World} {K : PySem.W.Frag} {mg : Str → Option Value} {base : Heap} {C_Grid : Addr} {C_Lattice : Addr} {f : Addr} {fd : FuncData}
theorem ok_law_gcd (F : Fun K "_law_gcd" "_law_gcd" s_law_gcd f fd) (T : Txt P K mg base C_Grid C_Lattice) : FnOk P w K mg base CX0 2 f fd ["_law_a", "_law_b"] (spD K (R_law_gcd C_Grid C_Lattice)) := by
  refine okW F sc_law_gcd (fun ds r h => by obtain ⟨fuel, v__law_a, v__law_b, y, rfl, _⟩ := h; rfl) fun cdv A outer s H E hr => ⟨_, (pss_cons (ps_set (i := 0) sc_law_gcd.nd rfl (Or.inl rfl) (pe_callB call_abs (by rfl) T.u_abs PyProof.Rows.boot_abs (pa_cons (pv 0) pa_nil)))
      (pss_cons (ps_set (i := 1) sc_law_gcd.nd rfl (Or.inl rfl) (pe_callB call_abs (by rfl) T.u_abs PyProof.Rows.boot_abs (pa_cons (pv 1) pa_nil)))
      (pss_cons (ps_while PassesOwn.never (pt_cmpR op_ne (pv 1) pe_int (nomark _)) (pss_one (ps_par (i := 0) (j := 1) (by rfl) sc_law_gcd.nd rfl rfl (by decide) rfl rfl (pa_cons (pv 1) (pa_cons (pe_op op_modN (pe_callTy call_int1 (by rfl) T.u_int PyProof.Rows.boot_int (pa_cons (pv 0) pa_nil)) (pv 1)) pa_nil)) (by rfl))))
      (pss_one (ps_ret (pv 0)))))), ?_⟩
  rintro ds r ⟨fuel, v__law_a, v__law_b, y, rfl, h, rfl⟩
  refine w_at [.dat (eI v__law_a), .dat (eI v__law_b)] ?_
  unfold m_law_gcd at h
  obtain ⟨v__law_a1, h_v__law_a1, h⟩ := bdO h
  refine q_seq (w_asg (i := 0) (EXp.is (e := eI v__law_a1) (ep_abs (ep_var (i := 0) rfl)) (by cases h_v__law_a1; rfl)) [.dat (eI v__law_a1), .dat (eI v__law_b)] ?_)
  obtain ⟨v__law_b2, h_v__law_b2, h⟩ := bdO h
  refine q_seq (w_asg (i := 1) (EXp.is (e := eI v__law_b2) (ep_abs (ep_var (i := 1) rfl)) (by cases h_v__law_b2; rfl)) [.dat (eI v__law_a1), .dat (eI v__law_b2)] ?_)
  obtain ⟨fl1004, h_fl1004, h⟩ := bdO h
  refine q_seq (w_while (ρ := Empty) (fun q1 : Int × Int => [.dat (eI q1.1), .dat (eI q1.2)]) (v__law_a1, v__law_b2) (sle_same (sle_same sle_nil)) h_fl1004 (fun r => r.elim) (fun r => r.elim) (fun q1 _ h => by unfold m_law_gcd_l1c at h; exact TXp.is (a := (!decide (q1.2 = (0 : Int)))) (tp_test (ep_neI (ep_var (i := 1) rfl) ep_int)) (Option.some.inj h)) (fun q1 s' h => ?_) (fun s1005 e => ?_) (fun r => r.elim) (fun r => r.elim))
  · refine w_at [.dat (eI q1.1), .dat (eI q1.2)] ?_
    unfold m_law_gcd_l1 at h
    obtain ⟨t1003, h_t1003, h⟩ := bdO h
    refine w_par (ap_cons (ep_var (i := 1) rfl) (ap_cons (ep_mod (ep_toI (ep_var (i := 0) rfl)) (ep_var (i := 1) rfl) h_t1003) ap_nil)) [.dat (eI q1.2), .dat (eI t1003)] ?_
    cases h
    exact ⟨_, rfl, (by repeat (first | exact sle_nil | refine sle_same ?_ | refine sle_un ?_))⟩
  · subst e
    replace h := thenNx h
    exact w_ret (d := eI s1005.1) (ep_var (i := 0) rfl) (congrArg eI (Option.some.inj h))
end
end G09
set_option Elab.async false
set_option linter.all false
set_option maxRecDepth 100000
set_option maxHeartbeats 4000000
namespace G09
open PySem PySem.Spec PyProof.Rows L2 Evl G
noncomputable def m_law_l2 (fuel : Nat)  (x : Int) (s : Int) : Option (Int) := (m_law_gcd fuel s x).bind fun v__law_content17 => some v__law_content17
noncomputable def m_law_l1 (fuel : Nat)  (x : (List Int)) (s : Int) : Option (Int) := (foldO (m_law_l2 fuel) x s).bind fun s2018 => some s2018
noncomputable def m_law_l3 (v__law_gram_here : (List (List Int))) (x : Int) (s : Bool) : Option (Bool) := (if s then (L2.atI v__law_gram_here x).bind fun t4021 => (L2.atI t4021 x).bind fun t4022 => (modO t4022 (2 : Int)).bind fun t4023 => some (decide (t4023 = (0 : Int))) else some false).bind fun v__law_even4025 => some v__law_even4025
noncomputable def m_law (fuel : Nat) (v__law_script : (List Int)) : Option Bool := (m_law_state v__law_script).bind fun v__law_state_here2 => (m_law_gram v__law_state_here2 (3 : Int)).bind fun t3 => (m_Lattice_init_S (Sq.L (fun p : Sq eI => p.d) (t3.1.map (Sq.L eI)))).bind fun v__law_lattice5 => (m_law_vector t3.2 (t3.1.length : Int) (4 : Int)).bind fun t6 => (m_law_vector t6.2 (t3.1.length : Int) (4 : Int)).bind fun t7 => (m_Lattice_product v__law_lattice5 t6.1 t7.1).bind fun t8 => (m_law_product_T t3.1 t6.1 t7.1).bind fun t9 => (if (!decide (t8 = t9)) then some true else (m_Lattice_product v__law_lattice5 t7.1 t6.1).bind fun t10 => (m_law_product_T t3.1 t6.1 t7.1).bind fun t11 => some (!decide (t10 = t11))).bind fun t12 => if t12 then some false else (m_Lattice_norm v__law_lattice5 t6.1).bind fun v__law_norm14 => (m_law_product_T t3.1 t6.1 t6.1).bind fun t15 => if ((!decide (v__law_norm14 = t15)) || ((!decide ((decide ((0 : Int) < v__law_norm14)) = (t6.1.any fun x => decide (x ≠ 0)))) || (decide (v__law_norm14 < (0 : Int))))) then some false else (foldO (m_law_l1 fuel) t3.1 (0 : Int)).bind fun s4019 => (rngO (t3.1.length : Int)).bind fun t4020 => (foldO (m_law_l3 t3.1) t4020 true).bind fun s7026 => (m_Lattice_determinant v__law_lattice5).bind fun t7027 => (m_law_determinant 4 t3.1).bind fun t7028 => (if (!decide (t7027 = t7028)) then some true else (m_Lattice_content v__law_lattice5).bind fun t7029 => (if (!decide (t7029 = s4019)) then some true else (m_Lattice_is_even v__law_lattice5).bind fun t7030 => some (!decide (t7030 = s7026))).bind fun t7031 => some t7031).bind fun t7032 => if t7032 then some false else (catO t6.1 [(0 : Int)]).bind fun t7033 => (catO ([true].map eB) ((cutL t6.1 (some (1 : Int)) none).map eI)).bind fun t7034 => (catO ([(Str.ofString "1")].map eS) ((cutL t6.1 (some (1 : Int)) none).map eI)).bind fun t7035 => (m_law_take t7.2 (7 : Int)).bind fun t7036 => (L2.atI ([((eL eI) t6.1), ((eT eI) t7033), ((eT eI) (cutL t6.1 (some (1 : Int)) none)), (eN ()), (eI (5 : Int)), ((eT eD) t7034), ((eT eD) t7035)] : List DV) t7036.1).bind fun t7037 => (m_Lattice_contains_D v__law_lattice5 ((eT eI) t6.1)).bind fun t7038 => (if (!t7038) then some true else (m_Lattice_contains_D v__law_lattice5 t7037).bind fun t7039 => (if (t7039) then some true else (m_law_malformed v__law_lattice5 t7037 t7.1).bind fun t7040 => some (!t7040)).bind fun t7041 => some t7041).bind fun t7042 => if t7042 then some false else (L2.atI t3.1 (0 : Int)).bind fun t7043 => (L2.atI t7043 (0 : Int)).bind fun t7044 => (L2.atI t3.1 (0 : Int)).bind fun t7045 => (catO ([(t7044 + (1 : Int))] : List Int) (cutL t7045 (some (1 : Int)) none)).bind fun t7046 => (catO ([t7046] : List (List Int)) (cutL t3.1 (some (1 : Int)) none)).bind fun t7047 => (m_Lattice_init_S (Sq.L (fun p : Sq eI => p.d) (t7047.map (Sq.L eI)))).bind fun v__law_other7049 => (m_Lattice_init_S (Sq.L (fun p : Sq eI => p.d) (t3.1.map (Sq.L eI)))).bind fun t7050 => (m_Lattice_eq v__law_lattice5 t7050).bind fun t7051 => (if t7051 then (m_Lattice_eq v__law_lattice5 v__law_other7049).bind fun t7052 => (if (!t7052) then (m_Lattice_eq_G v__law_lattice5 v__law_lattice5.gram).bind fun t7053 => (if (!t7053) then (m_Lattice_eq_N v__law_lattice5 ()).bind fun t7054 => some (!t7054) else some false).bind fun t7055 => some t7055 else some false).bind fun t7056 => some t7056 else some false).bind fun t7057 => some t7057
def R_law (C_Grid : Addr) (C_Lattice : Addr) : List DV → DV → Prop := fun ds r => ∃ (fuel : Nat) (v__law_script : (List Int)) (y : Bool), ds = [(eL eI) v__law_script] ∧ m_law fuel v__law_script = some y ∧ r = eB y
section
variable {P : Program} {w : World} {K : PySem.W.Frag} {mg : Str → Option Value} {base : Heap} {C_Grid : Addr} {C_Lattice : Addr} {f : Addr} {fd : FuncData}
theorem ok_law (F : Fun K "law" "law" s_law f fd) (T : Txt P K mg base C_Grid C_Lattice) (c_law_state : CalG P w K mg base 2 "_law_state" (spL K (R_law_state C_Grid C_Lattice)) []) (c_law_gram : CalG P w K mg base 42 "_law_gram" (spS K (R_law_gram C_Grid C_Lattice)) []) (k_Lattice : MakG P w K mg base 45 "Lattice" C_Lattice (spI K C_Lattice (R_Lattice C_Grid C_Lattice)) []) (c_law_vector : CalG P w K mg base 42 "_law_vector" (spS K (R_law_vector C_Grid C_Lattice)) []) (m_Lattice_product : MetG P w K mg base 4 C_Lattice "product" (spD K (R_Lattice_product C_Grid C_Lattice))) (c_law_product : CalG P w K mg base 2 "_law_product" (spD K (R_law_product_T C_Grid C_Lattice)) []) (m_Lattice_norm : MetG P w K mg base 5 C_Lattice "norm" (spD K (R_Lattice_norm C_Grid C_Lattice))) (c_law_gcd : CalG P w K mg base 2 "_law_gcd" (spD K (R_law_gcd C_Grid C_Lattice)) []) (m_Lattice_determinant : MetG P w K mg base 45 C_Lattice "determinant" (spD K (R_Lattice_determinant C_Grid C_Lattice))) (c_law_determinant : CalG P w K mg base 6 "_law_determinant" (spD K (R_law_determinant C_Grid C_Lattice)) []) (m_Lattice_content : MetG P w K mg base 3 C_Lattice "content" (spD K (R_Lattice_content C_Grid C_Lattice))) (m_Lattice_is_even : MetG P w K mg base 3 C_Lattice "is_even" (spD K (R_Lattice_is_even C_Grid C_Lattice))) (c_law_take : CalG P w K mg base 41 "_law_take" (spS K (R_law_take C_Grid C_Lattice)) []) (m_Lattice_contains : MetG P w K mg base 3 C_Lattice "__contains__" (spD K (R_Lattice_contains_D C_Grid C_Lattice))) (c_law_malformed : CalG P w K mg base 10 "_law_malformed" (spD K (R_law_malformed C_Grid C_Lattice)) []) (m_Lattice_eq : MetG P w K mg base 4 C_Lattice "__eq__" (spD K (R_Lattice_eq_any C_Grid C_Lattice))) : FnOk P w K mg base CX0 47 f fd ["_law_script"] (spD K (R_law C_Grid C_Lattice)) := by
  refine okW F sc_law (fun ds r h => by obtain ⟨fuel, v__law_script, y, rfl, _⟩ := h; rfl) fun cdv A outer s H E hr => ⟨_, (pss_cons (ps_set (i := 1) sc_law.nd rfl (Or.inl rfl) (pe_cG c_law_state hr (by decide) rfl (pa_cons (pv 0) pa_nil)))
      (pss_cons (ps_set (i := 2) sc_law.nd rfl (Or.inl rfl) (pe_cG c_law_gram hr (by decide) rfl (pa_cons (pv 1) (pa_cons pe_int pa_nil))))
      (pss_cons (ps_set (i := 3) sc_law.nd rfl (Or.inl rfl) (pe_mkG k_Lattice hr (by decide) rfl (pa_cons (pv 2) pa_nil)))
      (pss_cons (ps_set (i := 4) sc_law.nd rfl (Or.inl rfl) (pe_callB (call_lenK (K := K)) (by rfl) T.u_len (by decide +kernel) (pa_cons (pv 2) pa_nil)))
      (pss_cons (ps_par (i := 5) (j := 6) (by rfl) sc_law.nd rfl rfl (by decide) rfl rfl (pa_cons (pe_cG c_law_vector hr (by decide) rfl (pa_cons (pv 1) (pa_cons (pv 4) (pa_cons pe_int pa_nil)))) (pa_cons (pe_cG c_law_vector hr (by decide) rfl (pa_cons (pv 1) (pa_cons (pv 4) (pa_cons pe_int pa_nil)))) pa_nil)) (by rfl))
      (pss_cons (ps_if (PW.pt (pw_or (pt_cmpR op_ne (pe_mtG m_Lattice_product hr (by decide) (pv 3) (pa_cons (pv 5) (pa_cons (pv 6) pa_nil))) (pe_cG c_law_product hr (by decide) rfl (pa_cons (pv 2) (pa_cons (pv 5) (pa_cons (pv 6) pa_nil)))) (nomark _)) (pw_or1 (pt_cmpR op_ne (pe_mtG m_Lattice_product hr (by decide) (pv 3) (pa_cons (pv 6) (pa_cons (pv 5) pa_nil))) (pe_cG c_law_product hr (by decide) rfl (pa_cons (pv 2) (pa_cons (pv 5) (pa_cons (pv 6) pa_nil)))) (nomark _))))) (pss_one (ps_ret pe_bl)) pss_nil)
      (pss_cons (ps_set (i := 7) sc_law.nd rfl (Or.inl rfl) (pe_mtG m_Lattice_norm hr (by decide) (pv 3) (pa_cons (pv 5) pa_nil)))
      (pss_cons (ps_if (PW.pt (pw_or (pt_cmpR op_ne (pv 7) (pe_cG c_law_product hr (by decide) rfl (pa_cons (pv 2) (pa_cons (pv 5) (pa_cons (pv 5) pa_nil)))) (nomark _)) (pw_or (pt_cmpR op_ne (pe_cmpR op_gt (pv 7) pe_int (nomark _)) (pe_callB (cr_anyIK (K := K)) (by rfl) T.u_any PyProof.Rows.boot_any (pa_cons (pv 5) pa_nil)) (nomark _)) (pw_or1 (pt_cmpR op_lt (pv 7) pe_int (nomark _)))))) (pss_one (ps_ret pe_bl)) pss_nil)
      (pss_cons (ps_set (i := 8) sc_law.nd rfl (Or.inl rfl) pe_int)
      (pss_cons (ps_for PassesOwn.never rfl (pi_seqK (K := K) (pv 2)) (pg_name (i := 9) sc_law.nd rfl (Or.inl rfl)) (pss_one (ps_for PassesOwn.never rfl (pi_seqK (K := K) (pv 9)) (pg_name (i := 10) sc_law.nd rfl (Or.inl rfl)) (pss_one (ps_set (i := 8) sc_law.nd rfl (Or.inl rfl) (pe_cG c_law_gcd hr (by decide) rfl (pa_cons (pv 8) (pa_cons (pv 10) pa_nil))))))))
      (pss_cons (ps_set (i := 11) sc_law.nd rfl (Or.inl rfl) pe_bl)
      (pss_cons (ps_for PassesOwn.never rfl (pi_range1 (by rfl) T.u_range (pa_cons (pv 4) pa_nil)) (pg_name (i := 12) sc_law.nd rfl (Or.inl rfl)) (pss_one (ps_set (i := 11) sc_law.nd rfl (Or.inl rfl) (pe_and (pv 11) (pe_one (pe_cmpR op_eq (pe_op op_modN (pe_ix (ix_seqK (K := K)) (pe_ix (ix_seqK (K := K)) (pv 2) (pv 12) (fun _ _ => rfl)) (pv 12) (fun _ _ => rfl)) pe_int) pe_int (nomark _)))))))
      (pss_cons (ps_if (PW.pt (pw_or (pt_cmpR op_ne (pe_mtG0 m_Lattice_determinant hr (by decide) (pv 3)) (pe_cG c_law_determinant hr (by decide) rfl (pa_cons (pv 2) pa_nil)) (nomark _)) (pw_or (pt_cmpR op_ne (pe_mtG0 m_Lattice_content hr (by decide) (pv 3)) (pv 8) (nomark _)) (pw_or1 (pt_cmpR op_ne (pe_mtG0 m_Lattice_is_even hr (by decide) (pv 3)) (pv 11) (nomark _)))))) (pss_one (ps_ret pe_bl)) pss_nil)
      (pss_cons (ps_set (i := 13) sc_law.nd rfl (Or.inl rfl) (pe_ix (ix_seqK (K := K)) (pe_lst (pa_cons (pe_callTy (call_listK (K := K)) (by rfl) T.u_list PyProof.Rows.boot_list (pa_cons (pv 5) pa_nil)) (pa_cons (pe_op (op_catK (K := K)) (pv 5) (pe_tup (pa_cons pe_int pa_nil))) (pa_cons (pe_slice (sl_tupK (K := K)) (pv 5) (po_some pe_int) po_none) (pa_cons pe_non (pa_cons pe_int (pa_cons (pe_op (op_catK (K := K)) (pe_tup (pa_cons pe_bl pa_nil)) (pe_slice (sl_tupK (K := K)) (pv 5) (po_some pe_int) po_none)) (pa_cons (pe_op (op_catK (K := K)) (pe_tup (pa_cons pe_str pa_nil)) (pe_slice (sl_tupK (K := K)) (pv 5) (po_some pe_int) po_none)) pa_nil)))))))) (pe_cG c_law_take hr (by decide) rfl (pa_cons (pv 1) (pa_cons pe_int pa_nil))) (fun _ _ => rfl)))
      (pss_cons (ps_if (PW.pt (pw_or (pt_cmpR (opNI m_Lattice_contains hr (by decide)) (pv 5) (pv 3) (by with_unfolding_all rfl)) (pw_or (pt_cmpR (opI m_Lattice_contains hr (by decide)) (pv 13) (pv 3) (by with_unfolding_all rfl)) (pw_or1 (pt_not (pt_val (pe_cG c_law_malformed hr (by decide) rfl (pa_cons (pv 3) (pa_cons (pv 13) (pa_cons (pv 6) pa_nil)))))))))) (pss_one (ps_ret pe_bl)) pss_nil)
      (pss_cons (ps_set (i := 14) sc_law.nd rfl (Or.inl rfl) (pe_mkG k_Lattice hr (by decide) rfl (pa_cons (pe_op op_cat (pe_lst (pa_cons (pe_op op_cat (pe_lst (pa_cons (pe_op op_add (pe_ix (ix_seqK (K := K)) (pe_ix (ix_seqK (K := K)) (pv 2) pe_int (fun _ _ => rfl)) pe_int (fun _ _ => rfl)) pe_int) pa_nil)) (pe_slice (sl_listK (K := K)) (pe_ix (ix_seqK (K := K)) (pv 2) pe_int (fun _ _ => rfl)) (po_some pe_int) po_none)) pa_nil)) (pe_slice (sl_listK (K := K)) (pv 2) (po_some pe_int) po_none)) pa_nil)))
      (pss_one (ps_ret (pe_and (pe_cmpR (opEK (K := K) m_Lattice_eq hr (by decide)) (pv 3) (pe_mkG k_Lattice hr (by decide) rfl (pa_cons (pv 2) pa_nil)) (nomark _)) (pe_and (pe_not (pe_cmpR (opEK (K := K) m_Lattice_eq hr (by decide)) (pv 3) (pv 14) (nomark _))) (pe_and (pe_not (pe_cmpR (opEK (K := K) m_Lattice_eq hr (by decide)) (pv 3) (pe_fldK (K := K) (pv 3)) (nomark _))) (pe_one (pe_cmpR (opNK (K := K) m_Lattice_eq T.gLattice.own.hm T.gLattice.ne hr (by decide)) (pv 3) pe_non (nomark _)))))))))))))))))))))))), ?_⟩
  rintro ds r ⟨fuel, v__law_script, y, rfl, h, rfl⟩
  refine w_at [.dat ((eL eI) v__law_script), .un, .un, .un, .un, .un, .un, .un, .un, .un, .un, .un, .un, .un, .un] ?_
  unfold m_law at h
  obtain ⟨v__law_state_here2, h_v__law_state_here2, h⟩ := bdO h
  refine q_seq (w_asgL (i := 1) (lp_call (ap_cons (ep_var (i := 0) rfl) ap_nil) ⟨v__law_script, v__law_state_here2, rfl, h_v__law_state_here2, rfl⟩) [.dat ((eL eI) v__law_script), .own (v__law_state_here2.map eI), .un, .un, .un, .un, .un, .un, .un, .un, .un, .un, .un, .un, .un] ?_)
  obtain ⟨t3, h_t3, h⟩ := bdO h
  refine q_seq (w_asgq (eq_callS (i := 1) [.dat ((eL eI) v__law_script), .own (t3.2.map eI), .un, .un, .un, .un, .un, .un, .un, .un, .un, .un, .un, .un, .un] rfl (ap_cons ep_int ap_nil) ⟨v__law_state_here2, (3 : Int), t3.1, t3.2, rfl, rfl, h_t3, rfl, rfl⟩) [.dat ((eL eI) v__law_script), .own (t3.2.map eI), .dat ((eL (eL eI)) t3.1), .un, .un, .un, .un, .un, .un, .un, .un, .un, .un, .un, .un] ?_)
  obtain ⟨v__law_lattice5, h_v__law_lattice5, h⟩ := bdO h
  refine q_seq (w_asg (i := 3) (ep_mk_Lattice_S (ap_cons (EXp.is (ep_var (i := 2) rfl) (by simp [Sq.L, Sq.T, List.map_map, Function.comp_def])) ap_nil) h_v__law_lattice5) [.dat ((eL eI) v__law_script), .own (t3.2.map eI), .dat ((eL (eL eI)) t3.1), .dat ((e_Lattice C_Grid C_Lattice) v__law_lattice5), .un, .un, .un, .un, .un, .un, .un, .un, .un, .un, .un] ?_)
  refine q_seq (w_asg (i := 4) (ep_lenM (f := (eL eI)) (ip_lst (ep_var (i := 2) rfl))) [.dat ((eL eI) v__law_script), .own (t3.2.map eI), .dat ((eL (eL eI)) t3.1), .dat ((e_Lattice C_Grid C_Lattice) v__law_lattice5), .dat (eI (t3.1.length : Int)), .un, .un, .un, .un, .un, .un, .un, .un, .un, .un] ?_)
  obtain ⟨t6, h_t6, h⟩ := bdO h
  obtain ⟨t7, h_t7, h⟩ := bdO h
  refine q_seq (w_parq (aq_cons (eq_callS (i := 1) [.dat ((eL eI) v__law_script), .own (t6.2.map eI), .dat ((eL (eL eI)) t3.1), .dat ((e_Lattice C_Grid C_Lattice) v__law_lattice5), .dat (eI (t3.1.length : Int)), .un, .un, .un, .un, .un, .un, .un, .un, .un, .un] rfl (ap_cons (ep_var (i := 4) rfl) (ap_cons ep_int ap_nil)) ⟨t3.2, (t3.1.length : Int), (4 : Int), t6.1, t6.2, rfl, rfl, h_t6, rfl, rfl⟩) (aq_cons (eq_callS (i := 1) [.dat ((eL eI) v__law_script), .own (t7.2.map eI), .dat ((eL (eL eI)) t3.1), .dat ((e_Lattice C_Grid C_Lattice) v__law_lattice5), .dat (eI (t3.1.length : Int)), .un, .un, .un, .un, .un, .un, .un, .un, .un, .un] rfl (ap_cons (ep_var (i := 4) rfl) (ap_cons ep_int ap_nil)) ⟨t6.2, (t3.1.length : Int), (4 : Int), t7.1, t7.2, rfl, rfl, h_t7, rfl, rfl⟩) aq_nil)) [.dat ((eL eI) v__law_script), .own (t7.2.map eI), .dat ((eL (eL eI)) t3.1), .dat ((e_Lattice C_Grid C_Lattice) v__law_lattice5), .dat (eI (t3.1.length : Int)), .dat ((eT eI) t6.1), .dat ((eT eI) t7.1), .un, .un, .un, .un, .un, .un, .un, .un] ?_)
  obtain ⟨t8, h_t8, h⟩ := bdO h
  obtain ⟨t9, h_t9, h⟩ := bdO h
  obtain ⟨t12, h_t12, h⟩ := bdO h
  refine q_seq (w_if (tp_orM (tp_test (ep_neI (ep_meth (ep_var (i := 3) rfl) rfl (ap_cons (ep_var (i := 5) rfl) (ap_cons (ep_var (i := 6) rfl) ap_nil)) ⟨v__law_lattice5, t6.1, t7.1, t8, rfl, h_t8, rfl⟩) (ep_call (ap_cons (ep_var (i := 2) rfl) (ap_cons (ep_var (i := 5) rfl) (ap_cons (ep_var (i := 6) rfl) ap_nil))) ⟨t3.1, t6.1, t7.1, t9, rfl, h_t9, rfl⟩))) h_t12 (fun hb _ h => by obtain ⟨t10, h_t10, h⟩ := bdO h; obtain ⟨t11, h_t11, h⟩ := bdO h; exact TXp.is (a := (!decide (t10 = t11))) (tp_test (ep_neI (ep_meth (ep_var (i := 3) rfl) rfl (ap_cons (ep_var (i := 6) rfl) (ap_cons (ep_var (i := 5) rfl) ap_nil)) ⟨v__law_lattice5, t7.1, t6.1, t10, rfl, h_t10, rfl⟩) (ep_call (ap_cons (ep_var (i := 2) rfl) (ap_cons (ep_var (i := 5) rfl) (ap_cons (ep_var (i := 6) rfl) ap_nil))) ⟨t3.1, t6.1, t7.1, t11, rfl, h_t11, rfl⟩))) (Option.some.inj h))) (fun hb => ?_) (fun hb => ?_))
  · replace h := ifT hb h
    exact w_ret (d := eB false) ep_bl (congrArg eB (Option.some.inj h))
  · replace h := ifF hb h
    refine w_next ?_
    obtain ⟨v__law_norm14, h_v__law_norm14, h⟩ := bdO h
    refine q_seq (w_asg (i := 7) (ep_meth (ep_var (i := 3) rfl) rfl (ap_cons (ep_var (i := 5) rfl) ap_nil) ⟨v__law_lattice5, t6.1, v__law_norm14, rfl, h_v__law_norm14, rfl⟩) [.dat ((eL eI) v__law_script), .own (t7.2.map eI), .dat ((eL (eL eI)) t3.1), .dat ((e_Lattice C_Grid C_Lattice) v__law_lattice5), .dat (eI (t3.1.length : Int)), .dat ((eT eI) t6.1), .dat ((eT eI) t7.1), .dat (eI v__law_norm14), .un, .un, .un, .un, .un, .un, .un] ?_)
    obtain ⟨t15, h_t15, h⟩ := bdO h
    refine q_seq (w_if (tp_or (tp_test (ep_neI (ep_var (i := 7) rfl) (ep_call (ap_cons (ep_var (i := 2) rfl) (ap_cons (ep_var (i := 5) rfl) (ap_cons (ep_var (i := 5) rfl) ap_nil))) ⟨t3.1, t6.1, t6.1, t15, rfl, h_t15, rfl⟩))) (fun _ => (tp_or (tp_test (ep_neB (ep_gt (ep_var (i := 7) rfl) ep_int) (ep_anyI (ep_var (i := 5) rfl)))) (fun _ => (tp_test (ep_lt (ep_var (i := 7) rfl) ep_int)))))) (fun hb => ?_) (fun hb => ?_))
    · replace h := ifT hb h
      exact w_ret (d := eB false) ep_bl (congrArg eB (Option.some.inj h))
    · replace h := ifF hb h
      refine w_next ?_
      refine q_seq (w_asg (i := 8) ep_int [.dat ((eL eI) v__law_script), .own (t7.2.map eI), .dat ((eL (eL eI)) t3.1), .dat ((e_Lattice C_Grid C_Lattice) v__law_lattice5), .dat (eI (t3.1.length : Int)), .dat ((eT eI) t6.1), .dat ((eT eI) t7.1), .dat (eI v__law_norm14), .dat (eI (0 : Int)), .un, .un, .un, .un, .un, .un] ?_)
      obtain ⟨s4019, h_s4019, h⟩ := bdO h
      refine q_seq (w_fold (fun q1 : Int => [.dat ((eL eI) v__law_script), .own (t7.2.map eI), .dat ((eL (eL eI)) t3.1), .dat ((e_Lattice C_Grid C_Lattice) v__law_lattice5), .dat (eI (t3.1.length : Int)), .dat ((eT eI) t6.1), .dat ((eT eI) t7.1), .dat (eI v__law_norm14), .dat (eI q1), .un, .un, .un, .un, .un, .un]) (0 : Int) (sle_same (sle_same (sle_same (sle_same (sle_same (sle_same (sle_same (sle_same (sle_same (sle_same (sle_same (sle_same (sle_same (sle_same (sle_same sle_nil))))))))))))))) (wl_seq (f := (eL eI)) (sq_lst (ep_var (i := 2) rfl))) h_s4019 (fun y1 q1 s' h => ?_) ?_)
      · refine w_at [.dat ((eL eI) v__law_script), .own (t7.2.map eI), .dat ((eL (eL eI)) t3.1), .dat ((e_Lattice C_Grid C_Lattice) v__law_lattice5), .dat (eI (t3.1.length : Int)), .dat ((eT eI) t6.1), .dat ((eT eI) t7.1), .dat (eI v__law_norm14), .dat (eI q1), .dat ((eL eI) y1), .un, .un, .un, .un, .un] ?_
        unfold m_law_l1 at h
        obtain ⟨s4018, h_s4018, h⟩ := bdO h
        refine w_fold (fun q2 : Int => [.dat ((eL eI) v__law_script), .own (t7.2.map eI), .dat ((eL (eL eI)) t3.1), .dat ((e_Lattice C_Grid C_Lattice) v__law_lattice5), .dat (eI (t3.1.length : Int)), .dat ((eT eI) t6.1), .dat ((eT eI) t7.1), .dat (eI v__law_norm14), .dat (eI q2), .dat ((eL eI) y1), .un, .un, .un, .un, .un]) q1 (sle_same (sle_same (sle_same (sle_same (sle_same (sle_same (sle_same (sle_same (sle_same (sle_same (sle_same (sle_same (sle_same (sle_same (sle_same sle_nil))))))))))))))) (wl_seq (f := eI) (sq_lst (ep_var (i := 9) rfl))) h_s4018 (fun y2 q2 s' h => ?_) ?_
        · refine w_at [.dat ((eL eI) v__law_script), .own (t7.2.map eI), .dat ((eL (eL eI)) t3.1), .dat ((e_Lattice C_Grid C_Lattice) v__law_lattice5), .dat (eI (t3.1.length : Int)), .dat ((eT eI) t6.1), .dat ((eT eI) t7.1), .dat (eI v__law_norm14), .dat (eI q2), .dat ((eL eI) y1), .dat (eI y2), .un, .un, .un, .un] ?_
          unfold m_law_l2 at h
          obtain ⟨v__law_content4017, h_v__law_content4017, h⟩ := bdO h
          refine w_asg (i := 8) (ep_call (ap_cons (ep_var (i := 8) rfl) (ap_cons (ep_var (i := 10) rfl) ap_nil)) ⟨fuel, q2, y2, v__law_content4017, rfl, h_v__law_content4017, rfl⟩) [.dat ((eL eI) v__law_script), .own (t7.2.map eI), .dat ((eL (eL eI)) t3.1), .dat ((e_Lattice C_Grid C_Lattice) v__law_lattice5), .dat (eI (t3.1.length : Int)), .dat ((eT eI) t6.1), .dat ((eT eI) t7.1), .dat (eI v__law_norm14), .dat (eI v__law_content4017), .dat ((eL eI) y1), .dat (eI y2), .un, .un, .un, .un] ?_
          cases h
          exact (by repeat (first | exact sle_nil | refine sle_same ?_ | refine sle_un ?_))
        cases h
        exact (by repeat (first | exact sle_nil | refine sle_same ?_ | refine sle_un ?_))
      refine q_seq (w_asg (i := 11) ep_bl [.dat ((eL eI) v__law_script), .own (t7.2.map eI), .dat ((eL (eL eI)) t3.1), .dat ((e_Lattice C_Grid C_Lattice) v__law_lattice5), .dat (eI (t3.1.length : Int)), .dat ((eT eI) t6.1), .dat ((eT eI) t7.1), .dat (eI v__law_norm14), .dat (eI s4019), .un, .un, .dat (eB true), .un, .un, .un] ?_)
      obtain ⟨t4020, h_t4020, h⟩ := bdO h
      obtain ⟨s7026, h_s7026, h⟩ := bdO h
      refine q_seq (w_fold (fun q3 : Bool => [.dat ((eL eI) v__law_script), .own (t7.2.map eI), .dat ((eL (eL eI)) t3.1), .dat ((e_Lattice C_Grid C_Lattice) v__law_lattice5), .dat (eI (t3.1.length : Int)), .dat ((eT eI) t6.1), .dat ((eT eI) t7.1), .dat (eI v__law_norm14), .dat (eI s4019), .un, .un, .dat (eB q3), .un, .un, .un]) true (sle_same (sle_same (sle_same (sle_same (sle_same (sle_same (sle_same (sle_same (sle_same (sle_same (sle_same (sle_same (sle_same (sle_same (sle_same sle_nil))))))))))))))) (wl_range1 (ep_var (i := 4) rfl) h_t4020) h_s7026 (fun y3 q3 s' h => ?_) ?_)
      · refine w_at [.dat ((eL eI) v__law_script), .own (t7.2.map eI), .dat ((eL (eL eI)) t3.1), .dat ((e_Lattice C_Grid C_Lattice) v__law_lattice5), .dat (eI (t3.1.length : Int)), .dat ((eT eI) t6.1), .dat ((eT eI) t7.1), .dat (eI v__law_norm14), .dat (eI s4019), .un, .un, .dat (eB q3), .dat (eI y3), .un, .un] ?_
        unfold m_law_l3 at h
        obtain ⟨v__law_even7025, h_v__law_even7025, h⟩ := bdO h
        refine w_asg (i := 11) (ep_andM (ep_var (i := 11) rfl) h_v__law_even7025 (fun hb _ h => by obtain ⟨t7021, h_t7021, h⟩ := bdO h; obtain ⟨t7022, h_t7022, h⟩ := bdO h; obtain ⟨t7023, h_t7023, h⟩ := bdO h; exact EXp.is (d := eB (decide (t7023 = (0 : Int)))) (ep_eqI (ep_mod (ep_ix (f := eI) (ip_lst (ep_ix (f := (eL eI)) (ip_lst (ep_var (i := 2) rfl)) (ep_var (i := 12) rfl) h_t7021)) (ep_var (i := 12) rfl) h_t7022) ep_int h_t7023) ep_int) (congrArg eB (Option.some.inj h)))) [.dat ((eL eI) v__law_script), .own (t7.2.map eI), .dat ((eL (eL eI)) t3.1), .dat ((e_Lattice C_Grid C_Lattice) v__law_lattice5), .dat (eI (t3.1.length : Int)), .dat ((eT eI) t6.1), .dat ((eT eI) t7.1), .dat (eI v__law_norm14), .dat (eI s4019), .un, .un, .dat (eB v__law_even7025), .dat (eI y3), .un, .un] ?_
        cases h
        exact (by repeat (first | exact sle_nil | refine sle_same ?_ | refine sle_un ?_))
      obtain ⟨t7027, h_t7027, h⟩ := bdO h
      obtain ⟨t7028, h_t7028, h⟩ := bdO h
      obtain ⟨t7032, h_t7032, h⟩ := bdO h
      refine q_seq (w_if (tp_orM (tp_test (ep_neI (ep_meth (ep_var (i := 3) rfl) rfl ap_nil ⟨v__law_lattice5, t7027, rfl, h_t7027, rfl⟩) (ep_call (ap_cons (ep_var (i := 2) rfl) ap_nil) ⟨4, Nat.le_refl _, t3.1, t7028, rfl, h_t7028, rfl⟩))) h_t7032 (fun hb _ h => by obtain ⟨t7029, h_t7029, h⟩ := bdO h; obtain ⟨t7031, h_t7031, h⟩ := bdO h; exact TXp.is (a := t7031) (tp_orM (tp_test (ep_neI (ep_meth (ep_var (i := 3) rfl) rfl ap_nil ⟨v__law_lattice5, t7029, rfl, h_t7029, rfl⟩) (ep_var (i := 8) rfl))) h_t7031 (fun hb _ h => by obtain ⟨t7030, h_t7030, h⟩ := bdO h; exact TXp.is (a := (!decide (t7030 = s7026))) (tp_test (ep_neB (ep_meth (ep_var (i := 3) rfl) rfl ap_nil ⟨v__law_lattice5, t7030, rfl, h_t7030, rfl⟩) (ep_var (i := 11) rfl))) (Option.some.inj h))) (Option.some.inj h))) (fun hb => ?_) (fun hb => ?_))
      · replace h := ifT hb h
        exact w_ret (d := eB false) ep_bl (congrArg eB (Option.some.inj h))
      · replace h := ifF hb h
        refine w_next ?_
        obtain ⟨t7033, h_t7033, h⟩ := bdO h
        obtain ⟨t7034, h_t7034, h⟩ := bdO h
        obtain ⟨t7035, h_t7035, h⟩ := bdO h
        obtain ⟨t7036, h_t7036, h⟩ := bdO h
        obtain ⟨t7037, h_t7037, h⟩ := bdO h
        refine q_seq (w_asgq (eq_ix (f := eD) (LXp.ex (LXp.is (es := ([((eL eI) t6.1), ((eT eI) t7033), ((eT eI) (cutL t6.1 (some (1 : Int)) none)), (eN ()), (eI (5 : Int)), ((eT eD) t7034), ((eT eD) t7035)] : List DV).map eD) (lp_lst (ap_cons (LXp.ex (lp_list (ip_tup (ep_var (i := 5) rfl)))) (ap_cons (ep_catT (f := eI) (ep_var (i := 5) rfl) (ep_tup (ap_cons ep_int ap_nil)) h_t7033) (ap_cons (ep_slT (f := eI) (ep_var (i := 5) rfl) (op_some ep_int) op_none) (ap_cons ep_non (ap_cons ep_int (ap_cons (ep_catT (f := eD) (EXp.is (ep_tup (ap_cons ep_bl ap_nil)) (by simp)) (EXp.is (ep_slT (f := eI) (ep_var (i := 5) rfl) (op_some ep_int) op_none) (by simp)) h_t7034) (ap_cons (ep_catT (f := eD) (EXp.is (ep_tup (ap_cons ep_str ap_nil)) (by simp)) (EXp.is (ep_slT (f := eI) (ep_var (i := 5) rfl) (op_some ep_int) op_none) (by simp)) h_t7035) ap_nil)))))))) rfl)) (eq_callS (i := 1) [.dat ((eL eI) v__law_script), .own (t7036.2.map eI), .dat ((eL (eL eI)) t3.1), .dat ((e_Lattice C_Grid C_Lattice) v__law_lattice5), .dat (eI (t3.1.length : Int)), .dat ((eT eI) t6.1), .dat ((eT eI) t7.1), .dat (eI v__law_norm14), .dat (eI s4019), .un, .un, .dat (eB s7026), .un, .un, .un] rfl (ap_cons ep_int ap_nil) ⟨t7.2, (7 : Int), t7036.1, t7036.2, rfl, rfl, h_t7036, rfl, rfl⟩) h_t7037) [.dat ((eL eI) v__law_script), .own (t7036.2.map eI), .dat ((eL (eL eI)) t3.1), .dat ((e_Lattice C_Grid C_Lattice) v__law_lattice5), .dat (eI (t3.1.length : Int)), .dat ((eT eI) t6.1), .dat ((eT eI) t7.1), .dat (eI v__law_norm14), .dat (eI s4019), .un, .un, .dat (eB s7026), .un, .dat (eD t7037), .un] ?_)
        obtain ⟨t7038, h_t7038, h⟩ := bdO h
        obtain ⟨t7042, h_t7042, h⟩ := bdO h
        refine q_seq (w_if (tp_orM (tp_test (ep_notIn (ep_var (i := 5) rfl) (ep_var (i := 3) rfl) ⟨v__law_lattice5, ((eT eI) t6.1), t7038, rfl, h_t7038, rfl⟩)) h_t7042 (fun hb _ h => by obtain ⟨t7039, h_t7039, h⟩ := bdO h; obtain ⟨t7041, h_t7041, h⟩ := bdO h; exact TXp.is (a := t7041) (tp_orM (tp_test (ep_in (ep_var (i := 13) rfl) (ep_var (i := 3) rfl) ⟨v__law_lattice5, t7037, t7039, rfl, h_t7039, rfl⟩)) h_t7041 (fun hb _ h => by obtain ⟨t7040, h_t7040, h⟩ := bdO h; exact TXp.is (a := (!t7040)) (tp_not (tp_val (ep_call (ap_cons (ep_var (i := 3) rfl) (ap_cons (ep_var (i := 13) rfl) (ap_cons (ep_var (i := 6) rfl) ap_nil))) ⟨v__law_lattice5, t7037, t7.1, t7040, rfl, h_t7040, rfl⟩))) (Option.some.inj h))) (Option.some.inj h))) (fun hb => ?_) (fun hb => ?_))
        · replace h := ifT hb h
          exact w_ret (d := eB false) ep_bl (congrArg eB (Option.some.inj h))
        · replace h := ifF hb h
          refine w_next ?_
          obtain ⟨t7043, h_t7043, h⟩ := bdO h
          obtain ⟨t7044, h_t7044, h⟩ := bdO h
          obtain ⟨t7045, h_t7045, h⟩ := bdO h
          obtain ⟨t7046, h_t7046, h⟩ := bdO h
          obtain ⟨t7047, h_t7047, h⟩ := bdO h
          obtain ⟨v__law_other7049, h_v__law_other7049, h⟩ := bdO h
          refine q_seq (w_asg (i := 14) (ep_mk_Lattice_S (ap_cons (EXp.is (LXp.ex (lp_cat (f := (eL eI)) (LXp.is (es := ([t7046] : List (List Int)).map (eL eI)) (lp_lst (ap_cons (LXp.ex (lp_cat (f := eI) (LXp.is (es := ([(t7044 + (1 : Int))] : List Int).map eI) (lp_lst (ap_cons (ep_add (ep_ix (f := eI) (ip_lst (ep_ix (f := (eL eI)) (ip_lst (ep_var (i := 2) rfl)) ep_int h_t7043)) ep_int h_t7044) ep_int) ap_nil)) rfl) (lp_sl (f := eI) (ep_ix (f := (eL eI)) (ip_lst (ep_var (i := 2) rfl)) ep_int h_t7045) (op_some ep_int) op_none) h_t7046)) ap_nil)) rfl) (lp_sl (f := (eL eI)) (ep_var (i := 2) rfl) (op_some ep_int) op_none) h_t7047)) (by simp [Sq.L, Sq.T, List.map_map, Function.comp_def])) ap_nil) h_v__law_other7049) [.dat ((eL eI) v__law_script), .own (t7036.2.map eI), .dat ((eL (eL eI)) t3.1), .dat ((e_Lattice C_Grid C_Lattice) v__law_lattice5), .dat (eI (t3.1.length : Int)), .dat ((eT eI) t6.1), .dat ((eT eI) t7.1), .dat (eI v__law_norm14), .dat (eI s4019), .un, .un, .dat (eB s7026), .un, .dat (eD t7037), .dat ((e_Lattice C_Grid C_Lattice) v__law_other7049)] ?_)
          obtain ⟨t7050, h_t7050, h⟩ := bdO h
          obtain ⟨t7051, h_t7051, h⟩ := bdO h
          obtain ⟨t7057, h_t7057, h⟩ := bdO h
          exact w_ret (d := eB t7057) (ep_andM (ep_ownE (ep_var (i := 3) rfl) (ep_mk_Lattice_S (ap_cons (EXp.is (ep_var (i := 2) rfl) (by simp [Sq.L, Sq.T, List.map_map, Function.comp_def])) ap_nil) h_t7050) (.ins T.gLattice.own) T.gLattice.nf (Or.inl ⟨v__law_lattice5, t7050, t7051, rfl, h_t7051, rfl⟩)) h_t7057 (fun hb _ h => by obtain ⟨t7052, h_t7052, h⟩ := bdO h; obtain ⟨t7056, h_t7056, h⟩ := bdO h; exact EXp.is (d := eB t7056) (ep_andM (ep_notV (ep_ownE (ep_var (i := 3) rfl) (ep_var (i := 14) rfl) (.ins T.gLattice.own) T.gLattice.nf (Or.inl ⟨v__law_lattice5, v__law_other7049, t7052, rfl, h_t7052, rfl⟩))) h_t7056 (fun hb _ h => by obtain ⟨t7053, h_t7053, h⟩ := bdO h; obtain ⟨t7055, h_t7055, h⟩ := bdO h; exact EXp.is (d := eB t7055) (ep_andM (ep_notV (ep_ownE (ep_var (i := 3) rfl) (ep_fld (ep_var (i := 3) rfl) T.cl_Lattice T.n_Lattice_gram rfl) (.ins T.gGrid.own) T.nff_Lattice_Grid (Or.inr (Or.inl ⟨v__law_lattice5, v__law_lattice5.gram, t7053, rfl, h_t7053, rfl⟩)))) h_t7055 (fun hb _ h => by obtain ⟨t7054, h_t7054, h⟩ := bdO h; exact EXp.is (d := eB (!t7054)) (ep_ownN (ep_var (i := 3) rfl) ep_non .non T.nfn_Lattice (Or.inr (Or.inr ⟨v__law_lattice5, (), t7054, rfl, h_t7054, rfl⟩))) (congrArg eB (Option.some.inj h)))) (congrArg eB (Option.some.inj h)))) (congrArg eB (Option.some.inj h)))) (congrArg eB (Option.some.inj h))
end
end G09
set_option Elab.async false
set_option linter.all false
/-! greatest common divisors of lists -/
namespace G
def gN : List Int → Nat
  | [] => 0
  | x :: xs => Nat.gcd x.natAbs (gN xs)
theorem gN_append (xs ys : List Int) : gN (xs ++ ys) = Nat.gcd (gN xs) (gN ys) := by
  induction xs with
  | nil => show gN ys = Nat.gcd 0 (gN ys); rw [Nat.gcd_zero_left]
  | cons x xs ih => show Nat.gcd _ (gN (xs ++ ys)) = Nat.gcd (Nat.gcd _ _) _; rw [ih, Nat.gcd_assoc]
theorem gN_dvd {xs : List Int} : ∀ x ∈ xs, ((gN xs : Nat) : Int) ∣ x := by
  induction xs with
  | nil => intro x h; cases h
  | cons y ys ih =>
    intro x h
    rcases List.mem_cons.mp h with rfl | h
    · exact Int.ofNat_dvd_left.mpr (Nat.gcd_dvd_left _ _)
    · exact Int.dvd_trans (Int.natCast_dvd_natCast.mpr (Nat.gcd_dvd_right _ _)) (ih x h)
theorem dvd_gN {xs : List Int} {d : Nat} (h : ∀ x ∈ xs, (d : Int) ∣ x) : d ∣ gN xs := by
  induction xs with
  | nil => exact Nat.dvd_zero d
  | cons y ys ih => exact Nat.dvd_gcd (Int.ofNat_dvd_left.mp (h y (by simp))) (ih fun x hx => h x (by simp [hx]))
theorem gN_pos {xs : List Int} {x : Int} (h : x ∈ xs) (hx : x ≠ 0) : 0 < gN xs := by
  rcases Nat.eq_zero_or_pos (gN xs) with z | z
  · have := gN_dvd x h
    rw [z] at this
    exact (hx (Int.zero_dvd.mp this)).elim
  · exact z
theorem foldl_gcd {xs : List Int} : ∀ {s : Int}, xs.foldl (fun s x => ((Nat.gcd s.natAbs x.natAbs : Nat) : Int)) s = if xs = [] then s else ((Nat.gcd s.natAbs (gN xs) : Nat) : Int) := by
  induction xs with
  | nil => intro s; rfl
  | cons y ys ih =>
    intro s
    rw [List.foldl_cons, ih, if_neg (List.cons_ne_nil _ _)]
    split
    · rename_i h
      subst h
      show _ = ((Nat.gcd s.natAbs (Nat.gcd y.natAbs 0) : Nat) : Int)
      rw [Nat.gcd_zero_right]
    · rw [Int.natAbs_natCast]
      show _ = ((Nat.gcd s.natAbs (Nat.gcd y.natAbs (gN ys)) : Nat) : Int)
      rw [Nat.gcd_assoc]
theorem foldl_gcd0 {xs : List Int} : xs.foldl (fun s x => ((Nat.gcd s.natAbs x.natAbs : Nat) : Int)) 0 = ((gN xs : Nat) : Int) := by
  rw [foldl_gcd]
  split
  · rename_i h
    subst h
    rfl
  · simp
theorem foldl_gcdP {xs : List Int} {s : Int} (h : 0 ≤ s) : xs.foldl (fun s x => ((Nat.gcd s.natAbs x.natAbs : Nat) : Int)) s = ((Nat.gcd s.natAbs (gN xs) : Nat) : Int) := by
  rw [foldl_gcd]
  split
  · rename_i e
    subst e
    show s = ((Nat.gcd s.natAbs 0 : Nat) : Int)
    rw [Nat.gcd_zero_right]
    omega
  · rfl
theorem gN_map_nat (xs : List Nat) : ∀ ys : List (List Int), xs = ys.map gN → gN (xs.map fun n : Nat => (n : Int)) = gN ys.flatten := by
  intro ys h
  subst h
  induction ys with
  | nil => rfl
  | cons y ys ih =>
    rw [List.flatten_cons, gN_append, ← ih]
    show Nat.gcd ((gN y : Int)).natAbs _ = _
    rw [Int.natAbs_natCast]
theorem gN_rows (ys : List (List Int)) : gN (ys.map fun y => ((gN y : Nat) : Int)) = gN ys.flatten := by
  have z := gN_map_nat (ys.map gN) ys rfl
  rw [List.map_map] at z
  exact z
/-- exact quotients -/
theorem div_mul {d x : Int} (hd : d ≠ 0) (h : d ∣ x) : d * x.fdiv d = x := by
  obtain ⟨q, rfl⟩ := h
  rw [Int.mul_fdiv_cancel_left _ hd]
/-- proportional lists have the same quotient by their divisors -/
theorem prop_eq {xs ys : List Int} {p q : Int} (hp : 0 < p) (hq : 0 < q) (hx : 0 < gN xs) (hy : 0 < gN ys) (hl : xs.length = ys.length) (h : ∀ i, (h1 : i < xs.length) → (h2 : i < ys.length) → p * xs[i] = q * ys[i]) :
    ∀ i, (h1 : i < xs.length) → (h2 : i < ys.length) → xs[i].fdiv (gN xs : Nat) = ys[i].fdiv (gN ys : Nat) := by
  obtain ⟨P, rfl⟩ : ∃ P : Nat, p = P := ⟨p.toNat, by omega⟩
  obtain ⟨Q, rfl⟩ : ∃ Q : Nat, q = Q := ⟨q.toNat, by omega⟩
  have key : P * gN xs = Q * gN ys := by
    have e1 : ∀ (c : Nat) (zs : List Int), gN (zs.map fun z => (c : Int) * z) = c * gN zs := by
      intro c zs
      induction zs with
      | nil => rfl
      | cons z zs ih =>
        show Nat.gcd ((c : Int) * z).natAbs (gN (zs.map fun z => (c : Int) * z)) = _
        rw [ih, Int.natAbs_mul, Int.natAbs_natCast, Nat.gcd_mul_left]
        rfl
    have e2 : (xs.map fun z => (P : Int) * z) = ys.map fun z => (Q : Int) * z := by
      refine List.ext_getElem (by simp [hl]) fun i h1 h2 => ?_
      simp at h1 h2
      simp [h i h1 h2]
    rw [← e1, ← e1, e2]
  intro i h1 h2
  have a := div_mul (d := (gN xs : Nat)) (by omega) (gN_dvd xs[i] (List.getElem_mem h1))
  have b := div_mul (d := (gN ys : Nat)) (by omega) (gN_dvd ys[i] (List.getElem_mem h2))
  have c := h i h1 h2
  generalize xs[i].fdiv (gN xs : Nat) = u at a
  generalize ys[i].fdiv (gN ys : Nat) = v at b
  rw [← a, ← b, ← Int.mul_assoc, ← Int.mul_assoc] at c
  have key' : (P : Int) * (gN xs : Nat) = (Q : Int) * (gN ys : Nat) := by
    rw [← Int.natCast_mul, ← Int.natCast_mul, key]
  rw [key'] at c
  have hne : (Q : Int) * (gN ys : Nat) ≠ 0 := Int.mul_ne_zero (by omega) (by omega)
  exact Int.eq_of_mul_eq_mul_left hne c
end G
set_option Elab.async false
set_option linter.all false
set_option maxRecDepth 100000
set_option maxHeartbeats 4000000
namespace G
/-- what the law's source of numbers does -/
def TkOk (take : List Int → Int → Option (Int × List Int)) : Prop := ∀ (st : List Int) (m : Int), st.length = 2 → 0 < m → ∃ v st', take st m = some (v, st') ∧ st'.length = 2 ∧ 0 ≤ v ∧ v < m
/-- the matrices that _law_gram makes -/
inductive Gd : List (List Int) → Nat → Prop
  | one {a : Int} (ha : 1 ≤ a ∧ a ≤ 3) : Gd [[a]] 1
  | two {a b y : Int} (ha : 1 ≤ a ∧ a ≤ 3) (hb : 1 ≤ b ∧ b ≤ 3) (hy : -1 ≤ y ∧ y ≤ 1) : Gd [[a + absI y, y], [y, b + absI y]] 2
  | three {a b c y z v : Int} (ha : 1 ≤ a ∧ a ≤ 3) (hb : 1 ≤ b ∧ b ≤ 3) (hc : 1 ≤ c ∧ c ≤ 3) (hy : -1 ≤ y ∧ y ≤ 1) (hz : -1 ≤ z ∧ z ≤ 1) (hv : -1 ≤ v ∧ v ≤ 1) : Gd [[a + (absI y + absI z), y, z], [y, b + (absI y + absI v), v], [z, v, c + (absI z + absI v)]] 3
theorem abs0 : absI 0 = 0 := rfl
theorem gr_one {take : List Int → Int → Option (Int × List Int)} (T : TkOk take) {st : List Int} (h : st.length = 2) : ∃ g st', gramRest take 1 st = some (g, st') ∧ st'.length = 2 ∧ Gd g 1 := by
  obtain ⟨v, s1, e1, l1, p1, p2⟩ := T st 3 h (by decide)
  refine ⟨[[1 + v]], s1, ?_, l1, .one ⟨by omega, by omega⟩⟩
  have r1 : List.range 1 = [0] := rfl
  simp [gramRest, gOut, gIn, gDia, foldO, r1, zer, put2, e1, abs0]
theorem gr_two {take : List Int → Int → Option (Int × List Int)} (T : TkOk take) {st : List Int} (h : st.length = 2) : ∃ g st', gramRest take 2 st = some (g, st') ∧ st'.length = 2 ∧ Gd g 2 := by
  obtain ⟨y, s1, e1, l1, p1, p2⟩ := T st 3 h (by decide)
  obtain ⟨a, s2, e2, l2, p3, p4⟩ := T s1 3 l1 (by decide)
  obtain ⟨b, s3, e3, l3, p5, p6⟩ := T s2 3 l2 (by decide)
  refine ⟨[[1 + a + absI (y - 1), y - 1], [y - 1, 1 + b + absI (y - 1)]], s3, ?_, l3, .two ⟨by omega, by omega⟩ ⟨by omega, by omega⟩ ⟨by omega, by omega⟩⟩
  have r1 : List.range 1 = [0] := rfl
  have r2 : List.range 2 = [0, 1] := rfl
  simp [gramRest, gOut, gIn, gDia, foldO, r1, r2, zer, put2, e1, e2, e3, abs0]
theorem gr_three {take : List Int → Int → Option (Int × List Int)} (T : TkOk take) {st : List Int} (h : st.length = 2) : ∃ g st', gramRest take 3 st = some (g, st') ∧ st'.length = 2 ∧ Gd g 3 := by
  obtain ⟨y, s1, e1, l1, p1, p2⟩ := T st 3 h (by decide)
  obtain ⟨z, s2, e2, l2, p3, p4⟩ := T s1 3 l1 (by decide)
  obtain ⟨v, s3, e3, l3, p5, p6⟩ := T s2 3 l2 (by decide)
  obtain ⟨a, s4, e4, l4, q1, q2⟩ := T s3 3 l3 (by decide)
  obtain ⟨b, s5, e5, l5, q3, q4⟩ := T s4 3 l4 (by decide)
  obtain ⟨c, s6, e6, l6, q5, q6⟩ := T s5 3 l5 (by decide)
  refine ⟨[[1 + a + (absI (y - 1) + absI (z - 1)), y - 1, z - 1], [y - 1, 1 + b + (absI (y - 1) + absI (v - 1)), v - 1], [z - 1, v - 1, 1 + c + (absI (z - 1) + absI (v - 1))]], s6, ?_, l6, .three ⟨by omega, by omega⟩ ⟨by omega, by omega⟩ ⟨by omega, by omega⟩ ⟨by omega, by omega⟩ ⟨by omega, by omega⟩ ⟨by omega, by omega⟩⟩
  have r1 : List.range 1 = [0] := rfl
  have r2 : List.range 2 = [0, 1] := rfl
  have r3 : List.range 3 = [0, 1, 2] := rfl
  simp [gramRest, gOut, gIn, gDia, foldO, r1, r2, r3, zer, put2, e1, e2, e3, e4, e5, e6, abs0]
end G
set_option Elab.async false
set_option linter.all false
set_option maxRecDepth 100000
set_option maxHeartbeats 2000000
namespace G
open PySem PySem.Spec PyProof.Rows L2 Evl
/-! the laws' own source of numbers -/
abbrev S2 := Int × Int
def stD (s : S2) : List DV := [.int s.1, .int s.2]
def tkS (s : S2) (m : Int) : S2 := if 0 < s.1 then (s.1.fdiv m, s.2) else (s.1, (s.2 * 48271 + 11).fmod 2147483647)
def tkV (s : S2) (m : Int) : Int := if 0 < s.1 then s.1.fmod m else (((s.2 * 48271 + 11).fmod 2147483647).fdiv 7).fmod m
theorem tkV_bound (s : S2) {m : Int} (h : 0 < m) : 0 ≤ tkV s m ∧ tkV s m < m := by
  unfold tkV
  split
  · exact ⟨Int.fmod_nonneg_of_pos _ h, Int.fmod_lt_of_pos _ h⟩
  · exact ⟨Int.fmod_nonneg_of_pos _ h, Int.fmod_lt_of_pos _ h⟩
theorem tkV_nat (s : S2) {m : Nat} (h : 0 < m) : ∃ n : Nat, tkV s m = n ∧ n < m := by
  have := tkV_bound s (m := (m : Int)) (by omega)
  exact ⟨(tkV s m).toNat, by omega, by omega⟩
def StPre (ds : List DV) : Prop := ∃ ns : List Int, ds = [.lst (ns.map .int)] ∧ ns.length ≤ 63
def StPost (_ : List DV) (rs : List DV) : Prop := ∃ s : S2, rs = stD s
def rTake : List DV → List DV → List DV → DV → Prop := fun s ds s' r => ∃ (a : S2) (m : Int), s = stD a ∧ ds = [.int m] ∧ 0 < m ∧ s' = stD (tkS a m) ∧ r = .int (tkV a m)
/-- the product by the law -/
def prodM (a b : List (List Int)) (w : Nat) := genM a.length w fun i j => mulE a b b.length i j
def rProd : List DV → DV → Prop := fun ds r => ∃ (a b : List (List Int)) (w A B : Nat), ds = [rowsT a, rowsT b, .int w] ∧ GOk a b.length A ∧ GOk b w B ∧ A + B ≤ 134217728 ∧ r = rowsT (prodM a b w)
def unitM (n : Nat) := genM n n fun i k => if i = k then 1 else 0
def rUnit : List DV → DV → Prop := fun ds r => ∃ n : Nat, ds = [.int n] ∧ n ≤ 100 ∧ r = rowsT (unitM n)
def stepR (rs : List (List Int)) (n i k : Nat) (f : Int) : List Int := (List.range n).map fun j => if i = k then -en rs i j else en rs i j + f * en rs k j
def stepM (rs : List (List Int)) (n i k : Nat) (f : Int) : List (List Int) := rs.set i (stepR rs n i k f)
def rStep : List DV → DV → Prop := fun ds r => ∃ (rs : List (List Int)) (n i k : Nat) (f : Int) (B : Nat), ds = [rowsT rs, .int i, .int k, .int f] ∧ GOk rs n B ∧ rs.length = n ∧ i < n ∧ k < n ∧ f.natAbs ≤ 2 ∧ r = rowsT (stepM rs n i k f)
/-- steps from the unit matrix -/
inductive Uni (n : Nat) : Nat → List (List Int) → Prop
  | one : Uni n 0 (unitM n)
  | step {m : Nat} {rs : List (List Int)} {i k : Nat} {f : Int} : Uni n m rs → i < n → k < n → f.natAbs ≤ 2 → Uni n (m + 1) (stepM rs n i k f)
theorem stepM_len {rs : List (List Int)} {n i k : Nat} {f : Int} : (stepM rs n i k f).length = rs.length := by
  unfold stepM
  rw [List.length_set]
theorem stepM_ok {rs : List (List Int)} {n i k B : Nat} {f : Int} (o : GOk rs n B) (hf : f.natAbs ≤ 2) : GOk (stepM rs n i k f) n (B + 2) := by
  refine ⟨by rw [stepM_len]; exact o.len, o.wid, fun x hx => ?_, fun x hx => ?_⟩
  · rcases List.mem_or_eq_of_mem_set hx with h | h
    · exact o.row x h
    · rw [h]
      unfold stepR
      simp
  · rcases List.mem_or_eq_of_mem_set hx with h | h
    · exact sm_mono (by omega) (o.sm x h)
    · rw [h]
      intro y hy
      unfold stepR at hy
      obtain ⟨j, _, rfl⟩ := List.mem_map.mp hy
      have h1 := o.en i j
      have h2 := o.en k j
      have e : 2 ^ (B + 2) = 4 * 2 ^ B := by rw [Nat.pow_add]; omega
      have h3 : (f * en rs k j).natAbs ≤ 2 * (en rs k j).natAbs := by
        rw [Int.natAbs_mul]
        exact Nat.mul_le_mul_right _ hf
      split <;> omega
theorem Uni.ok {n : Nat} (hn : n ≤ 4) : ∀ {m : Nat} {rs : List (List Int)}, Uni n m rs → rs.length = n ∧ GOk rs n (1 + 2 * m)
  | _, _, .one => ⟨genM_len, .gen (by omega) (by omega) fun i j _ _ => by split <;> decide⟩
  | _, _, .step (m := m) u hi hk hf => by
    obtain ⟨h1, h2⟩ := u.ok hn
    exact ⟨by rw [stepM_len]; exact h1, (stepM_ok h2 hf).mono (by omega)⟩
def UnPre (s ds : List DV) : Prop := ∃ (a : S2) (n : Nat), s = stD a ∧ ds = [.int n] ∧ n ≤ 4
def UnPost (s ds s' : List DV) (r : DV) : Prop := ∃ (n m : Nat) (a : S2) (rs : List (List Int)), ds = [.int n] ∧ s' = stD a ∧ m ≤ 4 ∧ Uni n m rs ∧ r = rowsT rs
def rIsRows (C : Addr) : List DV → DV → Prop := fun ds r => ∃ (rs : List (List Int)) (w h : Nat) (B : Nat), ds = [gridD C rs w, .int h, .int w] ∧ rs.length = h ∧ GOk rs w B ∧ r = .bl true
def rUnim (C : Addr) : List DV → DV → Prop := fun ds r => ∃ a w B, ds = [gridD C a w] ∧ (∀ x ∈ a, x.length = w) ∧ 1 ≤ B ∧ B ≤ 8000000 ∧ (a.length = w → GOk a w B ∧ w ≤ 4) ∧ r = .bl (decide (a.length = w) && decide ((bar a).natAbs = 1))
def invM (a : List (List Int)) (n : Nat) := scaleM (bar a) (adjM a n) n
def rInv (C : Addr) : List DV → DV → Prop := fun ds r => ∃ a w, ds = [gridD C a w] ∧ GOk a w 1000 ∧ a.length = w ∧ w ≤ 4 ∧ (bar a).natAbs = 1 ∧ r = gridD C (invM a w) w
def rLaw : List DV → DV → Prop := fun ds r => ∃ ns : List Int, ds = [.lst (ns.map .int)] ∧ ns.length ≤ 63 ∧ r = .bl true
end G
set_option Elab.async false
set_option linter.all false
set_option maxRecDepth 100000
set_option maxHeartbeats 2000000
namespace G
open PySem PySem.Spec PyProof.Rows L2 Evl
def sg (k : Nat) : Int := 1 - 2 * ((k : Int).fmod 2)
theorem sg_bound (k : Nat) : (sg k).natAbs ≤ 1 := by
  unfold sg
  have h1 := Int.fmod_nonneg_of_pos (k : Int) (b := 2) (by decide)
  have h2 := Int.fmod_lt_of_pos (k : Int) (b := 2) (by decide)
  omega
/-- the determinant by the law, from no rows on -/
def detZ : Nat → List (List Int) → Int
  | 0, _ => 1
  | n + 1, rs => rsum (n + 1) fun k => if en rs 0 k = 0 then 0 else sg k * en rs 0 k * detZ n (restR rs k)
def rLDetZ (n : Nat) : List DV → DV → Prop := fun ds r => ∃ (d : DV) (rs : List (List Int)) (B : Nat), ds = [d] ∧ Seq d (rs.map rowT) ∧ rs.length = n ∧ (∀ x ∈ rs, x.length = n) ∧ (∀ x ∈ rs, Sm B x) ∧ B ≤ 8000000 ∧ n ≤ 4 ∧ r = .int (detZ n rs)
def rLDetZA : List DV → DV → Prop := fun ds r => ∃ n, n ≤ 4 ∧ rLDetZ n ds r
theorem detZ_sm {B : Nat} : ∀ (n : Nat) (rs : List (List Int)), n ≤ 4 → (∀ x ∈ rs, Sm B x) → (detZ n rs).natAbs < 2 ^ ((B + 8) * n + 1)
  | 0, rs, _, _ => by show (1 : Int).natAbs < _; exact Nat.one_lt_two_pow (by omega)
  | n + 1, rs, hn, h => by
    have key := sum_lt (f := fun k => if en rs 0 k = 0 then 0 else sg k * en rs 0 k * detZ n (restR rs k)) (B := B + ((B + 8) * n + 1)) (n + 1) (fun k _ => by
      show (if en rs 0 k = 0 then (0 : Int) else _).natAbs < _
      split
      · exact Nat.pow_pos (by omega)
      · have q : (en rs 0 k).natAbs < 2 ^ B := getD_sm (rows_sm h 0) k
        have h1 : (sg k * en rs 0 k).natAbs < 2 ^ B := by
          rw [Int.natAbs_mul]
          have : (sg k).natAbs * (en rs 0 k).natAbs ≤ 1 * (en rs 0 k).natAbs := Nat.mul_le_mul_right _ (sg_bound k)
          omega
        exact natAbs_mul_lt h1 (detZ_sm n _ (by omega) (restR_sm h))) (by omega)
    have e : 2 ^ ((B + 8) * (n + 1) + 1) = 256 * 2 ^ (B + ((B + 8) * n + 1)) := by
      rw [show (B + 8) * (n + 1) + 1 = 8 + (B + ((B + 8) * n + 1)) by rw [Nat.mul_add]; omega, Nat.pow_add]
    have p : 0 < 2 ^ (B + ((B + 8) * n + 1)) := Nat.pow_pos (by omega)
    have q : (n + 1) * 2 ^ (B + ((B + 8) * n + 1)) ≤ 5 * 2 ^ (B + ((B + 8) * n + 1)) := Nat.mul_le_mul_right _ (by omega)
    show (rsum (n + 1) _).natAbs < _
    unfold rsum
    omega
end G
set_option Elab.async false
set_option linter.all false
set_option maxRecDepth 100000
set_option maxHeartbeats 2000000
namespace G
open PySem PySem.Spec PyProof.Rows L2 Evl
theorem bar0 : bar [] = 1 := rfl
theorem bar1 (a : Int) : bar [[a]] = a := by
  by_cases ha : a = 0
  · subst ha; rfl
  · simp [bar, brun, bstep, picks, inn, elimRow, swp, en, List.range_succ, ha]
theorem fone (a : Int) : a.fdiv 1 = a := by rw [Int.fdiv_eq_ediv_of_nonneg _ (by omega), Int.ediv_one]
theorem bar2 (a b c d : Int) : bar [[a, b], [c, d]] = a * d - b * c := by
  by_cases ha : a = 0
  · by_cases hc : c = 0
    · subst ha hc
      simp [bar, brun, bstep, picks, inn, elimRow, swp, en, List.range_succ]
    · subst ha
      by_cases hb : b = 0
      · subst hb
        simp [bar, brun, bstep, picks, inn, elimRow, swp, en, List.range_succ, hc, fone]
      · simp [bar, brun, bstep, picks, inn, elimRow, swp, en, List.range_succ, hc, hb, fone, Int.mul_comm]
  · by_cases hd : a * d - c * b = 0
    · simp [bar, brun, bstep, picks, inn, elimRow, swp, en, List.range_succ, ha, fone, hd]
      grind
    · simp [bar, brun, bstep, picks, inn, elimRow, swp, en, List.range_succ, ha, fone, hd]
      grind
end G
set_option Elab.async false
set_option linter.all false
set_option maxRecDepth 100000
set_option maxHeartbeats 2000000
namespace G
open PySem PySem.Spec PyProof.Rows L2 Evl
def det3 (a b c d e f g h i : Int) : Int := a * (e * i - f * h) - b * (d * i - f * g) + c * (d * h - e * g)
theorem fdq {x a y : Int} (ha : a ≠ 0) (h : x = a * y) : x.fdiv a = y := by rw [h]; exact Int.mul_fdiv_cancel_left y ha
/-- the last two turns -/
theorem bar3b {a b c z w e f h i s q : Int} (ha : a ≠ 0) (hq : e * i - h * f = a * q) : (match (bstep 3 1 ([[a, b, c], [z, e, f], [w, h, i]], s, a)).bind (bstep 3 2) with | none => 0 | some x => x.2.1 * x.2.2) = s * q := by
  by_cases he : e = 0
  · by_cases hh : h = 0
    · subst he hh
      have : q = 0 := by
        have : a * q = 0 := by rw [← hq]; simp
        exact (Int.mul_eq_zero.mp this).resolve_left ha
      simp [bstep, picks, inn, elimRow, swp, en, List.range_succ, this]
    · subst he
      have k1 : (h * f - 0 * i).fdiv a = -q := fdq ha (by grind)
      by_cases hq0 : q = 0
      · subst hq0
        simp [bstep, picks, inn, elimRow, swp, en, List.range_succ, hh] 
        simp at k1
        simp [k1]
      · simp [bstep, picks, inn, elimRow, swp, en, List.range_succ, hh] 
        simp at k1
        simp [k1, hq0, Int.neg_mul_neg]
  · have k1 : (e * i - h * f).fdiv a = q := fdq ha hq
    by_cases hq0 : q = 0
    · subst hq0
      simp [bstep, picks, inn, elimRow, swp, en, List.range_succ, he, k1] 
    · simp [bstep, picks, inn, elimRow, swp, en, List.range_succ, he, k1, hq0] 
theorem bar_def3 (r0 r1 r2 : List Int) : bar [r0, r1, r2] = (match ((bstep 3 0 ([r0, r1, r2], 1, 1)).bind (bstep 3 1)).bind (bstep 3 2) with | none => 0 | some x => x.2.1 * x.2.2) := rfl
theorem bar3 (a b c d e f g h i : Int) : bar [[a, b, c], [d, e, f], [g, h, i]] = det3 a b c d e f g h i := by
  rw [bar_def3]
  by_cases ha : a = 0
  · by_cases hd : d = 0
    · by_cases hg : g = 0
      · subst ha hd hg
        simp [bstep, picks, inn, elimRow, swp, en, List.range_succ, det3]
      · subst ha hd
        have e1 : bstep 3 0 ([[0, b, c], [0, e, f], [g, h, i]], 1, 1) = some ([[g, h, i], [g * 0 - 0 * g, g * e - 0 * h, g * f - 0 * i], [g * 0 - 0 * g, g * b - 0 * h, g * c - 0 * i]], -1, g) := by
          simp [bstep, picks, inn, elimRow, swp, en, List.range_succ, fone, hg]
        rw [e1]
        refine (bar3b (s := -1) (q := e * g * c - b * f * g) hg (by grind)).trans ?_
        unfold det3
        grind
    · subst ha
      have e1 : bstep 3 0 ([[0, b, c], [d, e, f], [g, h, i]], 1, 1) = some ([[d, e, f], [d * 0 - 0 * d, d * b - 0 * e, d * c - 0 * f], [d * g - g * d, d * h - g * e, d * i - g * f]], -1, d) := by
        simp [bstep, picks, inn, elimRow, swp, en, List.range_succ, fone, hd]
      rw [e1]
      refine (bar3b (s := -1) (q := b * (d * i - g * f) - c * (d * h - g * e)) hd (by grind)).trans ?_
      unfold det3
      grind
  · have e1 : bstep 3 0 ([[a, b, c], [d, e, f], [g, h, i]], 1, 1) = some ([[a, b, c], [a * d - d * a, a * e - d * b, a * f - d * c], [a * g - g * a, a * h - g * b, a * i - g * c]], 1, a) := by
      simp [bstep, picks, inn, elimRow, swp, en, List.range_succ, fone, ha]
    rw [e1]
    refine (bar3b (s := 1) (q := det3 a b c d e f g h i) ha (by unfold det3; grind)).trans ?_
    exact Int.one_mul _
end G
set_option Elab.async false
set_option linter.all false
set_option maxRecDepth 100000
set_option maxHeartbeats 8000000
namespace G
open PySem PySem.Spec PyProof.Rows L2 Evl
def det4 (a b c d e f g h i j k l m n o p : Int) : Int := a * det3 f g h j k l n o p - b * det3 e g h i k l m o p + c * det3 e f h i j l m n p - d * det3 e f g i j k m n o
def fin4 (x : Option (List (List Int) × Int × Int)) : Int := match x with
  | none => 0
  | some x => x.2.1 * x.2.2
/-- the last two turns of four -/
theorem bar4b {r0 r1 : List Int} {x y z w e f h i a s q : Int} (ha : a ≠ 0) (hq : e * i - h * f = a * q) : fin4 ((bstep 4 2 ([r0, r1, [x, y, e, f], [z, w, h, i]], s, a)).bind (bstep 4 3)) = s * q := by
  by_cases he : e = 0
  · by_cases hh : h = 0
    · subst he hh
      have : q = 0 := by
        have : a * q = 0 := by rw [← hq]; simp
        exact (Int.mul_eq_zero.mp this).resolve_left ha
      simp [fin4, bstep, picks, inn, elimRow, swp, en, List.range_succ, this]
    · subst he
      have k1 : (h * f - 0 * i).fdiv a = -q := fdq ha (by grind)
      simp at k1
      by_cases hq0 : q = 0
      · subst hq0
        simp at k1
        simp [fin4, bstep, picks, inn, elimRow, swp, en, List.range_succ, hh, k1]
      · simp [fin4, bstep, picks, inn, elimRow, swp, en, List.range_succ, hh, k1, hq0, Int.neg_mul_neg]
  · have k1 : (e * i - h * f).fdiv a = q := fdq ha hq
    by_cases hq0 : q = 0
    · subst hq0
      simp [fin4, bstep, picks, inn, elimRow, swp, en, List.range_succ, he, k1]
    · simp [fin4, bstep, picks, inn, elimRow, swp, en, List.range_succ, he, k1, hq0]
/-- the last three turns of four -/
theorem bar4a {r0 : List Int} {x y z b00 b01 b02 b10 b11 b12 b20 b21 b22 a s q m011 m012 m021 m022 m121 m122 : Int} (ha : a ≠ 0)
    (h1 : b00 * b11 - b10 * b01 = a * m011) (h2 : b00 * b12 - b10 * b02 = a * m012) (h3 : b00 * b21 - b20 * b01 = a * m021) (h4 : b00 * b22 - b20 * b02 = a * m022) (h5 : b10 * b21 - b20 * b11 = a * m121) (h6 : b10 * b22 - b20 * b12 = a * m122)
    (q0 : m011 * m022 - m021 * m012 = b00 * q) (q1 : m011 * m122 - m121 * m012 = b10 * q) (q2 : m021 * m122 - m121 * m022 = b20 * q) (hz : b00 = 0 → b10 = 0 → b20 = 0 → q = 0) :
    fin4 (((bstep 4 1 ([r0, [x, b00, b01, b02], [y, b10, b11, b12], [z, b20, b21, b22]], s, a)).bind (bstep 4 2)).bind (bstep 4 3)) = s * q := by
  by_cases n0 : b00 = 0
  · by_cases n1 : b10 = 0
    · by_cases n2 : b20 = 0
      · have := hz n0 n1 n2
        subst n0 n1 n2 this
        simp [fin4, bstep, picks, inn, elimRow, swp, en, List.range_succ]
      · subst n0 n1
        have e1 : bstep 4 1 ([r0, [x, 0, b01, b02], [y, 0, b11, b12], [z, b20, b21, b22]], s, a) = some ([r0, [z, b20, b21, b22], [(b20 * y - 0 * z).fdiv a, (b20 * 0 - 0 * b20).fdiv a, (b20 * b11 - 0 * b21).fdiv a, (b20 * b12 - 0 * b22).fdiv a], [(b20 * x - 0 * z).fdiv a, (b20 * 0 - 0 * b20).fdiv a, (b20 * b01 - 0 * b21).fdiv a, (b20 * b02 - 0 * b22).fdiv a]], -s, b20) := by
          simp [bstep, picks, inn, elimRow, swp, en, List.range_succ, n2]
        rw [e1, fdq (x := b20 * b11 - 0 * b21) (y := -m121) ha (by grind), fdq (x := b20 * b12 - 0 * b22) (y := -m122) ha (by grind), fdq (x := b20 * b01 - 0 * b21) (y := -m021) ha (by grind), fdq (x := b20 * b02 - 0 * b22) (y := -m022) ha (by grind)]
        refine (bar4b (s := -s) (q := -q) n2 (by grind)).trans ?_
        exact Int.neg_mul_neg s q
    · subst n0
      have e1 : bstep 4 1 ([r0, [x, 0, b01, b02], [y, b10, b11, b12], [z, b20, b21, b22]], s, a) = some ([r0, [y, b10, b11, b12], [(b10 * x - 0 * y).fdiv a, (b10 * 0 - 0 * b10).fdiv a, (b10 * b01 - 0 * b11).fdiv a, (b10 * b02 - 0 * b12).fdiv a], [(b10 * z - b20 * y).fdiv a, (b10 * b20 - b20 * b10).fdiv a, (b10 * b21 - b20 * b11).fdiv a, (b10 * b22 - b20 * b12).fdiv a]], -s, b10) := by
        simp [bstep, picks, inn, elimRow, swp, en, List.range_succ, n1]
      rw [e1, fdq (x := b10 * b01 - 0 * b11) (y := -m011) ha (by grind), fdq (x := b10 * b02 - 0 * b12) (y := -m012) ha (by grind), fdq (y := m121) ha h5, fdq (y := m122) ha h6]
      refine (bar4b (s := -s) (q := -q) n1 (by grind)).trans ?_
      exact Int.neg_mul_neg s q
  · have e1 : bstep 4 1 ([r0, [x, b00, b01, b02], [y, b10, b11, b12], [z, b20, b21, b22]], s, a) = some ([r0, [x, b00, b01, b02], [(b00 * y - b10 * x).fdiv a, (b00 * b10 - b10 * b00).fdiv a, (b00 * b11 - b10 * b01).fdiv a, (b00 * b12 - b10 * b02).fdiv a], [(b00 * z - b20 * x).fdiv a, (b00 * b20 - b20 * b00).fdiv a, (b00 * b21 - b20 * b01).fdiv a, (b00 * b22 - b20 * b02).fdiv a]], s, b00) := by
      simp [bstep, picks, inn, elimRow, swp, en, List.range_succ, n0]
    rw [e1, fdq (y := m011) ha h1, fdq (y := m012) ha h2, fdq (y := m021) ha h3, fdq (y := m022) ha h4]
    exact bar4b n0 q0
theorem bar_def4 (r0 r1 r2 r3 : List Int) : bar [r0, r1, r2, r3] = fin4 ((((bstep 4 0 ([r0, r1, r2, r3], 1, 1)).bind (bstep 4 1)).bind (bstep 4 2)).bind (bstep 4 3)) := rfl
/-- the first turn is done, the pivot a at the head of the first row -/
theorem bar4s {a b c d e f g h i j k l m n o p s : Int} (ha : a ≠ 0) (x y z : Int) :
    fin4 (((bstep 4 1 ([[a, b, c, d], [x, a * f - e * b, a * g - e * c, a * h - e * d], [y, a * j - i * b, a * k - i * c, a * l - i * d], [z, a * n - m * b, a * o - m * c, a * p - m * d]], s, a)).bind (bstep 4 2)).bind (bstep 4 3)) = s * det4 a b c d e f g h i j k l m n o p := by
  refine bar4a (m011 := det3 a b c e f g i j k) (m012 := det3 a b d e f h i j l) (m021 := det3 a b c e f g m n o) (m022 := det3 a b d e f h m n p) (m121 := det3 a b c i j k m n o) (m122 := det3 a b d i j l m n p) ha ?_ ?_ ?_ ?_ ?_ ?_ ?_ ?_ ?_ ?_
  case refine_10 =>
    intro z1 z2 z3
    have : a * a * det4 a b c d e f g h i j k l m n o p = 0 := by
      unfold det4 det3
      grind
    rcases Int.mul_eq_zero.mp this with q | q
    · rcases Int.mul_eq_zero.mp q with q | q <;> exact absurd q ha
    · exact q
  all_goals (simp only [det4, det3]; grind)
theorem bar4 (a b c d e f g h i j k l m n o p : Int) : bar [[a, b, c, d], [e, f, g, h], [i, j, k, l], [m, n, o, p]] = det4 a b c d e f g h i j k l m n o p := by
  rw [bar_def4]
  by_cases ha : a = 0
  · by_cases he : e = 0
    · by_cases hi : i = 0
      · by_cases hm : m = 0
        · subst ha he hi hm
          simp [fin4, bstep, picks, inn, elimRow, swp, en, List.range_succ, det4, det3]
        · subst ha he hi
          have e1 : bstep 4 0 ([[0, b, c, d], [0, f, g, h], [0, j, k, l], [m, n, o, p]], 1, 1) = some ([[m, n, o, p], [m * 0 - 0 * m, m * f - 0 * n, m * g - 0 * o, m * h - 0 * p], [m * 0 - 0 * m, m * j - 0 * n, m * k - 0 * o, m * l - 0 * p], [m * 0 - 0 * m, m * b - 0 * n, m * c - 0 * o, m * d - 0 * p]], -1, m) := by
            simp [bstep, picks, inn, elimRow, swp, en, List.range_succ, fone, hm]
          rw [e1]
          refine (bar4s (a := m) (b := n) (c := o) (d := p) (e := 0) (f := f) (g := g) (h := h) (i := 0) (j := j) (k := k) (l := l) (m := 0) (n := b) (o := c) (p := d) (s := -1) hm _ _ _).trans ?_
          unfold det4 det3
          grind
      · subst ha he
        have e1 : bstep 4 0 ([[0, b, c, d], [0, f, g, h], [i, j, k, l], [m, n, o, p]], 1, 1) = some ([[i, j, k, l], [i * 0 - 0 * i, i * f - 0 * j, i * g - 0 * k, i * h - 0 * l], [i * 0 - 0 * i, i * b - 0 * j, i * c - 0 * k, i * d - 0 * l], [i * m - m * i, i * n - m * j, i * o - m * k, i * p - m * l]], -1, i) := by
          simp [bstep, picks, inn, elimRow, swp, en, List.range_succ, fone, hi]
        rw [e1]
        refine (bar4s (a := i) (b := j) (c := k) (d := l) (e := 0) (f := f) (g := g) (h := h) (i := 0) (j := b) (k := c) (l := d) (m := m) (n := n) (o := o) (p := p) (s := -1) hi _ _ _).trans ?_
        unfold det4 det3
        grind
    · subst ha
      have e1 : bstep 4 0 ([[0, b, c, d], [e, f, g, h], [i, j, k, l], [m, n, o, p]], 1, 1) = some ([[e, f, g, h], [e * 0 - 0 * e, e * b - 0 * f, e * c - 0 * g, e * d - 0 * h], [e * i - i * e, e * j - i * f, e * k - i * g, e * l - i * h], [e * m - m * e, e * n - m * f, e * o - m * g, e * p - m * h]], -1, e) := by
        simp [bstep, picks, inn, elimRow, swp, en, List.range_succ, fone, he]
      rw [e1]
      refine (bar4s (a := e) (b := f) (c := g) (d := h) (e := 0) (f := b) (g := c) (h := d) (i := i) (j := j) (k := k) (l := l) (m := m) (n := n) (o := o) (p := p) (s := -1) he _ _ _).trans ?_
      unfold det4 det3
      grind
  · have e1 : bstep 4 0 ([[a, b, c, d], [e, f, g, h], [i, j, k, l], [m, n, o, p]], 1, 1) = some ([[a, b, c, d], [a * e - e * a, a * f - e * b, a * g - e * c, a * h - e * d], [a * i - i * a, a * j - i * b, a * k - i * c, a * l - i * d], [a * m - m * a, a * n - m * b, a * o - m * c, a * p - m * d]], 1, a) := by
      simp [bstep, picks, inn, elimRow, swp, en, List.range_succ, fone, ha]
    rw [e1]
    refine (bar4s ha _ _ _).trans ?_
    exact Int.one_mul _
end G
set_option Elab.async false
set_option linter.all false
set_option maxRecDepth 100000
set_option maxHeartbeats 8000000
namespace G
open PySem PySem.Spec PyProof.Rows L2 Evl
theorem detZ_eq (n : Nat) (rs : List (List Int)) : detZ (n + 1) rs = rsum (n + 1) fun k => sg k * en rs 0 k * detZ n (restR rs k) := by
  show rsum (n + 1) _ = _
  congr 1
  funext k
  show (if en rs 0 k = 0 then (0 : Int) else _) = _
  split
  · next h => rw [h]; simp
  · rfl
theorem lit1 {α : Type} {l : List α} (h : l.length = 1) : ∃ a, l = [a] := match l, h with | [a], _ => ⟨a, rfl⟩
theorem lit2 {α : Type} {l : List α} (h : l.length = 2) : ∃ a b, l = [a, b] := match l, h with | [a, b], _ => ⟨a, b, rfl⟩
theorem lit3 {α : Type} {l : List α} (h : l.length = 3) : ∃ a b c, l = [a, b, c] := match l, h with | [a, b, c], _ => ⟨a, b, c, rfl⟩
theorem lit4 {α : Type} {l : List α} (h : l.length = 4) : ∃ a b c d, l = [a, b, c, d] := match l, h with | [a, b, c, d], _ => ⟨a, b, c, d, rfl⟩
/-- a square matrix -/
structure SqM (n : Nat) (rs : List (List Int)) : Prop where
  len : rs.length = n
  row : ∀ x ∈ rs, x.length = n
theorem sq0 {rs : List (List Int)} (h : SqM 0 rs) : rs = [] := List.eq_nil_of_length_eq_zero h.len
theorem sq1 {rs : List (List Int)} (h : SqM 1 rs) : ∃ a, rs = [[a]] := by
  obtain ⟨r, rfl⟩ := lit1 h.len
  obtain ⟨a, rfl⟩ := lit1 (h.row r (by simp))
  exact ⟨a, rfl⟩
theorem sq2 {rs : List (List Int)} (h : SqM 2 rs) : ∃ a b c d, rs = [[a, b], [c, d]] := by
  obtain ⟨r, s, rfl⟩ := lit2 h.len
  obtain ⟨a, b, rfl⟩ := lit2 (h.row r (by simp))
  obtain ⟨c, d, rfl⟩ := lit2 (h.row s (by simp))
  exact ⟨a, b, c, d, rfl⟩
theorem sq3 {rs : List (List Int)} (h : SqM 3 rs) : ∃ a b c d e f g i j, rs = [[a, b, c], [d, e, f], [g, i, j]] := by
  obtain ⟨r, s, t, rfl⟩ := lit3 h.len
  obtain ⟨a, b, c, rfl⟩ := lit3 (h.row r (by simp))
  obtain ⟨d, e, f, rfl⟩ := lit3 (h.row s (by simp))
  obtain ⟨g, i, j, rfl⟩ := lit3 (h.row t (by simp))
  exact ⟨a, b, c, d, e, f, g, i, j, rfl⟩
theorem sq4 {rs : List (List Int)} (h : SqM 4 rs) : ∃ a b c d e f g i j k l m n o p q, rs = [[a, b, c, d], [e, f, g, i], [j, k, l, m], [n, o, p, q]] := by
  obtain ⟨r, s, t, u, rfl⟩ := lit4 h.len
  obtain ⟨a, b, c, d, rfl⟩ := lit4 (h.row r (by simp))
  obtain ⟨e, f, g, i, rfl⟩ := lit4 (h.row s (by simp))
  obtain ⟨j, k, l, m, rfl⟩ := lit4 (h.row t (by simp))
  obtain ⟨n, o, p, q, rfl⟩ := lit4 (h.row u (by simp))
  exact ⟨a, b, c, d, e, f, g, i, j, k, l, m, n, o, p, q, rfl⟩
theorem sg0 : sg 0 = 1 := rfl
theorem sg1 : sg 1 = -1 := rfl
theorem sg2 : sg 2 = 1 := rfl
theorem sg3 : sg 3 = -1 := rfl
theorem detZ_bar {n : Nat} {rs : List (List Int)} (h : SqM n rs) (hn : n ≤ 4) : detZ n rs = bar rs := by
  have hc : n = 0 ∨ n = 1 ∨ n = 2 ∨ n = 3 ∨ n = 4 := by omega
  rcases hc with rfl | rfl | rfl | rfl | rfl
  · rw [sq0 h]; rfl
  · obtain ⟨a, rfl⟩ := sq1 h
    simp [detZ_eq, rsum, List.range_succ, en, restR, delC, sg0, sg1, sg2, sg3, bar1, show ∀ r, detZ 0 r = 1 from fun _ => rfl]
  · obtain ⟨a, b, c, d, rfl⟩ := sq2 h
    simp [detZ_eq, rsum, List.range_succ, en, restR, delC, sg0, sg1, sg2, sg3, bar2, show ∀ r, detZ 0 r = 1 from fun _ => rfl]
    grind
  · obtain ⟨a, b, c, d, e, f, g, i, j, rfl⟩ := sq3 h
    simp [detZ_eq, rsum, List.range_succ, en, restR, delC, sg0, sg1, sg2, sg3, bar3, det3, show ∀ r, detZ 0 r = 1 from fun _ => rfl]
    grind
  · obtain ⟨a, b, c, d, e, f, g, i, j, k, l, m, n, o, p, q, rfl⟩ := sq4 h
    simp [detZ_eq, rsum, List.range_succ, en, restR, delC, sg0, sg1, sg2, sg3, bar4, det4, det3, show ∀ r, detZ 0 r = 1 from fun _ => rfl]
    grind
end G
set_option Elab.async false
set_option linter.all false
set_option maxRecDepth 100000
set_option maxHeartbeats 16000000
namespace G
open PySem PySem.Spec PyProof.Rows L2 Evl
def scal (n : Nat) (d : Int) := genM n n fun i k => d * (if i = k then 1 else 0)
theorem bar_tr {n : Nat} {a : List (List Int)} (h : SqM n a) (hn : n ≤ 4) : bar (trM a n) = bar a := by
  have hc : n = 0 ∨ n = 1 ∨ n = 2 ∨ n = 3 ∨ n = 4 := by omega
  rcases hc with rfl | rfl | rfl | rfl | rfl
  · rw [sq0 h]; rfl
  · obtain ⟨a, rfl⟩ := sq1 h
    simp [trM, genM, en, List.range_succ]
  · obtain ⟨a, b, c, d, rfl⟩ := sq2 h
    simp [trM, genM, en, List.range_succ, bar2]
    grind
  · obtain ⟨a, b, c, d, e, f, g, i, j, rfl⟩ := sq3 h
    simp [trM, genM, en, List.range_succ, bar3, det3]
    grind
  · obtain ⟨a, b, c, d, e, f, g, i, j, k, l, m, n, o, p, q, rfl⟩ := sq4 h
    simp [trM, genM, en, List.range_succ, bar4, det4, det3]
    grind
theorem adj_r {n : Nat} {a : List (List Int)} (h : SqM n a) (hn : n ≤ 4) : prodM a (adjM a n) n = scal n (bar a) := by
  have hc : n = 0 ∨ n = 1 ∨ n = 2 ∨ n = 3 ∨ n = 4 := by omega
  rcases hc with rfl | rfl | rfl | rfl | rfl
  · rw [sq0 h]; rfl
  · obtain ⟨a, rfl⟩ := sq1 h
    simp [prodM, scal, mulE, adjM, adjE, minorM, delC, genM, en, List.range_succ, bar0, bar1]
  · obtain ⟨a, b, c, d, rfl⟩ := sq2 h
    simp [prodM, scal, mulE, adjM, adjE, minorM, delC, genM, en, List.range_succ, bar1, bar2]
    grind
  · obtain ⟨a, b, c, d, e, f, g, i, j, rfl⟩ := sq3 h
    simp [prodM, scal, mulE, adjM, adjE, minorM, delC, genM, en, List.range_succ, bar2, bar3, det3]
    grind
  · obtain ⟨a, b, c, d, e, f, g, i, j, k, l, m, n, o, p, q, rfl⟩ := sq4 h
    simp [prodM, scal, mulE, adjM, adjE, minorM, delC, genM, en, List.range_succ, bar3, bar4, det4, det3]
    refine ⟨⟨?_, ?_, ?_, ?_⟩, ⟨?_, ?_, ?_, ?_⟩, ⟨?_, ?_, ?_, ?_⟩, ?_, ?_, ?_, ?_⟩ <;> grind
theorem adj_l {n : Nat} {a : List (List Int)} (h : SqM n a) (hn : n ≤ 4) : prodM (adjM a n) a n = scal n (bar a) := by
  have hc : n = 0 ∨ n = 1 ∨ n = 2 ∨ n = 3 ∨ n = 4 := by omega
  rcases hc with rfl | rfl | rfl | rfl | rfl
  · rw [sq0 h]; rfl
  · obtain ⟨a, rfl⟩ := sq1 h
    simp [prodM, scal, mulE, adjM, adjE, minorM, delC, genM, en, List.range_succ, bar0, bar1]
  · obtain ⟨a, b, c, d, rfl⟩ := sq2 h
    simp [prodM, scal, mulE, adjM, adjE, minorM, delC, genM, en, List.range_succ, bar1, bar2]
    grind
  · obtain ⟨a, b, c, d, e, f, g, i, j, rfl⟩ := sq3 h
    simp [prodM, scal, mulE, adjM, adjE, minorM, delC, genM, en, List.range_succ, bar2, bar3, det3]
    grind
  · obtain ⟨a, b, c, d, e, f, g, i, j, k, l, m, n, o, p, q, rfl⟩ := sq4 h
    simp [prodM, scal, mulE, adjM, adjE, minorM, delC, genM, en, List.range_succ, bar3, bar4, det4, det3]
    refine ⟨⟨?_, ?_, ?_, ?_⟩, ⟨?_, ?_, ?_, ?_⟩, ⟨?_, ?_, ?_, ?_⟩, ?_, ?_, ?_, ?_⟩ <;> grind
end G
set_option Elab.async false
set_option linter.all false
set_option maxRecDepth 100000
set_option maxHeartbeats 4000000
namespace G
/-- what Lattice(..) asks -/
structure LatOk (n : Nat) (g : List (List Int)) : Prop where
  n1 : 1 ≤ n
  n4 : n ≤ 4
  len : g.length = n
  row : ∀ x ∈ g, x.length = n
  sym : ∀ i j, i < n → j < n → (g.getD i []).getD j 0 = (g.getD j []).getD i 0
  bd : ∀ x ∈ g, ∀ y ∈ x, y.natAbs ≤ 10000
  pos : ∀ k, 1 ≤ k → k ≤ n → 1 ≤ bar ((g.take k).map fun r => r.take k)
def l3 : List Int := [1, 2, 3]
def m3 : List Int := [-1, 0, 1]
theorem in3 {a : Int} (h : 1 ≤ a ∧ a ≤ 3) : a ∈ l3 := by
  have : a = 1 ∨ a = 2 ∨ a = 3 := by omega
  rcases this with rfl | rfl | rfl <;> simp [l3]
theorem inm {a : Int} (h : -1 ≤ a ∧ a ≤ 1) : a ∈ m3 := by
  have : a = -1 ∨ a = 0 ∨ a = 1 := by omega
  rcases this with rfl | rfl | rfl <;> simp [m3]
theorem chk2 : (l3.all fun a => l3.all fun b => m3.all fun y => m3.all fun z => m3.all fun v => decide (1 ≤ (a + (absI y + absI z)) * (b + (absI y + absI v)) - y * y)) = true := by decide +kernel
theorem chk3 : (l3.all fun a => l3.all fun b => l3.all fun c => m3.all fun y => m3.all fun z => m3.all fun v => decide (1 ≤ det3 (a + (absI y + absI z)) y z y (b + (absI y + absI v)) v z v (c + (absI z + absI v)))) = true := by decide +kernel
theorem absB {y : Int} (h : -1 ≤ y ∧ y ≤ 1) : 0 ≤ absI y ∧ absI y ≤ 1 := by
  unfold absI
  split <;> omega
theorem min2 {a b y z v : Int} (ha : 1 ≤ a ∧ a ≤ 3) (hb : 1 ≤ b ∧ b ≤ 3) (hy : -1 ≤ y ∧ y ≤ 1) (hz : -1 ≤ z ∧ z ≤ 1) (hv : -1 ≤ v ∧ v ≤ 1) : 1 ≤ (a + (absI y + absI z)) * (b + (absI y + absI v)) - y * y := by
  have z := chk2
  simp only [List.all_eq_true, decide_eq_true_eq] at z
  exact z a (in3 ha) b (in3 hb) y (inm hy) _ (inm hz) v (inm hv)
theorem min3 {a b c y z v : Int} (ha : 1 ≤ a ∧ a ≤ 3) (hb : 1 ≤ b ∧ b ≤ 3) (hc : 1 ≤ c ∧ c ≤ 3) (hy : -1 ≤ y ∧ y ≤ 1) (hz : -1 ≤ z ∧ z ≤ 1) (hv : -1 ≤ v ∧ v ≤ 1) : 1 ≤ det3 (a + (absI y + absI z)) y z y (b + (absI y + absI v)) v z v (c + (absI z + absI v)) := by
  have z := chk3
  simp only [List.all_eq_true, decide_eq_true_eq] at z
  exact z a (in3 ha) b (in3 hb) c (in3 hc) y (inm hy) _ (inm hz) v (inm hv)
end G
set_option Elab.async false
set_option linter.all false
set_option maxRecDepth 100000
set_option maxHeartbeats 4000000
namespace G
theorem lat1 {p : Int} (h1 : 1 ≤ p) (b : p.natAbs ≤ 10000) : LatOk 1 [[p]] := ⟨by omega, by omega, rfl, fun x hx => by simp at hx; subst hx; rfl, fun i j hi hj => by
    have : i = 0 := by omega
    have : j = 0 := by omega
    subst i; subst j; rfl, fun x hx y hy => by simp at hx; subst hx; simp at hy; subst hy; exact b, fun k h1' hk => by
    have : k = 1 := by omega
    subst this
    show 1 ≤ bar [[p]]
    rw [bar1]; exact h1⟩
theorem lat2 {p q r : Int} (h1 : 1 ≤ p) (h2 : 1 ≤ p * r - q * q) (b1 : p.natAbs ≤ 10000) (b2 : q.natAbs ≤ 10000) (b3 : r.natAbs ≤ 10000) : LatOk 2 [[p, q], [q, r]] := ⟨by omega, by omega, rfl, fun x hx => by simp at hx; rcases hx with rfl | rfl <;> rfl, fun i j hi hj => by
    have h : i = 0 ∨ i = 1 := by omega
    have h' : j = 0 ∨ j = 1 := by omega
    rcases h with rfl | rfl <;> rcases h' with rfl | rfl <;> rfl, fun x hx y hy => by simp at hx; rcases hx with rfl | rfl <;> (simp at hy; rcases hy with rfl | rfl <;> assumption), fun k h1' hk => by
    have : k = 1 ∨ k = 2 := by omega
    rcases this with rfl | rfl
    · show 1 ≤ bar [[p]]
      rw [bar1]; exact h1
    · show 1 ≤ bar [[p, q], [q, r]]
      rw [bar2]; exact h2⟩
theorem lat3 {p q r s t w : Int} (h1 : 1 ≤ p) (h2 : 1 ≤ p * s - q * q) (h3 : 1 ≤ det3 p q r q s t r t w) (b1 : p.natAbs ≤ 10000) (b2 : q.natAbs ≤ 10000) (b3 : r.natAbs ≤ 10000) (b4 : s.natAbs ≤ 10000) (b5 : t.natAbs ≤ 10000) (b6 : w.natAbs ≤ 10000) : LatOk 3 [[p, q, r], [q, s, t], [r, t, w]] := ⟨by omega, by omega, rfl, fun x hx => by simp at hx; rcases hx with rfl | rfl | rfl <;> rfl, fun i j hi hj => by
    have h : i = 0 ∨ i = 1 ∨ i = 2 := by omega
    have h' : j = 0 ∨ j = 1 ∨ j = 2 := by omega
    rcases h with rfl | rfl | rfl <;> rcases h' with rfl | rfl | rfl <;> rfl, fun x hx y hy => by simp at hx; rcases hx with rfl | rfl | rfl <;> (simp at hy; rcases hy with rfl | rfl | rfl <;> assumption), fun k h1' hk => by
    have : k = 1 ∨ k = 2 ∨ k = 3 := by omega
    rcases this with rfl | rfl | rfl
    · show 1 ≤ bar [[p]]
      rw [bar1]; exact h1
    · show 1 ≤ bar [[p, q], [q, s]]
      rw [bar2]; exact h2
    · show 1 ≤ bar [[p, q, r], [q, s, t], [r, t, w]]
      rw [bar3]; exact h3⟩
theorem d3s (k p q r s t w : Int) : det3 (k * p) (k * q) (k * r) (k * q) (k * s) (k * t) (k * r) (k * t) (k * w) = k * k * k * det3 p q r q s t r t w := by
  unfold det3
  grind
theorem mul_ge {x y : Int} (hx : 1 ≤ x) (hy : 1 ≤ y) : 1 ≤ x * y := Int.mul_pos (by omega) (by omega)
theorem smallk {k x : Int} (hk : 1 ≤ k ∧ k ≤ 5) (hx : -10 ≤ x ∧ x ≤ 10) : (k * x).natAbs ≤ 10000 := by
  rw [Int.natAbs_mul]
  exact Nat.le_trans (Nat.mul_le_mul (show k.natAbs ≤ 5 by omega) (show x.natAbs ≤ 10 by omega)) (by decide)
def scM (k : Int) (g : List (List Int)) : List (List Int) := g.map fun r => r.map fun x => k * x
/-- k times such a matrix is a lattice's -/
theorem Gd.latk {g : List (List Int)} {n : Nat} (h : Gd g n) {k : Int} (hk : 1 ≤ k ∧ k ≤ 5) : LatOk n (scM k g) := by
  have k2 : 1 ≤ k * k := mul_ge hk.1 hk.1
  have k3 : 1 ≤ k * k * k := mul_ge k2 hk.1
  cases h with
  | one ha => exact lat1 (mul_ge hk.1 ha.1) (smallk hk (by omega))
  | @two a b y ha hb hy =>
    have A := absB hy
    refine lat2 (mul_ge hk.1 (by omega)) ?_ (smallk hk (by omega)) (smallk hk (by omega)) (smallk hk (by omega))
    have m := min2 (z := 0) (v := 0) ha hb hy (by omega) (by omega)
    rw [abs0, Int.add_zero] at m
    have e : k * (a + absI y) * (k * (b + absI y)) - k * y * (k * y) = k * k * ((a + absI y) * (b + absI y) - y * y) := by grind
    rw [e]
    exact mul_ge k2 m
  | @three a b c y z v ha hb hc hy hz hv =>
    have A := absB hy
    have B := absB hz
    have C := absB hv
    refine lat3 (mul_ge hk.1 (by omega)) ?_ ?_ (smallk hk (by omega)) (smallk hk (by omega)) (smallk hk (by omega)) (smallk hk (by omega)) (smallk hk (by omega)) (smallk hk (by omega))
    · have m := min2 ha hb hy hz hv
      have e : k * (a + (absI y + absI z)) * (k * (b + (absI y + absI v))) - k * y * (k * y) = k * k * ((a + (absI y + absI z)) * (b + (absI y + absI v)) - y * y) := by grind
      rw [e]
      exact mul_ge k2 m
    · rw [d3s]
      exact mul_ge k3 (min3 ha hb hc hy hz hv)
theorem scM1 (g : List (List Int)) : scM 1 g = g := by
  unfold scM
  refine Eq.trans (List.map_congr_left fun r _ => ?_) (List.map_id' g)
  refine Eq.trans (List.map_congr_left fun x _ => Int.one_mul x) (List.map_id' r)
theorem Gd.lat {g : List (List Int)} {n : Nat} (h : Gd g n) : LatOk n g := by
  have z := h.latk (k := 1) ⟨by omega, by omega⟩
  rw [scM1] at z
  exact z
end G
set_option Elab.async false
set_option linter.all false
set_option maxRecDepth 100000
set_option maxHeartbeats 4000000
namespace G
theorem lat4 {p q r s t u v w x y : Int} (h1 : 1 ≤ p) (h2 : 1 ≤ p * t - q * q) (h3 : 1 ≤ det3 p q r q t u r u w) (h4 : 1 ≤ det4 p q r s q t u v r u w x s v x y)
    (b : ∀ z ∈ [p, q, r, s, t, u, v, w, x, y], z.natAbs ≤ 10000) : LatOk 4 [[p, q, r, s], [q, t, u, v], [r, u, w, x], [s, v, x, y]] := ⟨by omega, by omega, rfl, fun x hx => by simp at hx; rcases hx with rfl | rfl | rfl | rfl <;> rfl, fun i j hi hj => by
    have h : i = 0 ∨ i = 1 ∨ i = 2 ∨ i = 3 := by omega
    have h' : j = 0 ∨ j = 1 ∨ j = 2 ∨ j = 3 := by omega
    rcases h with rfl | rfl | rfl | rfl <;> rcases h' with rfl | rfl | rfl | rfl <;> rfl, fun a ha c hc => by
    simp at ha
    refine b c ?_
    rcases ha with rfl | rfl | rfl | rfl <;> (simp at hc ⊢; rcases hc with rfl | rfl | rfl | rfl <;> simp), fun k h1' hk => by
    have : k = 1 ∨ k = 2 ∨ k = 3 ∨ k = 4 := by omega
    rcases this with rfl | rfl | rfl | rfl
    · show 1 ≤ bar [[p]]
      rw [bar1]; exact h1
    · show 1 ≤ bar [[p, q], [q, t]]
      rw [bar2]; exact h2
    · show 1 ≤ bar [[p, q, r], [q, t, u], [r, u, w]]
      rw [bar3]; exact h3
    · show 1 ≤ bar [[p, q, r, s], [q, t, u, v], [r, u, w, x], [s, v, x, y]]
      rw [bar4]; exact h4⟩
def blsM (n1 : Nat) (g1 : List (List Int)) (n2 : Nat) (g2 : List (List Int)) : List (List Int) := (g1.map fun r => r ++ List.replicate n2 0) ++ g2.map fun r => List.replicate n1 0 ++ r
theorem LatOk.one {g : List (List Int)} (o : LatOk 1 g) : ∃ a, g = [[a]] ∧ 1 ≤ a ∧ a.natAbs ≤ 10000 := by
  obtain ⟨a, rfl⟩ := sq1 ⟨o.len, o.row⟩
  have h := o.pos 1 (by omega) (by omega)
  have e : bar (([[a]].take 1).map fun r => r.take 1) = a := bar1 a
  rw [e] at h
  exact ⟨a, rfl, h, o.bd [a] (by simp) a (by simp)⟩
theorem LatOk.two {g : List (List Int)} (o : LatOk 2 g) : ∃ a b c, g = [[a, b], [b, c]] ∧ 1 ≤ a ∧ 1 ≤ a * c - b * b ∧ a.natAbs ≤ 10000 ∧ b.natAbs ≤ 10000 ∧ c.natAbs ≤ 10000 := by
  obtain ⟨a, b, d, c, rfl⟩ := sq2 ⟨o.len, o.row⟩
  have hs : b = d := o.sym 0 1 (by omega) (by omega)
  subst hs
  have h := o.pos 1 (by omega) (by omega)
  have h2 := o.pos 2 (by omega) (by omega)
  have e : bar (([[a, b], [b, c]].take 1).map fun r => r.take 1) = a := bar1 a
  have e2 : bar (([[a, b], [b, c]].take 2).map fun r => r.take 2) = a * c - b * b := bar2 a b b c
  rw [e] at h
  rw [e2] at h2
  exact ⟨a, b, c, rfl, h, h2, o.bd [a, b] (by simp) a (by simp), o.bd [a, b] (by simp) b (by simp), o.bd [b, c] (by simp) c (by simp)⟩
theorem LatOk.three {g : List (List Int)} (o : LatOk 3 g) : ∃ p q r s t w, g = [[p, q, r], [q, s, t], [r, t, w]] ∧ 1 ≤ p ∧ 1 ≤ p * s - q * q ∧ 1 ≤ det3 p q r q s t r t w ∧ ∀ z ∈ [p, q, r, s, t, w], z.natAbs ≤ 10000 := by
  obtain ⟨p, q, r, q', s, t, r', t', w, rfl⟩ := sq3 ⟨o.len, o.row⟩
  have hs : q = q' := o.sym 0 1 (by omega) (by omega)
  have hs2 : r = r' := o.sym 0 2 (by omega) (by omega)
  have hs3 : t = t' := o.sym 1 2 (by omega) (by omega)
  subst hs hs2 hs3
  have h := o.pos 1 (by omega) (by omega)
  have h2 := o.pos 2 (by omega) (by omega)
  have h3 := o.pos 3 (by omega) (by omega)
  have e : bar (([[p, q, r], [q, s, t], [r, t, w]].take 1).map fun r => r.take 1) = p := bar1 p
  have e2 : bar (([[p, q, r], [q, s, t], [r, t, w]].take 2).map fun r => r.take 2) = p * s - q * q := bar2 p q q s
  have e3 : bar (([[p, q, r], [q, s, t], [r, t, w]].take 3).map fun r => r.take 3) = det3 p q r q s t r t w := bar3 p q r q s t r t w
  rw [e] at h
  rw [e2] at h2
  rw [e3] at h3
  refine ⟨p, q, r, s, t, w, rfl, h, h2, h3, fun z hz => ?_⟩
  simp at hz
  rcases hz with rfl | rfl | rfl | rfl | rfl | rfl
  · exact o.bd [z, q, r] (by simp) z (by simp)
  · exact o.bd [p, z, r] (by simp) z (by simp)
  · exact o.bd [p, q, z] (by simp) z (by simp)
  · exact o.bd [q, z, t] (by simp) z (by simp)
  · exact o.bd [q, s, z] (by simp) z (by simp)
  · exact o.bd [r, t, z] (by simp) z (by simp)
theorem b0 : (0 : Int).natAbs ≤ 10000 := by decide
theorem lat_blk {n1 n2 : Nat} {g1 g2 : List (List Int)} (o1 : LatOk n1 g1) (o2 : LatOk n2 g2) (h : n1 + n2 ≤ 4) : LatOk (n1 + n2) (blsM n1 g1 n2 g2) ∧ bar (blsM n1 g1 n2 g2) = bar g1 * bar g2 := by
  have a1 := o1.n1
  have a2 := o2.n1
  have hc : (n1 = 1 ∧ n2 = 1) ∨ (n1 = 1 ∧ n2 = 2) ∨ (n1 = 2 ∧ n2 = 1) ∨ (n1 = 1 ∧ n2 = 3) ∨ (n1 = 3 ∧ n2 = 1) ∨ (n1 = 2 ∧ n2 = 2) := by omega
  rcases hc with ⟨rfl, rfl⟩ | ⟨rfl, rfl⟩ | ⟨rfl, rfl⟩ | ⟨rfl, rfl⟩ | ⟨rfl, rfl⟩ | ⟨rfl, rfl⟩
  · obtain ⟨a, rfl, ha, ba⟩ := o1.one
    obtain ⟨b, rfl, hb, bb⟩ := o2.one
    have m := mul_ge ha hb
    refine ⟨lat2 ha (by rw [Int.mul_zero, Int.sub_zero]; exact m) ba b0 bb, ?_⟩
    show bar [[a, 0], [0, b]] = _
    rw [bar2, bar1, bar1, Int.mul_zero, Int.sub_zero]
  · obtain ⟨a, rfl, ha, ba⟩ := o1.one
    obtain ⟨b, c, d, rfl, hb, hd, bb, bc, bd⟩ := o2.two
    have m := mul_ge ha hb
    have m2 := mul_ge ha hd
    have e : det3 a 0 0 0 b c 0 c d = a * (b * d - c * c) := by unfold det3; grind
    refine ⟨lat3 ha (by rw [Int.mul_zero, Int.sub_zero]; exact m) (by rw [e]; exact m2) ba b0 b0 bb bc bd, ?_⟩
    show bar [[a, 0, 0], [0, b, c], [0, c, d]] = _
    rw [bar3, bar1, bar2, e]
  · obtain ⟨b, c, d, rfl, hb, hd, bb, bc, bd⟩ := o1.two
    obtain ⟨a, rfl, ha, ba⟩ := o2.one
    have m2 := mul_ge hd ha
    have e : det3 b c 0 c d 0 0 0 a = (b * d - c * c) * a := by unfold det3; grind
    refine ⟨lat3 hb hd (by rw [e]; exact m2) bb bc b0 bd b0 ba, ?_⟩
    show bar [[b, c, 0], [c, d, 0], [0, 0, a]] = _
    rw [bar3, bar1, bar2, e]
  · obtain ⟨a, rfl, ha, ba⟩ := o1.one
    obtain ⟨p, q, r, s, t, w, rfl, h1, h2, h3, hb⟩ := o2.three
    have m := mul_ge ha h1
    have m2 := mul_ge ha h2
    have m3 := mul_ge ha h3
    have e : det3 a 0 0 0 p q 0 q s = a * (p * s - q * q) := by unfold det3; grind
    have e4 : det4 a 0 0 0 0 p q r 0 q s t 0 r t w = a * det3 p q r q s t r t w := by unfold det4 det3; grind
    refine ⟨lat4 ha (by rw [Int.mul_zero, Int.sub_zero]; exact m) (by rw [e]; exact m2) (by rw [e4]; exact m3) fun z hz => ?_, ?_⟩
    · simp at hz hb
      rcases hz with rfl | rfl | rfl | rfl | rfl | rfl | rfl | rfl <;> first | exact ba | exact b0 | simp_all
    · show bar [[a, 0, 0, 0], [0, p, q, r], [0, q, s, t], [0, r, t, w]] = _
      rw [bar4, bar1, bar3, e4]
  · obtain ⟨p, q, r, s, t, w, rfl, h1, h2, h3, hb⟩ := o1.three
    obtain ⟨a, rfl, ha, ba⟩ := o2.one
    have m3 := mul_ge h3 ha
    have e4 : det4 p q r 0 q s t 0 r t w 0 0 0 0 a = det3 p q r q s t r t w * a := by unfold det4 det3; grind
    refine ⟨lat4 h1 h2 h3 (by rw [e4]; exact m3) fun z hz => ?_, ?_⟩
    · simp at hz hb
      rcases hz with rfl | rfl | rfl | rfl | rfl | rfl | rfl | rfl | rfl | rfl <;> first | exact ba | exact b0 | simp_all
    · show bar [[p, q, r, 0], [q, s, t, 0], [r, t, w, 0], [0, 0, 0, a]] = _
      rw [bar4, bar1, bar3, e4]
  · obtain ⟨a, b, c, rfl, ha, hc, ba, bb, bc⟩ := o1.two
    obtain ⟨p, q, r, rfl, hp, hr, bp, bq, br⟩ := o2.two
    have m3 := mul_ge hc hp
    have m4 := mul_ge hc hr
    have e3 : det3 a b 0 b c 0 0 0 p = (a * c - b * b) * p := by unfold det3; grind
    have e4 : det4 a b 0 0 b c 0 0 0 0 p q 0 0 q r = (a * c - b * b) * (p * r - q * q) := by unfold det4 det3; grind
    refine ⟨lat4 ha hc (by rw [e3]; exact m3) (by rw [e4]; exact m4) fun z hz => ?_, ?_⟩
    · simp at hz
      rcases hz with rfl | rfl | rfl | rfl | rfl | rfl | rfl | rfl <;> first | assumption | exact b0
    · show bar [[a, b, 0, 0], [b, c, 0, 0], [0, 0, p, q], [0, 0, q, r]] = _
      rw [bar4, bar2, bar2, e4]
end G
set_option Elab.async false
set_option linter.all false
set_option maxRecDepth 100000
namespace G
/-! ### Lattice(..) -/
theorem atI_get {α : Type} {xs : List α} {i : Nat} (h : i < xs.length) : L2.atI xs (i : Int) = some xs[i] := atI_nat h
theorem getD_at {α : Type} {xs : List α} {i : Nat} {d : α} (h : i < xs.length) : L2.atI xs (i : Int) = some (xs.getD i d) := by
  rw [atI_get h, List.getD_eq_getElem?_getD, List.getElem?_eq_getElem h]
  rfl
theorem small_pow {y : Int} (h : y.natAbs ≤ 10000) : y.natAbs < 2 ^ 100000 := Nat.lt_of_le_of_lt h (Nat.lt_of_lt_of_le (show 10000 < 2 ^ 14 by decide) (Nat.pow_le_pow_right (by omega) (by omega)))
theorem gin_of {n : Nat} {g : List (List Int)} (hn : n ≤ 4) (hl : g.length = n) (hr : ∀ x ∈ g, x.length = n) (hb : ∀ x ∈ g, ∀ y ∈ x, y.natAbs ≤ 10000) : GIn ⟨g, n⟩ :=
  ⟨by show (0 : Int) ≤ n; omega, by show (n : Int) ≤ 4; omega, by show g.length = (n : Int).toNat; rw [Int.toNat_natCast]; exact hl, by
    show GOk g (n : Int).toNat 100000
    rw [Int.toNat_natCast]
    exact ⟨by omega, by omega, hr, fun x hx y hy => small_pow (hb x hx y hy)⟩⟩
theorem det_of {n : Nat} {g : List (List Int)} (h : GIn ⟨g, n⟩) : m_Grid_determinant ⟨g, n⟩ = some (bar g) := by
  unfold m_Grid_determinant
  rw [if_pos h]
theorem adj_of {n : Nat} {g : List (List Int)} (h : GIn ⟨g, n⟩) : m_Grid_adjugate ⟨g, n⟩ = some ⟨adjM g n, n⟩ := by
  unfold m_Grid_adjugate
  rw [if_pos h]
  show some (M_Grid.mk (adjM g (n : Int).toNat) n) = _
  rw [Int.toNat_natCast]
theorem mk2_of {n : Nat} {p : Sq eSq} {g : List (List Int)} (hp : p.xs.map (·.xs) = g) (hl : g.length ≤ 1000) (hn : n ≤ 1000) (hr : ∀ x ∈ g, x.length = n) : mk_Grid2 p n = some ⟨g, n⟩ := by
  subst hp
  unfold mk_Grid2
  rw [if_pos ⟨hl, by omega, by omega, fun r h => by rw [hr r h]⟩]
theorem mk1_of {n : Nat} {p : Sq eSq} {g : List (List Int)} (hp : p.xs.map (·.xs) = g) (hl : g.length ≤ 1000) (h1 : 1 ≤ g.length) (hn : n ≤ 1000) (hr : ∀ x ∈ g, x.length = n) : mk_Grid1 p = some ⟨g, n⟩ := by
  subst hp
  have hw : width1 (p.xs.map (·.xs)) = n := by
    cases q : p.xs.map (·.xs) with
    | nil => rw [q] at h1; simp at h1
    | cons r rs => show (r.length : Int) = n; rw [hr r (by rw [q]; simp)]
  unfold mk_Grid1
  rw [hw, if_pos ⟨hl, by omega, by omega, fun r h => by rw [hr r h]⟩]
theorem isint (x : Int) : m_is_integer x = some true := rfl
theorem sym_ok {n : Nat} {g : List (List Int)} {p : Sq eSq} (o : LatOk n g) (hp : p.xs.map (·.xs) = g) : m_check_symmetric p = some () := by
  have hlen : p.xs.length = n := by rw [← o.len, ← hp, List.length_map]
  have at1 : ∀ i j : Nat, i < n → j < n → ∃ t, L2.atI p.xs (i : Int) = some t ∧ L2.atI t.xs (j : Int) = some ((g.getD i []).getD j 0) := fun i j hi hj => by
    have hi' : i < p.xs.length := by omega
    refine ⟨p.xs[i], atI_get hi', ?_⟩
    have e : g.getD i [] = p.xs[i].xs := by
      rw [← hp, List.getD_eq_getElem?_getD, List.getElem?_map, List.getElem?_eq_getElem hi']
      rfl
    have hl : p.xs[i].xs.length = n := o.row _ (by rw [← hp]; exact List.mem_map.mpr ⟨_, List.getElem_mem hi', rfl⟩)
    rw [e]
    exact getD_at (by omega)
  unfold m_check_symmetric
  refine bo (rngO_nat (n := p.xs.length) (by rw [hlen]; have := o.n4; omega)) ?_
  refine bo (foldO_unit fun x hx => ?_) rfl
  obtain ⟨i, hi, rfl⟩ := mem_rng.mp hx
  rw [hlen] at hi
  unfold m_check_symmetric_l1
  refine bo (rngO_nat (by have := o.n4; omega)) ?_
  refine bo (foldO_unit fun y hy => ?_) rfl
  obtain ⟨j, hj, rfl⟩ := mem_rng.mp hy
  unfold m_check_symmetric_l2
  obtain ⟨t1, a1, a2⟩ := at1 i j hi (by omega)
  obtain ⟨t2, b1, b2⟩ := at1 j i (by omega) hi
  refine bo a1 (bo a2 (bo b1 (bo b2 ?_)))
  rw [o.sym i j hi (by omega)]
  simp
theorem big_ok {x : Int} (h : x.natAbs ≤ 10000) : (if (decide ((10000 : Int) < (if x < 0 then -x else x))) then (none : Option Unit) else some ()) = some () := by
  rw [if_neg]
  rw [decide_eq_true_eq]
  split <;> omega
theorem lat_S {n : Nat} {g : List (List Int)} (o : LatOk n g) : m_Lattice_init_S (Sq.L (fun p : Sq eI => p.d) (g.map (Sq.L eI))) = some ⟨⟨g, n⟩⟩ := by
  have hx : (Sq.L (fun p : Sq eI => p.d) (g.map (Sq.L eI))).xs.map (·.xs) = g := by
    show (g.map (Sq.L eI)).map (·.xs) = g
    rw [List.map_map]
    exact List.map_id' g
  have hl : (Sq.L (fun p : Sq eI => p.d) (g.map (Sq.L eI))).xs.length = n := by
    show (g.map (Sq.L eI)).length = n
    rw [List.length_map, o.len]
  have n1 := o.n1
  have n4 := o.n4
  unfold m_Lattice_init_S
  have sq : m_square_rows_S (Sq.L (fun p : Sq eI => p.d) (g.map (Sq.L eI))) = some (Sq.L (fun p : Sq eI => p.d) (g.map (Sq.L eI))) := by
    unfold m_square_rows_S
    rw [hl, if_neg (by simp; omega), if_neg (by simp; omega)]
    refine bo (foldO_unit fun x hxm => ?_) rfl
    unfold m_square_rows_S_l1
    have hxl : x.xs.length = n := by
      obtain ⟨r, hr, rfl⟩ := List.mem_map.mp hxm
      exact o.row r hr
    rw [hl, hxl, if_neg (by simp)]
    refine bo (foldO_unit fun y _ => ?_) rfl
    unfold m_square_rows_S_l2
    rfl
  refine bo sq (bo (sym_ok o hx) (bo (foldO_unit fun x hxm => ?_) (bo (x := rng2 1 ((n : Int) + 1)) ?_ (bo (foldO_unit fun k hk => ?_) (bo (mk1_of (n := n) hx (by rw [o.len]; omega) (by rw [o.len]; omega) (by omega) o.row) rfl)))))
  · unfold m_Lattice_init_S_l1
    refine bo (foldO_unit fun y hy => ?_) rfl
    obtain ⟨r, hr, rfl⟩ := List.mem_map.mp hxm
    unfold m_Lattice_init_S_l2
    exact big_ok (o.bd r hr y hy)
  · rw [hl]
    unfold rng2O
    rw [if_pos (by omega)]
  · obtain ⟨k', hk1, hk2, rfl⟩ : ∃ k' : Nat, 1 ≤ k' ∧ k' ≤ n ∧ k = k' := by
      unfold rng2 at hk
      obtain ⟨i, hi, rfl⟩ := List.mem_map.mp hk
      have := List.mem_range.mp hi
      exact ⟨1 + i, by omega, by omega, by omega⟩
    unfold m_Lattice_init_S_l3
    have hc : (Sq.cut (Sq.L (fun p : Sq eI => p.d) (g.map (Sq.L eI))) none (some (k' : Int))).xs = (g.take k').map (Sq.L eI) := by
      show cutL (g.map (Sq.L eI)) none (some (k' : Int)) = _
      rw [cutL_take, List.map_take]
    have hm : ((g.take k').map fun r => r.take k').length = k' := by rw [List.length_map, List.length_take, o.len]; omega
    have hrk : ∀ x ∈ (g.take k').map fun r => r.take k', x.length = k' := fun x hx => by
      obtain ⟨r, hr, rfl⟩ := List.mem_map.mp hx
      rw [List.length_take, o.row r (List.mem_of_mem_take hr)]; omega
    have hbk : ∀ x ∈ (g.take k').map fun r => r.take k', ∀ y ∈ x, y.natAbs ≤ 10000 := fun x hx y hy => by
      obtain ⟨r, hr, rfl⟩ := List.mem_map.mp hx
      exact o.bd r (List.mem_of_mem_take hr) y (List.mem_of_mem_take hy)
    refine bo (lcA_of (g := fun x : Sq eI => Sq.cut x none (some (k' : Int))) (by rw [hc, List.length_map, List.length_take]; omega) fun x _ => rfl) ?_
    refine bo (mk2_of (g := (g.take k').map fun r => r.take k') (n := k') ?_ (by omega) (by omega) hrk) (bo (det_of (gin_of (by omega) hm hrk hbk)) ?_)
    · rw [hc]
      show (((g.take k').map (Sq.L eI)).map fun x : Sq eI => Sq.cut x none (some (k' : Int))).map (·.xs) = _
      rw [List.map_map, List.map_map]
      refine List.map_congr_left fun r _ => ?_
      show cutL r none (some (k' : Int)) = _
      rw [cutL_take]
    · have := o.pos k' hk1 hk2
      rw [if_neg (by rw [decide_eq_true_eq]; omega)]
theorem lat_G {n : Nat} {g : List (List Int)} (o : LatOk n g) : m_Lattice_init_G ⟨g, n⟩ = some ⟨⟨g, n⟩⟩ := by
  have hx : (Sq.T (fun p : Sq eI => p.d) (g.map (Sq.T eI))).xs.map (·.xs) = g := by
    show (g.map (Sq.T eI)).map (·.xs) = g
    rw [List.map_map]
    exact List.map_id' g
  have hl := o.len
  have n1 := o.n1
  have n4 := o.n4
  unfold m_Lattice_init_G
  have sq : m_square_rows_G ⟨g, n⟩ = some g := by
    unfold m_square_rows_G
    rw [show (M_Grid.mk g n).rows = g from rfl, hl, if_neg (by simp; omega), if_neg (by simp; omega)]
    refine bo (foldO_unit fun x hxm => ?_) rfl
    unfold m_square_rows_G_l1
    rw [hl, o.row x hxm, if_neg (by simp)]
    refine bo (foldO_unit fun y _ => ?_) rfl
    unfold m_square_rows_G_l2
    rfl
  refine bo sq (bo (sym_ok o hx) (bo (foldO_unit fun x hxm => ?_) (bo (x := rng2 1 ((n : Int) + 1)) ?_ (bo (foldO_unit fun k hk => ?_) (bo (mk1_of (n := n) hx (by rw [o.len]; omega) (by rw [o.len]; omega) (by omega) o.row) rfl)))))
  · unfold m_Lattice_init_G_l1
    refine bo (foldO_unit fun y hy => ?_) rfl
    unfold m_Lattice_init_G_l2
    exact big_ok (o.bd x hxm y hy)
  · rw [hl]
    unfold rng2O
    rw [if_pos (by omega)]
  · obtain ⟨k', hk1, hk2, rfl⟩ : ∃ k' : Nat, 1 ≤ k' ∧ k' ≤ n ∧ k = k' := by
      unfold rng2 at hk
      obtain ⟨i, hi, rfl⟩ := List.mem_map.mp hk
      have := List.mem_range.mp hi
      exact ⟨1 + i, by omega, by omega, by omega⟩
    unfold m_Lattice_init_G_l3
    have hm : ((g.take k').map fun r => r.take k').length = k' := by rw [List.length_map, List.length_take, o.len]; omega
    have hrk : ∀ x ∈ (g.take k').map fun r => r.take k', x.length = k' := fun x hx => by
      obtain ⟨r, hr, rfl⟩ := List.mem_map.mp hx
      rw [List.length_take, o.row r (List.mem_of_mem_take hr)]; omega
    have hbk : ∀ x ∈ (g.take k').map fun r => r.take k', ∀ y ∈ x, y.natAbs ≤ 10000 := fun x hx y hy => by
      obtain ⟨r, hr, rfl⟩ := List.mem_map.mp hx
      exact o.bd r (List.mem_of_mem_take hr) y (List.mem_of_mem_take hy)
    rw [cutL_take]
    refine bo (lcA_of (g := fun x : List Int => cutL x none (some (k' : Int))) (by rw [List.length_take]; omega) fun x _ => rfl) ?_
    refine bo (mk2_of (g := (g.take k').map fun r => r.take k') (n := k') ?_ (by omega) (by omega) hrk) (bo (det_of (gin_of (by omega) hm hrk hbk)) ?_)
    · show (((g.take k').map fun x : List Int => cutL x none (some (k' : Int))).map (Sq.T eI)).map (·.xs) = _
      rw [List.map_map, List.map_map]
      refine List.map_congr_left fun r _ => ?_
      show cutL r none (some (k' : Int)) = _
      rw [cutL_take]
    · have := o.pos k' hk1 hk2
      rw [if_neg (by rw [decide_eq_true_eq]; omega)]
end G
set_option Elab.async false
set_option linter.all false
set_option maxRecDepth 100000
set_option maxHeartbeats 16000000
namespace G
open PySem PySem.Spec PyProof.Rows L2 Evl
theorem bar_mul {n : Nat} {a b : List (List Int)} (h : SqM n a) (h' : SqM n b) (hn : n ≤ 4) : bar (mulM a b n) = bar a * bar b := by
  have hc : n = 0 ∨ n = 1 ∨ n = 2 ∨ n = 3 ∨ n = 4 := by omega
  rcases hc with rfl | rfl | rfl | rfl | rfl
  · rw [sq0 h, sq0 h']; rfl
  · obtain ⟨a, rfl⟩ := sq1 h
    obtain ⟨b, rfl⟩ := sq1 h'
    simp [mulM, mulE, genM, en, List.range_succ, bar1]
  · obtain ⟨a, b, c, d, rfl⟩ := sq2 h
    obtain ⟨a', b', c', d', rfl⟩ := sq2 h'
    simp [mulM, mulE, genM, en, List.range_succ, bar2]
    grind
  · obtain ⟨a, b, c, d, e, f, g, i, j, rfl⟩ := sq3 h
    obtain ⟨a', b', c', d', e', f', g', i', j', rfl⟩ := sq3 h'
    simp [mulM, mulE, genM, en, List.range_succ, bar3, det3]
    grind
  · obtain ⟨a, b, c, d, e, f, g, i, j, k, l, m, n, o, p, q, rfl⟩ := sq4 h
    obtain ⟨a', b', c', d', e', f', g', i', j', k', l', m', n', o', p', q', rfl⟩ := sq4 h'
    simp [mulM, mulE, genM, en, List.range_succ, bar4, det4, det3]
    grind
end G
set_option Elab.async false
set_option linter.all false
set_option maxRecDepth 100000
set_option maxHeartbeats 4000000
/-! quadratic forms of whole matrices: sums, positive definite, independent rows (no program in sight) -/
namespace G
section
variable {m n : Nat} {f g : Nat → Int} {c : Int}
theorem rsum_zero {f : Nat → Int} : rsum 0 f = 0 := rfl
theorem rsum_congr (h : ∀ i, i < n → f i = g i) : rsum n f = rsum n g := by
  induction n with
  | zero => rfl
  | succ n ih => rw [rsum_succ, rsum_succ, ih fun i hi => h i (by omega), h n (by omega)]
theorem rsum_add : rsum n (fun i => f i + g i) = rsum n f + rsum n g := by
  induction n with
  | zero => rfl
  | succ n ih => rw [rsum_succ, rsum_succ, rsum_succ, ih]; omega
theorem rsum_mul : rsum n (fun i => c * f i) = c * rsum n f := by
  induction n with
  | zero => simp [rsum_zero]
  | succ n ih => rw [rsum_succ, rsum_succ, ih, Int.mul_add]
theorem rsum_mulr : rsum n (fun i => f i * c) = rsum n f * c := by
  induction n with
  | zero => simp [rsum_zero]
  | succ n ih => rw [rsum_succ, rsum_succ, ih, Int.add_mul]
theorem rsum_nil : rsum n (fun _ => 0) = 0 := by
  induction n with
  | zero => rfl
  | succ n ih => rw [rsum_succ, ih]; rfl
theorem rsum_neg : rsum n (fun i => -f i) = -rsum n f := by
  induction n with
  | zero => rfl
  | succ n ih => rw [rsum_succ, rsum_succ, ih]; omega
theorem rsum_swap {h : Nat → Nat → Int} : rsum m (fun i => rsum n fun j => h i j) = rsum n fun j => rsum m fun i => h i j := by
  induction m with
  | zero => rw [rsum_zero]; exact (rsum_nil (n := n)).symm
  | succ m ih =>
    rw [rsum_succ, ih, ← rsum_add]
    exact rsum_congr fun j _ => (rsum_succ).symm
theorem rsum_ite {k : Nat} (hk : k < n) : rsum n (fun i => if i = k then f i else 0) = f k := by
  induction n with
  | zero => omega
  | succ n ih =>
    rw [rsum_succ]
    by_cases h : k = n
    · subst h
      rw [if_pos rfl, rsum_congr (g := fun _ => 0) fun i hi => if_neg (by omega), rsum_nil]
      omega
    · rw [ih (by omega), if_neg (by omega)]
      omega
theorem rsum_abs {B : Nat} (h : ∀ i, i < n → (f i).natAbs ≤ B) : (rsum n f).natAbs ≤ n * B := by
  induction n with
  | zero => simp [rsum_zero]
  | succ n ih =>
    rw [rsum_succ, Nat.add_mul]
    have := ih fun i hi => h i (by omega)
    have := h n (by omega)
    omega
end
def bil (n : Nat) (g : List (List Int)) (v w : Nat → Int) : Int := rsum n fun i => rsum n fun j => v i * en g i j * w j
def PDn (n : Nat) (g : List (List Int)) : Prop := ∀ v : Nat → Int, (∃ i, i < n ∧ v i ≠ 0) → 0 < bil n g v v
/-- the rows are independent over the integers -/
def Ind (m n : Nat) (R : List (List Int)) : Prop := ∀ x : Nat → Int, (∀ j, j < n → rsum m (fun k => x k * en R k j) = 0) → ∀ k, k < m → x k = 0
def movM (n m : Nat) (g R : List (List Int)) := genM m m fun k l => bil n g (en R k) (en R l)
section
variable {m n : Nat} {g R : List (List Int)} {x y v w : Nat → Int}
theorem bil_congr {v' w' : Nat → Int} (h1 : ∀ i, i < n → v i = v' i) (h2 : ∀ i, i < n → w i = w' i) : bil n g v w = bil n g v' w' :=
  rsum_congr fun i hi => rsum_congr fun j hj => by rw [h1 i hi, h2 j hj]
theorem bil_mov : bil m (movM n m g R) x y = bil n g (fun j => rsum m fun k => x k * en R k j) fun j => rsum m fun l => y l * en R l j := by
  have e1 : bil m (movM n m g R) x y = rsum m fun k => rsum m fun l => rsum n fun i => rsum n fun j => x k * en R k i * en g i j * (y l * en R l j) := by
    refine rsum_congr fun k hk => rsum_congr fun l hl => ?_
    rw [movM, en_gen hk hl]
    show x k * (rsum n fun i => rsum n fun j => en R k i * en g i j * en R l j) * y l = _
    rw [← rsum_mul, ← rsum_mulr]
    refine rsum_congr fun i _ => ?_
    rw [← rsum_mul, ← rsum_mulr]
    refine rsum_congr fun j _ => ?_
    grind
  have e2 : (bil n g (fun j => rsum m fun k => x k * en R k j) fun j => rsum m fun l => y l * en R l j) = rsum n fun i => rsum n fun j => rsum m fun k => rsum m fun l => x k * en R k i * en g i j * (y l * en R l j) := by
    refine rsum_congr fun i _ => rsum_congr fun j _ => ?_
    show (rsum m fun k => x k * en R k i) * en g i j * (rsum m fun l => y l * en R l j) = _
    rw [← rsum_mulr, ← rsum_mulr]
    refine rsum_congr fun k _ => ?_
    rw [← rsum_mul]
  rw [e1, e2]
  calc (rsum m fun k => rsum m fun l => rsum n fun i => rsum n fun j => x k * en R k i * en g i j * (y l * en R l j))
      = rsum m fun k => rsum n fun i => rsum m fun l => rsum n fun j => x k * en R k i * en g i j * (y l * en R l j) := rsum_congr fun k _ => rsum_swap
    _ = rsum n fun i => rsum m fun k => rsum m fun l => rsum n fun j => x k * en R k i * en g i j * (y l * en R l j) := rsum_swap
    _ = rsum n fun i => rsum m fun k => rsum n fun j => rsum m fun l => x k * en R k i * en g i j * (y l * en R l j) := rsum_congr fun i _ => rsum_congr fun k _ => rsum_swap
    _ = rsum n fun i => rsum n fun j => rsum m fun k => rsum m fun l => x k * en R k i * en g i j * (y l * en R l j) := rsum_congr fun i _ => rsum_swap
theorem PDn.mov (h : PDn n g) (hi : Ind m n R) : PDn m (movM n m g R) := fun x ⟨k, hk, hx⟩ => by
  rw [bil_mov]
  refine h _ ?_
  refine Classical.byContradiction fun hn => hx (hi x (fun j hj => Classical.byContradiction fun hz => hn ⟨j, hj, hz⟩) k hk)
end
theorem sqp (a : Int) : 0 ≤ a * a := by
  rcases Int.le_total 0 a with h | h
  · exact Int.mul_nonneg h h
  · have := Int.mul_nonneg (Int.neg_nonneg.mpr h) (Int.neg_nonneg.mpr h)
    rwa [Int.neg_mul_neg] at this
theorem sq0_of {a : Int} (h : a * a ≤ 0) : a = 0 := by
  have h1 := sqp a
  have : a * a = 0 := by omega
  rcases Int.mul_eq_zero.mp this with h | h <;> exact h
theorem lat_pd {n : Nat} {g : List (List Int)} (o : LatOk n g) (hn : n ≤ 3) : PDn n g := by
  have hc : n = 1 ∨ n = 2 ∨ n = 3 := by have := o.n1; omega
  rcases hc with rfl | rfl | rfl
  · obtain ⟨a, rfl, ha, _⟩ := o.one
    intro v ⟨i, hi, hv⟩
    have : i = 0 := by omega
    subst this
    have e : bil 1 [[a]] v v = a * (v 0 * v 0) := by
      simp [bil, rsum, en, List.range_succ]
      grind
    rw [e]
    have := sqp (v 0)
    have h0 : v 0 * v 0 ≠ 0 := fun z => hv ((Int.mul_eq_zero.mp z).elim id id)
    exact Int.mul_pos (by omega) (by omega)
  · obtain ⟨a, b, c, rfl, h1, h2, _⟩ := o.two
    intro v ⟨i, hi, hv⟩
    have e : a * bil 2 [[a, b], [b, c]] v v = (a * v 0 + b * v 1) * (a * v 0 + b * v 1) + (a * c - b * b) * (v 1 * v 1) := by
      simp [bil, rsum, en, List.range_succ]
      grind
    refine Classical.byContradiction fun hq => ?_
    have q : a * bil 2 [[a, b], [b, c]] v v ≤ 0 := Int.mul_nonpos_of_nonneg_of_nonpos (by omega) (by omega)
    have s1 := sqp (a * v 0 + b * v 1)
    have s2 := Int.mul_nonneg (show 0 ≤ a * c - b * b by omega) (sqp (v 1))
    have z1 : v 1 = 0 := by
      have : (a * c - b * b) * (v 1 * v 1) = 0 := by omega
      rcases Int.mul_eq_zero.mp this with h | h
      · omega
      · exact sq0_of (by omega)
    have z0 : v 0 = 0 := by
      have h := sq0_of (a := a * v 0 + b * v 1) (by omega)
      rw [z1, Int.mul_zero, Int.add_zero] at h
      rcases Int.mul_eq_zero.mp h with h | h
      · omega
      · exact h
    have : i = 0 ∨ i = 1 := by omega
    rcases this with rfl | rfl <;> omega
  · obtain ⟨p, q, r, s, t, w, rfl, h1, h2, h3, _⟩ := o.three
    intro v ⟨i, hi, hv⟩
    have e : p * (p * s - q * q) * bil 3 [[p, q, r], [q, s, t], [r, t, w]] v v = (p * s - q * q) * ((p * v 0 + q * v 1 + r * v 2) * (p * v 0 + q * v 1 + r * v 2)) + ((p * s - q * q) * v 1 + (p * t - q * r) * v 2) * ((p * s - q * q) * v 1 + (p * t - q * r) * v 2) + p * det3 p q r q s t r t w * (v 2 * v 2) := by
      simp [bil, rsum, en, List.range_succ, det3]
      grind
    have hpd : 0 < p * (p * s - q * q) := Int.mul_pos (by omega) (by omega)
    refine Classical.byContradiction fun hq => ?_
    have qq : p * (p * s - q * q) * bil 3 [[p, q, r], [q, s, t], [r, t, w]] v v ≤ 0 := Int.mul_nonpos_of_nonneg_of_nonpos (by omega) (by omega)
    have s1 := Int.mul_nonneg (show 0 ≤ p * s - q * q by omega) (sqp (p * v 0 + q * v 1 + r * v 2))
    have s2 := sqp ((p * s - q * q) * v 1 + (p * t - q * r) * v 2)
    have hp3 : 0 < p * det3 p q r q s t r t w := Int.mul_pos (by omega) (by omega)
    have s3 := Int.mul_nonneg (show 0 ≤ p * det3 p q r q s t r t w by omega) (sqp (v 2))
    have z2 : v 2 = 0 := by
      have : p * det3 p q r q s t r t w * (v 2 * v 2) = 0 := by omega
      rcases Int.mul_eq_zero.mp this with h | h
      · omega
      · exact sq0_of (by omega)
    have z1 : v 1 = 0 := by
      have h := sq0_of (a := (p * s - q * q) * v 1 + (p * t - q * r) * v 2) (by omega)
      rw [z2, Int.mul_zero, Int.add_zero] at h
      rcases Int.mul_eq_zero.mp h with h | h
      · omega
      · exact h
    have z0 : v 0 = 0 := by
      have : (p * s - q * q) * ((p * v 0 + q * v 1 + r * v 2) * (p * v 0 + q * v 1 + r * v 2)) = 0 := by omega
      rcases Int.mul_eq_zero.mp this with h | h
      · omega
      · have h := sq0_of (a := p * v 0 + q * v 1 + r * v 2) (by omega)
        rw [z2, z1, Int.mul_zero, Int.mul_zero, Int.add_zero, Int.add_zero] at h
        rcases Int.mul_eq_zero.mp h with h | h
        · omega
        · exact h
    have : i = 0 ∨ i = 1 ∨ i = 2 := by omega
    rcases this with rfl | rfl | rfl <;> omega
theorem pos_r {a b : Int} (ha : 0 < a) (h : 0 < a * b) : 0 < b := Classical.byContradiction fun hb => by
  have := Int.mul_nonpos_of_nonneg_of_nonpos (show 0 ≤ a by omega) (show b ≤ 0 by omega)
  omega
/-- a symmetric positive definite matrix of bounded items is what Lattice(..) asks -/
theorem pd_lat {n : Nat} {g : List (List Int)} (n1 : 1 ≤ n) (n3 : n ≤ 3) (h : SqM n g) (sym : ∀ i j, i < n → j < n → en g i j = en g j i) (bd : ∀ x ∈ g, ∀ y ∈ x, y.natAbs ≤ 10000) (pd : PDn n g) : LatOk n g := by
  have hc : n = 1 ∨ n = 2 ∨ n = 3 := by omega
  rcases hc with rfl | rfl | rfl
  · obtain ⟨a, rfl⟩ := sq1 h
    have q := pd (fun _ => 1) ⟨0, by omega, by decide⟩
    simp [bil, rsum, en, List.range_succ] at q
    exact lat1 (by omega) (bd [a] (by simp) _ (by simp))
  · obtain ⟨a, b, c, d, rfl⟩ := sq2 h
    have e := sym 0 1 (by omega) (by omega)
    simp [en] at e
    subst e
    have q1 := pd (fun i => if i = 0 then 1 else 0) ⟨0, by omega, by decide⟩
    simp [bil, rsum, en, List.range_succ] at q1
    have q2 := pd (fun i => if i = 0 then -b else a) ⟨1, by omega, by simp; omega⟩
    have e2 : bil 2 [[a, b], [b, d]] (fun i => if i = 0 then -b else a) (fun i => if i = 0 then -b else a) = a * (a * d - b * b) := by
      simp [bil, rsum, en, List.range_succ]
      grind
    rw [e2] at q2
    have q3 : 0 < a * d - b * b := pos_r (by omega) q2
    exact lat2 (by omega) (by omega) (bd [a, b] (by simp) _ (by simp)) (bd [a, b] (by simp) _ (by simp)) (bd [b, d] (by simp) _ (by simp))
  · obtain ⟨a, b, c, d, e, f, gg, i, j, rfl⟩ := sq3 h
    have e1 := sym 0 1 (by omega) (by omega)
    have e2 := sym 0 2 (by omega) (by omega)
    have e3 := sym 1 2 (by omega) (by omega)
    simp [en] at e1 e2 e3
    subst e1 e2 e3
    have q1 := pd (fun i => if i = 0 then 1 else 0) ⟨0, by omega, by decide⟩
    simp [bil, rsum, en, List.range_succ] at q1
    have q2 := pd (fun i => if i = 0 then -b else if i = 1 then a else 0) ⟨1, by omega, by simp; omega⟩
    have k2 : bil 3 [[a, b, c], [b, e, f], [c, f, j]] (fun i => if i = 0 then -b else if i = 1 then a else 0) (fun i => if i = 0 then -b else if i = 1 then a else 0) = a * (a * e - b * b) := by
      simp [bil, rsum, en, List.range_succ]
      grind
    rw [k2] at q2
    have q3 : 0 < a * e - b * b := pos_r (by omega) q2
    have q4 := pd (fun i => if i = 0 then b * f - c * e else if i = 1 then b * c - a * f else a * e - b * b) ⟨2, by omega, by simp; omega⟩
    have k4 : bil 3 [[a, b, c], [b, e, f], [c, f, j]] (fun i => if i = 0 then b * f - c * e else if i = 1 then b * c - a * f else a * e - b * b) (fun i => if i = 0 then b * f - c * e else if i = 1 then b * c - a * f else a * e - b * b) = (a * e - b * b) * det3 a b c b e f c f j := by
      simp [bil, rsum, en, List.range_succ, det3]
      grind
    rw [k4] at q4
    have q5 : 0 < det3 a b c b e f c f j := pos_r q3 q4
    exact lat3 (by omega) (by omega) (by omega) (bd [a, b, c] (by simp) _ (by simp)) (bd [a, b, c] (by simp) _ (by simp)) (bd [a, b, c] (by simp) _ (by simp)) (bd [b, e, f] (by simp) _ (by simp)) (bd [b, e, f] (by simp) _ (by simp)) (bd [c, f, j] (by simp) _ (by simp))
end G
set_option Elab.async false
set_option linter.all false
set_option maxRecDepth 100000
set_option maxHeartbeats 4000000
/-! hermite_rows: what its model computes (an echelon table, made by steps of rows) -/
namespace G
/-- a number that the machine multiplies at ease -/
def BigN (x : Nat) : Prop := ∃ k, k ≤ 60000000 ∧ x < 2 ^ k
theorem mul_big {a b : Int} (ha : BigN a.natAbs) (hb : BigN b.natAbs) : mulO a b = some (a * b) := by
  obtain ⟨k, hk, ha⟩ := ha
  obtain ⟨l, hl, hb⟩ := hb
  unfold mulO
  rw [if_pos (mulOk ha hb (by omega))]
theorem BigN.le {x y : Nat} (h : BigN y) (e : x ≤ y) : BigN x := by
  obtain ⟨k, hk, h⟩ := h
  exact ⟨k, hk, Nat.lt_of_le_of_lt e h⟩
def lessL (r : List Int) (q : Int) (o : List Int) : List Int := (List.zip r o).map fun p => p.1 - q * p.2
theorem lessL_len {r o : List Int} {q : Int} (h : r.length = o.length) : (lessL r q o).length = r.length := by simp [lessL, h]
theorem lessL_at {q : Int} : ∀ {r o : List Int} {j : Nat}, r.length = o.length → (lessL r q o).getD j 0 = r.getD j 0 - q * o.getD j 0
  | [], [], j, _ => by simp [lessL]
  | x :: r, y :: o, 0, _ => by simp [lessL]
  | x :: r, y :: o, j + 1, h => by
    have z := lessL_at (q := q) (r := r) (o := o) (j := j) (by simpa using h)
    simpa [lessL] using z
theorem less_ok {r o : List Int} {q : Int} {w : Nat} (hr : r.length = w) (ho : o.length = w) (hw : w ≤ 1000) (hq : BigN q.natAbs) (hb : ∀ y ∈ o, BigN y.natAbs) : m_less r q o = some (lessL r q o) := by
  unfold m_less
  exact bo (lcA_of (g := fun p : Int × Int => p.1 - q * p.2) (by rw [List.length_zip, hr, ho]; omega) fun p hp => bo (mul_big hq (hb _ (List.of_mem_zip hp).2)) rfl) rfl
def negL (r : List Int) : List Int := r.map fun x => -1 * x
theorem times_ok {r : List Int} (hr : r.length ≤ 1000) : m_times_row (-(1 : Int)) r = some (negL r) := by
  unfold m_times_row
  exact bo (lcA_of (g := fun x => -1 * x) (by omega) fun x _ => bo (mulO_l (by decide)) rfl) rfl
theorem negL_at {r : List Int} {j : Nat} : (negL r).getD j 0 = -(r.getD j 0) := by
  unfold negL
  rw [List.getD_eq_getElem?_getD, List.getD_eq_getElem?_getD, List.getElem?_map]
  cases r[j]? with
  | none => rfl
  | some x => show -1 * x = -x; omega
/-! ### tables -/
abbrev Tb := List (List Int)
structure Sz (m w : Nat) (t : Tb) : Prop where
  len : t.length = m
  row : ∀ x ∈ t, x.length = w
theorem getD_set {α : Type} {t : List α} {k i : Nat} {x d : α} (hk : k < t.length) : (t.set k x).getD i d = if i = k then x else t.getD i d := by
  rw [List.getD_eq_getElem?_getD, List.getD_eq_getElem?_getD]
  by_cases h : i = k
  · subst h
    rw [if_pos rfl, List.getElem?_set_self hk]
    rfl
  · rw [if_neg h, List.getElem?_set_ne (fun z => h z.symm)]
theorem getD_mem {α : Type} {t : List α} {k : Nat} {d : α} (hk : k < t.length) : t.getD k d ∈ t := by
  rw [List.getD_eq_getElem?_getD, List.getElem?_eq_getElem hk]
  exact List.getElem_mem _
section
variable {m w : Nat} {t t' : Tb} {k i c : Nat} {q : Int}
theorem Sz.at (s : Sz m w t) (hk : k < m) : (t.getD k []).length = w := s.row _ (getD_mem (by rw [s.len]; exact hk))
theorem Sz.set (s : Sz m w t) {r : List Int} (hr : r.length = w) : Sz m w (t.set k r) := ⟨by simpa using s.len, fun x hx => by
  rcases List.mem_or_eq_of_mem_set hx with h | h
  · exact s.row x h
  · rw [h]; exact hr⟩
theorem Sz.en_set (s : Sz m w t) {r : List Int} (hk : k < m) {j : Nat} : en (t.set k r) i j = if i = k then r.getD j 0 else en t i j := by
  unfold en
  rw [getD_set (by rw [s.len]; exact hk)]
  split <;> rfl
theorem Sz.atI (s : Sz m w t) (hk : k < m) : L2.atI t (k : Int) = some (t.getD k []) := getD_at (by rw [s.len]; exact hk)
theorem Sz.atI2 (s : Sz m w t) (hk : k < m) (hc : c < w) : L2.atI (t.getD k []) (c : Int) = some (en t k c) := getD_at (by rw [s.at hk]; exact hc)
/-- natural bound of the items -/
def Bd (X : Nat) (t : Tb) : Prop := ∀ x ∈ t, ∀ y ∈ x, y.natAbs ≤ X
theorem Bd.row {X : Nat} (h : Bd X t) (s : Sz m w t) (hk : k < m) : ∀ y ∈ t.getD k [], y.natAbs ≤ X := h _ (getD_mem (by rw [s.len]; exact hk))
theorem Bd.en {X : Nat} (h : Bd X t) (s : Sz m w t) (hk : k < m) : (G.en t k c).natAbs ≤ X := by
  unfold G.en
  by_cases hc : c < (t.getD k []).length
  · exact h.row s hk _ (getD_mem hc)
  · rw [List.getD_eq_getElem?_getD (l := t.getD k []), List.getElem?_eq_none (by omega)]
    exact Nat.zero_le _
theorem bd_of {X : Nat} (s : Sz m w t) (h : ∀ k, k < m → ∀ y ∈ t.getD k [], y.natAbs ≤ X) : Bd X t := fun x hx y hy => by
  obtain ⟨k, hk, rfl⟩ := List.getElem_of_mem hx
  refine h k (by rw [← s.len]; exact hk) y ?_
  rw [List.getD_eq_getElem?_getD, List.getElem?_eq_getElem hk]
  exact hy
theorem Bd.mono {X Y : Nat} (h : Bd X t) (e : X ≤ Y) : Bd Y t := fun x hx y hy => Nat.le_trans (h x hx y hy) e
theorem lessL_bd {r o : List Int} {X C : Nat} (hr : ∀ y ∈ r, y.natAbs ≤ X) (ho : ∀ y ∈ o, y.natAbs ≤ X) (hq : q.natAbs ≤ C) : ∀ y ∈ lessL r q o, y.natAbs ≤ X * (1 + C) := fun y hy => by
  unfold lessL at hy
  obtain ⟨p, hp, rfl⟩ := List.mem_map.mp hy
  have h1 := hr _ (List.of_mem_zip hp).1
  have h2 := ho _ (List.of_mem_zip hp).2
  have h3 : (q * p.2).natAbs ≤ C * X := by rw [Int.natAbs_mul]; exact Nat.mul_le_mul hq h2
  have : (p.1 - q * p.2).natAbs ≤ p.1.natAbs + (q * p.2).natAbs := by omega
  rw [Nat.mul_add, Nat.mul_one, Nat.mul_comm X C]
  omega
theorem fmod_lt {a b : Int} (hb : b ≠ 0) : (a.fmod b).natAbs < b.natAbs := by
  rcases Int.lt_or_gt_of_ne hb with h | h
  · have e := Int.neg_fmod_neg (-a) (-b)
    rw [Int.neg_neg, Int.neg_neg] at e
    have h2 := Int.fmod_nonneg_of_pos (-a) (b := -b) (by omega)
    have h3 := Int.fmod_lt_of_pos (-a) (b := -b) (by omega)
    omega
  · have h2 := Int.fmod_nonneg_of_pos a h
    have h3 := Int.fmod_lt_of_pos a h
    omega
theorem sub_fdiv {a b : Int} : a - a.fdiv b * b = a.fmod b := by
  have := Int.mul_fdiv_add_fmod a b
  rw [Int.mul_comm] at this
  omega
end
/-! ### steps of rows -/
inductive Rch (m : Nat) : Tb → Tb → Prop
  | refl (A : Tb) : Rch m A A
  | add {A B : Tb} (k i : Nat) (q : Int) : Rch m A B → k < m → i < m → k ≠ i → Rch m A (B.set k (lessL (B.getD k []) q (B.getD i [])))
  | swap {A B : Tb} (k i : Nat) : Rch m A B → k < m → i < m → Rch m A ((B.set k (B.getD i [])).set i (B.getD k []))
  | neg {A B : Tb} (k : Nat) : Rch m A B → k < m → Rch m A (B.set k (negL (B.getD k [])))
theorem Rch.trans {m : Nat} {A B C : Tb} (h : Rch m A B) (h2 : Rch m B C) : Rch m A C := by
  induction h2 with
  | refl => exact h
  | add k i q _ a b c ih => exact .add k i q ih a b c
  | swap k i _ a b ih => exact .swap k i ih a b
  | neg k _ a ih => exact .neg k ih a
theorem negL_len {r : List Int} : (negL r).length = r.length := by simp [negL]
theorem Rch.sz {m w : Nat} {A B : Tb} (h : Rch m A B) (s : Sz m w A) : Sz m w B := by
  induction h with
  | refl => exact s
  | add k i q _ a b c ih => exact ih.set (by rw [lessL_len (by rw [ih.at a, ih.at b]), ih.at a])
  | swap k i _ a b ih => exact (ih.set (ih.at b)).set (ih.at a)
  | neg k _ a ih => exact ih.set (by rw [negL_len, ih.at a])
/-! ### independence -/
def IndF (m n : Nat) (E : Nat → Nat → Int) : Prop := ∀ x : Nat → Int, (∀ j, j < n → rsum m (fun k => x k * E k j) = 0) → ∀ k, k < m → x k = 0
theorem IndF.congr {m n : Nat} {E E' : Nat → Nat → Int} (h : IndF m n E) (e : ∀ k j, k < m → j < n → E' k j = E k j) : IndF m n E' := fun x hx => h x fun j hj => by
  refine Eq.trans ?_ (hx j hj)
  exact rsum_congr fun k hk => by rw [e k j hk hj]
theorem IndF.add {m n : Nat} {E : Nat → Nat → Int} {k i : Nat} {c : Int} (h : IndF m n E) (hk : k < m) (hi : i < m) (hne : k ≠ i) : IndF m n fun l j => E l j + if l = k then c * E i j else 0 := fun x hx => by
  have z := h (fun l => x l + if l = i then x k * c else 0) fun j hj => by
    refine Eq.trans ?_ (hx j hj)
    have e1 : rsum m (fun l => (x l + if l = i then x k * c else 0) * E l j) = rsum m (fun l => x l * E l j) + rsum m fun l => if l = i then x k * c * E l j else 0 := by
      rw [← rsum_add]
      refine rsum_congr fun l _ => ?_
      split <;> grind
    have e2 : rsum m (fun l => x l * (E l j + if l = k then c * E i j else 0)) = rsum m (fun l => x l * E l j) + rsum m fun l => if l = k then x l * (c * E i j) else 0 := by
      rw [← rsum_add]
      refine rsum_congr fun l _ => ?_
      split <;> grind
    rw [e1, e2, rsum_ite hi (f := fun l => x k * c * E l j), rsum_ite hk (f := fun l => x l * (c * E i j))]
    grind
  have hk0 : x k = 0 := by
    have := z k hk
    rw [if_neg hne] at this
    omega
  intro l hl
  have := z l hl
  rw [hk0] at this
  simp at this
  exact this
theorem IndF.neg {m n : Nat} {E : Nat → Nat → Int} {k : Nat} (h : IndF m n E) : IndF m n fun l j => if l = k then -E l j else E l j := fun x hx => by
  have z := h (fun l => if l = k then -x l else x l) fun j hj => by
    refine Eq.trans ?_ (hx j hj)
    refine rsum_congr fun l _ => ?_
    by_cases hl : l = k
    · simp only [if_pos hl]; grind
    · simp only [if_neg hl]
  intro l hl
  have := z l hl
  by_cases hlk : l = k
  · rw [if_pos hlk] at this; omega
  · rw [if_neg hlk] at this; exact this
theorem IndF.swap {m n : Nat} {E : Nat → Nat → Int} {k i : Nat} (h : IndF m n E) (hk : k < m) (hi : i < m) : IndF m n fun l j => if l = k then E i j else if l = i then E k j else E l j := by
  by_cases hne : k = i
  · subst hne
    refine h.congr fun l j _ _ => ?_
    by_cases hl : l = k
    · rw [if_pos hl, hl]
    · rw [if_neg hl, if_neg hl]
  · have h1 := h.add (c := 1) hk hi hne
    have h2 := h1.add (c := -1) hi hk (fun z => hne z.symm)
    have h3 := h2.add (c := 1) hk hi hne
    have h4 := h3.neg (k := i)
    have hne' : ¬i = k := fun z => hne z.symm
    refine h4.congr fun l j _ _ => ?_
    by_cases hl : l = k
    · subst hl
      simp [hne, hne']
      omega
    · by_cases hl2 : l = i
      · subst hl2
        simp [hne, hne']
        omega
      · simp [hl, hl2]
theorem ind_iff {m w : Nat} {R : Tb} : Ind m w R ↔ IndF m w (en R) := Iff.rfl
theorem Rch.ind {m w : Nat} {A B : Tb} (h : Rch m A B) (s : Sz m w A) : Ind m w A ↔ Ind m w B := by
  induction h with
  | refl => exact Iff.rfl
  | @add B k i q hr a b c ih =>
    have sB := hr.sz s
    rw [ih]
    have e : ∀ l j, en (B.set k (lessL (B.getD k []) q (B.getD i []))) l j = en B l j + if l = k then -q * en B i j else 0 := fun l j => by
      rw [sB.en_set a, lessL_at (by rw [sB.at a, sB.at b])]
      by_cases hl : l = k
      · subst hl
        rw [if_pos rfl, if_pos rfl]
        unfold en
        grind
      · rw [if_neg hl, if_neg hl]
        omega
    constructor
    · exact fun z => (IndF.add (c := -q) z a b c).congr fun l j _ _ => e l j
    · intro z
      refine (IndF.add (c := q) z a b c).congr fun l j _ _ => ?_
      have e1 := e l j
      have e2 := e i j
      rw [if_neg (fun z => c z.symm), Int.add_zero] at e2
      rw [e2]
      by_cases hl : l = k
      · rw [if_pos hl] at e1 ⊢
        rw [e1]
        grind
      · rw [if_neg hl] at e1 ⊢
        rw [e1]
        omega
  | @swap B k i hr a b ih =>
    have sB := hr.sz s
    rw [ih]
    have e : ∀ l j, en ((B.set k (B.getD i [])).set i (B.getD k [])) l j = if l = i then en B k j else if l = k then en B i j else en B l j := fun l j => by
      rw [(sB.set (sB.at b)).en_set b]
      by_cases hl : l = i
      · rw [if_pos hl, if_pos hl]; rfl
      · rw [if_neg hl, if_neg hl, sB.en_set a]
        by_cases hk : l = k
        · rw [if_pos hk, if_pos hk]; rfl
        · rw [if_neg hk, if_neg hk]
    constructor
    · exact fun z => (IndF.swap z b a).congr fun l j _ _ => e l j
    · intro z
      refine (IndF.swap z b a).congr fun l j _ _ => ?_
      rw [e, e, e]
      by_cases h1 : l = i
      · subst h1
        by_cases h2 : k = l
        · simp [h2]
        · simp [h2]
      · by_cases h2 : l = k
        · subst h2
          simp [h1]
        · simp [h1, h2]
  | @neg B k hr a ih =>
    have sB := hr.sz s
    rw [ih]
    have e : ∀ l j, en (B.set k (negL (B.getD k []))) l j = if l = k then -en B l j else en B l j := fun l j => by
      rw [sB.en_set a, negL_at]
      by_cases hl : l = k
      · subst hl
        rw [if_pos rfl, if_pos rfl]; rfl
      · rw [if_neg hl, if_neg hl]
    constructor
    · exact fun z => (IndF.neg z).congr fun l j _ _ => e l j
    · intro z
      refine (IndF.neg (k := k) z).congr fun l j _ _ => ?_
      rw [e]
      by_cases hl : l = k
      · rw [if_pos hl, if_pos hl]; omega
      · rw [if_neg hl, if_neg hl]
end G
set_option Elab.async false
set_option linter.all false
set_option maxRecDepth 100000
set_option maxHeartbeats 4000000
/-! hermite_rows: the walk through a column -/
namespace G
def leftF (m d c : Nat) (t : Tb) : List Int := (rng2 (d : Int) (m : Int)).filter fun x => !decide (en t x.toNat c = 0)
section
variable {m w d c a X C N : Nat} {t t' : Tb}
theorem mem_rng2N {x : Int} : x ∈ rng2 (d : Int) (m : Int) ↔ ∃ k : Nat, d ≤ k ∧ k < m ∧ x = k := by
  unfold rng2
  rw [List.mem_map]
  constructor
  · rintro ⟨i, hi, rfl⟩
    have := List.mem_range.mp hi
    exact ⟨d + i, by omega, by omega, by omega⟩
  · rintro ⟨k, h1, h2, rfl⟩
    exact ⟨k - d, List.mem_range.mpr (by omega), by omega⟩
theorem rng2_nodup : (rng2 (d : Int) (m : Int)).Nodup := by
  unfold rng2
  rw [List.nodup_iff_pairwise_ne, List.pairwise_map]
  exact List.Pairwise.imp (fun h z => h (by omega)) List.nodup_range
theorem mem_left {x : Int} : x ∈ leftF m d c t ↔ ∃ k : Nat, d ≤ k ∧ k < m ∧ x = k ∧ en t k c ≠ 0 := by
  unfold leftF
  rw [List.mem_filter, mem_rng2N]
  constructor
  · rintro ⟨⟨k, h1, h2, rfl⟩, h3⟩
    exact ⟨k, h1, h2, rfl, by simpa using h3⟩
  · rintro ⟨k, h1, h2, rfl, h3⟩
    exact ⟨⟨k, h1, h2, rfl⟩, by simpa using h3⟩
theorem left_nodup : (leftF m d c t).Nodup := rng2_nodup.filter _
theorem left_ok (s : Sz m w t) (hc : c < w) (hm : m ≤ 1000) : lcO (fun x7 => (L2.atI t x7).bind fun t8 => (L2.atI t8 (c : Int)).bind fun t9 => some (!decide (t9 = (0 : Int)))) (fun x7 => some x7) (rng2 (d : Int) (m : Int)) = some (leftF m d c t) := by
  rw [lcO_of (p := fun x => !decide (en t x.toNat c = 0)) (g := fun x => x) (by rw [rng2_len]; omega) (fun x hx => ?_) fun x _ _ => rfl, List.map_id']
  · rfl
  · obtain ⟨k, h1, h2, rfl⟩ := mem_rng2N.mp hx
    exact bo (s.atI h2) (bo (s.atI2 h2 hc) rfl)
theorem rng2_ok (hm : m ≤ 1000) (hd : d ≤ 1000) : rng2O (d : Int) (m : Int) = some (rng2 (d : Int) (m : Int)) := by
  unfold rng2O
  rw [if_pos (by omega)]
theorem fold3 (hw : w ≤ 1000) (hc : c < w) (ha : a < m) (bX : BigN X) (bC : BigN C) : ∀ (xs : List Int) (t : Tb), xs.Nodup → (∀ x ∈ xs, ∃ k : Nat, k < m ∧ x = k) → Sz m w t → en t a c ≠ 0 → (∀ y ∈ t.getD a [], y.natAbs ≤ X) → (∀ k : Nat, (k : Int) ∈ xs → (en t k c).natAbs ≤ C) →
    ∃ t', foldO (m_hermite_rows_l3 (c : Int) (a : Int)) xs t = some t' ∧ Sz m w t' ∧ Rch m t t' ∧ (∀ k, k < m → ((k : Int) ∉ xs ∨ k = a) → t'.getD k [] = t.getD k []) ∧ ∀ k, k < m → (k : Int) ∈ xs → k ≠ a → t'.getD k [] = lessL (t.getD k []) ((en t k c).fdiv (en t a c)) (t.getD a [])
  := by
  intro xs
  induction xs with
  | nil => exact fun t _ _ s _ _ _ => ⟨t, rfl, s, .refl _, fun _ _ _ => rfl, fun k _ h => by cases h⟩
  | cons x xs ih =>
    intro t hn hx s hz hA hC
    obtain ⟨k, hk, rfl⟩ := hx x (by simp)
    obtain ⟨hk1, hn1⟩ := List.nodup_cons.mp hn
    show ∃ t', (m_hermite_rows_l3 (c : Int) (a : Int) (k : Int) t).bind _ = some t' ∧ _
    by_cases hka : k = a
    · subst hka
      have e : m_hermite_rows_l3 (c : Int) (k : Int) (k : Int) t = some t := by
        unfold m_hermite_rows_l3
        rw [if_neg (by simp)]
      rw [e]
      obtain ⟨t', h1, h2, h3, h4, h5⟩ := ih t hn1 (fun x hx' => hx x (by simp [hx'])) s hz hA (fun l hl => hC l (by simp [hl]))
      refine ⟨t', h1, h2, h3, fun l hl h => h4 l hl ?_, fun l hl h hne => h5 l hl ?_ hne⟩
      · rcases h with h | h
        · exact .inl fun z => h (by simp [z])
        · exact .inr h
      · rcases List.mem_cons.mp h with h | h
        · exact absurd (by omega) hne
        · exact h
    · have e : m_hermite_rows_l3 (c : Int) (a : Int) (k : Int) t = some (t.set k (lessL (t.getD k []) ((en t k c).fdiv (en t a c)) (t.getD a []))) := by
        unfold m_hermite_rows_l3
        rw [if_pos (by simp; omega)]
        refine bo (s.atI hk) (bo (s.atI hk) (bo (s.atI2 hk hc) (bo (s.atI ha) (bo (s.atI2 ha hc) (bo (fdivO_ne hz) (bo (s.atI ha) (bo (less_ok (s.at hk) (s.at ha) hw (bC.le ?_) fun y hy => bX.le (hA y hy)) (bo (setO_nat (by rw [s.len]; exact hk)) rfl))))))))
        exact Nat.le_trans (fdiv_le hz) (hC k (by simp))
      rw [e]
      have hlen : (lessL (t.getD k []) ((en t k c).fdiv (en t a c)) (t.getD a [])).length = w := by rw [lessL_len (by rw [s.at hk, s.at ha]), s.at hk]
      have g : ∀ l, l ≠ k → (t.set k (lessL (t.getD k []) ((en t k c).fdiv (en t a c)) (t.getD a []))).getD l [] = t.getD l [] := fun l hl => by rw [getD_set (by rw [s.len]; exact hk), if_neg hl]
      have ge : ∀ l j, l ≠ k → en (t.set k (lessL (t.getD k []) ((en t k c).fdiv (en t a c)) (t.getD a []))) l j = en t l j := fun l j hl => congrArg (fun r : List Int => r.getD j 0) (g l hl)
      have hak : a ≠ k := fun z => hka z.symm
      obtain ⟨t', h1, h2, h3, h4, h5⟩ := ih _ hn1 (fun x hx' => hx x (by simp [hx'])) (s.set (k := k) hlen) (by rw [ge a c hak]; exact hz) (by rw [g a hak]; exact hA) (fun l hl => by
        have : l ≠ k := fun z => hk1 (by rw [← z]; exact hl)
        rw [ge l c this]
        exact hC l (by simp [hl]))
      refine ⟨t', h1, h2, (Rch.add k a _ (.refl _) hk ha hka).trans h3, fun l hl h => ?_, fun l hl h hne => ?_⟩
      · have hlk : l ≠ k := by
          rcases h with h | h
          · exact fun z => h (by simp [z])
          · exact fun z => hka (by omega)
        rw [h4 l hl (by
          rcases h with h | h
          · exact .inl fun z => h (by simp [z])
          · exact .inr h), g l hlk]
      · by_cases hlk : l = k
        · subst hlk
          rw [h4 l hl (.inl hk1), getD_set (by rw [s.len]; exact hk), if_pos rfl]
        · rw [h5 l hl ((List.mem_cons.mp h).elim (fun z => absurd (by omega) hlk) id) hne, g l hlk, g a hak, ge l c hlk, ge a c hak]
/-- one turn of the while -/
theorem turn (hw : w ≤ 1000) (hc : c < w) (hm : m ≤ 1000) (hd : d ≤ m) (bX : BigN X) (bC : BigN C) (s : Sz m w t) (hX : Bd X t) (hC : ∀ k, d ≤ k → k < m → (en t k c).natAbs ≤ C) (hl : 1 < (leftF m d c t).length) (hN : ∃ k, d ≤ k ∧ k < m ∧ en t k c ≠ 0 ∧ (en t k c).natAbs ≤ N + 1) :
    ∃ t', m_hermite_rows_l2 (c : Int) (d : Int) (t, leftF m d c t) = some (.nx (t', leftF m d c t')) ∧ Sz m w t' ∧ Rch m t t' ∧ Bd (X * (1 + C)) t' ∧ (∀ k, d ≤ k → k < m → (en t' k c).natAbs ≤ C) ∧ (∀ k, k < d → t'.getD k [] = t.getD k []) ∧
      (∀ j, (∀ k, d ≤ k → k < m → en t k j = 0) → ∀ k, d ≤ k → k < m → en t' k j = 0) ∧ 1 ≤ (leftF m d c t').length ∧ ((leftF m d c t').length ≤ 1 ∨ ∃ k, d ≤ k ∧ k < m ∧ en t' k c ≠ 0 ∧ (en t' k c).natAbs ≤ N) := by
  have hlen : (leftF m d c t).length ≤ 100000 := by
    refine Nat.le_trans (List.length_filter_le _ _) ?_
    rw [rng2_len]
    omega
  have habs : ∀ x ∈ leftF m d c t, ((L2.atI t x).bind fun t13 => (L2.atI t13 (c : Int)).bind fun t14 => some (if t14 < 0 then -t14 else t14)) = some (if en t x.toNat c < 0 then -en t x.toNat c else en t x.toNat c) := fun x hx => by
    obtain ⟨k, h1, h2, rfl, h3⟩ := mem_left.mp hx
    exact bo (s.atI h2) (bo (s.atI2 h2 hc) rfl)
  obtain ⟨low, hlow⟩ : ∃ low, minO ((leftF m d c t).map fun x => if en t x.toNat c < 0 then -en t x.toNat c else en t x.toNat c) = some low := by
    unfold minO
    cases q : ((leftF m d c t).map fun x => if en t x.toNat c < 0 then -en t x.toNat c else en t x.toNat c).min? with
    | some v => exact ⟨v, rfl⟩
    | none =>
      have := List.min?_eq_none_iff.mp q
      have := congrArg List.length this
      simp at this
      rw [this] at hl
      simp at hl
  obtain ⟨z1, z2⟩ := List.min?_eq_some_iff.mp hlow
  obtain ⟨xa, hxa, ea⟩ := List.mem_map.mp z1
  let F := (leftF m d c t).filter fun x => decide ((if en t x.toNat c < 0 then -en t x.toNat c else en t x.toNat c) = low)
  have hF : xa ∈ F := List.mem_filter.mpr ⟨hxa, by simpa using ea⟩
  obtain ⟨x0, hx0⟩ : ∃ x0, F[0]? = some x0 := by
    cases q : F with
    | nil => rw [q] at hF; cases hF
    | cons y ys => exact ⟨y, rfl⟩
  have hx0F : x0 ∈ F := List.mem_of_getElem? hx0
  obtain ⟨m1, m2⟩ := List.mem_filter.mp hx0F
  obtain ⟨a, ha1, ha2, rfl, ha3⟩ := mem_left.mp m1
  have ea : (if en t a c < 0 then -en t a c else en t a c) = low := by simpa using m2
  have hmin : ∀ k, d ≤ k → k < m → en t k c ≠ 0 → (en t a c).natAbs ≤ (en t k c).natAbs := fun k h1 h2 h3 => by
    have := z2 _ (List.mem_map.mpr ⟨(k : Int), mem_left.mpr ⟨k, h1, h2, rfl, h3⟩, rfl⟩)
    simp only [Int.toNat_natCast] at this
    split at this <;> split at ea <;> omega
  obtain ⟨t', h1, h2, h3, h4, h5⟩ := fold3 hw hc ha2 bX bC (leftF m d c t) t left_nodup (fun x hx => by
    obtain ⟨k, _, h, e, _⟩ := mem_left.mp hx
    exact ⟨k, h, e⟩) s ha3 (hX.row s ha2) (fun k hk => by
    obtain ⟨l, q1, q2, q3, _⟩ := mem_left.mp hk
    have : k = l := by omega
    subst this
    exact hC k q1 q2)
  have hrow : ∀ k, k < m → (t'.getD k [] = t.getD k [] ∧ (k < d ∨ en t k c = 0 ∨ k = a)) ∨ (d ≤ k ∧ k ≠ a ∧ t'.getD k [] = lessL (t.getD k []) ((en t k c).fdiv (en t a c)) (t.getD a [])) := fun k hk => by
    by_cases hka : k = a
    · exact .inl ⟨h4 k hk (.inr hka), .inr (.inr hka)⟩
    · by_cases hm' : (k : Int) ∈ leftF m d c t
      · obtain ⟨l, q1, q2, q3, _⟩ := mem_left.mp hm'
        exact .inr ⟨by omega, hka, h5 k hk hm' hka⟩
      · refine .inl ⟨h4 k hk (.inl hm'), ?_⟩
        by_cases hkd : k < d
        · exact .inl hkd
        · by_cases hz : en t k c = 0
          · exact .inr (.inl hz)
          · exact absurd (mem_left.mpr ⟨k, by omega, hk, rfl, hz⟩) hm'
  have hcol : ∀ k, d ≤ k → k < m → k ≠ a → (en t' k c).natAbs < (en t a c).natAbs := fun k hk1 hk2 hka => by
    rcases hrow k hk2 with ⟨e, z | z | z⟩ | ⟨_, _, e⟩
    · omega
    · have : en t' k c = 0 := by unfold en at z ⊢; rw [e]; exact z
      rw [this]
      have : (en t a c).natAbs ≠ 0 := by omega
      simp
      omega
    · exact absurd z hka
    · have : en t' k c = (en t k c).fmod (en t a c) := by
        show (t'.getD k []).getD c 0 = _
        rw [e, lessL_at (by rw [s.at hk2, s.at ha2])]
        exact sub_fdiv
      rw [this]
      exact fmod_lt ha3
  have hta : t'.getD a [] = t.getD a [] := h4 a ha2 (.inr rfl)
  have hea : ∀ j, en t' a j = en t a j := fun j => by unfold en; rw [hta]
  have hlen' : t'.length = m := h2.len
  refine ⟨t', ?_, h2, h3, ?_, ?_, ?_, ?_, ?_, ?_⟩
  · unfold m_hermite_rows_l2
    refine bo (lcA_of hlen habs) (bo hlow ?_)
    refine bo (x := F) ?_ ?_
    · rw [lcO_of (p := fun x => decide ((if en t x.toNat c < 0 then -en t x.toNat c else en t x.toNat c) = low)) (g := fun x => x) hlen (fun x hx => ?_) fun x _ _ => rfl, List.map_id']
      obtain ⟨k, q1, q2, rfl, q3⟩ := mem_left.mp hx
      exact bo (s.atI q2) (bo (s.atI2 q2 hc) rfl)
    · refine bo (x := (a : Int)) ?_ (bo h1 ?_)
      · have hl0 : 0 < F.length := List.length_pos_of_mem hF
        have := atI_get (xs := F) (i := 0) hl0
        rw [show ((0 : Nat) : Int) = 0 from rfl] at this
        rw [this]
        rw [List.getElem?_eq_getElem hl0] at hx0
        exact hx0
      · rw [hlen']
        exact bo (rng2_ok hm (by omega)) (bo (left_ok h2 hc hm) rfl)
  · refine bd_of h2 fun k hk y hy => ?_
    rcases hrow k hk with ⟨e, _⟩ | ⟨q, _, e⟩
    · rw [e] at hy
      refine Nat.le_trans (hX.row s hk y hy) ?_
      rw [Nat.mul_add]
      omega
    · rw [e] at hy
      exact lessL_bd (hX.row s hk) (hX.row s ha2) (Nat.le_trans (fdiv_le ha3) (hC k q hk)) y hy
  · intro k hk1 hk2
    by_cases hka : k = a
    · subst hka
      rw [hea]
      exact hC k hk1 hk2
    · exact Nat.le_trans (Nat.le_of_lt (hcol k hk1 hk2 hka)) (hC a ha1 ha2)
  · intro k hk
    exact h4 k (by omega) (.inl fun z => by
      obtain ⟨l, q1, _, q3, _⟩ := mem_left.mp z
      omega)
  · intro j hj k hk1 hk2
    rcases hrow k hk2 with ⟨e, _⟩ | ⟨_, _, e⟩
    · have := hj k hk1 hk2
      unfold en at this ⊢
      rw [e]
      exact this
    · show (t'.getD k []).getD j 0 = 0
      rw [e, lessL_at (by rw [s.at hk2, s.at ha2])]
      have e1 : (t.getD k []).getD j 0 = 0 := hj k hk1 hk2
      have e2 : (t.getD a []).getD j 0 = 0 := hj a ha1 ha2
      rw [e1, e2]
      simp
  · exact List.length_pos_of_mem (mem_left.mpr ⟨a, ha1, ha2, rfl, by rw [hea]; exact ha3⟩)
  · by_cases hq : (leftF m d c t').length ≤ 1
    · exact .inl hq
    · right
      obtain ⟨k0, q1, q2, q3, q4⟩ := hN
      have hlow : (en t a c).natAbs ≤ N + 1 := Nat.le_trans (hmin k0 q1 q2 q3) q4
      refine Classical.byContradiction fun hno => hq ?_
      have key : ∀ x ∈ leftF m d c t', x = (a : Int) := fun x hx => by
        obtain ⟨k, r1, r2, rfl, r3⟩ := mem_left.mp hx
        refine Classical.byContradiction fun hne => hno ⟨k, r1, r2, r3, ?_⟩
        have := hcol k r1 r2 (fun z => hne (by omega))
        omega
      have nd := left_nodup (m := m) (d := d) (c := c) (t := t')
      match hE : leftF m d c t' with
      | [] => simp
      | [_] => simp
      | x :: y :: _ =>
        rw [hE] at nd key
        have := key x (by simp)
        have := key y (by simp)
        have := (List.nodup_cons.mp nd).1
        exact absurd (by simp; omega) this
end
end G
set_option Elab.async false
set_option linter.all false
set_option maxRecDepth 100000
set_option maxHeartbeats 4000000
/-! hermite_rows: the while, a column, all columns -/
namespace G
section
variable {m w d c X C : Nat} {t t' : Tb} {pv : List Int}
theorem wh (hw : w ≤ 1000) (hc : c < w) (hm : m ≤ 1000) (hd : d ≤ m) (bC : BigN C) : ∀ (N : Nat) (t : Tb) (X : Nat), BigN (X * (1 + C) ^ N) → Sz m w t → Bd X t → (∀ k, d ≤ k → k < m → (en t k c).natAbs ≤ C) → ((leftF m d c t).length ≤ 1 ∨ ∃ k, d ≤ k ∧ k < m ∧ en t k c ≠ 0 ∧ (en t k c).natAbs ≤ N) →
    ∀ fuel, N < fuel → ∃ t', whileO m_hermite_rows_l2c (m_hermite_rows_l2 (c : Int) (d : Int)) fuel (t, leftF m d c t) = some (.nx (t', leftF m d c t')) ∧ Sz m w t' ∧ (leftF m d c t').length ≤ 1 ∧ Rch m t t' ∧ Bd (X * (1 + C) ^ N) t' ∧ (∀ k, k < d → t'.getD k [] = t.getD k []) ∧
      (∀ j, (∀ k, d ≤ k → k < m → en t k j = 0) → ∀ k, d ≤ k → k < m → en t' k j = 0) ∧ (1 ≤ (leftF m d c t).length → 1 ≤ (leftF m d c t').length) := by
  have small : ∀ (N : Nat) (t : Tb) (X : Nat), Sz m w t → Bd X t → (leftF m d c t).length ≤ 1 → ∀ fuel, N < fuel → ∃ t', whileO m_hermite_rows_l2c (m_hermite_rows_l2 (c : Int) (d : Int)) fuel (t, leftF m d c t) = some (.nx (t', leftF m d c t')) ∧ Sz m w t' ∧ (leftF m d c t').length ≤ 1 ∧ Rch m t t' ∧ Bd (X * (1 + C) ^ N) t' ∧ (∀ k, k < d → t'.getD k [] = t.getD k []) ∧
      (∀ j, (∀ k, d ≤ k → k < m → en t k j = 0) → ∀ k, d ≤ k → k < m → en t' k j = 0) ∧ (1 ≤ (leftF m d c t).length → 1 ≤ (leftF m d c t').length) := fun N t X s hX hl fuel hf => by
    refine ⟨t, ?_, s, hl, .refl _, hX.mono (Nat.le_mul_of_pos_right _ (Nat.pow_pos (by omega))), fun _ _ => rfl, fun j h => h, id⟩
    match fuel, hf with
    | f + 1, _ =>
      show (m_hermite_rows_l2c _).bind _ = _
      refine bo (x := false) ?_ rfl
      show some (decide ((1 : Int) < ((leftF m d c t).length : Int))) = some false
      rw [decide_eq_false (by omega)]
  intro N
  induction N with
  | zero =>
    intro t X bX s hX hC h fuel hf
    refine small 0 t X s hX ?_ fuel hf
    rcases h with h | ⟨k, _, _, h3, h4⟩
    · exact h
    · omega
  | succ N ih =>
    intro t X bX s hX hC h fuel hf
    by_cases hl : (leftF m d c t).length ≤ 1
    · exact small (N + 1) t X s hX hl fuel hf
    · have hN := h.resolve_left hl
      have e1 : X * (1 + C) ^ (N + 1) = X * (1 + C) * (1 + C) ^ N := by rw [Nat.pow_succ]; grind
      have b1 : BigN X := bX.le (Nat.le_mul_of_pos_right _ (Nat.pow_pos (by omega)))
      obtain ⟨t1, q1, q2, q3, q4, q5, q6, q7, q8, q9⟩ := turn (N := N) hw hc hm hd b1 bC s hX hC (by omega) hN
      match fuel, hf with
      | f + 1, hf =>
        obtain ⟨t', p1, p2, p3, p4, p5, p6, p7, p8⟩ := ih t1 (X * (1 + C)) (by rw [← e1]; exact bX) q2 q4 q5 q9 f (by omega)
        refine ⟨t', ?_, p2, p3, q3.trans p4, by rw [e1]; exact p5, fun k hk => by rw [p6 k hk, q6 k hk], fun j hj => p7 j (q7 j hj), fun _ => p8 q8⟩
        show (m_hermite_rows_l2c _).bind _ = _
        refine bo (x := true) ?_ ?_
        · show some (decide ((1 : Int) < ((leftF m d c t).length : Int))) = some true
          rw [decide_eq_true (by omega)]
        · rw [if_pos rfl]
          exact bo q1 p1
/-- the table and the pivots ahead of the column c -/
structure HI (m w c X : Nat) (t : Tb) (pv : List Int) : Prop where
  sz : Sz m w t
  pl : pv.length ≤ m
  piv : ∀ i, i < pv.length → ∃ p : Nat, pv[i]? = some (p : Int) ∧ p < c ∧ 0 < en t i p ∧ (∀ j, j < p → en t i j = 0) ∧ (∀ k, i < k → k < m → en t k p = 0) ∧ ∀ k, k < i → 0 ≤ en t k p ∧ en t k p < en t i p
  srt : ∀ (i j : Nat) (p q : Int), i < j → pv[i]? = some p → pv[j]? = some q → p < q
  zero : ∀ k, pv.length ≤ k → k < m → ∀ j, j < c → en t k j = 0
  bd : Bd X t
theorem negL_bd {r : List Int} (h : ∀ y ∈ r, y.natAbs ≤ X) : ∀ y ∈ negL r, y.natAbs ≤ X := fun y hy => by
  obtain ⟨x, hx, rfl⟩ := List.mem_map.mp hy
  have := h x hx
  omega
theorem fold4 (hw : w ≤ 1000) (hc : c < w) (hd : d < m) (bX : BigN X) (s : Sz m w t) (hX : Bd X t) (hz : en t d c ≠ 0) :
    ∃ t', foldO (m_hermite_rows_l4 (c : Int) (t.getD d [])) (rng (d : Int)) t = some t' ∧ Sz m w t' ∧ Rch m t t' ∧ ∀ k, k < m → t'.getD k [] = if k < d then lessL (t.getD k []) ((en t k c).fdiv (en t d c)) (t.getD d []) else t.getD k [] := by
  obtain ⟨t', h1, h2, h3, h4⟩ := foldO_rng (body := m_hermite_rows_l4 (c : Int) (t.getD d [])) (n := d) (s := t) (fun n u => Sz m w u ∧ Rch m t u ∧ ∀ k, k < m → u.getD k [] = if k < n then lessL (t.getD k []) ((en t k c).fdiv (en t d c)) (t.getD d []) else t.getD k []) ⟨s, .refl _, fun k _ => by rw [if_neg (by omega)]⟩ fun n u hn ⟨su, ru, hu⟩ => by
    have hnm : n < m := by omega
    have e1 : u.getD n [] = t.getD n [] := by rw [hu n hnm, if_neg (by omega)]
    have e2 : u.getD d [] = t.getD d [] := by rw [hu d hd, if_neg (by omega)]
    have ee : en u n c = en t n c := congrArg (fun r : List Int => r.getD c 0) e1
    have hlen : (lessL (u.getD n []) ((en u n c).fdiv (en t d c)) (t.getD d [])).length = w := by rw [lessL_len (by rw [su.at hnm, s.at hd]), su.at hnm]
    refine ⟨u.set n (lessL (u.getD n []) ((en u n c).fdiv (en t d c)) (t.getD d [])), ?_, su.set hlen, ?_, fun k hk => ?_⟩
    · unfold m_hermite_rows_l4
      refine bo (su.atI hnm) (bo (su.atI hnm) (bo (su.atI2 hnm hc) (bo (s.atI2 hd hc) (bo (fdivO_ne hz) (bo (less_ok (su.at hnm) (s.at hd) hw (bX.le (Nat.le_trans (fdiv_le hz) ?_)) fun y hy => bX.le (hX.row s hd y hy)) (bo (setO_nat (by rw [su.len]; exact hnm)) rfl))))))
      rw [ee]
      exact hX.en s hnm
    · have := Rch.add n d ((en u n c).fdiv (en t d c)) ru hnm hd (by omega)
      rw [e2] at this
      exact this
    · rw [getD_set (by rw [su.len]; exact hnm)]
      by_cases hkn : k = n
      · subst hkn
        rw [if_pos rfl, if_pos (by omega), ee, e1]
      · rw [if_neg hkn, hu k hk]
        by_cases hk2 : k < n
        · rw [if_pos hk2, if_pos (by omega)]
        · rw [if_neg hk2, if_neg (by omega)]
  exact ⟨t', h1, h2, h3, h4⟩
theorem left_len : (leftF m d c t).length ≤ m - d := by
  refine Nat.le_trans (List.length_filter_le _ _) ?_
  rw [rng2_len]
  omega
theorem lit1' {α : Type} {l : List α} (h : l.length ≤ 1) (h1 : 1 ≤ l.length) : ∃ a, l = [a] := match l, h, h1 with | [a], _, _ => ⟨a, rfl⟩
def hstep (m d X : Nat) : Nat := X * (1 + X) ^ (if d + 2 ≤ m then X else 0)
theorem col (hw : w ≤ 1000) (hc : c < w) (hm : m ≤ 1000) (I : HI m w c X t pv) (bY : BigN (hstep m pv.length X * (1 + hstep m pv.length X))) {fuel : Nat} (hf : X < fuel) :
    ∃ t' pv', m_hermite_rows_l1 fuel (c : Int) (t, pv) = some (t', pv') ∧ Rch m t t' ∧ ((pv' = pv ∧ HI m w (c + 1) X t' pv) ∨ (pv' = pv ++ [(c : Int)] ∧ HI m w (c + 1) (hstep m pv.length X * (1 + hstep m pv.length X)) t' (pv ++ [(c : Int)]))) := by
  have hd := I.pl
  generalize hd' : pv.length = d at hd bY ⊢
  have hXY : X ≤ hstep m d X := Nat.le_mul_of_pos_right _ (Nat.pow_pos (by omega))
  have hYY : hstep m d X ≤ hstep m d X * (1 + hstep m d X) := Nat.le_mul_of_pos_right _ (by omega)
  have bY0 : BigN (hstep m d X) := bY.le hYY
  have bX : BigN X := bY0.le hXY
  have s := I.sz
  have hC : ∀ k, d ≤ k → k < m → (en t k c).natAbs ≤ X := fun k _ hk => I.bd.en s hk
  have hz : ∀ j, j < c → ∀ k, d ≤ k → k < m → en t k j = 0 := fun j hj k h1 h2 => I.zero k (by rw [hd']; exact h1) h2 j hj
  obtain ⟨t1, p1, s1, p3, p4, p5, p6, p7, p8⟩ := wh hw hc hm hd bX (if d + 2 ≤ m then X else 0) t X bY0 s I.bd hC (by
    by_cases hl : (leftF m d c t).length ≤ 1
    · exact .inl hl
    · right
      have := left_len (m := m) (d := d) (c := c) (t := t)
      rw [if_pos (by omega)]
      match hE : leftF m d c t with
      | [] => rw [hE] at hl; simp at hl
      | x :: xs =>
        obtain ⟨k, h1, h2, _, h4⟩ := mem_left.mp (show x ∈ leftF m d c t by rw [hE]; simp)
        exact ⟨k, h1, h2, h4, hC k h1 h2⟩) fuel (by split <;> omega)
  have hlen1 : t1.length = m := s1.len
  have head : m_hermite_rows_l1 fuel (c : Int) (t, pv) = thenL (ρ := Empty) (fun s6041 => if (decide ((s6041.2.length : Int) = (0 : Int))) then some (s6041.1, pv) else (L2.atI s6041.2 (0 : Int)).bind fun t6042 => (L2.atI s6041.1 t6042).bind fun v_row6044 => (L2.atI s6041.1 (d : Int)).bind fun t6045 => (L2.atI s6041.2 (0 : Int)).bind fun t6046 => (setO s6041.1 t6046 t6045).bind fun v_table6047 => (L2.atI v_row6044 (c : Int)).bind fun t6048 => (if (decide (t6048 < (0 : Int))) then (m_times_row (-(1 : Int)) v_row6044).bind fun v_row6050 => some v_row6050 else some v_row6044).bind fun s6051 => (setO v_table6047 (d : Int) s6051).bind fun v_table6052 => (rngO (d : Int)).bind fun t6053 => (foldO (m_hermite_rows_l4 (c : Int) s6051) t6053 v_table6052).bind fun s10061 => (appO pv (c : Int)).bind fun v_pivots10062 => some (s10061, v_pivots10062)) (fun r => Empty.elim r) (.nx (t1, leftF m d c t1)) := by
    unfold m_hermite_rows_l1
    show ((rng2O (pv.length : Int) (t.length : Int)).bind _) = _
    rw [hd', s.len]
    exact bo (rng2_ok hm (by omega)) (bo (left_ok s hc hm) (bo p1 rfl))
  rw [head]
  show ∃ t' pv', (if (decide (((leftF m d c t1).length : Int) = (0 : Int))) then some (t1, pv) else _) = some (t', pv') ∧ _
  by_cases h0 : (leftF m d c t1).length = 0
  · rw [if_pos (by simp [h0])]
    have hl0 : (leftF m d c t).length = 0 := Classical.byContradiction fun hn => by
      have := p8 (by omega)
      omega
    have e0 : ∀ k, d ≤ k → k < m → en t1 k c = 0 := fun k h1 h2 => Classical.byContradiction fun hn => by
      have := List.length_pos_of_mem (mem_left.mpr ⟨k, h1, h2, rfl, hn⟩)
      omega
    -- nothing was done: the table is the old one
    have et : t1 = t := by
      match fuel, hf, p1 with
      | f + 1, _, p1 =>
        have z : whileO m_hermite_rows_l2c (m_hermite_rows_l2 (c : Int) (d : Int)) (f + 1) (t, leftF m d c t) = some (.nx (t, leftF m d c t)) := by
          show (m_hermite_rows_l2c _).bind _ = _
          refine bo (x := false) ?_ rfl
          show some (decide ((1 : Int) < ((leftF m d c t).length : Int))) = some false
          rw [decide_eq_false (by omega)]
        rw [z] at p1
        injection p1 with p1
        injection p1 with p1
        exact (congrArg Prod.fst p1).symm
    subst et
    refine ⟨t1, pv, rfl, .refl _, .inl ⟨rfl, s, by rw [hd']; exact hd, fun i hi => ?_, I.srt, fun k h1 h2 j hj => ?_, I.bd⟩⟩
    · obtain ⟨p, h1, h2, h3⟩ := I.piv i hi
      exact ⟨p, h1, by omega, h3⟩
    · by_cases hjc : j = c
      · subst hjc; exact e0 k (by rw [← hd']; exact h1) h2
      · exact hz j (by omega) k (by rw [← hd']; exact h1) h2
  · rw [if_neg (by rw [decide_eq_true_eq]; omega)]
    obtain ⟨x, hx⟩ := lit1' p3 (by omega)
    obtain ⟨l, hl1, hl2, ex, hl3⟩ := mem_left.mp (show x ∈ leftF m d c t1 by rw [hx]; simp)
    subst ex
    have hdm : d < m := by omega
    have oth : ∀ k, d ≤ k → k < m → k ≠ l → en t1 k c = 0 := fun k h1 h2 hne => Classical.byContradiction fun hn => by
      have := mem_left.mpr ⟨k, h1, h2, rfl, hn⟩
      rw [hx] at this
      simp at this
      omega
    let row := if en t1 l c < 0 then negL (t1.getD l []) else t1.getD l []
    have rowc : row = negL (t1.getD l []) ∨ row = t1.getD l [] := by
      show (if _ then _ else _) = _ ∨ (if _ then _ else _) = _
      split
      · exact .inl rfl
      · exact .inr rfl
    have rlen : row.length = w := by
      rcases rowc with e | e
      · rw [e, negL_len, s1.at hl2]
      · rw [e, s1.at hl2]
    have rbd : ∀ y ∈ row, y.natAbs ≤ hstep m d X := by
      rcases rowc with e | e
      · rw [e]; exact negL_bd (p5.row s1 hl2)
      · rw [e]; exact p5.row s1 hl2
    have rpos : 0 < row.getD c 0 := by
      show 0 < (if _ then _ else _ : List Int).getD c 0
      split
      · rw [negL_at]
        show 0 < -en t1 l c
        omega
      · show 0 < en t1 l c
        omega
    have rz : ∀ j, j < c → row.getD j 0 = 0 := fun j hj => by
      have := p7 j (hz j hj) l hl1 hl2
      rcases rowc with e | e
      · rw [e, negL_at]
        show -en t1 l j = 0
        omega
      · rw [e]; exact this
    let t3 := (t1.set l (t1.getD d [])).set d row
    have s2 : Sz m w (t1.set l (t1.getD d [])) := s1.set (s1.at hdm)
    have s3 : Sz m w t3 := s2.set rlen
    have g3 : ∀ k, t3.getD k [] = if k = d then row else if k = l then t1.getD d [] else t1.getD k [] := fun k => by
      show ((t1.set l (t1.getD d [])).set d row).getD k [] = _
      rw [getD_set (by rw [s2.len]; exact hdm), getD_set (by rw [s1.len]; exact hl2)]
    have gd : t3.getD d [] = row := by rw [g3, if_pos rfl]
    have b3 : Bd (hstep m d X) t3 := bd_of s3 fun k hk => by
      rw [g3]
      split
      · exact rbd
      · split
        · exact p5.row s1 hdm
        · exact p5.row s1 hk
    have r3 : Rch m t1 t3 := by
      have z := Rch.swap l d (.refl t1) hl2 hdm
      rcases rowc with e | e
      · have z2 := Rch.neg d z hdm
        rw [getD_set (by rw [s2.len]; exact hdm), if_pos rfl, List.set_set, ← e] at z2
        exact z2
      · rw [← e] at z
        exact z
    have e3 : en t3 d c = row.getD c 0 := congrArg (fun r : List Int => r.getD c 0) gd
    obtain ⟨t4, f1, s4, f3, f4⟩ := fold4 hw hc hdm bY0 s3 b3 (by rw [e3]; omega)
    -- items of the last table
    have low : ∀ k, k < d → ∀ j, en t4 k j = en t k j - (en t3 k c).fdiv (row.getD c 0) * row.getD j 0 := fun k hk j => by
      show (t4.getD k []).getD j 0 = _
      have hkm : k < m := by omega
      rw [f4 k hkm, if_pos hk, lessL_at (by rw [s3.at hkm, s3.at hdm]), gd, e3, g3, if_neg (by omega), if_neg (by omega), p6 k hk]
      rfl
    have high : ∀ k, d ≤ k → k < m → ∀ j, en t4 k j = if k = d then row.getD j 0 else if k = l then en t1 d j else en t1 k j := fun k hk hkm j => by
      show (t4.getD k []).getD j 0 = _
      rw [f4 k hkm, if_neg (by omega), g3]
      split
      · rfl
      · split <;> rfl
    have et3 : ∀ k, k < d → en t3 k c = en t k c := fun k hk => by
      show (t3.getD k []).getD c 0 = _
      rw [g3, if_neg (by omega), if_neg (by omega), p6 k hk]
      rfl
    have hz4 : ∀ k, d + 1 ≤ k → k < m → ∀ j, j < c + 1 → en t4 k j = 0 := fun k hk hkm j hj => by
      rw [high k (by omega) hkm, if_neg (by omega)]
      by_cases hkl : k = l
      · subst hkl
        rw [if_pos rfl]
        by_cases hjc : j = c
        · subst hjc; exact oth d (by omega) hdm (by omega)
        · exact p7 j (hz j (by omega)) d (by omega) hdm
      · rw [if_neg hkl]
        by_cases hjc : j = c
        · subst hjc; exact oth k (by omega) hkm hkl
        · exact p7 j (hz j (by omega)) k (by omega) hkm
    refine ⟨t4, pv ++ [(c : Int)], ?_, (p4.trans r3).trans f3, .inr ⟨rfl, s4, by simp; omega, fun i hi => ?_, fun i j p q hij hp hq => ?_, fun k hk hkm j hj => hz4 k (by simp at hk; omega) hkm j hj, ?_⟩⟩
    · have a0 : L2.atI (leftF m d c t1) (0 : Int) = some (l : Int) := by rw [hx]; rfl
      refine bo a0 (bo (s1.atI hl2) (bo (s1.atI hdm) (bo a0 (bo (setO_nat (by rw [hlen1]; exact hl2)) (bo (s1.atI2 hl2 hc) ?_)))))
      refine bo (x := row) ?_ (bo (setO_nat (by rw [s2.len]; exact hdm)) (bo (rngO_nat (by omega)) (bo (x := t4) ?_ (bo (appO_ok (by omega)) rfl))))
      · show (if (decide (en t1 l c < (0 : Int))) then _ else _) = some (if en t1 l c < 0 then _ else _)
        by_cases hn : en t1 l c < 0
        · rw [if_pos (by simpa using hn), if_pos hn]
          exact bo (times_ok (by rw [s1.at hl2]; exact hw)) rfl
        · rw [if_neg (by simpa using hn), if_neg hn]
      · rw [← gd]
        have := f1
        rw [gd] at this ⊢
        exact this
    · by_cases hid : i < d
      · obtain ⟨p, h1, h2, h3, h4, h5, h6⟩ := I.piv i (by omega)
        have em : ∀ k, k < d → ∀ j, j < c → en t4 k j = en t k j := fun k hk j hj => by
          rw [low k hk, rz j hj]
          simp
        refine ⟨p, by rw [List.getElem?_append_left (by omega)]; exact h1, by omega, by rw [em i hid p h2]; exact h3, fun j hj => by rw [em i hid j (by omega)]; exact h4 j hj, fun k hk hkm => ?_, fun k hk => by rw [em k (by omega) p h2, em i hid p h2]; exact h6 k hk⟩
        by_cases hkd : k < d
        · rw [em k hkd p h2]; exact h5 k hk hkm
        · by_cases hk2 : k = d
          · rw [high k (by omega) hkm, if_pos hk2]; exact rz p h2
          · exact hz4 k (by omega) hkm p (by omega)
      · have hid2 : i = d := by simp at hi; omega
        subst hid2
        have ed : ∀ j, en t4 i j = row.getD j 0 := fun j => by rw [high i (by omega) hdm, if_pos rfl]
        refine ⟨c, by rw [List.getElem?_append_right (by omega), hd']; simp, by omega, by rw [ed]; exact rpos, fun j hj => by rw [ed]; exact rz j hj, fun k hk hkm => hz4 k (by omega) hkm c (by omega), fun k hk => ?_⟩
        rw [low k hk, et3 k hk, ed, sub_fdiv]
        exact ⟨Int.fmod_nonneg_of_pos _ rpos, Int.fmod_lt_of_pos _ rpos⟩
    · have hj : j < (pv ++ [(c : Int)]).length := (List.getElem?_eq_some_iff.mp hq).1
      simp at hj
      by_cases hjd : j < d
      · rw [List.getElem?_append_left (by omega)] at hp hq
        exact I.srt i j p q hij hp hq
      · have : j = d := by omega
        subst this
        rw [List.getElem?_append_right (by omega), hd'] at hq
        simp at hq
        rw [List.getElem?_append_left (by omega)] at hp
        obtain ⟨p', h1, h2, _⟩ := I.piv i (by omega)
        rw [hp] at h1
        injection h1 with h1
        omega
    · refine bd_of s4 fun k hk => ?_
      rw [f4 k hk]
      split
      · exact lessL_bd (b3.row s3 hk) (b3.row s3 hdm) (Nat.le_trans (fdiv_le (by rw [e3]; omega)) (b3.en s3 hk))
      · exact fun y hy => Nat.le_trans (b3.row s3 hk y hy) hYY
/-- all columns: Xs: a bound of the items by the number of pivots -/
theorem herm_ok {p : Sq (fun p : Sq eI => p.d)} {m w : Nat} {Xs : Nat → Nat} {fuel : Nat} (hw : w ≤ 1000) (hm : m ≤ 1000) (s : Sz m w (p.xs.map (·.xs))) (hb : Bd (Xs 0) (p.xs.map (·.xs))) (hX : ∀ d, d < m → hstep m d (Xs d) * (1 + hstep m d (Xs d)) ≤ Xs (d + 1)) (hB : ∀ d, d ≤ m + 1 → BigN (Xs d)) (hf : ∀ d, d ≤ m → Xs d < fuel)
    (hl : hstep m m (Xs m) * (1 + hstep m m (Xs m)) ≤ Xs (m + 1)) :
    ∃ t pv, m_hermite_rows fuel p (w : Int) = some (t, pv) ∧ Rch m (p.xs.map (·.xs)) t ∧ HI m w w (Xs pv.length) t pv := by
  obtain ⟨⟨t, pv⟩, h1, h2, h3⟩ := foldO_rng (body := m_hermite_rows_l1 fuel) (n := w) (s := (p.xs.map (·.xs), ([] : List Int))) (fun c z => Rch m (p.xs.map (·.xs)) z.1 ∧ HI m w c (Xs z.2.length) z.1 z.2)
    ⟨.refl _, s, Nat.zero_le _, fun i hi => by simp at hi, fun i j p q _ h => by simp at h, fun k _ _ j hj => by omega, hb⟩ fun c z hc ⟨r, I⟩ => by
    obtain ⟨t, pv⟩ := z
    have hd : pv.length ≤ m := I.pl
    have hs : hstep m pv.length (Xs pv.length) * (1 + hstep m pv.length (Xs pv.length)) ≤ Xs (pv.length + 1) := by
      rcases Nat.lt_or_ge pv.length m with h | h
      · exact hX _ h
      · have : pv.length = m := by omega
        rw [this]; exact hl
    obtain ⟨t', pv', q1, q2, q3⟩ := col hw hc hm I ((hB (pv.length + 1) (by omega)).le hs) (hf _ hd)
    refine ⟨(t', pv'), q1, r.trans q2, ?_⟩
    rcases q3 with ⟨rfl, q⟩ | ⟨rfl, q⟩
    · exact q
    · refine ⟨q.sz, q.pl, q.piv, q.srt, q.zero, ?_⟩
      simp only [List.length_append, List.length_cons, List.length_nil]
      exact q.bd.mono hs
  refine ⟨t, pv, ?_, h2, h3⟩
  unfold m_hermite_rows
  refine bo (lcA_of (g := (·.xs)) (by have := s.len; simp at this; omega) fun x _ => rfl) (bo (x := ([] : List Int)) rfl (bo (rngO_nat (by omega)) (bo h1 rfl)))
/-- as many pivots as rows exactly for independent rows -/
theorem HI.ind {m w X : Nat} {t : Tb} {pv : List Int} (I : HI m w w X t pv) : Ind m w t ↔ pv.length = m := by
  constructor
  · intro h
    refine Classical.byContradiction fun hne => ?_
    have hlt : pv.length < m := by have := I.pl; omega
    have := h (fun k => if k = pv.length then 1 else 0) (fun j hj => by
      have e : rsum m (fun k => (if k = pv.length then 1 else 0) * en t k j) = rsum m fun k => if k = pv.length then en t k j else 0 := rsum_congr fun k _ => by split <;> simp
      rw [e, rsum_ite hlt (f := fun k => en t k j)]
      exact I.zero _ (Nat.le_refl _) hlt j hj) _ hlt
    simp at this
  · intro he x hx k
    induction k using Nat.strongRecOn with
    | _ k ih =>
      intro hk
      obtain ⟨p, _, h2, h3, _, h5, _⟩ := I.piv k (by omega)
      have z := hx p h2
      have e : rsum m (fun l => x l * en t l p) = rsum m fun l => if l = k then x l * en t l p else 0 := rsum_congr fun l hl => by
        by_cases hlk : l = k
        · rw [if_pos hlk]
        · rw [if_neg hlk]
          rcases Nat.lt_or_gt_of_ne hlk with h | h
          · rw [ih l h hl]; simp
          · rw [h5 l h hl]; simp
      rw [e, rsum_ite hk (f := fun l => x l * en t l p)] at z
      rcases Int.mul_eq_zero.mp z with h | h
      · exact h
      · omega
end
end G
set_option Elab.async false
set_option linter.all false
set_option maxRecDepth 100000
set_option maxHeartbeats 4000000
/-! the laws' numbers, vectors, matrices: what their models compute -/
namespace G
theorem len2 {st : List Int} (h : st.length = 2) : ∃ a b, st = [a, b] := match st, h with | [a, b], _ => ⟨a, b, rfl⟩
theorem take_ex {st : List Int} {m : Int} (h : st.length = 2) (hm : 0 < m) : ∃ v st', m_law_take st m = some (v, st') ∧ st'.length = 2 ∧ 0 ≤ v ∧ v < m := by
  obtain ⟨a, b, rfl⟩ := len2 h
  unfold m_law_take
  have e0 : L2.atI [a, b] (0 : Int) = some a := rfl
  have e1 : L2.atI [a, b] (1 : Int) = some b := rfl
  rw [e0]
  simp only [Option.bind_some]
  by_cases hp : 0 < a
  · rw [if_pos (by simpa using hp), modO_ne (by omega), fdivO_ne (by omega)]
    simp only [Option.bind_some]
    have e2 : setO [a, b] (0 : Int) (a.fdiv m) = some [a.fdiv m, b] := rfl
    rw [e2]
    exact ⟨_, _, rfl, rfl, Int.fmod_nonneg_of_pos a hm, Int.fmod_lt_of_pos a hm⟩
  · rw [if_neg (by simpa using hp), e1]
    simp only [Option.bind_some]
    rw [mulO_r (by decide)]
    simp only [Option.bind_some]
    rw [modO_ne (by decide)]
    simp only [Option.bind_some]
    have e2 : ∀ z, setO [a, b] (1 : Int) z = some [a, z] := fun z => rfl
    rw [e2]
    simp only [Option.bind_some]
    have e3 : ∀ z, L2.atI [a, z] (1 : Int) = some z := fun z => rfl
    rw [e3]
    simp only [Option.bind_some]
    rw [fdivO_ne (by decide)]
    simp only [Option.bind_some]
    rw [modO_ne (by omega)]
    exact ⟨_, _, rfl, rfl, Int.fmod_nonneg_of_pos _ hm, Int.fmod_lt_of_pos _ hm⟩
theorem state_ex (ns : List Int) : ∃ st, m_law_state ns = some st ∧ st.length = 2 := by
  unfold m_law_state
  obtain ⟨t, h1, _⟩ := foldO_list (body := m_law_state_l1) (fun _ => True) (xs := cutL ns none (some (63 : Int))) (s := ((0 : Int), (1 : Int))) True.intro fun x _ t _ => by
    unfold m_law_state_l1
    rw [mulO_r (by decide)]
    simp only [Option.bind_some]
    rw [mulO_r (by decide)]
    simp only [Option.bind_some]
    rw [modO_ne (by decide)]
    exact ⟨_, rfl, True.intro⟩
  rw [h1]
  exact ⟨_, rfl, rfl⟩
theorem tkOk : TkOk m_law_take := fun st m h hm => take_ex h hm
theorem gramO_ok {n : Nat} (hn : n = 1 ∨ n = 2 ∨ n = 3) {st : List Int} (h : st.length = 2) : ∃ g st', gramO m_law_take (n : Int) st = some (g, st') ∧ st'.length = 2 ∧ Gd g n := by
  unfold gramO
  rw [if_pos (by omega), Int.toNat_natCast]
  rcases hn with rfl | rfl | rfl
  · exact gr_one tkOk h
  · exact gr_two tkOk h
  · exact gr_three tkOk h
theorem gram_ex {st : List Int} {m : Int} (hm : 1 ≤ m ∧ m ≤ 3) (hst : st.length = 2) : ∃ g n st', m_law_gram st m = some (g, st') ∧ st'.length = 2 ∧ Gd g n ∧ (n : Int) ≤ m := by
  unfold m_law_gram
  obtain ⟨v, s1, q1, q2, q3, q4⟩ := take_ex (m := m) hst (by omega)
  have hc : v = 0 ∨ v = 1 ∨ v = 2 := by omega
  by_cases h2 : v = 2
  · subst h2
    obtain ⟨w, s2, p1, p2, p3, p4⟩ := take_ex (m := 2) q2 (by decide)
    by_cases hw : w = 1
    · obtain ⟨g, st', e1, e2, e3⟩ := gramO_ok (n := 2) (by omega) p2
      refine ⟨g, 2, st', ?_, e2, e3, by omega⟩
      refine bo q1 ?_
      refine bo (x := (true, s2)) ?_ ?_
      · rw [if_pos (show decide ((2 : Int) < 1 + 2) = true by decide)]
        refine bo p1 ?_
        simp [hw]
      · exact bo (x := (2 : Int)) rfl e1
    · obtain ⟨g, st', e1, e2, e3⟩ := gramO_ok (n := 3) (by omega) p2
      refine ⟨g, 3, st', ?_, e2, e3, by omega⟩
      refine bo q1 ?_
      refine bo (x := (false, s2)) ?_ ?_
      · rw [if_pos (show decide ((2 : Int) < 1 + 2) = true by decide)]
        refine bo p1 ?_
        simp [hw]
      · exact bo (x := (3 : Int)) rfl e1
  · obtain ⟨n, hn⟩ : ∃ n : Nat, 1 + v = (n : Int) := ⟨(1 + v).toNat, by omega⟩
    obtain ⟨g, st', e1, e2, e3⟩ := gramO_ok (n := n) (by omega) q2
    refine ⟨g, n, st', ?_, e2, e3, by omega⟩
    refine bo q1 ?_
    refine bo (x := (false, s1)) ?_ ?_
    · rw [if_neg (by rw [decide_eq_true_eq]; show ¬ (2 : Int) < 1 + v; omega)]
    · refine bo (x := (n : Int)) ?_ e1
      show some (1 + v) = _
      rw [hn]
theorem vec_ex {n : Nat} {st : List Int} {b : Nat} (hn : n ≤ 1000) (hb : b ≤ 100000) (hst : st.length = 2) : ∃ v st', m_law_vector st n b = some (v, st') ∧ st'.length = 2 ∧ v.length = n ∧ ∀ x ∈ v, x.natAbs ≤ b := by
  unfold m_law_vector
  obtain ⟨ys, t, h1, h2, h3, h4⟩ := lcS_ex (f := fun (x : Int) (s : List Int) => (mulO (2 : Int) b).bind fun t4 => (m_law_take s (t4 + (1 : Int))).bind fun t5 => some ((t5.1 - b), t5.2)) (xs := rng (n : Int)) (s := st) (fun st => st.length = 2) (fun x => x.natAbs ≤ b) (by rw [rng_len]; omega) hst fun x _ t ht => by
    obtain ⟨v, st', q1, q2, q3, q4⟩ := take_ex (m := 2 * b + 1) ht (by omega)
    exact ⟨v - b, st', bo (mulO_l (by decide)) (bo q1 rfl), by omega, q2⟩
  refine ⟨ys, t, bo (rngO_nat (by omega)) (bo h1 rfl), h4, by rw [h2, rng_len]; omega, h3⟩
def dotL (xs ys : List Int) : Int := ((List.zip xs ys).map fun p => p.1 * p.2).sum
def nrm (g : List (List Int)) (v : List Int) : Int := dotL v (g.map fun r => dotL r v)
theorem dot_l {p q : Sq eI} (h : ∀ x ∈ p.xs, x.natAbs < 2 ^ 64) (hl : p.xs.length ≤ 100000) : m_dot p q = some (dotL p.xs q.xs) := by
  unfold m_dot
  refine bo (lcA_of (g := fun z => z.1 * z.2) (by rw [List.length_zip]; omega) fun x hx => bo (mulO_l (h _ (List.of_mem_zip (a := x.1) (b := x.2) hx).1)) rfl) rfl
theorem norm_ok {n : Nat} {g : List (List Int)} {v : List Int} (o : LatOk n g) (hv : v.length = n) (hb : ∀ x ∈ v, x.natAbs < 2 ^ 64) : m_Lattice_norm ⟨⟨g, n⟩⟩ v = some (nrm g v) := by
  have n4 := o.n4
  have cn : m_Lattice_contains ⟨⟨g, n⟩⟩ v = some true := by
    unfold m_Lattice_contains
    rw [if_neg (by show ¬ ((!true) || (!decide ((v.length : Int) = (g.length : Int)))) = true; rw [hv, o.len]; simp)]
    refine bo (lcA_of (g := fun _ => true) (by omega) fun x _ => bo (isint x) rfl) ?_
    simp
  have tm : m_Grid_times ⟨g, n⟩ (Sq.T eI v) = some (g.map fun r => dotL r v) := by
    unfold m_Grid_times
    rw [if_neg (by show ¬ (!decide ((v.length : Int) = (n : Int))) = true; rw [hv]; simp)]
    refine bo (lcA_of (g := fun r : List Int => dotL r v) (by show g.length ≤ _; rw [o.len]; omega) fun r hr => ?_) rfl
    exact bo (dot_l (p := Sq.T eI r) (q := Sq.T eI v) (fun x hx => Nat.lt_of_le_of_lt (o.bd r hr x hx) (by decide)) (by show r.length ≤ _; rw [o.row r hr]; omega)) rfl
  unfold m_Lattice_norm
  refine bo (x := nrm g v) ?_ rfl
  unfold m_Lattice_product
  refine bo cn (bo (x := false) ?_ ?_)
  · rw [if_neg (by simp)]
    exact bo cn rfl
  · rw [if_neg (by simp)]
    exact bo tm (bo (dot_l (p := Sq.T eI v) (q := Sq.T eI (g.map fun r => dotL r v)) hb (by show v.length ≤ _; omega)) rfl)
/-! ### products of matrices -/
theorem zip_rng {xs ys : List Int} {n : Nat} (h1 : xs.length = n) (h2 : ys.length = n) : List.zip xs ys = (List.range n).map fun k => (xs.getD k 0, ys.getD k 0) := by
  refine List.ext_getElem (by simp [h1, h2]) fun i q1 q2 => ?_
  simp at q2
  rw [List.getElem_zip, List.getElem_map, List.getElem_range, List.getD_eq_getElem?_getD, List.getD_eq_getElem?_getD, List.getElem?_eq_getElem (by omega), List.getElem?_eq_getElem (by omega)]
  rfl
theorem dotL_sum {xs ys : List Int} {n : Nat} (h1 : xs.length = n) (h2 : ys.length = n) : dotL xs ys = rsum n fun k => xs.getD k 0 * ys.getD k 0 := by
  unfold dotL rsum
  rw [zip_rng h1 h2, List.map_map]
  rfl
theorem map_rng {α β : Type} {xs : List α} {n : Nat} {f : α → β} (d : α) (h : xs.length = n) : xs.map f = (List.range n).map fun i => f (xs.getD i d) := by
  refine List.ext_getElem (by simp [h]) fun i q1 q2 => ?_
  simp at q2
  rw [List.getElem_map, List.getElem_map, List.getElem_range, List.getD_eq_getElem?_getD, List.getElem?_eq_getElem (by omega)]
  rfl
theorem getD_mapD {α β : Type} {xs : List α} {f : α → β} {i : Nat} {d : α} {e : β} (h : i < xs.length) : (xs.map f).getD i e = f (xs.getD i d) := by
  rw [List.getD_eq_getElem?_getD, List.getD_eq_getElem?_getD, List.getElem?_map, List.getElem?_eq_getElem h]
  rfl
theorem gen_ext {m n : Nat} {f g : Nat → Nat → Int} (h : ∀ i j, i < m → j < n → f i j = g i j) : genM m n f = genM m n g :=
  List.map_congr_left fun i hi => List.map_congr_left fun j hj => h i j (List.mem_range.mp hi) (List.mem_range.mp hj)
theorem gen_en {m n : Nat} {t : Tb} (s : Sz m n t) : t = genM m n fun i j => en t i j := by
  refine List.ext_getElem (by rw [s.len, genM_len]) fun i q1 q2 => ?_
  have hi : i < m := by rw [← s.len]; exact q1
  have e1 : t[i] = t.getD i [] := by rw [List.getD_eq_getElem?_getD, List.getElem?_eq_getElem q1]; rfl
  have e2 : (genM m n fun i j => en t i j)[i] = (genM m n fun i j => en t i j).getD i [] := by rw [List.getD_eq_getElem?_getD, List.getElem?_eq_getElem q2]; rfl
  rw [e1, e2, genM_at hi]
  refine List.ext_getElem (by rw [s.at hi, List.length_map, List.length_range]) fun j p1 p2 => ?_
  simp at p2
  rw [List.getElem_map, List.getElem_range]
  unfold en
  rw [List.getD_eq_getElem?_getD (l := t.getD i []), List.getElem?_eq_getElem p1]
  rfl
theorem mat_ext {m n : Nat} {t u : Tb} (s : Sz m n t) (s' : Sz m n u) (h : ∀ i j, i < m → j < n → en t i j = en u i j) : t = u := by
  rw [gen_en s, gen_en s']
  exact gen_ext h
theorem gen_sz {m n : Nat} {f : Nat → Nat → Int} : Sz m n (genM m n f) := ⟨genM_len, genM_row⟩
theorem Sz.sq {n : Nat} {t : Tb} (s : Sz n n t) : SqM n t := ⟨s.len, s.row⟩
theorem SqM.sz {n : Nat} {t : Tb} (s : SqM n t) : Sz n n t := ⟨s.len, s.row⟩
theorem LatOk.sz {n : Nat} {g : Tb} (o : LatOk n g) : Sz n n g := ⟨o.len, o.row⟩
/-- Grid * Grid -/
theorem mul_ok {m n w : Nat} {a b : Tb} (sa : Sz m n a) (sb : Sz n w b) (hm : m ≤ 1000) (hn : n ≤ 1000) (hw : w ≤ 1000) (ba : ∀ x ∈ a, ∀ y ∈ x, y.natAbs < 2 ^ 64) : m_Grid_mul ⟨a, n⟩ ⟨b, w⟩ = some ⟨mulM a b w, w⟩ := by
  unfold m_Grid_mul
  rw [if_neg (by show ¬ (!decide ((n : Int) = (b.length : Int))) = true; rw [sb.len]; simp)]
  refine bo (rngO_nat (by omega)) ?_
  refine bo (lcA_of (g := fun x : Int => b.map fun r => r.getD x.toNat 0) (by rw [rng_len]; omega) fun x hx => ?_) ?_
  · obtain ⟨j, hj, rfl⟩ := mem_rng.mp hx
    exact bo (lcA_of (g := fun r : List Int => r.getD (j : Int).toNat 0) (by show b.length ≤ _; rw [sb.len]; omega) fun r hr => bo (getD_at (by rw [sb.row r hr]; exact hj)) rfl) rfl
  · refine bo (lcA_of (g := fun r : List Int => ((rng (w : Int)).map fun x : Int => b.map fun r => r.getD x.toNat 0).map fun c => dotL r c) (by show a.length ≤ _; rw [sa.len]; omega) fun r hr => ?_) ?_
    · refine bo (lcA_of (g := fun c : List Int => dotL r c) (by rw [List.length_map, rng_len]; omega) fun c hc => ?_) rfl
      exact bo (dot_l (p := Sq.T eI r) (q := Sq.L eI c) (ba r hr) (by show r.length ≤ _; rw [sa.row r hr]; omega)) rfl
    · have e : (a.map fun r : List Int => ((rng (w : Int)).map fun x : Int => b.map fun r => r.getD x.toNat 0).map fun c => dotL r c) = mulM a b w := by
        unfold mulM genM
        rw [map_rng (n := a.length) [] rfl]
        refine List.map_congr_left fun i hi => ?_
        have him : i < m := by rw [← sa.len]; exact List.mem_range.mp hi
        rw [List.map_map, rng_map]
        refine List.map_congr_left fun j hj => ?_
        have hjw := List.mem_range.mp hj
        show dotL (a.getD i []) (b.map fun r => r.getD (j : Int).toNat 0) = mulE a b b.length i j
        rw [dotL_sum (n := n) (sa.at him) (by rw [List.length_map, sb.len]), sb.len]
        refine rsum_congr fun k hk => ?_
        rw [getD_mapD (d := []) (by rw [sb.len]; exact hk)]
        rfl
      rw [e]
      refine bo (mk2_of (g := mulM a b w) (n := w) ?_ (by unfold mulM; rw [genM_len, sa.len]; exact hm) hw (by unfold mulM; exact genM_row)) rfl
      show ((mulM a b w).map (Sq.L eI)).map (fun p : Sq eI => p.xs) = _
      rw [List.map_map]
      exact List.map_id' _
theorem trans_ok {m n : Nat} {a : Tb} (sa : Sz m n a) (hm : m ≤ 1000) (hn : n ≤ 1000) : m_Grid_transposed ⟨a, n⟩ = some ⟨trM a n, m⟩ := by
  unfold m_Grid_transposed
  refine bo (rngO_nat (by omega)) ?_
  refine bo (lcA_of (g := fun x : Int => a.map fun r => r.getD x.toNat 0) (by rw [rng_len]; omega) fun x hx => ?_) ?_
  · obtain ⟨j, hj, rfl⟩ := mem_rng.mp hx
    exact bo (lcA_of (g := fun r : List Int => r.getD (j : Int).toNat 0) (by show a.length ≤ _; rw [sa.len]; omega) fun r hr => bo (getD_at (by rw [sa.row r hr]; exact hj)) rfl) rfl
  · have e : ((rng (n : Int)).map fun x : Int => a.map fun r => r.getD x.toNat 0) = trM a n := by
      unfold trM genM
      rw [rng_map]
      refine List.map_congr_left fun j hj => ?_
      rw [map_rng (n := a.length) [] rfl]
      rfl
    rw [e]
    show (mk_Grid2 _ (a.length : Int)).bind _ = _
    rw [sa.len]
    refine bo (mk2_of (g := trM a n) (n := m) ?_ (by unfold trM; rw [genM_len]; exact hn) hm (by unfold trM; rw [sa.len]; exact genM_row)) rfl
    show ((trM a n).map (Sq.L eI)).map (fun p : Sq eI => p.xs) = _
    rw [List.map_map]
    exact List.map_id' _
theorem mul_sz {m n w : Nat} {a b : Tb} (sa : Sz m n a) : Sz m w (mulM a b w) := by
  unfold mulM
  rw [sa.len]
  exact gen_sz
theorem tr_sz {m n : Nat} {a : Tb} (sa : Sz m n a) : Sz n m (trM a n) := by
  unfold trM
  rw [sa.len]
  exact gen_sz
theorem en_mul {m n w : Nat} {a b : Tb} (sa : Sz m n a) (sb : Sz n w b) {i j : Nat} (hi : i < m) (hj : j < w) : en (mulM a b w) i j = rsum n fun k => en a i k * en b k j := by
  unfold mulM
  rw [en_gen (by rw [sa.len]; exact hi) hj]
  unfold mulE
  rw [sb.len]
  rfl
theorem en_tr {m n : Nat} {a : Tb} (sa : Sz m n a) {i j : Nat} (hi : i < n) (hj : j < m) : en (trM a n) i j = en a j i := by
  unfold trM
  rw [en_gen hi (by rw [sa.len]; exact hj)]
theorem mov_eq {m n : Nat} {g u : Tb} (sg : Sz n n g) (su : Sz m n u) : mulM (mulM u g n) (trM u n) m = movM n m g u := by
  refine mat_ext (mul_sz (mul_sz su)) gen_sz fun k l hk hl => ?_
  rw [en_mul (mul_sz su) (tr_sz su) hk hl, movM, en_gen hk hl]
  have e : (rsum n fun j => en (mulM u g n) k j * en (trM u n) j l) = rsum n fun j => rsum n fun i => en u k i * en g i j * en u l j := rsum_congr fun j hj => by
    rw [en_mul su sg hk hj, en_tr su hj hl, ← rsum_mulr]
  rw [e, rsum_swap]
  rfl
theorem mov_sz {m n : Nat} {g u : Tb} : Sz m m (movM n m g u) := gen_sz
theorem mov_sym {m n : Nat} {g u : Tb} (sy : ∀ i j, i < n → j < n → en g i j = en g j i) : ∀ i j, i < m → j < m → en (movM n m g u) i j = en (movM n m g u) j i := fun i j hi hj => by
  rw [movM, en_gen hi hj, en_gen hj hi]
  unfold bil
  rw [rsum_swap]
  refine rsum_congr fun k hk => rsum_congr fun l hl => ?_
  rw [sy l k hl hk]
  grind
theorem bil_abs {n : Nat} {g : Tb} {v w : Nat → Int} {X Y : Nat} (hv : ∀ i, i < n → (v i).natAbs ≤ X) (hw : ∀ i, i < n → (w i).natAbs ≤ X) (hg : ∀ i j, i < n → j < n → (en g i j).natAbs ≤ Y) : (bil n g v w).natAbs ≤ n * (n * (X * Y * X)) := by
  unfold bil
  refine rsum_abs fun i hi => rsum_abs fun j hj => ?_
  rw [Int.natAbs_mul, Int.natAbs_mul]
  exact Nat.mul_le_mul (Nat.mul_le_mul (hv i hi) (hg i j hi hj)) (hw j hj)
theorem LatOk.symE {n : Nat} {g : Tb} (o : LatOk n g) : ∀ i j, i < n → j < n → en g i j = en g j i := o.sym
/-- the moved form of independent rows is what Lattice(..) asks -/
theorem lat_mov {m n : Nat} {g u : Tb} {X Y : Nat} (o : LatOk n g) (n3 : n ≤ 3) (m1 : 1 ≤ m) (m3 : m ≤ 3) (su : Sz m n u) (hi : Ind m n u) (hg : Bd Y g) (hu : Bd X u) (hXY : n * (n * (X * Y * X)) ≤ 10000) : LatOk m (movM n m g u) := by
  refine pd_lat m1 m3 mov_sz.sq (mov_sym o.symE) ?_ ((lat_pd o n3).mov hi)
  refine bd_of (mov_sz (n := n) (g := g) (u := u)) fun k hk y hy => ?_
  rw [movM, genM_at hk] at hy
  obtain ⟨l, hl, rfl⟩ := List.mem_map.mp hy
  exact Nat.le_trans (bil_abs (fun i _ => hu.en su hk) (fun i _ => hu.en su (List.mem_range.mp hl)) fun i j hi _ => hg.en o.sz hi) hXY
theorem ind_of_bar {n : Nat} {u : Tb} (s : SqM n u) (hn : n ≤ 4) (h : bar u ≠ 0) : Ind n n u := fun x hx l hl => by
  have z := adj_r s hn
  have e : (rsum n fun j => (rsum n fun k => x k * en u k j) * en (adjM u n) j l) = x l * bar u := by
    have e1 : (rsum n fun j => (rsum n fun k => x k * en u k j) * en (adjM u n) j l) = rsum n fun k => x k * en (prodM u (adjM u n) n) k l := by
      have : (rsum n fun j => (rsum n fun k => x k * en u k j) * en (adjM u n) j l) = rsum n fun j => rsum n fun k => x k * en u k j * en (adjM u n) j l := rsum_congr fun j _ => (rsum_mulr).symm
      rw [this, rsum_swap]
      refine rsum_congr fun k hk => ?_
      unfold prodM
      rw [en_gen (by rw [s.len]; exact hk) hl]
      unfold mulE
      rw [show (adjM u n).length = n from genM_len]
      show _ = x k * rsum n fun j => en u k j * en (adjM u n) j l
      rw [← rsum_mul]
      exact rsum_congr fun j _ => Int.mul_assoc ..
    rw [e1, z]
    have e2 : (rsum n fun k => x k * en (scal n (bar u)) k l) = rsum n fun k => if k = l then x k * bar u else 0 := rsum_congr fun k hk => by
      unfold scal
      rw [en_gen hk hl]
      split <;> simp
    rw [e2, rsum_ite hl (f := fun k => x k * bar u)]
  have e0 : (rsum n fun j => (rsum n fun k => x k * en u k j) * en (adjM u n) j l) = 0 := by
    rw [rsum_congr (g := fun _ => 0) fun j hj => by rw [hx j hj, Int.zero_mul], rsum_nil]
  rw [e0] at e
  rcases Int.mul_eq_zero.mp e.symm with h' | h'
  · exact h'
  · exact absurd h' h
theorem bar_mov {n : Nat} {g u : Tb} (sg : SqM n g) (su : SqM n u) (hn : n ≤ 4) : bar (movM n n g u) = bar u * bar g * bar u := by
  rw [← mov_eq sg.sz su.sz, bar_mul (mul_sz su.sz).sq (tr_sz su.sz).sq hn, bar_mul su sg hn, bar_tr su hn]
/-- dependent rows: the form's determinant is 0 -/
theorem bar_dep {m n : Nat} {g u : Tb} (m4 : m ≤ 4) (h : ¬ Ind m n u) : bar (movM n m g u) = 0 := Classical.byContradiction fun hb => h fun x hx => by
  refine ind_of_bar mov_sz.sq m4 hb x fun j hj => ?_
  have e := bil_mov (m := m) (n := n) (g := g) (R := u) (x := x) (y := fun l => if l = j then 1 else 0)
  have e1 : bil m (movM n m g u) x (fun l => if l = j then 1 else 0) = rsum m fun k => x k * en (movM n m g u) k j := rsum_congr fun k _ => by
    have : (rsum m fun l => x k * en (movM n m g u) k l * if l = j then 1 else 0) = rsum m fun l => if l = j then x k * en (movM n m g u) k l else 0 := rsum_congr fun l _ => by split <;> simp
    rw [this, rsum_ite hj (f := fun l => x k * en (movM n m g u) k l)]
  rw [e1] at e
  rw [e]
  unfold bil
  rw [rsum_congr (g := fun _ => 0) fun i hi => ?_, rsum_nil]
  rw [rsum_congr (g := fun _ => 0) fun j' _ => (by
    show (rsum m fun k => x k * en u k i) * en g i j' * _ = 0
    rw [hx i hi, Int.zero_mul, Int.zero_mul]), rsum_nil]
theorem LatOk.bar1 {n : Nat} {g : Tb} (o : LatOk n g) : 1 ≤ bar g := by
  have z := o.pos n o.n1 (Nat.le_refl _)
  have e : (g.take n).map (fun r => r.take n) = g := by
    rw [List.take_of_length_le (by rw [o.len]; exact Nat.le_refl _)]
    refine (List.map_congr_left fun r hr => ?_).trans (List.map_id _)
    rw [List.take_of_length_le (by rw [o.row r hr]; exact Nat.le_refl _)]
    rfl
  rw [e] at z
  exact z
end G
set_option Elab.async false
set_option linter.all false
set_option maxRecDepth 100000
set_option maxHeartbeats 4000000
/-! steps of rows and determinants; the laws' unimodular matrices, products, determinants -/
namespace G
def elM (n k i : Nat) (q : Int) : Tb := genM n n fun a b => (if a = b then 1 else 0) - (if a = k ∧ b = i then q else 0)
def swM (n k i : Nat) : Tb := genM n n fun a b => if a = i then (if b = k then 1 else 0) else if a = k then (if b = i then 1 else 0) else if a = b then 1 else 0
def ngM (n k : Nat) : Tb := genM n n fun a b => if a = b then (if a = k then -1 else 1) else 0
theorem below {n : Nat} {P : Nat → Prop} (h : ∀ k, k < 5 → P k) (hn : n ≤ 4) : P n := h n (by omega)
theorem bar_el {n k i : Nat} {q : Int} (hn : n ≤ 4) (hk : k < n) (hi : i < n) (hne : k ≠ i) : bar (elM n k i q) = 1 := by
  have hc : n = 2 ∨ n = 3 ∨ n = 4 := by omega
  rcases hc with rfl | rfl | rfl
  · have h1 : k = 0 ∨ k = 1 := by omega
    have h2 : i = 0 ∨ i = 1 := by omega
    rcases h1 with rfl | rfl <;> rcases h2 with rfl | rfl <;> first | (exact absurd rfl hne) | (simp [elM, genM, List.range_succ, bar2])
  · have h1 : k = 0 ∨ k = 1 ∨ k = 2 := by omega
    have h2 : i = 0 ∨ i = 1 ∨ i = 2 := by omega
    rcases h1 with rfl | rfl | rfl <;> rcases h2 with rfl | rfl | rfl <;> first | (exact absurd rfl hne) | (simp [elM, genM, List.range_succ, bar3, det3])
  · have h1 : k = 0 ∨ k = 1 ∨ k = 2 ∨ k = 3 := by omega
    have h2 : i = 0 ∨ i = 1 ∨ i = 2 ∨ i = 3 := by omega
    rcases h1 with rfl | rfl | rfl | rfl <;> rcases h2 with rfl | rfl | rfl | rfl <;> first | (exact absurd rfl hne) | (simp [elM, genM, List.range_succ, bar4, det4, det3])
theorem chk_sw : ((List.range 5).all fun n => (List.range n).all fun k => (List.range n).all fun i => decide ((bar (swM n k i)).natAbs = 1)) = true := by decide +kernel
theorem chk_ng : ((List.range 5).all fun n => (List.range n).all fun k => decide ((bar (ngM n k)).natAbs = 1)) = true := by decide +kernel
theorem chk_un : ((List.range 5).all fun n => decide (bar (unitM n) = 1)) = true := by decide +kernel
theorem bar_sw {n k i : Nat} (hn : n ≤ 4) (hk : k < n) (hi : i < n) : (bar (swM n k i)).natAbs = 1 := by
  have z := chk_sw
  simp only [List.all_eq_true, decide_eq_true_eq, List.mem_range] at z
  exact z n (by omega) k hk i hi
theorem bar_ng {n k : Nat} (hn : n ≤ 4) (hk : k < n) : (bar (ngM n k)).natAbs = 1 := by
  have z := chk_ng
  simp only [List.all_eq_true, decide_eq_true_eq, List.mem_range] at z
  exact z n (by omega) k hk
theorem bar_un {n : Nat} (hn : n ≤ 4) : bar (unitM n) = 1 := by
  have z := chk_un
  simp only [List.all_eq_true, decide_eq_true_eq, List.mem_range] at z
  exact z n (by omega)
theorem el_sz {n k i : Nat} {q : Int} : Sz n n (elM n k i q) := gen_sz
theorem sw_sz {n k i : Nat} : Sz n n (swM n k i) := gen_sz
theorem ng_sz {n k : Nat} : Sz n n (ngM n k) := gen_sz
theorem rsum_one {n k : Nat} {f : Nat → Int} (hk : k < n) : (rsum n fun j => (if k = j then 1 else 0) * f j) = f k := by
  rw [rsum_congr (g := fun j => if j = k then f j else 0) fun j _ => by
    by_cases h : k = j
    · rw [if_pos h, if_pos h.symm, Int.one_mul]
    · rw [if_neg h, if_neg (fun z => h z.symm), Int.zero_mul], rsum_ite hk]
theorem el_mul {n k i : Nat} {q : Int} {B : Tb} (s : Sz n n B) (hk : k < n) (hi : i < n) : B.set k (lessL (B.getD k []) q (B.getD i [])) = mulM (elM n k i q) B n := by
  refine mat_ext (s.set (by rw [lessL_len (by rw [s.at hk, s.at hi]), s.at hk])) (mul_sz gen_sz) fun a b ha hb => ?_
  rw [s.en_set hk, lessL_at (by rw [s.at hk, s.at hi]), en_mul el_sz s ha hb]
  have e : (rsum n fun j => en (elM n k i q) a j * en B j b) = rsum n (fun j => (if a = j then 1 else 0) * en B j b) - if a = k then q * en B i b else 0 := by
    have : (rsum n fun j => en (elM n k i q) a j * en B j b) = rsum n (fun j => (if a = j then 1 else 0) * en B j b) + rsum n fun j => if j = i then (if a = k then -q else 0) * en B j b else 0 := by
      rw [← rsum_add]
      refine rsum_congr fun j hj => ?_
      unfold elM
      rw [en_gen ha hj]
      show ((if a = j then (1 : Int) else 0) - (if a = k ∧ j = i then q else 0)) * en B j b = _
      by_cases h1 : j = i <;> by_cases h2 : a = k <;> simp only [h1, h2, if_true, if_false, and_true, true_and, and_false, false_and, and_self] <;> grind
    rw [this, rsum_ite hi (f := fun j => (if a = k then -q else 0) * en B j b)]
    split <;> grind
  rw [e, rsum_one ha]
  by_cases h : a = k
  · subst h
    rw [if_pos rfl, if_pos rfl]
    rfl
  · rw [if_neg h, if_neg h, Int.sub_zero]
theorem sw_mul {n k i : Nat} {B : Tb} (s : Sz n n B) (hk : k < n) (hi : i < n) : (B.set k (B.getD i [])).set i (B.getD k []) = mulM (swM n k i) B n := by
  have s1 := s.set (k := k) (s.at hi)
  refine mat_ext (s1.set (s.at hk)) (mul_sz gen_sz) fun a b ha hb => ?_
  rw [s1.en_set hi, s.en_set hk, en_mul sw_sz s ha hb]
  rw [rsum_congr (g := fun j => (if (if a = i then k else if a = k then i else a) = j then 1 else 0) * en B j b) fun j hj => ?_]
  · by_cases h1 : a = i
    · simp only [if_pos h1]
      rw [rsum_one hk]
      rfl
    · simp only [if_neg h1]
      by_cases h2 : a = k
      · simp only [if_pos h2]
        rw [rsum_one hi]
        rfl
      · simp only [if_neg h2]
        rw [rsum_one ha]
  · unfold swM
    rw [en_gen ha hj]
    by_cases h1 : a = i
    · simp only [if_pos h1]
      by_cases h : j = k
      · rw [if_pos h, if_pos h.symm]
      · rw [if_neg h, if_neg (fun z => h z.symm)]
    · simp only [if_neg h1]
      by_cases h2 : a = k
      · simp only [if_pos h2]
        by_cases h : j = i
        · rw [if_pos h, if_pos h.symm]
        · rw [if_neg h, if_neg (fun z => h z.symm)]
      · simp only [if_neg h2]
theorem ng_mul {n k : Nat} {B : Tb} (s : Sz n n B) (hk : k < n) : B.set k (negL (B.getD k [])) = mulM (ngM n k) B n := by
  refine mat_ext (s.set (by rw [negL_len, s.at hk])) (mul_sz gen_sz) fun a b ha hb => ?_
  rw [s.en_set hk, negL_at, en_mul ng_sz s ha hb]
  rw [rsum_congr (g := fun j => (if a = k then -1 else 1) * ((if a = j then 1 else 0) * en B j b)) fun j hj => ?_, rsum_mul, rsum_one ha]
  · by_cases h : a = k
    · subst h
      rw [if_pos rfl, if_pos rfl]
      show -en B a b = _
      omega
    · rw [if_neg h, if_neg h, Int.one_mul]
  · unfold ngM
    rw [en_gen ha hj]
    by_cases h : a = j
    · rw [if_pos h, if_pos h]; grind
    · rw [if_neg h, if_neg h]; grind
theorem Rch.bar {n : Nat} {A B : Tb} (h : Rch n A B) (s : Sz n n A) (hn : n ≤ 4) : (G.bar B).natAbs = (G.bar A).natAbs := by
  induction h with
  | refl => rfl
  | @add B k i q hr a b c ih =>
    have sB := hr.sz s
    rw [el_mul sB a b, bar_mul el_sz.sq sB.sq hn, bar_el hn a b c, Int.one_mul, ih]
  | @swap B k i hr a b ih =>
    have sB := hr.sz s
    rw [sw_mul sB a b, bar_mul sw_sz.sq sB.sq hn, Int.natAbs_mul, bar_sw hn a b, Nat.one_mul, ih]
  | @neg B k hr a ih =>
    have sB := hr.sz s
    rw [ng_mul sB a, bar_mul ng_sz.sq sB.sq hn, Int.natAbs_mul, bar_ng hn a, Nat.one_mul, ih]
theorem negL_map {r : List Int} : (r.map fun x => -x) = negL r := List.map_congr_left fun x _ => by omega
theorem uni_ex {n : Nat} {st : List Int} (n1 : 1 ≤ n) (n3 : n ≤ 4) (hst : st.length = 2) : ∃ u st', m_law_unimodular st n = some (u, st') ∧ st'.length = 2 ∧ Sz n n u ∧ Rch n (unitM n) u ∧ Bd 8 u := by
  unfold m_law_unimodular
  obtain ⟨v, s1, q1, q2, q3, q4⟩ := take_ex (m := 4) hst (by decide)
  obtain ⟨k, rfl⟩ : ∃ k : Nat, v = (k : Int) := ⟨v.toNat, by omega⟩
  have bU : Bd 1 (unitM n) := bd_of gen_sz fun k hk y hy => by
    unfold unitM at hy
    rw [genM_at hk] at hy
    obtain ⟨j, _, rfl⟩ := List.mem_map.mp hy
    split <;> decide
  obtain ⟨t, h1, h2, h3, h4, h5⟩ := foldO_rng (body := m_law_unimodular_l1 (n : Int)) (n := k) (s := (s1, unitM n)) (fun i z => z.1.length = 2 ∧ Sz n n z.2 ∧ Rch n (unitM n) z.2 ∧ Bd (2 ^ i) z.2) ⟨q2, gen_sz, .refl _, bU⟩ fun i z hi ⟨z1, z2, z3, z4⟩ => by
    obtain ⟨a, t1, a1, a2, a3, a4⟩ := take_ex (m := n) z1 (by omega)
    obtain ⟨b, t2, b1, b2, b3, b4⟩ := take_ex (m := n) a2 (by omega)
    obtain ⟨c, t3, c1, c2, c3, c4⟩ := take_ex (m := 3) b2 (by decide)
    obtain ⟨a, rfl⟩ : ∃ x : Nat, a = (x : Int) := ⟨a.toNat, by omega⟩
    obtain ⟨b, rfl⟩ : ∃ x : Nat, b = (x : Int) := ⟨b.toNat, by omega⟩
    have ha : a < n := by omega
    have hb : b < n := by omega
    have p2 : 2 ^ i ≤ 2 ^ (i + 1) := Nat.pow_le_pow_right (by omega) (by omega)
    by_cases hab : a = b
    · subst hab
      refine ⟨(t3, z.2.set a (negL (z.2.getD a []))), ?_, c2, z2.set (by rw [negL_len, z2.at ha]), .neg a z3 ha, ?_⟩
      · unfold m_law_unimodular_l1
        refine bo a1 (bo b1 (bo c1 ?_))
        rw [if_pos (by simp)]
        refine bo (z2.atI ha) (bo (lcA_of (g := fun x => -x) (by rw [z2.at ha]; omega) fun x _ => rfl) (bo (x := z.2.set a (negL (z.2.getD a []))) ?_ rfl))
        rw [negL_map]
        exact setO_nat (by rw [z2.len]; exact ha)
      · refine bd_of (z2.set (by rw [negL_len, z2.at ha])) fun l hl y hy => ?_
        rw [getD_set (by rw [z2.len]; exact ha)] at hy
        split at hy
        · exact Nat.le_trans (negL_bd (z4.row z2 ha) y hy) p2
        · exact Nat.le_trans (z4.row z2 hl y hy) p2
    · have hlen : (lessL (z.2.getD a []) (-(c - 1)) (z.2.getD b [])).length = n := by rw [lessL_len (by rw [z2.at ha, z2.at hb]), z2.at ha]
      refine ⟨(t3, z.2.set a (lessL (z.2.getD a []) (-(c - 1)) (z.2.getD b []))), ?_, c2, z2.set hlen, .add a b _ z3 ha hb hab, ?_⟩
      · unfold m_law_unimodular_l1
        refine bo a1 (bo b1 (bo c1 ?_))
        rw [if_neg (by simp; omega)]
        refine bo (rngO_nat (by omega)) (bo (lcA_of (g := fun x : Int => en z.2 a x.toNat + (c - 1) * en z.2 b x.toNat) (by rw [rng_len]; omega) fun x hx => ?_) (bo (x := z.2.set a (lessL (z.2.getD a []) (-(c - 1)) (z.2.getD b []))) ?_ rfl))
        · obtain ⟨j, hj, rfl⟩ := mem_rng.mp hx
          exact bo (z2.atI ha) (bo (z2.atI2 ha hj) (bo (z2.atI hb) (bo (z2.atI2 hb hj) (bo (mulO_l (by omega)) rfl))))
        · rw [setO_nat (by rw [z2.len]; exact ha), rng_map]
          refine congrArg (fun r => some (z.2.set a r)) (List.ext_getElem (by rw [hlen, List.length_map, List.length_range]) fun j p1 p2 => ?_)
          have hj : j < n := by simpa using p1
          rw [List.getElem_map, List.getElem_range]
          have e := lessL_at (q := -(c - 1)) (r := z.2.getD a []) (o := z.2.getD b []) (j := j) (by rw [z2.at ha, z2.at hb])
          rw [List.getD_eq_getElem?_getD, List.getElem?_eq_getElem p2] at e
          have e' : (lessL (z.2.getD a []) (-(c - 1)) (z.2.getD b []))[j] = (z.2.getD a []).getD j 0 - -(c - 1) * (z.2.getD b []).getD j 0 := e
          rw [e']
          show en z.2 a j + (c - 1) * en z.2 b j = en z.2 a j - -(c - 1) * en z.2 b j
          grind
      · refine bd_of (z2.set hlen) fun l hl y hy => ?_
        rw [getD_set (by rw [z2.len]; exact ha)] at hy
        split at hy
        · have := lessL_bd (C := 1) (z4.row z2 ha) (z4.row z2 hb) (by omega) y hy
          rw [Nat.pow_succ]
          omega
        · exact Nat.le_trans (z4.row z2 hl y hy) p2
  refine ⟨t.2, t.1, ?_, h2, h3, h4, h5.mono ?_⟩
  · refine bo (rngO_nat (by omega)) (bo (x := unitM n) ?_ (bo q1 (bo (rngO_nat (by omega)) (bo h1 rfl))))
    rw [lcA_of (g := fun x : Int => (rng (n : Int)).map fun y => if decide (x = y) then (1 : Int) else 0) (by rw [rng_len]; omega) fun x hx => bo (rngO_nat (by omega)) (bo (lcA_of (g := fun y => if decide (x = y) then (1 : Int) else 0) (by rw [rng_len]; omega) fun y _ => rfl) rfl)]
    refine congrArg some ?_
    unfold unitM genM
    rw [rng_map]
    refine List.map_congr_left fun i _ => ?_
    rw [rng_map]
    refine List.map_congr_left fun j _ => ?_
    by_cases h : i = j
    · show (if decide ((i : Int) = (j : Int)) then (1 : Int) else 0) = if i = j then 1 else 0
      rw [if_pos (by simp [h]), if_pos h]
    · show (if decide ((i : Int) = (j : Int)) then (1 : Int) else 0) = if i = j then 1 else 0
      rw [if_neg (by simp; omega), if_neg h]
  · have : k ≤ 3 := by omega
    calc 2 ^ k ≤ 2 ^ 3 := Nat.pow_le_pow_right (by omega) this
      _ = 8 := by decide
/-! ### the law's products -/
theorem product_ok {m n : Nat} {g : Tb} {v w : List Int} (s : Sz n n g) (hn : n ≤ 1000) (hv : v.length = n) (hw : w.length = n) (bv : ∀ x ∈ v, x.natAbs < 2 ^ 64) (bw : ∀ x ∈ w, x.natAbs < 2 ^ 64) : m_law_product g v w = some (bil n g (fun i => v.getD i 0) fun j => w.getD j 0) := by
  unfold m_law_product
  rw [hv]
  refine bo (rngO_nat (by omega)) ?_
  obtain ⟨t, h1, h2⟩ := foldO_rng (body := m_law_product_l1 g v w) (n := n) (s := (0 : Int)) (fun i z => z = rsum i fun i => rsum n fun j => v.getD i 0 * en g i j * w.getD j 0) rfl fun i z hi hz => by
    subst hz
    obtain ⟨t, h1, h2⟩ := foldO_rng (body := m_law_product_l2 g v w (i : Int)) (n := n) (s := rsum i fun i => rsum n fun j => v.getD i 0 * en g i j * w.getD j 0) (fun j z => z = (rsum i fun i => rsum n fun j => v.getD i 0 * en g i j * w.getD j 0) + rsum j fun j => v.getD i 0 * en g i j * w.getD j 0) (by rw [rsum_zero, Int.add_zero]) fun j z hj hz => by
      subst hz
      refine ⟨_, ?_, rfl⟩
      unfold m_law_product_l2
      have mv : v.getD i 0 ∈ v := getD_mem (by rw [hv]; exact hi)
      have mw : w.getD j 0 ∈ w := getD_mem (by rw [hw]; exact hj)
      refine bo (getD_at (by rw [hv]; exact hi)) (bo (s.atI hi) (bo (s.atI2 hi hj) (bo (mulO_l (bv _ mv)) (bo (getD_at (by rw [hw]; exact hj)) (bo (mulO_r (bw _ mw)) ?_)))))
      rw [rsum_succ, Int.add_assoc]
      rfl
    refine ⟨t, ?_, by rw [h2, rsum_succ]⟩
    unfold m_law_product_l1
    rw [hw]
    exact bo (rngO_nat (by omega)) (bo h1 rfl)
  refine bo h1 ?_
  rw [h2]
  rfl
theorem productT_eq : m_law_product_T = m_law_product := rfl
theorem en_fun {t : Tb} {k : Nat} : (fun j => (t.getD k []).getD j 0) = en t k := rfl
theorem moved_ok {m n : Nat} {g u : Tb} (s : Sz n n g) (hn : n ≤ 1000) (su : Sz m n u) (hm : m ≤ 1000) (bu : ∀ x ∈ u, ∀ y ∈ x, y.natAbs < 2 ^ 64) : m_law_moved g u = some (movM n m g u) := by
  unfold m_law_moved
  refine bo (x := movM n m g u) ?_ rfl
  rw [lcA_of (g := fun r : List Int => u.map fun c : List Int => bil n g (fun i => r.getD i 0) fun j => c.getD j 0) (by rw [su.len]; omega) fun r hr => bo (lcA_of (g := fun c : List Int => bil n g (fun i => r.getD i 0) fun j => c.getD j 0) (by rw [su.len]; omega) fun c hc => bo (product_ok (m := m) s hn (su.row r hr) (su.row c hc) (bu r hr) (bu c hc)) rfl) rfl]
  refine congrArg some ?_
  unfold movM genM
  rw [map_rng (n := m) [] su.len]
  refine List.map_congr_left fun k hk => ?_
  rw [map_rng (n := m) [] su.len]
  rfl
/-! ### the law's determinant -/
theorem cut_to {α : Type} {xs : List α} {k : Nat} : cutL xs none (some (k : Int)) = xs.take k := cutL_take
end G
set_option Elab.async false
set_option linter.all false
set_option maxRecDepth 100000
set_option maxHeartbeats 4000000
/-! the law's determinant; Lattice.changed, Lattice.spanned -/
namespace G
theorem cut_from1 {α : Type} {xs : List α} {k : Nat} : cutL xs (some ((k : Int) + 1)) none = xs.drop (k + 1) := by
  unfold cutL
  have e1 : HT.sIx xs.length 0 (some ((k : Int) + 1)) = min (k + 1) xs.length := by
    exact HT.sIx_nat xs.length 0 (k + 1)
  have e2 : HT.sIx xs.length xs.length none = xs.length := rfl
  rw [e1, e2]
  by_cases hk : k + 1 ≤ xs.length
  · rw [Nat.min_eq_left hk, List.take_of_length_le (by simp)]
  · rw [Nat.min_eq_right (by omega), List.drop_of_length_le (by omega), List.drop_of_length_le (by omega)]
    simp
theorem catO_ok {α : Type} {xs ys : List α} (h : xs.length + ys.length ≤ 100000) : catO xs ys = some (xs ++ ys) := by
  unfold catO
  rw [if_pos h]
theorem minor_ok {m n x : Nat} {t : Tb} (s : Sz m n t) (hm : m ≤ 1000) (hn : n ≤ 1000) : m_law_minor t (0 : Int) (x : Int) = some (restR t x) := by
  unfold m_law_minor
  have e0 : cutL t none (some (0 : Int)) = [] := by
    have := cutL_take (xs := t) (k := 0)
    rw [show ((0 : Nat) : Int) = 0 from rfl] at this
    rw [this]
    rfl
  have e1 : cutL t (some ((0 : Int) + 1)) none = t.tail := by
    have := cut_from1 (xs := t) (k := 0)
    rw [show ((0 : Nat) : Int) = 0 from rfl] at this
    rw [this]
    simp
  rw [e0, e1]
  have hl := s.len
  refine bo (catO_ok (by simp; omega)) ?_
  refine bo (lcA_of (g := fun r => delC r x) (by simp; omega) fun r hr => ?_) rfl
  have hr' : r ∈ t := List.mem_of_mem_tail (by simpa using hr)
  rw [cutL_take, cut_from1]
  exact bo (catO_ok (by have := s.row r hr'; simp; omega)) rfl
theorem delC_lenS {r : List Int} {x n : Nat} (h : r.length = n + 1) (hx : x < n + 1) : (delC r x).length = n := by
  unfold delC
  simp [h]
  omega
theorem rest_sz {n x : Nat} {t : Tb} (s : Sz (n + 1) (n + 1) t) (hx : x < n + 1) : Sz n n (restR t x) := ⟨by simp [restR, s.len], fun r hr => by
  unfold restR at hr
  obtain ⟨q, hq, rfl⟩ := List.mem_map.mp hr
  exact delC_lenS (s.row q (List.mem_of_mem_tail hq)) hx⟩
theorem delC_mem {r : List Int} {x : Nat} {y : Int} (h : y ∈ delC r x) : y ∈ r := by
  unfold delC at h
  rcases List.mem_append.mp h with h | h
  · exact List.mem_of_mem_take h
  · exact List.mem_of_mem_drop h
theorem sg_even {x : Nat} (h : (x : Int).fmod 2 = 0) : sg x = 1 := by unfold sg; omega
theorem sg_odd {x : Nat} (h : (x : Int).fmod 2 ≠ 0) : sg x = -1 := by
  unfold sg
  have h1 := Int.fmod_nonneg_of_pos (x : Int) (b := 2) (by decide)
  have h2 := Int.fmod_lt_of_pos (x : Int) (b := 2) (by decide)
  omega
theorem ldet_ok : ∀ (f n : Nat) (t : Tb), n < f → n ≤ 100 → Sz n n t → (∀ x ∈ t, ∀ y ∈ x, y.natAbs < 2 ^ 64) → m_law_determinant f t = some (detZ n t)
  | 0, n, t, h, _, _, _ => by omega
  | f + 1, 0, t, h, _, s, _ => by
    show m_law_determinant_s (m_law_determinant f) t = _
    unfold m_law_determinant_s
    rw [if_pos (by rw [s.len]; rfl)]
    rfl
  | f + 1, n + 1, t, h, hn, s, hb => by
    show m_law_determinant_s (m_law_determinant f) t = _
    unfold m_law_determinant_s
    rw [if_neg (by rw [s.len, decide_eq_true_eq]; omega), s.len, detZ_eq]
    refine bo (rngO_nat (by omega)) ?_
    obtain ⟨z, h1, h2⟩ := foldO_rng (body := m_law_determinant_l1 (m_law_determinant f) t) (n := n + 1) (s := (0 : Int)) (fun i z => z = rsum i fun k => sg k * en t 0 k * detZ n (restR t k)) rfl fun i z hi hz => by
      subst hz
      refine ⟨_, ?_, rfl⟩
      unfold m_law_determinant_l1
      have a0 : L2.atI t (0 : Int) = some (t.getD 0 []) := s.atI (k := 0) (by omega)
      have hrow : ∀ x ∈ restR t i, ∀ y ∈ x, y.natAbs < 2 ^ 64 := fun x hx y hy => by
        unfold restR at hx
        obtain ⟨q, hq, rfl⟩ := List.mem_map.mp hx
        exact hb q (List.mem_of_mem_tail hq) y (delC_mem hy)
      have m0 : en t 0 i ∈ t.getD 0 [] := getD_mem (by rw [s.at (k := 0) (by omega)]; exact hi)
      have b0 : (en t 0 i).natAbs < 2 ^ 64 := hb _ (getD_mem (by rw [s.len]; omega)) _ m0
      refine bo a0 (bo (s.atI2 (k := 0) (by omega) hi) (bo (minor_ok s (by omega) (by omega)) (bo (ldet_ok f n (restR t i) (by omega) (by omega) (rest_sz s hi) hrow) (bo (mulO_l b0) (bo (modO_ne (by decide)) ?_)))))
      by_cases he : (i : Int).fmod 2 = 0
      · rw [if_pos (by simpa using he)]
        refine bo rfl (congrArg some ?_)
        rw [rsum_succ, sg_even he, Int.one_mul]
      · rw [if_neg (by simpa using he)]
        refine bo rfl (congrArg some ?_)
        rw [rsum_succ, sg_odd he]
        grind
    refine bo h1 ?_
    rw [h2]
theorem ldet_bar {n : Nat} {t : Tb} (hn : n ≤ 3) (s : Sz n n t) (hb : ∀ x ∈ t, ∀ y ∈ x, y.natAbs < 2 ^ 64) : m_law_determinant 4 t = some (bar t) := by
  rw [ldet_ok 4 n t (by omega) (by omega) s hb, detZ_bar s.sq (by omega)]
theorem nrm_bil {n : Nat} {g : Tb} {v : List Int} (s : Sz n n g) (hv : v.length = n) : nrm g v = bil n g (fun i => v.getD i 0) fun j => v.getD j 0 := by
  unfold nrm
  rw [dotL_sum (n := n) hv (by rw [List.length_map, s.len])]
  refine rsum_congr fun i hi => ?_
  rw [getD_mapD (d := []) (by rw [s.len]; exact hi), dotL_sum (n := n) (s.at hi) hv, ← rsum_mul]
  refine rsum_congr fun j _ => ?_
  show v.getD i 0 * (en g i j * v.getD j 0) = v.getD i 0 * en g i j * v.getD j 0
  rw [Int.mul_assoc]
theorem bd64 {X : Nat} {t : Tb} (h : Bd X t) (hX : X < 2 ^ 64 := by decide) : ∀ x ∈ t, ∀ y ∈ x, y.natAbs < 2 ^ 64 := fun x hx y hy => Nat.lt_of_le_of_lt (h x hx y hy) hX
theorem sm100 {X : Nat} {t : Tb} (h : Bd X t) (hX : X < 2 ^ 64) : ∀ x ∈ t, Sm 100000 x := fun x hx y hy => Nat.lt_of_lt_of_le (Nat.lt_of_le_of_lt (h x hx y hy) hX) (Nat.pow_le_pow_right (by omega) (by omega))
theorem uni_sq {n X : Nat} {u : Tb} (s : Sz n n u) (hn : n ≤ 4) (h : Bd X u) (hX : X < 2 ^ 64) : m_Grid_is_unimodular ⟨u, n⟩ = some (decide ((bar u).natAbs = 1)) := by
  unfold m_Grid_is_unimodular
  refine bo (x := true) ?_ ?_
  · unfold m_Grid_is_square
    show some (decide ((u.length : Int) = (n : Int))) = _
    rw [s.len]
    simp
  · rw [if_pos rfl]
    have e : m_determinant u = some (bar u) := by
      unfold m_determinant
      rw [if_pos ⟨by rw [s.len]; exact hn, fun x hx => by rw [s.row x hx, s.len], sm100 h hX⟩]
    refine bo (x := decide ((bar u).natAbs = 1)) (bo e ?_) rfl
    refine congrArg some ?_
    by_cases hb : (bar u).natAbs = 1
    · rw [decide_eq_true hb, decide_eq_true (by split <;> omega)]
    · rw [decide_eq_false hb, decide_eq_false (by split <;> omega)]
theorem uni_no {m n : Nat} {u : Tb} (s : Sz m n u) (hne : m ≠ n) : m_Grid_is_unimodular ⟨u, n⟩ = some false := by
  unfold m_Grid_is_unimodular
  refine bo (x := false) ?_ rfl
  unfold m_Grid_is_square
  show some (decide ((u.length : Int) = (n : Int))) = _
  rw [s.len, decide_eq_false (by omega)]
theorem rank_lat {n : Nat} {g : Tb} (o : LatOk n g) : m_Lattice_rank ⟨⟨g, n⟩⟩ = some (n : Int) := by
  unfold m_Lattice_rank
  show some ((g.length : Int)) = _
  rw [o.len]
theorem moved_lat {m n X Y : Nat} {g u : Tb} (o : LatOk n g) (su : Sz m n u) (hm : m ≤ 1000) (hg : Bd Y g) (hu : Bd X u) (hX : X < 2 ^ 64) (hn : n * (X * Y) < 2 ^ 64) :
    (m_Grid_mul ⟨u, n⟩ ⟨g, n⟩ = some ⟨mulM u g n, n⟩) ∧ (m_Grid_transposed ⟨u, n⟩ = some ⟨trM u n, m⟩) ∧ m_Grid_mul ⟨mulM u g n, n⟩ ⟨trM u n, m⟩ = some ⟨movM n m g u, m⟩ := by
  have n4 := o.n4
  refine ⟨mul_ok su o.sz hm (by omega) (by omega) (bd64 hu hX), trans_ok su hm (by omega), ?_⟩
  have b : Bd (n * (X * Y)) (mulM u g n) := bd_of (mul_sz su) fun k hk y hy => by
    unfold mulM at hy
    rw [genM_at (by rw [su.len]; exact hk)] at hy
    obtain ⟨l, hl, rfl⟩ := List.mem_map.mp hy
    have hl := List.mem_range.mp hl
    unfold mulE
    rw [o.len]
    refine rsum_abs fun i hi => ?_
    rw [Int.natAbs_mul]
    exact Nat.mul_le_mul (hu.en su hk) (hg.en o.sz hi)
  rw [mul_ok (mul_sz su) (tr_sz su) hm (by omega) hm (bd64 b hn), mov_eq o.sz su]
theorem changed_ok {n X Y : Nat} {g u : Tb} (o : LatOk n g) (su : Sz n n u) (hg : Bd Y g) (hu : Bd X u) (hX : X < 2 ^ 64) (hn : n * (X * Y) < 2 ^ 64) (hb : (bar u).natAbs = 1) (o2 : LatOk n (movM n n g u)) : m_Lattice_changed ⟨⟨g, n⟩⟩ ⟨u, n⟩ = some ⟨⟨movM n n g u, n⟩⟩ := by
  obtain ⟨h1, h2, h3⟩ := moved_lat o su (by have := o.n4; omega) hg hu hX hn
  unfold m_Lattice_changed
  refine bo (x := false) ?_ ?_
  · rw [if_neg (by simp)]
    refine bo (rank_lat o) (bo (x := false) ?_ rfl)
    rw [if_neg (by simp)]
    refine bo (uni_sq su o.n4 hu hX) ?_
    rw [decide_eq_true hb]
    rfl
  · rw [if_neg Bool.false_ne_true]
    exact bo h1 (bo h2 (bo h3 (bo (lat_G o2) rfl)))
theorem changedX_mal {n m w X : Nat} {g u : Tb} (o : LatOk n g) (su : Sz m w u) (hu : Bd X u) (hX : X < 2 ^ 64) (h : w ≠ n ∨ m ≠ n ∨ (bar u).natAbs ≠ 1) : m_Lattice_changed_X ⟨⟨g, n⟩⟩ ⟨u, w⟩ = some (.er .mal) := by
  unfold m_Lattice_changed_X
  refine bo (x := true) ?_ rfl
  rw [if_neg (by simp)]
  refine bo (rank_lat o) (bo (x := true) ?_ rfl)
  by_cases hw : w = n
  · subst hw
    rw [if_neg (by simp)]
    by_cases hm : m = w
    · subst hm
      refine bo (uni_sq su o.n4 hu hX) ?_
      rw [decide_eq_false ((h.resolve_left (by simp)).resolve_left (by simp))]
      rfl
    · exact bo (uni_no su hm) rfl
  · rw [if_pos (by show (!decide ((w : Int) = (n : Int))) = true; simp; omega)]
theorem spanned_ok {m n X Y fuel : Nat} {g u : Tb} (o : LatOk n g) (su : Sz m n u) (m1 : 1 ≤ m) (hm : m ≤ 1000) (hg : Bd Y g) (hu : Bd X u) (hX : X < 2 ^ 64) (hn : n * (X * Y) < 2 ^ 64) (hr : m_Grid_rank fuel ⟨u, n⟩ = some (m : Int)) (o2 : LatOk m (movM n m g u)) : m_Lattice_spanned fuel ⟨⟨g, n⟩⟩ ⟨u, n⟩ = some ⟨⟨movM n m g u, m⟩⟩ := by
  obtain ⟨h1, h2, h3⟩ := moved_lat o su hm hg hu hX hn
  unfold m_Lattice_spanned
  refine bo (x := false) ?_ ?_
  · rw [if_neg (by simp)]
    refine bo (rank_lat o) (bo (x := false) ?_ rfl)
    rw [if_neg (by simp)]
    refine bo (x := false) ?_ rfl
    rw [if_neg (by show ¬ decide ((u.length : Int) < 1) = true; rw [su.len]; simp; omega)]
    refine bo hr ?_
    show some (!decide ((m : Int) = (u.length : Int))) = _
    rw [su.len]
    simp
  · rw [if_neg Bool.false_ne_true]
    exact bo h1 (bo h2 (bo h3 (bo (lat_G o2) rfl)))
theorem spannedX_mal {m n w fuel : Nat} {g u : Tb} (o : LatOk n g) (su : Sz m w u) (h : w ≠ n ∨ m = 0 ∨ ∃ r, m_Grid_rank fuel ⟨u, w⟩ = some r ∧ r ≠ m) : m_Lattice_spanned_X fuel ⟨⟨g, n⟩⟩ ⟨u, w⟩ = some (.er .mal) := by
  unfold m_Lattice_spanned_X
  refine bo (x := true) ?_ rfl
  rw [if_neg (by simp)]
  refine bo (rank_lat o) (bo (x := true) ?_ rfl)
  by_cases hw : w = n
  · subst hw
    rw [if_neg (by simp)]
    refine bo (x := true) ?_ rfl
    by_cases hm : m = 0
    · rw [if_pos (by show decide ((u.length : Int) < 1) = true; rw [su.len, hm]; rfl)]
    · rw [if_neg (by show ¬ decide ((u.length : Int) < 1) = true; rw [su.len]; simp; omega)]
      obtain ⟨r, h1, h2⟩ := (h.resolve_left (by simp)).resolve_left hm
      refine bo h1 ?_
      show some (!decide (r = (u.length : Int))) = _
      rw [su.len]
      simp [h2]
  · rw [if_pos (by show (!decide ((w : Int) = (n : Int))) = true; simp; omega)]
/-! ### the rank -/
def XX (m X0 : Nat) : Nat → Nat
  | 0 => X0
  | d + 1 => hstep m d (XX m X0 d) * (1 + hstep m d (XX m X0 d))
theorem lt2_step {x k : Nat} (h : x < 2 ^ k) : x * (1 + x) < 2 ^ (2 * k + 1) := by
  have h1 : 1 + x ≤ 2 ^ k := by omega
  calc x * (1 + x) ≤ x * 2 ^ k := Nat.mul_le_mul_left _ h1
    _ < 2 ^ k * 2 ^ k := Nat.mul_lt_mul_of_pos_right h (Nat.pow_pos (by omega))
    _ = 2 ^ (k + k) := (Nat.pow_add ..).symm
    _ ≤ 2 ^ (2 * k + 1) := Nat.pow_le_pow_right (by omega) (by omega)
theorem hstep_last {m d X : Nat} (h : m ≤ d + 1) : hstep m d X = X := by
  unfold hstep
  rw [if_neg (by omega)]
  simp
theorem hstep_lt {m d X k l : Nat} (h : X < 2 ^ k) (h1 : 1 + X ≤ 2 ^ l) (hX : X ≤ 1000) : hstep m d X < 2 ^ (k + l * 1000) := by
  unfold hstep
  have : (1 + X) ^ (if d + 2 ≤ m then X else 0) ≤ 2 ^ (l * 1000) := by
    calc (1 + X) ^ (if d + 2 ≤ m then X else 0) ≤ (2 ^ l) ^ (if d + 2 ≤ m then X else 0) := Nat.pow_le_pow_left h1 _
      _ = 2 ^ (l * if d + 2 ≤ m then X else 0) := (Nat.pow_mul ..).symm
      _ ≤ 2 ^ (l * 1000) := Nat.pow_le_pow_right (by omega) (Nat.mul_le_mul_left _ (by split <;> omega))
  calc X * (1 + X) ^ (if d + 2 ≤ m then X else 0) ≤ X * 2 ^ (l * 1000) := Nat.mul_le_mul_left _ this
    _ < 2 ^ k * 2 ^ (l * 1000) := Nat.mul_lt_mul_of_pos_right h (Nat.pow_pos (by omega))
    _ = 2 ^ (k + l * 1000) := (Nat.pow_add ..).symm
theorem xx_big {m d : Nat} (hm : m ≤ 3) (hd : d ≤ m + 1) : BigN (XX m 2 d) := by
  have step : ∀ {d k : Nat}, m ≤ d + 1 → XX m 2 d < 2 ^ k → XX m 2 (d + 1) < 2 ^ (2 * k + 1) := fun {d k} h h2 => by
    show hstep m d (XX m 2 d) * (1 + hstep m d (XX m 2 d)) < _
    rw [hstep_last h]
    exact lt2_step h2
  have x0 : XX m 2 0 = 2 := rfl
  have x1 : XX m 2 1 ≤ 342 := by
    show hstep m 0 2 * (1 + hstep m 0 2) ≤ 342
    unfold hstep
    split <;> decide
  have b1 : XX m 2 1 < 2 ^ 9 := Nat.lt_of_le_of_lt x1 (by decide)
  have b2 : XX m 2 2 < 2 ^ (2 * (9 + 9 * 1000) + 1) := by
    show hstep m 1 (XX m 2 1) * (1 + hstep m 1 (XX m 2 1)) < _
    exact lt2_step (hstep_lt b1 (by omega) (by omega))
  have b3 : m ≤ 3 → XX m 2 3 < 2 ^ (2 * (2 * (9 + 9 * 1000) + 1) + 1) := fun h => step (d := 2) (by omega) b2
  have b4 : m ≤ 3 → XX m 2 4 < 2 ^ (2 * (2 * (2 * (9 + 9 * 1000) + 1) + 1) + 1) := fun h => step (d := 3) (by omega) (b3 h)
  have hc : d = 0 ∨ d = 1 ∨ d = 2 ∨ d = 3 ∨ d = 4 := by omega
  rcases hc with rfl | rfl | rfl | rfl | rfl
  · exact ⟨2, by omega, show 2 < 2 ^ 2 by decide⟩
  · exact ⟨9, by omega, b1⟩
  · exact ⟨_, by omega, b2⟩
  · exact ⟨_, by omega, b3 hm⟩
  · exact ⟨_, by omega, b4 hm⟩
def fuelH (m : Nat) : Nat := 1 + XX m 2 0 + XX m 2 1 + XX m 2 2 + XX m 2 3
/-- the rank, of rows with items of at most 2 -/
theorem rank2 {m n fuel : Nat} {u : Tb} (s : Sz m n u) (hm : m ≤ 3) (hn : n ≤ 1000) (hu : Bd 2 u) (hf : fuelH m ≤ fuel) : ∃ r : Nat, m_Grid_rank fuel ⟨u, n⟩ = some (r : Int) ∧ (r = m ↔ Ind m n u) := by
  have e : ((Sq.T (fun p : Sq eI => p.d) (u.map (Sq.T eI))).xs.map (·.xs)) = u := by
    show (u.map (Sq.T eI)).map (fun p : Sq eI => p.xs) = u
    rw [List.map_map]
    exact List.map_id' _
  obtain ⟨t, pv, h1, h2, h3⟩ := herm_ok (p := Sq.T (fun p : Sq eI => p.d) (u.map (Sq.T eI))) (m := m) (w := n) (Xs := XX m 2) (fuel := fuel) hn (by omega) (by rw [e]; exact s) (by rw [e]; exact hu) (fun d _ => Nat.le_refl _) (fun d hd => xx_big hm hd) (fun d hd => by
    have hc : d = 0 ∨ d = 1 ∨ d = 2 ∨ d = 3 := by omega
    unfold fuelH at hf
    rcases hc with rfl | rfl | rfl | rfl <;> omega) (Nat.le_refl _)
  rw [e] at h2
  refine ⟨pv.length, ?_, ?_⟩
  · unfold m_Grid_rank
    exact bo h1 rfl
  · rw [h2.ind s]
    exact h3.ind.symm
end G
set_option Elab.async false
set_option linter.all false
set_option maxRecDepth 100000
set_option maxHeartbeats 4000000
/-! Cauchy and Schwarz; the adjugate's diagonal; boxes -/
namespace G
section
variable {n : Nat} {g : Tb} {v w : Nat → Int}
theorem rsum_nonneg {f : Nat → Int} (h : ∀ i, i < n → 0 ≤ f i) : 0 ≤ rsum n f := by
  induction n with
  | zero => exact Int.le_refl _
  | succ n ih =>
    rw [rsum_succ]
    have := ih fun i hi => h i (by omega)
    have := h n (by omega)
    omega
theorem rsum_le {f f' : Nat → Int} (h : ∀ i, i < n → f i ≤ f' i) : rsum n f ≤ rsum n f' := by
  induction n with
  | zero => exact Int.le_refl _
  | succ n ih =>
    rw [rsum_succ, rsum_succ]
    have := ih fun i hi => h i (by omega)
    have := h n (by omega)
    omega
theorem rsum_term {f : Nat → Int} {i : Nat} (hi : i < n) (h : ∀ i, i < n → 0 ≤ f i) : f i ≤ rsum n f := by
  have e := rsum_ite (f := f) hi
  rw [← e]
  exact rsum_le fun k hk => by
    split
    · exact Int.le_refl _
    · exact h k hk
theorem bil_lin (s t : Int) : bil n g (fun i => s * v i + t * w i) (fun i => s * v i + t * w i) = s * s * bil n g v v + s * t * bil n g v w + s * t * bil n g w v + t * t * bil n g w w := by
  unfold bil
  rw [← rsum_mul, ← rsum_mul, ← rsum_mul, ← rsum_mul, ← rsum_add, ← rsum_add, ← rsum_add]
  refine rsum_congr fun i _ => ?_
  rw [← rsum_mul, ← rsum_mul, ← rsum_mul, ← rsum_mul, ← rsum_add, ← rsum_add, ← rsum_add]
  refine rsum_congr fun j _ => ?_
  grind
theorem bil_symm (sy : ∀ i j, i < n → j < n → en g i j = en g j i) : bil n g v w = bil n g w v := by
  unfold bil
  rw [rsum_swap]
  refine rsum_congr fun i hi => rsum_congr fun j hj => ?_
  rw [sy j i hj hi]
  grind
theorem bil_psd (pd : PDn n g) : 0 ≤ bil n g v v := by
  by_cases h : ∃ i, i < n ∧ v i ≠ 0
  · exact Int.le_of_lt (pd v h)
  · have : bil n g v v = bil n g (fun _ => 0) fun _ => 0 := bil_congr (fun i hi => Classical.byContradiction fun z => h ⟨i, hi, z⟩) fun i hi => Classical.byContradiction fun z => h ⟨i, hi, z⟩
    rw [this]
    unfold bil
    rw [rsum_congr (g := fun _ => 0) fun i _ => by rw [rsum_congr (g := fun _ => 0) fun j _ => by simp, rsum_nil], rsum_nil]
    exact Int.le_refl _
/-- B(v, w)^2 ≤ Q(v) Q(w) -/
theorem cauchy (pd : PDn n g) (sy : ∀ i j, i < n → j < n → en g i j = en g j i) : bil n g v w * bil n g v w ≤ bil n g v v * bil n g w w := by
  have e := bil_psd (v := fun i => bil n g w w * v i + (-bil n g v w) * w i) pd
  rw [bil_lin, bil_symm (v := w) (w := v) sy] at e
  by_cases h : ∃ i, i < n ∧ w i ≠ 0
  · have hw := pd w h
    have e2 : 0 ≤ bil n g w w * (bil n g v v * bil n g w w - bil n g v w * bil n g v w) := by grind
    refine Classical.byContradiction fun hn => ?_
    have := Int.mul_neg_of_pos_of_neg hw (show bil n g v v * bil n g w w - bil n g v w * bil n g v w < 0 by omega)
    omega
  · have z : ∀ u : Nat → Int, bil n g u w = 0 := fun u => by
      rw [bil_congr (w' := fun _ => 0) (fun _ _ => rfl) fun i hi => Classical.byContradiction fun z => h ⟨i, hi, z⟩]
      unfold bil
      rw [rsum_congr (g := fun _ => 0) fun i _ => by rw [rsum_congr (g := fun _ => 0) fun j _ => by simp, rsum_nil], rsum_nil]
    rw [z v, z w]
    simp
theorem cs_sum {f h : Nat → Int} : rsum n (fun i => f i * h i) * rsum n (fun i => f i * h i) ≤ rsum n (fun i => f i * f i) * rsum n fun i => h i * h i := by
  have e : 0 ≤ rsum n fun i => (rsum n (fun i => h i * h i) * f i - rsum n (fun i => f i * h i) * h i) * (rsum n (fun i => h i * h i) * f i - rsum n (fun i => f i * h i) * h i) := rsum_nonneg fun i _ => sqp _
  generalize hA : rsum n (fun i => f i * f i) = A at *
  generalize hB : rsum n (fun i => h i * h i) = B at *
  generalize hC : rsum n (fun i => f i * h i) = C at *
  have e2 : (rsum n fun i => (B * f i - C * h i) * (B * f i - C * h i)) = B * B * A - 2 * B * C * C + C * C * B := by
    rw [← hA]
    have : (rsum n fun i => (B * f i - C * h i) * (B * f i - C * h i)) = rsum n (fun i => B * B * (f i * f i)) + rsum n (fun i => -(2 * B * C) * (f i * h i)) + rsum n fun i => C * C * (h i * h i) := by
      rw [← rsum_add, ← rsum_add]
      exact rsum_congr fun i _ => by grind
    rw [this, rsum_mul, rsum_mul, rsum_mul, hB, hC]
    grind
  rw [e2] at e
  have hB0 : 0 ≤ B := by rw [← hB]; exact rsum_nonneg fun i _ => sqp _
  by_cases hz : B = 0
  · have hh : ∀ i, i < n → h i = 0 := fun i hi => by
      have := rsum_term (f := fun i => h i * h i) hi fun i _ => sqp _
      exact sq0_of (by rw [hB, hz] at this; exact this)
    have : C = 0 := by
      rw [← hC, rsum_congr (g := fun _ => 0) fun i hi => by rw [hh i hi, Int.mul_zero], rsum_nil]
    rw [this, hz]
    simp
  · have e3 : 0 ≤ B * (A * B - C * C) := by grind
    refine Classical.byContradiction fun hn => ?_
    have := Int.mul_neg_of_pos_of_neg (show 0 < B by omega) (show A * B - C * C < 0 by omega)
    omega
/-- the i-th column of the adjugate -/
def adc (g : Tb) (n i : Nat) : Nat → Int := fun j => en (adjM g n) j i
theorem bil_adc (s : SqM n g) (hn : n ≤ 4) {i : Nat} (hi : i < n) : bil n g v (adc g n i) = bar g * v i := by
  unfold bil
  have e : ∀ k, k < n → (rsum n fun j => v k * en g k j * adc g n i j) = if k = i then bar g * v k else 0 := fun k hk => by
    have z := adj_r s hn
    have : (rsum n fun j => v k * en g k j * adc g n i j) = v k * en (prodM g (adjM g n) n) k i := by
      unfold prodM
      rw [en_gen (by rw [s.len]; exact hk) hi]
      unfold mulE
      rw [show (adjM g n).length = n from genM_len]
      show _ = v k * rsum n fun j => en g k j * en (adjM g n) j i
      rw [← rsum_mul]
      exact rsum_congr fun j _ => Int.mul_assoc ..
    rw [this, z]
    unfold scal
    rw [en_gen hk hi]
    split <;> grind
  rw [rsum_congr e, rsum_ite hi (f := fun k => bar g * v k)]
/-- the diagonal item of the adjugate bounds the item -/
theorem adj_bound (o : LatOk n g) (n3 : n ≤ 3) {i : Nat} (hi : i < n) : bar g * (v i * v i) ≤ en (adjM g n) i i * bil n g v v := by
  have c := cauchy (v := v) (w := adc g n i) (lat_pd o n3) o.symE
  rw [bil_adc o.sz.sq o.n4 hi, bil_adc o.sz.sq o.n4 hi] at c
  have hb := o.bar1
  have c2 : bar g * (bar g * (v i * v i)) ≤ bar g * (en (adjM g n) i i * bil n g v v) := by
    have e : adc g n i i = en (adjM g n) i i := rfl
    rw [e] at c
    grind
  exact Int.le_of_mul_le_mul_left c2 (by omega)
theorem adj_pos (o : LatOk n g) (n3 : n ≤ 3) {i : Nat} (hi : i < n) : 0 ≤ en (adjM g n) i i := by
  have c := bil_psd (v := adc g n i) (lat_pd o n3)
  rw [bil_adc o.sz.sq o.n4 hi] at c
  have hb := o.bar1
  refine Classical.byContradiction fun hn => ?_
  have := Int.mul_neg_of_pos_of_neg (show 0 < bar g by omega) (show en (adjM g n) i i < 0 by omega)
  have e : adc g n i i = en (adjM g n) i i := rfl
  rw [e] at c
  omega
/-- items against the norm, with a factor -/
def Hb (n : Nat) (g : Tb) (C : Int) : Prop := ∀ (c : Nat → Int) (i : Nat), i < n → c i * c i ≤ C * bil n g c c
theorem adj_small {C : Int} (o : LatOk n g) (n3 : n ≤ 3) (h : Hb n g C) (hC : 0 ≤ C) {i : Nat} (hi : i < n) : en (adjM g n) i i ≤ C * bar g := by
  have z := h (adc g n i) i hi
  rw [bil_adc o.sz.sq o.n4 hi] at z
  have e : adc g n i i = en (adjM g n) i i := rfl
  rw [e] at z
  have p := adj_pos o n3 hi
  have hb := o.bar1
  by_cases hz : en (adjM g n) i i = 0
  · rw [hz]
    exact Int.mul_nonneg hC (by omega)
  · have z2 : en (adjM g n) i i * en (adjM g n) i i ≤ en (adjM g n) i i * (C * bar g) := by grind
    exact Int.le_of_mul_le_mul_left z2 (by omega)
end
theorem absP {y p q : Int} (h : -1 ≤ y ∧ y ≤ 1) : 0 ≤ absI y * (p * p + q * q) + 2 * y * p * q := by
  have hc : y = -1 ∨ y = 0 ∨ y = 1 := by omega
  rcases hc with rfl | rfl | rfl
  · have := sqp (p - q)
    have e : absI (-1) * (p * p + q * q) + 2 * -1 * p * q = (p - q) * (p - q) := by simp [absI]; grind
    omega
  · simp [absI]
  · have := sqp (p + q)
    have e : absI 1 * (p * p + q * q) + 2 * 1 * p * q = (p + q) * (p + q) := by simp [absI]; grind
    omega
theorem sqle {a p : Int} (ha : 1 ≤ a) : p * p ≤ a * (p * p) := by
  have := Int.mul_nonneg (show 0 ≤ a - 1 by omega) (sqp p)
  grind
/-- the laws' forms are at least the sum of the squares -/
theorem gd_ge {g : Tb} {n : Nat} (h : Gd g n) (z : Nat → Int) : (rsum n fun i => z i * z i) ≤ bil n g z z := by
  cases h with
  | @one a ha =>
    have := sqle (p := z 0) ha.1
    simp [bil, rsum, en, List.range_succ]
    grind
  | @two a b y ha hb hy =>
    have h1 := sqle (p := z 0) ha.1
    have h2 := sqle (p := z 1) hb.1
    have h3 := absP (p := z 0) (q := z 1) hy
    simp [bil, rsum, en, List.range_succ]
    grind
  | @three a b c y u v ha hb hc hy hu hv =>
    have h1 := sqle (p := z 0) ha.1
    have h2 := sqle (p := z 1) hb.1
    have h3 := sqle (p := z 2) hc.1
    have h4 := absP (p := z 0) (q := z 1) hy
    have h5 := absP (p := z 0) (q := z 2) hu
    have h6 := absP (p := z 1) (q := z 2) hv
    simp [bil, rsum, en, List.range_succ]
    grind
theorem gd_hb {g : Tb} {n : Nat} (h : Gd g n) : Hb n g 1 := fun c i hi => by
  have := gd_ge h c
  have := rsum_term (f := fun i => c i * c i) hi fun i _ => sqp _
  omega
end G
set_option Elab.async false
set_option linter.all false
set_option maxRecDepth 100000
set_option maxHeartbeats 4000000
namespace G09
open PySem PySem.Spec PyProof.Rows L2 Evl G
theorem gcd_loop : ∀ (n a b : Nat), b < n → whileO m_law_gcd_l1c m_law_gcd_l1 n ((a : Int), (b : Int)) = some (.nx (((Nat.gcd a b : Nat) : Int), 0))
  | 0, a, b, h => by omega
  | n + 1, a, b, h => by
    show (m_law_gcd_l1c ((a : Int), (b : Int))).bind _ = _
    by_cases hb : b = 0
    · subst hb
      have e : m_law_gcd_l1c ((a : Int), ((0 : Nat) : Int)) = some false := rfl
      refine bo e ?_
      rw [if_neg Bool.false_ne_true, Nat.gcd_zero_right]
      rfl
    · have e : m_law_gcd_l1c ((a : Int), (b : Int)) = some true := by
        unfold m_law_gcd_l1c
        simp [hb]
      refine bo e ?_
      rw [if_pos rfl]
      have e2 : m_law_gcd_l1 ((a : Int), (b : Int)) = some (.nx ((b : Int), ((a % b : Nat) : Int))) := by
        unfold m_law_gcd_l1
        refine bo (modO_ne (by show (b : Int) ≠ 0; omega)) ?_
        show some (Fl.nx ((b : Int), (a : Int).fmod (b : Int))) = _
        rw [Int.fmod_eq_emod_of_nonneg _ (by omega)]
        rfl
      refine bo e2 ?_
      show whileO m_law_gcd_l1c m_law_gcd_l1 n ((b : Int), ((a % b : Nat) : Int)) = _
      rw [gcd_loop n b (a % b) (by have := Nat.mod_lt a (Nat.pos_of_ne_zero hb); omega), Nat.gcd_comm b, ← Nat.gcd_rec, Nat.gcd_comm]
theorem gcd_ok {f : Nat} {a b : Int} (h : b.natAbs < f) : m_law_gcd f a b = some ((Nat.gcd a.natAbs b.natAbs : Nat) : Int) := by
  unfold m_law_gcd
  refine bo (x := ((a.natAbs : Nat) : Int)) (by congr 1; split <;> omega) ?_
  refine bo (x := ((b.natAbs : Nat) : Int)) (by congr 1; split <;> omega) ?_
  refine bo (gcd_loop f a.natAbs b.natAbs h) ?_
  rfl
theorem content_ok (xs : List Int) : m_content xs = some ((gN xs : Nat) : Int) := by
  unfold m_content
  refine bo (x := ((gN xs : Nat) : Int)) ?_ rfl
  rw [← foldl_gcd0]
  exact foldO_of fun x _ t => rfl
def gstep (s x : Int) : Int := ((Nat.gcd s.natAbs x.natAbs : Nat) : Int)
theorem foldl_rows : ∀ (g : List (List Int)) (s : Int), g.foldl (fun s r => r.foldl gstep s) s = g.flatten.foldl gstep s
  | [], s => rfl
  | r :: g, s => by
    rw [List.foldl_cons, List.flatten_cons, List.foldl_append]
    exact foldl_rows g _
theorem lgcd_ok {f : Nat} {g : Tb} (hb : ∀ x ∈ g, ∀ y ∈ x, y.natAbs < f) : foldO (m_law_l1 f) g (0 : Int) = some ((gN g.flatten : Nat) : Int) := by
  rw [← foldl_gcd0]
  refine (foldO_of (g := fun s r => r.foldl gstep s) fun r hr t => ?_).trans (congrArg some (foldl_rows g 0))
  unfold m_law_l1
  refine bo (foldO_of (g := gstep) fun x hx t => ?_) rfl
  unfold m_law_l2
  exact bo (gcd_ok (hb r hr x hx)) rfl
theorem lcont_ok {n : Nat} {g : Tb} (s : Sz n n g) (hn : n ≤ 100) : m_Lattice_content ⟨⟨g, n⟩⟩ = some ((gN g.flatten : Nat) : Int) := by
  unfold m_Lattice_content
  refine bo (x := []) rfl (bo (x := g.flatten) ?_ (bo (content_ok _) rfl))
  have key : ∀ (l : Tb) (acc : List Int), (∀ r ∈ l, r.length = n) → acc.length + l.length * n ≤ 100000 → foldO m_Lattice_content_l1 l acc = some (acc ++ l.flatten) := by
    intro l
    induction l with
    | nil => intro acc _ _; simp [foldO]
    | cons r l ih =>
      intro acc h hl
      rw [List.length_cons, Nat.add_mul] at hl
      have hr := h r (by simp)
      show (m_Lattice_content_l1 r acc).bind _ = _
      refine bo (x := acc ++ r) ?_ ?_
      · unfold m_Lattice_content_l1
        exact bo (catO_ok (by omega)) rfl
      · rw [ih (acc ++ r) (fun x hx => h x (by simp [hx])) (by rw [List.length_append]; omega), List.flatten_cons, List.append_assoc]
  refine (key g [] s.row ?_).trans (by simp)
  rw [s.len]
  have : n * n ≤ 100 * 100 := Nat.mul_le_mul hn hn
  simp only [List.length_nil]
  omega
def evn (n : Nat) (g : Tb) : Bool := (List.range n).all fun k => decide ((en g k k).fmod 2 = 0)
theorem even_ok {n : Nat} {g : Tb} (o : LatOk n g) : m_Lattice_is_even ⟨⟨g, n⟩⟩ = some (evn n g) := by
  have n4 := o.n4
  unfold m_Lattice_is_even
  refine bo (rank_lat o) (bo (rngO_nat (by omega)) ?_)
  refine bo (lcA_of (g := fun x : Int => decide ((en g x.toNat x.toNat).fmod 2 = 0)) (by rw [rng_len]; omega) fun x hx => ?_) ?_
  · obtain ⟨i, hi, rfl⟩ := mem_rng.mp hx
    refine bo (o.sz.atI hi) (bo (o.sz.atI2 hi hi) (bo (modO_ne (by decide)) ?_))
    rw [Int.toNat_natCast]
  · rw [rng_map]
    congr 1
    rw [List.all_map]
    rfl
theorem leven_ok {n : Nat} {g : Tb} (s : Sz n n g) : foldO (m_law_l3 g) (rng (n : Int)) true = some (evn n g) := by
  obtain ⟨t, h1, h2⟩ := foldO_rng (body := m_law_l3 g) (n := n) (s := true) (fun i z => z = evn i g) rfl fun i z hi hz => by
    subst hz
    refine ⟨_, ?_, rfl⟩
    unfold m_law_l3
    have e : evn (i + 1) g = (evn i g && decide ((en g i i).fmod 2 = 0)) := by
      unfold evn
      rw [List.range_succ, List.all_append]
      simp
    rw [e]
    refine bo (x := (evn i g && decide ((en g i i).fmod 2 = 0))) ?_ rfl
    cases q : evn i g with
    | false => rw [if_neg Bool.false_ne_true]; rfl
    | true =>
      rw [if_pos rfl]
      refine bo (s.atI hi) (bo (s.atI2 hi hi) (bo (modO_ne (by decide)) ?_))
      rw [Bool.true_and]
  rw [h1, h2]
theorem prodL_ok {n : Nat} {g : Tb} {v w : List Int} (o : LatOk n g) (hv : v.length = n) (hw : w.length = n) (hb : ∀ x ∈ v, x.natAbs < 2 ^ 64) : m_Lattice_product ⟨⟨g, n⟩⟩ v w = some (bil n g (fun i => v.getD i 0) fun j => w.getD j 0) := by
  have n4 := o.n4
  have cn : ∀ {v : List Int}, v.length = n → m_Lattice_contains ⟨⟨g, n⟩⟩ v = some true := fun {v} hv => by
    unfold m_Lattice_contains
    rw [if_neg (by show ¬ ((!true) || (!decide ((v.length : Int) = (g.length : Int)))) = true; rw [hv, o.len]; simp)]
    refine bo (lcA_of (g := fun _ => true) (by omega) fun x _ => bo (isint x) rfl) ?_
    simp
  have tm : m_Grid_times ⟨g, n⟩ (Sq.T eI w) = some (g.map fun r => dotL r w) := by
    unfold m_Grid_times
    rw [if_neg (by show ¬ (!decide ((w.length : Int) = (n : Int))) = true; rw [hw]; simp)]
    refine bo (lcA_of (g := fun r : List Int => dotL r w) (by show g.length ≤ _; rw [o.len]; omega) fun r hr => ?_) rfl
    exact bo (dot_l (p := Sq.T eI r) (q := Sq.T eI w) (fun x hx => Nat.lt_of_le_of_lt (o.bd r hr x hx) (by decide)) (by show r.length ≤ _; rw [o.row r hr]; omega)) rfl
  unfold m_Lattice_product
  refine bo (cn hv) (bo (x := false) ?_ ?_)
  · rw [if_neg (by simp)]
    exact bo (cn hw) rfl
  · rw [if_neg (by simp)]
    refine bo tm (bo (dot_l (p := Sq.T eI v) (q := Sq.T eI (g.map fun r => dotL r w)) hb (by show v.length ≤ _; omega)) (congrArg some ?_))
    show dotL v (g.map fun r => dotL r w) = _
    rw [dotL_sum hv (by rw [List.length_map, o.len])]
    unfold bil
    refine rsum_congr fun i hi => ?_
    rw [getD_mapD (d := []) (by rw [o.len]; exact hi), dotL_sum (o.sz.at hi) hw, ← rsum_mul]
    exact rsum_congr fun j _ => (Int.mul_assoc ..).symm
/-! ### vectors of wrong kinds -/
theorem contD_tup {a : M_Lattice} {ds : List DV} (hl : ds.length = a.gram.rows.length) (hd : ds.length ≤ 100000) {p : DV → Bool} (h : ∀ d ∈ ds, m_is_integer_D d = some (p d)) : m_Lattice_contains_D a (.tup ds) = some (ds.all p) := by
  unfold m_Lattice_contains_D
  have e : isDO (.tup ds) "tuple" = some true := by show kitB "tuple" "tuple" = _; decide +kernel
  refine bo e (bo (x := false) ?_ ?_)
  · rw [if_neg (by simp)]
    refine bo (x := ds) rfl ?_
    rw [hl]
    simp
  · rw [if_neg Bool.false_ne_true]
    refine bo (x := ds) rfl (bo (lcA_of (g := p) hd fun d hd => bo (h d hd) rfl) ?_)
    rw [List.all_map]
    rfl
theorem contD_len {a : M_Lattice} {ds : List DV} (hl : ds.length ≠ a.gram.rows.length) : m_Lattice_contains_D a (.tup ds) = some false := by
  unfold m_Lattice_contains_D
  have e : isDO (.tup ds) "tuple" = some true := by show kitB "tuple" "tuple" = _; decide +kernel
  refine bo e (bo (x := true) ?_ ?_)
  · rw [if_neg (by simp)]
    refine bo (x := ds) rfl ?_
    have : decide ((ds.length : Int) = (a.gram.rows.length : Int)) = false := decide_eq_false (by omega)
    rw [this]
    rfl
  · rw [if_pos rfl]
theorem contD_no {a : M_Lattice} {d : DV} (h : isDO d "tuple" = some false) : m_Lattice_contains_D a d = some false := by
  unfold m_Lattice_contains_D
  refine bo h (bo (x := true) ?_ ?_)
  · rw [if_pos (by simp)]
  · rw [if_pos rfl]
theorem isI_int (i : Int) : m_is_integer_D (.int i) = some true := by
  unfold m_is_integer_D
  have e1 : isDO (.int i) "int" = some true := by show kitB "int" "int" = _; decide +kernel
  have e2 : isDO (.int i) "bool" = some false := by show kitB "int" "bool" = _; decide +kernel
  exact bo e1 (bo (by rw [if_pos rfl]; exact bo e2 rfl) rfl)
theorem isI_bool (i : Bool) : m_is_integer_D (.bl i) = some false := by
  unfold m_is_integer_D
  have e1 : isDO (.bl i) "int" = some true := by show kitB "bool" "int" = _; decide +kernel
  have e2 : isDO (.bl i) "bool" = some true := by show kitB "bool" "bool" = _; decide +kernel
  exact bo e1 (bo (by rw [if_pos rfl]; exact bo e2 rfl) rfl)
theorem isI_str (s : Str) : m_is_integer_D (.str s) = some false := by
  unfold m_is_integer_D
  have e1 : isDO (.str s) "int" = some false := by show kitB "str" "int" = _; decide +kernel
  exact bo e1 (bo (by rw [if_neg Bool.false_ne_true]) rfl)
def isIV : DV → Bool
  | .int _ => true
  | _ => false
theorem contD_int {n : Nat} {g : Tb} {v : List Int} (hg : g.length = n) (hn : n ≤ 1000) (hv : v.length = n) : m_Lattice_contains_D ⟨⟨g, n⟩⟩ (.tup (v.map .int)) = some true := by
  rw [contD_tup (p := isIV) (by simp [hv, hg]) (by simp [hv]; omega) fun d hd => ?_]
  · rw [List.all_map]
    congr 1
    exact List.all_eq_true.mpr fun x _ => rfl
  · obtain ⟨x, _, rfl⟩ := List.mem_map.mp hd
    exact isI_int x
theorem contD_hd {n : Nat} {g : Tb} {v : List Int} {d : DV} (hg : g.length = n) (hn : n ≤ 1000) (hv : v.length + 1 = n) (hd : m_is_integer_D d = some false) : m_Lattice_contains_D ⟨⟨g, n⟩⟩ (.tup (d :: v.map .int)) = some false := by
  cases d with
  | int i => rw [isI_int] at hd; cases hd
  | _ =>
    rw [contD_tup (p := isIV) (by simp [hg]; omega) (by simp; omega) fun e he => ?_]
    · rfl
    · rcases List.mem_cons.mp he with rfl | he
      · exact hd
      · obtain ⟨x, _, rfl⟩ := List.mem_map.mp he
        exact isI_int x
theorem malformed_ok {n : Nat} {g : Tb} {w : List Int} {d : DV} (hg : g.length = n) (hn : n ≤ 1000) (hw : w.length = n) (hd : m_Lattice_contains_D ⟨⟨g, n⟩⟩ d = some false) : m_law_malformed ⟨⟨g, n⟩⟩ d w = some true := by
  have p1 : ∀ e, m_Lattice_product_X ⟨⟨g, n⟩⟩ d e = some (.er .mal) := fun e => by
    unfold m_Lattice_product_X
    refine bo hd (bo (x := true) ?_ ?_)
    · rw [if_pos (by simp)]
    · rw [if_pos rfl]
  have p2 : m_Lattice_product_X ⟨⟨g, n⟩⟩ (eT eI w) d = some (.er .mal) := by
    unfold m_Lattice_product_X
    refine bo (contD_int hg hn hw) (bo (x := true) ?_ ?_)
    · rw [if_neg (by simp)]
      exact bo hd rfl
    · rw [if_pos rfl]
  have p3 : m_Lattice_norm_X ⟨⟨g, n⟩⟩ d = some (.er .mal) := by
    unfold m_Lattice_norm_X
    rw [p1]
    rfl
  have s0 : ∀ s, malS ⟨⟨g, n⟩⟩ d w 0 s = some (s + 1) := fun s => by
    unfold malS malT
    rw [if_pos rfl]
    exact bo (bo p3 rfl) rfl
  have s1 : ∀ s, malS ⟨⟨g, n⟩⟩ d w 1 s = some (s + 1) := fun s => by
    unfold malS malT
    rw [if_neg (by decide), if_pos rfl]
    exact bo (bo (p1 _) rfl) rfl
  have s2 : ∀ s, malS ⟨⟨g, n⟩⟩ d w 2 s = some (s + 1) := fun s => by
    unfold malS malT
    rw [if_neg (by decide), if_neg (by decide), if_pos rfl]
    exact bo (bo p2 rfl) rfl
  unfold m_law_malformed
  refine bo (rngO_nat (n := 3) (by decide)) (bo (x := (3 : Int)) ?_ rfl)
  show (malS _ d w 0 0).bind (fun s => (malS _ d w 1 s).bind fun s => (malS _ d w 2 s).bind fun s => some s) = _
  refine bo (s0 _) (bo (s1 _) (bo (s2 _) rfl))
/-! ### the other form -/
def inc (g : Tb) : Tb := ((en g 0 0 + 1) :: (g.getD 0 []).drop 1) :: g.drop 1
theorem inc_lat {n : Nat} {g : Tb} (G1 : Gd g n) : LatOk n (inc g) := by
  have o := G1.lat
  have n3 : n ≤ 3 := by cases G1 <;> omega
  have key : (∀ z : Nat → Int, bil n (inc g) z z = bil n g z z + z 0 * z 0) → PDn n (inc g) := fun h z hz => by
    rw [h]
    have := lat_pd o n3 z hz
    have := sqp (z 0)
    omega
  cases G1 with
  | @one a ha =>
    refine pd_lat (by omega) n3 ⟨rfl, by simp [inc]⟩ (fun i j hi hj => by
      obtain rfl : i = 0 := by omega
      obtain rfl : j = 0 := by omega
      rfl) ?_ (key fun z => ?_)
    · intro x hx y hy
      simp [inc, en] at hx
      subst hx
      simp at hy
      omega
    · show rsum 1 _ = rsum 1 _ + _
      simp only [rsum_succ, rsum_zero, inc, en, List.getD_cons_zero, List.drop_succ_cons, List.drop_zero]
      grind
  | @two a b y ha hb hy =>
    have := absB hy
    refine pd_lat (by omega) n3 ⟨rfl, by simp [inc]⟩ (fun i j hi hj => ?_) ?_ (key fun z => ?_)
    · have hi' : i = 0 ∨ i = 1 := by omega
      have hj' : j = 0 ∨ j = 1 := by omega
      rcases hi' with rfl | rfl <;> rcases hj' with rfl | rfl <;> rfl
    · intro x hx w hw
      simp [inc, en] at hx
      rcases hx with rfl | rfl <;> simp at hw <;> omega
    · show rsum 2 _ = rsum 2 _ + _
      simp only [rsum_succ, rsum_zero, inc, en, List.getD_cons_zero, List.getD_cons_succ, List.drop_succ_cons, List.drop_zero]
      grind
  | @three a b c y z v ha hb hc hy hz hv =>
    have := absB hy
    have := absB hz
    have := absB hv
    refine pd_lat (by omega) n3 ⟨rfl, by simp [inc]⟩ (fun i j hi hj => ?_) ?_ (key fun z => ?_)
    · have hi' : i = 0 ∨ i = 1 ∨ i = 2 := by omega
      have hj' : j = 0 ∨ j = 1 ∨ j = 2 := by omega
      rcases hi' with rfl | rfl | rfl <;> rcases hj' with rfl | rfl | rfl <;> rfl
    · intro x hx w hw
      simp [inc, en] at hx
      rcases hx with rfl | rfl | rfl <;> simp at hw <;> omega
    · show rsum 3 _ = rsum 3 _ + _
      simp only [rsum_succ, rsum_zero, inc, en, List.getD_cons_zero, List.getD_cons_succ, List.drop_succ_cons, List.drop_zero]
      grind
theorem inc_ne {n : Nat} {g : Tb} (G1 : Gd g n) : g ≠ inc g := by
  cases G1 <;> simp [inc, en] <;> omega
theorem geq (g : M_Grid) : m_Grid_eq g g = some true := by
  unfold m_Grid_eq
  simp
theorem eq_self (a : M_Lattice) : m_Lattice_eq a a = some true := by
  unfold m_Lattice_eq
  refine bo (x := true) ?_ rfl
  rw [if_pos rfl]
  exact bo (geq _) rfl
theorem eq_no {n : Nat} {g h : Tb} (hne : g ≠ h) : m_Lattice_eq ⟨⟨g, n⟩⟩ ⟨⟨h, n⟩⟩ = some false := by
  unfold m_Lattice_eq
  refine bo (x := false) ?_ rfl
  rw [if_pos rfl]
  refine bo (x := false) ?_ rfl
  unfold m_Grid_eq
  simp [hne]
theorem det_lat {n : Nat} {g : Tb} (o : LatOk n g) : m_Lattice_determinant ⟨⟨g, n⟩⟩ = some (bar g) := by
  unfold m_Lattice_determinant
  exact bo (det_of (gin_of o.n4 o.len o.row o.bd)) rfl
theorem gd5 {g : Tb} {n : Nat} (h : Gd g n) : Bd 5 g := by
  cases h with
  | @one a ha =>
    intro x hx y hy
    simp only [List.mem_cons, List.not_mem_nil, or_false] at hx
    subst hx
    simp only [List.mem_cons, List.not_mem_nil, or_false] at hy
    omega
  | @two a b y ha hb hy =>
    have := absB hy
    intro x hx z hz
    simp only [List.mem_cons, List.not_mem_nil, or_false] at hx
    rcases hx with rfl | rfl <;> simp only [List.mem_cons, List.not_mem_nil, or_false] at hz <;> rcases hz with rfl | rfl <;> omega
  | @three a b c y z v ha hb hc hy hz hv =>
    have := absB hy
    have := absB hz
    have := absB hv
    intro x hx w hw
    simp only [List.mem_cons, List.not_mem_nil, or_false] at hx
    rcases hx with rfl | rfl | rfl <;> simp only [List.mem_cons, List.not_mem_nil, or_false] at hw <;> rcases hw with rfl | rfl | rfl <;> omega
theorem cut1 {α : Type} {xs : List α} : cutL xs (some (1 : Int)) none = xs.drop 1 := cut_from1 (k := 0)
theorem norm_sign {n : Nat} {g : Tb} {v : List Int} (o : LatOk n g) (n3 : n ≤ 3) (hv : v.length = n) : (decide ((0 : Int) < bil n g (fun i => v.getD i 0) fun j => v.getD j 0)) = (v.any fun x => decide (x ≠ 0)) ∧ ¬ (bil n g (fun i => v.getD i 0) fun j => v.getD j 0) < 0 := by
  by_cases h : ∃ x ∈ v, x ≠ 0
  · obtain ⟨x, hx, h0⟩ := h
    obtain ⟨i, hi, rfl⟩ := List.getElem_of_mem hx
    have z := lat_pd o n3 (fun i => v.getD i 0) ⟨i, by omega, by rw [List.getD_eq_getElem?_getD, List.getElem?_eq_getElem hi]; exact h0⟩
    refine ⟨?_, by omega⟩
    rw [decide_eq_true z]
    exact (List.any_eq_true.mpr ⟨_, hx, decide_eq_true h0⟩).symm
  · have hz : ∀ x ∈ v, x = 0 := fun x hx => Classical.byContradiction fun e => h ⟨x, hx, e⟩
    have e0 : (bil n g (fun i => v.getD i 0) fun j => v.getD j 0) = 0 := by
      unfold bil
      refine (rsum_congr (g := fun _ => 0) fun i hi => ?_).trans rsum_nil
      refine (rsum_congr (g := fun _ => 0) fun j hj => ?_).trans rsum_nil
      show v.getD i 0 * en g i j * v.getD j 0 = 0
      rw [hz _ (G.getD_mem (by rw [hv]; exact hi)), Int.zero_mul, Int.zero_mul]
    rw [e0]
    refine ⟨?_, by decide⟩
    refine (List.any_eq_false.mpr fun x hx => ?_).symm
    rw [hz x hx]
    decide
theorem law_true (ns : List Int) : m_law 10 ns = some true := by
  obtain ⟨st, hst, st2⟩ := state_ex ns
  obtain ⟨g, n, s1, e1, l1, G1, b1⟩ := gram_ex (m := 3) (by omega) st2
  have o := G1.lat
  have g5 := gd5 G1
  have n1 := o.n1
  have n3 : n ≤ 3 := by omega
  have hl : g.length = n := o.len
  obtain ⟨v, s2, ev, l2, lv, bv⟩ := vec_ex (n := n) (b := 4) (by omega) (by decide) l1
  obtain ⟨w, s3, ew, l3, lw, bw⟩ := vec_ex (n := n) (b := 4) (by omega) (by decide) l2
  have bv64 : ∀ x ∈ v, x.natAbs < 2 ^ 64 := fun x hx => Nat.lt_of_le_of_lt (bv x hx) (by decide)
  have bw64 : ∀ x ∈ w, x.natAbs < 2 ^ 64 := fun x hx => Nat.lt_of_le_of_lt (bw x hx) (by decide)
  obtain ⟨k, s4, ek, l4, k0, k7⟩ := take_ex (m := 7) l3 (by decide)
  have sg := o.sz
  have b64 := bd64 g5
  unfold m_law
  refine bo hst (bo e1 (bo (lat_S o) ?_))
  simp only [hl]
  refine bo ev (bo ew ?_)
  refine bo (prodL_ok o lv lw bv64) (bo (product_ok (m := n) sg (by omega) lv lw bv64 bw64) (bo (x := false) ?_ ?_))
  · rw [if_neg (by simp)]
    refine bo (prodL_ok o lw lv bw64) (bo (product_ok (m := n) sg (by omega) lv lw bv64 bw64) ?_)
    rw [bil_symm o.symE]
    simp
  rw [if_neg Bool.false_ne_true]
  have en1 : m_Lattice_norm ⟨⟨g, n⟩⟩ v = some (bil n g (fun i => v.getD i 0) fun j => v.getD j 0) := by
    unfold m_Lattice_norm
    exact bo (prodL_ok o lv lv bv64) rfl
  refine bo en1 (bo (product_ok (m := n) sg (by omega) lv lv bv64 bv64) ?_)
  obtain ⟨sg1, sg2⟩ := norm_sign o n3 lv
  simp only [sg1]
  rw [decide_eq_false sg2, if_neg (by simp)]
  refine bo (lgcd_ok fun x hx y hy => by have := g5 x hx y hy; omega) (bo (rngO_nat (by omega)) (bo (leven_ok sg) ?_))
  refine bo (det_lat o) (bo (ldet_bar n3 sg b64) (bo (x := false) ?_ ?_))
  · rw [if_neg (by simp)]
    refine bo (lcont_ok sg (by omega)) (bo (x := false) ?_ rfl)
    rw [if_neg (by simp)]
    refine bo (even_ok o) ?_
    simp
  rw [if_neg Bool.false_ne_true]
  have hd1 : (v.drop 1).length = n - 1 := by simp [lv]
  refine bo (catO_ok (by simp [lv]; omega)) ?_
  refine bo (x := .bl true :: (v.drop 1).map .int) ?_ ?_
  · rw [cut1]
    exact catO_ok (by simp [lv]; omega)
  refine bo (x := .str (PySem.Str.ofString "1") :: (v.drop 1).map .int) ?_ ?_
  · rw [cut1]
    exact catO_ok (by simp [lv]; omega)
  refine bo ek ?_
  simp only [cut1]
  obtain ⟨d, ed, hd⟩ : ∃ d, L2.atI ([((eL eI) v), ((eT eI) (v ++ [(0 : Int)])), ((eT eI) (v.drop 1)), (eN ()), (eI (5 : Int)), ((eT eD) (.bl true :: (v.drop 1).map .int)), ((eT eD) (.str (PySem.Str.ofString "1") :: (v.drop 1).map .int))] : List DV) k = some d ∧ m_Lattice_contains_D ⟨⟨g, n⟩⟩ d = some false := by
    have hk : k = 0 ∨ k = 1 ∨ k = 2 ∨ k = 3 ∨ k = 4 ∨ k = 5 ∨ k = 6 := by omega
    rcases hk with rfl | rfl | rfl | rfl | rfl | rfl | rfl
    · exact ⟨_, rfl, contD_no (by show kitB "list" "tuple" = _; decide +kernel)⟩
    · exact ⟨_, rfl, contD_len (by simp [lv, hl])⟩
    · exact ⟨_, rfl, contD_len (by simp [lv, hl]; omega)⟩
    · exact ⟨_, rfl, contD_no (by show kitB "NoneType" "tuple" = _; decide +kernel)⟩
    · exact ⟨_, rfl, contD_no (by show kitB "int" "tuple" = _; decide +kernel)⟩
    · refine ⟨_, rfl, ?_⟩
      show m_Lattice_contains_D _ (.tup (List.map _ _)) = _
      rw [show (List.map eD (DV.bl true :: (v.drop 1).map .int)) = DV.bl true :: (v.drop 1).map .int from List.map_id' _]
      exact contD_hd hl (by omega) (by omega) (isI_bool _)
    · refine ⟨_, rfl, ?_⟩
      show m_Lattice_contains_D _ (.tup (List.map _ _)) = _
      rw [show (List.map eD (DV.str (PySem.Str.ofString "1") :: (v.drop 1).map .int)) = DV.str (PySem.Str.ofString "1") :: (v.drop 1).map .int from List.map_id' _]
      exact contD_hd hl (by omega) (by omega) (isI_str _)
  refine bo ed (bo (contD_int hl (by omega) lv) (bo (x := false) ?_ ?_))
  · rw [if_neg (by simp)]
    refine bo hd (bo (x := false) ?_ rfl)
    rw [if_neg Bool.false_ne_true]
    exact bo (malformed_ok hl (by omega) lw hd) rfl
  rw [if_neg Bool.false_ne_true]
  have a0 : L2.atI g (0 : Int) = some (g.getD 0 []) := sg.atI (k := 0) (by omega)
  have a1 : L2.atI (g.getD 0 []) (0 : Int) = some (en g 0 0) := sg.atI2 (show 0 < n by omega) (show 0 < n by omega)
  have l0 : (g.getD 0 []).length = n := sg.at (by omega)
  refine bo a0 (bo a1 (bo a0 (bo (x := (en g 0 0 + 1) :: (g.getD 0 []).drop 1) ?_ (bo (x := inc g) ?_ ?_))))
  · exact catO_ok (by simp only [List.length_cons, List.length_nil, List.length_drop]; omega)
  · exact catO_ok (by simp only [List.length_cons, List.length_nil, List.length_drop]; omega)
  have o2 := inc_lat G1
  refine bo (lat_S o2) (bo (lat_S o) (bo (eq_self _) (bo (x := true) ?_ rfl)))
  rw [if_pos rfl]
  refine bo (eq_no (inc_ne G1)) (bo (x := true) ?_ rfl)
  rw [if_pos (by rfl)]
  refine bo (x := false) rfl (bo (x := true) ?_ rfl)
  rw [if_pos (by rfl)]
  exact bo (x := false) rfl rfl
end G09
set_option Elab.async false
set_option linter.all false
set_option maxRecDepth 100000
set_option maxHeartbeats 4000000
namespace G09g
open PySem PySem.Spec PyProof.Rows L2 Evl G
def topS (i : Nat) : Stmt := PySem.Challenge.pw_gridroads_k09_products_and_norms.main.body.getD i (.Pass ⟨0, 0, 0, 0⟩)
def inClass (s : Stmt) (j : Nat) : Stmt := match s with
  | .ClassDef (body := b) .. => b.getD j (.Pass ⟨0, 0, 0, 0⟩)
  | _ => .Pass ⟨0, 0, 0, 0⟩
abbrev s_is_integer : Stmt := topS 11
abbrev s_checked : Stmt := topS 16
abbrev s_determinant : Stmt := topS 17
abbrev s_Grid_init : Stmt := inClass (topS 18) 0
abbrev s_Grid_len : Stmt := inClass (topS 18) 1
abbrev s_Grid_is_square : Stmt := inClass (topS 18) 13
abbrev s_Grid_determinant : Stmt := inClass (topS 18) 14
theorem sc_is_integer : FnScope ["value"] ["value"] (defScope s_is_integer) := ⟨rfl, rfl, rfl, by decide +kernel, rfl, by decide +kernel, by decide +kernel⟩
theorem sc_checked : FnScope ["rows", "width", "out", "row", "item"] ["rows", "width"] (defScope s_checked) := ⟨rfl, rfl, rfl, by decide +kernel, rfl, by decide +kernel, by decide +kernel⟩
theorem sc_determinant : FnScope ["rows", "table", "size", "sign", "before", "k", "chosen", "row", "head", "i", "factor", "x", "y"] ["rows"] (defScope s_determinant) := ⟨rfl, rfl, rfl, by decide +kernel, rfl, by decide +kernel, by decide +kernel⟩
theorem sc_Grid_init : FnScope ["self", "rows", "width"] ["self", "rows", "width"] (defScope s_Grid_init) := ⟨rfl, rfl, rfl, by decide +kernel, rfl, by decide +kernel, by decide +kernel⟩
theorem sc_Grid_len : FnScope ["self"] ["self"] (defScope s_Grid_len) := ⟨rfl, rfl, rfl, by decide +kernel, rfl, by decide +kernel, by decide +kernel⟩
theorem sc_Grid_is_square : FnScope ["self"] ["self"] (defScope s_Grid_is_square) := ⟨rfl, rfl, rfl, by decide +kernel, rfl, by decide +kernel, by decide +kernel⟩
theorem sc_Grid_determinant : FnScope ["self"] ["self"] (defScope s_Grid_determinant) := ⟨rfl, rfl, rfl, by decide +kernel, rfl, by decide +kernel, by decide +kernel⟩
structure Txt (P : Program) (K : PySem.W.Frag) (mg : Str → Option Value) (base : Heap) (C : Addr) : Prop where
  u_len : mg "len" = none
  u_isinstance : mg "isinstance" = none
  u_int : mg "int" = none
  u_bool : mg "bool" = none
  u_list : mg "list" = none
  u_tuple : mg "tuple" = none
  u_range : mg "range" = none
  u_zip : mg "zip" = none
  u_enumerate : mg "enumerate" = none
  u_sum : mg "sum" = none
  u_abs : mg "abs" = none
  u_min : mg "min" = none
  sr : base.NoSeer
  tr : P.given.tree = none
  gGrid : ClsG K C
  m_Grid : mg "Grid" = some (.ref C)
  cl : Cls K C
  n_rows : NoAttr K C "rows"
  n_width : NoAttr K C "width"
abbrev FunI (K : PySem.W.Frag) (st : Stmt) (f : Addr) (fd : FuncData) : Prop := FunD K "__init__" "Grid.__init__" (defArgs st) (defBody st) (defScope st) [.non] [] f fd
section
variable {P : Program} {w : World} {K : PySem.W.Frag} {mg : Str → Option Value} {base : Heap} {C : Addr} {f : Addr} {fd : FuncData}
theorem ok_is_integer (F : Fun K "is_integer" "is_integer" s_is_integer f fd) (T : Txt P K mg base C) : FnOk P w K mg base CX0 2 f fd ["value"] (spD K rIsInt) := by
  refine okD F sc_is_integer (fun ds r h => by obtain ⟨i, rfl, _⟩ := h; rfl) fun cdv A outer s H E hr => ⟨_, (pss_one (ps_ret (pe_and (pe_callB (call_isK (K := K)) (by rfl) T.u_isinstance PyProof.Rows.boot_isinstance (pa_cons (pv 0) (pa_cons (pe_bltn (v := .ty "int") (u := .type "int") (by rfl) T.u_int (by decide +kernel) rfl) pa_nil))) (pe_one (pe_not (pe_callB (call_isK (K := K)) (by rfl) T.u_isinstance PyProof.Rows.boot_isinstance (pa_cons (pv 0) (pa_cons (pe_bltn (v := .ty "bool") (u := .type "bool") (by rfl) T.u_bool (by decide +kernel) rfl) pa_nil)))))))), ?_⟩
  intro F M ds r σ H1 D hR st krt knx
  obtain ⟨i, rfl, rfl⟩ := hR
  refine y_end (μ' := []) krt st ?_ (Ex.refl _) fun _ h => h
  refine EX.is (ex_andV (ex_isiB (b := true) (ex_var rfl) .int (by decide +kernel)) fun _ => ex_notV (ex_isiB (b := false) (ex_var rfl) .int (by decide +kernel))) rfl
theorem ok_checked (F : Fun K "_checked" "_checked" s_checked f fd) (T : Txt P K mg base C) (c_is_integer : CalG P w K mg base 2 "is_integer" (spD K rIsInt) []) : FnOk P w K mg base CX0 4 f fd ["rows", "width"] (spD K rChecked) := by
  refine okD F sc_checked (fun ds r h => by obtain ⟨d, rs, w, rfl, _⟩ := h; rfl) fun cdv A outer s H E hr => ⟨_, (pss_cons (ps_set (i := 2) sc_checked.nd rfl (Or.inl rfl) (pe_lst pa_nil))
      (pss_cons (ps_for PassesOwn.never rfl (pi_seqK (K := K) (pv 0)) (pg_name (i := 3) sc_checked.nd rfl (Or.inl rfl)) (pss_cons (ps_if (PW.pt (pw_or (pt_not (pt_val (pe_callB (call_isTK (K := K)) (by rfl) T.u_isinstance PyProof.Rows.boot_isinstance (pa_cons (pv 3) (pa_cons (pe_tup (pa_cons (pe_bltn (v := .ty "list") (u := .type "list") (by rfl) T.u_list (by decide +kernel) rfl) (pa_cons (pe_bltn (v := .ty "tuple") (u := .type "tuple") (by rfl) T.u_tuple (by decide +kernel) rfl) pa_nil))) pa_nil))))) (pw_or1 (pt_cmpR op_ne (pe_callB (call_lenK (K := K)) (by rfl) T.u_len (by decide +kernel) (pa_cons (pv 3) pa_nil)) (pv 1) (nomark _))))) (pss_one ps_never) pss_nil)
      (pss_cons (ps_for PassesOwn.never rfl (pi_seqK (K := K) (pv 3)) (pg_name (i := 4) sc_checked.nd rfl (Or.inl rfl)) (pss_one (ps_if (pt_not (pt_val (pe_cG c_is_integer hr (by decide) rfl (pa_cons (pv 4) pa_nil)))) (pss_one ps_never) pss_nil)))
      (pss_one (ps_expr (pe_bm PySem.F.plainAttrs_list PySem.F.slot_list_append PySem.F.type_list_append mt_append (pv 2) (pa_cons (pe_callTy (call_tupK (K := K)) (by rfl) T.u_tuple PyProof.Rows.boot_tuple (pa_cons (pv 3) pa_nil)) pa_nil)))))))
      (pss_one (ps_ret (pe_callTy (call_tupK (K := K)) (by rfl) T.u_tuple PyProof.Rows.boot_tuple (pa_cons (pv 2) pa_nil)))))), ?_⟩
  intro F M ds r σ H1 D hR st krt knx
  obtain ⟨d, rs, w, rfl, ⟨es, sq, hl, hrow⟩, hlen, hw, rfl⟩ := hR
  refine y_asgL st (lx_lst ax_nil) fun p σ H2 hp hpF st => ?_
  refine x_forP (fun i M1 δ1 μ1 => M1 = p :: M ∧ (∃ x3 x4, δ1 = [some d, some (.int w), some (.box p), x3, x4]) ∧ μ1 = [(p, (rs.take i).map rowT)]) st (wx_seq (ex_var rfl) sq) ⟨rfl, ⟨none, none, rfl⟩, rfl⟩ ?_ ?_
  · rintro F1 i M1 δ1 μ1 σ H3 eF hi ⟨rfl, ⟨x3, x4, rfl⟩, rfl⟩ nw st
    have hi' : i < rs.length := by omega
    have hr1 : IsRow (es.getD i .non) (rs.getD i []) := IsRows.at hl hrow hi'
    have hg : rs.getD i [] = rs[i] := by rw [List.getD_eq_getElem?_getD, List.getElem?_eq_getElem hi']; rfl
    have hwl : (rs.getD i []).length = w := by rw [hg]; exact hw _ (List.getElem_mem _)
    obtain ⟨t, ty, kit⟩ := kitLT (K := K) hr1
    generalize hd1 : es.getD i .non = d1 at hr1 ty st
    generalize hr' : rs.getD i [] = r1 at hr1 hwl hg
    refine y_skip st (TX.is (tx_or (tx_not (tx_val (ex_isi2 (ex_var rfl) ty kit))) fun _ => tx_test (ex_neI (ex_len (ex_var rfl) hr1.items) (ex_var rfl))) (by simp [hwl])) fun H4 st => ?_
    refine x_forP (fun j M1 δ1 μ1 => M1 = p :: M ∧ (∃ x4, δ1 = [some d, some (.int w), some (.box p), some d1, x4]) ∧ μ1 = [(p, (rs.take i).map rowT)]) st (wx_seq (ex_var rfl) hr1) ⟨rfl, ⟨x4, rfl⟩, rfl⟩ ?_ ?_
    · rintro F2 j M1 δ1 μ1 σ H5 eF2 hj ⟨rfl, ⟨x4, rfl⟩, rfl⟩ nw2 st
      refine y_skip st (TX.is (tx_not (tx_val (ex_call (ax_cons (EX.is (ex_var rfl) (getD_map (by simpa using hj))) ax_nil) ⟨_, rfl, rfl⟩))) rfl) fun H6 st => ?_
      exact nxt st nw2 ⟨rfl, ⟨_, rfl⟩, rfl⟩
    · rintro M1 δ1 μ1 σ H5 ⟨rfl, ⟨x4, rfl⟩, rfl⟩ nw2 st
      refine y_app (j := 0) st (ex_var rfl) (ex_tuple (ex_var rfl) hr1.items) rfl (by simp; omega) fun H6 st => ?_
      refine nxt st nw ⟨rfl, ⟨_, _, rfl⟩, ?_⟩
      simp [List.take_succ, List.getElem?_eq_getElem hi', ← hg, rowT]
  · rintro M1 δ1 μ1 σ H3 ⟨rfl, ⟨x3, x4, rfl⟩, rfl⟩ nw st
    refine y_end (μ' := [(p, (rs.take es.length).map rowT)]) krt st (EX.is (ex_tuple (ex_var rfl) (.box (j := 0) rfl)) ?_) (Ex.refl _) fun _ h => List.mem_cons_of_mem _ h
    rw [hl, List.take_length]
    rfl
theorem ok_determinant (F : Fun K "_determinant" "_determinant" s_determinant f fd) (T : Txt P K mg base C) : FnOk P w K mg base CX0 42 f fd ["rows"] (spD K rDet) := by
  refine okD F sc_determinant (fun ds r h => by obtain ⟨d, rs, _, rfl, _⟩ := h; rfl) fun cdv A outer s H E hr => ⟨_, (pss_cons (ps_set (i := 1) sc_determinant.nd rfl (Or.inr rfl) (pe_lc (own := [("row", 7)]) (g := gName 7) (tt := tYes) (by rfl) sc_determinant.nd (pi_seqK (K := K) (pv 0)) (blkOk_by (N := ["rows", "table", "size", "sign", "before", "k", "chosen", "row", "head", "i", "factor", "x", "y"]) (sc := defScope s_determinant) (own := [("row", 7)]) (by first | decide +kernel | kernel_rfl)) (fun _ _ _ _ _ => (pg_name (i := 7) sc_determinant.nd rfl (Or.inl rfl))) (fun _ _ _ _ _ => pts_nil) (fun _ _ _ _ _ => (pe_callTy (call_listK (K := K)) (by rfl) T.u_list PyProof.Rows.boot_list (pa_cons (pv 7) pa_nil)))))
      (pss_cons (ps_set (i := 2) sc_determinant.nd rfl (Or.inl rfl) (pe_callB (call_lenK (K := K)) (by rfl) T.u_len (by decide +kernel) (pa_cons (pv 1) pa_nil)))
      (pss_cons (ps_asg (pe_tup (pa_cons pe_int (pa_cons pe_int pa_nil))) (pg_tup rfl (pgs_cons (pg_name (i := 3) sc_determinant.nd rfl (Or.inl rfl)) (pgs_cons (pg_name (i := 4) sc_determinant.nd rfl (Or.inr rfl)) pgs_nil))))
      (pss_cons (ps_for PassesOwn.never rfl (pi_range1 (by rfl) T.u_range (pa_cons (pv 2) pa_nil)) (pg_name (i := 5) sc_determinant.nd rfl (Or.inr rfl)) (pss_cons (ps_setLc (i := 6) (own := [("i", 9)]) (g := gName 9) (by rfl) sc_determinant.nd rfl rfl (sw_true rfl rfl rfl (by decide +kernel)) (pi_range2 (by rfl) T.u_range (pa_cons (pv 5) (pa_cons (pv 2) pa_nil))) (blkOk_by (N := ["rows", "table", "size", "sign", "before", "k", "chosen", "row", "head", "i", "factor", "x", "y"]) (sc := defScope s_determinant) (own := [("i", 9)]) (by first | decide +kernel | kernel_rfl)) (fun _ _ _ _ _ => (pg_name (i := 9) sc_determinant.nd rfl (Or.inl rfl))) (fun _ _ _ _ _ => (pts_one (pt_cmpR op_ne (pe_ix (ix_seqK (K := K)) (pe_ix (ix_seqK (K := K)) (pv 1) (pv 9) (fun _ _ => rfl)) (pv 5) (fun _ _ => rfl)) pe_int (nomark _)))) (fun _ _ _ _ _ => (pv 9)))
      (pss_cons (ps_if (pt_cmpR op_eq (pe_callB (call_lenK (K := K)) (by rfl) T.u_len (by decide +kernel) (pa_cons (pv 6) pa_nil)) pe_int (nomark _)) (pss_one (ps_ret pe_int)) pss_nil)
      (pss_cons (ps_if (pt_cmpR op_ne (pe_ix (ix_seqK (K := K)) (pv 6) pe_int (fun _ _ => rfl)) (pv 5) (nomark _)) (pss_cons (ps_set (i := 7) sc_determinant.nd rfl (Or.inl rfl) (pe_ix (ix_seqK (K := K)) (pv 1) (pv 5) (fun _ _ => rfl)))
      (pss_cons (ps_asg (pe_ix (ix_seqK (K := K)) (pv 1) (pe_ix (ix_seqK (K := K)) (pv 6) pe_int (fun _ _ => rfl)) (fun _ _ => rfl)) (pg_sub (pv 1) (pv 5) set_list))
      (pss_cons (ps_asg (pv 7) (pg_sub (pv 1) (pe_ix (ix_seqK (K := K)) (pv 6) pe_int (fun _ _ => rfl)) set_list))
      (pss_one (ps_set (i := 3) sc_determinant.nd rfl (Or.inl rfl) (pe_un un_neg (pv 3))))))) pss_nil)
      (pss_cons (ps_set (i := 8) sc_determinant.nd rfl (Or.inr rfl) (pe_ix (ix_seqK (K := K)) (pv 1) (pv 5) (fun _ _ => rfl)))
      (pss_cons (ps_for PassesOwn.never rfl (pi_range2 (by rfl) T.u_range (pa_cons (pe_op op_add (pv 5) pe_int) (pa_cons (pv 2) pa_nil))) (pg_name (i := 9) sc_determinant.nd rfl (Or.inl rfl)) (pss_cons (ps_set (i := 10) sc_determinant.nd rfl (Or.inr rfl) (pe_ix (ix_seqK (K := K)) (pe_ix (ix_seqK (K := K)) (pv 1) (pv 9) (fun _ _ => rfl)) (pv 5) (fun _ _ => rfl)))
      (pss_one (ps_asg (pe_lc (own := [("x", 11), ("y", 12)]) (g := gTup K 2 (gCons (gName 11) (gCons (gName 12) gNil))) (tt := tYes) (by rfl) sc_determinant.nd (pi_zK (K := K) (by rfl) T.u_zip (pa_cons (pe_ix (ix_seqK (K := K)) (pv 1) (pv 9) (fun _ _ => rfl)) (pa_cons (pv 8) pa_nil))) (blkOk_by (N := ["rows", "table", "size", "sign", "before", "k", "chosen", "row", "head", "i", "factor", "x", "y"]) (sc := defScope s_determinant) (own := [("x", 11), ("y", 12)]) (by first | decide +kernel | kernel_rfl)) (fun _ _ _ _ _ => (pg_tup rfl (pgs_cons (pg_name (i := 11) sc_determinant.nd rfl (Or.inl rfl)) (pgs_cons (pg_name (i := 12) sc_determinant.nd rfl (Or.inl rfl)) pgs_nil)))) (fun _ _ _ _ _ => pts_nil) (fun _ _ _ _ _ => (pe_op (op_div T.sr T.tr hr (by decide) ⟨_, _, rfl, rfl, rfl, rfl, rfl⟩) (pe_op op_sub (pe_op op_mulB (pe_ix (ix_seqK (K := K)) (pv 8) (pv 5) (fun _ _ => rfl)) (pv 11)) (pe_op op_mulB (pv 10) (pv 12))) (pv 4)))) (pg_sub (pv 1) (pv 9) set_list)))))
      (pss_one (ps_set (i := 4) sc_determinant.nd rfl (Or.inr rfl) (pe_ix (ix_seqK (K := K)) (pv 8) (pv 5) (fun _ _ => rfl))))))))))
      (pss_one (ps_ret (pe_op op_mulB (pv 3) (pv 4)))))))), ?_⟩
  intro F M ds r σ H1 D hR st krt knx
  obtain ⟨d, rs, B0, rfl, ⟨es, sq, hl, hrow⟩, hn4, hsq, hsm, hB1, hB8, rfl⟩ := hR
  obtain ⟨n, hn⟩ : ∃ n, rs.length = n := ⟨_, rfl⟩
  have hes : es.length = n := by omega
  have o0 := det_start hsq hsm hB1
  rw [hn] at o0
  -- table
  refine y_asgL (ds := rs.map rowL) st (LX.is (lx_lc1 (wx_seq (ex_var rfl) sq) (fun i => rowL (rs.getD i [])) (by omega) (by simp) fun i hi => (lx_list (ex_var rfl) (IsRows.at hl hrow (by omega : i < rs.length)).items).ex) (by rw [hl]; exact map_getD rowL rs)) fun p σ H2 hp hpF st => ?_
  refine y_asg st (EX.is (ex_len (ex_var rfl) (.box (j := 0) rfl)) (show DV.int _ = DV.int (n : Int) by rw [List.length_map, hn])) fun σ H3 st => ?_
  refine x_tup2 st (ex_tup (ax_cons ex_int (ax_cons ex_int ax_nil))) fun σ H4 st => ?_
  refine x_forP (fun k M1 δ1 μ1 => M1 = p :: M ∧ ∃ t s b, brun n (rs, 1, 1) k = some (t, s, b) ∧ (∃ x5 x6 x7 x8 x9 x10, δ1 = [some d, some (.box p), some (.int n), some (.int s), some (.int b), x5, x6, x7, x8, x9, x10, none, none]) ∧ μ1 = [(p, t.map rowL)]) st
    (wx_range1 (ax_cons (ex_var rfl) ax_nil) (by omega) (by omega)) ⟨rfl, rs, 1, 1, rfl, ⟨_, _, _, _, _, _, rfl⟩, rfl⟩ ?_ ?_
  · rintro F1 k M1 δ1 μ1 σ H5 eF hk ⟨rfl, t, s, b, hrun, ⟨x5, x6, x7, x8, x9, x10, rfl⟩, rfl⟩ nw st
    have hk' : k < n := by simpa using hk
    have ok := brun_ok o0 k _ (by omega) hrun
    have tl : t.length = n := ok.len
    -- chosen
    refine y_asg (d := .lst ((picks t k n).map fun (c : Nat) => DV.int (c : Int))) st (EX.is (lx_lcF (wx_range2 (ax_cons (ex_var rfl) (ax_cons (ex_var rfl) ax_nil)) ⟨by omega, by omega⟩ ⟨by omega, by omega⟩) (fun j => .int ((k : Int) + (j : Nat))) (fun j => !decide (en t (k + j) k = 0)) (by omega) (by simp) (fun j hj => ?_) fun j hj _ => ex_var rfl).ex ?_) fun σ H6 st => ?_
    · have hj' : k + j < n := by omega
      refine tx_test (ex_neI (ex_ix (ex_ix (e := rowL (t.getD (k + j) [])) (i := ((k + j : Nat) : Int)) (ex_var rfl) (EX.is (ex_var rfl) (by rw [Int.natCast_add])) (.box (j := 0) rfl) (atI_row (by omega))) (ex_var rfl) (.lst _) (atI_int ?_)) ex_int)
      rw [ok.row (k + j) hj']
      exact hk'
    · unfold picks
      rw [show ((n : Int) - (k : Int)).toNat = n - k by omega]
      simp [List.map_map, Function.comp_def]
    refine y_if (b := decide (((picks t k n).length : Int) = 0)) st (TX.is (tx_test (ex_eqI (ex_len (ex_var rfl) (.lst _)) ex_int)) (by simp)) (fun hb H7 st => ?_) fun hb H7 st => ?_
    · refine y_end (μ' := [(p, t.map rowL)]) krt st (EX.is ex_int ?_) eF fun _ h => List.mem_cons_of_mem _ h
      have hp0 : picks t k n = [] := by
        have := of_decide_eq_true hb
        exact List.eq_nil_of_length_eq_zero (by omega)
      rw [bar_zero (k := k) (by omega) (by rw [hn]; exact hrun) (by rw [hn]; exact hp0)]
    · obtain ⟨c, cs, hpc⟩ : ∃ c cs, picks t k n = c :: cs := by
        cases q : picks t k n with
        | nil => rw [q] at hb; simp at hb
        | cons c cs => exact ⟨c, cs, rfl⟩
      obtain ⟨c1, c2, c3⟩ := picks_mem (t := t) (k := k) (n := n) (c := c) (by rw [hpc]; simp)
      have hstep : brun n (rs, 1, 1) (k + 1) = bstep n k (t, s, b) := by
        show (brun n (rs, 1, 1) k).bind _ = _
        rw [hrun]
        rfl
      have hat0 : L2.atI ((picks t k n).map fun (c : Nat) => DV.int (c : Int)) 0 = some (.int c) := by rw [hpc]; exact atI_head
      have hkt : k < t.length := by omega
      have hct : c < t.length := by omega
      refine y_if (b := !decide ((c : Int) = k)) st (tx_test (ex_neI (ex_ix (ex_var rfl) ex_int (.lst _) hat0) (ex_var rfl))) (fun hb H7 st => ?swapped) fun hb H7 st => ?same
      case' swapped =>
        have hck : c ≠ k := fun e => by rw [e] at hb; simp at hb
        refine y_asg st (ex_ix (ex_var rfl) (ex_var rfl) (.box (j := 0) rfl) (atI_row hkt)) fun σ H8 st => ?_
        refine y_setL (j := 0) st (ex_ix (ex_var rfl) (ex_ix (ex_var rfl) ex_int (.lst _) hat0) (.box (j := 0) rfl) (atI_row hct)) (ex_var rfl) (ex_var rfl) rfl (ixN_of (by simpa using hkt)) fun H9 st => ?_
        refine y_setL (j := 0) st (ex_var rfl) (ex_var rfl) (ex_ix (ex_var rfl) ex_int (.lst _) hat0) rfl (ixN_of (by simpa using hct)) fun H9 st => ?_
        refine y_asg st (ex_U (ex_var rfl)) fun σ H10 st => ?_
        obtain ⟨t2, s2, x7, o2, hz2, hr2, st⟩ : ∃ t2 s2 x7, BOk B0 n k (t2, s2, b) ∧ en t2 k k ≠ 0 ∧ brun n (rs, 1, 1) (k + 1) = some (inn (t2.getD k []) b k t2 (n - (k + 1)), s2, en t2 k k) ∧
            Sta K F1 (p :: M) [some d, some (.box p), some (.int n), some (.int s2), some (.int b), some (.int k), some (.lst ((picks t k n).map fun (c : Nat) => DV.int (c : Int))), x7, x8, x9, x10, none, none] [(p, t2.map rowL)] σ H10 := by
          refine ⟨swp t k c, -s, some (rowL (t.getD k [])), swp_ok hk' c2 ok (by have := ok.ss; simpa using this), by rw [swp_en tl hk' c2 hck]; exact c3, ?_, ?_⟩
          · rw [hstep]
            unfold bstep
            simp only [hpc]
            rw [if_neg hck]
          · have e : (swp t k c).map rowL = ((t.map rowL).set k (rowL (t.getD c []))).set c (rowL (t.getD k [])) := by
              unfold swp
              rw [map_set_row, map_set_row]
            rw [e]
            exact st
      case' same =>
        have hck : c = k := by
          simp at hb
          omega
        obtain ⟨t2, s2, x7, o2, hz2, hr2, st⟩ : ∃ t2 s2 x7, BOk B0 n k (t2, s2, b) ∧ en t2 k k ≠ 0 ∧ brun n (rs, 1, 1) (k + 1) = some (inn (t2.getD k []) b k t2 (n - (k + 1)), s2, en t2 k k) ∧
            Sta K F1 (p :: M) [some d, some (.box p), some (.int n), some (.int s2), some (.int b), some (.int k), some (.lst ((picks t k n).map fun (c : Nat) => DV.int (c : Int))), x7, x8, x9, x10, none, none] [(p, t2.map rowL)] σ H7 := by
          refine ⟨t, s, _, ok, by rw [← hck] at c3 ⊢; exact c3, ?_, st⟩
          rw [hstep]
          unfold bstep
          simp only [hpc]
          rw [if_pos hck]
      all_goals
        have tl2 : t2.length = n := o2.len
        have hk2 : k < t2.length := by omega
        have hkr : k < (t2.getD k []).length := by rw [o2.row k hk']; exact hk'
        have hbk := bk3 (B0 := B0) (k := k) (by omega)
        refine y_asg st (ex_ix (ex_var rfl) (ex_var rfl) (.box (j := 0) rfl) (atI_row hk2)) fun σ H11 st => ?_
        refine x_forP (fun m M1 δ1 μ1 => M1 = p :: M ∧ (∃ x9 x10, δ1 = [some d, some (.box p), some (.int n), some (.int s2), some (.int b), some (.int k), some (.lst ((picks t k n).map fun (c : Nat) => DV.int (c : Int))), x7, some (rowL (t2.getD k [])), x9, x10, none, none]) ∧ μ1 = [(p, (inn (t2.getD k []) b k t2 m).map rowL)]) st
          (wx_range2 (m := (k : Int) + 1) (n := (n : Int)) (ax_cons (ex_add (ex_var rfl) ex_int) (ax_cons (ex_var rfl) ax_nil)) ⟨by omega, by omega⟩ ⟨by omega, by omega⟩) ⟨rfl, ⟨_, _, rfl⟩, rfl⟩ ?_ ?_
        · rintro F2 m M1 δ1 μ1 σ H12 eF2 hm ⟨rfl, ⟨x9, x10, rfl⟩, rfl⟩ nw2 st
          have hm' : k + 1 + m < n := by omega
          have hil : (inn (t2.getD k []) b k t2 m).length = n := (inn_len m).trans tl2
          have hir : (inn (t2.getD k []) b k t2 m).getD (k + 1 + m) [] = t2.getD (k + 1 + m) [] := by rw [inn_get m _ (by omega), if_neg (by omega)]
          have hrl := o2.row (k + 1 + m) hm'
          have ci : DV.int ((k : Int) + 1 + (m : Nat)) = DV.int ((k + 1 + m : Nat) : Int) := by rw [Int.natCast_add, Int.natCast_add]; rfl
          refine y_asg (d := .int (en (inn (t2.getD k []) b k t2 m) (k + 1 + m) k)) st (ex_ix (ex_ix (ex_var rfl) (EX.is (ex_var rfl) ci) (.box (j := 0) rfl) (atI_row (by omega))) (ex_var rfl) (.lst _) (atI_int (by rw [hir, hrl]; exact hk'))) fun σ H13 st => ?_
          refine y_setL (j := 0) (d := rowL (elimRow (t2.getD k []) (en (inn (t2.getD k []) b k t2 m) (k + 1 + m) k) b k ((inn (t2.getD k []) b k t2 m).getD (k + 1 + m) []))) st (EX.is (lx_lc1 (wx_zip (ax_cons (ex_ix (ex_var rfl) (EX.is (ex_var rfl) ci) (.box (j := 0) rfl) (atI_row (t := inn (t2.getD k []) b k t2 m) (i := k + 1 + m) (by omega))) (ax_cons (ex_var rfl) ax_nil)) (isL _) (isL _) rfl)
            (fun j => .int (((t2.getD k []).getD k 0 * ((inn (t2.getD k []) b k t2 m).getD (k + 1 + m) []).getD j 0 - en (inn (t2.getD k []) b k t2 m) (k + 1 + m) k * (t2.getD k []).getD j 0).fdiv b)) (by rw [List.length_map, List.length_map, hir]; have h1 : (t2.getD k []).length = n := o2.row k hk'; have h2 : (t2.getD (k + 1 + m) []).length = n := hrl; omega) (by simp) fun j hj => ?_).ex ?_) (ex_var rfl) (EX.is (ex_var rfl) ci) rfl (ixN_of (by simpa using (by omega : k + 1 + m < (inn (t2.getD k []) b k t2 m).length))) fun H14 st => ?_
          · rw [List.length_map, List.length_map] at hj
            have e1 : en (inn (t2.getD k []) b k t2 m) (k + 1 + m) k = (t2.getD (k + 1 + m) []).getD k 0 := by unfold en; rw [hir]
            have c1 : CMulB ((t2.getD k []).getD k 0) (((inn (t2.getD k []) b k t2 m).getD (k + 1 + m) []).getD j 0) := smMul (getD_sm (o2.sm k) k) (by rw [hir]; exact getD_sm (o2.sm (k + 1 + m)) j) (by omega)
            have c2 : CMulB (en (inn (t2.getD k []) b k t2 m) (k + 1 + m) k) ((t2.getD k []).getD j 0) := smMul (by rw [e1]; exact getD_sm (o2.sm (k + 1 + m)) k) (getD_sm (o2.sm k) j) (by omega)
            have g1 := getD_map (r := (inn (t2.getD k []) b k t2 m).getD (k + 1 + m) []) (i := j) (by omega)
            have g2 := getD_map (r := t2.getD k []) (i := j) (by omega)
            exact ex_fdiv (ex_sub (ex_mul (ex_ix (ex_var rfl) (ex_var rfl) (.lst _) (atI_int hkr)) (EX.is (ex_var rfl) g1) c1) (ex_mul (ex_var rfl) (EX.is (ex_var rfl) g2) c2)) (ex_var rfl) o2.nz
          · show DV.lst _ = DV.lst _
            unfold elimRow
            simp [Function.comp_def]
          · refine nxt st nw2 ⟨rfl, ⟨_, _, rfl⟩, ?_⟩
            show [(p, List.set _ _ _)] = _
            rw [map_set_row]
            rfl
        · rintro M1 δ1 μ1 σ H12 ⟨rfl, ⟨x9, x10, rfl⟩, rfl⟩ nw2 st
          rw [show ((n : Int) - ((k : Int) + 1)).toNat = n - (k + 1) by omega] at st
          refine y_asg (d := .int (en t2 k k)) st (ex_ix (ex_var rfl) (ex_var rfl) (.lst _) (atI_int hkr)) fun σ H13 st => ?_
          exact nxt st nw ⟨rfl, _, s2, _, hr2, ⟨_, _, _, _, _, _, rfl⟩, rfl⟩
  · rintro M1 δ1 μ1 σ H5 ⟨rfl, t, s, b, hrun, ⟨x5, x6, x7, x8, x9, x10, rfl⟩, rfl⟩ nw st
    rw [show ((n : Int)).toNat = n by omega] at hrun
    have ok := brun_ok o0 n _ (by omega) hrun
    refine y_end (μ' := [(p, t.map rowL)]) krt st (EX.is (ex_I (ex_var rfl) (ex_var rfl) ?_) ?_) (Ex.refl _) fun _ h => List.mem_cons_of_mem _ h
    · have h1 : s.natAbs ≤ 1 := ok.ss
      exact smMul (A := 2) (B := bk B0 n) (by omega) ok.bs (by have := bk4 (B0 := B0) (k := n) (by omega); omega)
    · show DV.int (s * b) = _
      unfold bar
      rw [hn, hrun]
theorem ok_init (F : FunI K s_Grid_init f fd) (T : Txt P K mg base C) (c_checked : CalG P w K mg base 4 "_checked" (spD K rChecked) []) : FnOk P w K mg base CX0 6 f fd ["self", "rows", "width"] (spI K C rInit) := by
  refine okI F sc_Grid_init (fun ds fs h => by obtain ⟨d, e, rs, w, rfl, _⟩ := h; rfl) fun cdv A outer s H E hr => ⟨_, (pss_cons (ps_if (pt_not (pt_val (pe_callB (call_isTK (K := K)) (by rfl) T.u_isinstance PyProof.Rows.boot_isinstance (pa_cons (pv 1) (pa_cons (pe_tup (pa_cons (pe_bltn (v := .ty "list") (u := .type "list") (by rfl) T.u_list (by decide +kernel) rfl) (pa_cons (pe_bltn (v := .ty "tuple") (u := .type "tuple") (by rfl) T.u_tuple (by decide +kernel) rfl) pa_nil))) pa_nil))))) (pss_one ps_never) pss_nil)
      (pss_cons (ps_if (pt_cmpR op_isN (pv 2) pe_non (nomark _)) (pss_cons (ps_set (i := 2) sc_Grid_init.nd rfl (Or.inl rfl) pe_int)
      (pss_one (ps_if (PW.pt (pw_and (pt_cmpR op_gt (pe_callB (call_lenK (K := K)) (by rfl) T.u_len (by decide +kernel) (pa_cons (pv 1) pa_nil)) pe_int (nomark _)) (pw_and1 (pt_val (pe_callB (call_isTK (K := K)) (by rfl) T.u_isinstance PyProof.Rows.boot_isinstance (pa_cons (pe_ix (ix_seqK (K := K)) (pv 1) pe_int (fun _ _ => rfl)) (pa_cons (pe_tup (pa_cons (pe_bltn (v := .ty "list") (u := .type "list") (by rfl) T.u_list (by decide +kernel) rfl) (pa_cons (pe_bltn (v := .ty "tuple") (u := .type "tuple") (by rfl) T.u_tuple (by decide +kernel) rfl) pa_nil))) pa_nil))))))) (pss_one (ps_set (i := 2) sc_Grid_init.nd rfl (Or.inl rfl) (pe_callB (call_lenK (K := K)) (by rfl) T.u_len (by decide +kernel) (pa_cons (pe_ix (ix_seqK (K := K)) (pv 1) pe_int (fun _ _ => rfl)) pa_nil)))) pss_nil))) pss_nil)
      (pss_cons (ps_fld (pv 0) (pe_cG c_checked hr (by decide) rfl (pa_cons (pv 1) (pa_cons (pv 2) pa_nil))) rfl)
      (pss_one (ps_fld (pv 0) (pv 2) rfl))))), ?_⟩
  intro F M x dx ds fs σ H1 D hR hx hF st knx
  obtain ⟨d, e, rs, w, rfl, ⟨es, sq, hl, hrow⟩, hlen, hwb, hw, he, rfl⟩ := hR
  have hrs : IsRows d rs := ⟨es, sq, hl, hrow⟩
  obtain ⟨t, ty, kit⟩ := kitLT (K := K) sq
  refine y_skip st (TX.is (tx_not (tx_val (ex_isi2 (ex_var rfl) ty kit))) rfl) fun H2 st => ?_
  rcases he with rfl | ⟨rfl, h0⟩
  case' inl =>
    refine y_skip st (TX.is (tx_test (ex_isN (ex_var rfl))) rfl) fun H3 st => ?_
  case' inr =>
    refine y_if (b := true) st (TX.is (tx_test (ex_isN (ex_var rfl))) rfl) (fun _ H3 st => ?_) (fun h => by cases h)
    refine y_asg st ex_int fun σ H4 st => ?_
    refine y_if (b := decide (0 < rs.length)) st (TX.is (tx_and (b := true) (tx_test (ex_gt (ex_len (ex_var rfl) sq.items) ex_int)) fun hb => ?_) (by simp [hl])) (fun hb H5 st => ?pos) fun hb H5 st => ?zero
    · have h1 : 0 < rs.length := by have := of_decide_eq_true hb; omega
      have q0 := IsRows.at hl hrow h1
      obtain ⟨t0, ty0, kit0⟩ := kitLT (K := K) q0
      refine tx_val (ex_isi2 (ex_ix (ex_var rfl) ex_int sq.items (e := es.getD 0 .non) ?_) ty0 kit0)
      have h2 : 0 < es.length := by omega
      have := atI_nat (xs := es) (i := 0) h2
      rw [List.getD_eq_getElem?_getD, List.getElem?_eq_getElem h2]
      exact this
    case' pos =>
      have h1 : 0 < rs.length := of_decide_eq_true hb
      have q0 := IsRows.at hl hrow h1
      have h2 : 0 < es.length := by omega
      have hw0 : (rs.getD 0 []).length = w := rows_at hw 0 h1
      refine y_asg (d := .int w) st (EX.is (ex_len (ex_ix (ex_var rfl) ex_int sq.items (e := es.getD 0 .non) ?hat) q0.items) ?hlen) fun σ H6 st => ?_
      case hat =>
        have := atI_nat (xs := es) (i := 0) h2
        rw [List.getD_eq_getElem?_getD, List.getElem?_eq_getElem h2]
        exact this
      case hlen =>
        rw [List.length_map, hw0]
    case' zero =>
      have h1 : rs = [] := List.eq_nil_of_length_eq_zero (by have := of_decide_eq_false hb; omega)
      have hw0 := h0 h1
      subst hw0
  all_goals
    refine x_fldI (μ' := []) st .nil hx hF (fun p hp => nomatch hp) (ex_call (ax_cons (ex_var rfl) (ax_cons (ex_var rfl) ax_nil)) ⟨d, rs, _, rfl, hrs, hlen, hw, rfl⟩) (ex_var rfl) T.cl T.n_rows (by simp) rfl fun fv H7 st rf => ?_
    exact x_fldI (μ' := []) st rf hx hF (fun p hp => nomatch hp) (ex_var rfl) (ex_var rfl) T.cl T.n_width (by simp) rfl fun fv H8 st rf => knx _ _ H8 fv st rf
theorem ok_len (F : Fun K "__len__" "Grid.__len__" s_Grid_len f fd) (T : Txt P K mg base C) : FnOk P w K mg base CX0 2 f fd ["self"] (spD K (rLenG C)) := by
  refine okD F sc_Grid_len (fun ds r h => by obtain ⟨rs, w, rfl, _⟩ := h; rfl) fun cdv A outer s H E hr => ⟨_, (pss_one (ps_ret (pe_callB (call_lenK (K := K)) (by rfl) T.u_len (by decide +kernel) (pa_cons (pe_fldK (K := K) (pv 0)) pa_nil)))), ?_⟩
  intro F M ds r σ H1 D hR st krt knx
  obtain ⟨rs, w, rfl, rfl⟩ := hR
  exact y_end (μ' := []) krt st (EX.is (ex_len (ex_fld (ex_var rfl) T.cl T.n_rows rfl) (.tup _)) (by simp)) (Ex.refl _) fun _ h => h
theorem ok_issq (F : Fun K "is_square" "Grid.is_square" s_Grid_is_square f fd) (T : Txt P K mg base C) : FnOk P w K mg base CX0 2 f fd ["self"] (spD K (rIsSq C)) := by
  refine okD F sc_Grid_is_square (fun ds r h => by obtain ⟨a, w, rfl, _⟩ := h; rfl) fun cdv A outer s H E hr => ⟨_, (pss_one (ps_ret (pe_cmpR op_eq (pe_callB (call_lenK (K := K)) (by rfl) T.u_len (by decide +kernel) (pa_cons (pe_fldK (K := K) (pv 0)) pa_nil)) (pe_fldK (K := K) (pv 0)) (nomark _)))), ?_⟩
  intro F M ds r σ H1 D hR st krt knx
  obtain ⟨a, w, rfl, rfl⟩ := hR
  refine y_end (μ' := []) krt st (EX.is (ex_eqI (ex_len (ex_fld (ex_var rfl) T.cl T.n_rows rfl) (.tup _)) (ex_fld (ex_var rfl) T.cl T.n_width rfl)) ?_) (Ex.refl _) fun _ h => h
  rw [List.length_map]
  congr 1
  exact decide_eq_decide.mpr (by omega)
theorem ok_detG (F : Fun K "determinant" "Grid.determinant" s_Grid_determinant f fd) (T : Txt P K mg base C) (m_Grid_is_square : MetG P w K mg base 2 C "is_square" (spD K (rIsSq C))) (c_determinant : CalG P w K mg base 42 "_determinant" (spD K rDet) []) : FnOk P w K mg base CX0 44 f fd ["self"] (spD K (rDetG C)) := by
  refine okD F sc_Grid_determinant (fun ds r h => by obtain ⟨a, w, _, rfl, _⟩ := h; rfl) fun cdv A outer s H E hr => ⟨_, (pss_cons (ps_if (pt_not (pt_val (pe_mtG0 m_Grid_is_square hr (by decide) (pv 0)))) (pss_one ps_never) pss_nil)
      (pss_one (ps_ret (pe_cG c_determinant hr (by decide) rfl (pa_cons (pe_fldK (K := K) (pv 0)) pa_nil))))), ?_⟩
  intro F M ds r σ H1 D hR st krt knx
  obtain ⟨a, w, B0, rfl, ha, hB1, hB8, hl, h4, rfl⟩ := hR
  refine y_skip st (TX.is (tx_not (tx_val (ex_meth (ex_var rfl) rfl ax_nil ⟨a, w, rfl, rfl⟩))) (by simp [hl])) fun H2 st => ?_
  exact y_end (μ' := []) krt st (ex_call (ax_cons (ex_fld (ex_var rfl) T.cl T.n_rows rfl) ax_nil) ⟨_, a, B0, rfl, isRowsT a, by omega, fun x hx => by rw [ha.row x hx, hl], ha.sm, hB1, hB8, rfl⟩) (Ex.refl _) fun _ h => h
end
end G09g
set_option Elab.async false
set_option linter.all false
set_option maxRecDepth 100000
set_option maxHeartbeats 4000000
namespace G09
open PySem PySem.Spec PyProof.Rows L2 Evl G
abbrev s_Refused_init : Stmt := inClass (topS 5) 0
section
variable {P : Program} {w : World} {K : PySem.W.Frag} {mg : Str → Option Value} {base : Heap} {fd : FuncData}
theorem ok_refinit {file : Str} {R fI cc cda : Addr} (T : OexC K R) (no : PySem.W.findIn K (.ref R) "reason" = some none) (Z : SupC K file R fI cc cda "Refused.__init__" (defArgs s_Refused_init) (defBody s_Refused_init) (defScope s_Refused_init) fd) (hfile : ((P.main.file : Str) == file) = true) (htop : (P.main.scope.names.lookup ("super" : Str)).isSome = false) (hsuper : mg "super" = none) : FnOk P w K mg base (L2.CX P w) 3 fI fd ["self", "reason"] (spRI R "reason") := by
  refine okSup (k := 2) Z (N := ["self", "reason", "__class__"]) (a0 := "self") (ps := ["reason"]) (NdefX.nscope_by (by decide +kernel)) ⟨_, rfl, rfl⟩ rfl hfile htop hsuper (len := fun vs H Q E ⟨a, x, e, _⟩ => by rw [e]; rfl) (body := fun A outer s H vs Q E hsp => ?_)
  obtain ⟨a, x, rfl, hx, ha, kq⟩ := hsp
  refine ⟨a, [.str x], rfl, ha, _, _, pe_op op_add_str pe_str (pv 1), pss_one (ps_ost (pv 0) (pv 1)), fun σ H Q Q' h ⟨v, h1, i, j, h2, h3, h4, q⟩ => ⟨v, h1, i, j, h2, h3, h4, h _ _ q⟩, ?_⟩
  refine ⟨.str x, rfl, _, x, rfl, rfl, ?_, rfl, .str x, rfl, .ref a, rfl, a, R, rfl, T, no, .inl ⟨ha, fun dx h1 h2 => kq dx h1 h2⟩⟩
  rw [sizeLine_eq]
  have : ("refused: " : Str).length = 9 := by decide +kernel
  omega
end
end G09
set_option Elab.async false
set_option linter.all false
set_option maxRecDepth 100000
set_option maxHeartbeats 4000000
namespace G09
open PySem PySem.Spec PyProof.Rows L2 Evl G
abbrev s_checked := G09g.s_checked
abbrev s_determinant := G09g.s_determinant
abbrev s_Grid_init := G09g.s_Grid_init
abbrev s_Grid_len := G09g.s_Grid_len
abbrev s_Grid_is_square := G09g.s_Grid_is_square
abbrev s_Grid_determinant := G09g.s_Grid_determinant
abbrev FunI := G09g.FunI
theorem law_imp {K : PySem.W.Frag} {C_Grid C_Lattice : Addr} : ∀ vs H Q E, spD K rLaw vs H Q E → spD K (R_law C_Grid C_Lattice) vs H Q E := fun vs H Q E ⟨M, ds, r, h1, h2, ⟨ns, e1, hl, e2⟩, h4⟩ => ⟨M, ds, r, h1, h2, ⟨10, ns, true, e1, law_true ns, e2⟩, h4⟩
section
theorem all_mk {l : PySem.W.OpenLaw} {w : World} {K : PySem.W.Frag} {h : Heap} {mg : Str → Option Value} {fa C_Grid C_Lattice f_is_integer f_checked f_determinant f_content f_dot f_square_rows f_check_symmetric f_law_malformed f_law_state f_law_take f_law_gram f_law_vector f_law_product f_law_minor f_law_determinant f_law_gcd f_law f_Grid_len f_Grid_is_square f_Grid_determinant f_Grid_times f_Grid_eq f_Lattice_eq f_Lattice_contains f_Lattice_rank f_Lattice_determinant f_Lattice_content f_Lattice_is_even f_Lattice_product f_Lattice_norm f_Grid_init f_Lattice_init : Addr} (X : K.In h) (G : h.Ns mainGlobals mg) (hfa : mg "law" = some (.ref fa))
    {od_is_integer an_is_integer od_checked an_checked od_determinant an_determinant od_content an_content od_dot an_dot od_square_rows an_square_rows od_check_symmetric an_check_symmetric od_law_malformed an_law_malformed od_law_state an_law_state od_law_take an_law_take od_law_gram an_law_gram od_law_vector an_law_vector od_law_product an_law_product od_law_minor an_law_minor od_law_determinant an_law_determinant od_law_gcd an_law_gcd od_law an_law od_Grid_len an_Grid_len od_Grid_is_square an_Grid_is_square od_Grid_determinant an_Grid_determinant od_Grid_times an_Grid_times od_Grid_eq an_Grid_eq od_Lattice_eq an_Lattice_eq od_Lattice_contains an_Lattice_contains od_Lattice_rank an_Lattice_rank od_Lattice_determinant an_Lattice_determinant od_Lattice_content an_Lattice_content od_Lattice_is_even an_Lattice_is_even od_Lattice_product an_Lattice_product od_Lattice_norm an_Lattice_norm od_Grid_init an_Grid_init od_Lattice_init an_Lattice_init : Option Addr} {sl_is_integer sl_checked sl_determinant sl_content sl_dot sl_square_rows sl_check_symmetric sl_law_malformed sl_law_state sl_law_take sl_law_gram sl_law_vector sl_law_product sl_law_minor sl_law_determinant sl_law_gcd sl_law sl_Grid_len sl_Grid_is_square sl_Grid_determinant sl_Grid_times sl_Grid_eq sl_Lattice_eq sl_Lattice_contains sl_Lattice_rank sl_Lattice_determinant sl_Lattice_content sl_Lattice_is_even sl_Lattice_product sl_Lattice_norm sl_Grid_init sl_Lattice_init : Array (Option Value)} {oc_is_integer kV_is_integer dc_is_integer pm_is_integer cd_is_integer ct_is_integer oc_checked kV_checked dc_checked pm_checked cd_checked ct_checked oc_determinant kV_determinant dc_determinant pm_determinant cd_determinant ct_determinant oc_content kV_content dc_content pm_content cd_content ct_content oc_dot kV_dot dc_dot pm_dot cd_dot ct_dot oc_square_rows kV_square_rows dc_square_rows pm_square_rows cd_square_rows ct_square_rows oc_check_symmetric kV_check_symmetric dc_check_symmetric pm_check_symmetric cd_check_symmetric ct_check_symmetric oc_law_malformed kV_law_malformed dc_law_malformed pm_law_malformed cd_law_malformed ct_law_malformed oc_law_state kV_law_state dc_law_state pm_law_state cd_law_state ct_law_state oc_law_take kV_law_take dc_law_take pm_law_take cd_law_take ct_law_take oc_law_gram kV_law_gram dc_law_gram pm_law_gram cd_law_gram ct_law_gram oc_law_vector kV_law_vector dc_law_vector pm_law_vector cd_law_vector ct_law_vector oc_law_product kV_law_product dc_law_product pm_law_product cd_law_product ct_law_product oc_law_minor kV_law_minor dc_law_minor pm_law_minor cd_law_minor ct_law_minor oc_law_determinant kV_law_determinant dc_law_determinant pm_law_determinant cd_law_determinant ct_law_determinant oc_law_gcd kV_law_gcd dc_law_gcd pm_law_gcd cd_law_gcd ct_law_gcd oc_law kV_law dc_law pm_law cd_law ct_law oc_Grid_len kV_Grid_len dc_Grid_len pm_Grid_len cd_Grid_len ct_Grid_len oc_Grid_is_square kV_Grid_is_square dc_Grid_is_square pm_Grid_is_square cd_Grid_is_square ct_Grid_is_square oc_Grid_determinant kV_Grid_determinant dc_Grid_determinant pm_Grid_determinant cd_Grid_determinant ct_Grid_determinant oc_Grid_times kV_Grid_times dc_Grid_times pm_Grid_times cd_Grid_times ct_Grid_times oc_Grid_eq kV_Grid_eq dc_Grid_eq pm_Grid_eq cd_Grid_eq ct_Grid_eq oc_Lattice_eq kV_Lattice_eq dc_Lattice_eq pm_Lattice_eq cd_Lattice_eq ct_Lattice_eq oc_Lattice_contains kV_Lattice_contains dc_Lattice_contains pm_Lattice_contains cd_Lattice_contains ct_Lattice_contains oc_Lattice_rank kV_Lattice_rank dc_Lattice_rank pm_Lattice_rank cd_Lattice_rank ct_Lattice_rank oc_Lattice_determinant kV_Lattice_determinant dc_Lattice_determinant pm_Lattice_determinant cd_Lattice_determinant ct_Lattice_determinant oc_Lattice_content kV_Lattice_content dc_Lattice_content pm_Lattice_content cd_Lattice_content ct_Lattice_content oc_Lattice_is_even kV_Lattice_is_even dc_Lattice_is_even pm_Lattice_is_even cd_Lattice_is_even ct_Lattice_is_even oc_Lattice_product kV_Lattice_product dc_Lattice_product pm_Lattice_product cd_Lattice_product ct_Lattice_product oc_Lattice_norm kV_Lattice_norm dc_Lattice_norm pm_Lattice_norm cd_Lattice_norm ct_Lattice_norm oc_Grid_init kV_Grid_init dc_Grid_init pm_Grid_init cd_Grid_init ct_Grid_init oc_Lattice_init kV_Lattice_init dc_Lattice_init pm_Lattice_init cd_Lattice_init ct_Lattice_init : Value}
    {TD_Grid_init : Addr} {ocT_Grid_init : Value} {odT_Grid_init : Option Addr} {nT_Grid_init : Nat} {slT_Grid_init : Array (Option Value)}
    {tk_v_MOST_RANK : Tok} {tk_v_MOST_ITEM : Tok} {CF cM cR fI cc cda NR : Addr} {nmR qR fileR : Str} {bsR bmR subR : List Value} {vsO : Array Value} {snR : List Str} {abR : Bool} {colR : Option Bool} {ddR odI anI cddO cldC : Option Addr} {k0R k1R k2R k3R k5R : Option Value} {ocI kVI dcI pmI ctI clO clC : Value} {tfO : Tok} {slI ccsO cslC : Array (Option Value)} 
    (aC_Grid : PySem.W.nsIn K mainGlobals "Grid" = some (some (.ref C_Grid)))
    (pgC_Grid : PySem.W.plainGet K C_Grid Str.empty = true)
    (hdC_Grid : PySem.W.hasDictIn K C_Grid = true)
    (poC_Grid : PySem.W.plainOver K C_Grid = true)
    (saC_Grid : PySem.W.findIn K (.ref C_Grid) "__setattr__" = some (some (.builtin "object.__setattr__")))
    (haC_Grid : PySem.W.findIn K (.ref C_Grid) "__class__" = some (some (.builtin "object.__class__")))
    (hnC_Grid : PySem.W.specialIn K (.builtin "object.__class__") "__get__" = some (some (.builtin "getset_descriptor.__get__")))
    (htkC_Grid : PySem.W.takesIn K (.builtin "object.__class__") = some true)
    (hmC_Grid : PySem.W.mroIn K C_Grid (.type "object") = some true)
    (sfC_Grid : PySem.W.selfFirst K C_Grid = true)
    (neC_Grid : PySem.W.findIn K (.ref C_Grid) "__ne__" = some (some (.builtin "object.__ne__")))
    (mkC_Grid : PySem.W.makesIn K C_Grid = true)
    (kcC_Grid : PySem.W.keepIn K (.ref C_Grid) = true)
    (noC_Grid_rows : PySem.W.findIn K (.ref C_Grid) "rows" = some none)
    (noC_Grid_width : PySem.W.findIn K (.ref C_Grid) "width" = some none)
    (aC_Lattice : PySem.W.nsIn K mainGlobals "Lattice" = some (some (.ref C_Lattice)))
    (pgC_Lattice : PySem.W.plainGet K C_Lattice Str.empty = true)
    (hdC_Lattice : PySem.W.hasDictIn K C_Lattice = true)
    (poC_Lattice : PySem.W.plainOver K C_Lattice = true)
    (saC_Lattice : PySem.W.findIn K (.ref C_Lattice) "__setattr__" = some (some (.builtin "object.__setattr__")))
    (haC_Lattice : PySem.W.findIn K (.ref C_Lattice) "__class__" = some (some (.builtin "object.__class__")))
    (hnC_Lattice : PySem.W.specialIn K (.builtin "object.__class__") "__get__" = some (some (.builtin "getset_descriptor.__get__")))
    (htkC_Lattice : PySem.W.takesIn K (.builtin "object.__class__") = some true)
    (hmC_Lattice : PySem.W.mroIn K C_Lattice (.type "object") = some true)
    (sfC_Lattice : PySem.W.selfFirst K C_Lattice = true)
    (neC_Lattice : PySem.W.findIn K (.ref C_Lattice) "__ne__" = some (some (.builtin "object.__ne__")))
    (mkC_Lattice : PySem.W.makesIn K C_Lattice = true)
    (kcC_Lattice : PySem.W.keepIn K (.ref C_Lattice) = true)
    (noC_Lattice_gram : PySem.W.findIn K (.ref C_Lattice) "gram" = some none)
    (u_len : PySem.W.nsIn K mainGlobals "len" = some none)
    (u_isinstance : PySem.W.nsIn K mainGlobals "isinstance" = some none)
    (u_int : PySem.W.nsIn K mainGlobals "int" = some none)
    (u_bool : PySem.W.nsIn K mainGlobals "bool" = some none)
    (u_str : PySem.W.nsIn K mainGlobals "str" = some none)
    (u_list : PySem.W.nsIn K mainGlobals "list" = some none)
    (u_tuple : PySem.W.nsIn K mainGlobals "tuple" = some none)
    (u_range : PySem.W.nsIn K mainGlobals "range" = some none)
    (u_zip : PySem.W.nsIn K mainGlobals "zip" = some none)
    (u_enumerate : PySem.W.nsIn K mainGlobals "enumerate" = some none)
    (u_sum : PySem.W.nsIn K mainGlobals "sum" = some none)
    (u_abs : PySem.W.nsIn K mainGlobals "abs" = some none)
    (u_min : PySem.W.nsIn K mainGlobals "min" = some none)
    (u_max : PySem.W.nsIn K mainGlobals "max" = some none)
    (u_all : PySem.W.nsIn K mainGlobals "all" = some none)
    (u_any : PySem.W.nsIn K mainGlobals "any" = some none)
    (u_divmod : PySem.W.nsIn K mainGlobals "divmod" = some none)
    (u_sorted : PySem.W.nsIn K mainGlobals "sorted" = some none)
    (a_is_integer : PySem.W.nsIn K mainGlobals "is_integer" = some (some (.ref f_is_integer)))
    (l_is_integer : K.lookup f_is_integer = some ⟨oc_is_integer, od_is_integer, .func (PySem.W.fnOf "is_integer" "is_integer" (defArgs s_is_integer) (defBody s_is_integer) (defScope s_is_integer) .none kV_is_integer dc_is_integer pm_is_integer an_is_integer cd_is_integer ct_is_integer), sl_is_integer⟩)
    (c_is_integer : PySem.W.codeIn K cd_is_integer "is_integer" = true)
    (k_is_integer : PySem.W.keepIn K (.ref f_is_integer) = true)
    (a_checked : PySem.W.nsIn K mainGlobals "_checked" = some (some (.ref f_checked)))
    (l_checked : K.lookup f_checked = some ⟨oc_checked, od_checked, .func (PySem.W.fnOf "_checked" "_checked" (defArgs s_checked) (defBody s_checked) (defScope s_checked) .none kV_checked dc_checked pm_checked an_checked cd_checked ct_checked), sl_checked⟩)
    (c_checked : PySem.W.codeIn K cd_checked "_checked" = true)
    (k_checked : PySem.W.keepIn K (.ref f_checked) = true)
    (a_determinant : PySem.W.nsIn K mainGlobals "_determinant" = some (some (.ref f_determinant)))
    (l_determinant : K.lookup f_determinant = some ⟨oc_determinant, od_determinant, .func (PySem.W.fnOf "_determinant" "_determinant" (defArgs s_determinant) (defBody s_determinant) (defScope s_determinant) .none kV_determinant dc_determinant pm_determinant an_determinant cd_determinant ct_determinant), sl_determinant⟩)
    (c_determinant : PySem.W.codeIn K cd_determinant "_determinant" = true)
    (k_determinant : PySem.W.keepIn K (.ref f_determinant) = true)
    (a_content : PySem.W.nsIn K mainGlobals "content" = some (some (.ref f_content)))
    (l_content : K.lookup f_content = some ⟨oc_content, od_content, .func (PySem.W.fnOf "content" "content" (defArgs s_content) (defBody s_content) (defScope s_content) .none kV_content dc_content pm_content an_content cd_content ct_content), sl_content⟩)
    (c_content : PySem.W.codeIn K cd_content "content" = true)
    (k_content : PySem.W.keepIn K (.ref f_content) = true)
    (a_dot : PySem.W.nsIn K mainGlobals "dot" = some (some (.ref f_dot)))
    (l_dot : K.lookup f_dot = some ⟨oc_dot, od_dot, .func (PySem.W.fnOf "dot" "dot" (defArgs s_dot) (defBody s_dot) (defScope s_dot) .none kV_dot dc_dot pm_dot an_dot cd_dot ct_dot), sl_dot⟩)
    (c_dot : PySem.W.codeIn K cd_dot "dot" = true)
    (k_dot : PySem.W.keepIn K (.ref f_dot) = true)
    (a_square_rows : PySem.W.nsIn K mainGlobals "square_rows" = some (some (.ref f_square_rows)))
    (l_square_rows : K.lookup f_square_rows = some ⟨oc_square_rows, od_square_rows, .func (PySem.W.fnOf "square_rows" "square_rows" (defArgs s_square_rows) (defBody s_square_rows) (defScope s_square_rows) .none kV_square_rows dc_square_rows pm_square_rows an_square_rows cd_square_rows ct_square_rows), sl_square_rows⟩)
    (c_square_rows : PySem.W.codeIn K cd_square_rows "square_rows" = true)
    (k_square_rows : PySem.W.keepIn K (.ref f_square_rows) = true)
    (a_check_symmetric : PySem.W.nsIn K mainGlobals "check_symmetric" = some (some (.ref f_check_symmetric)))
    (l_check_symmetric : K.lookup f_check_symmetric = some ⟨oc_check_symmetric, od_check_symmetric, .func (PySem.W.fnOf "check_symmetric" "check_symmetric" (defArgs s_check_symmetric) (defBody s_check_symmetric) (defScope s_check_symmetric) .none kV_check_symmetric dc_check_symmetric pm_check_symmetric an_check_symmetric cd_check_symmetric ct_check_symmetric), sl_check_symmetric⟩)
    (c_check_symmetric : PySem.W.codeIn K cd_check_symmetric "check_symmetric" = true)
    (k_check_symmetric : PySem.W.keepIn K (.ref f_check_symmetric) = true)
    (a_law_malformed : PySem.W.nsIn K mainGlobals "_law_malformed" = some (some (.ref f_law_malformed)))
    (l_law_malformed : K.lookup f_law_malformed = some ⟨oc_law_malformed, od_law_malformed, .func (PySem.W.fnOf "_law_malformed" "_law_malformed" (defArgs s_law_malformed) (defBody s_law_malformed) (defScope s_law_malformed) .none kV_law_malformed dc_law_malformed pm_law_malformed an_law_malformed cd_law_malformed ct_law_malformed), sl_law_malformed⟩)
    (c_law_malformed : PySem.W.codeIn K cd_law_malformed "_law_malformed" = true)
    (k_law_malformed : PySem.W.keepIn K (.ref f_law_malformed) = true)
    (a_law_state : PySem.W.nsIn K mainGlobals "_law_state" = some (some (.ref f_law_state)))
    (l_law_state : K.lookup f_law_state = some ⟨oc_law_state, od_law_state, .func (PySem.W.fnOf "_law_state" "_law_state" (defArgs s_law_state) (defBody s_law_state) (defScope s_law_state) .none kV_law_state dc_law_state pm_law_state an_law_state cd_law_state ct_law_state), sl_law_state⟩)
    (c_law_state : PySem.W.codeIn K cd_law_state "_law_state" = true)
    (k_law_state : PySem.W.keepIn K (.ref f_law_state) = true)
    (a_law_take : PySem.W.nsIn K mainGlobals "_law_take" = some (some (.ref f_law_take)))
    (l_law_take : K.lookup f_law_take = some ⟨oc_law_take, od_law_take, .func (PySem.W.fnOf "_law_take" "_law_take" (defArgs s_law_take) (defBody s_law_take) (defScope s_law_take) .none kV_law_take dc_law_take pm_law_take an_law_take cd_law_take ct_law_take), sl_law_take⟩)
    (c_law_take : PySem.W.codeIn K cd_law_take "_law_take" = true)
    (k_law_take : PySem.W.keepIn K (.ref f_law_take) = true)
    (a_law_gram : PySem.W.nsIn K mainGlobals "_law_gram" = some (some (.ref f_law_gram)))
    (l_law_gram : K.lookup f_law_gram = some ⟨oc_law_gram, od_law_gram, .func (PySem.W.fnOf "_law_gram" "_law_gram" (defArgs s_law_gram) (defBody s_law_gram) (defScope s_law_gram) .none kV_law_gram dc_law_gram pm_law_gram an_law_gram cd_law_gram ct_law_gram), sl_law_gram⟩)
    (c_law_gram : PySem.W.codeIn K cd_law_gram "_law_gram" = true)
    (k_law_gram : PySem.W.keepIn K (.ref f_law_gram) = true)
    (a_law_vector : PySem.W.nsIn K mainGlobals "_law_vector" = some (some (.ref f_law_vector)))
    (l_law_vector : K.lookup f_law_vector = some ⟨oc_law_vector, od_law_vector, .func (PySem.W.fnOf "_law_vector" "_law_vector" (defArgs s_law_vector) (defBody s_law_vector) (defScope s_law_vector) .none kV_law_vector dc_law_vector pm_law_vector an_law_vector cd_law_vector ct_law_vector), sl_law_vector⟩)
    (c_law_vector : PySem.W.codeIn K cd_law_vector "_law_vector" = true)
    (k_law_vector : PySem.W.keepIn K (.ref f_law_vector) = true)
    (a_law_product : PySem.W.nsIn K mainGlobals "_law_product" = some (some (.ref f_law_product)))
    (l_law_product : K.lookup f_law_product = some ⟨oc_law_product, od_law_product, .func (PySem.W.fnOf "_law_product" "_law_product" (defArgs s_law_product) (defBody s_law_product) (defScope s_law_product) .none kV_law_product dc_law_product pm_law_product an_law_product cd_law_product ct_law_product), sl_law_product⟩)
    (c_law_product : PySem.W.codeIn K cd_law_product "_law_product" = true)
    (k_law_product : PySem.W.keepIn K (.ref f_law_product) = true)
    (a_law_minor : PySem.W.nsIn K mainGlobals "_law_minor" = some (some (.ref f_law_minor)))
    (l_law_minor : K.lookup f_law_minor = some ⟨oc_law_minor, od_law_minor, .func (PySem.W.fnOf "_law_minor" "_law_minor" (defArgs s_law_minor) (defBody s_law_minor) (defScope s_law_minor) .none kV_law_minor dc_law_minor pm_law_minor an_law_minor cd_law_minor ct_law_minor), sl_law_minor⟩)
    (c_law_minor : PySem.W.codeIn K cd_law_minor "_law_minor" = true)
    (k_law_minor : PySem.W.keepIn K (.ref f_law_minor) = true)
    (a_law_determinant : PySem.W.nsIn K mainGlobals "_law_determinant" = some (some (.ref f_law_determinant)))
    (l_law_determinant : K.lookup f_law_determinant = some ⟨oc_law_determinant, od_law_determinant, .func (PySem.W.fnOf "_law_determinant" "_law_determinant" (defArgs s_law_determinant) (defBody s_law_determinant) (defScope s_law_determinant) .none kV_law_determinant dc_law_determinant pm_law_determinant an_law_determinant cd_law_determinant ct_law_determinant), sl_law_determinant⟩)
    (c_law_determinant : PySem.W.codeIn K cd_law_determinant "_law_determinant" = true)
    (k_law_determinant : PySem.W.keepIn K (.ref f_law_determinant) = true)
    (a_law_gcd : PySem.W.nsIn K mainGlobals "_law_gcd" = some (some (.ref f_law_gcd)))
    (l_law_gcd : K.lookup f_law_gcd = some ⟨oc_law_gcd, od_law_gcd, .func (PySem.W.fnOf "_law_gcd" "_law_gcd" (defArgs s_law_gcd) (defBody s_law_gcd) (defScope s_law_gcd) .none kV_law_gcd dc_law_gcd pm_law_gcd an_law_gcd cd_law_gcd ct_law_gcd), sl_law_gcd⟩)
    (c_law_gcd : PySem.W.codeIn K cd_law_gcd "_law_gcd" = true)
    (k_law_gcd : PySem.W.keepIn K (.ref f_law_gcd) = true)
    (a_law : PySem.W.nsIn K mainGlobals "law" = some (some (.ref f_law)))
    (l_law : K.lookup f_law = some ⟨oc_law, od_law, .func (PySem.W.fnOf "law" "law" (defArgs s_law) (defBody s_law) (defScope s_law) .none kV_law dc_law pm_law an_law cd_law ct_law), sl_law⟩)
    (c_law : PySem.W.codeIn K cd_law "law" = true)
    (k_law : PySem.W.keepIn K (.ref f_law) = true)
    (a_Grid_len : PySem.W.findIn K (.ref C_Grid) "__len__" = some (some (.ref f_Grid_len)))
    (i_Grid_len : PySem.W.isFn K (.ref f_Grid_len) = true)
    (l_Grid_len : K.lookup f_Grid_len = some ⟨oc_Grid_len, od_Grid_len, .func (PySem.W.fnOf "__len__" "Grid.__len__" (defArgs s_Grid_len) (defBody s_Grid_len) (defScope s_Grid_len) .none kV_Grid_len dc_Grid_len pm_Grid_len an_Grid_len cd_Grid_len ct_Grid_len), sl_Grid_len⟩)
    (c_Grid_len : PySem.W.codeIn K cd_Grid_len "Grid.__len__" = true)
    (k_Grid_len : PySem.W.keepIn K (.ref f_Grid_len) = true)
    (a_Grid_is_square : PySem.W.findIn K (.ref C_Grid) "is_square" = some (some (.ref f_Grid_is_square)))
    (i_Grid_is_square : PySem.W.isFn K (.ref f_Grid_is_square) = true)
    (l_Grid_is_square : K.lookup f_Grid_is_square = some ⟨oc_Grid_is_square, od_Grid_is_square, .func (PySem.W.fnOf "is_square" "Grid.is_square" (defArgs s_Grid_is_square) (defBody s_Grid_is_square) (defScope s_Grid_is_square) .none kV_Grid_is_square dc_Grid_is_square pm_Grid_is_square an_Grid_is_square cd_Grid_is_square ct_Grid_is_square), sl_Grid_is_square⟩)
    (c_Grid_is_square : PySem.W.codeIn K cd_Grid_is_square "Grid.is_square" = true)
    (k_Grid_is_square : PySem.W.keepIn K (.ref f_Grid_is_square) = true)
    (a_Grid_determinant : PySem.W.findIn K (.ref C_Grid) "determinant" = some (some (.ref f_Grid_determinant)))
    (i_Grid_determinant : PySem.W.isFn K (.ref f_Grid_determinant) = true)
    (l_Grid_determinant : K.lookup f_Grid_determinant = some ⟨oc_Grid_determinant, od_Grid_determinant, .func (PySem.W.fnOf "determinant" "Grid.determinant" (defArgs s_Grid_determinant) (defBody s_Grid_determinant) (defScope s_Grid_determinant) .none kV_Grid_determinant dc_Grid_determinant pm_Grid_determinant an_Grid_determinant cd_Grid_determinant ct_Grid_determinant), sl_Grid_determinant⟩)
    (c_Grid_determinant : PySem.W.codeIn K cd_Grid_determinant "Grid.determinant" = true)
    (k_Grid_determinant : PySem.W.keepIn K (.ref f_Grid_determinant) = true)
    (a_Grid_times : PySem.W.findIn K (.ref C_Grid) "times" = some (some (.ref f_Grid_times)))
    (i_Grid_times : PySem.W.isFn K (.ref f_Grid_times) = true)
    (l_Grid_times : K.lookup f_Grid_times = some ⟨oc_Grid_times, od_Grid_times, .func (PySem.W.fnOf "times" "Grid.times" (defArgs s_Grid_times) (defBody s_Grid_times) (defScope s_Grid_times) .none kV_Grid_times dc_Grid_times pm_Grid_times an_Grid_times cd_Grid_times ct_Grid_times), sl_Grid_times⟩)
    (c_Grid_times : PySem.W.codeIn K cd_Grid_times "Grid.times" = true)
    (k_Grid_times : PySem.W.keepIn K (.ref f_Grid_times) = true)
    (a_Grid_eq : PySem.W.findIn K (.ref C_Grid) "__eq__" = some (some (.ref f_Grid_eq)))
    (i_Grid_eq : PySem.W.isFn K (.ref f_Grid_eq) = true)
    (l_Grid_eq : K.lookup f_Grid_eq = some ⟨oc_Grid_eq, od_Grid_eq, .func (PySem.W.fnOf "__eq__" "Grid.__eq__" (defArgs s_Grid_eq) (defBody s_Grid_eq) (defScope s_Grid_eq) .none kV_Grid_eq dc_Grid_eq pm_Grid_eq an_Grid_eq cd_Grid_eq ct_Grid_eq), sl_Grid_eq⟩)
    (c_Grid_eq : PySem.W.codeIn K cd_Grid_eq "Grid.__eq__" = true)
    (k_Grid_eq : PySem.W.keepIn K (.ref f_Grid_eq) = true)
    (a_Lattice_eq : PySem.W.findIn K (.ref C_Lattice) "__eq__" = some (some (.ref f_Lattice_eq)))
    (i_Lattice_eq : PySem.W.isFn K (.ref f_Lattice_eq) = true)
    (l_Lattice_eq : K.lookup f_Lattice_eq = some ⟨oc_Lattice_eq, od_Lattice_eq, .func (PySem.W.fnOf "__eq__" "Lattice.__eq__" (defArgs s_Lattice_eq) (defBody s_Lattice_eq) (defScope s_Lattice_eq) .none kV_Lattice_eq dc_Lattice_eq pm_Lattice_eq an_Lattice_eq cd_Lattice_eq ct_Lattice_eq), sl_Lattice_eq⟩)
    (c_Lattice_eq : PySem.W.codeIn K cd_Lattice_eq "Lattice.__eq__" = true)
    (k_Lattice_eq : PySem.W.keepIn K (.ref f_Lattice_eq) = true)
    (a_Lattice_contains : PySem.W.findIn K (.ref C_Lattice) "__contains__" = some (some (.ref f_Lattice_contains)))
    (i_Lattice_contains : PySem.W.isFn K (.ref f_Lattice_contains) = true)
    (l_Lattice_contains : K.lookup f_Lattice_contains = some ⟨oc_Lattice_contains, od_Lattice_contains, .func (PySem.W.fnOf "__contains__" "Lattice.__contains__" (defArgs s_Lattice_contains) (defBody s_Lattice_contains) (defScope s_Lattice_contains) .none kV_Lattice_contains dc_Lattice_contains pm_Lattice_contains an_Lattice_contains cd_Lattice_contains ct_Lattice_contains), sl_Lattice_contains⟩)
    (c_Lattice_contains : PySem.W.codeIn K cd_Lattice_contains "Lattice.__contains__" = true)
    (k_Lattice_contains : PySem.W.keepIn K (.ref f_Lattice_contains) = true)
    (a_Lattice_rank : PySem.W.findIn K (.ref C_Lattice) "rank" = some (some (.ref f_Lattice_rank)))
    (i_Lattice_rank : PySem.W.isFn K (.ref f_Lattice_rank) = true)
    (l_Lattice_rank : K.lookup f_Lattice_rank = some ⟨oc_Lattice_rank, od_Lattice_rank, .func (PySem.W.fnOf "rank" "Lattice.rank" (defArgs s_Lattice_rank) (defBody s_Lattice_rank) (defScope s_Lattice_rank) .none kV_Lattice_rank dc_Lattice_rank pm_Lattice_rank an_Lattice_rank cd_Lattice_rank ct_Lattice_rank), sl_Lattice_rank⟩)
    (c_Lattice_rank : PySem.W.codeIn K cd_Lattice_rank "Lattice.rank" = true)
    (k_Lattice_rank : PySem.W.keepIn K (.ref f_Lattice_rank) = true)
    (a_Lattice_determinant : PySem.W.findIn K (.ref C_Lattice) "determinant" = some (some (.ref f_Lattice_determinant)))
    (i_Lattice_determinant : PySem.W.isFn K (.ref f_Lattice_determinant) = true)
    (l_Lattice_determinant : K.lookup f_Lattice_determinant = some ⟨oc_Lattice_determinant, od_Lattice_determinant, .func (PySem.W.fnOf "determinant" "Lattice.determinant" (defArgs s_Lattice_determinant) (defBody s_Lattice_determinant) (defScope s_Lattice_determinant) .none kV_Lattice_determinant dc_Lattice_determinant pm_Lattice_determinant an_Lattice_determinant cd_Lattice_determinant ct_Lattice_determinant), sl_Lattice_determinant⟩)
    (c_Lattice_determinant : PySem.W.codeIn K cd_Lattice_determinant "Lattice.determinant" = true)
    (k_Lattice_determinant : PySem.W.keepIn K (.ref f_Lattice_determinant) = true)
    (a_Lattice_content : PySem.W.findIn K (.ref C_Lattice) "content" = some (some (.ref f_Lattice_content)))
    (i_Lattice_content : PySem.W.isFn K (.ref f_Lattice_content) = true)
    (l_Lattice_content : K.lookup f_Lattice_content = some ⟨oc_Lattice_content, od_Lattice_content, .func (PySem.W.fnOf "content" "Lattice.content" (defArgs s_Lattice_content) (defBody s_Lattice_content) (defScope s_Lattice_content) .none kV_Lattice_content dc_Lattice_content pm_Lattice_content an_Lattice_content cd_Lattice_content ct_Lattice_content), sl_Lattice_content⟩)
    (c_Lattice_content : PySem.W.codeIn K cd_Lattice_content "Lattice.content" = true)
    (k_Lattice_content : PySem.W.keepIn K (.ref f_Lattice_content) = true)
    (a_Lattice_is_even : PySem.W.findIn K (.ref C_Lattice) "is_even" = some (some (.ref f_Lattice_is_even)))
    (i_Lattice_is_even : PySem.W.isFn K (.ref f_Lattice_is_even) = true)
    (l_Lattice_is_even : K.lookup f_Lattice_is_even = some ⟨oc_Lattice_is_even, od_Lattice_is_even, .func (PySem.W.fnOf "is_even" "Lattice.is_even" (defArgs s_Lattice_is_even) (defBody s_Lattice_is_even) (defScope s_Lattice_is_even) .none kV_Lattice_is_even dc_Lattice_is_even pm_Lattice_is_even an_Lattice_is_even cd_Lattice_is_even ct_Lattice_is_even), sl_Lattice_is_even⟩)
    (c_Lattice_is_even : PySem.W.codeIn K cd_Lattice_is_even "Lattice.is_even" = true)
    (k_Lattice_is_even : PySem.W.keepIn K (.ref f_Lattice_is_even) = true)
    (a_Lattice_product : PySem.W.findIn K (.ref C_Lattice) "product" = some (some (.ref f_Lattice_product)))
    (i_Lattice_product : PySem.W.isFn K (.ref f_Lattice_product) = true)
    (l_Lattice_product : K.lookup f_Lattice_product = some ⟨oc_Lattice_product, od_Lattice_product, .func (PySem.W.fnOf "product" "Lattice.product" (defArgs s_Lattice_product) (defBody s_Lattice_product) (defScope s_Lattice_product) .none kV_Lattice_product dc_Lattice_product pm_Lattice_product an_Lattice_product cd_Lattice_product ct_Lattice_product), sl_Lattice_product⟩)
    (c_Lattice_product : PySem.W.codeIn K cd_Lattice_product "Lattice.product" = true)
    (k_Lattice_product : PySem.W.keepIn K (.ref f_Lattice_product) = true)
    (a_Lattice_norm : PySem.W.findIn K (.ref C_Lattice) "norm" = some (some (.ref f_Lattice_norm)))
    (i_Lattice_norm : PySem.W.isFn K (.ref f_Lattice_norm) = true)
    (l_Lattice_norm : K.lookup f_Lattice_norm = some ⟨oc_Lattice_norm, od_Lattice_norm, .func (PySem.W.fnOf "norm" "Lattice.norm" (defArgs s_Lattice_norm) (defBody s_Lattice_norm) (defScope s_Lattice_norm) .none kV_Lattice_norm dc_Lattice_norm pm_Lattice_norm an_Lattice_norm cd_Lattice_norm ct_Lattice_norm), sl_Lattice_norm⟩)
    (c_Lattice_norm : PySem.W.codeIn K cd_Lattice_norm "Lattice.norm" = true)
    (k_Lattice_norm : PySem.W.keepIn K (.ref f_Lattice_norm) = true)
    (a_Grid_init : PySem.W.findIn K (.ref C_Grid) "__init__" = some (some (.ref f_Grid_init)))
    (i_Grid_init : PySem.W.isFn K (.ref f_Grid_init) = true)
    (l_Grid_init : K.lookup f_Grid_init = some ⟨oc_Grid_init, od_Grid_init, .func (PySem.W.fnOf "__init__" "Grid.__init__" (defArgs s_Grid_init) (defBody s_Grid_init) (defScope s_Grid_init) (.ref TD_Grid_init) kV_Grid_init dc_Grid_init pm_Grid_init an_Grid_init cd_Grid_init ct_Grid_init), sl_Grid_init⟩)
    (c_Grid_init : PySem.W.codeIn K cd_Grid_init "Grid.__init__" = true)
    (k_Grid_init : PySem.W.keepIn K (.ref f_Grid_init) = true)
    (t_Grid_init : K.lookup TD_Grid_init = some ⟨ocT_Grid_init, odT_Grid_init, .seq #[.none] nT_Grid_init, slT_Grid_init⟩)
    (a_Lattice_init : PySem.W.findIn K (.ref C_Lattice) "__init__" = some (some (.ref f_Lattice_init)))
    (i_Lattice_init : PySem.W.isFn K (.ref f_Lattice_init) = true)
    (l_Lattice_init : K.lookup f_Lattice_init = some ⟨oc_Lattice_init, od_Lattice_init, .func (PySem.W.fnOf "__init__" "Lattice.__init__" (defArgs s_Lattice_init) (defBody s_Lattice_init) (defScope s_Lattice_init) .none kV_Lattice_init dc_Lattice_init pm_Lattice_init an_Lattice_init cd_Lattice_init ct_Lattice_init), sl_Lattice_init⟩)
    (c_Lattice_init : PySem.W.codeIn K cd_Lattice_init "Lattice.__init__" = true)
    (k_Lattice_init : PySem.W.keepIn K (.ref f_Lattice_init) = true)
    (ci_C_Grid : PySem.W.isClsIn K C_Grid = true)
    (cy_C_Grid : PySem.W.typeIn K (.ref C_Grid) = some (.type "type"))
    (cs_list_C_Grid : PySem.W.subIn K (.type "list") (.ref C_Grid) = some false)
    (cs_tuple_C_Grid : PySem.W.subIn K (.type "tuple") (.ref C_Grid) = some false)
    (cs_str_C_Grid : PySem.W.subIn K (.type "str") (.ref C_Grid) = some false)
    (cs_int_C_Grid : PySem.W.subIn K (.type "int") (.ref C_Grid) = some false)
    (cs_NoneType_C_Grid : PySem.W.subIn K (.type "NoneType") (.ref C_Grid) = some false)
    (ci_C_Lattice : PySem.W.isClsIn K C_Lattice = true)
    (cy_C_Lattice : PySem.W.typeIn K (.ref C_Lattice) = some (.type "type"))
    (cn_C_Grid_C_Lattice : (Value.ref C_Grid == Value.ref C_Lattice) = false)
    (cs_C_Grid_C_Lattice : PySem.W.subIn K (.ref C_Grid) (.ref C_Lattice) = some false)
    (cs_C_Grid_tuple : PySem.W.subIn K (.ref C_Grid) (.type "tuple") = some false)
    (cs_C_Grid_list : PySem.W.subIn K (.ref C_Grid) (.type "list") = some false)
    (z_snf_Grid : PySem.W.notFirst K C_Grid (.type "str") = true)
    (z_nfn_Grid : PySem.W.notFirst K C_Grid (.type "NoneType") = true)
    (z_nff_Grid_Lattice : PySem.W.notFirst K C_Grid (.ref C_Lattice) = true)
    (cs_list_C_Lattice : PySem.W.subIn K (.type "list") (.ref C_Lattice) = some false)
    (cs_tuple_C_Lattice : PySem.W.subIn K (.type "tuple") (.ref C_Lattice) = some false)
    (cs_str_C_Lattice : PySem.W.subIn K (.type "str") (.ref C_Lattice) = some false)
    (cs_int_C_Lattice : PySem.W.subIn K (.type "int") (.ref C_Lattice) = some false)
    (cs_NoneType_C_Lattice : PySem.W.subIn K (.type "NoneType") (.ref C_Lattice) = some false)
    (cn_C_Lattice_C_Grid : (Value.ref C_Lattice == Value.ref C_Grid) = false)
    (cs_C_Lattice_C_Grid : PySem.W.subIn K (.ref C_Lattice) (.ref C_Grid) = some false)
    (cs_C_Lattice_tuple : PySem.W.subIn K (.ref C_Lattice) (.type "tuple") = some false)
    (cs_C_Lattice_list : PySem.W.subIn K (.ref C_Lattice) (.type "list") = some false)
    (z_snf_Lattice : PySem.W.notFirst K C_Lattice (.type "str") = true)
    (z_nfn_Lattice : PySem.W.notFirst K C_Lattice (.type "NoneType") = true)
    (z_nff_Lattice_Grid : PySem.W.notFirst K C_Lattice (.ref C_Grid) = true)
    (z_v_MOST_RANK : PySem.W.nsIn K mainGlobals "MOST_RANK" = some (some (.int 4 tk_v_MOST_RANK)))
    (z_v_MOST_ITEM : PySem.W.nsIn K mainGlobals "MOST_ITEM" = some (some (.int 10000 tk_v_MOST_ITEM)))
    (z_i_gcd : PySem.W.nsIn K mainGlobals "gcd" = some (some (.builtin "math.gcd")))
    (aF : PySem.W.nsIn K mainGlobals "Fault" = some (some (.ref CF)))
    (aM : PySem.W.nsIn K mainGlobals "Malformed" = some (some (.ref cM)))
    (qM : PySem.W.excIn K cM [.type "ValueError", .type "Exception", .type "BaseException", .type "object"] "ValueError.__new__" = true)
    (kM : PySem.W.keepIn K (.ref cM) = true)
    (bM : PySem.W.subIn K (.ref cM) (.type "BaseException") = some true)
    (tM : PySem.W.typeIn K (.ref cM) = some (.type "type"))
    (iM : PySem.W.isClsIn K cM = true)
    (sM : PySem.W.subIn K (.ref cM) (.ref cM) = some true)
    (aR : PySem.W.nsIn K mainGlobals "Refused" = some (some (.ref cR)))
    (rL : K.lookup cR = some (PySem.excClassObj nmR qR cR NR bsR bmR true snR subR abR colR ddR k0R k1R k2R k3R k5R "ValueError.__new__"))
    (rV : PySem.HandSPX.refsVE bmR = true)
    (rS : PySem.W.findIn K (.ref cR) "__setattr__" = some (some (.builtin "object.__setattr__")))
    (rB : PySem.W.subIn K (.ref cR) (.type "BaseException") = some true)
    (rT : PySem.W.typeIn K (.ref cR) = some (.type "type"))
    (rK : PySem.W.keepIn K (.ref cR) = true)
    (rIs : PySem.W.isClsIn K cR = true)
    (rHd : PySem.W.hasDictIn K cR = true)
    (rGa : PySem.W.findIn K (.ref cR) "__getattribute__" = some (some (.builtin "BaseException.__getattribute__")))
    (rGg : PySem.W.findIn K (.ref cR) "__getattr__" = some none)
    (rHa : PySem.W.findIn K (.ref cR) "__class__" = some (some (.builtin "object.__class__")))
    (rHn : PySem.W.specialIn K (.builtin "object.__class__") "__get__" = some (some (.builtin "getset_descriptor.__get__")))
    (rHt : PySem.W.takesIn K (.builtin "object.__class__") = some true)
    (rHm : PySem.W.mroIn K cR (.type "object") = some true)
    (rNo : PySem.W.findIn K (.ref cR) "reason" = some none)
    (rI : PySem.W.findIn K (.ref cR) "__init__" = some (some (.ref fI)))
    (rIT : PySem.W.typeIn K (.ref fI) = some (.type "function"))
    (rIL : K.lookup fI = some ⟨ocI, odI, .func (PySem.W.fnX "__init__" "Refused.__init__" (defArgs s_Refused_init) (defBody s_Refused_init) (defScope s_Refused_init) [("__class__", cc)] .none kVI dcI pmI anI (.ref cda) ctI), slI⟩)
    (rIC : PySem.W.codeIn K (.ref cda) "Refused.__init__" = true)
    (rCO : K.lookup cda = some ⟨clO, cddO, .fields vsO, ccsO⟩)
    (rCV : vsO[2]? = some (.str fileR tfO))
    (rCell : K.lookup cc = some ⟨clC, cldC, .cell (some (.ref cR)), cslC⟩)
    (rSub : PySem.W.mroIn K cR (.ref cR) = some true)
    (rSup : PySem.W.ks_superIn K cR cR "__init__" = some (some (.builtin "ValueError.__init__")))
    (rVE : PySem.W.subIn K (.ref cR) (.type "ValueError") = some true)
    (rPl : PySem.W.nsIn K cStatics "thirdparty.any" = some none)
    (uSuper : PySem.W.nsIn K mainGlobals "super" = some none)
    (sRM : PySem.W.subIn K (.ref cR) (.ref cM) = some false)
    (sRR : PySem.W.subIn K (.ref cR) (.ref cR) = some true)
    (hfR : ((l.prog.main.file : Str) == fileR) = true)
    (htR : (l.prog.main.scope.names.lookup ("super" : Str)).isSome = false)
    (z_al_content_whole : PySem.W.nsIn K mainGlobals "content_whole" = some (some (.ref f_content)))
    (tr : l.prog.given.tree = none)
    : ∃ fd : FuncData, (∀ (s : Shared) (v : Value), BindsTo s fd ⟨[v], []⟩ [("_law_script", v)]) ∧ ∀ base : Heap, K.In base → base.Ns mainGlobals mg → base.NoSeer → FnOk l.prog w K mg base CX0 47 fa fd ["_law_script"] (spD K rLaw) := by
  have e := hfa.symm.trans (PySem.W.mg_of X G a_law)
  cases e
  have F_is_integer := fun_mk (st := s_is_integer) l_is_integer c_is_integer k_is_integer
  have b_is_integer := F_is_integer.binds (ps := ["value"]) fun _ _ _ _ _ _ us hl => match us, hl with | [_], _ => rfl
  have m_is_integer := PySem.W.mg_of X G a_is_integer
  have F_checked := fun_mk (st := s_checked) l_checked c_checked k_checked
  have b_checked := F_checked.binds (ps := ["rows", "width"]) fun _ _ _ _ _ _ us hl => match us, hl with | [_, _], _ => rfl
  have m_checked := PySem.W.mg_of X G a_checked
  have F_determinant := fun_mk (st := s_determinant) l_determinant c_determinant k_determinant
  have b_determinant := F_determinant.binds (ps := ["rows"]) fun _ _ _ _ _ _ us hl => match us, hl with | [_], _ => rfl
  have m_determinant := PySem.W.mg_of X G a_determinant
  have F_content := fun_mk (st := s_content) l_content c_content k_content
  have b_content := F_content.binds (ps := ["numbers"]) fun _ _ _ _ _ _ us hl => match us, hl with | [_], _ => rfl
  have m_content := PySem.W.mg_of X G a_content
  have F_dot := fun_mk (st := s_dot) l_dot c_dot k_dot
  have b_dot := F_dot.binds (ps := ["a", "b"]) fun _ _ _ _ _ _ us hl => match us, hl with | [_, _], _ => rfl
  have m_dot := PySem.W.mg_of X G a_dot
  have F_square_rows := fun_mk (st := s_square_rows) l_square_rows c_square_rows k_square_rows
  have b_square_rows := F_square_rows.binds (ps := ["gram"]) fun _ _ _ _ _ _ us hl => match us, hl with | [_], _ => rfl
  have m_square_rows := PySem.W.mg_of X G a_square_rows
  have F_check_symmetric := fun_mk (st := s_check_symmetric) l_check_symmetric c_check_symmetric k_check_symmetric
  have b_check_symmetric := F_check_symmetric.binds (ps := ["rows"]) fun _ _ _ _ _ _ us hl => match us, hl with | [_], _ => rfl
  have m_check_symmetric := PySem.W.mg_of X G a_check_symmetric
  have F_law_malformed := fun_mk (st := s_law_malformed) l_law_malformed c_law_malformed k_law_malformed
  have b_law_malformed := F_law_malformed.binds (ps := ["_law_lattice", "_law_value", "_law_v"]) fun _ _ _ _ _ _ us hl => match us, hl with | [_, _, _], _ => rfl
  have m_law_malformed := PySem.W.mg_of X G a_law_malformed
  have F_law_state := fun_mk (st := s_law_state) l_law_state c_law_state k_law_state
  have b_law_state := F_law_state.binds (ps := ["_law_script"]) fun _ _ _ _ _ _ us hl => match us, hl with | [_], _ => rfl
  have m_law_state := PySem.W.mg_of X G a_law_state
  have F_law_take := fun_mk (st := s_law_take) l_law_take c_law_take k_law_take
  have b_law_take := F_law_take.binds (ps := ["_law_state_here", "_law_m"]) fun _ _ _ _ _ _ us hl => match us, hl with | [_, _], _ => rfl
  have m_law_take := PySem.W.mg_of X G a_law_take
  have F_law_gram := fun_mk (st := s_law_gram) l_law_gram c_law_gram k_law_gram
  have b_law_gram := F_law_gram.binds (ps := ["_law_state_here", "_law_most"]) fun _ _ _ _ _ _ us hl => match us, hl with | [_, _], _ => rfl
  have m_law_gram := PySem.W.mg_of X G a_law_gram
  have F_law_vector := fun_mk (st := s_law_vector) l_law_vector c_law_vector k_law_vector
  have b_law_vector := F_law_vector.binds (ps := ["_law_state_here", "_law_size", "_law_most"]) fun _ _ _ _ _ _ us hl => match us, hl with | [_, _, _], _ => rfl
  have m_law_vector := PySem.W.mg_of X G a_law_vector
  have F_law_product := fun_mk (st := s_law_product) l_law_product c_law_product k_law_product
  have b_law_product := F_law_product.binds (ps := ["_law_gram_here", "_law_v", "_law_w"]) fun _ _ _ _ _ _ us hl => match us, hl with | [_, _, _], _ => rfl
  have m_law_product := PySem.W.mg_of X G a_law_product
  have F_law_minor := fun_mk (st := s_law_minor) l_law_minor c_law_minor k_law_minor
  have b_law_minor := F_law_minor.binds (ps := ["_law_rows", "_law_i", "_law_j"]) fun _ _ _ _ _ _ us hl => match us, hl with | [_, _, _], _ => rfl
  have m_law_minor := PySem.W.mg_of X G a_law_minor
  have F_law_determinant := fun_mk (st := s_law_determinant) l_law_determinant c_law_determinant k_law_determinant
  have b_law_determinant := F_law_determinant.binds (ps := ["_law_rows"]) fun _ _ _ _ _ _ us hl => match us, hl with | [_], _ => rfl
  have m_law_determinant := PySem.W.mg_of X G a_law_determinant
  have F_law_gcd := fun_mk (st := s_law_gcd) l_law_gcd c_law_gcd k_law_gcd
  have b_law_gcd := F_law_gcd.binds (ps := ["_law_a", "_law_b"]) fun _ _ _ _ _ _ us hl => match us, hl with | [_, _], _ => rfl
  have m_law_gcd := PySem.W.mg_of X G a_law_gcd
  have F_law := fun_mk (st := s_law) l_law c_law k_law
  have m_law := PySem.W.mg_of X G a_law
  have F_Grid_len := fun_mk (st := s_Grid_len) l_Grid_len c_Grid_len k_Grid_len
  have b_Grid_len := F_Grid_len.binds (ps := ["self"]) fun _ _ _ _ _ _ us hl => match us, hl with | [_], _ => rfl
  have F_Grid_is_square := fun_mk (st := s_Grid_is_square) l_Grid_is_square c_Grid_is_square k_Grid_is_square
  have b_Grid_is_square := F_Grid_is_square.binds (ps := ["self"]) fun _ _ _ _ _ _ us hl => match us, hl with | [_], _ => rfl
  have F_Grid_determinant := fun_mk (st := s_Grid_determinant) l_Grid_determinant c_Grid_determinant k_Grid_determinant
  have b_Grid_determinant := F_Grid_determinant.binds (ps := ["self"]) fun _ _ _ _ _ _ us hl => match us, hl with | [_], _ => rfl
  have F_Grid_times := fun_mk (st := s_Grid_times) l_Grid_times c_Grid_times k_Grid_times
  have b_Grid_times := F_Grid_times.binds (ps := ["self", "row"]) fun _ _ _ _ _ _ us hl => match us, hl with | [_, _], _ => rfl
  have F_Grid_eq := fun_mk (st := s_Grid_eq) l_Grid_eq c_Grid_eq k_Grid_eq
  have b_Grid_eq := F_Grid_eq.binds (ps := ["self", "other"]) fun _ _ _ _ _ _ us hl => match us, hl with | [_, _], _ => rfl
  have F_Lattice_eq := fun_mk (st := s_Lattice_eq) l_Lattice_eq c_Lattice_eq k_Lattice_eq
  have b_Lattice_eq := F_Lattice_eq.binds (ps := ["self", "other"]) fun _ _ _ _ _ _ us hl => match us, hl with | [_, _], _ => rfl
  have F_Lattice_contains := fun_mk (st := s_Lattice_contains) l_Lattice_contains c_Lattice_contains k_Lattice_contains
  have b_Lattice_contains := F_Lattice_contains.binds (ps := ["self", "v"]) fun _ _ _ _ _ _ us hl => match us, hl with | [_, _], _ => rfl
  have F_Lattice_rank := fun_mk (st := s_Lattice_rank) l_Lattice_rank c_Lattice_rank k_Lattice_rank
  have b_Lattice_rank := F_Lattice_rank.binds (ps := ["self"]) fun _ _ _ _ _ _ us hl => match us, hl with | [_], _ => rfl
  have F_Lattice_determinant := fun_mk (st := s_Lattice_determinant) l_Lattice_determinant c_Lattice_determinant k_Lattice_determinant
  have b_Lattice_determinant := F_Lattice_determinant.binds (ps := ["self"]) fun _ _ _ _ _ _ us hl => match us, hl with | [_], _ => rfl
  have F_Lattice_content := fun_mk (st := s_Lattice_content) l_Lattice_content c_Lattice_content k_Lattice_content
  have b_Lattice_content := F_Lattice_content.binds (ps := ["self"]) fun _ _ _ _ _ _ us hl => match us, hl with | [_], _ => rfl
  have F_Lattice_is_even := fun_mk (st := s_Lattice_is_even) l_Lattice_is_even c_Lattice_is_even k_Lattice_is_even
  have b_Lattice_is_even := F_Lattice_is_even.binds (ps := ["self"]) fun _ _ _ _ _ _ us hl => match us, hl with | [_], _ => rfl
  have F_Lattice_product := fun_mk (st := s_Lattice_product) l_Lattice_product c_Lattice_product k_Lattice_product
  have b_Lattice_product := F_Lattice_product.binds (ps := ["self", "v", "w"]) fun _ _ _ _ _ _ us hl => match us, hl with | [_, _, _], _ => rfl
  have F_Lattice_norm := fun_mk (st := s_Lattice_norm) l_Lattice_norm c_Lattice_norm k_Lattice_norm
  have b_Lattice_norm := F_Lattice_norm.binds (ps := ["self", "v"]) fun _ _ _ _ _ _ us hl => match us, hl with | [_, _], _ => rfl
  have F_Grid_init : FunI K s_Grid_init f_Grid_init _ := ⟨⟨oc_Grid_init, od_Grid_init, .ref TD_Grid_init, kV_Grid_init, dc_Grid_init, pm_Grid_init, an_Grid_init, cd_Grid_init, ct_Grid_init, sl_Grid_init, rfl, l_Grid_init, c_Grid_init, .inr ⟨by simp, TD_Grid_init, _, [.none], nT_Grid_init, rfl, t_Grid_init, rfl, .cons rfl (.nil)⟩, .inl rfl⟩, k_Grid_init⟩
  refine ⟨PySem.W.fnOf "law" "law" (defArgs s_law) (defBody s_law) (defScope s_law) .none kV_law dc_law pm_law an_law cd_law ct_law, fun s v => .of_eq rfl, fun base _ _ sr => ?_⟩
  have clC_Grid : Cls K C_Grid := ⟨pgC_Grid, hdC_Grid, poC_Grid, saC_Grid⟩
  have owC_Grid : OwnC K C_Grid := ⟨clC_Grid, haC_Grid, hnC_Grid, htkC_Grid, hmC_Grid⟩
  have cgC_Grid : ClsG K C_Grid := ⟨owC_Grid, sfC_Grid, neC_Grid⟩
  have mgC_Grid := PySem.W.mg_of X G aC_Grid
  have clC_Lattice : Cls K C_Lattice := ⟨pgC_Lattice, hdC_Lattice, poC_Lattice, saC_Lattice⟩
  have owC_Lattice : OwnC K C_Lattice := ⟨clC_Lattice, haC_Lattice, hnC_Lattice, htkC_Lattice, hmC_Lattice⟩
  have cgC_Lattice : ClsG K C_Lattice := ⟨owC_Lattice, sfC_Lattice, neC_Lattice⟩
  have mgC_Lattice := PySem.W.mg_of X G aC_Lattice
  have v_len := PySem.W.mg_none_of X G u_len
  have v_isinstance := PySem.W.mg_none_of X G u_isinstance
  have v_int := PySem.W.mg_none_of X G u_int
  have v_bool := PySem.W.mg_none_of X G u_bool
  have v_str := PySem.W.mg_none_of X G u_str
  have v_list := PySem.W.mg_none_of X G u_list
  have v_tuple := PySem.W.mg_none_of X G u_tuple
  have v_range := PySem.W.mg_none_of X G u_range
  have v_zip := PySem.W.mg_none_of X G u_zip
  have v_enumerate := PySem.W.mg_none_of X G u_enumerate
  have v_sum := PySem.W.mg_none_of X G u_sum
  have v_abs := PySem.W.mg_none_of X G u_abs
  have v_min := PySem.W.mg_none_of X G u_min
  have v_max := PySem.W.mg_none_of X G u_max
  have v_all := PySem.W.mg_none_of X G u_all
  have v_any := PySem.W.mg_none_of X G u_any
  have v_divmod := PySem.W.mg_none_of X G u_divmod
  have v_sorted := PySem.W.mg_none_of X G u_sorted
  have F_Lattice_init : FunD K "__init__" "Lattice.__init__" (defArgs s_Lattice_init) (defBody s_Lattice_init) (defScope s_Lattice_init) [] [] f_Lattice_init _ := ⟨⟨oc_Lattice_init, od_Lattice_init, .none, kV_Lattice_init, dc_Lattice_init, pm_Lattice_init, an_Lattice_init, cd_Lattice_init, ct_Lattice_init, sl_Lattice_init, rfl, l_Lattice_init, c_Lattice_init, .inl ⟨rfl, rfl⟩, .inl rfl⟩, k_Lattice_init⟩
  have bLi := F_Lattice_init.bindsN (ps := ["self", "gram"]) fun _ _ _ _ _ _ us hl => match us, hl with | [_, _], _ => rfl
  have T : G09.Txt l.prog K mg base C_Grid C_Lattice := ⟨v_len, v_isinstance, v_int, v_bool, v_str, v_list, v_tuple, v_range, v_zip, v_enumerate, v_sum, v_abs, v_min, v_max, v_all, v_any, v_divmod, v_sorted, sr, tr, cgC_Grid, mgC_Grid, clC_Grid, noC_Grid_rows, noC_Grid_width, (kitR vty ci_C_Grid cy_C_Grid cs_list_C_Grid), (kitR vty ci_C_Grid cy_C_Grid cs_tuple_C_Grid), (kitR vty ci_C_Grid cy_C_Grid cs_str_C_Grid), (kitR vty ci_C_Grid cy_C_Grid cs_int_C_Grid), (kitR vty ci_C_Grid cy_C_Grid cs_NoneType_C_Grid), (kitR cn_C_Grid_C_Lattice ci_C_Lattice cy_C_Lattice cs_C_Grid_C_Lattice), (kitA2 (kitT (by decide +kernel) cs_C_Grid_tuple) (kitT (by decide +kernel) cs_C_Grid_list)), z_snf_Grid, z_nfn_Grid, z_nff_Grid_Lattice, (kitT (by decide +kernel) cs_C_Grid_list), (kitT (by decide +kernel) cs_C_Grid_tuple), cgC_Lattice, mgC_Lattice, clC_Lattice, noC_Lattice_gram, (kitR vty ci_C_Lattice cy_C_Lattice cs_list_C_Lattice), (kitR vty ci_C_Lattice cy_C_Lattice cs_tuple_C_Lattice), (kitR vty ci_C_Lattice cy_C_Lattice cs_str_C_Lattice), (kitR vty ci_C_Lattice cy_C_Lattice cs_int_C_Lattice), (kitR vty ci_C_Lattice cy_C_Lattice cs_NoneType_C_Lattice), (kitR cn_C_Lattice_C_Grid ci_C_Grid cy_C_Grid cs_C_Lattice_C_Grid), (kitA2 (kitT (by decide +kernel) cs_C_Lattice_tuple) (kitT (by decide +kernel) cs_C_Lattice_list)), z_snf_Lattice, z_nfn_Lattice, z_nff_Lattice_Grid, (kitT (by decide +kernel) cs_C_Lattice_list), (kitT (by decide +kernel) cs_C_Lattice_tuple), ⟨_, PySem.W.mg_of X G z_v_MOST_RANK, ⟨tk_v_MOST_RANK, rfl⟩⟩, ⟨_, PySem.W.mg_of X G z_v_MOST_ITEM, ⟨tk_v_MOST_ITEM, rfl⟩⟩, (PySem.W.mg_of X G z_i_gcd)⟩
  have TG : G09g.Txt l.prog K mg base C_Grid := ⟨v_len, v_isinstance, v_int, v_bool, v_list, v_tuple, v_range, v_zip, v_enumerate, v_sum, v_abs, v_min, sr, tr, cgC_Grid, mgC_Grid, clC_Grid, noC_Grid_rows, noC_Grid_width⟩
  obtain ⟨ds3, rd3, bI3⟩ := F_Grid_init.binds1 (ps := ["self", "rows", "width"]) 3 1 (by simp) (by simp) fun _ _ _ _ _ _ _ us its hl hi => match us, its, hl, hi with | [_, _, _], [_], _, _ => ⟨_, rfl, rfl⟩
  obtain ⟨ds2, rd2, bI2⟩ := F_Grid_init.binds1 (ps := ["self", "rows", "width"]) 2 0 (by simp) (by simp) fun _ _ _ _ _ _ _ us its hl hi => match us, its, hl, hi with | [_, _], [_], _, _ => ⟨_, rfl, rfl⟩
  have TRo : OexC K cR := ⟨⟨_, _, _, _, _, _, _, _, _, _, _, _, _, _, _, rL, rV⟩, rS, rB, rT, rK⟩
  have SupR : SupC K fileR cR fI cc cda "Refused.__init__" (defArgs s_Refused_init) (defBody s_Refused_init) (defScope s_Refused_init) (PySem.W.fnX "__init__" "Refused.__init__" (defArgs s_Refused_init) (defBody s_Refused_init) (defScope s_Refused_init) [("__class__", cc)] .none kVI dcI pmI anI (.ref cda) ctI) := ⟨TRo, ⟨_, _, _, _, _, _, _, _, _, rfl, rIL⟩, rIC, ⟨_, _, _, _, _, rCO, rCV⟩, ⟨_, _, _, rCell⟩, Option.isSome_iff_exists.mp rIs, rSub, rSup, rVE, rPl⟩
  have okRI := ok_refinit (P := l.prog) (w := w) (mg := mg) (base := base) TRo rNo SupR hfR htR (PySem.W.mg_none_of X G uSuper)
  let cx : ClX := ⟨cM, cR, cM⟩
  have eMM := exm_self bM iM tM sM
  have TX : TxtX l.prog w K mg base cx fI _ := ⟨PySem.W.mg_of X G aM, qM, kM, bM, tM, PySem.W.mg_of X G aR, TRo, rI, rIT, okRI, .all fun us hl => match us, hl with | [_, _], _ => rfl⟩
  have g_G09g_ok_is_integer : CalG l.prog w K mg base _ _ _ [] := ⟨_, _, _, [], G09g.ok_is_integer F_is_integer TG, m_is_integer, k_is_integer, b_is_integer, .nil⟩
  have g_G09g_ok_checked : CalG l.prog w K mg base _ _ _ [] := ⟨_, _, _, [], G09g.ok_checked F_checked TG g_G09g_ok_is_integer, m_checked, k_checked, b_checked, .nil⟩
  have g_G09g_ok_determinant : CalG l.prog w K mg base _ _ _ [] := ⟨_, _, _, [], G09g.ok_determinant F_determinant TG, m_determinant, k_determinant, b_determinant, .nil⟩
  have okI := G09g.ok_init F_Grid_init TG g_G09g_ok_checked
  have mk3 : MakG l.prog w K mg base 6 "Grid" C_Grid (spI K C_Grid rInit) [] := ⟨_, _, _, ds3, ⟨mkC_Grid, a_Grid_init, i_Grid_init, kcC_Grid⟩, okI, mgC_Grid, bI3, rd3⟩
  have mk2 : MakG l.prog w K mg base 6 "Grid" C_Grid (spI K C_Grid rInit) [.non] := ⟨_, _, _, ds2, ⟨mkC_Grid, a_Grid_init, i_Grid_init, kcC_Grid⟩, okI, mgC_Grid, bI2, rd2⟩
  have g_G09g_ok_len : MetG l.prog w K mg base _ C_Grid _ _ := ⟨_, _, _, clC_Grid, ⟨a_Grid_len, i_Grid_len, k_Grid_len⟩, G09g.ok_len F_Grid_len TG, b_Grid_len⟩
  have g_G09g_ok_issq : MetG l.prog w K mg base _ C_Grid _ _ := ⟨_, _, _, clC_Grid, ⟨a_Grid_is_square, i_Grid_is_square, k_Grid_is_square⟩, G09g.ok_issq F_Grid_is_square TG, b_Grid_is_square⟩
  have g_G09g_ok_detG : MetG l.prog w K mg base _ C_Grid _ _ := ⟨_, _, _, clC_Grid, ⟨a_Grid_determinant, i_Grid_determinant, k_Grid_determinant⟩, G09g.ok_detG F_Grid_determinant TG g_G09g_ok_issq g_G09g_ok_determinant, b_Grid_determinant⟩
  have g_ok_content : CalG l.prog w K mg base _ _ _ [] := ⟨_, _, _, [], ok_content F_content T, m_content, k_content, b_content, .nil⟩
  have g_ok_content_as_content_whole : CalG l.prog w K mg base _ _ _ [] := ⟨_, _, _, [], ok_content F_content T, PySem.W.mg_of X G z_al_content_whole, k_content, b_content, .nil⟩
  have g_ok_is_integer : CalG l.prog w K mg base _ _ _ [] := ⟨_, _, _, [], ok_is_integer F_is_integer T, m_is_integer, k_is_integer, b_is_integer, .nil⟩
  have g_ok_is_integer_D : CalG l.prog w K mg base _ _ _ [] := ⟨_, _, _, [], ok_is_integer_D F_is_integer T, m_is_integer, k_is_integer, b_is_integer, .nil⟩
  have g_ok_dot : CalG l.prog w K mg base _ _ _ [] := ⟨_, _, _, [], ok_dot F_dot T, m_dot, k_dot, b_dot, .nil⟩
  have g_ok_Grid_times : MetG l.prog w K mg base _ C_Grid _ _ := ⟨_, _, _, clC_Grid, ⟨a_Grid_times, i_Grid_times, k_Grid_times⟩, ok_Grid_times F_Grid_times T g_ok_dot, b_Grid_times⟩
  have g_ok_Grid_eq : MetG l.prog w K mg base _ C_Grid _ _ := ⟨_, _, _, clC_Grid, ⟨a_Grid_eq, i_Grid_eq, k_Grid_eq⟩, ok_Grid_eq F_Grid_eq T, b_Grid_eq⟩
  have g_ok_square_rows_S : CalG l.prog w K mg base _ _ _ [] := ⟨_, _, _, [], ok_square_rows_S F_square_rows T g_ok_is_integer, m_square_rows, k_square_rows, b_square_rows, .nil⟩
  have g_ok_square_rows_G : CalG l.prog w K mg base _ _ _ [] := ⟨_, _, _, [], ok_square_rows_G F_square_rows T g_ok_is_integer, m_square_rows, k_square_rows, b_square_rows, .nil⟩
  have g_ok_check_symmetric : CalG l.prog w K mg base _ _ _ [] := ⟨_, _, _, [], ok_check_symmetric F_check_symmetric T, m_check_symmetric, k_check_symmetric, b_check_symmetric, .nil⟩
  have okS_Lattice_init_S := ok_Lattice_init_S F_Lattice_init T g_ok_square_rows_S g_ok_check_symmetric g_G09g_ok_detG mk3 mk2
  have okS_Lattice_init_G := ok_Lattice_init_G F_Lattice_init T g_ok_square_rows_G g_ok_check_symmetric g_G09g_ok_detG mk3 mk2
  have kL : MakG l.prog w K mg base 45 "Lattice" C_Lattice (spI K C_Lattice (R_Lattice C_Grid C_Lattice)) [] := ⟨_, _, _, [], ⟨mkC_Lattice, a_Lattice_init, i_Lattice_init, kcC_Lattice⟩, fn_orI okS_Lattice_init_S (okS_Lattice_init_G), mgC_Lattice, bLi, .nil⟩
  have okS_Lattice_eq := ok_Lattice_eq F_Lattice_eq T g_ok_Grid_eq
  have okS_Lattice_eq_G := ok_Lattice_eq_G F_Lattice_eq T g_ok_Grid_eq
  have okS_Lattice_eq_N := ok_Lattice_eq_N F_Lattice_eq T g_ok_Grid_eq
  have gm_eq : MetG l.prog w K mg base 4 C_Lattice "__eq__" (spD K (R_Lattice_eq_any C_Grid C_Lattice)) := ⟨_, _, _, clC_Lattice, ⟨a_Lattice_eq, i_Lattice_eq, k_Lattice_eq⟩, fn_orD okS_Lattice_eq (fn_orD okS_Lattice_eq_G okS_Lattice_eq_N), b_Lattice_eq⟩
  have g_ok_Lattice_contains : MetG l.prog w K mg base _ C_Lattice _ _ := ⟨_, _, _, clC_Lattice, ⟨a_Lattice_contains, i_Lattice_contains, k_Lattice_contains⟩, ok_Lattice_contains F_Lattice_contains T g_ok_is_integer, b_Lattice_contains⟩
  have g_ok_Lattice_contains_D : MetG l.prog w K mg base _ C_Lattice _ _ := ⟨_, _, _, clC_Lattice, ⟨a_Lattice_contains, i_Lattice_contains, k_Lattice_contains⟩, ok_Lattice_contains_D F_Lattice_contains T g_ok_is_integer_D, b_Lattice_contains⟩
  have g_ok_Lattice_rank : MetG l.prog w K mg base _ C_Lattice _ _ := ⟨_, _, _, clC_Lattice, ⟨a_Lattice_rank, i_Lattice_rank, k_Lattice_rank⟩, ok_Lattice_rank F_Lattice_rank T, b_Lattice_rank⟩
  have g_ok_Lattice_determinant : MetG l.prog w K mg base _ C_Lattice _ _ := ⟨_, _, _, clC_Lattice, ⟨a_Lattice_determinant, i_Lattice_determinant, k_Lattice_determinant⟩, ok_Lattice_determinant F_Lattice_determinant T g_G09g_ok_detG, b_Lattice_determinant⟩
  have g_ok_Lattice_content : MetG l.prog w K mg base _ C_Lattice _ _ := ⟨_, _, _, clC_Lattice, ⟨a_Lattice_content, i_Lattice_content, k_Lattice_content⟩, ok_Lattice_content F_Lattice_content T g_ok_content_as_content_whole, b_Lattice_content⟩
  have g_ok_Lattice_is_even : MetG l.prog w K mg base _ C_Lattice _ _ := ⟨_, _, _, clC_Lattice, ⟨a_Lattice_is_even, i_Lattice_is_even, k_Lattice_is_even⟩, ok_Lattice_is_even F_Lattice_is_even T g_ok_Lattice_rank, b_Lattice_is_even⟩
  have g_ok_Lattice_product : MetG l.prog w K mg base _ C_Lattice _ _ := ⟨_, _, _, clC_Lattice, ⟨a_Lattice_product, i_Lattice_product, k_Lattice_product⟩, ok_Lattice_product F_Lattice_product T g_ok_Lattice_contains g_ok_dot g_ok_Grid_times, b_Lattice_product⟩
  have g_ok_Lattice_norm : MetG l.prog w K mg base _ C_Lattice _ _ := ⟨_, _, _, clC_Lattice, ⟨a_Lattice_norm, i_Lattice_norm, k_Lattice_norm⟩, ok_Lattice_norm F_Lattice_norm T g_ok_Lattice_product, b_Lattice_norm⟩
  have g_ok_Lattice_product_X : MetX l.prog w K mg base _ C_Lattice _ _ := ⟨_, _, _, clC_Lattice, ⟨a_Lattice_product, i_Lattice_product, k_Lattice_product⟩, ok_Lattice_product_X F_Lattice_product T TX g_ok_Lattice_contains_D g_ok_dot g_ok_Grid_times, b_Lattice_product⟩
  have g_ok_Lattice_norm_X : MetX l.prog w K mg base _ C_Lattice _ _ := ⟨_, _, _, clC_Lattice, ⟨a_Lattice_norm, i_Lattice_norm, k_Lattice_norm⟩, ok_Lattice_norm_X F_Lattice_norm T TX g_ok_Lattice_product_X, b_Lattice_norm⟩
  have g_ok_law_malformed : CalG l.prog w K mg base _ _ _ [] := ⟨_, _, _, [], ok_law_malformed F_law_malformed T TX eMM g_ok_Lattice_norm_X g_ok_Lattice_product_X, m_law_malformed, k_law_malformed, b_law_malformed, .nil⟩
  have g_ok_law_state : CalG l.prog w K mg base _ _ _ [] := ⟨_, _, _, [], ok_law_state F_law_state T, m_law_state, k_law_state, b_law_state, .nil⟩
  have g_ok_law_take : CalG l.prog w K mg base _ _ _ [] := ⟨_, _, _, [], ok_law_take F_law_take T, m_law_take, k_law_take, b_law_take, .nil⟩
  have g_ok_law_gram : CalG l.prog w K mg base _ _ _ [] := ⟨_, _, _, [], ok_law_gram F_law_gram T g_ok_law_take, m_law_gram, k_law_gram, b_law_gram, .nil⟩
  have g_ok_law_vector : CalG l.prog w K mg base _ _ _ [] := ⟨_, _, _, [], ok_law_vector F_law_vector T g_ok_law_take, m_law_vector, k_law_vector, b_law_vector, .nil⟩
  have g_ok_law_product : CalG l.prog w K mg base _ _ _ [] := ⟨_, _, _, [], ok_law_product F_law_product T, m_law_product, k_law_product, b_law_product, .nil⟩
  have g_ok_law_product_T : CalG l.prog w K mg base _ _ _ [] := ⟨_, _, _, [], ok_law_product_T F_law_product T, m_law_product, k_law_product, b_law_product, .nil⟩
  have g_ok_law_minor : CalG l.prog w K mg base _ _ _ [] := ⟨_, _, _, [], ok_law_minor F_law_minor T, m_law_minor, k_law_minor, b_law_minor, .nil⟩
  have g_ok_law_determinant : CalG l.prog w K mg base _ _ _ [] := ⟨_, _, _, [], ok_law_determinant F_law_determinant T g_ok_law_minor m_law_determinant k_law_determinant b_law_determinant, m_law_determinant, k_law_determinant, b_law_determinant, .nil⟩
  have g_ok_law_gcd : CalG l.prog w K mg base _ _ _ [] := ⟨_, _, _, [], ok_law_gcd F_law_gcd T, m_law_gcd, k_law_gcd, b_law_gcd, .nil⟩
  exact (ok_law F_law T g_ok_law_state g_ok_law_gram kL g_ok_law_vector g_ok_Lattice_product g_ok_law_product_T g_ok_Lattice_norm g_ok_law_gcd g_ok_Lattice_determinant g_ok_law_determinant g_ok_Lattice_content g_ok_Lattice_is_even g_ok_law_take g_ok_Lattice_contains_D g_ok_law_malformed gm_eq).imp law_imp
end
end G09
namespace G09
open PySem PySem.Spec PyProof.Rows L2 Evl G
theorem rp_ints {K : PySem.W.Frag} {H : Hp} : ∀ ns : List Int, RpAll K H (ns.map V.int) (ns.map DV.int)
  | [] => .nil
  | _ :: ns => .cons (.int _) (rp_ints ns)
theorem law_end (K : PySem.W.Frag) (H : Hp) (a : Addr) (ns : List Int) (hl : ns.length ≤ 63) (hS : SqL K H a (ns.map V.int)) : spD K rLaw [.ref a] H (fun v _ => v = .bl true) fun _ _ _ => False :=
  ⟨[], [.lst (ns.map .int)], .bl true, fun _ h => by (cases h), .cons (.lst (by rw [hid_nil]; exact hS) (rp_ints ns)) .nil, ⟨ns, rfl, hl, rfl⟩, fun v H2 _ r => by (cases r; rfl)⟩
end G09
open PySem PySem.W PyProof.Rows
set_option maxRecDepth 100000 in
set_option maxHeartbeats 0 in
theorem PySem.Challenge.cw_gridroads_k09_products_and_norms_holds : PySem.Challenge.rw_gridroads_k09_products_and_norms.Holds := by
  w_on; o_law; k_head; (case hw => w_witness2)
  k_fill
  refine G.walkN (l := PySem.Challenge.rw_gridroads_k09_products_and_norms) (n := 63) (k := 47) (x := "_law_script") (CX := L2.CX0) (sp := fun K => G.spD K G.rLaw) rfl (by decide) rfl ⟨rfl, by decide, by decide⟩ (by first | rfl | decide +kernel) (fun w h Y => PySem.W.kIn_of Y) ?F (fun K H a ns hl _ hS => G09.law_end K H a ns hl hS) fun _ _ _ _ z => z
  case F =>
    intro w mg fa h KX G hmg
    refine' G09.all_mk KX G hmg ?aC_Grid ?pgC_Grid ?hdC_Grid ?poC_Grid ?saC_Grid ?haC_Grid ?hnC_Grid ?htkC_Grid ?hmC_Grid ?sfC_Grid ?neC_Grid ?mkC_Grid ?kcC_Grid ?noC_Grid_rows ?noC_Grid_width ?aC_Lattice ?pgC_Lattice ?hdC_Lattice ?poC_Lattice ?saC_Lattice ?haC_Lattice ?hnC_Lattice ?htkC_Lattice ?hmC_Lattice ?sfC_Lattice ?neC_Lattice ?mkC_Lattice ?kcC_Lattice ?noC_Lattice_gram ?u_len ?u_isinstance ?u_int ?u_bool ?u_str ?u_list ?u_tuple ?u_range ?u_zip ?u_enumerate ?u_sum ?u_abs ?u_min ?u_max ?u_all ?u_any ?u_divmod ?u_sorted ?a_is_integer ?l_is_integer ?c_is_integer ?k_is_integer ?a_checked ?l_checked ?c_checked ?k_checked ?a_determinant ?l_determinant ?c_determinant ?k_determinant ?a_content ?l_content ?c_content ?k_content ?a_dot ?l_dot ?c_dot ?k_dot ?a_square_rows ?l_square_rows ?c_square_rows ?k_square_rows ?a_check_symmetric ?l_check_symmetric ?c_check_symmetric ?k_check_symmetric ?a_law_malformed ?l_law_malformed ?c_law_malformed ?k_law_malformed ?a_law_state ?l_law_state ?c_law_state ?k_law_state ?a_law_take ?l_law_take ?c_law_take ?k_law_take ?a_law_gram ?l_law_gram ?c_law_gram ?k_law_gram ?a_law_vector ?l_law_vector ?c_law_vector ?k_law_vector ?a_law_product ?l_law_product ?c_law_product ?k_law_product ?a_law_minor ?l_law_minor ?c_law_minor ?k_law_minor ?a_law_determinant ?l_law_determinant ?c_law_determinant ?k_law_determinant ?a_law_gcd ?l_law_gcd ?c_law_gcd ?k_law_gcd ?a_law ?l_law ?c_law ?k_law ?a_Grid_len ?i_Grid_len ?l_Grid_len ?c_Grid_len ?k_Grid_len ?a_Grid_is_square ?i_Grid_is_square ?l_Grid_is_square ?c_Grid_is_square ?k_Grid_is_square ?a_Grid_determinant ?i_Grid_determinant ?l_Grid_determinant ?c_Grid_determinant ?k_Grid_determinant ?a_Grid_times ?i_Grid_times ?l_Grid_times ?c_Grid_times ?k_Grid_times ?a_Grid_eq ?i_Grid_eq ?l_Grid_eq ?c_Grid_eq ?k_Grid_eq ?a_Lattice_eq ?i_Lattice_eq ?l_Lattice_eq ?c_Lattice_eq ?k_Lattice_eq ?a_Lattice_contains ?i_Lattice_contains ?l_Lattice_contains ?c_Lattice_contains ?k_Lattice_contains ?a_Lattice_rank ?i_Lattice_rank ?l_Lattice_rank ?c_Lattice_rank ?k_Lattice_rank ?a_Lattice_determinant ?i_Lattice_determinant ?l_Lattice_determinant ?c_Lattice_determinant ?k_Lattice_determinant ?a_Lattice_content ?i_Lattice_content ?l_Lattice_content ?c_Lattice_content ?k_Lattice_content ?a_Lattice_is_even ?i_Lattice_is_even ?l_Lattice_is_even ?c_Lattice_is_even ?k_Lattice_is_even ?a_Lattice_product ?i_Lattice_product ?l_Lattice_product ?c_Lattice_product ?k_Lattice_product ?a_Lattice_norm ?i_Lattice_norm ?l_Lattice_norm ?c_Lattice_norm ?k_Lattice_norm ?a_Grid_init ?i_Grid_init ?l_Grid_init ?c_Grid_init ?k_Grid_init ?t_Grid_init ?a_Lattice_init ?i_Lattice_init ?l_Lattice_init ?c_Lattice_init ?k_Lattice_init ?ci_C_Grid ?cy_C_Grid ?cs_list_C_Grid ?cs_tuple_C_Grid ?cs_str_C_Grid ?cs_int_C_Grid ?cs_NoneType_C_Grid ?ci_C_Lattice ?cy_C_Lattice ?cn_C_Grid_C_Lattice ?cs_C_Grid_C_Lattice ?cs_C_Grid_tuple ?cs_C_Grid_list ?z_snf_Grid ?z_nfn_Grid ?z_nff_Grid_Lattice ?cs_list_C_Lattice ?cs_tuple_C_Lattice ?cs_str_C_Lattice ?cs_int_C_Lattice ?cs_NoneType_C_Lattice ?cn_C_Lattice_C_Grid ?cs_C_Lattice_C_Grid ?cs_C_Lattice_tuple ?cs_C_Lattice_list ?z_snf_Lattice ?z_nfn_Lattice ?z_nff_Lattice_Grid ?z_v_MOST_RANK ?z_v_MOST_ITEM ?z_i_gcd ?aF ?aM ?qM ?kM ?bM ?tM ?iM ?sM ?aR ?rL ?rV ?rS ?rB ?rT ?rK ?rIs ?rHd ?rGa ?rGg ?rHa ?rHn ?rHt ?rHm ?rNo ?rI ?rIT ?rIL ?rIC ?rCO ?rCV ?rCell ?rSub ?rSup ?rVE ?rPl ?uSuper ?sRM ?sRR ?hfR ?htR ?z_al_content_whole ?tr
    (case aC_Grid => k_is)
    (case pgC_Grid => k_is)
    (case hdC_Grid => k_is)
    (case poC_Grid => k_is)
    (case saC_Grid => k_is)
    (case haC_Grid => k_is)
    (case hnC_Grid => k_is)
    (case htkC_Grid => k_is)
    (case hmC_Grid => k_is)
    (case sfC_Grid => k_is)
    (case neC_Grid => k_is)
    (case mkC_Grid => k_is)
    (case kcC_Grid => k_is)
    (case noC_Grid_rows => k_is)
    (case noC_Grid_width => k_is)
    (case aC_Lattice => k_is)
    (case pgC_Lattice => k_is)
    (case hdC_Lattice => k_is)
    (case poC_Lattice => k_is)
    (case saC_Lattice => k_is)
    (case haC_Lattice => k_is)
    (case hnC_Lattice => k_is)
    (case htkC_Lattice => k_is)
    (case hmC_Lattice => k_is)
    (case sfC_Lattice => k_is)
    (case neC_Lattice => k_is)
    (case mkC_Lattice => k_is)
    (case kcC_Lattice => k_is)
    (case noC_Lattice_gram => k_is)
    (case u_len => k_is)
    (case u_isinstance => k_is)
    (case u_int => k_is)
    (case u_bool => k_is)
    (case u_str => k_is)
    (case u_list => k_is)
    (case u_tuple => k_is)
    (case u_range => k_is)
    (case u_zip => k_is)
    (case u_enumerate => k_is)
    (case u_sum => k_is)
    (case u_abs => k_is)
    (case u_min => k_is)
    (case u_max => k_is)
    (case u_all => k_is)
    (case u_any => k_is)
    (case u_divmod => k_is)
    (case u_sorted => k_is)
    (case a_is_integer => k_is)
    (case l_is_integer => k_is)
    (case c_is_integer => k_is)
    (case k_is_integer => k_is)
    (case a_checked => k_is)
    (case l_checked => k_is)
    (case c_checked => k_is)
    (case k_checked => k_is)
    (case a_determinant => k_is)
    (case l_determinant => k_is)
    (case c_determinant => k_is)
    (case k_determinant => k_is)
    (case a_content => k_is)
    (case l_content => k_is)
    (case c_content => k_is)
    (case k_content => k_is)
    (case a_dot => k_is)
    (case l_dot => k_is)
    (case c_dot => k_is)
    (case k_dot => k_is)
    (case a_square_rows => k_is)
    (case l_square_rows => k_is)
    (case c_square_rows => k_is)
    (case k_square_rows => k_is)
    (case a_check_symmetric => k_is)
    (case l_check_symmetric => k_is)
    (case c_check_symmetric => k_is)
    (case k_check_symmetric => k_is)
    (case a_law_malformed => k_is)
    (case l_law_malformed => k_is)
    (case c_law_malformed => k_is)
    (case k_law_malformed => k_is)
    (case a_law_state => k_is)
    (case l_law_state => k_is)
    (case c_law_state => k_is)
    (case k_law_state => k_is)
    (case a_law_take => k_is)
    (case l_law_take => k_is)
    (case c_law_take => k_is)
    (case k_law_take => k_is)
    (case a_law_gram => k_is)
    (case l_law_gram => k_is)
    (case c_law_gram => k_is)
    (case k_law_gram => k_is)
    (case a_law_vector => k_is)
    (case l_law_vector => k_is)
    (case c_law_vector => k_is)
    (case k_law_vector => k_is)
    (case a_law_product => k_is)
    (case l_law_product => k_is)
    (case c_law_product => k_is)
    (case k_law_product => k_is)
    (case a_law_minor => k_is)
    (case l_law_minor => k_is)
    (case c_law_minor => k_is)
    (case k_law_minor => k_is)
    (case a_law_determinant => k_is)
    (case l_law_determinant => k_is)
    (case c_law_determinant => k_is)
    (case k_law_determinant => k_is)
    (case a_law_gcd => k_is)
    (case l_law_gcd => k_is)
    (case c_law_gcd => k_is)
    (case k_law_gcd => k_is)
    (case a_law => k_is)
    (case l_law => k_is)
    (case c_law => k_is)
    (case k_law => k_is)
    (case a_Grid_len => k_is)
    (case i_Grid_len => k_is)
    (case l_Grid_len => k_is)
    (case c_Grid_len => k_is)
    (case k_Grid_len => k_is)
    (case a_Grid_is_square => k_is)
    (case i_Grid_is_square => k_is)
    (case l_Grid_is_square => k_is)
    (case c_Grid_is_square => k_is)
    (case k_Grid_is_square => k_is)
    (case a_Grid_determinant => k_is)
    (case i_Grid_determinant => k_is)
    (case l_Grid_determinant => k_is)
    (case c_Grid_determinant => k_is)
    (case k_Grid_determinant => k_is)
    (case a_Grid_times => k_is)
    (case i_Grid_times => k_is)
    (case l_Grid_times => k_is)
    (case c_Grid_times => k_is)
    (case k_Grid_times => k_is)
    (case a_Grid_eq => k_is)
    (case i_Grid_eq => k_is)
    (case l_Grid_eq => k_is)
    (case c_Grid_eq => k_is)
    (case k_Grid_eq => k_is)
    (case a_Lattice_eq => k_is)
    (case i_Lattice_eq => k_is)
    (case l_Lattice_eq => k_is)
    (case c_Lattice_eq => k_is)
    (case k_Lattice_eq => k_is)
    (case a_Lattice_contains => k_is)
    (case i_Lattice_contains => k_is)
    (case l_Lattice_contains => k_is)
    (case c_Lattice_contains => k_is)
    (case k_Lattice_contains => k_is)
    (case a_Lattice_rank => k_is)
    (case i_Lattice_rank => k_is)
    (case l_Lattice_rank => k_is)
    (case c_Lattice_rank => k_is)
    (case k_Lattice_rank => k_is)
    (case a_Lattice_determinant => k_is)
    (case i_Lattice_determinant => k_is)
    (case l_Lattice_determinant => k_is)
    (case c_Lattice_determinant => k_is)
    (case k_Lattice_determinant => k_is)
    (case a_Lattice_content => k_is)
    (case i_Lattice_content => k_is)
    (case l_Lattice_content => k_is)
    (case c_Lattice_content => k_is)
    (case k_Lattice_content => k_is)
    (case a_Lattice_is_even => k_is)
    (case i_Lattice_is_even => k_is)
    (case l_Lattice_is_even => k_is)
    (case c_Lattice_is_even => k_is)
    (case k_Lattice_is_even => k_is)
    (case a_Lattice_product => k_is)
    (case i_Lattice_product => k_is)
    (case l_Lattice_product => k_is)
    (case c_Lattice_product => k_is)
    (case k_Lattice_product => k_is)
    (case a_Lattice_norm => k_is)
    (case i_Lattice_norm => k_is)
    (case l_Lattice_norm => k_is)
    (case c_Lattice_norm => k_is)
    (case k_Lattice_norm => k_is)
    (case a_Grid_init => k_is)
    (case i_Grid_init => k_is)
    (case l_Grid_init => k_is)
    (case c_Grid_init => k_is)
    (case k_Grid_init => k_is)
    (case t_Grid_init => k_is)
    (case a_Lattice_init => k_is)
    (case i_Lattice_init => k_is)
    (case l_Lattice_init => k_is)
    (case c_Lattice_init => k_is)
    (case k_Lattice_init => k_is)
    (case ci_C_Grid => k_is)
    (case cy_C_Grid => k_is)
    (case cs_list_C_Grid => k_is)
    (case cs_tuple_C_Grid => k_is)
    (case cs_str_C_Grid => k_is)
    (case cs_int_C_Grid => k_is)
    (case cs_NoneType_C_Grid => k_is)
    (case ci_C_Lattice => k_is)
    (case cy_C_Lattice => k_is)
    (case cn_C_Grid_C_Lattice => first | rfl | decide +kernel)
    (case cs_C_Grid_C_Lattice => k_is)
    (case cs_C_Grid_tuple => k_is)
    (case cs_C_Grid_list => k_is)
    (case z_snf_Grid => k_is)
    (case z_nfn_Grid => k_is)
    (case z_nff_Grid_Lattice => k_is)
    (case cs_list_C_Lattice => k_is)
    (case cs_tuple_C_Lattice => k_is)
    (case cs_str_C_Lattice => k_is)
    (case cs_int_C_Lattice => k_is)
    (case cs_NoneType_C_Lattice => k_is)
    (case cn_C_Lattice_C_Grid => first | rfl | decide +kernel)
    (case cs_C_Lattice_C_Grid => k_is)
    (case cs_C_Lattice_tuple => k_is)
    (case cs_C_Lattice_list => k_is)
    (case z_snf_Lattice => k_is)
    (case z_nfn_Lattice => k_is)
    (case z_nff_Lattice_Grid => k_is)
    (case z_v_MOST_RANK => k_is)
    (case z_v_MOST_ITEM => k_is)
    (case z_i_gcd => k_is)
    (case aF => k_is)
    (case aM => k_is)
    (case qM => k_exc)
    (case kM => k_is)
    (case bM => k_is)
    (case tM => k_is)
    (case iM => k_is)
    (case sM => first | rfl | k_is)
    (case aR => k_is)
    (case rL => k_is)
    (case rV => first | rfl | decide +kernel)
    (case rS => k_is)
    (case rB => k_is)
    (case rT => k_is)
    (case rK => k_is)
    (case rIs => k_is)
    (case rHd => k_is)
    (case rGa => k_is)
    (case rGg => k_is)
    (case rHa => k_is)
    (case rHn => k_is)
    (case rHt => k_is)
    (case rHm => k_is)
    (case rNo => k_is)
    (case rI => k_is)
    (case rIT => k_is)
    (case rIL => k_is)
    (case rIC => k_is)
    (case rCO => k_is)
    (case rCV => rfl)
    (case rCell => k_is)
    (case rSub => k_is)
    (case rSup => ks_is)
    (case rVE => k_is)
    (case rPl => k_is)
    (case uSuper => k_is)
    (case sRM => k_is)
    (case sRR => first | rfl | k_is)
    (case hfR => first | rfl | decide +kernel)
    (case htR => first | rfl | decide +kernel)
    (case z_al_content_whole => k_is)
    (case tr => first | rfl | decide +kernel)
