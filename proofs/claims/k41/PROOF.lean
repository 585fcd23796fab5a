import PyProof.Rows.All
import Wide.All
import OpenK.AllK
import Wide.FinOn
import HandS.ForMost
import HandS.ForExc
import HandS.Evl
import HandS.IsInst
import HandS.Walk
import HandS.Zip
import HandS.TupAny
import HandS.Style
import HandS.Wide
import HandS.Gcd
import PyProof.InstNe
import KE.KSuper
import KE.KExcSuper
import HandS.Nested
import HandS.ExcInit
import KE.GoesZip
import KE.GoesEnum
import HandS.Defaults
import HandS.ExcField
import PySem.Challenge.RW_gridroads_k41_duals
import HandS.EndBits
import KE.KIsAll
set_option Elab.async false
set_option linter.all false
set_option maxRecDepth 100000
/-! A layer of my own over the hand layer: values as data trees (DV), states of a running def told by data alone (Sta),
judgements of expressions over such states (EX, TX, AX, LX). -/
namespace G
open PySem L2 Evl

/-- data: what a value is, objects that stand still included; box: the object at a, whose content is told elsewhere -/
inductive DV where
  | non | bl (b : Bool) | int (i : Int) | str (x : Str) | lst (xs : List DV) | tup (xs : List DV) | ins (C : Addr) (fs : List (Str × DV)) | box (a : Addr)

mutual
inductive Rp (K : PySem.W.Frag) (H : Hp) : V → DV → Prop
  | non : Rp K H .non .non
  | bl (b : Bool) : Rp K H (.bl b) (.bl b)
  | int (i : Int) : Rp K H (.int i) (.int i)
  | str (x : Str) : Rp K H (.str x) (.str x)
  | lst {a : Addr} {xs : List V} {ds : List DV} : SqL K H a xs → RpAll K H xs ds → Rp K H (.ref a) (.lst ds)
  | tup {a : Addr} {xs : List V} {ds : List DV} : SqT K H a xs → RpAll K H xs ds → Rp K H (.ref a) (.tup ds)
  | ins {a C dx : Addr} {fs : List (Str × V)} {ds : List (Str × DV)} : H a = some (.ins C dx fs) → RpF K H fs ds → Rp K H (.ref a) (.ins C ds)
  | box (a : Addr) : Rp K H (.ref a) (.box a)
inductive RpAll (K : PySem.W.Frag) (H : Hp) : List V → List DV → Prop
  | nil : RpAll K H [] []
  | cons {v : V} {vs : List V} {d : DV} {ds : List DV} : Rp K H v d → RpAll K H vs ds → RpAll K H (v :: vs) (d :: ds)
inductive RpF (K : PySem.W.Frag) (H : Hp) : List (Str × V) → List (Str × DV) → Prop
  | nil : RpF K H [] []
  | cons {n : Str} {v : V} {vs : List (Str × V)} {d : DV} {ds : List (Str × DV)} : Rp K H v d → RpF K H vs ds → RpF K H ((n, v) :: vs) ((n, d) :: ds)
end
section
variable {K : PySem.W.Frag} {H H' : Hp}
mutual
theorem Rp.mono (e : Ex H H') : ∀ {d : DV} {v : V}, Rp K H v d → Rp K H' v d
  | .non, _, h => by cases h; exact .non
  | .bl b, _, h => by cases h; exact .bl _
  | .int b, _, h => by cases h; exact .int _
  | .str b, _, h => by cases h; exact .str _
  | .lst ds, _, h => by cases h with | lst h1 h2 => exact .lst (ex_l e h1) (RpAll.mono e h2)
  | .tup ds, _, h => by cases h with | tup h1 h2 => exact .tup (ex_t e h1) (RpAll.mono e h2)
  | .ins C ds, _, h => by cases h with | ins h1 h2 => exact .ins (e _ _ h1) (RpF.mono e h2)
  | .box a, _, h => by cases h; exact .box _
theorem RpAll.mono (e : Ex H H') : ∀ {ds : List DV} {vs : List V}, RpAll K H vs ds → RpAll K H' vs ds
  | [], _, h => by cases h; exact .nil
  | d :: ds, _, h => by cases h with | cons h1 h2 => exact .cons (Rp.mono e h1) (RpAll.mono e h2)
theorem RpF.mono (e : Ex H H') : ∀ {ds : List (Str × DV)} {vs : List (Str × V)}, RpF K H vs ds → RpF K H' vs ds
  | [], _, h => by cases h; exact .nil
  | (n, d) :: ds, _, h => by cases h with | cons h1 h2 => exact .cons (Rp.mono e h1) (RpF.mono e h2)
end
theorem RpAll.length : ∀ {vs : List V} {ds : List DV}, RpAll K H vs ds → vs.length = ds.length
  | _, _, .nil => rfl
  | _, _, .cons _ r => congrArg Nat.succ (RpAll.length r)
theorem RpAll.get : ∀ {vs : List V} {ds : List DV} {i : Nat} {d : DV}, RpAll K H vs ds → ds[i]? = some d → ∃ v, vs[i]? = some v ∧ Rp K H v d
  | _, _, _, _, .nil, h => by simp at h
  | _, _, 0, d, .cons r _, h => by
    have e := Option.some.inj h
    subst e
    exact ⟨_, rfl, r⟩
  | _, _, i + 1, d, .cons _ r, h => by
    obtain ⟨v, e, q⟩ := RpAll.get (i := i) r (by simpa using h)
    exact ⟨v, by simpa using e, q⟩
theorem RpAll.get' {vs : List V} {ds : List DV} {i : Nat} {v : V} (r : RpAll K H vs ds) (h : vs[i]? = some v) : ∃ d, ds[i]? = some d ∧ Rp K H v d := by
  have hl := r.length
  have h1 : i < vs.length := (List.getElem?_eq_some_iff.mp h).1
  have h2 : i < ds.length := by omega
  obtain ⟨w, e, q⟩ := r.get (List.getElem?_eq_getElem h2)
  rw [h] at e
  cases e
  exact ⟨_, List.getElem?_eq_getElem h2, q⟩
theorem RpAll.app : ∀ {vs ws : List V} {ds es : List DV}, RpAll K H vs ds → RpAll K H ws es → RpAll K H (vs ++ ws) (ds ++ es)
  | _, _, _, _, .nil, s => s
  | _, _, _, _, .cons r t, s => .cons r (RpAll.app t s)
theorem RpAll.set {v : V} {d : DV} (q : Rp K H v d) : ∀ {vs : List V} {ds : List DV} (i : Nat), RpAll K H vs ds → RpAll K H (vs.set i v) (ds.set i d)
  | _, _, _, .nil => .nil
  | _, _, 0, .cons _ t => .cons q t
  | _, _, i + 1, .cons r t => .cons r (RpAll.set q i t)
theorem RpAll.take : ∀ {vs : List V} {ds : List DV} (n : Nat), RpAll K H vs ds → RpAll K H (vs.take n) (ds.take n)
  | _, _, 0, _ => .nil
  | _, _, _ + 1, .nil => .nil
  | _, _, n + 1, .cons r t => .cons r (RpAll.take n t)
theorem RpAll.drop : ∀ {vs : List V} {ds : List DV} (n : Nat), RpAll K H vs ds → RpAll K H (vs.drop n) (ds.drop n)
  | _, _, 0, r => r
  | _, _, _ + 1, .nil => .nil
  | _, _, n + 1, .cons _ t => RpAll.drop n t
theorem RpAll.reverse : ∀ {vs : List V} {ds : List DV}, RpAll K H vs ds → RpAll K H vs.reverse ds.reverse
  | _, _, .nil => .nil
  | _, _, .cons r t => by
    rw [List.reverse_cons, List.reverse_cons]
    exact RpAll.app (RpAll.reverse t) (.cons r .nil)
theorem RpF.look : ∀ {fs : List (Str × V)} {ds : List (Str × DV)} {n : Str} {d : DV}, RpF K H fs ds → ds.lookup n = some d → ∃ v, fs.lookup n = some v ∧ Rp K H v d
  | _, _, _, _, .nil, h => by cases h
  | _, _, n, d, @RpF.cons _ _ m v vs d' ds r t, h => by
    rw [List.lookup_cons] at h ⊢
    cases hb : (n == m) with
    | true =>
      rw [hb] at h
      have e := Option.some.inj h
      subst e
      exact ⟨_, rfl, r⟩
    | false =>
      rw [hb] at h
      exact RpF.look t h
theorem RpF.lookN : ∀ {fs : List (Str × V)} {ds : List (Str × DV)} {n : Str}, RpF K H fs ds → ds.lookup n = none → fs.lookup n = none
  | _, _, _, .nil, h => rfl
  | _, _, n, @RpF.cons _ _ m v vs d' ds r t, h => by
    rw [List.lookup_cons] at h ⊢
    cases hb : (n == m) with
    | true =>
      rw [hb] at h
      cases h
    | false =>
      rw [hb] at h
      exact RpF.lookN t h
/-- scalars -/
def sv : V → DV
  | .bl b => .bl b
  | .int i => .int i
  | .str x => .str x
  | .ref a => .box a
  | _ => .non
def isSc : V → Bool
  | .non => true
  | .bl _ => true
  | .int _ => true
  | .str _ => true
  | _ => false
theorem Rp.sc {v : V} (h : isSc v = true) : Rp K H v (sv v) := by
  cases v <;> first | exact .non | exact .bl _ | exact .int _ | exact .str _ | cases h
end

/-! ### the heap without what may change -/
def hid (M : List Addr) (H : Hp) : Hp := fun a => if a ∈ M then none else H a
section
variable {H H' : Hp} {M : List Addr} {a : Addr} {o : HO}
theorem hid_sub : Ex (hid M H) H := fun a o h => by
  unfold hid at h
  split at h
  · cases h
  · exact h
theorem hid_get (n : a ∉ M) (h : H a = some o) : hid M H a = some o := by
  unfold hid
  rw [if_neg n]
  exact h
theorem hid_no (h : hid M H a = some o) : a ∉ M := fun q => by
  unfold hid at h
  rw [if_pos q] at h
  cases h
theorem hid_mono (e : Ex H H') : Ex (hid M H) (hid M H') := fun a o h => hid_get (hid_no h) (e a o (hid_sub a o h))
theorem hid_less {M' : List Addr} (s : ∀ a ∈ M', a ∈ M) : Ex (hid M H) (hid M' H) := fun a o h => hid_get (fun q => hid_no h (s a q)) (hid_sub a o h)
theorem hid_nil : hid [] H = H := by
  funext a
  unfold hid
  rw [if_neg (by simp)]
/-- hiding a fresh address hides nothing -/
theorem hid_fresh {p : Addr} (h : H p = none) : hid (p :: M) H = hid M H := by
  funext a
  unfold hid
  by_cases e : a = p
  · subst e
    rw [if_pos (by simp)]
    split
    · rfl
    · exact h.symm
  · simp [e]
end

abbrev Sto := List (Addr × List DV)
/-- a running def's state by data: F the heap that is kept (all but this def's own mutable lists), M the addresses hidden from data, δ the slots, μ the mutable lists -/
structure Sta (K : PySem.W.Frag) (F : Hp) (M : List Addr) (δ : List (Option DV)) (μ : Sto) (σ : L2.St) (H : Hp) : Prop where
  al : ∀ a ∈ M, H a ≠ none
  fr : Ex F H
  dm : ∀ p ∈ μ, p.1 ∈ M ∧ F p.1 = none
  nd : (μ.map Prod.fst).Nodup
  sto : ∀ p ∈ μ, ∃ vs, H p.1 = some (.lst vs) ∧ RpAll K (hid M H) vs p.2
  env : ∀ (i : Nat) (d : DV), δ[i]? = some (some d) → ∃ v, σ[i]? = some (some v) ∧ Rp K (hid M H) v d
  len : σ.length = δ.length
section
variable {K : PySem.W.Frag} {F H H' : Hp} {M : List Addr} {δ δ' : List (Option DV)} {μ : Sto} {σ : L2.St}
theorem Sta.mono (s : Sta K F M δ μ σ H) (e : Ex H H') : Sta K F M δ μ σ H' :=
  ⟨fun a ha q => s.al a ha (by
      cases h : H a with
      | none => rfl
      | some o => rw [e a o h] at q; cases q), s.fr.trans e, s.dm, s.nd,
    fun p hp => let ⟨vs, h1, h2⟩ := s.sto p hp; ⟨vs, e _ _ h1, h2.mono (hid_mono e)⟩,
    fun i d h => let ⟨v, h1, h2⟩ := s.env i d h; ⟨v, h1, h2.mono (hid_mono e)⟩, s.len⟩
theorem Sta.fresh (s : Sta K F M δ μ σ H) {p : Addr} (h : H p = none) : p ∉ M := fun q => s.al p q h
theorem Sta.freshF (s : Sta K F M δ μ σ H) {p : Addr} (h : H p = none) : F p = none := by
  cases q : F p with
  | none => rfl
  | some o => rw [s.fr p o q] at h; cases h
/-- a slot is stored -/
theorem Sta.put (s : Sta K F M δ μ σ H) {i : Nat} {v : V} {d : DV} (r : Rp K (hid M H) v d) : Sta K F M (δ.set i (some d)) μ (σ.set i (some v)) H := by
  refine ⟨s.al, s.fr, s.dm, s.nd, s.sto, fun j e h => ?_, by simpa using s.len⟩
  by_cases hj : i = j
  · subst hj
    by_cases hi : i < δ.length
    · rw [List.getElem?_set_self hi] at h
      cases h
      exact ⟨v, List.getElem?_set_self (by rw [s.len]; exact hi), r⟩
    · rw [List.getElem?_eq_none (by simpa using hi)] at h
      cases h
  · rw [List.getElem?_set_ne hj] at h
    obtain ⟨w, h1, h2⟩ := s.env j e h
    exact ⟨w, by rw [List.getElem?_set_ne hj]; exact h1, h2⟩
/-- a slot is forgotten -/
theorem Sta.putN (s : Sta K F M δ μ σ H) {i : Nat} {v : Option V} : Sta K F M (δ.set i none) μ (σ.set i v) H := by
  refine ⟨s.al, s.fr, s.dm, s.nd, s.sto, fun j e h => ?_, by simpa using s.len⟩
  by_cases hj : i = j
  · subst hj
    by_cases hi : i < δ.length
    · rw [List.getElem?_set_self hi] at h
      cases h
    · rw [List.getElem?_eq_none (by simpa using hi)] at h
      cases h
  · rw [List.getElem?_set_ne hj] at h
    obtain ⟨w, h1, h2⟩ := s.env j e h
    exact ⟨w, by rw [List.getElem?_set_ne hj]; exact h1, h2⟩
/-- less is told of the slots -/
def Less (δ' δ : List (Option DV)) : Prop := δ'.length = δ.length ∧ ∀ (i : Nat) (d : DV), δ'[i]? = some (some d) → δ[i]? = some (some d)
theorem Sta.less (s : Sta K F M δ μ σ H) (h : Less δ' δ) : Sta K F M δ' μ σ H :=
  ⟨s.al, s.fr, s.dm, s.nd, s.sto, fun i d q => s.env i d (h.2 i d q), s.len.trans h.1.symm⟩
theorem less_refl : Less δ δ := ⟨rfl, fun _ _ h => h⟩
theorem less_nil : Less [] [] := less_refl
theorem less_cons {a : Option DV} (h : Less δ' δ) : Less (a :: δ') (a :: δ) := ⟨by simp [h.1], fun i d q => by
  cases i with
  | zero => exact q
  | succ i => simpa using h.2 i d (by simpa using q)⟩
theorem less_none {a : Option DV} (h : Less δ' δ) : Less (none :: δ') (a :: δ) := ⟨by simp [h.1], fun i d q => by
  cases i with
  | zero => simp at q
  | succ i => simpa using h.2 i d (by simpa using q)⟩
/-- the store is changed at one list, as the heap is -/
theorem Sta.poke (s : Sta K F M δ μ σ H) {j : Nat} {l : Addr} {ds ds' : List DV} {vs' : List V} (hj : μ[j]? = some (l, ds)) (r : RpAll K (hid M H) vs' ds') :
    Sta K F M δ (μ.set j (l, ds')) σ (upd H l (.lst vs')) ∧ Ex (hid M H) (hid M (upd H l (.lst vs'))) := by
  have hm : (l, ds) ∈ μ := List.mem_of_getElem? hj
  obtain ⟨hlM, hlF⟩ := s.dm _ hm
  have hx : Ex (hid M H) (hid M (upd H l (.lst vs'))) := fun a o h => by
    have hn := hid_no h
    refine hid_get hn ?_
    rw [upd_ne (fun e => hn (by rw [e]; exact hlM))]
    exact hid_sub a o h
  have hf : (μ.set j (l, ds')).map Prod.fst = μ.map Prod.fst := by
    rw [List.map_set]
    refine List.ext_getElem? fun n => ?_
    by_cases e : j = n
    · subst e
      have hl : j < (μ.map Prod.fst).length := by
        rw [List.length_map]
        exact (List.getElem?_eq_some_iff.mp hj).1
      rw [List.getElem?_set_self hl, List.getElem?_map, hj]
      rfl
    · rw [List.getElem?_set_ne e]
  refine ⟨⟨fun a ha => ?_, fun a o h => ?_, fun p hp => ?_, by rw [hf]; exact s.nd, fun p hp => ?_, fun i d h => ?_, s.len⟩, hx⟩
  · by_cases e : a = l
    · subst e
      rw [upd_same]
      simp
    · rw [upd_ne e]
      exact s.al a ha
  · rw [upd_ne (ne_of_none h hlF)]
    exact s.fr a o h
  · rcases List.mem_or_eq_of_mem_set hp with h | h
    · exact s.dm p h
    · subst h
      exact ⟨hlM, hlF⟩
  · obtain ⟨n, hn⟩ := List.getElem?_of_mem hp
    by_cases e : j = n
    · subst e
      rw [List.getElem?_set_self (List.getElem?_eq_some_iff.mp hj).1] at hn
      cases hn
      exact ⟨vs', upd_same, r.mono hx⟩
    · rw [List.getElem?_set_ne e] at hn
      obtain ⟨ws, h1, h2⟩ := s.sto p (List.mem_of_getElem? hn)
      refine ⟨ws, ?_, h2.mono hx⟩
      have hne : p.1 ≠ l := fun q => e (by
        have a1 : (μ.map Prod.fst)[n]? = some l := by rw [List.getElem?_map, hn, ← q]; rfl
        have a2 : (μ.map Prod.fst)[j]? = some l := by rw [List.getElem?_map, hj]; rfl
        exact nd_ix s.nd a2 a1)
      rw [upd_ne hne]
      exact h1
  · obtain ⟨v, h1, h2⟩ := s.env i d h
    exact ⟨v, h1, h2.mono hx⟩
/-- a new list, made a mutable one -/
theorem Sta.newL (s : Sta K F M δ μ σ H) {p : Addr} {vs : List V} {ds : List DV} (h0 : H p = none) (r : RpAll K (hid M H) vs ds) : Sta K F (p :: M) δ ((p, ds) :: μ) σ (upd H p (.lst vs)) := by
  have hp := s.fresh h0
  have up : Ex (hid M H) (hid (p :: M) (upd H p (.lst vs))) := fun a o h => by
    have hn := hid_no h
    have hap : a ≠ p := ne_of_none (hid_sub a o h) h0
    exact hid_get (by simp [hap, hn]) (by rw [upd_ne hap]; exact hid_sub _ _ h)
  have key : ∀ q ∈ μ, q.1 ≠ p := fun q hq hqp => hp (by rw [← hqp]; exact (s.dm q hq).1)
  refine ⟨fun a ha => ?_, fun a o h => ?_, fun q hq => ?_, ?_, fun q hq => ?_, fun i d h => ?_, s.len⟩
  · rcases List.mem_cons.mp ha with rfl | ha
    · rw [upd_same]; simp
    · by_cases e : a = p
      · rw [e, upd_same]; simp
      · rw [upd_ne e]; exact s.al a ha
  · rw [upd_ne (ne_of_none (s.fr a o h) h0)]
    exact s.fr a o h
  · rcases List.mem_cons.mp hq with rfl | hq
    · exact ⟨by simp, s.freshF h0⟩
    · exact ⟨List.mem_cons_of_mem _ (s.dm q hq).1, (s.dm q hq).2⟩
  · rw [List.map_cons, List.nodup_cons]
    refine ⟨fun hm => ?_, s.nd⟩
    obtain ⟨q, hq, hqp⟩ := List.mem_map.mp hm
    exact key q hq hqp
  · rcases List.mem_cons.mp hq with rfl | hq
    · exact ⟨vs, upd_same, r.mono up⟩
    · obtain ⟨ws, h1, h2⟩ := s.sto q hq
      exact ⟨ws, by rw [upd_ne (key q hq)]; exact h1, h2.mono up⟩
  · obtain ⟨v, h1, h2⟩ := s.env i d h
    exact ⟨v, h1, h2.mono up⟩
/-- a mutable list stands still from here on: it is data -/
theorem Sta.still {p : Addr} {ds : List DV} (s : Sta K F (p :: M) δ ((p, ds) :: μ) σ H) (hp : p ∉ M) : Sta K F M δ μ σ H ∧ Rp K (hid M H) (.ref p) (.lst ds) := by
  have up : Ex (hid (p :: M) H) (hid M H) := hid_less fun a ha => List.mem_cons_of_mem _ ha
  obtain ⟨vs, h1, h2⟩ := s.sto (p, ds) (by simp)
  refine ⟨⟨fun a ha => s.al a (List.mem_cons_of_mem _ ha), s.fr, fun q hq => ?_, (List.nodup_cons.mp s.nd).2, fun q hq => ?_, fun i d h => ?_, s.len⟩, .lst (sq_of (hid_get hp h1)) (h2.mono up)⟩
  · obtain ⟨a1, a2⟩ := s.dm q (List.mem_cons_of_mem _ hq)
    refine ⟨?_, a2⟩
    rcases List.mem_cons.mp a1 with e | e
    · exact ((List.nodup_cons.mp s.nd).1 (List.mem_map.mpr ⟨q, hq, e⟩)).elim
    · exact e
  · obtain ⟨ws, e1, e2⟩ := s.sto q (List.mem_cons_of_mem _ hq)
    exact ⟨ws, e1, e2.mono up⟩
  · obtain ⟨v, e1, e2⟩ := s.env i d h
    exact ⟨v, e1, e2.mono up⟩
end

/-! ### judgements of expressions: from a state told by δ and μ to the value d, the store behind it μ' -/
def EX (K : PySem.W.Frag) (te : TE) (δ : List (Option DV)) (μ μ' : Sto) (d : DV) : Prop :=
  ∀ F M σ H, Sta K F M δ μ σ H → ∀ Q : VK, (∀ v H', Ex (hid M H) (hid M H') → Sta K F M δ μ' σ H' → Rp K (hid M H') v d → Q v H') → te σ H Q
def TX (K : PySem.W.Frag) (tt : TT) (δ : List (Option DV)) (μ μ' : Sto) (b : Bool) : Prop :=
  ∀ F M σ H, Sta K F M δ μ σ H → ∀ Q : Bool → Hp → Prop, (∀ H', Ex (hid M H) (hid M H') → Sta K F M δ μ' σ H' → Q b H') → tt σ H Q
def AX (K : PySem.W.Frag) (ta : TA) (δ : List (Option DV)) (μ μ' : Sto) (ds : List DV) : Prop :=
  ∀ F M σ H, Sta K F M δ μ σ H → ∀ Q : List V → Hp → Prop, (∀ vs H', Ex (hid M H) (hid M H') → Sta K F M δ μ' σ H' → RpAll K (hid M H') vs ds → Q vs H') → ta σ H Q
/-- a new list: it is a mutable one behind -/
def LX (K : PySem.W.Frag) (te : TE) (δ : List (Option DV)) (μ μ' : Sto) (ds : List DV) : Prop :=
  ∀ F M σ H, Sta K F M δ μ σ H → ∀ Q : VK, (∀ p H', H p = none → p ∉ M → Ex (hid M H) (hid M H') → Sta K F (p :: M) δ ((p, ds) :: μ') σ H' → Q (.ref p) H') → te σ H Q
/-- a part of a slice -/
def OX (K : PySem.W.Frag) (to : TO) (δ : List (Option DV)) (μ : Sto) (o : Option Int) : Prop :=
  ∀ F M σ H, Sta K F M δ μ σ H → ∀ Q : Option Int → Hp → Prop, (∀ H', Ex (hid M H) (hid M H') → Sta K F M δ μ σ H' → Q o H') → to σ H Q
/-- what stands in a sequence -/
inductive Items (μ : Sto) : DV → List DV → Prop
  | lst (ds : List DV) : Items μ (.lst ds) ds
  | tup (ds : List DV) : Items μ (.tup ds) ds
  | box {j : Nat} {l : Addr} {ds : List DV} (h : μ[j]? = some (l, ds)) : Items μ (.box l) ds
section
variable {K : PySem.W.Frag} {F H H' : Hp} {M : List Addr} {δ δ' : List (Option DV)} {μ μ' μ'' : Sto} {σ : L2.St} {ta tb te : TE} {t u : TT} {d e : DV} {ds es : List DV}
theorem Items.seq (s : Sta K F M δ μ σ H) {v : V} (r : Rp K (hid M H) v d) (it : Items μ d ds) : ∃ a vs, v = .ref a ∧ (SqL K H a vs ∨ SqT K H a vs) ∧ RpAll K (hid M H) vs ds := by
  cases it with
  | lst => cases r with | lst h1 h2 => exact ⟨_, _, rfl, .inl (ex_l hid_sub h1), h2⟩
  | tup => cases r with | tup h1 h2 => exact ⟨_, _, rfl, .inr (ex_t hid_sub h1), h2⟩
  | box h =>
    cases r
    obtain ⟨vs, h1, h2⟩ := s.sto _ (List.mem_of_getElem? h)
    exact ⟨_, vs, rfl, .inl (sq_of h1), h2⟩
theorem LX.ex (h : LX K te δ μ μ' ds) : EX K te δ μ μ' (.lst ds) := fun F M σ H s Q q => h F M σ H s Q fun p H' _ hp e s' =>
  let ⟨s2, r⟩ := s'.still hp
  q _ H' e s2 r
theorem ex_var {i : Nat} (h : δ[i]? = some (some d)) : EX K (tVar i) δ μ μ d := fun F M σ H s Q q =>
  let ⟨v, h1, h2⟩ := s.env i d h
  ⟨v, h1, q v H (Ex.refl _) s h2⟩
theorem ex_c {v : V} (h : isSc v = true := by rfl) : EX K (tC v) δ μ μ (sv v) := fun F M σ H s Q q => q v H (Ex.refl _) s (Rp.sc h)
theorem ex_int {i : Int} : EX K (tC (.int i)) δ μ μ (.int i) := ex_c
theorem ex_bl {i : Bool} : EX K (tC (.bl i)) δ μ μ (.bl i) := ex_c
theorem ex_str {i : Str} : EX K (tC (.str i)) δ μ μ (.str i) := ex_c
theorem ex_non : EX K (tC .non) δ μ μ .non := ex_c
/-- two ints -/
theorem ex_I0 {g : Int → Int → V} {a b : Int} (ha : EX K ta δ μ μ' (.int a)) (hb : EX K tb δ μ' μ'' (.int b)) (hs : isSc (g a b) = true := by rfl) : EX K (tOp (rI0 g) ta tb) δ μ μ'' (sv (g a b)) := fun F M σ H s Q q =>
  ha F M σ H s _ fun v H1 e1 s1 r1 => hb F M σ H1 s1 _ fun w H2 e2 s2 r2 => by
    cases r1
    cases r2
    exact ⟨a, b, rfl, rfl, q _ H2 (e1.trans e2) s2 (Rp.sc hs)⟩
theorem ex_I {C : Int → Int → Prop} {g : Int → Int → V} {a b : Int} (ha : EX K ta δ μ μ' (.int a)) (hb : EX K tb δ μ' μ'' (.int b)) (hc : C a b) (hs : isSc (g a b) = true := by rfl) : EX K (tOp (rI C g) ta tb) δ μ μ'' (sv (g a b)) := fun F M σ H s Q q =>
  ha F M σ H s _ fun v H1 e1 s1 r1 => hb F M σ H1 s1 _ fun w H2 e2 s2 r2 => by
    cases r1
    cases r2
    exact ⟨a, b, rfl, rfl, hc, q _ H2 (e1.trans e2) s2 (Rp.sc hs)⟩
theorem ex_U {g : Int → V} {a : Int} (ha : EX K ta δ μ μ' (.int a)) (hs : isSc (g a) = true := by rfl) : EX K (tUn (rU g) ta) δ μ μ' (sv (g a)) := fun F M σ H s Q q =>
  ha F M σ H s _ fun v H1 e1 s1 r1 => by
    cases r1
    exact ⟨a, rfl, q _ H1 e1 s1 (Rp.sc hs)⟩
/-- what is told of a value in another shape -/
theorem EX.is (h : EX K te δ μ μ' d) (e : d = e') : EX K te δ μ μ' e' := e ▸ h
theorem TX.is {b c : Bool} (h : TX K t δ μ μ' b) (e : b = c) : TX K t δ μ μ' c := e ▸ h
theorem LX.is (h : LX K te δ μ μ' ds) (e : ds = es) : LX K te δ μ μ' es := e ▸ h
/-- == and != of scalars -/
theorem ex_eqI {a b : Int} (ha : EX K ta δ μ μ' (.int a)) (hb : EX K tb δ μ' μ'' (.int b)) : EX K (tOp rEq ta tb) δ μ μ'' (.bl (decide (a = b))) := fun F M σ H s Q q =>
  ha F M σ H s _ fun v H1 e1 s1 r1 => hb F M σ H1 s1 _ fun w H2 e2 s2 r2 => by
    cases r1
    cases r2
    refine ⟨rfl, q _ H2 (e1.trans e2) s2 ?_⟩
    rw [show decide (V.int a = V.int b) = decide (a = b) by simp]
    exact .bl _
theorem ex_neI {a b : Int} (ha : EX K ta δ μ μ' (.int a)) (hb : EX K tb δ μ' μ'' (.int b)) : EX K (tOp rNe ta tb) δ μ μ'' (.bl (!decide (a = b))) := fun F M σ H s Q q =>
  ha F M σ H s _ fun v H1 e1 s1 r1 => hb F M σ H1 s1 _ fun w H2 e2 s2 r2 => by
    cases r1
    cases r2
    refine ⟨rfl, q _ H2 (e1.trans e2) s2 ?_⟩
    rw [show decide (V.int a = V.int b) = decide (a = b) by simp]
    exact .bl _
theorem ex_eqB {a b : Bool} (ha : EX K ta δ μ μ' (.bl a)) (hb : EX K tb δ μ' μ'' (.bl b)) : EX K (tOp rEq ta tb) δ μ μ'' (.bl (decide (a = b))) := fun F M σ H s Q q =>
  ha F M σ H s _ fun v H1 e1 s1 r1 => hb F M σ H1 s1 _ fun w H2 e2 s2 r2 => by
    cases r1
    cases r2
    refine ⟨rfl, q _ H2 (e1.trans e2) s2 ?_⟩
    rw [show decide (V.bl a = V.bl b) = decide (a = b) by simp]
    exact .bl _
theorem ex_neB {a b : Bool} (ha : EX K ta δ μ μ' (.bl a)) (hb : EX K tb δ μ' μ'' (.bl b)) : EX K (tOp rNe ta tb) δ μ μ'' (.bl (!decide (a = b))) := fun F M σ H s Q q =>
  ha F M σ H s _ fun v H1 e1 s1 r1 => hb F M σ H1 s1 _ fun w H2 e2 s2 r2 => by
    cases r1
    cases r2
    refine ⟨rfl, q _ H2 (e1.trans e2) s2 ?_⟩
    rw [show decide (V.bl a = V.bl b) = decide (a = b) by simp]
    exact .bl _
theorem ex_eqS {a b : Str} (ha : EX K ta δ μ μ' (.str a)) (hb : EX K tb δ μ' μ'' (.str b)) : EX K (tOp rEq ta tb) δ μ μ'' (.bl (decide (a = b))) := fun F M σ H s Q q =>
  ha F M σ H s _ fun v H1 e1 s1 r1 => hb F M σ H1 s1 _ fun w H2 e2 s2 r2 => by
    cases r1
    cases r2
    refine ⟨rfl, q _ H2 (e1.trans e2) s2 ?_⟩
    rw [show decide (V.str a = V.str b) = decide (a = b) by simp]
    exact .bl _
theorem ex_neS {a b : Str} (ha : EX K ta δ μ μ' (.str a)) (hb : EX K tb δ μ' μ'' (.str b)) : EX K (tOp rNe ta tb) δ μ μ'' (.bl (!decide (a = b))) := fun F M σ H s Q q =>
  ha F M σ H s _ fun v H1 e1 s1 r1 => hb F M σ H1 s1 _ fun w H2 e2 s2 r2 => by
    cases r1
    cases r2
    refine ⟨rfl, q _ H2 (e1.trans e2) s2 ?_⟩
    rw [show decide (V.str a = V.str b) = decide (a = b) by simp]
    exact .bl _
/-- tests -/
theorem tx_val {b : Bool} (h : EX K te δ μ μ' (.bl b)) : TX K (tB te) δ μ μ' b := fun F M σ H s Q q => h F M σ H s _ fun v H1 e1 s1 r1 => by
  cases r1
  exact ⟨b, rfl, q H1 e1 s1⟩
theorem tx_test {b : Bool} (h : EX K te δ μ μ' (.bl b)) : TX K (tTest te) δ μ μ' b := fun F M σ H s Q q => h F M σ H s _ fun v H1 e1 s1 r1 => by
  cases r1
  exact ⟨b, rfl, q H1 e1 s1⟩
theorem tx_not {b : Bool} (h : TX K t δ μ μ' b) : TX K (tNot t) δ μ μ' (!b) := fun F M σ H s Q q => h F M σ H s _ fun H1 e1 s1 => q H1 e1 s1
theorem tx_and {a b : Bool} (h1 : TX K t δ μ μ' a) (h2 : a = true → TX K u δ μ' μ' b) : TX K (tAnd t u) δ μ μ' (a && b) := fun F M σ H s Q q => h1 F M σ H s _ fun H1 e1 s1 => by
  cases a with
  | true =>
    show u σ H1 Q
    exact h2 rfl F M σ H1 s1 Q fun H2 e2 s2 => q H2 (e1.trans e2) s2
  | false =>
    show Q false H1
    exact q H1 e1 s1
theorem tx_or {a b : Bool} (h1 : TX K t δ μ μ' a) (h2 : a = false → TX K u δ μ' μ' b) : TX K (tOr t u) δ μ μ' (a || b) := fun F M σ H s Q q => h1 F M σ H s _ fun H1 e1 s1 => by
  cases a with
  | true =>
    show Q true H1
    exact q H1 e1 s1
  | false =>
    show u σ H1 Q
    exact h2 rfl F M σ H1 s1 Q fun H2 e2 s2 => q H2 (e1.trans e2) s2
/-- and, the second operand changing the store -/
theorem tx_andS {a b : Bool} (h1 : TX K t δ μ μ a) (h2 : a = true → TX K u δ μ μ' b) (h3 : a = false → μ' = μ) : TX K (tAnd t u) δ μ μ' (a && b) := fun F M σ H s Q q => h1 F M σ H s _ fun H1 e1 s1 => by
  cases a with
  | true =>
    show u σ H1 Q
    exact h2 rfl F M σ H1 s1 Q fun H2 e2 s2 => q H2 (e1.trans e2) s2
  | false =>
    show Q false H1
    exact q H1 e1 (by rw [h3 rfl]; exact s1)
theorem ex_andV {a b : Bool} (h1 : EX K ta δ μ μ' (.bl a)) (h2 : a = true → EX K tb δ μ' μ' (.bl b)) : EX K (tAndV ta tb) δ μ μ' (.bl (a && b)) := fun F M σ H s Q q => h1 F M σ H s _ fun v H1 e1 s1 r1 => by
  cases r1
  refine ⟨a, rfl, ?_⟩
  cases a with
  | true =>
    show tb σ H1 Q
    exact h2 rfl F M σ H1 s1 Q fun v H2 e2 s2 r2 => q v H2 (e1.trans e2) s2 r2
  | false =>
    show Q (.bl false) H1
    exact q _ H1 e1 s1 (.bl _)
theorem ex_orV {a b : Bool} (h1 : EX K ta δ μ μ' (.bl a)) (h2 : a = false → EX K tb δ μ' μ' (.bl b)) : EX K (tOrV ta tb) δ μ μ' (.bl (a || b)) := fun F M σ H s Q q => h1 F M σ H s _ fun v H1 e1 s1 r1 => by
  cases r1
  refine ⟨a, rfl, ?_⟩
  cases a with
  | true =>
    show Q (.bl true) H1
    exact q _ H1 e1 s1 (.bl _)
  | false =>
    show tb σ H1 Q
    exact h2 rfl F M σ H1 s1 Q fun v H2 e2 s2 r2 => q v H2 (e1.trans e2) s2 r2
theorem ex_notV {a : Bool} (h1 : EX K ta δ μ μ' (.bl a)) : EX K (tNotV ta) δ μ μ' (.bl (!a)) := fun F M σ H s Q q => h1 F M σ H s _ fun v H1 e1 s1 r1 => by
  cases r1
  exact ⟨a, rfl, q _ H1 e1 s1 (.bl _)⟩
theorem ex_if {b : Bool} (h : TX K t δ μ μ' b) (h1 : b = true → EX K ta δ μ' μ'' d) (h2 : b = false → EX K tb δ μ' μ'' d) : EX K (tIf t ta tb) δ μ μ'' d := fun F M σ H s Q q => h F M σ H s _ fun H1 e1 s1 => by
  cases b with
  | true =>
    show ta σ H1 Q
    exact h1 rfl F M σ H1 s1 Q fun v H2 e2 s2 r2 => q v H2 (e1.trans e2) s2 r2
  | false =>
    show tb σ H1 Q
    exact h2 rfl F M σ H1 s1 Q fun v H2 e2 s2 r2 => q v H2 (e1.trans e2) s2 r2
/-- arguments, displays -/
theorem ax_nil : AX K tNil δ μ μ [] := fun F M σ H s Q q => q [] H (Ex.refl _) s .nil
theorem ax_cons {tr : TA} (h : EX K ta δ μ μ' d) (hr : AX K tr δ μ' μ'' ds) : AX K (tCons ta tr) δ μ μ'' (d :: ds) := fun F M σ H s Q q =>
  h F M σ H s _ fun v H1 e1 s1 r1 => hr F M σ H1 s1 _ fun vs H2 e2 s2 r2 => q _ H2 (e1.trans e2) s2 (.cons (r1.mono e2) r2)
theorem new_ex (s : Sta K F M δ μ σ H) {p : Addr} {o : HO} (h : H p = none) : Ex (hid M H) (hid M (upd H p o)) := hid_mono (Ex.new h)
theorem ex_tup {ta : TA} (h : AX K ta δ μ μ' ds) (hl : ds.length ≤ 100000 := by simp) : EX K (tTup ta) δ μ μ' (.tup ds) := fun F M σ H s Q q =>
  h F M σ H s _ fun vs H1 e1 s1 r1 => ⟨sz_of (by rw [r1.length]; exact hl), fun p hp =>
    q _ _ (e1.trans (new_ex s1 hp)) (s1.mono (Ex.new hp)) (.tup (st_of (hid_get (s1.fresh hp) upd_same)) (r1.mono (new_ex s1 hp)))⟩
theorem lx_lst {ta : TA} (h : AX K ta δ μ μ' ds) (hl : ds.length ≤ 100000 := by simp) : LX K (tLst ta) δ μ μ' ds := fun F M σ H s Q q =>
  h F M σ H s _ fun vs H1 e1 s1 r1 => ⟨sz_of (by rw [r1.length]; exact hl), fun p hp => by
    have hp0 : H p = none := by
      cases h0 : H p with
      | none => rfl
      | some o =>
        by_cases hm : p ∈ M
        · exact (s1.al p hm hp).elim
        · have := hid_sub _ _ (e1 p o (hid_get hm h0))
          rw [hp] at this
          cases this
    exact q p _ hp0 (s1.fresh hp) (e1.trans (new_ex s1 hp)) (s1.newL hp r1)⟩
end
end G
set_option Elab.async false
set_option linter.all false
set_option maxRecDepth 100000
namespace G
open PySem L2 Evl
/-! ### locks: a list of one's own while other things are reckoned -/
section
variable {K : PySem.W.Frag} {F H H' H0 : Hp} {M : List Addr} {δ δ' : List (Option DV)} {μ μ' μ'' : Sto} {σ : L2.St} {ta tb te : TE} {t u : TT} {d e : DV} {ds es : List DV}
theorem back_none (s : Sta K F M δ μ σ H) (s' : Sta K F M δ' μ' σ H') (e : Ex (hid M H) (hid M H')) {p : Addr} (h : H' p = none) : H p = none := by
  cases h0 : H p with
  | none => rfl
  | some o =>
    by_cases hm : p ∈ M
    · exact (s'.al p hm h).elim
    · have := hid_sub _ _ (e p o (hid_get hm h0))
      rw [h] at this
      cases this
theorem Sta.lock {p : Addr} {vs : List V} (s : Sta K F (p :: M) δ ((p, ds) :: μ) σ H) (h : H p = some (.lst vs)) : Sta K (upd F p (.lst vs)) (p :: M) δ μ σ H := by
  have hn := List.nodup_cons.mp s.nd
  refine ⟨s.al, fun a o q => ?_, fun q hq => ?_, hn.2, fun q hq => s.sto q (List.mem_cons_of_mem _ hq), s.env, s.len⟩
  · by_cases e : a = p
    · subst e
      rw [upd_same] at q
      rw [h, q]
    · rw [upd_ne e] at q
      exact s.fr a o q
  · obtain ⟨h1, h2⟩ := s.dm q (List.mem_cons_of_mem _ hq)
    refine ⟨h1, ?_⟩
    have e : q.1 ≠ p := fun e => hn.1 (List.mem_map.mpr ⟨q, hq, e⟩)
    rw [upd_ne e]
    exact h2
theorem Sta.unlock {p : Addr} {vs : List V} (hF : F p = none) (s : Sta K (upd F p (.lst vs)) (p :: M) δ μ σ H) (r : RpAll K (hid (p :: M) H) vs ds) : Sta K F (p :: M) δ ((p, ds) :: μ) σ H := by
  have hp : H p = some (.lst vs) := s.fr p _ upd_same
  have key : ∀ q ∈ μ, q.1 ≠ p := fun q hq e => by
    have := (s.dm q hq).2
    rw [e, upd_same] at this
    cases this
  refine ⟨s.al, fun a o q => ?_, fun q hq => ?_, ?_, fun q hq => ?_, s.env, s.len⟩
  · exact s.fr a o (by rw [upd_ne (ne_of_none q hF)]; exact q)
  · rcases List.mem_cons.mp hq with rfl | hq
    · exact ⟨by simp, hF⟩
    · refine ⟨(s.dm q hq).1, ?_⟩
      have := (s.dm q hq).2
      rw [upd_ne (key q hq)] at this
      exact this
  · rw [List.map_cons, List.nodup_cons]
    refine ⟨fun hm => ?_, s.nd⟩
    obtain ⟨q, hq, e⟩ := List.mem_map.mp hm
    exact key q hq e
  · rcases List.mem_cons.mp hq with rfl | hq
    · exact ⟨vs, hp, r⟩
    · exact s.sto q hq
/-- the store's head list is changed -/
theorem Sta.pokeH {p : Addr} {ds' : List DV} {vs' : List V} (s : Sta K F (p :: M) δ ((p, ds) :: μ) σ H) (r : RpAll K (hid (p :: M) H) vs' ds') :
    Sta K F (p :: M) δ ((p, ds') :: μ) σ (upd H p (.lst vs')) ∧ Ex (hid (p :: M) H) (hid (p :: M) (upd H p (.lst vs'))) :=
  s.poke (j := 0) rfl r
theorem ex_less (e : Ex (hid (p :: M) H) (hid (p :: M) H')) (h : H p = none) : Ex (hid M H) (hid M H') := by
  rw [← hid_fresh (M := M) h]
  exact e.trans (hid_less fun a ha => List.mem_cons_of_mem _ ha)

theorem ex_two {H1 H2 : Hp} {p : Addr} (h : H p = none) (e1 : Ex (hid M H) (hid M H1)) (e2 : Ex (hid (p :: M) H1) (hid (p :: M) H2)) : Ex (hid M H) (hid M H2) := fun a o q => by
  have hn := hid_no q
  have hap : a ≠ p := ne_of_none (hid_sub a o q) h
  have q1 := hid_sub _ _ (e1 a o q)
  exact hid_get hn (hid_sub _ _ (e2 a o (hid_get (by simp [hap, hn]) q1)))

/-! ### items, lengths, copies -/
theorem atI_len {α β : Type} {xs : List α} {ys : List β} (hl : xs.length = ys.length) {i : Int} {y : β} (h : atI ys i = some y) : ∃ j, ixN xs.length i = some j ∧ ys[j]? = some y := by
  unfold atI at h
  rw [← hl] at h
  cases q : ixN xs.length i with
  | none => rw [q] at h; cases h
  | some j => rw [q] at h; exact ⟨j, rfl, h⟩
theorem RpAll.atI {vs : List V} {i : Int} (r : RpAll K H vs ds) (h : L2.atI ds i = some d) : ∃ v, L2.atI vs i = some v ∧ Rp K H v d := by
  obtain ⟨j, h1, h2⟩ := atI_len (xs := vs) r.length h
  obtain ⟨v, h3, h4⟩ := r.get h2
  exact ⟨v, by unfold L2.atI; rw [h1]; exact h3, h4⟩
/-- xs[i], t[i] -/
theorem ex_ix {i : Int} (ha : EX K ta δ μ μ' d) (hb : EX K tb δ μ' μ'' (.int i)) (it : Items μ'' d ds) (h : L2.atI ds i = some e) : EX K (tOp (rIx K) ta tb) δ μ μ'' e := fun F M σ H s Q q =>
  ha F M σ H s _ fun v H1 e1 s1 r1 => hb F M σ H1 s1 _ fun w H2 e2 s2 r2 => by
    cases r2
    obtain ⟨a, vs, rfl, hq, r⟩ := it.seq s2 (r1.mono e2)
    obtain ⟨x, hx, rx⟩ := r.atI h
    rcases hq with hq | hq
    · exact .inl ⟨a, vs, i, x, rfl, rfl, hq, hx, q x H2 (e1.trans e2) s2 rx⟩
    · exact .inr (.inl ⟨a, vs, i, x, rfl, rfl, hq, hx, q x H2 (e1.trans e2) s2 rx⟩)
theorem ex_ixL {i : Int} (ha : EX K ta δ μ μ' (.lst ds)) (hb : EX K tb δ μ' μ'' (.int i)) (h : L2.atI ds i = some e) : EX K (tOp (rIx K) ta tb) δ μ μ'' e := ex_ix ha hb (.lst _) h
theorem ex_ixT {i : Int} (ha : EX K ta δ μ μ' (.tup ds)) (hb : EX K tb δ μ' μ'' (.int i)) (h : L2.atI ds i = some e) : EX K (tOp (rIx K) ta tb) δ μ μ'' e := ex_ix ha hb (.tup _) h
def rLenQ (K : PySem.W.Frag) : List V → Hp → VK → Prop := fun xs H Q => ∃ p ys, xs = [.ref p] ∧ (SqL K H p ys ∨ SqT K H p ys) ∧ Q (.int ys.length) H
theorem call_lenQ {X : Cx} : CallR X (.builtin "len") (rLenQ X.K) := call_len_seq
theorem ex_len (ha : EX K ta δ μ μ' d) (it : Items μ' d ds) : EX K (tCB (rLenQ K) (tCons ta tNil)) δ μ μ' (.int ds.length) := fun F M σ H s Q q =>
  ha F M σ H s _ fun v H1 e1 s1 r1 => by
    obtain ⟨a, vs, rfl, hq, r⟩ := it.seq s1 r1
    refine ⟨a, vs, rfl, hq, ?_⟩
    rw [r.length]
    exact q _ H1 e1 s1 (.int _)
def rListQ (K : PySem.W.Frag) : List V → Hp → VK → Prop := fun xs H Q => ∃ p ys, xs = [.ref p] ∧ (SqL K H p ys ∨ SqT K H p ys) ∧ ∀ l, H l = none → Q (.ref l) (upd H l (.lst ys))
theorem call_listQ {X : Cx} : CallR X (.type "list") (rListQ X.K) := call_list_of
theorem lx_list (ha : EX K ta δ μ μ' d) (it : Items μ' d ds) : LX K (tCB (rListQ K) (tCons ta tNil)) δ μ μ' ds := fun F M σ H s Q q =>
  ha F M σ H s _ fun v H1 e1 s1 r1 => by
    obtain ⟨a, vs, rfl, hq, r⟩ := it.seq s1 r1
    exact ⟨a, vs, rfl, hq, fun p hp => q p _ (back_none s s1 e1 hp) (s1.fresh hp) (e1.trans (new_ex s1 hp)) (s1.newL hp r)⟩
def rTupQ (K : PySem.W.Frag) : List V → Hp → VK → Prop := fun xs H Q => ∃ p ys, xs = [.ref p] ∧ ((SqL K H p ys ∧ ∀ l, H l = none → Q (.ref l) (upd H l (.tup ys))) ∨ (SqT K H p ys ∧ Q (.ref p) H))
theorem call_tupQ {X : Cx} : CallR X (.type "tuple") (rTupQ X.K) := call_tuple_of
theorem ex_tuple (ha : EX K ta δ μ μ' d) (it : Items μ' d ds) : EX K (tCB (rTupQ K) (tCons ta tNil)) δ μ μ' (.tup ds) := fun F M σ H s Q q =>
  ha F M σ H s _ fun v H1 e1 s1 r1 => by
    have mk : ∀ (a : Addr) (vs : List V), SqL K H1 a vs → RpAll K (hid M H1) vs ds → (∃ p ys, [V.ref a] = [.ref p] ∧ ((SqL K H1 p ys ∧ ∀ l, H1 l = none → Q (.ref l) (upd H1 l (.tup ys))) ∨ (SqT K H1 p ys ∧ Q (.ref p) H1))) := fun a vs hq r =>
      ⟨a, vs, rfl, .inl ⟨hq, fun p hp => q _ _ (e1.trans (new_ex s1 hp)) (s1.mono (Ex.new hp)) (.tup (st_of (hid_get (s1.fresh hp) upd_same)) (r.mono (new_ex s1 hp)))⟩⟩
    cases it with
    | lst => cases r1 with | lst h1 h2 => exact mk _ _ (ex_l hid_sub h1) h2
    | tup => cases r1 with | tup h1 h2 => exact ⟨_, _, rfl, .inr ⟨ex_t hid_sub h1, q _ H1 e1 s1 (.tup h1 h2)⟩⟩
    | box h =>
      cases r1
      obtain ⟨vs, h1, h2⟩ := s1.sto _ (List.mem_of_getElem? h)
      exact mk _ _ (sq_of h1) h2
theorem ex_abs {i : Int} (ha : EX K ta δ μ μ' (.int i)) : EX K (tCB (fun xs H Q => ∃ i, xs = [.int i] ∧ Q (.int (if i < 0 then -i else i)) H) (tCons ta tNil)) δ μ μ' (.int (if i < 0 then -i else i)) := fun F M σ H s Q q =>
  ha F M σ H s _ fun v H1 e1 s1 r1 => by
    cases r1
    exact ⟨i, rfl, q _ H1 e1 s1 (.int _)⟩
theorem ex_toI {i : Int} (ha : EX K ta δ μ μ' (.int i)) : EX K (tCB (fun xs H Q => (∃ i, xs = [.int i] ∧ Q (.int i) H) ∨ ∃ k, xs = [.bl k] ∧ Q (.int (if k then 1 else 0)) H) (tCons ta tNil)) δ μ μ' (.int i) := fun F M σ H s Q q =>
  ha F M σ H s _ fun v H1 e1 s1 r1 => by
    cases r1
    exact .inl ⟨i, rfl, q _ H1 e1 s1 (.int _)⟩
theorem ex_toB {b : Bool} (ha : EX K ta δ μ μ' (.bl b)) : EX K (tCB (fun xs H Q => (∃ i, xs = [.int i] ∧ Q (.int i) H) ∨ ∃ k, xs = [.bl k] ∧ Q (.int (if k then 1 else 0)) H) (tCons ta tNil)) δ μ μ' (.int (if b then 1 else 0)) := fun F M σ H s Q q =>
  ha F M σ H s _ fun v H1 e1 s1 r1 => by
    cases r1
    exact .inr ⟨b, rfl, q _ H1 e1 s1 (.int _)⟩
theorem RpAll.ints : ∀ {vs : List V} {ns : List Int}, RpAll K H vs (ns.map DV.int) → vs = ns.map V.int
  | _, [], .nil => rfl
  | _, n :: ns, .cons r t => by
    cases r
    rw [RpAll.ints t]
    rfl
theorem RpAll.bools : ∀ {vs : List V} {ns : List Bool}, RpAll K H vs (ns.map DV.bl) → vs = ns.map V.bl
  | _, [], .nil => rfl
  | _, n :: ns, .cons r t => by
    cases r
    rw [RpAll.bools t]
    rfl
theorem ex_sum {ns : List Int} (ha : EX K ta δ μ μ' (.lst (ns.map .int))) : EX K (tCB (rSum K) (tCons ta tNil)) δ μ μ' (.int ns.sum) := fun F M σ H s Q q =>
  ha F M σ H s _ fun v H1 e1 s1 r1 => by
    cases r1 with
    | lst h1 h2 =>
      cases h2.ints
      exact ⟨_, ns, rfl, ex_l hid_sub h1, q _ H1 e1 s1 (.int _)⟩
theorem ex_all {bs : List Bool} (ha : EX K ta δ μ μ' (.lst (bs.map .bl))) : EX K (tCB (rAll K) (tCons ta tNil)) δ μ μ' (.bl (bs.all id)) := fun F M σ H s Q q =>
  ha F M σ H s _ fun v H1 e1 s1 r1 => by
    cases r1 with
    | lst h1 h2 =>
      cases h2.bools
      exact ⟨_, bs, rfl, ex_l hid_sub h1, q _ H1 e1 s1 (.bl _)⟩
theorem ex_any {bs : List Bool} (ha : EX K ta δ μ μ' (.lst (bs.map .bl))) : EX K (tCB (rAny K) (tCons ta tNil)) δ μ μ' (.bl (bs.any id)) := fun F M σ H s Q q =>
  ha F M σ H s _ fun v H1 e1 s1 r1 => by
    cases r1 with
    | lst h1 h2 =>
      cases h2.bools
      exact ⟨_, bs, rfl, ex_l hid_sub h1, q _ H1 e1 s1 (.bl _)⟩
/-! ### slices, sums of sequences -/
def cutD (xs : List DV) (lo hi : Option Int) : List DV := (xs.drop (HT.sIx xs.length 0 lo)).take (HT.sIx xs.length xs.length hi - HT.sIx xs.length 0 lo)
theorem RpAll.cut {vs : List V} (lo hi : Option Int) (r : RpAll K H vs ds) : RpAll K H (cutV vs lo hi) (cutD ds lo hi) := by
  unfold cutV cutD
  rw [r.length]
  exact (r.drop _).take _
theorem ox_none : OX K tNoPart δ μ none := fun F M σ H s Q q => q H (Ex.refl _) s
theorem ox_some {i : Int} (h : EX K te δ μ μ (.int i)) : OX K (tPart te) δ μ (some i) := fun F M σ H s Q q => h F M σ H s _ fun v H1 e1 s1 r1 => by
  cases r1
  exact ⟨i, rfl, q H1 e1 s1⟩
theorem lx_sl {tl th : TO} {lo hi : Option Int} (h : EX K te δ μ μ' (.lst ds)) (h1 : OX K tl δ μ' lo) (h2 : OX K th δ μ' hi) : LX K (tSl (rSlL K) te tl th) δ μ μ' (cutD ds lo hi) := fun F M σ H s Q q =>
  h F M σ H s _ fun v H1 e1 s1 r1 => h1 F M σ H1 s1 _ fun H2 e2 s2 => h2 F M σ H2 s2 _ fun H3 e3 s3 => by
    cases r1 with
    | lst g1 g2 =>
      refine ⟨_, _, rfl, ex_l ((e2.trans e3).trans hid_sub) g1, fun p hp => ?_⟩
      have e13 := (e1.trans e2).trans e3
      exact q p _ (back_none s s3 e13 hp) (s3.fresh hp) (e13.trans (new_ex s3 hp)) (s3.newL hp ((g2.mono (e2.trans e3)).cut lo hi))
theorem lx_slB {tl th : TO} {lo hi : Option Int} {a : Addr} {j : Nat} (h : EX K te δ μ μ' (.box a)) (h1 : OX K tl δ μ' lo) (h2 : OX K th δ μ' hi) (hj : μ'[j]? = some (a, ds)) : LX K (tSl (rSlL K) te tl th) δ μ μ' (cutD ds lo hi) := fun F M σ H s Q q =>
  h F M σ H s _ fun v H1 e1 s1 r1 => h1 F M σ H1 s1 _ fun H2 e2 s2 => h2 F M σ H2 s2 _ fun H3 e3 s3 => by
    cases r1
    obtain ⟨vs, g1, g2⟩ := s3.sto _ (List.mem_of_getElem? hj)
    refine ⟨_, _, rfl, sq_of g1, fun p hp => ?_⟩
    have e13 := (e1.trans e2).trans e3
    exact q p _ (back_none s s3 e13 hp) (s3.fresh hp) (e13.trans (new_ex s3 hp)) (s3.newL hp (g2.cut lo hi))
theorem ex_slT {tl th : TO} {lo hi : Option Int} (h : EX K te δ μ μ' (.tup ds)) (h1 : OX K tl δ μ' lo) (h2 : OX K th δ μ' hi) : EX K (tSl (rSlA K) te tl th) δ μ μ' (.tup (cutD ds lo hi)) := fun F M σ H s Q q =>
  h F M σ H s _ fun v H1 e1 s1 r1 => h1 F M σ H1 s1 _ fun H2 e2 s2 => h2 F M σ H2 s2 _ fun H3 e3 s3 => by
    cases r1 with
    | @tup a xs _ g1 g2 =>
      have e13 := (e1.trans e2).trans e3
      have g3 := g2.mono (e2.trans e3)
      refine ⟨_, _, rfl, ex_t ((e2.trans e3).trans hid_sub) g1, fun hw => ?_, fun _ p hp => ?_⟩
      · have hc : cutD ds lo hi = ds := by
          unfold cutD
          rw [← g2.length, hw.1, hw.2, List.drop_zero, Nat.sub_zero, g2.length, List.take_length]
        refine q _ H3 e13 s3 ?_
        rw [hc]
        exact .tup (ex_t (e2.trans e3) g1) g3
      · exact q _ _ (e13.trans (new_ex s3 hp)) (s3.mono (Ex.new hp)) (.tup (st_of (hid_get (s3.fresh hp) upd_same)) ((g3.cut lo hi).mono (new_ex s3 hp)))
theorem ex_catT (ha : EX K ta δ μ μ' (.tup ds)) (hb : EX K tb δ μ' μ'' (.tup es)) (hl : ds.length + es.length ≤ 100000) : EX K (tOp (rCatA K) ta tb) δ μ μ'' (.tup (ds ++ es)) := fun F M σ H s Q q =>
  ha F M σ H s _ fun v H1 e1 s1 r1 => hb F M σ H1 s1 _ fun w H2 e2 s2 r2 => by
    cases r1 with
    | tup g1 g2 =>
      cases r2 with
      | tup k1 k2 =>
        have g3 := g2.mono e2
        refine ⟨_, _, _, _, rfl, rfl, ex_t (e2.trans hid_sub) g1, ex_t hid_sub k1, sz_of (by rw [g2.length, k2.length]; exact hl), fun hx => ?_, fun _ hy => ?_, fun _ _ p hp => ?_⟩
        · subst hx
          cases g2
          exact q _ H2 (e1.trans e2) s2 (.tup k1 k2)
        · subst hy
          cases k2
          exact q _ H2 (e1.trans e2) s2 (by rw [List.append_nil]; exact .tup (ex_t e2 g1) g3)
        · exact q _ _ ((e1.trans e2).trans (new_ex s2 hp)) (s2.mono (Ex.new hp)) (.tup (st_of (hid_get (s2.fresh hp) upd_same)) ((g3.app k2).mono (new_ex s2 hp)))
/-- list + list, both new -/
theorem lx_cat (ha : LX K ta δ μ μ' ds) (hb : LX K tb δ μ' μ'' es) (hl : ds.length + es.length ≤ 100000) : LX K (tOp rCat ta tb) δ μ μ'' (ds ++ es) := fun F M σ H s Q q =>
  ha F M σ H s _ fun p H1 hp hpM e1 s1 => by
    obtain ⟨vs, h1, r1⟩ := s1.sto (p, ds) (by simp)
    have sl := s1.lock h1
    refine hb _ _ σ H1 sl _ fun p2 H2 hp2 hpM2 e2 s2 => ?_
    obtain ⟨ws, h2, r2⟩ := s2.sto (p2, es) (by simp)
    obtain ⟨s3, _⟩ := s2.still hpM2
    have h1' : H2 p = some (.lst vs) := s3.fr p _ upd_same
    refine ⟨p, p2, vs, ws, rfl, rfl, h1', h2, sz_of (by rw [r1.length, r2.length]; exact hl), fun l hl0 => ?_⟩
    have r1' := r1.mono e2
    have r2' : RpAll K (hid (p :: M) H2) ws es := r2.mono (hid_less fun a ha => List.mem_cons_of_mem _ ha)
    have s4 := Sta.unlock (s.freshF hp) s3 r1'
    obtain ⟨s5, _⟩ := s4.still hpM
    have e12 : Ex (hid M H) (hid M H2) := ex_two hp e1 e2
    have up : Ex (hid (p :: M) H2) (hid M H2) := hid_less fun a ha => List.mem_cons_of_mem _ ha
    exact q l _ (back_none s s5 e12 hl0) (s5.fresh hl0) (e12.trans (new_ex s5 hl0)) (s5.newL hl0 ((r1'.mono up).app (r2'.mono up)))
end
end G
set_option Elab.async false
set_option linter.all false
set_option maxRecDepth 100000
namespace G
open PySem L2 Evl
mutual
def DV.py : DV → PyData
  | .non => .none
  | .bl b => .bool b
  | .int i => .int i
  | .str x => .str x
  | .lst ds => .list (pys ds)
  | .tup ds => .tuple (pys ds)
  | .ins _ _ => .none
  | .box _ => .none
def pys : List DV → List PyData
  | [] => []
  | d :: ds => d.py :: pys ds
end
mutual
def DV.pl : DV → Bool
  | .lst ds => pls ds
  | .tup ds => pls ds
  | .ins _ _ => false
  | .box _ => false
  | _ => true
def pls : List DV → Bool
  | [] => true
  | d :: ds => d.pl && pls ds
end
/-- an own class, as isinstance asks for it -/
structure OwnC (K : PySem.W.Frag) (C : Addr) : Prop where
  cl : Cls K C
  ha : PySem.W.findIn K (.ref C) "__class__" = some (some (.builtin "object.__class__"))
  hn : PySem.W.specialIn K (.builtin "object.__class__") "__get__" = some (some (.builtin "getset_descriptor.__get__"))
  htk : PySem.W.takesIn K (.builtin "object.__class__") = some true
  hm : PySem.W.mroIn K C (.type "object") = some true
inductive TyD (K : PySem.W.Frag) : DV → Value → Prop
  | non : TyD K .non (.type "NoneType")
  | bl {b : Bool} : TyD K (.bl b) (.type "bool")
  | int {i : Int} : TyD K (.int i) (.type "int")
  | str {x : Str} : TyD K (.str x) (.type "str")
  | lst {ds : List DV} : TyD K (.lst ds) (.type "list")
  | tup {ds : List DV} : TyD K (.tup ds) (.type "tuple")
  | ins {C : Addr} {fs : List (Str × DV)} (c : OwnC K C) : TyD K (.ins C fs) (.ref C)
section
variable {K : PySem.W.Frag} {F H H' H0 : Hp} {M : List Addr} {δ δ' : List (Option DV)} {μ μ' μ'' : Sto} {σ : L2.St} {ta tb te : TE} {t u : TT} {d e : DV} {ds es : List DV}
mutual
theorem Rp.dp : ∀ {d : DV} {v : V}, d.pl = true → Rp K H v d → Dp K H v d.py
  | .non, _, _, h => by cases h; exact .non
  | .bl b, _, _, h => by cases h; exact .bl _
  | .int b, _, _, h => by cases h; exact .int _
  | .str b, _, _, h => by cases h; exact .str _
  | .lst ds, _, p, h => by cases h with | lst h1 h2 => exact .lst h1 (RpAll.dp p h2)
  | .tup ds, _, p, h => by cases h with | tup h1 h2 => exact .tup h1 (RpAll.dp p h2)
  | .ins C ds, _, p, h => nomatch p
  | .box a, _, p, h => nomatch p
theorem RpAll.dp : ∀ {ds : List DV} {vs : List V}, pls ds = true → RpAll K H vs ds → DpAll K H vs (pys ds)
  | [], _, _, h => by cases h; exact .nil
  | d :: ds, _, p, h => by
    have p' : (d.pl && pls ds) = true := p
    rw [Bool.and_eq_true] at p'
    cases h with | cons h1 h2 => exact .cons (Rp.dp p'.1 h1) (RpAll.dp p'.2 h2)
end
/-- == and != of data -/
theorem ex_eqD (ha : EX K ta δ μ μ' d) (hb : EX K tb δ μ' μ'' e) (p1 : d.pl = true) (p2 : e.pl = true) (s1 : SeqAt.shaped d.py = true) (s2 : SeqAt.shaped e.py = true) : EX K (tOp (rEqD K) ta tb) δ μ μ'' (.bl (PyData.eqv d.py e.py)) := fun F M σ H s Q q =>
  ha F M σ H s _ fun v H1 e1 z1 r1 => hb F M σ H1 z1 _ fun w H2 e2 z2 r2 =>
    ⟨_, _, Rp.dp p1 (((r1.mono e2)).mono hid_sub), Rp.dp p2 (r2.mono hid_sub), s1, s2, q _ H2 (e1.trans e2) z2 (.bl _)⟩
theorem ex_neD (ha : EX K ta δ μ μ' d) (hb : EX K tb δ μ' μ'' e) (p1 : d.pl = true) (p2 : e.pl = true) (s1 : SeqAt.shaped d.py = true) (s2 : SeqAt.shaped e.py = true) : EX K (tOp (rNeD K) ta tb) δ μ μ'' (.bl (!PyData.eqv d.py e.py)) := fun F M σ H s Q q =>
  ha F M σ H s _ fun v H1 e1 z1 r1 => hb F M σ H1 z1 _ fun w H2 e2 z2 r2 =>
    ⟨_, _, Rp.dp p1 (((r1.mono e2)).mono hid_sub), Rp.dp p2 (r2.mono hid_sub), s1, s2, q _ H2 (e1.trans e2) z2 (.bl _)⟩
theorem tyl {a : Addr} {xs : List V} (h : SqL K H a xs) : TyX K H (.ref a) (.type "list") := by
  rcases h with (h | ⟨o, h⟩) | ⟨o, its, n, h1, h2, _⟩
  · exact .base (.lst h)
  · exact .base (.frz h)
  · exact .kList h1 h2
theorem tyt {a : Addr} {xs : List V} (h : SqT K H a xs) : TyX K H (.ref a) (.type "tuple") := by
  rcases h with (h | ⟨o, h⟩) | ⟨o, its, n, h1, h2, _⟩
  · exact .base (.tup h)
  · exact .fTuple h
  · exact .kTuple h1 h2
theorem TyD.x {v : V} {t : Value} (ty : TyD K d t) (r : Rp K H v d) : TyX K H v t := by
  cases ty with
  | non => cases r; exact .base .non
  | bl => cases r; exact .base (.bl _)
  | int => cases r; exact .base (.int _)
  | str => cases r; exact .base (.str _)
  | lst => cases r with | lst h _ => exact tyl h
  | tup => cases r with | tup h _ => exact tyt h
  | ins c => cases r with | ins h _ => exact .base (.ins h c.cl c.ha c.hn c.htk c.hm)
/-- isinstance(x, C) -/
theorem ex_isi {c : V} {w z : Value} {b : Bool} (ha : EX K ta δ μ μ' d) (ty : TyD K d w) (k : ClsV c z) (h : PySem.W.kitOne K w z = some b) (hs : tb = tC c := by rfl) : EX K (tCB (rIsi K) (tCons ta (tCons tb tNil))) δ μ μ' (.bl b) := fun F M σ H s Q q =>
  ha F M σ H s _ fun v H1 e1 z1 r1 => by
    subst hs
    exact ⟨v, c, w, z, b, rfl, k, ty.x (r1.mono hid_sub), h, q _ H1 e1 z1 (.bl _)⟩
theorem ex_isiB {n : String} {w : String} {b : Bool} (ha : EX K ta δ μ μ' d) (ty : TyD K d (.type w)) (h : kitB w n = some b) : EX K (tCB (rIsi K) (tCons ta (tCons (tC (.ty n)) tNil))) δ μ μ' (.bl b) := ex_isi ha ty (.ty n) (kit_ty h)
/-- isinstance(x, (A, B)) -/
theorem ex_isi2 {n m : String} {w : Value} {b : Bool} (ha : EX K ta δ μ μ' d) (ty : TyD K d w) (h : PySem.W.kitAny K w [.type n, .type m] = some b) : EX K (tCB (rIsiT K) (tCons ta (tCons (tTup (tCons (tC (.ty n)) (tCons (tC (.ty m)) tNil))) tNil))) δ μ μ' (.bl b) := fun F M σ H s Q q =>
  ha F M σ H s _ fun v H1 e1 z1 r1 => by
    refine ⟨(by show 2 ≤ sizeLine; decide), fun p hp => ?_⟩
    exact ⟨v, p, [.ty n, .ty m], w, [.type n, .type m], b, rfl, upd_same, .cons (.ty n) (.cons (.ty m) .nil), ty.x ((r1.mono (new_ex z1 hp)).mono hid_sub), h, q _ _ (e1.trans (new_ex z1 hp)) (z1.mono (Ex.new hp)) (.bl _)⟩
theorem kit2 {a n m : String} {b c r : Bool} (h1 : kitB a n = some b) (h2 : kitB a m = some c) (h : (b || c) = r) : PySem.W.kitAny K (.type a) [.type n, .type m] = some r := by
  subst h
  refine kitAny_cons (kit_ty h1) (fun hb => ?_) (fun hb => by rw [hb]; rfl)
  rw [hb]
  refine kitAny_cons (kit_ty h2) (fun hc => ?_) (fun hc => by rw [hc]; rfl)
  rw [hc]
  exact kitAny_nil
/-- o.f -/
theorem ex_fld {C : Addr} {fs : List (Str × DV)} {f : Str} (ha : EX K ta δ μ μ' (.ins C fs)) (c : Cls K C) (n : NoAttr K C f) (h : fs.lookup f = some d) : EX K (tFld K ta f) δ μ μ' d := fun F M σ H s Q q =>
  ha F M σ H s _ fun v H1 e1 s1 r1 => by
    cases r1 with
    | ins h1 h2 =>
      obtain ⟨w, l, r⟩ := h2.look h
      exact ⟨_, C, _, _, w, rfl, hid_sub _ _ h1, c, n, l, q w H1 e1 s1 r⟩

/-! ### what defs promise -/
/-- from data to data, all that stood stands -/
def spD (K : PySem.W.Frag) (R : List DV → DV → Prop) : Sp := fun vs H Q _ => ∃ M ds r, (∀ a ∈ M, H a ≠ none) ∧ RpAll K (hid M H) vs ds ∧ R ds r ∧ ∀ v H', Ex H H' → Rp K (hid M H') v r → Q v H'
/-- .. to a new list -/
def spL (K : PySem.W.Frag) (R : List DV → List DV → Prop) : Sp := fun vs H Q _ => ∃ M ds rs, (∀ a ∈ M, H a ≠ none) ∧ RpAll K (hid M H) vs ds ∧ R ds rs ∧ ∀ p ws H', H p = none → Ex H H' → H' p = some (.lst ws) → RpAll K (hid (p :: M) H') ws rs → Q (.ref p) H'
/-- .. the first argument a list that is changed: from its items s to s' -/
def spS (K : PySem.W.Frag) (R : List DV → List DV → List DV → DV → Prop) : Sp := fun vs H Q _ => ∃ M st ws xs s ds s' r, vs = .ref st :: ws ∧ st ∈ M ∧ (∀ a ∈ M, H a ≠ none) ∧ H st = some (.lst xs) ∧ RpAll K (hid M H) xs s ∧ RpAll K (hid M H) ws ds ∧ R s ds s' r ∧
  ∀ v xs' H', (∀ a o, a ≠ st → H a = some o → H' a = some o) → H' st = some (.lst xs') → RpAll K (hid M H') xs' s' → Rp K (hid M H') v r → Q v H'
theorem ex_call {R : List DV → DV → Prop} {ta : TA} {E : XK} (ha : AX K ta δ μ μ' ds) (h : R ds d) : EX K (tCall (spD K R) [] E ta) δ μ μ' d := fun F M σ H s Q q =>
  ha F M σ H s _ fun vs H1 e1 s1 r1 => ⟨M, ds, d, s1.al, by rw [List.append_nil]; exact r1, h, fun v H2 e2 r => q v H2 (e1.trans (hid_mono e2)) (s1.mono e2) r⟩
theorem Sta.newP (s : Sta K F M δ μ σ H) (e : Ex H H') {p : Addr} {ws : List V} (h0 : H p = none) (h1 : H' p = some (.lst ws)) (r : RpAll K (hid (p :: M) H') ws ds) : Sta K F (p :: M) δ ((p, ds) :: μ) σ H' := by
  have hp := s.fresh h0
  have s' := s.mono e
  have up : Ex (hid M H) (hid (p :: M) H') := fun a o h => by
    have hn := hid_no h
    have hap : a ≠ p := ne_of_none (hid_sub a o h) h0
    exact hid_get (by simp [hap, hn]) (e _ _ (hid_sub _ _ h))
  have key : ∀ q ∈ μ, q.1 ≠ p := fun q hq hqp => hp (by rw [← hqp]; exact (s.dm q hq).1)
  refine ⟨fun a ha => ?_, s'.fr, fun q hq => ?_, ?_, fun q hq => ?_, fun i d h => ?_, s.len⟩
  · rcases List.mem_cons.mp ha with rfl | ha
    · rw [h1]; simp
    · exact s'.al a ha
  · rcases List.mem_cons.mp hq with rfl | hq
    · exact ⟨by simp, s.freshF h0⟩
    · exact ⟨List.mem_cons_of_mem _ (s.dm q hq).1, (s.dm q hq).2⟩
  · rw [List.map_cons, List.nodup_cons]
    refine ⟨fun hm => ?_, s.nd⟩
    obtain ⟨q, hq, hqp⟩ := List.mem_map.mp hm
    exact key q hq hqp
  · rcases List.mem_cons.mp hq with rfl | hq
    · exact ⟨ws, h1, r⟩
    · obtain ⟨xs, g1, g2⟩ := s.sto q hq
      exact ⟨xs, e _ _ g1, g2.mono up⟩
  · obtain ⟨v, g1, g2⟩ := s.env i d h
    exact ⟨v, g1, g2.mono up⟩
theorem lx_call {R : List DV → List DV → Prop} {ta : TA} {E : XK} (ha : AX K ta δ μ μ' ds) (h : R ds es) : LX K (tCall (spL K R) [] E ta) δ μ μ' es := fun F M σ H s Q q =>
  ha F M σ H s _ fun vs H1 e1 s1 r1 => ⟨M, ds, es, s1.al, by rw [List.append_nil]; exact r1, h, fun p ws H2 hp e2 h2 r =>
    q p H2 (back_none s s1 e1 hp) (s1.fresh hp) (e1.trans (hid_mono e2)) (s1.newP e2 hp h2 r)⟩
theorem set_fst {μ : Sto} {j : Nat} {l : Addr} {ds ds' : List DV} (hj : μ[j]? = some (l, ds)) : (μ.set j (l, ds')).map Prod.fst = μ.map Prod.fst := by
  rw [List.map_set]
  refine List.ext_getElem? fun n => ?_
  by_cases e : j = n
  · subst e
    have hl : j < (μ.map Prod.fst).length := by
      rw [List.length_map]
      exact (List.getElem?_eq_some_iff.mp hj).1
    rw [List.getElem?_set_self hl, List.getElem?_map, hj]
    rfl
  · rw [List.getElem?_set_ne e]
theorem Sta.after (s : Sta K F M δ μ σ H) {j : Nat} {l : Addr} {xs' : List V} {ds' : List DV} (hj : μ[j]? = some (l, ds)) (k : ∀ a o, a ≠ l → H a = some o → H' a = some o) (h : H' l = some (.lst xs')) (r : RpAll K (hid M H') xs' ds') :
    Sta K F M δ (μ.set j (l, ds')) σ H' ∧ Ex (hid M H) (hid M H') := by
  have hm : (l, ds) ∈ μ := List.mem_of_getElem? hj
  have hlM := (s.dm _ hm).1
  have ex : Ex (hid M H) (hid M H') := fun a o q => by
    have hn := hid_no q
    exact hid_get hn (k a o (fun e => hn (by rw [e]; exact hlM)) (hid_sub _ _ q))
  refine ⟨⟨fun a ha => ?_, fun a o q => ?_, fun q hq => ?_, ?_, fun q hq => ?_, fun i d q => ?_, s.len⟩, ex⟩
  · by_cases e : a = l
    · rw [e, h]; simp
    · intro q
      cases g : H a with
      | none => exact s.al a ha g
      | some o => rw [k a o e g] at q; cases q
  · exact k a o (ne_of_none q (s.dm _ hm).2) (s.fr a o q)
  · rcases List.mem_or_eq_of_mem_set hq with z | z
    · exact s.dm q z
    · subst z
      exact ⟨hlM, (s.dm _ hm).2⟩
  · rw [set_fst hj]
    exact s.nd
  · obtain ⟨n, hn⟩ := List.getElem?_of_mem hq
    by_cases e : j = n
    · subst e
      rw [List.getElem?_set_self (List.getElem?_eq_some_iff.mp hj).1] at hn
      cases hn
      exact ⟨xs', h, r⟩
    · rw [List.getElem?_set_ne e] at hn
      obtain ⟨ws, g1, g2⟩ := s.sto q (List.mem_of_getElem? hn)
      refine ⟨ws, ?_, g2.mono ex⟩
      have hne : q.1 ≠ l := fun z => e (by
        have a1 : (μ.map Prod.fst)[n]? = some l := by rw [List.getElem?_map, hn, ← z]; rfl
        have a2 : (μ.map Prod.fst)[j]? = some l := by rw [List.getElem?_map, hj]; rfl
        exact nd_ix s.nd a2 a1)
      exact k _ _ hne g1
  · obtain ⟨v, g1, g2⟩ := s.env i d q
    exact ⟨v, g1, g2.mono ex⟩
/-- a call that changes the list in the store's j-th place -/
theorem ex_callS {R : List DV → List DV → List DV → DV → Prop} {ta : TE} {tr : TA} {E : XK} {l : Addr} {j : Nat} {s0 s1 : List DV} (ha : EX K ta δ μ μ (.box l)) (hr : AX K tr δ μ μ ds) (hj : μ[j]? = some (l, s0)) (h : R s0 ds s1 d) :
    EX K (tCall (spS K R) [] E (tCons ta tr)) δ μ (μ.set j (l, s1)) d := fun F M σ H s Q q =>
  ha F M σ H s _ fun v H1 e1 g1 r1 => hr F M σ H1 g1 _ fun vs H2 e2 g2 r2 => by
    cases r1
    have hm : (l, s0) ∈ μ := List.mem_of_getElem? hj
    obtain ⟨xs, k1, k2⟩ := g2.sto _ hm
    refine ⟨M, l, vs, xs, s0, ds, s1, d, by rw [List.append_nil], (g2.dm _ hm).1, g2.al, k1, k2, r2, h, fun v xs' H3 k e3 r3 rv => ?_⟩
    obtain ⟨g3, x3⟩ := g2.after hj k e3 r3
    exact q v H3 ((e1.trans e2).trans x3) g3 rv
/-- o.m(..), o an instance that stands still -/
theorem ex_meth {R : List DV → DV → Prop} {tr : TA} {E : XK} {C : Addr} {fs : List (Str × DV)} {m : Str} (ha : EX K ta δ μ μ' (.ins C fs)) (hn : fs.lookup m = none) (hr : AX K tr δ μ' μ'' ds) (h : R (.ins C fs :: ds) d) :
    EX K (tMeth C m (spD K R) [] E ta tr) δ μ μ'' d := fun F M σ H s Q q =>
  ha F M σ H s _ fun v H1 e1 g1 r1 => by
    cases r1 with
    | @ins a _ dx vs _ h1 h2 =>
      refine ⟨a, dx, vs, rfl, hid_sub _ _ h1, h2.lookN hn, hr F M σ H1 g1 _ fun ws H2 e2 g2 r2 => ?_⟩
      refine ⟨M, _, d, g2.al, ?_, h, fun v H3 e3 r => q v H3 ((e1.trans e2).trans (hid_mono e3)) (g2.mono e3) r⟩
      rw [List.append_nil]
      exact .cons (Rp.mono e2 (.ins h1 h2)) r2
/-- C(..): __init__ makes the instance's fields -/
def spI (K : PySem.W.Frag) (C : Addr) (R : List DV → List (Str × DV) → Prop) : Sp := fun vs H Q _ => ∃ M x dx ws ds fs, vs = .ref x :: ws ∧ H x = some (.ins C dx []) ∧ x ∉ M ∧ (∀ a ∈ M, H a ≠ none) ∧ RpAll K (hid (x :: M) H) ws ds ∧ R ds fs ∧
  ∀ H' fs', (∀ a o, a ≠ x → H a = some o → H' a = some o) → H' x = some (.ins C dx fs') → RpF K (hid (x :: M) H') fs' fs → Q .non H'
theorem ex_make {C : Addr} {R : List DV → List (Str × DV) → Prop} {tr : TA} {E : XK} {dvs : List V} {dd : List DV} {fs : List (Str × DV)} (hr : AX K tr δ μ μ' ds) (hd : ∀ H, RpAll K H dvs dd) (h : R (ds ++ dd) fs) :
    EX K (tMake C (spI K C R) dvs E tr) δ μ μ' (.ins C fs) := fun F M σ H s Q q =>
  hr F M σ H s _ fun vs H1 e1 g1 r1 => fun x dx hx hdx hne => by
    have n1 : (upd H1 dx (.own x)) x = none := by
      rw [upd_ne hne.symm]
      exact hx
    have e2 : Ex H1 (upd (upd H1 dx (.own x)) x (.ins C dx [])) := (Ex.new hdx).trans (Ex.new n1)
    have hxM := g1.fresh hx
    have up : Ex (hid M H1) (hid (x :: M) (upd (upd H1 dx (.own x)) x (.ins C dx []))) := fun a o k => by
      have hn := hid_no k
      have hax : a ≠ x := ne_of_none (hid_sub a o k) hx
      exact hid_get (by simp [hax, hn]) (e2 _ _ (hid_sub _ _ k))
    refine ⟨M, x, dx, vs ++ dvs, ds ++ dd, fs, rfl, upd_same, hxM, (g1.mono e2).al, (r1.mono up).app (hd _), h, fun H' fs' k hx' rf => ⟨rfl, ?_⟩⟩
    have e3 : Ex H1 H' := fun a o z => k a o (ne_of_none z hx) (e2 a o z)
    exact q _ H' (e1.trans (hid_mono e3)) (g1.mono e3) (.ins (hid_get hxM hx') (rf.mono (hid_less fun a ha => List.mem_cons_of_mem _ ha)))
end
end G
set_option Elab.async false
set_option linter.all false
set_option maxRecDepth 100000
namespace G
open PySem L2 Evl
abbrev Env := List (Option DV)
/-- B: the data that stands while things are walked; b: how a turn binds the slots js -/
structure Turns (K : PySem.W.Frag) (g : TG) (B : Hp) (J : It) (n : Nat) (js : List Nat) (b : Nat → Env → Env) : Prop where
  go : ∀ i H M, Ex B (hid M H) → i < n → J.go i H
  stop : ∀ H M, Ex B (hid M H) → J.stop n H
  bind : ∀ i H x H' F M δ μ σ, i < n → Ex B (hid M H) → Sta K F M δ μ σ H → J.yld i H x H' → ∀ Q : L2.St → Hp → Prop,
    (∀ σ', Ex H H' → Sta K F M (b i δ) μ σ' H' → σ'.length = σ.length → (∀ k, k ∉ js → σ'[k]? = σ[k]?) → Q σ' H') → g x σ H' Q
def WX (K : PySem.W.Frag) (wi : TI) (g : TG) (δ : Env) (μ μ' : Sto) (n : Nat) (js : List Nat) (b : Nat → Env → Env) : Prop :=
  ∀ F M σ H, Sta K F M δ μ σ H → ∀ R : It → Hp → Prop, (∀ J H', Ex (hid M H) (hid M H') → Sta K F M δ μ' σ H' → Turns K g (hid M H') J n js b → R J H') → wi σ H R
section
variable {K : PySem.W.Frag} {F H H' H0 : Hp} {M : List Addr} {δ δ' : Env} {μ μ' μ'' : Sto} {σ : L2.St} {ta tb te tl : TE} {t u : TT} {d e : DV} {ds es : List DV} {j : Nat}
theorem set_len {α : Type} {σ : List α} {j : Nat} {x : α} : (σ.set j x).length = σ.length := by simp
theorem set_out {α : Type} {σ : List α} {j : Nat} {x : α} : ∀ k, k ∉ [j] → (σ.set j x)[k]? = σ[k]? := fun k hk => List.getElem?_set_ne (by simp at hk; exact fun e => hk e.symm)
/-- one name, the item told by Y -/
theorem turns_name {J : It} {n : Nat} {B : Hp} {Gd : Hp → Prop} {Y : Nat → Hp → V → Hp → Prop} {f : Nat → DV} (w : Walk J n Gd Y) (hG : ∀ H M, Ex B (hid M H) → Gd H) (hY : ∀ i H x H' M, i < n → Ex B (hid M H) → Y i H x H' → H' = H ∧ Rp K B x (f i)) :
    Turns K (gName j) B J n [j] (fun i δ => δ.set j (some (f i))) where
  go := fun i H M e hi => w.goes i H hi (hG H M e)
  stop := fun H M e => w.stops H (hG H M e)
  bind := fun i H x H' F M δ μ σ hi e s y Q q => by
    obtain ⟨h1, h2⟩ := hY i H x H' M hi e (w.yields i H x H' hi (hG H M e) y)
    subst h1
    exact q _ (Ex.refl _) (s.put (h2.mono e)) set_len set_out
theorem wx_range1 {ta : TA} {n : Int} (h : AX K ta δ μ μ' [.int n]) (h1 : -(2 ^ 62) ≤ n) (h2 : n < 2 ^ 62) : WX K (iRng1 ta) (gName j) δ μ μ' n.toNat [j] (fun i δ => δ.set j (some (.int (i : Nat)))) := fun F M σ H s R r =>
  h F M σ H s _ fun vs H1 e1 s1 r1 => by
    cases r1 with
    | cons a b =>
      cases a
      cases b
      refine ⟨n, rfl, h1, h2, r _ H1 e1 s1 (turns_name walk_range (fun _ _ _ => True.intro) fun i H x H' M hi e y => ⟨y.1, ?_⟩)⟩
      rw [y.2]
      show Rp K _ (V.int (0 + (i : Int))) (DV.int (i : Int))
      rw [Int.zero_add]
      exact .int _
theorem wx_range2 {ta : TA} {m n : Int} (h : AX K ta δ μ μ' [.int m, .int n]) (h0 : -(2 ^ 62) ≤ m ∧ m < 2 ^ 62) (h1 : -(2 ^ 62) ≤ n ∧ n < 2 ^ 62) : WX K (iRng2 ta) (gName j) δ μ μ' (n - m).toNat [j] (fun i δ => δ.set j (some (.int (m + (i : Nat))))) := fun F M σ H s R r =>
  h F M σ H s _ fun vs H1 e1 s1 r1 => by
    cases r1 with
    | cons a b =>
      cases a
      cases b with
      | cons a b =>
        cases a
        cases b
        refine ⟨m, n, rfl, ⟨h0.1, h0.2, h1.1, h1.2⟩, r _ H1 e1 s1 (turns_name walk_range (fun _ _ _ => True.intro) fun i H x H' M hi e y => ⟨y.1, ?_⟩)⟩
        rw [y.2]
        exact .int _
theorem wx_list (h : EX K tl δ μ μ' (.lst ds)) : WX K (iList K tl) (gName j) δ μ μ' ds.length [j] (fun i δ => δ.set j (some (ds.getD i .non))) := fun F M σ H s R r =>
  h F M σ H s _ fun v H1 e1 s1 r1 => by
    cases r1 with
    | @lst a vs _ g1 g2 =>
      refine ⟨a, rfl, ⟨vs, ex_l hid_sub g1⟩, r _ H1 e1 s1 ?_⟩
      rw [← g2.length]
      refine turns_name (walk_list (xs := vs)) (fun H M e => ex_l (e.trans hid_sub) g1) fun i H x H' M hi e y => ⟨y.1, ?_⟩
      obtain ⟨d, hd, rd⟩ := g2.get' y.2
      rw [List.getD_eq_getElem?_getD, hd]
      exact rd
theorem wx_tup (h : EX K tl δ μ μ' (.tup ds)) : WX K (iTup K tl) (gName j) δ μ μ' ds.length [j] (fun i δ => δ.set j (some (ds.getD i .non))) := fun F M σ H s R r =>
  h F M σ H s _ fun v H1 e1 s1 r1 => by
    cases r1 with
    | @tup a vs _ g1 g2 =>
      refine ⟨a, rfl, ⟨vs, ex_t hid_sub g1⟩, r _ H1 e1 s1 ?_⟩
      rw [← g2.length]
      refine turns_name (walk_tup (xs := vs)) (fun H M e => ex_t (e.trans hid_sub) g1) fun i H x H' M hi e y => ⟨y.1, ?_⟩
      obtain ⟨d, hd, rd⟩ := g2.get' y.2
      rw [List.getD_eq_getElem?_getD, hd]
      exact rd
/-- list or tuple: one derivation for both -/
def iSeq (K : PySem.W.Frag) (tl : TE) : TI := fun σ H R => tl σ H fun x H1 => ∃ a, x = .ref a ∧ (((∃ xs, SqL K H1 a xs) ∧ R (Itl K a) H1) ∨ ((∃ xs, SqT K H1 a xs) ∧ R (Itt K a) H1))
theorem pi_seq {X : Cx} {tg l : Expr} {tl : TE} (hl : PE X l tl) : PI X tg l (iSeq X.K tl) where
  run := fun pins s σ H R I h => thn (hl.run pins s σ H _ I h) fun v s1 ⟨x, H1, I1, r1, a, ex, q⟩ => by
    subst ex
    cases r1
    have fr : ∀ b ∈ [s1.heap.objs.size], FpOk X pins H1 b := fun b hb => by
      rw [List.mem_singleton] at hb
      rw [hb]
      exact I1.fpOk (Nat.le_refl _) (I1.hok.fresh (Nat.le_refl _))
    rcases q with ⟨⟨xs, hq⟩, q⟩ | ⟨⟨xs, hq⟩, q⟩
    · obtain ⟨its, _, p, _⟩ := I1.list hq
      exact wpAny_pyIter_list p.isList ⟨_, [s1.heap.objs.size], _, Itl X.K a, H1, rfl, I1.kept (t' := s1.toks) (fun b o e => Heap.get?_push_of_some _ e), turn_list a _, ⟨_, Heap.get?_push_size _ rfl, rfl, rfl⟩, fr, q⟩
    · obtain ⟨its, _, p, _⟩ := I1.tuple hq
      exact wpAny_pyIter_tuple (items := its.toArray) p ⟨_, [s1.heap.objs.size], _, Itt X.K a, H1, rfl, I1.kept (t' := s1.toks) (fun b o e => Heap.get?_push_of_some _ e), turn_tuple a _, ⟨_, Heap.get?_push_size _ rfl, rfl, rfl⟩, fr, q⟩
/-- a sequence of data that stands still -/
inductive Seq : DV → List DV → Prop
  | lst (ds : List DV) : Seq (.lst ds) ds
  | tup (ds : List DV) : Seq (.tup ds) ds
theorem Seq.items {μ : Sto} (h : Seq d ds) : Items μ d ds := by
  cases h with
  | lst => exact .lst _
  | tup => exact .tup _
theorem wx_seq (h : EX K tl δ μ μ' d) (sq : Seq d ds) : WX K (iSeq K tl) (gName j) δ μ μ' ds.length [j] (fun i δ => δ.set j (some (ds.getD i .non))) := fun F M σ H s R r =>
  h F M σ H s _ fun v H1 e1 s1 r1 => by
    cases sq with
    | lst =>
      cases r1 with
      | @lst a vs _ g1 g2 =>
        refine ⟨a, rfl, .inl ⟨⟨vs, ex_l hid_sub g1⟩, r _ H1 e1 s1 ?_⟩⟩
        rw [← g2.length]
        refine turns_name (walk_list (xs := vs)) (fun H M e => ex_l (e.trans hid_sub) g1) fun i H x H' M hi e y => ⟨y.1, ?_⟩
        obtain ⟨d, hd, rd⟩ := g2.get' y.2
        rw [List.getD_eq_getElem?_getD, hd]
        exact rd
    | tup =>
      cases r1 with
      | @tup a vs _ g1 g2 =>
        refine ⟨a, rfl, .inr ⟨⟨vs, ex_t hid_sub g1⟩, r _ H1 e1 s1 ?_⟩⟩
        rw [← g2.length]
        refine turns_name (walk_tup (xs := vs)) (fun H M e => ex_t (e.trans hid_sub) g1) fun i H x H' M hi e y => ⟨y.1, ?_⟩
        obtain ⟨d, hd, rd⟩ := g2.get' y.2
        rw [List.getD_eq_getElem?_getD, hd]
        exact rd
/-- a, b = a pair -/
theorem turns_pair {J : It} {n : Nat} {B : Hp} {Gd : Hp → Prop} {A1 A2 : Nat → Option V} {f1 f2 : Nat → DV} {j1 j2 : Nat} (w : Walk J n Gd (YPair A1 A2)) (hG : ∀ H M, Ex B (hid M H) → Gd H)
    (h1 : ∀ i x, i < n → A1 i = some x → Rp K B x (f1 i)) (h2 : ∀ i x, i < n → A2 i = some x → Rp K B x (f2 i)) :
    Turns K (gTup K 2 (gCons (gName j1) (gCons (gName j2) gNil))) B J n [j1, j2] (fun i δ => (δ.set j1 (some (f1 i))).set j2 (some (f2 i))) where
  go := fun i H M e hi => w.goes i H hi (hG H M e)
  stop := fun H M e => w.stops H (hG H M e)
  bind := fun i H x H' F M δ μ σ hi e s y Q q => by
    obtain ⟨T, x1, x2, rfl, hT, rfl, a1, a2⟩ := w.yields i H x H' hi (hG H M e) y
    have eT : Ex H (upd H T (.tup [x1, x2])) := Ex.new hT
    have e' : Ex B (hid M (upd H T (.tup [x1, x2]))) := e.trans (hid_mono eT)
    refine ⟨T, [x1, x2], rfl, st_of upd_same, rfl, x1, [x2], rfl, x2, [], rfl, rfl, ?_⟩
    refine q _ eT (((s.mono eT).put ((h1 i x1 hi a1).mono e')).put ((h2 i x2 hi a2).mono e')) (by simp) fun k hk => ?_
    simp at hk
    rw [List.getElem?_set_ne (fun z => hk.2 z.symm), List.getElem?_set_ne (fun z => hk.1 z.symm)]
theorem wx_enum {ta : TA} {j1 j2 : Nat} (h : AX K ta δ μ μ' [.lst ds]) : WX K (iEnum K ta) (gTup K 2 (gCons (gName j1) (gCons (gName j2) gNil))) δ μ μ' ds.length [j1, j2] (fun i δ => (δ.set j1 (some (.int (i : Nat)))).set j2 (some (ds.getD i .non))) := fun F M σ H s R r =>
  h F M σ H s _ fun vs H1 e1 s1 r1 => by
    cases r1 with
    | cons a b =>
      cases b
      cases a with
      | @lst a vs _ g1 g2 =>
        refine ⟨a, vs, rfl, ex_l hid_sub g1, r _ H1 e1 s1 ?_⟩
        rw [← g2.length]
        refine turns_pair walk_enum (fun H M e => ex_l (e.trans hid_sub) g1) (fun i x _ hx => ?_) fun i x _ hx => ?_
        · cases hx
          exact .int _
        · obtain ⟨d, hd, rd⟩ := g2.get' hx
          rw [List.getD_eq_getElem?_getD, hd]
          exact rd
/-! ### comprehensions -/
def wipeD (δ : Env) : List Nat → Env
  | [] => δ
  | v :: vs => (wipeD δ vs).set v none
theorem Sta.wiped (s : Sta K F M δ μ σ H) : ∀ vs : List Nat, Sta K F M (wipeD δ vs) μ (wipe σ vs) H
  | [] => s
  | v :: vs => (Sta.wiped s vs).putN
theorem wipe_at {σ : L2.St} {k : Nat} : ∀ {vs : List Nat}, (wipe σ vs)[k]? = if k ∈ vs then (if k < σ.length then some none else none) else σ[k]?
  | [] => by simp [wipe]
  | v :: vs => by
    unfold wipe
    by_cases e : v = k
    · subst e
      rw [if_pos (by simp)]
      by_cases hl : v < σ.length
      · rw [if_pos hl, List.getElem?_set_self (by rw [wipe_length]; exact hl)]
      · rw [if_neg hl, List.getElem?_eq_none (by rw [List.length_set, wipe_length]; omega)]
    · rw [List.getElem?_set_ne e, wipe_at (vs := vs)]
      by_cases hk : k ∈ vs
      · rw [if_pos hk, if_pos (List.mem_cons_of_mem _ hk)]
      · rw [if_neg hk, if_neg (fun z => (List.mem_cons.mp z).elim (fun q => e q.symm) hk)]
theorem wipe_eq {σ τ : L2.St} {vs : List Nat} (hl : τ.length = σ.length) (h : ∀ k, k ∉ vs → τ[k]? = σ[k]?) : wipe τ vs = wipe σ vs := by
  refine List.ext_getElem? fun k => ?_
  rw [wipe_at, wipe_at]
  by_cases hk : k ∈ vs
  · rw [if_pos hk, if_pos hk, hl]
  · rw [if_neg hk, if_neg hk, h k hk]
/-- a frame that holds the data, too -/
theorem Sta.widen (s : Sta K F M δ μ σ H) : Sta K (hid (μ.map Prod.fst) H) M δ μ σ H ∧ Ex F (hid (μ.map Prod.fst) H) ∧ Ex (hid M H) (hid (μ.map Prod.fst) H) :=
  ⟨⟨s.al, hid_sub, fun p hp => ⟨(s.dm p hp).1, by unfold hid; rw [if_pos (List.mem_map.mpr ⟨p, hp, rfl⟩)]⟩, s.nd, s.sto, s.env, s.len⟩,
    fun a o q => hid_get (fun hm => by
      obtain ⟨p, hp, e⟩ := List.mem_map.mp hm
      have := (s.dm p hp).2
      rw [e, q] at this
      cases this) (s.fr a o q),
    hid_less fun a ha => by
      obtain ⟨p, hp, e⟩ := List.mem_map.mp ha
      rw [← e]
      exact (s.dm p hp).1⟩
theorem Sta.narrow {F1 : Hp} (s : Sta K F1 M δ μ σ H) (e : Ex F F1) : Sta K F M δ μ σ H :=
  ⟨s.al, e.trans s.fr, fun p hp => ⟨(s.dm p hp).1, by
    cases q : F p.1 with
    | none => rfl
    | some o =>
      have := (s.dm p hp).2
      rw [e _ o q] at this
      cases this⟩, s.nd, s.sto, s.env, s.len⟩
theorem Sta.data {F1 B : Hp} (s : Sta K F1 M δ μ σ H) (e : Ex B F1) (hB : ∀ a o, B a = some o → a ∉ M) : Ex B (hid M H) := fun a o q => hid_get (hB a o q) (s.fr a o (e a o q))
theorem lx_lc {wi : TI} {g : TG} {tt : TT} {vs js : List Nat} {n : Nat} {b : Nat → Env → Env} (w : WX K wi g δ μ μ' n js b) (f : Nat → DV) (p : Nat → Bool) (μs : Nat → Sto) (h0 : μs 0 = μ') (hn : n ≤ 100000) (hj : ∀ k ∈ js, k ∈ vs)
    (ht : ∀ i, i < n → TX K tt (b i (wipeD δ vs)) (μs i) (μs i) (p i)) (he : ∀ i, i < n → p i = true → EX K te (b i (wipeD δ vs)) (μs i) (μs (i + 1)) (f i)) (hf : ∀ i, i < n → p i = false → μs (i + 1) = μs i) :
    LX K (tLc wi g tt te vs) δ μ (μs n) (((List.range n).filter p).map f) := fun F M σ H s Q q =>
  w F M σ H s _ fun J H1 e1 s1 T => fun D hD => by
    -- the frame that keeps the data
    obtain ⟨s1w, eF, eB⟩ := s1.widen
    generalize hF1 : hid (μ'.map Prod.fst) H1 = F1 at s1w eF eB
    have hDM := s1.fresh hD
    have z0 := s1w.newL (vs := []) (ds := []) hD .nil
    have hB : ∀ a o, hid M H1 a = some o → a ∉ D :: M := fun a o q => by
      simp only [List.mem_cons, not_or]
      exact ⟨ne_of_none (hid_sub _ _ q) hD, hid_no q⟩
    refine ⟨fun i m H2 => m = n - i ∧ i ≤ n ∧ Sta K F1 (D :: M) δ ((D, ((List.range i).filter p).map f) :: μs i) σ H2, ⟨n, by simp, Nat.zero_le _, by rw [h0]; exact z0⟩, ?_⟩
    rintro i m H2 ⟨rfl, hi, s2⟩
    have ed : Ex (hid M H1) (hid (D :: M) H2) := s2.data eB hB
    by_cases hlt : i < n
    · refine .inr ⟨T.go i H2 _ ed hlt, fun H' => Sta K F1 (D :: M) δ ((D, ((List.range (i + 1)).filter p).map f) :: μs (i + 1)) σ H', fun H' s' => ⟨n - (i + 1), by omega, rfl, hlt, s'⟩, fun x H3 y => ?_⟩
      refine T.bind i H2 x H3 _ _ _ _ _ hlt ed (s2.wiped vs) y _ fun σ3 e3 s3 hl3 ho3 => ?_
      obtain ⟨ws, g1, g2⟩ := s3.sto (D, ((List.range i).filter p).map f) (by simp)
      have s3' : Sta K F1 (D :: M) δ ((D, ((List.range i).filter p).map f) :: μs i) σ H3 := s2.mono e3
      have lk := s3.lock g1
      have hlen : (((List.range i).filter p).map f).length ≤ i := by
        have q1 := List.length_filter_le p (List.range i)
        rw [List.length_range] at q1
        rw [List.length_map]
        exact q1
      refine ⟨?_, ht i hlt _ _ σ3 H3 lk _ fun H4 e4 s4 => ?_⟩
      · refine (wipe_eq hl3 fun k hk => ho3 k (fun z => hk (hj k z))).trans (wipe_eq (wipe_length σ vs) fun k hk => ?_)
        rw [wipe_at, if_neg hk]
      · cases hp : p i with
        | true =>
          show te σ3 H4 _
          refine he i hlt hp _ _ σ3 H4 s4 _ fun v H5 e5 s5 r5 => ?_
          have k1 : H5 D = some (.lst ws) := s5.fr D _ upd_same
          refine ⟨ws, k1, sz_lt (by have := g2.length; simp only at this; omega), ?_⟩
          have g5 := g2.mono (e4.trans e5)
          have s5b : Sta K (upd F1 D (.lst ws)) (D :: M) δ (μs (i + 1)) σ H5 :=
            ⟨s5.al, s5.fr, s5.dm, s5.nd, s5.sto, fun k dk hk => by
              obtain ⟨vk, a1, a2⟩ := s3'.env k dk hk
              exact ⟨vk, a1, a2.mono (e4.trans e5)⟩, s3'.len⟩
          have s6 := Sta.unlock (by
            cases q : F1 D with
            | none => rfl
            | some o => rw [← hF1] at q; rw [hid_sub _ _ q] at hD; cases hD) s5b g5
          have s7 := (s6.pokeH (g5.app (.cons r5 .nil))).1
          have hs : ((List.range (i + 1)).filter p).map f = ((List.range i).filter p).map f ++ [f i] := by
            rw [List.range_succ, List.filter_append, List.map_append]
            simp [hp]
          rw [hs]
          exact s7
        | false =>
          show Sta K F1 (D :: M) δ ((D, ((List.range (i + 1)).filter p).map f) :: μs (i + 1)) σ H4
          have hs : ((List.range (i + 1)).filter p).map f = ((List.range i).filter p).map f := by
            rw [List.range_succ, List.filter_append, List.map_append]
            simp [hp]
          rw [hs, hf i hlt hp]
          have s4b : Sta K (upd F1 D (.lst ws)) (D :: M) δ (μs i) σ H4 :=
            ⟨s4.al, s4.fr, s4.dm, s4.nd, s4.sto, fun k dk hk => by
              obtain ⟨vk, a1, a2⟩ := s3'.env k dk hk
              exact ⟨vk, a1, a2.mono e4⟩, s3'.len⟩
          exact Sta.unlock (by
            cases q : F1 D with
            | none => rfl
            | some o => rw [← hF1] at q; rw [hid_sub _ _ q] at hD; cases hD) s4b (g2.mono e4)
    · have e : i = n := by omega
      subst e
      refine .inl ⟨T.stop H2 _ ed, ?_⟩
      have hD0 : H D = none := back_none s s1 e1 hD
      refine q D H2 hD0 hDM (e1.trans (ed.trans (hid_less fun a ha => List.mem_cons_of_mem _ ha))) (s2.narrow eF)
/-- no test -/
theorem lx_lcA {wi : TI} {g : TG} {vs js : List Nat} {n : Nat} {b : Nat → Env → Env} (w : WX K wi g δ μ μ' n js b) (f : Nat → DV) (μs : Nat → Sto) (h0 : μs 0 = μ') (hn : n ≤ 100000) (hj : ∀ k ∈ js, k ∈ vs)
    (he : ∀ i, i < n → EX K te (b i (wipeD δ vs)) (μs i) (μs (i + 1)) (f i)) : LX K (tLc wi g tYes te vs) δ μ (μs n) ((List.range n).map f) := by
  have z := lx_lc (tt := tYes) w f (fun _ => true) μs h0 hn hj (fun i hi F M σ H s Q q => q H (Ex.refl _) s) (fun i hi _ => he i hi) (fun i hi h => by cases h)
  have e : (List.range n).filter (fun _ => true) = List.range n := List.filter_eq_self.mpr fun _ _ => rfl
  rw [e] at z
  exact z
/-- no test, the store untouched -/
theorem lx_lc1 {wi : TI} {g : TG} {vs js : List Nat} {n : Nat} {b : Nat → Env → Env} (w : WX K wi g δ μ μ' n js b) (f : Nat → DV) (hn : n ≤ 100000) (hj : ∀ k ∈ js, k ∈ vs)
    (he : ∀ i, i < n → EX K te (b i (wipeD δ vs)) μ' μ' (f i)) : LX K (tLc wi g tYes te vs) δ μ μ' ((List.range n).map f) := lx_lcA w f (fun _ => μ') rfl hn hj he
theorem lx_lcF {wi : TI} {g : TG} {tt : TT} {vs js : List Nat} {n : Nat} {b : Nat → Env → Env} (w : WX K wi g δ μ μ' n js b) (f : Nat → DV) (p : Nat → Bool) (hn : n ≤ 100000) (hj : ∀ k ∈ js, k ∈ vs)
    (ht : ∀ i, i < n → TX K tt (b i (wipeD δ vs)) μ' μ' (p i)) (he : ∀ i, i < n → p i = true → EX K te (b i (wipeD δ vs)) μ' μ' (f i)) : LX K (tLc wi g tt te vs) δ μ μ' (((List.range n).filter p).map f) :=
  lx_lc w f p (fun _ => μ') rfl hn hj ht he fun _ _ _ => rfl
end
end G
set_option Elab.async false
set_option linter.all false
set_option maxRecDepth 100000
namespace G
open PySem PySem.Spec PyProof.Rows L2 Evl
section
variable {K : PySem.W.Frag} {F H H' H0 : Hp} {M : List Addr} {δ δ' : Env} {μ μ' μ'' : Sto} {σ : L2.St} {ta tb te tl : TE} {t u : TT} {d e : DV} {ds es : List DV} {i j : Nat} {D : L2.Ends} {tu tw : TS}
theorem x_asg (s : Sta K F M δ μ σ H) (h : EX K te δ μ μ' d) (k : ∀ σ' H', Sta K F M (δ.set i (some d)) μ' σ' H' → D.nx σ' H') : tAsg te (gName i) D σ H :=
  h F M σ H s _ fun v H1 _ s1 r1 => k _ H1 (s1.put r1)
/-- the value is forgotten -/
theorem x_asgN (s : Sta K F M δ μ σ H) (h : EX K te δ μ μ' d) (k : ∀ σ' H', Sta K F M (δ.set i none) μ' σ' H' → D.nx σ' H') : tAsg te (gName i) D σ H :=
  h F M σ H s _ fun v H1 _ s1 r1 => k _ H1 s1.putN
/-- a new list, kept as a mutable one -/
theorem x_asgL (s : Sta K F M δ μ σ H) (h : LX K te δ μ μ' ds) (k : ∀ p σ' H', p ∉ M → Sta K F (p :: M) (δ.set i (some (.box p))) ((p, ds) :: μ') σ' H' → D.nx σ' H') : tAsg te (gName i) D σ H :=
  h F M σ H s _ fun p H1 _ hp _ s1 => k p _ H1 hp (s1.put (.box p))
theorem Sta.free {p : Addr} (s : Sta K F (p :: M) δ ((p, ds) :: μ) σ H) (hp : p ∉ M) (h : δ[i]? = some (some (.box p))) : Sta K F M (δ.set i (some (.lst ds))) μ σ H := by
  obtain ⟨v, h1, h2⟩ := s.env i _ h
  obtain ⟨s', r⟩ := s.still hp
  cases h2
  have z := s'.put (i := i) r
  have e : σ.set i (some (V.ref p)) = σ := by
    refine List.ext_getElem? fun k => ?_
    by_cases hk : i = k
    · subst hk
      rw [List.getElem?_set_self (List.getElem?_eq_some_iff.mp h1).1, h1]
    · rw [List.getElem?_set_ne hk]
  rw [e] at z
  exact z
theorem x_ret (s : Sta K F M δ μ σ H) (h : EX K te δ μ μ' d) (k : ∀ v H', Sta K F M δ μ' σ H' → Rp K (hid M H') v d → D.rt v H') : tRet te D σ H :=
  h F M σ H s _ fun v H1 _ s1 r1 => k v H1 s1 r1
theorem x_retL (s : Sta K F M δ μ σ H) (h : LX K te δ μ μ' ds) (k : ∀ p H', H p = none → Sta K F (p :: M) δ ((p, ds) :: μ') σ H' → D.rt (.ref p) H') : tRet te D σ H :=
  h F M σ H s _ fun p H1 hp _ _ s1 => k p H1 hp s1
theorem x_if {b : Bool} (s : Sta K F M δ μ σ H) (h : TX K t δ μ μ' b) (h1 : b = true → ∀ H', Sta K F M δ μ' σ H' → tu D σ H') (h2 : b = false → ∀ H', Sta K F M δ μ' σ H' → tw D σ H') : tIfS t tu tw D σ H :=
  h F M σ H s _ fun H1 _ s1 => by
    cases b with
    | true =>
      show tu D σ H1
      exact h1 rfl H1 s1
    | false =>
      show tw D σ H1
      exact h2 rfl H1 s1
theorem x_when {b : Bool} (s : Sta K F M δ μ σ H) (h : TX K t δ μ μ' b) (h1 : b = true → ∀ H', Sta K F M δ μ' σ H' → tu D σ H') (h2 : b = false → ∀ H', Sta K F M δ μ' σ H' → D.nx σ H') : tIfS t tu tNext D σ H := x_if s h h1 h2
/-- a test that is known to be false -/
theorem x_skip (s : Sta K F M δ μ σ H) (h : TX K t δ μ μ' false) (h2 : ∀ H', Sta K F M δ μ' σ H' → D.nx σ H') : tIfS t tu tNext D σ H := x_if s h (fun z => nomatch z) (fun _ => h2)
theorem x_drop (s : Sta K F M δ μ σ H) (h : EX K te δ μ μ' d) (k : ∀ H', Sta K F M δ μ' σ H' → D.nx σ H') : tDrop te D σ H := h F M σ H s _ fun v H1 _ s1 _ => k H1 s1
/-- xs.append(e) -/
theorem x_app {l : Addr} (s : Sta K F M δ μ σ H) (ha : EX K ta δ μ μ (.box l)) (h : EX K te δ μ μ' d) (h0 : μ[j]? = some (l, es)) (hj : μ'[j]? = some (l, ds)) (hz : ds.length < 100000) (k : ∀ H', Sta K F M δ (μ'.set j (l, ds ++ [d])) σ H' → D.nx σ H') :
    tDrop (tBM K "list" rAppend ta (tCons te tNil)) D σ H :=
  ha F M σ H s _ fun v H1 e1 s1 r1 => by
    cases r1
    obtain ⟨xs, g1, _⟩ := s1.sto _ (List.mem_of_getElem? h0)
    refine ⟨.inl ⟨rfl, xs, sq_of g1⟩, h F M σ H1 s1 _ fun w H2 e2 s2 r2 => ?_⟩
    obtain ⟨ys, k1, k2⟩ := s2.sto _ (List.mem_of_getElem? hj)
    exact ⟨l, ys, w, rfl, rfl, k1, sz_lt (by rw [k2.length]; exact hz), k _ (s2.poke hj (k2.app (.cons r2 .nil))).1⟩
/-- xs[i] = e -/
theorem x_setL {l : Addr} {n : Int} {m : Nat} (s : Sta K F M δ μ σ H) (h : EX K te δ μ μ' d) (ho : EX K ta δ μ' μ' (.box l)) (hi : EX K tb δ μ' μ' (.int n)) (hj : μ'[j]? = some (l, ds)) (hn : ixN ds.length n = some m)
    (k : ∀ H', Sta K F M δ (μ'.set j (l, ds.set m d)) σ H' → D.nx σ H') : tAsg te (gSub ta tb rSetL) D σ H :=
  h F M σ H s _ fun v H1 e1 s1 r1 => ho F M σ H1 s1 _ fun w H2 e2 s2 r2 => hi F M σ H2 s2 _ fun x H3 e3 s3 r3 => by
    cases r2
    cases r3
    obtain ⟨ys, k1, k2⟩ := s3.sto _ (List.mem_of_getElem? hj)
    exact ⟨l, ys, n, m, rfl, rfl, k1, by rw [k2.length]; exact hn, k _ (s3.poke hj (k2.set (r1.mono (e2.trans e3)) m)).1⟩
theorem x_aug {f : Int → Int → Int} {a b : Int} (s : Sta K F M δ μ σ H) (hx : δ[i]? = some (some (.int a))) (h : EX K te δ μ μ' (.int b)) (k : ∀ σ' H', Sta K F M (δ.set i (some (.int (f a b)))) μ' σ' H' → D.nx σ' H') : tAug i te (ipI f) D σ H := by
  obtain ⟨v, h1, h2⟩ := s.env i _ hx
  cases h2
  exact ⟨.int a, h1, h F M σ H s _ fun w H1 _ s1 r1 => by
    cases r1
    exact ⟨a, b, rfl, rfl, k _ H1 (s1.put (.int _))⟩⟩
theorem x_par {ta : TA} {d1 d2 : DV} (s : Sta K F M δ μ σ H) (h : AX K ta δ μ μ' [d1, d2]) (k : ∀ σ' H', Sta K F M ((δ.set i (some d1)).set j (some d2)) μ' σ' H' → D.nx σ' H') : tPar i j ta D σ H :=
  h F M σ H s _ fun vs H1 _ s1 r1 => by
    cases r1 with
    | cons a b =>
      cases b with
      | cons b c =>
        cases c
        exact ⟨_, _, rfl, k _ H1 ((s1.put a).put b)⟩
theorem x_par3 {ta : TA} {l : Nat} {d1 d2 d3 : DV} (s : Sta K F M δ μ σ H) (h : AX K ta δ μ μ' [d1, d2, d3]) (k : ∀ σ' H', Sta K F M (((δ.set i (some d1)).set j (some d2)).set l (some d3)) μ' σ' H' → D.nx σ' H') : tPar3 i j l ta D σ H :=
  h F M σ H s _ fun vs H1 _ s1 r1 => by
    cases r1 with
    | cons a b =>
      cases b with
      | cons b c =>
        cases c with
        | cons c d =>
          cases d
          exact ⟨_, _, _, rfl, k _ H1 (((s1.put a).put b).put c)⟩
/-- a, b = t -/
theorem x_tup2 {d1 d2 : DV} (s : Sta K F M δ μ σ H) (h : EX K te δ μ μ' (.tup [d1, d2])) (k : ∀ σ' H', Sta K F M ((δ.set i (some d1)).set j (some d2)) μ' σ' H' → D.nx σ' H') : tAsg te (gTup K 2 (gCons (gName i) (gCons (gName j) gNil))) D σ H :=
  h F M σ H s _ fun v H1 _ s1 r1 => by
    cases r1 with
    | @tup a vs _ g1 g2 =>
      cases g2 with
      | cons r1 t =>
        cases t with
        | cons r2 t =>
          cases t
          exact ⟨a, _, rfl, ex_t hid_sub g1, rfl, _, _, rfl, _, _, rfl, rfl, k _ H1 ((s1.put r1).put r2)⟩
theorem x_tup3 {l : Nat} {d1 d2 d3 : DV} (s : Sta K F M δ μ σ H) (h : EX K te δ μ μ' (.tup [d1, d2, d3])) (k : ∀ σ' H', Sta K F M (((δ.set i (some d1)).set j (some d2)).set l (some d3)) μ' σ' H' → D.nx σ' H') : tAsg te (gTup K 3 (gCons (gName i) (gCons (gName j) (gCons (gName l) gNil)))) D σ H :=
  h F M σ H s _ fun v H1 _ s1 r1 => by
    cases r1 with
    | @tup a vs _ g1 g2 =>
      cases g2 with
      | cons r1 t =>
        cases t with
        | cons r2 t =>
          cases t with
          | cons r3 t =>
            cases t
            exact ⟨a, _, rfl, ex_t hid_sub g1, rfl, _, _, rfl, _, _, rfl, _, _, rfl, rfl, k _ H1 (((s1.put r1).put r2).put r3)⟩
/-! ### loops -/
theorem x_for {wi : TI} {g : TG} {js : List Nat} {n : Nat} {b : Nat → Env → Env} (s : Sta K F M δ μ σ H) (w : WX K wi g δ μ μ' n js b) (δs : Nat → Env) (μs : Nat → Sto) (h0 : Less (δs 0) δ) (hm : μs 0 = μ')
    (turn : ∀ F1 i σ' H', Ex F F1 → i < n → Sta K F1 M (b i (δs i)) (μs i) σ' H' → tu { D with nx := fun σ2 H2 => Sta K F1 M (δs (i + 1)) (μs (i + 1)) σ2 H2, ct := fun σ2 H2 => Sta K F1 M (δs (i + 1)) (μs (i + 1)) σ2 H2, bk := D.nx } σ' H')
    (done : ∀ σ' H', Sta K F M (δs n) (μs n) σ' H' → D.nx σ' H') : tFor wi g tu D σ H :=
  w F M σ H s _ fun J H1 e1 s1 T => by
    obtain ⟨s1w, eF, eB⟩ := s1.widen
    generalize hid (μ'.map Prod.fst) H1 = F1 at s1w eF eB
    have hB : ∀ a o, hid M H1 a = some o → a ∉ M := fun a o q => hid_no q
    refine ⟨fun i m σ2 H2 => m = n - i ∧ i ≤ n ∧ Sta K F1 M (δs i) (μs i) σ2 H2, ⟨n, by simp, Nat.zero_le _, by rw [hm]; exact s1w.less h0⟩, ?_⟩
    rintro i m σ2 H2 ⟨rfl, hi, s2⟩
    have ed := s2.data eB hB
    by_cases hlt : i < n
    · refine .inr ⟨T.go i H2 _ ed hlt, fun σ3 H3 => Sta K F1 M (δs (i + 1)) (μs (i + 1)) σ3 H3, fun σ3 H3 s3 => ⟨n - (i + 1), by omega, rfl, hlt, s3⟩, fun x H3 y => ?_⟩
      exact T.bind i H2 x H3 _ _ _ _ _ hlt ed s2 y _ fun σ3 _ s3 _ _ => turn F1 i σ3 H3 eF hlt s3
    · have e : i = n := by omega
      subst e
      exact .inl ⟨T.stop H2 _ ed, done σ2 H2 (s2.narrow eF)⟩
theorem x_while (I : Nat → Env → Sto → Prop) (m0 : Nat) (s : Sta K F M δ μ σ H) (h0 : I m0 δ μ)
    (hs : ∀ m δ μ, I m δ μ → ∃ b, TX K t δ μ μ b ∧
      (b = true → ∀ σ' H', Sta K F M δ μ σ' H' → tu { D with nx := fun σ2 H2 => ∃ m' δ2 μ2, m' < m ∧ I m' δ2 μ2 ∧ Sta K F M δ2 μ2 σ2 H2, ct := fun σ2 H2 => ∃ m' δ2 μ2, m' < m ∧ I m' δ2 μ2 ∧ Sta K F M δ2 μ2 σ2 H2, bk := D.nx } σ' H') ∧
      (b = false → ∀ σ' H', Sta K F M δ μ σ' H' → D.nx σ' H')) : tWhile t tu D σ H :=
  ⟨fun m σ2 H2 => ∃ δ2 μ2, I m δ2 μ2 ∧ Sta K F M δ2 μ2 σ2 H2, ⟨m0, δ, μ, h0, s⟩, fun m σ2 H2 ⟨δ2, μ2, i2, s2⟩ => by
    obtain ⟨b, hb, h1, h2⟩ := hs m δ2 μ2 i2
    refine hb F M σ2 H2 s2 _ fun H3 _ s3 => ?_
    cases b with
    | true => exact ⟨_, fun σ4 H4 ⟨m', δ4, μ4, hm, i4, s4⟩ => ⟨m', hm, δ4, μ4, i4, s4⟩, h1 rfl σ2 H3 s3⟩
    | false => exact h2 rfl σ2 H3 s3⟩
end
/-! ### defs by their promises -/
def startD (n : Nat) (ds : List DV) : Env := ds.map some ++ List.replicate (n - ds.length) none
section
variable {K : PySem.W.Frag} {F H H' H0 : Hp} {M : List Addr} {δ : Env} {μ : Sto}
theorem envAll {vs : List V} {ds : List DV} {n : Nat} (r : RpAll K H vs ds) : ∀ (i : Nat) (d : DV), (startD n ds)[i]? = some (some d) → ∃ v, (vs.map some ++ List.replicate (n - vs.length) none)[i]? = some (some v) ∧ Rp K H v d := fun i d h => by
  unfold startD at h
  have hl := r.length
  by_cases hi : i < ds.length
  · rw [List.getElem?_append_left (by simpa using hi), List.getElem?_map] at h
    obtain ⟨v, h1, h2⟩ := r.get (i := i) (d := d) (by
      cases q : ds[i]? with
      | none => rw [q] at h; cases h
      | some x =>
        rw [q] at h
        cases h
        rfl)
    exact ⟨v, by rw [List.getElem?_append_left (by rw [List.length_map]; omega), List.getElem?_map, h1]; rfl, h2⟩
  · rw [List.getElem?_append_right (by simpa using hi)] at h
    rw [List.getElem?_replicate] at h
    split at h <;> cases h
theorem sta_start {N : List Str} {vs : List V} {ds : List DV} (al : ∀ a ∈ M, H a ≠ none) (r : RpAll K (hid M H) vs ds) : Sta K H M (startD N.length ds) [] (L2.start N vs) H :=
  ⟨al, Ex.refl _, fun p hp => (nomatch hp), by simp, fun p hp => (nomatch hp), envAll r, by unfold L2.start startD; simp [r.length]⟩
variable {P : Program} {w : World} {mg : Str → Option Value} {base : Heap}
/-- a def from data to data -/
theorem okD {x qual : Str} {st : Stmt} {f : Addr} {fd : FuncData} {N ps : List Str} {k : Nat} {R : List DV → DV → Prop} (Fn : Fun K x qual st f fd) (S : FnScope N ps (defScope st)) (len : ∀ ds r, R ds r → ds.length = ps.length)
    (body : ∀ (cdv : Value) (A : Around) (outer : List PySem.Env) (s : Shared) (H : Hp) (E : XK), Room k (A.deeper (envOfC qual (defScope st) s.heap.objs.size f cdv)) →
      ∃ t, PSs (cxOf CX0 P w K mg base N qual (defScope st) f cdv A outer s H E).nox (defBody st) t ∧ ∀ F M ds r σ H1 D, R ds r → Sta K F M (startD N.length ds) [] σ H1 →
        (∀ v H', Ex F H' → Rp K (hid M H') v r → D.rt v H') → (∀ σ' H', D.rt .non H' → D.nx σ' H') → t D σ H1) : FnOk P w K mg base CX0 (k + 1) f fd ps (spD K R) := by
  refine Fn.ok S (fun vs H Q E ⟨M, ds, r, _, h1, h2, _⟩ => by rw [h1.length]; exact len _ _ h2) fun cdv A outer s H vs Q E hr ⟨M, ds, r, al, ra, hR, kq⟩ => ?_
  obtain ⟨t, h1, h2⟩ := body cdv A outer s H E hr
  exact ⟨t, h1, h2 H M ds r _ H _ hR (sta_start al ra) kq fun _ _ z => z⟩
theorem okL {x qual : Str} {st : Stmt} {f : Addr} {fd : FuncData} {N ps : List Str} {k : Nat} {R : List DV → List DV → Prop} (Fn : Fun K x qual st f fd) (S : FnScope N ps (defScope st)) (len : ∀ ds r, R ds r → ds.length = ps.length)
    (body : ∀ (cdv : Value) (A : Around) (outer : List PySem.Env) (s : Shared) (H : Hp) (E : XK), Room k (A.deeper (envOfC qual (defScope st) s.heap.objs.size f cdv)) →
      ∃ t, PSs (cxOf CX0 P w K mg base N qual (defScope st) f cdv A outer s H E).nox (defBody st) t ∧ ∀ F M ds rs σ H1 D, R ds rs → Sta K F M (startD N.length ds) [] σ H1 →
        (∀ p H' δ, F p = none → Sta K F (p :: M) δ [(p, rs)] σ H' → D.rt (.ref p) H') → t D σ H1) : FnOk P w K mg base CX0 (k + 1) f fd ps (spL K R) := by
  refine Fn.ok S (fun vs H Q E ⟨M, ds, r, _, h1, h2, _⟩ => by rw [h1.length]; exact len _ _ h2) fun cdv A outer s H vs Q E hr ⟨M, ds, rs, al, ra, hR, kq⟩ => ?_
  obtain ⟨t, h1, h2⟩ := body cdv A outer s H E hr
  refine ⟨t, h1, h2 H M ds rs _ H _ hR (sta_start al ra) fun p H' δ hp s' => ?_⟩
  obtain ⟨ws, g1, g2⟩ := s'.sto (p, rs) (by simp)
  exact kq p ws H' hp s'.fr g1 g2
/-- a def whose first argument is a list that it changes -/
theorem okS {x qual : Str} {st : Stmt} {f : Addr} {fd : FuncData} {N ps : List Str} {k : Nat} {R : List DV → List DV → List DV → DV → Prop} (Fn : Fun K x qual st f fd) (S : FnScope N ps (defScope st)) (len : ∀ s ds s' r, R s ds s' r → ds.length + 1 = ps.length)
    (body : ∀ (cdv : Value) (A : Around) (outer : List PySem.Env) (s : Shared) (H : Hp) (E : XK), Room k (A.deeper (envOfC qual (defScope st) s.heap.objs.size f cdv)) →
      ∃ t, PSs (cxOf CX0 P w K mg base N qual (defScope st) f cdv A outer s H E).nox (defBody st) t ∧ ∀ F M l s0 ds s1 r σ H1 D, R s0 ds s1 r → Sta K F M (startD N.length (.box l :: ds)) [(l, s0)] σ H1 →
        (∀ v H' M' δ σ', (∀ a ∈ M, a ∈ M') → Sta K F M' δ [(l, s1)] σ' H' → Rp K (hid M' H') v r → D.rt v H') → (∀ σ' H', D.rt .non H' → D.nx σ' H') → t D σ H1) : FnOk P w K mg base CX0 (k + 1) f fd ps (spS K R) := by
  refine Fn.ok S (fun vs H Q E ⟨M, st, ws, xs, s0, ds, s1, r, e, _, _, _, _, h1, h2, _⟩ => by rw [e, List.length_cons, h1.length]; exact len _ _ _ _ h2) fun cdv A outer s H vs Q E hr ⟨M, st, ws, xs, s0, ds, s1, r, e, hm, al, hst, rs, ra, hR, kq⟩ => ?_
  obtain ⟨t, h1, h2⟩ := body cdv A outer s H E hr
  subst e
  have r0 : RpAll K (hid M H) (.ref st :: ws) (.box st :: ds) := .cons (.box st) ra
  refine ⟨t, h1, h2 (hid [st] H) M st s0 ds s1 r _ H _ hR ⟨al, hid_sub, fun p hp => ?_, by simp, fun p hp => ?_, envAll r0, by unfold L2.start startD; simp [ra.length]⟩ (fun v H' M' δ σ' hM s' rv => ?_) fun _ _ z => z⟩
  · simp only [List.mem_singleton] at hp
    subst hp
    exact ⟨hm, by unfold hid; simp⟩
  · simp only [List.mem_singleton] at hp
    subst hp
    exact ⟨xs, hst, rs⟩
  · obtain ⟨ys, g1, g2⟩ := s'.sto (st, s1) (by simp)
    have up : Ex (hid M' H') (hid M H') := hid_less hM
    exact kq v ys H' (fun a o hne q => s'.fr a o (hid_get (by simp [hne]) q)) g1 (g2.mono up) (rv.mono up)
end
end G
set_option Elab.async false
set_option linter.all false
set_option maxRecDepth 100000
/-! Rules of my own at the machine's level: // by any int, operators of own classes. -/
namespace G
open PySem PySem.Spec PyProof.Rows L2 Evl
/-- the head of the frames that run is a plain def's -/
def PlainTop (l : List PySem.Env) : Prop := ∃ e r, l = e :: r ∧ e.scope.isGenerator = false ∧ e.scope.isCoroutine = false ∧ e.builtins = builtinsNs ∧ e.globals = mainGlobals
def CNz (_ j : Int) : Prop := j ≠ 0
theorem op_fdivB {X : Cx} (sr : X.base.NoSeer) (tr : X.prog.given.tree = none) (hd : X.A.depth + 100 < recursionLimit) (st : PlainTop X.stack) : OpR X (binaryOp .FloorDiv) (rI CNz fun i j => .int (i.fdiv j)) := by
  intro pins s σ H x y v u Q I rx ry h
  obtain ⟨i, j, rfl, rfl, hc, q⟩ := h
  obtain ⟨t, rfl⟩ := rx
  obtain ⟨t', rfl⟩ := ry
  obtain ⟨e, r, hst, h1, h2, h3, h4⟩ := st
  have hfr : X.A.frames = some (e :: r) := by rw [I.ok.frames, hst]
  exact floordiv_int (A := X.A) hc ⟨.int _, H, I.tok _, ⟨_, rfl⟩, q⟩ (.inr (PylongRoom.of I.nolimit hd (SeerAt.of (sr.keeps I.bk) tr hfr h1 h2 h3 h4)))
/-- * of ints whose bits together are below the model's line -/
def CMulB (i j : Int) : Prop := IntMulOk i j
theorem op_mulB {X : Cx} : OpR X (binaryOp .Mult) (rI CMulB fun i j => .int (i * j)) := opI fun _ _ _ _ _ _ _ hc q => mul_int q hc
theorem mulOk {i j : Int} {a b : Nat} (ha : i.natAbs < 2 ^ a) (hb : j.natAbs < 2 ^ b) (h : a + b ≤ 134217728) : CMulB i j := by
  have key : ∀ (x : Int) (n : Nat), x.natAbs < 2 ^ n → Builtin.Int.intBits x ≤ n := fun x n hx => by
    unfold Builtin.Int.intBits
    split
    · exact Nat.zero_le _
    · rename_i h0
      have hx0 : x.natAbs ≠ 0 := fun z => h0 (by simp; omega)
      have := (Nat.log2_lt hx0).mpr hx
      omega
  have h1 := key _ _ ha
  have h2 := key _ _ hb
  have e : bitsLine = 134217728 := by decide
  show IntMulOk i j
  unfold IntMulOk
  intro z
  rw [Bool.and_eq_true] at z
  have z2 := z.2
  unfold Builtin.Int.intTooBig at z2
  have z3 := of_decide_eq_true z2
  rw [e] at z3
  omega
theorem mulSm {i j : Int} (h : -(2 ^ 64) < i ∧ i < 2 ^ 64) : CMulB i j := .of_left (intBits_le_64 h.1 h.2)
theorem mulSmR {i j : Int} (h : -(2 ^ 64) < j ∧ j < 2 ^ 64) : CMulB i j := .of_right (intBits_le_64 h.1 h.2)

section
variable {X : Cx} {CX : CXT} {pins : List (Addr × Obj)} {σ : L2.St} {H : Hp} {s : Shared} {a C dx f : Addr} {fs : List (Str × V)} {k : Nat} {fd : FuncData} {ps : List Str} {sp : Sp} {E : XK}
theorem inst_of (I : L2.Inv X pins σ H s) (e : H a = some (.ins C dx fs)) : ∃ ox od, PySem.W.InstAt s.heap a ox C od := by
  obtain ⟨mA, O, _, _, _, _⟩ := ins_get I.hok e
  obtain ⟨od, J, _⟩ := O.look
  exact ⟨_, _, J⟩
theorem back_of {P : Value → Shared → Prop} {z : V} {v : Value} {s' : Shared} (r : RelV z v) (h : P v s') : PySem.W.CmpBack P v s' := by
  cases z <;> first
    | (cases r; exact h)
    | (obtain ⟨t, e⟩ := r; cases e; exact h)
/-- x op y, both instances of the class at C, which defines op -/
def rOwnB (C : Addr) (sp : Sp) (E : XK) : R2 := fun x y H Q => ∃ a dx fs b dy gs, x = .ref a ∧ y = .ref b ∧ H a = some (.ins C dx fs) ∧ H b = some (.ins C dy gs) ∧ sp [x, y] H Q E
theorem op_ownB {op : Operator} (hc : PySem.W.selfFirst X.K C = true) (hs : PySem.W.findIn X.K (.ref C) (PySem.dunder op.info.2) = some (some (.ref f))) (hf : PySem.W.isFn X.K (.ref f) = true)
    (Fn : FnOk X.prog X.w X.K X.mg X.base CX k f fd ps sp) (hr : Room k X.A) (hb : Binds X.K fd ps []) (hx : Passes CX X E) : OpR X (binaryOp op) (rOwnB C sp E) := by
  intro pins s σ H x y v u Q I rx ry h
  obtain ⟨a, dx, fs, b, dy, gs, rfl, rfl, ha, hb', q⟩ := h
  cases rx
  cases ry
  obtain ⟨ox, od, J⟩ := inst_of I ha
  obtain ⟨oy, od', J'⟩ := inst_of I hb'
  obtain ⟨m, hF⟩ := I.fr
  refine PySem.W.binop_K hF I.ok.mod.kin J J'.type hc hs hf (wpAny_mono (run_fn (us := [.ref a, .ref b]) (vs := [.ref a, .ref b]) Fn hr hb .nil hx I (.cons rfl (.cons rfl .nil)) q) (fun w s' z => ?_) fun _ _ e => e)
  obtain ⟨z', H', I', rz, qz⟩ := z
  exact back_of rz ⟨z', H', I', rz, qz⟩
/-- x == y, x an instance of the class at C, y of a class or type t that does not come first -/
def rOwnE (K : PySem.W.Frag) (C : Addr) (sp : Sp) (E : XK) : R2 := fun x y H Q => ∃ a dx fs t, x = .ref a ∧ H a = some (.ins C dx fs) ∧ TyX K H y t ∧ PySem.W.notFirst K C t = true ∧ sp [x, y] H Q E
theorem type_of {y : V} {u t : Value} (I : L2.Inv X pins σ H s) (r : RelV y u) (ty : TyX X.K H y t) : PySem.W.Looks (model X.prog X.w) s.heap (typeOf u) t := by
  obtain ⟨P, Z, p, _⟩ := kit_of I r ty
  exact Z.ty _ _ I.kIn p
theorem op_ownE (hs : PySem.W.findIn X.K (.ref C) "__eq__" = some (some (.ref f))) (hf : PySem.W.isFn X.K (.ref f) = true)
    (Fn : FnOk X.prog X.w X.K X.mg X.base CX k f fd ps sp) (hr : Room k X.A) (hb : Binds X.K fd ps []) (hx : Passes CX X E) : OpR X (compareOp .Eq) (rOwnE X.K C sp E) := by
  intro pins s σ H x y v u Q I rx ry h
  obtain ⟨a, dx, fs, t, rfl, ha, ty, hn, q⟩ := h
  cases rx
  obtain ⟨ox, od, J⟩ := inst_of I ha
  obtain ⟨m, hF⟩ := I.fr
  show wpAny _ _ (richCompare .Eq (.ref a) u) _ _ _
  refine PySem.W.cmp_K (op := .Eq) hr.units0 hF I.ok.mod.kin J (type_of I ry ty) hn hs hf (wpAny_mono (run_fn (us := [.ref a, u]) (vs := [.ref a, y]) Fn hr hb .nil hx I (.cons rfl (.cons ry .nil)) q) (fun w s' z => ?_) fun _ _ e => e)
  obtain ⟨z', H', I', rz, qz⟩ := z
  exact back_of rz ⟨z', H', I', rz, qz⟩
/-- -x -/
theorem un_own (hs : PySem.W.findIn X.K (.ref C) "__neg__" = some (some (.ref f))) (hf : PySem.W.isFn X.K (.ref f) = true) (Fn : FnOk X.prog X.w X.K X.mg X.base CX k f fd ps sp) (hr : Room k X.A) (hb : Binds X.K fd ps []) (hx : Passes CX X E) :
    UnR X (unaryOp .USub) (fun x H Q => ∃ a dx fs, x = .ref a ∧ H a = some (.ins C dx fs) ∧ sp [x] H Q E) := by
  intro pins s σ H x v Q I rx h
  obtain ⟨a, dx, fs, rfl, ha, q⟩ := h
  cases rx
  obtain ⟨ox, od, J⟩ := inst_of I ha
  obtain ⟨m, hF⟩ := I.fr
  exact PySem.W.ksp_neg hF I.ok.mod.kin J hs hf (run_fn (us := [.ref a]) (vs := [.ref a]) Fn hr hb .nil hx I (.cons rfl .nil) q)
/-- len(x), x an instance of a class with its own __len__ -/
def rLenOwn (C : Addr) (sp : Sp) (E : XK) : List V → Hp → VK → Prop := fun xs H Q => ∃ a dx fs, xs = [.ref a] ∧ H a = some (.ins C dx fs) ∧ sp [.ref a] H (fun z H' => ∃ n : Int, z = .int n ∧ (0 ≤ n ∧ n < 2 ^ 63) ∧ Q z H') E
theorem call_lenOwn (hs : PySem.W.findIn X.K (.ref C) "__len__" = some (some (.ref f))) (hf : PySem.W.isFn X.K (.ref f) = true) (Fn : FnOk X.prog X.w X.K X.mg X.base CX k f fd ps sp) (hr : Room (k + 1) X.A) (hb : Binds X.K fd ps [])
    (hx : ∀ (H : Hp) (s : Shared) (e : Value) (s' : Shared), CX X.stack H s E e s' → X.xe e s') : CallR X (.builtin "len") (rLenOwn C sp E) := by
  intro pins s σ H xs us Q I r h
  obtain ⟨a, dx, fs, rfl, ha, q⟩ := h
  obtain ⟨u, rfl, ru⟩ := vals1 r
  cases ru
  obtain ⟨ox, od, J⟩ := inst_of I ha
  obtain ⟨m, hF⟩ := I.fr
  refine PySem.W.len_K hF I.ok.mod.kin J hs hf (wpAny_call (codeAny_mono (Fn.run X.A.in1 X.stack s H ⟨[.ref a], []⟩ [.ref a] [.ref a] _ E hr.in1 I.env0.in1 (by simpa using hb s [.ref a] I.kIn (by simpa using (Fn.len _ _ _ _ q))) (.cons rfl .nil) q) fun r s' hq => ?_))
  cases r with
  | error e => exact hx _ _ _ _ hq
  | ok fl =>
    cases fl with
    | ret u =>
      obtain ⟨v, H', I', rv, n, ev, hn, qv⟩ := I.after hq
      subst ev
      obtain ⟨t, e⟩ := rv
      subst e
      exact ⟨hn, .int n, H', I'.tok _, ⟨_, rfl⟩, qv⟩
    | next => exact hq
    | brk => exact hq
    | cont => exact hq
end
end G
set_option Elab.async false
set_option linter.all false
set_option maxRecDepth 100000
namespace G
open PySem PySem.Spec PyProof.Rows L2 Evl
section
open PySem.W Builtin
variable {prog : Program} {w : World} {A : Around} {E : Value → Shared → Prop} {s : Shared} {K : Frag} {x C f : Addr} {ox : Obj} {od : Option Obj} {b tb : Value}
/-- x.name(..) where the class has a built-in for name -/
theorem ifBoundB {M : Model} {name : Str} {id : String} {args : List Value} {Q : Option Value → Shared → Prop} (X : K.In s.heap) (I : InstAt s.heap x ox C od) (hs : findIn K (.ref C) name = some (some (.builtin id)))
    (hb : bindSpecial (.builtin id) (.ref x) = pure (.builtin id, [.ref x])) (h : wpAny M A (call (.builtin id) (.ref x :: args)) (fun v => Q (some v)) E s) : wpAny M A (callSpecialIfBound? (.ref x) name args) Q E s := by
  have fin : wpAny M A (call (.builtin id) ([.ref x] ++ args) >>= fun v => pure (some v)) Q E s := wpAny_bind (wpAny_mono h (fun _ _ z => wpAny_pure z) fun _ _ z => z)
  unfold callSpecialIfBound? bindSpecialIfBound?
  refine wpAny_holding (wpAny_bind (wpAny_bind (wpAny_bind (I.type.here ((looks_findIn X hs).here ?_)))))
  refine wpAny_bind (wpAny_askSetting (wpAny_ite ?_))
  split
  · exact wpAny_bind (wpAny_of_eq hb (wpAny_pure fin))
  · exact wpAny_tryCatch (wpAny_bind (wpAny_of_eq hb (wpAny_pure fin)))
theorem call_objNe {Q : Value → Shared → Prop} (hu : A.units + 1 < cLine) (X : K.In s.heap) (I : InstAt s.heap x ox C od) (hm : mroIn K C (.type "object") = some true) (hs : findIn K (.ref C) "__eq__" = some (some (.ref f))) (hf : isFn K (.ref f) = true)
    (h : wpAny (model prog w) A.in1 (call (.ref f) [.ref x, b]) (fun v s' => ∃ k, v = .bool k ∧ Q (.bool (!k)) s') E s) : wpAny (model prog w) A (call (.builtin "object.__ne__") [.ref x, b]) Q E s := by
  have sub : Looks (model prog w) s.heap (isInstance (.ref x) (.type "object")) true := I.type.andThen (looks_mroIn X hm)
  refine wpAny_call (codeAny_call_builtin F.cmp_object.ne.plain F.cmpEntry_ne (@check_slot (model prog w) _ _ s "object.__ne__" "object" "__ne__" (.ref x) [b] [] _ F.cmpKind_ne F.cmpSplit_ne sub (F.cmpArgs_ne (.ref x) b) ?_))
  unfold Builtin.«object.__ne__»
  refine wpAny_bind (wpAny_of_eq (a := (Value.ref x, [b])) (by first | rfl | kernel_rfl) ?_)
  show wpAny _ _ (cRoomFor "comparison" [.ref x, b] >>= _) _ _ _
  refine wpAny_bind (wpAny_cRoomFor hu ?_)
  refine wpAny_bind (m := callSpecialIfBound? (.ref x) (Str.ofString "__eq__") [b]) (ifBound_K X I hs hf (wpAny_mono h (fun v s' z => ?_) fun _ _ e => e))
  obtain ⟨k, rfl, q⟩ := z
  first
    | exact wpAny_bind (wpAny_truthy_bool (wpAny_pure ⟨_, rfl, q⟩))
    | exact wpAny_bind (wpAny_truthy_bool (wpAny_pure q))
theorem ne_K {Q : Value → Shared → Prop} (hu : A.units + 2 < cLine) (X : K.In s.heap) (I : InstAt s.heap x ox C od) (hm : mroIn K C (.type "object") = some true) (hb : Looks (model prog w) s.heap (typeOf b) tb) (hn : notFirst K C tb = true)
    (hne : findIn K (.ref C) "__ne__" = some (some (.builtin "object.__ne__"))) (hs : findIn K (.ref C) "__eq__" = some (some (.ref f))) (hf : isFn K (.ref f) = true)
    (h : wpAny (model prog w) A.in1 (call (.ref f) [.ref x, b]) (fun v s' => ∃ k, v = .bool k ∧ Q (.bool (!k)) s') E s) : wpAny (model prog w) A (richCompare .NotEq (.ref x) b) Q E s := by
  have one : wpAny (model prog w) A (tryCompare (.ref x) (cmpInfo .NotEq).2.1 b) (fun r s' => ∃ v, r = some v ∧ Q v s') E s := by
    unfold tryCompare
    refine wpAny_bind (ifBoundB X I hne (F.cmp_object.ne.bind _) (call_objNe (by omega) X I hm hs hf (wpAny_mono h (fun v s' z => ?_) fun _ _ e => e)))
    obtain ⟨k, rfl, q⟩ := z
    exact ⟨k, rfl, wpAny_pure ⟨_, rfl, q⟩⟩
  unfold richCompare
  simp only [oneThing_ref]
  refine wpAny_holding (wpAny_bind (wpAny_cRoomFor (by omega) ?_))
  refine wpAny_bind (I.type.here (wpAny_bind (hb.here ?_)))
  split
  case isTrue q => exact wpAny_bind ((looks_subIn X ((Bool.or_eq_true_iff.mp hn).elim (fun e => by rw [beq_iff_eq.mp e, bne_self_eq_false] at q; cases q) beq_iff_eq.mp)).here (by
    simp only [Bool.false_eq_true, if_false]
    exact wpAny_bind (wpAny_mono one (fun r s' ⟨v, e, hq⟩ => by subst e; exact wpAny_pure hq) fun _ _ e => e)))
  case isFalse q => exact wpAny_bind (wpAny_pure (by
    simp only [Bool.false_eq_true, if_false]
    exact wpAny_bind (wpAny_mono one (fun r s' ⟨v, e, hq⟩ => by subst e; exact wpAny_pure hq) fun _ _ e => e)))
end
end G
set_option Elab.async false
set_option linter.all false
set_option maxRecDepth 100000
namespace G
open PySem PySem.Spec PyProof.Rows L2 Evl
section
variable {X : Cx} {CX : CXT} {pins : List (Addr × Obj)} {σ : L2.St} {H : Hp} {s : Shared} {a C dx f : Addr} {fs : List (Str × V)} {k : Nat} {fd : FuncData} {ps : List Str} {sp : Sp} {E : XK}
/-- x != y by the own == -/
def rOwnN (K : PySem.W.Frag) (C : Addr) (sp : Sp) (E : XK) : R2 := fun x y H Q => ∃ a dx fs t, x = .ref a ∧ H a = some (.ins C dx fs) ∧ TyX K H y t ∧ PySem.W.notFirst K C t = true ∧ sp [x, y] H (fun z H' => ∃ b, z = .bl b ∧ Q (.bl (!b)) H') E
theorem op_ownN (hm : PySem.W.mroIn X.K C (.type "object") = some true) (hne : PySem.W.findIn X.K (.ref C) "__ne__" = some (some (.builtin "object.__ne__"))) (hs : PySem.W.findIn X.K (.ref C) "__eq__" = some (some (.ref f))) (hf : PySem.W.isFn X.K (.ref f) = true)
    (Fn : FnOk X.prog X.w X.K X.mg X.base CX k f fd ps sp) (hr : Room (k + 1) X.A) (hb : Binds X.K fd ps [])
    (hx : ∀ (H : Hp) (s : Shared) (e : Value) (s' : Shared), CX X.stack H s E e s' → X.xe e s') : OpR X (compareOp .NotEq) (rOwnN X.K C sp E) := by
  intro pins s σ H x y v u Q I rx ry h
  obtain ⟨a, dx, fs, t, rfl, ha, ty, hn, q⟩ := h
  cases rx
  obtain ⟨ox, od, J⟩ := inst_of I ha
  have hun := hr.units
  show wpAny _ _ (richCompare .NotEq (.ref a) u) _ _ _
  refine ne_K (by omega) I.kIn J hm (type_of I ry ty) hn hne hs hf (wpAny_call (codeAny_mono (Fn.run X.A.in1 X.stack s H ⟨[.ref a, u], []⟩ [.ref a, u] [.ref a, y] _ E hr.in1 I.env0.in1 (by simpa using hb s [.ref a, u] I.kIn (by simpa using (Fn.len _ _ _ _ q))) (.cons rfl (.cons ry .nil)) q) fun r s' hq => ?_))
  cases r with
  | error e => exact hx _ _ _ _ hq
  | ok fl =>
    cases fl with
    | ret u =>
      obtain ⟨v, H', I', rv, b, ev, qv⟩ := I.after hq
      subst ev
      cases rv
      exact ⟨b, rfl, .bl (!b), H', I', rfl, qv⟩
    | next => exact hq
    | brk => exact hq
    | cont => exact hq
end
/-! ### the end, the base's own facts told -/
section
variable {P : Program} {w : World} {K : PySem.W.Frag} {mg mb : Str → Option Value} {CX : CXT} {k : Nat} {fa a : Addr} {fd : FuncData} {x : Str} {sp : Sp} {s₁ : Shared} {vs : List Value} {ns : List Int}
theorem law_run (KX : K.In s₁.heap) (hns : s₁.heap.Ns mainGlobals mg) (hb : s₁.heap.Ns builtinsNs mb) (hbb : ∀ x : Str, x ≠ "__name__" → mb x = bootBuiltins x) (hlim : s₁.heap.NoLimit) (hsr : s₁.heap.NoSeer) (hg : s₁.gens = #[])
    (ha : s₁.heap.get? a = some { cls := .type "list", data := .seq vs.toArray }) (hi : IntsAre vs ns) (hl : ns.length ≤ sizeLine) (hr : Room k callerA)
    (F : ∀ base : Heap, K.In base → base.Ns mainGlobals mg → base.NoSeer → FnOk P w K mg base CX k fa fd [x] sp) (hbind : ∀ (s : Shared) (u : Value), BindsTo s fd ⟨[u], []⟩ [(x, u)])
    (hsp : ∀ H : Hp, Only H → SqL K H a (ns.map V.int) → sp [.ref a] H (fun v _ => v = .bl true) fun _ _ _ => False) (hCX : ∀ H e s', CX [] H s₁ (fun _ _ _ => False) e s' → False) :
    codeAny (model P w) callerA (.call (.ref fa) ⟨[.ref a], []⟩) (fun r s' => r = .ok (.ret (.bool true)) ∧ OldK s₁.heap s'.heap ∧ s'.os = s₁.os ∧ AllBare s'.gens) s₁ := by
  -- the abstract heap: the script, where the top does not hold it itself
  obtain ⟨H, hA, hS, hO, hok⟩ : ∃ H : Hp, (∀ b, H b ≠ none → b = a ∧ K.lookup a = none) ∧ SqL K H a (ns.map V.int) ∧ Only H ∧ HOk P w H s₁.heap := by
    have rv := vals_ints hi
    cases hk : K.lookup a with
    | some o =>
      have e := KX a o hk
      rw [ha] at e
      cases e
      have e := rv.length
      rw [List.length_map] at e
      exact ⟨fun _ => none, fun b z => (z rfl).elim, .inr ⟨_, vs.toArray, _, hk, rfl, rfl, rfl, by rw [List.size_toArray]; omega, by simpa using rv⟩, fun _ => .inl rfl, fun b u z => by cases (z : (none : Option HO) = some u)⟩
    | none =>
      refine ⟨upd (fun _ => none) a (.frz { cls := .type "list", data := .seq vs.toArray } (.lst (ns.map V.int))), fun b z => ?_, .inl (.inr ⟨_, upd_same⟩), fun b => ?_, fun b u z => ?_⟩
      · by_cases e : b = a
        · exact ⟨e, rfl⟩
        · rw [upd_ne e] at z
          exact (z rfl).elim
      · by_cases e : b = a
        · exact .inr ⟨_, _, by rw [e]; exact upd_same⟩
        · exact .inl (upd_ne e)
      · by_cases e : b = a
        · subst e
          rw [upd_same] at z
          cases z
          exact ⟨ha, by rw [List.length_map]; exact hl, vs, _, rv, ha⟩
        · rw [upd_ne e] at z
          cases z
  -- all but a list is in the base
  have up : ∀ {b : Addr} {o : Obj}, s₁.heap.get? b = some o → o.cls ≠ .type "list" → (hidT s₁.heap H).get? b = some o := fun {b o} e hc => hidT_get e (by
    cases q : H b with
    | none => rfl
    | some u =>
      have := (hA b (by rw [q]; simp)).1
      subst this
      rw [ha] at e
      cases e
      exact (hc rfl).elim)
  have upD : ∀ {b : Addr} {o : Obj} {es : Array DictEntry} {ep : Nat}, s₁.heap.get? b = some o → o.data = .dict es ep → (hidT s₁.heap H).get? b = some o := fun {b o es ep} e d => hidT_get e (by
    cases q : H b with
    | none => rfl
    | some u =>
      have := (hA b (by rw [q]; simp)).1
      subst this
      rw [ha] at e
      cases e
      cases d)
  have upN : ∀ {b : Addr} {m : Str → Option Value}, s₁.heap.Ns b m → (hidT s₁.heap H).Ns b m := fun {b m} ⟨o, es, ep, e, d, r⟩ => ⟨o, es, ep, upD e d, d, r⟩
  have upK : K.In (hidT s₁.heap H) := fun b o e => hidT_get (KX b o e) (by
    cases q : H b with
    | none => rfl
    | some u =>
      obtain ⟨h1, h2⟩ := hA b (by rw [q]; simp)
      rw [h1, h2] at e
      cases e)
  have bs : (hidT s₁.heap H).NoSeer :=
    ⟨let ⟨mc, z, r⟩ := hsr.statics; ⟨mc, upN z, r⟩, let ⟨mm, z, r⟩ := hsr.mods; ⟨mm, upN z, r⟩, let ⟨mi, z, r⟩ := hsr.imp; ⟨mi, upN z, r⟩,
      let ⟨m', bm, ob, z, e1, e2, e3, e4⟩ := hsr.main; ⟨m', bm, ob, upN z, e1, up e2 (by rw [e3]; decide), e3, e4⟩⟩
  have md : Mod K mg (hidT s₁.heap H) := ⟨upK, upN hns, ⟨mb, upN hb, hbb⟩, let ⟨mc, z, r⟩ := hlim; ⟨mc, upN z, r⟩⟩
  have e0 : Env0 P w K mg (hidT s₁.heap H) callerA [] s₁ H := ⟨rfl, md, fun b o e => of_hidT e, Nat.le_of_eq (hidT_size _ _), trivial, fun b hb => absurd (show b ∈ ([] : List Addr) from hb) (by simp), hok, .of_eq hg⟩
  refine codeAny_mono ((F _ upK (upN hns) bs).run callerA [] s₁ H ⟨[.ref a], []⟩ [.ref a] [.ref a] _ _ hr e0 (hbind s₁ (.ref a)) (.cons rfl .nil) (hsp H hO hS)) fun r s' h => ?_
  cases r with
  | error e => exact (hCX H e s' h).elim
  | ok fl =>
    cases fl with
    | next => exact h.elim
    | brk => exact h.elim
    | cont => exact h.elim
    | ret u =>
      obtain ⟨v, H', os, bare, un, hok', r', q⟩ := h
      have q' : v = .bl true := q
      subst q'
      cases (r' : u = Value.bool true)
      refine ⟨rfl, OldK.of_keep fun b o e => ?_, os, bare⟩
      rcases hO b with z | ⟨ob, xs, z⟩
      · exact un.keep b o e z (fun q => absurd (show b ∈ ([] : List Addr) from q) (by simp)) (by simp)
      · have h1 := (hok b _ z).1
        rw [e] at h1
        cases h1
        exact (hok' b _ (un.frzs b _ _ z)).1
end
theorem walkN {l : PySem.W.OpenLaw} {n k : Nat} {q : Program} {loose : List Str} {XP : (Str → Option Value) → Heap → Prop} {YP : World → Heap → Prop} {d : DefRec} {K : Params → PySem.W.Frag} {CX : CXT} {sp : PySem.W.Frag → Sp} {x : Str}
    (hn : l.most = some n) (hn2 : n ≤ sizeLine) (hdf : d.params.defaults = []) (hr : Room k callerA) (hi : importsNone q = true)
    (hY : ∀ (w : World) (h : Heap), YP w h → (K w.params).In h)
    (F : ∀ (w : World) (mg : Str → Option Value) (fa : Addr) (h : Heap), (K w.params).In h → h.Ns mainGlobals mg → mg d.name = some (.ref fa) →
      ∃ fd : FuncData, (∀ (s : Shared) (u : Value), BindsTo s fd ⟨[u], []⟩ [(x, u)]) ∧
        ∀ base : Heap, (K w.params).In base → base.Ns mainGlobals mg → base.NoSeer → FnOk l.prog w (K w.params) mg base CX k fa fd [x] (sp (K w.params)))
    (hsp : ∀ (K : PySem.W.Frag) (H : Hp) (a : Addr) (ns : List Int), ns.length ≤ n → Only H → SqL K H a (ns.map V.int) → sp K [.ref a] H (fun v _ => v = .bl true) fun _ _ _ => False)
    (hCX : ∀ (H : Hp) (s : Shared) (e : Value) (s' : Shared), CX [] H s (fun _ _ _ => False) e s' → False) : PySem.W.WalkO q loose XP YP l.row.toRowW d [] (fun f vs => PySem.call f vs) := by
  refine Att.attach_call hn hdf fun w s₀ s₁ mg mb fa o pm cd doc a vs ns Gr Y ho hd hcd hmg hobj hints hlen hg => ?_
  have KX := hY w _ Y
  obtain ⟨fd, hb, hF⟩ := F w mg fa _ KX Gr.T.g hmg
  exact law_run KX Gr.T.g Gr.T.b Gr.T.builtins Gr.T.nolimit (Gr.T.seer hi) hg hobj hints (Nat.le_trans hlen hn2) hr hF hb (fun H hO hS => hsp (K w.params) H a ns hlen hO hS) fun H e s' => hCX H s₁ e s'
end G
set_option Elab.async false
set_option linter.all false
set_option maxRecDepth 100000
set_option maxHeartbeats 1000000
/-! super().__init__(..) in the __init__ of an own exception class over ValueError (own classes between). -/
namespace G
open PySem PySem.Spec PyProof.Rows L2 Evl NdefX
section
variable {prog : Program} {w : World} {A : Around} {E : Value → Shared → Prop} {h : Heap} {g : Array GenState} {d : Drawn} {t : Nat} {os : OsState}
variable {nm q : Str} {C N : Addr} {bs bm : List Value} {hdct : Bool} {sn : List Str} {sub : List Value} {ab : Bool} {col : Option Bool} {dd : Option Addr} {k0 k1 k2 k3 k5 : Option Value}
/-- the bound ValueError.__init__ called -/
theorem callBound {u e t0 : Addr} {rest : List Value} {Q : Value → Shared → Prop}
    (hC : h.get? C = some (excClassObj nm q C N bs bm hdct sn sub ab col dd k0 k1 k2 k3 k5 "ValueError.__new__")) (he : h.get? e = some (PySem.HandSPX.excO C t0)) (hu : h.get? u = some (PySem.W.kxs_mw "ValueError.__init__" e)) (hrest : rest.length ≤ sizeLine)
    (hq : ∀ h' t1, (∀ b o, b ≠ e → h.get? b = some o → h'.get? b = some o) → h'.get? e = some (PySem.HandSPX.excO C t1) → Q .none ⟨h', g, d, t, os⟩) :
    wpAny (model prog w) A (call (.ref u) rest) Q E ⟨h, g, d, t, os⟩ := by
  refine wpAny_call (codeAny_of_tree ?_)
  show wpAny _ A.in1 (callAny (.ref u) ⟨rest, []⟩) _ _ _
  simp only [callAny]
  refine wpAny_bind (wpAny_load hu ?_)
  simp only [PySem.W.kxs_mw, show (Value.type "method-wrapper" == Value.type "method" || Value.type "method-wrapper" == Value.type "builtin_function_or_method" || Value.type "method-wrapper" == Value.type "method-wrapper") = true by decide, if_true]
  refine PySem.W.KFB.if_so (by decide) ?_
  refine wpAny_bind (PySem.W.check_bound_init F.excBase_ValueError.toExcCallFacts hC he rfl ?_)
  refine wpAny_bind (wpAny_pure (wpAny_pure ?_))
  refine ⟨plainId_quiet F.excBase_ValueError.init.plain _, codeAny_builtin F.excBase_ValueError.initEntry ?_⟩
  rw [Around.under_plainId F.excBase_ValueError.init.plain _]
  exact PySem.W.exc_init_tree (cls := .ref C) (t0 := t0) (dv := none) (c2 := .none) (c3 := .none) (b4 := .bool false) he hrest fun h' k e' _ => hq h' _ k e'
end
/-- what the written part says of a class C whose __init__ (at fI) says super().__init__(..) -/
structure SupC (K : PySem.W.Frag) (file : Str) (C fI cc cda : Addr) (qual : Str) (params : Arguments) (body : List Stmt) (scope : Scope) (fd : FuncData) : Prop where
  T : OexC K C
  fn : ∃ oc od osl dV kV doc pm an ct, fd = PySem.W.fnX "__init__" qual params body scope [("__class__", cc)] dV kV doc pm an (.ref cda) ct ∧ K.lookup fI = some ⟨oc, od, .func fd, osl⟩
  code : PySem.W.codeIn K (.ref cda) qual = true
  codeO : ∃ cl cdd vs ccs tf, K.lookup cda = some ⟨cl, cdd, .fields vs, ccs⟩ ∧ vs[2]? = some (.str file tf)
  cell : ∃ cl cld csl, K.lookup cc = some ⟨cl, cld, .cell (some (.ref C)), csl⟩
  cls : ∃ cd, PySem.W.clsIn K C = some cd
  sub : PySem.W.mroIn K C (.ref C) = some true
  sup : PySem.W.ks_superIn K C C "__init__" = some (some (.builtin "ValueError.__init__"))
  base : PySem.W.subIn K (.ref C) (.type "ValueError") = some true
  plain : PySem.W.nsIn K cStatics "thirdparty.any" = some none
theorem okSup {CX : CXT} {P : Program} {w : World} {K : PySem.W.Frag} {mg : Str → Option Value} {base : Heap} {k : Nat} {file : Str} {C fI cc cda : Addr} {qual a0 : Str} {params : Arguments} {scope : Scope} {fd : FuncData} {N ps : List Str} {sp : Sp} {e : Expr} {p0 p1 p2 p3 p4 : Pos} {rest : List Stmt}
    (Z : SupC K file C fI cc cda qual params (.Expr (.Call (.Attribute (.Call (.Name "super" p0) [] [] p1) "__init__" p2) [e] [] p3) p4 :: rest) scope fd)
    (S : NScope N (a0 :: ps) ["__class__"] scope) (hp : ∃ ar, (params.posonlyargs ++ params.args).head? = some ar ∧ ar.arg = a0)
    (hks : scope.names.lookup ("super" : Str) = some .globalImplicit) (hfile : ((P.main.file : Str) == file) = true) (htop : (P.main.scope.names.lookup ("super" : Str)).isSome = false) (hsuper : mg "super" = none)
    (hs : ∀ env, swapsWith (.Call (.Attribute (.Call (.Name "super" p0) [] [] p1) "__init__" p2) [e] [] p3) none p4.line env = pure false := by intro env; rfl)
    (he : ∀ env, starEach [e] env = [(false, eval e env)] := by intro env; rfl)
    (hc : ∀ env, ∃ pl : Sem Bool, eval (.Call (.Attribute (.Call (.Name "super" p0) [] [] p1) "__init__" p2) [e] [] p3) env = (do
      let ov ← attributeBase (.Call (.Name "super" p0) [] [] p1) "__init__" env (eval (.Call (.Name "super" p0) [] [] p1) env)
      standAt p2.atName
      let (f, first) ← holding [ov] (getMethod ov "__init__" pl)
      callWith p3 f first (backTo p3 (starEach [e] env)) []) := by intro env; exact ⟨_, rfl⟩)
    (len : ∀ vs H Q E, sp vs H Q E → vs.length = ps.length + 1)
    (body : ∀ (A : Around) (outer : List PySem.Env) (s : Shared) (H : Hp) (vs : List V) (Q : VK) (E : XK), sp vs H Q E → ∃ a ws, vs = .ref a :: ws ∧ H a = some (exo a C none) ∧
      ∃ te ts, PE (ncx CX P w K mg base N ⟨"__init__", qual, params, .Expr (.Call (.Attribute (.Call (.Name "super" p0) [] [] p1) "__init__" p2) [e] [] p3) p4 :: rest, scope, [("__class__", cc)], cda⟩ fI A outer s H E) e te ∧
        PSs (ncx CX P w K mg base N ⟨"__init__", qual, params, .Expr (.Call (.Attribute (.Call (.Name "super" p0) [] [] p1) "__init__" p2) [e] [] p3) p4 :: rest, scope, [("__class__", cc)], cda⟩ fI A outer s H E) rest ts ∧
        (∀ (σ : L2.St) (H : Hp) (Q Q' : VK), (∀ z H1, Q z H1 → Q' z H1) → te σ H Q → te σ H Q') ∧ te (startF N vs [none]) H fun _ H1 => H1 = H ∧ ts { nx := fun _ H' => Q .non H', rt := Q } (startF N vs [none]) H) :
    FnOk P w K mg base CX (k + 1) fI fd (a0 :: ps) sp := by
  obtain ⟨oc, od, osl, dV, kV, doc, pm, an, ct, rfl, lk⟩ := Z.fn
  refine ⟨len, fun A outer s H args us vs Q E hr e0 hb r hsp => ?_⟩
  have hl : vs.length = (a0 :: ps).length := len _ _ _ _ hsp
  have lim : s.heap.NoLimit := e0.mod.nolimit.keeps fun b o e => (e0.bs b o e).1
  have KX : K.In s.heap := e0.mod.kin.keeps fun b o e => (e0.bs b o e).1
  refine codeAny_call_function hr.depth (KX _ _ lk) rfl S.co S.gen rfl (PySem.W.codeRec_of KX Z.code) (hb _ _ _ _ ?_)
  refine wpAny_newFunctionEnv S.nocell (fun ⟨n, _⟩ hy => S.par n (List.of_mem_zip hy).1) (fun h₁ hns hsb => ⟨lim.fresh _ hsb, ?_⟩) S.kind
  obtain ⟨a, ws, rfl, ha, te, ts, he1, hs1, mono, hq⟩ := body A outer s H vs Q E hsp
  let F : NF := ⟨"__init__", qual, params, .Expr (.Call (.Attribute (.Call (.Name "super" p0) [] [] p1) "__init__" p2) [e] [] p3) p4 :: rest, scope, [("__class__", cc)], cda⟩
  have hF1 : F.scope = scope := rfl
  have hF2 : F.cl = [(("__class__" : Str), cc)] := rfl
  show codeAny _ _ (.func F.body (envF F fI s.heap.objs.size)) _ _
  refine PySem.ks_codeAny_funcAt ?_
  have kp : ∀ b o, s.heap.get? b = some o → h₁.get? b = some o := fun b o e => hsb.extBut b o (Nat.ne_of_lt (Heap.lt_size e)) (Heap.get?_push_of_some _ e)
  obtain ⟨ccl, cld, csl, hcell⟩ := Z.cell
  have cellB : base.get? cc = some ⟨ccl, cld, .cell (some (.ref C)), csl⟩ := e0.mod.kin _ _ hcell
  have CA : CellsAt F.cl ["__class__"] [none] s.heap H := by
    rw [hF2]
    refine ⟨rfl, fun y c hy => ?_, fun x y c h1 h2 => ?_, fun i y hy => ?_⟩
    · have hc : c = cc := by
        simp only [List.lookup] at hy
        split at hy
        · exact (Option.some.inj hy).symm
        · cases hy
      subst hc
      exact ⟨(e0.bs _ _ cellB).2, some (.ref C), _, (e0.bs _ _ cellB).1, rfl⟩
    · simp only [List.lookup] at h1 h2
      split at h1
      · rename_i q1
        split at h2
        · rename_i q2
          rw [eq_of_beq q1, eq_of_beq q2]
        · cases h2
      · cases h1
    · cases i with
      | zero =>
        cases hy
        exact ⟨cc, by simp [List.lookup], fun v hv => by cases hv⟩
      | succ i => simp at hy
  have I : Inv (ncx CX P w K mg base N F fI A outer s H E) [] (startF N (.ref a :: ws) [none]) H { s with heap := h₁, toks := s.toks + ((a0 :: ps).zip us).length } := inv_startN (by rw [hF1]; exact S) hr.hd e0 hl r CA hns kp
  have KI := I.kIn
  obtain ⟨nm, q, Nn, bs, bm, sn, sub, ab, col, dd, k0, k1, k2, k3, k5, hC, hbm⟩ := Z.T.cls
  obtain ⟨t1, hae⟩ := exo_at I.hok ha
  obtain ⟨cd, hcd⟩ := Z.cls
  obtain ⟨oD, hD1, hD2⟩ : ∃ oD, h₁.get? C = some oD ∧ oD.data = .cls cd := by
    unfold PySem.W.clsIn at hcd
    split at hcd
    · rename_i c d cd' sl ho
      cases hcd
      exact ⟨_, KI _ _ ho, rfl⟩
    · cases hcd
  obtain ⟨ccl', cdd, cvs, ccs, tf, hco, hvs⟩ := Z.codeO
  obtain ⟨ar, hp1, hp2⟩ := hp
  subst hp2
  have hbody : F.body = .Expr (.Call (.Attribute (.Call (.Name "super" p0) [] [] p1) "__init__" p2) [e] [] p3) p4 :: rest := rfl
  have hks' : (envF F fI s.heap.objs.size).kindOf "super" = some .globalImplicit := by
    show F.scope.names.lookup ("super" : Str) = _
    rw [hF1]
    exact hks
  have hkc' : (envF F fI s.heap.objs.size).kindOf "__class__" = some .free := by
    show F.scope.names.lookup ("__class__" : Str) = _
    rw [hF1]
    exact S.frk _ (by simp)
  have hka' : (envF F fI s.heap.objs.size).kindOf ar.arg = some .local := by
    show F.scope.names.lookup ar.arg = _
    rw [hF1]
    exact S.par _ (by simp)
  have hkd : (envF F fI s.heap.objs.size).scope.kind = .function := by
    show F.scope.kind = _
    rw [hF1]
    exact S.kind
  have fin : ∀ {σ' : L2.St} {H' : Hp} {v : V} {u : Value} {s' : Shared}, Inv (ncx CX P w K mg base N F fI A outer s H E) [] σ' H' s' → L2.RelV v u → Q v H' → CE outer P w H s Q u s' :=
    fun {σ' H' v u s'} J rv q => ⟨v, H', J.os, J.bare, J.base, J.hok, rv, q⟩
  refine PySem.ks_wpAt_execs_cons ?_
  refine PySem.ks_wpAt_Expr_any ?_ I.quiet (hs _)
  obtain ⟨pl, hpl⟩ := hc (envF F fI s.heap.objs.size)
  refine PySem.ks_wpAt_MethodCall (pl := pl) ?_ hpl
  refine PySem.ks_wpAt_super_base (env := envF F fI s.heap.objs.size) hks' hkc' (by decide +kernel) rfl (KI _ _ lk) rfl hp1 rfl (KI _ _ hco) rfl hvs hfile htop ?_
  obtain ⟨mb, hb1, hb2⟩ := I.mod.blt
  refine PySem.W.ks_loadName_global hkd hks' (Calls.loadGlobal_builtin (env := envF F fI s.heap.objs.size) (I.mod.glob.keeps I.bk) hsuper (hb1.keeps I.bk) ((hb2 _ (by decide +kernel)).trans PyProof.Rows.Boot.«super») ⟨rfl, ?_⟩)
  refine wpAny_loadName_free (env := envF F fI s.heap.objs.size) hkd hkc' (c := cc) (by rfl) ⟨_, KI _ _ hcell, rfl⟩ ?_
  obtain ⟨m, hns2, hloc⟩ := I.loc
  have hN0 : N[0]? = some ar.arg := by
    have q := S.pre
    have : (N.take ((ar.arg :: ps).length + [("__class__" : Str)].length))[0]? = some ar.arg := by rw [q]; rfl
    rw [List.getElem?_take] at this
    simpa using this
  obtain ⟨u0, ru0, lk0⟩ := hloc 0 ar.arg (.ref a) hN0 (by rfl) (.inl hka')
  have hm0 : m ar.arg = some (.ref a) := by
    rcases lk0 with ⟨_, e1⟩ | ⟨e1, _⟩
    · cases ru0
      exact e1
    · have e1' : (envF F fI s.heap.objs.size).kindOf ar.arg = some .cell ∨ (envF F fI s.heap.objs.size).kindOf ar.arg = some .free := e1
      rw [hka'] at e1'
      rcases e1' with e1' | e1' <;> cases e1'
  refine wpAny_loadName_local (env := envF F fI s.heap.objs.size) hkd hka' hns2 hm0 ?_
  refine PySem.ks_wpAny_isType_cls hD1 hD2 ⟨rfl, ?_⟩
  have J0 : PySem.W.InstAt h₁ a (PySem.HandSPX.excO C t1) C none := ⟨hae, rfl, rfl, trivial⟩
  refine PySem.ks_wpAny_call_super hD1 hD2 hae rfl (fun c e => by cases e) (PySem.W.looks_mroIn KI Z.sub) (fun h2 hso k2 => ?_)
  have I2 : Inv (ncx CX P w K mg base N F fI A outer s H E) [] (startF N (.ref a :: ws) [none]) H { heap := h2, gens := s.gens, drawn := s.drawn, toks := s.toks + ((ar.arg :: ps).zip us).length, os := s.os } := I.kept (t' := s.toks + ((ar.arg :: ps).zip us).length) k2
  have K2 := I2.kIn
  have hsup := Z.sup
  unfold PySem.W.ks_superIn at hsup
  rw [hcd] at hsup
  have J2 : PySem.W.InstAt h2 a (PySem.HandSPX.excO C t1) C none := ⟨k2 _ _ hae, rfl, rfl, trivial⟩
  have hI : PySem.W.Looks (model P w) h2 (isInstance (.ref a) (.type "ValueError")) true := J2.type.andThen (PySem.W.looks_subIn K2 Z.base)
  refine PySem.W.kxs_getMethod PySem.W.kxs_ValueError hso (PySem.W.looks_opaque K2 Z.plain) (l₀ := cd.mro) (fun A Q E s k q => wpAny_bind ((PySem.W.looks_clsIn K2 hcd) A _ E s k (wpAny_pure q))) rfl K2 hsup hI (PySem.W.ks_ne K2 J2 hcd) (by decide +kernel) ?_
  have I3 : Inv (ncx CX P w K mg base N F fI A outer s H E) [] (startF N (.ref a :: ws) [none]) H { heap := h2.push (PySem.W.kxs_mw "ValueError.__init__" a), gens := s.gens, drawn := s.drawn, toks := s.toks + ((ar.arg :: ps).zip us).length + 1, os := s.os } := I2.kept (t' := s.toks + ((ar.arg :: ps).zip us).length + 1) (fun b o e => Heap.get?_push_of_some _ e)
  have hu : (h2.push (PySem.W.kxs_mw "ValueError.__init__" a)).get? h2.objs.size = some (PySem.W.kxs_mw "ValueError.__init__" a) := Heap.get?_push_size _ rfl
  have I4 : Inv (ncx CX P w K mg base N F fI A outer s H E) [(h2.objs.size, PySem.W.kxs_mw "ValueError.__init__" a)] (startF N (.ref a :: ws) [none]) H { heap := h2.push (PySem.W.kxs_mw "ValueError.__init__" a), gens := s.gens, drawn := s.drawn, toks := s.toks + ((ar.arg :: ps).zip us).length + 1, os := s.os } := by
    refine I3.pins_of fun p hp => ?_
    have hp' : p = (h2.objs.size, PySem.W.kxs_mw "ValueError.__init__" a) := by simpa [ncx] using hp
    subst hp'
    exact ⟨hu, I2.hok.fresh (Nat.le_refl _), Nat.ne_of_gt I2.lt, I2.nofs (Nat.le_refl _), fun v e => by cases e⟩
  rw [he]
  refine PySem.W.kxs_callWith (i := "ValueError.__init__") (x := a) rfl (Calls.evalArgs_plain ?_)
  have pa : PA (ncx CX P w K mg base N F fI A outer s H E) [e] (tCons te tNil) := pa_cons he1 pa_nil (by rw [he]; rfl)
  have pr := pa.run p3 [(h2.objs.size, PySem.W.kxs_mw "ValueError.__init__" a)] _ _ H (fun vs H1 => ∃ z, vs = [z] ∧ H1 = H ∧ ts { nx := fun _ H' => Q .non H', rt := Q } (startF N (.ref a :: ws) [none]) H) I4 (mono _ _ _ _ (fun z H1 q => ⟨z, rfl, q⟩) hq)
  rw [he] at pr
  refine wpAny_mono pr (fun us2 s2 ⟨vs2, H1, I5, r5, z, ev, eH, q5⟩ => ?_) fun _ _ z => z
  subst ev
  subst eH
  obtain ⟨u2, rfl, ru2⟩ := vals1 r5
  have pu := (I5.pin (h2.objs.size, PySem.W.kxs_mw "ValueError.__init__" a) (by simp)).1
  refine ⟨pu, ?_⟩
  obtain ⟨t2, hae2⟩ := exo_at I5.hok ha
  obtain ⟨hp2, g2, d2, tk2, os2⟩ := s2
  refine callBound (I5.kIn _ _ hC) hae2 pu (by show 1 ≤ sizeLine; rw [sizeLine_eq]; omega) fun h' t3 k3 hx3 => ?_
  have J := I5.write (t' := tk2) (x := a) (e := a) (o := exo a C none) (by rw [ha]; exact True.intro) (.inl rfl) k3 ⟨_, hx3⟩ (exo_ok hx3)
  have eu : upd H1 a (exo a C none) = H1 := by
    funext b
    by_cases hb : b = a
    · rw [hb, upd_same, ha]
    · rw [upd_ne hb]
  rw [eu] at J
  have J' : Inv (ncx CX P w K mg base N F fI A outer s H1 E) [] (startF N (.ref a :: ws) [none]) H1 ⟨h', g2, d2, tk2, os2⟩ := J.pins_of fun p hp => J.pin p (by
    have : p ∈ ([] : List (Addr × Obj)) := by simpa [ncx] using hp
    cases this)
  refine wpAt_of_wpAny (wpAny_mono (hs1.run [] _ _ H1 _ J' q5) (fun fl s' hs => ?_) fun e s' hs => hs)
  cases fl with
  | ret u =>
    obtain ⟨v, σ', H', J, rv, q⟩ := hs
    exact fin J rv q
  | next =>
    obtain ⟨σ', H', J, q⟩ := hs
    exact fin (v := V.non) (u := Value.none) J rfl q
  | brk =>
    obtain ⟨_, _, _, q⟩ := hs
    exact False.elim q
  | cont =>
    obtain ⟨_, _, _, q⟩ := hs
    exact False.elim q
end G
set_option Elab.async false
set_option linter.all false
set_option maxRecDepth 100000
set_option maxHeartbeats 1000000
/-! zip and enumerate over lists and tuples alike. -/
namespace G
open PySem PySem.Spec PyProof.Rows L2 Evl
/-- false: a list, true: a tuple -/
def SqK (K : PySem.W.Frag) : Bool → Hp → Addr → List V → Prop
  | false => SqL K
  | true => SqT K
def ItK : Bool → Heap → Addr → Addr → Nat → Prop
  | false => fun h it l i => h.IsListIter it l i
  | true => fun h it l i => h.IsTupleIter it l i
def HdK : Bool → Heap → Addr → Array Value → Prop
  | false => fun h l xs => h.IsList l xs
  | true => fun h l xs => h.IsTuple l xs
theorem drawsK {prog : Program} {w : World} {A : Around} (hh : A.handled = none) (b : Bool) (it l : Addr) (hne : l ≠ it) (xs : Array Value) :
    Draws prog w A it [it, l] xs.size (fun i v => xs[i]? = some v) (fun i h => ItK b h it l i ∧ HdK b h l xs) := by
  cases b with
  | false => exact Draws.list hh it l hne xs
  | true => exact Draws.tuple hh it l hne xs
def itObj : Bool → Addr → Obj
  | false => fun l => { cls := .type "list_iterator", data := .fields #[.ref l, .int 0 0] }
  | true => fun l => { cls := .type "tuple_iterator", data := .fields #[.ref l, .int 0 0] }
theorem beginsK (b : Bool) (l : Addr) (xs : Array Value) : Begins (.ref l) (itObj b l) fun h => HdK b h l xs := by
  cases b with
  | false => exact begins_list l xs
  | true => exact begins_tuple l xs
section
variable {X : Cx} {pins : List (Addr × Obj)} {σ : L2.St} {H : Hp} {s : Shared} {b : Bool} {a : Addr} {xs ys : List V}
theorem seqK (I : L2.Inv X pins σ H s) (h : SqK X.K b H a xs) : ∃ its : List Value, Vals xs its ∧ HdK b s.heap a its.toArray ∧ a < s.heap.objs.size := by
  cases b with
  | false =>
    obtain ⟨its, r, p, _⟩ := I.list h
    exact ⟨its, r, p.isList, p.lt⟩
  | true =>
    obtain ⟨its, r, p, _⟩ := I.tuple h
    obtain ⟨o, ho, _⟩ := id p
    exact ⟨its, r, p, Heap.lt_size ho⟩
theorem injK (I : L2.Inv X pins σ H s) (h : SqK X.K b H a xs) (h' : SqK X.K b H a ys) : xs = ys := by
  cases b with
  | false => exact I.list_inj h h'
  | true => exact I.tuple_inj h h'
theorem ItK.get {h : Heap} {it l : Addr} {i : Nat} (x : ItK b h it l i) : ∃ o vs, h.get? it = some o ∧ o.data = .fields vs := by
  cases b with
  | false =>
    obtain ⟨o, h1, _, h2⟩ := x
    exact ⟨o, _, h1, h2⟩
  | true =>
    obtain ⟨o, h1, _, h2⟩ := x
    exact ⟨o, _, h1, h2⟩
theorem ItK.at {h h' : Heap} {it l : Addr} {i : Nat} (x : ItK b h it l i) (k : ∀ o, h.get? it = some o → h'.get? it = some o) : ItK b h' it l i := by
  cases b with
  | false => exact Heap.IsListIter.at x k
  | true => exact Heap.IsTupleIter.at x k
theorem ItK.new {h : Heap} {it l : Addr} (x : h.get? it = some (itObj b l)) : ItK b h it l 0 := by
  cases b with
  | false => exact ⟨_, x, rfl, rfl⟩
  | true => exact ⟨_, x, rfl, rfl⟩
end
/-- zip over what stands at a and b -/
def ItzK (K : PySem.W.Frag) (b1 b2 : Bool) (a b : Addr) : It :=
  ⟨fun i H => ∃ (xs ys : List V) (x y : V), SqK K b1 H a xs ∧ SqK K b2 H b ys ∧ xs[i]? = some x ∧ ys[i]? = some y,
    fun i H v H' => ∃ T x y, v = .ref T ∧ H T = none ∧ H' = upd H T (.tup [x, y]) ∧ (∀ xs, SqK K b1 H a xs → xs[i]? = some x) ∧ ∀ ys, SqK K b2 H b ys → ys[i]? = some y,
    fun i H => ∃ xs ys : List V, SqK K b1 H a xs ∧ SqK K b2 H b ys ∧ i ≤ xs.length ∧ i ≤ ys.length ∧ (i = xs.length ∨ i = ys.length)⟩
theorem mem5 {c z t u v w : Addr} (h : c ∈ [z, t, u, v, w]) : c = z ∨ c = t ∨ c = u ∨ c = v ∨ c = w := by simpa using h
theorem turnZ {P : Program} {w : World} {K : PySem.W.Frag} {elts : List Expr} {kk : Nat} {tpos : Pos} {b1 b2 : Bool} {a b z TI TO i1 i2 : Addr} (D : ZipSep2 z TI TO i1 i2 [i1, a] [i2, b]) (n1 : a ≠ i1) (n2 : b ≠ i2) :
    Turn P w K (.Tuple elts kk tpos) (ItzK K b1 b2 a b) [z, TI, TO, i1, i2] z (fun i h => IsZip h z TI TO .none ∧ IsTupOf2 h TI (.ref i1) (.ref i2) ∧ (∃ x y, IsTupOf2 h TO x y) ∧ ItK b1 h i1 a i ∧ ItK b2 h i2 b i) where
  mem := by simp
  obj := fun i h st c hc => by
    obtain ⟨hz, hTI, ⟨x, y, hTO⟩, h1, h2⟩ := st
    obtain ⟨o1, v1, e1, d1⟩ := h1.get
    obtain ⟨o2, v2, e2, d2⟩ := h2.get
    rcases mem5 hc with rfl | rfl | rfl | rfl | rfl
    · exact ⟨_, hz, fun v q => nomatch q⟩
    · exact ⟨_, hTI, fun v q => nomatch q⟩
    · exact ⟨_, hTO, fun v q => nomatch q⟩
    · exact ⟨o1, e1, fun v q => by rw [d1] at q; cases q⟩
    · exact ⟨o2, e2, fun v q => by rw [d2] at q; cases q⟩
  keep := fun i h h' st k => by
    obtain ⟨hz, hTI, ⟨x, y, hTO⟩, h1, h2⟩ := st
    exact ⟨k z (by simp) _ hz, k TI (by simp) _ hTI, ⟨x, y, k TO (by simp) _ hTO⟩, h1.at fun o q => k i1 (by simp) o q, h2.at fun o q => k i2 (by simp) o q⟩
  item := by
    intro X hP hw hK hc i pins s σ H E I hf st hg
    subst hP hw hK
    obtain ⟨hz, hTI, ⟨x0, y0, hTO⟩, h1, h2⟩ := st
    obtain ⟨xs, ys, x, y, hqx, hqy, hx, hy⟩ := hg
    obtain ⟨its, rv, p, _⟩ := seqK I hqx
    obtain ⟨its2, rv2, p2, _⟩ := seqK I hqy
    obtain ⟨u, hu, ru⟩ := rv.get hx
    obtain ⟨u2, hu2, ru2⟩ := rv2.get hy
    have hzl : z < s.heap.objs.size := Heap.lt_size hz
    have hh := I.ok.hd hc
    have q1 : i < its.toArray.size := by rw [List.size_toArray, ← rv.length]; exact (List.getElem?_eq_some_iff.mp hx).1
    have q2 : i < its2.toArray.size := by rw [List.size_toArray, ← rv2.length]; exact (List.getElem?_eq_some_iff.mp hy).1
    have D1 := drawsK (prog := X.prog) (w := X.w) (A := X.A.in1) hh b1 i1 a n1 its.toArray
    have D2 := drawsK (prog := X.prog) (w := X.w) (A := X.A.in1) hh b2 i2 b n2 its2.toArray
    refine wpAny_pyNext_zipD2_item D D1 D2 hz hTI hTO ⟨h1, p⟩ ⟨h2, p2⟩ q1 q2 fun x1 x2 h' tk e1 e2 z' TO' h1' h2' hT hsz hk => ?_
    obtain rfl : x1 = u := by
      have w1 : its.toArray[i]? = some u := by simpa using hu
      rw [w1] at e1
      exact (Option.some.inj e1).symm
    obtain rfl : x2 = u2 := by
      have w1 : its2.toArray[i]? = some u2 := by simpa using hu2
      rw [w1] at e2
      exact (Option.some.inj e2).symm
    refine ⟨_, rfl, wpAny_letOwnedTupleGo_zip (s := { s with heap := h', toks := tk }) z' fun h'' z'' sb => ?_⟩
    have hT2 : h''.get? s.heap.objs.size = some { cls := .type "tuple", data := .seq #[x1, x2] } := (sb.2 _ (Nat.ne_of_gt hzl)).trans hT
    have new : ObjOk X.prog X.w (upd H s.heap.objs.size (.tup [x, y])) h'' s.heap.objs.size (.tup [x, y]) :=
      ⟨by show 2 ≤ sizeLine; decide, [x1, x2], .cons ru (.cons ru2 .nil), ⟨_, hT2, rfl, _, rfl⟩⟩
    have I1 : L2.Inv X pins σ (upd H s.heap.objs.size (.tup [x, y])) { s with heap := h'', toks := tk } :=
      I.turnedNew (t' := tk) (ch := [z, TI, TO, i1, i2]) (fun c o hb q => by
        simp only [List.mem_cons, List.not_mem_nil, or_false, not_or] at hb
        obtain ⟨k1, k2, k3, k4, k5⟩ := hb
        exact (sb.2 c k1).trans (hk c o k1 k3 k4 k5 q)) hf (Nat.le_refl _) new
    refine ⟨.ref s.heap.objs.size, _, I1, rfl, ⟨_, x, y, rfl, I.hok.fresh (Nat.le_refl _), rfl, fun l hl => by rw [injK I hl hqx]; exact hx, fun l hl => by rw [injK I hl hqy]; exact hy⟩, ⟨z'', ?_, ⟨x1, x2, ?_⟩, ?_, ?_⟩, fun c hcm => ?_⟩
    · exact (sb.2 _ D.TIz).trans (hk _ _ D.TIz D.TITO D.TIi1 D.TIi2 hTI)
    · exact (sb.2 _ D.TOz).trans TO'
    · exact h1'.1.at fun o q => (sb.2 _ (fun e => D.zi1 e.symm)).trans q
    · exact h2'.1.at fun o q => (sb.2 _ (fun e => D.zi2 e.symm)).trans q
    · have hlt : c < s.heap.objs.size := by
        obtain ⟨o1, v1, g1, _⟩ := h1.get
        obtain ⟨o2, v2, g2, _⟩ := h2.get
        rcases mem5 hcm with rfl | rfl | rfl | rfl | rfl
        · exact hzl
        · exact Heap.lt_size hTI
        · exact Heap.lt_size hTO
        · exact Heap.lt_size g1
        · exact Heap.lt_size g2
      rw [upd_ne (Nat.ne_of_lt hlt)]
      exact (hf c hcm).1
  done := by
    intro X hP hw hK hc i pins s σ H E I hf st hg
    subst hP hw hK
    obtain ⟨hz, hTI, ⟨x0, y0, hTO⟩, h1, h2⟩ := st
    obtain ⟨xs, ys, hqx, hqy, k1, k2, hend⟩ := hg
    obtain ⟨its, rv, p, _⟩ := seqK I hqx
    obtain ⟨its2, rv2, p2, _⟩ := seqK I hqy
    have l1 : xs.length = its.toArray.size := by rw [List.size_toArray]; exact rv.length
    have l2 : ys.length = its2.toArray.size := by rw [List.size_toArray]; exact rv2.length
    have hh := I.ok.hd hc
    rw [l1] at k1 hend
    rw [l2] at k2 hend
    have D1 := drawsK (prog := X.prog) (w := X.w) (A := X.A.in1) hh b1 i1 a n1 its.toArray
    have D2 := drawsK (prog := X.prog) (w := X.w) (A := X.A.in1) hh b2 i2 b n2 its2.toArray
    exact wpAny_pyNext_zipD2_end D D1 D2 hz hTI hTO ⟨h1, p⟩ ⟨h2, p2⟩ k1 k2 hend fun h' tk hk => ⟨rfl, I.turnedL (t' := tk) (ch := [z, TI, TO, i1, i2]) (fun c o hb q => by
        simp only [List.mem_cons, List.not_mem_nil, or_false, not_or] at hb
        obtain ⟨k1, k2, k3, k4, k5⟩ := hb
        exact hk c o k1 k3 k4 k5 q) hf⟩
  self := fun A i s Q E st h => wpAny_pyIter_zip st.1 h
/-- zip(x, y), x and y lists or tuples that stand still -/
def iZipK (K : PySem.W.Frag) (ta : TA) : TI := fun σ H R => ta σ H fun vs H1 => ∃ b1 b2 a b xs ys, vs = [.ref a, .ref b] ∧ SqK K b1 H1 a xs ∧ SqK K b2 H1 b ys ∧ R (ItzK K b1 b2 a b) H1
theorem pi_zipK {X : Cx} {e e2 : Expr} {ta : TA} {p pos tpos : Pos} {elts : List Expr} {kk : Nat} (hg : Gl X "zip") (hm : X.mg "zip" = none) (ha : PA X [e, e2] ta)
    (hs : starEach [e, e2] X.env = (false, eval e X.env) :: starEach [e2] X.env := by rfl) (hpl : (backTo pos (starEach [e2] X.env)).any (·.1) = false := by rfl) :
    PI X (.Tuple elts kk tpos) (.Call (.Name "zip" p) [e, e2] [] pos) (iZipK X.K ta) := by
  refine ⟨fun pins s σ H R I h => ?_⟩
  refine Call_ (ld_blt I hg hm PyProof.Rows.boot_zip (PyProof.Rows.callWith_type1 (thn (ha.run pos pins s σ H _ I h) fun us s1 ⟨vs, H1, I1, r1, q1⟩ => ?_) hs hpl))
  obtain ⟨b1, b2, a, b, xs, ys, ex, hqx, hqy, q⟩ := q1
  subst ex
  obtain ⟨u1, u2, rfl, ra, rb⟩ := vals2 r1
  cases ra
  cases rb
  obtain ⟨its, rv, p1, la⟩ := seqK I1 hqx
  obtain ⟨its2, rv2, p2, lb⟩ := seqK I1 hqy
  refine zip_begins2 (beginsK b1 a its.toArray) (beginsK b2 b its2.toArray) p1 p2 fun h' hz hTI hTO h1 h2 hsz hk => wpAny_pyIter_zip hz ?_
  have I2 : L2.Inv X pins σ H1 { s1 with heap := h' } := I1.kept (t' := s1.toks) hk
  refine ⟨s1.heap.objs.size + 4, [s1.heap.objs.size + 4, s1.heap.objs.size + 2, s1.heap.objs.size + 3, s1.heap.objs.size, s1.heap.objs.size + 1], _, _, H1, rfl, I2, turnZ (zip_sep2 (fun c hc => by rw [List.mem_singleton.mp hc]; exact la) (fun c hc => by rw [List.mem_singleton.mp hc]; exact lb)) (Nat.ne_of_lt la) (Nat.ne_of_lt (Nat.lt_succ_of_lt lb)), ⟨hz, hTI, ⟨_, _, hTO⟩, .new h1, .new h2⟩, fun c hcm => ?_, q⟩
  have hle : s1.heap.objs.size ≤ c := by
    rcases mem5 hcm with rfl | rfl | rfl | rfl | rfl
    · exact Nat.le_add_right _ _
    · exact Nat.le_add_right _ _
    · exact Nat.le_add_right _ _
    · exact Nat.le_refl _
    · exact Nat.le_add_right _ _
  exact I1.fpOk hle (I1.hok.fresh hle)
/-! ### enumerate -/
theorem meetsEnum {v : Value} {o : Obj} {H : Heap → Prop} (B : Begins v o H) :
    Meets (Builtin.«enumerate.__new__» ⟨[.type "enumerate", v], []⟩) (fun _ R s => H s.heap ∧
      R (.ok (.ret (.ref (s.heap.push o).objs.size))) { s with heap := (s.heap.push o).push { cls := .type "enumerate", data := .fields #[.none, .bool false, .ref s.heap.objs.size, rawInt 0, .none, .none] } }) :=
  .of_wp fun prog w A R s h => by
    obtain ⟨hp, g, d, tk, os⟩ := s
    obtain ⟨h1, h⟩ := h
    have hsub := sub_enumerate
    have q1 : ∀ {A' : Around} {E : Value → Shared → Prop} {Q : Value → Shared → Prop}, Q (.ref hp.objs.size) ⟨hp.push o, g, d, tk, os⟩ → wpAny (model prog w) A' (pyIter v) Q E ⟨hp, g, d, tk, os⟩ :=
      fun q => B.iter prog w _ _ ⟨hp, g, d, tk, os⟩ _ h1 q
    wp_walk using q1
    refine wpAny_stack_any fun st => wpAny_pure ?_
    split
    · rename_i c _ _ _ _ _
      cases (c == Value.type "enumerate") <;> (wp_walk using q1; exact ⟨_, rfl, h⟩)
    · wp_walk using q1
      exact ⟨_, rfl, h⟩
theorem callEnum {prog : Program} {w : World} {A : Around} {E : Value → Shared → Prop} {s : Shared} {v : Value} {o : Obj} {H : Heap → Prop} {Q : Value → Shared → Prop} (B : Begins v o H) (h1 : H s.heap)
    (h : ∀ h', IsEnum h' (s.heap.objs.size + 1) s.heap.objs.size 0 .none → h'.get? s.heap.objs.size = some o → h'.objs.size = s.heap.objs.size + 2 →
      (∀ b o, s.heap.get? b = some o → h'.get? b = some o) → Q (.ref (s.heap.objs.size + 1)) { s with heap := h' }) :
    wpAny (model prog w) A (call (.type "enumerate") [v]) Q E s := by
  refine callType_new F.called_enumerate (by decide) (F.typeCall_enumerate_1 _) (F.newCall_enumerate_1 _) (fun obj => F.args_object_init_2 obj _) F.entry_enumerate_new (meetsEnum B) ⟨h1, ?_⟩
  have hz : (s.heap.push o).objs.size = s.heap.objs.size + 1 := Heap.size_push ..
  have he := Heap.get?_push_size (s.heap.push o) (o := { cls := .type "enumerate", data := .fields #[.none, .bool false, .ref s.heap.objs.size, rawInt 0, .none, .none] }) rfl
  rw [hz] at he
  show _ ∧ _
  rw [hz]
  exact ⟨⟨_, he, rfl⟩, h _ he (Heap.get?_push_of_some _ (Heap.get?_push_size _ B.free)) (by rw [Heap.size_push, hz]) fun b o x => Heap.get?_push_of_some _ (Heap.get?_push_of_some _ x)⟩
def IteK (K : PySem.W.Frag) (b : Bool) (a : Addr) : It :=
  ⟨fun i H => ∃ (xs : List V) (x : V), SqK K b H a xs ∧ xs[i]? = some x, fun i H v H' => ∃ T x, v = .ref T ∧ H T = none ∧ H' = upd H T (.tup [.int (i : Nat), x]) ∧ ∀ xs, SqK K b H a xs → xs[i]? = some x, fun i H => ∃ xs : List V, SqK K b H a xs ∧ i = xs.length⟩
theorem turnE {P : Program} {w : World} {K : PySem.W.Frag} {elts : List Expr} {kk : Nat} {tpos : Pos} {b : Bool} {a e it : Addr} (hne : e ≠ it) (na : a ≠ it) (ne : e ≠ a) :
    Turn P w K (.Tuple elts kk tpos) (IteK K b a) [e, it] e (fun i h => (∃ old, IsEnum h e it ((i : Nat) : Int) old) ∧ ItK b h it a i) where
  mem := by simp
  obj := fun i h st c hc => by
    obtain ⟨⟨old, he⟩, h1⟩ := st
    obtain ⟨o1, v1, e1, d1⟩ := h1.get
    have e' : c = e ∨ c = it := by simpa using hc
    rcases e' with rfl | rfl
    · exact ⟨_, he, fun v q => nomatch q⟩
    · exact ⟨o1, e1, fun v q => by rw [d1] at q; cases q⟩
  keep := fun i h h' st k => let ⟨⟨old, he⟩, h1⟩ := st; ⟨⟨old, k e (by simp) _ he⟩, h1.at fun o q => k it (by simp) o q⟩
  item := by
    intro X hP hw hK hc i pins s σ H E I hf st hg
    subst hP hw hK
    obtain ⟨⟨old, he⟩, h1⟩ := st
    obtain ⟨xs, x, hq, hx⟩ := hg
    obtain ⟨its, rv, p, _⟩ := seqK I hq
    obtain ⟨u, hu, ru⟩ := rv.get hx
    have hel : e < s.heap.objs.size := Heap.lt_size he
    have q1 : i < its.toArray.size := by rw [List.size_toArray, ← rv.length]; exact (List.getElem?_eq_some_iff.mp hx).1
    have D1 := drawsK (prog := X.prog) (w := X.w) (A := X.A.in1) (I.ok.hd hc) b it a na its.toArray
    refine wpAny_pyNext_enum_itemD D1 he ⟨h1, p⟩ q1 hne (by simp [hne, ne]) fun x1 h' tk e1 ho st' hT hsz hk => ?_
    obtain rfl : x1 = u := by
      have w1 : its.toArray[i]? = some u := by simpa using hu
      rw [w1] at e1
      exact (Option.some.inj e1).symm
    refine ⟨_, rfl, wpAny_letOwnedTupleGo_enum (s := { s with heap := h', toks := tk + 1 }) ho fun h'' he' sb => ?_⟩
    have hT2 : h''.get? s.heap.objs.size = some { cls := .type "tuple", data := .seq #[.int i tk, x1] } := (sb.2 _ (Nat.ne_of_gt hel)).trans hT
    have new : ObjOk X.prog X.w (upd H s.heap.objs.size (.tup [.int (i : Nat), x])) h'' s.heap.objs.size (.tup [.int (i : Nat), x]) :=
      ⟨by show 2 ≤ sizeLine; decide, [.int i tk, x1], .cons ⟨_, rfl⟩ (.cons ru .nil), ⟨_, hT2, rfl, _, rfl⟩⟩
    have I1 : L2.Inv X pins σ (upd H s.heap.objs.size (.tup [.int (i : Nat), x])) { s with heap := h'', toks := tk + 1 } :=
      I.turnedNew (t' := tk + 1) (ch := [e, it]) (fun c o hb q => by
        simp only [List.mem_cons, List.not_mem_nil, or_false, not_or] at hb
        exact (sb.2 c hb.1).trans (hk c o hb.1 hb.2 q)) hf (Nat.le_refl _) new
    refine ⟨.ref s.heap.objs.size, _, I1, rfl, ⟨_, x, rfl, I.hok.fresh (Nat.le_refl _), rfl, fun ys hy => by rw [injK I hy hq]; exact hx⟩, ⟨⟨x1, ?_⟩, st'.1.at fun o q => (sb.2 it (Ne.symm hne)).trans q⟩, fun c hcm => ?_⟩
    · have e1 : ((i + 1 : Nat) : Int) = (i : Int) + 1 := by omega
      rw [e1]
      exact he'
    · have hlt : c < s.heap.objs.size := by
        obtain ⟨o1, v1, g1, _⟩ := h1.get
        have e' : c = e ∨ c = it := by simpa using hcm
        rcases e' with rfl | rfl
        · exact hel
        · exact Heap.lt_size g1
      rw [upd_ne (Nat.ne_of_lt hlt)]
      exact (hf c hcm).1
  done := by
    intro X hP hw hK hc i pins s σ H E I hf st hg
    subst hP hw hK
    obtain ⟨⟨old, he⟩, h1⟩ := st
    obtain ⟨xs, hq, hx⟩ := hg
    obtain ⟨its, rv, p, _⟩ := seqK I hq
    obtain ⟨f0, f1, f2, f3, f4, f5⟩ := hf it (by simp)
    have l1 : xs.length = its.toArray.size := by rw [List.size_toArray]; exact rv.length
    rw [l1] at hx
    subst hx
    have D1 := drawsK (prog := X.prog) (w := X.w) (A := X.A.in1) (I.ok.hd hc) b it a na its.toArray
    exact wpAny_pyNext_enum_endD D1 he ⟨h1, p⟩ fun h' eb => ⟨rfl, I.turned (t' := s.toks) (fun b o hb q => eb b o hb q) f0 f1 f3 f4 f5⟩
  self := fun A i s Q E st h => let ⟨⟨_, he⟩, _⟩ := st; wpAny_pyIter_enum he h
def iEnumK (K : PySem.W.Frag) (ta : TA) : TI := fun σ H R => ta σ H fun vs H1 => ∃ b a xs, vs = [.ref a] ∧ SqK K b H1 a xs ∧ R (IteK K b a) H1
theorem pi_enumK {X : Cx} {e : Expr} {ta : TA} {p pos tpos : Pos} {elts : List Expr} {kk : Nat} (hg : Gl X "enumerate") (hm : X.mg "enumerate" = none) (ha : PA X [e] ta) (hs : starEach [e] X.env = [(false, eval e X.env)] := by rfl) :
    PI X (.Tuple elts kk tpos) (.Call (.Name "enumerate" p) [e] [] pos) (iEnumK X.K ta) := by
  refine ⟨fun pins s σ H R I h => ?_⟩
  refine Call_ (ld_blt I hg hm boot_enumerate (PyProof.Rows.callWith_type1 (thn (ha.run pos pins s σ H _ I h) fun us s1 ⟨vs, H1, I1, r1, q1⟩ => ?_) hs rfl))
  obtain ⟨b, a, xs, ex, hq, q⟩ := q1
  subst ex
  obtain ⟨u, rfl, ra⟩ := vals1 r1
  cases ra
  obtain ⟨its, rv, p1, la⟩ := seqK I1 hq
  refine callEnum (beginsK b a its.toArray) p1 fun h' he h1 hsz hk => wpAny_pyIter_enum he ?_
  have I2 : L2.Inv X pins σ H1 { s1 with heap := h' } := I1.kept (t' := s1.toks) hk
  refine ⟨s1.heap.objs.size + 1, [s1.heap.objs.size + 1, s1.heap.objs.size], _, _, H1, rfl, I2, turnE (Nat.succ_ne_self _) (Nat.ne_of_lt la) (Nat.ne_of_gt (Nat.lt_succ_of_lt la)), ⟨⟨.none, he⟩, .new h1⟩, fun c hcm => ?_, q⟩
  have hle : s1.heap.objs.size ≤ c := by
    have e' : c = s1.heap.objs.size + 1 ∨ c = s1.heap.objs.size := by simpa using hcm
    rcases e' with rfl | rfl
    · exact Nat.le_add_right _ _
    · exact Nat.le_refl _
  exact I1.fpOk hle (I1.hok.fresh hle)
end G
set_option Elab.async false
set_option linter.all false
set_option maxRecDepth 100000
namespace G
open PySem PySem.Spec PyProof.Rows L2 Evl
section
variable {K : PySem.W.Frag} {F H H' H0 : Hp} {M : List Addr} {δ δ' : Env} {μ μ' μ'' : Sto} {σ : L2.St} {ta tb te tl : TE} {t u : TT} {d e : DV} {ds es : List DV} {i j : Nat} {D : L2.Ends} {tu tw : TS} {tr : TA}
theorem Seq.rep {v : V} (r : Rp K H v d) (sq : Seq d ds) : ∃ b a vs, v = .ref a ∧ SqK K b H a vs ∧ RpAll K H vs ds := by
  cases sq with
  | lst => cases r with | lst h1 h2 => exact ⟨false, _, _, rfl, h1, h2⟩
  | tup => cases r with | tup h1 h2 => exact ⟨true, _, _, rfl, h1, h2⟩
theorem SqK.ext {b : Bool} {a : Addr} {vs : List V} (e : Ex H H') (h : SqK K b H a vs) : SqK K b H' a vs := by
  cases b with
  | false => exact ex_l e h
  | true => exact ex_t e h
theorem walkZ {b1 b2 : Bool} {a b : Addr} {xs ys : List V} {n : Nat} (hn : n = min xs.length ys.length) : L2.Walk (ItzK K b1 b2 a b) n (fun H => SqK K b1 H a xs ∧ SqK K b2 H b ys) (YPair (fun i => xs[i]?) (fun i => ys[i]?)) where
  goes := fun i H hi q => ⟨xs, ys, xs[i]'(by omega), ys[i]'(by omega), q.1, q.2, List.getElem?_eq_getElem (by omega), List.getElem?_eq_getElem (by omega)⟩
  stops := fun H q => ⟨xs, ys, q.1, q.2, by omega, by omega, by omega⟩
  yields := fun i H v H' hi q y => by
    obtain ⟨T, x, y, h1, h2, h3, h4, h5⟩ := y
    exact ⟨T, x, y, h1, h2, h3, h4 _ q.1, h5 _ q.2⟩
theorem walkE {b : Bool} {a : Addr} {xs : List V} : L2.Walk (IteK K b a) xs.length (fun H => SqK K b H a xs) (YPair (fun i => some (.int (i : Nat))) (fun i => xs[i]?)) where
  goes := fun i H hi q => ⟨xs, xs[i], q, List.getElem?_eq_getElem hi⟩
  stops := fun H q => ⟨xs, q, rfl⟩
  yields := fun i H v H' hi q y => by
    obtain ⟨T, x, h1, h2, h3, h4⟩ := y
    exact ⟨T, .int (i : Nat), x, h1, h2, h3, rfl, h4 _ q⟩
theorem wx_zip {j1 j2 : Nat} {n : Nat} (h : AX K tr δ μ μ' [d, e]) (sd : Seq d ds) (se : Seq e es) (hn : n = min ds.length es.length) :
    WX K (iZipK K tr) (gTup K 2 (gCons (gName j1) (gCons (gName j2) gNil))) δ μ μ' n [j1, j2] (fun i δ => (δ.set j1 (some (ds.getD i .non))).set j2 (some (es.getD i .non))) := fun F M σ H s R r =>
  h F M σ H s _ fun vs H1 e1 s1 r1 => by
    cases r1 with
    | cons x y =>
      cases y with
      | cons y z =>
        cases z
        obtain ⟨b1, a1, v1, rfl, q1, p1⟩ := sd.rep x
        obtain ⟨b2, a2, v2, rfl, q2, p2⟩ := se.rep y
        have l1 := p1.length
        have l2 := p2.length
        refine ⟨b1, b2, a1, a2, v1, v2, rfl, q1.ext hid_sub, q2.ext hid_sub, r _ H1 e1 s1 (turns_pair (walkZ (by rw [hn, l1, l2])) (fun H M e => ⟨q1.ext (e.trans hid_sub), q2.ext (e.trans hid_sub)⟩) (fun i x _ hx => ?_) fun i x _ hx => ?_)⟩
        · obtain ⟨d, hd, rd⟩ := p1.get' hx
          rw [List.getD_eq_getElem?_getD, hd]
          exact rd
        · obtain ⟨d, hd, rd⟩ := p2.get' hx
          rw [List.getD_eq_getElem?_getD, hd]
          exact rd
theorem wx_enumK {j1 j2 : Nat} (h : AX K tr δ μ μ' [d]) (sd : Seq d ds) :
    WX K (iEnumK K tr) (gTup K 2 (gCons (gName j1) (gCons (gName j2) gNil))) δ μ μ' ds.length [j1, j2] (fun i δ => (δ.set j1 (some (.int (i : Nat)))).set j2 (some (ds.getD i .non))) := fun F M σ H s R r =>
  h F M σ H s _ fun vs H1 e1 s1 r1 => by
    cases r1 with
    | cons x z =>
      cases z
      obtain ⟨b1, a1, v1, rfl, q1, p1⟩ := sd.rep x
      refine ⟨b1, a1, v1, rfl, q1.ext hid_sub, r _ H1 e1 s1 ?_⟩
      rw [← p1.length]
      refine turns_pair walkE (fun H M e => q1.ext (e.trans hid_sub)) (fun i x _ hx => ?_) fun i x _ hx => ?_
      · cases hx
        exact .int _
      · obtain ⟨d, hd, rd⟩ := p1.get' hx
        rw [List.getD_eq_getElem?_getD, hd]
        exact rd
/-! ### operators of own classes -/
variable {C : Addr} {fs gs : List (Str × DV)} {R : List DV → DV → Prop} {E : XK}
theorem ex_ownB (ha : EX K ta δ μ μ' (.ins C fs)) (hb : EX K tb δ μ' μ'' (.ins C gs)) (h : R [.ins C fs, .ins C gs] d) : EX K (tOp (rOwnB C (spD K R) E) ta tb) δ μ μ'' d := fun F M σ H s Q q =>
  ha F M σ H s _ fun v H1 e1 s1 r1 => hb F M σ H1 s1 _ fun w H2 e2 s2 r2 => by
    have r1' := r1.mono e2
    have rr : RpAll K (hid M H2) [v, w] [.ins C fs, .ins C gs] := .cons r1' (.cons r2 .nil)
    cases r1' with
    | ins h1 h2 =>
      cases r2 with
      | ins k1 k2 => exact ⟨_, _, _, _, _, _, rfl, rfl, hid_sub _ _ h1, hid_sub _ _ k1, M, _, d, s2.al, rr, h, fun v H3 e3 r => q v H3 ((e1.trans e2).trans (hid_mono e3)) (s2.mono e3) r⟩
theorem ex_ownE {b : Bool} {w : Value} (ha : EX K ta δ μ μ' (.ins C fs)) (hb : EX K tb δ μ' μ'' e) (ty : TyD K e w) (hn : PySem.W.notFirst K C w = true) (h : R [.ins C fs, e] (.bl b)) : EX K (tOp (rOwnE K C (spD K R) E) ta tb) δ μ μ'' (.bl b) := fun F M σ H s Q q =>
  ha F M σ H s _ fun v H1 e1 s1 r1 => hb F M σ H1 s1 _ fun w' H2 e2 s2 r2 => by
    have r1' := r1.mono e2
    have rr : RpAll K (hid M H2) [v, w'] [.ins C fs, e] := .cons r1' (.cons r2 .nil)
    cases r1' with
    | ins h1 h2 => exact ⟨_, _, _, w, rfl, hid_sub _ _ h1, ty.x (r2.mono hid_sub), hn, M, _, .bl b, s2.al, rr, h, fun v H3 e3 r => q v H3 ((e1.trans e2).trans (hid_mono e3)) (s2.mono e3) r⟩
theorem ex_ownN {b : Bool} {w : Value} (ha : EX K ta δ μ μ' (.ins C fs)) (hb : EX K tb δ μ' μ'' e) (ty : TyD K e w) (hn : PySem.W.notFirst K C w = true) (h : R [.ins C fs, e] (.bl b)) : EX K (tOp (rOwnN K C (spD K R) E) ta tb) δ μ μ'' (.bl (!b)) := fun F M σ H s Q q =>
  ha F M σ H s _ fun v H1 e1 s1 r1 => hb F M σ H1 s1 _ fun w' H2 e2 s2 r2 => by
    have r1' := r1.mono e2
    have rr : RpAll K (hid M H2) [v, w'] [.ins C fs, e] := .cons r1' (.cons r2 .nil)
    cases r1' with
    | ins h1 h2 =>
      refine ⟨_, _, _, w, rfl, hid_sub _ _ h1, ty.x (r2.mono hid_sub), hn, M, _, .bl b, s2.al, rr, h, fun v H3 e3 r => ?_⟩
      cases r
      exact ⟨b, rfl, q _ H3 ((e1.trans e2).trans (hid_mono e3)) (s2.mono e3) (.bl _)⟩
theorem ex_ownU (ha : EX K ta δ μ μ' (.ins C fs)) (h : R [.ins C fs] d) : EX K (tUn (fun x H Q => ∃ a dx fs, x = .ref a ∧ H a = some (.ins C dx fs) ∧ spD K R [x] H Q E) ta) δ μ μ' d := fun F M σ H s Q q =>
  ha F M σ H s _ fun v H1 e1 s1 r1 => by
    have rr : RpAll K (hid M H1) [v] [.ins C fs] := .cons r1 .nil
    cases r1 with
    | ins h1 h2 => exact ⟨_, _, _, rfl, hid_sub _ _ h1, M, _, d, s1.al, rr, h, fun v H3 e3 r => q v H3 (e1.trans (hid_mono e3)) (s1.mono e3) r⟩
theorem ex_lenOwn {n : Nat} (ha : EX K ta δ μ μ' (.ins C fs)) (hn : n < 2 ^ 63) (h : R [.ins C fs] (.int n)) : EX K (tCB (rLenOwn C (spD K R) E) (tCons ta tNil)) δ μ μ' (.int n) := fun F M σ H s Q q =>
  ha F M σ H s _ fun v H1 e1 s1 r1 => by
    have rr : RpAll K (hid M H1) [v] [.ins C fs] := .cons r1 .nil
    cases r1 with
    | ins h1 h2 =>
      refine ⟨_, _, _, rfl, hid_sub _ _ h1, M, _, .int n, s1.al, rr, h, fun v H3 e3 r => ?_⟩
      cases r
      exact ⟨n, rfl, ⟨by omega, by omega⟩, q _ H3 (e1.trans (hid_mono e3)) (s1.mono e3) (.int _)⟩
/-! ### __init__ -/
theorem RpF.app1 {fs : List (Str × V)} {gs : List (Str × DV)} {f : Str} {v : V} (r : RpF K H fs gs) (hf : gs.lookup f = none) (q : Rp K H v d) : RpF K H (putF f v fs) (gs ++ [(f, d)]) := by
  induction gs generalizing fs with
  | nil =>
    cases r
    exact .cons q .nil
  | cons g gs ih =>
    cases r with
    | @cons n v' vs d' ds r t =>
      rw [List.lookup_cons] at hf
      cases hb : (f == n) with
      | true => rw [hb] at hf; cases hf
      | false =>
        rw [hb] at hf
        have e : (n == f) = false := by
          rw [beq_eq_false_iff_ne] at hb ⊢
          exact fun z => hb z.symm
        have hne : n ≠ f := by rw [← beq_eq_false_iff_ne]; exact e
        have z : putF f v ((n, v') :: vs) = (n, v') :: putF f v vs := if_neg hne
        rw [z]
        exact .cons r (ih t hf)
/-- self.f = e in __init__ -/
theorem x_fldI {x dx : Addr} {f : Str} {fv : List (Str × V)} (s : Sta K (upd F x (.ins C dx fv)) M δ μ σ H) (rf : RpF K (hid M H) fv fs) (hx : x ∈ M) (hF : F x = none) (hm : ∀ p ∈ μ', p.1 ≠ x) (hv : EX K te δ μ μ' d) (ho : EX K ta δ μ' μ' (.box x)) (c : Cls K C) (n : NoAttr K C f) (hl : fs.length < 1000) (hf : fs.lookup f = none)
    (k : ∀ fv' H', Sta K (upd F x (.ins C dx fv')) M δ μ' σ H' → RpF K (hid M H') fv' (fs ++ [(f, d)]) → D.nx σ H') : sFld K ta te f D σ H :=
  hv _ M σ H s _ fun v H1 e1 s1 r1 => ho _ M σ H1 s1 _ fun w H2 e2 s2 r2 => by
    cases r2
    have hxx : H2 x = some (.ins C dx fv) := s2.fr x _ upd_same
    have rf2 := rf.mono (e1.trans e2)
    have hlen : fv.length = fs.length := by
      clear k hf hl s s1 s2 hxx rf2
      induction fs generalizing fv with
      | nil => cases rf; rfl
      | cons g gs ih => cases rf with | cons r t => simp [ih t]
    have hx2 : Ex (hid M H2) (hid M (upd H2 x (.ins C dx (putF f v fv)))) := fun a o q => by
      have hn := hid_no q
      exact hid_get hn (by rw [upd_ne (fun e => hn (by rw [e]; exact hx))]; exact hid_sub _ _ q)
    refine ⟨x, C, dx, fv, rfl, hxx, c, n, by rw [hlen]; exact hl, k (putF f v fv) _ ⟨fun a ha => ?_, fun a o q => ?_, fun p hp => ?_, s2.nd, fun p hp => ?_, fun i d h => ?_, s2.len⟩ ((rf2.mono hx2).app1 hf ((r1.mono e2).mono hx2))⟩
    · by_cases e : a = x
      · rw [e, upd_same]; simp
      · rw [upd_ne e]; exact s2.al a ha
    · by_cases e : a = x
      · subst e
        rw [upd_same] at q ⊢
        exact q
      · rw [upd_ne e] at q ⊢
        exact s2.fr a o (by rw [upd_ne e]; exact q)
    · obtain ⟨p1, p2⟩ := s2.dm p hp
      refine ⟨p1, ?_⟩
      rw [upd_ne (hm p hp)] at p2 ⊢
      exact p2
    · obtain ⟨vs, g1, g2⟩ := s2.sto p hp
      exact ⟨vs, by rw [upd_ne (hm p hp)]; exact g1, g2.mono hx2⟩
    · obtain ⟨v, g1, g2⟩ := s2.env i d h
      exact ⟨v, g1, g2.mono hx2⟩
theorem initCore {N : List Str} {vs : List V} {Q : VK} {E : XK} {R : List DV → List (Str × DV) → Prop} (h : spI K C R vs H Q E) : ∃ M x dx ds fs, R ds fs ∧ x ∈ M ∧ (hid [x] H) x = none ∧ Sta K (upd (hid [x] H) x (.ins C dx [])) M (startD N.length (.box x :: ds)) [] (L2.start N vs) H ∧
    ∀ δ σ' H' fv, Sta K (upd (hid [x] H) x (.ins C dx fv)) M δ [] σ' H' → RpF K (hid M H') fv fs → Q .non H' := by
  obtain ⟨M, x, dx, ws, ds, fs, rfl, hx, hxM, al, ra, hR, k⟩ := h
  have st : Sta K (upd (hid [x] H) x (.ins C dx [])) (x :: M) (startD N.length (.box x :: ds)) [] (L2.start N (.ref x :: ws)) H := by
    refine ⟨fun a ha => ?_, fun a o q => ?_, fun p hp => (nomatch hp), by simp, fun p hp => (nomatch hp), envAll (.cons (.box x) ra), by unfold L2.start startD; simp [ra.length]⟩
    · rcases List.mem_cons.mp ha with rfl | ha
      · rw [hx]; simp
      · exact al a ha
    · by_cases e : a = x
      · subst e
        rw [upd_same] at q
        rw [hx, q]
      · rw [upd_ne e] at q
        exact hid_sub _ _ q
  exact ⟨x :: M, x, dx, ds, fs, hR, by simp, by unfold hid; simp, st, fun δ σ' H' fv s rf =>
    k H' fv (fun a o hne q => s.fr a o (by rw [upd_ne hne]; exact hid_get (by simp [hne]) q)) (s.fr x _ upd_same) rf⟩
end
section
variable {K : PySem.W.Frag} {P : Program} {w : World} {mg : Str → Option Value} {base : Heap} {C : Addr}
theorem okI {x qual : Str} {params : Arguments} {body : List Stmt} {scope : Scope} {dvs : List V} {kws : List (Str × V)} {f : Addr} {fd : FuncData} {N ps : List Str} {k : Nat} {R : List DV → List (Str × DV) → Prop} (Fn : FunD K x qual params body scope dvs kws f fd) (S : FnScope N ps scope) (len : ∀ ds r, R ds r → ds.length + 1 = ps.length)
    (hbody : ∀ (cdv : Value) (A : Around) (outer : List PySem.Env) (s : Shared) (H : Hp) (E : XK), Room k (A.deeper (envOfC qual scope s.heap.objs.size f cdv)) →
      ∃ t, PSs (cxOf CX0 P w K mg base N qual scope f cdv A outer s H E).nox body t ∧ ∀ F M x dx ds fs σ H1 D, R ds fs → x ∈ M → F x = none → Sta K (upd F x (.ins C dx [])) M (startD N.length (.box x :: ds)) [] σ H1 →
        (∀ δ σ' H' fv, Sta K (upd F x (.ins C dx fv)) M δ [] σ' H' → RpF K (hid M H') fv fs → D.nx σ' H') → t D σ H1) : FnOk P w K mg base CX0 (k + 1) f fd ps (spI K C R) := by
  refine Fn.ok S (fun vs H Q E ⟨M, x, dx, ws, ds, fs, e, _, _, _, h1, h2, _⟩ => by rw [e, List.length_cons, h1.length]; exact len _ _ h2) fun cdv A outer s H vs Q E hr h => ?_
  obtain ⟨M, x, dx, ds, fs, hR, hx, h0, st, kq⟩ := initCore (N := N) h
  obtain ⟨t, h1, h2⟩ := hbody cdv A outer s H E hr
  exact ⟨t, h1.nox, h2 _ M x dx ds fs _ H _ hR hx h0 st kq⟩
end
end G
set_option Elab.async false
set_option linter.all false
set_option maxRecDepth 100000
namespace G
open PySem PySem.Spec PyProof.Rows L2 Evl
/-! ### promises under their names -/
theorem room_div {k : Nat} {A : Around} (hr : Room k A) (h : 40 ≤ k) : A.depth + 100 < recursionLimit := by
  have := hr.dp
  have e : recursionLimit = 1000 := by first | rfl | decide
  omega
structure CalG (P : Program) (w : World) (K : PySem.W.Frag) (mg : Str → Option Value) (base : Heap) (k : Nat) (x : Str) (sp : Sp) (dvs : List V) : Prop where
  ex : ∃ (f : Addr) (fd : FuncData) (ps : List Str) (ds : List Value), FnOk P w K mg base CX0 k f fd ps sp ∧ mg x = some (.ref f) ∧ PySem.W.keepIn K (.ref f) = true ∧ Binds K fd ps ds ∧ Vals dvs ds
structure MetG (P : Program) (w : World) (K : PySem.W.Frag) (mg : Str → Option Value) (base : Heap) (k : Nat) (C : Addr) (m : Str) (sp : Sp) : Prop where
  ex : ∃ (f : Addr) (fd : FuncData) (ps : List Str), Cls K C ∧ Meth K C m f ∧ FnOk P w K mg base CX0 k f fd ps sp ∧ Binds K fd ps []
structure MakG (P : Program) (w : World) (K : PySem.W.Frag) (mg : Str → Option Value) (base : Heap) (k : Nat) (x : Str) (C : Addr) (sp : Sp) (dvs : List V) : Prop where
  ex : ∃ (f : Addr) (fd : FuncData) (ps : List Str) (ds : List Value), Mk K C f ∧ FnOk P w K mg base CX0 k f fd ps sp ∧ mg x = some (.ref C) ∧ Binds K fd ps ds ∧ Vals dvs ds
section
variable {X : Cx} {k j : Nat} {C : Addr} {x m : Str} {sp : Sp} {dvs : List V} {p pos apos : Pos} {e o : Expr} {es : List Expr} {ta : TE} {t : TA}
theorem pe_cG (c : CalG X.prog X.w X.K X.mg X.base k x sp dvs) (hr : Room j X.A) (hk : k ≤ j) (hg : Gl X x) (ha : PA X (e :: es) t)
    (hdb : (x == ("__debug__" : Str)) = false := by decide) (he : starEach (e :: es) X.env = (false, eval e X.env) :: starEach es X.env := by rfl) (hpl : (backTo pos (starEach es X.env)).any (·.1) = false := by rfl) :
    PE X (.Call (.Name x p) (e :: es) [] pos) (tCall sp dvs E0 t) := by
  obtain ⟨f, fd, ps, ds, F, hm, kp, b, d⟩ := c.ex
  exact pe_call F (hr.mono hk) hg hm kp b d pass0 ha hdb he hpl
theorem pe_mkG (c : MakG X.prog X.w X.K X.mg X.base k x C sp dvs) (hr : Room j X.A) (hk : k + 1 ≤ j) (hg : Gl X x) (ha : PA X (e :: es) t)
    (hdb : (x == ("__debug__" : Str)) = false := by decide) (he : starEach (e :: es) X.env = (false, eval e X.env) :: starEach es X.env := by rfl) (hpl : (backTo pos (starEach es X.env)).any (·.1) = false := by rfl) :
    PE X (.Call (.Name x p) (e :: es) [] pos) (tMake C sp dvs E0 t) := by
  obtain ⟨f, fd, ps, ds, M, F, hm, b, d⟩ := c.ex
  exact pe_make M F (hr.mono hk) hg hm b d pass0 ha hdb he hpl
theorem pe_mtG {pl : Sem Bool} (c : MetG X.prog X.w X.K X.mg X.base k C m sp) (hr : Room j X.A) (hk : k ≤ j) (he : PE X o ta) (ha : PA X (e :: es) t)
    (hst : starEach (e :: es) X.env = (false, eval e X.env) :: starEach es X.env := by rfl) (hpl : (backTo pos (starEach es X.env)).any (·.1) = false := by rfl)
    (ht : eval (.Call (.Attribute o m apos) (e :: es) [] pos) X.env = (do
      let ov ← eval o X.env
      standAt apos.atName
      let (f, first) ← holding [ov] (getMethod ov m pl)
      callWith pos f first (backTo pos (starEach (e :: es) X.env)) (backToKw pos (keywordEach [] X.env))) := by rfl) :
    PE X (.Call (.Attribute o m apos) (e :: es) [] pos) (tMeth C m sp [] E0 ta t) := by
  obtain ⟨f, fd, ps, hc, hm, F, b⟩ := c.ex
  exact pe_meth (pl := pl) he hc hm F (hr.mono hk) b .nil pass0 ha hst hpl ht
theorem pe_mtG0 {pl : Sem Bool} (c : MetG X.prog X.w X.K X.mg X.base k C m sp) (hr : Room j X.A) (hk : k ≤ j) (he : PE X o ta)
    (ht : eval (.Call (.Attribute o m apos) [] [] pos) X.env = (do
      let ov ← eval o X.env
      standAt apos.atName
      let (f, first) ← holding [ov] (getMethod ov m pl)
      callWith pos f first (backTo pos (starEach [] X.env)) (backToKw pos (keywordEach [] X.env))) := by rfl) :
    PE X (.Call (.Attribute o m apos) [] [] pos) (tMeth C m sp [] E0 ta tNil) := by
  obtain ⟨f, fd, ps, hc, hm, F, b⟩ := c.ex
  exact pe_meth0 (pl := pl) he hc hm F (hr.mono hk) b .nil pass0 ht
theorem opB {op : Operator} (hc : PySem.W.selfFirst X.K C = true) (c : MetG X.prog X.w X.K X.mg X.base k C (PySem.dunder op.info.2) sp) (hr : Room j X.A) (hk : k ≤ j) : OpR X (binaryOp op) (rOwnB C sp E0) := by
  obtain ⟨f, fd, ps, _, hm, F, b⟩ := c.ex
  exact op_ownB hc hm.at_ hm.fn F (hr.mono hk) b pass0
theorem opE (c : MetG X.prog X.w X.K X.mg X.base k C "__eq__" sp) (hr : Room j X.A) (hk : k ≤ j) : OpR X (compareOp .Eq) (rOwnE X.K C sp E0) := by
  obtain ⟨f, fd, ps, _, hm, F, b⟩ := c.ex
  exact op_ownE hm.at_ hm.fn F (hr.mono hk) b pass0
theorem opN (c : MetG X.prog X.w X.K X.mg X.base k C "__eq__" sp) (o : PySem.W.mroIn X.K C (.type "object") = some true) (hne : PySem.W.findIn X.K (.ref C) "__ne__" = some (some (.builtin "object.__ne__"))) (hr : Room j X.A) (hk : k + 1 ≤ j) : OpR X (compareOp .NotEq) (rOwnN X.K C sp E0) := by
  obtain ⟨f, fd, ps, _, hm, F, b⟩ := c.ex
  exact op_ownN o hne hm.at_ hm.fn F (hr.mono hk) b fun _ _ _ _ z => z.elim
theorem opU (c : MetG X.prog X.w X.K X.mg X.base k C "__neg__" sp) (hr : Room j X.A) (hk : k ≤ j) : UnR X (unaryOp .USub) (fun x H Q => ∃ a dx fs, x = .ref a ∧ H a = some (.ins C dx fs) ∧ sp [x] H Q E0) := by
  obtain ⟨f, fd, ps, _, hm, F, b⟩ := c.ex
  exact un_own hm.at_ hm.fn F (hr.mono hk) b pass0
theorem lenG (c : MetG X.prog X.w X.K X.mg X.base k C "__len__" sp) (hr : Room j X.A) (hk : k + 1 ≤ j) : CallR X (.builtin "len") (rLenOwn C sp E0) := by
  obtain ⟨f, fd, ps, _, hm, F, b⟩ := c.ex
  exact call_lenOwn hm.at_ hm.fn F (hr.mono hk) b fun _ _ _ _ z => z.elim
theorem op_div {j : Nat} (sr : X.base.NoSeer) (tr : X.prog.given.tree = none) (hr : Room j X.A) (hk : 40 ≤ j) (st : PlainTop X.stack) : OpR X (binaryOp .FloorDiv) (rI CNz fun i j => .int (i.fdiv j)) := op_fdivB sr tr (room_div hr hk) st
end
/-- a class of the program as its instances are asked -/
structure ClsG (K : PySem.W.Frag) (C : Addr) : Prop where
  own : OwnC K C
  sf : PySem.W.selfFirst K C = true
  ne : PySem.W.findIn K (.ref C) "__ne__" = some (some (.builtin "object.__ne__"))
theorem ClsG.nf {K : PySem.W.Frag} {C : Addr} (c : ClsG K C) : PySem.W.notFirst K C (.ref C) = true := by
  unfold PySem.W.notFirst
  simp
end G
set_option Elab.async false
set_option linter.all false
set_option maxRecDepth 100000
namespace G
open PySem PySem.Spec PyProof.Rows L2 Evl
section
variable {K : PySem.W.Frag} {F H H' H0 : Hp} {M : List Addr} {δ δ' : Env} {μ μ' μ'' : Sto} {σ : L2.St} {ta tb te tl : TE} {t u : TT} {d e : DV} {ds es : List DV} {i j : Nat} {D : L2.Ends} {tu tw : TS} {tr : TA}
/-- a loop by an invariant; the hidden addresses may grow -/
def NewIn (F : Hp) (M M1 : List Addr) : Prop := (∀ a ∈ M, a ∈ M1) ∧ ∀ a ∈ M1, a ∈ M ∨ F a = none
theorem NewIn.refl : NewIn F M M := ⟨fun _ h => h, fun _ h => .inl h⟩
theorem NewIn.cons {p : Addr} {M1 : List Addr} (h : NewIn F M M1) (hp : F p = none) : NewIn F M (p :: M1) :=
  ⟨fun a ha => List.mem_cons_of_mem _ (h.1 a ha), fun a ha => (List.mem_cons.mp ha).elim (fun e => .inr (by rw [e]; exact hp)) fun ha => h.2 a ha⟩
def Nxt (K : PySem.W.Frag) (F : Hp) (M : List Addr) (I : List Addr → Env → Sto → Prop) (σ : L2.St) (H : Hp) : Prop := ∃ M2 δ2 μ2, I M2 δ2 μ2 ∧ NewIn F M M2 ∧ Sta K F M2 δ2 μ2 σ H
theorem x_forP {wi : TI} {g : TG} {js : List Nat} {n : Nat} {b : Nat → Env → Env} (I : Nat → List Addr → Env → Sto → Prop) (s : Sta K F M δ μ σ H) (w : WX K wi g δ μ μ' n js b) (h0 : I 0 M δ μ')
    (turn : ∀ F1 i M1 δ1 μ1 σ' H', Ex F F1 → i < n → I i M1 δ1 μ1 → NewIn F1 M M1 → Sta K F1 M1 (b i δ1) μ1 σ' H' → tu { D with nx := Nxt K F1 M (I (i + 1)), ct := Nxt K F1 M (I (i + 1)), bk := D.nx } σ' H')
    (done : ∀ M1 δ1 μ1 σ' H', I n M1 δ1 μ1 → NewIn F M M1 → Sta K F M1 δ1 μ1 σ' H' → D.nx σ' H') : tFor wi g tu D σ H :=
  w F M σ H s _ fun J H1 e1 s1 T => by
    obtain ⟨s1w, eF, eB⟩ := s1.widen
    generalize hid (μ'.map Prod.fst) H1 = F1 at s1w eF eB
    have back : ∀ {M1 : List Addr}, NewIn F1 M M1 → ∀ a o, hid M H1 a = some o → a ∉ M1 := fun {M1} h a o q hm => by
      rcases h.2 a hm with z | z
      · exact hid_no q z
      · rw [eB a o q] at z; cases z
    have nar : ∀ {M1 : List Addr}, NewIn F1 M M1 → NewIn F M M1 := fun {M1} h => ⟨h.1, fun a ha => (h.2 a ha).imp id fun z => by
      cases q : F a with
      | none => rfl
      | some o => rw [eF a o q] at z; cases z⟩
    refine ⟨fun i m σ2 H2 => m = n - i ∧ i ≤ n ∧ Nxt K F1 M (I i) σ2 H2, ⟨n, by simp, Nat.zero_le _, M, δ, μ', h0, .refl, s1w⟩, ?_⟩
    rintro i m σ2 H2 ⟨rfl, hi, M2, δ2, μ2, i2, n2, s2⟩
    have ed : Ex (hid M H1) (hid M2 H2) := s2.data eB (back n2)
    by_cases hlt : i < n
    · refine .inr ⟨T.go i H2 _ ed hlt, Nxt K F1 M (I (i + 1)), fun σ3 H3 s3 => ⟨n - (i + 1), by omega, rfl, hlt, s3⟩, fun x H3 y => ?_⟩
      exact T.bind i H2 x H3 _ _ _ _ _ hlt ed s2 y _ fun σ3 _ s3 _ _ => turn F1 i M2 δ2 μ2 σ3 H3 eF hlt i2 n2 s3
    · have e : i = n := by omega
      subst e
      exact .inl ⟨T.stop H2 _ ed, done M2 δ2 μ2 σ2 H2 i2 (nar n2) (s2.narrow eF)⟩
/-- the next turn -/
theorem nxt {I : List Addr → Env → Sto → Prop} {M1 : List Addr} (s : Sta K F M1 δ μ σ H) (n : NewIn F M M1) (h : I M1 δ μ) : Nxt K F M I σ H := ⟨M1, δ, μ, h, n, s⟩
/-! ### lists of lists that are changed -/
/-- xs.append([..]), the new list a mutable one -/
theorem x_appL {l : Addr} (s : Sta K F M δ μ σ H) (ha : EX K ta δ μ μ (.box l)) (h : LX K te δ μ μ' ds) (h0 : μ[j]? = some (l, es)) (hj : μ'[j]? = some (l, es)) (hz : es.length < 100000)
    (k : ∀ p H', F p = none → p ∉ M → Sta K F (p :: M) δ ((p, ds) :: μ'.set j (l, es ++ [.box p])) σ H' → D.nx σ H') : tDrop (tBM K "list" rAppend ta (tCons te tNil)) D σ H :=
  ha F M σ H s _ fun v H1 e1 s1 r1 => by
    cases r1
    obtain ⟨xs, g1, _⟩ := s1.sto _ (List.mem_of_getElem? h0)
    refine ⟨.inl ⟨rfl, xs, sq_of g1⟩, h F M σ H1 s1 _ fun p H2 hp hpM e2 s2 => ?_⟩
    have hj2 : ((p, ds) :: μ')[j + 1]? = some (l, es) := by simpa using hj
    obtain ⟨ys, k1, k2⟩ := s2.sto _ (List.mem_of_getElem? hj2)
    have z := (s2.poke hj2 (k2.app (.cons (.box p) .nil))).1
    exact ⟨l, ys, .ref p, rfl, rfl, k1, sz_lt (by rw [k2.length]; exact hz), k p _ (s1.freshF hp) hpM (by simpa using z)⟩
/-- the mutable lists of a mutable list stand still from here on -/
theorem Sta.still2 {p : Addr} {ps : List Addr} {rows : List (List DV)} (s : Sta K F (p :: (ps ++ M)) δ ((p, ps.map .box) :: (ps.zip rows ++ μ)) σ H) (hl : ps.length = rows.length) (hn : ∀ q ∈ ps, q ∉ M) (hp : p ∉ M) :
    Sta K F (p :: M) δ ((p, rows.map .lst) :: μ) σ H := by
  have up : Ex (hid (p :: (ps ++ M)) H) (hid (p :: M) H) := hid_less fun a ha => by
    rcases List.mem_cons.mp ha with rfl | ha
    · simp
    · exact List.mem_cons_of_mem _ (List.mem_append_right _ ha)
  have hnd := List.nodup_cons.mp s.nd
  have hps : (ps.zip rows).map Prod.fst = ps := by
    rw [List.map_fst_zip]
    omega
  have hpp : p ∉ ps := fun h => hnd.1 (by rw [List.map_append, hps]; exact List.mem_append_left _ h)
  have hnd2 : (ps ++ μ.map Prod.fst).Nodup := by
    have := hnd.2
    rw [List.map_append, hps] at this
    exact this
  refine ⟨fun a ha => s.al a (by
      rcases List.mem_cons.mp ha with rfl | ha
      · simp
      · exact List.mem_cons_of_mem _ (List.mem_append_right _ ha)), s.fr, fun q hq => ?_, ?_, fun q hq => ?_, fun i d h => ?_, s.len⟩
  · rcases List.mem_cons.mp hq with rfl | hq
    · exact ⟨by simp, (s.dm (p, ps.map .box) (by simp)).2⟩
    · obtain ⟨a1, a2⟩ := s.dm q (List.mem_cons_of_mem _ (List.mem_append_right _ hq))
      refine ⟨?_, a2⟩
      rcases List.mem_cons.mp a1 with e | e
      · rw [e]; simp
      · rcases List.mem_append.mp e with e | e
        · exact ((List.nodup_append.mp hnd2).2.2 q.1 e q.1 (List.mem_map_of_mem hq) rfl).elim
        · exact List.mem_cons_of_mem _ e
  · rw [List.map_cons, List.nodup_cons]
    exact ⟨fun h => hnd.1 (by rw [List.map_append]; exact List.mem_append_right _ h), (List.nodup_append.mp hnd2).2.1⟩
  · rcases List.mem_cons.mp hq with rfl | hq
    · obtain ⟨vs, g1, g2⟩ := s.sto (p, ps.map .box) (by simp)
      refine ⟨vs, g1, ?_⟩
      have key : ∀ (qs : List Addr) (rs : List (List DV)) (vs : List V), qs.length = rs.length → (∀ x ∈ qs.zip rs, ∃ ws, H x.1 = some (.lst ws) ∧ RpAll K (hid (p :: M) H) ws x.2) → (∀ q ∈ qs, q ∉ M ∧ q ≠ p) → RpAll K (hid (p :: (ps ++ M)) H) vs (qs.map .box) → RpAll K (hid (p :: M) H) vs (rs.map .lst) := by
        intro qs
        induction qs with
        | nil =>
          intro rs vs hl _ _ h
          cases rs with
          | nil => cases h; exact .nil
          | cons r rs => cases hl
        | cons q qs ih =>
          intro rs vs hl hx hq h
          cases rs with
          | nil => cases hl
          | cons r rs =>
            cases h with
            | cons a b =>
              cases a
              obtain ⟨ws, w1, w2⟩ := hx (q, r) (by simp)
              exact .cons (.lst (sq_of (hid_get (by simp [hq q (by simp)]) w1)) w2) (ih rs _ (by simpa using hl) (fun x hx' => hx x (by simp [hx'])) (fun q' h' => hq q' (by simp [h'])) b)
      exact key ps rows vs hl (fun x hx => by
        obtain ⟨ws, w1, w2⟩ := s.sto x (List.mem_cons_of_mem _ (List.mem_append_left _ hx))
        exact ⟨ws, w1, w2.mono up⟩) (fun q hq => ⟨hn q hq, fun e => hpp (by rw [← e]; exact hq)⟩) g2
    · obtain ⟨vs, g1, g2⟩ := s.sto q (List.mem_cons_of_mem _ (List.mem_append_right _ hq))
      exact ⟨vs, g1, g2.mono up⟩
  · obtain ⟨v, g1, g2⟩ := s.env i d h
    exact ⟨v, g1, g2.mono up⟩
theorem RpAll.erase : ∀ {vs : List V} {ds : List DV} (k : Nat), RpAll K H vs ds → RpAll K H (vs.eraseIdx k) (ds.eraseIdx k)
  | _, _, _, .nil => .nil
  | _, _, 0, .cons _ t => t
  | _, _, k + 1, .cons r t => .cons r (RpAll.erase k t)
/-- xs.pop(i) -/
theorem ex_popAt {l : Addr} {n : Int} {k : Nat} (ha : EX K ta δ μ μ (.box l)) (hb : EX K tb δ μ μ (.int n)) (hj : μ[j]? = some (l, es)) (h1 : -(2 ^ 63) ≤ n) (h2 : n < 2 ^ 63) (hk : seqIndex? n es.length = some k) (hy : es[k]? = some d) :
    EX K (tBM K "list" rPopAt ta (tCons tb tNil)) δ μ (μ.set j (l, es.eraseIdx k)) d := fun F M σ H s Q q =>
  ha F M σ H s _ fun v H1 e1 s1 r1 => by
    cases r1
    obtain ⟨xs, g1, _⟩ := s1.sto _ (List.mem_of_getElem? hj)
    refine ⟨.inl ⟨rfl, xs, sq_of g1⟩, hb F M σ H1 s1 _ fun w H2 e2 s2 r2 => ?_⟩
    cases r2
    obtain ⟨ys, k1, k2⟩ := s2.sto _ (List.mem_of_getElem? hj)
    obtain ⟨y, hy', ry⟩ := k2.get hy
    obtain ⟨z1, z2⟩ := s2.poke hj (k2.erase k)
    exact ⟨l, ys, n, k, y, rfl, rfl, k1, h1, h2, by rw [k2.length]; exact hk, hy', q y _ ((e1.trans e2).trans z2) z1 (ry.mono z2)⟩
/-! ### the store untouched -/
theorem y_ret (s : Sta K F M δ μ σ H) (h : EX K te δ μ μ d) (k : ∀ v H', Sta K F M δ μ σ H' → Rp K (hid M H') v d → D.rt v H') : tRet te D σ H := x_ret s h k
theorem y_asg (s : Sta K F M δ μ σ H) (h : EX K te δ μ μ d) (k : ∀ σ' H', Sta K F M (δ.set i (some d)) μ σ' H' → D.nx σ' H') : tAsg te (gName i) D σ H := x_asg s h k
theorem y_asgN (s : Sta K F M δ μ σ H) (h : EX K te δ μ μ d) (k : ∀ σ' H', Sta K F M (δ.set i none) μ σ' H' → D.nx σ' H') : tAsg te (gName i) D σ H := x_asgN s h k
theorem y_asgL (s : Sta K F M δ μ σ H) (h : LX K te δ μ μ ds) (k : ∀ p σ' H', p ∉ M → F p = none → Sta K F (p :: M) (δ.set i (some (.box p))) ((p, ds) :: μ) σ' H' → D.nx σ' H') : tAsg te (gName i) D σ H := x_asgL s h fun p σ' H' hp s' => k p σ' H' hp (s'.dm (p, ds) (by simp)).2 s'
theorem y_if {b : Bool} (s : Sta K F M δ μ σ H) (h : TX K t δ μ μ b) (h1 : b = true → ∀ H', Sta K F M δ μ σ H' → tu D σ H') (h2 : b = false → ∀ H', Sta K F M δ μ σ H' → tw D σ H') : tIfS t tu tw D σ H := x_if s h h1 h2
theorem y_skip (s : Sta K F M δ μ σ H) (h : TX K t δ μ μ false) (h2 : ∀ H', Sta K F M δ μ σ H' → D.nx σ H') : tIfS t tu tNext D σ H := x_skip s h h2
theorem y_drop (s : Sta K F M δ μ σ H) (h : EX K te δ μ μ d) (k : ∀ H', Sta K F M δ μ σ H' → D.nx σ H') : tDrop te D σ H := x_drop s h k
theorem y_app {l : Addr} (s : Sta K F M δ μ σ H) (ha : EX K ta δ μ μ (.box l)) (h : EX K te δ μ μ d) (hj : μ[j]? = some (l, ds)) (hz : ds.length < 100000) (k : ∀ H', Sta K F M δ (μ.set j (l, ds ++ [d])) σ H' → D.nx σ H') :
    tDrop (tBM K "list" rAppend ta (tCons te tNil)) D σ H := x_app s ha h hj hj hz k
theorem y_setL {l : Addr} {n : Int} {m : Nat} (s : Sta K F M δ μ σ H) (h : EX K te δ μ μ d) (ho : EX K ta δ μ μ (.box l)) (hi : EX K tb δ μ μ (.int n)) (hj : μ[j]? = some (l, ds)) (hn : ixN ds.length n = some m)
    (k : ∀ H', Sta K F M δ (μ.set j (l, ds.set m d)) σ H' → D.nx σ H') : tAsg te (gSub ta tb rSetL) D σ H := x_setL s h ho hi hj hn k
/-- r is what is promised: the end of a def to data -/
theorem y_end {D : L2.Ends} {F0 : Hp} {M0 : List Addr} {r : DV} (krt : ∀ v H', Ex F0 H' → Rp K (hid M0 H') v r → D.rt v H') (s : Sta K F M δ μ σ H) (h : EX K te δ μ μ' r) (e : Ex F0 F) (n : ∀ a ∈ M0, a ∈ M) : tRet te D σ H :=
  x_ret s h fun v H' s' rv => krt v H' (e.trans s'.fr) (rv.mono (hid_less n))
end
end G
set_option Elab.async false
set_option linter.all false
set_option maxRecDepth 100000
namespace G
open PySem PySem.Spec PyProof.Rows L2 Evl
/-! ### rules with K told (for the blocks of comprehensions) -/
section
variable {X : Cx} {K : PySem.W.Frag} {e e2 tg : Expr} {te : TE} {ta : TA} {f x : Str} {p pos tpos apos cpos : Pos} {elts es : List Expr} {kk j k : Nat} {C : Addr} {sp : Sp} {T name : Str}
theorem ix_seqK (h : X.K = K := by rfl) : IxR X (rIx K) := h ▸ ix_seq
theorem call_lenK (h : X.K = K := by rfl) : CallR X (.builtin "len") (rLenQ K) := h ▸ call_lenQ
theorem call_listK (h : X.K = K := by rfl) : CallR X (.type "list") (rListQ K) := h ▸ call_listQ
theorem call_tupK (h : X.K = K := by rfl) : CallR X (.type "tuple") (rTupQ K) := h ▸ call_tupQ
theorem cr_sumK (hc : X.calm = true := by rfl) (h : X.K = K := by rfl) : CallR X (.builtin "sum") (rSum K) := h ▸ cr_sum hc
theorem cr_allK (hc : X.calm = true := by rfl) (h : X.K = K := by rfl) : CallR X (.builtin "all") (rAll K) := h ▸ cr_all hc
theorem cr_anyK (hc : X.calm = true := by rfl) (h : X.K = K := by rfl) : CallR X (.builtin "any") (rAny K) := h ▸ cr_any hc
theorem call_isK (h : X.K = K := by rfl) : CallR X (.builtin "isinstance") (rIsi K) := h ▸ call_isi
theorem call_isTK (h : X.K = K := by rfl) : CallR X (.builtin "isinstance") (rIsiT K) := h ▸ call_isiT
theorem sl_listK (h : X.K = K := by rfl) : SlR X (rSlL K) := h ▸ sl_list
theorem sl_tupK (h : X.K = K := by rfl) : SlR X (rSlA K) := h ▸ sl_tupA
theorem op_catK (h : X.K = K := by rfl) : OpR X (binaryOp .Add) (rCatA K) := h ▸ op_catA
theorem op_eqDK (hu : X.A.units + 64 < cLine) (h : X.K = K := by rfl) : OpR X (compareOp .Eq) (rEqD K) := h ▸ op_eqD hu
theorem op_neDK (hu : X.A.units + 64 < cLine) (h : X.K = K := by rfl) : OpR X (compareOp .NotEq) (rNeD K) := h ▸ op_neD hu
theorem pe_fldK (he : PE X e te) (hb : attributeBase e f X.env (eval e X.env) = eval e X.env := by rfl) (h : X.K = K := by rfl) : PE X (.Attribute e f pos) (tFld K te f) := h ▸ pe_fld he hb
theorem pi_seqK (he : PE X e te) (h : X.K = K := by rfl) : PI X tg e (iSeq K te) := h ▸ pi_seq he
theorem pi_zK (hg : Gl X "zip") (hm : X.mg "zip" = none) (ha : PA X [e, e2] ta) (hs : starEach [e, e2] X.env = (false, eval e X.env) :: starEach [e2] X.env := by rfl) (hpl : (backTo pos (starEach [e2] X.env)).any (·.1) = false := by rfl) (h : X.K = K := by rfl) :
    PI X (.Tuple elts kk tpos) (.Call (.Name "zip" p) [e, e2] [] pos) (iZipK K ta) := h ▸ pi_zipK hg hm ha hs hpl
theorem pi_eK (hg : Gl X "enumerate") (hm : X.mg "enumerate" = none) (ha : PA X [e] ta) (hs : starEach [e] X.env = [(false, eval e X.env)] := by rfl) (h : X.K = K := by rfl) :
    PI X (.Tuple elts kk tpos) (.Call (.Name "enumerate" p) [e] [] pos) (iEnumK K ta) := h ▸ pi_enumK hg hm ha hs
theorem opEK (c : MetG X.prog X.w X.K X.mg X.base k C "__eq__" sp) (hr : Room j X.A) (hk : k ≤ j) (h : X.K = K := by rfl) : OpR X (compareOp .Eq) (rOwnE K C sp E0) := h ▸ opE c hr hk
theorem opNK (c : MetG X.prog X.w X.K X.mg X.base k C "__eq__" sp) (o : PySem.W.mroIn X.K C (.type "object") = some true) (hne : PySem.W.findIn X.K (.ref C) "__ne__" = some (some (.builtin "object.__ne__"))) (hr : Room j X.A) (hk : k + 1 ≤ j) (h : X.K = K := by rfl) :
    OpR X (compareOp .NotEq) (rOwnN K C sp E0) := h ▸ opN c o hne hr hk
end
section
variable {K : PySem.W.Frag} {F H H' : Hp} {M : List Addr} {δ δ' : Env} {μ μ' μ'' : Sto} {σ : L2.St} {ta tb te : TE} {a b : Int}
theorem ex_add (ha : EX K ta δ μ μ' (.int a)) (hb : EX K tb δ μ' μ'' (.int b)) : EX K (tOp (rI0 fun i j => .int (i + j)) ta tb) δ μ μ'' (.int (a + b)) := ex_I0 ha hb
theorem ex_sub (ha : EX K ta δ μ μ' (.int a)) (hb : EX K tb δ μ' μ'' (.int b)) : EX K (tOp (rI0 fun i j => .int (i - j)) ta tb) δ μ μ'' (.int (a - b)) := ex_I0 ha hb
theorem ex_mul (ha : EX K ta δ μ μ' (.int a)) (hb : EX K tb δ μ' μ'' (.int b)) (hc : CMulB a b) : EX K (tOp (rI CMulB fun i j => .int (i * j)) ta tb) δ μ μ'' (.int (a * b)) := ex_I ha hb hc
theorem ex_fdiv (ha : EX K ta δ μ μ' (.int a)) (hb : EX K tb δ μ' μ'' (.int b)) (hc : b ≠ 0) : EX K (tOp (rI CNz fun i j => .int (i.fdiv j)) ta tb) δ μ μ'' (.int (a.fdiv b)) := ex_I ha hb hc
theorem ex_mod (ha : EX K ta δ μ μ' (.int a)) (hb : EX K tb δ μ' μ'' (.int b)) (hc : b ≠ 0) : EX K (tOp (rI (fun _ j => j ≠ 0) fun i j => .int (i.fmod j)) ta tb) δ μ μ'' (.int (a.fmod b)) := ex_I ha hb hc
theorem ex_neg (ha : EX K ta δ μ μ' (.int a)) : EX K (tUn (rU fun i => .int (-i)) ta) δ μ μ' (.int (-a)) := ex_U ha
theorem ex_lt (ha : EX K ta δ μ μ' (.int a)) (hb : EX K tb δ μ' μ'' (.int b)) : EX K (tOp (rI0 fun i j => .bl (decide (i < j))) ta tb) δ μ μ'' (.bl (decide (a < b))) := ex_I0 ha hb
theorem ex_le (ha : EX K ta δ μ μ' (.int a)) (hb : EX K tb δ μ' μ'' (.int b)) : EX K (tOp (rI0 fun i j => .bl (decide (i ≤ j))) ta tb) δ μ μ'' (.bl (decide (a ≤ b))) := ex_I0 ha hb
theorem ex_gt (ha : EX K ta δ μ μ' (.int a)) (hb : EX K tb δ μ' μ'' (.int b)) : EX K (tOp (rI0 fun i j => .bl (decide (j < i))) ta tb) δ μ μ'' (.bl (decide (b < a))) := ex_I0 ha hb
theorem ex_ge (ha : EX K ta δ μ μ' (.int a)) (hb : EX K tb δ μ' μ'' (.int b)) : EX K (tOp (rI0 fun i j => .bl (decide (j ≤ i))) ta tb) δ μ μ'' (.bl (decide (b ≤ a))) := ex_I0 ha hb
def DV.isN : DV → Bool
  | .non => true
  | _ => false
theorem ex_isN {d : DV} (ha : EX K ta δ μ μ' d) : EX K (tOp (fun x y H Q => y = V.non ∧ Q (.bl (decide (x = V.non))) H) ta (tC .non)) δ μ μ' (.bl d.isN) := fun F M σ H s Q q =>
  ha F M σ H s _ fun v H1 e1 s1 r1 => by
    have e : decide (v = V.non) = d.isN := by
      cases d <;> (cases r1; simp [DV.isN])
    exact ⟨rfl, by rw [e]; exact q _ H1 e1 s1 (.bl _)⟩
theorem ex_notN {d : DV} (ha : EX K ta δ μ μ' d) : EX K (tOp (fun x y H Q => y = V.non ∧ Q (.bl (!decide (x = V.non))) H) ta (tC .non)) δ μ μ' (.bl (!d.isN)) := fun F M σ H s Q q =>
  ha F M σ H s _ fun v H1 e1 s1 r1 => by
    have e : decide (v = V.non) = d.isN := by
      cases d <;> (cases r1; simp [DV.isN])
    exact ⟨rfl, by rw [e]; exact q _ H1 e1 s1 (.bl _)⟩
end
end G
set_option Elab.async false
set_option linter.all false
set_option maxRecDepth 100000
namespace G
open PySem PySem.Spec PyProof.Rows L2 Evl
/-! ### promises that tell the result by a relation -/
def spLR (K : PySem.W.Frag) (Pre : List DV → Prop) (Post : List DV → List DV → Prop) : Sp := fun vs H Q _ => ∃ M ds, (∀ a ∈ M, H a ≠ none) ∧ RpAll K (hid M H) vs ds ∧ Pre ds ∧ ∀ rs p ws H', Post ds rs → H p = none → Ex H H' → H' p = some (.lst ws) → RpAll K (hid (p :: M) H') ws rs → Q (.ref p) H'
def spSR (K : PySem.W.Frag) (Pre : List DV → List DV → Prop) (Post : List DV → List DV → List DV → DV → Prop) : Sp := fun vs H Q _ => ∃ M st ws xs s ds, vs = .ref st :: ws ∧ st ∈ M ∧ (∀ a ∈ M, H a ≠ none) ∧ H st = some (.lst xs) ∧ RpAll K (hid M H) xs s ∧ RpAll K (hid M H) ws ds ∧ Pre s ds ∧
  ∀ s' r v xs' H', Post s ds s' r → (∀ a o, a ≠ st → H a = some o → H' a = some o) → H' st = some (.lst xs') → RpAll K (hid M H') xs' s' → Rp K (hid M H') v r → Q v H'
section
variable {K : PySem.W.Frag} {F H H' H0 : Hp} {M : List Addr} {δ δ' : Env} {μ μ' μ'' : Sto} {σ : L2.St} {ta tb te tl : TE} {t u : TT} {d e : DV} {ds es : List DV} {i j : Nat} {D : L2.Ends} {tu tw : TS} {tr : TA}
theorem x_asgLR {Pre : List DV → Prop} {Post : List DV → List DV → Prop} {E : XK} (s : Sta K F M δ μ σ H) (ha : AX K tr δ μ μ' ds) (h : Pre ds) (k : ∀ rs p σ' H', Post ds rs → p ∉ M → F p = none → Sta K F (p :: M) (δ.set i (some (.box p))) ((p, rs) :: μ') σ' H' → D.nx σ' H') : tAsg (tCall (spLR K Pre Post) [] E tr) (gName i) D σ H :=
  ha F M σ H s _ fun vs H1 e1 s1 r1 => ⟨M, ds, s1.al, by rw [List.append_nil]; exact r1, h, fun rs p ws H2 hq hp e2 h2 r => by
    have z := (s1.newP e2 hp h2 r).put (i := i) (.box p)
    exact k rs p _ H2 hq (s1.fresh hp) (s1.freshF hp) z⟩
theorem x_asgSR {Pre : List DV → List DV → Prop} {Post : List DV → List DV → List DV → DV → Prop} {E : XK} {l : Addr} {s0 : List DV} (s : Sta K F M δ μ σ H) (ha : EX K ta δ μ μ (.box l)) (hr : AX K tr δ μ μ ds) (hj : μ[j]? = some (l, s0)) (h : Pre s0 ds)
    (k : ∀ s1 r σ' H', Post s0 ds s1 r → Sta K F M (δ.set i (some r)) (μ.set j (l, s1)) σ' H' → D.nx σ' H') : tAsg (tCall (spSR K Pre Post) [] E (tCons ta tr)) (gName i) D σ H :=
  ha F M σ H s _ fun v H1 e1 g1 r1 => hr F M σ H1 g1 _ fun vs H2 e2 g2 r2 => by
    cases r1
    have hm : (l, s0) ∈ μ := List.mem_of_getElem? hj
    obtain ⟨xs, k1, k2⟩ := g2.sto _ hm
    refine ⟨M, l, vs, xs, s0, ds, by rw [List.append_nil], (g2.dm _ hm).1, g2.al, k1, k2, r2, h, fun s1 r v xs' H3 hq kk e3 r3 rv => ?_⟩
    obtain ⟨g3, x3⟩ := g2.after hj kk e3 r3
    exact k s1 r _ H3 hq (g3.put rv)
theorem hid_eq {M' : List Addr} (h : ∀ a, a ∈ M ↔ a ∈ M') : hid M' H = hid M H := by
  funext a
  unfold hid
  by_cases q : a ∈ M
  · rw [if_pos q, if_pos ((h a).mp q)]
  · rw [if_neg q, if_neg fun z => q ((h a).mpr z)]
/-- the order is of no matter -/
theorem Sta.perm {M' : List Addr} (s : Sta K F M δ μ σ H) (hM : ∀ a, a ∈ M ↔ a ∈ M') (hμ : μ.Perm μ') : Sta K F M' δ μ' σ H := by
  have e := hid_eq (H := H) hM
  refine ⟨fun a ha => s.al a ((hM a).mpr ha), s.fr, fun p hp => ?_, (hμ.map Prod.fst).nodup_iff.mp s.nd, fun p hp => ?_, fun i d h => ?_, s.len⟩
  · obtain ⟨h1, h2⟩ := s.dm p (hμ.mem_iff.mpr hp)
    exact ⟨(hM _).mp h1, h2⟩
  · rw [e]
    exact s.sto p (hμ.mem_iff.mpr hp)
  · rw [e]
    exact s.env i d h
/-- xs + [..], xs a mutable list -/
theorem lx_catB {l : Addr} (ha : EX K ta δ μ μ (.box l)) (hb : LX K tb δ μ μ' es) (h0 : μ[j]? = some (l, ds)) (hj : μ'[j]? = some (l, ds)) (hl : ds.length + es.length ≤ 100000) : LX K (tOp rCat ta tb) δ μ μ' (ds ++ es) := fun F M σ H s Q q =>
  ha F M σ H s _ fun v H1 e1 s1 r1 => hb F M σ H1 s1 _ fun p2 H2 hp2 hpM2 e2 s2 => by
    cases r1
    have hj2 : ((p2, es) :: μ')[j + 1]? = some (l, ds) := by simpa using hj
    obtain ⟨vs, h1, r1⟩ := s2.sto _ (List.mem_of_getElem? hj2)
    obtain ⟨ws, h2, r2⟩ := s2.sto (p2, es) (by simp)
    obtain ⟨s3, _⟩ := s2.still hpM2
    have up : Ex (hid (p2 :: M) H2) (hid M H2) := hid_less fun a ha => List.mem_cons_of_mem _ ha
    have e12 := e1.trans e2
    refine ⟨l, p2, vs, ws, rfl, rfl, h1, h2, sz_of (by rw [r1.length, r2.length]; exact hl), fun z hz0 => ?_⟩
    exact q z _ (back_none s s3 e12 hz0) (s3.fresh hz0) (e12.trans (new_ex s3 hz0)) (s3.newL hz0 ((r1.mono up).app (r2.mono up)))
theorem z_asg {u : TS} (s : Sta K F M δ μ σ H) (h : EX K te δ μ μ d) (k : ∀ σ' H', Sta K F M (δ.set i (some d)) μ σ' H' → u D σ' H') : tSeq (tAsg te (gName i)) u D σ H := y_asg (D := { D with nx := u D }) s h k
theorem EX.to (h : EX K te δ μ μ' d) (e : μ' = μ'') : EX K te δ μ μ'' d := e ▸ h
theorem ex_min2 {a b : Int} (ha : EX K ta δ μ μ' (.int a)) (hb : EX K tb δ μ' μ'' (.int b)) : EX K (tCB (fun xs H Q => ∃ i j, xs = [.int i, .int j] ∧ Q (.int (if j < i then j else i)) H) (tCons ta (tCons tb tNil))) δ μ μ'' (.int (if b < a then b else a)) := fun F M σ H s Q q =>
  ha F M σ H s _ fun v H1 e1 s1 r1 => hb F M σ H1 s1 _ fun w H2 e2 s2 r2 => by
    cases r1
    cases r2
    exact ⟨a, b, rfl, q _ H2 (e1.trans e2) s2 (.int _)⟩
theorem ex_max2 {a b : Int} (ha : EX K ta δ μ μ' (.int a)) (hb : EX K tb δ μ' μ'' (.int b)) : EX K (tCB (fun xs H Q => ∃ i j, xs = [.int i, .int j] ∧ Q (.int (if j > i then j else i)) H) (tCons ta (tCons tb tNil))) δ μ μ'' (.int (if b > a then b else a)) := fun F M σ H s Q q =>
  ha F M σ H s _ fun v H1 e1 s1 r1 => hb F M σ H1 s1 _ fun w H2 e2 s2 r2 => by
    cases r1
    cases r2
    exact ⟨a, b, rfl, q _ H2 (e1.trans e2) s2 (.int _)⟩
theorem ex_pow {a : Int} {n : Nat} (ha : EX K ta δ μ μ' (.int a)) (hb : EX K tb δ μ' μ'' (.int n)) (h1 : n ≤ 1000000) (h2 : a.natAbs < 2 ^ 64) : EX K (tOp (rI CPow fun i j => .int (i ^ j.toNat)) ta tb) δ μ μ'' (.int (a ^ n)) :=
  EX.is (ex_I ha hb ⟨by omega, by omega, h2⟩) rfl
/-- one more mutable list of a mutable list, put in its place -/
theorem Sta.grow {g q : Addr} {ps : List Addr} {rows : List (List DV)} {row : List DV} (s : Sta K F (q :: g :: (ps ++ M)) δ ((q, row) :: (g, ps.map .box ++ [.box q]) :: (ps.zip rows ++ μ)) σ H) (hl : ps.length = rows.length) :
    Sta K F (g :: ((ps ++ [q]) ++ M)) δ ((g, (ps ++ [q]).map .box) :: ((ps ++ [q]).zip (rows ++ [row]) ++ μ)) σ H := by
  refine s.perm (fun a => by simp [or_left_comm, or_comm, or_assoc]) ?_
  rw [List.map_append, List.zip_append hl]
  refine (List.Perm.swap _ _ _).trans (List.Perm.cons _ ?_)
  rw [List.append_assoc]
  exact List.perm_middle.symm
end
section
variable {K : PySem.W.Frag} {F H H' H0 : Hp} {M : List Addr} {δ : Env} {μ : Sto} {P : Program} {w : World} {mg : Str → Option Value} {base : Heap}
theorem okLR {x qual : Str} {st : Stmt} {f : Addr} {fd : FuncData} {N ps : List Str} {k : Nat} {Pre : List DV → Prop} {Post : List DV → List DV → Prop} (Fn : Fun K x qual st f fd) (S : FnScope N ps (defScope st)) (len : ∀ ds, Pre ds → ds.length = ps.length)
    (body : ∀ (cdv : Value) (A : Around) (outer : List PySem.Env) (s : Shared) (H : Hp) (E : XK), Room k (A.deeper (envOfC qual (defScope st) s.heap.objs.size f cdv)) →
      ∃ t, PSs (cxOf CX0 P w K mg base N qual (defScope st) f cdv A outer s H E).nox (defBody st) t ∧ ∀ F M ds σ H1 D, Pre ds → Sta K F M (startD N.length ds) [] σ H1 →
        (∀ rs p σ' H' δ, Post ds rs → F p = none → Sta K F (p :: M) δ [(p, rs)] σ' H' → D.rt (.ref p) H') → t D σ H1) : FnOk P w K mg base CX0 (k + 1) f fd ps (spLR K Pre Post) := by
  refine Fn.ok S (fun vs H Q E ⟨M, ds, _, h1, h2, _⟩ => by rw [h1.length]; exact len _ h2) fun cdv A outer s H vs Q E hr ⟨M, ds, al, ra, hR, kq⟩ => ?_
  obtain ⟨t, h1, h2⟩ := body cdv A outer s H E hr
  refine ⟨t, h1, h2 H M ds _ H _ hR (sta_start al ra) fun rs p σ' H' δ hq hp s' => ?_⟩
  obtain ⟨ws, g1, g2⟩ := s'.sto (p, rs) (by simp)
  exact kq rs p ws H' hq hp s'.fr g1 g2
theorem okSR {x qual : Str} {st : Stmt} {f : Addr} {fd : FuncData} {N ps : List Str} {k : Nat} {Pre : List DV → List DV → Prop} {Post : List DV → List DV → List DV → DV → Prop} (Fn : Fun K x qual st f fd) (S : FnScope N ps (defScope st)) (len : ∀ s ds, Pre s ds → ds.length + 1 = ps.length)
    (body : ∀ (cdv : Value) (A : Around) (outer : List PySem.Env) (s : Shared) (H : Hp) (E : XK), Room k (A.deeper (envOfC qual (defScope st) s.heap.objs.size f cdv)) →
      ∃ t, PSs (cxOf CX0 P w K mg base N qual (defScope st) f cdv A outer s H E).nox (defBody st) t ∧ ∀ F M l s0 ds σ H1 D, Pre s0 ds → Sta K F M (startD N.length (.box l :: ds)) [(l, s0)] σ H1 →
        (∀ s1 r v H' M' δ σ', Post s0 ds s1 r → (∀ a ∈ M, a ∈ M') → Sta K F M' δ [(l, s1)] σ' H' → Rp K (hid M' H') v r → D.rt v H') → (∀ σ' H', D.rt .non H' → D.nx σ' H') → t D σ H1) : FnOk P w K mg base CX0 (k + 1) f fd ps (spSR K Pre Post) := by
  refine Fn.ok S (fun vs H Q E ⟨M, st, ws, xs, s0, ds, e, _, _, _, _, h1, h2, _⟩ => by rw [e, List.length_cons, h1.length]; exact len _ _ h2) fun cdv A outer s H vs Q E hr ⟨M, st, ws, xs, s0, ds, e, hm, al, hst, rs, ra, hR, kq⟩ => ?_
  obtain ⟨t, h1, h2⟩ := body cdv A outer s H E hr
  subst e
  have r0 : RpAll K (hid M H) (.ref st :: ws) (.box st :: ds) := .cons (.box st) ra
  have s0' : Sta K (hid [st] H) M (startD N.length (.box st :: ds)) [(st, s0)] (L2.start N (.ref st :: ws)) H := by
    refine ⟨al, hid_sub, fun p hp => ?_, by simp, fun p hp => ?_, envAll r0, by unfold L2.start startD; simp [ra.length]⟩
    · simp only [List.mem_singleton] at hp
      subst hp
      exact ⟨hm, by unfold hid; simp⟩
    · simp only [List.mem_singleton] at hp
      subst hp
      exact ⟨xs, hst, rs⟩
  refine ⟨t, h1, h2 (hid [st] H) M st s0 ds _ H _ hR s0' (fun s1 r v H' M' δ σ' hq hM s' rv => ?_) fun _ _ z => z⟩
  obtain ⟨ys, g1, g2⟩ := s'.sto (st, s1) (by simp)
  have up : Ex (hid M' H') (hid M H') := hid_less hM
  exact kq s1 r v ys H' hq (fun a o hne q => s'.fr a o (hid_get (by simp [hne]) q)) g1 (g2.mono up) (rv.mono up)
end
end G
set_option Elab.async false
set_option linter.all false
set_option maxRecDepth 100000
namespace G
open PySem PySem.Spec PyProof.Rows L2 Evl
/-! ### rows of ints as data -/
def rowT (r : List Int) : DV := .tup (r.map .int)
def rowL (r : List Int) : DV := .lst (r.map .int)
def rowsT (rs : List (List Int)) : DV := .tup (rs.map rowT)
def gridD (C : Addr) (rs : List (List Int)) (w : Nat) : DV := .ins C [("rows", rowsT rs), ("width", .int w)]
def IsRow (d : DV) (r : List Int) : Prop := Seq d (r.map .int)
def IsRows (d : DV) (rs : List (List Int)) : Prop := ∃ ds, Seq d ds ∧ ds.length = rs.length ∧ ∀ (i : Nat) (d : DV) (r : List Int), ds[i]? = some d → rs[i]? = some r → IsRow d r
def Sm (B : Nat) (r : List Int) : Prop := ∀ x ∈ r, x.natAbs < 2 ^ B
theorem isT (r : List Int) : IsRow (rowT r) r := .tup _
theorem isL (r : List Int) : IsRow (rowL r) r := .lst _
theorem isRowsT (rs : List (List Int)) : IsRows (rowsT rs) rs := ⟨rs.map rowT, .tup _, by simp, fun i d r h1 h2 => by
  rw [List.getElem?_map, h2] at h1
  cases h1
  exact isT r⟩
theorem isRowsL (rs : List (List Int)) : IsRows (.lst (rs.map rowL)) rs := ⟨rs.map rowL, .lst _, by simp, fun i d r h1 h2 => by
  rw [List.getElem?_map, h2] at h1
  cases h1
  exact isL r⟩
theorem isRowsLT (rs : List (List Int)) : IsRows (.lst (rs.map rowT)) rs := ⟨rs.map rowT, .lst _, by simp, fun i d r h1 h2 => by
  rw [List.getElem?_map, h2] at h1
  cases h1
  exact isT r⟩
theorem getD_map {r : List Int} {i : Nat} (h : i < r.length) : (r.map DV.int).getD i .non = .int (r.getD i 0) := by
  rw [List.getD_eq_getElem?_getD, List.getElem?_map, List.getElem?_eq_getElem h, List.getD_eq_getElem?_getD, List.getElem?_eq_getElem h]
  rfl
theorem IsRows.at {ds : List DV} {rs : List (List Int)} (hl : ds.length = rs.length) (h : ∀ (i : Nat) (d : DV) (r : List Int), ds[i]? = some d → rs[i]? = some r → IsRow d r) {i : Nat} (hi : i < rs.length) : IsRow (ds.getD i .non) (rs.getD i []) := by
  have h1 : i < ds.length := by omega
  rw [List.getD_eq_getElem?_getD, List.getElem?_eq_getElem h1, List.getD_eq_getElem?_getD, List.getElem?_eq_getElem hi]
  exact h i _ _ (List.getElem?_eq_getElem h1) (List.getElem?_eq_getElem hi)
def dotI (a b : List Int) : Int := ((List.range (min a.length b.length)).map fun i => a.getD i 0 * b.getD i 0).sum
theorem Seq.ty {K : PySem.W.Frag} {d : DV} {ds : List DV} (h : Seq d ds) : TyD K d (.type "list") ∨ TyD K d (.type "tuple") := by
  cases h with
  | lst => exact .inl .lst
  | tup => exact .inr .tup
theorem kitLT {K : PySem.W.Frag} {d : DV} {ds : List DV} (h : Seq d ds) : ∃ w, TyD K d w ∧ PySem.W.kitAny K w [.type "list", .type "tuple"] = some true := by
  rcases h.ty (K := K) with q | q
  · exact ⟨_, q, kit2 (b := true) (c := false) (by decide +kernel) (by decide +kernel) rfl⟩
  · exact ⟨_, q, kit2 (b := false) (c := true) (by decide +kernel) (by decide +kernel) rfl⟩
theorem smMul {a b : Int} {A B : Nat} (ha : a.natAbs < 2 ^ A) (hb : b.natAbs < 2 ^ B) (h : A + B ≤ 134217728) : CMulB a b := mulOk ha hb h
theorem natAbs_mul_lt {a b : Int} {A B : Nat} (ha : a.natAbs < 2 ^ A) (hb : b.natAbs < 2 ^ B) : (a * b).natAbs < 2 ^ (A + B) := by
  rw [Int.natAbs_mul, Nat.pow_add]
  exact Nat.mul_lt_mul'' ha hb
theorem getD_sm {r : List Int} {B : Nat} (h : Sm B r) (i : Nat) : (r.getD i 0).natAbs < 2 ^ B := by
  rw [List.getD_eq_getElem?_getD]
  cases q : r[i]? with
  | none =>
    show (0 : Int).natAbs < _
    exact Nat.pow_pos (by omega)
  | some x => exact h x (List.mem_of_getElem? q)
/-! ### what the defs of the grid promise -/
def rIsInt : List DV → DV → Prop := fun ds r => ∃ i : Int, ds = [.int i] ∧ r = .bl true
def rDot : List DV → DV → Prop := fun ds r => ∃ (d e : DV) (a b : List Int), ds = [d, e] ∧ IsRow d a ∧ IsRow e b ∧ a.length ≤ 1000 ∧ (∃ A B, Sm A a ∧ Sm B b ∧ A + B ≤ 134217728) ∧ r = .int (dotI a b)
def rChecked : List DV → DV → Prop := fun ds r => ∃ (d : DV) (rs : List (List Int)) (w : Nat), ds = [d, .int w] ∧ IsRows d rs ∧ rs.length ≤ 1000 ∧ (∀ x ∈ rs, x.length = w) ∧ r = rowsT rs
end G
set_option Elab.async false
set_option linter.all false
set_option maxRecDepth 100000
namespace G
open PySem PySem.Spec PyProof.Rows L2 Evl
variable {B0 : Nat}
theorem atI_nat {α : Type} {xs : List α} {i : Nat} (h : i < xs.length) : L2.atI xs (i : Int) = some xs[i] := by
  have e : ixN xs.length (i : Int) = some i := by
    unfold ixN
    simp [h]
  unfold L2.atI
  rw [e]
  exact List.getElem?_eq_getElem h
theorem ixN_of {n i : Nat} (h : i < n) : ixN n (i : Int) = some i := by
  unfold ixN
  simp [h]
theorem atI_row {t : List (List Int)} {i : Nat} (h : i < t.length) : L2.atI (t.map rowL) (i : Int) = some (rowL (t.getD i [])) := by
  rw [atI_nat (by simpa using h), List.getElem_map, List.getD_eq_getElem?_getD, List.getElem?_eq_getElem h]
  rfl
theorem atI_rowT {t : List (List Int)} {i : Nat} (h : i < t.length) : L2.atI (t.map rowT) (i : Int) = some (rowT (t.getD i [])) := by
  rw [atI_nat (by simpa using h), List.getElem_map, List.getD_eq_getElem?_getD, List.getElem?_eq_getElem h]
  rfl
theorem atI_int {r : List Int} {i : Nat} (h : i < r.length) : L2.atI (r.map DV.int) (i : Int) = some (.int (r.getD i 0)) := by
  rw [atI_nat (by simpa using h), List.getElem_map, List.getD_eq_getElem?_getD, List.getElem?_eq_getElem h]
  rfl
theorem map_getD {α β : Type} (f : List α → β) (rs : List (List α)) : (List.range rs.length).map (fun i => f (rs.getD i [])) = rs.map f := by
  refine List.ext_getElem (by simp) fun i h1 h2 => ?_
  simp at h1
  simp [List.getD_eq_getElem?_getD, List.getElem?_eq_getElem h1]
/-! ### the quotient elimination -/
def en (t : List (List Int)) (i j : Nat) : Int := (t.getD i []).getD j 0
def elimRow (h : List Int) (f b : Int) (k : Nat) (r : List Int) : List Int := (List.range (min r.length h.length)).map fun j => (h.getD k 0 * r.getD j 0 - f * h.getD j 0).fdiv b
def inn (h : List Int) (b : Int) (k : Nat) (t : List (List Int)) : Nat → List (List Int)
  | 0 => t
  | m + 1 => (inn h b k t m).set (k + 1 + m) (elimRow h (en (inn h b k t m) (k + 1 + m) k) b k ((inn h b k t m).getD (k + 1 + m) []))
def picks (t : List (List Int)) (k n : Nat) : List Nat := ((List.range (n - k)).filter fun j => !decide (en t (k + j) k = 0)).map (k + ·)
def swp (t : List (List Int)) (k c : Nat) : List (List Int) := (t.set k (t.getD c [])).set c (t.getD k [])
def bstep (n k : Nat) (x : List (List Int) × Int × Int) : Option (List (List Int) × Int × Int) := match picks x.1 k n with
  | [] => none
  | c :: _ => if c = k then some (inn (x.1.getD k []) x.2.2 k x.1 (n - (k + 1)), x.2.1, en x.1 k k) else some (inn ((swp x.1 k c).getD k []) x.2.2 k (swp x.1 k c) (n - (k + 1)), -x.2.1, en (swp x.1 k c) k k)
def brun (n : Nat) (x : List (List Int) × Int × Int) : Nat → Option (List (List Int) × Int × Int)
  | 0 => some x
  | k + 1 => (brun n x k).bind (bstep n k)
def bar (rs : List (List Int)) : Int := match brun rs.length (rs, 1, 1) rs.length with
  | none => 0
  | some x => x.2.1 * x.2.2
theorem brun_none {n : Nat} {x : List (List Int) × Int × Int} {k : Nat} (h : brun n x k = none) : ∀ m, brun n x (k + m) = none
  | 0 => h
  | m + 1 => by
    show (brun n x (k + m)).bind _ = none
    rw [brun_none h m]
    rfl
theorem bar_zero {rs : List (List Int)} {k : Nat} (hk : k < rs.length) {x : List (List Int) × Int × Int} (h : brun rs.length (rs, 1, 1) k = some x) (hp : picks x.1 k rs.length = []) : bar rs = 0 := by
  have h1 : brun rs.length (rs, 1, 1) (k + 1) = none := by
    show (brun rs.length (rs, 1, 1) k).bind _ = none
    rw [h]
    show bstep _ _ _ = none
    unfold bstep
    rw [hp]
  have h2 := brun_none h1 (rs.length - (k + 1))
  rw [show k + 1 + (rs.length - (k + 1)) = rs.length by omega] at h2
  unfold bar
  rw [h2]
theorem inn_len {h : List Int} {b : Int} {k : Nat} {t : List (List Int)} : ∀ m, (inn h b k t m).length = t.length
  | 0 => rfl
  | m + 1 => by
    show (List.set _ _ _).length = _
    rw [List.length_set, inn_len m]
theorem inn_get {h : List Int} {b : Int} {k : Nat} {t : List (List Int)} : ∀ m i, k + 1 + m ≤ t.length → (inn h b k t m).getD i [] = if k + 1 ≤ i ∧ i < k + 1 + m then elimRow h (en t i k) b k (t.getD i []) else t.getD i []
  | 0, i, _ => by
    rw [if_neg (by omega)]
    rfl
  | m + 1, i, hm => by
    have ih := fun i => inn_get (h := h) (b := b) (k := k) (t := t) m i (by omega)
    have e1 : (inn h b k t m).getD (k + 1 + m) [] = t.getD (k + 1 + m) [] := by rw [ih, if_neg (by omega)]
    have e2 : en (inn h b k t m) (k + 1 + m) k = en t (k + 1 + m) k := by
      unfold en
      rw [e1]
    show (List.set _ _ _).getD i [] = _
    rw [e1, e2]
    by_cases hi : i = k + 1 + m
    · subst hi
      rw [if_pos (by omega), List.getD_eq_getElem?_getD, List.getElem?_set_self (by rw [inn_len]; omega)]
      rfl
    · rw [List.getD_eq_getElem?_getD, List.getElem?_set_ne (fun e => hi e.symm), ← List.getD_eq_getElem?_getD, ih]
      by_cases hc : k + 1 ≤ i ∧ i < k + 1 + m
      · rw [if_pos hc, if_pos (by omega)]
      · rw [if_neg hc, if_neg (by omega)]
theorem fdiv_le {a b : Int} (hb : b ≠ 0) : (a.fdiv b).natAbs ≤ a.natAbs := by
  have pos : ∀ (a b : Int), 0 < b → (a / b).natAbs ≤ a.natAbs := fun a b hb => by
    by_cases ha : 0 ≤ a
    · have h1 := Int.ediv_nonneg ha (by omega : 0 ≤ b)
      have h2 := Int.ediv_le_self b ha
      omega
    · have h1 : a ≤ a / b := Int.le_ediv_of_mul_le hb (by
        have : a * b ≤ a * 1 := Int.mul_le_mul_of_nonpos_left (by omega) (by omega)
        omega)
      have h2 : a / b < 0 := Int.ediv_neg_of_neg_of_pos (by omega) hb
      omega
  by_cases h : 0 < b
  · rw [Int.fdiv_eq_ediv_of_nonneg a (by omega)]
    exact pos a b h
  · have e : a.fdiv b = (-a) / (-b) := by
      rw [← Int.fdiv_eq_ediv_of_nonneg (-a) (by omega), Int.neg_fdiv_neg]
    rw [e]
    have := pos (-a) (-b) (by omega)
    omega
def bk (B0 : Nat) : Nat → Nat
  | 0 => B0
  | k + 1 => 2 * bk B0 k + 1
theorem sm_mono {A B : Nat} (h : A ≤ B) {r : List Int} (s : Sm A r) : Sm B r := fun x hx => Nat.lt_of_lt_of_le (s x hx) (Nat.pow_le_pow_right (by omega) h)
structure BOk (B0 n k : Nat) (x : List (List Int) × Int × Int) : Prop where
  len : x.1.length = n
  row : ∀ i, i < n → (x.1.getD i []).length = n
  sm : ∀ i, Sm (bk B0 k) (x.1.getD i [])
  nz : x.2.2 ≠ 0
  bs : x.2.2.natAbs < 2 ^ bk B0 k
  ss : x.2.1.natAbs ≤ 1
theorem elim_len {h r : List Int} {f b : Int} {k n : Nat} (h1 : h.length = n) (h2 : r.length = n) : (elimRow h f b k r).length = n := by
  unfold elimRow
  simp [h1, h2]
theorem elim_sm {h r : List Int} {f b : Int} {k A : Nat} (hh : Sm A h) (hr : Sm A r) (hf : f.natAbs < 2 ^ A) (hb : b ≠ 0) : Sm (2 * A + 1) (elimRow h f b k r) := fun x hx => by
  unfold elimRow at hx
  obtain ⟨j, _, rfl⟩ := List.mem_map.mp hx
  have h1 := natAbs_mul_lt (getD_sm hh k) (getD_sm hr j)
  have h2 := natAbs_mul_lt hf (getD_sm hh j)
  have h3 := fdiv_le (a := h.getD k 0 * r.getD j 0 - f * h.getD j 0) hb
  have e : 2 ^ (2 * A + 1) = 2 ^ (A + A) + 2 ^ (A + A) := by
    rw [show 2 * A + 1 = (A + A) + 1 by omega, Nat.pow_succ]
    omega
  omega
theorem inn_ok {n k : Nat} {t : List (List Int)} {b s : Int} (hk : k < n) (o : BOk B0 n k (t, s, b)) (hz : en t k k ≠ 0) {s' : Int} (hs : s'.natAbs ≤ 1) : BOk B0 n (k + 1) (inn (t.getD k []) b k t (n - (k + 1)), s', en t k k) where
  len := (inn_len _).trans o.len
  row := fun i hi => by
    have hl : t.length = n := o.len
    show ((inn _ _ _ _ _).getD i []).length = n
    rw [inn_get _ _ (by omega)]
    split
    · exact elim_len (o.row k hk) (o.row i hi)
    · exact o.row i hi
  sm := fun i => by
    have hl : t.length = n := o.len
    show Sm (2 * bk B0 k + 1) ((inn _ _ _ _ _).getD i [])
    rw [inn_get _ _ (by omega)]
    split
    · exact elim_sm (o.sm k) (o.sm i) (getD_sm (o.sm i) k) o.nz
    · exact sm_mono (by omega) (o.sm i)
  nz := hz
  bs := Nat.lt_of_lt_of_le (getD_sm (o.sm k) k) (Nat.pow_le_pow_right (by omega) (show bk B0 k ≤ 2 * bk B0 k + 1 by omega))
  ss := hs
theorem swp_get {t : List (List Int)} {k c n : Nat} (hl : t.length = n) (hk : k < n) (hc : c < n) (i : Nat) : (swp t k c).getD i [] = if i = c then t.getD k [] else if i = k then t.getD c [] else t.getD i [] := by
  unfold swp
  rw [List.getD_eq_getElem?_getD]
  by_cases h1 : c = i
  · subst h1
    rw [List.getElem?_set_self (by rw [List.length_set]; omega), if_pos rfl]
    rfl
  · rw [List.getElem?_set_ne h1, if_neg (fun e => h1 e.symm)]
    by_cases h2 : k = i
    · subst h2
      rw [List.getElem?_set_self (by omega), if_pos rfl]
      rfl
    · rw [List.getElem?_set_ne h2, if_neg (fun e => h2 e.symm), ← List.getD_eq_getElem?_getD]
theorem swp_ok {n k c : Nat} {t : List (List Int)} {b s s' : Int} (hk : k < n) (hc : c < n) (o : BOk B0 n k (t, s, b)) (hs : s'.natAbs ≤ 1) : BOk B0 n k (swp t k c, s', b) where
  len := by show (List.set (List.set _ _ _) _ _).length = n; rw [List.length_set, List.length_set]; exact o.len
  row := fun i hi => by
    show ((swp t k c).getD i []).length = n
    rw [swp_get o.len hk hc]
    split
    · exact o.row k hk
    · split
      · exact o.row c hc
      · exact o.row i hi
  sm := fun i => by
    show Sm _ ((swp t k c).getD i [])
    rw [swp_get o.len hk hc]
    split
    · exact o.sm k
    · split
      · exact o.sm c
      · exact o.sm i
  nz := o.nz
  bs := o.bs
  ss := hs
theorem picks_mem {t : List (List Int)} {k n c : Nat} (h : c ∈ picks t k n) : k ≤ c ∧ c < n ∧ en t c k ≠ 0 := by
  unfold picks at h
  obtain ⟨j, hj, rfl⟩ := List.mem_map.mp h
  obtain ⟨h1, h2⟩ := List.mem_filter.mp hj
  rw [List.mem_range] at h1
  simp at h2
  exact ⟨by omega, by omega, h2⟩
theorem swp_en {t : List (List Int)} {k c n : Nat} (hl : t.length = n) (hk : k < n) (hc : c < n) (hne : c ≠ k) : en (swp t k c) k k = en t c k := by
  unfold en
  rw [swp_get hl hk hc, if_neg (fun e => hne e.symm), if_pos rfl]
theorem bstep_ok {n k : Nat} {x y : List (List Int) × Int × Int} (hk : k < n) (o : BOk B0 n k x) (h : bstep n k x = some y) : BOk B0 n (k + 1) y := by
  obtain ⟨t, s, b⟩ := x
  unfold bstep at h
  cases hp : picks t k n with
  | nil =>
    simp only [hp] at h
    cases h
  | cons c cs =>
    simp only [hp] at h
    obtain ⟨h1, h2, h3⟩ := picks_mem (t := t) (k := k) (n := n) (c := c) (by rw [hp]; simp)
    by_cases hc : c = k
    · rw [if_pos hc] at h
      cases h
      subst hc
      exact inn_ok hk o h3 o.ss
    · rw [if_neg hc] at h
      cases h
      have hs : (-s).natAbs ≤ 1 := by have := o.ss; simpa using this
      exact inn_ok hk (swp_ok hk h2 o hs) (by rw [swp_en o.len hk h2 hc]; exact h3) hs
theorem brun_ok {n : Nat} {x : List (List Int) × Int × Int} (o : BOk B0 n 0 x) : ∀ k y, k ≤ n → brun n x k = some y → BOk B0 n k y
  | 0, y, _, h => by
    cases h
    exact o
  | k + 1, y, hk, h => by
    have h' : (brun n x k).bind (bstep n k) = some y := h
    cases q : brun n x k with
    | none => rw [q] at h'; cases h'
    | some z =>
      rw [q] at h'
      exact bstep_ok hk (brun_ok o k z (by omega) q) h'
end G
namespace G
open PySem PySem.Spec PyProof.Rows L2 Evl
variable {B0 : Nat}
def rDet : List DV → DV → Prop := fun ds r => ∃ (d : DV) (rs : List (List Int)) (B0 : Nat), ds = [d] ∧ IsRows d rs ∧ rs.length ≤ 4 ∧ (∀ x ∈ rs, x.length = rs.length) ∧ (∀ x ∈ rs, Sm B0 x) ∧ 1 ≤ B0 ∧ B0 ≤ 8000000 ∧ r = .int (bar rs)
theorem rows_at {rs : List (List Int)} {Pr : List Int → Prop} (h : ∀ x ∈ rs, Pr x) (i : Nat) (hi : i < rs.length) : Pr (rs.getD i []) := by
  rw [List.getD_eq_getElem?_getD, List.getElem?_eq_getElem hi]
  exact h _ (List.getElem_mem _)
theorem rows_sm {rs : List (List Int)} {B : Nat} (h : ∀ x ∈ rs, Sm B x) (i : Nat) : Sm B (rs.getD i []) := by
  rw [List.getD_eq_getElem?_getD]
  cases q : rs[i]? with
  | none => exact fun x hx => by cases hx
  | some x => exact h x (List.mem_of_getElem? q)
theorem bk4 {k : Nat} (h : k ≤ 4) : bk B0 k ≤ 16 * B0 + 15 := by
  have : k = 0 ∨ k = 1 ∨ k = 2 ∨ k = 3 ∨ k = 4 := by omega
  rcases this with rfl | rfl | rfl | rfl | rfl <;> simp only [bk] <;> omega
theorem bk3 {k : Nat} (h : k ≤ 3) : bk B0 k ≤ 8 * B0 + 7 := by
  have : k = 0 ∨ k = 1 ∨ k = 2 ∨ k = 3 := by omega
  rcases this with rfl | rfl | rfl | rfl <;> simp only [bk] <;> omega
theorem det_start {rs : List (List Int)} (h1 : ∀ x ∈ rs, x.length = rs.length) (h2 : ∀ x ∈ rs, Sm B0 x) (h3 : 1 ≤ B0) : BOk B0 rs.length 0 (rs, 1, 1) :=
  ⟨rfl, fun i hi => rows_at h1 i hi, fun i => rows_sm h2 i, by show (1 : Int) ≠ 0; decide, by show 1 < 2 ^ B0; exact Nat.one_lt_two_pow (by omega), by show (1 : Int).natAbs ≤ 1; decide⟩
theorem map_set_row (t : List (List Int)) (i : Nat) (r : List Int) : (t.map rowL).set i (rowL r) = (t.set i r).map rowL := (List.map_set).symm
end G
namespace G
theorem atI_head {α : Type} {d : α} {ds : List α} : L2.atI (d :: ds) 0 = some d := by
  have := atI_nat (xs := d :: ds) (i := 0) (by simp)
  exact this
end G
set_option Elab.async false
set_option linter.all false
set_option maxRecDepth 100000
namespace G
open PySem PySem.Spec PyProof.Rows L2 Evl
/-- m rows of w items -/
def genM (m w : Nat) (f : Nat → Nat → Int) : List (List Int) := (List.range m).map fun i => (List.range w).map fun j => f i j
theorem genM_len {m w : Nat} {f : Nat → Nat → Int} : (genM m w f).length = m := by simp [genM]
theorem genM_row {m w : Nat} {f : Nat → Nat → Int} : ∀ x ∈ genM m w f, x.length = w := fun x hx => by
  obtain ⟨i, _, rfl⟩ := List.mem_map.mp hx
  simp
theorem genM_at {m w : Nat} {f : Nat → Nat → Int} {i : Nat} (hi : i < m) : (genM m w f).getD i [] = (List.range w).map fun j => f i j := by
  unfold genM
  rw [List.getD_eq_getElem?_getD, List.getElem?_map, List.getElem?_range hi]
  rfl
theorem en_gen {m w : Nat} {f : Nat → Nat → Int} {i j : Nat} (hi : i < m) (hj : j < w) : en (genM m w f) i j = f i j := by
  unfold en
  rw [genM_at hi, List.getD_eq_getElem?_getD, List.getElem?_map, List.getElem?_range hj]
  rfl
theorem genM_sm {m w B : Nat} {f : Nat → Nat → Int} (h : ∀ i j, i < m → j < w → (f i j).natAbs < 2 ^ B) : ∀ x ∈ genM m w f, Sm B x := fun x hx y hy => by
  obtain ⟨i, hi, rfl⟩ := List.mem_map.mp hx
  obtain ⟨j, hj, rfl⟩ := List.mem_map.mp hy
  exact h i j (List.mem_range.mp hi) (List.mem_range.mp hj)
structure GOk (rs : List (List Int)) (w B : Nat) : Prop where
  len : rs.length ≤ 100
  wid : w ≤ 100
  row : ∀ x ∈ rs, x.length = w
  sm : ∀ x ∈ rs, Sm B x
theorem GOk.rowAt {rs : List (List Int)} {w B : Nat} (h : GOk rs w B) {i : Nat} (hi : i < rs.length) : (rs.getD i []).length = w := rows_at h.row i hi
theorem GOk.en {rs : List (List Int)} {w B : Nat} (h : GOk rs w B) (i j : Nat) : (en rs i j).natAbs < 2 ^ B := getD_sm (rows_sm h.sm i) j
theorem GOk.gen {m w B : Nat} {f : Nat → Nat → Int} (hm : m ≤ 100) (hw : w ≤ 100) (h : ∀ i j, i < m → j < w → (f i j).natAbs < 2 ^ B) : GOk (genM m w f) w B := ⟨by rw [genM_len]; exact hm, hw, genM_row, genM_sm h⟩
theorem GOk.mono {rs : List (List Int)} {w A B : Nat} (h : GOk rs w A) (hab : A ≤ B) : GOk rs w B := ⟨h.len, h.wid, h.row, fun x hx => sm_mono hab (h.sm x hx)⟩
def subM (a b : List (List Int)) (w : Nat) := genM a.length w fun i j => en a i j - en b i j
def addM (a b : List (List Int)) (w : Nat) := genM a.length w fun i j => en a i j + en b i j
def negM (a : List (List Int)) (w : Nat) := genM a.length w fun i j => -en a i j
def scaleM (k : Int) (a : List (List Int)) (w : Nat) := genM a.length w fun i j => k * en a i j
def trM (a : List (List Int)) (w : Nat) := genM w a.length fun i j => en a j i
def mulE (a b : List (List Int)) (n i j : Nat) : Int := ((List.range n).map fun k => en a i k * en b k j).sum
def mulM (a b : List (List Int)) (w : Nat) := genM a.length w fun i j => mulE a b b.length i j
def delC (r : List Int) (k : Nat) : List Int := r.take k ++ r.drop (k + 1)
def minorM (rs : List (List Int)) (i k : Nat) : List (List Int) := ((List.range rs.length).filter fun j => !decide (j = i)).map fun j => delC (rs.getD j []) k
def adjE (a : List (List Int)) (i k : Nat) : Int := if (i + k) % 2 = 1 then -bar (minorM a k i) else bar (minorM a k i)
def adjM (a : List (List Int)) (n : Nat) := genM n n fun i k => adjE a i k
theorem lstmap {n : Nat} {f : Nat → Int} : DV.lst ((List.range n).map fun j => .int (f j)) = rowL ((List.range n).map f) := by
  unfold rowL
  rw [List.map_map]
  rfl
theorem genD {m w : Nat} {f : Nat → Nat → Int} : DV.lst ((List.range m).map fun i => rowL ((List.range w).map fun j => f i j)) = .lst ((genM m w f).map rowL) := by
  unfold genM
  rw [List.map_map]
  rfl
/-! ### promises -/
def gridF (rs : List (List Int)) (w : Nat) : List (Str × DV) := [("rows", rowsT rs), ("width", .int w)]
def rMinor : List DV → DV → Prop := fun ds r => ∃ (rs : List (List Int)) (i k : Nat), ds = [rowsT rs, .int i, .int k] ∧ rs.length ≤ 100 ∧ (∀ x ∈ rs, x.length ≤ 100) ∧ r = .lst ((minorM rs i k).map rowT)
def rInit : List DV → List (Str × DV) → Prop := fun ds fs => ∃ (d e : DV) (rs : List (List Int)) (w : Nat), ds = [d, e] ∧ IsRows d rs ∧ rs.length ≤ 1000 ∧ w ≤ 1000000 ∧ (∀ x ∈ rs, x.length = w) ∧ (e = .int w ∨ (e = .non ∧ (rs = [] → w = 0))) ∧ fs = gridF rs w
def rLenG (C : Addr) : List DV → DV → Prop := fun ds r => ∃ rs w, ds = [gridD C rs w] ∧ r = .int (rs.length : Nat)
def rEqG (C : Addr) : List DV → DV → Prop := fun ds r => ∃ a n b m, ds = [gridD C a n, gridD C b m] ∧ a.length ≤ 1000 ∧ b.length ≤ 1000 ∧ (∀ x ∈ a, x.length ≤ 1000) ∧ (∀ x ∈ b, x.length ≤ 1000) ∧ r = .bl (decide (a = b) && decide (n = m))
def rSubG (C : Addr) : List DV → DV → Prop := fun ds r => ∃ a b w B, ds = [gridD C a w, gridD C b w] ∧ GOk a w B ∧ GOk b w B ∧ a.length = b.length ∧ r = gridD C (subM a b w) w
def rMulG (C : Addr) : List DV → DV → Prop := fun ds r => ∃ a b n w A B, ds = [gridD C a n, gridD C b w] ∧ n = b.length ∧ GOk a n A ∧ GOk b w B ∧ A + B ≤ 134217728 ∧ r = gridD C (mulM a b w) w
def rScaled (C : Addr) : List DV → DV → Prop := fun ds r => ∃ (a : List (List Int)) (w : Nat) (k : Int) (A B : Nat), ds = [gridD C a w, .int k] ∧ GOk a w A ∧ k.natAbs < 2 ^ B ∧ B + A ≤ 134217728 ∧ r = gridD C (scaleM k a w) w
def rTrans (C : Addr) : List DV → DV → Prop := fun ds r => ∃ a w B, ds = [gridD C a w] ∧ GOk a w B ∧ r = gridD C (trM a w) a.length
def rIsSq (C : Addr) : List DV → DV → Prop := fun ds r => ∃ a w, ds = [gridD C a w] ∧ r = .bl (decide (a.length = w))
def rDetG (C : Addr) : List DV → DV → Prop := fun ds r => ∃ a w B, ds = [gridD C a w] ∧ GOk a w B ∧ 1 ≤ B ∧ B ≤ 8000000 ∧ a.length = w ∧ w ≤ 4 ∧ r = .int (bar a)
def rAdj (C : Addr) : List DV → DV → Prop := fun ds r => ∃ a w B, ds = [gridD C a w] ∧ GOk a w B ∧ 1 ≤ B ∧ B ≤ 8000000 ∧ a.length = w ∧ w ≤ 4 ∧ r = gridD C (adjM a w) w
/-! ### equality of rows -/
theorem eqv_ints : ∀ a b : List Int, PyData.eqvAll (pys (a.map .int)) (pys (b.map .int)) = decide (a = b)
  | [], [] => by simp [pys, PyData.eqvAll]
  | [], y :: ys => by simp [pys, PyData.eqvAll]
  | x :: xs, [] => by simp [pys, PyData.eqvAll]
  | x :: xs, y :: ys => by
    show (PyData.eqv (.int x) (.int y) && PyData.eqvAll (pys (xs.map .int)) (pys (ys.map .int))) = _
    rw [eqv_ints xs ys]
    show ((x == y) && _) = _
    by_cases h : x = y
    · subst h
      simp
    · simp [h]
theorem eqv_rows : ∀ a b : List (List Int), PyData.eqvAll (pys (a.map rowT)) (pys (b.map rowT)) = decide (a = b)
  | [], [] => by simp [pys, PyData.eqvAll]
  | [], y :: ys => by simp [pys, PyData.eqvAll]
  | x :: xs, [] => by simp [pys, PyData.eqvAll]
  | x :: xs, y :: ys => by
    show (PyData.eqv (.tuple (pys (x.map .int))) (.tuple (pys (y.map .int))) && PyData.eqvAll (pys (xs.map rowT)) (pys (ys.map rowT))) = _
    rw [eqv_rows xs ys]
    show (PyData.eqvAll (pys (x.map .int)) (pys (y.map .int)) && _) = _
    rw [eqv_ints]
    by_cases h : x = y
    · subst h
      simp
    · simp [h]
theorem lay_ints : ∀ a : List Int, PyData.canLayAll0 (pys (a.map .int)) = true ∧ PyData.depthAll (pys (a.map .int)) = 0
  | [] => ⟨rfl, rfl⟩
  | x :: xs => by
    obtain ⟨h1, h2⟩ := lay_ints xs
    refine ⟨?_, ?_⟩
    · show (true && PyData.canLayAll0 (pys (xs.map .int))) = true
      rw [h1]
      rfl
    · show max 0 (PyData.depthAll (pys (xs.map .int))) = 0
      rw [h2]
      rfl
theorem lay_rows : ∀ a : List (List Int), PyData.canLayAll0 (pys (a.map rowT)) = true ∧ PyData.depthAll (pys (a.map rowT)) ≤ 1
  | [] => ⟨rfl, Nat.zero_le _⟩
  | x :: xs => by
    obtain ⟨h1, h2⟩ := lay_rows xs
    obtain ⟨h3, h4⟩ := lay_ints x
    refine ⟨?_, ?_⟩
    · show (PyData.canLayAll0 (pys (x.map .int)) && PyData.canLayAll0 (pys (xs.map rowT))) = true
      rw [h1, h3]
      rfl
    · show max (PyData.depthAll (pys (x.map .int)) + 1) (PyData.depthAll (pys (xs.map rowT))) ≤ 1
      omega
theorem shaped_rows (a : List (List Int)) : SeqAt.shaped (rowsT a).py = true := by
  obtain ⟨h1, h2⟩ := lay_rows a
  show (PyData.canLayAll0 (pys (a.map rowT)) && decide (PyData.depthAll (pys (a.map rowT)) + 1 ≤ 64)) = true
  rw [h1]
  simp
  omega
theorem pl_ints : ∀ a : List Int, pls (a.map .int) = true
  | [] => rfl
  | x :: xs => by show (true && pls (xs.map .int)) = true; rw [pl_ints xs]; rfl
theorem pl_rows : ∀ a : List (List Int), pls (a.map rowT) = true
  | [] => rfl
  | x :: xs => by show (pls (x.map .int) && pls (xs.map rowT)) = true; rw [pl_ints x, pl_rows xs]; rfl
end G
namespace G
open PySem PySem.Spec PyProof.Rows L2 Evl
theorem cut_take (r : List Int) (k : Nat) : cutD (r.map .int) none (some (k : Int)) = (r.take k).map .int := by
  unfold cutD
  rw [HT.sIx_none, HT.sIx_nat, List.drop_zero, Nat.sub_zero, List.length_map, List.map_take]
  by_cases h : k ≤ r.length
  · rw [Nat.min_eq_left h]
  · rw [Nat.min_eq_right (by omega), List.take_of_length_le (by simp), List.take_of_length_le (by simp; omega)]
theorem cut_drop (r : List Int) (k : Nat) : cutD (r.map .int) (some ((k : Int) + 1)) none = (r.drop (k + 1)).map .int := by
  unfold cutD
  rw [show ((k : Int) + 1) = ((k + 1 : Nat) : Int) by omega, HT.sIx_none, HT.sIx_nat, List.length_map, List.map_drop]
  by_cases h : k + 1 ≤ r.length
  · rw [Nat.min_eq_left h, List.take_of_length_le (by simp)]
  · rw [Nat.min_eq_right (by omega), List.drop_of_length_le (by simp), List.drop_of_length_le (by simp; omega)]
    simp
end G
namespace G
open PySem PySem.Spec PyProof.Rows L2 Evl
theorem getD_rowT {a : List (List Int)} {i : Nat} (h : i < a.length) : (a.map rowT).getD i .non = rowT (a.getD i []) := by
  rw [List.getD_eq_getElem?_getD, List.getElem?_map, List.getElem?_eq_getElem h, List.getD_eq_getElem?_getD, List.getElem?_eq_getElem h]
  rfl
theorem getD_rowL {a : List (List Int)} {i : Nat} (h : i < a.length) : (a.map rowL).getD i .non = rowL (a.getD i []) := by
  rw [List.getD_eq_getElem?_getD, List.getElem?_map, List.getElem?_eq_getElem h, List.getD_eq_getElem?_getD, List.getElem?_eq_getElem h]
  rfl
theorem initOf {d : DV} {m : List (List Int)} {w : Nat} (h : IsRows d m) (hl : m.length ≤ 1000) (hw : w ≤ 1000000) (hr : ∀ x ∈ m, x.length = w) : rInit ([d, .int w] ++ []) (gridF m w) := ⟨d, _, m, w, rfl, h, hl, hw, hr, .inl rfl, rfl⟩
theorem row_gen {r : List Int} {n : Nat} (h : r.length = n) : r = (List.range n).map fun j => r.getD j 0 := by
  refine List.ext_getElem (by simp [h]) fun i h1 h2 => ?_
  simp [List.getD_eq_getElem?_getD, List.getElem?_eq_getElem h1]
theorem take_gen {r : List Int} {n k : Nat} (h : r.length = n) (hk : k ≤ n) : r.take k = (List.range k).map fun j => r.getD j 0 := by
  refine List.ext_getElem (by simp; omega) fun i h1 h2 => ?_
  rw [List.length_take] at h1
  have h3 : i < r.length := by omega
  simp [List.getD_eq_getElem?_getD, List.getElem?_eq_getElem h3]
theorem drop_gen {r : List Int} {n k : Nat} (h : r.length = n) (hk : k ≤ n) : r.drop k = (List.range (n - k)).map fun j => r.getD (k + j) 0 := by
  refine List.ext_getElem (by simp [h]) fun i h1 h2 => ?_
  simp at h1
  have h3 : k + i < r.length := by omega
  simp [List.getD_eq_getElem?_getD, List.getElem?_eq_getElem h3]
theorem dot_mul {a b : List (List Int)} {w i j : Nat} (ha : (a.getD i []).length = b.length) (hj : j < w) : dotI (a.getD i []) ((trM b w).getD j []) = mulE a b b.length i j := by
  unfold dotI mulE trM
  rw [genM_at hj, ha, List.length_map, List.length_range, Nat.min_self]
  congr 1
  refine List.map_congr_left fun k hk => ?_
  rw [List.mem_range] at hk
  congr 1
  rw [List.getD_eq_getElem?_getD, List.getElem?_map, List.getElem?_range hk]
  rfl
theorem sum_lt {f : Nat → Int} {B : Nat} : ∀ n, (∀ k, k < n → (f k).natAbs < 2 ^ B) → n ≤ 100 → ((List.range n).map f).sum.natAbs ≤ n * 2 ^ B
  | 0, _, _ => by simp
  | n + 1, h, hn => by
    rw [List.range_succ, List.map_append, List.sum_append]
    have h1 := sum_lt n (fun k hk => h k (by omega)) (by omega)
    have h2 := h n (by omega)
    simp only [List.map_cons, List.map_nil, List.sum_cons, List.sum_nil]
    have h3 : (((List.range n).map f).sum + (f n + 0)).natAbs ≤ ((List.range n).map f).sum.natAbs + (f n).natAbs := by omega
    rw [Nat.add_mul]
    omega
theorem mulE_sm {a b : List (List Int)} {n A B i j : Nat} (ha : ∀ k, (en a i k).natAbs < 2 ^ A) (hb : ∀ k, (en b k j).natAbs < 2 ^ B) (hn : n ≤ 100) : (mulE a b n i j).natAbs < 2 ^ (A + B + 7) := by
  have h := sum_lt (f := fun k => en a i k * en b k j) (B := A + B) n (fun k _ => natAbs_mul_lt (ha k) (hb k)) hn
  unfold mulE
  have e : 2 ^ (A + B + 7) = 128 * 2 ^ (A + B) := by rw [Nat.pow_add]; omega
  have p : 0 < 2 ^ (A + B) := Nat.pow_pos (by omega)
  have : n * 2 ^ (A + B) ≤ 100 * 2 ^ (A + B) := Nat.mul_le_mul_right _ hn
  omega
theorem bar_smk {B0 n : Nat} {rs : List (List Int)} (h1 : ∀ x ∈ rs, x.length = rs.length) (h2 : ∀ x ∈ rs, Sm B0 x) (h3 : 1 ≤ B0) (hn : rs.length = n) : (bar rs).natAbs < 2 ^ (bk B0 n + 1) := by
  unfold bar
  cases h : brun rs.length (rs, 1, 1) rs.length with
  | none =>
    show (0 : Int).natAbs < _
    exact Nat.pow_pos (by omega)
  | some x =>
    have o := brun_ok (det_start h1 h2 h3) _ _ (Nat.le_refl _) h
    have hs := o.ss
    have hb := o.bs
    rw [hn] at hb
    show (x.2.1 * x.2.2).natAbs < _
    rw [Int.natAbs_mul]
    have : x.2.1.natAbs * x.2.2.natAbs ≤ 1 * x.2.2.natAbs := Nat.mul_le_mul_right _ hs
    have e : (2 : Nat) ^ (bk B0 n + 1) = 2 * 2 ^ bk B0 n := by rw [Nat.pow_succ, Nat.mul_comm]
    omega
theorem bar_sm {B0 : Nat} {rs : List (List Int)} (h1 : ∀ x ∈ rs, x.length = rs.length) (h2 : ∀ x ∈ rs, Sm B0 x) (h3 : 1 ≤ B0) (h4 : rs.length ≤ 4) : (bar rs).natAbs < 2 ^ (16 * B0 + 16) :=
  Nat.lt_of_lt_of_le (bar_smk h1 h2 h3 rfl) (Nat.pow_le_pow_right (by omega) (by have := bk4 (B0 := B0) h4; omega))
theorem bar_sm3 {B0 : Nat} {rs : List (List Int)} (h1 : ∀ x ∈ rs, x.length = rs.length) (h2 : ∀ x ∈ rs, Sm B0 x) (h3 : 1 ≤ B0) (h4 : rs.length ≤ 3) : (bar rs).natAbs < 2 ^ (8 * B0 + 8) :=
  Nat.lt_of_lt_of_le (bar_smk h1 h2 h3 rfl) (Nat.pow_le_pow_right (by omega) (by have := bk3 (B0 := B0) h4; omega))
theorem delC_len {r : List Int} {n k : Nat} (h : r.length = n) (hk : k < n) : (delC r k).length = n - 1 := by
  unfold delC
  rw [List.length_append, List.length_take, List.length_drop]
  omega
theorem delC_sm {r : List Int} {k B : Nat} (h : Sm B r) : Sm B (delC r k) := fun x hx => by
  rcases List.mem_append.mp hx with q | q
  · exact h x (List.mem_of_mem_take q)
  · exact h x (List.mem_of_mem_drop q)
theorem filt_len {n i : Nat} (hn : n ≤ 4) (hi : i < n) : ((List.range n).filter fun j => !decide (j = i)).length = n - 1 := by
  have : n = 1 ∨ n = 2 ∨ n = 3 ∨ n = 4 := by omega
  rcases this with rfl | rfl | rfl | rfl
  · have : i = 0 := by omega
    subst this; rfl
  · have : i = 0 ∨ i = 1 := by omega
    rcases this with rfl | rfl <;> rfl
  · have : i = 0 ∨ i = 1 ∨ i = 2 := by omega
    rcases this with rfl | rfl | rfl <;> rfl
  · have : i = 0 ∨ i = 1 ∨ i = 2 ∨ i = 3 := by omega
    rcases this with rfl | rfl | rfl | rfl <;> rfl
theorem minorM_len {rs : List (List Int)} {i k : Nat} (hn : rs.length ≤ 4) (hi : i < rs.length) : (minorM rs i k).length = rs.length - 1 := by
  unfold minorM
  rw [List.length_map, filt_len hn hi]
theorem minorM_mem {rs : List (List Int)} {i k n : Nat} (hr : ∀ x ∈ rs, x.length = n) (hk : k < n) : ∀ x ∈ minorM rs i k, x.length = n - 1 := fun x hx => by
  unfold minorM at hx
  obtain ⟨j, hj, rfl⟩ := List.mem_map.mp hx
  have hj' := List.mem_range.mp (List.mem_filter.mp hj).1
  exact delC_len (rows_at hr j hj') hk
theorem minorM_sm {rs : List (List Int)} {i k B : Nat} (hr : ∀ x ∈ rs, Sm B x) : ∀ x ∈ minorM rs i k, Sm B x := fun x hx => by
  unfold minorM at hx
  obtain ⟨j, hj, rfl⟩ := List.mem_map.mp hx
  exact delC_sm (rows_sm hr j)
theorem adjE_sm {a : List (List Int)} {n i k B : Nat} (h : GOk a n B) (h3 : 1 ≤ B) (hl : a.length = n) (hn : n ≤ 4) (hi : i < n) (hk : k < n) : (adjE a i k).natAbs < 2 ^ (8 * B + 8) := by
  have h1 := minorM_len (rs := a) (i := k) (k := i) (by omega) (by omega)
  have h2 := minorM_mem (i := k) (k := i) h.row hi
  have := bar_sm3 (rs := minorM a k i) (fun x hx => by rw [h1, hl]; exact h2 x hx) (minorM_sm h.sm) h3 (by omega)
  unfold adjE
  split
  · omega
  · exact this
end G
namespace G
open PySem PySem.Spec PyProof.Rows L2 Evl
theorem cut_from (r : List Int) (k : Nat) : cutD (r.map .int) (some (k : Int)) none = (r.drop k).map .int := by
  unfold cutD
  rw [HT.sIx_none, HT.sIx_nat, List.length_map, List.map_drop]
  by_cases h : k ≤ r.length
  · rw [Nat.min_eq_left h, List.take_of_length_le (by simp)]
  · rw [Nat.min_eq_right (by omega), List.drop_of_length_le (by simp), List.drop_of_length_le (by simp; omega)]
    simp
theorem genDT {m w : Nat} {f : Nat → Nat → Int} : DV.lst ((List.range m).map fun i => rowT ((List.range w).map fun j => f i j)) = .lst ((genM m w f).map rowT) := by
  unfold genM
  rw [List.map_map]
  rfl
def blkM (g : List (List Int)) (h : Nat) := genM h h fun i j => en g i j
def sideM (g : List (List Int)) (n h : Nat) := genM h (n - h) fun i j => en g i (h + j)
def tlM (g : List (List Int)) (n h : Nat) := genM (n - h) (n - h) fun i j => en g (h + i) (h + j)
def tailM (g : List (List Int)) (n h : Nat) : List (List Int) := if h = 0 then tlM g n h else
  subM (scaleM (bar (blkM g h)) (tlM g n h) (n - h)) (mulM (mulM (trM (sideM g n h) (n - h)) (adjM (blkM g h) h) h) (sideM g n h) (n - h)) (n - h)
def rTail (C : Addr) : List DV → DV → Prop := fun ds r => ∃ (g : List (List Int)) (n h : Nat), ds = [gridD C g n, .int ((h : Int) + 1)] ∧ h < n ∧ n ≤ 4 ∧ g.length = n ∧ GOk g n 900 ∧ r = gridD C (tailM g n h) (n - h)
/-! ### the law's own defs -/
def nx (l : List Int) (m : Int) : Int := match l with
  | [] => 0
  | x :: _ => x.fmod m
def rNext : List DV → List DV → List DV → DV → Prop := fun s ds s' r => ∃ (l : List Int) (m : Int), s = l.map .int ∧ ds = [.int m] ∧ m ≠ 0 ∧ s' = l.tail.map .int ∧ r = .int (nx l m)
def rsum (n : Nat) (f : Nat → Int) : Int := ((List.range n).map f).sum
theorem rsum_succ {n : Nat} {f : Nat → Int} : rsum (n + 1) f = rsum n f + f n := by
  unfold rsum
  rw [List.range_succ, List.map_append, List.sum_append]
  simp
def normE (g : List (List Int)) (v : List Int) : Int := rsum v.length fun i => rsum v.length fun j => en g i j * v.getD i 0 * v.getD j 0
def rNorm : List DV → DV → Prop := fun ds r => ∃ (g : List (List Int)) (v : List Int), ds = [.lst (g.map rowL), .lst (v.map .int)] ∧ g.length = v.length ∧ (∀ x ∈ g, x.length = v.length) ∧ (∀ x ∈ g, Sm 1000 x) ∧ Sm 1000 v ∧ v.length ≤ 100 ∧ r = .int (normE g v)
def sgn (j : Nat) : Int := if j % 2 = 0 then 1 else -1
def restR (rs : List (List Int)) (j : Nat) : List (List Int) := rs.tail.map fun r => delC r j
/-- the determinant of n + 1 rows -/
def detL : Nat → List (List Int) → Int
  | 0, rs => en rs 0 0
  | n + 1, rs => rsum (n + 2) fun j => sgn j * en rs 0 j * detL n (restR rs j)
def rLDet (n : Nat) : List DV → DV → Prop := fun ds r => ∃ (d : DV) (rs : List (List Int)), ds = [d] ∧ d = .lst (rs.map rowL) ∧ rs.length = n + 1 ∧ (∀ x ∈ rs, x.length = n + 1) ∧ (∀ x ∈ rs, Sm 100 x) ∧ n ≤ 4 ∧ r = .int (detL n rs)
def minorE (g : List (List Int)) (h : Nat) : Int := match h with
  | 0 => 1
  | n + 1 => detL n ((g.take (n + 1)).map fun r => r.take (n + 1))
def rLMin : List DV → DV → Prop := fun ds r => ∃ (g : List (List Int)) (h : Nat), ds = [.lst (g.map rowL), .int h] ∧ h ≤ 4 ∧ h ≤ g.length ∧ (∀ x ∈ g, x.length = g.length) ∧ (∀ x ∈ g, Sm 100 x) ∧ r = .int (minorE g h)
theorem bar_sm' {a : List (List Int)} {n B : Nat} (h : GOk a n B) (h3 : 1 ≤ B) (hl : a.length = n) (hn : n ≤ 4) : (bar a).natAbs < 2 ^ (16 * B + 16) := bar_sm (fun x hx => by rw [h.row x hx, hl]) h.sm h3 (by omega)
theorem detL_sm : ∀ (n : Nat) (rs : List (List Int)), n ≤ 4 → (∀ x ∈ rs, Sm 100 x) → (detL n rs).natAbs < 2 ^ (107 * (n + 1))
  | 0, rs, _, h => by
    have := getD_sm (rows_sm h 0) 0
    exact Nat.lt_of_lt_of_le this (Nat.pow_le_pow_right (by omega) (by omega))
  | n + 1, rs, hn, h => by
    have hr : ∀ j, ∀ x ∈ restR rs j, Sm 100 x := fun j x hx => by
      obtain ⟨r, hr, rfl⟩ := List.mem_map.mp hx
      exact delC_sm (h r (List.mem_of_mem_tail hr))
    have key := sum_lt (f := fun j => sgn j * en rs 0 j * detL n (restR rs j)) (B := 100 + 107 * (n + 1)) (n + 2) (fun j _ => by
      have h1 : (sgn j * en rs 0 j).natAbs < 2 ^ 100 := by
        have q : (en rs 0 j).natAbs < 2 ^ 100 := getD_sm (rows_sm h 0) j
        unfold sgn
        split
        · rw [Int.one_mul]
          exact q
        · rw [Int.neg_mul, Int.one_mul, Int.natAbs_neg]
          exact q
      exact natAbs_mul_lt h1 (detL_sm n _ (by omega) (hr j))) (by omega)
    have e : 2 ^ (107 * (n + 1 + 1)) = 128 * 2 ^ (100 + 107 * (n + 1)) := by
      rw [show 107 * (n + 1 + 1) = 7 + (100 + 107 * (n + 1)) by omega, Nat.pow_add]
    have p : 0 < 2 ^ (100 + 107 * (n + 1)) := Nat.pow_pos (by omega)
    have q : (n + 2) * 2 ^ (100 + 107 * (n + 1)) ≤ 6 * 2 ^ (100 + 107 * (n + 1)) := Nat.mul_le_mul_right _ (by omega)
    show (rsum (n + 2) _).natAbs < _
    unfold rsum
    omega
end G
namespace G
open PySem PySem.Spec PyProof.Rows L2 Evl
theorem restR_len {rs : List (List Int)} {j : Nat} : (restR rs j).length = rs.length - 1 := by
  unfold restR
  rw [List.length_map, List.length_tail]
theorem restR_row {rs : List (List Int)} {n j : Nat} (h : ∀ x ∈ rs, x.length = n) (hj : j < n) : ∀ x ∈ restR rs j, x.length = n - 1 := fun x hx => by
  obtain ⟨r, hr, rfl⟩ := List.mem_map.mp hx
  exact delC_len (h r (List.mem_of_mem_tail hr)) hj
theorem restR_sm {rs : List (List Int)} {j B : Nat} (h : ∀ x ∈ rs, Sm B x) : ∀ x ∈ restR rs j, Sm B x := fun x hx => by
  obtain ⟨r, hr, rfl⟩ := List.mem_map.mp hx
  exact delC_sm (h r (List.mem_of_mem_tail hr))
theorem tail_getD {rs : List (List Int)} {i : Nat} : rs.tail.getD i [] = rs.getD (i + 1) [] := by
  cases rs <;> simp
def NumPre (ds : List DV) : Prop := ∃ ns : List Int, ds = [.lst (ns.map .int)] ∧ ns.length ≤ 63
def NumPost (_ : List DV) (rs : List DV) : Prop := ∃ out : List Int, rs = out.map .int
/-- the Gram matrix of the rows R, its last item more by e -/
def gramE (R : Nat → Nat → Int) (n : Nat) (e : Int) (i j : Nat) : Int := rsum n (fun k => R i k * R j k) + if i + 1 = n ∧ j + 1 = n then e else 0
def gramM (R : Nat → Nat → Int) (n : Nat) (e : Int) := genM n n (gramE R n e)
structure LowR (R : Nat → Nat → Int) (n : Nat) : Prop where
  up : ∀ i j, i < n → i < j → R i j = 0
  sm : ∀ i j, i < n → (R i j).natAbs ≤ 2
def GramPre (s ds : List DV) : Prop := ∃ (l : List Int) (n : Nat), s = l.map .int ∧ ds = [.int n] ∧ 1 ≤ n ∧ n ≤ 4
def GramPost (s ds s' : List DV) (r : DV) : Prop := ∃ (n : Nat) (l' : List Int) (R : Nat → Nat → Int) (e : Int), ds = [.int n] ∧ s' = l'.map .int ∧ LowR R n ∧ 0 ≤ e ∧ e ≤ 2 ∧ r = .lst ((gramM R n e).map rowL)
theorem nx_bound (l : List Int) {m : Int} (h : 0 < m) : 0 ≤ nx l m ∧ nx l m < m := by
  unfold nx
  cases l with
  | nil => exact ⟨Int.le_refl _, h⟩
  | cons x xs => exact ⟨Int.fmod_nonneg_of_pos x h, Int.fmod_lt_of_pos x h⟩
theorem drop_tail (l : List Int) (j : Nat) : (l.drop j).tail = l.drop (j + 1) := by
  rw [List.tail_drop]
end G
namespace G
def rLDetA : List DV → DV → Prop := fun ds r => ∃ n, n ≤ 4 ∧ rLDet n ds r
end G
namespace G
open PySem PySem.Spec PyProof.Rows L2 Evl
structure RowsOk (rs : List (List Int)) (n i : Nat) : Prop where
  len : rs.length = i
  row : ∀ a, a < i → (rs.getD a []).length = n
  up : ∀ a b, a < i → a < b → en rs a b = 0
  sm : ∀ a b, a < i → (en rs a b).natAbs ≤ 2
theorem RowsOk.more {rs : List (List Int)} {n i : Nat} {r : List Int} (o : RowsOk rs n i) (h1 : r.length = n) (h2 : ∀ b, i < b → r.getD b 0 = 0) (h3 : ∀ b, (r.getD b 0).natAbs ≤ 2) : RowsOk (rs ++ [r]) n (i + 1) := by
  have at_ : ∀ a, (rs ++ [r]).getD a [] = if a < i then rs.getD a [] else if a = i then r else [] := fun a => by
    have := o.len
    rw [List.getD_eq_getElem?_getD]
    by_cases h : a < i
    · rw [if_pos h, List.getElem?_append_left (by omega), ← List.getD_eq_getElem?_getD]
    · rw [if_neg h, List.getElem?_append_right (by omega)]
      by_cases h' : a = i
      · rw [if_pos h', show a - rs.length = 0 by omega]
        rfl
      · rw [if_neg h']
        obtain ⟨c, hc⟩ : ∃ c, a - rs.length = c + 1 := ⟨a - rs.length - 1, by omega⟩
        rw [hc]
        rfl
  refine ⟨by rw [List.length_append, o.len]; rfl, fun a ha => ?_, fun a b ha hb => ?_, fun a b ha => ?_⟩
  · rw [at_]
    by_cases h : a < i
    · rw [if_pos h]
      exact o.row a h
    · rw [if_neg h, if_pos (by omega)]
      exact h1
  · unfold en
    rw [at_]
    by_cases h : a < i
    · rw [if_pos h]
      exact o.up a b h hb
    · rw [if_neg h, if_pos (by omega)]
      exact h2 b (by omega)
  · unfold en
    rw [at_]
    by_cases h : a < i
    · rw [if_pos h]
      exact o.sm a b h
    · rw [if_neg h, if_pos (by omega)]
      exact h3 b
/-- a new row -/
def newRow (ys : List Int) (n i : Nat) (x : Int) : List Int := ((List.range i).map fun j => nx (ys.drop j) 3 - 1) ++ [x] ++ (List.range (n - i - 1)).map fun _ => 0
theorem newRow_len {ys : List Int} {n i : Nat} {x : Int} (h : i < n) : (newRow ys n i x).length = n := by
  unfold newRow
  simp
  omega
theorem newRow_up {ys : List Int} {n i : Nat} {x : Int} (b : Nat) (hb : i < b) : (newRow ys n i x).getD b 0 = 0 := by
  unfold newRow
  rw [List.getD_eq_getElem?_getD, List.getElem?_append_right (by simp; omega), List.getElem?_map]
  cases (List.range (n - i - 1))[b - (((List.range i).map fun j => nx (ys.drop j) 3 - 1) ++ [x]).length]? <;> rfl
theorem newRow_sm {ys : List Int} {n i : Nat} {x : Int} (hx : x.natAbs ≤ 2) (b : Nat) : ((newRow ys n i x).getD b 0).natAbs ≤ 2 := by
  rw [List.getD_eq_getElem?_getD]
  cases q : (newRow ys n i x)[b]? with
  | none => decide
  | some y =>
    show y.natAbs ≤ 2
    have hm := List.mem_of_getElem? q
    unfold newRow at hm
    rcases List.mem_append.mp hm with h | h
    · rcases List.mem_append.mp h with h | h
      · obtain ⟨j, _, rfl⟩ := List.mem_map.mp h
        have := nx_bound (ys.drop j) (m := 3) (by decide)
        omega
      · rw [List.mem_singleton.mp h]
        exact hx
    · obtain ⟨_, _, rfl⟩ := List.mem_map.mp h
      decide
theorem zip_set {α β : Type} {ps : List α} {rs : List β} {k : Nat} {p : α} {r : β} (h : ps[k]? = some p) : (ps.zip rs).set k (p, r) = ps.zip (rs.set k r) := by
  refine List.ext_getElem? fun i => ?_
  rw [List.getElem?_set]
  by_cases e : k = i
  · subst e
    rw [if_pos rfl]
    by_cases hl : k < (ps.zip rs).length
    · rw [if_pos hl]
      have h2 : k < rs.length := by rw [List.length_zip] at hl; omega
      exact (List.getElem?_zip_eq_some (z := (p, r)) |>.mpr ⟨h, List.getElem?_set_self h2⟩).symm
    · rw [List.length_zip] at hl
      rw [if_neg (by rw [List.length_zip]; exact hl)]
      exact (List.getElem?_eq_none (by rw [List.length_zip, List.length_set]; omega)).symm
  · rw [if_neg e]
    cases hp : ps[i]? with
    | none =>
      have h1 := List.getElem?_eq_none_iff.mp hp
      rw [List.getElem?_eq_none (by rw [List.length_zip]; omega), List.getElem?_eq_none (by rw [List.length_zip]; omega)]
    | some a =>
      cases hr : rs[i]? with
      | none =>
        have h1 := List.getElem?_eq_none_iff.mp hr
        rw [List.getElem?_eq_none (by rw [List.length_zip]; omega), List.getElem?_eq_none (by rw [List.length_zip, List.length_set]; omega)]
      | some b =>
        have z1 : (ps.zip rs)[i]? = some (a, b) := List.getElem?_zip_eq_some.mpr ⟨hp, hr⟩
        have z2 : (ps.zip (rs.set k r))[i]? = some (a, b) := List.getElem?_zip_eq_some.mpr ⟨hp, by rw [List.getElem?_set_ne e]; exact hr⟩
        rw [z1, z2]
end G
namespace G
open PySem PySem.Spec PyProof.Rows L2 Evl
def growD (R : Nat → Nat → Int) (n i : Nat) : List DV := (List.range n).map fun j => .int (rsum n fun k => R i k * R j k)
theorem gram_0 {R : Nat → Nat → Int} {n : Nat} : ((List.range n).map (growD R n)).map DV.lst = (gramM R n 0).map rowL := by
  unfold gramM genM growD rowL
  rw [List.map_map, List.map_map]
  refine List.map_congr_left fun i _ => ?_
  show DV.lst _ = DV.lst _
  rw [List.map_map]
  congr 1
  refine List.map_congr_left fun j _ => ?_
  show DV.int _ = DV.int _
  congr 1
  show _ = gramE R n 0 i j
  unfold gramE
  split <;> simp
theorem gram_set {R : Nat → Nat → Int} {m : Nat} {e : Int} : (((List.range (m + 1)).map (growD R (m + 1))).set m ((growD R (m + 1) m).set m (.int (rsum (m + 1) (fun k => R m k * R m k) + e)))).map DV.lst = (gramM R (m + 1) e).map rowL := by
  have er : ∀ i, i < m + 1 → (if i = m then (growD R (m + 1) m).set m (.int (rsum (m + 1) (fun k => R m k * R m k) + e)) else growD R (m + 1) i) = ((List.range (m + 1)).map fun j => DV.int (gramE R (m + 1) e i j)) := fun i hi => by
    by_cases h : i = m
    · subst h
      rw [if_pos rfl]
      refine List.ext_getElem (by simp [growD]) fun j h1 h2 => ?_
      rw [List.getElem_set]
      simp only [growD, List.getElem_map, List.getElem_range]
      by_cases hj : i = j
      · subst hj
        rw [if_pos rfl]
        unfold gramE
        rw [if_pos ⟨rfl, rfl⟩]
      · rw [if_neg hj]
        unfold gramE
        rw [if_neg (by omega), Int.add_zero]
    · rw [if_neg h]
      unfold growD
      refine List.map_congr_left fun j _ => ?_
      unfold gramE
      rw [if_neg (by omega), Int.add_zero]
  unfold gramM genM
  refine List.ext_getElem (by simp) fun i h1 h2 => ?_
  simp at h2
  have := er i h2
  simp only [List.getElem_map, List.getElem_set, List.getElem_range]
  unfold rowL
  rw [List.map_map]
  congr 1
  refine Eq.trans ?_ (this.trans ?_)
  · by_cases h : i = m
    · subst h
      simp
    · rw [if_neg h, if_neg (fun z => h z.symm)]
  · rfl
end G
set_option Elab.async false
set_option linter.all false
set_option maxRecDepth 100000
namespace G
open PySem PySem.Spec PyProof.Rows L2 Evl
section
variable {K : PySem.W.Frag} {δ : G.Env} {μ μ' μ'' : Sto} {ta tb : TE}
theorem ex_isBl {a b : Bool} (ha : EX K ta δ μ μ' (.bl a)) (hb : EX K tb δ μ' μ'' (.bl b)) : EX K (tOp (fun x y H Q => ∃ a b, x = .bl a ∧ y = .bl b ∧ Q (.bl (decide (a = b))) H) ta tb) δ μ μ'' (.bl (decide (a = b))) := fun F M σ H s Q q =>
  ha F M σ H s _ fun v H1 e1 s1 r1 => hb F M σ H1 s1 _ fun w H2 e2 s2 r2 => by
    cases r1
    cases r2
    exact ⟨a, b, rfl, rfl, q _ H2 (e1.trans e2) s2 (.bl _)⟩
theorem ex_isNBl {a b : Bool} (ha : EX K ta δ μ μ' (.bl a)) (hb : EX K tb δ μ' μ'' (.bl b)) : EX K (tOp (fun x y H Q => ∃ a b, x = .bl a ∧ y = .bl b ∧ Q (.bl (!decide (a = b))) H) ta tb) δ μ μ'' (.bl (!decide (a = b))) := fun F M σ H s Q q =>
  ha F M σ H s _ fun v H1 e1 s1 r1 => hb F M σ H1 s1 _ fun w H2 e2 s2 r2 => by
    cases r1
    cases r2
    exact ⟨a, b, rfl, rfl, q _ H2 (e1.trans e2) s2 (.bl _)⟩
end
end G
set_option Elab.async false
set_option linter.all false
set_option maxRecDepth 100000
set_option maxHeartbeats 1000000
/-! defs that raise, over data -/
namespace G
open PySem PySem.Spec PyProof.Rows L2 Evl
/-- o.m(..) that may raise -/
def tMeS (C : Addr) (m : Str) (sp : Sp) (E : L2.St → XK) (ta : TE) (t : TA) : TE := fun σ H Q => ta σ H fun x H1 => ∃ a dx fs, x = .ref a ∧ H1 a = some (.ins C dx fs) ∧ fs.lookup m = none ∧ t σ H1 fun vs H2 => sp (x :: vs) H2 Q (E σ)
structure MetX (P : Program) (w : World) (K : PySem.W.Frag) (mg : Str → Option Value) (base : Heap) (k : Nat) (C : Addr) (m : Str) (sp : Sp) : Prop where
  ex : ∃ (f : Addr) (fd : FuncData) (ps : List Str), Cls K C ∧ Meth K C m f ∧ FnOk P w K mg base (L2.CX P w) k f fd ps sp ∧ Binds K fd ps []
structure CalX (P : Program) (w : World) (K : PySem.W.Frag) (mg : Str → Option Value) (base : Heap) (k : Nat) (x : Str) (sp : Sp) : Prop where
  ex : ∃ (f : Addr) (fd : FuncData) (ps : List Str), FnOk P w K mg base (L2.CX P w) k f fd ps sp ∧ mg x = some (.ref f) ∧ PySem.W.keepIn K (.ref f) = true ∧ Binds K fd ps []
section
variable {X : Cx} {k j : Nat} {C : Addr} {x m : Str} {sp : Sp} {W : L2.WX} {p pos apos : Pos} {e o : Expr} {es : List Expr} {ta : TE} {t : TA}
theorem pe_mtX0 {pl : Sem Bool} (c : MetX X.prog X.w X.K X.mg X.base k C m sp) (hr : Room j X.A) (hk : k ≤ j) (tk : L2.Takes X W) (he : PE X o ta)
    (ht : eval (.Call (.Attribute o m apos) [] [] pos) X.env = (do
      let ov ← eval o X.env
      standAt apos.atName
      let (f, first) ← holding [ov] (getMethod ov m pl)
      callWith pos f first (backTo pos (starEach [] X.env)) (backToKw pos (keywordEach [] X.env))) := by rfl) :
    PE X (.Call (.Attribute o m apos) [] [] pos) (tMeS C m sp (WE W) ta tNil) := by
  obtain ⟨f, fd, ps, hc, hm, F, b⟩ := c.ex
  refine ⟨fun pins s σ H Q I h => ?_⟩
  refine PySem.W.methodCall_KW (pl := pl) (thn (he.run pins s σ H _ I h) fun u s1 ⟨x, H1, I1, rx, a, dx, fs, ex, ea, l, q⟩ => ?_) ht
  subst ex
  obtain rfl : u = Value.ref a := rx
  refine getmeth_ok I1 ea hc hm l ?_
  exact PySem.W.callWith_K0 (first := [.ref a]) I1.kIn hm.kp (run_fnS (us := [.ref a]) (vs := [.ref a]) F (hr.mono hk) b (passAt tk σ) I1 (.cons rfl .nil) q)
theorem pe_cX (c : CalX X.prog X.w X.K X.mg X.base k x sp) (hr : Room j X.A) (hk : k ≤ j) (tk : L2.Takes X W) (hg : Gl X x) (ha : PA X (e :: es) t)
    (hdb : (x == ("__debug__" : Str)) = false := by decide) (he : starEach (e :: es) X.env = (false, eval e X.env) :: starEach es X.env := by rfl) (hpl : (backTo pos (starEach es X.env)).any (·.1) = false := by rfl) :
    PE X (.Call (.Name x p) (e :: es) [] pos) (tCallS sp (WE W) t) := by
  obtain ⟨f, fd, ps, F, hm, kp, b⟩ := c.ex
  exact pe_callS F (hr.mono hk) hg hm kp b (fun σ => passAt tk σ) ha hdb he hpl
end
/-- arguments for which the class at R is raised, its fields told -/
def spF (K : PySem.W.Frag) (R : Addr) (Pre : List DV → List (Str × V) → Prop) : Sp := fun vs H _ E => ∃ M ds, (∀ a ∈ M, H a ≠ none) ∧ RpAll K (hid M H) vs ds ∧ ∃ fs, Pre ds fs ∧ ∀ d H', H d = none → Ex H H' → H' d = some (.xd fs) → E (.ref R) (some d) H'
/-- the same, no fields -/
def spM (K : PySem.W.Frag) (R : Addr) (Pre : List DV → Prop) : Sp := fun vs H _ E => ∃ M ds, (∀ a ∈ M, H a ≠ none) ∧ RpAll K (hid M H) vs ds ∧ Pre ds ∧ ∀ H', Ex H H' → E (.ref R) none H'
/-- Refused(reason): what __init__ does -/
def spRI (R : Addr) (f : Str) : Sp := fun vs H Q E => ∃ (a : Addr) (x : Str), vs = [.ref a, .str x] ∧ x.length ≤ 1000 ∧ H a = some (exo a R none) ∧ ∀ d, H d = none → d ≠ a → Q .non (upd (upd H d (exd d [(f, .str x)])) a (exo a R (some d)))
section
variable {P : Program} {w : World} {K : PySem.W.Frag} {mg : Str → Option Value} {base : Heap}
/-- the start of a def that raises: its state told by data -/
theorem okX {x qual : Str} {st : Stmt} {f : Addr} {fd : FuncData} {N ps : List Str} {k : Nat} {R : Addr} {Pre : List DV → List (Str × V) → Prop} (Fn : Fun K x qual st f fd) (S : FnScope N ps (defScope st)) (len : ∀ ds fs, Pre ds fs → ds.length = ps.length)
    (body : ∀ (cdv : Value) (A : Around) (outer : List PySem.Env) (s : Shared) (H : Hp) (E : XK), Room k (A.deeper (envOfC qual (defScope st) s.heap.objs.size f cdv)) →
      ∃ t, PSs (cxOf (L2.CX P w) P w K mg base N qual (defScope st) f cdv A outer s H E) (defBody st) t ∧ ∀ F M ds fs σ D, Pre ds fs → Sta K F M (startD N.length ds) [] σ H →
        (∀ d H', F d = none → Ex F H' → H' d = some (.xd fs) → E (.ref R) (some d) H') → t D σ H) : FnOk P w K mg base (L2.CX P w) (k + 1) f fd ps (spF K R Pre) := by
  refine Fn.okX S (fun vs H Q E ⟨M, ds, _, h1, fs, h2, _⟩ => by rw [h1.length]; exact len _ _ h2) fun cdv A outer s H vs Q E hr ⟨M, ds, al, ra, fs, hR, kq⟩ => ?_
  obtain ⟨t, h1, h2⟩ := body cdv A outer s H E hr
  exact ⟨t, h1, h2 H M ds fs _ _ hR (sta_start al ra) kq⟩
end
end G
set_option Elab.async false
set_option linter.all false
set_option maxRecDepth 100000
namespace G
open PySem PySem.Spec PyProof.Rows L2 Evl
def rSlE (K : PySem.W.Frag) : V → Option Int → Option Int → Hp → VK → Prop := fun x lo hi H Q => rSlL K x lo hi H Q ∨ rSlA K x lo hi H Q
theorem sl_eitherK {X : Cx} {K : PySem.W.Frag} (h : X.K = K := by rfl) : SlR X (rSlE K) := SlR.or (sl_listK h) (sl_tupK h)
section
variable {K : PySem.W.Frag} {δ : Env} {μ μ' : Sto} {te : TE} {d : DV} {ds : List DV}
/-- x[lo:hi], x a list or a tuple -/
theorem ex_slE {tl th : TO} {lo hi : Option Int} (h : EX K te δ μ μ' d) (sq : Seq d ds) (h1 : OX K tl δ μ' lo) (h2 : OX K th δ μ' hi) : ∃ e, Seq e (cutD ds lo hi) ∧ EX K (tSl (rSlE K) te tl th) δ μ μ' e := by
  cases sq with
  | lst =>
    refine ⟨_, .lst _, fun F M σ H s Q q => ?_⟩
    refine h F M σ H s _ fun v H1 e1 s1 r1 => h1 F M σ H1 s1 _ fun H2 e2 s2 => h2 F M σ H2 s2 _ fun H3 e3 s3 => ?_
    cases r1 with
    | lst g1 g2 =>
      refine .inl ⟨_, _, rfl, ex_l ((e2.trans e3).trans hid_sub) g1, fun p hp => ?_⟩
      have e13 := (e1.trans e2).trans e3
      have hpM := s3.fresh hp
      have z := (s3.newL hp ((g2.mono (e2.trans e3)).cut lo hi)).still hpM
      exact q _ _ (e13.trans (new_ex s3 hp)) z.1 z.2
  | tup =>
    refine ⟨_, .tup _, fun F M σ H s Q q => ?_⟩
    refine h F M σ H s _ fun v H1 e1 s1 r1 => h1 F M σ H1 s1 _ fun H2 e2 s2 => h2 F M σ H2 s2 _ fun H3 e3 s3 => ?_
    cases r1 with
    | @tup a xs _ g1 g2 =>
      have e13 := (e1.trans e2).trans e3
      have g3 := g2.mono (e2.trans e3)
      refine .inr ⟨_, _, rfl, ex_t ((e2.trans e3).trans hid_sub) g1, fun hw => ?_, fun _ p hp => ?_⟩
      · have hc : cutD ds lo hi = ds := by
          unfold cutD
          rw [← g2.length, hw.1, hw.2, List.drop_zero, Nat.sub_zero, g2.length, List.take_length]
        refine q _ H3 e13 s3 ?_
        rw [hc]
        exact .tup (ex_t (e2.trans e3) g1) g3
      · exact q _ _ (e13.trans (new_ex s3 hp)) (s3.mono (Ex.new hp)) (.tup (st_of (hid_get (s3.fresh hp) upd_same)) ((g3.cut lo hi).mono (new_ex s3 hp)))
end
end G
set_option Elab.async false
set_option linter.all false
set_option maxRecDepth 100000
/-! states of a running def by slots: no address, no store in sight; judgements of expressions over them -/
namespace G
open PySem PySem.Spec PyProof.Rows L2 Evl
/-- a name's content: unbound or forgotten, data, a mutable list of the def's own -/
inductive SL where
  | un
  | dat (d : DV)
  | own (ds : List DV)
structure SRel (S : List SL) (A : Nat → Addr) (δ : Env) (μ : Sto) : Prop where
  len : δ.length = S.length
  nd : (μ.map Prod.fst).Nodup
  dat : ∀ (i : Nat) (d : DV), S[i]? = some (.dat d) → δ[i]? = some (some d)
  own : ∀ (i : Nat) (ds : List DV), S[i]? = some (.own ds) → δ[i]? = some (some (.box (A i))) ∧ (A i, ds) ∈ μ
  inj : ∀ (i j : Nat) (ds es : List DV), S[i]? = some (.own ds) → S[j]? = some (.own es) → A i = A j → i = j
/-- not the def's own list -/
def noOwn (o : Option SL) : Bool := match o with
  | some (.own _) => false
  | _ => true
def EXp (K : PySem.W.Frag) (te : TE) (S : List SL) (d : DV) : Prop := ∀ A δ μ, SRel S A δ μ → EX K te δ μ μ d
def TXp (K : PySem.W.Frag) (tt : TT) (S : List SL) (b : Bool) : Prop := ∀ A δ μ, SRel S A δ μ → TX K tt δ μ μ b
def AXp (K : PySem.W.Frag) (ta : TA) (S : List SL) (ds : List DV) : Prop := ∀ A δ μ, SRel S A δ μ → AX K ta δ μ μ ds
def LXp (K : PySem.W.Frag) (te : TE) (S : List SL) (ds : List DV) : Prop := ∀ A δ μ, SRel S A δ μ → LX K te δ μ μ ds
def OXp (K : PySem.W.Frag) (to : TO) (S : List SL) (o : Option Int) : Prop := ∀ A δ μ, SRel S A δ μ → OX K to δ μ o
/-- a sequence, a list of the def's own too -/
def ItS (K : PySem.W.Frag) (te : TE) (S : List SL) (ds : List DV) : Prop := ∀ A δ μ, SRel S A δ μ → ∃ d, EX K te δ μ μ d ∧ Items μ d ds
def SqS (K : PySem.W.Frag) (te : TE) (S : List SL) (ds : List DV) : Prop := ∃ d, Seq d ds ∧ EXp K te S d
def OwnLe (S S' : List SL) : Prop := ∀ (i : Nat) (ds : List DV), S'[i]? = some (.own ds) → ∃ es : List DV, S[i]? = some (.own es)
/-- the state changed on the way: S to S' -/
def EXq (K : PySem.W.Frag) (te : TE) (S S' : List SL) (d : DV) : Prop := OwnLe S S' ∧ ∀ A δ μ, SRel S A δ μ → ∃ μ', SRel S' A δ μ' ∧ EX K te δ μ μ' d
def TXq (K : PySem.W.Frag) (tt : TT) (S S' : List SL) (b : Bool) : Prop := OwnLe S S' ∧ ∀ A δ μ, SRel S A δ μ → ∃ μ', SRel S' A δ μ' ∧ TX K tt δ μ μ' b
def AXq (K : PySem.W.Frag) (ta : TA) (S S' : List SL) (ds : List DV) : Prop := OwnLe S S' ∧ ∀ A δ μ, SRel S A δ μ → ∃ μ', SRel S' A δ μ' ∧ AX K ta δ μ μ' ds
def LXq (K : PySem.W.Frag) (te : TE) (S S' : List SL) (ds : List DV) : Prop := OwnLe S S' ∧ ∀ A δ μ, SRel S A δ μ → ∃ μ', SRel S' A δ μ' ∧ LX K te δ μ μ' ds
/-! ### encodings -/
abbrev eI : Int → DV := .int
abbrev eB : Bool → DV := .bl
abbrev eS : Str → DV := .str
abbrev eN : Unit → DV := fun _ => .non
abbrev eD : DV → DV := fun d => d
abbrev eL {α : Type} (e : α → DV) (xs : List α) : DV := .lst (xs.map e)
abbrev eT {α : Type} (e : α → DV) (xs : List α) : DV := .tup (xs.map e)
abbrev eP {α β : Type} (e : α → DV) (f : β → DV) (x : α × β) : DV := .tup [e x.1, f x.2]
abbrev eP3 {α β γ : Type} (e : α → DV) (f : β → DV) (g : γ → DV) (x : α × β × γ) : DV := .tup [e x.1, f x.2.1, g x.2.2]
/-! ### guarded steps -/
open Classical in
noncomputable def mulO (a b : Int) : Option Int := if CMulB a b then some (a * b) else none
def fdivO (a b : Int) : Option Int := if b = 0 then none else some (a.fdiv b)
def modO (a b : Int) : Option Int := if b = 0 then none else some (a.fmod b)
def guardO (p : Prop) [Decidable p] {α : Type} (x : α) : Option α := if p then some x else none
@[irreducible] def catO {α : Type} (xs ys : List α) : Option (List α) := if xs.length + ys.length ≤ 100000 then some (xs ++ ys) else none
@[irreducible] def appO {α : Type} (xs : List α) (y : α) : Option (List α) := if xs.length < 100000 then some (xs ++ [y]) else none
def rng (n : Int) : List Int := (List.range n.toNat).map fun (i : Nat) => (i : Int)
def rng2 (m n : Int) : List Int := (List.range (n - m).toNat).map fun (i : Nat) => m + (i : Int)
@[irreducible] def rngO (n : Int) : Option (List Int) := if -(2 ^ 62) ≤ n ∧ n < 2 ^ 62 then some (rng n) else none
@[irreducible] def rng2O (m n : Int) : Option (List Int) := if (-(2 ^ 62) ≤ m ∧ m < 2 ^ 62) ∧ -(2 ^ 62) ≤ n ∧ n < 2 ^ 62 then some (rng2 m n) else none
def cutL {α : Type} (xs : List α) (lo hi : Option Int) : List α := (xs.drop (HT.sIx xs.length 0 lo)).take (HT.sIx xs.length xs.length hi - HT.sIx xs.length 0 lo)
def setO {α : Type} (xs : List α) (i : Int) (y : α) : Option (List α) := match ixN xs.length i with
  | some k => some (xs.set k y)
  | none => none
def mapO {α β : Type} (f : α → Option β) : List α → Option (List β)
  | [] => some []
  | x :: xs => (f x).bind fun y => (mapO f xs).bind fun ys => some (y :: ys)
def filO {α : Type} (c : α → Option Bool) : List α → Option (List α)
  | [] => some []
  | x :: xs => (c x).bind fun b => (filO c xs).bind fun ys => some (if b then x :: ys else ys)
/-- [f x for x in xs if c x] -/
@[irreducible] def lcO {α β : Type} (c : α → Option Bool) (f : α → Option β) (xs : List α) : Option (List β) := if xs.length ≤ 100000 then (filO c xs).bind fun ys => mapO f ys else none
@[irreducible] def lcA {α β : Type} (f : α → Option β) (xs : List α) : Option (List β) := if xs.length ≤ 100000 then mapO f xs else none
theorem bdO {α β : Type} {m : Option α} {k : α → Option β} {r : β} (h : m.bind k = some r) : ∃ x, m = some x ∧ k x = some r := by
  cases m with
  | none => cases h
  | some x => exact ⟨x, rfl, h⟩
section
variable {K : PySem.W.Frag} {S S1 S2 S3 : List SL} {ta tb tc te : TE} {t u : TT} {d e d1 d2 : DV} {ds es : List DV} {i j : Nat} {tr : TA}
theorem ep_bin (f : ∀ δ μ, EX K ta δ μ μ d1 → EX K tb δ μ μ d2 → EX K te δ μ μ d) (ha : EXp K ta S d1) (hb : EXp K tb S d2) : EXp K te S d := fun A δ μ r => f δ μ (ha A δ μ r) (hb A δ μ r)
theorem ep_un (f : ∀ δ μ, EX K ta δ μ μ d1 → EX K te δ μ μ d) (ha : EXp K ta S d1) : EXp K te S d := fun A δ μ r => f δ μ (ha A δ μ r)
theorem ep_var (h : S[i]? = some (.dat d)) : EXp K (tVar i) S d := fun A δ μ r => ex_var (r.dat i d h)
theorem ep_int {n : Int} : EXp K (tC (.int n)) S (.int n) := fun A δ μ r => ex_int
theorem ep_bl {n : Bool} : EXp K (tC (.bl n)) S (.bl n) := fun A δ μ r => ex_bl
theorem ep_str {n : Str} : EXp K (tC (.str n)) S (.str n) := fun A δ μ r => ex_str
theorem ep_non : EXp K (tC .non) S .non := fun A δ μ r => ex_non
theorem EXp.is (h : EXp K te S d) (q : d = e) : EXp K te S e := q ▸ h
theorem ep_of {α : Type} {f : α → DV} {a b : α} (h : some a = some b) (p : EXp K te S (f a)) : EXp K te S (f b) := by cases h; exact p
variable {a b : Int}
theorem ep_add (ha : EXp K ta S (.int a)) (hb : EXp K tb S (.int b)) : EXp K (tOp (rI0 fun i j => .int (i + j)) ta tb) S (.int (a + b)) := ep_bin (fun _ _ => ex_add) ha hb
theorem ep_sub (ha : EXp K ta S (.int a)) (hb : EXp K tb S (.int b)) : EXp K (tOp (rI0 fun i j => .int (i - j)) ta tb) S (.int (a - b)) := ep_bin (fun _ _ => ex_sub) ha hb
theorem ep_mul {c : Int} (ha : EXp K ta S (.int a)) (hb : EXp K tb S (.int b)) (h : mulO a b = some c) : EXp K (tOp (rI CMulB fun i j => .int (i * j)) ta tb) S (.int c) := by
  unfold mulO at h
  split at h
  · rename_i hc
    cases h
    exact ep_bin (fun _ _ p q => ex_mul p q hc) ha hb
  · cases h
theorem ep_fdiv {c : Int} (ha : EXp K ta S (.int a)) (hb : EXp K tb S (.int b)) (h : fdivO a b = some c) : EXp K (tOp (rI CNz fun i j => .int (i.fdiv j)) ta tb) S (.int c) := by
  unfold fdivO at h
  split at h
  · cases h
  · rename_i hc
    cases h
    exact ep_bin (fun _ _ p q => ex_fdiv p q hc) ha hb
theorem ep_mod {c : Int} (ha : EXp K ta S (.int a)) (hb : EXp K tb S (.int b)) (h : modO a b = some c) : EXp K (tOp (rI (fun _ j => j ≠ 0) fun i j => .int (i.fmod j)) ta tb) S (.int c) := by
  unfold modO at h
  split at h
  · cases h
  · rename_i hc
    cases h
    exact ep_bin (fun _ _ p q => ex_mod p q hc) ha hb
theorem ep_neg (ha : EXp K ta S (.int a)) : EXp K (tUn (rU fun i => .int (-i)) ta) S (.int (-a)) := ep_un (fun _ _ => ex_neg) ha
theorem ep_lt (ha : EXp K ta S (.int a)) (hb : EXp K tb S (.int b)) : EXp K (tOp (rI0 fun i j => .bl (decide (i < j))) ta tb) S (.bl (decide (a < b))) := ep_bin (fun _ _ => ex_lt) ha hb
theorem ep_le (ha : EXp K ta S (.int a)) (hb : EXp K tb S (.int b)) : EXp K (tOp (rI0 fun i j => .bl (decide (i ≤ j))) ta tb) S (.bl (decide (a ≤ b))) := ep_bin (fun _ _ => ex_le) ha hb
theorem ep_gt (ha : EXp K ta S (.int a)) (hb : EXp K tb S (.int b)) : EXp K (tOp (rI0 fun i j => .bl (decide (j < i))) ta tb) S (.bl (decide (b < a))) := ep_bin (fun _ _ => ex_gt) ha hb
theorem ep_ge (ha : EXp K ta S (.int a)) (hb : EXp K tb S (.int b)) : EXp K (tOp (rI0 fun i j => .bl (decide (j ≤ i))) ta tb) S (.bl (decide (b ≤ a))) := ep_bin (fun _ _ => ex_ge) ha hb
theorem ep_eqI (ha : EXp K ta S (.int a)) (hb : EXp K tb S (.int b)) : EXp K (tOp rEq ta tb) S (.bl (decide (a = b))) := ep_bin (fun _ _ => ex_eqI) ha hb
theorem ep_neI (ha : EXp K ta S (.int a)) (hb : EXp K tb S (.int b)) : EXp K (tOp rNe ta tb) S (.bl (!decide (a = b))) := ep_bin (fun _ _ => ex_neI) ha hb
theorem ep_eqB {a b : Bool} (ha : EXp K ta S (.bl a)) (hb : EXp K tb S (.bl b)) : EXp K (tOp rEq ta tb) S (.bl (decide (a = b))) := ep_bin (fun _ _ => ex_eqB) ha hb
theorem ep_neB {a b : Bool} (ha : EXp K ta S (.bl a)) (hb : EXp K tb S (.bl b)) : EXp K (tOp rNe ta tb) S (.bl (!decide (a = b))) := ep_bin (fun _ _ => ex_neB) ha hb
theorem ep_eqS {a b : Str} (ha : EXp K ta S (.str a)) (hb : EXp K tb S (.str b)) : EXp K (tOp rEq ta tb) S (.bl (decide (a = b))) := ep_bin (fun _ _ => ex_eqS) ha hb
theorem ep_neS {a b : Str} (ha : EXp K ta S (.str a)) (hb : EXp K tb S (.str b)) : EXp K (tOp rNe ta tb) S (.bl (!decide (a = b))) := ep_bin (fun _ _ => ex_neS) ha hb
theorem ep_eqD (ha : EXp K ta S d) (hb : EXp K tb S e) (p1 : d.pl = true) (p2 : e.pl = true) (s1 : SeqAt.shaped d.py = true) (s2 : SeqAt.shaped e.py = true) : EXp K (tOp (rEqD K) ta tb) S (.bl (PyData.eqv d.py e.py)) := ep_bin (fun _ _ p q => ex_eqD p q p1 p2 s1 s2) ha hb
theorem ep_neD (ha : EXp K ta S d) (hb : EXp K tb S e) (p1 : d.pl = true) (p2 : e.pl = true) (s1 : SeqAt.shaped d.py = true) (s2 : SeqAt.shaped e.py = true) : EXp K (tOp (rNeD K) ta tb) S (.bl (!PyData.eqv d.py e.py)) := ep_bin (fun _ _ p q => ex_neD p q p1 p2 s1 s2) ha hb
theorem ep_isN (ha : EXp K ta S d) : EXp K (tOp (fun x y H Q => y = V.non ∧ Q (.bl (decide (x = V.non))) H) ta (tC .non)) S (.bl d.isN) := ep_un (fun _ _ => ex_isN) ha
theorem ep_notN (ha : EXp K ta S d) : EXp K (tOp (fun x y H Q => y = V.non ∧ Q (.bl (!decide (x = V.non))) H) ta (tC .non)) S (.bl (!d.isN)) := ep_un (fun _ _ => ex_notN) ha
theorem ep_isBl {a b : Bool} (ha : EXp K ta S (.bl a)) (hb : EXp K tb S (.bl b)) : EXp K (tOp (fun x y H Q => ∃ a b, x = .bl a ∧ y = .bl b ∧ Q (.bl (decide (a = b))) H) ta tb) S (.bl (decide (a = b))) := ep_bin (fun _ _ => ex_isBl) ha hb
theorem ep_isNBl {a b : Bool} (ha : EXp K ta S (.bl a)) (hb : EXp K tb S (.bl b)) : EXp K (tOp (fun x y H Q => ∃ a b, x = .bl a ∧ y = .bl b ∧ Q (.bl (!decide (a = b))) H) ta tb) S (.bl (!decide (a = b))) := ep_bin (fun _ _ => ex_isNBl) ha hb
theorem ep_andV {a b : Bool} (h1 : EXp K ta S (.bl a)) (h2 : a = true → EXp K tb S (.bl b)) : EXp K (tAndV ta tb) S (.bl (a && b)) := fun A δ μ r => ex_andV (h1 A δ μ r) fun q => h2 q A δ μ r
theorem ep_orV {a b : Bool} (h1 : EXp K ta S (.bl a)) (h2 : a = false → EXp K tb S (.bl b)) : EXp K (tOrV ta tb) S (.bl (a || b)) := fun A δ μ r => ex_orV (h1 A δ μ r) fun q => h2 q A δ μ r
theorem ep_notV {a : Bool} (h1 : EXp K ta S (.bl a)) : EXp K (tNotV ta) S (.bl (!a)) := ep_un (fun _ _ => ex_notV) h1
/-- the right side partial: m is what it comes to -/
theorem ep_andM {a r : Bool} {m : Option Bool} (h1 : EXp K ta S (.bl a)) (h : (if a then m else some false) = some r) (h2 : a = true → ∀ b, m = some b → EXp K tb S (.bl b)) : EXp K (tAndV ta tb) S (.bl r) := by
  cases a with
  | true => exact EXp.is (ep_andV (b := r) h1 fun q => h2 q r h) rfl
  | false =>
    cases h
    exact EXp.is (ep_andV (b := false) h1 fun q => by cases q) rfl
theorem ep_orM {a r : Bool} {m : Option Bool} (h1 : EXp K ta S (.bl a)) (h : (if a then some true else m) = some r) (h2 : a = false → ∀ b, m = some b → EXp K tb S (.bl b)) : EXp K (tOrV ta tb) S (.bl r) := by
  cases a with
  | false => exact EXp.is (ep_orV (b := r) h1 fun q => h2 q r h) rfl
  | true =>
    cases h
    exact EXp.is (ep_orV (b := true) h1 fun q => by cases q) rfl
theorem tp_test {b : Bool} (h : EXp K te S (.bl b)) : TXp K (tTest te) S b := fun A δ μ r => tx_test (h A δ μ r)
theorem tp_val {b : Bool} (h : EXp K te S (.bl b)) : TXp K (tB te) S b := fun A δ μ r => tx_val (h A δ μ r)
theorem tp_not {b : Bool} (h : TXp K t S b) : TXp K (tNot t) S (!b) := fun A δ μ r => tx_not (h A δ μ r)
theorem tp_and {a b : Bool} (h1 : TXp K t S a) (h2 : a = true → TXp K u S b) : TXp K (tAnd t u) S (a && b) := fun A δ μ r => tx_and (h1 A δ μ r) fun q => h2 q A δ μ r
theorem tp_or {a b : Bool} (h1 : TXp K t S a) (h2 : a = false → TXp K u S b) : TXp K (tOr t u) S (a || b) := fun A δ μ r => tx_or (h1 A δ μ r) fun q => h2 q A δ μ r
theorem TXp.is {a b : Bool} (h : TXp K t S a) (q : a = b) : TXp K t S b := q ▸ h
theorem tp_andM {a r : Bool} {m : Option Bool} (h1 : TXp K t S a) (h : (if a then m else some false) = some r) (h2 : a = true → ∀ b, m = some b → TXp K u S b) : TXp K (tAnd t u) S r := by
  cases a with
  | true => exact TXp.is (tp_and (b := r) h1 fun q => h2 q r h) rfl
  | false =>
    cases h
    exact TXp.is (tp_and (b := false) h1 fun q => by cases q) rfl
theorem tp_orM {a r : Bool} {m : Option Bool} (h1 : TXp K t S a) (h : (if a then some true else m) = some r) (h2 : a = false → ∀ b, m = some b → TXp K u S b) : TXp K (tOr t u) S r := by
  cases a with
  | false => exact TXp.is (tp_or (b := r) h1 fun q => h2 q r h) rfl
  | true =>
    cases h
    exact TXp.is (tp_or (b := true) h1 fun q => by cases q) rfl
theorem tp_yes : TXp K tYes S true := fun A δ μ r F M σ H s Q q => q H (Ex.refl _) s
/-- a if c else b: m, m' what the sides come to -/
theorem ep_ifM {α : Type} {f : α → DV} {c : Bool} {m m' : Option α} {x : α} (h1 : TXp K t S c) (h : (if c then m else m') = some x) (h2 : c = true → ∀ y, m = some y → EXp K ta S (f y)) (h3 : c = false → ∀ y, m' = some y → EXp K tb S (f y)) : EXp K (tIf t ta tb) S (f x) := fun A δ μ r => by
  refine ex_if (h1 A δ μ r) (fun q => ?_) (fun q => ?_)
  · subst q
    exact h2 rfl x h A δ μ r
  · subst q
    exact h3 rfl x h A δ μ r
/-! arguments, displays -/
theorem ap_nil : AXp K tNil S [] := fun A δ μ r => ax_nil
theorem ap_cons (h : EXp K ta S d) (hr : AXp K tr S ds) : AXp K (tCons ta tr) S (d :: ds) := fun A δ μ r => ax_cons (h A δ μ r) (hr A δ μ r)
theorem ep_tup {ta : TA} (h : AXp K ta S ds) (hl : ds.length ≤ 100000 := by simp) : EXp K (tTup ta) S (.tup ds) := fun A δ μ r => ex_tup (h A δ μ r) hl
theorem lp_lst {ta : TA} (h : AXp K ta S ds) (hl : ds.length ≤ 100000 := by simp) : LXp K (tLst ta) S ds := fun A δ μ r => lx_lst (h A δ μ r) hl
theorem LXp.ex (h : LXp K te S ds) : EXp K te S (.lst ds) := fun A δ μ r => (h A δ μ r).ex
theorem LXp.is (h : LXp K te S ds) (q : ds = es) : LXp K te S es := q ▸ h
/-! sequences -/
theorem ip_lst (h : EXp K te S (.lst ds)) : ItS K te S ds := fun A δ μ r => ⟨_, h A δ μ r, .lst _⟩
theorem ip_tup (h : EXp K te S (.tup ds)) : ItS K te S ds := fun A δ μ r => ⟨_, h A δ μ r, .tup _⟩
theorem ip_own (h : S[i]? = some (.own ds)) : ItS K (tVar i) S ds := fun A δ μ r => by
  obtain ⟨h1, h2⟩ := r.own i ds h
  obtain ⟨k, hk⟩ := List.getElem?_of_mem h2
  exact ⟨_, ex_var h1, .box hk⟩
theorem ip_new (h : LXp K te S ds) : ItS K te S ds := ip_lst h.ex
theorem ip_sq (h : SqS K te S ds) : ItS K te S ds := fun A δ μ r => by
  obtain ⟨d, sq, e⟩ := h
  exact ⟨d, e A δ μ r, sq.items⟩
theorem sq_lst (h : EXp K te S (.lst ds)) : SqS K te S ds := ⟨_, .lst _, h⟩
theorem sq_tup (h : EXp K te S (.tup ds)) : SqS K te S ds := ⟨_, .tup _, h⟩
theorem ep_len (h : ItS K te S ds) : EXp K (tCB (rLenQ K) (tCons te tNil)) S (.int ds.length) := fun A δ μ r => by
  obtain ⟨d, h1, h2⟩ := h A δ μ r
  exact ex_len h1 h2
theorem ep_lenM {α : Type} {f : α → DV} {xs : List α} (h : ItS K te S (xs.map f)) : EXp K (tCB (rLenQ K) (tCons te tNil)) S (.int xs.length) := EXp.is (ep_len h) (by rw [List.length_map])
theorem atI_map {α β : Type} {f : α → β} {xs : List α} {n : Int} {x : α} (h : L2.atI xs n = some x) : L2.atI (xs.map f) n = some (f x) := by
  unfold L2.atI at h ⊢
  rw [List.length_map]
  cases q : ixN xs.length n with
  | none => rw [q] at h; cases h
  | some k =>
    rw [q] at h
    show (xs.map f)[k]? = some (f x)
    rw [List.getElem?_map, show xs[k]? = some x from h]
    rfl
theorem ep_ix {α : Type} {f : α → DV} {xs : List α} {n : Int} {x : α} (ha : ItS K ta S (xs.map f)) (hb : EXp K tb S (.int n)) (h : L2.atI xs n = some x) : EXp K (tOp (rIx K) ta tb) S (f x) := fun A δ μ r => by
  obtain ⟨d, h1, h2⟩ := ha A δ μ r
  exact ex_ix h1 (hb A δ μ r) h2 (atI_map h)
theorem ep_ixD {n : Int} (ha : ItS K ta S ds) (hb : EXp K tb S (.int n)) (h : L2.atI ds n = some e) : EXp K (tOp (rIx K) ta tb) S e := fun A δ μ r => by
  obtain ⟨d, h1, h2⟩ := ha A δ μ r
  exact ex_ix h1 (hb A δ μ r) h2 h
theorem lp_list (h : ItS K te S ds) : LXp K (tCB (rListQ K) (tCons te tNil)) S ds := fun A δ μ r => by
  obtain ⟨d, h1, h2⟩ := h A δ μ r
  exact lx_list h1 h2
theorem ep_tuple (h : ItS K te S ds) : EXp K (tCB (rTupQ K) (tCons te tNil)) S (.tup ds) := fun A δ μ r => by
  obtain ⟨d, h1, h2⟩ := h A δ μ r
  exact ex_tuple h1 h2
theorem ep_abs (ha : EXp K ta S (.int a)) : EXp K (tCB (fun xs H Q => ∃ i, xs = [.int i] ∧ Q (.int (if i < 0 then -i else i)) H) (tCons ta tNil)) S (.int (if a < 0 then -a else a)) := ep_un (fun _ _ => ex_abs) ha
theorem ep_toI (ha : EXp K ta S (.int a)) : EXp K (tCB (fun xs H Q => (∃ i, xs = [.int i] ∧ Q (.int i) H) ∨ ∃ k, xs = [.bl k] ∧ Q (.int (if k then 1 else 0)) H) (tCons ta tNil)) S (.int a) := ep_un (fun _ _ => ex_toI) ha
theorem ep_toB {b : Bool} (ha : EXp K ta S (.bl b)) : EXp K (tCB (fun xs H Q => (∃ i, xs = [.int i] ∧ Q (.int i) H) ∨ ∃ k, xs = [.bl k] ∧ Q (.int (if k then 1 else 0)) H) (tCons ta tNil)) S (.int (if b then 1 else 0)) := ep_un (fun _ _ => ex_toB) ha
theorem ep_sum {ns : List Int} (ha : EXp K ta S (.lst (ns.map .int))) : EXp K (tCB (rSum K) (tCons ta tNil)) S (.int ns.sum) := ep_un (fun _ _ => ex_sum) ha
theorem ep_all {bs : List Bool} (ha : EXp K ta S (.lst (bs.map .bl))) : EXp K (tCB (rAll K) (tCons ta tNil)) S (.bl (bs.all id)) := ep_un (fun _ _ => ex_all) ha
theorem ep_any {bs : List Bool} (ha : EXp K ta S (.lst (bs.map .bl))) : EXp K (tCB (rAny K) (tCons ta tNil)) S (.bl (bs.any id)) := ep_un (fun _ _ => ex_any) ha
theorem ep_min2 (ha : EXp K ta S (.int a)) (hb : EXp K tb S (.int b)) : EXp K (tCB (fun xs H Q => ∃ i j, xs = [.int i, .int j] ∧ Q (.int (if j < i then j else i)) H) (tCons ta (tCons tb tNil))) S (.int (if b < a then b else a)) := ep_bin (fun _ _ => ex_min2) ha hb
theorem ep_max2 (ha : EXp K ta S (.int a)) (hb : EXp K tb S (.int b)) : EXp K (tCB (fun xs H Q => ∃ i j, xs = [.int i, .int j] ∧ Q (.int (if j > i then j else i)) H) (tCons ta (tCons tb tNil))) S (.int (if b > a then b else a)) := ep_bin (fun _ _ => ex_max2) ha hb
/-! slices, sums of sequences -/
theorem op_none : OXp K tNoPart S none := fun A δ μ r => ox_none
theorem op_some (h : EXp K te S (.int a)) : OXp K (tPart te) S (some a) := fun A δ μ r => ox_some (h A δ μ r)
theorem cut_map {α : Type} {f : α → DV} {xs : List α} {lo hi : Option Int} : G.cutD (xs.map f) lo hi = (cutL xs lo hi).map f := by
  unfold G.cutD cutL
  rw [List.length_map, List.map_take, List.map_drop]
theorem lp_sl {α : Type} {f : α → DV} {xs : List α} {tl th : TO} {lo hi : Option Int} (h : EXp K te S (.lst (xs.map f))) (h1 : OXp K tl S lo) (h2 : OXp K th S hi) : LXp K (tSl (rSlL K) te tl th) S ((cutL xs lo hi).map f) := LXp.is (fun A δ μ r => lx_sl (h A δ μ r) (h1 A δ μ r) (h2 A δ μ r)) cut_map
theorem lp_slO {α : Type} {f : α → DV} {xs : List α} {tl th : TO} {lo hi : Option Int} (h : S[i]? = some (.own (xs.map f))) (h1 : OXp K tl S lo) (h2 : OXp K th S hi) : LXp K (tSl (rSlL K) (tVar i) tl th) S ((cutL xs lo hi).map f) := LXp.is (fun A δ μ r => by
  obtain ⟨g1, g2⟩ := r.own i _ h
  obtain ⟨k, hk⟩ := List.getElem?_of_mem g2
  exact lx_slB (ex_var g1) (h1 A δ μ r) (h2 A δ μ r) hk) cut_map
theorem ep_slT {α : Type} {f : α → DV} {xs : List α} {tl th : TO} {lo hi : Option Int} (h : EXp K te S (.tup (xs.map f))) (h1 : OXp K tl S lo) (h2 : OXp K th S hi) : EXp K (tSl (rSlA K) te tl th) S (.tup ((cutL xs lo hi).map f)) := EXp.is (fun A δ μ r => ex_slT (h A δ μ r) (h1 A δ μ r) (h2 A δ μ r)) (congrArg DV.tup cut_map)
theorem ep_catT {α : Type} {f : α → DV} {xs ys zs : List α} (ha : EXp K ta S (.tup (xs.map f))) (hb : EXp K tb S (.tup (ys.map f))) (h : catO xs ys = some zs) : EXp K (tOp (rCatA K) ta tb) S (.tup (zs.map f)) := by
  unfold catO at h
  split at h
  · rename_i hc
    cases h
    rw [List.map_append]
    exact ep_bin (fun _ _ p q => ex_catT p q (by simpa using hc)) ha hb
  · cases h
theorem lp_cat {α : Type} {f : α → DV} {xs ys zs : List α} (ha : LXp K ta S (xs.map f)) (hb : LXp K tb S (ys.map f)) (h : catO xs ys = some zs) : LXp K (tOp rCat ta tb) S (zs.map f) := by
  unfold catO at h
  split at h
  · rename_i hc
    cases h
    rw [List.map_append]
    exact fun A δ μ r => lx_cat (ha A δ μ r) (hb A δ μ r) (by simpa using hc)
  · cases h
theorem lp_catO {α : Type} {f : α → DV} {xs ys zs : List α} (ha : S[i]? = some (.own (xs.map f))) (hb : LXp K tb S (ys.map f)) (h : catO xs ys = some zs) : LXp K (tOp rCat (tVar i) tb) S (zs.map f) := by
  unfold catO at h
  split at h
  · rename_i hc
    cases h
    rw [List.map_append]
    intro A δ μ r
    obtain ⟨g1, g2⟩ := r.own i _ ha
    obtain ⟨k, hk⟩ := List.getElem?_of_mem g2
    exact lx_catB (ex_var g1) (hb A δ μ r) hk hk (by simpa using hc)
  · cases h
/-! calls -/
variable {R : List DV → DV → Prop} {RL : List DV → List DV → Prop} {E : XK} {C : Addr} {fs gs : List (Str × DV)}
theorem ep_call (ha : AXp K tr S ds) (h : R ds d) : EXp K (tCall (spD K R) [] E tr) S d := fun A δ μ r => ex_call (ha A δ μ r) h
theorem lp_call (ha : AXp K tr S ds) (h : RL ds es) : LXp K (tCall (spL K RL) [] E tr) S es := fun A δ μ r => lx_call (ha A δ μ r) h
theorem ep_meth {m : Str} (ha : EXp K ta S (.ins C fs)) (hn : fs.lookup m = none) (hr : AXp K tr S ds) (h : R (.ins C fs :: ds) d) : EXp K (tMeth C m (spD K R) [] E ta tr) S d := fun A δ μ r => ex_meth (ha A δ μ r) hn (hr A δ μ r) h
theorem ep_make {RI : List DV → List (Str × DV) → Prop} {dvs : List V} {dd : List DV} (hr : AXp K tr S ds) (hd : ∀ H, RpAll K H dvs dd) (h : RI (ds ++ dd) fs) : EXp K (tMake C (spI K C RI) dvs E tr) S (.ins C fs) := fun A δ μ r => ex_make (hr A δ μ r) hd h
theorem ep_fld {f : Str} (ha : EXp K ta S (.ins C fs)) (c : Cls K C) (n : NoAttr K C f) (h : fs.lookup f = some d) : EXp K (tFld K ta f) S d := fun A δ μ r => ex_fld (ha A δ μ r) c n h
theorem ep_ownB (ha : EXp K ta S (.ins C fs)) (hb : EXp K tb S (.ins C gs)) (h : R [.ins C fs, .ins C gs] d) : EXp K (tOp (rOwnB C (spD K R) E) ta tb) S d := ep_bin (fun _ _ p q => ex_ownB p q h) ha hb
theorem ep_ownE {b : Bool} {w : Value} (ha : EXp K ta S (.ins C fs)) (hb : EXp K tb S e) (ty : TyD K e w) (hn : PySem.W.notFirst K C w = true) (h : R [.ins C fs, e] (.bl b)) : EXp K (tOp (rOwnE K C (spD K R) E) ta tb) S (.bl b) := ep_bin (fun _ _ p q => ex_ownE p q ty hn h) ha hb
theorem ep_ownN {b : Bool} {w : Value} (ha : EXp K ta S (.ins C fs)) (hb : EXp K tb S e) (ty : TyD K e w) (hn : PySem.W.notFirst K C w = true) (h : R [.ins C fs, e] (.bl b)) : EXp K (tOp (rOwnN K C (spD K R) E) ta tb) S (.bl (!b)) := ep_bin (fun _ _ p q => ex_ownN p q ty hn h) ha hb
theorem ep_ownU (ha : EXp K ta S (.ins C fs)) (h : R [.ins C fs] d) : EXp K (tUn (fun x H Q => ∃ a dx fs, x = .ref a ∧ H a = some (.ins C dx fs) ∧ spD K R [x] H Q E) ta) S d := ep_un (fun _ _ p => ex_ownU p h) ha
theorem ep_lenOwn {n : Nat} (ha : EXp K ta S (.ins C fs)) (hn : n < 2 ^ 63) (h : R [.ins C fs] (.int n)) : EXp K (tCB (rLenOwn C (spD K R) E) (tCons ta tNil)) S (.int n) := ep_un (fun _ _ p => ex_lenOwn p hn h) ha
theorem ep_isiB {n : String} {w : String} {b : Bool} (ha : EXp K ta S d) (ty : TyD K d (.type w)) (h : kitB w n = some b) : EXp K (tCB (rIsi K) (tCons ta (tCons (tC (.ty n)) tNil))) S (.bl b) := ep_un (fun _ _ p => ex_isiB p ty h) ha
theorem ep_isi {c : V} {w z : Value} {b : Bool} (ha : EXp K ta S d) (ty : TyD K d w) (k : ClsV c z) (h : PySem.W.kitOne K w z = some b) (hs : tb = tC c := by rfl) : EXp K (tCB (rIsi K) (tCons ta (tCons tb tNil))) S (.bl b) := ep_un (fun _ _ p => ex_isi p ty k h hs) ha
theorem ep_isi2 {n m : String} {w : Value} {b : Bool} (ha : EXp K ta S d) (ty : TyD K d w) (h : PySem.W.kitAny K w [.type n, .type m] = some b) : EXp K (tCB (rIsiT K) (tCons ta (tCons (tTup (tCons (tC (.ty n)) (tCons (tC (.ty m)) tNil))) tNil))) S (.bl b) := ep_un (fun _ _ p => ex_isi2 p ty h) ha
end
end G
set_option Elab.async false
set_option linter.all false
set_option maxRecDepth 100000
/-! what is walked (typed items), comprehensions -/
namespace G
open PySem PySem.Spec PyProof.Rows L2 Evl
section
variable {α β : Type}
def bE (bs : List (Nat × (α → DV))) (x : α) (δ : Env) : Env := bs.foldl (fun δ p => δ.set p.1 (some (p.2 x))) δ
def bS (bs : List (Nat × (α → DV))) (x : α) (S : List SL) : List SL := bs.foldl (fun S p => S.set p.1 (.dat (p.2 x))) S
def wipeS (S : List SL) : List Nat → List SL
  | [] => S
  | v :: vs => (wipeS S vs).set v .un
def bnd (xs : List α) (bs : List (Nat × (α → DV))) (i : Nat) (δ : Env) : Env := match xs[i]? with
  | some x => bE bs x δ
  | none => δ
end
section
variable {K : PySem.W.Frag} {S S1 S2 : List SL} {A : Nat → Addr} {δ : Env} {μ : Sto} {ta tb te : TE} {tt : TT} {α β γ : Type}
theorem set_cases {τ : Type} {S : List τ} {i j : Nat} {x y : τ} (h : (S.set i x)[j]? = some y) : (i = j ∧ x = y ∧ j < S.length) ∨ (i ≠ j ∧ S[j]? = some y) := by
  by_cases e : i = j
  · subst e
    by_cases hl : i < S.length
    · rw [List.getElem?_set_self hl] at h
      exact .inl ⟨rfl, Option.some.inj h, hl⟩
    · rw [List.getElem?_eq_none (by simpa using hl)] at h
      cases h
  · rw [List.getElem?_set_ne e] at h
    exact .inr ⟨e, h⟩
theorem SRel.set (r : SRel S A δ μ) (i : Nat) (d : DV) : SRel (S.set i (.dat d)) A (δ.set i (some d)) μ := by
  refine ⟨by simpa using r.len, r.nd, fun j e h => ?_, fun j ds h => ?_, fun j k ds es h1 h2 => ?_⟩
  · rcases set_cases h with ⟨q, e1, hl⟩ | ⟨q, h⟩
    · subst q
      cases e1
      exact List.getElem?_set_self (by rw [r.len]; exact hl)
    · rw [List.getElem?_set_ne q]
      exact r.dat j e h
  · rcases set_cases h with ⟨q, e1, hl⟩ | ⟨q, h⟩
    · cases e1
    · rw [List.getElem?_set_ne q]
      exact r.own j ds h
  · rcases set_cases h1 with ⟨q, e1, hl⟩ | ⟨q, h1⟩
    · cases e1
    rcases set_cases h2 with ⟨q, e1, hl⟩ | ⟨q, h2⟩
    · cases e1
    exact r.inj j k ds es h1 h2
theorem SRel.unset (r : SRel S A δ μ) (i : Nat) (o : Option DV) : SRel (S.set i .un) A (δ.set i o) μ := by
  refine ⟨by simpa using r.len, r.nd, fun j e h => ?_, fun j ds h => ?_, fun j k ds es h1 h2 => ?_⟩
  · rcases set_cases h with ⟨q, e1, hl⟩ | ⟨q, h⟩
    · cases e1
    · rw [List.getElem?_set_ne q]
      exact r.dat j e h
  · rcases set_cases h with ⟨q, e1, hl⟩ | ⟨q, h⟩
    · cases e1
    · rw [List.getElem?_set_ne q]
      exact r.own j ds h
  · rcases set_cases h1 with ⟨q, e1, hl⟩ | ⟨q, h1⟩
    · cases e1
    rcases set_cases h2 with ⟨q, e1, hl⟩ | ⟨q, h2⟩
    · cases e1
    exact r.inj j k ds es h1 h2
theorem SRel.wipe (r : SRel S A δ μ) : ∀ vs : List Nat, SRel (wipeS S vs) A (wipeD δ vs) μ
  | [] => r
  | v :: vs => (SRel.wipe r vs).unset v none
theorem SRel.binds {x : α} : ∀ (bs : List (Nat × (α → DV))) {S : List SL} {δ : Env}, SRel S A δ μ → SRel (bS bs x S) A (bE bs x δ) μ
  | [], _, _, r => r
  | p :: bs, _, _, r => SRel.binds bs (r.set p.1 (p.2 x))
theorem SRel.bnd {xs : List α} {bs : List (Nat × (α → DV))} {i : Nat} {x : α} (r : SRel S A δ μ) (h : xs[i]? = some x) : SRel (bS bs x S) A (bnd xs bs i δ) μ := by
  unfold G.bnd
  rw [h]
  exact r.binds bs
def WXl (K : PySem.W.Frag) (wi : TI) (g : TG) (S : List SL) (xs : List α) (bs : List (Nat × (α → DV))) : Prop := ∀ A δ μ, SRel S A δ μ → WX K wi g δ μ μ xs.length (bs.map Prod.fst) (G.bnd xs bs)
theorem WX.congr {wi : TI} {g : TG} {μ' : Sto} {n : Nat} {js : List Nat} {b b' : Nat → Env → Env} (w : WX K wi g δ μ μ' n js b) (h : ∀ i, i < n → ∀ δ, b i δ = b' i δ) : WX K wi g δ μ μ' n js b' := fun F M σ H s R r =>
  w F M σ H s R fun J H' e s' T => r J H' e s' ⟨T.go, T.stop, fun i H x H' F M δ μ σ hi e s y Q q => T.bind i H x H' F M δ μ σ hi e s y Q fun σ' e' s' => q σ' e' (by rw [← h i hi]; exact s')⟩
theorem rng_get {n : Int} {i : Nat} (h : i < n.toNat) : (rng n)[i]? = some (i : Int) := by
  unfold rng
  rw [List.getElem?_map, List.getElem?_range h]
  rfl
theorem rng2_get {m n : Int} {i : Nat} (h : i < (n - m).toNat) : (rng2 m n)[i]? = some (m + (i : Int)) := by
  unfold rng2
  rw [List.getElem?_map, List.getElem?_range h]
  rfl
theorem rng_len {n : Int} : (rng n).length = n.toNat := by simp [rng]
theorem rng2_len {m n : Int} : (rng2 m n).length = (n - m).toNat := by simp [rng2]
theorem wl_range1 {n : Int} {xs : List Int} {j : Nat} (h : EXp K ta S (.int n)) (hr : rngO n = some xs) : WXl K (iRng1 (tCons ta tNil)) (gName j) S xs [(j, eI)] := by
  unfold rngO at hr
  split at hr
  · rename_i hb
    cases hr
    intro A δ μ r
    have z := wx_range1 (j := j) (ax_cons (h A δ μ r) ax_nil) hb.1 hb.2
    rw [← rng_len] at z
    refine z.congr fun i hi δ => ?_
    rw [rng_len] at hi
    unfold G.bnd
    rw [rng_get hi]
    rfl
  · cases hr
theorem wl_range2 {m n : Int} {xs : List Int} {j : Nat} (h1 : EXp K ta S (.int m)) (h2 : EXp K tb S (.int n)) (hr : rng2O m n = some xs) : WXl K (iRng2 (tCons ta (tCons tb tNil))) (gName j) S xs [(j, eI)] := by
  unfold rng2O at hr
  split at hr
  · rename_i hb
    cases hr
    intro A δ μ r
    have z := wx_range2 (j := j) (ax_cons (h1 A δ μ r) (ax_cons (h2 A δ μ r) ax_nil)) hb.1 hb.2
    rw [← rng2_len] at z
    refine z.congr fun i hi δ => ?_
    rw [rng2_len] at hi
    unfold G.bnd
    rw [rng2_get hi]
    rfl
  · cases hr
theorem getD_of {xs : List α} {f : α → DV} {i : Nat} {x : α} (h : xs[i]? = some x) : (xs.map f).getD i .non = f x := by
  rw [List.getD_eq_getElem?_getD, List.getElem?_map, h]
  rfl
theorem wl_seq {f : α → DV} {xs : List α} {j : Nat} (h : SqS K te S (xs.map f)) : WXl K (iSeq K te) (gName j) S xs [(j, f)] := fun A δ μ r => by
  obtain ⟨d, sq, e⟩ := h
  have z := wx_seq (j := j) (e A δ μ r) sq
  rw [List.length_map] at z
  refine z.congr fun i hi δ => ?_
  unfold G.bnd
  rw [getD_of (List.getElem?_eq_getElem hi), List.getElem?_eq_getElem hi]
  rfl
theorem wl_zip {f : α → DV} {g : β → DV} {xs : List α} {ys : List β} {j1 j2 : Nat} (h1 : SqS K ta S (xs.map f)) (h2 : SqS K tb S (ys.map g)) :
    WXl K (iZipK K (tCons ta (tCons tb tNil))) (gTup K 2 (gCons (gName j1) (gCons (gName j2) gNil))) S (xs.zip ys) [(j1, fun p : α × β => f p.1), (j2, fun p : α × β => g p.2)] := fun A δ μ r => by
  obtain ⟨d1, sq1, e1⟩ := h1
  obtain ⟨d2, sq2, e2⟩ := h2
  have z := wx_zip (j1 := j1) (j2 := j2) (n := (xs.zip ys).length) (ax_cons (e1 A δ μ r) (ax_cons (e2 A δ μ r) ax_nil)) sq1 sq2 (by simp)
  refine z.congr fun i hi δ => ?_
  have h1 : i < xs.length := by simp at hi; omega
  have h2 : i < ys.length := by simp at hi; omega
  unfold G.bnd
  rw [getD_of (List.getElem?_eq_getElem h1), getD_of (List.getElem?_eq_getElem h2), List.getElem?_eq_getElem hi, List.getElem_zip]
  rfl
def enumI (xs : List α) : List (Int × α) := (rng xs.length).zip xs
theorem wl_enum {f : α → DV} {xs : List α} {j1 j2 : Nat} (h : SqS K ta S (xs.map f)) :
    WXl K (iEnumK K (tCons ta tNil)) (gTup K 2 (gCons (gName j1) (gCons (gName j2) gNil))) S (enumI xs) [(j1, fun p : Int × α => eI p.1), (j2, fun p : Int × α => f p.2)] := fun A δ μ r => by
  obtain ⟨d1, sq1, e1⟩ := h
  have z := wx_enumK (j1 := j1) (j2 := j2) (ax_cons (e1 A δ μ r) ax_nil) sq1
  have hl : (enumI xs).length = (xs.map f).length := by simp [enumI, rng_len]
  rw [← hl] at z
  refine z.congr fun i hi δ => ?_
  have h1 : i < xs.length := by rw [hl, List.length_map] at hi; exact hi
  have h2 : (enumI xs)[i]? = some ((i : Int), xs[i]) := by
    unfold enumI
    rw [List.getElem?_zip_eq_some]
    exact ⟨rng_get (by simpa using h1), List.getElem?_eq_getElem h1⟩
  unfold G.bnd
  rw [getD_of (List.getElem?_eq_getElem h1), h2]
  rfl
/-! ### comprehensions -/
theorem take_filter {xs : List α} {c : α → Bool} {f : α → DV} : ∀ n, n ≤ xs.length → ((List.range n).filter fun i => match xs[i]? with | some x => c x | none => false).map (fun i => match xs[i]? with | some x => f x | none => DV.non) = ((xs.take n).filter c).map f
  | 0, _ => by simp
  | n + 1, h => by
    have hn : n < xs.length := by omega
    rw [List.range_succ, List.filter_append, List.map_append, take_filter n (by omega), List.take_succ, List.getElem?_eq_getElem hn, List.filter_append, List.map_append]
    congr 1
    cases q : c xs[n] with
    | true => simp [List.getElem?_eq_getElem hn, q]
    | false => simp [List.getElem?_eq_getElem hn, q]
theorem lp_lc {wi : TI} {g : TG} {vs : List Nat} {xs : List α} {bs : List (Nat × (α → DV))} (w : WXl K wi g S xs bs) (hl : xs.length ≤ 100000) (hj : ∀ k ∈ bs.map Prod.fst, k ∈ vs) (c : α → Bool) (f : α → DV)
    (ht : ∀ x ∈ xs, TXp K tt (bS bs x (wipeS S vs)) (c x)) (he : ∀ x ∈ xs, c x = true → EXp K te (bS bs x (wipeS S vs)) (f x)) : LXp K (tLc wi g tt te vs) S ((xs.filter c).map f) := fun A δ μ r => by
  have z := lx_lcF (tt := tt) (te := te) (vs := vs) (w A δ μ r) (fun i => match xs[i]? with | some x => f x | none => DV.non) (fun i => match xs[i]? with | some x => c x | none => false) hl hj (fun i hi => ?_) (fun i hi hp => ?_)
  · rw [take_filter _ (Nat.le_refl _), List.take_length] at z
    exact z
  · have e := List.getElem?_eq_getElem hi
    rw [e]
    exact ht _ (List.getElem_mem hi) A _ μ ((r.wipe vs).bnd e)
  · have e := List.getElem?_eq_getElem hi
    rw [e] at hp ⊢
    exact he _ (List.getElem_mem hi) hp A _ μ ((r.wipe vs).bnd e)
theorem filO_some {c : α → Option Bool} : ∀ {xs zs : List α}, filO c xs = some zs → (∀ x ∈ xs, ∃ b, c x = some b) ∧ zs = xs.filter fun x => (c x).getD false
  | [], zs, h => by cases h; exact ⟨fun x h => (by cases h), rfl⟩
  | x :: xs, zs, h => by
    obtain ⟨b, hb, h⟩ := bdO h
    obtain ⟨ys, hy, h⟩ := bdO h
    obtain ⟨h1, h2⟩ := filO_some hy
    refine ⟨fun y hm => (List.mem_cons.mp hm).elim (fun e => ⟨b, by rw [e]; exact hb⟩) (h1 y), ?_⟩
    rw [List.filter_cons, hb]
    cases h
    rw [h2]
    cases b <;> rfl
theorem mapO_some {f : α → Option β} : ∀ {xs : List α} {ys : List β}, mapO f xs = some ys → (∀ x ∈ xs, ∃ y, f x = some y) ∧ ∀ e : β → DV, ys.map e = xs.map fun x => match f x with | some y => e y | none => DV.non
  | [], ys, h => by cases h; exact ⟨fun x h => (by cases h), fun _ => rfl⟩
  | x :: xs, ys, h => by
    obtain ⟨y, hy, h⟩ := bdO h
    obtain ⟨zs, hz, h⟩ := bdO h
    obtain ⟨h1, h2⟩ := mapO_some hz
    cases h
    refine ⟨fun z hm => (List.mem_cons.mp hm).elim (fun e => ⟨y, by rw [e]; exact hy⟩) (h1 z), fun e => ?_⟩
    rw [List.map_cons, List.map_cons, h2 e, hy]
theorem lp_lcM {wi : TI} {g : TG} {vs : List Nat} {xs : List α} {bs : List (Nat × (α → DV))} {c : α → Option Bool} {f : α → Option β} {ys : List β} {e : β → DV} (S' : α → List SL) (w : WXl K wi g S xs bs) (h : lcO c f xs = some ys) (hj : ∀ k ∈ bs.map Prod.fst, k ∈ vs)
    (ht : ∀ x b, c x = some b → TXp K tt (S' x) b) (he : ∀ x y, f x = some y → EXp K te (S' x) (e y)) (hS : ∀ x, bS bs x (wipeS S vs) = S' x := by intro _; rfl) : LXp K (tLc wi g tt te vs) S (ys.map e) := by
  unfold lcO at h
  split at h
  · rename_i hl
    obtain ⟨zs, hz, h⟩ := bdO h
    obtain ⟨h1, h2⟩ := filO_some hz
    obtain ⟨h3, h4⟩ := mapO_some h
    rw [h4 e, h2]
    refine lp_lc w hl hj (fun x => (c x).getD false) _ (fun x hx => ?_) (fun x hx hc => ?_)
    · rw [hS x]
      obtain ⟨b, hb⟩ := h1 x hx
      rw [hb]
      exact ht x b hb
    · rw [hS x]
      obtain ⟨y, hy⟩ := h3 x (by rw [h2, List.mem_filter]; exact ⟨hx, hc⟩)
      rw [hy]
      exact he x y hy
  · cases h
theorem lp_lcA {wi : TI} {g : TG} {vs : List Nat} {xs : List α} {bs : List (Nat × (α → DV))} {f : α → Option β} {ys : List β} {e : β → DV} (S' : α → List SL) (w : WXl K wi g S xs bs) (h : lcA f xs = some ys) (hj : ∀ k ∈ bs.map Prod.fst, k ∈ vs)
    (he : ∀ x y, f x = some y → EXp K te (S' x) (e y)) (hS : ∀ x, bS bs x (wipeS S vs) = S' x := by intro _; rfl) : LXp K (tLc wi g tYes te vs) S (ys.map e) := by
  unfold lcA at h
  split at h
  · rename_i hl
    obtain ⟨h3, h4⟩ := mapO_some h
    rw [h4 e]
    have z := lp_lc (tt := tYes) (te := te) (vs := vs) w hl hj (fun _ => true) (fun x => match f x with | some y => e y | none => DV.non) (fun x hx => tp_yes) (fun x hx _ => ?_)
    · rw [List.filter_eq_self.mpr fun _ _ => rfl] at z
      exact z
    · rw [hS x]
      obtain ⟨y, hy⟩ := h3 x hx
      rw [hy]
      exact he x y hy
  · cases h
end
end G
set_option Elab.async false
set_option linter.all false
set_option maxRecDepth 100000
/-! statements over slots -/
namespace G
open PySem PySem.Spec PyProof.Rows L2 Evl
/-- an exception: its class, its own fields (where it has some) -/
structure Exc where
  cls : Addr
  fs : Option (List (Str × V)) := none
def ExcAt (F : Hp) (x : Exc) (d : Option Addr) (H : Hp) : Prop := match x.fs with
  | none => d = none
  | some fs => ∃ a, d = some a ∧ F a = none ∧ H a = some (.xd fs)
structure Post where
  nx : List SL → Prop := fun _ => False
  bk : List SL → Prop := fun _ => False
  ct : List SL → Prop := fun _ => False
  rt : DV → List SL → Prop := fun _ _ => False
  rl : List DV → List SL → Prop := fun _ _ => False
  xe : Exc → Prop := fun _ => False
  fr : Hp → List Addr → Prop := fun _ _ => True
  nf : Hp → Addr → Addr → Addr → List (Str × DV) → Prop := fun _ _ _ _ _ => False
/-- Z: what the def found hidden; M0: what the loop that runs found hidden; q: the address of the first slot's list, where it is the caller's -/
structure StC (K : PySem.W.Frag) (F : Hp) (M0 Z : List Addr) (q : Option Addr) (S : List SL) (σ : L2.St) (H : Hp) (M : List Addr) (δ : Env) (μ : Sto) (A : Nat → Addr) : Prop where
  z : ∀ a ∈ Z, a ∈ M
  n : ∀ a ∈ M, a ∈ M0 ∨ F a = none
  q : ∀ a, q = some a → A 0 = a
  ho : ∀ (i : Nat) (ds : List DV), S[i]? = some (.own ds) → i ≠ 0 → A i ∉ Z
  r : SRel S A δ μ
  s : Sta K F M δ μ σ H
def StS (K : PySem.W.Frag) (F : Hp) (M0 Z : List Addr) (q : Option Addr) (S : List SL) (σ : L2.St) (H : Hp) : Prop := ∃ M δ μ A, StC K F M0 Z q S σ H M δ μ A
def StR (K : PySem.W.Frag) (F : Hp) (M0 Z : List Addr) (q : Option Addr) (S : List SL) (σ : L2.St) (H : Hp) (v : V) (d : DV) : Prop := ∃ M δ μ A, StC K F M0 Z q S σ H M δ μ A ∧ Rp K (hid M H) v d
def StL (K : PySem.W.Frag) (F : Hp) (M0 Z : List Addr) (q : Option Addr) (S : List SL) (σ : L2.St) (H : Hp) (p : Addr) (ds : List DV) : Prop := ∃ M δ μ, (∀ a ∈ Z, a ∈ M) ∧ (∀ a ∈ M, a ∈ M0 ∨ F a = none) ∧ F p = none ∧ p ∉ M ∧ Sta K F (p :: M) δ ((p, ds) :: μ) σ H
structure Ok (K : PySem.W.Frag) (F : Hp) (M0 Z : List Addr) (q : Option Addr) (E : XK) (P : Post) (D : L2.Ends) : Prop where
  nx : ∀ S' σ' H', P.nx S' → StS K F M0 Z q S' σ' H' → D.nx σ' H'
  bk : ∀ S' σ' H', P.bk S' → StS K F M0 Z q S' σ' H' → D.bk σ' H'
  ct : ∀ S' σ' H', P.ct S' → StS K F M0 Z q S' σ' H' → D.ct σ' H'
  rt : ∀ d S' v σ' H', P.rt d S' → StR K F M0 Z q S' σ' H' v d → D.rt v H'
  rl : ∀ ds S' p σ' H', P.rl ds S' → StL K F M0 Z q S' σ' H' p ds → D.rt (.ref p) H'
  xe : ∀ x d H', P.xe x → ExcAt F x d H' → Ex F H' → E (.ref x.cls) d H'
  nf : ∀ fs x C dx F0 M δ fv σ' H', P.nf F0 x C dx fs → F = upd F0 x (.ins C dx []) → F0 x = none → (∀ a ∈ Z, a ∈ M) → Sta K (upd F0 x (.ins C dx fv)) M δ [] σ' H' → RpF K (hid M H') fv fs → D.nx σ' H'
def W (K : PySem.W.Frag) (E : XK) (ts : TS) (S : List SL) (P : Post) : Prop := ∀ F M0 Z q σ H D, P.fr F Z → StS K F M0 Z q S σ H → Ok K F M0 Z q E P D → ts D σ H
/-- less is told -/
def SLe (S S' : List SL) : Prop := S.length = S'.length ∧ ∀ (i : Nat) (s : SL), S'[i]? = some s → s = .un ∨ S[i]? = some s
theorem SLe.refl {S : List SL} : SLe S S := ⟨rfl, fun i s h => .inr h⟩
theorem sle_nil : SLe [] [] := .refl
theorem sle_same {s : SL} {S S' : List SL} (h : SLe S S') : SLe (s :: S) (s :: S') := ⟨by simp [h.1], fun i t q => by
  cases i with
  | zero => exact .inr q
  | succ i => simpa using h.2 i t (by simpa using q)⟩
theorem sle_un {s : SL} {S S' : List SL} (h : SLe S S') : SLe (s :: S) (.un :: S') := ⟨by simp [h.1], fun i t q => by
  cases i with
  | zero => simp at q; exact .inl q.symm
  | succ i => simpa using h.2 i t (by simpa using q)⟩
section
variable {K : PySem.W.Frag} {E : XK} {F H : Hp} {M0 Z M : List Addr} {q : Option Addr} {S S1 S' : List SL} {σ : L2.St} {δ : Env} {μ : Sto} {A : Nat → Addr} {P : Post} {ts t u tb : TS} {te ta : TE} {tt : TT} {d d1 d2 d3 : DV} {ds es : List DV} {i j : Nat} {D : L2.Ends} {wi : TI} {g : TG} {α τ ρ : Type}
theorem SRel.less (r : SRel S A δ μ) (h : SLe S S') : SRel S' A δ μ :=
  ⟨r.len.trans h.1, r.nd, fun i d q => (h.2 i _ q).elim (fun e => by cases e) (r.dat i d), fun i ds q => (h.2 i _ q).elim (fun e => by cases e) (r.own i ds), fun i j ds es q1 q2 =>
    (h.2 i _ q1).elim (fun e => by cases e) fun q1 => (h.2 j _ q2).elim (fun e => by cases e) fun q2 => r.inj i j ds es q1 q2⟩
theorem StS.less (h : StS K F M0 Z q S σ H) (l : SLe S S') : StS K F M0 Z q S' σ H := by
  obtain ⟨M, δ, μ, A, c⟩ := h
  exact ⟨M, δ, μ, A, c.z, c.n, c.q, fun i ds e h0 => (l.2 i _ e).elim (fun e => by cases e) fun e => c.ho i ds e h0, c.r.less l, c.s⟩
theorem w_weak (l : SLe S S') (h : W K E ts S' P) : W K E ts S P := fun F M0 Z q σ H D fr st ok => h F M0 Z q σ H D fr (st.less l) ok
theorem q_seq (h : W K E t S { P with nx := fun S' => W K E u S' P, nf := fun _ _ _ _ _ => False }) : W K E (tSeq t u) S P := fun F M0 Z q σ H D fr st ok =>
  h F M0 Z q σ H { D with nx := u D } fr st ⟨fun S' σ' H' hw st' => hw F M0 Z q σ' H' D fr st' ok, ok.bk, ok.ct, ok.rt, ok.rl, ok.xe, fun _ _ _ _ _ _ _ _ _ _ h => h.elim⟩
/-- another end -/
theorem W.post {P' : Post} (h : W K E ts S P) (e1 : ∀ S', P.nx S' → P'.nx S') (e2 : ∀ S', P.bk S' → P'.bk S') (e3 : ∀ S', P.ct S' → P'.ct S') (e4 : ∀ d S', P.rt d S' → P'.rt d S') (e5 : ∀ d S', P.rl d S' → P'.rl d S') (e6 : ∀ x, P.xe x → P'.xe x) (e0 : ∀ F Z, P'.fr F Z → P.fr F Z) (e7 : ∀ F0 x C dx fs, P.nf F0 x C dx fs → P'.nf F0 x C dx fs) : W K E ts S P' := fun F M0 Z q σ H D fr st ok =>
  h F M0 Z q σ H D (e0 F Z fr) st ⟨fun S' σ' H' p => ok.nx S' σ' H' (e1 _ p), fun S' σ' H' p => ok.bk S' σ' H' (e2 _ p), fun S' σ' H' p => ok.ct S' σ' H' (e3 _ p), fun d S' v σ' H' p => ok.rt d S' v σ' H' (e4 _ _ p), fun d S' v σ' H' p => ok.rl d S' v σ' H' (e5 _ _ p), fun x d H' p => ok.xe x d H' (e6 _ p), fun fs x C dx F0 M δ fv σ' H' p => ok.nf fs x C dx F0 M δ fv σ' H' (e7 _ _ _ _ _ p)⟩
theorem StC.asg {M : List Addr} {σ' : L2.St} {H' : Hp} (c : StC K F M0 Z q S σ H M δ μ A) (s : Sta K F M (δ.set i (some d)) μ σ' H') : StC K F M0 Z q (S.set i (.dat d)) σ' H' M (δ.set i (some d)) μ A :=
  ⟨c.z, c.n, c.q, fun j ds e h0 => (set_cases e).elim (fun z => by cases z.2.1) (fun z => c.ho j ds z.2 h0), c.r.set i d, s⟩
theorem w_asg (ha : EXp K te S d) (S' : List SL) (k : P.nx S') (hS : S.set i (.dat d) = S' := by rfl) : W K E (tAsg te (gName i)) S P := fun F M0 Z q σ H D fr st ok => by
  subst hS
  obtain ⟨M, δ, μ, A, c⟩ := st
  exact x_asg c.s (ha A δ μ c.r) fun σ' H' s' => ok.nx _ σ' H' k ⟨M, _, μ, A, c.asg s'⟩
theorem q_asg (ha : EXp K te S d) (S' : List SL) (k : W K E u S' P) (hS : S.set i (.dat d) = S' := by rfl) : W K E (tSeq (tAsg te (gName i)) u) S P := q_seq (w_asg ha S' k hS)
theorem w_asgL (ha : LXp K te S ds) (S' : List SL) (k : P.nx S') (hS : S.set i (.own ds) = S' := by rfl) (hi : i ≠ 0 := by decide) : W K E (tAsg te (gName i)) S P := fun F M0 Z q σ H D fr st ok => by
  subst hS
  obtain ⟨M, δ, μ, A, c⟩ := st
  refine x_asgL c.s (ha A δ μ c.r) fun p σ' H' hp s' => ok.nx _ σ' H' k ⟨p :: M, δ.set i (some (.box p)), (p, ds) :: μ, fun j => if j = i then p else A j, ?_⟩
  have hpF : F p = none := (s'.dm (p, ds) (by simp)).2
  have hnd := List.nodup_cons.mp s'.nd
  refine ⟨fun a ha => List.mem_cons_of_mem _ (c.z a ha), fun a ha => (List.mem_cons.mp ha).elim (fun e => .inr (by rw [e]; exact hpF)) (c.n a), fun a ha => by rw [if_neg (fun e => hi e.symm)]; exact c.q a ha, fun j es e h0 => ?_, ?_, s'⟩
  · by_cases hj : j = i
    · show (if j = i then p else A j) ∉ Z
      rw [if_pos hj]
      exact fun hz => hp (c.z p hz)
    · show (if j = i then p else A j) ∉ Z
      rw [if_neg hj]
      exact c.ho j es ((set_cases e).elim (fun z => (hj z.1.symm).elim) fun z => z.2) h0
  · have key : ∀ (j : Nat) (es : List DV), S[j]? = some (.own es) → A j ≠ p := fun j es e z => hnd.1 (List.mem_map.mpr ⟨_, (c.r.own j es e).2, z⟩)
    refine ⟨by simpa using c.r.len, s'.nd, fun j e h => ?_, fun j es h => ?_, fun j k es fs h1 h2 => ?_⟩
    · rcases set_cases h with ⟨z, e1, hl⟩ | ⟨z, h⟩
      · cases e1
      · rw [List.getElem?_set_ne z]
        exact c.r.dat j e h
    · rcases set_cases h with ⟨z, e1, hl⟩ | ⟨z, h⟩
      · subst z
        cases e1
        simp only [if_pos]
        exact ⟨List.getElem?_set_self (by rw [c.r.len]; exact hl), by simp⟩
      · obtain ⟨h1, h2⟩ := c.r.own j es h
        rw [if_neg (fun e => z e.symm), List.getElem?_set_ne z]
        exact ⟨h1, List.mem_cons_of_mem _ h2⟩
    · show (if j = i then p else A j) = (if k = i then p else A k) → j = k
      rcases set_cases h1 with ⟨z1, e1, _⟩ | ⟨z1, g1⟩ <;> rcases set_cases h2 with ⟨z2, e2, _⟩ | ⟨z2, g2⟩
      · intro _
        omega
      · rw [if_pos z1.symm, if_neg (fun e => z2 e.symm)]
        exact fun e => (key k fs g2 e.symm).elim
      · rw [if_neg (fun e => z1 e.symm), if_pos z2.symm]
        exact fun e => (key j es g1 e).elim
      · rw [if_neg (fun e => z1 e.symm), if_neg (fun e => z2 e.symm)]
        exact c.r.inj j k es fs g1 g2
theorem q_asgL (ha : LXp K te S ds) (S' : List SL) (k : W K E u S' P) (hS : S.set i (.own ds) = S' := by rfl) (hi : i ≠ 0 := by decide) : W K E (tSeq (tAsg te (gName i)) u) S P := q_seq (w_asgL ha S' k hS hi)
theorem w_ret (ha : EXp K te S d) (k : P.rt d S) : W K E (tRet te) S P := fun F M0 Z q σ H D fr st ok => by
  obtain ⟨M, δ, μ, A, c⟩ := st
  exact x_ret c.s (ha A δ μ c.r) fun v H' s' rv => ok.rt d S v σ H' k ⟨M, δ, μ, A, ⟨c.z, c.n, c.q, c.ho, c.r, s'⟩, rv⟩
theorem w_retL (ha : LXp K te S ds) (k : P.rl ds S) : W K E (tRet te) S P := fun F M0 Z q σ H D fr st ok => by
  obtain ⟨M, δ, μ, A, c⟩ := st
  refine ha A δ μ c.r F M σ H c.s _ fun p H1 hp hpM e s1 => ok.rl ds S p σ H1 k ⟨M, δ, μ, c.z, c.n, (s1.dm (p, ds) (by simp)).2, hpM, s1⟩
theorem w_retN (k : P.rt .non S) : W K E tRetN S P := fun F M0 Z q σ H D fr st ok => by
  obtain ⟨M, δ, μ, A, c⟩ := st
  exact ok.rt .non S .non σ H k ⟨M, δ, μ, A, c, .non⟩
theorem w_next (k : P.nx S) : W K E tNext S P := fun F M0 Z q σ H D fr st ok => ok.nx S σ H k st
theorem w_break (k : P.bk S) : W K E tBreak S P := fun F M0 Z q σ H D fr st ok => ok.bk S σ H k st
theorem w_cont (k : P.ct S) : W K E tCont S P := fun F M0 Z q σ H D fr st ok => ok.ct S σ H k st
theorem w_if {b : Bool} (h : TXp K tt S b) (h1 : b = true → W K E t S P) (h2 : b = false → W K E u S P) : W K E (tIfS tt t u) S P := fun F M0 Z q σ H D fr st ok => by
  obtain ⟨M, δ, μ, A, c⟩ := st
  exact x_if c.s (h A δ μ c.r) (fun hb H' s' => h1 hb F M0 Z q σ H' D fr ⟨M, δ, μ, A, c.z, c.n, c.q, c.ho, c.r, s'⟩ ok) fun hb H' s' => h2 hb F M0 Z q σ H' D fr ⟨M, δ, μ, A, c.z, c.n, c.q, c.ho, c.r, s'⟩ ok
theorem w_drop (ha : EXp K te S d) (k : P.nx S) : W K E (tDrop te) S P := fun F M0 Z q σ H D fr st ok => by
  obtain ⟨M, δ, μ, A, c⟩ := st
  exact x_drop c.s (ha A δ μ c.r) fun H' s' => ok.nx S σ H' k ⟨M, δ, μ, A, c.z, c.n, c.q, c.ho, c.r, s'⟩
/-! the def's own lists changed -/
theorem SRel.setown (r : SRel S A δ μ) {n : Nat} (hn : μ[n]? = some (A i, ds)) (hi : S[i]? = some (.own ds)) : SRel (S.set i (.own es)) A δ (μ.set n (A i, es)) := by
  refine ⟨by simpa using r.len, by rw [set_fst hn]; exact r.nd, fun j e h => ?_, fun j fs h => ?_, fun j k fs gs h1 h2 => ?_⟩
  · rcases set_cases h with ⟨z, e1, hl⟩ | ⟨z, h⟩
    · cases e1
    · exact r.dat j e h
  · rcases set_cases h with ⟨z, e1, hl⟩ | ⟨z, h⟩
    · subst z
      cases e1
      exact ⟨(r.own i ds hi).1, List.mem_of_getElem? (List.getElem?_set_self (List.getElem?_eq_some_iff.mp hn).1)⟩
    · obtain ⟨h1, h2⟩ := r.own j fs h
      obtain ⟨m, hm⟩ := List.getElem?_of_mem h2
      have hne : n ≠ m := fun e => by
        subst e
        rw [hn] at hm
        exact z (r.inj i j ds fs hi h (congrArg Prod.fst (Option.some.inj hm)))
      exact ⟨h1, List.mem_of_getElem? (by rw [List.getElem?_set_ne hne]; exact hm)⟩
  · have back : ∀ (j : Nat) (fs : List DV), (S.set i (.own es))[j]? = some (.own fs) → ∃ gs, S[j]? = some (.own gs) := fun j fs h => by
      rcases set_cases h with ⟨z, e1, hl⟩ | ⟨z, h⟩
      · subst z
        exact ⟨ds, hi⟩
      · exact ⟨fs, h⟩
    obtain ⟨_, g1⟩ := back j fs h1
    obtain ⟨_, g2⟩ := back k gs h2
    exact r.inj j k _ _ g1 g2
theorem StC.setown {M : List Addr} {σ' : L2.St} {H' : Hp} (c : StC K F M0 Z q S σ H M δ μ A) {n : Nat} (hn : μ[n]? = some (A i, ds)) (hi : S[i]? = some (.own ds)) (s : Sta K F M δ (μ.set n (A i, es)) σ' H') : StC K F M0 Z q (S.set i (.own es)) σ' H' M δ (μ.set n (A i, es)) A :=
  ⟨c.z, c.n, c.q, fun j fs e h0 => by
    rcases set_cases e with ⟨z, e1, hl⟩ | ⟨z, h⟩
    · subst z
      exact c.ho i ds hi h0
    · exact c.ho j fs h h0, c.r.setown hn hi, s⟩
theorem w_app {f : α → DV} {xs zs : List α} {y : α} (hi : S[i]? = some (.own (xs.map f))) (ha : EXp K te S (f y)) (h : appO xs y = some zs) (S' : List SL) (k : P.nx S') (hS : S.set i (.own (zs.map f)) = S' := by rfl) :
    W K E (tDrop (tBM K "list" rAppend (tVar i) (tCons te tNil))) S P := fun F M0 Z q σ H D fr st ok => by
  subst hS
  unfold appO at h
  split at h
  · rename_i hz
    cases h
    obtain ⟨M, δ, μ, A, c⟩ := st
    obtain ⟨g1, g2⟩ := c.r.own i _ hi
    obtain ⟨n, hn⟩ := List.getElem?_of_mem g2
    refine y_app c.s (ex_var g1) (ha A δ μ c.r) hn (by simpa using hz) fun H' s' => ok.nx _ σ H' k ⟨M, δ, μ.set n (A i, xs.map f ++ [f y]), A, ?_⟩
    rw [List.map_append]
    exact c.setown hn hi s'
  · cases h
theorem w_setL {f : α → DV} {xs zs : List α} {y : α} {m : Int} (hi : S[i]? = some (.own (xs.map f))) (ha : EXp K te S (f y)) (hb : EXp K ta S (.int m)) (h : setO xs m y = some zs) (S' : List SL) (k : P.nx S') (hS : S.set i (.own (zs.map f)) = S' := by rfl) :
    W K E (tAsg te (gSub (tVar i) ta rSetL)) S P := fun F M0 Z q σ H D fr st ok => by
  subst hS
  unfold setO at h
  split at h
  · rename_i n' hix
    cases h
    obtain ⟨M, δ, μ, A, c⟩ := st
    obtain ⟨g1, g2⟩ := c.r.own i _ hi
    obtain ⟨n, hn⟩ := List.getElem?_of_mem g2
    refine y_setL c.s (ha A δ μ c.r) (ex_var g1) (hb A δ μ c.r) hn (by rw [List.length_map]; exact hix) fun H' s' => ok.nx _ σ H' k ⟨M, δ, μ.set n (A i, (xs.map f).set n' (f y)), A, ?_⟩
    rw [List.map_set]
    exact c.setown hn hi s'
  · cases h
theorem w_aug {f : Int → Int → Int} {a b : Int} (hx : S[i]? = some (.dat (.int a))) (h : EXp K te S (.int b)) (S' : List SL) (k : P.nx S') (hS : S.set i (.dat (.int (f a b))) = S' := by rfl) : W K E (tAug i te (ipI f)) S P := fun F M0 Z q σ H D fr st ok => by
  subst hS
  obtain ⟨M, δ, μ, A, c⟩ := st
  exact x_aug c.s (c.r.dat i _ hx) (h A δ μ c.r) fun σ' H' s' => ok.nx _ σ' H' k ⟨M, _, μ, A, c.asg s'⟩
theorem StC.asg2 {M : List Addr} {σ' : L2.St} {H' : Hp} (c : StC K F M0 Z q S σ H M δ μ A) (s : Sta K F M ((δ.set i (some d1)).set j (some d2)) μ σ' H') : StC K F M0 Z q ((S.set i (.dat d1)).set j (.dat d2)) σ' H' M ((δ.set i (some d1)).set j (some d2)) μ A :=
  ⟨c.z, c.n, c.q, fun k ds e h0 => (set_cases e).elim (fun z => by cases z.2.1) (fun z => (set_cases z.2).elim (fun z => by cases z.2.1) fun z => c.ho k ds z.2 h0), (c.r.set i d1).set j d2, s⟩
theorem StC.asg3 {M : List Addr} {σ' : L2.St} {H' : Hp} {l : Nat} (c : StC K F M0 Z q S σ H M δ μ A) (s : Sta K F M (((δ.set i (some d1)).set j (some d2)).set l (some d3)) μ σ' H') : StC K F M0 Z q (((S.set i (.dat d1)).set j (.dat d2)).set l (.dat d3)) σ' H' M (((δ.set i (some d1)).set j (some d2)).set l (some d3)) μ A :=
  ⟨c.z, c.n, c.q, fun k ds e h0 => (set_cases e).elim (fun z => by cases z.2.1) (fun z => (set_cases z.2).elim (fun z => by cases z.2.1) fun z => (set_cases z.2).elim (fun z => by cases z.2.1) fun z => c.ho k ds z.2 h0), ((c.r.set i d1).set j d2).set l d3, s⟩
theorem w_par {ta : TA} (h : AXp K ta S [d1, d2]) (S' : List SL) (k : P.nx S') (hS : (S.set i (.dat d1)).set j (.dat d2) = S' := by rfl) : W K E (tPar i j ta) S P := fun F M0 Z q σ H D fr st ok => by
  subst hS
  obtain ⟨M, δ, μ, A, c⟩ := st
  exact x_par c.s (h A δ μ c.r) fun σ' H' s' => ok.nx _ σ' H' k ⟨M, _, μ, A, c.asg2 s'⟩
theorem w_tup2 (h : EXp K te S (.tup [d1, d2])) (S' : List SL) (k : P.nx S') (hS : (S.set i (.dat d1)).set j (.dat d2) = S' := by rfl) : W K E (tAsg te (gTup K 2 (gCons (gName i) (gCons (gName j) gNil)))) S P := fun F M0 Z q σ H D fr st ok => by
  subst hS
  obtain ⟨M, δ, μ, A, c⟩ := st
  exact x_tup2 c.s (h A δ μ c.r) fun σ' H' s' => ok.nx _ σ' H' k ⟨M, _, μ, A, c.asg2 s'⟩
theorem w_tup3 {l : Nat} (h : EXp K te S (.tup [d1, d2, d3])) (S' : List SL) (k : P.nx S') (hS : ((S.set i (.dat d1)).set j (.dat d2)).set l (.dat d3) = S' := by rfl) : W K E (tAsg te (gTup K 3 (gCons (gName i) (gCons (gName j) (gCons (gName l) gNil))))) S P := fun F M0 Z q σ H D fr st ok => by
  subst hS
  obtain ⟨M, δ, μ, A, c⟩ := st
  exact x_tup3 c.s (h A δ μ c.r) fun σ' H' s' => ok.nx _ σ' H' k ⟨M, _, μ, A, c.asg3 s'⟩
/-- a list of the def's own stands still from here on -/
theorem w_free (hi : S[i]? = some (.own ds)) (S' : List SL) (k : W K E ts S' P) (hS : S.set i (.dat (.lst ds)) = S' := by rfl) (h0 : i ≠ 0 := by decide) : W K E ts S P := fun F M0 Z q σ H D fr st ok => by
  subst hS
  obtain ⟨M, δ, μ, A, c⟩ := st
  obtain ⟨g1, g2⟩ := c.r.own i ds hi
  obtain ⟨s, t, rfl⟩ := List.append_of_mem g2
  have hM : A i ∈ M := (c.s.dm _ g2).1
  have hp : A i ∉ M.filter (fun a => decide (a ≠ A i)) := by simp
  have st1 := c.s.perm (M' := A i :: M.filter fun a => decide (a ≠ A i)) (fun a => by
    by_cases e : a = A i
    · simp [e, hM]
    · simp [e]) List.perm_middle
  have st2 := st1.free hp g1
  have hnd := st1.nd
  rw [List.map_cons, List.nodup_cons] at hnd
  refine k F M0 Z q σ H D fr ⟨_, _, _, A, fun a ha => ?_, fun a ha => c.n a (List.mem_filter.mp ha).1, c.q, fun j fs e hj => ?_, ⟨by simpa using c.r.len, hnd.2, fun j e h => ?_, fun j fs h => ?_, fun j k fs gs h1 h2 => ?_⟩, st2⟩ ok
  · exact List.mem_filter.mpr ⟨c.z a ha, decide_eq_true fun e => c.ho i ds hi h0 (by rw [← e]; exact ha)⟩
  · exact (set_cases e).elim (fun z => by cases z.2.1) fun z => c.ho j fs z.2 hj
  · exact (c.r.set i (.lst ds)).dat j e h
  · rcases set_cases h with ⟨z, e1, _⟩ | ⟨z, h⟩
    · cases e1
    · obtain ⟨a1, a2⟩ := c.r.own j fs h
      refine ⟨by rw [List.getElem?_set_ne z]; exact a1, ?_⟩
      rcases List.mem_append.mp a2 with m | m
      · exact List.mem_append_left _ m
      · rcases List.mem_cons.mp m with m | m
        · exact (z (c.r.inj i j ds fs hi h (congrArg Prod.fst m).symm)).elim
        · exact List.mem_append_right _ m
  · rcases set_cases h1 with ⟨z, e1, _⟩ | ⟨z, h1⟩
    · cases e1
    rcases set_cases h2 with ⟨z, e1, _⟩ | ⟨z, h2⟩
    · cases e1
    exact c.r.inj j k fs gs h1 h2
end
end G
set_option Elab.async false
set_option linter.all false
set_option maxRecDepth 100000
/-! loops over slots; what changes a list of the def's own on the way; defs -/
namespace G
open PySem PySem.Spec PyProof.Rows L2 Evl
inductive Fl (τ ρ : Type) where
  | nx (s : τ)
  | bk (s : τ)
  | rt (r : ρ)
def loopO {α τ ρ : Type} (body : α → τ → Option (Fl τ ρ)) : List α → τ → Option (Fl τ ρ)
  | [], s => some (.nx s)
  | x :: xs, s => (body x s).bind fun fl => match fl with
    | .nx s' => loopO body xs s'
    | .bk s' => some (.nx s')
    | .rt r => some (.rt r)
def foldO {α τ : Type} (body : α → τ → Option τ) : List α → τ → Option τ
  | [], s => some s
  | x :: xs, s => (body x s).bind fun s' => foldO body xs s'
def thenL {τ ρ γ : Type} (k : τ → Option γ) (r : ρ → Option γ) : Fl τ ρ → Option γ
  | .nx s => k s
  | .bk s => k s
  | .rt x => r x
def whileO {τ ρ : Type} (c : τ → Option Bool) (body : τ → Option (Fl τ ρ)) : Nat → τ → Option (Fl τ ρ)
  | 0, _ => none
  | n + 1, s => (c s).bind fun b => if b then (body s).bind fun fl => (match fl with
    | .nx s' => whileO c body n s'
    | .bk s' => some (.nx s')
    | .rt r => some (.rt r)) else some (.nx s)
theorem foldO_loop {α τ ρ : Type} {body : α → τ → Option τ} : ∀ {xs : List α} {s t : τ}, foldO body xs s = some t → loopO (ρ := ρ) (fun x s => (body x s).map .nx) xs s = some (.nx t)
  | [], s, t, h => by cases h; rfl
  | x :: xs, s, t, h => by
    obtain ⟨s', h1, h2⟩ := bdO h
    show ((body x s).map Fl.nx).bind _ = _
    rw [h1]
    exact foldO_loop h2
section
variable {K : PySem.W.Frag} {E : XK} {F F1 H H' : Hp} {M0 Z M M1 : List Addr} {q : Option Addr} {S S1 S2 S' : List SL} {σ : L2.St} {δ : Env} {μ : Sto} {A : Nat → Addr} {P : Post} {ts t u tb : TS} {te ta tc : TE} {tr : TA} {tt tu : TT} {d d1 d2 d3 : DV} {ds es : List DV} {i j : Nat} {D : L2.Ends} {wi : TI} {g : TG} {α β τ ρ : Type}
theorem bS_own {x : α} : ∀ {bs : List (Nat × (α → DV))} {S : List SL} {i : Nat} {ds : List DV}, (bS bs x S)[i]? = some (.own ds) → S[i]? = some (.own ds)
  | [], _, _, _, h => h
  | p :: bs, S, i, ds, h => by
    have z := bS_own (bs := bs) (S := S.set p.1 (.dat (p.2 x))) h
    exact (set_cases z).elim (fun y => by cases y.2.1) fun y => y.2
theorem StC.narrow (c : StC K F1 M Z q S σ H M1 δ μ A) (e : Ex F F1) (hn : ∀ a ∈ M, a ∈ M0 ∨ F a = none) : StC K F M0 Z q S σ H M1 δ μ A :=
  ⟨c.z, fun a ha => (c.n a ha).elim (hn a) fun z => .inr (by
    cases h : F a with
    | none => rfl
    | some o => rw [e a o h] at z; cases z), c.q, c.ho, c.r, c.s.narrow e⟩
theorem none_of (e : Ex F F1) {a : Addr} (z : F1 a = none) : F a = none := by
  cases h : F a with
  | none => rfl
  | some o => rw [e a o h] at z; cases z
theorem ExcAt.back {x : Exc} {dd : Option Addr} (h : ExcAt F1 x dd H) (e : Ex F F1) : ExcAt F x dd H := by
  unfold ExcAt at h ⊢
  split at h
  · exact h
  · obtain ⟨a, h1, h2, h3⟩ := h
    exact ⟨a, h1, none_of e h2, h3⟩
/-- the end of a loop's body -/
abbrev bodyP (P : Post) (SE : τ → List SL) (PR : ρ → DV → List SL → Prop) (PL : ρ → List DV → List SL → Prop) (fl : Fl τ ρ) : Post :=
  { nx := fun S' => ∃ s', fl = .nx s' ∧ SLe S' (SE s'), ct := fun S' => ∃ s', fl = .nx s' ∧ SLe S' (SE s'), bk := fun S' => ∃ s', fl = .bk s' ∧ SLe S' (SE s'), rt := fun d S' => ∃ r, fl = .rt r ∧ PR r d S', rl := fun d S' => ∃ r, fl = .rt r ∧ PL r d S', xe := P.xe }
theorem ok_body {SE : τ → List SL} {PR : ρ → DV → List SL → Prop} {PL : ρ → List DV → List SL → Prop} {fl : Fl τ ρ} {N : L2.St → Hp → Prop} (ok : Ok K F M0 Z q E P D) (eF : Ex F F1) (hn : ∀ a ∈ M, a ∈ M0 ∨ F a = none)
    (hN : ∀ s' σ' H', fl = .nx s' → StS K F1 M Z q (SE s') σ' H' → N σ' H') (hb : ∀ s', fl = .bk s' → P.nx (SE s')) (hr : ∀ r d S', fl = .rt r → PR r d S' → P.rt d S') (hl : ∀ r d S', fl = .rt r → PL r d S' → P.rl d S') :
    Ok K F1 M Z q E (bodyP P SE PR PL fl) { D with nx := N, ct := N, bk := D.nx } where
  nx := fun S' σ' H' ⟨s', e, l⟩ st => hN s' σ' H' e (st.less l)
  ct := fun S' σ' H' ⟨s', e, l⟩ st => hN s' σ' H' e (st.less l)
  bk := fun S' σ' H' ⟨s', e, l⟩ st => by
    obtain ⟨M1, δ, μ, A, c⟩ := st.less l
    exact ok.nx _ σ' H' (hb s' e) ⟨M1, δ, μ, A, c.narrow eF hn⟩
  rt := fun d S' v σ' H' ⟨r, e, p⟩ st => by
    obtain ⟨M1, δ, μ, A, c, rv⟩ := st
    exact ok.rt d S' v σ' H' (hr r d S' e p) ⟨M1, δ, μ, A, c.narrow eF hn, rv⟩
  rl := fun d S' p σ' H' ⟨r, e, pp⟩ st => by
    obtain ⟨M1, δ, μ, z, n, f, pm, s⟩ := st
    exact ok.rl d S' p σ' H' (hl r d S' e pp) ⟨M1, δ, μ, z, fun a ha => (n a ha).elim (hn a) fun y => .inr (none_of eF y), none_of eF f, pm, s.narrow eF⟩
  xe := fun x dd H' h1 h2 h3 => ok.xe x dd H' h1 (h2.back eF) (eF.trans h3)
  nf := fun _ _ _ _ _ _ _ _ _ _ h => h.elim
theorem w_loop {xs : List α} {bs : List (Nat × (α → DV))} {body : α → τ → Option (Fl τ ρ)} {fl : Fl τ ρ} (SE : τ → List SL) (s0 : τ) (hS : SLe S (SE s0)) (w : WXl K wi g (SE s0) xs bs) (h : loopO body xs s0 = some fl)
    (PR : ρ → DV → List SL → Prop) (PL : ρ → List DV → List SL → Prop)
    (turn : ∀ x s fl', body x s = some fl' → W K E tb (bS bs x (SE s)) (bodyP P SE PR PL fl'))
    (done : ∀ s1, fl = .nx s1 → P.nx (SE s1)) (hr : ∀ r d S', fl = .rt r → PR r d S' → P.rt d S') (hl : ∀ r d S', fl = .rt r → PL r d S' → P.rl d S') : W K E (tFor wi g tb) S P := fun F M0 Z q σ H D fr st ok => by
  obtain ⟨M, δ, μ, A, c⟩ := st.less hS
  refine w A δ μ c.r F M σ H c.s _ fun J H1 e1 s1 T => ?_
  obtain ⟨s1w, eF, eB⟩ := s1.widen
  generalize hid (μ.map Prod.fst) H1 = F1 at s1w eF eB
  have back : ∀ {M1 : List Addr}, (∀ a ∈ M1, a ∈ M ∨ F1 a = none) → ∀ a o, hid M H1 a = some o → a ∉ M1 := fun {M1} h a o qq hm => by
    rcases h a hm with z | z
    · exact hid_no qq z
    · rw [eB a o qq] at z; cases z
  refine ⟨fun i m σ2 H2 => m = xs.length - i ∧ i ≤ xs.length ∧ ∃ s, loopO body (xs.drop i) s = some fl ∧ StS K F1 M Z q (SE s) σ2 H2, ⟨xs.length, by simp, Nat.zero_le _, s0, h, M, δ, μ, A, c.z, fun a ha => .inl ha, c.q, c.ho, c.r, s1w⟩, ?_⟩
  rintro i m σ2 H2 ⟨rfl, hi, s, hf, M2, δ2, μ2, A2, c2⟩
  have ed : Ex (hid M H1) (hid M2 H2) := c2.s.data eB (back c2.n)
  by_cases hlt : i < xs.length
  · rw [List.drop_eq_getElem_cons hlt] at hf
    obtain ⟨fl', hb, hf⟩ := bdO hf
    refine .inr ⟨T.go i H2 _ ed hlt, fun σ3 H3 => ∃ s', fl' = .nx s' ∧ StS K F1 M Z q (SE s') σ3 H3, fun σ3 H3 ⟨s', e, st'⟩ => ⟨xs.length - (i + 1), by omega, rfl, hlt, s', by subst e; exact hf, st'⟩, fun x H3 y => ?_⟩
    refine T.bind i H2 x H3 _ _ _ _ _ hlt ed c2.s y _ fun σ3 e3 s3 _ _ => ?_
    have hg := List.getElem?_eq_getElem hlt
    refine turn xs[i] s fl' hb F1 M Z q σ3 H3 _ True.intro ⟨M2, _, μ2, A2, c2.z, c2.n, c2.q, fun k fs e h0 => c2.ho k fs (bS_own e) h0, c2.r.bnd hg, s3⟩ (ok_body ok eF c.n (fun s' σ' H' e st' => ⟨s', e, st'⟩) (fun s' e => ?_) (fun r dd S' e p => ?_) (fun r dd S' e p => ?_))
    · subst e
      exact done s' (Option.some.inj hf).symm
    · subst e
      exact hr r dd S' (Option.some.inj hf).symm p
    · subst e
      exact hl r dd S' (Option.some.inj hf).symm p
  · have e : i = xs.length := by omega
    subst e
    rw [List.drop_length] at hf
    exact .inl ⟨T.stop H2 _ ed, ok.nx _ σ2 H2 (done s (Option.some.inj hf).symm) ⟨M2, δ2, μ2, A2, c2.narrow eF c.n⟩⟩
/-- the body neither returns nor breaks -/
theorem w_fold {xs : List α} {bs : List (Nat × (α → DV))} {body : α → τ → Option τ} {s1 : τ} (SE : τ → List SL) (s0 : τ) (hS : SLe S (SE s0)) (w : WXl K wi g (SE s0) xs bs) (h : foldO body xs s0 = some s1)
    (turn : ∀ x s s', body x s = some s' → W K E tb (bS bs x (SE s)) { nx := fun S' => SLe S' (SE s'), ct := fun S' => SLe S' (SE s'), xe := P.xe }) (done : P.nx (SE s1)) : W K E (tFor wi g tb) S P := by
  refine w_loop (ρ := Empty) SE s0 hS w (foldO_loop h) (fun r => r.elim) (fun r => r.elim) (fun x s fl' hb => ?_) (fun s e => by cases e; exact done) (fun r => r.elim) (fun r => r.elim)
  cases q : body x s with
  | none => rw [q] at hb; cases hb
  | some s' =>
    rw [q] at hb
    cases hb
    exact (turn x s s' q).post (fun S' l => ⟨s', rfl, l⟩) (fun _ z => z.elim) (fun S' l => ⟨s', rfl, l⟩) (fun _ _ z => z.elim) (fun _ _ z => z.elim) (fun _ z => z) (fun _ _ z => z) (fun _ _ _ _ _ z => z)
theorem w_while {c : τ → Option Bool} {body : τ → Option (Fl τ ρ)} {fl : Fl τ ρ} {n : Nat} (SE : τ → List SL) (s0 : τ) (hS : SLe S (SE s0)) (h : whileO c body n s0 = some fl) (PR : ρ → DV → List SL → Prop) (PL : ρ → List DV → List SL → Prop)
    (test : ∀ s b, c s = some b → TXp K tt (SE s) b) (turn : ∀ s fl', body s = some fl' → W K E tb (SE s) (bodyP P SE PR PL fl'))
    (done : ∀ s1, fl = .nx s1 → P.nx (SE s1)) (hr : ∀ r d S', fl = .rt r → PR r d S' → P.rt d S') (hl : ∀ r d S', fl = .rt r → PL r d S' → P.rl d S') : W K E (tWhile tt tb) S P := fun F M0 Z q σ H D fr st ok => by
  refine ⟨fun m σ2 H2 => ∃ s, whileO c body m s = some fl ∧ StS K F M0 Z q (SE s) σ2 H2, ⟨n, s0, h, st.less hS⟩, ?_⟩
  rintro m σ2 H2 ⟨s, hf, M2, δ2, μ2, A2, c2⟩
  cases m with
  | zero => cases hf
  | succ m =>
    obtain ⟨b, hb, hf⟩ := bdO hf
    refine test s b hb A2 δ2 μ2 c2.r F M2 σ2 H2 c2.s _ fun H3 e3 s3 => ?_
    have st3 : StS K F M0 Z q (SE s) σ2 H3 := ⟨M2, δ2, μ2, A2, c2.z, c2.n, c2.q, c2.ho, c2.r, s3⟩
    cases b with
    | true =>
      obtain ⟨fl', hb2, hf⟩ := bdO hf
      rw [if_pos rfl]
      refine ⟨fun σ4 H4 => ∃ s', fl' = .nx s' ∧ StS K F M0 Z q (SE s') σ4 H4, fun σ4 H4 ⟨s', e, st4⟩ => ⟨m, Nat.lt_succ_self m, s', by subst e; exact hf, st4⟩, ?_⟩
      refine turn s fl' hb2 F M0 Z q σ2 H3 _ True.intro st3 (ok_body ok (Ex.refl _) (fun a ha => .inl ha) (fun s' σ' H' e st' => ⟨s', e, st'⟩) (fun s' e => ?_) (fun r dd S' e p => ?_) (fun r dd S' e p => ?_))
      · subst e
        exact done s' (Option.some.inj hf).symm
      · subst e
        exact hr r dd S' (Option.some.inj hf).symm p
      · subst e
        exact hl r dd S' (Option.some.inj hf).symm p
    | false =>
      rw [if_neg Bool.false_ne_true]
      exact ok.nx _ σ2 H3 (done s (Option.some.inj hf).symm) st3
/-! ### what changes a list of the def's own on the way -/
theorem OwnLe.refl : OwnLe S S := fun i ds h => ⟨ds, h⟩
theorem OwnLe.trans (h1 : OwnLe S S1) (h2 : OwnLe S1 S2) : OwnLe S S2 := fun i ds h => let ⟨_, h'⟩ := h2 i ds h; h1 i _ h'
theorem eq_p (h : EXp K te S d) : EXq K te S S d := ⟨.refl, fun A δ μ r => ⟨μ, r, h A δ μ r⟩⟩
theorem eq_bin (f : ∀ δ μ μ1 μ2, EX K ta δ μ μ1 d1 → EX K tc δ μ1 μ2 d2 → EX K te δ μ μ2 d) (ha : EXq K ta S S1 d1) (hb : EXq K tc S1 S2 d2) : EXq K te S S2 d := ⟨ha.1.trans hb.1, fun A δ μ r => by
  obtain ⟨μ1, r1, e1⟩ := ha.2 A δ μ r
  obtain ⟨μ2, r2, e2⟩ := hb.2 A δ μ1 r1
  exact ⟨μ2, r2, f δ μ μ1 μ2 e1 e2⟩⟩
theorem eq_un (f : ∀ δ μ μ1, EX K ta δ μ μ1 d1 → EX K te δ μ μ1 d) (ha : EXq K ta S S1 d1) : EXq K te S S1 d := ⟨ha.1, fun A δ μ r => by
  obtain ⟨μ1, r1, e1⟩ := ha.2 A δ μ r
  exact ⟨μ1, r1, f δ μ μ1 e1⟩⟩
theorem EXq.is {d' : DV} (h : EXq K te S S1 d) (e : d = d') : EXq K te S S1 d' := e ▸ h
variable {a b : Int}
theorem eq_add (ha : EXq K ta S S1 (.int a)) (hb : EXq K tc S1 S2 (.int b)) : EXq K (tOp (rI0 fun i j => .int (i + j)) ta tc) S S2 (.int (a + b)) := eq_bin (fun _ _ _ _ => ex_add) ha hb
theorem eq_sub (ha : EXq K ta S S1 (.int a)) (hb : EXq K tc S1 S2 (.int b)) : EXq K (tOp (rI0 fun i j => .int (i - j)) ta tc) S S2 (.int (a - b)) := eq_bin (fun _ _ _ _ => ex_sub) ha hb
theorem eq_mul {c : Int} (ha : EXq K ta S S1 (.int a)) (hb : EXq K tc S1 S2 (.int b)) (h : mulO a b = some c) : EXq K (tOp (rI CMulB fun i j => .int (i * j)) ta tc) S S2 (.int c) := by
  unfold mulO at h
  split at h
  · rename_i hc
    cases h
    exact eq_bin (fun _ _ _ _ p q => ex_mul p q hc) ha hb
  · cases h
theorem eq_eqI (ha : EXq K ta S S1 (.int a)) (hb : EXq K tc S1 S2 (.int b)) : EXq K (tOp rEq ta tc) S S2 (.bl (decide (a = b))) := eq_bin (fun _ _ _ _ => ex_eqI) ha hb
theorem eq_neI (ha : EXq K ta S S1 (.int a)) (hb : EXq K tc S1 S2 (.int b)) : EXq K (tOp rNe ta tc) S S2 (.bl (!decide (a = b))) := eq_bin (fun _ _ _ _ => ex_neI) ha hb
theorem eq_lt (ha : EXq K ta S S1 (.int a)) (hb : EXq K tc S1 S2 (.int b)) : EXq K (tOp (rI0 fun i j => .bl (decide (i < j))) ta tc) S S2 (.bl (decide (a < b))) := eq_bin (fun _ _ _ _ => ex_lt) ha hb
theorem eq_gt (ha : EXq K ta S S1 (.int a)) (hb : EXq K tc S1 S2 (.int b)) : EXq K (tOp (rI0 fun i j => .bl (decide (j < i))) ta tc) S S2 (.bl (decide (b < a))) := eq_bin (fun _ _ _ _ => ex_gt) ha hb
theorem aq_nil : AXq K tNil S S [] := ⟨.refl, fun A δ μ r => ⟨μ, r, ax_nil⟩⟩
theorem aq_p (h : AXp K tr S ds) : AXq K tr S S ds := ⟨.refl, fun A δ μ r => ⟨μ, r, h A δ μ r⟩⟩
theorem aq_cons (h : EXq K ta S S1 d) (hr : AXq K tr S1 S2 ds) : AXq K (tCons ta tr) S S2 (d :: ds) := ⟨h.1.trans hr.1, fun A δ μ r => by
  obtain ⟨μ1, r1, e1⟩ := h.2 A δ μ r
  obtain ⟨μ2, r2, e2⟩ := hr.2 A δ μ1 r1
  exact ⟨μ2, r2, ax_cons e1 e2⟩⟩
theorem eq_tup (h : AXq K tr S S1 ds) (hl : ds.length ≤ 100000 := by simp) : EXq K (tTup tr) S S1 (.tup ds) := ⟨h.1, fun A δ μ r => by
  obtain ⟨μ1, r1, e1⟩ := h.2 A δ μ r
  exact ⟨μ1, r1, ex_tup e1 hl⟩⟩
theorem lq_lst (h : AXq K tr S S1 ds) (hl : ds.length ≤ 100000 := by simp) : LXq K (tLst tr) S S1 ds := ⟨h.1, fun A δ μ r => by
  obtain ⟨μ1, r1, e1⟩ := h.2 A δ μ r
  exact ⟨μ1, r1, lx_lst e1 hl⟩⟩
theorem LXq.ex (h : LXq K te S S1 ds) : EXq K te S S1 (.lst ds) := ⟨h.1, fun A δ μ r => by
  obtain ⟨μ1, r1, e1⟩ := h.2 A δ μ r
  exact ⟨μ1, r1, e1.ex⟩⟩
theorem eq_tuple (h : LXq K te S S1 ds) : EXq K (tCB (rTupQ K) (tCons te tNil)) S S1 (.tup ds) := ⟨h.1, fun A δ μ r => by
  obtain ⟨μ1, r1, e1⟩ := h.2 A δ μ r
  exact ⟨μ1, r1, ex_tuple e1.ex (.lst _)⟩⟩
theorem eq_call {R : List DV → DV → Prop} {E : XK} (ha : AXq K tr S S1 ds) (h : R ds d) : EXq K (tCall (spD K R) [] E tr) S S1 d := ⟨ha.1, fun A δ μ r => by
  obtain ⟨μ1, r1, e1⟩ := ha.2 A δ μ r
  exact ⟨μ1, r1, ex_call e1 h⟩⟩
/-- a call that changes the list at slot i -/
theorem eq_callS {R : List DV → List DV → List DV → DV → Prop} {E : XK} {s0 s1 : List DV} (S' : List SL) (hi : S[i]? = some (.own s0)) (hr : AXp K tr S ds) (h : R s0 ds s1 d) (hS : S.set i (.own s1) = S' := by rfl) : EXq K (tCall (spS K R) [] E (tCons (tVar i) tr)) S S' d := by
  subst hS
  refine ⟨fun j fs e => ?_, fun A δ μ r => ?_⟩
  · rcases set_cases e with ⟨z, e1, _⟩ | ⟨z, e⟩
    · subst z
      exact ⟨_, hi⟩
    · exact ⟨_, e⟩
  · obtain ⟨g1, g2⟩ := r.own i _ hi
    obtain ⟨n, hn⟩ := List.getElem?_of_mem g2
    exact ⟨_, r.setown hn hi, ex_callS (ex_var g1) (hr A δ μ r) hn h⟩
theorem tq_test {b : Bool} (h : EXq K te S S1 (.bl b)) : TXq K (tTest te) S S1 b := ⟨h.1, fun A δ μ r => by
  obtain ⟨μ1, r1, e1⟩ := h.2 A δ μ r
  exact ⟨μ1, r1, tx_test e1⟩⟩
theorem tq_val {b : Bool} (h : EXq K te S S1 (.bl b)) : TXq K (tB te) S S1 b := ⟨h.1, fun A δ μ r => by
  obtain ⟨μ1, r1, e1⟩ := h.2 A δ μ r
  exact ⟨μ1, r1, tx_val e1⟩⟩
theorem tq_p {b : Bool} (h : TXp K tt S b) : TXq K tt S S b := ⟨.refl, fun A δ μ r => ⟨μ, r, h A δ μ r⟩⟩
/-- and, the second operand changing the list at slot i; m: what it comes to, with the list's content -/
theorem tq_andM {f : β → DV} {s s' : List β} {a r : Bool} {m : Option (Bool × List β)} (S' : List SL) (hi : S[i]? = some (.own (s.map f))) (h1 : TXp K tt S a) (h : (if a then m else some (false, s)) = some (r, s'))
    (h2 : a = true → ∀ b s', m = some (b, s') → TXq K tu S (S.set i (.own (s'.map f))) b) (hS : S.set i (.own (s'.map f)) = S' := by rfl) : TXq K (tAnd tt tu) S S' r := by
  subst hS
  cases a with
  | true =>
    have z := h2 rfl r s' h
    refine ⟨z.1, fun A δ μ rr => ?_⟩
    obtain ⟨μ1, r1, e1⟩ := z.2 A δ μ rr
    exact ⟨μ1, r1, TX.is (tx_andS (h1 A δ μ rr) (fun _ => e1) fun z => by cases z) (Bool.true_and r)⟩
  | false =>
    cases h
    have hS : S.set i (.own (s.map f)) = S := by
      refine List.ext_getElem? fun n => ?_
      by_cases hn : i = n
      · subst hn
        rw [List.getElem?_set_self (List.getElem?_eq_some_iff.mp hi).1, hi]
      · rw [List.getElem?_set_ne hn]
    rw [hS]
    exact ⟨.refl, fun A δ μ rr => ⟨μ, rr, TX.is (tx_andS (b := true) (h1 A δ μ rr) (fun z => by cases z) fun _ => rfl) (Bool.false_and true)⟩⟩
theorem StC.to (c : StC K F M0 Z q S σ H M δ μ A) {μ' : Sto} {H' : Hp} (o : OwnLe S S') (r : SRel S' A δ μ') (s : Sta K F M δ μ' σ H') : StC K F M0 Z q S' σ H' M δ μ' A :=
  ⟨c.z, c.n, c.q, fun i ds e h0 => let ⟨es, h⟩ := o i ds e; c.ho i es h h0, r, s⟩
/-- an expression's change ahead of a statement -/
theorem w_ifq {b : Bool} (h : TXq K tt S S1 b) (h1 : b = true → W K E t S1 P) (h2 : b = false → W K E u S1 P) : W K E (tIfS tt t u) S P := fun F M0 Z q σ H D fr st ok => by
  obtain ⟨M, δ, μ, A, c⟩ := st
  obtain ⟨μ1, r1, e1⟩ := h.2 A δ μ c.r
  exact x_if c.s e1 (fun hb H' s' => h1 hb F M0 Z q σ H' D fr ⟨M, δ, μ1, A, c.to h.1 r1 s'⟩ ok) fun hb H' s' => h2 hb F M0 Z q σ H' D fr ⟨M, δ, μ1, A, c.to h.1 r1 s'⟩ ok
theorem w_asgq (ha : EXq K te S S1 d) (S' : List SL) (k : P.nx S') (hS : S1.set i (.dat d) = S' := by rfl) : W K E (tAsg te (gName i)) S P := fun F M0 Z q σ H D fr st ok => by
  subst hS
  obtain ⟨M, δ, μ, A, c⟩ := st
  obtain ⟨μ1, r1, e1⟩ := ha.2 A δ μ c.r
  refine e1 F M σ H c.s _ fun v H1 _ s1 rv => ?_
  exact ok.nx _ _ H1 k ⟨M, _, μ1, A, (c.to ha.1 r1 s1).asg (s1.put rv)⟩
theorem w_retq (ha : EXq K te S S1 d) (k : P.rt d S1) : W K E (tRet te) S P := fun F M0 Z q σ H D fr st ok => by
  obtain ⟨M, δ, μ, A, c⟩ := st
  obtain ⟨μ1, r1, e1⟩ := ha.2 A δ μ c.r
  exact x_ret c.s e1 fun v H' s' rv => ok.rt d S1 v σ H' k ⟨M, δ, μ1, A, c.to ha.1 r1 s', rv⟩
theorem w_dropq (ha : EXq K te S S1 d) (k : P.nx S1) : W K E (tDrop te) S P := fun F M0 Z q σ H D fr st ok => by
  obtain ⟨M, δ, μ, A, c⟩ := st
  obtain ⟨μ1, r1, e1⟩ := ha.2 A δ μ c.r
  exact x_drop c.s e1 fun H' s' => ok.nx S1 σ H' k ⟨M, δ, μ1, A, c.to ha.1 r1 s'⟩
theorem w_parq {ta : TA} (h : AXq K ta S S1 [d1, d2]) (S' : List SL) (k : P.nx S') (hS : (S1.set i (.dat d1)).set j (.dat d2) = S' := by rfl) : W K E (tPar i j ta) S P := fun F M0 Z q σ H D fr st ok => by
  subst hS
  obtain ⟨M, δ, μ, A, c⟩ := st
  obtain ⟨μ1, r1, e1⟩ := h.2 A δ μ c.r
  exact x_par c.s e1 fun σ' H' s' => ok.nx _ σ' H' k ⟨M, _, μ1, A, ⟨c.z, c.n, c.q, fun k ds e h0 => (set_cases e).elim (fun z => by cases z.2.1) (fun z => (set_cases z.2).elim (fun z => by cases z.2.1) fun z => let ⟨es, g⟩ := h.1 k ds z.2; c.ho k es g h0), (r1.set i d1).set j d2, s'⟩⟩
end
end G
set_option Elab.async false
set_option linter.all false
set_option maxRecDepth 100000
/-! comprehensions that change a list of the def's own; defs -/
namespace G
open PySem PySem.Spec PyProof.Rows L2 Evl
def mapS {α β τ : Type} (f : α → τ → Option (β × τ)) : List α → τ → Option (List β × τ)
  | [], s => some ([], s)
  | x :: xs, s => (f x s).bind fun p => (mapS f xs p.2).bind fun q => some (p.1 :: q.1, q.2)
@[irreducible] def lcS {α β τ : Type} (f : α → τ → Option (β × τ)) (xs : List α) (s : τ) : Option (List β × τ) := if xs.length ≤ 100000 then mapS f xs s else none
def stF {α β τ : Type} (f : α → τ → Option (β × τ)) : List α → τ → Nat → τ
  | [], s, _ => s
  | _ :: _, s, 0 => s
  | x :: xs, s, i + 1 => match f x s with
    | some p => stF f xs p.2 i
    | none => s
def outF {α β τ : Type} (f : α → τ → Option (β × τ)) (e : β → DV) : List α → τ → Nat → DV
  | [], _, _ => .non
  | x :: _, s, 0 => match f x s with
    | some p => e p.1
    | none => .non
  | x :: xs, s, i + 1 => match f x s with
    | some p => outF f e xs p.2 i
    | none => .non
theorem stF_zero {α β τ : Type} {f : α → τ → Option (β × τ)} {xs : List α} {s : τ} : stF f xs s 0 = s := by cases xs <;> rfl
theorem mapS_some {α β τ : Type} {f : α → τ → Option (β × τ)} : ∀ {xs : List α} {s s1 : τ} {ys : List β}, mapS f xs s = some (ys, s1) →
    (∀ i x, xs[i]? = some x → ∃ y, f x (stF f xs s i) = some (y, stF f xs s (i + 1)) ∧ ∀ e : β → DV, outF f e xs s i = e y) ∧ stF f xs s xs.length = s1 ∧ ∀ e : β → DV, ys.map e = (List.range xs.length).map (outF f e xs s)
  | [], s, s1, ys, h => by
    cases h
    exact ⟨fun i x h => by simp at h, rfl, fun e => rfl⟩
  | x :: xs, s, s1, ys, h => by
    obtain ⟨p, hp, h⟩ := bdO h
    obtain ⟨r, hr, h⟩ := bdO h
    obtain ⟨h1, h2, h3⟩ := mapS_some hr
    cases h
    refine ⟨fun i y hy => ?_, ?_, fun e => ?_⟩
    · cases i with
      | zero =>
        simp at hy
        subst hy
        refine ⟨p.1, ?_, fun e => ?_⟩
        · show f x s = some (p.1, match f x s with | some p => stF f xs p.2 0 | none => s)
          rw [hp]
          show some p = some (p.1, stF f xs p.2 0)
          rw [stF_zero]
        · show (match f x s with | some p => e p.1 | none => DV.non) = _
          rw [hp]
      | succ i =>
        obtain ⟨z, hz, ho⟩ := h1 i y (by simpa using hy)
        refine ⟨z, ?_, fun e => ?_⟩
        · show f y (match f x s with | some p => stF f xs p.2 i | none => s) = some (z, match f x s with | some p => stF f xs p.2 (i + 1) | none => s)
          rw [hp]
          exact hz
        · show (match f x s with | some p => outF f e xs p.2 i | none => DV.non) = _
          rw [hp]
          exact ho e
    · show (match f x s with | some p => stF f xs p.2 xs.length | none => s) = _
      rw [hp]
      exact h2
    · rw [List.map_cons, List.length_cons, List.range_succ_eq_map, List.map_cons, List.map_map, h3 e]
      congr 1
      · show _ = (match f x s with | some p => e p.1 | none => DV.non)
        rw [hp]
      · refine List.map_congr_left fun i _ => ?_
        show _ = (match f x s with | some p => outF f e xs p.2 i | none => DV.non)
        rw [hp]
theorem chain {τ : Type} {n : Nat} {P : Nat → τ → Prop} {R : Nat → τ → τ → Prop} (x0 : τ) (h0 : P 0 x0) (hs : ∀ i x, i < n → P i x → ∃ y, P (i + 1) y ∧ R i x y) : ∃ f : Nat → τ, f 0 = x0 ∧ P n (f n) ∧ ∀ i, i < n → R i (f i) (f (i + 1)) := by
  induction n with
  | zero => exact ⟨fun _ => x0, rfl, h0, fun i h => absurd h (Nat.not_lt_zero i)⟩
  | succ n ih =>
    obtain ⟨f, e, hp, hr⟩ := ih fun i x hi => hs i x (Nat.lt_succ_of_lt hi)
    obtain ⟨y, hy, hr2⟩ := hs n (f n) (Nat.lt_succ_self n) hp
    refine ⟨fun i => if i ≤ n then f i else y, by simpa using e, by show P (n + 1) (if n + 1 ≤ n then f (n + 1) else y); rw [if_neg (by omega)]; exact hy, fun i hi => ?_⟩
    show R i (if i ≤ n then f i else y) (if i + 1 ≤ n then f (i + 1) else y)
    by_cases h : i < n
    · rw [if_pos (by omega), if_pos (by omega)]
      exact hr i h
    · have e2 : i = n := by omega
      subst e2
      rw [if_pos (Nat.le_refl _), if_neg (by omega)]
      exact hr2
section
variable {K : PySem.W.Frag} {E : XK} {F F1 H H' : Hp} {M0 Z M M1 : List Addr} {q : Option Addr} {S S1 S2 S' : List SL} {σ : L2.St} {δ : Env} {μ : Sto} {A : Nat → Addr} {P : Post} {ts t u tb : TS} {te ta tc : TE} {tr : TA} {tt tu : TT} {d d1 d2 d3 : DV} {ds es : List DV} {i j k : Nat} {D : L2.Ends} {wi : TI} {g : TG} {α β γ τ ρ : Type}
theorem wipe_out {vs : List Nat} {S : List SL} {k : Nat} {s : SL} (hk : k ∉ vs) (h : S[k]? = some s) : (wipeS S vs)[k]? = some s := by
  induction vs with
  | nil => exact h
  | cons v vs ih =>
    show ((wipeS S vs).set v .un)[k]? = some s
    rw [List.getElem?_set_ne (fun e => hk (by rw [e]; exact List.mem_cons_self))]
    exact ih fun e => hk (List.mem_cons_of_mem _ e)
theorem bS_out {x : α} {s : SL} : ∀ {bs : List (Nat × (α → DV))} {S : List SL}, k ∉ bs.map Prod.fst → S[k]? = some s → (bS bs x S)[k]? = some s
  | [], _, _, h => h
  | p :: bs, S, hk, h => bS_out (bs := bs) (S := S.set p.1 (.dat (p.2 x))) (fun e => hk (List.mem_cons_of_mem _ e)) (by rw [List.getElem?_set_ne (fun e => hk (by rw [← e]; exact List.mem_cons_self))]; exact h)
theorem not_vs {vs : List Nat} (h : (vs.all fun v => noOwn S[v]?) = true) {k : Nat} {ds : List DV} (hk : S[k]? = some (.own ds)) : k ∉ vs := fun hm => by
  have := List.all_eq_true.mp h k hm
  rw [hk] at this
  cases this
theorem lq_lcS {vs : List Nat} {xs : List α} {bs : List (Nat × (α → DV))} {f : α → List γ → Option (β × List γ)} {s s1 : List γ} {ys : List β} {e : β → DV} {eg : γ → DV} (S' : List SL) (SB : α → List γ → List SL) (hk : S[k]? = some (.own (s.map eg))) (w : WXl K wi g S xs bs) (h : lcS f xs s = some (ys, s1))
    (hj : ∀ j ∈ bs.map Prod.fst, j ∈ vs) (hov : (vs.all fun v => noOwn S[v]?) = true)
    (he : ∀ x s y s', f x s = some (y, s') → EXq K te (SB x s) (SB x s') (e y)) (hS : S.set k (.own (s1.map eg)) = S' := by rfl) (hB : ∀ x s, bS bs x (wipeS (S.set k (.own (s.map eg))) vs) = SB x s := by intro _ _; rfl) : LXq K (tLc wi g tYes te vs) S S' (ys.map e) := by
  subst hS
  unfold lcS at h
  split at h
  · rename_i hl
    obtain ⟨h1, h2, h3⟩ := mapS_some h
    have hkv := not_vs hov hk
    have hkl := (List.getElem?_eq_some_iff.mp hk).1
    refine ⟨fun j fs e => ?_, fun A δ μ r => ?_⟩
    · rcases set_cases e with ⟨z, _, _⟩ | ⟨_, z⟩
      · subst z
        exact ⟨_, hk⟩
      · exact ⟨_, z⟩
    have hS0 : S.set k (.own (s.map eg)) = S := by
      refine List.ext_getElem? fun n => ?_
      by_cases hn : k = n
      · subst hn
        rw [List.getElem?_set_self hkl, hk]
      · rw [List.getElem?_set_ne hn]
    obtain ⟨μs, e0, hp, hr⟩ := chain (n := xs.length) (P := fun i μ => SRel (S.set k (.own ((stF f xs s i).map eg))) A δ μ) (R := fun i μ μ' => EX K te (bnd xs bs i (wipeD δ vs)) μ μ' (outF f e xs s i)) μ (by rw [stF_zero, hS0]; exact r) fun i μ1 hi r1 => by
      have hx := List.getElem?_eq_getElem hi
      obtain ⟨y, hy, ho⟩ := h1 i _ hx
      have z := (he xs[i] _ y _ hy).2 A _ μ1 (by rw [← hB]; exact (r1.wipe vs).bnd hx)
      obtain ⟨μ2, r2, ex⟩ := z
      refine ⟨μ2, ?_, by rw [ho e]; exact ex⟩
      rw [← hB] at r2
      have key : ∀ (j : Nat) (fs : List DV), (S.set k (.own ((stF f xs s (i + 1)).map eg)))[j]? = some (.own fs) → (bS bs xs[i] (wipeS (S.set k (.own ((stF f xs s (i + 1)).map eg))) vs))[j]? = some (.own fs) := fun j fs hq => by
        have hjv : j ∉ vs := by
          rcases set_cases hq with ⟨z, _, _⟩ | ⟨_, z⟩
          · rw [← z]; exact hkv
          · exact not_vs hov z
        exact bS_out (fun hm => hjv (hj j hm)) (wipe_out hjv hq)
      refine ⟨by simpa using r.len, r2.nd, fun j d hq => ?_, fun j fs hq => ⟨?_, (r2.own j fs (key j fs hq)).2⟩, fun j l fs gs q1 q2 => r2.inj j l fs gs (key j fs q1) (key l gs q2)⟩
      · rcases set_cases hq with ⟨z, e1, _⟩ | ⟨z, hq⟩
        · cases e1
        · exact r.dat j d hq
      · rcases set_cases hq with ⟨z, e1, _⟩ | ⟨z, hq⟩
        · subst z
          exact (r.own k _ hk).1
        · exact (r.own j fs hq).1
    refine ⟨μs xs.length, by rw [← h2]; exact hp, ?_⟩
    rw [h3 e]
    have z := lx_lcA (te := te) (vs := vs) (w A δ μ r) (outF f e xs s) μs e0 hl hj hr
    exact z
  · cases h
/-! ### defs -/
def startS (n : Nat) (ds : List DV) : List SL := ds.map .dat ++ List.replicate (n - ds.length) .un
theorem SRel.start {n : Nat} {ds : List DV} : SRel (startS n ds) A (startD n ds) [] := by
  refine ⟨by simp [startS, startD], by simp, fun i d h => ?_, fun i es h => ?_, fun i j es fs h => ?_⟩
  · unfold startS at h
    unfold startD
    by_cases hi : i < ds.length
    · rw [List.getElem?_append_left (by simpa using hi), List.getElem?_map] at h
      rw [List.getElem?_append_left (by simpa using hi), List.getElem?_map]
      cases q : ds[i]? with
      | none => rw [q] at h; cases h
      | some x =>
        rw [q] at h
        cases h
        rfl
    · rw [List.getElem?_append_right (by simpa using hi), List.getElem?_replicate] at h
      split at h <;> cases h
  · exfalso
    unfold startS at h
    by_cases hi : i < ds.length
    · rw [List.getElem?_append_left (by simpa using hi), List.getElem?_map] at h
      cases q : ds[i]? with
      | none => rw [q] at h; cases h
      | some x => rw [q] at h; cases h
    · rw [List.getElem?_append_right (by simpa using hi), List.getElem?_replicate] at h
      split at h <;> cases h
  · exfalso
    unfold startS at h
    by_cases hi : i < ds.length
    · rw [List.getElem?_append_left (by simpa using hi), List.getElem?_map] at h
      cases q : ds[i]? with
      | none => rw [q] at h; cases h
      | some x => rw [q] at h; cases h
    · rw [List.getElem?_append_right (by simpa using hi), List.getElem?_replicate] at h
      split at h <;> cases h
theorem start_own {n : Nat} {ds es : List DV} {i : Nat} (h : (startS n ds)[i]? = some (.own es)) : False := by
  unfold startS at h
  by_cases hi : i < ds.length
  · rw [List.getElem?_append_left (by simpa using hi), List.getElem?_map] at h
    cases q : ds[i]? with
    | none => rw [q] at h; cases h
    | some x => rw [q] at h; cases h
  · rw [List.getElem?_append_right (by simpa using hi), List.getElem?_replicate] at h
    split at h <;> cases h
variable {Pg : Program} {w : World} {mg : Str → Option Value} {base : Heap}
/-- a def from data to data -/
theorem okW {x qual : Str} {st : Stmt} {f : Addr} {fd : FuncData} {N ps : List Str} {k : Nat} {R : List DV → DV → Prop} (Fn : Fun K x qual st f fd) (Sc : FnScope N ps (defScope st)) (len : ∀ ds r, R ds r → ds.length = ps.length)
    (body : ∀ (cdv : Value) (A : Around) (outer : List PySem.Env) (s : Shared) (H : Hp) (E : XK), Room k (A.deeper (envOfC qual (defScope st) s.heap.objs.size f cdv)) →
      ∃ t, PSs (cxOf CX0 Pg w K mg base N qual (defScope st) f cdv A outer s H E).nox (defBody st) t ∧ ∀ ds r, R ds r → W K E0 t (startS N.length ds) { rt := fun d _ => d = r, nx := fun _ => r = .non }) : FnOk Pg w K mg base CX0 (k + 1) f fd ps (spD K R) := by
  refine okD Fn Sc len fun cdv A outer s H E hr => ?_
  obtain ⟨t, h1, h2⟩ := body cdv A outer s H E hr
  refine ⟨t, h1, fun F M ds r σ H1 D hR st krt knx => ?_⟩
  refine h2 ds r hR F M M none σ H1 D True.intro ⟨M, _, [], fun _ => 0, fun a h => h, fun a h => .inl h, fun a h => (by cases h), fun i es h _ => (start_own h).elim, SRel.start, st⟩ ⟨?_, fun _ _ _ h => h.elim, fun _ _ _ h => h.elim, ?_, fun _ _ _ _ _ h => h.elim, fun _ _ _ h => h.elim, fun _ _ _ _ _ _ _ _ _ _ h => h.elim⟩
  · rintro S' σ' H' e ⟨M', δ, μ, A, c⟩
    exact knx σ' H' (krt .non H' c.s.fr (by rw [e]; exact .non))
  · rintro d S' v σ' H' e ⟨M', δ, μ, A, c, rv⟩
    subst e
    exact krt v H' c.s.fr (rv.mono (hid_less c.z))
/-- less of the store, less hidden -/
theorem Sta.shrink {μ' : Sto} {M' : List Addr} (s : Sta K F M δ μ σ H) (hM : ∀ a ∈ M', a ∈ M) (hμ : ∀ p ∈ μ', p ∈ μ ∧ p.1 ∈ M') (nd : (μ'.map Prod.fst).Nodup) : Sta K F M' δ μ' σ H :=
  ⟨fun a h => s.al a (hM a h), s.fr, fun p h => ⟨(hμ p h).2, (s.dm p (hμ p h).1).2⟩, nd, fun p h => let ⟨vs, h1, h2⟩ := s.sto p (hμ p h).1; ⟨vs, h1, h2.mono (hid_less hM)⟩, fun i d h => let ⟨v, h1, h2⟩ := s.env i d h; ⟨v, h1, h2.mono (hid_less hM)⟩, s.len⟩
theorem okL2 {x qual : Str} {st : Stmt} {f : Addr} {fd : FuncData} {N ps : List Str} {k : Nat} {R : List DV → List DV → Prop} (Fn : Fun K x qual st f fd) (Sc : FnScope N ps (defScope st)) (len : ∀ ds r, R ds r → ds.length = ps.length)
    (body : ∀ (cdv : Value) (A : Around) (outer : List PySem.Env) (s : Shared) (H : Hp) (E : XK), Room k (A.deeper (envOfC qual (defScope st) s.heap.objs.size f cdv)) →
      ∃ t, PSs (cxOf CX0 Pg w K mg base N qual (defScope st) f cdv A outer s H E).nox (defBody st) t ∧ ∀ F M ds rs σ H1 D, R ds rs → Sta K F M (startD N.length ds) [] σ H1 →
        (∀ p σ' H' δ, F p = none → Sta K F (p :: M) δ [(p, rs)] σ' H' → D.rt (.ref p) H') → t D σ H1) : FnOk Pg w K mg base CX0 (k + 1) f fd ps (spL K R) := by
  refine Fn.ok Sc (fun vs H Q E ⟨M, ds, r, _, h1, h2, _⟩ => by rw [h1.length]; exact len _ _ h2) fun cdv A outer s H vs Q E hr ⟨M, ds, rs, al, ra, hR, kq⟩ => ?_
  obtain ⟨t, h1, h2⟩ := body cdv A outer s H E hr
  refine ⟨t, h1, h2 H M ds rs _ H _ hR (sta_start al ra) fun p σ' H' δ hp s' => ?_⟩
  obtain ⟨ws, g1, g2⟩ := s'.sto (p, rs) (by simp)
  exact kq p ws H' hp s'.fr g1 g2
/-- .. to a new list -/
theorem okWL {x qual : Str} {st : Stmt} {f : Addr} {fd : FuncData} {N ps : List Str} {k : Nat} {R : List DV → List DV → Prop} (Fn : Fun K x qual st f fd) (Sc : FnScope N ps (defScope st)) (len : ∀ ds r, R ds r → ds.length = ps.length)
    (body : ∀ (cdv : Value) (A : Around) (outer : List PySem.Env) (s : Shared) (H : Hp) (E : XK), Room k (A.deeper (envOfC qual (defScope st) s.heap.objs.size f cdv)) →
      ∃ t, PSs (cxOf CX0 Pg w K mg base N qual (defScope st) f cdv A outer s H E).nox (defBody st) t ∧ ∀ ds r, R ds r → W K E0 t (startS N.length ds) { rl := fun d _ => d = r }) : FnOk Pg w K mg base CX0 (k + 1) f fd ps (spL K R) := by
  refine okL2 Fn Sc len fun cdv A outer s H E hr => ?_
  obtain ⟨t, h1, h2⟩ := body cdv A outer s H E hr
  refine ⟨t, h1, fun F M ds r σ H1 D hR st krt => ?_⟩
  refine h2 ds r hR F M M none σ H1 D True.intro ⟨M, _, [], fun _ => 0, fun a h => h, fun a h => .inl h, fun a h => (by cases h), fun i es h _ => (start_own h).elim, SRel.start, st⟩ ⟨fun _ _ _ h => h.elim, fun _ _ _ h => h.elim, fun _ _ _ h => h.elim, fun _ _ _ _ _ h => h.elim, ?_, fun _ _ _ h => h.elim, fun _ _ _ _ _ _ _ _ _ _ h => h.elim⟩
  rintro d S' p σ' H' e ⟨M', δ, μ, z, n, f, pm, s⟩
  subst e
  refine krt p σ' H' δ f (s.shrink (M' := p :: M) (μ' := [(p, d)]) (fun a ha => (List.mem_cons.mp ha).elim (fun e => by rw [e]; exact List.mem_cons_self) fun h => List.mem_cons_of_mem _ (z a h)) (fun x hx => ?_) (by simp))
  rw [List.mem_singleton.mp hx]
  exact ⟨List.mem_cons_self, List.mem_cons_self⟩
/-- .. whose first argument is a list that it changes -/
theorem okWS {x qual : Str} {st : Stmt} {f : Addr} {fd : FuncData} {N ps : List Str} {k : Nat} {R : List DV → List DV → List DV → DV → Prop} (Fn : Fun K x qual st f fd) (Sc : FnScope N ps (defScope st)) (len : ∀ s ds s' r, R s ds s' r → ds.length + 1 = ps.length) (hN : 0 < N.length)
    (body : ∀ (cdv : Value) (A : Around) (outer : List PySem.Env) (s : Shared) (H : Hp) (E : XK), Room k (A.deeper (envOfC qual (defScope st) s.heap.objs.size f cdv)) →
      ∃ t, PSs (cxOf CX0 Pg w K mg base N qual (defScope st) f cdv A outer s H E).nox (defBody st) t ∧ ∀ s0 ds s1 r, R s0 ds s1 r → W K E0 t (.own s0 :: startS (N.length - 1) ds) { rt := fun d S' => d = r ∧ S'[0]? = some (.own s1), nx := fun S' => r = .non ∧ S'[0]? = some (.own s1) }) : FnOk Pg w K mg base CX0 (k + 1) f fd ps (spS K R) := by
  refine okS Fn Sc len fun cdv A outer s H E hr => ?_
  obtain ⟨t, h1, h2⟩ := body cdv A outer s H E hr
  refine ⟨t, h1, fun F M l s0 ds s1 r σ H1 D hR st krt knx => ?_⟩
  have hl := st.dm (l, s0) (by simp)
  have fin : ∀ {S' : List SL} {σ' : L2.St} {H' : Hp} {M' : List Addr} {δ : G.Env} {μ : Sto} {A : Nat → Addr} {v : V} {d : DV}, StC K F M M (some l) S' σ' H' M' δ μ A → S'[0]? = some (.own s1) → Rp K (hid M' H') v r → D.rt v H' := fun {S' σ' H' M' δ μ A v d} c e rv => by
    obtain ⟨_, a2⟩ := c.r.own 0 s1 e
    rw [c.q l rfl] at a2
    refine krt v H' M' δ σ' c.z (c.s.shrink (fun a h => h) (fun x hx => ?_) (by simp)) rv
    rw [List.mem_singleton.mp hx]
    exact ⟨a2, c.z l hl.1⟩
  have r0 : SRel (.own s0 :: startS (N.length - 1) ds) (fun _ => l) (startD N.length (.box l :: ds)) [(l, s0)] := by
    have z := SRel.start (A := fun _ => l) (n := N.length - 1) (ds := ds)
    have ed : startD N.length (.box l :: ds) = some (.box l) :: startD (N.length - 1) ds := by
      unfold startD
      rw [List.map_cons, List.cons_append, List.length_cons, show N.length - (ds.length + 1) = N.length - 1 - ds.length by omega]
    rw [ed]
    refine ⟨by simp [z.len], by simp, fun i d h => ?_, fun i es h => ?_, fun i j es fs h1 h2 _ => ?_⟩
    · cases i with
      | zero => simp at h
      | succ i => exact z.dat i d (by simpa using h)
    · cases i with
      | zero =>
        simp at h
        subst h
        exact ⟨rfl, by simp⟩
      | succ i => exact (start_own (by simpa using h)).elim
    · cases i with
      | succ i => exact (start_own (by simpa using h1)).elim
      | zero =>
        cases j with
        | zero => rfl
        | succ j => exact (start_own (by simpa using h2)).elim
  refine h2 s0 ds s1 r hR F M M (some l) σ H1 D True.intro ⟨M, _, _, fun _ => l, fun a h => h, fun a h => .inl h, fun a h => Option.some.inj h, fun i es h h0 => ?_, r0, st⟩ ⟨?_, fun _ _ _ h => h.elim, fun _ _ _ h => h.elim, ?_, fun _ _ _ _ _ h => h.elim, fun _ _ _ h => h.elim, fun _ _ _ _ _ _ _ _ _ _ h => h.elim⟩
  · cases i with
    | zero => exact (h0 rfl).elim
    | succ i => exact (start_own (by simpa using h)).elim
  · rintro S' σ' H' ⟨e, e2⟩ ⟨M', δ, μ, A, c⟩
    exact knx σ' H' (fin (d := .non) c e2 (by rw [e]; exact .non))
  · rintro d S' v σ' H' ⟨e, e2⟩ ⟨M', δ, μ, A, c, rv⟩
    subst e
    exact fin (d := d) c e2 rv
/-- a list of the def's own returned -/
theorem w_retO (hi : S[i]? = some (.own ds)) (k : P.rl ds S) (h0 : i ≠ 0 := by decide) : W K E (tRet (tVar i)) S P := fun F M0 Z q σ H D fr st ok => by
  obtain ⟨M, δ, μ, A, c⟩ := st
  obtain ⟨g1, g2⟩ := c.r.own i ds hi
  obtain ⟨s, t, rfl⟩ := List.append_of_mem g2
  have hM : A i ∈ M := (c.s.dm _ g2).1
  have hp : A i ∉ M.filter (fun a => decide (a ≠ A i)) := by simp
  have st1 := c.s.perm (M' := A i :: M.filter fun a => decide (a ≠ A i)) (fun a => by
    by_cases e : a = A i
    · simp [e, hM]
    · simp [e]) List.perm_middle
  refine x_ret (d := .box (A i)) st1 (ex_var g1) fun v H' s' rv => ?_
  cases rv
  exact ok.rl ds S (A i) σ H' k ⟨_, δ, _, fun a ha => List.mem_filter.mpr ⟨c.z a ha, by
    have e : a ≠ A i := fun e => c.ho i ds hi h0 (by rw [← e]; exact ha)
    simp [e]⟩, fun a ha => c.n a (List.mem_filter.mp ha).1, (s'.dm (A i, ds) (by simp)).2, hp, s'⟩
end
end G
set_option Elab.async false
set_option linter.all false
set_option maxRecDepth 100000
namespace G
open PySem PySem.Spec PyProof.Rows L2 Evl
/-- list or tuple: one type for both -/
structure Sq {α : Type} (e : α → DV) where
  d : DV
  xs : List α
  h : Seq d (xs.map e)
def Sq.L {α : Type} (e : α → DV) (xs : List α) : Sq e := ⟨.lst (xs.map e), xs, .lst _⟩
def Sq.T {α : Type} (e : α → DV) (xs : List α) : Sq e := ⟨.tup (xs.map e), xs, .tup _⟩
theorem ifT {b : Bool} {α : Type} {x y r : α} (hb : b = true) (h : (if b then x else y) = r) : x = r := by rw [if_pos hb] at h; exact h
theorem ifF {b : Bool} {α : Type} {x y r : α} (hb : b = false) (h : (if b then x else y) = r) : y = r := by subst hb; exact h
theorem thenNx {τ ρ γ : Type} {k : τ → Option γ} {r : ρ → Option γ} {s : τ} {x : Option γ} (h : thenL k r (.nx s) = x) : k s = x := h
theorem thenRt {τ ρ γ : Type} {k : τ → Option γ} {r : ρ → Option γ} {s : ρ} {x : Option γ} (h : thenL k r (.rt s) = x) : r s = x := h
/-- data whose == is told by the values -/
structure PlainE {α : Type} [DecidableEq α] (n : Nat) (e : α → DV) : Prop where
  pl : ∀ x, (e x).pl = true
  lay : ∀ x, (e x).py.canLay0 = true
  dep : ∀ x, (e x).py.depth ≤ n
  eq : ∀ x y, PyData.eqv (e x).py (e y).py = decide (x = y)
section
variable {α β : Type} [DecidableEq α] [DecidableEq β] {e : α → DV} {f : β → DV} {n m : Nat}
theorem PlainE.sh (h : PlainE n e) (hn : n ≤ 64) (x : α) : SeqAt.shaped (e x).py = true := by
  unfold SeqAt.shaped
  rw [h.lay x, decide_eq_true (Nat.le_trans (h.dep x) hn)]
  rfl
theorem plainI : PlainE 0 eI := ⟨fun _ => rfl, fun _ => rfl, fun _ => Nat.le_refl _, fun x y => by
  show (x == y) = _
  by_cases h : x = y
  · subst h; simp
  · simp [h]⟩
theorem plainB : PlainE 0 eB := ⟨fun _ => rfl, fun _ => rfl, fun _ => Nat.le_refl _, fun x y => by cases x <;> cases y <;> rfl⟩
theorem pls_map (h : PlainE n e) : ∀ xs : List α, pls (xs.map e) = true
  | [] => rfl
  | x :: xs => by
    show ((e x).pl && pls (xs.map e)) = true
    rw [h.pl x, pls_map h xs]
    rfl
theorem lay_map (h : PlainE n e) : ∀ xs : List α, PyData.canLayAll0 (pys (xs.map e)) = true ∧ PyData.depthAll (pys (xs.map e)) ≤ n
  | [] => ⟨rfl, Nat.zero_le _⟩
  | x :: xs => by
    obtain ⟨h1, h2⟩ := lay_map h xs
    refine ⟨?_, ?_⟩
    · show ((e x).py.canLay0 && PyData.canLayAll0 (pys (xs.map e))) = true
      rw [h.lay x, h1]
      rfl
    · show max (e x).py.depth (PyData.depthAll (pys (xs.map e))) ≤ n
      have := h.dep x
      omega
theorem eqv_map (h : PlainE n e) : ∀ xs ys : List α, PyData.eqvAll (pys (xs.map e)) (pys (ys.map e)) = decide (xs = ys)
  | [], [] => by simp [pys, PyData.eqvAll]
  | [], y :: ys => by simp [pys, PyData.eqvAll]
  | x :: xs, [] => by simp [pys, PyData.eqvAll]
  | x :: xs, y :: ys => by
    show (PyData.eqv (e x).py (e y).py && PyData.eqvAll (pys (xs.map e)) (pys (ys.map e))) = _
    rw [eqv_map h xs ys, h.eq]
    by_cases q : x = y
    · subst q
      simp
    · simp [q]
theorem plainL (h : PlainE n e) : PlainE (n + 1) (eL e) := ⟨fun x => pls_map h x, fun x => (lay_map h x).1, fun x => Nat.succ_le_succ (lay_map h x).2, fun x y => eqv_map h x y⟩
theorem plainT (h : PlainE n e) : PlainE (n + 1) (eT e) := ⟨fun x => pls_map h x, fun x => (lay_map h x).1, fun x => Nat.succ_le_succ (lay_map h x).2, fun x y => eqv_map h x y⟩
theorem plainP (h : PlainE n e) (g : PlainE m f) : PlainE (max n m + 1) (eP e f) := ⟨fun x => by
    show ((e x.1).pl && ((f x.2).pl && true)) = true
    rw [h.pl, g.pl]; rfl, fun x => by
    show ((e x.1).py.canLay0 && ((f x.2).py.canLay0 && true)) = true
    rw [h.lay, g.lay]; rfl, fun x => by
    show max (e x.1).py.depth (max (f x.2).py.depth 0) + 1 ≤ _
    have := h.dep x.1
    have := g.dep x.2
    omega, fun x y => by
    show (PyData.eqv (e x.1).py (e y.1).py && (PyData.eqv (f x.2).py (f y.2).py && true)) = _
    rw [h.eq, g.eq]
    obtain ⟨a, b⟩ := x
    obtain ⟨c, d⟩ := y
    by_cases q : a = c <;> by_cases r : b = d <;> simp [q, r]⟩
end
section
variable {K : PySem.W.Frag} {E : XK} {S S' SJ : List SL} {P : Post} {ts t u : TS} {ta tb te : TE} {α : Type} {d : DV}
theorem w_at (S' : List SL) (h : W K E ts S' P) (hS : S = S' := by rfl) : W K E ts S P := hS ▸ h
theorem q_cut (SJ : List SL) (h : W K E t S { P with nx := fun S' => SLe S' SJ, nf := fun _ _ _ _ _ => False }) (k : W K E u SJ P) : W K E (tSeq t u) S P :=
  q_seq (h.post (fun S' l => w_weak l k) (fun _ z => z) (fun _ z => z) (fun _ _ z => z) (fun _ _ z => z) (fun _ z => z) (fun _ _ z => z) fun _ _ _ _ _ z => z.elim)
theorem ep_eqP [DecidableEq α] {e : α → DV} {x y : α} {n : Nat} (hp : PlainE n e) (hn : n ≤ 64) (ha : EXp K ta S (e x)) (hb : EXp K tb S (e y)) : EXp K (tOp (rEqD K) ta tb) S (.bl (decide (x = y))) := EXp.is (ep_eqD ha hb (hp.pl x) (hp.pl y) (hp.sh hn x) (hp.sh hn y)) (by rw [hp.eq])
theorem ep_neP [DecidableEq α] {e : α → DV} {x y : α} {n : Nat} (hp : PlainE n e) (hn : n ≤ 64) (ha : EXp K ta S (e x)) (hb : EXp K tb S (e y)) : EXp K (tOp (rNeD K) ta tb) S (.bl (!decide (x = y))) := EXp.is (ep_neD ha hb (hp.pl x) (hp.pl y) (hp.sh hn x) (hp.sh hn y)) (by rw [hp.eq])
theorem sq_v {e : α → DV} {p : Sq e} (h : EXp K te S p.d) : SqS K te S (p.xs.map e) := ⟨p.d, p.h, h⟩
theorem ip_v {e : α → DV} {p : Sq e} (h : EXp K te S p.d) : ItS K te S (p.xs.map e) := ip_sq (sq_v h)
end
end G
set_option Elab.async false
set_option linter.all false
set_option maxRecDepth 100000
/-! __init__ over slots; gcd, isinstance and slices of either sequence; recursion -/
namespace G
open PySem PySem.Spec PyProof.Rows L2 Evl
section
variable {K : PySem.W.Frag} {E : XK} {F F1 H H' : Hp} {M0 Z M M1 : List Addr} {q : Option Addr} {S S1 S2 S' : List SL} {σ : L2.St} {δ : Env} {μ : Sto} {A : Nat → Addr} {P : Post} {ts t u tb : TS} {te te2 ta tc : TE} {tr : TA} {d d1 d2 d3 : DV} {ds es : List DV} {i j k : Nat} {D : L2.Ends} {C x dx : Addr} {F0 : Hp} {f g : Str} {α : Type}
/-- the frame while an instance of C is made at x -/
def FrI (C x dx : Addr) (F0 F : Hp) (Z : List Addr) : Prop := F = upd F0 x (.ins C dx []) ∧ F0 x = none ∧ x ∈ Z
theorem not_self (s : Sta K (upd F x (.ins C i [])) M δ μ σ H) : ∀ p ∈ μ, p.1 ≠ x := fun p hp e => by
  have := (s.dm p hp).2
  rw [e, upd_same] at this
  cases this
theorem w_fld1 (hP : ∀ F Z, P.fr F Z → FrI C x dx F0 F Z) (h0 : S[0]? = some (.dat (.box x))) (ha : EXp K te S d) (c : Cls K C) (n : NoAttr K C f) (k : P.nf F0 x C dx [(f, d)]) : W K E (sFld K (tVar 0) te f) S P := fun F M0 Z q σ H D fr st ok => by
  obtain ⟨M, δ, μ, A, c1⟩ := st
  obtain ⟨rfl, hF, hx⟩ := hP F Z fr
  refine x_fldI c1.s .nil (c1.z x hx) hF (not_self c1.s) (ha A δ μ c1.r) (ex_var (c1.r.dat 0 _ h0)) c n (by simp) rfl fun fv H2 s2 rf => ?_
  exact ok.nf _ x C dx F0 M δ fv σ H2 k rfl hF c1.z (s2.shrink (fun a h => h) (fun p hp => nomatch hp) (by simp)) rf
theorem w_fld2 (hP : ∀ F Z, P.fr F Z → FrI C x dx F0 F Z) (h0 : S[0]? = some (.dat (.box x))) (ha : EXp K te S d) (hb : EXp K te2 S d2) (c : Cls K C) (n : NoAttr K C f) (n2 : NoAttr K C g) (hl : List.lookup g [(f, d)] = none) (k : P.nf F0 x C dx [(f, d), (g, d2)]) : W K E (tSeq (sFld K (tVar 0) te f) (sFld K (tVar 0) te2 g)) S P := fun F M0 Z q σ H D fr st ok => by
  obtain ⟨M, δ, μ, A, c1⟩ := st
  obtain ⟨rfl, hF, hx⟩ := hP F Z fr
  refine x_fldI (D := { D with nx := _ }) c1.s .nil (c1.z x hx) hF (not_self c1.s) (ha A δ μ c1.r) (ex_var (c1.r.dat 0 _ h0)) c n (by simp) rfl fun fv H2 s2 rf => ?_
  refine x_fldI s2 rf (c1.z x hx) hF (not_self c1.s) (hb A δ μ c1.r) (ex_var (c1.r.dat 0 _ h0)) c n2 (by simp) hl fun fv H3 s3 rf => ?_
  exact ok.nf _ x C dx F0 M δ fv σ H3 k rfl hF c1.z (s3.shrink (fun a h => h) (fun p hp => nomatch hp) (by simp)) rf
variable {Pg : Program} {w : World} {mg : Str → Option Value} {base : Heap}
theorem okWI {x qual : Str} {params : Arguments} {body : List Stmt} {scope : Scope} {dvs : List V} {kws : List (Str × V)} {f : Addr} {fd : FuncData} {N ps : List Str} {k : Nat} {R : List DV → List (Str × DV) → Prop} (Fn : FunD K x qual params body scope dvs kws f fd) (Sc : FnScope N ps scope) (len : ∀ ds r, R ds r → ds.length + 1 = ps.length)
    (hbody : ∀ (cdv : Value) (A : Around) (outer : List PySem.Env) (s : Shared) (H : Hp) (E : XK), Room k (A.deeper (envOfC qual scope s.heap.objs.size f cdv)) →
      ∃ t, PSs (cxOf CX0 Pg w K mg base N qual scope f cdv A outer s H E).nox body t ∧ ∀ ds fs x dx F0, R ds fs → W K E0 t (startS N.length (.box x :: ds)) { fr := FrI C x dx F0, nf := fun F' x' C' dx' fs' => F' = F0 ∧ x' = x ∧ C' = C ∧ dx' = dx ∧ fs' = fs }) : FnOk Pg w K mg base CX0 (k + 1) f fd ps (spI K C R) := by
  refine okI Fn Sc len fun cdv A outer s H E hr => ?_
  obtain ⟨t, h1, h2⟩ := hbody cdv A outer s H E hr
  refine ⟨t, h1, fun F M x dx ds fs σ H1 D hR hx hF st knx => ?_⟩
  refine h2 ds fs x dx F hR (upd F x (.ins C dx [])) M M none σ H1 D ⟨rfl, hF, hx⟩ ⟨M, _, [], fun _ => 0, fun a h => h, fun a h => .inl h, fun a h => (by cases h), fun i es h _ => (start_own h).elim, SRel.start, st⟩ ⟨fun _ _ _ h => h.elim, fun _ _ _ h => h.elim, fun _ _ _ h => h.elim, fun _ _ _ _ _ h => h.elim, fun _ _ _ _ _ h => h.elim, fun _ _ _ h => h.elim, ?_⟩
  rintro fs' x' C' dx' F0 M' δ fv σ' H' ⟨rfl, rfl, rfl, rfl, rfl⟩ _ _ hz s rf
  have up : Ex (hid M' H') (hid M H') := hid_less hz
  exact knx δ σ' H' fv (s.shrink hz (fun p hp => nomatch hp) (by simp)) (rf.mono up)
/-! ### either sequence -/
theorem ep_isSq {e : α → DV} {p : Sq e} (ha : EXp K ta S p.d) : EXp K (tCB (rIsiT K) (tCons ta (tCons (tTup (tCons (tC (.ty "list")) (tCons (tC (.ty "tuple")) tNil))) tNil))) S (.bl true) := by
  obtain ⟨d, xs, h⟩ := p
  cases h with
  | lst => exact ep_isi2 ha .lst (kit2 (b := true) (c := false) (by decide +kernel) (by decide +kernel) rfl)
  | tup => exact ep_isi2 ha .tup (kit2 (b := false) (c := true) (by decide +kernel) (by decide +kernel) rfl)
theorem ep_isL {e : α → DV} {xs : List α} (ha : EXp K ta S (.lst (xs.map e))) : EXp K (tCB (rIsiT K) (tCons ta (tCons (tTup (tCons (tC (.ty "list")) (tCons (tC (.ty "tuple")) tNil))) tNil))) S (.bl true) := ep_isi2 ha .lst (kit2 (b := true) (c := false) (by decide +kernel) (by decide +kernel) rfl)
theorem ep_isT {e : α → DV} {xs : List α} (ha : EXp K ta S (.tup (xs.map e))) : EXp K (tCB (rIsiT K) (tCons ta (tCons (tTup (tCons (tC (.ty "list")) (tCons (tC (.ty "tuple")) tNil))) tNil))) S (.bl true) := ep_isi2 ha .tup (kit2 (b := false) (c := true) (by decide +kernel) (by decide +kernel) rfl)
def cutDV (d : DV) (ds : List DV) : DV := match d with
  | .lst _ => .lst ds
  | _ => .tup ds
def Sq.cut {e : α → DV} (p : Sq e) (lo hi : Option Int) : Sq e := ⟨cutDV p.d ((cutL p.xs lo hi).map e), cutL p.xs lo hi, by
  obtain ⟨d, xs, h⟩ := p
  cases h with
  | lst => exact .lst _
  | tup => exact .tup _⟩
theorem ep_slQ {e : α → DV} {p : Sq e} {tl th : TO} {lo hi : Option Int} (h : EXp K te S p.d) (h1 : OXp K tl S lo) (h2 : OXp K th S hi) : EXp K (tSl (rSlE K) te tl th) S (p.cut lo hi).d := by
  obtain ⟨d, xs, sq⟩ := p
  intro A δ μ r
  have o1 := h1 A δ μ r
  have o2 := h2 A δ μ r
  have e1 := h A δ μ r
  cases sq with
  | lst =>
    have z : LX K (tSl (rSlL K) te tl th) δ μ μ (G.cutD (xs.map e) lo hi) := lx_sl e1 o1 o2
    rw [cut_map] at z
    exact fun F M σ H s Q q => by
      refine e1 F M σ H s _ fun v H1 e1 s1 r1 => o1 F M σ H1 s1 _ fun H2 e2 s2 => o2 F M σ H2 s2 _ fun H3 e3 s3 => ?_
      cases r1 with
      | lst g1 g2 =>
        refine .inl ⟨_, _, rfl, ex_l ((e2.trans e3).trans hid_sub) g1, fun p hp => ?_⟩
        have e13 := (e1.trans e2).trans e3
        have hpM := s3.fresh hp
        have z := (s3.newL hp ((g2.mono (e2.trans e3)).cut lo hi)).still hpM
        rw [cut_map] at z
        exact q _ _ (e13.trans (new_ex s3 hp)) z.1 z.2
  | tup =>
    have z : EX K (tSl (rSlA K) te tl th) δ μ μ (.tup (G.cutD (xs.map e) lo hi)) := ex_slT e1 o1 o2
    rw [cut_map] at z
    exact fun F M σ H s Q q => by
      have y := z F M σ H s Q q
      refine e1 F M σ H s _ fun v H1 e1 s1 r1 => o1 F M σ H1 s1 _ fun H2 e2 s2 => o2 F M σ H2 s2 _ fun H3 e3 s3 => ?_
      cases r1 with
      | @tup a vs _ g1 g2 =>
        have e13 := (e1.trans e2).trans e3
        have g3 := g2.mono (e2.trans e3)
        refine .inr ⟨_, _, rfl, ex_t ((e2.trans e3).trans hid_sub) g1, fun hw => ?_, fun _ p hp => ?_⟩
        · have hc : G.cutD (xs.map e) lo hi = xs.map e := by
            unfold G.cutD
            rw [← g2.length, hw.1, hw.2, List.drop_zero, Nat.sub_zero, g2.length, List.take_length]
          refine q _ H3 e13 s3 ?_
          show Rp K _ _ (.tup ((cutL xs lo hi).map e))
          rw [← cut_map, hc]
          exact .tup (ex_t (e2.trans e3) g1) g3
        · refine q _ _ (e13.trans (new_ex s3 hp)) (s3.mono (Ex.new hp)) ?_
          show Rp K _ _ (.tup ((cutL xs lo hi).map e))
          rw [← cut_map]
          exact .tup (st_of (hid_get (s3.fresh hp) upd_same)) ((g3.cut lo hi).mono (new_ex s3 hp))
theorem ep_gcd {a b : Int} (ha : EXp K ta S (.int a)) (hb : EXp K tc S (.int b)) : EXp K (tCB rGcd (tCons ta (tCons tc tNil))) S (.int ((Nat.gcd a.natAbs b.natAbs : Nat) : Int)) := fun A δ μ r F M σ H s Q q =>
  ha A δ μ r F M σ H s _ fun v H1 e1 s1 r1 => hb A δ μ r F M σ H1 s1 _ fun w H2 e2 s2 r2 => by
    cases r1
    cases r2
    exact ⟨a, b, rfl, q _ H2 (e1.trans e2) s2 (.int _)⟩
end
/-- a def that calls itself, by its depth -/
theorem rec_all {P : Program} {w : World} {K : PySem.W.Frag} {mg : Str → Option Value} {base : Heap} {f : Addr} {fd : FuncData} {ps : List Str} {R : Nat → List DV → DV → Prop} {l0 m : Nat} (len : ∀ n ds r, R n ds r → ds.length = ps.length) (h0 : ∀ ds r, ¬ R 0 ds r)
    (hs : ∀ n k, l0 ≤ k → FnOk P w K mg base CX0 k f fd ps (spD K (R n)) → FnOk P w K mg base CX0 (k + 1) f fd ps (spD K (R (n + 1)))) : FnOk P w K mg base CX0 (l0 + m) f fd ps (spD K fun ds r => ∃ n, n ≤ m ∧ R n ds r) := by
  have key : ∀ n, FnOk P w K mg base CX0 (l0 + n) f fd ps (spD K (R n)) := fun n => by
    induction n with
    | zero => exact ⟨fun vs H Q E ⟨M, ds, r, _, h1, h2, _⟩ => by rw [h1.length]; exact len _ _ _ h2, fun _ _ _ _ _ _ _ _ _ _ _ _ _ ⟨M, ds, r, _, _, h2, _⟩ => (h0 _ _ h2).elim⟩
    | succ n ih => exact hs n _ (Nat.le_add_right _ _) ih
  refine ⟨fun vs H Q E ⟨M, ds, r, _, h1, ⟨n, _, h2⟩, _⟩ => by rw [h1.length]; exact len _ _ _ h2, fun A outer s H args us vs Q E hr e0 hb hv ⟨M, ds, r, al, h1, ⟨n, hn, h2⟩, h3⟩ => ?_⟩
  exact ((key n).mono (Nat.add_le_add_left hn l0)).run A outer s H args us vs Q E hr e0 hb hv ⟨M, ds, r, al, h1, h2, h3⟩
end G
set_option Elab.async false
set_option linter.all false
set_option maxRecDepth 100000
namespace G
open PySem PySem.Spec PyProof.Rows L2 Evl
theorem pe_globE {X : Cx} {x : Str} {v : V} {pos : Pos} (hg : Gl X x) (h : ∃ u, X.mg x = some u ∧ RelV v u) (hd : (x == ("__debug__" : Str)) = false := by decide) : PE X (.Name x pos) (tC v) := by
  obtain ⟨u, h1, h2⟩ := h
  exact pe_glob hg h1 h2 hd
theorem kit_self {K : PySem.W.Frag} {C : Addr} (h : OwnC K C) : PySem.W.kitOne K (.ref C) (.ref C) = some true := by
  unfold PySem.W.kitOne
  simp
@[irreducible] def lenO (n : Int) : Option Int := if 0 ≤ n ∧ n < 2 ^ 63 then some n else none
section
variable {K : PySem.W.Frag} {E : XK} {F F1 H H' : Hp} {M0 Z M M1 : List Addr} {q : Option Addr} {S S1 S2 S' : List SL} {σ : L2.St} {δ : Env} {μ : Sto} {A : Nat → Addr} {P : Post} {ts t u tb : TS} {te te2 ta tc : TE} {tr : TA} {d d1 d2 d3 : DV} {ds es : List DV} {i j k : Nat} {D : L2.Ends} {C x dx : Addr} {f g : Str} {α : Type} {fs : List (Str × DV)}
theorem ep_lenO {R : List DV → DV → Prop} {n m : Int} (ha : EXp K ta S (.ins C fs)) (h : R [.ins C fs] (.int n)) (hl : lenO n = some m) : EXp K (tCB (rLenOwn C (spD K R) E) (tCons ta tNil)) S (.int m) := by
  unfold lenO at hl
  split at hl
  · rename_i hc
    cases hl
    have e : n = ((n.toNat : Nat) : Int) := by omega
    rw [e] at h ⊢
    exact ep_lenOwn ha (by omega) h
  · cases hl
theorem ep_isnSq {e : α → DV} {p : Sq e} {c : V} {z : Value} (ha : EXp K ta S p.d) (k : ClsV c z) (h1 : PySem.W.kitOne K (.type "list") z = some false) (h2 : PySem.W.kitOne K (.type "tuple") z = some false) : EXp K (tCB (rIsi K) (tCons ta (tCons (tC c) tNil))) S (.bl false) := by
  obtain ⟨d, xs, h⟩ := p
  cases h with
  | lst => exact ep_isi ha .lst k h1
  | tup => exact ep_isi ha .tup k h2
/-- xs.append(e), e changing another list of the def's own -/
theorem w_appq {f : α → DV} {xs zs : List α} {y : α} (ha : EXq K te S S1 (f y)) (h0 : S[i]? = some (.own (xs.map f))) (hi : S1[i]? = some (.own (xs.map f))) (h : appO xs y = some zs) (S' : List SL) (k : P.nx S') (hS : S1.set i (.own (zs.map f)) = S' := by rfl) :
    W K E (tDrop (tBM K "list" rAppend (tVar i) (tCons te tNil))) S P := fun F M0 Z q σ H D fr st ok => by
  subst hS
  unfold appO at h
  split at h
  · rename_i hz
    cases h
    obtain ⟨M, δ, μ, A, c⟩ := st
    obtain ⟨μ1, r1, e1⟩ := ha.2 A δ μ c.r
    obtain ⟨g1, g2⟩ := c.r.own i _ h0
    obtain ⟨n, hn⟩ := List.getElem?_of_mem g2
    obtain ⟨b1, b2⟩ := r1.own i _ hi
    obtain ⟨m, hm⟩ := List.getElem?_of_mem b2
    have hv : EX K (tVar i) δ μ μ (.box (A i)) := ex_var g1
    generalize tVar i = tv at hv ⊢
    refine hv F M σ H c.s _ fun v H1 x1 s1 v1 => ?_
    cases v1
    obtain ⟨vs, p1, _⟩ := s1.sto _ (List.mem_of_getElem? hn)
    refine ⟨.inl ⟨rfl, vs, sq_of p1⟩, e1 F M σ H1 s1 _ fun w H2 x2 s2 v2 => ?_⟩
    obtain ⟨ys, k1, k2⟩ := s2.sto _ (List.mem_of_getElem? hm)
    refine ⟨A i, ys, w, rfl, rfl, k1, sz_lt (by rw [k2.length]; simpa using hz), ok.nx _ σ _ k ⟨M, δ, μ1.set m (A i, xs.map f ++ [f y]), A, ?_⟩⟩
    rw [List.map_append]
    exact StC.setown (c.to ha.1 r1 s2) hm hi (s2.poke hm (k2.app (.cons v2 .nil))).1
  · cases h
end
end G
set_option Elab.async false
set_option linter.all false
set_option maxRecDepth 100000
/-! Grid and Lattice as values; the Grid methods that were walked by hand (specs of HM), as models -/
namespace G
open PySem PySem.Spec PyProof.Rows L2 Evl
structure M_Grid where
  rows : List (List Int)
  width : Int
structure M_Lattice where
  gram : M_Grid
abbrev f_Grid (C_Grid : Addr) (C_Lattice : Addr) (g : M_Grid) : List (Str × DV) := [("rows", (eT (eT eI)) g.rows), ("width", eI g.width)]
abbrev e_Grid (C_Grid : Addr) (C_Lattice : Addr) (g : M_Grid) : DV := .ins C_Grid (f_Grid C_Grid C_Lattice g)
abbrev f_Lattice (C_Grid : Addr) (C_Lattice : Addr) (g : M_Lattice) : List (Str × DV) := [("gram", (e_Grid C_Grid C_Lattice) g.gram)]
abbrev e_Lattice (C_Grid : Addr) (C_Lattice : Addr) (g : M_Lattice) : DV := .ins C_Lattice (f_Lattice C_Grid C_Lattice g)
structure GIn (g : M_Grid) : Prop where
  wd : 0 ≤ g.width
  w4 : g.width ≤ 4
  sq : g.rows.length = g.width.toNat
  ok : GOk g.rows g.width.toNat 100000
section
variable {Cg Cl : Addr} {g : M_Grid}
theorem e_gridD (h : 0 ≤ g.width) : e_Grid Cg Cl g = gridD Cg g.rows g.width.toNat := by
  show DV.ins Cg [("rows", rowsT g.rows), ("width", .int g.width)] = DV.ins Cg [("rows", rowsT g.rows), ("width", .int (g.width.toNat : Nat))]
  rw [Int.toNat_of_nonneg h]
open Classical in
noncomputable def m_Grid_determinant (g : M_Grid) : Option Int := if GIn g then some (bar g.rows) else none
open Classical in
noncomputable def m_Grid_adjugate (g : M_Grid) : Option M_Grid := if GIn g then some ⟨adjM g.rows g.width.toNat, g.width⟩ else none
theorem wit_det {y : Int} (h : m_Grid_determinant g = some y) : rDetG Cg [e_Grid Cg Cl g] (.int y) := by
  unfold m_Grid_determinant at h
  split at h
  · rename_i z
    cases h
    exact ⟨g.rows, g.width.toNat, 100000, by rw [e_gridD z.wd], z.ok, by omega, by omega, z.sq, by have := z.w4; omega, rfl⟩
  · cases h
theorem wit_adj {y : M_Grid} (h : m_Grid_adjugate g = some y) : rAdj Cg [e_Grid Cg Cl g] (e_Grid Cg Cl y) := by
  unfold m_Grid_adjugate at h
  split at h
  · rename_i z
    cases h
    exact ⟨g.rows, g.width.toNat, 100000, by rw [e_gridD z.wd], z.ok, by omega, by omega, z.sq, by have := z.w4; omega, e_gridD (g := ⟨adjM g.rows g.width.toNat, g.width⟩) z.wd⟩
  · cases h
def m_Grid_len (g : M_Grid) : Option Int := if 0 ≤ g.width then some (g.rows.length : Int) else none
theorem wit_len {y : Int} (h : m_Grid_len g = some y) : rLenG Cg [e_Grid Cg Cl g] (.int y) := by
  unfold m_Grid_len at h
  split at h
  · rename_i z
    cases h
    exact ⟨g.rows, g.width.toNat, by rw [e_gridD z], rfl⟩
  · cases h
/-! Grid(..) -/
abbrev SqI := Sq eI
abbrev eSq : SqI → DV := fun p => p.d
theorem isRowsS (p : Sq eSq) : IsRows p.d (p.xs.map (·.xs)) := ⟨p.xs.map eSq, p.h, by simp, fun i d r h1 h2 => by
  rw [List.getElem?_map] at h1 h2
  cases q : p.xs[i]? with
  | none => rw [q] at h1; cases h1
  | some x =>
    rw [q] at h1 h2
    cases h1
    cases h2
    exact x.h⟩
def mkOk (rows : List (List Int)) (width : Int) : Prop := rows.length ≤ 1000 ∧ 0 ≤ width ∧ width ≤ 1000000 ∧ ∀ r ∈ rows, (r.length : Int) = width
open Classical in
noncomputable def mk_Grid2 (rows : Sq eSq) (width : Int) : Option M_Grid := if mkOk (rows.xs.map (·.xs)) width then some ⟨rows.xs.map (·.xs), width⟩ else none
def width1 (rows : List (List Int)) : Int := match rows with
  | [] => 0
  | r :: _ => r.length
open Classical in
noncomputable def mk_Grid1 (rows : Sq eSq) : Option M_Grid := if mkOk (rows.xs.map (·.xs)) (width1 (rows.xs.map (·.xs))) then some ⟨rows.xs.map (·.xs), width1 (rows.xs.map (·.xs))⟩ else none
variable {K : PySem.W.Frag} {S : List SL} {tr : TA}
theorem ep_mk_Grid2 {rows : Sq eSq} {n : Int} (hr : AXp K tr S [rows.d, .int n]) (h : mk_Grid2 rows n = some g) : EXp K (tMake Cg (spI K Cg rInit) [] E0 tr) S (e_Grid Cg Cl g) := by
  unfold mk_Grid2 at h
  split at h
  · rename_i z
    cases h
    obtain ⟨h1, h2, h3, h4⟩ := z
    refine ep_make (dd := []) hr (fun _ => .nil) ⟨rows.d, .int n, _, n.toNat, rfl, isRowsS rows, h1, by omega, fun x hx => by have := h4 x hx; omega, .inl (by rw [Int.toNat_of_nonneg h2]), ?_⟩
    unfold gridF
    rw [Int.toNat_of_nonneg h2]
    rfl
  · cases h
theorem ep_mk_Grid1 {rows : Sq eSq} (hr : AXp K tr S [rows.d]) (h : mk_Grid1 rows = some g) : EXp K (tMake Cg (spI K Cg rInit) [.non] E0 tr) S (e_Grid Cg Cl g) := by
  unfold mk_Grid1 at h
  split at h
  · rename_i z
    cases h
    obtain ⟨h1, h2, h3, h4⟩ := z
    refine ep_make (dd := [.non]) hr (fun _ => .cons .non .nil) ⟨rows.d, .non, _, (width1 (rows.xs.map (·.xs))).toNat, rfl, isRowsS rows, h1, by omega, fun x hx => by have := h4 x hx; omega, .inr ⟨rfl, fun e => by rw [e]; rfl⟩, ?_⟩
    unfold gridF
    rw [Int.toNat_of_nonneg h2]
    rfl
  · cases h
end
end G
set_option Elab.async false
set_option linter.all false
set_option maxRecDepth 100000
set_option maxHeartbeats 4000000
namespace G41
open PySem PySem.Spec PyProof.Rows L2 Evl G
def topS (i : Nat) : Stmt := PySem.Challenge.pw_gridroads_k41_duals.main.body.getD i (.Pass ⟨0, 0, 0, 0⟩)
def inClass (s : Stmt) (j : Nat) : Stmt := match s with
  | .ClassDef (body := b) .. => b.getD j (.Pass ⟨0, 0, 0, 0⟩)
  | _ => .Pass ⟨0, 0, 0, 0⟩
abbrev s_is_integer : Stmt := topS 11
abbrev s_content : Stmt := topS 12
abbrev s_dot : Stmt := topS 14
abbrev s_Grid_before : Stmt := inClass (topS 19) 11
abbrev s_square_rows : Stmt := topS 24
abbrev s_check_symmetric : Stmt := topS 25
abbrev s_Lattice_init : Stmt := inClass (topS 26) 0
abbrev s_Lattice_eq : Stmt := inClass (topS 26) 1
abbrev s_Lattice_determinant : Stmt := inClass (topS 26) 6
abbrev s_dual_basis : Stmt := topS 28
abbrev s_scaled_dual : Stmt := topS 29
abbrev s_rational : Stmt := topS 30
abbrev s_rational_product : Stmt := topS 31
abbrev s_is_in_dual : Stmt := topS 32
abbrev s_law_state : Stmt := topS 34
abbrev s_law_odd : Stmt := topS 35
abbrev s_law_honest : Stmt := topS 36
abbrev s_law_take : Stmt := topS 37
abbrev s_law_rows : Stmt := topS 38
abbrev s_law_gram : Stmt := topS 39
abbrev s_law_form : Stmt := topS 40
abbrev s_law_gcd : Stmt := topS 41
abbrev s_law_lowest : Stmt := topS 42
abbrev s_law : Stmt := topS 43
theorem sc_is_integer : FnScope ["value"] ["value"] (defScope s_is_integer) := ⟨rfl, rfl, rfl, by decide +kernel, rfl, by decide +kernel, by decide +kernel⟩
theorem sc_content : FnScope ["numbers", "out", "n"] ["numbers"] (defScope s_content) := ⟨rfl, rfl, rfl, by decide +kernel, rfl, by decide +kernel, by decide +kernel⟩
theorem sc_dot : FnScope ["a", "b", "x", "y"] ["a", "b"] (defScope s_dot) := ⟨rfl, rfl, rfl, by decide +kernel, rfl, by decide +kernel, by decide +kernel⟩
theorem sc_Grid_before : FnScope ["self", "row", "k", "line"] ["self", "row"] (defScope s_Grid_before) := ⟨rfl, rfl, rfl, by decide +kernel, rfl, by decide +kernel, by decide +kernel⟩
theorem sc_square_rows : FnScope ["gram", "rows", "row", "item"] ["gram"] (defScope s_square_rows) := ⟨rfl, rfl, rfl, by decide +kernel, rfl, by decide +kernel, by decide +kernel⟩
theorem sc_check_symmetric : FnScope ["rows", "i", "j"] ["rows"] (defScope s_check_symmetric) := ⟨rfl, rfl, rfl, by decide +kernel, rfl, by decide +kernel, by decide +kernel⟩
theorem sc_Lattice_init : FnScope ["self", "gram", "rows", "row", "item", "k"] ["self", "gram"] (defScope s_Lattice_init) := ⟨rfl, rfl, rfl, by decide +kernel, rfl, by decide +kernel, by decide +kernel⟩
theorem sc_Lattice_eq : FnScope ["self", "other"] ["self", "other"] (defScope s_Lattice_eq) := ⟨rfl, rfl, rfl, by decide +kernel, rfl, by decide +kernel, by decide +kernel⟩
theorem sc_Lattice_determinant : FnScope ["self"] ["self"] (defScope s_Lattice_determinant) := ⟨rfl, rfl, rfl, by decide +kernel, rfl, by decide +kernel, by decide +kernel⟩
theorem sc_dual_basis : FnScope ["lattice"] ["lattice"] (defScope s_dual_basis) := ⟨rfl, rfl, rfl, by decide +kernel, rfl, by decide +kernel, by decide +kernel⟩
theorem sc_scaled_dual : FnScope ["lattice", "adjugate", "common", "row", "x"] ["lattice"] (defScope s_scaled_dual) := ⟨rfl, rfl, rfl, by decide +kernel, rfl, by decide +kernel, by decide +kernel⟩
theorem sc_rational : FnScope ["row", "e", "common", "x"] ["row", "e"] (defScope s_rational) := ⟨rfl, rfl, rfl, by decide +kernel, rfl, by decide +kernel, by decide +kernel⟩
theorem sc_rational_product : FnScope ["lattice", "x", "y", "top", "low", "common"] ["lattice", "x", "y"] (defScope s_rational_product) := ⟨rfl, rfl, rfl, by decide +kernel, rfl, by decide +kernel, by decide +kernel⟩
theorem sc_is_in_dual : FnScope ["lattice", "vector", "row", "e", "x"] ["lattice", "vector"] (defScope s_is_in_dual) := ⟨rfl, rfl, rfl, by decide +kernel, rfl, by decide +kernel, by decide +kernel⟩
theorem sc_law_state : FnScope ["script", "seed", "total", "cell"] ["script"] (defScope s_law_state) := ⟨rfl, rfl, rfl, by decide +kernel, rfl, by decide +kernel, by decide +kernel⟩
theorem sc_law_odd : FnScope ["value", "item"] ["value"] (defScope s_law_odd) := ⟨rfl, rfl, rfl, by decide +kernel, rfl, by decide +kernel, by decide +kernel⟩
theorem sc_law_honest : FnScope ["value"] ["value"] (defScope s_law_honest) := ⟨rfl, rfl, rfl, by decide +kernel, rfl, by decide +kernel, by decide +kernel⟩
theorem sc_law_take : FnScope ["state", "m", "value"] ["state", "m"] (defScope s_law_take) := ⟨rfl, rfl, rfl, by decide +kernel, rfl, by decide +kernel, by decide +kernel⟩
theorem sc_law_rows : FnScope ["state", "height", "width", "most", "rows", "i", "k"] ["state", "height", "width", "most"] (defScope s_law_rows) := ⟨rfl, rfl, rfl, by decide +kernel, rfl, by decide +kernel, by decide +kernel⟩
theorem sc_law_gram : FnScope ["state", "most", "n", "a", "rows", "i", "line", "k", "x", "y"] ["state", "most"] (defScope s_law_gram) := ⟨rfl, rfl, rfl, by decide +kernel, rfl, by decide +kernel, by decide +kernel⟩
theorem sc_law_form : FnScope ["gram", "x", "y", "total", "i", "k"] ["gram", "x", "y"] (defScope s_law_form) := ⟨rfl, rfl, rfl, by decide +kernel, rfl, by decide +kernel, by decide +kernel⟩
theorem sc_law_gcd : FnScope ["a", "b", "first", "second", "rest"] ["a", "b"] (defScope s_law_gcd) := ⟨rfl, rfl, rfl, by decide +kernel, rfl, by decide +kernel, by decide +kernel⟩
theorem sc_law_lowest : FnScope ["row", "e", "common", "x"] ["row", "e"] (defScope s_law_lowest) := ⟨rfl, rfl, rfl, by decide +kernel, rfl, by decide +kernel, by decide +kernel⟩
theorem sc_law : FnScope ["script", "state", "gram", "n", "lattice", "basis", "d", "units", "i", "k", "weights", "row", "e", "drawn", "x", "y", "due", "top", "low", "other", "common", "line", "item", "content_v"] ["script"] (defScope s_law) := ⟨rfl, rfl, rfl, by decide +kernel, rfl, by decide +kernel, by decide +kernel⟩
structure Txt (P : Program) (K : PySem.W.Frag) (mg : Str → Option Value) (base : Heap) (C_Grid : Addr) (C_Lattice : Addr) : Prop where
  u_len : mg "len" = none
  u_isinstance : mg "isinstance" = none
  u_int : mg "int" = none
  u_bool : mg "bool" = none
  u_str : mg "str" = none
  u_list : mg "list" = none
  u_tuple : mg "tuple" = none
  u_range : mg "range" = none
  u_zip : mg "zip" = none
  u_enumerate : mg "enumerate" = none
  u_sum : mg "sum" = none
  u_abs : mg "abs" = none
  u_min : mg "min" = none
  u_max : mg "max" = none
  u_all : mg "all" = none
  u_any : mg "any" = none
  u_divmod : mg "divmod" = none
  u_sorted : mg "sorted" = none
  sr : base.NoSeer
  tr : P.given.tree = none
  gGrid : ClsG K C_Grid
  m_Grid : mg "Grid" = some (.ref C_Grid)
  cl_Grid : Cls K C_Grid
  n_Grid_rows : NoAttr K C_Grid "rows"
  n_Grid_width : NoAttr K C_Grid "width"
  l_not_Grid : PySem.W.kitOne K (.type "list") (.ref C_Grid) = some false
  t_not_Grid : PySem.W.kitOne K (.type "tuple") (.ref C_Grid) = some false
  s_not_Grid : PySem.W.kitOne K (.type "str") (.ref C_Grid) = some false
  i_not_Grid : PySem.W.kitOne K (.type "int") (.ref C_Grid) = some false
  not_Grid_Lattice : PySem.W.kitOne K (.ref C_Grid) (.ref C_Lattice) = some false
  tl_Grid : PySem.W.kitAny K (.ref C_Grid) [.type "tuple", .type "list"] = some false
  snf_Grid : PySem.W.notFirst K C_Grid (.type "str") = true
  nty_Grid_list : PySem.W.kitOne K (.ref C_Grid) (.type "list") = some false
  nty_Grid_tuple : PySem.W.kitOne K (.ref C_Grid) (.type "tuple") = some false
  gLattice : ClsG K C_Lattice
  m_Lattice : mg "Lattice" = some (.ref C_Lattice)
  cl_Lattice : Cls K C_Lattice
  n_Lattice_gram : NoAttr K C_Lattice "gram"
  l_not_Lattice : PySem.W.kitOne K (.type "list") (.ref C_Lattice) = some false
  t_not_Lattice : PySem.W.kitOne K (.type "tuple") (.ref C_Lattice) = some false
  s_not_Lattice : PySem.W.kitOne K (.type "str") (.ref C_Lattice) = some false
  i_not_Lattice : PySem.W.kitOne K (.type "int") (.ref C_Lattice) = some false
  not_Lattice_Grid : PySem.W.kitOne K (.ref C_Lattice) (.ref C_Grid) = some false
  tl_Lattice : PySem.W.kitAny K (.ref C_Lattice) [.type "tuple", .type "list"] = some false
  snf_Lattice : PySem.W.notFirst K C_Lattice (.type "str") = true
  nty_Lattice_list : PySem.W.kitOne K (.ref C_Lattice) (.type "list") = some false
  nty_Lattice_tuple : PySem.W.kitOne K (.ref C_Lattice) (.type "tuple") = some false
  v_MOST_RANK : ∃ u, mg "MOST_RANK" = some u ∧ RelV (.int 4) u
  v_MOST_ITEM : ∃ u, mg "MOST_ITEM" = some u ∧ RelV (.int 10000) u
  i_gcd : mg "gcd" = some (.builtin "math.gcd")
end G41
set_option Elab.async false
set_option linter.all false
set_option maxRecDepth 100000
set_option maxHeartbeats 4000000
namespace G41
open PySem PySem.Spec PyProof.Rows L2 Evl G
noncomputable def m_is_integer (v_value : Int) : Option Bool := some (true && (!false))
def R_is_integer (C_Grid : Addr) (C_Lattice : Addr) : List DV → DV → Prop := fun ds r => ∃ (v_value : Int) (y : Bool), ds = [eI v_value] ∧ m_is_integer v_value = some y ∧ r = eB y
section
variable {P : Program} {w : World} {K : PySem.W.Frag} {mg : Str → Option Value} {base : Heap} {C_Grid : Addr} {C_Lattice : Addr} {f : Addr} {fd : FuncData}
theorem ok_is_integer (F : Fun K "is_integer" "is_integer" s_is_integer f fd) (T : Txt P K mg base C_Grid C_Lattice) : FnOk P w K mg base CX0 2 f fd ["value"] (spD K (R_is_integer C_Grid C_Lattice)) := by
  refine okW F sc_is_integer (fun ds r h => by obtain ⟨v_value, y, rfl, _⟩ := h; rfl) fun cdv A outer s H E hr => ⟨_, (pss_one (ps_ret (pe_and (pe_callB (call_isK (K := K)) (by rfl) T.u_isinstance PyProof.Rows.boot_isinstance (pa_cons (pv 0) (pa_cons (pe_bltn (v := .ty "int") (u := .type "int") (by rfl) T.u_int (by decide +kernel) rfl) pa_nil))) (pe_one (pe_not (pe_callB (call_isK (K := K)) (by rfl) T.u_isinstance PyProof.Rows.boot_isinstance (pa_cons (pv 0) (pa_cons (pe_bltn (v := .ty "bool") (u := .type "bool") (by rfl) T.u_bool (by decide +kernel) rfl) pa_nil)))))))), ?_⟩
  rintro ds r ⟨v_value, y, rfl, h, rfl⟩
  refine w_at [.dat (eI v_value)] ?_
  unfold m_is_integer at h
  exact w_ret (d := eB (true && (!false))) (ep_andV (ep_isiB (b := true) (ep_var (i := 0) rfl) .int (by decide +kernel)) (fun _ => (ep_notV (ep_isiB (b := false) (ep_var (i := 0) rfl) .int (by decide +kernel))))) (congrArg eB (Option.some.inj h))
end
noncomputable def m_content_l1  (x : Int) (s : Int) : Option (Int) := (some ((Nat.gcd (s).natAbs (x).natAbs : Nat) : Int)).bind fun v_out1 => some v_out1
noncomputable def m_content (v_numbers : (Sq eI)) : Option Int := (foldO m_content_l1 v_numbers.xs (0 : Int)).bind fun s1002 => some s1002
def R_content (C_Grid : Addr) (C_Lattice : Addr) : List DV → DV → Prop := fun ds r => ∃ (v_numbers : (Sq eI)) (y : Int), ds = [v_numbers.d] ∧ m_content v_numbers = some y ∧ r = eI y
section
variable {P : Program} {w : World} {K : PySem.W.Frag} {mg : Str → Option Value} {base : Heap} {C_Grid : Addr} {C_Lattice : Addr} {f : Addr} {fd : FuncData}
theorem ok_content (F : Fun K "content" "content" s_content f fd) (T : Txt P K mg base C_Grid C_Lattice) : FnOk P w K mg base CX0 2 f fd ["numbers"] (spD K (R_content C_Grid C_Lattice)) := by
  refine okW F sc_content (fun ds r h => by obtain ⟨v_numbers, y, rfl, _⟩ := h; rfl) fun cdv A outer s H E hr => ⟨_, (pss_cons (ps_set (i := 1) sc_content.nd rfl (Or.inl rfl) pe_int)
      (pss_cons (ps_for PassesOwn.never rfl (pi_seqK (K := K) (pv 0)) (pg_name (i := 2) sc_content.nd rfl (Or.inl rfl)) (pss_one (ps_set (i := 1) sc_content.nd rfl (Or.inl rfl) (pe_callBfun cr_gcd rfl T.i_gcd (pa_cons (pv 1) (pa_cons (pv 2) pa_nil))))))
      (pss_one (ps_ret (pv 1))))), ?_⟩
  rintro ds r ⟨v_numbers, y, rfl, h, rfl⟩
  refine w_at [.dat (v_numbers.d), .un, .un] ?_
  unfold m_content at h
  refine q_seq (w_asg (i := 1) ep_int [.dat (v_numbers.d), .dat (eI (0 : Int)), .un] ?_)
  obtain ⟨s1002, h_s1002, h⟩ := bdO h
  refine q_seq (w_fold (fun q1 : Int => [.dat (v_numbers.d), .dat (eI q1), .un]) (0 : Int) (sle_same (sle_same (sle_same sle_nil))) (wl_seq (f := eI) (sq_v (ep_var (i := 0) rfl))) h_s1002 (fun y1 q1 s' h => ?_) ?_)
  · refine w_at [.dat (v_numbers.d), .dat (eI q1), .dat (eI y1)] ?_
    unfold m_content_l1 at h
    obtain ⟨v_out1001, h_v_out1001, h⟩ := bdO h
    refine w_asg (i := 1) (EXp.is (e := eI v_out1001) (ep_gcd (ep_var (i := 1) rfl) (ep_var (i := 2) rfl)) (by cases h_v_out1001; rfl)) [.dat (v_numbers.d), .dat (eI v_out1001), .dat (eI y1)] ?_
    cases h
    exact (by repeat (first | exact sle_nil | refine sle_same ?_ | refine sle_un ?_))
  exact w_ret (d := eI s1002) (ep_var (i := 1) rfl) (congrArg eI (Option.some.inj h))
end
noncomputable def m_dot (v_a : (Sq eI)) (v_b : (Sq eI)) : Option Int := (lcA (fun x1 => (mulO x1.1 x1.2).bind fun t2 => some t2) (List.zip v_a.xs v_b.xs)).bind fun t3 => some t3.sum
def R_dot (C_Grid : Addr) (C_Lattice : Addr) : List DV → DV → Prop := fun ds r => ∃ (v_a : (Sq eI)) (v_b : (Sq eI)) (y : Int), ds = [v_a.d, v_b.d] ∧ m_dot v_a v_b = some y ∧ r = eI y
section
variable {P : Program} {w : World} {K : PySem.W.Frag} {mg : Str → Option Value} {base : Heap} {C_Grid : Addr} {C_Lattice : Addr} {f : Addr} {fd : FuncData}
theorem ok_dot (F : Fun K "dot" "dot" s_dot f fd) (T : Txt P K mg base C_Grid C_Lattice) : FnOk P w K mg base CX0 2 f fd ["a", "b"] (spD K (R_dot C_Grid C_Lattice)) := by
  refine okW F sc_dot (fun ds r h => by obtain ⟨v_a, v_b, y, rfl, _⟩ := h; rfl) fun cdv A outer s H E hr => ⟨_, (pss_one (ps_ret (pe_callB (cr_sumK (K := K)) (by rfl) T.u_sum PyProof.Rows.boot_sum (pa_cons (pe_lc (own := [("x", 2), ("y", 3)]) (g := gTup K 2 (gCons (gName 2) (gCons (gName 3) gNil))) (tt := tYes) (by rfl) sc_dot.nd (pi_zK (K := K) (by rfl) T.u_zip (pa_cons (pv 0) (pa_cons (pv 1) pa_nil))) (blkOk_by (N := ["a", "b", "x", "y"]) (sc := defScope s_dot) (own := [("x", 2), ("y", 3)]) (by first | decide +kernel | kernel_rfl)) (fun _ _ _ _ _ => (pg_tup rfl (pgs_cons (pg_name (i := 2) sc_dot.nd rfl (Or.inl rfl)) (pgs_cons (pg_name (i := 3) sc_dot.nd rfl (Or.inl rfl)) pgs_nil)))) (fun _ _ _ _ _ => pts_nil) (fun _ _ _ _ _ => (pe_op op_mulB (pv 2) (pv 3)))) pa_nil)))), ?_⟩
  rintro ds r ⟨v_a, v_b, y, rfl, h, rfl⟩
  refine w_at [.dat (v_a.d), .dat (v_b.d), .un, .un] ?_
  unfold m_dot at h
  obtain ⟨t3, h_t3, h⟩ := bdO h
  exact w_ret (d := eI t3.sum) (ep_sum (LXp.ex (lp_lcA (e := eI) (fun x1 => [.dat (v_a.d), .dat (v_b.d), .dat (eI x1.1), .dat (eI x1.2)]) (wl_zip (f := eI) (g := eI) (sq_v (ep_var (i := 0) rfl)) (sq_v (ep_var (i := 1) rfl))) h_t3 (by decide) (fun x1 _ h => by obtain ⟨t2, h_t2, h⟩ := bdO h; exact EXp.is (d := eI t2) (ep_mul (ep_var (i := 2) rfl) (ep_var (i := 3) rfl) h_t2) (congrArg eI (Option.some.inj h)))))) (congrArg eI (Option.some.inj h))
end
noncomputable def m_Grid_before (v_self : M_Grid) (v_row : (Sq eI)) : Option (List Int) := if (!decide ((v_row.xs.length : Int) = (v_self.rows.length : Int))) then none else (rngO v_self.width).bind fun t1 => (lcA (fun x2 => (lcA (fun x3 => (L2.atI x3 x2).bind fun t4 => some t4) v_self.rows).bind fun t5 => (m_dot v_row (Sq.L eI t5)).bind fun t6 => some t6) t1).bind fun t7 => some t7
def R_Grid_before (C_Grid : Addr) (C_Lattice : Addr) : List DV → DV → Prop := fun ds r => ∃ (v_self : M_Grid) (v_row : (Sq eI)) (y : (List Int)), ds = [(e_Grid C_Grid C_Lattice) v_self, v_row.d] ∧ m_Grid_before v_self v_row = some y ∧ r = (eT eI) y
section
variable {P : Program} {w : World} {K : PySem.W.Frag} {mg : Str → Option Value} {base : Heap} {C_Grid : Addr} {C_Lattice : Addr} {f : Addr} {fd : FuncData}
theorem ok_Grid_before (F : Fun K "before" "Grid.before" s_Grid_before f fd) (T : Txt P K mg base C_Grid C_Lattice) (c_dot : CalG P w K mg base 2 "dot" (spD K (R_dot C_Grid C_Lattice)) []) : FnOk P w K mg base CX0 3 f fd ["self", "row"] (spD K (R_Grid_before C_Grid C_Lattice)) := by
  refine okW F sc_Grid_before (fun ds r h => by obtain ⟨v_self, v_row, y, rfl, _⟩ := h; rfl) fun cdv A outer s H E hr => ⟨_, (pss_cons (ps_if (pt_cmpR op_ne (pe_callB (call_lenK (K := K)) (by rfl) T.u_len (by decide +kernel) (pa_cons (pv 1) pa_nil)) (pe_callB (call_lenK (K := K)) (by rfl) T.u_len (by decide +kernel) (pa_cons (pe_fldK (K := K) (pv 0)) pa_nil)) (nomark _)) (pss_one ps_never) pss_nil)
      (pss_one (ps_ret (pe_callTy (call_tupK (K := K)) (by rfl) T.u_tuple PyProof.Rows.boot_tuple (pa_cons (pe_lc (own := [("k", 2)]) (g := gName 2) (tt := tYes) (by rfl) sc_Grid_before.nd (pi_range1 (by rfl) T.u_range (pa_cons (pe_fldK (K := K) (pv 0)) pa_nil)) (blkOk_by (N := ["self", "row", "k", "line"]) (sc := defScope s_Grid_before) (own := [("k", 2)]) (by first | decide +kernel | kernel_rfl)) (fun _ _ _ _ _ => (pg_name (i := 2) sc_Grid_before.nd rfl (Or.inr rfl))) (fun _ _ _ _ _ => pts_nil) (fun _ _ _ _ _ => (pe_cG c_dot hr (by decide) rfl (pa_cons (pv 1) (pa_cons (pe_lc (own := [("line", 3)]) (g := gName 3) (tt := tYes) (by rfl) sc_Grid_before.nd (pi_seqK (K := K) (pe_fldK (K := K) (pv 0))) (blkOk_by (N := ["self", "row", "k", "line"]) (sc := _) (own := [("line", 3)]) (by first | decide +kernel | kernel_rfl)) (fun _ _ _ _ _ => (pg_name (i := 3) sc_Grid_before.nd rfl (Or.inl rfl))) (fun _ _ _ _ _ => pts_nil) (fun _ _ _ _ _ => (pe_ix (ix_seqK (K := K)) (pv 3) (pv 2) (fun _ _ => rfl)))) pa_nil))))) pa_nil))))), ?_⟩
  rintro ds r ⟨v_self, v_row, y, rfl, h, rfl⟩
  refine w_at [.dat ((e_Grid C_Grid C_Lattice) v_self), .dat (v_row.d), .un, .un] ?_
  unfold m_Grid_before at h
  refine q_seq (w_if (tp_test (ep_neI (ep_lenM (f := eI) (ip_v (ep_var (i := 1) rfl))) (ep_lenM (f := (eT eI)) (ip_tup (ep_fld (ep_var (i := 0) rfl) T.cl_Grid T.n_Grid_rows rfl))))) (fun hb => ?_) (fun hb => ?_))
  · replace h := ifT hb h
    cases h
  · replace h := ifF hb h
    refine w_next ?_
    obtain ⟨t1, h_t1, h⟩ := bdO h
    obtain ⟨t7, h_t7, h⟩ := bdO h
    exact w_ret (d := (eT eI) t7) (ep_tuple (ip_new (lp_lcA (e := eI) (fun x2 => [.dat ((e_Grid C_Grid C_Lattice) v_self), .dat (v_row.d), .dat (eI x2), .un]) (wl_range1 (ep_fld (ep_var (i := 0) rfl) T.cl_Grid T.n_Grid_width rfl) h_t1) h_t7 (by decide) (fun x2 _ h => by obtain ⟨t5, h_t5, h⟩ := bdO h; obtain ⟨t6, h_t6, h⟩ := bdO h; exact EXp.is (d := eI t6) (ep_call (ap_cons (ep_var (i := 1) rfl) (ap_cons (LXp.ex (lp_lcA (e := eI) (fun x3 => [.dat ((e_Grid C_Grid C_Lattice) v_self), .dat (v_row.d), .dat (eI x2), .dat ((eT eI) x3)]) (wl_seq (f := (eT eI)) (sq_tup (ep_fld (ep_var (i := 0) rfl) T.cl_Grid T.n_Grid_rows rfl))) h_t5 (by decide) (fun x3 _ h => by obtain ⟨t4, h_t4, h⟩ := bdO h; exact EXp.is (d := eI t4) (ep_ix (f := eI) (ip_tup (ep_var (i := 3) rfl)) (ep_var (i := 2) rfl) h_t4) (congrArg eI (Option.some.inj h))))) ap_nil)) ⟨v_row, (Sq.L eI t5), t6, rfl, h_t6, rfl⟩) (congrArg eI (Option.some.inj h)))))) (congrArg (eT eI) (Option.some.inj h))
end
noncomputable def m_square_rows_S_l2  (x : Int) (s : Unit) : Option (Unit) := (m_is_integer x).bind fun t1 => if (!t1) then none else some ()
noncomputable def m_square_rows_S_l1 (v_rows : (Sq (fun p : Sq eI => p.d))) (x : (Sq eI)) (s : Unit) : Option (Unit) := if ((!true) || (!decide ((x.xs.length : Int) = (v_rows.xs.length : Int)))) then none else (foldO m_square_rows_S_l2 x.xs ()).bind fun s2002 => some ()
noncomputable def m_square_rows_S (v_gram : (Sq (fun p : Sq eI => p.d))) : Option (Sq (fun p : Sq eI => p.d)) := if ((!true) || (decide ((v_gram.xs.length : Int) < (1 : Int)))) then none else if (decide ((4 : Int) < (v_gram.xs.length : Int))) then none else (foldO (m_square_rows_S_l1 v_gram) v_gram.xs ()).bind fun s4003 => some v_gram
def R_square_rows_S (C_Grid : Addr) (C_Lattice : Addr) : List DV → DV → Prop := fun ds r => ∃ (v_gram : (Sq (fun p : Sq eI => p.d))) (y : (Sq (fun p : Sq eI => p.d))), ds = [v_gram.d] ∧ m_square_rows_S v_gram = some y ∧ r = y.d
section
variable {P : Program} {w : World} {K : PySem.W.Frag} {mg : Str → Option Value} {base : Heap} {C_Grid : Addr} {C_Lattice : Addr} {f : Addr} {fd : FuncData}
theorem ok_square_rows_S (F : Fun K "square_rows" "square_rows" s_square_rows f fd) (T : Txt P K mg base C_Grid C_Lattice) (c_is_integer : CalG P w K mg base 2 "is_integer" (spD K (R_is_integer C_Grid C_Lattice)) []) : FnOk P w K mg base CX0 3 f fd ["gram"] (spD K (R_square_rows_S C_Grid C_Lattice)) := by
  refine okW F sc_square_rows (fun ds r h => by obtain ⟨v_gram, y, rfl, _⟩ := h; rfl) fun cdv A outer s H E hr => ⟨_, (pss_cons (ps_if (pt_val (pe_callB (call_isK (K := K)) (by rfl) T.u_isinstance PyProof.Rows.boot_isinstance (pa_cons (pv 0) (pa_cons (pe_glob (v := .ref C_Grid) rfl T.m_Grid rfl) pa_nil)))) (pss_one (ps_set (i := 1) sc_square_rows.nd rfl (Or.inl rfl) (pe_fldK (K := K) (pv 0)))) (pss_one (ps_set (i := 1) sc_square_rows.nd rfl (Or.inl rfl) (pv 0))))
      (pss_cons (ps_if (PW.pt (pw_or (pt_not (pt_val (pe_callB (call_isTK (K := K)) (by rfl) T.u_isinstance PyProof.Rows.boot_isinstance (pa_cons (pv 1) (pa_cons (pe_tup (pa_cons (pe_bltn (v := .ty "list") (u := .type "list") (by rfl) T.u_list (by decide +kernel) rfl) (pa_cons (pe_bltn (v := .ty "tuple") (u := .type "tuple") (by rfl) T.u_tuple (by decide +kernel) rfl) pa_nil))) pa_nil))))) (pw_or1 (pt_cmpR op_lt (pe_callB (call_lenK (K := K)) (by rfl) T.u_len (by decide +kernel) (pa_cons (pv 1) pa_nil)) pe_int (nomark _))))) (pss_one ps_never) pss_nil)
      (pss_cons (ps_if (pt_cmpR op_gt (pe_callB (call_lenK (K := K)) (by rfl) T.u_len (by decide +kernel) (pa_cons (pv 1) pa_nil)) (pe_globE rfl T.v_MOST_RANK) (nomark _)) (pss_one ps_never) pss_nil)
      (pss_cons (ps_for PassesOwn.never rfl (pi_seqK (K := K) (pv 1)) (pg_name (i := 2) sc_square_rows.nd rfl (Or.inl rfl)) (pss_cons (ps_if (PW.pt (pw_or (pt_not (pt_val (pe_callB (call_isTK (K := K)) (by rfl) T.u_isinstance PyProof.Rows.boot_isinstance (pa_cons (pv 2) (pa_cons (pe_tup (pa_cons (pe_bltn (v := .ty "list") (u := .type "list") (by rfl) T.u_list (by decide +kernel) rfl) (pa_cons (pe_bltn (v := .ty "tuple") (u := .type "tuple") (by rfl) T.u_tuple (by decide +kernel) rfl) pa_nil))) pa_nil))))) (pw_or1 (pt_cmpR op_ne (pe_callB (call_lenK (K := K)) (by rfl) T.u_len (by decide +kernel) (pa_cons (pv 2) pa_nil)) (pe_callB (call_lenK (K := K)) (by rfl) T.u_len (by decide +kernel) (pa_cons (pv 1) pa_nil)) (nomark _))))) (pss_one ps_never) pss_nil)
      (pss_one (ps_for PassesOwn.never rfl (pi_seqK (K := K) (pv 2)) (pg_name (i := 3) sc_square_rows.nd rfl (Or.inl rfl)) (pss_one (ps_if (pt_not (pt_val (pe_cG c_is_integer hr (by decide) rfl (pa_cons (pv 3) pa_nil)))) (pss_one ps_never) pss_nil))))))
      (pss_one (ps_ret (pv 1))))))), ?_⟩
  rintro ds r ⟨v_gram, y, rfl, h, rfl⟩
  refine w_at [.dat (v_gram.d), .un, .un, .un] ?_
  unfold m_square_rows_S at h
  refine q_seq (w_if (tp_val (ep_isnSq (ep_var (i := 0) rfl) (.own C_Grid) T.l_not_Grid T.t_not_Grid)) (fun hb => by cases hb) (fun hb => ?_))
  refine w_asg (i := 1) (ep_var (i := 0) rfl) [.dat (v_gram.d), .dat (v_gram.d), .un, .un] ?_
  refine q_seq (w_if (tp_or (tp_not (tp_val (ep_isSq (ep_var (i := 1) rfl)))) (fun _ => (tp_test (ep_lt (ep_lenM (f := (fun p : Sq eI => p.d)) (ip_v (ep_var (i := 1) rfl))) ep_int)))) (fun hb => ?_) (fun hb => ?_))
  · replace h := ifT hb h
    cases h
  · replace h := ifF hb h
    refine w_next ?_
    refine q_seq (w_if (tp_test (ep_gt (ep_lenM (f := (fun p : Sq eI => p.d)) (ip_v (ep_var (i := 1) rfl))) ep_int)) (fun hb => ?_) (fun hb => ?_))
    · replace h := ifT hb h
      cases h
    · replace h := ifF hb h
      refine w_next ?_
      obtain ⟨s4003, h_s4003, h⟩ := bdO h
      refine q_seq (w_fold (fun q1 : Unit => [.dat (v_gram.d), .dat (v_gram.d), .un, .un]) () (sle_same (sle_same (sle_same (sle_same sle_nil)))) (wl_seq (f := (fun p : Sq eI => p.d)) (sq_v (ep_var (i := 1) rfl))) h_s4003 (fun y1 q1 s' h => ?_) ?_)
      · refine w_at [.dat (v_gram.d), .dat (v_gram.d), .dat (y1.d), .un] ?_
        unfold m_square_rows_S_l1 at h
        refine q_seq (w_if (tp_or (tp_not (tp_val (ep_isSq (ep_var (i := 2) rfl)))) (fun _ => (tp_test (ep_neI (ep_lenM (f := eI) (ip_v (ep_var (i := 2) rfl))) (ep_lenM (f := (fun p : Sq eI => p.d)) (ip_v (ep_var (i := 1) rfl))))))) (fun hb => ?_) (fun hb => ?_))
        · replace h := ifT hb h
          cases h
        · replace h := ifF hb h
          refine w_next ?_
          obtain ⟨s4002, h_s4002, h⟩ := bdO h
          refine w_fold (fun q2 : Unit => [.dat (v_gram.d), .dat (v_gram.d), .dat (y1.d), .un]) () (sle_same (sle_same (sle_same (sle_same sle_nil)))) (wl_seq (f := eI) (sq_v (ep_var (i := 2) rfl))) h_s4002 (fun y2 q2 s' h => ?_) ?_
          · refine w_at [.dat (v_gram.d), .dat (v_gram.d), .dat (y1.d), .dat (eI y2)] ?_
            unfold m_square_rows_S_l2 at h
            obtain ⟨t4001, h_t4001, h⟩ := bdO h
            refine w_if (tp_not (tp_val (ep_call (ap_cons (ep_var (i := 3) rfl) ap_nil) ⟨y2, t4001, rfl, h_t4001, rfl⟩))) (fun hb => ?_) (fun hb => ?_)
            · replace h := ifT hb h
              cases h
            · replace h := ifF hb h
              refine w_next ?_
              cases h
              exact (by repeat (first | exact sle_nil | refine sle_same ?_ | refine sle_un ?_))
          cases h
          exact (by repeat (first | exact sle_nil | refine sle_same ?_ | refine sle_un ?_))
      exact w_ret (d := v_gram.d) (ep_var (i := 1) rfl) (congrArg (fun p : Sq (fun p : Sq eI => p.d) => p.d) (Option.some.inj h))
end
noncomputable def m_square_rows_G_l2  (x : Int) (s : Unit) : Option (Unit) := (m_is_integer x).bind fun t1 => if (!t1) then none else some ()
noncomputable def m_square_rows_G_l1 (v_rows : (List (List Int))) (x : (List Int)) (s : Unit) : Option (Unit) := if ((!true) || (!decide ((x.length : Int) = (v_rows.length : Int)))) then none else (foldO m_square_rows_G_l2 x ()).bind fun s2002 => some ()
noncomputable def m_square_rows_G (v_gram : M_Grid) : Option (List (List Int)) := if ((!true) || (decide ((v_gram.rows.length : Int) < (1 : Int)))) then none else if (decide ((4 : Int) < (v_gram.rows.length : Int))) then none else (foldO (m_square_rows_G_l1 v_gram.rows) v_gram.rows ()).bind fun s4003 => some v_gram.rows
def R_square_rows_G (C_Grid : Addr) (C_Lattice : Addr) : List DV → DV → Prop := fun ds r => ∃ (v_gram : M_Grid) (y : (List (List Int))), ds = [(e_Grid C_Grid C_Lattice) v_gram] ∧ m_square_rows_G v_gram = some y ∧ r = (eT (eT eI)) y
section
variable {P : Program} {w : World} {K : PySem.W.Frag} {mg : Str → Option Value} {base : Heap} {C_Grid : Addr} {C_Lattice : Addr} {f : Addr} {fd : FuncData}
theorem ok_square_rows_G (F : Fun K "square_rows" "square_rows" s_square_rows f fd) (T : Txt P K mg base C_Grid C_Lattice) (c_is_integer : CalG P w K mg base 2 "is_integer" (spD K (R_is_integer C_Grid C_Lattice)) []) : FnOk P w K mg base CX0 3 f fd ["gram"] (spD K (R_square_rows_G C_Grid C_Lattice)) := by
  refine okW F sc_square_rows (fun ds r h => by obtain ⟨v_gram, y, rfl, _⟩ := h; rfl) fun cdv A outer s H E hr => ⟨_, (pss_cons (ps_if (pt_val (pe_callB (call_isK (K := K)) (by rfl) T.u_isinstance PyProof.Rows.boot_isinstance (pa_cons (pv 0) (pa_cons (pe_glob (v := .ref C_Grid) rfl T.m_Grid rfl) pa_nil)))) (pss_one (ps_set (i := 1) sc_square_rows.nd rfl (Or.inl rfl) (pe_fldK (K := K) (pv 0)))) (pss_one (ps_set (i := 1) sc_square_rows.nd rfl (Or.inl rfl) (pv 0))))
      (pss_cons (ps_if (PW.pt (pw_or (pt_not (pt_val (pe_callB (call_isTK (K := K)) (by rfl) T.u_isinstance PyProof.Rows.boot_isinstance (pa_cons (pv 1) (pa_cons (pe_tup (pa_cons (pe_bltn (v := .ty "list") (u := .type "list") (by rfl) T.u_list (by decide +kernel) rfl) (pa_cons (pe_bltn (v := .ty "tuple") (u := .type "tuple") (by rfl) T.u_tuple (by decide +kernel) rfl) pa_nil))) pa_nil))))) (pw_or1 (pt_cmpR op_lt (pe_callB (call_lenK (K := K)) (by rfl) T.u_len (by decide +kernel) (pa_cons (pv 1) pa_nil)) pe_int (nomark _))))) (pss_one ps_never) pss_nil)
      (pss_cons (ps_if (pt_cmpR op_gt (pe_callB (call_lenK (K := K)) (by rfl) T.u_len (by decide +kernel) (pa_cons (pv 1) pa_nil)) (pe_globE rfl T.v_MOST_RANK) (nomark _)) (pss_one ps_never) pss_nil)
      (pss_cons (ps_for PassesOwn.never rfl (pi_seqK (K := K) (pv 1)) (pg_name (i := 2) sc_square_rows.nd rfl (Or.inl rfl)) (pss_cons (ps_if (PW.pt (pw_or (pt_not (pt_val (pe_callB (call_isTK (K := K)) (by rfl) T.u_isinstance PyProof.Rows.boot_isinstance (pa_cons (pv 2) (pa_cons (pe_tup (pa_cons (pe_bltn (v := .ty "list") (u := .type "list") (by rfl) T.u_list (by decide +kernel) rfl) (pa_cons (pe_bltn (v := .ty "tuple") (u := .type "tuple") (by rfl) T.u_tuple (by decide +kernel) rfl) pa_nil))) pa_nil))))) (pw_or1 (pt_cmpR op_ne (pe_callB (call_lenK (K := K)) (by rfl) T.u_len (by decide +kernel) (pa_cons (pv 2) pa_nil)) (pe_callB (call_lenK (K := K)) (by rfl) T.u_len (by decide +kernel) (pa_cons (pv 1) pa_nil)) (nomark _))))) (pss_one ps_never) pss_nil)
      (pss_one (ps_for PassesOwn.never rfl (pi_seqK (K := K) (pv 2)) (pg_name (i := 3) sc_square_rows.nd rfl (Or.inl rfl)) (pss_one (ps_if (pt_not (pt_val (pe_cG c_is_integer hr (by decide) rfl (pa_cons (pv 3) pa_nil)))) (pss_one ps_never) pss_nil))))))
      (pss_one (ps_ret (pv 1))))))), ?_⟩
  rintro ds r ⟨v_gram, y, rfl, h, rfl⟩
  refine w_at [.dat ((e_Grid C_Grid C_Lattice) v_gram), .un, .un, .un] ?_
  unfold m_square_rows_G at h
  refine q_seq (w_if (tp_val (ep_isi (ep_var (i := 0) rfl) (.ins T.gGrid.own) (.own C_Grid) (kit_self T.gGrid.own))) (fun hb => ?_) (fun hb => by cases hb))
  refine w_asg (i := 1) (ep_fld (ep_var (i := 0) rfl) T.cl_Grid T.n_Grid_rows rfl) [.dat ((e_Grid C_Grid C_Lattice) v_gram), .dat ((eT (eT eI)) v_gram.rows), .un, .un] ?_
  refine q_seq (w_if (tp_or (tp_not (tp_val (ep_isT (e := (eT eI)) (ep_var (i := 1) rfl)))) (fun _ => (tp_test (ep_lt (ep_lenM (f := (eT eI)) (ip_tup (ep_var (i := 1) rfl))) ep_int)))) (fun hb => ?_) (fun hb => ?_))
  · replace h := ifT hb h
    cases h
  · replace h := ifF hb h
    refine w_next ?_
    refine q_seq (w_if (tp_test (ep_gt (ep_lenM (f := (eT eI)) (ip_tup (ep_var (i := 1) rfl))) ep_int)) (fun hb => ?_) (fun hb => ?_))
    · replace h := ifT hb h
      cases h
    · replace h := ifF hb h
      refine w_next ?_
      obtain ⟨s4003, h_s4003, h⟩ := bdO h
      refine q_seq (w_fold (fun q1 : Unit => [.dat ((e_Grid C_Grid C_Lattice) v_gram), .dat ((eT (eT eI)) v_gram.rows), .un, .un]) () (sle_same (sle_same (sle_same (sle_same sle_nil)))) (wl_seq (f := (eT eI)) (sq_tup (ep_var (i := 1) rfl))) h_s4003 (fun y1 q1 s' h => ?_) ?_)
      · refine w_at [.dat ((e_Grid C_Grid C_Lattice) v_gram), .dat ((eT (eT eI)) v_gram.rows), .dat ((eT eI) y1), .un] ?_
        unfold m_square_rows_G_l1 at h
        refine q_seq (w_if (tp_or (tp_not (tp_val (ep_isT (e := eI) (ep_var (i := 2) rfl)))) (fun _ => (tp_test (ep_neI (ep_lenM (f := eI) (ip_tup (ep_var (i := 2) rfl))) (ep_lenM (f := (eT eI)) (ip_tup (ep_var (i := 1) rfl))))))) (fun hb => ?_) (fun hb => ?_))
        · replace h := ifT hb h
          cases h
        · replace h := ifF hb h
          refine w_next ?_
          obtain ⟨s4002, h_s4002, h⟩ := bdO h
          refine w_fold (fun q2 : Unit => [.dat ((e_Grid C_Grid C_Lattice) v_gram), .dat ((eT (eT eI)) v_gram.rows), .dat ((eT eI) y1), .un]) () (sle_same (sle_same (sle_same (sle_same sle_nil)))) (wl_seq (f := eI) (sq_tup (ep_var (i := 2) rfl))) h_s4002 (fun y2 q2 s' h => ?_) ?_
          · refine w_at [.dat ((e_Grid C_Grid C_Lattice) v_gram), .dat ((eT (eT eI)) v_gram.rows), .dat ((eT eI) y1), .dat (eI y2)] ?_
            unfold m_square_rows_G_l2 at h
            obtain ⟨t4001, h_t4001, h⟩ := bdO h
            refine w_if (tp_not (tp_val (ep_call (ap_cons (ep_var (i := 3) rfl) ap_nil) ⟨y2, t4001, rfl, h_t4001, rfl⟩))) (fun hb => ?_) (fun hb => ?_)
            · replace h := ifT hb h
              cases h
            · replace h := ifF hb h
              refine w_next ?_
              cases h
              exact (by repeat (first | exact sle_nil | refine sle_same ?_ | refine sle_un ?_))
          cases h
          exact (by repeat (first | exact sle_nil | refine sle_same ?_ | refine sle_un ?_))
      exact w_ret (d := (eT (eT eI)) v_gram.rows) (ep_var (i := 1) rfl) (congrArg (eT (eT eI)) (Option.some.inj h))
end
noncomputable def m_check_symmetric_l2 (v_rows : (Sq (fun p : Sq eI => p.d))) (v_i : Int) (x : Int) (s : Unit) : Option (Unit) := (L2.atI v_rows.xs v_i).bind fun t3 => (L2.atI t3.xs x).bind fun t4 => (L2.atI v_rows.xs x).bind fun t5 => (L2.atI t5.xs v_i).bind fun t6 => if (!decide (t4 = t6)) then none else some ()
noncomputable def m_check_symmetric_l1 (v_rows : (Sq (fun p : Sq eI => p.d))) (x : Int) (s : Unit) : Option (Unit) := (rngO x).bind fun t2 => (foldO (m_check_symmetric_l2 v_rows x) t2 ()).bind fun s2007 => some ()
noncomputable def m_check_symmetric (v_rows : (Sq (fun p : Sq eI => p.d))) : Option Unit := (rngO (v_rows.xs.length : Int)).bind fun t1 => (foldO (m_check_symmetric_l1 v_rows) t1 ()).bind fun s4008 => some ()
def R_check_symmetric (C_Grid : Addr) (C_Lattice : Addr) : List DV → DV → Prop := fun ds r => ∃ (v_rows : (Sq (fun p : Sq eI => p.d))) (y : Unit), ds = [v_rows.d] ∧ m_check_symmetric v_rows = some y ∧ r = eN y
section
variable {P : Program} {w : World} {K : PySem.W.Frag} {mg : Str → Option Value} {base : Heap} {C_Grid : Addr} {C_Lattice : Addr} {f : Addr} {fd : FuncData}
theorem ok_check_symmetric (F : Fun K "check_symmetric" "check_symmetric" s_check_symmetric f fd) (T : Txt P K mg base C_Grid C_Lattice) : FnOk P w K mg base CX0 2 f fd ["rows"] (spD K (R_check_symmetric C_Grid C_Lattice)) := by
  refine okW F sc_check_symmetric (fun ds r h => by obtain ⟨v_rows, y, rfl, _⟩ := h; rfl) fun cdv A outer s H E hr => ⟨_, (pss_one (ps_for PassesOwn.never rfl (pi_range1 (by rfl) T.u_range (pa_cons (pe_callB (call_lenK (K := K)) (by rfl) T.u_len (by decide +kernel) (pa_cons (pv 0) pa_nil)) pa_nil)) (pg_name (i := 1) sc_check_symmetric.nd rfl (Or.inl rfl)) (pss_one (ps_for PassesOwn.never rfl (pi_range1 (by rfl) T.u_range (pa_cons (pv 1) pa_nil)) (pg_name (i := 2) sc_check_symmetric.nd rfl (Or.inl rfl)) (pss_one (ps_if (pt_cmpR op_ne (pe_ix (ix_seqK (K := K)) (pe_ix (ix_seqK (K := K)) (pv 0) (pv 1) (fun _ _ => rfl)) (pv 2) (fun _ _ => rfl)) (pe_ix (ix_seqK (K := K)) (pe_ix (ix_seqK (K := K)) (pv 0) (pv 2) (fun _ _ => rfl)) (pv 1) (fun _ _ => rfl)) (nomark _)) (pss_one ps_never) pss_nil)))))), ?_⟩
  rintro ds r ⟨v_rows, y, rfl, h, rfl⟩
  refine w_at [.dat (v_rows.d), .un, .un] ?_
  unfold m_check_symmetric at h
  obtain ⟨t1, h_t1, h⟩ := bdO h
  obtain ⟨s4008, h_s4008, h⟩ := bdO h
  refine w_fold (fun q1 : Unit => [.dat (v_rows.d), .un, .un]) () (sle_same (sle_same (sle_same sle_nil))) (wl_range1 (ep_lenM (f := (fun p : Sq eI => p.d)) (ip_v (ep_var (i := 0) rfl))) h_t1) h_s4008 (fun y1 q1 s' h => ?_) ?_
  · refine w_at [.dat (v_rows.d), .dat (eI y1), .un] ?_
    unfold m_check_symmetric_l1 at h
    obtain ⟨t2002, h_t2002, h⟩ := bdO h
    obtain ⟨s4007, h_s4007, h⟩ := bdO h
    refine w_fold (fun q2 : Unit => [.dat (v_rows.d), .dat (eI y1), .un]) () (sle_same (sle_same (sle_same sle_nil))) (wl_range1 (ep_var (i := 1) rfl) h_t2002) h_s4007 (fun y2 q2 s' h => ?_) ?_
    · refine w_at [.dat (v_rows.d), .dat (eI y1), .dat (eI y2)] ?_
      unfold m_check_symmetric_l2 at h
      obtain ⟨t4003, h_t4003, h⟩ := bdO h
      obtain ⟨t4004, h_t4004, h⟩ := bdO h
      obtain ⟨t4005, h_t4005, h⟩ := bdO h
      obtain ⟨t4006, h_t4006, h⟩ := bdO h
      refine w_if (tp_test (ep_neI (ep_ix (f := eI) (ip_v (ep_ix (f := (fun p : Sq eI => p.d)) (ip_v (ep_var (i := 0) rfl)) (ep_var (i := 1) rfl) h_t4003)) (ep_var (i := 2) rfl) h_t4004) (ep_ix (f := eI) (ip_v (ep_ix (f := (fun p : Sq eI => p.d)) (ip_v (ep_var (i := 0) rfl)) (ep_var (i := 2) rfl) h_t4005)) (ep_var (i := 1) rfl) h_t4006))) (fun hb => ?_) (fun hb => ?_)
      · replace h := ifT hb h
        cases h
      · replace h := ifF hb h
        refine w_next ?_
        cases h
        exact (by repeat (first | exact sle_nil | refine sle_same ?_ | refine sle_un ?_))
    cases h
    exact (by repeat (first | exact sle_nil | refine sle_same ?_ | refine sle_un ?_))
  cases h
  rfl
end
end G41
set_option Elab.async false
set_option linter.all false
set_option maxRecDepth 100000
set_option maxHeartbeats 4000000
namespace G41
open PySem PySem.Spec PyProof.Rows L2 Evl G
noncomputable def m_Lattice_init_S_l2  (x : Int) (s : Unit) : Option (Unit) := if (decide ((10000 : Int) < (if x < 0 then -x else x))) then none else some ()
noncomputable def m_Lattice_init_S_l1  (x : (Sq eI)) (s : Unit) : Option (Unit) := (foldO m_Lattice_init_S_l2 x.xs ()).bind fun s2004 => some ()
noncomputable def m_Lattice_init_S_l3 (v_rows : (Sq (fun p : Sq eI => p.d))) (x : Int) (s : Unit) : Option (Unit) := (lcA (fun x4007 => some (Sq.cut x4007 none (some x))) (Sq.cut v_rows none (some x)).xs).bind fun t4008 => (mk_Grid2 (Sq.L (fun p : Sq eI => p.d) t4008) x).bind fun t4009 => (m_Grid_determinant t4009).bind fun t4010 => if (decide (t4010 < (1 : Int))) then none else some ()
noncomputable def m_Lattice_init_S (v_gram : (Sq (fun p : Sq eI => p.d))) : Option M_Lattice := (m_square_rows_S v_gram).bind fun v_rows2 => (m_check_symmetric v_rows2).bind fun t3 => (foldO m_Lattice_init_S_l1 v_rows2.xs ()).bind fun s4005 => (rng2O (1 : Int) ((v_rows2.xs.length : Int) + (1 : Int))).bind fun t4006 => (foldO (m_Lattice_init_S_l3 v_rows2) t4006 ()).bind fun s7011 => (mk_Grid1 v_rows2).bind fun t7012 => some ⟨t7012⟩
def R_Lattice_init_S (C_Grid : Addr) (C_Lattice : Addr) : List DV → List (Str × DV) → Prop := fun ds r => ∃ (v_gram : (Sq (fun p : Sq eI => p.d))) (y : M_Lattice), ds = [v_gram.d] ∧ m_Lattice_init_S v_gram = some y ∧ r = f_Lattice C_Grid C_Lattice y
section
variable {P : Program} {w : World} {K : PySem.W.Frag} {mg : Str → Option Value} {base : Heap} {C_Grid : Addr} {C_Lattice : Addr} {f : Addr} {fd : FuncData}
theorem ok_Lattice_init_S (F : FunD K "__init__" "Lattice.__init__" (defArgs s_Lattice_init) (defBody s_Lattice_init) (defScope s_Lattice_init) [] [] f fd) (T : Txt P K mg base C_Grid C_Lattice) (c_square_rows : CalG P w K mg base 3 "square_rows" (spD K (R_square_rows_S C_Grid C_Lattice)) []) (c_check_symmetric : CalG P w K mg base 2 "check_symmetric" (spD K (R_check_symmetric C_Grid C_Lattice)) []) (m_Grid_determinant : MetG P w K mg base 44 C_Grid "determinant" (spD K (rDetG C_Grid))) (k_Grid : MakG P w K mg base 6 "Grid" C_Grid (spI K C_Grid rInit) []) (k_Grid1 : MakG P w K mg base 6 "Grid" C_Grid (spI K C_Grid rInit) [.non]) : FnOk P w K mg base CX0 45 f fd ["self", "gram"] (spI K C_Lattice (R_Lattice_init_S C_Grid C_Lattice)) := by
  refine okWI F sc_Lattice_init (fun ds r h => by obtain ⟨v_gram, y, rfl, _⟩ := h; rfl) fun cdv A outer s H E hr => ⟨_, (pss_cons (ps_set (i := 2) sc_Lattice_init.nd rfl (Or.inl rfl) (pe_cG c_square_rows hr (by decide) rfl (pa_cons (pv 1) pa_nil)))
      (pss_cons (ps_expr (pe_cG c_check_symmetric hr (by decide) rfl (pa_cons (pv 2) pa_nil)))
      (pss_cons (ps_for PassesOwn.never rfl (pi_seqK (K := K) (pv 2)) (pg_name (i := 3) sc_Lattice_init.nd rfl (Or.inl rfl)) (pss_one (ps_for PassesOwn.never rfl (pi_seqK (K := K) (pv 3)) (pg_name (i := 4) sc_Lattice_init.nd rfl (Or.inl rfl)) (pss_one (ps_if (pt_cmpR op_gt (pe_callB call_abs (by rfl) T.u_abs PyProof.Rows.boot_abs (pa_cons (pv 4) pa_nil)) (pe_globE rfl T.v_MOST_ITEM) (nomark _)) (pss_one ps_never) pss_nil)))))
      (pss_cons (ps_for PassesOwn.never rfl (pi_range2 (by rfl) T.u_range (pa_cons pe_int (pa_cons (pe_op op_add (pe_callB (call_lenK (K := K)) (by rfl) T.u_len (by decide +kernel) (pa_cons (pv 2) pa_nil)) pe_int) pa_nil))) (pg_name (i := 5) sc_Lattice_init.nd rfl (Or.inr rfl)) (pss_one (ps_if (pt_cmpR op_lt (pe_mtG0 m_Grid_determinant hr (by decide) (pe_mkG k_Grid hr (by decide) rfl (pa_cons (pe_lc (own := [("row", 3)]) (g := gName 3) (tt := tYes) (by rfl) sc_Lattice_init.nd (pi_seqK (K := K) (pe_slice (sl_eitherK (K := K)) (pv 2) po_none (po_some (pv 5)))) (blkOk_by (N := ["self", "gram", "rows", "row", "item", "k"]) (sc := defScope s_Lattice_init) (own := [("row", 3)]) (by first | decide +kernel | kernel_rfl)) (fun _ _ _ _ _ => (pg_name (i := 3) sc_Lattice_init.nd rfl (Or.inl rfl))) (fun _ _ _ _ _ => pts_nil) (fun _ _ _ _ _ => (pe_slice (sl_eitherK (K := K)) (pv 3) po_none (po_some (pv 5))))) (pa_cons (pv 5) pa_nil)))) pe_int (nomark _)) (pss_one ps_never) pss_nil)))
      (pss_one (ps_fld (pv 0) (pe_mkG k_Grid1 hr (by decide) rfl (pa_cons (pv 2) pa_nil)) rfl)))))), ?_⟩
  rintro ds fs x dx F0 ⟨v_gram, y, rfl, h, rfl⟩
  refine w_at [.dat (eD (DV.box x)), .dat (v_gram.d), .un, .un, .un, .un] ?_
  unfold m_Lattice_init_S at h
  obtain ⟨v_rows2, h_v_rows2, h⟩ := bdO h
  refine q_seq (w_asg (i := 2) (ep_call (ap_cons (ep_var (i := 1) rfl) ap_nil) ⟨v_gram, v_rows2, rfl, h_v_rows2, rfl⟩) [.dat (eD (DV.box x)), .dat (v_gram.d), .dat (v_rows2.d), .un, .un, .un] ?_)
  obtain ⟨t3, h_t3, h⟩ := bdO h
  refine q_seq (w_drop (ep_call (ap_cons (ep_var (i := 2) rfl) ap_nil) ⟨v_rows2, t3, rfl, h_t3, rfl⟩) ?_)
  obtain ⟨s4005, h_s4005, h⟩ := bdO h
  refine q_seq (w_fold (fun q1 : Unit => [.dat (eD (DV.box x)), .dat (v_gram.d), .dat (v_rows2.d), .un, .un, .un]) () (sle_same (sle_same (sle_same (sle_same (sle_same (sle_same sle_nil)))))) (wl_seq (f := (fun p : Sq eI => p.d)) (sq_v (ep_var (i := 2) rfl))) h_s4005 (fun y1 q1 s' h => ?_) ?_)
  · refine w_at [.dat (eD (DV.box x)), .dat (v_gram.d), .dat (v_rows2.d), .dat (y1.d), .un, .un] ?_
    unfold m_Lattice_init_S_l1 at h
    obtain ⟨s4004, h_s4004, h⟩ := bdO h
    refine w_fold (fun q2 : Unit => [.dat (eD (DV.box x)), .dat (v_gram.d), .dat (v_rows2.d), .dat (y1.d), .un, .un]) () (sle_same (sle_same (sle_same (sle_same (sle_same (sle_same sle_nil)))))) (wl_seq (f := eI) (sq_v (ep_var (i := 3) rfl))) h_s4004 (fun y2 q2 s' h => ?_) ?_
    · refine w_at [.dat (eD (DV.box x)), .dat (v_gram.d), .dat (v_rows2.d), .dat (y1.d), .dat (eI y2), .un] ?_
      unfold m_Lattice_init_S_l2 at h
      refine w_if (tp_test (ep_gt (ep_abs (ep_var (i := 4) rfl)) ep_int)) (fun hb => ?_) (fun hb => ?_)
      · replace h := ifT hb h
        cases h
      · replace h := ifF hb h
        refine w_next ?_
        cases h
        exact (by repeat (first | exact sle_nil | refine sle_same ?_ | refine sle_un ?_))
    cases h
    exact (by repeat (first | exact sle_nil | refine sle_same ?_ | refine sle_un ?_))
  obtain ⟨t4006, h_t4006, h⟩ := bdO h
  obtain ⟨s7011, h_s7011, h⟩ := bdO h
  refine q_seq (w_fold (fun q3 : Unit => [.dat (eD (DV.box x)), .dat (v_gram.d), .dat (v_rows2.d), .un, .un, .un]) () (sle_same (sle_same (sle_same (sle_same (sle_same (sle_same sle_nil)))))) (wl_range2 ep_int (ep_add (ep_lenM (f := (fun p : Sq eI => p.d)) (ip_v (ep_var (i := 2) rfl))) ep_int) h_t4006) h_s7011 (fun y3 q3 s' h => ?_) ?_)
  · refine w_at [.dat (eD (DV.box x)), .dat (v_gram.d), .dat (v_rows2.d), .un, .un, .dat (eI y3)] ?_
    unfold m_Lattice_init_S_l3 at h
    obtain ⟨t7008, h_t7008, h⟩ := bdO h
    obtain ⟨t7009, h_t7009, h⟩ := bdO h
    obtain ⟨t7010, h_t7010, h⟩ := bdO h
    refine w_if (tp_test (ep_lt (ep_meth (ep_mk_Grid2 (Cl := C_Lattice) (ap_cons (LXp.ex (lp_lcA (e := (fun p : Sq eI => p.d)) (fun x7007 => [.dat (eD (DV.box x)), .dat (v_gram.d), .dat (v_rows2.d), .dat (x7007.d), .un, .dat (eI y3)]) (wl_seq (f := (fun p : Sq eI => p.d)) (sq_v (ep_slQ (ep_var (i := 2) rfl) op_none (op_some (ep_var (i := 5) rfl))))) h_t7008 (by decide) (fun x7007 _ h => by exact EXp.is (d := (Sq.cut x7007 none (some y3)).d) (ep_slQ (ep_var (i := 3) rfl) op_none (op_some (ep_var (i := 5) rfl))) (congrArg (fun p : Sq eI => p.d) (Option.some.inj h))))) (ap_cons (ep_var (i := 5) rfl) ap_nil)) h_t7009) rfl ap_nil (wit_det (Cl := C_Lattice) h_t7010)) ep_int)) (fun hb => ?_) (fun hb => ?_)
    · replace h := ifT hb h
      cases h
    · replace h := ifF hb h
      refine w_next ?_
      cases h
      exact (by repeat (first | exact sle_nil | refine sle_same ?_ | refine sle_un ?_))
  obtain ⟨t7012, h_t7012, h⟩ := bdO h
  cases h
  exact w_fld1 (fun _ _ z => z) rfl (ep_mk_Grid1 (Cl := C_Lattice) (ap_cons (ep_var (i := 2) rfl) ap_nil) h_t7012) T.cl_Lattice T.n_Lattice_gram ⟨rfl, rfl, rfl, rfl, rfl⟩
end
noncomputable def m_Lattice_init_G_l2  (x : Int) (s : Unit) : Option (Unit) := if (decide ((10000 : Int) < (if x < 0 then -x else x))) then none else some ()
noncomputable def m_Lattice_init_G_l1  (x : (List Int)) (s : Unit) : Option (Unit) := (foldO m_Lattice_init_G_l2 x ()).bind fun s2004 => some ()
noncomputable def m_Lattice_init_G_l3 (v_rows : (List (List Int))) (x : Int) (s : Unit) : Option (Unit) := (lcA (fun x4007 => some (cutL x4007 none (some x))) (cutL v_rows none (some x))).bind fun t4008 => (mk_Grid2 (Sq.L (fun p : Sq eI => p.d) (t4008.map (Sq.T eI))) x).bind fun t4009 => (m_Grid_determinant t4009).bind fun t4010 => if (decide (t4010 < (1 : Int))) then none else some ()
noncomputable def m_Lattice_init_G (v_gram : M_Grid) : Option M_Lattice := (m_square_rows_G v_gram).bind fun v_rows2 => (m_check_symmetric (Sq.T (fun p : Sq eI => p.d) (v_rows2.map (Sq.T eI)))).bind fun t3 => (foldO m_Lattice_init_G_l1 v_rows2 ()).bind fun s4005 => (rng2O (1 : Int) ((v_rows2.length : Int) + (1 : Int))).bind fun t4006 => (foldO (m_Lattice_init_G_l3 v_rows2) t4006 ()).bind fun s7011 => (mk_Grid1 (Sq.T (fun p : Sq eI => p.d) (v_rows2.map (Sq.T eI)))).bind fun t7012 => some ⟨t7012⟩
def R_Lattice_init_G (C_Grid : Addr) (C_Lattice : Addr) : List DV → List (Str × DV) → Prop := fun ds r => ∃ (v_gram : M_Grid) (y : M_Lattice), ds = [(e_Grid C_Grid C_Lattice) v_gram] ∧ m_Lattice_init_G v_gram = some y ∧ r = f_Lattice C_Grid C_Lattice y
section
variable {P : Program} {w : World} {K : PySem.W.Frag} {mg : Str → Option Value} {base : Heap} {C_Grid : Addr} {C_Lattice : Addr} {f : Addr} {fd : FuncData}
theorem ok_Lattice_init_G (F : FunD K "__init__" "Lattice.__init__" (defArgs s_Lattice_init) (defBody s_Lattice_init) (defScope s_Lattice_init) [] [] f fd) (T : Txt P K mg base C_Grid C_Lattice) (c_square_rows : CalG P w K mg base 3 "square_rows" (spD K (R_square_rows_G C_Grid C_Lattice)) []) (c_check_symmetric : CalG P w K mg base 2 "check_symmetric" (spD K (R_check_symmetric C_Grid C_Lattice)) []) (m_Grid_determinant : MetG P w K mg base 44 C_Grid "determinant" (spD K (rDetG C_Grid))) (k_Grid : MakG P w K mg base 6 "Grid" C_Grid (spI K C_Grid rInit) []) (k_Grid1 : MakG P w K mg base 6 "Grid" C_Grid (spI K C_Grid rInit) [.non]) : FnOk P w K mg base CX0 45 f fd ["self", "gram"] (spI K C_Lattice (R_Lattice_init_G C_Grid C_Lattice)) := by
  refine okWI F sc_Lattice_init (fun ds r h => by obtain ⟨v_gram, y, rfl, _⟩ := h; rfl) fun cdv A outer s H E hr => ⟨_, (pss_cons (ps_set (i := 2) sc_Lattice_init.nd rfl (Or.inl rfl) (pe_cG c_square_rows hr (by decide) rfl (pa_cons (pv 1) pa_nil)))
      (pss_cons (ps_expr (pe_cG c_check_symmetric hr (by decide) rfl (pa_cons (pv 2) pa_nil)))
      (pss_cons (ps_for PassesOwn.never rfl (pi_seqK (K := K) (pv 2)) (pg_name (i := 3) sc_Lattice_init.nd rfl (Or.inl rfl)) (pss_one (ps_for PassesOwn.never rfl (pi_seqK (K := K) (pv 3)) (pg_name (i := 4) sc_Lattice_init.nd rfl (Or.inl rfl)) (pss_one (ps_if (pt_cmpR op_gt (pe_callB call_abs (by rfl) T.u_abs PyProof.Rows.boot_abs (pa_cons (pv 4) pa_nil)) (pe_globE rfl T.v_MOST_ITEM) (nomark _)) (pss_one ps_never) pss_nil)))))
      (pss_cons (ps_for PassesOwn.never rfl (pi_range2 (by rfl) T.u_range (pa_cons pe_int (pa_cons (pe_op op_add (pe_callB (call_lenK (K := K)) (by rfl) T.u_len (by decide +kernel) (pa_cons (pv 2) pa_nil)) pe_int) pa_nil))) (pg_name (i := 5) sc_Lattice_init.nd rfl (Or.inr rfl)) (pss_one (ps_if (pt_cmpR op_lt (pe_mtG0 m_Grid_determinant hr (by decide) (pe_mkG k_Grid hr (by decide) rfl (pa_cons (pe_lc (own := [("row", 3)]) (g := gName 3) (tt := tYes) (by rfl) sc_Lattice_init.nd (pi_seqK (K := K) (pe_slice (sl_tupK (K := K)) (pv 2) po_none (po_some (pv 5)))) (blkOk_by (N := ["self", "gram", "rows", "row", "item", "k"]) (sc := defScope s_Lattice_init) (own := [("row", 3)]) (by first | decide +kernel | kernel_rfl)) (fun _ _ _ _ _ => (pg_name (i := 3) sc_Lattice_init.nd rfl (Or.inl rfl))) (fun _ _ _ _ _ => pts_nil) (fun _ _ _ _ _ => (pe_slice (sl_tupK (K := K)) (pv 3) po_none (po_some (pv 5))))) (pa_cons (pv 5) pa_nil)))) pe_int (nomark _)) (pss_one ps_never) pss_nil)))
      (pss_one (ps_fld (pv 0) (pe_mkG k_Grid1 hr (by decide) rfl (pa_cons (pv 2) pa_nil)) rfl)))))), ?_⟩
  rintro ds fs x dx F0 ⟨v_gram, y, rfl, h, rfl⟩
  refine w_at [.dat (eD (DV.box x)), .dat ((e_Grid C_Grid C_Lattice) v_gram), .un, .un, .un, .un] ?_
  unfold m_Lattice_init_G at h
  obtain ⟨v_rows2, h_v_rows2, h⟩ := bdO h
  refine q_seq (w_asg (i := 2) (ep_call (ap_cons (ep_var (i := 1) rfl) ap_nil) ⟨v_gram, v_rows2, rfl, h_v_rows2, rfl⟩) [.dat (eD (DV.box x)), .dat ((e_Grid C_Grid C_Lattice) v_gram), .dat ((eT (eT eI)) v_rows2), .un, .un, .un] ?_)
  obtain ⟨t3, h_t3, h⟩ := bdO h
  refine q_seq (w_drop (ep_call (ap_cons (EXp.is (ep_var (i := 2) rfl) (by simp [Sq.L, Sq.T, List.map_map, Function.comp_def])) ap_nil) ⟨(Sq.T (fun p : Sq eI => p.d) (v_rows2.map (Sq.T eI))), t3, rfl, h_t3, rfl⟩) ?_)
  obtain ⟨s4005, h_s4005, h⟩ := bdO h
  refine q_seq (w_fold (fun q1 : Unit => [.dat (eD (DV.box x)), .dat ((e_Grid C_Grid C_Lattice) v_gram), .dat ((eT (eT eI)) v_rows2), .un, .un, .un]) () (sle_same (sle_same (sle_same (sle_same (sle_same (sle_same sle_nil)))))) (wl_seq (f := (eT eI)) (sq_tup (ep_var (i := 2) rfl))) h_s4005 (fun y1 q1 s' h => ?_) ?_)
  · refine w_at [.dat (eD (DV.box x)), .dat ((e_Grid C_Grid C_Lattice) v_gram), .dat ((eT (eT eI)) v_rows2), .dat ((eT eI) y1), .un, .un] ?_
    unfold m_Lattice_init_G_l1 at h
    obtain ⟨s4004, h_s4004, h⟩ := bdO h
    refine w_fold (fun q2 : Unit => [.dat (eD (DV.box x)), .dat ((e_Grid C_Grid C_Lattice) v_gram), .dat ((eT (eT eI)) v_rows2), .dat ((eT eI) y1), .un, .un]) () (sle_same (sle_same (sle_same (sle_same (sle_same (sle_same sle_nil)))))) (wl_seq (f := eI) (sq_tup (ep_var (i := 3) rfl))) h_s4004 (fun y2 q2 s' h => ?_) ?_
    · refine w_at [.dat (eD (DV.box x)), .dat ((e_Grid C_Grid C_Lattice) v_gram), .dat ((eT (eT eI)) v_rows2), .dat ((eT eI) y1), .dat (eI y2), .un] ?_
      unfold m_Lattice_init_G_l2 at h
      refine w_if (tp_test (ep_gt (ep_abs (ep_var (i := 4) rfl)) ep_int)) (fun hb => ?_) (fun hb => ?_)
      · replace h := ifT hb h
        cases h
      · replace h := ifF hb h
        refine w_next ?_
        cases h
        exact (by repeat (first | exact sle_nil | refine sle_same ?_ | refine sle_un ?_))
    cases h
    exact (by repeat (first | exact sle_nil | refine sle_same ?_ | refine sle_un ?_))
  obtain ⟨t4006, h_t4006, h⟩ := bdO h
  obtain ⟨s7011, h_s7011, h⟩ := bdO h
  refine q_seq (w_fold (fun q3 : Unit => [.dat (eD (DV.box x)), .dat ((e_Grid C_Grid C_Lattice) v_gram), .dat ((eT (eT eI)) v_rows2), .un, .un, .un]) () (sle_same (sle_same (sle_same (sle_same (sle_same (sle_same sle_nil)))))) (wl_range2 ep_int (ep_add (ep_lenM (f := (eT eI)) (ip_tup (ep_var (i := 2) rfl))) ep_int) h_t4006) h_s7011 (fun y3 q3 s' h => ?_) ?_)
  · refine w_at [.dat (eD (DV.box x)), .dat ((e_Grid C_Grid C_Lattice) v_gram), .dat ((eT (eT eI)) v_rows2), .un, .un, .dat (eI y3)] ?_
    unfold m_Lattice_init_G_l3 at h
    obtain ⟨t7008, h_t7008, h⟩ := bdO h
    obtain ⟨t7009, h_t7009, h⟩ := bdO h
    obtain ⟨t7010, h_t7010, h⟩ := bdO h
    refine w_if (tp_test (ep_lt (ep_meth (ep_mk_Grid2 (Cl := C_Lattice) (ap_cons (EXp.is (LXp.ex (lp_lcA (e := (eT eI)) (fun x7007 => [.dat (eD (DV.box x)), .dat ((e_Grid C_Grid C_Lattice) v_gram), .dat ((eT (eT eI)) v_rows2), .dat ((eT eI) x7007), .un, .dat (eI y3)]) (wl_seq (f := (eT eI)) (sq_tup (ep_slT (f := (eT eI)) (ep_var (i := 2) rfl) op_none (op_some (ep_var (i := 5) rfl))))) h_t7008 (by decide) (fun x7007 _ h => by exact EXp.is (d := (eT eI) (cutL x7007 none (some y3))) (ep_slT (f := eI) (ep_var (i := 3) rfl) op_none (op_some (ep_var (i := 5) rfl))) (congrArg (eT eI) (Option.some.inj h))))) (by simp [Sq.L, Sq.T, List.map_map, Function.comp_def])) (ap_cons (ep_var (i := 5) rfl) ap_nil)) h_t7009) rfl ap_nil (wit_det (Cl := C_Lattice) h_t7010)) ep_int)) (fun hb => ?_) (fun hb => ?_)
    · replace h := ifT hb h
      cases h
    · replace h := ifF hb h
      refine w_next ?_
      cases h
      exact (by repeat (first | exact sle_nil | refine sle_same ?_ | refine sle_un ?_))
  obtain ⟨t7012, h_t7012, h⟩ := bdO h
  cases h
  exact w_fld1 (fun _ _ z => z) rfl (ep_mk_Grid1 (Cl := C_Lattice) (ap_cons (EXp.is (ep_var (i := 2) rfl) (by simp [Sq.L, Sq.T, List.map_map, Function.comp_def])) ap_nil) h_t7012) T.cl_Lattice T.n_Lattice_gram ⟨rfl, rfl, rfl, rfl, rfl⟩
end
noncomputable def m_Lattice_determinant (v_self : M_Lattice) : Option Int := (m_Grid_determinant v_self.gram).bind fun t1 => some t1
def R_Lattice_determinant (C_Grid : Addr) (C_Lattice : Addr) : List DV → DV → Prop := fun ds r => ∃ (v_self : M_Lattice) (y : Int), ds = [(e_Lattice C_Grid C_Lattice) v_self] ∧ m_Lattice_determinant v_self = some y ∧ r = eI y
section
variable {P : Program} {w : World} {K : PySem.W.Frag} {mg : Str → Option Value} {base : Heap} {C_Grid : Addr} {C_Lattice : Addr} {f : Addr} {fd : FuncData}
theorem ok_Lattice_determinant (F : Fun K "determinant" "Lattice.determinant" s_Lattice_determinant f fd) (T : Txt P K mg base C_Grid C_Lattice) (m_Grid_determinant : MetG P w K mg base 44 C_Grid "determinant" (spD K (rDetG C_Grid))) : FnOk P w K mg base CX0 45 f fd ["self"] (spD K (R_Lattice_determinant C_Grid C_Lattice)) := by
  refine okW F sc_Lattice_determinant (fun ds r h => by obtain ⟨v_self, y, rfl, _⟩ := h; rfl) fun cdv A outer s H E hr => ⟨_, (pss_one (ps_ret (pe_mtG0 m_Grid_determinant hr (by decide) (pe_fldK (K := K) (pv 0))))), ?_⟩
  rintro ds r ⟨v_self, y, rfl, h, rfl⟩
  refine w_at [.dat ((e_Lattice C_Grid C_Lattice) v_self)] ?_
  unfold m_Lattice_determinant at h
  obtain ⟨t1, h_t1, h⟩ := bdO h
  exact w_ret (d := eI t1) (ep_meth (ep_fld (ep_var (i := 0) rfl) T.cl_Lattice T.n_Lattice_gram rfl) rfl ap_nil (wit_det (Cl := C_Lattice) h_t1)) (congrArg eI (Option.some.inj h))
end
def R_Lattice (C_Grid : Addr) (C_Lattice : Addr) : List DV → List (Str × DV) → Prop := fun ds fs => R_Lattice_init_S C_Grid C_Lattice ds fs ∨ R_Lattice_init_G C_Grid C_Lattice ds fs
section
variable {K : PySem.W.Frag} {S : List SL} {tr : TA} {C_Grid C_Lattice : Addr} {y : M_Lattice}
theorem ep_mk_Lattice_S {p : Sq eSq} (hr : AXp K tr S [p.d]) (h : m_Lattice_init_S p = some y) : EXp K (tMake C_Lattice (spI K C_Lattice (R_Lattice C_Grid C_Lattice)) [] E0 tr) S (e_Lattice C_Grid C_Lattice y) := ep_make (dd := []) hr (fun _ => .nil) (.inl ⟨p, y, rfl, h, rfl⟩)
theorem ep_mk_Lattice_G {p : M_Grid} (hr : AXp K tr S [e_Grid C_Grid C_Lattice p]) (h : m_Lattice_init_G p = some y) : EXp K (tMake C_Lattice (spI K C_Lattice (R_Lattice C_Grid C_Lattice)) [] E0 tr) S (e_Lattice C_Grid C_Lattice y) := ep_make (dd := []) hr (fun _ => .nil) (.inr ⟨p, y, rfl, h, rfl⟩)
end
end G41
set_option Elab.async false
set_option linter.all false
set_option maxRecDepth 100000
set_option maxHeartbeats 4000000
namespace G41
open PySem PySem.Spec PyProof.Rows L2 Evl G
noncomputable def m_dual_basis (v_lattice : M_Lattice) : Option (M_Grid × Int) := (m_Grid_adjugate v_lattice.gram).bind fun t1 => (m_Grid_determinant v_lattice.gram).bind fun t2 => some (t1, t2)
def R_dual_basis (C_Grid : Addr) (C_Lattice : Addr) : List DV → DV → Prop := fun ds r => ∃ (v_lattice : M_Lattice) (y : (M_Grid × Int)), ds = [(e_Lattice C_Grid C_Lattice) v_lattice] ∧ m_dual_basis v_lattice = some y ∧ r = (eP (e_Grid C_Grid C_Lattice) eI) y
section
variable {P : Program} {w : World} {K : PySem.W.Frag} {mg : Str → Option Value} {base : Heap} {C_Grid : Addr} {C_Lattice : Addr} {f : Addr} {fd : FuncData}
theorem ok_dual_basis (F : Fun K "dual_basis" "dual_basis" s_dual_basis f fd) (T : Txt P K mg base C_Grid C_Lattice) (m_Grid_adjugate : MetG P w K mg base 44 C_Grid "adjugate" (spD K (rAdj C_Grid))) (m_Grid_determinant : MetG P w K mg base 44 C_Grid "determinant" (spD K (rDetG C_Grid))) : FnOk P w K mg base CX0 45 f fd ["lattice"] (spD K (R_dual_basis C_Grid C_Lattice)) := by
  refine okW F sc_dual_basis (fun ds r h => by obtain ⟨v_lattice, y, rfl, _⟩ := h; rfl) fun cdv A outer s H E hr => ⟨_, (pss_one (ps_ret (pe_tup (pa_cons (pe_mtG0 m_Grid_adjugate hr (by decide) (pe_fldK (K := K) (pv 0))) (pa_cons (pe_mtG0 m_Grid_determinant hr (by decide) (pe_fldK (K := K) (pv 0))) pa_nil))))), ?_⟩
  rintro ds r ⟨v_lattice, y, rfl, h, rfl⟩
  refine w_at [.dat ((e_Lattice C_Grid C_Lattice) v_lattice)] ?_
  unfold m_dual_basis at h
  obtain ⟨t1, h_t1, h⟩ := bdO h
  obtain ⟨t2, h_t2, h⟩ := bdO h
  exact w_ret (d := (eP (e_Grid C_Grid C_Lattice) eI) (t1, t2)) (ep_tup (ap_cons (ep_meth (ep_fld (ep_var (i := 0) rfl) T.cl_Lattice T.n_Lattice_gram rfl) rfl ap_nil (wit_adj (Cl := C_Lattice) h_t1)) (ap_cons (ep_meth (ep_fld (ep_var (i := 0) rfl) T.cl_Lattice T.n_Lattice_gram rfl) rfl ap_nil (wit_det (Cl := C_Lattice) h_t2)) ap_nil))) (congrArg (eP (e_Grid C_Grid C_Lattice) eI) (Option.some.inj h))
end
noncomputable def m_scaled_dual (v_lattice : M_Lattice) : Option M_Lattice := (m_Grid_adjugate v_lattice.gram).bind fun v_adjugate2 => (lcA (fun x3 => (m_content (Sq.T eI x3)).bind fun t4 => some t4) v_adjugate2.rows).bind fun t5 => (m_content (Sq.L eI t5)).bind fun v_common7 => (lcA (fun x8 => (lcA (fun x9 => (fdivO x9 v_common7).bind fun t10 => some t10) x8).bind fun t11 => some t11) v_adjugate2.rows).bind fun t12 => (mk_Grid2 (Sq.L (fun p : Sq eI => p.d) (t12.map (Sq.L eI))) v_adjugate2.width).bind fun t13 => (m_Lattice_init_G t13).bind fun t14 => some t14
def R_scaled_dual (C_Grid : Addr) (C_Lattice : Addr) : List DV → DV → Prop := fun ds r => ∃ (v_lattice : M_Lattice) (y : M_Lattice), ds = [(e_Lattice C_Grid C_Lattice) v_lattice] ∧ m_scaled_dual v_lattice = some y ∧ r = (e_Lattice C_Grid C_Lattice) y
section
variable {P : Program} {w : World} {K : PySem.W.Frag} {mg : Str → Option Value} {base : Heap} {C_Grid : Addr} {C_Lattice : Addr} {f : Addr} {fd : FuncData}
theorem ok_scaled_dual (F : Fun K "scaled_dual" "scaled_dual" s_scaled_dual f fd) (T : Txt P K mg base C_Grid C_Lattice) (m_Grid_adjugate : MetG P w K mg base 44 C_Grid "adjugate" (spD K (rAdj C_Grid))) (c_content_whole : CalG P w K mg base 2 "content_whole" (spD K (R_content C_Grid C_Lattice)) []) (k_Lattice : MakG P w K mg base 45 "Lattice" C_Lattice (spI K C_Lattice (R_Lattice C_Grid C_Lattice)) []) (k_Grid : MakG P w K mg base 6 "Grid" C_Grid (spI K C_Grid rInit) []) : FnOk P w K mg base CX0 47 f fd ["lattice"] (spD K (R_scaled_dual C_Grid C_Lattice)) := by
  refine okW F sc_scaled_dual (fun ds r h => by obtain ⟨v_lattice, y, rfl, _⟩ := h; rfl) fun cdv A outer s H E hr => ⟨_, (pss_cons (ps_set (i := 1) sc_scaled_dual.nd rfl (Or.inl rfl) (pe_mtG0 m_Grid_adjugate hr (by decide) (pe_fldK (K := K) (pv 0))))
      (pss_cons (ps_set (i := 2) sc_scaled_dual.nd rfl (Or.inr rfl) (pe_cG c_content_whole hr (by decide) rfl (pa_cons (pe_lc (own := [("row", 3)]) (g := gName 3) (tt := tYes) (by rfl) sc_scaled_dual.nd (pi_seqK (K := K) (pe_fldK (K := K) (pv 1))) (blkOk_by (N := ["lattice", "adjugate", "common", "row", "x"]) (sc := defScope s_scaled_dual) (own := [("row", 3)]) (by first | decide +kernel | kernel_rfl)) (fun _ _ _ _ _ => (pg_name (i := 3) sc_scaled_dual.nd rfl (Or.inl rfl))) (fun _ _ _ _ _ => pts_nil) (fun _ _ _ _ _ => (pe_cG c_content_whole hr (by decide) rfl (pa_cons (pv 3) pa_nil)))) pa_nil)))
      (pss_one (ps_ret (pe_mkG k_Lattice hr (by decide) rfl (pa_cons (pe_mkG k_Grid hr (by decide) rfl (pa_cons (pe_lc (own := [("row", 3)]) (g := gName 3) (tt := tYes) (by rfl) sc_scaled_dual.nd (pi_seqK (K := K) (pe_fldK (K := K) (pv 1))) (blkOk_by (N := ["lattice", "adjugate", "common", "row", "x"]) (sc := defScope s_scaled_dual) (own := [("row", 3)]) (by first | decide +kernel | kernel_rfl)) (fun _ _ _ _ _ => (pg_name (i := 3) sc_scaled_dual.nd rfl (Or.inl rfl))) (fun _ _ _ _ _ => pts_nil) (fun _ _ _ _ _ => (pe_lc (own := [("x", 4)]) (g := gName 4) (tt := tYes) (by rfl) sc_scaled_dual.nd (pi_seqK (K := K) (pv 3)) (blkOk_by (N := ["lattice", "adjugate", "common", "row", "x"]) (sc := _) (own := [("x", 4)]) (by first | decide +kernel | kernel_rfl)) (fun _ _ _ _ _ => (pg_name (i := 4) sc_scaled_dual.nd rfl (Or.inl rfl))) (fun _ _ _ _ _ => pts_nil) (fun _ _ _ _ _ => (pe_op (op_div T.sr T.tr hr (by decide) ⟨_, _, rfl, rfl, rfl, rfl, rfl⟩) (pv 4) (pv 2)))))) (pa_cons (pe_fldK (K := K) (pv 1)) pa_nil))) pa_nil)))))), ?_⟩
  rintro ds r ⟨v_lattice, y, rfl, h, rfl⟩
  refine w_at [.dat ((e_Lattice C_Grid C_Lattice) v_lattice), .un, .un, .un, .un] ?_
  unfold m_scaled_dual at h
  obtain ⟨v_adjugate2, h_v_adjugate2, h⟩ := bdO h
  refine q_seq (w_asg (i := 1) (ep_meth (ep_fld (ep_var (i := 0) rfl) T.cl_Lattice T.n_Lattice_gram rfl) rfl ap_nil (wit_adj (Cl := C_Lattice) h_v_adjugate2)) [.dat ((e_Lattice C_Grid C_Lattice) v_lattice), .dat ((e_Grid C_Grid C_Lattice) v_adjugate2), .un, .un, .un] ?_)
  obtain ⟨t5, h_t5, h⟩ := bdO h
  obtain ⟨v_common7, h_v_common7, h⟩ := bdO h
  refine q_seq (w_asg (i := 2) (ep_call (ap_cons (LXp.ex (lp_lcA (e := eI) (fun x3 => [.dat ((e_Lattice C_Grid C_Lattice) v_lattice), .dat ((e_Grid C_Grid C_Lattice) v_adjugate2), .un, .dat ((eT eI) x3), .un]) (wl_seq (f := (eT eI)) (sq_tup (ep_fld (ep_var (i := 1) rfl) T.cl_Grid T.n_Grid_rows rfl))) h_t5 (by decide) (fun x3 _ h => by obtain ⟨t4, h_t4, h⟩ := bdO h; exact EXp.is (d := eI t4) (ep_call (ap_cons (ep_var (i := 3) rfl) ap_nil) ⟨(Sq.T eI x3), t4, rfl, h_t4, rfl⟩) (congrArg eI (Option.some.inj h))))) ap_nil) ⟨(Sq.L eI t5), v_common7, rfl, h_v_common7, rfl⟩) [.dat ((e_Lattice C_Grid C_Lattice) v_lattice), .dat ((e_Grid C_Grid C_Lattice) v_adjugate2), .dat (eI v_common7), .un, .un] ?_)
  obtain ⟨t12, h_t12, h⟩ := bdO h
  obtain ⟨t13, h_t13, h⟩ := bdO h
  obtain ⟨t14, h_t14, h⟩ := bdO h
  exact w_ret (d := (e_Lattice C_Grid C_Lattice) t14) (ep_mk_Lattice_G (ap_cons (ep_mk_Grid2 (Cl := C_Lattice) (ap_cons (EXp.is (LXp.ex (lp_lcA (e := (eL eI)) (fun x8 => [.dat ((e_Lattice C_Grid C_Lattice) v_lattice), .dat ((e_Grid C_Grid C_Lattice) v_adjugate2), .dat (eI v_common7), .dat ((eT eI) x8), .un]) (wl_seq (f := (eT eI)) (sq_tup (ep_fld (ep_var (i := 1) rfl) T.cl_Grid T.n_Grid_rows rfl))) h_t12 (by decide) (fun x8 _ h => by obtain ⟨t11, h_t11, h⟩ := bdO h; exact EXp.is (d := (eL eI) t11) (LXp.ex (lp_lcA (e := eI) (fun x9 => [.dat ((e_Lattice C_Grid C_Lattice) v_lattice), .dat ((e_Grid C_Grid C_Lattice) v_adjugate2), .dat (eI v_common7), .dat ((eT eI) x8), .dat (eI x9)]) (wl_seq (f := eI) (sq_tup (ep_var (i := 3) rfl))) h_t11 (by decide) (fun x9 _ h => by obtain ⟨t10, h_t10, h⟩ := bdO h; exact EXp.is (d := eI t10) (ep_fdiv (ep_var (i := 4) rfl) (ep_var (i := 2) rfl) h_t10) (congrArg eI (Option.some.inj h))))) (congrArg (eL eI) (Option.some.inj h))))) (by simp [Sq.L, Sq.T, List.map_map, Function.comp_def])) (ap_cons (ep_fld (ep_var (i := 1) rfl) T.cl_Grid T.n_Grid_width rfl) ap_nil)) h_t13) ap_nil) h_t14) (congrArg (e_Lattice C_Grid C_Lattice) (Option.some.inj h))
end
noncomputable def m_rational (v_row : (List Int)) (v_e : Int) : Option ((List Int) × Int) := (m_content (Sq.T eI v_row)).bind fun t1 => (some ((Nat.gcd (v_e).natAbs (t1).natAbs : Nat) : Int)).bind fun v_common2 => (lcA (fun x3 => (fdivO x3 v_common2).bind fun t4 => some t4) v_row).bind fun t5 => (fdivO v_e v_common2).bind fun t6 => some (t5, t6)
def R_rational (C_Grid : Addr) (C_Lattice : Addr) : List DV → DV → Prop := fun ds r => ∃ (v_row : (List Int)) (v_e : Int) (y : ((List Int) × Int)), ds = [(eT eI) v_row, eI v_e] ∧ m_rational v_row v_e = some y ∧ r = (eP (eT eI) eI) y
section
variable {P : Program} {w : World} {K : PySem.W.Frag} {mg : Str → Option Value} {base : Heap} {C_Grid : Addr} {C_Lattice : Addr} {f : Addr} {fd : FuncData}
theorem ok_rational (F : Fun K "rational" "rational" s_rational f fd) (T : Txt P K mg base C_Grid C_Lattice) (c_content_whole : CalG P w K mg base 2 "content_whole" (spD K (R_content C_Grid C_Lattice)) []) : FnOk P w K mg base CX0 41 f fd ["row", "e"] (spD K (R_rational C_Grid C_Lattice)) := by
  refine okW F sc_rational (fun ds r h => by obtain ⟨v_row, v_e, y, rfl, _⟩ := h; rfl) fun cdv A outer s H E hr => ⟨_, (pss_cons (ps_set (i := 2) sc_rational.nd rfl (Or.inr rfl) (pe_callBfun cr_gcd rfl T.i_gcd (pa_cons (pv 1) (pa_cons (pe_cG c_content_whole hr (by decide) rfl (pa_cons (pv 0) pa_nil)) pa_nil))))
      (pss_one (ps_ret (pe_tup (pa_cons (pe_callTy (call_tupK (K := K)) (by rfl) T.u_tuple PyProof.Rows.boot_tuple (pa_cons (pe_lc (own := [("x", 3)]) (g := gName 3) (tt := tYes) (by rfl) sc_rational.nd (pi_seqK (K := K) (pv 0)) (blkOk_by (N := ["row", "e", "common", "x"]) (sc := defScope s_rational) (own := [("x", 3)]) (by first | decide +kernel | kernel_rfl)) (fun _ _ _ _ _ => (pg_name (i := 3) sc_rational.nd rfl (Or.inl rfl))) (fun _ _ _ _ _ => pts_nil) (fun _ _ _ _ _ => (pe_op (op_div T.sr T.tr hr (by decide) ⟨_, _, rfl, rfl, rfl, rfl, rfl⟩) (pv 3) (pv 2)))) pa_nil)) (pa_cons (pe_op (op_div T.sr T.tr hr (by decide) ⟨_, _, rfl, rfl, rfl, rfl, rfl⟩) (pv 1) (pv 2)) pa_nil)))))), ?_⟩
  rintro ds r ⟨v_row, v_e, y, rfl, h, rfl⟩
  refine w_at [.dat ((eT eI) v_row), .dat (eI v_e), .un, .un] ?_
  unfold m_rational at h
  obtain ⟨t1, h_t1, h⟩ := bdO h
  obtain ⟨v_common2, h_v_common2, h⟩ := bdO h
  refine q_seq (w_asg (i := 2) (EXp.is (e := eI v_common2) (ep_gcd (ep_var (i := 1) rfl) (ep_call (ap_cons (ep_var (i := 0) rfl) ap_nil) ⟨(Sq.T eI v_row), t1, rfl, h_t1, rfl⟩)) (by cases h_v_common2; rfl)) [.dat ((eT eI) v_row), .dat (eI v_e), .dat (eI v_common2), .un] ?_)
  obtain ⟨t5, h_t5, h⟩ := bdO h
  obtain ⟨t6, h_t6, h⟩ := bdO h
  exact w_ret (d := (eP (eT eI) eI) (t5, t6)) (ep_tup (ap_cons (ep_tuple (ip_new (lp_lcA (e := eI) (fun x3 => [.dat ((eT eI) v_row), .dat (eI v_e), .dat (eI v_common2), .dat (eI x3)]) (wl_seq (f := eI) (sq_tup (ep_var (i := 0) rfl))) h_t5 (by decide) (fun x3 _ h => by obtain ⟨t4, h_t4, h⟩ := bdO h; exact EXp.is (d := eI t4) (ep_fdiv (ep_var (i := 3) rfl) (ep_var (i := 2) rfl) h_t4) (congrArg eI (Option.some.inj h)))))) (ap_cons (ep_fdiv (ep_var (i := 1) rfl) (ep_var (i := 2) rfl) h_t6) ap_nil))) (congrArg (eP (eT eI) eI) (Option.some.inj h))
end
noncomputable def m_rational_product (v_lattice : M_Lattice) (v_x : ((List Int) × Int)) (v_y : ((List Int) × Int)) : Option (Int × Int) := (m_Grid_before v_lattice.gram (Sq.T eI v_x.1)).bind fun t1 => (m_dot (Sq.T eI t1) (Sq.T eI v_y.1)).bind fun v_top3 => (mulO v_x.2 v_y.2).bind fun v_low5 => (some ((Nat.gcd (v_top3).natAbs (v_low5).natAbs : Nat) : Int)).bind fun v_common6 => (fdivO v_top3 v_common6).bind fun t7 => (fdivO v_low5 v_common6).bind fun t8 => some (t7, t8)
def R_rational_product (C_Grid : Addr) (C_Lattice : Addr) : List DV → DV → Prop := fun ds r => ∃ (v_lattice : M_Lattice) (v_x : ((List Int) × Int)) (v_y : ((List Int) × Int)) (y : (Int × Int)), ds = [(e_Lattice C_Grid C_Lattice) v_lattice, (eP (eT eI) eI) v_x, (eP (eT eI) eI) v_y] ∧ m_rational_product v_lattice v_x v_y = some y ∧ r = (eP eI eI) y
section
variable {P : Program} {w : World} {K : PySem.W.Frag} {mg : Str → Option Value} {base : Heap} {C_Grid : Addr} {C_Lattice : Addr} {f : Addr} {fd : FuncData}
theorem ok_rational_product (F : Fun K "rational_product" "rational_product" s_rational_product f fd) (T : Txt P K mg base C_Grid C_Lattice) (c_dot : CalG P w K mg base 2 "dot" (spD K (R_dot C_Grid C_Lattice)) []) (m_Grid_before : MetG P w K mg base 3 C_Grid "before" (spD K (R_Grid_before C_Grid C_Lattice))) : FnOk P w K mg base CX0 41 f fd ["lattice", "x", "y"] (spD K (R_rational_product C_Grid C_Lattice)) := by
  refine okW F sc_rational_product (fun ds r h => by obtain ⟨v_lattice, v_x, v_y, y, rfl, _⟩ := h; rfl) fun cdv A outer s H E hr => ⟨_, (pss_cons (ps_set (i := 3) sc_rational_product.nd rfl (Or.inl rfl) (pe_cG c_dot hr (by decide) rfl (pa_cons (pe_mtG m_Grid_before hr (by decide) (pe_fldK (K := K) (pv 0)) (pa_cons (pe_ix (ix_seqK (K := K)) (pv 1) pe_int (fun _ _ => rfl)) pa_nil)) (pa_cons (pe_ix (ix_seqK (K := K)) (pv 2) pe_int (fun _ _ => rfl)) pa_nil))))
      (pss_cons (ps_set (i := 4) sc_rational_product.nd rfl (Or.inl rfl) (pe_op op_mulB (pe_ix (ix_seqK (K := K)) (pv 1) pe_int (fun _ _ => rfl)) (pe_ix (ix_seqK (K := K)) (pv 2) pe_int (fun _ _ => rfl))))
      (pss_cons (ps_set (i := 5) sc_rational_product.nd rfl (Or.inl rfl) (pe_callBfun cr_gcd rfl T.i_gcd (pa_cons (pv 3) (pa_cons (pv 4) pa_nil))))
      (pss_one (ps_ret (pe_tup (pa_cons (pe_op (op_div T.sr T.tr hr (by decide) ⟨_, _, rfl, rfl, rfl, rfl, rfl⟩) (pv 3) (pv 5)) (pa_cons (pe_op (op_div T.sr T.tr hr (by decide) ⟨_, _, rfl, rfl, rfl, rfl, rfl⟩) (pv 4) (pv 5)) pa_nil)))))))), ?_⟩
  rintro ds r ⟨v_lattice, v_x, v_y, y, rfl, h, rfl⟩
  refine w_at [.dat ((e_Lattice C_Grid C_Lattice) v_lattice), .dat ((eP (eT eI) eI) v_x), .dat ((eP (eT eI) eI) v_y), .un, .un, .un] ?_
  unfold m_rational_product at h
  obtain ⟨t1, h_t1, h⟩ := bdO h
  obtain ⟨v_top3, h_v_top3, h⟩ := bdO h
  refine q_seq (w_asg (i := 3) (ep_call (ap_cons (ep_meth (ep_fld (ep_var (i := 0) rfl) T.cl_Lattice T.n_Lattice_gram rfl) rfl (ap_cons (ep_ixD (ip_tup (ep_var (i := 1) rfl)) ep_int rfl) ap_nil) ⟨v_lattice.gram, (Sq.T eI v_x.1), t1, rfl, h_t1, rfl⟩) (ap_cons (ep_ixD (ip_tup (ep_var (i := 2) rfl)) ep_int rfl) ap_nil)) ⟨(Sq.T eI t1), (Sq.T eI v_y.1), v_top3, rfl, h_v_top3, rfl⟩) [.dat ((e_Lattice C_Grid C_Lattice) v_lattice), .dat ((eP (eT eI) eI) v_x), .dat ((eP (eT eI) eI) v_y), .dat (eI v_top3), .un, .un] ?_)
  obtain ⟨v_low5, h_v_low5, h⟩ := bdO h
  refine q_seq (w_asg (i := 4) (ep_mul (ep_ixD (ip_tup (ep_var (i := 1) rfl)) ep_int rfl) (ep_ixD (ip_tup (ep_var (i := 2) rfl)) ep_int rfl) h_v_low5) [.dat ((e_Lattice C_Grid C_Lattice) v_lattice), .dat ((eP (eT eI) eI) v_x), .dat ((eP (eT eI) eI) v_y), .dat (eI v_top3), .dat (eI v_low5), .un] ?_)
  obtain ⟨v_common6, h_v_common6, h⟩ := bdO h
  refine q_seq (w_asg (i := 5) (EXp.is (e := eI v_common6) (ep_gcd (ep_var (i := 3) rfl) (ep_var (i := 4) rfl)) (by cases h_v_common6; rfl)) [.dat ((e_Lattice C_Grid C_Lattice) v_lattice), .dat ((eP (eT eI) eI) v_x), .dat ((eP (eT eI) eI) v_y), .dat (eI v_top3), .dat (eI v_low5), .dat (eI v_common6)] ?_)
  obtain ⟨t7, h_t7, h⟩ := bdO h
  obtain ⟨t8, h_t8, h⟩ := bdO h
  exact w_ret (d := (eP eI eI) (t7, t8)) (ep_tup (ap_cons (ep_fdiv (ep_var (i := 3) rfl) (ep_var (i := 5) rfl) h_t7) (ap_cons (ep_fdiv (ep_var (i := 4) rfl) (ep_var (i := 5) rfl) h_t8) ap_nil))) (congrArg (eP eI eI) (Option.some.inj h))
end
noncomputable def m_is_in_dual (v_lattice : M_Lattice) (v_vector : ((List Int) × Int)) : Option Bool := (m_Grid_before v_lattice.gram (Sq.T eI v_vector.1)).bind fun t1 => (lcO (fun x2 => (modO x2 v_vector.2).bind fun t3 => some (!decide (t3 = (0 : Int)))) (fun x2 => some x2) t1).bind fun t4 => some (decide ((t4.length : Int) = (0 : Int)))
def R_is_in_dual (C_Grid : Addr) (C_Lattice : Addr) : List DV → DV → Prop := fun ds r => ∃ (v_lattice : M_Lattice) (v_vector : ((List Int) × Int)) (y : Bool), ds = [(e_Lattice C_Grid C_Lattice) v_lattice, (eP (eT eI) eI) v_vector] ∧ m_is_in_dual v_lattice v_vector = some y ∧ r = eB y
section
variable {P : Program} {w : World} {K : PySem.W.Frag} {mg : Str → Option Value} {base : Heap} {C_Grid : Addr} {C_Lattice : Addr} {f : Addr} {fd : FuncData}
theorem ok_is_in_dual (F : Fun K "is_in_dual" "is_in_dual" s_is_in_dual f fd) (T : Txt P K mg base C_Grid C_Lattice) (m_Grid_before : MetG P w K mg base 3 C_Grid "before" (spD K (R_Grid_before C_Grid C_Lattice))) : FnOk P w K mg base CX0 4 f fd ["lattice", "vector"] (spD K (R_is_in_dual C_Grid C_Lattice)) := by
  refine okW F sc_is_in_dual (fun ds r h => by obtain ⟨v_lattice, v_vector, y, rfl, _⟩ := h; rfl) fun cdv A outer s H E hr => ⟨_, (pss_cons (ps_asg (pv 1) (pg_tup rfl (pgs_cons (pg_name (i := 2) sc_is_in_dual.nd rfl (Or.inl rfl)) (pgs_cons (pg_name (i := 3) sc_is_in_dual.nd rfl (Or.inr rfl)) pgs_nil))))
      (pss_one (ps_ret (pe_cmpR op_eq (pe_callB (call_lenK (K := K)) (by rfl) T.u_len (by decide +kernel) (pa_cons (pe_lc (own := [("x", 4)]) (g := gName 4) (by rfl) sc_is_in_dual.nd (pi_seqK (K := K) (pe_mtG m_Grid_before hr (by decide) (pe_fldK (K := K) (pv 0)) (pa_cons (pv 2) pa_nil))) (blkOk_by (N := ["lattice", "vector", "row", "e", "x"]) (sc := defScope s_is_in_dual) (own := [("x", 4)]) (by first | decide +kernel | kernel_rfl)) (fun _ _ _ _ _ => (pg_name (i := 4) sc_is_in_dual.nd rfl (Or.inl rfl))) (fun _ _ _ _ _ => (pts_one (pt_cmpR op_ne (pe_op op_modN (pv 4) (pv 3)) pe_int (nomark _)))) (fun _ _ _ _ _ => (pv 4))) pa_nil)) pe_int (nomark _))))), ?_⟩
  rintro ds r ⟨v_lattice, v_vector, y, rfl, h, rfl⟩
  refine w_at [.dat ((e_Lattice C_Grid C_Lattice) v_lattice), .dat ((eP (eT eI) eI) v_vector), .un, .un, .un] ?_
  unfold m_is_in_dual at h
  refine q_seq (w_tup2 (ep_var (i := 1) rfl) [.dat ((e_Lattice C_Grid C_Lattice) v_lattice), .dat ((eP (eT eI) eI) v_vector), .dat ((eT eI) v_vector.1), .dat (eI v_vector.2), .un] ?_)
  obtain ⟨t1, h_t1, h⟩ := bdO h
  obtain ⟨t4, h_t4, h⟩ := bdO h
  exact w_ret (d := eB (decide ((t4.length : Int) = (0 : Int)))) (ep_eqI (ep_lenM (f := eI) (ip_new (lp_lcM (e := eI) (fun x2 => [.dat ((e_Lattice C_Grid C_Lattice) v_lattice), .dat ((eP (eT eI) eI) v_vector), .dat ((eT eI) v_vector.1), .dat (eI v_vector.2), .dat (eI x2)]) (wl_seq (f := eI) (sq_tup (ep_meth (ep_fld (ep_var (i := 0) rfl) T.cl_Lattice T.n_Lattice_gram rfl) rfl (ap_cons (ep_var (i := 2) rfl) ap_nil) ⟨v_lattice.gram, (Sq.T eI v_vector.1), t1, rfl, h_t1, rfl⟩))) h_t4 (by decide) (fun x2 _ h => by obtain ⟨t3, h_t3, h⟩ := bdO h; exact TXp.is (a := (!decide (t3 = (0 : Int)))) (tp_test (ep_neI (ep_mod (ep_var (i := 4) rfl) (ep_var (i := 3) rfl) h_t3) ep_int)) (Option.some.inj h)) (fun x2 _ h => by exact EXp.is (d := eI x2) (ep_var (i := 4) rfl) (congrArg eI (Option.some.inj h)))))) ep_int) (congrArg eB (Option.some.inj h))
end
end G41
set_option Elab.async false
set_option linter.all false
set_option maxRecDepth 100000
set_option maxHeartbeats 4000000
namespace G41
open PySem PySem.Spec PyProof.Rows L2 Evl G
noncomputable def m_law_state_l1  (x : Int) (s : Int × Int) : Option (Int × Int) := (mulO s.1 (1000003 : Int)).bind fun t1 => (some (t1 + (if x < 0 then -x else x))).bind fun v_seed2 => (mulO s.2 (48271 : Int)).bind fun t3 => (modO (t3 + x) (2147483647 : Int)).bind fun v_total5 => some (v_seed2, v_total5)
noncomputable def m_law_state (v_script : (List Int)) : Option (List Int) := (foldO m_law_state_l1 (cutL v_script none (some (63 : Int))) ((0 : Int), (1 : Int))).bind fun s1006 => some ([s1006.1, s1006.2] : List Int)
def R_law_state (C_Grid : Addr) (C_Lattice : Addr) : List DV → List DV → Prop := fun ds r => ∃ (v_script : (List Int)) (y : (List Int)), ds = [(eL eI) v_script] ∧ m_law_state v_script = some y ∧ r = y.map eI
section
variable {P : Program} {w : World} {K : PySem.W.Frag} {mg : Str → Option Value} {base : Heap} {C_Grid : Addr} {C_Lattice : Addr} {f : Addr} {fd : FuncData}
theorem ok_law_state (F : Fun K "_law_state" "_law_state" s_law_state f fd) (T : Txt P K mg base C_Grid C_Lattice) : FnOk P w K mg base CX0 2 f fd ["script"] (spL K (R_law_state C_Grid C_Lattice)) := by
  refine okWL F sc_law_state (fun ds r h => by obtain ⟨v_script, y, rfl, _⟩ := h; rfl) fun cdv A outer s H E hr => ⟨_, (pss_cons (ps_set (i := 1) sc_law_state.nd rfl (Or.inl rfl) pe_int)
      (pss_cons (ps_set (i := 2) sc_law_state.nd rfl (Or.inl rfl) pe_int)
      (pss_cons (ps_for PassesOwn.never rfl (pi_seqK (K := K) (pe_slice (sl_listK (K := K)) (pv 0) po_none (po_some pe_int))) (pg_name (i := 3) sc_law_state.nd rfl (Or.inl rfl)) (pss_cons (ps_set (i := 1) sc_law_state.nd rfl (Or.inl rfl) (pe_op op_add (pe_op op_mulB (pv 1) pe_int) (pe_callB call_abs (by rfl) T.u_abs PyProof.Rows.boot_abs (pa_cons (pv 3) pa_nil))))
      (pss_one (ps_set (i := 2) sc_law_state.nd rfl (Or.inl rfl) (pe_op op_modN (pe_callTy call_int1 (by rfl) T.u_int PyProof.Rows.boot_int (pa_cons (pe_op op_add (pe_op op_mulB (pv 2) pe_int) (pv 3)) pa_nil)) pe_int)))))
      (pss_one (ps_ret (pe_lst (pa_cons (pv 1) (pa_cons (pv 2) pa_nil)))))))), ?_⟩
  rintro ds r ⟨v_script, y, rfl, h, rfl⟩
  refine w_at [.dat ((eL eI) v_script), .un, .un, .un] ?_
  unfold m_law_state at h
  refine q_seq (w_asg (i := 1) ep_int [.dat ((eL eI) v_script), .dat (eI (0 : Int)), .un, .un] ?_)
  refine q_seq (w_asg (i := 2) ep_int [.dat ((eL eI) v_script), .dat (eI (0 : Int)), .dat (eI (1 : Int)), .un] ?_)
  obtain ⟨s1006, h_s1006, h⟩ := bdO h
  refine q_seq (w_fold (fun q1 : Int × Int => [.dat ((eL eI) v_script), .dat (eI q1.1), .dat (eI q1.2), .un]) ((0 : Int), (1 : Int)) (sle_same (sle_same (sle_same (sle_same sle_nil)))) (wl_seq (f := eI) (sq_lst (LXp.ex (lp_sl (f := eI) (ep_var (i := 0) rfl) op_none (op_some ep_int))))) h_s1006 (fun y1 q1 s' h => ?_) ?_)
  · refine w_at [.dat ((eL eI) v_script), .dat (eI q1.1), .dat (eI q1.2), .dat (eI y1)] ?_
    unfold m_law_state_l1 at h
    obtain ⟨t1001, h_t1001, h⟩ := bdO h
    obtain ⟨v_seed1002, h_v_seed1002, h⟩ := bdO h
    refine q_seq (w_asg (i := 1) (EXp.is (e := eI v_seed1002) (ep_add (ep_mul (ep_var (i := 1) rfl) ep_int h_t1001) (ep_abs (ep_var (i := 3) rfl))) (by cases h_v_seed1002; rfl)) [.dat ((eL eI) v_script), .dat (eI v_seed1002), .dat (eI q1.2), .dat (eI y1)] ?_)
    obtain ⟨t1003, h_t1003, h⟩ := bdO h
    obtain ⟨v_total1005, h_v_total1005, h⟩ := bdO h
    refine w_asg (i := 2) (ep_mod (ep_toI (ep_add (ep_mul (ep_var (i := 2) rfl) ep_int h_t1003) (ep_var (i := 3) rfl))) ep_int h_v_total1005) [.dat ((eL eI) v_script), .dat (eI v_seed1002), .dat (eI v_total1005), .dat (eI y1)] ?_
    cases h
    exact (by repeat (first | exact sle_nil | refine sle_same ?_ | refine sle_un ?_))
  exact w_retL (LXp.is (es := ([s1006.1, s1006.2] : List Int).map eI) (lp_lst (ap_cons (ep_var (i := 1) rfl) (ap_cons (ep_var (i := 2) rfl) ap_nil))) rfl) (congrArg (fun z => z.map eI) (Option.some.inj h))
end
noncomputable def m_law_take (v_state : (List Int)) (v_m : Int) : Option (Int × (List Int)) := (L2.atI v_state (0 : Int)).bind fun t1 => if (decide ((0 : Int) < t1)) then (L2.atI v_state (0 : Int)).bind fun t2 => (modO t2 v_m).bind fun v_value4 => (L2.atI v_state (0 : Int)).bind fun t5 => (fdivO t5 v_m).bind fun t6 => (setO v_state (0 : Int) t6).bind fun v_state7 => some (v_value4, v_state7) else (L2.atI v_state (1 : Int)).bind fun t8 => (mulO t8 (48271 : Int)).bind fun t9 => (modO (t9 + (11 : Int)) (2147483647 : Int)).bind fun t10 => (setO v_state (1 : Int) t10).bind fun v_state11 => (L2.atI v_state11 (1 : Int)).bind fun t12 => (fdivO t12 (7 : Int)).bind fun t13 => (modO t13 v_m).bind fun t14 => some (t14, v_state11)
def R_law_take (C_Grid : Addr) (C_Lattice : Addr) : List DV → List DV → List DV → DV → Prop := fun s ds s' r => ∃ (v_state : (List Int)) (v_m : Int) (y : Int) (z : (List Int)), s = v_state.map eI ∧ ds = [eI v_m] ∧ m_law_take v_state v_m = some (y, z) ∧ s' = z.map eI ∧ r = eI y
section
variable {P : Program} {w : World} {K : PySem.W.Frag} {mg : Str → Option Value} {base : Heap} {C_Grid : Addr} {C_Lattice : Addr} {f : Addr} {fd : FuncData}
theorem ok_law_take (F : Fun K "_law_take" "_law_take" s_law_take f fd) (T : Txt P K mg base C_Grid C_Lattice) : FnOk P w K mg base CX0 41 f fd ["state", "m"] (spS K (R_law_take C_Grid C_Lattice)) := by
  refine okWS F sc_law_take (fun s ds s' r h => by obtain ⟨v_state, v_m, y, z, _, rfl, _⟩ := h; rfl) (by decide) fun cdv A outer s H E hr => ⟨_, (pss_cons (ps_if (pt_cmpR op_gt (pe_ix (ix_seqK (K := K)) (pv 0) pe_int (fun _ _ => rfl)) pe_int (nomark _)) (pss_cons (ps_set (i := 2) sc_law_take.nd rfl (Or.inl rfl) (pe_op op_modN (pe_callTy call_int1 (by rfl) T.u_int PyProof.Rows.boot_int (pa_cons (pe_ix (ix_seqK (K := K)) (pv 0) pe_int (fun _ _ => rfl)) pa_nil)) (pv 1)))
      (pss_cons (ps_asg (pe_op (op_div T.sr T.tr hr (by decide) ⟨_, _, rfl, rfl, rfl, rfl, rfl⟩) (pe_ix (ix_seqK (K := K)) (pv 0) pe_int (fun _ _ => rfl)) (pv 1)) (pg_sub (pv 0) pe_int set_list))
      (pss_one (ps_ret (pv 2))))) pss_nil)
      (pss_cons (ps_asg (pe_op op_modN (pe_callTy call_int1 (by rfl) T.u_int PyProof.Rows.boot_int (pa_cons (pe_op op_add (pe_op op_mulB (pe_ix (ix_seqK (K := K)) (pv 0) pe_int (fun _ _ => rfl)) pe_int) pe_int) pa_nil)) pe_int) (pg_sub (pv 0) pe_int set_list))
      (pss_one (ps_ret (pe_op op_modN (pe_callTy call_int1 (by rfl) T.u_int PyProof.Rows.boot_int (pa_cons (pe_op (op_div T.sr T.tr hr (by decide) ⟨_, _, rfl, rfl, rfl, rfl, rfl⟩) (pe_ix (ix_seqK (K := K)) (pv 0) pe_int (fun _ _ => rfl)) pe_int) pa_nil)) (pv 1)))))), ?_⟩
  rintro s0 ds s1 r ⟨v_state, v_m, y, z, rfl, rfl, h, rfl, rfl⟩
  refine w_at [.own (v_state.map eI), .dat (eI v_m), .un] ?_
  unfold m_law_take at h
  obtain ⟨t1, h_t1, h⟩ := bdO h
  refine q_seq (w_if (tp_test (ep_gt (ep_ix (f := eI) (ip_own (i := 0) rfl) ep_int h_t1) ep_int)) (fun hb => ?_) (fun hb => ?_))
  · replace h := ifT hb h
    obtain ⟨t2, h_t2, h⟩ := bdO h
    obtain ⟨v_value4, h_v_value4, h⟩ := bdO h
    refine q_seq (w_asg (i := 2) (ep_mod (ep_toI (ep_ix (f := eI) (ip_own (i := 0) rfl) ep_int h_t2)) (ep_var (i := 1) rfl) h_v_value4) [.own (v_state.map eI), .dat (eI v_m), .dat (eI v_value4)] ?_)
    obtain ⟨t5, h_t5, h⟩ := bdO h
    obtain ⟨t6, h_t6, h⟩ := bdO h
    obtain ⟨v_state7, h_v_state7, h⟩ := bdO h
    refine q_seq (w_setL (i := 0) (f := eI) rfl (ep_fdiv (ep_ix (f := eI) (ip_own (i := 0) rfl) ep_int h_t5) (ep_var (i := 1) rfl) h_t6) ep_int h_v_state7 [.own (v_state7.map eI), .dat (eI v_m), .dat (eI v_value4)] ?_)
    have he1 := congrArg Prod.fst (Option.some.inj h); have he2 := congrArg Prod.snd (Option.some.inj h); dsimp only at he1 he2
    exact w_ret (d := eI v_value4) (ep_var (i := 2) rfl) ⟨congrArg eI he1, by rw [← he2]; rfl⟩
  · replace h := ifF hb h
    refine w_next ?_
    obtain ⟨t8, h_t8, h⟩ := bdO h
    obtain ⟨t9, h_t9, h⟩ := bdO h
    obtain ⟨t10, h_t10, h⟩ := bdO h
    obtain ⟨v_state11, h_v_state11, h⟩ := bdO h
    refine q_seq (w_setL (i := 0) (f := eI) rfl (ep_mod (ep_toI (ep_add (ep_mul (ep_ix (f := eI) (ip_own (i := 0) rfl) ep_int h_t8) ep_int h_t9) ep_int)) ep_int h_t10) ep_int h_v_state11 [.own (v_state11.map eI), .dat (eI v_m), .un] ?_)
    obtain ⟨t12, h_t12, h⟩ := bdO h
    obtain ⟨t13, h_t13, h⟩ := bdO h
    obtain ⟨t14, h_t14, h⟩ := bdO h
    have he1 := congrArg Prod.fst (Option.some.inj h); have he2 := congrArg Prod.snd (Option.some.inj h); dsimp only at he1 he2
    exact w_ret (d := eI t14) (ep_mod (ep_toI (ep_fdiv (ep_ix (f := eI) (ip_own (i := 0) rfl) ep_int h_t12) ep_int h_t13)) (ep_var (i := 1) rfl) h_t14) ⟨congrArg eI he1, by rw [← he2]; rfl⟩
end
noncomputable def m_law_rows_l1 (v_width : Int) (v_most : Int) (x : Int) (s : (List (List Int)) × (List Int)) : Option ((List (List Int)) × (List Int)) := (rngO v_width).bind fun t3 => (lcS (fun x4 s5 => (mulO (2 : Int) v_most).bind fun t6 => (m_law_take s5 (t6 + (1 : Int))).bind fun t7 => some ((t7.1 - v_most), t7.2)) t3 s.2).bind fun t8 => (appO s.1 t8.1).bind fun v_rows9 => some (v_rows9, t8.2)
noncomputable def m_law_rows (v_state : (List Int)) (v_height : Int) (v_width : Int) (v_most : Int) : Option ((List (List Int)) × (List Int)) := (some ([] : List (List Int))).bind fun v_rows1 => (rngO v_height).bind fun t2 => (foldO (m_law_rows_l1 v_width v_most) t2 (v_rows1, v_state)).bind fun s1010 => (if (decide ((1 : Int) < v_height)) then (m_law_take s1010.2 (5 : Int)).bind fun t1011 => some ((decide (t1011.1 = (0 : Int))), t1011.2) else some (false, s1010.2)).bind fun t1012 => (if t1012.1 then (rngO v_width).bind fun t1013 => (lcA (fun x1014 => (L2.atI s1010.1 (0 : Int)).bind fun t1015 => (L2.atI t1015 x1014).bind fun t1016 => (mulO t1016 (2 : Int)).bind fun t1017 => some t1017) t1013).bind fun t1018 => (setO s1010.1 (v_height - (1 : Int)) t1018).bind fun v_rows1019 => some v_rows1019 else some s1010.1).bind fun s1020 => some (s1020, t1012.2)
def R_law_rows (C_Grid : Addr) (C_Lattice : Addr) : List DV → List DV → List DV → DV → Prop := fun s ds s' r => ∃ (v_state : (List Int)) (v_height : Int) (v_width : Int) (v_most : Int) (y : (List (List Int))) (z : (List Int)), s = v_state.map eI ∧ ds = [eI v_height, eI v_width, eI v_most] ∧ m_law_rows v_state v_height v_width v_most = some (y, z) ∧ s' = z.map eI ∧ r = (eT (eT eI)) y
section
variable {P : Program} {w : World} {K : PySem.W.Frag} {mg : Str → Option Value} {base : Heap} {C_Grid : Addr} {C_Lattice : Addr} {f : Addr} {fd : FuncData}
theorem ok_law_rows (F : Fun K "_law_rows" "_law_rows" s_law_rows f fd) (T : Txt P K mg base C_Grid C_Lattice) (c_law_take : CalG P w K mg base 41 "_law_take" (spS K (R_law_take C_Grid C_Lattice)) []) : FnOk P w K mg base CX0 42 f fd ["state", "height", "width", "most"] (spS K (R_law_rows C_Grid C_Lattice)) := by
  refine okWS F sc_law_rows (fun s ds s' r h => by obtain ⟨v_state, v_height, v_width, v_most, y, z, _, rfl, _⟩ := h; rfl) (by decide) fun cdv A outer s H E hr => ⟨_, (pss_cons (ps_set (i := 4) sc_law_rows.nd rfl (Or.inr rfl) (pe_lst pa_nil))
      (pss_cons (ps_for PassesOwn.never rfl (pi_range1 (by rfl) T.u_range (pa_cons (pv 1) pa_nil)) (pg_name (i := 5) sc_law_rows.nd rfl (Or.inl rfl)) (pss_one (ps_expr (pe_bm PySem.F.plainAttrs_list PySem.F.slot_list_append PySem.F.type_list_append mt_append (pv 4) (pa_cons (pe_callTy (call_tupK (K := K)) (by rfl) T.u_tuple PyProof.Rows.boot_tuple (pa_cons (pe_lc (own := [("k", 6)]) (g := gName 6) (tt := tYes) (by rfl) sc_law_rows.nd (pi_range1 (by rfl) T.u_range (pa_cons (pv 2) pa_nil)) (blkOk_by (N := ["state", "height", "width", "most", "rows", "i", "k"]) (sc := defScope s_law_rows) (own := [("k", 6)]) (by first | decide +kernel | kernel_rfl)) (fun _ _ _ _ _ => (pg_name (i := 6) sc_law_rows.nd rfl (Or.inl rfl))) (fun _ _ _ _ _ => pts_nil) (fun _ _ _ _ _ => (pe_op op_sub (pe_cG c_law_take hr (by decide) rfl (pa_cons (pv 0) (pa_cons (pe_op op_add (pe_op op_mulB pe_int (pv 3)) pe_int) pa_nil))) (pv 3)))) pa_nil)) pa_nil)))))
      (pss_cons (ps_if (PW.pt (pw_and (pt_cmpR op_gt (pv 1) pe_int (nomark _)) (pw_and1 (pt_cmpR op_eq (pe_cG c_law_take hr (by decide) rfl (pa_cons (pv 0) (pa_cons pe_int pa_nil))) pe_int (nomark _))))) (pss_one (ps_asg (pe_callTy (call_tupK (K := K)) (by rfl) T.u_tuple PyProof.Rows.boot_tuple (pa_cons (pe_lc (own := [("k", 6)]) (g := gName 6) (tt := tYes) (by rfl) sc_law_rows.nd (pi_range1 (by rfl) T.u_range (pa_cons (pv 2) pa_nil)) (blkOk_by (N := ["state", "height", "width", "most", "rows", "i", "k"]) (sc := defScope s_law_rows) (own := [("k", 6)]) (by first | decide +kernel | kernel_rfl)) (fun _ _ _ _ _ => (pg_name (i := 6) sc_law_rows.nd rfl (Or.inl rfl))) (fun _ _ _ _ _ => pts_nil) (fun _ _ _ _ _ => (pe_op op_mulB (pe_ix (ix_seqK (K := K)) (pe_ix (ix_seqK (K := K)) (pv 4) pe_int (fun _ _ => rfl)) (pv 6) (fun _ _ => rfl)) pe_int))) pa_nil)) (pg_sub (pv 4) (pe_op op_sub (pv 1) pe_int) set_list))) pss_nil)
      (pss_one (ps_ret (pe_callTy (call_tupK (K := K)) (by rfl) T.u_tuple PyProof.Rows.boot_tuple (pa_cons (pv 4) pa_nil))))))), ?_⟩
  rintro s0 ds s1 r ⟨v_state, v_height, v_width, v_most, y, z, rfl, rfl, h, rfl, rfl⟩
  refine w_at [.own (v_state.map eI), .dat (eI v_height), .dat (eI v_width), .dat (eI v_most), .un, .un, .un] ?_
  unfold m_law_rows at h
  obtain ⟨v_rows1, h_v_rows1, h⟩ := bdO h
  refine q_seq (w_asgL (i := 4) (LXp.is (es := v_rows1.map (eT eI)) (LXp.is (es := ([] : List (List Int)).map (eT eI)) (lp_lst ap_nil) rfl) (by cases h_v_rows1; rfl)) [.own (v_state.map eI), .dat (eI v_height), .dat (eI v_width), .dat (eI v_most), .own (v_rows1.map (eT eI)), .un, .un] ?_)
  obtain ⟨t2, h_t2, h⟩ := bdO h
  obtain ⟨s1010, h_s1010, h⟩ := bdO h
  refine q_seq (w_fold (fun q1 : (List (List Int)) × (List Int) => [.own (q1.2.map eI), .dat (eI v_height), .dat (eI v_width), .dat (eI v_most), .own (q1.1.map (eT eI)), .un, .un]) (v_rows1, v_state) (sle_same (sle_same (sle_same (sle_same (sle_same (sle_same (sle_same sle_nil))))))) (wl_range1 (ep_var (i := 1) rfl) h_t2) h_s1010 (fun y1 q1 s' h => ?_) ?_)
  · refine w_at [.own (q1.2.map eI), .dat (eI v_height), .dat (eI v_width), .dat (eI v_most), .own (q1.1.map (eT eI)), .dat (eI y1), .un] ?_
    unfold m_law_rows_l1 at h
    obtain ⟨t1003, h_t1003, h⟩ := bdO h
    obtain ⟨t1008, h_t1008, h⟩ := bdO h
    obtain ⟨v_rows1009, h_v_rows1009, h⟩ := bdO h
    refine w_appq (i := 4) (f := (eT eI)) (eq_tuple (lq_lcS (k := 0) (eg := eI) (e := eI) [.own (t1008.2.map eI), .dat (eI v_height), .dat (eI v_width), .dat (eI v_most), .own (q1.1.map (eT eI)), .dat (eI y1), .un] (fun x1004 s1005 => [.own (s1005.map eI), .dat (eI v_height), .dat (eI v_width), .dat (eI v_most), .own (q1.1.map (eT eI)), .dat (eI y1), .dat (eI x1004)]) rfl (wl_range1 (ep_var (i := 2) rfl) h_t1003) (by exact h_t1008) (by decide) rfl (fun x1004 s1005 _ _ h => by obtain ⟨t1006, h_t1006, h⟩ := bdO h; obtain ⟨t1007, h_t1007, h⟩ := bdO h; cases h; exact (eq_sub (eq_callS (i := 0) [.own (t1007.2.map eI), .dat (eI v_height), .dat (eI v_width), .dat (eI v_most), .own (q1.1.map (eT eI)), .dat (eI y1), .dat (eI x1004)] rfl (ap_cons (ep_add (ep_mul ep_int (ep_var (i := 3) rfl) h_t1006) ep_int) ap_nil) ⟨s1005, (t1006 + (1 : Int)), t1007.1, t1007.2, rfl, rfl, h_t1007, rfl, rfl⟩) (eq_p (ep_var (i := 3) rfl)))))) rfl rfl h_v_rows1009 [.own (t1008.2.map eI), .dat (eI v_height), .dat (eI v_width), .dat (eI v_most), .own (v_rows1009.map (eT eI)), .dat (eI y1), .un] ?_
    cases h
    exact (by repeat (first | exact sle_nil | refine sle_same ?_ | refine sle_un ?_))
  obtain ⟨t1012, h_t1012, h⟩ := bdO h
  obtain ⟨s1020, h_s1020, h⟩ := bdO h
  refine q_cut [.own (t1012.2.map eI), .dat (eI v_height), .dat (eI v_width), .dat (eI v_most), .own (s1020.map (eT eI)), .un, .un] (w_ifq (tq_andM (i := 0) (f := eI) [.own (t1012.2.map eI), .dat (eI v_height), .dat (eI v_width), .dat (eI v_most), .own (s1010.1.map (eT eI)), .un, .un] rfl (tp_test (ep_gt (ep_var (i := 1) rfl) ep_int)) (by exact h_t1012) (fun hb _ _ h => by obtain ⟨t1011, h_t1011, h⟩ := bdO h; cases h; exact (tq_test (eq_eqI (eq_callS (i := 0) [.own (t1011.2.map eI), .dat (eI v_height), .dat (eI v_width), .dat (eI v_most), .own (s1010.1.map (eT eI)), .un, .un] rfl (ap_cons ep_int ap_nil) ⟨s1010.2, (5 : Int), t1011.1, t1011.2, rfl, rfl, h_t1011, rfl, rfl⟩) (eq_p ep_int))))) (fun hb => ?_) (fun hb => ?_)) ?_
  · replace h := ifT hb h_s1020
    obtain ⟨t1013, h_t1013, h⟩ := bdO h
    obtain ⟨t1018, h_t1018, h⟩ := bdO h
    obtain ⟨v_rows1019, h_v_rows1019, h⟩ := bdO h
    refine w_setL (i := 4) (f := (eT eI)) rfl (ep_tuple (ip_new (lp_lcA (e := eI) (fun x1014 => [.own (t1012.2.map eI), .dat (eI v_height), .dat (eI v_width), .dat (eI v_most), .own (s1010.1.map (eT eI)), .un, .dat (eI x1014)]) (wl_range1 (ep_var (i := 2) rfl) h_t1013) h_t1018 (by decide) (fun x1014 _ h => by obtain ⟨t1015, h_t1015, h⟩ := bdO h; obtain ⟨t1016, h_t1016, h⟩ := bdO h; obtain ⟨t1017, h_t1017, h⟩ := bdO h; exact EXp.is (d := eI t1017) (ep_mul (ep_ix (f := eI) (ip_tup (ep_ix (f := (eT eI)) (ip_own (i := 4) rfl) ep_int h_t1015)) (ep_var (i := 6) rfl) h_t1016) ep_int h_t1017) (congrArg eI (Option.some.inj h)))))) (ep_sub (ep_var (i := 1) rfl) ep_int) h_v_rows1019 [.own (t1012.2.map eI), .dat (eI v_height), .dat (eI v_width), .dat (eI v_most), .own (v_rows1019.map (eT eI)), .un, .un] ?_
    cases h
    exact (by repeat (first | exact sle_nil | refine sle_same ?_ | refine sle_un ?_))
  · replace h := ifF hb h_s1020
    refine w_next ?_
    cases h
    exact (by repeat (first | exact sle_nil | refine sle_same ?_ | refine sle_un ?_))
  have he1 := congrArg Prod.fst (Option.some.inj h); have he2 := congrArg Prod.snd (Option.some.inj h); dsimp only at he1 he2
  exact w_ret (d := (eT (eT eI)) s1020) (ep_tuple (ip_own (i := 4) rfl)) ⟨congrArg (eT (eT eI)) he1, by rw [← he2]; rfl⟩
end
noncomputable def m_law_gram_l2 (v_a : (List (List Int))) (v_i : Int) (x : Int) (s : (List Int) × (List Int)) : Option ((List Int) × (List Int)) := (L2.atI v_a v_i).bind fun t7 => (L2.atI v_a x).bind fun t8 => (lcA (fun x9 => (mulO x9.1 x9.2).bind fun t10 => some t10) (List.zip t7 t8)).bind fun t11 => (m_law_take s.2 (3 : Int)).bind fun t12 => (mulO t12.1 (if (decide (v_i = (0 : Int))) then (1 : Int) else 0)).bind fun t13 => (mulO (if (decide (v_i = x)) then (1 : Int) else 0) ((1 : Int) + t13)).bind fun t14 => (appO s.1 (t11.sum + t14)).bind fun v_line15 => some (v_line15, t12.2)
noncomputable def m_law_gram_l1 (v_n : Int) (v_a : (List (List Int))) (x : Int) (s : (List Int) × (List (List Int))) : Option ((List Int) × (List (List Int))) := (some ([] : List Int)).bind fun v_line5 => (rngO v_n).bind fun t6 => (foldO (m_law_gram_l2 v_a x) t6 (v_line5, s.1)).bind fun s2016 => (appO s.2 s2016.1).bind fun v_rows2018 => some (s2016.2, v_rows2018)
noncomputable def m_law_gram (v_state : (List Int)) (v_most : Int) : Option ((List (List Int)) × (List Int)) := (m_law_take v_state v_most).bind fun t1 => (m_law_rows t1.2 ((1 : Int) + t1.1) ((1 : Int) + t1.1) (1 : Int)).bind fun t2 => (some ([] : List (List Int))).bind fun v_rows3 => (rngO ((1 : Int) + t1.1)).bind fun t4 => (foldO (m_law_gram_l1 ((1 : Int) + t1.1) t2.1) t4 (t2.2, v_rows3)).bind fun s4019 => some (s4019.2, s4019.1)
def R_law_gram (C_Grid : Addr) (C_Lattice : Addr) : List DV → List DV → List DV → DV → Prop := fun s ds s' r => ∃ (v_state : (List Int)) (v_most : Int) (y : (List (List Int))) (z : (List Int)), s = v_state.map eI ∧ ds = [eI v_most] ∧ m_law_gram v_state v_most = some (y, z) ∧ s' = z.map eI ∧ r = (eL (eL eI)) y
section
variable {P : Program} {w : World} {K : PySem.W.Frag} {mg : Str → Option Value} {base : Heap} {C_Grid : Addr} {C_Lattice : Addr} {f : Addr} {fd : FuncData}
theorem ok_law_gram (F : Fun K "_law_gram" "_law_gram" s_law_gram f fd) (T : Txt P K mg base C_Grid C_Lattice) (c_law_take : CalG P w K mg base 41 "_law_take" (spS K (R_law_take C_Grid C_Lattice)) []) (c_law_rows : CalG P w K mg base 42 "_law_rows" (spS K (R_law_rows C_Grid C_Lattice)) []) : FnOk P w K mg base CX0 43 f fd ["state", "most"] (spS K (R_law_gram C_Grid C_Lattice)) := by
  refine okWS F sc_law_gram (fun s ds s' r h => by obtain ⟨v_state, v_most, y, z, _, rfl, _⟩ := h; rfl) (by decide) fun cdv A outer s H E hr => ⟨_, (pss_cons (ps_set (i := 2) sc_law_gram.nd rfl (Or.inl rfl) (pe_op op_add pe_int (pe_cG c_law_take hr (by decide) rfl (pa_cons (pv 0) (pa_cons (pv 1) pa_nil)))))
      (pss_cons (ps_set (i := 3) sc_law_gram.nd rfl (Or.inl rfl) (pe_cG c_law_rows hr (by decide) rfl (pa_cons (pv 0) (pa_cons (pv 2) (pa_cons (pv 2) (pa_cons pe_int pa_nil))))))
      (pss_cons (ps_set (i := 4) sc_law_gram.nd rfl (Or.inl rfl) (pe_lst pa_nil))
      (pss_cons (ps_for PassesOwn.never rfl (pi_range1 (by rfl) T.u_range (pa_cons (pv 2) pa_nil)) (pg_name (i := 5) sc_law_gram.nd rfl (Or.inl rfl)) (pss_cons (ps_set (i := 6) sc_law_gram.nd rfl (Or.inl rfl) (pe_lst pa_nil))
      (pss_cons (ps_for PassesOwn.never rfl (pi_range1 (by rfl) T.u_range (pa_cons (pv 2) pa_nil)) (pg_name (i := 7) sc_law_gram.nd rfl (Or.inl rfl)) (pss_one (ps_expr (pe_bm PySem.F.plainAttrs_list PySem.F.slot_list_append PySem.F.type_list_append mt_append (pv 6) (pa_cons (pe_op op_add (pe_callB (cr_sumK (K := K)) (by rfl) T.u_sum PyProof.Rows.boot_sum (pa_cons (pe_lc (own := [("x", 8), ("y", 9)]) (g := gTup K 2 (gCons (gName 8) (gCons (gName 9) gNil))) (tt := tYes) (by rfl) sc_law_gram.nd (pi_zK (K := K) (by rfl) T.u_zip (pa_cons (pe_ix (ix_seqK (K := K)) (pv 3) (pv 5) (fun _ _ => rfl)) (pa_cons (pe_ix (ix_seqK (K := K)) (pv 3) (pv 7) (fun _ _ => rfl)) pa_nil))) (blkOk_by (N := ["state", "most", "n", "a", "rows", "i", "line", "k", "x", "y"]) (sc := defScope s_law_gram) (own := [("x", 8), ("y", 9)]) (by first | decide +kernel | kernel_rfl)) (fun _ _ _ _ _ => (pg_tup rfl (pgs_cons (pg_name (i := 8) sc_law_gram.nd rfl (Or.inl rfl)) (pgs_cons (pg_name (i := 9) sc_law_gram.nd rfl (Or.inl rfl)) pgs_nil)))) (fun _ _ _ _ _ => pts_nil) (fun _ _ _ _ _ => (pe_op op_mulB (pv 8) (pv 9)))) pa_nil)) (pe_op op_mulB (pe_callTy call_int1 (by rfl) T.u_int PyProof.Rows.boot_int (pa_cons (pe_cmpR op_eq (pv 5) (pv 7) (nomark _)) pa_nil)) (pe_op op_add pe_int (pe_op op_mulB (pe_cG c_law_take hr (by decide) rfl (pa_cons (pv 0) (pa_cons pe_int pa_nil))) (pe_callTy call_int1 (by rfl) T.u_int PyProof.Rows.boot_int (pa_cons (pe_cmpR op_eq (pv 5) pe_int (nomark _)) pa_nil)))))) pa_nil)))))
      (pss_one (ps_expr (pe_bm PySem.F.plainAttrs_list PySem.F.slot_list_append PySem.F.type_list_append mt_append (pv 4) (pa_cons (pv 6) pa_nil)))))))
      (pss_one (ps_ret (pv 4))))))), ?_⟩
  rintro s0 ds s1 r ⟨v_state, v_most, y, z, rfl, rfl, h, rfl, rfl⟩
  refine w_at [.own (v_state.map eI), .dat (eI v_most), .un, .un, .un, .un, .un, .un, .un, .un] ?_
  unfold m_law_gram at h
  obtain ⟨t1, h_t1, h⟩ := bdO h
  refine q_seq (w_asgq (eq_add (eq_p ep_int) (eq_callS (i := 0) [.own (t1.2.map eI), .dat (eI v_most), .un, .un, .un, .un, .un, .un, .un, .un] rfl (ap_cons (ep_var (i := 1) rfl) ap_nil) ⟨v_state, v_most, t1.1, t1.2, rfl, rfl, h_t1, rfl, rfl⟩)) [.own (t1.2.map eI), .dat (eI v_most), .dat (eI ((1 : Int) + t1.1)), .un, .un, .un, .un, .un, .un, .un] ?_)
  obtain ⟨t2, h_t2, h⟩ := bdO h
  refine q_seq (w_asgq (eq_callS (i := 0) [.own (t2.2.map eI), .dat (eI v_most), .dat (eI ((1 : Int) + t1.1)), .un, .un, .un, .un, .un, .un, .un] rfl (ap_cons (ep_var (i := 2) rfl) (ap_cons (ep_var (i := 2) rfl) (ap_cons ep_int ap_nil))) ⟨t1.2, ((1 : Int) + t1.1), ((1 : Int) + t1.1), (1 : Int), t2.1, t2.2, rfl, rfl, h_t2, rfl, rfl⟩) [.own (t2.2.map eI), .dat (eI v_most), .dat (eI ((1 : Int) + t1.1)), .dat ((eT (eT eI)) t2.1), .un, .un, .un, .un, .un, .un] ?_)
  obtain ⟨v_rows3, h_v_rows3, h⟩ := bdO h
  refine q_seq (w_asgL (i := 4) (LXp.is (es := v_rows3.map (eL eI)) (LXp.is (es := ([] : List (List Int)).map (eL eI)) (lp_lst ap_nil) rfl) (by cases h_v_rows3; rfl)) [.own (t2.2.map eI), .dat (eI v_most), .dat (eI ((1 : Int) + t1.1)), .dat ((eT (eT eI)) t2.1), .own (v_rows3.map (eL eI)), .un, .un, .un, .un, .un] ?_)
  obtain ⟨t4, h_t4, h⟩ := bdO h
  obtain ⟨s4019, h_s4019, h⟩ := bdO h
  refine q_seq (w_fold (fun q1 : (List Int) × (List (List Int)) => [.own (q1.1.map eI), .dat (eI v_most), .dat (eI ((1 : Int) + t1.1)), .dat ((eT (eT eI)) t2.1), .own (q1.2.map (eL eI)), .un, .un, .un, .un, .un]) (t2.2, v_rows3) (sle_same (sle_same (sle_same (sle_same (sle_same (sle_same (sle_same (sle_same (sle_same (sle_same sle_nil)))))))))) (wl_range1 (ep_var (i := 2) rfl) h_t4) h_s4019 (fun y1 q1 s' h => ?_) ?_)
  · refine w_at [.own (q1.1.map eI), .dat (eI v_most), .dat (eI ((1 : Int) + t1.1)), .dat ((eT (eT eI)) t2.1), .own (q1.2.map (eL eI)), .dat (eI y1), .un, .un, .un, .un] ?_
    unfold m_law_gram_l1 at h
    obtain ⟨v_line2005, h_v_line2005, h⟩ := bdO h
    refine q_seq (w_asgL (i := 6) (LXp.is (es := v_line2005.map eI) (LXp.is (es := ([] : List Int).map eI) (lp_lst ap_nil) rfl) (by cases h_v_line2005; rfl)) [.own (q1.1.map eI), .dat (eI v_most), .dat (eI ((1 : Int) + t1.1)), .dat ((eT (eT eI)) t2.1), .own (q1.2.map (eL eI)), .dat (eI y1), .own (v_line2005.map eI), .un, .un, .un] ?_)
    obtain ⟨t2006, h_t2006, h⟩ := bdO h
    obtain ⟨s4016, h_s4016, h⟩ := bdO h
    refine q_seq (w_fold (fun q2 : (List Int) × (List Int) => [.own (q2.2.map eI), .dat (eI v_most), .dat (eI ((1 : Int) + t1.1)), .dat ((eT (eT eI)) t2.1), .own (q1.2.map (eL eI)), .dat (eI y1), .own (q2.1.map eI), .un, .un, .un]) (v_line2005, q1.1) (sle_same (sle_same (sle_same (sle_same (sle_same (sle_same (sle_same (sle_same (sle_same (sle_same sle_nil)))))))))) (wl_range1 (ep_var (i := 2) rfl) h_t2006) h_s4016 (fun y2 q2 s' h => ?_) ?_)
    · refine w_at [.own (q2.2.map eI), .dat (eI v_most), .dat (eI ((1 : Int) + t1.1)), .dat ((eT (eT eI)) t2.1), .own (q1.2.map (eL eI)), .dat (eI y1), .own (q2.1.map eI), .dat (eI y2), .un, .un] ?_
      unfold m_law_gram_l2 at h
      obtain ⟨t4007, h_t4007, h⟩ := bdO h
      obtain ⟨t4008, h_t4008, h⟩ := bdO h
      obtain ⟨t4011, h_t4011, h⟩ := bdO h
      obtain ⟨t4012, h_t4012, h⟩ := bdO h
      obtain ⟨t4013, h_t4013, h⟩ := bdO h
      obtain ⟨t4014, h_t4014, h⟩ := bdO h
      obtain ⟨v_line4015, h_v_line4015, h⟩ := bdO h
      refine w_appq (i := 6) (f := eI) (eq_add (eq_p (ep_sum (LXp.ex (lp_lcA (e := eI) (fun x4009 => [.own (q2.2.map eI), .dat (eI v_most), .dat (eI ((1 : Int) + t1.1)), .dat ((eT (eT eI)) t2.1), .own (q1.2.map (eL eI)), .dat (eI y1), .own (q2.1.map eI), .dat (eI y2), .dat (eI x4009.1), .dat (eI x4009.2)]) (wl_zip (f := eI) (g := eI) (sq_tup (ep_ix (f := (eT eI)) (ip_tup (ep_var (i := 3) rfl)) (ep_var (i := 5) rfl) h_t4007)) (sq_tup (ep_ix (f := (eT eI)) (ip_tup (ep_var (i := 3) rfl)) (ep_var (i := 7) rfl) h_t4008))) h_t4011 (by decide) (fun x4009 _ h => by obtain ⟨t4010, h_t4010, h⟩ := bdO h; exact EXp.is (d := eI t4010) (ep_mul (ep_var (i := 8) rfl) (ep_var (i := 9) rfl) h_t4010) (congrArg eI (Option.some.inj h))))))) (eq_mul (eq_p (ep_toB (ep_eqI (ep_var (i := 5) rfl) (ep_var (i := 7) rfl)))) (eq_add (eq_p ep_int) (eq_mul (eq_callS (i := 0) [.own (t4012.2.map eI), .dat (eI v_most), .dat (eI ((1 : Int) + t1.1)), .dat ((eT (eT eI)) t2.1), .own (q1.2.map (eL eI)), .dat (eI y1), .own (q2.1.map eI), .dat (eI y2), .un, .un] rfl (ap_cons ep_int ap_nil) ⟨q2.2, (3 : Int), t4012.1, t4012.2, rfl, rfl, h_t4012, rfl, rfl⟩) (eq_p (ep_toB (ep_eqI (ep_var (i := 5) rfl) ep_int))) h_t4013)) h_t4014)) rfl rfl h_v_line4015 [.own (t4012.2.map eI), .dat (eI v_most), .dat (eI ((1 : Int) + t1.1)), .dat ((eT (eT eI)) t2.1), .own (q1.2.map (eL eI)), .dat (eI y1), .own (v_line4015.map eI), .dat (eI y2), .un, .un] ?_
      cases h
      exact (by repeat (first | exact sle_nil | refine sle_same ?_ | refine sle_un ?_))
    refine w_free (i := 6) rfl [.own (s4016.2.map eI), .dat (eI v_most), .dat (eI ((1 : Int) + t1.1)), .dat ((eT (eT eI)) t2.1), .own (q1.2.map (eL eI)), .dat (eI y1), .dat ((eL eI) s4016.1), .un, .un, .un] ?_
    obtain ⟨v_rows4018, h_v_rows4018, h⟩ := bdO h
    refine w_app (i := 4) (f := (eL eI)) rfl (ep_var (i := 6) rfl) h_v_rows4018 [.own (s4016.2.map eI), .dat (eI v_most), .dat (eI ((1 : Int) + t1.1)), .dat ((eT (eT eI)) t2.1), .own (v_rows4018.map (eL eI)), .dat (eI y1), .dat ((eL eI) s4016.1), .un, .un, .un] ?_
    cases h
    exact (by repeat (first | exact sle_nil | refine sle_same ?_ | refine sle_un ?_))
  refine w_free (i := 4) rfl [.own (s4019.1.map eI), .dat (eI v_most), .dat (eI ((1 : Int) + t1.1)), .dat ((eT (eT eI)) t2.1), .dat ((eL (eL eI)) s4019.2), .un, .un, .un, .un, .un] ?_
  have he1 := congrArg Prod.fst (Option.some.inj h); have he2 := congrArg Prod.snd (Option.some.inj h); dsimp only at he1 he2
  exact w_ret (d := (eL (eL eI)) s4019.2) (ep_var (i := 4) rfl) ⟨congrArg (eL (eL eI)) he1, by rw [← he2]; rfl⟩
end
noncomputable def m_law_form_l2 (v_gram : (List (List Int))) (v_x : (List Int)) (v_y : (List Int)) (v_i : Int) (x : Int) (s : Int) : Option (Int) := (L2.atI v_x v_i).bind fun t3 => (L2.atI v_gram v_i).bind fun t4 => (L2.atI t4 x).bind fun t5 => (mulO t3 t5).bind fun t6 => (L2.atI v_y x).bind fun t7 => (mulO t6 t7).bind fun t8 => (some (s + t8)).bind fun v_total9 => some v_total9
noncomputable def m_law_form_l1 (v_gram : (List (List Int))) (v_x : (List Int)) (v_y : (List Int)) (x : Int) (s : Int) : Option (Int) := (rngO (v_gram.length : Int)).bind fun t2 => (foldO (m_law_form_l2 v_gram v_x v_y x) t2 s).bind fun s2010 => some s2010
noncomputable def m_law_form (v_gram : (List (List Int))) (v_x : (List Int)) (v_y : (List Int)) : Option Int := (rngO (v_gram.length : Int)).bind fun t1 => (foldO (m_law_form_l1 v_gram v_x v_y) t1 (0 : Int)).bind fun s4011 => some s4011
def R_law_form (C_Grid : Addr) (C_Lattice : Addr) : List DV → DV → Prop := fun ds r => ∃ (v_gram : (List (List Int))) (v_x : (List Int)) (v_y : (List Int)) (y : Int), ds = [(eL (eL eI)) v_gram, (eT eI) v_x, (eT eI) v_y] ∧ m_law_form v_gram v_x v_y = some y ∧ r = eI y
section
variable {P : Program} {w : World} {K : PySem.W.Frag} {mg : Str → Option Value} {base : Heap} {C_Grid : Addr} {C_Lattice : Addr} {f : Addr} {fd : FuncData}
theorem ok_law_form (F : Fun K "_law_form" "_law_form" s_law_form f fd) (T : Txt P K mg base C_Grid C_Lattice) : FnOk P w K mg base CX0 2 f fd ["gram", "x", "y"] (spD K (R_law_form C_Grid C_Lattice)) := by
  refine okW F sc_law_form (fun ds r h => by obtain ⟨v_gram, v_x, v_y, y, rfl, _⟩ := h; rfl) fun cdv A outer s H E hr => ⟨_, (pss_cons (ps_set (i := 3) sc_law_form.nd rfl (Or.inl rfl) pe_int)
      (pss_cons (ps_for PassesOwn.never rfl (pi_range1 (by rfl) T.u_range (pa_cons (pe_callB (call_lenK (K := K)) (by rfl) T.u_len (by decide +kernel) (pa_cons (pv 0) pa_nil)) pa_nil)) (pg_name (i := 4) sc_law_form.nd rfl (Or.inl rfl)) (pss_one (ps_for PassesOwn.never rfl (pi_range1 (by rfl) T.u_range (pa_cons (pe_callB (call_lenK (K := K)) (by rfl) T.u_len (by decide +kernel) (pa_cons (pv 0) pa_nil)) pa_nil)) (pg_name (i := 5) sc_law_form.nd rfl (Or.inl rfl)) (pss_one (ps_set (i := 3) sc_law_form.nd rfl (Or.inl rfl) (pe_op op_add (pv 3) (pe_op op_mulB (pe_op op_mulB (pe_ix (ix_seqK (K := K)) (pv 1) (pv 4) (fun _ _ => rfl)) (pe_ix (ix_seqK (K := K)) (pe_ix (ix_seqK (K := K)) (pv 0) (pv 4) (fun _ _ => rfl)) (pv 5) (fun _ _ => rfl))) (pe_ix (ix_seqK (K := K)) (pv 2) (pv 5) (fun _ _ => rfl)))))))))
      (pss_one (ps_ret (pv 3))))), ?_⟩
  rintro ds r ⟨v_gram, v_x, v_y, y, rfl, h, rfl⟩
  refine w_at [.dat ((eL (eL eI)) v_gram), .dat ((eT eI) v_x), .dat ((eT eI) v_y), .un, .un, .un] ?_
  unfold m_law_form at h
  refine q_seq (w_asg (i := 3) ep_int [.dat ((eL (eL eI)) v_gram), .dat ((eT eI) v_x), .dat ((eT eI) v_y), .dat (eI (0 : Int)), .un, .un] ?_)
  obtain ⟨t1, h_t1, h⟩ := bdO h
  obtain ⟨s4011, h_s4011, h⟩ := bdO h
  refine q_seq (w_fold (fun q1 : Int => [.dat ((eL (eL eI)) v_gram), .dat ((eT eI) v_x), .dat ((eT eI) v_y), .dat (eI q1), .un, .un]) (0 : Int) (sle_same (sle_same (sle_same (sle_same (sle_same (sle_same sle_nil)))))) (wl_range1 (ep_lenM (f := (eL eI)) (ip_lst (ep_var (i := 0) rfl))) h_t1) h_s4011 (fun y1 q1 s' h => ?_) ?_)
  · refine w_at [.dat ((eL (eL eI)) v_gram), .dat ((eT eI) v_x), .dat ((eT eI) v_y), .dat (eI q1), .dat (eI y1), .un] ?_
    unfold m_law_form_l1 at h
    obtain ⟨t2002, h_t2002, h⟩ := bdO h
    obtain ⟨s4010, h_s4010, h⟩ := bdO h
    refine w_fold (fun q2 : Int => [.dat ((eL (eL eI)) v_gram), .dat ((eT eI) v_x), .dat ((eT eI) v_y), .dat (eI q2), .dat (eI y1), .un]) q1 (sle_same (sle_same (sle_same (sle_same (sle_same (sle_same sle_nil)))))) (wl_range1 (ep_lenM (f := (eL eI)) (ip_lst (ep_var (i := 0) rfl))) h_t2002) h_s4010 (fun y2 q2 s' h => ?_) ?_
    · refine w_at [.dat ((eL (eL eI)) v_gram), .dat ((eT eI) v_x), .dat ((eT eI) v_y), .dat (eI q2), .dat (eI y1), .dat (eI y2)] ?_
      unfold m_law_form_l2 at h
      obtain ⟨t4003, h_t4003, h⟩ := bdO h
      obtain ⟨t4004, h_t4004, h⟩ := bdO h
      obtain ⟨t4005, h_t4005, h⟩ := bdO h
      obtain ⟨t4006, h_t4006, h⟩ := bdO h
      obtain ⟨t4007, h_t4007, h⟩ := bdO h
      obtain ⟨t4008, h_t4008, h⟩ := bdO h
      obtain ⟨v_total4009, h_v_total4009, h⟩ := bdO h
      refine w_asg (i := 3) (EXp.is (e := eI v_total4009) (ep_add (ep_var (i := 3) rfl) (ep_mul (ep_mul (ep_ix (f := eI) (ip_tup (ep_var (i := 1) rfl)) (ep_var (i := 4) rfl) h_t4003) (ep_ix (f := eI) (ip_lst (ep_ix (f := (eL eI)) (ip_lst (ep_var (i := 0) rfl)) (ep_var (i := 4) rfl) h_t4004)) (ep_var (i := 5) rfl) h_t4005) h_t4006) (ep_ix (f := eI) (ip_tup (ep_var (i := 2) rfl)) (ep_var (i := 5) rfl) h_t4007) h_t4008)) (by cases h_v_total4009; rfl)) [.dat ((eL (eL eI)) v_gram), .dat ((eT eI) v_x), .dat ((eT eI) v_y), .dat (eI v_total4009), .dat (eI y1), .dat (eI y2)] ?_
      cases h
      exact (by repeat (first | exact sle_nil | refine sle_same ?_ | refine sle_un ?_))
    cases h
    exact (by repeat (first | exact sle_nil | refine sle_same ?_ | refine sle_un ?_))
  exact w_ret (d := eI s4011) (ep_var (i := 3) rfl) (congrArg eI (Option.some.inj h))
end
noncomputable def m_law_gcd_l1  (s : Int × Int) : Option (Fl (Int × Int) Int) := (modO s.1 s.2).bind fun v_rest4 => some (.nx (s.2, v_rest4))
noncomputable def m_law_gcd_l1c  (s : Int × Int) : Option (Bool) := some (!decide (s.2 = (0 : Int)))
noncomputable def m_law_gcd (fuel : Nat) (v_a : Int) (v_b : Int) : Option Int := (some (if v_a < 0 then -v_a else v_a)).bind fun v_first1 => (some (if v_b < 0 then -v_b else v_b)).bind fun v_second2 => (whileO m_law_gcd_l1c m_law_gcd_l1 fuel (v_first1, v_second2)).bind fun fl1005 => thenL (fun s1006 => some s1006.1) (fun r => some r) fl1005
def R_law_gcd (C_Grid : Addr) (C_Lattice : Addr) : List DV → DV → Prop := fun ds r => ∃ (fuel : Nat) (v_a : Int) (v_b : Int) (y : Int), ds = [eI v_a, eI v_b] ∧ m_law_gcd fuel v_a v_b = some y ∧ r = eI y
section
variable {P : Program} {w : World} {K : PySem.W.Frag} {mg : Str → Option Value} {base : Heap} {C_Grid : Addr} {C_Lattice : Addr} {f : Addr} {fd : FuncData}
theorem ok_law_gcd (F : Fun K "_law_gcd" "_law_gcd" s_law_gcd f fd) (T : Txt P K mg base C_Grid C_Lattice) : FnOk P w K mg base CX0 2 f fd ["a", "b"] (spD K (R_law_gcd C_Grid C_Lattice)) := by
  refine okW F sc_law_gcd (fun ds r h => by obtain ⟨fuel, v_a, v_b, y, rfl, _⟩ := h; rfl) fun cdv A outer s H E hr => ⟨_, (pss_cons (ps_set (i := 2) sc_law_gcd.nd rfl (Or.inl rfl) (pe_callB call_abs (by rfl) T.u_abs PyProof.Rows.boot_abs (pa_cons (pv 0) pa_nil)))
      (pss_cons (ps_set (i := 3) sc_law_gcd.nd rfl (Or.inl rfl) (pe_callB call_abs (by rfl) T.u_abs PyProof.Rows.boot_abs (pa_cons (pv 1) pa_nil)))
      (pss_cons (ps_while PassesOwn.never (pt_cmpR op_ne (pv 3) pe_int (nomark _)) (pss_cons (ps_set (i := 4) sc_law_gcd.nd rfl (Or.inl rfl) (pe_op op_modN (pe_callTy call_int1 (by rfl) T.u_int PyProof.Rows.boot_int (pa_cons (pv 2) pa_nil)) (pv 3)))
      (pss_cons (ps_set (i := 2) sc_law_gcd.nd rfl (Or.inl rfl) (pv 3))
      (pss_one (ps_set (i := 3) sc_law_gcd.nd rfl (Or.inl rfl) (pv 4))))))
      (pss_one (ps_ret (pv 2)))))), ?_⟩
  rintro ds r ⟨fuel, v_a, v_b, y, rfl, h, rfl⟩
  refine w_at [.dat (eI v_a), .dat (eI v_b), .un, .un, .un] ?_
  unfold m_law_gcd at h
  obtain ⟨v_first1, h_v_first1, h⟩ := bdO h
  refine q_seq (w_asg (i := 2) (EXp.is (e := eI v_first1) (ep_abs (ep_var (i := 0) rfl)) (by cases h_v_first1; rfl)) [.dat (eI v_a), .dat (eI v_b), .dat (eI v_first1), .un, .un] ?_)
  obtain ⟨v_second2, h_v_second2, h⟩ := bdO h
  refine q_seq (w_asg (i := 3) (EXp.is (e := eI v_second2) (ep_abs (ep_var (i := 1) rfl)) (by cases h_v_second2; rfl)) [.dat (eI v_a), .dat (eI v_b), .dat (eI v_first1), .dat (eI v_second2), .un] ?_)
  obtain ⟨fl1005, h_fl1005, h⟩ := bdO h
  refine q_seq (w_while (fun q1 : Int × Int => [.dat (eI v_a), .dat (eI v_b), .dat (eI q1.1), .dat (eI q1.2), .un]) (v_first1, v_second2) (sle_same (sle_same (sle_same (sle_same (sle_same sle_nil))))) h_fl1005 (fun r d _ => d = eI r) (fun r d _ => False) (fun q1 _ h => by unfold m_law_gcd_l1c at h; exact TXp.is (a := (!decide (q1.2 = (0 : Int)))) (tp_test (ep_neI (ep_var (i := 3) rfl) ep_int)) (Option.some.inj h)) (fun q1 s' h => ?_) (fun s1006 e => ?_) (fun r d S' e pr => ?_) (fun r d S' e pr => ?_))
  · refine w_at [.dat (eI v_a), .dat (eI v_b), .dat (eI q1.1), .dat (eI q1.2), .un] ?_
    unfold m_law_gcd_l1 at h
    obtain ⟨v_rest1004, h_v_rest1004, h⟩ := bdO h
    refine q_seq (w_asg (i := 4) (ep_mod (ep_toI (ep_var (i := 2) rfl)) (ep_var (i := 3) rfl) h_v_rest1004) [.dat (eI v_a), .dat (eI v_b), .dat (eI q1.1), .dat (eI q1.2), .dat (eI v_rest1004)] ?_)
    refine q_seq (w_asg (i := 2) (ep_var (i := 3) rfl) [.dat (eI v_a), .dat (eI v_b), .dat (eI q1.2), .dat (eI q1.2), .dat (eI v_rest1004)] ?_)
    refine w_asg (i := 3) (ep_var (i := 4) rfl) [.dat (eI v_a), .dat (eI v_b), .dat (eI q1.2), .dat (eI v_rest1004), .dat (eI v_rest1004)] ?_
    cases h
    exact ⟨_, rfl, (by repeat (first | exact sle_nil | refine sle_same ?_ | refine sle_un ?_))⟩
  · subst e
    replace h := thenNx h
    exact w_ret (d := eI s1006.1) (ep_var (i := 2) rfl) (congrArg eI (Option.some.inj h))
  · subst e
    replace h := thenRt h
    cases h
    exact pr
  · subst e
    replace h := thenRt h
    cases h
    exact pr
end
noncomputable def m_law_lowest_l1 (fuel : Nat)  (x : Int) (s : Int) : Option (Int) := (m_law_gcd fuel s x).bind fun v_common2 => some v_common2
noncomputable def m_law_lowest (fuel : Nat) (v_row : (List Int)) (v_e : Int) : Option ((List Int) × Int) := (foldO (m_law_lowest_l1 fuel) v_row v_e).bind fun s1003 => (lcA (fun x1004 => (fdivO x1004 s1003).bind fun t1005 => some t1005) v_row).bind fun t1006 => (fdivO v_e s1003).bind fun t1007 => some (t1006, t1007)
def R_law_lowest (C_Grid : Addr) (C_Lattice : Addr) : List DV → DV → Prop := fun ds r => ∃ (fuel : Nat) (v_row : (List Int)) (v_e : Int) (y : ((List Int) × Int)), ds = [(eT eI) v_row, eI v_e] ∧ m_law_lowest fuel v_row v_e = some y ∧ r = (eP (eT eI) eI) y
section
variable {P : Program} {w : World} {K : PySem.W.Frag} {mg : Str → Option Value} {base : Heap} {C_Grid : Addr} {C_Lattice : Addr} {f : Addr} {fd : FuncData}
theorem ok_law_lowest (F : Fun K "_law_lowest" "_law_lowest" s_law_lowest f fd) (T : Txt P K mg base C_Grid C_Lattice) (c_law_gcd : CalG P w K mg base 2 "_law_gcd" (spD K (R_law_gcd C_Grid C_Lattice)) []) : FnOk P w K mg base CX0 41 f fd ["row", "e"] (spD K (R_law_lowest C_Grid C_Lattice)) := by
  refine okW F sc_law_lowest (fun ds r h => by obtain ⟨fuel, v_row, v_e, y, rfl, _⟩ := h; rfl) fun cdv A outer s H E hr => ⟨_, (pss_cons (ps_set (i := 2) sc_law_lowest.nd rfl (Or.inr rfl) (pv 1))
      (pss_cons (ps_for PassesOwn.never rfl (pi_seqK (K := K) (pv 0)) (pg_name (i := 3) sc_law_lowest.nd rfl (Or.inl rfl)) (pss_one (ps_set (i := 2) sc_law_lowest.nd rfl (Or.inr rfl) (pe_cG c_law_gcd hr (by decide) rfl (pa_cons (pv 2) (pa_cons (pv 3) pa_nil))))))
      (pss_one (ps_ret (pe_tup (pa_cons (pe_callTy (call_tupK (K := K)) (by rfl) T.u_tuple PyProof.Rows.boot_tuple (pa_cons (pe_lc (own := [("x", 3)]) (g := gName 3) (tt := tYes) (by rfl) sc_law_lowest.nd (pi_seqK (K := K) (pv 0)) (blkOk_by (N := ["row", "e", "common", "x"]) (sc := defScope s_law_lowest) (own := [("x", 3)]) (by first | decide +kernel | kernel_rfl)) (fun _ _ _ _ _ => (pg_name (i := 3) sc_law_lowest.nd rfl (Or.inl rfl))) (fun _ _ _ _ _ => pts_nil) (fun _ _ _ _ _ => (pe_op (op_div T.sr T.tr hr (by decide) ⟨_, _, rfl, rfl, rfl, rfl, rfl⟩) (pv 3) (pv 2)))) pa_nil)) (pa_cons (pe_op (op_div T.sr T.tr hr (by decide) ⟨_, _, rfl, rfl, rfl, rfl, rfl⟩) (pv 1) (pv 2)) pa_nil))))))), ?_⟩
  rintro ds r ⟨fuel, v_row, v_e, y, rfl, h, rfl⟩
  refine w_at [.dat ((eT eI) v_row), .dat (eI v_e), .un, .un] ?_
  unfold m_law_lowest at h
  refine q_seq (w_asg (i := 2) (ep_var (i := 1) rfl) [.dat ((eT eI) v_row), .dat (eI v_e), .dat (eI v_e), .un] ?_)
  obtain ⟨s1003, h_s1003, h⟩ := bdO h
  refine q_seq (w_fold (fun q1 : Int => [.dat ((eT eI) v_row), .dat (eI v_e), .dat (eI q1), .un]) v_e (sle_same (sle_same (sle_same (sle_same sle_nil)))) (wl_seq (f := eI) (sq_tup (ep_var (i := 0) rfl))) h_s1003 (fun y1 q1 s' h => ?_) ?_)
  · refine w_at [.dat ((eT eI) v_row), .dat (eI v_e), .dat (eI q1), .dat (eI y1)] ?_
    unfold m_law_lowest_l1 at h
    obtain ⟨v_common1002, h_v_common1002, h⟩ := bdO h
    refine w_asg (i := 2) (ep_call (ap_cons (ep_var (i := 2) rfl) (ap_cons (ep_var (i := 3) rfl) ap_nil)) ⟨fuel, q1, y1, v_common1002, rfl, h_v_common1002, rfl⟩) [.dat ((eT eI) v_row), .dat (eI v_e), .dat (eI v_common1002), .dat (eI y1)] ?_
    cases h
    exact (by repeat (first | exact sle_nil | refine sle_same ?_ | refine sle_un ?_))
  obtain ⟨t1006, h_t1006, h⟩ := bdO h
  obtain ⟨t1007, h_t1007, h⟩ := bdO h
  exact w_ret (d := (eP (eT eI) eI) (t1006, t1007)) (ep_tup (ap_cons (ep_tuple (ip_new (lp_lcA (e := eI) (fun x1004 => [.dat ((eT eI) v_row), .dat (eI v_e), .dat (eI s1003), .dat (eI x1004)]) (wl_seq (f := eI) (sq_tup (ep_var (i := 0) rfl))) h_t1006 (by decide) (fun x1004 _ h => by obtain ⟨t1005, h_t1005, h⟩ := bdO h; exact EXp.is (d := eI t1005) (ep_fdiv (ep_var (i := 3) rfl) (ep_var (i := 2) rfl) h_t1005) (congrArg eI (Option.some.inj h)))))) (ap_cons (ep_fdiv (ep_var (i := 1) rfl) (ep_var (i := 2) rfl) h_t1007) ap_nil))) (congrArg (eP (eT eI) eI) (Option.some.inj h))
end
end G41
set_option Elab.async false
set_option linter.all false
/-! the models' steps, in plain Lean -/
namespace G
theorem mulO_l {a b : Int} (h : a.natAbs < 2 ^ 64) : mulO a b = some (a * b) := by
  unfold mulO
  rw [if_pos (mulSm (by omega))]
theorem mulO_r {a b : Int} (h : b.natAbs < 2 ^ 64) : mulO a b = some (a * b) := by
  unfold mulO
  rw [if_pos (mulSmR (by omega))]
theorem fdivO_ne {a b : Int} (h : b ≠ 0) : fdivO a b = some (a.fdiv b) := by
  unfold fdivO
  rw [if_neg h]
theorem modO_ne {a b : Int} (h : b ≠ 0) : modO a b = some (a.fmod b) := by
  unfold modO
  rw [if_neg h]
theorem appO_ok {α : Type} {xs : List α} {y : α} (h : xs.length < 100000) : appO xs y = some (xs ++ [y]) := by
  unfold appO
  rw [if_pos h]
theorem rngO_nat {n : Nat} (h : n < 100000) : rngO (n : Int) = some (rng n) := by
  unfold rngO
  rw [if_pos (by omega)]
theorem mem_rng {n : Nat} {x : Int} : x ∈ rng (n : Int) ↔ ∃ i : Nat, i < n ∧ x = i := by
  unfold rng
  rw [Int.toNat_natCast, List.mem_map]
  constructor
  · rintro ⟨i, hi, rfl⟩
    exact ⟨i, List.mem_range.mp hi, rfl⟩
  · rintro ⟨i, hi, rfl⟩
    exact ⟨i, List.mem_range.mpr hi, rfl⟩
theorem rng_succ {n : Nat} : rng ((n + 1 : Nat) : Int) = rng (n : Int) ++ [(n : Int)] := by
  unfold rng
  rw [Int.toNat_natCast, Int.toNat_natCast, List.range_succ, List.map_append]
  rfl
theorem rng_map {α : Type} {n : Nat} {f : Int → α} : (rng (n : Int)).map f = (List.range n).map fun i => f (i : Nat) := by
  unfold rng
  rw [Int.toNat_natCast, List.map_map]
  rfl
theorem bo {α β : Type} {m : Option α} {k : α → Option β} {x : α} {r : Option β} (h : m = some x) (h2 : k x = r) : m.bind k = r := by rw [h]; exact h2
section
variable {α β γ τ ρ : Type}
theorem mapO_of {f : α → Option β} {g : α → β} : ∀ {xs : List α}, (∀ x ∈ xs, f x = some (g x)) → mapO f xs = some (xs.map g)
  | [], _ => rfl
  | x :: xs, h => by
    show (f x).bind _ = _
    rw [h x (by simp)]
    show (mapO f xs).bind _ = _
    rw [mapO_of fun y hy => h y (by simp [hy])]
    rfl
theorem lcA_of {f : α → Option β} {g : α → β} {xs : List α} (hl : xs.length ≤ 100000) (h : ∀ x ∈ xs, f x = some (g x)) : lcA f xs = some (xs.map g) := by
  unfold lcA
  rw [if_pos hl, mapO_of h]
theorem filO_of {c : α → Option Bool} {p : α → Bool} : ∀ {xs : List α}, (∀ x ∈ xs, c x = some (p x)) → filO c xs = some (xs.filter p)
  | [], _ => rfl
  | x :: xs, h => by
    show (c x).bind _ = _
    rw [h x (by simp)]
    show (filO c xs).bind _ = _
    rw [filO_of fun y hy => h y (by simp [hy])]
    show some _ = _
    rw [List.filter_cons]
theorem lcO_of {c : α → Option Bool} {p : α → Bool} {f : α → Option β} {g : α → β} {xs : List α} (hl : xs.length ≤ 100000) (hc : ∀ x ∈ xs, c x = some (p x)) (h : ∀ x ∈ xs, p x = true → f x = some (g x)) : lcO c f xs = some ((xs.filter p).map g) := by
  unfold lcO
  rw [if_pos hl, filO_of hc]
  show mapO f _ = _
  exact mapO_of fun x hx => h x (List.mem_filter.mp hx).1 (List.mem_filter.mp hx).2
theorem foldO_append {body : α → τ → Option τ} : ∀ {xs ys : List α} {s : τ}, foldO body (xs ++ ys) s = (foldO body xs s).bind fun t => foldO body ys t
  | [], _, _ => rfl
  | x :: xs, ys, s => by
    show (body x s).bind _ = ((body x s).bind _).bind _
    cases body x s with
    | none => rfl
    | some t => exact foldO_append (xs := xs)
/-- by an invariant of the turns of a range -/
theorem foldO_rng {body : Int → τ → Option τ} {n : Nat} {s : τ} (I : Nat → τ → Prop) (h0 : I 0 s) (hs : ∀ i t, i < n → I i t → ∃ t', body (i : Int) t = some t' ∧ I (i + 1) t') : ∃ t, foldO body (rng (n : Int)) s = some t ∧ I n t := by
  induction n with
  | zero => exact ⟨s, rfl, h0⟩
  | succ n ih =>
    obtain ⟨t, h1, h2⟩ := ih fun i t hi => hs i t (by omega)
    obtain ⟨t', h3, h4⟩ := hs n t (by omega) h2
    refine ⟨t', ?_, h4⟩
    rw [rng_succ, foldO_append, h1]
    show (body (n : Int) t).bind _ = _
    rw [h3]
    rfl
theorem foldO_list {body : α → τ → Option τ} (I : τ → Prop) : ∀ {xs : List α} {s : τ}, I s → (∀ x ∈ xs, ∀ t, I t → ∃ t', body x t = some t' ∧ I t') → ∃ t, foldO body xs s = some t ∧ I t
  | [], s, h0, _ => ⟨s, rfl, h0⟩
  | x :: xs, s, h0, hs => by
    obtain ⟨t, h1, h2⟩ := hs x (by simp) s h0
    obtain ⟨t', h3, h4⟩ := foldO_list I (xs := xs) h2 fun y hy => hs y (by simp [hy])
    exact ⟨t', by show (body x s).bind _ = _; rw [h1]; exact h3, h4⟩
theorem foldO_of {body : α → τ → Option τ} {g : τ → α → τ} : ∀ {xs : List α} {s : τ}, (∀ x ∈ xs, ∀ t, body x t = some (g t x)) → foldO body xs s = some (xs.foldl g s)
  | [], _, _ => rfl
  | x :: xs, s, h => by
    show (body x s).bind _ = _
    rw [h x (by simp)]
    exact foldO_of fun y hy => h y (by simp [hy])
theorem foldO_unit {body : α → Unit → Option Unit} {xs : List α} (h : ∀ x ∈ xs, body x () = some ()) : foldO body xs () = some () := by
  obtain ⟨t, h1, _⟩ := foldO_list (body := body) (fun _ => True) (xs := xs) (s := ()) True.intro fun x hx t _ => ⟨(), h x hx, True.intro⟩
  exact h1
theorem loopO_unit {body : α → Unit → Option (Fl Unit ρ)} : ∀ {xs : List α}, (∀ x ∈ xs, body x () = some (.nx ())) → loopO body xs () = some (.nx ())
  | [], _ => rfl
  | x :: xs, h => by
    show (body x ()).bind _ = _
    rw [h x (by simp)]
    exact loopO_unit fun y hy => h y (by simp [hy])
theorem mapS_rng {f : α → τ → Option (β × τ)} (I : τ → Prop) (J : β → Prop) : ∀ {xs : List α} {s : τ}, I s → (∀ x ∈ xs, ∀ t, I t → ∃ y t', f x t = some (y, t') ∧ J y ∧ I t') → ∃ ys t, mapS f xs s = some (ys, t) ∧ ys.length = xs.length ∧ (∀ y ∈ ys, J y) ∧ I t
  | [], s, h0, _ => ⟨[], s, rfl, rfl, fun y h => (by cases h), h0⟩
  | x :: xs, s, h0, hs => by
    obtain ⟨y, t, h1, h2, h3⟩ := hs x (by simp) s h0
    obtain ⟨ys, t', h4, h5, h6, h7⟩ := mapS_rng I J (xs := xs) h3 fun z hz => hs z (by simp [hz])
    refine ⟨y :: ys, t', ?_, by simp [h5], fun z hz => (List.mem_cons.mp hz).elim (fun e => e ▸ h2) (h6 z), h7⟩
    show (f x s).bind _ = _
    rw [h1]
    show (mapS f xs t).bind _ = _
    rw [h4]
    rfl
theorem lcS_ex {f : α → τ → Option (β × τ)} (I : τ → Prop) (J : β → Prop) {xs : List α} {s : τ} (hl : xs.length ≤ 100000) (h0 : I s) (hs : ∀ x ∈ xs, ∀ t, I t → ∃ y t', f x t = some (y, t') ∧ J y ∧ I t') : ∃ ys t, lcS f xs s = some (ys, t) ∧ ys.length = xs.length ∧ (∀ y ∈ ys, J y) ∧ I t := by
  unfold lcS
  rw [if_pos hl]
  exact mapS_rng I J h0 hs
end
theorem cutL_take {α : Type} {xs : List α} {k : Nat} : cutL xs none (some (k : Int)) = xs.take k := by
  unfold cutL
  rw [HT.sIx_none, HT.sIx_nat, List.drop_zero, Nat.sub_zero]
  by_cases h : k ≤ xs.length
  · rw [Nat.min_eq_left h]
  · rw [Nat.min_eq_right (by omega), List.take_length, List.take_of_length_le (by omega)]
theorem setO_nat {α : Type} {xs : List α} {i : Nat} {y : α} (h : i < xs.length) : setO xs (i : Int) y = some (xs.set i y) := by
  unfold setO
  rw [ixN_of h]
end G
set_option Elab.async false
set_option linter.all false
set_option maxRecDepth 100000
set_option maxHeartbeats 2000000
namespace G
open PySem PySem.Spec PyProof.Rows L2 Evl
/-! the laws' own source of numbers -/
abbrev S2 := Int × Int
def stD (s : S2) : List DV := [.int s.1, .int s.2]
def tkS (s : S2) (m : Int) : S2 := if 0 < s.1 then (s.1.fdiv m, s.2) else (s.1, (s.2 * 48271 + 11).fmod 2147483647)
def tkV (s : S2) (m : Int) : Int := if 0 < s.1 then s.1.fmod m else (((s.2 * 48271 + 11).fmod 2147483647).fdiv 7).fmod m
theorem tkV_bound (s : S2) {m : Int} (h : 0 < m) : 0 ≤ tkV s m ∧ tkV s m < m := by
  unfold tkV
  split
  · exact ⟨Int.fmod_nonneg_of_pos _ h, Int.fmod_lt_of_pos _ h⟩
  · exact ⟨Int.fmod_nonneg_of_pos _ h, Int.fmod_lt_of_pos _ h⟩
theorem tkV_nat (s : S2) {m : Nat} (h : 0 < m) : ∃ n : Nat, tkV s m = n ∧ n < m := by
  have := tkV_bound s (m := (m : Int)) (by omega)
  exact ⟨(tkV s m).toNat, by omega, by omega⟩
def StPre (ds : List DV) : Prop := ∃ ns : List Int, ds = [.lst (ns.map .int)] ∧ ns.length ≤ 63
def StPost (_ : List DV) (rs : List DV) : Prop := ∃ s : S2, rs = stD s
def rTake : List DV → List DV → List DV → DV → Prop := fun s ds s' r => ∃ (a : S2) (m : Int), s = stD a ∧ ds = [.int m] ∧ 0 < m ∧ s' = stD (tkS a m) ∧ r = .int (tkV a m)
/-- the product by the law -/
def prodM (a b : List (List Int)) (w : Nat) := genM a.length w fun i j => mulE a b b.length i j
def rProd : List DV → DV → Prop := fun ds r => ∃ (a b : List (List Int)) (w A B : Nat), ds = [rowsT a, rowsT b, .int w] ∧ GOk a b.length A ∧ GOk b w B ∧ A + B ≤ 134217728 ∧ r = rowsT (prodM a b w)
def unitM (n : Nat) := genM n n fun i k => if i = k then 1 else 0
def rUnit : List DV → DV → Prop := fun ds r => ∃ n : Nat, ds = [.int n] ∧ n ≤ 100 ∧ r = rowsT (unitM n)
def stepR (rs : List (List Int)) (n i k : Nat) (f : Int) : List Int := (List.range n).map fun j => if i = k then -en rs i j else en rs i j + f * en rs k j
def stepM (rs : List (List Int)) (n i k : Nat) (f : Int) : List (List Int) := rs.set i (stepR rs n i k f)
def rStep : List DV → DV → Prop := fun ds r => ∃ (rs : List (List Int)) (n i k : Nat) (f : Int) (B : Nat), ds = [rowsT rs, .int i, .int k, .int f] ∧ GOk rs n B ∧ rs.length = n ∧ i < n ∧ k < n ∧ f.natAbs ≤ 2 ∧ r = rowsT (stepM rs n i k f)
/-- steps from the unit matrix -/
inductive Uni (n : Nat) : Nat → List (List Int) → Prop
  | one : Uni n 0 (unitM n)
  | step {m : Nat} {rs : List (List Int)} {i k : Nat} {f : Int} : Uni n m rs → i < n → k < n → f.natAbs ≤ 2 → Uni n (m + 1) (stepM rs n i k f)
theorem stepM_len {rs : List (List Int)} {n i k : Nat} {f : Int} : (stepM rs n i k f).length = rs.length := by
  unfold stepM
  rw [List.length_set]
theorem stepM_ok {rs : List (List Int)} {n i k B : Nat} {f : Int} (o : GOk rs n B) (hf : f.natAbs ≤ 2) : GOk (stepM rs n i k f) n (B + 2) := by
  refine ⟨by rw [stepM_len]; exact o.len, o.wid, fun x hx => ?_, fun x hx => ?_⟩
  · rcases List.mem_or_eq_of_mem_set hx with h | h
    · exact o.row x h
    · rw [h]
      unfold stepR
      simp
  · rcases List.mem_or_eq_of_mem_set hx with h | h
    · exact sm_mono (by omega) (o.sm x h)
    · rw [h]
      intro y hy
      unfold stepR at hy
      obtain ⟨j, _, rfl⟩ := List.mem_map.mp hy
      have h1 := o.en i j
      have h2 := o.en k j
      have e : 2 ^ (B + 2) = 4 * 2 ^ B := by rw [Nat.pow_add]; omega
      have h3 : (f * en rs k j).natAbs ≤ 2 * (en rs k j).natAbs := by
        rw [Int.natAbs_mul]
        exact Nat.mul_le_mul_right _ hf
      split <;> omega
theorem Uni.ok {n : Nat} (hn : n ≤ 4) : ∀ {m : Nat} {rs : List (List Int)}, Uni n m rs → rs.length = n ∧ GOk rs n (1 + 2 * m)
  | _, _, .one => ⟨genM_len, .gen (by omega) (by omega) fun i j _ _ => by split <;> decide⟩
  | _, _, .step (m := m) u hi hk hf => by
    obtain ⟨h1, h2⟩ := u.ok hn
    exact ⟨by rw [stepM_len]; exact h1, (stepM_ok h2 hf).mono (by omega)⟩
def UnPre (s ds : List DV) : Prop := ∃ (a : S2) (n : Nat), s = stD a ∧ ds = [.int n] ∧ n ≤ 4
def UnPost (s ds s' : List DV) (r : DV) : Prop := ∃ (n m : Nat) (a : S2) (rs : List (List Int)), ds = [.int n] ∧ s' = stD a ∧ m ≤ 4 ∧ Uni n m rs ∧ r = rowsT rs
def rIsRows (C : Addr) : List DV → DV → Prop := fun ds r => ∃ (rs : List (List Int)) (w h : Nat) (B : Nat), ds = [gridD C rs w, .int h, .int w] ∧ rs.length = h ∧ GOk rs w B ∧ r = .bl true
def rUnim (C : Addr) : List DV → DV → Prop := fun ds r => ∃ a w B, ds = [gridD C a w] ∧ (∀ x ∈ a, x.length = w) ∧ 1 ≤ B ∧ B ≤ 8000000 ∧ (a.length = w → GOk a w B ∧ w ≤ 4) ∧ r = .bl (decide (a.length = w) && decide ((bar a).natAbs = 1))
def invM (a : List (List Int)) (n : Nat) := scaleM (bar a) (adjM a n) n
def rInv (C : Addr) : List DV → DV → Prop := fun ds r => ∃ a w, ds = [gridD C a w] ∧ GOk a w 1000 ∧ a.length = w ∧ w ≤ 4 ∧ (bar a).natAbs = 1 ∧ r = gridD C (invM a w) w
def rLaw : List DV → DV → Prop := fun ds r => ∃ ns : List Int, ds = [.lst (ns.map .int)] ∧ ns.length ≤ 63 ∧ r = .bl true
end G
set_option Elab.async false
set_option linter.all false
set_option maxRecDepth 100000
set_option maxHeartbeats 2000000
namespace G
open PySem PySem.Spec PyProof.Rows L2 Evl
def sg (k : Nat) : Int := 1 - 2 * ((k : Int).fmod 2)
theorem sg_bound (k : Nat) : (sg k).natAbs ≤ 1 := by
  unfold sg
  have h1 := Int.fmod_nonneg_of_pos (k : Int) (b := 2) (by decide)
  have h2 := Int.fmod_lt_of_pos (k : Int) (b := 2) (by decide)
  omega
/-- the determinant by the law, from no rows on -/
def detZ : Nat → List (List Int) → Int
  | 0, _ => 1
  | n + 1, rs => rsum (n + 1) fun k => if en rs 0 k = 0 then 0 else sg k * en rs 0 k * detZ n (restR rs k)
def rLDetZ (n : Nat) : List DV → DV → Prop := fun ds r => ∃ (d : DV) (rs : List (List Int)) (B : Nat), ds = [d] ∧ Seq d (rs.map rowT) ∧ rs.length = n ∧ (∀ x ∈ rs, x.length = n) ∧ (∀ x ∈ rs, Sm B x) ∧ B ≤ 8000000 ∧ n ≤ 4 ∧ r = .int (detZ n rs)
def rLDetZA : List DV → DV → Prop := fun ds r => ∃ n, n ≤ 4 ∧ rLDetZ n ds r
theorem detZ_sm {B : Nat} : ∀ (n : Nat) (rs : List (List Int)), n ≤ 4 → (∀ x ∈ rs, Sm B x) → (detZ n rs).natAbs < 2 ^ ((B + 8) * n + 1)
  | 0, rs, _, _ => by show (1 : Int).natAbs < _; exact Nat.one_lt_two_pow (by omega)
  | n + 1, rs, hn, h => by
    have key := sum_lt (f := fun k => if en rs 0 k = 0 then 0 else sg k * en rs 0 k * detZ n (restR rs k)) (B := B + ((B + 8) * n + 1)) (n + 1) (fun k _ => by
      show (if en rs 0 k = 0 then (0 : Int) else _).natAbs < _
      split
      · exact Nat.pow_pos (by omega)
      · have q : (en rs 0 k).natAbs < 2 ^ B := getD_sm (rows_sm h 0) k
        have h1 : (sg k * en rs 0 k).natAbs < 2 ^ B := by
          rw [Int.natAbs_mul]
          have : (sg k).natAbs * (en rs 0 k).natAbs ≤ 1 * (en rs 0 k).natAbs := Nat.mul_le_mul_right _ (sg_bound k)
          omega
        exact natAbs_mul_lt h1 (detZ_sm n _ (by omega) (restR_sm h))) (by omega)
    have e : 2 ^ ((B + 8) * (n + 1) + 1) = 256 * 2 ^ (B + ((B + 8) * n + 1)) := by
      rw [show (B + 8) * (n + 1) + 1 = 8 + (B + ((B + 8) * n + 1)) by rw [Nat.mul_add]; omega, Nat.pow_add]
    have p : 0 < 2 ^ (B + ((B + 8) * n + 1)) := Nat.pow_pos (by omega)
    have q : (n + 1) * 2 ^ (B + ((B + 8) * n + 1)) ≤ 5 * 2 ^ (B + ((B + 8) * n + 1)) := Nat.mul_le_mul_right _ (by omega)
    show (rsum (n + 1) _).natAbs < _
    unfold rsum
    omega
end G
set_option Elab.async false
set_option linter.all false
set_option maxRecDepth 100000
set_option maxHeartbeats 2000000
namespace G
open PySem PySem.Spec PyProof.Rows L2 Evl
theorem bar0 : bar [] = 1 := rfl
theorem bar1 (a : Int) : bar [[a]] = a := by
  by_cases ha : a = 0
  · subst ha; rfl
  · simp [bar, brun, bstep, picks, inn, elimRow, swp, en, List.range_succ, ha]
theorem fone (a : Int) : a.fdiv 1 = a := by rw [Int.fdiv_eq_ediv_of_nonneg _ (by omega), Int.ediv_one]
theorem bar2 (a b c d : Int) : bar [[a, b], [c, d]] = a * d - b * c := by
  by_cases ha : a = 0
  · by_cases hc : c = 0
    · subst ha hc
      simp [bar, brun, bstep, picks, inn, elimRow, swp, en, List.range_succ]
    · subst ha
      by_cases hb : b = 0
      · subst hb
        simp [bar, brun, bstep, picks, inn, elimRow, swp, en, List.range_succ, hc, fone]
      · simp [bar, brun, bstep, picks, inn, elimRow, swp, en, List.range_succ, hc, hb, fone, Int.mul_comm]
  · by_cases hd : a * d - c * b = 0
    · simp [bar, brun, bstep, picks, inn, elimRow, swp, en, List.range_succ, ha, fone, hd]
      grind
    · simp [bar, brun, bstep, picks, inn, elimRow, swp, en, List.range_succ, ha, fone, hd]
      grind
end G
set_option Elab.async false
set_option linter.all false
set_option maxRecDepth 100000
set_option maxHeartbeats 2000000
namespace G
open PySem PySem.Spec PyProof.Rows L2 Evl
def det3 (a b c d e f g h i : Int) : Int := a * (e * i - f * h) - b * (d * i - f * g) + c * (d * h - e * g)
theorem fdq {x a y : Int} (ha : a ≠ 0) (h : x = a * y) : x.fdiv a = y := by rw [h]; exact Int.mul_fdiv_cancel_left y ha
/-- the last two turns -/
theorem bar3b {a b c z w e f h i s q : Int} (ha : a ≠ 0) (hq : e * i - h * f = a * q) : (match (bstep 3 1 ([[a, b, c], [z, e, f], [w, h, i]], s, a)).bind (bstep 3 2) with | none => 0 | some x => x.2.1 * x.2.2) = s * q := by
  by_cases he : e = 0
  · by_cases hh : h = 0
    · subst he hh
      have : q = 0 := by
        have : a * q = 0 := by rw [← hq]; simp
        exact (Int.mul_eq_zero.mp this).resolve_left ha
      simp [bstep, picks, inn, elimRow, swp, en, List.range_succ, this]
    · subst he
      have k1 : (h * f - 0 * i).fdiv a = -q := fdq ha (by grind)
      by_cases hq0 : q = 0
      · subst hq0
        simp [bstep, picks, inn, elimRow, swp, en, List.range_succ, hh] 
        simp at k1
        simp [k1]
      · simp [bstep, picks, inn, elimRow, swp, en, List.range_succ, hh] 
        simp at k1
        simp [k1, hq0, Int.neg_mul_neg]
  · have k1 : (e * i - h * f).fdiv a = q := fdq ha hq
    by_cases hq0 : q = 0
    · subst hq0
      simp [bstep, picks, inn, elimRow, swp, en, List.range_succ, he, k1] 
    · simp [bstep, picks, inn, elimRow, swp, en, List.range_succ, he, k1, hq0] 
theorem bar_def3 (r0 r1 r2 : List Int) : bar [r0, r1, r2] = (match ((bstep 3 0 ([r0, r1, r2], 1, 1)).bind (bstep 3 1)).bind (bstep 3 2) with | none => 0 | some x => x.2.1 * x.2.2) := rfl
theorem bar3 (a b c d e f g h i : Int) : bar [[a, b, c], [d, e, f], [g, h, i]] = det3 a b c d e f g h i := by
  rw [bar_def3]
  by_cases ha : a = 0
  · by_cases hd : d = 0
    · by_cases hg : g = 0
      · subst ha hd hg
        simp [bstep, picks, inn, elimRow, swp, en, List.range_succ, det3]
      · subst ha hd
        have e1 : bstep 3 0 ([[0, b, c], [0, e, f], [g, h, i]], 1, 1) = some ([[g, h, i], [g * 0 - 0 * g, g * e - 0 * h, g * f - 0 * i], [g * 0 - 0 * g, g * b - 0 * h, g * c - 0 * i]], -1, g) := by
          simp [bstep, picks, inn, elimRow, swp, en, List.range_succ, fone, hg]
        rw [e1]
        refine (bar3b (s := -1) (q := e * g * c - b * f * g) hg (by grind)).trans ?_
        unfold det3
        grind
    · subst ha
      have e1 : bstep 3 0 ([[0, b, c], [d, e, f], [g, h, i]], 1, 1) = some ([[d, e, f], [d * 0 - 0 * d, d * b - 0 * e, d * c - 0 * f], [d * g - g * d, d * h - g * e, d * i - g * f]], -1, d) := by
        simp [bstep, picks, inn, elimRow, swp, en, List.range_succ, fone, hd]
      rw [e1]
      refine (bar3b (s := -1) (q := b * (d * i - g * f) - c * (d * h - g * e)) hd (by grind)).trans ?_
      unfold det3
      grind
  · have e1 : bstep 3 0 ([[a, b, c], [d, e, f], [g, h, i]], 1, 1) = some ([[a, b, c], [a * d - d * a, a * e - d * b, a * f - d * c], [a * g - g * a, a * h - g * b, a * i - g * c]], 1, a) := by
      simp [bstep, picks, inn, elimRow, swp, en, List.range_succ, fone, ha]
    rw [e1]
    refine (bar3b (s := 1) (q := det3 a b c d e f g h i) ha (by unfold det3; grind)).trans ?_
    exact Int.one_mul _
end G
set_option Elab.async false
set_option linter.all false
set_option maxRecDepth 100000
set_option maxHeartbeats 8000000
namespace G
open PySem PySem.Spec PyProof.Rows L2 Evl
def det4 (a b c d e f g h i j k l m n o p : Int) : Int := a * det3 f g h j k l n o p - b * det3 e g h i k l m o p + c * det3 e f h i j l m n p - d * det3 e f g i j k m n o
def fin4 (x : Option (List (List Int) × Int × Int)) : Int := match x with
  | none => 0
  | some x => x.2.1 * x.2.2
/-- the last two turns of four -/
theorem bar4b {r0 r1 : List Int} {x y z w e f h i a s q : Int} (ha : a ≠ 0) (hq : e * i - h * f = a * q) : fin4 ((bstep 4 2 ([r0, r1, [x, y, e, f], [z, w, h, i]], s, a)).bind (bstep 4 3)) = s * q := by
  by_cases he : e = 0
  · by_cases hh : h = 0
    · subst he hh
      have : q = 0 := by
        have : a * q = 0 := by rw [← hq]; simp
        exact (Int.mul_eq_zero.mp this).resolve_left ha
      simp [fin4, bstep, picks, inn, elimRow, swp, en, List.range_succ, this]
    · subst he
      have k1 : (h * f - 0 * i).fdiv a = -q := fdq ha (by grind)
      simp at k1
      by_cases hq0 : q = 0
      · subst hq0
        simp at k1
        simp [fin4, bstep, picks, inn, elimRow, swp, en, List.range_succ, hh, k1]
      · simp [fin4, bstep, picks, inn, elimRow, swp, en, List.range_succ, hh, k1, hq0, Int.neg_mul_neg]
  · have k1 : (e * i - h * f).fdiv a = q := fdq ha hq
    by_cases hq0 : q = 0
    · subst hq0
      simp [fin4, bstep, picks, inn, elimRow, swp, en, List.range_succ, he, k1]
    · simp [fin4, bstep, picks, inn, elimRow, swp, en, List.range_succ, he, k1, hq0]
/-- the last three turns of four -/
theorem bar4a {r0 : List Int} {x y z b00 b01 b02 b10 b11 b12 b20 b21 b22 a s q m011 m012 m021 m022 m121 m122 : Int} (ha : a ≠ 0)
    (h1 : b00 * b11 - b10 * b01 = a * m011) (h2 : b00 * b12 - b10 * b02 = a * m012) (h3 : b00 * b21 - b20 * b01 = a * m021) (h4 : b00 * b22 - b20 * b02 = a * m022) (h5 : b10 * b21 - b20 * b11 = a * m121) (h6 : b10 * b22 - b20 * b12 = a * m122)
    (q0 : m011 * m022 - m021 * m012 = b00 * q) (q1 : m011 * m122 - m121 * m012 = b10 * q) (q2 : m021 * m122 - m121 * m022 = b20 * q) (hz : b00 = 0 → b10 = 0 → b20 = 0 → q = 0) :
    fin4 (((bstep 4 1 ([r0, [x, b00, b01, b02], [y, b10, b11, b12], [z, b20, b21, b22]], s, a)).bind (bstep 4 2)).bind (bstep 4 3)) = s * q := by
  by_cases n0 : b00 = 0
  · by_cases n1 : b10 = 0
    · by_cases n2 : b20 = 0
      · have := hz n0 n1 n2
        subst n0 n1 n2 this
        simp [fin4, bstep, picks, inn, elimRow, swp, en, List.range_succ]
      · subst n0 n1
        have e1 : bstep 4 1 ([r0, [x, 0, b01, b02], [y, 0, b11, b12], [z, b20, b21, b22]], s, a) = some ([r0, [z, b20, b21, b22], [(b20 * y - 0 * z).fdiv a, (b20 * 0 - 0 * b20).fdiv a, (b20 * b11 - 0 * b21).fdiv a, (b20 * b12 - 0 * b22).fdiv a], [(b20 * x - 0 * z).fdiv a, (b20 * 0 - 0 * b20).fdiv a, (b20 * b01 - 0 * b21).fdiv a, (b20 * b02 - 0 * b22).fdiv a]], -s, b20) := by
          simp [bstep, picks, inn, elimRow, swp, en, List.range_succ, n2]
        rw [e1, fdq (x := b20 * b11 - 0 * b21) (y := -m121) ha (by grind), fdq (x := b20 * b12 - 0 * b22) (y := -m122) ha (by grind), fdq (x := b20 * b01 - 0 * b21) (y := -m021) ha (by grind), fdq (x := b20 * b02 - 0 * b22) (y := -m022) ha (by grind)]
        refine (bar4b (s := -s) (q := -q) n2 (by grind)).trans ?_
        exact Int.neg_mul_neg s q
    · subst n0
      have e1 : bstep 4 1 ([r0, [x, 0, b01, b02], [y, b10, b11, b12], [z, b20, b21, b22]], s, a) = some ([r0, [y, b10, b11, b12], [(b10 * x - 0 * y).fdiv a, (b10 * 0 - 0 * b10).fdiv a, (b10 * b01 - 0 * b11).fdiv a, (b10 * b02 - 0 * b12).fdiv a], [(b10 * z - b20 * y).fdiv a, (b10 * b20 - b20 * b10).fdiv a, (b10 * b21 - b20 * b11).fdiv a, (b10 * b22 - b20 * b12).fdiv a]], -s, b10) := by
        simp [bstep, picks, inn, elimRow, swp, en, List.range_succ, n1]
      rw [e1, fdq (x := b10 * b01 - 0 * b11) (y := -m011) ha (by grind), fdq (x := b10 * b02 - 0 * b12) (y := -m012) ha (by grind), fdq (y := m121) ha h5, fdq (y := m122) ha h6]
      refine (bar4b (s := -s) (q := -q) n1 (by grind)).trans ?_
      exact Int.neg_mul_neg s q
  · have e1 : bstep 4 1 ([r0, [x, b00, b01, b02], [y, b10, b11, b12], [z, b20, b21, b22]], s, a) = some ([r0, [x, b00, b01, b02], [(b00 * y - b10 * x).fdiv a, (b00 * b10 - b10 * b00).fdiv a, (b00 * b11 - b10 * b01).fdiv a, (b00 * b12 - b10 * b02).fdiv a], [(b00 * z - b20 * x).fdiv a, (b00 * b20 - b20 * b00).fdiv a, (b00 * b21 - b20 * b01).fdiv a, (b00 * b22 - b20 * b02).fdiv a]], s, b00) := by
      simp [bstep, picks, inn, elimRow, swp, en, List.range_succ, n0]
    rw [e1, fdq (y := m011) ha h1, fdq (y := m012) ha h2, fdq (y := m021) ha h3, fdq (y := m022) ha h4]
    exact bar4b n0 q0
theorem bar_def4 (r0 r1 r2 r3 : List Int) : bar [r0, r1, r2, r3] = fin4 ((((bstep 4 0 ([r0, r1, r2, r3], 1, 1)).bind (bstep 4 1)).bind (bstep 4 2)).bind (bstep 4 3)) := rfl
/-- the first turn is done, the pivot a at the head of the first row -/
theorem bar4s {a b c d e f g h i j k l m n o p s : Int} (ha : a ≠ 0) (x y z : Int) :
    fin4 (((bstep 4 1 ([[a, b, c, d], [x, a * f - e * b, a * g - e * c, a * h - e * d], [y, a * j - i * b, a * k - i * c, a * l - i * d], [z, a * n - m * b, a * o - m * c, a * p - m * d]], s, a)).bind (bstep 4 2)).bind (bstep 4 3)) = s * det4 a b c d e f g h i j k l m n o p := by
  refine bar4a (m011 := det3 a b c e f g i j k) (m012 := det3 a b d e f h i j l) (m021 := det3 a b c e f g m n o) (m022 := det3 a b d e f h m n p) (m121 := det3 a b c i j k m n o) (m122 := det3 a b d i j l m n p) ha ?_ ?_ ?_ ?_ ?_ ?_ ?_ ?_ ?_ ?_
  case refine_10 =>
    intro z1 z2 z3
    have : a * a * det4 a b c d e f g h i j k l m n o p = 0 := by
      unfold det4 det3
      grind
    rcases Int.mul_eq_zero.mp this with q | q
    · rcases Int.mul_eq_zero.mp q with q | q <;> exact absurd q ha
    · exact q
  all_goals (simp only [det4, det3]; grind)
theorem bar4 (a b c d e f g h i j k l m n o p : Int) : bar [[a, b, c, d], [e, f, g, h], [i, j, k, l], [m, n, o, p]] = det4 a b c d e f g h i j k l m n o p := by
  rw [bar_def4]
  by_cases ha : a = 0
  · by_cases he : e = 0
    · by_cases hi : i = 0
      · by_cases hm : m = 0
        · subst ha he hi hm
          simp [fin4, bstep, picks, inn, elimRow, swp, en, List.range_succ, det4, det3]
        · subst ha he hi
          have e1 : bstep 4 0 ([[0, b, c, d], [0, f, g, h], [0, j, k, l], [m, n, o, p]], 1, 1) = some ([[m, n, o, p], [m * 0 - 0 * m, m * f - 0 * n, m * g - 0 * o, m * h - 0 * p], [m * 0 - 0 * m, m * j - 0 * n, m * k - 0 * o, m * l - 0 * p], [m * 0 - 0 * m, m * b - 0 * n, m * c - 0 * o, m * d - 0 * p]], -1, m) := by
            simp [bstep, picks, inn, elimRow, swp, en, List.range_succ, fone, hm]
          rw [e1]
          refine (bar4s (a := m) (b := n) (c := o) (d := p) (e := 0) (f := f) (g := g) (h := h) (i := 0) (j := j) (k := k) (l := l) (m := 0) (n := b) (o := c) (p := d) (s := -1) hm _ _ _).trans ?_
          unfold det4 det3
          grind
      · subst ha he
        have e1 : bstep 4 0 ([[0, b, c, d], [0, f, g, h], [i, j, k, l], [m, n, o, p]], 1, 1) = some ([[i, j, k, l], [i * 0 - 0 * i, i * f - 0 * j, i * g - 0 * k, i * h - 0 * l], [i * 0 - 0 * i, i * b - 0 * j, i * c - 0 * k, i * d - 0 * l], [i * m - m * i, i * n - m * j, i * o - m * k, i * p - m * l]], -1, i) := by
          simp [bstep, picks, inn, elimRow, swp, en, List.range_succ, fone, hi]
        rw [e1]
        refine (bar4s (a := i) (b := j) (c := k) (d := l) (e := 0) (f := f) (g := g) (h := h) (i := 0) (j := b) (k := c) (l := d) (m := m) (n := n) (o := o) (p := p) (s := -1) hi _ _ _).trans ?_
        unfold det4 det3
        grind
    · subst ha
      have e1 : bstep 4 0 ([[0, b, c, d], [e, f, g, h], [i, j, k, l], [m, n, o, p]], 1, 1) = some ([[e, f, g, h], [e * 0 - 0 * e, e * b - 0 * f, e * c - 0 * g, e * d - 0 * h], [e * i - i * e, e * j - i * f, e * k - i * g, e * l - i * h], [e * m - m * e, e * n - m * f, e * o - m * g, e * p - m * h]], -1, e) := by
        simp [bstep, picks, inn, elimRow, swp, en, List.range_succ, fone, he]
      rw [e1]
      refine (bar4s (a := e) (b := f) (c := g) (d := h) (e := 0) (f := b) (g := c) (h := d) (i := i) (j := j) (k := k) (l := l) (m := m) (n := n) (o := o) (p := p) (s := -1) he _ _ _).trans ?_
      unfold det4 det3
      grind
  · have e1 : bstep 4 0 ([[a, b, c, d], [e, f, g, h], [i, j, k, l], [m, n, o, p]], 1, 1) = some ([[a, b, c, d], [a * e - e * a, a * f - e * b, a * g - e * c, a * h - e * d], [a * i - i * a, a * j - i * b, a * k - i * c, a * l - i * d], [a * m - m * a, a * n - m * b, a * o - m * c, a * p - m * d]], 1, a) := by
      simp [bstep, picks, inn, elimRow, swp, en, List.range_succ, fone, ha]
    rw [e1]
    refine (bar4s ha _ _ _).trans ?_
    exact Int.one_mul _
end G
set_option Elab.async false
set_option linter.all false
set_option maxRecDepth 100000
set_option maxHeartbeats 8000000
namespace G
open PySem PySem.Spec PyProof.Rows L2 Evl
theorem detZ_eq (n : Nat) (rs : List (List Int)) : detZ (n + 1) rs = rsum (n + 1) fun k => sg k * en rs 0 k * detZ n (restR rs k) := by
  show rsum (n + 1) _ = _
  congr 1
  funext k
  show (if en rs 0 k = 0 then (0 : Int) else _) = _
  split
  · next h => rw [h]; simp
  · rfl
theorem lit1 {α : Type} {l : List α} (h : l.length = 1) : ∃ a, l = [a] := match l, h with | [a], _ => ⟨a, rfl⟩
theorem lit2 {α : Type} {l : List α} (h : l.length = 2) : ∃ a b, l = [a, b] := match l, h with | [a, b], _ => ⟨a, b, rfl⟩
theorem lit3 {α : Type} {l : List α} (h : l.length = 3) : ∃ a b c, l = [a, b, c] := match l, h with | [a, b, c], _ => ⟨a, b, c, rfl⟩
theorem lit4 {α : Type} {l : List α} (h : l.length = 4) : ∃ a b c d, l = [a, b, c, d] := match l, h with | [a, b, c, d], _ => ⟨a, b, c, d, rfl⟩
/-- a square matrix -/
structure SqM (n : Nat) (rs : List (List Int)) : Prop where
  len : rs.length = n
  row : ∀ x ∈ rs, x.length = n
theorem sq0 {rs : List (List Int)} (h : SqM 0 rs) : rs = [] := List.eq_nil_of_length_eq_zero h.len
theorem sq1 {rs : List (List Int)} (h : SqM 1 rs) : ∃ a, rs = [[a]] := by
  obtain ⟨r, rfl⟩ := lit1 h.len
  obtain ⟨a, rfl⟩ := lit1 (h.row r (by simp))
  exact ⟨a, rfl⟩
theorem sq2 {rs : List (List Int)} (h : SqM 2 rs) : ∃ a b c d, rs = [[a, b], [c, d]] := by
  obtain ⟨r, s, rfl⟩ := lit2 h.len
  obtain ⟨a, b, rfl⟩ := lit2 (h.row r (by simp))
  obtain ⟨c, d, rfl⟩ := lit2 (h.row s (by simp))
  exact ⟨a, b, c, d, rfl⟩
theorem sq3 {rs : List (List Int)} (h : SqM 3 rs) : ∃ a b c d e f g i j, rs = [[a, b, c], [d, e, f], [g, i, j]] := by
  obtain ⟨r, s, t, rfl⟩ := lit3 h.len
  obtain ⟨a, b, c, rfl⟩ := lit3 (h.row r (by simp))
  obtain ⟨d, e, f, rfl⟩ := lit3 (h.row s (by simp))
  obtain ⟨g, i, j, rfl⟩ := lit3 (h.row t (by simp))
  exact ⟨a, b, c, d, e, f, g, i, j, rfl⟩
theorem sq4 {rs : List (List Int)} (h : SqM 4 rs) : ∃ a b c d e f g i j k l m n o p q, rs = [[a, b, c, d], [e, f, g, i], [j, k, l, m], [n, o, p, q]] := by
  obtain ⟨r, s, t, u, rfl⟩ := lit4 h.len
  obtain ⟨a, b, c, d, rfl⟩ := lit4 (h.row r (by simp))
  obtain ⟨e, f, g, i, rfl⟩ := lit4 (h.row s (by simp))
  obtain ⟨j, k, l, m, rfl⟩ := lit4 (h.row t (by simp))
  obtain ⟨n, o, p, q, rfl⟩ := lit4 (h.row u (by simp))
  exact ⟨a, b, c, d, e, f, g, i, j, k, l, m, n, o, p, q, rfl⟩
theorem sg0 : sg 0 = 1 := rfl
theorem sg1 : sg 1 = -1 := rfl
theorem sg2 : sg 2 = 1 := rfl
theorem sg3 : sg 3 = -1 := rfl
theorem detZ_bar {n : Nat} {rs : List (List Int)} (h : SqM n rs) (hn : n ≤ 4) : detZ n rs = bar rs := by
  have hc : n = 0 ∨ n = 1 ∨ n = 2 ∨ n = 3 ∨ n = 4 := by omega
  rcases hc with rfl | rfl | rfl | rfl | rfl
  · rw [sq0 h]; rfl
  · obtain ⟨a, rfl⟩ := sq1 h
    simp [detZ_eq, rsum, List.range_succ, en, restR, delC, sg0, sg1, sg2, sg3, bar1, show ∀ r, detZ 0 r = 1 from fun _ => rfl]
  · obtain ⟨a, b, c, d, rfl⟩ := sq2 h
    simp [detZ_eq, rsum, List.range_succ, en, restR, delC, sg0, sg1, sg2, sg3, bar2, show ∀ r, detZ 0 r = 1 from fun _ => rfl]
    grind
  · obtain ⟨a, b, c, d, e, f, g, i, j, rfl⟩ := sq3 h
    simp [detZ_eq, rsum, List.range_succ, en, restR, delC, sg0, sg1, sg2, sg3, bar3, det3, show ∀ r, detZ 0 r = 1 from fun _ => rfl]
    grind
  · obtain ⟨a, b, c, d, e, f, g, i, j, k, l, m, n, o, p, q, rfl⟩ := sq4 h
    simp [detZ_eq, rsum, List.range_succ, en, restR, delC, sg0, sg1, sg2, sg3, bar4, det4, det3, show ∀ r, detZ 0 r = 1 from fun _ => rfl]
    grind
end G
set_option Elab.async false
set_option linter.all false
set_option maxRecDepth 100000
set_option maxHeartbeats 16000000
namespace G
open PySem PySem.Spec PyProof.Rows L2 Evl
def scal (n : Nat) (d : Int) := genM n n fun i k => d * (if i = k then 1 else 0)
theorem bar_tr {n : Nat} {a : List (List Int)} (h : SqM n a) (hn : n ≤ 4) : bar (trM a n) = bar a := by
  have hc : n = 0 ∨ n = 1 ∨ n = 2 ∨ n = 3 ∨ n = 4 := by omega
  rcases hc with rfl | rfl | rfl | rfl | rfl
  · rw [sq0 h]; rfl
  · obtain ⟨a, rfl⟩ := sq1 h
    simp [trM, genM, en, List.range_succ]
  · obtain ⟨a, b, c, d, rfl⟩ := sq2 h
    simp [trM, genM, en, List.range_succ, bar2]
    grind
  · obtain ⟨a, b, c, d, e, f, g, i, j, rfl⟩ := sq3 h
    simp [trM, genM, en, List.range_succ, bar3, det3]
    grind
  · obtain ⟨a, b, c, d, e, f, g, i, j, k, l, m, n, o, p, q, rfl⟩ := sq4 h
    simp [trM, genM, en, List.range_succ, bar4, det4, det3]
    grind
theorem adj_r {n : Nat} {a : List (List Int)} (h : SqM n a) (hn : n ≤ 4) : prodM a (adjM a n) n = scal n (bar a) := by
  have hc : n = 0 ∨ n = 1 ∨ n = 2 ∨ n = 3 ∨ n = 4 := by omega
  rcases hc with rfl | rfl | rfl | rfl | rfl
  · rw [sq0 h]; rfl
  · obtain ⟨a, rfl⟩ := sq1 h
    simp [prodM, scal, mulE, adjM, adjE, minorM, delC, genM, en, List.range_succ, bar0, bar1]
  · obtain ⟨a, b, c, d, rfl⟩ := sq2 h
    simp [prodM, scal, mulE, adjM, adjE, minorM, delC, genM, en, List.range_succ, bar1, bar2]
    grind
  · obtain ⟨a, b, c, d, e, f, g, i, j, rfl⟩ := sq3 h
    simp [prodM, scal, mulE, adjM, adjE, minorM, delC, genM, en, List.range_succ, bar2, bar3, det3]
    grind
  · obtain ⟨a, b, c, d, e, f, g, i, j, k, l, m, n, o, p, q, rfl⟩ := sq4 h
    simp [prodM, scal, mulE, adjM, adjE, minorM, delC, genM, en, List.range_succ, bar3, bar4, det4, det3]
    refine ⟨⟨?_, ?_, ?_, ?_⟩, ⟨?_, ?_, ?_, ?_⟩, ⟨?_, ?_, ?_, ?_⟩, ?_, ?_, ?_, ?_⟩ <;> grind
theorem adj_l {n : Nat} {a : List (List Int)} (h : SqM n a) (hn : n ≤ 4) : prodM (adjM a n) a n = scal n (bar a) := by
  have hc : n = 0 ∨ n = 1 ∨ n = 2 ∨ n = 3 ∨ n = 4 := by omega
  rcases hc with rfl | rfl | rfl | rfl | rfl
  · rw [sq0 h]; rfl
  · obtain ⟨a, rfl⟩ := sq1 h
    simp [prodM, scal, mulE, adjM, adjE, minorM, delC, genM, en, List.range_succ, bar0, bar1]
  · obtain ⟨a, b, c, d, rfl⟩ := sq2 h
    simp [prodM, scal, mulE, adjM, adjE, minorM, delC, genM, en, List.range_succ, bar1, bar2]
    grind
  · obtain ⟨a, b, c, d, e, f, g, i, j, rfl⟩ := sq3 h
    simp [prodM, scal, mulE, adjM, adjE, minorM, delC, genM, en, List.range_succ, bar2, bar3, det3]
    grind
  · obtain ⟨a, b, c, d, e, f, g, i, j, k, l, m, n, o, p, q, rfl⟩ := sq4 h
    simp [prodM, scal, mulE, adjM, adjE, minorM, delC, genM, en, List.range_succ, bar3, bar4, det4, det3]
    refine ⟨⟨?_, ?_, ?_, ?_⟩, ⟨?_, ?_, ?_, ?_⟩, ⟨?_, ?_, ?_, ?_⟩, ?_, ?_, ?_, ?_⟩ <;> grind
end G
set_option Elab.async false
set_option linter.all false
set_option maxRecDepth 100000
namespace G41
open G
theorem app2 {α : Type} {xs ys xs' ys' : List α} (h : xs = xs') (k : ys = ys') : xs ++ ys = xs' ++ ys' := by rw [h, k]
theorem len2 {st : List Int} (h : st.length = 2) : ∃ a b, st = [a, b] := match st, h with | [a, b], _ => ⟨a, b, rfl⟩
theorem take_ex {st : List Int} {m : Int} (h : st.length = 2) (hm : 0 < m) : ∃ v st', m_law_take st m = some (v, st') ∧ st'.length = 2 ∧ 0 ≤ v ∧ v < m := by
  obtain ⟨a, b, rfl⟩ := len2 h
  unfold m_law_take
  have e0 : L2.atI [a, b] (0 : Int) = some a := rfl
  have e1 : L2.atI [a, b] (1 : Int) = some b := rfl
  rw [e0]
  simp only [Option.bind_some]
  by_cases hp : 0 < a
  · rw [if_pos (by simpa using hp), modO_ne (by omega), fdivO_ne (by omega)]
    simp only [Option.bind_some]
    have e2 : setO [a, b] (0 : Int) (a.fdiv m) = some [a.fdiv m, b] := rfl
    rw [e2]
    exact ⟨_, _, rfl, rfl, Int.fmod_nonneg_of_pos a hm, Int.fmod_lt_of_pos a hm⟩
  · rw [if_neg (by simpa using hp), e1]
    simp only [Option.bind_some]
    rw [mulO_r (by decide)]
    simp only [Option.bind_some]
    rw [modO_ne (by decide)]
    simp only [Option.bind_some]
    have e2 : ∀ z, setO [a, b] (1 : Int) z = some [a, z] := fun z => rfl
    rw [e2]
    simp only [Option.bind_some]
    have e3 : ∀ z, L2.atI [a, z] (1 : Int) = some z := fun z => rfl
    rw [e3]
    simp only [Option.bind_some]
    rw [fdivO_ne (by decide)]
    simp only [Option.bind_some]
    rw [modO_ne (by omega)]
    exact ⟨_, _, rfl, rfl, Int.fmod_nonneg_of_pos _ hm, Int.fmod_lt_of_pos _ hm⟩
theorem state_ex (ns : List Int) : ∃ st, m_law_state ns = some st ∧ st.length = 2 := by
  unfold m_law_state
  obtain ⟨t, h1, _⟩ := foldO_list (body := m_law_state_l1) (fun _ => True) (xs := cutL ns none (some (63 : Int))) (s := ((0 : Int), (1 : Int))) True.intro fun x _ t _ => by
    unfold m_law_state_l1
    rw [mulO_r (by decide)]
    simp only [Option.bind_some]
    rw [mulO_r (by decide)]
    simp only [Option.bind_some]
    rw [modO_ne (by decide)]
    exact ⟨_, rfl, True.intro⟩
  rw [h1]
  exact ⟨_, rfl, rfl⟩
structure Rw (rs : List (List Int)) (h w m : Nat) : Prop where
  len : rs.length = h
  row : ∀ x ∈ rs, x.length = w
  sm : ∀ x ∈ rs, ∀ y ∈ x, y.natAbs ≤ m
theorem atI_get {α : Type} {xs : List α} {i : Nat} (h : i < xs.length) : L2.atI xs (i : Int) = some xs[i] := atI_nat h
theorem rows_ex {st : List Int} {h w : Nat} (hst : st.length = 2) (hh : h ≤ 4) (hw : w ≤ 4) : ∃ rs st', m_law_rows st h w 1 = some (rs, st') ∧ st'.length = 2 ∧ Rw rs h w 2 := by
  unfold m_law_rows
  rw [rngO_nat (by omega)]
  simp only [Option.bind_some]
  obtain ⟨t, h1, h2, h3⟩ := foldO_rng (body := m_law_rows_l1 w 1) (n := h) (s := (([] : List (List Int)), st)) (fun i t => t.2.length = 2 ∧ Rw t.1 i w 1) ⟨hst, rfl, fun x hx => (by cases hx), fun x hx => (by cases hx)⟩ fun i t hi ⟨t2, o⟩ => by
    unfold m_law_rows_l1
    rw [rngO_nat (by omega)]
    simp only [Option.bind_some]
    obtain ⟨ys, s', e, hl, hy, hs⟩ := lcS_ex (f := fun x4 s5 => (mulO (2 : Int) 1).bind fun t6 => (m_law_take s5 (t6 + (1 : Int))).bind fun t7 => some ((t7.1 - 1), t7.2)) (fun s : List Int => s.length = 2) (fun y : Int => y.natAbs ≤ 1) (xs := rng (w : Int)) (s := t.2) (by rw [rng_len]; omega) t2 fun x _ s hs => by
      rw [mulO_r (by decide)]
      simp only [Option.bind_some]
      obtain ⟨v, st', q1, q2, q3, q4⟩ := take_ex (m := 3) hs (by decide)
      rw [show (2 : Int) * 1 + 1 = 3 by decide, q1]
      exact ⟨v - 1, st', rfl, by omega, q2⟩
    rw [e]
    simp only [Option.bind_some]
    rw [appO_ok (by rw [o.len]; omega)]
    refine ⟨_, rfl, hs, by simp [o.len], fun x hx => ?_, fun x hx => ?_⟩
    · rcases List.mem_append.mp hx with hx | hx
      · exact o.row x hx
      · rw [List.mem_singleton.mp hx, hl, rng_len]; omega
    · rcases List.mem_append.mp hx with hx | hx
      · exact o.sm x hx
      · rw [List.mem_singleton.mp hx]; exact hy
  rw [h1]
  simp only [Option.bind_some]
  have o2 : Rw t.1 h w 2 := ⟨h3.len, h3.row, fun x hx y hy => by have := h3.sm x hx y hy; omega⟩
  by_cases hc : 1 < h
  · rw [if_pos (by rw [decide_eq_true_eq]; omega)]
    obtain ⟨v, st', q1, q2, q3, q4⟩ := take_ex (m := 5) h2 (by decide)
    rw [q1]
    simp only [Option.bind_some]
    by_cases hv : v = 0
    · rw [if_pos (by simpa using hv), rngO_nat (by omega)]
      simp only [Option.bind_some]
      have h0 : 0 < t.1.length := by rw [h3.len]; omega
      have e0 : L2.atI t.1 (0 : Int) = some t.1[0] := atI_get (i := 0) h0
      have r0 : t.1[0].length = w := h3.row _ (List.getElem_mem h0)
      rw [lcA_of (g := fun x => (t.1[0].getD x.toNat 0) * 2) (by rw [rng_len]; omega) fun x hx => by
        obtain ⟨i, hi, rfl⟩ := mem_rng.mp hx
        rw [e0]
        simp only [Option.bind_some]
        rw [atI_get (by omega)]
        simp only [Option.bind_some]
        rw [mulO_r (by decide)]
        simp [List.getD_eq_getElem?_getD, List.getElem?_eq_getElem (show i < t.1[0].length by omega)]]
      simp only [Option.bind_some]
      rw [show ((h : Int) - 1) = ((h - 1 : Nat) : Int) by omega, setO_nat (by rw [h3.len]; omega)]
      refine ⟨_, _, rfl, q2, by rw [List.length_set, h3.len], fun x hx => ?_, fun x hx => ?_⟩
      · rcases List.mem_or_eq_of_mem_set hx with hx | hx
        · exact h3.row x hx
        · rw [hx, List.length_map, rng_len]; omega
      · rcases List.mem_or_eq_of_mem_set hx with hx | hx
        · exact o2.sm x hx
        · subst hx
          intro y hy
          obtain ⟨z, hz, rfl⟩ := List.mem_map.mp hy
          obtain ⟨i, hi, rfl⟩ := mem_rng.mp hz
          have hi' : i < t.1[0].length := by omega
          have := h3.sm _ (List.getElem_mem h0) _ (List.getElem_mem hi')
          rw [Int.toNat_natCast, List.getD_eq_getElem?_getD, List.getElem?_eq_getElem hi']
          show (t.1[0][i] * 2).natAbs ≤ 2
          omega
    · rw [if_neg (by simpa using hv)]
      exact ⟨_, _, rfl, q2, o2⟩
  · rw [if_neg (by rw [decide_eq_true_eq]; omega)]
    exact ⟨_, _, rfl, h2, o2⟩
/-! ### the Gram matrix -/
structure Gr (n : Nat) (g a : List (List Int)) (e : Nat → Int) : Prop where
  n1 : 1 ≤ n
  n3 : n ≤ 3
  ra : Rw a n n 2
  re : ∀ i, 1 ≤ e i ∧ e i ≤ 3
  g : g = genM n n fun i k => ((List.zip (a.getD i []) (a.getD k [])).map fun p => p.1 * p.2).sum + if i = k then e i else 0
theorem getD_at {α : Type} {xs : List α} {i : Nat} {d : α} (h : i < xs.length) : L2.atI xs (i : Int) = some (xs.getD i d) := by
  rw [atI_get h, List.getD_eq_getElem?_getD, List.getElem?_eq_getElem h]
  rfl
def gF (a : List (List Int)) (e : Nat → Int) (i k : Nat) : Int := ((List.zip (a.getD i []) (a.getD k [])).map fun p => p.1 * p.2).sum + if i = k then e i else 0
theorem gram_l2 {a : List (List Int)} {n i : Nat} {st : List Int} (o : Rw a n n 2) (hn : n ≤ 3) (hi : i < n) (hst : st.length = 2) : ∃ u : List Int × List Int, foldO (m_law_gram_l2 a i) (rng (n : Int)) (([] : List Int), st) = some u ∧ u.2.length = 2 ∧ ∃ c : Int, (1 ≤ c ∧ c ≤ 3) ∧ u.1 = (List.range n).map fun k => ((List.zip (a.getD i []) (a.getD k [])).map fun p => p.1 * p.2).sum + if i = k then c else 0 := by
  have ha : i < a.length := by rw [o.len]; exact hi
  refine foldO_rng (fun k (u : List Int × List Int) => u.2.length = 2 ∧ ∃ c : Int, (1 ≤ c ∧ c ≤ 3) ∧ u.1 = (List.range k).map fun k => ((List.zip (a.getD i []) (a.getD k [])).map fun p => p.1 * p.2).sum + if i = k then c else 0) ⟨hst, 1, ⟨by decide, by decide⟩, rfl⟩ fun k u hk ⟨u2, c, hc, hu⟩ => ?_
  unfold m_law_gram_l2
  have hk' : k < a.length := by rw [o.len]; exact hk
  rw [getD_at (d := []) ha, getD_at (d := []) hk']
  simp only [Option.bind_some]
  have small : ∀ x ∈ List.zip (a.getD i []) (a.getD k []), x.1.natAbs ≤ 2 := fun x hx => by
    have hm := (List.of_mem_zip (a := x.1) (b := x.2) hx).1
    rw [List.getD_eq_getElem?_getD, List.getElem?_eq_getElem ha] at hm
    exact o.sm _ (List.getElem_mem ha) _ hm
  have hz : (List.zip (a.getD i []) (a.getD k [])).length ≤ 100000 := by
    have : (a.getD i []).length = n := by rw [List.getD_eq_getElem?_getD, List.getElem?_eq_getElem ha]; exact o.row _ (List.getElem_mem ha)
    rw [List.length_zip]
    omega
  rw [lcA_of (g := fun p => p.1 * p.2) hz fun x hx => by
    have := small x hx
    rw [mulO_l (by omega)]
    rfl]
  simp only [Option.bind_some]
  obtain ⟨v, s3, w1, w2, w3, w4⟩ := take_ex (m := 3) u2 (by decide)
  rw [w1]
  simp only [Option.bind_some]
  rw [mulO_l (by omega)]
  simp only [Option.bind_some]
  rw [mulO_l (by split <;> decide)]
  simp only [Option.bind_some]
  rw [appO_ok (by rw [hu, List.length_map, List.length_range]; omega)]
  by_cases hik : i = k
  · subst hik
    refine ⟨_, rfl, w2, 1 + v * (if (decide ((i : Int) = 0)) then (1 : Int) else 0), by split <;> omega, ?_⟩
    rw [hu, List.range_succ, List.map_append]
    refine app2 ?_ ?_
    · refine List.map_congr_left fun j hj => ?_
      have : i ≠ j := by have := List.mem_range.mp hj; omega
      rw [if_neg this, if_neg this]
    · simp
  · refine ⟨_, rfl, w2, c, hc, ?_⟩
    rw [hu, List.range_succ, List.map_append]
    refine app2 rfl ?_
    have : ¬ ((i : Int) = (k : Int)) := by omega
    simp [hik, this]
theorem gram_l1 {a : List (List Int)} {n : Nat} {st : List Int} (o : Rw a n n 2) (hn : n ≤ 3) (hst : st.length = 2) : ∃ t : List Int × List (List Int), foldO (m_law_gram_l1 n a) (rng (n : Int)) (st, ([] : List (List Int))) = some t ∧ t.1.length = 2 ∧ ∃ e : Nat → Int, (∀ i, 1 ≤ e i ∧ e i ≤ 3) ∧ t.2 = (List.range n).map fun j => (List.range n).map fun k => gF a e j k := by
  refine foldO_rng (fun i (t : List Int × List (List Int)) => t.1.length = 2 ∧ ∃ e : Nat → Int, (∀ i, 1 ≤ e i ∧ e i ≤ 3) ∧ t.2 = (List.range i).map fun j => (List.range n).map fun k => gF a e j k) ⟨hst, fun _ => 1, fun _ => ⟨Int.le_refl 1, by show (1 : Int) ≤ 3; decide⟩, rfl⟩ fun i t hi ⟨t2, e, he, ht⟩ => ?_
  unfold m_law_gram_l1
  rw [rngO_nat (by omega)]
  simp only [Option.bind_some]
  obtain ⟨u, g1, g2, c, hc, g3⟩ := gram_l2 o hn hi t2
  rw [g1]
  simp only [Option.bind_some]
  rw [appO_ok (by rw [ht, List.length_map, List.length_range]; omega)]
  refine ⟨_, rfl, g2, fun j => if j = i then c else e j, fun j => ?_, ?_⟩
  · dsimp only
    split
    · exact hc
    · exact he j
  rw [ht, List.range_succ, List.map_append]
  refine app2 ?_ ?_
  · refine List.map_congr_left fun j hj => List.map_congr_left fun k _ => ?_
    have : j ≠ i := by have := List.mem_range.mp hj; omega
    unfold gF
    show _ = _ + (if j = k then (if j = i then c else e j) else 0)
    rw [if_neg this]
  · rw [g3]
    unfold gF
    simp
end G41
set_option Elab.async false
set_option linter.all false
set_option maxRecDepth 100000
namespace G41
open G
theorem gr_n {v : Int} (q3 : 0 ≤ v) (q4 : v < 3) : ∃ n : Nat, 1 + v = (n : Int) ∧ n ≤ 3 ∧ 1 ≤ n := by
  obtain ⟨n, hn⟩ : ∃ n : Nat, 1 + v = (n : Int) := ⟨(1 + v).toNat, by omega⟩
  exact ⟨n, hn, by omega, by omega⟩
theorem gr_t {a : List (List Int)} {n : Nat} {st : List Int} (o : Rw a n n 2) (hn : n ≤ 3) (hn1 : 1 ≤ n) (r2 : st.length = 2) : ∃ g e st', ((rngO (n : Int)).bind fun t4 => (foldO (m_law_gram_l1 n a) t4 (st, ([] : List (List Int)))).bind fun s4019 => some (s4019.2, s4019.1)) = some (g, st') ∧ st'.length = 2 ∧ Gr n g a e := by
  rw [rngO_nat (by omega)]
  simp only [Option.bind_some]
  obtain ⟨t, h1, h2, e, he, h3⟩ := gram_l1 o hn r2
  rw [h1]
  exact ⟨_, e, _, rfl, h2, hn1, hn, o, he, h3⟩
theorem gram_ex {st : List Int} (hst : st.length = 2) : ∃ n g a e st', m_law_gram st 3 = some (g, st') ∧ st'.length = 2 ∧ Gr n g a e := by
  unfold m_law_gram
  obtain ⟨v, s1, q1, q2, q3, q4⟩ := take_ex (m := 3) hst (by decide)
  obtain ⟨n, hn, hn3, hn1⟩ := gr_n q3 q4
  obtain ⟨a, s2, r1, r2, o⟩ := rows_ex (h := n) (w := n) q2 (Nat.le_succ_of_le hn3) (Nat.le_succ_of_le hn3)
  obtain ⟨g, e, st', z1, z2, z3⟩ := gr_t o hn3 hn1 r2
  refine ⟨n, g, a, e, st', ?_, z2, z3⟩
  refine bo q1 ?_
  dsimp only
  rw [hn]
  refine bo r1 ?_
  dsimp only
  refine bo (x := []) rfl ?_
  exact z1
end G41
set_option Elab.async false
set_option linter.all false
/-! greatest common divisors of lists -/
namespace G
def gN : List Int → Nat
  | [] => 0
  | x :: xs => Nat.gcd x.natAbs (gN xs)
theorem gN_append (xs ys : List Int) : gN (xs ++ ys) = Nat.gcd (gN xs) (gN ys) := by
  induction xs with
  | nil => show gN ys = Nat.gcd 0 (gN ys); rw [Nat.gcd_zero_left]
  | cons x xs ih => show Nat.gcd _ (gN (xs ++ ys)) = Nat.gcd (Nat.gcd _ _) _; rw [ih, Nat.gcd_assoc]
theorem gN_dvd {xs : List Int} : ∀ x ∈ xs, ((gN xs : Nat) : Int) ∣ x := by
  induction xs with
  | nil => intro x h; cases h
  | cons y ys ih =>
    intro x h
    rcases List.mem_cons.mp h with rfl | h
    · exact Int.ofNat_dvd_left.mpr (Nat.gcd_dvd_left _ _)
    · exact Int.dvd_trans (Int.natCast_dvd_natCast.mpr (Nat.gcd_dvd_right _ _)) (ih x h)
theorem dvd_gN {xs : List Int} {d : Nat} (h : ∀ x ∈ xs, (d : Int) ∣ x) : d ∣ gN xs := by
  induction xs with
  | nil => exact Nat.dvd_zero d
  | cons y ys ih => exact Nat.dvd_gcd (Int.ofNat_dvd_left.mp (h y (by simp))) (ih fun x hx => h x (by simp [hx]))
theorem gN_pos {xs : List Int} {x : Int} (h : x ∈ xs) (hx : x ≠ 0) : 0 < gN xs := by
  rcases Nat.eq_zero_or_pos (gN xs) with z | z
  · have := gN_dvd x h
    rw [z] at this
    exact (hx (Int.zero_dvd.mp this)).elim
  · exact z
theorem foldl_gcd {xs : List Int} : ∀ {s : Int}, xs.foldl (fun s x => ((Nat.gcd s.natAbs x.natAbs : Nat) : Int)) s = if xs = [] then s else ((Nat.gcd s.natAbs (gN xs) : Nat) : Int) := by
  induction xs with
  | nil => intro s; rfl
  | cons y ys ih =>
    intro s
    rw [List.foldl_cons, ih, if_neg (List.cons_ne_nil _ _)]
    split
    · rename_i h
      subst h
      show _ = ((Nat.gcd s.natAbs (Nat.gcd y.natAbs 0) : Nat) : Int)
      rw [Nat.gcd_zero_right]
    · rw [Int.natAbs_natCast]
      show _ = ((Nat.gcd s.natAbs (Nat.gcd y.natAbs (gN ys)) : Nat) : Int)
      rw [Nat.gcd_assoc]
theorem foldl_gcd0 {xs : List Int} : xs.foldl (fun s x => ((Nat.gcd s.natAbs x.natAbs : Nat) : Int)) 0 = ((gN xs : Nat) : Int) := by
  rw [foldl_gcd]
  split
  · rename_i h
    subst h
    rfl
  · simp
theorem foldl_gcdP {xs : List Int} {s : Int} (h : 0 ≤ s) : xs.foldl (fun s x => ((Nat.gcd s.natAbs x.natAbs : Nat) : Int)) s = ((Nat.gcd s.natAbs (gN xs) : Nat) : Int) := by
  rw [foldl_gcd]
  split
  · rename_i e
    subst e
    show s = ((Nat.gcd s.natAbs 0 : Nat) : Int)
    rw [Nat.gcd_zero_right]
    omega
  · rfl
theorem gN_map_nat (xs : List Nat) : ∀ ys : List (List Int), xs = ys.map gN → gN (xs.map fun n : Nat => (n : Int)) = gN ys.flatten := by
  intro ys h
  subst h
  induction ys with
  | nil => rfl
  | cons y ys ih =>
    rw [List.flatten_cons, gN_append, ← ih]
    show Nat.gcd ((gN y : Int)).natAbs _ = _
    rw [Int.natAbs_natCast]
theorem gN_rows (ys : List (List Int)) : gN (ys.map fun y => ((gN y : Nat) : Int)) = gN ys.flatten := by
  have z := gN_map_nat (ys.map gN) ys rfl
  rw [List.map_map] at z
  exact z
/-- exact quotients -/
theorem div_mul {d x : Int} (hd : d ≠ 0) (h : d ∣ x) : d * x.fdiv d = x := by
  obtain ⟨q, rfl⟩ := h
  rw [Int.mul_fdiv_cancel_left _ hd]
/-- proportional lists have the same quotient by their divisors -/
theorem prop_eq {xs ys : List Int} {p q : Int} (hp : 0 < p) (hq : 0 < q) (hx : 0 < gN xs) (hy : 0 < gN ys) (hl : xs.length = ys.length) (h : ∀ i, (h1 : i < xs.length) → (h2 : i < ys.length) → p * xs[i] = q * ys[i]) :
    ∀ i, (h1 : i < xs.length) → (h2 : i < ys.length) → xs[i].fdiv (gN xs : Nat) = ys[i].fdiv (gN ys : Nat) := by
  obtain ⟨P, rfl⟩ : ∃ P : Nat, p = P := ⟨p.toNat, by omega⟩
  obtain ⟨Q, rfl⟩ : ∃ Q : Nat, q = Q := ⟨q.toNat, by omega⟩
  have key : P * gN xs = Q * gN ys := by
    have e1 : ∀ (c : Nat) (zs : List Int), gN (zs.map fun z => (c : Int) * z) = c * gN zs := by
      intro c zs
      induction zs with
      | nil => rfl
      | cons z zs ih =>
        show Nat.gcd ((c : Int) * z).natAbs (gN (zs.map fun z => (c : Int) * z)) = _
        rw [ih, Int.natAbs_mul, Int.natAbs_natCast, Nat.gcd_mul_left]
        rfl
    have e2 : (xs.map fun z => (P : Int) * z) = ys.map fun z => (Q : Int) * z := by
      refine List.ext_getElem (by simp [hl]) fun i h1 h2 => ?_
      simp at h1 h2
      simp [h i h1 h2]
    rw [← e1, ← e1, e2]
  intro i h1 h2
  have a := div_mul (d := (gN xs : Nat)) (by omega) (gN_dvd xs[i] (List.getElem_mem h1))
  have b := div_mul (d := (gN ys : Nat)) (by omega) (gN_dvd ys[i] (List.getElem_mem h2))
  have c := h i h1 h2
  generalize xs[i].fdiv (gN xs : Nat) = u at a
  generalize ys[i].fdiv (gN ys : Nat) = v at b
  rw [← a, ← b, ← Int.mul_assoc, ← Int.mul_assoc] at c
  have key' : (P : Int) * (gN xs : Nat) = (Q : Int) * (gN ys : Nat) := by
    rw [← Int.natCast_mul, ← Int.natCast_mul, key]
  rw [key'] at c
  have hne : (Q : Int) * (gN ys : Nat) ≠ 0 := Int.mul_ne_zero (by omega) (by omega)
  exact Int.eq_of_mul_eq_mul_left hne c
end G
set_option Elab.async false
set_option linter.all false
set_option maxRecDepth 100000
namespace G41
open G
/-! ### Lattice(..) -/
structure LatOk (n : Nat) (g : List (List Int)) : Prop where
  n1 : 1 ≤ n
  n4 : n ≤ 4
  len : g.length = n
  row : ∀ x ∈ g, x.length = n
  sym : ∀ i j, i < n → j < n → (g.getD i []).getD j 0 = (g.getD j []).getD i 0
  bd : ∀ x ∈ g, ∀ y ∈ x, y.natAbs ≤ 10000
  pos : ∀ k, 1 ≤ k → k ≤ n → 1 ≤ bar ((g.take k).map fun r => r.take k)
theorem small_pow {y : Int} (h : y.natAbs ≤ 10000) : y.natAbs < 2 ^ 100000 := Nat.lt_of_le_of_lt h (Nat.lt_of_lt_of_le (show 10000 < 2 ^ 14 by decide) (Nat.pow_le_pow_right (by omega) (by omega)))
theorem gin_of {n : Nat} {g : List (List Int)} (hn : n ≤ 4) (hl : g.length = n) (hr : ∀ x ∈ g, x.length = n) (hb : ∀ x ∈ g, ∀ y ∈ x, y.natAbs ≤ 10000) : GIn ⟨g, n⟩ :=
  ⟨by show (0 : Int) ≤ n; omega, by show (n : Int) ≤ 4; omega, by show g.length = (n : Int).toNat; rw [Int.toNat_natCast]; exact hl, by
    show GOk g (n : Int).toNat 100000
    rw [Int.toNat_natCast]
    exact ⟨by omega, by omega, hr, fun x hx y hy => small_pow (hb x hx y hy)⟩⟩
theorem det_of {n : Nat} {g : List (List Int)} (h : GIn ⟨g, n⟩) : m_Grid_determinant ⟨g, n⟩ = some (bar g) := by
  unfold m_Grid_determinant
  rw [if_pos h]
theorem adj_of {n : Nat} {g : List (List Int)} (h : GIn ⟨g, n⟩) : m_Grid_adjugate ⟨g, n⟩ = some ⟨adjM g n, n⟩ := by
  unfold m_Grid_adjugate
  rw [if_pos h]
  show some (M_Grid.mk (adjM g (n : Int).toNat) n) = _
  rw [Int.toNat_natCast]
theorem mk2_of {n : Nat} {p : Sq eSq} {g : List (List Int)} (hp : p.xs.map (·.xs) = g) (hl : g.length ≤ 1000) (hn : n ≤ 1000) (hr : ∀ x ∈ g, x.length = n) : mk_Grid2 p n = some ⟨g, n⟩ := by
  subst hp
  unfold mk_Grid2
  rw [if_pos ⟨hl, by omega, by omega, fun r h => by rw [hr r h]⟩]
theorem mk1_of {n : Nat} {p : Sq eSq} {g : List (List Int)} (hp : p.xs.map (·.xs) = g) (hl : g.length ≤ 1000) (h1 : 1 ≤ g.length) (hn : n ≤ 1000) (hr : ∀ x ∈ g, x.length = n) : mk_Grid1 p = some ⟨g, n⟩ := by
  subst hp
  have hw : width1 (p.xs.map (·.xs)) = n := by
    cases q : p.xs.map (·.xs) with
    | nil => rw [q] at h1; simp at h1
    | cons r rs => show (r.length : Int) = n; rw [hr r (by rw [q]; simp)]
  unfold mk_Grid1
  rw [hw, if_pos ⟨hl, by omega, by omega, fun r h => by rw [hr r h]⟩]
theorem isint (x : Int) : m_is_integer x = some true := rfl
theorem sym_ok {n : Nat} {g : List (List Int)} {p : Sq eSq} (o : LatOk n g) (hp : p.xs.map (·.xs) = g) : m_check_symmetric p = some () := by
  have hlen : p.xs.length = n := by rw [← o.len, ← hp, List.length_map]
  have at1 : ∀ i j : Nat, i < n → j < n → ∃ t, L2.atI p.xs (i : Int) = some t ∧ L2.atI t.xs (j : Int) = some ((g.getD i []).getD j 0) := fun i j hi hj => by
    have hi' : i < p.xs.length := by omega
    refine ⟨p.xs[i], atI_get hi', ?_⟩
    have e : g.getD i [] = p.xs[i].xs := by
      rw [← hp, List.getD_eq_getElem?_getD, List.getElem?_map, List.getElem?_eq_getElem hi']
      rfl
    have hl : p.xs[i].xs.length = n := o.row _ (by rw [← hp]; exact List.mem_map.mpr ⟨_, List.getElem_mem hi', rfl⟩)
    rw [e]
    exact getD_at (by omega)
  unfold m_check_symmetric
  refine bo (rngO_nat (n := p.xs.length) (by rw [hlen]; have := o.n4; omega)) ?_
  refine bo (foldO_unit fun x hx => ?_) rfl
  obtain ⟨i, hi, rfl⟩ := mem_rng.mp hx
  rw [hlen] at hi
  unfold m_check_symmetric_l1
  refine bo (rngO_nat (by have := o.n4; omega)) ?_
  refine bo (foldO_unit fun y hy => ?_) rfl
  obtain ⟨j, hj, rfl⟩ := mem_rng.mp hy
  unfold m_check_symmetric_l2
  obtain ⟨t1, a1, a2⟩ := at1 i j hi (by omega)
  obtain ⟨t2, b1, b2⟩ := at1 j i (by omega) hi
  refine bo a1 (bo a2 (bo b1 (bo b2 ?_)))
  rw [o.sym i j hi (by omega)]
  simp
theorem big_ok {x : Int} (h : x.natAbs ≤ 10000) : (if (decide ((10000 : Int) < (if x < 0 then -x else x))) then (none : Option Unit) else some ()) = some () := by
  rw [if_neg]
  rw [decide_eq_true_eq]
  split <;> omega
theorem lat_S {n : Nat} {g : List (List Int)} (o : LatOk n g) : m_Lattice_init_S (Sq.L (fun p : Sq eI => p.d) (g.map (Sq.L eI))) = some ⟨⟨g, n⟩⟩ := by
  have hx : (Sq.L (fun p : Sq eI => p.d) (g.map (Sq.L eI))).xs.map (·.xs) = g := by
    show (g.map (Sq.L eI)).map (·.xs) = g
    rw [List.map_map]
    exact List.map_id' g
  have hl : (Sq.L (fun p : Sq eI => p.d) (g.map (Sq.L eI))).xs.length = n := by
    show (g.map (Sq.L eI)).length = n
    rw [List.length_map, o.len]
  have n1 := o.n1
  have n4 := o.n4
  unfold m_Lattice_init_S
  have sq : m_square_rows_S (Sq.L (fun p : Sq eI => p.d) (g.map (Sq.L eI))) = some (Sq.L (fun p : Sq eI => p.d) (g.map (Sq.L eI))) := by
    unfold m_square_rows_S
    rw [hl, if_neg (by simp; omega), if_neg (by simp; omega)]
    refine bo (foldO_unit fun x hxm => ?_) rfl
    unfold m_square_rows_S_l1
    have hxl : x.xs.length = n := by
      obtain ⟨r, hr, rfl⟩ := List.mem_map.mp hxm
      exact o.row r hr
    rw [hl, hxl, if_neg (by simp)]
    refine bo (foldO_unit fun y _ => ?_) rfl
    unfold m_square_rows_S_l2
    rfl
  refine bo sq (bo (sym_ok o hx) (bo (foldO_unit fun x hxm => ?_) (bo (x := rng2 1 ((n : Int) + 1)) ?_ (bo (foldO_unit fun k hk => ?_) (bo (mk1_of (n := n) hx (by rw [o.len]; omega) (by rw [o.len]; omega) (by omega) o.row) rfl)))))
  · unfold m_Lattice_init_S_l1
    refine bo (foldO_unit fun y hy => ?_) rfl
    obtain ⟨r, hr, rfl⟩ := List.mem_map.mp hxm
    unfold m_Lattice_init_S_l2
    exact big_ok (o.bd r hr y hy)
  · rw [hl]
    unfold rng2O
    rw [if_pos (by omega)]
  · obtain ⟨k', hk1, hk2, rfl⟩ : ∃ k' : Nat, 1 ≤ k' ∧ k' ≤ n ∧ k = k' := by
      unfold rng2 at hk
      obtain ⟨i, hi, rfl⟩ := List.mem_map.mp hk
      have := List.mem_range.mp hi
      exact ⟨1 + i, by omega, by omega, by omega⟩
    unfold m_Lattice_init_S_l3
    have hc : (Sq.cut (Sq.L (fun p : Sq eI => p.d) (g.map (Sq.L eI))) none (some (k' : Int))).xs = (g.take k').map (Sq.L eI) := by
      show cutL (g.map (Sq.L eI)) none (some (k' : Int)) = _
      rw [cutL_take, List.map_take]
    have hm : ((g.take k').map fun r => r.take k').length = k' := by rw [List.length_map, List.length_take, o.len]; omega
    have hrk : ∀ x ∈ (g.take k').map fun r => r.take k', x.length = k' := fun x hx => by
      obtain ⟨r, hr, rfl⟩ := List.mem_map.mp hx
      rw [List.length_take, o.row r (List.mem_of_mem_take hr)]; omega
    have hbk : ∀ x ∈ (g.take k').map fun r => r.take k', ∀ y ∈ x, y.natAbs ≤ 10000 := fun x hx y hy => by
      obtain ⟨r, hr, rfl⟩ := List.mem_map.mp hx
      exact o.bd r (List.mem_of_mem_take hr) y (List.mem_of_mem_take hy)
    refine bo (lcA_of (g := fun x : Sq eI => Sq.cut x none (some (k' : Int))) (by rw [hc, List.length_map, List.length_take]; omega) fun x _ => rfl) ?_
    refine bo (mk2_of (g := (g.take k').map fun r => r.take k') (n := k') ?_ (by omega) (by omega) hrk) (bo (det_of (gin_of (by omega) hm hrk hbk)) ?_)
    · rw [hc]
      show (((g.take k').map (Sq.L eI)).map fun x : Sq eI => Sq.cut x none (some (k' : Int))).map (·.xs) = _
      rw [List.map_map, List.map_map]
      refine List.map_congr_left fun r _ => ?_
      show cutL r none (some (k' : Int)) = _
      rw [cutL_take]
    · have := o.pos k' hk1 hk2
      rw [if_neg (by rw [decide_eq_true_eq]; omega)]
theorem lat_G {n : Nat} {g : List (List Int)} (o : LatOk n g) : m_Lattice_init_G ⟨g, n⟩ = some ⟨⟨g, n⟩⟩ := by
  have hx : (Sq.T (fun p : Sq eI => p.d) (g.map (Sq.T eI))).xs.map (·.xs) = g := by
    show (g.map (Sq.T eI)).map (·.xs) = g
    rw [List.map_map]
    exact List.map_id' g
  have hl := o.len
  have n1 := o.n1
  have n4 := o.n4
  unfold m_Lattice_init_G
  have sq : m_square_rows_G ⟨g, n⟩ = some g := by
    unfold m_square_rows_G
    rw [show (M_Grid.mk g n).rows = g from rfl, hl, if_neg (by simp; omega), if_neg (by simp; omega)]
    refine bo (foldO_unit fun x hxm => ?_) rfl
    unfold m_square_rows_G_l1
    rw [hl, o.row x hxm, if_neg (by simp)]
    refine bo (foldO_unit fun y _ => ?_) rfl
    unfold m_square_rows_G_l2
    rfl
  refine bo sq (bo (sym_ok o hx) (bo (foldO_unit fun x hxm => ?_) (bo (x := rng2 1 ((n : Int) + 1)) ?_ (bo (foldO_unit fun k hk => ?_) (bo (mk1_of (n := n) hx (by rw [o.len]; omega) (by rw [o.len]; omega) (by omega) o.row) rfl)))))
  · unfold m_Lattice_init_G_l1
    refine bo (foldO_unit fun y hy => ?_) rfl
    unfold m_Lattice_init_G_l2
    exact big_ok (o.bd x hxm y hy)
  · rw [hl]
    unfold rng2O
    rw [if_pos (by omega)]
  · obtain ⟨k', hk1, hk2, rfl⟩ : ∃ k' : Nat, 1 ≤ k' ∧ k' ≤ n ∧ k = k' := by
      unfold rng2 at hk
      obtain ⟨i, hi, rfl⟩ := List.mem_map.mp hk
      have := List.mem_range.mp hi
      exact ⟨1 + i, by omega, by omega, by omega⟩
    unfold m_Lattice_init_G_l3
    have hm : ((g.take k').map fun r => r.take k').length = k' := by rw [List.length_map, List.length_take, o.len]; omega
    have hrk : ∀ x ∈ (g.take k').map fun r => r.take k', x.length = k' := fun x hx => by
      obtain ⟨r, hr, rfl⟩ := List.mem_map.mp hx
      rw [List.length_take, o.row r (List.mem_of_mem_take hr)]; omega
    have hbk : ∀ x ∈ (g.take k').map fun r => r.take k', ∀ y ∈ x, y.natAbs ≤ 10000 := fun x hx y hy => by
      obtain ⟨r, hr, rfl⟩ := List.mem_map.mp hx
      exact o.bd r (List.mem_of_mem_take hr) y (List.mem_of_mem_take hy)
    rw [cutL_take]
    refine bo (lcA_of (g := fun x : List Int => cutL x none (some (k' : Int))) (by rw [List.length_take]; omega) fun x _ => rfl) ?_
    refine bo (mk2_of (g := (g.take k').map fun r => r.take k') (n := k') ?_ (by omega) (by omega) hrk) (bo (det_of (gin_of (by omega) hm hrk hbk)) ?_)
    · show (((g.take k').map fun x : List Int => cutL x none (some (k' : Int))).map (Sq.T eI)).map (·.xs) = _
      rw [List.map_map, List.map_map]
      refine List.map_congr_left fun r _ => ?_
      show cutL r none (some (k' : Int)) = _
      rw [cutL_take]
    · have := o.pos k' hk1 hk2
      rw [if_neg (by rw [decide_eq_true_eq]; omega)]
end G41
set_option Elab.async false
set_option linter.all false
set_option maxRecDepth 100000
set_option maxHeartbeats 4000000
namespace G41
open G
theorem prod2 {p q : Int} (hp : p.natAbs ≤ 2) (hq : q.natAbs ≤ 2) : -4 ≤ p * q ∧ p * q ≤ 4 := by
  have h : (p * q).natAbs ≤ 4 := by
    rw [Int.natAbs_mul]
    exact Nat.mul_le_mul hp hq
  omega
theorem sq2' (p : Int) : 0 ≤ p * p := by
  rcases Int.le_total 0 p with h | h
  · exact Int.mul_nonneg h h
  · exact Int.mul_nonneg_of_nonpos_of_nonpos h h
theorem Rw.at {rs : List (List Int)} {h w m : Nat} (o : Rw rs h w m) {r : List Int} {y : Int} (hr : r ∈ rs) (hy : y ∈ r) : y.natAbs ≤ m := o.sm r hr y hy
theorem gr1 {g a : List (List Int)} {e : Nat → Int} (h : Gr 1 g a e) : ∃ x, g = [[x]] ∧ 1 ≤ x ∧ x ≤ 15 := by
  obtain ⟨_, _, o, he, hg⟩ := h
  obtain ⟨r, rfl⟩ := lit1 o.len
  obtain ⟨p, rfl⟩ := lit1 (o.row r (by simp))
  have hp := o.at (r := [p]) (y := p) (by simp) (by simp)
  have h0 := he 0
  have b := prod2 hp hp
  have c := sq2' p
  exact ⟨p * p + e 0, by rw [hg]; simp [genM, gF, List.range, List.range.loop], by omega, by omega⟩
theorem gr2 {g a : List (List Int)} {e : Nat → Int} (h : Gr 2 g a e) : ∃ x y z, g = [[x, y], [y, z]] ∧ 1 ≤ x ∧ x ≤ 15 ∧ -15 ≤ y ∧ y ≤ 15 ∧ 1 ≤ z ∧ z ≤ 15 ∧ 1 ≤ x * z - y * y := by
  obtain ⟨_, _, o, he, hg⟩ := h
  obtain ⟨r, s, rfl⟩ := lit2 o.len
  obtain ⟨p, q, rfl⟩ := lit2 (o.row r (by simp))
  obtain ⟨t, u, rfl⟩ := lit2 (o.row s (by simp))
  have hp := o.at (r := [p, q]) (y := p) (by simp) (by simp)
  have hq := o.at (r := [p, q]) (y := q) (by simp) (by simp)
  have ht := o.at (r := [t, u]) (y := t) (by simp) (by simp)
  have hu := o.at (r := [t, u]) (y := u) (by simp) (by simp)
  have h0 := he 0
  have h1 := he 1
  have b1 := prod2 hp hp
  have b2 := prod2 hq hq
  have b3 := prod2 ht ht
  have b4 := prod2 hu hu
  have b5 := prod2 hp ht
  have b6 := prod2 hq hu
  have c1 := sq2' p
  have c2 := sq2' q
  have c3 := sq2' t
  have c4 := sq2' u
  refine ⟨p * p + q * q + e 0, p * t + q * u, t * t + u * u + e 1, ?_, by omega, by omega, by omega, by omega, by omega, by omega, ?_⟩
  · rw [hg]; simp [genM, gF, List.range, List.range.loop]
    rw [Int.mul_comm t p, Int.mul_comm u q]
  · have id : (p * p + q * q + e 0) * (t * t + u * u + e 1) - (p * t + q * u) * (p * t + q * u) = (p * u - q * t) * (p * u - q * t) + e 0 * (t * t) + e 0 * (u * u) + e 1 * (p * p) + e 1 * (q * q) + e 0 * e 1 := by grind
    rw [id]
    have d1 := sq2' (p * u - q * t)
    have d2 := Int.mul_nonneg (show 0 ≤ e 0 by omega) c3
    have d3 := Int.mul_nonneg (show 0 ≤ e 0 by omega) c4
    have d4 := Int.mul_nonneg (show 0 ≤ e 1 by omega) c1
    have d5 := Int.mul_nonneg (show 0 ≤ e 1 by omega) c2
    have d6 : 0 < e 0 * e 1 := Int.mul_pos (by omega) (by omega)
    omega
theorem lagr (a b c d e f : Int) : (a * a + b * b + c * c) * (d * d + e * e + f * f) - (a * d + b * e + c * f) * (a * d + b * e + c * f) = (b * f - c * e) * (b * f - c * e) + (a * f - c * d) * (a * f - c * d) + (a * e - b * d) * (a * e - b * d) := by grind
theorem gramdet (a b c d e f g h i : Int) : det3 (a * a + b * b + c * c) (a * d + b * e + c * f) (a * g + b * h + c * i) (a * d + b * e + c * f) (d * d + e * e + f * f) (d * g + e * h + f * i) (a * g + b * h + c * i) (d * g + e * h + f * i) (g * g + h * h + i * i) = det3 a b c d e f g h i * det3 a b c d e f g h i := by
  unfold det3
  grind
theorem det3_shift (A B C d f h u v w : Int) : det3 (A + u) d f d (B + v) h f h (C + w) = det3 A d f d B h f h C + u * (B * C - h * h) + v * (A * C - f * f) + w * (A * B - d * d) + u * v * C + u * w * B + v * w * A + u * v * w := by
  unfold det3
  grind
theorem minor_pos {A B d u v : Int} (hA : 0 ≤ A) (hB : 0 ≤ B) (hd : 0 ≤ A * B - d * d) (hu : 1 ≤ u) (hv : 1 ≤ v) : 1 ≤ (A + u) * (B + v) - d * d := by
  have e : (A + u) * (B + v) - d * d = (A * B - d * d) + u * B + v * A + u * v := by grind
  rw [e]
  have d1 := Int.mul_nonneg (show 0 ≤ u by omega) hB
  have d2 := Int.mul_nonneg (show 0 ≤ v by omega) hA
  have d3 : 0 < u * v := Int.mul_pos (by omega) (by omega)
  omega
structure P3 (x y z u v w : Int) : Prop where
  bx : 1 ≤ x ∧ x ≤ 15
  by_ : -15 ≤ y ∧ y ≤ 15
  bz : -15 ≤ z ∧ z ≤ 15
  bu : 1 ≤ u ∧ u ≤ 15
  bv : -15 ≤ v ∧ v ≤ 15
  bw : 1 ≤ w ∧ w ≤ 15
  m1 : 1 ≤ x * u - y * y
  m2 : 1 ≤ x * w - z * z
  m3 : 1 ≤ u * w - v * v
  d : 1 ≤ det3 x y z y u v z v w
theorem gr3 {g a : List (List Int)} {e : Nat → Int} (h : Gr 3 g a e) : ∃ x y z u v w, g = [[x, y, z], [y, u, v], [z, v, w]] ∧ P3 x y z u v w := by
  obtain ⟨_, _, o, he, hg⟩ := h
  obtain ⟨r1, r2, r3, rfl⟩ := lit3 o.len
  obtain ⟨a, b, c, rfl⟩ := lit3 (o.row r1 (by simp))
  obtain ⟨d, f, k, rfl⟩ := lit3 (o.row r2 (by simp))
  obtain ⟨l, m, n, rfl⟩ := lit3 (o.row r3 (by simp))
  have ba := o.at (r := [a, b, c]) (y := a) (by simp) (by simp)
  have bb := o.at (r := [a, b, c]) (y := b) (by simp) (by simp)
  have bc := o.at (r := [a, b, c]) (y := c) (by simp) (by simp)
  have bd := o.at (r := [d, f, k]) (y := d) (by simp) (by simp)
  have bf := o.at (r := [d, f, k]) (y := f) (by simp) (by simp)
  have bk := o.at (r := [d, f, k]) (y := k) (by simp) (by simp)
  have bl := o.at (r := [l, m, n]) (y := l) (by simp) (by simp)
  have bm := o.at (r := [l, m, n]) (y := m) (by simp) (by simp)
  have bn := o.at (r := [l, m, n]) (y := n) (by simp) (by simp)
  have h0 := he 0
  have h1 := he 1
  have h2 := he 2
  have s1 := sq2' a
  have s2 := sq2' b
  have s3 := sq2' c
  have s4 := sq2' d
  have s5 := sq2' f
  have s6 := sq2' k
  have s7 := sq2' l
  have s8 := sq2' m
  have s9 := sq2' n
  have t1 := prod2 ba ba
  have t2 := prod2 bb bb
  have t3 := prod2 bc bc
  have t4 := prod2 bd bd
  have t5 := prod2 bf bf
  have t6 := prod2 bk bk
  have t7 := prod2 bl bl
  have t8 := prod2 bm bm
  have t9 := prod2 bn bn
  have x1 := prod2 ba bd
  have x2 := prod2 bb bf
  have x3 := prod2 bc bk
  have x4 := prod2 ba bl
  have x5 := prod2 bb bm
  have x6 := prod2 bc bn
  have x7 := prod2 bd bl
  have x8 := prod2 bf bm
  have x9 := prod2 bk bn
  have L1 : 0 ≤ (a * a + b * b + c * c) * (d * d + f * f + k * k) - (a * d + b * f + c * k) * (a * d + b * f + c * k) := by
    rw [lagr]
    have := sq2' (b * k - c * f); have := sq2' (a * k - c * d); have := sq2' (a * f - b * d)
    omega
  have L2 : 0 ≤ (a * a + b * b + c * c) * (l * l + m * m + n * n) - (a * l + b * m + c * n) * (a * l + b * m + c * n) := by
    rw [lagr]
    have := sq2' (b * n - c * m); have := sq2' (a * n - c * l); have := sq2' (a * m - b * l)
    omega
  have L3 : 0 ≤ (d * d + f * f + k * k) * (l * l + m * m + n * n) - (d * l + f * m + k * n) * (d * l + f * m + k * n) := by
    rw [lagr]
    have := sq2' (f * n - k * m); have := sq2' (d * n - k * l); have := sq2' (d * m - f * l)
    omega
  refine ⟨a * a + b * b + c * c + e 0, a * d + b * f + c * k, a * l + b * m + c * n, d * d + f * f + k * k + e 1, d * l + f * m + k * n, l * l + m * m + n * n + e 2, ?_, ⟨by omega, by omega⟩, ⟨by omega, by omega⟩, ⟨by omega, by omega⟩, ⟨by omega, by omega⟩, ⟨by omega, by omega⟩, ⟨by omega, by omega⟩, minor_pos (by omega) (by omega) L1 h0.1 h1.1, minor_pos (by omega) (by omega) L2 h0.1 h2.1, minor_pos (by omega) (by omega) L3 h1.1 h2.1, ?_⟩
  · rw [hg]
    simp [genM, gF, List.range, List.range.loop, Int.add_assoc]
    rw [Int.mul_comm d a, Int.mul_comm f b, Int.mul_comm k c, Int.mul_comm l a, Int.mul_comm m b, Int.mul_comm n c, Int.mul_comm l d, Int.mul_comm m f, Int.mul_comm n k]
    simp
  · rw [det3_shift, gramdet]
    have q1 := sq2' (det3 a b c d f k l m n)
    have q2 := Int.mul_nonneg (show 0 ≤ e 0 by omega) L3
    have q3 := Int.mul_nonneg (show 0 ≤ e 1 by omega) L2
    have q4 := Int.mul_nonneg (show 0 ≤ e 2 by omega) L1
    have q5 : 0 ≤ e 0 * e 1 * (l * l + m * m + n * n) := Int.mul_nonneg (Int.mul_nonneg (by omega) (by omega)) (by omega)
    have q6 : 0 ≤ e 0 * e 2 * (d * d + f * f + k * k) := Int.mul_nonneg (Int.mul_nonneg (by omega) (by omega)) (by omega)
    have q7 : 0 ≤ e 1 * e 2 * (a * a + b * b + c * c) := Int.mul_nonneg (Int.mul_nonneg (by omega) (by omega)) (by omega)
    have q8 : 0 < e 0 * e 1 * e 2 := Int.mul_pos (Int.mul_pos (by omega) (by omega)) (by omega)
    omega
end G41
set_option Elab.async false
set_option linter.all false
set_option maxRecDepth 100000
set_option maxHeartbeats 4000000
namespace G41
open G
def divM (M : List (List Int)) (c : Int) : List (List Int) := M.map fun r => r.map fun x => x.fdiv c
theorem pos_mul {c t s : Int} (hc : 0 < c) (h : c * t = s) (hs : 1 ≤ s) : 1 ≤ t := by
  rcases Int.lt_or_le 0 t with z | z
  · omega
  · have := Int.mul_nonpos_of_nonneg_of_nonpos (Int.le_of_lt hc) z
    omega
theorem abs_div {c t s : Int} {B : Nat} (hc : 0 < c) (h : c * t = s) (hs : s.natAbs ≤ B) : t.natAbs ≤ B := by
  rw [← h, Int.natAbs_mul] at hs
  exact Nat.le_trans (Nat.le_mul_of_pos_left _ (by omega)) hs
theorem lat1 {p : Int} (h1 : 1 ≤ p) (b : p.natAbs ≤ 10000) : LatOk 1 [[p]] := ⟨by omega, by omega, rfl, fun x hx => by simp at hx; subst hx; rfl, fun i j hi hj => by
    have : i = 0 := by omega
    have : j = 0 := by omega
    subst i; subst j; rfl, fun x hx y hy => by simp at hx; subst hx; simp at hy; subst hy; exact b, fun k h1' hk => by
    have : k = 1 := by omega
    subst this
    show 1 ≤ bar [[p]]
    rw [bar1]; exact h1⟩
theorem lat2 {p q r : Int} (h1 : 1 ≤ p) (h2 : 1 ≤ p * r - q * q) (b1 : p.natAbs ≤ 10000) (b2 : q.natAbs ≤ 10000) (b3 : r.natAbs ≤ 10000) : LatOk 2 [[p, q], [q, r]] := ⟨by omega, by omega, rfl, fun x hx => by simp at hx; rcases hx with rfl | rfl <;> rfl, fun i j hi hj => by
    have h : i = 0 ∨ i = 1 := by omega
    have h' : j = 0 ∨ j = 1 := by omega
    rcases h with rfl | rfl <;> rcases h' with rfl | rfl <;> rfl, fun x hx y hy => by simp at hx; rcases hx with rfl | rfl <;> (simp at hy; rcases hy with rfl | rfl <;> assumption), fun k h1' hk => by
    have : k = 1 ∨ k = 2 := by omega
    rcases this with rfl | rfl
    · show 1 ≤ bar [[p]]
      rw [bar1]; exact h1
    · show 1 ≤ bar [[p, q], [q, r]]
      rw [bar2]; exact h2⟩
theorem lat3 {p q r s t w : Int} (h1 : 1 ≤ p) (h2 : 1 ≤ p * s - q * q) (h3 : 1 ≤ det3 p q r q s t r t w) (b1 : p.natAbs ≤ 10000) (b2 : q.natAbs ≤ 10000) (b3 : r.natAbs ≤ 10000) (b4 : s.natAbs ≤ 10000) (b5 : t.natAbs ≤ 10000) (b6 : w.natAbs ≤ 10000) : LatOk 3 [[p, q, r], [q, s, t], [r, t, w]] := ⟨by omega, by omega, rfl, fun x hx => by simp at hx; rcases hx with rfl | rfl | rfl <;> rfl, fun i j hi hj => by
    have h : i = 0 ∨ i = 1 ∨ i = 2 := by omega
    have h' : j = 0 ∨ j = 1 ∨ j = 2 := by omega
    rcases h with rfl | rfl | rfl <;> rcases h' with rfl | rfl | rfl <;> rfl, fun x hx y hy => by simp at hx; rcases hx with rfl | rfl | rfl <;> (simp at hy; rcases hy with rfl | rfl | rfl <;> assumption), fun k h1' hk => by
    have : k = 1 ∨ k = 2 ∨ k = 3 := by omega
    rcases this with rfl | rfl | rfl
    · show 1 ≤ bar [[p]]
      rw [bar1]; exact h1
    · show 1 ≤ bar [[p, q], [q, s]]
      rw [bar2]; exact h2
    · show 1 ≤ bar [[p, q, r], [q, s, t], [r, t, w]]
      rw [bar3]; exact h3⟩
def dotL (xs ys : List Int) : Int := ((List.zip xs ys).map fun p => p.1 * p.2).sum
def col (M : List (List Int)) (k : Nat) : List Int := M.map fun r => r.getD k 0
structure LD (n : Nat) (g A : List (List Int)) (d : Int) : Prop where
  n1 : 1 ≤ n
  n3 : n ≤ 3
  lat : LatOk n g
  eA : adjM g n = A
  ed : bar g = d
  d1 : 1 ≤ d
  dB : d ≤ 100000
  lenA : A.length = n
  rowA : ∀ x ∈ A, x.length = n
  bdA : ∀ x ∈ A, ∀ y ∈ x, y.natAbs ≤ 450
  bg : ∀ x ∈ g, ∀ y ∈ x, y.natAbs ≤ 15
  idA : ∀ i k, i < n → k < n → dotL (A.getD i []) (col g k) = if i = k then d else 0
  cA : 0 < gN A.flatten
  lc : LatOk n (divM A (gN A.flatten : Nat))
  cB : 0 < gN (adjM (divM A (gN A.flatten : Nat)) n).flatten
  cg : 0 < gN g.flatten
  fin : divM (adjM (divM A (gN A.flatten : Nat)) n) (gN (adjM (divM A (gN A.flatten : Nat)) n).flatten : Nat) = divM g (gN g.flatten : Nat)
  lg : LatOk n (divM g (gN g.flatten : Nat))
theorem adj1 (x : Int) : adjM [[x]] 1 = [[1]] := by
  simp [adjM, adjE, minorM, delC, genM, List.range_succ, bar0]
theorem adj2 (a b c d : Int) : adjM [[a, b], [c, d]] 2 = [[d, -b], [-c, a]] := by
  simp [adjM, adjE, minorM, delC, genM, List.range_succ, bar1]
theorem adj3 (a b c d e f g h i : Int) : adjM [[a, b, c], [d, e, f], [g, h, i]] 3 = [[e * i - f * h, -(b * i - c * h), b * f - c * e], [-(d * i - f * g), a * i - c * g, -(a * f - c * d)], [d * h - e * g, -(a * h - b * g), a * e - b * d]] := by
  simp [adjM, adjE, minorM, delC, genM, List.range_succ, bar2]
theorem ld1 {x : Int} (h1 : 1 ≤ x) (h2 : x ≤ 15) : LD 1 [[x]] [[1]] x := by
  have g1 : gN ([[1]] : List (List Int)).flatten = 1 := rfl
  have dv : divM [[1]] ((1 : Nat) : Int) = [[1]] := rfl
  have gx : gN ([[x]] : List (List Int)).flatten = x.natAbs := by simp [gN]
  have dx : divM [[x]] (x.natAbs : Nat) = [[1]] := by
    have : ((x.natAbs : Nat) : Int) = x := by omega
    simp only [divM, List.map, this]
    have := Int.mul_fdiv_cancel_left 1 (show x ≠ 0 by omega)
    rw [Int.mul_one] at this
    rw [this]
  refine ⟨by omega, by omega, lat1 h1 (by omega), adj1 x, bar1 x, h1, by omega, rfl, fun r hr => ?_, fun r hr y hy => ?_, fun r hr y hy => ?_, fun i k hi hk => ?_, by rw [g1]; omega, ?_, ?_, by rw [gx]; omega, ?_, ?_⟩
  · simp at hr; subst hr; rfl
  · simp at hr; subst hr; simp at hy; subst hy; decide
  · simp at hr; subst hr; simp at hy; subst hy; omega
  · have : i = 0 := by omega
    have : k = 0 := by omega
    subst i; subst k
    simp [dotL, col]
  · rw [g1, dv]; exact lat1 (by omega) (by decide)
  · rw [g1, dv, adj1, g1]; omega
  · rw [g1, dv, adj1, g1, dv, gx, dx]
  · rw [gx, dx]; exact lat1 (by omega) (by decide)
theorem ld2 {x y z : Int} (hx : 1 ≤ x ∧ x ≤ 15) (hy : -15 ≤ y ∧ y ≤ 15) (hz : 1 ≤ z ∧ z ≤ 15) (hd : 1 ≤ x * z - y * y) : LD 2 [[x, y], [y, z]] [[z, -y], [-y, x]] (x * z - y * y) := by
  have hc : 0 < gN ([[z, -y], [-y, x]] : List (List Int)).flatten := gN_pos (x := z) (by simp) (by omega)
  have hg : 0 < gN ([[x, y], [y, z]] : List (List Int)).flatten := gN_pos (x := x) (by simp) (by omega)
  generalize hcc : gN ([[z, -y], [-y, x]] : List (List Int)).flatten = c at hc
  have e1 := div_mul (d := (c : Int)) (x := z) (by omega) (by rw [← hcc]; exact gN_dvd _ (by simp))
  have e2 := div_mul (d := (c : Int)) (x := -y) (by omega) (by rw [← hcc]; exact gN_dvd _ (by simp))
  have e3 := div_mul (d := (c : Int)) (x := x) (by omega) (by rw [← hcc]; exact gN_dvd _ (by simp))
  have dv : divM [[z, -y], [-y, x]] (c : Int) = [[z.fdiv c, (-y).fdiv c], [(-y).fdiv c, x.fdiv c]] := rfl
  generalize z.fdiv c = p at e1 dv
  generalize (-y).fdiv c = q at e2 dv
  generalize x.fdiv c = r at e3 dv
  have hp : 1 ≤ p := pos_mul (by omega) e1 hz.1
  have hpr : 1 ≤ p * r - q * q := by
    refine pos_mul (c := (c : Int) * c) (Int.mul_pos (by omega) (by omega)) ?_ hd
    have : (c : Int) * c * (p * r - q * q) = (c * p) * (c * r) - (c * q) * (c * q) := by grind
    rw [this, e1, e2, e3]
    grind
  have xz : -225 ≤ x * z ∧ x * z ≤ 225 := by
    have : (x * z).natAbs ≤ 225 := by rw [Int.natAbs_mul]; exact Nat.mul_le_mul (show x.natAbs ≤ 15 by omega) (show z.natAbs ≤ 15 by omega)
    omega
  have yy := sq2' y
  generalize hgg : gN ([[x, y], [y, z]] : List (List Int)).flatten = h at hg
  have f1 := div_mul (d := (h : Int)) (x := x) (by omega) (by rw [← hgg]; exact gN_dvd _ (by simp))
  have f2 := div_mul (d := (h : Int)) (x := y) (by omega) (by rw [← hgg]; exact gN_dvd _ (by simp))
  have f3 := div_mul (d := (h : Int)) (x := z) (by omega) (by rw [← hgg]; exact gN_dvd _ (by simp))
  have dg : divM [[x, y], [y, z]] (h : Int) = [[x.fdiv h, y.fdiv h], [y.fdiv h, z.fdiv h]] := rfl
  have hB : 0 < gN ([[r, -q], [-q, p]] : List (List Int)).flatten := gN_pos (x := p) (by simp) (by omega)
  refine ⟨by omega, by omega, lat2 hx.1 hd (by omega) (by omega) (by omega), adj2 x y y z, bar2 x y y z, hd, by omega, rfl, fun s hs => ?_, fun s hs t ht => ?_, fun s hs t ht => ?_, fun i k hi hk => ?_, by rw [hcc]; exact hc, ?_, ?_, by rw [hgg]; exact hg, ?_, ?_⟩
  · simp at hs; rcases hs with rfl | rfl <;> rfl
  · simp at hs; rcases hs with rfl | rfl <;> (simp at ht; rcases ht with rfl | rfl <;> omega)
  · simp at hs; rcases hs with rfl | rfl <;> (simp at ht; rcases ht with rfl | rfl <;> omega)
  · have h : i = 0 ∨ i = 1 := by omega
    have h' : k = 0 ∨ k = 1 := by omega
    rcases h with rfl | rfl <;> rcases h' with rfl | rfl <;> simp [dotL, col] <;> grind
  · rw [hcc, dv]
    exact lat2 hp hpr (abs_div (by omega) e1 (by omega)) (abs_div (by omega) e2 (by omega)) (abs_div (by omega) e3 (by omega))
  · rw [hcc, dv, adj2]; exact hB
  · rw [hcc, dv, adj2, hgg, dg]
    have z := prop_eq (xs := ([[r, -q], [-q, p]] : List (List Int)).flatten) (ys := ([[x, y], [y, z]] : List (List Int)).flatten) (p := c) (q := 1) (by omega) (by omega) hB (by rw [hgg]; exact hg) rfl fun i h1 h2 => by
      simp at h1
      have hi : i = 0 ∨ i = 1 ∨ i = 2 ∨ i = 3 := by omega
      rcases hi with rfl | rfl | rfl | rfl
      · show (c : Int) * r = 1 * x; omega
      · show (c : Int) * -q = 1 * y; rw [Int.mul_neg]; omega
      · show (c : Int) * -q = 1 * y; rw [Int.mul_neg]; omega
      · show (c : Int) * p = 1 * z; omega
    rw [hgg] at z
    have z0 : r.fdiv _ = x.fdiv h := z 0 (by simp) (by simp)
    have z1 : (-q).fdiv _ = y.fdiv h := z 1 (by simp) (by simp)
    have z3 : p.fdiv _ = _ := z 3 (by simp) (by simp)
    simp only [divM, List.map]
    rw [z0, z1, z3]
    rfl
  · rw [hgg, dg]
    generalize x.fdiv h = u at f1
    generalize y.fdiv h = v at f2
    generalize z.fdiv h = w at f3
    refine lat2 (pos_mul (by omega) f1 hx.1) (pos_mul (c := (h : Int) * h) (Int.mul_pos (by omega) (by omega)) ?_ hd) (abs_div (by omega) f1 (by omega)) (abs_div (by omega) f2 (by omega)) (abs_div (by omega) f3 (by omega))
    have : (h : Int) * h * (u * w - v * v) = (h * u) * (h * w) - (h * v) * (h * v) := by grind
    rw [this, f1, f2, f3]
end G41
set_option Elab.async false
set_option linter.all false
set_option maxRecDepth 100000
set_option maxHeartbeats 8000000
namespace G41
open G
theorem mul15 {a b : Int} (ha : a.natAbs ≤ 15) (hb : b.natAbs ≤ 15) : (a * b).natAbs ≤ 225 := by rw [Int.natAbs_mul]; exact Nat.mul_le_mul ha hb
theorem jl (t p q r s : Int) : t * t * (p * q - r * s) = (t * p) * (t * q) - (t * r) * (t * s) := by grind
theorem jn (t p q r s : Int) : t * t * -(p * q - r * s) = -((t * p) * (t * q) - (t * r) * (t * s)) := by grind
theorem j3l (t a b c d e f g h i : Int) : t * t * t * det3 a b c d e f g h i = det3 (t * a) (t * b) (t * c) (t * d) (t * e) (t * f) (t * g) (t * h) (t * i) := by
  unfold det3
  grind
theorem mul450 {a b : Int} (ha : a.natAbs ≤ 15) (hb : b.natAbs ≤ 450) : (a * b).natAbs ≤ 6750 := by rw [Int.natAbs_mul]; exact Nat.mul_le_mul ha hb
/-- the adjugate of a symmetric matrix of three rows -/
theorem ld3 {x y z u v w : Int} (o : P3 x y z u v w) : LD 3 [[x, y, z], [y, u, v], [z, v, w]] [[u * w - v * v, -(y * w - z * v), y * v - z * u], [-(y * w - z * v), x * w - z * z, -(x * v - z * y)], [y * v - z * u, -(x * v - z * y), x * u - y * y]] (det3 x y z y u v z v w) := by
  obtain ⟨bx, by_, bz, bu, bv, bw, m1, m2, m3, d⟩ := o
  have nx : x.natAbs ≤ 15 := by omega
  have ny : y.natAbs ≤ 15 := by omega
  have nz : z.natAbs ≤ 15 := by omega
  have nu : u.natAbs ≤ 15 := by omega
  have nv : v.natAbs ≤ 15 := by omega
  have nw : w.natAbs ≤ 15 := by omega
  have q1 := mul15 nu nw
  have q2 := mul15 nv nv
  have q3 := mul15 ny nw
  have q4 := mul15 nz nv
  have q5 := mul15 ny nv
  have q6 := mul15 nz nu
  have q7 := mul15 nx nw
  have q8 := mul15 nz nz
  have q9 := mul15 nx nv
  have q10 := mul15 nz ny
  have q11 := mul15 nx nu
  have q12 := mul15 ny ny
  have eA : adjM [[x, y, z], [y, u, v], [z, v, w]] 3 = [[u * w - v * v, -(y * w - z * v), y * v - z * u], [-(y * w - z * v), x * w - z * z, -(x * v - z * y)], [y * v - z * u, -(x * v - z * y), x * u - y * y]] := by
    rw [adj3, Int.mul_comm v z, Int.mul_comm u z, Int.mul_comm y z]
  have dE : det3 x y z y u v z v w = x * (u * w - v * v) + y * (-(y * w - z * v)) + z * (y * v - z * u) := by
    unfold det3
    grind
  generalize hA : u * w - v * v = a at *
  generalize hB : -(y * w - z * v) = b at *
  generalize hC : y * v - z * u = c at *
  generalize hD : x * w - z * z = e at *
  generalize hE : -(x * v - z * y) = f at *
  generalize hF : x * u - y * y = g at *
  have na : a.natAbs ≤ 450 := by omega
  have nb : b.natAbs ≤ 450 := by omega
  have nc : c.natAbs ≤ 450 := by omega
  have ne : e.natAbs ≤ 450 := by omega
  have nf : f.natAbs ≤ 450 := by omega
  have ng : g.natAbs ≤ 450 := by omega
  have r1 := mul450 nx na
  have r2 := mul450 ny nb
  have r3 := mul450 nz nc
  generalize hdet : det3 x y z y u v z v w = D at *
  -- minors of the adjugate
  have k1 : e * g - f * f = D * x := by subst hA hB hC hD hE hF; rw [← hdet]; unfold det3; grind
  have k2 : b * g - c * f = -(D * y) := by subst hA hB hC hD hE hF; rw [← hdet]; unfold det3; grind
  have k3 : b * f - c * e = D * z := by subst hA hB hC hD hE hF; rw [← hdet]; unfold det3; grind
  have k4 : a * g - c * c = D * u := by subst hA hB hC hD hE hF; rw [← hdet]; unfold det3; grind
  have k5 : a * f - c * b = -(D * v) := by subst hA hB hC hD hE hF; rw [← hdet]; unfold det3; grind
  have k6 : a * e - b * b = D * w := by subst hA hB hC hD hE hF; rw [← hdet]; unfold det3; grind
  have k7 : det3 a b c b e f c f g = D * D := by subst hA hB hC hD hE hF; rw [← hdet]; unfold det3; grind
  have i1 : x * a + y * b + z * c = D := by omega
  have i2 : x * b + y * e + z * f = 0 := by subst hA hB hC hD hE hF; grind
  have i3 : x * c + y * f + z * g = 0 := by subst hA hB hC hD hE hF; grind
  have i4 : y * a + u * b + v * c = 0 := by subst hA hB hC hD hE hF; grind
  have i5 : y * b + u * e + v * f = D := by subst hA hB hC hD hE hF; rw [← hdet]; unfold det3; grind
  have i6 : y * c + u * f + v * g = 0 := by subst hA hB hC hD hE hF; grind
  have i7 : z * a + v * b + w * c = 0 := by subst hA hB hC hD hE hF; grind
  have i8 : z * b + v * e + w * f = 0 := by subst hA hB hC hD hE hF; grind
  have i9 : z * c + v * f + w * g = D := by subst hA hB hC hD hE hF; rw [← hdet]; unfold det3; grind
  clear hA hB hC hD hE q1 q2 q3 q4 q5 q6 q7 q8 q9 q10 q11 q12
  have hc : 0 < gN ([[a, b, c], [b, e, f], [c, f, g]] : List (List Int)).flatten := gN_pos (x := a) (by simp) (by omega)
  have hg : 0 < gN ([[x, y, z], [y, u, v], [z, v, w]] : List (List Int)).flatten := gN_pos (x := x) (by simp) (by omega)
  generalize hcc : gN ([[a, b, c], [b, e, f], [c, f, g]] : List (List Int)).flatten = t at hc
  have e1 := div_mul (d := (t : Int)) (x := a) (by omega) (by rw [← hcc]; exact gN_dvd _ (by simp))
  have e2 := div_mul (d := (t : Int)) (x := b) (by omega) (by rw [← hcc]; exact gN_dvd _ (by simp))
  have e3 := div_mul (d := (t : Int)) (x := c) (by omega) (by rw [← hcc]; exact gN_dvd _ (by simp))
  have e4 := div_mul (d := (t : Int)) (x := e) (by omega) (by rw [← hcc]; exact gN_dvd _ (by simp))
  have e5 := div_mul (d := (t : Int)) (x := f) (by omega) (by rw [← hcc]; exact gN_dvd _ (by simp))
  have e6 := div_mul (d := (t : Int)) (x := g) (by omega) (by rw [← hcc]; exact gN_dvd _ (by simp))
  have dv : divM [[a, b, c], [b, e, f], [c, f, g]] (t : Int) = [[a.fdiv t, b.fdiv t, c.fdiv t], [b.fdiv t, e.fdiv t, f.fdiv t], [c.fdiv t, f.fdiv t, g.fdiv t]] := rfl
  generalize a.fdiv t = a' at e1 dv
  generalize b.fdiv t = b' at e2 dv
  generalize c.fdiv t = c' at e3 dv
  generalize e.fdiv t = e' at e4 dv
  generalize f.fdiv t = f' at e5 dv
  generalize g.fdiv t = g' at e6 dv
  have tt : (0 : Int) < (t : Int) * t := Int.mul_pos (by omega) (by omega)
  have j1 : (t : Int) * t * (e' * g' - f' * f') = D * x := by rw [jl, e4, e6, e5, k1]
  have j2 : (t : Int) * t * -(b' * g' - c' * f') = D * y := by rw [jn, e2, e6, e3, e5, k2, Int.neg_neg]
  have j3 : (t : Int) * t * (b' * f' - c' * e') = D * z := by rw [jl, e2, e5, e3, e4, k3]
  have j4 : (t : Int) * t * (a' * g' - c' * c') = D * u := by rw [jl, e1, e6, e3, k4]
  have j5 : (t : Int) * t * -(a' * f' - c' * b') = D * v := by rw [jn, e1, e5, e3, e2, k5, Int.neg_neg]
  have j6 : (t : Int) * t * (a' * e' - b' * b') = D * w := by rw [jl, e1, e4, e2, k6]
  have j7 : (t : Int) * t * t * det3 a' b' c' b' e' f' c' f' g' = D * D := by rw [j3l, e1, e2, e3, e4, e5, e6, k7]
  have pD : ∀ s : Int, 1 ≤ s → 1 ≤ D * s := fun s hs => by have := Int.mul_pos (show 0 < D by omega) (show 0 < s by omega); omega
  have hp : 1 ≤ a' := pos_mul (by omega) e1 m3
  have hpr : 1 ≤ a' * e' - b' * b' := pos_mul tt j6 (pD w bw.1)
  have hpd : 1 ≤ det3 a' b' c' b' e' f' c' f' g' := pos_mul (Int.mul_pos tt (by omega)) j7 (pD D d)
  have hB1 : 1 ≤ e' * g' - f' * f' := pos_mul tt j1 (pD x bx.1)
  generalize hgg : gN ([[x, y, z], [y, u, v], [z, v, w]] : List (List Int)).flatten = h at hg
  have f1 := div_mul (d := (h : Int)) (x := x) (by omega) (by rw [← hgg]; exact gN_dvd _ (by simp))
  have f2 := div_mul (d := (h : Int)) (x := y) (by omega) (by rw [← hgg]; exact gN_dvd _ (by simp))
  have f3 := div_mul (d := (h : Int)) (x := z) (by omega) (by rw [← hgg]; exact gN_dvd _ (by simp))
  have f4 := div_mul (d := (h : Int)) (x := u) (by omega) (by rw [← hgg]; exact gN_dvd _ (by simp))
  have f5 := div_mul (d := (h : Int)) (x := v) (by omega) (by rw [← hgg]; exact gN_dvd _ (by simp))
  have f6 := div_mul (d := (h : Int)) (x := w) (by omega) (by rw [← hgg]; exact gN_dvd _ (by simp))
  have dg : divM [[x, y, z], [y, u, v], [z, v, w]] (h : Int) = [[x.fdiv h, y.fdiv h, z.fdiv h], [y.fdiv h, u.fdiv h, v.fdiv h], [z.fdiv h, v.fdiv h, w.fdiv h]] := rfl
  have aB : adjM [[a', b', c'], [b', e', f'], [c', f', g']] 3 = [[e' * g' - f' * f', -(b' * g' - c' * f'), b' * f' - c' * e'], [-(b' * g' - c' * f'), a' * g' - c' * c', -(a' * f' - c' * b')], [b' * f' - c' * e', -(a' * f' - c' * b'), a' * e' - b' * b']] := by
    rw [adj3, Int.mul_comm f' c', Int.mul_comm e' c', Int.mul_comm b' c']
  have hB : 0 < gN ([[e' * g' - f' * f', -(b' * g' - c' * f'), b' * f' - c' * e'], [-(b' * g' - c' * f'), a' * g' - c' * c', -(a' * f' - c' * b')], [b' * f' - c' * e', -(a' * f' - c' * b'), a' * e' - b' * b']] : List (List Int)).flatten := gN_pos (x := e' * g' - f' * f') (by simp) (by omega)
  generalize e' * g' - f' * f' = A1 at *
  generalize -(b' * g' - c' * f') = A2 at *
  generalize b' * f' - c' * e' = A3 at *
  generalize a' * g' - c' * c' = A4 at *
  generalize -(a' * f' - c' * b') = A5 at *
  generalize hA6 : a' * e' - b' * b' = A6 at *
  refine ⟨by omega, by omega, lat3 bx.1 (by rw [hF]; exact m1) (by rw [hdet]; exact d) (by omega) (by omega) (by omega) (by omega) (by omega) (by omega), eA, by rw [bar3]; exact hdet, d, by omega, rfl, fun s hs => ?_, fun s hs r hr => ?_, fun s hs r hr => ?_, fun i k hi hk => ?_, by rw [hcc]; exact hc, ?_, ?_, by rw [hgg]; exact hg, ?_, ?_⟩
  · simp at hs; rcases hs with rfl | rfl | rfl <;> rfl
  · simp at hs; rcases hs with rfl | rfl | rfl <;> (simp at hr; rcases hr with rfl | rfl | rfl <;> assumption)
  · simp at hs; rcases hs with rfl | rfl | rfl <;> (simp at hr; rcases hr with rfl | rfl | rfl <;> assumption)
  · have h : i = 0 ∨ i = 1 ∨ i = 2 := by omega
    have h' : k = 0 ∨ k = 1 ∨ k = 2 := by omega
    rcases h with rfl | rfl | rfl <;> rcases h' with rfl | rfl | rfl <;> simp [dotL, col] <;> grind
  · rw [hcc, dv]
    exact lat3 hp (by rw [hA6]; exact hpr) hpd (abs_div (by omega) e1 (by omega)) (abs_div (by omega) e2 (by omega)) (abs_div (by omega) e3 (by omega)) (abs_div (by omega) e4 (by omega)) (abs_div (by omega) e5 (by omega)) (abs_div (by omega) e6 (by omega))
  · rw [hcc, dv, aB]; exact hB
  · rw [hcc, dv, aB, hgg, dg]
    have zz := prop_eq (xs := ([[A1, A2, A3], [A2, A4, A5], [A3, A5, A6]] : List (List Int)).flatten) (ys := ([[x, y, z], [y, u, v], [z, v, w]] : List (List Int)).flatten) (p := (t : Int) * t) (q := D) tt (by omega) hB (by rw [hgg]; exact hg) rfl fun i h1 h2 => by
      simp at h1
      have hi : i = 0 ∨ i = 1 ∨ i = 2 ∨ i = 3 ∨ i = 4 ∨ i = 5 ∨ i = 6 ∨ i = 7 ∨ i = 8 := by omega
      rcases hi with rfl | rfl | rfl | rfl | rfl | rfl | rfl | rfl | rfl <;> assumption
    rw [hgg] at zz
    have z0 : A1.fdiv _ = x.fdiv h := zz 0 (by simp) (by simp)
    have z1 : A2.fdiv _ = y.fdiv h := zz 1 (by simp) (by simp)
    have z2 : A3.fdiv _ = z.fdiv h := zz 2 (by simp) (by simp)
    have z4 : A4.fdiv _ = u.fdiv h := zz 4 (by simp) (by simp)
    have z5 : A5.fdiv _ = v.fdiv h := zz 5 (by simp) (by simp)
    have z8 : A6.fdiv _ = w.fdiv h := zz 8 (by simp) (by simp)
    simp only [divM, List.map]
    rw [z0, z1, z2, z4, z5, z8]
  · rw [hgg, dg]
    generalize x.fdiv h = x' at f1
    generalize y.fdiv h = y' at f2
    generalize z.fdiv h = z' at f3
    generalize u.fdiv h = u' at f4
    generalize v.fdiv h = v' at f5
    generalize w.fdiv h = w' at f6
    have hh : (0 : Int) < (h : Int) * h := Int.mul_pos (by omega) (by omega)
    refine lat3 (pos_mul (by omega) f1 bx.1) (pos_mul hh (s := g) ?_ m1) (pos_mul (Int.mul_pos hh (show (0 : Int) < h by omega)) (s := D) ?_ d) (abs_div (by omega) f1 (by omega)) (abs_div (by omega) f2 (by omega)) (abs_div (by omega) f3 (by omega)) (abs_div (by omega) f4 (by omega)) (abs_div (by omega) f5 (by omega)) (abs_div (by omega) f6 (by omega))
    · rw [jl, f1, f4, f2, hF]
    · rw [j3l, f1, f2, f3, f4, f5, f6, hdet]
end G41
set_option Elab.async false
set_option linter.all false
set_option maxRecDepth 100000
/-! data in which a certain word does not stand: _law_odd, _law_honest -/
namespace G
open PySem PySem.Spec PyProof.Rows L2 Evl
def oddW : Str := "a word that nothing else is"
inductive TameP : Nat → DV → Prop
  | int {m : Nat} (i : Int) : TameP m (.int i)
  | bl {m : Nat} (i : Bool) : TameP m (.bl i)
  | non {m : Nat} : TameP m .non
  | str {m : Nat} (s : Str) (h : s ≠ oddW) (ok : (PyData.str s).canLay0 = true) : TameP m (.str s)
  | lst {m : Nat} (ds : List DV) (h : ∀ d ∈ ds, TameP m d) (hl : ds.length ≤ 100000) : TameP (m + 1) (.lst ds)
  | tup {m : Nat} (ds : List DV) (h : ∀ d ∈ ds, TameP m d) (hl : ds.length ≤ 100000) : TameP (m + 1) (.tup ds)
theorem TameP.facts : ∀ {m : Nat} {d : DV}, TameP m d → d.pl = true ∧ d.py.canLay0 = true ∧ d.py.depth ≤ m ∧ PyData.eqv d.py (.str oddW) = false := by
  intro m
  induction m with
  | zero =>
    intro d h
    cases h with
    | int i => exact ⟨rfl, rfl, Nat.le_refl _, rfl⟩
    | bl i => exact ⟨rfl, rfl, Nat.le_refl _, rfl⟩
    | non => exact ⟨rfl, rfl, Nat.le_refl _, rfl⟩
    | str s h ok => exact ⟨rfl, ok, Nat.le_refl _, by show (s == oddW) = false; simpa using h⟩
  | succ m ih =>
    have all : ∀ ds : List DV, (∀ d ∈ ds, TameP m d) → pls ds = true ∧ PyData.canLayAll0 (pys ds) = true ∧ PyData.depthAll (pys ds) ≤ m := by
      intro ds
      induction ds with
      | nil => exact fun _ => ⟨rfl, rfl, Nat.zero_le _⟩
      | cons d ds ihd =>
        intro h
        obtain ⟨a1, a2, a3, _⟩ := ih (h d (by simp))
        obtain ⟨b1, b2, b3⟩ := ihd fun x hx => h x (by simp [hx])
        refine ⟨?_, ?_, ?_⟩
        · show (d.pl && pls ds) = true
          rw [a1, b1]; rfl
        · show (d.py.canLay0 && PyData.canLayAll0 (pys ds)) = true
          rw [a2, b2]; rfl
        · show max d.py.depth (PyData.depthAll (pys ds)) ≤ m
          omega
    intro d h
    cases h with
    | int i => exact ⟨rfl, rfl, Nat.zero_le _, rfl⟩
    | bl i => exact ⟨rfl, rfl, Nat.zero_le _, rfl⟩
    | non => exact ⟨rfl, rfl, Nat.zero_le _, rfl⟩
    | str s h ok => exact ⟨rfl, ok, Nat.zero_le _, by show (s == oddW) = false; simpa using h⟩
    | lst ds h hl =>
      obtain ⟨a, b, c⟩ := all ds h
      exact ⟨a, b, Nat.succ_le_succ c, rfl⟩
    | tup ds h hl =>
      obtain ⟨a, b, c⟩ := all ds h
      exact ⟨a, b, Nat.succ_le_succ c, rfl⟩
/-! encodings are tame -/
def TameE {α : Type} (m : Nat) (e : α → DV) : Prop := ∀ x, TameP m (e x)
theorem tameI {m : Nat} : TameE m eI := fun x => .int x
theorem tameB {m : Nat} : TameE m eB := fun x => .bl x
theorem tameP {α β : Type} {m : Nat} {e : α → DV} {f : β → DV} (h : TameE m e) (g : TameE m f) (x : α × β) : TameP (m + 1) (eP e f x) := .tup _ (fun d hd => by
  simp at hd
  rcases hd with rfl | rfl
  · exact h _
  · exact g _) (by simp)
theorem tameT {α : Type} {m : Nat} {e : α → DV} (h : TameE m e) {xs : List α} (hl : xs.length ≤ 100000) : TameP (m + 1) (eT e xs) := .tup _ (fun d hd => by
  obtain ⟨x, _, rfl⟩ := List.mem_map.mp hd
  exact h x) (by simpa using hl)
theorem tameL {α : Type} {m : Nat} {e : α → DV} (h : TameE m e) {xs : List α} (hl : xs.length ≤ 100000) : TameP (m + 1) (eL e xs) := .lst _ (fun d hd => by
  obtain ⟨x, _, rfl⟩ := List.mem_map.mp hd
  exact h x) (by simpa using hl)
theorem TameP.mono {m n : Nat} (h : m ≤ n) : ∀ {d : DV}, TameP m d → TameP n d := by
  induction m generalizing n with
  | zero =>
    intro d hd
    cases hd with
    | int i => exact .int i
    | bl i => exact .bl i
    | non => exact .non
    | str s h ok => exact .str s h ok
  | succ m ih =>
    intro d hd
    cases hd with
    | int i => exact .int i
    | bl i => exact .bl i
    | non => exact .non
    | str s h ok => exact .str s h ok
    | lst ds q hl =>
      obtain ⟨k, rfl⟩ : ∃ k, n = k + 1 := ⟨n - 1, by omega⟩
      exact .lst ds (fun d hd => ih (by omega) (q d hd)) hl
    | tup ds q hl =>
      obtain ⟨k, rfl⟩ : ∃ k, n = k + 1 := ⟨n - 1, by omega⟩
      exact .tup ds (fun d hd => ih (by omega) (q d hd)) hl
section
variable {K : PySem.W.Frag} {E : XK} {S : List SL} {te ta : TE} {d e : DV} {i : Nat} {c : V} {r r' : R2}
theorem ep_orL (h : EXp K (tOp r (tVar i) (tC c)) S d) : EXp K (tOp (fun x y H Q => r x y H Q ∨ r' x y H Q) (tVar i) (tC c)) S d := fun A δ μ rr F M σ H s Q q => by
  obtain ⟨v, h1, h2⟩ := h A δ μ rr F M σ H s Q q
  exact ⟨v, h1, .inl h2⟩
theorem ep_orR (h : EXp K (tOp r' (tVar i) (tC c)) S d) : EXp K (tOp (fun x y H Q => r x y H Q ∨ r' x y H Q) (tVar i) (tC c)) S d := fun A δ μ rr F M σ H s Q q => by
  obtain ⟨v, h1, h2⟩ := h A δ μ rr F M σ H s Q q
  exact ⟨v, h1, .inr h2⟩
theorem ep_oddP {m : Nat} (hm : m ≤ 60) (t : TameP m d) (h : EXp K (tVar i) S d) : EXp K (tOp (rEqD K) (tVar i) (tC (.str oddW))) S (.bl false) := by
  obtain ⟨a, b, c, e⟩ := t.facts
  refine EXp.is (ep_eqD h ep_str a rfl ?_ (by decide +kernel)) (by show DV.bl (PyData.eqv d.py (.str oddW)) = _; rw [e])
  unfold SeqAt.shaped
  rw [b, decide_eq_true (by omega)]
  rfl
end
end G
set_option Elab.async false
set_option linter.all false
set_option maxRecDepth 100000
set_option maxHeartbeats 4000000
namespace G41
open PySem PySem.Spec PyProof.Rows L2 Evl G
def Tm (C_Grid C_Lattice : Addr) (m : Nat) (d : DV) : Prop := TameP m d ∨ ∃ g : M_Lattice, d = e_Lattice C_Grid C_Lattice g
def R_odd (C_Grid C_Lattice : Addr) (n : Nat) : List DV → DV → Prop := fun ds r => ∃ m d, n = m + 1 ∧ m ≤ 60 ∧ ds = [d] ∧ Tm C_Grid C_Lattice m d ∧ r = .bl false
def R_honest (C_Grid C_Lattice : Addr) : List DV → DV → Prop := fun ds r => ∃ d, ds = [d] ∧ Tm C_Grid C_Lattice 4 d ∧ r = d
noncomputable def m_Lattice_eq_s (v_self : M_Lattice) (v_other : Str) : Option Bool := some false
def R_Lattice_eq_s (C_Grid : Addr) (C_Lattice : Addr) : List DV → DV → Prop := fun ds r => ∃ (v_self : M_Lattice) (v_other : Str) (y : Bool), ds = [(e_Lattice C_Grid C_Lattice) v_self, eS v_other] ∧ m_Lattice_eq_s v_self v_other = some y ∧ r = eB y
section
variable {P : Program} {w : World} {K : PySem.W.Frag} {mg : Str → Option Value} {base : Heap} {C_Grid : Addr} {C_Lattice : Addr} {f : Addr} {fd : FuncData}
theorem ok_Lattice_eq_s (F : Fun K "__eq__" "Lattice.__eq__" s_Lattice_eq f fd) (T : Txt P K mg base C_Grid C_Lattice) : FnOk P w K mg base CX0 2 f fd ["self", "other"] (spD K (R_Lattice_eq_s C_Grid C_Lattice)) := by
  refine okW F sc_Lattice_eq (fun ds r h => by obtain ⟨v_self, v_other, y, rfl, _⟩ := h; rfl) fun cdv A outer s H E hr => ⟨_, (pss_one (ps_ret (pe_and (pe_callB (call_isK (K := K)) (by rfl) T.u_isinstance PyProof.Rows.boot_isinstance (pa_cons (pv 1) (pa_cons (pe_glob (v := .ref C_Lattice) rfl T.m_Lattice rfl) pa_nil))) (pe_one (pe_cmpR op_eq (pe_fldK (K := K) (pv 0)) (pe_fldK (K := K) (pv 1)) (nomark _)))))), ?_⟩
  rintro ds r ⟨v_self, v_other, y, rfl, h, rfl⟩
  refine w_at [.dat ((e_Lattice C_Grid C_Lattice) v_self), .dat (eS v_other)] ?_
  unfold m_Lattice_eq_s at h
  exact w_ret (d := eB false) (EXp.is (e := .bl false) (ep_andV (a := false) (b := false) (ep_isi (ep_var (i := 1) rfl) .str (.own C_Lattice) T.s_not_Lattice) (fun h => by cases h)) rfl) (congrArg eB (Option.some.inj h))
end
section
variable {P : Program} {w : World} {K : PySem.W.Frag} {mg : Str → Option Value} {base : Heap} {C_Grid C_Lattice : Addr} {f : Addr} {fd : FuncData}
theorem ok_odd {n k : Nat} (hk : 4 ≤ k) (F : Fun K "_law_odd" "_law_odd" s_law_odd f fd) (T : Txt P K mg base C_Grid C_Lattice) (m_Lattice_eq : MetG P w K mg base 3 C_Lattice "__eq__" (spD K (R_Lattice_eq_s C_Grid C_Lattice)))
    (c_law_odd : CalG P w K mg base k "_law_odd" (spD K (R_odd C_Grid C_Lattice n)) []) : FnOk P w K mg base CX0 (k + 1) f fd ["value"] (spD K (R_odd C_Grid C_Lattice (n + 1))) := by
  refine okW F sc_law_odd (fun ds r h => by obtain ⟨m, d, _, _, rfl, _⟩ := h; rfl) fun cdv A outer s H E hr => ⟨_, (pss_cons (ps_if (pt_cmpR (OpR.or (op_eqDK (K := K) hr.units) (opEK (K := K) m_Lattice_eq hr (Nat.le_trans (by decide) hk))) (pv 0) pe_str (nomark _)) (pss_one (ps_ret pe_bl)) pss_nil)
      (pss_one (ps_ret (pe_and (pe_callB (call_isTK (K := K)) (by rfl) T.u_isinstance PyProof.Rows.boot_isinstance (pa_cons (pv 0) (pa_cons (pe_tup (pa_cons (pe_bltn (v := .ty "tuple") (u := .type "tuple") (by rfl) T.u_tuple (by decide +kernel) rfl) (pa_cons (pe_bltn (v := .ty "list") (u := .type "list") (by rfl) T.u_list (by decide +kernel) rfl) pa_nil))) pa_nil))) (pe_one (pe_cmpR op_gt (pe_callB (call_lenK (K := K)) (by rfl) T.u_len (by decide +kernel) (pa_cons (pe_lc (own := [("item", 1)]) (g := gName 1) (by rfl) sc_law_odd.nd (pi_seqK (K := K) (pv 0)) (blkOk_by (N := ["value", "item"]) (sc := defScope s_law_odd) (own := [("item", 1)]) (by first | decide +kernel | kernel_rfl)) (fun _ _ _ _ _ => (pg_name (i := 1) sc_law_odd.nd rfl (Or.inl rfl))) (fun _ _ _ _ _ => (pts_one (pt_val (pe_cG c_law_odd hr (Nat.le_refl _) rfl (pa_cons (pv 1) pa_nil))))) (fun _ _ _ _ _ => (pv 1))) pa_nil)) pe_int (nomark _))))))), ?_⟩
  rintro ds r ⟨m, d, hn, hm, rfl, t, rfl⟩
  have hmn : m = n := by omega
  subst hmn
  refine w_at [.dat d, .un] ?_
  have gen : ∀ {sq : List DV}, Seq d sq → (∀ x ∈ sq, TameP (m - 1) x) → 0 < m → sq.length ≤ 100000 → EXp K (tCB (rLenQ K) (tCons (tLc (iSeq K (tVar 0)) (gName 1) (tB (tCall (spD K (R_odd C_Grid C_Lattice m)) [] E0 (tCons (tVar 1) tNil))) (tVar 1) ([(("item" : Str), 1)].map (·.2))) tNil)) [.dat d, .un] (.int 0) := fun {sq} hq hx hm0 hl => by
    have z := lp_lc (K := K) (S := [.dat d, .un]) (tt := tB (tCall (spD K (R_odd C_Grid C_Lattice m)) [] E0 (tCons (tVar 1) tNil))) (te := tVar 1) (vs := [(("item" : Str), 1)].map (·.2)) (wl_seq (j := 1) (f := eD) (xs := sq) ⟨d, by rw [List.map_id']; exact hq, ep_var (i := 0) rfl⟩) hl (by simp) (fun _ => false) (fun x => x) (fun x hxm => tp_val (ep_call (ap_cons (ep_var rfl) ap_nil) ⟨m - 1, x, by omega, by omega, rfl, .inl (hx x hxm), rfl⟩)) (fun x _ h => by cases h)
    have z2 := ep_len (ip_new z)
    rw [List.filter_eq_nil_iff.mpr (by simp)] at z2
    exact z2
  rcases t with t | ⟨g, rfl⟩
  · refine q_seq (w_if (b := false) (tp_test (ep_orL (ep_oddP (by omega) t (ep_var rfl)))) (fun h => by cases h) (fun _ => w_next ?_))
    cases t with
    | int i => exact w_ret (d := .bl false) (EXp.is (ep_andV (a := false) (b := true) (ep_isi2 (ep_var rfl) .int (kit2 (b := false) (c := false) (by decide +kernel) (by decide +kernel) rfl)) (fun h => by cases h)) rfl) rfl
    | bl i => exact w_ret (d := .bl false) (EXp.is (ep_andV (a := false) (b := true) (ep_isi2 (ep_var rfl) .bl (kit2 (b := false) (c := false) (by decide +kernel) (by decide +kernel) rfl)) (fun h => by cases h)) rfl) rfl
    | non => exact w_ret (d := .bl false) (EXp.is (ep_andV (a := false) (b := true) (ep_isi2 (ep_var rfl) .non (kit2 (b := false) (c := false) (by decide +kernel) (by decide +kernel) rfl)) (fun h => by cases h)) rfl) rfl
    | str s h ok => exact w_ret (d := .bl false) (EXp.is (ep_andV (a := false) (b := true) (ep_isi2 (ep_var rfl) .str (kit2 (b := false) (c := false) (by decide +kernel) (by decide +kernel) rfl)) (fun h => by cases h)) rfl) rfl
    | lst ds h hl => exact w_ret (d := .bl false) (EXp.is (ep_andV (a := true) (b := false) (ep_isi2 (ep_var rfl) .lst (kit2 (b := false) (c := true) (by decide +kernel) (by decide +kernel) rfl)) (fun _ => EXp.is (ep_gt (gen (.lst _) h (by omega) hl) ep_int) rfl)) rfl) rfl
    | tup ds h hl => exact w_ret (d := .bl false) (EXp.is (ep_andV (a := true) (b := false) (ep_isi2 (ep_var rfl) .tup (kit2 (b := true) (c := false) (by decide +kernel) (by decide +kernel) rfl)) (fun _ => EXp.is (ep_gt (gen (.tup _) h (by omega) hl) ep_int) rfl)) rfl) rfl
  · refine q_seq (w_if (b := false) (tp_test (ep_orR (ep_ownE (ep_var rfl) ep_str .str (T.snf_Lattice) ⟨g, _, false, rfl, rfl, rfl⟩))) (fun h => by cases h) (fun _ => w_next ?_))
    exact w_ret (d := .bl false) (EXp.is (ep_andV (a := false) (b := true) (ep_isi2 (ep_var rfl) (.ins T.gLattice.own) T.tl_Lattice) (fun h => by cases h)) rfl) rfl
theorem ok_honest (F : Fun K "_law_honest" "_law_honest" s_law_honest f fd) (c_law_odd : CalG P w K mg base 14 "_law_odd" (spD K fun ds r => ∃ n, n ≤ 10 ∧ R_odd C_Grid C_Lattice n ds r) []) (T : Txt P K mg base C_Grid C_Lattice) : FnOk P w K mg base CX0 15 f fd ["value"] (spD K (R_honest C_Grid C_Lattice)) := by
  refine okW F sc_law_honest (fun ds r h => by obtain ⟨d, rfl, _⟩ := h; rfl) fun cdv A outer s H E hr => ⟨_, (pss_one (ps_ret (pe_ifExp (pt_val (pe_cG c_law_odd hr (by decide) rfl (pa_cons (pv 0) pa_nil))) pe_str (pv 0)))), ?_⟩
  rintro ds r ⟨d, rfl, t, e⟩
  refine w_at [.dat d] ?_
  exact w_ret (d := d) (ep_ifM (f := eD) (c := false) (m := (none : Option DV)) (m' := some d) (tp_val (ep_call (ap_cons (ep_var rfl) ap_nil) ⟨5, by omega, 4, d, rfl, by omega, rfl, t, rfl⟩)) rfl (fun h => by cases h) (fun _ y h => EXp.is (d := d) (ep_var rfl) (Option.some.inj h))) e.symm
end
def hon1 (x : List Int × Int) : Option (List Int × Int) := if x.1.length ≤ 100000 then some x else none
section
variable {K : PySem.W.Frag} {S : List SL} {ta : TE} {C_Grid C_Lattice : Addr}
theorem ep_hon1 {x y : List Int × Int} (h : EXp K ta S (eP (eT eI) eI x)) (hv : hon1 x = some y) : EXp K (tCall (spD K (R_honest C_Grid C_Lattice)) [] E0 (tCons ta tNil)) S (eP (eT eI) eI y) := by
  unfold hon1 at hv
  split at hv
  · rename_i hl
    cases hv
    refine ep_call (ap_cons h ap_nil) ⟨_, rfl, .inl (.tup _ (fun d hd => ?_) (by simp)), rfl⟩
    simp only [List.mem_cons, List.not_mem_nil, or_false] at hd
    rcases hd with rfl | rfl
    · exact tameT (m := 2) tameI hl
    · exact .int _
  · cases hv
theorem ep_hon2 {x : Int × Int} (h : EXp K ta S (eP eI eI x)) : EXp K (tCall (spD K (R_honest C_Grid C_Lattice)) [] E0 (tCons ta tNil)) S (eP eI eI x) := ep_call (ap_cons h ap_nil) ⟨_, rfl, .inl (tameP (m := 3) tameI tameI x), rfl⟩
theorem ep_hon3 {x : M_Lattice} (h : EXp K ta S (e_Lattice C_Grid C_Lattice x)) : EXp K (tCall (spD K (R_honest C_Grid C_Lattice)) [] E0 (tCons ta tNil)) S (e_Lattice C_Grid C_Lattice x) := ep_call (ap_cons h ap_nil) ⟨_, rfl, .inr ⟨x, rfl⟩, rfl⟩
end
end G41
set_option Elab.async false
set_option linter.all false
set_option maxRecDepth 100000
set_option maxHeartbeats 4000000
namespace G41
open PySem PySem.Spec PyProof.Rows L2 Evl G
noncomputable def m_law_l2 (v_gram : (List (List Int))) (v_basis : M_Grid) (v_d : Int) (v_units : (List (List Int))) (v_i : Int) (x : Int) (s : Unit) : Option (Fl (Unit) Bool) := (L2.atI v_basis.rows v_i).bind fun t21 => (L2.atI v_units x).bind fun t22 => (m_law_form v_gram t21 t22).bind fun t23 => (mulO v_d (if (decide (v_i = x)) then (1 : Int) else 0)).bind fun t24 => if (!decide (t23 = t24)) then some (.rt false) else some (.nx ())
noncomputable def m_law_l1 (v_gram : (List (List Int))) (v_n : Int) (v_basis : M_Grid) (v_d : Int) (v_units : (List (List Int))) (x : Int) (s : Unit) : Option (Fl (Unit) Bool) := (rngO v_n).bind fun t20 => (loopO (m_law_l2 v_gram v_basis v_d v_units x) t20 ()).bind fun fl2025 => thenL (fun s2026 => some (.nx ())) (fun r => some (.rt r)) fl2025
noncomputable def m_law_l4 (fuel : Nat)  (x : Int) (s : Int) : Option (Int) := (m_law_gcd fuel s x).bind fun v_common4073 => some v_common4073
noncomputable def m_law_l3 (fuel : Nat)  (x : (List Int)) (s : Int) : Option (Int) := (foldO (m_law_l4 fuel) x s).bind fun s8074 => some s8074
noncomputable def m_law_l6 (fuel : Nat)  (x : Int) (s : Int) : Option (Int) := (m_law_gcd fuel s x).bind fun v_content_v12082 => some v_content_v12082
noncomputable def m_law_l5 (fuel : Nat)  (x : (List Int)) (s : Int) : Option (Int) := (foldO (m_law_l6 fuel) x s).bind fun s18083 => some s18083
noncomputable def m_law (fuel : Nat) (v_script : (List Int)) : Option Bool := (m_law_state v_script).bind fun v_state2 => (m_law_gram v_state2 (3 : Int)).bind fun t3 => (m_Lattice_init_S (Sq.L (fun p : Sq eI => p.d) (t3.1.map (Sq.L eI)))).bind fun v_lattice5 => (m_dual_basis v_lattice5).bind fun t6 => (rngO (t3.1.length : Int)).bind fun t7 => (lcA (fun x8 => (rngO (t3.1.length : Int)).bind fun t9 => (lcA (fun x10 => some (if (decide (x8 = x10)) then (1 : Int) else 0)) t9).bind fun t11 => some t11) t7).bind fun v_units13 => (if (!true) then some true else (m_Grid_len t6.1).bind fun t14 => (lenO t14).bind fun t15 => (if (!decide (t15 = (t3.1.length : Int))) then some true else (m_Lattice_determinant v_lattice5).bind fun t16 => some (!decide (t6.2 = t16))).bind fun t17 => some t17).bind fun t18 => if t18 then some false else (rngO (t3.1.length : Int)).bind fun t19 => (loopO (m_law_l1 t3.1 (t3.1.length : Int) t6.1 t6.2 v_units13) t19 ()).bind fun fl4027 => thenL (fun s4028 => (rngO (t3.1.length : Int)).bind fun t4029 => (lcS (fun x4030 s4031 => (m_law_take s4031 (7 : Int)).bind fun t4032 => some ((t4032.1 - (3 : Int)), t4032.2)) t4029 t3.2).bind fun t4033 => (m_Grid_before t6.1 (Sq.T eI t4033.1)).bind fun v_row4035 => (m_rational v_row4035 t6.2).bind fun t4036 => (hon1 t4036).bind fun t4037 => (m_is_in_dual v_lattice5 t4037).bind fun t4038 => if (!t4038) then some false else (m_law_take t4033.2 (8 : Int)).bind fun t4039 => (rngO (t3.1.length : Int)).bind fun t4040 => (lcS (fun x4041 s4042 => (m_law_take s4042 (21 : Int)).bind fun t4043 => some ((t4043.1 - (10 : Int)), t4043.2)) t4040 t4039.2).bind fun t4044 => (m_rational t4044.1 ((1 : Int) + t4039.1)).bind fun t4045 => (hon1 t4045).bind fun t4046 => (m_rational v_row4035 t6.2).bind fun t4047 => (hon1 t4047).bind fun t4048 => (m_law_lowest fuel t4044.1 ((1 : Int) + t4039.1)).bind fun t4049 => (if (!decide ((t4046, t4048).1 = t4049)) then some true else (m_law_lowest fuel v_row4035 t6.2).bind fun t4050 => some (!decide ((t4046, t4048).2 = t4050))).bind fun t4051 => if t4051 then some false else (rngO (t3.1.length : Int)).bind fun t4052 => (lcO (fun x4053 => (L2.atI v_units13 x4053).bind fun t4054 => (m_law_form t3.1 (t4046, t4048).1.1 t4054).bind fun t4055 => (modO t4055 (t4046, t4048).1.2).bind fun t4056 => some (!decide (t4056 = (0 : Int)))) (fun x4053 => some x4053) t4052).bind fun t4057 => (some (decide ((t4057.length : Int) = (0 : Int)))).bind fun v_due4058 => (m_is_in_dual v_lattice5 (t4046, t4048).1).bind fun t4059 => (if (!decide (t4059 = v_due4058)) then some true else (m_is_in_dual v_lattice5 (t4046, t4048).1).bind fun t4060 => some (!true)).bind fun t4061 => if t4061 then some false else (m_rational_product v_lattice5 (t4046, t4048).1 (t4046, t4048).2).bind fun t4062 => (mulO t4062.1 (t4046, t4048).1.2).bind fun t4063 => (mulO t4063 (t4046, t4048).2.2).bind fun t4064 => (m_law_form t3.1 (t4046, t4048).1.1 (t4046, t4048).2.1).bind fun t4065 => (mulO t4062.2 t4065).bind fun t4066 => (if (!decide (t4064 = t4066)) then some true else (if (decide (t4062.2 < (1 : Int))) then some true else (m_law_gcd fuel t4062.1 t4062.2).bind fun t4067 => some (!decide (t4067 = (1 : Int)))).bind fun t4068 => some t4068).bind fun t4069 => if t4069 then some false else (m_scaled_dual v_lattice5).bind fun v_other4071 => (foldO (m_law_l3 fuel) t6.1.rows (0 : Int)).bind fun s12075 => (lcA (fun x12076 => (lcA (fun x12077 => (fdivO x12077 s12075).bind fun t12078 => some t12078) x12076).bind fun t12079 => some t12079) t6.1.rows).bind fun t12080 => if (!decide (v_other4071.gram.rows = t12080)) then some false else (foldO (m_law_l5 fuel) t3.1 (0 : Int)).bind fun s24084 => (m_scaled_dual v_other4071).bind fun t24085 => (lcA (fun x24086 => (lcA (fun x24087 => (fdivO x24087 s24084).bind fun t24088 => some t24088) x24086).bind fun t24089 => some t24089) t3.1).bind fun t24090 => some (decide (t24085.gram.rows = t24090))) (fun r => some r) fl4027
def R_law (C_Grid : Addr) (C_Lattice : Addr) : List DV → DV → Prop := fun ds r => ∃ (fuel : Nat) (v_script : (List Int)) (y : Bool), ds = [(eL eI) v_script] ∧ m_law fuel v_script = some y ∧ r = eB y
section
variable {P : Program} {w : World} {K : PySem.W.Frag} {mg : Str → Option Value} {base : Heap} {C_Grid : Addr} {C_Lattice : Addr} {f : Addr} {fd : FuncData}
theorem ok_law (F : Fun K "law" "law" s_law f fd) (T : Txt P K mg base C_Grid C_Lattice) (c_law_state : CalG P w K mg base 2 "_law_state" (spL K (R_law_state C_Grid C_Lattice)) []) (c_law_gram : CalG P w K mg base 43 "_law_gram" (spS K (R_law_gram C_Grid C_Lattice)) []) (k_Lattice : MakG P w K mg base 45 "Lattice" C_Lattice (spI K C_Lattice (R_Lattice C_Grid C_Lattice)) []) (c_dual_basis : CalG P w K mg base 45 "dual_basis" (spD K (R_dual_basis C_Grid C_Lattice)) []) (m_Grid_len : MetG P w K mg base 2 C_Grid "__len__" (spD K (rLenG C_Grid))) (m_Lattice_determinant : MetG P w K mg base 45 C_Lattice "determinant" (spD K (R_Lattice_determinant C_Grid C_Lattice))) (c_law_form : CalG P w K mg base 2 "_law_form" (spD K (R_law_form C_Grid C_Lattice)) []) (c_law_take : CalG P w K mg base 41 "_law_take" (spS K (R_law_take C_Grid C_Lattice)) []) (m_Grid_before : MetG P w K mg base 3 C_Grid "before" (spD K (R_Grid_before C_Grid C_Lattice))) (c_is_in_dual : CalG P w K mg base 4 "is_in_dual" (spD K (R_is_in_dual C_Grid C_Lattice)) []) (c_law_honest : CalG P w K mg base 15 "_law_honest" (spD K (R_honest C_Grid C_Lattice)) []) (c_rational : CalG P w K mg base 41 "rational" (spD K (R_rational C_Grid C_Lattice)) []) (c_law_lowest : CalG P w K mg base 41 "_law_lowest" (spD K (R_law_lowest C_Grid C_Lattice)) []) (c_rational_product : CalG P w K mg base 41 "rational_product" (spD K (R_rational_product C_Grid C_Lattice)) []) (c_law_gcd : CalG P w K mg base 2 "_law_gcd" (spD K (R_law_gcd C_Grid C_Lattice)) []) (c_scaled_dual : CalG P w K mg base 47 "scaled_dual" (spD K (R_scaled_dual C_Grid C_Lattice)) []) : FnOk P w K mg base CX0 48 f fd ["script"] (spD K (R_law C_Grid C_Lattice)) := by
  refine okW F sc_law (fun ds r h => by obtain ⟨fuel, v_script, y, rfl, _⟩ := h; rfl) fun cdv A outer s H E hr => ⟨_, (pss_cons (ps_set (i := 1) sc_law.nd rfl (Or.inr rfl) (pe_cG c_law_state hr (by decide) rfl (pa_cons (pv 0) pa_nil)))
      (pss_cons (ps_set (i := 2) sc_law.nd rfl (Or.inr rfl) (pe_cG c_law_gram hr (by decide) rfl (pa_cons (pv 1) (pa_cons pe_int pa_nil))))
      (pss_cons (ps_set (i := 3) sc_law.nd rfl (Or.inr rfl) (pe_callB (call_lenK (K := K)) (by rfl) T.u_len (by decide +kernel) (pa_cons (pv 2) pa_nil)))
      (pss_cons (ps_set (i := 4) sc_law.nd rfl (Or.inl rfl) (pe_mkG k_Lattice hr (by decide) rfl (pa_cons (pv 2) pa_nil)))
      (pss_cons (ps_asg (pe_cG c_dual_basis hr (by decide) rfl (pa_cons (pv 4) pa_nil)) (pg_tup rfl (pgs_cons (pg_name (i := 5) sc_law.nd rfl (Or.inl rfl)) (pgs_cons (pg_name (i := 6) sc_law.nd rfl (Or.inl rfl)) pgs_nil))))
      (pss_cons (ps_set (i := 7) sc_law.nd rfl (Or.inr rfl) (pe_lc (own := [("i", 8)]) (g := gName 8) (tt := tYes) (by rfl) sc_law.nd (pi_range1 (by rfl) T.u_range (pa_cons (pv 3) pa_nil)) (blkOk_by (N := ["script", "state", "gram", "n", "lattice", "basis", "d", "units", "i", "k", "weights", "row", "e", "drawn", "x", "y", "due", "top", "low", "other", "common", "line", "item", "content_v"]) (sc := defScope s_law) (own := [("i", 8)]) (by first | decide +kernel | kernel_rfl)) (fun _ _ _ _ _ => (pg_name (i := 8) sc_law.nd rfl (Or.inr rfl))) (fun _ _ _ _ _ => pts_nil) (fun _ _ _ _ _ => (pe_callTy (call_tupK (K := K)) (by rfl) T.u_tuple PyProof.Rows.boot_tuple (pa_cons (pe_lc (own := [("k", 9)]) (g := gName 9) (tt := tYes) (by rfl) sc_law.nd (pi_range1 (by rfl) T.u_range (pa_cons (pv 3) pa_nil)) (blkOk_by (N := ["script", "state", "gram", "n", "lattice", "basis", "d", "units", "i", "k", "weights", "row", "e", "drawn", "x", "y", "due", "top", "low", "other", "common", "line", "item", "content_v"]) (sc := _) (own := [("k", 9)]) (by first | decide +kernel | kernel_rfl)) (fun _ _ _ _ _ => (pg_name (i := 9) sc_law.nd rfl (Or.inl rfl))) (fun _ _ _ _ _ => pts_nil) (fun _ _ _ _ _ => (pe_callTy call_int1 (by rfl) T.u_int PyProof.Rows.boot_int (pa_cons (pe_cmpR op_eq (pv 8) (pv 9) (nomark _)) pa_nil)))) pa_nil)))))
      (pss_cons (ps_if (PW.pt (pw_or (pt_not (pt_val (pe_callB (call_isK (K := K)) (by rfl) T.u_isinstance PyProof.Rows.boot_isinstance (pa_cons (pv 5) (pa_cons (pe_glob (v := .ref C_Grid) rfl T.m_Grid rfl) pa_nil))))) (pw_or (pt_cmpR op_ne (pe_callB (lenG m_Grid_len hr (by decide)) (by rfl) T.u_len (by decide +kernel) (pa_cons (pv 5) pa_nil)) (pv 3) (nomark _)) (pw_or1 (pt_cmpR op_ne (pv 6) (pe_mtG0 m_Lattice_determinant hr (by decide) (pv 4)) (nomark _)))))) (pss_one (ps_ret pe_bl)) pss_nil)
      (pss_cons (ps_for PassesOwn.never rfl (pi_range1 (by rfl) T.u_range (pa_cons (pv 3) pa_nil)) (pg_name (i := 8) sc_law.nd rfl (Or.inl rfl)) (pss_one (ps_for PassesOwn.never rfl (pi_range1 (by rfl) T.u_range (pa_cons (pv 3) pa_nil)) (pg_name (i := 9) sc_law.nd rfl (Or.inl rfl)) (pss_one (ps_if (pt_cmpR op_ne (pe_cG c_law_form hr (by decide) rfl (pa_cons (pv 2) (pa_cons (pe_ix (ix_seqK (K := K)) (pe_fldK (K := K) (pv 5)) (pv 8) (fun _ _ => rfl)) (pa_cons (pe_ix (ix_seqK (K := K)) (pv 7) (pv 9) (fun _ _ => rfl)) pa_nil)))) (pe_op op_mulB (pv 6) (pe_callTy call_int1 (by rfl) T.u_int PyProof.Rows.boot_int (pa_cons (pe_cmpR op_eq (pv 8) (pv 9) (nomark _)) pa_nil))) (nomark _)) (pss_one (ps_ret pe_bl)) pss_nil)))))
      (pss_cons (ps_set (i := 10) sc_law.nd rfl (Or.inl rfl) (pe_callTy (call_tupK (K := K)) (by rfl) T.u_tuple PyProof.Rows.boot_tuple (pa_cons (pe_lc (own := [("k", 9)]) (g := gName 9) (tt := tYes) (by rfl) sc_law.nd (pi_range1 (by rfl) T.u_range (pa_cons (pv 3) pa_nil)) (blkOk_by (N := ["script", "state", "gram", "n", "lattice", "basis", "d", "units", "i", "k", "weights", "row", "e", "drawn", "x", "y", "due", "top", "low", "other", "common", "line", "item", "content_v"]) (sc := defScope s_law) (own := [("k", 9)]) (by first | decide +kernel | kernel_rfl)) (fun _ _ _ _ _ => (pg_name (i := 9) sc_law.nd rfl (Or.inl rfl))) (fun _ _ _ _ _ => pts_nil) (fun _ _ _ _ _ => (pe_op op_sub (pe_cG c_law_take hr (by decide) rfl (pa_cons (pv 1) (pa_cons pe_int pa_nil))) pe_int))) pa_nil)))
      (pss_cons (ps_set (i := 11) sc_law.nd rfl (Or.inl rfl) (pe_mtG m_Grid_before hr (by decide) (pv 5) (pa_cons (pv 10) pa_nil)))
      (pss_cons (ps_if (pt_not (pt_val (pe_cG c_is_in_dual hr (by decide) rfl (pa_cons (pv 4) (pa_cons (pe_cG c_law_honest hr (by decide) rfl (pa_cons (pe_cG c_rational hr (by decide) rfl (pa_cons (pv 11) (pa_cons (pv 6) pa_nil))) pa_nil)) pa_nil))))) (pss_one (ps_ret pe_bl)) pss_nil)
      (pss_cons (ps_set (i := 12) sc_law.nd rfl (Or.inl rfl) (pe_op op_add pe_int (pe_cG c_law_take hr (by decide) rfl (pa_cons (pv 1) (pa_cons pe_int pa_nil)))))
      (pss_cons (ps_set (i := 13) sc_law.nd rfl (Or.inl rfl) (pe_callTy (call_tupK (K := K)) (by rfl) T.u_tuple PyProof.Rows.boot_tuple (pa_cons (pe_lc (own := [("k", 9)]) (g := gName 9) (tt := tYes) (by rfl) sc_law.nd (pi_range1 (by rfl) T.u_range (pa_cons (pv 3) pa_nil)) (blkOk_by (N := ["script", "state", "gram", "n", "lattice", "basis", "d", "units", "i", "k", "weights", "row", "e", "drawn", "x", "y", "due", "top", "low", "other", "common", "line", "item", "content_v"]) (sc := defScope s_law) (own := [("k", 9)]) (by first | decide +kernel | kernel_rfl)) (fun _ _ _ _ _ => (pg_name (i := 9) sc_law.nd rfl (Or.inl rfl))) (fun _ _ _ _ _ => pts_nil) (fun _ _ _ _ _ => (pe_op op_sub (pe_cG c_law_take hr (by decide) rfl (pa_cons (pv 1) (pa_cons pe_int pa_nil))) pe_int))) pa_nil)))
      (pss_cons (ps_asg (pe_tup (pa_cons (pe_cG c_law_honest hr (by decide) rfl (pa_cons (pe_cG c_rational hr (by decide) rfl (pa_cons (pv 13) (pa_cons (pv 12) pa_nil))) pa_nil)) (pa_cons (pe_cG c_law_honest hr (by decide) rfl (pa_cons (pe_cG c_rational hr (by decide) rfl (pa_cons (pv 11) (pa_cons (pv 6) pa_nil))) pa_nil)) pa_nil))) (pg_tup rfl (pgs_cons (pg_name (i := 14) sc_law.nd rfl (Or.inr rfl)) (pgs_cons (pg_name (i := 15) sc_law.nd rfl (Or.inl rfl)) pgs_nil))))
      (pss_cons (ps_if (PW.pt (pw_or (pt_cmpR (op_neDK (K := K) hr.units) (pv 14) (pe_cG c_law_lowest hr (by decide) rfl (pa_cons (pv 13) (pa_cons (pv 12) pa_nil))) (nomark _)) (pw_or1 (pt_cmpR (op_neDK (K := K) hr.units) (pv 15) (pe_cG c_law_lowest hr (by decide) rfl (pa_cons (pv 11) (pa_cons (pv 6) pa_nil))) (nomark _))))) (pss_one (ps_ret pe_bl)) pss_nil)
      (pss_cons (ps_set (i := 16) sc_law.nd rfl (Or.inl rfl) (pe_cmpR op_eq (pe_callB (call_lenK (K := K)) (by rfl) T.u_len (by decide +kernel) (pa_cons (pe_lc (own := [("k", 9)]) (g := gName 9) (by rfl) sc_law.nd (pi_range1 (by rfl) T.u_range (pa_cons (pv 3) pa_nil)) (blkOk_by (N := ["script", "state", "gram", "n", "lattice", "basis", "d", "units", "i", "k", "weights", "row", "e", "drawn", "x", "y", "due", "top", "low", "other", "common", "line", "item", "content_v"]) (sc := defScope s_law) (own := [("k", 9)]) (by first | decide +kernel | kernel_rfl)) (fun _ _ _ _ _ => (pg_name (i := 9) sc_law.nd rfl (Or.inl rfl))) (fun _ _ _ _ _ => (pts_one (pt_cmpR op_ne (pe_op op_modN (pe_cG c_law_form hr (by decide) rfl (pa_cons (pv 2) (pa_cons (pe_ix (ix_seqK (K := K)) (pv 14) pe_int (fun _ _ => rfl)) (pa_cons (pe_ix (ix_seqK (K := K)) (pv 7) (pv 9) (fun _ _ => rfl)) pa_nil)))) (pe_ix (ix_seqK (K := K)) (pv 14) pe_int (fun _ _ => rfl))) pe_int (nomark _)))) (fun _ _ _ _ _ => (pv 9))) pa_nil)) pe_int (nomark _)))
      (pss_cons (ps_if (PW.pt (pw_or (pt_cmpR op_ne (pe_cG c_is_in_dual hr (by decide) rfl (pa_cons (pv 4) (pa_cons (pv 14) pa_nil))) (pv 16) (nomark _)) (pw_or1 (pt_not (pt_val (pe_callB (call_isK (K := K)) (by rfl) T.u_isinstance PyProof.Rows.boot_isinstance (pa_cons (pe_cG c_is_in_dual hr (by decide) rfl (pa_cons (pv 4) (pa_cons (pv 14) pa_nil))) (pa_cons (pe_bltn (v := .ty "bool") (u := .type "bool") (by rfl) T.u_bool (by decide +kernel) rfl) pa_nil)))))))) (pss_one (ps_ret pe_bl)) pss_nil)
      (pss_cons (ps_asg (pe_cG c_law_honest hr (by decide) rfl (pa_cons (pe_cG c_rational_product hr (by decide) rfl (pa_cons (pv 4) (pa_cons (pv 14) (pa_cons (pv 15) pa_nil)))) pa_nil)) (pg_tup rfl (pgs_cons (pg_name (i := 17) sc_law.nd rfl (Or.inl rfl)) (pgs_cons (pg_name (i := 18) sc_law.nd rfl (Or.inl rfl)) pgs_nil))))
      (pss_cons (ps_if (PW.pt (pw_or (pt_cmpR op_ne (pe_op op_mulB (pe_op op_mulB (pv 17) (pe_ix (ix_seqK (K := K)) (pv 14) pe_int (fun _ _ => rfl))) (pe_ix (ix_seqK (K := K)) (pv 15) pe_int (fun _ _ => rfl))) (pe_op op_mulB (pv 18) (pe_cG c_law_form hr (by decide) rfl (pa_cons (pv 2) (pa_cons (pe_ix (ix_seqK (K := K)) (pv 14) pe_int (fun _ _ => rfl)) (pa_cons (pe_ix (ix_seqK (K := K)) (pv 15) pe_int (fun _ _ => rfl)) pa_nil))))) (nomark _)) (pw_or (pt_cmpR op_lt (pv 18) pe_int (nomark _)) (pw_or1 (pt_cmpR op_ne (pe_cG c_law_gcd hr (by decide) rfl (pa_cons (pv 17) (pa_cons (pv 18) pa_nil))) pe_int (nomark _)))))) (pss_one (ps_ret pe_bl)) pss_nil)
      (pss_cons (ps_set (i := 19) sc_law.nd rfl (Or.inl rfl) (pe_cG c_law_honest hr (by decide) rfl (pa_cons (pe_cG c_scaled_dual hr (by decide) rfl (pa_cons (pv 4) pa_nil)) pa_nil)))
      (pss_cons (ps_set (i := 20) sc_law.nd rfl (Or.inr rfl) pe_int)
      (pss_cons (ps_for PassesOwn.never rfl (pi_seqK (K := K) (pe_fldK (K := K) (pv 5))) (pg_name (i := 21) sc_law.nd rfl (Or.inl rfl)) (pss_one (ps_for PassesOwn.never rfl (pi_seqK (K := K) (pv 21)) (pg_name (i := 22) sc_law.nd rfl (Or.inl rfl)) (pss_one (ps_set (i := 20) sc_law.nd rfl (Or.inr rfl) (pe_cG c_law_gcd hr (by decide) rfl (pa_cons (pv 20) (pa_cons (pv 22) pa_nil))))))))
      (pss_cons (ps_if (pt_cmpR (op_neDK (K := K) hr.units) (pe_fldK (K := K) (pe_fldK (K := K) (pv 19))) (pe_callTy (call_tupK (K := K)) (by rfl) T.u_tuple PyProof.Rows.boot_tuple (pa_cons (pe_lc (own := [("line", 21)]) (g := gName 21) (tt := tYes) (by rfl) sc_law.nd (pi_seqK (K := K) (pe_fldK (K := K) (pv 5))) (blkOk_by (N := ["script", "state", "gram", "n", "lattice", "basis", "d", "units", "i", "k", "weights", "row", "e", "drawn", "x", "y", "due", "top", "low", "other", "common", "line", "item", "content_v"]) (sc := defScope s_law) (own := [("line", 21)]) (by first | decide +kernel | kernel_rfl)) (fun _ _ _ _ _ => (pg_name (i := 21) sc_law.nd rfl (Or.inl rfl))) (fun _ _ _ _ _ => pts_nil) (fun _ _ _ _ _ => (pe_callTy (call_tupK (K := K)) (by rfl) T.u_tuple PyProof.Rows.boot_tuple (pa_cons (pe_lc (own := [("item", 22)]) (g := gName 22) (tt := tYes) (by rfl) sc_law.nd (pi_seqK (K := K) (pv 21)) (blkOk_by (N := ["script", "state", "gram", "n", "lattice", "basis", "d", "units", "i", "k", "weights", "row", "e", "drawn", "x", "y", "due", "top", "low", "other", "common", "line", "item", "content_v"]) (sc := _) (own := [("item", 22)]) (by first | decide +kernel | kernel_rfl)) (fun _ _ _ _ _ => (pg_name (i := 22) sc_law.nd rfl (Or.inl rfl))) (fun _ _ _ _ _ => pts_nil) (fun _ _ _ _ _ => (pe_op (op_div T.sr T.tr hr (by decide) ⟨_, _, rfl, rfl, rfl, rfl, rfl⟩) (pv 22) (pv 20)))) pa_nil)))) pa_nil)) (nomark _)) (pss_one (ps_ret pe_bl)) pss_nil)
      (pss_cons (ps_set (i := 23) sc_law.nd rfl (Or.inr rfl) pe_int)
      (pss_cons (ps_for PassesOwn.never rfl (pi_seqK (K := K) (pv 2)) (pg_name (i := 21) sc_law.nd rfl (Or.inl rfl)) (pss_one (ps_for PassesOwn.never rfl (pi_seqK (K := K) (pv 21)) (pg_name (i := 22) sc_law.nd rfl (Or.inl rfl)) (pss_one (ps_set (i := 23) sc_law.nd rfl (Or.inr rfl) (pe_cG c_law_gcd hr (by decide) rfl (pa_cons (pv 23) (pa_cons (pv 22) pa_nil))))))))
      (pss_one (ps_ret (pe_cmpR (op_eqDK (K := K) hr.units) (pe_fldK (K := K) (pe_fldK (K := K) (pe_cG c_law_honest hr (by decide) rfl (pa_cons (pe_cG c_scaled_dual hr (by decide) rfl (pa_cons (pv 19) pa_nil)) pa_nil)))) (pe_callTy (call_tupK (K := K)) (by rfl) T.u_tuple PyProof.Rows.boot_tuple (pa_cons (pe_lc (own := [("line", 21)]) (g := gName 21) (tt := tYes) (by rfl) sc_law.nd (pi_seqK (K := K) (pv 2)) (blkOk_by (N := ["script", "state", "gram", "n", "lattice", "basis", "d", "units", "i", "k", "weights", "row", "e", "drawn", "x", "y", "due", "top", "low", "other", "common", "line", "item", "content_v"]) (sc := defScope s_law) (own := [("line", 21)]) (by first | decide +kernel | kernel_rfl)) (fun _ _ _ _ _ => (pg_name (i := 21) sc_law.nd rfl (Or.inl rfl))) (fun _ _ _ _ _ => pts_nil) (fun _ _ _ _ _ => (pe_callTy (call_tupK (K := K)) (by rfl) T.u_tuple PyProof.Rows.boot_tuple (pa_cons (pe_lc (own := [("item", 22)]) (g := gName 22) (tt := tYes) (by rfl) sc_law.nd (pi_seqK (K := K) (pv 21)) (blkOk_by (N := ["script", "state", "gram", "n", "lattice", "basis", "d", "units", "i", "k", "weights", "row", "e", "drawn", "x", "y", "due", "top", "low", "other", "common", "line", "item", "content_v"]) (sc := _) (own := [("item", 22)]) (by first | decide +kernel | kernel_rfl)) (fun _ _ _ _ _ => (pg_name (i := 22) sc_law.nd rfl (Or.inl rfl))) (fun _ _ _ _ _ => pts_nil) (fun _ _ _ _ _ => (pe_op (op_div T.sr T.tr hr (by decide) ⟨_, _, rfl, rfl, rfl, rfl, rfl⟩) (pv 22) (pv 23)))) pa_nil)))) pa_nil)) (nomark _))))))))))))))))))))))))))))), ?_⟩
  rintro ds r ⟨fuel, v_script, y, rfl, h, rfl⟩
  refine w_at [.dat ((eL eI) v_script), .un, .un, .un, .un, .un, .un, .un, .un, .un, .un, .un, .un, .un, .un, .un, .un, .un, .un, .un, .un, .un, .un, .un] ?_
  unfold m_law at h
  obtain ⟨v_state2, h_v_state2, h⟩ := bdO h
  refine q_seq (w_asgL (i := 1) (lp_call (ap_cons (ep_var (i := 0) rfl) ap_nil) ⟨v_script, v_state2, rfl, h_v_state2, rfl⟩) [.dat ((eL eI) v_script), .own (v_state2.map eI), .un, .un, .un, .un, .un, .un, .un, .un, .un, .un, .un, .un, .un, .un, .un, .un, .un, .un, .un, .un, .un, .un] ?_)
  obtain ⟨t3, h_t3, h⟩ := bdO h
  refine q_seq (w_asgq (eq_callS (i := 1) [.dat ((eL eI) v_script), .own (t3.2.map eI), .un, .un, .un, .un, .un, .un, .un, .un, .un, .un, .un, .un, .un, .un, .un, .un, .un, .un, .un, .un, .un, .un] rfl (ap_cons ep_int ap_nil) ⟨v_state2, (3 : Int), t3.1, t3.2, rfl, rfl, h_t3, rfl, rfl⟩) [.dat ((eL eI) v_script), .own (t3.2.map eI), .dat ((eL (eL eI)) t3.1), .un, .un, .un, .un, .un, .un, .un, .un, .un, .un, .un, .un, .un, .un, .un, .un, .un, .un, .un, .un, .un] ?_)
  refine q_seq (w_asg (i := 3) (ep_lenM (f := (eL eI)) (ip_lst (ep_var (i := 2) rfl))) [.dat ((eL eI) v_script), .own (t3.2.map eI), .dat ((eL (eL eI)) t3.1), .dat (eI (t3.1.length : Int)), .un, .un, .un, .un, .un, .un, .un, .un, .un, .un, .un, .un, .un, .un, .un, .un, .un, .un, .un, .un] ?_)
  obtain ⟨v_lattice5, h_v_lattice5, h⟩ := bdO h
  refine q_seq (w_asg (i := 4) (ep_mk_Lattice_S (ap_cons (EXp.is (ep_var (i := 2) rfl) (by simp [Sq.L, Sq.T, List.map_map, Function.comp_def])) ap_nil) h_v_lattice5) [.dat ((eL eI) v_script), .own (t3.2.map eI), .dat ((eL (eL eI)) t3.1), .dat (eI (t3.1.length : Int)), .dat ((e_Lattice C_Grid C_Lattice) v_lattice5), .un, .un, .un, .un, .un, .un, .un, .un, .un, .un, .un, .un, .un, .un, .un, .un, .un, .un, .un] ?_)
  obtain ⟨t6, h_t6, h⟩ := bdO h
  refine q_seq (w_tup2 (ep_call (ap_cons (ep_var (i := 4) rfl) ap_nil) ⟨v_lattice5, t6, rfl, h_t6, rfl⟩) [.dat ((eL eI) v_script), .own (t3.2.map eI), .dat ((eL (eL eI)) t3.1), .dat (eI (t3.1.length : Int)), .dat ((e_Lattice C_Grid C_Lattice) v_lattice5), .dat ((e_Grid C_Grid C_Lattice) t6.1), .dat (eI t6.2), .un, .un, .un, .un, .un, .un, .un, .un, .un, .un, .un, .un, .un, .un, .un, .un, .un] ?_)
  obtain ⟨t7, h_t7, h⟩ := bdO h
  obtain ⟨v_units13, h_v_units13, h⟩ := bdO h
  refine q_seq (w_asg (i := 7) (LXp.ex (lp_lcA (e := (eT eI)) (fun x8 => [.dat ((eL eI) v_script), .own (t3.2.map eI), .dat ((eL (eL eI)) t3.1), .dat (eI (t3.1.length : Int)), .dat ((e_Lattice C_Grid C_Lattice) v_lattice5), .dat ((e_Grid C_Grid C_Lattice) t6.1), .dat (eI t6.2), .un, .dat (eI x8), .un, .un, .un, .un, .un, .un, .un, .un, .un, .un, .un, .un, .un, .un, .un]) (wl_range1 (ep_var (i := 3) rfl) h_t7) h_v_units13 (by decide) (fun x8 _ h => by obtain ⟨t9, h_t9, h⟩ := bdO h; obtain ⟨t11, h_t11, h⟩ := bdO h; exact EXp.is (d := (eT eI) t11) (ep_tuple (ip_new (lp_lcA (e := eI) (fun x10 => [.dat ((eL eI) v_script), .own (t3.2.map eI), .dat ((eL (eL eI)) t3.1), .dat (eI (t3.1.length : Int)), .dat ((e_Lattice C_Grid C_Lattice) v_lattice5), .dat ((e_Grid C_Grid C_Lattice) t6.1), .dat (eI t6.2), .un, .dat (eI x8), .dat (eI x10), .un, .un, .un, .un, .un, .un, .un, .un, .un, .un, .un, .un, .un, .un]) (wl_range1 (ep_var (i := 3) rfl) h_t9) h_t11 (by decide) (fun x10 _ h => by exact EXp.is (d := eI (if (decide (x8 = x10)) then (1 : Int) else 0)) (ep_toB (ep_eqI (ep_var (i := 8) rfl) (ep_var (i := 9) rfl))) (congrArg eI (Option.some.inj h)))))) (congrArg (eT eI) (Option.some.inj h))))) [.dat ((eL eI) v_script), .own (t3.2.map eI), .dat ((eL (eL eI)) t3.1), .dat (eI (t3.1.length : Int)), .dat ((e_Lattice C_Grid C_Lattice) v_lattice5), .dat ((e_Grid C_Grid C_Lattice) t6.1), .dat (eI t6.2), .dat ((eL (eT eI)) v_units13), .un, .un, .un, .un, .un, .un, .un, .un, .un, .un, .un, .un, .un, .un, .un, .un] ?_)
  obtain ⟨t18, h_t18, h⟩ := bdO h
  refine q_seq (w_if (tp_orM (tp_not (tp_val (ep_isi (ep_var (i := 5) rfl) (.ins T.gGrid.own) (.own C_Grid) (kit_self T.gGrid.own)))) h_t18 (fun hb _ h => by obtain ⟨t14, h_t14, h⟩ := bdO h; obtain ⟨t15, h_t15, h⟩ := bdO h; obtain ⟨t17, h_t17, h⟩ := bdO h; exact TXp.is (a := t17) (tp_orM (tp_test (ep_neI (ep_lenO (ep_var (i := 5) rfl) (wit_len (Cl := C_Lattice) h_t14) h_t15) (ep_var (i := 3) rfl))) h_t17 (fun hb _ h => by obtain ⟨t16, h_t16, h⟩ := bdO h; exact TXp.is (a := (!decide (t6.2 = t16))) (tp_test (ep_neI (ep_var (i := 6) rfl) (ep_meth (ep_var (i := 4) rfl) rfl ap_nil ⟨v_lattice5, t16, rfl, h_t16, rfl⟩))) (Option.some.inj h))) (Option.some.inj h))) (fun hb => ?_) (fun hb => ?_))
  · replace h := ifT hb h
    exact w_ret (d := eB false) ep_bl (congrArg eB (Option.some.inj h))
  · replace h := ifF hb h
    refine w_next ?_
    obtain ⟨t19, h_t19, h⟩ := bdO h
    obtain ⟨fl4027, h_fl4027, h⟩ := bdO h
    refine q_seq (w_loop (fun q1 : Unit => [.dat ((eL eI) v_script), .own (t3.2.map eI), .dat ((eL (eL eI)) t3.1), .dat (eI (t3.1.length : Int)), .dat ((e_Lattice C_Grid C_Lattice) v_lattice5), .dat ((e_Grid C_Grid C_Lattice) t6.1), .dat (eI t6.2), .dat ((eL (eT eI)) v_units13), .un, .un, .un, .un, .un, .un, .un, .un, .un, .un, .un, .un, .un, .un, .un, .un]) () (sle_same (sle_same (sle_same (sle_same (sle_same (sle_same (sle_same (sle_same (sle_same (sle_same (sle_same (sle_same (sle_same (sle_same (sle_same (sle_same (sle_same (sle_same (sle_same (sle_same (sle_same (sle_same (sle_same (sle_same sle_nil)))))))))))))))))))))))) (wl_range1 (ep_var (i := 3) rfl) h_t19) h_fl4027 (fun r d _ => d = eB r) (fun r d _ => False) (fun y1 q1 s' h => ?_) (fun s4028 e => ?_) (fun r d S' e pr => ?_) (fun r d S' e pr => ?_))
    · refine w_at [.dat ((eL eI) v_script), .own (t3.2.map eI), .dat ((eL (eL eI)) t3.1), .dat (eI (t3.1.length : Int)), .dat ((e_Lattice C_Grid C_Lattice) v_lattice5), .dat ((e_Grid C_Grid C_Lattice) t6.1), .dat (eI t6.2), .dat ((eL (eT eI)) v_units13), .dat (eI y1), .un, .un, .un, .un, .un, .un, .un, .un, .un, .un, .un, .un, .un, .un, .un] ?_
      unfold m_law_l1 at h
      obtain ⟨t2020, h_t2020, h⟩ := bdO h
      obtain ⟨fl4025, h_fl4025, h⟩ := bdO h
      refine w_loop (fun q2 : Unit => [.dat ((eL eI) v_script), .own (t3.2.map eI), .dat ((eL (eL eI)) t3.1), .dat (eI (t3.1.length : Int)), .dat ((e_Lattice C_Grid C_Lattice) v_lattice5), .dat ((e_Grid C_Grid C_Lattice) t6.1), .dat (eI t6.2), .dat ((eL (eT eI)) v_units13), .dat (eI y1), .un, .un, .un, .un, .un, .un, .un, .un, .un, .un, .un, .un, .un, .un, .un]) () (sle_same (sle_same (sle_same (sle_same (sle_same (sle_same (sle_same (sle_same (sle_same (sle_same (sle_same (sle_same (sle_same (sle_same (sle_same (sle_same (sle_same (sle_same (sle_same (sle_same (sle_same (sle_same (sle_same (sle_same sle_nil)))))))))))))))))))))))) (wl_range1 (ep_var (i := 3) rfl) h_t2020) h_fl4025 (fun r d _ => d = eB r) (fun r d _ => False) (fun y2 q2 s' h => ?_) (fun s4026 e => ?_) (fun r d S' e pr => ?_) (fun r d S' e pr => ?_)
      · refine w_at [.dat ((eL eI) v_script), .own (t3.2.map eI), .dat ((eL (eL eI)) t3.1), .dat (eI (t3.1.length : Int)), .dat ((e_Lattice C_Grid C_Lattice) v_lattice5), .dat ((e_Grid C_Grid C_Lattice) t6.1), .dat (eI t6.2), .dat ((eL (eT eI)) v_units13), .dat (eI y1), .dat (eI y2), .un, .un, .un, .un, .un, .un, .un, .un, .un, .un, .un, .un, .un, .un] ?_
        unfold m_law_l2 at h
        obtain ⟨t4021, h_t4021, h⟩ := bdO h
        obtain ⟨t4022, h_t4022, h⟩ := bdO h
        obtain ⟨t4023, h_t4023, h⟩ := bdO h
        obtain ⟨t4024, h_t4024, h⟩ := bdO h
        refine w_if (tp_test (ep_neI (ep_call (ap_cons (ep_var (i := 2) rfl) (ap_cons (ep_ix (f := (eT eI)) (ip_tup (ep_fld (ep_var (i := 5) rfl) T.cl_Grid T.n_Grid_rows rfl)) (ep_var (i := 8) rfl) h_t4021) (ap_cons (ep_ix (f := (eT eI)) (ip_lst (ep_var (i := 7) rfl)) (ep_var (i := 9) rfl) h_t4022) ap_nil))) ⟨t3.1, t4021, t4022, t4023, rfl, h_t4023, rfl⟩) (ep_mul (ep_var (i := 6) rfl) (ep_toB (ep_eqI (ep_var (i := 8) rfl) (ep_var (i := 9) rfl))) h_t4024))) (fun hb => ?_) (fun hb => ?_)
        · replace h := ifT hb h
          cases h
          exact w_ret ep_bl ⟨_, rfl, rfl⟩
        · replace h := ifF hb h
          refine w_next ?_
          cases h
          exact ⟨_, rfl, (by repeat (first | exact sle_nil | refine sle_same ?_ | refine sle_un ?_))⟩
      · subst e
        replace h := thenNx h
        cases h
        exact ⟨_, rfl, (by repeat (first | exact sle_nil | refine sle_same ?_ | refine sle_un ?_))⟩
      · subst e
        replace h := thenRt h
        cases h
        exact ⟨_, rfl, pr⟩
      · subst e
        replace h := thenRt h
        cases h
        exact ⟨_, rfl, pr⟩
    · subst e
      replace h := thenNx h
      obtain ⟨t4029, h_t4029, h⟩ := bdO h
      obtain ⟨t4033, h_t4033, h⟩ := bdO h
      refine q_seq (w_asgq (eq_tuple (lq_lcS (k := 1) (eg := eI) (e := eI) [.dat ((eL eI) v_script), .own (t4033.2.map eI), .dat ((eL (eL eI)) t3.1), .dat (eI (t3.1.length : Int)), .dat ((e_Lattice C_Grid C_Lattice) v_lattice5), .dat ((e_Grid C_Grid C_Lattice) t6.1), .dat (eI t6.2), .dat ((eL (eT eI)) v_units13), .un, .un, .un, .un, .un, .un, .un, .un, .un, .un, .un, .un, .un, .un, .un, .un] (fun x4030 s4031 => [.dat ((eL eI) v_script), .own (s4031.map eI), .dat ((eL (eL eI)) t3.1), .dat (eI (t3.1.length : Int)), .dat ((e_Lattice C_Grid C_Lattice) v_lattice5), .dat ((e_Grid C_Grid C_Lattice) t6.1), .dat (eI t6.2), .dat ((eL (eT eI)) v_units13), .un, .dat (eI x4030), .un, .un, .un, .un, .un, .un, .un, .un, .un, .un, .un, .un, .un, .un]) rfl (wl_range1 (ep_var (i := 3) rfl) h_t4029) (by exact h_t4033) (by decide) rfl (fun x4030 s4031 _ _ h => by obtain ⟨t4032, h_t4032, h⟩ := bdO h; cases h; exact (eq_sub (eq_callS (i := 1) [.dat ((eL eI) v_script), .own (t4032.2.map eI), .dat ((eL (eL eI)) t3.1), .dat (eI (t3.1.length : Int)), .dat ((e_Lattice C_Grid C_Lattice) v_lattice5), .dat ((e_Grid C_Grid C_Lattice) t6.1), .dat (eI t6.2), .dat ((eL (eT eI)) v_units13), .un, .dat (eI x4030), .un, .un, .un, .un, .un, .un, .un, .un, .un, .un, .un, .un, .un, .un] rfl (ap_cons ep_int ap_nil) ⟨s4031, (7 : Int), t4032.1, t4032.2, rfl, rfl, h_t4032, rfl, rfl⟩) (eq_p ep_int))))) [.dat ((eL eI) v_script), .own (t4033.2.map eI), .dat ((eL (eL eI)) t3.1), .dat (eI (t3.1.length : Int)), .dat ((e_Lattice C_Grid C_Lattice) v_lattice5), .dat ((e_Grid C_Grid C_Lattice) t6.1), .dat (eI t6.2), .dat ((eL (eT eI)) v_units13), .un, .un, .dat ((eT eI) t4033.1), .un, .un, .un, .un, .un, .un, .un, .un, .un, .un, .un, .un, .un] ?_)
      obtain ⟨v_row4035, h_v_row4035, h⟩ := bdO h
      refine q_seq (w_asg (i := 11) (ep_meth (ep_var (i := 5) rfl) rfl (ap_cons (ep_var (i := 10) rfl) ap_nil) ⟨t6.1, (Sq.T eI t4033.1), v_row4035, rfl, h_v_row4035, rfl⟩) [.dat ((eL eI) v_script), .own (t4033.2.map eI), .dat ((eL (eL eI)) t3.1), .dat (eI (t3.1.length : Int)), .dat ((e_Lattice C_Grid C_Lattice) v_lattice5), .dat ((e_Grid C_Grid C_Lattice) t6.1), .dat (eI t6.2), .dat ((eL (eT eI)) v_units13), .un, .un, .dat ((eT eI) t4033.1), .dat ((eT eI) v_row4035), .un, .un, .un, .un, .un, .un, .un, .un, .un, .un, .un, .un] ?_)
      obtain ⟨t4036, h_t4036, h⟩ := bdO h
      obtain ⟨t4037, h_t4037, h⟩ := bdO h
      obtain ⟨t4038, h_t4038, h⟩ := bdO h
      refine q_seq (w_if (tp_not (tp_val (ep_call (ap_cons (ep_var (i := 4) rfl) (ap_cons (ep_hon1 (ep_call (ap_cons (ep_var (i := 11) rfl) (ap_cons (ep_var (i := 6) rfl) ap_nil)) ⟨v_row4035, t6.2, t4036, rfl, h_t4036, rfl⟩) h_t4037) ap_nil)) ⟨v_lattice5, t4037, t4038, rfl, h_t4038, rfl⟩))) (fun hb => ?_) (fun hb => ?_))
      · replace h := ifT hb h
        exact w_ret (d := eB false) ep_bl (congrArg eB (Option.some.inj h))
      · replace h := ifF hb h
        refine w_next ?_
        obtain ⟨t4039, h_t4039, h⟩ := bdO h
        refine q_seq (w_asgq (eq_add (eq_p ep_int) (eq_callS (i := 1) [.dat ((eL eI) v_script), .own (t4039.2.map eI), .dat ((eL (eL eI)) t3.1), .dat (eI (t3.1.length : Int)), .dat ((e_Lattice C_Grid C_Lattice) v_lattice5), .dat ((e_Grid C_Grid C_Lattice) t6.1), .dat (eI t6.2), .dat ((eL (eT eI)) v_units13), .un, .un, .dat ((eT eI) t4033.1), .dat ((eT eI) v_row4035), .un, .un, .un, .un, .un, .un, .un, .un, .un, .un, .un, .un] rfl (ap_cons ep_int ap_nil) ⟨t4033.2, (8 : Int), t4039.1, t4039.2, rfl, rfl, h_t4039, rfl, rfl⟩)) [.dat ((eL eI) v_script), .own (t4039.2.map eI), .dat ((eL (eL eI)) t3.1), .dat (eI (t3.1.length : Int)), .dat ((e_Lattice C_Grid C_Lattice) v_lattice5), .dat ((e_Grid C_Grid C_Lattice) t6.1), .dat (eI t6.2), .dat ((eL (eT eI)) v_units13), .un, .un, .dat ((eT eI) t4033.1), .dat ((eT eI) v_row4035), .dat (eI ((1 : Int) + t4039.1)), .un, .un, .un, .un, .un, .un, .un, .un, .un, .un, .un] ?_)
        obtain ⟨t4040, h_t4040, h⟩ := bdO h
        obtain ⟨t4044, h_t4044, h⟩ := bdO h
        refine q_seq (w_asgq (eq_tuple (lq_lcS (k := 1) (eg := eI) (e := eI) [.dat ((eL eI) v_script), .own (t4044.2.map eI), .dat ((eL (eL eI)) t3.1), .dat (eI (t3.1.length : Int)), .dat ((e_Lattice C_Grid C_Lattice) v_lattice5), .dat ((e_Grid C_Grid C_Lattice) t6.1), .dat (eI t6.2), .dat ((eL (eT eI)) v_units13), .un, .un, .dat ((eT eI) t4033.1), .dat ((eT eI) v_row4035), .dat (eI ((1 : Int) + t4039.1)), .un, .un, .un, .un, .un, .un, .un, .un, .un, .un, .un] (fun x4041 s4042 => [.dat ((eL eI) v_script), .own (s4042.map eI), .dat ((eL (eL eI)) t3.1), .dat (eI (t3.1.length : Int)), .dat ((e_Lattice C_Grid C_Lattice) v_lattice5), .dat ((e_Grid C_Grid C_Lattice) t6.1), .dat (eI t6.2), .dat ((eL (eT eI)) v_units13), .un, .dat (eI x4041), .dat ((eT eI) t4033.1), .dat ((eT eI) v_row4035), .dat (eI ((1 : Int) + t4039.1)), .un, .un, .un, .un, .un, .un, .un, .un, .un, .un, .un]) rfl (wl_range1 (ep_var (i := 3) rfl) h_t4040) (by exact h_t4044) (by decide) rfl (fun x4041 s4042 _ _ h => by obtain ⟨t4043, h_t4043, h⟩ := bdO h; cases h; exact (eq_sub (eq_callS (i := 1) [.dat ((eL eI) v_script), .own (t4043.2.map eI), .dat ((eL (eL eI)) t3.1), .dat (eI (t3.1.length : Int)), .dat ((e_Lattice C_Grid C_Lattice) v_lattice5), .dat ((e_Grid C_Grid C_Lattice) t6.1), .dat (eI t6.2), .dat ((eL (eT eI)) v_units13), .un, .dat (eI x4041), .dat ((eT eI) t4033.1), .dat ((eT eI) v_row4035), .dat (eI ((1 : Int) + t4039.1)), .un, .un, .un, .un, .un, .un, .un, .un, .un, .un, .un] rfl (ap_cons ep_int ap_nil) ⟨s4042, (21 : Int), t4043.1, t4043.2, rfl, rfl, h_t4043, rfl, rfl⟩) (eq_p ep_int))))) [.dat ((eL eI) v_script), .own (t4044.2.map eI), .dat ((eL (eL eI)) t3.1), .dat (eI (t3.1.length : Int)), .dat ((e_Lattice C_Grid C_Lattice) v_lattice5), .dat ((e_Grid C_Grid C_Lattice) t6.1), .dat (eI t6.2), .dat ((eL (eT eI)) v_units13), .un, .un, .dat ((eT eI) t4033.1), .dat ((eT eI) v_row4035), .dat (eI ((1 : Int) + t4039.1)), .dat ((eT eI) t4044.1), .un, .un, .un, .un, .un, .un, .un, .un, .un, .un] ?_)
        obtain ⟨t4045, h_t4045, h⟩ := bdO h
        obtain ⟨t4046, h_t4046, h⟩ := bdO h
        obtain ⟨t4047, h_t4047, h⟩ := bdO h
        obtain ⟨t4048, h_t4048, h⟩ := bdO h
        refine q_seq (w_tup2 (ep_tup (ap_cons (ep_hon1 (ep_call (ap_cons (ep_var (i := 13) rfl) (ap_cons (ep_var (i := 12) rfl) ap_nil)) ⟨t4044.1, ((1 : Int) + t4039.1), t4045, rfl, h_t4045, rfl⟩) h_t4046) (ap_cons (ep_hon1 (ep_call (ap_cons (ep_var (i := 11) rfl) (ap_cons (ep_var (i := 6) rfl) ap_nil)) ⟨v_row4035, t6.2, t4047, rfl, h_t4047, rfl⟩) h_t4048) ap_nil))) [.dat ((eL eI) v_script), .own (t4044.2.map eI), .dat ((eL (eL eI)) t3.1), .dat (eI (t3.1.length : Int)), .dat ((e_Lattice C_Grid C_Lattice) v_lattice5), .dat ((e_Grid C_Grid C_Lattice) t6.1), .dat (eI t6.2), .dat ((eL (eT eI)) v_units13), .un, .un, .dat ((eT eI) t4033.1), .dat ((eT eI) v_row4035), .dat (eI ((1 : Int) + t4039.1)), .dat ((eT eI) t4044.1), .dat ((eP (eT eI) eI) (t4046, t4048).1), .dat ((eP (eT eI) eI) (t4046, t4048).2), .un, .un, .un, .un, .un, .un, .un, .un] ?_)
        obtain ⟨t4049, h_t4049, h⟩ := bdO h
        obtain ⟨t4051, h_t4051, h⟩ := bdO h
        refine q_seq (w_if (tp_orM (tp_test (ep_neP (e := (eP (eT eI) eI)) (plainP (plainT plainI) plainI) (by decide) (ep_var (i := 14) rfl) (ep_call (ap_cons (ep_var (i := 13) rfl) (ap_cons (ep_var (i := 12) rfl) ap_nil)) ⟨fuel, t4044.1, ((1 : Int) + t4039.1), t4049, rfl, h_t4049, rfl⟩))) h_t4051 (fun hb _ h => by obtain ⟨t4050, h_t4050, h⟩ := bdO h; exact TXp.is (a := (!decide ((t4046, t4048).2 = t4050))) (tp_test (ep_neP (e := (eP (eT eI) eI)) (plainP (plainT plainI) plainI) (by decide) (ep_var (i := 15) rfl) (ep_call (ap_cons (ep_var (i := 11) rfl) (ap_cons (ep_var (i := 6) rfl) ap_nil)) ⟨fuel, v_row4035, t6.2, t4050, rfl, h_t4050, rfl⟩))) (Option.some.inj h))) (fun hb => ?_) (fun hb => ?_))
        · replace h := ifT hb h
          exact w_ret (d := eB false) ep_bl (congrArg eB (Option.some.inj h))
        · replace h := ifF hb h
          refine w_next ?_
          obtain ⟨t4052, h_t4052, h⟩ := bdO h
          obtain ⟨t4057, h_t4057, h⟩ := bdO h
          obtain ⟨v_due4058, h_v_due4058, h⟩ := bdO h
          refine q_seq (w_asg (i := 16) (EXp.is (e := eB v_due4058) (ep_eqI (ep_lenM (f := eI) (ip_new (lp_lcM (e := eI) (fun x4053 => [.dat ((eL eI) v_script), .own (t4044.2.map eI), .dat ((eL (eL eI)) t3.1), .dat (eI (t3.1.length : Int)), .dat ((e_Lattice C_Grid C_Lattice) v_lattice5), .dat ((e_Grid C_Grid C_Lattice) t6.1), .dat (eI t6.2), .dat ((eL (eT eI)) v_units13), .un, .dat (eI x4053), .dat ((eT eI) t4033.1), .dat ((eT eI) v_row4035), .dat (eI ((1 : Int) + t4039.1)), .dat ((eT eI) t4044.1), .dat ((eP (eT eI) eI) (t4046, t4048).1), .dat ((eP (eT eI) eI) (t4046, t4048).2), .un, .un, .un, .un, .un, .un, .un, .un]) (wl_range1 (ep_var (i := 3) rfl) h_t4052) h_t4057 (by decide) (fun x4053 _ h => by obtain ⟨t4054, h_t4054, h⟩ := bdO h; obtain ⟨t4055, h_t4055, h⟩ := bdO h; obtain ⟨t4056, h_t4056, h⟩ := bdO h; exact TXp.is (a := (!decide (t4056 = (0 : Int)))) (tp_test (ep_neI (ep_mod (ep_call (ap_cons (ep_var (i := 2) rfl) (ap_cons (ep_ixD (ip_tup (ep_var (i := 14) rfl)) ep_int rfl) (ap_cons (ep_ix (f := (eT eI)) (ip_lst (ep_var (i := 7) rfl)) (ep_var (i := 9) rfl) h_t4054) ap_nil))) ⟨t3.1, (t4046, t4048).1.1, t4054, t4055, rfl, h_t4055, rfl⟩) (ep_ixD (ip_tup (ep_var (i := 14) rfl)) ep_int rfl) h_t4056) ep_int)) (Option.some.inj h)) (fun x4053 _ h => by exact EXp.is (d := eI x4053) (ep_var (i := 9) rfl) (congrArg eI (Option.some.inj h)))))) ep_int) (by cases h_v_due4058; rfl)) [.dat ((eL eI) v_script), .own (t4044.2.map eI), .dat ((eL (eL eI)) t3.1), .dat (eI (t3.1.length : Int)), .dat ((e_Lattice C_Grid C_Lattice) v_lattice5), .dat ((e_Grid C_Grid C_Lattice) t6.1), .dat (eI t6.2), .dat ((eL (eT eI)) v_units13), .un, .un, .dat ((eT eI) t4033.1), .dat ((eT eI) v_row4035), .dat (eI ((1 : Int) + t4039.1)), .dat ((eT eI) t4044.1), .dat ((eP (eT eI) eI) (t4046, t4048).1), .dat ((eP (eT eI) eI) (t4046, t4048).2), .dat (eB v_due4058), .un, .un, .un, .un, .un, .un, .un] ?_)
          obtain ⟨t4059, h_t4059, h⟩ := bdO h
          obtain ⟨t4061, h_t4061, h⟩ := bdO h
          refine q_seq (w_if (tp_orM (tp_test (ep_neB (ep_call (ap_cons (ep_var (i := 4) rfl) (ap_cons (ep_var (i := 14) rfl) ap_nil)) ⟨v_lattice5, (t4046, t4048).1, t4059, rfl, h_t4059, rfl⟩) (ep_var (i := 16) rfl))) h_t4061 (fun hb _ h => by obtain ⟨t4060, h_t4060, h⟩ := bdO h; exact TXp.is (a := (!true)) (tp_not (tp_val (ep_isiB (b := true) (ep_call (ap_cons (ep_var (i := 4) rfl) (ap_cons (ep_var (i := 14) rfl) ap_nil)) ⟨v_lattice5, (t4046, t4048).1, t4060, rfl, h_t4060, rfl⟩) .bl (by decide +kernel)))) (Option.some.inj h))) (fun hb => ?_) (fun hb => ?_))
          · replace h := ifT hb h
            exact w_ret (d := eB false) ep_bl (congrArg eB (Option.some.inj h))
          · replace h := ifF hb h
            refine w_next ?_
            obtain ⟨t4062, h_t4062, h⟩ := bdO h
            refine q_seq (w_tup2 (ep_hon2 (ep_call (ap_cons (ep_var (i := 4) rfl) (ap_cons (ep_var (i := 14) rfl) (ap_cons (ep_var (i := 15) rfl) ap_nil))) ⟨v_lattice5, (t4046, t4048).1, (t4046, t4048).2, t4062, rfl, h_t4062, rfl⟩)) [.dat ((eL eI) v_script), .own (t4044.2.map eI), .dat ((eL (eL eI)) t3.1), .dat (eI (t3.1.length : Int)), .dat ((e_Lattice C_Grid C_Lattice) v_lattice5), .dat ((e_Grid C_Grid C_Lattice) t6.1), .dat (eI t6.2), .dat ((eL (eT eI)) v_units13), .un, .un, .dat ((eT eI) t4033.1), .dat ((eT eI) v_row4035), .dat (eI ((1 : Int) + t4039.1)), .dat ((eT eI) t4044.1), .dat ((eP (eT eI) eI) (t4046, t4048).1), .dat ((eP (eT eI) eI) (t4046, t4048).2), .dat (eB v_due4058), .dat (eI t4062.1), .dat (eI t4062.2), .un, .un, .un, .un, .un] ?_)
            obtain ⟨t4063, h_t4063, h⟩ := bdO h
            obtain ⟨t4064, h_t4064, h⟩ := bdO h
            obtain ⟨t4065, h_t4065, h⟩ := bdO h
            obtain ⟨t4066, h_t4066, h⟩ := bdO h
            obtain ⟨t4069, h_t4069, h⟩ := bdO h
            refine q_seq (w_if (tp_orM (tp_test (ep_neI (ep_mul (ep_mul (ep_var (i := 17) rfl) (ep_ixD (ip_tup (ep_var (i := 14) rfl)) ep_int rfl) h_t4063) (ep_ixD (ip_tup (ep_var (i := 15) rfl)) ep_int rfl) h_t4064) (ep_mul (ep_var (i := 18) rfl) (ep_call (ap_cons (ep_var (i := 2) rfl) (ap_cons (ep_ixD (ip_tup (ep_var (i := 14) rfl)) ep_int rfl) (ap_cons (ep_ixD (ip_tup (ep_var (i := 15) rfl)) ep_int rfl) ap_nil))) ⟨t3.1, (t4046, t4048).1.1, (t4046, t4048).2.1, t4065, rfl, h_t4065, rfl⟩) h_t4066))) h_t4069 (fun hb _ h => by obtain ⟨t4068, h_t4068, h⟩ := bdO h; exact TXp.is (a := t4068) (tp_orM (tp_test (ep_lt (ep_var (i := 18) rfl) ep_int)) h_t4068 (fun hb _ h => by obtain ⟨t4067, h_t4067, h⟩ := bdO h; exact TXp.is (a := (!decide (t4067 = (1 : Int)))) (tp_test (ep_neI (ep_call (ap_cons (ep_var (i := 17) rfl) (ap_cons (ep_var (i := 18) rfl) ap_nil)) ⟨fuel, t4062.1, t4062.2, t4067, rfl, h_t4067, rfl⟩) ep_int)) (Option.some.inj h))) (Option.some.inj h))) (fun hb => ?_) (fun hb => ?_))
            · replace h := ifT hb h
              exact w_ret (d := eB false) ep_bl (congrArg eB (Option.some.inj h))
            · replace h := ifF hb h
              refine w_next ?_
              obtain ⟨v_other4071, h_v_other4071, h⟩ := bdO h
              refine q_seq (w_asg (i := 19) (ep_hon3 (ep_call (ap_cons (ep_var (i := 4) rfl) ap_nil) ⟨v_lattice5, v_other4071, rfl, h_v_other4071, rfl⟩)) [.dat ((eL eI) v_script), .own (t4044.2.map eI), .dat ((eL (eL eI)) t3.1), .dat (eI (t3.1.length : Int)), .dat ((e_Lattice C_Grid C_Lattice) v_lattice5), .dat ((e_Grid C_Grid C_Lattice) t6.1), .dat (eI t6.2), .dat ((eL (eT eI)) v_units13), .un, .un, .dat ((eT eI) t4033.1), .dat ((eT eI) v_row4035), .dat (eI ((1 : Int) + t4039.1)), .dat ((eT eI) t4044.1), .dat ((eP (eT eI) eI) (t4046, t4048).1), .dat ((eP (eT eI) eI) (t4046, t4048).2), .dat (eB v_due4058), .dat (eI t4062.1), .dat (eI t4062.2), .dat ((e_Lattice C_Grid C_Lattice) v_other4071), .un, .un, .un, .un] ?_)
              refine q_seq (w_asg (i := 20) ep_int [.dat ((eL eI) v_script), .own (t4044.2.map eI), .dat ((eL (eL eI)) t3.1), .dat (eI (t3.1.length : Int)), .dat ((e_Lattice C_Grid C_Lattice) v_lattice5), .dat ((e_Grid C_Grid C_Lattice) t6.1), .dat (eI t6.2), .dat ((eL (eT eI)) v_units13), .un, .un, .dat ((eT eI) t4033.1), .dat ((eT eI) v_row4035), .dat (eI ((1 : Int) + t4039.1)), .dat ((eT eI) t4044.1), .dat ((eP (eT eI) eI) (t4046, t4048).1), .dat ((eP (eT eI) eI) (t4046, t4048).2), .dat (eB v_due4058), .dat (eI t4062.1), .dat (eI t4062.2), .dat ((e_Lattice C_Grid C_Lattice) v_other4071), .dat (eI (0 : Int)), .un, .un, .un] ?_)
              obtain ⟨s12075, h_s12075, h⟩ := bdO h
              refine q_seq (w_fold (fun q3 : Int => [.dat ((eL eI) v_script), .own (t4044.2.map eI), .dat ((eL (eL eI)) t3.1), .dat (eI (t3.1.length : Int)), .dat ((e_Lattice C_Grid C_Lattice) v_lattice5), .dat ((e_Grid C_Grid C_Lattice) t6.1), .dat (eI t6.2), .dat ((eL (eT eI)) v_units13), .un, .un, .dat ((eT eI) t4033.1), .dat ((eT eI) v_row4035), .dat (eI ((1 : Int) + t4039.1)), .dat ((eT eI) t4044.1), .dat ((eP (eT eI) eI) (t4046, t4048).1), .dat ((eP (eT eI) eI) (t4046, t4048).2), .dat (eB v_due4058), .dat (eI t4062.1), .dat (eI t4062.2), .dat ((e_Lattice C_Grid C_Lattice) v_other4071), .dat (eI q3), .un, .un, .un]) (0 : Int) (sle_same (sle_same (sle_same (sle_same (sle_same (sle_same (sle_same (sle_same (sle_same (sle_same (sle_same (sle_same (sle_same (sle_same (sle_same (sle_same (sle_same (sle_same (sle_same (sle_same (sle_same (sle_same (sle_same (sle_same sle_nil)))))))))))))))))))))))) (wl_seq (f := (eT eI)) (sq_tup (ep_fld (ep_var (i := 5) rfl) T.cl_Grid T.n_Grid_rows rfl))) h_s12075 (fun y3 q3 s' h => ?_) ?_)
              · refine w_at [.dat ((eL eI) v_script), .own (t4044.2.map eI), .dat ((eL (eL eI)) t3.1), .dat (eI (t3.1.length : Int)), .dat ((e_Lattice C_Grid C_Lattice) v_lattice5), .dat ((e_Grid C_Grid C_Lattice) t6.1), .dat (eI t6.2), .dat ((eL (eT eI)) v_units13), .un, .un, .dat ((eT eI) t4033.1), .dat ((eT eI) v_row4035), .dat (eI ((1 : Int) + t4039.1)), .dat ((eT eI) t4044.1), .dat ((eP (eT eI) eI) (t4046, t4048).1), .dat ((eP (eT eI) eI) (t4046, t4048).2), .dat (eB v_due4058), .dat (eI t4062.1), .dat (eI t4062.2), .dat ((e_Lattice C_Grid C_Lattice) v_other4071), .dat (eI q3), .dat ((eT eI) y3), .un, .un] ?_
                unfold m_law_l3 at h
                obtain ⟨s12074, h_s12074, h⟩ := bdO h
                refine w_fold (fun q4 : Int => [.dat ((eL eI) v_script), .own (t4044.2.map eI), .dat ((eL (eL eI)) t3.1), .dat (eI (t3.1.length : Int)), .dat ((e_Lattice C_Grid C_Lattice) v_lattice5), .dat ((e_Grid C_Grid C_Lattice) t6.1), .dat (eI t6.2), .dat ((eL (eT eI)) v_units13), .un, .un, .dat ((eT eI) t4033.1), .dat ((eT eI) v_row4035), .dat (eI ((1 : Int) + t4039.1)), .dat ((eT eI) t4044.1), .dat ((eP (eT eI) eI) (t4046, t4048).1), .dat ((eP (eT eI) eI) (t4046, t4048).2), .dat (eB v_due4058), .dat (eI t4062.1), .dat (eI t4062.2), .dat ((e_Lattice C_Grid C_Lattice) v_other4071), .dat (eI q4), .dat ((eT eI) y3), .un, .un]) q3 (sle_same (sle_same (sle_same (sle_same (sle_same (sle_same (sle_same (sle_same (sle_same (sle_same (sle_same (sle_same (sle_same (sle_same (sle_same (sle_same (sle_same (sle_same (sle_same (sle_same (sle_same (sle_same (sle_same (sle_same sle_nil)))))))))))))))))))))))) (wl_seq (f := eI) (sq_tup (ep_var (i := 21) rfl))) h_s12074 (fun y4 q4 s' h => ?_) ?_
                · refine w_at [.dat ((eL eI) v_script), .own (t4044.2.map eI), .dat ((eL (eL eI)) t3.1), .dat (eI (t3.1.length : Int)), .dat ((e_Lattice C_Grid C_Lattice) v_lattice5), .dat ((e_Grid C_Grid C_Lattice) t6.1), .dat (eI t6.2), .dat ((eL (eT eI)) v_units13), .un, .un, .dat ((eT eI) t4033.1), .dat ((eT eI) v_row4035), .dat (eI ((1 : Int) + t4039.1)), .dat ((eT eI) t4044.1), .dat ((eP (eT eI) eI) (t4046, t4048).1), .dat ((eP (eT eI) eI) (t4046, t4048).2), .dat (eB v_due4058), .dat (eI t4062.1), .dat (eI t4062.2), .dat ((e_Lattice C_Grid C_Lattice) v_other4071), .dat (eI q4), .dat ((eT eI) y3), .dat (eI y4), .un] ?_
                  unfold m_law_l4 at h
                  obtain ⟨v_common12073, h_v_common12073, h⟩ := bdO h
                  refine w_asg (i := 20) (ep_call (ap_cons (ep_var (i := 20) rfl) (ap_cons (ep_var (i := 22) rfl) ap_nil)) ⟨fuel, q4, y4, v_common12073, rfl, h_v_common12073, rfl⟩) [.dat ((eL eI) v_script), .own (t4044.2.map eI), .dat ((eL (eL eI)) t3.1), .dat (eI (t3.1.length : Int)), .dat ((e_Lattice C_Grid C_Lattice) v_lattice5), .dat ((e_Grid C_Grid C_Lattice) t6.1), .dat (eI t6.2), .dat ((eL (eT eI)) v_units13), .un, .un, .dat ((eT eI) t4033.1), .dat ((eT eI) v_row4035), .dat (eI ((1 : Int) + t4039.1)), .dat ((eT eI) t4044.1), .dat ((eP (eT eI) eI) (t4046, t4048).1), .dat ((eP (eT eI) eI) (t4046, t4048).2), .dat (eB v_due4058), .dat (eI t4062.1), .dat (eI t4062.2), .dat ((e_Lattice C_Grid C_Lattice) v_other4071), .dat (eI v_common12073), .dat ((eT eI) y3), .dat (eI y4), .un] ?_
                  cases h
                  exact (by repeat (first | exact sle_nil | refine sle_same ?_ | refine sle_un ?_))
                cases h
                exact (by repeat (first | exact sle_nil | refine sle_same ?_ | refine sle_un ?_))
              obtain ⟨t12080, h_t12080, h⟩ := bdO h
              refine q_seq (w_if (tp_test (ep_neP (e := (eT (eT eI))) (plainT (plainT plainI)) (by decide) (ep_fld (ep_fld (ep_var (i := 19) rfl) T.cl_Lattice T.n_Lattice_gram rfl) T.cl_Grid T.n_Grid_rows rfl) (ep_tuple (ip_new (lp_lcA (e := (eT eI)) (fun x12076 => [.dat ((eL eI) v_script), .own (t4044.2.map eI), .dat ((eL (eL eI)) t3.1), .dat (eI (t3.1.length : Int)), .dat ((e_Lattice C_Grid C_Lattice) v_lattice5), .dat ((e_Grid C_Grid C_Lattice) t6.1), .dat (eI t6.2), .dat ((eL (eT eI)) v_units13), .un, .un, .dat ((eT eI) t4033.1), .dat ((eT eI) v_row4035), .dat (eI ((1 : Int) + t4039.1)), .dat ((eT eI) t4044.1), .dat ((eP (eT eI) eI) (t4046, t4048).1), .dat ((eP (eT eI) eI) (t4046, t4048).2), .dat (eB v_due4058), .dat (eI t4062.1), .dat (eI t4062.2), .dat ((e_Lattice C_Grid C_Lattice) v_other4071), .dat (eI s12075), .dat ((eT eI) x12076), .un, .un]) (wl_seq (f := (eT eI)) (sq_tup (ep_fld (ep_var (i := 5) rfl) T.cl_Grid T.n_Grid_rows rfl))) h_t12080 (by decide) (fun x12076 _ h => by obtain ⟨t12079, h_t12079, h⟩ := bdO h; exact EXp.is (d := (eT eI) t12079) (ep_tuple (ip_new (lp_lcA (e := eI) (fun x12077 => [.dat ((eL eI) v_script), .own (t4044.2.map eI), .dat ((eL (eL eI)) t3.1), .dat (eI (t3.1.length : Int)), .dat ((e_Lattice C_Grid C_Lattice) v_lattice5), .dat ((e_Grid C_Grid C_Lattice) t6.1), .dat (eI t6.2), .dat ((eL (eT eI)) v_units13), .un, .un, .dat ((eT eI) t4033.1), .dat ((eT eI) v_row4035), .dat (eI ((1 : Int) + t4039.1)), .dat ((eT eI) t4044.1), .dat ((eP (eT eI) eI) (t4046, t4048).1), .dat ((eP (eT eI) eI) (t4046, t4048).2), .dat (eB v_due4058), .dat (eI t4062.1), .dat (eI t4062.2), .dat ((e_Lattice C_Grid C_Lattice) v_other4071), .dat (eI s12075), .dat ((eT eI) x12076), .dat (eI x12077), .un]) (wl_seq (f := eI) (sq_tup (ep_var (i := 21) rfl))) h_t12079 (by decide) (fun x12077 _ h => by obtain ⟨t12078, h_t12078, h⟩ := bdO h; exact EXp.is (d := eI t12078) (ep_fdiv (ep_var (i := 22) rfl) (ep_var (i := 20) rfl) h_t12078) (congrArg eI (Option.some.inj h)))))) (congrArg (eT eI) (Option.some.inj h)))))))) (fun hb => ?_) (fun hb => ?_))
              · replace h := ifT hb h
                exact w_ret (d := eB false) ep_bl (congrArg eB (Option.some.inj h))
              · replace h := ifF hb h
                refine w_next ?_
                refine q_seq (w_asg (i := 23) ep_int [.dat ((eL eI) v_script), .own (t4044.2.map eI), .dat ((eL (eL eI)) t3.1), .dat (eI (t3.1.length : Int)), .dat ((e_Lattice C_Grid C_Lattice) v_lattice5), .dat ((e_Grid C_Grid C_Lattice) t6.1), .dat (eI t6.2), .dat ((eL (eT eI)) v_units13), .un, .un, .dat ((eT eI) t4033.1), .dat ((eT eI) v_row4035), .dat (eI ((1 : Int) + t4039.1)), .dat ((eT eI) t4044.1), .dat ((eP (eT eI) eI) (t4046, t4048).1), .dat ((eP (eT eI) eI) (t4046, t4048).2), .dat (eB v_due4058), .dat (eI t4062.1), .dat (eI t4062.2), .dat ((e_Lattice C_Grid C_Lattice) v_other4071), .dat (eI s12075), .un, .un, .dat (eI (0 : Int))] ?_)
                obtain ⟨s24084, h_s24084, h⟩ := bdO h
                refine q_seq (w_fold (fun q5 : Int => [.dat ((eL eI) v_script), .own (t4044.2.map eI), .dat ((eL (eL eI)) t3.1), .dat (eI (t3.1.length : Int)), .dat ((e_Lattice C_Grid C_Lattice) v_lattice5), .dat ((e_Grid C_Grid C_Lattice) t6.1), .dat (eI t6.2), .dat ((eL (eT eI)) v_units13), .un, .un, .dat ((eT eI) t4033.1), .dat ((eT eI) v_row4035), .dat (eI ((1 : Int) + t4039.1)), .dat ((eT eI) t4044.1), .dat ((eP (eT eI) eI) (t4046, t4048).1), .dat ((eP (eT eI) eI) (t4046, t4048).2), .dat (eB v_due4058), .dat (eI t4062.1), .dat (eI t4062.2), .dat ((e_Lattice C_Grid C_Lattice) v_other4071), .dat (eI s12075), .un, .un, .dat (eI q5)]) (0 : Int) (sle_same (sle_same (sle_same (sle_same (sle_same (sle_same (sle_same (sle_same (sle_same (sle_same (sle_same (sle_same (sle_same (sle_same (sle_same (sle_same (sle_same (sle_same (sle_same (sle_same (sle_same (sle_same (sle_same (sle_same sle_nil)))))))))))))))))))))))) (wl_seq (f := (eL eI)) (sq_lst (ep_var (i := 2) rfl))) h_s24084 (fun y5 q5 s' h => ?_) ?_)
                · refine w_at [.dat ((eL eI) v_script), .own (t4044.2.map eI), .dat ((eL (eL eI)) t3.1), .dat (eI (t3.1.length : Int)), .dat ((e_Lattice C_Grid C_Lattice) v_lattice5), .dat ((e_Grid C_Grid C_Lattice) t6.1), .dat (eI t6.2), .dat ((eL (eT eI)) v_units13), .un, .un, .dat ((eT eI) t4033.1), .dat ((eT eI) v_row4035), .dat (eI ((1 : Int) + t4039.1)), .dat ((eT eI) t4044.1), .dat ((eP (eT eI) eI) (t4046, t4048).1), .dat ((eP (eT eI) eI) (t4046, t4048).2), .dat (eB v_due4058), .dat (eI t4062.1), .dat (eI t4062.2), .dat ((e_Lattice C_Grid C_Lattice) v_other4071), .dat (eI s12075), .dat ((eL eI) y5), .un, .dat (eI q5)] ?_
                  unfold m_law_l5 at h
                  obtain ⟨s24083, h_s24083, h⟩ := bdO h
                  refine w_fold (fun q6 : Int => [.dat ((eL eI) v_script), .own (t4044.2.map eI), .dat ((eL (eL eI)) t3.1), .dat (eI (t3.1.length : Int)), .dat ((e_Lattice C_Grid C_Lattice) v_lattice5), .dat ((e_Grid C_Grid C_Lattice) t6.1), .dat (eI t6.2), .dat ((eL (eT eI)) v_units13), .un, .un, .dat ((eT eI) t4033.1), .dat ((eT eI) v_row4035), .dat (eI ((1 : Int) + t4039.1)), .dat ((eT eI) t4044.1), .dat ((eP (eT eI) eI) (t4046, t4048).1), .dat ((eP (eT eI) eI) (t4046, t4048).2), .dat (eB v_due4058), .dat (eI t4062.1), .dat (eI t4062.2), .dat ((e_Lattice C_Grid C_Lattice) v_other4071), .dat (eI s12075), .dat ((eL eI) y5), .un, .dat (eI q6)]) q5 (sle_same (sle_same (sle_same (sle_same (sle_same (sle_same (sle_same (sle_same (sle_same (sle_same (sle_same (sle_same (sle_same (sle_same (sle_same (sle_same (sle_same (sle_same (sle_same (sle_same (sle_same (sle_same (sle_same (sle_same sle_nil)))))))))))))))))))))))) (wl_seq (f := eI) (sq_lst (ep_var (i := 21) rfl))) h_s24083 (fun y6 q6 s' h => ?_) ?_
                  · refine w_at [.dat ((eL eI) v_script), .own (t4044.2.map eI), .dat ((eL (eL eI)) t3.1), .dat (eI (t3.1.length : Int)), .dat ((e_Lattice C_Grid C_Lattice) v_lattice5), .dat ((e_Grid C_Grid C_Lattice) t6.1), .dat (eI t6.2), .dat ((eL (eT eI)) v_units13), .un, .un, .dat ((eT eI) t4033.1), .dat ((eT eI) v_row4035), .dat (eI ((1 : Int) + t4039.1)), .dat ((eT eI) t4044.1), .dat ((eP (eT eI) eI) (t4046, t4048).1), .dat ((eP (eT eI) eI) (t4046, t4048).2), .dat (eB v_due4058), .dat (eI t4062.1), .dat (eI t4062.2), .dat ((e_Lattice C_Grid C_Lattice) v_other4071), .dat (eI s12075), .dat ((eL eI) y5), .dat (eI y6), .dat (eI q6)] ?_
                    unfold m_law_l6 at h
                    obtain ⟨v_content_v24082, h_v_content_v24082, h⟩ := bdO h
                    refine w_asg (i := 23) (ep_call (ap_cons (ep_var (i := 23) rfl) (ap_cons (ep_var (i := 22) rfl) ap_nil)) ⟨fuel, q6, y6, v_content_v24082, rfl, h_v_content_v24082, rfl⟩) [.dat ((eL eI) v_script), .own (t4044.2.map eI), .dat ((eL (eL eI)) t3.1), .dat (eI (t3.1.length : Int)), .dat ((e_Lattice C_Grid C_Lattice) v_lattice5), .dat ((e_Grid C_Grid C_Lattice) t6.1), .dat (eI t6.2), .dat ((eL (eT eI)) v_units13), .un, .un, .dat ((eT eI) t4033.1), .dat ((eT eI) v_row4035), .dat (eI ((1 : Int) + t4039.1)), .dat ((eT eI) t4044.1), .dat ((eP (eT eI) eI) (t4046, t4048).1), .dat ((eP (eT eI) eI) (t4046, t4048).2), .dat (eB v_due4058), .dat (eI t4062.1), .dat (eI t4062.2), .dat ((e_Lattice C_Grid C_Lattice) v_other4071), .dat (eI s12075), .dat ((eL eI) y5), .dat (eI y6), .dat (eI v_content_v24082)] ?_
                    cases h
                    exact (by repeat (first | exact sle_nil | refine sle_same ?_ | refine sle_un ?_))
                  cases h
                  exact (by repeat (first | exact sle_nil | refine sle_same ?_ | refine sle_un ?_))
                obtain ⟨t24085, h_t24085, h⟩ := bdO h
                obtain ⟨t24090, h_t24090, h⟩ := bdO h
                exact w_ret (d := eB (decide (t24085.gram.rows = t24090))) (ep_eqP (e := (eT (eT eI))) (plainT (plainT plainI)) (by decide) (ep_fld (ep_fld (ep_hon3 (ep_call (ap_cons (ep_var (i := 19) rfl) ap_nil) ⟨v_other4071, t24085, rfl, h_t24085, rfl⟩)) T.cl_Lattice T.n_Lattice_gram rfl) T.cl_Grid T.n_Grid_rows rfl) (ep_tuple (ip_new (lp_lcA (e := (eT eI)) (fun x24086 => [.dat ((eL eI) v_script), .own (t4044.2.map eI), .dat ((eL (eL eI)) t3.1), .dat (eI (t3.1.length : Int)), .dat ((e_Lattice C_Grid C_Lattice) v_lattice5), .dat ((e_Grid C_Grid C_Lattice) t6.1), .dat (eI t6.2), .dat ((eL (eT eI)) v_units13), .un, .un, .dat ((eT eI) t4033.1), .dat ((eT eI) v_row4035), .dat (eI ((1 : Int) + t4039.1)), .dat ((eT eI) t4044.1), .dat ((eP (eT eI) eI) (t4046, t4048).1), .dat ((eP (eT eI) eI) (t4046, t4048).2), .dat (eB v_due4058), .dat (eI t4062.1), .dat (eI t4062.2), .dat ((e_Lattice C_Grid C_Lattice) v_other4071), .dat (eI s12075), .dat ((eL eI) x24086), .un, .dat (eI s24084)]) (wl_seq (f := (eL eI)) (sq_lst (ep_var (i := 2) rfl))) h_t24090 (by decide) (fun x24086 _ h => by obtain ⟨t24089, h_t24089, h⟩ := bdO h; exact EXp.is (d := (eT eI) t24089) (ep_tuple (ip_new (lp_lcA (e := eI) (fun x24087 => [.dat ((eL eI) v_script), .own (t4044.2.map eI), .dat ((eL (eL eI)) t3.1), .dat (eI (t3.1.length : Int)), .dat ((e_Lattice C_Grid C_Lattice) v_lattice5), .dat ((e_Grid C_Grid C_Lattice) t6.1), .dat (eI t6.2), .dat ((eL (eT eI)) v_units13), .un, .un, .dat ((eT eI) t4033.1), .dat ((eT eI) v_row4035), .dat (eI ((1 : Int) + t4039.1)), .dat ((eT eI) t4044.1), .dat ((eP (eT eI) eI) (t4046, t4048).1), .dat ((eP (eT eI) eI) (t4046, t4048).2), .dat (eB v_due4058), .dat (eI t4062.1), .dat (eI t4062.2), .dat ((e_Lattice C_Grid C_Lattice) v_other4071), .dat (eI s12075), .dat ((eL eI) x24086), .dat (eI x24087), .dat (eI s24084)]) (wl_seq (f := eI) (sq_lst (ep_var (i := 21) rfl))) h_t24089 (by decide) (fun x24087 _ h => by obtain ⟨t24088, h_t24088, h⟩ := bdO h; exact EXp.is (d := eI t24088) (ep_fdiv (ep_var (i := 22) rfl) (ep_var (i := 23) rfl) h_t24088) (congrArg eI (Option.some.inj h)))))) (congrArg (eT eI) (Option.some.inj h))))))) (congrArg eB (Option.some.inj h))
    · subst e
      replace h := thenRt h
      cases h
      exact pr
    · subst e
      replace h := thenRt h
      cases h
      exact pr
end
end G41
set_option Elab.async false
set_option linter.all false
set_option maxRecDepth 100000
set_option maxHeartbeats 4000000
namespace G41
open G
theorem ld_of {n : Nat} {g a : List (List Int)} {e : Nat → Int} (h : Gr n g a e) : ∃ A d, LD n g A d := by
  have n1 := h.n1
  have n3 := h.n3
  have hc : n = 1 ∨ n = 2 ∨ n = 3 := by omega
  rcases hc with rfl | rfl | rfl
  · obtain ⟨x, rfl, h1, h2⟩ := gr1 h
    exact ⟨_, _, ld1 h1 h2⟩
  · obtain ⟨x, y, z, rfl, h1, h2, h3, h4, h5, h6, h7⟩ := gr2 h
    exact ⟨_, _, ld2 ⟨h1, h2⟩ ⟨h3, h4⟩ ⟨h5, h6⟩ h7⟩
  · obtain ⟨x, y, z, u, v, w, rfl, o⟩ := gr3 h
    exact ⟨_, _, ld3 o⟩
/-! ### gcd -/
theorem gcd_loop : ∀ (n a b : Nat), b < n → whileO m_law_gcd_l1c m_law_gcd_l1 n ((a : Int), (b : Int)) = some (.nx (((Nat.gcd a b : Nat) : Int), 0))
  | 0, a, b, h => by omega
  | n + 1, a, b, h => by
    show (m_law_gcd_l1c ((a : Int), (b : Int))).bind _ = _
    by_cases hb : b = 0
    · subst hb
      have e : m_law_gcd_l1c ((a : Int), ((0 : Nat) : Int)) = some false := rfl
      refine bo e ?_
      rw [if_neg Bool.false_ne_true, Nat.gcd_zero_right]
      rfl
    · have e : m_law_gcd_l1c ((a : Int), (b : Int)) = some true := by
        unfold m_law_gcd_l1c
        simp [hb]
      refine bo e ?_
      rw [if_pos rfl]
      have e2 : m_law_gcd_l1 ((a : Int), (b : Int)) = some (.nx ((b : Int), ((a % b : Nat) : Int))) := by
        unfold m_law_gcd_l1
        refine bo (modO_ne (by show (b : Int) ≠ 0; omega)) ?_
        show some (Fl.nx ((b : Int), (a : Int).fmod (b : Int))) = _
        rw [Int.fmod_eq_emod_of_nonneg _ (by omega)]
        rfl
      refine bo e2 ?_
      show whileO m_law_gcd_l1c m_law_gcd_l1 n ((b : Int), ((a % b : Nat) : Int)) = _
      rw [gcd_loop n b (a % b) (by have := Nat.mod_lt a (Nat.pos_of_ne_zero hb); omega), Nat.gcd_comm b, ← Nat.gcd_rec, Nat.gcd_comm]
theorem gcd_ok {f : Nat} {a b : Int} (h : b.natAbs < f) : m_law_gcd f a b = some ((Nat.gcd a.natAbs b.natAbs : Nat) : Int) := by
  unfold m_law_gcd
  refine bo (x := ((a.natAbs : Nat) : Int)) (by congr 1; split <;> omega) ?_
  refine bo (x := ((b.natAbs : Nat) : Int)) (by congr 1; split <;> omega) ?_
  refine bo (gcd_loop f a.natAbs b.natAbs h) ?_
  rfl
theorem content_ok (p : Sq eI) : m_content p = some ((gN p.xs : Nat) : Int) := by
  unfold m_content
  refine bo (x := ((gN p.xs : Nat) : Int)) ?_ rfl
  rw [← foldl_gcd0]
  exact foldO_of fun x _ t => rfl
def ratQ (row : List Int) (e : Int) : List Int × Int := (row.map (fun x => x.fdiv ((Nat.gcd e.natAbs (gN row) : Nat) : Int)), e.fdiv ((Nat.gcd e.natAbs (gN row) : Nat) : Int))
theorem gcd_pos {row : List Int} {e : Int} (h : 1 ≤ e) : 0 < Nat.gcd e.natAbs (gN row) := Nat.gcd_pos_of_pos_left _ (by omega)
theorem rational_ok {row : List Int} {e : Int} (h : 1 ≤ e) (hl : row.length ≤ 100000) : m_rational row e = some (ratQ row e) := by
  unfold m_rational
  have hp := gcd_pos (row := row) h
  refine bo (content_ok (Sq.T eI row)) ?_
  refine bo (x := ((Nat.gcd e.natAbs (gN row) : Nat) : Int)) (by rw [Int.natAbs_natCast]; rfl) ?_
  refine bo (lcA_of (g := fun x => x.fdiv ((Nat.gcd e.natAbs (gN row) : Nat) : Int)) hl fun x _ => bo (fdivO_ne (by omega)) rfl) ?_
  exact bo (fdivO_ne (by omega)) rfl
theorem lowest_ok {f : Nat} {row : List Int} {e : Int} (h : 1 ≤ e) (hl : row.length ≤ 100000) (hf : ∀ x ∈ row, x.natAbs < f) : m_law_lowest f row e = some (ratQ row e) := by
  unfold m_law_lowest
  have hp := gcd_pos (row := row) h
  refine bo (x := ((Nat.gcd e.natAbs (gN row) : Nat) : Int)) ?_ ?_
  · rw [← foldl_gcdP (show 0 ≤ e by omega)]
    exact foldO_of fun x hx t => by
      unfold m_law_lowest_l1
      exact bo (gcd_ok (hf x hx)) rfl
  · refine bo (lcA_of (g := fun x => x.fdiv ((Nat.gcd e.natAbs (gN row) : Nat) : Int)) hl fun x _ => bo (fdivO_ne (by omega)) rfl) ?_
    exact bo (fdivO_ne (by omega)) rfl
/-! ### products -/
theorem dot_l {p q : Sq eI} (h : ∀ x ∈ p.xs, x.natAbs < 2 ^ 64) (hl : p.xs.length ≤ 100000) : m_dot p q = some (dotL p.xs q.xs) := by
  unfold m_dot
  refine bo (lcA_of (g := fun z => z.1 * z.2) (by rw [List.length_zip]; omega) fun x hx => bo (mulO_l (h _ (List.of_mem_zip (a := x.1) (b := x.2) hx).1)) rfl) rfl
theorem dot_r {p q : Sq eI} (h : ∀ x ∈ q.xs, x.natAbs < 2 ^ 64) (hl : p.xs.length ≤ 100000) : m_dot p q = some (dotL p.xs q.xs) := by
  unfold m_dot
  refine bo (lcA_of (g := fun z => z.1 * z.2) (by rw [List.length_zip]; omega) fun x hx => bo (mulO_r (h _ (List.of_mem_zip (a := x.1) (b := x.2) hx).2)) rfl) rfl
def befL (n : Nat) (M : List (List Int)) (row : List Int) : List Int := (List.range n).map fun k => dotL row (col M k)
theorem before_ok {n : Nat} {M : List (List Int)} {p : Sq eI} (hn : n ≤ 100) (hM : M.length = n) (hr : ∀ x ∈ M, x.length = n) (hp : p.xs.length = n) (hs : (∀ x ∈ p.xs, x.natAbs < 2 ^ 64) ∨ ∀ x ∈ M, ∀ y ∈ x, y.natAbs < 2 ^ 64) : m_Grid_before ⟨M, n⟩ p = some (befL n M p.xs) := by
  unfold m_Grid_before
  rw [if_neg (by show ¬(!decide ((p.xs.length : Int) = (M.length : Int))) = true; rw [hp, hM]; simp)]
  refine bo (rngO_nat (by omega)) ?_
  refine bo (x := befL n M p.xs) ?_ rfl
  rw [lcA_of (g := fun k => dotL p.xs (col M k.toNat)) (by rw [rng_len]; omega) fun k hk => ?_]
  · rw [rng_map]
    rfl
  · obtain ⟨i, hi, rfl⟩ := mem_rng.mp hk
    refine bo (lcA_of (g := fun r : List Int => r.getD i 0) (by show M.length ≤ _; omega) fun r hrm => bo (getD_at (d := 0) (by rw [hr r hrm]; exact hi)) rfl) ?_
    have hlen : p.xs.length ≤ 100000 := by omega
    rcases hs with hs | hs
    · exact bo (dot_l hs hlen) rfl
    · refine bo (dot_r (fun x hx => ?_) hlen) rfl
      obtain ⟨r, hrm, rfl⟩ := List.mem_map.mp (show x ∈ M.map (fun r : List Int => r.getD i 0) from hx)
      have hi' : i < r.length := by rw [hr r hrm]; exact hi
      rw [List.getD_eq_getElem?_getD, List.getElem?_eq_getElem hi']
      exact hs r hrm _ (List.getElem_mem hi')
def formL (n : Nat) (g : List (List Int)) (x y : List Int) : Int := rsum n fun i => rsum n fun k => x.getD i 0 * (g.getD i []).getD k 0 * y.getD k 0
theorem form_ok {n : Nat} {g : List (List Int)} {x y : List Int} (hn : n ≤ 100) (hg : g.length = n) (hr : ∀ z ∈ g, z.length = n) (hx : x.length = n) (hy : y.length = n) (sg : ∀ z ∈ g, ∀ w ∈ z, w.natAbs < 2 ^ 64) (sy : ∀ w ∈ y, w.natAbs < 2 ^ 64) : m_law_form g x y = some (formL n g x y) := by
  unfold m_law_form
  rw [hg]
  refine bo (rngO_nat (by omega)) ?_
  obtain ⟨t, h1, h2⟩ := foldO_rng (body := m_law_form_l1 g x y) (n := n) (s := (0 : Int)) (fun i t => t = rsum i fun i => rsum n fun k => x.getD i 0 * (g.getD i []).getD k 0 * y.getD k 0) rfl fun i t hi ht => by
    unfold m_law_form_l1
    rw [hg]
    obtain ⟨u, h3, h4⟩ := foldO_rng (body := m_law_form_l2 g x y i) (n := n) (s := t) (fun k u => u = t + rsum k fun k => x.getD i 0 * (g.getD i []).getD k 0 * y.getD k 0) (by simp [rsum]) fun k u hk hu => by
      unfold m_law_form_l2
      have hgi : i < g.length := by omega
      have hrow : (g.getD i []).length = n := by rw [List.getD_eq_getElem?_getD, List.getElem?_eq_getElem hgi]; exact hr _ (List.getElem_mem hgi)
      have b1 : ((g.getD i []).getD k 0).natAbs < 2 ^ 64 := by
        have hk' : k < (g.getD i []).length := by omega
        rw [List.getD_eq_getElem?_getD (l := g.getD i []), List.getElem?_eq_getElem hk']
        refine sg (g.getD i []) ?_ _ (List.getElem_mem hk')
        rw [List.getD_eq_getElem?_getD, List.getElem?_eq_getElem hgi]
        exact List.getElem_mem hgi
      have b2 : (y.getD k 0).natAbs < 2 ^ 64 := by
        have hk' : k < y.length := by omega
        rw [List.getD_eq_getElem?_getD, List.getElem?_eq_getElem hk']
        exact sy _ (List.getElem_mem hk')
      refine ⟨u + x.getD i 0 * (g.getD i []).getD k 0 * y.getD k 0, bo (getD_at (d := 0) (by omega)) (bo (getD_at (d := []) hgi) (bo (getD_at (d := 0) (by omega)) (bo (mulO_r b1) (bo (getD_at (d := 0) (by omega)) (bo (mulO_r b2) rfl))))), ?_⟩
      rw [hu, rsum_succ, Int.add_assoc]
    refine ⟨u, bo (rngO_nat (by omega)) (bo h3 rfl), ?_⟩
    rw [h4, ht, rsum_succ]
  exact bo h1 (by rw [h2]; rfl)
end G41
set_option Elab.async false
set_option linter.all false
set_option maxRecDepth 100000
set_option maxHeartbeats 4000000
namespace G41
open G
def unitR (n : Nat) (i : Nat) : List Int := (rng (n : Int)).map fun j => if decide ((i : Int) = j) then (1 : Int) else 0
theorem unitR_len {n i : Nat} : (unitR n i).length = n := by unfold unitR; rw [List.length_map, rng_len]; omega
theorem unitR_sm {n i : Nat} : ∀ w ∈ unitR n i, w.natAbs < 2 ^ 64 := fun w hw => by
  obtain ⟨j, _, rfl⟩ := List.mem_map.mp hw
  split <;> decide
theorem c3 {n : Nat} (h1 : 1 ≤ n) (h3 : n ≤ 3) : n = 1 ∨ n = 2 ∨ n = 3 := by omega
theorem dotL_cons {x y : Int} {xs ys : List Int} : dotL (x :: xs) (y :: ys) = x * y + dotL xs ys := by simp [dotL]
theorem dotL_div {c : Int} (hc : c ≠ 0) : ∀ {row ys : List Int}, (∀ x ∈ row, c ∣ x) → c * dotL (row.map fun x => x.fdiv c) ys = dotL row ys
  | [], ys, _ => by simp [dotL]
  | x :: row, [], _ => by simp [dotL]
  | x :: row, y :: ys, h => by
    rw [List.map_cons, dotL_cons, dotL_cons, ← dotL_div hc (row := row) (ys := ys) fun z hz => h z (by simp [hz]), Int.mul_add, ← Int.mul_assoc, div_mul hc (h x (by simp))]
theorem form_unit {n : Nat} {g : List (List Int)} {x : List Int} (h1 : 1 ≤ n) (h3 : n ≤ 3) (hg : SqM n g) (hx : x.length = n) {k : Nat} (hk : k < n) : formL n g x (unitR n k) = dotL x (col g k) := by
  rcases c3 h1 h3 with rfl | rfl | rfl
  · obtain ⟨a, rfl⟩ := sq1 hg
    obtain ⟨p, rfl⟩ := lit1 hx
    have : k = 0 := by omega
    subst k
    simp [formL, rsum, dotL, col, unitR, rng, List.range_succ]
  · obtain ⟨a, b, c, d, rfl⟩ := sq2 hg
    obtain ⟨p, q, rfl⟩ := lit2 hx
    have h : k = 0 ∨ k = 1 := by omega
    rcases h with rfl | rfl <;> simp [formL, rsum, dotL, col, unitR, rng, List.range_succ]
  · obtain ⟨a, b, c, d, e, f, u, i, j, rfl⟩ := sq3 hg
    obtain ⟨p, q, r, rfl⟩ := lit3 hx
    have h : k = 0 ∨ k = 1 ∨ k = 2 := by omega
    rcases h with rfl | rfl | rfl <;> simp [formL, rsum, dotL, col, unitR, rng, List.range_succ]
theorem form_bef {n : Nat} {g : List (List Int)} {x y : List Int} (h1 : 1 ≤ n) (h3 : n ≤ 3) (hg : SqM n g) (hx : x.length = n) (hy : y.length = n) : formL n g x y = dotL (befL n g x) y := by
  rcases c3 h1 h3 with rfl | rfl | rfl
  · obtain ⟨a, rfl⟩ := sq1 hg
    obtain ⟨p, rfl⟩ := lit1 hx
    obtain ⟨s, rfl⟩ := lit1 hy
    simp [formL, rsum, dotL, col, befL, List.range_succ]
  · obtain ⟨a, b, c, d, rfl⟩ := sq2 hg
    obtain ⟨p, q, rfl⟩ := lit2 hx
    obtain ⟨s, t, rfl⟩ := lit2 hy
    simp [formL, rsum, dotL, col, befL, List.range_succ]
    grind
  · obtain ⟨a, b, c, d, e, f, u, i, j, rfl⟩ := sq3 hg
    obtain ⟨p, q, r, rfl⟩ := lit3 hx
    obtain ⟨s, t, v, rfl⟩ := lit3 hy
    simp [formL, rsum, dotL, col, befL, List.range_succ]
    grind
theorem dual_id {n : Nat} {g A : List (List Int)} {d : Int} {w : List Int} (o : LD n g A d) (hw : w.length = n) {k : Nat} (hk : k < n) : dotL (befL n A w) (col g k) = d * w.getD k 0 := by
  have hg : SqM n g := ⟨o.lat.len, o.lat.row⟩
  have hA : SqM n A := ⟨o.lenA, o.rowA⟩
  have id := o.idA
  have n1 := o.n1
  have n3 := o.n3
  clear o
  rcases c3 n1 n3 with rfl | rfl | rfl
  · obtain ⟨a, rfl⟩ := sq1 hg
    obtain ⟨x, rfl⟩ := sq1 hA
    obtain ⟨p, rfl⟩ := lit1 hw
    have : k = 0 := by omega
    subst k
    have z := id 0 0 (by omega) (by omega)
    simp [dotL, col] at z
    simp [dotL, col, befL, List.range_succ]
    rw [← z]
    grind
  · obtain ⟨a, b, c, e, rfl⟩ := sq2 hg
    obtain ⟨x, y, z, t, rfl⟩ := sq2 hA
    obtain ⟨p, q, rfl⟩ := lit2 hw
    have h : k = 0 ∨ k = 1 := by omega
    rcases h with rfl | rfl
    · have z0 := id 0 0 (by omega) (by omega)
      have z1 := id 1 0 (by omega) (by omega)
      simp [dotL, col] at z0 z1
      simp [dotL, col, befL, List.range_succ]
      rw [← z0]
      grind
    · have z0 := id 0 1 (by omega) (by omega)
      have z1 := id 1 1 (by omega) (by omega)
      simp [dotL, col] at z0 z1
      simp [dotL, col, befL, List.range_succ]
      rw [← z1]
      grind
  · obtain ⟨a, b, c, e, f, h, u, i, j, rfl⟩ := sq3 hg
    obtain ⟨x, y, z, t, l, m, p, q, r, rfl⟩ := sq3 hA
    obtain ⟨w1, w2, w3, rfl⟩ := lit3 hw
    have hk3 : k = 0 ∨ k = 1 ∨ k = 2 := by omega
    rcases hk3 with rfl | rfl | rfl
    · have z0 := id 0 0 (by omega) (by omega)
      have z1 := id 1 0 (by omega) (by omega)
      have z2 := id 2 0 (by omega) (by omega)
      simp [dotL, col] at z0 z1 z2
      simp [dotL, col, befL, List.range_succ]
      have e1 : w2 * (t * a + (l * e + m * u)) = 0 := by rw [z1, Int.mul_zero]
      have e2 : w3 * (p * a + (q * e + r * u)) = 0 := by rw [z2, Int.mul_zero]
      rw [← z0]
      grind
    · have z0 := id 0 1 (by omega) (by omega)
      have z1 := id 1 1 (by omega) (by omega)
      have z2 := id 2 1 (by omega) (by omega)
      simp [dotL, col] at z0 z1 z2
      simp [dotL, col, befL, List.range_succ]
      have e1 : w1 * (x * b + (y * f + z * i)) = 0 := by rw [z0, Int.mul_zero]
      have e2 : w3 * (p * b + (q * f + r * i)) = 0 := by rw [z2, Int.mul_zero]
      rw [← z1]
      grind
    · have z0 := id 0 2 (by omega) (by omega)
      have z1 := id 1 2 (by omega) (by omega)
      have z2 := id 2 2 (by omega) (by omega)
      simp [dotL, col] at z0 z1 z2
      simp [dotL, col, befL, List.range_succ]
      have e1 : w1 * (x * c + (y * h + z * j)) = 0 := by rw [z0, Int.mul_zero]
      have e2 : w2 * (t * c + (l * h + m * j)) = 0 := by rw [z1, Int.mul_zero]
      rw [← z2]
      grind
end G41
set_option Elab.async false
set_option linter.all false
set_option maxRecDepth 100000
set_option maxHeartbeats 4000000
namespace G41
open G
def unitsR (n : Nat) : List (List Int) := (rng (n : Int)).map fun x => (rng (n : Int)).map fun j => if decide (x = j) then (1 : Int) else 0
theorem units_ok {n : Nat} (h : n ≤ 100) : lcA (fun x8 => (rngO (n : Int)).bind fun t9 => (lcA (fun x10 => some (if (decide (x8 = x10)) then (1 : Int) else 0)) t9).bind fun t11 => some t11) (rng (n : Int)) = some (unitsR n) := by
  unfold unitsR
  refine lcA_of (g := fun x => (rng (n : Int)).map fun j => if decide (x = j) then (1 : Int) else 0) (by rw [rng_len]; omega) fun x _ => ?_
  refine bo (rngO_nat (by omega)) ?_
  exact bo (lcA_of (g := fun j => if decide (x = j) then (1 : Int) else 0) (by rw [rng_len]; omega) fun j _ => rfl) rfl
theorem units_at {n k : Nat} (h : k < n) : L2.atI (unitsR n) (k : Int) = some (unitR n k) := by
  have e : unitsR n = (List.range n).map fun i => unitR n i := by
    unfold unitsR
    rw [rng_map]
    rfl
  rw [e, atI_nat (by simp; exact h)]
  simp
theorem dotL_bd {a b : Nat} : ∀ {xs ys : List Int}, (∀ x ∈ xs, x.natAbs ≤ a) → (∀ y ∈ ys, y.natAbs ≤ b) → (dotL xs ys).natAbs ≤ xs.length * (a * b)
  | [], ys, _, _ => by simp [dotL]
  | x :: xs, [], _, _ => by simp [dotL]
  | x :: xs, y :: ys, h, k => by
    rw [dotL_cons, List.length_cons, Nat.add_mul, Nat.one_mul, Nat.add_comm]
    refine Nat.le_trans (Int.natAbs_add_le _ _) (Nat.add_le_add ?_ (dotL_bd (fun x hx => h x (by simp [hx])) fun y hy => k y (by simp [hy])))
    rw [Int.natAbs_mul]
    exact Nat.mul_le_mul (h x (by simp)) (k y (by simp))
theorem col_bd {M : List (List Int)} {b k : Nat} (h : ∀ x ∈ M, ∀ y ∈ x, y.natAbs ≤ b) : ∀ y ∈ col M k, y.natAbs ≤ b := fun y hy => by
  obtain ⟨r, hr, rfl⟩ := List.mem_map.mp hy
  by_cases hk : k < r.length
  · rw [List.getD_eq_getElem?_getD, List.getElem?_eq_getElem hk]
    exact h r hr _ (List.getElem_mem hk)
  · rw [List.getD_eq_getElem?_getD, List.getElem?_eq_none (by omega)]
    exact Nat.zero_le _
theorem befL_bd {n a b : Nat} {M : List (List Int)} {w : List Int} (hw : w.length = n) (h : ∀ x ∈ w, x.natAbs ≤ a) (k : ∀ x ∈ M, ∀ y ∈ x, y.natAbs ≤ b) : ∀ x ∈ befL n M w, x.natAbs ≤ n * (a * b) := fun x hx => by
  obtain ⟨i, hi, rfl⟩ := List.mem_map.mp hx
  rw [← hw]
  exact dotL_bd h (col_bd k)
theorem befL_len {n : Nat} {M : List (List Int)} {w : List Int} : (befL n M w).length = n := by simp [befL]
/-! ratQ -/
def rc (row : List Int) (e : Int) : Int := ((Nat.gcd e.natAbs (gN row) : Nat) : Int)
theorem rc_pos {row : List Int} {e : Int} (h : 1 ≤ e) : 1 ≤ rc row e := by have := gcd_pos (row := row) h; unfold rc; omega
theorem rc_dvd {row : List Int} {e : Int} : ∀ x ∈ row, rc row e ∣ x := fun x hx => Int.dvd_trans (Int.natCast_dvd_natCast.mpr (Nat.gcd_dvd_right _ _)) (gN_dvd x hx)
theorem rc_dvd_e {row : List Int} {e : Int} : rc row e ∣ e := by
  have : ((Nat.gcd e.natAbs (gN row) : Nat) : Int) ∣ ((e.natAbs : Nat) : Int) := Int.natCast_dvd_natCast.mpr (Nat.gcd_dvd_left _ _)
  exact Int.dvd_natAbs.mp this
theorem ratQ_2 {row : List Int} {e : Int} (h : 1 ≤ e) : rc row e * (ratQ row e).2 = e := div_mul (by have := rc_pos (row := row) h; omega) rc_dvd_e
theorem ratQ_len {row : List Int} {e : Int} : (ratQ row e).1.length = row.length := by simp [ratQ]
theorem ratQ_pos {row : List Int} {e : Int} (h : 1 ≤ e) : 1 ≤ (ratQ row e).2 := pos_mul (by have := rc_pos (row := row) h; omega) (ratQ_2 h) h
theorem ratQ_2b {row : List Int} {e : Int} {b : Nat} (h : 1 ≤ e) (hb : e.natAbs ≤ b) : (ratQ row e).2.natAbs ≤ b := abs_div (by have := rc_pos (row := row) h; omega) (ratQ_2 h) hb
theorem ratQ_1b {row : List Int} {e : Int} {b : Nat} (h : 1 ≤ e) (hb : ∀ x ∈ row, x.natAbs ≤ b) : ∀ x ∈ (ratQ row e).1, x.natAbs ≤ b := fun x hx => by
  obtain ⟨y, hy, rfl⟩ := List.mem_map.mp hx
  exact abs_div (c := rc row e) (by have := rc_pos (row := row) h; omega) (div_mul (by have := rc_pos (row := row) h; omega) (rc_dvd y hy)) (hb y hy)
theorem small64 {x : Int} {b : Nat} (h : x.natAbs ≤ b) (hb : b ≤ 1000000) : x.natAbs < 2 ^ 64 := Nat.lt_of_le_of_lt h (Nat.lt_of_le_of_lt hb (by decide))
/-! is_in_dual -/
theorem isin_ok {n : Nat} {g : List (List Int)} {x : List Int × Int} (hn : n ≤ 100) (hg : SqM n g) (hb : ∀ x ∈ g, ∀ y ∈ x, y.natAbs ≤ 15) (hx : x.1.length = n) (h2 : x.2 ≠ 0) : m_is_in_dual ⟨⟨g, n⟩⟩ x = some (decide ((((befL n g x.1).filter fun z => !decide (z.fmod x.2 = 0)).length : Int) = 0)) := by
  unfold m_is_in_dual
  refine bo (before_ok (p := Sq.T eI x.1) hn hg.len hg.row hx (.inr fun r hr y hy => small64 (hb r hr y hy) (by decide))) ?_
  refine bo (lcO_of (p := fun z => !decide (z.fmod x.2 = 0)) (g := id) (by show (befL n g x.1).length ≤ _; rw [befL_len]; omega) (fun z _ => bo (modO_ne h2) rfl) fun z _ _ => rfl) ?_
  rw [List.map_id]
  rfl
theorem Y_in {n : Nat} {g A : List (List Int)} {d : Int} {w : List Int} (o : LD n g A d) (hw : w.length = n) : ∀ z ∈ befL n g (ratQ (befL n A w) d).1, z.fmod (ratQ (befL n A w) d).2 = 0 := fun z hz => by
  obtain ⟨k, hk, rfl⟩ := List.mem_map.mp hz
  have hk' := List.mem_range.mp hk
  have c1 := rc_pos (row := befL n A w) o.d1
  have e1 : rc (befL n A w) d * dotL (ratQ (befL n A w) d).1 (col g k) = dotL (befL n A w) (col g k) := dotL_div (by omega) rc_dvd
  rw [dual_id o hw hk'] at e1
  have e2 : rc (befL n A w) d * dotL (ratQ (befL n A w) d).1 (col g k) = rc (befL n A w) d * ((ratQ (befL n A w) d).2 * w.getD k 0) := by
    rw [e1, ← Int.mul_assoc, ratQ_2 o.d1]
  rw [Int.eq_of_mul_eq_mul_left (by omega) e2]
  exact Int.mul_fmod_right _ _
theorem filter_nil {p : Int → Bool} {xs : List Int} (h : ∀ x ∈ xs, p x = false) : xs.filter p = [] := List.filter_eq_nil_iff.mpr fun x hx => by rw [h x hx]; exact Bool.false_ne_true
theorem Y_ok {n : Nat} {g A : List (List Int)} {d : Int} {w : List Int} (o : LD n g A d) (hw : w.length = n) : m_is_in_dual ⟨⟨g, n⟩⟩ (ratQ (befL n A w) d) = some true := by
  have n3 := o.n3
  have hg : SqM n g := ⟨o.lat.len, o.lat.row⟩
  rw [isin_ok (by omega) hg o.bg (by rw [ratQ_len, befL_len]) (by have := ratQ_pos (row := befL n A w) o.d1; omega)]
  rw [filter_nil fun z hz => by rw [Y_in o hw z hz]; rfl]
  rfl
/-! scaled_dual -/
theorem flat_len {M : List (List Int)} : M.map (fun y => ((gN y : Nat) : Int)) = M.map fun y => ((gN y : Nat) : Int) := rfl
theorem divM_ok {M : List (List Int)} {c : Int} {n : Nat} (hn : n ≤ 100) (hl : M.length ≤ 100) (hr : ∀ x ∈ M, x.length = n) (hc : c ≠ 0) : lcA (fun x8 => (lcA (fun x9 => (fdivO x9 c).bind fun t10 => some t10) x8).bind fun t11 => some t11) M = some (divM M c) := by
  unfold divM
  refine lcA_of (g := fun r : List Int => r.map fun x => x.fdiv c) (Nat.le_trans hl (by decide)) fun r hr' => ?_
  exact bo (lcA_of (g := fun x => x.fdiv c) (by rw [hr r hr']; exact Nat.le_trans hn (by decide)) fun x _ => bo (fdivO_ne hc) rfl) rfl
theorem scaled_ok {n : Nat} {g A : List (List Int)} (o : LatOk n g) (eA : adjM g n = A) (lA : A.length = n) (rA : ∀ x ∈ A, x.length = n) (cA : 0 < gN A.flatten) (lc : LatOk n (divM A (gN A.flatten : Nat))) : m_scaled_dual ⟨⟨g, n⟩⟩ = some ⟨⟨divM A (gN A.flatten : Nat), n⟩⟩ := by
  have n4 := o.n4
  unfold m_scaled_dual
  refine bo (adj_of (gin_of n4 o.len o.row o.bd)) ?_
  rw [eA]
  refine bo (lcA_of (g := fun y => ((gN y : Nat) : Int)) (by show A.length ≤ _; omega) fun x _ => bo (content_ok (Sq.T eI x)) rfl) ?_
  refine bo (content_ok _) ?_
  rw [show (Sq.L eI ((M_Grid.mk A n).rows.map fun y => ((gN y : Nat) : Int))).xs = A.map fun y => ((gN y : Nat) : Int) from rfl, gN_rows]
  refine bo (divM_ok (M := A) (n := n) (by omega) (by omega) rA (by omega)) ?_
  refine bo (mk2_of (g := divM A (gN A.flatten : Nat)) (n := n) ?_ (by rw [lc.len]; omega) (by omega) lc.row) ?_
  · show ((divM A (gN A.flatten : Nat)).map (Sq.L eI)).map (·.xs) = _
    rw [List.map_map]
    exact List.map_id' _
  · exact bo (lat_G lc) rfl
/-! gcd of all -/
theorem foldl_flat {M : List (List Int)} : ∀ {s : Int}, M.foldl (fun s r => r.foldl (fun s x => ((Nat.gcd s.natAbs x.natAbs : Nat) : Int)) s) s = M.flatten.foldl (fun s x => ((Nat.gcd s.natAbs x.natAbs : Nat) : Int)) s := by
  induction M with
  | nil => intro s; rfl
  | cons r M ih => intro s; rw [List.foldl_cons, List.flatten_cons, List.foldl_append, ih]
theorem foldO_of' {α τ : Type} {body : α → τ → Option τ} {g : τ → α → τ} : ∀ {xs : List α} {s : τ}, (∀ x ∈ xs, ∀ t, body x t = some (g t x)) → foldO body xs s = some (xs.foldl g s) := foldO_of
theorem l4_ok {f : Nat} {x s : Int} (h : x.natAbs < f) : m_law_l4 f x s = some ((Nat.gcd s.natAbs x.natAbs : Nat) : Int) := by
  unfold m_law_l4
  exact bo (gcd_ok h) rfl
theorem l3_ok {f : Nat} {x : List Int} {s : Int} (h : ∀ y ∈ x, y.natAbs < f) : m_law_l3 f x s = some (x.foldl (fun s x => ((Nat.gcd s.natAbs x.natAbs : Nat) : Int)) s) := by
  unfold m_law_l3
  exact bo (foldO_of fun y hy t => l4_ok (h y hy)) rfl
theorem all3_ok {f : Nat} {M : List (List Int)} (h : ∀ x ∈ M, ∀ y ∈ x, y.natAbs < f) : foldO (m_law_l3 f) M 0 = some ((gN M.flatten : Nat) : Int) := by
  rw [foldO_of (g := fun s r => r.foldl (fun s x => ((Nat.gcd s.natAbs x.natAbs : Nat) : Int)) s) fun x hx t => l3_ok (h x hx), foldl_flat, foldl_gcd0]
theorem all5_ok {f : Nat} {M : List (List Int)} (h : ∀ x ∈ M, ∀ y ∈ x, y.natAbs < f) : foldO (m_law_l5 f) M 0 = some ((gN M.flatten : Nat) : Int) := by
  rw [foldO_of (g := fun s r => r.foldl (fun s x => ((Nat.gcd s.natAbs x.natAbs : Nat) : Int)) s) fun x hx t => ?_, foldl_flat, foldl_gcd0]
  unfold m_law_l5
  refine bo (foldO_of (g := fun s x => ((Nat.gcd s.natAbs x.natAbs : Nat) : Int)) fun y hy t => ?_) rfl
  unfold m_law_l6
  exact bo (gcd_ok (h x hx y hy)) rfl
/-! the loop over units -/
theorem l1_ok {n : Nat} {g A : List (List Int)} {d : Int} (o : LD n g A d) : loopO (m_law_l1 g (n : Int) ⟨A, n⟩ d (unitsR n)) (rng (n : Int)) () = some (.nx ()) := by
  have n1 := o.n1
  have n3 := o.n3
  have hg : SqM n g := ⟨o.lat.len, o.lat.row⟩
  refine loopO_unit fun x hx => ?_
  obtain ⟨i, hi, rfl⟩ := mem_rng.mp hx
  unfold m_law_l1
  refine bo (rngO_nat (by omega)) ?_
  refine bo (loopO_unit fun y hy => ?_) rfl
  obtain ⟨k, hk, rfl⟩ := mem_rng.mp hy
  have hiA : i < A.length := by rw [o.lenA]; exact hi
  have aA : (A.getD i []).length = n := by
    rw [List.getD_eq_getElem?_getD, List.getElem?_eq_getElem hiA]
    exact o.rowA _ (List.getElem_mem hiA)
  unfold m_law_l2
  refine bo (getD_at (d := []) hiA) (bo (units_at hk) (bo (form_ok (by omega) hg.len hg.row aA unitR_len (fun r hr y hy => small64 (o.bg r hr y hy) (by decide)) unitR_sm) (bo (mulO_r (by split <;> decide)) ?_)))
  rw [form_unit n1 n3 hg aA hk, o.idA i k hi hk]
  by_cases h : i = k
  · subst h
    simp
  · have h' : ¬ ((i : Int) = (k : Int)) := by omega
    simp [h, h']
/-! weights and draws -/
theorem drawn_ex {n : Nat} {st : List Int} {m h : Int} (hm : 0 < m) (hn : n ≤ 100) (hst : st.length = 2) : ∃ w st', lcS (fun x s => (m_law_take s m).bind fun t => some ((t.1 - h), t.2)) (rng (n : Int)) st = some (w, st') ∧ w.length = n ∧ (∀ x ∈ w, -h ≤ x ∧ x < m - h) ∧ st'.length = 2 := by
  obtain ⟨ys, t, h1, h2, h3, h4⟩ := lcS_ex (f := fun (x : Int) (s : List Int) => (m_law_take s m).bind fun t => some ((t.1 - h), t.2)) (xs := rng (n : Int)) (s := st) (fun st => st.length = 2) (fun x => -h ≤ x ∧ x < m - h) (by rw [rng_len]; omega) hst fun x _ t ht => by
    obtain ⟨v, st', q1, q2, q3, q4⟩ := take_ex ht hm
    exact ⟨v - h, st', bo q1 rfl, by omega, q2⟩
  exact ⟨ys, t, h1, by rw [h2, rng_len]; omega, h3, h4⟩
/-! due -/
theorem due_ok {n : Nat} {g : List (List Int)} {x : List Int × Int} (n1 : 1 ≤ n) (n3 : n ≤ 3) (hg : SqM n g) (hb : ∀ x ∈ g, ∀ y ∈ x, y.natAbs ≤ 15) (hx : x.1.length = n) (h2 : x.2 ≠ 0) : lcO (fun x4053 => (L2.atI (unitsR n) x4053).bind fun t4054 => (m_law_form g x.1 t4054).bind fun t4055 => (modO t4055 x.2).bind fun t4056 => some (!decide (t4056 = (0 : Int)))) (fun x4053 => some x4053) (rng (n : Int)) = some ((rng (n : Int)).filter fun k => !decide ((dotL x.1 (col g k.toNat)).fmod x.2 = 0)) := by
  refine Eq.trans (lcO_of (p := fun k : Int => !decide ((dotL x.1 (col g k.toNat)).fmod x.2 = 0)) (g := fun k => k) (by rw [rng_len]; omega) (fun k hk => ?_) fun k _ _ => rfl) (by rw [List.map_id'])
  obtain ⟨i, hi, rfl⟩ := mem_rng.mp hk
  refine bo (units_at hi) (bo (form_ok (by omega) hg.len hg.row hx unitR_len (fun r hr y hy => small64 (hb r hr y hy) (by decide)) unitR_sm) (bo (modO_ne h2) ?_))
  rw [form_unit n1 n3 hg hx hi]
  rfl
theorem due_eq {n : Nat} {g : List (List Int)} {x : List Int × Int} : ((rng (n : Int)).filter fun k => !decide ((dotL x.1 (col g k.toNat)).fmod x.2 = 0)).length = ((befL n g x.1).filter fun z => !decide (z.fmod x.2 = 0)).length := by
  unfold befL rng
  rw [List.filter_map, List.filter_map, List.length_map, List.length_map]
  rfl
/-! rational_product -/
theorem prod_ok {n : Nat} {g : List (List Int)} {x y : List Int × Int} (n3 : n ≤ 3) (hg : SqM n g) (hb : ∀ x ∈ g, ∀ y ∈ x, y.natAbs ≤ 15) (hx : x.1.length = n) (hy : ∀ w ∈ y.1, w.natAbs < 2 ^ 64) (x1 : 1 ≤ x.2) (y1 : 1 ≤ y.2) (xb : x.2.natAbs ≤ 8) (yb : y.2.natAbs ≤ 100000) : ∃ c : Nat, 0 < c ∧ c = Nat.gcd (dotL (befL n g x.1) y.1).natAbs (x.2 * y.2).natAbs ∧ m_rational_product ⟨⟨g, n⟩⟩ x y = some ((dotL (befL n g x.1) y.1).fdiv (c : Nat), (x.2 * y.2).fdiv (c : Nat)) := by
  have low : 1 ≤ x.2 * y.2 := Int.mul_pos (by omega) (by omega)
  have hc : 0 < Nat.gcd (dotL (befL n g x.1) y.1).natAbs (x.2 * y.2).natAbs := Nat.gcd_pos_of_pos_right _ (by omega)
  refine ⟨_, hc, rfl, ?_⟩
  unfold m_rational_product
  refine bo (before_ok (p := Sq.T eI x.1) (by omega) hg.len hg.row hx (.inr fun r hr y hy => small64 (hb r hr y hy) (by decide))) ?_
  refine bo (dot_r (p := Sq.T eI (befL n g x.1)) (q := Sq.T eI y.1) hy (by show (befL n g x.1).length ≤ _; rw [befL_len]; omega)) ?_
  refine bo (mulO_l (small64 xb (by decide))) ?_
  refine bo (x := ((Nat.gcd (dotL (befL n g x.1) y.1).natAbs (x.2 * y.2).natAbs : Nat) : Int)) rfl ?_
  exact bo (fdivO_ne (by omega)) (bo (fdivO_ne (by omega)) rfl)
theorem gcd_one {a b p q : Int} {c : Nat} (hc : 0 < c) (e : c = Nat.gcd a.natAbs b.natAbs) (hp : (c : Int) * p = a) (hq : (c : Int) * q = b) : Nat.gcd p.natAbs q.natAbs = 1 := by
  have h1 : a.natAbs = c * p.natAbs := by rw [← hp, Int.natAbs_mul, Int.natAbs_natCast]
  have h2 : b.natAbs = c * q.natAbs := by rw [← hq, Int.natAbs_mul, Int.natAbs_natCast]
  rw [h1, h2, Nat.gcd_mul_left] at e
  have : c * 1 = c * Nat.gcd p.natAbs q.natAbs := by rw [Nat.mul_one]; exact e
  exact (Nat.eq_of_mul_eq_mul_left hc this).symm
end G41
set_option Elab.async false
set_option linter.all false
set_option maxRecDepth 100000
set_option maxHeartbeats 4000000
namespace G41
open G
theorem divM_rows {n : Nat} {M : List (List Int)} {c : Int} : (M_Lattice.mk ⟨divM M c, n⟩).gram.rows = divM M c := rfl
theorem toThen {τ ρ γ : Type} {k : τ → Option γ} {r : ρ → Option γ} {s : τ} {x : Option γ} (h : k s = x) : thenL k r (.nx s) = x := h
theorem law_true (ns : List Int) {fuel : Nat} (hf : 1000000 < fuel) : m_law fuel ns = some true := by
  obtain ⟨st, hst, st2⟩ := state_ex ns
  obtain ⟨n, g, a, e, s1, hg1, s12, gr⟩ := gram_ex st2
  obtain ⟨A, d, o⟩ := ld_of gr
  have n1 := o.n1
  have n3 := o.n3
  have hg : SqM n g := ⟨o.lat.len, o.lat.row⟩
  have gl : g.length = n := hg.len
  have gi : GIn ⟨g, n⟩ := gin_of o.lat.n4 o.lat.len o.lat.row o.lat.bd
  have d1 := o.d1
  have dB := o.dB
  obtain ⟨w, s2, hw, wl, wb, s22⟩ := drawn_ex (m := 7) (h := 3) (n := n) (by decide) (by omega) s12
  obtain ⟨v8, s3, h8, s32, v80, v88⟩ := take_ex (m := 8) s22 (by decide)
  obtain ⟨dr, s4, hdr, drl, drb, s42⟩ := drawn_ex (m := 21) (h := 10) (n := n) (by decide) (by omega) s32
  have e1 : 1 ≤ 1 + v8 := by omega
  have wb' : ∀ x ∈ w, x.natAbs ≤ 3 := fun x hx => by have := wb x hx; omega
  have drb' : ∀ x ∈ dr, x.natAbs ≤ 10 := fun x hx => by have := drb x hx; omega
  have rowl : (befL n A w).length = n := befL_len
  have rowB : (befL n A w).length ≤ 100000 := by rw [rowl]; omega
  have drB : dr.length ≤ 100000 := by rw [drl]; omega
  have rowb : ∀ x ∈ befL n A w, x.natAbs ≤ 4050 := fun x hx => Nat.le_trans (befL_bd wl wb' o.bdA x hx) (Nat.le_trans (Nat.mul_le_mul_right _ n3) (by decide))
  have hon : ∀ {row : List Int} {e : Int}, row.length = n → hon1 (ratQ row e) = some (ratQ row e) := fun {row e} h => by
    unfold hon1
    rw [if_pos (by rw [ratQ_len, h]; omega)]
  have Xl : (ratQ dr (1 + v8)).1.length = n := by rw [ratQ_len, drl]
  have Xp := ratQ_pos (row := dr) e1
  have Xb : (ratQ dr (1 + v8)).2.natAbs ≤ 8 := ratQ_2b e1 (by omega)
  have Yl : (ratQ (befL n A w) d).1.length = n := by rw [ratQ_len, befL_len]
  have Yp := ratQ_pos (row := befL n A w) d1
  have Yb : (ratQ (befL n A w) d).2.natAbs ≤ 100000 := ratQ_2b d1 (by omega)
  have Ys : ∀ z ∈ (ratQ (befL n A w) d).1, z.natAbs < 2 ^ 64 := fun z hz => small64 (ratQ_1b d1 rowb z hz) (by decide)
  have hbef : m_Grid_before ⟨A, n⟩ (Sq.T eI w) = some (befL n A w) := before_ok (p := Sq.T eI w) (by omega) o.lenA o.rowA wl (.inl fun x hx => small64 (wb' x hx) (by decide))
  have Xne : (ratQ dr (1 + v8)).2 ≠ 0 := by omega
  obtain ⟨c, hc, ec, hp⟩ := prod_ok (g := g) (x := ratQ dr (1 + v8)) (y := ratQ (befL n A w) d) n3 hg o.bg Xl Ys Xp Yp Xb Yb
  unfold m_law
  refine bo hst (bo hg1 (bo (lat_S o.lat) (bo (x := ((⟨A, n⟩ : M_Grid), d)) ?_ ?_)))
  · unfold m_dual_basis
    refine bo (adj_of gi) (bo (det_of gi) ?_)
    rw [o.eA, o.ed]
  refine bo (x := rng (n : Int)) (by rw [show (g, s1).1.length = n from gl]; exact rngO_nat (by omega)) ?_
  refine bo (x := unitsR n) ?_ ?_
  · rw [show (g, s1).1.length = n from gl]
    exact units_ok (by omega)
  refine bo (x := false) ?_ ?_
  · rw [if_neg (by decide)]
    refine bo (x := (n : Int)) ?_ (bo (x := (n : Int)) ?_ (bo (x := false) ?_ rfl))
    · unfold m_Grid_len
      rw [if_pos (by show (0 : Int) ≤ (n : Int); omega)]
      show some (A.length : Int) = _
      rw [o.lenA]
    · unfold lenO
      rw [if_pos (by omega)]
    · rw [if_neg (by rw [show (g, s1).1.length = n from gl]; simp)]
      refine bo (x := d) ?_ (by simp)
      unfold m_Lattice_determinant
      refine bo (det_of gi) ?_
      rw [o.ed]
  rw [if_neg Bool.false_ne_true]
  refine bo (x := rng (n : Int)) (by rw [show (g, s1).1.length = n from gl]; exact rngO_nat (by omega)) ?_
  refine bo (x := .nx ()) ?_ ?_
  · rw [show (g, s1).1.length = n from gl]
    exact l1_ok o
  refine toThen ?_
  refine bo (x := rng (n : Int)) (by rw [show (g, s1).1.length = n from gl]; exact rngO_nat (by omega)) ?_
  refine bo hw (bo hbef ?_)
  refine bo (rational_ok (row := befL n A w) d1 rowB) (bo (hon rowl) (bo (Y_ok o wl) ?_))
  rw [if_neg (by decide)]
  refine bo h8 ?_
  refine bo (x := rng (n : Int)) (by rw [show (g, s1).1.length = n from gl]; exact rngO_nat (by omega)) ?_
  refine bo hdr (bo (rational_ok (row := dr) e1 drB) (bo (hon drl) ?_))
  refine bo (rational_ok (row := befL n A w) d1 rowB) (bo (hon rowl) ?_)
  refine bo (lowest_ok e1 drB fun x hx => by have := drb' x hx; omega) ?_
  refine bo (x := false) ?_ ?_
  · rw [if_neg (by simp)]
    refine bo (lowest_ok d1 rowB fun x hx => by have := rowb x hx; omega) ?_
    simp
  rw [if_neg Bool.false_ne_true]
  refine bo (x := rng (n : Int)) (by rw [show (g, s1).1.length = n from gl]; exact rngO_nat (by omega)) ?_
  refine bo (due_ok n1 n3 hg o.bg Xl Xne) ?_
  refine bo (x := _) rfl ?_
  refine bo (isin_ok (by omega) hg o.bg Xl Xne) ?_
  refine bo (x := false) ?_ ?_
  · rw [due_eq, if_neg (by simp)]
    refine bo (isin_ok (by omega) hg o.bg Xl Xne) rfl
  rw [if_neg Bool.false_ne_true]
  refine bo hp (bo (mulO_r (small64 Xb (by decide))) (bo (mulO_r (small64 Yb (by decide))) ?_))
  refine bo (form_ok (by omega) hg.len hg.row Xl Yl (fun r hr y hy => small64 (o.bg r hr y hy) (by decide)) Ys) ?_
  generalize htop : dotL (befL n g (ratQ dr (1 + v8)).1) (ratQ (befL n A w) d).1 = top at *
  generalize hlow : (ratQ dr (1 + v8)).2 * (ratQ (befL n A w) d).2 = low at *
  have lp : 1 ≤ low := by rw [← hlow]; exact Int.mul_pos (by omega) (by omega)
  have lb : low.natAbs ≤ 800000 := by rw [← hlow, Int.natAbs_mul]; exact Nat.mul_le_mul Xb Yb
  have ct : (c : Int) * top.fdiv (c : Nat) = top := div_mul (by omega) (by rw [ec]; exact Int.dvd_natAbs.mp (Int.natCast_dvd_natCast.mpr (Nat.gcd_dvd_left _ _)))
  have cl : (c : Int) * low.fdiv (c : Nat) = low := div_mul (by omega) (by rw [ec]; exact Int.dvd_natAbs.mp (Int.natCast_dvd_natCast.mpr (Nat.gcd_dvd_right _ _)))
  have q1 : 1 ≤ low.fdiv (c : Nat) := pos_mul (by omega) cl lp
  have q2 : (low.fdiv (c : Nat)).natAbs ≤ 800000 := abs_div (by omega) cl lb
  have q3 : Nat.gcd (top.fdiv (c : Nat)).natAbs (low.fdiv (c : Nat)).natAbs = 1 := gcd_one hc ec ct cl
  refine bo (mulO_l (small64 q2 (by decide))) ?_
  refine bo (x := false) ?_ ?_
  · rw [form_bef n1 n3 hg Xl Yl]
    rw [if_neg]
    · refine bo (x := false) ?_ rfl
      rw [if_neg (by rw [decide_eq_true_eq]; show ¬ low.fdiv (c : Nat) < 1; omega)]
      refine bo (gcd_ok (by show (low.fdiv (c : Nat)).natAbs < fuel; omega)) ?_
      rw [show Nat.gcd (top.fdiv (c : Nat), low.fdiv (c : Nat)).1.natAbs (top.fdiv (c : Nat), low.fdiv (c : Nat)).2.natAbs = 1 from q3]
      rfl
    · have : top.fdiv (c : Nat) * (ratQ dr (1 + v8)).2 * (ratQ (befL n A w) d).2 = low.fdiv (c : Nat) * dotL (befL n g (ratQ dr (1 + v8)).1) (ratQ (befL n A w) d).1 := by
        rw [htop, Int.mul_assoc, hlow]
        refine Int.eq_of_mul_eq_mul_left (a := (c : Int)) (by omega) ?_
        rw [← Int.mul_assoc, ct, ← Int.mul_assoc, cl, Int.mul_comm]
      simp [this]
  rw [if_neg Bool.false_ne_true]
  have cA := o.cA
  have cB := o.cB
  have cg := o.cg
  refine bo (scaled_ok o.lat o.eA o.lenA o.rowA cA o.lc) ?_
  refine bo (all3_ok (M := A) fun x hx y hy => by have := o.bdA x hx y hy; omega) ?_
  refine bo (divM_ok (M := A) (n := n) (by omega) (by rw [o.lenA]; omega) o.rowA (by omega)) ?_
  rw [if_neg (by simp)]
  refine bo (all5_ok (M := g) fun x hx y hy => by have := o.bg x hx y hy; omega) ?_
  refine bo (scaled_ok (A := adjM (divM A (gN A.flatten : Nat)) n) o.lc rfl genM_len genM_row cB (by rw [o.fin]; exact o.lg)) ?_
  refine bo (divM_ok (M := g) (n := n) (by omega) (by rw [gl]; omega) hg.row (by omega)) ?_
  rw [divM_rows, o.fin]
  simp
end G41
set_option Elab.async false
set_option linter.all false
set_option maxRecDepth 100000
set_option maxHeartbeats 4000000
namespace G41g
open PySem PySem.Spec PyProof.Rows L2 Evl G
def topS (i : Nat) : Stmt := PySem.Challenge.pw_gridroads_k41_duals.main.body.getD i (.Pass ⟨0, 0, 0, 0⟩)
def inClass (s : Stmt) (j : Nat) : Stmt := match s with
  | .ClassDef (body := b) .. => b.getD j (.Pass ⟨0, 0, 0, 0⟩)
  | _ => .Pass ⟨0, 0, 0, 0⟩
abbrev s_is_integer : Stmt := topS 11
abbrev s_checked : Stmt := topS 16
abbrev s_determinant : Stmt := topS 17
abbrev s_minor : Stmt := topS 18
abbrev s_Grid_init : Stmt := inClass (topS 19) 0
abbrev s_Grid_len : Stmt := inClass (topS 19) 1
abbrev s_Grid_is_square : Stmt := inClass (topS 19) 13
abbrev s_Grid_determinant : Stmt := inClass (topS 19) 14
abbrev s_Grid_adjugate : Stmt := inClass (topS 19) 15
theorem sc_is_integer : FnScope ["value"] ["value"] (defScope s_is_integer) := ⟨rfl, rfl, rfl, by decide +kernel, rfl, by decide +kernel, by decide +kernel⟩
theorem sc_checked : FnScope ["rows", "width", "out", "row", "item"] ["rows", "width"] (defScope s_checked) := ⟨rfl, rfl, rfl, by decide +kernel, rfl, by decide +kernel, by decide +kernel⟩
theorem sc_determinant : FnScope ["rows", "table", "size", "sign", "before", "k", "chosen", "row", "head", "i", "factor", "x", "y"] ["rows"] (defScope s_determinant) := ⟨rfl, rfl, rfl, by decide +kernel, rfl, by decide +kernel, by decide +kernel⟩
theorem sc_minor : FnScope ["rows", "i", "k", "at", "row"] ["rows", "i", "k"] (defScope s_minor) := ⟨rfl, rfl, rfl, by decide +kernel, rfl, by decide +kernel, by decide +kernel⟩
theorem sc_Grid_init : FnScope ["self", "rows", "width"] ["self", "rows", "width"] (defScope s_Grid_init) := ⟨rfl, rfl, rfl, by decide +kernel, rfl, by decide +kernel, by decide +kernel⟩
theorem sc_Grid_len : FnScope ["self"] ["self"] (defScope s_Grid_len) := ⟨rfl, rfl, rfl, by decide +kernel, rfl, by decide +kernel, by decide +kernel⟩
theorem sc_Grid_is_square : FnScope ["self"] ["self"] (defScope s_Grid_is_square) := ⟨rfl, rfl, rfl, by decide +kernel, rfl, by decide +kernel, by decide +kernel⟩
theorem sc_Grid_determinant : FnScope ["self"] ["self"] (defScope s_Grid_determinant) := ⟨rfl, rfl, rfl, by decide +kernel, rfl, by decide +kernel, by decide +kernel⟩
theorem sc_Grid_adjugate : FnScope ["self", "out", "i", "line", "k", "minor"] ["self"] (defScope s_Grid_adjugate) := ⟨rfl, rfl, rfl, by decide +kernel, rfl, by decide +kernel, by decide +kernel⟩
structure Txt (P : Program) (K : PySem.W.Frag) (mg : Str → Option Value) (base : Heap) (C : Addr) : Prop where
  u_len : mg "len" = none
  u_isinstance : mg "isinstance" = none
  u_int : mg "int" = none
  u_bool : mg "bool" = none
  u_list : mg "list" = none
  u_tuple : mg "tuple" = none
  u_range : mg "range" = none
  u_zip : mg "zip" = none
  u_enumerate : mg "enumerate" = none
  u_sum : mg "sum" = none
  u_abs : mg "abs" = none
  u_min : mg "min" = none
  sr : base.NoSeer
  tr : P.given.tree = none
  gGrid : ClsG K C
  m_Grid : mg "Grid" = some (.ref C)
  cl : Cls K C
  n_rows : NoAttr K C "rows"
  n_width : NoAttr K C "width"
abbrev FunI (K : PySem.W.Frag) (st : Stmt) (f : Addr) (fd : FuncData) : Prop := FunD K "__init__" "Grid.__init__" (defArgs st) (defBody st) (defScope st) [.non] [] f fd
section
variable {P : Program} {w : World} {K : PySem.W.Frag} {mg : Str → Option Value} {base : Heap} {C : Addr} {f : Addr} {fd : FuncData}
theorem ok_is_integer (F : Fun K "is_integer" "is_integer" s_is_integer f fd) (T : Txt P K mg base C) : FnOk P w K mg base CX0 2 f fd ["value"] (spD K rIsInt) := by
  refine okD F sc_is_integer (fun ds r h => by obtain ⟨i, rfl, _⟩ := h; rfl) fun cdv A outer s H E hr => ⟨_, (pss_one (ps_ret (pe_and (pe_callB (call_isK (K := K)) (by rfl) T.u_isinstance PyProof.Rows.boot_isinstance (pa_cons (pv 0) (pa_cons (pe_bltn (v := .ty "int") (u := .type "int") (by rfl) T.u_int (by decide +kernel) rfl) pa_nil))) (pe_one (pe_not (pe_callB (call_isK (K := K)) (by rfl) T.u_isinstance PyProof.Rows.boot_isinstance (pa_cons (pv 0) (pa_cons (pe_bltn (v := .ty "bool") (u := .type "bool") (by rfl) T.u_bool (by decide +kernel) rfl) pa_nil)))))))), ?_⟩
  intro F M ds r σ H1 D hR st krt knx
  obtain ⟨i, rfl, rfl⟩ := hR
  refine y_end (μ' := []) krt st ?_ (Ex.refl _) fun _ h => h
  refine EX.is (ex_andV (ex_isiB (b := true) (ex_var rfl) .int (by decide +kernel)) fun _ => ex_notV (ex_isiB (b := false) (ex_var rfl) .int (by decide +kernel))) rfl
theorem ok_checked (F : Fun K "_checked" "_checked" s_checked f fd) (T : Txt P K mg base C) (c_is_integer : CalG P w K mg base 2 "is_integer" (spD K rIsInt) []) : FnOk P w K mg base CX0 4 f fd ["rows", "width"] (spD K rChecked) := by
  refine okD F sc_checked (fun ds r h => by obtain ⟨d, rs, w, rfl, _⟩ := h; rfl) fun cdv A outer s H E hr => ⟨_, (pss_cons (ps_set (i := 2) sc_checked.nd rfl (Or.inl rfl) (pe_lst pa_nil))
      (pss_cons (ps_for PassesOwn.never rfl (pi_seqK (K := K) (pv 0)) (pg_name (i := 3) sc_checked.nd rfl (Or.inl rfl)) (pss_cons (ps_if (PW.pt (pw_or (pt_not (pt_val (pe_callB (call_isTK (K := K)) (by rfl) T.u_isinstance PyProof.Rows.boot_isinstance (pa_cons (pv 3) (pa_cons (pe_tup (pa_cons (pe_bltn (v := .ty "list") (u := .type "list") (by rfl) T.u_list (by decide +kernel) rfl) (pa_cons (pe_bltn (v := .ty "tuple") (u := .type "tuple") (by rfl) T.u_tuple (by decide +kernel) rfl) pa_nil))) pa_nil))))) (pw_or1 (pt_cmpR op_ne (pe_callB (call_lenK (K := K)) (by rfl) T.u_len (by decide +kernel) (pa_cons (pv 3) pa_nil)) (pv 1) (nomark _))))) (pss_one ps_never) pss_nil)
      (pss_cons (ps_for PassesOwn.never rfl (pi_seqK (K := K) (pv 3)) (pg_name (i := 4) sc_checked.nd rfl (Or.inl rfl)) (pss_one (ps_if (pt_not (pt_val (pe_cG c_is_integer hr (by decide) rfl (pa_cons (pv 4) pa_nil)))) (pss_one ps_never) pss_nil)))
      (pss_one (ps_expr (pe_bm PySem.F.plainAttrs_list PySem.F.slot_list_append PySem.F.type_list_append mt_append (pv 2) (pa_cons (pe_callTy (call_tupK (K := K)) (by rfl) T.u_tuple PyProof.Rows.boot_tuple (pa_cons (pv 3) pa_nil)) pa_nil)))))))
      (pss_one (ps_ret (pe_callTy (call_tupK (K := K)) (by rfl) T.u_tuple PyProof.Rows.boot_tuple (pa_cons (pv 2) pa_nil)))))), ?_⟩
  intro F M ds r σ H1 D hR st krt knx
  obtain ⟨d, rs, w, rfl, ⟨es, sq, hl, hrow⟩, hlen, hw, rfl⟩ := hR
  refine y_asgL st (lx_lst ax_nil) fun p σ H2 hp hpF st => ?_
  refine x_forP (fun i M1 δ1 μ1 => M1 = p :: M ∧ (∃ x3 x4, δ1 = [some d, some (.int w), some (.box p), x3, x4]) ∧ μ1 = [(p, (rs.take i).map rowT)]) st (wx_seq (ex_var rfl) sq) ⟨rfl, ⟨none, none, rfl⟩, rfl⟩ ?_ ?_
  · rintro F1 i M1 δ1 μ1 σ H3 eF hi ⟨rfl, ⟨x3, x4, rfl⟩, rfl⟩ nw st
    have hi' : i < rs.length := by omega
    have hr1 : IsRow (es.getD i .non) (rs.getD i []) := IsRows.at hl hrow hi'
    have hg : rs.getD i [] = rs[i] := by rw [List.getD_eq_getElem?_getD, List.getElem?_eq_getElem hi']; rfl
    have hwl : (rs.getD i []).length = w := by rw [hg]; exact hw _ (List.getElem_mem _)
    obtain ⟨t, ty, kit⟩ := kitLT (K := K) hr1
    generalize hd1 : es.getD i .non = d1 at hr1 ty st
    generalize hr' : rs.getD i [] = r1 at hr1 hwl hg
    refine y_skip st (TX.is (tx_or (tx_not (tx_val (ex_isi2 (ex_var rfl) ty kit))) fun _ => tx_test (ex_neI (ex_len (ex_var rfl) hr1.items) (ex_var rfl))) (by simp [hwl])) fun H4 st => ?_
    refine x_forP (fun j M1 δ1 μ1 => M1 = p :: M ∧ (∃ x4, δ1 = [some d, some (.int w), some (.box p), some d1, x4]) ∧ μ1 = [(p, (rs.take i).map rowT)]) st (wx_seq (ex_var rfl) hr1) ⟨rfl, ⟨x4, rfl⟩, rfl⟩ ?_ ?_
    · rintro F2 j M1 δ1 μ1 σ H5 eF2 hj ⟨rfl, ⟨x4, rfl⟩, rfl⟩ nw2 st
      refine y_skip st (TX.is (tx_not (tx_val (ex_call (ax_cons (EX.is (ex_var rfl) (getD_map (by simpa using hj))) ax_nil) ⟨_, rfl, rfl⟩))) rfl) fun H6 st => ?_
      exact nxt st nw2 ⟨rfl, ⟨_, rfl⟩, rfl⟩
    · rintro M1 δ1 μ1 σ H5 ⟨rfl, ⟨x4, rfl⟩, rfl⟩ nw2 st
      refine y_app (j := 0) st (ex_var rfl) (ex_tuple (ex_var rfl) hr1.items) rfl (by simp; omega) fun H6 st => ?_
      refine nxt st nw ⟨rfl, ⟨_, _, rfl⟩, ?_⟩
      simp [List.take_succ, List.getElem?_eq_getElem hi', ← hg, rowT]
  · rintro M1 δ1 μ1 σ H3 ⟨rfl, ⟨x3, x4, rfl⟩, rfl⟩ nw st
    refine y_end (μ' := [(p, (rs.take es.length).map rowT)]) krt st (EX.is (ex_tuple (ex_var rfl) (.box (j := 0) rfl)) ?_) (Ex.refl _) fun _ h => List.mem_cons_of_mem _ h
    rw [hl, List.take_length]
    rfl
theorem ok_determinant (F : Fun K "_determinant" "_determinant" s_determinant f fd) (T : Txt P K mg base C) : FnOk P w K mg base CX0 42 f fd ["rows"] (spD K rDet) := by
  refine okD F sc_determinant (fun ds r h => by obtain ⟨d, rs, _, rfl, _⟩ := h; rfl) fun cdv A outer s H E hr => ⟨_, (pss_cons (ps_set (i := 1) sc_determinant.nd rfl (Or.inr rfl) (pe_lc (own := [("row", 7)]) (g := gName 7) (tt := tYes) (by rfl) sc_determinant.nd (pi_seqK (K := K) (pv 0)) (blkOk_by (N := ["rows", "table", "size", "sign", "before", "k", "chosen", "row", "head", "i", "factor", "x", "y"]) (sc := defScope s_determinant) (own := [("row", 7)]) (by first | decide +kernel | kernel_rfl)) (fun _ _ _ _ _ => (pg_name (i := 7) sc_determinant.nd rfl (Or.inl rfl))) (fun _ _ _ _ _ => pts_nil) (fun _ _ _ _ _ => (pe_callTy (call_listK (K := K)) (by rfl) T.u_list PyProof.Rows.boot_list (pa_cons (pv 7) pa_nil)))))
      (pss_cons (ps_set (i := 2) sc_determinant.nd rfl (Or.inl rfl) (pe_callB (call_lenK (K := K)) (by rfl) T.u_len (by decide +kernel) (pa_cons (pv 1) pa_nil)))
      (pss_cons (ps_asg (pe_tup (pa_cons pe_int (pa_cons pe_int pa_nil))) (pg_tup rfl (pgs_cons (pg_name (i := 3) sc_determinant.nd rfl (Or.inl rfl)) (pgs_cons (pg_name (i := 4) sc_determinant.nd rfl (Or.inr rfl)) pgs_nil))))
      (pss_cons (ps_for PassesOwn.never rfl (pi_range1 (by rfl) T.u_range (pa_cons (pv 2) pa_nil)) (pg_name (i := 5) sc_determinant.nd rfl (Or.inr rfl)) (pss_cons (ps_setLc (i := 6) (own := [("i", 9)]) (g := gName 9) (by rfl) sc_determinant.nd rfl rfl (sw_true rfl rfl rfl (by decide +kernel)) (pi_range2 (by rfl) T.u_range (pa_cons (pv 5) (pa_cons (pv 2) pa_nil))) (blkOk_by (N := ["rows", "table", "size", "sign", "before", "k", "chosen", "row", "head", "i", "factor", "x", "y"]) (sc := defScope s_determinant) (own := [("i", 9)]) (by first | decide +kernel | kernel_rfl)) (fun _ _ _ _ _ => (pg_name (i := 9) sc_determinant.nd rfl (Or.inl rfl))) (fun _ _ _ _ _ => (pts_one (pt_cmpR op_ne (pe_ix (ix_seqK (K := K)) (pe_ix (ix_seqK (K := K)) (pv 1) (pv 9) (fun _ _ => rfl)) (pv 5) (fun _ _ => rfl)) pe_int (nomark _)))) (fun _ _ _ _ _ => (pv 9)))
      (pss_cons (ps_if (pt_cmpR op_eq (pe_callB (call_lenK (K := K)) (by rfl) T.u_len (by decide +kernel) (pa_cons (pv 6) pa_nil)) pe_int (nomark _)) (pss_one (ps_ret pe_int)) pss_nil)
      (pss_cons (ps_if (pt_cmpR op_ne (pe_ix (ix_seqK (K := K)) (pv 6) pe_int (fun _ _ => rfl)) (pv 5) (nomark _)) (pss_cons (ps_set (i := 7) sc_determinant.nd rfl (Or.inl rfl) (pe_ix (ix_seqK (K := K)) (pv 1) (pv 5) (fun _ _ => rfl)))
      (pss_cons (ps_asg (pe_ix (ix_seqK (K := K)) (pv 1) (pe_ix (ix_seqK (K := K)) (pv 6) pe_int (fun _ _ => rfl)) (fun _ _ => rfl)) (pg_sub (pv 1) (pv 5) set_list))
      (pss_cons (ps_asg (pv 7) (pg_sub (pv 1) (pe_ix (ix_seqK (K := K)) (pv 6) pe_int (fun _ _ => rfl)) set_list))
      (pss_one (ps_set (i := 3) sc_determinant.nd rfl (Or.inl rfl) (pe_un un_neg (pv 3))))))) pss_nil)
      (pss_cons (ps_set (i := 8) sc_determinant.nd rfl (Or.inr rfl) (pe_ix (ix_seqK (K := K)) (pv 1) (pv 5) (fun _ _ => rfl)))
      (pss_cons (ps_for PassesOwn.never rfl (pi_range2 (by rfl) T.u_range (pa_cons (pe_op op_add (pv 5) pe_int) (pa_cons (pv 2) pa_nil))) (pg_name (i := 9) sc_determinant.nd rfl (Or.inl rfl)) (pss_cons (ps_set (i := 10) sc_determinant.nd rfl (Or.inr rfl) (pe_ix (ix_seqK (K := K)) (pe_ix (ix_seqK (K := K)) (pv 1) (pv 9) (fun _ _ => rfl)) (pv 5) (fun _ _ => rfl)))
      (pss_one (ps_asg (pe_lc (own := [("x", 11), ("y", 12)]) (g := gTup K 2 (gCons (gName 11) (gCons (gName 12) gNil))) (tt := tYes) (by rfl) sc_determinant.nd (pi_zK (K := K) (by rfl) T.u_zip (pa_cons (pe_ix (ix_seqK (K := K)) (pv 1) (pv 9) (fun _ _ => rfl)) (pa_cons (pv 8) pa_nil))) (blkOk_by (N := ["rows", "table", "size", "sign", "before", "k", "chosen", "row", "head", "i", "factor", "x", "y"]) (sc := defScope s_determinant) (own := [("x", 11), ("y", 12)]) (by first | decide +kernel | kernel_rfl)) (fun _ _ _ _ _ => (pg_tup rfl (pgs_cons (pg_name (i := 11) sc_determinant.nd rfl (Or.inl rfl)) (pgs_cons (pg_name (i := 12) sc_determinant.nd rfl (Or.inl rfl)) pgs_nil)))) (fun _ _ _ _ _ => pts_nil) (fun _ _ _ _ _ => (pe_op (op_div T.sr T.tr hr (by decide) ⟨_, _, rfl, rfl, rfl, rfl, rfl⟩) (pe_op op_sub (pe_op op_mulB (pe_ix (ix_seqK (K := K)) (pv 8) (pv 5) (fun _ _ => rfl)) (pv 11)) (pe_op op_mulB (pv 10) (pv 12))) (pv 4)))) (pg_sub (pv 1) (pv 9) set_list)))))
      (pss_one (ps_set (i := 4) sc_determinant.nd rfl (Or.inr rfl) (pe_ix (ix_seqK (K := K)) (pv 8) (pv 5) (fun _ _ => rfl))))))))))
      (pss_one (ps_ret (pe_op op_mulB (pv 3) (pv 4)))))))), ?_⟩
  intro F M ds r σ H1 D hR st krt knx
  obtain ⟨d, rs, B0, rfl, ⟨es, sq, hl, hrow⟩, hn4, hsq, hsm, hB1, hB8, rfl⟩ := hR
  obtain ⟨n, hn⟩ : ∃ n, rs.length = n := ⟨_, rfl⟩
  have hes : es.length = n := by omega
  have o0 := det_start hsq hsm hB1
  rw [hn] at o0
  -- table
  refine y_asgL (ds := rs.map rowL) st (LX.is (lx_lc1 (wx_seq (ex_var rfl) sq) (fun i => rowL (rs.getD i [])) (by omega) (by simp) fun i hi => (lx_list (ex_var rfl) (IsRows.at hl hrow (by omega : i < rs.length)).items).ex) (by rw [hl]; exact map_getD rowL rs)) fun p σ H2 hp hpF st => ?_
  refine y_asg st (EX.is (ex_len (ex_var rfl) (.box (j := 0) rfl)) (show DV.int _ = DV.int (n : Int) by rw [List.length_map, hn])) fun σ H3 st => ?_
  refine x_tup2 st (ex_tup (ax_cons ex_int (ax_cons ex_int ax_nil))) fun σ H4 st => ?_
  refine x_forP (fun k M1 δ1 μ1 => M1 = p :: M ∧ ∃ t s b, brun n (rs, 1, 1) k = some (t, s, b) ∧ (∃ x5 x6 x7 x8 x9 x10, δ1 = [some d, some (.box p), some (.int n), some (.int s), some (.int b), x5, x6, x7, x8, x9, x10, none, none]) ∧ μ1 = [(p, t.map rowL)]) st
    (wx_range1 (ax_cons (ex_var rfl) ax_nil) (by omega) (by omega)) ⟨rfl, rs, 1, 1, rfl, ⟨_, _, _, _, _, _, rfl⟩, rfl⟩ ?_ ?_
  · rintro F1 k M1 δ1 μ1 σ H5 eF hk ⟨rfl, t, s, b, hrun, ⟨x5, x6, x7, x8, x9, x10, rfl⟩, rfl⟩ nw st
    have hk' : k < n := by simpa using hk
    have ok := brun_ok o0 k _ (by omega) hrun
    have tl : t.length = n := ok.len
    -- chosen
    refine y_asg (d := .lst ((picks t k n).map fun (c : Nat) => DV.int (c : Int))) st (EX.is (lx_lcF (wx_range2 (ax_cons (ex_var rfl) (ax_cons (ex_var rfl) ax_nil)) ⟨by omega, by omega⟩ ⟨by omega, by omega⟩) (fun j => .int ((k : Int) + (j : Nat))) (fun j => !decide (en t (k + j) k = 0)) (by omega) (by simp) (fun j hj => ?_) fun j hj _ => ex_var rfl).ex ?_) fun σ H6 st => ?_
    · have hj' : k + j < n := by omega
      refine tx_test (ex_neI (ex_ix (ex_ix (e := rowL (t.getD (k + j) [])) (i := ((k + j : Nat) : Int)) (ex_var rfl) (EX.is (ex_var rfl) (by rw [Int.natCast_add])) (.box (j := 0) rfl) (atI_row (by omega))) (ex_var rfl) (.lst _) (atI_int ?_)) ex_int)
      rw [ok.row (k + j) hj']
      exact hk'
    · unfold picks
      rw [show ((n : Int) - (k : Int)).toNat = n - k by omega]
      simp [List.map_map, Function.comp_def]
    refine y_if (b := decide (((picks t k n).length : Int) = 0)) st (TX.is (tx_test (ex_eqI (ex_len (ex_var rfl) (.lst _)) ex_int)) (by simp)) (fun hb H7 st => ?_) fun hb H7 st => ?_
    · refine y_end (μ' := [(p, t.map rowL)]) krt st (EX.is ex_int ?_) eF fun _ h => List.mem_cons_of_mem _ h
      have hp0 : picks t k n = [] := by
        have := of_decide_eq_true hb
        exact List.eq_nil_of_length_eq_zero (by omega)
      rw [bar_zero (k := k) (by omega) (by rw [hn]; exact hrun) (by rw [hn]; exact hp0)]
    · obtain ⟨c, cs, hpc⟩ : ∃ c cs, picks t k n = c :: cs := by
        cases q : picks t k n with
        | nil => rw [q] at hb; simp at hb
        | cons c cs => exact ⟨c, cs, rfl⟩
      obtain ⟨c1, c2, c3⟩ := picks_mem (t := t) (k := k) (n := n) (c := c) (by rw [hpc]; simp)
      have hstep : brun n (rs, 1, 1) (k + 1) = bstep n k (t, s, b) := by
        show (brun n (rs, 1, 1) k).bind _ = _
        rw [hrun]
        rfl
      have hat0 : L2.atI ((picks t k n).map fun (c : Nat) => DV.int (c : Int)) 0 = some (.int c) := by rw [hpc]; exact atI_head
      have hkt : k < t.length := by omega
      have hct : c < t.length := by omega
      refine y_if (b := !decide ((c : Int) = k)) st (tx_test (ex_neI (ex_ix (ex_var rfl) ex_int (.lst _) hat0) (ex_var rfl))) (fun hb H7 st => ?swapped) fun hb H7 st => ?same
      case' swapped =>
        have hck : c ≠ k := fun e => by rw [e] at hb; simp at hb
        refine y_asg st (ex_ix (ex_var rfl) (ex_var rfl) (.box (j := 0) rfl) (atI_row hkt)) fun σ H8 st => ?_
        refine y_setL (j := 0) st (ex_ix (ex_var rfl) (ex_ix (ex_var rfl) ex_int (.lst _) hat0) (.box (j := 0) rfl) (atI_row hct)) (ex_var rfl) (ex_var rfl) rfl (ixN_of (by simpa using hkt)) fun H9 st => ?_
        refine y_setL (j := 0) st (ex_var rfl) (ex_var rfl) (ex_ix (ex_var rfl) ex_int (.lst _) hat0) rfl (ixN_of (by simpa using hct)) fun H9 st => ?_
        refine y_asg st (ex_U (ex_var rfl)) fun σ H10 st => ?_
        obtain ⟨t2, s2, x7, o2, hz2, hr2, st⟩ : ∃ t2 s2 x7, BOk B0 n k (t2, s2, b) ∧ en t2 k k ≠ 0 ∧ brun n (rs, 1, 1) (k + 1) = some (inn (t2.getD k []) b k t2 (n - (k + 1)), s2, en t2 k k) ∧
            Sta K F1 (p :: M) [some d, some (.box p), some (.int n), some (.int s2), some (.int b), some (.int k), some (.lst ((picks t k n).map fun (c : Nat) => DV.int (c : Int))), x7, x8, x9, x10, none, none] [(p, t2.map rowL)] σ H10 := by
          refine ⟨swp t k c, -s, some (rowL (t.getD k [])), swp_ok hk' c2 ok (by have := ok.ss; simpa using this), by rw [swp_en tl hk' c2 hck]; exact c3, ?_, ?_⟩
          · rw [hstep]
            unfold bstep
            simp only [hpc]
            rw [if_neg hck]
          · have e : (swp t k c).map rowL = ((t.map rowL).set k (rowL (t.getD c []))).set c (rowL (t.getD k [])) := by
              unfold swp
              rw [map_set_row, map_set_row]
            rw [e]
            exact st
      case' same =>
        have hck : c = k := by
          simp at hb
          omega
        obtain ⟨t2, s2, x7, o2, hz2, hr2, st⟩ : ∃ t2 s2 x7, BOk B0 n k (t2, s2, b) ∧ en t2 k k ≠ 0 ∧ brun n (rs, 1, 1) (k + 1) = some (inn (t2.getD k []) b k t2 (n - (k + 1)), s2, en t2 k k) ∧
            Sta K F1 (p :: M) [some d, some (.box p), some (.int n), some (.int s2), some (.int b), some (.int k), some (.lst ((picks t k n).map fun (c : Nat) => DV.int (c : Int))), x7, x8, x9, x10, none, none] [(p, t2.map rowL)] σ H7 := by
          refine ⟨t, s, _, ok, by rw [← hck] at c3 ⊢; exact c3, ?_, st⟩
          rw [hstep]
          unfold bstep
          simp only [hpc]
          rw [if_pos hck]
      all_goals
        have tl2 : t2.length = n := o2.len
        have hk2 : k < t2.length := by omega
        have hkr : k < (t2.getD k []).length := by rw [o2.row k hk']; exact hk'
        have hbk := bk3 (B0 := B0) (k := k) (by omega)
        refine y_asg st (ex_ix (ex_var rfl) (ex_var rfl) (.box (j := 0) rfl) (atI_row hk2)) fun σ H11 st => ?_
        refine x_forP (fun m M1 δ1 μ1 => M1 = p :: M ∧ (∃ x9 x10, δ1 = [some d, some (.box p), some (.int n), some (.int s2), some (.int b), some (.int k), some (.lst ((picks t k n).map fun (c : Nat) => DV.int (c : Int))), x7, some (rowL (t2.getD k [])), x9, x10, none, none]) ∧ μ1 = [(p, (inn (t2.getD k []) b k t2 m).map rowL)]) st
          (wx_range2 (m := (k : Int) + 1) (n := (n : Int)) (ax_cons (ex_add (ex_var rfl) ex_int) (ax_cons (ex_var rfl) ax_nil)) ⟨by omega, by omega⟩ ⟨by omega, by omega⟩) ⟨rfl, ⟨_, _, rfl⟩, rfl⟩ ?_ ?_
        · rintro F2 m M1 δ1 μ1 σ H12 eF2 hm ⟨rfl, ⟨x9, x10, rfl⟩, rfl⟩ nw2 st
          have hm' : k + 1 + m < n := by omega
          have hil : (inn (t2.getD k []) b k t2 m).length = n := (inn_len m).trans tl2
          have hir : (inn (t2.getD k []) b k t2 m).getD (k + 1 + m) [] = t2.getD (k + 1 + m) [] := by rw [inn_get m _ (by omega), if_neg (by omega)]
          have hrl := o2.row (k + 1 + m) hm'
          have ci : DV.int ((k : Int) + 1 + (m : Nat)) = DV.int ((k + 1 + m : Nat) : Int) := by rw [Int.natCast_add, Int.natCast_add]; rfl
          refine y_asg (d := .int (en (inn (t2.getD k []) b k t2 m) (k + 1 + m) k)) st (ex_ix (ex_ix (ex_var rfl) (EX.is (ex_var rfl) ci) (.box (j := 0) rfl) (atI_row (by omega))) (ex_var rfl) (.lst _) (atI_int (by rw [hir, hrl]; exact hk'))) fun σ H13 st => ?_
          refine y_setL (j := 0) (d := rowL (elimRow (t2.getD k []) (en (inn (t2.getD k []) b k t2 m) (k + 1 + m) k) b k ((inn (t2.getD k []) b k t2 m).getD (k + 1 + m) []))) st (EX.is (lx_lc1 (wx_zip (ax_cons (ex_ix (ex_var rfl) (EX.is (ex_var rfl) ci) (.box (j := 0) rfl) (atI_row (t := inn (t2.getD k []) b k t2 m) (i := k + 1 + m) (by omega))) (ax_cons (ex_var rfl) ax_nil)) (isL _) (isL _) rfl)
            (fun j => .int (((t2.getD k []).getD k 0 * ((inn (t2.getD k []) b k t2 m).getD (k + 1 + m) []).getD j 0 - en (inn (t2.getD k []) b k t2 m) (k + 1 + m) k * (t2.getD k []).getD j 0).fdiv b)) (by rw [List.length_map, List.length_map, hir]; have h1 : (t2.getD k []).length = n := o2.row k hk'; have h2 : (t2.getD (k + 1 + m) []).length = n := hrl; omega) (by simp) fun j hj => ?_).ex ?_) (ex_var rfl) (EX.is (ex_var rfl) ci) rfl (ixN_of (by simpa using (by omega : k + 1 + m < (inn (t2.getD k []) b k t2 m).length))) fun H14 st => ?_
          · rw [List.length_map, List.length_map] at hj
            have e1 : en (inn (t2.getD k []) b k t2 m) (k + 1 + m) k = (t2.getD (k + 1 + m) []).getD k 0 := by unfold en; rw [hir]
            have c1 : CMulB ((t2.getD k []).getD k 0) (((inn (t2.getD k []) b k t2 m).getD (k + 1 + m) []).getD j 0) := smMul (getD_sm (o2.sm k) k) (by rw [hir]; exact getD_sm (o2.sm (k + 1 + m)) j) (by omega)
            have c2 : CMulB (en (inn (t2.getD k []) b k t2 m) (k + 1 + m) k) ((t2.getD k []).getD j 0) := smMul (by rw [e1]; exact getD_sm (o2.sm (k + 1 + m)) k) (getD_sm (o2.sm k) j) (by omega)
            have g1 := getD_map (r := (inn (t2.getD k []) b k t2 m).getD (k + 1 + m) []) (i := j) (by omega)
            have g2 := getD_map (r := t2.getD k []) (i := j) (by omega)
            exact ex_fdiv (ex_sub (ex_mul (ex_ix (ex_var rfl) (ex_var rfl) (.lst _) (atI_int hkr)) (EX.is (ex_var rfl) g1) c1) (ex_mul (ex_var rfl) (EX.is (ex_var rfl) g2) c2)) (ex_var rfl) o2.nz
          · show DV.lst _ = DV.lst _
            unfold elimRow
            simp [Function.comp_def]
          · refine nxt st nw2 ⟨rfl, ⟨_, _, rfl⟩, ?_⟩
            show [(p, List.set _ _ _)] = _
            rw [map_set_row]
            rfl
        · rintro M1 δ1 μ1 σ H12 ⟨rfl, ⟨x9, x10, rfl⟩, rfl⟩ nw2 st
          rw [show ((n : Int) - ((k : Int) + 1)).toNat = n - (k + 1) by omega] at st
          refine y_asg (d := .int (en t2 k k)) st (ex_ix (ex_var rfl) (ex_var rfl) (.lst _) (atI_int hkr)) fun σ H13 st => ?_
          exact nxt st nw ⟨rfl, _, s2, _, hr2, ⟨_, _, _, _, _, _, rfl⟩, rfl⟩
  · rintro M1 δ1 μ1 σ H5 ⟨rfl, t, s, b, hrun, ⟨x5, x6, x7, x8, x9, x10, rfl⟩, rfl⟩ nw st
    rw [show ((n : Int)).toNat = n by omega] at hrun
    have ok := brun_ok o0 n _ (by omega) hrun
    refine y_end (μ' := [(p, t.map rowL)]) krt st (EX.is (ex_I (ex_var rfl) (ex_var rfl) ?_) ?_) (Ex.refl _) fun _ h => List.mem_cons_of_mem _ h
    · have h1 : s.natAbs ≤ 1 := ok.ss
      exact smMul (A := 2) (B := bk B0 n) (by omega) ok.bs (by have := bk4 (B0 := B0) (k := n) (by omega); omega)
    · show DV.int (s * b) = _
      unfold bar
      rw [hn, hrun]
theorem ok_minor (F : Fun K "_minor" "_minor" s_minor f fd) (T : Txt P K mg base C) : FnOk P w K mg base CX0 2 f fd ["rows", "i", "k"] (spD K rMinor) := by
  refine okD F sc_minor (fun ds r h => by obtain ⟨rs, i, k, rfl, _⟩ := h; rfl) fun cdv A outer s H E hr => ⟨_, (pss_one (ps_ret (pe_lc (own := [("at", 3), ("row", 4)]) (g := gTup K 2 (gCons (gName 3) (gCons (gName 4) gNil))) (by rfl) sc_minor.nd (pi_eK (K := K) (by rfl) T.u_enumerate (pa_cons (pv 0) pa_nil)) (blkOk_by (N := ["rows", "i", "k", "at", "row"]) (sc := defScope s_minor) (own := [("at", 3), ("row", 4)]) (by first | decide +kernel | kernel_rfl)) (fun _ _ _ _ _ => (pg_tup rfl (pgs_cons (pg_name (i := 3) sc_minor.nd rfl (Or.inl rfl)) (pgs_cons (pg_name (i := 4) sc_minor.nd rfl (Or.inl rfl)) pgs_nil)))) (fun _ _ _ _ _ => (pts_one (pt_cmpR op_ne (pv 3) (pv 1) (nomark _)))) (fun _ _ _ _ _ => (pe_op (op_catK (K := K)) (pe_slice (sl_tupK (K := K)) (pv 4) po_none (po_some (pv 2))) (pe_slice (sl_tupK (K := K)) (pv 4) (po_some (pe_op op_add (pv 2) pe_int)) po_none)))))), ?_⟩
  intro F M ds r σ H1 D hR st krt knx
  obtain ⟨rs, i, k, rfl, hl, hw, rfl⟩ := hR
  refine y_end (μ' := []) krt st (EX.is (lx_lcF (wx_enumK (ax_cons (ex_var rfl) ax_nil) (.tup _)) (fun j => rowT (delC (rs.getD j []) k)) (fun j => !decide (j = i)) (by simp; omega) (by simp) (fun j hj => ?_) fun j hj _ => ?_).ex ?_) (Ex.refl _) fun _ h => h
  · exact TX.is (tx_test (ex_neI (ex_var rfl) (ex_var rfl))) (by congr 1; exact decide_eq_decide.mpr (by omega))
  · have hj' : j < rs.length := by simpa using hj
    have e1 : (rs.map rowT).getD j .non = .tup ((rs.getD j []).map .int) := by
      rw [List.getD_eq_getElem?_getD, List.getElem?_map, List.getElem?_eq_getElem hj', List.getD_eq_getElem?_getD, List.getElem?_eq_getElem hj']
      rfl
    have hrl := rows_at hw j hj'
    have e2 : DV.tup ((cutD ((rs.getD j []).map .int) none (some (k : Int))) ++ cutD ((rs.getD j []).map .int) (some ((k : Int) + 1)) none) = rowT (delC (rs.getD j []) k) := by
      rw [cut_take, cut_drop, ← List.map_append]
      rfl
    refine EX.is (ex_catT (ex_slT (EX.is (ex_var rfl) e1) ox_none (ox_some (ex_var rfl))) (ex_slT (EX.is (ex_var rfl) e1) (ox_some (ex_add (ex_var rfl) ex_int)) ox_none) ?_) e2
    rw [cut_take, cut_drop, List.length_map, List.length_map, List.length_take, List.length_drop]
    omega
  · unfold minorM
    simp [Function.comp_def]
theorem ok_init (F : FunI K s_Grid_init f fd) (T : Txt P K mg base C) (c_checked : CalG P w K mg base 4 "_checked" (spD K rChecked) []) : FnOk P w K mg base CX0 6 f fd ["self", "rows", "width"] (spI K C rInit) := by
  refine okI F sc_Grid_init (fun ds fs h => by obtain ⟨d, e, rs, w, rfl, _⟩ := h; rfl) fun cdv A outer s H E hr => ⟨_, (pss_cons (ps_if (pt_not (pt_val (pe_callB (call_isTK (K := K)) (by rfl) T.u_isinstance PyProof.Rows.boot_isinstance (pa_cons (pv 1) (pa_cons (pe_tup (pa_cons (pe_bltn (v := .ty "list") (u := .type "list") (by rfl) T.u_list (by decide +kernel) rfl) (pa_cons (pe_bltn (v := .ty "tuple") (u := .type "tuple") (by rfl) T.u_tuple (by decide +kernel) rfl) pa_nil))) pa_nil))))) (pss_one ps_never) pss_nil)
      (pss_cons (ps_if (pt_cmpR op_isN (pv 2) pe_non (nomark _)) (pss_cons (ps_set (i := 2) sc_Grid_init.nd rfl (Or.inl rfl) pe_int)
      (pss_one (ps_if (PW.pt (pw_and (pt_cmpR op_gt (pe_callB (call_lenK (K := K)) (by rfl) T.u_len (by decide +kernel) (pa_cons (pv 1) pa_nil)) pe_int (nomark _)) (pw_and1 (pt_val (pe_callB (call_isTK (K := K)) (by rfl) T.u_isinstance PyProof.Rows.boot_isinstance (pa_cons (pe_ix (ix_seqK (K := K)) (pv 1) pe_int (fun _ _ => rfl)) (pa_cons (pe_tup (pa_cons (pe_bltn (v := .ty "list") (u := .type "list") (by rfl) T.u_list (by decide +kernel) rfl) (pa_cons (pe_bltn (v := .ty "tuple") (u := .type "tuple") (by rfl) T.u_tuple (by decide +kernel) rfl) pa_nil))) pa_nil))))))) (pss_one (ps_set (i := 2) sc_Grid_init.nd rfl (Or.inl rfl) (pe_callB (call_lenK (K := K)) (by rfl) T.u_len (by decide +kernel) (pa_cons (pe_ix (ix_seqK (K := K)) (pv 1) pe_int (fun _ _ => rfl)) pa_nil)))) pss_nil))) pss_nil)
      (pss_cons (ps_fld (pv 0) (pe_cG c_checked hr (by decide) rfl (pa_cons (pv 1) (pa_cons (pv 2) pa_nil))) rfl)
      (pss_one (ps_fld (pv 0) (pv 2) rfl))))), ?_⟩
  intro F M x dx ds fs σ H1 D hR hx hF st knx
  obtain ⟨d, e, rs, w, rfl, ⟨es, sq, hl, hrow⟩, hlen, hwb, hw, he, rfl⟩ := hR
  have hrs : IsRows d rs := ⟨es, sq, hl, hrow⟩
  obtain ⟨t, ty, kit⟩ := kitLT (K := K) sq
  refine y_skip st (TX.is (tx_not (tx_val (ex_isi2 (ex_var rfl) ty kit))) rfl) fun H2 st => ?_
  rcases he with rfl | ⟨rfl, h0⟩
  case' inl =>
    refine y_skip st (TX.is (tx_test (ex_isN (ex_var rfl))) rfl) fun H3 st => ?_
  case' inr =>
    refine y_if (b := true) st (TX.is (tx_test (ex_isN (ex_var rfl))) rfl) (fun _ H3 st => ?_) (fun h => by cases h)
    refine y_asg st ex_int fun σ H4 st => ?_
    refine y_if (b := decide (0 < rs.length)) st (TX.is (tx_and (b := true) (tx_test (ex_gt (ex_len (ex_var rfl) sq.items) ex_int)) fun hb => ?_) (by simp [hl])) (fun hb H5 st => ?pos) fun hb H5 st => ?zero
    · have h1 : 0 < rs.length := by have := of_decide_eq_true hb; omega
      have q0 := IsRows.at hl hrow h1
      obtain ⟨t0, ty0, kit0⟩ := kitLT (K := K) q0
      refine tx_val (ex_isi2 (ex_ix (ex_var rfl) ex_int sq.items (e := es.getD 0 .non) ?_) ty0 kit0)
      have h2 : 0 < es.length := by omega
      have := atI_nat (xs := es) (i := 0) h2
      rw [List.getD_eq_getElem?_getD, List.getElem?_eq_getElem h2]
      exact this
    case' pos =>
      have h1 : 0 < rs.length := of_decide_eq_true hb
      have q0 := IsRows.at hl hrow h1
      have h2 : 0 < es.length := by omega
      have hw0 : (rs.getD 0 []).length = w := rows_at hw 0 h1
      refine y_asg (d := .int w) st (EX.is (ex_len (ex_ix (ex_var rfl) ex_int sq.items (e := es.getD 0 .non) ?hat) q0.items) ?hlen) fun σ H6 st => ?_
      case hat =>
        have := atI_nat (xs := es) (i := 0) h2
        rw [List.getD_eq_getElem?_getD, List.getElem?_eq_getElem h2]
        exact this
      case hlen =>
        rw [List.length_map, hw0]
    case' zero =>
      have h1 : rs = [] := List.eq_nil_of_length_eq_zero (by have := of_decide_eq_false hb; omega)
      have hw0 := h0 h1
      subst hw0
  all_goals
    refine x_fldI (μ' := []) st .nil hx hF (fun p hp => nomatch hp) (ex_call (ax_cons (ex_var rfl) (ax_cons (ex_var rfl) ax_nil)) ⟨d, rs, _, rfl, hrs, hlen, hw, rfl⟩) (ex_var rfl) T.cl T.n_rows (by simp) rfl fun fv H7 st rf => ?_
    exact x_fldI (μ' := []) st rf hx hF (fun p hp => nomatch hp) (ex_var rfl) (ex_var rfl) T.cl T.n_width (by simp) rfl fun fv H8 st rf => knx _ _ H8 fv st rf
theorem ok_len (F : Fun K "__len__" "Grid.__len__" s_Grid_len f fd) (T : Txt P K mg base C) : FnOk P w K mg base CX0 2 f fd ["self"] (spD K (rLenG C)) := by
  refine okD F sc_Grid_len (fun ds r h => by obtain ⟨rs, w, rfl, _⟩ := h; rfl) fun cdv A outer s H E hr => ⟨_, (pss_one (ps_ret (pe_callB (call_lenK (K := K)) (by rfl) T.u_len (by decide +kernel) (pa_cons (pe_fldK (K := K) (pv 0)) pa_nil)))), ?_⟩
  intro F M ds r σ H1 D hR st krt knx
  obtain ⟨rs, w, rfl, rfl⟩ := hR
  exact y_end (μ' := []) krt st (EX.is (ex_len (ex_fld (ex_var rfl) T.cl T.n_rows rfl) (.tup _)) (by simp)) (Ex.refl _) fun _ h => h
theorem ok_issq (F : Fun K "is_square" "Grid.is_square" s_Grid_is_square f fd) (T : Txt P K mg base C) : FnOk P w K mg base CX0 2 f fd ["self"] (spD K (rIsSq C)) := by
  refine okD F sc_Grid_is_square (fun ds r h => by obtain ⟨a, w, rfl, _⟩ := h; rfl) fun cdv A outer s H E hr => ⟨_, (pss_one (ps_ret (pe_cmpR op_eq (pe_callB (call_lenK (K := K)) (by rfl) T.u_len (by decide +kernel) (pa_cons (pe_fldK (K := K) (pv 0)) pa_nil)) (pe_fldK (K := K) (pv 0)) (nomark _)))), ?_⟩
  intro F M ds r σ H1 D hR st krt knx
  obtain ⟨a, w, rfl, rfl⟩ := hR
  refine y_end (μ' := []) krt st (EX.is (ex_eqI (ex_len (ex_fld (ex_var rfl) T.cl T.n_rows rfl) (.tup _)) (ex_fld (ex_var rfl) T.cl T.n_width rfl)) ?_) (Ex.refl _) fun _ h => h
  rw [List.length_map]
  congr 1
  exact decide_eq_decide.mpr (by omega)
theorem ok_detG (F : Fun K "determinant" "Grid.determinant" s_Grid_determinant f fd) (T : Txt P K mg base C) (m_Grid_is_square : MetG P w K mg base 2 C "is_square" (spD K (rIsSq C))) (c_determinant : CalG P w K mg base 42 "_determinant" (spD K rDet) []) : FnOk P w K mg base CX0 44 f fd ["self"] (spD K (rDetG C)) := by
  refine okD F sc_Grid_determinant (fun ds r h => by obtain ⟨a, w, _, rfl, _⟩ := h; rfl) fun cdv A outer s H E hr => ⟨_, (pss_cons (ps_if (pt_not (pt_val (pe_mtG0 m_Grid_is_square hr (by decide) (pv 0)))) (pss_one ps_never) pss_nil)
      (pss_one (ps_ret (pe_cG c_determinant hr (by decide) rfl (pa_cons (pe_fldK (K := K) (pv 0)) pa_nil))))), ?_⟩
  intro F M ds r σ H1 D hR st krt knx
  obtain ⟨a, w, B0, rfl, ha, hB1, hB8, hl, h4, rfl⟩ := hR
  refine y_skip st (TX.is (tx_not (tx_val (ex_meth (ex_var rfl) rfl ax_nil ⟨a, w, rfl, rfl⟩))) (by simp [hl])) fun H2 st => ?_
  exact y_end (μ' := []) krt st (ex_call (ax_cons (ex_fld (ex_var rfl) T.cl T.n_rows rfl) ax_nil) ⟨_, a, B0, rfl, isRowsT a, by omega, fun x hx => by rw [ha.row x hx, hl], ha.sm, hB1, hB8, rfl⟩) (Ex.refl _) fun _ h => h
theorem ok_adj (F : Fun K "adjugate" "Grid.adjugate" s_Grid_adjugate f fd) (T : Txt P K mg base C) (m_Grid_is_square : MetG P w K mg base 2 C "is_square" (spD K (rIsSq C))) (c_determinant : CalG P w K mg base 42 "_determinant" (spD K rDet) []) (c_minor : CalG P w K mg base 2 "_minor" (spD K rMinor) []) (k_Grid : MakG P w K mg base 6 "Grid" C (spI K C rInit) []) : FnOk P w K mg base CX0 44 f fd ["self"] (spD K (rAdj C)) := by
  refine okD F sc_Grid_adjugate (fun ds r h => by obtain ⟨a, w, _, rfl, _⟩ := h; rfl) fun cdv A outer s H E hr => ⟨_, (pss_cons (ps_if (pt_not (pt_val (pe_mtG0 m_Grid_is_square hr (by decide) (pv 0)))) (pss_one ps_never) pss_nil)
      (pss_cons (ps_set (i := 1) sc_Grid_adjugate.nd rfl (Or.inl rfl) (pe_lst pa_nil))
      (pss_cons (ps_for PassesOwn.never rfl (pi_range1 (by rfl) T.u_range (pa_cons (pe_fldK (K := K) (pv 0)) pa_nil)) (pg_name (i := 2) sc_Grid_adjugate.nd rfl (Or.inl rfl)) (pss_cons (ps_set (i := 3) sc_Grid_adjugate.nd rfl (Or.inl rfl) (pe_lst pa_nil))
      (pss_cons (ps_for PassesOwn.never rfl (pi_range1 (by rfl) T.u_range (pa_cons (pe_fldK (K := K) (pv 0)) pa_nil)) (pg_name (i := 4) sc_Grid_adjugate.nd rfl (Or.inl rfl)) (pss_cons (ps_set (i := 5) sc_Grid_adjugate.nd rfl (Or.inl rfl) (pe_cG c_determinant hr (by decide) rfl (pa_cons (pe_cG c_minor hr (by decide) rfl (pa_cons (pe_fldK (K := K) (pv 0)) (pa_cons (pv 4) (pa_cons (pv 2) pa_nil)))) pa_nil)))
      (pss_one (ps_expr (pe_bm PySem.F.plainAttrs_list PySem.F.slot_list_append PySem.F.type_list_append mt_append (pv 3) (pa_cons (pe_ifExp (pt_cmpR op_eq (pe_op op_modN (pe_op op_add (pv 2) (pv 4)) pe_int) pe_int (nomark _)) (pe_un un_neg (pv 5)) (pv 5)) pa_nil))))))
      (pss_one (ps_expr (pe_bm PySem.F.plainAttrs_list PySem.F.slot_list_append PySem.F.type_list_append mt_append (pv 1) (pa_cons (pv 3) pa_nil)))))))
      (pss_one (ps_ret (pe_mkG k_Grid hr (by decide) rfl (pa_cons (pv 1) (pa_cons (pe_fldK (K := K) (pv 0)) pa_nil)))))))), ?_⟩
  intro F M ds r σ H1 D hR st krt knx
  obtain ⟨a, n, B0, rfl, ha, hB1, hB8, hl, h4, rfl⟩ := hR
  have f1 : ∀ {δ : G.Env} {μ : Sto} {rs : List (List Int)} {w : Nat} {i : Nat}, δ[i]? = some (some (gridD C rs w)) → EX K (tFld K (tVar i) "rows") δ μ μ (rowsT rs) := fun h => ex_fld (ex_var h) T.cl T.n_rows rfl
  have f2 : ∀ {δ : G.Env} {μ : Sto} {rs : List (List Int)} {w : Nat} {i : Nat}, δ[i]? = some (some (gridD C rs w)) → EX K (tFld K (tVar i) "width") δ μ μ (.int w) := fun h => ex_fld (ex_var h) T.cl T.n_width rfl
  refine y_skip st (TX.is (tx_not (tx_val (ex_meth (ex_var rfl) rfl ax_nil ⟨a, n, rfl, rfl⟩))) (by simp [hl])) fun H2 st => ?_
  refine y_asgL st (lx_lst ax_nil) fun p σ H2 hp hpF st => ?_
  refine x_forP (fun i M1 δ1 μ1 => M1 = p :: M ∧ (∃ x2 x3 x4 x5, δ1 = [some (gridD C a n), some (.box p), x2, x3, x4, x5]) ∧ μ1 = [(p, (List.range i).map fun i => rowL ((List.range n).map fun k => adjE a i k))]) st (wx_range1 (ax_cons (f2 rfl) ax_nil) (by omega) (by omega)) ⟨rfl, ⟨_, _, _, _, rfl⟩, rfl⟩ ?_ ?_
  · rintro F1 i M1 δ1 μ1 σ H3 eF hi ⟨rfl, ⟨x2, x3, x4, x5, rfl⟩, rfl⟩ nw st
    have hi' : i < n := by omega
    refine y_asgL st (lx_lst ax_nil) fun q σ H4 hq hqF st => ?_
    refine x_forP (fun k M1 δ1 μ1 => M1 = q :: p :: M ∧ (∃ x4 x5, δ1 = [some (gridD C a n), some (.box p), some (.int (i : Nat)), some (.box q), x4, x5]) ∧ μ1 = [(q, (List.range k).map fun k => .int (adjE a i k)), (p, (List.range i).map fun i => rowL ((List.range n).map fun k => adjE a i k))]) st (wx_range1 (ax_cons (f2 rfl) ax_nil) (by omega) (by omega)) ⟨rfl, ⟨_, _, rfl⟩, rfl⟩ ?_ ?_
    · rintro F2 k M1 δ1 μ1 σ H5 eF2 hk ⟨rfl, ⟨x4, x5, rfl⟩, rfl⟩ nw2 st
      have hk' : k < n := by omega
      have h1 := minorM_len (rs := a) (i := k) (k := i) (by omega) (by omega)
      have h2 := minorM_mem (i := k) (k := i) ha.row hi'
      refine y_asg (d := .int (bar (minorM a k i))) st (ex_call (ax_cons (ex_call (ax_cons (f1 rfl) (ax_cons (ex_var rfl) (ax_cons (ex_var rfl) ax_nil))) ⟨a, k, i, rfl, by omega, fun x hx => by rw [ha.row x hx]; omega, rfl⟩) ax_nil) ⟨_, minorM a k i, B0, rfl, isRowsLT _, by omega, fun x hx => by rw [h1, hl]; exact h2 x hx, minorM_sm ha.sm, hB1, hB8, rfl⟩) fun σ H6 st => ?_
      have em : (((i : Int) + (k : Int)).fmod 2 = 1) ↔ (i + k) % 2 = 1 := by
        rw [Int.fmod_eq_emod_of_nonneg _ (by decide)]
        omega
      refine y_app (j := 0) (d := .int (adjE a i k)) st (ex_var rfl) (ex_if (b := decide (((i : Int) + (k : Int)).fmod 2 = 1)) (tx_test (ex_eqI (ex_mod (ex_add (ex_var rfl) (ex_var rfl)) ex_int (by decide)) ex_int)) (fun hb => EX.is (ex_neg (ex_var rfl)) ?_) fun hb => EX.is (ex_var rfl) ?_) rfl (by simp; omega) fun H7 st => ?_
      · unfold adjE
        rw [if_pos (em.mp (of_decide_eq_true hb))]
      · unfold adjE
        rw [if_neg (fun z => of_decide_eq_false hb (em.mpr z))]
      · refine nxt st nw2 ⟨rfl, ⟨_, _, rfl⟩, ?_⟩
        rw [List.range_succ, List.map_append]
        rfl
    · rintro M1 δ1 μ1 σ H5 ⟨rfl, ⟨x4, x5, rfl⟩, rfl⟩ nw2 st
      rw [Int.toNat_natCast] at st
      have st := st.free (i := 3) hq rfl
      refine y_app (j := 0) (d := rowL ((List.range n).map fun k => adjE a i k)) st (ex_var rfl) (EX.is (ex_var rfl) lstmap) rfl (by simp; omega) fun H7 st => ?_
      refine nxt st nw ⟨rfl, ⟨_, _, _, _, rfl⟩, ?_⟩
      rw [List.range_succ, List.map_append]
      rfl
  · rintro M1 δ1 μ1 σ H3 ⟨rfl, ⟨x2, x3, x4, x5, rfl⟩, rfl⟩ nw st
    rw [Int.toNat_natCast] at st
    have st := st.free (i := 1) hp rfl
    exact y_end (μ' := []) krt st (ex_make (dd := []) (ax_cons (EX.is (ex_var rfl) genD) (ax_cons (f2 rfl) ax_nil)) (fun _ => .nil) (initOf (isRowsL (adjM a n)) (by unfold adjM; rw [genM_len]; omega) (by omega) (fun x hx => genM_row x hx))) (Ex.refl _) fun _ h => h
end
end G41g
set_option Elab.async false
set_option linter.all false
set_option maxRecDepth 100000
namespace G
open PySem PySem.Spec PyProof.Rows L2 Evl
/-- walkN, the bits of the script's numbers told -/
theorem walkNB {l : PySem.W.OpenLaw} {n k : Nat} {q : Program} {loose : List Str} {XP : (Str → Option Value) → Heap → Prop} {YP : World → Heap → Prop} {d : DefRec} {K : Params → PySem.W.Frag} {CX : CXT} {sp : PySem.W.Frag → Sp} {x : Str}
    (hn : l.most = some n) (hn2 : n ≤ sizeLine) (hdf : d.params.defaults = []) (hr : Room k callerA) (hi : importsNone q = true)
    (hY : ∀ (w : World) (h : Heap), YP w h → (K w.params).In h)
    (F : ∀ (w : World) (mg : Str → Option Value) (fa : Addr) (h : Heap), (K w.params).In h → h.Ns mainGlobals mg → mg d.name = some (.ref fa) →
      ∃ fd : FuncData, (∀ (s : Shared) (u : Value), BindsTo s fd ⟨[u], []⟩ [(x, u)]) ∧
        ∀ base : Heap, (K w.params).In base → base.Ns mainGlobals mg → base.NoSeer → FnOk l.prog w (K w.params) mg base CX k fa fd [x] (sp (K w.params)))
    (hsp : ∀ (K : PySem.W.Frag) (H : Hp) (a : Addr) (ns : List Int), ns.length ≤ n → (∀ z ∈ ns, z.natAbs < 2 ^ 1048577) → Only H → SqL K H a (ns.map V.int) → sp K [.ref a] H (fun v _ => v = .bl true) fun _ _ _ => False)
    (hCX : ∀ (H : Hp) (s : Shared) (e : Value) (s' : Shared), CX [] H s (fun _ _ _ => False) e s' → False) : PySem.W.WalkO q loose XP YP l.row.toRowW d [] (fun f vs => PySem.call f vs) := by
  refine Att.attach_callB hn hdf fun w s₀ s₁ mg mb fa o pm cd doc a vs ns Gr Y ho hd hcd hmg hobj hints hlen hbits hg => ?_
  have KX := hY w _ Y
  obtain ⟨fd, hb, hF⟩ := F w mg fa _ KX Gr.T.g hmg
  have hb2 : ∀ z ∈ ns, z.natAbs < 2 ^ 1048577 := fun z hz => Nat.lt_of_lt_of_le (natAbs_lt_pow_bits z) (Nat.pow_le_pow_right (by omega) (Nat.le_trans (hbits z hz) (by omega)))
  exact law_run KX Gr.T.g Gr.T.b Gr.T.builtins Gr.T.nolimit (Gr.T.seer hi) hg hobj hints (Nat.le_trans hlen hn2) hr hF hb (fun H hO hS => hsp (K w.params) H a ns hlen hb2 hO hS) fun H e s' => hCX H s₁ e s'
end G
set_option Elab.async false
set_option linter.all false
namespace G
open PySem PySem.Spec PyProof.Rows
theorem kitR {K : PySem.W.Frag} {t : Value} {C : Addr} (h0 : (t == Value.ref C) = false) (h1 : PySem.W.isClsIn K C = true) (h2 : PySem.W.typeIn K (.ref C) = some (.type "type")) (h3 : PySem.W.subIn K t (.ref C) = some false) : PySem.W.kitOne K t (.ref C) = some false := by
  unfold PySem.W.kitOne
  rw [h0, if_neg Bool.false_ne_true]
  unfold PySem.W.kitCls
  unfold PySem.W.isClsIn at h1
  dsimp only
  rw [h1, h2, if_pos (by simp)]
  exact h3
theorem kitT {K : PySem.W.Frag} {C : Addr} {T : String} (h1 : PySem.W.kitMeta T = true) (h3 : PySem.W.subIn K (.ref C) (.type T) = some false) : PySem.W.kitOne K (.ref C) (.type T) = some false := by
  unfold PySem.W.kitOne
  have h0 : (Value.ref C == Value.type T) = false := rfl
  rw [h0, if_neg Bool.false_ne_true]
  unfold PySem.W.kitCls
  dsimp only
  rw [h1, if_pos rfl]
  exact h3
theorem kitA2 {K : PySem.W.Frag} {t a b : Value} (h1 : PySem.W.kitOne K t a = some false) (h2 : PySem.W.kitOne K t b = some false) : PySem.W.kitAny K t [a, b] = some false := by
  unfold PySem.W.kitAny
  rw [h1]
  unfold PySem.W.kitAny
  rw [h2]
  rfl
theorem vty {T : String} {C : Addr} : (Value.type T == Value.ref C) = false := rfl
end G
set_option Elab.async false
set_option linter.all false
set_option maxRecDepth 100000
set_option maxHeartbeats 4000000
namespace G41
open PySem PySem.Spec PyProof.Rows L2 Evl G
abbrev s_checked := G41g.s_checked
abbrev s_determinant := G41g.s_determinant
abbrev s_minor := G41g.s_minor
abbrev s_Grid_init := G41g.s_Grid_init
abbrev s_Grid_len := G41g.s_Grid_len
abbrev s_Grid_is_square := G41g.s_Grid_is_square
abbrev s_Grid_determinant := G41g.s_Grid_determinant
abbrev s_Grid_adjugate := G41g.s_Grid_adjugate
abbrev FunI := G41g.FunI
theorem law_imp {K : PySem.W.Frag} {C_Grid C_Lattice : Addr} : ∀ vs H Q E, spD K rLaw vs H Q E → spD K (R_law C_Grid C_Lattice) vs H Q E := fun vs H Q E ⟨M, ds, r, h1, h2, ⟨ns, e1, _, e2⟩, h4⟩ => ⟨M, ds, r, h1, h2, ⟨1000001, ns, true, e1, law_true ns (by omega), e2⟩, h4⟩
theorem fn_or {P : Program} {w : World} {K : PySem.W.Frag} {mg : Str → Option Value} {base : Heap} {C C_Grid C_Lattice : Addr} {k : Nat} {f : Addr} {fd : FuncData} {ps : List Str} (F1 : FnOk P w K mg base CX0 k f fd ps (spI K C (R_Lattice_init_S C_Grid C_Lattice))) (F2 : FnOk P w K mg base CX0 k f fd ps (spI K C (R_Lattice_init_G C_Grid C_Lattice))) : FnOk P w K mg base CX0 k f fd ps (spI K C (R_Lattice C_Grid C_Lattice)) :=
  ⟨fun vs H Q E h => by
    obtain ⟨M, x, dx, ws, ds, fs, a, b, c, d, e, h, z⟩ := h
    exact h.elim (fun h => F1.len vs H Q E ⟨M, x, dx, ws, ds, fs, a, b, c, d, e, h, z⟩) fun h => F2.len vs H Q E ⟨M, x, dx, ws, ds, fs, a, b, c, d, e, h, z⟩, fun A outer s H args us vs Q E hr e0 hb hv h => by
    obtain ⟨M, x, dx, ws, ds, fs, a, b, c, d, e, h, z⟩ := h
    exact h.elim (fun h => F1.run A outer s H args us vs Q E hr e0 hb hv ⟨M, x, dx, ws, ds, fs, a, b, c, d, e, h, z⟩) fun h => F2.run A outer s H args us vs Q E hr e0 hb hv ⟨M, x, dx, ws, ds, fs, a, b, c, d, e, h, z⟩⟩
section
theorem all_mk {l : PySem.W.OpenLaw} {w : World} {K : PySem.W.Frag} {h : Heap} {mg : Str → Option Value} {fa C_Grid C_Lattice f_is_integer f_checked f_determinant f_minor f_content f_dot f_square_rows f_check_symmetric f_dual_basis f_scaled_dual f_rational f_rational_product f_is_in_dual f_law_state f_law_take f_law_rows f_law_gram f_law_form f_law_gcd f_law_lowest f_law_odd f_law_honest f_law f_Grid_len f_Grid_is_square f_Grid_determinant f_Grid_adjugate f_Grid_before f_Lattice_determinant f_Lattice_eq f_Grid_init f_Lattice_init : Addr} (X : K.In h) (G : h.Ns mainGlobals mg) (hfa : mg "law" = some (.ref fa))
    {od_is_integer an_is_integer od_checked an_checked od_determinant an_determinant od_minor an_minor od_content an_content od_dot an_dot od_square_rows an_square_rows od_check_symmetric an_check_symmetric od_dual_basis an_dual_basis od_scaled_dual an_scaled_dual od_rational an_rational od_rational_product an_rational_product od_is_in_dual an_is_in_dual od_law_state an_law_state od_law_take an_law_take od_law_rows an_law_rows od_law_gram an_law_gram od_law_form an_law_form od_law_gcd an_law_gcd od_law_lowest an_law_lowest od_law_odd an_law_odd od_law_honest an_law_honest od_law an_law od_Grid_len an_Grid_len od_Grid_is_square an_Grid_is_square od_Grid_determinant an_Grid_determinant od_Grid_adjugate an_Grid_adjugate od_Grid_before an_Grid_before od_Lattice_determinant an_Lattice_determinant od_Lattice_eq an_Lattice_eq od_Grid_init an_Grid_init od_Lattice_init an_Lattice_init : Option Addr} {sl_is_integer sl_checked sl_determinant sl_minor sl_content sl_dot sl_square_rows sl_check_symmetric sl_dual_basis sl_scaled_dual sl_rational sl_rational_product sl_is_in_dual sl_law_state sl_law_take sl_law_rows sl_law_gram sl_law_form sl_law_gcd sl_law_lowest sl_law_odd sl_law_honest sl_law sl_Grid_len sl_Grid_is_square sl_Grid_determinant sl_Grid_adjugate sl_Grid_before sl_Lattice_determinant sl_Lattice_eq sl_Grid_init sl_Lattice_init : Array (Option Value)} {oc_is_integer kV_is_integer dc_is_integer pm_is_integer cd_is_integer ct_is_integer oc_checked kV_checked dc_checked pm_checked cd_checked ct_checked oc_determinant kV_determinant dc_determinant pm_determinant cd_determinant ct_determinant oc_minor kV_minor dc_minor pm_minor cd_minor ct_minor oc_content kV_content dc_content pm_content cd_content ct_content oc_dot kV_dot dc_dot pm_dot cd_dot ct_dot oc_square_rows kV_square_rows dc_square_rows pm_square_rows cd_square_rows ct_square_rows oc_check_symmetric kV_check_symmetric dc_check_symmetric pm_check_symmetric cd_check_symmetric ct_check_symmetric oc_dual_basis kV_dual_basis dc_dual_basis pm_dual_basis cd_dual_basis ct_dual_basis oc_scaled_dual kV_scaled_dual dc_scaled_dual pm_scaled_dual cd_scaled_dual ct_scaled_dual oc_rational kV_rational dc_rational pm_rational cd_rational ct_rational oc_rational_product kV_rational_product dc_rational_product pm_rational_product cd_rational_product ct_rational_product oc_is_in_dual kV_is_in_dual dc_is_in_dual pm_is_in_dual cd_is_in_dual ct_is_in_dual oc_law_state kV_law_state dc_law_state pm_law_state cd_law_state ct_law_state oc_law_take kV_law_take dc_law_take pm_law_take cd_law_take ct_law_take oc_law_rows kV_law_rows dc_law_rows pm_law_rows cd_law_rows ct_law_rows oc_law_gram kV_law_gram dc_law_gram pm_law_gram cd_law_gram ct_law_gram oc_law_form kV_law_form dc_law_form pm_law_form cd_law_form ct_law_form oc_law_gcd kV_law_gcd dc_law_gcd pm_law_gcd cd_law_gcd ct_law_gcd oc_law_lowest kV_law_lowest dc_law_lowest pm_law_lowest cd_law_lowest ct_law_lowest oc_law_odd kV_law_odd dc_law_odd pm_law_odd cd_law_odd ct_law_odd oc_law_honest kV_law_honest dc_law_honest pm_law_honest cd_law_honest ct_law_honest oc_law kV_law dc_law pm_law cd_law ct_law oc_Grid_len kV_Grid_len dc_Grid_len pm_Grid_len cd_Grid_len ct_Grid_len oc_Grid_is_square kV_Grid_is_square dc_Grid_is_square pm_Grid_is_square cd_Grid_is_square ct_Grid_is_square oc_Grid_determinant kV_Grid_determinant dc_Grid_determinant pm_Grid_determinant cd_Grid_determinant ct_Grid_determinant oc_Grid_adjugate kV_Grid_adjugate dc_Grid_adjugate pm_Grid_adjugate cd_Grid_adjugate ct_Grid_adjugate oc_Grid_before kV_Grid_before dc_Grid_before pm_Grid_before cd_Grid_before ct_Grid_before oc_Lattice_determinant kV_Lattice_determinant dc_Lattice_determinant pm_Lattice_determinant cd_Lattice_determinant ct_Lattice_determinant oc_Lattice_eq kV_Lattice_eq dc_Lattice_eq pm_Lattice_eq cd_Lattice_eq ct_Lattice_eq oc_Grid_init kV_Grid_init dc_Grid_init pm_Grid_init cd_Grid_init ct_Grid_init oc_Lattice_init kV_Lattice_init dc_Lattice_init pm_Lattice_init cd_Lattice_init ct_Lattice_init : Value}
    {TD_Grid_init : Addr} {ocT_Grid_init : Value} {odT_Grid_init : Option Addr} {nT_Grid_init : Nat} {slT_Grid_init : Array (Option Value)}
    {tk_v_MOST_RANK : Tok} {tk_v_MOST_ITEM : Tok} 
    (aC_Grid : PySem.W.nsIn K mainGlobals "Grid" = some (some (.ref C_Grid)))
    (pgC_Grid : PySem.W.plainGet K C_Grid Str.empty = true)
    (hdC_Grid : PySem.W.hasDictIn K C_Grid = true)
    (poC_Grid : PySem.W.plainOver K C_Grid = true)
    (saC_Grid : PySem.W.findIn K (.ref C_Grid) "__setattr__" = some (some (.builtin "object.__setattr__")))
    (haC_Grid : PySem.W.findIn K (.ref C_Grid) "__class__" = some (some (.builtin "object.__class__")))
    (hnC_Grid : PySem.W.specialIn K (.builtin "object.__class__") "__get__" = some (some (.builtin "getset_descriptor.__get__")))
    (htkC_Grid : PySem.W.takesIn K (.builtin "object.__class__") = some true)
    (hmC_Grid : PySem.W.mroIn K C_Grid (.type "object") = some true)
    (sfC_Grid : PySem.W.selfFirst K C_Grid = true)
    (neC_Grid : PySem.W.findIn K (.ref C_Grid) "__ne__" = some (some (.builtin "object.__ne__")))
    (mkC_Grid : PySem.W.makesIn K C_Grid = true)
    (kcC_Grid : PySem.W.keepIn K (.ref C_Grid) = true)
    (noC_Grid_rows : PySem.W.findIn K (.ref C_Grid) "rows" = some none)
    (noC_Grid_width : PySem.W.findIn K (.ref C_Grid) "width" = some none)
    (aC_Lattice : PySem.W.nsIn K mainGlobals "Lattice" = some (some (.ref C_Lattice)))
    (pgC_Lattice : PySem.W.plainGet K C_Lattice Str.empty = true)
    (hdC_Lattice : PySem.W.hasDictIn K C_Lattice = true)
    (poC_Lattice : PySem.W.plainOver K C_Lattice = true)
    (saC_Lattice : PySem.W.findIn K (.ref C_Lattice) "__setattr__" = some (some (.builtin "object.__setattr__")))
    (haC_Lattice : PySem.W.findIn K (.ref C_Lattice) "__class__" = some (some (.builtin "object.__class__")))
    (hnC_Lattice : PySem.W.specialIn K (.builtin "object.__class__") "__get__" = some (some (.builtin "getset_descriptor.__get__")))
    (htkC_Lattice : PySem.W.takesIn K (.builtin "object.__class__") = some true)
    (hmC_Lattice : PySem.W.mroIn K C_Lattice (.type "object") = some true)
    (sfC_Lattice : PySem.W.selfFirst K C_Lattice = true)
    (neC_Lattice : PySem.W.findIn K (.ref C_Lattice) "__ne__" = some (some (.builtin "object.__ne__")))
    (mkC_Lattice : PySem.W.makesIn K C_Lattice = true)
    (kcC_Lattice : PySem.W.keepIn K (.ref C_Lattice) = true)
    (noC_Lattice_gram : PySem.W.findIn K (.ref C_Lattice) "gram" = some none)
    (u_len : PySem.W.nsIn K mainGlobals "len" = some none)
    (u_isinstance : PySem.W.nsIn K mainGlobals "isinstance" = some none)
    (u_int : PySem.W.nsIn K mainGlobals "int" = some none)
    (u_bool : PySem.W.nsIn K mainGlobals "bool" = some none)
    (u_str : PySem.W.nsIn K mainGlobals "str" = some none)
    (u_list : PySem.W.nsIn K mainGlobals "list" = some none)
    (u_tuple : PySem.W.nsIn K mainGlobals "tuple" = some none)
    (u_range : PySem.W.nsIn K mainGlobals "range" = some none)
    (u_zip : PySem.W.nsIn K mainGlobals "zip" = some none)
    (u_enumerate : PySem.W.nsIn K mainGlobals "enumerate" = some none)
    (u_sum : PySem.W.nsIn K mainGlobals "sum" = some none)
    (u_abs : PySem.W.nsIn K mainGlobals "abs" = some none)
    (u_min : PySem.W.nsIn K mainGlobals "min" = some none)
    (u_max : PySem.W.nsIn K mainGlobals "max" = some none)
    (u_all : PySem.W.nsIn K mainGlobals "all" = some none)
    (u_any : PySem.W.nsIn K mainGlobals "any" = some none)
    (u_divmod : PySem.W.nsIn K mainGlobals "divmod" = some none)
    (u_sorted : PySem.W.nsIn K mainGlobals "sorted" = some none)
    (a_is_integer : PySem.W.nsIn K mainGlobals "is_integer" = some (some (.ref f_is_integer)))
    (l_is_integer : K.lookup f_is_integer = some ⟨oc_is_integer, od_is_integer, .func (PySem.W.fnOf "is_integer" "is_integer" (defArgs s_is_integer) (defBody s_is_integer) (defScope s_is_integer) .none kV_is_integer dc_is_integer pm_is_integer an_is_integer cd_is_integer ct_is_integer), sl_is_integer⟩)
    (c_is_integer : PySem.W.codeIn K cd_is_integer "is_integer" = true)
    (k_is_integer : PySem.W.keepIn K (.ref f_is_integer) = true)
    (a_checked : PySem.W.nsIn K mainGlobals "_checked" = some (some (.ref f_checked)))
    (l_checked : K.lookup f_checked = some ⟨oc_checked, od_checked, .func (PySem.W.fnOf "_checked" "_checked" (defArgs s_checked) (defBody s_checked) (defScope s_checked) .none kV_checked dc_checked pm_checked an_checked cd_checked ct_checked), sl_checked⟩)
    (c_checked : PySem.W.codeIn K cd_checked "_checked" = true)
    (k_checked : PySem.W.keepIn K (.ref f_checked) = true)
    (a_determinant : PySem.W.nsIn K mainGlobals "_determinant" = some (some (.ref f_determinant)))
    (l_determinant : K.lookup f_determinant = some ⟨oc_determinant, od_determinant, .func (PySem.W.fnOf "_determinant" "_determinant" (defArgs s_determinant) (defBody s_determinant) (defScope s_determinant) .none kV_determinant dc_determinant pm_determinant an_determinant cd_determinant ct_determinant), sl_determinant⟩)
    (c_determinant : PySem.W.codeIn K cd_determinant "_determinant" = true)
    (k_determinant : PySem.W.keepIn K (.ref f_determinant) = true)
    (a_minor : PySem.W.nsIn K mainGlobals "_minor" = some (some (.ref f_minor)))
    (l_minor : K.lookup f_minor = some ⟨oc_minor, od_minor, .func (PySem.W.fnOf "_minor" "_minor" (defArgs s_minor) (defBody s_minor) (defScope s_minor) .none kV_minor dc_minor pm_minor an_minor cd_minor ct_minor), sl_minor⟩)
    (c_minor : PySem.W.codeIn K cd_minor "_minor" = true)
    (k_minor : PySem.W.keepIn K (.ref f_minor) = true)
    (a_content : PySem.W.nsIn K mainGlobals "content" = some (some (.ref f_content)))
    (l_content : K.lookup f_content = some ⟨oc_content, od_content, .func (PySem.W.fnOf "content" "content" (defArgs s_content) (defBody s_content) (defScope s_content) .none kV_content dc_content pm_content an_content cd_content ct_content), sl_content⟩)
    (c_content : PySem.W.codeIn K cd_content "content" = true)
    (k_content : PySem.W.keepIn K (.ref f_content) = true)
    (a_dot : PySem.W.nsIn K mainGlobals "dot" = some (some (.ref f_dot)))
    (l_dot : K.lookup f_dot = some ⟨oc_dot, od_dot, .func (PySem.W.fnOf "dot" "dot" (defArgs s_dot) (defBody s_dot) (defScope s_dot) .none kV_dot dc_dot pm_dot an_dot cd_dot ct_dot), sl_dot⟩)
    (c_dot : PySem.W.codeIn K cd_dot "dot" = true)
    (k_dot : PySem.W.keepIn K (.ref f_dot) = true)
    (a_square_rows : PySem.W.nsIn K mainGlobals "square_rows" = some (some (.ref f_square_rows)))
    (l_square_rows : K.lookup f_square_rows = some ⟨oc_square_rows, od_square_rows, .func (PySem.W.fnOf "square_rows" "square_rows" (defArgs s_square_rows) (defBody s_square_rows) (defScope s_square_rows) .none kV_square_rows dc_square_rows pm_square_rows an_square_rows cd_square_rows ct_square_rows), sl_square_rows⟩)
    (c_square_rows : PySem.W.codeIn K cd_square_rows "square_rows" = true)
    (k_square_rows : PySem.W.keepIn K (.ref f_square_rows) = true)
    (a_check_symmetric : PySem.W.nsIn K mainGlobals "check_symmetric" = some (some (.ref f_check_symmetric)))
    (l_check_symmetric : K.lookup f_check_symmetric = some ⟨oc_check_symmetric, od_check_symmetric, .func (PySem.W.fnOf "check_symmetric" "check_symmetric" (defArgs s_check_symmetric) (defBody s_check_symmetric) (defScope s_check_symmetric) .none kV_check_symmetric dc_check_symmetric pm_check_symmetric an_check_symmetric cd_check_symmetric ct_check_symmetric), sl_check_symmetric⟩)
    (c_check_symmetric : PySem.W.codeIn K cd_check_symmetric "check_symmetric" = true)
    (k_check_symmetric : PySem.W.keepIn K (.ref f_check_symmetric) = true)
    (a_dual_basis : PySem.W.nsIn K mainGlobals "dual_basis" = some (some (.ref f_dual_basis)))
    (l_dual_basis : K.lookup f_dual_basis = some ⟨oc_dual_basis, od_dual_basis, .func (PySem.W.fnOf "dual_basis" "dual_basis" (defArgs s_dual_basis) (defBody s_dual_basis) (defScope s_dual_basis) .none kV_dual_basis dc_dual_basis pm_dual_basis an_dual_basis cd_dual_basis ct_dual_basis), sl_dual_basis⟩)
    (c_dual_basis : PySem.W.codeIn K cd_dual_basis "dual_basis" = true)
    (k_dual_basis : PySem.W.keepIn K (.ref f_dual_basis) = true)
    (a_scaled_dual : PySem.W.nsIn K mainGlobals "scaled_dual" = some (some (.ref f_scaled_dual)))
    (l_scaled_dual : K.lookup f_scaled_dual = some ⟨oc_scaled_dual, od_scaled_dual, .func (PySem.W.fnOf "scaled_dual" "scaled_dual" (defArgs s_scaled_dual) (defBody s_scaled_dual) (defScope s_scaled_dual) .none kV_scaled_dual dc_scaled_dual pm_scaled_dual an_scaled_dual cd_scaled_dual ct_scaled_dual), sl_scaled_dual⟩)
    (c_scaled_dual : PySem.W.codeIn K cd_scaled_dual "scaled_dual" = true)
    (k_scaled_dual : PySem.W.keepIn K (.ref f_scaled_dual) = true)
    (a_rational : PySem.W.nsIn K mainGlobals "rational" = some (some (.ref f_rational)))
    (l_rational : K.lookup f_rational = some ⟨oc_rational, od_rational, .func (PySem.W.fnOf "rational" "rational" (defArgs s_rational) (defBody s_rational) (defScope s_rational) .none kV_rational dc_rational pm_rational an_rational cd_rational ct_rational), sl_rational⟩)
    (c_rational : PySem.W.codeIn K cd_rational "rational" = true)
    (k_rational : PySem.W.keepIn K (.ref f_rational) = true)
    (a_rational_product : PySem.W.nsIn K mainGlobals "rational_product" = some (some (.ref f_rational_product)))
    (l_rational_product : K.lookup f_rational_product = some ⟨oc_rational_product, od_rational_product, .func (PySem.W.fnOf "rational_product" "rational_product" (defArgs s_rational_product) (defBody s_rational_product) (defScope s_rational_product) .none kV_rational_product dc_rational_product pm_rational_product an_rational_product cd_rational_product ct_rational_product), sl_rational_product⟩)
    (c_rational_product : PySem.W.codeIn K cd_rational_product "rational_product" = true)
    (k_rational_product : PySem.W.keepIn K (.ref f_rational_product) = true)
    (a_is_in_dual : PySem.W.nsIn K mainGlobals "is_in_dual" = some (some (.ref f_is_in_dual)))
    (l_is_in_dual : K.lookup f_is_in_dual = some ⟨oc_is_in_dual, od_is_in_dual, .func (PySem.W.fnOf "is_in_dual" "is_in_dual" (defArgs s_is_in_dual) (defBody s_is_in_dual) (defScope s_is_in_dual) .none kV_is_in_dual dc_is_in_dual pm_is_in_dual an_is_in_dual cd_is_in_dual ct_is_in_dual), sl_is_in_dual⟩)
    (c_is_in_dual : PySem.W.codeIn K cd_is_in_dual "is_in_dual" = true)
    (k_is_in_dual : PySem.W.keepIn K (.ref f_is_in_dual) = true)
    (a_law_state : PySem.W.nsIn K mainGlobals "_law_state" = some (some (.ref f_law_state)))
    (l_law_state : K.lookup f_law_state = some ⟨oc_law_state, od_law_state, .func (PySem.W.fnOf "_law_state" "_law_state" (defArgs s_law_state) (defBody s_law_state) (defScope s_law_state) .none kV_law_state dc_law_state pm_law_state an_law_state cd_law_state ct_law_state), sl_law_state⟩)
    (c_law_state : PySem.W.codeIn K cd_law_state "_law_state" = true)
    (k_law_state : PySem.W.keepIn K (.ref f_law_state) = true)
    (a_law_take : PySem.W.nsIn K mainGlobals "_law_take" = some (some (.ref f_law_take)))
    (l_law_take : K.lookup f_law_take = some ⟨oc_law_take, od_law_take, .func (PySem.W.fnOf "_law_take" "_law_take" (defArgs s_law_take) (defBody s_law_take) (defScope s_law_take) .none kV_law_take dc_law_take pm_law_take an_law_take cd_law_take ct_law_take), sl_law_take⟩)
    (c_law_take : PySem.W.codeIn K cd_law_take "_law_take" = true)
    (k_law_take : PySem.W.keepIn K (.ref f_law_take) = true)
    (a_law_rows : PySem.W.nsIn K mainGlobals "_law_rows" = some (some (.ref f_law_rows)))
    (l_law_rows : K.lookup f_law_rows = some ⟨oc_law_rows, od_law_rows, .func (PySem.W.fnOf "_law_rows" "_law_rows" (defArgs s_law_rows) (defBody s_law_rows) (defScope s_law_rows) .none kV_law_rows dc_law_rows pm_law_rows an_law_rows cd_law_rows ct_law_rows), sl_law_rows⟩)
    (c_law_rows : PySem.W.codeIn K cd_law_rows "_law_rows" = true)
    (k_law_rows : PySem.W.keepIn K (.ref f_law_rows) = true)
    (a_law_gram : PySem.W.nsIn K mainGlobals "_law_gram" = some (some (.ref f_law_gram)))
    (l_law_gram : K.lookup f_law_gram = some ⟨oc_law_gram, od_law_gram, .func (PySem.W.fnOf "_law_gram" "_law_gram" (defArgs s_law_gram) (defBody s_law_gram) (defScope s_law_gram) .none kV_law_gram dc_law_gram pm_law_gram an_law_gram cd_law_gram ct_law_gram), sl_law_gram⟩)
    (c_law_gram : PySem.W.codeIn K cd_law_gram "_law_gram" = true)
    (k_law_gram : PySem.W.keepIn K (.ref f_law_gram) = true)
    (a_law_form : PySem.W.nsIn K mainGlobals "_law_form" = some (some (.ref f_law_form)))
    (l_law_form : K.lookup f_law_form = some ⟨oc_law_form, od_law_form, .func (PySem.W.fnOf "_law_form" "_law_form" (defArgs s_law_form) (defBody s_law_form) (defScope s_law_form) .none kV_law_form dc_law_form pm_law_form an_law_form cd_law_form ct_law_form), sl_law_form⟩)
    (c_law_form : PySem.W.codeIn K cd_law_form "_law_form" = true)
    (k_law_form : PySem.W.keepIn K (.ref f_law_form) = true)
    (a_law_gcd : PySem.W.nsIn K mainGlobals "_law_gcd" = some (some (.ref f_law_gcd)))
    (l_law_gcd : K.lookup f_law_gcd = some ⟨oc_law_gcd, od_law_gcd, .func (PySem.W.fnOf "_law_gcd" "_law_gcd" (defArgs s_law_gcd) (defBody s_law_gcd) (defScope s_law_gcd) .none kV_law_gcd dc_law_gcd pm_law_gcd an_law_gcd cd_law_gcd ct_law_gcd), sl_law_gcd⟩)
    (c_law_gcd : PySem.W.codeIn K cd_law_gcd "_law_gcd" = true)
    (k_law_gcd : PySem.W.keepIn K (.ref f_law_gcd) = true)
    (a_law_lowest : PySem.W.nsIn K mainGlobals "_law_lowest" = some (some (.ref f_law_lowest)))
    (l_law_lowest : K.lookup f_law_lowest = some ⟨oc_law_lowest, od_law_lowest, .func (PySem.W.fnOf "_law_lowest" "_law_lowest" (defArgs s_law_lowest) (defBody s_law_lowest) (defScope s_law_lowest) .none kV_law_lowest dc_law_lowest pm_law_lowest an_law_lowest cd_law_lowest ct_law_lowest), sl_law_lowest⟩)
    (c_law_lowest : PySem.W.codeIn K cd_law_lowest "_law_lowest" = true)
    (k_law_lowest : PySem.W.keepIn K (.ref f_law_lowest) = true)
    (a_law_odd : PySem.W.nsIn K mainGlobals "_law_odd" = some (some (.ref f_law_odd)))
    (l_law_odd : K.lookup f_law_odd = some ⟨oc_law_odd, od_law_odd, .func (PySem.W.fnOf "_law_odd" "_law_odd" (defArgs s_law_odd) (defBody s_law_odd) (defScope s_law_odd) .none kV_law_odd dc_law_odd pm_law_odd an_law_odd cd_law_odd ct_law_odd), sl_law_odd⟩)
    (c_law_odd : PySem.W.codeIn K cd_law_odd "_law_odd" = true)
    (k_law_odd : PySem.W.keepIn K (.ref f_law_odd) = true)
    (a_law_honest : PySem.W.nsIn K mainGlobals "_law_honest" = some (some (.ref f_law_honest)))
    (l_law_honest : K.lookup f_law_honest = some ⟨oc_law_honest, od_law_honest, .func (PySem.W.fnOf "_law_honest" "_law_honest" (defArgs s_law_honest) (defBody s_law_honest) (defScope s_law_honest) .none kV_law_honest dc_law_honest pm_law_honest an_law_honest cd_law_honest ct_law_honest), sl_law_honest⟩)
    (c_law_honest : PySem.W.codeIn K cd_law_honest "_law_honest" = true)
    (k_law_honest : PySem.W.keepIn K (.ref f_law_honest) = true)
    (a_law : PySem.W.nsIn K mainGlobals "law" = some (some (.ref f_law)))
    (l_law : K.lookup f_law = some ⟨oc_law, od_law, .func (PySem.W.fnOf "law" "law" (defArgs s_law) (defBody s_law) (defScope s_law) .none kV_law dc_law pm_law an_law cd_law ct_law), sl_law⟩)
    (c_law : PySem.W.codeIn K cd_law "law" = true)
    (k_law : PySem.W.keepIn K (.ref f_law) = true)
    (a_Grid_len : PySem.W.findIn K (.ref C_Grid) "__len__" = some (some (.ref f_Grid_len)))
    (i_Grid_len : PySem.W.isFn K (.ref f_Grid_len) = true)
    (l_Grid_len : K.lookup f_Grid_len = some ⟨oc_Grid_len, od_Grid_len, .func (PySem.W.fnOf "__len__" "Grid.__len__" (defArgs s_Grid_len) (defBody s_Grid_len) (defScope s_Grid_len) .none kV_Grid_len dc_Grid_len pm_Grid_len an_Grid_len cd_Grid_len ct_Grid_len), sl_Grid_len⟩)
    (c_Grid_len : PySem.W.codeIn K cd_Grid_len "Grid.__len__" = true)
    (k_Grid_len : PySem.W.keepIn K (.ref f_Grid_len) = true)
    (a_Grid_is_square : PySem.W.findIn K (.ref C_Grid) "is_square" = some (some (.ref f_Grid_is_square)))
    (i_Grid_is_square : PySem.W.isFn K (.ref f_Grid_is_square) = true)
    (l_Grid_is_square : K.lookup f_Grid_is_square = some ⟨oc_Grid_is_square, od_Grid_is_square, .func (PySem.W.fnOf "is_square" "Grid.is_square" (defArgs s_Grid_is_square) (defBody s_Grid_is_square) (defScope s_Grid_is_square) .none kV_Grid_is_square dc_Grid_is_square pm_Grid_is_square an_Grid_is_square cd_Grid_is_square ct_Grid_is_square), sl_Grid_is_square⟩)
    (c_Grid_is_square : PySem.W.codeIn K cd_Grid_is_square "Grid.is_square" = true)
    (k_Grid_is_square : PySem.W.keepIn K (.ref f_Grid_is_square) = true)
    (a_Grid_determinant : PySem.W.findIn K (.ref C_Grid) "determinant" = some (some (.ref f_Grid_determinant)))
    (i_Grid_determinant : PySem.W.isFn K (.ref f_Grid_determinant) = true)
    (l_Grid_determinant : K.lookup f_Grid_determinant = some ⟨oc_Grid_determinant, od_Grid_determinant, .func (PySem.W.fnOf "determinant" "Grid.determinant" (defArgs s_Grid_determinant) (defBody s_Grid_determinant) (defScope s_Grid_determinant) .none kV_Grid_determinant dc_Grid_determinant pm_Grid_determinant an_Grid_determinant cd_Grid_determinant ct_Grid_determinant), sl_Grid_determinant⟩)
    (c_Grid_determinant : PySem.W.codeIn K cd_Grid_determinant "Grid.determinant" = true)
    (k_Grid_determinant : PySem.W.keepIn K (.ref f_Grid_determinant) = true)
    (a_Grid_adjugate : PySem.W.findIn K (.ref C_Grid) "adjugate" = some (some (.ref f_Grid_adjugate)))
    (i_Grid_adjugate : PySem.W.isFn K (.ref f_Grid_adjugate) = true)
    (l_Grid_adjugate : K.lookup f_Grid_adjugate = some ⟨oc_Grid_adjugate, od_Grid_adjugate, .func (PySem.W.fnOf "adjugate" "Grid.adjugate" (defArgs s_Grid_adjugate) (defBody s_Grid_adjugate) (defScope s_Grid_adjugate) .none kV_Grid_adjugate dc_Grid_adjugate pm_Grid_adjugate an_Grid_adjugate cd_Grid_adjugate ct_Grid_adjugate), sl_Grid_adjugate⟩)
    (c_Grid_adjugate : PySem.W.codeIn K cd_Grid_adjugate "Grid.adjugate" = true)
    (k_Grid_adjugate : PySem.W.keepIn K (.ref f_Grid_adjugate) = true)
    (a_Grid_before : PySem.W.findIn K (.ref C_Grid) "before" = some (some (.ref f_Grid_before)))
    (i_Grid_before : PySem.W.isFn K (.ref f_Grid_before) = true)
    (l_Grid_before : K.lookup f_Grid_before = some ⟨oc_Grid_before, od_Grid_before, .func (PySem.W.fnOf "before" "Grid.before" (defArgs s_Grid_before) (defBody s_Grid_before) (defScope s_Grid_before) .none kV_Grid_before dc_Grid_before pm_Grid_before an_Grid_before cd_Grid_before ct_Grid_before), sl_Grid_before⟩)
    (c_Grid_before : PySem.W.codeIn K cd_Grid_before "Grid.before" = true)
    (k_Grid_before : PySem.W.keepIn K (.ref f_Grid_before) = true)
    (a_Lattice_determinant : PySem.W.findIn K (.ref C_Lattice) "determinant" = some (some (.ref f_Lattice_determinant)))
    (i_Lattice_determinant : PySem.W.isFn K (.ref f_Lattice_determinant) = true)
    (l_Lattice_determinant : K.lookup f_Lattice_determinant = some ⟨oc_Lattice_determinant, od_Lattice_determinant, .func (PySem.W.fnOf "determinant" "Lattice.determinant" (defArgs s_Lattice_determinant) (defBody s_Lattice_determinant) (defScope s_Lattice_determinant) .none kV_Lattice_determinant dc_Lattice_determinant pm_Lattice_determinant an_Lattice_determinant cd_Lattice_determinant ct_Lattice_determinant), sl_Lattice_determinant⟩)
    (c_Lattice_determinant : PySem.W.codeIn K cd_Lattice_determinant "Lattice.determinant" = true)
    (k_Lattice_determinant : PySem.W.keepIn K (.ref f_Lattice_determinant) = true)
    (a_Lattice_eq : PySem.W.findIn K (.ref C_Lattice) "__eq__" = some (some (.ref f_Lattice_eq)))
    (i_Lattice_eq : PySem.W.isFn K (.ref f_Lattice_eq) = true)
    (l_Lattice_eq : K.lookup f_Lattice_eq = some ⟨oc_Lattice_eq, od_Lattice_eq, .func (PySem.W.fnOf "__eq__" "Lattice.__eq__" (defArgs s_Lattice_eq) (defBody s_Lattice_eq) (defScope s_Lattice_eq) .none kV_Lattice_eq dc_Lattice_eq pm_Lattice_eq an_Lattice_eq cd_Lattice_eq ct_Lattice_eq), sl_Lattice_eq⟩)
    (c_Lattice_eq : PySem.W.codeIn K cd_Lattice_eq "Lattice.__eq__" = true)
    (k_Lattice_eq : PySem.W.keepIn K (.ref f_Lattice_eq) = true)
    (a_Grid_init : PySem.W.findIn K (.ref C_Grid) "__init__" = some (some (.ref f_Grid_init)))
    (i_Grid_init : PySem.W.isFn K (.ref f_Grid_init) = true)
    (l_Grid_init : K.lookup f_Grid_init = some ⟨oc_Grid_init, od_Grid_init, .func (PySem.W.fnOf "__init__" "Grid.__init__" (defArgs s_Grid_init) (defBody s_Grid_init) (defScope s_Grid_init) (.ref TD_Grid_init) kV_Grid_init dc_Grid_init pm_Grid_init an_Grid_init cd_Grid_init ct_Grid_init), sl_Grid_init⟩)
    (c_Grid_init : PySem.W.codeIn K cd_Grid_init "Grid.__init__" = true)
    (k_Grid_init : PySem.W.keepIn K (.ref f_Grid_init) = true)
    (t_Grid_init : K.lookup TD_Grid_init = some ⟨ocT_Grid_init, odT_Grid_init, .seq #[.none] nT_Grid_init, slT_Grid_init⟩)
    (a_Lattice_init : PySem.W.findIn K (.ref C_Lattice) "__init__" = some (some (.ref f_Lattice_init)))
    (i_Lattice_init : PySem.W.isFn K (.ref f_Lattice_init) = true)
    (l_Lattice_init : K.lookup f_Lattice_init = some ⟨oc_Lattice_init, od_Lattice_init, .func (PySem.W.fnOf "__init__" "Lattice.__init__" (defArgs s_Lattice_init) (defBody s_Lattice_init) (defScope s_Lattice_init) .none kV_Lattice_init dc_Lattice_init pm_Lattice_init an_Lattice_init cd_Lattice_init ct_Lattice_init), sl_Lattice_init⟩)
    (c_Lattice_init : PySem.W.codeIn K cd_Lattice_init "Lattice.__init__" = true)
    (k_Lattice_init : PySem.W.keepIn K (.ref f_Lattice_init) = true)
    (z_al_content_whole : PySem.W.nsIn K mainGlobals "content_whole" = some (some (.ref f_content)))
    (ci_C_Grid : PySem.W.isClsIn K C_Grid = true)
    (cy_C_Grid : PySem.W.typeIn K (.ref C_Grid) = some (.type "type"))
    (cs_list_C_Grid : PySem.W.subIn K (.type "list") (.ref C_Grid) = some false)
    (cs_tuple_C_Grid : PySem.W.subIn K (.type "tuple") (.ref C_Grid) = some false)
    (cs_str_C_Grid : PySem.W.subIn K (.type "str") (.ref C_Grid) = some false)
    (cs_int_C_Grid : PySem.W.subIn K (.type "int") (.ref C_Grid) = some false)
    (ci_C_Lattice : PySem.W.isClsIn K C_Lattice = true)
    (cy_C_Lattice : PySem.W.typeIn K (.ref C_Lattice) = some (.type "type"))
    (cn_C_Grid_C_Lattice : (Value.ref C_Grid == Value.ref C_Lattice) = false)
    (cs_C_Grid_C_Lattice : PySem.W.subIn K (.ref C_Grid) (.ref C_Lattice) = some false)
    (cs_C_Grid_tuple : PySem.W.subIn K (.ref C_Grid) (.type "tuple") = some false)
    (cs_C_Grid_list : PySem.W.subIn K (.ref C_Grid) (.type "list") = some false)
    (z_snf_Grid : PySem.W.notFirst K C_Grid (.type "str") = true)
    (cs_list_C_Lattice : PySem.W.subIn K (.type "list") (.ref C_Lattice) = some false)
    (cs_tuple_C_Lattice : PySem.W.subIn K (.type "tuple") (.ref C_Lattice) = some false)
    (cs_str_C_Lattice : PySem.W.subIn K (.type "str") (.ref C_Lattice) = some false)
    (cs_int_C_Lattice : PySem.W.subIn K (.type "int") (.ref C_Lattice) = some false)
    (cn_C_Lattice_C_Grid : (Value.ref C_Lattice == Value.ref C_Grid) = false)
    (cs_C_Lattice_C_Grid : PySem.W.subIn K (.ref C_Lattice) (.ref C_Grid) = some false)
    (cs_C_Lattice_tuple : PySem.W.subIn K (.ref C_Lattice) (.type "tuple") = some false)
    (cs_C_Lattice_list : PySem.W.subIn K (.ref C_Lattice) (.type "list") = some false)
    (z_snf_Lattice : PySem.W.notFirst K C_Lattice (.type "str") = true)
    (z_v_MOST_RANK : PySem.W.nsIn K mainGlobals "MOST_RANK" = some (some (.int 4 tk_v_MOST_RANK)))
    (z_v_MOST_ITEM : PySem.W.nsIn K mainGlobals "MOST_ITEM" = some (some (.int 10000 tk_v_MOST_ITEM)))
    (z_i_gcd : PySem.W.nsIn K mainGlobals "gcd" = some (some (.builtin "math.gcd")))
    (tr : l.prog.given.tree = none)
    : ∃ fd : FuncData, (∀ (s : Shared) (v : Value), BindsTo s fd ⟨[v], []⟩ [("script", v)]) ∧ ∀ base : Heap, K.In base → base.Ns mainGlobals mg → base.NoSeer → FnOk l.prog w K mg base CX0 48 fa fd ["script"] (spD K rLaw) := by
  have e := hfa.symm.trans (PySem.W.mg_of X G a_law)
  cases e
  have F_is_integer := fun_mk (st := s_is_integer) l_is_integer c_is_integer k_is_integer
  have b_is_integer := F_is_integer.binds (ps := ["value"]) fun _ _ _ _ _ _ us hl => match us, hl with | [_], _ => rfl
  have m_is_integer := PySem.W.mg_of X G a_is_integer
  have F_checked := fun_mk (st := s_checked) l_checked c_checked k_checked
  have b_checked := F_checked.binds (ps := ["rows", "width"]) fun _ _ _ _ _ _ us hl => match us, hl with | [_, _], _ => rfl
  have m_checked := PySem.W.mg_of X G a_checked
  have F_determinant := fun_mk (st := s_determinant) l_determinant c_determinant k_determinant
  have b_determinant := F_determinant.binds (ps := ["rows"]) fun _ _ _ _ _ _ us hl => match us, hl with | [_], _ => rfl
  have m_determinant := PySem.W.mg_of X G a_determinant
  have F_minor := fun_mk (st := s_minor) l_minor c_minor k_minor
  have b_minor := F_minor.binds (ps := ["rows", "i", "k"]) fun _ _ _ _ _ _ us hl => match us, hl with | [_, _, _], _ => rfl
  have m_minor := PySem.W.mg_of X G a_minor
  have F_content := fun_mk (st := s_content) l_content c_content k_content
  have b_content := F_content.binds (ps := ["numbers"]) fun _ _ _ _ _ _ us hl => match us, hl with | [_], _ => rfl
  have m_content := PySem.W.mg_of X G a_content
  have F_dot := fun_mk (st := s_dot) l_dot c_dot k_dot
  have b_dot := F_dot.binds (ps := ["a", "b"]) fun _ _ _ _ _ _ us hl => match us, hl with | [_, _], _ => rfl
  have m_dot := PySem.W.mg_of X G a_dot
  have F_square_rows := fun_mk (st := s_square_rows) l_square_rows c_square_rows k_square_rows
  have b_square_rows := F_square_rows.binds (ps := ["gram"]) fun _ _ _ _ _ _ us hl => match us, hl with | [_], _ => rfl
  have m_square_rows := PySem.W.mg_of X G a_square_rows
  have F_check_symmetric := fun_mk (st := s_check_symmetric) l_check_symmetric c_check_symmetric k_check_symmetric
  have b_check_symmetric := F_check_symmetric.binds (ps := ["rows"]) fun _ _ _ _ _ _ us hl => match us, hl with | [_], _ => rfl
  have m_check_symmetric := PySem.W.mg_of X G a_check_symmetric
  have F_dual_basis := fun_mk (st := s_dual_basis) l_dual_basis c_dual_basis k_dual_basis
  have b_dual_basis := F_dual_basis.binds (ps := ["lattice"]) fun _ _ _ _ _ _ us hl => match us, hl with | [_], _ => rfl
  have m_dual_basis := PySem.W.mg_of X G a_dual_basis
  have F_scaled_dual := fun_mk (st := s_scaled_dual) l_scaled_dual c_scaled_dual k_scaled_dual
  have b_scaled_dual := F_scaled_dual.binds (ps := ["lattice"]) fun _ _ _ _ _ _ us hl => match us, hl with | [_], _ => rfl
  have m_scaled_dual := PySem.W.mg_of X G a_scaled_dual
  have F_rational := fun_mk (st := s_rational) l_rational c_rational k_rational
  have b_rational := F_rational.binds (ps := ["row", "e"]) fun _ _ _ _ _ _ us hl => match us, hl with | [_, _], _ => rfl
  have m_rational := PySem.W.mg_of X G a_rational
  have F_rational_product := fun_mk (st := s_rational_product) l_rational_product c_rational_product k_rational_product
  have b_rational_product := F_rational_product.binds (ps := ["lattice", "x", "y"]) fun _ _ _ _ _ _ us hl => match us, hl with | [_, _, _], _ => rfl
  have m_rational_product := PySem.W.mg_of X G a_rational_product
  have F_is_in_dual := fun_mk (st := s_is_in_dual) l_is_in_dual c_is_in_dual k_is_in_dual
  have b_is_in_dual := F_is_in_dual.binds (ps := ["lattice", "vector"]) fun _ _ _ _ _ _ us hl => match us, hl with | [_, _], _ => rfl
  have m_is_in_dual := PySem.W.mg_of X G a_is_in_dual
  have F_law_state := fun_mk (st := s_law_state) l_law_state c_law_state k_law_state
  have b_law_state := F_law_state.binds (ps := ["script"]) fun _ _ _ _ _ _ us hl => match us, hl with | [_], _ => rfl
  have m_law_state := PySem.W.mg_of X G a_law_state
  have F_law_take := fun_mk (st := s_law_take) l_law_take c_law_take k_law_take
  have b_law_take := F_law_take.binds (ps := ["state", "m"]) fun _ _ _ _ _ _ us hl => match us, hl with | [_, _], _ => rfl
  have m_law_take := PySem.W.mg_of X G a_law_take
  have F_law_rows := fun_mk (st := s_law_rows) l_law_rows c_law_rows k_law_rows
  have b_law_rows := F_law_rows.binds (ps := ["state", "height", "width", "most"]) fun _ _ _ _ _ _ us hl => match us, hl with | [_, _, _, _], _ => rfl
  have m_law_rows := PySem.W.mg_of X G a_law_rows
  have F_law_gram := fun_mk (st := s_law_gram) l_law_gram c_law_gram k_law_gram
  have b_law_gram := F_law_gram.binds (ps := ["state", "most"]) fun _ _ _ _ _ _ us hl => match us, hl with | [_, _], _ => rfl
  have m_law_gram := PySem.W.mg_of X G a_law_gram
  have F_law_form := fun_mk (st := s_law_form) l_law_form c_law_form k_law_form
  have b_law_form := F_law_form.binds (ps := ["gram", "x", "y"]) fun _ _ _ _ _ _ us hl => match us, hl with | [_, _, _], _ => rfl
  have m_law_form := PySem.W.mg_of X G a_law_form
  have F_law_gcd := fun_mk (st := s_law_gcd) l_law_gcd c_law_gcd k_law_gcd
  have b_law_gcd := F_law_gcd.binds (ps := ["a", "b"]) fun _ _ _ _ _ _ us hl => match us, hl with | [_, _], _ => rfl
  have m_law_gcd := PySem.W.mg_of X G a_law_gcd
  have F_law_lowest := fun_mk (st := s_law_lowest) l_law_lowest c_law_lowest k_law_lowest
  have b_law_lowest := F_law_lowest.binds (ps := ["row", "e"]) fun _ _ _ _ _ _ us hl => match us, hl with | [_, _], _ => rfl
  have m_law_lowest := PySem.W.mg_of X G a_law_lowest
  have F_law_odd := fun_mk (st := s_law_odd) l_law_odd c_law_odd k_law_odd
  have b_law_odd := F_law_odd.binds (ps := ["value"]) fun _ _ _ _ _ _ us hl => match us, hl with | [_], _ => rfl
  have m_law_odd := PySem.W.mg_of X G a_law_odd
  have F_law_honest := fun_mk (st := s_law_honest) l_law_honest c_law_honest k_law_honest
  have b_law_honest := F_law_honest.binds (ps := ["value"]) fun _ _ _ _ _ _ us hl => match us, hl with | [_], _ => rfl
  have m_law_honest := PySem.W.mg_of X G a_law_honest
  have F_law := fun_mk (st := s_law) l_law c_law k_law
  have m_law := PySem.W.mg_of X G a_law
  have F_Grid_len := fun_mk (st := s_Grid_len) l_Grid_len c_Grid_len k_Grid_len
  have b_Grid_len := F_Grid_len.binds (ps := ["self"]) fun _ _ _ _ _ _ us hl => match us, hl with | [_], _ => rfl
  have F_Grid_is_square := fun_mk (st := s_Grid_is_square) l_Grid_is_square c_Grid_is_square k_Grid_is_square
  have b_Grid_is_square := F_Grid_is_square.binds (ps := ["self"]) fun _ _ _ _ _ _ us hl => match us, hl with | [_], _ => rfl
  have F_Grid_determinant := fun_mk (st := s_Grid_determinant) l_Grid_determinant c_Grid_determinant k_Grid_determinant
  have b_Grid_determinant := F_Grid_determinant.binds (ps := ["self"]) fun _ _ _ _ _ _ us hl => match us, hl with | [_], _ => rfl
  have F_Grid_adjugate := fun_mk (st := s_Grid_adjugate) l_Grid_adjugate c_Grid_adjugate k_Grid_adjugate
  have b_Grid_adjugate := F_Grid_adjugate.binds (ps := ["self"]) fun _ _ _ _ _ _ us hl => match us, hl with | [_], _ => rfl
  have F_Grid_before := fun_mk (st := s_Grid_before) l_Grid_before c_Grid_before k_Grid_before
  have b_Grid_before := F_Grid_before.binds (ps := ["self", "row"]) fun _ _ _ _ _ _ us hl => match us, hl with | [_, _], _ => rfl
  have F_Lattice_determinant := fun_mk (st := s_Lattice_determinant) l_Lattice_determinant c_Lattice_determinant k_Lattice_determinant
  have b_Lattice_determinant := F_Lattice_determinant.binds (ps := ["self"]) fun _ _ _ _ _ _ us hl => match us, hl with | [_], _ => rfl
  have F_Lattice_eq := fun_mk (st := s_Lattice_eq) l_Lattice_eq c_Lattice_eq k_Lattice_eq
  have b_Lattice_eq := F_Lattice_eq.binds (ps := ["self", "other"]) fun _ _ _ _ _ _ us hl => match us, hl with | [_, _], _ => rfl
  have F_Grid_init : FunI K s_Grid_init f_Grid_init _ := ⟨⟨oc_Grid_init, od_Grid_init, .ref TD_Grid_init, kV_Grid_init, dc_Grid_init, pm_Grid_init, an_Grid_init, cd_Grid_init, ct_Grid_init, sl_Grid_init, rfl, l_Grid_init, c_Grid_init, .inr ⟨by simp, TD_Grid_init, _, [.none], nT_Grid_init, rfl, t_Grid_init, rfl, .cons rfl (.nil)⟩, .inl rfl⟩, k_Grid_init⟩
  refine ⟨PySem.W.fnOf "law" "law" (defArgs s_law) (defBody s_law) (defScope s_law) .none kV_law dc_law pm_law an_law cd_law ct_law, fun s v => .of_eq rfl, fun base _ _ sr => ?_⟩
  have clC_Grid : Cls K C_Grid := ⟨pgC_Grid, hdC_Grid, poC_Grid, saC_Grid⟩
  have owC_Grid : OwnC K C_Grid := ⟨clC_Grid, haC_Grid, hnC_Grid, htkC_Grid, hmC_Grid⟩
  have cgC_Grid : ClsG K C_Grid := ⟨owC_Grid, sfC_Grid, neC_Grid⟩
  have mgC_Grid := PySem.W.mg_of X G aC_Grid
  have clC_Lattice : Cls K C_Lattice := ⟨pgC_Lattice, hdC_Lattice, poC_Lattice, saC_Lattice⟩
  have owC_Lattice : OwnC K C_Lattice := ⟨clC_Lattice, haC_Lattice, hnC_Lattice, htkC_Lattice, hmC_Lattice⟩
  have cgC_Lattice : ClsG K C_Lattice := ⟨owC_Lattice, sfC_Lattice, neC_Lattice⟩
  have mgC_Lattice := PySem.W.mg_of X G aC_Lattice
  have v_len := PySem.W.mg_none_of X G u_len
  have v_isinstance := PySem.W.mg_none_of X G u_isinstance
  have v_int := PySem.W.mg_none_of X G u_int
  have v_bool := PySem.W.mg_none_of X G u_bool
  have v_str := PySem.W.mg_none_of X G u_str
  have v_list := PySem.W.mg_none_of X G u_list
  have v_tuple := PySem.W.mg_none_of X G u_tuple
  have v_range := PySem.W.mg_none_of X G u_range
  have v_zip := PySem.W.mg_none_of X G u_zip
  have v_enumerate := PySem.W.mg_none_of X G u_enumerate
  have v_sum := PySem.W.mg_none_of X G u_sum
  have v_abs := PySem.W.mg_none_of X G u_abs
  have v_min := PySem.W.mg_none_of X G u_min
  have v_max := PySem.W.mg_none_of X G u_max
  have v_all := PySem.W.mg_none_of X G u_all
  have v_any := PySem.W.mg_none_of X G u_any
  have v_divmod := PySem.W.mg_none_of X G u_divmod
  have v_sorted := PySem.W.mg_none_of X G u_sorted
  have F_Lattice_init : FunD K "__init__" "Lattice.__init__" (defArgs s_Lattice_init) (defBody s_Lattice_init) (defScope s_Lattice_init) [] [] f_Lattice_init _ := ⟨⟨oc_Lattice_init, od_Lattice_init, .none, kV_Lattice_init, dc_Lattice_init, pm_Lattice_init, an_Lattice_init, cd_Lattice_init, ct_Lattice_init, sl_Lattice_init, rfl, l_Lattice_init, c_Lattice_init, .inl ⟨rfl, rfl⟩, .inl rfl⟩, k_Lattice_init⟩
  have bLi := F_Lattice_init.bindsN (ps := ["self", "gram"]) fun _ _ _ _ _ _ us hl => match us, hl with | [_, _], _ => rfl
  have T : G41.Txt l.prog K mg base C_Grid C_Lattice := ⟨v_len, v_isinstance, v_int, v_bool, v_str, v_list, v_tuple, v_range, v_zip, v_enumerate, v_sum, v_abs, v_min, v_max, v_all, v_any, v_divmod, v_sorted, sr, tr, cgC_Grid, mgC_Grid, clC_Grid, noC_Grid_rows, noC_Grid_width, (kitR vty ci_C_Grid cy_C_Grid cs_list_C_Grid), (kitR vty ci_C_Grid cy_C_Grid cs_tuple_C_Grid), (kitR vty ci_C_Grid cy_C_Grid cs_str_C_Grid), (kitR vty ci_C_Grid cy_C_Grid cs_int_C_Grid), (kitR cn_C_Grid_C_Lattice ci_C_Lattice cy_C_Lattice cs_C_Grid_C_Lattice), (kitA2 (kitT (by decide +kernel) cs_C_Grid_tuple) (kitT (by decide +kernel) cs_C_Grid_list)), z_snf_Grid, (kitT (by decide +kernel) cs_C_Grid_list), (kitT (by decide +kernel) cs_C_Grid_tuple), cgC_Lattice, mgC_Lattice, clC_Lattice, noC_Lattice_gram, (kitR vty ci_C_Lattice cy_C_Lattice cs_list_C_Lattice), (kitR vty ci_C_Lattice cy_C_Lattice cs_tuple_C_Lattice), (kitR vty ci_C_Lattice cy_C_Lattice cs_str_C_Lattice), (kitR vty ci_C_Lattice cy_C_Lattice cs_int_C_Lattice), (kitR cn_C_Lattice_C_Grid ci_C_Grid cy_C_Grid cs_C_Lattice_C_Grid), (kitA2 (kitT (by decide +kernel) cs_C_Lattice_tuple) (kitT (by decide +kernel) cs_C_Lattice_list)), z_snf_Lattice, (kitT (by decide +kernel) cs_C_Lattice_list), (kitT (by decide +kernel) cs_C_Lattice_tuple), ⟨_, PySem.W.mg_of X G z_v_MOST_RANK, ⟨tk_v_MOST_RANK, rfl⟩⟩, ⟨_, PySem.W.mg_of X G z_v_MOST_ITEM, ⟨tk_v_MOST_ITEM, rfl⟩⟩, (PySem.W.mg_of X G z_i_gcd)⟩
  have TG : G41g.Txt l.prog K mg base C_Grid := ⟨v_len, v_isinstance, v_int, v_bool, v_list, v_tuple, v_range, v_zip, v_enumerate, v_sum, v_abs, v_min, sr, tr, cgC_Grid, mgC_Grid, clC_Grid, noC_Grid_rows, noC_Grid_width⟩
  obtain ⟨ds3, rd3, bI3⟩ := F_Grid_init.binds1 (ps := ["self", "rows", "width"]) 3 1 (by simp) (by simp) fun _ _ _ _ _ _ _ us its hl hi => match us, its, hl, hi with | [_, _, _], [_], _, _ => ⟨_, rfl, rfl⟩
  obtain ⟨ds2, rd2, bI2⟩ := F_Grid_init.binds1 (ps := ["self", "rows", "width"]) 2 0 (by simp) (by simp) fun _ _ _ _ _ _ _ us its hl hi => match us, its, hl, hi with | [_, _], [_], _, _ => ⟨_, rfl, rfl⟩
  have g_G41g_ok_is_integer : CalG l.prog w K mg base _ _ _ [] := ⟨_, _, _, [], G41g.ok_is_integer F_is_integer TG, m_is_integer, k_is_integer, b_is_integer, .nil⟩
  have g_G41g_ok_checked : CalG l.prog w K mg base _ _ _ [] := ⟨_, _, _, [], G41g.ok_checked F_checked TG g_G41g_ok_is_integer, m_checked, k_checked, b_checked, .nil⟩
  have g_G41g_ok_determinant : CalG l.prog w K mg base _ _ _ [] := ⟨_, _, _, [], G41g.ok_determinant F_determinant TG, m_determinant, k_determinant, b_determinant, .nil⟩
  have g_G41g_ok_minor : CalG l.prog w K mg base _ _ _ [] := ⟨_, _, _, [], G41g.ok_minor F_minor TG, m_minor, k_minor, b_minor, .nil⟩
  have okI := G41g.ok_init F_Grid_init TG g_G41g_ok_checked
  have mk3 : MakG l.prog w K mg base 6 "Grid" C_Grid (spI K C_Grid rInit) [] := ⟨_, _, _, ds3, ⟨mkC_Grid, a_Grid_init, i_Grid_init, kcC_Grid⟩, okI, mgC_Grid, bI3, rd3⟩
  have mk2 : MakG l.prog w K mg base 6 "Grid" C_Grid (spI K C_Grid rInit) [.non] := ⟨_, _, _, ds2, ⟨mkC_Grid, a_Grid_init, i_Grid_init, kcC_Grid⟩, okI, mgC_Grid, bI2, rd2⟩
  have g_G41g_ok_len : MetG l.prog w K mg base _ C_Grid _ _ := ⟨_, _, _, clC_Grid, ⟨a_Grid_len, i_Grid_len, k_Grid_len⟩, G41g.ok_len F_Grid_len TG, b_Grid_len⟩
  have g_G41g_ok_issq : MetG l.prog w K mg base _ C_Grid _ _ := ⟨_, _, _, clC_Grid, ⟨a_Grid_is_square, i_Grid_is_square, k_Grid_is_square⟩, G41g.ok_issq F_Grid_is_square TG, b_Grid_is_square⟩
  have g_G41g_ok_detG : MetG l.prog w K mg base _ C_Grid _ _ := ⟨_, _, _, clC_Grid, ⟨a_Grid_determinant, i_Grid_determinant, k_Grid_determinant⟩, G41g.ok_detG F_Grid_determinant TG g_G41g_ok_issq g_G41g_ok_determinant, b_Grid_determinant⟩
  have g_G41g_ok_adj : MetG l.prog w K mg base _ C_Grid _ _ := ⟨_, _, _, clC_Grid, ⟨a_Grid_adjugate, i_Grid_adjugate, k_Grid_adjugate⟩, G41g.ok_adj F_Grid_adjugate TG g_G41g_ok_issq g_G41g_ok_determinant g_G41g_ok_minor mk3, b_Grid_adjugate⟩
  have g_ok_is_integer : CalG l.prog w K mg base _ _ _ [] := ⟨_, _, _, [], ok_is_integer F_is_integer T, m_is_integer, k_is_integer, b_is_integer, .nil⟩
  have g_ok_content : CalG l.prog w K mg base _ _ _ [] := ⟨_, _, _, [], ok_content F_content T, m_content, k_content, b_content, .nil⟩
  have g_ok_content_as_content_whole : CalG l.prog w K mg base _ _ _ [] := ⟨_, _, _, [], ok_content F_content T, PySem.W.mg_of X G z_al_content_whole, k_content, b_content, .nil⟩
  have g_ok_dot : CalG l.prog w K mg base _ _ _ [] := ⟨_, _, _, [], ok_dot F_dot T, m_dot, k_dot, b_dot, .nil⟩
  have g_ok_Grid_before : MetG l.prog w K mg base _ C_Grid _ _ := ⟨_, _, _, clC_Grid, ⟨a_Grid_before, i_Grid_before, k_Grid_before⟩, ok_Grid_before F_Grid_before T g_ok_dot, b_Grid_before⟩
  have g_ok_square_rows_S : CalG l.prog w K mg base _ _ _ [] := ⟨_, _, _, [], ok_square_rows_S F_square_rows T g_ok_is_integer, m_square_rows, k_square_rows, b_square_rows, .nil⟩
  have g_ok_square_rows_G : CalG l.prog w K mg base _ _ _ [] := ⟨_, _, _, [], ok_square_rows_G F_square_rows T g_ok_is_integer, m_square_rows, k_square_rows, b_square_rows, .nil⟩
  have g_ok_check_symmetric : CalG l.prog w K mg base _ _ _ [] := ⟨_, _, _, [], ok_check_symmetric F_check_symmetric T, m_check_symmetric, k_check_symmetric, b_check_symmetric, .nil⟩
  have okL_S := ok_Lattice_init_S F_Lattice_init T g_ok_square_rows_S g_ok_check_symmetric g_G41g_ok_detG mk3 mk2
  have okL_G := ok_Lattice_init_G F_Lattice_init T g_ok_square_rows_G g_ok_check_symmetric g_G41g_ok_detG mk3 mk2
  have kL : MakG l.prog w K mg base 45 "Lattice" C_Lattice (spI K C_Lattice (R_Lattice C_Grid C_Lattice)) [] := ⟨_, _, _, [], ⟨mkC_Lattice, a_Lattice_init, i_Lattice_init, kcC_Lattice⟩, fn_or okL_S okL_G, mgC_Lattice, bLi, .nil⟩
  have g_ok_Lattice_determinant : MetG l.prog w K mg base _ C_Lattice _ _ := ⟨_, _, _, clC_Lattice, ⟨a_Lattice_determinant, i_Lattice_determinant, k_Lattice_determinant⟩, ok_Lattice_determinant F_Lattice_determinant T g_G41g_ok_detG, b_Lattice_determinant⟩
  have g_ok_dual_basis : CalG l.prog w K mg base _ _ _ [] := ⟨_, _, _, [], ok_dual_basis F_dual_basis T g_G41g_ok_adj g_G41g_ok_detG, m_dual_basis, k_dual_basis, b_dual_basis, .nil⟩
  have g_ok_scaled_dual : CalG l.prog w K mg base _ _ _ [] := ⟨_, _, _, [], ok_scaled_dual F_scaled_dual T g_G41g_ok_adj g_ok_content_as_content_whole kL mk3, m_scaled_dual, k_scaled_dual, b_scaled_dual, .nil⟩
  have g_ok_rational : CalG l.prog w K mg base _ _ _ [] := ⟨_, _, _, [], ok_rational F_rational T g_ok_content_as_content_whole, m_rational, k_rational, b_rational, .nil⟩
  have g_ok_rational_product : CalG l.prog w K mg base _ _ _ [] := ⟨_, _, _, [], ok_rational_product F_rational_product T g_ok_dot g_ok_Grid_before, m_rational_product, k_rational_product, b_rational_product, .nil⟩
  have g_ok_is_in_dual : CalG l.prog w K mg base _ _ _ [] := ⟨_, _, _, [], ok_is_in_dual F_is_in_dual T g_ok_Grid_before, m_is_in_dual, k_is_in_dual, b_is_in_dual, .nil⟩
  have g_ok_law_state : CalG l.prog w K mg base _ _ _ [] := ⟨_, _, _, [], ok_law_state F_law_state T, m_law_state, k_law_state, b_law_state, .nil⟩
  have g_ok_law_take : CalG l.prog w K mg base _ _ _ [] := ⟨_, _, _, [], ok_law_take F_law_take T, m_law_take, k_law_take, b_law_take, .nil⟩
  have g_ok_law_rows : CalG l.prog w K mg base _ _ _ [] := ⟨_, _, _, [], ok_law_rows F_law_rows T g_ok_law_take, m_law_rows, k_law_rows, b_law_rows, .nil⟩
  have g_ok_law_gram : CalG l.prog w K mg base _ _ _ [] := ⟨_, _, _, [], ok_law_gram F_law_gram T g_ok_law_take g_ok_law_rows, m_law_gram, k_law_gram, b_law_gram, .nil⟩
  have g_ok_law_form : CalG l.prog w K mg base _ _ _ [] := ⟨_, _, _, [], ok_law_form F_law_form T, m_law_form, k_law_form, b_law_form, .nil⟩
  have g_ok_law_gcd : CalG l.prog w K mg base _ _ _ [] := ⟨_, _, _, [], ok_law_gcd F_law_gcd T, m_law_gcd, k_law_gcd, b_law_gcd, .nil⟩
  have g_ok_law_lowest : CalG l.prog w K mg base _ _ _ [] := ⟨_, _, _, [], ok_law_lowest F_law_lowest T g_ok_law_gcd, m_law_lowest, k_law_lowest, b_law_lowest, .nil⟩
  have g_ok_Lattice_eq_s : MetG l.prog w K mg base _ C_Lattice _ _ := ⟨_, _, _, clC_Lattice, ⟨a_Lattice_eq, i_Lattice_eq, k_Lattice_eq⟩, (ok_Lattice_eq_s F_Lattice_eq T).mono (by decide : _ ≤ 3), b_Lattice_eq⟩
  have g_odd : CalG l.prog w K mg base 14 "_law_odd" (spD K fun ds r => ∃ n, n ≤ 10 ∧ R_odd C_Grid C_Lattice n ds r) [] := ⟨_, _, _, [], rec_all (l0 := 4) (m := 10) (R := R_odd C_Grid C_Lattice) (fun n ds r h => by obtain ⟨m, d, _, _, rfl, _⟩ := h; rfl) (fun ds r h => by obtain ⟨m, d, h, _⟩ := h; omega) fun n k hk ih => ok_odd hk F_law_odd T g_ok_Lattice_eq_s ⟨_, _, _, [], ih, m_law_odd, k_law_odd, b_law_odd, .nil⟩, m_law_odd, k_law_odd, b_law_odd, .nil⟩
  have g_ok_honest : CalG l.prog w K mg base _ _ _ [] := ⟨_, _, _, [], ok_honest F_law_honest g_odd T, m_law_honest, k_law_honest, b_law_honest, .nil⟩
  exact (ok_law F_law T g_ok_law_state g_ok_law_gram kL g_ok_dual_basis g_G41g_ok_len g_ok_Lattice_determinant g_ok_law_form g_ok_law_take g_ok_Grid_before g_ok_is_in_dual g_ok_honest g_ok_rational g_ok_law_lowest g_ok_rational_product g_ok_law_gcd g_ok_scaled_dual).imp law_imp
end
end G41
namespace G41
open PySem PySem.Spec PyProof.Rows L2 Evl G
theorem rp_ints {K : PySem.W.Frag} {H : Hp} : ∀ ns : List Int, RpAll K H (ns.map V.int) (ns.map DV.int)
  | [] => .nil
  | _ :: ns => .cons (.int _) (rp_ints ns)
theorem law_end (K : PySem.W.Frag) (H : Hp) (a : Addr) (ns : List Int) (hl : ns.length ≤ 63) (hS : SqL K H a (ns.map V.int)) : spD K rLaw [.ref a] H (fun v _ => v = .bl true) fun _ _ _ => False :=
  ⟨[], [.lst (ns.map .int)], .bl true, fun _ h => by (cases h), .cons (.lst (by rw [hid_nil]; exact hS) (rp_ints ns)) .nil, ⟨ns, rfl, hl, rfl⟩, fun v H2 _ r => by (cases r; rfl)⟩
end G41
open PySem PySem.W PyProof.Rows
set_option maxRecDepth 100000 in
set_option maxHeartbeats 0 in
theorem PySem.Challenge.cw_gridroads_k41_duals_holds : PySem.Challenge.rw_gridroads_k41_duals.Holds := by
  w_on; o_law; k_head; (case hw => w_witness2)
  k_fill
  refine G.walkN (l := PySem.Challenge.rw_gridroads_k41_duals) (n := 63) (k := 48) (x := "script") (CX := L2.CX0) (sp := fun K => G.spD K G.rLaw) rfl (by decide) rfl ⟨rfl, by decide, by decide⟩ (by first | rfl | decide +kernel) (fun w h Y => PySem.W.kIn_of Y) ?F (fun K H a ns hl _ hS => G41.law_end K H a ns hl hS) fun _ _ _ _ z => z
  case F =>
    intro w mg fa h KX G hmg
    refine' G41.all_mk KX G hmg ?aC_Grid ?pgC_Grid ?hdC_Grid ?poC_Grid ?saC_Grid ?haC_Grid ?hnC_Grid ?htkC_Grid ?hmC_Grid ?sfC_Grid ?neC_Grid ?mkC_Grid ?kcC_Grid ?noC_Grid_rows ?noC_Grid_width ?aC_Lattice ?pgC_Lattice ?hdC_Lattice ?poC_Lattice ?saC_Lattice ?haC_Lattice ?hnC_Lattice ?htkC_Lattice ?hmC_Lattice ?sfC_Lattice ?neC_Lattice ?mkC_Lattice ?kcC_Lattice ?noC_Lattice_gram ?u_len ?u_isinstance ?u_int ?u_bool ?u_str ?u_list ?u_tuple ?u_range ?u_zip ?u_enumerate ?u_sum ?u_abs ?u_min ?u_max ?u_all ?u_any ?u_divmod ?u_sorted ?a_is_integer ?l_is_integer ?c_is_integer ?k_is_integer ?a_checked ?l_checked ?c_checked ?k_checked ?a_determinant ?l_determinant ?c_determinant ?k_determinant ?a_minor ?l_minor ?c_minor ?k_minor ?a_content ?l_content ?c_content ?k_content ?a_dot ?l_dot ?c_dot ?k_dot ?a_square_rows ?l_square_rows ?c_square_rows ?k_square_rows ?a_check_symmetric ?l_check_symmetric ?c_check_symmetric ?k_check_symmetric ?a_dual_basis ?l_dual_basis ?c_dual_basis ?k_dual_basis ?a_scaled_dual ?l_scaled_dual ?c_scaled_dual ?k_scaled_dual ?a_rational ?l_rational ?c_rational ?k_rational ?a_rational_product ?l_rational_product ?c_rational_product ?k_rational_product ?a_is_in_dual ?l_is_in_dual ?c_is_in_dual ?k_is_in_dual ?a_law_state ?l_law_state ?c_law_state ?k_law_state ?a_law_take ?l_law_take ?c_law_take ?k_law_take ?a_law_rows ?l_law_rows ?c_law_rows ?k_law_rows ?a_law_gram ?l_law_gram ?c_law_gram ?k_law_gram ?a_law_form ?l_law_form ?c_law_form ?k_law_form ?a_law_gcd ?l_law_gcd ?c_law_gcd ?k_law_gcd ?a_law_lowest ?l_law_lowest ?c_law_lowest ?k_law_lowest ?a_law_odd ?l_law_odd ?c_law_odd ?k_law_odd ?a_law_honest ?l_law_honest ?c_law_honest ?k_law_honest ?a_law ?l_law ?c_law ?k_law ?a_Grid_len ?i_Grid_len ?l_Grid_len ?c_Grid_len ?k_Grid_len ?a_Grid_is_square ?i_Grid_is_square ?l_Grid_is_square ?c_Grid_is_square ?k_Grid_is_square ?a_Grid_determinant ?i_Grid_determinant ?l_Grid_determinant ?c_Grid_determinant ?k_Grid_determinant ?a_Grid_adjugate ?i_Grid_adjugate ?l_Grid_adjugate ?c_Grid_adjugate ?k_Grid_adjugate ?a_Grid_before ?i_Grid_before ?l_Grid_before ?c_Grid_before ?k_Grid_before ?a_Lattice_determinant ?i_Lattice_determinant ?l_Lattice_determinant ?c_Lattice_determinant ?k_Lattice_determinant ?a_Lattice_eq ?i_Lattice_eq ?l_Lattice_eq ?c_Lattice_eq ?k_Lattice_eq ?a_Grid_init ?i_Grid_init ?l_Grid_init ?c_Grid_init ?k_Grid_init ?t_Grid_init ?a_Lattice_init ?i_Lattice_init ?l_Lattice_init ?c_Lattice_init ?k_Lattice_init ?z_al_content_whole ?ci_C_Grid ?cy_C_Grid ?cs_list_C_Grid ?cs_tuple_C_Grid ?cs_str_C_Grid ?cs_int_C_Grid ?ci_C_Lattice ?cy_C_Lattice ?cn_C_Grid_C_Lattice ?cs_C_Grid_C_Lattice ?cs_C_Grid_tuple ?cs_C_Grid_list ?z_snf_Grid ?cs_list_C_Lattice ?cs_tuple_C_Lattice ?cs_str_C_Lattice ?cs_int_C_Lattice ?cn_C_Lattice_C_Grid ?cs_C_Lattice_C_Grid ?cs_C_Lattice_tuple ?cs_C_Lattice_list ?z_snf_Lattice ?z_v_MOST_RANK ?z_v_MOST_ITEM ?z_i_gcd ?tr
    (case aC_Grid => k_is)
    (case pgC_Grid => k_is)
    (case hdC_Grid => k_is)
    (case poC_Grid => k_is)
    (case saC_Grid => k_is)
    (case haC_Grid => k_is)
    (case hnC_Grid => k_is)
    (case htkC_Grid => k_is)
    (case hmC_Grid => k_is)
    (case sfC_Grid => k_is)
    (case neC_Grid => k_is)
    (case mkC_Grid => k_is)
    (case kcC_Grid => k_is)
    (case noC_Grid_rows => k_is)
    (case noC_Grid_width => k_is)
    (case aC_Lattice => k_is)
    (case pgC_Lattice => k_is)
    (case hdC_Lattice => k_is)
    (case poC_Lattice => k_is)
    (case saC_Lattice => k_is)
    (case haC_Lattice => k_is)
    (case hnC_Lattice => k_is)
    (case htkC_Lattice => k_is)
    (case hmC_Lattice => k_is)
    (case sfC_Lattice => k_is)
    (case neC_Lattice => k_is)
    (case mkC_Lattice => k_is)
    (case kcC_Lattice => k_is)
    (case noC_Lattice_gram => k_is)
    (case u_len => k_is)
    (case u_isinstance => k_is)
    (case u_int => k_is)
    (case u_bool => k_is)
    (case u_str => k_is)
    (case u_list => k_is)
    (case u_tuple => k_is)
    (case u_range => k_is)
    (case u_zip => k_is)
    (case u_enumerate => k_is)
    (case u_sum => k_is)
    (case u_abs => k_is)
    (case u_min => k_is)
    (case u_max => k_is)
    (case u_all => k_is)
    (case u_any => k_is)
    (case u_divmod => k_is)
    (case u_sorted => k_is)
    (case a_is_integer => k_is)
    (case l_is_integer => k_is)
    (case c_is_integer => k_is)
    (case k_is_integer => k_is)
    (case a_checked => k_is)
    (case l_checked => k_is)
    (case c_checked => k_is)
    (case k_checked => k_is)
    (case a_determinant => k_is)
    (case l_determinant => k_is)
    (case c_determinant => k_is)
    (case k_determinant => k_is)
    (case a_minor => k_is)
    (case l_minor => k_is)
    (case c_minor => k_is)
    (case k_minor => k_is)
    (case a_content => k_is)
    (case l_content => k_is)
    (case c_content => k_is)
    (case k_content => k_is)
    (case a_dot => k_is)
    (case l_dot => k_is)
    (case c_dot => k_is)
    (case k_dot => k_is)
    (case a_square_rows => k_is)
    (case l_square_rows => k_is)
    (case c_square_rows => k_is)
    (case k_square_rows => k_is)
    (case a_check_symmetric => k_is)
    (case l_check_symmetric => k_is)
    (case c_check_symmetric => k_is)
    (case k_check_symmetric => k_is)
    (case a_dual_basis => k_is)
    (case l_dual_basis => k_is)
    (case c_dual_basis => k_is)
    (case k_dual_basis => k_is)
    (case a_scaled_dual => k_is)
    (case l_scaled_dual => k_is)
    (case c_scaled_dual => k_is)
    (case k_scaled_dual => k_is)
    (case a_rational => k_is)
    (case l_rational => k_is)
    (case c_rational => k_is)
    (case k_rational => k_is)
    (case a_rational_product => k_is)
    (case l_rational_product => k_is)
    (case c_rational_product => k_is)
    (case k_rational_product => k_is)
    (case a_is_in_dual => k_is)
    (case l_is_in_dual => k_is)
    (case c_is_in_dual => k_is)
    (case k_is_in_dual => k_is)
    (case a_law_state => k_is)
    (case l_law_state => k_is)
    (case c_law_state => k_is)
    (case k_law_state => k_is)
    (case a_law_take => k_is)
    (case l_law_take => k_is)
    (case c_law_take => k_is)
    (case k_law_take => k_is)
    (case a_law_rows => k_is)
    (case l_law_rows => k_is)
    (case c_law_rows => k_is)
    (case k_law_rows => k_is)
    (case a_law_gram => k_is)
    (case l_law_gram => k_is)
    (case c_law_gram => k_is)
    (case k_law_gram => k_is)
    (case a_law_form => k_is)
    (case l_law_form => k_is)
    (case c_law_form => k_is)
    (case k_law_form => k_is)
    (case a_law_gcd => k_is)
    (case l_law_gcd => k_is)
    (case c_law_gcd => k_is)
    (case k_law_gcd => k_is)
    (case a_law_lowest => k_is)
    (case l_law_lowest => k_is)
    (case c_law_lowest => k_is)
    (case k_law_lowest => k_is)
    (case a_law_odd => k_is)
    (case l_law_odd => k_is)
    (case c_law_odd => k_is)
    (case k_law_odd => k_is)
    (case a_law_honest => k_is)
    (case l_law_honest => k_is)
    (case c_law_honest => k_is)
    (case k_law_honest => k_is)
    (case a_law => k_is)
    (case l_law => k_is)
    (case c_law => k_is)
    (case k_law => k_is)
    (case a_Grid_len => k_is)
    (case i_Grid_len => k_is)
    (case l_Grid_len => k_is)
    (case c_Grid_len => k_is)
    (case k_Grid_len => k_is)
    (case a_Grid_is_square => k_is)
    (case i_Grid_is_square => k_is)
    (case l_Grid_is_square => k_is)
    (case c_Grid_is_square => k_is)
    (case k_Grid_is_square => k_is)
    (case a_Grid_determinant => k_is)
    (case i_Grid_determinant => k_is)
    (case l_Grid_determinant => k_is)
    (case c_Grid_determinant => k_is)
    (case k_Grid_determinant => k_is)
    (case a_Grid_adjugate => k_is)
    (case i_Grid_adjugate => k_is)
    (case l_Grid_adjugate => k_is)
    (case c_Grid_adjugate => k_is)
    (case k_Grid_adjugate => k_is)
    (case a_Grid_before => k_is)
    (case i_Grid_before => k_is)
    (case l_Grid_before => k_is)
    (case c_Grid_before => k_is)
    (case k_Grid_before => k_is)
    (case a_Lattice_determinant => k_is)
    (case i_Lattice_determinant => k_is)
    (case l_Lattice_determinant => k_is)
    (case c_Lattice_determinant => k_is)
    (case k_Lattice_determinant => k_is)
    (case a_Lattice_eq => k_is)
    (case i_Lattice_eq => k_is)
    (case l_Lattice_eq => k_is)
    (case c_Lattice_eq => k_is)
    (case k_Lattice_eq => k_is)
    (case a_Grid_init => k_is)
    (case i_Grid_init => k_is)
    (case l_Grid_init => k_is)
    (case c_Grid_init => k_is)
    (case k_Grid_init => k_is)
    (case t_Grid_init => k_is)
    (case a_Lattice_init => k_is)
    (case i_Lattice_init => k_is)
    (case l_Lattice_init => k_is)
    (case c_Lattice_init => k_is)
    (case k_Lattice_init => k_is)
    (case z_al_content_whole => k_is)
    (case ci_C_Grid => k_is)
    (case cy_C_Grid => k_is)
    (case cs_list_C_Grid => k_is)
    (case cs_tuple_C_Grid => k_is)
    (case cs_str_C_Grid => k_is)
    (case cs_int_C_Grid => k_is)
    (case ci_C_Lattice => k_is)
    (case cy_C_Lattice => k_is)
    (case cn_C_Grid_C_Lattice => first | rfl | decide +kernel)
    (case cs_C_Grid_C_Lattice => k_is)
    (case cs_C_Grid_tuple => k_is)
    (case cs_C_Grid_list => k_is)
    (case z_snf_Grid => k_is)
    (case cs_list_C_Lattice => k_is)
    (case cs_tuple_C_Lattice => k_is)
    (case cs_str_C_Lattice => k_is)
    (case cs_int_C_Lattice => k_is)
    (case cn_C_Lattice_C_Grid => first | rfl | decide +kernel)
    (case cs_C_Lattice_C_Grid => k_is)
    (case cs_C_Lattice_tuple => k_is)
    (case cs_C_Lattice_list => k_is)
    (case z_snf_Lattice => k_is)
    (case z_v_MOST_RANK => k_is)
    (case z_v_MOST_ITEM => k_is)
    (case z_i_gcd => k_is)
    (case tr => first | rfl | decide +kernel)
