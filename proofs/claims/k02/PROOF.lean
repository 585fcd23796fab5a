import PyProof.Rows.All
import Wide.All
import OpenK.AllK
import Wide.FinOn
import HandS.ForMost
import HandS.ForExc
import HandS.Evl
import HandS.IsInst
import HandS.Walk
import HandS.Zip
import HandS.TupAny
import HandS.Style
import HandS.Wide
import HandS.Gcd
import PyProof.InstNe
import KE.KSuper
import KE.KExcSuper
import HandS.Nested
import HandS.ExcInit
import KE.GoesZip
import KE.GoesEnum
import HandS.Defaults
import HandS.ExcField
import PySem.Challenge.RW_gridroads_k02_determinants
import HandS.TupLe
import HandS.EndBits
set_option Elab.async false
set_option linter.all false
set_option maxRecDepth 100000
/-! A layer of my own over the hand layer: values as data trees (DV), states of a running def told by data alone (Sta),
judgements of expressions over such states (EX, TX, AX, LX). -/
namespace G
open PySem L2 Evl

/-- data: what a value is, objects that stand still included; box: the object at a, whose content is told elsewhere -/
inductive DV where
  | non | bl (b : Bool) | int (i : Int) | str (x : Str) | lst (xs : List DV) | tup (xs : List DV) | ins (C : Addr) (fs : List (Str × DV)) | box (a : Addr)

mutual
inductive Rp (K : PySem.W.Frag) (H : Hp) : V → DV → Prop
  | non : Rp K H .non .non
  | bl (b : Bool) : Rp K H (.bl b) (.bl b)
  | int (i : Int) : Rp K H (.int i) (.int i)
  | str (x : Str) : Rp K H (.str x) (.str x)
  | lst {a : Addr} {xs : List V} {ds : List DV} : SqL K H a xs → RpAll K H xs ds → Rp K H (.ref a) (.lst ds)
  | tup {a : Addr} {xs : List V} {ds : List DV} : SqT K H a xs → RpAll K H xs ds → Rp K H (.ref a) (.tup ds)
  | ins {a C dx : Addr} {fs : List (Str × V)} {ds : List (Str × DV)} : H a = some (.ins C dx fs) → RpF K H fs ds → Rp K H (.ref a) (.ins C ds)
  | box (a : Addr) : Rp K H (.ref a) (.box a)
inductive RpAll (K : PySem.W.Frag) (H : Hp) : List V → List DV → Prop
  | nil : RpAll K H [] []
  | cons {v : V} {vs : List V} {d : DV} {ds : List DV} : Rp K H v d → RpAll K H vs ds → RpAll K H (v :: vs) (d :: ds)
inductive RpF (K : PySem.W.Frag) (H : Hp) : List (Str × V) → List (Str × DV) → Prop
  | nil : RpF K H [] []
  | cons {n : Str} {v : V} {vs : List (Str × V)} {d : DV} {ds : List (Str × DV)} : Rp K H v d → RpF K H vs ds → RpF K H ((n, v) :: vs) ((n, d) :: ds)
end
section
variable {K : PySem.W.Frag} {H H' : Hp}
mutual
theorem Rp.mono (e : Ex H H') : ∀ {d : DV} {v : V}, Rp K H v d → Rp K H' v d
  | .non, _, h => by cases h; exact .non
  | .bl b, _, h => by cases h; exact .bl _
  | .int b, _, h => by cases h; exact .int _
  | .str b, _, h => by cases h; exact .str _
  | .lst ds, _, h => by cases h with | lst h1 h2 => exact .lst (ex_l e h1) (RpAll.mono e h2)
  | .tup ds, _, h => by cases h with | tup h1 h2 => exact .tup (ex_t e h1) (RpAll.mono e h2)
  | .ins C ds, _, h => by cases h with | ins h1 h2 => exact .ins (e _ _ h1) (RpF.mono e h2)
  | .box a, _, h => by cases h; exact .box _
theorem RpAll.mono (e : Ex H H') : ∀ {ds : List DV} {vs : List V}, RpAll K H vs ds → RpAll K H' vs ds
  | [], _, h => by cases h; exact .nil
  | d :: ds, _, h => by cases h with | cons h1 h2 => exact .cons (Rp.mono e h1) (RpAll.mono e h2)
theorem RpF.mono (e : Ex H H') : ∀ {ds : List (Str × DV)} {vs : List (Str × V)}, RpF K H vs ds → RpF K H' vs ds
  | [], _, h => by cases h; exact .nil
  | (n, d) :: ds, _, h => by cases h with | cons h1 h2 => exact .cons (Rp.mono e h1) (RpF.mono e h2)
end
theorem RpAll.length : ∀ {vs : List V} {ds : List DV}, RpAll K H vs ds → vs.length = ds.length
  | _, _, .nil => rfl
  | _, _, .cons _ r => congrArg Nat.succ (RpAll.length r)
theorem RpAll.get : ∀ {vs : List V} {ds : List DV} {i : Nat} {d : DV}, RpAll K H vs ds → ds[i]? = some d → ∃ v, vs[i]? = some v ∧ Rp K H v d
  | _, _, _, _, .nil, h => by simp at h
  | _, _, 0, d, .cons r _, h => by
    have e := Option.some.inj h
    subst e
    exact ⟨_, rfl, r⟩
  | _, _, i + 1, d, .cons _ r, h => by
    obtain ⟨v, e, q⟩ := RpAll.get (i := i) r (by simpa using h)
    exact ⟨v, by simpa using e, q⟩
theorem RpAll.get' {vs : List V} {ds : List DV} {i : Nat} {v : V} (r : RpAll K H vs ds) (h : vs[i]? = some v) : ∃ d, ds[i]? = some d ∧ Rp K H v d := by
  have hl := r.length
  have h1 : i < vs.length := (List.getElem?_eq_some_iff.mp h).1
  have h2 : i < ds.length := by omega
  obtain ⟨w, e, q⟩ := r.get (List.getElem?_eq_getElem h2)
  rw [h] at e
  cases e
  exact ⟨_, List.getElem?_eq_getElem h2, q⟩
theorem RpAll.app : ∀ {vs ws : List V} {ds es : List DV}, RpAll K H vs ds → RpAll K H ws es → RpAll K H (vs ++ ws) (ds ++ es)
  | _, _, _, _, .nil, s => s
  | _, _, _, _, .cons r t, s => .cons r (RpAll.app t s)
theorem RpAll.set {v : V} {d : DV} (q : Rp K H v d) : ∀ {vs : List V} {ds : List DV} (i : Nat), RpAll K H vs ds → RpAll K H (vs.set i v) (ds.set i d)
  | _, _, _, .nil => .nil
  | _, _, 0, .cons _ t => .cons q t
  | _, _, i + 1, .cons r t => .cons r (RpAll.set q i t)
theorem RpAll.take : ∀ {vs : List V} {ds : List DV} (n : Nat), RpAll K H vs ds → RpAll K H (vs.take n) (ds.take n)
  | _, _, 0, _ => .nil
  | _, _, _ + 1, .nil => .nil
  | _, _, n + 1, .cons r t => .cons r (RpAll.take n t)
theorem RpAll.drop : ∀ {vs : List V} {ds : List DV} (n : Nat), RpAll K H vs ds → RpAll K H (vs.drop n) (ds.drop n)
  | _, _, 0, r => r
  | _, _, _ + 1, .nil => .nil
  | _, _, n + 1, .cons _ t => RpAll.drop n t
theorem RpAll.reverse : ∀ {vs : List V} {ds : List DV}, RpAll K H vs ds → RpAll K H vs.reverse ds.reverse
  | _, _, .nil => .nil
  | _, _, .cons r t => by
    rw [List.reverse_cons, List.reverse_cons]
    exact RpAll.app (RpAll.reverse t) (.cons r .nil)
theorem RpF.look : ∀ {fs : List (Str × V)} {ds : List (Str × DV)} {n : Str} {d : DV}, RpF K H fs ds → ds.lookup n = some d → ∃ v, fs.lookup n = some v ∧ Rp K H v d
  | _, _, _, _, .nil, h => by cases h
  | _, _, n, d, @RpF.cons _ _ m v vs d' ds r t, h => by
    rw [List.lookup_cons] at h ⊢
    cases hb : (n == m) with
    | true =>
      rw [hb] at h
      have e := Option.some.inj h
      subst e
      exact ⟨_, rfl, r⟩
    | false =>
      rw [hb] at h
      exact RpF.look t h
theorem RpF.lookN : ∀ {fs : List (Str × V)} {ds : List (Str × DV)} {n : Str}, RpF K H fs ds → ds.lookup n = none → fs.lookup n = none
  | _, _, _, .nil, h => rfl
  | _, _, n, @RpF.cons _ _ m v vs d' ds r t, h => by
    rw [List.lookup_cons] at h ⊢
    cases hb : (n == m) with
    | true =>
      rw [hb] at h
      cases h
    | false =>
      rw [hb] at h
      exact RpF.lookN t h
/-- scalars -/
def sv : V → DV
  | .bl b => .bl b
  | .int i => .int i
  | .str x => .str x
  | .ref a => .box a
  | _ => .non
def isSc : V → Bool
  | .non => true
  | .bl _ => true
  | .int _ => true
  | .str _ => true
  | _ => false
theorem Rp.sc {v : V} (h : isSc v = true) : Rp K H v (sv v) := by
  cases v <;> first | exact .non | exact .bl _ | exact .int _ | exact .str _ | cases h
end

/-! ### the heap without what may change -/
def hid (M : List Addr) (H : Hp) : Hp := fun a => if a ∈ M then none else H a
section
variable {H H' : Hp} {M : List Addr} {a : Addr} {o : HO}
theorem hid_sub : Ex (hid M H) H := fun a o h => by
  unfold hid at h
  split at h
  · cases h
  · exact h
theorem hid_get (n : a ∉ M) (h : H a = some o) : hid M H a = some o := by
  unfold hid
  rw [if_neg n]
  exact h
theorem hid_no (h : hid M H a = some o) : a ∉ M := fun q => by
  unfold hid at h
  rw [if_pos q] at h
  cases h
theorem hid_mono (e : Ex H H') : Ex (hid M H) (hid M H') := fun a o h => hid_get (hid_no h) (e a o (hid_sub a o h))
theorem hid_less {M' : List Addr} (s : ∀ a ∈ M', a ∈ M) : Ex (hid M H) (hid M' H) := fun a o h => hid_get (fun q => hid_no h (s a q)) (hid_sub a o h)
theorem hid_nil : hid [] H = H := by
  funext a
  unfold hid
  rw [if_neg (by simp)]
/-- hiding a fresh address hides nothing -/
theorem hid_fresh {p : Addr} (h : H p = none) : hid (p :: M) H = hid M H := by
  funext a
  unfold hid
  by_cases e : a = p
  · subst e
    rw [if_pos (by simp)]
    split
    · rfl
    · exact h.symm
  · simp [e]
end

abbrev Sto := List (Addr × List DV)
/-- a running def's state by data: F the heap that is kept (all but this def's own mutable lists), M the addresses hidden from data, δ the slots, μ the mutable lists -/
structure Sta (K : PySem.W.Frag) (F : Hp) (M : List Addr) (δ : List (Option DV)) (μ : Sto) (σ : L2.St) (H : Hp) : Prop where
  al : ∀ a ∈ M, H a ≠ none
  fr : Ex F H
  dm : ∀ p ∈ μ, p.1 ∈ M ∧ F p.1 = none
  nd : (μ.map Prod.fst).Nodup
  sto : ∀ p ∈ μ, ∃ vs, H p.1 = some (.lst vs) ∧ RpAll K (hid M H) vs p.2
  env : ∀ (i : Nat) (d : DV), δ[i]? = some (some d) → ∃ v, σ[i]? = some (some v) ∧ Rp K (hid M H) v d
  len : σ.length = δ.length
section
variable {K : PySem.W.Frag} {F H H' : Hp} {M : List Addr} {δ δ' : List (Option DV)} {μ : Sto} {σ : L2.St}
theorem Sta.mono (s : Sta K F M δ μ σ H) (e : Ex H H') : Sta K F M δ μ σ H' :=
  ⟨fun a ha q => s.al a ha (by
      cases h : H a with
      | none => rfl
      | some o => rw [e a o h] at q; cases q), s.fr.trans e, s.dm, s.nd,
    fun p hp => let ⟨vs, h1, h2⟩ := s.sto p hp; ⟨vs, e _ _ h1, h2.mono (hid_mono e)⟩,
    fun i d h => let ⟨v, h1, h2⟩ := s.env i d h; ⟨v, h1, h2.mono (hid_mono e)⟩, s.len⟩
theorem Sta.fresh (s : Sta K F M δ μ σ H) {p : Addr} (h : H p = none) : p ∉ M := fun q => s.al p q h
theorem Sta.freshF (s : Sta K F M δ μ σ H) {p : Addr} (h : H p = none) : F p = none := by
  cases q : F p with
  | none => rfl
  | some o => rw [s.fr p o q] at h; cases h
/-- a slot is stored -/
theorem Sta.put (s : Sta K F M δ μ σ H) {i : Nat} {v : V} {d : DV} (r : Rp K (hid M H) v d) : Sta K F M (δ.set i (some d)) μ (σ.set i (some v)) H := by
  refine ⟨s.al, s.fr, s.dm, s.nd, s.sto, fun j e h => ?_, by simpa using s.len⟩
  by_cases hj : i = j
  · subst hj
    by_cases hi : i < δ.length
    · rw [List.getElem?_set_self hi] at h
      cases h
      exact ⟨v, List.getElem?_set_self (by rw [s.len]; exact hi), r⟩
    · rw [List.getElem?_eq_none (by simpa using hi)] at h
      cases h
  · rw [List.getElem?_set_ne hj] at h
    obtain ⟨w, h1, h2⟩ := s.env j e h
    exact ⟨w, by rw [List.getElem?_set_ne hj]; exact h1, h2⟩
/-- a slot is forgotten -/
theorem Sta.putN (s : Sta K F M δ μ σ H) {i : Nat} {v : Option V} : Sta K F M (δ.set i none) μ (σ.set i v) H := by
  refine ⟨s.al, s.fr, s.dm, s.nd, s.sto, fun j e h => ?_, by simpa using s.len⟩
  by_cases hj : i = j
  · subst hj
    by_cases hi : i < δ.length
    · rw [List.getElem?_set_self hi] at h
      cases h
    · rw [List.getElem?_eq_none (by simpa using hi)] at h
      cases h
  · rw [List.getElem?_set_ne hj] at h
    obtain ⟨w, h1, h2⟩ := s.env j e h
    exact ⟨w, by rw [List.getElem?_set_ne hj]; exact h1, h2⟩
/-- less is told of the slots -/
def Less (δ' δ : List (Option DV)) : Prop := δ'.length = δ.length ∧ ∀ (i : Nat) (d : DV), δ'[i]? = some (some d) → δ[i]? = some (some d)
theorem Sta.less (s : Sta K F M δ μ σ H) (h : Less δ' δ) : Sta K F M δ' μ σ H :=
  ⟨s.al, s.fr, s.dm, s.nd, s.sto, fun i d q => s.env i d (h.2 i d q), s.len.trans h.1.symm⟩
theorem less_refl : Less δ δ := ⟨rfl, fun _ _ h => h⟩
theorem less_nil : Less [] [] := less_refl
theorem less_cons {a : Option DV} (h : Less δ' δ) : Less (a :: δ') (a :: δ) := ⟨by simp [h.1], fun i d q => by
  cases i with
  | zero => exact q
  | succ i => simpa using h.2 i d (by simpa using q)⟩
theorem less_none {a : Option DV} (h : Less δ' δ) : Less (none :: δ') (a :: δ) := ⟨by simp [h.1], fun i d q => by
  cases i with
  | zero => simp at q
  | succ i => simpa using h.2 i d (by simpa using q)⟩
/-- the store is changed at one list, as the heap is -/
theorem Sta.poke (s : Sta K F M δ μ σ H) {j : Nat} {l : Addr} {ds ds' : List DV} {vs' : List V} (hj : μ[j]? = some (l, ds)) (r : RpAll K (hid M H) vs' ds') :
    Sta K F M δ (μ.set j (l, ds')) σ (upd H l (.lst vs')) ∧ Ex (hid M H) (hid M (upd H l (.lst vs'))) := by
  have hm : (l, ds) ∈ μ := List.mem_of_getElem? hj
  obtain ⟨hlM, hlF⟩ := s.dm _ hm
  have hx : Ex (hid M H) (hid M (upd H l (.lst vs'))) := fun a o h => by
    have hn := hid_no h
    refine hid_get hn ?_
    rw [upd_ne (fun e => hn (by rw [e]; exact hlM))]
    exact hid_sub a o h
  have hf : (μ.set j (l, ds')).map Prod.fst = μ.map Prod.fst := by
    rw [List.map_set]
    refine List.ext_getElem? fun n => ?_
    by_cases e : j = n
    · subst e
      have hl : j < (μ.map Prod.fst).length := by
        rw [List.length_map]
        exact (List.getElem?_eq_some_iff.mp hj).1
      rw [List.getElem?_set_self hl, List.getElem?_map, hj]
      rfl
    · rw [List.getElem?_set_ne e]
  refine ⟨⟨fun a ha => ?_, fun a o h => ?_, fun p hp => ?_, by rw [hf]; exact s.nd, fun p hp => ?_, fun i d h => ?_, s.len⟩, hx⟩
  · by_cases e : a = l
    · subst e
      rw [upd_same]
      simp
    · rw [upd_ne e]
      exact s.al a ha
  · rw [upd_ne (ne_of_none h hlF)]
    exact s.fr a o h
  · rcases List.mem_or_eq_of_mem_set hp with h | h
    · exact s.dm p h
    · subst h
      exact ⟨hlM, hlF⟩
  · obtain ⟨n, hn⟩ := List.getElem?_of_mem hp
    by_cases e : j = n
    · subst e
      rw [List.getElem?_set_self (List.getElem?_eq_some_iff.mp hj).1] at hn
      cases hn
      exact ⟨vs', upd_same, r.mono hx⟩
    · rw [List.getElem?_set_ne e] at hn
      obtain ⟨ws, h1, h2⟩ := s.sto p (List.mem_of_getElem? hn)
      refine ⟨ws, ?_, h2.mono hx⟩
      have hne : p.1 ≠ l := fun q => e (by
        have a1 : (μ.map Prod.fst)[n]? = some l := by rw [List.getElem?_map, hn, ← q]; rfl
        have a2 : (μ.map Prod.fst)[j]? = some l := by rw [List.getElem?_map, hj]; rfl
        exact nd_ix s.nd a2 a1)
      rw [upd_ne hne]
      exact h1
  · obtain ⟨v, h1, h2⟩ := s.env i d h
    exact ⟨v, h1, h2.mono hx⟩
/-- a new list, made a mutable one -/
theorem Sta.newL (s : Sta K F M δ μ σ H) {p : Addr} {vs : List V} {ds : List DV} (h0 : H p = none) (r : RpAll K (hid M H) vs ds) : Sta K F (p :: M) δ ((p, ds) :: μ) σ (upd H p (.lst vs)) := by
  have hp := s.fresh h0
  have up : Ex (hid M H) (hid (p :: M) (upd H p (.lst vs))) := fun a o h => by
    have hn := hid_no h
    have hap : a ≠ p := ne_of_none (hid_sub a o h) h0
    exact hid_get (by simp [hap, hn]) (by rw [upd_ne hap]; exact hid_sub _ _ h)
  have key : ∀ q ∈ μ, q.1 ≠ p := fun q hq hqp => hp (by rw [← hqp]; exact (s.dm q hq).1)
  refine ⟨fun a ha => ?_, fun a o h => ?_, fun q hq => ?_, ?_, fun q hq => ?_, fun i d h => ?_, s.len⟩
  · rcases List.mem_cons.mp ha with rfl | ha
    · rw [upd_same]; simp
    · by_cases e : a = p
      · rw [e, upd_same]; simp
      · rw [upd_ne e]; exact s.al a ha
  · rw [upd_ne (ne_of_none (s.fr a o h) h0)]
    exact s.fr a o h
  · rcases List.mem_cons.mp hq with rfl | hq
    · exact ⟨by simp, s.freshF h0⟩
    · exact ⟨List.mem_cons_of_mem _ (s.dm q hq).1, (s.dm q hq).2⟩
  · rw [List.map_cons, List.nodup_cons]
    refine ⟨fun hm => ?_, s.nd⟩
    obtain ⟨q, hq, hqp⟩ := List.mem_map.mp hm
    exact key q hq hqp
  · rcases List.mem_cons.mp hq with rfl | hq
    · exact ⟨vs, upd_same, r.mono up⟩
    · obtain ⟨ws, h1, h2⟩ := s.sto q hq
      exact ⟨ws, by rw [upd_ne (key q hq)]; exact h1, h2.mono up⟩
  · obtain ⟨v, h1, h2⟩ := s.env i d h
    exact ⟨v, h1, h2.mono up⟩
/-- a mutable list stands still from here on: it is data -/
theorem Sta.still {p : Addr} {ds : List DV} (s : Sta K F (p :: M) δ ((p, ds) :: μ) σ H) (hp : p ∉ M) : Sta K F M δ μ σ H ∧ Rp K (hid M H) (.ref p) (.lst ds) := by
  have up : Ex (hid (p :: M) H) (hid M H) := hid_less fun a ha => List.mem_cons_of_mem _ ha
  obtain ⟨vs, h1, h2⟩ := s.sto (p, ds) (by simp)
  refine ⟨⟨fun a ha => s.al a (List.mem_cons_of_mem _ ha), s.fr, fun q hq => ?_, (List.nodup_cons.mp s.nd).2, fun q hq => ?_, fun i d h => ?_, s.len⟩, .lst (sq_of (hid_get hp h1)) (h2.mono up)⟩
  · obtain ⟨a1, a2⟩ := s.dm q (List.mem_cons_of_mem _ hq)
    refine ⟨?_, a2⟩
    rcases List.mem_cons.mp a1 with e | e
    · exact ((List.nodup_cons.mp s.nd).1 (List.mem_map.mpr ⟨q, hq, e⟩)).elim
    · exact e
  · obtain ⟨ws, e1, e2⟩ := s.sto q (List.mem_cons_of_mem _ hq)
    exact ⟨ws, e1, e2.mono up⟩
  · obtain ⟨v, e1, e2⟩ := s.env i d h
    exact ⟨v, e1, e2.mono up⟩
end

/-! ### judgements of expressions: from a state told by δ and μ to the value d, the store behind it μ' -/
def EX (K : PySem.W.Frag) (te : TE) (δ : List (Option DV)) (μ μ' : Sto) (d : DV) : Prop :=
  ∀ F M σ H, Sta K F M δ μ σ H → ∀ Q : VK, (∀ v H', Ex (hid M H) (hid M H') → Sta K F M δ μ' σ H' → Rp K (hid M H') v d → Q v H') → te σ H Q
def TX (K : PySem.W.Frag) (tt : TT) (δ : List (Option DV)) (μ μ' : Sto) (b : Bool) : Prop :=
  ∀ F M σ H, Sta K F M δ μ σ H → ∀ Q : Bool → Hp → Prop, (∀ H', Ex (hid M H) (hid M H') → Sta K F M δ μ' σ H' → Q b H') → tt σ H Q
def AX (K : PySem.W.Frag) (ta : TA) (δ : List (Option DV)) (μ μ' : Sto) (ds : List DV) : Prop :=
  ∀ F M σ H, Sta K F M δ μ σ H → ∀ Q : List V → Hp → Prop, (∀ vs H', Ex (hid M H) (hid M H') → Sta K F M δ μ' σ H' → RpAll K (hid M H') vs ds → Q vs H') → ta σ H Q
/-- a new list: it is a mutable one behind -/
def LX (K : PySem.W.Frag) (te : TE) (δ : List (Option DV)) (μ μ' : Sto) (ds : List DV) : Prop :=
  ∀ F M σ H, Sta K F M δ μ σ H → ∀ Q : VK, (∀ p H', H p = none → p ∉ M → Ex (hid M H) (hid M H') → Sta K F (p :: M) δ ((p, ds) :: μ') σ H' → Q (.ref p) H') → te σ H Q
/-- a part of a slice -/
def OX (K : PySem.W.Frag) (to : TO) (δ : List (Option DV)) (μ : Sto) (o : Option Int) : Prop :=
  ∀ F M σ H, Sta K F M δ μ σ H → ∀ Q : Option Int → Hp → Prop, (∀ H', Ex (hid M H) (hid M H') → Sta K F M δ μ σ H' → Q o H') → to σ H Q
/-- what stands in a sequence -/
inductive Items (μ : Sto) : DV → List DV → Prop
  | lst (ds : List DV) : Items μ (.lst ds) ds
  | tup (ds : List DV) : Items μ (.tup ds) ds
  | box {j : Nat} {l : Addr} {ds : List DV} (h : μ[j]? = some (l, ds)) : Items μ (.box l) ds
section
variable {K : PySem.W.Frag} {F H H' : Hp} {M : List Addr} {δ δ' : List (Option DV)} {μ μ' μ'' : Sto} {σ : L2.St} {ta tb te : TE} {t u : TT} {d e : DV} {ds es : List DV}
theorem Items.seq (s : Sta K F M δ μ σ H) {v : V} (r : Rp K (hid M H) v d) (it : Items μ d ds) : ∃ a vs, v = .ref a ∧ (SqL K H a vs ∨ SqT K H a vs) ∧ RpAll K (hid M H) vs ds := by
  cases it with
  | lst => cases r with | lst h1 h2 => exact ⟨_, _, rfl, .inl (ex_l hid_sub h1), h2⟩
  | tup => cases r with | tup h1 h2 => exact ⟨_, _, rfl, .inr (ex_t hid_sub h1), h2⟩
  | box h =>
    cases r
    obtain ⟨vs, h1, h2⟩ := s.sto _ (List.mem_of_getElem? h)
    exact ⟨_, vs, rfl, .inl (sq_of h1), h2⟩
theorem LX.ex (h : LX K te δ μ μ' ds) : EX K te δ μ μ' (.lst ds) := fun F M σ H s Q q => h F M σ H s Q fun p H' _ hp e s' =>
  let ⟨s2, r⟩ := s'.still hp
  q _ H' e s2 r
theorem ex_var {i : Nat} (h : δ[i]? = some (some d)) : EX K (tVar i) δ μ μ d := fun F M σ H s Q q =>
  let ⟨v, h1, h2⟩ := s.env i d h
  ⟨v, h1, q v H (Ex.refl _) s h2⟩
theorem ex_c {v : V} (h : isSc v = true := by rfl) : EX K (tC v) δ μ μ (sv v) := fun F M σ H s Q q => q v H (Ex.refl _) s (Rp.sc h)
theorem ex_int {i : Int} : EX K (tC (.int i)) δ μ μ (.int i) := ex_c
theorem ex_bl {i : Bool} : EX K (tC (.bl i)) δ μ μ (.bl i) := ex_c
theorem ex_str {i : Str} : EX K (tC (.str i)) δ μ μ (.str i) := ex_c
theorem ex_non : EX K (tC .non) δ μ μ .non := ex_c
/-- two ints -/
theorem ex_I0 {g : Int → Int → V} {a b : Int} (ha : EX K ta δ μ μ' (.int a)) (hb : EX K tb δ μ' μ'' (.int b)) (hs : isSc (g a b) = true := by rfl) : EX K (tOp (rI0 g) ta tb) δ μ μ'' (sv (g a b)) := fun F M σ H s Q q =>
  ha F M σ H s _ fun v H1 e1 s1 r1 => hb F M σ H1 s1 _ fun w H2 e2 s2 r2 => by
    cases r1
    cases r2
    exact ⟨a, b, rfl, rfl, q _ H2 (e1.trans e2) s2 (Rp.sc hs)⟩
theorem ex_I {C : Int → Int → Prop} {g : Int → Int → V} {a b : Int} (ha : EX K ta δ μ μ' (.int a)) (hb : EX K tb δ μ' μ'' (.int b)) (hc : C a b) (hs : isSc (g a b) = true := by rfl) : EX K (tOp (rI C g) ta tb) δ μ μ'' (sv (g a b)) := fun F M σ H s Q q =>
  ha F M σ H s _ fun v H1 e1 s1 r1 => hb F M σ H1 s1 _ fun w H2 e2 s2 r2 => by
    cases r1
    cases r2
    exact ⟨a, b, rfl, rfl, hc, q _ H2 (e1.trans e2) s2 (Rp.sc hs)⟩
theorem ex_U {g : Int → V} {a : Int} (ha : EX K ta δ μ μ' (.int a)) (hs : isSc (g a) = true := by rfl) : EX K (tUn (rU g) ta) δ μ μ' (sv (g a)) := fun F M σ H s Q q =>
  ha F M σ H s _ fun v H1 e1 s1 r1 => by
    cases r1
    exact ⟨a, rfl, q _ H1 e1 s1 (Rp.sc hs)⟩
/-- what is told of a value in another shape -/
theorem EX.is (h : EX K te δ μ μ' d) (e : d = e') : EX K te δ μ μ' e' := e ▸ h
theorem TX.is {b c : Bool} (h : TX K t δ μ μ' b) (e : b = c) : TX K t δ μ μ' c := e ▸ h
theorem LX.is (h : LX K te δ μ μ' ds) (e : ds = es) : LX K te δ μ μ' es := e ▸ h
/-- == and != of scalars -/
theorem ex_eqI {a b : Int} (ha : EX K ta δ μ μ' (.int a)) (hb : EX K tb δ μ' μ'' (.int b)) : EX K (tOp rEq ta tb) δ μ μ'' (.bl (decide (a = b))) := fun F M σ H s Q q =>
  ha F M σ H s _ fun v H1 e1 s1 r1 => hb F M σ H1 s1 _ fun w H2 e2 s2 r2 => by
    cases r1
    cases r2
    refine ⟨rfl, q _ H2 (e1.trans e2) s2 ?_⟩
    rw [show decide (V.int a = V.int b) = decide (a = b) by simp]
    exact .bl _
theorem ex_neI {a b : Int} (ha : EX K ta δ μ μ' (.int a)) (hb : EX K tb δ μ' μ'' (.int b)) : EX K (tOp rNe ta tb) δ μ μ'' (.bl (!decide (a = b))) := fun F M σ H s Q q =>
  ha F M σ H s _ fun v H1 e1 s1 r1 => hb F M σ H1 s1 _ fun w H2 e2 s2 r2 => by
    cases r1
    cases r2
    refine ⟨rfl, q _ H2 (e1.trans e2) s2 ?_⟩
    rw [show decide (V.int a = V.int b) = decide (a = b) by simp]
    exact .bl _
theorem ex_eqB {a b : Bool} (ha : EX K ta δ μ μ' (.bl a)) (hb : EX K tb δ μ' μ'' (.bl b)) : EX K (tOp rEq ta tb) δ μ μ'' (.bl (decide (a = b))) := fun F M σ H s Q q =>
  ha F M σ H s _ fun v H1 e1 s1 r1 => hb F M σ H1 s1 _ fun w H2 e2 s2 r2 => by
    cases r1
    cases r2
    refine ⟨rfl, q _ H2 (e1.trans e2) s2 ?_⟩
    rw [show decide (V.bl a = V.bl b) = decide (a = b) by simp]
    exact .bl _
theorem ex_neB {a b : Bool} (ha : EX K ta δ μ μ' (.bl a)) (hb : EX K tb δ μ' μ'' (.bl b)) : EX K (tOp rNe ta tb) δ μ μ'' (.bl (!decide (a = b))) := fun F M σ H s Q q =>
  ha F M σ H s _ fun v H1 e1 s1 r1 => hb F M σ H1 s1 _ fun w H2 e2 s2 r2 => by
    cases r1
    cases r2
    refine ⟨rfl, q _ H2 (e1.trans e2) s2 ?_⟩
    rw [show decide (V.bl a = V.bl b) = decide (a = b) by simp]
    exact .bl _
theorem ex_eqS {a b : Str} (ha : EX K ta δ μ μ' (.str a)) (hb : EX K tb δ μ' μ'' (.str b)) : EX K (tOp rEq ta tb) δ μ μ'' (.bl (decide (a = b))) := fun F M σ H s Q q =>
  ha F M σ H s _ fun v H1 e1 s1 r1 => hb F M σ H1 s1 _ fun w H2 e2 s2 r2 => by
    cases r1
    cases r2
    refine ⟨rfl, q _ H2 (e1.trans e2) s2 ?_⟩
    rw [show decide (V.str a = V.str b) = decide (a = b) by simp]
    exact .bl _
theorem ex_neS {a b : Str} (ha : EX K ta δ μ μ' (.str a)) (hb : EX K tb δ μ' μ'' (.str b)) : EX K (tOp rNe ta tb) δ μ μ'' (.bl (!decide (a = b))) := fun F M σ H s Q q =>
  ha F M σ H s _ fun v H1 e1 s1 r1 => hb F M σ H1 s1 _ fun w H2 e2 s2 r2 => by
    cases r1
    cases r2
    refine ⟨rfl, q _ H2 (e1.trans e2) s2 ?_⟩
    rw [show decide (V.str a = V.str b) = decide (a = b) by simp]
    exact .bl _
/-- tests -/
theorem tx_val {b : Bool} (h : EX K te δ μ μ' (.bl b)) : TX K (tB te) δ μ μ' b := fun F M σ H s Q q => h F M σ H s _ fun v H1 e1 s1 r1 => by
  cases r1
  exact ⟨b, rfl, q H1 e1 s1⟩
theorem tx_test {b : Bool} (h : EX K te δ μ μ' (.bl b)) : TX K (tTest te) δ μ μ' b := fun F M σ H s Q q => h F M σ H s _ fun v H1 e1 s1 r1 => by
  cases r1
  exact ⟨b, rfl, q H1 e1 s1⟩
theorem tx_not {b : Bool} (h : TX K t δ μ μ' b) : TX K (tNot t) δ μ μ' (!b) := fun F M σ H s Q q => h F M σ H s _ fun H1 e1 s1 => q H1 e1 s1
theorem tx_and {a b : Bool} (h1 : TX K t δ μ μ' a) (h2 : a = true → TX K u δ μ' μ' b) : TX K (tAnd t u) δ μ μ' (a && b) := fun F M σ H s Q q => h1 F M σ H s _ fun H1 e1 s1 => by
  cases a with
  | true =>
    show u σ H1 Q
    exact h2 rfl F M σ H1 s1 Q fun H2 e2 s2 => q H2 (e1.trans e2) s2
  | false =>
    show Q false H1
    exact q H1 e1 s1
theorem tx_or {a b : Bool} (h1 : TX K t δ μ μ' a) (h2 : a = false → TX K u δ μ' μ' b) : TX K (tOr t u) δ μ μ' (a || b) := fun F M σ H s Q q => h1 F M σ H s _ fun H1 e1 s1 => by
  cases a with
  | true =>
    show Q true H1
    exact q H1 e1 s1
  | false =>
    show u σ H1 Q
    exact h2 rfl F M σ H1 s1 Q fun H2 e2 s2 => q H2 (e1.trans e2) s2
/-- and, the second operand changing the store -/
theorem tx_andS {a b : Bool} (h1 : TX K t δ μ μ a) (h2 : a = true → TX K u δ μ μ' b) (h3 : a = false → μ' = μ) : TX K (tAnd t u) δ μ μ' (a && b) := fun F M σ H s Q q => h1 F M σ H s _ fun H1 e1 s1 => by
  cases a with
  | true =>
    show u σ H1 Q
    exact h2 rfl F M σ H1 s1 Q fun H2 e2 s2 => q H2 (e1.trans e2) s2
  | false =>
    show Q false H1
    exact q H1 e1 (by rw [h3 rfl]; exact s1)
theorem ex_andV {a b : Bool} (h1 : EX K ta δ μ μ' (.bl a)) (h2 : a = true → EX K tb δ μ' μ' (.bl b)) : EX K (tAndV ta tb) δ μ μ' (.bl (a && b)) := fun F M σ H s Q q => h1 F M σ H s _ fun v H1 e1 s1 r1 => by
  cases r1
  refine ⟨a, rfl, ?_⟩
  cases a with
  | true =>
    show tb σ H1 Q
    exact h2 rfl F M σ H1 s1 Q fun v H2 e2 s2 r2 => q v H2 (e1.trans e2) s2 r2
  | false =>
    show Q (.bl false) H1
    exact q _ H1 e1 s1 (.bl _)
theorem ex_orV {a b : Bool} (h1 : EX K ta δ μ μ' (.bl a)) (h2 : a = false → EX K tb δ μ' μ' (.bl b)) : EX K (tOrV ta tb) δ μ μ' (.bl (a || b)) := fun F M σ H s Q q => h1 F M σ H s _ fun v H1 e1 s1 r1 => by
  cases r1
  refine ⟨a, rfl, ?_⟩
  cases a with
  | true =>
    show Q (.bl true) H1
    exact q _ H1 e1 s1 (.bl _)
  | false =>
    show tb σ H1 Q
    exact h2 rfl F M σ H1 s1 Q fun v H2 e2 s2 r2 => q v H2 (e1.trans e2) s2 r2
theorem ex_notV {a : Bool} (h1 : EX K ta δ μ μ' (.bl a)) : EX K (tNotV ta) δ μ μ' (.bl (!a)) := fun F M σ H s Q q => h1 F M σ H s _ fun v H1 e1 s1 r1 => by
  cases r1
  exact ⟨a, rfl, q _ H1 e1 s1 (.bl _)⟩
theorem ex_if {b : Bool} (h : TX K t δ μ μ' b) (h1 : b = true → EX K ta δ μ' μ'' d) (h2 : b = false → EX K tb δ μ' μ'' d) : EX K (tIf t ta tb) δ μ μ'' d := fun F M σ H s Q q => h F M σ H s _ fun H1 e1 s1 => by
  cases b with
  | true =>
    show ta σ H1 Q
    exact h1 rfl F M σ H1 s1 Q fun v H2 e2 s2 r2 => q v H2 (e1.trans e2) s2 r2
  | false =>
    show tb σ H1 Q
    exact h2 rfl F M σ H1 s1 Q fun v H2 e2 s2 r2 => q v H2 (e1.trans e2) s2 r2
/-- arguments, displays -/
theorem ax_nil : AX K tNil δ μ μ [] := fun F M σ H s Q q => q [] H (Ex.refl _) s .nil
theorem ax_cons {tr : TA} (h : EX K ta δ μ μ' d) (hr : AX K tr δ μ' μ'' ds) : AX K (tCons ta tr) δ μ μ'' (d :: ds) := fun F M σ H s Q q =>
  h F M σ H s _ fun v H1 e1 s1 r1 => hr F M σ H1 s1 _ fun vs H2 e2 s2 r2 => q _ H2 (e1.trans e2) s2 (.cons (r1.mono e2) r2)
theorem new_ex (s : Sta K F M δ μ σ H) {p : Addr} {o : HO} (h : H p = none) : Ex (hid M H) (hid M (upd H p o)) := hid_mono (Ex.new h)
theorem ex_tup {ta : TA} (h : AX K ta δ μ μ' ds) (hl : ds.length ≤ 100000 := by simp) : EX K (tTup ta) δ μ μ' (.tup ds) := fun F M σ H s Q q =>
  h F M σ H s _ fun vs H1 e1 s1 r1 => ⟨sz_of (by rw [r1.length]; exact hl), fun p hp =>
    q _ _ (e1.trans (new_ex s1 hp)) (s1.mono (Ex.new hp)) (.tup (st_of (hid_get (s1.fresh hp) upd_same)) (r1.mono (new_ex s1 hp)))⟩
theorem lx_lst {ta : TA} (h : AX K ta δ μ μ' ds) (hl : ds.length ≤ 100000 := by simp) : LX K (tLst ta) δ μ μ' ds := fun F M σ H s Q q =>
  h F M σ H s _ fun vs H1 e1 s1 r1 => ⟨sz_of (by rw [r1.length]; exact hl), fun p hp => by
    have hp0 : H p = none := by
      cases h0 : H p with
      | none => rfl
      | some o =>
        by_cases hm : p ∈ M
        · exact (s1.al p hm hp).elim
        · have := hid_sub _ _ (e1 p o (hid_get hm h0))
          rw [hp] at this
          cases this
    exact q p _ hp0 (s1.fresh hp) (e1.trans (new_ex s1 hp)) (s1.newL hp r1)⟩
end
end G
set_option Elab.async false
set_option linter.all false
set_option maxRecDepth 100000
namespace G
open PySem L2 Evl
/-! ### locks: a list of one's own while other things are reckoned -/
section
variable {K : PySem.W.Frag} {F H H' H0 : Hp} {M : List Addr} {δ δ' : List (Option DV)} {μ μ' μ'' : Sto} {σ : L2.St} {ta tb te : TE} {t u : TT} {d e : DV} {ds es : List DV}
theorem back_none (s : Sta K F M δ μ σ H) (s' : Sta K F M δ' μ' σ H') (e : Ex (hid M H) (hid M H')) {p : Addr} (h : H' p = none) : H p = none := by
  cases h0 : H p with
  | none => rfl
  | some o =>
    by_cases hm : p ∈ M
    · exact (s'.al p hm h).elim
    · have := hid_sub _ _ (e p o (hid_get hm h0))
      rw [h] at this
      cases this
theorem Sta.lock {p : Addr} {vs : List V} (s : Sta K F (p :: M) δ ((p, ds) :: μ) σ H) (h : H p = some (.lst vs)) : Sta K (upd F p (.lst vs)) (p :: M) δ μ σ H := by
  have hn := List.nodup_cons.mp s.nd
  refine ⟨s.al, fun a o q => ?_, fun q hq => ?_, hn.2, fun q hq => s.sto q (List.mem_cons_of_mem _ hq), s.env, s.len⟩
  · by_cases e : a = p
    · subst e
      rw [upd_same] at q
      rw [h, q]
    · rw [upd_ne e] at q
      exact s.fr a o q
  · obtain ⟨h1, h2⟩ := s.dm q (List.mem_cons_of_mem _ hq)
    refine ⟨h1, ?_⟩
    have e : q.1 ≠ p := fun e => hn.1 (List.mem_map.mpr ⟨q, hq, e⟩)
    rw [upd_ne e]
    exact h2
theorem Sta.unlock {p : Addr} {vs : List V} (hF : F p = none) (s : Sta K (upd F p (.lst vs)) (p :: M) δ μ σ H) (r : RpAll K (hid (p :: M) H) vs ds) : Sta K F (p :: M) δ ((p, ds) :: μ) σ H := by
  have hp : H p = some (.lst vs) := s.fr p _ upd_same
  have key : ∀ q ∈ μ, q.1 ≠ p := fun q hq e => by
    have := (s.dm q hq).2
    rw [e, upd_same] at this
    cases this
  refine ⟨s.al, fun a o q => ?_, fun q hq => ?_, ?_, fun q hq => ?_, s.env, s.len⟩
  · exact s.fr a o (by rw [upd_ne (ne_of_none q hF)]; exact q)
  · rcases List.mem_cons.mp hq with rfl | hq
    · exact ⟨by simp, hF⟩
    · refine ⟨(s.dm q hq).1, ?_⟩
      have := (s.dm q hq).2
      rw [upd_ne (key q hq)] at this
      exact this
  · rw [List.map_cons, List.nodup_cons]
    refine ⟨fun hm => ?_, s.nd⟩
    obtain ⟨q, hq, e⟩ := List.mem_map.mp hm
    exact key q hq e
  · rcases List.mem_cons.mp hq with rfl | hq
    · exact ⟨vs, hp, r⟩
    · exact s.sto q hq
/-- the store's head list is changed -/
theorem Sta.pokeH {p : Addr} {ds' : List DV} {vs' : List V} (s : Sta K F (p :: M) δ ((p, ds) :: μ) σ H) (r : RpAll K (hid (p :: M) H) vs' ds') :
    Sta K F (p :: M) δ ((p, ds') :: μ) σ (upd H p (.lst vs')) ∧ Ex (hid (p :: M) H) (hid (p :: M) (upd H p (.lst vs'))) :=
  s.poke (j := 0) rfl r
theorem ex_less (e : Ex (hid (p :: M) H) (hid (p :: M) H')) (h : H p = none) : Ex (hid M H) (hid M H') := by
  rw [← hid_fresh (M := M) h]
  exact e.trans (hid_less fun a ha => List.mem_cons_of_mem _ ha)

theorem ex_two {H1 H2 : Hp} {p : Addr} (h : H p = none) (e1 : Ex (hid M H) (hid M H1)) (e2 : Ex (hid (p :: M) H1) (hid (p :: M) H2)) : Ex (hid M H) (hid M H2) := fun a o q => by
  have hn := hid_no q
  have hap : a ≠ p := ne_of_none (hid_sub a o q) h
  have q1 := hid_sub _ _ (e1 a o q)
  exact hid_get hn (hid_sub _ _ (e2 a o (hid_get (by simp [hap, hn]) q1)))

/-! ### items, lengths, copies -/
theorem atI_len {α β : Type} {xs : List α} {ys : List β} (hl : xs.length = ys.length) {i : Int} {y : β} (h : atI ys i = some y) : ∃ j, ixN xs.length i = some j ∧ ys[j]? = some y := by
  unfold atI at h
  rw [← hl] at h
  cases q : ixN xs.length i with
  | none => rw [q] at h; cases h
  | some j => rw [q] at h; exact ⟨j, rfl, h⟩
theorem RpAll.atI {vs : List V} {i : Int} (r : RpAll K H vs ds) (h : L2.atI ds i = some d) : ∃ v, L2.atI vs i = some v ∧ Rp K H v d := by
  obtain ⟨j, h1, h2⟩ := atI_len (xs := vs) r.length h
  obtain ⟨v, h3, h4⟩ := r.get h2
  exact ⟨v, by unfold L2.atI; rw [h1]; exact h3, h4⟩
/-- xs[i], t[i] -/
theorem ex_ix {i : Int} (ha : EX K ta δ μ μ' d) (hb : EX K tb δ μ' μ'' (.int i)) (it : Items μ'' d ds) (h : L2.atI ds i = some e) : EX K (tOp (rIx K) ta tb) δ μ μ'' e := fun F M σ H s Q q =>
  ha F M σ H s _ fun v H1 e1 s1 r1 => hb F M σ H1 s1 _ fun w H2 e2 s2 r2 => by
    cases r2
    obtain ⟨a, vs, rfl, hq, r⟩ := it.seq s2 (r1.mono e2)
    obtain ⟨x, hx, rx⟩ := r.atI h
    rcases hq with hq | hq
    · exact .inl ⟨a, vs, i, x, rfl, rfl, hq, hx, q x H2 (e1.trans e2) s2 rx⟩
    · exact .inr (.inl ⟨a, vs, i, x, rfl, rfl, hq, hx, q x H2 (e1.trans e2) s2 rx⟩)
theorem ex_ixL {i : Int} (ha : EX K ta δ μ μ' (.lst ds)) (hb : EX K tb δ μ' μ'' (.int i)) (h : L2.atI ds i = some e) : EX K (tOp (rIx K) ta tb) δ μ μ'' e := ex_ix ha hb (.lst _) h
theorem ex_ixT {i : Int} (ha : EX K ta δ μ μ' (.tup ds)) (hb : EX K tb δ μ' μ'' (.int i)) (h : L2.atI ds i = some e) : EX K (tOp (rIx K) ta tb) δ μ μ'' e := ex_ix ha hb (.tup _) h
def rLenQ (K : PySem.W.Frag) : List V → Hp → VK → Prop := fun xs H Q => ∃ p ys, xs = [.ref p] ∧ (SqL K H p ys ∨ SqT K H p ys) ∧ Q (.int ys.length) H
theorem call_lenQ {X : Cx} : CallR X (.builtin "len") (rLenQ X.K) := call_len_seq
theorem ex_len (ha : EX K ta δ μ μ' d) (it : Items μ' d ds) : EX K (tCB (rLenQ K) (tCons ta tNil)) δ μ μ' (.int ds.length) := fun F M σ H s Q q =>
  ha F M σ H s _ fun v H1 e1 s1 r1 => by
    obtain ⟨a, vs, rfl, hq, r⟩ := it.seq s1 r1
    refine ⟨a, vs, rfl, hq, ?_⟩
    rw [r.length]
    exact q _ H1 e1 s1 (.int _)
def rListQ (K : PySem.W.Frag) : List V → Hp → VK → Prop := fun xs H Q => ∃ p ys, xs = [.ref p] ∧ (SqL K H p ys ∨ SqT K H p ys) ∧ ∀ l, H l = none → Q (.ref l) (upd H l (.lst ys))
theorem call_listQ {X : Cx} : CallR X (.type "list") (rListQ X.K) := call_list_of
theorem lx_list (ha : EX K ta δ μ μ' d) (it : Items μ' d ds) : LX K (tCB (rListQ K) (tCons ta tNil)) δ μ μ' ds := fun F M σ H s Q q =>
  ha F M σ H s _ fun v H1 e1 s1 r1 => by
    obtain ⟨a, vs, rfl, hq, r⟩ := it.seq s1 r1
    exact ⟨a, vs, rfl, hq, fun p hp => q p _ (back_none s s1 e1 hp) (s1.fresh hp) (e1.trans (new_ex s1 hp)) (s1.newL hp r)⟩
def rTupQ (K : PySem.W.Frag) : List V → Hp → VK → Prop := fun xs H Q => ∃ p ys, xs = [.ref p] ∧ ((SqL K H p ys ∧ ∀ l, H l = none → Q (.ref l) (upd H l (.tup ys))) ∨ (SqT K H p ys ∧ Q (.ref p) H))
theorem call_tupQ {X : Cx} : CallR X (.type "tuple") (rTupQ X.K) := call_tuple_of
theorem ex_tuple (ha : EX K ta δ μ μ' d) (it : Items μ' d ds) : EX K (tCB (rTupQ K) (tCons ta tNil)) δ μ μ' (.tup ds) := fun F M σ H s Q q =>
  ha F M σ H s _ fun v H1 e1 s1 r1 => by
    have mk : ∀ (a : Addr) (vs : List V), SqL K H1 a vs → RpAll K (hid M H1) vs ds → (∃ p ys, [V.ref a] = [.ref p] ∧ ((SqL K H1 p ys ∧ ∀ l, H1 l = none → Q (.ref l) (upd H1 l (.tup ys))) ∨ (SqT K H1 p ys ∧ Q (.ref p) H1))) := fun a vs hq r =>
      ⟨a, vs, rfl, .inl ⟨hq, fun p hp => q _ _ (e1.trans (new_ex s1 hp)) (s1.mono (Ex.new hp)) (.tup (st_of (hid_get (s1.fresh hp) upd_same)) (r.mono (new_ex s1 hp)))⟩⟩
    cases it with
    | lst => cases r1 with | lst h1 h2 => exact mk _ _ (ex_l hid_sub h1) h2
    | tup => cases r1 with | tup h1 h2 => exact ⟨_, _, rfl, .inr ⟨ex_t hid_sub h1, q _ H1 e1 s1 (.tup h1 h2)⟩⟩
    | box h =>
      cases r1
      obtain ⟨vs, h1, h2⟩ := s1.sto _ (List.mem_of_getElem? h)
      exact mk _ _ (sq_of h1) h2
theorem ex_abs {i : Int} (ha : EX K ta δ μ μ' (.int i)) : EX K (tCB (fun xs H Q => ∃ i, xs = [.int i] ∧ Q (.int (if i < 0 then -i else i)) H) (tCons ta tNil)) δ μ μ' (.int (if i < 0 then -i else i)) := fun F M σ H s Q q =>
  ha F M σ H s _ fun v H1 e1 s1 r1 => by
    cases r1
    exact ⟨i, rfl, q _ H1 e1 s1 (.int _)⟩
theorem ex_toI {i : Int} (ha : EX K ta δ μ μ' (.int i)) : EX K (tCB (fun xs H Q => (∃ i, xs = [.int i] ∧ Q (.int i) H) ∨ ∃ k, xs = [.bl k] ∧ Q (.int (if k then 1 else 0)) H) (tCons ta tNil)) δ μ μ' (.int i) := fun F M σ H s Q q =>
  ha F M σ H s _ fun v H1 e1 s1 r1 => by
    cases r1
    exact .inl ⟨i, rfl, q _ H1 e1 s1 (.int _)⟩
theorem ex_toB {b : Bool} (ha : EX K ta δ μ μ' (.bl b)) : EX K (tCB (fun xs H Q => (∃ i, xs = [.int i] ∧ Q (.int i) H) ∨ ∃ k, xs = [.bl k] ∧ Q (.int (if k then 1 else 0)) H) (tCons ta tNil)) δ μ μ' (.int (if b then 1 else 0)) := fun F M σ H s Q q =>
  ha F M σ H s _ fun v H1 e1 s1 r1 => by
    cases r1
    exact .inr ⟨b, rfl, q _ H1 e1 s1 (.int _)⟩
theorem RpAll.ints : ∀ {vs : List V} {ns : List Int}, RpAll K H vs (ns.map DV.int) → vs = ns.map V.int
  | _, [], .nil => rfl
  | _, n :: ns, .cons r t => by
    cases r
    rw [RpAll.ints t]
    rfl
theorem RpAll.bools : ∀ {vs : List V} {ns : List Bool}, RpAll K H vs (ns.map DV.bl) → vs = ns.map V.bl
  | _, [], .nil => rfl
  | _, n :: ns, .cons r t => by
    cases r
    rw [RpAll.bools t]
    rfl
theorem ex_sum {ns : List Int} (ha : EX K ta δ μ μ' (.lst (ns.map .int))) : EX K (tCB (rSum K) (tCons ta tNil)) δ μ μ' (.int ns.sum) := fun F M σ H s Q q =>
  ha F M σ H s _ fun v H1 e1 s1 r1 => by
    cases r1 with
    | lst h1 h2 =>
      cases h2.ints
      exact ⟨_, ns, rfl, ex_l hid_sub h1, q _ H1 e1 s1 (.int _)⟩
theorem ex_all {bs : List Bool} (ha : EX K ta δ μ μ' (.lst (bs.map .bl))) : EX K (tCB (rAll K) (tCons ta tNil)) δ μ μ' (.bl (bs.all id)) := fun F M σ H s Q q =>
  ha F M σ H s _ fun v H1 e1 s1 r1 => by
    cases r1 with
    | lst h1 h2 =>
      cases h2.bools
      exact ⟨_, bs, rfl, ex_l hid_sub h1, q _ H1 e1 s1 (.bl _)⟩
theorem ex_any {bs : List Bool} (ha : EX K ta δ μ μ' (.lst (bs.map .bl))) : EX K (tCB (rAny K) (tCons ta tNil)) δ μ μ' (.bl (bs.any id)) := fun F M σ H s Q q =>
  ha F M σ H s _ fun v H1 e1 s1 r1 => by
    cases r1 with
    | lst h1 h2 =>
      cases h2.bools
      exact ⟨_, bs, rfl, ex_l hid_sub h1, q _ H1 e1 s1 (.bl _)⟩
/-! ### slices, sums of sequences -/
def cutD (xs : List DV) (lo hi : Option Int) : List DV := (xs.drop (HT.sIx xs.length 0 lo)).take (HT.sIx xs.length xs.length hi - HT.sIx xs.length 0 lo)
theorem RpAll.cut {vs : List V} (lo hi : Option Int) (r : RpAll K H vs ds) : RpAll K H (cutV vs lo hi) (cutD ds lo hi) := by
  unfold cutV cutD
  rw [r.length]
  exact (r.drop _).take _
theorem ox_none : OX K tNoPart δ μ none := fun F M σ H s Q q => q H (Ex.refl _) s
theorem ox_some {i : Int} (h : EX K te δ μ μ (.int i)) : OX K (tPart te) δ μ (some i) := fun F M σ H s Q q => h F M σ H s _ fun v H1 e1 s1 r1 => by
  cases r1
  exact ⟨i, rfl, q H1 e1 s1⟩
theorem lx_sl {tl th : TO} {lo hi : Option Int} (h : EX K te δ μ μ' (.lst ds)) (h1 : OX K tl δ μ' lo) (h2 : OX K th δ μ' hi) : LX K (tSl (rSlL K) te tl th) δ μ μ' (cutD ds lo hi) := fun F M σ H s Q q =>
  h F M σ H s _ fun v H1 e1 s1 r1 => h1 F M σ H1 s1 _ fun H2 e2 s2 => h2 F M σ H2 s2 _ fun H3 e3 s3 => by
    cases r1 with
    | lst g1 g2 =>
      refine ⟨_, _, rfl, ex_l ((e2.trans e3).trans hid_sub) g1, fun p hp => ?_⟩
      have e13 := (e1.trans e2).trans e3
      exact q p _ (back_none s s3 e13 hp) (s3.fresh hp) (e13.trans (new_ex s3 hp)) (s3.newL hp ((g2.mono (e2.trans e3)).cut lo hi))
theorem lx_slB {tl th : TO} {lo hi : Option Int} {a : Addr} {j : Nat} (h : EX K te δ μ μ' (.box a)) (h1 : OX K tl δ μ' lo) (h2 : OX K th δ μ' hi) (hj : μ'[j]? = some (a, ds)) : LX K (tSl (rSlL K) te tl th) δ μ μ' (cutD ds lo hi) := fun F M σ H s Q q =>
  h F M σ H s _ fun v H1 e1 s1 r1 => h1 F M σ H1 s1 _ fun H2 e2 s2 => h2 F M σ H2 s2 _ fun H3 e3 s3 => by
    cases r1
    obtain ⟨vs, g1, g2⟩ := s3.sto _ (List.mem_of_getElem? hj)
    refine ⟨_, _, rfl, sq_of g1, fun p hp => ?_⟩
    have e13 := (e1.trans e2).trans e3
    exact q p _ (back_none s s3 e13 hp) (s3.fresh hp) (e13.trans (new_ex s3 hp)) (s3.newL hp (g2.cut lo hi))
theorem ex_slT {tl th : TO} {lo hi : Option Int} (h : EX K te δ μ μ' (.tup ds)) (h1 : OX K tl δ μ' lo) (h2 : OX K th δ μ' hi) : EX K (tSl (rSlA K) te tl th) δ μ μ' (.tup (cutD ds lo hi)) := fun F M σ H s Q q =>
  h F M σ H s _ fun v H1 e1 s1 r1 => h1 F M σ H1 s1 _ fun H2 e2 s2 => h2 F M σ H2 s2 _ fun H3 e3 s3 => by
    cases r1 with
    | @tup a xs _ g1 g2 =>
      have e13 := (e1.trans e2).trans e3
      have g3 := g2.mono (e2.trans e3)
      refine ⟨_, _, rfl, ex_t ((e2.trans e3).trans hid_sub) g1, fun hw => ?_, fun _ p hp => ?_⟩
      · have hc : cutD ds lo hi = ds := by
          unfold cutD
          rw [← g2.length, hw.1, hw.2, List.drop_zero, Nat.sub_zero, g2.length, List.take_length]
        refine q _ H3 e13 s3 ?_
        rw [hc]
        exact .tup (ex_t (e2.trans e3) g1) g3
      · exact q _ _ (e13.trans (new_ex s3 hp)) (s3.mono (Ex.new hp)) (.tup (st_of (hid_get (s3.fresh hp) upd_same)) ((g3.cut lo hi).mono (new_ex s3 hp)))
theorem ex_catT (ha : EX K ta δ μ μ' (.tup ds)) (hb : EX K tb δ μ' μ'' (.tup es)) (hl : ds.length + es.length ≤ 100000) : EX K (tOp (rCatA K) ta tb) δ μ μ'' (.tup (ds ++ es)) := fun F M σ H s Q q =>
  ha F M σ H s _ fun v H1 e1 s1 r1 => hb F M σ H1 s1 _ fun w H2 e2 s2 r2 => by
    cases r1 with
    | tup g1 g2 =>
      cases r2 with
      | tup k1 k2 =>
        have g3 := g2.mono e2
        refine ⟨_, _, _, _, rfl, rfl, ex_t (e2.trans hid_sub) g1, ex_t hid_sub k1, sz_of (by rw [g2.length, k2.length]; exact hl), fun hx => ?_, fun _ hy => ?_, fun _ _ p hp => ?_⟩
        · subst hx
          cases g2
          exact q _ H2 (e1.trans e2) s2 (.tup k1 k2)
        · subst hy
          cases k2
          exact q _ H2 (e1.trans e2) s2 (by rw [List.append_nil]; exact .tup (ex_t e2 g1) g3)
        · exact q _ _ ((e1.trans e2).trans (new_ex s2 hp)) (s2.mono (Ex.new hp)) (.tup (st_of (hid_get (s2.fresh hp) upd_same)) ((g3.app k2).mono (new_ex s2 hp)))
/-- list + list, both new -/
theorem lx_cat (ha : LX K ta δ μ μ' ds) (hb : LX K tb δ μ' μ'' es) (hl : ds.length + es.length ≤ 100000) : LX K (tOp rCat ta tb) δ μ μ'' (ds ++ es) := fun F M σ H s Q q =>
  ha F M σ H s _ fun p H1 hp hpM e1 s1 => by
    obtain ⟨vs, h1, r1⟩ := s1.sto (p, ds) (by simp)
    have sl := s1.lock h1
    refine hb _ _ σ H1 sl _ fun p2 H2 hp2 hpM2 e2 s2 => ?_
    obtain ⟨ws, h2, r2⟩ := s2.sto (p2, es) (by simp)
    obtain ⟨s3, _⟩ := s2.still hpM2
    have h1' : H2 p = some (.lst vs) := s3.fr p _ upd_same
    refine ⟨p, p2, vs, ws, rfl, rfl, h1', h2, sz_of (by rw [r1.length, r2.length]; exact hl), fun l hl0 => ?_⟩
    have r1' := r1.mono e2
    have r2' : RpAll K (hid (p :: M) H2) ws es := r2.mono (hid_less fun a ha => List.mem_cons_of_mem _ ha)
    have s4 := Sta.unlock (s.freshF hp) s3 r1'
    obtain ⟨s5, _⟩ := s4.still hpM
    have e12 : Ex (hid M H) (hid M H2) := ex_two hp e1 e2
    have up : Ex (hid (p :: M) H2) (hid M H2) := hid_less fun a ha => List.mem_cons_of_mem _ ha
    exact q l _ (back_none s s5 e12 hl0) (s5.fresh hl0) (e12.trans (new_ex s5 hl0)) (s5.newL hl0 ((r1'.mono up).app (r2'.mono up)))
end
end G
set_option Elab.async false
set_option linter.all false
set_option maxRecDepth 100000
namespace G
open PySem L2 Evl
mutual
def DV.py : DV → PyData
  | .non => .none
  | .bl b => .bool b
  | .int i => .int i
  | .str x => .str x
  | .lst ds => .list (pys ds)
  | .tup ds => .tuple (pys ds)
  | .ins _ _ => .none
  | .box _ => .none
def pys : List DV → List PyData
  | [] => []
  | d :: ds => d.py :: pys ds
end
mutual
def DV.pl : DV → Bool
  | .lst ds => pls ds
  | .tup ds => pls ds
  | .ins _ _ => false
  | .box _ => false
  | _ => true
def pls : List DV → Bool
  | [] => true
  | d :: ds => d.pl && pls ds
end
/-- an own class, as isinstance asks for it -/
structure OwnC (K : PySem.W.Frag) (C : Addr) : Prop where
  cl : Cls K C
  ha : PySem.W.findIn K (.ref C) "__class__" = some (some (.builtin "object.__class__"))
  hn : PySem.W.specialIn K (.builtin "object.__class__") "__get__" = some (some (.builtin "getset_descriptor.__get__"))
  htk : PySem.W.takesIn K (.builtin "object.__class__") = some true
  hm : PySem.W.mroIn K C (.type "object") = some true
inductive TyD (K : PySem.W.Frag) : DV → Value → Prop
  | non : TyD K .non (.type "NoneType")
  | bl {b : Bool} : TyD K (.bl b) (.type "bool")
  | int {i : Int} : TyD K (.int i) (.type "int")
  | str {x : Str} : TyD K (.str x) (.type "str")
  | lst {ds : List DV} : TyD K (.lst ds) (.type "list")
  | tup {ds : List DV} : TyD K (.tup ds) (.type "tuple")
  | ins {C : Addr} {fs : List (Str × DV)} (c : OwnC K C) : TyD K (.ins C fs) (.ref C)
section
variable {K : PySem.W.Frag} {F H H' H0 : Hp} {M : List Addr} {δ δ' : List (Option DV)} {μ μ' μ'' : Sto} {σ : L2.St} {ta tb te : TE} {t u : TT} {d e : DV} {ds es : List DV}
mutual
theorem Rp.dp : ∀ {d : DV} {v : V}, d.pl = true → Rp K H v d → Dp K H v d.py
  | .non, _, _, h => by cases h; exact .non
  | .bl b, _, _, h => by cases h; exact .bl _
  | .int b, _, _, h => by cases h; exact .int _
  | .str b, _, _, h => by cases h; exact .str _
  | .lst ds, _, p, h => by cases h with | lst h1 h2 => exact .lst h1 (RpAll.dp p h2)
  | .tup ds, _, p, h => by cases h with | tup h1 h2 => exact .tup h1 (RpAll.dp p h2)
  | .ins C ds, _, p, h => nomatch p
  | .box a, _, p, h => nomatch p
theorem RpAll.dp : ∀ {ds : List DV} {vs : List V}, pls ds = true → RpAll K H vs ds → DpAll K H vs (pys ds)
  | [], _, _, h => by cases h; exact .nil
  | d :: ds, _, p, h => by
    have p' : (d.pl && pls ds) = true := p
    rw [Bool.and_eq_true] at p'
    cases h with | cons h1 h2 => exact .cons (Rp.dp p'.1 h1) (RpAll.dp p'.2 h2)
end
/-- == and != of data -/
theorem ex_eqD (ha : EX K ta δ μ μ' d) (hb : EX K tb δ μ' μ'' e) (p1 : d.pl = true) (p2 : e.pl = true) (s1 : SeqAt.shaped d.py = true) (s2 : SeqAt.shaped e.py = true) : EX K (tOp (rEqD K) ta tb) δ μ μ'' (.bl (PyData.eqv d.py e.py)) := fun F M σ H s Q q =>
  ha F M σ H s _ fun v H1 e1 z1 r1 => hb F M σ H1 z1 _ fun w H2 e2 z2 r2 =>
    ⟨_, _, Rp.dp p1 (((r1.mono e2)).mono hid_sub), Rp.dp p2 (r2.mono hid_sub), s1, s2, q _ H2 (e1.trans e2) z2 (.bl _)⟩
theorem ex_neD (ha : EX K ta δ μ μ' d) (hb : EX K tb δ μ' μ'' e) (p1 : d.pl = true) (p2 : e.pl = true) (s1 : SeqAt.shaped d.py = true) (s2 : SeqAt.shaped e.py = true) : EX K (tOp (rNeD K) ta tb) δ μ μ'' (.bl (!PyData.eqv d.py e.py)) := fun F M σ H s Q q =>
  ha F M σ H s _ fun v H1 e1 z1 r1 => hb F M σ H1 z1 _ fun w H2 e2 z2 r2 =>
    ⟨_, _, Rp.dp p1 (((r1.mono e2)).mono hid_sub), Rp.dp p2 (r2.mono hid_sub), s1, s2, q _ H2 (e1.trans e2) z2 (.bl _)⟩
theorem tyl {a : Addr} {xs : List V} (h : SqL K H a xs) : TyX K H (.ref a) (.type "list") := by
  rcases h with (h | ⟨o, h⟩) | ⟨o, its, n, h1, h2, _⟩
  · exact .base (.lst h)
  · exact .base (.frz h)
  · exact .kList h1 h2
theorem tyt {a : Addr} {xs : List V} (h : SqT K H a xs) : TyX K H (.ref a) (.type "tuple") := by
  rcases h with (h | ⟨o, h⟩) | ⟨o, its, n, h1, h2, _⟩
  · exact .base (.tup h)
  · exact .fTuple h
  · exact .kTuple h1 h2
theorem TyD.x {v : V} {t : Value} (ty : TyD K d t) (r : Rp K H v d) : TyX K H v t := by
  cases ty with
  | non => cases r; exact .base .non
  | bl => cases r; exact .base (.bl _)
  | int => cases r; exact .base (.int _)
  | str => cases r; exact .base (.str _)
  | lst => cases r with | lst h _ => exact tyl h
  | tup => cases r with | tup h _ => exact tyt h
  | ins c => cases r with | ins h _ => exact .base (.ins h c.cl c.ha c.hn c.htk c.hm)
/-- isinstance(x, C) -/
theorem ex_isi {c : V} {w z : Value} {b : Bool} (ha : EX K ta δ μ μ' d) (ty : TyD K d w) (k : ClsV c z) (h : PySem.W.kitOne K w z = some b) (hs : tb = tC c := by rfl) : EX K (tCB (rIsi K) (tCons ta (tCons tb tNil))) δ μ μ' (.bl b) := fun F M σ H s Q q =>
  ha F M σ H s _ fun v H1 e1 z1 r1 => by
    subst hs
    exact ⟨v, c, w, z, b, rfl, k, ty.x (r1.mono hid_sub), h, q _ H1 e1 z1 (.bl _)⟩
theorem ex_isiB {n : String} {w : String} {b : Bool} (ha : EX K ta δ μ μ' d) (ty : TyD K d (.type w)) (h : kitB w n = some b) : EX K (tCB (rIsi K) (tCons ta (tCons (tC (.ty n)) tNil))) δ μ μ' (.bl b) := ex_isi ha ty (.ty n) (kit_ty h)
/-- isinstance(x, (A, B)) -/
theorem ex_isi2 {n m : String} {w : Value} {b : Bool} (ha : EX K ta δ μ μ' d) (ty : TyD K d w) (h : PySem.W.kitAny K w [.type n, .type m] = some b) : EX K (tCB (rIsiT K) (tCons ta (tCons (tTup (tCons (tC (.ty n)) (tCons (tC (.ty m)) tNil))) tNil))) δ μ μ' (.bl b) := fun F M σ H s Q q =>
  ha F M σ H s _ fun v H1 e1 z1 r1 => by
    refine ⟨(by show 2 ≤ sizeLine; decide), fun p hp => ?_⟩
    exact ⟨v, p, [.ty n, .ty m], w, [.type n, .type m], b, rfl, upd_same, .cons (.ty n) (.cons (.ty m) .nil), ty.x ((r1.mono (new_ex z1 hp)).mono hid_sub), h, q _ _ (e1.trans (new_ex z1 hp)) (z1.mono (Ex.new hp)) (.bl _)⟩
theorem kit2 {a n m : String} {b c r : Bool} (h1 : kitB a n = some b) (h2 : kitB a m = some c) (h : (b || c) = r) : PySem.W.kitAny K (.type a) [.type n, .type m] = some r := by
  subst h
  refine kitAny_cons (kit_ty h1) (fun hb => ?_) (fun hb => by rw [hb]; rfl)
  rw [hb]
  refine kitAny_cons (kit_ty h2) (fun hc => ?_) (fun hc => by rw [hc]; rfl)
  rw [hc]
  exact kitAny_nil
/-- o.f -/
theorem ex_fld {C : Addr} {fs : List (Str × DV)} {f : Str} (ha : EX K ta δ μ μ' (.ins C fs)) (c : Cls K C) (n : NoAttr K C f) (h : fs.lookup f = some d) : EX K (tFld K ta f) δ μ μ' d := fun F M σ H s Q q =>
  ha F M σ H s _ fun v H1 e1 s1 r1 => by
    cases r1 with
    | ins h1 h2 =>
      obtain ⟨w, l, r⟩ := h2.look h
      exact ⟨_, C, _, _, w, rfl, hid_sub _ _ h1, c, n, l, q w H1 e1 s1 r⟩

/-! ### what defs promise -/
/-- from data to data, all that stood stands -/
def spD (K : PySem.W.Frag) (R : List DV → DV → Prop) : Sp := fun vs H Q _ => ∃ M ds r, (∀ a ∈ M, H a ≠ none) ∧ RpAll K (hid M H) vs ds ∧ R ds r ∧ ∀ v H', Ex H H' → Rp K (hid M H') v r → Q v H'
/-- .. to a new list -/
def spL (K : PySem.W.Frag) (R : List DV → List DV → Prop) : Sp := fun vs H Q _ => ∃ M ds rs, (∀ a ∈ M, H a ≠ none) ∧ RpAll K (hid M H) vs ds ∧ R ds rs ∧ ∀ p ws H', H p = none → Ex H H' → H' p = some (.lst ws) → RpAll K (hid (p :: M) H') ws rs → Q (.ref p) H'
/-- .. the first argument a list that is changed: from its items s to s' -/
def spS (K : PySem.W.Frag) (R : List DV → List DV → List DV → DV → Prop) : Sp := fun vs H Q _ => ∃ M st ws xs s ds s' r, vs = .ref st :: ws ∧ st ∈ M ∧ (∀ a ∈ M, H a ≠ none) ∧ H st = some (.lst xs) ∧ RpAll K (hid M H) xs s ∧ RpAll K (hid M H) ws ds ∧ R s ds s' r ∧
  ∀ v xs' H', (∀ a o, a ≠ st → H a = some o → H' a = some o) → H' st = some (.lst xs') → RpAll K (hid M H') xs' s' → Rp K (hid M H') v r → Q v H'
theorem ex_call {R : List DV → DV → Prop} {ta : TA} {E : XK} (ha : AX K ta δ μ μ' ds) (h : R ds d) : EX K (tCall (spD K R) [] E ta) δ μ μ' d := fun F M σ H s Q q =>
  ha F M σ H s _ fun vs H1 e1 s1 r1 => ⟨M, ds, d, s1.al, by rw [List.append_nil]; exact r1, h, fun v H2 e2 r => q v H2 (e1.trans (hid_mono e2)) (s1.mono e2) r⟩
theorem Sta.newP (s : Sta K F M δ μ σ H) (e : Ex H H') {p : Addr} {ws : List V} (h0 : H p = none) (h1 : H' p = some (.lst ws)) (r : RpAll K (hid (p :: M) H') ws ds) : Sta K F (p :: M) δ ((p, ds) :: μ) σ H' := by
  have hp := s.fresh h0
  have s' := s.mono e
  have up : Ex (hid M H) (hid (p :: M) H') := fun a o h => by
    have hn := hid_no h
    have hap : a ≠ p := ne_of_none (hid_sub a o h) h0
    exact hid_get (by simp [hap, hn]) (e _ _ (hid_sub _ _ h))
  have key : ∀ q ∈ μ, q.1 ≠ p := fun q hq hqp => hp (by rw [← hqp]; exact (s.dm q hq).1)
  refine ⟨fun a ha => ?_, s'.fr, fun q hq => ?_, ?_, fun q hq => ?_, fun i d h => ?_, s.len⟩
  · rcases List.mem_cons.mp ha with rfl | ha
    · rw [h1]; simp
    · exact s'.al a ha
  · rcases List.mem_cons.mp hq with rfl | hq
    · exact ⟨by simp, s.freshF h0⟩
    · exact ⟨List.mem_cons_of_mem _ (s.dm q hq).1, (s.dm q hq).2⟩
  · rw [List.map_cons, List.nodup_cons]
    refine ⟨fun hm => ?_, s.nd⟩
    obtain ⟨q, hq, hqp⟩ := List.mem_map.mp hm
    exact key q hq hqp
  · rcases List.mem_cons.mp hq with rfl | hq
    · exact ⟨ws, h1, r⟩
    · obtain ⟨xs, g1, g2⟩ := s.sto q hq
      exact ⟨xs, e _ _ g1, g2.mono up⟩
  · obtain ⟨v, g1, g2⟩ := s.env i d h
    exact ⟨v, g1, g2.mono up⟩
theorem lx_call {R : List DV → List DV → Prop} {ta : TA} {E : XK} (ha : AX K ta δ μ μ' ds) (h : R ds es) : LX K (tCall (spL K R) [] E ta) δ μ μ' es := fun F M σ H s Q q =>
  ha F M σ H s _ fun vs H1 e1 s1 r1 => ⟨M, ds, es, s1.al, by rw [List.append_nil]; exact r1, h, fun p ws H2 hp e2 h2 r =>
    q p H2 (back_none s s1 e1 hp) (s1.fresh hp) (e1.trans (hid_mono e2)) (s1.newP e2 hp h2 r)⟩
theorem set_fst {μ : Sto} {j : Nat} {l : Addr} {ds ds' : List DV} (hj : μ[j]? = some (l, ds)) : (μ.set j (l, ds')).map Prod.fst = μ.map Prod.fst := by
  rw [List.map_set]
  refine List.ext_getElem? fun n => ?_
  by_cases e : j = n
  · subst e
    have hl : j < (μ.map Prod.fst).length := by
      rw [List.length_map]
      exact (List.getElem?_eq_some_iff.mp hj).1
    rw [List.getElem?_set_self hl, List.getElem?_map, hj]
    rfl
  · rw [List.getElem?_set_ne e]
theorem Sta.after (s : Sta K F M δ μ σ H) {j : Nat} {l : Addr} {xs' : List V} {ds' : List DV} (hj : μ[j]? = some (l, ds)) (k : ∀ a o, a ≠ l → H a = some o → H' a = some o) (h : H' l = some (.lst xs')) (r : RpAll K (hid M H') xs' ds') :
    Sta K F M δ (μ.set j (l, ds')) σ H' ∧ Ex (hid M H) (hid M H') := by
  have hm : (l, ds) ∈ μ := List.mem_of_getElem? hj
  have hlM := (s.dm _ hm).1
  have ex : Ex (hid M H) (hid M H') := fun a o q => by
    have hn := hid_no q
    exact hid_get hn (k a o (fun e => hn (by rw [e]; exact hlM)) (hid_sub _ _ q))
  refine ⟨⟨fun a ha => ?_, fun a o q => ?_, fun q hq => ?_, ?_, fun q hq => ?_, fun i d q => ?_, s.len⟩, ex⟩
  · by_cases e : a = l
    · rw [e, h]; simp
    · intro q
      cases g : H a with
      | none => exact s.al a ha g
      | some o => rw [k a o e g] at q; cases q
  · exact k a o (ne_of_none q (s.dm _ hm).2) (s.fr a o q)
  · rcases List.mem_or_eq_of_mem_set hq with z | z
    · exact s.dm q z
    · subst z
      exact ⟨hlM, (s.dm _ hm).2⟩
  · rw [set_fst hj]
    exact s.nd
  · obtain ⟨n, hn⟩ := List.getElem?_of_mem hq
    by_cases e : j = n
    · subst e
      rw [List.getElem?_set_self (List.getElem?_eq_some_iff.mp hj).1] at hn
      cases hn
      exact ⟨xs', h, r⟩
    · rw [List.getElem?_set_ne e] at hn
      obtain ⟨ws, g1, g2⟩ := s.sto q (List.mem_of_getElem? hn)
      refine ⟨ws, ?_, g2.mono ex⟩
      have hne : q.1 ≠ l := fun z => e (by
        have a1 : (μ.map Prod.fst)[n]? = some l := by rw [List.getElem?_map, hn, ← z]; rfl
        have a2 : (μ.map Prod.fst)[j]? = some l := by rw [List.getElem?_map, hj]; rfl
        exact nd_ix s.nd a2 a1)
      exact k _ _ hne g1
  · obtain ⟨v, g1, g2⟩ := s.env i d q
    exact ⟨v, g1, g2.mono ex⟩
/-- a call that changes the list in the store's j-th place -/
theorem ex_callS {R : List DV → List DV → List DV → DV → Prop} {ta : TE} {tr : TA} {E : XK} {l : Addr} {j : Nat} {s0 s1 : List DV} (ha : EX K ta δ μ μ (.box l)) (hr : AX K tr δ μ μ ds) (hj : μ[j]? = some (l, s0)) (h : R s0 ds s1 d) :
    EX K (tCall (spS K R) [] E (tCons ta tr)) δ μ (μ.set j (l, s1)) d := fun F M σ H s Q q =>
  ha F M σ H s _ fun v H1 e1 g1 r1 => hr F M σ H1 g1 _ fun vs H2 e2 g2 r2 => by
    cases r1
    have hm : (l, s0) ∈ μ := List.mem_of_getElem? hj
    obtain ⟨xs, k1, k2⟩ := g2.sto _ hm
    refine ⟨M, l, vs, xs, s0, ds, s1, d, by rw [List.append_nil], (g2.dm _ hm).1, g2.al, k1, k2, r2, h, fun v xs' H3 k e3 r3 rv => ?_⟩
    obtain ⟨g3, x3⟩ := g2.after hj k e3 r3
    exact q v H3 ((e1.trans e2).trans x3) g3 rv
/-- o.m(..), o an instance that stands still -/
theorem ex_meth {R : List DV → DV → Prop} {tr : TA} {E : XK} {C : Addr} {fs : List (Str × DV)} {m : Str} (ha : EX K ta δ μ μ' (.ins C fs)) (hn : fs.lookup m = none) (hr : AX K tr δ μ' μ'' ds) (h : R (.ins C fs :: ds) d) :
    EX K (tMeth C m (spD K R) [] E ta tr) δ μ μ'' d := fun F M σ H s Q q =>
  ha F M σ H s _ fun v H1 e1 g1 r1 => by
    cases r1 with
    | @ins a _ dx vs _ h1 h2 =>
      refine ⟨a, dx, vs, rfl, hid_sub _ _ h1, h2.lookN hn, hr F M σ H1 g1 _ fun ws H2 e2 g2 r2 => ?_⟩
      refine ⟨M, _, d, g2.al, ?_, h, fun v H3 e3 r => q v H3 ((e1.trans e2).trans (hid_mono e3)) (g2.mono e3) r⟩
      rw [List.append_nil]
      exact .cons (Rp.mono e2 (.ins h1 h2)) r2
/-- C(..): __init__ makes the instance's fields -/
def spI (K : PySem.W.Frag) (C : Addr) (R : List DV → List (Str × DV) → Prop) : Sp := fun vs H Q _ => ∃ M x dx ws ds fs, vs = .ref x :: ws ∧ H x = some (.ins C dx []) ∧ x ∉ M ∧ (∀ a ∈ M, H a ≠ none) ∧ RpAll K (hid (x :: M) H) ws ds ∧ R ds fs ∧
  ∀ H' fs', (∀ a o, a ≠ x → H a = some o → H' a = some o) → H' x = some (.ins C dx fs') → RpF K (hid (x :: M) H') fs' fs → Q .non H'
theorem ex_make {C : Addr} {R : List DV → List (Str × DV) → Prop} {tr : TA} {E : XK} {dvs : List V} {dd : List DV} {fs : List (Str × DV)} (hr : AX K tr δ μ μ' ds) (hd : ∀ H, RpAll K H dvs dd) (h : R (ds ++ dd) fs) :
    EX K (tMake C (spI K C R) dvs E tr) δ μ μ' (.ins C fs) := fun F M σ H s Q q =>
  hr F M σ H s _ fun vs H1 e1 g1 r1 => fun x dx hx hdx hne => by
    have n1 : (upd H1 dx (.own x)) x = none := by
      rw [upd_ne hne.symm]
      exact hx
    have e2 : Ex H1 (upd (upd H1 dx (.own x)) x (.ins C dx [])) := (Ex.new hdx).trans (Ex.new n1)
    have hxM := g1.fresh hx
    have up : Ex (hid M H1) (hid (x :: M) (upd (upd H1 dx (.own x)) x (.ins C dx []))) := fun a o k => by
      have hn := hid_no k
      have hax : a ≠ x := ne_of_none (hid_sub a o k) hx
      exact hid_get (by simp [hax, hn]) (e2 _ _ (hid_sub _ _ k))
    refine ⟨M, x, dx, vs ++ dvs, ds ++ dd, fs, rfl, upd_same, hxM, (g1.mono e2).al, (r1.mono up).app (hd _), h, fun H' fs' k hx' rf => ⟨rfl, ?_⟩⟩
    have e3 : Ex H1 H' := fun a o z => k a o (ne_of_none z hx) (e2 a o z)
    exact q _ H' (e1.trans (hid_mono e3)) (g1.mono e3) (.ins (hid_get hxM hx') (rf.mono (hid_less fun a ha => List.mem_cons_of_mem _ ha)))
end
end G
set_option Elab.async false
set_option linter.all false
set_option maxRecDepth 100000
namespace G
open PySem L2 Evl
abbrev Env := List (Option DV)
/-- B: the data that stands while things are walked; b: how a turn binds the slots js -/
structure Turns (K : PySem.W.Frag) (g : TG) (B : Hp) (J : It) (n : Nat) (js : List Nat) (b : Nat → Env → Env) : Prop where
  go : ∀ i H M, Ex B (hid M H) → i < n → J.go i H
  stop : ∀ H M, Ex B (hid M H) → J.stop n H
  bind : ∀ i H x H' F M δ μ σ, i < n → Ex B (hid M H) → Sta K F M δ μ σ H → J.yld i H x H' → ∀ Q : L2.St → Hp → Prop,
    (∀ σ', Ex H H' → Sta K F M (b i δ) μ σ' H' → σ'.length = σ.length → (∀ k, k ∉ js → σ'[k]? = σ[k]?) → Q σ' H') → g x σ H' Q
def WX (K : PySem.W.Frag) (wi : TI) (g : TG) (δ : Env) (μ μ' : Sto) (n : Nat) (js : List Nat) (b : Nat → Env → Env) : Prop :=
  ∀ F M σ H, Sta K F M δ μ σ H → ∀ R : It → Hp → Prop, (∀ J H', Ex (hid M H) (hid M H') → Sta K F M δ μ' σ H' → Turns K g (hid M H') J n js b → R J H') → wi σ H R
section
variable {K : PySem.W.Frag} {F H H' H0 : Hp} {M : List Addr} {δ δ' : Env} {μ μ' μ'' : Sto} {σ : L2.St} {ta tb te tl : TE} {t u : TT} {d e : DV} {ds es : List DV} {j : Nat}
theorem set_len {α : Type} {σ : List α} {j : Nat} {x : α} : (σ.set j x).length = σ.length := by simp
theorem set_out {α : Type} {σ : List α} {j : Nat} {x : α} : ∀ k, k ∉ [j] → (σ.set j x)[k]? = σ[k]? := fun k hk => List.getElem?_set_ne (by simp at hk; exact fun e => hk e.symm)
/-- one name, the item told by Y -/
theorem turns_name {J : It} {n : Nat} {B : Hp} {Gd : Hp → Prop} {Y : Nat → Hp → V → Hp → Prop} {f : Nat → DV} (w : Walk J n Gd Y) (hG : ∀ H M, Ex B (hid M H) → Gd H) (hY : ∀ i H x H' M, i < n → Ex B (hid M H) → Y i H x H' → H' = H ∧ Rp K B x (f i)) :
    Turns K (gName j) B J n [j] (fun i δ => δ.set j (some (f i))) where
  go := fun i H M e hi => w.goes i H hi (hG H M e)
  stop := fun H M e => w.stops H (hG H M e)
  bind := fun i H x H' F M δ μ σ hi e s y Q q => by
    obtain ⟨h1, h2⟩ := hY i H x H' M hi e (w.yields i H x H' hi (hG H M e) y)
    subst h1
    exact q _ (Ex.refl _) (s.put (h2.mono e)) set_len set_out
theorem wx_range1 {ta : TA} {n : Int} (h : AX K ta δ μ μ' [.int n]) (h1 : -(2 ^ 62) ≤ n) (h2 : n < 2 ^ 62) : WX K (iRng1 ta) (gName j) δ μ μ' n.toNat [j] (fun i δ => δ.set j (some (.int (i : Nat)))) := fun F M σ H s R r =>
  h F M σ H s _ fun vs H1 e1 s1 r1 => by
    cases r1 with
    | cons a b =>
      cases a
      cases b
      refine ⟨n, rfl, h1, h2, r _ H1 e1 s1 (turns_name walk_range (fun _ _ _ => True.intro) fun i H x H' M hi e y => ⟨y.1, ?_⟩)⟩
      rw [y.2]
      show Rp K _ (V.int (0 + (i : Int))) (DV.int (i : Int))
      rw [Int.zero_add]
      exact .int _
theorem wx_range2 {ta : TA} {m n : Int} (h : AX K ta δ μ μ' [.int m, .int n]) (h0 : -(2 ^ 62) ≤ m ∧ m < 2 ^ 62) (h1 : -(2 ^ 62) ≤ n ∧ n < 2 ^ 62) : WX K (iRng2 ta) (gName j) δ μ μ' (n - m).toNat [j] (fun i δ => δ.set j (some (.int (m + (i : Nat))))) := fun F M σ H s R r =>
  h F M σ H s _ fun vs H1 e1 s1 r1 => by
    cases r1 with
    | cons a b =>
      cases a
      cases b with
      | cons a b =>
        cases a
        cases b
        refine ⟨m, n, rfl, ⟨h0.1, h0.2, h1.1, h1.2⟩, r _ H1 e1 s1 (turns_name walk_range (fun _ _ _ => True.intro) fun i H x H' M hi e y => ⟨y.1, ?_⟩)⟩
        rw [y.2]
        exact .int _
theorem wx_list (h : EX K tl δ μ μ' (.lst ds)) : WX K (iList K tl) (gName j) δ μ μ' ds.length [j] (fun i δ => δ.set j (some (ds.getD i .non))) := fun F M σ H s R r =>
  h F M σ H s _ fun v H1 e1 s1 r1 => by
    cases r1 with
    | @lst a vs _ g1 g2 =>
      refine ⟨a, rfl, ⟨vs, ex_l hid_sub g1⟩, r _ H1 e1 s1 ?_⟩
      rw [← g2.length]
      refine turns_name (walk_list (xs := vs)) (fun H M e => ex_l (e.trans hid_sub) g1) fun i H x H' M hi e y => ⟨y.1, ?_⟩
      obtain ⟨d, hd, rd⟩ := g2.get' y.2
      rw [List.getD_eq_getElem?_getD, hd]
      exact rd
theorem wx_tup (h : EX K tl δ μ μ' (.tup ds)) : WX K (iTup K tl) (gName j) δ μ μ' ds.length [j] (fun i δ => δ.set j (some (ds.getD i .non))) := fun F M σ H s R r =>
  h F M σ H s _ fun v H1 e1 s1 r1 => by
    cases r1 with
    | @tup a vs _ g1 g2 =>
      refine ⟨a, rfl, ⟨vs, ex_t hid_sub g1⟩, r _ H1 e1 s1 ?_⟩
      rw [← g2.length]
      refine turns_name (walk_tup (xs := vs)) (fun H M e => ex_t (e.trans hid_sub) g1) fun i H x H' M hi e y => ⟨y.1, ?_⟩
      obtain ⟨d, hd, rd⟩ := g2.get' y.2
      rw [List.getD_eq_getElem?_getD, hd]
      exact rd
/-- list or tuple: one derivation for both -/
def iSeq (K : PySem.W.Frag) (tl : TE) : TI := fun σ H R => tl σ H fun x H1 => ∃ a, x = .ref a ∧ (((∃ xs, SqL K H1 a xs) ∧ R (Itl K a) H1) ∨ ((∃ xs, SqT K H1 a xs) ∧ R (Itt K a) H1))
theorem pi_seq {X : Cx} {tg l : Expr} {tl : TE} (hl : PE X l tl) : PI X tg l (iSeq X.K tl) where
  run := fun pins s σ H R I h => thn (hl.run pins s σ H _ I h) fun v s1 ⟨x, H1, I1, r1, a, ex, q⟩ => by
    subst ex
    cases r1
    have fr : ∀ b ∈ [s1.heap.objs.size], FpOk X pins H1 b := fun b hb => by
      rw [List.mem_singleton] at hb
      rw [hb]
      exact I1.fpOk (Nat.le_refl _) (I1.hok.fresh (Nat.le_refl _))
    rcases q with ⟨⟨xs, hq⟩, q⟩ | ⟨⟨xs, hq⟩, q⟩
    · obtain ⟨its, _, p, _⟩ := I1.list hq
      exact wpAny_pyIter_list p.isList ⟨_, [s1.heap.objs.size], _, Itl X.K a, H1, rfl, I1.kept (t' := s1.toks) (fun b o e => Heap.get?_push_of_some _ e), turn_list a _, ⟨_, Heap.get?_push_size _ rfl, rfl, rfl⟩, fr, q⟩
    · obtain ⟨its, _, p, _⟩ := I1.tuple hq
      exact wpAny_pyIter_tuple (items := its.toArray) p ⟨_, [s1.heap.objs.size], _, Itt X.K a, H1, rfl, I1.kept (t' := s1.toks) (fun b o e => Heap.get?_push_of_some _ e), turn_tuple a _, ⟨_, Heap.get?_push_size _ rfl, rfl, rfl⟩, fr, q⟩
/-- a sequence of data that stands still -/
inductive Seq : DV → List DV → Prop
  | lst (ds : List DV) : Seq (.lst ds) ds
  | tup (ds : List DV) : Seq (.tup ds) ds
theorem Seq.items {μ : Sto} (h : Seq d ds) : Items μ d ds := by
  cases h with
  | lst => exact .lst _
  | tup => exact .tup _
theorem wx_seq (h : EX K tl δ μ μ' d) (sq : Seq d ds) : WX K (iSeq K tl) (gName j) δ μ μ' ds.length [j] (fun i δ => δ.set j (some (ds.getD i .non))) := fun F M σ H s R r =>
  h F M σ H s _ fun v H1 e1 s1 r1 => by
    cases sq with
    | lst =>
      cases r1 with
      | @lst a vs _ g1 g2 =>
        refine ⟨a, rfl, .inl ⟨⟨vs, ex_l hid_sub g1⟩, r _ H1 e1 s1 ?_⟩⟩
        rw [← g2.length]
        refine turns_name (walk_list (xs := vs)) (fun H M e => ex_l (e.trans hid_sub) g1) fun i H x H' M hi e y => ⟨y.1, ?_⟩
        obtain ⟨d, hd, rd⟩ := g2.get' y.2
        rw [List.getD_eq_getElem?_getD, hd]
        exact rd
    | tup =>
      cases r1 with
      | @tup a vs _ g1 g2 =>
        refine ⟨a, rfl, .inr ⟨⟨vs, ex_t hid_sub g1⟩, r _ H1 e1 s1 ?_⟩⟩
        rw [← g2.length]
        refine turns_name (walk_tup (xs := vs)) (fun H M e => ex_t (e.trans hid_sub) g1) fun i H x H' M hi e y => ⟨y.1, ?_⟩
        obtain ⟨d, hd, rd⟩ := g2.get' y.2
        rw [List.getD_eq_getElem?_getD, hd]
        exact rd
/-- a, b = a pair -/
theorem turns_pair {J : It} {n : Nat} {B : Hp} {Gd : Hp → Prop} {A1 A2 : Nat → Option V} {f1 f2 : Nat → DV} {j1 j2 : Nat} (w : Walk J n Gd (YPair A1 A2)) (hG : ∀ H M, Ex B (hid M H) → Gd H)
    (h1 : ∀ i x, i < n → A1 i = some x → Rp K B x (f1 i)) (h2 : ∀ i x, i < n → A2 i = some x → Rp K B x (f2 i)) :
    Turns K (gTup K 2 (gCons (gName j1) (gCons (gName j2) gNil))) B J n [j1, j2] (fun i δ => (δ.set j1 (some (f1 i))).set j2 (some (f2 i))) where
  go := fun i H M e hi => w.goes i H hi (hG H M e)
  stop := fun H M e => w.stops H (hG H M e)
  bind := fun i H x H' F M δ μ σ hi e s y Q q => by
    obtain ⟨T, x1, x2, rfl, hT, rfl, a1, a2⟩ := w.yields i H x H' hi (hG H M e) y
    have eT : Ex H (upd H T (.tup [x1, x2])) := Ex.new hT
    have e' : Ex B (hid M (upd H T (.tup [x1, x2]))) := e.trans (hid_mono eT)
    refine ⟨T, [x1, x2], rfl, st_of upd_same, rfl, x1, [x2], rfl, x2, [], rfl, rfl, ?_⟩
    refine q _ eT (((s.mono eT).put ((h1 i x1 hi a1).mono e')).put ((h2 i x2 hi a2).mono e')) (by simp) fun k hk => ?_
    simp at hk
    rw [List.getElem?_set_ne (fun z => hk.2 z.symm), List.getElem?_set_ne (fun z => hk.1 z.symm)]
theorem wx_enum {ta : TA} {j1 j2 : Nat} (h : AX K ta δ μ μ' [.lst ds]) : WX K (iEnum K ta) (gTup K 2 (gCons (gName j1) (gCons (gName j2) gNil))) δ μ μ' ds.length [j1, j2] (fun i δ => (δ.set j1 (some (.int (i : Nat)))).set j2 (some (ds.getD i .non))) := fun F M σ H s R r =>
  h F M σ H s _ fun vs H1 e1 s1 r1 => by
    cases r1 with
    | cons a b =>
      cases b
      cases a with
      | @lst a vs _ g1 g2 =>
        refine ⟨a, vs, rfl, ex_l hid_sub g1, r _ H1 e1 s1 ?_⟩
        rw [← g2.length]
        refine turns_pair walk_enum (fun H M e => ex_l (e.trans hid_sub) g1) (fun i x _ hx => ?_) fun i x _ hx => ?_
        · cases hx
          exact .int _
        · obtain ⟨d, hd, rd⟩ := g2.get' hx
          rw [List.getD_eq_getElem?_getD, hd]
          exact rd
/-! ### comprehensions -/
def wipeD (δ : Env) : List Nat → Env
  | [] => δ
  | v :: vs => (wipeD δ vs).set v none
theorem Sta.wiped (s : Sta K F M δ μ σ H) : ∀ vs : List Nat, Sta K F M (wipeD δ vs) μ (wipe σ vs) H
  | [] => s
  | v :: vs => (Sta.wiped s vs).putN
theorem wipe_at {σ : L2.St} {k : Nat} : ∀ {vs : List Nat}, (wipe σ vs)[k]? = if k ∈ vs then (if k < σ.length then some none else none) else σ[k]?
  | [] => by simp [wipe]
  | v :: vs => by
    unfold wipe
    by_cases e : v = k
    · subst e
      rw [if_pos (by simp)]
      by_cases hl : v < σ.length
      · rw [if_pos hl, List.getElem?_set_self (by rw [wipe_length]; exact hl)]
      · rw [if_neg hl, List.getElem?_eq_none (by rw [List.length_set, wipe_length]; omega)]
    · rw [List.getElem?_set_ne e, wipe_at (vs := vs)]
      by_cases hk : k ∈ vs
      · rw [if_pos hk, if_pos (List.mem_cons_of_mem _ hk)]
      · rw [if_neg hk, if_neg (fun z => (List.mem_cons.mp z).elim (fun q => e q.symm) hk)]
theorem wipe_eq {σ τ : L2.St} {vs : List Nat} (hl : τ.length = σ.length) (h : ∀ k, k ∉ vs → τ[k]? = σ[k]?) : wipe τ vs = wipe σ vs := by
  refine List.ext_getElem? fun k => ?_
  rw [wipe_at, wipe_at]
  by_cases hk : k ∈ vs
  · rw [if_pos hk, if_pos hk, hl]
  · rw [if_neg hk, if_neg hk, h k hk]
/-- a frame that holds the data, too -/
theorem Sta.widen (s : Sta K F M δ μ σ H) : Sta K (hid (μ.map Prod.fst) H) M δ μ σ H ∧ Ex F (hid (μ.map Prod.fst) H) ∧ Ex (hid M H) (hid (μ.map Prod.fst) H) :=
  ⟨⟨s.al, hid_sub, fun p hp => ⟨(s.dm p hp).1, by unfold hid; rw [if_pos (List.mem_map.mpr ⟨p, hp, rfl⟩)]⟩, s.nd, s.sto, s.env, s.len⟩,
    fun a o q => hid_get (fun hm => by
      obtain ⟨p, hp, e⟩ := List.mem_map.mp hm
      have := (s.dm p hp).2
      rw [e, q] at this
      cases this) (s.fr a o q),
    hid_less fun a ha => by
      obtain ⟨p, hp, e⟩ := List.mem_map.mp ha
      rw [← e]
      exact (s.dm p hp).1⟩
theorem Sta.narrow {F1 : Hp} (s : Sta K F1 M δ μ σ H) (e : Ex F F1) : Sta K F M δ μ σ H :=
  ⟨s.al, e.trans s.fr, fun p hp => ⟨(s.dm p hp).1, by
    cases q : F p.1 with
    | none => rfl
    | some o =>
      have := (s.dm p hp).2
      rw [e _ o q] at this
      cases this⟩, s.nd, s.sto, s.env, s.len⟩
theorem Sta.data {F1 B : Hp} (s : Sta K F1 M δ μ σ H) (e : Ex B F1) (hB : ∀ a o, B a = some o → a ∉ M) : Ex B (hid M H) := fun a o q => hid_get (hB a o q) (s.fr a o (e a o q))
theorem lx_lc {wi : TI} {g : TG} {tt : TT} {vs js : List Nat} {n : Nat} {b : Nat → Env → Env} (w : WX K wi g δ μ μ' n js b) (f : Nat → DV) (p : Nat → Bool) (μs : Nat → Sto) (h0 : μs 0 = μ') (hn : n ≤ 100000) (hj : ∀ k ∈ js, k ∈ vs)
    (ht : ∀ i, i < n → TX K tt (b i (wipeD δ vs)) (μs i) (μs i) (p i)) (he : ∀ i, i < n → p i = true → EX K te (b i (wipeD δ vs)) (μs i) (μs (i + 1)) (f i)) (hf : ∀ i, i < n → p i = false → μs (i + 1) = μs i) :
    LX K (tLc wi g tt te vs) δ μ (μs n) (((List.range n).filter p).map f) := fun F M σ H s Q q =>
  w F M σ H s _ fun J H1 e1 s1 T => fun D hD => by
    -- the frame that keeps the data
    obtain ⟨s1w, eF, eB⟩ := s1.widen
    generalize hF1 : hid (μ'.map Prod.fst) H1 = F1 at s1w eF eB
    have hDM := s1.fresh hD
    have z0 := s1w.newL (vs := []) (ds := []) hD .nil
    have hB : ∀ a o, hid M H1 a = some o → a ∉ D :: M := fun a o q => by
      simp only [List.mem_cons, not_or]
      exact ⟨ne_of_none (hid_sub _ _ q) hD, hid_no q⟩
    refine ⟨fun i m H2 => m = n - i ∧ i ≤ n ∧ Sta K F1 (D :: M) δ ((D, ((List.range i).filter p).map f) :: μs i) σ H2, ⟨n, by simp, Nat.zero_le _, by rw [h0]; exact z0⟩, ?_⟩
    rintro i m H2 ⟨rfl, hi, s2⟩
    have ed : Ex (hid M H1) (hid (D :: M) H2) := s2.data eB hB
    by_cases hlt : i < n
    · refine .inr ⟨T.go i H2 _ ed hlt, fun H' => Sta K F1 (D :: M) δ ((D, ((List.range (i + 1)).filter p).map f) :: μs (i + 1)) σ H', fun H' s' => ⟨n - (i + 1), by omega, rfl, hlt, s'⟩, fun x H3 y => ?_⟩
      refine T.bind i H2 x H3 _ _ _ _ _ hlt ed (s2.wiped vs) y _ fun σ3 e3 s3 hl3 ho3 => ?_
      obtain ⟨ws, g1, g2⟩ := s3.sto (D, ((List.range i).filter p).map f) (by simp)
      have s3' : Sta K F1 (D :: M) δ ((D, ((List.range i).filter p).map f) :: μs i) σ H3 := s2.mono e3
      have lk := s3.lock g1
      have hlen : (((List.range i).filter p).map f).length ≤ i := by
        have q1 := List.length_filter_le p (List.range i)
        rw [List.length_range] at q1
        rw [List.length_map]
        exact q1
      refine ⟨?_, ht i hlt _ _ σ3 H3 lk _ fun H4 e4 s4 => ?_⟩
      · refine (wipe_eq hl3 fun k hk => ho3 k (fun z => hk (hj k z))).trans (wipe_eq (wipe_length σ vs) fun k hk => ?_)
        rw [wipe_at, if_neg hk]
      · cases hp : p i with
        | true =>
          show te σ3 H4 _
          refine he i hlt hp _ _ σ3 H4 s4 _ fun v H5 e5 s5 r5 => ?_
          have k1 : H5 D = some (.lst ws) := s5.fr D _ upd_same
          refine ⟨ws, k1, sz_lt (by have := g2.length; simp only at this; omega), ?_⟩
          have g5 := g2.mono (e4.trans e5)
          have s5b : Sta K (upd F1 D (.lst ws)) (D :: M) δ (μs (i + 1)) σ H5 :=
            ⟨s5.al, s5.fr, s5.dm, s5.nd, s5.sto, fun k dk hk => by
              obtain ⟨vk, a1, a2⟩ := s3'.env k dk hk
              exact ⟨vk, a1, a2.mono (e4.trans e5)⟩, s3'.len⟩
          have s6 := Sta.unlock (by
            cases q : F1 D with
            | none => rfl
            | some o => rw [← hF1] at q; rw [hid_sub _ _ q] at hD; cases hD) s5b g5
          have s7 := (s6.pokeH (g5.app (.cons r5 .nil))).1
          have hs : ((List.range (i + 1)).filter p).map f = ((List.range i).filter p).map f ++ [f i] := by
            rw [List.range_succ, List.filter_append, List.map_append]
            simp [hp]
          rw [hs]
          exact s7
        | false =>
          show Sta K F1 (D :: M) δ ((D, ((List.range (i + 1)).filter p).map f) :: μs (i + 1)) σ H4
          have hs : ((List.range (i + 1)).filter p).map f = ((List.range i).filter p).map f := by
            rw [List.range_succ, List.filter_append, List.map_append]
            simp [hp]
          rw [hs, hf i hlt hp]
          have s4b : Sta K (upd F1 D (.lst ws)) (D :: M) δ (μs i) σ H4 :=
            ⟨s4.al, s4.fr, s4.dm, s4.nd, s4.sto, fun k dk hk => by
              obtain ⟨vk, a1, a2⟩ := s3'.env k dk hk
              exact ⟨vk, a1, a2.mono e4⟩, s3'.len⟩
          exact Sta.unlock (by
            cases q : F1 D with
            | none => rfl
            | some o => rw [← hF1] at q; rw [hid_sub _ _ q] at hD; cases hD) s4b (g2.mono e4)
    · have e : i = n := by omega
      subst e
      refine .inl ⟨T.stop H2 _ ed, ?_⟩
      have hD0 : H D = none := back_none s s1 e1 hD
      refine q D H2 hD0 hDM (e1.trans (ed.trans (hid_less fun a ha => List.mem_cons_of_mem _ ha))) (s2.narrow eF)
/-- no test -/
theorem lx_lcA {wi : TI} {g : TG} {vs js : List Nat} {n : Nat} {b : Nat → Env → Env} (w : WX K wi g δ μ μ' n js b) (f : Nat → DV) (μs : Nat → Sto) (h0 : μs 0 = μ') (hn : n ≤ 100000) (hj : ∀ k ∈ js, k ∈ vs)
    (he : ∀ i, i < n → EX K te (b i (wipeD δ vs)) (μs i) (μs (i + 1)) (f i)) : LX K (tLc wi g tYes te vs) δ μ (μs n) ((List.range n).map f) := by
  have z := lx_lc (tt := tYes) w f (fun _ => true) μs h0 hn hj (fun i hi F M σ H s Q q => q H (Ex.refl _) s) (fun i hi _ => he i hi) (fun i hi h => by cases h)
  have e : (List.range n).filter (fun _ => true) = List.range n := List.filter_eq_self.mpr fun _ _ => rfl
  rw [e] at z
  exact z
/-- no test, the store untouched -/
theorem lx_lc1 {wi : TI} {g : TG} {vs js : List Nat} {n : Nat} {b : Nat → Env → Env} (w : WX K wi g δ μ μ' n js b) (f : Nat → DV) (hn : n ≤ 100000) (hj : ∀ k ∈ js, k ∈ vs)
    (he : ∀ i, i < n → EX K te (b i (wipeD δ vs)) μ' μ' (f i)) : LX K (tLc wi g tYes te vs) δ μ μ' ((List.range n).map f) := lx_lcA w f (fun _ => μ') rfl hn hj he
theorem lx_lcF {wi : TI} {g : TG} {tt : TT} {vs js : List Nat} {n : Nat} {b : Nat → Env → Env} (w : WX K wi g δ μ μ' n js b) (f : Nat → DV) (p : Nat → Bool) (hn : n ≤ 100000) (hj : ∀ k ∈ js, k ∈ vs)
    (ht : ∀ i, i < n → TX K tt (b i (wipeD δ vs)) μ' μ' (p i)) (he : ∀ i, i < n → p i = true → EX K te (b i (wipeD δ vs)) μ' μ' (f i)) : LX K (tLc wi g tt te vs) δ μ μ' (((List.range n).filter p).map f) :=
  lx_lc w f p (fun _ => μ') rfl hn hj ht he fun _ _ _ => rfl
end
end G
set_option Elab.async false
set_option linter.all false
set_option maxRecDepth 100000
namespace G
open PySem PySem.Spec PyProof.Rows L2 Evl
section
variable {K : PySem.W.Frag} {F H H' H0 : Hp} {M : List Addr} {δ δ' : Env} {μ μ' μ'' : Sto} {σ : L2.St} {ta tb te tl : TE} {t u : TT} {d e : DV} {ds es : List DV} {i j : Nat} {D : L2.Ends} {tu tw : TS}
theorem x_asg (s : Sta K F M δ μ σ H) (h : EX K te δ μ μ' d) (k : ∀ σ' H', Sta K F M (δ.set i (some d)) μ' σ' H' → D.nx σ' H') : tAsg te (gName i) D σ H :=
  h F M σ H s _ fun v H1 _ s1 r1 => k _ H1 (s1.put r1)
/-- the value is forgotten -/
theorem x_asgN (s : Sta K F M δ μ σ H) (h : EX K te δ μ μ' d) (k : ∀ σ' H', Sta K F M (δ.set i none) μ' σ' H' → D.nx σ' H') : tAsg te (gName i) D σ H :=
  h F M σ H s _ fun v H1 _ s1 r1 => k _ H1 s1.putN
/-- a new list, kept as a mutable one -/
theorem x_asgL (s : Sta K F M δ μ σ H) (h : LX K te δ μ μ' ds) (k : ∀ p σ' H', p ∉ M → Sta K F (p :: M) (δ.set i (some (.box p))) ((p, ds) :: μ') σ' H' → D.nx σ' H') : tAsg te (gName i) D σ H :=
  h F M σ H s _ fun p H1 _ hp _ s1 => k p _ H1 hp (s1.put (.box p))
theorem Sta.free {p : Addr} (s : Sta K F (p :: M) δ ((p, ds) :: μ) σ H) (hp : p ∉ M) (h : δ[i]? = some (some (.box p))) : Sta K F M (δ.set i (some (.lst ds))) μ σ H := by
  obtain ⟨v, h1, h2⟩ := s.env i _ h
  obtain ⟨s', r⟩ := s.still hp
  cases h2
  have z := s'.put (i := i) r
  have e : σ.set i (some (V.ref p)) = σ := by
    refine List.ext_getElem? fun k => ?_
    by_cases hk : i = k
    · subst hk
      rw [List.getElem?_set_self (List.getElem?_eq_some_iff.mp h1).1, h1]
    · rw [List.getElem?_set_ne hk]
  rw [e] at z
  exact z
theorem x_ret (s : Sta K F M δ μ σ H) (h : EX K te δ μ μ' d) (k : ∀ v H', Sta K F M δ μ' σ H' → Rp K (hid M H') v d → D.rt v H') : tRet te D σ H :=
  h F M σ H s _ fun v H1 _ s1 r1 => k v H1 s1 r1
theorem x_retL (s : Sta K F M δ μ σ H) (h : LX K te δ μ μ' ds) (k : ∀ p H', H p = none → Sta K F (p :: M) δ ((p, ds) :: μ') σ H' → D.rt (.ref p) H') : tRet te D σ H :=
  h F M σ H s _ fun p H1 hp _ _ s1 => k p H1 hp s1
theorem x_if {b : Bool} (s : Sta K F M δ μ σ H) (h : TX K t δ μ μ' b) (h1 : b = true → ∀ H', Sta K F M δ μ' σ H' → tu D σ H') (h2 : b = false → ∀ H', Sta K F M δ μ' σ H' → tw D σ H') : tIfS t tu tw D σ H :=
  h F M σ H s _ fun H1 _ s1 => by
    cases b with
    | true =>
      show tu D σ H1
      exact h1 rfl H1 s1
    | false =>
      show tw D σ H1
      exact h2 rfl H1 s1
theorem x_when {b : Bool} (s : Sta K F M δ μ σ H) (h : TX K t δ μ μ' b) (h1 : b = true → ∀ H', Sta K F M δ μ' σ H' → tu D σ H') (h2 : b = false → ∀ H', Sta K F M δ μ' σ H' → D.nx σ H') : tIfS t tu tNext D σ H := x_if s h h1 h2
/-- a test that is known to be false -/
theorem x_skip (s : Sta K F M δ μ σ H) (h : TX K t δ μ μ' false) (h2 : ∀ H', Sta K F M δ μ' σ H' → D.nx σ H') : tIfS t tu tNext D σ H := x_if s h (fun z => nomatch z) (fun _ => h2)
theorem x_drop (s : Sta K F M δ μ σ H) (h : EX K te δ μ μ' d) (k : ∀ H', Sta K F M δ μ' σ H' → D.nx σ H') : tDrop te D σ H := h F M σ H s _ fun v H1 _ s1 _ => k H1 s1
/-- xs.append(e) -/
theorem x_app {l : Addr} (s : Sta K F M δ μ σ H) (ha : EX K ta δ μ μ (.box l)) (h : EX K te δ μ μ' d) (h0 : μ[j]? = some (l, es)) (hj : μ'[j]? = some (l, ds)) (hz : ds.length < 100000) (k : ∀ H', Sta K F M δ (μ'.set j (l, ds ++ [d])) σ H' → D.nx σ H') :
    tDrop (tBM K "list" rAppend ta (tCons te tNil)) D σ H :=
  ha F M σ H s _ fun v H1 e1 s1 r1 => by
    cases r1
    obtain ⟨xs, g1, _⟩ := s1.sto _ (List.mem_of_getElem? h0)
    refine ⟨.inl ⟨rfl, xs, sq_of g1⟩, h F M σ H1 s1 _ fun w H2 e2 s2 r2 => ?_⟩
    obtain ⟨ys, k1, k2⟩ := s2.sto _ (List.mem_of_getElem? hj)
    exact ⟨l, ys, w, rfl, rfl, k1, sz_lt (by rw [k2.length]; exact hz), k _ (s2.poke hj (k2.app (.cons r2 .nil))).1⟩
/-- xs[i] = e -/
theorem x_setL {l : Addr} {n : Int} {m : Nat} (s : Sta K F M δ μ σ H) (h : EX K te δ μ μ' d) (ho : EX K ta δ μ' μ' (.box l)) (hi : EX K tb δ μ' μ' (.int n)) (hj : μ'[j]? = some (l, ds)) (hn : ixN ds.length n = some m)
    (k : ∀ H', Sta K F M δ (μ'.set j (l, ds.set m d)) σ H' → D.nx σ H') : tAsg te (gSub ta tb rSetL) D σ H :=
  h F M σ H s _ fun v H1 e1 s1 r1 => ho F M σ H1 s1 _ fun w H2 e2 s2 r2 => hi F M σ H2 s2 _ fun x H3 e3 s3 r3 => by
    cases r2
    cases r3
    obtain ⟨ys, k1, k2⟩ := s3.sto _ (List.mem_of_getElem? hj)
    exact ⟨l, ys, n, m, rfl, rfl, k1, by rw [k2.length]; exact hn, k _ (s3.poke hj (k2.set (r1.mono (e2.trans e3)) m)).1⟩
theorem x_aug {f : Int → Int → Int} {a b : Int} (s : Sta K F M δ μ σ H) (hx : δ[i]? = some (some (.int a))) (h : EX K te δ μ μ' (.int b)) (k : ∀ σ' H', Sta K F M (δ.set i (some (.int (f a b)))) μ' σ' H' → D.nx σ' H') : tAug i te (ipI f) D σ H := by
  obtain ⟨v, h1, h2⟩ := s.env i _ hx
  cases h2
  exact ⟨.int a, h1, h F M σ H s _ fun w H1 _ s1 r1 => by
    cases r1
    exact ⟨a, b, rfl, rfl, k _ H1 (s1.put (.int _))⟩⟩
theorem x_par {ta : TA} {d1 d2 : DV} (s : Sta K F M δ μ σ H) (h : AX K ta δ μ μ' [d1, d2]) (k : ∀ σ' H', Sta K F M ((δ.set i (some d1)).set j (some d2)) μ' σ' H' → D.nx σ' H') : tPar i j ta D σ H :=
  h F M σ H s _ fun vs H1 _ s1 r1 => by
    cases r1 with
    | cons a b =>
      cases b with
      | cons b c =>
        cases c
        exact ⟨_, _, rfl, k _ H1 ((s1.put a).put b)⟩
theorem x_par3 {ta : TA} {l : Nat} {d1 d2 d3 : DV} (s : Sta K F M δ μ σ H) (h : AX K ta δ μ μ' [d1, d2, d3]) (k : ∀ σ' H', Sta K F M (((δ.set i (some d1)).set j (some d2)).set l (some d3)) μ' σ' H' → D.nx σ' H') : tPar3 i j l ta D σ H :=
  h F M σ H s _ fun vs H1 _ s1 r1 => by
    cases r1 with
    | cons a b =>
      cases b with
      | cons b c =>
        cases c with
        | cons c d =>
          cases d
          exact ⟨_, _, _, rfl, k _ H1 (((s1.put a).put b).put c)⟩
/-- a, b = t -/
theorem x_tup2 {d1 d2 : DV} (s : Sta K F M δ μ σ H) (h : EX K te δ μ μ' (.tup [d1, d2])) (k : ∀ σ' H', Sta K F M ((δ.set i (some d1)).set j (some d2)) μ' σ' H' → D.nx σ' H') : tAsg te (gTup K 2 (gCons (gName i) (gCons (gName j) gNil))) D σ H :=
  h F M σ H s _ fun v H1 _ s1 r1 => by
    cases r1 with
    | @tup a vs _ g1 g2 =>
      cases g2 with
      | cons r1 t =>
        cases t with
        | cons r2 t =>
          cases t
          exact ⟨a, _, rfl, ex_t hid_sub g1, rfl, _, _, rfl, _, _, rfl, rfl, k _ H1 ((s1.put r1).put r2)⟩
theorem x_tup3 {l : Nat} {d1 d2 d3 : DV} (s : Sta K F M δ μ σ H) (h : EX K te δ μ μ' (.tup [d1, d2, d3])) (k : ∀ σ' H', Sta K F M (((δ.set i (some d1)).set j (some d2)).set l (some d3)) μ' σ' H' → D.nx σ' H') : tAsg te (gTup K 3 (gCons (gName i) (gCons (gName j) (gCons (gName l) gNil)))) D σ H :=
  h F M σ H s _ fun v H1 _ s1 r1 => by
    cases r1 with
    | @tup a vs _ g1 g2 =>
      cases g2 with
      | cons r1 t =>
        cases t with
        | cons r2 t =>
          cases t with
          | cons r3 t =>
            cases t
            exact ⟨a, _, rfl, ex_t hid_sub g1, rfl, _, _, rfl, _, _, rfl, _, _, rfl, rfl, k _ H1 (((s1.put r1).put r2).put r3)⟩
/-! ### loops -/
theorem x_for {wi : TI} {g : TG} {js : List Nat} {n : Nat} {b : Nat → Env → Env} (s : Sta K F M δ μ σ H) (w : WX K wi g δ μ μ' n js b) (δs : Nat → Env) (μs : Nat → Sto) (h0 : Less (δs 0) δ) (hm : μs 0 = μ')
    (turn : ∀ F1 i σ' H', Ex F F1 → i < n → Sta K F1 M (b i (δs i)) (μs i) σ' H' → tu { D with nx := fun σ2 H2 => Sta K F1 M (δs (i + 1)) (μs (i + 1)) σ2 H2, ct := fun σ2 H2 => Sta K F1 M (δs (i + 1)) (μs (i + 1)) σ2 H2, bk := D.nx } σ' H')
    (done : ∀ σ' H', Sta K F M (δs n) (μs n) σ' H' → D.nx σ' H') : tFor wi g tu D σ H :=
  w F M σ H s _ fun J H1 e1 s1 T => by
    obtain ⟨s1w, eF, eB⟩ := s1.widen
    generalize hid (μ'.map Prod.fst) H1 = F1 at s1w eF eB
    have hB : ∀ a o, hid M H1 a = some o → a ∉ M := fun a o q => hid_no q
    refine ⟨fun i m σ2 H2 => m = n - i ∧ i ≤ n ∧ Sta K F1 M (δs i) (μs i) σ2 H2, ⟨n, by simp, Nat.zero_le _, by rw [hm]; exact s1w.less h0⟩, ?_⟩
    rintro i m σ2 H2 ⟨rfl, hi, s2⟩
    have ed := s2.data eB hB
    by_cases hlt : i < n
    · refine .inr ⟨T.go i H2 _ ed hlt, fun σ3 H3 => Sta K F1 M (δs (i + 1)) (μs (i + 1)) σ3 H3, fun σ3 H3 s3 => ⟨n - (i + 1), by omega, rfl, hlt, s3⟩, fun x H3 y => ?_⟩
      exact T.bind i H2 x H3 _ _ _ _ _ hlt ed s2 y _ fun σ3 _ s3 _ _ => turn F1 i σ3 H3 eF hlt s3
    · have e : i = n := by omega
      subst e
      exact .inl ⟨T.stop H2 _ ed, done σ2 H2 (s2.narrow eF)⟩
theorem x_while (I : Nat → Env → Sto → Prop) (m0 : Nat) (s : Sta K F M δ μ σ H) (h0 : I m0 δ μ)
    (hs : ∀ m δ μ, I m δ μ → ∃ b, TX K t δ μ μ b ∧
      (b = true → ∀ σ' H', Sta K F M δ μ σ' H' → tu { D with nx := fun σ2 H2 => ∃ m' δ2 μ2, m' < m ∧ I m' δ2 μ2 ∧ Sta K F M δ2 μ2 σ2 H2, ct := fun σ2 H2 => ∃ m' δ2 μ2, m' < m ∧ I m' δ2 μ2 ∧ Sta K F M δ2 μ2 σ2 H2, bk := D.nx } σ' H') ∧
      (b = false → ∀ σ' H', Sta K F M δ μ σ' H' → D.nx σ' H')) : tWhile t tu D σ H :=
  ⟨fun m σ2 H2 => ∃ δ2 μ2, I m δ2 μ2 ∧ Sta K F M δ2 μ2 σ2 H2, ⟨m0, δ, μ, h0, s⟩, fun m σ2 H2 ⟨δ2, μ2, i2, s2⟩ => by
    obtain ⟨b, hb, h1, h2⟩ := hs m δ2 μ2 i2
    refine hb F M σ2 H2 s2 _ fun H3 _ s3 => ?_
    cases b with
    | true => exact ⟨_, fun σ4 H4 ⟨m', δ4, μ4, hm, i4, s4⟩ => ⟨m', hm, δ4, μ4, i4, s4⟩, h1 rfl σ2 H3 s3⟩
    | false => exact h2 rfl σ2 H3 s3⟩
end
/-! ### defs by their promises -/
def startD (n : Nat) (ds : List DV) : Env := ds.map some ++ List.replicate (n - ds.length) none
section
variable {K : PySem.W.Frag} {F H H' H0 : Hp} {M : List Addr} {δ : Env} {μ : Sto}
theorem envAll {vs : List V} {ds : List DV} {n : Nat} (r : RpAll K H vs ds) : ∀ (i : Nat) (d : DV), (startD n ds)[i]? = some (some d) → ∃ v, (vs.map some ++ List.replicate (n - vs.length) none)[i]? = some (some v) ∧ Rp K H v d := fun i d h => by
  unfold startD at h
  have hl := r.length
  by_cases hi : i < ds.length
  · rw [List.getElem?_append_left (by simpa using hi), List.getElem?_map] at h
    obtain ⟨v, h1, h2⟩ := r.get (i := i) (d := d) (by
      cases q : ds[i]? with
      | none => rw [q] at h; cases h
      | some x =>
        rw [q] at h
        cases h
        rfl)
    exact ⟨v, by rw [List.getElem?_append_left (by rw [List.length_map]; omega), List.getElem?_map, h1]; rfl, h2⟩
  · rw [List.getElem?_append_right (by simpa using hi)] at h
    rw [List.getElem?_replicate] at h
    split at h <;> cases h
theorem sta_start {N : List Str} {vs : List V} {ds : List DV} (al : ∀ a ∈ M, H a ≠ none) (r : RpAll K (hid M H) vs ds) : Sta K H M (startD N.length ds) [] (L2.start N vs) H :=
  ⟨al, Ex.refl _, fun p hp => (nomatch hp), by simp, fun p hp => (nomatch hp), envAll r, by unfold L2.start startD; simp [r.length]⟩
variable {P : Program} {w : World} {mg : Str → Option Value} {base : Heap}
/-- a def from data to data -/
theorem okD {x qual : Str} {st : Stmt} {f : Addr} {fd : FuncData} {N ps : List Str} {k : Nat} {R : List DV → DV → Prop} (Fn : Fun K x qual st f fd) (S : FnScope N ps (defScope st)) (len : ∀ ds r, R ds r → ds.length = ps.length)
    (body : ∀ (cdv : Value) (A : Around) (outer : List PySem.Env) (s : Shared) (H : Hp) (E : XK), Room k (A.deeper (envOfC qual (defScope st) s.heap.objs.size f cdv)) →
      ∃ t, PSs (cxOf CX0 P w K mg base N qual (defScope st) f cdv A outer s H E).nox (defBody st) t ∧ ∀ F M ds r σ H1 D, R ds r → Sta K F M (startD N.length ds) [] σ H1 →
        (∀ v H', Ex F H' → Rp K (hid M H') v r → D.rt v H') → (∀ σ' H', D.rt .non H' → D.nx σ' H') → t D σ H1) : FnOk P w K mg base CX0 (k + 1) f fd ps (spD K R) := by
  refine Fn.ok S (fun vs H Q E ⟨M, ds, r, _, h1, h2, _⟩ => by rw [h1.length]; exact len _ _ h2) fun cdv A outer s H vs Q E hr ⟨M, ds, r, al, ra, hR, kq⟩ => ?_
  obtain ⟨t, h1, h2⟩ := body cdv A outer s H E hr
  exact ⟨t, h1, h2 H M ds r _ H _ hR (sta_start al ra) kq fun _ _ z => z⟩
theorem okL {x qual : Str} {st : Stmt} {f : Addr} {fd : FuncData} {N ps : List Str} {k : Nat} {R : List DV → List DV → Prop} (Fn : Fun K x qual st f fd) (S : FnScope N ps (defScope st)) (len : ∀ ds r, R ds r → ds.length = ps.length)
    (body : ∀ (cdv : Value) (A : Around) (outer : List PySem.Env) (s : Shared) (H : Hp) (E : XK), Room k (A.deeper (envOfC qual (defScope st) s.heap.objs.size f cdv)) →
      ∃ t, PSs (cxOf CX0 P w K mg base N qual (defScope st) f cdv A outer s H E).nox (defBody st) t ∧ ∀ F M ds rs σ H1 D, R ds rs → Sta K F M (startD N.length ds) [] σ H1 →
        (∀ p H' δ, F p = none → Sta K F (p :: M) δ [(p, rs)] σ H' → D.rt (.ref p) H') → t D σ H1) : FnOk P w K mg base CX0 (k + 1) f fd ps (spL K R) := by
  refine Fn.ok S (fun vs H Q E ⟨M, ds, r, _, h1, h2, _⟩ => by rw [h1.length]; exact len _ _ h2) fun cdv A outer s H vs Q E hr ⟨M, ds, rs, al, ra, hR, kq⟩ => ?_
  obtain ⟨t, h1, h2⟩ := body cdv A outer s H E hr
  refine ⟨t, h1, h2 H M ds rs _ H _ hR (sta_start al ra) fun p H' δ hp s' => ?_⟩
  obtain ⟨ws, g1, g2⟩ := s'.sto (p, rs) (by simp)
  exact kq p ws H' hp s'.fr g1 g2
/-- a def whose first argument is a list that it changes -/
theorem okS {x qual : Str} {st : Stmt} {f : Addr} {fd : FuncData} {N ps : List Str} {k : Nat} {R : List DV → List DV → List DV → DV → Prop} (Fn : Fun K x qual st f fd) (S : FnScope N ps (defScope st)) (len : ∀ s ds s' r, R s ds s' r → ds.length + 1 = ps.length)
    (body : ∀ (cdv : Value) (A : Around) (outer : List PySem.Env) (s : Shared) (H : Hp) (E : XK), Room k (A.deeper (envOfC qual (defScope st) s.heap.objs.size f cdv)) →
      ∃ t, PSs (cxOf CX0 P w K mg base N qual (defScope st) f cdv A outer s H E).nox (defBody st) t ∧ ∀ F M l s0 ds s1 r σ H1 D, R s0 ds s1 r → Sta K F M (startD N.length (.box l :: ds)) [(l, s0)] σ H1 →
        (∀ v H' M' δ σ', (∀ a ∈ M, a ∈ M') → Sta K F M' δ [(l, s1)] σ' H' → Rp K (hid M' H') v r → D.rt v H') → (∀ σ' H', D.rt .non H' → D.nx σ' H') → t D σ H1) : FnOk P w K mg base CX0 (k + 1) f fd ps (spS K R) := by
  refine Fn.ok S (fun vs H Q E ⟨M, st, ws, xs, s0, ds, s1, r, e, _, _, _, _, h1, h2, _⟩ => by rw [e, List.length_cons, h1.length]; exact len _ _ _ _ h2) fun cdv A outer s H vs Q E hr ⟨M, st, ws, xs, s0, ds, s1, r, e, hm, al, hst, rs, ra, hR, kq⟩ => ?_
  obtain ⟨t, h1, h2⟩ := body cdv A outer s H E hr
  subst e
  have r0 : RpAll K (hid M H) (.ref st :: ws) (.box st :: ds) := .cons (.box st) ra
  refine ⟨t, h1, h2 (hid [st] H) M st s0 ds s1 r _ H _ hR ⟨al, hid_sub, fun p hp => ?_, by simp, fun p hp => ?_, envAll r0, by unfold L2.start startD; simp [ra.length]⟩ (fun v H' M' δ σ' hM s' rv => ?_) fun _ _ z => z⟩
  · simp only [List.mem_singleton] at hp
    subst hp
    exact ⟨hm, by unfold hid; simp⟩
  · simp only [List.mem_singleton] at hp
    subst hp
    exact ⟨xs, hst, rs⟩
  · obtain ⟨ys, g1, g2⟩ := s'.sto (st, s1) (by simp)
    have up : Ex (hid M' H') (hid M H') := hid_less hM
    exact kq v ys H' (fun a o hne q => s'.fr a o (hid_get (by simp [hne]) q)) g1 (g2.mono up) (rv.mono up)
end
end G
set_option Elab.async false
set_option linter.all false
set_option maxRecDepth 100000
/-! Rules of my own at the machine's level: // by any int, operators of own classes. -/
namespace G
open PySem PySem.Spec PyProof.Rows L2 Evl
/-- the head of the frames that run is a plain def's -/
def PlainTop (l : List PySem.Env) : Prop := ∃ e r, l = e :: r ∧ e.scope.isGenerator = false ∧ e.scope.isCoroutine = false ∧ e.builtins = builtinsNs ∧ e.globals = mainGlobals
def CNz (_ j : Int) : Prop := j ≠ 0
theorem op_fdivB {X : Cx} (sr : X.base.NoSeer) (tr : X.prog.given.tree = none) (hd : X.A.depth + 100 < recursionLimit) (st : PlainTop X.stack) : OpR X (binaryOp .FloorDiv) (rI CNz fun i j => .int (i.fdiv j)) := by
  intro pins s σ H x y v u Q I rx ry h
  obtain ⟨i, j, rfl, rfl, hc, q⟩ := h
  obtain ⟨t, rfl⟩ := rx
  obtain ⟨t', rfl⟩ := ry
  obtain ⟨e, r, hst, h1, h2, h3, h4⟩ := st
  have hfr : X.A.frames = some (e :: r) := by rw [I.ok.frames, hst]
  exact floordiv_int (A := X.A) hc ⟨.int _, H, I.tok _, ⟨_, rfl⟩, q⟩ (.inr (PylongRoom.of I.nolimit hd (SeerAt.of (sr.keeps I.bk) tr hfr h1 h2 h3 h4)))
/-- * of ints whose bits together are below the model's line -/
def CMulB (i j : Int) : Prop := IntMulOk i j
theorem op_mulB {X : Cx} : OpR X (binaryOp .Mult) (rI CMulB fun i j => .int (i * j)) := opI fun _ _ _ _ _ _ _ hc q => mul_int q hc
theorem mulOk {i j : Int} {a b : Nat} (ha : i.natAbs < 2 ^ a) (hb : j.natAbs < 2 ^ b) (h : a + b ≤ 134217728) : CMulB i j := by
  have key : ∀ (x : Int) (n : Nat), x.natAbs < 2 ^ n → Builtin.Int.intBits x ≤ n := fun x n hx => by
    unfold Builtin.Int.intBits
    split
    · exact Nat.zero_le _
    · rename_i h0
      have hx0 : x.natAbs ≠ 0 := fun z => h0 (by simp; omega)
      have := (Nat.log2_lt hx0).mpr hx
      omega
  have h1 := key _ _ ha
  have h2 := key _ _ hb
  have e : bitsLine = 134217728 := by decide
  show IntMulOk i j
  unfold IntMulOk
  intro z
  rw [Bool.and_eq_true] at z
  have z2 := z.2
  unfold Builtin.Int.intTooBig at z2
  have z3 := of_decide_eq_true z2
  rw [e] at z3
  omega
theorem mulSm {i j : Int} (h : -(2 ^ 64) < i ∧ i < 2 ^ 64) : CMulB i j := .of_left (intBits_le_64 h.1 h.2)
theorem mulSmR {i j : Int} (h : -(2 ^ 64) < j ∧ j < 2 ^ 64) : CMulB i j := .of_right (intBits_le_64 h.1 h.2)

section
variable {X : Cx} {CX : CXT} {pins : List (Addr × Obj)} {σ : L2.St} {H : Hp} {s : Shared} {a C dx f : Addr} {fs : List (Str × V)} {k : Nat} {fd : FuncData} {ps : List Str} {sp : Sp} {E : XK}
theorem inst_of (I : L2.Inv X pins σ H s) (e : H a = some (.ins C dx fs)) : ∃ ox od, PySem.W.InstAt s.heap a ox C od := by
  obtain ⟨mA, O, _, _, _, _⟩ := ins_get I.hok e
  obtain ⟨od, J, _⟩ := O.look
  exact ⟨_, _, J⟩
theorem back_of {P : Value → Shared → Prop} {z : V} {v : Value} {s' : Shared} (r : RelV z v) (h : P v s') : PySem.W.CmpBack P v s' := by
  cases z <;> first
    | (cases r; exact h)
    | (obtain ⟨t, e⟩ := r; cases e; exact h)
/-- x op y, both instances of the class at C, which defines op -/
def rOwnB (C : Addr) (sp : Sp) (E : XK) : R2 := fun x y H Q => ∃ a dx fs b dy gs, x = .ref a ∧ y = .ref b ∧ H a = some (.ins C dx fs) ∧ H b = some (.ins C dy gs) ∧ sp [x, y] H Q E
theorem op_ownB {op : Operator} (hc : PySem.W.selfFirst X.K C = true) (hs : PySem.W.findIn X.K (.ref C) (PySem.dunder op.info.2) = some (some (.ref f))) (hf : PySem.W.isFn X.K (.ref f) = true)
    (Fn : FnOk X.prog X.w X.K X.mg X.base CX k f fd ps sp) (hr : Room k X.A) (hb : Binds X.K fd ps []) (hx : Passes CX X E) : OpR X (binaryOp op) (rOwnB C sp E) := by
  intro pins s σ H x y v u Q I rx ry h
  obtain ⟨a, dx, fs, b, dy, gs, rfl, rfl, ha, hb', q⟩ := h
  cases rx
  cases ry
  obtain ⟨ox, od, J⟩ := inst_of I ha
  obtain ⟨oy, od', J'⟩ := inst_of I hb'
  obtain ⟨m, hF⟩ := I.fr
  refine PySem.W.binop_K hF I.ok.mod.kin J J'.type hc hs hf (wpAny_mono (run_fn (us := [.ref a, .ref b]) (vs := [.ref a, .ref b]) Fn hr hb .nil hx I (.cons rfl (.cons rfl .nil)) q) (fun w s' z => ?_) fun _ _ e => e)
  obtain ⟨z', H', I', rz, qz⟩ := z
  exact back_of rz ⟨z', H', I', rz, qz⟩
/-- x == y, x an instance of the class at C, y of a class or type t that does not come first -/
def rOwnE (K : PySem.W.Frag) (C : Addr) (sp : Sp) (E : XK) : R2 := fun x y H Q => ∃ a dx fs t, x = .ref a ∧ H a = some (.ins C dx fs) ∧ TyX K H y t ∧ PySem.W.notFirst K C t = true ∧ sp [x, y] H Q E
theorem type_of {y : V} {u t : Value} (I : L2.Inv X pins σ H s) (r : RelV y u) (ty : TyX X.K H y t) : PySem.W.Looks (model X.prog X.w) s.heap (typeOf u) t := by
  obtain ⟨P, Z, p, _⟩ := kit_of I r ty
  exact Z.ty _ _ I.kIn p
theorem op_ownE (hs : PySem.W.findIn X.K (.ref C) "__eq__" = some (some (.ref f))) (hf : PySem.W.isFn X.K (.ref f) = true)
    (Fn : FnOk X.prog X.w X.K X.mg X.base CX k f fd ps sp) (hr : Room k X.A) (hb : Binds X.K fd ps []) (hx : Passes CX X E) : OpR X (compareOp .Eq) (rOwnE X.K C sp E) := by
  intro pins s σ H x y v u Q I rx ry h
  obtain ⟨a, dx, fs, t, rfl, ha, ty, hn, q⟩ := h
  cases rx
  obtain ⟨ox, od, J⟩ := inst_of I ha
  obtain ⟨m, hF⟩ := I.fr
  show wpAny _ _ (richCompare .Eq (.ref a) u) _ _ _
  refine PySem.W.cmp_K (op := .Eq) hr.units0 hF I.ok.mod.kin J (type_of I ry ty) hn hs hf (wpAny_mono (run_fn (us := [.ref a, u]) (vs := [.ref a, y]) Fn hr hb .nil hx I (.cons rfl (.cons ry .nil)) q) (fun w s' z => ?_) fun _ _ e => e)
  obtain ⟨z', H', I', rz, qz⟩ := z
  exact back_of rz ⟨z', H', I', rz, qz⟩
/-- -x -/
theorem un_own (hs : PySem.W.findIn X.K (.ref C) "__neg__" = some (some (.ref f))) (hf : PySem.W.isFn X.K (.ref f) = true) (Fn : FnOk X.prog X.w X.K X.mg X.base CX k f fd ps sp) (hr : Room k X.A) (hb : Binds X.K fd ps []) (hx : Passes CX X E) :
    UnR X (unaryOp .USub) (fun x H Q => ∃ a dx fs, x = .ref a ∧ H a = some (.ins C dx fs) ∧ sp [x] H Q E) := by
  intro pins s σ H x v Q I rx h
  obtain ⟨a, dx, fs, rfl, ha, q⟩ := h
  cases rx
  obtain ⟨ox, od, J⟩ := inst_of I ha
  obtain ⟨m, hF⟩ := I.fr
  exact PySem.W.ksp_neg hF I.ok.mod.kin J hs hf (run_fn (us := [.ref a]) (vs := [.ref a]) Fn hr hb .nil hx I (.cons rfl .nil) q)
/-- len(x), x an instance of a class with its own __len__ -/
def rLenOwn (C : Addr) (sp : Sp) (E : XK) : List V → Hp → VK → Prop := fun xs H Q => ∃ a dx fs, xs = [.ref a] ∧ H a = some (.ins C dx fs) ∧ sp [.ref a] H (fun z H' => ∃ n : Int, z = .int n ∧ (0 ≤ n ∧ n < 2 ^ 63) ∧ Q z H') E
theorem call_lenOwn (hs : PySem.W.findIn X.K (.ref C) "__len__" = some (some (.ref f))) (hf : PySem.W.isFn X.K (.ref f) = true) (Fn : FnOk X.prog X.w X.K X.mg X.base CX k f fd ps sp) (hr : Room (k + 1) X.A) (hb : Binds X.K fd ps [])
    (hx : ∀ (H : Hp) (s : Shared) (e : Value) (s' : Shared), CX X.stack H s E e s' → X.xe e s') : CallR X (.builtin "len") (rLenOwn C sp E) := by
  intro pins s σ H xs us Q I r h
  obtain ⟨a, dx, fs, rfl, ha, q⟩ := h
  obtain ⟨u, rfl, ru⟩ := vals1 r
  cases ru
  obtain ⟨ox, od, J⟩ := inst_of I ha
  obtain ⟨m, hF⟩ := I.fr
  refine PySem.W.len_K hF I.ok.mod.kin J hs hf (wpAny_call (codeAny_mono (Fn.run X.A.in1 X.stack s H ⟨[.ref a], []⟩ [.ref a] [.ref a] _ E hr.in1 I.env0.in1 (by simpa using hb s [.ref a] I.kIn (by simpa using (Fn.len _ _ _ _ q))) (.cons rfl .nil) q) fun r s' hq => ?_))
  cases r with
  | error e => exact hx _ _ _ _ hq
  | ok fl =>
    cases fl with
    | ret u =>
      obtain ⟨v, H', I', rv, n, ev, hn, qv⟩ := I.after hq
      subst ev
      obtain ⟨t, e⟩ := rv
      subst e
      exact ⟨hn, .int n, H', I'.tok _, ⟨_, rfl⟩, qv⟩
    | next => exact hq
    | brk => exact hq
    | cont => exact hq
end
end G
set_option Elab.async false
set_option linter.all false
set_option maxRecDepth 100000
namespace G
open PySem PySem.Spec PyProof.Rows L2 Evl
section
open PySem.W Builtin
variable {prog : Program} {w : World} {A : Around} {E : Value → Shared → Prop} {s : Shared} {K : Frag} {x C f : Addr} {ox : Obj} {od : Option Obj} {b tb : Value}
/-- x.name(..) where the class has a built-in for name -/
theorem ifBoundB {M : Model} {name : Str} {id : String} {args : List Value} {Q : Option Value → Shared → Prop} (X : K.In s.heap) (I : InstAt s.heap x ox C od) (hs : findIn K (.ref C) name = some (some (.builtin id)))
    (hb : bindSpecial (.builtin id) (.ref x) = pure (.builtin id, [.ref x])) (h : wpAny M A (call (.builtin id) (.ref x :: args)) (fun v => Q (some v)) E s) : wpAny M A (callSpecialIfBound? (.ref x) name args) Q E s := by
  have fin : wpAny M A (call (.builtin id) ([.ref x] ++ args) >>= fun v => pure (some v)) Q E s := wpAny_bind (wpAny_mono h (fun _ _ z => wpAny_pure z) fun _ _ z => z)
  unfold callSpecialIfBound? bindSpecialIfBound?
  refine wpAny_holding (wpAny_bind (wpAny_bind (wpAny_bind (I.type.here ((looks_findIn X hs).here ?_)))))
  refine wpAny_bind (wpAny_askSetting (wpAny_ite ?_))
  split
  · exact wpAny_bind (wpAny_of_eq hb (wpAny_pure fin))
  · exact wpAny_tryCatch (wpAny_bind (wpAny_of_eq hb (wpAny_pure fin)))
theorem call_objNe {Q : Value → Shared → Prop} (hu : A.units + 1 < cLine) (X : K.In s.heap) (I : InstAt s.heap x ox C od) (hm : mroIn K C (.type "object") = some true) (hs : findIn K (.ref C) "__eq__" = some (some (.ref f))) (hf : isFn K (.ref f) = true)
    (h : wpAny (model prog w) A.in1 (call (.ref f) [.ref x, b]) (fun v s' => ∃ k, v = .bool k ∧ Q (.bool (!k)) s') E s) : wpAny (model prog w) A (call (.builtin "object.__ne__") [.ref x, b]) Q E s := by
  have sub : Looks (model prog w) s.heap (isInstance (.ref x) (.type "object")) true := I.type.andThen (looks_mroIn X hm)
  refine wpAny_call (codeAny_call_builtin F.cmp_object.ne.plain F.cmpEntry_ne (@check_slot (model prog w) _ _ s "object.__ne__" "object" "__ne__" (.ref x) [b] [] _ F.cmpKind_ne F.cmpSplit_ne sub (F.cmpArgs_ne (.ref x) b) ?_))
  unfold Builtin.«object.__ne__»
  refine wpAny_bind (wpAny_of_eq (a := (Value.ref x, [b])) (by first | rfl | kernel_rfl) ?_)
  show wpAny _ _ (cRoomFor "comparison" [.ref x, b] >>= _) _ _ _
  refine wpAny_bind (wpAny_cRoomFor hu ?_)
  refine wpAny_bind (m := callSpecialIfBound? (.ref x) (Str.ofString "__eq__") [b]) (ifBound_K X I hs hf (wpAny_mono h (fun v s' z => ?_) fun _ _ e => e))
  obtain ⟨k, rfl, q⟩ := z
  first
    | exact wpAny_bind (wpAny_truthy_bool (wpAny_pure ⟨_, rfl, q⟩))
    | exact wpAny_bind (wpAny_truthy_bool (wpAny_pure q))
theorem ne_K {Q : Value → Shared → Prop} (hu : A.units + 2 < cLine) (X : K.In s.heap) (I : InstAt s.heap x ox C od) (hm : mroIn K C (.type "object") = some true) (hb : Looks (model prog w) s.heap (typeOf b) tb) (hn : notFirst K C tb = true)
    (hne : findIn K (.ref C) "__ne__" = some (some (.builtin "object.__ne__"))) (hs : findIn K (.ref C) "__eq__" = some (some (.ref f))) (hf : isFn K (.ref f) = true)
    (h : wpAny (model prog w) A.in1 (call (.ref f) [.ref x, b]) (fun v s' => ∃ k, v = .bool k ∧ Q (.bool (!k)) s') E s) : wpAny (model prog w) A (richCompare .NotEq (.ref x) b) Q E s := by
  have one : wpAny (model prog w) A (tryCompare (.ref x) (cmpInfo .NotEq).2.1 b) (fun r s' => ∃ v, r = some v ∧ Q v s') E s := by
    unfold tryCompare
    refine wpAny_bind (ifBoundB X I hne (F.cmp_object.ne.bind _) (call_objNe (by omega) X I hm hs hf (wpAny_mono h (fun v s' z => ?_) fun _ _ e => e)))
    obtain ⟨k, rfl, q⟩ := z
    exact ⟨k, rfl, wpAny_pure ⟨_, rfl, q⟩⟩
  unfold richCompare
  simp only [oneThing_ref]
  refine wpAny_holding (wpAny_bind (wpAny_cRoomFor (by omega) ?_))
  refine wpAny_bind (I.type.here (wpAny_bind (hb.here ?_)))
  split
  case isTrue q => exact wpAny_bind ((looks_subIn X ((Bool.or_eq_true_iff.mp hn).elim (fun e => by rw [beq_iff_eq.mp e, bne_self_eq_false] at q; cases q) beq_iff_eq.mp)).here (by
    simp only [Bool.false_eq_true, if_false]
    exact wpAny_bind (wpAny_mono one (fun r s' ⟨v, e, hq⟩ => by subst e; exact wpAny_pure hq) fun _ _ e => e)))
  case isFalse q => exact wpAny_bind (wpAny_pure (by
    simp only [Bool.false_eq_true, if_false]
    exact wpAny_bind (wpAny_mono one (fun r s' ⟨v, e, hq⟩ => by subst e; exact wpAny_pure hq) fun _ _ e => e)))
end
end G
set_option Elab.async false
set_option linter.all false
set_option maxRecDepth 100000
namespace G
open PySem PySem.Spec PyProof.Rows L2 Evl
section
variable {X : Cx} {CX : CXT} {pins : List (Addr × Obj)} {σ : L2.St} {H : Hp} {s : Shared} {a C dx f : Addr} {fs : List (Str × V)} {k : Nat} {fd : FuncData} {ps : List Str} {sp : Sp} {E : XK}
/-- x != y by the own == -/
def rOwnN (K : PySem.W.Frag) (C : Addr) (sp : Sp) (E : XK) : R2 := fun x y H Q => ∃ a dx fs t, x = .ref a ∧ H a = some (.ins C dx fs) ∧ TyX K H y t ∧ PySem.W.notFirst K C t = true ∧ sp [x, y] H (fun z H' => ∃ b, z = .bl b ∧ Q (.bl (!b)) H') E
theorem op_ownN (hm : PySem.W.mroIn X.K C (.type "object") = some true) (hne : PySem.W.findIn X.K (.ref C) "__ne__" = some (some (.builtin "object.__ne__"))) (hs : PySem.W.findIn X.K (.ref C) "__eq__" = some (some (.ref f))) (hf : PySem.W.isFn X.K (.ref f) = true)
    (Fn : FnOk X.prog X.w X.K X.mg X.base CX k f fd ps sp) (hr : Room (k + 1) X.A) (hb : Binds X.K fd ps [])
    (hx : ∀ (H : Hp) (s : Shared) (e : Value) (s' : Shared), CX X.stack H s E e s' → X.xe e s') : OpR X (compareOp .NotEq) (rOwnN X.K C sp E) := by
  intro pins s σ H x y v u Q I rx ry h
  obtain ⟨a, dx, fs, t, rfl, ha, ty, hn, q⟩ := h
  cases rx
  obtain ⟨ox, od, J⟩ := inst_of I ha
  have hun := hr.units
  show wpAny _ _ (richCompare .NotEq (.ref a) u) _ _ _
  refine ne_K (by omega) I.kIn J hm (type_of I ry ty) hn hne hs hf (wpAny_call (codeAny_mono (Fn.run X.A.in1 X.stack s H ⟨[.ref a, u], []⟩ [.ref a, u] [.ref a, y] _ E hr.in1 I.env0.in1 (by simpa using hb s [.ref a, u] I.kIn (by simpa using (Fn.len _ _ _ _ q))) (.cons rfl (.cons ry .nil)) q) fun r s' hq => ?_))
  cases r with
  | error e => exact hx _ _ _ _ hq
  | ok fl =>
    cases fl with
    | ret u =>
      obtain ⟨v, H', I', rv, b, ev, qv⟩ := I.after hq
      subst ev
      cases rv
      exact ⟨b, rfl, .bl (!b), H', I', rfl, qv⟩
    | next => exact hq
    | brk => exact hq
    | cont => exact hq
end
/-! ### the end, the base's own facts told -/
section
variable {P : Program} {w : World} {K : PySem.W.Frag} {mg mb : Str → Option Value} {CX : CXT} {k : Nat} {fa a : Addr} {fd : FuncData} {x : Str} {sp : Sp} {s₁ : Shared} {vs : List Value} {ns : List Int}
theorem law_run (KX : K.In s₁.heap) (hns : s₁.heap.Ns mainGlobals mg) (hb : s₁.heap.Ns builtinsNs mb) (hbb : ∀ x : Str, x ≠ "__name__" → mb x = bootBuiltins x) (hlim : s₁.heap.NoLimit) (hsr : s₁.heap.NoSeer) (hg : s₁.gens = #[])
    (ha : s₁.heap.get? a = some { cls := .type "list", data := .seq vs.toArray }) (hi : IntsAre vs ns) (hl : ns.length ≤ sizeLine) (hr : Room k callerA)
    (F : ∀ base : Heap, K.In base → base.Ns mainGlobals mg → base.NoSeer → FnOk P w K mg base CX k fa fd [x] sp) (hbind : ∀ (s : Shared) (u : Value), BindsTo s fd ⟨[u], []⟩ [(x, u)])
    (hsp : ∀ H : Hp, Only H → SqL K H a (ns.map V.int) → sp [.ref a] H (fun v _ => v = .bl true) fun _ _ _ => False) (hCX : ∀ H e s', CX [] H s₁ (fun _ _ _ => False) e s' → False) :
    codeAny (model P w) callerA (.call (.ref fa) ⟨[.ref a], []⟩) (fun r s' => r = .ok (.ret (.bool true)) ∧ OldK s₁.heap s'.heap ∧ s'.os = s₁.os ∧ AllBare s'.gens) s₁ := by
  -- the abstract heap: the script, where the top does not hold it itself
  obtain ⟨H, hA, hS, hO, hok⟩ : ∃ H : Hp, (∀ b, H b ≠ none → b = a ∧ K.lookup a = none) ∧ SqL K H a (ns.map V.int) ∧ Only H ∧ HOk P w H s₁.heap := by
    have rv := vals_ints hi
    cases hk : K.lookup a with
    | some o =>
      have e := KX a o hk
      rw [ha] at e
      cases e
      have e := rv.length
      rw [List.length_map] at e
      exact ⟨fun _ => none, fun b z => (z rfl).elim, .inr ⟨_, vs.toArray, _, hk, rfl, rfl, rfl, by rw [List.size_toArray]; omega, by simpa using rv⟩, fun _ => .inl rfl, fun b u z => by cases (z : (none : Option HO) = some u)⟩
    | none =>
      refine ⟨upd (fun _ => none) a (.frz { cls := .type "list", data := .seq vs.toArray } (.lst (ns.map V.int))), fun b z => ?_, .inl (.inr ⟨_, upd_same⟩), fun b => ?_, fun b u z => ?_⟩
      · by_cases e : b = a
        · exact ⟨e, rfl⟩
        · rw [upd_ne e] at z
          exact (z rfl).elim
      · by_cases e : b = a
        · exact .inr ⟨_, _, by rw [e]; exact upd_same⟩
        · exact .inl (upd_ne e)
      · by_cases e : b = a
        · subst e
          rw [upd_same] at z
          cases z
          exact ⟨ha, by rw [List.length_map]; exact hl, vs, _, rv, ha⟩
        · rw [upd_ne e] at z
          cases z
  -- all but a list is in the base
  have up : ∀ {b : Addr} {o : Obj}, s₁.heap.get? b = some o → o.cls ≠ .type "list" → (hidT s₁.heap H).get? b = some o := fun {b o} e hc => hidT_get e (by
    cases q : H b with
    | none => rfl
    | some u =>
      have := (hA b (by rw [q]; simp)).1
      subst this
      rw [ha] at e
      cases e
      exact (hc rfl).elim)
  have upD : ∀ {b : Addr} {o : Obj} {es : Array DictEntry} {ep : Nat}, s₁.heap.get? b = some o → o.data = .dict es ep → (hidT s₁.heap H).get? b = some o := fun {b o es ep} e d => hidT_get e (by
    cases q : H b with
    | none => rfl
    | some u =>
      have := (hA b (by rw [q]; simp)).1
      subst this
      rw [ha] at e
      cases e
      cases d)
  have upN : ∀ {b : Addr} {m : Str → Option Value}, s₁.heap.Ns b m → (hidT s₁.heap H).Ns b m := fun {b m} ⟨o, es, ep, e, d, r⟩ => ⟨o, es, ep, upD e d, d, r⟩
  have upK : K.In (hidT s₁.heap H) := fun b o e => hidT_get (KX b o e) (by
    cases q : H b with
    | none => rfl
    | some u =>
      obtain ⟨h1, h2⟩ := hA b (by rw [q]; simp)
      rw [h1, h2] at e
      cases e)
  have bs : (hidT s₁.heap H).NoSeer :=
    ⟨let ⟨mc, z, r⟩ := hsr.statics; ⟨mc, upN z, r⟩, let ⟨mm, z, r⟩ := hsr.mods; ⟨mm, upN z, r⟩, let ⟨mi, z, r⟩ := hsr.imp; ⟨mi, upN z, r⟩,
      let ⟨m', bm, ob, z, e1, e2, e3, e4⟩ := hsr.main; ⟨m', bm, ob, upN z, e1, up e2 (by rw [e3]; decide), e3, e4⟩⟩
  have md : Mod K mg (hidT s₁.heap H) := ⟨upK, upN hns, ⟨mb, upN hb, hbb⟩, let ⟨mc, z, r⟩ := hlim; ⟨mc, upN z, r⟩⟩
  have e0 : Env0 P w K mg (hidT s₁.heap H) callerA [] s₁ H := ⟨rfl, md, fun b o e => of_hidT e, Nat.le_of_eq (hidT_size _ _), trivial, fun b hb => absurd (show b ∈ ([] : List Addr) from hb) (by simp), hok, .of_eq hg⟩
  refine codeAny_mono ((F _ upK (upN hns) bs).run callerA [] s₁ H ⟨[.ref a], []⟩ [.ref a] [.ref a] _ _ hr e0 (hbind s₁ (.ref a)) (.cons rfl .nil) (hsp H hO hS)) fun r s' h => ?_
  cases r with
  | error e => exact (hCX H e s' h).elim
  | ok fl =>
    cases fl with
    | next => exact h.elim
    | brk => exact h.elim
    | cont => exact h.elim
    | ret u =>
      obtain ⟨v, H', os, bare, un, hok', r', q⟩ := h
      have q' : v = .bl true := q
      subst q'
      cases (r' : u = Value.bool true)
      refine ⟨rfl, OldK.of_keep fun b o e => ?_, os, bare⟩
      rcases hO b with z | ⟨ob, xs, z⟩
      · exact un.keep b o e z (fun q => absurd (show b ∈ ([] : List Addr) from q) (by simp)) (by simp)
      · have h1 := (hok b _ z).1
        rw [e] at h1
        cases h1
        exact (hok' b _ (un.frzs b _ _ z)).1
end
theorem walkN {l : PySem.W.OpenLaw} {n k : Nat} {q : Program} {loose : List Str} {XP : (Str → Option Value) → Heap → Prop} {YP : World → Heap → Prop} {d : DefRec} {K : Params → PySem.W.Frag} {CX : CXT} {sp : PySem.W.Frag → Sp} {x : Str}
    (hn : l.most = some n) (hn2 : n ≤ sizeLine) (hdf : d.params.defaults = []) (hr : Room k callerA) (hi : importsNone q = true)
    (hY : ∀ (w : World) (h : Heap), YP w h → (K w.params).In h)
    (F : ∀ (w : World) (mg : Str → Option Value) (fa : Addr) (h : Heap), (K w.params).In h → h.Ns mainGlobals mg → mg d.name = some (.ref fa) →
      ∃ fd : FuncData, (∀ (s : Shared) (u : Value), BindsTo s fd ⟨[u], []⟩ [(x, u)]) ∧
        ∀ base : Heap, (K w.params).In base → base.Ns mainGlobals mg → base.NoSeer → FnOk l.prog w (K w.params) mg base CX k fa fd [x] (sp (K w.params)))
    (hsp : ∀ (K : PySem.W.Frag) (H : Hp) (a : Addr) (ns : List Int), ns.length ≤ n → Only H → SqL K H a (ns.map V.int) → sp K [.ref a] H (fun v _ => v = .bl true) fun _ _ _ => False)
    (hCX : ∀ (H : Hp) (s : Shared) (e : Value) (s' : Shared), CX [] H s (fun _ _ _ => False) e s' → False) : PySem.W.WalkO q loose XP YP l.row.toRowW d [] (fun f vs => PySem.call f vs) := by
  refine Att.attach_call hn hdf fun w s₀ s₁ mg mb fa o pm cd doc a vs ns Gr Y ho hd hcd hmg hobj hints hlen hg => ?_
  have KX := hY w _ Y
  obtain ⟨fd, hb, hF⟩ := F w mg fa _ KX Gr.T.g hmg
  exact law_run KX Gr.T.g Gr.T.b Gr.T.builtins Gr.T.nolimit (Gr.T.seer hi) hg hobj hints (Nat.le_trans hlen hn2) hr hF hb (fun H hO hS => hsp (K w.params) H a ns hlen hO hS) fun H e s' => hCX H s₁ e s'
end G
set_option Elab.async false
set_option linter.all false
set_option maxRecDepth 100000
set_option maxHeartbeats 1000000
/-! super().__init__(..) in the __init__ of an own exception class over ValueError (own classes between). -/
namespace G
open PySem PySem.Spec PyProof.Rows L2 Evl NdefX
section
variable {prog : Program} {w : World} {A : Around} {E : Value → Shared → Prop} {h : Heap} {g : Array GenState} {d : Drawn} {t : Nat} {os : OsState}
variable {nm q : Str} {C N : Addr} {bs bm : List Value} {hdct : Bool} {sn : List Str} {sub : List Value} {ab : Bool} {col : Option Bool} {dd : Option Addr} {k0 k1 k2 k3 k5 : Option Value}
/-- the bound ValueError.__init__ called -/
theorem callBound {u e t0 : Addr} {rest : List Value} {Q : Value → Shared → Prop}
    (hC : h.get? C = some (excClassObj nm q C N bs bm hdct sn sub ab col dd k0 k1 k2 k3 k5 "ValueError.__new__")) (he : h.get? e = some (PySem.HandSPX.excO C t0)) (hu : h.get? u = some (PySem.W.kxs_mw "ValueError.__init__" e)) (hrest : rest.length ≤ sizeLine)
    (hq : ∀ h' t1, (∀ b o, b ≠ e → h.get? b = some o → h'.get? b = some o) → h'.get? e = some (PySem.HandSPX.excO C t1) → Q .none ⟨h', g, d, t, os⟩) :
    wpAny (model prog w) A (call (.ref u) rest) Q E ⟨h, g, d, t, os⟩ := by
  refine wpAny_call (codeAny_of_tree ?_)
  show wpAny _ A.in1 (callAny (.ref u) ⟨rest, []⟩) _ _ _
  simp only [callAny]
  refine wpAny_bind (wpAny_load hu ?_)
  simp only [PySem.W.kxs_mw, show (Value.type "method-wrapper" == Value.type "method" || Value.type "method-wrapper" == Value.type "builtin_function_or_method" || Value.type "method-wrapper" == Value.type "method-wrapper") = true by decide, if_true]
  refine PySem.W.KFB.if_so (by decide) ?_
  refine wpAny_bind (PySem.W.check_bound_init F.excBase_ValueError.toExcCallFacts hC he rfl ?_)
  refine wpAny_bind (wpAny_pure (wpAny_pure ?_))
  refine ⟨plainId_quiet F.excBase_ValueError.init.plain _, codeAny_builtin F.excBase_ValueError.initEntry ?_⟩
  rw [Around.under_plainId F.excBase_ValueError.init.plain _]
  exact PySem.W.exc_init_tree (cls := .ref C) (t0 := t0) (dv := none) (c2 := .none) (c3 := .none) (b4 := .bool false) he hrest fun h' k e' _ => hq h' _ k e'
end
/-- what the written part says of a class C whose __init__ (at fI) says super().__init__(..) -/
structure SupC (K : PySem.W.Frag) (file : Str) (C fI cc cda : Addr) (qual : Str) (params : Arguments) (body : List Stmt) (scope : Scope) (fd : FuncData) : Prop where
  T : OexC K C
  fn : ∃ oc od osl dV kV doc pm an ct, fd = PySem.W.fnX "__init__" qual params body scope [("__class__", cc)] dV kV doc pm an (.ref cda) ct ∧ K.lookup fI = some ⟨oc, od, .func fd, osl⟩
  code : PySem.W.codeIn K (.ref cda) qual = true
  codeO : ∃ cl cdd vs ccs tf, K.lookup cda = some ⟨cl, cdd, .fields vs, ccs⟩ ∧ vs[2]? = some (.str file tf)
  cell : ∃ cl cld csl, K.lookup cc = some ⟨cl, cld, .cell (some (.ref C)), csl⟩
  cls : ∃ cd, PySem.W.clsIn K C = some cd
  sub : PySem.W.mroIn K C (.ref C) = some true
  sup : PySem.W.ks_superIn K C C "__init__" = some (some (.builtin "ValueError.__init__"))
  base : PySem.W.subIn K (.ref C) (.type "ValueError") = some true
  plain : PySem.W.nsIn K cStatics "thirdparty.any" = some none
theorem okSup {CX : CXT} {P : Program} {w : World} {K : PySem.W.Frag} {mg : Str → Option Value} {base : Heap} {k : Nat} {file : Str} {C fI cc cda : Addr} {qual a0 : Str} {params : Arguments} {scope : Scope} {fd : FuncData} {N ps : List Str} {sp : Sp} {e : Expr} {p0 p1 p2 p3 p4 : Pos} {rest : List Stmt}
    (Z : SupC K file C fI cc cda qual params (.Expr (.Call (.Attribute (.Call (.Name "super" p0) [] [] p1) "__init__" p2) [e] [] p3) p4 :: rest) scope fd)
    (S : NScope N (a0 :: ps) ["__class__"] scope) (hp : ∃ ar, (params.posonlyargs ++ params.args).head? = some ar ∧ ar.arg = a0)
    (hks : scope.names.lookup ("super" : Str) = some .globalImplicit) (hfile : ((P.main.file : Str) == file) = true) (htop : (P.main.scope.names.lookup ("super" : Str)).isSome = false) (hsuper : mg "super" = none)
    (hs : ∀ env, swapsWith (.Call (.Attribute (.Call (.Name "super" p0) [] [] p1) "__init__" p2) [e] [] p3) none p4.line env = pure false := by intro env; rfl)
    (he : ∀ env, starEach [e] env = [(false, eval e env)] := by intro env; rfl)
    (hc : ∀ env, ∃ pl : Sem Bool, eval (.Call (.Attribute (.Call (.Name "super" p0) [] [] p1) "__init__" p2) [e] [] p3) env = (do
      let ov ← attributeBase (.Call (.Name "super" p0) [] [] p1) "__init__" env (eval (.Call (.Name "super" p0) [] [] p1) env)
      standAt p2.atName
      let (f, first) ← holding [ov] (getMethod ov "__init__" pl)
      callWith p3 f first (backTo p3 (starEach [e] env)) []) := by intro env; exact ⟨_, rfl⟩)
    (len : ∀ vs H Q E, sp vs H Q E → vs.length = ps.length + 1)
    (body : ∀ (A : Around) (outer : List PySem.Env) (s : Shared) (H : Hp) (vs : List V) (Q : VK) (E : XK), sp vs H Q E → ∃ a ws, vs = .ref a :: ws ∧ H a = some (exo a C none) ∧
      ∃ te ts, PE (ncx CX P w K mg base N ⟨"__init__", qual, params, .Expr (.Call (.Attribute (.Call (.Name "super" p0) [] [] p1) "__init__" p2) [e] [] p3) p4 :: rest, scope, [("__class__", cc)], cda⟩ fI A outer s H E) e te ∧
        PSs (ncx CX P w K mg base N ⟨"__init__", qual, params, .Expr (.Call (.Attribute (.Call (.Name "super" p0) [] [] p1) "__init__" p2) [e] [] p3) p4 :: rest, scope, [("__class__", cc)], cda⟩ fI A outer s H E) rest ts ∧
        (∀ (σ : L2.St) (H : Hp) (Q Q' : VK), (∀ z H1, Q z H1 → Q' z H1) → te σ H Q → te σ H Q') ∧ te (startF N vs [none]) H fun _ H1 => H1 = H ∧ ts { nx := fun _ H' => Q .non H', rt := Q } (startF N vs [none]) H) :
    FnOk P w K mg base CX (k + 1) fI fd (a0 :: ps) sp := by
  obtain ⟨oc, od, osl, dV, kV, doc, pm, an, ct, rfl, lk⟩ := Z.fn
  refine ⟨len, fun A outer s H args us vs Q E hr e0 hb r hsp => ?_⟩
  have hl : vs.length = (a0 :: ps).length := len _ _ _ _ hsp
  have lim : s.heap.NoLimit := e0.mod.nolimit.keeps fun b o e => (e0.bs b o e).1
  have KX : K.In s.heap := e0.mod.kin.keeps fun b o e => (e0.bs b o e).1
  refine codeAny_call_function hr.depth (KX _ _ lk) rfl S.co S.gen rfl (PySem.W.codeRec_of KX Z.code) (hb _ _ _ _ ?_)
  refine wpAny_newFunctionEnv S.nocell (fun ⟨n, _⟩ hy => S.par n (List.of_mem_zip hy).1) (fun h₁ hns hsb => ⟨lim.fresh _ hsb, ?_⟩) S.kind
  obtain ⟨a, ws, rfl, ha, te, ts, he1, hs1, mono, hq⟩ := body A outer s H vs Q E hsp
  let F : NF := ⟨"__init__", qual, params, .Expr (.Call (.Attribute (.Call (.Name "super" p0) [] [] p1) "__init__" p2) [e] [] p3) p4 :: rest, scope, [("__class__", cc)], cda⟩
  have hF1 : F.scope = scope := rfl
  have hF2 : F.cl = [(("__class__" : Str), cc)] := rfl
  show codeAny _ _ (.func F.body (envF F fI s.heap.objs.size)) _ _
  refine PySem.ks_codeAny_funcAt ?_
  have kp : ∀ b o, s.heap.get? b = some o → h₁.get? b = some o := fun b o e => hsb.extBut b o (Nat.ne_of_lt (Heap.lt_size e)) (Heap.get?_push_of_some _ e)
  obtain ⟨ccl, cld, csl, hcell⟩ := Z.cell
  have cellB : base.get? cc = some ⟨ccl, cld, .cell (some (.ref C)), csl⟩ := e0.mod.kin _ _ hcell
  have CA : CellsAt F.cl ["__class__"] [none] s.heap H := by
    rw [hF2]
    refine ⟨rfl, fun y c hy => ?_, fun x y c h1 h2 => ?_, fun i y hy => ?_⟩
    · have hc : c = cc := by
        simp only [List.lookup] at hy
        split at hy
        · exact (Option.some.inj hy).symm
        · cases hy
      subst hc
      exact ⟨(e0.bs _ _ cellB).2, some (.ref C), _, (e0.bs _ _ cellB).1, rfl⟩
    · simp only [List.lookup] at h1 h2
      split at h1
      · rename_i q1
        split at h2
        · rename_i q2
          rw [eq_of_beq q1, eq_of_beq q2]
        · cases h2
      · cases h1
    · cases i with
      | zero =>
        cases hy
        exact ⟨cc, by simp [List.lookup], fun v hv => by cases hv⟩
      | succ i => simp at hy
  have I : Inv (ncx CX P w K mg base N F fI A outer s H E) [] (startF N (.ref a :: ws) [none]) H { s with heap := h₁, toks := s.toks + ((a0 :: ps).zip us).length } := inv_startN (by rw [hF1]; exact S) hr.hd e0 hl r CA hns kp
  have KI := I.kIn
  obtain ⟨nm, q, Nn, bs, bm, sn, sub, ab, col, dd, k0, k1, k2, k3, k5, hC, hbm⟩ := Z.T.cls
  obtain ⟨t1, hae⟩ := exo_at I.hok ha
  obtain ⟨cd, hcd⟩ := Z.cls
  obtain ⟨oD, hD1, hD2⟩ : ∃ oD, h₁.get? C = some oD ∧ oD.data = .cls cd := by
    unfold PySem.W.clsIn at hcd
    split at hcd
    · rename_i c d cd' sl ho
      cases hcd
      exact ⟨_, KI _ _ ho, rfl⟩
    · cases hcd
  obtain ⟨ccl', cdd, cvs, ccs, tf, hco, hvs⟩ := Z.codeO
  obtain ⟨ar, hp1, hp2⟩ := hp
  subst hp2
  have hbody : F.body = .Expr (.Call (.Attribute (.Call (.Name "super" p0) [] [] p1) "__init__" p2) [e] [] p3) p4 :: rest := rfl
  have hks' : (envF F fI s.heap.objs.size).kindOf "super" = some .globalImplicit := by
    show F.scope.names.lookup ("super" : Str) = _
    rw [hF1]
    exact hks
  have hkc' : (envF F fI s.heap.objs.size).kindOf "__class__" = some .free := by
    show F.scope.names.lookup ("__class__" : Str) = _
    rw [hF1]
    exact S.frk _ (by simp)
  have hka' : (envF F fI s.heap.objs.size).kindOf ar.arg = some .local := by
    show F.scope.names.lookup ar.arg = _
    rw [hF1]
    exact S.par _ (by simp)
  have hkd : (envF F fI s.heap.objs.size).scope.kind = .function := by
    show F.scope.kind = _
    rw [hF1]
    exact S.kind
  have fin : ∀ {σ' : L2.St} {H' : Hp} {v : V} {u : Value} {s' : Shared}, Inv (ncx CX P w K mg base N F fI A outer s H E) [] σ' H' s' → L2.RelV v u → Q v H' → CE outer P w H s Q u s' :=
    fun {σ' H' v u s'} J rv q => ⟨v, H', J.os, J.bare, J.base, J.hok, rv, q⟩
  refine PySem.ks_wpAt_execs_cons ?_
  refine PySem.ks_wpAt_Expr_any ?_ I.quiet (hs _)
  obtain ⟨pl, hpl⟩ := hc (envF F fI s.heap.objs.size)
  refine PySem.ks_wpAt_MethodCall (pl := pl) ?_ hpl
  refine PySem.ks_wpAt_super_base (env := envF F fI s.heap.objs.size) hks' hkc' (by decide +kernel) rfl (KI _ _ lk) rfl hp1 rfl (KI _ _ hco) rfl hvs hfile htop ?_
  obtain ⟨mb, hb1, hb2⟩ := I.mod.blt
  refine PySem.W.ks_loadName_global hkd hks' (Calls.loadGlobal_builtin (env := envF F fI s.heap.objs.size) (I.mod.glob.keeps I.bk) hsuper (hb1.keeps I.bk) ((hb2 _ (by decide +kernel)).trans PyProof.Rows.Boot.«super») ⟨rfl, ?_⟩)
  refine wpAny_loadName_free (env := envF F fI s.heap.objs.size) hkd hkc' (c := cc) (by rfl) ⟨_, KI _ _ hcell, rfl⟩ ?_
  obtain ⟨m, hns2, hloc⟩ := I.loc
  have hN0 : N[0]? = some ar.arg := by
    have q := S.pre
    have : (N.take ((ar.arg :: ps).length + [("__class__" : Str)].length))[0]? = some ar.arg := by rw [q]; rfl
    rw [List.getElem?_take] at this
    simpa using this
  obtain ⟨u0, ru0, lk0⟩ := hloc 0 ar.arg (.ref a) hN0 (by rfl) (.inl hka')
  have hm0 : m ar.arg = some (.ref a) := by
    rcases lk0 with ⟨_, e1⟩ | ⟨e1, _⟩
    · cases ru0
      exact e1
    · have e1' : (envF F fI s.heap.objs.size).kindOf ar.arg = some .cell ∨ (envF F fI s.heap.objs.size).kindOf ar.arg = some .free := e1
      rw [hka'] at e1'
      rcases e1' with e1' | e1' <;> cases e1'
  refine wpAny_loadName_local (env := envF F fI s.heap.objs.size) hkd hka' hns2 hm0 ?_
  refine PySem.ks_wpAny_isType_cls hD1 hD2 ⟨rfl, ?_⟩
  have J0 : PySem.W.InstAt h₁ a (PySem.HandSPX.excO C t1) C none := ⟨hae, rfl, rfl, trivial⟩
  refine PySem.ks_wpAny_call_super hD1 hD2 hae rfl (fun c e => by cases e) (PySem.W.looks_mroIn KI Z.sub) (fun h2 hso k2 => ?_)
  have I2 : Inv (ncx CX P w K mg base N F fI A outer s H E) [] (startF N (.ref a :: ws) [none]) H { heap := h2, gens := s.gens, drawn := s.drawn, toks := s.toks + ((ar.arg :: ps).zip us).length, os := s.os } := I.kept (t' := s.toks + ((ar.arg :: ps).zip us).length) k2
  have K2 := I2.kIn
  have hsup := Z.sup
  unfold PySem.W.ks_superIn at hsup
  rw [hcd] at hsup
  have J2 : PySem.W.InstAt h2 a (PySem.HandSPX.excO C t1) C none := ⟨k2 _ _ hae, rfl, rfl, trivial⟩
  have hI : PySem.W.Looks (model P w) h2 (isInstance (.ref a) (.type "ValueError")) true := J2.type.andThen (PySem.W.looks_subIn K2 Z.base)
  refine PySem.W.kxs_getMethod PySem.W.kxs_ValueError hso (PySem.W.looks_opaque K2 Z.plain) (l₀ := cd.mro) (fun A Q E s k q => wpAny_bind ((PySem.W.looks_clsIn K2 hcd) A _ E s k (wpAny_pure q))) rfl K2 hsup hI (PySem.W.ks_ne K2 J2 hcd) (by decide +kernel) ?_
  have I3 : Inv (ncx CX P w K mg base N F fI A outer s H E) [] (startF N (.ref a :: ws) [none]) H { heap := h2.push (PySem.W.kxs_mw "ValueError.__init__" a), gens := s.gens, drawn := s.drawn, toks := s.toks + ((ar.arg :: ps).zip us).length + 1, os := s.os } := I2.kept (t' := s.toks + ((ar.arg :: ps).zip us).length + 1) (fun b o e => Heap.get?_push_of_some _ e)
  have hu : (h2.push (PySem.W.kxs_mw "ValueError.__init__" a)).get? h2.objs.size = some (PySem.W.kxs_mw "ValueError.__init__" a) := Heap.get?_push_size _ rfl
  have I4 : Inv (ncx CX P w K mg base N F fI A outer s H E) [(h2.objs.size, PySem.W.kxs_mw "ValueError.__init__" a)] (startF N (.ref a :: ws) [none]) H { heap := h2.push (PySem.W.kxs_mw "ValueError.__init__" a), gens := s.gens, drawn := s.drawn, toks := s.toks + ((ar.arg :: ps).zip us).length + 1, os := s.os } := by
    refine I3.pins_of fun p hp => ?_
    have hp' : p = (h2.objs.size, PySem.W.kxs_mw "ValueError.__init__" a) := by simpa [ncx] using hp
    subst hp'
    exact ⟨hu, I2.hok.fresh (Nat.le_refl _), Nat.ne_of_gt I2.lt, I2.nofs (Nat.le_refl _), fun v e => by cases e⟩
  rw [he]
  refine PySem.W.kxs_callWith (i := "ValueError.__init__") (x := a) rfl (Calls.evalArgs_plain ?_)
  have pa : PA (ncx CX P w K mg base N F fI A outer s H E) [e] (tCons te tNil) := pa_cons he1 pa_nil (by rw [he]; rfl)
  have pr := pa.run p3 [(h2.objs.size, PySem.W.kxs_mw "ValueError.__init__" a)] _ _ H (fun vs H1 => ∃ z, vs = [z] ∧ H1 = H ∧ ts { nx := fun _ H' => Q .non H', rt := Q } (startF N (.ref a :: ws) [none]) H) I4 (mono _ _ _ _ (fun z H1 q => ⟨z, rfl, q⟩) hq)
  rw [he] at pr
  refine wpAny_mono pr (fun us2 s2 ⟨vs2, H1, I5, r5, z, ev, eH, q5⟩ => ?_) fun _ _ z => z
  subst ev
  subst eH
  obtain ⟨u2, rfl, ru2⟩ := vals1 r5
  have pu := (I5.pin (h2.objs.size, PySem.W.kxs_mw "ValueError.__init__" a) (by simp)).1
  refine ⟨pu, ?_⟩
  obtain ⟨t2, hae2⟩ := exo_at I5.hok ha
  obtain ⟨hp2, g2, d2, tk2, os2⟩ := s2
  refine callBound (I5.kIn _ _ hC) hae2 pu (by show 1 ≤ sizeLine; rw [sizeLine_eq]; omega) fun h' t3 k3 hx3 => ?_
  have J := I5.write (t' := tk2) (x := a) (e := a) (o := exo a C none) (by rw [ha]; exact True.intro) (.inl rfl) k3 ⟨_, hx3⟩ (exo_ok hx3)
  have eu : upd H1 a (exo a C none) = H1 := by
    funext b
    by_cases hb : b = a
    · rw [hb, upd_same, ha]
    · rw [upd_ne hb]
  rw [eu] at J
  have J' : Inv (ncx CX P w K mg base N F fI A outer s H1 E) [] (startF N (.ref a :: ws) [none]) H1 ⟨h', g2, d2, tk2, os2⟩ := J.pins_of fun p hp => J.pin p (by
    have : p ∈ ([] : List (Addr × Obj)) := by simpa [ncx] using hp
    cases this)
  refine wpAt_of_wpAny (wpAny_mono (hs1.run [] _ _ H1 _ J' q5) (fun fl s' hs => ?_) fun e s' hs => hs)
  cases fl with
  | ret u =>
    obtain ⟨v, σ', H', J, rv, q⟩ := hs
    exact fin J rv q
  | next =>
    obtain ⟨σ', H', J, q⟩ := hs
    exact fin (v := V.non) (u := Value.none) J rfl q
  | brk =>
    obtain ⟨_, _, _, q⟩ := hs
    exact False.elim q
  | cont =>
    obtain ⟨_, _, _, q⟩ := hs
    exact False.elim q
end G
set_option Elab.async false
set_option linter.all false
set_option maxRecDepth 100000
set_option maxHeartbeats 1000000
/-! zip and enumerate over lists and tuples alike. -/
namespace G
open PySem PySem.Spec PyProof.Rows L2 Evl
/-- false: a list, true: a tuple -/
def SqK (K : PySem.W.Frag) : Bool → Hp → Addr → List V → Prop
  | false => SqL K
  | true => SqT K
def ItK : Bool → Heap → Addr → Addr → Nat → Prop
  | false => fun h it l i => h.IsListIter it l i
  | true => fun h it l i => h.IsTupleIter it l i
def HdK : Bool → Heap → Addr → Array Value → Prop
  | false => fun h l xs => h.IsList l xs
  | true => fun h l xs => h.IsTuple l xs
theorem drawsK {prog : Program} {w : World} {A : Around} (hh : A.handled = none) (b : Bool) (it l : Addr) (hne : l ≠ it) (xs : Array Value) :
    Draws prog w A it [it, l] xs.size (fun i v => xs[i]? = some v) (fun i h => ItK b h it l i ∧ HdK b h l xs) := by
  cases b with
  | false => exact Draws.list hh it l hne xs
  | true => exact Draws.tuple hh it l hne xs
def itObj : Bool → Addr → Obj
  | false => fun l => { cls := .type "list_iterator", data := .fields #[.ref l, .int 0 0] }
  | true => fun l => { cls := .type "tuple_iterator", data := .fields #[.ref l, .int 0 0] }
theorem beginsK (b : Bool) (l : Addr) (xs : Array Value) : Begins (.ref l) (itObj b l) fun h => HdK b h l xs := by
  cases b with
  | false => exact begins_list l xs
  | true => exact begins_tuple l xs
section
variable {X : Cx} {pins : List (Addr × Obj)} {σ : L2.St} {H : Hp} {s : Shared} {b : Bool} {a : Addr} {xs ys : List V}
theorem seqK (I : L2.Inv X pins σ H s) (h : SqK X.K b H a xs) : ∃ its : List Value, Vals xs its ∧ HdK b s.heap a its.toArray ∧ a < s.heap.objs.size := by
  cases b with
  | false =>
    obtain ⟨its, r, p, _⟩ := I.list h
    exact ⟨its, r, p.isList, p.lt⟩
  | true =>
    obtain ⟨its, r, p, _⟩ := I.tuple h
    obtain ⟨o, ho, _⟩ := id p
    exact ⟨its, r, p, Heap.lt_size ho⟩
theorem injK (I : L2.Inv X pins σ H s) (h : SqK X.K b H a xs) (h' : SqK X.K b H a ys) : xs = ys := by
  cases b with
  | false => exact I.list_inj h h'
  | true => exact I.tuple_inj h h'
theorem ItK.get {h : Heap} {it l : Addr} {i : Nat} (x : ItK b h it l i) : ∃ o vs, h.get? it = some o ∧ o.data = .fields vs := by
  cases b with
  | false =>
    obtain ⟨o, h1, _, h2⟩ := x
    exact ⟨o, _, h1, h2⟩
  | true =>
    obtain ⟨o, h1, _, h2⟩ := x
    exact ⟨o, _, h1, h2⟩
theorem ItK.at {h h' : Heap} {it l : Addr} {i : Nat} (x : ItK b h it l i) (k : ∀ o, h.get? it = some o → h'.get? it = some o) : ItK b h' it l i := by
  cases b with
  | false => exact Heap.IsListIter.at x k
  | true => exact Heap.IsTupleIter.at x k
theorem ItK.new {h : Heap} {it l : Addr} (x : h.get? it = some (itObj b l)) : ItK b h it l 0 := by
  cases b with
  | false => exact ⟨_, x, rfl, rfl⟩
  | true => exact ⟨_, x, rfl, rfl⟩
end
/-- zip over what stands at a and b -/
def ItzK (K : PySem.W.Frag) (b1 b2 : Bool) (a b : Addr) : It :=
  ⟨fun i H => ∃ (xs ys : List V) (x y : V), SqK K b1 H a xs ∧ SqK K b2 H b ys ∧ xs[i]? = some x ∧ ys[i]? = some y,
    fun i H v H' => ∃ T x y, v = .ref T ∧ H T = none ∧ H' = upd H T (.tup [x, y]) ∧ (∀ xs, SqK K b1 H a xs → xs[i]? = some x) ∧ ∀ ys, SqK K b2 H b ys → ys[i]? = some y,
    fun i H => ∃ xs ys : List V, SqK K b1 H a xs ∧ SqK K b2 H b ys ∧ i ≤ xs.length ∧ i ≤ ys.length ∧ (i = xs.length ∨ i = ys.length)⟩
theorem mem5 {c z t u v w : Addr} (h : c ∈ [z, t, u, v, w]) : c = z ∨ c = t ∨ c = u ∨ c = v ∨ c = w := by simpa using h
theorem turnZ {P : Program} {w : World} {K : PySem.W.Frag} {elts : List Expr} {kk : Nat} {tpos : Pos} {b1 b2 : Bool} {a b z TI TO i1 i2 : Addr} (D : ZipSep2 z TI TO i1 i2 [i1, a] [i2, b]) (n1 : a ≠ i1) (n2 : b ≠ i2) :
    Turn P w K (.Tuple elts kk tpos) (ItzK K b1 b2 a b) [z, TI, TO, i1, i2] z (fun i h => IsZip h z TI TO .none ∧ IsTupOf2 h TI (.ref i1) (.ref i2) ∧ (∃ x y, IsTupOf2 h TO x y) ∧ ItK b1 h i1 a i ∧ ItK b2 h i2 b i) where
  mem := by simp
  obj := fun i h st c hc => by
    obtain ⟨hz, hTI, ⟨x, y, hTO⟩, h1, h2⟩ := st
    obtain ⟨o1, v1, e1, d1⟩ := h1.get
    obtain ⟨o2, v2, e2, d2⟩ := h2.get
    rcases mem5 hc with rfl | rfl | rfl | rfl | rfl
    · exact ⟨_, hz, fun v q => nomatch q⟩
    · exact ⟨_, hTI, fun v q => nomatch q⟩
    · exact ⟨_, hTO, fun v q => nomatch q⟩
    · exact ⟨o1, e1, fun v q => by rw [d1] at q; cases q⟩
    · exact ⟨o2, e2, fun v q => by rw [d2] at q; cases q⟩
  keep := fun i h h' st k => by
    obtain ⟨hz, hTI, ⟨x, y, hTO⟩, h1, h2⟩ := st
    exact ⟨k z (by simp) _ hz, k TI (by simp) _ hTI, ⟨x, y, k TO (by simp) _ hTO⟩, h1.at fun o q => k i1 (by simp) o q, h2.at fun o q => k i2 (by simp) o q⟩
  item := by
    intro X hP hw hK hc i pins s σ H E I hf st hg
    subst hP hw hK
    obtain ⟨hz, hTI, ⟨x0, y0, hTO⟩, h1, h2⟩ := st
    obtain ⟨xs, ys, x, y, hqx, hqy, hx, hy⟩ := hg
    obtain ⟨its, rv, p, _⟩ := seqK I hqx
    obtain ⟨its2, rv2, p2, _⟩ := seqK I hqy
    obtain ⟨u, hu, ru⟩ := rv.get hx
    obtain ⟨u2, hu2, ru2⟩ := rv2.get hy
    have hzl : z < s.heap.objs.size := Heap.lt_size hz
    have hh := I.ok.hd hc
    have q1 : i < its.toArray.size := by rw [List.size_toArray, ← rv.length]; exact (List.getElem?_eq_some_iff.mp hx).1
    have q2 : i < its2.toArray.size := by rw [List.size_toArray, ← rv2.length]; exact (List.getElem?_eq_some_iff.mp hy).1
    have D1 := drawsK (prog := X.prog) (w := X.w) (A := X.A.in1) hh b1 i1 a n1 its.toArray
    have D2 := drawsK (prog := X.prog) (w := X.w) (A := X.A.in1) hh b2 i2 b n2 its2.toArray
    refine wpAny_pyNext_zipD2_item D D1 D2 hz hTI hTO ⟨h1, p⟩ ⟨h2, p2⟩ q1 q2 fun x1 x2 h' tk e1 e2 z' TO' h1' h2' hT hsz hk => ?_
    obtain rfl : x1 = u := by
      have w1 : its.toArray[i]? = some u := by simpa using hu
      rw [w1] at e1
      exact (Option.some.inj e1).symm
    obtain rfl : x2 = u2 := by
      have w1 : its2.toArray[i]? = some u2 := by simpa using hu2
      rw [w1] at e2
      exact (Option.some.inj e2).symm
    refine ⟨_, rfl, wpAny_letOwnedTupleGo_zip (s := { s with heap := h', toks := tk }) z' fun h'' z'' sb => ?_⟩
    have hT2 : h''.get? s.heap.objs.size = some { cls := .type "tuple", data := .seq #[x1, x2] } := (sb.2 _ (Nat.ne_of_gt hzl)).trans hT
    have new : ObjOk X.prog X.w (upd H s.heap.objs.size (.tup [x, y])) h'' s.heap.objs.size (.tup [x, y]) :=
      ⟨by show 2 ≤ sizeLine; decide, [x1, x2], .cons ru (.cons ru2 .nil), ⟨_, hT2, rfl, _, rfl⟩⟩
    have I1 : L2.Inv X pins σ (upd H s.heap.objs.size (.tup [x, y])) { s with heap := h'', toks := tk } :=
      I.turnedNew (t' := tk) (ch := [z, TI, TO, i1, i2]) (fun c o hb q => by
        simp only [List.mem_cons, List.not_mem_nil, or_false, not_or] at hb
        obtain ⟨k1, k2, k3, k4, k5⟩ := hb
        exact (sb.2 c k1).trans (hk c o k1 k3 k4 k5 q)) hf (Nat.le_refl _) new
    refine ⟨.ref s.heap.objs.size, _, I1, rfl, ⟨_, x, y, rfl, I.hok.fresh (Nat.le_refl _), rfl, fun l hl => by rw [injK I hl hqx]; exact hx, fun l hl => by rw [injK I hl hqy]; exact hy⟩, ⟨z'', ?_, ⟨x1, x2, ?_⟩, ?_, ?_⟩, fun c hcm => ?_⟩
    · exact (sb.2 _ D.TIz).trans (hk _ _ D.TIz D.TITO D.TIi1 D.TIi2 hTI)
    · exact (sb.2 _ D.TOz).trans TO'
    · exact h1'.1.at fun o q => (sb.2 _ (fun e => D.zi1 e.symm)).trans q
    · exact h2'.1.at fun o q => (sb.2 _ (fun e => D.zi2 e.symm)).trans q
    · have hlt : c < s.heap.objs.size := by
        obtain ⟨o1, v1, g1, _⟩ := h1.get
        obtain ⟨o2, v2, g2, _⟩ := h2.get
        rcases mem5 hcm with rfl | rfl | rfl | rfl | rfl
        · exact hzl
        · exact Heap.lt_size hTI
        · exact Heap.lt_size hTO
        · exact Heap.lt_size g1
        · exact Heap.lt_size g2
      rw [upd_ne (Nat.ne_of_lt hlt)]
      exact (hf c hcm).1
  done := by
    intro X hP hw hK hc i pins s σ H E I hf st hg
    subst hP hw hK
    obtain ⟨hz, hTI, ⟨x0, y0, hTO⟩, h1, h2⟩ := st
    obtain ⟨xs, ys, hqx, hqy, k1, k2, hend⟩ := hg
    obtain ⟨its, rv, p, _⟩ := seqK I hqx
    obtain ⟨its2, rv2, p2, _⟩ := seqK I hqy
    have l1 : xs.length = its.toArray.size := by rw [List.size_toArray]; exact rv.length
    have l2 : ys.length = its2.toArray.size := by rw [List.size_toArray]; exact rv2.length
    have hh := I.ok.hd hc
    rw [l1] at k1 hend
    rw [l2] at k2 hend
    have D1 := drawsK (prog := X.prog) (w := X.w) (A := X.A.in1) hh b1 i1 a n1 its.toArray
    have D2 := drawsK (prog := X.prog) (w := X.w) (A := X.A.in1) hh b2 i2 b n2 its2.toArray
    exact wpAny_pyNext_zipD2_end D D1 D2 hz hTI hTO ⟨h1, p⟩ ⟨h2, p2⟩ k1 k2 hend fun h' tk hk => ⟨rfl, I.turnedL (t' := tk) (ch := [z, TI, TO, i1, i2]) (fun c o hb q => by
        simp only [List.mem_cons, List.not_mem_nil, or_false, not_or] at hb
        obtain ⟨k1, k2, k3, k4, k5⟩ := hb
        exact hk c o k1 k3 k4 k5 q) hf⟩
  self := fun A i s Q E st h => wpAny_pyIter_zip st.1 h
/-- zip(x, y), x and y lists or tuples that stand still -/
def iZipK (K : PySem.W.Frag) (ta : TA) : TI := fun σ H R => ta σ H fun vs H1 => ∃ b1 b2 a b xs ys, vs = [.ref a, .ref b] ∧ SqK K b1 H1 a xs ∧ SqK K b2 H1 b ys ∧ R (ItzK K b1 b2 a b) H1
theorem pi_zipK {X : Cx} {e e2 : Expr} {ta : TA} {p pos tpos : Pos} {elts : List Expr} {kk : Nat} (hg : Gl X "zip") (hm : X.mg "zip" = none) (ha : PA X [e, e2] ta)
    (hs : starEach [e, e2] X.env = (false, eval e X.env) :: starEach [e2] X.env := by rfl) (hpl : (backTo pos (starEach [e2] X.env)).any (·.1) = false := by rfl) :
    PI X (.Tuple elts kk tpos) (.Call (.Name "zip" p) [e, e2] [] pos) (iZipK X.K ta) := by
  refine ⟨fun pins s σ H R I h => ?_⟩
  refine Call_ (ld_blt I hg hm PyProof.Rows.boot_zip (PyProof.Rows.callWith_type1 (thn (ha.run pos pins s σ H _ I h) fun us s1 ⟨vs, H1, I1, r1, q1⟩ => ?_) hs hpl))
  obtain ⟨b1, b2, a, b, xs, ys, ex, hqx, hqy, q⟩ := q1
  subst ex
  obtain ⟨u1, u2, rfl, ra, rb⟩ := vals2 r1
  cases ra
  cases rb
  obtain ⟨its, rv, p1, la⟩ := seqK I1 hqx
  obtain ⟨its2, rv2, p2, lb⟩ := seqK I1 hqy
  refine zip_begins2 (beginsK b1 a its.toArray) (beginsK b2 b its2.toArray) p1 p2 fun h' hz hTI hTO h1 h2 hsz hk => wpAny_pyIter_zip hz ?_
  have I2 : L2.Inv X pins σ H1 { s1 with heap := h' } := I1.kept (t' := s1.toks) hk
  refine ⟨s1.heap.objs.size + 4, [s1.heap.objs.size + 4, s1.heap.objs.size + 2, s1.heap.objs.size + 3, s1.heap.objs.size, s1.heap.objs.size + 1], _, _, H1, rfl, I2, turnZ (zip_sep2 (fun c hc => by rw [List.mem_singleton.mp hc]; exact la) (fun c hc => by rw [List.mem_singleton.mp hc]; exact lb)) (Nat.ne_of_lt la) (Nat.ne_of_lt (Nat.lt_succ_of_lt lb)), ⟨hz, hTI, ⟨_, _, hTO⟩, .new h1, .new h2⟩, fun c hcm => ?_, q⟩
  have hle : s1.heap.objs.size ≤ c := by
    rcases mem5 hcm with rfl | rfl | rfl | rfl | rfl
    · exact Nat.le_add_right _ _
    · exact Nat.le_add_right _ _
    · exact Nat.le_add_right _ _
    · exact Nat.le_refl _
    · exact Nat.le_add_right _ _
  exact I1.fpOk hle (I1.hok.fresh hle)
/-! ### enumerate -/
theorem meetsEnum {v : Value} {o : Obj} {H : Heap → Prop} (B : Begins v o H) :
    Meets (Builtin.«enumerate.__new__» ⟨[.type "enumerate", v], []⟩) (fun _ R s => H s.heap ∧
      R (.ok (.ret (.ref (s.heap.push o).objs.size))) { s with heap := (s.heap.push o).push { cls := .type "enumerate", data := .fields #[.none, .bool false, .ref s.heap.objs.size, rawInt 0, .none, .none] } }) :=
  .of_wp fun prog w A R s h => by
    obtain ⟨hp, g, d, tk, os⟩ := s
    obtain ⟨h1, h⟩ := h
    have hsub := sub_enumerate
    have q1 : ∀ {A' : Around} {E : Value → Shared → Prop} {Q : Value → Shared → Prop}, Q (.ref hp.objs.size) ⟨hp.push o, g, d, tk, os⟩ → wpAny (model prog w) A' (pyIter v) Q E ⟨hp, g, d, tk, os⟩ :=
      fun q => B.iter prog w _ _ ⟨hp, g, d, tk, os⟩ _ h1 q
    wp_walk using q1
    refine wpAny_stack_any fun st => wpAny_pure ?_
    split
    · rename_i c _ _ _ _ _
      cases (c == Value.type "enumerate") <;> (wp_walk using q1; exact ⟨_, rfl, h⟩)
    · wp_walk using q1
      exact ⟨_, rfl, h⟩
theorem callEnum {prog : Program} {w : World} {A : Around} {E : Value → Shared → Prop} {s : Shared} {v : Value} {o : Obj} {H : Heap → Prop} {Q : Value → Shared → Prop} (B : Begins v o H) (h1 : H s.heap)
    (h : ∀ h', IsEnum h' (s.heap.objs.size + 1) s.heap.objs.size 0 .none → h'.get? s.heap.objs.size = some o → h'.objs.size = s.heap.objs.size + 2 →
      (∀ b o, s.heap.get? b = some o → h'.get? b = some o) → Q (.ref (s.heap.objs.size + 1)) { s with heap := h' }) :
    wpAny (model prog w) A (call (.type "enumerate") [v]) Q E s := by
  refine callType_new F.called_enumerate (by decide) (F.typeCall_enumerate_1 _) (F.newCall_enumerate_1 _) (fun obj => F.args_object_init_2 obj _) F.entry_enumerate_new (meetsEnum B) ⟨h1, ?_⟩
  have hz : (s.heap.push o).objs.size = s.heap.objs.size + 1 := Heap.size_push ..
  have he := Heap.get?_push_size (s.heap.push o) (o := { cls := .type "enumerate", data := .fields #[.none, .bool false, .ref s.heap.objs.size, rawInt 0, .none, .none] }) rfl
  rw [hz] at he
  show _ ∧ _
  rw [hz]
  exact ⟨⟨_, he, rfl⟩, h _ he (Heap.get?_push_of_some _ (Heap.get?_push_size _ B.free)) (by rw [Heap.size_push, hz]) fun b o x => Heap.get?_push_of_some _ (Heap.get?_push_of_some _ x)⟩
def IteK (K : PySem.W.Frag) (b : Bool) (a : Addr) : It :=
  ⟨fun i H => ∃ (xs : List V) (x : V), SqK K b H a xs ∧ xs[i]? = some x, fun i H v H' => ∃ T x, v = .ref T ∧ H T = none ∧ H' = upd H T (.tup [.int (i : Nat), x]) ∧ ∀ xs, SqK K b H a xs → xs[i]? = some x, fun i H => ∃ xs : List V, SqK K b H a xs ∧ i = xs.length⟩
theorem turnE {P : Program} {w : World} {K : PySem.W.Frag} {elts : List Expr} {kk : Nat} {tpos : Pos} {b : Bool} {a e it : Addr} (hne : e ≠ it) (na : a ≠ it) (ne : e ≠ a) :
    Turn P w K (.Tuple elts kk tpos) (IteK K b a) [e, it] e (fun i h => (∃ old, IsEnum h e it ((i : Nat) : Int) old) ∧ ItK b h it a i) where
  mem := by simp
  obj := fun i h st c hc => by
    obtain ⟨⟨old, he⟩, h1⟩ := st
    obtain ⟨o1, v1, e1, d1⟩ := h1.get
    have e' : c = e ∨ c = it := by simpa using hc
    rcases e' with rfl | rfl
    · exact ⟨_, he, fun v q => nomatch q⟩
    · exact ⟨o1, e1, fun v q => by rw [d1] at q; cases q⟩
  keep := fun i h h' st k => let ⟨⟨old, he⟩, h1⟩ := st; ⟨⟨old, k e (by simp) _ he⟩, h1.at fun o q => k it (by simp) o q⟩
  item := by
    intro X hP hw hK hc i pins s σ H E I hf st hg
    subst hP hw hK
    obtain ⟨⟨old, he⟩, h1⟩ := st
    obtain ⟨xs, x, hq, hx⟩ := hg
    obtain ⟨its, rv, p, _⟩ := seqK I hq
    obtain ⟨u, hu, ru⟩ := rv.get hx
    have hel : e < s.heap.objs.size := Heap.lt_size he
    have q1 : i < its.toArray.size := by rw [List.size_toArray, ← rv.length]; exact (List.getElem?_eq_some_iff.mp hx).1
    have D1 := drawsK (prog := X.prog) (w := X.w) (A := X.A.in1) (I.ok.hd hc) b it a na its.toArray
    refine wpAny_pyNext_enum_itemD D1 he ⟨h1, p⟩ q1 hne (by simp [hne, ne]) fun x1 h' tk e1 ho st' hT hsz hk => ?_
    obtain rfl : x1 = u := by
      have w1 : its.toArray[i]? = some u := by simpa using hu
      rw [w1] at e1
      exact (Option.some.inj e1).symm
    refine ⟨_, rfl, wpAny_letOwnedTupleGo_enum (s := { s with heap := h', toks := tk + 1 }) ho fun h'' he' sb => ?_⟩
    have hT2 : h''.get? s.heap.objs.size = some { cls := .type "tuple", data := .seq #[.int i tk, x1] } := (sb.2 _ (Nat.ne_of_gt hel)).trans hT
    have new : ObjOk X.prog X.w (upd H s.heap.objs.size (.tup [.int (i : Nat), x])) h'' s.heap.objs.size (.tup [.int (i : Nat), x]) :=
      ⟨by show 2 ≤ sizeLine; decide, [.int i tk, x1], .cons ⟨_, rfl⟩ (.cons ru .nil), ⟨_, hT2, rfl, _, rfl⟩⟩
    have I1 : L2.Inv X pins σ (upd H s.heap.objs.size (.tup [.int (i : Nat), x])) { s with heap := h'', toks := tk + 1 } :=
      I.turnedNew (t' := tk + 1) (ch := [e, it]) (fun c o hb q => by
        simp only [List.mem_cons, List.not_mem_nil, or_false, not_or] at hb
        exact (sb.2 c hb.1).trans (hk c o hb.1 hb.2 q)) hf (Nat.le_refl _) new
    refine ⟨.ref s.heap.objs.size, _, I1, rfl, ⟨_, x, rfl, I.hok.fresh (Nat.le_refl _), rfl, fun ys hy => by rw [injK I hy hq]; exact hx⟩, ⟨⟨x1, ?_⟩, st'.1.at fun o q => (sb.2 it (Ne.symm hne)).trans q⟩, fun c hcm => ?_⟩
    · have e1 : ((i + 1 : Nat) : Int) = (i : Int) + 1 := by omega
      rw [e1]
      exact he'
    · have hlt : c < s.heap.objs.size := by
        obtain ⟨o1, v1, g1, _⟩ := h1.get
        have e' : c = e ∨ c = it := by simpa using hcm
        rcases e' with rfl | rfl
        · exact hel
        · exact Heap.lt_size g1
      rw [upd_ne (Nat.ne_of_lt hlt)]
      exact (hf c hcm).1
  done := by
    intro X hP hw hK hc i pins s σ H E I hf st hg
    subst hP hw hK
    obtain ⟨⟨old, he⟩, h1⟩ := st
    obtain ⟨xs, hq, hx⟩ := hg
    obtain ⟨its, rv, p, _⟩ := seqK I hq
    obtain ⟨f0, f1, f2, f3, f4, f5⟩ := hf it (by simp)
    have l1 : xs.length = its.toArray.size := by rw [List.size_toArray]; exact rv.length
    rw [l1] at hx
    subst hx
    have D1 := drawsK (prog := X.prog) (w := X.w) (A := X.A.in1) (I.ok.hd hc) b it a na its.toArray
    exact wpAny_pyNext_enum_endD D1 he ⟨h1, p⟩ fun h' eb => ⟨rfl, I.turned (t' := s.toks) (fun b o hb q => eb b o hb q) f0 f1 f3 f4 f5⟩
  self := fun A i s Q E st h => let ⟨⟨_, he⟩, _⟩ := st; wpAny_pyIter_enum he h
def iEnumK (K : PySem.W.Frag) (ta : TA) : TI := fun σ H R => ta σ H fun vs H1 => ∃ b a xs, vs = [.ref a] ∧ SqK K b H1 a xs ∧ R (IteK K b a) H1
theorem pi_enumK {X : Cx} {e : Expr} {ta : TA} {p pos tpos : Pos} {elts : List Expr} {kk : Nat} (hg : Gl X "enumerate") (hm : X.mg "enumerate" = none) (ha : PA X [e] ta) (hs : starEach [e] X.env = [(false, eval e X.env)] := by rfl) :
    PI X (.Tuple elts kk tpos) (.Call (.Name "enumerate" p) [e] [] pos) (iEnumK X.K ta) := by
  refine ⟨fun pins s σ H R I h => ?_⟩
  refine Call_ (ld_blt I hg hm boot_enumerate (PyProof.Rows.callWith_type1 (thn (ha.run pos pins s σ H _ I h) fun us s1 ⟨vs, H1, I1, r1, q1⟩ => ?_) hs rfl))
  obtain ⟨b, a, xs, ex, hq, q⟩ := q1
  subst ex
  obtain ⟨u, rfl, ra⟩ := vals1 r1
  cases ra
  obtain ⟨its, rv, p1, la⟩ := seqK I1 hq
  refine callEnum (beginsK b a its.toArray) p1 fun h' he h1 hsz hk => wpAny_pyIter_enum he ?_
  have I2 : L2.Inv X pins σ H1 { s1 with heap := h' } := I1.kept (t' := s1.toks) hk
  refine ⟨s1.heap.objs.size + 1, [s1.heap.objs.size + 1, s1.heap.objs.size], _, _, H1, rfl, I2, turnE (Nat.succ_ne_self _) (Nat.ne_of_lt la) (Nat.ne_of_gt (Nat.lt_succ_of_lt la)), ⟨⟨.none, he⟩, .new h1⟩, fun c hcm => ?_, q⟩
  have hle : s1.heap.objs.size ≤ c := by
    have e' : c = s1.heap.objs.size + 1 ∨ c = s1.heap.objs.size := by simpa using hcm
    rcases e' with rfl | rfl
    · exact Nat.le_add_right _ _
    · exact Nat.le_refl _
  exact I1.fpOk hle (I1.hok.fresh hle)
end G
set_option Elab.async false
set_option linter.all false
set_option maxRecDepth 100000
namespace G
open PySem PySem.Spec PyProof.Rows L2 Evl
section
variable {K : PySem.W.Frag} {F H H' H0 : Hp} {M : List Addr} {δ δ' : Env} {μ μ' μ'' : Sto} {σ : L2.St} {ta tb te tl : TE} {t u : TT} {d e : DV} {ds es : List DV} {i j : Nat} {D : L2.Ends} {tu tw : TS} {tr : TA}
theorem Seq.rep {v : V} (r : Rp K H v d) (sq : Seq d ds) : ∃ b a vs, v = .ref a ∧ SqK K b H a vs ∧ RpAll K H vs ds := by
  cases sq with
  | lst => cases r with | lst h1 h2 => exact ⟨false, _, _, rfl, h1, h2⟩
  | tup => cases r with | tup h1 h2 => exact ⟨true, _, _, rfl, h1, h2⟩
theorem SqK.ext {b : Bool} {a : Addr} {vs : List V} (e : Ex H H') (h : SqK K b H a vs) : SqK K b H' a vs := by
  cases b with
  | false => exact ex_l e h
  | true => exact ex_t e h
theorem walkZ {b1 b2 : Bool} {a b : Addr} {xs ys : List V} {n : Nat} (hn : n = min xs.length ys.length) : L2.Walk (ItzK K b1 b2 a b) n (fun H => SqK K b1 H a xs ∧ SqK K b2 H b ys) (YPair (fun i => xs[i]?) (fun i => ys[i]?)) where
  goes := fun i H hi q => ⟨xs, ys, xs[i]'(by omega), ys[i]'(by omega), q.1, q.2, List.getElem?_eq_getElem (by omega), List.getElem?_eq_getElem (by omega)⟩
  stops := fun H q => ⟨xs, ys, q.1, q.2, by omega, by omega, by omega⟩
  yields := fun i H v H' hi q y => by
    obtain ⟨T, x, y, h1, h2, h3, h4, h5⟩ := y
    exact ⟨T, x, y, h1, h2, h3, h4 _ q.1, h5 _ q.2⟩
theorem walkE {b : Bool} {a : Addr} {xs : List V} : L2.Walk (IteK K b a) xs.length (fun H => SqK K b H a xs) (YPair (fun i => some (.int (i : Nat))) (fun i => xs[i]?)) where
  goes := fun i H hi q => ⟨xs, xs[i], q, List.getElem?_eq_getElem hi⟩
  stops := fun H q => ⟨xs, q, rfl⟩
  yields := fun i H v H' hi q y => by
    obtain ⟨T, x, h1, h2, h3, h4⟩ := y
    exact ⟨T, .int (i : Nat), x, h1, h2, h3, rfl, h4 _ q⟩
theorem wx_zip {j1 j2 : Nat} {n : Nat} (h : AX K tr δ μ μ' [d, e]) (sd : Seq d ds) (se : Seq e es) (hn : n = min ds.length es.length) :
    WX K (iZipK K tr) (gTup K 2 (gCons (gName j1) (gCons (gName j2) gNil))) δ μ μ' n [j1, j2] (fun i δ => (δ.set j1 (some (ds.getD i .non))).set j2 (some (es.getD i .non))) := fun F M σ H s R r =>
  h F M σ H s _ fun vs H1 e1 s1 r1 => by
    cases r1 with
    | cons x y =>
      cases y with
      | cons y z =>
        cases z
        obtain ⟨b1, a1, v1, rfl, q1, p1⟩ := sd.rep x
        obtain ⟨b2, a2, v2, rfl, q2, p2⟩ := se.rep y
        have l1 := p1.length
        have l2 := p2.length
        refine ⟨b1, b2, a1, a2, v1, v2, rfl, q1.ext hid_sub, q2.ext hid_sub, r _ H1 e1 s1 (turns_pair (walkZ (by rw [hn, l1, l2])) (fun H M e => ⟨q1.ext (e.trans hid_sub), q2.ext (e.trans hid_sub)⟩) (fun i x _ hx => ?_) fun i x _ hx => ?_)⟩
        · obtain ⟨d, hd, rd⟩ := p1.get' hx
          rw [List.getD_eq_getElem?_getD, hd]
          exact rd
        · obtain ⟨d, hd, rd⟩ := p2.get' hx
          rw [List.getD_eq_getElem?_getD, hd]
          exact rd
theorem wx_enumK {j1 j2 : Nat} (h : AX K tr δ μ μ' [d]) (sd : Seq d ds) :
    WX K (iEnumK K tr) (gTup K 2 (gCons (gName j1) (gCons (gName j2) gNil))) δ μ μ' ds.length [j1, j2] (fun i δ => (δ.set j1 (some (.int (i : Nat)))).set j2 (some (ds.getD i .non))) := fun F M σ H s R r =>
  h F M σ H s _ fun vs H1 e1 s1 r1 => by
    cases r1 with
    | cons x z =>
      cases z
      obtain ⟨b1, a1, v1, rfl, q1, p1⟩ := sd.rep x
      refine ⟨b1, a1, v1, rfl, q1.ext hid_sub, r _ H1 e1 s1 ?_⟩
      rw [← p1.length]
      refine turns_pair walkE (fun H M e => q1.ext (e.trans hid_sub)) (fun i x _ hx => ?_) fun i x _ hx => ?_
      · cases hx
        exact .int _
      · obtain ⟨d, hd, rd⟩ := p1.get' hx
        rw [List.getD_eq_getElem?_getD, hd]
        exact rd
/-! ### operators of own classes -/
variable {C : Addr} {fs gs : List (Str × DV)} {R : List DV → DV → Prop} {E : XK}
theorem ex_ownB (ha : EX K ta δ μ μ' (.ins C fs)) (hb : EX K tb δ μ' μ'' (.ins C gs)) (h : R [.ins C fs, .ins C gs] d) : EX K (tOp (rOwnB C (spD K R) E) ta tb) δ μ μ'' d := fun F M σ H s Q q =>
  ha F M σ H s _ fun v H1 e1 s1 r1 => hb F M σ H1 s1 _ fun w H2 e2 s2 r2 => by
    have r1' := r1.mono e2
    have rr : RpAll K (hid M H2) [v, w] [.ins C fs, .ins C gs] := .cons r1' (.cons r2 .nil)
    cases r1' with
    | ins h1 h2 =>
      cases r2 with
      | ins k1 k2 => exact ⟨_, _, _, _, _, _, rfl, rfl, hid_sub _ _ h1, hid_sub _ _ k1, M, _, d, s2.al, rr, h, fun v H3 e3 r => q v H3 ((e1.trans e2).trans (hid_mono e3)) (s2.mono e3) r⟩
theorem ex_ownE {b : Bool} {w : Value} (ha : EX K ta δ μ μ' (.ins C fs)) (hb : EX K tb δ μ' μ'' e) (ty : TyD K e w) (hn : PySem.W.notFirst K C w = true) (h : R [.ins C fs, e] (.bl b)) : EX K (tOp (rOwnE K C (spD K R) E) ta tb) δ μ μ'' (.bl b) := fun F M σ H s Q q =>
  ha F M σ H s _ fun v H1 e1 s1 r1 => hb F M σ H1 s1 _ fun w' H2 e2 s2 r2 => by
    have r1' := r1.mono e2
    have rr : RpAll K (hid M H2) [v, w'] [.ins C fs, e] := .cons r1' (.cons r2 .nil)
    cases r1' with
    | ins h1 h2 => exact ⟨_, _, _, w, rfl, hid_sub _ _ h1, ty.x (r2.mono hid_sub), hn, M, _, .bl b, s2.al, rr, h, fun v H3 e3 r => q v H3 ((e1.trans e2).trans (hid_mono e3)) (s2.mono e3) r⟩
theorem ex_ownN {b : Bool} {w : Value} (ha : EX K ta δ μ μ' (.ins C fs)) (hb : EX K tb δ μ' μ'' e) (ty : TyD K e w) (hn : PySem.W.notFirst K C w = true) (h : R [.ins C fs, e] (.bl b)) : EX K (tOp (rOwnN K C (spD K R) E) ta tb) δ μ μ'' (.bl (!b)) := fun F M σ H s Q q =>
  ha F M σ H s _ fun v H1 e1 s1 r1 => hb F M σ H1 s1 _ fun w' H2 e2 s2 r2 => by
    have r1' := r1.mono e2
    have rr : RpAll K (hid M H2) [v, w'] [.ins C fs, e] := .cons r1' (.cons r2 .nil)
    cases r1' with
    | ins h1 h2 =>
      refine ⟨_, _, _, w, rfl, hid_sub _ _ h1, ty.x (r2.mono hid_sub), hn, M, _, .bl b, s2.al, rr, h, fun v H3 e3 r => ?_⟩
      cases r
      exact ⟨b, rfl, q _ H3 ((e1.trans e2).trans (hid_mono e3)) (s2.mono e3) (.bl _)⟩
theorem ex_ownU (ha : EX K ta δ μ μ' (.ins C fs)) (h : R [.ins C fs] d) : EX K (tUn (fun x H Q => ∃ a dx fs, x = .ref a ∧ H a = some (.ins C dx fs) ∧ spD K R [x] H Q E) ta) δ μ μ' d := fun F M σ H s Q q =>
  ha F M σ H s _ fun v H1 e1 s1 r1 => by
    have rr : RpAll K (hid M H1) [v] [.ins C fs] := .cons r1 .nil
    cases r1 with
    | ins h1 h2 => exact ⟨_, _, _, rfl, hid_sub _ _ h1, M, _, d, s1.al, rr, h, fun v H3 e3 r => q v H3 (e1.trans (hid_mono e3)) (s1.mono e3) r⟩
theorem ex_lenOwn {n : Nat} (ha : EX K ta δ μ μ' (.ins C fs)) (hn : n < 2 ^ 63) (h : R [.ins C fs] (.int n)) : EX K (tCB (rLenOwn C (spD K R) E) (tCons ta tNil)) δ μ μ' (.int n) := fun F M σ H s Q q =>
  ha F M σ H s _ fun v H1 e1 s1 r1 => by
    have rr : RpAll K (hid M H1) [v] [.ins C fs] := .cons r1 .nil
    cases r1 with
    | ins h1 h2 =>
      refine ⟨_, _, _, rfl, hid_sub _ _ h1, M, _, .int n, s1.al, rr, h, fun v H3 e3 r => ?_⟩
      cases r
      exact ⟨n, rfl, ⟨by omega, by omega⟩, q _ H3 (e1.trans (hid_mono e3)) (s1.mono e3) (.int _)⟩
/-! ### __init__ -/
theorem RpF.app1 {fs : List (Str × V)} {gs : List (Str × DV)} {f : Str} {v : V} (r : RpF K H fs gs) (hf : gs.lookup f = none) (q : Rp K H v d) : RpF K H (putF f v fs) (gs ++ [(f, d)]) := by
  induction gs generalizing fs with
  | nil =>
    cases r
    exact .cons q .nil
  | cons g gs ih =>
    cases r with
    | @cons n v' vs d' ds r t =>
      rw [List.lookup_cons] at hf
      cases hb : (f == n) with
      | true => rw [hb] at hf; cases hf
      | false =>
        rw [hb] at hf
        have e : (n == f) = false := by
          rw [beq_eq_false_iff_ne] at hb ⊢
          exact fun z => hb z.symm
        have hne : n ≠ f := by rw [← beq_eq_false_iff_ne]; exact e
        have z : putF f v ((n, v') :: vs) = (n, v') :: putF f v vs := if_neg hne
        rw [z]
        exact .cons r (ih t hf)
/-- self.f = e in __init__ -/
theorem x_fldI {x dx : Addr} {f : Str} {fv : List (Str × V)} (s : Sta K (upd F x (.ins C dx fv)) M δ μ σ H) (rf : RpF K (hid M H) fv fs) (hx : x ∈ M) (hF : F x = none) (hm : ∀ p ∈ μ', p.1 ≠ x) (hv : EX K te δ μ μ' d) (ho : EX K ta δ μ' μ' (.box x)) (c : Cls K C) (n : NoAttr K C f) (hl : fs.length < 1000) (hf : fs.lookup f = none)
    (k : ∀ fv' H', Sta K (upd F x (.ins C dx fv')) M δ μ' σ H' → RpF K (hid M H') fv' (fs ++ [(f, d)]) → D.nx σ H') : sFld K ta te f D σ H :=
  hv _ M σ H s _ fun v H1 e1 s1 r1 => ho _ M σ H1 s1 _ fun w H2 e2 s2 r2 => by
    cases r2
    have hxx : H2 x = some (.ins C dx fv) := s2.fr x _ upd_same
    have rf2 := rf.mono (e1.trans e2)
    have hlen : fv.length = fs.length := by
      clear k hf hl s s1 s2 hxx rf2
      induction fs generalizing fv with
      | nil => cases rf; rfl
      | cons g gs ih => cases rf with | cons r t => simp [ih t]
    have hx2 : Ex (hid M H2) (hid M (upd H2 x (.ins C dx (putF f v fv)))) := fun a o q => by
      have hn := hid_no q
      exact hid_get hn (by rw [upd_ne (fun e => hn (by rw [e]; exact hx))]; exact hid_sub _ _ q)
    refine ⟨x, C, dx, fv, rfl, hxx, c, n, by rw [hlen]; exact hl, k (putF f v fv) _ ⟨fun a ha => ?_, fun a o q => ?_, fun p hp => ?_, s2.nd, fun p hp => ?_, fun i d h => ?_, s2.len⟩ ((rf2.mono hx2).app1 hf ((r1.mono e2).mono hx2))⟩
    · by_cases e : a = x
      · rw [e, upd_same]; simp
      · rw [upd_ne e]; exact s2.al a ha
    · by_cases e : a = x
      · subst e
        rw [upd_same] at q ⊢
        exact q
      · rw [upd_ne e] at q ⊢
        exact s2.fr a o (by rw [upd_ne e]; exact q)
    · obtain ⟨p1, p2⟩ := s2.dm p hp
      refine ⟨p1, ?_⟩
      rw [upd_ne (hm p hp)] at p2 ⊢
      exact p2
    · obtain ⟨vs, g1, g2⟩ := s2.sto p hp
      exact ⟨vs, by rw [upd_ne (hm p hp)]; exact g1, g2.mono hx2⟩
    · obtain ⟨v, g1, g2⟩ := s2.env i d h
      exact ⟨v, g1, g2.mono hx2⟩
theorem initCore {N : List Str} {vs : List V} {Q : VK} {E : XK} {R : List DV → List (Str × DV) → Prop} (h : spI K C R vs H Q E) : ∃ M x dx ds fs, R ds fs ∧ x ∈ M ∧ (hid [x] H) x = none ∧ Sta K (upd (hid [x] H) x (.ins C dx [])) M (startD N.length (.box x :: ds)) [] (L2.start N vs) H ∧
    ∀ δ σ' H' fv, Sta K (upd (hid [x] H) x (.ins C dx fv)) M δ [] σ' H' → RpF K (hid M H') fv fs → Q .non H' := by
  obtain ⟨M, x, dx, ws, ds, fs, rfl, hx, hxM, al, ra, hR, k⟩ := h
  have st : Sta K (upd (hid [x] H) x (.ins C dx [])) (x :: M) (startD N.length (.box x :: ds)) [] (L2.start N (.ref x :: ws)) H := by
    refine ⟨fun a ha => ?_, fun a o q => ?_, fun p hp => (nomatch hp), by simp, fun p hp => (nomatch hp), envAll (.cons (.box x) ra), by unfold L2.start startD; simp [ra.length]⟩
    · rcases List.mem_cons.mp ha with rfl | ha
      · rw [hx]; simp
      · exact al a ha
    · by_cases e : a = x
      · subst e
        rw [upd_same] at q
        rw [hx, q]
      · rw [upd_ne e] at q
        exact hid_sub _ _ q
  exact ⟨x :: M, x, dx, ds, fs, hR, by simp, by unfold hid; simp, st, fun δ σ' H' fv s rf =>
    k H' fv (fun a o hne q => s.fr a o (by rw [upd_ne hne]; exact hid_get (by simp [hne]) q)) (s.fr x _ upd_same) rf⟩
end
section
variable {K : PySem.W.Frag} {P : Program} {w : World} {mg : Str → Option Value} {base : Heap} {C : Addr}
theorem okI {x qual : Str} {params : Arguments} {body : List Stmt} {scope : Scope} {dvs : List V} {kws : List (Str × V)} {f : Addr} {fd : FuncData} {N ps : List Str} {k : Nat} {R : List DV → List (Str × DV) → Prop} (Fn : FunD K x qual params body scope dvs kws f fd) (S : FnScope N ps scope) (len : ∀ ds r, R ds r → ds.length + 1 = ps.length)
    (hbody : ∀ (cdv : Value) (A : Around) (outer : List PySem.Env) (s : Shared) (H : Hp) (E : XK), Room k (A.deeper (envOfC qual scope s.heap.objs.size f cdv)) →
      ∃ t, PSs (cxOf CX0 P w K mg base N qual scope f cdv A outer s H E).nox body t ∧ ∀ F M x dx ds fs σ H1 D, R ds fs → x ∈ M → F x = none → Sta K (upd F x (.ins C dx [])) M (startD N.length (.box x :: ds)) [] σ H1 →
        (∀ δ σ' H' fv, Sta K (upd F x (.ins C dx fv)) M δ [] σ' H' → RpF K (hid M H') fv fs → D.nx σ' H') → t D σ H1) : FnOk P w K mg base CX0 (k + 1) f fd ps (spI K C R) := by
  refine Fn.ok S (fun vs H Q E ⟨M, x, dx, ws, ds, fs, e, _, _, _, h1, h2, _⟩ => by rw [e, List.length_cons, h1.length]; exact len _ _ h2) fun cdv A outer s H vs Q E hr h => ?_
  obtain ⟨M, x, dx, ds, fs, hR, hx, h0, st, kq⟩ := initCore (N := N) h
  obtain ⟨t, h1, h2⟩ := hbody cdv A outer s H E hr
  exact ⟨t, h1.nox, h2 _ M x dx ds fs _ H _ hR hx h0 st kq⟩
end
end G
set_option Elab.async false
set_option linter.all false
set_option maxRecDepth 100000
namespace G
open PySem PySem.Spec PyProof.Rows L2 Evl
/-! ### promises under their names -/
theorem room_div {k : Nat} {A : Around} (hr : Room k A) (h : 40 ≤ k) : A.depth + 100 < recursionLimit := by
  have := hr.dp
  have e : recursionLimit = 1000 := by first | rfl | decide
  omega
structure CalG (P : Program) (w : World) (K : PySem.W.Frag) (mg : Str → Option Value) (base : Heap) (k : Nat) (x : Str) (sp : Sp) (dvs : List V) : Prop where
  ex : ∃ (f : Addr) (fd : FuncData) (ps : List Str) (ds : List Value), FnOk P w K mg base CX0 k f fd ps sp ∧ mg x = some (.ref f) ∧ PySem.W.keepIn K (.ref f) = true ∧ Binds K fd ps ds ∧ Vals dvs ds
structure MetG (P : Program) (w : World) (K : PySem.W.Frag) (mg : Str → Option Value) (base : Heap) (k : Nat) (C : Addr) (m : Str) (sp : Sp) : Prop where
  ex : ∃ (f : Addr) (fd : FuncData) (ps : List Str), Cls K C ∧ Meth K C m f ∧ FnOk P w K mg base CX0 k f fd ps sp ∧ Binds K fd ps []
structure MakG (P : Program) (w : World) (K : PySem.W.Frag) (mg : Str → Option Value) (base : Heap) (k : Nat) (x : Str) (C : Addr) (sp : Sp) (dvs : List V) : Prop where
  ex : ∃ (f : Addr) (fd : FuncData) (ps : List Str) (ds : List Value), Mk K C f ∧ FnOk P w K mg base CX0 k f fd ps sp ∧ mg x = some (.ref C) ∧ Binds K fd ps ds ∧ Vals dvs ds
section
variable {X : Cx} {k j : Nat} {C : Addr} {x m : Str} {sp : Sp} {dvs : List V} {p pos apos : Pos} {e o : Expr} {es : List Expr} {ta : TE} {t : TA}
theorem pe_cG (c : CalG X.prog X.w X.K X.mg X.base k x sp dvs) (hr : Room j X.A) (hk : k ≤ j) (hg : Gl X x) (ha : PA X (e :: es) t)
    (hdb : (x == ("__debug__" : Str)) = false := by decide) (he : starEach (e :: es) X.env = (false, eval e X.env) :: starEach es X.env := by rfl) (hpl : (backTo pos (starEach es X.env)).any (·.1) = false := by rfl) :
    PE X (.Call (.Name x p) (e :: es) [] pos) (tCall sp dvs E0 t) := by
  obtain ⟨f, fd, ps, ds, F, hm, kp, b, d⟩ := c.ex
  exact pe_call F (hr.mono hk) hg hm kp b d pass0 ha hdb he hpl
theorem pe_mkG (c : MakG X.prog X.w X.K X.mg X.base k x C sp dvs) (hr : Room j X.A) (hk : k + 1 ≤ j) (hg : Gl X x) (ha : PA X (e :: es) t)
    (hdb : (x == ("__debug__" : Str)) = false := by decide) (he : starEach (e :: es) X.env = (false, eval e X.env) :: starEach es X.env := by rfl) (hpl : (backTo pos (starEach es X.env)).any (·.1) = false := by rfl) :
    PE X (.Call (.Name x p) (e :: es) [] pos) (tMake C sp dvs E0 t) := by
  obtain ⟨f, fd, ps, ds, M, F, hm, b, d⟩ := c.ex
  exact pe_make M F (hr.mono hk) hg hm b d pass0 ha hdb he hpl
theorem pe_mtG {pl : Sem Bool} (c : MetG X.prog X.w X.K X.mg X.base k C m sp) (hr : Room j X.A) (hk : k ≤ j) (he : PE X o ta) (ha : PA X (e :: es) t)
    (hst : starEach (e :: es) X.env = (false, eval e X.env) :: starEach es X.env := by rfl) (hpl : (backTo pos (starEach es X.env)).any (·.1) = false := by rfl)
    (ht : eval (.Call (.Attribute o m apos) (e :: es) [] pos) X.env = (do
      let ov ← eval o X.env
      standAt apos.atName
      let (f, first) ← holding [ov] (getMethod ov m pl)
      callWith pos f first (backTo pos (starEach (e :: es) X.env)) (backToKw pos (keywordEach [] X.env))) := by rfl) :
    PE X (.Call (.Attribute o m apos) (e :: es) [] pos) (tMeth C m sp [] E0 ta t) := by
  obtain ⟨f, fd, ps, hc, hm, F, b⟩ := c.ex
  exact pe_meth (pl := pl) he hc hm F (hr.mono hk) b .nil pass0 ha hst hpl ht
theorem pe_mtG0 {pl : Sem Bool} (c : MetG X.prog X.w X.K X.mg X.base k C m sp) (hr : Room j X.A) (hk : k ≤ j) (he : PE X o ta)
    (ht : eval (.Call (.Attribute o m apos) [] [] pos) X.env = (do
      let ov ← eval o X.env
      standAt apos.atName
      let (f, first) ← holding [ov] (getMethod ov m pl)
      callWith pos f first (backTo pos (starEach [] X.env)) (backToKw pos (keywordEach [] X.env))) := by rfl) :
    PE X (.Call (.Attribute o m apos) [] [] pos) (tMeth C m sp [] E0 ta tNil) := by
  obtain ⟨f, fd, ps, hc, hm, F, b⟩ := c.ex
  exact pe_meth0 (pl := pl) he hc hm F (hr.mono hk) b .nil pass0 ht
theorem opB {op : Operator} (hc : PySem.W.selfFirst X.K C = true) (c : MetG X.prog X.w X.K X.mg X.base k C (PySem.dunder op.info.2) sp) (hr : Room j X.A) (hk : k ≤ j) : OpR X (binaryOp op) (rOwnB C sp E0) := by
  obtain ⟨f, fd, ps, _, hm, F, b⟩ := c.ex
  exact op_ownB hc hm.at_ hm.fn F (hr.mono hk) b pass0
theorem opE (c : MetG X.prog X.w X.K X.mg X.base k C "__eq__" sp) (hr : Room j X.A) (hk : k ≤ j) : OpR X (compareOp .Eq) (rOwnE X.K C sp E0) := by
  obtain ⟨f, fd, ps, _, hm, F, b⟩ := c.ex
  exact op_ownE hm.at_ hm.fn F (hr.mono hk) b pass0
theorem opN (c : MetG X.prog X.w X.K X.mg X.base k C "__eq__" sp) (o : PySem.W.mroIn X.K C (.type "object") = some true) (hne : PySem.W.findIn X.K (.ref C) "__ne__" = some (some (.builtin "object.__ne__"))) (hr : Room j X.A) (hk : k + 1 ≤ j) : OpR X (compareOp .NotEq) (rOwnN X.K C sp E0) := by
  obtain ⟨f, fd, ps, _, hm, F, b⟩ := c.ex
  exact op_ownN o hne hm.at_ hm.fn F (hr.mono hk) b fun _ _ _ _ z => z.elim
theorem opU (c : MetG X.prog X.w X.K X.mg X.base k C "__neg__" sp) (hr : Room j X.A) (hk : k ≤ j) : UnR X (unaryOp .USub) (fun x H Q => ∃ a dx fs, x = .ref a ∧ H a = some (.ins C dx fs) ∧ sp [x] H Q E0) := by
  obtain ⟨f, fd, ps, _, hm, F, b⟩ := c.ex
  exact un_own hm.at_ hm.fn F (hr.mono hk) b pass0
theorem lenG (c : MetG X.prog X.w X.K X.mg X.base k C "__len__" sp) (hr : Room j X.A) (hk : k + 1 ≤ j) : CallR X (.builtin "len") (rLenOwn C sp E0) := by
  obtain ⟨f, fd, ps, _, hm, F, b⟩ := c.ex
  exact call_lenOwn hm.at_ hm.fn F (hr.mono hk) b fun _ _ _ _ z => z.elim
theorem op_div {j : Nat} (sr : X.base.NoSeer) (tr : X.prog.given.tree = none) (hr : Room j X.A) (hk : 40 ≤ j) (st : PlainTop X.stack) : OpR X (binaryOp .FloorDiv) (rI CNz fun i j => .int (i.fdiv j)) := op_fdivB sr tr (room_div hr hk) st
end
/-- a class of the program as its instances are asked -/
structure ClsG (K : PySem.W.Frag) (C : Addr) : Prop where
  own : OwnC K C
  sf : PySem.W.selfFirst K C = true
  ne : PySem.W.findIn K (.ref C) "__ne__" = some (some (.builtin "object.__ne__"))
theorem ClsG.nf {K : PySem.W.Frag} {C : Addr} (c : ClsG K C) : PySem.W.notFirst K C (.ref C) = true := by
  unfold PySem.W.notFirst
  simp
end G
set_option Elab.async false
set_option linter.all false
set_option maxRecDepth 100000
namespace G
open PySem PySem.Spec PyProof.Rows L2 Evl
section
variable {K : PySem.W.Frag} {F H H' H0 : Hp} {M : List Addr} {δ δ' : Env} {μ μ' μ'' : Sto} {σ : L2.St} {ta tb te tl : TE} {t u : TT} {d e : DV} {ds es : List DV} {i j : Nat} {D : L2.Ends} {tu tw : TS} {tr : TA}
/-- a loop by an invariant; the hidden addresses may grow -/
def NewIn (F : Hp) (M M1 : List Addr) : Prop := (∀ a ∈ M, a ∈ M1) ∧ ∀ a ∈ M1, a ∈ M ∨ F a = none
theorem NewIn.refl : NewIn F M M := ⟨fun _ h => h, fun _ h => .inl h⟩
theorem NewIn.cons {p : Addr} {M1 : List Addr} (h : NewIn F M M1) (hp : F p = none) : NewIn F M (p :: M1) :=
  ⟨fun a ha => List.mem_cons_of_mem _ (h.1 a ha), fun a ha => (List.mem_cons.mp ha).elim (fun e => .inr (by rw [e]; exact hp)) fun ha => h.2 a ha⟩
def Nxt (K : PySem.W.Frag) (F : Hp) (M : List Addr) (I : List Addr → Env → Sto → Prop) (σ : L2.St) (H : Hp) : Prop := ∃ M2 δ2 μ2, I M2 δ2 μ2 ∧ NewIn F M M2 ∧ Sta K F M2 δ2 μ2 σ H
theorem x_forP {wi : TI} {g : TG} {js : List Nat} {n : Nat} {b : Nat → Env → Env} (I : Nat → List Addr → Env → Sto → Prop) (s : Sta K F M δ μ σ H) (w : WX K wi g δ μ μ' n js b) (h0 : I 0 M δ μ')
    (turn : ∀ F1 i M1 δ1 μ1 σ' H', Ex F F1 → i < n → I i M1 δ1 μ1 → NewIn F1 M M1 → Sta K F1 M1 (b i δ1) μ1 σ' H' → tu { D with nx := Nxt K F1 M (I (i + 1)), ct := Nxt K F1 M (I (i + 1)), bk := D.nx } σ' H')
    (done : ∀ M1 δ1 μ1 σ' H', I n M1 δ1 μ1 → NewIn F M M1 → Sta K F M1 δ1 μ1 σ' H' → D.nx σ' H') : tFor wi g tu D σ H :=
  w F M σ H s _ fun J H1 e1 s1 T => by
    obtain ⟨s1w, eF, eB⟩ := s1.widen
    generalize hid (μ'.map Prod.fst) H1 = F1 at s1w eF eB
    have back : ∀ {M1 : List Addr}, NewIn F1 M M1 → ∀ a o, hid M H1 a = some o → a ∉ M1 := fun {M1} h a o q hm => by
      rcases h.2 a hm with z | z
      · exact hid_no q z
      · rw [eB a o q] at z; cases z
    have nar : ∀ {M1 : List Addr}, NewIn F1 M M1 → NewIn F M M1 := fun {M1} h => ⟨h.1, fun a ha => (h.2 a ha).imp id fun z => by
      cases q : F a with
      | none => rfl
      | some o => rw [eF a o q] at z; cases z⟩
    refine ⟨fun i m σ2 H2 => m = n - i ∧ i ≤ n ∧ Nxt K F1 M (I i) σ2 H2, ⟨n, by simp, Nat.zero_le _, M, δ, μ', h0, .refl, s1w⟩, ?_⟩
    rintro i m σ2 H2 ⟨rfl, hi, M2, δ2, μ2, i2, n2, s2⟩
    have ed : Ex (hid M H1) (hid M2 H2) := s2.data eB (back n2)
    by_cases hlt : i < n
    · refine .inr ⟨T.go i H2 _ ed hlt, Nxt K F1 M (I (i + 1)), fun σ3 H3 s3 => ⟨n - (i + 1), by omega, rfl, hlt, s3⟩, fun x H3 y => ?_⟩
      exact T.bind i H2 x H3 _ _ _ _ _ hlt ed s2 y _ fun σ3 _ s3 _ _ => turn F1 i M2 δ2 μ2 σ3 H3 eF hlt i2 n2 s3
    · have e : i = n := by omega
      subst e
      exact .inl ⟨T.stop H2 _ ed, done M2 δ2 μ2 σ2 H2 i2 (nar n2) (s2.narrow eF)⟩
/-- the next turn -/
theorem nxt {I : List Addr → Env → Sto → Prop} {M1 : List Addr} (s : Sta K F M1 δ μ σ H) (n : NewIn F M M1) (h : I M1 δ μ) : Nxt K F M I σ H := ⟨M1, δ, μ, h, n, s⟩
/-! ### lists of lists that are changed -/
/-- xs.append([..]), the new list a mutable one -/
theorem x_appL {l : Addr} (s : Sta K F M δ μ σ H) (ha : EX K ta δ μ μ (.box l)) (h : LX K te δ μ μ' ds) (h0 : μ[j]? = some (l, es)) (hj : μ'[j]? = some (l, es)) (hz : es.length < 100000)
    (k : ∀ p H', F p = none → p ∉ M → Sta K F (p :: M) δ ((p, ds) :: μ'.set j (l, es ++ [.box p])) σ H' → D.nx σ H') : tDrop (tBM K "list" rAppend ta (tCons te tNil)) D σ H :=
  ha F M σ H s _ fun v H1 e1 s1 r1 => by
    cases r1
    obtain ⟨xs, g1, _⟩ := s1.sto _ (List.mem_of_getElem? h0)
    refine ⟨.inl ⟨rfl, xs, sq_of g1⟩, h F M σ H1 s1 _ fun p H2 hp hpM e2 s2 => ?_⟩
    have hj2 : ((p, ds) :: μ')[j + 1]? = some (l, es) := by simpa using hj
    obtain ⟨ys, k1, k2⟩ := s2.sto _ (List.mem_of_getElem? hj2)
    have z := (s2.poke hj2 (k2.app (.cons (.box p) .nil))).1
    exact ⟨l, ys, .ref p, rfl, rfl, k1, sz_lt (by rw [k2.length]; exact hz), k p _ (s1.freshF hp) hpM (by simpa using z)⟩
/-- the mutable lists of a mutable list stand still from here on -/
theorem Sta.still2 {p : Addr} {ps : List Addr} {rows : List (List DV)} (s : Sta K F (p :: (ps ++ M)) δ ((p, ps.map .box) :: (ps.zip rows ++ μ)) σ H) (hl : ps.length = rows.length) (hn : ∀ q ∈ ps, q ∉ M) (hp : p ∉ M) :
    Sta K F (p :: M) δ ((p, rows.map .lst) :: μ) σ H := by
  have up : Ex (hid (p :: (ps ++ M)) H) (hid (p :: M) H) := hid_less fun a ha => by
    rcases List.mem_cons.mp ha with rfl | ha
    · simp
    · exact List.mem_cons_of_mem _ (List.mem_append_right _ ha)
  have hnd := List.nodup_cons.mp s.nd
  have hps : (ps.zip rows).map Prod.fst = ps := by
    rw [List.map_fst_zip]
    omega
  have hpp : p ∉ ps := fun h => hnd.1 (by rw [List.map_append, hps]; exact List.mem_append_left _ h)
  have hnd2 : (ps ++ μ.map Prod.fst).Nodup := by
    have := hnd.2
    rw [List.map_append, hps] at this
    exact this
  refine ⟨fun a ha => s.al a (by
      rcases List.mem_cons.mp ha with rfl | ha
      · simp
      · exact List.mem_cons_of_mem _ (List.mem_append_right _ ha)), s.fr, fun q hq => ?_, ?_, fun q hq => ?_, fun i d h => ?_, s.len⟩
  · rcases List.mem_cons.mp hq with rfl | hq
    · exact ⟨by simp, (s.dm (p, ps.map .box) (by simp)).2⟩
    · obtain ⟨a1, a2⟩ := s.dm q (List.mem_cons_of_mem _ (List.mem_append_right _ hq))
      refine ⟨?_, a2⟩
      rcases List.mem_cons.mp a1 with e | e
      · rw [e]; simp
      · rcases List.mem_append.mp e with e | e
        · exact ((List.nodup_append.mp hnd2).2.2 q.1 e q.1 (List.mem_map_of_mem hq) rfl).elim
        · exact List.mem_cons_of_mem _ e
  · rw [List.map_cons, List.nodup_cons]
    exact ⟨fun h => hnd.1 (by rw [List.map_append]; exact List.mem_append_right _ h), (List.nodup_append.mp hnd2).2.1⟩
  · rcases List.mem_cons.mp hq with rfl | hq
    · obtain ⟨vs, g1, g2⟩ := s.sto (p, ps.map .box) (by simp)
      refine ⟨vs, g1, ?_⟩
      have key : ∀ (qs : List Addr) (rs : List (List DV)) (vs : List V), qs.length = rs.length → (∀ x ∈ qs.zip rs, ∃ ws, H x.1 = some (.lst ws) ∧ RpAll K (hid (p :: M) H) ws x.2) → (∀ q ∈ qs, q ∉ M ∧ q ≠ p) → RpAll K (hid (p :: (ps ++ M)) H) vs (qs.map .box) → RpAll K (hid (p :: M) H) vs (rs.map .lst) := by
        intro qs
        induction qs with
        | nil =>
          intro rs vs hl _ _ h
          cases rs with
          | nil => cases h; exact .nil
          | cons r rs => cases hl
        | cons q qs ih =>
          intro rs vs hl hx hq h
          cases rs with
          | nil => cases hl
          | cons r rs =>
            cases h with
            | cons a b =>
              cases a
              obtain ⟨ws, w1, w2⟩ := hx (q, r) (by simp)
              exact .cons (.lst (sq_of (hid_get (by simp [hq q (by simp)]) w1)) w2) (ih rs _ (by simpa using hl) (fun x hx' => hx x (by simp [hx'])) (fun q' h' => hq q' (by simp [h'])) b)
      exact key ps rows vs hl (fun x hx => by
        obtain ⟨ws, w1, w2⟩ := s.sto x (List.mem_cons_of_mem _ (List.mem_append_left _ hx))
        exact ⟨ws, w1, w2.mono up⟩) (fun q hq => ⟨hn q hq, fun e => hpp (by rw [← e]; exact hq)⟩) g2
    · obtain ⟨vs, g1, g2⟩ := s.sto q (List.mem_cons_of_mem _ (List.mem_append_right _ hq))
      exact ⟨vs, g1, g2.mono up⟩
  · obtain ⟨v, g1, g2⟩ := s.env i d h
    exact ⟨v, g1, g2.mono up⟩
theorem RpAll.erase : ∀ {vs : List V} {ds : List DV} (k : Nat), RpAll K H vs ds → RpAll K H (vs.eraseIdx k) (ds.eraseIdx k)
  | _, _, _, .nil => .nil
  | _, _, 0, .cons _ t => t
  | _, _, k + 1, .cons r t => .cons r (RpAll.erase k t)
/-- xs.pop(i) -/
theorem ex_popAt {l : Addr} {n : Int} {k : Nat} (ha : EX K ta δ μ μ (.box l)) (hb : EX K tb δ μ μ (.int n)) (hj : μ[j]? = some (l, es)) (h1 : -(2 ^ 63) ≤ n) (h2 : n < 2 ^ 63) (hk : seqIndex? n es.length = some k) (hy : es[k]? = some d) :
    EX K (tBM K "list" rPopAt ta (tCons tb tNil)) δ μ (μ.set j (l, es.eraseIdx k)) d := fun F M σ H s Q q =>
  ha F M σ H s _ fun v H1 e1 s1 r1 => by
    cases r1
    obtain ⟨xs, g1, _⟩ := s1.sto _ (List.mem_of_getElem? hj)
    refine ⟨.inl ⟨rfl, xs, sq_of g1⟩, hb F M σ H1 s1 _ fun w H2 e2 s2 r2 => ?_⟩
    cases r2
    obtain ⟨ys, k1, k2⟩ := s2.sto _ (List.mem_of_getElem? hj)
    obtain ⟨y, hy', ry⟩ := k2.get hy
    obtain ⟨z1, z2⟩ := s2.poke hj (k2.erase k)
    exact ⟨l, ys, n, k, y, rfl, rfl, k1, h1, h2, by rw [k2.length]; exact hk, hy', q y _ ((e1.trans e2).trans z2) z1 (ry.mono z2)⟩
/-! ### the store untouched -/
theorem y_ret (s : Sta K F M δ μ σ H) (h : EX K te δ μ μ d) (k : ∀ v H', Sta K F M δ μ σ H' → Rp K (hid M H') v d → D.rt v H') : tRet te D σ H := x_ret s h k
theorem y_asg (s : Sta K F M δ μ σ H) (h : EX K te δ μ μ d) (k : ∀ σ' H', Sta K F M (δ.set i (some d)) μ σ' H' → D.nx σ' H') : tAsg te (gName i) D σ H := x_asg s h k
theorem y_asgN (s : Sta K F M δ μ σ H) (h : EX K te δ μ μ d) (k : ∀ σ' H', Sta K F M (δ.set i none) μ σ' H' → D.nx σ' H') : tAsg te (gName i) D σ H := x_asgN s h k
theorem y_asgL (s : Sta K F M δ μ σ H) (h : LX K te δ μ μ ds) (k : ∀ p σ' H', p ∉ M → F p = none → Sta K F (p :: M) (δ.set i (some (.box p))) ((p, ds) :: μ) σ' H' → D.nx σ' H') : tAsg te (gName i) D σ H := x_asgL s h fun p σ' H' hp s' => k p σ' H' hp (s'.dm (p, ds) (by simp)).2 s'
theorem y_if {b : Bool} (s : Sta K F M δ μ σ H) (h : TX K t δ μ μ b) (h1 : b = true → ∀ H', Sta K F M δ μ σ H' → tu D σ H') (h2 : b = false → ∀ H', Sta K F M δ μ σ H' → tw D σ H') : tIfS t tu tw D σ H := x_if s h h1 h2
theorem y_skip (s : Sta K F M δ μ σ H) (h : TX K t δ μ μ false) (h2 : ∀ H', Sta K F M δ μ σ H' → D.nx σ H') : tIfS t tu tNext D σ H := x_skip s h h2
theorem y_drop (s : Sta K F M δ μ σ H) (h : EX K te δ μ μ d) (k : ∀ H', Sta K F M δ μ σ H' → D.nx σ H') : tDrop te D σ H := x_drop s h k
theorem y_app {l : Addr} (s : Sta K F M δ μ σ H) (ha : EX K ta δ μ μ (.box l)) (h : EX K te δ μ μ d) (hj : μ[j]? = some (l, ds)) (hz : ds.length < 100000) (k : ∀ H', Sta K F M δ (μ.set j (l, ds ++ [d])) σ H' → D.nx σ H') :
    tDrop (tBM K "list" rAppend ta (tCons te tNil)) D σ H := x_app s ha h hj hj hz k
theorem y_setL {l : Addr} {n : Int} {m : Nat} (s : Sta K F M δ μ σ H) (h : EX K te δ μ μ d) (ho : EX K ta δ μ μ (.box l)) (hi : EX K tb δ μ μ (.int n)) (hj : μ[j]? = some (l, ds)) (hn : ixN ds.length n = some m)
    (k : ∀ H', Sta K F M δ (μ.set j (l, ds.set m d)) σ H' → D.nx σ H') : tAsg te (gSub ta tb rSetL) D σ H := x_setL s h ho hi hj hn k
/-- r is what is promised: the end of a def to data -/
theorem y_end {D : L2.Ends} {F0 : Hp} {M0 : List Addr} {r : DV} (krt : ∀ v H', Ex F0 H' → Rp K (hid M0 H') v r → D.rt v H') (s : Sta K F M δ μ σ H) (h : EX K te δ μ μ' r) (e : Ex F0 F) (n : ∀ a ∈ M0, a ∈ M) : tRet te D σ H :=
  x_ret s h fun v H' s' rv => krt v H' (e.trans s'.fr) (rv.mono (hid_less n))
end
end G
set_option Elab.async false
set_option linter.all false
set_option maxRecDepth 100000
namespace G
open PySem PySem.Spec PyProof.Rows L2 Evl
/-! ### rules with K told (for the blocks of comprehensions) -/
section
variable {X : Cx} {K : PySem.W.Frag} {e e2 tg : Expr} {te : TE} {ta : TA} {f x : Str} {p pos tpos apos cpos : Pos} {elts es : List Expr} {kk j k : Nat} {C : Addr} {sp : Sp} {T name : Str}
theorem ix_seqK (h : X.K = K := by rfl) : IxR X (rIx K) := h ▸ ix_seq
theorem call_lenK (h : X.K = K := by rfl) : CallR X (.builtin "len") (rLenQ K) := h ▸ call_lenQ
theorem call_listK (h : X.K = K := by rfl) : CallR X (.type "list") (rListQ K) := h ▸ call_listQ
theorem call_tupK (h : X.K = K := by rfl) : CallR X (.type "tuple") (rTupQ K) := h ▸ call_tupQ
theorem cr_sumK (hc : X.calm = true := by rfl) (h : X.K = K := by rfl) : CallR X (.builtin "sum") (rSum K) := h ▸ cr_sum hc
theorem cr_allK (hc : X.calm = true := by rfl) (h : X.K = K := by rfl) : CallR X (.builtin "all") (rAll K) := h ▸ cr_all hc
theorem cr_anyK (hc : X.calm = true := by rfl) (h : X.K = K := by rfl) : CallR X (.builtin "any") (rAny K) := h ▸ cr_any hc
theorem call_isK (h : X.K = K := by rfl) : CallR X (.builtin "isinstance") (rIsi K) := h ▸ call_isi
theorem call_isTK (h : X.K = K := by rfl) : CallR X (.builtin "isinstance") (rIsiT K) := h ▸ call_isiT
theorem sl_listK (h : X.K = K := by rfl) : SlR X (rSlL K) := h ▸ sl_list
theorem sl_tupK (h : X.K = K := by rfl) : SlR X (rSlA K) := h ▸ sl_tupA
theorem op_catK (h : X.K = K := by rfl) : OpR X (binaryOp .Add) (rCatA K) := h ▸ op_catA
theorem op_eqDK (hu : X.A.units + 64 < cLine) (h : X.K = K := by rfl) : OpR X (compareOp .Eq) (rEqD K) := h ▸ op_eqD hu
theorem op_neDK (hu : X.A.units + 64 < cLine) (h : X.K = K := by rfl) : OpR X (compareOp .NotEq) (rNeD K) := h ▸ op_neD hu
theorem pe_fldK (he : PE X e te) (hb : attributeBase e f X.env (eval e X.env) = eval e X.env := by rfl) (h : X.K = K := by rfl) : PE X (.Attribute e f pos) (tFld K te f) := h ▸ pe_fld he hb
theorem pi_seqK (he : PE X e te) (h : X.K = K := by rfl) : PI X tg e (iSeq K te) := h ▸ pi_seq he
theorem pi_zK (hg : Gl X "zip") (hm : X.mg "zip" = none) (ha : PA X [e, e2] ta) (hs : starEach [e, e2] X.env = (false, eval e X.env) :: starEach [e2] X.env := by rfl) (hpl : (backTo pos (starEach [e2] X.env)).any (·.1) = false := by rfl) (h : X.K = K := by rfl) :
    PI X (.Tuple elts kk tpos) (.Call (.Name "zip" p) [e, e2] [] pos) (iZipK K ta) := h ▸ pi_zipK hg hm ha hs hpl
theorem pi_eK (hg : Gl X "enumerate") (hm : X.mg "enumerate" = none) (ha : PA X [e] ta) (hs : starEach [e] X.env = [(false, eval e X.env)] := by rfl) (h : X.K = K := by rfl) :
    PI X (.Tuple elts kk tpos) (.Call (.Name "enumerate" p) [e] [] pos) (iEnumK K ta) := h ▸ pi_enumK hg hm ha hs
theorem opEK (c : MetG X.prog X.w X.K X.mg X.base k C "__eq__" sp) (hr : Room j X.A) (hk : k ≤ j) (h : X.K = K := by rfl) : OpR X (compareOp .Eq) (rOwnE K C sp E0) := h ▸ opE c hr hk
theorem opNK (c : MetG X.prog X.w X.K X.mg X.base k C "__eq__" sp) (o : PySem.W.mroIn X.K C (.type "object") = some true) (hne : PySem.W.findIn X.K (.ref C) "__ne__" = some (some (.builtin "object.__ne__"))) (hr : Room j X.A) (hk : k + 1 ≤ j) (h : X.K = K := by rfl) :
    OpR X (compareOp .NotEq) (rOwnN K C sp E0) := h ▸ opN c o hne hr hk
end
section
variable {K : PySem.W.Frag} {F H H' : Hp} {M : List Addr} {δ δ' : Env} {μ μ' μ'' : Sto} {σ : L2.St} {ta tb te : TE} {a b : Int}
theorem ex_add (ha : EX K ta δ μ μ' (.int a)) (hb : EX K tb δ μ' μ'' (.int b)) : EX K (tOp (rI0 fun i j => .int (i + j)) ta tb) δ μ μ'' (.int (a + b)) := ex_I0 ha hb
theorem ex_sub (ha : EX K ta δ μ μ' (.int a)) (hb : EX K tb δ μ' μ'' (.int b)) : EX K (tOp (rI0 fun i j => .int (i - j)) ta tb) δ μ μ'' (.int (a - b)) := ex_I0 ha hb
theorem ex_mul (ha : EX K ta δ μ μ' (.int a)) (hb : EX K tb δ μ' μ'' (.int b)) (hc : CMulB a b) : EX K (tOp (rI CMulB fun i j => .int (i * j)) ta tb) δ μ μ'' (.int (a * b)) := ex_I ha hb hc
theorem ex_fdiv (ha : EX K ta δ μ μ' (.int a)) (hb : EX K tb δ μ' μ'' (.int b)) (hc : b ≠ 0) : EX K (tOp (rI CNz fun i j => .int (i.fdiv j)) ta tb) δ μ μ'' (.int (a.fdiv b)) := ex_I ha hb hc
theorem ex_mod (ha : EX K ta δ μ μ' (.int a)) (hb : EX K tb δ μ' μ'' (.int b)) (hc : b ≠ 0) : EX K (tOp (rI (fun _ j => j ≠ 0) fun i j => .int (i.fmod j)) ta tb) δ μ μ'' (.int (a.fmod b)) := ex_I ha hb hc
theorem ex_neg (ha : EX K ta δ μ μ' (.int a)) : EX K (tUn (rU fun i => .int (-i)) ta) δ μ μ' (.int (-a)) := ex_U ha
theorem ex_lt (ha : EX K ta δ μ μ' (.int a)) (hb : EX K tb δ μ' μ'' (.int b)) : EX K (tOp (rI0 fun i j => .bl (decide (i < j))) ta tb) δ μ μ'' (.bl (decide (a < b))) := ex_I0 ha hb
theorem ex_le (ha : EX K ta δ μ μ' (.int a)) (hb : EX K tb δ μ' μ'' (.int b)) : EX K (tOp (rI0 fun i j => .bl (decide (i ≤ j))) ta tb) δ μ μ'' (.bl (decide (a ≤ b))) := ex_I0 ha hb
theorem ex_gt (ha : EX K ta δ μ μ' (.int a)) (hb : EX K tb δ μ' μ'' (.int b)) : EX K (tOp (rI0 fun i j => .bl (decide (j < i))) ta tb) δ μ μ'' (.bl (decide (b < a))) := ex_I0 ha hb
theorem ex_ge (ha : EX K ta δ μ μ' (.int a)) (hb : EX K tb δ μ' μ'' (.int b)) : EX K (tOp (rI0 fun i j => .bl (decide (j ≤ i))) ta tb) δ μ μ'' (.bl (decide (b ≤ a))) := ex_I0 ha hb
def DV.isN : DV → Bool
  | .non => true
  | _ => false
theorem ex_isN {d : DV} (ha : EX K ta δ μ μ' d) : EX K (tOp (fun x y H Q => y = V.non ∧ Q (.bl (decide (x = V.non))) H) ta (tC .non)) δ μ μ' (.bl d.isN) := fun F M σ H s Q q =>
  ha F M σ H s _ fun v H1 e1 s1 r1 => by
    have e : decide (v = V.non) = d.isN := by
      cases d <;> (cases r1; simp [DV.isN])
    exact ⟨rfl, by rw [e]; exact q _ H1 e1 s1 (.bl _)⟩
theorem ex_notN {d : DV} (ha : EX K ta δ μ μ' d) : EX K (tOp (fun x y H Q => y = V.non ∧ Q (.bl (!decide (x = V.non))) H) ta (tC .non)) δ μ μ' (.bl (!d.isN)) := fun F M σ H s Q q =>
  ha F M σ H s _ fun v H1 e1 s1 r1 => by
    have e : decide (v = V.non) = d.isN := by
      cases d <;> (cases r1; simp [DV.isN])
    exact ⟨rfl, by rw [e]; exact q _ H1 e1 s1 (.bl _)⟩
end
end G
set_option Elab.async false
set_option linter.all false
set_option maxRecDepth 100000
namespace G
open PySem PySem.Spec PyProof.Rows L2 Evl
/-! ### promises that tell the result by a relation -/
def spLR (K : PySem.W.Frag) (Pre : List DV → Prop) (Post : List DV → List DV → Prop) : Sp := fun vs H Q _ => ∃ M ds, (∀ a ∈ M, H a ≠ none) ∧ RpAll K (hid M H) vs ds ∧ Pre ds ∧ ∀ rs p ws H', Post ds rs → H p = none → Ex H H' → H' p = some (.lst ws) → RpAll K (hid (p :: M) H') ws rs → Q (.ref p) H'
def spSR (K : PySem.W.Frag) (Pre : List DV → List DV → Prop) (Post : List DV → List DV → List DV → DV → Prop) : Sp := fun vs H Q _ => ∃ M st ws xs s ds, vs = .ref st :: ws ∧ st ∈ M ∧ (∀ a ∈ M, H a ≠ none) ∧ H st = some (.lst xs) ∧ RpAll K (hid M H) xs s ∧ RpAll K (hid M H) ws ds ∧ Pre s ds ∧
  ∀ s' r v xs' H', Post s ds s' r → (∀ a o, a ≠ st → H a = some o → H' a = some o) → H' st = some (.lst xs') → RpAll K (hid M H') xs' s' → Rp K (hid M H') v r → Q v H'
section
variable {K : PySem.W.Frag} {F H H' H0 : Hp} {M : List Addr} {δ δ' : Env} {μ μ' μ'' : Sto} {σ : L2.St} {ta tb te tl : TE} {t u : TT} {d e : DV} {ds es : List DV} {i j : Nat} {D : L2.Ends} {tu tw : TS} {tr : TA}
theorem x_asgLR {Pre : List DV → Prop} {Post : List DV → List DV → Prop} {E : XK} (s : Sta K F M δ μ σ H) (ha : AX K tr δ μ μ' ds) (h : Pre ds) (k : ∀ rs p σ' H', Post ds rs → p ∉ M → F p = none → Sta K F (p :: M) (δ.set i (some (.box p))) ((p, rs) :: μ') σ' H' → D.nx σ' H') : tAsg (tCall (spLR K Pre Post) [] E tr) (gName i) D σ H :=
  ha F M σ H s _ fun vs H1 e1 s1 r1 => ⟨M, ds, s1.al, by rw [List.append_nil]; exact r1, h, fun rs p ws H2 hq hp e2 h2 r => by
    have z := (s1.newP e2 hp h2 r).put (i := i) (.box p)
    exact k rs p _ H2 hq (s1.fresh hp) (s1.freshF hp) z⟩
theorem x_asgSR {Pre : List DV → List DV → Prop} {Post : List DV → List DV → List DV → DV → Prop} {E : XK} {l : Addr} {s0 : List DV} (s : Sta K F M δ μ σ H) (ha : EX K ta δ μ μ (.box l)) (hr : AX K tr δ μ μ ds) (hj : μ[j]? = some (l, s0)) (h : Pre s0 ds)
    (k : ∀ s1 r σ' H', Post s0 ds s1 r → Sta K F M (δ.set i (some r)) (μ.set j (l, s1)) σ' H' → D.nx σ' H') : tAsg (tCall (spSR K Pre Post) [] E (tCons ta tr)) (gName i) D σ H :=
  ha F M σ H s _ fun v H1 e1 g1 r1 => hr F M σ H1 g1 _ fun vs H2 e2 g2 r2 => by
    cases r1
    have hm : (l, s0) ∈ μ := List.mem_of_getElem? hj
    obtain ⟨xs, k1, k2⟩ := g2.sto _ hm
    refine ⟨M, l, vs, xs, s0, ds, by rw [List.append_nil], (g2.dm _ hm).1, g2.al, k1, k2, r2, h, fun s1 r v xs' H3 hq kk e3 r3 rv => ?_⟩
    obtain ⟨g3, x3⟩ := g2.after hj kk e3 r3
    exact k s1 r _ H3 hq (g3.put rv)
theorem hid_eq {M' : List Addr} (h : ∀ a, a ∈ M ↔ a ∈ M') : hid M' H = hid M H := by
  funext a
  unfold hid
  by_cases q : a ∈ M
  · rw [if_pos q, if_pos ((h a).mp q)]
  · rw [if_neg q, if_neg fun z => q ((h a).mpr z)]
/-- the order is of no matter -/
theorem Sta.perm {M' : List Addr} (s : Sta K F M δ μ σ H) (hM : ∀ a, a ∈ M ↔ a ∈ M') (hμ : μ.Perm μ') : Sta K F M' δ μ' σ H := by
  have e := hid_eq (H := H) hM
  refine ⟨fun a ha => s.al a ((hM a).mpr ha), s.fr, fun p hp => ?_, (hμ.map Prod.fst).nodup_iff.mp s.nd, fun p hp => ?_, fun i d h => ?_, s.len⟩
  · obtain ⟨h1, h2⟩ := s.dm p (hμ.mem_iff.mpr hp)
    exact ⟨(hM _).mp h1, h2⟩
  · rw [e]
    exact s.sto p (hμ.mem_iff.mpr hp)
  · rw [e]
    exact s.env i d h
/-- xs + [..], xs a mutable list -/
theorem lx_catB {l : Addr} (ha : EX K ta δ μ μ (.box l)) (hb : LX K tb δ μ μ' es) (h0 : μ[j]? = some (l, ds)) (hj : μ'[j]? = some (l, ds)) (hl : ds.length + es.length ≤ 100000) : LX K (tOp rCat ta tb) δ μ μ' (ds ++ es) := fun F M σ H s Q q =>
  ha F M σ H s _ fun v H1 e1 s1 r1 => hb F M σ H1 s1 _ fun p2 H2 hp2 hpM2 e2 s2 => by
    cases r1
    have hj2 : ((p2, es) :: μ')[j + 1]? = some (l, ds) := by simpa using hj
    obtain ⟨vs, h1, r1⟩ := s2.sto _ (List.mem_of_getElem? hj2)
    obtain ⟨ws, h2, r2⟩ := s2.sto (p2, es) (by simp)
    obtain ⟨s3, _⟩ := s2.still hpM2
    have up : Ex (hid (p2 :: M) H2) (hid M H2) := hid_less fun a ha => List.mem_cons_of_mem _ ha
    have e12 := e1.trans e2
    refine ⟨l, p2, vs, ws, rfl, rfl, h1, h2, sz_of (by rw [r1.length, r2.length]; exact hl), fun z hz0 => ?_⟩
    exact q z _ (back_none s s3 e12 hz0) (s3.fresh hz0) (e12.trans (new_ex s3 hz0)) (s3.newL hz0 ((r1.mono up).app (r2.mono up)))
theorem z_asg {u : TS} (s : Sta K F M δ μ σ H) (h : EX K te δ μ μ d) (k : ∀ σ' H', Sta K F M (δ.set i (some d)) μ σ' H' → u D σ' H') : tSeq (tAsg te (gName i)) u D σ H := y_asg (D := { D with nx := u D }) s h k
theorem EX.to (h : EX K te δ μ μ' d) (e : μ' = μ'') : EX K te δ μ μ'' d := e ▸ h
theorem ex_min2 {a b : Int} (ha : EX K ta δ μ μ' (.int a)) (hb : EX K tb δ μ' μ'' (.int b)) : EX K (tCB (fun xs H Q => ∃ i j, xs = [.int i, .int j] ∧ Q (.int (if j < i then j else i)) H) (tCons ta (tCons tb tNil))) δ μ μ'' (.int (if b < a then b else a)) := fun F M σ H s Q q =>
  ha F M σ H s _ fun v H1 e1 s1 r1 => hb F M σ H1 s1 _ fun w H2 e2 s2 r2 => by
    cases r1
    cases r2
    exact ⟨a, b, rfl, q _ H2 (e1.trans e2) s2 (.int _)⟩
theorem ex_max2 {a b : Int} (ha : EX K ta δ μ μ' (.int a)) (hb : EX K tb δ μ' μ'' (.int b)) : EX K (tCB (fun xs H Q => ∃ i j, xs = [.int i, .int j] ∧ Q (.int (if j > i then j else i)) H) (tCons ta (tCons tb tNil))) δ μ μ'' (.int (if b > a then b else a)) := fun F M σ H s Q q =>
  ha F M σ H s _ fun v H1 e1 s1 r1 => hb F M σ H1 s1 _ fun w H2 e2 s2 r2 => by
    cases r1
    cases r2
    exact ⟨a, b, rfl, q _ H2 (e1.trans e2) s2 (.int _)⟩
theorem ex_pow {a : Int} {n : Nat} (ha : EX K ta δ μ μ' (.int a)) (hb : EX K tb δ μ' μ'' (.int n)) (h1 : n ≤ 1000000) (h2 : a.natAbs < 2 ^ 64) : EX K (tOp (rI CPow fun i j => .int (i ^ j.toNat)) ta tb) δ μ μ'' (.int (a ^ n)) :=
  EX.is (ex_I ha hb ⟨by omega, by omega, h2⟩) rfl
/-- one more mutable list of a mutable list, put in its place -/
theorem Sta.grow {g q : Addr} {ps : List Addr} {rows : List (List DV)} {row : List DV} (s : Sta K F (q :: g :: (ps ++ M)) δ ((q, row) :: (g, ps.map .box ++ [.box q]) :: (ps.zip rows ++ μ)) σ H) (hl : ps.length = rows.length) :
    Sta K F (g :: ((ps ++ [q]) ++ M)) δ ((g, (ps ++ [q]).map .box) :: ((ps ++ [q]).zip (rows ++ [row]) ++ μ)) σ H := by
  refine s.perm (fun a => by simp [or_left_comm, or_comm, or_assoc]) ?_
  rw [List.map_append, List.zip_append hl]
  refine (List.Perm.swap _ _ _).trans (List.Perm.cons _ ?_)
  rw [List.append_assoc]
  exact List.perm_middle.symm
end
section
variable {K : PySem.W.Frag} {F H H' H0 : Hp} {M : List Addr} {δ : Env} {μ : Sto} {P : Program} {w : World} {mg : Str → Option Value} {base : Heap}
theorem okLR {x qual : Str} {st : Stmt} {f : Addr} {fd : FuncData} {N ps : List Str} {k : Nat} {Pre : List DV → Prop} {Post : List DV → List DV → Prop} (Fn : Fun K x qual st f fd) (S : FnScope N ps (defScope st)) (len : ∀ ds, Pre ds → ds.length = ps.length)
    (body : ∀ (cdv : Value) (A : Around) (outer : List PySem.Env) (s : Shared) (H : Hp) (E : XK), Room k (A.deeper (envOfC qual (defScope st) s.heap.objs.size f cdv)) →
      ∃ t, PSs (cxOf CX0 P w K mg base N qual (defScope st) f cdv A outer s H E).nox (defBody st) t ∧ ∀ F M ds σ H1 D, Pre ds → Sta K F M (startD N.length ds) [] σ H1 →
        (∀ rs p σ' H' δ, Post ds rs → F p = none → Sta K F (p :: M) δ [(p, rs)] σ' H' → D.rt (.ref p) H') → t D σ H1) : FnOk P w K mg base CX0 (k + 1) f fd ps (spLR K Pre Post) := by
  refine Fn.ok S (fun vs H Q E ⟨M, ds, _, h1, h2, _⟩ => by rw [h1.length]; exact len _ h2) fun cdv A outer s H vs Q E hr ⟨M, ds, al, ra, hR, kq⟩ => ?_
  obtain ⟨t, h1, h2⟩ := body cdv A outer s H E hr
  refine ⟨t, h1, h2 H M ds _ H _ hR (sta_start al ra) fun rs p σ' H' δ hq hp s' => ?_⟩
  obtain ⟨ws, g1, g2⟩ := s'.sto (p, rs) (by simp)
  exact kq rs p ws H' hq hp s'.fr g1 g2
theorem okSR {x qual : Str} {st : Stmt} {f : Addr} {fd : FuncData} {N ps : List Str} {k : Nat} {Pre : List DV → List DV → Prop} {Post : List DV → List DV → List DV → DV → Prop} (Fn : Fun K x qual st f fd) (S : FnScope N ps (defScope st)) (len : ∀ s ds, Pre s ds → ds.length + 1 = ps.length)
    (body : ∀ (cdv : Value) (A : Around) (outer : List PySem.Env) (s : Shared) (H : Hp) (E : XK), Room k (A.deeper (envOfC qual (defScope st) s.heap.objs.size f cdv)) →
      ∃ t, PSs (cxOf CX0 P w K mg base N qual (defScope st) f cdv A outer s H E).nox (defBody st) t ∧ ∀ F M l s0 ds σ H1 D, Pre s0 ds → Sta K F M (startD N.length (.box l :: ds)) [(l, s0)] σ H1 →
        (∀ s1 r v H' M' δ σ', Post s0 ds s1 r → (∀ a ∈ M, a ∈ M') → Sta K F M' δ [(l, s1)] σ' H' → Rp K (hid M' H') v r → D.rt v H') → (∀ σ' H', D.rt .non H' → D.nx σ' H') → t D σ H1) : FnOk P w K mg base CX0 (k + 1) f fd ps (spSR K Pre Post) := by
  refine Fn.ok S (fun vs H Q E ⟨M, st, ws, xs, s0, ds, e, _, _, _, _, h1, h2, _⟩ => by rw [e, List.length_cons, h1.length]; exact len _ _ h2) fun cdv A outer s H vs Q E hr ⟨M, st, ws, xs, s0, ds, e, hm, al, hst, rs, ra, hR, kq⟩ => ?_
  obtain ⟨t, h1, h2⟩ := body cdv A outer s H E hr
  subst e
  have r0 : RpAll K (hid M H) (.ref st :: ws) (.box st :: ds) := .cons (.box st) ra
  have s0' : Sta K (hid [st] H) M (startD N.length (.box st :: ds)) [(st, s0)] (L2.start N (.ref st :: ws)) H := by
    refine ⟨al, hid_sub, fun p hp => ?_, by simp, fun p hp => ?_, envAll r0, by unfold L2.start startD; simp [ra.length]⟩
    · simp only [List.mem_singleton] at hp
      subst hp
      exact ⟨hm, by unfold hid; simp⟩
    · simp only [List.mem_singleton] at hp
      subst hp
      exact ⟨xs, hst, rs⟩
  refine ⟨t, h1, h2 (hid [st] H) M st s0 ds _ H _ hR s0' (fun s1 r v H' M' δ σ' hq hM s' rv => ?_) fun _ _ z => z⟩
  obtain ⟨ys, g1, g2⟩ := s'.sto (st, s1) (by simp)
  have up : Ex (hid M' H') (hid M H') := hid_less hM
  exact kq s1 r v ys H' hq (fun a o hne q => s'.fr a o (hid_get (by simp [hne]) q)) g1 (g2.mono up) (rv.mono up)
end
end G
set_option Elab.async false
set_option linter.all false
set_option maxRecDepth 100000
namespace G
open PySem PySem.Spec PyProof.Rows L2 Evl
/-! ### rows of ints as data -/
def rowT (r : List Int) : DV := .tup (r.map .int)
def rowL (r : List Int) : DV := .lst (r.map .int)
def rowsT (rs : List (List Int)) : DV := .tup (rs.map rowT)
def gridD (C : Addr) (rs : List (List Int)) (w : Nat) : DV := .ins C [("rows", rowsT rs), ("width", .int w)]
def IsRow (d : DV) (r : List Int) : Prop := Seq d (r.map .int)
def IsRows (d : DV) (rs : List (List Int)) : Prop := ∃ ds, Seq d ds ∧ ds.length = rs.length ∧ ∀ (i : Nat) (d : DV) (r : List Int), ds[i]? = some d → rs[i]? = some r → IsRow d r
def Sm (B : Nat) (r : List Int) : Prop := ∀ x ∈ r, x.natAbs < 2 ^ B
theorem isT (r : List Int) : IsRow (rowT r) r := .tup _
theorem isL (r : List Int) : IsRow (rowL r) r := .lst _
theorem isRowsT (rs : List (List Int)) : IsRows (rowsT rs) rs := ⟨rs.map rowT, .tup _, by simp, fun i d r h1 h2 => by
  rw [List.getElem?_map, h2] at h1
  cases h1
  exact isT r⟩
theorem isRowsL (rs : List (List Int)) : IsRows (.lst (rs.map rowL)) rs := ⟨rs.map rowL, .lst _, by simp, fun i d r h1 h2 => by
  rw [List.getElem?_map, h2] at h1
  cases h1
  exact isL r⟩
theorem isRowsLT (rs : List (List Int)) : IsRows (.lst (rs.map rowT)) rs := ⟨rs.map rowT, .lst _, by simp, fun i d r h1 h2 => by
  rw [List.getElem?_map, h2] at h1
  cases h1
  exact isT r⟩
theorem getD_map {r : List Int} {i : Nat} (h : i < r.length) : (r.map DV.int).getD i .non = .int (r.getD i 0) := by
  rw [List.getD_eq_getElem?_getD, List.getElem?_map, List.getElem?_eq_getElem h, List.getD_eq_getElem?_getD, List.getElem?_eq_getElem h]
  rfl
theorem IsRows.at {ds : List DV} {rs : List (List Int)} (hl : ds.length = rs.length) (h : ∀ (i : Nat) (d : DV) (r : List Int), ds[i]? = some d → rs[i]? = some r → IsRow d r) {i : Nat} (hi : i < rs.length) : IsRow (ds.getD i .non) (rs.getD i []) := by
  have h1 : i < ds.length := by omega
  rw [List.getD_eq_getElem?_getD, List.getElem?_eq_getElem h1, List.getD_eq_getElem?_getD, List.getElem?_eq_getElem hi]
  exact h i _ _ (List.getElem?_eq_getElem h1) (List.getElem?_eq_getElem hi)
def dotI (a b : List Int) : Int := ((List.range (min a.length b.length)).map fun i => a.getD i 0 * b.getD i 0).sum
theorem Seq.ty {K : PySem.W.Frag} {d : DV} {ds : List DV} (h : Seq d ds) : TyD K d (.type "list") ∨ TyD K d (.type "tuple") := by
  cases h with
  | lst => exact .inl .lst
  | tup => exact .inr .tup
theorem kitLT {K : PySem.W.Frag} {d : DV} {ds : List DV} (h : Seq d ds) : ∃ w, TyD K d w ∧ PySem.W.kitAny K w [.type "list", .type "tuple"] = some true := by
  rcases h.ty (K := K) with q | q
  · exact ⟨_, q, kit2 (b := true) (c := false) (by decide +kernel) (by decide +kernel) rfl⟩
  · exact ⟨_, q, kit2 (b := false) (c := true) (by decide +kernel) (by decide +kernel) rfl⟩
theorem smMul {a b : Int} {A B : Nat} (ha : a.natAbs < 2 ^ A) (hb : b.natAbs < 2 ^ B) (h : A + B ≤ 134217728) : CMulB a b := mulOk ha hb h
theorem natAbs_mul_lt {a b : Int} {A B : Nat} (ha : a.natAbs < 2 ^ A) (hb : b.natAbs < 2 ^ B) : (a * b).natAbs < 2 ^ (A + B) := by
  rw [Int.natAbs_mul, Nat.pow_add]
  exact Nat.mul_lt_mul'' ha hb
theorem getD_sm {r : List Int} {B : Nat} (h : Sm B r) (i : Nat) : (r.getD i 0).natAbs < 2 ^ B := by
  rw [List.getD_eq_getElem?_getD]
  cases q : r[i]? with
  | none =>
    show (0 : Int).natAbs < _
    exact Nat.pow_pos (by omega)
  | some x => exact h x (List.mem_of_getElem? q)
/-! ### what the defs of the grid promise -/
def rIsInt : List DV → DV → Prop := fun ds r => ∃ i : Int, ds = [.int i] ∧ r = .bl true
def rDot : List DV → DV → Prop := fun ds r => ∃ (d e : DV) (a b : List Int), ds = [d, e] ∧ IsRow d a ∧ IsRow e b ∧ a.length ≤ 1000 ∧ (∃ A B, Sm A a ∧ Sm B b ∧ A + B ≤ 134217728) ∧ r = .int (dotI a b)
def rChecked : List DV → DV → Prop := fun ds r => ∃ (d : DV) (rs : List (List Int)) (w : Nat), ds = [d, .int w] ∧ IsRows d rs ∧ rs.length ≤ 1000 ∧ (∀ x ∈ rs, x.length = w) ∧ r = rowsT rs
end G
set_option Elab.async false
set_option linter.all false
set_option maxRecDepth 100000
namespace G
open PySem PySem.Spec PyProof.Rows L2 Evl
variable {B0 : Nat}
theorem atI_nat {α : Type} {xs : List α} {i : Nat} (h : i < xs.length) : L2.atI xs (i : Int) = some xs[i] := by
  have e : ixN xs.length (i : Int) = some i := by
    unfold ixN
    simp [h]
  unfold L2.atI
  rw [e]
  exact List.getElem?_eq_getElem h
theorem ixN_of {n i : Nat} (h : i < n) : ixN n (i : Int) = some i := by
  unfold ixN
  simp [h]
theorem atI_row {t : List (List Int)} {i : Nat} (h : i < t.length) : L2.atI (t.map rowL) (i : Int) = some (rowL (t.getD i [])) := by
  rw [atI_nat (by simpa using h), List.getElem_map, List.getD_eq_getElem?_getD, List.getElem?_eq_getElem h]
  rfl
theorem atI_rowT {t : List (List Int)} {i : Nat} (h : i < t.length) : L2.atI (t.map rowT) (i : Int) = some (rowT (t.getD i [])) := by
  rw [atI_nat (by simpa using h), List.getElem_map, List.getD_eq_getElem?_getD, List.getElem?_eq_getElem h]
  rfl
theorem atI_int {r : List Int} {i : Nat} (h : i < r.length) : L2.atI (r.map DV.int) (i : Int) = some (.int (r.getD i 0)) := by
  rw [atI_nat (by simpa using h), List.getElem_map, List.getD_eq_getElem?_getD, List.getElem?_eq_getElem h]
  rfl
theorem map_getD {α β : Type} (f : List α → β) (rs : List (List α)) : (List.range rs.length).map (fun i => f (rs.getD i [])) = rs.map f := by
  refine List.ext_getElem (by simp) fun i h1 h2 => ?_
  simp at h1
  simp [List.getD_eq_getElem?_getD, List.getElem?_eq_getElem h1]
/-! ### the quotient elimination -/
def en (t : List (List Int)) (i j : Nat) : Int := (t.getD i []).getD j 0
def elimRow (h : List Int) (f b : Int) (k : Nat) (r : List Int) : List Int := (List.range (min r.length h.length)).map fun j => (h.getD k 0 * r.getD j 0 - f * h.getD j 0).fdiv b
def inn (h : List Int) (b : Int) (k : Nat) (t : List (List Int)) : Nat → List (List Int)
  | 0 => t
  | m + 1 => (inn h b k t m).set (k + 1 + m) (elimRow h (en (inn h b k t m) (k + 1 + m) k) b k ((inn h b k t m).getD (k + 1 + m) []))
def picks (t : List (List Int)) (k n : Nat) : List Nat := ((List.range (n - k)).filter fun j => !decide (en t (k + j) k = 0)).map (k + ·)
def swp (t : List (List Int)) (k c : Nat) : List (List Int) := (t.set k (t.getD c [])).set c (t.getD k [])
def bstep (n k : Nat) (x : List (List Int) × Int × Int) : Option (List (List Int) × Int × Int) := match picks x.1 k n with
  | [] => none
  | c :: _ => if c = k then some (inn (x.1.getD k []) x.2.2 k x.1 (n - (k + 1)), x.2.1, en x.1 k k) else some (inn ((swp x.1 k c).getD k []) x.2.2 k (swp x.1 k c) (n - (k + 1)), -x.2.1, en (swp x.1 k c) k k)
def brun (n : Nat) (x : List (List Int) × Int × Int) : Nat → Option (List (List Int) × Int × Int)
  | 0 => some x
  | k + 1 => (brun n x k).bind (bstep n k)
def bar (rs : List (List Int)) : Int := match brun rs.length (rs, 1, 1) rs.length with
  | none => 0
  | some x => x.2.1 * x.2.2
theorem brun_none {n : Nat} {x : List (List Int) × Int × Int} {k : Nat} (h : brun n x k = none) : ∀ m, brun n x (k + m) = none
  | 0 => h
  | m + 1 => by
    show (brun n x (k + m)).bind _ = none
    rw [brun_none h m]
    rfl
theorem bar_zero {rs : List (List Int)} {k : Nat} (hk : k < rs.length) {x : List (List Int) × Int × Int} (h : brun rs.length (rs, 1, 1) k = some x) (hp : picks x.1 k rs.length = []) : bar rs = 0 := by
  have h1 : brun rs.length (rs, 1, 1) (k + 1) = none := by
    show (brun rs.length (rs, 1, 1) k).bind _ = none
    rw [h]
    show bstep _ _ _ = none
    unfold bstep
    rw [hp]
  have h2 := brun_none h1 (rs.length - (k + 1))
  rw [show k + 1 + (rs.length - (k + 1)) = rs.length by omega] at h2
  unfold bar
  rw [h2]
theorem inn_len {h : List Int} {b : Int} {k : Nat} {t : List (List Int)} : ∀ m, (inn h b k t m).length = t.length
  | 0 => rfl
  | m + 1 => by
    show (List.set _ _ _).length = _
    rw [List.length_set, inn_len m]
theorem inn_get {h : List Int} {b : Int} {k : Nat} {t : List (List Int)} : ∀ m i, k + 1 + m ≤ t.length → (inn h b k t m).getD i [] = if k + 1 ≤ i ∧ i < k + 1 + m then elimRow h (en t i k) b k (t.getD i []) else t.getD i []
  | 0, i, _ => by
    rw [if_neg (by omega)]
    rfl
  | m + 1, i, hm => by
    have ih := fun i => inn_get (h := h) (b := b) (k := k) (t := t) m i (by omega)
    have e1 : (inn h b k t m).getD (k + 1 + m) [] = t.getD (k + 1 + m) [] := by rw [ih, if_neg (by omega)]
    have e2 : en (inn h b k t m) (k + 1 + m) k = en t (k + 1 + m) k := by
      unfold en
      rw [e1]
    show (List.set _ _ _).getD i [] = _
    rw [e1, e2]
    by_cases hi : i = k + 1 + m
    · subst hi
      rw [if_pos (by omega), List.getD_eq_getElem?_getD, List.getElem?_set_self (by rw [inn_len]; omega)]
      rfl
    · rw [List.getD_eq_getElem?_getD, List.getElem?_set_ne (fun e => hi e.symm), ← List.getD_eq_getElem?_getD, ih]
      by_cases hc : k + 1 ≤ i ∧ i < k + 1 + m
      · rw [if_pos hc, if_pos (by omega)]
      · rw [if_neg hc, if_neg (by omega)]
theorem fdiv_le {a b : Int} (hb : b ≠ 0) : (a.fdiv b).natAbs ≤ a.natAbs := by
  have pos : ∀ (a b : Int), 0 < b → (a / b).natAbs ≤ a.natAbs := fun a b hb => by
    by_cases ha : 0 ≤ a
    · have h1 := Int.ediv_nonneg ha (by omega : 0 ≤ b)
      have h2 := Int.ediv_le_self b ha
      omega
    · have h1 : a ≤ a / b := Int.le_ediv_of_mul_le hb (by
        have : a * b ≤ a * 1 := Int.mul_le_mul_of_nonpos_left (by omega) (by omega)
        omega)
      have h2 : a / b < 0 := Int.ediv_neg_of_neg_of_pos (by omega) hb
      omega
  by_cases h : 0 < b
  · rw [Int.fdiv_eq_ediv_of_nonneg a (by omega)]
    exact pos a b h
  · have e : a.fdiv b = (-a) / (-b) := by
      rw [← Int.fdiv_eq_ediv_of_nonneg (-a) (by omega), Int.neg_fdiv_neg]
    rw [e]
    have := pos (-a) (-b) (by omega)
    omega
def bk (B0 : Nat) : Nat → Nat
  | 0 => B0
  | k + 1 => 2 * bk B0 k + 1
theorem sm_mono {A B : Nat} (h : A ≤ B) {r : List Int} (s : Sm A r) : Sm B r := fun x hx => Nat.lt_of_lt_of_le (s x hx) (Nat.pow_le_pow_right (by omega) h)
structure BOk (B0 n k : Nat) (x : List (List Int) × Int × Int) : Prop where
  len : x.1.length = n
  row : ∀ i, i < n → (x.1.getD i []).length = n
  sm : ∀ i, Sm (bk B0 k) (x.1.getD i [])
  nz : x.2.2 ≠ 0
  bs : x.2.2.natAbs < 2 ^ bk B0 k
  ss : x.2.1.natAbs ≤ 1
theorem elim_len {h r : List Int} {f b : Int} {k n : Nat} (h1 : h.length = n) (h2 : r.length = n) : (elimRow h f b k r).length = n := by
  unfold elimRow
  simp [h1, h2]
theorem elim_sm {h r : List Int} {f b : Int} {k A : Nat} (hh : Sm A h) (hr : Sm A r) (hf : f.natAbs < 2 ^ A) (hb : b ≠ 0) : Sm (2 * A + 1) (elimRow h f b k r) := fun x hx => by
  unfold elimRow at hx
  obtain ⟨j, _, rfl⟩ := List.mem_map.mp hx
  have h1 := natAbs_mul_lt (getD_sm hh k) (getD_sm hr j)
  have h2 := natAbs_mul_lt hf (getD_sm hh j)
  have h3 := fdiv_le (a := h.getD k 0 * r.getD j 0 - f * h.getD j 0) hb
  have e : 2 ^ (2 * A + 1) = 2 ^ (A + A) + 2 ^ (A + A) := by
    rw [show 2 * A + 1 = (A + A) + 1 by omega, Nat.pow_succ]
    omega
  omega
theorem inn_ok {n k : Nat} {t : List (List Int)} {b s : Int} (hk : k < n) (o : BOk B0 n k (t, s, b)) (hz : en t k k ≠ 0) {s' : Int} (hs : s'.natAbs ≤ 1) : BOk B0 n (k + 1) (inn (t.getD k []) b k t (n - (k + 1)), s', en t k k) where
  len := (inn_len _).trans o.len
  row := fun i hi => by
    have hl : t.length = n := o.len
    show ((inn _ _ _ _ _).getD i []).length = n
    rw [inn_get _ _ (by omega)]
    split
    · exact elim_len (o.row k hk) (o.row i hi)
    · exact o.row i hi
  sm := fun i => by
    have hl : t.length = n := o.len
    show Sm (2 * bk B0 k + 1) ((inn _ _ _ _ _).getD i [])
    rw [inn_get _ _ (by omega)]
    split
    · exact elim_sm (o.sm k) (o.sm i) (getD_sm (o.sm i) k) o.nz
    · exact sm_mono (by omega) (o.sm i)
  nz := hz
  bs := Nat.lt_of_lt_of_le (getD_sm (o.sm k) k) (Nat.pow_le_pow_right (by omega) (show bk B0 k ≤ 2 * bk B0 k + 1 by omega))
  ss := hs
theorem swp_get {t : List (List Int)} {k c n : Nat} (hl : t.length = n) (hk : k < n) (hc : c < n) (i : Nat) : (swp t k c).getD i [] = if i = c then t.getD k [] else if i = k then t.getD c [] else t.getD i [] := by
  unfold swp
  rw [List.getD_eq_getElem?_getD]
  by_cases h1 : c = i
  · subst h1
    rw [List.getElem?_set_self (by rw [List.length_set]; omega), if_pos rfl]
    rfl
  · rw [List.getElem?_set_ne h1, if_neg (fun e => h1 e.symm)]
    by_cases h2 : k = i
    · subst h2
      rw [List.getElem?_set_self (by omega), if_pos rfl]
      rfl
    · rw [List.getElem?_set_ne h2, if_neg (fun e => h2 e.symm), ← List.getD_eq_getElem?_getD]
theorem swp_ok {n k c : Nat} {t : List (List Int)} {b s s' : Int} (hk : k < n) (hc : c < n) (o : BOk B0 n k (t, s, b)) (hs : s'.natAbs ≤ 1) : BOk B0 n k (swp t k c, s', b) where
  len := by show (List.set (List.set _ _ _) _ _).length = n; rw [List.length_set, List.length_set]; exact o.len
  row := fun i hi => by
    show ((swp t k c).getD i []).length = n
    rw [swp_get o.len hk hc]
    split
    · exact o.row k hk
    · split
      · exact o.row c hc
      · exact o.row i hi
  sm := fun i => by
    show Sm _ ((swp t k c).getD i [])
    rw [swp_get o.len hk hc]
    split
    · exact o.sm k
    · split
      · exact o.sm c
      · exact o.sm i
  nz := o.nz
  bs := o.bs
  ss := hs
theorem picks_mem {t : List (List Int)} {k n c : Nat} (h : c ∈ picks t k n) : k ≤ c ∧ c < n ∧ en t c k ≠ 0 := by
  unfold picks at h
  obtain ⟨j, hj, rfl⟩ := List.mem_map.mp h
  obtain ⟨h1, h2⟩ := List.mem_filter.mp hj
  rw [List.mem_range] at h1
  simp at h2
  exact ⟨by omega, by omega, h2⟩
theorem swp_en {t : List (List Int)} {k c n : Nat} (hl : t.length = n) (hk : k < n) (hc : c < n) (hne : c ≠ k) : en (swp t k c) k k = en t c k := by
  unfold en
  rw [swp_get hl hk hc, if_neg (fun e => hne e.symm), if_pos rfl]
theorem bstep_ok {n k : Nat} {x y : List (List Int) × Int × Int} (hk : k < n) (o : BOk B0 n k x) (h : bstep n k x = some y) : BOk B0 n (k + 1) y := by
  obtain ⟨t, s, b⟩ := x
  unfold bstep at h
  cases hp : picks t k n with
  | nil =>
    simp only [hp] at h
    cases h
  | cons c cs =>
    simp only [hp] at h
    obtain ⟨h1, h2, h3⟩ := picks_mem (t := t) (k := k) (n := n) (c := c) (by rw [hp]; simp)
    by_cases hc : c = k
    · rw [if_pos hc] at h
      cases h
      subst hc
      exact inn_ok hk o h3 o.ss
    · rw [if_neg hc] at h
      cases h
      have hs : (-s).natAbs ≤ 1 := by have := o.ss; simpa using this
      exact inn_ok hk (swp_ok hk h2 o hs) (by rw [swp_en o.len hk h2 hc]; exact h3) hs
theorem brun_ok {n : Nat} {x : List (List Int) × Int × Int} (o : BOk B0 n 0 x) : ∀ k y, k ≤ n → brun n x k = some y → BOk B0 n k y
  | 0, y, _, h => by
    cases h
    exact o
  | k + 1, y, hk, h => by
    have h' : (brun n x k).bind (bstep n k) = some y := h
    cases q : brun n x k with
    | none => rw [q] at h'; cases h'
    | some z =>
      rw [q] at h'
      exact bstep_ok hk (brun_ok o k z (by omega) q) h'
end G
namespace G
open PySem PySem.Spec PyProof.Rows L2 Evl
variable {B0 : Nat}
def rDet : List DV → DV → Prop := fun ds r => ∃ (d : DV) (rs : List (List Int)) (B0 : Nat), ds = [d] ∧ IsRows d rs ∧ rs.length ≤ 4 ∧ (∀ x ∈ rs, x.length = rs.length) ∧ (∀ x ∈ rs, Sm B0 x) ∧ 1 ≤ B0 ∧ B0 ≤ 8000000 ∧ r = .int (bar rs)
theorem rows_at {rs : List (List Int)} {Pr : List Int → Prop} (h : ∀ x ∈ rs, Pr x) (i : Nat) (hi : i < rs.length) : Pr (rs.getD i []) := by
  rw [List.getD_eq_getElem?_getD, List.getElem?_eq_getElem hi]
  exact h _ (List.getElem_mem _)
theorem rows_sm {rs : List (List Int)} {B : Nat} (h : ∀ x ∈ rs, Sm B x) (i : Nat) : Sm B (rs.getD i []) := by
  rw [List.getD_eq_getElem?_getD]
  cases q : rs[i]? with
  | none => exact fun x hx => by cases hx
  | some x => exact h x (List.mem_of_getElem? q)
theorem bk4 {k : Nat} (h : k ≤ 4) : bk B0 k ≤ 16 * B0 + 15 := by
  have : k = 0 ∨ k = 1 ∨ k = 2 ∨ k = 3 ∨ k = 4 := by omega
  rcases this with rfl | rfl | rfl | rfl | rfl <;> simp only [bk] <;> omega
theorem bk3 {k : Nat} (h : k ≤ 3) : bk B0 k ≤ 8 * B0 + 7 := by
  have : k = 0 ∨ k = 1 ∨ k = 2 ∨ k = 3 := by omega
  rcases this with rfl | rfl | rfl | rfl <;> simp only [bk] <;> omega
theorem det_start {rs : List (List Int)} (h1 : ∀ x ∈ rs, x.length = rs.length) (h2 : ∀ x ∈ rs, Sm B0 x) (h3 : 1 ≤ B0) : BOk B0 rs.length 0 (rs, 1, 1) :=
  ⟨rfl, fun i hi => rows_at h1 i hi, fun i => rows_sm h2 i, by show (1 : Int) ≠ 0; decide, by show 1 < 2 ^ B0; exact Nat.one_lt_two_pow (by omega), by show (1 : Int).natAbs ≤ 1; decide⟩
theorem map_set_row (t : List (List Int)) (i : Nat) (r : List Int) : (t.map rowL).set i (rowL r) = (t.set i r).map rowL := (List.map_set).symm
end G
namespace G
theorem atI_head {α : Type} {d : α} {ds : List α} : L2.atI (d :: ds) 0 = some d := by
  have := atI_nat (xs := d :: ds) (i := 0) (by simp)
  exact this
end G
set_option Elab.async false
set_option linter.all false
set_option maxRecDepth 100000
namespace G
open PySem PySem.Spec PyProof.Rows L2 Evl
/-- m rows of w items -/
def genM (m w : Nat) (f : Nat → Nat → Int) : List (List Int) := (List.range m).map fun i => (List.range w).map fun j => f i j
theorem genM_len {m w : Nat} {f : Nat → Nat → Int} : (genM m w f).length = m := by simp [genM]
theorem genM_row {m w : Nat} {f : Nat → Nat → Int} : ∀ x ∈ genM m w f, x.length = w := fun x hx => by
  obtain ⟨i, _, rfl⟩ := List.mem_map.mp hx
  simp
theorem genM_at {m w : Nat} {f : Nat → Nat → Int} {i : Nat} (hi : i < m) : (genM m w f).getD i [] = (List.range w).map fun j => f i j := by
  unfold genM
  rw [List.getD_eq_getElem?_getD, List.getElem?_map, List.getElem?_range hi]
  rfl
theorem en_gen {m w : Nat} {f : Nat → Nat → Int} {i j : Nat} (hi : i < m) (hj : j < w) : en (genM m w f) i j = f i j := by
  unfold en
  rw [genM_at hi, List.getD_eq_getElem?_getD, List.getElem?_map, List.getElem?_range hj]
  rfl
theorem genM_sm {m w B : Nat} {f : Nat → Nat → Int} (h : ∀ i j, i < m → j < w → (f i j).natAbs < 2 ^ B) : ∀ x ∈ genM m w f, Sm B x := fun x hx y hy => by
  obtain ⟨i, hi, rfl⟩ := List.mem_map.mp hx
  obtain ⟨j, hj, rfl⟩ := List.mem_map.mp hy
  exact h i j (List.mem_range.mp hi) (List.mem_range.mp hj)
structure GOk (rs : List (List Int)) (w B : Nat) : Prop where
  len : rs.length ≤ 100
  wid : w ≤ 100
  row : ∀ x ∈ rs, x.length = w
  sm : ∀ x ∈ rs, Sm B x
theorem GOk.rowAt {rs : List (List Int)} {w B : Nat} (h : GOk rs w B) {i : Nat} (hi : i < rs.length) : (rs.getD i []).length = w := rows_at h.row i hi
theorem GOk.en {rs : List (List Int)} {w B : Nat} (h : GOk rs w B) (i j : Nat) : (en rs i j).natAbs < 2 ^ B := getD_sm (rows_sm h.sm i) j
theorem GOk.gen {m w B : Nat} {f : Nat → Nat → Int} (hm : m ≤ 100) (hw : w ≤ 100) (h : ∀ i j, i < m → j < w → (f i j).natAbs < 2 ^ B) : GOk (genM m w f) w B := ⟨by rw [genM_len]; exact hm, hw, genM_row, genM_sm h⟩
theorem GOk.mono {rs : List (List Int)} {w A B : Nat} (h : GOk rs w A) (hab : A ≤ B) : GOk rs w B := ⟨h.len, h.wid, h.row, fun x hx => sm_mono hab (h.sm x hx)⟩
def subM (a b : List (List Int)) (w : Nat) := genM a.length w fun i j => en a i j - en b i j
def addM (a b : List (List Int)) (w : Nat) := genM a.length w fun i j => en a i j + en b i j
def negM (a : List (List Int)) (w : Nat) := genM a.length w fun i j => -en a i j
def scaleM (k : Int) (a : List (List Int)) (w : Nat) := genM a.length w fun i j => k * en a i j
def trM (a : List (List Int)) (w : Nat) := genM w a.length fun i j => en a j i
def mulE (a b : List (List Int)) (n i j : Nat) : Int := ((List.range n).map fun k => en a i k * en b k j).sum
def mulM (a b : List (List Int)) (w : Nat) := genM a.length w fun i j => mulE a b b.length i j
def delC (r : List Int) (k : Nat) : List Int := r.take k ++ r.drop (k + 1)
def minorM (rs : List (List Int)) (i k : Nat) : List (List Int) := ((List.range rs.length).filter fun j => !decide (j = i)).map fun j => delC (rs.getD j []) k
def adjE (a : List (List Int)) (i k : Nat) : Int := if (i + k) % 2 = 1 then -bar (minorM a k i) else bar (minorM a k i)
def adjM (a : List (List Int)) (n : Nat) := genM n n fun i k => adjE a i k
theorem lstmap {n : Nat} {f : Nat → Int} : DV.lst ((List.range n).map fun j => .int (f j)) = rowL ((List.range n).map f) := by
  unfold rowL
  rw [List.map_map]
  rfl
theorem genD {m w : Nat} {f : Nat → Nat → Int} : DV.lst ((List.range m).map fun i => rowL ((List.range w).map fun j => f i j)) = .lst ((genM m w f).map rowL) := by
  unfold genM
  rw [List.map_map]
  rfl
/-! ### promises -/
def gridF (rs : List (List Int)) (w : Nat) : List (Str × DV) := [("rows", rowsT rs), ("width", .int w)]
def rMinor : List DV → DV → Prop := fun ds r => ∃ (rs : List (List Int)) (i k : Nat), ds = [rowsT rs, .int i, .int k] ∧ rs.length ≤ 100 ∧ (∀ x ∈ rs, x.length ≤ 100) ∧ r = .lst ((minorM rs i k).map rowT)
def rInit : List DV → List (Str × DV) → Prop := fun ds fs => ∃ (d e : DV) (rs : List (List Int)) (w : Nat), ds = [d, e] ∧ IsRows d rs ∧ rs.length ≤ 1000 ∧ w ≤ 1000000 ∧ (∀ x ∈ rs, x.length = w) ∧ (e = .int w ∨ (e = .non ∧ (rs = [] → w = 0))) ∧ fs = gridF rs w
def rLenG (C : Addr) : List DV → DV → Prop := fun ds r => ∃ rs w, ds = [gridD C rs w] ∧ r = .int (rs.length : Nat)
def rEqG (C : Addr) : List DV → DV → Prop := fun ds r => ∃ a n b m, ds = [gridD C a n, gridD C b m] ∧ a.length ≤ 1000 ∧ b.length ≤ 1000 ∧ (∀ x ∈ a, x.length ≤ 1000) ∧ (∀ x ∈ b, x.length ≤ 1000) ∧ r = .bl (decide (a = b) && decide (n = m))
def rSubG (C : Addr) : List DV → DV → Prop := fun ds r => ∃ a b w B, ds = [gridD C a w, gridD C b w] ∧ GOk a w B ∧ GOk b w B ∧ a.length = b.length ∧ r = gridD C (subM a b w) w
def rMulG (C : Addr) : List DV → DV → Prop := fun ds r => ∃ a b n w A B, ds = [gridD C a n, gridD C b w] ∧ n = b.length ∧ GOk a n A ∧ GOk b w B ∧ A + B ≤ 134217728 ∧ r = gridD C (mulM a b w) w
def rScaled (C : Addr) : List DV → DV → Prop := fun ds r => ∃ (a : List (List Int)) (w : Nat) (k : Int) (A B : Nat), ds = [gridD C a w, .int k] ∧ GOk a w A ∧ k.natAbs < 2 ^ B ∧ B + A ≤ 134217728 ∧ r = gridD C (scaleM k a w) w
def rTrans (C : Addr) : List DV → DV → Prop := fun ds r => ∃ a w B, ds = [gridD C a w] ∧ GOk a w B ∧ r = gridD C (trM a w) a.length
def rIsSq (C : Addr) : List DV → DV → Prop := fun ds r => ∃ a w, ds = [gridD C a w] ∧ r = .bl (decide (a.length = w))
def rDetG (C : Addr) : List DV → DV → Prop := fun ds r => ∃ a w B, ds = [gridD C a w] ∧ GOk a w B ∧ 1 ≤ B ∧ B ≤ 8000000 ∧ a.length = w ∧ w ≤ 4 ∧ r = .int (bar a)
def rAdj (C : Addr) : List DV → DV → Prop := fun ds r => ∃ a w B, ds = [gridD C a w] ∧ GOk a w B ∧ 1 ≤ B ∧ B ≤ 8000000 ∧ a.length = w ∧ w ≤ 4 ∧ r = gridD C (adjM a w) w
/-! ### equality of rows -/
theorem eqv_ints : ∀ a b : List Int, PyData.eqvAll (pys (a.map .int)) (pys (b.map .int)) = decide (a = b)
  | [], [] => by simp [pys, PyData.eqvAll]
  | [], y :: ys => by simp [pys, PyData.eqvAll]
  | x :: xs, [] => by simp [pys, PyData.eqvAll]
  | x :: xs, y :: ys => by
    show (PyData.eqv (.int x) (.int y) && PyData.eqvAll (pys (xs.map .int)) (pys (ys.map .int))) = _
    rw [eqv_ints xs ys]
    show ((x == y) && _) = _
    by_cases h : x = y
    · subst h
      simp
    · simp [h]
theorem eqv_rows : ∀ a b : List (List Int), PyData.eqvAll (pys (a.map rowT)) (pys (b.map rowT)) = decide (a = b)
  | [], [] => by simp [pys, PyData.eqvAll]
  | [], y :: ys => by simp [pys, PyData.eqvAll]
  | x :: xs, [] => by simp [pys, PyData.eqvAll]
  | x :: xs, y :: ys => by
    show (PyData.eqv (.tuple (pys (x.map .int))) (.tuple (pys (y.map .int))) && PyData.eqvAll (pys (xs.map rowT)) (pys (ys.map rowT))) = _
    rw [eqv_rows xs ys]
    show (PyData.eqvAll (pys (x.map .int)) (pys (y.map .int)) && _) = _
    rw [eqv_ints]
    by_cases h : x = y
    · subst h
      simp
    · simp [h]
theorem lay_ints : ∀ a : List Int, PyData.canLayAll0 (pys (a.map .int)) = true ∧ PyData.depthAll (pys (a.map .int)) = 0
  | [] => ⟨rfl, rfl⟩
  | x :: xs => by
    obtain ⟨h1, h2⟩ := lay_ints xs
    refine ⟨?_, ?_⟩
    · show (true && PyData.canLayAll0 (pys (xs.map .int))) = true
      rw [h1]
      rfl
    · show max 0 (PyData.depthAll (pys (xs.map .int))) = 0
      rw [h2]
      rfl
theorem lay_rows : ∀ a : List (List Int), PyData.canLayAll0 (pys (a.map rowT)) = true ∧ PyData.depthAll (pys (a.map rowT)) ≤ 1
  | [] => ⟨rfl, Nat.zero_le _⟩
  | x :: xs => by
    obtain ⟨h1, h2⟩ := lay_rows xs
    obtain ⟨h3, h4⟩ := lay_ints x
    refine ⟨?_, ?_⟩
    · show (PyData.canLayAll0 (pys (x.map .int)) && PyData.canLayAll0 (pys (xs.map rowT))) = true
      rw [h1, h3]
      rfl
    · show max (PyData.depthAll (pys (x.map .int)) + 1) (PyData.depthAll (pys (xs.map rowT))) ≤ 1
      omega
theorem shaped_rows (a : List (List Int)) : SeqAt.shaped (rowsT a).py = true := by
  obtain ⟨h1, h2⟩ := lay_rows a
  show (PyData.canLayAll0 (pys (a.map rowT)) && decide (PyData.depthAll (pys (a.map rowT)) + 1 ≤ 64)) = true
  rw [h1]
  simp
  omega
theorem pl_ints : ∀ a : List Int, pls (a.map .int) = true
  | [] => rfl
  | x :: xs => by show (true && pls (xs.map .int)) = true; rw [pl_ints xs]; rfl
theorem pl_rows : ∀ a : List (List Int), pls (a.map rowT) = true
  | [] => rfl
  | x :: xs => by show (pls (x.map .int) && pls (xs.map rowT)) = true; rw [pl_ints x, pl_rows xs]; rfl
end G
namespace G
open PySem PySem.Spec PyProof.Rows L2 Evl
theorem cut_take (r : List Int) (k : Nat) : cutD (r.map .int) none (some (k : Int)) = (r.take k).map .int := by
  unfold cutD
  rw [HT.sIx_none, HT.sIx_nat, List.drop_zero, Nat.sub_zero, List.length_map, List.map_take]
  by_cases h : k ≤ r.length
  · rw [Nat.min_eq_left h]
  · rw [Nat.min_eq_right (by omega), List.take_of_length_le (by simp), List.take_of_length_le (by simp; omega)]
theorem cut_drop (r : List Int) (k : Nat) : cutD (r.map .int) (some ((k : Int) + 1)) none = (r.drop (k + 1)).map .int := by
  unfold cutD
  rw [show ((k : Int) + 1) = ((k + 1 : Nat) : Int) by omega, HT.sIx_none, HT.sIx_nat, List.length_map, List.map_drop]
  by_cases h : k + 1 ≤ r.length
  · rw [Nat.min_eq_left h, List.take_of_length_le (by simp)]
  · rw [Nat.min_eq_right (by omega), List.drop_of_length_le (by simp), List.drop_of_length_le (by simp; omega)]
    simp
end G
namespace G
open PySem PySem.Spec PyProof.Rows L2 Evl
theorem getD_rowT {a : List (List Int)} {i : Nat} (h : i < a.length) : (a.map rowT).getD i .non = rowT (a.getD i []) := by
  rw [List.getD_eq_getElem?_getD, List.getElem?_map, List.getElem?_eq_getElem h, List.getD_eq_getElem?_getD, List.getElem?_eq_getElem h]
  rfl
theorem getD_rowL {a : List (List Int)} {i : Nat} (h : i < a.length) : (a.map rowL).getD i .non = rowL (a.getD i []) := by
  rw [List.getD_eq_getElem?_getD, List.getElem?_map, List.getElem?_eq_getElem h, List.getD_eq_getElem?_getD, List.getElem?_eq_getElem h]
  rfl
theorem initOf {d : DV} {m : List (List Int)} {w : Nat} (h : IsRows d m) (hl : m.length ≤ 1000) (hw : w ≤ 1000000) (hr : ∀ x ∈ m, x.length = w) : rInit ([d, .int w] ++ []) (gridF m w) := ⟨d, _, m, w, rfl, h, hl, hw, hr, .inl rfl, rfl⟩
theorem row_gen {r : List Int} {n : Nat} (h : r.length = n) : r = (List.range n).map fun j => r.getD j 0 := by
  refine List.ext_getElem (by simp [h]) fun i h1 h2 => ?_
  simp [List.getD_eq_getElem?_getD, List.getElem?_eq_getElem h1]
theorem take_gen {r : List Int} {n k : Nat} (h : r.length = n) (hk : k ≤ n) : r.take k = (List.range k).map fun j => r.getD j 0 := by
  refine List.ext_getElem (by simp; omega) fun i h1 h2 => ?_
  rw [List.length_take] at h1
  have h3 : i < r.length := by omega
  simp [List.getD_eq_getElem?_getD, List.getElem?_eq_getElem h3]
theorem drop_gen {r : List Int} {n k : Nat} (h : r.length = n) (hk : k ≤ n) : r.drop k = (List.range (n - k)).map fun j => r.getD (k + j) 0 := by
  refine List.ext_getElem (by simp [h]) fun i h1 h2 => ?_
  simp at h1
  have h3 : k + i < r.length := by omega
  simp [List.getD_eq_getElem?_getD, List.getElem?_eq_getElem h3]
theorem dot_mul {a b : List (List Int)} {w i j : Nat} (ha : (a.getD i []).length = b.length) (hj : j < w) : dotI (a.getD i []) ((trM b w).getD j []) = mulE a b b.length i j := by
  unfold dotI mulE trM
  rw [genM_at hj, ha, List.length_map, List.length_range, Nat.min_self]
  congr 1
  refine List.map_congr_left fun k hk => ?_
  rw [List.mem_range] at hk
  congr 1
  rw [List.getD_eq_getElem?_getD, List.getElem?_map, List.getElem?_range hk]
  rfl
theorem sum_lt {f : Nat → Int} {B : Nat} : ∀ n, (∀ k, k < n → (f k).natAbs < 2 ^ B) → n ≤ 100 → ((List.range n).map f).sum.natAbs ≤ n * 2 ^ B
  | 0, _, _ => by simp
  | n + 1, h, hn => by
    rw [List.range_succ, List.map_append, List.sum_append]
    have h1 := sum_lt n (fun k hk => h k (by omega)) (by omega)
    have h2 := h n (by omega)
    simp only [List.map_cons, List.map_nil, List.sum_cons, List.sum_nil]
    have h3 : (((List.range n).map f).sum + (f n + 0)).natAbs ≤ ((List.range n).map f).sum.natAbs + (f n).natAbs := by omega
    rw [Nat.add_mul]
    omega
theorem mulE_sm {a b : List (List Int)} {n A B i j : Nat} (ha : ∀ k, (en a i k).natAbs < 2 ^ A) (hb : ∀ k, (en b k j).natAbs < 2 ^ B) (hn : n ≤ 100) : (mulE a b n i j).natAbs < 2 ^ (A + B + 7) := by
  have h := sum_lt (f := fun k => en a i k * en b k j) (B := A + B) n (fun k _ => natAbs_mul_lt (ha k) (hb k)) hn
  unfold mulE
  have e : 2 ^ (A + B + 7) = 128 * 2 ^ (A + B) := by rw [Nat.pow_add]; omega
  have p : 0 < 2 ^ (A + B) := Nat.pow_pos (by omega)
  have : n * 2 ^ (A + B) ≤ 100 * 2 ^ (A + B) := Nat.mul_le_mul_right _ hn
  omega
theorem bar_smk {B0 n : Nat} {rs : List (List Int)} (h1 : ∀ x ∈ rs, x.length = rs.length) (h2 : ∀ x ∈ rs, Sm B0 x) (h3 : 1 ≤ B0) (hn : rs.length = n) : (bar rs).natAbs < 2 ^ (bk B0 n + 1) := by
  unfold bar
  cases h : brun rs.length (rs, 1, 1) rs.length with
  | none =>
    show (0 : Int).natAbs < _
    exact Nat.pow_pos (by omega)
  | some x =>
    have o := brun_ok (det_start h1 h2 h3) _ _ (Nat.le_refl _) h
    have hs := o.ss
    have hb := o.bs
    rw [hn] at hb
    show (x.2.1 * x.2.2).natAbs < _
    rw [Int.natAbs_mul]
    have : x.2.1.natAbs * x.2.2.natAbs ≤ 1 * x.2.2.natAbs := Nat.mul_le_mul_right _ hs
    have e : (2 : Nat) ^ (bk B0 n + 1) = 2 * 2 ^ bk B0 n := by rw [Nat.pow_succ, Nat.mul_comm]
    omega
theorem bar_sm {B0 : Nat} {rs : List (List Int)} (h1 : ∀ x ∈ rs, x.length = rs.length) (h2 : ∀ x ∈ rs, Sm B0 x) (h3 : 1 ≤ B0) (h4 : rs.length ≤ 4) : (bar rs).natAbs < 2 ^ (16 * B0 + 16) :=
  Nat.lt_of_lt_of_le (bar_smk h1 h2 h3 rfl) (Nat.pow_le_pow_right (by omega) (by have := bk4 (B0 := B0) h4; omega))
theorem bar_sm3 {B0 : Nat} {rs : List (List Int)} (h1 : ∀ x ∈ rs, x.length = rs.length) (h2 : ∀ x ∈ rs, Sm B0 x) (h3 : 1 ≤ B0) (h4 : rs.length ≤ 3) : (bar rs).natAbs < 2 ^ (8 * B0 + 8) :=
  Nat.lt_of_lt_of_le (bar_smk h1 h2 h3 rfl) (Nat.pow_le_pow_right (by omega) (by have := bk3 (B0 := B0) h4; omega))
theorem delC_len {r : List Int} {n k : Nat} (h : r.length = n) (hk : k < n) : (delC r k).length = n - 1 := by
  unfold delC
  rw [List.length_append, List.length_take, List.length_drop]
  omega
theorem delC_sm {r : List Int} {k B : Nat} (h : Sm B r) : Sm B (delC r k) := fun x hx => by
  rcases List.mem_append.mp hx with q | q
  · exact h x (List.mem_of_mem_take q)
  · exact h x (List.mem_of_mem_drop q)
theorem filt_len {n i : Nat} (hn : n ≤ 4) (hi : i < n) : ((List.range n).filter fun j => !decide (j = i)).length = n - 1 := by
  have : n = 1 ∨ n = 2 ∨ n = 3 ∨ n = 4 := by omega
  rcases this with rfl | rfl | rfl | rfl
  · have : i = 0 := by omega
    subst this; rfl
  · have : i = 0 ∨ i = 1 := by omega
    rcases this with rfl | rfl <;> rfl
  · have : i = 0 ∨ i = 1 ∨ i = 2 := by omega
    rcases this with rfl | rfl | rfl <;> rfl
  · have : i = 0 ∨ i = 1 ∨ i = 2 ∨ i = 3 := by omega
    rcases this with rfl | rfl | rfl | rfl <;> rfl
theorem minorM_len {rs : List (List Int)} {i k : Nat} (hn : rs.length ≤ 4) (hi : i < rs.length) : (minorM rs i k).length = rs.length - 1 := by
  unfold minorM
  rw [List.length_map, filt_len hn hi]
theorem minorM_mem {rs : List (List Int)} {i k n : Nat} (hr : ∀ x ∈ rs, x.length = n) (hk : k < n) : ∀ x ∈ minorM rs i k, x.length = n - 1 := fun x hx => by
  unfold minorM at hx
  obtain ⟨j, hj, rfl⟩ := List.mem_map.mp hx
  have hj' := List.mem_range.mp (List.mem_filter.mp hj).1
  exact delC_len (rows_at hr j hj') hk
theorem minorM_sm {rs : List (List Int)} {i k B : Nat} (hr : ∀ x ∈ rs, Sm B x) : ∀ x ∈ minorM rs i k, Sm B x := fun x hx => by
  unfold minorM at hx
  obtain ⟨j, hj, rfl⟩ := List.mem_map.mp hx
  exact delC_sm (rows_sm hr j)
theorem adjE_sm {a : List (List Int)} {n i k B : Nat} (h : GOk a n B) (h3 : 1 ≤ B) (hl : a.length = n) (hn : n ≤ 4) (hi : i < n) (hk : k < n) : (adjE a i k).natAbs < 2 ^ (8 * B + 8) := by
  have h1 := minorM_len (rs := a) (i := k) (k := i) (by omega) (by omega)
  have h2 := minorM_mem (i := k) (k := i) h.row hi
  have := bar_sm3 (rs := minorM a k i) (fun x hx => by rw [h1, hl]; exact h2 x hx) (minorM_sm h.sm) h3 (by omega)
  unfold adjE
  split
  · omega
  · exact this
end G
namespace G
open PySem PySem.Spec PyProof.Rows L2 Evl
theorem cut_from (r : List Int) (k : Nat) : cutD (r.map .int) (some (k : Int)) none = (r.drop k).map .int := by
  unfold cutD
  rw [HT.sIx_none, HT.sIx_nat, List.length_map, List.map_drop]
  by_cases h : k ≤ r.length
  · rw [Nat.min_eq_left h, List.take_of_length_le (by simp)]
  · rw [Nat.min_eq_right (by omega), List.drop_of_length_le (by simp), List.drop_of_length_le (by simp; omega)]
    simp
theorem genDT {m w : Nat} {f : Nat → Nat → Int} : DV.lst ((List.range m).map fun i => rowT ((List.range w).map fun j => f i j)) = .lst ((genM m w f).map rowT) := by
  unfold genM
  rw [List.map_map]
  rfl
def blkM (g : List (List Int)) (h : Nat) := genM h h fun i j => en g i j
def sideM (g : List (List Int)) (n h : Nat) := genM h (n - h) fun i j => en g i (h + j)
def tlM (g : List (List Int)) (n h : Nat) := genM (n - h) (n - h) fun i j => en g (h + i) (h + j)
def tailM (g : List (List Int)) (n h : Nat) : List (List Int) := if h = 0 then tlM g n h else
  subM (scaleM (bar (blkM g h)) (tlM g n h) (n - h)) (mulM (mulM (trM (sideM g n h) (n - h)) (adjM (blkM g h) h) h) (sideM g n h) (n - h)) (n - h)
def rTail (C : Addr) : List DV → DV → Prop := fun ds r => ∃ (g : List (List Int)) (n h : Nat), ds = [gridD C g n, .int ((h : Int) + 1)] ∧ h < n ∧ n ≤ 4 ∧ g.length = n ∧ GOk g n 900 ∧ r = gridD C (tailM g n h) (n - h)
/-! ### the law's own defs -/
def nx (l : List Int) (m : Int) : Int := match l with
  | [] => 0
  | x :: _ => x.fmod m
def rNext : List DV → List DV → List DV → DV → Prop := fun s ds s' r => ∃ (l : List Int) (m : Int), s = l.map .int ∧ ds = [.int m] ∧ m ≠ 0 ∧ s' = l.tail.map .int ∧ r = .int (nx l m)
def rsum (n : Nat) (f : Nat → Int) : Int := ((List.range n).map f).sum
theorem rsum_succ {n : Nat} {f : Nat → Int} : rsum (n + 1) f = rsum n f + f n := by
  unfold rsum
  rw [List.range_succ, List.map_append, List.sum_append]
  simp
def normE (g : List (List Int)) (v : List Int) : Int := rsum v.length fun i => rsum v.length fun j => en g i j * v.getD i 0 * v.getD j 0
def rNorm : List DV → DV → Prop := fun ds r => ∃ (g : List (List Int)) (v : List Int), ds = [.lst (g.map rowL), .lst (v.map .int)] ∧ g.length = v.length ∧ (∀ x ∈ g, x.length = v.length) ∧ (∀ x ∈ g, Sm 1000 x) ∧ Sm 1000 v ∧ v.length ≤ 100 ∧ r = .int (normE g v)
def sgn (j : Nat) : Int := if j % 2 = 0 then 1 else -1
def restR (rs : List (List Int)) (j : Nat) : List (List Int) := rs.tail.map fun r => delC r j
/-- the determinant of n + 1 rows -/
def detL : Nat → List (List Int) → Int
  | 0, rs => en rs 0 0
  | n + 1, rs => rsum (n + 2) fun j => sgn j * en rs 0 j * detL n (restR rs j)
def rLDet (n : Nat) : List DV → DV → Prop := fun ds r => ∃ (d : DV) (rs : List (List Int)), ds = [d] ∧ d = .lst (rs.map rowL) ∧ rs.length = n + 1 ∧ (∀ x ∈ rs, x.length = n + 1) ∧ (∀ x ∈ rs, Sm 100 x) ∧ n ≤ 4 ∧ r = .int (detL n rs)
def minorE (g : List (List Int)) (h : Nat) : Int := match h with
  | 0 => 1
  | n + 1 => detL n ((g.take (n + 1)).map fun r => r.take (n + 1))
def rLMin : List DV → DV → Prop := fun ds r => ∃ (g : List (List Int)) (h : Nat), ds = [.lst (g.map rowL), .int h] ∧ h ≤ 4 ∧ h ≤ g.length ∧ (∀ x ∈ g, x.length = g.length) ∧ (∀ x ∈ g, Sm 100 x) ∧ r = .int (minorE g h)
theorem bar_sm' {a : List (List Int)} {n B : Nat} (h : GOk a n B) (h3 : 1 ≤ B) (hl : a.length = n) (hn : n ≤ 4) : (bar a).natAbs < 2 ^ (16 * B + 16) := bar_sm (fun x hx => by rw [h.row x hx, hl]) h.sm h3 (by omega)
theorem detL_sm : ∀ (n : Nat) (rs : List (List Int)), n ≤ 4 → (∀ x ∈ rs, Sm 100 x) → (detL n rs).natAbs < 2 ^ (107 * (n + 1))
  | 0, rs, _, h => by
    have := getD_sm (rows_sm h 0) 0
    exact Nat.lt_of_lt_of_le this (Nat.pow_le_pow_right (by omega) (by omega))
  | n + 1, rs, hn, h => by
    have hr : ∀ j, ∀ x ∈ restR rs j, Sm 100 x := fun j x hx => by
      obtain ⟨r, hr, rfl⟩ := List.mem_map.mp hx
      exact delC_sm (h r (List.mem_of_mem_tail hr))
    have key := sum_lt (f := fun j => sgn j * en rs 0 j * detL n (restR rs j)) (B := 100 + 107 * (n + 1)) (n + 2) (fun j _ => by
      have h1 : (sgn j * en rs 0 j).natAbs < 2 ^ 100 := by
        have q : (en rs 0 j).natAbs < 2 ^ 100 := getD_sm (rows_sm h 0) j
        unfold sgn
        split
        · rw [Int.one_mul]
          exact q
        · rw [Int.neg_mul, Int.one_mul, Int.natAbs_neg]
          exact q
      exact natAbs_mul_lt h1 (detL_sm n _ (by omega) (hr j))) (by omega)
    have e : 2 ^ (107 * (n + 1 + 1)) = 128 * 2 ^ (100 + 107 * (n + 1)) := by
      rw [show 107 * (n + 1 + 1) = 7 + (100 + 107 * (n + 1)) by omega, Nat.pow_add]
    have p : 0 < 2 ^ (100 + 107 * (n + 1)) := Nat.pow_pos (by omega)
    have q : (n + 2) * 2 ^ (100 + 107 * (n + 1)) ≤ 6 * 2 ^ (100 + 107 * (n + 1)) := Nat.mul_le_mul_right _ (by omega)
    show (rsum (n + 2) _).natAbs < _
    unfold rsum
    omega
end G
namespace G
open PySem PySem.Spec PyProof.Rows L2 Evl
theorem restR_len {rs : List (List Int)} {j : Nat} : (restR rs j).length = rs.length - 1 := by
  unfold restR
  rw [List.length_map, List.length_tail]
theorem restR_row {rs : List (List Int)} {n j : Nat} (h : ∀ x ∈ rs, x.length = n) (hj : j < n) : ∀ x ∈ restR rs j, x.length = n - 1 := fun x hx => by
  obtain ⟨r, hr, rfl⟩ := List.mem_map.mp hx
  exact delC_len (h r (List.mem_of_mem_tail hr)) hj
theorem restR_sm {rs : List (List Int)} {j B : Nat} (h : ∀ x ∈ rs, Sm B x) : ∀ x ∈ restR rs j, Sm B x := fun x hx => by
  obtain ⟨r, hr, rfl⟩ := List.mem_map.mp hx
  exact delC_sm (h r (List.mem_of_mem_tail hr))
theorem tail_getD {rs : List (List Int)} {i : Nat} : rs.tail.getD i [] = rs.getD (i + 1) [] := by
  cases rs <;> simp
def NumPre (ds : List DV) : Prop := ∃ ns : List Int, ds = [.lst (ns.map .int)] ∧ ns.length ≤ 63
def NumPost (_ : List DV) (rs : List DV) : Prop := ∃ out : List Int, rs = out.map .int
/-- the Gram matrix of the rows R, its last item more by e -/
def gramE (R : Nat → Nat → Int) (n : Nat) (e : Int) (i j : Nat) : Int := rsum n (fun k => R i k * R j k) + if i + 1 = n ∧ j + 1 = n then e else 0
def gramM (R : Nat → Nat → Int) (n : Nat) (e : Int) := genM n n (gramE R n e)
structure LowR (R : Nat → Nat → Int) (n : Nat) : Prop where
  up : ∀ i j, i < n → i < j → R i j = 0
  sm : ∀ i j, i < n → (R i j).natAbs ≤ 2
def GramPre (s ds : List DV) : Prop := ∃ (l : List Int) (n : Nat), s = l.map .int ∧ ds = [.int n] ∧ 1 ≤ n ∧ n ≤ 4
def GramPost (s ds s' : List DV) (r : DV) : Prop := ∃ (n : Nat) (l' : List Int) (R : Nat → Nat → Int) (e : Int), ds = [.int n] ∧ s' = l'.map .int ∧ LowR R n ∧ 0 ≤ e ∧ e ≤ 2 ∧ r = .lst ((gramM R n e).map rowL)
theorem nx_bound (l : List Int) {m : Int} (h : 0 < m) : 0 ≤ nx l m ∧ nx l m < m := by
  unfold nx
  cases l with
  | nil => exact ⟨Int.le_refl _, h⟩
  | cons x xs => exact ⟨Int.fmod_nonneg_of_pos x h, Int.fmod_lt_of_pos x h⟩
theorem drop_tail (l : List Int) (j : Nat) : (l.drop j).tail = l.drop (j + 1) := by
  rw [List.tail_drop]
end G
namespace G
def rLDetA : List DV → DV → Prop := fun ds r => ∃ n, n ≤ 4 ∧ rLDet n ds r
end G
namespace G
open PySem PySem.Spec PyProof.Rows L2 Evl
structure RowsOk (rs : List (List Int)) (n i : Nat) : Prop where
  len : rs.length = i
  row : ∀ a, a < i → (rs.getD a []).length = n
  up : ∀ a b, a < i → a < b → en rs a b = 0
  sm : ∀ a b, a < i → (en rs a b).natAbs ≤ 2
theorem RowsOk.more {rs : List (List Int)} {n i : Nat} {r : List Int} (o : RowsOk rs n i) (h1 : r.length = n) (h2 : ∀ b, i < b → r.getD b 0 = 0) (h3 : ∀ b, (r.getD b 0).natAbs ≤ 2) : RowsOk (rs ++ [r]) n (i + 1) := by
  have at_ : ∀ a, (rs ++ [r]).getD a [] = if a < i then rs.getD a [] else if a = i then r else [] := fun a => by
    have := o.len
    rw [List.getD_eq_getElem?_getD]
    by_cases h : a < i
    · rw [if_pos h, List.getElem?_append_left (by omega), ← List.getD_eq_getElem?_getD]
    · rw [if_neg h, List.getElem?_append_right (by omega)]
      by_cases h' : a = i
      · rw [if_pos h', show a - rs.length = 0 by omega]
        rfl
      · rw [if_neg h']
        obtain ⟨c, hc⟩ : ∃ c, a - rs.length = c + 1 := ⟨a - rs.length - 1, by omega⟩
        rw [hc]
        rfl
  refine ⟨by rw [List.length_append, o.len]; rfl, fun a ha => ?_, fun a b ha hb => ?_, fun a b ha => ?_⟩
  · rw [at_]
    by_cases h : a < i
    · rw [if_pos h]
      exact o.row a h
    · rw [if_neg h, if_pos (by omega)]
      exact h1
  · unfold en
    rw [at_]
    by_cases h : a < i
    · rw [if_pos h]
      exact o.up a b h hb
    · rw [if_neg h, if_pos (by omega)]
      exact h2 b (by omega)
  · unfold en
    rw [at_]
    by_cases h : a < i
    · rw [if_pos h]
      exact o.sm a b h
    · rw [if_neg h, if_pos (by omega)]
      exact h3 b
/-- a new row -/
def newRow (ys : List Int) (n i : Nat) (x : Int) : List Int := ((List.range i).map fun j => nx (ys.drop j) 3 - 1) ++ [x] ++ (List.range (n - i - 1)).map fun _ => 0
theorem newRow_len {ys : List Int} {n i : Nat} {x : Int} (h : i < n) : (newRow ys n i x).length = n := by
  unfold newRow
  simp
  omega
theorem newRow_up {ys : List Int} {n i : Nat} {x : Int} (b : Nat) (hb : i < b) : (newRow ys n i x).getD b 0 = 0 := by
  unfold newRow
  rw [List.getD_eq_getElem?_getD, List.getElem?_append_right (by simp; omega), List.getElem?_map]
  cases (List.range (n - i - 1))[b - (((List.range i).map fun j => nx (ys.drop j) 3 - 1) ++ [x]).length]? <;> rfl
theorem newRow_sm {ys : List Int} {n i : Nat} {x : Int} (hx : x.natAbs ≤ 2) (b : Nat) : ((newRow ys n i x).getD b 0).natAbs ≤ 2 := by
  rw [List.getD_eq_getElem?_getD]
  cases q : (newRow ys n i x)[b]? with
  | none => decide
  | some y =>
    show y.natAbs ≤ 2
    have hm := List.mem_of_getElem? q
    unfold newRow at hm
    rcases List.mem_append.mp hm with h | h
    · rcases List.mem_append.mp h with h | h
      · obtain ⟨j, _, rfl⟩ := List.mem_map.mp h
        have := nx_bound (ys.drop j) (m := 3) (by decide)
        omega
      · rw [List.mem_singleton.mp h]
        exact hx
    · obtain ⟨_, _, rfl⟩ := List.mem_map.mp h
      decide
theorem zip_set {α β : Type} {ps : List α} {rs : List β} {k : Nat} {p : α} {r : β} (h : ps[k]? = some p) : (ps.zip rs).set k (p, r) = ps.zip (rs.set k r) := by
  refine List.ext_getElem? fun i => ?_
  rw [List.getElem?_set]
  by_cases e : k = i
  · subst e
    rw [if_pos rfl]
    by_cases hl : k < (ps.zip rs).length
    · rw [if_pos hl]
      have h2 : k < rs.length := by rw [List.length_zip] at hl; omega
      exact (List.getElem?_zip_eq_some (z := (p, r)) |>.mpr ⟨h, List.getElem?_set_self h2⟩).symm
    · rw [List.length_zip] at hl
      rw [if_neg (by rw [List.length_zip]; exact hl)]
      exact (List.getElem?_eq_none (by rw [List.length_zip, List.length_set]; omega)).symm
  · rw [if_neg e]
    cases hp : ps[i]? with
    | none =>
      have h1 := List.getElem?_eq_none_iff.mp hp
      rw [List.getElem?_eq_none (by rw [List.length_zip]; omega), List.getElem?_eq_none (by rw [List.length_zip]; omega)]
    | some a =>
      cases hr : rs[i]? with
      | none =>
        have h1 := List.getElem?_eq_none_iff.mp hr
        rw [List.getElem?_eq_none (by rw [List.length_zip]; omega), List.getElem?_eq_none (by rw [List.length_zip, List.length_set]; omega)]
      | some b =>
        have z1 : (ps.zip rs)[i]? = some (a, b) := List.getElem?_zip_eq_some.mpr ⟨hp, hr⟩
        have z2 : (ps.zip (rs.set k r))[i]? = some (a, b) := List.getElem?_zip_eq_some.mpr ⟨hp, by rw [List.getElem?_set_ne e]; exact hr⟩
        rw [z1, z2]
end G
namespace G
open PySem PySem.Spec PyProof.Rows L2 Evl
def growD (R : Nat → Nat → Int) (n i : Nat) : List DV := (List.range n).map fun j => .int (rsum n fun k => R i k * R j k)
theorem gram_0 {R : Nat → Nat → Int} {n : Nat} : ((List.range n).map (growD R n)).map DV.lst = (gramM R n 0).map rowL := by
  unfold gramM genM growD rowL
  rw [List.map_map, List.map_map]
  refine List.map_congr_left fun i _ => ?_
  show DV.lst _ = DV.lst _
  rw [List.map_map]
  congr 1
  refine List.map_congr_left fun j _ => ?_
  show DV.int _ = DV.int _
  congr 1
  show _ = gramE R n 0 i j
  unfold gramE
  split <;> simp
theorem gram_set {R : Nat → Nat → Int} {m : Nat} {e : Int} : (((List.range (m + 1)).map (growD R (m + 1))).set m ((growD R (m + 1) m).set m (.int (rsum (m + 1) (fun k => R m k * R m k) + e)))).map DV.lst = (gramM R (m + 1) e).map rowL := by
  have er : ∀ i, i < m + 1 → (if i = m then (growD R (m + 1) m).set m (.int (rsum (m + 1) (fun k => R m k * R m k) + e)) else growD R (m + 1) i) = ((List.range (m + 1)).map fun j => DV.int (gramE R (m + 1) e i j)) := fun i hi => by
    by_cases h : i = m
    · subst h
      rw [if_pos rfl]
      refine List.ext_getElem (by simp [growD]) fun j h1 h2 => ?_
      rw [List.getElem_set]
      simp only [growD, List.getElem_map, List.getElem_range]
      by_cases hj : i = j
      · subst hj
        rw [if_pos rfl]
        unfold gramE
        rw [if_pos ⟨rfl, rfl⟩]
      · rw [if_neg hj]
        unfold gramE
        rw [if_neg (by omega), Int.add_zero]
    · rw [if_neg h]
      unfold growD
      refine List.map_congr_left fun j _ => ?_
      unfold gramE
      rw [if_neg (by omega), Int.add_zero]
  unfold gramM genM
  refine List.ext_getElem (by simp) fun i h1 h2 => ?_
  simp at h2
  have := er i h2
  simp only [List.getElem_map, List.getElem_set, List.getElem_range]
  unfold rowL
  rw [List.map_map]
  congr 1
  refine Eq.trans ?_ (this.trans ?_)
  · by_cases h : i = m
    · subst h
      simp
    · rw [if_neg h, if_neg (fun z => h z.symm)]
  · rfl
end G
set_option Elab.async false
set_option linter.all false
set_option maxRecDepth 100000
namespace G
open PySem PySem.Spec PyProof.Rows L2 Evl
section
variable {K : PySem.W.Frag} {δ : G.Env} {μ μ' μ'' : Sto} {ta tb : TE}
theorem ex_isBl {a b : Bool} (ha : EX K ta δ μ μ' (.bl a)) (hb : EX K tb δ μ' μ'' (.bl b)) : EX K (tOp (fun x y H Q => ∃ a b, x = .bl a ∧ y = .bl b ∧ Q (.bl (decide (a = b))) H) ta tb) δ μ μ'' (.bl (decide (a = b))) := fun F M σ H s Q q =>
  ha F M σ H s _ fun v H1 e1 s1 r1 => hb F M σ H1 s1 _ fun w H2 e2 s2 r2 => by
    cases r1
    cases r2
    exact ⟨a, b, rfl, rfl, q _ H2 (e1.trans e2) s2 (.bl _)⟩
theorem ex_isNBl {a b : Bool} (ha : EX K ta δ μ μ' (.bl a)) (hb : EX K tb δ μ' μ'' (.bl b)) : EX K (tOp (fun x y H Q => ∃ a b, x = .bl a ∧ y = .bl b ∧ Q (.bl (!decide (a = b))) H) ta tb) δ μ μ'' (.bl (!decide (a = b))) := fun F M σ H s Q q =>
  ha F M σ H s _ fun v H1 e1 s1 r1 => hb F M σ H1 s1 _ fun w H2 e2 s2 r2 => by
    cases r1
    cases r2
    exact ⟨a, b, rfl, rfl, q _ H2 (e1.trans e2) s2 (.bl _)⟩
end
end G
set_option Elab.async false
set_option linter.all false
set_option maxRecDepth 100000
set_option maxHeartbeats 2000000
namespace G
open PySem PySem.Spec PyProof.Rows L2 Evl
/-! the laws' own source of numbers -/
abbrev S2 := Int × Int
def stD (s : S2) : List DV := [.int s.1, .int s.2]
def tkS (s : S2) (m : Int) : S2 := if 0 < s.1 then (s.1.fdiv m, s.2) else (s.1, (s.2 * 48271 + 11).fmod 2147483647)
def tkV (s : S2) (m : Int) : Int := if 0 < s.1 then s.1.fmod m else (((s.2 * 48271 + 11).fmod 2147483647).fdiv 7).fmod m
theorem tkV_bound (s : S2) {m : Int} (h : 0 < m) : 0 ≤ tkV s m ∧ tkV s m < m := by
  unfold tkV
  split
  · exact ⟨Int.fmod_nonneg_of_pos _ h, Int.fmod_lt_of_pos _ h⟩
  · exact ⟨Int.fmod_nonneg_of_pos _ h, Int.fmod_lt_of_pos _ h⟩
theorem tkV_nat (s : S2) {m : Nat} (h : 0 < m) : ∃ n : Nat, tkV s m = n ∧ n < m := by
  have := tkV_bound s (m := (m : Int)) (by omega)
  exact ⟨(tkV s m).toNat, by omega, by omega⟩
def StPre (ds : List DV) : Prop := ∃ ns : List Int, ds = [.lst (ns.map .int)] ∧ ns.length ≤ 63
def StPost (_ : List DV) (rs : List DV) : Prop := ∃ s : S2, rs = stD s
def rTake : List DV → List DV → List DV → DV → Prop := fun s ds s' r => ∃ (a : S2) (m : Int), s = stD a ∧ ds = [.int m] ∧ 0 < m ∧ s' = stD (tkS a m) ∧ r = .int (tkV a m)
/-- the product by the law -/
def prodM (a b : List (List Int)) (w : Nat) := genM a.length w fun i j => mulE a b b.length i j
def rProd : List DV → DV → Prop := fun ds r => ∃ (a b : List (List Int)) (w A B : Nat), ds = [rowsT a, rowsT b, .int w] ∧ GOk a b.length A ∧ GOk b w B ∧ A + B ≤ 134217728 ∧ r = rowsT (prodM a b w)
def unitM (n : Nat) := genM n n fun i k => if i = k then 1 else 0
def rUnit : List DV → DV → Prop := fun ds r => ∃ n : Nat, ds = [.int n] ∧ n ≤ 100 ∧ r = rowsT (unitM n)
def stepR (rs : List (List Int)) (n i k : Nat) (f : Int) : List Int := (List.range n).map fun j => if i = k then -en rs i j else en rs i j + f * en rs k j
def stepM (rs : List (List Int)) (n i k : Nat) (f : Int) : List (List Int) := rs.set i (stepR rs n i k f)
def rStep : List DV → DV → Prop := fun ds r => ∃ (rs : List (List Int)) (n i k : Nat) (f : Int) (B : Nat), ds = [rowsT rs, .int i, .int k, .int f] ∧ GOk rs n B ∧ rs.length = n ∧ i < n ∧ k < n ∧ f.natAbs ≤ 2 ∧ r = rowsT (stepM rs n i k f)
/-- steps from the unit matrix -/
inductive Uni (n : Nat) : Nat → List (List Int) → Prop
  | one : Uni n 0 (unitM n)
  | step {m : Nat} {rs : List (List Int)} {i k : Nat} {f : Int} : Uni n m rs → i < n → k < n → f.natAbs ≤ 2 → Uni n (m + 1) (stepM rs n i k f)
theorem stepM_len {rs : List (List Int)} {n i k : Nat} {f : Int} : (stepM rs n i k f).length = rs.length := by
  unfold stepM
  rw [List.length_set]
theorem stepM_ok {rs : List (List Int)} {n i k B : Nat} {f : Int} (o : GOk rs n B) (hf : f.natAbs ≤ 2) : GOk (stepM rs n i k f) n (B + 2) := by
  refine ⟨by rw [stepM_len]; exact o.len, o.wid, fun x hx => ?_, fun x hx => ?_⟩
  · rcases List.mem_or_eq_of_mem_set hx with h | h
    · exact o.row x h
    · rw [h]
      unfold stepR
      simp
  · rcases List.mem_or_eq_of_mem_set hx with h | h
    · exact sm_mono (by omega) (o.sm x h)
    · rw [h]
      intro y hy
      unfold stepR at hy
      obtain ⟨j, _, rfl⟩ := List.mem_map.mp hy
      have h1 := o.en i j
      have h2 := o.en k j
      have e : 2 ^ (B + 2) = 4 * 2 ^ B := by rw [Nat.pow_add]; omega
      have h3 : (f * en rs k j).natAbs ≤ 2 * (en rs k j).natAbs := by
        rw [Int.natAbs_mul]
        exact Nat.mul_le_mul_right _ hf
      split <;> omega
theorem Uni.ok {n : Nat} (hn : n ≤ 4) : ∀ {m : Nat} {rs : List (List Int)}, Uni n m rs → rs.length = n ∧ GOk rs n (1 + 2 * m)
  | _, _, .one => ⟨genM_len, .gen (by omega) (by omega) fun i j _ _ => by split <;> decide⟩
  | _, _, .step (m := m) u hi hk hf => by
    obtain ⟨h1, h2⟩ := u.ok hn
    exact ⟨by rw [stepM_len]; exact h1, (stepM_ok h2 hf).mono (by omega)⟩
def UnPre (s ds : List DV) : Prop := ∃ (a : S2) (n : Nat), s = stD a ∧ ds = [.int n] ∧ n ≤ 4
def UnPost (s ds s' : List DV) (r : DV) : Prop := ∃ (n m : Nat) (a : S2) (rs : List (List Int)), ds = [.int n] ∧ s' = stD a ∧ m ≤ 4 ∧ Uni n m rs ∧ r = rowsT rs
def rIsRows (C : Addr) : List DV → DV → Prop := fun ds r => ∃ (rs : List (List Int)) (w h : Nat) (B : Nat), ds = [gridD C rs w, .int h, .int w] ∧ rs.length = h ∧ GOk rs w B ∧ r = .bl true
def rUnim (C : Addr) : List DV → DV → Prop := fun ds r => ∃ a w B, ds = [gridD C a w] ∧ (∀ x ∈ a, x.length = w) ∧ 1 ≤ B ∧ B ≤ 8000000 ∧ (a.length = w → GOk a w B ∧ w ≤ 4) ∧ r = .bl (decide (a.length = w) && decide ((bar a).natAbs = 1))
def invM (a : List (List Int)) (n : Nat) := scaleM (bar a) (adjM a n) n
def rInv (C : Addr) : List DV → DV → Prop := fun ds r => ∃ a w, ds = [gridD C a w] ∧ GOk a w 1000 ∧ a.length = w ∧ w ≤ 4 ∧ (bar a).natAbs = 1 ∧ r = gridD C (invM a w) w
def rLaw : List DV → DV → Prop := fun ds r => ∃ ns : List Int, ds = [.lst (ns.map .int)] ∧ ns.length ≤ 63 ∧ r = .bl true
end G
set_option Elab.async false
set_option linter.all false
set_option maxRecDepth 100000
set_option maxHeartbeats 1000000
/-! defs that raise, over data -/
namespace G
open PySem PySem.Spec PyProof.Rows L2 Evl
/-- o.m(..) that may raise -/
def tMeS (C : Addr) (m : Str) (sp : Sp) (E : L2.St → XK) (ta : TE) (t : TA) : TE := fun σ H Q => ta σ H fun x H1 => ∃ a dx fs, x = .ref a ∧ H1 a = some (.ins C dx fs) ∧ fs.lookup m = none ∧ t σ H1 fun vs H2 => sp (x :: vs) H2 Q (E σ)
structure MetX (P : Program) (w : World) (K : PySem.W.Frag) (mg : Str → Option Value) (base : Heap) (k : Nat) (C : Addr) (m : Str) (sp : Sp) : Prop where
  ex : ∃ (f : Addr) (fd : FuncData) (ps : List Str), Cls K C ∧ Meth K C m f ∧ FnOk P w K mg base (L2.CX P w) k f fd ps sp ∧ Binds K fd ps []
structure CalX (P : Program) (w : World) (K : PySem.W.Frag) (mg : Str → Option Value) (base : Heap) (k : Nat) (x : Str) (sp : Sp) : Prop where
  ex : ∃ (f : Addr) (fd : FuncData) (ps : List Str), FnOk P w K mg base (L2.CX P w) k f fd ps sp ∧ mg x = some (.ref f) ∧ PySem.W.keepIn K (.ref f) = true ∧ Binds K fd ps []
section
variable {X : Cx} {k j : Nat} {C : Addr} {x m : Str} {sp : Sp} {W : L2.WX} {p pos apos : Pos} {e o : Expr} {es : List Expr} {ta : TE} {t : TA}
theorem pe_mtX0 {pl : Sem Bool} (c : MetX X.prog X.w X.K X.mg X.base k C m sp) (hr : Room j X.A) (hk : k ≤ j) (tk : L2.Takes X W) (he : PE X o ta)
    (ht : eval (.Call (.Attribute o m apos) [] [] pos) X.env = (do
      let ov ← eval o X.env
      standAt apos.atName
      let (f, first) ← holding [ov] (getMethod ov m pl)
      callWith pos f first (backTo pos (starEach [] X.env)) (backToKw pos (keywordEach [] X.env))) := by rfl) :
    PE X (.Call (.Attribute o m apos) [] [] pos) (tMeS C m sp (WE W) ta tNil) := by
  obtain ⟨f, fd, ps, hc, hm, F, b⟩ := c.ex
  refine ⟨fun pins s σ H Q I h => ?_⟩
  refine PySem.W.methodCall_KW (pl := pl) (thn (he.run pins s σ H _ I h) fun u s1 ⟨x, H1, I1, rx, a, dx, fs, ex, ea, l, q⟩ => ?_) ht
  subst ex
  obtain rfl : u = Value.ref a := rx
  refine getmeth_ok I1 ea hc hm l ?_
  exact PySem.W.callWith_K0 (first := [.ref a]) I1.kIn hm.kp (run_fnS (us := [.ref a]) (vs := [.ref a]) F (hr.mono hk) b (passAt tk σ) I1 (.cons rfl .nil) q)
theorem pe_cX (c : CalX X.prog X.w X.K X.mg X.base k x sp) (hr : Room j X.A) (hk : k ≤ j) (tk : L2.Takes X W) (hg : Gl X x) (ha : PA X (e :: es) t)
    (hdb : (x == ("__debug__" : Str)) = false := by decide) (he : starEach (e :: es) X.env = (false, eval e X.env) :: starEach es X.env := by rfl) (hpl : (backTo pos (starEach es X.env)).any (·.1) = false := by rfl) :
    PE X (.Call (.Name x p) (e :: es) [] pos) (tCallS sp (WE W) t) := by
  obtain ⟨f, fd, ps, F, hm, kp, b⟩ := c.ex
  exact pe_callS F (hr.mono hk) hg hm kp b (fun σ => passAt tk σ) ha hdb he hpl
end
/-- arguments for which the class at R is raised, its fields told -/
def spF (K : PySem.W.Frag) (R : Addr) (Pre : List DV → List (Str × V) → Prop) : Sp := fun vs H _ E => ∃ M ds, (∀ a ∈ M, H a ≠ none) ∧ RpAll K (hid M H) vs ds ∧ ∃ fs, Pre ds fs ∧ ∀ d H', H d = none → Ex H H' → H' d = some (.xd fs) → E (.ref R) (some d) H'
/-- the same, no fields -/
def spM (K : PySem.W.Frag) (R : Addr) (Pre : List DV → Prop) : Sp := fun vs H _ E => ∃ M ds, (∀ a ∈ M, H a ≠ none) ∧ RpAll K (hid M H) vs ds ∧ Pre ds ∧ ∀ H', Ex H H' → E (.ref R) none H'
/-- Refused(reason): what __init__ does -/
def spRI (R : Addr) (f : Str) : Sp := fun vs H Q E => ∃ (a : Addr) (x : Str), vs = [.ref a, .str x] ∧ x.length ≤ 1000 ∧ H a = some (exo a R none) ∧ ∀ d, H d = none → d ≠ a → Q .non (upd (upd H d (exd d [(f, .str x)])) a (exo a R (some d)))
section
variable {P : Program} {w : World} {K : PySem.W.Frag} {mg : Str → Option Value} {base : Heap}
/-- the start of a def that raises: its state told by data -/
theorem okX {x qual : Str} {st : Stmt} {f : Addr} {fd : FuncData} {N ps : List Str} {k : Nat} {R : Addr} {Pre : List DV → List (Str × V) → Prop} (Fn : Fun K x qual st f fd) (S : FnScope N ps (defScope st)) (len : ∀ ds fs, Pre ds fs → ds.length = ps.length)
    (body : ∀ (cdv : Value) (A : Around) (outer : List PySem.Env) (s : Shared) (H : Hp) (E : XK), Room k (A.deeper (envOfC qual (defScope st) s.heap.objs.size f cdv)) →
      ∃ t, PSs (cxOf (L2.CX P w) P w K mg base N qual (defScope st) f cdv A outer s H E) (defBody st) t ∧ ∀ F M ds fs σ D, Pre ds fs → Sta K F M (startD N.length ds) [] σ H →
        (∀ d H', F d = none → Ex F H' → H' d = some (.xd fs) → E (.ref R) (some d) H') → t D σ H) : FnOk P w K mg base (L2.CX P w) (k + 1) f fd ps (spF K R Pre) := by
  refine Fn.okX S (fun vs H Q E ⟨M, ds, _, h1, fs, h2, _⟩ => by rw [h1.length]; exact len _ _ h2) fun cdv A outer s H vs Q E hr ⟨M, ds, al, ra, fs, hR, kq⟩ => ?_
  obtain ⟨t, h1, h2⟩ := body cdv A outer s H E hr
  exact ⟨t, h1, h2 H M ds fs _ _ hR (sta_start al ra) kq⟩
end
end G
set_option Elab.async false
set_option linter.all false
set_option maxRecDepth 100000
set_option maxHeartbeats 4000000
namespace G02
open PySem PySem.Spec PyProof.Rows L2 Evl G
def topS (i : Nat) : Stmt := PySem.Challenge.pw_gridroads_k02_determinants.main.body.getD i (.Pass ⟨0, 0, 0, 0⟩)
def inClass (s : Stmt) (j : Nat) : Stmt := match s with
  | .ClassDef (body := b) .. => b.getD j (.Pass ⟨0, 0, 0, 0⟩)
  | _ => .Pass ⟨0, 0, 0, 0⟩
abbrev s_is_integer : Stmt := topS 5
abbrev s_dot : Stmt := topS 6
abbrev s_checked : Stmt := topS 8
abbrev s_determinant : Stmt := topS 9
abbrev s_minor : Stmt := topS 10
abbrev s_Grid_init : Stmt := inClass (topS 11) 0
abbrev s_Grid_len : Stmt := inClass (topS 11) 1
abbrev s_Grid_mul : Stmt := inClass (topS 11) 6
abbrev s_Grid_transposed : Stmt := inClass (topS 11) 9
abbrev s_Grid_is_square : Stmt := inClass (topS 11) 13
abbrev s_Grid_determinant : Stmt := inClass (topS 11) 14
abbrev s_Grid_adjugate : Stmt := inClass (topS 11) 15
abbrev s_Grid_is_unimodular : Stmt := inClass (topS 11) 16
abbrev s_law_cell : Stmt := topS 13
abbrev s_law_state : Stmt := topS 14
abbrev s_law_take : Stmt := topS 15
abbrev s_law_rows : Stmt := topS 16
abbrev s_law_product : Stmt := topS 17
abbrev s_law_determinant : Stmt := topS 18
abbrev s_law_is_rows : Stmt := topS 19
abbrev s_law_refused : Stmt := topS 20
abbrev s_law : Stmt := topS 21
theorem sc_is_integer : FnScope ["value"] ["value"] (defScope s_is_integer) := ⟨rfl, rfl, rfl, by decide +kernel, rfl, by decide +kernel, by decide +kernel⟩
theorem sc_dot : FnScope ["a", "b", "x", "y"] ["a", "b"] (defScope s_dot) := ⟨rfl, rfl, rfl, by decide +kernel, rfl, by decide +kernel, by decide +kernel⟩
theorem sc_checked : FnScope ["rows", "width", "out", "row", "item"] ["rows", "width"] (defScope s_checked) := ⟨rfl, rfl, rfl, by decide +kernel, rfl, by decide +kernel, by decide +kernel⟩
theorem sc_determinant : FnScope ["rows", "table", "size", "sign", "before", "k", "chosen", "row", "head", "i", "factor", "x", "y"] ["rows"] (defScope s_determinant) := ⟨rfl, rfl, rfl, by decide +kernel, rfl, by decide +kernel, by decide +kernel⟩
theorem sc_minor : FnScope ["rows", "i", "k", "at", "row"] ["rows", "i", "k"] (defScope s_minor) := ⟨rfl, rfl, rfl, by decide +kernel, rfl, by decide +kernel, by decide +kernel⟩
theorem sc_Grid_init : FnScope ["self", "rows", "width"] ["self", "rows", "width"] (defScope s_Grid_init) := ⟨rfl, rfl, rfl, by decide +kernel, rfl, by decide +kernel, by decide +kernel⟩
theorem sc_Grid_len : FnScope ["self"] ["self"] (defScope s_Grid_len) := ⟨rfl, rfl, rfl, by decide +kernel, rfl, by decide +kernel, by decide +kernel⟩
theorem sc_Grid_mul : FnScope ["self", "other", "columns", "k", "row", "column"] ["self", "other"] (defScope s_Grid_mul) := ⟨rfl, rfl, rfl, by decide +kernel, rfl, by decide +kernel, by decide +kernel⟩
theorem sc_Grid_transposed : FnScope ["self", "k", "row"] ["self"] (defScope s_Grid_transposed) := ⟨rfl, rfl, rfl, by decide +kernel, rfl, by decide +kernel, by decide +kernel⟩
theorem sc_Grid_is_square : FnScope ["self"] ["self"] (defScope s_Grid_is_square) := ⟨rfl, rfl, rfl, by decide +kernel, rfl, by decide +kernel, by decide +kernel⟩
theorem sc_Grid_determinant : FnScope ["self"] ["self"] (defScope s_Grid_determinant) := ⟨rfl, rfl, rfl, by decide +kernel, rfl, by decide +kernel, by decide +kernel⟩
theorem sc_Grid_adjugate : FnScope ["self", "out", "i", "line", "k", "minor"] ["self"] (defScope s_Grid_adjugate) := ⟨rfl, rfl, rfl, by decide +kernel, rfl, by decide +kernel, by decide +kernel⟩
theorem sc_Grid_is_unimodular : FnScope ["self"] ["self"] (defScope s_Grid_is_unimodular) := ⟨rfl, rfl, rfl, by decide +kernel, rfl, by decide +kernel, by decide +kernel⟩
theorem sc_law_cell : FnScope ["script", "k"] ["script", "k"] (defScope s_law_cell) := ⟨rfl, rfl, rfl, by decide +kernel, rfl, by decide +kernel, by decide +kernel⟩
theorem sc_law_state : FnScope ["script", "seed", "total", "cell"] ["script"] (defScope s_law_state) := ⟨rfl, rfl, rfl, by decide +kernel, rfl, by decide +kernel, by decide +kernel⟩
theorem sc_law_take : FnScope ["state", "m", "value"] ["state", "m"] (defScope s_law_take) := ⟨rfl, rfl, rfl, by decide +kernel, rfl, by decide +kernel, by decide +kernel⟩
theorem sc_law_rows : FnScope ["state", "height", "width", "most", "rows", "i", "k"] ["state", "height", "width", "most"] (defScope s_law_rows) := ⟨rfl, rfl, rfl, by decide +kernel, rfl, by decide +kernel, by decide +kernel⟩
theorem sc_law_product : FnScope ["a", "b", "width", "out", "row", "line", "k", "total", "j"] ["a", "b", "width"] (defScope s_law_product) := ⟨rfl, rfl, rfl, by decide +kernel, rfl, by decide +kernel, by decide +kernel⟩
theorem sc_law_determinant : FnScope ["rows", "total", "k", "minor", "row"] ["rows"] (defScope s_law_determinant) := ⟨rfl, rfl, rfl, by decide +kernel, rfl, by decide +kernel, by decide +kernel⟩
theorem sc_law_is_rows : FnScope ["value", "height", "width", "row", "x"] ["value", "height", "width"] (defScope s_law_is_rows) := ⟨rfl, rfl, rfl, by decide +kernel, rfl, by decide +kernel, by decide +kernel⟩
theorem sc_law_refused : FnScope ["grid", "count"] ["grid"] (defScope s_law_refused) := ⟨rfl, rfl, rfl, by decide +kernel, rfl, by decide +kernel, by decide +kernel⟩
theorem sc_law : FnScope ["script", "state", "n", "a", "b", "x", "y", "d", "e", "adjugate", "due", "i", "line", "k", "minor", "scalar", "row"] ["script"] (defScope s_law) := ⟨rfl, rfl, rfl, by decide +kernel, rfl, by decide +kernel, by decide +kernel⟩
structure Txt (P : Program) (K : PySem.W.Frag) (mg : Str → Option Value) (base : Heap) (C : Addr) : Prop where
  u_len : mg "len" = none
  u_isinstance : mg "isinstance" = none
  u_int : mg "int" = none
  u_bool : mg "bool" = none
  u_list : mg "list" = none
  u_tuple : mg "tuple" = none
  u_range : mg "range" = none
  u_zip : mg "zip" = none
  u_enumerate : mg "enumerate" = none
  u_sum : mg "sum" = none
  u_abs : mg "abs" = none
  u_min : mg "min" = none
  sr : base.NoSeer
  tr : P.given.tree = none
  gGrid : ClsG K C
  m_Grid : mg "Grid" = some (.ref C)
  cl : Cls K C
  n_rows : NoAttr K C "rows"
  n_width : NoAttr K C "width"
abbrev FunI (K : PySem.W.Frag) (st : Stmt) (f : Addr) (fd : FuncData) : Prop := FunD K "__init__" "Grid.__init__" (defArgs st) (defBody st) (defScope st) [.non] [] f fd
section
variable {P : Program} {w : World} {K : PySem.W.Frag} {mg : Str → Option Value} {base : Heap} {C : Addr} {f : Addr} {fd : FuncData}
theorem ok_is_integer (F : Fun K "is_integer" "is_integer" s_is_integer f fd) (T : Txt P K mg base C) : FnOk P w K mg base CX0 2 f fd ["value"] (spD K rIsInt) := by
  refine okD F sc_is_integer (fun ds r h => by obtain ⟨i, rfl, _⟩ := h; rfl) fun cdv A outer s H E hr => ⟨_, (pss_one (ps_ret (pe_and (pe_callB (call_isK (K := K)) (by rfl) T.u_isinstance PyProof.Rows.boot_isinstance (pa_cons (pv 0) (pa_cons (pe_bltn (v := .ty "int") (u := .type "int") (by rfl) T.u_int (by decide +kernel) rfl) pa_nil))) (pe_one (pe_not (pe_callB (call_isK (K := K)) (by rfl) T.u_isinstance PyProof.Rows.boot_isinstance (pa_cons (pv 0) (pa_cons (pe_bltn (v := .ty "bool") (u := .type "bool") (by rfl) T.u_bool (by decide +kernel) rfl) pa_nil)))))))), ?_⟩
  intro F M ds r σ H1 D hR st krt knx
  obtain ⟨i, rfl, rfl⟩ := hR
  refine y_end (μ' := []) krt st ?_ (Ex.refl _) fun _ h => h
  refine EX.is (ex_andV (ex_isiB (b := true) (ex_var rfl) .int (by decide +kernel)) fun _ => ex_notV (ex_isiB (b := false) (ex_var rfl) .int (by decide +kernel))) rfl
theorem ok_dot (F : Fun K "dot" "dot" s_dot f fd) (T : Txt P K mg base C) : FnOk P w K mg base CX0 2 f fd ["a", "b"] (spD K rDot) := by
  refine okD F sc_dot (fun ds r h => by obtain ⟨d, e, a, b, rfl, _⟩ := h; rfl) fun cdv A outer s H E hr => ⟨_, (pss_one (ps_ret (pe_callB (cr_sumK (K := K)) (by rfl) T.u_sum PyProof.Rows.boot_sum (pa_cons (pe_lc (own := [("x", 2), ("y", 3)]) (g := gTup K 2 (gCons (gName 2) (gCons (gName 3) gNil))) (tt := tYes) (by rfl) sc_dot.nd (pi_zK (K := K) (by rfl) T.u_zip (pa_cons (pv 0) (pa_cons (pv 1) pa_nil))) (blkOk_by (N := ["a", "b", "x", "y"]) (sc := defScope s_dot) (own := [("x", 2), ("y", 3)]) (by first | decide +kernel | kernel_rfl)) (fun _ _ _ _ _ => (pg_tup rfl (pgs_cons (pg_name (i := 2) sc_dot.nd rfl (Or.inl rfl)) (pgs_cons (pg_name (i := 3) sc_dot.nd rfl (Or.inl rfl)) pgs_nil)))) (fun _ _ _ _ _ => pts_nil) (fun _ _ _ _ _ => (pe_op op_mulB (pv 2) (pv 3)))) pa_nil)))), ?_⟩
  intro F M ds r σ H1 D hR st krt knx
  obtain ⟨d, e, a, b, rfl, ha, hb, hl, ⟨A, B, hA, hB, hAB⟩, rfl⟩ := hR
  refine y_end (μ' := []) krt st ?_ (Ex.refl _) fun _ h => h
  refine ex_sum (EX.is (LX.ex (lx_lc1 (wx_zip (ax_cons (ex_var rfl) (ax_cons (ex_var rfl) ax_nil)) ha hb rfl) (fun i => .int (a.getD i 0 * b.getD i 0)) (by simp; omega) (by simp) fun i hi => ?_)) ?_)
  · simp at hi
    exact ex_I (EX.is (ex_var rfl) (getD_map (by omega))) (EX.is (ex_var rfl) (getD_map (by omega))) (smMul (getD_sm hA i) (getD_sm hB i) hAB)
  · simp [Function.comp_def]
theorem ok_checked (F : Fun K "_checked" "_checked" s_checked f fd) (T : Txt P K mg base C) (c_is_integer : CalG P w K mg base 2 "is_integer" (spD K rIsInt) []) : FnOk P w K mg base CX0 4 f fd ["rows", "width"] (spD K rChecked) := by
  refine okD F sc_checked (fun ds r h => by obtain ⟨d, rs, w, rfl, _⟩ := h; rfl) fun cdv A outer s H E hr => ⟨_, (pss_cons (ps_set (i := 2) sc_checked.nd rfl (Or.inl rfl) (pe_lst pa_nil))
      (pss_cons (ps_for PassesOwn.never rfl (pi_seqK (K := K) (pv 0)) (pg_name (i := 3) sc_checked.nd rfl (Or.inl rfl)) (pss_cons (ps_if (PW.pt (pw_or (pt_not (pt_val (pe_callB (call_isTK (K := K)) (by rfl) T.u_isinstance PyProof.Rows.boot_isinstance (pa_cons (pv 3) (pa_cons (pe_tup (pa_cons (pe_bltn (v := .ty "list") (u := .type "list") (by rfl) T.u_list (by decide +kernel) rfl) (pa_cons (pe_bltn (v := .ty "tuple") (u := .type "tuple") (by rfl) T.u_tuple (by decide +kernel) rfl) pa_nil))) pa_nil))))) (pw_or1 (pt_cmpR op_ne (pe_callB (call_lenK (K := K)) (by rfl) T.u_len (by decide +kernel) (pa_cons (pv 3) pa_nil)) (pv 1) (nomark _))))) (pss_one ps_never) pss_nil)
      (pss_cons (ps_for PassesOwn.never rfl (pi_seqK (K := K) (pv 3)) (pg_name (i := 4) sc_checked.nd rfl (Or.inl rfl)) (pss_one (ps_if (pt_not (pt_val (pe_cG c_is_integer hr (by decide) rfl (pa_cons (pv 4) pa_nil)))) (pss_one ps_never) pss_nil)))
      (pss_one (ps_expr (pe_bm PySem.F.plainAttrs_list PySem.F.slot_list_append PySem.F.type_list_append mt_append (pv 2) (pa_cons (pe_callTy (call_tupK (K := K)) (by rfl) T.u_tuple PyProof.Rows.boot_tuple (pa_cons (pv 3) pa_nil)) pa_nil)))))))
      (pss_one (ps_ret (pe_callTy (call_tupK (K := K)) (by rfl) T.u_tuple PyProof.Rows.boot_tuple (pa_cons (pv 2) pa_nil)))))), ?_⟩
  intro F M ds r σ H1 D hR st krt knx
  obtain ⟨d, rs, w, rfl, ⟨es, sq, hl, hrow⟩, hlen, hw, rfl⟩ := hR
  refine y_asgL st (lx_lst ax_nil) fun p σ H2 hp hpF st => ?_
  refine x_forP (fun i M1 δ1 μ1 => M1 = p :: M ∧ (∃ x3 x4, δ1 = [some d, some (.int w), some (.box p), x3, x4]) ∧ μ1 = [(p, (rs.take i).map rowT)]) st (wx_seq (ex_var rfl) sq) ⟨rfl, ⟨none, none, rfl⟩, rfl⟩ ?_ ?_
  · rintro F1 i M1 δ1 μ1 σ H3 eF hi ⟨rfl, ⟨x3, x4, rfl⟩, rfl⟩ nw st
    have hi' : i < rs.length := by omega
    have hr1 : IsRow (es.getD i .non) (rs.getD i []) := IsRows.at hl hrow hi'
    have hg : rs.getD i [] = rs[i] := by rw [List.getD_eq_getElem?_getD, List.getElem?_eq_getElem hi']; rfl
    have hwl : (rs.getD i []).length = w := by rw [hg]; exact hw _ (List.getElem_mem _)
    obtain ⟨t, ty, kit⟩ := kitLT (K := K) hr1
    generalize hd1 : es.getD i .non = d1 at hr1 ty st
    generalize hr' : rs.getD i [] = r1 at hr1 hwl hg
    refine y_skip st (TX.is (tx_or (tx_not (tx_val (ex_isi2 (ex_var rfl) ty kit))) fun _ => tx_test (ex_neI (ex_len (ex_var rfl) hr1.items) (ex_var rfl))) (by simp [hwl])) fun H4 st => ?_
    refine x_forP (fun j M1 δ1 μ1 => M1 = p :: M ∧ (∃ x4, δ1 = [some d, some (.int w), some (.box p), some d1, x4]) ∧ μ1 = [(p, (rs.take i).map rowT)]) st (wx_seq (ex_var rfl) hr1) ⟨rfl, ⟨x4, rfl⟩, rfl⟩ ?_ ?_
    · rintro F2 j M1 δ1 μ1 σ H5 eF2 hj ⟨rfl, ⟨x4, rfl⟩, rfl⟩ nw2 st
      refine y_skip st (TX.is (tx_not (tx_val (ex_call (ax_cons (EX.is (ex_var rfl) (getD_map (by simpa using hj))) ax_nil) ⟨_, rfl, rfl⟩))) rfl) fun H6 st => ?_
      exact nxt st nw2 ⟨rfl, ⟨_, rfl⟩, rfl⟩
    · rintro M1 δ1 μ1 σ H5 ⟨rfl, ⟨x4, rfl⟩, rfl⟩ nw2 st
      refine y_app (j := 0) st (ex_var rfl) (ex_tuple (ex_var rfl) hr1.items) rfl (by simp; omega) fun H6 st => ?_
      refine nxt st nw ⟨rfl, ⟨_, _, rfl⟩, ?_⟩
      simp [List.take_succ, List.getElem?_eq_getElem hi', ← hg, rowT]
  · rintro M1 δ1 μ1 σ H3 ⟨rfl, ⟨x3, x4, rfl⟩, rfl⟩ nw st
    refine y_end (μ' := [(p, (rs.take es.length).map rowT)]) krt st (EX.is (ex_tuple (ex_var rfl) (.box (j := 0) rfl)) ?_) (Ex.refl _) fun _ h => List.mem_cons_of_mem _ h
    rw [hl, List.take_length]
    rfl
theorem ok_determinant (F : Fun K "_determinant" "_determinant" s_determinant f fd) (T : Txt P K mg base C) : FnOk P w K mg base CX0 42 f fd ["rows"] (spD K rDet) := by
  refine okD F sc_determinant (fun ds r h => by obtain ⟨d, rs, _, rfl, _⟩ := h; rfl) fun cdv A outer s H E hr => ⟨_, (pss_cons (ps_set (i := 1) sc_determinant.nd rfl (Or.inr rfl) (pe_lc (own := [("row", 7)]) (g := gName 7) (tt := tYes) (by rfl) sc_determinant.nd (pi_seqK (K := K) (pv 0)) (blkOk_by (N := ["rows", "table", "size", "sign", "before", "k", "chosen", "row", "head", "i", "factor", "x", "y"]) (sc := defScope s_determinant) (own := [("row", 7)]) (by first | decide +kernel | kernel_rfl)) (fun _ _ _ _ _ => (pg_name (i := 7) sc_determinant.nd rfl (Or.inl rfl))) (fun _ _ _ _ _ => pts_nil) (fun _ _ _ _ _ => (pe_callTy (call_listK (K := K)) (by rfl) T.u_list PyProof.Rows.boot_list (pa_cons (pv 7) pa_nil)))))
      (pss_cons (ps_set (i := 2) sc_determinant.nd rfl (Or.inl rfl) (pe_callB (call_lenK (K := K)) (by rfl) T.u_len (by decide +kernel) (pa_cons (pv 1) pa_nil)))
      (pss_cons (ps_asg (pe_tup (pa_cons pe_int (pa_cons pe_int pa_nil))) (pg_tup rfl (pgs_cons (pg_name (i := 3) sc_determinant.nd rfl (Or.inl rfl)) (pgs_cons (pg_name (i := 4) sc_determinant.nd rfl (Or.inr rfl)) pgs_nil))))
      (pss_cons (ps_for PassesOwn.never rfl (pi_range1 (by rfl) T.u_range (pa_cons (pv 2) pa_nil)) (pg_name (i := 5) sc_determinant.nd rfl (Or.inr rfl)) (pss_cons (ps_setLc (i := 6) (own := [("i", 9)]) (g := gName 9) (by rfl) sc_determinant.nd rfl rfl (sw_true rfl rfl rfl (by decide +kernel)) (pi_range2 (by rfl) T.u_range (pa_cons (pv 5) (pa_cons (pv 2) pa_nil))) (blkOk_by (N := ["rows", "table", "size", "sign", "before", "k", "chosen", "row", "head", "i", "factor", "x", "y"]) (sc := defScope s_determinant) (own := [("i", 9)]) (by first | decide +kernel | kernel_rfl)) (fun _ _ _ _ _ => (pg_name (i := 9) sc_determinant.nd rfl (Or.inl rfl))) (fun _ _ _ _ _ => (pts_one (pt_cmpR op_ne (pe_ix (ix_seqK (K := K)) (pe_ix (ix_seqK (K := K)) (pv 1) (pv 9) (fun _ _ => rfl)) (pv 5) (fun _ _ => rfl)) pe_int (nomark _)))) (fun _ _ _ _ _ => (pv 9)))
      (pss_cons (ps_if (pt_cmpR op_eq (pe_callB (call_lenK (K := K)) (by rfl) T.u_len (by decide +kernel) (pa_cons (pv 6) pa_nil)) pe_int (nomark _)) (pss_one (ps_ret pe_int)) pss_nil)
      (pss_cons (ps_if (pt_cmpR op_ne (pe_ix (ix_seqK (K := K)) (pv 6) pe_int (fun _ _ => rfl)) (pv 5) (nomark _)) (pss_cons (ps_set (i := 7) sc_determinant.nd rfl (Or.inl rfl) (pe_ix (ix_seqK (K := K)) (pv 1) (pv 5) (fun _ _ => rfl)))
      (pss_cons (ps_asg (pe_ix (ix_seqK (K := K)) (pv 1) (pe_ix (ix_seqK (K := K)) (pv 6) pe_int (fun _ _ => rfl)) (fun _ _ => rfl)) (pg_sub (pv 1) (pv 5) set_list))
      (pss_cons (ps_asg (pv 7) (pg_sub (pv 1) (pe_ix (ix_seqK (K := K)) (pv 6) pe_int (fun _ _ => rfl)) set_list))
      (pss_one (ps_set (i := 3) sc_determinant.nd rfl (Or.inl rfl) (pe_un un_neg (pv 3))))))) pss_nil)
      (pss_cons (ps_set (i := 8) sc_determinant.nd rfl (Or.inr rfl) (pe_ix (ix_seqK (K := K)) (pv 1) (pv 5) (fun _ _ => rfl)))
      (pss_cons (ps_for PassesOwn.never rfl (pi_range2 (by rfl) T.u_range (pa_cons (pe_op op_add (pv 5) pe_int) (pa_cons (pv 2) pa_nil))) (pg_name (i := 9) sc_determinant.nd rfl (Or.inl rfl)) (pss_cons (ps_set (i := 10) sc_determinant.nd rfl (Or.inr rfl) (pe_ix (ix_seqK (K := K)) (pe_ix (ix_seqK (K := K)) (pv 1) (pv 9) (fun _ _ => rfl)) (pv 5) (fun _ _ => rfl)))
      (pss_one (ps_asg (pe_lc (own := [("x", 11), ("y", 12)]) (g := gTup K 2 (gCons (gName 11) (gCons (gName 12) gNil))) (tt := tYes) (by rfl) sc_determinant.nd (pi_zK (K := K) (by rfl) T.u_zip (pa_cons (pe_ix (ix_seqK (K := K)) (pv 1) (pv 9) (fun _ _ => rfl)) (pa_cons (pv 8) pa_nil))) (blkOk_by (N := ["rows", "table", "size", "sign", "before", "k", "chosen", "row", "head", "i", "factor", "x", "y"]) (sc := defScope s_determinant) (own := [("x", 11), ("y", 12)]) (by first | decide +kernel | kernel_rfl)) (fun _ _ _ _ _ => (pg_tup rfl (pgs_cons (pg_name (i := 11) sc_determinant.nd rfl (Or.inl rfl)) (pgs_cons (pg_name (i := 12) sc_determinant.nd rfl (Or.inl rfl)) pgs_nil)))) (fun _ _ _ _ _ => pts_nil) (fun _ _ _ _ _ => (pe_op (op_div T.sr T.tr hr (by decide) ⟨_, _, rfl, rfl, rfl, rfl, rfl⟩) (pe_op op_sub (pe_op op_mulB (pe_ix (ix_seqK (K := K)) (pv 8) (pv 5) (fun _ _ => rfl)) (pv 11)) (pe_op op_mulB (pv 10) (pv 12))) (pv 4)))) (pg_sub (pv 1) (pv 9) set_list)))))
      (pss_one (ps_set (i := 4) sc_determinant.nd rfl (Or.inr rfl) (pe_ix (ix_seqK (K := K)) (pv 8) (pv 5) (fun _ _ => rfl))))))))))
      (pss_one (ps_ret (pe_op op_mulB (pv 3) (pv 4)))))))), ?_⟩
  intro F M ds r σ H1 D hR st krt knx
  obtain ⟨d, rs, B0, rfl, ⟨es, sq, hl, hrow⟩, hn4, hsq, hsm, hB1, hB8, rfl⟩ := hR
  obtain ⟨n, hn⟩ : ∃ n, rs.length = n := ⟨_, rfl⟩
  have hes : es.length = n := by omega
  have o0 := det_start hsq hsm hB1
  rw [hn] at o0
  -- table
  refine y_asgL (ds := rs.map rowL) st (LX.is (lx_lc1 (wx_seq (ex_var rfl) sq) (fun i => rowL (rs.getD i [])) (by omega) (by simp) fun i hi => (lx_list (ex_var rfl) (IsRows.at hl hrow (by omega : i < rs.length)).items).ex) (by rw [hl]; exact map_getD rowL rs)) fun p σ H2 hp hpF st => ?_
  refine y_asg st (EX.is (ex_len (ex_var rfl) (.box (j := 0) rfl)) (show DV.int _ = DV.int (n : Int) by rw [List.length_map, hn])) fun σ H3 st => ?_
  refine x_tup2 st (ex_tup (ax_cons ex_int (ax_cons ex_int ax_nil))) fun σ H4 st => ?_
  refine x_forP (fun k M1 δ1 μ1 => M1 = p :: M ∧ ∃ t s b, brun n (rs, 1, 1) k = some (t, s, b) ∧ (∃ x5 x6 x7 x8 x9 x10, δ1 = [some d, some (.box p), some (.int n), some (.int s), some (.int b), x5, x6, x7, x8, x9, x10, none, none]) ∧ μ1 = [(p, t.map rowL)]) st
    (wx_range1 (ax_cons (ex_var rfl) ax_nil) (by omega) (by omega)) ⟨rfl, rs, 1, 1, rfl, ⟨_, _, _, _, _, _, rfl⟩, rfl⟩ ?_ ?_
  · rintro F1 k M1 δ1 μ1 σ H5 eF hk ⟨rfl, t, s, b, hrun, ⟨x5, x6, x7, x8, x9, x10, rfl⟩, rfl⟩ nw st
    have hk' : k < n := by simpa using hk
    have ok := brun_ok o0 k _ (by omega) hrun
    have tl : t.length = n := ok.len
    -- chosen
    refine y_asg (d := .lst ((picks t k n).map fun (c : Nat) => DV.int (c : Int))) st (EX.is (lx_lcF (wx_range2 (ax_cons (ex_var rfl) (ax_cons (ex_var rfl) ax_nil)) ⟨by omega, by omega⟩ ⟨by omega, by omega⟩) (fun j => .int ((k : Int) + (j : Nat))) (fun j => !decide (en t (k + j) k = 0)) (by omega) (by simp) (fun j hj => ?_) fun j hj _ => ex_var rfl).ex ?_) fun σ H6 st => ?_
    · have hj' : k + j < n := by omega
      refine tx_test (ex_neI (ex_ix (ex_ix (e := rowL (t.getD (k + j) [])) (i := ((k + j : Nat) : Int)) (ex_var rfl) (EX.is (ex_var rfl) (by rw [Int.natCast_add])) (.box (j := 0) rfl) (atI_row (by omega))) (ex_var rfl) (.lst _) (atI_int ?_)) ex_int)
      rw [ok.row (k + j) hj']
      exact hk'
    · unfold picks
      rw [show ((n : Int) - (k : Int)).toNat = n - k by omega]
      simp [List.map_map, Function.comp_def]
    refine y_if (b := decide (((picks t k n).length : Int) = 0)) st (TX.is (tx_test (ex_eqI (ex_len (ex_var rfl) (.lst _)) ex_int)) (by simp)) (fun hb H7 st => ?_) fun hb H7 st => ?_
    · refine y_end (μ' := [(p, t.map rowL)]) krt st (EX.is ex_int ?_) eF fun _ h => List.mem_cons_of_mem _ h
      have hp0 : picks t k n = [] := by
        have := of_decide_eq_true hb
        exact List.eq_nil_of_length_eq_zero (by omega)
      rw [bar_zero (k := k) (by omega) (by rw [hn]; exact hrun) (by rw [hn]; exact hp0)]
    · obtain ⟨c, cs, hpc⟩ : ∃ c cs, picks t k n = c :: cs := by
        cases q : picks t k n with
        | nil => rw [q] at hb; simp at hb
        | cons c cs => exact ⟨c, cs, rfl⟩
      obtain ⟨c1, c2, c3⟩ := picks_mem (t := t) (k := k) (n := n) (c := c) (by rw [hpc]; simp)
      have hstep : brun n (rs, 1, 1) (k + 1) = bstep n k (t, s, b) := by
        show (brun n (rs, 1, 1) k).bind _ = _
        rw [hrun]
        rfl
      have hat0 : L2.atI ((picks t k n).map fun (c : Nat) => DV.int (c : Int)) 0 = some (.int c) := by rw [hpc]; exact atI_head
      have hkt : k < t.length := by omega
      have hct : c < t.length := by omega
      refine y_if (b := !decide ((c : Int) = k)) st (tx_test (ex_neI (ex_ix (ex_var rfl) ex_int (.lst _) hat0) (ex_var rfl))) (fun hb H7 st => ?swapped) fun hb H7 st => ?same
      case' swapped =>
        have hck : c ≠ k := fun e => by rw [e] at hb; simp at hb
        refine y_asg st (ex_ix (ex_var rfl) (ex_var rfl) (.box (j := 0) rfl) (atI_row hkt)) fun σ H8 st => ?_
        refine y_setL (j := 0) st (ex_ix (ex_var rfl) (ex_ix (ex_var rfl) ex_int (.lst _) hat0) (.box (j := 0) rfl) (atI_row hct)) (ex_var rfl) (ex_var rfl) rfl (ixN_of (by simpa using hkt)) fun H9 st => ?_
        refine y_setL (j := 0) st (ex_var rfl) (ex_var rfl) (ex_ix (ex_var rfl) ex_int (.lst _) hat0) rfl (ixN_of (by simpa using hct)) fun H9 st => ?_
        refine y_asg st (ex_U (ex_var rfl)) fun σ H10 st => ?_
        obtain ⟨t2, s2, x7, o2, hz2, hr2, st⟩ : ∃ t2 s2 x7, BOk B0 n k (t2, s2, b) ∧ en t2 k k ≠ 0 ∧ brun n (rs, 1, 1) (k + 1) = some (inn (t2.getD k []) b k t2 (n - (k + 1)), s2, en t2 k k) ∧
            Sta K F1 (p :: M) [some d, some (.box p), some (.int n), some (.int s2), some (.int b), some (.int k), some (.lst ((picks t k n).map fun (c : Nat) => DV.int (c : Int))), x7, x8, x9, x10, none, none] [(p, t2.map rowL)] σ H10 := by
          refine ⟨swp t k c, -s, some (rowL (t.getD k [])), swp_ok hk' c2 ok (by have := ok.ss; simpa using this), by rw [swp_en tl hk' c2 hck]; exact c3, ?_, ?_⟩
          · rw [hstep]
            unfold bstep
            simp only [hpc]
            rw [if_neg hck]
          · have e : (swp t k c).map rowL = ((t.map rowL).set k (rowL (t.getD c []))).set c (rowL (t.getD k [])) := by
              unfold swp
              rw [map_set_row, map_set_row]
            rw [e]
            exact st
      case' same =>
        have hck : c = k := by
          simp at hb
          omega
        obtain ⟨t2, s2, x7, o2, hz2, hr2, st⟩ : ∃ t2 s2 x7, BOk B0 n k (t2, s2, b) ∧ en t2 k k ≠ 0 ∧ brun n (rs, 1, 1) (k + 1) = some (inn (t2.getD k []) b k t2 (n - (k + 1)), s2, en t2 k k) ∧
            Sta K F1 (p :: M) [some d, some (.box p), some (.int n), some (.int s2), some (.int b), some (.int k), some (.lst ((picks t k n).map fun (c : Nat) => DV.int (c : Int))), x7, x8, x9, x10, none, none] [(p, t2.map rowL)] σ H7 := by
          refine ⟨t, s, _, ok, by rw [← hck] at c3 ⊢; exact c3, ?_, st⟩
          rw [hstep]
          unfold bstep
          simp only [hpc]
          rw [if_pos hck]
      all_goals
        have tl2 : t2.length = n := o2.len
        have hk2 : k < t2.length := by omega
        have hkr : k < (t2.getD k []).length := by rw [o2.row k hk']; exact hk'
        have hbk := bk3 (B0 := B0) (k := k) (by omega)
        refine y_asg st (ex_ix (ex_var rfl) (ex_var rfl) (.box (j := 0) rfl) (atI_row hk2)) fun σ H11 st => ?_
        refine x_forP (fun m M1 δ1 μ1 => M1 = p :: M ∧ (∃ x9 x10, δ1 = [some d, some (.box p), some (.int n), some (.int s2), some (.int b), some (.int k), some (.lst ((picks t k n).map fun (c : Nat) => DV.int (c : Int))), x7, some (rowL (t2.getD k [])), x9, x10, none, none]) ∧ μ1 = [(p, (inn (t2.getD k []) b k t2 m).map rowL)]) st
          (wx_range2 (m := (k : Int) + 1) (n := (n : Int)) (ax_cons (ex_add (ex_var rfl) ex_int) (ax_cons (ex_var rfl) ax_nil)) ⟨by omega, by omega⟩ ⟨by omega, by omega⟩) ⟨rfl, ⟨_, _, rfl⟩, rfl⟩ ?_ ?_
        · rintro F2 m M1 δ1 μ1 σ H12 eF2 hm ⟨rfl, ⟨x9, x10, rfl⟩, rfl⟩ nw2 st
          have hm' : k + 1 + m < n := by omega
          have hil : (inn (t2.getD k []) b k t2 m).length = n := (inn_len m).trans tl2
          have hir : (inn (t2.getD k []) b k t2 m).getD (k + 1 + m) [] = t2.getD (k + 1 + m) [] := by rw [inn_get m _ (by omega), if_neg (by omega)]
          have hrl := o2.row (k + 1 + m) hm'
          have ci : DV.int ((k : Int) + 1 + (m : Nat)) = DV.int ((k + 1 + m : Nat) : Int) := by rw [Int.natCast_add, Int.natCast_add]; rfl
          refine y_asg (d := .int (en (inn (t2.getD k []) b k t2 m) (k + 1 + m) k)) st (ex_ix (ex_ix (ex_var rfl) (EX.is (ex_var rfl) ci) (.box (j := 0) rfl) (atI_row (by omega))) (ex_var rfl) (.lst _) (atI_int (by rw [hir, hrl]; exact hk'))) fun σ H13 st => ?_
          refine y_setL (j := 0) (d := rowL (elimRow (t2.getD k []) (en (inn (t2.getD k []) b k t2 m) (k + 1 + m) k) b k ((inn (t2.getD k []) b k t2 m).getD (k + 1 + m) []))) st (EX.is (lx_lc1 (wx_zip (ax_cons (ex_ix (ex_var rfl) (EX.is (ex_var rfl) ci) (.box (j := 0) rfl) (atI_row (t := inn (t2.getD k []) b k t2 m) (i := k + 1 + m) (by omega))) (ax_cons (ex_var rfl) ax_nil)) (isL _) (isL _) rfl)
            (fun j => .int (((t2.getD k []).getD k 0 * ((inn (t2.getD k []) b k t2 m).getD (k + 1 + m) []).getD j 0 - en (inn (t2.getD k []) b k t2 m) (k + 1 + m) k * (t2.getD k []).getD j 0).fdiv b)) (by rw [List.length_map, List.length_map, hir]; have h1 : (t2.getD k []).length = n := o2.row k hk'; have h2 : (t2.getD (k + 1 + m) []).length = n := hrl; omega) (by simp) fun j hj => ?_).ex ?_) (ex_var rfl) (EX.is (ex_var rfl) ci) rfl (ixN_of (by simpa using (by omega : k + 1 + m < (inn (t2.getD k []) b k t2 m).length))) fun H14 st => ?_
          · rw [List.length_map, List.length_map] at hj
            have e1 : en (inn (t2.getD k []) b k t2 m) (k + 1 + m) k = (t2.getD (k + 1 + m) []).getD k 0 := by unfold en; rw [hir]
            have c1 : CMulB ((t2.getD k []).getD k 0) (((inn (t2.getD k []) b k t2 m).getD (k + 1 + m) []).getD j 0) := smMul (getD_sm (o2.sm k) k) (by rw [hir]; exact getD_sm (o2.sm (k + 1 + m)) j) (by omega)
            have c2 : CMulB (en (inn (t2.getD k []) b k t2 m) (k + 1 + m) k) ((t2.getD k []).getD j 0) := smMul (by rw [e1]; exact getD_sm (o2.sm (k + 1 + m)) k) (getD_sm (o2.sm k) j) (by omega)
            have g1 := getD_map (r := (inn (t2.getD k []) b k t2 m).getD (k + 1 + m) []) (i := j) (by omega)
            have g2 := getD_map (r := t2.getD k []) (i := j) (by omega)
            exact ex_fdiv (ex_sub (ex_mul (ex_ix (ex_var rfl) (ex_var rfl) (.lst _) (atI_int hkr)) (EX.is (ex_var rfl) g1) c1) (ex_mul (ex_var rfl) (EX.is (ex_var rfl) g2) c2)) (ex_var rfl) o2.nz
          · show DV.lst _ = DV.lst _
            unfold elimRow
            simp [Function.comp_def]
          · refine nxt st nw2 ⟨rfl, ⟨_, _, rfl⟩, ?_⟩
            show [(p, List.set _ _ _)] = _
            rw [map_set_row]
            rfl
        · rintro M1 δ1 μ1 σ H12 ⟨rfl, ⟨x9, x10, rfl⟩, rfl⟩ nw2 st
          rw [show ((n : Int) - ((k : Int) + 1)).toNat = n - (k + 1) by omega] at st
          refine y_asg (d := .int (en t2 k k)) st (ex_ix (ex_var rfl) (ex_var rfl) (.lst _) (atI_int hkr)) fun σ H13 st => ?_
          exact nxt st nw ⟨rfl, _, s2, _, hr2, ⟨_, _, _, _, _, _, rfl⟩, rfl⟩
  · rintro M1 δ1 μ1 σ H5 ⟨rfl, t, s, b, hrun, ⟨x5, x6, x7, x8, x9, x10, rfl⟩, rfl⟩ nw st
    rw [show ((n : Int)).toNat = n by omega] at hrun
    have ok := brun_ok o0 n _ (by omega) hrun
    refine y_end (μ' := [(p, t.map rowL)]) krt st (EX.is (ex_I (ex_var rfl) (ex_var rfl) ?_) ?_) (Ex.refl _) fun _ h => List.mem_cons_of_mem _ h
    · have h1 : s.natAbs ≤ 1 := ok.ss
      exact smMul (A := 2) (B := bk B0 n) (by omega) ok.bs (by have := bk4 (B0 := B0) (k := n) (by omega); omega)
    · show DV.int (s * b) = _
      unfold bar
      rw [hn, hrun]
theorem ok_minor (F : Fun K "_minor" "_minor" s_minor f fd) (T : Txt P K mg base C) : FnOk P w K mg base CX0 2 f fd ["rows", "i", "k"] (spD K rMinor) := by
  refine okD F sc_minor (fun ds r h => by obtain ⟨rs, i, k, rfl, _⟩ := h; rfl) fun cdv A outer s H E hr => ⟨_, (pss_one (ps_ret (pe_lc (own := [("at", 3), ("row", 4)]) (g := gTup K 2 (gCons (gName 3) (gCons (gName 4) gNil))) (by rfl) sc_minor.nd (pi_eK (K := K) (by rfl) T.u_enumerate (pa_cons (pv 0) pa_nil)) (blkOk_by (N := ["rows", "i", "k", "at", "row"]) (sc := defScope s_minor) (own := [("at", 3), ("row", 4)]) (by first | decide +kernel | kernel_rfl)) (fun _ _ _ _ _ => (pg_tup rfl (pgs_cons (pg_name (i := 3) sc_minor.nd rfl (Or.inl rfl)) (pgs_cons (pg_name (i := 4) sc_minor.nd rfl (Or.inl rfl)) pgs_nil)))) (fun _ _ _ _ _ => (pts_one (pt_cmpR op_ne (pv 3) (pv 1) (nomark _)))) (fun _ _ _ _ _ => (pe_op (op_catK (K := K)) (pe_slice (sl_tupK (K := K)) (pv 4) po_none (po_some (pv 2))) (pe_slice (sl_tupK (K := K)) (pv 4) (po_some (pe_op op_add (pv 2) pe_int)) po_none)))))), ?_⟩
  intro F M ds r σ H1 D hR st krt knx
  obtain ⟨rs, i, k, rfl, hl, hw, rfl⟩ := hR
  refine y_end (μ' := []) krt st (EX.is (lx_lcF (wx_enumK (ax_cons (ex_var rfl) ax_nil) (.tup _)) (fun j => rowT (delC (rs.getD j []) k)) (fun j => !decide (j = i)) (by simp; omega) (by simp) (fun j hj => ?_) fun j hj _ => ?_).ex ?_) (Ex.refl _) fun _ h => h
  · exact TX.is (tx_test (ex_neI (ex_var rfl) (ex_var rfl))) (by congr 1; exact decide_eq_decide.mpr (by omega))
  · have hj' : j < rs.length := by simpa using hj
    have e1 : (rs.map rowT).getD j .non = .tup ((rs.getD j []).map .int) := by
      rw [List.getD_eq_getElem?_getD, List.getElem?_map, List.getElem?_eq_getElem hj', List.getD_eq_getElem?_getD, List.getElem?_eq_getElem hj']
      rfl
    have hrl := rows_at hw j hj'
    have e2 : DV.tup ((cutD ((rs.getD j []).map .int) none (some (k : Int))) ++ cutD ((rs.getD j []).map .int) (some ((k : Int) + 1)) none) = rowT (delC (rs.getD j []) k) := by
      rw [cut_take, cut_drop, ← List.map_append]
      rfl
    refine EX.is (ex_catT (ex_slT (EX.is (ex_var rfl) e1) ox_none (ox_some (ex_var rfl))) (ex_slT (EX.is (ex_var rfl) e1) (ox_some (ex_add (ex_var rfl) ex_int)) ox_none) ?_) e2
    rw [cut_take, cut_drop, List.length_map, List.length_map, List.length_take, List.length_drop]
    omega
  · unfold minorM
    simp [Function.comp_def]
theorem ok_init (F : FunI K s_Grid_init f fd) (T : Txt P K mg base C) (c_checked : CalG P w K mg base 4 "_checked" (spD K rChecked) []) : FnOk P w K mg base CX0 6 f fd ["self", "rows", "width"] (spI K C rInit) := by
  refine okI F sc_Grid_init (fun ds fs h => by obtain ⟨d, e, rs, w, rfl, _⟩ := h; rfl) fun cdv A outer s H E hr => ⟨_, (pss_cons (ps_if (pt_not (pt_val (pe_callB (call_isTK (K := K)) (by rfl) T.u_isinstance PyProof.Rows.boot_isinstance (pa_cons (pv 1) (pa_cons (pe_tup (pa_cons (pe_bltn (v := .ty "list") (u := .type "list") (by rfl) T.u_list (by decide +kernel) rfl) (pa_cons (pe_bltn (v := .ty "tuple") (u := .type "tuple") (by rfl) T.u_tuple (by decide +kernel) rfl) pa_nil))) pa_nil))))) (pss_one ps_never) pss_nil)
      (pss_cons (ps_if (pt_cmpR op_isN (pv 2) pe_non (nomark _)) (pss_cons (ps_set (i := 2) sc_Grid_init.nd rfl (Or.inl rfl) pe_int)
      (pss_one (ps_if (PW.pt (pw_and (pt_cmpR op_gt (pe_callB (call_lenK (K := K)) (by rfl) T.u_len (by decide +kernel) (pa_cons (pv 1) pa_nil)) pe_int (nomark _)) (pw_and1 (pt_val (pe_callB (call_isTK (K := K)) (by rfl) T.u_isinstance PyProof.Rows.boot_isinstance (pa_cons (pe_ix (ix_seqK (K := K)) (pv 1) pe_int (fun _ _ => rfl)) (pa_cons (pe_tup (pa_cons (pe_bltn (v := .ty "list") (u := .type "list") (by rfl) T.u_list (by decide +kernel) rfl) (pa_cons (pe_bltn (v := .ty "tuple") (u := .type "tuple") (by rfl) T.u_tuple (by decide +kernel) rfl) pa_nil))) pa_nil))))))) (pss_one (ps_set (i := 2) sc_Grid_init.nd rfl (Or.inl rfl) (pe_callB (call_lenK (K := K)) (by rfl) T.u_len (by decide +kernel) (pa_cons (pe_ix (ix_seqK (K := K)) (pv 1) pe_int (fun _ _ => rfl)) pa_nil)))) pss_nil))) pss_nil)
      (pss_cons (ps_fld (pv 0) (pe_cG c_checked hr (by decide) rfl (pa_cons (pv 1) (pa_cons (pv 2) pa_nil))) rfl)
      (pss_one (ps_fld (pv 0) (pv 2) rfl))))), ?_⟩
  intro F M x dx ds fs σ H1 D hR hx hF st knx
  obtain ⟨d, e, rs, w, rfl, ⟨es, sq, hl, hrow⟩, hlen, hwb, hw, he, rfl⟩ := hR
  have hrs : IsRows d rs := ⟨es, sq, hl, hrow⟩
  obtain ⟨t, ty, kit⟩ := kitLT (K := K) sq
  refine y_skip st (TX.is (tx_not (tx_val (ex_isi2 (ex_var rfl) ty kit))) rfl) fun H2 st => ?_
  rcases he with rfl | ⟨rfl, h0⟩
  case' inl =>
    refine y_skip st (TX.is (tx_test (ex_isN (ex_var rfl))) rfl) fun H3 st => ?_
  case' inr =>
    refine y_if (b := true) st (TX.is (tx_test (ex_isN (ex_var rfl))) rfl) (fun _ H3 st => ?_) (fun h => by cases h)
    refine y_asg st ex_int fun σ H4 st => ?_
    refine y_if (b := decide (0 < rs.length)) st (TX.is (tx_and (b := true) (tx_test (ex_gt (ex_len (ex_var rfl) sq.items) ex_int)) fun hb => ?_) (by simp [hl])) (fun hb H5 st => ?pos) fun hb H5 st => ?zero
    · have h1 : 0 < rs.length := by have := of_decide_eq_true hb; omega
      have q0 := IsRows.at hl hrow h1
      obtain ⟨t0, ty0, kit0⟩ := kitLT (K := K) q0
      refine tx_val (ex_isi2 (ex_ix (ex_var rfl) ex_int sq.items (e := es.getD 0 .non) ?_) ty0 kit0)
      have h2 : 0 < es.length := by omega
      have := atI_nat (xs := es) (i := 0) h2
      rw [List.getD_eq_getElem?_getD, List.getElem?_eq_getElem h2]
      exact this
    case' pos =>
      have h1 : 0 < rs.length := of_decide_eq_true hb
      have q0 := IsRows.at hl hrow h1
      have h2 : 0 < es.length := by omega
      have hw0 : (rs.getD 0 []).length = w := rows_at hw 0 h1
      refine y_asg (d := .int w) st (EX.is (ex_len (ex_ix (ex_var rfl) ex_int sq.items (e := es.getD 0 .non) ?hat) q0.items) ?hlen) fun σ H6 st => ?_
      case hat =>
        have := atI_nat (xs := es) (i := 0) h2
        rw [List.getD_eq_getElem?_getD, List.getElem?_eq_getElem h2]
        exact this
      case hlen =>
        rw [List.length_map, hw0]
    case' zero =>
      have h1 : rs = [] := List.eq_nil_of_length_eq_zero (by have := of_decide_eq_false hb; omega)
      have hw0 := h0 h1
      subst hw0
  all_goals
    refine x_fldI (μ' := []) st .nil hx hF (fun p hp => nomatch hp) (ex_call (ax_cons (ex_var rfl) (ax_cons (ex_var rfl) ax_nil)) ⟨d, rs, _, rfl, hrs, hlen, hw, rfl⟩) (ex_var rfl) T.cl T.n_rows (by simp) rfl fun fv H7 st rf => ?_
    exact x_fldI (μ' := []) st rf hx hF (fun p hp => nomatch hp) (ex_var rfl) (ex_var rfl) T.cl T.n_width (by simp) rfl fun fv H8 st rf => knx _ _ H8 fv st rf
theorem ok_len (F : Fun K "__len__" "Grid.__len__" s_Grid_len f fd) (T : Txt P K mg base C) : FnOk P w K mg base CX0 2 f fd ["self"] (spD K (rLenG C)) := by
  refine okD F sc_Grid_len (fun ds r h => by obtain ⟨rs, w, rfl, _⟩ := h; rfl) fun cdv A outer s H E hr => ⟨_, (pss_one (ps_ret (pe_callB (call_lenK (K := K)) (by rfl) T.u_len (by decide +kernel) (pa_cons (pe_fldK (K := K) (pv 0)) pa_nil)))), ?_⟩
  intro F M ds r σ H1 D hR st krt knx
  obtain ⟨rs, w, rfl, rfl⟩ := hR
  exact y_end (μ' := []) krt st (EX.is (ex_len (ex_fld (ex_var rfl) T.cl T.n_rows rfl) (.tup _)) (by simp)) (Ex.refl _) fun _ h => h
theorem ok_mul (F : Fun K "__mul__" "Grid.__mul__" s_Grid_mul f fd) (T : Txt P K mg base C) (k_Grid : MakG P w K mg base 6 "Grid" C (spI K C rInit) []) (c_dot : CalG P w K mg base 2 "dot" (spD K rDot) []) : FnOk P w K mg base CX0 8 f fd ["self", "other"] (spD K (rMulG C)) := by
  refine okD F sc_Grid_mul (fun ds r h => by obtain ⟨a, b, n, w, A, B, rfl, _⟩ := h; rfl) fun cdv A outer s H E hr => ⟨_, (pss_cons (ps_if (pt_cmpR op_ne (pe_fldK (K := K) (pv 0)) (pe_callB (call_lenK (K := K)) (by rfl) T.u_len (by decide +kernel) (pa_cons (pe_fldK (K := K) (pv 1)) pa_nil)) (nomark _)) (pss_one ps_never) pss_nil)
      (pss_cons (ps_set (i := 2) sc_Grid_mul.nd rfl (Or.inr rfl) (pe_lc (own := [("k", 3)]) (g := gName 3) (tt := tYes) (by rfl) sc_Grid_mul.nd (pi_range1 (by rfl) T.u_range (pa_cons (pe_fldK (K := K) (pv 1)) pa_nil)) (blkOk_by (N := ["self", "other", "columns", "k", "row", "column"]) (sc := defScope s_Grid_mul) (own := [("k", 3)]) (by first | decide +kernel | kernel_rfl)) (fun _ _ _ _ _ => (pg_name (i := 3) sc_Grid_mul.nd rfl (Or.inr rfl))) (fun _ _ _ _ _ => pts_nil) (fun _ _ _ _ _ => (pe_lc (own := [("row", 4)]) (g := gName 4) (tt := tYes) (by rfl) sc_Grid_mul.nd (pi_seqK (K := K) (pe_fldK (K := K) (pv 1))) (blkOk_by (N := ["self", "other", "columns", "k", "row", "column"]) (sc := _) (own := [("row", 4)]) (by first | decide +kernel | kernel_rfl)) (fun _ _ _ _ _ => (pg_name (i := 4) sc_Grid_mul.nd rfl (Or.inl rfl))) (fun _ _ _ _ _ => pts_nil) (fun _ _ _ _ _ => (pe_ix (ix_seqK (K := K)) (pv 4) (pv 3) (fun _ _ => rfl)))))))
      (pss_one (ps_ret (pe_mkG k_Grid hr (by decide) rfl (pa_cons (pe_lc (own := [("row", 4)]) (g := gName 4) (tt := tYes) (by rfl) sc_Grid_mul.nd (pi_seqK (K := K) (pe_fldK (K := K) (pv 0))) (blkOk_by (N := ["self", "other", "columns", "k", "row", "column"]) (sc := defScope s_Grid_mul) (own := [("row", 4)]) (by first | decide +kernel | kernel_rfl)) (fun _ _ _ _ _ => (pg_name (i := 4) sc_Grid_mul.nd rfl (Or.inr rfl))) (fun _ _ _ _ _ => pts_nil) (fun _ _ _ _ _ => (pe_lc (own := [("column", 5)]) (g := gName 5) (tt := tYes) (by rfl) sc_Grid_mul.nd (pi_seqK (K := K) (pv 2)) (blkOk_by (N := ["self", "other", "columns", "k", "row", "column"]) (sc := _) (own := [("column", 5)]) (by first | decide +kernel | kernel_rfl)) (fun _ _ _ _ _ => (pg_name (i := 5) sc_Grid_mul.nd rfl (Or.inl rfl))) (fun _ _ _ _ _ => pts_nil) (fun _ _ _ _ _ => (pe_cG c_dot hr (by decide) rfl (pa_cons (pv 4) (pa_cons (pv 5) pa_nil))))))) (pa_cons (pe_fldK (K := K) (pv 1)) pa_nil))))))), ?_⟩
  intro F M ds r σ H1 D hR st krt knx
  obtain ⟨a, b, n, w, A, B, rfl, rfl, ha, hb, hAB, rfl⟩ := hR
  have f1 : ∀ {δ : G.Env} {μ : Sto} {rs : List (List Int)} {w : Nat} {i : Nat}, δ[i]? = some (some (gridD C rs w)) → EX K (tFld K (tVar i) "rows") δ μ μ (rowsT rs) := fun h => ex_fld (ex_var h) T.cl T.n_rows rfl
  have f2 : ∀ {δ : G.Env} {μ : Sto} {rs : List (List Int)} {w : Nat} {i : Nat}, δ[i]? = some (some (gridD C rs w)) → EX K (tFld K (tVar i) "width") δ μ μ (.int w) := fun h => ex_fld (ex_var h) T.cl T.n_width rfl
  refine y_skip st (TX.is (tx_test (ex_neI (f2 rfl) (ex_len (f1 rfl) (.tup _)))) (by simp)) fun H2 st => ?_
  have hla := ha.len
  have hlb := hb.len
  have hwd := hb.wid
  refine y_asg (d := .lst ((trM b w).map rowL)) st (EX.is (lx_lc1 (wx_range1 (ax_cons (f2 rfl) ax_nil) (by omega) (by omega)) (fun k => rowL ((List.range b.length).map fun i => en b i k)) (by omega) (by simp) fun k hk => ?_).ex (by rw [Int.toNat_natCast]; exact genD)) fun σ H3 st => ?_
  · have hk' : k < w := by omega
    refine EX.is (lx_lc1 (wx_seq (f1 rfl) (.tup _)) (fun i => .int (en b i k)) (by simp; omega) (by simp) fun i hi => ?_).ex (by rw [List.length_map]; exact lstmap)
    rw [List.length_map] at hi
    exact ex_ix (EX.is (ex_var rfl) (getD_rowT hi)) (ex_var rfl) (.tup _) (atI_int (by rw [hb.rowAt hi]; exact hk'))
  refine y_end (μ' := []) krt st (ex_make (dd := []) (ax_cons (EX.is (lx_lc1 (wx_seq (f1 rfl) (.tup _)) (fun i => rowL ((List.range w).map fun j => mulE a b b.length i j)) (by simp; omega) (by simp) fun i hi => ?_).ex ?_) (ax_cons (f2 rfl) ax_nil)) (fun _ => .nil) (initOf (isRowsL (mulM a b w)) (by unfold mulM; rw [genM_len]; omega) (by omega) (fun x hx => genM_row x hx))) (Ex.refl _) fun _ h => h
  · rw [List.length_map] at hi
    have la := ha.rowAt hi
    have lt : (trM b w).length = w := genM_len
    refine EX.is (lx_lc1 (wx_seq (ex_var rfl) (.lst _)) (fun j => .int (mulE a b b.length i j)) (by rw [List.length_map, lt]; omega) (by simp) fun j hj => ?_).ex (by rw [List.length_map, lt]; exact lstmap)
    rw [List.length_map, lt] at hj
    refine EX.is (ex_call (ax_cons (EX.is (ex_var rfl) (getD_rowT hi)) (ax_cons (EX.is (ex_var rfl) (getD_rowL (by rw [lt]; exact hj))) ax_nil)) ⟨_, _, _, _, rfl, isT _, isL _, by omega, ⟨A, B, rows_sm ha.sm i, fun x hx => ?_, hAB⟩, rfl⟩) (by rw [dot_mul la hj])
    rw [show (trM b w).getD j [] = (List.range b.length).map fun i => en b i j from genM_at hj] at hx
    obtain ⟨k, _, rfl⟩ := List.mem_map.mp hx
    exact hb.en k j
  · rw [List.length_map]
    exact genD
theorem ok_trans (F : Fun K "transposed" "Grid.transposed" s_Grid_transposed f fd) (T : Txt P K mg base C) (k_Grid : MakG P w K mg base 6 "Grid" C (spI K C rInit) []) : FnOk P w K mg base CX0 8 f fd ["self"] (spD K (rTrans C)) := by
  refine okD F sc_Grid_transposed (fun ds r h => by obtain ⟨a, w, B, rfl, _⟩ := h; rfl) fun cdv A outer s H E hr => ⟨_, (pss_one (ps_ret (pe_mkG k_Grid hr (by decide) rfl (pa_cons (pe_lc (own := [("k", 1)]) (g := gName 1) (tt := tYes) (by rfl) sc_Grid_transposed.nd (pi_range1 (by rfl) T.u_range (pa_cons (pe_fldK (K := K) (pv 0)) pa_nil)) (blkOk_by (N := ["self", "k", "row"]) (sc := defScope s_Grid_transposed) (own := [("k", 1)]) (by first | decide +kernel | kernel_rfl)) (fun _ _ _ _ _ => (pg_name (i := 1) sc_Grid_transposed.nd rfl (Or.inr rfl))) (fun _ _ _ _ _ => pts_nil) (fun _ _ _ _ _ => (pe_lc (own := [("row", 2)]) (g := gName 2) (tt := tYes) (by rfl) sc_Grid_transposed.nd (pi_seqK (K := K) (pe_fldK (K := K) (pv 0))) (blkOk_by (N := ["self", "k", "row"]) (sc := _) (own := [("row", 2)]) (by first | decide +kernel | kernel_rfl)) (fun _ _ _ _ _ => (pg_name (i := 2) sc_Grid_transposed.nd rfl (Or.inl rfl))) (fun _ _ _ _ _ => pts_nil) (fun _ _ _ _ _ => (pe_ix (ix_seqK (K := K)) (pv 2) (pv 1) (fun _ _ => rfl)))))) (pa_cons (pe_callB (call_lenK (K := K)) (by rfl) T.u_len (by decide +kernel) (pa_cons (pe_fldK (K := K) (pv 0)) pa_nil)) pa_nil))))), ?_⟩
  intro F M ds r σ H1 D hR st krt knx
  obtain ⟨a, w, B, rfl, ha, rfl⟩ := hR
  have f1 : ∀ {δ : G.Env} {μ : Sto} {rs : List (List Int)} {w : Nat} {i : Nat}, δ[i]? = some (some (gridD C rs w)) → EX K (tFld K (tVar i) "rows") δ μ μ (rowsT rs) := fun h => ex_fld (ex_var h) T.cl T.n_rows rfl
  have f2 : ∀ {δ : G.Env} {μ : Sto} {rs : List (List Int)} {w : Nat} {i : Nat}, δ[i]? = some (some (gridD C rs w)) → EX K (tFld K (tVar i) "width") δ μ μ (.int w) := fun h => ex_fld (ex_var h) T.cl T.n_width rfl
  have hla := ha.len
  have hwd := ha.wid
  refine y_end (μ' := []) krt st (ex_make (dd := []) (ax_cons (EX.is (lx_lc1 (wx_range1 (ax_cons (f2 rfl) ax_nil) (by omega) (by omega)) (fun k => rowL ((List.range a.length).map fun i => en a i k)) (by omega) (by simp) fun k hk => ?_).ex ?_) (ax_cons (EX.is (ex_len (f1 rfl) (.tup _)) (by rw [List.length_map])) ax_nil)) (fun _ => .nil) (initOf (w := a.length) (isRowsL (trM a w)) (by unfold trM; rw [genM_len]; omega) (by omega) (fun x hx => genM_row x hx))) (Ex.refl _) fun _ h => h
  · have hk' : k < w := by omega
    refine EX.is (lx_lc1 (wx_seq (f1 rfl) (.tup _)) (fun i => .int (en a i k)) (by simp; omega) (by simp) fun i hi => ?_).ex (by rw [List.length_map]; exact lstmap)
    rw [List.length_map] at hi
    exact ex_ix (EX.is (ex_var rfl) (getD_rowT hi)) (ex_var rfl) (.tup _) (atI_int (by rw [ha.rowAt hi]; exact hk'))
  · rw [Int.toNat_natCast]
    exact genD
theorem ok_issq (F : Fun K "is_square" "Grid.is_square" s_Grid_is_square f fd) (T : Txt P K mg base C) : FnOk P w K mg base CX0 2 f fd ["self"] (spD K (rIsSq C)) := by
  refine okD F sc_Grid_is_square (fun ds r h => by obtain ⟨a, w, rfl, _⟩ := h; rfl) fun cdv A outer s H E hr => ⟨_, (pss_one (ps_ret (pe_cmpR op_eq (pe_callB (call_lenK (K := K)) (by rfl) T.u_len (by decide +kernel) (pa_cons (pe_fldK (K := K) (pv 0)) pa_nil)) (pe_fldK (K := K) (pv 0)) (nomark _)))), ?_⟩
  intro F M ds r σ H1 D hR st krt knx
  obtain ⟨a, w, rfl, rfl⟩ := hR
  refine y_end (μ' := []) krt st (EX.is (ex_eqI (ex_len (ex_fld (ex_var rfl) T.cl T.n_rows rfl) (.tup _)) (ex_fld (ex_var rfl) T.cl T.n_width rfl)) ?_) (Ex.refl _) fun _ h => h
  rw [List.length_map]
  congr 1
  exact decide_eq_decide.mpr (by omega)
theorem ok_detG (F : Fun K "determinant" "Grid.determinant" s_Grid_determinant f fd) (T : Txt P K mg base C) (m_Grid_is_square : MetG P w K mg base 2 C "is_square" (spD K (rIsSq C))) (c_determinant : CalG P w K mg base 42 "_determinant" (spD K rDet) []) : FnOk P w K mg base CX0 44 f fd ["self"] (spD K (rDetG C)) := by
  refine okD F sc_Grid_determinant (fun ds r h => by obtain ⟨a, w, _, rfl, _⟩ := h; rfl) fun cdv A outer s H E hr => ⟨_, (pss_cons (ps_if (pt_not (pt_val (pe_mtG0 m_Grid_is_square hr (by decide) (pv 0)))) (pss_one ps_never) pss_nil)
      (pss_one (ps_ret (pe_cG c_determinant hr (by decide) rfl (pa_cons (pe_fldK (K := K) (pv 0)) pa_nil))))), ?_⟩
  intro F M ds r σ H1 D hR st krt knx
  obtain ⟨a, w, B0, rfl, ha, hB1, hB8, hl, h4, rfl⟩ := hR
  refine y_skip st (TX.is (tx_not (tx_val (ex_meth (ex_var rfl) rfl ax_nil ⟨a, w, rfl, rfl⟩))) (by simp [hl])) fun H2 st => ?_
  exact y_end (μ' := []) krt st (ex_call (ax_cons (ex_fld (ex_var rfl) T.cl T.n_rows rfl) ax_nil) ⟨_, a, B0, rfl, isRowsT a, by omega, fun x hx => by rw [ha.row x hx, hl], ha.sm, hB1, hB8, rfl⟩) (Ex.refl _) fun _ h => h
theorem ok_adj (F : Fun K "adjugate" "Grid.adjugate" s_Grid_adjugate f fd) (T : Txt P K mg base C) (m_Grid_is_square : MetG P w K mg base 2 C "is_square" (spD K (rIsSq C))) (c_determinant : CalG P w K mg base 42 "_determinant" (spD K rDet) []) (c_minor : CalG P w K mg base 2 "_minor" (spD K rMinor) []) (k_Grid : MakG P w K mg base 6 "Grid" C (spI K C rInit) []) : FnOk P w K mg base CX0 44 f fd ["self"] (spD K (rAdj C)) := by
  refine okD F sc_Grid_adjugate (fun ds r h => by obtain ⟨a, w, _, rfl, _⟩ := h; rfl) fun cdv A outer s H E hr => ⟨_, (pss_cons (ps_if (pt_not (pt_val (pe_mtG0 m_Grid_is_square hr (by decide) (pv 0)))) (pss_one ps_never) pss_nil)
      (pss_cons (ps_set (i := 1) sc_Grid_adjugate.nd rfl (Or.inl rfl) (pe_lst pa_nil))
      (pss_cons (ps_for PassesOwn.never rfl (pi_range1 (by rfl) T.u_range (pa_cons (pe_fldK (K := K) (pv 0)) pa_nil)) (pg_name (i := 2) sc_Grid_adjugate.nd rfl (Or.inl rfl)) (pss_cons (ps_set (i := 3) sc_Grid_adjugate.nd rfl (Or.inl rfl) (pe_lst pa_nil))
      (pss_cons (ps_for PassesOwn.never rfl (pi_range1 (by rfl) T.u_range (pa_cons (pe_fldK (K := K) (pv 0)) pa_nil)) (pg_name (i := 4) sc_Grid_adjugate.nd rfl (Or.inl rfl)) (pss_cons (ps_set (i := 5) sc_Grid_adjugate.nd rfl (Or.inl rfl) (pe_cG c_determinant hr (by decide) rfl (pa_cons (pe_cG c_minor hr (by decide) rfl (pa_cons (pe_fldK (K := K) (pv 0)) (pa_cons (pv 4) (pa_cons (pv 2) pa_nil)))) pa_nil)))
      (pss_one (ps_expr (pe_bm PySem.F.plainAttrs_list PySem.F.slot_list_append PySem.F.type_list_append mt_append (pv 3) (pa_cons (pe_ifExp (pt_cmpR op_eq (pe_op op_modN (pe_op op_add (pv 2) (pv 4)) pe_int) pe_int (nomark _)) (pe_un un_neg (pv 5)) (pv 5)) pa_nil))))))
      (pss_one (ps_expr (pe_bm PySem.F.plainAttrs_list PySem.F.slot_list_append PySem.F.type_list_append mt_append (pv 1) (pa_cons (pv 3) pa_nil)))))))
      (pss_one (ps_ret (pe_mkG k_Grid hr (by decide) rfl (pa_cons (pv 1) (pa_cons (pe_fldK (K := K) (pv 0)) pa_nil)))))))), ?_⟩
  intro F M ds r σ H1 D hR st krt knx
  obtain ⟨a, n, B0, rfl, ha, hB1, hB8, hl, h4, rfl⟩ := hR
  have f1 : ∀ {δ : G.Env} {μ : Sto} {rs : List (List Int)} {w : Nat} {i : Nat}, δ[i]? = some (some (gridD C rs w)) → EX K (tFld K (tVar i) "rows") δ μ μ (rowsT rs) := fun h => ex_fld (ex_var h) T.cl T.n_rows rfl
  have f2 : ∀ {δ : G.Env} {μ : Sto} {rs : List (List Int)} {w : Nat} {i : Nat}, δ[i]? = some (some (gridD C rs w)) → EX K (tFld K (tVar i) "width") δ μ μ (.int w) := fun h => ex_fld (ex_var h) T.cl T.n_width rfl
  refine y_skip st (TX.is (tx_not (tx_val (ex_meth (ex_var rfl) rfl ax_nil ⟨a, n, rfl, rfl⟩))) (by simp [hl])) fun H2 st => ?_
  refine y_asgL st (lx_lst ax_nil) fun p σ H2 hp hpF st => ?_
  refine x_forP (fun i M1 δ1 μ1 => M1 = p :: M ∧ (∃ x2 x3 x4 x5, δ1 = [some (gridD C a n), some (.box p), x2, x3, x4, x5]) ∧ μ1 = [(p, (List.range i).map fun i => rowL ((List.range n).map fun k => adjE a i k))]) st (wx_range1 (ax_cons (f2 rfl) ax_nil) (by omega) (by omega)) ⟨rfl, ⟨_, _, _, _, rfl⟩, rfl⟩ ?_ ?_
  · rintro F1 i M1 δ1 μ1 σ H3 eF hi ⟨rfl, ⟨x2, x3, x4, x5, rfl⟩, rfl⟩ nw st
    have hi' : i < n := by omega
    refine y_asgL st (lx_lst ax_nil) fun q σ H4 hq hqF st => ?_
    refine x_forP (fun k M1 δ1 μ1 => M1 = q :: p :: M ∧ (∃ x4 x5, δ1 = [some (gridD C a n), some (.box p), some (.int (i : Nat)), some (.box q), x4, x5]) ∧ μ1 = [(q, (List.range k).map fun k => .int (adjE a i k)), (p, (List.range i).map fun i => rowL ((List.range n).map fun k => adjE a i k))]) st (wx_range1 (ax_cons (f2 rfl) ax_nil) (by omega) (by omega)) ⟨rfl, ⟨_, _, rfl⟩, rfl⟩ ?_ ?_
    · rintro F2 k M1 δ1 μ1 σ H5 eF2 hk ⟨rfl, ⟨x4, x5, rfl⟩, rfl⟩ nw2 st
      have hk' : k < n := by omega
      have h1 := minorM_len (rs := a) (i := k) (k := i) (by omega) (by omega)
      have h2 := minorM_mem (i := k) (k := i) ha.row hi'
      refine y_asg (d := .int (bar (minorM a k i))) st (ex_call (ax_cons (ex_call (ax_cons (f1 rfl) (ax_cons (ex_var rfl) (ax_cons (ex_var rfl) ax_nil))) ⟨a, k, i, rfl, by omega, fun x hx => by rw [ha.row x hx]; omega, rfl⟩) ax_nil) ⟨_, minorM a k i, B0, rfl, isRowsLT _, by omega, fun x hx => by rw [h1, hl]; exact h2 x hx, minorM_sm ha.sm, hB1, hB8, rfl⟩) fun σ H6 st => ?_
      have em : (((i : Int) + (k : Int)).fmod 2 = 1) ↔ (i + k) % 2 = 1 := by
        rw [Int.fmod_eq_emod_of_nonneg _ (by decide)]
        omega
      refine y_app (j := 0) (d := .int (adjE a i k)) st (ex_var rfl) (ex_if (b := decide (((i : Int) + (k : Int)).fmod 2 = 1)) (tx_test (ex_eqI (ex_mod (ex_add (ex_var rfl) (ex_var rfl)) ex_int (by decide)) ex_int)) (fun hb => EX.is (ex_neg (ex_var rfl)) ?_) fun hb => EX.is (ex_var rfl) ?_) rfl (by simp; omega) fun H7 st => ?_
      · unfold adjE
        rw [if_pos (em.mp (of_decide_eq_true hb))]
      · unfold adjE
        rw [if_neg (fun z => of_decide_eq_false hb (em.mpr z))]
      · refine nxt st nw2 ⟨rfl, ⟨_, _, rfl⟩, ?_⟩
        rw [List.range_succ, List.map_append]
        rfl
    · rintro M1 δ1 μ1 σ H5 ⟨rfl, ⟨x4, x5, rfl⟩, rfl⟩ nw2 st
      rw [Int.toNat_natCast] at st
      have st := st.free (i := 3) hq rfl
      refine y_app (j := 0) (d := rowL ((List.range n).map fun k => adjE a i k)) st (ex_var rfl) (EX.is (ex_var rfl) lstmap) rfl (by simp; omega) fun H7 st => ?_
      refine nxt st nw ⟨rfl, ⟨_, _, _, _, rfl⟩, ?_⟩
      rw [List.range_succ, List.map_append]
      rfl
  · rintro M1 δ1 μ1 σ H3 ⟨rfl, ⟨x2, x3, x4, x5, rfl⟩, rfl⟩ nw st
    rw [Int.toNat_natCast] at st
    have st := st.free (i := 1) hp rfl
    exact y_end (μ' := []) krt st (ex_make (dd := []) (ax_cons (EX.is (ex_var rfl) genD) (ax_cons (f2 rfl) ax_nil)) (fun _ => .nil) (initOf (isRowsL (adjM a n)) (by unfold adjM; rw [genM_len]; omega) (by omega) (fun x hx => genM_row x hx))) (Ex.refl _) fun _ h => h
end
end G02
set_option Elab.async false
set_option linter.all false
set_option maxRecDepth 100000
set_option maxHeartbeats 4000000
namespace G02
open PySem PySem.Spec PyProof.Rows L2 Evl G
section
variable {P : Program} {w : World} {K : PySem.W.Frag} {mg : Str → Option Value} {base : Heap} {C : Addr} {f : Addr} {fd : FuncData}
theorem ok_state (F : Fun K "_law_state" "_law_state" s_law_state f fd) (T : Txt P K mg base C) : FnOk P w K mg base CX0 2 f fd ["script"] (spLR K StPre StPost) := by
  refine okLR F sc_law_state (fun ds h => by obtain ⟨ns, rfl, _⟩ := h; rfl) fun cdv A outer s H E hr => ⟨_, (pss_cons (ps_set (i := 1) sc_law_state.nd rfl (Or.inl rfl) pe_int)
      (pss_cons (ps_set (i := 2) sc_law_state.nd rfl (Or.inl rfl) pe_int)
      (pss_cons (ps_for PassesOwn.never rfl (pi_seqK (K := K) (pe_slice (sl_listK (K := K)) (pv 0) po_none (po_some pe_int))) (pg_name (i := 3) sc_law_state.nd rfl (Or.inl rfl)) (pss_cons (ps_set (i := 1) sc_law_state.nd rfl (Or.inl rfl) (pe_op op_add (pe_op op_mulB (pv 1) pe_int) (pe_callB call_abs (by rfl) T.u_abs PyProof.Rows.boot_abs (pa_cons (pv 3) pa_nil))))
      (pss_one (ps_set (i := 2) sc_law_state.nd rfl (Or.inl rfl) (pe_op op_modN (pe_callTy call_int1 (by rfl) T.u_int PyProof.Rows.boot_int (pa_cons (pe_op op_add (pe_op op_mulB (pv 2) pe_int) (pv 3)) pa_nil)) pe_int)))))
      (pss_one (ps_ret (pe_lst (pa_cons (pv 1) (pa_cons (pv 2) pa_nil)))))))), ?_⟩
  intro F M ds σ H1 D hR st krt
  obtain ⟨ns, rfl, hn⟩ := hR
  refine y_asg st ex_int fun σ H2 st => ?_
  refine z_asg st ex_int fun σ H3 st => ?_
  refine x_forP (fun k M1 δ1 μ1 => M1 = M ∧ (∃ (a b : Int) (x3 : Option DV), δ1 = [some (.lst (ns.map .int)), some (.int a), some (.int b), x3]) ∧ μ1 = []) st (wx_seq (LX.is (lx_sl (ex_var rfl) ox_none (ox_some ex_int)) (cut_take ns 63)).ex (.lst _)) ⟨rfl, ⟨0, 1, none, rfl⟩, rfl⟩ ?_ ?_
  · rintro F1 k M1 δ1 μ1 σ H4 eF hk ⟨rfl, ⟨a, b, x3, rfl⟩, rfl⟩ nw st
    have hk' : k < (ns.take 63).length := by simpa using hk
    have e3 : ∀ {δ : G.Env} {μ : Sto}, δ[3]? = some (some (((ns.take 63).map DV.int).getD k .non)) → EX K (tVar 3) δ μ μ (.int ((ns.take 63).getD k 0)) := fun h => EX.is (ex_var h) (getD_map hk')
    refine y_asg st (ex_add (ex_mul (ex_var rfl) ex_int (mulSmR (by omega))) (ex_abs (e3 rfl))) fun σ H5 st => ?_
    refine y_asg st (ex_mod (ex_toI (ex_add (ex_mul (ex_var rfl) ex_int (mulSmR (by omega))) (e3 rfl))) ex_int (by decide)) fun σ H6 st => ?_
    exact nxt st nw ⟨rfl, ⟨_, _, _, rfl⟩, rfl⟩
  · rintro M1 δ1 μ1 σ H4 ⟨rfl, ⟨a, b, x3, rfl⟩, rfl⟩ nw st
    exact x_retL st (lx_lst (ax_cons (ex_var rfl) (ax_cons (ex_var rfl) ax_nil))) fun p H5 hp st' => krt _ p _ H5 _ ⟨(a, b), rfl⟩ (st.freshF hp) st'
theorem ok_take (F : Fun K "_law_take" "_law_take" s_law_take f fd) (T : Txt P K mg base C) : FnOk P w K mg base CX0 42 f fd ["state", "m"] (spS K rTake) := by
  refine okS F sc_law_take (fun s ds s' r h => by obtain ⟨l, m, _, rfl, _⟩ := h; rfl) fun cdv A outer s H E hr => ⟨_, (pss_cons (ps_if (pt_cmpR op_gt (pe_ix (ix_seqK (K := K)) (pv 0) pe_int (fun _ _ => rfl)) pe_int (nomark _)) (pss_cons (ps_set (i := 2) sc_law_take.nd rfl (Or.inl rfl) (pe_op op_modN (pe_callTy call_int1 (by rfl) T.u_int PyProof.Rows.boot_int (pa_cons (pe_ix (ix_seqK (K := K)) (pv 0) pe_int (fun _ _ => rfl)) pa_nil)) (pv 1)))
      (pss_cons (ps_asg (pe_op (op_div T.sr T.tr hr (by decide) ⟨_, _, rfl, rfl, rfl, rfl, rfl⟩) (pe_ix (ix_seqK (K := K)) (pv 0) pe_int (fun _ _ => rfl)) (pv 1)) (pg_sub (pv 0) pe_int set_list))
      (pss_one (ps_ret (pv 2))))) pss_nil)
      (pss_cons (ps_asg (pe_op op_modN (pe_callTy call_int1 (by rfl) T.u_int PyProof.Rows.boot_int (pa_cons (pe_op op_add (pe_op op_mulB (pe_ix (ix_seqK (K := K)) (pv 0) pe_int (fun _ _ => rfl)) pe_int) pe_int) pa_nil)) pe_int) (pg_sub (pv 0) pe_int set_list))
      (pss_one (ps_ret (pe_op op_modN (pe_callTy call_int1 (by rfl) T.u_int PyProof.Rows.boot_int (pa_cons (pe_op (op_div T.sr T.tr hr (by decide) ⟨_, _, rfl, rfl, rfl, rfl, rfl⟩) (pe_ix (ix_seqK (K := K)) (pv 0) pe_int (fun _ _ => rfl)) pe_int) pa_nil)) (pv 1)))))), ?_⟩
  intro F M l s0 ds s1 r σ H1 D hR st krt knx
  obtain ⟨⟨a, b⟩, m, rfl, rfl, hm, rfl, rfl⟩ := hR
  refine y_if (b := decide (0 < a)) st (tx_test (ex_gt (ex_ix (ex_var rfl) ex_int (.box (j := 0) rfl) rfl) ex_int)) (fun hb H2 st => ?_) fun hb H2 st => ?_
  · have ha := of_decide_eq_true hb
    refine z_asg st (ex_mod (ex_toI (ex_ix (ex_var rfl) ex_int (.box (j := 0) rfl) rfl)) (ex_var rfl) (by omega)) fun σ H3 st => ?_
    refine y_setL (D := { D with nx := _ }) (j := 0) (m := 0) st (ex_fdiv (ex_ix (ex_var rfl) ex_int (.box (j := 0) rfl) rfl) (ex_var rfl) (by omega)) (ex_var rfl) ex_int rfl rfl fun H4 st => ?_
    refine y_ret st (ex_var rfl) fun v H5 st rv => ?_
    have e : stD (tkS (a, b) m) = [.int (a.fdiv m), .int b] := by unfold tkS; rw [if_pos ha]; rfl
    have e2 : tkV (a, b) m = a.fmod m := if_pos ha
    rw [e, e2] at krt
    exact krt v H5 M _ _ (fun _ h => h) st rv
  · have ha := of_decide_eq_false hb
    refine y_setL (D := { D with nx := _ }) (j := 0) (m := 1) st (ex_mod (ex_toI (ex_add (ex_mul (ex_ix (ex_var rfl) ex_int (.box (j := 0) rfl) rfl) ex_int (mulSmR (by omega))) ex_int)) ex_int (by decide)) (ex_var rfl) ex_int rfl rfl fun H4 st => ?_
    refine y_ret st (ex_mod (ex_toI (ex_fdiv (ex_ix (ex_var rfl) ex_int (.box (j := 0) rfl) rfl) ex_int (by decide))) (ex_var rfl) (by omega)) fun v H5 st rv => ?_
    have e : stD (tkS (a, b) m) = [.int a, .int ((b * 48271 + 11).fmod 2147483647)] := by unfold tkS; rw [if_neg ha]; rfl
    have e2 : tkV (a, b) m = (((b * 48271 + 11).fmod 2147483647).fdiv 7).fmod m := if_neg ha
    rw [e, e2] at krt
    exact krt v H5 M _ _ (fun _ h => h) st rv
theorem ok_product (F : Fun K "_law_product" "_law_product" s_law_product f fd) (T : Txt P K mg base C) : FnOk P w K mg base CX0 2 f fd ["a", "b", "width"] (spD K rProd) := by
  refine okD F sc_law_product (fun ds r h => by obtain ⟨a, b, w, A, B, rfl, _⟩ := h; rfl) fun cdv A outer s H E hr => ⟨_, (pss_cons (ps_set (i := 3) sc_law_product.nd rfl (Or.inl rfl) (pe_lst pa_nil))
      (pss_cons (ps_for PassesOwn.never rfl (pi_seqK (K := K) (pv 0)) (pg_name (i := 4) sc_law_product.nd rfl (Or.inl rfl)) (pss_cons (ps_set (i := 5) sc_law_product.nd rfl (Or.inl rfl) (pe_lst pa_nil))
      (pss_cons (ps_for PassesOwn.never rfl (pi_range1 (by rfl) T.u_range (pa_cons (pv 2) pa_nil)) (pg_name (i := 6) sc_law_product.nd rfl (Or.inl rfl)) (pss_cons (ps_set (i := 7) sc_law_product.nd rfl (Or.inl rfl) pe_int)
      (pss_cons (ps_for PassesOwn.never rfl (pi_range1 (by rfl) T.u_range (pa_cons (pe_callB (call_lenK (K := K)) (by rfl) T.u_len (by decide +kernel) (pa_cons (pv 1) pa_nil)) pa_nil)) (pg_name (i := 8) sc_law_product.nd rfl (Or.inl rfl)) (pss_one (ps_set (i := 7) sc_law_product.nd rfl (Or.inl rfl) (pe_op op_add (pv 7) (pe_op op_mulB (pe_ix (ix_seqK (K := K)) (pv 4) (pv 8) (fun _ _ => rfl)) (pe_ix (ix_seqK (K := K)) (pe_ix (ix_seqK (K := K)) (pv 1) (pv 8) (fun _ _ => rfl)) (pv 6) (fun _ _ => rfl)))))))
      (pss_one (ps_expr (pe_bm PySem.F.plainAttrs_list PySem.F.slot_list_append PySem.F.type_list_append mt_append (pv 5) (pa_cons (pv 7) pa_nil)))))))
      (pss_one (ps_expr (pe_bm PySem.F.plainAttrs_list PySem.F.slot_list_append PySem.F.type_list_append mt_append (pv 3) (pa_cons (pe_callTy (call_tupK (K := K)) (by rfl) T.u_tuple PyProof.Rows.boot_tuple (pa_cons (pv 5) pa_nil)) pa_nil)))))))
      (pss_one (ps_ret (pe_callTy (call_tupK (K := K)) (by rfl) T.u_tuple PyProof.Rows.boot_tuple (pa_cons (pv 3) pa_nil)))))), ?_⟩
  intro F M ds r σ H1 D hR st krt knx
  obtain ⟨a, b, w, A, B, rfl, ga, gb, hAB, rfl⟩ := hR
  have la := ga.len
  have wa := ga.wid
  have wb := gb.wid
  refine y_asgL st (lx_lst ax_nil) fun p σ H2 hp hpF st => ?_
  refine x_forP (fun i M1 δ1 μ1 => M1 = p :: M ∧ (∃ x4 x5 x6 x7 x8, δ1 = [some (rowsT a), some (rowsT b), some (.int w), some (.box p), x4, x5, x6, x7, x8]) ∧ μ1 = [(p, (List.range i).map fun i => rowT ((List.range w).map fun j => mulE a b b.length i j))]) st (wx_seq (ex_var rfl) (.tup _)) ⟨rfl, ⟨none, none, none, none, none, rfl⟩, rfl⟩ ?_ ?_
  · rintro F1 i M1 δ1 μ1 σ H3 eF hi ⟨rfl, ⟨x4, x5, x6, x7, x8, rfl⟩, rfl⟩ nw st
    have hi' : i < a.length := by simpa using hi
    have hrow := ga.rowAt hi'
    refine y_asgL st (lx_lst ax_nil) fun q σ H4 hq hqF st => ?_
    refine x_forP (fun k M1 δ1 μ1 => M1 = q :: p :: M ∧ (∃ x6 x7 x8, δ1 = [some (rowsT a), some (rowsT b), some (.int w), some (.box p), some (rowT (a.getD i [])), some (.box q), x6, x7, x8]) ∧ μ1 = [(q, (List.range k).map fun j => DV.int (mulE a b b.length i j)), (p, (List.range i).map fun i => rowT ((List.range w).map fun j => mulE a b b.length i j))]) st (wx_range1 (n := (w : Int)) (ax_cons (ex_var rfl) ax_nil) (by omega) (by omega)) ⟨rfl, ⟨x6, x7, x8, by rw [← getD_rowT hi']; rfl⟩, rfl⟩ ?_ ?_
    · rintro F2 k M1 δ1 μ1 σ H5 eF2 hk ⟨rfl, ⟨x6, x7, x8, rfl⟩, rfl⟩ nw2 st
      have hk' : k < w := by omega
      refine y_asg st ex_int fun σ H6 st => ?_
      refine x_forP (fun t M1 δ1 μ1 => M1 = q :: p :: M ∧ (∃ x8, δ1 = [some (rowsT a), some (rowsT b), some (.int w), some (.box p), some (rowT (a.getD i [])), some (.box q), some (.int (k : Nat)), some (.int (mulE a b t i k)), x8]) ∧ μ1 = [(q, (List.range k).map fun j => DV.int (mulE a b b.length i j)), (p, (List.range i).map fun i => rowT ((List.range w).map fun j => mulE a b b.length i j))]) st (wx_range1 (n := (b.length : Int)) (ax_cons (EX.is (ex_len (ex_var rfl) (.tup _)) (by rw [List.length_map])) ax_nil) (by omega) (by omega)) ⟨rfl, ⟨x8, rfl⟩, rfl⟩ ?_ ?_
      · rintro F3 t M1 δ1 μ1 σ H7 eF3 ht ⟨rfl, ⟨x8, rfl⟩, rfl⟩ nw3 st
        have ht' : t < b.length := by omega
        refine y_asg st (ex_add (ex_var rfl) (ex_mul (ex_ix (ex_var rfl) (ex_var rfl) (.tup _) (atI_int (by rw [hrow]; exact ht'))) (ex_ix (ex_ix (ex_var rfl) (ex_var rfl) (.tup _) (atI_rowT ht')) (ex_var rfl) (.tup _) (atI_int (by rw [gb.rowAt ht']; exact hk'))) (smMul (ga.en i t) (gb.en t k) hAB))) fun σ H8 st => ?_
        refine nxt st nw3 ⟨rfl, ⟨some (.int (t : Nat)), ?_⟩, rfl⟩
        have e : mulE a b (t + 1) i k = mulE a b t i k + en a i t * en b t k := rsum_succ
        rw [e]
        rfl
      · rintro M1 δ1 μ1 σ H7 ⟨rfl, ⟨x8, rfl⟩, rfl⟩ nw3 st
        rw [Int.toNat_natCast] at st
        refine y_app (j := 0) st (ex_var rfl) (ex_var rfl) rfl (by simp; omega) fun H8 st => ?_
        refine nxt st nw2 ⟨rfl, ⟨_, _, _, rfl⟩, ?_⟩
        rw [List.range_succ, List.map_append]
        rfl
    · rintro M1 δ1 μ1 σ H5 ⟨rfl, ⟨x6, x7, x8, rfl⟩, rfl⟩ nw2 st
      rw [Int.toNat_natCast] at st
      refine y_app (j := 1) st (ex_var rfl) (EX.is (e' := rowT ((List.range w).map fun j => mulE a b b.length i j)) (ex_tuple (ex_var rfl) (.box (j := 0) rfl)) (by show DV.tup _ = DV.tup _; rw [List.map_map]; rfl)) rfl (by simp; omega) fun H6 st => ?_
      have st := st.free (i := 5) hq rfl
      refine nxt st nw ⟨rfl, ⟨_, _, _, _, _, rfl⟩, ?_⟩
      rw [List.range_succ, List.map_append]
      rfl
  · rintro M1 δ1 μ1 σ H3 ⟨rfl, ⟨x4, x5, x6, x7, x8, rfl⟩, rfl⟩ nw st
    refine y_end krt st (EX.is (ex_tuple (ex_var rfl) (.box (j := 0) rfl)) ?_) (Ex.refl _) fun _ h => List.mem_cons_of_mem _ h
    rw [List.length_map]
    show DV.tup _ = DV.tup _
    unfold prodM genM
    rw [List.map_map]
    rfl
theorem ok_isrows (F : Fun K "_law_is_rows" "_law_is_rows" s_law_is_rows f fd) (T : Txt P K mg base C) (m_Grid_len : MetG P w K mg base 2 C "__len__" (spD K (rLenG C))) : FnOk P w K mg base CX0 4 f fd ["value", "height", "width"] (spD K (rIsRows C)) := by
  refine okD F sc_law_is_rows (fun ds r h => by obtain ⟨rs, w, h, B, rfl, _⟩ := h; rfl) fun cdv A outer s H E hr => ⟨_, (pss_cons (ps_if (PW.pt (pw_or (pt_not (pt_val (pe_callB (call_isK (K := K)) (by rfl) T.u_isinstance PyProof.Rows.boot_isinstance (pa_cons (pv 0) (pa_cons (pe_glob (v := .ref C) rfl T.m_Grid rfl) pa_nil))))) (pw_or (pt_not (pt_val (pe_callB (call_isK (K := K)) (by rfl) T.u_isinstance PyProof.Rows.boot_isinstance (pa_cons (pe_fldK (K := K) (pv 0)) (pa_cons (pe_bltn (v := .ty "tuple") (u := .type "tuple") (by rfl) T.u_tuple (by decide +kernel) rfl) pa_nil))))) (pw_or (pt_cmpR op_ne (pe_fldK (K := K) (pv 0)) (pv 2) (nomark _)) (pw_or1 (pt_cmpR op_ne (pe_callB (lenG m_Grid_len hr (by decide)) (by rfl) T.u_len (by decide +kernel) (pa_cons (pv 0) pa_nil)) (pv 1) (nomark _))))))) (pss_one (ps_ret pe_bl)) pss_nil)
      (pss_cons (ps_for PassesOwn.never rfl (pi_seqK (K := K) (pe_fldK (K := K) (pv 0))) (pg_name (i := 3) sc_law_is_rows.nd rfl (Or.inl rfl)) (pss_cons (ps_if (PW.pt (pw_or (pt_not (pt_val (pe_callB (call_isK (K := K)) (by rfl) T.u_isinstance PyProof.Rows.boot_isinstance (pa_cons (pv 3) (pa_cons (pe_bltn (v := .ty "tuple") (u := .type "tuple") (by rfl) T.u_tuple (by decide +kernel) rfl) pa_nil))))) (pw_or1 (pt_cmpR op_ne (pe_callB (call_lenK (K := K)) (by rfl) T.u_len (by decide +kernel) (pa_cons (pv 3) pa_nil)) (pv 2) (nomark _))))) (pss_one (ps_ret pe_bl)) pss_nil)
      (pss_one (ps_for PassesOwn.never rfl (pi_seqK (K := K) (pv 3)) (pg_name (i := 4) sc_law_is_rows.nd rfl (Or.inl rfl)) (pss_one (ps_if (PW.pt (pw_or (pt_not (pt_val (pe_callB (call_isK (K := K)) (by rfl) T.u_isinstance PyProof.Rows.boot_isinstance (pa_cons (pv 4) (pa_cons (pe_bltn (v := .ty "int") (u := .type "int") (by rfl) T.u_int (by decide +kernel) rfl) pa_nil))))) (pw_or1 (pt_val (pe_callB (call_isK (K := K)) (by rfl) T.u_isinstance PyProof.Rows.boot_isinstance (pa_cons (pv 4) (pa_cons (pe_bltn (v := .ty "bool") (u := .type "bool") (by rfl) T.u_bool (by decide +kernel) rfl) pa_nil))))))) (pss_one (ps_ret pe_bl)) pss_nil))))))
      (pss_one (ps_ret pe_bl)))), ?_⟩
  intro F M ds r σ H1 D hR st krt knx
  obtain ⟨rs, w, h, B, rfl, hl, g, rfl⟩ := hR
  have ll := g.len
  have f1 : ∀ {δ : G.Env} {μ : Sto}, δ[0]? = some (some (gridD C rs w)) → EX K (tFld K (tVar 0) "rows") δ μ μ (rowsT rs) := fun h => ex_fld (ex_var h) T.cl T.n_rows rfl
  have f2 : ∀ {δ : G.Env} {μ : Sto}, δ[0]? = some (some (gridD C rs w)) → EX K (tFld K (tVar 0) "width") δ μ μ (.int w) := fun h => ex_fld (ex_var h) T.cl T.n_width rfl
  refine y_skip st (TX.is (tx_or (tx_not (tx_val (ex_isi (b := true) (ex_var rfl) (.ins T.gGrid.own) (.own C) ?k1))) fun _ => tx_or (tx_not (tx_val (ex_isiB (b := true) (f1 rfl) .tup (by decide +kernel)))) fun _ => tx_or (tx_test (ex_neI (f2 rfl) (ex_var rfl))) fun _ => tx_test (ex_neI (ex_lenOwn (ex_var rfl) (by omega) ⟨rs, w, rfl, rfl⟩) (ex_var rfl))) ?k2) fun H2 st => ?_
  case k1 =>
    unfold PySem.W.kitOne
    simp
  case k2 => simp [hl]
  refine x_forP (fun i M1 δ1 μ1 => M1 = M ∧ (∃ x3 x4, δ1 = [some (gridD C rs w), some (.int h), some (.int w), x3, x4]) ∧ μ1 = []) st (wx_seq (f1 rfl) (.tup _)) ⟨rfl, ⟨none, none, rfl⟩, rfl⟩ ?_ ?_
  · rintro F1 i M1 δ1 μ1 σ H3 eF hi ⟨rfl, ⟨x3, x4, rfl⟩, rfl⟩ nw st
    have hi' : i < rs.length := by simpa using hi
    have e3 : ∀ {δ : G.Env} {μ : Sto}, δ[3]? = some (some ((rs.map rowT).getD i .non)) → EX K (tVar 3) δ μ μ (rowT (rs.getD i [])) := fun h => EX.is (ex_var h) (getD_rowT hi')
    refine y_skip st (TX.is (tx_or (tx_not (tx_val (ex_isiB (b := true) (e3 rfl) .tup (by decide +kernel)))) fun _ => tx_test (ex_neI (ex_len (e3 rfl) (.tup _)) (ex_var rfl))) ?_) fun H4 st => ?_
    · rw [List.length_map, g.rowAt hi']
      simp
    refine x_forP (fun j M2 δ1 μ1 => M2 = M1 ∧ (∃ x4, δ1 = [some (gridD C rs w), some (.int h), some (.int w), some ((rs.map rowT).getD i .non), x4]) ∧ μ1 = []) st (wx_seq (e3 rfl) (.tup _)) ⟨rfl, ⟨x4, rfl⟩, rfl⟩ ?_ ?_
    · rintro F2 j M1 δ1 μ1 σ H5 eF2 hj ⟨rfl, ⟨x4, rfl⟩, rfl⟩ nw2 st
      have hj' : j < (rs.getD i []).length := by simpa using hj
      have e4 : ∀ {δ : G.Env} {μ : Sto}, δ[4]? = some (some (((rs.getD i []).map DV.int).getD j .non)) → EX K (tVar 4) δ μ μ (.int ((rs.getD i []).getD j 0)) := fun h => EX.is (ex_var h) (getD_map hj')
      refine y_skip st (TX.is (tx_or (tx_not (tx_val (ex_isiB (b := true) (e4 rfl) .int (by decide +kernel)))) fun _ => tx_val (ex_isiB (b := false) (e4 rfl) .int (by decide +kernel))) rfl) fun H6 st => ?_
      exact nxt st nw2 ⟨rfl, ⟨_, rfl⟩, rfl⟩
    · rintro M1 δ1 μ1 σ H5 ⟨rfl, ⟨x4, rfl⟩, rfl⟩ nw2 st
      exact nxt st nw ⟨rfl, ⟨_, _, rfl⟩, rfl⟩
  · rintro M1 δ1 μ1 σ H3 ⟨rfl, ⟨x3, x4, rfl⟩, rfl⟩ nw st
    exact y_end (μ' := []) krt st ex_bl (Ex.refl _) fun _ h => h
theorem ok_isuni (F : Fun K "is_unimodular" "Grid.is_unimodular" s_Grid_is_unimodular f fd) (T : Txt P K mg base C) (m_Grid_is_square : MetG P w K mg base 2 C "is_square" (spD K (rIsSq C))) (c_determinant : CalG P w K mg base 42 "_determinant" (spD K rDet) []) : FnOk P w K mg base CX0 44 f fd ["self"] (spD K (rUnim C)) := by
  refine okD F sc_Grid_is_unimodular (fun ds r h => by obtain ⟨a, w, _, rfl, _⟩ := h; rfl) fun cdv A outer s H E hr => ⟨_, (pss_one (ps_ret (pe_and (pe_mtG0 m_Grid_is_square hr (by decide) (pv 0)) (pe_one (pe_cmpR op_eq (pe_callB call_abs (by rfl) T.u_abs PyProof.Rows.boot_abs (pa_cons (pe_cG c_determinant hr (by decide) rfl (pa_cons (pe_fldK (K := K) (pv 0)) pa_nil)) pa_nil)) pe_int (nomark _)))))), ?_⟩
  intro F M ds r σ H1 D hR st krt knx
  obtain ⟨a, w, B0, rfl, hrow, hB1, hB8, hg, rfl⟩ := hR
  have f1 : ∀ {δ : G.Env} {μ : Sto}, δ[0]? = some (some (gridD C a w)) → EX K (tFld K (tVar 0) "rows") δ μ μ (rowsT a) := fun h => ex_fld (ex_var h) T.cl T.n_rows rfl
  refine y_end (μ' := []) krt st (EX.is (ex_andV (ex_meth (ex_var rfl) rfl ax_nil ⟨_, _, rfl, rfl⟩) fun h => ex_eqI (ex_abs (ex_call (ax_cons (f1 rfl) ax_nil) ⟨_, a, B0, rfl, isRowsT a, ?_, fun x hx => ?_, fun x hx => ?_, hB1, hB8, rfl⟩)) ex_int) ?_) (Ex.refl _) fun _ h => h
  · have := of_decide_eq_true h
    have := (hg this).2
    omega
  · rw [hrow x hx, of_decide_eq_true h]
  · exact (hg (of_decide_eq_true h)).1.sm x hx
  · congr 2
    refine decide_eq_decide.mpr ?_
    split <;> omega
end
end G02
set_option Elab.async false
set_option linter.all false
set_option maxRecDepth 100000
set_option maxHeartbeats 4000000
namespace G02
open PySem PySem.Spec PyProof.Rows L2 Evl G
structure TxtM (P : Program) (K : PySem.W.Frag) (mg : Str → Option Value) (R : Addr) : Prop where
  m_M : mg "Malformed" = some (.ref R)
  q : PySem.W.excIn K R [.type "ValueError", .type "Exception", .type "BaseException", .type "object"] "ValueError.__new__" = true
  kp : PySem.W.keepIn K (.ref R) = true
  b : PySem.W.subIn K (.ref R) (.type "BaseException") = some true
  t : PySem.W.typeIn K (.ref R) = some (.type "type")
  ex : PySem.W.exmOne K (.ref R) (.ref R) = some true
def notSq (C : Addr) : List DV → Prop := fun ds => ∃ a w, ds = [gridD C a w] ∧ a.length ≠ w
section
variable {P : Program} {w : World} {K : PySem.W.Frag} {mg : Str → Option Value} {base : Heap} {C : Addr} {f : Addr} {fd : FuncData}
theorem okM {x qual : Str} {st : Stmt} {N ps : List Str} {k : Nat} {R : Addr} {Pre : List DV → Prop} (Fn : Fun K x qual st f fd) (S : FnScope N ps (defScope st)) (len : ∀ ds, Pre ds → ds.length = ps.length)
    (body : ∀ (cdv : Value) (A : Around) (outer : List PySem.Env) (s : Shared) (H : Hp) (E : XK), Room k (A.deeper (envOfC qual (defScope st) s.heap.objs.size f cdv)) →
      ∃ t, PSs (cxOf (L2.CX P w) P w K mg base N qual (defScope st) f cdv A outer s H E) (defBody st) t ∧ ∀ F M ds σ D, Pre ds → Sta K F M (startD N.length ds) [] σ H →
        (∀ H', Ex F H' → E (.ref R) none H') → t D σ H) : FnOk P w K mg base (L2.CX P w) (k + 1) f fd ps (spM K R Pre) := by
  refine Fn.okX S (fun vs H Q E ⟨M, ds, _, h1, h2, _⟩ => by rw [h1.length]; exact len _ h2) fun cdv A outer s H vs Q E hr ⟨M, ds, al, ra, hR, kq⟩ => ?_
  obtain ⟨t, h1, h2⟩ := body cdv A outer s H E hr
  exact ⟨t, h1, h2 H M ds _ _ hR (sta_start al ra) kq⟩
theorem ok_detM {R : Addr} (F : Fun K "determinant" "Grid.determinant" s_Grid_determinant f fd) (T : Txt P K mg base C) (TM : TxtM P K mg R) (m_Grid_is_square : MetG P w K mg base 2 C "is_square" (spD K (rIsSq C))) (c_determinant : CalG P w K mg base 42 "_determinant" (spD K rDet) []) : FnOk P w K mg base (L2.CX P w) 44 f fd ["self"] (spM K R (notSq C)) := by
  refine okM F sc_Grid_determinant (fun ds h => by obtain ⟨a, w, rfl, _⟩ := h; rfl) fun cdv A outer s H E hr => ⟨_, (pss_cons (ps_if (pt_not (pt_val (pe_mtG0 m_Grid_is_square hr (by decide) (pv 0)))) (pss_one (ps_raise rfl (takes_of rfl rfl rfl rfl) (pmk_own PySem.F.excBase_ValueError TM.q TM.m_M TM.kp (raises_own TM.b TM.t) (by exact rfl)))) pss_nil)
      (pss_one (ps_ret (pe_cG c_determinant hr (by decide) rfl (pa_cons (pe_fldK (K := K) (pv 0)) pa_nil))))), ?_⟩
  intro F M ds σ D hR st kq
  obtain ⟨a, w, rfl, hn⟩ := hR
  refine y_if (b := true) st (TX.is (tx_not (tx_val (ex_meth (ex_var rfl) rfl ax_nil ⟨a, w, rfl, rfl⟩))) (by rw [decide_eq_false hn]; rfl)) (fun _ H2 st => ?_) (fun h => by cases h)
  exact kq H2 st.fr
theorem ok_adjM {R : Addr} (F : Fun K "adjugate" "Grid.adjugate" s_Grid_adjugate f fd) (T : Txt P K mg base C) (TM : TxtM P K mg R) (m_Grid_is_square : MetG P w K mg base 2 C "is_square" (spD K (rIsSq C))) (c_determinant : CalG P w K mg base 42 "_determinant" (spD K rDet) []) (c_minor : CalG P w K mg base 2 "_minor" (spD K rMinor) []) (k_Grid : MakG P w K mg base 6 "Grid" C (spI K C rInit) []) : FnOk P w K mg base (L2.CX P w) 44 f fd ["self"] (spM K R (notSq C)) := by
  refine okM F sc_Grid_adjugate (fun ds h => by obtain ⟨a, w, rfl, _⟩ := h; rfl) fun cdv A outer s H E hr => ⟨_, (pss_cons (ps_if (pt_not (pt_val (pe_mtG0 m_Grid_is_square hr (by decide) (pv 0)))) (pss_one (ps_raise rfl (takes_of rfl rfl rfl rfl) (pmk_own PySem.F.excBase_ValueError TM.q TM.m_M TM.kp (raises_own TM.b TM.t) (by exact rfl)))) pss_nil)
      (pss_cons (ps_set (i := 1) sc_Grid_adjugate.nd rfl (Or.inl rfl) (pe_lst pa_nil))
      (pss_cons (ps_for (passes_of rfl) rfl (pi_range1 (by rfl) T.u_range (pa_cons (pe_fldK (K := K) (pv 0)) pa_nil)) (pg_name (i := 2) sc_Grid_adjugate.nd rfl (Or.inl rfl)) (pss_cons (ps_set (i := 3) sc_Grid_adjugate.nd rfl (Or.inl rfl) (pe_lst pa_nil))
      (pss_cons (ps_for (passes_of rfl) rfl (pi_range1 (by rfl) T.u_range (pa_cons (pe_fldK (K := K) (pv 0)) pa_nil)) (pg_name (i := 4) sc_Grid_adjugate.nd rfl (Or.inl rfl)) (pss_cons (ps_set (i := 5) sc_Grid_adjugate.nd rfl (Or.inl rfl) (pe_cG c_determinant hr (by decide) rfl (pa_cons (pe_cG c_minor hr (by decide) rfl (pa_cons (pe_fldK (K := K) (pv 0)) (pa_cons (pv 4) (pa_cons (pv 2) pa_nil)))) pa_nil)))
      (pss_one (ps_expr (pe_bm PySem.F.plainAttrs_list PySem.F.slot_list_append PySem.F.type_list_append mt_append (pv 3) (pa_cons (pe_ifExp (pt_cmpR op_eq (pe_op op_modN (pe_op op_add (pv 2) (pv 4)) pe_int) pe_int (nomark _)) (pe_un un_neg (pv 5)) (pv 5)) pa_nil))))))
      (pss_one (ps_expr (pe_bm PySem.F.plainAttrs_list PySem.F.slot_list_append PySem.F.type_list_append mt_append (pv 1) (pa_cons (pv 3) pa_nil)))))))
      (pss_one (ps_ret (pe_mkG k_Grid hr (by decide) rfl (pa_cons (pv 1) (pa_cons (pe_fldK (K := K) (pv 0)) pa_nil)))))))), ?_⟩
  intro F M ds σ D hR st kq
  obtain ⟨a, w, rfl, hn⟩ := hR
  refine y_if (b := true) st (TX.is (tx_not (tx_val (ex_meth (ex_var rfl) rfl ax_nil ⟨a, w, rfl, rfl⟩))) (by rw [decide_eq_false hn]; rfl)) (fun _ H2 st => ?_) (fun h => by cases h)
  exact kq H2 st.fr
end
end G02
set_option Elab.async false
set_option linter.all false
set_option maxRecDepth 100000
set_option maxHeartbeats 4000000
namespace G02
open PySem PySem.Spec PyProof.Rows L2 Evl G
theorem drop_raise {K : PySem.W.Frag} {F H : Hp} {M : List Addr} {δ : G.Env} {μ : Sto} {σ : L2.St} {C R : Addr} {i : Nat} {m : Str} {Pre : List DV → Prop} {W : L2.WX} {fs : List (Str × DV)} {D : L2.Ends} (st : Sta K F M δ μ σ H) (ha : δ[i]? = some (some (.ins C fs))) (hn : fs.lookup m = none) (hp : Pre [.ins C fs]) (k : ∀ H', Sta K F M δ μ σ H' → W (.ref R) none σ H') :
    tDrop (tMeS C m (spM K R Pre) (WE W) (tVar i) tNil) D σ H := by
  have z : EX K (tVar i) δ μ μ (.ins C fs) := ex_var ha
  refine z F M σ H st (fun x H1 => ∃ a dx fs, x = .ref a ∧ H1 a = some (.ins C dx fs) ∧ fs.lookup m = none ∧ tNil σ H1 fun vs H2 => spM K R Pre (x :: vs) H2 (fun _ H' => D.nx σ H') (WE W σ)) fun v H2 e2 s2 r2 => ?_
  cases r2 with
  | @ins p _ dx vs _ h1 h2 => exact ⟨p, dx, vs, rfl, hid_sub _ _ h1, h2.lookN hn, M, [_], s2.al, .cons (.ins h1 h2) .nil, hp, fun H3 ex => k H3 (s2.mono ex)⟩
def rRefd (C : Addr) : List DV → DV → Prop := fun ds r => ∃ a w, ds = [gridD C a w] ∧ (∀ x ∈ a, x.length = w) ∧ a.length ≠ w ∧ r = .bl true
section
variable {P : Program} {w : World} {K : PySem.W.Frag} {mg : Str → Option Value} {base : Heap} {C : Addr} {f : Addr} {fd : FuncData}
theorem ok_refused {R : Addr} (F : Fun K "_law_refused" "_law_refused" s_law_refused f fd) (T : Txt P K mg base C) (TM : TxtM P K mg R) (m_det : MetX P w K mg base 44 C "determinant" (spM K R (notSq C))) (m_adj : MetX P w K mg base 44 C "adjugate" (spM K R (notSq C))) (m_Grid_is_unimodular : MetG P w K mg base 44 C "is_unimodular" (spD K (rUnim C))) : FnOk P w K mg base CX0 48 f fd ["grid"] (spD K (rRefd C)) := by
  refine okD F sc_law_refused (fun ds r h => by obtain ⟨a, w, rfl, _⟩ := h; rfl) fun cdv A outer s H E hr => ⟨_, pss_cons (ps_set (i := 1) sc_law_refused.nd rfl (Or.inl rfl) pe_int)
      (pss_cons (ps_try_only (Wout := fun _ _ _ _ => False) rfl rfl ⟨rfl, by decide, Or.inl TM.m_M⟩ takes0
        (fun W pn xe tk _ => pss_one (ps_expr (pe_mtX0 m_det hr (by decide) tk (pv 0))))
        (fun _ _ _ _ _ _ _ => pss_one (ps_set (i := 1) sc_law_refused.nd rfl (Or.inl rfl) (pe_op op_add (pv 1) pe_int))))
      (pss_cons (ps_try_only (Wout := fun _ _ _ _ => False) rfl rfl ⟨rfl, by decide, Or.inl TM.m_M⟩ takes0
        (fun W pn xe tk _ => pss_one (ps_expr (pe_mtX0 m_adj hr (by decide) tk (pv 0))))
        (fun _ _ _ _ _ _ _ => pss_one (ps_set (i := 1) sc_law_refused.nd rfl (Or.inl rfl) (pe_op op_add (pv 1) pe_int))))
      (pss_one (ps_ret (pe_and (pe_cmpR op_eq (pv 1) pe_int (nomark _)) (pe_one (pe_cmpR op_is_bl (pe_mtG0 m_Grid_is_unimodular hr (by decide) (pv 0)) pe_bl (nomark _)))))))), ?_⟩
  intro F M ds r σ H1 D hR st krt knx
  obtain ⟨a, w, rfl, hrow, hn, rfl⟩ := hR
  refine z_asg st ex_int fun σ H2 st => ?_
  refine drop_raise (C := C) (R := R) st rfl rfl ⟨a, w, rfl, hn⟩ fun H3 st => ⟨true, TM.ex, fun _ e he => ?_, fun z => by cases z⟩
  refine y_asg st (ex_add (ex_var rfl) ex_int) fun σ H4 st => ?_
  refine drop_raise (C := C) (R := R) st rfl rfl ⟨a, w, rfl, hn⟩ fun H5 st => ⟨true, TM.ex, fun _ e he => ?_, fun z => by cases z⟩
  refine y_asg st (ex_add (ex_var rfl) ex_int) fun σ H6 st => ?_
  refine y_end (μ' := []) krt st (EX.is (ex_andV (ex_eqI (ex_var rfl) ex_int) fun _ => ex_isBl (ex_meth (ex_var rfl) rfl ax_nil ⟨a, w, 1, rfl, hrow, by omega, by omega, fun z => absurd z hn, rfl⟩) ex_bl) ?_) (Ex.refl _) fun _ h => h
  rw [decide_eq_false hn]
  rfl
theorem ok_cell (F : Fun K "_law_cell" "_law_cell" s_law_cell f fd) (T : Txt P K mg base C) : FnOk P w K mg base CX0 2 f fd ["script", "k"] (spD K fun ds r => ∃ (ns : List Int), ds = [.lst (ns.map .int), .int 0] ∧ r = .int (ns.getD 0 0)) := by
  refine okD F sc_law_cell (fun ds r h => by obtain ⟨ns, rfl, _⟩ := h; rfl) fun cdv A outer s H E hr => ⟨_, (pss_cons (ps_if (pt_cmpR op_lt (pv 1) (pe_callB (call_lenK (K := K)) (by rfl) T.u_len (by decide +kernel) (pa_cons (pv 0) pa_nil)) (nomark _)) (pss_one (ps_ret (pe_ix (ix_seqK (K := K)) (pv 0) (pv 1) (fun _ _ => rfl)))) pss_nil)
      (pss_one (ps_ret pe_int))), ?_⟩
  intro F M ds r σ H1 D hR st krt knx
  obtain ⟨ns, rfl, rfl⟩ := hR
  refine y_if (b := decide ((0 : Int) < (ns.length : Nat))) st (tx_test (ex_lt (ex_var rfl) (EX.is (ex_len (ex_var rfl) (.lst _)) (by rw [List.length_map])))) (fun hb H2 st => ?_) fun hb H2 st => ?_
  · have h0 : 0 < ns.length := by have := of_decide_eq_true hb; omega
    exact y_end (μ' := []) krt st (ex_ix (ex_var rfl) (ex_var rfl) (.lst _) (atI_int (i := 0) h0)) (Ex.refl _) fun _ h => h
  · have h0 : ns = [] := List.eq_nil_of_length_eq_zero (by have := of_decide_eq_false hb; omega)
    subst h0
    exact y_end (μ' := []) krt st ex_int (Ex.refl _) fun _ h => h
end
end G02
set_option Elab.async false
set_option linter.all false
set_option maxRecDepth 100000
namespace G
open PySem PySem.Spec PyProof.Rows L2 Evl
def rSlE (K : PySem.W.Frag) : V → Option Int → Option Int → Hp → VK → Prop := fun x lo hi H Q => rSlL K x lo hi H Q ∨ rSlA K x lo hi H Q
theorem sl_eitherK {X : Cx} {K : PySem.W.Frag} (h : X.K = K := by rfl) : SlR X (rSlE K) := SlR.or (sl_listK h) (sl_tupK h)
section
variable {K : PySem.W.Frag} {δ : Env} {μ μ' : Sto} {te : TE} {d : DV} {ds : List DV}
/-- x[lo:hi], x a list or a tuple -/
theorem ex_slE {tl th : TO} {lo hi : Option Int} (h : EX K te δ μ μ' d) (sq : Seq d ds) (h1 : OX K tl δ μ' lo) (h2 : OX K th δ μ' hi) : ∃ e, Seq e (cutD ds lo hi) ∧ EX K (tSl (rSlE K) te tl th) δ μ μ' e := by
  cases sq with
  | lst =>
    refine ⟨_, .lst _, fun F M σ H s Q q => ?_⟩
    refine h F M σ H s _ fun v H1 e1 s1 r1 => h1 F M σ H1 s1 _ fun H2 e2 s2 => h2 F M σ H2 s2 _ fun H3 e3 s3 => ?_
    cases r1 with
    | lst g1 g2 =>
      refine .inl ⟨_, _, rfl, ex_l ((e2.trans e3).trans hid_sub) g1, fun p hp => ?_⟩
      have e13 := (e1.trans e2).trans e3
      have hpM := s3.fresh hp
      have z := (s3.newL hp ((g2.mono (e2.trans e3)).cut lo hi)).still hpM
      exact q _ _ (e13.trans (new_ex s3 hp)) z.1 z.2
  | tup =>
    refine ⟨_, .tup _, fun F M σ H s Q q => ?_⟩
    refine h F M σ H s _ fun v H1 e1 s1 r1 => h1 F M σ H1 s1 _ fun H2 e2 s2 => h2 F M σ H2 s2 _ fun H3 e3 s3 => ?_
    cases r1 with
    | @tup a xs _ g1 g2 =>
      have e13 := (e1.trans e2).trans e3
      have g3 := g2.mono (e2.trans e3)
      refine .inr ⟨_, _, rfl, ex_t ((e2.trans e3).trans hid_sub) g1, fun hw => ?_, fun _ p hp => ?_⟩
      · have hc : cutD ds lo hi = ds := by
          unfold cutD
          rw [← g2.length, hw.1, hw.2, List.drop_zero, Nat.sub_zero, g2.length, List.take_length]
        refine q _ H3 e13 s3 ?_
        rw [hc]
        exact .tup (ex_t (e2.trans e3) g1) g3
      · exact q _ _ (e13.trans (new_ex s3 hp)) (s3.mono (Ex.new hp)) (.tup (st_of (hid_get (s3.fresh hp) upd_same)) ((g3.cut lo hi).mono (new_ex s3 hp)))
end
end G
set_option Elab.async false
set_option linter.all false
set_option maxRecDepth 100000
set_option maxHeartbeats 2000000
namespace G
open PySem PySem.Spec PyProof.Rows L2 Evl
def sg (k : Nat) : Int := 1 - 2 * ((k : Int).fmod 2)
theorem sg_bound (k : Nat) : (sg k).natAbs ≤ 1 := by
  unfold sg
  have h1 := Int.fmod_nonneg_of_pos (k : Int) (b := 2) (by decide)
  have h2 := Int.fmod_lt_of_pos (k : Int) (b := 2) (by decide)
  omega
/-- the determinant by the law, from no rows on -/
def detZ : Nat → List (List Int) → Int
  | 0, _ => 1
  | n + 1, rs => rsum (n + 1) fun k => if en rs 0 k = 0 then 0 else sg k * en rs 0 k * detZ n (restR rs k)
def rLDetZ (n : Nat) : List DV → DV → Prop := fun ds r => ∃ (d : DV) (rs : List (List Int)) (B : Nat), ds = [d] ∧ Seq d (rs.map rowT) ∧ rs.length = n ∧ (∀ x ∈ rs, x.length = n) ∧ (∀ x ∈ rs, Sm B x) ∧ B ≤ 8000000 ∧ n ≤ 4 ∧ r = .int (detZ n rs)
def rLDetZA : List DV → DV → Prop := fun ds r => ∃ n, n ≤ 4 ∧ rLDetZ n ds r
theorem detZ_sm {B : Nat} : ∀ (n : Nat) (rs : List (List Int)), n ≤ 4 → (∀ x ∈ rs, Sm B x) → (detZ n rs).natAbs < 2 ^ ((B + 8) * n + 1)
  | 0, rs, _, _ => by show (1 : Int).natAbs < _; exact Nat.one_lt_two_pow (by omega)
  | n + 1, rs, hn, h => by
    have key := sum_lt (f := fun k => if en rs 0 k = 0 then 0 else sg k * en rs 0 k * detZ n (restR rs k)) (B := B + ((B + 8) * n + 1)) (n + 1) (fun k _ => by
      show (if en rs 0 k = 0 then (0 : Int) else _).natAbs < _
      split
      · exact Nat.pow_pos (by omega)
      · have q : (en rs 0 k).natAbs < 2 ^ B := getD_sm (rows_sm h 0) k
        have h1 : (sg k * en rs 0 k).natAbs < 2 ^ B := by
          rw [Int.natAbs_mul]
          have : (sg k).natAbs * (en rs 0 k).natAbs ≤ 1 * (en rs 0 k).natAbs := Nat.mul_le_mul_right _ (sg_bound k)
          omega
        exact natAbs_mul_lt h1 (detZ_sm n _ (by omega) (restR_sm h))) (by omega)
    have e : 2 ^ ((B + 8) * (n + 1) + 1) = 256 * 2 ^ (B + ((B + 8) * n + 1)) := by
      rw [show (B + 8) * (n + 1) + 1 = 8 + (B + ((B + 8) * n + 1)) by rw [Nat.mul_add]; omega, Nat.pow_add]
    have p : 0 < 2 ^ (B + ((B + 8) * n + 1)) := Nat.pow_pos (by omega)
    have q : (n + 1) * 2 ^ (B + ((B + 8) * n + 1)) ≤ 5 * 2 ^ (B + ((B + 8) * n + 1)) := Nat.mul_le_mul_right _ (by omega)
    show (rsum (n + 1) _).natAbs < _
    unfold rsum
    omega
end G
set_option Elab.async false
set_option linter.all false
set_option maxRecDepth 100000
set_option maxHeartbeats 4000000
namespace G02
open PySem PySem.Spec PyProof.Rows L2 Evl G
section
variable {P : Program} {w : World} {K : PySem.W.Frag} {mg : Str → Option Value} {base : Heap} {C : Addr} {f : Addr} {fd : FuncData}
theorem ok_ldet0 (F : Fun K "_law_determinant" "_law_determinant" s_law_determinant f fd) (T : Txt P K mg base C) (mgf : mg "_law_determinant" = some (.ref f)) (kp : PySem.W.keepIn K (.ref f) = true) (bd : Binds K fd ["rows"] []) : FnOk P w K mg base CX0 2 f fd ["rows"] (spD K (rLDetZ 0)) := by
  have c_law_determinant : CalG P w K mg base 0 "_law_determinant" (fun _ _ _ _ => False) [] := ⟨f, fd, ["rows"], [], ⟨fun _ _ _ _ h => h.elim, fun _ _ _ _ _ _ _ _ _ _ _ _ _ h => h.elim⟩, mgf, kp, bd, .nil⟩
  refine okD F sc_law_determinant (fun ds r h => by obtain ⟨d, rs, B, rfl, _⟩ := h; rfl) fun cdv A outer s H E hr => ⟨_, (pss_cons (ps_if (pt_cmpR op_eq (pe_callB (call_lenK (K := K)) (by rfl) T.u_len (by decide +kernel) (pa_cons (pv 0) pa_nil)) pe_int (nomark _)) (pss_one (ps_ret pe_int)) pss_nil)
      (pss_cons (ps_set (i := 1) sc_law_determinant.nd rfl (Or.inl rfl) pe_int)
      (pss_cons (ps_for PassesOwn.never rfl (pi_range1 (by rfl) T.u_range (pa_cons (pe_callB (call_lenK (K := K)) (by rfl) T.u_len (by decide +kernel) (pa_cons (pv 0) pa_nil)) pa_nil)) (pg_name (i := 2) sc_law_determinant.nd rfl (Or.inr rfl)) (pss_one (ps_if (pt_cmpR op_ne (pe_ix (ix_seqK (K := K)) (pe_ix (ix_seqK (K := K)) (pv 0) pe_int (fun _ _ => rfl)) (pv 2) (fun _ _ => rfl)) pe_int (nomark _)) (pss_cons (ps_setLc (i := 3) (own := [("row", 4)]) (g := gName 4) (tt := tYes) (by rfl) sc_law_determinant.nd rfl rfl (sw_true rfl rfl rfl (by decide +kernel)) (pi_seqK (K := K) (pe_slice (sl_eitherK (K := K)) (pv 0) (po_some pe_int) po_none)) (blkOk_by (N := ["rows", "total", "k", "minor", "row"]) (sc := defScope s_law_determinant) (own := [("row", 4)]) (by first | decide +kernel | kernel_rfl)) (fun _ _ _ _ _ => (pg_name (i := 4) sc_law_determinant.nd rfl (Or.inl rfl))) (fun _ _ _ _ _ => pts_nil) (fun _ _ _ _ _ => (pe_op (op_catK (K := K)) (pe_slice (sl_tupK (K := K)) (pv 4) po_none (po_some (pv 2))) (pe_slice (sl_tupK (K := K)) (pv 4) (po_some (pe_op op_add (pv 2) pe_int)) po_none))))
      (pss_one (ps_set (i := 1) sc_law_determinant.nd rfl (Or.inl rfl) (pe_op op_add (pv 1) (pe_op op_mulB (pe_op op_mulB (pe_op op_sub pe_int (pe_op op_mulB pe_int (pe_op op_modN (pv 2) pe_int))) (pe_ix (ix_seqK (K := K)) (pe_ix (ix_seqK (K := K)) (pv 0) pe_int (fun _ _ => rfl)) (pv 2) (fun _ _ => rfl))) (pe_cG c_law_determinant hr (by decide) rfl (pa_cons (pv 3) pa_nil))))))) pss_nil)))
      (pss_one (ps_ret (pv 1)))))), ?_⟩
  intro F M ds r σ H1 D hR st krt knx
  obtain ⟨d, rs, B, rfl, sq, hl, hrow, hsm, hB, hn, rfl⟩ := hR
  refine y_if (b := true) st (TX.is (tx_test (ex_eqI (ex_len (ex_var rfl) sq.items) ex_int)) (by rw [List.length_map, hl]; rfl)) (fun hb H2 st => ?_) (fun h => by cases h)
  exact y_end (μ' := []) krt st ex_int (Ex.refl _) fun _ h => h
theorem ok_ldetS {n k : Nat} (F : Fun K "_law_determinant" "_law_determinant" s_law_determinant f fd) (T : Txt P K mg base C) (mgf : mg "_law_determinant" = some (.ref f)) (kp : PySem.W.keepIn K (.ref f) = true) (bd : Binds K fd ["rows"] []) (c_law_determinant : CalG P w K mg base k "_law_determinant" (spD K (rLDetZ n)) []) : FnOk P w K mg base CX0 (k + 1) f fd ["rows"] (spD K (rLDetZ (n + 1))) := by
  refine okD F sc_law_determinant (fun ds r h => by obtain ⟨d, rs, B, rfl, _⟩ := h; rfl) fun cdv A outer s H E hr => ⟨_, (pss_cons (ps_if (pt_cmpR op_eq (pe_callB (call_lenK (K := K)) (by rfl) T.u_len (by decide +kernel) (pa_cons (pv 0) pa_nil)) pe_int (nomark _)) (pss_one (ps_ret pe_int)) pss_nil)
      (pss_cons (ps_set (i := 1) sc_law_determinant.nd rfl (Or.inl rfl) pe_int)
      (pss_cons (ps_for PassesOwn.never rfl (pi_range1 (by rfl) T.u_range (pa_cons (pe_callB (call_lenK (K := K)) (by rfl) T.u_len (by decide +kernel) (pa_cons (pv 0) pa_nil)) pa_nil)) (pg_name (i := 2) sc_law_determinant.nd rfl (Or.inr rfl)) (pss_one (ps_if (pt_cmpR op_ne (pe_ix (ix_seqK (K := K)) (pe_ix (ix_seqK (K := K)) (pv 0) pe_int (fun _ _ => rfl)) (pv 2) (fun _ _ => rfl)) pe_int (nomark _)) (pss_cons (ps_setLc (i := 3) (own := [("row", 4)]) (g := gName 4) (tt := tYes) (by rfl) sc_law_determinant.nd rfl rfl (sw_true rfl rfl rfl (by decide +kernel)) (pi_seqK (K := K) (pe_slice (sl_eitherK (K := K)) (pv 0) (po_some pe_int) po_none)) (blkOk_by (N := ["rows", "total", "k", "minor", "row"]) (sc := defScope s_law_determinant) (own := [("row", 4)]) (by first | decide +kernel | kernel_rfl)) (fun _ _ _ _ _ => (pg_name (i := 4) sc_law_determinant.nd rfl (Or.inl rfl))) (fun _ _ _ _ _ => pts_nil) (fun _ _ _ _ _ => (pe_op (op_catK (K := K)) (pe_slice (sl_tupK (K := K)) (pv 4) po_none (po_some (pv 2))) (pe_slice (sl_tupK (K := K)) (pv 4) (po_some (pe_op op_add (pv 2) pe_int)) po_none))))
      (pss_one (ps_set (i := 1) sc_law_determinant.nd rfl (Or.inl rfl) (pe_op op_add (pv 1) (pe_op op_mulB (pe_op op_mulB (pe_op op_sub pe_int (pe_op op_mulB pe_int (pe_op op_modN (pv 2) pe_int))) (pe_ix (ix_seqK (K := K)) (pe_ix (ix_seqK (K := K)) (pv 0) pe_int (fun _ _ => rfl)) (pv 2) (fun _ _ => rfl))) (pe_cG c_law_determinant hr (Nat.le_refl _) rfl (pa_cons (pv 3) pa_nil))))))) pss_nil)))
      (pss_one (ps_ret (pv 1)))))), ?_⟩
  intro F M ds r σ H1 D hR st krt knx
  obtain ⟨d, rs, B, rfl, sq, hl, hrow, hsm, hB, hn, rfl⟩ := hR
  refine y_skip st (TX.is (tx_test (ex_eqI (ex_len (ex_var rfl) sq.items) ex_int)) (by rw [List.length_map, hl]; exact decide_eq_false (by omega))) fun H2 st => ?_
  refine z_asg st ex_int fun σ H3 st => ?_
  refine x_forP (fun j M1 δ1 μ1 => M1 = M ∧ (∃ x2 x3, δ1 = [some d, some (.int (rsum j fun k => if en rs 0 k = 0 then 0 else sg k * en rs 0 k * detZ n (restR rs k))), x2, x3, none]) ∧ μ1 = []) st (wx_range1 (n := ((n + 1 : Nat) : Int)) (ax_cons (EX.is (ex_len (ex_var rfl) sq.items) (by rw [List.length_map, hl])) ax_nil) (by omega) (by omega)) ⟨rfl, ⟨_, _, rfl⟩, rfl⟩ ?_ ?_
  · rintro F1 j M1 δ1 μ1 σ H3 eF hj ⟨rfl, ⟨x2, x3, rfl⟩, rfl⟩ nw st
    have hj' : j < n + 1 := by omega
    have h1 : rs.tail.length = n := by rw [List.length_tail]; omega
    have hr0 : (rs.getD 0 []).length = n + 1 := rows_at hrow 0 (by omega)
    have e0 : ∀ {δ : G.Env} {μ : Sto}, δ[0]? = some (some d) → δ[2]? = some (some (.int (j : Nat))) → EX K (tOp (rIx K) (tOp (rIx K) (tVar 0) (tC (.int 0))) (tVar 2)) δ μ μ (.int (en rs 0 j)) := fun q1 q2 => ex_ix (ex_ix (ex_var q1) ex_int sq.items (atI_rowT (t := rs) (i := 0) (by omega))) (ex_var q2) (.tup _) (atI_int (by rw [hr0]; exact hj'))
    refine y_if (b := !decide (en rs 0 j = 0)) st (tx_test (ex_neI (e0 rfl rfl) ex_int)) (fun hb H4 st => ?_) fun hb H4 st => ?_
    · have hne : en rs 0 j ≠ 0 := by simpa using hb
      have hcut : G.cutD (rs.map rowT) (some 1) none = rs.tail.map rowT := by
        unfold G.cutD
        rw [show (1 : Int) = ((1 : Nat) : Int) from rfl, HT.sIx_none, HT.sIx_nat, List.length_map, Nat.min_eq_left (by omega), List.drop_one, List.take_of_length_le (by simp), List.map_tail]
      obtain ⟨e, se, ee⟩ := ex_slE (K := K) (δ := [some d, some (.int (rsum j fun k => if en rs 0 k = 0 then 0 else sg k * en rs 0 k * detZ n (restR rs k))), some (.int (j : Nat)), x3, none]) (μ := []) (te := tVar 0) (ex_var rfl) sq (ox_some (te := tC (.int 1)) ex_int) ox_none
      rw [hcut] at se
      refine y_asg (d := .lst ((restR rs j).map rowT)) st (EX.is (lx_lc1 (wx_seq ee se) (fun i => rowT (delC (rs.tail.getD i []) j)) (by simp; omega) (by simp) fun i hi => ?_).ex ?_) fun σ H5 st => ?_
      · rw [List.length_map, h1] at hi
        have hrl : (rs.tail.getD i []).length = n + 1 := by rw [tail_getD]; exact rows_at hrow (i + 1) (by omega)
        have e1 := getD_rowT (a := rs.tail) (i := i) (by omega)
        refine EX.is (ex_catT (ex_slT (EX.is (ex_var rfl) e1) ox_none (ox_some (ex_var rfl))) (ex_slT (EX.is (ex_var rfl) e1) (ox_some (ex_add (ex_var rfl) ex_int)) ox_none) ?_) ?_
        · rw [cut_take, cut_drop, List.length_map, List.length_map, List.length_take, List.length_drop]
          omega
        · rw [cut_take, cut_drop, ← List.map_append]
          rfl
      · rw [List.length_map]
        show DV.lst _ = DV.lst _
        congr 1
        unfold restR
        rw [List.map_map]
        exact map_getD (fun r => rowT (delC r j)) rs.tail
      · have b0 : (en rs 0 j).natAbs < 2 ^ B := getD_sm (rows_sm hsm 0) j
        have bs : (sg j).natAbs < 2 ^ 1 := by have := sg_bound j; omega
        have bd := detZ_sm n (restR rs j) (by omega) (restR_sm hsm)
        have hB2 : (B + 8) * n ≤ (B + 8) * 4 := Nat.mul_le_mul_left _ (by omega)
        refine y_asg st (ex_add (ex_var rfl) (ex_mul (ex_mul (EX.is (e' := .int (sg j)) (ex_sub ex_int (ex_mul ex_int (ex_mod (ex_var rfl) ex_int (by decide)) (mulSm (by omega)))) rfl) (e0 rfl rfl) (smMul bs b0 (by omega))) (ex_call (ax_cons (ex_var rfl) ax_nil) ⟨_, restR rs j, B, rfl, .lst _, by rw [restR_len]; omega, restR_row hrow hj', restR_sm hsm, hB, by omega, rfl⟩) (smMul (natAbs_mul_lt bs b0) bd (by omega)))) fun σ H6 st => ?_
        refine nxt st nw ⟨rfl, ⟨some (.int (j : Nat)), some (.lst ((restR rs j).map rowT)), ?_⟩, rfl⟩
        rw [rsum_succ, if_neg hne]
        rfl
    · have hz : en rs 0 j = 0 := by simpa using hb
      refine nxt st nw ⟨rfl, ⟨some (.int (j : Nat)), x3, ?_⟩, rfl⟩
      rw [rsum_succ, if_pos hz, Int.add_zero]
      rfl
  · rintro M1 δ1 μ1 σ H3 ⟨rfl, ⟨x2, x3, rfl⟩, rfl⟩ nw st
    rw [Int.toNat_natCast] at st
    exact y_end (μ' := []) krt st (ex_var rfl) (Ex.refl _) fun _ h => h
theorem ok_ldet (F : Fun K "_law_determinant" "_law_determinant" s_law_determinant f fd) (T : Txt P K mg base C) (mgf : mg "_law_determinant" = some (.ref f)) (kp : PySem.W.keepIn K (.ref f) = true) (bd : Binds K fd ["rows"] []) : ∀ n, FnOk P w K mg base CX0 (n + 2) f fd ["rows"] (spD K (rLDetZ n))
  | 0 => ok_ldet0 F T mgf kp bd
  | n + 1 => ok_ldetS F T mgf kp bd ⟨f, fd, ["rows"], [], ok_ldet F T mgf kp bd n, mgf, kp, bd, .nil⟩
theorem ldetA (h : ∀ n, FnOk P w K mg base CX0 (n + 2) f fd ["rows"] (spD K (rLDetZ n))) : FnOk P w K mg base CX0 7 f fd ["rows"] (spD K rLDetZA) where
  len := fun vs H Q E ⟨M, ds, r, h1, h2, ⟨n, hn, h3⟩, h4⟩ => (h n).len vs H Q E ⟨M, ds, r, h1, h2, h3, h4⟩
  run := fun A outer s H args us vs Q E hr e0 hb r ⟨M, ds, x, h1, h2, ⟨n, hn, h3⟩, h4⟩ => (h n).run A outer s H args us vs Q E (hr.mono (by omega)) e0 hb r ⟨M, ds, x, h1, h2, h3, h4⟩
end
end G02
set_option Elab.async false
set_option linter.all false
set_option maxRecDepth 100000
namespace G
open PySem PySem.Spec PyProof.Rows L2 Evl
def tks (s : S2) (m : Int) : Nat → S2
  | 0 => s
  | j + 1 => tkS (tks s m j) m
structure Rws (rs : List (List Int)) (h w m : Nat) : Prop where
  len : rs.length = h
  row : ∀ x ∈ rs, x.length = w
  sm : ∀ x ∈ rs, ∀ y ∈ x, y.natAbs ≤ m
theorem Rws.at {rs : List (List Int)} {h w m : Nat} (o : Rws rs h w m) (i j : Nat) : (en rs i j).natAbs ≤ m := by
  unfold en
  rw [List.getD_eq_getElem?_getD, List.getD_eq_getElem?_getD]
  cases q : rs[i]? with
  | none => show (([] : List Int)[j]?.getD 0).natAbs ≤ m; simp
  | some x =>
    show (x[j]?.getD 0).natAbs ≤ m
    cases q2 : x[j]? with
    | none => show (0 : Int).natAbs ≤ m; exact Nat.zero_le _
    | some y => exact o.sm x (List.mem_of_getElem? q) y (List.mem_of_getElem? q2)
theorem Rws.more {rs : List (List Int)} {h w m : Nat} (o : Rws rs h w m) {r : List Int} (h1 : r.length = w) (h2 : ∀ y ∈ r, y.natAbs ≤ m) : Rws (rs ++ [r]) (h + 1) w m := ⟨by rw [List.length_append, o.len]; rfl, fun x hx => (List.mem_append.mp hx).elim (o.row x) fun z => by rw [List.mem_singleton.mp z]; exact h1, fun x hx => (List.mem_append.mp hx).elim (o.sm x) fun z => by rw [List.mem_singleton.mp z]; exact h2⟩
theorem Rws.set {rs : List (List Int)} {h w m : Nat} (o : Rws rs h w m) {r : List Int} {i : Nat} (h1 : r.length = w) (h2 : ∀ y ∈ r, y.natAbs ≤ m) : Rws (rs.set i r) h w m := ⟨by rw [List.length_set, o.len], fun x hx => (List.mem_or_eq_of_mem_set hx).elim (o.row x) fun z => by rw [z]; exact h1, fun x hx => (List.mem_or_eq_of_mem_set hx).elim (o.sm x) fun z => by rw [z]; exact h2⟩
theorem Rws.le {rs : List (List Int)} {h w m n : Nat} (o : Rws rs h w m) (e : m ≤ n) : Rws rs h w n := ⟨o.len, o.row, fun x hx y hy => Nat.le_trans (o.sm x hx y hy) e⟩
def RwPre (s ds : List DV) : Prop := ∃ (a : S2) (h w m : Nat), s = stD a ∧ ds = [.int h, .int w, .int m] ∧ h ≤ 100 ∧ w ≤ 100 ∧ m ≤ 1000
def RwPost (_ ds s' : List DV) (r : DV) : Prop := ∃ (h w m : Nat) (a : S2) (rs : List (List Int)), ds = [.int h, .int w, .int m] ∧ s' = stD a ∧ Rws rs h w (2 * m) ∧ r = rowsT rs
theorem cutG_take {α : Type} (f : α → DV) (r : List α) (k : Nat) : cutD (r.map f) none (some (k : Int)) = (r.take k).map f := by
  unfold cutD
  rw [HT.sIx_none, HT.sIx_nat, List.drop_zero, Nat.sub_zero, List.length_map, List.map_take]
  by_cases h : k ≤ r.length
  · rw [Nat.min_eq_left h]
  · rw [Nat.min_eq_right (by omega), List.take_of_length_le (by simp), List.take_of_length_le (by simp; omega)]
theorem cutG_from {α : Type} (f : α → DV) (r : List α) (k : Nat) : cutD (r.map f) (some (k : Int)) none = (r.drop k).map f := by
  unfold cutD
  rw [HT.sIx_none, HT.sIx_nat, List.length_map, List.map_drop]
  by_cases h : k ≤ r.length
  · rw [Nat.min_eq_left h, List.take_of_length_le (by simp)]
  · rw [Nat.min_eq_right (by omega), List.drop_of_length_le (by simp), List.drop_of_length_le (by simp; omega)]
    simp
end G
set_option Elab.async false
set_option linter.all false
set_option maxRecDepth 100000
set_option maxHeartbeats 4000000
namespace G02
open PySem PySem.Spec PyProof.Rows L2 Evl G
section
variable {P : Program} {w : World} {K : PySem.W.Frag} {mg : Str → Option Value} {base : Heap} {C : Addr} {f : Addr} {fd : FuncData}
theorem ok_rows (F : Fun K "_law_rows" "_law_rows" s_law_rows f fd) (T : Txt P K mg base C) (c_law_take : CalG P w K mg base 42 "_law_take" (spS K rTake) []) : FnOk P w K mg base CX0 44 f fd ["state", "height", "width", "most"] (spSR K RwPre RwPost) := by
  refine okSR F sc_law_rows (fun s ds h => by obtain ⟨a, h, w, m, rfl, rfl, _⟩ := h; rfl) fun cdv A outer s H E hr => ⟨_, (pss_cons (ps_set (i := 4) sc_law_rows.nd rfl (Or.inr rfl) (pe_lst pa_nil))
      (pss_cons (ps_for PassesOwn.never rfl (pi_range1 (by rfl) T.u_range (pa_cons (pv 1) pa_nil)) (pg_name (i := 5) sc_law_rows.nd rfl (Or.inl rfl)) (pss_one (ps_expr (pe_bm PySem.F.plainAttrs_list PySem.F.slot_list_append PySem.F.type_list_append mt_append (pv 4) (pa_cons (pe_callTy (call_tupK (K := K)) (by rfl) T.u_tuple PyProof.Rows.boot_tuple (pa_cons (pe_lc (own := [("k", 6)]) (g := gName 6) (tt := tYes) (by rfl) sc_law_rows.nd (pi_range1 (by rfl) T.u_range (pa_cons (pv 2) pa_nil)) (blkOk_by (N := ["state", "height", "width", "most", "rows", "i", "k"]) (sc := defScope s_law_rows) (own := [("k", 6)]) (by first | decide +kernel | kernel_rfl)) (fun _ _ _ _ _ => (pg_name (i := 6) sc_law_rows.nd rfl (Or.inl rfl))) (fun _ _ _ _ _ => pts_nil) (fun _ _ _ _ _ => (pe_op op_sub (pe_cG c_law_take hr (by decide) rfl (pa_cons (pv 0) (pa_cons (pe_op op_add (pe_op op_mulB pe_int (pv 3)) pe_int) pa_nil))) (pv 3)))) pa_nil)) pa_nil)))))
      (pss_cons (ps_if (PW.pt (pw_and (pt_cmpR op_gt (pv 1) pe_int (nomark _)) (pw_and1 (pt_cmpR op_eq (pe_cG c_law_take hr (by decide) rfl (pa_cons (pv 0) (pa_cons pe_int pa_nil))) pe_int (nomark _))))) (pss_one (ps_asg (pe_callTy (call_tupK (K := K)) (by rfl) T.u_tuple PyProof.Rows.boot_tuple (pa_cons (pe_lc (own := [("k", 6)]) (g := gName 6) (tt := tYes) (by rfl) sc_law_rows.nd (pi_range1 (by rfl) T.u_range (pa_cons (pv 2) pa_nil)) (blkOk_by (N := ["state", "height", "width", "most", "rows", "i", "k"]) (sc := defScope s_law_rows) (own := [("k", 6)]) (by first | decide +kernel | kernel_rfl)) (fun _ _ _ _ _ => (pg_name (i := 6) sc_law_rows.nd rfl (Or.inl rfl))) (fun _ _ _ _ _ => pts_nil) (fun _ _ _ _ _ => (pe_op op_mulB (pe_ix (ix_seqK (K := K)) (pe_ix (ix_seqK (K := K)) (pv 4) pe_int (fun _ _ => rfl)) (pv 6) (fun _ _ => rfl)) pe_int))) pa_nil)) (pg_sub (pv 4) (pe_op op_sub (pv 1) pe_int) set_list))) pss_nil)
      (pss_one (ps_ret (pe_callTy (call_tupK (K := K)) (by rfl) T.u_tuple PyProof.Rows.boot_tuple (pa_cons (pv 4) pa_nil))))))), ?_⟩
  intro F M l s0 ds σ H1 D hR st krt knx
  obtain ⟨a, h, w, m, rfl, rfl, hh, hw, hm⟩ := hR
  have tk : ∀ (δ : G.Env) (te : TE) (j : Nat) (L : Sto) (s : S2) (m : Int), 0 < m → δ[0]? = some (some (.box l)) → L[j]? = some (l, stD s) → EX K te δ L L (.int m) → EX K (tCall (spS K rTake) [] E0 (tCons (tVar 0) (tCons te tNil))) δ L (L.set j (l, stD (tkS s m))) (.int (tkV s m)) := fun δ te j L s m hm h0 hL ht => ex_callS (j := j) (ex_var h0) (ax_cons ht ax_nil) hL ⟨s, m, rfl, rfl, hm, rfl, rfl⟩
  refine y_asgL st (lx_lst ax_nil) fun p σ H2 hp hpF st => ?_
  refine x_forP (fun i M1 δ1 μ1 => M1 = p :: M ∧ (∃ x5, δ1 = [some (.box l), some (.int h), some (.int w), some (.int m), some (.box p), x5, none]) ∧ ∃ rs s, Rws rs i w m ∧ μ1 = [(p, rs.map rowT), (l, stD s)]) st (wx_range1 (n := (h : Int)) (ax_cons (ex_var rfl) ax_nil) (by omega) (by omega)) ⟨rfl, ⟨none, rfl⟩, [], a, ⟨rfl, (by simp), (by simp)⟩, rfl⟩ ?_ ?_
  · rintro F1 i M1 δ1 μ1 σ H3 eF hi ⟨rfl, ⟨x5, rfl⟩, rs, s, o, rfl⟩ nw st
    have hi' : i < h := by omega
    have q1 := o.len
    refine x_app (j := 0) st (ex_var rfl) (EX.is (e' := rowT ((List.range w).map fun j => tkV (tks s (2 * m + 1) j) (2 * m + 1) - m)) (ex_tuple (lx_lcA (wx_range1 (n := (w : Int)) (ax_cons (ex_var rfl) ax_nil) (by omega) (by omega)) (fun j => .int (tkV (tks s (2 * m + 1) j) (2 * m + 1) - m)) (fun j => [(p, rs.map rowT), (l, stD (tks s (2 * m + 1) j))]) rfl (by omega) (by simp) fun j hj => ?_).ex (.lst _)) ?_) rfl rfl (by simp; omega) fun H5 st => ?_
    · exact ex_sub (EX.to (tk _ _ 1 _ (tks s (2 * m + 1) j) (2 * m + 1) (by omega) rfl rfl (ex_add (ex_mul ex_int (ex_var rfl) (mulSm (by omega))) ex_int)) rfl) (ex_var rfl)
    · show DV.tup _ = DV.tup _
      rw [List.map_map]
      rfl
    · refine nxt st nw ⟨rfl, ⟨_, rfl⟩, rs ++ [_], tks s (2 * m + 1) w, o.more (r := (List.range w).map fun j => tkV (tks s (2 * m + 1) j) (2 * m + 1) - m) (by simp) (fun y hy => ?_), ?_⟩
      · obtain ⟨j, _, rfl⟩ := List.mem_map.mp hy
        have := tkV_bound (tks s (2 * m + 1) j) (m := 2 * m + 1) (by omega)
        omega
      · rw [List.map_append]
        rfl
  rintro M1 δ1 μ1 σ H3 ⟨rfl, ⟨x5, rfl⟩, rs, s, o, rfl⟩ nw st
  rw [Int.toNat_natCast] at o
  have fin : ∀ (rs : List (List Int)) (s : S2) (σ : L2.St) (H : Hp), Rws rs h w (2 * m) → Sta K F (p :: M) [some (.box l), some (.int h), some (.int w), some (.int m), some (.box p), x5, none] [(p, rs.map rowT), (l, stD s)] σ H → tRet (tCB (rTupQ K) (tCons (tVar 4) tNil)) D σ H := by
    intro rs s σ H o st
    have st := st.free (i := 4) hp rfl
    exact y_ret st (ex_tuple (ex_var rfl) (.lst _)) fun v H6 st rv => krt _ _ v H6 M _ _ ⟨h, w, m, s, rs, rfl, rfl, o, rfl⟩ (fun _ h => h) st rv
  by_cases h1 : 1 < h
  · refine x_if (b := decide (tkV s 5 = 0)) st (TX.is (tx_andS (a := true) (TX.is (tx_test (ex_gt (ex_var rfl) ex_int)) (decide_eq_true (by omega))) (fun _ => tx_test (ex_eqI (EX.to (tk _ _ 1 _ s 5 (by decide) rfl rfl ex_int) rfl) ex_int)) (fun z => by cases z)) (Bool.true_and _)) (fun hb H6 st => ?_) fun hb H6 st => fin rs (tkS s 5) _ _ (o.le (by omega)) st
    have r0 : (rs.getD 0 []).length = w := rows_at o.row 0 (by have := o.len; omega)
    refine y_setL (j := 0) (m := h - 1) (d := rowT ((List.range w).map fun k => en rs 0 k * 2)) st (EX.is (ex_tuple (lx_lc1 (wx_range1 (n := (w : Int)) (ax_cons (ex_var rfl) ax_nil) (by omega) (by omega)) (fun k => .int (en rs 0 k * 2)) (by omega) (by simp) fun k hk => ex_mul (ex_ix (ex_ix (ex_var rfl) ex_int (.box (j := 0) rfl) (atI_rowT (t := rs) (i := 0) (by have := o.len; omega))) (ex_var rfl) (.tup _) (atI_int (by rw [r0]; omega))) ex_int (mulSmR (by omega))).ex (.lst _)) (by show DV.tup _ = DV.tup _; rw [List.map_map]; rfl)) (ex_var rfl) (EX.is (e' := .int ((h - 1 : Nat) : Int)) (ex_sub (ex_var rfl) ex_int) (by congr 1; omega)) rfl (ixN_of (by rw [List.length_map, o.len]; omega)) fun H7 st => ?_
    refine fin (rs.set (h - 1) ((List.range w).map fun k => en rs 0 k * 2)) (tkS s 5) _ _ ((o.le (show m ≤ 2 * m by omega)).set (by simp) fun y hy => ?_) ?_
    · obtain ⟨k, _, rfl⟩ := List.mem_map.mp hy
      have := o.at 0 k
      omega
    · rw [List.map_set]
      exact st
  · refine y_skip st (TX.is (tx_and (b := true) (tx_test (ex_gt (ex_var rfl) ex_int)) fun z => absurd (of_decide_eq_true z) (by omega)) (by rw [decide_eq_false (by omega)]; rfl)) fun H6 st => fin rs s _ _ (o.le (by omega)) st
end
end G02
set_option Elab.async false
set_option linter.all false
set_option maxRecDepth 100000
set_option maxHeartbeats 2000000
namespace G
open PySem PySem.Spec PyProof.Rows L2 Evl
theorem bar0 : bar [] = 1 := rfl
theorem bar1 (a : Int) : bar [[a]] = a := by
  by_cases ha : a = 0
  · subst ha; rfl
  · simp [bar, brun, bstep, picks, inn, elimRow, swp, en, List.range_succ, ha]
theorem fone (a : Int) : a.fdiv 1 = a := by rw [Int.fdiv_eq_ediv_of_nonneg _ (by omega), Int.ediv_one]
theorem bar2 (a b c d : Int) : bar [[a, b], [c, d]] = a * d - b * c := by
  by_cases ha : a = 0
  · by_cases hc : c = 0
    · subst ha hc
      simp [bar, brun, bstep, picks, inn, elimRow, swp, en, List.range_succ]
    · subst ha
      by_cases hb : b = 0
      · subst hb
        simp [bar, brun, bstep, picks, inn, elimRow, swp, en, List.range_succ, hc, fone]
      · simp [bar, brun, bstep, picks, inn, elimRow, swp, en, List.range_succ, hc, hb, fone, Int.mul_comm]
  · by_cases hd : a * d - c * b = 0
    · simp [bar, brun, bstep, picks, inn, elimRow, swp, en, List.range_succ, ha, fone, hd]
      grind
    · simp [bar, brun, bstep, picks, inn, elimRow, swp, en, List.range_succ, ha, fone, hd]
      grind
end G
set_option Elab.async false
set_option linter.all false
set_option maxRecDepth 100000
set_option maxHeartbeats 2000000
namespace G
open PySem PySem.Spec PyProof.Rows L2 Evl
def det3 (a b c d e f g h i : Int) : Int := a * (e * i - f * h) - b * (d * i - f * g) + c * (d * h - e * g)
theorem fdq {x a y : Int} (ha : a ≠ 0) (h : x = a * y) : x.fdiv a = y := by rw [h]; exact Int.mul_fdiv_cancel_left y ha
/-- the last two turns -/
theorem bar3b {a b c z w e f h i s q : Int} (ha : a ≠ 0) (hq : e * i - h * f = a * q) : (match (bstep 3 1 ([[a, b, c], [z, e, f], [w, h, i]], s, a)).bind (bstep 3 2) with | none => 0 | some x => x.2.1 * x.2.2) = s * q := by
  by_cases he : e = 0
  · by_cases hh : h = 0
    · subst he hh
      have : q = 0 := by
        have : a * q = 0 := by rw [← hq]; simp
        exact (Int.mul_eq_zero.mp this).resolve_left ha
      simp [bstep, picks, inn, elimRow, swp, en, List.range_succ, this]
    · subst he
      have k1 : (h * f - 0 * i).fdiv a = -q := fdq ha (by grind)
      by_cases hq0 : q = 0
      · subst hq0
        simp [bstep, picks, inn, elimRow, swp, en, List.range_succ, hh] 
        simp at k1
        simp [k1]
      · simp [bstep, picks, inn, elimRow, swp, en, List.range_succ, hh] 
        simp at k1
        simp [k1, hq0, Int.neg_mul_neg]
  · have k1 : (e * i - h * f).fdiv a = q := fdq ha hq
    by_cases hq0 : q = 0
    · subst hq0
      simp [bstep, picks, inn, elimRow, swp, en, List.range_succ, he, k1] 
    · simp [bstep, picks, inn, elimRow, swp, en, List.range_succ, he, k1, hq0] 
theorem bar_def3 (r0 r1 r2 : List Int) : bar [r0, r1, r2] = (match ((bstep 3 0 ([r0, r1, r2], 1, 1)).bind (bstep 3 1)).bind (bstep 3 2) with | none => 0 | some x => x.2.1 * x.2.2) := rfl
theorem bar3 (a b c d e f g h i : Int) : bar [[a, b, c], [d, e, f], [g, h, i]] = det3 a b c d e f g h i := by
  rw [bar_def3]
  by_cases ha : a = 0
  · by_cases hd : d = 0
    · by_cases hg : g = 0
      · subst ha hd hg
        simp [bstep, picks, inn, elimRow, swp, en, List.range_succ, det3]
      · subst ha hd
        have e1 : bstep 3 0 ([[0, b, c], [0, e, f], [g, h, i]], 1, 1) = some ([[g, h, i], [g * 0 - 0 * g, g * e - 0 * h, g * f - 0 * i], [g * 0 - 0 * g, g * b - 0 * h, g * c - 0 * i]], -1, g) := by
          simp [bstep, picks, inn, elimRow, swp, en, List.range_succ, fone, hg]
        rw [e1]
        refine (bar3b (s := -1) (q := e * g * c - b * f * g) hg (by grind)).trans ?_
        unfold det3
        grind
    · subst ha
      have e1 : bstep 3 0 ([[0, b, c], [d, e, f], [g, h, i]], 1, 1) = some ([[d, e, f], [d * 0 - 0 * d, d * b - 0 * e, d * c - 0 * f], [d * g - g * d, d * h - g * e, d * i - g * f]], -1, d) := by
        simp [bstep, picks, inn, elimRow, swp, en, List.range_succ, fone, hd]
      rw [e1]
      refine (bar3b (s := -1) (q := b * (d * i - g * f) - c * (d * h - g * e)) hd (by grind)).trans ?_
      unfold det3
      grind
  · have e1 : bstep 3 0 ([[a, b, c], [d, e, f], [g, h, i]], 1, 1) = some ([[a, b, c], [a * d - d * a, a * e - d * b, a * f - d * c], [a * g - g * a, a * h - g * b, a * i - g * c]], 1, a) := by
      simp [bstep, picks, inn, elimRow, swp, en, List.range_succ, fone, ha]
    rw [e1]
    refine (bar3b (s := 1) (q := det3 a b c d e f g h i) ha (by unfold det3; grind)).trans ?_
    exact Int.one_mul _
end G
set_option Elab.async false
set_option linter.all false
set_option maxRecDepth 100000
set_option maxHeartbeats 8000000
namespace G
open PySem PySem.Spec PyProof.Rows L2 Evl
def det4 (a b c d e f g h i j k l m n o p : Int) : Int := a * det3 f g h j k l n o p - b * det3 e g h i k l m o p + c * det3 e f h i j l m n p - d * det3 e f g i j k m n o
def fin4 (x : Option (List (List Int) × Int × Int)) : Int := match x with
  | none => 0
  | some x => x.2.1 * x.2.2
/-- the last two turns of four -/
theorem bar4b {r0 r1 : List Int} {x y z w e f h i a s q : Int} (ha : a ≠ 0) (hq : e * i - h * f = a * q) : fin4 ((bstep 4 2 ([r0, r1, [x, y, e, f], [z, w, h, i]], s, a)).bind (bstep 4 3)) = s * q := by
  by_cases he : e = 0
  · by_cases hh : h = 0
    · subst he hh
      have : q = 0 := by
        have : a * q = 0 := by rw [← hq]; simp
        exact (Int.mul_eq_zero.mp this).resolve_left ha
      simp [fin4, bstep, picks, inn, elimRow, swp, en, List.range_succ, this]
    · subst he
      have k1 : (h * f - 0 * i).fdiv a = -q := fdq ha (by grind)
      simp at k1
      by_cases hq0 : q = 0
      · subst hq0
        simp at k1
        simp [fin4, bstep, picks, inn, elimRow, swp, en, List.range_succ, hh, k1]
      · simp [fin4, bstep, picks, inn, elimRow, swp, en, List.range_succ, hh, k1, hq0, Int.neg_mul_neg]
  · have k1 : (e * i - h * f).fdiv a = q := fdq ha hq
    by_cases hq0 : q = 0
    · subst hq0
      simp [fin4, bstep, picks, inn, elimRow, swp, en, List.range_succ, he, k1]
    · simp [fin4, bstep, picks, inn, elimRow, swp, en, List.range_succ, he, k1, hq0]
/-- the last three turns of four -/
theorem bar4a {r0 : List Int} {x y z b00 b01 b02 b10 b11 b12 b20 b21 b22 a s q m011 m012 m021 m022 m121 m122 : Int} (ha : a ≠ 0)
    (h1 : b00 * b11 - b10 * b01 = a * m011) (h2 : b00 * b12 - b10 * b02 = a * m012) (h3 : b00 * b21 - b20 * b01 = a * m021) (h4 : b00 * b22 - b20 * b02 = a * m022) (h5 : b10 * b21 - b20 * b11 = a * m121) (h6 : b10 * b22 - b20 * b12 = a * m122)
    (q0 : m011 * m022 - m021 * m012 = b00 * q) (q1 : m011 * m122 - m121 * m012 = b10 * q) (q2 : m021 * m122 - m121 * m022 = b20 * q) (hz : b00 = 0 → b10 = 0 → b20 = 0 → q = 0) :
    fin4 (((bstep 4 1 ([r0, [x, b00, b01, b02], [y, b10, b11, b12], [z, b20, b21, b22]], s, a)).bind (bstep 4 2)).bind (bstep 4 3)) = s * q := by
  by_cases n0 : b00 = 0
  · by_cases n1 : b10 = 0
    · by_cases n2 : b20 = 0
      · have := hz n0 n1 n2
        subst n0 n1 n2 this
        simp [fin4, bstep, picks, inn, elimRow, swp, en, List.range_succ]
      · subst n0 n1
        have e1 : bstep 4 1 ([r0, [x, 0, b01, b02], [y, 0, b11, b12], [z, b20, b21, b22]], s, a) = some ([r0, [z, b20, b21, b22], [(b20 * y - 0 * z).fdiv a, (b20 * 0 - 0 * b20).fdiv a, (b20 * b11 - 0 * b21).fdiv a, (b20 * b12 - 0 * b22).fdiv a], [(b20 * x - 0 * z).fdiv a, (b20 * 0 - 0 * b20).fdiv a, (b20 * b01 - 0 * b21).fdiv a, (b20 * b02 - 0 * b22).fdiv a]], -s, b20) := by
          simp [bstep, picks, inn, elimRow, swp, en, List.range_succ, n2]
        rw [e1, fdq (x := b20 * b11 - 0 * b21) (y := -m121) ha (by grind), fdq (x := b20 * b12 - 0 * b22) (y := -m122) ha (by grind), fdq (x := b20 * b01 - 0 * b21) (y := -m021) ha (by grind), fdq (x := b20 * b02 - 0 * b22) (y := -m022) ha (by grind)]
        refine (bar4b (s := -s) (q := -q) n2 (by grind)).trans ?_
        exact Int.neg_mul_neg s q
    · subst n0
      have e1 : bstep 4 1 ([r0, [x, 0, b01, b02], [y, b10, b11, b12], [z, b20, b21, b22]], s, a) = some ([r0, [y, b10, b11, b12], [(b10 * x - 0 * y).fdiv a, (b10 * 0 - 0 * b10).fdiv a, (b10 * b01 - 0 * b11).fdiv a, (b10 * b02 - 0 * b12).fdiv a], [(b10 * z - b20 * y).fdiv a, (b10 * b20 - b20 * b10).fdiv a, (b10 * b21 - b20 * b11).fdiv a, (b10 * b22 - b20 * b12).fdiv a]], -s, b10) := by
        simp [bstep, picks, inn, elimRow, swp, en, List.range_succ, n1]
      rw [e1, fdq (x := b10 * b01 - 0 * b11) (y := -m011) ha (by grind), fdq (x := b10 * b02 - 0 * b12) (y := -m012) ha (by grind), fdq (y := m121) ha h5, fdq (y := m122) ha h6]
      refine (bar4b (s := -s) (q := -q) n1 (by grind)).trans ?_
      exact Int.neg_mul_neg s q
  · have e1 : bstep 4 1 ([r0, [x, b00, b01, b02], [y, b10, b11, b12], [z, b20, b21, b22]], s, a) = some ([r0, [x, b00, b01, b02], [(b00 * y - b10 * x).fdiv a, (b00 * b10 - b10 * b00).fdiv a, (b00 * b11 - b10 * b01).fdiv a, (b00 * b12 - b10 * b02).fdiv a], [(b00 * z - b20 * x).fdiv a, (b00 * b20 - b20 * b00).fdiv a, (b00 * b21 - b20 * b01).fdiv a, (b00 * b22 - b20 * b02).fdiv a]], s, b00) := by
      simp [bstep, picks, inn, elimRow, swp, en, List.range_succ, n0]
    rw [e1, fdq (y := m011) ha h1, fdq (y := m012) ha h2, fdq (y := m021) ha h3, fdq (y := m022) ha h4]
    exact bar4b n0 q0
theorem bar_def4 (r0 r1 r2 r3 : List Int) : bar [r0, r1, r2, r3] = fin4 ((((bstep 4 0 ([r0, r1, r2, r3], 1, 1)).bind (bstep 4 1)).bind (bstep 4 2)).bind (bstep 4 3)) := rfl
/-- the first turn is done, the pivot a at the head of the first row -/
theorem bar4s {a b c d e f g h i j k l m n o p s : Int} (ha : a ≠ 0) (x y z : Int) :
    fin4 (((bstep 4 1 ([[a, b, c, d], [x, a * f - e * b, a * g - e * c, a * h - e * d], [y, a * j - i * b, a * k - i * c, a * l - i * d], [z, a * n - m * b, a * o - m * c, a * p - m * d]], s, a)).bind (bstep 4 2)).bind (bstep 4 3)) = s * det4 a b c d e f g h i j k l m n o p := by
  refine bar4a (m011 := det3 a b c e f g i j k) (m012 := det3 a b d e f h i j l) (m021 := det3 a b c e f g m n o) (m022 := det3 a b d e f h m n p) (m121 := det3 a b c i j k m n o) (m122 := det3 a b d i j l m n p) ha ?_ ?_ ?_ ?_ ?_ ?_ ?_ ?_ ?_ ?_
  case refine_10 =>
    intro z1 z2 z3
    have : a * a * det4 a b c d e f g h i j k l m n o p = 0 := by
      unfold det4 det3
      grind
    rcases Int.mul_eq_zero.mp this with q | q
    · rcases Int.mul_eq_zero.mp q with q | q <;> exact absurd q ha
    · exact q
  all_goals (simp only [det4, det3]; grind)
theorem bar4 (a b c d e f g h i j k l m n o p : Int) : bar [[a, b, c, d], [e, f, g, h], [i, j, k, l], [m, n, o, p]] = det4 a b c d e f g h i j k l m n o p := by
  rw [bar_def4]
  by_cases ha : a = 0
  · by_cases he : e = 0
    · by_cases hi : i = 0
      · by_cases hm : m = 0
        · subst ha he hi hm
          simp [fin4, bstep, picks, inn, elimRow, swp, en, List.range_succ, det4, det3]
        · subst ha he hi
          have e1 : bstep 4 0 ([[0, b, c, d], [0, f, g, h], [0, j, k, l], [m, n, o, p]], 1, 1) = some ([[m, n, o, p], [m * 0 - 0 * m, m * f - 0 * n, m * g - 0 * o, m * h - 0 * p], [m * 0 - 0 * m, m * j - 0 * n, m * k - 0 * o, m * l - 0 * p], [m * 0 - 0 * m, m * b - 0 * n, m * c - 0 * o, m * d - 0 * p]], -1, m) := by
            simp [bstep, picks, inn, elimRow, swp, en, List.range_succ, fone, hm]
          rw [e1]
          refine (bar4s (a := m) (b := n) (c := o) (d := p) (e := 0) (f := f) (g := g) (h := h) (i := 0) (j := j) (k := k) (l := l) (m := 0) (n := b) (o := c) (p := d) (s := -1) hm _ _ _).trans ?_
          unfold det4 det3
          grind
      · subst ha he
        have e1 : bstep 4 0 ([[0, b, c, d], [0, f, g, h], [i, j, k, l], [m, n, o, p]], 1, 1) = some ([[i, j, k, l], [i * 0 - 0 * i, i * f - 0 * j, i * g - 0 * k, i * h - 0 * l], [i * 0 - 0 * i, i * b - 0 * j, i * c - 0 * k, i * d - 0 * l], [i * m - m * i, i * n - m * j, i * o - m * k, i * p - m * l]], -1, i) := by
          simp [bstep, picks, inn, elimRow, swp, en, List.range_succ, fone, hi]
        rw [e1]
        refine (bar4s (a := i) (b := j) (c := k) (d := l) (e := 0) (f := f) (g := g) (h := h) (i := 0) (j := b) (k := c) (l := d) (m := m) (n := n) (o := o) (p := p) (s := -1) hi _ _ _).trans ?_
        unfold det4 det3
        grind
    · subst ha
      have e1 : bstep 4 0 ([[0, b, c, d], [e, f, g, h], [i, j, k, l], [m, n, o, p]], 1, 1) = some ([[e, f, g, h], [e * 0 - 0 * e, e * b - 0 * f, e * c - 0 * g, e * d - 0 * h], [e * i - i * e, e * j - i * f, e * k - i * g, e * l - i * h], [e * m - m * e, e * n - m * f, e * o - m * g, e * p - m * h]], -1, e) := by
        simp [bstep, picks, inn, elimRow, swp, en, List.range_succ, fone, he]
      rw [e1]
      refine (bar4s (a := e) (b := f) (c := g) (d := h) (e := 0) (f := b) (g := c) (h := d) (i := i) (j := j) (k := k) (l := l) (m := m) (n := n) (o := o) (p := p) (s := -1) he _ _ _).trans ?_
      unfold det4 det3
      grind
  · have e1 : bstep 4 0 ([[a, b, c, d], [e, f, g, h], [i, j, k, l], [m, n, o, p]], 1, 1) = some ([[a, b, c, d], [a * e - e * a, a * f - e * b, a * g - e * c, a * h - e * d], [a * i - i * a, a * j - i * b, a * k - i * c, a * l - i * d], [a * m - m * a, a * n - m * b, a * o - m * c, a * p - m * d]], 1, a) := by
      simp [bstep, picks, inn, elimRow, swp, en, List.range_succ, fone, ha]
    rw [e1]
    refine (bar4s ha _ _ _).trans ?_
    exact Int.one_mul _
end G
set_option Elab.async false
set_option linter.all false
set_option maxRecDepth 100000
set_option maxHeartbeats 8000000
namespace G
open PySem PySem.Spec PyProof.Rows L2 Evl
theorem detZ_eq (n : Nat) (rs : List (List Int)) : detZ (n + 1) rs = rsum (n + 1) fun k => sg k * en rs 0 k * detZ n (restR rs k) := by
  show rsum (n + 1) _ = _
  congr 1
  funext k
  show (if en rs 0 k = 0 then (0 : Int) else _) = _
  split
  · next h => rw [h]; simp
  · rfl
theorem lit1 {α : Type} {l : List α} (h : l.length = 1) : ∃ a, l = [a] := match l, h with | [a], _ => ⟨a, rfl⟩
theorem lit2 {α : Type} {l : List α} (h : l.length = 2) : ∃ a b, l = [a, b] := match l, h with | [a, b], _ => ⟨a, b, rfl⟩
theorem lit3 {α : Type} {l : List α} (h : l.length = 3) : ∃ a b c, l = [a, b, c] := match l, h with | [a, b, c], _ => ⟨a, b, c, rfl⟩
theorem lit4 {α : Type} {l : List α} (h : l.length = 4) : ∃ a b c d, l = [a, b, c, d] := match l, h with | [a, b, c, d], _ => ⟨a, b, c, d, rfl⟩
/-- a square matrix -/
structure Sq (n : Nat) (rs : List (List Int)) : Prop where
  len : rs.length = n
  row : ∀ x ∈ rs, x.length = n
theorem sq0 {rs : List (List Int)} (h : Sq 0 rs) : rs = [] := List.eq_nil_of_length_eq_zero h.len
theorem sq1 {rs : List (List Int)} (h : Sq 1 rs) : ∃ a, rs = [[a]] := by
  obtain ⟨r, rfl⟩ := lit1 h.len
  obtain ⟨a, rfl⟩ := lit1 (h.row r (by simp))
  exact ⟨a, rfl⟩
theorem sq2 {rs : List (List Int)} (h : Sq 2 rs) : ∃ a b c d, rs = [[a, b], [c, d]] := by
  obtain ⟨r, s, rfl⟩ := lit2 h.len
  obtain ⟨a, b, rfl⟩ := lit2 (h.row r (by simp))
  obtain ⟨c, d, rfl⟩ := lit2 (h.row s (by simp))
  exact ⟨a, b, c, d, rfl⟩
theorem sq3 {rs : List (List Int)} (h : Sq 3 rs) : ∃ a b c d e f g i j, rs = [[a, b, c], [d, e, f], [g, i, j]] := by
  obtain ⟨r, s, t, rfl⟩ := lit3 h.len
  obtain ⟨a, b, c, rfl⟩ := lit3 (h.row r (by simp))
  obtain ⟨d, e, f, rfl⟩ := lit3 (h.row s (by simp))
  obtain ⟨g, i, j, rfl⟩ := lit3 (h.row t (by simp))
  exact ⟨a, b, c, d, e, f, g, i, j, rfl⟩
theorem sq4 {rs : List (List Int)} (h : Sq 4 rs) : ∃ a b c d e f g i j k l m n o p q, rs = [[a, b, c, d], [e, f, g, i], [j, k, l, m], [n, o, p, q]] := by
  obtain ⟨r, s, t, u, rfl⟩ := lit4 h.len
  obtain ⟨a, b, c, d, rfl⟩ := lit4 (h.row r (by simp))
  obtain ⟨e, f, g, i, rfl⟩ := lit4 (h.row s (by simp))
  obtain ⟨j, k, l, m, rfl⟩ := lit4 (h.row t (by simp))
  obtain ⟨n, o, p, q, rfl⟩ := lit4 (h.row u (by simp))
  exact ⟨a, b, c, d, e, f, g, i, j, k, l, m, n, o, p, q, rfl⟩
theorem sg0 : sg 0 = 1 := rfl
theorem sg1 : sg 1 = -1 := rfl
theorem sg2 : sg 2 = 1 := rfl
theorem sg3 : sg 3 = -1 := rfl
theorem detZ_bar {n : Nat} {rs : List (List Int)} (h : Sq n rs) (hn : n ≤ 4) : detZ n rs = bar rs := by
  have hc : n = 0 ∨ n = 1 ∨ n = 2 ∨ n = 3 ∨ n = 4 := by omega
  rcases hc with rfl | rfl | rfl | rfl | rfl
  · rw [sq0 h]; rfl
  · obtain ⟨a, rfl⟩ := sq1 h
    simp [detZ_eq, rsum, List.range_succ, en, restR, delC, sg0, sg1, sg2, sg3, bar1, show ∀ r, detZ 0 r = 1 from fun _ => rfl]
  · obtain ⟨a, b, c, d, rfl⟩ := sq2 h
    simp [detZ_eq, rsum, List.range_succ, en, restR, delC, sg0, sg1, sg2, sg3, bar2, show ∀ r, detZ 0 r = 1 from fun _ => rfl]
    grind
  · obtain ⟨a, b, c, d, e, f, g, i, j, rfl⟩ := sq3 h
    simp [detZ_eq, rsum, List.range_succ, en, restR, delC, sg0, sg1, sg2, sg3, bar3, det3, show ∀ r, detZ 0 r = 1 from fun _ => rfl]
    grind
  · obtain ⟨a, b, c, d, e, f, g, i, j, k, l, m, n, o, p, q, rfl⟩ := sq4 h
    simp [detZ_eq, rsum, List.range_succ, en, restR, delC, sg0, sg1, sg2, sg3, bar4, det4, det3, show ∀ r, detZ 0 r = 1 from fun _ => rfl]
    grind
end G
set_option Elab.async false
set_option linter.all false
set_option maxRecDepth 100000
set_option maxHeartbeats 16000000
namespace G
open PySem PySem.Spec PyProof.Rows L2 Evl
def scal (n : Nat) (d : Int) := genM n n fun i k => d * (if i = k then 1 else 0)
theorem bar_tr {n : Nat} {a : List (List Int)} (h : Sq n a) (hn : n ≤ 4) : bar (trM a n) = bar a := by
  have hc : n = 0 ∨ n = 1 ∨ n = 2 ∨ n = 3 ∨ n = 4 := by omega
  rcases hc with rfl | rfl | rfl | rfl | rfl
  · rw [sq0 h]; rfl
  · obtain ⟨a, rfl⟩ := sq1 h
    simp [trM, genM, en, List.range_succ]
  · obtain ⟨a, b, c, d, rfl⟩ := sq2 h
    simp [trM, genM, en, List.range_succ, bar2]
    grind
  · obtain ⟨a, b, c, d, e, f, g, i, j, rfl⟩ := sq3 h
    simp [trM, genM, en, List.range_succ, bar3, det3]
    grind
  · obtain ⟨a, b, c, d, e, f, g, i, j, k, l, m, n, o, p, q, rfl⟩ := sq4 h
    simp [trM, genM, en, List.range_succ, bar4, det4, det3]
    grind
theorem adj_r {n : Nat} {a : List (List Int)} (h : Sq n a) (hn : n ≤ 4) : prodM a (adjM a n) n = scal n (bar a) := by
  have hc : n = 0 ∨ n = 1 ∨ n = 2 ∨ n = 3 ∨ n = 4 := by omega
  rcases hc with rfl | rfl | rfl | rfl | rfl
  · rw [sq0 h]; rfl
  · obtain ⟨a, rfl⟩ := sq1 h
    simp [prodM, scal, mulE, adjM, adjE, minorM, delC, genM, en, List.range_succ, bar0, bar1]
  · obtain ⟨a, b, c, d, rfl⟩ := sq2 h
    simp [prodM, scal, mulE, adjM, adjE, minorM, delC, genM, en, List.range_succ, bar1, bar2]
    grind
  · obtain ⟨a, b, c, d, e, f, g, i, j, rfl⟩ := sq3 h
    simp [prodM, scal, mulE, adjM, adjE, minorM, delC, genM, en, List.range_succ, bar2, bar3, det3]
    grind
  · obtain ⟨a, b, c, d, e, f, g, i, j, k, l, m, n, o, p, q, rfl⟩ := sq4 h
    simp [prodM, scal, mulE, adjM, adjE, minorM, delC, genM, en, List.range_succ, bar3, bar4, det4, det3]
    refine ⟨⟨?_, ?_, ?_, ?_⟩, ⟨?_, ?_, ?_, ?_⟩, ⟨?_, ?_, ?_, ?_⟩, ?_, ?_, ?_, ?_⟩ <;> grind
theorem adj_l {n : Nat} {a : List (List Int)} (h : Sq n a) (hn : n ≤ 4) : prodM (adjM a n) a n = scal n (bar a) := by
  have hc : n = 0 ∨ n = 1 ∨ n = 2 ∨ n = 3 ∨ n = 4 := by omega
  rcases hc with rfl | rfl | rfl | rfl | rfl
  · rw [sq0 h]; rfl
  · obtain ⟨a, rfl⟩ := sq1 h
    simp [prodM, scal, mulE, adjM, adjE, minorM, delC, genM, en, List.range_succ, bar0, bar1]
  · obtain ⟨a, b, c, d, rfl⟩ := sq2 h
    simp [prodM, scal, mulE, adjM, adjE, minorM, delC, genM, en, List.range_succ, bar1, bar2]
    grind
  · obtain ⟨a, b, c, d, e, f, g, i, j, rfl⟩ := sq3 h
    simp [prodM, scal, mulE, adjM, adjE, minorM, delC, genM, en, List.range_succ, bar2, bar3, det3]
    grind
  · obtain ⟨a, b, c, d, e, f, g, i, j, k, l, m, n, o, p, q, rfl⟩ := sq4 h
    simp [prodM, scal, mulE, adjM, adjE, minorM, delC, genM, en, List.range_succ, bar3, bar4, det4, det3]
    refine ⟨⟨?_, ?_, ?_, ?_⟩, ⟨?_, ?_, ?_, ?_⟩, ⟨?_, ?_, ?_, ?_⟩, ?_, ?_, ?_, ?_⟩ <;> grind
end G
set_option Elab.async false
set_option linter.all false
set_option maxRecDepth 100000
set_option maxHeartbeats 16000000
namespace G
open PySem PySem.Spec PyProof.Rows L2 Evl
theorem bar_mul {n : Nat} {a b : List (List Int)} (h : Sq n a) (h' : Sq n b) (hn : n ≤ 4) : bar (mulM a b n) = bar a * bar b := by
  have hc : n = 0 ∨ n = 1 ∨ n = 2 ∨ n = 3 ∨ n = 4 := by omega
  rcases hc with rfl | rfl | rfl | rfl | rfl
  · rw [sq0 h, sq0 h']; rfl
  · obtain ⟨a, rfl⟩ := sq1 h
    obtain ⟨b, rfl⟩ := sq1 h'
    simp [mulM, mulE, genM, en, List.range_succ, bar1]
  · obtain ⟨a, b, c, d, rfl⟩ := sq2 h
    obtain ⟨a', b', c', d', rfl⟩ := sq2 h'
    simp [mulM, mulE, genM, en, List.range_succ, bar2]
    grind
  · obtain ⟨a, b, c, d, e, f, g, i, j, rfl⟩ := sq3 h
    obtain ⟨a', b', c', d', e', f', g', i', j', rfl⟩ := sq3 h'
    simp [mulM, mulE, genM, en, List.range_succ, bar3, det3]
    grind
  · obtain ⟨a, b, c, d, e, f, g, i, j, k, l, m, n, o, p, q, rfl⟩ := sq4 h
    obtain ⟨a', b', c', d', e', f', g', i', j', k', l', m', n', o', p', q', rfl⟩ := sq4 h'
    simp [mulM, mulE, genM, en, List.range_succ, bar4, det4, det3]
    grind
end G
set_option Elab.async false
set_option linter.all false
set_option maxRecDepth 100000
namespace G
open PySem PySem.Spec PyProof.Rows L2 Evl
theorem minor_cat {n : Nat} {a : List (List Int)} (h : Sq n a) (hn : n ≤ 4) {i k : Nat} (hk : k < n) : (a.take k ++ a.drop (k + 1)).map (fun r => delC r i) = minorM a k i := by
  have hc : n = 1 ∨ n = 2 ∨ n = 3 ∨ n = 4 := by omega
  rcases hc with rfl | rfl | rfl | rfl
  · obtain ⟨r, rfl⟩ := lit1 h.len
    have : k = 0 := by omega
    subst this
    rfl
  · obtain ⟨r, s, rfl⟩ := lit2 h.len
    have : k = 0 ∨ k = 1 := by omega
    rcases this with rfl | rfl <;> rfl
  · obtain ⟨r, s, t, rfl⟩ := lit3 h.len
    have : k = 0 ∨ k = 1 ∨ k = 2 := by omega
    rcases this with rfl | rfl | rfl <;> rfl
  · obtain ⟨r, s, t, u, rfl⟩ := lit4 h.len
    have : k = 0 ∨ k = 1 ∨ k = 2 ∨ k = 3 := by omega
    rcases this with rfl | rfl | rfl | rfl <;> rfl
theorem minor_sq {n : Nat} {a : List (List Int)} (h : Sq n a) (hn : n ≤ 4) {i k : Nat} (hi : i < n) (hk : k < n) : Sq (n - 1) (minorM a k i) := ⟨by rw [minorM_len (by rw [h.len]; exact hn) (by rw [h.len]; exact hk), h.len], minorM_mem h.row hi⟩
theorem adj_sg {a : List (List Int)} {i k : Nat} : sg (i + k) * bar (minorM a k i) = adjE a i k := by
  unfold adjE sg
  rw [Int.fmod_eq_emod_of_nonneg _ (by decide)]
  by_cases h : (i + k) % 2 = 1
  · rw [if_pos h, show ((i + k : Nat) : Int) % 2 = 1 by omega]
    omega
  · rw [if_neg h, show ((i + k : Nat) : Int) % 2 = 0 by omega]
    omega
end G
set_option Elab.async false
set_option linter.all false
set_option maxRecDepth 100000
set_option maxHeartbeats 4000000
namespace G02
open PySem PySem.Spec PyProof.Rows L2 Evl G
theorem z_if {K : PySem.W.Frag} {F H : Hp} {M : List Addr} {δ : G.Env} {μ μ' : Sto} {σ : L2.St} {t : TT} {tu tw u : TS} {D : L2.Ends} {b : Bool} (s : Sta K F M δ μ σ H) (h : TX K t δ μ μ' b) (h1 : b = true → ∀ H', Sta K F M δ μ' σ H' → tu { D with nx := u D } σ H') (h2 : b = false → ∀ H', Sta K F M δ μ' σ H' → tw { D with nx := u D } σ H') : tSeq (tIfS t tu tw) u D σ H := x_if (D := { D with nx := u D }) s h h1 h2
theorem z_par {K : PySem.W.Frag} {F H : Hp} {M : List Addr} {δ : G.Env} {μ μ' : Sto} {σ : L2.St} {i j : Nat} {ta : TA} {u : TS} {D : L2.Ends} {d1 d2 : DV} (s : Sta K F M δ μ σ H) (h : AX K ta δ μ μ' [d1, d2]) (k : ∀ σ' H', Sta K F M ((δ.set i (some d1)).set j (some d2)) μ' σ' H' → u D σ' H') : tSeq (tPar i j ta) u D σ H := x_par (D := { D with nx := u D }) s h k
/-- the law's promise: the script's numbers have a bounded number of bits -/
def rLawB : List DV → DV → Prop := fun ds r => ∃ ns : List Int, ds = [.lst (ns.map .int)] ∧ ns.length ≤ 63 ∧ (∀ x ∈ ns, x.natAbs < 2 ^ 1048577) ∧ r = .bl true
section
variable {P : Program} {w : World} {K : PySem.W.Frag} {mg : Str → Option Value} {base : Heap} {C : Addr} {f : Addr} {fd : FuncData}
theorem ok_law (F : Fun K "law" "law" s_law f fd) (T : Txt P K mg base C) (c_law_state : CalG P w K mg base 2 "_law_state" (spLR K StPre StPost) []) (c_law_take : CalG P w K mg base 42 "_law_take" (spS K rTake) []) (c_law_rows : CalG P w K mg base 44 "_law_rows" (spSR K RwPre RwPost) [])
    (c_law_cell : CalG P w K mg base 2 "_law_cell" (spD K fun ds r => ∃ (ns : List Int), ds = [.lst (ns.map .int), .int 0] ∧ r = .int (ns.getD 0 0)) []) (k_Grid : MakG P w K mg base 6 "Grid" C (spI K C rInit) []) (c_law_determinant : CalG P w K mg base 7 "_law_determinant" (spD K rLDetZA) [])
    (m_Grid_determinant : MetG P w K mg base 44 C "determinant" (spD K (rDetG C))) (m_Grid_mul : MetG P w K mg base 8 C "__mul__" (spD K (rMulG C))) (m_Grid_transposed : MetG P w K mg base 8 C "transposed" (spD K (rTrans C))) (m_Grid_adjugate : MetG P w K mg base 44 C "adjugate" (spD K (rAdj C)))
    (c_law_is_rows : CalG P w K mg base 4 "_law_is_rows" (spD K (rIsRows C)) []) (c_law_product : CalG P w K mg base 2 "_law_product" (spD K rProd) []) (m_Grid_is_unimodular : MetG P w K mg base 44 C "is_unimodular" (spD K (rUnim C))) (c_law_refused : CalG P w K mg base 48 "_law_refused" (spD K (rRefd C)) []) : FnOk P w K mg base CX0 50 f fd ["script"] (spD K rLawB) := by
  refine okD F sc_law (fun ds r h => by obtain ⟨ns, rfl, _⟩ := h; rfl) fun cdv A outer s H E hr => ⟨_, (pss_cons (ps_set (i := 1) sc_law.nd rfl (Or.inl rfl) (pe_cG c_law_state hr (by decide) rfl (pa_cons (pv 0) pa_nil)))
      (pss_cons (ps_set (i := 2) sc_law.nd rfl (Or.inr rfl) (pe_cG c_law_take hr (by decide) rfl (pa_cons (pv 1) (pa_cons pe_int pa_nil))))
      (pss_cons (ps_set (i := 3) sc_law.nd rfl (Or.inl rfl) (pe_cG c_law_rows hr (by decide) rfl (pa_cons (pv 1) (pa_cons (pv 2) (pa_cons (pv 2) (pa_cons pe_int pa_nil))))))
      (pss_cons (ps_set (i := 4) sc_law.nd rfl (Or.inl rfl) (pe_cG c_law_rows hr (by decide) rfl (pa_cons (pv 1) (pa_cons (pv 2) (pa_cons (pv 2) (pa_cons pe_int pa_nil))))))
      (pss_cons (ps_if (PW.pt (pw_and (pt_cmpR op_gt (pv 2) pe_int (nomark _)) (pw_and1 (pt_cmpR op_eq (pe_cG c_law_take hr (by decide) rfl (pa_cons (pv 1) (pa_cons pe_int pa_nil))) pe_int (nomark _))))) (pss_one (ps_set (i := 3) sc_law.nd rfl (Or.inl rfl) (pe_op (op_catK (K := K)) (pe_tup (pa_cons (pe_op (op_catK (K := K)) (pe_tup (pa_cons (pe_cG c_law_cell hr (by decide) rfl (pa_cons (pv 0) (pa_cons pe_int pa_nil))) pa_nil)) (pe_slice (sl_tupK (K := K)) (pe_ix (ix_seqK (K := K)) (pv 3) pe_int (fun _ _ => rfl)) (po_some pe_int) po_none)) pa_nil)) (pe_slice (sl_tupK (K := K)) (pv 3) (po_some pe_int) po_none)))) pss_nil)
      (pss_cons (ps_par (i := 5) (j := 6) (by rfl) sc_law.nd rfl rfl (by decide) rfl rfl (pa_cons (pe_mkG k_Grid hr (by decide) rfl (pa_cons (pv 3) (pa_cons (pv 2) pa_nil))) (pa_cons (pe_mkG k_Grid hr (by decide) rfl (pa_cons (pv 4) (pa_cons (pv 2) pa_nil))) pa_nil)) (by rfl))
      (pss_cons (ps_asg (pe_tup (pa_cons (pe_cG c_law_determinant hr (by decide) rfl (pa_cons (pv 3) pa_nil)) (pa_cons (pe_cG c_law_determinant hr (by decide) rfl (pa_cons (pv 4) pa_nil)) pa_nil))) (pg_tup rfl (pgs_cons (pg_name (i := 7) sc_law.nd rfl (Or.inr rfl)) (pgs_cons (pg_name (i := 8) sc_law.nd rfl (Or.inl rfl)) pgs_nil))))
      (pss_cons (ps_if (PW.pt (pw_or (pt_cmpR op_ne (pe_mtG0 m_Grid_determinant hr (by decide) (pv 5)) (pv 7) (nomark _)) (pw_or (pt_val (pe_callB (call_isK (K := K)) (by rfl) T.u_isinstance PyProof.Rows.boot_isinstance (pa_cons (pe_mtG0 m_Grid_determinant hr (by decide) (pv 5)) (pa_cons (pe_bltn (v := .ty "bool") (u := .type "bool") (by rfl) T.u_bool (by decide +kernel) rfl) pa_nil)))) (pw_or (pt_cmpR op_ne (pe_mtG0 m_Grid_determinant hr (by decide) (pe_op (opB T.gGrid.sf m_Grid_mul hr (by decide)) (pv 5) (pv 6))) (pe_op op_mulB (pv 7) (pv 8)) (nomark _)) (pw_or1 (pt_cmpR op_ne (pe_mtG0 m_Grid_determinant hr (by decide) (pe_mtG0 m_Grid_transposed hr (by decide) (pv 5))) (pv 7) (nomark _))))))) (pss_one (ps_ret pe_bl)) pss_nil)
      (pss_cons (ps_set (i := 9) sc_law.nd rfl (Or.inl rfl) (pe_mtG0 m_Grid_adjugate hr (by decide) (pv 5)))
      (pss_cons (ps_if (pt_not (pt_val (pe_cG c_law_is_rows hr (by decide) rfl (pa_cons (pv 9) (pa_cons (pv 2) (pa_cons (pv 2) pa_nil)))))) (pss_one (ps_ret pe_bl)) pss_nil)
      (pss_cons (ps_set (i := 10) sc_law.nd rfl (Or.inl rfl) (pe_lst pa_nil))
      (pss_cons (ps_for PassesOwn.never rfl (pi_range1 (by rfl) T.u_range (pa_cons (pv 2) pa_nil)) (pg_name (i := 11) sc_law.nd rfl (Or.inr rfl)) (pss_cons (ps_set (i := 12) sc_law.nd rfl (Or.inl rfl) (pe_lst pa_nil))
      (pss_cons (ps_for PassesOwn.never rfl (pi_range1 (by rfl) T.u_range (pa_cons (pv 2) pa_nil)) (pg_name (i := 13) sc_law.nd rfl (Or.inl rfl)) (pss_cons (ps_setLc (i := 14) (own := [("row", 16)]) (g := gName 16) (tt := tYes) (by rfl) sc_law.nd rfl rfl (sw_true rfl rfl rfl (by decide +kernel)) (pi_seqK (K := K) (pe_op (op_catK (K := K)) (pe_slice (sl_tupK (K := K)) (pv 3) po_none (po_some (pv 13))) (pe_slice (sl_tupK (K := K)) (pv 3) (po_some (pe_op op_add (pv 13) pe_int)) po_none))) (blkOk_by (N := ["script", "state", "n", "a", "b", "x", "y", "d", "e", "adjugate", "due", "i", "line", "k", "minor", "scalar", "row"]) (sc := defScope s_law) (own := [("row", 16)]) (by first | decide +kernel | kernel_rfl)) (fun _ _ _ _ _ => (pg_name (i := 16) sc_law.nd rfl (Or.inl rfl))) (fun _ _ _ _ _ => pts_nil) (fun _ _ _ _ _ => (pe_op (op_catK (K := K)) (pe_slice (sl_tupK (K := K)) (pv 16) po_none (po_some (pv 11))) (pe_slice (sl_tupK (K := K)) (pv 16) (po_some (pe_op op_add (pv 11) pe_int)) po_none))))
      (pss_one (ps_expr (pe_bm PySem.F.plainAttrs_list PySem.F.slot_list_append PySem.F.type_list_append mt_append (pv 12) (pa_cons (pe_op op_mulB (pe_op op_sub pe_int (pe_op op_mulB pe_int (pe_op op_modN (pe_op op_add (pv 11) (pv 13)) pe_int))) (pe_cG c_law_determinant hr (by decide) rfl (pa_cons (pv 14) pa_nil))) pa_nil))))))
      (pss_one (ps_expr (pe_bm PySem.F.plainAttrs_list PySem.F.slot_list_append PySem.F.type_list_append mt_append (pv 10) (pa_cons (pe_callTy (call_tupK (K := K)) (by rfl) T.u_tuple PyProof.Rows.boot_tuple (pa_cons (pv 12) pa_nil)) pa_nil)))))))
      (pss_cons (ps_if (pt_cmpR (op_neDK (K := K) hr.units) (pe_fldK (K := K) (pv 9)) (pe_callTy (call_tupK (K := K)) (by rfl) T.u_tuple PyProof.Rows.boot_tuple (pa_cons (pv 10) pa_nil)) (nomark _)) (pss_one (ps_ret pe_bl)) pss_nil)
      (pss_cons (ps_set (i := 15) sc_law.nd rfl (Or.inl rfl) (pe_callTy (call_tupK (K := K)) (by rfl) T.u_tuple PyProof.Rows.boot_tuple (pa_cons (pe_lc (own := [("i", 11)]) (g := gName 11) (tt := tYes) (by rfl) sc_law.nd (pi_range1 (by rfl) T.u_range (pa_cons (pv 2) pa_nil)) (blkOk_by (N := ["script", "state", "n", "a", "b", "x", "y", "d", "e", "adjugate", "due", "i", "line", "k", "minor", "scalar", "row"]) (sc := defScope s_law) (own := [("i", 11)]) (by first | decide +kernel | kernel_rfl)) (fun _ _ _ _ _ => (pg_name (i := 11) sc_law.nd rfl (Or.inr rfl))) (fun _ _ _ _ _ => pts_nil) (fun _ _ _ _ _ => (pe_callTy (call_tupK (K := K)) (by rfl) T.u_tuple PyProof.Rows.boot_tuple (pa_cons (pe_lc (own := [("k", 13)]) (g := gName 13) (tt := tYes) (by rfl) sc_law.nd (pi_range1 (by rfl) T.u_range (pa_cons (pv 2) pa_nil)) (blkOk_by (N := ["script", "state", "n", "a", "b", "x", "y", "d", "e", "adjugate", "due", "i", "line", "k", "minor", "scalar", "row"]) (sc := _) (own := [("k", 13)]) (by first | decide +kernel | kernel_rfl)) (fun _ _ _ _ _ => (pg_name (i := 13) sc_law.nd rfl (Or.inl rfl))) (fun _ _ _ _ _ => pts_nil) (fun _ _ _ _ _ => (pe_op op_mulB (pv 7) (pe_callTy call_int1 (by rfl) T.u_int PyProof.Rows.boot_int (pa_cons (pe_cmpR op_eq (pv 11) (pv 13) (nomark _)) pa_nil))))) pa_nil)))) pa_nil)))
      (pss_cons (ps_if (PW.pt (pw_or (pt_cmpR (op_neDK (K := K) hr.units) (pe_cG c_law_product hr (by decide) rfl (pa_cons (pv 3) (pa_cons (pe_fldK (K := K) (pv 9)) (pa_cons (pv 2) pa_nil)))) (pv 15) (nomark _)) (pw_or1 (pt_cmpR (op_neDK (K := K) hr.units) (pe_cG c_law_product hr (by decide) rfl (pa_cons (pe_fldK (K := K) (pv 9)) (pa_cons (pv 3) (pa_cons (pv 2) pa_nil)))) (pv 15) (nomark _))))) (pss_one (ps_ret pe_bl)) pss_nil)
      (pss_cons (ps_if (pt_cmpR op_ne (pe_mtG0 m_Grid_is_unimodular hr (by decide) (pv 5)) (pe_cmpR op_eq (pe_callB call_abs (by rfl) T.u_abs PyProof.Rows.boot_abs (pa_cons (pv 7) pa_nil)) pe_int (nomark _)) (nomark _)) (pss_one (ps_ret pe_bl)) pss_nil)
      (pss_one (ps_ret (pe_cG c_law_refused hr (by decide) rfl (pa_cons (pe_mkG k_Grid hr (by decide) rfl (pa_cons (pe_lc (own := [("i", 11)]) (g := gName 11) (tt := tYes) (by rfl) sc_law.nd (pi_range1 (by rfl) T.u_range (pa_cons (pv 2) pa_nil)) (blkOk_by (N := ["script", "state", "n", "a", "b", "x", "y", "d", "e", "adjugate", "due", "i", "line", "k", "minor", "scalar", "row"]) (sc := defScope s_law) (own := [("i", 11)]) (by first | decide +kernel | kernel_rfl)) (fun _ _ _ _ _ => (pg_name (i := 11) sc_law.nd rfl (Or.inl rfl))) (fun _ _ _ _ _ => pts_nil) (fun _ _ _ _ _ => (pe_lc (own := [("k", 13)]) (g := gName 13) (tt := tYes) (by rfl) sc_law.nd (pi_range1 (by rfl) T.u_range (pa_cons (pe_op op_add (pv 2) pe_int) pa_nil)) (blkOk_by (N := ["script", "state", "n", "a", "b", "x", "y", "d", "e", "adjugate", "due", "i", "line", "k", "minor", "scalar", "row"]) (sc := _) (own := [("k", 13)]) (by first | decide +kernel | kernel_rfl)) (fun _ _ _ _ _ => (pg_name (i := 13) sc_law.nd rfl (Or.inl rfl))) (fun _ _ _ _ _ => pts_nil) (fun _ _ _ _ _ => pe_int)))) (pa_cons (pe_op op_add (pv 2) pe_int) pa_nil))) pa_nil)))))))))))))))))))), ?_⟩
  intro F M ds r σ H1 D hR st krt knx
  obtain ⟨ns, rfl, hns, hbits, rfl⟩ := hR
  refine x_asgLR st (ax_cons (ex_var rfl) ax_nil) ⟨ns, rfl, hns⟩ fun rs p σ H2 hpost hp hpF st => ?_
  obtain ⟨s, rfl⟩ := hpost
  have tk : ∀ (δ : G.Env) (te : TE) (L : Sto) (s : S2) (m : Int), 0 < m → δ[1]? = some (some (.box p)) → L[0]? = some (p, stD s) → EX K te δ L L (.int m) → EX K (tCall (spS K rTake) [] E0 (tCons (tVar 1) (tCons te tNil))) δ L (L.set 0 (p, stD (tkS s m))) (.int (tkV s m)) := fun δ te L s m hm h0 hL ht => ex_callS (j := 0) (ex_var h0) (ax_cons ht ax_nil) hL ⟨s, m, rfl, rfl, hm, rfl, rfl⟩
  obtain ⟨n, hn, hn5⟩ := tkV_nat s (m := 5) (by omega)
  have hn4 : n ≤ 4 := by omega
  refine x_asg (d := .int (n : Nat)) st (EX.to (EX.is (tk _ _ _ s 5 (by decide) rfl rfl ex_int) (by rw [show tkV s 5 = (n : Int) from hn])) rfl) fun σ H3 st => ?_
  refine x_asgSR (j := 0) (s0 := stD (tkS s 5)) st (ex_var rfl) (ax_cons (ex_var rfl) (ax_cons (ex_var rfl) (ax_cons ex_int ax_nil))) rfl ⟨tkS s 5, n, n, 9, rfl, rfl, by omega, by omega, by omega⟩ fun s1 r1 σ H4 hpost st => ?_
  obtain ⟨h', w', m', t1, a0, hds, rfl, oa, rfl⟩ := hpost
  have e3 : n = h' ∧ n = w' ∧ 9 = m' := by
    simp only [List.cons.injEq, DV.int.injEq] at hds
    omega
  obtain ⟨rfl, rfl, rfl⟩ := e3
  refine x_asgSR (j := 0) (s0 := stD t1) st (ex_var rfl) (ax_cons (ex_var rfl) (ax_cons (ex_var rfl) (ax_cons ex_int ax_nil))) rfl ⟨t1, n, n, 5, rfl, rfl, by omega, by omega, by omega⟩ fun s1 r1 σ H5 hpost st => ?_
  obtain ⟨h2, w2, m2, t2, b, hds, rfl, ob, rfl⟩ := hpost
  have e3 : n = h2 ∧ n = w2 ∧ 5 = m2 := by
    simp only [List.cons.injEq, DV.int.injEq] at hds
    omega
  obtain ⟨rfl, rfl, rfl⟩ := e3
  have cellB : (ns.getD 0 0).natAbs < 2 ^ 1048577 := by
    cases ns with
    | nil => exact Nat.pow_pos (by omega)
    | cons x xs => exact hbits x (by simp)
  have big : 18 < 2 ^ 1048577 := Nat.lt_of_lt_of_le (show 18 < 2 ^ 5 by decide) (Nat.pow_le_pow_right (by omega) (by omega))
  have ga0 : GOk a0 n 1048577 := ⟨by have := oa.len; omega, by omega, oa.row, fun x hx y hy => Nat.lt_of_le_of_lt (oa.sm x hx y hy) big⟩
  have gb : GOk b n 5 := ⟨by have := ob.len; omega, by omega, ob.row, fun x hx y hy => Nat.lt_of_le_of_lt (ob.sm x hx y hy) (by decide)⟩
  have la0 := oa.len
  have lb := ob.len
  clear oa ob
  dsimp only
  refine z_if (b := decide (0 < n) && decide (tkV t2 4 = 0)) (μ' := [(p, stD (if 0 < n then tkS t2 4 else t2))]) st ?test (fun hb H6 st => ?a) fun hb H6 st => ?b
  case test =>
    by_cases h0 : 0 < n
    · rw [if_pos h0]
      exact TX.is (tx_andS (a := true) (b := decide (tkV t2 4 = 0)) (TX.is (tx_test (ex_gt (ex_var rfl) ex_int)) (decide_eq_true (by omega))) (fun _ => tx_test (ex_eqI (EX.to (tk _ _ _ t2 4 (by decide) rfl rfl ex_int) rfl) ex_int)) (fun z => by cases z)) (by rw [decide_eq_true h0])
    · rw [if_neg h0]
      exact TX.is (tx_andS (a := false) (b := true) (TX.is (tx_test (ex_gt (ex_var rfl) ex_int)) (decide_eq_false (by omega))) (fun z => by cases z) (fun _ => rfl)) (by rw [decide_eq_false h0]; rfl)
  case' a =>
    have h0 : 0 < n := of_decide_eq_true (Bool.and_eq_true_iff.mp hb).1
    have ra : (a0.getD 0 []).length = n := ga0.rowAt (by omega)
    refine y_asg (d := rowsT ((ns.getD 0 0 :: (a0.getD 0 []).drop 1) :: a0.drop 1)) st (EX.is (ex_catT (ex_tup (ax_cons (EX.is (e' := rowT (ns.getD 0 0 :: (a0.getD 0 []).drop 1)) (ex_catT (ex_tup (ax_cons (ex_call (ax_cons (ex_var rfl) (ax_cons ex_int ax_nil)) ⟨ns, rfl, rfl⟩) ax_nil)) (ex_slT (ex_ix (ex_var rfl) ex_int (.tup _) (atI_rowT (t := a0) (i := 0) (by omega))) (ox_some ex_int) ox_none) ?a1) ?a2) ax_nil)) (ex_slT (ex_var rfl) (ox_some ex_int) ox_none) ?a3) ?a4) fun σ H7 st => ?_
    case a1 =>
      rw [show (1 : Int) = ((1 : Nat) : Int) from rfl, cutG_from, List.length_map, List.length_drop, ra]
      simp
      omega
    case a2 =>
      rw [show (1 : Int) = ((1 : Nat) : Int) from rfl, cutG_from]
      rfl
    case a3 =>
      rw [show (1 : Int) = ((1 : Nat) : Int) from rfl, cutG_from, List.length_map, List.length_drop]
      simp
      omega
    case a4 =>
      rw [show (1 : Int) = ((1 : Nat) : Int) from rfl, cutG_from]
      rfl
    obtain ⟨a, t, la, ga, st⟩ : ∃ a t, a.length = n ∧ GOk a n 1048577 ∧ Sta K F (p :: M) [some (.lst (ns.map .int)), some (.box p), some (.int n), some (rowsT a), some (rowsT b), none, none, none, none, none, none, none, none, none, none, none, none] [(p, stD t)] σ H7 := by
      refine ⟨_, _, by rw [List.length_cons, List.length_drop]; omega, ⟨by rw [List.length_cons, List.length_drop]; omega, by omega, fun x hx => ?_, fun x hx => ?_⟩, st⟩
      · rcases List.mem_cons.mp hx with rfl | hx
        · rw [List.length_cons, List.length_drop]; omega
        · exact ga0.row x (List.mem_of_mem_drop hx)
      · rcases List.mem_cons.mp hx with rfl | hx
        · intro y hy
          rcases List.mem_cons.mp hy with rfl | hy
          · exact cellB
          · exact rows_sm ga0.sm 0 y (List.mem_of_mem_drop hy)
        · exact ga0.sm x (List.mem_of_mem_drop hx)
  case' b =>
    obtain ⟨a, t, la, ga, st⟩ : ∃ a t, a.length = n ∧ GOk a n 1048577 ∧ Sta K F (p :: M) [some (.lst (ns.map .int)), some (.box p), some (.int n), some (rowsT a), some (rowsT b), none, none, none, none, none, none, none, none, none, none, none, none] [(p, stD t)] σ H6 := ⟨_, _, la0, ga0, st⟩
  all_goals
    dsimp only [tNext]
    have sqa : Sq n a := ⟨la, ga.row⟩
    have sqb : Sq n b := ⟨lb, gb.row⟩
    have hla : a.length ≤ 1000 := by omega
    have hlb : b.length ≤ 1000 := by omega
    refine z_par (d1 := gridD C a n) (d2 := gridD C b n) st (ax_cons (ex_make (dd := []) (ax_cons (ex_var rfl) (ax_cons (ex_var rfl) ax_nil)) (fun _ => .nil) (initOf (w := n) (isRowsT a) hla (by omega) ga.row)) (ax_cons (ex_make (dd := []) (ax_cons (ex_var rfl) (ax_cons (ex_var rfl) ax_nil)) (fun _ => .nil) (initOf (w := n) (isRowsT b) hlb (by omega) gb.row)) ax_nil)) fun σ H8 st => ?_
    have da := detZ_bar sqa hn4
    have db := detZ_bar sqb hn4
    refine x_tup2 (D := { D with nx := _ }) (d1 := .int (detZ n a)) (d2 := .int (detZ n b)) st (ex_tup (ax_cons (ex_call (ax_cons (ex_var rfl) ax_nil) ⟨n, hn4, _, a, 1048577, rfl, .tup _, la, ga.row, ga.sm, by omega, hn4, rfl⟩) (ax_cons (ex_call (ax_cons (ex_var rfl) ax_nil) ⟨n, hn4, _, b, 5, rfl, .tup _, lb, gb.row, gb.sm, by omega, hn4, rfl⟩) ax_nil))) fun σ H9 st => ?_
    have sa := detZ_sm n a hn4 ga.sm
    have sb := detZ_sm n b hn4 gb.sm
    rw [da, db] at st
    rw [da] at sa
    rw [db] at sb
    have hm8 : (1048577 + 8) * n ≤ (1048577 + 8) * 4 := Nat.mul_le_mul_left _ hn4
    have hm9 : (5 + 8) * n ≤ (5 + 8) * 4 := Nat.mul_le_mul_left _ hn4
    have gm : GOk (mulM a b n) n 1048589 := by
      unfold mulM
      exact .gen (by omega) (by omega) fun i j _ _ => mulE_sm (A := 1048577) (B := 5) (fun k => ga.en i k) (fun k => gb.en k j) (by omega)
    have lm : (mulM a b n).length = n := by unfold mulM; rw [genM_len]; exact la
    have gt : GOk (trM a n) n 1048577 := by
      unfold trM
      rw [la]
      exact .gen (by omega) (by omega) fun i j _ _ => ga.en j i
    have lt : (trM a n).length = n := genM_len
    have hbm := bar_mul sqa sqb hn4
    have hbt := bar_tr sqa hn4
    have dx : ∀ {δ : G.Env} {μ : Sto}, δ[5]? = some (some (gridD C a n)) → EX K (tMeth C "determinant" (spD K (rDetG C)) [] E0 (tVar 5) tNil) δ μ μ (.int (bar a)) := fun h => ex_meth (ex_var h) rfl ax_nil ⟨a, n, 1048577, rfl, ga, by omega, by omega, la, hn4, rfl⟩
    refine y_skip (D := { D with nx := _ }) st (TX.is (tx_or (tx_test (ex_neI (dx rfl) (ex_var rfl))) fun _ => tx_or (tx_val (ex_isiB (b := false) (dx rfl) .int (by decide +kernel))) fun _ => tx_or (tx_test (ex_neI (ex_meth (ex_ownB (ex_var rfl) (ex_var rfl) ⟨a, b, n, n, 1048577, 5, rfl, lb.symm, ga, gb, by omega, rfl⟩) rfl ax_nil ⟨mulM a b n, n, 1048589, rfl, gm, by omega, by omega, lm, hn4, rfl⟩) (ex_mul (ex_var rfl) (ex_var rfl) (smMul sa sb (by omega))))) fun _ => tx_test (ex_neI (ex_meth (EX.is (e' := gridD C (trM a n) n) (ex_meth (ex_var rfl) rfl ax_nil ⟨a, n, 1048577, rfl, ga, rfl⟩) (by rw [la])) rfl ax_nil ⟨trM a n, n, 1048577, rfl, gt, by omega, by omega, lt, hn4, rfl⟩) (ex_var rfl))) (by rw [hbm, hbt]; simp)) fun H10 st => ?_
    have gA : GOk (adjM a n) n (8 * 1048577 + 8) := .gen (by omega) (by omega) fun i j hi hj => adjE_sm ga (by omega) la hn4 hi hj
    have lA : (adjM a n).length = n := genM_len
    refine y_asg (D := { D with nx := _ }) (d := gridD C (adjM a n) n) st (ex_meth (ex_var rfl) rfl ax_nil ⟨a, n, 1048577, rfl, ga, by omega, by omega, la, hn4, rfl⟩) fun σ H11 st => ?_
    refine y_skip (D := { D with nx := _ }) st (TX.is (tx_not (tx_val (ex_call (ax_cons (ex_var rfl) (ax_cons (ex_var rfl) (ax_cons (ex_var rfl) ax_nil))) ⟨adjM a n, n, n, _, rfl, lA, gA, rfl⟩))) rfl) fun H12 st => ?_
    refine y_asgL (D := { D with nx := _ }) st (lx_lst ax_nil) fun q σ H13 hq hqF st => ?_
    refine x_forP (D := { D with nx := _ }) (fun i M1 δ1 μ1 => M1 = q :: p :: M ∧ (∃ x11 x12 x13 x14, δ1 = [some (.lst (ns.map .int)), some (.box p), some (.int n), some (rowsT a), some (rowsT b), some (gridD C a n), some (gridD C b n), some (.int (bar a)), some (.int (bar b)), some (gridD C (adjM a n) n), some (.box q), x11, x12, x13, x14, none, none]) ∧ μ1 = [(q, (List.range i).map fun i => rowT ((List.range n).map fun k => adjE a i k)), (p, stD t)]) st (wx_range1 (n := (n : Int)) (ax_cons (ex_var rfl) ax_nil) (by omega) (by omega)) ⟨rfl, ⟨none, none, none, none, rfl⟩, rfl⟩ ?_ ?_
    · rintro F1 i M1 δ1 μ1 σ H14 eF hi ⟨rfl, ⟨x11, x12, x13, x14, rfl⟩, rfl⟩ nw st
      have hi' : i < n := by omega
      refine y_asgL st (lx_lst ax_nil) fun q2 σ H15 hq2 hq2F st => ?_
      refine x_forP (fun k M1 δ1 μ1 => M1 = q2 :: q :: p :: M ∧ (∃ x13 x14, δ1 = [some (.lst (ns.map .int)), some (.box p), some (.int n), some (rowsT a), some (rowsT b), some (gridD C a n), some (gridD C b n), some (.int (bar a)), some (.int (bar b)), some (gridD C (adjM a n) n), some (.box q), some (.int (i : Nat)), some (.box q2), x13, x14, none, none]) ∧ μ1 = [(q2, (List.range k).map fun k => DV.int (adjE a i k)), (q, (List.range i).map fun i => rowT ((List.range n).map fun k => adjE a i k)), (p, stD t)]) st (wx_range1 (n := (n : Int)) (ax_cons (ex_var rfl) ax_nil) (by omega) (by omega)) ⟨rfl, ⟨x13, x14, rfl⟩, rfl⟩ ?_ ?_
      · rintro F2 k M1 δ1 μ1 σ H16 eF2 hk ⟨rfl, ⟨x13, x14, rfl⟩, rfl⟩ nw2 st
        have hk' : k < n := by omega
        have mc := minor_cat (i := i) sqa hn4 hk'
        have ms := minor_sq sqa hn4 hi' hk'
        have mz := detZ_bar ms (by omega)
        have msm : ∀ x ∈ minorM a k i, Sm 1048577 x := minorM_sm ga.sm
        refine y_asg (d := .lst ((minorM a k i).map rowT)) st (EX.is (lx_lc1 (wx_seq (EX.is (e' := rowsT (a.take k ++ a.drop (k + 1))) (ex_catT (ex_slT (ex_var rfl) ox_none (ox_some (ex_var rfl))) (ex_slT (ex_var rfl) (ox_some (ex_add (ex_var rfl) ex_int)) ox_none) ?c1) ?c2) (.tup _)) (fun r => rowT (delC ((a.take k ++ a.drop (k + 1)).getD r []) i)) (by simp; omega) (by simp) fun r hr => ?c3).ex ?c4) fun σ H17 st => ?_
        case c1 =>
          rw [cutG_take, show ((k : Int) + 1) = ((k + 1 : Nat) : Int) by omega, cutG_from, List.length_map, List.length_map, List.length_take, List.length_drop]
          omega
        case c2 =>
          rw [cutG_take, show ((k : Int) + 1) = ((k + 1 : Nat) : Int) by omega, cutG_from, ← List.map_append]
          rfl
        case c3 =>
          rw [List.length_map] at hr
          have e1 := getD_rowT (a := a.take k ++ a.drop (k + 1)) (i := r) hr
          have hrl : ((a.take k ++ a.drop (k + 1)).getD r []).length = n := rows_at (rs := a.take k ++ a.drop (k + 1)) (fun x hx => (List.mem_append.mp hx).elim (fun z => ga.row x (List.mem_of_mem_take z)) fun z => ga.row x (List.mem_of_mem_drop z)) r hr
          refine EX.is (ex_catT (ex_slT (EX.is (ex_var rfl) e1) ox_none (ox_some (ex_var rfl))) (ex_slT (EX.is (ex_var rfl) e1) (ox_some (ex_add (ex_var rfl) ex_int)) ox_none) ?_) ?_
          · rw [cut_take, cut_drop, List.length_map, List.length_map, List.length_take, List.length_drop]
            omega
          · rw [cut_take, cut_drop, ← List.map_append]
            rfl
        case c4 =>
          rw [List.length_map, ← mc, List.map_map]
          show DV.lst _ = DV.lst _
          congr 1
          exact map_getD (fun r => rowT (delC r i)) (a.take k ++ a.drop (k + 1))
        have smz := detZ_sm (n - 1) (minorM a k i) (by omega) msm
        have hmz : (1048577 + 8) * (n - 1) ≤ (1048577 + 8) * 4 := Nat.mul_le_mul_left _ (by omega)
        have ads := adj_sg (a := a) (i := i) (k := k)
        rw [mz] at smz
        have sgb : (sg (i + k)).natAbs < 2 ^ 1 := by have := sg_bound (i + k); omega
        refine y_app (j := 0) (d := .int (adjE a i k)) st (ex_var rfl) (EX.is (ex_mul (EX.is (e' := .int (sg (i + k))) (ex_sub ex_int (ex_mul ex_int (ex_mod (ex_add (ex_var rfl) (ex_var rfl)) ex_int (by decide)) (mulSm (by omega)))) ?c5) (EX.is (e' := .int (bar (minorM a k i))) (ex_call (ax_cons (ex_var rfl) ax_nil) ⟨n - 1, by omega, _, minorM a k i, 1048577, rfl, .lst _, ms.len, ms.row, msm, by omega, by omega, rfl⟩) (by rw [mz])) (smMul sgb smz (by omega))) (by rw [ads])) rfl (by simp; omega) fun H18 st => ?_
        case c5 =>
          unfold sg
          rw [Int.natCast_add]
        refine nxt st nw2 ⟨rfl, ⟨_, _, rfl⟩, ?_⟩
        rw [List.range_succ, List.map_append]
        rfl
      · rintro M1 δ1 μ1 σ H16 ⟨rfl, ⟨x13, x14, rfl⟩, rfl⟩ nw2 st
        rw [Int.toNat_natCast] at st
        refine y_app (j := 1) st (ex_var rfl) (EX.is (e' := rowT ((List.range n).map fun k => adjE a i k)) (ex_tuple (ex_var rfl) (.box (j := 0) rfl)) (by show DV.tup _ = DV.tup _; rw [List.map_map]; rfl)) rfl (by simp; omega) fun H17 st => ?_
        have st := st.free (i := 12) hq2 rfl
        refine nxt st nw ⟨rfl, ⟨_, _, _, _, rfl⟩, ?_⟩
        rw [List.range_succ, List.map_append]
        rfl
    rintro M1 δ1 μ1 σ H14 ⟨rfl, ⟨x11, x12, x13, x14, rfl⟩, rfl⟩ nw st
    rw [Int.toNat_natCast] at st
    have dueE : rowsT (adjM a n) = .tup ((List.range n).map fun i => rowT ((List.range n).map fun k => adjE a i k)) := by
      show DV.tup _ = DV.tup _
      unfold adjM genM
      rw [List.map_map]
      rfl
    have eqr : ∀ x y : List (List Int), PyData.eqv (rowsT x).py (rowsT y).py = decide (x = y) := eqv_rows
    have f9 : ∀ {δ : G.Env} {μ : Sto}, δ[9]? = some (some (gridD C (adjM a n) n)) → EX K (tFld K (tVar 9) "rows") δ μ μ (rowsT (adjM a n)) := fun h => ex_fld (ex_var h) T.cl T.n_rows rfl
    refine y_skip (D := { D with nx := _ }) st (TX.is (tx_test (ex_neD (f9 rfl) (EX.is (ex_tuple (ex_var rfl) (.box (j := 0) rfl)) dueE.symm) (pl_rows _) (pl_rows _) (shaped_rows _) (shaped_rows _))) (by rw [eqr, decide_eq_true rfl]; rfl)) fun H15 st => ?_
    refine y_asg (D := { D with nx := _ }) (d := rowsT (G.scal n (bar a))) st (EX.is (ex_tuple (lx_lc1 (wx_range1 (n := (n : Int)) (ax_cons (ex_var rfl) ax_nil) (by omega) (by omega)) (fun i => rowT ((List.range n).map fun k => bar a * (if i = k then 1 else 0))) (by omega) (by simp) fun i hi => ?d1).ex (.lst _)) ?d2) fun σ H16 st => ?_
    case d1 =>
      refine EX.is (ex_tuple (lx_lc1 (wx_range1 (n := (n : Int)) (ax_cons (ex_var rfl) ax_nil) (by omega) (by omega)) (fun k => .int (bar a * (if i = k then 1 else 0))) (by omega) (by simp) fun k hk => EX.is (ex_mul (ex_var rfl) (ex_toB (ex_eqI (ex_var rfl) (ex_var rfl))) (mulSmR (by split <;> omega))) ?_).ex (.lst _)) (by show DV.tup _ = DV.tup _; rw [List.map_map]; rfl)
      congr 2
      by_cases h : i = k
      · subst h; simp
      · rw [if_neg h, decide_eq_false (by omega)]
        rfl
    case d2 =>
      show DV.tup _ = DV.tup _
      unfold G.scal genM
      rw [List.map_map]
      rfl
    have pr := adj_r sqa hn4
    have pl := adj_l sqa hn4
    refine y_skip (D := { D with nx := _ }) st (TX.is (tx_or (tx_test (ex_neD (EX.is (e' := rowsT (G.scal n (bar a))) (ex_call (ax_cons (ex_var rfl) (ax_cons (f9 rfl) (ax_cons (ex_var rfl) ax_nil))) ⟨a, adjM a n, n, 1048577, _, rfl, by rw [lA]; exact ga, gA, by omega, rfl⟩) (by rw [pr])) (EX.is (e' := rowsT (G.scal n (bar a))) (ex_var rfl) rfl) (pl_rows _) (pl_rows _) (shaped_rows _) (shaped_rows _))) fun _ => tx_test (ex_neD (EX.is (e' := rowsT (G.scal n (bar a))) (ex_call (ax_cons (f9 rfl) (ax_cons (ex_var rfl) (ax_cons (ex_var rfl) ax_nil))) ⟨adjM a n, a, n, _, 1048577, rfl, by rw [la]; exact gA, ga, by omega, rfl⟩) (by rw [pl])) (EX.is (e' := rowsT (G.scal n (bar a))) (ex_var rfl) rfl) (pl_rows _) (pl_rows _) (shaped_rows _) (shaped_rows _))) (by rw [eqr, decide_eq_true rfl]; rfl)) fun H17 st => ?_
    refine y_skip (D := { D with nx := _ }) st (TX.is (tx_test (ex_neB (ex_meth (ex_var rfl) rfl ax_nil ⟨a, n, 1048577, rfl, ga.row, by omega, by omega, fun _ => ⟨ga, hn4⟩, rfl⟩) (ex_eqI (ex_abs (ex_var rfl)) ex_int))) ?u1) fun H18 st => ?_
    case u1 =>
      rw [decide_eq_true la, Bool.true_and]
      have : ((bar a).natAbs = 1) ↔ ((if bar a < 0 then -bar a else bar a) = 1) := by split <;> omega
      rw [show decide ((bar a).natAbs = 1) = decide ((if bar a < 0 then -bar a else bar a) = 1) from decide_eq_decide.mpr this, decide_eq_true rfl]
      rfl
    refine y_end krt st (ex_call (ax_cons (ex_make (dd := []) (ax_cons (EX.is (e' := .lst ((genM n (n + 1) fun _ _ => 1).map rowL)) (lx_lc1 (wx_range1 (n := (n : Int)) (ax_cons (ex_var rfl) ax_nil) (by omega) (by omega)) (fun i => rowL ((List.range (n + 1)).map fun k => 1)) (by omega) (by simp) fun i hi => ?v1).ex ?v2) (ax_cons (EX.is (e' := .int ((n + 1 : Nat) : Int)) (ex_add (ex_var rfl) ex_int) (by rw [Int.natCast_add]; rfl)) ax_nil)) (fun _ => .nil) (initOf (w := n + 1) (isRowsL (genM n (n + 1) fun _ _ => 1)) (by rw [genM_len]; omega) (by omega) (fun x hx => genM_row x hx))) ax_nil) ⟨genM n (n + 1) fun _ _ => 1, n + 1, rfl, fun x hx => genM_row x hx, by rw [genM_len]; omega, rfl⟩) (Ex.refl _) (fun _ h => by simp [h])
    case v1 =>
      refine EX.is (lx_lc1 (wx_range1 (n := ((n + 1 : Nat) : Int)) (ax_cons (EX.is (ex_add (ex_var rfl) ex_int) (by rw [Int.natCast_add]; rfl)) ax_nil) (by omega) (by omega)) (fun k => .int 1) (by omega) (by simp) fun k hk => ex_int).ex ?_
      rw [Int.toNat_natCast]
      exact lstmap
    case v2 =>
      rw [Int.toNat_natCast]
      exact genD
end
end G02
set_option Elab.async false
namespace G
open PySem L2
/-- an own exception class is caught by its own clause -/
theorem exm_self {K : PySem.W.Frag} {S : Addr} (h1 : PySem.W.subIn K (.ref S) (.type "BaseException") = some true) (h2 : PySem.W.isClsIn K S = true) (h3 : PySem.W.typeIn K (.ref S) = some (.type "type")) (h4 : PySem.W.subIn K (.ref S) (.ref S) = some true) :
    PySem.W.exmOne K (.ref S) (.ref S) = some true := by
  have e1 : (PySem.W.subIn K (.ref S) (.type "BaseException") == some true) = true := by
    rw [h1]
    rfl
  have e2 : ((PySem.W.clsIn K S).isSome && PySem.W.typeIn K (.ref S) == some (.type "type")) = true := by
    have z : (PySem.W.clsIn K S).isSome = true := h2
    rw [z, h3]
    rfl
  unfold PySem.W.exmOne
  rw [if_pos e1]
  show (if ((PySem.W.clsIn K S).isSome && PySem.W.typeIn K (.ref S) == some (.type "type")) = true then _ else _) = _
  rw [if_pos e2]
  exact h4
end G
set_option Elab.async false
set_option linter.all false
set_option maxRecDepth 100000
namespace G
open PySem PySem.Spec PyProof.Rows L2 Evl
/-- walkN, the bits of the script's numbers told -/
theorem walkNB {l : PySem.W.OpenLaw} {n k : Nat} {q : Program} {loose : List Str} {XP : (Str → Option Value) → Heap → Prop} {YP : World → Heap → Prop} {d : DefRec} {K : Params → PySem.W.Frag} {CX : CXT} {sp : PySem.W.Frag → Sp} {x : Str}
    (hn : l.most = some n) (hn2 : n ≤ sizeLine) (hdf : d.params.defaults = []) (hr : Room k callerA) (hi : importsNone q = true)
    (hY : ∀ (w : World) (h : Heap), YP w h → (K w.params).In h)
    (F : ∀ (w : World) (mg : Str → Option Value) (fa : Addr) (h : Heap), (K w.params).In h → h.Ns mainGlobals mg → mg d.name = some (.ref fa) →
      ∃ fd : FuncData, (∀ (s : Shared) (u : Value), BindsTo s fd ⟨[u], []⟩ [(x, u)]) ∧
        ∀ base : Heap, (K w.params).In base → base.Ns mainGlobals mg → base.NoSeer → FnOk l.prog w (K w.params) mg base CX k fa fd [x] (sp (K w.params)))
    (hsp : ∀ (K : PySem.W.Frag) (H : Hp) (a : Addr) (ns : List Int), ns.length ≤ n → (∀ z ∈ ns, z.natAbs < 2 ^ 1048577) → Only H → SqL K H a (ns.map V.int) → sp K [.ref a] H (fun v _ => v = .bl true) fun _ _ _ => False)
    (hCX : ∀ (H : Hp) (s : Shared) (e : Value) (s' : Shared), CX [] H s (fun _ _ _ => False) e s' → False) : PySem.W.WalkO q loose XP YP l.row.toRowW d [] (fun f vs => PySem.call f vs) := by
  refine Att.attach_callB hn hdf fun w s₀ s₁ mg mb fa o pm cd doc a vs ns Gr Y ho hd hcd hmg hobj hints hlen hbits hg => ?_
  have KX := hY w _ Y
  obtain ⟨fd, hb, hF⟩ := F w mg fa _ KX Gr.T.g hmg
  have hb2 : ∀ z ∈ ns, z.natAbs < 2 ^ 1048577 := fun z hz => Nat.lt_of_lt_of_le (natAbs_lt_pow_bits z) (Nat.pow_le_pow_right (by omega) (Nat.le_trans (hbits z hz) (by omega)))
  exact law_run KX Gr.T.g Gr.T.b Gr.T.builtins Gr.T.nolimit (Gr.T.seer hi) hg hobj hints (Nat.le_trans hlen hn2) hr hF hb (fun H hO hS => hsp (K w.params) H a ns hlen hb2 hO hS) fun H e s' => hCX H s₁ e s'
end G
set_option Elab.async false
set_option linter.all false
set_option maxRecDepth 100000
set_option maxHeartbeats 4000000
namespace G02
open PySem PySem.Spec PyProof.Rows L2 Evl G
section
theorem all_mk {l : PySem.W.OpenLaw} {w : World} {K : PySem.W.Frag} {h : Heap} {mg : Str → Option Value} {fa C R f_is_integer f_dot f_checked f_determinant f_minor f_law_cell f_law_state f_law_take f_law_rows f_law_product f_law_determinant f_law_is_rows f_law_refused f_law f_Grid_len f_Grid_mul f_Grid_transposed f_Grid_is_square f_Grid_determinant f_Grid_adjugate f_Grid_is_unimodular f_Grid_init : Addr} (X : K.In h) (G : h.Ns mainGlobals mg) (hfa : mg "law" = some (.ref fa))
    {od_is_integer an_is_integer od_dot an_dot od_checked an_checked od_determinant an_determinant od_minor an_minor od_law_cell an_law_cell od_law_state an_law_state od_law_take an_law_take od_law_rows an_law_rows od_law_product an_law_product od_law_determinant an_law_determinant od_law_is_rows an_law_is_rows od_law_refused an_law_refused od_law an_law od_Grid_len an_Grid_len od_Grid_mul an_Grid_mul od_Grid_transposed an_Grid_transposed od_Grid_is_square an_Grid_is_square od_Grid_determinant an_Grid_determinant od_Grid_adjugate an_Grid_adjugate od_Grid_is_unimodular an_Grid_is_unimodular od_Grid_init an_Grid_init : Option Addr} {sl_is_integer sl_dot sl_checked sl_determinant sl_minor sl_law_cell sl_law_state sl_law_take sl_law_rows sl_law_product sl_law_determinant sl_law_is_rows sl_law_refused sl_law sl_Grid_len sl_Grid_mul sl_Grid_transposed sl_Grid_is_square sl_Grid_determinant sl_Grid_adjugate sl_Grid_is_unimodular sl_Grid_init : Array (Option Value)} {oc_is_integer kV_is_integer dc_is_integer pm_is_integer cd_is_integer ct_is_integer oc_dot kV_dot dc_dot pm_dot cd_dot ct_dot oc_checked kV_checked dc_checked pm_checked cd_checked ct_checked oc_determinant kV_determinant dc_determinant pm_determinant cd_determinant ct_determinant oc_minor kV_minor dc_minor pm_minor cd_minor ct_minor oc_law_cell kV_law_cell dc_law_cell pm_law_cell cd_law_cell ct_law_cell oc_law_state kV_law_state dc_law_state pm_law_state cd_law_state ct_law_state oc_law_take kV_law_take dc_law_take pm_law_take cd_law_take ct_law_take oc_law_rows kV_law_rows dc_law_rows pm_law_rows cd_law_rows ct_law_rows oc_law_product kV_law_product dc_law_product pm_law_product cd_law_product ct_law_product oc_law_determinant kV_law_determinant dc_law_determinant pm_law_determinant cd_law_determinant ct_law_determinant oc_law_is_rows kV_law_is_rows dc_law_is_rows pm_law_is_rows cd_law_is_rows ct_law_is_rows oc_law_refused kV_law_refused dc_law_refused pm_law_refused cd_law_refused ct_law_refused oc_law kV_law dc_law pm_law cd_law ct_law oc_Grid_len kV_Grid_len dc_Grid_len pm_Grid_len cd_Grid_len ct_Grid_len oc_Grid_mul kV_Grid_mul dc_Grid_mul pm_Grid_mul cd_Grid_mul ct_Grid_mul oc_Grid_transposed kV_Grid_transposed dc_Grid_transposed pm_Grid_transposed cd_Grid_transposed ct_Grid_transposed oc_Grid_is_square kV_Grid_is_square dc_Grid_is_square pm_Grid_is_square cd_Grid_is_square ct_Grid_is_square oc_Grid_determinant kV_Grid_determinant dc_Grid_determinant pm_Grid_determinant cd_Grid_determinant ct_Grid_determinant oc_Grid_adjugate kV_Grid_adjugate dc_Grid_adjugate pm_Grid_adjugate cd_Grid_adjugate ct_Grid_adjugate oc_Grid_is_unimodular kV_Grid_is_unimodular dc_Grid_is_unimodular pm_Grid_is_unimodular cd_Grid_is_unimodular ct_Grid_is_unimodular oc_Grid_init kV_Grid_init dc_Grid_init pm_Grid_init cd_Grid_init ct_Grid_init : Value}
    {TD_Grid_init : Addr} {ocT_Grid_init : Value} {odT_Grid_init : Option Addr} {nT_Grid_init : Nat} {slT_Grid_init : Array (Option Value)}
    (aC : PySem.W.nsIn K mainGlobals "Grid" = some (some (.ref C)))
    (pgC : PySem.W.plainGet K C Str.empty = true)
    (hdC : PySem.W.hasDictIn K C = true)
    (poC : PySem.W.plainOver K C = true)
    (saC : PySem.W.findIn K (.ref C) "__setattr__" = some (some (.builtin "object.__setattr__")))
    (haC : PySem.W.findIn K (.ref C) "__class__" = some (some (.builtin "object.__class__")))
    (hnC : PySem.W.specialIn K (.builtin "object.__class__") "__get__" = some (some (.builtin "getset_descriptor.__get__")))
    (htkC : PySem.W.takesIn K (.builtin "object.__class__") = some true)
    (hmC : PySem.W.mroIn K C (.type "object") = some true)
    (sfC : PySem.W.selfFirst K C = true)
    (neC : PySem.W.findIn K (.ref C) "__ne__" = some (some (.builtin "object.__ne__")))
    (mkC : PySem.W.makesIn K C = true)
    (kcC : PySem.W.keepIn K (.ref C) = true)
    (noC_rows : PySem.W.findIn K (.ref C) "rows" = some none)
    (noC_width : PySem.W.findIn K (.ref C) "width" = some none)
    (aR : PySem.W.nsIn K mainGlobals "Malformed" = some (some (.ref R)))
    (xR : PySem.W.excIn K R [.type "ValueError", .type "Exception", .type "BaseException", .type "object"] "ValueError.__new__" = true)
    (kR : PySem.W.keepIn K (.ref R) = true)
    (bR : PySem.W.subIn K (.ref R) (.type "BaseException") = some true)
    (tR : PySem.W.typeIn K (.ref R) = some (.type "type"))
    (iR : PySem.W.isClsIn K R = true)
    (sR : PySem.W.subIn K (.ref R) (.ref R) = some true)
    (u_len : PySem.W.nsIn K mainGlobals "len" = some none)
    (u_isinstance : PySem.W.nsIn K mainGlobals "isinstance" = some none)
    (u_int : PySem.W.nsIn K mainGlobals "int" = some none)
    (u_bool : PySem.W.nsIn K mainGlobals "bool" = some none)
    (u_list : PySem.W.nsIn K mainGlobals "list" = some none)
    (u_tuple : PySem.W.nsIn K mainGlobals "tuple" = some none)
    (u_range : PySem.W.nsIn K mainGlobals "range" = some none)
    (u_zip : PySem.W.nsIn K mainGlobals "zip" = some none)
    (u_enumerate : PySem.W.nsIn K mainGlobals "enumerate" = some none)
    (u_sum : PySem.W.nsIn K mainGlobals "sum" = some none)
    (u_abs : PySem.W.nsIn K mainGlobals "abs" = some none)
    (u_min : PySem.W.nsIn K mainGlobals "min" = some none)
    (a_is_integer : PySem.W.nsIn K mainGlobals "is_integer" = some (some (.ref f_is_integer)))
    (l_is_integer : K.lookup f_is_integer = some ⟨oc_is_integer, od_is_integer, .func (PySem.W.fnOf "is_integer" "is_integer" (defArgs s_is_integer) (defBody s_is_integer) (defScope s_is_integer) .none kV_is_integer dc_is_integer pm_is_integer an_is_integer cd_is_integer ct_is_integer), sl_is_integer⟩)
    (c_is_integer : PySem.W.codeIn K cd_is_integer "is_integer" = true)
    (k_is_integer : PySem.W.keepIn K (.ref f_is_integer) = true)
    (a_dot : PySem.W.nsIn K mainGlobals "dot" = some (some (.ref f_dot)))
    (l_dot : K.lookup f_dot = some ⟨oc_dot, od_dot, .func (PySem.W.fnOf "dot" "dot" (defArgs s_dot) (defBody s_dot) (defScope s_dot) .none kV_dot dc_dot pm_dot an_dot cd_dot ct_dot), sl_dot⟩)
    (c_dot : PySem.W.codeIn K cd_dot "dot" = true)
    (k_dot : PySem.W.keepIn K (.ref f_dot) = true)
    (a_checked : PySem.W.nsIn K mainGlobals "_checked" = some (some (.ref f_checked)))
    (l_checked : K.lookup f_checked = some ⟨oc_checked, od_checked, .func (PySem.W.fnOf "_checked" "_checked" (defArgs s_checked) (defBody s_checked) (defScope s_checked) .none kV_checked dc_checked pm_checked an_checked cd_checked ct_checked), sl_checked⟩)
    (c_checked : PySem.W.codeIn K cd_checked "_checked" = true)
    (k_checked : PySem.W.keepIn K (.ref f_checked) = true)
    (a_determinant : PySem.W.nsIn K mainGlobals "_determinant" = some (some (.ref f_determinant)))
    (l_determinant : K.lookup f_determinant = some ⟨oc_determinant, od_determinant, .func (PySem.W.fnOf "_determinant" "_determinant" (defArgs s_determinant) (defBody s_determinant) (defScope s_determinant) .none kV_determinant dc_determinant pm_determinant an_determinant cd_determinant ct_determinant), sl_determinant⟩)
    (c_determinant : PySem.W.codeIn K cd_determinant "_determinant" = true)
    (k_determinant : PySem.W.keepIn K (.ref f_determinant) = true)
    (a_minor : PySem.W.nsIn K mainGlobals "_minor" = some (some (.ref f_minor)))
    (l_minor : K.lookup f_minor = some ⟨oc_minor, od_minor, .func (PySem.W.fnOf "_minor" "_minor" (defArgs s_minor) (defBody s_minor) (defScope s_minor) .none kV_minor dc_minor pm_minor an_minor cd_minor ct_minor), sl_minor⟩)
    (c_minor : PySem.W.codeIn K cd_minor "_minor" = true)
    (k_minor : PySem.W.keepIn K (.ref f_minor) = true)
    (a_law_cell : PySem.W.nsIn K mainGlobals "_law_cell" = some (some (.ref f_law_cell)))
    (l_law_cell : K.lookup f_law_cell = some ⟨oc_law_cell, od_law_cell, .func (PySem.W.fnOf "_law_cell" "_law_cell" (defArgs s_law_cell) (defBody s_law_cell) (defScope s_law_cell) .none kV_law_cell dc_law_cell pm_law_cell an_law_cell cd_law_cell ct_law_cell), sl_law_cell⟩)
    (c_law_cell : PySem.W.codeIn K cd_law_cell "_law_cell" = true)
    (k_law_cell : PySem.W.keepIn K (.ref f_law_cell) = true)
    (a_law_state : PySem.W.nsIn K mainGlobals "_law_state" = some (some (.ref f_law_state)))
    (l_law_state : K.lookup f_law_state = some ⟨oc_law_state, od_law_state, .func (PySem.W.fnOf "_law_state" "_law_state" (defArgs s_law_state) (defBody s_law_state) (defScope s_law_state) .none kV_law_state dc_law_state pm_law_state an_law_state cd_law_state ct_law_state), sl_law_state⟩)
    (c_law_state : PySem.W.codeIn K cd_law_state "_law_state" = true)
    (k_law_state : PySem.W.keepIn K (.ref f_law_state) = true)
    (a_law_take : PySem.W.nsIn K mainGlobals "_law_take" = some (some (.ref f_law_take)))
    (l_law_take : K.lookup f_law_take = some ⟨oc_law_take, od_law_take, .func (PySem.W.fnOf "_law_take" "_law_take" (defArgs s_law_take) (defBody s_law_take) (defScope s_law_take) .none kV_law_take dc_law_take pm_law_take an_law_take cd_law_take ct_law_take), sl_law_take⟩)
    (c_law_take : PySem.W.codeIn K cd_law_take "_law_take" = true)
    (k_law_take : PySem.W.keepIn K (.ref f_law_take) = true)
    (a_law_rows : PySem.W.nsIn K mainGlobals "_law_rows" = some (some (.ref f_law_rows)))
    (l_law_rows : K.lookup f_law_rows = some ⟨oc_law_rows, od_law_rows, .func (PySem.W.fnOf "_law_rows" "_law_rows" (defArgs s_law_rows) (defBody s_law_rows) (defScope s_law_rows) .none kV_law_rows dc_law_rows pm_law_rows an_law_rows cd_law_rows ct_law_rows), sl_law_rows⟩)
    (c_law_rows : PySem.W.codeIn K cd_law_rows "_law_rows" = true)
    (k_law_rows : PySem.W.keepIn K (.ref f_law_rows) = true)
    (a_law_product : PySem.W.nsIn K mainGlobals "_law_product" = some (some (.ref f_law_product)))
    (l_law_product : K.lookup f_law_product = some ⟨oc_law_product, od_law_product, .func (PySem.W.fnOf "_law_product" "_law_product" (defArgs s_law_product) (defBody s_law_product) (defScope s_law_product) .none kV_law_product dc_law_product pm_law_product an_law_product cd_law_product ct_law_product), sl_law_product⟩)
    (c_law_product : PySem.W.codeIn K cd_law_product "_law_product" = true)
    (k_law_product : PySem.W.keepIn K (.ref f_law_product) = true)
    (a_law_determinant : PySem.W.nsIn K mainGlobals "_law_determinant" = some (some (.ref f_law_determinant)))
    (l_law_determinant : K.lookup f_law_determinant = some ⟨oc_law_determinant, od_law_determinant, .func (PySem.W.fnOf "_law_determinant" "_law_determinant" (defArgs s_law_determinant) (defBody s_law_determinant) (defScope s_law_determinant) .none kV_law_determinant dc_law_determinant pm_law_determinant an_law_determinant cd_law_determinant ct_law_determinant), sl_law_determinant⟩)
    (c_law_determinant : PySem.W.codeIn K cd_law_determinant "_law_determinant" = true)
    (k_law_determinant : PySem.W.keepIn K (.ref f_law_determinant) = true)
    (a_law_is_rows : PySem.W.nsIn K mainGlobals "_law_is_rows" = some (some (.ref f_law_is_rows)))
    (l_law_is_rows : K.lookup f_law_is_rows = some ⟨oc_law_is_rows, od_law_is_rows, .func (PySem.W.fnOf "_law_is_rows" "_law_is_rows" (defArgs s_law_is_rows) (defBody s_law_is_rows) (defScope s_law_is_rows) .none kV_law_is_rows dc_law_is_rows pm_law_is_rows an_law_is_rows cd_law_is_rows ct_law_is_rows), sl_law_is_rows⟩)
    (c_law_is_rows : PySem.W.codeIn K cd_law_is_rows "_law_is_rows" = true)
    (k_law_is_rows : PySem.W.keepIn K (.ref f_law_is_rows) = true)
    (a_law_refused : PySem.W.nsIn K mainGlobals "_law_refused" = some (some (.ref f_law_refused)))
    (l_law_refused : K.lookup f_law_refused = some ⟨oc_law_refused, od_law_refused, .func (PySem.W.fnOf "_law_refused" "_law_refused" (defArgs s_law_refused) (defBody s_law_refused) (defScope s_law_refused) .none kV_law_refused dc_law_refused pm_law_refused an_law_refused cd_law_refused ct_law_refused), sl_law_refused⟩)
    (c_law_refused : PySem.W.codeIn K cd_law_refused "_law_refused" = true)
    (k_law_refused : PySem.W.keepIn K (.ref f_law_refused) = true)
    (a_law : PySem.W.nsIn K mainGlobals "law" = some (some (.ref f_law)))
    (l_law : K.lookup f_law = some ⟨oc_law, od_law, .func (PySem.W.fnOf "law" "law" (defArgs s_law) (defBody s_law) (defScope s_law) .none kV_law dc_law pm_law an_law cd_law ct_law), sl_law⟩)
    (c_law : PySem.W.codeIn K cd_law "law" = true)
    (k_law : PySem.W.keepIn K (.ref f_law) = true)
    (a_Grid_len : PySem.W.findIn K (.ref C) "__len__" = some (some (.ref f_Grid_len)))
    (i_Grid_len : PySem.W.isFn K (.ref f_Grid_len) = true)
    (l_Grid_len : K.lookup f_Grid_len = some ⟨oc_Grid_len, od_Grid_len, .func (PySem.W.fnOf "__len__" "Grid.__len__" (defArgs s_Grid_len) (defBody s_Grid_len) (defScope s_Grid_len) .none kV_Grid_len dc_Grid_len pm_Grid_len an_Grid_len cd_Grid_len ct_Grid_len), sl_Grid_len⟩)
    (c_Grid_len : PySem.W.codeIn K cd_Grid_len "Grid.__len__" = true)
    (k_Grid_len : PySem.W.keepIn K (.ref f_Grid_len) = true)
    (a_Grid_mul : PySem.W.findIn K (.ref C) "__mul__" = some (some (.ref f_Grid_mul)))
    (i_Grid_mul : PySem.W.isFn K (.ref f_Grid_mul) = true)
    (l_Grid_mul : K.lookup f_Grid_mul = some ⟨oc_Grid_mul, od_Grid_mul, .func (PySem.W.fnOf "__mul__" "Grid.__mul__" (defArgs s_Grid_mul) (defBody s_Grid_mul) (defScope s_Grid_mul) .none kV_Grid_mul dc_Grid_mul pm_Grid_mul an_Grid_mul cd_Grid_mul ct_Grid_mul), sl_Grid_mul⟩)
    (c_Grid_mul : PySem.W.codeIn K cd_Grid_mul "Grid.__mul__" = true)
    (k_Grid_mul : PySem.W.keepIn K (.ref f_Grid_mul) = true)
    (a_Grid_transposed : PySem.W.findIn K (.ref C) "transposed" = some (some (.ref f_Grid_transposed)))
    (i_Grid_transposed : PySem.W.isFn K (.ref f_Grid_transposed) = true)
    (l_Grid_transposed : K.lookup f_Grid_transposed = some ⟨oc_Grid_transposed, od_Grid_transposed, .func (PySem.W.fnOf "transposed" "Grid.transposed" (defArgs s_Grid_transposed) (defBody s_Grid_transposed) (defScope s_Grid_transposed) .none kV_Grid_transposed dc_Grid_transposed pm_Grid_transposed an_Grid_transposed cd_Grid_transposed ct_Grid_transposed), sl_Grid_transposed⟩)
    (c_Grid_transposed : PySem.W.codeIn K cd_Grid_transposed "Grid.transposed" = true)
    (k_Grid_transposed : PySem.W.keepIn K (.ref f_Grid_transposed) = true)
    (a_Grid_is_square : PySem.W.findIn K (.ref C) "is_square" = some (some (.ref f_Grid_is_square)))
    (i_Grid_is_square : PySem.W.isFn K (.ref f_Grid_is_square) = true)
    (l_Grid_is_square : K.lookup f_Grid_is_square = some ⟨oc_Grid_is_square, od_Grid_is_square, .func (PySem.W.fnOf "is_square" "Grid.is_square" (defArgs s_Grid_is_square) (defBody s_Grid_is_square) (defScope s_Grid_is_square) .none kV_Grid_is_square dc_Grid_is_square pm_Grid_is_square an_Grid_is_square cd_Grid_is_square ct_Grid_is_square), sl_Grid_is_square⟩)
    (c_Grid_is_square : PySem.W.codeIn K cd_Grid_is_square "Grid.is_square" = true)
    (k_Grid_is_square : PySem.W.keepIn K (.ref f_Grid_is_square) = true)
    (a_Grid_determinant : PySem.W.findIn K (.ref C) "determinant" = some (some (.ref f_Grid_determinant)))
    (i_Grid_determinant : PySem.W.isFn K (.ref f_Grid_determinant) = true)
    (l_Grid_determinant : K.lookup f_Grid_determinant = some ⟨oc_Grid_determinant, od_Grid_determinant, .func (PySem.W.fnOf "determinant" "Grid.determinant" (defArgs s_Grid_determinant) (defBody s_Grid_determinant) (defScope s_Grid_determinant) .none kV_Grid_determinant dc_Grid_determinant pm_Grid_determinant an_Grid_determinant cd_Grid_determinant ct_Grid_determinant), sl_Grid_determinant⟩)
    (c_Grid_determinant : PySem.W.codeIn K cd_Grid_determinant "Grid.determinant" = true)
    (k_Grid_determinant : PySem.W.keepIn K (.ref f_Grid_determinant) = true)
    (a_Grid_adjugate : PySem.W.findIn K (.ref C) "adjugate" = some (some (.ref f_Grid_adjugate)))
    (i_Grid_adjugate : PySem.W.isFn K (.ref f_Grid_adjugate) = true)
    (l_Grid_adjugate : K.lookup f_Grid_adjugate = some ⟨oc_Grid_adjugate, od_Grid_adjugate, .func (PySem.W.fnOf "adjugate" "Grid.adjugate" (defArgs s_Grid_adjugate) (defBody s_Grid_adjugate) (defScope s_Grid_adjugate) .none kV_Grid_adjugate dc_Grid_adjugate pm_Grid_adjugate an_Grid_adjugate cd_Grid_adjugate ct_Grid_adjugate), sl_Grid_adjugate⟩)
    (c_Grid_adjugate : PySem.W.codeIn K cd_Grid_adjugate "Grid.adjugate" = true)
    (k_Grid_adjugate : PySem.W.keepIn K (.ref f_Grid_adjugate) = true)
    (a_Grid_is_unimodular : PySem.W.findIn K (.ref C) "is_unimodular" = some (some (.ref f_Grid_is_unimodular)))
    (i_Grid_is_unimodular : PySem.W.isFn K (.ref f_Grid_is_unimodular) = true)
    (l_Grid_is_unimodular : K.lookup f_Grid_is_unimodular = some ⟨oc_Grid_is_unimodular, od_Grid_is_unimodular, .func (PySem.W.fnOf "is_unimodular" "Grid.is_unimodular" (defArgs s_Grid_is_unimodular) (defBody s_Grid_is_unimodular) (defScope s_Grid_is_unimodular) .none kV_Grid_is_unimodular dc_Grid_is_unimodular pm_Grid_is_unimodular an_Grid_is_unimodular cd_Grid_is_unimodular ct_Grid_is_unimodular), sl_Grid_is_unimodular⟩)
    (c_Grid_is_unimodular : PySem.W.codeIn K cd_Grid_is_unimodular "Grid.is_unimodular" = true)
    (k_Grid_is_unimodular : PySem.W.keepIn K (.ref f_Grid_is_unimodular) = true)
    (a_Grid_init : PySem.W.findIn K (.ref C) "__init__" = some (some (.ref f_Grid_init)))
    (i_Grid_init : PySem.W.isFn K (.ref f_Grid_init) = true)
    (l_Grid_init : K.lookup f_Grid_init = some ⟨oc_Grid_init, od_Grid_init, .func (PySem.W.fnOf "__init__" "Grid.__init__" (defArgs s_Grid_init) (defBody s_Grid_init) (defScope s_Grid_init) (.ref TD_Grid_init) kV_Grid_init dc_Grid_init pm_Grid_init an_Grid_init cd_Grid_init ct_Grid_init), sl_Grid_init⟩)
    (c_Grid_init : PySem.W.codeIn K cd_Grid_init "Grid.__init__" = true)
    (k_Grid_init : PySem.W.keepIn K (.ref f_Grid_init) = true)
    (t_Grid_init : K.lookup TD_Grid_init = some ⟨ocT_Grid_init, odT_Grid_init, .seq #[.none] nT_Grid_init, slT_Grid_init⟩)
    (tr : l.prog.given.tree = none)
    : ∃ fd : FuncData, (∀ (s : Shared) (v : Value), BindsTo s fd ⟨[v], []⟩ [("script", v)]) ∧ ∀ base : Heap, K.In base → base.Ns mainGlobals mg → base.NoSeer → FnOk l.prog w K mg base CX0 50 fa fd ["script"] (spD K rLawB) := by
  have e := hfa.symm.trans (PySem.W.mg_of X G a_law)
  cases e
  have F_is_integer := fun_mk (st := s_is_integer) l_is_integer c_is_integer k_is_integer
  have b_is_integer := F_is_integer.binds (ps := ["value"]) fun _ _ _ _ _ _ us hl => match us, hl with | [_], _ => rfl
  have m_is_integer := PySem.W.mg_of X G a_is_integer
  have F_dot := fun_mk (st := s_dot) l_dot c_dot k_dot
  have b_dot := F_dot.binds (ps := ["a", "b"]) fun _ _ _ _ _ _ us hl => match us, hl with | [_, _], _ => rfl
  have m_dot := PySem.W.mg_of X G a_dot
  have F_checked := fun_mk (st := s_checked) l_checked c_checked k_checked
  have b_checked := F_checked.binds (ps := ["rows", "width"]) fun _ _ _ _ _ _ us hl => match us, hl with | [_, _], _ => rfl
  have m_checked := PySem.W.mg_of X G a_checked
  have F_determinant := fun_mk (st := s_determinant) l_determinant c_determinant k_determinant
  have b_determinant := F_determinant.binds (ps := ["rows"]) fun _ _ _ _ _ _ us hl => match us, hl with | [_], _ => rfl
  have m_determinant := PySem.W.mg_of X G a_determinant
  have F_minor := fun_mk (st := s_minor) l_minor c_minor k_minor
  have b_minor := F_minor.binds (ps := ["rows", "i", "k"]) fun _ _ _ _ _ _ us hl => match us, hl with | [_, _, _], _ => rfl
  have m_minor := PySem.W.mg_of X G a_minor
  have F_law_cell := fun_mk (st := s_law_cell) l_law_cell c_law_cell k_law_cell
  have b_law_cell := F_law_cell.binds (ps := ["script", "k"]) fun _ _ _ _ _ _ us hl => match us, hl with | [_, _], _ => rfl
  have m_law_cell := PySem.W.mg_of X G a_law_cell
  have F_law_state := fun_mk (st := s_law_state) l_law_state c_law_state k_law_state
  have b_law_state := F_law_state.binds (ps := ["script"]) fun _ _ _ _ _ _ us hl => match us, hl with | [_], _ => rfl
  have m_law_state := PySem.W.mg_of X G a_law_state
  have F_law_take := fun_mk (st := s_law_take) l_law_take c_law_take k_law_take
  have b_law_take := F_law_take.binds (ps := ["state", "m"]) fun _ _ _ _ _ _ us hl => match us, hl with | [_, _], _ => rfl
  have m_law_take := PySem.W.mg_of X G a_law_take
  have F_law_rows := fun_mk (st := s_law_rows) l_law_rows c_law_rows k_law_rows
  have b_law_rows := F_law_rows.binds (ps := ["state", "height", "width", "most"]) fun _ _ _ _ _ _ us hl => match us, hl with | [_, _, _, _], _ => rfl
  have m_law_rows := PySem.W.mg_of X G a_law_rows
  have F_law_product := fun_mk (st := s_law_product) l_law_product c_law_product k_law_product
  have b_law_product := F_law_product.binds (ps := ["a", "b", "width"]) fun _ _ _ _ _ _ us hl => match us, hl with | [_, _, _], _ => rfl
  have m_law_product := PySem.W.mg_of X G a_law_product
  have F_law_determinant := fun_mk (st := s_law_determinant) l_law_determinant c_law_determinant k_law_determinant
  have b_law_determinant := F_law_determinant.binds (ps := ["rows"]) fun _ _ _ _ _ _ us hl => match us, hl with | [_], _ => rfl
  have m_law_determinant := PySem.W.mg_of X G a_law_determinant
  have F_law_is_rows := fun_mk (st := s_law_is_rows) l_law_is_rows c_law_is_rows k_law_is_rows
  have b_law_is_rows := F_law_is_rows.binds (ps := ["value", "height", "width"]) fun _ _ _ _ _ _ us hl => match us, hl with | [_, _, _], _ => rfl
  have m_law_is_rows := PySem.W.mg_of X G a_law_is_rows
  have F_law_refused := fun_mk (st := s_law_refused) l_law_refused c_law_refused k_law_refused
  have b_law_refused := F_law_refused.binds (ps := ["grid"]) fun _ _ _ _ _ _ us hl => match us, hl with | [_], _ => rfl
  have m_law_refused := PySem.W.mg_of X G a_law_refused
  have F_law := fun_mk (st := s_law) l_law c_law k_law
  have m_law := PySem.W.mg_of X G a_law
  have F_Grid_len := fun_mk (st := s_Grid_len) l_Grid_len c_Grid_len k_Grid_len
  have b_Grid_len := F_Grid_len.binds (ps := ["self"]) fun _ _ _ _ _ _ us hl => match us, hl with | [_], _ => rfl
  have F_Grid_mul := fun_mk (st := s_Grid_mul) l_Grid_mul c_Grid_mul k_Grid_mul
  have b_Grid_mul := F_Grid_mul.binds (ps := ["self", "other"]) fun _ _ _ _ _ _ us hl => match us, hl with | [_, _], _ => rfl
  have F_Grid_transposed := fun_mk (st := s_Grid_transposed) l_Grid_transposed c_Grid_transposed k_Grid_transposed
  have b_Grid_transposed := F_Grid_transposed.binds (ps := ["self"]) fun _ _ _ _ _ _ us hl => match us, hl with | [_], _ => rfl
  have F_Grid_is_square := fun_mk (st := s_Grid_is_square) l_Grid_is_square c_Grid_is_square k_Grid_is_square
  have b_Grid_is_square := F_Grid_is_square.binds (ps := ["self"]) fun _ _ _ _ _ _ us hl => match us, hl with | [_], _ => rfl
  have F_Grid_determinant := fun_mk (st := s_Grid_determinant) l_Grid_determinant c_Grid_determinant k_Grid_determinant
  have b_Grid_determinant := F_Grid_determinant.binds (ps := ["self"]) fun _ _ _ _ _ _ us hl => match us, hl with | [_], _ => rfl
  have F_Grid_adjugate := fun_mk (st := s_Grid_adjugate) l_Grid_adjugate c_Grid_adjugate k_Grid_adjugate
  have b_Grid_adjugate := F_Grid_adjugate.binds (ps := ["self"]) fun _ _ _ _ _ _ us hl => match us, hl with | [_], _ => rfl
  have F_Grid_is_unimodular := fun_mk (st := s_Grid_is_unimodular) l_Grid_is_unimodular c_Grid_is_unimodular k_Grid_is_unimodular
  have b_Grid_is_unimodular := F_Grid_is_unimodular.binds (ps := ["self"]) fun _ _ _ _ _ _ us hl => match us, hl with | [_], _ => rfl
  have F_Grid_init : FunI K s_Grid_init f_Grid_init _ := ⟨⟨oc_Grid_init, od_Grid_init, .ref TD_Grid_init, kV_Grid_init, dc_Grid_init, pm_Grid_init, an_Grid_init, cd_Grid_init, ct_Grid_init, sl_Grid_init, rfl, l_Grid_init, c_Grid_init, .inr ⟨by simp, TD_Grid_init, _, [.none], nT_Grid_init, rfl, t_Grid_init, rfl, .cons rfl (.nil)⟩, .inl rfl⟩, k_Grid_init⟩
  refine ⟨PySem.W.fnOf "law" "law" (defArgs s_law) (defBody s_law) (defScope s_law) .none kV_law dc_law pm_law an_law cd_law ct_law, fun s v => .of_eq rfl, fun base _ _ sr => ?_⟩
  have clC : Cls K C := ⟨pgC, hdC, poC, saC⟩
  have owC : OwnC K C := ⟨clC, haC, hnC, htkC, hmC⟩
  have cgC : ClsG K C := ⟨owC, sfC, neC⟩
  have mgC := PySem.W.mg_of X G aC
  have mgR := PySem.W.mg_of X G aR
  have exR := exm_self bR iR tR sR
  have v_len := PySem.W.mg_none_of X G u_len
  have v_isinstance := PySem.W.mg_none_of X G u_isinstance
  have v_int := PySem.W.mg_none_of X G u_int
  have v_bool := PySem.W.mg_none_of X G u_bool
  have v_list := PySem.W.mg_none_of X G u_list
  have v_tuple := PySem.W.mg_none_of X G u_tuple
  have v_range := PySem.W.mg_none_of X G u_range
  have v_zip := PySem.W.mg_none_of X G u_zip
  have v_enumerate := PySem.W.mg_none_of X G u_enumerate
  have v_sum := PySem.W.mg_none_of X G u_sum
  have v_abs := PySem.W.mg_none_of X G u_abs
  have v_min := PySem.W.mg_none_of X G u_min
  have T : Txt l.prog K mg base C := ⟨v_len, v_isinstance, v_int, v_bool, v_list, v_tuple, v_range, v_zip, v_enumerate, v_sum, v_abs, v_min, sr, tr, cgC, mgC, clC, noC_rows, noC_width⟩
  have TM : TxtM l.prog K mg R := ⟨mgR, xR, kR, bR, tR, exR⟩
  obtain ⟨ds3, rd3, bI3⟩ := F_Grid_init.binds1 (ps := ["self", "rows", "width"]) 3 1 (by simp) (by simp) fun _ _ _ _ _ _ _ us its hl hi => match us, its, hl, hi with | [_, _, _], [_], _, _ => ⟨_, rfl, rfl⟩
  have g_is_integer : CalG l.prog w K mg base _ _ _ [] := ⟨_, _, _, [], ok_is_integer F_is_integer T, m_is_integer, k_is_integer, b_is_integer, .nil⟩
  have g_dot : CalG l.prog w K mg base _ _ _ [] := ⟨_, _, _, [], ok_dot F_dot T, m_dot, k_dot, b_dot, .nil⟩
  have g_checked : CalG l.prog w K mg base _ _ _ [] := ⟨_, _, _, [], ok_checked F_checked T g_is_integer, m_checked, k_checked, b_checked, .nil⟩
  have g_determinant : CalG l.prog w K mg base _ _ _ [] := ⟨_, _, _, [], ok_determinant F_determinant T, m_determinant, k_determinant, b_determinant, .nil⟩
  have g_minor : CalG l.prog w K mg base _ _ _ [] := ⟨_, _, _, [], ok_minor F_minor T, m_minor, k_minor, b_minor, .nil⟩
  have okI := ok_init F_Grid_init T g_checked
  have mk3 : MakG l.prog w K mg base 6 "Grid" C (spI K C rInit) [] := ⟨_, _, _, ds3, ⟨mkC, a_Grid_init, i_Grid_init, kcC⟩, okI, mgC, bI3, rd3⟩
  have g_Grid_len : MetG l.prog w K mg base _ C _ _ := ⟨_, _, _, clC, ⟨a_Grid_len, i_Grid_len, k_Grid_len⟩, ok_len F_Grid_len T, b_Grid_len⟩
  have g_Grid_mul : MetG l.prog w K mg base _ C _ _ := ⟨_, _, _, clC, ⟨a_Grid_mul, i_Grid_mul, k_Grid_mul⟩, ok_mul F_Grid_mul T mk3 g_dot, b_Grid_mul⟩
  have g_Grid_transposed : MetG l.prog w K mg base _ C _ _ := ⟨_, _, _, clC, ⟨a_Grid_transposed, i_Grid_transposed, k_Grid_transposed⟩, ok_trans F_Grid_transposed T mk3, b_Grid_transposed⟩
  have g_Grid_is_square : MetG l.prog w K mg base _ C _ _ := ⟨_, _, _, clC, ⟨a_Grid_is_square, i_Grid_is_square, k_Grid_is_square⟩, ok_issq F_Grid_is_square T, b_Grid_is_square⟩
  have g_Grid_determinant : MetG l.prog w K mg base _ C _ _ := ⟨_, _, _, clC, ⟨a_Grid_determinant, i_Grid_determinant, k_Grid_determinant⟩, ok_detG F_Grid_determinant T g_Grid_is_square g_determinant, b_Grid_determinant⟩
  have g_Grid_adjugate : MetG l.prog w K mg base _ C _ _ := ⟨_, _, _, clC, ⟨a_Grid_adjugate, i_Grid_adjugate, k_Grid_adjugate⟩, ok_adj F_Grid_adjugate T g_Grid_is_square g_determinant g_minor mk3, b_Grid_adjugate⟩
  have g_Grid_is_unimodular : MetG l.prog w K mg base _ C _ _ := ⟨_, _, _, clC, ⟨a_Grid_is_unimodular, i_Grid_is_unimodular, k_Grid_is_unimodular⟩, ok_isuni F_Grid_is_unimodular T g_Grid_is_square g_determinant, b_Grid_is_unimodular⟩
  have x_Grid_determinant : MetX l.prog w K mg base _ C _ _ := ⟨_, _, _, clC, ⟨a_Grid_determinant, i_Grid_determinant, k_Grid_determinant⟩, ok_detM F_Grid_determinant T TM g_Grid_is_square g_determinant, b_Grid_determinant⟩
  have x_Grid_adjugate : MetX l.prog w K mg base _ C _ _ := ⟨_, _, _, clC, ⟨a_Grid_adjugate, i_Grid_adjugate, k_Grid_adjugate⟩, ok_adjM F_Grid_adjugate T TM g_Grid_is_square g_determinant g_minor mk3, b_Grid_adjugate⟩
  have g_law_cell : CalG l.prog w K mg base _ _ _ [] := ⟨_, _, _, [], ok_cell F_law_cell T, m_law_cell, k_law_cell, b_law_cell, .nil⟩
  have g_law_state : CalG l.prog w K mg base _ _ _ [] := ⟨_, _, _, [], ok_state F_law_state T, m_law_state, k_law_state, b_law_state, .nil⟩
  have g_law_take : CalG l.prog w K mg base _ _ _ [] := ⟨_, _, _, [], ok_take F_law_take T, m_law_take, k_law_take, b_law_take, .nil⟩
  have g_law_rows : CalG l.prog w K mg base _ _ _ [] := ⟨_, _, _, [], ok_rows F_law_rows T g_law_take, m_law_rows, k_law_rows, b_law_rows, .nil⟩
  have g_law_product : CalG l.prog w K mg base _ _ _ [] := ⟨_, _, _, [], ok_product F_law_product T, m_law_product, k_law_product, b_law_product, .nil⟩
  have g_law_determinant : CalG l.prog w K mg base _ _ _ [] := ⟨_, _, _, [], ldetA (ok_ldet F_law_determinant T m_law_determinant k_law_determinant b_law_determinant), m_law_determinant, k_law_determinant, b_law_determinant, .nil⟩
  have g_law_is_rows : CalG l.prog w K mg base _ _ _ [] := ⟨_, _, _, [], ok_isrows F_law_is_rows T g_Grid_len, m_law_is_rows, k_law_is_rows, b_law_is_rows, .nil⟩
  have g_law_refused : CalG l.prog w K mg base _ _ _ [] := ⟨_, _, _, [], ok_refused F_law_refused T TM x_Grid_determinant x_Grid_adjugate g_Grid_is_unimodular, m_law_refused, k_law_refused, b_law_refused, .nil⟩
  exact ok_law F_law T g_law_state g_law_take g_law_rows g_law_cell mk3 g_law_determinant g_Grid_determinant g_Grid_mul g_Grid_transposed g_Grid_adjugate g_law_is_rows g_law_product g_Grid_is_unimodular g_law_refused
end
end G02
namespace G02
open PySem PySem.Spec PyProof.Rows L2 Evl G
theorem rp_ints {K : PySem.W.Frag} {H : Hp} : ∀ ns : List Int, RpAll K H (ns.map V.int) (ns.map DV.int)
  | [] => .nil
  | _ :: ns => .cons (.int _) (rp_ints ns)
theorem law_end (K : PySem.W.Frag) (H : Hp) (a : Addr) (ns : List Int) (hl : ns.length ≤ 63) (hb : ∀ x ∈ ns, x.natAbs < 2 ^ 1048577) (hS : SqL K H a (ns.map V.int)) : spD K rLawB [.ref a] H (fun v _ => v = .bl true) fun _ _ _ => False :=
  ⟨[], [.lst (ns.map .int)], .bl true, fun _ h => by (cases h), .cons (.lst (by rw [hid_nil]; exact hS) (rp_ints ns)) .nil, ⟨ns, rfl, hl, hb, rfl⟩, fun v H2 _ r => by (cases r; rfl)⟩
end G02
open PySem PySem.W PyProof.Rows
set_option maxRecDepth 100000 in
set_option maxHeartbeats 0 in
theorem PySem.Challenge.cw_gridroads_k02_determinants_holds : PySem.Challenge.rw_gridroads_k02_determinants.Holds := by
  w_on; o_law; k_head; (case hw => w_witness2)
  k_fill
  refine G.walkNB (l := PySem.Challenge.rw_gridroads_k02_determinants) (n := 63) (k := 50) (x := "script") (CX := L2.CX0) (sp := fun K => G.spD K G02.rLawB) rfl (by decide) rfl ⟨rfl, by decide, by decide⟩ (by first | rfl | decide +kernel) (fun w h Y => PySem.W.kIn_of Y) ?F (fun K H a ns hl hb _ hS => G02.law_end K H a ns hl hb hS) fun _ _ _ _ z => z
  case F =>
    intro w mg fa h KX G hmg
    refine' G02.all_mk KX G hmg ?aC ?pgC ?hdC ?poC ?saC ?haC ?hnC ?htkC ?hmC ?sfC ?neC ?mkC ?kcC ?noC_rows ?noC_width ?aR ?xR ?kR ?bR ?tR ?iR ?sR ?u_len ?u_isinstance ?u_int ?u_bool ?u_list ?u_tuple ?u_range ?u_zip ?u_enumerate ?u_sum ?u_abs ?u_min ?a_is_integer ?l_is_integer ?c_is_integer ?k_is_integer ?a_dot ?l_dot ?c_dot ?k_dot ?a_checked ?l_checked ?c_checked ?k_checked ?a_determinant ?l_determinant ?c_determinant ?k_determinant ?a_minor ?l_minor ?c_minor ?k_minor ?a_law_cell ?l_law_cell ?c_law_cell ?k_law_cell ?a_law_state ?l_law_state ?c_law_state ?k_law_state ?a_law_take ?l_law_take ?c_law_take ?k_law_take ?a_law_rows ?l_law_rows ?c_law_rows ?k_law_rows ?a_law_product ?l_law_product ?c_law_product ?k_law_product ?a_law_determinant ?l_law_determinant ?c_law_determinant ?k_law_determinant ?a_law_is_rows ?l_law_is_rows ?c_law_is_rows ?k_law_is_rows ?a_law_refused ?l_law_refused ?c_law_refused ?k_law_refused ?a_law ?l_law ?c_law ?k_law ?a_Grid_len ?i_Grid_len ?l_Grid_len ?c_Grid_len ?k_Grid_len ?a_Grid_mul ?i_Grid_mul ?l_Grid_mul ?c_Grid_mul ?k_Grid_mul ?a_Grid_transposed ?i_Grid_transposed ?l_Grid_transposed ?c_Grid_transposed ?k_Grid_transposed ?a_Grid_is_square ?i_Grid_is_square ?l_Grid_is_square ?c_Grid_is_square ?k_Grid_is_square ?a_Grid_determinant ?i_Grid_determinant ?l_Grid_determinant ?c_Grid_determinant ?k_Grid_determinant ?a_Grid_adjugate ?i_Grid_adjugate ?l_Grid_adjugate ?c_Grid_adjugate ?k_Grid_adjugate ?a_Grid_is_unimodular ?i_Grid_is_unimodular ?l_Grid_is_unimodular ?c_Grid_is_unimodular ?k_Grid_is_unimodular ?a_Grid_init ?i_Grid_init ?l_Grid_init ?c_Grid_init ?k_Grid_init ?t_Grid_init ?tr
    (case aC => k_is)
    (case pgC => k_is)
    (case hdC => k_is)
    (case poC => k_is)
    (case saC => k_is)
    (case haC => k_is)
    (case hnC => k_is)
    (case htkC => k_is)
    (case hmC => k_is)
    (case sfC => k_is)
    (case neC => k_is)
    (case mkC => k_is)
    (case kcC => k_is)
    (case noC_rows => k_is)
    (case noC_width => k_is)
    (case aR => k_is)
    (case xR => k_exc)
    (case kR => k_is)
    (case bR => k_is)
    (case tR => k_is)
    (case iR => k_is)
    (case sR => first | rfl | k_is)
    (case u_len => k_is)
    (case u_isinstance => k_is)
    (case u_int => k_is)
    (case u_bool => k_is)
    (case u_list => k_is)
    (case u_tuple => k_is)
    (case u_range => k_is)
    (case u_zip => k_is)
    (case u_enumerate => k_is)
    (case u_sum => k_is)
    (case u_abs => k_is)
    (case u_min => k_is)
    (case a_is_integer => k_is)
    (case l_is_integer => k_is)
    (case c_is_integer => k_is)
    (case k_is_integer => k_is)
    (case a_dot => k_is)
    (case l_dot => k_is)
    (case c_dot => k_is)
    (case k_dot => k_is)
    (case a_checked => k_is)
    (case l_checked => k_is)
    (case c_checked => k_is)
    (case k_checked => k_is)
    (case a_determinant => k_is)
    (case l_determinant => k_is)
    (case c_determinant => k_is)
    (case k_determinant => k_is)
    (case a_minor => k_is)
    (case l_minor => k_is)
    (case c_minor => k_is)
    (case k_minor => k_is)
    (case a_law_cell => k_is)
    (case l_law_cell => k_is)
    (case c_law_cell => k_is)
    (case k_law_cell => k_is)
    (case a_law_state => k_is)
    (case l_law_state => k_is)
    (case c_law_state => k_is)
    (case k_law_state => k_is)
    (case a_law_take => k_is)
    (case l_law_take => k_is)
    (case c_law_take => k_is)
    (case k_law_take => k_is)
    (case a_law_rows => k_is)
    (case l_law_rows => k_is)
    (case c_law_rows => k_is)
    (case k_law_rows => k_is)
    (case a_law_product => k_is)
    (case l_law_product => k_is)
    (case c_law_product => k_is)
    (case k_law_product => k_is)
    (case a_law_determinant => k_is)
    (case l_law_determinant => k_is)
    (case c_law_determinant => k_is)
    (case k_law_determinant => k_is)
    (case a_law_is_rows => k_is)
    (case l_law_is_rows => k_is)
    (case c_law_is_rows => k_is)
    (case k_law_is_rows => k_is)
    (case a_law_refused => k_is)
    (case l_law_refused => k_is)
    (case c_law_refused => k_is)
    (case k_law_refused => k_is)
    (case a_law => k_is)
    (case l_law => k_is)
    (case c_law => k_is)
    (case k_law => k_is)
    (case a_Grid_len => k_is)
    (case i_Grid_len => k_is)
    (case l_Grid_len => k_is)
    (case c_Grid_len => k_is)
    (case k_Grid_len => k_is)
    (case a_Grid_mul => k_is)
    (case i_Grid_mul => k_is)
    (case l_Grid_mul => k_is)
    (case c_Grid_mul => k_is)
    (case k_Grid_mul => k_is)
    (case a_Grid_transposed => k_is)
    (case i_Grid_transposed => k_is)
    (case l_Grid_transposed => k_is)
    (case c_Grid_transposed => k_is)
    (case k_Grid_transposed => k_is)
    (case a_Grid_is_square => k_is)
    (case i_Grid_is_square => k_is)
    (case l_Grid_is_square => k_is)
    (case c_Grid_is_square => k_is)
    (case k_Grid_is_square => k_is)
    (case a_Grid_determinant => k_is)
    (case i_Grid_determinant => k_is)
    (case l_Grid_determinant => k_is)
    (case c_Grid_determinant => k_is)
    (case k_Grid_determinant => k_is)
    (case a_Grid_adjugate => k_is)
    (case i_Grid_adjugate => k_is)
    (case l_Grid_adjugate => k_is)
    (case c_Grid_adjugate => k_is)
    (case k_Grid_adjugate => k_is)
    (case a_Grid_is_unimodular => k_is)
    (case i_Grid_is_unimodular => k_is)
    (case l_Grid_is_unimodular => k_is)
    (case c_Grid_is_unimodular => k_is)
    (case k_Grid_is_unimodular => k_is)
    (case a_Grid_init => k_is)
    (case i_Grid_init => k_is)
    (case l_Grid_init => k_is)
    (case c_Grid_init => k_is)
    (case k_Grid_init => k_is)
    (case t_Grid_init => k_is)
    (case tr => first | rfl | decide +kernel)
