import PyProof.Rows.All
import Wide.All
import OpenK.AllK
import Wide.FinOn
import KE.KStateDown
import Lean
import HandS.ForMost
import HandS.Exc
import HandS.TryOnly
import HandS.ExcOwn
import HandS.WordsExc
import HandS.Codes
import HandS.Lambda
import HandS.ExcValue
import HandS.Style
import HandS.Defaults
import HandS.Wide
import HandS.SortInts
import HandS.TupAny
import HandS.ExcField
import HandS.ExcIs
import HandS.HeadHook1
import HandS.ExcInit
import KE.KExcSuper
import KE.KExcIs
import HandS.SetFor
import HandS.Deep
import HandS.RaiseMore
import PyProof.ReprRoads
import PyProof.ReprLen
import PyProof.ReprBulk
import HandS.EndTab
import HandS.HeadWalk
import HandS.Head0
import HandS.Head1
import HandS.Head2
import HandS.HeadHook2
import HandS.HeadHook3
import HandS.HeadHook4
import PySem.Challenge.RW_rowclash_k98_exceptions_by_hand
set_option Elab.async false
set_option linter.all false
set_option maxRecDepth 100000
set_option maxHeartbeats 0
namespace Bs
open PySem PySem.Spec PyProof.Rows L2 LamX
/-! ## data, cells -/
inductive D where
  | non | bl (b : Bool) | int (i : Int) | str (x : Str) | byt (b : Array UInt8) | ty (n : String) | ref (a : Addr)
  | tup (ds : List D) | lst (ds : List D)
  | dct (kvs : List (Key × D))
  | obj (C : Addr) (fs : List (Str × D))
  | exc (C : Addr) (fs : List (Str × D))
  | cel (k : Nat)
  | scr (ns : List Int)
/-- a thing that may change -/
inductive Ce where
  | lst (ds : List D)
  | dct (kvs : List (Key × D))
  | obj (C : Addr) (fs : List (Str × D))
/-- an exception object that is not in flight, with its own dict (or none) -/
def ExV (cls : Value) (dd : Option Addr) (a : Addr) : HO := .ext fun h => ∃ (oe : Obj) (vs : Array Value), h.get? a = some oe ∧ Zc cls dd oe ∧ oe.data = .fields vs ∧ vs[1]? = some .none ∧ vs[2]? = some .none ∧ 4 < vs.size
mutual
inductive Rp (K : PySem.W.Frag) (As : List Addr) (H : Hp) : V → D → Prop where
  | non : Rp K As H .non .non
  | bl {b} : Rp K As H (.bl b) (.bl b)
  | int {i} : Rp K As H (.int i) (.int i)
  | str {x} : Rp K As H (.str x) (.str x)
  | byt {b} : Rp K As H (.byt b) (.byt b)
  | ty {n} : Rp K As H (.ty n) (.ty n)
  | ref {a} : Rp K As H (.ref a) (.ref a)
  | tup {a vs ds} : a ∉ As → H a = some (.tup vs) → RpL K As H vs ds → Rp K As H (.ref a) (.tup ds)
  | tupW {a vs ds} : (∀ H', SqT K H' a vs) → RpL K As H vs ds → Rp K As H (.ref a) (.tup ds)
  | lst {a vs ds} : a ∉ As → H a = some (.lst vs) → RpL K As H vs ds → Rp K As H (.ref a) (.lst ds)
  | dct {a kvs kds} : a ∉ As → H a = some (.dK kvs) → RpK K As H kvs kds → Rp K As H (.ref a) (.dct kds)
  | obj {a C dx fs fds} : a ∉ As → H a = some (.ins C dx fs) → RpF K As H fs fds → Rp K As H (.ref a) (.obj C fds)
  | exc0 {a C} : a ∉ As → H a = some (ExV (.ref C) none a) → Rp K As H (.ref a) (.exc C [])
  | exc {a C d fs fds} : a ∉ As → d ∉ As → H a = some (ExV (.ref C) (some d) a) → H d = some (.xd fs) → RpF K As H fs fds → Rp K As H (.ref a) (.exc C fds)
  | cel {a k} : As[k]? = some a → Rp K As H (.ref a) (.cel k)
  | scr {a ns} : a ∉ As → Rd H a (.lst (ns.map V.int)) → Rp K As H (.ref a) (.scr ns)
  | scrW {a ns} : (∀ H', SqL K H' a (ns.map V.int)) → Rp K As H (.ref a) (.scr ns)
inductive RpL (K : PySem.W.Frag) (As : List Addr) (H : Hp) : List V → List D → Prop where
  | nil : RpL K As H [] []
  | cons {v d vs ds} : Rp K As H v d → RpL K As H vs ds → RpL K As H (v :: vs) (d :: ds)
inductive RpK (K : PySem.W.Frag) (As : List Addr) (H : Hp) : List (Key × V) → List (Key × D) → Prop where
  | nil : RpK K As H [] []
  | cons {k v d vs ds} : Rp K As H v d → RpK K As H vs ds → RpK K As H ((k, v) :: vs) ((k, d) :: ds)
inductive RpF (K : PySem.W.Frag) (As : List Addr) (H : Hp) : List (Str × V) → List (Str × D) → Prop where
  | nil : RpF K As H [] []
  | cons {k v d vs ds} : Rp K As H v d → RpF K As H vs ds → RpF K As H ((k, v) :: vs) ((k, d) :: ds)
end
/-- As grows by new places, what is not in As stays -/
structure Ch (As : List Addr) (H : Hp) (As' : List Addr) (H' : Hp) : Prop where
  pre : ∃ B, As' = As ++ B
  keep : ∀ a o, H a = some o → a ∉ As → (∀ ps, o ≠ .tbl ps) → H' a = some o
  new : ∀ a, a ∈ As' → a ∈ As ∨ H a = none
  tbs : ∀ a ps, H a = some (.tbl ps) → ∃ ps', H' a = some (.tbl ps')
theorem Ch.refl {As : List Addr} {H : Hp} : Ch As H As H := ⟨⟨[], by simp⟩, fun _ _ h _ _ => h, fun _ h => .inl h, fun _ ps h => ⟨ps, h⟩⟩
theorem Ch.get {As As' : List Addr} {H H' : Hp} (c : Ch As H As' H') {k : Nat} {a : Addr} (h : As[k]? = some a) : As'[k]? = some a := by
  obtain ⟨B, rfl⟩ := c.pre
  rw [List.getElem?_append_left (List.getElem?_eq_some_iff.mp h).1]
  exact h
theorem Ch.out {As As' : List Addr} {H H' : Hp} (c : Ch As H As' H') {a : Addr} {o : HO} (h : H a = some o) (n : a ∉ As) : a ∉ As' := fun z => by
  rcases c.new a z with q | q
  · exact n q
  · rw [h] at q
    cases q
theorem Ch.rd {As As' : List Addr} {H H' : Hp} (c : Ch As H As' H') {a : Addr} {u : HO} (n : a ∉ As) (h : Rd H a u) (hu : ∀ ps, u ≠ .tbl ps) : Rd H' a u ∧ a ∉ As' := by
  rcases h with h | ⟨o, h⟩
  · exact ⟨.inl (c.keep a _ h n hu), c.out h n⟩
  · exact ⟨.inr ⟨o, c.keep a _ h n (fun _ z => nomatch z)⟩, c.out h n⟩
mutual
theorem Rp.mono {K : PySem.W.Frag} {As As' : List Addr} {H H' : Hp} (c : Ch As H As' H') : ∀ {v : V} {d : D}, Rp K As H v d → Rp K As' H' v d
  | _, _, .non => .non
  | _, _, .bl => .bl
  | _, _, .int => .int
  | _, _, .str => .str
  | _, _, .byt => .byt
  | _, _, .ty => .ty
  | _, _, .ref => .ref
  | _, _, .tup n h r => .tup (c.out h n) (c.keep _ _ h n (fun _ z => nomatch z)) (RpL.mono c r)
  | _, _, .tupW h r => .tupW h (RpL.mono c r)
  | _, _, .lst n h r => .lst (c.out h n) (c.keep _ _ h n (fun _ z => nomatch z)) (RpL.mono c r)
  | _, _, .dct n h r => .dct (c.out h n) (c.keep _ _ h n (fun _ z => nomatch z)) (RpK.mono c r)
  | _, _, .obj n h r => .obj (c.out h n) (c.keep _ _ h n (fun _ z => nomatch z)) (RpF.mono c r)
  | _, _, .exc0 n h => .exc0 (c.out h n) (c.keep _ _ h n (fun _ z => nomatch z))
  | _, _, .exc n n2 h h2 r => .exc (c.out h n) (c.out h2 n2) (c.keep _ _ h n (fun _ z => nomatch z)) (c.keep _ _ h2 n2 (fun _ z => nomatch z)) (RpF.mono c r)
  | _, _, .cel h => .cel (c.get h)
  | _, _, .scr n h => .scr (c.rd n h (fun _ z => nomatch z)).2 (c.rd n h (fun _ z => nomatch z)).1
  | _, _, .scrW h => .scrW h
theorem RpL.mono {K : PySem.W.Frag} {As As' : List Addr} {H H' : Hp} (c : Ch As H As' H') : ∀ {vs : List V} {ds : List D}, RpL K As H vs ds → RpL K As' H' vs ds
  | _, _, .nil => .nil
  | _, _, .cons r t => .cons (Rp.mono c r) (RpL.mono c t)
theorem RpK.mono {K : PySem.W.Frag} {As As' : List Addr} {H H' : Hp} (c : Ch As H As' H') : ∀ {vs : List (Key × V)} {ds : List (Key × D)}, RpK K As H vs ds → RpK K As' H' vs ds
  | _, _, .nil => .nil
  | _, _, .cons r t => .cons (Rp.mono c r) (RpK.mono c t)
theorem RpF.mono {K : PySem.W.Frag} {As As' : List Addr} {H H' : Hp} (c : Ch As H As' H') : ∀ {vs : List (Str × V)} {ds : List (Str × D)}, RpF K As H vs ds → RpF K As' H' vs ds
  | _, _, .nil => .nil
  | _, _, .cons r t => .cons (Rp.mono c r) (RpF.mono c t)
end
theorem Ch.trans {As As1 As2 : List Addr} {H H1 H2 : Hp} (a : Ch As H As1 H1) (b : Ch As1 H1 As2 H2) : Ch As H As2 H2 where
  pre := by
    obtain ⟨B, rfl⟩ := a.pre
    obtain ⟨B2, rfl⟩ := b.pre
    exact ⟨B ++ B2, by simp⟩
  keep := fun x o h n t => b.keep x o (a.keep x o h n t) (a.out h n) t
  new := fun x h => by
    rcases b.new x h with q | q
    · exact a.new x q
    · cases e : H x with
      | none => exact .inr rfl
      | some o =>
        by_cases hx : x ∈ As
        · exact .inl hx
        · by_cases ht : ∃ ps, o = .tbl ps
          · obtain ⟨ps, rfl⟩ := ht
            obtain ⟨ps', z⟩ := a.tbs x ps e
            rw [z] at q
            cases q
          · rw [a.keep x o e hx (fun ps z => ht ⟨ps, z⟩)] at q
            cases q
  tbs := fun x ps h => by
    obtain ⟨p1, h1⟩ := a.tbs x ps h
    exact b.tbs x p1 h1
/-- a new object laid -/
theorem Ch.laid {As : List Addr} {H : Hp} {p : Addr} {o : HO} (h : H p = none) : Ch As H As (upd H p o) where
  pre := ⟨[], by simp⟩
  keep := fun a u e _ _ => by
    rw [upd_ne (ne_of_none e h)]
    exact e
  new := fun _ h => .inl h
  tbs := fun a ps e => ⟨ps, by
    rw [upd_ne (ne_of_none e h)]
    exact e⟩
/-- a new object laid that is a cell -/
theorem Ch.cell {As : List Addr} {H : Hp} {p : Addr} {o : HO} (h : H p = none) : Ch As H (As ++ [p]) (upd H p o) where
  pre := ⟨[p], rfl⟩
  keep := fun a u e _ _ => by
    rw [upd_ne (ne_of_none e h)]
    exact e
  new := fun a z => by
    rcases List.mem_append.mp z with q | q
    · exact .inl q
    · have e : a = p := by simpa using q
      rw [e]
      exact .inr h
  tbs := fun a ps e => ⟨ps, by
    rw [upd_ne (ne_of_none e h)]
    exact e⟩
/-- a cell written (no table) -/
theorem Ch.write {As : List Addr} {H : Hp} {p : Addr} {o u : HO} (h : p ∈ As) (hu : H p = some u) (ht : ∀ ps, u ≠ .tbl ps) : Ch As H As (upd H p o) where
  pre := ⟨[], by simp⟩
  keep := fun a u e n _ => by
    have hne : a ≠ p := fun z => n (by rw [z]; exact h)
    rw [upd_ne hne]
    exact e
  new := fun _ h => .inl h
  tbs := fun a ps e => ⟨ps, by
    rw [upd_ne (fun z => by rw [z, hu] at e; exact ht ps (Option.some.inj e))]
    exact e⟩
/-! ## the state: slots, cells -/
inductive CeOk (K : PySem.W.Frag) (As : List Addr) (H : Hp) (a : Addr) : Ce → Prop where
  | lst {vs ds} : H a = some (.lst vs) → RpL K As H vs ds → CeOk K As H a (.lst ds)
  | dct {kvs kds} : H a = some (.dK kvs) → RpK K As H kvs kds → CeOk K As H a (.dct kds)
  | obj {C dx fs fds} : H a = some (.ins C dx fs) → RpF K As H fs fds → CeOk K As H a (.obj C fds)
structure Sta (K : PySem.W.Frag) (T : List (Addr × Str)) (As : List Addr) (M : List Ce) (H : Hp) (σ : L2.St) (Γ : List (Option D)) : Prop where
  tabs : Tabs T H
  alen : As.length = M.length
  nd : As.Nodup
  cell : ∀ (k : Nat) (c : Ce), M[k]? = some c → ∃ a, As[k]? = some a ∧ CeOk K As H a c
  slen : σ.length = Γ.length
  slot : ∀ (i : Nat) (d : D), Γ[i]? = some (some d) → ∃ v, σ[i]? = some (some v) ∧ Rp K As H v d
theorem CeOk.here {K : PySem.W.Frag} {As : List Addr} {H : Hp} {a : Addr} {c : Ce} (h : CeOk K As H a c) : ∃ o, H a = some o ∧ ∀ ps, o ≠ .tbl ps := by
  cases h with
  | lst h _ => exact ⟨_, h, fun _ z => nomatch z⟩
  | dct h _ => exact ⟨_, h, fun _ z => nomatch z⟩
  | obj h _ => exact ⟨_, h, fun _ z => nomatch z⟩
section
variable {K : PySem.W.Frag} {T : List (Addr × Str)} {As : List Addr} {M : List Ce} {H : Hp} {σ : L2.St} {Γ : List (Option D)}
theorem Sta.adom (E : Sta K T As M H σ Γ) {a : Addr} (h : a ∈ As) : ∃ o, H a = some o ∧ ∀ ps, o ≠ .tbl ps := by
  obtain ⟨k, hk, e⟩ := List.mem_iff_getElem.mp h
  have hk2 : k < M.length := by rw [← E.alen]; exact hk
  obtain ⟨b, hb, c⟩ := E.cell k M[k] (List.getElem?_eq_getElem hk2)
  rw [List.getElem?_eq_getElem hk] at hb
  have e2 : As[k] = b := Option.some.inj hb
  rw [← e, e2]
  exact c.here
theorem Sta.fresh (E : Sta K T As M H σ Γ) {p : Addr} (h : H p = none) : p ∉ As := fun z => by
  obtain ⟨o, q, _⟩ := E.adom z
  rw [h] at q
  cases q
/-- a change that leaves all cells as they are -/
theorem CeOk.mono {As' : List Addr} {H' : Hp} {a : Addr} {c : Ce} (ch : Ch As H As' H') (hk : ∀ o, H a = some o → H' a = some o) (h : CeOk K As H a c) : CeOk K As' H' a c := by
  cases h with
  | lst h r => exact .lst (hk _ h) (r.mono ch)
  | dct h r => exact .dct (hk _ h) (r.mono ch)
  | obj h r => exact .obj (hk _ h) (r.mono ch)
/-- a new object -/
theorem Sta.laid (E : Sta K T As M H σ Γ) {p : Addr} {o : HO} (h : H p = none) : Sta K T As M (upd H p o) σ Γ where
  tabs := E.tabs.ext fun b u e => by rw [upd_ne (ne_of_none e h)]; exact e
  alen := E.alen
  nd := E.nd
  cell := fun k c hc => by
    obtain ⟨a, ha, q⟩ := E.cell k c hc
    exact ⟨a, ha, q.mono (Ch.laid h) fun u e => by rw [upd_ne (ne_of_none e h)]; exact e⟩
  slen := E.slen
  slot := fun i d hd => by
    obtain ⟨v, hv, r⟩ := E.slot i d hd
    exact ⟨v, hv, r.mono (Ch.laid h)⟩
/-- a new cell -/
theorem Sta.newCell (E : Sta K T As M H σ Γ) {p : Addr} {o : HO} {c : Ce} (h : H p = none) (hc : CeOk K (As ++ [p]) (upd H p o) p c) : Sta K T (As ++ [p]) (M ++ [c]) (upd H p o) σ Γ where
  tabs := E.tabs.ext fun b u e => by rw [upd_ne (ne_of_none e h)]; exact e
  alen := by rw [List.length_append, List.length_append, E.alen]; rfl
  nd := List.nodup_append.mpr ⟨E.nd, List.nodup_cons.mpr ⟨by simp, List.nodup_nil⟩, fun a ha b hb => by
    have e : b = p := by simpa using hb
    rw [e]
    exact fun z => E.fresh h (by rw [← z]; exact ha)⟩
  cell := fun k c2 hc2 => by
    by_cases hk : k < M.length
    · rw [List.getElem?_append_left hk] at hc2
      obtain ⟨a, ha, q⟩ := E.cell k c2 hc2
      refine ⟨a, (Ch.cell (o := o) h).get ha, q.mono (Ch.cell h) fun u e => by rw [upd_ne (ne_of_none e h)]; exact e⟩
    · have hk2 : k = M.length := by
        have := (List.getElem?_eq_some_iff.mp hc2).1
        rw [List.length_append] at this
        have : k < M.length + 1 := this
        omega
      subst hk2
      rw [List.getElem?_append_right (Nat.le_refl _), Nat.sub_self] at hc2
      have e : c = c2 := Option.some.inj hc2
      subst e
      refine ⟨p, ?_, hc⟩
      rw [← E.alen, List.getElem?_append_right (Nat.le_refl _), Nat.sub_self]
      rfl
  slen := E.slen
  slot := fun i d hd => by
    obtain ⟨v, hv, r⟩ := E.slot i d hd
    exact ⟨v, hv, r.mono (Ch.cell h)⟩
/-- a cell is written -/
theorem Sta.write (E : Sta K T As M H σ Γ) {k : Nat} {p : Addr} {o : HO} {c c0 : Ce} (hp : As[k]? = some p) (h0 : M[k]? = some c0) (hc : CeOk K As (upd H p o) p c) : Sta K T As (M.set k c) (upd H p o) σ Γ := by
  have hm : p ∈ As := List.mem_of_getElem? hp
  obtain ⟨u, hu, ht⟩ := E.adom hm
  have ch : Ch As H As (upd H p o) := Ch.write hm hu ht
  refine ⟨?_, by rw [List.length_set]; exact E.alen, E.nd, fun j c2 hj => ?_, E.slen, fun i d hd => ?_⟩
  · intro q hq
    obtain ⟨ps, h1, h2, h3⟩ := E.tabs q hq
    refine ⟨ps, ?_, h2, fun pos cv hcv => ?_⟩
    · rw [upd_ne (fun z => by rw [z, hu] at h1; exact ht ps (Option.some.inj h1))]
      exact h1
    · obtain ⟨x, e1, e2⟩ := h3 pos cv hcv
      refine ⟨x, e1, ?_⟩
      by_cases hx : x = p
      · exfalso
        obtain ⟨b, hb, q⟩ := E.cell k c0 h0
        rw [hp] at hb
        cases hb
        rw [hx] at e2
        cases q with
        | lst z _ => rw [e2] at z; cases z
        | dct z _ => rw [e2] at z; cases z
        | obj z _ => rw [e2] at z; cases z
      · rw [upd_ne hx]
        exact e2
  · by_cases hjk : j = k
    · subst hjk
      rw [List.getElem?_set_self (List.getElem?_eq_some_iff.mp h0).1] at hj
      have e : c = c2 := Option.some.inj hj
      subst e
      exact ⟨p, hp, hc⟩
    · rw [List.getElem?_set_ne (Ne.symm hjk)] at hj
      obtain ⟨a, ha, q⟩ := E.cell j c2 hj
      refine ⟨a, ha, q.mono ch fun u e => ?_⟩
      rw [upd_ne]
      · exact e
      · intro z
        rw [z] at ha
        obtain ⟨h1, e1⟩ := List.getElem?_eq_some_iff.mp ha
        obtain ⟨h2, e2⟩ := List.getElem?_eq_some_iff.mp hp
        exact hjk ((List.getElem_inj E.nd).mp (e1.trans e2.symm))
  · obtain ⟨v, hv, r⟩ := E.slot i d hd
    exact ⟨v, hv, r.mono ch⟩
/-- a slot is stored -/
theorem Sta.store (E : Sta K T As M H σ Γ) {i : Nat} {v : V} {d : D} (hi : i < Γ.length) (r : Rp K As H v d) : Sta K T As M H (σ.set i (some v)) (Γ.set i (some d)) where
  tabs := E.tabs
  alen := E.alen
  nd := E.nd
  cell := E.cell
  slen := by rw [List.length_set, List.length_set]; exact E.slen
  slot := fun j d2 hd => by
    by_cases hj : j = i
    · subst hj
      rw [List.getElem?_set_self hi] at hd
      cases hd
      exact ⟨v, by rw [List.getElem?_set_self (by rw [E.slen]; exact hi)], r⟩
    · rw [List.getElem?_set_ne (Ne.symm hj)] at hd
      rw [List.getElem?_set_ne (Ne.symm hj)]
      exact E.slot j d2 hd
/-- other slots -/
theorem Sta.slots (E : Sta K T As M H σ Γ) {σ' : L2.St} {Γ' : List (Option D)} (hl : σ'.length = Γ'.length) (h : ∀ (i : Nat) (d : D), Γ'[i]? = some (some d) → ∃ v, σ'[i]? = some (some v) ∧ Rp K As H v d) : Sta K T As M H σ' Γ' :=
  ⟨E.tabs, E.alen, E.nd, E.cell, hl, h⟩
theorem Sta.bare (E : Sta K T As M H σ Γ) : Sta K T As M H [] [] := E.slots rfl fun i d h => by simp at h
end
end Bs
namespace Bs
open PySem PySem.Spec PyProof.Rows L2 LamX
/-! ## the readings -/
section
variable (K : PySem.W.Frag) (T : List (Addr × Str))
structure tES (Γ : List (Option D)) (M : List Ce) (d : D) (M' : List Ce) (σ : L2.St) (H : Hp) (Q : VK) : Prop where
  ex : ∃ As, Sta K T As M H σ Γ ∧ ∀ As' v H', Ch As H As' H' → Sta K T As' M' H' σ Γ → Rp K As' H' v d → Q v H'
def tE (Γ : List (Option D)) (M : List Ce) (d : D) (M' : List Ce) : TE := tES K T Γ M d M'
structure tAS (Γ : List (Option D)) (M : List Ce) (ds : List D) (M' : List Ce) (σ : L2.St) (H : Hp) (Q : List V → Hp → Prop) : Prop where
  ex : ∃ As, Sta K T As M H σ Γ ∧ ∀ As' vs H', Ch As H As' H' → Sta K T As' M' H' σ Γ → RpL K As' H' vs ds → Q vs H'
def tA (Γ : List (Option D)) (M : List Ce) (ds : List D) (M' : List Ce) : TA := tAS K T Γ M ds M'
structure tTS (Γ : List (Option D)) (M : List Ce) (b : Bool) (M' : List Ce) (σ : L2.St) (H : Hp) (Q : Bool → Hp → Prop) : Prop where
  ex : ∃ As, Sta K T As M H σ Γ ∧ ∀ As' H', Ch As H As' H' → Sta K T As' M' H' σ Γ → Q b H'
def tT (Γ : List (Option D)) (M : List Ce) (b : Bool) (M' : List Ce) : TT := tTS K T Γ M b M'
/-- a new list, the items ds -/
structure tFS (Γ : List (Option D)) (M : List Ce) (ds : List D) (M' : List Ce) (σ : L2.St) (H : Hp) (Q : VK) : Prop where
  ex : ∃ As, Sta K T As M H σ Γ ∧ ∀ As' vs H' p, Ch As H As' H' → Sta K T As' M' H' σ Γ → RpL K As' H' vs ds → H' p = none → Q (.ref p) (upd H' p (.lst vs))
def tF (Γ : List (Option D)) (M : List Ce) (ds : List D) (M' : List Ce) : TE := tFS K T Γ M ds M'
inductive Out where
  | nx (Γ : List (Option D)) (M : List Ce) | rt (d : D) (M : List Ce) | bk (Γ : List (Option D)) (M : List Ce) | ct (Γ : List (Option D)) (M : List Ce)
  | ex (C : Addr) (fs : List (Str × D)) (Γ : List (Option D)) (M : List Ce)
def XOk (As : List Addr) (H : Hp) (dd : Option Addr) (fs : List (Str × D)) : Prop := (dd = none ∧ fs = []) ∨ ∃ d fvs, dd = some d ∧ d ∉ As ∧ H d = some (.xd fvs) ∧ RpF K As H fvs fs
def tO (W : WX) (As : List Addr) (H : Hp) (D : Ends) : Out → Prop
  | .nx Γ' M' => ∀ As' H' σ', Ch As H As' H' → Sta K T As' M' H' σ' Γ' → D.nx σ' H'
  | .rt d M' => ∀ As' H' v, Ch As H As' H' → Sta K T As' M' H' [] [] → Rp K As' H' v d → D.rt v H'
  | .bk Γ' M' => ∀ As' H' σ', Ch As H As' H' → Sta K T As' M' H' σ' Γ' → D.bk σ' H'
  | .ct Γ' M' => ∀ As' H' σ', Ch As H As' H' → Sta K T As' M' H' σ' Γ' → D.ct σ' H'
  | .ex C fs Γ' M' => ∀ As' H' σ' dd, Ch As H As' H' → Sta K T As' M' H' σ' Γ' → XOk K As' H' dd fs → W (.ref C) dd σ' H'
structure tSS (W : WX) (Γ : List (Option D)) (M : List Ce) (o : Out) (D : Ends) (σ : L2.St) (H : Hp) : Prop where
  ex : ∃ As, Sta K T As M H σ Γ ∧ tO K T W As H D o
def tS (W : WX) (Γ : List (Option D)) (M : List Ce) (o : Out) : TS := tSS K T W Γ M o
/-- an expression that raises -/
structure tXS (W : WX) (Γ : List (Option D)) (M : List Ce) (C : Addr) (fs : List (Str × D)) (M' : List Ce) (σ : L2.St) (H : Hp) (_u : VK) : Prop where
  ex : ∃ As, Sta K T As M H σ Γ ∧ ∀ As' H' dd, Ch As H As' H' → Sta K T As' M' H' σ Γ → XOk K As' H' dd fs → W (.ref C) dd σ H'
def tX (W : WX) (Γ : List (Option D)) (M : List Ce) (C : Addr) (fs : List (Str × D)) (M' : List Ce) : TE := tXS K T W Γ M C fs M'
end
section
variable {X : Cx} {e : Expr} {st : Stmt} {sts : List Stmt}
theorem wkE {t t' : TE} (h : PE X e t) (w : ∀ σ H Q, t' σ H Q → t σ H Q) : PE X e t' := ⟨fun pins s σ H Q I q => h.run pins s σ H Q I (w σ H Q q)⟩
theorem wkA {es : List Expr} {t t' : TA} (h : PA X es t) (w : ∀ σ H Q, t' σ H Q → t σ H Q) : PA X es t' := ⟨fun pos pins s σ H Q I q => h.run pos pins s σ H Q I (w σ H Q q)⟩
theorem wkT {t t' : TT} (h : PT X e t) (w : ∀ σ H Q, t' σ H Q → t σ H Q) : PT X e t' := ⟨fun pins s σ H Q I q => h.run pins s σ H Q I (w σ H Q q)⟩
theorem wkS {t t' : TS} (h : PS X st t) (w : ∀ D σ H, t' D σ H → t D σ H) : PS X st t' := ⟨fun pins s σ H D I q => h.run pins s σ H D I (w D σ H q)⟩
theorem wkSs {t t' : TS} (h : PSs X sts t) (w : ∀ D σ H, t' D σ H → t D σ H) : PSs X sts t' := ⟨fun pins s σ H D I q => h.run pins s σ H D I (w D σ H q)⟩
theorem anyE {ι : Type} {t : ι → TE} (h : ∀ i, PE X e (t i)) : PE X e (fun σ H Q => ∃ i, t i σ H Q) := ⟨fun pins s σ H Q I ⟨i, q⟩ => (h i).run pins s σ H Q I q⟩
theorem anyT {ι : Type} {t : ι → TT} (h : ∀ i, PT X e (t i)) : PT X e (fun σ H Q => ∃ i, t i σ H Q) := ⟨fun pins s σ H Q I ⟨i, q⟩ => (h i).run pins s σ H Q I q⟩
theorem anySs {ι : Type} {t : ι → TS} (h : ∀ i, PSs X sts (t i)) : PSs X sts (fun D σ H => ∃ i, t i D σ H) := ⟨fun pins s σ H D I ⟨i, q⟩ => (h i).run pins s σ H D I q⟩
theorem neverE : PE X e (fun _ _ _ => False) := ⟨fun _ _ _ _ _ _ q => q.elim⟩
theorem neverT : PT X e (fun _ _ _ => False) := ⟨fun _ _ _ _ _ _ q => q.elim⟩
theorem neverA {es : List Expr} : PA X es (fun _ _ _ => False) := ⟨fun _ _ _ _ _ _ _ q => q.elim⟩
end
/-! ## lists: where they stand -/
section
variable {K : PySem.W.Frag} {T : List (Addr × Str)} {As : List Addr} {M : List Ce} {H : Hp} {σ : L2.St} {Γ : List (Option D)}
theorem RpL.length : ∀ {vs : List V} {ds : List D}, RpL K As H vs ds → vs.length = ds.length
  | _, _, .nil => rfl
  | _, _, .cons _ t => by rw [List.length_cons, List.length_cons, RpL.length t]
theorem RpL.get : ∀ {vs : List V} {ds : List D} {i : Nat} {d : D}, RpL K As H vs ds → ds[i]? = some d → ∃ v, vs[i]? = some v ∧ Rp K As H v d
  | _, _, _, _, .nil, e => by simp at e
  | _, _, 0, _, .cons r _, e => by
    simp at e
    subst e
    exact ⟨_, rfl, r⟩
  | _, _, i + 1, d, .cons _ t, e => by
    obtain ⟨v, h1, h2⟩ := RpL.get (i := i) (d := d) t (by simpa using e)
    exact ⟨v, by simpa using h1, h2⟩
theorem RpL.getV : ∀ {vs : List V} {ds : List D} {i : Nat} {v : V}, RpL K As H vs ds → vs[i]? = some v → ∃ d, ds[i]? = some d ∧ Rp K As H v d
  | _, _, _, _, .nil, e => by simp at e
  | _, _, 0, _, .cons r _, e => by
    simp at e
    subst e
    exact ⟨_, rfl, r⟩
  | _, _, i + 1, v, .cons _ t, e => by
    obtain ⟨d, h1, h2⟩ := RpL.getV (i := i) (v := v) t (by simpa using e)
    exact ⟨d, by simpa using h1, h2⟩
theorem RpL.set {v : V} {d : D} (r : Rp K As H v d) : ∀ {vs : List V} {ds : List D} (i : Nat), RpL K As H vs ds → RpL K As H (vs.set i v) (ds.set i d)
  | _, _, _, .nil => .nil
  | _, _, 0, .cons _ t => .cons r t
  | _, _, i + 1, .cons q t => .cons q (RpL.set r i t)
theorem RpL.append : ∀ {vs ws : List V} {ds es : List D}, RpL K As H vs ds → RpL K As H ws es → RpL K As H (vs ++ ws) (ds ++ es)
  | _, _, _, _, .nil, s => s
  | _, _, _, _, .cons r t, s => .cons r (RpL.append t s)
theorem RpL.take : ∀ {vs : List V} {ds : List D} (n : Nat), RpL K As H vs ds → RpL K As H (vs.take n) (ds.take n)
  | _, _, 0, _ => .nil
  | _, _, _ + 1, .nil => .nil
  | _, _, n + 1, .cons r t => .cons r (RpL.take n t)
theorem RpL.drop : ∀ {vs : List V} {ds : List D} (n : Nat), RpL K As H vs ds → RpL K As H (vs.drop n) (ds.drop n)
  | _, _, 0, r => r
  | _, _, _ + 1, .nil => .nil
  | _, _, n + 1, .cons _ t => RpL.drop n t
theorem RpL.ints : ∀ {vs : List V} {ns : List Int}, RpL K As H vs (ns.map D.int) → vs = ns.map V.int
  | _, [], .nil => rfl
  | _, n :: ns, .cons r t => by
    cases r
    rw [List.map_cons, RpL.ints t]
theorem RpL.of_ints : ∀ {ns : List Int}, RpL K As H (ns.map V.int) (ns.map D.int)
  | [] => .nil
  | _ :: _ => .cons .int RpL.of_ints
theorem RpL.atI {vs : List V} {ds : List D} {i : Int} {d : D} (r : RpL K As H vs ds) (h : atI ds i = some d) : ∃ v, L2.atI vs i = some v ∧ Rp K As H v d := by
  unfold L2.atI at h ⊢
  rw [r.length]
  cases e : ixN ds.length i with
  | none =>
    rw [e] at h
    cases h
  | some j =>
    rw [e] at h
    exact r.get h
/-- d is a list of ds: a datum, or a cell -/
def LV (M : List Ce) (d : D) (ds : List D) : Prop := d = .lst ds ∨ ∃ k : Nat, d = .cel k ∧ M[k]? = some (.lst ds)
theorem LV.d {M : List Ce} {ds : List D} : LV M (.lst ds) ds := .inl rfl
theorem LV.c {M : List Ce} {k : Nat} {ds : List D} (h : M[k]? = some (.lst ds)) : LV M (.cel k) ds := .inr ⟨k, rfl, h⟩
theorem LV.at {d : D} {ds : List D} {v : V} (l : LV M d ds) (S : Sta K T As M H σ Γ) (r : Rp K As H v d) : ∃ a vs, v = .ref a ∧ H a = some (.lst vs) ∧ RpL K As H vs ds := by
  rcases l with rfl | ⟨k, rfl, hk⟩
  · cases r with
    | lst _ h q => exact ⟨_, _, rfl, h, q⟩
  · cases r with
    | cel h =>
      obtain ⟨a, ha, c⟩ := S.cell k _ hk
      rw [h] at ha
      cases ha
      cases c with
      | lst h2 q => exact ⟨_, _, rfl, h2, q⟩
theorem Rp.tupAt {ds : List D} {v : V} (r : Rp K As H v (.tup ds)) : ∃ a vs, v = .ref a ∧ SqT K H a vs ∧ RpL K As H vs ds := by
  cases r with
  | tup _ h q => exact ⟨_, _, rfl, SqT.of h, q⟩
  | tupW h q => exact ⟨_, _, rfl, h H, q⟩
theorem Rp.scrAt {ns : List Int} {v : V} (r : Rp K As H v (.scr ns)) : ∃ a, v = .ref a ∧ SqL K H a (ns.map V.int) := by
  cases r with
  | scr _ h => exact ⟨_, rfl, .inl h⟩
  | scrW h => exact ⟨_, rfl, h H⟩
end
/-! ## expressions -/
section
variable {X : Cx} {T : List (Addr × Str)} {Γ : List (Option D)} {M M1 M2 M3 M' : List Ce} {a b c e : Expr} {es : List Expr} {d d1 d2 : D} {pos : Pos}
theorem e_var {i : Nat} {x : Str} (hd : Γ[i]? = some (some d)) (hN : X.N[i]? = some x) (hv : Vis X.env.scope x) (hdb : (x == ("__debug__" : Str)) = false := by decide) (hcd : (x == ("__classdict__" : Str)) = false := by decide) :
    PE X (.Name x pos) (tE X.K T Γ M d M) := wkE (pe_var hN hv hdb hcd) fun σ H Q ⟨As, S, k⟩ => by
  obtain ⟨v, hv, r⟩ := S.slot i d hd
  exact ⟨v, hv, k As v H Ch.refl S r⟩
theorem e_int {i : Int} {j : Nat} : PE X (.Constant (.int i) j pos) (tE X.K T Γ M (.int i) M) := wkE pe_int fun σ H Q ⟨As, S, k⟩ => k As _ H Ch.refl S .int
theorem e_bl {i : Bool} {j : Nat} : PE X (.Constant (.bool i) j pos) (tE X.K T Γ M (.bl i) M) := wkE pe_bl fun σ H Q ⟨As, S, k⟩ => k As _ H Ch.refl S .bl
theorem e_str {i : Str} {j : Nat} : PE X (.Constant (.str i) j pos) (tE X.K T Γ M (.str i) M) := wkE pe_str fun σ H Q ⟨As, S, k⟩ => k As _ H Ch.refl S .str
theorem e_non {j : Nat} : PE X (.Constant .none j pos) (tE X.K T Γ M .non M) := wkE pe_non fun σ H Q ⟨As, S, k⟩ => k As _ H Ch.refl S .non
/-- a module's int -/
theorem e_gint {x : Str} {i : Int} {t : Tok} (hg : Gl X x) (hm : X.mg x = some (.int i t)) (hd : (x == ("__debug__" : Str)) = false := by decide) : PE X (.Name x pos) (tE X.K T Γ M (.int i) M) :=
  wkE (pe_glob (v := .int i) hg hm ⟨t, rfl⟩ hd) fun σ H Q ⟨As, S, k⟩ => k As _ H Ch.refl S .int
theorem e_gref {x : Str} {f : Addr} (hg : Gl X x) (hm : X.mg x = some (.ref f)) (hd : (x == ("__debug__" : Str)) = false := by decide) : PE X (.Name x pos) (tE X.K T Γ M (.ref f) M) :=
  wkE (pe_glob (v := .ref f) hg hm rfl hd) fun σ H Q ⟨As, S, k⟩ => k As _ H Ch.refl S .ref
theorem e_gtup {x : Str} {f : Addr} {vs : List V} {ds : List D} (hg : Gl X x) (hm : X.mg x = some (.ref f)) (hs : ∀ H, SqT X.K H f vs) (hr : ∀ As H, RpL X.K As H vs ds) (hd : (x == ("__debug__" : Str)) = false := by decide) : PE X (.Name x pos) (tE X.K T Γ M (.tup ds) M) :=
  wkE (pe_glob (v := .ref f) hg hm rfl hd) fun σ H Q ⟨As, S, k⟩ => k As _ H Ch.refl S (.tupW hs (hr As H))
/-- a built-in type as a value -/
theorem e_gty {x : Str} {n : String} (hg : Gl X x) (hm : X.mg x = none) (hv : bootBuiltins x = some (.type n)) (hn : x ≠ "__name__" := by decide) (hd : (x == ("__debug__" : Str)) = false := by decide) : PE X (.Name x pos) (tE X.K T Γ M (.ty n) M) :=
  wkE (pe_bltn (v := .ty n) hg hm hv rfl hn hd) fun σ H Q ⟨As, S, k⟩ => k As _ H Ch.refl S .ty
/-- operators by values -/
def OpE (K : PySem.W.Frag) (T : List (Addr × Str)) (r : R2) (d1 d2 : D) (M : List Ce) (d : D) (M' : List Ce) : Prop := ∀ (As : List Addr) (σ : L2.St) (Γ : List (Option D)) (H : Hp) (v1 v2 : V) (Q : VK), Sta K T As M H σ Γ → Rp K As H v1 d1 → Rp K As H v2 d2 →
  (∀ As' v H', Ch As H As' H' → Sta K T As' M' H' σ Γ → Rp K As' H' v d → Q v H') → r v1 v2 H Q
theorem tOp_of {K : PySem.W.Frag} {r : R2} {σ : L2.St} {H : Hp} {Q : VK} (hr : OpE K T r d1 d2 M2 d M') (h : tE K T Γ M d M' σ H Q) : tOp r (tE K T Γ M d1 M1) (tE K T Γ M1 d2 M2) σ H Q := by
  obtain ⟨As, S, k⟩ := h
  refine ⟨As, S, fun As1 v1 H1 c1 S1 r1 => ⟨As1, S1, fun As2 v2 H2 c2 S2 r2 => ?_⟩⟩
  exact hr As2 σ Γ H2 v1 v2 Q S2 (r1.mono c2) r2 fun As3 v H3 c3 S3 r3 => k As3 v H3 ((c1.trans c2).trans c3) S3 r3
theorem e_op {op : Operator} {r : R2} (ho : OpR X (binaryOp op) r) (ha : PE X a (tE X.K T Γ M d1 M1)) (hb : PE X b (tE X.K T Γ M1 d2 M2)) (hr : OpE X.K T r d1 d2 M2 d M') : PE X (.BinOp a op b pos) (tE X.K T Γ M d M') := wkE (pe_op ho ha hb) fun _ _ _ h => tOp_of hr h
theorem e_cmp {op : CmpOp} {r : R2} (ho : OpR X (compareOp op) r) (hm : behindInMarks op b = false) (ha : PE X a (tE X.K T Γ M d1 M1)) (hb : PE X b (tE X.K T Γ M1 d2 M2)) (hr : OpE X.K T r d1 d2 M2 d M') : PE X (.Compare a [op] [b] pos) (tE X.K T Γ M d M') := wkE (pe_cmpR ho ha hb hm) fun _ _ _ h => tOp_of hr h
theorem t_cmp {op : CmpOp} {r : R2} {z : Bool} (ho : OpR X (compareOp op) r) (hm : behindInMarks op b = false) (ha : PE X a (tE X.K T Γ M d1 M1)) (hb : PE X b (tE X.K T Γ M1 d2 M2)) (hr : OpE X.K T r d1 d2 M2 (.bl z) M') : PT X (.Compare a [op] [b] pos) (tT X.K T Γ M z M') :=
  wkT (pt_cmpR ho ha hb hm) fun σ H Q ⟨As, S, k⟩ => tOp_of hr ⟨As, S, fun As' v H' c1 S1 r1 => by
    cases r1
    exact ⟨z, rfl, k As' H' c1 S1⟩⟩
theorem e_ix {r : R2} (ho : IxR X r) (ha : PE X a (tE X.K T Γ M d1 M1)) (hb : PE X b (tE X.K T Γ M1 d2 M2)) (hr : OpE X.K T r d1 d2 M2 d M') (hs : PlainIx b := by exact fun _ _ => rfl) : PE X (.Subscript a b pos) (tE X.K T Γ M d M') := wkE (pe_ix ho ha hb hs) fun _ _ _ h => tOp_of hr h
theorem e_un {op : UnaryOp} {g : Int → Int} {i : Int} (ho : UnR X (unaryOp op) (rU fun i => .int (g i))) (ha : PE X a (tE X.K T Γ M (.int i) M1)) : PE X (.UnaryOp op a pos) (tE X.K T Γ M (.int (g i)) M1) := wkE (pe_un ho ha) fun σ H Q ⟨As, S, k⟩ => ⟨As, S, fun As1 v1 H1 c1 S1 r1 => by
  cases r1
  exact ⟨i, rfl, k As1 _ H1 c1 S1 .int⟩⟩
end
/-! ### what operators give -/
section
variable {K : PySem.W.Frag} {T : List (Addr × Str)} {M : List Ce} {d d1 : D}
theorem o_I0 {g : Int → Int → Int} {i j : Int} : OpE K T (rI0 fun i j => .int (g i j)) (.int i) (.int j) M (.int (g i j)) M := fun As σ Γ H v1 v2 Q S r1 r2 k => by
  cases r1
  cases r2
  exact ⟨i, j, rfl, rfl, k As _ H Ch.refl S .int⟩
theorem o_B0 {g : Int → Int → Bool} {i j : Int} : OpE K T (rI0 fun i j => .bl (g i j)) (.int i) (.int j) M (.bl (g i j)) M := fun As σ Γ H v1 v2 Q S r1 r2 k => by
  cases r1
  cases r2
  exact ⟨i, j, rfl, rfl, k As _ H Ch.refl S .bl⟩
theorem o_I {C : Int → Int → Prop} {g : Int → Int → Int} {i j : Int} (hc : C i j) : OpE K T (rI C fun i j => .int (g i j)) (.int i) (.int j) M (.int (g i j)) M := fun As σ Γ H v1 v2 Q S r1 r2 k => by
  cases r1
  cases r2
  exact ⟨i, j, rfl, rfl, hc, k As _ H Ch.refl S .int⟩
/-- scalars: no addresses -/
def D.sc : D → Option V
  | .non => some .non
  | .bl b => some (.bl b)
  | .int i => some (.int i)
  | .str x => some (.str x)
  | .byt b => some (.byt b)
  | _ => none
theorem Rp.sc_of {As : List Addr} {H : Hp} {v u : V} (r : Rp K As H v d) (h : d.sc = some u) : v = u := by
  cases r <;> first | exact Option.some.inj h | (simp [D.sc] at h)
theorem o_eq {d2 : D} {x y : V} (hx : d1.sc = some x) (hy : d2.sc = some y) (h : scal x y = true) : OpE K T rEq d1 d2 M (.bl (decide (x = y))) M := fun As σ Γ H v1 v2 Q S r1 r2 k => by
  rw [r1.sc_of hx, r2.sc_of hy]
  exact ⟨h, k As _ H Ch.refl S .bl⟩
theorem o_ne {d2 : D} {x y : V} (hx : d1.sc = some x) (hy : d2.sc = some y) (h : scal x y = true) : OpE K T rNe d1 d2 M (.bl (!decide (x = y))) M := fun As σ Γ H v1 v2 Q S r1 r2 k => by
  rw [r1.sc_of hx, r2.sc_of hy]
  exact ⟨h, k As _ H Ch.refl S .bl⟩
theorem o_ixL {ds : List D} {i : Int} (l : LV M d1 ds) (h : atI ds i = some d) : OpE K T (rIxL K) d1 (.int i) M d M := fun As σ Γ H v1 v2 Q S r1 r2 k => by
  obtain ⟨a, vs, rfl, ha, rl⟩ := l.at S r1
  cases r2
  obtain ⟨v, hv, r⟩ := rl.atI h
  exact ⟨a, vs, i, v, rfl, rfl, SqL.of ha, hv, k As v H Ch.refl S r⟩
theorem o_ixT {ds : List D} {i : Int} (h : atI ds i = some d) : OpE K T (rIxT K) (.tup ds) (.int i) M d M := fun As σ Γ H v1 v2 Q S r1 r2 k => by
  obtain ⟨a, vs, rfl, ha, rl⟩ := r1.tupAt
  cases r2
  obtain ⟨v, hv, r⟩ := rl.atI h
  exact ⟨a, vs, i, v, rfl, rfl, ha, hv, k As v H Ch.refl S r⟩
theorem o_ixS {ns : List Int} {i j : Int} (h : atI (ns.map D.int) i = some (.int j)) : OpE K T (rIxL K) (.scr ns) (.int i) M (.int j) M := fun As σ Γ H v1 v2 Q S r1 r2 k => by
  obtain ⟨a, rfl, ha⟩ := r1.scrAt
  cases r2
  obtain ⟨v, hv, r⟩ := (RpL.of_ints (K := K) (As := As) (H := H) (ns := ns)).atI h
  exact ⟨a, _, i, v, rfl, rfl, ha, hv, k As v H Ch.refl S r⟩
end
/-! ### and, or, not, if -/
section
variable {X : Cx} {T : List (Addr × Str)} {Γ : List (Option D)} {M M1 M2 M3 M' : List Ce} {a b c e : Expr} {es rest : List Expr} {d d1 d2 : D} {pos : Pos}
theorem e_andT (ha : PE X a (tE X.K T Γ M (.bl true) M1)) (hb : PE X (.BoolOp .And (b :: rest) pos) (tE X.K T Γ M1 d M2)) : PE X (.BoolOp .And (a :: b :: rest) pos) (tE X.K T Γ M d M2) := wkE (pe_and ha hb) fun σ H Q ⟨As, S, k⟩ => ⟨As, S, fun As1 v H1 c1 S1 r1 => by
  cases r1
  exact ⟨true, rfl, iteT ⟨As1, S1, fun As2 v H2 c2 S2 r2 => k As2 v H2 (c1.trans c2) S2 r2⟩⟩⟩
theorem e_andF (ha : PE X a (tE X.K T Γ M (.bl false) M1)) : PE X (.BoolOp .And (a :: b :: rest) pos) (tE X.K T Γ M (.bl false) M1) := wkE (pe_and ha neverE) fun σ H Q ⟨As, S, k⟩ => ⟨As, S, fun As1 v H1 c1 S1 r1 => by
  cases r1
  exact ⟨false, rfl, iteF (k As1 _ H1 c1 S1 .bl)⟩⟩
theorem e_orT (ha : PE X a (tE X.K T Γ M (.bl true) M1)) : PE X (.BoolOp .Or (a :: b :: rest) pos) (tE X.K T Γ M (.bl true) M1) := wkE (pe_or ha neverE) fun σ H Q ⟨As, S, k⟩ => ⟨As, S, fun As1 v H1 c1 S1 r1 => by
  cases r1
  exact ⟨true, rfl, iteT (k As1 _ H1 c1 S1 .bl)⟩⟩
theorem e_orF (ha : PE X a (tE X.K T Γ M (.bl false) M1)) (hb : PE X (.BoolOp .Or (b :: rest) pos) (tE X.K T Γ M1 d M2)) : PE X (.BoolOp .Or (a :: b :: rest) pos) (tE X.K T Γ M d M2) := wkE (pe_or ha hb) fun σ H Q ⟨As, S, k⟩ => ⟨As, S, fun As1 v H1 c1 S1 r1 => by
  cases r1
  exact ⟨false, rfl, iteF ⟨As1, S1, fun As2 v H2 c2 S2 r2 => k As2 v H2 (c1.trans c2) S2 r2⟩⟩⟩
theorem e_one {op : BoolOp} (h : PE X a (tE X.K T Γ M d M1)) : PE X (.BoolOp op [a] pos) (tE X.K T Γ M d M1) := pe_one h
/-- both values bools, nothing made: a and b -/
theorem e_and {x y : Bool} (ha : PE X a (tE X.K T Γ M (.bl x) M)) (hb : x = true → PE X (.BoolOp .And (b :: rest) pos) (tE X.K T Γ M (.bl y) M)) : PE X (.BoolOp .And (a :: b :: rest) pos) (tE X.K T Γ M (.bl (x && y)) M) := by
  cases x with
  | true => exact e_andT ha (hb rfl)
  | false => exact e_andF ha
theorem e_or {x y : Bool} (ha : PE X a (tE X.K T Γ M (.bl x) M)) (hb : x = false → PE X (.BoolOp .Or (b :: rest) pos) (tE X.K T Γ M (.bl y) M)) : PE X (.BoolOp .Or (a :: b :: rest) pos) (tE X.K T Γ M (.bl (x || y)) M) := by
  cases x with
  | true => exact e_orT ha
  | false => exact e_orF ha (hb rfl)
theorem e_not {x : Bool} (ha : PE X a (tE X.K T Γ M (.bl x) M1)) : PE X (.UnaryOp .Not a pos) (tE X.K T Γ M (.bl (!x)) M1) := wkE (pe_not ha) fun σ H Q ⟨As, S, k⟩ => ⟨As, S, fun As1 v H1 c1 S1 r1 => by
  cases r1
  exact ⟨x, rfl, k As1 _ H1 c1 S1 .bl⟩⟩
theorem e_if {z : Bool} (hc : PT X c (tT X.K T Γ M z M1)) (ha : z = true → PE X a (tE X.K T Γ M1 d M2)) (hb : z = false → PE X b (tE X.K T Γ M1 d M2)) : PE X (.IfExp c a b pos) (tE X.K T Γ M d M2) := by
  cases z with
  | true => exact wkE (pe_ifExp hc (ha rfl) neverE) fun σ H Q ⟨As, S, k⟩ => ⟨As, S, fun As1 H1 c1 S1 => iteT ⟨As1, S1, fun As2 v H2 c2 S2 r2 => k As2 v H2 (c1.trans c2) S2 r2⟩⟩
  | false => exact wkE (pe_ifExp hc neverE (hb rfl)) fun σ H Q ⟨As, S, k⟩ => ⟨As, S, fun As1 H1 c1 S1 => iteF ⟨As1, S1, fun As2 v H2 c2 S2 r2 => k As2 v H2 (c1.trans c2) S2 r2⟩⟩
/-! tests -/
theorem t_val {z : Bool} (h : PE X a (tE X.K T Γ M (.bl z) M1)) (he : ∀ whole, isTrue a X.env whole = (do let v ← whole; standAt a.pos; holding [v] (truthy v)) := by intro _; rfl) : PT X a (tT X.K T Γ M z M1) := wkT (pt_val h he) fun σ H Q ⟨As, S, k⟩ => ⟨As, S, fun As1 v H1 c1 S1 r1 => by
  cases r1
  exact ⟨z, rfl, k As1 H1 c1 S1⟩⟩
theorem t_not {z : Bool} (h : PT X a (tT X.K T Γ M z M1)) : PT X (.UnaryOp .Not a pos) (tT X.K T Γ M (!z) M1) := wkT (pt_not h) fun σ H Q ⟨As, S, k⟩ => ⟨As, S, fun As1 H1 c1 S1 => k As1 H1 c1 S1⟩
theorem w_neverAnd : PW X (.BoolOp .And es pos) (fun _ _ _ => False) := ⟨fun _ _ _ _ _ _ _ q => q.elim⟩
theorem w_neverOr : PW X (.BoolOp .Or es pos) (fun _ _ _ => False) := ⟨fun _ _ _ _ _ _ _ q => q.elim⟩
theorem w_one {z : Bool} (h : PT X a (tT X.K T Γ M z M1)) : PW X (.BoolOp .And [a] pos) (tT X.K T Γ M z M1) := pw_and1 h
theorem w_oneO {z : Bool} (h : PT X a (tT X.K T Γ M z M1)) : PW X (.BoolOp .Or [a] pos) (tT X.K T Γ M z M1) := pw_or1 h
theorem wkW {t t' : TT} (h : PW X e t) (w : ∀ σ H Q, t' σ H Q → t σ H Q) : PW X e t' := ⟨fun whole pins s σ H Q I q => h.run whole pins s σ H Q I (w σ H Q q)⟩
theorem w_and {x y : Bool} (ha : PT X a (tT X.K T Γ M x M1)) (hb : x = true → PW X (.BoolOp .And (b :: rest) pos) (tT X.K T Γ M1 y M2)) (hM : x = false → M1 = M2) : PW X (.BoolOp .And (a :: b :: rest) pos) (tT X.K T Γ M (x && y) M2) := by
  cases x with
  | true => exact wkW (pw_and ha (hb rfl)) fun σ H Q ⟨As, S, k⟩ => ⟨As, S, fun As1 H1 c1 S1 => iteT ⟨As1, S1, fun As2 H2 c2 S2 => k As2 H2 (c1.trans c2) S2⟩⟩
  | false =>
    rw [hM rfl] at ha
    exact wkW (pw_and ha w_neverAnd) fun σ H Q ⟨As, S, k⟩ => ⟨As, S, fun As1 H1 c1 S1 => iteF (k As1 H1 c1 S1)⟩
theorem w_or {x y : Bool} (ha : PT X a (tT X.K T Γ M x M1)) (hb : x = false → PW X (.BoolOp .Or (b :: rest) pos) (tT X.K T Γ M1 y M2)) (hM : x = true → M1 = M2) : PW X (.BoolOp .Or (a :: b :: rest) pos) (tT X.K T Γ M (x || y) M2) := by
  cases x with
  | false => exact wkW (pw_or ha (hb rfl)) fun σ H Q ⟨As, S, k⟩ => ⟨As, S, fun As1 H1 c1 S1 => iteF ⟨As1, S1, fun As2 H2 c2 S2 => k As2 H2 (c1.trans c2) S2⟩⟩
  | true =>
    rw [hM rfl] at ha
    exact wkW (pw_or ha w_neverOr) fun σ H Q ⟨As, S, k⟩ => ⟨As, S, fun As1 H1 c1 S1 => iteT (k As1 H1 c1 S1)⟩
theorem t_w {z : Bool} (h : PW X e (tT X.K T Γ M z M1)) : PT X e (tT X.K T Γ M z M1) := h.pt
/-! arguments, displays -/
theorem a_nil : PA X [] (tA X.K T Γ M [] M) := wkA pa_nil fun σ H Q ⟨As, S, k⟩ => k As [] H Ch.refl S .nil
theorem a_cons {ds : List D} (ha : PE X e (tE X.K T Γ M d M1)) (hr : PA X es (tA X.K T Γ M1 ds M2)) (hs : starEach (e :: es) X.env = (false, eval e X.env) :: starEach es X.env := by rfl) : PA X (e :: es) (tA X.K T Γ M (d :: ds) M2) :=
  wkA (pa_cons ha hr hs) fun σ H Q ⟨As, S, k⟩ => ⟨As, S, fun As1 v H1 c1 S1 r1 => ⟨As1, S1, fun As2 vs H2 c2 S2 r2 => k As2 (v :: vs) H2 (c1.trans c2) S2 (.cons (r1.mono c2) r2)⟩⟩
theorem sz_of {n : Nat} (h : n ≤ 100000) : n ≤ sizeLine := Nat.le_trans h (by decide)
theorem e_tup {x1 : Nat} {ds : List D} (h : PA X es (tA X.K T Γ M ds M1)) (hl : ds.length ≤ 100000) : PE X (.Tuple es x1 pos) (tE X.K T Γ M (.tup ds) M1) := wkE (pe_tup h) fun σ H Q ⟨As, S, k⟩ => ⟨As, S, fun As1 vs H1 c1 S1 r1 =>
  ⟨sz_of (by rw [r1.length]; exact hl), fun p hp => k As1 _ _ (c1.trans (Ch.laid hp)) (S1.laid hp) (.tup (S1.fresh hp) upd_same (r1.mono (Ch.laid hp)))⟩⟩
theorem f_lst {ds : List D} (h : PA X es (tA X.K T Γ M ds M1)) (hl : ds.length ≤ 100000) : PE X (.List es pos) (tF X.K T Γ M ds M1) := wkE (pe_lst h) fun σ H Q ⟨As, S, k⟩ => ⟨As, S, fun As1 vs H1 c1 S1 r1 =>
  ⟨sz_of (by rw [r1.length]; exact hl), fun p hp => k As1 vs H1 p c1 S1 r1 hp⟩⟩
/-- a new list as a datum; as a cell -/
theorem e_dat {ds : List D} (h : PE X e (tF X.K T Γ M ds M1)) : PE X e (tE X.K T Γ M (.lst ds) M1) := wkE h fun σ H Q ⟨As, S, k⟩ => ⟨As, S, fun As1 vs H1 p c1 S1 r1 hp =>
  k As1 _ _ (c1.trans (Ch.laid hp)) (S1.laid hp) (.lst (S1.fresh hp) upd_same (r1.mono (Ch.laid hp)))⟩
theorem e_cel {ds : List D} (h : PE X e (tF X.K T Γ M ds M1)) : PE X e (tE X.K T Γ M (.cel M1.length) (M1 ++ [.lst ds])) := wkE h fun σ H Q ⟨As, S, k⟩ => ⟨As, S, fun As1 vs H1 p c1 S1 r1 hp =>
  k (As1 ++ [p]) _ _ (c1.trans (Ch.cell hp)) (S1.newCell hp (.lst upd_same (r1.mono (Ch.cell hp)))) (.cel (by rw [← S1.alen, List.getElem?_append_right (Nat.le_refl _), Nat.sub_self]; rfl))⟩
end
end Bs
namespace Bs
open PySem PySem.Spec PyProof.Rows L2 LamX
/-! ## data that name no cell from n on -/
mutual
def D.cl (n : Nat) : D → Bool
  | .tup ds => clL n ds
  | .lst ds => clL n ds
  | .dct ds => clK n ds
  | .obj _ ds => clF n ds
  | .exc _ ds => clF n ds
  | .cel k => decide (k < n)
  | _ => true
def clL (n : Nat) : List D → Bool
  | [] => true
  | d :: ds => d.cl n && clL n ds
def clK (n : Nat) : List (Key × D) → Bool
  | [] => true
  | (_, d) :: ds => d.cl n && clK n ds
def clF (n : Nat) : List (Str × D) → Bool
  | [] => true
  | (_, d) :: ds => d.cl n && clF n ds
end
def Ce.cl (n : Nat) : Ce → Bool
  | .lst ds => clL n ds
  | .dct ds => clK n ds
  | .obj _ ds => clF n ds
theorem clL_iff {n : Nat} : ∀ {ds : List D}, clL n ds = true ↔ ∀ d ∈ ds, d.cl n = true
  | [] => by simp [clL]
  | d :: ds => by simp [clL, clL_iff (ds := ds)]
theorem clL_ints {n : Nat} {ns : List Int} : clL n (ns.map D.int) = true := clL_iff.mpr fun d h => by
  obtain ⟨z, _, rfl⟩ := List.mem_map.mp h
  rfl
theorem clL_map {α : Type} {n : Nat} {f : α → D} {l : List α} (h : ∀ x, (f x).cl n = true) : clL n (l.map f) = true := clL_iff.mpr fun d hd => by
  obtain ⟨z, _, rfl⟩ := List.mem_map.mp hd
  exact h z
section
variable {K : PySem.W.Frag} {T : List (Addr × Str)} {As : List Addr} {M : List Ce} {H : Hp} {σ : L2.St} {Γ : List (Option D)} {n : Nat}
theorem notTake {a : Addr} (h : a ∉ As) : a ∉ As.take n := fun z => h (List.mem_of_mem_take z)
theorem b2 {a b : Bool} (h : (a && b) = true) : a = true ∧ b = true := Bool.and_eq_true_iff.mp h
mutual
theorem Rp.cut : ∀ {v : V} {d : D}, Rp K As H v d → d.cl n = true → Rp K (As.take n) H v d
  | _, _, .non, _ => .non
  | _, _, .bl, _ => .bl
  | _, _, .int, _ => .int
  | _, _, .str, _ => .str
  | _, _, .byt, _ => .byt
  | _, _, .ty, _ => .ty
  | _, _, .ref, _ => .ref
  | _, _, .tup a h r, c => .tup (notTake a) h (RpL.cut r c)
  | _, _, .tupW h r, c => .tupW h (RpL.cut r c)
  | _, _, .lst a h r, c => .lst (notTake a) h (RpL.cut r c)
  | _, _, .dct a h r, c => .dct (notTake a) h (RpK.cut r c)
  | _, _, .obj a h r, c => .obj (notTake a) h (RpF.cut r c)
  | _, _, .exc0 a h, _ => .exc0 (notTake a) h
  | _, _, .exc a b h h2 r, c => .exc (notTake a) (notTake b) h h2 (RpF.cut r c)
  | _, _, .cel (k := k) h, c => .cel (by rw [List.getElem?_take_of_lt (of_decide_eq_true c)]; exact h)
  | _, _, .scr a h, _ => .scr (notTake a) h
  | _, _, .scrW h, _ => .scrW h
theorem RpL.cut : ∀ {vs : List V} {ds : List D}, RpL K As H vs ds → clL n ds = true → RpL K (As.take n) H vs ds
  | _, _, .nil, _ => .nil
  | _, _, .cons r t, c => .cons (Rp.cut r (b2 c).1) (RpL.cut t (b2 c).2)
theorem RpK.cut : ∀ {vs : List (Key × V)} {ds : List (Key × D)}, RpK K As H vs ds → clK n ds = true → RpK K (As.take n) H vs ds
  | _, _, .nil, _ => .nil
  | _, _, .cons r t, c => .cons (Rp.cut r (b2 c).1) (RpK.cut t (b2 c).2)
theorem RpF.cut : ∀ {vs : List (Str × V)} {ds : List (Str × D)}, RpF K As H vs ds → clF n ds = true → RpF K (As.take n) H vs ds
  | _, _, .nil, _ => .nil
  | _, _, .cons r t, c => .cons (Rp.cut r (b2 c).1) (RpF.cut t (b2 c).2)
end
theorem CeOk.cut {a : Addr} {c : Ce} (h : CeOk K As H a c) (z : c.cl n = true) : CeOk K (As.take n) H a c := by
  cases h with
  | lst h r => exact .lst h (r.cut z)
  | dct h r => exact .dct h (r.cut z)
  | obj h r => exact .obj h (r.cut z)
mutual
theorem Rp.cl : ∀ {v : V} {d : D}, Rp K As H v d → d.cl As.length = true
  | _, _, .non => rfl
  | _, _, .bl => rfl
  | _, _, .int => rfl
  | _, _, .str => rfl
  | _, _, .byt => rfl
  | _, _, .ty => rfl
  | _, _, .ref => rfl
  | _, _, .tup _ _ r => RpL.cl r
  | _, _, .tupW _ r => RpL.cl r
  | _, _, .lst _ _ r => RpL.cl r
  | _, _, .dct _ _ r => RpK.cl r
  | _, _, .obj _ _ r => RpF.cl r
  | _, _, .exc0 _ _ => rfl
  | _, _, .exc _ _ _ _ r => RpF.cl r
  | _, _, .cel h => decide_eq_true (List.getElem?_eq_some_iff.mp h).1
  | _, _, .scr _ _ => rfl
  | _, _, .scrW _ => rfl
theorem RpL.cl : ∀ {vs : List V} {ds : List D}, RpL K As H vs ds → clL As.length ds = true
  | _, _, .nil => rfl
  | _, _, .cons r t => Bool.and_eq_true_iff.mpr ⟨Rp.cl r, RpL.cl t⟩
theorem RpK.cl : ∀ {vs : List (Key × V)} {ds : List (Key × D)}, RpK K As H vs ds → clK As.length ds = true
  | _, _, .nil => rfl
  | _, _, .cons r t => Bool.and_eq_true_iff.mpr ⟨Rp.cl r, RpK.cl t⟩
theorem RpF.cl : ∀ {vs : List (Str × V)} {ds : List (Str × D)}, RpF K As H vs ds → clF As.length ds = true
  | _, _, .nil => rfl
  | _, _, .cons r t => Bool.and_eq_true_iff.mpr ⟨Rp.cl r, RpF.cl t⟩
end
/-- no cell names one from |M| on -/
def ClM (M : List Ce) : Prop := ∀ c ∈ M, c.cl M.length = true
theorem Sta.closed (S : Sta K T As M H σ Γ) : ClM M := fun c hc => by
  obtain ⟨k, hk, e⟩ := List.mem_iff_getElem.mp hc
  obtain ⟨a, _, q⟩ := S.cell k c (by rw [List.getElem?_eq_getElem hk, e])
  rw [← S.alen]
  cases q with
  | lst _ r => exact r.cl
  | dct _ r => exact r.cl
  | obj _ r => exact r.cl
theorem ClM.set {k : Nat} {c : Ce} (h : ClM M) (hc : c.cl M.length = true) : ClM (M.set k c) := fun x hx => by
  rw [List.length_set]
  rcases List.mem_or_eq_of_mem_set hx with z | z
  · exact h x z
  · rw [z]
    exact hc
/-- the cells behind the n-th are forgotten -/
theorem Sta.cut {M' G : List Ce} (S : Sta K T As (M' ++ G) H σ Γ) (hM : ClM M') : Sta K T (As.take M'.length) M' H [] [] where
  tabs := S.tabs
  alen := by
    rw [List.length_take, S.alen, List.length_append]
    omega
  nd := S.nd.sublist (List.take_sublist _ _)
  cell := fun k c hc => by
    have hk := (List.getElem?_eq_some_iff.mp hc).1
    obtain ⟨a, ha, q⟩ := S.cell k c (by rw [List.getElem?_append_left hk]; exact hc)
    exact ⟨a, by rw [List.getElem?_take_of_lt hk]; exact ha, q.cut (hM c (List.mem_of_getElem? hc))⟩
  slen := rfl
  slot := fun i d h => by simp at h
theorem Ch.cut {As As' : List Addr} {H H' : Hp} {n : Nat} (c : Ch As H As' H') (h : As.length ≤ n) : Ch As H (As'.take n) H' where
  pre := by
    obtain ⟨B, rfl⟩ := c.pre
    exact ⟨B.take (n - As.length), by rw [List.take_append, List.take_of_length_le h]⟩
  keep := c.keep
  new := fun a z => c.new a (List.mem_of_mem_take z)
  tbs := c.tbs
end
/-! ## defs -/
inductive RO where
  | val (d : D) | exc (C : Addr) (fs : List (Str × D))
abbrev Con := List D → List Ce → RO → List Ce → Prop
def tRO (K : PySem.W.Frag) (As' : List Addr) (H' : Hp) (Q : VK) (E : XK) : RO → Prop
  | .val d => ∀ v, Rp K As' H' v d → Q v H'
  | .exc C fs => ∀ dd, XOk K As' H' dd fs → E (.ref C) dd H'
def spF (K : PySem.W.Frag) (T : List (Addr × Str)) (n : Nat) (C : Con) : Sp := fun vs H Q E => ∃ As M ds o M', ds.length = n ∧ Sta K T As M H [] [] ∧ RpL K As H vs ds ∧ C ds M o M' ∧ ∀ As' H', Ch As H As' H' → Sta K T As' M' H' [] [] → tRO K As' H' Q E o
/-- how a body's end is the def's -/
inductive Exit (M' : List Ce) : Out → RO → Prop where
  | dat {d G} : d.cl M'.length = true → Exit M' (.rt d (M' ++ G)) (.val d)
  | non {Γ G} : Exit M' (.nx Γ (M' ++ G)) (.val .non)
  | frz {k ds G} : (M' ++ G)[k]? = some (.lst ds) → M'.length ≤ k → clL M'.length ds = true → Exit M' (.rt (.cel k) (M' ++ G)) (.val (.lst ds))
  | frzD {k ds G} : (M' ++ G)[k]? = some (.dct ds) → M'.length ≤ k → clK M'.length ds = true → Exit M' (.rt (.cel k) (M' ++ G)) (.val (.dct ds))
  | exc {C fs Γ G} : clF M'.length fs = true → Exit M' (.ex C fs Γ (M' ++ G)) (.exc C fs)
theorem XOk.cut {K : PySem.W.Frag} {As : List Addr} {H : Hp} {n : Nat} {dd : Option Addr} {fs : List (Str × D)} (h : XOk K As H dd fs) (c : clF n fs = true) : XOk K (As.take n) H dd fs := by
  rcases h with h | ⟨d, fvs, e, n1, h1, r⟩
  · exact .inl h
  · exact .inr ⟨d, fvs, e, notTake n1, h1, r.cut c⟩
theorem notTakeAt {As : List Addr} {n k : Nat} {a : Addr} (nd : As.Nodup) (h : As[k]? = some a) (hn : n ≤ k) : a ∉ As.take n := fun z => by
  obtain ⟨j, hj, e⟩ := List.mem_iff_getElem.mp z
  have hj2 : j < n := by
    have := List.length_take (i := n) (l := As)
    omega
  have hj3 : As[j]? = some a := by
    rw [← List.getElem?_take_of_lt hj2, List.getElem?_eq_getElem hj, e]
  obtain ⟨h1, e1⟩ := List.getElem?_eq_some_iff.mp hj3
  obtain ⟨h2, e2⟩ := List.getElem?_eq_some_iff.mp h
  have := (List.getElem_inj nd).mp (e1.trans e2.symm)
  omega
theorem exit_ok {K : PySem.W.Frag} {T : List (Addr × Str)} {As : List Addr} {M M' : List Ce} {H : Hp} {σ : L2.St} {Γ : List (Option D)} {Q : VK} {E : XK} {o : Out} {ro : RO} (S : Sta K T As M H σ Γ) (x : Exit M' o ro) (hM : ClM M') (hl : M.length ≤ M'.length)
    (h : ∀ As' H', Ch As H As' H' → Sta K T As' M' H' [] [] → tRO K As' H' Q E ro) : tS K T (fun cls d _ H => E cls d H) Γ M o { nx := fun _ H' => Q .non H', rt := Q } σ H := by
  have hA : As.length ≤ M'.length := by rw [S.alen]; exact hl
  refine ⟨As, S, ?_⟩
  cases x with
  | dat c => exact fun As' H' v ch S' r => h _ H' (ch.cut hA) (S'.cut hM) v (r.cut c)
  | non => exact fun As' H' σ' ch S' => h _ H' (ch.cut hA) (S'.cut hM) .non .non
  | frz e hk c => exact fun As' H' v ch S' r => h _ H' (ch.cut hA) (S'.cut hM) v (by
      cases r with
      | cel ha =>
        obtain ⟨a, hb, q⟩ := S'.cell _ _ e
        rw [ha] at hb
        cases hb
        cases q with
        | lst h1 r1 => exact .lst (notTakeAt S'.nd ha hk) h1 (r1.cut c))
  | frzD e hk c => exact fun As' H' v ch S' r => h _ H' (ch.cut hA) (S'.cut hM) v (by
      cases r with
      | cel ha =>
        obtain ⟨a, hb, q⟩ := S'.cell _ _ e
        rw [ha] at hb
        cases hb
        cases q with
        | dct h1 r1 => exact .dct (notTakeAt S'.nd ha hk) h1 (r1.cut c))
  | exc c => exact fun As' H' σ' dd ch S' r => h _ H' (ch.cut hA) (S'.cut hM) dd (r.cut c)
theorem start_ok {K : PySem.W.Frag} {T : List (Addr × Str)} {As : List Addr} {M : List Ce} {H : Hp} {N : List Str} {vs : List V} {ds : List D} (S : Sta K T As M H [] []) (r : RpL K As H vs ds) :
    Sta K T As M H (L2.start N vs) (ds.map some ++ List.replicate (N.length - ds.length) none) := S.slots (by
    unfold L2.start
    rw [List.length_append, List.length_append, List.length_map, List.length_map, List.length_replicate, List.length_replicate, r.length]) fun i d h => by
  have hi : i < ds.length := by
    refine Decidable.byContradiction fun z => ?_
    rw [List.getElem?_append_right (by rw [List.length_map]; omega)] at h
    have := List.mem_of_getElem? h
    have := List.eq_of_mem_replicate this
    cases this
  rw [List.getElem?_append_left (by rw [List.length_map]; exact hi), List.getElem?_map] at h
  cases e : ds[i]? with
  | none =>
    rw [e] at h
    cases h
  | some d2 =>
    rw [e] at h
    cases h
    obtain ⟨v, hv, q⟩ := r.get e
    refine ⟨v, ?_, q⟩
    unfold L2.start
    rw [List.getElem?_append_left (by rw [List.length_map, r.length]; exact hi), List.getElem?_map, hv]
    rfl
abbrev cxB (P : Program) (w : World) (K : PySem.W.Frag) (mg : Str → Option Value) (base : Heap) (N : List Str) (qual : Str) (scope : Scope) (f : Addr) (cd : Value) (A : Around) (outer : List PySem.Env) (s : Shared) (H : Hp) (E : XK) : Cx := cxOf (L2.CX P w) P w K mg base N qual scope f cd A outer s H E
/-- what a def's body is to do: at every call that its contract speaks of, it comes to an end that is the contract's -/
def BodyOk (P : Program) (w : World) (K : PySem.W.Frag) (T : List (Addr × Str)) (mg : Str → Option Value) (base : Heap) (N : List Str) (qual : Str) (scope : Scope) (f : Addr) (k n : Nat) (body : List Stmt) (C : Con) : Prop :=
  ∀ (cdv : Value) (A : Around) (outer : List PySem.Env) (s : Shared) (H : Hp) (E : XK) (ds : List D) (M : List Ce) (o : RO) (M' : List Ce), Room k (A.deeper (envOfC qual scope s.heap.objs.size f cdv)) → ds.length = n → ClM M → clL M.length ds = true → C ds M o M' →
    M.length ≤ M'.length ∧ ClM M' ∧ ∃ u, Exit M' u o ∧ PSs (cxB P w K mg base N qual scope f cdv A outer s H E) body (tS K T (fun cls d _ H => E cls d H) (ds.map some ++ List.replicate (N.length - n) none) M u)
theorem fn_bs {P : Program} {w : World} {K : PySem.W.Frag} {T : List (Addr × Str)} {mg : Str → Option Value} {base : Heap} {x qual : Str} {params : Arguments} {body : List Stmt} {scope : Scope} {dvs : List V} {kws : List (Str × V)} {f : Addr} {fd : FuncData} {N ps : List Str} {k : Nat} {C : Con}
    (F : FunD K x qual params body scope dvs kws f fd) (S : FnScope N ps scope) (h : BodyOk P w K T mg base N qual scope f k ps.length body C) : FnOk P w K mg base (L2.CX P w) (k + 1) f fd ps (spF K T ps.length C) := by
  refine F.ok S (fun vs H Q E ⟨As, M, ds, o, M', hn, S0, r, _⟩ => by rw [r.length, hn]) fun cdv A outer s H vs Q E hr ⟨As, M, ds, o, M', hn, S0, r, hC, q⟩ => ?_
  obtain ⟨hl, hM, u, hx, hb⟩ := h cdv A outer s H E ds M o M' hr hn S0.closed (by rw [← S0.alen]; exact r.cl) hC
  refine ⟨_, hb, ?_⟩
  have S1 := start_ok (N := N) S0 r
  rw [hn] at S1
  exact exit_ok S1 hx hM hl q
/-! ## calls -/
section
variable {X : Cx} {T : List (Addr × Str)} {Γ : List (Option D)} {M M1 M2 M3 M' : List Ce} {a b c e : Expr} {es rest : List Expr} {d d1 d2 : D} {ds : List D} {p pos : Pos} {x : Str} {f : Addr} {fd : FuncData} {ps : List Str} {k n : Nat} {C : Con}
theorem e_call (F : FnOk X.prog X.w X.K X.mg X.base (L2.CX X.prog X.w) k f fd ps (spF X.K T n C)) (hr : Room k X.A) (hg : Gl X x) (hm : X.mg x = some (.ref f)) (hk : PySem.W.keepIn X.K (.ref f) = true) (hb : Binds X.K fd ps [])
    (ha : PA X (e :: es) (tA X.K T Γ M ds M1)) (hn : ds.length = n) (hC : C ds M1 (.val d) M2) (hdb : (x == ("__debug__" : Str)) = false := by decide) (he : starEach (e :: es) X.env = (false, eval e X.env) :: starEach es X.env := by rfl)
    (hpl : (backTo pos (starEach es X.env)).any (·.1) = false := by rfl) : PE X (.Call (.Name x p) (e :: es) [] pos) (tE X.K T Γ M d M2) :=
  wkE (pe_call F hr hg hm hk hb .nil passL ha hdb he hpl) fun σ H Q ⟨As, S, q⟩ => ⟨As, S, fun As1 vs H1 c1 S1 r1 => ⟨As1, M1, ds, .val d, M2, hn, S1.bare, by rw [List.append_nil]; exact r1, hC, fun As2 H2 c2 S2 v r2 =>
    q As2 v H2 (c1.trans c2) (S2.slots S1.slen fun i d hd => by
      obtain ⟨v, hv, r⟩ := S1.slot i d hd
      exact ⟨v, hv, r.mono c2⟩) r2⟩⟩
theorem e_call0 (F : FnOk X.prog X.w X.K X.mg X.base (L2.CX X.prog X.w) k f fd ps (spF X.K T 0 C)) (hr : Room k X.A) (hg : Gl X x) (hm : X.mg x = some (.ref f)) (hk : PySem.W.keepIn X.K (.ref f) = true) (hb : Binds X.K fd ps [])
    (hC : C [] M (.val d) M2) (hdb : (x == ("__debug__" : Str)) = false := by decide) : PE X (.Call (.Name x p) [] [] pos) (tE X.K T Γ M d M2) :=
  wkE (pe_call0 F hr hg hm hk hb .nil passL hdb) fun σ H Q ⟨As, S, q⟩ => ⟨As, M, [], .val d, M2, rfl, S.bare, .nil, hC, fun As2 H2 c2 S2 v r2 =>
    q As2 v H2 c2 (S2.slots S.slen fun i d hd => by
      obtain ⟨v, hv, r⟩ := S.slot i d hd
      exact ⟨v, hv, r.mono c2⟩) r2⟩
/-- .. that raises -/
theorem x_call {W : WX} {CE : Addr} {fs : List (Str × D)} (tk : Takes X W) (F : FnOk X.prog X.w X.K X.mg X.base (L2.CX X.prog X.w) k f fd ps (spF X.K T n C)) (hr : Room k X.A) (hg : Gl X x) (hm : X.mg x = some (.ref f)) (hk : PySem.W.keepIn X.K (.ref f) = true) (hb : Binds X.K fd ps [])
    (ha : PA X (e :: es) (tA X.K T Γ M ds M1)) (hn : ds.length = n) (hC : C ds M1 (.exc CE fs) M2) (hdb : (x == ("__debug__" : Str)) = false := by decide) (he : starEach (e :: es) X.env = (false, eval e X.env) :: starEach es X.env := by rfl)
    (hpl : (backTo pos (starEach es X.env)).any (·.1) = false := by rfl) : PE X (.Call (.Name x p) (e :: es) [] pos) (tX X.K T W Γ M CE fs M2) :=
  wkE (pe_callS (E := WE W) F hr hg hm hk hb (fun σ => passAt tk σ) ha hdb he hpl) fun σ H Q ⟨As, S, q⟩ => ⟨As, S, fun As1 vs H1 c1 S1 r1 => ⟨As1, M1, ds, .exc CE fs, M2, hn, S1.bare, r1, hC, fun As2 H2 c2 S2 dd xo =>
    q As2 H2 dd (c1.trans c2) (S2.slots S1.slen fun i d hd => by
      obtain ⟨v, hv, r⟩ := S1.slot i d hd
      exact ⟨v, hv, r.mono c2⟩) xo⟩⟩
/-- built-ins by values -/
def CaE (K : PySem.W.Frag) (T : List (Addr × Str)) (r : List V → Hp → VK → Prop) (ds : List D) (M : List Ce) (d : D) (M' : List Ce) : Prop := ∀ (As : List Addr) (σ : L2.St) (Γ : List (Option D)) (H : Hp) (vs : List V) (Q : VK), Sta K T As M H σ Γ → RpL K As H vs ds →
  (∀ As' v H', Ch As H As' H' → Sta K T As' M' H' σ Γ → Rp K As' H' v d → Q v H') → r vs H Q
/-- .. that give a new list -/
def CaF (K : PySem.W.Frag) (T : List (Addr × Str)) (r : List V → Hp → VK → Prop) (ds : List D) (M : List Ce) (es : List D) (M' : List Ce) : Prop := ∀ (As : List Addr) (σ : L2.St) (Γ : List (Option D)) (H : Hp) (vs : List V) (Q : VK), Sta K T As M H σ Γ → RpL K As H vs ds →
  (∀ As' ws H' p, Ch As H As' H' → Sta K T As' M' H' σ Γ → RpL K As' H' ws es → H' p = none → Q (.ref p) (upd H' p (.lst ws))) → r vs H Q
theorem tCB_of {K : PySem.W.Frag} {r : List V → Hp → VK → Prop} {σ : L2.St} {H : Hp} {Q : VK} (hr : CaE K T r ds M1 d M2) (h : tE K T Γ M d M2 σ H Q) : tCB r (tA K T Γ M ds M1) σ H Q := by
  obtain ⟨As, S, q⟩ := h
  exact ⟨As, S, fun As1 vs H1 c1 S1 r1 => hr As1 σ Γ H1 vs Q S1 r1 fun As2 v H2 c2 S2 r2 => q As2 v H2 (c1.trans c2) S2 r2⟩
theorem tCB_ofF {K : PySem.W.Frag} {r : List V → Hp → VK → Prop} {σ : L2.St} {H : Hp} {Q : VK} {ws : List D} (hr : CaF K T r ds M1 ws M2) (h : tF K T Γ M ws M2 σ H Q) : tCB r (tA K T Γ M ds M1) σ H Q := by
  obtain ⟨As, S, q⟩ := h
  exact ⟨As, S, fun As1 vs H1 c1 S1 r1 => hr As1 σ Γ H1 vs Q S1 r1 fun As2 v H2 p c2 S2 r2 hp => q As2 v H2 p (c1.trans c2) S2 r2 hp⟩
theorem e_callB {id : String} {r : List V → Hp → VK → Prop} (hc : CallR X (.builtin id) r) (hg : Gl X x) (hm : X.mg x = none) (hv : bootBuiltins x = some (.builtin id)) (ha : PA X (e :: es) (tA X.K T Γ M ds M1)) (hr : CaE X.K T r ds M1 d M2) (hn : x ≠ "__name__" := by decide) (hdb : (x == ("__debug__" : Str)) = false := by decide)
    (he : starEach (e :: es) X.env = (false, eval e X.env) :: starEach es X.env := by rfl) (hpl : (backTo pos (starEach es X.env)).any (·.1) = false := by rfl) : PE X (.Call (.Name x p) (e :: es) [] pos) (tE X.K T Γ M d M2) :=
  wkE (pe_callB hc hg hm hv ha hn hdb he hpl) fun _ _ _ h => tCB_of hr h
theorem f_callB {id : String} {ws : List D} {r : List V → Hp → VK → Prop} (hc : CallR X (.builtin id) r) (hg : Gl X x) (hm : X.mg x = none) (hv : bootBuiltins x = some (.builtin id)) (ha : PA X (e :: es) (tA X.K T Γ M ds M1)) (hr : CaF X.K T r ds M1 ws M2) (hn : x ≠ "__name__" := by decide) (hdb : (x == ("__debug__" : Str)) = false := by decide)
    (he : starEach (e :: es) X.env = (false, eval e X.env) :: starEach es X.env := by rfl) (hpl : (backTo pos (starEach es X.env)).any (·.1) = false := by rfl) : PE X (.Call (.Name x p) (e :: es) [] pos) (tF X.K T Γ M ws M2) :=
  wkE (pe_callB hc hg hm hv ha hn hdb he hpl) fun _ _ _ h => tCB_ofF hr h
theorem e_callTy {t : String} {r : List V → Hp → VK → Prop} (hc : CallR X (.type t) r) (hg : Gl X x) (hm : X.mg x = none) (hv : bootBuiltins x = some (.type t)) (ha : PA X (e :: es) (tA X.K T Γ M ds M1)) (hr : CaE X.K T r ds M1 d M2) (hn : x ≠ "__name__" := by decide) (hdb : (x == ("__debug__" : Str)) = false := by decide)
    (he : starEach (e :: es) X.env = (false, eval e X.env) :: starEach es X.env := by rfl) (hpl : (backTo pos (starEach es X.env)).any (·.1) = false := by rfl) : PE X (.Call (.Name x p) (e :: es) [] pos) (tE X.K T Γ M d M2) :=
  wkE (pe_callTy hc hg hm hv ha hn hdb he hpl) fun _ _ _ h => tCB_of hr h
theorem f_callTy {t : String} {ws : List D} {r : List V → Hp → VK → Prop} (hc : CallR X (.type t) r) (hg : Gl X x) (hm : X.mg x = none) (hv : bootBuiltins x = some (.type t)) (ha : PA X (e :: es) (tA X.K T Γ M ds M1)) (hr : CaF X.K T r ds M1 ws M2) (hn : x ≠ "__name__" := by decide) (hdb : (x == ("__debug__" : Str)) = false := by decide)
    (he : starEach (e :: es) X.env = (false, eval e X.env) :: starEach es X.env := by rfl) (hpl : (backTo pos (starEach es X.env)).any (·.1) = false := by rfl) : PE X (.Call (.Name x p) (e :: es) [] pos) (tF X.K T Γ M ws M2) :=
  wkE (pe_callTy hc hg hm hv ha hn hdb he hpl) fun _ _ _ h => tCB_ofF hr h
end
/-! ## targets, statements -/
section
variable (K : PySem.W.Frag) (T : List (Addr × Str))
structure tGS (Γ : List (Option D)) (M : List Ce) (d : D) (Γ' : List (Option D)) (M' : List Ce) (v : V) (σ : L2.St) (H : Hp) (Q : L2.St → Hp → Prop) : Prop where
  ex : ∃ As, Sta K T As M H σ Γ ∧ Rp K As H v d ∧ ∀ As' H' σ', Ch As H As' H' → Sta K T As' M' H' σ' Γ' → Q σ' H'
def tG (Γ : List (Option D)) (M : List Ce) (d : D) (Γ' : List (Option D)) (M' : List Ce) : TG := tGS K T Γ M d Γ' M'
structure tGsS (Γ : List (Option D)) (M : List Ce) (ds : List D) (Γ' : List (Option D)) (M' : List Ce) (vs : List V) (σ : L2.St) (H : Hp) (Q : L2.St → Hp → Prop) : Prop where
  ex : ∃ As, Sta K T As M H σ Γ ∧ RpL K As H vs ds ∧ ∀ As' H' σ', Ch As H As' H' → Sta K T As' M' H' σ' Γ' → Q σ' H'
def tGs (Γ : List (Option D)) (M : List Ce) (ds : List D) (Γ' : List (Option D)) (M' : List Ce) : TGs := tGsS K T Γ M ds Γ' M'
end
section
variable {X : Cx} {T : List (Addr × Str)} {Γ Γ1 Γ2 Γ' : List (Option D)} {M M1 M2 M3 M' : List Ce} {a b c e tg : Expr} {es tgs : List Expr} {d d1 d2 : D} {ds : List D} {p pos : Pos} {x : Str} {W : WX} {st : Stmt} {sts rest : List Stmt} {o : Out}
theorem wkG {t t' : TG} (h : PG X tg t) (w : ∀ v σ H Q, t' v σ H Q → t v σ H Q) : PG X tg t' := ⟨fun pins s σ H v u Q I r q => h.run pins s σ H v u Q I r (w v σ H Q q)⟩
theorem wkGs {t t' : TGs} (h : PGs X tgs t) (w : ∀ v σ H Q, t' v σ H Q → t v σ H Q) : PGs X tgs t' := ⟨fun pins s σ H v u Q I r q => h.run pins s σ H v u Q I r (w v σ H Q q)⟩
theorem anyG {ι : Type} {t : ι → TG} (h : ∀ i, PG X tg (t i)) : PG X tg (fun v σ H Q => ∃ i, t i v σ H Q) := ⟨fun pins s σ H v u Q I r ⟨i, q⟩ => (h i).run pins s σ H v u Q I r q⟩
theorem g_name {i : Nat} (hi' : i < Γ.length) (hN : X.N.Nodup) (hi : X.N[i]? = some x) (hx : Loc X.env.scope x) (hf : X.fn x = true ∨ X.env.scope.names.lookup x = some .local := by first | exact .inl rfl | exact .inr rfl | assumption) : PG X (.Name x pos) (tG X.K T Γ M d (Γ.set i (some d)) M) :=
  wkG (pg_name hN hi hx hf) fun v σ H Q ⟨As, S, r, q⟩ => q As H _ Ch.refl (S.store hi' r)
theorem gs_nil : PGs X [] (tGs X.K T Γ M [] Γ M) := wkGs pgs_nil fun v σ H Q ⟨As, S, r, q⟩ => by
  cases r
  exact ⟨rfl, q As H σ Ch.refl S⟩
theorem gs_cons (h1 : PG X tg (tG X.K T Γ M d Γ1 M1)) (h2 : PGs X tgs (tGs X.K T Γ1 M1 ds Γ2 M2)) (hs : (assignEach (tg :: tgs) X.env).map (·.2) = assign tg X.env :: (assignEach tgs X.env).map (·.2) := by rfl) : PGs X (tg :: tgs) (tGs X.K T Γ M (d :: ds) Γ2 M2) :=
  wkGs (pgs_cons h1 h2 hs) fun v σ H Q ⟨As, S, r, q⟩ => by
    cases r with
    | cons r1 r2 => exact ⟨_, _, rfl, As, S, r1, fun As1 H1 σ1 c1 S1 => ⟨As1, S1, r2.mono c1, fun As2 H2 σ2 c2 S2 => q As2 H2 σ2 (c1.trans c2) S2⟩⟩
theorem g_tup {k n : Nat} (hc : X.calm = true) (h : PGs X tgs (tGs X.K T Γ M ds Γ' M')) (hl : ds.length = n) (hn : (assignEach tgs X.env).length = n := by rfl) (hst : (assignEach tgs X.env).findIdx? (·.1) = none := by rfl) : PG X (.Tuple tgs k pos) (tG X.K T Γ M (.tup ds) Γ' M') :=
  wkG (pg_tup hc h hn hst) fun v σ H Q ⟨As, S, r, q⟩ => by
    obtain ⟨a, vs, rfl, ha, rl⟩ := r.tupAt
    exact ⟨a, vs, rfl, ha, by rw [rl.length, hl], As, S, rl, q⟩
theorem g_subL {i : Expr} {z : Int} {j k : Nat} {xs : List D} (ho : PE X a (tE X.K T Γ M (.cel k) M1)) (hi : PE X i (tE X.K T Γ M1 (.int z) M2)) (hk : M2[k]? = some (.lst xs)) (hj : ixN xs.length z = some j)
    (h1 : PG X (.Subscript a i pos) (gSub (tE X.K T Γ M (.cel k) M1) (tE X.K T Γ M1 (.int z) M2) rSetL) := by exact pg_sub (by assumption) (by assumption) set_list) : PG X (.Subscript a i pos) (tG X.K T Γ M d Γ (M2.set k (.lst (xs.set j d)))) :=
  wkG h1 fun v σ H Q ⟨As, S, r, q⟩ => ⟨As, S, fun As1 v1 H1 c1 S1 r1 => ⟨As1, S1, fun As2 v2 H2 c2 S2 r2 => by
    cases r1 with
    | cel ha =>
      cases r2
      have ha2 := c2.get ha
      obtain ⟨b, hb, ce⟩ := S2.cell k _ hk
      rw [ha2] at hb
      cases hb
      cases ce with
      | lst h3 r3 =>
        have hm := List.mem_of_getElem? ha2
        have cw : ∀ o, Ch As2 H2 As2 (upd H2 _ o) := fun o => Ch.write hm h3 (fun _ z => nomatch z)
        refine ⟨_, _, z, j, rfl, rfl, h3, by rw [r3.length]; exact hj, q As2 _ σ ((c1.trans c2).trans (cw _)) (S2.write ha2 hk (.lst upd_same ?_))⟩
        exact (r3.mono (cw _)).set ((r.mono (c1.trans c2)).mono (cw _)) j⟩⟩
theorem s_asg (he : PE X e (tE X.K T Γ M d M1)) (hg : PG X tg (tG X.K T Γ M1 d Γ' M')) (hs : swapsWithSole [tg] e pos.line X.env = pure false := by rfl) (hw : swappedStores [tg] e X.env = pure none := by rfl)
    (h1 : (assignEach [tg] X.env).map (·.2) = [assign tg X.env] := by rfl) : PS X (.Assign [tg] e pos) (tS X.K T W Γ M (.nx Γ' M')) :=
  wkS (ps_asg he hg hs hw h1) fun D σ H ⟨As, S, q⟩ => ⟨As, S, fun As1 v H1 c1 S1 r1 => ⟨As1, S1, r1, fun As2 H2 σ2 c2 S2 => q As2 H2 σ2 (c1.trans c2) S2⟩⟩
/-- x, y = a, b -/
theorem s_par {i j : Nat} {y : Str} {px py pt : Pos} {kt k2 pt2} (hc : X.calm = true) (hN : X.N.Nodup) (hi : X.N[i]? = some x) (hj : X.N[j]? = some y) (hij : i ≠ j) (hx : X.env.scope.names.lookup x = some .local) (hy : X.env.scope.names.lookup y = some .local)
    (li : i < Γ.length) (lj : j < Γ.length) (ha : PA X [a, b] (tA X.K T Γ M [d1, d2] M')) (hw : swappedStores [.Tuple [.Name x px, .Name y py] kt pt] (.Tuple [a, b] k2 pt2) X.env = pure (some [x, y]))
    (hs : swapsWithSole [.Tuple [.Name x px, .Name y py] kt pt] (.Tuple [a, b] k2 pt2) pos.line X.env = pure false := by rfl) :
    PS X (.Assign [.Tuple [.Name x px, .Name y py] kt pt] (.Tuple [a, b] k2 pt2) pos) (tS X.K T W Γ M (.nx ((Γ.set i (some d1)).set j (some d2)) M')) :=
  wkS (ps_par hc hN hi hj hij hx hy ha hw hs) fun D σ H ⟨As, S, q⟩ => ⟨As, S, fun As1 vs H1 c1 S1 r1 => by
    cases r1 with
    | cons r1 r2 =>
      cases r2 with
      | cons r2 r3 =>
        cases r3
        exact ⟨_, _, rfl, q As1 H1 _ c1 ((S1.store li r1).store (by rw [List.length_set]; exact lj) r2)⟩⟩
theorem s_par3 {i j l : Nat} {y z : Str} {d3 : D} {px py pz pt : Pos} {kt k2 pt2} (hc : X.calm = true) (hN : X.N.Nodup) (hi : X.N[i]? = some x) (hj : X.N[j]? = some y) (hl : X.N[l]? = some z) (hij : i ≠ j) (hil : i ≠ l) (hjl : j ≠ l) (hx : X.env.scope.names.lookup x = some .local) (hy : X.env.scope.names.lookup y = some .local) (hz : X.env.scope.names.lookup z = some .local)
    (li : i < Γ.length) (lj : j < Γ.length) (ll : l < Γ.length) (ha : PA X [a, b, c] (tA X.K T Γ M [d1, d2, d3] M')) (hw : swappedStores [.Tuple [.Name x px, .Name y py, .Name z pz] kt pt] (.Tuple [a, b, c] k2 pt2) X.env = pure (some [x, y, z]))
    (hs : swapsWithSole [.Tuple [.Name x px, .Name y py, .Name z pz] kt pt] (.Tuple [a, b, c] k2 pt2) pos.line X.env = pure false := by rfl) :
    PS X (.Assign [.Tuple [.Name x px, .Name y py, .Name z pz] kt pt] (.Tuple [a, b, c] k2 pt2) pos) (tS X.K T W Γ M (.nx (((Γ.set i (some d1)).set j (some d2)).set l (some d3)) M')) :=
  wkS (ps_par3 hc hN hi hj hl hij hil hjl hx hy hz ha hw hs) fun D σ H ⟨As, S, q⟩ => ⟨As, S, fun As1 vs H1 c1 S1 r1 => by
    cases r1 with
    | cons r1 r2 =>
      cases r2 with
      | cons r2 r3 =>
        cases r3 with
        | cons r3 r4 =>
          cases r4
          exact ⟨_, _, _, rfl, q As1 H1 _ c1 (((S1.store li r1).store (by rw [List.length_set]; exact lj) r2).store (by rw [List.length_set, List.length_set]; exact ll) r3)⟩⟩
theorem s_expr (he : PE X e (tE X.K T Γ M d M')) (hs : swapsWith e none pos.line X.env = pure false := by rfl) : PS X (.Expr e pos) (tS X.K T W Γ M (.nx Γ M')) :=
  wkS (ps_expr he hs) fun D σ H ⟨As, S, q⟩ => ⟨As, S, fun As1 v H1 c1 S1 _ => q As1 H1 σ c1 S1⟩
theorem s_exprX {C : Addr} {fs : List (Str × Bs.D)} (he : PE X e (tX X.K T W Γ M C fs M')) (hs : swapsWith e none pos.line X.env = pure false := by rfl) : PS X (.Expr e pos) (tS X.K T W Γ M (.ex C fs Γ M')) :=
  wkS (ps_expr he hs) fun D σ H ⟨As, S, q⟩ => ⟨As, S, fun As1 H1 dd c1 S1 x => q As1 H1 σ dd c1 S1 x⟩
theorem s_ret (he : PE X e (tE X.K T Γ M d M')) : PS X (.Return (some e) pos) (tS X.K T W Γ M (.rt d M')) :=
  wkS (ps_ret he) fun D σ H ⟨As, S, q⟩ => ⟨As, S, fun As1 v H1 c1 S1 r => q As1 H1 v c1 S1.bare r⟩
theorem s_retX {C : Addr} {fs : List (Str × Bs.D)} (he : PE X e (tX X.K T W Γ M C fs M')) : PS X (.Return (some e) pos) (tS X.K T W Γ M (.ex C fs Γ M')) :=
  wkS (ps_ret he) fun D σ H ⟨As, S, q⟩ => ⟨As, S, fun As1 H1 dd c1 S1 x => q As1 H1 σ dd c1 S1 x⟩
theorem s_asgX {C : Addr} {fs : List (Str × Bs.D)} (he : PE X e (tX X.K T W Γ M C fs M')) (hg : PG X tg (fun _ _ _ _ => False) := by exact ⟨fun _ _ _ _ _ _ _ _ _ q => q.elim⟩) (hs : swapsWithSole [tg] e pos.line X.env = pure false := by rfl) (hw : swappedStores [tg] e X.env = pure none := by rfl)
    (h1 : (assignEach [tg] X.env).map (·.2) = [assign tg X.env] := by rfl) : PS X (.Assign [tg] e pos) (tS X.K T W Γ M (.ex C fs Γ M')) :=
  wkS (ps_asg he hg hs hw h1) fun D σ H ⟨As, S, q⟩ => ⟨As, S, fun As1 H1 dd c1 S1 x => q As1 H1 σ dd c1 S1 x⟩
theorem s_retN : PS X (.Return none pos) (tS X.K T W Γ M (.rt .non M)) :=
  wkS ps_retN fun D σ H ⟨As, S, q⟩ => q As H .non Ch.refl S.bare .non
theorem s_pass : PS X (.Pass pos) (tS X.K T W Γ M (.nx Γ M)) := wkS ps_pass fun D σ H ⟨As, S, q⟩ => q As H σ Ch.refl S
theorem s_break : PS X (.Break pos) (tS X.K T W Γ M (.bk Γ M)) := wkS ps_break fun D σ H ⟨As, S, q⟩ => q As H σ Ch.refl S
theorem s_cont : PS X (.Continue pos) (tS X.K T W Γ M (.ct Γ M)) := wkS ps_continue fun D σ H ⟨As, S, q⟩ => q As H σ Ch.refl S
theorem tO_mono {K : PySem.W.Frag} {As As1 : List Addr} {H H1 : Hp} {Dn : Ends} (c1 : Ch As H As1 H1) (h : tO K T W As H Dn o) : tO K T W As1 H1 Dn o := by
  cases o with
  | nx Γ M => exact fun As' H' σ' c S => h As' H' σ' (c1.trans c) S
  | rt d M => exact fun As' H' v c S r => h As' H' v (c1.trans c) S r
  | bk Γ M => exact fun As' H' σ' c S => h As' H' σ' (c1.trans c) S
  | ct Γ M => exact fun As' H' σ' c S => h As' H' σ' (c1.trans c) S
  | ex C fs Γ M => exact fun As' H' σ' dd c S r => h As' H' σ' dd (c1.trans c) S r
theorem s_if {z : Bool} {body orelse : List Stmt} (hc : PT X c (tT X.K T Γ M z M1)) (ha : z = true → PSs X body (tS X.K T W Γ M1 o)) (hb : z = false → PSs X orelse (tS X.K T W Γ M1 o)) : PS X (.If c body orelse pos) (tS X.K T W Γ M o) := by
  cases z with
  | true => exact wkS (ps_if hc (ha rfl) pss_never) fun D σ H ⟨As, S, q⟩ => ⟨As, S, fun As1 H1 c1 S1 => iteT ⟨As1, S1, tO_mono c1 q⟩⟩
  | false => exact wkS (ps_if hc pss_never (hb rfl)) fun D σ H ⟨As, S, q⟩ => ⟨As, S, fun As1 H1 c1 S1 => iteF ⟨As1, S1, tO_mono c1 q⟩⟩
/-- a test that raises -/
theorem b_nil : PSs X [] (tS X.K T W Γ M (.nx Γ M)) := wkSs pss_nil fun D σ H ⟨As, S, q⟩ => q As H σ Ch.refl S
theorem b_cons (h1 : PS X st (tS X.K T W Γ M (.nx Γ1 M1))) (h2 : PSs X sts (tS X.K T W Γ1 M1 o)) : PSs X (st :: sts) (tS X.K T W Γ M o) :=
  wkSs (pss_cons h1 h2) fun D σ H ⟨As, S, q⟩ => ⟨As, S, fun As1 H1 σ1 c1 S1 => ⟨As1, S1, tO_mono c1 q⟩⟩
theorem b_one (h1 : PS X st (tS X.K T W Γ M o)) : PSs X [st] (tS X.K T W Γ M o) := pss_one h1
def Out.ends : Out → Prop
  | .nx _ _ => False
  | _ => True
/-- the statement ends the block -/
theorem b_end (h1 : PS X st (tS X.K T W Γ M o)) (ho : o.ends) : PSs X (st :: sts) (tS X.K T W Γ M o) :=
  wkSs (pss_cons h1 pss_never) fun D σ H ⟨As, S, q⟩ => ⟨As, S, by
    cases o with
    | nx Γ M => exact ho.elim
    | rt d M => exact q
    | bk Γ M => exact q
    | ct Γ M => exact q
    | ex C fs Γ M => exact q⟩
end
/-! loops -/
/-- where a turn's end leads to: o1 the turn's, o the loop's -/
inductive LoopOut : Out → Out → Prop where
  | rt {d M} : LoopOut (.rt d M) (.rt d M)
  | bk {Γ M} : LoopOut (.bk Γ M) (.nx Γ M)
  | ex {C fs Γ M} : LoopOut (.ex C fs Γ M) (.ex C fs Γ M)
inductive TurnOut (Γ : List (Option D)) (M : List Ce) : Out → Prop where
  | nx : TurnOut Γ M (.nx Γ M)
  | ct : TurnOut Γ M (.ct Γ M)
/-- the heap as it was, or one new object -/
def Stp (H H' : Hp) : Prop := H' = H ∨ ∃ p o, H p = none ∧ H' = upd H p o
/-- the cell that is walked, if it is one, still holds the items -/
def CF (K : PySem.W.Frag) (kc : Option Nat) (ds : List D) (As : List Addr) (H : Hp) : Prop := ∀ k, kc = some k → ∃ a vs, As[k]? = some a ∧ H a = some (.lst vs) ∧ RpL K As H vs ds
structure Walks (K : PySem.W.Frag) (J : It) (As0 : List Addr) (H0 : Hp) (kc : Option Nat) (ds : List D) : Prop where
  go : ∀ As H (i : Nat) d, Ch As0 H0 As H → CF K kc ds As H → ds[i]? = some d → J.go i H
  yld : ∀ As H (i : Nat) d x H', Ch As0 H0 As H → CF K kc ds As H → (∀ p, H p = none → p ∉ As) → ds[i]? = some d → J.yld i H x H' → Stp H H' ∧ Rp K As H' x d
  stop : ∀ As H, Ch As0 H0 As H → CF K kc ds As H → J.stop ds.length H
structure tIS (K : PySem.W.Frag) (T : List (Addr × Str)) (Γ : List (Option D)) (M : List Ce) (kc : Option Nat) (ds : List D) (M' : List Ce) (σ : L2.St) (H : Hp) (R : It → Hp → Prop) : Prop where
  ex : ∃ As, Sta K T As M H σ Γ ∧ ∀ As' J H', Ch As H As' H' → Sta K T As' M' H' σ Γ → Walks K J As' H' kc ds → R J H'
def tIc (K : PySem.W.Frag) (T : List (Addr × Str)) (Γ : List (Option D)) (M : List Ce) (kc : Option Nat) (ds : List D) (M' : List Ce) : TI := tIS K T Γ M kc ds M'
abbrev tI (K : PySem.W.Frag) (T : List (Addr × Str)) (Γ : List (Option D)) (M : List Ce) (ds : List D) (M' : List Ce) : TI := tIc K T Γ M none ds M'
theorem Sta.cf {K : PySem.W.Frag} {T : List (Addr × Str)} {As : List Addr} {M : List Ce} {H : Hp} {σ : L2.St} {Γ : List (Option D)} {kc : Option Nat} {ds : List D} (S : Sta K T As M H σ Γ) (h : ∀ k, kc = some k → M[k]? = some (.lst ds)) : CF K kc ds As H := fun k hk => by
  obtain ⟨a, ha, c⟩ := S.cell k _ (h k hk)
  cases c with
  | lst h1 h2 => exact ⟨a, _, ha, h1, h2⟩
theorem Stp.ch {H H' : Hp} {As : List Addr} (h : Stp H H') : Ch As H As H' := by
  rcases h with rfl | ⟨p, o, hp, rfl⟩
  · exact Ch.refl
  · exact Ch.laid hp
theorem Stp.sta {K : PySem.W.Frag} {T : List (Addr × Str)} {H H' : Hp} {As : List Addr} {M : List Ce} {σ : L2.St} {Γ : List (Option D)} (h : Stp H H') (S : Sta K T As M H σ Γ) : Sta K T As M H' σ Γ := by
  rcases h with rfl | ⟨p, o, hp, rfl⟩
  · exact S
  · exact S.laid hp
section
variable {X : Cx} {T : List (Addr × Str)} {Γ Γ1 Γ2 Γ' : List (Option D)} {M M1 M2 M3 M' : List Ce} {a b c e tg : Expr} {es tgs : List Expr} {d d1 d2 : D} {ds : List D} {p pos : Pos} {x : Str} {W : WX} {st : Stmt} {sts rest : List Stmt} {o : Out}
theorem turn_tO {K : PySem.W.Frag} {As : List Addr} {H : Hp} {Dn : Ends} (t : TurnOut Γ M o) (h : ∀ As' H' σ', Ch As H As' H' → Sta K T As' M H' σ' Γ → Dn.nx σ' H') (h2 : Dn.ct = Dn.nx) : tO K T W As H Dn o := by
  cases t with
  | nx => exact h
  | ct =>
    intro As' H' σ' c S
    rw [h2]
    exact h As' H' σ' c S
theorem loop_tO {K : PySem.W.Frag} {As : List Addr} {H : Hp} {Dn Dn' : Ends} {o1 : Out} (l : LoopOut o1 o) (h : tO K T W As H Dn o) (h1 : Dn'.rt = Dn.rt) (h2 : Dn'.bk = Dn.nx) : tO K T W As H Dn' o1 := by
  cases l with
  | rt =>
    intro As' H' v c S r
    rw [h1]
    exact h As' H' v c S r
  | bk =>
    intro As' H' σ' c S
    rw [h2]
    exact h As' H' σ' c S
  | ex => exact h
theorem wkI {iter : Expr} {t t' : TI} (h : PI X tg iter t) (w : ∀ σ H R, t' σ H R → t σ H R) : PI X tg iter t' := ⟨fun pins s σ H R I q => h.run pins s σ H R I (w σ H R q)⟩
theorem i_list {l : Expr} (h : PE X l (tE X.K T Γ M (.lst ds) M1)) : PI X tg l (tI X.K T Γ M ds M1) := wkI (pi_list h) fun σ H R ⟨As, S, q⟩ => ⟨As, S, fun As1 v H1 c1 S1 r1 => by
  cases r1 with
  | lst na ha rl =>
    rename_i a vs
    have hl : ∀ {As2 H2}, Ch As1 H1 As2 H2 → H2 a = some (.lst vs) := fun cc => cc.keep a _ ha na (fun _ z => nomatch z)
    refine ⟨a, rfl, ⟨vs, SqL.of ha⟩, q As1 _ H1 c1 S1 ⟨fun As2 H2 i d cc _ hd => ?_, fun As2 H2 i d x H3 cc _ hf hd hy => ?_, fun As2 H2 cc _ => ⟨vs, SqL.of (hl cc), by rw [rl.length]; exact Nat.le_refl _⟩⟩⟩
    · obtain ⟨v, hv, _⟩ := rl.get hd
      exact ⟨vs, v, SqL.of (hl cc), hv⟩
    · obtain ⟨rfl, hx⟩ := hy
      obtain ⟨v, hv, rv⟩ := rl.get hd
      have e := hx vs (SqL.of (hl cc))
      rw [hv] at e
      cases e
      exact ⟨.inl rfl, rv.mono cc⟩⟩
theorem i_cel {l : Expr} {kk : Nat} (h : PE X l (tE X.K T Γ M (.cel kk) M1)) (hk : M1[kk]? = some (.lst ds)) : PI X tg l (tIc X.K T Γ M (some kk) ds M1) := wkI (pi_list h) fun σ H R ⟨As, S, q⟩ => ⟨As, S, fun As1 v H1 c1 S1 r1 => by
  cases r1 with
  | cel ha =>
    rename_i a
    obtain ⟨b, vs, hb, h1, _⟩ := S1.cf (kc := some kk) (fun k e => by cases e; exact hk) kk rfl
    rw [ha] at hb
    cases hb
    have look : ∀ {As2 H2}, Ch As1 H1 As2 H2 → CF X.K (some kk) ds As2 H2 → ∃ vs, H2 a = some (.lst vs) ∧ RpL X.K As2 H2 vs ds := fun {As2 H2} cc cf => by
      obtain ⟨b, vs, hb, h1, h2⟩ := cf kk rfl
      obtain ⟨t, e⟩ := cc.pre
      have : As2[kk]? = some a := by rw [e, List.getElem?_append_left (List.getElem?_eq_some_iff.mp ha).1]; exact ha
      rw [this] at hb
      cases hb
      exact ⟨vs, h1, h2⟩
    refine ⟨a, rfl, ⟨vs, SqL.of h1⟩, q As1 _ H1 c1 S1 ⟨fun As2 H2 i d cc cf hd => ?_, fun As2 H2 i d x H3 cc cf hf hd hy => ?_, fun As2 H2 cc cf => ?_⟩⟩
    · obtain ⟨vs, h1, rl⟩ := look cc cf
      obtain ⟨v, hv, _⟩ := rl.get hd
      exact ⟨vs, v, SqL.of h1, hv⟩
    · obtain ⟨vs, h1, rl⟩ := look cc cf
      obtain ⟨rfl, hx⟩ := hy
      obtain ⟨v, hv, rv⟩ := rl.get hd
      have e := hx vs (SqL.of h1)
      rw [hv] at e
      cases e
      exact ⟨.inl rfl, rv⟩
    · obtain ⟨vs, h1, rl⟩ := look cc cf
      exact ⟨vs, SqL.of h1, by rw [rl.length]; exact Nat.le_refl _⟩⟩
theorem i_tup {l : Expr} (h : PE X l (tE X.K T Γ M (.tup ds) M1)) : PI X tg l (tI X.K T Γ M ds M1) := wkI (pi_tup h) fun σ H R ⟨As, S, q⟩ => ⟨As, S, fun As1 v H1 c1 S1 r1 => by
  obtain ⟨a, vs, rfl, hs, hl, rl⟩ : ∃ a vs, v = .ref a ∧ SqT X.K H1 a vs ∧ (∀ {As2 H2}, Ch As1 H1 As2 H2 → SqT X.K H2 a vs) ∧ RpL X.K As1 H1 vs ds := by
    cases r1 with
    | tup na ha rl => exact ⟨_, _, rfl, SqT.of ha, fun cc => SqT.of (cc.keep _ _ ha na (fun _ z => nomatch z)), rl⟩
    | tupW h rl => exact ⟨_, _, rfl, h H1, fun _ => h _, rl⟩
  refine ⟨a, rfl, ⟨vs, hs⟩, q As1 _ H1 c1 S1 ⟨fun As2 H2 i d cc _ hd => ?_, fun As2 H2 i d x H3 cc _ hf hd hy => ?_, fun As2 H2 cc _ => ⟨vs, hl cc, by rw [rl.length]; exact Nat.le_refl _⟩⟩⟩
  · obtain ⟨v, hv, _⟩ := rl.get hd
    exact ⟨vs, v, hl cc, hv⟩
  · obtain ⟨rfl, hx⟩ := hy
    obtain ⟨v, hv, rv⟩ := rl.get hd
    have e := hx vs (hl cc)
    rw [hv] at e
    cases e
    exact ⟨.inl rfl, rv.mono cc⟩⟩
theorem range_walks {K : PySem.W.Frag} {As : List Addr} {H : Hp} {lo : Int} {n : Nat} : Walks K (Itr lo n) As H none ((List.range n).map fun i : Nat => D.int (lo + (i : Int))) := by
  have hlen : ((List.range n).map fun i : Nat => D.int (lo + (i : Int))).length = n := by rw [List.length_map, List.length_range]
  refine ⟨fun As2 H2 i d cc _ hd => ?_, fun As2 H2 i d x H3 cc _ hf hd hy => ?_, fun As2 H2 cc _ => ?_⟩
  · have := (List.getElem?_eq_some_iff.mp hd).1
    rw [hlen] at this
    exact this
  · obtain ⟨rfl, rfl⟩ := hy
    refine ⟨.inl rfl, ?_⟩
    have hi := (List.getElem?_eq_some_iff.mp hd).1
    rw [hlen] at hi
    rw [List.getElem?_map, List.getElem?_range hi] at hd
    cases hd
    exact .int
  · show n ≤ _
    rw [hlen]
    exact Nat.le_refl _
theorem i_range1 {j : Int} (hg : Gl X "range") (hm : X.mg "range" = none) (ha : PA X [a] (tA X.K T Γ M [.int j] M1)) (h1 : -(2 ^ 62) ≤ j) (h2 : j < 2 ^ 62) (hs : starEach [a] X.env = [(false, eval a X.env)] := by rfl) :
    PI X tg (.Call (.Name "range" p) [a] [] pos) (tI X.K T Γ M ((List.range j.toNat).map fun i : Nat => D.int (0 + (i : Int))) M1) := wkI (pi_range1 hg hm ha hs) fun σ H R ⟨As, S, q⟩ => ⟨As, S, fun As1 vs H1 c1 S1 r1 => by
  cases r1 with
  | cons r1 r2 =>
    cases r2
    cases r1
    exact ⟨j, rfl, h1, h2, q As1 _ H1 c1 S1 range_walks⟩⟩
theorem i_range2 {i j : Int} (hg : Gl X "range") (hm : X.mg "range" = none) (ha : PA X [a, b] (tA X.K T Γ M [.int i, .int j] M1)) (hb : -(2 ^ 62) ≤ i ∧ i < 2 ^ 62 ∧ -(2 ^ 62) ≤ j ∧ j < 2 ^ 62) (hs : starEach [a, b] X.env = [(false, eval a X.env), (false, eval b X.env)] := by rfl) (hs2 : starEach [b] X.env = [(false, eval b X.env)] := by rfl) :
    PI X tg (.Call (.Name "range" p) [a, b] [] pos) (tI X.K T Γ M ((List.range (j - i).toNat).map fun k : Nat => D.int (i + (k : Int))) M1) := wkI (pi_range2 hg hm ha hs hs2) fun σ H R ⟨As, S, q⟩ => ⟨As, S, fun As1 vs H1 c1 S1 r1 => by
  cases r1 with
  | cons r1 r2 =>
    cases r2 with
    | cons r2 r3 =>
      cases r3
      cases r1
      cases r2
      exact ⟨i, j, rfl, hb, q As1 _ H1 c1 S1 range_walks⟩⟩
/-- for: m turns go through; then the end, or a turn that ends it -/
theorem s_for {iter : Expr} {body : List Stmt} (hp : PassesOwn (model X.prog X.w) X.A X.env X.xe) (hcm : X.calm = true) (Γs Γt : Nat → List (Option Bs.D)) (Ms Mt : Nat → List Ce) (us : Nat → Out) {kc : Option Nat} (hi : PI X tg iter (tIc X.K T (Γs 0) M kc ds (Ms 0)))
    (hg : ∀ (i : Nat) d, ds[i]? = some d → PG X tg (tG X.K T (Γs i) (Ms i) d (Γt i) (Mt i))) (m : Nat) (hm : m ≤ ds.length) (hb : ∀ i, i < m → TurnOut (Γs (i + 1)) (Ms (i + 1)) (us i) ∧ PSs X body (tS X.K T W (Γt i) (Mt i) (us i)))
    (ho : (m = ds.length ∧ o = .nx (Γs m) (Ms m)) ∨ (m < ds.length ∧ LoopOut (us m) o ∧ PSs X body (tS X.K T W (Γt m) (Mt m) (us m))))
    (hs : ∀ x, foldedSetIterable iter X.env x = pure x := by intro _; rfl) (hkc : ∀ k, kc = some k → ∀ i, i ≤ m → (Ms i)[k]? = some (.lst ds) := by intro _ h; cases h) : PS X (.For tg iter body [] pos) (tS X.K T W (Γs 0) M o) := by
  have hbody : ∀ i : { i : Nat // i < m ∨ (i = m ∧ m < ds.length) }, PSs X body (tS X.K T W (Γt i.1) (Mt i.1) (us i.1)) := fun ⟨i, hi⟩ => by
    rcases hi with h | ⟨rfl, h⟩
    · exact (hb i h).2
    · rcases ho with ⟨e, _⟩ | ⟨_, _, q⟩
      · exact absurd e (Nat.ne_of_lt h)
      · exact q
  have htg : ∀ i : { q : Nat × Bs.D // ds[q.1]? = some q.2 }, PG X tg (tG X.K T (Γs i.1.1) (Ms i.1.1) i.1.2 (Γt i.1.1) (Mt i.1.1)) := fun ⟨q, h⟩ => hg q.1 q.2 h
  refine wkS (ps_for hp hcm hi (anyG htg) (anySs hbody) hs) fun Dn σ H ⟨As, S, q⟩ => ⟨As, S, fun As1 J H1 c1 S1 wk => ?_⟩
  refine ⟨fun i k σ' H' => k = ds.length - i ∧ i ≤ m ∧ ∃ As', Ch As1 H1 As' H' ∧ Sta X.K T As' (Ms i) H' σ' (Γs i), ⟨_, rfl, Nat.zero_le _, As1, Ch.refl, S1⟩, fun i k σ' H' ⟨hk, him, As', cc, S'⟩ => ?_⟩
  by_cases hlt : i < ds.length
  · obtain ⟨d, hd⟩ : ∃ d, ds[i]? = some d := ⟨_, List.getElem?_eq_getElem hlt⟩
    have hidx : i < m ∨ (i = m ∧ m < ds.length) := by
      rcases Nat.lt_or_ge i m with h | h
      · exact .inl h
      · exact .inr ⟨by omega, by omega⟩
    refine Or.inr ⟨wk.go As' H' i d cc (S'.cf fun k hk => hkc k hk i him) hd, fun σ2 H2 => i < m ∧ ∃ As2, Ch As1 H1 As2 H2 ∧ Sta X.K T As2 (Ms (i + 1)) H2 σ2 (Γs (i + 1)), fun σ2 H2 ⟨h0, As2, z1, z2⟩ => ⟨ds.length - (i + 1), by omega, rfl, by omega, As2, z1, z2⟩, ?_⟩
    intro x H'' hy
    obtain ⟨st, rx⟩ := wk.yld As' H' i d x H'' cc (S'.cf fun k hk => hkc k hk i him) (fun p hp => S'.fresh hp) hd hy
    refine ⟨⟨(i, d), hd⟩, As', st.sta S', rx, fun As2 H2 σ2 c2 S2 => ⟨⟨i, hidx⟩, As2, S2, ?_⟩⟩
    have c3 : Ch As1 H1 As2 H2 := (cc.trans st.ch).trans c2
    rcases hidx with h | ⟨e, h⟩
    · exact turn_tO (hb i h).1 (fun As4 H4 σ4 c4 S4 => ⟨h, As4, c3.trans c4, S4⟩) rfl
    · subst e
      rcases ho with ⟨e, _⟩ | ⟨_, lo, _⟩
      · exact absurd e (Nat.ne_of_lt h)
      · exact loop_tO lo (tO_mono (c1.trans c3) q) rfl rfl
  · have e : i = ds.length := by omega
    have hmi : m = ds.length := by omega
    refine Or.inl ⟨by have z := wk.stop As' H' cc (S'.cf fun k hk => hkc k hk i him); rw [← e] at z; exact z, ?_⟩
    rcases ho with ⟨_, eo⟩ | ⟨h, _⟩
    · subst eo
      have hqq := q As' H' σ' (c1.trans cc)
      rw [hmi, ← e] at hqq
      exact hqq S'
    · omega
/-- while: m turns -/
theorem s_while {body : List Stmt} (hp : PassesOwn (model X.prog X.w) X.A X.env X.xe) (Γs : Nat → List (Option Bs.D)) (Ms Mt : Nat → List Ce) (us : Nat → Out) (m : Nat) (z : Bool)
    (hc : ∀ i, i < m → PT X c (tT X.K T (Γs i) (Ms i) true (Mt i))) (hcz : PT X c (tT X.K T (Γs m) (Ms m) z (Mt m))) (hb : ∀ i, i < m → TurnOut (Γs (i + 1)) (Ms (i + 1)) (us i) ∧ PSs X body (tS X.K T W (Γs i) (Mt i) (us i)))
    (ho : (z = false ∧ o = .nx (Γs m) (Mt m)) ∨ (z = true ∧ LoopOut (us m) o ∧ PSs X body (tS X.K T W (Γs m) (Mt m) (us m)))) : PS X (.While c body [] pos) (tS X.K T W (Γs 0) (Ms 0) o) := by
  have hbody : ∀ i : { i : Nat // i < m ∨ (i = m ∧ z = true) }, PSs X body (tS X.K T W (Γs i.1) (Mt i.1) (us i.1)) := fun ⟨i, hi⟩ => by
    rcases hi with h | ⟨rfl, h⟩
    · exact (hb i h).2
    · rcases ho with ⟨e, _⟩ | ⟨_, _, q⟩
      · rw [h] at e
        cases e
      · exact q
  have htest : ∀ i : { q : Nat × Bool // (q.1 < m ∧ q.2 = true) ∨ (q.1 = m ∧ q.2 = z) }, PT X c (tT X.K T (Γs i.1.1) (Ms i.1.1) i.1.2 (Mt i.1.1)) := fun ⟨(i, b), h⟩ => by
    rcases h with ⟨h, e⟩ | ⟨e1, e2⟩
    · dsimp only at e h ⊢
      subst e
      exact hc i h
    · dsimp only at e1 e2 ⊢
      subst e1 e2
      exact hcz
  refine wkS (ps_while hp (anyT htest) (anySs hbody)) fun Dn σ H ⟨As, S, q⟩ => ?_
  refine ⟨fun k σ' H' => ∃ i, k = m - i ∧ i ≤ m ∧ ∃ As', Ch As H As' H' ∧ Sta X.K T As' (Ms i) H' σ' (Γs i), ⟨m - 0, 0, rfl, Nat.zero_le _, As, Ch.refl, S⟩, fun k σ' H' ⟨i, hk, him, As', cc, S'⟩ => ?_⟩
  by_cases hlt : i < m
  · refine ⟨⟨(i, true), .inl ⟨hlt, rfl⟩⟩, As', S', fun As2 H2 c2 S2 => iteT ⟨fun σ2 H2 => ∃ As3, Ch As H As3 H2 ∧ Sta X.K T As3 (Ms (i + 1)) H2 σ2 (Γs (i + 1)), fun σ2 H2 ⟨As3, z1, z2⟩ => ⟨m - (i + 1), by omega, i + 1, rfl, hlt, As3, z1, z2⟩, ⟨i, .inl hlt⟩, As2, S2, ?_⟩⟩
    exact turn_tO (hb i hlt).1 (fun As4 H4 σ4 c4 S4 => ⟨As4, (cc.trans c2).trans c4, S4⟩) rfl
  · have e : i = m := by omega
    subst e
    refine ⟨⟨(i, z), .inr ⟨rfl, rfl⟩⟩, As', S', fun As2 H2 c2 S2 => ?_⟩
    rcases ho with ⟨e, eo⟩ | ⟨e, lo, _⟩
    · subst e eo
      exact iteF (q As2 H2 σ' (cc.trans c2) S2)
    · subst e
      exact iteT ⟨fun _ _ => False, fun _ _ z => z.elim, ⟨i, .inr ⟨rfl, rfl⟩⟩, As2, S2, loop_tO lo (tO_mono (cc.trans c2) q) rfl rfl⟩
end
end Bs
namespace Bs
open PySem PySem.Spec PyProof.Rows L2 LamX
/-! ## operators by their data -/
structure BinE (X : Cx) (T : List (Addr × Str)) (op : Operator) (d1 d2 : D) (M : List Ce) (d : D) (M' : List Ce) : Prop where
  ex : ∃ r, OpR X (binaryOp op) r ∧ OpE X.K T r d1 d2 M d M'
structure CmpE (X : Cx) (T : List (Addr × Str)) (op : CmpOp) (d1 d2 : D) (M : List Ce) (z : Bool) (M' : List Ce) : Prop where
  ex : ∃ r, OpR X (compareOp op) r ∧ OpE X.K T r d1 d2 M (.bl z) M'
structure SubE (X : Cx) (T : List (Addr × Str)) (d1 d2 : D) (M : List Ce) (d : D) (M' : List Ce) : Prop where
  ex : ∃ r, IxR X r ∧ OpE X.K T r d1 d2 M d M'
/-- a binary operator that gives a new list -/
structure BinF (X : Cx) (T : List (Addr × Str)) (op : Operator) (d1 d2 : D) (M : List Ce) (ds : List D) : Prop where
  ex : ∃ r, OpR X (binaryOp op) r ∧ ∀ (As : List Addr) (σ : L2.St) (Γ : List (Option D)) (H : Hp) (v1 v2 : V) (Q : VK), Sta X.K T As M H σ Γ → Rp X.K As H v1 d1 → Rp X.K As H v2 d2 →
    (∀ vs p, RpL X.K As H vs ds → H p = none → Q (.ref p) (upd H p (.lst vs))) → r v1 v2 H Q
/-- a call of a built-in by its data -/
structure CalE (X : Cx) (T : List (Addr × Str)) (f : Value) (ds : List D) (M : List Ce) (d : D) (M' : List Ce) : Prop where
  ex : ∃ r, CallR X f r ∧ CaE X.K T r ds M d M'
structure CalF (X : Cx) (T : List (Addr × Str)) (f : Value) (ds : List D) (M : List Ce) (ws : List D) : Prop where
  ex : ∃ r, CallR X f r ∧ CaF X.K T r ds M ws M
section
variable {X : Cx} {T : List (Addr × Str)} {Γ : List (Option D)} {M M1 M2 M3 M' : List Ce} {a b c e : Expr} {es : List Expr} {d d1 d2 : D} {ds ws : List D} {z : Bool} {p pos : Pos} {x : Str}
theorem e_bin {op : Operator} (ha : PE X a (tE X.K T Γ M d1 M1)) (hb : PE X b (tE X.K T Γ M1 d2 M2)) (hr : BinE X T op d1 d2 M2 d M') : PE X (.BinOp a op b pos) (tE X.K T Γ M d M') := by
  obtain ⟨r, h1, h2⟩ := hr
  exact e_op h1 ha hb h2
theorem f_bin {op : Operator} (ha : PE X a (tE X.K T Γ M d1 M1)) (hb : PE X b (tE X.K T Γ M1 d2 M2)) (hr : BinF X T op d1 d2 M2 ds) : PE X (.BinOp a op b pos) (tF X.K T Γ M ds M2) := by
  obtain ⟨r, h1, h2⟩ := hr
  refine wkE (pe_op h1 ha hb) fun σ H Q ⟨As, S, k⟩ => ⟨As, S, fun As1 v1 H1 c1 S1 r1 => ⟨As1, S1, fun As2 v2 H2 c2 S2 r2 => ?_⟩⟩
  exact h2 As2 σ Γ H2 v1 v2 Q S2 (r1.mono c2) r2 fun vs p rl hp => k As2 vs H2 p (c1.trans c2) S2 rl hp
theorem e_cm {op : CmpOp} (hm : behindInMarks op b = false) (ha : PE X a (tE X.K T Γ M d1 M1)) (hb : PE X b (tE X.K T Γ M1 d2 M2)) (hr : CmpE X T op d1 d2 M2 z M') : PE X (.Compare a [op] [b] pos) (tE X.K T Γ M (.bl z) M') := by
  obtain ⟨r, h1, h2⟩ := hr
  exact e_cmp h1 hm ha hb h2
theorem t_cm {op : CmpOp} (hm : behindInMarks op b = false) (ha : PE X a (tE X.K T Γ M d1 M1)) (hb : PE X b (tE X.K T Γ M1 d2 M2)) (hr : CmpE X T op d1 d2 M2 z M') : PT X (.Compare a [op] [b] pos) (tT X.K T Γ M z M') := by
  obtain ⟨r, h1, h2⟩ := hr
  exact t_cmp h1 hm ha hb h2
theorem e_sub (ha : PE X a (tE X.K T Γ M d1 M1)) (hb : PE X b (tE X.K T Γ M1 d2 M2)) (hr : SubE X T d1 d2 M2 d M') (hs : PlainIx b := by exact fun _ _ => rfl) : PE X (.Subscript a b pos) (tE X.K T Γ M d M') := by
  obtain ⟨r, h1, h2⟩ := hr
  exact e_ix h1 ha hb h2 hs
/-- a chain a < b < c -/
theorem e_chain {op op' : CmpOp} {d3 : D} {y : Bool} (ha : PE X a (tE X.K T Γ M d1 M)) (hb : PE X b (tE X.K T Γ M d2 M)) (hc : PE X c (tE X.K T Γ M d3 M)) (hr : CmpE X T op d1 d2 M z M) (hr' : z = true → CmpE X T op' d2 d3 M y M) (hlm : lastMarks [op, op'] [b, c] = false := by with_unfolding_all rfl) : PE X (.Compare a [op, op'] [b, c] pos) (tE X.K T Γ M (.bl (z && y)) M) := by
  obtain ⟨r, h1, h2⟩ := hr
  cases z with
  | true =>
    obtain ⟨r', h1', h2'⟩ := hr' rfl
    refine wkE (pe_chain h1 h1' ha hb hc (hm := hlm)) fun σ H Q ⟨As, S, k⟩ => ⟨As, S, fun As1 v1 H1 c1 S1 r1 => ⟨As1, S1, fun As2 v2 H2 c2 S2 r2 => ?_⟩⟩
    refine h2 As2 σ Γ H2 v1 v2 _ S2 (r1.mono c2) r2 fun As3 v H3 c3 S3 r3 => ?_
    cases r3
    refine ⟨true, rfl, iteT ⟨As3, S3, fun As4 v3 H4 c4 S4 r4 => ?_⟩⟩
    exact h2' As4 σ Γ H4 v2 v3 Q S4 ((r2.mono c3).mono c4) r4 fun As5 v5 H5 c5 S5 r5 => k As5 v5 H5 ((((c1.trans c2).trans c3).trans c4).trans c5) S5 r5
  | false =>
    refine wkE (pe_chain (r' := fun _ _ _ _ => False) h1 (fun _ _ _ _ _ _ _ _ _ _ _ _ q => q.elim) ha hb hc (hm := hlm)) fun σ H Q ⟨As, S, k⟩ => ⟨As, S, fun As1 v1 H1 c1 S1 r1 => ⟨As1, S1, fun As2 v2 H2 c2 S2 r2 => ?_⟩⟩
    refine h2 As2 σ Γ H2 v1 v2 _ S2 (r1.mono c2) r2 fun As3 v H3 c3 S3 r3 => ?_
    cases r3
    exact ⟨false, rfl, iteF (k As3 _ H3 ((c1.trans c2).trans c3) S3 .bl)⟩
theorem e_cB {id : String} (hg : Gl X x) (hm : X.mg x = none) (hv : bootBuiltins x = some (.builtin id)) (ha : PA X (e :: es) (tA X.K T Γ M ds M1)) (hr : CalE X T (.builtin id) ds M1 d M2) (hn : x ≠ "__name__" := by decide) (hdb : (x == ("__debug__" : Str)) = false := by decide)
    (he : starEach (e :: es) X.env = (false, eval e X.env) :: starEach es X.env := by rfl) (hpl : (backTo pos (starEach es X.env)).any (·.1) = false := by rfl) : PE X (.Call (.Name x p) (e :: es) [] pos) (tE X.K T Γ M d M2) := by
  obtain ⟨r, h1, h2⟩ := hr
  exact e_callB h1 hg hm hv ha h2 hn hdb he hpl
theorem f_cB {id : String} (hg : Gl X x) (hm : X.mg x = none) (hv : bootBuiltins x = some (.builtin id)) (ha : PA X (e :: es) (tA X.K T Γ M ds M1)) (hr : CalF X T (.builtin id) ds M1 ws) (hn : x ≠ "__name__" := by decide) (hdb : (x == ("__debug__" : Str)) = false := by decide)
    (he : starEach (e :: es) X.env = (false, eval e X.env) :: starEach es X.env := by rfl) (hpl : (backTo pos (starEach es X.env)).any (·.1) = false := by rfl) : PE X (.Call (.Name x p) (e :: es) [] pos) (tF X.K T Γ M ws M1) := by
  obtain ⟨r, h1, h2⟩ := hr
  exact f_callB h1 hg hm hv ha h2 hn hdb he hpl
theorem e_cT {id : String} (hg : Gl X x) (hm : X.mg x = none) (hv : bootBuiltins x = some (.type id)) (ha : PA X (e :: es) (tA X.K T Γ M ds M1)) (hr : CalE X T (.type id) ds M1 d M2) (hn : x ≠ "__name__" := by decide) (hdb : (x == ("__debug__" : Str)) = false := by decide)
    (he : starEach (e :: es) X.env = (false, eval e X.env) :: starEach es X.env := by rfl) (hpl : (backTo pos (starEach es X.env)).any (·.1) = false := by rfl) : PE X (.Call (.Name x p) (e :: es) [] pos) (tE X.K T Γ M d M2) := by
  obtain ⟨r, h1, h2⟩ := hr
  exact e_callTy h1 hg hm hv ha h2 hn hdb he hpl
theorem f_cT {id : String} (hg : Gl X x) (hm : X.mg x = none) (hv : bootBuiltins x = some (.type id)) (ha : PA X (e :: es) (tA X.K T Γ M ds M1)) (hr : CalF X T (.type id) ds M1 ws) (hn : x ≠ "__name__" := by decide) (hdb : (x == ("__debug__" : Str)) = false := by decide)
    (he : starEach (e :: es) X.env = (false, eval e X.env) :: starEach es X.env := by rfl) (hpl : (backTo pos (starEach es X.env)).any (·.1) = false := by rfl) : PE X (.Call (.Name x p) (e :: es) [] pos) (tF X.K T Γ M ws M1) := by
  obtain ⟨r, h1, h2⟩ := hr
  exact f_callTy h1 hg hm hv ha h2 hn hdb he hpl
/-! ### the operators -/
theorem bn_add {i j : Int} : BinE X T .Add (.int i) (.int j) M (.int (i + j)) M := ⟨_, op_add, o_I0⟩
theorem bn_sub {i j : Int} : BinE X T .Sub (.int i) (.int j) M (.int (i - j)) M := ⟨_, op_sub, o_I0⟩
theorem bn_mul {i j : Int} (h : CMul i j) : BinE X T .Mult (.int i) (.int j) M (.int (i * j)) M := ⟨_, op_mul, o_I h⟩
theorem bn_mulW {i j : Int} (h : CMulW i j) : BinE X T .Mult (.int i) (.int j) M (.int (i * j)) M := ⟨_, op_mulW, o_I h⟩
theorem bn_mod {i j : Int} (h : 0 < j) : BinE X T .Mod (.int i) (.int j) M (.int (i % j)) M := ⟨_, op_mod, o_I h⟩
theorem bn_div {i j : Int} (h : CDivW i j) : BinE X T .FloorDiv (.int i) (.int j) M (.int (i / j)) M := ⟨_, op_fdivW, o_I h⟩
theorem bn_pow {i j : Int} (h : CPow i j) : BinE X T .Pow (.int i) (.int j) M (.int (i ^ j.toNat)) M := ⟨_, op_pow, o_I h⟩
theorem bn_str {i j : Str} (h : i.length + j.length ≤ sizeLine) : BinE X T .Add (.str i) (.str j) M (.str (i ++ j)) M := ⟨_, op_add_str, fun As σ Γ H v1 v2 Q S r1 r2 k => by
  cases r1
  cases r2
  exact ⟨i, j, rfl, rfl, h, k As _ H Ch.refl S .str⟩⟩
theorem bf_cat {xs ys : List D} (l1 : LV M d1 xs) (l2 : LV M d2 ys) (h : xs.length + ys.length ≤ 100000) : BinF X T .Add d1 d2 M (xs ++ ys) := ⟨_, op_cat, fun As σ Γ H v1 v2 Q S r1 r2 k => by
  obtain ⟨a, vs, rfl, ha, ra⟩ := l1.at S r1
  obtain ⟨b, ws, rfl, hb, rb⟩ := l2.at S r2
  exact ⟨a, b, vs, ws, rfl, rfl, ha, hb, sz_of (by rw [ra.length, rb.length]; exact h), fun p hp => k _ p (ra.append rb) hp⟩⟩
theorem cm_lt {i j : Int} : CmpE X T .Lt (.int i) (.int j) M (decide (i < j)) M := ⟨_, op_lt, o_B0⟩
theorem cm_le {i j : Int} : CmpE X T .LtE (.int i) (.int j) M (decide (i ≤ j)) M := ⟨_, op_le, o_B0⟩
theorem cm_gt {i j : Int} : CmpE X T .Gt (.int i) (.int j) M (decide (j < i)) M := ⟨_, op_gt, o_B0⟩
theorem cm_ge {i j : Int} : CmpE X T .GtE (.int i) (.int j) M (decide (j ≤ i)) M := ⟨_, op_ge, o_B0⟩
theorem cm_eqI {i j : Int} : CmpE X T .Eq (.int i) (.int j) M (decide (i = j)) M := ⟨_, op_eq, by
  have h := o_eq (K := X.K) (T := T) (M := M) (d1 := .int i) (d2 := .int j) rfl rfl rfl
  have e : decide (V.int i = V.int j) = decide (i = j) := by
    by_cases q : i = j
    · subst q
      simp
    · have q2 : ¬ V.int i = V.int j := fun z => q (V.int.inj z)
      rw [decide_eq_false q, decide_eq_false q2]
  rw [← e]
  exact h⟩
theorem cm_neI {i j : Int} : CmpE X T .NotEq (.int i) (.int j) M (!decide (i = j)) M := ⟨_, op_ne, by
  have h := o_ne (K := X.K) (T := T) (M := M) (d1 := .int i) (d2 := .int j) rfl rfl rfl
  have e : decide (V.int i = V.int j) = decide (i = j) := by
    by_cases q : i = j
    · subst q
      simp
    · have q2 : ¬ V.int i = V.int j := fun z => q (V.int.inj z)
      rw [decide_eq_false q, decide_eq_false q2]
  rw [← e]
  exact h⟩
theorem cm_eqS {i j : Str} : CmpE X T .Eq (.str i) (.str j) M (decide (i = j)) M := ⟨_, op_eq, by
  have h := o_eq (K := X.K) (T := T) (M := M) (d1 := .str i) (d2 := .str j) rfl rfl rfl
  have e : decide (V.str i = V.str j) = decide (i = j) := by
    by_cases q : i = j
    · subst q
      simp
    · have q2 : ¬ V.str i = V.str j := fun z => q (V.str.inj z)
      rw [decide_eq_false q, decide_eq_false q2]
  rw [← e]
  exact h⟩
theorem cm_neS {i j : Str} : CmpE X T .NotEq (.str i) (.str j) M (!decide (i = j)) M := ⟨_, op_ne, by
  have h := o_ne (K := X.K) (T := T) (M := M) (d1 := .str i) (d2 := .str j) rfl rfl rfl
  have e : decide (V.str i = V.str j) = decide (i = j) := by
    by_cases q : i = j
    · subst q
      simp
    · have q2 : ¬ V.str i = V.str j := fun z => q (V.str.inj z)
      rw [decide_eq_false q, decide_eq_false q2]
  rw [← e]
  exact h⟩
theorem cm_z {op : CmpOp} {y : Bool} (h : CmpE X T op d1 d2 M y M') (e : y = z) : CmpE X T op d1 d2 M z M' := e ▸ h
theorem sb_L {i : Int} (l : LV M d1 ds) (h : atI ds i = some d) : SubE X T d1 (.int i) M d M := ⟨_, ix_list, o_ixL l h⟩
theorem sb_T {i : Int} (h : atI ds i = some d) : SubE X T (.tup ds) (.int i) M d M := ⟨_, ix_tup, o_ixT h⟩
theorem sb_S {ns : List Int} {i j : Int} (h : atI (ns.map D.int) i = some (.int j)) : SubE X T (.scr ns) (.int i) M (.int j) M := ⟨_, ix_list, o_ixS h⟩
/-! ### built-ins -/
theorem RpL.one {K : PySem.W.Frag} {As : List Addr} {H : Hp} {vs : List V} (r : RpL K As H vs [d]) : ∃ v, vs = [v] ∧ Rp K As H v d := by
  cases r with
  | cons r1 r2 =>
    cases r2
    exact ⟨_, rfl, r1⟩
theorem RpL.two {K : PySem.W.Frag} {As : List Addr} {H : Hp} {vs : List V} (r : RpL K As H vs [d1, d2]) : ∃ v u, vs = [v, u] ∧ Rp K As H v d1 ∧ Rp K As H u d2 := by
  cases r with
  | cons r1 r2 =>
    obtain ⟨u, rfl, q⟩ := r2.one
    exact ⟨_, _, rfl, r1, q⟩
theorem ca_int {i : Int} : CalE X T (.type "int") [.int i] M (.int i) M := ⟨_, call_int1, fun As σ Γ H vs Q S r k => by
  obtain ⟨v, rfl, q⟩ := r.one
  cases q
  exact .inl ⟨i, rfl, k As _ H Ch.refl S .int⟩⟩
theorem ca_intB {i : Bool} : CalE X T (.type "int") [.bl i] M (.int (if i then 1 else 0)) M := ⟨_, call_int1, fun As σ Γ H vs Q S r k => by
  obtain ⟨v, rfl, q⟩ := r.one
  cases q
  exact .inr ⟨i, rfl, k As _ H Ch.refl S .int⟩⟩
theorem ca_max2 {i j : Int} (hc : X.calm = true) : CalE X T (.builtin "max") [.int i, .int j] M (.int (if j > i then j else i)) M := ⟨_, call_max2 hc, fun As σ Γ H vs Q S r k => by
  obtain ⟨v, u, rfl, q1, q2⟩ := r.two
  cases q1
  cases q2
  exact ⟨i, j, rfl, k As _ H Ch.refl S .int⟩⟩
theorem ca_min2 {i j : Int} (hc : X.calm = true) : CalE X T (.builtin "min") [.int i, .int j] M (.int (if j < i then j else i)) M := ⟨_, call_min2 hc, fun As σ Γ H vs Q S r k => by
  obtain ⟨v, u, rfl, q1, q2⟩ := r.two
  cases q1
  cases q2
  exact ⟨i, j, rfl, k As _ H Ch.refl S .int⟩⟩
theorem ca_abs {i : Int} : CalE X T (.builtin "abs") [.int i] M (.int (if i < 0 then -i else i)) M := ⟨_, call_abs, fun As σ Γ H vs Q S r k => by
  obtain ⟨v, rfl, q⟩ := r.one
  cases q
  exact ⟨i, rfl, k As _ H Ch.refl S .int⟩⟩
theorem ca_lenL (l : LV M d1 ds) : CalE X T (.builtin "len") [d1] M (.int ds.length) M := ⟨_, call_len_seq, fun As σ Γ H vs Q S r k => by
  obtain ⟨v, rfl, q⟩ := r.one
  obtain ⟨a, vs, rfl, ha, ra⟩ := l.at S q
  exact ⟨a, vs, rfl, .inl (SqL.of ha), by rw [ra.length]; exact k As _ H Ch.refl S .int⟩⟩
theorem ca_lenT : CalE X T (.builtin "len") [.tup ds] M (.int ds.length) M := ⟨_, call_len_seq, fun As σ Γ H vs Q S r k => by
  obtain ⟨v, rfl, q⟩ := r.one
  obtain ⟨a, vs, rfl, ha, ra⟩ := q.tupAt
  exact ⟨a, vs, rfl, .inr ha, by rw [ra.length]; exact k As _ H Ch.refl S .int⟩⟩
theorem ca_lenS {ns : List Int} : CalE X T (.builtin "len") [.scr ns] M (.int ns.length) M := ⟨_, call_len_seq, fun As σ Γ H vs Q S r k => by
  obtain ⟨v, rfl, q⟩ := r.one
  obtain ⟨a, rfl, ha⟩ := q.scrAt
  have e : ((ns.map V.int).length : Int) = (ns.length : Int) := by rw [List.length_map]
  exact ⟨a, _, rfl, .inl ha, by rw [e]; exact k As _ H Ch.refl S .int⟩⟩
end
end Bs
namespace Bs
open PySem PySem.Spec PyProof.Rows L2 LamX
/-- a def of the module, with its contract -/
def FnH (P : Program) (w : World) (K : PySem.W.Frag) (T : List (Addr × Str)) (mg : Str → Option Value) (base : Heap) (x : Str) (k n : Nat) (C : Con) : Prop :=
  ∃ (f : Addr) (fd : FuncData) (ps : List Str), FnOk P w K mg base (L2.CX P w) k f fd ps (spF K T n C) ∧ mg x = some (.ref f) ∧ PySem.W.keepIn K (.ref f) = true ∧ Binds K fd ps []
section
variable {P : Program} {w : World} {K : PySem.W.Frag} {T : List (Addr × Str)} {mg : Str → Option Value} {base : Heap}
/-- a def of the top by its body -/
theorem fnH {x : Str} {params : Arguments} {body : List Stmt} {scope : Scope} {kws : List (Str × V)} {f : Addr} {fd : FuncData} {N ps : List Str} {k n : Nat} {C : Con} (F : FunD K x x params body scope [] kws f fd) (g : mg x = some (.ref f)) (S : FnScope N ps scope) (hn : ps.length = n)
    (hb : ∀ (dV kV doc pm : Value) (an : Option Addr) (cdv ct : Value) (us : List Value), us.length = ps.length → bindArgs (PySem.W.fnOf x x params body scope .none kV doc pm an cdv ct) ⟨us, []⟩ = pure (ps.zip us))
    (h : BodyOk P w K T mg base N x scope f k ps.length body C) : FnH P w K T mg base x (k + 1) n C := by
  subst hn
  exact ⟨f, fd, ps, fn_bs F S h, g, F.kp, F.bindsN fun kV doc pm an cdv ct us hu => hb .none kV doc pm an cdv ct us hu⟩
end
section
variable {X : Cx} {T : List (Addr × Str)} {Γ : List (Option D)} {M M1 M2 M3 M' : List Ce} {a b c e : Expr} {es : List Expr} {d d1 d2 : D} {ds ws : List D} {z : Bool} {p pos : Pos} {x : Str} {k n : Nat} {C : Con}
theorem e_cf (F : FnH X.prog X.w X.K T X.mg X.base x k n C) (hr : Room k X.A) (hg : Gl X x) (ha : PA X (e :: es) (tA X.K T Γ M ds M1)) (hC : C ds M1 (.val d) M2) (hn : ds.length = n := by rfl) (hdb : (x == ("__debug__" : Str)) = false := by decide)
    (he : starEach (e :: es) X.env = (false, eval e X.env) :: starEach es X.env := by rfl) (hpl : (backTo pos (starEach es X.env)).any (·.1) = false := by rfl) : PE X (.Call (.Name x p) (e :: es) [] pos) (tE X.K T Γ M d M2) := by
  obtain ⟨f, fd, ps, h1, h2, h3, h4⟩ := F
  exact e_call h1 hr hg h2 h3 h4 ha hn hC hdb he hpl
theorem e_cf0 (F : FnH X.prog X.w X.K T X.mg X.base x k 0 C) (hr : Room k X.A) (hg : Gl X x) (hC : C [] M (.val d) M2) (hdb : (x == ("__debug__" : Str)) = false := by decide) : PE X (.Call (.Name x p) [] [] pos) (tE X.K T Γ M d M2) := by
  obtain ⟨f, fd, ps, h1, h2, h3, h4⟩ := F
  exact e_call0 h1 hr hg h2 h3 h4 hC hdb
theorem x_cf {W : WX} {CE : Addr} {fs : List (Str × D)} (tk : Takes X W) (F : FnH X.prog X.w X.K T X.mg X.base x k n C) (hr : Room k X.A) (hg : Gl X x) (ha : PA X (e :: es) (tA X.K T Γ M ds M1)) (hC : C ds M1 (.exc CE fs) M2) (hn : ds.length = n := by rfl) (hdb : (x == ("__debug__" : Str)) = false := by decide)
    (he : starEach (e :: es) X.env = (false, eval e X.env) :: starEach es X.env := by rfl) (hpl : (backTo pos (starEach es X.env)).any (·.1) = false := by rfl) : PE X (.Call (.Name x p) (e :: es) [] pos) (tX X.K T W Γ M CE fs M2) := by
  obtain ⟨f, fd, ps, h1, h2, h3, h4⟩ := F
  exact x_call tk h1 hr hg h2 h3 h4 ha hn hC hdb he hpl
theorem e_eq (h : PE X e (tE X.K T Γ M d1 M1)) (h1 : d1 = d) (h2 : M1 = M') : PE X e (tE X.K T Γ M d M') := by
  subst h1 h2
  exact h
theorem b_eq {sts : List Stmt} {W : WX} {Γ1 : List (Option D)} {o : Out} (h : PSs X sts (tS X.K T W Γ1 M1 o)) (h1 : Γ = Γ1) (h2 : M = M1) : PSs X sts (tS X.K T W Γ M o) := by
  subst h1 h2
  exact h
theorem b_o {sts : List Stmt} {W : WX} {o o1 : Out} (h : PSs X sts (tS X.K T W Γ M o1)) (h1 : o1 = o) : PSs X sts (tS X.K T W Γ M o) := by
  subst h1
  exact h
theorem bn_mul' {i j : Int} (h : (-18446744073709551616 < i ∧ i < 18446744073709551616) ∨ (-18446744073709551616 < j ∧ j < 18446744073709551616)) : BinE X T .Mult (.int i) (.int j) M (.int (i * j)) M := bn_mul (by
  unfold CMul
  have e : (2 : Int) ^ 64 = 18446744073709551616 := by decide
  rw [e]
  exact h)
theorem bn_div' {i j : Int} (h : 0 < j) (h2 : j < 18446744073709551616) : BinE X T .FloorDiv (.int i) (.int j) M (.int (i / j)) M := bn_div (wide_div (b := 64) h (by
  have : (2 : Nat) ^ 64 = 18446744073709551616 := by decide
  omega) (by decide) (by decide))
end
/-- the built-ins' names that the module leaves alone -/
structure Bi (mg : Str → Option Value) : Prop where
  int : mg "int" = none
  max : mg "max" = none
  min : mg "min" = none
  len : mg "len" = none
  abs : mg "abs" = none
  range : mg "range" = none
  repr : mg "repr" = none
  isinstance : mg "isinstance" = none
  all : mg "all" = none
  any : mg "any" = none
  tuple : mg "tuple" = none
  list : mg "list" = none
  sorted : mg "sorted" = none
  set : mg "set" = none
  dict : mg "dict" = none
  enumerate : mg "enumerate" = none
  zip : mg "zip" = none
  str : mg "str" = none
  bool : mg "bool" = none
  sum : mg "sum" = none
  super : mg "super" = none
  bytes : mg "bytes" = none
  ValueError : mg "ValueError" = none
  TypeError : mg "TypeError" = none
end Bs
namespace Bs
open PySem PySem.Spec PyProof.Rows L2 LamX
mutual
theorem D.cl_mono {n m : Nat} (h : n ≤ m) : ∀ d : D, d.cl n = true → d.cl m = true
  | .tup ds, q => clL_mono h ds q
  | .lst ds, q => clL_mono h ds q
  | .dct ds, q => clK_mono h ds q
  | .obj _ ds, q => clF_mono h ds q
  | .exc _ ds, q => clF_mono h ds q
  | .cel k, q => decide_eq_true (Nat.lt_of_lt_of_le (of_decide_eq_true q) h)
  | .non, _ => rfl
  | .bl _, _ => rfl
  | .int _, _ => rfl
  | .str _, _ => rfl
  | .byt _, _ => rfl
  | .ty _, _ => rfl
  | .ref _, _ => rfl
  | .scr _, _ => rfl
theorem clL_mono {n m : Nat} (h : n ≤ m) : ∀ ds : List D, clL n ds = true → clL m ds = true
  | [], _ => rfl
  | d :: ds, q => Bool.and_eq_true_iff.mpr ⟨D.cl_mono h d (b2 q).1, clL_mono h ds (b2 q).2⟩
theorem clK_mono {n m : Nat} (h : n ≤ m) : ∀ ds : List (Key × D), clK n ds = true → clK m ds = true
  | [], _ => rfl
  | (_, d) :: ds, q => Bool.and_eq_true_iff.mpr ⟨D.cl_mono h d (b2 q).1, clK_mono h ds (b2 q).2⟩
theorem clF_mono {n m : Nat} (h : n ≤ m) : ∀ ds : List (Str × D), clF n ds = true → clF m ds = true
  | [], _ => rfl
  | (_, d) :: ds, q => Bool.and_eq_true_iff.mpr ⟨D.cl_mono h d (b2 q).1, clF_mono h ds (b2 q).2⟩
end
theorem Ce.cl_mono {n m : Nat} (h : n ≤ m) (c : Ce) (q : c.cl n = true) : c.cl m = true := by
  cases c with
  | lst ds => exact clL_mono h ds q
  | dct ds => exact clK_mono h ds q
  | obj C ds => exact clF_mono h ds q
theorem ClM.app {M G : List Ce} (h : ClM M) (hg : ∀ c ∈ G, c.cl (M.length + G.length) = true) : ClM (M ++ G) := fun c hc => by
  rw [List.length_append]
  rcases List.mem_append.mp hc with z | z
  · exact c.cl_mono (by omega) (h c z)
  · exact hg c z
section
variable {X : Cx} {T : List (Addr × Str)} {Γ Γ1 Γ2 Γ' : List (Option D)} {M M1 M2 M3 M' : List Ce} {a b c e tg elt iter : Expr} {es tgs ifs : List Expr} {d d1 d2 : D} {ds : List D} {p pos : Pos} {x : Str} {W : WX} {st : Stmt} {sts rest : List Stmt} {o : Out}
/-- the last cell becomes a datum -/
theorem frz_of {K : PySem.W.Frag} {σ : L2.St} {H : Hp} {Q : VK} {n : Nat} (hn : M1.length = n) (hl : M.length ≤ n) (hM : ClM M → ClM M1) (hc : clL n ds = true) (h : tE K T Γ M (.lst ds) M1 σ H Q) : tE K T Γ M (.cel n) (M1 ++ [.lst ds]) σ H Q := by
  subst hn
  obtain ⟨As, S, q⟩ := h
  refine ⟨As, S, fun As1 v H1 c1 S1 r1 => ?_⟩
  have hcl := hM S.closed
  have S2 := S1.cut hcl
  have hA : As.length ≤ M1.length := by rw [S.alen]; exact hl
  have S3 : Sta K T (As1.take M1.length) M1 H1 σ Γ := S2.slots S.slen fun i d hd => by
    obtain ⟨v, hv, r⟩ := S1.slot i d hd
    obtain ⟨v0, _, r0⟩ := S.slot i d hd
    exact ⟨v, hv, r.cut (D.cl_mono hA d r0.cl)⟩
  refine q _ v H1 (c1.cut hA) S3 ?_
  cases r1 with
  | cel ha =>
    obtain ⟨b, hb, qq⟩ := S1.cell M1.length (.lst ds) (by rw [List.getElem?_append_right (Nat.le_refl _), Nat.sub_self]; rfl)
    rw [ha] at hb
    cases hb
    cases qq with
    | lst h1 rl => exact .lst (notTakeAt S1.nd ha (Nat.le_refl _)) h1 (rl.cut hc)
theorem e_frz (h : PE X e (tE X.K T Γ M (.cel M1.length) (M1 ++ [.lst ds]))) (hl : M.length ≤ M1.length) (hM : ClM M → ClM M1) (hc : clL M1.length ds = true) : PE X e (tE X.K T Γ M (.lst ds) M1) := wkE h fun σ H Q q => frz_of rfl hl hM hc q
/-! ### comprehensions -/
def wipeG (Γ : List (Option D)) : List Nat → List (Option D)
  | [] => Γ
  | v :: vs => (wipeG Γ vs).set v none
theorem wipeG_length (Γ : List (Option D)) : ∀ vs : List Nat, (wipeG Γ vs).length = Γ.length
  | [] => rfl
  | v :: vs => by
    show ((wipeG Γ vs).set v none).length = _
    rw [List.length_set, wipeG_length Γ vs]
theorem Sta.wipe {K : PySem.W.Frag} {As : List Addr} {H : Hp} {σ : L2.St} (S : Sta K T As M H σ Γ) : ∀ vs : List Nat, Sta K T As M H (L2.wipe σ vs) (wipeG Γ vs)
  | [] => S
  | v :: vs => by
    have S1 := Sta.wipe S vs
    refine S1.slots (by show ((L2.wipe σ vs).set v none).length = ((wipeG Γ vs).set v none).length; rw [List.length_set, List.length_set]; exact S1.slen) fun i d hd => ?_
    have hd2 : ((wipeG Γ vs).set v none)[i]? = some (some d) := hd
    by_cases hi : i = v
    · subst hi
      by_cases hl : i < (wipeG Γ vs).length
      · rw [List.getElem?_set_self hl] at hd2
        cases hd2
      · rw [List.getElem?_eq_none (by rw [List.length_set]; omega)] at hd2
        cases hd2
    · rw [List.getElem?_set_ne (Ne.symm hi)] at hd2
      obtain ⟨u, hu, r⟩ := S1.slot i d hd2
      exact ⟨u, by show ((L2.wipe σ vs).set v none)[i]? = _; rw [List.getElem?_set_ne (Ne.symm hi)]; exact hu, r⟩
theorem wipe_set_in {σ : L2.St} {j : Nat} {x : Option V} : ∀ {vs : List Nat}, j ∈ vs → L2.wipe (σ.set j x) vs = L2.wipe σ vs
  | v :: vs, h => by
    show (L2.wipe (σ.set j x) vs).set v none = (L2.wipe σ vs).set v none
    by_cases hj : j ∈ vs
    · rw [wipe_set_in hj]
    · have hv : j = v := by
        rcases List.mem_cons.mp h with z | z
        · exact z
        · exact absurd z hj
      subst hv
      have e : ∀ (vs : List Nat) (τ : L2.St), j ∉ vs → L2.wipe (τ.set j x) vs = (L2.wipe τ vs).set j x := by
        intro vs
        induction vs with
        | nil => intro τ _; rfl
        | cons w ws ih =>
          intro τ hn
          show (L2.wipe (τ.set j x) ws).set w none = ((L2.wipe τ ws).set w none).set j x
          rw [ih τ (fun z => hn (List.mem_cons_of_mem _ z)), List.set_comm]
          intro z
          exact hn (by rw [z]; exact List.mem_cons_self)
      rw [e vs σ hj, List.set_set]
theorem wipe_wipe {σ : L2.St} : ∀ (vs us : List Nat), (∀ v ∈ us, v ∈ vs) → L2.wipe (L2.wipe σ us) vs = L2.wipe σ vs
  | vs, [], _ => rfl
  | vs, u :: us, h => by
    show L2.wipe ((L2.wipe σ us).set u none) vs = _
    rw [wipe_set_in (h u List.mem_cons_self), wipe_wipe vs us fun v hv => h v (List.mem_cons_of_mem _ hv)]
/-- a target that stores to slots of vs alone -/
structure tGwS (K : PySem.W.Frag) (T : List (Addr × Str)) (vs : List Nat) (Γ : List (Option D)) (M : List Ce) (d : D) (Γ' : List (Option D)) (v : V) (σ : L2.St) (H : Hp) (Q : L2.St → Hp → Prop) : Prop where
  ex : ∃ As, Sta K T As M H σ Γ ∧ Rp K As H v d ∧ ∀ σ', L2.wipe σ' vs = L2.wipe σ vs → Sta K T As M H σ' Γ' → Q σ' H
def tGw (K : PySem.W.Frag) (T : List (Addr × Str)) (vs : List Nat) (Γ : List (Option D)) (M : List Ce) (d : D) (Γ' : List (Option D)) : TG := tGwS K T vs Γ M d Γ'
structure tGwsS (K : PySem.W.Frag) (T : List (Addr × Str)) (vs : List Nat) (Γ : List (Option D)) (M : List Ce) (ds : List D) (Γ' : List (Option D)) (us : List V) (σ : L2.St) (H : Hp) (Q : L2.St → Hp → Prop) : Prop where
  ex : ∃ As, Sta K T As M H σ Γ ∧ RpL K As H us ds ∧ ∀ σ', L2.wipe σ' vs = L2.wipe σ vs → Sta K T As M H σ' Γ' → Q σ' H
def tGws (K : PySem.W.Frag) (T : List (Addr × Str)) (vs : List Nat) (Γ : List (Option D)) (M : List Ce) (ds : List D) (Γ' : List (Option D)) : TGs := tGwsS K T vs Γ M ds Γ'
variable {vs : List Nat}
theorem gw_name {i : Nat} (hv : i ∈ vs) (hi' : i < Γ.length) (hN : X.N.Nodup) (hi : X.N[i]? = some x) (hx : Loc X.env.scope x) (hf : X.fn x = true ∨ X.env.scope.names.lookup x = some .local := by first | exact .inl rfl | exact .inr rfl | assumption) : PG X (.Name x pos) (tGw X.K T vs Γ M d (Γ.set i (some d))) :=
  wkG (pg_name hN hi hx hf) fun v σ H Q ⟨As, S, r, q⟩ => q _ (wipe_set_in hv) (S.store hi' r)
theorem gws_nil : PGs X [] (tGws X.K T vs Γ M [] Γ) := wkGs pgs_nil fun v σ H Q ⟨As, S, r, q⟩ => by
  cases r
  exact ⟨rfl, q σ rfl S⟩
theorem gws_cons (h1 : PG X tg (tGw X.K T vs Γ M d Γ1)) (h2 : PGs X tgs (tGws X.K T vs Γ1 M ds Γ2)) (hs : (assignEach (tg :: tgs) X.env).map (·.2) = assign tg X.env :: (assignEach tgs X.env).map (·.2) := by rfl) : PGs X (tg :: tgs) (tGws X.K T vs Γ M (d :: ds) Γ2) :=
  wkGs (pgs_cons h1 h2 hs) fun v σ H Q ⟨As, S, r, q⟩ => by
    cases r with
    | cons r1 r2 => exact ⟨_, _, rfl, As, S, r1, fun σ1 w1 S1 => ⟨As, S1, r2, fun σ2 w2 S2 => q σ2 (w2.trans w1) S2⟩⟩
theorem gw_tup {k n : Nat} (hc : X.calm = true) (h : PGs X tgs (tGws X.K T vs Γ M ds Γ')) (hl : ds.length = n) (hn : (assignEach tgs X.env).length = n := by rfl) (hst : (assignEach tgs X.env).findIdx? (·.1) = none := by rfl) : PG X (.Tuple tgs k pos) (tGw X.K T vs Γ M (.tup ds) Γ') :=
  wkG (pg_tup hc h hn hst) fun v σ H Q ⟨As, S, r, q⟩ => by
    obtain ⟨a, us, rfl, ha, rl⟩ := r.tupAt
    exact ⟨a, us, rfl, ha, by rw [rl.length, hl], As, S, rl, q⟩
theorem anyTs {ι : Type} {t : ι → TT} (h : ∀ i, PTs X ifs (t i)) : PTs X ifs (fun σ H Q => ∃ i, t i σ H Q) := ⟨fun pins s σ H Q I ⟨i, q⟩ => (h i).run pins s σ H Q I q⟩
theorem wkTs {t t' : TT} (h : PTs X ifs t) (w : ∀ σ H Q, t' σ H Q → t σ H Q) : PTs X ifs t' := ⟨fun pins s σ H Q I q => h.run pins s σ H Q I (w σ H Q q)⟩
theorem ts_nil : PTs X [] (tT X.K T Γ M true M) := wkTs pts_nil fun σ H Q ⟨As, S, q⟩ => q As H Ch.refl S
theorem ts_one {z : Bool} (h : PT X c (tT X.K T Γ M z M1)) : PTs X [c] (tT X.K T Γ M z M1) := pts_one h
theorem neverTs : PTs X ifs (fun _ _ _ => False) := ⟨fun _ _ _ _ _ _ q => q.elim⟩
/-- what a comprehension has gathered behind i items -/
def lcd (zs : Nat → Bool) (ws : Nat → D) : Nat → List D
  | 0 => []
  | i + 1 => if zs i = true then lcd zs ws i ++ [ws i] else lcd zs ws i
theorem lcd_len (zs : Nat → Bool) (ws : Nat → D) : ∀ i, (lcd zs ws i).length ≤ i
  | 0 => Nat.le_refl _
  | i + 1 => by
    have ih := lcd_len zs ws i
    unfold lcd
    split
    · rw [List.length_append]
      show _ + 1 ≤ _
      omega
    · omega
/-- [elt for tg in iter if ..], as a new cell; in a turn the cell stands behind all others -/
theorem tLc_of {K : PySem.W.Frag} {σ : L2.St} {H : Hp} {Q : VK} (Ms Mt : Nat → List Ce) (Γt : Nat → List (Option D)) (zs : Nat → Bool) (ws : Nat → D) (n0 : Nat) (hMs : ∀ i, i ≤ ds.length → (Ms i).length = n0) (hMt : ∀ i, i < ds.length → (Mt i).length = n0) (hzf : ∀ i, i < ds.length → zs i = false → Mt i = Ms (i + 1)) (hlen : ds.length ≤ 50000) {kc : Option Nat} (hkc : ∀ k, kc = some k → ∀ i, i ≤ ds.length → (Ms i)[k]? = some (.lst ds))
    (h : tE K T Γ M (.cel n0) (Ms ds.length ++ [.lst (lcd zs ws ds.length)]) σ H Q) :
    tLc (tIc K T Γ M kc ds (Ms 0)) (fun v σ H Q => ∃ i : { q : Nat × D × Ce // ds[q.1]? = some q.2.1 }, tGw K T vs (wipeG Γ vs) (Ms i.1.1 ++ [i.1.2.2]) i.1.2.1 (Γt i.1.1) v σ H Q)
      (fun σ H Q => ∃ i : { q : Nat × Ce // q.1 < ds.length }, tT K T (Γt i.1.1) (Ms i.1.1 ++ [i.1.2]) (zs i.1.1) (Mt i.1.1 ++ [i.1.2]) σ H Q)
      (fun σ H Q => ∃ i : { q : Nat × Ce // q.1 < ds.length ∧ zs q.1 = true }, tE K T (Γt i.1.1) (Mt i.1.1 ++ [i.1.2]) (ws i.1.1) (Ms (i.1.1 + 1) ++ [i.1.2]) σ H Q) vs σ H Q := by
  obtain ⟨As, S, q⟩ := h
  refine ⟨As, S, fun As1 J H1 c1 S1 wk Dl hD => ?_⟩
  have l0 : As1.length = n0 := by rw [S1.alen]; exact hMs 0 (Nat.zero_le _)
  -- the new list is a cell
  refine ⟨fun i k H' => k = ds.length - i ∧ i ≤ ds.length ∧ ∃ B, Ch As1 H1 (As1 ++ Dl :: B) H' ∧ Sta K T (As1 ++ Dl :: B) (Ms i ++ [.lst (lcd zs ws i)]) H' σ Γ, ⟨ds.length - 0, rfl, Nat.zero_le _, [], Ch.cell hD, ?_⟩, fun i k H' ⟨hk, hi, B, cc, S'⟩ => ?_⟩
  · exact S1.newCell hD (.lst upd_same .nil)
  · have lB : B = [] := by
      have e := S'.alen
      rw [List.length_append, List.length_append, List.length_cons, l0, hMs i hi] at e
      have : B.length = 0 := by
        simp only [List.length_singleton] at e
        omega
      exact List.length_eq_zero_iff.mp this
    subst lB
    have hDat : (As1 ++ [Dl])[n0]? = some Dl := by rw [← l0, List.getElem?_append_right (Nat.le_refl _), Nat.sub_self]; rfl
    have cf : CF K kc ds (As1 ++ [Dl]) H' := S'.cf fun k hk => by
      have z := hkc k hk i hi
      rw [List.getElem?_append_left (List.getElem?_eq_some_iff.mp z).1]
      exact z
    by_cases hlt : i < ds.length
    · obtain ⟨d, hd⟩ : ∃ d, ds[i]? = some d := ⟨_, List.getElem?_eq_getElem hlt⟩
      refine Or.inr ⟨wk.go _ H' i d cc cf hd, fun H2 => ∃ B, Ch As1 H1 (As1 ++ Dl :: B) H2 ∧ Sta K T (As1 ++ Dl :: B) (Ms (i + 1) ++ [.lst (lcd zs ws (i + 1))]) H2 σ Γ, fun H2 ⟨B, z1, z2⟩ => ⟨ds.length - (i + 1), by omega, rfl, hlt, B, z1, z2⟩, ?_⟩
      intro x H'' hy
      obtain ⟨st, rx⟩ := wk.yld _ H' i d x H'' cc cf (fun p hp => S'.fresh hp) hd hy
      have S2 : Sta K T (As1 ++ [Dl]) (Ms i ++ [.lst (lcd zs ws i)]) H'' σ Γ := st.sta S'
      have c2 : Ch As1 H1 (As1 ++ [Dl]) H'' := cc.trans st.ch
      refine ⟨⟨(i, d, .lst (lcd zs ws i)), hd⟩, _, S2.wipe vs, rx, fun σ2 w2 S3 => ⟨by rw [w2]; exact wipe_wipe vs vs fun _ z => z, ⟨(i, .lst (lcd zs ws i)), hlt⟩, _, S3, fun As4 H4 c4 S4 => ?_⟩⟩
      have hB4 : ∀ {Asx : List Addr} {Hx : Hp}, Ch (As1 ++ [Dl]) H'' Asx Hx → ∃ B, Asx = As1 ++ Dl :: B := fun {Asx Hx} cx => by
        obtain ⟨B, e⟩ := cx.pre
        exact ⟨B, by rw [e, List.append_assoc]; rfl⟩
      have hback : ∀ {Asx : List Addr} {Hx : Hp} {Mx : List Ce} {τ : L2.St} {Γx : List (Option D)}, Ch (As1 ++ [Dl]) H'' Asx Hx → Sta K T Asx Mx Hx τ Γx → Sta K T Asx Mx Hx σ Γ := fun {Asx Hx Mx τ Γx} cx Sx => Sx.slots S2.slen fun j dd hj => by
        obtain ⟨u, hu, r⟩ := S2.slot j dd hj
        exact ⟨u, hu, r.mono cx⟩
      cases hz : zs i with
      | false =>
        refine iteF ?_
        obtain ⟨B, rfl⟩ := hB4 c4
        refine ⟨B, c2.trans c4, ?_⟩
        have e : lcd zs ws (i + 1) = lcd zs ws i := by
          show (if zs i = true then _ else _) = _
          rw [hz]
          exact if_neg Bool.false_ne_true
        have S4' := hback c4 S4
        rw [e]
        have em : Mt i = Ms (i + 1) := hzf i hlt hz
        have S5 : Sta K T (As1 ++ Dl :: B) (Mt i ++ [.lst (lcd zs ws i)]) H4 σ Γ := S4'
        rw [em] at S5
        exact S5
      | true =>
        refine iteT ⟨⟨(i, .lst (lcd zs ws i)), hlt, hz⟩, As4, S4, fun As5 y H5 c5 S5 r5 => ?_⟩
        have c45 := c4.trans c5
        obtain ⟨B, e5⟩ := hB4 c45
        have hD5 : As5[n0]? = some Dl := c45.get hDat
        have hc5 : (Ms (i + 1) ++ [Ce.lst (lcd zs ws i)])[n0]? = some (.lst (lcd zs ws i)) := by
          rw [← hMs (i + 1) hlt, List.getElem?_append_right (Nat.le_refl _), Nat.sub_self]
          rfl
        obtain ⟨b, hb, ce⟩ := S5.cell n0 (.lst (lcd zs ws i)) hc5
        rw [hD5] at hb
        cases hb
        cases ce with
        | lst h5 rl =>
          rename_i acc
          have cw : ∀ o, Ch As5 H5 As5 (upd H5 Dl o) := fun o => Ch.write (List.mem_of_getElem? hD5) h5 (fun _ z => nomatch z)
          refine ⟨acc, h5, Nat.lt_of_lt_of_le (by rw [rl.length]; have := lcd_len zs ws i; omega : acc.length < 100000) (by decide), B, ?_, ?_⟩
          · rw [← e5]
            exact (c2.trans c45).trans (cw _)
          · have hw := (hback c45 S5).write (o := .lst (acc ++ [y])) (c := .lst (lcd zs ws i ++ [ws i])) hD5 (c0 := .lst (lcd zs ws i)) hc5 (.lst upd_same ((rl.mono (cw _)).append (.cons (r5.mono (cw _)) .nil)))
            have e : lcd zs ws (i + 1) = lcd zs ws i ++ [ws i] := by
              show (if zs i = true then _ else _) = _
              rw [hz]
              exact if_pos rfl
            rw [e, ← e5]
            have em : (Ms (i + 1) ++ [Ce.lst (lcd zs ws i)]).set n0 (.lst (lcd zs ws i ++ [ws i])) = Ms (i + 1) ++ [.lst (lcd zs ws i ++ [ws i])] := by
              rw [← hMs (i + 1) hlt, List.set_append_right _ _ (Nat.le_refl _), Nat.sub_self]
              rfl
            rw [em] at hw
            exact hw
    · have e : i = ds.length := by omega
      subst e
      exact Or.inl ⟨wk.stop _ H' cc cf, q _ _ H' (c1.trans cc) S' (.cel hDat)⟩
/-- [elt for tg in iter if ..]: a new cell -/
theorem c_lc {scope : Scope} {own : List (Str × Nat)} (Ms Mt : Nat → List Ce) (Γt : Nat → List (Option Bs.D)) (zs : Nat → Bool) (ws : Nat → Bs.D) (n0 : Nat) (hc : X.calm = true) (hN : X.N.Nodup) {kc : Option Nat} (hi : PI X tg iter (tIc X.K T Γ M kc ds (Ms 0))) (ok : BlkOk X.N X.env.scope scope own)
    (hMs : ∀ i, i ≤ ds.length → (Ms i).length = n0) (hMt : ∀ i, i < ds.length → (Mt i).length = n0) (hzf : ∀ i, i < ds.length → zs i = false → Mt i = Ms (i + 1)) (hlen : ds.length ≤ 50000)
    (hg : ∀ (i : Nat) d g, ds[i]? = some d → ∀ (s : Shared) (H : Hp) (C : Addr) (cl : List (Str × Addr)) (fp : List Addr), PG (X.blk s H scope (compEnvC scope cl C X.env) fp) tg (tGw X.K T (own.map (·.2)) (wipeG Γ (own.map (·.2))) (Ms i ++ [g]) d (Γt i)))
    (ht : ∀ (i : Nat) g, i < ds.length → ∀ (s : Shared) (H : Hp) (C : Addr) (cl : List (Str × Addr)) (fp : List Addr), PTs (X.blk s H scope (compEnvC scope cl C X.env) fp) ifs (tT X.K T (Γt i) (Ms i ++ [g]) (zs i) (Mt i ++ [g])))
    (he : ∀ (i : Nat) g, i < ds.length → zs i = true → ∀ (s : Shared) (H : Hp) (C : Addr) (cl : List (Str × Addr)) (fp : List Addr), PE (X.blk s H scope (compEnvC scope cl C X.env) fp) elt (tE X.K T (Γt i) (Mt i ++ [g]) (ws i) (Ms (i + 1) ++ [g])))
    (hs : ∀ x, foldedSetIterable iter X.env x = pure x := by intro _; rfl) (hkc : ∀ k, kc = some k → ∀ i, i ≤ ds.length → (Ms i)[k]? = some (.lst ds) := by intro _ h; cases h) : PE X (.ListComp elt [⟨tg, iter, ifs, 0⟩] scope pos) (tE X.K T Γ M (.cel n0) (Ms ds.length ++ [.lst (lcd zs ws ds.length)])) :=
  wkE (pe_lc hc hN hi ok (fun s H C cl fp => anyG fun i => hg i.1.1 i.1.2.1 i.1.2.2 i.2 s H C cl fp) (fun s H C cl fp => anyTs fun i => ht i.1.1 i.1.2 i.2 s H C cl fp) (fun s H C cl fp => anyE fun i => he i.1.1 i.1.2 i.2.1 i.2.2 s H C cl fp) hs) fun σ H Q h =>
    tLc_of Ms Mt Γt zs ws n0 hMs hMt hzf hlen hkc h
/-- y = [elt for tg in iter if ..], y a local of the line -/
theorem s_lc {i : Nat} {y : Str} {py spos : Pos} {scope : Scope} {own : List (Str × Nat)} (Ms Mt : Nat → List Ce) (Γt : Nat → List (Option Bs.D)) (zs : Nat → Bool) (ws : Nat → Bs.D) (n0 : Nat) (hc : X.calm = true) (hN : X.N.Nodup) (hy : X.N[i]? = some y) (hyl : X.env.scope.names.lookup y = some .local) (hyi : i < Γ.length)
    (hsw : swapsWith (.ListComp elt [⟨tg, iter, ifs, 0⟩] scope pos) (some (.Name y py)) spos.line X.env = pure true) {kc : Option Nat} (hi : PI X tg iter (tIc X.K T Γ M kc ds (Ms 0))) (ok : BlkOk X.N X.env.scope scope own)
    (hMs : ∀ i, i ≤ ds.length → (Ms i).length = n0) (hMt : ∀ i, i < ds.length → (Mt i).length = n0) (hzf : ∀ i, i < ds.length → zs i = false → Mt i = Ms (i + 1)) (hlen : ds.length ≤ 50000)
    (hg : ∀ (i : Nat) d g, ds[i]? = some d → ∀ (s : Shared) (H : Hp) (C : Addr) (cl : List (Str × Addr)) (fp : List Addr), PG (X.blk s H scope (compEnvC scope cl C X.env) fp) tg (tGw X.K T (own.map (·.2)) (wipeG Γ (own.map (·.2))) (Ms i ++ [g]) d (Γt i)))
    (ht : ∀ (i : Nat) g, i < ds.length → ∀ (s : Shared) (H : Hp) (C : Addr) (cl : List (Str × Addr)) (fp : List Addr), PTs (X.blk s H scope (compEnvC scope cl C X.env) fp) ifs (tT X.K T (Γt i) (Ms i ++ [g]) (zs i) (Mt i ++ [g])))
    (he : ∀ (i : Nat) g, i < ds.length → zs i = true → ∀ (s : Shared) (H : Hp) (C : Addr) (cl : List (Str × Addr)) (fp : List Addr), PE (X.blk s H scope (compEnvC scope cl C X.env) fp) elt (tE X.K T (Γt i) (Mt i ++ [g]) (ws i) (Ms (i + 1) ++ [g])))
    (hs : ∀ x, foldedSetIterable iter X.env x = pure x := by intro _; rfl) (hkc : ∀ k, kc = some k → ∀ i, i ≤ ds.length → (Ms i)[k]? = some (.lst ds) := by intro _ h; cases h) : PS X (.Assign [.Name y py] (.ListComp elt [⟨tg, iter, ifs, 0⟩] scope pos) spos) (tS X.K T W Γ M (.nx (Γ.set i (some (.cel n0))) (Ms ds.length ++ [.lst (lcd zs ws ds.length)]))) :=
  wkS (ps_setLc hc hN hy hyl hsw hi ok (fun s H C cl fp => anyG fun i => hg i.1.1 i.1.2.1 i.1.2.2 i.2 s H C cl fp) (fun s H C cl fp => anyTs fun i => ht i.1.1 i.1.2 i.2 s H C cl fp) (fun s H C cl fp => anyE fun i => he i.1.1 i.1.2 i.2.1 i.2.2 s H C cl fp) hs) fun Dn σ H ⟨As, S, q⟩ =>
    tLc_of Ms Mt Γt zs ws n0 hMs hMt hzf hlen hkc ⟨As, S, fun As1 v H1 c1 S1 r1 => q As1 H1 _ c1 (S1.store hyi r1)⟩
/-- .. as a datum -/
theorem e_lc {scope : Scope} {own : List (Str × Nat)} (Ms Mt : Nat → List Ce) (Γt : Nat → List (Option Bs.D)) (zs : Nat → Bool) (ws : Nat → Bs.D) (n0 : Nat) (hc : X.calm = true) (hN : X.N.Nodup) {kc : Option Nat} (hi : PI X tg iter (tIc X.K T Γ M kc ds (Ms 0))) (ok : BlkOk X.N X.env.scope scope own)
    (hMs : ∀ i, i ≤ ds.length → (Ms i).length = n0) (hMt : ∀ i, i < ds.length → (Mt i).length = n0) (hzf : ∀ i, i < ds.length → zs i = false → Mt i = Ms (i + 1)) (hlen : ds.length ≤ 50000) (hl : M.length ≤ n0) (hM : ClM M → ClM (Ms ds.length)) (hcl : clL n0 (lcd zs ws ds.length) = true)
    (hg : ∀ (i : Nat) d g, ds[i]? = some d → ∀ (s : Shared) (H : Hp) (C : Addr) (cl : List (Str × Addr)) (fp : List Addr), PG (X.blk s H scope (compEnvC scope cl C X.env) fp) tg (tGw X.K T (own.map (·.2)) (wipeG Γ (own.map (·.2))) (Ms i ++ [g]) d (Γt i)))
    (ht : ∀ (i : Nat) g, i < ds.length → ∀ (s : Shared) (H : Hp) (C : Addr) (cl : List (Str × Addr)) (fp : List Addr), PTs (X.blk s H scope (compEnvC scope cl C X.env) fp) ifs (tT X.K T (Γt i) (Ms i ++ [g]) (zs i) (Mt i ++ [g])))
    (he : ∀ (i : Nat) g, i < ds.length → zs i = true → ∀ (s : Shared) (H : Hp) (C : Addr) (cl : List (Str × Addr)) (fp : List Addr), PE (X.blk s H scope (compEnvC scope cl C X.env) fp) elt (tE X.K T (Γt i) (Mt i ++ [g]) (ws i) (Ms (i + 1) ++ [g])))
    (hs : ∀ x, foldedSetIterable iter X.env x = pure x := by intro _; rfl) (hkc : ∀ k, kc = some k → ∀ i, i ≤ ds.length → (Ms i)[k]? = some (.lst ds) := by intro _ h; cases h) : PE X (.ListComp elt [⟨tg, iter, ifs, 0⟩] scope pos) (tE X.K T Γ M (.lst (lcd zs ws ds.length)) (Ms ds.length)) :=
  wkE (c_lc Ms Mt Γt zs ws n0 hc hN hi ok hMs hMt hzf hlen hg ht he hs hkc) fun σ H Q h => frz_of (hMs _ (Nat.le_refl _)) hl hM hcl h
theorem s_lcD {i : Nat} {y : Str} {py spos : Pos} {scope : Scope} {own : List (Str × Nat)} (Ms Mt : Nat → List Ce) (Γt : Nat → List (Option Bs.D)) (zs : Nat → Bool) (ws : Nat → Bs.D) (n0 : Nat) (hc : X.calm = true) (hN : X.N.Nodup) (hy : X.N[i]? = some y) (hyl : X.env.scope.names.lookup y = some .local) (hyi : i < Γ.length)
    (hsw : swapsWith (.ListComp elt [⟨tg, iter, ifs, 0⟩] scope pos) (some (.Name y py)) spos.line X.env = pure true) {kc : Option Nat} (hi : PI X tg iter (tIc X.K T Γ M kc ds (Ms 0))) (ok : BlkOk X.N X.env.scope scope own)
    (hMs : ∀ i, i ≤ ds.length → (Ms i).length = n0) (hMt : ∀ i, i < ds.length → (Mt i).length = n0) (hzf : ∀ i, i < ds.length → zs i = false → Mt i = Ms (i + 1)) (hlen : ds.length ≤ 50000) (hl : M.length ≤ n0) (hM : ClM M → ClM (Ms ds.length)) (hcl : clL n0 (lcd zs ws ds.length) = true)
    (hg : ∀ (i : Nat) d g, ds[i]? = some d → ∀ (s : Shared) (H : Hp) (C : Addr) (cl : List (Str × Addr)) (fp : List Addr), PG (X.blk s H scope (compEnvC scope cl C X.env) fp) tg (tGw X.K T (own.map (·.2)) (wipeG Γ (own.map (·.2))) (Ms i ++ [g]) d (Γt i)))
    (ht : ∀ (i : Nat) g, i < ds.length → ∀ (s : Shared) (H : Hp) (C : Addr) (cl : List (Str × Addr)) (fp : List Addr), PTs (X.blk s H scope (compEnvC scope cl C X.env) fp) ifs (tT X.K T (Γt i) (Ms i ++ [g]) (zs i) (Mt i ++ [g])))
    (he : ∀ (i : Nat) g, i < ds.length → zs i = true → ∀ (s : Shared) (H : Hp) (C : Addr) (cl : List (Str × Addr)) (fp : List Addr), PE (X.blk s H scope (compEnvC scope cl C X.env) fp) elt (tE X.K T (Γt i) (Mt i ++ [g]) (ws i) (Ms (i + 1) ++ [g])))
    (hs : ∀ x, foldedSetIterable iter X.env x = pure x := by intro _; rfl) (hkc : ∀ k, kc = some k → ∀ i, i ≤ ds.length → (Ms i)[k]? = some (.lst ds) := by intro _ h; cases h) : PS X (.Assign [.Name y py] (.ListComp elt [⟨tg, iter, ifs, 0⟩] scope pos) spos) (tS X.K T W Γ M (.nx (Γ.set i (some (.lst (lcd zs ws ds.length)))) (Ms ds.length))) :=
  wkS (ps_setLc hc hN hy hyl hsw hi ok (fun s H C cl fp => anyG fun i => hg i.1.1 i.1.2.1 i.1.2.2 i.2 s H C cl fp) (fun s H C cl fp => anyTs fun i => ht i.1.1 i.1.2 i.2 s H C cl fp) (fun s H C cl fp => anyE fun i => he i.1.1 i.1.2 i.2.1 i.2.2 s H C cl fp) hs) fun Dn σ H ⟨As, S, q⟩ =>
    tLc_of Ms Mt Γt zs ws n0 hMs hMt hzf hlen hkc (frz_of (hMs _ (Nat.le_refl _)) hl hM hcl ⟨As, S, fun As1 v H1 c1 S1 r1 => q As1 H1 _ c1 (S1.store hyi r1)⟩)
theorem lcd_all {zs : Nat → Bool} {ws : Nat → D} (hz : ∀ i, zs i = true) : ∀ n, lcd zs ws n = (List.range n).map ws
  | 0 => rfl
  | n + 1 => by
    show (if zs n = true then _ else _) = _
    rw [if_pos (hz n), lcd_all hz n, List.range_succ, List.map_append]
    rfl
theorem lcd_map {α : Type} {f : α → D} {xs : List α} {zs : Nat → Bool} {ws : Nat → D} (hz : ∀ i, zs i = true) (hw : ∀ (i : Nat) x, xs[i]? = some x → ws i = f x) : lcd zs ws xs.length = xs.map f := by
  rw [lcd_all hz]
  refine List.ext_getElem? fun i => ?_
  by_cases hi : i < xs.length
  · rw [List.getElem?_map, List.getElem?_map, List.getElem?_range hi, List.getElem?_eq_getElem hi]
    show some (ws i) = some (f xs[i])
    rw [hw i _ (List.getElem?_eq_getElem hi)]
  · rw [List.getElem?_eq_none (by simpa using hi), List.getElem?_eq_none (by simpa using hi)]
/-- with a test: what is kept, in order -/
theorem lcd_filter {α : Type} {f : α → D} {q : α → Bool} {xs : List α} {zs : Nat → Bool} {ws : Nat → D} (hz : ∀ (i : Nat) x, xs[i]? = some x → zs i = q x) (hw : ∀ (i : Nat) x, xs[i]? = some x → q x = true → ws i = f x) : lcd zs ws xs.length = (xs.filter q).map f := by
  have key : ∀ n, n ≤ xs.length → lcd zs ws n = ((xs.take n).filter q).map f := by
    intro n
    induction n with
    | zero => intro _; rfl
    | succ n ih =>
      intro hn
      have hx : xs[n]? = some xs[n] := List.getElem?_eq_getElem hn
      have e : xs.take (n + 1) = xs.take n ++ [xs[n]] := by rw [List.take_succ, hx]; rfl
      rw [e, List.filter_append, List.map_append]
      show (if zs n = true then _ else _) = _
      rw [ih (by omega), hz n _ hx]
      cases hq : q xs[n] with
      | true => simp [hq, hw n _ hx hq]
      | false => simp [hq]
  rw [key _ (Nat.le_refl _), List.take_length]
end
end Bs
namespace Bs
open PySem PySem.Spec PyProof.Rows L2 LamX
section
variable {X : Cx} {T : List (Addr × Str)} {Γ Γ1 Γ2 Γ' : List (Option D)} {M M1 M2 M3 M' : List Ce} {a b c e tg elt iter : Expr} {es tgs ifs : List Expr} {d d1 d2 : D} {ds ws xs : List D} {p pos : Pos} {x : Str} {W : WX} {st : Stmt} {sts rest : List Stmt} {o : Out} {z : Bool}
theorem ev (i : Nat) (hd : Γ[i]? = some (some d)) (hN : X.N[i]? = some x := by rfl) (hv : Vis X.env.scope x := by first | exact Or.inl rfl | exact Or.inr (Or.inl rfl) | exact Or.inr (Or.inr rfl)) (hdb : (x == ("__debug__" : Str)) = false := by decide) (hcd : (x == ("__classdict__" : Str)) = false := by decide) :
    PE X (.Name x pos) (tE X.K T Γ M d M) := e_var hd hN hv hdb hcd
theorem gv (i : Nat) (hN : X.N.Nodup) (hi : X.N[i]? = some x := by rfl) (hx : Loc X.env.scope x := by first | exact Or.inl rfl | exact Or.inr rfl) (hi' : i < Γ.length := by exact Nat.le_of_ble_eq_true rfl) (hf : X.fn x = true ∨ X.env.scope.names.lookup x = some .local := by first | exact .inl rfl | exact .inr rfl | assumption) :
    PG X (.Name x pos) (tG X.K T Γ M d (Γ.set i (some d)) M) := g_name hi' hN hi hx hf
theorem gwv (i : Nat) {vs : List Nat} (hN : X.N.Nodup) (hi : X.N[i]? = some x := by rfl) (hv : i ∈ vs := by decide) (hx : Loc X.env.scope x := by first | exact Or.inl rfl | exact Or.inr rfl) (hi' : i < Γ.length := by exact Nat.le_of_ble_eq_true rfl) (hf : X.fn x = true ∨ X.env.scope.names.lookup x = some .local := by first | exact .inl rfl | exact .inr rfl | assumption) :
    PG X (.Name x pos) (tGw X.K T vs Γ M d (Γ.set i (some d))) := gw_name hv hi' hN hi hx hf
/-- o[i] = .. on a cell -/
theorem gs (k : Nat) {i : Expr} {j : Nat} {n : Int} (ho : PE X a (tE X.K T Γ M (.cel k) M1)) (hi : PE X i (tE X.K T Γ M1 (.int n) M2)) (hk : M2[k]? = some (.lst xs)) (hj : ixN xs.length n = some j) (ha : ∀ v, assign (.Subscript a i pos) X.env v = (do let ov ← holding [v] (eval a X.env); let iv ← holding [v, ov] (eval i X.env); standAt pos; holding [v, ov, iv] (setItem ov iv v); release [v, ov, iv] []) := by intro _; rfl) : PG X (.Subscript a i pos) (tG X.K T Γ M d Γ (M2.set k (.lst (xs.set j d)))) :=
  g_subL ho hi hk hj (pg_sub ho hi set_list ha)
theorem nx_eq {sts : List Stmt} (h : PSs X sts (tS X.K T W Γ M o)) (h1 : Γ1 = Γ) (h2 : M1 = M) : PSs X sts (tS X.K T W Γ1 M1 o) := b_eq h h1 h2
theorem b_cons' (h1 : PS X st (tS X.K T W Γ M (.nx Γ1 M1))) (hM : M1 = M2) (h2 : PSs X sts (tS X.K T W Γ1 M2 o)) : PSs X (st :: sts) (tS X.K T W Γ M o) := by
  subst hM
  exact b_cons h1 h2
theorem Exit.mk0 {M'' : List Ce} {d' : D} (hd : d = d') (hM : M'' = M') (hc : d'.cl M'.length = true) : Exit M' (.rt d M'') (.val d') := by
  subst hd hM
  have h := Exit.dat (M' := M'') (G := []) hc
  rw [List.append_nil] at h
  exact h
theorem Exit.mkG {M'' G : List Ce} {d' : D} (hd : d = d') (hM : M'' = M' ++ G) (hc : d'.cl M'.length = true) : Exit M' (.rt d M'') (.val d') := by
  subst hd hM
  exact Exit.dat hc
theorem out_rt {M'' : List Ce} {d' : D} {K : PySem.W.Frag} (hb : PSs X sts (tS K T W Γ M (.rt d M''))) (hd : d = d') (hM : M'' = M') (hc : d'.cl M'.length = true) : ∃ u, Exit M' u (.val d') ∧ PSs X sts (tS K T W Γ M u) := ⟨_, Exit.mk0 hd hM hc, hb⟩
theorem out_rtG {M'' G : List Ce} {d' : D} {K : PySem.W.Frag} (hb : PSs X sts (tS K T W Γ M (.rt d M''))) (hd : d = d') (hM : M'' = M' ++ G) (hc : d'.cl M'.length = true) : ∃ u, Exit M' u (.val d') ∧ PSs X sts (tS K T W Γ M u) := ⟨_, Exit.mkG hd hM hc, hb⟩
theorem LV.clI (l : LV M d ds) (hM : ClM M) (hd : d.cl M.length = true) : clL M.length ds = true := by
  rcases l with rfl | ⟨k, rfl, hk⟩
  · exact hd
  · exact hM _ (List.mem_of_getElem? hk)
theorem clL_at {n i : Nat} (h : clL n ds = true) (hi : ds[i]? = some d) : d.cl n = true := clL_iff.mp h d (List.mem_of_getElem? hi)
/-! ### methods of built-in types -/
def TyD (M : List Ce) (d : D) (t : String) : Prop := (t = "list" ∧ ∃ ds, LV M d ds) ∨ (t = "str" ∧ ∃ y, d = .str y) ∨ (t = "int" ∧ ∃ y, d = .int y) ∨ (t = "dict" ∧ ((∃ kvs, d = .dct kvs) ∨ ∃ (k : Nat) (kvs : List (Key × D)), d = .cel k ∧ M[k]? = some (.dct kvs)))
theorem TyD.l (l : LV M d ds) : TyD M d "list" := .inl ⟨rfl, ds, l⟩
theorem TyD.s {y : Str} : TyD M (.str y) "str" := .inr (.inl ⟨rfl, y, rfl⟩)
theorem TyD.i {y : Int} : TyD M (.int y) "int" := .inr (.inr (.inl ⟨rfl, y, rfl⟩))
theorem TyD.dc {k : Nat} {kvs : List (Key × D)} (h : M[k]? = some (.dct kvs)) : TyD M (.cel k) "dict" := .inr (.inr (.inr ⟨rfl, .inr ⟨k, kvs, rfl, h⟩⟩))
theorem TyD.dd {kvs : List (Key × D)} : TyD M (.dct kvs) "dict" := .inr (.inr (.inr ⟨rfl, .inl ⟨kvs, rfl⟩⟩))
theorem TyD.at {K : PySem.W.Frag} {As : List Addr} {H : Hp} {σ : L2.St} {v : V} {t : String} (h : TyD M d t) (S : Sta K T As M H σ Γ) (r : Rp K As H v d) : tyV K t v H := by
  rcases h with ⟨rfl, ds, l⟩ | ⟨rfl, y, rfl⟩ | ⟨rfl, y, rfl⟩ | ⟨rfl, ⟨kvs, rfl⟩ | ⟨k, kvs, rfl, hk⟩⟩
  · obtain ⟨a, vs, rfl, ha, _⟩ := l.at S r
    exact .inl ⟨rfl, vs, SqL.of ha⟩
  · cases r
    rfl
  · cases r
    rfl
  · cases r with
    | dct _ h _ => exact .inr (.inr (.inl ⟨rfl, .inl ⟨_, h⟩⟩))
  · cases r with
    | cel ha =>
      obtain ⟨b, hb, c⟩ := S.cell k _ hk
      rw [ha] at hb
      cases hb
      cases c with
      | dct h _ => exact .inr (.inr (.inl ⟨rfl, .inl ⟨_, h⟩⟩))
def MtE (K : PySem.W.Frag) (T : List (Addr × Str)) (r : V → List V → Hp → VK → Prop) (d1 : D) (ds : List D) (M : List Ce) (d : D) (M' : List Ce) : Prop := ∀ (As : List Addr) (σ : L2.St) (Γ : List (Option D)) (H : Hp) (v : V) (vs : List V) (Q : VK), Sta K T As M H σ Γ → Rp K As H v d1 → RpL K As H vs ds →
  (∀ As' v H', Ch As H As' H' → Sta K T As' M' H' σ Γ → Rp K As' H' v d → Q v H') → r v vs H Q
/-- o.name(e, ..), by the data -/
structure MetE (X : Cx) (T : List (Addr × Str)) (id : String) (d1 : D) (ds : List D) (M : List Ce) (d : D) (M' : List Ce) : Prop where
  ex : ∃ r, MtR X id r ∧ MtE X.K T r d1 ds M d M'
theorem e_bm {t id : String} {name : Str} {apos cpos : Pos} (pa : PlainAttrs t) (slot : Slot t name id) (hty : typeOf (.builtin id) = pure (.type "method_descriptor")) (ho : PE X a (tE X.K T Γ M d1 M1)) (ht : TyD M1 d1 t) (ha : PA X (e :: es) (tA X.K T Γ M1 ds M2)) (hr : MetE X T id d1 ds M2 d M3)
    (hbase : attributeBase a name X.env (eval a X.env) = eval a X.env := by rfl)
    (hfew : ((backTo cpos (starEach (e :: es) X.env)).all (fun x => !x.1) && (backToKw cpos (keywordEach [] X.env)).all (fun x => x.1.isSome) && decide ((e :: es).length + ([] : List Keyword).length + (if ([] : List Keyword).isEmpty then 0 else 1) < 30)) = true := by rfl)
    (hline : (apos.endLine == cpos.line) = true := by rfl) (hs : starEach (e :: es) X.env = (false, eval e X.env) :: starEach es X.env := by rfl) (hplain : (backTo cpos (starEach es X.env)).any (·.1) = false := by rfl) : PE X (.Call (.Attribute a name apos) (e :: es) [] cpos) (tE X.K T Γ M d M3) := by
  obtain ⟨r, h1, h2⟩ := hr
  refine wkE (pe_bm pa slot hty h1 ho ha hbase hfew hline hs hplain) fun σ H Q ⟨As, S, q⟩ => ⟨As, S, fun As1 v H1 c1 S1 r1 => ⟨ht.at S1 r1, As1, S1, fun As2 vs H2 c2 S2 r2 => ?_⟩⟩
  exact h2 As2 σ Γ H2 v vs Q S2 (r1.mono c2) r2 fun As3 v3 H3 c3 S3 r3 => q As3 v3 H3 ((c1.trans c2).trans c3) S3 r3
theorem e_bm0 {t id : String} {name : Str} {apos cpos : Pos} (pa : PlainAttrs t) (slot : Slot t name id) (hty : typeOf (.builtin id) = pure (.type "method_descriptor")) (ho : PE X a (tE X.K T Γ M d1 M1)) (ht : TyD M1 d1 t) (hr : MetE X T id d1 [] M1 d M3)
    (hbase : attributeBase a name X.env (eval a X.env) = eval a X.env := by rfl) (hline : (apos.endLine == cpos.line) = true := by rfl) : PE X (.Call (.Attribute a name apos) [] [] cpos) (tE X.K T Γ M d M3) := by
  obtain ⟨r, h1, h2⟩ := hr
  refine wkE (pe_bm0 pa slot hty h1 ho hbase hline) fun σ H Q ⟨As, S, q⟩ => ⟨As, S, fun As1 v H1 c1 S1 r1 => ⟨ht.at S1 r1, ?_⟩⟩
  exact h2 As1 σ Γ H1 v [] Q S1 r1 .nil fun As3 v3 H3 c3 S3 r3 => q As3 v3 H3 (c1.trans c3) S3 r3
theorem mt_app {k : Nat} (hk : M[k]? = some (.lst xs)) (hl : xs.length < 100000) : MetE X T "list.append" (.cel k) [d] M .non (M.set k (.lst (xs ++ [d]))) := ⟨_, mt_append, fun As σ Γ H v vs Q S r1 r2 q => by
  obtain ⟨y, rfl, ry⟩ := r2.one
  cases r1 with
  | cel ha =>
    obtain ⟨b, hb, c⟩ := S.cell k _ hk
    rw [ha] at hb
    cases hb
    cases c with
    | lst h1 rl =>
      have cw : ∀ o, Ch As H As (upd H _ o) := fun o => Ch.write (List.mem_of_getElem? ha) h1 (fun _ z => nomatch z)
      exact ⟨_, _, y, rfl, rfl, h1, Nat.lt_of_lt_of_le (by rw [rl.length]; exact hl) (by decide), q As _ _ (cw _) (S.write ha hk (.lst upd_same ((rl.mono (cw _)).append (.cons (ry.mono (cw _)) .nil)))) .non⟩⟩
end
end Bs
namespace Bs
open PySem PySem.Spec PyProof.Rows L2 LamX
/-! ## exceptions held as values -/
theorem exV_ok {P : Program} {w : World} {H : Hp} {h : Heap} {a : Addr} {cls : Value} {dd : Option Addr} {oe : Obj} {vs : Array Value} (e : h.get? a = some oe) (z : Zc cls dd oe) (d : oe.data = .fields vs) (h1 : vs[1]? = some .none) (h2 : vs[2]? = some .none) (h5 : 4 < vs.size) : ObjOk P w H h a (ExV cls dd a) :=
  ⟨⟨oe, vs, e, z, d, h1, h2, h5⟩, ⟨oe, e⟩, fun _ _ ⟨o, v, q, r⟩ k => ⟨o, v, k o q, r⟩⟩
/-- what a class of exceptions must say for isinstance and fields -/
structure ExK (K : PySem.W.Frag) (C : Addr) : Prop where
  ga : PySem.W.findIn K (.ref C) "__getattribute__" = some (some (.builtin "BaseException.__getattribute__"))
  gg : PySem.W.findIn K (.ref C) "__getattr__" = some none
  exC : PySem.W.subIn K (.ref C) (.type "BaseException") = some true
  hdC : PySem.W.hasDictIn K C = true
  ca : PySem.W.findIn K (.ref C) "__class__" = some (some (.builtin "object.__class__"))
  cn : PySem.W.specialIn K (.builtin "object.__class__") "__get__" = some (some (.builtin "getset_descriptor.__get__"))
  ct : PySem.W.takesIn K (.builtin "object.__class__") = some true
  cm : PySem.W.mroIn K C (.type "object") = some true
  ty : PySem.W.typeIn K (.ref C) = some (.type "type")
  kp : PySem.W.keepIn K (.ref C) = true
  cl : (PySem.W.clsIn K C).isSome = true
def exKB (K : PySem.W.Frag) (C : Addr) : Bool := decide (PySem.W.findIn K (.ref C) "__getattribute__" = some (some (.builtin "BaseException.__getattribute__"))) && (decide (PySem.W.findIn K (.ref C) "__getattr__" = some none) && (decide (PySem.W.subIn K (.ref C) (.type "BaseException") = some true) && (PySem.W.hasDictIn K C &&
  (decide (PySem.W.findIn K (.ref C) "__class__" = some (some (.builtin "object.__class__"))) && (decide (PySem.W.specialIn K (.builtin "object.__class__") "__get__" = some (some (.builtin "getset_descriptor.__get__"))) && (decide (PySem.W.takesIn K (.builtin "object.__class__") = some true) &&
    (decide (PySem.W.mroIn K C (.type "object") = some true) && (decide (PySem.W.typeIn K (.ref C) = some (.type "type")) && (PySem.W.keepIn K (.ref C) && (PySem.W.clsIn K C).isSome)))))))))
theorem exKB_ok {K : PySem.W.Frag} {C : Addr} (h : exKB K C = true) : ExK K C := by
  obtain ⟨h1, h⟩ := b2 h
  obtain ⟨h2, h⟩ := b2 h
  obtain ⟨h3, h⟩ := b2 h
  obtain ⟨h4, h⟩ := b2 h
  obtain ⟨h5, h⟩ := b2 h
  obtain ⟨h6, h⟩ := b2 h
  obtain ⟨h7, h⟩ := b2 h
  obtain ⟨h8, h⟩ := b2 h
  obtain ⟨h9, h⟩ := b2 h
  obtain ⟨h10, h11⟩ := b2 h
  exact ⟨of_decide_eq_true h1, of_decide_eq_true h2, of_decide_eq_true h3, h4, of_decide_eq_true h5, of_decide_eq_true h6, of_decide_eq_true h7, of_decide_eq_true h8, of_decide_eq_true h9, h10, h11⟩
section
variable {X : Cx} {pins : List (Addr × Obj)} {σ : L2.St} {H : Hp} {s : Shared}
/-- the object and its dict -/
theorem exV_inst {a C : Addr} {dd : Option Addr} (I : Inv X pins σ H s) (h : H a = some (ExV (.ref C) dd a)) (hd : ∀ d, dd = some d → ∃ fs, H d = some (.xd fs)) : ∃ oe od, PySem.W.InstAt s.heap a oe C od := by
  obtain ⟨⟨oe, vs, e, z, dt, _⟩, _, _⟩ := I.hok a _ h
  have hn : PySem.W.notCls oe = true := by
    unfold PySem.W.notCls
    rw [dt] <;> rfl
  cases dd with
  | none => exact ⟨oe, none, e, z.1, hn, by rw [z.2]; trivial⟩
  | some d =>
    obtain ⟨fs, hx⟩ := hd d rfl
    obtain ⟨mA, hns, _⟩ := I.hok d _ hx
    obtain ⟨od, ho, _⟩ := lookIn_ns hns
    exact ⟨oe, some od, e, z.1, hn, by rw [z.2]; exact ho⟩
/-- isinstance(e, c) -/
def rIsV (K : PySem.W.Frag) : List V → Hp → VK → Prop := fun xs H Q => ∃ (a C : Addr) (dd : Option Addr) (c : V) (cv : Value) (b : Bool), xs = [.ref a, c] ∧ H a = some (ExV (.ref C) dd a) ∧ (∀ d, dd = some d → ∃ fs, H d = some (.xd fs)) ∧ ExK K C ∧ (∀ u, RelV c u → u = cv) ∧ PySem.W.kitOne K (.ref C) cv = some b ∧ Q (.bl b) H
theorem call_isV : CallR X (.builtin "isinstance") (rIsV X.K) := by
  intro pins s σ H xs us Q I r h
  obtain ⟨a, C, dd, c, cv, b, rfl, ha, hd, E, hcv, e, q⟩ := h
  cases r with
  | cons rx rr =>
    cases rr with
    | cons rt rr =>
      cases rr
      cases rx
      have ec := hcv _ rt
      subst ec
      obtain ⟨oe, od, J⟩ := exV_inst I ha hd
      exact PySem.W.kia_one (PySem.W.kitx_exc E.cl E.ga E.gg E.exC E.ca E.cn E.ct E.cm) I.kIn J e (fun z => nomatch z) fun tk => ⟨.bl b, H, I.kept (t' := tk) fun _ _ z => z, rfl, q⟩
/-- e.f -/
def tXat (K : PySem.W.Frag) (f : Str) (te : TE) : TE := fun σ H Q => te σ H fun x H1 => ∃ (a C d : Addr) (fs : List (Str × V)) (v : V), x = .ref a ∧ H1 a = some (ExV (.ref C) (some d) a) ∧ H1 d = some (.xd fs) ∧ ExK K C ∧ PySem.W.findIn K (.ref C) f = some none ∧ fs.lookup f = some v ∧ Q v H1
theorem pe_xat {e : Expr} {te : TE} {pos : Pos} {f : Str} (he : PE X e te) (hb : attributeBase e f X.env (eval e X.env) = eval e X.env := by rfl) : PE X (.Attribute e f pos) (tXat X.K f te) := by
  refine ⟨fun pins s σ H Q I h => ?_⟩
  refine attr_of hb (thn (he.run pins s σ H _ I h) fun u s1 ⟨x, H1, I1, rx, a, C, d, fs, v, ex, ha, hd, E, hno, l, q⟩ => ?_)
  subst ex
  obtain rfl : u = Value.ref a := rx
  obtain ⟨⟨oe, vs, e1, z, dt, _⟩, _, _⟩ := I1.hok a _ ha
  obtain ⟨mA, hns, hr⟩ := I1.hok d _ hd
  obtain ⟨od, ho, hl⟩ := lookIn_ns hns
  obtain ⟨u, hu, ru⟩ := RelO.some_of (v := v) (o := mA f) (by rw [← l]; exact hr f)
  have J : PySem.W.InstAt s1.heap a oe C (some od) := ⟨e1, z.1, by unfold PySem.W.notCls; rw [dt] <;> rfl, by rw [z.2]; exact ho⟩
  exact HandSPX.exc_get I1.kIn J E.ga E.gg E.exC (PySem.W.findObj_own E.hdC hno rfl (by rw [hl, hu])) (handed_of ru) ⟨v, H1, I1.tok _, ru, q⟩
/-- X(), an own exception class without own __init__ -/
theorem pe_exc0 {C : Addr} {bmB : List Value} {B newId initId : String} {x : Str} {p pos : Pos} (F : ExcBaseFacts B newId initId bmB) (q : PySem.W.excIn X.K C bmB newId = true) (gC : X.mg x = some (.ref C)) (kC : PySem.W.keepIn X.K (.ref C) = true) (hg : Gl X x) (hdb : (x == ("__debug__" : Str)) = false := by decide) :
    PE X (.Call (.Name x p) [] [] pos) (fun σ H Q => ∀ a, H a = none → Q (.ref a) (upd H a (ExV (.ref C) none a))) := by
  refine ⟨fun pins s σ H Q I h => ?_⟩
  refine wpAny_Call_Name_kw (ld_glob I hg gC ?_ hdb)
  refine PySem.W.callWith_K0 I.kIn kC ?_
  show wpAny _ _ (call (.ref C) []) _ _ _
  obtain ⟨bm, N, nm, qn, bs, hdct, sn, sub, ab, col, dd, k0, k1, k2, k3, k5, mN, hC, hN, hni, T⟩ := exc_obj I.kIn q
  refine wpAny_call_exc_subT F T hC hN hni (fun h' a hm => ?_) (by show 0 ≤ sizeLine; omega)
  have hn : H a = none := I.hok.gone hm.new
  obtain ⟨t, ht, _, _⟩ := hm.there
  exact ⟨.ref a, upd H a (ExV (.ref C) none a), I.laidN hm.keeps hm.new hn (exV_ok ht ⟨rfl, rfl⟩ rfl rfl rfl (show 4 < 6 by decide)), rfl, h a hn⟩
end
/-! ### over the data -/
/-- a class of exceptions without own __init__: where it stands -/
structure Ex0 (K : PySem.W.Frag) (mg : Str → Option Value) (x : Str) (C : Addr) : Prop where
  g : mg x = some (.ref C)
  ex : PySem.W.excIn K C He.veBase "ValueError.__new__" = true
  k : ExK K C
section
variable {X : Cx} {T : List (Addr × Str)} {Γ Γ1 Γ2 Γ' : List (Option D)} {M M1 M2 M3 M' : List Ce} {a b c e : Expr} {es : List Expr} {d d1 d2 : D} {ds ws xs : List D} {p pos : Pos} {x : Str} {W : WX} {C : Addr} {fs : List (Str × D)}
theorem e_exc0 (E : Ex0 X.K X.mg x C) (hg : Gl X x) (hdb : (x == ("__debug__" : Str)) = false := by decide) : PE X (.Call (.Name x p) [] [] pos) (tE X.K T Γ M (.exc C []) M) :=
  wkE (pe_exc0 PySem.F.excBase_ValueError E.ex E.g E.k.kp hg hdb) fun σ H Q ⟨As, S, q⟩ => fun a ha => q As _ _ (Ch.laid ha) (S.laid ha) (.exc0 (S.fresh ha) upd_same)
theorem e_exc1 (E : Ex0 X.K X.mg x C) (hg : Gl X x) (he : PE X e (tE X.K T Γ M d M1)) (hs : starEach [e] X.env = (false, eval e X.env) :: starEach [] X.env := by rfl) (hdb : (x == ("__debug__" : Str)) = false := by decide) : PE X (.Call (.Name x p) [e] [] pos) (tE X.K T Γ M (.exc C []) M1) :=
  wkE (pe_exc1 PySem.F.excBase_ValueError E.ex E.g E.k.kp hg he hs hdb) fun σ H Q ⟨As, S, q⟩ => ⟨As, S, fun As1 v H1 c1 S1 r1 => fun a ha => q As1 _ _ (c1.trans (Ch.laid ha)) (S1.laid ha) (.exc0 (S1.fresh ha) upd_same)⟩
/-- isinstance(e, c) of an exception, c an own class or a built-in one -/
theorem ca_isV {D0 : Addr} {z : Bool} (E : ExK X.K C) (h : PySem.W.kitOne X.K (.ref C) (.ref D0) = some z) : CalE X T (.builtin "isinstance") [.exc C fs, .ref D0] M (.bl z) M := ⟨_, call_isV, fun As σ Γ H vs Q S r k => by
  obtain ⟨v, u, rfl, q1, q2⟩ := r.two
  cases q2
  cases q1 with
  | exc0 _ h1 => exact ⟨_, C, none, _, .ref D0, z, rfl, h1, fun d hd => (nomatch hd), E, fun u hu => hu, h, k As _ H Ch.refl S .bl⟩
  | exc _ _ h1 h2 _ => exact ⟨_, C, some _, _, .ref D0, z, rfl, h1, fun d hd => ⟨_, by cases hd; exact h2⟩, E, fun u hu => hu, h, k As _ H Ch.refl S .bl⟩⟩
theorem ca_isVT {t : String} {z : Bool} (E : ExK X.K C) (h : PySem.W.kitOne X.K (.ref C) (.type t) = some z) : CalE X T (.builtin "isinstance") [.exc C fs, .ty t] M (.bl z) M := ⟨_, call_isV, fun As σ Γ H vs Q S r k => by
  obtain ⟨v, u, rfl, q1, q2⟩ := r.two
  cases q2
  cases q1 with
  | exc0 _ h1 => exact ⟨_, C, none, _, .type t, z, rfl, h1, fun d hd => (nomatch hd), E, fun u hu => hu, h, k As _ H Ch.refl S .bl⟩
  | exc _ _ h1 h2 _ => exact ⟨_, C, some _, _, .type t, z, rfl, h1, fun d hd => ⟨_, by cases hd; exact h2⟩, E, fun u hu => hu, h, k As _ H Ch.refl S .bl⟩⟩
theorem RpF.lookup {K : PySem.W.Frag} {As : List Addr} {H : Hp} {f : Str} : ∀ {vs : List (Str × V)} {ds : List (Str × D)} {d : D}, RpF K As H vs ds → ds.lookup f = some d → ∃ v, vs.lookup f = some v ∧ Rp K As H v d
  | _, _, _, .nil, e => by cases e
  | (k, v) :: vs, (_, d') :: ds, d, .cons r t, e => by
    rw [List.lookup_cons] at e ⊢
    cases q : f == k with
    | true =>
      rw [q] at e
      cases e
      exact ⟨v, rfl, r⟩
    | false =>
      rw [q] at e
      exact RpF.lookup t e
theorem e_xat {f : Str} (he : PE X e (tE X.K T Γ M (.exc C fs) M1)) (E : ExK X.K C) (hno : PySem.W.findIn X.K (.ref C) f = some none) (hl : fs.lookup f = some d) (hb : attributeBase e f X.env (eval e X.env) = eval e X.env := by rfl) : PE X (.Attribute e f pos) (tE X.K T Γ M d M1) :=
  wkE (pe_xat he hb) fun σ H Q ⟨As, S, q⟩ => ⟨As, S, fun As1 v H1 c1 S1 r1 => by
    cases r1 with
    | exc0 => cases hl
    | exc n1 n2 h1 h2 rf =>
      obtain ⟨v, hv, r⟩ := rf.lookup hl
      exact ⟨_, C, _, _, v, rfl, h1, h2, E, hno, hv, q As1 v H1 c1 S1 r⟩⟩
end
end Bs
namespace Bs
open PySem PySem.W PySem.Calls PyProof.Rows PySem.HandSPX
/-! ## exceptions whose __init__ says super().__init__(text), then stores its parameters -/
/-- self.f = f, one behind another -/
inductive Sets : List Str → List Stmt → Prop where
  | nil : Sets [] []
  | cons {f fs rest p1 p2 p3 p4} : Sets fs rest → Sets (f :: fs) (.Assign [.Attribute (.Name "self" p1) f p2] (.Name f p3) p4 :: rest)
/-- super().__init__(text) -/
def supB (m : Str) (j : Nat) (p0 p1 p2 p3 p4 p5 : Pos) : Stmt := .Expr (.Call (.Attribute (.Call (.Name "super" p0) [] [] p1) "__init__" p2) [.Constant (.str m) j p3] [] p4) p5
structure SupC (prog : Program) (K : Frag) (C fI : Addr) (fs : List Str) : Prop where
  oex : L2.OexC K C
  iC : findIn K (.ref C) "__init__" = some (some (.ref fI))
  tI : typeIn K (.ref fI) = some (.type "function")
  opq : nsIn K cStatics "thirdparty.any" = some none
  sup : nsIn K mainGlobals "super" = some none
  along : ks_superIn K C C "__init__" = some (some (.builtin "ValueError.__init__"))
  subV : subIn K (.ref C) (.type "ValueError") = some true
  subC : mroIn K C (.ref C) = some true
  noN : ∀ f ∈ fs, findIn K (.ref C) f = some none
  hs : fs ≠ [] ∧ fs.Nodup ∧ fs.length ≤ 5 ∧ ("self" : Str) ∉ fs
  htop : (prog.main.scope.names.lookup ("super" : Str)).isSome = false
  fn : ∃ (oc : Value) (od : Option Addr) (osl : Array (Option Value)) (qual : Str) (params : Arguments) (body : List Stmt) (scope : Scope) (kV doc pm : Value) (an : Option Addr) (cda : Addr) (ct : Value) (cc : Addr),
    K.lookup fI = some ⟨oc, od, .func (ksFn "__init__" qual params body scope .none kV doc pm an (.ref cda) ct cc), osl⟩ ∧ codeIn K (.ref cda) qual = true ∧
    (∃ ccl cdd vs ccs tf, K.lookup cda = some ⟨ccl, cdd, .fields vs, ccs⟩ ∧ vs[2]? = some (.str prog.main.file tf)) ∧ (∃ cl cld csl, K.lookup cc = some ⟨cl, cld, .cell (some (.ref C)), csl⟩) ∧
    (∃ m j p0 p1 p2 p3 p4 p5 rest, body = supB m j p0 p1 p2 p3 p4 p5 :: rest ∧ Sets fs rest ∧ (∀ env : PySem.Env, ∃ pl : Sem Bool, eval (.Call (.Attribute (.Call (.Name "super" p0) [] [] p1) "__init__" p2) [.Constant (.str m) j p3] [] p4) env = (do
      let ov ← attributeBase (.Call (.Name "super" p0) [] [] p1) "__init__" env (eval (.Call (.Name "super" p0) [] [] p1) env)
      standAt p2.atName
      let (f, first) ← holding [ov] (getMethod ov "__init__" pl)
      callWith p4 f first (backTo p4 (starEach [.Constant (.str m) j p3] env)) []))) ∧ (∃ ar, (params.posonlyargs ++ params.args).head? = some ar ∧ ar.arg = "self") ∧
    (∀ us : List Value, us.length = fs.length + 1 → bindArgs (ksFn "__init__" qual params body scope .none kV doc pm an (.ref cda) ct cc) ⟨us, []⟩ = pure (((("self" : Str)) :: fs).zip us)) ∧
    scope.kind = .function ∧ scope.isCoroutine = false ∧ scope.isGenerator = false ∧ (∀ x ∈ scope.names, x.2 ≠ .cell) ∧ (∀ x ∈ ("self" : Str) :: fs, scope.names.lookup x = some .local) ∧ scope.names.lookup ("super" : Str) = some .globalImplicit ∧ scope.names.lookup ("__class__" : Str) = some .free
/-- what is left of a made one: all that was stands; the object, its own dict -/
structure MadeI (h h' : Heap) (e C d : Addr) (fs : List Str) (vs : List Value) : Prop where
  keep : ∀ b o, b ≠ e → h.get? b = some o → h'.get? b = some o
  obj : ∃ t1 : Addr, h'.get? e = some { cls := .ref C, dict := some d, data := .fields #[.ref t1, .none, .none, .none, .bool false, .none] }
  dbig : h.objs.size ≤ d
  dne : d ≠ e
  ns : ∃ mA, h'.Ns1 d mA ∧ ∀ f, mA f = (fs.zip vs).reverse.lookup f
section
variable {prog : Program} {w : World} {A : Around} {E : Value → Shared → Prop} {K : Frag} {C fI : Addr} {fs : List Str} {env : PySem.Env}
theorem ldK {s : Shared} {m : Str → Option Value} {x : Str} {pos : Pos} {v : Value} {Q : Value → Shared → Prop} (hn : s.heap.Ns env.locals m) (hv : m x = some v) (h : Q v s) (hk : env.scope.kind = .function) (hl : env.kindOf x = some .local) (hd : (x == ("__debug__" : Str)) = false) :
    wpAny (model prog w) A (eval (.Name x pos) env) Q E s := wpAny_Name (wpAny_loadName_local hk hl hn hv h) hd
/-- the stores behind the first one -/
theorem sets_run (T : L2.OexC K C) {x t1 dx : Addr} {m : Str → Option Value} : ∀ {gs : List Str} {rest : List Stmt}, Sets gs rest → (∀ f ∈ gs, findIn K (.ref C) f = some none) → ∀ {done : List (Str × Value)} {vs : List Value} {s : Shared} {Q : Flow → Shared → Prop},
    K.In s.heap → s.heap.Ns env.locals m → env.locals ≠ x → env.locals ≠ dx → s.heap.get? x = some { cls := .ref C, dict := some dx, data := .fields #[.ref t1, .none, .none, .none, .bool false, .none] } → (∃ mA, s.heap.Ns1 dx mA ∧ ∀ f, mA f = done.lookup f) → K.lookup dx = none →
    done.length + gs.length ≤ 10 → vs.length = gs.length → (∀ (i : Nat) (f : Str) (v : Value), gs[i]? = some f → vs[i]? = some v → m f = some v) → m "self" = some (.ref x) → env.scope.kind = .function → (∀ f ∈ ("self" : Str) :: gs, env.kindOf f = some .local) → (∀ f ∈ ("self" : Str) :: gs, (f == ("__debug__" : Str)) = false) →
    (∀ h' tk, (∀ b o, b ≠ dx → s.heap.get? b = some o → h'.get? b = some o) → (∃ mA, h'.Ns1 dx mA ∧ ∀ f, mA f = ((gs.zip vs).reverse ++ done).lookup f) → Q .next { s with heap := h', toks := tk }) → wpAny (model prog w) A (execs rest env) Q E s
  | [], _, .nil, _, done, vs, s, Q, X, hn, _, _, hx, ⟨mA, hns, hm⟩, _, _, hv, _, _, _, _, _, q => by
    have e : vs = [] := List.length_eq_zero_iff.mp hv
    subst e
    exact wpAny_execs_nil (q s.heap s.toks (fun b o _ z => z) ⟨mA, hns, by simpa using hm⟩)
  | f :: gs, _, .cons hs, hno, done, vs, s, Q, X, hn, neL, neL2, hx, ⟨mA, hns, hm⟩, hKd, hsz, hv, hmv, hself, hk, hl, hd, q => by
    obtain ⟨v, vr, rfl⟩ : ∃ v vr, vs = v :: vr := by
      cases vs with
      | nil => cases hv
      | cons v vr => exact ⟨v, vr, rfl⟩
    obtain ⟨nm, qq, N, bs, bm, sn, sub, ab, col, dd, k0, k1, k2, k3, k5, hC, hbm⟩ := T.cls
    have hcl : clsIn K C = some { name := nm, bases := bs, mro := .ref C :: bm, ns := N, qualname := qq, hasDict := true, slotNames := sn, subclasses := sub, abstract := ab, collection := col, hasDel := false } := by unfold clsIn; rw [hC] <;> rfl
    have hw : Within mA (done.map (·.1)) := fun y hy => by
      rw [hm y] at hy
      cases hl : done.lookup y with
      | none => exact absurd hl hy
      | some u => exact List.mem_map.mpr ⟨(y, u), PySem.mem_of_lookup hl, rfl⟩
    obtain ⟨oD, _, _, hoD, _, _⟩ := hns.count hw
    refine wpAny_execs_cons (plainObj_wpAny_Assign_Attribute ?_)
    refine ldK (v := v) hn (hmv 0 f v rfl rfl) (ldK (v := .ref x) hn hself ?_ hk (hl _ List.mem_cons_self) (hd _ List.mem_cons_self)) hk (hl _ (List.mem_cons_of_mem _ List.mem_cons_self)) (hd _ (List.mem_cons_of_mem _ List.mem_cons_self))
    refine set_plain X (ox := { cls := .ref C, dict := some dx, data := .fields #[.ref t1, .none, .none, .none, .bool false, .none] }) (od := some oD) ⟨hx, rfl, rfl, hoD⟩ T.sa ?_
    obtain ⟨hp, g, d, t, os⟩ := s
    refine PySem.OEX.osa_old X hx hns hw (by rw [List.length_map]; simp only [List.length_cons] at hsz; omega) hcl (show refsVE (.ref C :: bm) = true from hbm) rfl (hno f List.mem_cons_self) (fun h' tk' k hn' => ?_)
    have hxd : x ≠ dx := fun z => by
      obtain ⟨o, es, ep, e1, e2, _⟩ := hns
      rw [← z, hx] at e1
      have z2 := Option.some.inj e1
      subst z2
      cases e2
    obtain ⟨o, es, ep, e1, r⟩ := hn
    refine sets_run T hs (fun f hf => hno f (List.mem_cons_of_mem _ hf)) (done := (f, v) :: done) (vs := vr) (m := m) (x := x) (t1 := t1) (dx := dx) (fun a o e => ?_) ⟨o, es, ep, k _ _ neL2 e1, r⟩ neL neL2 (k _ _ hxd hx) ⟨_, hn', fun y => ?_⟩ hKd (by simp only [List.length_cons] at hsz ⊢; omega)
      (by simpa using hv) (fun i f' v' h1 h2 => hmv (i + 1) f' v' (by simpa using h1) (by simpa using h2)) hself hk (fun f hf => ?_) (fun f hf => ?_) fun h'' tk k2 hns2 => ?_
    · exact k a o (fun z => by rw [z, hKd] at e; cases e) (X a o e)
    · rw [List.lookup_cons]
      cases hb : y == f with
      | true => rw [if_pos (beq_iff_eq.mp hb)]
      | false => rw [if_neg (fun z => by rw [z] at hb; simp at hb), hm y]
    · rcases List.mem_cons.mp hf with z | z
      · exact hl _ (by rw [z]; exact List.mem_cons_self)
      · exact hl _ (List.mem_cons_of_mem _ (List.mem_cons_of_mem _ z))
    · rcases List.mem_cons.mp hf with z | z
      · exact hd _ (by rw [z]; exact List.mem_cons_self)
      · exact hd _ (List.mem_cons_of_mem _ (List.mem_cons_of_mem _ z))
    · refine q h'' tk (fun b o hb z => k2 b o hb (k b o hb z)) ?_
      obtain ⟨mB, h1, h2⟩ := hns2
      refine ⟨mB, h1, fun y => ?_⟩
      rw [h2 y]
      simp [List.zip_cons_cons, List.reverse_cons, List.append_assoc]
/-- super().__init__(text), the wrapper called -/
theorem sup_call (T : L2.OexC K C) {u x t0 : Addr} {v : Value} {h : Heap} {g : Array GenState} {d : Drawn} {t : Nat} {os : OsState} {Q : Value → Shared → Prop} (X : K.In h) (hu : h.get? u = some (kxs_mw "ValueError.__init__" x)) (hx : h.get? x = some (excO C t0))
    (hq : ∀ h' t1, (∀ b o, b ≠ x → h.get? b = some o → h'.get? b = some o) → h'.get? x = some (excO C t1) → Q .none ⟨h', g, d, t, os⟩) : wpAny (model prog w) A (call (.ref u) [v]) Q E ⟨h, g, d, t, os⟩ := by
  obtain ⟨nm, qq, N, bs, bm, sn, sub, ab, col, dd, k0, k1, k2, k3, k5, hC, hbm⟩ := T.cls
  refine wpAny_call (codeAny_of_tree ?_)
  show wpAny _ A.in1 (callAny (.ref u) ⟨[v], []⟩) _ _ _
  simp only [callAny]
  refine wpAny_bind (wpAny_load hu ?_)
  simp only [kxs_mw, show (Value.type "method-wrapper" == Value.type "method" || Value.type "method-wrapper" == Value.type "builtin_function_or_method" || Value.type "method-wrapper" == Value.type "method-wrapper") = true by decide, if_true]
  refine KFB.if_so (by decide) ?_
  refine wpAny_bind (check_bound_init PySem.F.excBase_ValueError.toExcCallFacts (X _ _ hC) hx rfl ?_)
  refine wpAny_bind (wpAny_pure (wpAny_pure ?_))
  refine ⟨plainId_quiet PySem.F.excBase_ValueError.init.plain _, codeAny_builtin PySem.F.excBase_ValueError.initEntry ?_⟩
  exact exc_init_tree (cls := .ref C) (t0 := t0) (dv := none) (c2 := .none) (c3 := .none) (b4 := .bool false) hx (by rw [sizeLine_eq]; exact (by decide : 1 ≤ 16777216)) fun h' k e _ => hq h' _ k e
end
section
variable {prog : Program} {w : World} {A : Around} {K : Frag} {C fI : Addr} {fs : List Str} {R : Result → Shared → Prop} {s : Shared} {mg mb : Str → Option Value}
theorem zip_look : ∀ {fs : List Str} {vs : List Value} {i : Nat} {f : Str} {v : Value}, fs.Nodup → fs[i]? = some f → vs[i]? = some v → (fs.zip vs).reverse.lookup f = some v
  | [], _, _, _, _, _, h, _ => by simp at h
  | _ :: _, [], _, _, _, _, _, h => by simp at h
  | g :: fs, u :: vs, 0, f, v, nd, h1, h2 => by
    simp at h1 h2
    subst h1 h2
    rw [List.zip_cons_cons, List.reverse_cons, List.lookup_append]
    have hn : (fs.zip vs).reverse.lookup g = none := by
      cases e : (fs.zip vs).reverse.lookup g with
      | none => rfl
      | some w =>
        have := PySem.mem_of_lookup e
        rw [List.mem_reverse] at this
        exact absurd (List.of_mem_zip this).1 (List.nodup_cons.mp nd).1
    rw [hn]
    simp [List.lookup_cons]
  | g :: fs, u :: vs, i + 1, f, v, nd, h1, h2 => by
    rw [List.zip_cons_cons, List.reverse_cons, List.lookup_append, zip_look (List.nodup_cons.mp nd).2 (by simpa using h1) (by simpa using h2)]
    rfl
theorem init_sup (T : SupC prog K C fI fs) {x t0 : Addr} {vs : List Value} (X : K.In s.heap) (G : s.heap.Ns mainGlobals mg) (Gb : s.heap.Ns builtinsNs mb) (hbb : ∀ x : Str, x ≠ "__name__" → mb x = bootBuiltins x) (hlim : s.heap.NoLimit) (hx : s.heap.get? x = some (excO C t0)) (hnx : K.lookup x = none)
    (hroom : A.depth < recursionLimit) (hv : vs.length = fs.length) (hdbg : ∀ f ∈ ("self" : Str) :: fs, (f == ("__debug__" : Str)) = false) (hq : ∀ h' tk dx, MadeI s.heap h' x C dx fs vs → R (.ok (.ret .none)) { s with heap := h', toks := tk }) :
    codeAny (model prog w) A (.call (.ref fI) ⟨.ref x :: vs, []⟩) R s := by
  obtain ⟨oc, od, osl, qual, params, body, scope, kV, doc, pm, an, cda, ct, cc, ho, hcd, ⟨ccl, cdd, cvs, ccs, tf, hcode, hfile⟩, ⟨cl, cld, csl, hcell⟩, ⟨m, j, p0, p1, p2, p3, p4, p5, rest, rfl, hsets, hline⟩, ⟨ar, hp, har⟩, hbind, hk, hco, hgen, hnc, hloc, hks, hkc⟩ := T.fn
  obtain ⟨nm, qq, N, bs, bm, sn, sub, ab, col, dd, k0, k1, k2, k3, k5, hC, hbm⟩ := T.oex.cls
  have hcl : clsIn K C = some { name := nm, bases := bs, mro := .ref C :: bm, ns := N, qualname := qq, hasDict := true, slotNames := sn, subclasses := sub, abstract := ab, collection := col, hasDel := false } := by unfold clsIn; rw [hC] <;> rfl
  have hlen : (Value.ref x :: vs).length = fs.length + 1 := by rw [List.length_cons, hv]
  refine ks_codeAny_call_defAt (binds := (((("self" : Str)) :: fs).zip (.ref x :: vs))) hroom (X _ _ ho) rfl hlim (codeRec_of X hcd) rfl (BindsTo.of_eq (hbind _ hlen)) hnc (fun y hy => hloc _ (List.of_mem_zip hy).1) (fun h₁ hns hk₁ => ?_) hco hgen hk
  have X1 : K.In h₁ := X.keeps hk₁
  have hx1 := hk₁ _ _ hx
  generalize hL : s.heap.objs.size = L at hns ⊢
  have hLx : L ≠ x := by
    rw [← hL]
    exact Nat.ne_of_gt (Heap.lt_size hx)
  have nd : (("self" : Str) :: fs).Nodup := List.nodup_cons.mpr ⟨T.hs.2.2.2, T.hs.2.1⟩
  have mself : ((((("self" : Str)) :: fs).zip (.ref x :: vs))).reverse.lookup ("self" : Str) = some (.ref x) := zip_look nd (i := 0) rfl rfl
  have mf : ∀ (i : Nat) (f : Str) (v : Value), fs[i]? = some f → vs[i]? = some v → ((((("self" : Str)) :: fs).zip (.ref x :: vs))).reverse.lookup f = some v := fun i f v h1 h2 => zip_look nd (i := i + 1) (by simpa using h1) (by simpa using h2)
  obtain ⟨hp0, g0, d0, t00, os0⟩ := s
  obtain ⟨pl, heq⟩ := hline (callEnv (ksFn "__init__" qual params (supB m j p0 p1 p2 p3 p4 p5 :: rest) scope .none kV doc pm an (.ref cda) ct cc) L fI)
  have hkE : (callEnv (ksFn "__init__" qual params (supB m j p0 p1 p2 p3 p4 p5 :: rest) scope .none kV doc pm an (.ref cda) ct cc) L fI).scope.kind = .function := hk
  refine ks_wpAt_execs_cons (ks_wpAt_Expr_any (ks_wpAt_MethodCall ?_ heq) (by simp [interactive, hkE]) rfl)
  refine ks_wpAt_super_base hks hkc (by decide) rfl (X1 _ _ ho) rfl hp rfl (X1 _ _ hcode) rfl hfile (by simp) T.htop ?_
  have hG : h₁.Ns mainGlobals mg := G.keeps hk₁
  have hGb : h₁.Ns builtinsNs mb := Gb.keeps hk₁
  refine ks_loadName_global hk hks (loadGlobal_builtin hG (mg_none_of X G T.sup) hGb ((hbb _ (by decide +kernel)).trans (by decide +kernel)) ⟨rfl, ?_⟩)
  refine wpAny_loadName_free hk hkc rfl ⟨_, X1 _ _ hcell, rfl⟩ ?_
  rw [har]
  refine wpAny_loadName_local hk (hloc _ List.mem_cons_self) hns mself ?_
  refine ks_wpAny_isType_cls (X1 _ _ hC) rfl ⟨rfl, ?_⟩
  refine ks_wpAny_call_super (X1 _ _ hC) rfl hx1 rfl (fun c e => nomatch e) (looks_mroIn X1 T.subC) (fun h2 hso kk2 => ?_)
  have X2 : K.In h2 := X1.keeps kk2
  have hx2 := kk2 _ _ hx1
  have J2 : InstAt h2 x (excO C t0) C none := ⟨hx2, rfl, rfl, trivial⟩
  have hcl2 := hcl
  have hal := T.along
  unfold ks_superIn at hal
  rw [hcl] at hal
  refine kxs_getMethod kxs_ValueError hso (looks_opaque X2 T.opq) (fun A Q E s k q => wpAny_bind ((looks_clsIn X2 hcl) A _ E s k (wpAny_pure q))) rfl X2 hal (J2.type.andThen (looks_subIn X2 T.subV)) (fun z => by rw [z, hC] at hnx; cases hnx) (by decide) ?_
  -- the wrapper stands at h2.objs.size
  have kk3 : ∀ b o, h2.get? b = some o → (h2.push (kxs_mw "ValueError.__init__" x)).get? b = some o := fun b o e => Heap.get?_push_of_some _ e
  have hu3 : (h2.push (kxs_mw "ValueError.__init__" x)).get? h2.objs.size = some (kxs_mw "ValueError.__init__" x) := Heap.get?_push_at rfl rfl
  refine kxs_callWith (i := "ValueError.__init__") (x := x) rfl ?_
  refine evalArgs_plain ?_
  refine Calls.spliced_cons (Calls.Constant_str (k := j) (pos := p3) ?_)
  refine Calls.spliced_nil ⟨hu3, ?_⟩
  show wpAny _ _ (call (.ref h2.objs.size) [_]) _ _ _
  refine sup_call T.oex (X2.keeps kk3) hu3 (kk3 _ _ hx2) fun h4 t1 kk4 hx4 => ?_
  -- the stores
  obtain ⟨f1, fr, rfl⟩ : ∃ f1 fr, fs = f1 :: fr := by
    cases fs with
    | nil => exact absurd rfl T.hs.1
    | cons f1 fr => exact ⟨f1, fr, rfl⟩
  obtain ⟨v1, vr, rfl⟩ : ∃ v1 vr, vs = v1 :: vr := by
    cases vs with
    | nil => cases hv
    | cons v1 vr => exact ⟨v1, vr, rfl⟩
  have keep4 : ∀ b o, b ≠ x → hp0.get? b = some o → h4.get? b = some o := fun b o hb e => kk4 b o hb (kk3 _ _ (kk2 _ _ (hk₁ _ _ e)))
  have keepL : ∀ o, h₁.get? L = some o → h4.get? L = some o := fun o e => kk4 L o hLx (kk3 _ _ (kk2 _ _ e))
  have X4 : K.In h4 := fun a o e => kk4 a o (fun z => by rw [z, hnx] at e; cases e) (kk3 _ _ (X2 a o e))
  refine wpAt_of_wpAny ?_
  cases hsets with
  | cons hsets =>
    obtain ⟨oL, esL, epL, eL, rL⟩ := hns
    have hns4 : h4.Ns L _ := ⟨oL, esL, epL, keepL _ eL, rL⟩
    refine wpAny_execs_cons (plainObj_wpAny_Assign_Attribute ?_)
    refine ldK (v := v1) hns4 (mf 0 _ _ rfl rfl) (ldK (v := .ref x) hns4 mself ?_ hk (hloc _ List.mem_cons_self) (hdbg _ List.mem_cons_self)) hk (hloc _ (List.mem_cons_of_mem _ List.mem_cons_self)) (hdbg _ (List.mem_cons_of_mem _ List.mem_cons_self))
    refine set_plain X4 (ox := excO C t1) (od := none) ⟨hx4, rfl, rfl, trivial⟩ T.oex.sa ?_
    refine exc_osa X4 hx4 hcl (show refsVE (.ref C :: bm) = true from hbm) rfl (T.noN _ List.mem_cons_self) (fun h5 tk5 dx kk5 hdn hdx hx5 hn5 => ?_)
    have szL : hp0.objs.size ≤ h4.objs.size := by
      rw [hL]
      exact Nat.le_of_lt (Heap.lt_size (keepL _ eL))
    have hLd : L ≠ dx := fun z => by
      have h := Heap.lt_size (keepL _ eL)
      rw [z] at h
      exact Nat.lt_irrefl _ (Nat.lt_of_lt_of_le h hdn)
    have hKd : K.lookup dx = none := by
      cases e : K.lookup dx with
      | none => rfl
      | some o => exact absurd (Nat.lt_of_lt_of_le (Heap.lt_size (X4 _ _ e)) hdn) (Nat.lt_irrefl _)
    have X5 : K.In h5 := fun a o e => kk5 a o (fun z => by rw [z, hnx] at e; cases e) (X4 a o e)
    refine sets_run T.oex hsets (fun f hf => T.noN f (List.mem_cons_of_mem _ hf)) (done := [(f1, v1)]) (vs := vr) (x := x) (t1 := t1) (dx := dx) X5 ⟨oL, esL, epL, kk5 _ _ hLx (keepL _ eL), rL⟩ hLx hLd hx5 ⟨_, hn5, fun y => ?_⟩ hKd (by have := T.hs.2.2.1; simp only [List.length_cons, List.length_nil] at this ⊢; omega)
      (by simpa using hv) (fun i f v h1 h2 => mf (i + 1) f v (by simpa using h1) (by simpa using h2)) mself hk (fun f hf => hloc f ?_) (fun f hf => hdbg f ?_) fun h6 tk6 kk6 hns6 => ?_
    · rw [List.lookup_cons]
      cases hb : y == f1 with
      | true => rw [if_pos (beq_iff_eq.mp hb)]
      | false => rw [if_neg (fun z => by rw [z] at hb; simp at hb)]; rfl
    · rcases List.mem_cons.mp hf with z | z
      · rw [z]; exact List.mem_cons_self
      · exact List.mem_cons_of_mem _ (List.mem_cons_of_mem _ z)
    · rcases List.mem_cons.mp hf with z | z
      · rw [z]; exact List.mem_cons_self
      · exact List.mem_cons_of_mem _ (List.mem_cons_of_mem _ z)
    · obtain ⟨mB, q1, q2⟩ := hns6
      refine hq h6 tk6 dx ⟨fun b o hb e => ?_, ⟨t1, kk6 _ _ (fun z => hdx z.symm) hx5⟩, Nat.le_trans szL hdn, hdx, ⟨mB, q1, fun f => ?_⟩⟩
      · have hbd : b ≠ dx := fun z => by
          have h := Heap.lt_size e
          rw [z] at h
          exact Nat.lt_irrefl _ (Nat.lt_of_lt_of_le h (Nat.le_trans szL hdn))
        exact kk6 b o hbd (kk5 b o hb (keep4 b o hb e))
      · rw [q2 f]
        simp [List.zip_cons_cons, List.reverse_cons]
end
end Bs
namespace Bs
open PySem PySem.Spec PyProof.Rows L2 LamX
section
open PySem.W PySem.Calls PySem.HandSPX
variable {prog : Program} {w : World} {A : Around} {K : Frag} {C fI : Addr} {fs : List Str} {R : Result → Shared → Prop} {s : Shared} {mg mb : Str → Option Value}
theorem sup_made (T : SupC prog K C fI fs) {vs : List Value} (X : K.In s.heap) (G : s.heap.Ns mainGlobals mg) (Gb : s.heap.Ns builtinsNs mb) (hbb : ∀ x : Str, x ≠ "__name__" → mb x = bootBuiltins x) (hlim : s.heap.NoLimit)
    (hroom : A.depth + 1 < recursionLimit) (hv : vs.length = fs.length) (hdbg : ∀ f ∈ ("self" : Str) :: fs, (f == ("__debug__" : Str)) = false)
    (hq : ∀ h' tk e dx, (∀ b o, s.heap.get? b = some o → h'.get? b = some o) → s.heap.objs.size ≤ e → s.heap.objs.size ≤ dx → dx ≠ e → (∃ t1 : Addr, h'.get? e = some { cls := .ref C, dict := some dx, data := .fields #[.ref t1, .none, .none, .none, .bool false, .none] }) →
      (∃ mA, h'.Ns1 dx mA ∧ ∀ f, mA f = (fs.zip vs).reverse.lookup f) → R (.ok (.ret (.ref e))) { s with heap := h', toks := tk }) :
    codeAny (model prog w) A (.call (.ref C) ⟨vs, []⟩) R s := by
  obtain ⟨nm, q, N, bs, bm, sn, sub, ab, col, dd, k0, k1, k2, k3, k5, hC, hbm⟩ := T.oex.cls
  obtain ⟨hp, g, dr, tk, os⟩ := s
  have k : ∀ b o, hp.get? b = some o → ((hp.push (kdv_tup vs)).push (excO C hp.objs.size)).get? b = some o := fun b o e => Heap.get?_push_of_some _ (Heap.get?_push_of_some _ e)
  have hget : ((hp.push (kdv_tup vs)).push (excO C hp.objs.size)).get? (hp.objs.size + 1) = some (excO C hp.objs.size) := by heap_get
  have hnx : K.lookup (hp.objs.size + 1) = none := by
    cases e : K.lookup (hp.objs.size + 1) with
    | none => rfl
    | some o =>
      have z : hp.get? (hp.objs.size + 1) = some o := X _ _ e
      exact absurd (Nat.lt_of_succ_lt (Heap.lt_size z)) (Nat.lt_irrefl _)
  refine call_own F.excBase_ValueError (fun X => refsVE_contains X bm hbm) (X _ _ hC) (looks_findIn X T.iC) (fun self => bind_fn X self T.tI) (by rw [hv, sizeLine_eq]; have := T.hs.2.2.1; omega) ?_
  refine init_sup (s := ⟨(hp.push (kdv_tup vs)).push (excO C hp.objs.size), g, dr, tk, os⟩) T (X.keeps k) (G.keeps k) (Gb.keeps k) hbb (hlim.keeps k) hget hnx ?_ hv hdbg fun h' tk' dx M => ?_
  · show A.depth + 1 < recursionLimit
    exact hroom
  · have old : ∀ b o, hp.get? b = some o → h'.get? b = some o := fun b o e => M.keep b o (Nat.ne_of_lt (Nat.lt_succ_of_lt (Heap.lt_size e))) (k b o e)
    have z : hp.objs.size + 1 + 1 ≤ dx := by
      have q := M.dbig
      first
        | (simpa only [Heap.size_push] using q)
        | exact q
        | (rw [Heap.size_push, Heap.size_push] at q; exact q)
    exact ⟨rfl, hq h' tk' (hp.objs.size + 1) dx old (Nat.le_succ _) (Nat.le_trans (Nat.le_trans (Nat.le_succ _) (Nat.le_succ _)) z) M.dne M.obj M.ns⟩
end
theorem relO_zip : ∀ {fs : List Str} {vs : List V} {us : List Value} {f : Str}, Vals vs us → RelO ((fs.zip vs).lookup f) ((fs.zip us).lookup f)
  | [], _, _, _, _ => trivial
  | _ :: _, [], _, _, r => by
    cases r
    trivial
  | k :: fs, v :: vs, _, f, .cons r t => by
    simp only [List.zip_cons_cons, List.lookup_cons]
    cases f == k with
    | true => exact r
    | false => exact relO_zip t
theorem lookup_rev {β : Type} : ∀ {fs : List Str} {vs : List β} {f : Str}, fs.Nodup → (fs.zip vs).reverse.lookup f = (fs.zip vs).lookup f
  | [], _, _, _ => rfl
  | _ :: _, [], _, _ => rfl
  | k :: fs, v :: vs, f, nd => by
    rw [List.zip_cons_cons, List.reverse_cons, List.lookup_append, List.lookup_cons, lookup_rev (List.nodup_cons.mp nd).2]
    cases e : (f == k) with
    | true =>
      have hn : (fs.zip vs).lookup f = none := by
        cases q : (fs.zip vs).lookup f with
        | none => rfl
        | some w =>
          have := PySem.mem_of_lookup q
          rw [beq_iff_eq.mp e] at this
          exact absurd (List.of_mem_zip this).1 (List.nodup_cons.mp nd).1
      rw [hn]
      simp [e, List.lookup_cons]
    | false => simp [e, List.lookup_cons]
/-- an own exception class with such an __init__: its facts for calls by the name x -/
structure ExI (P : Program) (K : PySem.W.Frag) (mg : Str → Option Value) (x : Str) (C : Addr) (fs : List Str) : Prop where
  g : mg x = some (.ref C)
  sup : ∃ fI, SupC P K C fI fs
  dbg : ∀ f ∈ ("self" : Str) :: fs, (f == ("__debug__" : Str)) = false
  k : ExK K C
section
variable {X : Cx} {C : Addr} {fs : List Str} {x : Str} {e : Expr} {es : List Expr} {ta : TA} {p pos : Pos} {k : Nat}
theorem sup_run {pins : List (Addr × Obj)} {σ : L2.St} {H H1 : Hp} {s1 : Shared} {vs : List V} {us : List Value} {Q : Value → Shared → Prop} {E : Value → Shared → Prop} (T : ExI X.prog X.K X.mg x C fs) (hr : Room k X.A) (I1 : Inv X pins σ H1 s1) (r1 : Vals vs us) (hl : vs.length = fs.length)
    (hq : ∀ (a d t1 : Addr) (G h' : Heap) tk, d ≠ a → H1 a = none → H1 d = none → Inv X pins σ (upd H1 d (.xd (fs.zip vs))) { s1 with heap := G, toks := tk } → (∀ b o, G.get? b = some o → h'.get? b = some o) → G.get? a = none → h'.get? a = some { cls := .ref C, dict := some d, data := .fields #[.ref t1, .none, .none, .none, .bool false, .none] } → Q (.ref a) { s1 with heap := h', toks := tk }) :
    wpAny (model X.prog X.w) X.A (call (.ref C) us) Q E s1 := by
  obtain ⟨fI, S⟩ := T.sup
  have hlim := I1.nolimit
  obtain ⟨mb, hb1, hb2⟩ := I1.mod.blt
  have kb : ∀ b o, X.base.get? b = some o → s1.heap.get? b = some o := I1.bk
  obtain ⟨hp, g, dr, tk, os⟩ := s1
  refine wpAny_call (sup_made S I1.kIn (I1.mod.glob.keeps kb) (hb1.keeps kb) hb2 hlim (by have := hr.dp; omega) (by rw [← r1.length, hl]) T.dbg fun h' tk' e d old en dn dne ⟨t1, hoe⟩ ⟨mA, hns, hm⟩ => ?_)
  obtain ⟨G', g1, g2⟩ := restrict h' fun b => decide (b ≠ e)
  have gk : ∀ b, b ≠ e → G'.get? b = h'.get? b := fun b hb => g1 b (decide_eq_true hb)
  have ge : G'.get? e = none := g2 e (by simp)
  have old' : ∀ b o, hp.get? b = some o → G'.get? b = some o := fun b o q => (gk b (Nat.ne_of_lt (Nat.lt_of_lt_of_le (Heap.lt_size q) en))).trans (old b o q)
  have ob : ObjOk X.prog X.w (upd H1 d (.xd (fs.zip vs))) G' d (.xd (fs.zip vs)) :=
    ⟨_, hns.at (fun o q => (gk d dne).trans q), fun f => by rw [hm f, lookup_rev S.hs.2.1]; exact relO_zip r1⟩
  have J : Inv X pins σ (upd H1 d (.xd (fs.zip vs))) ⟨G', g, dr, tk', os⟩ := I1.laid (t' := tk') old' dn ob
  refine hq e d t1 G' h' tk' dne (I1.hok.fresh en) (I1.hok.fresh dn) J (fun b o q => ?_) ge hoe
  by_cases hb : b = e
  · rw [hb, ge] at q
    cases q
  · exact (gk b hb).symm.trans q
/-- C(e, ..) as a value -/
theorem pe_excI (T : ExI X.prog X.K X.mg x C fs) (hr : Room k X.A) (hg : Gl X x) (ha : PA X (e :: es) ta) (hdb : (x == ("__debug__" : Str)) = false := by decide)
    (he : starEach (e :: es) X.env = (false, eval e X.env) :: starEach es X.env := by rfl) (hpl : (backTo pos (starEach es X.env)).any (·.1) = false := by rfl) :
    PE X (.Call (.Name x p) (e :: es) [] pos) (fun σ H Q => ta σ H fun vs H1 => vs.length = fs.length ∧ ∀ a d, H1 a = none → H1 d = none → d ≠ a → Q (.ref a) (upd (upd H1 d (.xd (fs.zip vs))) a (ExV (.ref C) (some d) a))) := by
  refine ⟨fun pins s σ H Q I h => ?_⟩
  obtain ⟨fI, S⟩ := id T.sup
  refine wpAny_Call_Name_kw (ld_glob I hg T.g ?_ hdb)
  refine PySem.W.callWith_K (h₀ := X.base) I.ok.mod.kin S.oex.kC (thn (ha.run pos pins s σ H _ I h) fun us s1 ⟨vs, H1, I1, r1, hl, q1⟩ => ⟨I1.kIn, ?_⟩) he hpl
  show wpAny _ _ (call (.ref C) us) _ _ _
  refine sup_run (H := H) T hr I1 r1 hl fun a d t1 G h' tk dne ha hd J old ge hoe => ?_
  have hn : upd H1 d (.xd (fs.zip vs)) a = none := by rw [upd_ne (Ne.symm dne)]; exact ha
  exact ⟨.ref a, _, J.laidN (t' := tk) old ge hn (exV_ok hoe ⟨rfl, rfl⟩ rfl rfl rfl (show 4 < 6 by decide)), rfl, q1 a d ha hd dne⟩
/-- C(e, ..), to be raised -/
theorem pmk_excI (T : ExI X.prog X.K X.mg x C fs) (hr : Room k X.A) (hg : Gl X x) (ha : PA X (e :: es) ta) (hdb : (x == ("__debug__" : Str)) = false := by decide)
    (he : starEach (e :: es) X.env = (false, eval e X.env) :: starEach es X.env := by rfl) (hpl : (backTo pos (starEach es X.env)).any (·.1) = false := by rfl) :
    PMk X (.Call (.Name x p) (e :: es) [] pos) (fun σ H Q => ta σ H fun vs H1 => vs.length = fs.length ∧ ∀ d, H1 d = none → Q (.ref C) (some d) (upd H1 d (.xd (fs.zip vs)))) := by
  intro pins s σ H Q I h
  obtain ⟨fI, S⟩ := id T.sup
  refine wpAny_Call_Name_kw (ld_glob I hg T.g ?_ hdb)
  refine PySem.W.callWith_K (h₀ := X.base) I.ok.mod.kin S.oex.kC (thn (ha.run pos pins s σ H _ I h) fun us s1 ⟨vs, H1, I1, r1, hl, q1⟩ => ⟨I1.kIn, ?_⟩) he hpl
  show wpAny _ _ (call (.ref C) us) _ _ _
  refine sup_run (H := H) T hr I1 r1 hl fun a d t1 G h' tk dne ha hd J old ge hoe => ?_
  exact ⟨a, _, _, _, _, .ref C, some d, rfl, J, old, ge, hoe, ⟨rfl, rfl⟩, rfl, rfl, by rw [upd_ne (Ne.symm dne)]; exact ha, rfl, I1.bare, raises_own S.oex.exC S.oex.tyC, q1 d hd⟩
end
/-! ### over the data -/
theorem RpF.zip {K : PySem.W.Frag} {As : List Addr} {H : Hp} : ∀ {fs : List Str} {vs : List V} {ds : List D}, RpL K As H vs ds → RpF K As H (fs.zip vs) (fs.zip ds)
  | [], _, _, _ => .nil
  | _ :: _, _, _, .nil => .nil
  | _ :: _, _, _, .cons r t => .cons r (RpF.zip t)
section
variable {X : Cx} {T : List (Addr × Str)} {Γ Γ1 Γ2 Γ' : List (Option D)} {M M1 M2 M3 M' : List Ce} {e : Expr} {es : List Expr} {ds : List D} {p pos : Pos} {x : Str} {C : Addr} {fs : List Str} {k : Nat}
theorem e_excI (E : ExI X.prog X.K X.mg x C fs) (hr : Room k X.A) (hg : Gl X x) (ha : PA X (e :: es) (tA X.K T Γ M ds M1)) (hn : ds.length = fs.length := by rfl) (hdb : (x == ("__debug__" : Str)) = false := by decide)
    (he : starEach (e :: es) X.env = (false, eval e X.env) :: starEach es X.env := by rfl) (hpl : (backTo pos (starEach es X.env)).any (·.1) = false := by rfl) : PE X (.Call (.Name x p) (e :: es) [] pos) (tE X.K T Γ M (.exc C (fs.zip ds)) M1) :=
  wkE (pe_excI E hr hg ha hdb he hpl) fun σ H Q ⟨As, S, q⟩ => ⟨As, S, fun As1 vs H1 c1 S1 r1 => ⟨by rw [r1.length, hn], fun a d ha hd dne => by
    have hn : upd H1 d (.xd (fs.zip vs)) a = none := by rw [upd_ne (Ne.symm dne)]; exact ha
    have c2 := Ch.laid (As := As1) (o := .xd (fs.zip vs)) hd
    have S2 := S1.laid (o := .xd (fs.zip vs)) hd
    have c3 := Ch.laid (As := As1) (o := ExV (.ref C) (some d) a) hn
    exact q As1 _ _ (c1.trans (c2.trans c3)) (S2.laid hn) (.exc (S1.fresh ha) (S1.fresh hd) upd_same (by rw [upd_ne dne]; exact upd_same) ((RpF.zip r1).mono (c2.trans c3)))⟩⟩
end
end Bs
namespace Bs
open PySem PySem.Spec PyProof.Rows L2 LamX
/-! ## defs that are called where no repr is under way -/
structure FnK (P : Program) (w : World) (K : PySem.W.Frag) (mg : Str → Option Value) (base : Heap) (k : Nat) (f : Addr) (fd : FuncData) (ps : List Str) (sp : Sp) : Prop where
  len : ∀ vs H Q E, sp vs H Q E → vs.length = ps.length
  go : ∀ (A : Around) (outer : List PySem.Env) (s : Shared) (H : Hp) (args : Args) (us : List Value) (vs : List V) (Q : VK) (E : XK), A.guards = some [] → Room k A → Env0 P w K mg base A outer s H → BindsTo s fd args (ps.zip us) → Vals vs us → sp vs H Q E →
    codeAny (model P w) A (.call (.ref f) args) (CR (L2.CX P w) outer P w H s Q E) s
section
variable {P : Program} {w : World} {K : PySem.W.Frag} {T : List (Addr × Str)} {mg : Str → Option Value} {base : Heap}
theorem FnOk.k {k : Nat} {f : Addr} {fd : FuncData} {ps : List Str} {sp : Sp} (F : FnOk P w K mg base (L2.CX P w) k f fd ps sp) : FnK P w K mg base k f fd ps sp :=
  ⟨F.len, fun A o s H ar us vs Q E _ => F.run A o s H ar us vs Q E⟩
theorem guards_deeper {A : Around} {e : PySem.Env} : (A.deeper e).guards = A.guards := by first | rfl | simp [Around.deeper]
theorem fnK_of {k : Nat} {f : Addr} {name qual : Str} {params : Arguments} {body : List Stmt} {scope : Scope} {dV kV doc pm cdv ct oc : Value} {an od : Option Addr} {osl : Array (Option Value)} {N ps : List Str} {sp : Sp}
    (lk : K.lookup f = some ⟨oc, od, .func (PySem.W.fnOf name qual params body scope dV kV doc pm an cdv ct), osl⟩) (hcd : PySem.W.codeIn K cdv qual = true) (S : FnScope N ps scope) (len : ∀ vs H Q E, sp vs H Q E → vs.length = ps.length)
    (hbody : ∀ (A : Around) (outer : List PySem.Env) (s : Shared) (H : Hp) (vs : List V) (Q : VK) (E : XK), A.guards = some [] → Room k (A.deeper (envOfC qual scope s.heap.objs.size f cdv)) → sp vs H Q E → ∃ t, PSs (cxOf (L2.CX P w) P w K mg base N qual scope f cdv A outer s H E) body t ∧ t { nx := fun _ H' => Q .non H', rt := Q } (start N vs) H) :
    FnK P w K mg base (k + 1) f (PySem.W.fnOf name qual params body scope dV kV doc pm an cdv ct) ps sp := by
  refine ⟨len, fun A outer s H args us vs Q E hG hr e0 hb r hsp => ?_⟩
  have kp := fun b o e => (e0.bs b o e).1
  have KX : K.In s.heap := e0.mod.kin.keeps kp
  refine codeAny_call_function hr.depth (KX _ _ lk) rfl S.co S.gen rfl (PySem.W.codeRec_of KX hcd) (hb _ _ _ _ ?_)
  refine wpAny_newFunctionEnv_cells S.kind (fun ⟨n, v⟩ hy => ?_) fun env he s1 x => ?_
  · rcases S.par n (List.of_mem_zip hy).1 with q | q
    · exact .inl q
    · exact .inr ⟨q, PySem.W.cellsFrom_some _ _ _ (.inl q)⟩
  · subst he
    refine ⟨(e0.mod.nolimit.keeps kp).keeps x.toInCall.keep, codeAny_func ?_⟩
    obtain ⟨t, ht, hq⟩ := hbody A outer s H vs Q E hG (hr.deeper _) hsp
    have I := inv_start (CX := L2.CX P w) (E := E) S hr.hd e0 (len _ _ _ _ hsp) r x
    refine wpAny_mono (ht.run [] s1 (start N vs) H _ I hq) (fun fl s' hs => ?_) fun e s' hs => hs
    cases fl with
    | ret u =>
      obtain ⟨v, σ', H', J, rv, q⟩ := hs
      exact ⟨v, H', J.os, J.bare, J.base, J.hok, rv, q⟩
    | next =>
      obtain ⟨σ', H', J, q⟩ := hs
      exact ⟨V.non, H', J.os, J.bare, J.base, J.hok, rfl, q⟩
    | brk =>
      obtain ⟨_, _, _, q⟩ := hs
      exact q.elim
    | cont =>
      obtain ⟨_, _, _, q⟩ := hs
      exact q.elim
/-- a def of the module with its contract, to be called where no repr is under way -/
def FnR (P : Program) (w : World) (K : PySem.W.Frag) (T : List (Addr × Str)) (mg : Str → Option Value) (base : Heap) (x : Str) (k n : Nat) (C : Con) : Prop :=
  ∃ (f : Addr) (fd : FuncData) (ps : List Str), FnK P w K mg base k f fd ps (spF K T n C) ∧ mg x = some (.ref f) ∧ PySem.W.keepIn K (.ref f) = true ∧ Binds K fd ps []
theorem FnH.r {x : Str} {k n : Nat} {C : Con} (F : FnH P w K T mg base x k n C) : FnR P w K T mg base x k n C := by
  obtain ⟨f, fd, ps, h1, h2⟩ := F
  exact ⟨f, fd, ps, FnOk.k h1, h2⟩
def BodyR (P : Program) (w : World) (K : PySem.W.Frag) (T : List (Addr × Str)) (mg : Str → Option Value) (base : Heap) (N : List Str) (qual : Str) (scope : Scope) (f : Addr) (k n : Nat) (body : List Stmt) (C : Con) : Prop :=
  ∀ (cdv : Value) (A : Around) (outer : List PySem.Env) (s : Shared) (H : Hp) (E : XK) (ds : List D) (M : List Ce) (o : RO) (M' : List Ce), A.guards = some [] → Room k (A.deeper (envOfC qual scope s.heap.objs.size f cdv)) → ds.length = n → ClM M → clL M.length ds = true → C ds M o M' →
    M.length ≤ M'.length ∧ ClM M' ∧ ∃ u, Exit M' u o ∧ PSs (cxB P w K mg base N qual scope f cdv A outer s H E) body (tS K T (fun cls d _ H => E cls d H) (ds.map some ++ List.replicate (N.length - n) none) M u)
theorem fnRK {x : Str} {params : Arguments} {body : List Stmt} {scope : Scope} {kws : List (Str × V)} {f : Addr} {fd : FuncData} {N ps : List Str} {k : Nat} {C : Con} (F : FunD K x x params body scope [] kws f fd) (S : FnScope N ps scope) (h : BodyR P w K T mg base N x scope f k ps.length body C) :
    FnK P w K mg base (k + 1) f fd ps (spF K T ps.length C) := by
  obtain ⟨oc, od, dV, kV, doc, pm, an, cdv, ct, osl, rfl, lk, hcd, _, _⟩ := F.ex
  refine fnK_of lk hcd S (fun vs H Q E ⟨As, M, ds, o, M', hn, S0, r, _⟩ => by rw [r.length, hn]) fun A outer s H vs Q E hG hr ⟨As, M, ds, o, M', hn, S0, r, hC, q⟩ => ?_
  obtain ⟨hl, hM, u, hx, hb⟩ := h cdv A outer s H E ds M o M' hG hr hn S0.closed (by rw [← S0.alen]; exact r.cl) hC
  refine ⟨_, hb, ?_⟩
  have S1 := start_ok (N := N) S0 r
  rw [hn] at S1
  exact exit_ok S1 hx hM hl q
theorem fnR {x : Str} {params : Arguments} {body : List Stmt} {scope : Scope} {kws : List (Str × V)} {f : Addr} {fd : FuncData} {N ps : List Str} {k n : Nat} {C : Con} (F : FunD K x x params body scope [] kws f fd) (g : mg x = some (.ref f)) (S : FnScope N ps scope) (hn : ps.length = n)
    (hb : ∀ (dV kV doc pm : Value) (an : Option Addr) (cdv ct : Value) (us : List Value), us.length = ps.length → bindArgs (PySem.W.fnOf x x params body scope .none kV doc pm an cdv ct) ⟨us, []⟩ = pure (ps.zip us))
    (h : BodyR P w K T mg base N x scope f k ps.length body C) : FnR P w K T mg base x (k + 1) n C := by
  subst hn
  exact ⟨f, fd, ps, fnRK F S h, g, F.kp, F.bindsN fun kV doc pm an cdv ct us hu => hb .none kV doc pm an cdv ct us hu⟩
end
section
variable {X : Cx} {k : Nat} {f : Addr} {fd : FuncData} {ps : List Str} {sp : Sp} {E : XK} {x : Str} {p pos : Pos} {e : Expr} {es : List Expr} {t : TA}
theorem run_k {pins : List (Addr × Obj)} {σ : L2.St} {H : Hp} {s : Shared} {Q : VK} {us : List Value} {vs : List V} (F : FnK X.prog X.w X.K X.mg X.base k f fd ps sp) (hG : X.A.guards = some []) (hr : Room k X.A) (hb : Binds X.K fd ps []) (hx : Passes (L2.CX X.prog X.w) X E)
    (I : Inv X pins σ H s) (r : Vals vs us) (h : sp vs H Q E) : wpAny (model X.prog X.w) X.A (call (.ref f) us) (EP X pins σ Q) X.xe s := by
  have hl : us.length = ps.length := r.length.symm.trans (F.len _ _ _ _ h)
  have hb' := hb s us I.kIn (by rw [List.append_nil]; exact hl)
  rw [List.append_nil] at hb'
  refine wpAny_call (codeAny_mono (F.go X.A X.stack s H ⟨us, []⟩ us vs Q E hG hr I.env0 hb' r h) fun r s' hq => ?_)
  match r, hq with
  | .error e, hq => exact hx pins σ H s e s' I hq
  | .ok (.ret u), hq => exact I.after hq
theorem pe_k (F : FnK X.prog X.w X.K X.mg X.base k f fd ps sp) (hG : X.A.guards = some []) (hr : Room k X.A) (hg : Gl X x) (hm : X.mg x = some (.ref f)) (hk : PySem.W.keepIn X.K (.ref f) = true) (hb : Binds X.K fd ps []) (hx : Passes (L2.CX X.prog X.w) X E) (ha : PA X (e :: es) t)
    (hdb : (x == ("__debug__" : Str)) = false) (he : starEach (e :: es) X.env = (false, eval e X.env) :: starEach es X.env) (hpl : (backTo pos (starEach es X.env)).any (·.1) = false) : PE X (.Call (.Name x p) (e :: es) [] pos) (tCall sp [] E t) := by
  refine ⟨fun pins s σ H Q I h => wpAny_Call_Name_kw (ld_glob I hg hm ?_ hdb)⟩
  refine PySem.W.callWith_K (h₀ := X.base) I.ok.mod.kin hk (thn (ha.run pos pins s σ H _ I h) fun us s1 ⟨vs, H1, I1, r, q⟩ => ⟨I1.kIn, ?_⟩) he hpl
  have q' : sp (vs ++ []) H1 Q E := q
  rw [List.append_nil] at q'
  exact run_k F hG hr hb hx I1 r q'
theorem pe_k0 (F : FnK X.prog X.w X.K X.mg X.base k f fd ps sp) (hG : X.A.guards = some []) (hr : Room k X.A) (hg : Gl X x) (hm : X.mg x = some (.ref f)) (hk : PySem.W.keepIn X.K (.ref f) = true) (hb : Binds X.K fd ps []) (hx : Passes (L2.CX X.prog X.w) X E)
    (hdb : (x == ("__debug__" : Str)) = false) : PE X (.Call (.Name x p) [] [] pos) (tCall sp [] E tNil) :=
  ⟨fun pins s σ H Q I h => wpAny_Call_Name_kw (ld_glob I hg hm (PySem.W.callWith_K0 I.kIn hk (run_k (us := []) F hG hr hb hx I .nil h)) hdb)⟩
end
section
variable {X : Cx} {T : List (Addr × Str)} {Γ : List (Option D)} {M M1 M2 M3 M' : List Ce} {a b c e : Expr} {es : List Expr} {d d1 d2 : D} {ds ws xs : List D} {z : Bool} {p pos : Pos} {x : Str} {k n : Nat} {C : Con}
theorem e_cr (F : FnR X.prog X.w X.K T X.mg X.base x k n C) (hG : X.A.guards = some []) (hr : Room k X.A) (hg : Gl X x) (ha : PA X (e :: es) (tA X.K T Γ M ds M1)) (hC : C ds M1 (.val d) M2) (hn : ds.length = n := by rfl) (hdb : (x == ("__debug__" : Str)) = false := by decide)
    (he : starEach (e :: es) X.env = (false, eval e X.env) :: starEach es X.env := by rfl) (hpl : (backTo pos (starEach es X.env)).any (·.1) = false := by rfl) : PE X (.Call (.Name x p) (e :: es) [] pos) (tE X.K T Γ M d M2) := by
  obtain ⟨f, fd, ps, h1, h2, h3, h4⟩ := F
  refine wkE (pe_k h1 hG hr hg h2 h3 h4 passL ha hdb he hpl) fun σ H Q ⟨As, S, q⟩ => ⟨As, S, fun As1 vs H1 c1 S1 r1 => ⟨As1, M1, ds, .val d, M2, hn, S1.bare, by rw [List.append_nil]; exact r1, hC, fun As2 H2 c2 S2 v r2 =>
    q As2 v H2 (c1.trans c2) (S2.slots S1.slen fun i d hd => by
      obtain ⟨v, hv, r⟩ := S1.slot i d hd
      exact ⟨v, hv, r.mono c2⟩) r2⟩⟩
theorem e_cr0 (F : FnR X.prog X.w X.K T X.mg X.base x k 0 C) (hG : X.A.guards = some []) (hr : Room k X.A) (hg : Gl X x) (hC : C [] M (.val d) M2) (hdb : (x == ("__debug__" : Str)) = false := by decide) : PE X (.Call (.Name x p) [] [] pos) (tE X.K T Γ M d M2) := by
  obtain ⟨f, fd, ps, h1, h2, h3, h4⟩ := F
  refine wkE (pe_k0 h1 hG hr hg h2 h3 h4 passL hdb) fun σ H Q ⟨As, S, q⟩ => ⟨As, M, [], .val d, M2, rfl, S.bare, .nil, hC, fun As2 H2 c2 S2 v r2 =>
    q As2 v H2 c2 (S2.slots S.slen fun i d hd => by
      obtain ⟨v, hv, r⟩ := S.slot i d hd
      exact ⟨v, hv, r.mono c2⟩) r2⟩
/-! ## lists: cells, data, the script -/
def LQ (M : List Ce) (d : D) (ds : List D) : Prop := LV M d ds ∨ ∃ ns : List Int, d = .scr ns ∧ ds = ns.map D.int
theorem LV.q (l : LV M d ds) : LQ M d ds := .inl l
theorem LQ.s {ns : List Int} : LQ M (.scr ns) (ns.map D.int) := .inr ⟨ns, rfl, rfl⟩
theorem RpL.mkInts {K : PySem.W.Frag} {As : List Addr} {H : Hp} : ∀ (ns : List Int), RpL K As H (ns.map V.int) (ns.map D.int)
  | [] => .nil
  | _ :: ns => .cons .int (RpL.mkInts ns)
theorem LQ.at {K : PySem.W.Frag} {As : List Addr} {H : Hp} {σ : L2.St} {v : V} (l : LQ M d ds) (S : Sta K T As M H σ Γ) (r : Rp K As H v d) : ∃ a vs, v = .ref a ∧ SqL K H a vs ∧ RpL K As H vs ds := by
  rcases l with l | ⟨ns, rfl, rfl⟩
  · obtain ⟨a, vs, h1, h2, h3⟩ := l.at S r
    exact ⟨a, vs, h1, SqL.of h2, h3⟩
  · obtain ⟨a, h1, h2⟩ := r.scrAt
    exact ⟨a, _, h1, h2, RpL.mkInts ns⟩
theorem RpL.bls_eq {K : PySem.W.Frag} {As : List Addr} {H : Hp} : ∀ {bs : List Bool} {vs : List V}, RpL K As H vs (bs.map D.bl) → vs = bs.map V.bl
  | [], _, r => by
    cases r
    rfl
  | _ :: _, _, r => by
    cases r with
    | cons r1 r2 =>
      cases r1
      rw [RpL.bls_eq r2]
      rfl
theorem RpL.ints_eq {K : PySem.W.Frag} {As : List Addr} {H : Hp} : ∀ {bs : List Int} {vs : List V}, RpL K As H vs (bs.map D.int) → vs = bs.map V.int
  | [], _, r => by
    cases r
    rfl
  | _ :: _, _, r => by
    cases r with
    | cons r1 r2 =>
      cases r1
      rw [RpL.ints_eq r2]
      rfl
/-! ### all, any -/
theorem ca_all {bs : List Bool} (hc : X.calm = true) (l : LQ M d1 (bs.map D.bl)) : CalE X T (.builtin "all") [d1] M (.bl (bs.all id)) M := ⟨_, cr_all hc, fun As σ Γ H vs Q S r k => by
  obtain ⟨v, rfl, q⟩ := r.one
  obtain ⟨a, vs, rfl, ha, ra⟩ := l.at S q
  rw [RpL.bls_eq ra] at ha
  exact ⟨a, bs, rfl, ha, k As _ H Ch.refl S .bl⟩⟩
theorem ca_any {bs : List Bool} (hc : X.calm = true) (l : LQ M d1 (bs.map D.bl)) : CalE X T (.builtin "any") [d1] M (.bl (bs.any id)) M := ⟨_, cr_any hc, fun As σ Γ H vs Q S r k => by
  obtain ⟨v, rfl, q⟩ := r.one
  obtain ⟨a, vs, rfl, ha, ra⟩ := l.at S q
  rw [RpL.bls_eq ra] at ha
  exact ⟨a, bs, rfl, ha, k As _ H Ch.refl S .bl⟩⟩
/-! ### count, index -/
def rCntV (K : PySem.W.Frag) : V → List V → Hp → VK → Prop := fun x xs H Q => ∃ (a : Addr) (ys : List V) (y : V), x = V.ref a ∧ xs = [y] ∧ SqL K H a ys ∧ flatV y = true ∧ ys.all flatV = true ∧ Q (.int (ys.countP (fun z => eqV z y) : Nat)) H
theorem eqU_countP {y : V} : ∀ {ys : List V} {us : List Value}, Vals ys us → ys.all flatV = true → us.countP (eqU y) = ys.countP (fun z => eqV z y)
  | _, _, .nil, _ => rfl
  | _ :: _, _ :: _, .cons r t, f => by
    rw [List.all_cons, Bool.and_eq_true] at f
    rw [List.countP_cons, List.countP_cons, eqU_countP t f.2, eqU_of r f.1]
theorem mt_cntV : MtR X "list.count" (rCntV X.K) := by
  intro pins s σ H x xs v us Q I rx rxs h
  obtain ⟨p, ys, y, rfl, rfl, hs, fy, fys, q⟩ := h
  cases rx
  obtain ⟨u, rfl, ry⟩ := rxs.one
  obtain ⟨its, rv, ⟨⟨cls, dd, data, sl⟩, n, ho, hc, hdn, hd⟩, hlen⟩ := I.list hs
  simp only at hc hd
  subst hc hd
  refine call_meets PySem.F.slot_list_count ⟨_, ho, rfl⟩ PySem.F.entry_list_count (PySem.F.args_list_count_2 _ _)
    (SeqAt.list_countAt p its.toArray n dd sl u (eqU y)) ⟨ho, fun z hz => mem_eqAt ry fy rv fys z (by simpa using hz), ?_⟩
  refine ⟨.int (ys.countP (fun z => eqV z y) : Nat), H, I.tok _, ⟨s.toks, ?_⟩, q⟩
  show Value.int ((its.countP (eqU y) : Nat) : Int) s.toks = _
  rw [eqU_countP rv fys]
theorem flat_bls : ∀ bs : List Bool, (bs.map V.bl).all flatV = true
  | [] => rfl
  | _ :: bs => by rw [List.map_cons, List.all_cons, flat_bls bs]; rfl
theorem flat_ints : ∀ bs : List Int, (bs.map V.int).all flatV = true
  | [] => rfl
  | _ :: bs => by rw [List.map_cons, List.all_cons, flat_ints bs]; rfl
theorem countP_bls {y : Bool} : ∀ bs : List Bool, (bs.map V.bl).countP (fun z => eqV z (.bl y)) = bs.count y
  | [] => rfl
  | b :: bs => by
    rw [List.map_cons, List.countP_cons, List.count_cons, countP_bls bs]
    rfl
theorem countP_ints {y : Int} : ∀ bs : List Int, (bs.map V.int).countP (fun z => eqV z (.int y)) = bs.count y
  | [] => rfl
  | b :: bs => by
    rw [List.map_cons, List.countP_cons, List.count_cons, countP_ints bs]
    rfl
theorem mt_cntB {bs : List Bool} {y : Bool} (l : LQ M d1 (bs.map D.bl)) : MetE X T "list.count" d1 [.bl y] M (.int (bs.count y : Nat)) M := ⟨_, mt_cntV, fun As σ Γ H v vs Q S r1 r2 q => by
  obtain ⟨u, rfl, ru⟩ := r2.one
  cases ru
  obtain ⟨a, ws, rfl, ha, ra⟩ := l.at S r1
  rw [RpL.bls_eq ra] at ha
  refine ⟨a, _, _, rfl, rfl, ha, rfl, flat_bls _, ?_⟩
  rw [countP_bls]
  exact q As _ H Ch.refl S .int⟩
theorem mt_cntI {bs : List Int} {y : Int} (l : LQ M d1 (bs.map D.int)) : MetE X T "list.count" d1 [.int y] M (.int (bs.count y : Nat)) M := ⟨_, mt_cntV, fun As σ Γ H v vs Q S r1 r2 q => by
  obtain ⟨u, rfl, ru⟩ := r2.one
  cases ru
  obtain ⟨a, ws, rfl, ha, ra⟩ := l.at S r1
  rw [RpL.ints_eq ra] at ha
  refine ⟨a, _, _, rfl, rfl, ha, rfl, flat_ints _, ?_⟩
  rw [countP_ints]
  exact q As _ H Ch.refl S .int⟩
theorem mt_idxB {bs : List Bool} {y : Bool} {j : Nat} (l : LQ M d1 (bs.map D.bl)) (hj : bs[j]? = some y) (hno : ∀ m, m < j → bs[m]? ≠ some y) : MetE X T "list.index" d1 [.bl y] M (.int (j : Nat)) M := ⟨_, L2.mt_index, fun As σ Γ H v vs Q S r1 r2 q => by
  obtain ⟨u, rfl, ru⟩ := r2.one
  cases ru
  obtain ⟨a, ws, rfl, ha, ra⟩ := l.at S r1
  rw [RpL.bls_eq ra] at ha
  refine ⟨a, _, _, j, .bl y, rfl, rfl, ha, rfl, flat_bls _, by rw [List.getElem?_map, hj]; rfl, beq_self_eq_true y, fun m z hm hz => ?_, q As _ H Ch.refl S .int⟩
  rw [List.getElem?_map] at hz
  cases e : bs[m]? with
  | none => rw [e] at hz; cases hz
  | some b =>
    rw [e] at hz
    cases hz
    exact beq_eq_false_iff_ne.mpr fun z => hno m hm (by rw [e, z])⟩
theorem mt_idxI {bs : List Int} {y : Int} {j : Nat} (l : LQ M d1 (bs.map D.int)) (hj : bs[j]? = some y) (hno : ∀ m, m < j → bs[m]? ≠ some y) : MetE X T "list.index" d1 [.int y] M (.int (j : Nat)) M := ⟨_, L2.mt_index, fun As σ Γ H v vs Q S r1 r2 q => by
  obtain ⟨u, rfl, ru⟩ := r2.one
  cases ru
  obtain ⟨a, ws, rfl, ha, ra⟩ := l.at S r1
  rw [RpL.ints_eq ra] at ha
  refine ⟨a, _, _, j, .int y, rfl, rfl, ha, rfl, flat_ints _, by rw [List.getElem?_map, hj]; rfl, beq_self_eq_true y, fun m z hm hz => ?_, q As _ H Ch.refl S .int⟩
  rw [List.getElem?_map] at hz
  cases e : bs[m]? with
  | none => rw [e] at hz; cases hz
  | some b =>
    rw [e] at hz
    cases hz
    exact beq_eq_false_iff_ne.mpr fun z => hno m hm (by rw [e, z])⟩
/-! ### slices -/
def cutD (xs : List D) (lo hi : Option Int) : List D := (xs.drop (HT.sIx xs.length 0 lo)).take (HT.sIx xs.length xs.length hi - HT.sIx xs.length 0 lo)
theorem RpL.dropN {K : PySem.W.Frag} {As : List Addr} {H : Hp} : ∀ (n : Nat) {vs : List V} {ds : List D}, RpL K As H vs ds → RpL K As H (vs.drop n) (ds.drop n)
  | 0, _, _, r => r
  | _ + 1, _, _, .nil => .nil
  | n + 1, _, _, .cons _ t => RpL.dropN n t
theorem RpL.takeN {K : PySem.W.Frag} {As : List Addr} {H : Hp} : ∀ (n : Nat) {vs : List V} {ds : List D}, RpL K As H vs ds → RpL K As H (vs.take n) (ds.take n)
  | 0, _, _, _ => .nil
  | _ + 1, _, _, .nil => .nil
  | n + 1, _, _, .cons r t => .cons r (RpL.takeN n t)
theorem RpL.slc {K : PySem.W.Frag} {As : List Addr} {H : Hp} {vs : List V} {lo hi : Option Int} (r : RpL K As H vs ds) : RpL K As H (cutV vs lo hi) (cutD ds lo hi) := by
  unfold cutV cutD
  rw [r.length]
  exact RpL.takeN _ (RpL.dropN _ r)
/-- a part of a slice -/
inductive Part (X : Cx) (T : List (Addr × Str)) (Γ : List (Option D)) (M : List Ce) : Option Expr → Option Int → Prop
  | no : Part X T Γ M none none
  | at {e : Expr} {i : Int} : PE X e (tE X.K T Γ M (.int i) M) → Part X T Γ M (some e) (some i)
/-- what a part answers -/
structure tPS (K : PySem.W.Frag) (T : List (Addr × Str)) (Γ : List (Option D)) (M : List Ce) (o : Option Int) (σ : L2.St) (H : Hp) (Q : Option Int → Hp → Prop) : Prop where
  ex : ∃ As, Sta K T As M H σ Γ ∧ ∀ As' H', Ch As H As' H' → Sta K T As' M H' σ Γ → Q o H'
theorem Part.po {eo : Option Expr} {o : Option Int} (h : Part X T Γ M eo o) : PO X eo (tPS X.K T Γ M o) := by
  cases h with
  | no => exact ⟨fun pins s σ H Q I ⟨As, S, q⟩ => (po_none (X := X)).run pins s σ H Q I (q As H Ch.refl S)⟩
  | «at» he =>
    refine ⟨fun pins s σ H Q I ⟨As, S, q⟩ => (po_some he).run pins s σ H Q I ?_⟩
    exact ⟨As, S, fun As1 v H1 c1 S1 r1 => by
      cases r1
      exact ⟨_, rfl, q As1 H1 c1 S1⟩⟩
theorem f_sl {lo hi : Option Expr} {l h : Option Int} {p2 : Pos} (ha : PE X a (tE X.K T Γ M d1 M1)) (hl : Part X T Γ M1 lo l) (hh : Part X T Γ M1 hi h) (lq : LQ M1 d1 ds) : PE X (.Subscript a (.Slice lo hi none p2) pos) (tF X.K T Γ M (cutD ds l h) M1) :=
  wkE (pe_slice L2.sl_list ha hl.po hh.po) fun σ H Q ⟨As, S, k⟩ => ⟨As, S, fun As1 v H1 c1 S1 r1 => ⟨As1, S1, fun As2 H2 c2 S2 => ⟨As2, S2, fun As3 H3 c3 S3 => by
    obtain ⟨a, vs, rfl, hx, rx⟩ := lq.at S3 (r1.mono (c2.trans c3))
    exact ⟨a, vs, rfl, hx, fun p hp => k As3 _ H3 p (c1.trans (c2.trans c3)) S3 rx.slc hp⟩⟩⟩⟩
theorem e_slT {lo hi : Option Expr} {l h : Option Int} {p2 : Pos} (ha : PE X a (tE X.K T Γ M (.tup ds) M1)) (hl : Part X T Γ M1 lo l) (hh : Part X T Γ M1 hi h) : PE X (.Subscript a (.Slice lo hi none p2) pos) (tE X.K T Γ M (.tup (cutD ds l h)) M1) :=
  wkE (pe_slice sl_tupA ha hl.po hh.po) fun σ H Q ⟨As, S, k⟩ => ⟨As, S, fun As1 v H1 c1 S1 r1 => ⟨As1, S1, fun As2 H2 c2 S2 => ⟨As2, S2, fun As3 H3 c3 S3 => by
    have r3 := r1.mono (c2.trans c3)
    have r4 := r3
    obtain ⟨a, vs, rfl, hx, rx⟩ := r3.tupAt
    refine ⟨a, vs, rfl, hx, fun hw => ?_, fun hw p hp => k As3 _ _ ((c1.trans (c2.trans c3)).trans (Ch.laid hp)) (S3.laid hp) (.tup (S3.fresh hp) upd_same (rx.slc.mono (Ch.laid hp)))⟩
    have e : cutD ds l h = ds := by
      unfold cutD
      rw [rx.length] at hw
      rw [hw.1, hw.2]
      simp
    exact k As3 _ H3 (c1.trans (c2.trans c3)) S3 (by rw [e]; exact r4)⟩⟩⟩
/-! ### == of data; repr -/
mutual
def pd : D → Option PyData
  | .non => some .none
  | .bl b => some (.bool b)
  | .int i => some (.int i)
  | .str x => some (.str x)
  | .tup ds => (pdL ds).map .tuple
  | .lst ds => (pdL ds).map .list
  | .scr ns => some (.list (ns.map .int))
  | _ => none
def pdL : List D → Option (List PyData)
  | [] => some []
  | d :: ds => (pd d).bind fun x => (pdL ds).map (x :: ·)
end
theorem dpAll_ints {K : PySem.W.Frag} {H : Hp} : ∀ ns : List Int, DpAll K H (ns.map V.int) (ns.map .int)
  | [] => .nil
  | n :: ns => .cons (.int n) (dpAll_ints ns)
mutual
theorem Rp.dp {K : PySem.W.Frag} {As : List Addr} {H : Hp} : ∀ {d : D} {v : V} {q : PyData}, pd d = some q → Rp K As H v d → Dp K H v q
  | .non, _, _, e, r => by
    cases r
    cases e
    exact .non
  | .bl b, _, _, e, r => by
    cases r
    cases e
    exact .bl b
  | .int i, _, _, e, r => by
    cases r
    cases e
    exact .int i
  | .str x, _, _, e, r => by
    cases r
    cases e
    exact .str x
  | .tup ds, v, q, e, r => by
    obtain ⟨a, vs, rfl, h1, h2⟩ := r.tupAt
    unfold pd at e
    cases e1 : pdL ds with
    | none => rw [e1] at e; cases e
    | some qs =>
      rw [e1] at e
      cases e
      exact .tup h1 (RpL.dp e1 h2)
  | .lst ds, v, q, e, r => by
    obtain ⟨a, vs, rfl, h1, h2⟩ : ∃ a vs, v = .ref a ∧ SqL K H a vs ∧ RpL K As H vs ds := by
      cases r with
      | lst n h r => exact ⟨_, _, rfl, SqL.of h, r⟩
    unfold pd at e
    cases e1 : pdL ds with
    | none => rw [e1] at e; cases e
    | some qs =>
      rw [e1] at e
      cases e
      exact .lst h1 (RpL.dp e1 h2)
  | .scr ns, v, q, e, r => by
    obtain ⟨a, rfl, h1⟩ := r.scrAt
    cases e
    exact .lst h1 (dpAll_ints ns)
  | .byt _, _, _, e, _ => by cases e
  | .ty _, _, _, e, _ => by cases e
  | .ref _, _, _, e, _ => by cases e
  | .dct _, _, _, e, _ => by cases e
  | .obj _ _, _, _, e, _ => by cases e
  | .exc _ _, _, _, e, _ => by cases e
  | .cel _, _, _, e, _ => by cases e
theorem RpL.dp {K : PySem.W.Frag} {As : List Addr} {H : Hp} : ∀ {ds : List D} {vs : List V} {qs : List PyData}, pdL ds = some qs → RpL K As H vs ds → DpAll K H vs qs
  | [], _, _, e, r => by
    cases r
    cases e
    exact .nil
  | d :: ds, _, qs, e, r => by
    cases r with
    | cons r1 r2 =>
      unfold pdL at e
      cases e1 : pd d with
      | none => rw [e1] at e; cases e
      | some q1 =>
        cases e2 : pdL ds with
        | none => rw [e1, e2] at e; cases e
        | some q2 =>
          rw [e1, e2] at e
          cases e
          exact .cons (Rp.dp e1 r1) (RpL.dp e2 r2)
end
/-- the data that a value holds -/
def PV (M : List Ce) (d : D) (q : PyData) : Prop := pd d = some q ∨ ∃ ds qs, LV M d ds ∧ pdL ds = some qs ∧ q = .list qs
theorem PV.dat {q : PyData} (h : pd d = some q) : PV M d q := .inl h
theorem PV.l {qs : List PyData} (l : LV M d ds) (h : pdL ds = some qs) : PV M d (.list qs) := .inr ⟨ds, qs, l, h, rfl⟩
theorem PV.dp {K : PySem.W.Frag} {As : List Addr} {H : Hp} {σ : L2.St} {v : V} {q : PyData} (h : PV M d q) (S : Sta K T As M H σ Γ) (r : Rp K As H v d) : Dp K H v q := by
  rcases h with h | ⟨ds, qs, l, h, rfl⟩
  · exact Rp.dp h r
  · obtain ⟨a, vs, rfl, h1, h2⟩ := l.at S r
    exact .lst (SqL.of h1) (RpL.dp h h2)
theorem cm_eqD {q1 q2 : PyData} (hu : X.A.units + 64 < cLine) (h1 : PV M d1 q1) (h2 : PV M d2 q2) (s1 : SeqAt.shaped q1 = true) (s2 : SeqAt.shaped q2 = true) (e : PyData.eqv q1 q2 = z) : CmpE X T .Eq d1 d2 M z M := ⟨_, op_eqD hu, fun As σ Γ H v1 v2 Q S r1 r2 k => by
  subst e
  exact ⟨q1, q2, h1.dp S r1, h2.dp S r2, s1, s2, k As _ H Ch.refl S .bl⟩⟩
theorem cm_neD {q1 q2 : PyData} (hu : X.A.units + 64 < cLine) (h1 : PV M d1 q1) (h2 : PV M d2 q2) (s1 : SeqAt.shaped q1 = true) (s2 : SeqAt.shaped q2 = true) (e : (!PyData.eqv q1 q2) = z) : CmpE X T .NotEq d1 d2 M z M := ⟨_, op_neD hu, fun As σ Γ H v1 v2 Q S r1 r2 k => by
  subst e
  exact ⟨q1, q2, h1.dp S r1, h2.dp S r2, s1, s2, k As _ H Ch.refl S .bl⟩⟩
theorem cm_inD {q1 : PyData} {q2 : List PyData} (hu : X.A.units + 65 < cLine) (h1 : PV M d1 q1) (h2 : PV M d2 (.list q2)) (s1 : SeqAt.shaped q1 = true) (s2 : SeqAt.shaped (.list q2) = true) (e : (q2.any fun z => PyData.eqv z q1) = z) : CmpE X T .In d1 d2 M z M := ⟨_, op_inD hu, fun As σ Γ H v1 v2 Q S r1 r2 k => by
  subst e
  exact ⟨q1, q2, h1.dp S r1, h2.dp S r2, s1, s2, k As _ H Ch.refl S .bl⟩⟩
theorem cm_ninD {q1 : PyData} {q2 : List PyData} (hu : X.A.units + 65 < cLine) (h1 : PV M d1 q1) (h2 : PV M d2 (.list q2)) (s1 : SeqAt.shaped q1 = true) (s2 : SeqAt.shaped (.list q2) = true) (e : (!q2.any fun z => PyData.eqv z q1) = z) : CmpE X T .NotIn d1 d2 M z M := ⟨_, op_notInD hu, fun As σ Γ H v1 v2 Q S r1 r2 k => by
  subst e
  exact ⟨q1, q2, h1.dp S r1, h2.dp S r2, s1, s2, k As _ H Ch.refl S .bl⟩⟩
/-- repr of a list or a tuple -/
def rRepr (K : PySem.W.Frag) : List V → Hp → VK → Prop := fun xs H Q => ∃ (a : Addr) (q : PyData), xs = [.ref a] ∧ Dp K H (.ref a) q ∧ q.showable = true ∧ q.hasDict = false ∧ q.depth ≤ 64 ∧ q.shown.length ≤ sizeLine ∧ Q (.str q.shown) H
theorem call_reprD (hG : X.A.guards = some []) (hu : X.A.units + 65 < cLine) : CallR X (.builtin "repr") (rRepr X.K) := by
  intro pins s σ H xs us Q I r h
  obtain ⟨a, q, rfl, hd, hs, hh, hdp, hsz, k⟩ := h
  obtain ⟨u, rfl, ru⟩ := r.one
  obtain ⟨as, hr⟩ := Dp.reads I q (.ref a) u hd ru
  cases ru
  refine repr_of_reads' hr hs (fun z => by rw [hh] at z; cases z) hG (by omega) (fun _ _ z => z) (fun h' u tk hk => ?_) hsz
  exact ⟨.str q.shown, H, I.kept (t' := tk) hk, ⟨u, rfl⟩, k⟩
theorem ca_repr {q : PyData} (hG : X.A.guards = some []) (hu : X.A.units + 65 < cLine) (hv : PV M d q) (hr : (∃ qs, q = .list qs) ∨ ∃ qs, q = .tuple qs) (hs : q.showable = true) (hh : q.hasDict = false) (hdp : q.depth ≤ 64) (hsz : q.shown.length ≤ sizeLine) : CalE X T (.builtin "repr") [d] M (.str q.shown) M := ⟨_, call_reprD hG hu, fun As σ Γ H vs Q S r k => by
  obtain ⟨v, rfl, rv⟩ := r.one
  have hd := hv.dp S rv
  obtain ⟨a, rfl⟩ : ∃ a, v = .ref a := by
    rcases hr with ⟨qs, rfl⟩ | ⟨qs, rfl⟩
    · cases hd
      exact ⟨_, rfl⟩
    · cases hd
      exact ⟨_, rfl⟩
  exact ⟨a, q, rfl, hd, hs, hh, hdp, hsz, k As _ H Ch.refl S .str⟩⟩
theorem ca_reprI {i : Int} (h : i.natAbs.log2 < 1920) : CalE X T (.builtin "repr") [.int i] M (.str (Str.ofString (toString i))) M := ⟨_, SkE.call_repr_int, fun As σ Γ H vs Q S r k => by
  obtain ⟨v, rfl, rv⟩ := r.one
  cases rv
  exact ⟨i, rfl, h, k As _ H Ch.refl S .str⟩⟩
end
end Bs
namespace Bs
open PySem PySem.Spec PyProof.Rows L2 LamX
section
variable {X : Cx} {T : List (Addr × Str)} {Γ : List (Option D)} {M M1 M2 M3 M' : List Ce} {a b c e elt iter tg : Expr} {ifs es : List Expr} {d d1 d2 : D} {ds ws xs : List D} {z : Bool} {p pos : Pos} {x : Str} {k n : Nat} {W : WX}
theorem t_eq {y : Bool} (h : PT X a (tT X.K T Γ M y M1)) (e : y = z) : PT X a (tT X.K T Γ M z M1) := e ▸ h
theorem t_lit {y : Bool} (h : PT X a (tT X.K T Γ M y M1)) (e : y = z) (hM : M1 = M2) : PT X a (tT X.K T Γ M z M2) := by
  subst e hM
  exact h
/-- [elt for tg in iter if ..], nothing else changed: what it holds -/
theorem e_lcp {scope : Scope} {own : List (Str × Nat)} (q : D → Bool) (f : D → D) (Γt : D → List (Option D)) (hc : X.calm = true) (hN : X.N.Nodup) {kc : Option Nat} (hi : PI X tg iter (tIc X.K T Γ M kc ds M1)) (ok : BlkOk X.N X.env.scope scope own) (hlen : ds.length ≤ 50000) (hl : M.length ≤ M1.length) (hM : ClM M → ClM M1) (hcl : clL M1.length ((ds.filter q).map f) = true)
    (hg : ∀ d g, d ∈ ds → ∀ (s : Shared) (H : Hp) (C : Addr) (cl : List (Str × Addr)) (fp : List Addr), PG (X.blk s H scope (compEnvC scope cl C X.env) fp) tg (tGw X.K T (own.map (·.2)) (wipeG Γ (own.map (·.2))) (M1 ++ [g]) d (Γt d)))
    (ht : ∀ d g, d ∈ ds → ∀ (s : Shared) (H : Hp) (C : Addr) (cl : List (Str × Addr)) (fp : List Addr), PTs (X.blk s H scope (compEnvC scope cl C X.env) fp) ifs (tT X.K T (Γt d) (M1 ++ [g]) (q d) (M1 ++ [g])))
    (he : ∀ d g, d ∈ ds → q d = true → ∀ (s : Shared) (H : Hp) (C : Addr) (cl : List (Str × Addr)) (fp : List Addr), PE (X.blk s H scope (compEnvC scope cl C X.env) fp) elt (tE X.K T (Γt d) (M1 ++ [g]) (f d) (M1 ++ [g])))
    (hs : ∀ x, foldedSetIterable iter X.env x = pure x := by intro _; rfl) (hkc : ∀ k, kc = some k → M1[k]? = some (.lst ds) := by intro _ h; cases h) : PE X (.ListComp elt [⟨tg, iter, ifs, 0⟩] scope pos) (tE X.K T Γ M (.lst ((ds.filter q).map f)) M1) := by
  have hd : ∀ {i : Nat} {d : D}, ds[i]? = some d → ds.getD i .non = d := fun {i d} h => by rw [List.getD_eq_getElem?_getD, h]; rfl
  have hm : ∀ {i : Nat}, i < ds.length → ds.getD i .non ∈ ds := fun {i} h => by
    rw [hd (List.getElem?_eq_getElem h)]
    exact List.getElem_mem h
  have e := lcd_filter (f := f) (q := q) (xs := ds) (zs := fun i => q (ds.getD i .non)) (ws := fun i => f (ds.getD i .non)) (fun i x h => by rw [hd h]) (fun i x h _ => by rw [hd h])
  have main := e_lc (pos := pos) (fun _ => M1) (fun _ => M1) (fun i => Γt (ds.getD i .non)) (fun i => q (ds.getD i .non)) (fun i => f (ds.getD i .non)) M1.length hc hN hi ok (fun _ _ => rfl) (fun _ _ => rfl) (fun _ _ _ => rfl) hlen hl hM (by rw [e]; exact hcl)
    (fun i d g h s H C cl fp => by rw [hd h]; exact hg d g (List.mem_of_getElem? h) s H C cl fp) (fun i g h s H C cl fp => ht _ g (hm h) s H C cl fp) (fun i g h hz s H C cl fp => he _ g (hm h) hz s H C cl fp) hs (fun k hk i _ => hkc k hk)
  rw [e] at main
  exact main
/-- .. without a test -/
theorem e_lcm {scope : Scope} {own : List (Str × Nat)} (f : D → D) (Γt : D → List (Option D)) (hc : X.calm = true) (hN : X.N.Nodup) {kc : Option Nat} (hi : PI X tg iter (tIc X.K T Γ M kc ds M1)) (ok : BlkOk X.N X.env.scope scope own) (hlen : ds.length ≤ 50000) (hl : M.length ≤ M1.length) (hM : ClM M → ClM M1) (hcl : clL M1.length (ds.map f) = true)
    (hg : ∀ d g, d ∈ ds → ∀ (s : Shared) (H : Hp) (C : Addr) (cl : List (Str × Addr)) (fp : List Addr), PG (X.blk s H scope (compEnvC scope cl C X.env) fp) tg (tGw X.K T (own.map (·.2)) (wipeG Γ (own.map (·.2))) (M1 ++ [g]) d (Γt d)))
    (he : ∀ d g, d ∈ ds → ∀ (s : Shared) (H : Hp) (C : Addr) (cl : List (Str × Addr)) (fp : List Addr), PE (X.blk s H scope (compEnvC scope cl C X.env) fp) elt (tE X.K T (Γt d) (M1 ++ [g]) (f d) (M1 ++ [g])))
    (hs : ∀ x, foldedSetIterable iter X.env x = pure x := by intro _; rfl) (hkc : ∀ k, kc = some k → M1[k]? = some (.lst ds) := by intro _ h; cases h) : PE X (.ListComp elt [⟨tg, iter, [], 0⟩] scope pos) (tE X.K T Γ M (.lst (ds.map f)) M1) := by
  have e : ds.filter (fun _ => true) = ds := List.filter_eq_self.mpr fun _ _ => rfl
  have main := e_lcp (pos := pos) (fun _ => true) f Γt hc hN hi ok hlen hl hM (by rw [e]; exact hcl) hg (fun d g _ s H C cl fp => ts_nil) (fun d g h _ => he d g h) hs hkc
  rw [e] at main
  exact main
/-- y = [elt for tg in iter if ..] -/
theorem s_lcp {i : Nat} {y : Str} {py spos : Pos} {scope : Scope} {own : List (Str × Nat)} (q : D → Bool) (f : D → D) (Γt : D → List (Option D)) (hc : X.calm = true) (hN : X.N.Nodup) (hy : X.N[i]? = some y) (hyl : X.env.scope.names.lookup y = some .local) (hyi : i < Γ.length)
    (hsw : swapsWith (.ListComp elt [⟨tg, iter, ifs, 0⟩] scope pos) (some (.Name y py)) spos.line X.env = pure true) {kc : Option Nat} (hi : PI X tg iter (tIc X.K T Γ M kc ds M1)) (ok : BlkOk X.N X.env.scope scope own) (hlen : ds.length ≤ 50000) (hl : M.length ≤ M1.length) (hM : ClM M → ClM M1) (hcl : clL M1.length ((ds.filter q).map f) = true)
    (hg : ∀ d g, d ∈ ds → ∀ (s : Shared) (H : Hp) (C : Addr) (cl : List (Str × Addr)) (fp : List Addr), PG (X.blk s H scope (compEnvC scope cl C X.env) fp) tg (tGw X.K T (own.map (·.2)) (wipeG Γ (own.map (·.2))) (M1 ++ [g]) d (Γt d)))
    (ht : ∀ d g, d ∈ ds → ∀ (s : Shared) (H : Hp) (C : Addr) (cl : List (Str × Addr)) (fp : List Addr), PTs (X.blk s H scope (compEnvC scope cl C X.env) fp) ifs (tT X.K T (Γt d) (M1 ++ [g]) (q d) (M1 ++ [g])))
    (he : ∀ d g, d ∈ ds → q d = true → ∀ (s : Shared) (H : Hp) (C : Addr) (cl : List (Str × Addr)) (fp : List Addr), PE (X.blk s H scope (compEnvC scope cl C X.env) fp) elt (tE X.K T (Γt d) (M1 ++ [g]) (f d) (M1 ++ [g])))
    (hs : ∀ x, foldedSetIterable iter X.env x = pure x := by intro _; rfl) (hkc : ∀ k, kc = some k → M1[k]? = some (.lst ds) := by intro _ h; cases h) : PS X (.Assign [.Name y py] (.ListComp elt [⟨tg, iter, ifs, 0⟩] scope pos) spos) (tS X.K T W Γ M (.nx (Γ.set i (some (.lst ((ds.filter q).map f)))) M1)) := by
  have hd : ∀ {i : Nat} {d : D}, ds[i]? = some d → ds.getD i .non = d := fun {i d} h => by rw [List.getD_eq_getElem?_getD, h]; rfl
  have hm : ∀ {i : Nat}, i < ds.length → ds.getD i .non ∈ ds := fun {i} h => by
    rw [hd (List.getElem?_eq_getElem h)]
    exact List.getElem_mem h
  have e := lcd_filter (f := f) (q := q) (xs := ds) (zs := fun i => q (ds.getD i .non)) (ws := fun i => f (ds.getD i .non)) (fun i x h => by rw [hd h]) (fun i x h _ => by rw [hd h])
  have main := s_lcD (W := W) (pos := pos) (spos := spos) (fun _ => M1) (fun _ => M1) (fun i => Γt (ds.getD i .non)) (fun i => q (ds.getD i .non)) (fun i => f (ds.getD i .non)) M1.length hc hN hy hyl hyi hsw hi ok (fun _ _ => rfl) (fun _ _ => rfl) (fun _ _ _ => rfl) hlen hl hM (by rw [e]; exact hcl)
    (fun i d g h s H C cl fp => by rw [hd h]; exact hg d g (List.mem_of_getElem? h) s H C cl fp) (fun i g h s H C cl fp => ht _ g (hm h) s H C cl fp) (fun i g h hz s H C cl fp => he _ g (hm h) hz s H C cl fp) hs (fun k hk i _ => hkc k hk)
  rw [e] at main
  exact main
theorem s_lcm {i : Nat} {y : Str} {py spos : Pos} {scope : Scope} {own : List (Str × Nat)} (f : D → D) (Γt : D → List (Option D)) (hc : X.calm = true) (hN : X.N.Nodup) (hy : X.N[i]? = some y) (hyl : X.env.scope.names.lookup y = some .local) (hyi : i < Γ.length)
    (hsw : swapsWith (.ListComp elt [⟨tg, iter, [], 0⟩] scope pos) (some (.Name y py)) spos.line X.env = pure true) {kc : Option Nat} (hi : PI X tg iter (tIc X.K T Γ M kc ds M1)) (ok : BlkOk X.N X.env.scope scope own) (hlen : ds.length ≤ 50000) (hl : M.length ≤ M1.length) (hM : ClM M → ClM M1) (hcl : clL M1.length (ds.map f) = true)
    (hg : ∀ d g, d ∈ ds → ∀ (s : Shared) (H : Hp) (C : Addr) (cl : List (Str × Addr)) (fp : List Addr), PG (X.blk s H scope (compEnvC scope cl C X.env) fp) tg (tGw X.K T (own.map (·.2)) (wipeG Γ (own.map (·.2))) (M1 ++ [g]) d (Γt d)))
    (he : ∀ d g, d ∈ ds → ∀ (s : Shared) (H : Hp) (C : Addr) (cl : List (Str × Addr)) (fp : List Addr), PE (X.blk s H scope (compEnvC scope cl C X.env) fp) elt (tE X.K T (Γt d) (M1 ++ [g]) (f d) (M1 ++ [g])))
    (hs : ∀ x, foldedSetIterable iter X.env x = pure x := by intro _; rfl) (hkc : ∀ k, kc = some k → M1[k]? = some (.lst ds) := by intro _ h; cases h) : PS X (.Assign [.Name y py] (.ListComp elt [⟨tg, iter, [], 0⟩] scope pos) spos) (tS X.K T W Γ M (.nx (Γ.set i (some (.lst (ds.map f)))) M1)) := by
  have e : ds.filter (fun _ => true) = ds := List.filter_eq_self.mpr fun _ _ => rfl
  have main := s_lcp (W := W) (pos := pos) (spos := spos) (fun _ => true) f Γt hc hN hy hyl hyi hsw hi ok hlen hl hM (by rw [e]; exact hcl) hg (fun d g _ s H C cl fp => ts_nil) (fun d g h _ => he d g h) hs hkc
  rw [e] at main
  exact main
/-- [elt for tg in iter], nothing else changed: item by item -/
theorem e_lcx {scope : Scope} {own : List (Str × Nat)} (ws : List D) (Γt : D → List (Option D)) (hc : X.calm = true) (hN : X.N.Nodup) {kc : Option Nat} (hi : PI X tg iter (tIc X.K T Γ M kc ds M1)) (ok : BlkOk X.N X.env.scope scope own) (hw : ws.length = ds.length) (hlen : ds.length ≤ 50000) (hl : M.length ≤ M1.length) (hM : ClM M → ClM M1) (hcl : clL M1.length ws = true)
    (hg : ∀ d g, d ∈ ds → ∀ (s : Shared) (H : Hp) (C : Addr) (cl : List (Str × Addr)) (fp : List Addr), PG (X.blk s H scope (compEnvC scope cl C X.env) fp) tg (tGw X.K T (own.map (·.2)) (wipeG Γ (own.map (·.2))) (M1 ++ [g]) d (Γt d)))
    (he : ∀ (i : Nat) d w g, ds[i]? = some d → ws[i]? = some w → ∀ (s : Shared) (H : Hp) (C : Addr) (cl : List (Str × Addr)) (fp : List Addr), PE (X.blk s H scope (compEnvC scope cl C X.env) fp) elt (tE X.K T (Γt d) (M1 ++ [g]) w (M1 ++ [g])))
    (hs : ∀ x, foldedSetIterable iter X.env x = pure x := by intro _; rfl) (hkc : ∀ k, kc = some k → M1[k]? = some (.lst ds) := by intro _ h; cases h) : PE X (.ListComp elt [⟨tg, iter, [], 0⟩] scope pos) (tE X.K T Γ M (.lst ws) M1) := by
  have hd : ∀ {l : List D} {i : Nat} {d : D}, l[i]? = some d → l.getD i .non = d := fun {l i d} h => by rw [List.getD_eq_getElem?_getD, h]; rfl
  have e : lcd (fun _ => true) (fun i => ws.getD i .non) ds.length = ws := by
    rw [← hw]
    have z := lcd_map (f := id) (xs := ws) (zs := fun _ => true) (ws := fun i => ws.getD i .non) (fun _ => rfl) (fun i x h => hd h)
    rw [z, List.map_id]
  have main := e_lc (pos := pos) (fun _ => M1) (fun _ => M1) (fun i => Γt (ds.getD i .non)) (fun _ => true) (fun i => ws.getD i .non) M1.length hc hN hi ok (fun _ _ => rfl) (fun _ _ => rfl) (fun _ _ _ => rfl) hlen hl hM (by rw [e]; exact hcl)
    (fun i d g h s H C cl fp => by rw [hd h]; exact hg d g (List.mem_of_getElem? h) s H C cl fp) (fun i g h s H C cl fp => ts_nil) (fun i g h hz s H C cl fp => by
      have h1 : ds[i]? = some ds[i] := List.getElem?_eq_getElem h
      have h2 : ws[i]? = some (ws[i]'(by omega)) := List.getElem?_eq_getElem (by omega)
      have h3 := he i _ _ g h1 h2 s H C cl fp
      rw [← hd h1, ← hd h2] at h3
      exact h3) hs (fun k hk i _ => hkc k hk)
  rw [e] at main
  exact main
theorem s_lcx {i : Nat} {y : Str} {py spos : Pos} {scope : Scope} {own : List (Str × Nat)} (ws : List D) (Γt : D → List (Option D)) (hc : X.calm = true) (hN : X.N.Nodup) (hy : X.N[i]? = some y) (hyl : X.env.scope.names.lookup y = some .local) (hyi : i < Γ.length)
    (hsw : swapsWith (.ListComp elt [⟨tg, iter, [], 0⟩] scope pos) (some (.Name y py)) spos.line X.env = pure true) {kc : Option Nat} (hi : PI X tg iter (tIc X.K T Γ M kc ds M1)) (ok : BlkOk X.N X.env.scope scope own) (hw : ws.length = ds.length) (hlen : ds.length ≤ 50000) (hl : M.length ≤ M1.length) (hM : ClM M → ClM M1) (hcl : clL M1.length ws = true)
    (hg : ∀ d g, d ∈ ds → ∀ (s : Shared) (H : Hp) (C : Addr) (cl : List (Str × Addr)) (fp : List Addr), PG (X.blk s H scope (compEnvC scope cl C X.env) fp) tg (tGw X.K T (own.map (·.2)) (wipeG Γ (own.map (·.2))) (M1 ++ [g]) d (Γt d)))
    (he : ∀ (i : Nat) d w g, ds[i]? = some d → ws[i]? = some w → ∀ (s : Shared) (H : Hp) (C : Addr) (cl : List (Str × Addr)) (fp : List Addr), PE (X.blk s H scope (compEnvC scope cl C X.env) fp) elt (tE X.K T (Γt d) (M1 ++ [g]) w (M1 ++ [g])))
    (hs : ∀ x, foldedSetIterable iter X.env x = pure x := by intro _; rfl) (hkc : ∀ k, kc = some k → M1[k]? = some (.lst ds) := by intro _ h; cases h) : PS X (.Assign [.Name y py] (.ListComp elt [⟨tg, iter, [], 0⟩] scope pos) spos) (tS X.K T W Γ M (.nx (Γ.set i (some (.lst ws))) M1)) := by
  have hd : ∀ {l : List D} {i : Nat} {d : D}, l[i]? = some d → l.getD i .non = d := fun {l i d} h => by rw [List.getD_eq_getElem?_getD, h]; rfl
  have e : lcd (fun _ => true) (fun i => ws.getD i .non) ds.length = ws := by
    rw [← hw]
    have z := lcd_map (f := id) (xs := ws) (zs := fun _ => true) (ws := fun i => ws.getD i .non) (fun _ => rfl) (fun i x h => hd h)
    rw [z, List.map_id]
  have main := s_lcD (W := W) (pos := pos) (spos := spos) (fun _ => M1) (fun _ => M1) (fun i => Γt (ds.getD i .non)) (fun _ => true) (fun i => ws.getD i .non) M1.length hc hN hy hyl hyi hsw hi ok (fun _ _ => rfl) (fun _ _ => rfl) (fun _ _ _ => rfl) hlen hl hM (by rw [e]; exact hcl)
    (fun i d g h s H C cl fp => by rw [hd h]; exact hg d g (List.mem_of_getElem? h) s H C cl fp) (fun i g h s H C cl fp => ts_nil) (fun i g h hz s H C cl fp => by
      have h1 : ds[i]? = some ds[i] := List.getElem?_eq_getElem h
      have h2 : ws[i]? = some (ws[i]'(by omega)) := List.getElem?_eq_getElem (by omega)
      have h3 := he i _ _ g h1 h2 s H C cl fp
      rw [← hd h1, ← hd h2] at h3
      exact h3) hs (fun k hk i _ => hkc k hk)
  rw [e] at main
  exact main
/-- a list, cell or datum, walked -/
def kcOf : D → Option Nat
  | .cel k => some k
  | _ => none
theorem i_lv (h : PE X iter (tE X.K T Γ M d1 M1)) (l : LV M1 d1 ds) : PI X tg iter (tIc X.K T Γ M (kcOf d1) ds M1) := by
  rcases l with rfl | ⟨k, rfl, hk⟩
  · exact i_list h
  · exact i_cel h hk
theorem LV.kc (l : LV M d1 ds) : ∀ k, kcOf d1 = some k → M[k]? = some (.lst ds) := by
  rcases l with rfl | ⟨k, rfl, hk⟩
  · intro _ h
    cases h
  · intro k' h
    cases h
    exact hk
end
def blkB (N : List Str) (sc scope : Scope) (own : List (Str × Nat)) : Bool := decide (scope.kind = .function) && (scope.names.all (fun y => decide (scope.names.lookup y.1 = some y.2)) && (own.all (fun p => decide (N[p.2]? = some p.1)) &&
  (scope.names.all (fun y => !decide (y.2 = .free) || (decide (sc.names.lookup y.1 = some .cell) || decide (sc.names.lookup y.1 = some .free))) && scope.names.all (fun y => !(decide (y.2 = .local) || decide (y.2 = .cell)) || (decide (y.1 ∈ own.map (·.1)) || !decide (y.1 ∈ N))))))
theorem blk_ok {N : List Str} {sc scope : Scope} {own : List (Str × Nat)} (h : blkB N sc scope own = true) : BlkOk N sc scope own := by
  obtain ⟨h1, h⟩ := b2 h
  obtain ⟨h2, h⟩ := b2 h
  obtain ⟨h3, h⟩ := b2 h
  obtain ⟨h4, h5⟩ := b2 h
  refine ⟨of_decide_eq_true h1, fun y hy => of_decide_eq_true (List.all_eq_true.mp h2 y hy), fun p hp => of_decide_eq_true (List.all_eq_true.mp h3 p hp), fun y hy hf => ?_, fun y hy hf => ?_⟩
  · have z := List.all_eq_true.mp h4 y hy
    simp only [hf, decide_true, Bool.not_true, Bool.false_or, Bool.or_eq_true, decide_eq_true_eq] at z
    exact z
  · have z := List.all_eq_true.mp h5 y hy
    have e : (decide (y.2 = NameKind.local) || decide (y.2 = NameKind.cell)) = true := by
      simp only [Bool.or_eq_true, decide_eq_true_eq]
      exact hf
    rw [e] at z
    simp only [Bool.not_true, Bool.false_or, Bool.or_eq_true, decide_eq_true_eq, Bool.not_eq_true', decide_eq_false_iff_not] at z
    exact z
theorem boot_ValueError : bootBuiltins "ValueError" = some (.type "ValueError") := by decide +kernel
theorem boot_TypeError : bootBuiltins "TypeError" = some (.type "TypeError") := by decide +kernel
theorem get_app {M : List Ce} {c : Ce} : (M ++ [c])[M.length]? = some c := by simp
theorem get_app_lt {M N : List Ce} {c : Ce} {k : Nat} (h : M[k]? = some c) : (M ++ N)[k]? = some c := by
  rw [List.getElem?_append_left (List.getElem?_eq_some_iff.mp h).1]
  exact h
theorem set_app {M : List Ce} {c c' : Ce} : (M ++ [c]).set M.length c' = M ++ [c'] := by
  rw [List.set_append_right _ _ (Nat.le_refl _), Nat.sub_self]
  rfl
/-! ## the program's exceptions -/
def errNames : List Str := ["RowError", "NotRow", "NotTable", "NotKey", "NotKeys", "NotRows", "NotOrder", "NotRule", "NotInteger", "NotScan", "NotBound", "NotFormula", "NotDeed", "NotText", "NotBytes", "NotLine", "Missing", "Impossible", "TooLarge", "NothingDone", "Twice", "Held", "TooMany", "Competing", "Ringed", "Collision"]
def errWords : List Str := ["row", "table", "key", "keys", "rows", "order", "rule", "integer", "scan", "bound", "formula", "deed", "text", "bytes", "line", "missing", "impossible", "large", "nothing", "twice", "held", "many", "competing", "ringed", "collision"]
def errFields : List (List Str) := [["key"], ["key"], ["many", "most"], ["pair"], ["ring"], ["row", "holder"]]
structure Errs (P : Program) (K : PySem.W.Frag) (mg : Str → Option Value) (C : Nat → Addr) : Prop where
  g : ∀ (i : Nat) (x : Str), errNames[i]? = some x → mg x = some (.ref (C i))
  k : ∀ i, i < 26 → ExK K (C i)
  is : ∀ i j, 0 < i → i < 26 → j < 26 → PySem.W.kitOne K (.ref (C i)) (.ref (C j)) = some (decide (i = j) || decide (j = 0))
  isV : ∀ i, i < 26 → PySem.W.kitOne K (.ref (C i)) (.type "ValueError") = some true
  e0 : ∀ (i : Nat) (x : Str), i < 20 → errNames[i]? = some x → Ex0 K mg x (C i)
  eI : ∀ (i : Nat) (x : Str) (fs : List Str), errNames[20 + i]? = some x → errFields[i]? = some fs → ExI P K mg x (C (20 + i)) fs
theorem Errs.no {P : Program} {K : PySem.W.Frag} {mg : Str → Option Value} {C : Nat → Addr} (E : Errs P K mg C) (i : Nat) {x : Str} {fs : List Str} {f : Str} (h1 : errNames[20 + i]? = some x) (h2 : errFields[i]? = some fs) (h : f ∈ fs) : PySem.W.findIn K (.ref (C (20 + i))) f = some none := by
  obtain ⟨fI, S⟩ := (E.eI i x fs h1 h2).sup
  exact S.noN f h
end Bs
namespace Bs
open PySem PySem.Spec PyProof.Rows L2 LamX
mutual
/-- small leaves, no dicts -/
def sml : PyData → Bool
  | .none | .bool _ => true
  | .int i => decide (i.natAbs < 10 ^ 100)
  | .str x => x.cps.toList.all fun c => decide (c < 16 ^ 8)
  | .list xs | .tuple xs => smlL xs
  | .dict _ => false
def smlL : List PyData → Bool
  | [] => true
  | x :: xs => sml x && smlL xs
end
theorem log2_small {n : Nat} (h : n < 10 ^ 100) : n.log2 < 1920 := by
  by_cases h0 : n = 0
  · subst h0
    decide
  · rw [Nat.log2_lt h0]
    have e : (16 : Nat) ^ 100 = 2 ^ (4 * 100) := (Nat.pow_mul 2 4 100).symm
    have h1 : (10 : Nat) ^ 100 ≤ 16 ^ 100 := Nat.pow_le_pow_left (by decide) 100
    rw [e] at h1
    exact Nat.lt_of_lt_of_le h (Nat.le_trans h1 (Nat.pow_le_pow_right (by decide) (by decide)))
mutual
theorem sml_ok : ∀ {q : PyData}, sml q = true → q.showable = true ∧ q.hasDict = false ∧ q.leavesShort 101 = true
  | .none, _ => ⟨rfl, rfl, rfl⟩
  | .bool _, _ => ⟨rfl, rfl, rfl⟩
  | .int i, h => by
    have h1 : i.natAbs < 10 ^ 100 := of_decide_eq_true h
    refine ⟨decide_eq_true (log2_small h1), rfl, decide_eq_true ?_⟩
    have h2 := int_text_length_le10 (a := i) (k := 100) (by decide) h1
    show (Str.ofString (toString i)).length ≤ 101
    rw [PySem.ofString_length]
    exact h2
  | .str x, h => ⟨rfl, rfl, h⟩
  | .list xs, h => smlL_ok h
  | .tuple xs, h => smlL_ok h
  | .dict _, h => by cases h
theorem smlL_ok : ∀ {qs : List PyData}, smlL qs = true → PyData.showableAll qs = true ∧ PyData.hasDictAll qs = false ∧ PyData.leavesShortAll 101 qs = true
  | [], _ => ⟨rfl, rfl, rfl⟩
  | q :: qs, h => by
    obtain ⟨h1, h2⟩ := b2 h
    obtain ⟨a1, a2, a3⟩ := sml_ok h1
    obtain ⟨b1, b2, b3⟩ := smlL_ok h2
    refine ⟨?_, ?_, ?_⟩
    · show (q.showable && PyData.showableAll qs) = true
      rw [a1, b1]; rfl
    · show (q.hasDict || PyData.hasDictAll qs) = false
      rw [a2, b2]; rfl
    · show (q.leavesShort 101 && PyData.leavesShortAll 101 qs) = true
      rw [a3, b3]; rfl
end
theorem shown_small {q : PyData} (h : sml q = true) (hw : q.bulk ≤ 150000) : q.shown.length ≤ sizeLine := by
  have h1 := PyData.shown_le_bulk 101 (by decide) q (sml_ok h).2.2
  rw [sizeLine_eq]
  omega
section
variable {X : Cx} {T : List (Addr × Str)} {M : List Ce} {d : D}
theorem ca_reprS {q : PyData} (hG : X.A.guards = some []) (hu : X.A.units + 65 < cLine) (hv : PV M d q) (hr : (∃ qs, q = .list qs) ∨ ∃ qs, q = .tuple qs) (hs : sml q = true) (hdp : q.depth ≤ 64) (hw : q.bulk ≤ 150000) : CalE X T (.builtin "repr") [d] M (.str q.shown) M :=
  ca_repr hG hu hv hr (sml_ok hs).1 (sml_ok hs).2.1 hdp (shown_small hs hw)
end
end Bs
namespace Bs
open PySem PySem.Spec PyProof.Rows L2 LamX
/-! ## the law's call from the outside: no repr is under way there -/
abbrev tbo : Obj := { cls := .none, data := .fields #[] }
abbrev sco (vs : List Value) : Obj := { cls := .type "list", data := .seq vs.toArray }
/-- the abstract heap at the start -/
structure Beg (P : Program) (w : World) (K : PySem.W.Frag) (tb : List Addr) (a : Addr) (ns : List Int) (h : Heap) (H : Hp) : Prop where
  tab : ∀ p ∈ tb, H p = some (.tbl #[])
  kind : ∀ b, H b = none ∨ b ∈ tb ∨ ∃ o xs, H b = some (.frz o (.lst xs))
  sq : SqL K H a (ns.map V.int)
  ok : HOk P w H h
  only : ∀ b, H b ≠ none → b = a ∨ b ∈ tb
  out : H a ≠ none → K.lookup a = none
section
variable {P : Program} {w : World} {K : PySem.W.Frag} {mg mb : Str → Option Value} {k : Nat} {fa a : Addr} {cs : List (Addr × Addr)} {fd : FuncData} {x : Str} {sp : Sp} {s : Shared} {vs : List Value} {ns : List Int} {tb : List Addr}
theorem Beg.make (KX : K.In s.heap) (hT : ∀ p ∈ tb, s.heap.get? p = some tbo) (ha : s.heap.get? a = some (sco vs)) (hi : IntsAre vs ns) (hl : ns.length ≤ sizeLine) : ∃ H, Beg P w K tb a ns s.heap H := by
  have rv := vals_ints hi
  have aT : a ∉ tb := fun z => by
    have q := hT a z
    rw [ha] at q
    cases congrArg Obj.data (Option.some.inj q)
  by_cases hk : K.lookup a = none
  · let H : Hp := fun b => if b = a then some (.frz (sco vs) (.lst (ns.map V.int))) else if b ∈ tb then some (.tbl #[]) else none
    have h1 : H a = some (.frz (sco vs) (.lst (ns.map V.int))) := if_pos rfl
    have h2 : ∀ b, b ≠ a → b ∈ tb → H b = some (.tbl #[]) := fun b n m => (if_neg n).trans (if_pos m)
    have h3 : ∀ b, b ≠ a → b ∉ tb → H b = none := fun b n m => (if_neg n).trans (if_neg m)
    refine ⟨H, fun p hp => h2 p (fun z => aT (z ▸ hp)) hp, fun b => ?_, .inl (.inr ⟨_, h1⟩), fun b u z => ?_, fun b z => ?_, fun _ => hk⟩
    · rcases Classical.em (b = a) with rfl | n
      · exact .inr (.inr ⟨_, _, h1⟩)
      · rcases Classical.em (b ∈ tb) with m | m
        · exact .inr (.inl m)
        · exact .inl (h3 b n m)
    · rcases Classical.em (b = a) with rfl | n
      · rw [h1] at z
        cases z
        exact ⟨ha, by rw [List.length_map]; exact hl, vs, _, rv, ha⟩
      · rcases Classical.em (b ∈ tb) with m | m
        · rw [h2 b n m] at z
          cases z
          exact hT b m
        · rw [h3 b n m] at z
          cases z
    · rcases Classical.em (b = a) with e | n
      · exact .inl e
      · rcases Classical.em (b ∈ tb) with m | m
        · exact .inr m
        · exact absurd (h3 b n m) z
  · obtain ⟨o, hk⟩ := Option.ne_none_iff_exists'.mp hk
    have e := KX a o hk
    rw [ha] at e
    cases e
    let H : Hp := fun b => if b ∈ tb then some (.tbl #[]) else none
    have h2 : ∀ b, b ∈ tb → H b = some (.tbl #[]) := fun b m => if_pos m
    have h3 : ∀ b, b ∉ tb → H b = none := fun b m => if_neg m
    refine ⟨H, h2, fun b => ?_, .inr ⟨_, vs.toArray, _, hk, rfl, rfl, rfl, by rw [List.size_toArray, hi.length]; exact hl, by simpa using rv⟩, fun b u z => ?_, fun b z => ?_, fun z => absurd (h3 a aT) z⟩
    · rcases Classical.em (b ∈ tb) with m | m
      · exact .inr (.inl m)
      · exact .inl (h3 b m)
    · rcases Classical.em (b ∈ tb) with m | m
      · rw [h2 b m] at z
        cases z
        exact hT b m
      · rw [h3 b m] at z
        cases z
    · rcases Classical.em (b ∈ tb) with m | m
      · exact .inr m
      · exact absurd (h3 b m) z
/-- what is neither a sequence nor an empty table isn't tracked -/
theorem Beg.no {H : Hp} {b : Addr} {o : Obj} (E : Beg P w K tb a ns s.heap H) (hT : ∀ p ∈ tb, s.heap.get? p = some tbo) (ha : s.heap.get? a = some (sco vs)) (e : s.heap.get? b = some o) (d1 : ∀ us n, o.data ≠ .seq us n) (d2 : o.data ≠ .fields #[]) : H b = none := by
  rcases Classical.em (H b = none) with q | q
  · exact q
  · rcases E.only b q with rfl | m
    · rw [ha] at e
      cases e
      exact absurd rfl (d1 _ _)
    · rw [hT b m] at e
      cases e
      exact absurd rfl d2
theorem law_callR (KX : K.In s.heap) (hns : s.heap.Ns mainGlobals mg) (hb : s.heap.Ns builtinsNs mb) (hbb : ∀ x : Str, x ≠ "__name__" → mb x = bootBuiltins x) (hlim : s.heap.NoLimit) (hg : s.gens = #[]) (hT : ∀ p ∈ cs, s.heap.get? p.2 = some tbo) (nT : ∀ p ∈ cs, K.lookup p.2 = none)
    (hC : ∀ p ∈ cs, PySem.W.CodeHd s.heap p.1 p.2) (hbm : ∃ (bm : Addr) (ob : Obj), mg "__builtins__" = some (.ref bm) ∧ bm ≠ builtinsNs ∧ s.heap.get? bm = some ob ∧ ob.cls = .type "module" ∧ ob.dict = some builtinsNs ∧ ob.data = .plain) (ha : s.heap.get? a = some (sco vs)) (hi : IntsAre vs ns) (hl : ns.length ≤ sizeLine) (hr : Room k callerA)
    (F : ∀ base : Heap, K.In base → base.Ns mainGlobals mg → (∀ p ∈ cs, LamX.TabB base mg p.1 p.2) → FnK P w K mg base k fa fd [x] sp) (hbind : ∀ (s : Shared) (u : Value), BindsTo s fd ⟨[u], []⟩ [(x, u)]) (hsp : ∀ H : Hp, (∀ p ∈ cs, H p.2 = some (.tbl #[])) → SqL K H a (ns.map V.int) → sp [.ref a] H (fun v _ => v = .bl true) fun _ _ _ => False) :
    codeAny (model P w) callerA (.call (.ref fa) ⟨[.ref a], []⟩) (fun r s' => r = .ok (.ret (.bool true)) ∧ OldK s.heap s'.heap ∧ s'.os = s.os ∧ AllBare s'.gens) s := by
  have hT' : ∀ p ∈ cs.map (·.2), s.heap.get? p = some tbo := fun b hb => by
    obtain ⟨p, hp, rfl⟩ := List.mem_map.mp hb
    exact hT p hp
  have mem : ∀ p ∈ cs, p.2 ∈ cs.map (·.2) := fun p hp => List.mem_map_of_mem hp
  obtain ⟨H, E⟩ := Beg.make (P := P) (w := w) KX hT' ha hi hl
  have bs : ∀ {b : Addr} {o : Obj}, s.heap.get? b = some o → (∀ us n, o.data ≠ .seq us n) → o.data ≠ .fields #[] → (hidT s.heap H).get? b = some o := fun e d1 d2 => hidT_get e (E.no hT' ha e d1 d2)
  have nsB : ∀ {b : Addr} {m : Str → Option Value}, s.heap.Ns b m → (hidT s.heap H).Ns b m := fun ⟨o, es, ep, e, d, r⟩ => ⟨o, es, ep, bs e (fun us n z => by rw [d] at z; cases z) (fun z => by rw [d] at z; cases z), d, r⟩
  have KB : K.In (hidT s.heap H) := fun b o e => by
    refine hidT_get (KX b o e) ?_
    rcases Classical.em (H b = none) with q | q
    · exact q
    · rcases E.only b q with rfl | m
      · rw [E.out q] at e
        cases e
      · obtain ⟨p, hp, rfl⟩ := List.mem_map.mp m
        rw [nT p hp] at e
        cases e
  have TB : ∀ p ∈ cs, LamX.TabB (hidT s.heap H) mg p.1 p.2 := fun p hp => by
    have tp := hT p hp
    constructor
    · obtain ⟨o, us, file, tf, flags, tg, inF, text, tt, e1, r1, r2, r3, rest⟩ := hC p hp
      exact ⟨o, us, file, tf, flags, tg, inF, text, tt, bs e1 (fun us n z => by rw [r2] at z; cases z) (fun z => by rw [r2] at z; cases z; simp at r3), r1, r2, r3, rest⟩
    · obtain ⟨bm, ob, b1, b2, b3, b4, b5, b6⟩ := hbm
      refine ⟨bm, ob, b1, b2, fun z => ?_, fun z => ?_, bs b3 (fun us n z => by rw [b6] at z; cases z) (fun z => by rw [b6] at z; cases z), b4, b5, b6⟩
      · obtain ⟨o, es, ep, e, d, _⟩ := hns
        rw [← z, b3] at e
        cases e
        rw [b6] at d
        cases d
      · rw [z, tp] at b3
        cases b3
        cases b6
    · intro z
      obtain ⟨o, es, ep, e, d, _⟩ := hns
      rw [z, tp] at e
      cases e
      cases d
  have lim : (hidT s.heap H).NoLimit := by
    obtain ⟨mc, q1, q2⟩ := hlim
    exact ⟨mc, nsB q1, q2⟩
  have e0 : Env0 P w K mg (hidT s.heap H) callerA [] s H := { frames := rfl, mod := ⟨KB, nsB hns, ⟨mb, nsB hb, hbb⟩, lim⟩, bs := fun b o e => of_hidT e, bsz := Nat.le_of_eq (hidT_size _ _), funs := trivial, frf := (fun b z => by cases (show b ∈ ([] : List Addr) from z)), hok := E.ok, bare := .of_eq hg }
  refine codeAny_mono ((F _ KB (nsB hns) TB).go callerA [] s H ⟨[.ref a], []⟩ [.ref a] [.ref a] _ _ rfl hr e0 (hbind s _) (.cons rfl .nil) (hsp H (fun p hp => E.tab _ (mem p hp)) E.sq)) fun r s' z => ?_
  match r, z with
  | .error e, z =>
    obtain ⟨_, _, _, _, _, _, _, _, _, _, _, _, q⟩ := z
    exact q.elim
  | .ok (.ret u), z =>
    obtain ⟨v, H', os, bare, un, ok', rr, q⟩ := z
    cases (show v = .bl true from q)
    cases (show u = Value.bool true from rr)
    have keep : ∀ b o, b ∉ cs.map (·.2) → s.heap.get? b = some o → s'.heap.get? b = some o := fun b o nb e => by
      rcases E.kind b with n | n | ⟨ob, xs, n⟩
      · exact un.keep b o e n (fun z => by cases (show b ∈ ([] : List Addr) from z)) (by simp)
      · exact absurd n nb
      · have f1 := (E.ok b _ n).1
        have f2 := (ok' b _ (un.frzs b ob _ n)).1
        rw [e] at f1
        cases f1
        exact f2
    have tabs : ∀ p ∈ cs, ∃ more : Array Value, s'.heap.get? p.2 = some { cls := .none, data := .fields more } := fun p hp => by
      obtain ⟨more, n⟩ := un.tbls p.2 #[] (E.tab _ (mem p hp))
      exact ⟨_, ok' p.2 _ n⟩
    refine ⟨rfl, ⟨fun b o e => ?_, fun b o e => ?_⟩, os, bare⟩
    · rcases Classical.em (b ∈ cs.map (·.2)) with m | m
      · obtain ⟨p, hp, rfl⟩ := List.mem_map.mp m
        obtain ⟨more, hm⟩ := tabs p hp
        rw [hT p hp] at e
        cases e
        refine .inr (.inl ⟨((hC p hp).tab (hT p hp)).isCodeTable, rfl, #[], more, rfl, ?_⟩)
        rw [Array.empty_append]
        exact hm
      · exact .inl (keep b o m e)
    · rcases Classical.em (b ∈ cs.map (·.2)) with m | m
      · obtain ⟨p, hp, rfl⟩ := List.mem_map.mp m
        exact ⟨_, (tabs p hp).choose_spec⟩
      · exact ⟨o, keep b o m e⟩
end
end Bs
namespace Bs
open PySem PySem.Spec PyProof.Rows L2 LamX
/-! ## the head: what is told of the module -/
def cA (K : PySem.W.Frag) (i : Nat) : Addr := He.ga K (errNames.getD i Str.empty)
abbrev SupV : Type := Option (Str × Str × Arguments × FuncBody × Scope × Addr × List Str × Value × Addr)
def supObs (K : PySem.W.Frag) (x : Str) : SupV := match K.lookup (He.ma K (He.ga K x) "__init__") with
  | some ⟨_, _, .func fd, _⟩ => some (fd.name, fd.qualname, fd.params, fd.body, fd.scope, fd.globals, fd.closure.map (·.1), fd.defaults, fd.builtins)
  | _ => none
structure SupD where
  x : Str
  qual : Str
  params : Arguments
  body : List Stmt
  scope : Scope
  fs : List Str
def SupD.val (d : SupD) : SupV := some ("__init__", d.qual, d.params, .stmts d.body, d.scope, mainGlobals, ["__class__"], .none, builtinsNs)
def oexB (K : PySem.W.Frag) (C : Addr) : Bool := match K.lookup C with
  | some ⟨.type "type", _, .cls cd, sl⟩ => (match cd.mro, sl.toList with
    | .ref C' :: bm, [_, _, _, _, some (.builtin n), _] => decide (C' = C) && (decide (n = "ValueError.__new__") && (!cd.hasDel && (cd.hasDict && HandSPX.refsVE bm)))
    | _, _ => false)
  | _ => false
theorem oexB_ok {K : PySem.W.Frag} {C : Addr} (h : oexB K C = true) : ∃ nm q N bs bm sn sub ab col dd k0 k1 k2 k3 k5, K.lookup C = some (excClassObj nm q C N bs bm true sn sub ab col dd k0 k1 k2 k3 k5 "ValueError.__new__") ∧ PySem.HandSPX.refsVE bm = true := by
  unfold oexB at h
  split at h
  · rename_i dd cd sl ho
    split at h
    · rename_i C' bm k0 k1 k2 k3 n k5 hm hs
      obtain ⟨h1, h⟩ := b2 h
      obtain ⟨h2, h⟩ := b2 h
      obtain ⟨h3, h⟩ := b2 h
      obtain ⟨h4, h5⟩ := b2 h
      have e1 := of_decide_eq_true h1
      have e2 := of_decide_eq_true h2
      subst e1 e2
      obtain ⟨nm, bs, mro, ns, qn, hd, sn, sub, ab, col, del⟩ := cd
      dsimp only at hm h3 h4
      subst hm h4
      have h3' : del = false := by simpa using h3
      subst h3'
      have hsl : sl = #[k0, k1, k2, k3, some (.builtin "ValueError.__new__"), k5] := by
        obtain ⟨l⟩ := sl
        simp only at hs
        rw [hs]
      subst hsl
      exact ⟨nm, qn, ns, bs, bm, sn, sub, ab, col, dd, k0, k1, k2, k3, k5, ho, h5⟩
    · cases h
  · cases h
def codeB (K : PySem.W.Frag) (file q : Str) (C : Addr) (fI : Addr) : Bool := match K.lookup fI with
  | some ⟨_, _, .func fd, _⟩ => (match fd.code with
    | .ref cda => PySem.W.codeIn K (.ref cda) q && (match K.lookup cda with
      | some ⟨_, _, .fields vs, _⟩ => (match (vs[2]? : Option Value) with
        | some (.str s _) => decide (s = file)
        | _ => false)
      | _ => false)
    | _ => false) && (match fd.closure with
    | [(_, cc)] => (match K.lookup cc with
      | some ⟨_, _, .cell (some (.ref C')), _⟩ => decide (C' = C)
      | _ => false)
    | _ => false)
  | _ => false
/-- the facts of an exception class with such an __init__ -/
def supOk (K : PySem.W.Frag) (file : Str) (d : SupD) : Bool := oexB K (He.ga K d.x) && (He.eqO (PySem.W.findIn K (.ref (He.ga K d.x)) "__setattr__") (some (some (.builtin "object.__setattr__"))) && (decide (PySem.W.subIn K (.ref (He.ga K d.x)) (.type "BaseException") = some true) && (decide (PySem.W.typeIn K (.ref (He.ga K d.x)) = some (.type "type")) &&
  (PySem.W.keepIn K (.ref (He.ga K d.x)) && (He.eqO (PySem.W.findIn K (.ref (He.ga K d.x)) "__init__") (some (some (.ref (He.ma K (He.ga K d.x) "__init__")))) && (decide (PySem.W.typeIn K (.ref (He.ma K (He.ga K d.x) "__init__")) = some (.type "function")) && (He.eqO (PySem.W.nsIn K cStatics "thirdparty.any") (some none) &&
    (He.eqO (PySem.W.nsIn K mainGlobals "super") (some none) && (decide (PySem.W.ks_superIn K (He.ga K d.x) (He.ga K d.x) "__init__" = some (some (.builtin "ValueError.__init__"))) && (decide (PySem.W.subIn K (.ref (He.ga K d.x)) (.type "ValueError") = some true) && (decide (PySem.W.mroIn K (He.ga K d.x) (.ref (He.ga K d.x)) = some true) &&
      (d.fs.all (fun f => He.eqO (PySem.W.findIn K (.ref (He.ga K d.x)) f) (some none)) && codeB K file d.qual (He.ga K d.x) (He.ma K (He.ga K d.x) "__init__")))))))))))))
/-- what the text says of it -/
structure SupT (P : Program) (d : SupD) : Prop where
  hs : d.fs ≠ [] ∧ d.fs.Nodup ∧ d.fs.length ≤ 5 ∧ ("self" : Str) ∉ d.fs
  htop : (P.main.scope.names.lookup ("super" : Str)).isSome = false
  body : ∃ m j p0 p1 p2 p3 p4 p5 rest, d.body = supB m j p0 p1 p2 p3 p4 p5 :: rest ∧ Sets d.fs rest ∧ (∀ env : PySem.Env, ∃ pl : Sem Bool, eval (.Call (.Attribute (.Call (.Name "super" p0) [] [] p1) "__init__" p2) [.Constant (.str m) j p3] [] p4) env = (do
      let ov ← attributeBase (.Call (.Name "super" p0) [] [] p1) "__init__" env (eval (.Call (.Name "super" p0) [] [] p1) env)
      standAt p2.atName
      let (f, first) ← holding [ov] (getMethod ov "__init__" pl)
      callWith p4 f first (backTo p4 (starEach [.Constant (.str m) j p3] env)) []))
  par : ∃ ar, (d.params.posonlyargs ++ d.params.args).head? = some ar ∧ ar.arg = "self"
  bind : ∀ (kV doc pm : Value) (an : Option Addr) (cdv ct : Value) (cc : Addr) (us : List Value), us.length = d.fs.length + 1 → bindArgs (PySem.W.ksFn "__init__" d.qual d.params d.body d.scope .none kV doc pm an cdv ct cc) ⟨us, []⟩ = pure (((("self" : Str)) :: d.fs).zip us)
  sc : d.scope.kind = .function ∧ d.scope.isCoroutine = false ∧ d.scope.isGenerator = false ∧ (∀ x ∈ d.scope.names, x.2 ≠ .cell) ∧ (∀ x ∈ ("self" : Str) :: d.fs, d.scope.names.lookup x = some .local) ∧ d.scope.names.lookup ("super" : Str) = some .globalImplicit ∧ d.scope.names.lookup ("__class__" : Str) = some .free
  dbg : ∀ f ∈ ("self" : Str) :: d.fs, (f == ("__debug__" : Str)) = false
theorem supOk_ok {P : Program} {K : PySem.W.Frag} {d : SupD} (e : supObs K d.x = d.val) (h : supOk K P.main.file d = true) (t : SupT P d) : SupC P K (He.ga K d.x) (He.ma K (He.ga K d.x) "__init__") d.fs := by
  obtain ⟨h1, h⟩ := b2 h
  obtain ⟨h2, h⟩ := b2 h
  obtain ⟨h3, h⟩ := b2 h
  obtain ⟨h4, h⟩ := b2 h
  obtain ⟨h5, h⟩ := b2 h
  obtain ⟨h6, h⟩ := b2 h
  obtain ⟨h7, h⟩ := b2 h
  obtain ⟨h8, h⟩ := b2 h
  obtain ⟨h9, h⟩ := b2 h
  obtain ⟨h10, h⟩ := b2 h
  obtain ⟨h11, h⟩ := b2 h
  obtain ⟨h12, h⟩ := b2 h
  obtain ⟨h13, h14⟩ := b2 h
  refine ⟨⟨oexB_ok h1, He.eqO_ok h2, of_decide_eq_true h3, of_decide_eq_true h4, h5⟩, He.eqO_ok h6, of_decide_eq_true h7, He.eqO_ok h8, He.eqO_ok h9, of_decide_eq_true h10, of_decide_eq_true h11, of_decide_eq_true h12, fun f hf => He.eqO_ok (List.all_eq_true.mp h13 f hf), t.hs, t.htop, ?_⟩
  unfold codeB at h14
  unfold supObs at e
  cases q : K.lookup (He.ma K (He.ga K d.x) "__init__") with
  | none => rw [q] at h14; cases h14
  | some o =>
    obtain ⟨oc, od, dt, osl⟩ := o
    rw [q] at h14 e
    cases dt with
    | func fd =>
      obtain ⟨n1, n2, n3, n4, n5, n6, n7, n8, n9, n10, n11, n12, n13, n14, n15⟩ := fd
      have e2 : (some (n1, n2, n3, n4, n5, n6, n7.map (·.1), n8, n15) : SupV) = (some (("__init__" : Str), d.qual, d.params, .stmts d.body, d.scope, mainGlobals, [("__class__" : Str)], .none, builtinsNs) : SupV) := e
      simp only [Option.some.injEq, Prod.mk.injEq] at e2
      obtain ⟨g1, g2, g3, g4, g5, g6, g7, g8, g9⟩ := e2
      obtain ⟨c1, c2⟩ := b2 h14
      cases n13 with
      | ref cda =>
        obtain ⟨cI, c3⟩ := b2 c1
        match n7, g7, c2 with
        | [(y, cc)], g7, c2 =>
          have gy : y = "__class__" := by simpa using g7
          subst g1 g2 g3 g4 g5 g6 g8 g9 gy
          cases q2 : K.lookup cda with
          | none => rw [q2] at c3; cases c3
          | some o2 =>
            obtain ⟨o2c, o2d, dt2, o2s⟩ := o2
            rw [q2] at c3
            cases dt2 with
            | fields vs =>
              dsimp only at c3
              cases q3 : vs[2]? with
              | none => rw [q3] at c3; cases c3
              | some v =>
                rw [q3] at c3
                cases v with
                | str s tf =>
                  have es : s = P.main.file := of_decide_eq_true c3
                  subst es
                  dsimp only at c2
                  cases q4 : K.lookup cc with
                  | none => rw [q4] at c2; cases c2
                  | some o4 =>
                    obtain ⟨o4c, o4d, dt4, o4s⟩ := o4
                    rw [q4] at c2
                    cases dt4 with
                    | cell cv =>
                      cases cv with
                      | none => cases c2
                      | some v4 =>
                        cases v4 with
                        | ref C' =>
                          have e4 : C' = He.ga K d.x := of_decide_eq_true c2
                          subst e4
                          obtain ⟨m, j, p0, p1, p2, p3, p4, p5, rest, hb, hse, hl⟩ := t.body
                          obtain ⟨s1, s2, s3, s4, s5, s6, s7⟩ := t.sc
                          exact ⟨oc, od, osl, d.qual, d.params, d.body, d.scope, n9, n10, n11, n12, cda, n14, cc, rfl, cI, ⟨_, _, vs, _, tf, q2, q3⟩, ⟨_, _, _, q4⟩, ⟨m, j, p0, p1, p2, p3, p4, p5, rest, hb, hse, hl⟩, t.par, fun us hu => t.bind _ _ _ _ _ _ _ us hu, s1, s2, s3, s4, s5, s6, s7⟩
                        | _ => cases c2
                    | _ => cases c2
                | _ => cases c3
            | _ => cases c3
        | [], g7, c2 => cases g7
        | _ :: _ :: _, g7, c2 => cases c2
      | _ => cases c1
    | _ => cases h14
/-- the 26 classes -/
def errsB (K : PySem.W.Frag) : Bool := (List.range 26).all (fun i => exKB K (cA K i) && decide (PySem.W.kitOne K (.ref (cA K i)) (.type "ValueError") = some true)) &&
  ((List.range 25).all (fun i => (List.range 26).all fun j => decide (PySem.W.kitOne K (.ref (cA K (i + 1))) (.ref (cA K j)) = some (decide (i + 1 = j) || decide (j = 0)))) && (List.range 20).all (fun i => PySem.W.excIn K (cA K i) He.veBase "ValueError.__new__"))
theorem getD_of {i : Nat} {x : Str} {l : List Str} (h : l[i]? = some x) : l.getD i Str.empty = x := by rw [List.getD_eq_getElem?_getD, h]; rfl
theorem errs_ok {P : Program} {K : PySem.W.Frag} {mg : Str → Option Value} (h : errsB K = true) (hg : ∀ (i : Nat) (x : Str), errNames[i]? = some x → mg x = some (.ref (cA K i))) (hI : ∀ (i : Nat) (x : Str) (fs : List Str), errNames[20 + i]? = some x → errFields[i]? = some fs → ∃ fI, SupC P K (cA K (20 + i)) fI fs)
    (hdb : ∀ fs ∈ errFields, ∀ f ∈ ("self" : Str) :: fs, (f == ("__debug__" : Str)) = false) : Errs P K mg (cA K) := by
  obtain ⟨h1, h⟩ := b2 h
  obtain ⟨h2, h3⟩ := b2 h
  have k1 : ∀ i, i < 26 → ExK K (cA K i) := fun i hi => exKB_ok (b2 (List.all_eq_true.mp h1 i (List.mem_range.mpr hi))).1
  refine ⟨hg, k1, fun i j h0 hi hj => ?_, fun i hi => of_decide_eq_true (b2 (List.all_eq_true.mp h1 i (List.mem_range.mpr hi))).2, fun i x hi hx => ⟨hg i x hx, List.all_eq_true.mp h3 i (List.mem_range.mpr hi), k1 i (by omega)⟩, fun i x fs hx hf => ⟨hg _ x hx, hI i x fs hx hf, hdb fs (List.mem_of_getElem? hf), k1 _ ?_⟩⟩
  · have z := of_decide_eq_true (List.all_eq_true.mp (List.all_eq_true.mp h2 (i - 1) (List.mem_range.mpr (by omega))) j (List.mem_range.mpr hj))
    rw [Nat.sub_add_cancel h0] at z
    exact z
  · exact (List.getElem?_eq_some_iff.mp hx).1
/-! ### the Hook -/
structure SaysR (fa : List He.Fa) (fn : List He.DefD) (sp : List SupD) (tf : List He.Defn) (ex : PySem.W.Frag → Bool) (h : Heap) (K : PySem.W.Frag) : Prop where
  t : He.SaysD fa fn K
  more : ex K = true
  sup : ∀ d ∈ sp, supObs K d.x = d.val
  hd : ∀ p ∈ tf, PySem.W.codeHdIn K (He.cT K p).1 (He.cT K p).2 = true
  out : ∀ p ∈ tf, K.lookup (He.cT K p).2 = none
  empty : ∀ p ∈ tf, h.get? (He.cT K p).2 = some tbo
def asR (g : Addr → Option Obj) (n : Nat) : List Addr := cStatics :: He.asD g n
abbrev AlR : Type := (He.AlD × Bool) × List SupV
def obsR (n : Nat) (fa : List He.Fa) (fn : List He.DefD) (sp : List SupD) (tf : List He.Defn) (ex : PySem.W.Frag → Bool) (g : Addr → Option Obj) : AlR := ((He.obsD fa fn (He.frT g (asR g n)), ex (He.frT g (asR g n)) && He.tabsB g tf (He.frT g (asR g n))), sp.map fun d => supObs (He.frT g (asR g n)) d.x)
def valR (fn : List He.DefD) (sp : List SupD) : AlR := ((He.valD fn, true), sp.map SupD.val)
theorem map_eq_all {α β : Type} {f g : α → β} : ∀ {l : List α}, l.map f = l.map g → ∀ a ∈ l, f a = g a
  | [], _, a, h => by cases h
  | x :: l, e, a, h => by
    rw [List.map_cons, List.map_cons] at e
    injection e with e1 e2
    rcases List.mem_cons.mp h with rfl | h
    · exact e1
    · exact map_eq_all e2 a h
theorem saysR_of {n : Nat} {fa : List He.Fa} {fn : List He.DefD} {sp : List SupD} {tf : List He.Defn} {ex : PySem.W.Frag → Bool} {h : Heap} (e : obsR n fa fn sp tf ex h.get? = valR fn sp) : SaysR fa fn sp tf ex h (He.frT h.get? (asR h.get? n)) := by
  have e1 : He.obsD fa fn (He.frT h.get? (asR h.get? n)) = He.valD fn := congrArg (fun z : AlR => z.1.1) e
  have e2 : (ex (He.frT h.get? (asR h.get? n)) && He.tabsB h.get? tf (He.frT h.get? (asR h.get? n))) = true := congrArg (fun z : AlR => z.1.2) e
  have e3 : sp.map (fun d => supObs (He.frT h.get? (asR h.get? n)) d.x) = sp.map SupD.val := congrArg (fun z : AlR => z.2) e
  obtain ⟨h1, h2⟩ := b2 e2
  have key : ∀ p ∈ tf, PySem.W.codeHdIn (He.frT h.get? (asR h.get? n)) (He.cT (He.frT h.get? (asR h.get? n)) p).1 (He.cT (He.frT h.get? (asR h.get? n)) p).2 = true ∧ ∃ o, h.get? (He.cT (He.frT h.get? (asR h.get? n)) p).2 = some o ∧ He.emptyTab o = true := fun p hp => by
    obtain ⟨a1, a2⟩ := b2 (List.all_eq_true.mp h2 p hp)
    refine ⟨a1, ?_⟩
    cases q : h.get? (He.cT (He.frT h.get? (asR h.get? n)) p).2 with
    | none => rw [q] at a2; cases a2
    | some o => rw [q] at a2; exact ⟨o, rfl, a2⟩
  refine ⟨e1, h1, map_eq_all e3, fun p hp => (key p hp).1, fun p hp => ?_, fun p hp => ?_⟩
  · obtain ⟨_, o, q, z⟩ := key p hp
    exact He.frT_none q z
  · obtain ⟨_, o, q, z⟩ := key p hp
    rw [q, He.emptyTab_eq z]
def hookR (n : Nat) (fa : List He.Fa) (fn : List He.DefD) (sp : List SupD) (tf : List He.Defn) (ex : PySem.W.Frag → Bool) : PySem.W.Hook where
  α := AlR
  obs := fun s => obsR n fa fn sp tf ex s.heap.get?
  val := fun _ => valR fn sp
  says := fun _ h => ∃ K : PySem.W.Frag, K.In h ∧ SaysR fa fn sp tf ex h K
  of := fun _ _ e => ⟨_, He.frT_in, saysR_of e⟩
  keeps := fun _ _ _ ⟨K, hK, c⟩ k => ⟨K, PySem.W.Frag.In.keeps hK k, ⟨c.t, c.more, c.sup, c.hd, c.out, fun p hp => k _ _ (c.empty p hp)⟩⟩
theorem obsR_eq {n : Nat} {fa : List He.Fa} {fn : List He.DefD} {sp : List SupD} {tf : List He.Defn} {ex : PySem.W.Frag → Bool} {g : Addr → Option Obj} {s : Shared} (h : ∀ a, g a = s.heap.get? a) : obsR n fa fn sp tf ex g = (hookR n fa fn sp tf ex).obs s := by
  have e : g = s.heap.get? := funext h
  rw [e]
  rfl
/-! ### the end -/
theorem law_start {K : PySem.W.Frag} {H : Hp} {a : Addr} {ns : List Int} {C : Con} {E : XK} (hS : SqL K H a (ns.map V.int)) (hC : C [.scr ns] [] (.val (.bl true)) []) : spF K [] 1 C [.ref a] H (fun v _ => v = .bl true) E := by
  have r : Rp K [] H (.ref a) (.scr ns) := by
    rcases hS with h | h
    · exact .scr (by simp) h
    · exact .scrW fun H' => .inr h
  refine ⟨[], [], [.scr ns], .val (.bl true), [], rfl, ⟨?_, rfl, List.nodup_nil, fun k c hc => ?_, rfl, fun i d hd => ?_⟩, .cons r .nil, hC, fun As' H' _ _ v hv => ?_⟩
  · intro p hp
    cases hp
  · simp at hc
  · simp at hd
  · cases hv
    rfl
theorem walk_R {l : PySem.W.OpenLaw} {n k : Nat} {q : Program} {loose : List Str} {XP : (Str → Option Value) → Heap → Prop} {YP : World → Heap → Prop} {d : DefRec} {x : Str} (hn : l.most = some n) (hn2 : n ≤ sizeLine) (hdf : d.params.defaults = []) (hr : Room k callerA)
    (F : ∀ (w : World) (mg : Str → Option Value) (fa : Addr) (h : Heap), YP w h → h.Ns mainGlobals mg → mg d.name = some (.ref fa) → ∃ (K : PySem.W.Frag) (fd : FuncData) (cs : List (Addr × Addr)) (sp : Sp), K.In h ∧ (∀ p ∈ cs, h.get? p.2 = some tbo) ∧ (∀ p ∈ cs, K.lookup p.2 = none) ∧ (∀ p ∈ cs, PySem.W.CodeHd h p.1 p.2) ∧ (∀ (s : Shared) (u : Value), BindsTo s fd ⟨[u], []⟩ [(x, u)]) ∧
      (∀ (H : Hp) (a : Addr) (ns : List Int), ns.length ≤ n → (∀ z ∈ ns, Builtin.Int.intBits z ≤ 1048576) → (∀ p ∈ cs, H p.2 = some (.tbl #[])) → SqL K H a (ns.map V.int) → sp [.ref a] H (fun v _ => v = .bl true) fun _ _ _ => False) ∧
      ∀ base : Heap, K.In base → base.Ns mainGlobals mg → (∀ p ∈ cs, LamX.TabB base mg p.1 p.2) → FnK l.prog w K mg base k fa fd [x] sp) :
    PySem.W.WalkO q loose XP YP l.row.toRowW d [] (fun f vs => PySem.call f vs) := by
  refine Att.attach_callB hn hdf fun w s₀ s₁ mg mb fa o pm cd doc a vs ns G Y ho hd hcd hmg hobj hints hlen hbits hg => ?_
  obtain ⟨K, fd, cs, sp, KX, hT, nT, C, hb, hsp, hF⟩ := F w mg fa _ Y G.T.g hmg
  exact law_callR KX G.T.g G.T.b G.T.builtins G.T.nolimit hg hT nT C G.T.bmain hobj hints (Nat.le_trans hlen hn2) hr hF hb (fun H hH hS => hsp H a ns hlen hbits hH hS)
end Bs
open PySem PySem.Spec PyProof.Rows L2 LamX Bs
local macro_rules | `(tactic| walk_at "bn") => `(tactic| first | exact bn_add | exact bn_sub | (refine bn_mul' ?_; first | exact .inl ⟨by decide, by decide⟩ | exact .inr ⟨by decide, by decide⟩ | exact .inl ⟨by omega, by omega⟩ | exact .inr ⟨by omega, by omega⟩) | (refine bn_mod ?_; first | decide | omega | assumption) | (refine bn_div' ?_ ?_ <;> first | decide | omega) | (refine bn_div ?_; assumption) | (refine bn_pow ⟨?_, ?_, ?_⟩ <;> decide))
local macro_rules | `(tactic| walk_at "cm") => `(tactic| first | exact cm_lt | exact cm_le | exact cm_gt | exact cm_ge | exact cm_eqI | exact cm_neI | exact cm_eqS | exact cm_neS | (refine cm_z cm_lt ?_; first | exact decide_eq_true (by omega) | exact decide_eq_false (by omega)) | (refine cm_z cm_le ?_; first | exact decide_eq_true (by omega) | exact decide_eq_false (by omega)) | (refine cm_z cm_gt ?_; first | exact decide_eq_true (by omega) | exact decide_eq_false (by omega)) | (refine cm_z cm_ge ?_; first | exact decide_eq_true (by omega) | exact decide_eq_false (by omega)) | (refine cm_z cm_eqI ?_; first | exact decide_eq_true (by omega) | exact decide_eq_false (by omega)))
local macro_rules | `(tactic| walk_at "cell") => `(tactic| first | assumption | exact get_app | (rw [set_app]; exact get_app) | exact get_app_lt (by assumption) | exact List.getElem?_set_self (by first | assumption | (simp only [List.length_set]; assumption)) | exact rfl)
local macro_rules | `(tactic| walk_at "sb") => `(tactic| first | exact sb_T rfl | (refine' sb_L (.c (by walk_at "cell")) ?kq; (case kq => exact rfl)) | exact sb_L .d rfl | (refine sb_L .d ?_; assumption) | (refine sb_T ?_; assumption) | (refine sb_S ?_; assumption))
local macro_rules | `(tactic| walk_at "ca") => `(tactic| first | exact ca_int | exact ca_max2 rfl | exact ca_min2 rfl | exact ca_abs | exact ca_lenT | exact ca_lenS | exact ca_lenL .d | exact ca_intB | exact ca_lenL (.c (by walk_at "cell")))
local macro_rules | `(tactic| walk_at "sz") => `(tactic| first | exact Nat.le_of_ble_eq_true rfl | decide | (simp only [List.length_cons, List.length_nil, List.length_map, List.length_append]; omega))
local macro_rules | `(tactic| walk_at "bf") => `(tactic| (refine bf_cat .d .d ?_; walk_at "sz"))
local macro_rules | `(tactic| walk_at "ty") => `(tactic| first | exact .l .d | exact .l (.c (by walk_at "cell")))
local macro_rules | `(tactic| walk_at "bz") => `(tactic| first | rfl | assumption | decide)
local macro_rules | `(tactic| walk_at "m:append") => `(tactic| (refine' mt_app (by walk_at "cell") ?kq; (case kq => walk_at "sz")))
namespace Lw
def top (i : Nat) : Stmt := PySem.Challenge.pw_rowclash_k98_exceptions_by_hand.main.body.getD i (.Pass ⟨0, 0, 0, 0⟩)
abbrev FnT (K : PySem.W.Frag) (x : Str) (st : Stmt) (f : Addr) (fd : FuncData) : Prop := FunD K x x (defArgs st) (defBody st) (defScope st) [] [] f fd
/-! ### pens -/
structure Pen where
  a : Int
  b : Int
  c : Int
abbrev Pen.ce (p : Pen) : Ce := .lst [.int p.a, .int p.b, .int p.c]
def Pen.b' (p : Pen) : Int := (p.b * 48271 + 7919 * (p.c + 1) + 11) % 2147483647
def Pen.st (p : Pen) : Int := (p.b' * p.b' + 40014 * p.b' + (p.c + 1)) % 2147483563
def Pen.dig (p : Pen) (n : Int) : Int := if 0 < p.a then p.a % n else (p.st * 16807 % 2147483647 / 64) % n
def Pen.nxt (p : Pen) (n : Int) : Pen := if 0 < p.a then ⟨p.a / n, p.b, p.c⟩ else ⟨p.a, p.b', p.c + 1⟩
theorem Pen.dig_lo (p : Pen) {n : Int} (h : 0 < n) : 0 ≤ p.dig n := by
  unfold Pen.dig
  split
  · exact Int.emod_nonneg _ (by omega)
  · exact Int.emod_nonneg _ (by omega)
theorem Pen.dig_hi (p : Pen) {n : Int} (h : 0 < n) : p.dig n < n := by
  unfold Pen.dig
  split
  · exact Int.emod_lt_of_pos _ h
  · exact Int.emod_lt_of_pos _ h
def CDraw : Con := fun ds M o M' => ∃ (k : Nat) (p : Pen) (n : Int), ds = [.cel k, .int n] ∧ M[k]? = some p.ce ∧ 0 < n ∧ n.natAbs.log2 < 9000 ∧ o = .val (.int (p.dig n)) ∧ M' = M.set k (p.nxt n).ce
theorem sc_law_draw : FnScope ["_law_pen_here", "_law_many", "_law_digit", "_law_stirred"] ["_law_pen_here", "_law_many"] (defScope (top 30)) := ⟨rfl, rfl, rfl, by decide +kernel, rfl, by decide +kernel, by decide +kernel⟩
section
variable {P : Program} {w : World} {K : PySem.W.Frag} {T : List (Addr × Str)} {mg : Str → Option Value} {base : Heap} {f : Addr} {fd : FuncData}
theorem ok_draw (F : FnT K "_law_draw" (top 30) f fd) (g : mg "_law_draw" = some (.ref f)) (B : Bi mg) : FnH P w K T mg base "_law_draw" 2 2 CDraw := by
  refine fnH F g sc_law_draw rfl (fun _ _ _ _ _ _ _ us hl => match us, hl with | [_, _], _ => rfl) fun cdv A outer s H E ds M o M' hr hn hM hds hC => ?_
  obtain ⟨k, p, n, rfl, hk, h0, hl, rfl, rfl⟩ := hC
  have hd : CDivW p.a n := ⟨h0, hl⟩
  refine ⟨by rw [List.length_set]; exact Nat.le_refl _, hM.set rfl, ?_⟩
  have hkl := (List.getElem?_eq_some_iff.mp hk).1
  by_cases ha : 0 < p.a
  · have e1 : p.dig n = p.a % n := if_pos ha
    have e2 : p.nxt n = ⟨p.a / n, p.b, p.c⟩ := if_pos ha
    rw [e1, e2]
    refine ⟨_, .dat (G := []) rfl, ?_⟩
    rw [List.append_nil]
    refine b_end (s_if (z := true) (t_cm (nomark _) (e_sub (ev 0 rfl) e_int (by walk_at "sb")) e_int (by walk_at "cm")) (fun _ => ?_) (fun z => nomatch z)) trivial
    refine b_cons (s_asg (e_bin (e_cT rfl B.int boot_int (a_cons (e_sub (ev 0 rfl) e_int (by walk_at "sb")) a_nil) (by walk_at "ca")) (ev 1 rfl) (by walk_at "bn")) (gv 2 sc_law_draw.nd)) ?_
    refine b_cons (s_asg (e_bin (e_sub (ev 0 rfl) e_int (by walk_at "sb")) (ev 1 rfl) (by walk_at "bn")) (gs _ (ev 0 rfl) e_int (by walk_at "cell") rfl)) ?_
    exact b_end (s_ret (ev 2 rfl)) trivial
  · have e1 : p.dig n = (p.st * 16807 % 2147483647 / 64) % n := if_neg ha
    have e2 : p.nxt n = ⟨p.a, p.b', p.c + 1⟩ := if_neg ha
    rw [e1, e2]
    refine out_rt (by
      refine b_cons (s_if (z := false) (t_cm (nomark _) (e_sub (ev 0 rfl) e_int (by walk_at "sb")) e_int (by walk_at "cm")) (fun z => nomatch z) (fun _ => b_nil)) ?_
      refine b_cons (s_asg (e_bin (e_sub (ev 0 rfl) e_int (by walk_at "sb")) e_int (by walk_at "bn")) (gs _ (ev 0 rfl) e_int (by walk_at "cell") rfl)) ?_
      refine b_cons (s_asg (e_bin (e_cT rfl B.int boot_int (a_cons (e_bin (e_bin (e_bin (e_sub (ev 0 rfl) e_int (by walk_at "sb")) e_int (by walk_at "bn")) (e_bin e_int (e_sub (ev 0 rfl) e_int (by walk_at "sb")) (by walk_at "bn")) (by walk_at "bn")) e_int (by walk_at "bn")) a_nil) (by walk_at "ca")) e_int (by walk_at "bn")) (gs _ (ev 0 rfl) e_int (by walk_at "cell") rfl)) ?_
      refine b_cons (s_asg (e_bin (e_cT rfl B.int boot_int (a_cons (e_bin (e_bin (e_bin (e_sub (ev 0 rfl) e_int (by walk_at "sb")) (e_sub (ev 0 rfl) e_int (by walk_at "sb")) (by walk_at "bn")) (e_bin e_int (e_sub (ev 0 rfl) e_int (by walk_at "sb")) (by walk_at "bn")) (by walk_at "bn")) (e_sub (ev 0 rfl) e_int (by walk_at "sb")) (by walk_at "bn")) a_nil) (by walk_at "ca")) e_int (by walk_at "bn")) (gv 3 sc_law_draw.nd)) ?_
      exact b_end (s_ret (e_bin (e_cT rfl B.int boot_int (a_cons (e_bin (e_bin (e_cT rfl B.int boot_int (a_cons (e_bin (ev 3 rfl) e_int (by walk_at "bn")) a_nil) (by walk_at "ca")) e_int (by walk_at "bn")) e_int (by walk_at "bn")) a_nil) (by walk_at "ca")) (ev 1 rfl) (by walk_at "bn"))) trivial
      ) rfl (by simp only [List.set_set]; rfl) rfl
/-! the others -/
def cellOf (ns : List Int) (k : Nat) : Int := ns.getD k 0
def CCell : Con := fun ds M o M' => ∃ (ns : List Int) (k : Nat), ds = [.scr ns, .int k] ∧ o = .val (.int (cellOf ns k)) ∧ M' = M
def penOf (c : Int) : Pen := ⟨if c - 10 ^ 18 > 0 then c - 10 ^ 18 else 0, c % 2147483629, 1⟩
def CPen : Con := fun ds M o M' => ∃ c : Int, ds = [.int c] ∧ o = .val (.cel M.length) ∧ M' = M ++ [(penOf c).ce]
theorem sc_law_cell_at : FnScope ["_law_script", "_law_k"] ["_law_script", "_law_k"] (defScope (top 28)) := ⟨rfl, rfl, rfl, by decide +kernel, rfl, by decide +kernel, by decide +kernel⟩
theorem ok_cell (F : FnT K "_law_cell_at" (top 28) f fd) (g : mg "_law_cell_at" = some (.ref f)) (B : Bi mg) : FnH P w K T mg base "_law_cell_at" 1 2 CCell := by
  refine fnH F g sc_law_cell_at rfl (fun _ _ _ _ _ _ _ us hl => match us, hl with | [_, _], _ => rfl) fun cdv A outer s H E ds M o M' hr hn hM hds hC => ?_
  obtain ⟨ns, k, rfl, rfl, rfl⟩ := hC
  refine ⟨Nat.le_refl _, hM, ?_⟩
  by_cases hk : k < ns.length
  · have e : cellOf ns k = ns[k] := by
      unfold cellOf
      rw [List.getD_eq_getElem?_getD, List.getElem?_eq_getElem hk]
      rfl
    rw [e]
    have hx : atI (ns.map D.int) (k : Int) = some (.int ns[k]) := atI_nat (by rw [List.getElem?_map, List.getElem?_eq_getElem hk]; rfl)
    refine out_rt (by
      refine b_end (s_if (z := true) (t_cm (nomark _) (ev 1 rfl) (e_cB rfl B.len boot_len (a_cons (ev 0 rfl) a_nil) (by walk_at "ca")) (by walk_at "cm")) (fun _ => ?_) (fun z => nomatch z)) trivial
      exact b_end (s_ret (e_sub (ev 0 rfl) (ev 1 rfl) (by walk_at "sb"))) trivial
      ) rfl rfl rfl
  · have e : cellOf ns k = 0 := by
      unfold cellOf
      rw [List.getD_eq_getElem?_getD, List.getElem?_eq_none (by omega)]
      rfl
    rw [e]
    refine out_rt (by
      refine b_cons (s_if (z := false) (t_cm (nomark _) (ev 1 rfl) (e_cB rfl B.len boot_len (a_cons (ev 0 rfl) a_nil) (by walk_at "ca")) (by walk_at "cm")) (fun z => nomatch z) (fun _ => b_nil)) ?_
      exact b_end (s_ret e_int) trivial
      ) rfl rfl rfl
theorem sc_law_pen : FnScope ["_law_cell"] ["_law_cell"] (defScope (top 29)) := ⟨rfl, rfl, rfl, by decide +kernel, rfl, by decide +kernel, by decide +kernel⟩
theorem ok_pen (F : FnT K "_law_pen" (top 29) f fd) (g : mg "_law_pen" = some (.ref f)) (B : Bi mg) : FnH P w K T mg base "_law_pen" 1 1 CPen := by
  refine fnH F g sc_law_pen rfl (fun _ _ _ _ _ _ _ us hl => match us, hl with | [_], _ => rfl) fun cdv A outer s H E ds M o M' hr hn hM hds hC => ?_
  obtain ⟨c, rfl, rfl, rfl⟩ := hC
  refine ⟨by rw [List.length_append]; omega, hM.app (by intro c hc; simp only [List.mem_singleton] at hc; subst hc; rfl), ?_⟩
  refine out_rt (by
    exact b_end (s_ret (e_cel (f_lst (a_cons (e_cB rfl B.max boot_max (a_cons e_int (a_cons (e_bin (ev 0 rfl) (e_bin e_int e_int (by walk_at "bn")) (by walk_at "bn")) a_nil)) (by walk_at "ca")) (a_cons (e_bin (e_cT rfl B.int boot_int (a_cons (ev 0 rfl) a_nil) (by walk_at "ca")) e_int (by walk_at "bn")) (a_cons e_int a_nil))) (by walk_at "sz")))) trivial
    ) rfl rfl (decide_eq_true (by rw [List.length_append]; exact Nat.lt_succ_self _))
/-! a pick: an item of a list, by a draw -/
def CPick : Con := fun ds M o M' => ∃ (k : Nat) (p : Pen) (d1 : D) (xs : List D) (d : D), ds = [.cel k, d1] ∧ M[k]? = some p.ce ∧ LV M d1 xs ∧ LV (M.set k (p.nxt xs.length).ce) d1 xs ∧ 0 < xs.length ∧ xs.length ≤ 100000 ∧ xs[(p.dig xs.length).toNat]? = some d ∧ o = .val d ∧ M' = M.set k (p.nxt xs.length).ce
theorem c_draw {M : List Ce} {k : Nat} {p : Pen} {n : Int} (hk : M[k]? = some p.ce) (h0 : 0 < n) (h1 : n < 18446744073709551616) : CDraw [.cel k, .int n] M (.val (.int (p.dig n))) (M.set k (p.nxt n).ce) := by
  have e : (2 : Nat) ^ 64 = 18446744073709551616 := by decide
  have hw : CDivW 0 n := wide_div (b := 64) h0 (by omega) (by decide) (by decide)
  exact ⟨k, p, n, rfl, hk, h0, hw.2, rfl, rfl⟩
theorem sc_law_pick : FnScope ["_law_pen_here", "_law_things"] ["_law_pen_here", "_law_things"] (defScope (top 31)) := ⟨rfl, rfl, rfl, by decide +kernel, rfl, by decide +kernel, by decide +kernel⟩
theorem ok_pick (F : FnT K "_law_pick" (top 31) f fd) (g : mg "_law_pick" = some (.ref f)) (B : Bi mg) (h__law_draw : FnH P w K T mg base "_law_draw" 2 2 CDraw) : FnH P w K T mg base "_law_pick" 3 2 CPick := by
  refine fnH F g sc_law_pick rfl (fun _ _ _ _ _ _ _ us hl => match us, hl with | [_, _], _ => rfl) fun cdv A outer s H E ds M o M' hr hn hM hds hC => ?_
  obtain ⟨k, p, d1, xs, d, rfl, hk, l1, l2, h0, h1, hx, rfl, rfl⟩ := hC
  have hcl : d.cl (M.set k (p.nxt xs.length).ce).length = true := by
    rw [List.length_set]
    exact clL_at (l1.clI hM (b2 (b2 hds).2).1) hx
  refine ⟨by rw [List.length_set]; exact Nat.le_refl _, hM.set rfl, ?_⟩
  have hd0 := p.dig_lo (n := xs.length) (by omega)
  have hat : atI xs (p.dig xs.length) = some d := by
    have h := atI_nat hx
    rw [Int.toNat_of_nonneg hd0] at h
    exact h
  refine out_rt (by
    exact b_end (s_ret (e_sub (ev 1 rfl) (e_cf h__law_draw (hr.mono (by decide)) rfl (a_cons (ev 0 rfl) (a_cons (e_cB rfl B.len boot_len (a_cons (ev 1 rfl) a_nil) (ca_lenL l1)) a_nil)) (c_draw hk (by omega) (by omega))) (sb_L l2 hat))) trivial
    ) rfl rfl hcl
end
end Lw
open PySem PySem.Spec PyProof.Rows L2 LamX Bs
local macro_rules | `(tactic| walk_at "bn") => `(tactic| first | exact bn_add | exact bn_sub | (refine bn_mul' ?_; first | exact .inl ⟨by decide, by decide⟩ | exact .inr ⟨by decide, by decide⟩ | exact .inl ⟨by omega, by omega⟩ | exact .inr ⟨by omega, by omega⟩) | (refine bn_mod ?_; first | decide | omega | assumption) | (refine bn_div' ?_ ?_ <;> first | decide | omega) | (refine bn_div ?_; assumption) | (refine bn_pow ⟨?_, ?_, ?_⟩ <;> decide))
local macro_rules | `(tactic| walk_at "cm") => `(tactic| first | exact cm_lt | exact cm_le | exact cm_gt | exact cm_ge | exact cm_eqI | exact cm_neI | exact cm_eqS | exact cm_neS | (refine cm_z cm_lt ?_; first | exact decide_eq_true (by omega) | exact decide_eq_false (by omega)) | (refine cm_z cm_le ?_; first | exact decide_eq_true (by omega) | exact decide_eq_false (by omega)) | (refine cm_z cm_gt ?_; first | exact decide_eq_true (by omega) | exact decide_eq_false (by omega)) | (refine cm_z cm_ge ?_; first | exact decide_eq_true (by omega) | exact decide_eq_false (by omega)) | (refine cm_z cm_eqI ?_; first | exact decide_eq_true (by omega) | exact decide_eq_false (by omega)))
local macro_rules | `(tactic| walk_at "cell") => `(tactic| first | assumption | exact get_app | (rw [set_app]; exact get_app) | exact get_app_lt (by assumption) | exact List.getElem?_set_self (by first | assumption | (simp only [List.length_set]; assumption)) | exact rfl)
local macro_rules | `(tactic| walk_at "sb") => `(tactic| first | exact sb_T rfl | (refine' sb_L (.c (by walk_at "cell")) ?kq; (case kq => exact rfl)) | exact sb_L .d rfl | (refine sb_L .d ?_; assumption) | (refine sb_T ?_; assumption) | (refine sb_S ?_; assumption))
local macro_rules | `(tactic| walk_at "ca") => `(tactic| first | exact ca_int | exact ca_max2 rfl | exact ca_min2 rfl | exact ca_abs | exact ca_lenT | exact ca_lenS | exact ca_lenL .d | exact ca_intB | exact ca_lenL (.c (by walk_at "cell")))
local macro_rules | `(tactic| walk_at "sz") => `(tactic| first | exact Nat.le_of_ble_eq_true rfl | decide | (simp only [List.length_cons, List.length_nil, List.length_map, List.length_append]; omega))
local macro_rules | `(tactic| walk_at "bf") => `(tactic| (refine bf_cat .d .d ?_; walk_at "sz"))
local macro_rules | `(tactic| walk_at "ty") => `(tactic| first | exact .l .d | exact .l (.c (by walk_at "cell")))
local macro_rules | `(tactic| walk_at "bz") => `(tactic| first | rfl | assumption | decide)
local macro_rules | `(tactic| walk_at "m:append") => `(tactic| (refine' mt_app (by walk_at "cell") ?kq; (case kq => walk_at "sz")))
namespace Lw
/-! ### the words -/
def bsW (i : Nat) : List Bool := (List.range 25).map fun j => decide (i = j + 1) || decide (j + 1 = 0)
theorem bsW_count : ∀ i, i < 26 → 0 < i → (bsW i).count true = 1 := by decide
theorem bsW_at : ∀ i, i < 26 → 0 < i → (bsW i)[i - 1]? = some true := by decide
theorem bsW_no : ∀ i, i < 26 → ∀ m, m < i - 1 → (bsW i)[m]? ≠ some true := by decide
def CWord (C : Nat → Addr) : Con := fun ds M o M' => ∃ (i : Nat) (fs : List (Str × D)) (x : Str), ds = [.exc (C i) fs] ∧ 0 < i ∧ i < 26 ∧ errWords[i - 1]? = some x ∧ o = .val (.str x) ∧ M' = M
theorem sc_law_word : FnScope ["_law_e", "_law_some", "_law_words"] ["_law_e"] (defScope (top 32)) := ⟨rfl, rfl, rfl, by decide +kernel, rfl, by decide +kernel, by decide +kernel⟩
section
variable {P : Program} {w : World} {K : PySem.W.Frag} {T : List (Addr × Str)} {mg : Str → Option Value} {base : Heap} {f : Addr} {fd : FuncData} {C : Nat → Addr}
theorem ok_word (F : FnT K "_law_word" (top 32) f fd) (g : mg "_law_word" = some (.ref f)) (B : Bi mg) (Er : Errs P K mg C) : FnH P w K T mg base "_law_word" 1 1 (CWord C) := by
  refine fnH F g sc_law_word rfl (fun _ _ _ _ _ _ _ us hl => match us, hl with | [_], _ => rfl) fun cdv A outer s H E ds M o M' hr hn hM hds hC => ?_
  obtain ⟨i, fs, x, rfl, h0, h1, hx, rfl, rfl⟩ := hC
  refine ⟨Nat.le_refl _, hM, ?_⟩
  have hcnt : (!decide (((bsW i).count true : Nat) = (1 : Int)) || !true) = false := by rw [bsW_count i h1 h0]; rfl
  refine out_rt (by
    refine b_cons (s_asg (e_dat (f_lst (a_cons (e_cB rfl B.isinstance boot_isinstance (a_cons (ev 0 rfl) (a_cons (e_gref rfl (Er.g 1 _ rfl)) a_nil)) (by first | exact ca_isV (Er.k _ (by omega)) (Er.is _ _ (by omega) (by omega) (by decide)) | exact ca_isVT (Er.k _ (by omega)) (Er.isV _ (by omega)))) (a_cons (e_cB rfl B.isinstance boot_isinstance (a_cons (ev 0 rfl) (a_cons (e_gref rfl (Er.g 2 _ rfl)) a_nil)) (by first | exact ca_isV (Er.k _ (by omega)) (Er.is _ _ (by omega) (by omega) (by decide)) | exact ca_isVT (Er.k _ (by omega)) (Er.isV _ (by omega)))) (a_cons (e_cB rfl B.isinstance boot_isinstance (a_cons (ev 0 rfl) (a_cons (e_gref rfl (Er.g 3 _ rfl)) a_nil)) (by first | exact ca_isV (Er.k _ (by omega)) (Er.is _ _ (by omega) (by omega) (by decide)) | exact ca_isVT (Er.k _ (by omega)) (Er.isV _ (by omega)))) (a_cons (e_cB rfl B.isinstance boot_isinstance (a_cons (ev 0 rfl) (a_cons (e_gref rfl (Er.g 4 _ rfl)) a_nil)) (by first | exact ca_isV (Er.k _ (by omega)) (Er.is _ _ (by omega) (by omega) (by decide)) | exact ca_isVT (Er.k _ (by omega)) (Er.isV _ (by omega)))) (a_cons (e_cB rfl B.isinstance boot_isinstance (a_cons (ev 0 rfl) (a_cons (e_gref rfl (Er.g 5 _ rfl)) a_nil)) (by first | exact ca_isV (Er.k _ (by omega)) (Er.is _ _ (by omega) (by omega) (by decide)) | exact ca_isVT (Er.k _ (by omega)) (Er.isV _ (by omega)))) (a_cons (e_cB rfl B.isinstance boot_isinstance (a_cons (ev 0 rfl) (a_cons (e_gref rfl (Er.g 6 _ rfl)) a_nil)) (by first | exact ca_isV (Er.k _ (by omega)) (Er.is _ _ (by omega) (by omega) (by decide)) | exact ca_isVT (Er.k _ (by omega)) (Er.isV _ (by omega)))) a_nil)))))) (by walk_at "sz"))) (gv 1 sc_law_word.nd)) ?_
    refine b_cons (s_asg (e_dat (f_bin (ev 1 rfl) (e_dat (f_lst (a_cons (e_cB rfl B.isinstance boot_isinstance (a_cons (ev 0 rfl) (a_cons (e_gref rfl (Er.g 7 _ rfl)) a_nil)) (by first | exact ca_isV (Er.k _ (by omega)) (Er.is _ _ (by omega) (by omega) (by decide)) | exact ca_isVT (Er.k _ (by omega)) (Er.isV _ (by omega)))) (a_cons (e_cB rfl B.isinstance boot_isinstance (a_cons (ev 0 rfl) (a_cons (e_gref rfl (Er.g 8 _ rfl)) a_nil)) (by first | exact ca_isV (Er.k _ (by omega)) (Er.is _ _ (by omega) (by omega) (by decide)) | exact ca_isVT (Er.k _ (by omega)) (Er.isV _ (by omega)))) (a_cons (e_cB rfl B.isinstance boot_isinstance (a_cons (ev 0 rfl) (a_cons (e_gref rfl (Er.g 9 _ rfl)) a_nil)) (by first | exact ca_isV (Er.k _ (by omega)) (Er.is _ _ (by omega) (by omega) (by decide)) | exact ca_isVT (Er.k _ (by omega)) (Er.isV _ (by omega)))) (a_cons (e_cB rfl B.isinstance boot_isinstance (a_cons (ev 0 rfl) (a_cons (e_gref rfl (Er.g 10 _ rfl)) a_nil)) (by first | exact ca_isV (Er.k _ (by omega)) (Er.is _ _ (by omega) (by omega) (by decide)) | exact ca_isVT (Er.k _ (by omega)) (Er.isV _ (by omega)))) (a_cons (e_cB rfl B.isinstance boot_isinstance (a_cons (ev 0 rfl) (a_cons (e_gref rfl (Er.g 11 _ rfl)) a_nil)) (by first | exact ca_isV (Er.k _ (by omega)) (Er.is _ _ (by omega) (by omega) (by decide)) | exact ca_isVT (Er.k _ (by omega)) (Er.isV _ (by omega)))) (a_cons (e_cB rfl B.isinstance boot_isinstance (a_cons (ev 0 rfl) (a_cons (e_gref rfl (Er.g 12 _ rfl)) a_nil)) (by first | exact ca_isV (Er.k _ (by omega)) (Er.is _ _ (by omega) (by omega) (by decide)) | exact ca_isVT (Er.k _ (by omega)) (Er.isV _ (by omega)))) a_nil)))))) (by walk_at "sz"))) (by walk_at "bf"))) (gv 1 sc_law_word.nd)) ?_
    refine b_cons (s_asg (e_dat (f_bin (ev 1 rfl) (e_dat (f_lst (a_cons (e_cB rfl B.isinstance boot_isinstance (a_cons (ev 0 rfl) (a_cons (e_gref rfl (Er.g 13 _ rfl)) a_nil)) (by first | exact ca_isV (Er.k _ (by omega)) (Er.is _ _ (by omega) (by omega) (by decide)) | exact ca_isVT (Er.k _ (by omega)) (Er.isV _ (by omega)))) (a_cons (e_cB rfl B.isinstance boot_isinstance (a_cons (ev 0 rfl) (a_cons (e_gref rfl (Er.g 14 _ rfl)) a_nil)) (by first | exact ca_isV (Er.k _ (by omega)) (Er.is _ _ (by omega) (by omega) (by decide)) | exact ca_isVT (Er.k _ (by omega)) (Er.isV _ (by omega)))) (a_cons (e_cB rfl B.isinstance boot_isinstance (a_cons (ev 0 rfl) (a_cons (e_gref rfl (Er.g 15 _ rfl)) a_nil)) (by first | exact ca_isV (Er.k _ (by omega)) (Er.is _ _ (by omega) (by omega) (by decide)) | exact ca_isVT (Er.k _ (by omega)) (Er.isV _ (by omega)))) (a_cons (e_cB rfl B.isinstance boot_isinstance (a_cons (ev 0 rfl) (a_cons (e_gref rfl (Er.g 16 _ rfl)) a_nil)) (by first | exact ca_isV (Er.k _ (by omega)) (Er.is _ _ (by omega) (by omega) (by decide)) | exact ca_isVT (Er.k _ (by omega)) (Er.isV _ (by omega)))) (a_cons (e_cB rfl B.isinstance boot_isinstance (a_cons (ev 0 rfl) (a_cons (e_gref rfl (Er.g 17 _ rfl)) a_nil)) (by first | exact ca_isV (Er.k _ (by omega)) (Er.is _ _ (by omega) (by omega) (by decide)) | exact ca_isVT (Er.k _ (by omega)) (Er.isV _ (by omega)))) (a_cons (e_cB rfl B.isinstance boot_isinstance (a_cons (ev 0 rfl) (a_cons (e_gref rfl (Er.g 18 _ rfl)) a_nil)) (by first | exact ca_isV (Er.k _ (by omega)) (Er.is _ _ (by omega) (by omega) (by decide)) | exact ca_isVT (Er.k _ (by omega)) (Er.isV _ (by omega)))) a_nil)))))) (by walk_at "sz"))) (by walk_at "bf"))) (gv 1 sc_law_word.nd)) ?_
    refine b_cons (s_asg (e_dat (f_bin (ev 1 rfl) (e_dat (f_lst (a_cons (e_cB rfl B.isinstance boot_isinstance (a_cons (ev 0 rfl) (a_cons (e_gref rfl (Er.g 19 _ rfl)) a_nil)) (by first | exact ca_isV (Er.k _ (by omega)) (Er.is _ _ (by omega) (by omega) (by decide)) | exact ca_isVT (Er.k _ (by omega)) (Er.isV _ (by omega)))) (a_cons (e_cB rfl B.isinstance boot_isinstance (a_cons (ev 0 rfl) (a_cons (e_gref rfl (Er.g 20 _ rfl)) a_nil)) (by first | exact ca_isV (Er.k _ (by omega)) (Er.is _ _ (by omega) (by omega) (by decide)) | exact ca_isVT (Er.k _ (by omega)) (Er.isV _ (by omega)))) (a_cons (e_cB rfl B.isinstance boot_isinstance (a_cons (ev 0 rfl) (a_cons (e_gref rfl (Er.g 21 _ rfl)) a_nil)) (by first | exact ca_isV (Er.k _ (by omega)) (Er.is _ _ (by omega) (by omega) (by decide)) | exact ca_isVT (Er.k _ (by omega)) (Er.isV _ (by omega)))) (a_cons (e_cB rfl B.isinstance boot_isinstance (a_cons (ev 0 rfl) (a_cons (e_gref rfl (Er.g 22 _ rfl)) a_nil)) (by first | exact ca_isV (Er.k _ (by omega)) (Er.is _ _ (by omega) (by omega) (by decide)) | exact ca_isVT (Er.k _ (by omega)) (Er.isV _ (by omega)))) (a_cons (e_cB rfl B.isinstance boot_isinstance (a_cons (ev 0 rfl) (a_cons (e_gref rfl (Er.g 23 _ rfl)) a_nil)) (by first | exact ca_isV (Er.k _ (by omega)) (Er.is _ _ (by omega) (by omega) (by decide)) | exact ca_isVT (Er.k _ (by omega)) (Er.isV _ (by omega)))) (a_cons (e_cB rfl B.isinstance boot_isinstance (a_cons (ev 0 rfl) (a_cons (e_gref rfl (Er.g 24 _ rfl)) a_nil)) (by first | exact ca_isV (Er.k _ (by omega)) (Er.is _ _ (by omega) (by omega) (by decide)) | exact ca_isVT (Er.k _ (by omega)) (Er.isV _ (by omega)))) (a_cons (e_cB rfl B.isinstance boot_isinstance (a_cons (ev 0 rfl) (a_cons (e_gref rfl (Er.g 25 _ rfl)) a_nil)) (by first | exact ca_isV (Er.k _ (by omega)) (Er.is _ _ (by omega) (by omega) (by decide)) | exact ca_isVT (Er.k _ (by omega)) (Er.isV _ (by omega)))) a_nil))))))) (by walk_at "sz"))) (by walk_at "bf"))) (gv 1 sc_law_word.nd)) ?_
    refine b_cons (s_asg (e_dat (f_lst (a_cons e_str (a_cons e_str (a_cons e_str (a_cons e_str (a_cons e_str (a_cons e_str (a_cons e_str (a_cons e_str (a_cons e_str (a_cons e_str (a_cons e_str (a_cons e_str (a_cons e_str a_nil))))))))))))) (by walk_at "sz"))) (gv 2 sc_law_word.nd)) ?_
    refine b_cons (s_asg (e_dat (f_bin (ev 2 rfl) (e_dat (f_lst (a_cons e_str (a_cons e_str (a_cons e_str (a_cons e_str (a_cons e_str (a_cons e_str (a_cons e_str (a_cons e_str (a_cons e_str (a_cons e_str (a_cons e_str (a_cons e_str a_nil)))))))))))) (by walk_at "sz"))) (by walk_at "bf"))) (gv 2 sc_law_word.nd)) ?_
    refine b_cons (s_if (z := false) (t_eq (t_w (w_or (t_cm (nomark _) (e_bm PySem.F.plainAttrs_list PySem.F.slot_list_count (by kernel_rfl) (ev 1 rfl) (.l .d) (a_cons e_bl a_nil) (mt_cntB (bs := bsW i) (.inl .d))) e_int cm_neI) (fun _ => w_oneO (t_not (t_val (e_cB rfl B.isinstance boot_isinstance (a_cons (ev 0 rfl) (a_cons (e_gty rfl B.ValueError boot_ValueError) a_nil)) (by first | exact ca_isV (Er.k _ (by omega)) (Er.is _ _ (by omega) (by omega) (by decide)) | exact ca_isVT (Er.k _ (by omega)) (Er.isV _ (by omega))))))) (fun _ => rfl))) hcnt) (fun z => nomatch z) (fun _ => b_nil)) ?_
    exact b_end (s_ret (e_sub (ev 2 rfl) (e_bm PySem.F.plainAttrs_list PySem.F.slot_list_index (by kernel_rfl) (ev 1 rfl) (.l .d) (a_cons e_bl a_nil) (mt_idxB (bs := bsW i) (j := i - 1) (.inl .d) (bsW_at i h1 h0) (bsW_no i h1))) (sb_L (ds := errWords.map D.str) .d (atI_nat (by rw [List.getElem?_map, hx]; rfl))))) trivial
    ) rfl rfl rfl
/-! ### keys -/
def keyXs (p : Pen) : List Int := [p.dig 30 - 10, p.dig 30 - 10, p.dig 30 - 10, p.dig 30 - 10, (p.dig 30 - 10) * 10 ^ 12, 10 ^ 30 - 1 - (p.nxt 30).dig 4, 1 - 10 ^ 30]
def keyOf (p : Pen) : Int := (keyXs p).getD (((p.nxt 30).nxt 4).dig 7).toNat 0
def keyNx (p : Pen) : Pen := ((p.nxt 30).nxt 4).nxt 7
theorem key_at (p : Pen) : (keyXs p)[(((p.nxt 30).nxt 4).dig 7).toNat]? = some (keyOf p) := by
  have h0 := ((p.nxt 30).nxt 4).dig_lo (n := 7) (by decide)
  have h1 := ((p.nxt 30).nxt 4).dig_hi (n := 7) (by decide)
  unfold keyOf
  rw [List.getD_eq_getElem?_getD, List.getElem?_eq_getElem (show _ < (keyXs p).length by show _ < 7; omega)]
  rfl
theorem key_le (p : Pen) : -(10 ^ 30) ≤ keyOf p ∧ keyOf p ≤ 10 ^ 30 := by
  have h := List.mem_of_getElem? (key_at p)
  have h0 := p.dig_lo (n := 30) (by decide)
  have h1 := p.dig_hi (n := 30) (by decide)
  have h2 := (p.nxt 30).dig_lo (n := 4) (by decide)
  have h3 := (p.nxt 30).dig_hi (n := 4) (by decide)
  generalize keyOf p = q at h ⊢
  simp only [keyXs, List.mem_cons, List.not_mem_nil, or_false] at h
  omega
def CKey : Con := fun ds M o M' => ∃ (k : Nat) (p : Pen), ds = [.cel k] ∧ M[k]? = some p.ce ∧ o = .val (.int (keyOf p)) ∧ M' = M.set k (keyNx p).ce
theorem c_pick {M : List Ce} {k : Nat} {p : Pen} {xs : List D} {d : D} (hk : M[k]? = some p.ce) (h0 : 0 < xs.length) (h1 : xs.length ≤ 100000) (hx : xs[(p.dig xs.length).toNat]? = some d) : CPick [.cel k, .lst xs] M (.val d) (M.set k (p.nxt xs.length).ce) :=
  ⟨k, p, _, xs, d, rfl, hk, .d, .d, h0, h1, hx, rfl, rfl⟩
local macro_rules | `(tactic| walk_at "c:_law_draw") => `(tactic| exact c_draw (by walk_at "cell") (by decide) (by decide))
local macro_rules | `(tactic| walk_at "c:_law_pick") => `(tactic| (refine c_pick (by walk_at "cell") (by walk_at "sz") (by walk_at "sz") ?_; assumption))
theorem sc_law_key : FnScope ["_law_pen_here", "_law_near"] ["_law_pen_here"] (defScope (top 33)) := ⟨rfl, rfl, rfl, by decide +kernel, rfl, by decide +kernel, by decide +kernel⟩
theorem ok_key (F : FnT K "_law_key" (top 33) f fd) (g : mg "_law_key" = some (.ref f)) (B : Bi mg) (h__law_draw : FnH P w K T mg base "_law_draw" 2 2 CDraw) (h__law_pick : FnH P w K T mg base "_law_pick" 3 2 CPick) : FnH P w K T mg base "_law_key" 4 1 CKey := by
  refine fnH F g sc_law_key rfl (fun _ _ _ _ _ _ _ us hl => match us, hl with | [_], _ => rfl) fun cdv A outer s H E ds M o M' hr hn hM hds hC => ?_
  obtain ⟨k, p, rfl, hk, rfl, rfl⟩ := hC
  refine ⟨by rw [List.length_set]; exact Nat.le_refl _, hM.set rfl, ?_⟩
  have hkl := (List.getElem?_eq_some_iff.mp hk).1
  have hx : ((keyXs p).map D.int)[(((p.nxt 30).nxt 4).dig ((keyXs p).map D.int).length).toNat]? = some (.int (keyOf p)) := by
    show ((keyXs p).map D.int)[(((p.nxt 30).nxt 4).dig 7).toNat]? = _
    rw [List.getElem?_map, key_at p]
    rfl
  refine out_rt (by
    refine b_cons (s_asg (e_bin (e_cf h__law_draw (hr.mono (by decide)) rfl (a_cons (ev 0 rfl) (a_cons e_int a_nil)) (by walk_at "c:_law_draw")) e_int (by walk_at "bn")) (gv 1 sc_law_key.nd)) ?_
    exact b_end (s_ret (e_cf h__law_pick (hr.mono (by decide)) rfl (a_cons (ev 0 rfl) (a_cons (e_dat (f_lst (a_cons (ev 1 rfl) (a_cons (ev 1 rfl) (a_cons (ev 1 rfl) (a_cons (ev 1 rfl) (a_cons (e_bin (ev 1 rfl) (e_bin e_int e_int (by walk_at "bn")) (by walk_at "bn")) (a_cons (e_bin (e_bin (e_bin e_int e_int (by walk_at "bn")) e_int (by walk_at "bn")) (e_cf h__law_draw (hr.mono (by decide)) rfl (a_cons (ev 0 rfl) (a_cons e_int a_nil)) (by walk_at "c:_law_draw")) (by walk_at "bn")) (a_cons (e_bin e_int (e_bin e_int e_int (by walk_at "bn")) (by walk_at "bn")) a_nil))))))) (by walk_at "sz"))) a_nil)) (by walk_at "c:_law_pick"))) trivial
    ) rfl (by simp only [List.set_set]; rfl) rfl
/-! ### errors all -/
def IsErr (C : Nat → Addr) (d : D) : Prop := ∃ i fs, d = .exc (C i) fs ∧ 0 < i ∧ i < 26
def CErrs (C : Nat → Addr) : Con := fun ds M o M' => ∃ (d1 : D) (xs : List D), ds = [d1] ∧ LV M d1 xs ∧ xs.length ≤ 1000 ∧ (∀ d ∈ xs, IsErr C d) ∧ o = .val (.bl true) ∧ M' = M
theorem bls_all (n : Nat) : ((List.replicate n true).map D.bl) = List.replicate n (.bl true) := by simp
theorem all_rep (n : Nat) : (List.replicate n true).all id = true := by simp
theorem sc_law_are_errors : FnScope ["_law_some", "_law_e"] ["_law_some"] (defScope (top 35)) := ⟨rfl, rfl, rfl, by decide +kernel, rfl, by decide +kernel, by decide +kernel⟩
theorem ok_errs (F : FnT K "_law_are_errors" (top 35) f fd) (g : mg "_law_are_errors" = some (.ref f)) (B : Bi mg) (Er : Errs P K mg C) : FnH P w K T mg base "_law_are_errors" 1 1 (CErrs C) := by
  refine fnH F g sc_law_are_errors rfl (fun _ _ _ _ _ _ _ us hl => match us, hl with | [_], _ => rfl) fun cdv A outer s H E ds M o M' hr hn hM hds hC => ?_
  obtain ⟨d1, xs, rfl, l, hlen, hx, rfl, rfl⟩ := hC
  refine ⟨Nat.le_refl _, hM, ?_⟩
  have e1 : List.map (fun _ : D => D.bl true) xs = (List.replicate xs.length true).map D.bl := by
    rw [bls_all, List.map_const']
  refine out_rt (by
    refine b_end (s_ret (e_cB rfl B.all boot_all (a_cons (e_lcm (own := [("_law_e", 1)]) (fun _ => .bl true) (fun d => [some d1, some d]) rfl sc_law_are_errors.nd (i_lv (ev 0 rfl) l) (blk_ok (by kernel_rfl)) (by omega) (Nat.le_refl _) id ?_ (fun d g _ s H C cl fp => gwv 1 sc_law_are_errors.nd) (fun d g hd s H C' cl fp => ?_) (hkc := l.kc)) a_nil) (ca_all (bs := List.replicate xs.length true) rfl (.inl (.inl (by rw [e1])))))) trivial
    · rw [e1]
      exact clL_iff.mpr fun d hd => by
        rw [bls_all] at hd
        rw [(List.mem_replicate.mp hd).2]
        rfl
    · obtain ⟨i, fs, rfl, h0, h1⟩ := hx d hd
      exact e_eq (e_and (e_cB rfl B.isinstance boot_isinstance (a_cons (ev 1 rfl) (a_cons (e_gref rfl (Er.g 0 _ rfl)) a_nil)) (by first | exact ca_isV (Er.k _ (by omega)) (Er.is _ _ (by omega) (by omega) (by decide)) | exact ca_isVT (Er.k _ (by omega)) (Er.isV _ (by omega)))) (fun _ => (e_one (e_cB rfl B.isinstance boot_isinstance (a_cons (ev 1 rfl) (a_cons (e_gty rfl B.ValueError boot_ValueError) a_nil)) (by first | exact ca_isV (Er.k _ (by omega)) (Er.is _ _ (by omega) (by omega) (by decide)) | exact ca_isVT (Er.k _ (by omega)) (Er.isV _ (by omega))))))) (by simp) rfl
    ) (by rw [all_rep]) rfl rfl
/-! ### the exceptions without fields -/
def plainL (C : Nat → Addr) : List D := (List.range 19).map fun j => .exc (C (j + 1)) []
def CPlain (C : Nat → Addr) : Con := fun ds M o M' => ds = [] ∧ o = .val (.lst (plainL C)) ∧ M' = M
def CWorded (C : Nat → Addr) : Con := fun ds M o M' => ∃ x : Str, ds = [.str x] ∧ o = .val (.lst (plainL C)) ∧ M' = M
theorem sc_law_plain : FnScope ["_law_found"] [] (defScope (top 36)) := ⟨rfl, rfl, rfl, by decide +kernel, rfl, by decide +kernel, by decide +kernel⟩
theorem ok_plain (F : FnT K "_law_plain" (top 36) f fd) (g : mg "_law_plain" = some (.ref f)) (B : Bi mg) (Er : Errs P K mg C) : FnH P w K T mg base "_law_plain" 1 0 (CPlain C) := by
  refine fnH F g sc_law_plain rfl (fun _ _ _ _ _ _ _ us hl => match us, hl with | [], _ => rfl) fun cdv A outer s H E ds M o M' hr hn hM hds hC => ?_
  obtain ⟨rfl, rfl, rfl⟩ := hC
  refine ⟨Nat.le_refl _, hM, ?_⟩
  refine out_rt (by
    refine b_cons (s_asg (e_dat (f_lst (a_cons (e_exc0 (Er.e0 1 _ (by decide) rfl) rfl) (a_cons (e_exc0 (Er.e0 2 _ (by decide) rfl) rfl) (a_cons (e_exc0 (Er.e0 3 _ (by decide) rfl) rfl) (a_cons (e_exc0 (Er.e0 4 _ (by decide) rfl) rfl) (a_cons (e_exc0 (Er.e0 5 _ (by decide) rfl) rfl) (a_cons (e_exc0 (Er.e0 6 _ (by decide) rfl) rfl) (a_cons (e_exc0 (Er.e0 7 _ (by decide) rfl) rfl) (a_cons (e_exc0 (Er.e0 8 _ (by decide) rfl) rfl) (a_cons (e_exc0 (Er.e0 9 _ (by decide) rfl) rfl) a_nil))))))))) (by walk_at "sz"))) (gv 0 sc_law_plain.nd)) ?_
    refine b_cons (s_asg (e_dat (f_bin (ev 0 rfl) (e_dat (f_lst (a_cons (e_exc0 (Er.e0 10 _ (by decide) rfl) rfl) (a_cons (e_exc0 (Er.e0 11 _ (by decide) rfl) rfl) (a_cons (e_exc0 (Er.e0 12 _ (by decide) rfl) rfl) (a_cons (e_exc0 (Er.e0 13 _ (by decide) rfl) rfl) (a_cons (e_exc0 (Er.e0 14 _ (by decide) rfl) rfl) (a_cons (e_exc0 (Er.e0 15 _ (by decide) rfl) rfl) (a_cons (e_exc0 (Er.e0 16 _ (by decide) rfl) rfl) (a_cons (e_exc0 (Er.e0 17 _ (by decide) rfl) rfl) a_nil)))))))) (by walk_at "sz"))) (by walk_at "bf"))) (gv 0 sc_law_plain.nd)) ?_
    exact b_end (s_ret (e_dat (f_bin (ev 0 rfl) (e_dat (f_lst (a_cons (e_exc0 (Er.e0 18 _ (by decide) rfl) rfl) (a_cons (e_exc0 (Er.e0 19 _ (by decide) rfl) rfl) a_nil)) (by walk_at "sz"))) (by walk_at "bf")))) trivial
    ) rfl rfl rfl
theorem sc_law_worded : FnScope ["_law_text", "_law_found"] ["_law_text"] (defScope (top 37)) := ⟨rfl, rfl, rfl, by decide +kernel, rfl, by decide +kernel, by decide +kernel⟩
theorem ok_worded (F : FnT K "_law_worded" (top 37) f fd) (g : mg "_law_worded" = some (.ref f)) (B : Bi mg) (Er : Errs P K mg C) : FnH P w K T mg base "_law_worded" 1 1 (CWorded C) := by
  refine fnH F g sc_law_worded rfl (fun _ _ _ _ _ _ _ us hl => match us, hl with | [_], _ => rfl) fun cdv A outer s H E ds M o M' hr hn hM hds hC => ?_
  obtain ⟨x, rfl, rfl, rfl⟩ := hC
  refine ⟨Nat.le_refl _, hM, ?_⟩
  refine out_rt (by
    refine b_cons (s_asg (e_dat (f_lst (a_cons (e_exc1 (Er.e0 1 _ (by decide) rfl) rfl (ev 0 rfl)) (a_cons (e_exc1 (Er.e0 2 _ (by decide) rfl) rfl (ev 0 rfl)) (a_cons (e_exc1 (Er.e0 3 _ (by decide) rfl) rfl (ev 0 rfl)) (a_cons (e_exc1 (Er.e0 4 _ (by decide) rfl) rfl (ev 0 rfl)) (a_cons (e_exc1 (Er.e0 5 _ (by decide) rfl) rfl (ev 0 rfl)) (a_cons (e_exc1 (Er.e0 6 _ (by decide) rfl) rfl (ev 0 rfl)) (a_cons (e_exc1 (Er.e0 7 _ (by decide) rfl) rfl (ev 0 rfl)) a_nil))))))) (by walk_at "sz"))) (gv 1 sc_law_worded.nd)) ?_
    refine b_cons (s_asg (e_dat (f_bin (ev 1 rfl) (e_dat (f_lst (a_cons (e_exc1 (Er.e0 8 _ (by decide) rfl) rfl (ev 0 rfl)) (a_cons (e_exc1 (Er.e0 9 _ (by decide) rfl) rfl (ev 0 rfl)) (a_cons (e_exc1 (Er.e0 10 _ (by decide) rfl) rfl (ev 0 rfl)) (a_cons (e_exc1 (Er.e0 11 _ (by decide) rfl) rfl (ev 0 rfl)) (a_cons (e_exc1 (Er.e0 12 _ (by decide) rfl) rfl (ev 0 rfl)) (a_cons (e_exc1 (Er.e0 13 _ (by decide) rfl) rfl (ev 0 rfl)) a_nil)))))) (by walk_at "sz"))) (by walk_at "bf"))) (gv 1 sc_law_worded.nd)) ?_
    refine b_cons (s_asg (e_dat (f_bin (ev 1 rfl) (e_dat (f_lst (a_cons (e_exc1 (Er.e0 14 _ (by decide) rfl) rfl (ev 0 rfl)) (a_cons (e_exc1 (Er.e0 15 _ (by decide) rfl) rfl (ev 0 rfl)) (a_cons (e_exc1 (Er.e0 16 _ (by decide) rfl) rfl (ev 0 rfl)) (a_cons (e_exc1 (Er.e0 17 _ (by decide) rfl) rfl (ev 0 rfl)) (a_cons (e_exc1 (Er.e0 18 _ (by decide) rfl) rfl (ev 0 rfl)) a_nil))))) (by walk_at "sz"))) (by walk_at "bf"))) (gv 1 sc_law_worded.nd)) ?_
    exact b_end (s_ret (e_dat (f_bin (ev 1 rfl) (e_dat (f_lst (a_cons (e_exc1 (Er.e0 19 _ (by decide) rfl) rfl (ev 0 rfl)) a_nil) (by walk_at "sz"))) (by walk_at "bf")))) trivial
    ) rfl rfl rfl
/-! ### the fields -/
def frQ (a b : Int) : PyData := .list [.int a, .int b, .int a, .int b, .tuple [.int a, .int b], .tuple [.int a, .int b, .int 7], .int a, .int b]
theorem frQ_sml {a b : Int} (ha : a.natAbs < 10 ^ 100) (hb : b.natAbs < 10 ^ 100) : sml (frQ a b) = true := by
  have h1 : sml (.int a) = true := decide_eq_true ha
  have h2 : sml (.int b) = true := decide_eq_true hb
  have h3 : sml (.int 7) = true := by decide
  simp [frQ, sml, smlL]
  exact ⟨ha, hb, ha, hb, ha, hb⟩
def excs (C : Nat → Addr) (a b : Int) : List D := [.exc (C 20) [("key", .int a)], .exc (C 21) [("key", .int b)], .exc (C 22) [("many", .int a), ("most", .int b)], .exc (C 23) [("pair", .tup [.int a, .int b])], .exc (C 24) [("ring", .tup [.int a, .int b, .int 7])], .exc (C 25) [("row", .int a), ("holder", .int b)]]
def excWs : List Str := ["twice", "held", "many", "competing", "ringed", "collision"]
def CFields : Con := fun ds M o M' => ∃ a b : Int, ds = [.int a, .int b] ∧ a.natAbs < 10 ^ 100 ∧ b.natAbs < 10 ^ 100 ∧ o = .val (.bl true) ∧ M' = M
theorem excs_err {a b : Int} : ∀ d ∈ excs C a b, IsErr C d := by
  intro d hd
  simp only [excs, List.mem_cons, List.not_mem_nil, or_false] at hd
  rcases hd with rfl | rfl | rfl | rfl | rfl | rfl
  · exact ⟨20, _, rfl, by decide, by decide⟩
  · exact ⟨21, _, rfl, by decide, by decide⟩
  · exact ⟨22, _, rfl, by decide, by decide⟩
  · exact ⟨23, _, rfl, by decide, by decide⟩
  · exact ⟨24, _, rfl, by decide, by decide⟩
  · exact ⟨25, _, rfl, by decide, by decide⟩
theorem excs_word {a b : Int} {M : List Ce} : ∀ (i : Nat) (d v : D), (excs C a b)[i]? = some d → (excWs.map D.str)[i]? = some v → CWord C [d] M (.val v) M := by
  intro i d v h1 h2
  match i, h1, h2 with
  | 0, h1, h2 => cases h1; cases h2; exact ⟨20, _, _, rfl, by decide, by decide, rfl, rfl, rfl⟩
  | 1, h1, h2 => cases h1; cases h2; exact ⟨21, _, _, rfl, by decide, by decide, rfl, rfl, rfl⟩
  | 2, h1, h2 => cases h1; cases h2; exact ⟨22, _, _, rfl, by decide, by decide, rfl, rfl, rfl⟩
  | 3, h1, h2 => cases h1; cases h2; exact ⟨23, _, _, rfl, by decide, by decide, rfl, rfl, rfl⟩
  | 4, h1, h2 => cases h1; cases h2; exact ⟨24, _, _, rfl, by decide, by decide, rfl, rfl, rfl⟩
  | 5, h1, h2 => cases h1; cases h2; exact ⟨25, _, _, rfl, by decide, by decide, rfl, rfl, rfl⟩
  | n + 6, h1, h2 => cases h1
theorem sc_law_fields_right : FnScope ["_law_one", "_law_other", "_law_some", "_law_told", "_law_words", "_law_e"] ["_law_one", "_law_other"] (defScope (top 34)) := ⟨rfl, rfl, rfl, by decide +kernel, rfl, by decide +kernel, by decide +kernel⟩
theorem ok_fields (F : FnT K "_law_fields_right" (top 34) f fd) (g : mg "_law_fields_right" = some (.ref f)) (B : Bi mg) (Er : Errs P K mg C) (h__law_word : FnH P w K T mg base "_law_word" 1 1 (CWord C)) (h__law_are_errors : FnH P w K T mg base "_law_are_errors" 1 1 (CErrs C)) : FnR P w K T mg base "_law_fields_right" 2 2 CFields := by
  refine fnR F g sc_law_fields_right rfl (fun _ _ _ _ _ _ _ us hl => match us, hl with | [_, _], _ => rfl) fun cdv A outer s H E ds M o M' hG hr hn hM hds hC => ?_
  obtain ⟨a, b, rfl, ha, hb, rfl, rfl⟩ := hC
  refine ⟨Nat.le_refl _, hM, ?_⟩
  have hu : (A.deeper (envOfC "_law_fields_right" (defScope (top 34)) s.heap.objs.size f cdv)).units + 65 < cLine := by have := hr.un; omega
  have hs := frQ_sml ha hb
  refine out_rtG (by
    refine b_cons (s_asg (e_cel (f_lst (a_cons (e_excI (Er.eI 0 _ _ rfl rfl) hr rfl (a_cons (ev 0 rfl) a_nil)) (a_cons (e_excI (Er.eI 1 _ _ rfl rfl) hr rfl (a_cons (ev 1 rfl) a_nil)) (a_cons (e_excI (Er.eI 2 _ _ rfl rfl) hr rfl (a_cons (ev 0 rfl) (a_cons (ev 1 rfl) a_nil))) (a_cons (e_excI (Er.eI 3 _ _ rfl rfl) hr rfl (a_cons (e_tup (a_cons (ev 0 rfl) (a_cons (ev 1 rfl) a_nil)) (by walk_at "sz")) a_nil)) (a_cons (e_excI (Er.eI 4 _ _ rfl rfl) hr rfl (a_cons (e_tup (a_cons (ev 0 rfl) (a_cons (ev 1 rfl) (a_cons e_int a_nil))) (by walk_at "sz")) a_nil)) a_nil))))) (by walk_at "sz"))) (gv 2 sc_law_fields_right.nd)) ?_
    refine b_cons (s_expr (e_bm PySem.F.plainAttrs_list PySem.F.slot_list_append (by kernel_rfl) (ev 2 rfl) (by walk_at "ty") (a_cons (e_excI (Er.eI 5 _ _ rfl rfl) hr rfl (a_cons (ev 0 rfl) (a_cons (ev 1 rfl) a_nil))) a_nil) (by walk_at "m:append"))) ?_
    refine b_cons (s_asg (e_dat (f_lst (a_cons (e_xat (e_sub (ev 2 rfl) e_int (by walk_at "sb")) (by exact Er.k _ (by decide)) (by first | exact Er.no 0 rfl rfl (by decide) | exact Er.no 1 rfl rfl (by decide) | exact Er.no 2 rfl rfl (by decide) | exact Er.no 3 rfl rfl (by decide) | exact Er.no 4 rfl rfl (by decide) | exact Er.no 5 rfl rfl (by decide)) (by rfl)) (a_cons (e_xat (e_sub (ev 2 rfl) e_int (by walk_at "sb")) (by exact Er.k _ (by decide)) (by first | exact Er.no 0 rfl rfl (by decide) | exact Er.no 1 rfl rfl (by decide) | exact Er.no 2 rfl rfl (by decide) | exact Er.no 3 rfl rfl (by decide) | exact Er.no 4 rfl rfl (by decide) | exact Er.no 5 rfl rfl (by decide)) (by rfl)) (a_cons (e_xat (e_sub (ev 2 rfl) e_int (by walk_at "sb")) (by exact Er.k _ (by decide)) (by first | exact Er.no 0 rfl rfl (by decide) | exact Er.no 1 rfl rfl (by decide) | exact Er.no 2 rfl rfl (by decide) | exact Er.no 3 rfl rfl (by decide) | exact Er.no 4 rfl rfl (by decide) | exact Er.no 5 rfl rfl (by decide)) (by rfl)) (a_cons (e_xat (e_sub (ev 2 rfl) e_int (by walk_at "sb")) (by exact Er.k _ (by decide)) (by first | exact Er.no 0 rfl rfl (by decide) | exact Er.no 1 rfl rfl (by decide) | exact Er.no 2 rfl rfl (by decide) | exact Er.no 3 rfl rfl (by decide) | exact Er.no 4 rfl rfl (by decide) | exact Er.no 5 rfl rfl (by decide)) (by rfl)) (a_cons (e_xat (e_sub (ev 2 rfl) e_int (by walk_at "sb")) (by exact Er.k _ (by decide)) (by first | exact Er.no 0 rfl rfl (by decide) | exact Er.no 1 rfl rfl (by decide) | exact Er.no 2 rfl rfl (by decide) | exact Er.no 3 rfl rfl (by decide) | exact Er.no 4 rfl rfl (by decide) | exact Er.no 5 rfl rfl (by decide)) (by rfl)) (a_cons (e_xat (e_sub (ev 2 rfl) e_int (by walk_at "sb")) (by exact Er.k _ (by decide)) (by first | exact Er.no 0 rfl rfl (by decide) | exact Er.no 1 rfl rfl (by decide) | exact Er.no 2 rfl rfl (by decide) | exact Er.no 3 rfl rfl (by decide) | exact Er.no 4 rfl rfl (by decide) | exact Er.no 5 rfl rfl (by decide)) (by rfl)) (a_cons (e_xat (e_sub (ev 2 rfl) e_int (by walk_at "sb")) (by exact Er.k _ (by decide)) (by first | exact Er.no 0 rfl rfl (by decide) | exact Er.no 1 rfl rfl (by decide) | exact Er.no 2 rfl rfl (by decide) | exact Er.no 3 rfl rfl (by decide) | exact Er.no 4 rfl rfl (by decide) | exact Er.no 5 rfl rfl (by decide)) (by rfl)) a_nil))))))) (by walk_at "sz"))) (gv 3 sc_law_fields_right.nd)) ?_
    refine b_cons (s_if (z := false) (t_cm (nomark _) (e_cB rfl B.repr boot_repr (a_cons (e_dat (f_bin (ev 3 rfl) (e_dat (f_lst (a_cons (e_xat (e_sub (ev 2 rfl) e_int (by walk_at "sb")) (by exact Er.k _ (by decide)) (by first | exact Er.no 0 rfl rfl (by decide) | exact Er.no 1 rfl rfl (by decide) | exact Er.no 2 rfl rfl (by decide) | exact Er.no 3 rfl rfl (by decide) | exact Er.no 4 rfl rfl (by decide) | exact Er.no 5 rfl rfl (by decide)) (by rfl)) a_nil) (by walk_at "sz"))) (by walk_at "bf"))) a_nil) (ca_reprS (q := frQ a b) hG hu (.dat rfl) (.inl ⟨_, rfl⟩) hs (Nat.le_of_ble_eq_true rfl) (Nat.le_of_ble_eq_true rfl))) (e_cB rfl B.repr boot_repr (a_cons (e_dat (f_lst (a_cons (ev 0 rfl) (a_cons (ev 1 rfl) (a_cons (ev 0 rfl) (a_cons (ev 1 rfl) (a_cons (e_tup (a_cons (ev 0 rfl) (a_cons (ev 1 rfl) a_nil)) (by walk_at "sz")) (a_cons (e_tup (a_cons (ev 0 rfl) (a_cons (ev 1 rfl) (a_cons e_int a_nil))) (by walk_at "sz")) (a_cons (ev 0 rfl) (a_cons (ev 1 rfl) a_nil)))))))) (by walk_at "sz"))) a_nil) (ca_reprS (q := frQ a b) hG hu (.dat rfl) (.inl ⟨_, rfl⟩) hs (Nat.le_of_ble_eq_true rfl) (Nat.le_of_ble_eq_true rfl))) (cm_z cm_neS (by simp))) (fun z => nomatch z) (fun _ => b_nil)) ?_
    refine b_cons (s_lcx (i := 4) (own := [("_law_e", 5)]) (excWs.map D.str) (fun d => [some (.int a), some (.int b), some (.cel M'.length), some _, none, some d]) rfl sc_law_fields_right.nd rfl rfl (Nat.le_of_ble_eq_true rfl) (by kernel_rfl) (i_cel (ds := excs C a b) (ev 2 rfl) (by walk_at "cell")) (blk_ok (by kernel_rfl)) rfl (Nat.le_of_ble_eq_true rfl) (by simp) (fun _ => ?_) rfl (fun d g _ s H C cl fp => gwv 5 sc_law_fields_right.nd) (fun i d v g h1 h2 s H C' cl fp => e_cf h__law_word (hr.mono (by decide)) rfl (a_cons (ev 5 rfl) a_nil) (excs_word i d v h1 h2)) (hkc := fun k hk => by cases hk; walk_at "cell")) ?_
    · exact (hM.app (by intro c hc; rw [List.mem_singleton] at hc; subst hc; rfl)).set rfl
    · exact b_end (s_ret (e_and (e_cm (nomark _) (ev 4 rfl) (e_dat (f_lst (a_cons e_str (a_cons e_str (a_cons e_str (a_cons e_str (a_cons e_str (a_cons e_str a_nil)))))) (by walk_at "sz"))) (cm_eqD (z := true) (Nat.lt_of_succ_lt hu) (.dat rfl) (.dat rfl) (by decide +kernel) (by decide +kernel) (by decide +kernel))) (fun _ => e_one (e_cf h__law_are_errors (hr.mono (by decide)) rfl (a_cons (ev 2 rfl) a_nil) ⟨_, excs C a b, rfl, .c (by walk_at "cell"), Nat.le_of_ble_eq_true rfl, excs_err, rfl, rfl⟩)))) trivial
    ) (by rfl) (by rw [set_app]) rfl
end
end Lw
open PySem PySem.Spec PyProof.Rows L2 LamX Bs
local macro_rules | `(tactic| walk_at "bn") => `(tactic| first | exact bn_add | exact bn_sub | (refine bn_mul' ?_; first | exact .inl ⟨by decide, by decide⟩ | exact .inr ⟨by decide, by decide⟩ | exact .inl ⟨by omega, by omega⟩ | exact .inr ⟨by omega, by omega⟩) | (refine bn_mod ?_; first | decide | omega | assumption) | (refine bn_div' ?_ ?_ <;> first | decide | omega) | (refine bn_div ?_; assumption) | (refine bn_pow ⟨?_, ?_, ?_⟩ <;> decide))
local macro_rules | `(tactic| walk_at "cm") => `(tactic| first | exact cm_lt | exact cm_le | exact cm_gt | exact cm_ge | exact cm_eqI | exact cm_neI | exact cm_eqS | exact cm_neS | (refine cm_z cm_lt ?_; first | exact decide_eq_true (by omega) | exact decide_eq_false (by omega)) | (refine cm_z cm_le ?_; first | exact decide_eq_true (by omega) | exact decide_eq_false (by omega)) | (refine cm_z cm_gt ?_; first | exact decide_eq_true (by omega) | exact decide_eq_false (by omega)) | (refine cm_z cm_ge ?_; first | exact decide_eq_true (by omega) | exact decide_eq_false (by omega)) | (refine cm_z cm_eqI ?_; first | exact decide_eq_true (by omega) | exact decide_eq_false (by omega)))
local macro_rules | `(tactic| walk_at "cell") => `(tactic| first | assumption | exact get_app | (rw [set_app]; exact get_app) | exact get_app_lt (by assumption) | exact List.getElem?_set_self (by first | assumption | (simp only [List.length_set]; assumption)) | exact rfl)
local macro_rules | `(tactic| walk_at "sb") => `(tactic| first | exact sb_T rfl | (refine' sb_L (.c (by walk_at "cell")) ?kq; (case kq => exact rfl)) | exact sb_L .d rfl | (refine sb_L .d ?_; assumption) | (refine sb_T ?_; assumption) | (refine sb_S ?_; assumption))
local macro_rules | `(tactic| walk_at "ca") => `(tactic| first | exact ca_int | exact ca_max2 rfl | exact ca_min2 rfl | exact ca_abs | exact ca_lenT | exact ca_lenS | exact ca_lenL .d | exact ca_intB | exact ca_lenL (.c (by walk_at "cell")))
local macro_rules | `(tactic| walk_at "sz") => `(tactic| first | exact Nat.le_of_ble_eq_true rfl | decide | (simp only [List.length_cons, List.length_nil, List.length_map, List.length_append]; omega))
local macro_rules | `(tactic| walk_at "bf") => `(tactic| (refine bf_cat .d .d ?_; walk_at "sz"))
local macro_rules | `(tactic| walk_at "ty") => `(tactic| first | exact .l .d | exact .l (.c (by walk_at "cell")))
local macro_rules | `(tactic| walk_at "bz") => `(tactic| first | rfl | assumption | decide)
local macro_rules | `(tactic| walk_at "m:append") => `(tactic| (refine' mt_app (by walk_at "cell") ?kq; (case kq => walk_at "sz")))
namespace Lw
local macro_rules | `(tactic| walk_at "c:_law_draw") => `(tactic| exact c_draw (by walk_at "cell") (by decide) (by decide))
local macro_rules | `(tactic| walk_at "c:_law_pick") => `(tactic| (refine c_pick (by walk_at "cell") (by walk_at "sz") (by walk_at "sz") ?_; assumption))
local macro_rules | `(tactic| walk_at "c:_law_cell_at") => `(tactic| exact ⟨_, 0, rfl, rfl, rfl⟩)
/-! ### the law -/
def CLaw : Con := fun ds M o M' => ∃ ns : List Int, ds = [.scr ns] ∧ o = .val (.bl true) ∧ M' = M
def lawW : List Str := ["row", "table", "key", "keys", "rows", "order", "rule", "integer", "scan", "bound", "formula", "deed", "text", "bytes", "line", "missing", "impossible", "large", "nothing"]
def penF (c : Int) : Pen := (keyNx (keyNx (penOf c))).nxt 3
section
variable {P : Program} {w : World} {K : PySem.W.Frag} {T : List (Addr × Str)} {mg : Str → Option Value} {base : Heap} {f : Addr} {fd : FuncData} {C : Nat → Addr}
theorem plain_err : ∀ d ∈ plainL C, IsErr C d := by
  intro d hd
  obtain ⟨j, hj, rfl⟩ := List.mem_map.mp hd
  rw [List.mem_range] at hj
  exact ⟨j + 1, _, rfl, by omega, by omega⟩
theorem plain_word {M : List Ce} : ∀ (i : Nat) (d v : D), (plainL C)[i]? = some d → (lawW.map D.str)[i]? = some v → CWord C [d] M (.val v) M := by
  intro i d v h1 h2
  have hi : i < 19 := by
    have := (List.getElem?_eq_some_iff.mp h1).1
    simpa [plainL] using this
  unfold plainL at h1
  rw [List.getElem?_map, List.getElem?_range hi] at h1
  cases h1
  have e : ∀ i, i < 19 → lawW[i]? = errWords[i]? := by decide
  rw [List.getElem?_map, e i hi] at h2
  cases h3 : errWords[i]? with
  | none =>
    rw [h3] at h2
    cases h2
  | some x =>
    rw [h3] at h2
    cases h2
    exact ⟨i + 1, [], x, rfl, by omega, by omega, h3, rfl, rfl⟩
def pickT : List D := [.str "", .str "a", .str "no such row"]
theorem pick_at (p : Pen) : ∃ x : Str, pickT[(p.dig pickT.length).toNat]? = some (.str x) := by
  have h0 := p.dig_lo (n := 3) (by decide)
  have h1 := p.dig_hi (n := 3) (by decide)
  show ∃ x : Str, pickT[(p.dig 3).toNat]? = some (.str x)
  have h2 : (p.dig 3).toNat < 3 := by omega
  generalize (p.dig 3).toNat = j at *
  rcases (show j = 0 ∨ j = 1 ∨ j = 2 by omega) with rfl | rfl | rfl
  · exact ⟨_, rfl⟩
  · exact ⟨_, rfl⟩
  · exact ⟨_, rfl⟩
def forBody : Stmt → List Stmt
  | .For _ _ b _ _ => b
  | _ => []
def cS (zs : List Int) : Nat → Option D
  | 0 => none
  | i + 1 => some (.int (zs.getD i 0))
def pS (n : Nat) : Nat → Option D
  | 0 => none
  | i + 1 => some (.cel (n + i))
def eS (C : Nat → Addr) : Nat → Option D
  | 0 => none
  | _ + 1 => some (.lst (plainL C))
def lawMs (M : List Ce) (zs : List Int) (i : Nat) : List Ce := M ++ (zs.take i).map fun c => (penF c).ce
theorem lawMs_len {M : List Ce} {zs : List Int} {i : Nat} (h : i ≤ zs.length) : (lawMs M zs i).length = M.length + i := by
  unfold lawMs
  rw [List.length_append, List.length_map, List.length_take, Nat.min_eq_left h]
theorem lawMs_succ {M : List Ce} {zs : List Int} {i : Nat} {c : Int} (h : zs[i]? = some c) : lawMs M zs (i + 1) = lawMs M zs i ++ [(penF c).ce] := by
  unfold lawMs
  rw [List.take_succ, h, List.append_assoc]
  simp
abbrev nv (ns : List Int) (c : Int) (o1 o2 : Option D) (o3 : Option D) : List (Option D) := [some (.scr ns), some (.lst (lawW.map D.str)), some (.int c), o1, o2, o3]
def iS (C : Nat → Addr) (o2 : Option D) : Nat → Option D
  | 0 => o2
  | _ + 1 => some (.lst (plainL C))
theorem small_key (p : Pen) : (keyOf p).natAbs < 10 ^ 100 := by
  have := key_le p
  omega
theorem sc_law : FnScope ["_law_script", "_law_words", "_law_cell", "_law_pen_here", "_law_some", "_law_e"] ["_law_script"] (defScope (top 38)) := ⟨rfl, rfl, rfl, by decide +kernel, rfl, by decide +kernel, by decide +kernel⟩
theorem turn_law {cdv : Value} {A : Around} {outer : List PySem.Env} {s : Shared} {H : Hp} {E : XK} (hG : A.guards = some []) (hr : Room 4 (A.deeper (envOfC "law" (defScope (top 38)) s.heap.objs.size f cdv))) (B : Bi mg) (Er : Errs P K mg C) (h__law_pen : FnH P w K T mg base "_law_pen" 1 1 CPen) (h__law_key : FnH P w K T mg base "_law_key" 4 1 CKey) (h__law_pick : FnH P w K T mg base "_law_pick" 3 2 CPick)
    (h__law_fields_right : FnR P w K T mg base "_law_fields_right" 2 2 CFields) (h__law_plain : FnH P w K T mg base "_law_plain" 1 0 (CPlain C)) (h__law_worded : FnH P w K T mg base "_law_worded" 1 1 (CWorded C)) (h__law_word : FnH P w K T mg base "_law_word" 1 1 (CWord C)) (h__law_are_errors : FnH P w K T mg base "_law_are_errors" 1 1 (CErrs C))
    (ns : List Int) (c : Int) (o1 o2 : Option D) (N : List Ce) : PSs (cxB P w K mg base ["_law_script", "_law_words", "_law_cell", "_law_pen_here", "_law_some", "_law_e"] "law" (defScope (top 38)) f cdv A outer s H E) (forBody ((defBody (top 38)).getD 2 (.Pass ⟨0, 0, 0, 0⟩))) (tS K T (fun cls d _ H => E cls d H) (nv ns c o1 o2 none) N (.nx (nv ns c (some (.cel N.length)) (some (.lst (plainL C))) none) (N ++ [(penF c).ce]))) := by
  have hu : (A.deeper (envOfC "law" (defScope (top 38)) s.heap.objs.size f cdv)).units + 65 < cLine := by have := hr.un; omega
  obtain ⟨x, hx⟩ := pick_at (keyNx (keyNx (penOf c)))
  refine b_cons (s_asg (e_cf h__law_pen (hr.mono (by decide)) rfl (a_cons (ev 2 rfl) a_nil) ⟨c, rfl, rfl, rfl⟩) (gv 3 sc_law.nd)) ?_
  refine b_cons (s_if (z := false) (t_eq (t_not (t_val (e_cr h__law_fields_right hG (hr.mono (by decide)) rfl (a_cons (e_cf h__law_key hr rfl (a_cons (ev 3 rfl) a_nil) ⟨N.length, penOf c, rfl, get_app, rfl, rfl⟩) (a_cons (e_cf h__law_key hr rfl (a_cons (ev 3 rfl) a_nil) ⟨N.length, keyNx (penOf c), rfl, by rw [set_app]; exact get_app, rfl, rfl⟩) a_nil)) ⟨_, _, rfl, small_key _, small_key _, rfl, rfl⟩))) rfl) (fun z => nomatch z) (fun _ => b_nil)) ?_
  refine b_one (s_for (ds := [.lst (plainL C), .lst (plainL C)]) (passes_of rfl) rfl (fun i => nv ns c (some (.cel N.length)) (iS C o2 i) none) (fun i => nv ns c (some (.cel N.length)) (some (.lst (plainL C))) none) (fun _ => N ++ [(penF c).ce]) (fun _ => N ++ [(penF c).ce]) (fun i => .nx (nv ns c (some (.cel N.length)) (iS C o2 (i + 1)) none) (N ++ [(penF c).ce]))
    (i_list (e_eq (e_dat (f_lst (a_cons (e_cf0 h__law_plain (hr.mono (by decide)) rfl ⟨rfl, rfl, rfl⟩) (a_cons (e_cf h__law_worded (hr.mono (by decide)) rfl (a_cons (e_cf h__law_pick (hr.mono (by decide)) rfl (a_cons (ev 3 rfl) (a_cons (e_dat (f_lst (a_cons e_str (a_cons e_str (a_cons e_str a_nil))) (by walk_at "sz"))) a_nil)) (c_pick (p := keyNx (keyNx (penOf c))) (xs := pickT) (by rw [set_app, set_app]; exact get_app) (by decide) (by decide) hx)) a_nil) ⟨_, rfl, rfl, rfl⟩) a_nil)) (by walk_at "sz"))) rfl (by rw [set_app, set_app, set_app]; rfl)))
    ?kqg 2 (Nat.le_refl _) ?kqb (.inl ⟨rfl, rfl⟩))
  case kqg =>
    intro i d hd
    have e : d = .lst (plainL C) := by
      match i, hd with
      | 0, hd => cases hd; rfl
      | 1, hd => cases hd; rfl
    subst e
    exact gv 4 sc_law.nd
  case kqb =>
    intro i hi
    refine ⟨.nx, b_one (s_if (z := false) (t_eq (t_w (w_or (t_cm (nomark _) (e_lcx (own := [("_law_e", 5)]) (lawW.map D.str) (fun d => nv ns c (some (.cel N.length)) (some (.lst (plainL C))) (some d)) rfl sc_law.nd (i_list (ev 4 rfl)) (blk_ok (by kernel_rfl)) rfl (Nat.le_of_ble_eq_true rfl) (Nat.le_refl _) id rfl (fun d g _ s H C cl fp => gwv 5 sc_law.nd) (fun i d v g h1 h2 s H C' cl fp => e_cf h__law_word (hr.mono (by decide)) rfl (a_cons (ev 5 rfl) a_nil) (plain_word i d v h1 h2))) (ev 1 rfl) (cm_neD (z := false) (Nat.lt_of_succ_lt hu) (.dat rfl) (.dat rfl) (by decide +kernel) (by decide +kernel) (by decide +kernel)))
      (fun _ => w_oneO (t_not (t_val (e_cf h__law_are_errors (hr.mono (by decide)) rfl (a_cons (ev 4 rfl) a_nil) ⟨_, plainL C, rfl, .d, Nat.le_of_ble_eq_true rfl, plain_err, rfl, rfl⟩)))) (fun _ => rfl))) rfl) (fun z => nomatch z) (fun _ => b_nil))⟩
theorem ok_law (F : FnT K "law" (top 38) f fd) (B : Bi mg) (Er : Errs P K mg C) (h__law_cell_at : FnH P w K T mg base "_law_cell_at" 1 2 CCell) (h__law_pen : FnH P w K T mg base "_law_pen" 1 1 CPen) (h__law_key : FnH P w K T mg base "_law_key" 4 1 CKey) (h__law_pick : FnH P w K T mg base "_law_pick" 3 2 CPick)
    (h__law_fields_right : FnR P w K T mg base "_law_fields_right" 2 2 CFields) (h__law_plain : FnH P w K T mg base "_law_plain" 1 0 (CPlain C)) (h__law_worded : FnH P w K T mg base "_law_worded" 1 1 (CWorded C)) (h__law_word : FnH P w K T mg base "_law_word" 1 1 (CWord C)) (h__law_are_errors : FnH P w K T mg base "_law_are_errors" 1 1 (CErrs C)) : FnK P w K mg base 5 f fd ["_law_script"] (spF K T 1 CLaw) := by
  refine fnRK F sc_law fun cdv A outer s H E ds M o M' hG hr hn hM hds hC => ?_
  obtain ⟨ns, rfl, rfl, rfl⟩ := hC
  refine ⟨Nat.le_refl _, hM, ?_⟩
  have hu : (A.deeper (envOfC "law" (defScope (top 38)) s.heap.objs.size f cdv)).units + 65 < cLine := by have := hr.un; omega
  obtain ⟨zs, hz⟩ : ∃ zs : List Int, [D.int (cellOf ns 0)] ++ cutD (ns.map D.int) (some 1) (some 3) = zs.map D.int := by
    refine ⟨cellOf ns 0 :: (ns.drop (HT.sIx (ns.map D.int).length 0 (some 1))).take (HT.sIx (ns.map D.int).length (ns.map D.int).length (some 3) - HT.sIx (ns.map D.int).length 0 (some 1)), ?_⟩
    unfold Bs.cutD
    rw [List.map_cons, List.map_take, List.map_drop]
    rfl
  have hzn : ([D.int (cellOf ns 0)] : List D).length + (Bs.cutD (ns.map D.int) (some 1) (some 3)).length ≤ 100000 := by
    have e1 : (Bs.cutD (ns.map D.int) (some 1) (some 3)).length ≤ 3 := by
      unfold Bs.cutD
      have h2 : HT.sIx (ns.map D.int).length (ns.map D.int).length (some 3) ≤ 3 := by
        rw [show (3 : Int) = ((3 : Nat) : Int) from rfl, HT.sIx_nat]
        exact Nat.min_le_left _ _
      rw [List.length_take]
      omega
    simp only [List.length_cons, List.length_nil]
    omega
  have hzl : (zs.map D.int).length = zs.length := List.length_map ..
  refine out_rtG (by
    refine b_cons (s_asg (e_dat (f_lst (a_cons e_str (a_cons e_str (a_cons e_str (a_cons e_str (a_cons e_str (a_cons e_str (a_cons e_str (a_cons e_str (a_cons e_str (a_cons e_str (a_cons e_str (a_cons e_str a_nil)))))))))))) (by walk_at "sz"))) (gv 1 sc_law.nd)) ?_
    refine b_cons (s_asg (e_dat (f_bin (ev 1 rfl) (e_dat (f_lst (a_cons e_str (a_cons e_str (a_cons e_str (a_cons e_str (a_cons e_str (a_cons e_str (a_cons e_str a_nil))))))) (by walk_at "sz"))) (by walk_at "bf"))) (gv 1 sc_law.nd)) ?_
    refine b_cons (s_for (passes_of rfl) rfl (fun i => [some (.scr ns), some (.lst (lawW.map D.str)), cS zs i, pS M'.length i, eS C i, none]) (fun i => [some (.scr ns), some (.lst (lawW.map D.str)), some (.int (zs.getD i 0)), pS M'.length i, eS C i, none]) (lawMs M' zs) (lawMs M' zs) (fun i => .nx [some (.scr ns), some (.lst (lawW.map D.str)), cS zs (i + 1), pS M'.length (i + 1), eS C (i + 1), none] (lawMs M' zs (i + 1)))
      (i_list (ds := zs.map D.int) ?kqi) ?kqg zs.length (Nat.le_of_eq hzl.symm) ?kqb (.inl ⟨hzl.symm, rfl⟩)) ?kqr
    case kqi =>
      have e0 : lawMs M' zs 0 = M' := by simp [lawMs]
      rw [e0, ← hz]
      exact e_dat (f_bin (e_dat (f_lst (a_cons (e_cf h__law_cell_at (hr.mono (by decide)) rfl (a_cons (ev 0 rfl) (a_cons e_int a_nil)) (by walk_at "c:_law_cell_at")) a_nil) (by walk_at "sz"))) (e_dat (f_sl (ev 0 rfl) (.at e_int) (.at e_int) .s)) (bf_cat .d .d hzn))
    case kqg =>
      intro i d hd
      rw [List.getElem?_map] at hd
      cases hc : zs[i]? with
      | none => rw [hc] at hd; cases hd
      | some c =>
        rw [hc] at hd
        cases hd
        have e : zs.getD i 0 = c := by rw [List.getD_eq_getElem?_getD, hc]; rfl
        rw [e]
        exact gv 2 sc_law.nd
    case kqb =>
      intro i hi
      refine ⟨.nx, ?_⟩
      have hc : zs[i]? = some zs[i] := List.getElem?_eq_getElem hi
      have e : zs.getD i 0 = zs[i] := by rw [List.getD_eq_getElem?_getD, hc]; rfl
      rw [← e] at hc
      have h := turn_law (P := P) (w := w) (T := T) (cdv := cdv) (outer := outer) (H := H) (E := E) hG hr B Er h__law_pen h__law_key h__law_pick h__law_fields_right h__law_plain h__law_worded h__law_word h__law_are_errors ns (zs.getD i 0) (pS M'.length i) (eS C i) (lawMs M' zs i)
      rw [← lawMs_succ hc, lawMs_len (Nat.le_of_lt hi)] at h
      exact h
    case kqr => exact b_end (s_ret e_bl) trivial
    ) (by rfl) (by rfl) rfl
end
end Lw
namespace Lw
open PySem PySem.Spec PyProof.Rows L2 LamX Bs
/-! ### the head -/
def dd (x : Str) (i : Nat) : He.DefD := ⟨(x, none), x, x, defArgs (top i), defBody (top i), defScope (top i), [], []⟩
def fnl : List He.DefD := [dd "_law_cell_at" 28, dd "_law_pen" 29, dd "_law_draw" 30, dd "_law_pick" 31, dd "_law_word" 32, dd "_law_key" 33, dd "_law_fields_right" 34, dd "_law_are_errors" 35, dd "_law_plain" 36, dd "_law_worded" 37, dd "law" 38]
def sd (x q : Str) (i : Nat) (fs : List Str) : SupD := ⟨x, q, defArgs (inClass (top i) 0), defBody (inClass (top i) 0), defScope (inClass (top i) 0), fs⟩
def spl : List SupD := [sd "Twice" "Twice.__init__" 21 ["key"], sd "Held" "Held.__init__" 22 ["key"], sd "TooMany" "TooMany.__init__" 23 ["many", "most"], sd "Competing" "Competing.__init__" 24 ["pair"], sd "Ringed" "Ringed.__init__" 25 ["ring"], sd "Collision" "Collision.__init__" 26 ["row", "holder"]]
def fal : List He.Fa := errNames.map He.Fa.glo ++ (["_law_cell_at", "_law_pen", "_law_draw", "_law_pick", "_law_word", "_law_key", "_law_fields_right", "_law_are_errors", "_law_plain", "_law_worded", "law"] : List Str).map He.Fa.glo ++ ((["int", "max", "min", "len", "abs", "range", "repr", "isinstance"] : List Str) ++ (["all", "any", "tuple", "list", "sorted", "set", "dict", "enumerate"] : List Str) ++ (["zip", "str", "bool", "sum", "super", "bytes", "ValueError", "TypeError"] : List Str)).map He.Fa.free
def fileL : Str := PySem.Challenge.pw_rowclash_k98_exceptions_by_hand.main.file
def exl (K : PySem.W.Frag) : Bool := errsB K && spl.all fun d => supOk K fileL d
abbrev R : PySem.W.OpenRow := PySem.W.OpenLaw.row PySem.Challenge.rw_rowclash_k98_exceptions_by_hand
abbrev hk : PySem.W.Hook := hookR 6 fal fnl spl [] exl
def ob (s : PySem.W.SharedT) : AlR := obsR 6 fal fnl spl [] exl (HandSHeadRun.getT s)
theorem ob_eq (s : PySem.W.SharedT) : ob s = hk.obs s.abs := obsR_eq (HandSHeadRun.getT_eq s)
def names : List Str := (["RowError", "NotRow", "NotTable", "NotKey", "NotKeys", "NotRows", "NotOrder", "NotRule", "NotInteger", "NotScan"] : List Str) ++ (["NotBound", "NotFormula", "NotDeed", "NotText", "NotBytes", "NotLine", "Missing", "Impossible", "TooLarge", "NothingDone"] : List Str) ++ (["Twice", "Held", "TooMany", "Competing", "Ringed", "Collision", "_law_cell_at", "_law_pen", "_law_draw", "_law_pick"] : List Str) ++ (["_law_word", "_law_key", "_law_fields_right", "_law_are_errors", "_law_plain", "_law_worded"] : List Str)
theorem run (w : World) : HandSHeadRun.RunEq R (PySem.W.view R.prog [38]) hk ob 20000 names w := by
  intro os
  kernel_rfl
end Lw
namespace Lw
open PySem PySem.Spec PyProof.Rows L2 LamX Bs
abbrev PR : Program := (PySem.Challenge.rw_rowclash_k98_exceptions_by_hand).prog
theorem st0 : SupT PR (sd "Twice" "Twice.__init__" 21 ["key"]) := ⟨by decide, by decide +kernel, ⟨_, _, _, _, _, _, _, _, _, rfl, .cons .nil, fun env => ⟨_, rfl⟩⟩, ⟨_, rfl, rfl⟩, fun _ _ _ _ _ _ _ us hl => match us, hl with | [_, _], _ => rfl, ⟨rfl, rfl, rfl, by decide +kernel, by decide +kernel, rfl, rfl⟩, by decide⟩
theorem st1 : SupT PR (sd "Held" "Held.__init__" 22 ["key"]) := ⟨by decide, by decide +kernel, ⟨_, _, _, _, _, _, _, _, _, rfl, .cons .nil, fun env => ⟨_, rfl⟩⟩, ⟨_, rfl, rfl⟩, fun _ _ _ _ _ _ _ us hl => match us, hl with | [_, _], _ => rfl, ⟨rfl, rfl, rfl, by decide +kernel, by decide +kernel, rfl, rfl⟩, by decide⟩
theorem st2 : SupT PR (sd "TooMany" "TooMany.__init__" 23 ["many", "most"]) := ⟨by decide, by decide +kernel, ⟨_, _, _, _, _, _, _, _, _, rfl, .cons (.cons .nil), fun env => ⟨_, rfl⟩⟩, ⟨_, rfl, rfl⟩, fun _ _ _ _ _ _ _ us hl => match us, hl with | [_, _, _], _ => rfl, ⟨rfl, rfl, rfl, by decide +kernel, by decide +kernel, rfl, rfl⟩, by decide⟩
theorem st3 : SupT PR (sd "Competing" "Competing.__init__" 24 ["pair"]) := ⟨by decide, by decide +kernel, ⟨_, _, _, _, _, _, _, _, _, rfl, .cons .nil, fun env => ⟨_, rfl⟩⟩, ⟨_, rfl, rfl⟩, fun _ _ _ _ _ _ _ us hl => match us, hl with | [_, _], _ => rfl, ⟨rfl, rfl, rfl, by decide +kernel, by decide +kernel, rfl, rfl⟩, by decide⟩
theorem st4 : SupT PR (sd "Ringed" "Ringed.__init__" 25 ["ring"]) := ⟨by decide, by decide +kernel, ⟨_, _, _, _, _, _, _, _, _, rfl, .cons .nil, fun env => ⟨_, rfl⟩⟩, ⟨_, rfl, rfl⟩, fun _ _ _ _ _ _ _ us hl => match us, hl with | [_, _], _ => rfl, ⟨rfl, rfl, rfl, by decide +kernel, by decide +kernel, rfl, rfl⟩, by decide⟩
theorem st5 : SupT PR (sd "Collision" "Collision.__init__" 26 ["row", "holder"]) := ⟨by decide, by decide +kernel, ⟨_, _, _, _, _, _, _, _, _, rfl, .cons (.cons .nil), fun env => ⟨_, rfl⟩⟩, ⟨_, rfl, rfl⟩, fun _ _ _ _ _ _ _ us hl => match us, hl with | [_, _, _], _ => rfl, ⟨rfl, rfl, rfl, by decide +kernel, by decide +kernel, rfl, rfl⟩, by decide⟩
section
variable {w : World} {K : PySem.W.Frag} {h : Heap} {mg : Str → Option Value}
theorem f_glo (X : K.In h) (G : h.Ns mainGlobals mg) (c : SaysR fal fnl spl [] exl h K) {x : Str} (hx : He.Fa.glo x ∈ fal) : mg x = some (.ref (He.ga K x)) := He.glo_ok X G (c.t.facts hx)
theorem f_free (X : K.In h) (G : h.Ns mainGlobals mg) (c : SaysR fal fnl spl [] exl h K) {x : Str} (hx : He.Fa.free x ∈ fal) : mg x = none := He.free_ok X G (c.t.facts hx)
theorem free_mem {x : Str} (h : x ∈ ((["int", "max", "min", "len", "abs", "range", "repr", "isinstance"] : List Str) ++ (["all", "any", "tuple", "list", "sorted", "set", "dict", "enumerate"] : List Str) ++ (["zip", "str", "bool", "sum", "super", "bytes", "ValueError", "TypeError"] : List Str))) : He.Fa.free x ∈ fal := List.mem_append_right _ (List.mem_map_of_mem h)
theorem fn_mem {x : Str} (h : x ∈ (["_law_cell_at", "_law_pen", "_law_draw", "_law_pick", "_law_word", "_law_key", "_law_fields_right", "_law_are_errors", "_law_plain", "_law_worded", "law"] : List Str)) : He.Fa.glo x ∈ fal := List.mem_append_left _ (List.mem_append_right _ (List.mem_map_of_mem h))
theorem bi (X : K.In h) (G : h.Ns mainGlobals mg) (c : SaysR fal fnl spl [] exl h K) : Bi mg := by
  constructor <;> exact f_free X G c (free_mem (by decide))
theorem errs (X : K.In h) (G : h.Ns mainGlobals mg) (c : SaysR fal fnl spl [] exl h K) : Errs PR K mg (cA K) := by
  obtain ⟨m1, m2⟩ := b2 c.more
  have sok : ∀ d ∈ spl, supOk K PR.main.file d = true := fun d hd => List.all_eq_true.mp m2 d hd
  refine errs_ok m1 (fun i x hx => ?_) (fun i x fs hx hf => ?_) (by decide)
  · have z := f_glo X G c (x := x) (List.mem_append_left _ (List.mem_append_left _ (List.mem_map_of_mem (List.mem_of_getElem? hx))))
    unfold cA
    rw [getD_of hx]
    exact z
  · match i, hx, hf with
    | 0, hx, hf => cases hx; cases hf; exact ⟨_, supOk_ok (c.sup _ (List.mem_of_getElem? (show spl[0]? = some _ from rfl))) (sok _ (List.mem_of_getElem? (show spl[0]? = some _ from rfl))) st0⟩
    | 1, hx, hf => cases hx; cases hf; exact ⟨_, supOk_ok (c.sup _ (List.mem_of_getElem? (show spl[1]? = some _ from rfl))) (sok _ (List.mem_of_getElem? (show spl[1]? = some _ from rfl))) st1⟩
    | 2, hx, hf => cases hx; cases hf; exact ⟨_, supOk_ok (c.sup _ (List.mem_of_getElem? (show spl[2]? = some _ from rfl))) (sok _ (List.mem_of_getElem? (show spl[2]? = some _ from rfl))) st2⟩
    | 3, hx, hf => cases hx; cases hf; exact ⟨_, supOk_ok (c.sup _ (List.mem_of_getElem? (show spl[3]? = some _ from rfl))) (sok _ (List.mem_of_getElem? (show spl[3]? = some _ from rfl))) st3⟩
    | 4, hx, hf => cases hx; cases hf; exact ⟨_, supOk_ok (c.sup _ (List.mem_of_getElem? (show spl[4]? = some _ from rfl))) (sok _ (List.mem_of_getElem? (show spl[4]? = some _ from rfl))) st4⟩
    | 5, hx, hf => cases hx; cases hf; exact ⟨_, supOk_ok (c.sup _ (List.mem_of_getElem? (show spl[5]? = some _ from rfl))) (sok _ (List.mem_of_getElem? (show spl[5]? = some _ from rfl))) st5⟩
    | n + 6, hx, hf => cases hf
theorem facts {f : Addr} (X : K.In h) (G : h.Ns mainGlobals mg) (hf : mg ("law" : Str) = some (.ref f)) (c : SaysR fal fnl spl [] exl h K) : ∃ fd : FuncData, (∀ (s : Shared) (v : Value), BindsTo s fd ⟨[v], []⟩ [("_law_script", v)]) ∧ ∀ base : Heap, FnK PR w K mg base 5 f fd ["_law_script"] (spF K [] 1 CLaw) := by
  have B := bi X G c
  have Er := errs X G c
  obtain ⟨fd0, F0⟩ := c.t.def_ 0 (d := dd "_law_cell_at" 28) rfl
  obtain ⟨fd1, F1⟩ := c.t.def_ 1 (d := dd "_law_pen" 29) rfl
  obtain ⟨fd2, F2⟩ := c.t.def_ 2 (d := dd "_law_draw" 30) rfl
  obtain ⟨fd3, F3⟩ := c.t.def_ 3 (d := dd "_law_pick" 31) rfl
  obtain ⟨fd4, F4⟩ := c.t.def_ 4 (d := dd "_law_word" 32) rfl
  obtain ⟨fd5, F5⟩ := c.t.def_ 5 (d := dd "_law_key" 33) rfl
  obtain ⟨fd6, F6⟩ := c.t.def_ 6 (d := dd "_law_fields_right" 34) rfl
  obtain ⟨fd7, F7⟩ := c.t.def_ 7 (d := dd "_law_are_errors" 35) rfl
  obtain ⟨fd8, F8⟩ := c.t.def_ 8 (d := dd "_law_plain" 36) rfl
  obtain ⟨fd9, F9⟩ := c.t.def_ 9 (d := dd "_law_worded" 37) rfl
  obtain ⟨fd, F⟩ := c.t.def_ 10 (d := dd "law" 38) rfl
  have gl : ∀ {x : Str}, x ∈ (["_law_cell_at", "_law_pen", "_law_draw", "_law_pick", "_law_word", "_law_key", "_law_fields_right", "_law_are_errors", "_law_plain", "_law_worded", "law"] : List Str) → mg x = some (.ref (He.ga K x)) := fun hx => f_glo X G c (fn_mem hx)
  have e := hf.symm.trans (gl (x := "law") (by decide))
  cases e
  have b := FunD.bindsA (ps := ["_law_script"]) F fun _ _ _ _ _ _ us hl => match us, hl with | [_], _ => rfl
  refine ⟨fd, fun s v => b s [v] rfl, fun base => ?_⟩
  have K2 := ok_draw (P := PR) (w := w) (T := []) (base := base) F2 (gl (by decide)) B
  have K3 := ok_pick F3 (gl (by decide)) B K2
  have K4 := ok_word (P := PR) (w := w) (T := []) (base := base) F4 (gl (by decide)) B Er
  have K7 := ok_errs (P := PR) (w := w) (T := []) (base := base) F7 (gl (by decide)) B Er
  exact ok_law F B Er (ok_cell F0 (gl (by decide)) B) (ok_pen F1 (gl (by decide)) B) (ok_key F5 (gl (by decide)) B K2 K3) K3 (ok_fields F6 (gl (by decide)) B Er K4 K7) (ok_plain F8 (gl (by decide)) B Er) (ok_worded F9 (gl (by decide)) B Er) K4 K7
end
end Lw
open PySem PySem.W PySem.Calls PyProof.Rows
theorem PySem.Challenge.cw_rowclash_k98_exceptions_by_hand_holds : PySem.Challenge.rw_rowclash_k98_exceptions_by_hand.Holds := by
  w_on; o_law
  refine HandSHeadRun.head_any (r := Lw.R) (q := view Lw.R.prog [38]) (H := Lw.hk) (ob := Lw.ob) (M := 20000) (loose := Lw.names) (d := HandSHeadRun.topDef Lw.R.prog 38) (kwd := []) Lw.ob_eq (by kernel_rfl) (fun s => by kernel_rfl) Lw.run (by kernel_rfl) (by kernel_rfl) (by kernel_rfl) (by rfl) (by first | assumption | decide +kernel) (by decide +kernel) ⟨rfl, rfl, rfl, rfl, rfl, by decide +kernel⟩ ?hw ?hc
  case hw => w_witness2
  case hc =>
    refine Bs.walk_R (l := PySem.Challenge.rw_rowclash_k98_exceptions_by_hand) (n := 63) (k := 5) (x := "_law_script") rfl (by decide) (by kernel_rfl) ⟨rfl, by decide, by decide⟩ ?F
    intro w mg fa h Y G hmg0
    obtain ⟨K, KX, c⟩ := Y
    have hmg : mg ("law" : PySem.Str) = some (.ref fa) := by
      have e : (HandSHeadRun.topDef Lw.R.prog 38).name = ("law" : PySem.Str) := by kernel_rfl
      rw [← e]
      exact hmg0
    obtain ⟨fd, hb, hF⟩ := Lw.facts (w := w) KX G hmg c
    refine ⟨K, fd, [], _, KX, (fun p hp => by cases hp), (fun p hp => by cases hp), (fun p hp => by cases hp), hb, fun H a ns hl _ _ hS => ?_, fun base _ _ _ => hF base⟩
    exact Bs.law_start hS ⟨ns, rfl, rfl, rfl⟩

